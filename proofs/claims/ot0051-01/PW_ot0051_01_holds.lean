import PyProof.Rows.All
import Wide.All
import OpenK.AllK
import Wide.FinOn
import KE.KRevSl
import KE.KBoundM
import KE.KIntText
import KE.KDictList
import KE.KPop
import PyProof.ExcBaseAll.Exception
import PyProof.InstStoreFacts
import PyProof.ExcArgs
import Lean
import PySem.Challenge.RW_ot0051_01
open PySem PySem.W PyProof.Rows
set_option Elab.async false
set_option tactic.hygienic false
set_option maxHeartbeats 0
set_option linter.unusedVariables false
set_option maxRecDepth 100000
set_option backward.match.sparseCases false
namespace Mine
local macro_rules | `(tactic| omega) => `(tactic| lia)
section
set_option tactic.hygienic true
theorem zA{tb:String->Option Builtin}{p:Program}{w:World}{Ls:Nat}{ann:Option Value}:∀{n:Nat}{s s':Shared}{t:Thread}{f:Flow}{c:Code}{q:Pos},
  segRun tb p w Ls ann 0 n s t=some (f,s',c,q)->topRun tb p w Ls ann n s t=some s':=by
 intro zz;induction zz with
 |zero=>
  intro _ _ _ _ _ _ h;cases h
 |succ n ih=>
  intro s s' b0 f c q h;obtain⟨cur,code,pos,stack⟩:=b0;unfold segRun at h;unfold topRun;cases he:endAt 0 ⟨cur,code,pos,stack⟩with
  |some x=>
   rw[he]at h;have ht:through ⟨cur,code,pos,stack⟩=true:=by
    unfold endAt at he;unfold through;split at he
    ·rename_i f' e1 e2
     dsimp only at e1 e2 ⊢;subst e2;cases stack with
     |nil=>rfl
     |cons a b=>simp at e1
    ·cases he
   rw[ht];cases h
   rfl
  |none=>
   rw[he]at h;have ht:through ⟨cur,code,pos,stack⟩=false:=by
    unfold endAt at he;unfold through;cases stack with
    |cons a b=>rfl
    |nil=>
     cases cur with
     |pure fin=>cases fin with
      |done f=>simp at he
      |again c=>rfl
     |_=>rfl
   rw[ht];cases hk:stepOk Ls ann ⟨cur,code,pos,stack⟩with
   |false=>rw[hk]at h;cases h
   |true=>
    rw[hk]at h;cases hs:step (denote tb) p w s ⟨cur,code,pos,stack⟩with
    |halt o aS=>rw[hs]at h;cases h
    |go aS t₁=>rw[hs]at h;exact ih h
noncomputable def wM(p q:Program)(loose:List Str)(Xt:Shared->Bool){α:Type}(YT:SharedT->α)(h₀:Heap)(s:SharedT):=
 ((staticsOk (importedModules p.main.body) h₀ s.abs.heap&&namesBound p s.abs.heap&&gensDone s.abs&&laidKept h₀ s.abs.heap),openSeen q loose (importedModules p.main.body) Xt true s.abs,YT s)
theorem wN{p q:Program}{loose:List Str}{Xt:Shared->Bool}{α:Type}{Yf:Shared->α}{YT:SharedT->α}{Ya:World->α}{N:Nat}{tw:Params->Heap}{Bx:Array GenState}{Lu:Drawn}{Lv:Nat}{Of:Nat}{ann:Option Value}
  (Og:World->OsState->SharedT) (hS:∀w os,(Og w os).abs=⟨tw w.params,Bx,Lu,Lv,os⟩)
  (WR:∀s:SharedT,Yf s.abs=YT s)
  (Oh:∀w:World,(fencedOpening treeTable p w N).map (λs=>(s.heap,s.gens,s.drawn,s.toks))=some (tw w.params,Bx,Lu,Lv))
  (size:∀w:World,((tw w.params).isNs mainGlobals&&Bx.size==0,(tw w.params).objs.size,(tw w.params).nsMap mainGlobals "__annotations__")=(true,Of,ann))
  (run:∀(w:World) (os:OsState),(segRunT treeTable p w Of ann 0 N (Og w os) (topStub p)).map (λx=>wM p q loose Xt YT (tw w.params) x.2.1)=some (true,openGood q loose,Ya w)):
  LeftO p q loose Xt Yf Ya N true:=λw=>by
 obtain⟨⟨h,gs,d,k,os⟩,e,e'⟩:=Option.map_eq_some_iff.mp (Oh w);obtain⟨rfl,rfl,rfl,rfl⟩:h=tw w.params∧gs=Bx∧d=Lu∧k=Lv:=by simpa using e'
 obtain⟨z1,z2,z3⟩:_∧_∧_:=by simpa only[Prod.mk.injEq]using size w
 obtain⟨⟨f,aS,c,ps⟩,r1,r2⟩:=Option.map_eq_some_iff.mp (run w os);have r:=zA (segRun_of r1);rw[hS]at r;unfold wM at r2;dsimp only at r2;rw[<-WR]at r2;obtain⟨l1,l2⟩:=Prod.mk.inj r2;have t:topFrom treeTable p w N ⟨tw w.params,gs,d,k,os⟩=some aS.abs:=by
  unfold topFrom;dsimp only;rw[z1,z2,z3,r];show(match staticsOk (importedModules p.main.body) (tw w.params) aS.abs.heap&&namesBound p aS.abs.heap&&gensDone aS.abs&&laidKept (tw w.params) aS.abs.heap with|true=>_|false=>_)=_;rw[l1]
 unfold openEnds;rw[e];show(topFrom treeTable p w N _).map _=_;rw[t];exact congrArg some l2
theorem Lw{P:World->Prop}(row:String)(h:∀(b:Bool) (w:World),P (w.withFollow row b))(w:World):P w:=by
 have:=h (w.params.followText row) w
 rwa [World.withFollow_self]at this
end
section
set_option tactic.hygienic true
noncomputable def Oi(P:Params):BT:=.node (boot_o_0 P) (.node (boot_o_1 P) (.node (boot_o_3 P) (.node (boot_o_7 P) .nil .nil) .nil) (.node (boot_o_5 P) (.node (boot_o_9 P) .nil .nil) .nil)) (.node (boot_o_2 P) (.node (boot_o_4 P) (.node (boot_o_8 P) .nil .nil) .nil) (.node (boot_o_6 P) (.node (boot_o_10 P) .nil .nil) .nil))
noncomputable def wO(w:World)(os:OsState):SharedT:=⟨Oi w.params,11,(boot_heap w.params).life,Array.mk [],boot_drawn,boot_toks,os⟩
theorem CG(w:World)(os:OsState):(wO w os).abs=⟨boot_heap w.params,Array.mk [],boot_drawn,boot_toks,os⟩:=by kernel_rfl
noncomputable def qv:Program:={ PySem.Challenge.pw_ot0051_01 with main:={ PySem.Challenge.pw_ot0051_01.main with body:=PySem.Challenge.pw_ot0051_01.main.body.drop 89 } }
noncomputable def kP:List Str:=(PySem.Challenge.pw_ot0051_01.main.scope.names.map (·.1)).filter (· != "law")
theorem Oj:∃d WT,defOf qv (Str.ofString "law")=some (d,WT):=⟨_,_,by rfl⟩
theorem Ol:∀w:World,(fencedOpening treeTable PySem.Challenge.pw_ot0051_01 w 13666).map (λs=>(s.heap,s.gens,s.drawn,s.toks))=some (boot_heap w.params,Array.mk [],boot_drawn,boot_toks):=
 boot_open (by kernel_rfl) (by rfl) (λs=>by kernel_rfl)
theorem Om:∀w:World,((boot_heap w.params).isNs mainGlobals&&(Array.mk []:Array GenState).size==0,(boot_heap w.params).objs.size,(boot_heap w.params).nsMap mainGlobals "__annotations__")=(true,11,some (.ref 6)):=λw=>by kernel_rfl
end
section
set_option genInjectivity false
set_option genSizeOf false
theorem bk{p1 p2 C:Prop}(h:p1∧p2)(k:p1->p2->C):C:=k h.1 h.2
theorem dw{p1 p2 p3 C:Prop}(h:p1∧p2∧p3)(k:p1->p2->p3->C):C:=k h.1 h.2.1 h.2.2
theorem gq{p1 p2 p3 p4 C:Prop}(h:p1∧p2∧p3∧p4)(k:p1->p2->p3->p4->C):C:=k h.1 h.2.1 h.2.2.1 h.2.2.2
theorem Ef{p1 p2 p3 p4 p5 C:Prop}(h:p1∧p2∧p3∧p4∧p5)(k:p1->p2->p3->p4->p5->C):C:=k h.1 h.2.1 h.2.2.1 h.2.2.2.1 h.2.2.2.2
theorem Eg{p1 p2 p3 p4 p5 p6 C:Prop}(h:p1∧p2∧p3∧p4∧p5∧p6)(k:p1->p2->p3->p4->p5->p6->C):C:=k h.1 h.2.1 h.2.2.1 h.2.2.2.1 h.2.2.2.2.1 h.2.2.2.2.2
theorem aV{kK:Type}{p1:kK->Prop}{C:Prop}(h:∃x1,p1 x1)(k:∀x1,p1 x1->C):C:=h.elim λx1 z=>k x1 z
theorem aI{kK:Type}{p1 p2:kK->Prop}{C:Prop}(h:∃x1,p1 x1∧p2 x1)(k:∀x1,p1 x1->p2 x1->C):C:=h.elim λx1 z=>k x1 z.1 z.2
theorem cm{kK:Type}{p1 p2 p3:kK->Prop}{C:Prop}(h:∃x1,p1 x1∧p2 x1∧p3 x1)(k:∀x1,p1 x1->p2 x1->p3 x1->C):C:=h.elim λx1 z=>k x1 z.1 z.2.1 z.2.2
theorem fq{kK:Type}{p1 p2 p3 p4:kK->Prop}{C:Prop}(h:∃x1,p1 x1∧p2 x1∧p3 x1∧p4 x1)(k:∀x1,p1 x1->p2 x1->p3 x1->p4 x1->C):C:=h.elim λx1 z=>k x1 z.1 z.2.1 z.2.2.1 z.2.2.2
theorem vk{kK:Type}{p1 p2 p3 p4 p5 p6:kK->Prop}{C:Prop}(h:∃x1,p1 x1∧p2 x1∧p3 x1∧p4 x1∧p5 x1∧p6 x1)(k:∀x1,p1 x1->p2 x1->p3 x1->p4 x1->p5 x1->p6 x1->C):C:=h.elim λx1 z=>k x1 z.1 z.2.1 z.2.2.1 z.2.2.2.1 z.2.2.2.2.1 z.2.2.2.2.2
theorem dA{kK:Type}{pj:Type}{p1:kK->pj->Prop}{C:Prop}(h:∃x1,∃x2,p1 x1 x2)(k:∀x1 x2,p1 x1 x2->C):C:=h.elim λx1 z=>z.elim λx2 z=>k x1 x2 z
theorem aO{kK:Type}{pj:Type}{p1 p2:kK->pj->Prop}{C:Prop}(h:∃x1,∃x2,p1 x1 x2∧p2 x1 x2)(k:∀x1 x2,p1 x1 x2->p2 x1 x2->C):C:=h.elim λx1 z=>z.elim λx2 z=>k x1 x2 z.1 z.2
theorem cn{kK:Type}{pj:Type}{p1 p2 p3:kK->pj->Prop}{C:Prop}(h:∃x1,∃x2,p1 x1 x2∧p2 x1 x2∧p3 x1 x2)(k:∀x1 x2,p1 x1 x2->p2 x1 x2->p3 x1 x2->C):C:=h.elim λx1 z=>z.elim λx2 z=>k x1 x2 z.1 z.2.1 z.2.2
theorem pk{kK:Type}{pj:Type}{p1 p2 p3 p4:kK->pj->Prop}{C:Prop}(h:∃x1,∃x2,p1 x1 x2∧p2 x1 x2∧p3 x1 x2∧p4 x1 x2)(k:∀x1 x2,p1 x1 x2->p2 x1 x2->p3 x1 x2->p4 x1 x2->C):C:=h.elim λx1 z=>z.elim λx2 z=>k x1 x2 z.1 z.2.1 z.2.2.1 z.2.2.2
theorem Lx{kK:Type}{pj:Type}{p1 p2 p3 p4 p5:kK->pj->Prop}{C:Prop}(h:∃x1,∃x2,p1 x1 x2∧p2 x1 x2∧p3 x1 x2∧p4 x1 x2∧p5 x1 x2)(k:∀x1 x2,p1 x1 x2->p2 x1 x2->p3 x1 x2->p4 x1 x2->p5 x1 x2->C):C:=h.elim λx1 z=>z.elim λx2 z=>k x1 x2 z.1 z.2.1 z.2.2.1 z.2.2.2.1 z.2.2.2.2
theorem Eh{kK:Type}{pj:Type}{wQ:Type}{p1:kK->pj->wQ->Prop}{C:Prop}(h:∃x1,∃x2,∃x3,p1 x1 x2 x3)(k:∀x1 x2 x3,p1 x1 x2 x3->C):C:=h.elim λx1 z=>z.elim λx2 z=>z.elim λx3 z=>k x1 x2 x3 z
theorem rI{kK:Type}{pj:Type}{wQ:Type}{p1 p2:kK->pj->wQ->Prop}{C:Prop}(h:∃x1,∃x2,∃x3,p1 x1 x2 x3∧p2 x1 x2 x3)(k:∀x1 x2 x3,p1 x1 x2 x3->p2 x1 x2 x3->C):C:=h.elim λx1 z=>z.elim λx2 z=>z.elim λx3 z=>k x1 x2 x3 z.1 z.2
theorem ft{kK:Type}{pj:Type}{wQ:Type}{p1 p2 p3:kK->pj->wQ->Prop}{C:Prop}(h:∃x1,∃x2,∃x3,p1 x1 x2 x3∧p2 x1 x2 x3∧p3 x1 x2 x3)(k:∀x1 x2 x3,p1 x1 x2 x3->p2 x1 x2 x3->p3 x1 x2 x3->C):C:=h.elim λx1 z=>z.elim λx2 z=>z.elim λx3 z=>k x1 x2 x3 z.1 z.2.1 z.2.2
theorem Ei{kK:Type}{pj:Type}{wQ:Type}{p1 p2 p3 p4:kK->pj->wQ->Prop}{C:Prop}(h:∃x1,∃x2,∃x3,p1 x1 x2 x3∧p2 x1 x2 x3∧p3 x1 x2 x3∧p4 x1 x2 x3)(k:∀x1 x2 x3,p1 x1 x2 x3->p2 x1 x2 x3->p3 x1 x2 x3->p4 x1 x2 x3->C):C:=h.elim λx1 z=>z.elim λx2 z=>z.elim λx3 z=>k x1 x2 x3 z.1 z.2.1 z.2.2.1 z.2.2.2
theorem Ly{kK:Type}{pj:Type}{wQ:Type}{HV:Type}{p1:kK->pj->wQ->HV->Prop}{C:Prop}(h:∃x1,∃x2,∃x3,∃x4,p1 x1 x2 x3 x4)(k:∀x1 x2 x3 x4,p1 x1 x2 x3 x4->C):C:=h.elim λx1 z=>z.elim λx2 z=>z.elim λx3 z=>z.elim λx4 z=>k x1 x2 x3 x4 z
theorem Lz{kK:Type}{pj:Type}{wQ:Type}{HV:Type}{p1 p2:kK->pj->wQ->HV->Prop}{C:Prop}(h:∃x1,∃x2,∃x3,∃x4,p1 x1 x2 x3 x4∧p2 x1 x2 x3 x4)(k:∀x1 x2 x3 x4,p1 x1 x2 x3 x4->p2 x1 x2 x3 x4->C):C:=h.elim λx1 z=>z.elim λx2 z=>z.elim λx3 z=>z.elim λx4 z=>k x1 x2 x3 x4 z.1 z.2
theorem vm{kK:Type}{pj:Type}{wQ:Type}{HV:Type}{p1 p2 p3:kK->pj->wQ->HV->Prop}{C:Prop}(h:∃x1,∃x2,∃x3,∃x4,p1 x1 x2 x3 x4∧p2 x1 x2 x3 x4∧p3 x1 x2 x3 x4)(k:∀x1 x2 x3 x4,p1 x1 x2 x3 x4->p2 x1 x2 x3 x4->p3 x1 x2 x3 x4->C):C:=h.elim λx1 z=>z.elim λx2 z=>z.elim λx3 z=>z.elim λx4 z=>k x1 x2 x3 x4 z.1 z.2.1 z.2.2
theorem LA{kK:Type}{pj:Type}{wQ:Type}{HV:Type}{So:Type}{p1:kK->pj->wQ->HV->So->Prop}{C:Prop}(h:∃x1,∃x2,∃x3,∃x4,∃x5,p1 x1 x2 x3 x4 x5)(k:∀x1 x2 x3 x4 x5,p1 x1 x2 x3 x4 x5->C):C:=h.elim λx1 z=>z.elim λx2 z=>z.elim λx3 z=>z.elim λx4 z=>z.elim λx5 z=>k x1 x2 x3 x4 x5 z
theorem LB{kK:Type}{pj:Type}{wQ:Type}{HV:Type}{So:Type}{p1 p2 p3 p4:kK->pj->wQ->HV->So->Prop}{C:Prop}(h:∃x1,∃x2,∃x3,∃x4,∃x5,p1 x1 x2 x3 x4 x5∧p2 x1 x2 x3 x4 x5∧p3 x1 x2 x3 x4 x5∧p4 x1 x2 x3 x4 x5)(k:∀x1 x2 x3 x4 x5,p1 x1 x2 x3 x4 x5->p2 x1 x2 x3 x4 x5->p3 x1 x2 x3 x4 x5->p4 x1 x2 x3 x4 x5->C):C:=h.elim λx1 z=>z.elim λx2 z=>z.elim λx3 z=>z.elim λx4 z=>z.elim λx5 z=>k x1 x2 x3 x4 x5 z.1 z.2.1 z.2.2.1 z.2.2.2
theorem dZ{a b C:Prop}(h:a∨b)(k:a->C)(l:b->C):C:=h.elim k l
theorem Ej{a b c C:Prop}(h:a∨b∨c)(k:a->C)(l:b->C)(m:c->C):C:=h.elim k λz=>z.elim l m
inductive ae where
 |none
 |bool (b:Bool)
 |int (i:Int)
 |str (s:String)
 |tup (vs:List ae)
 |ref (n:Nat)
 |top (a:Nat)
 |bi (v:Value)
 |cp (ks:List String) (vs:List ae)
 |nR (n:Nat)
 |kL (vs:List ae)
 |wR
 deriving Inhabited
inductive cT where
 |list (vs:List ae)
 |dict (ks:List ae) (vs:List ae)
 |inst (c:Nat) (d:Nat)
 |bg (ks:List ae) (vs:List ae)
structure AH where
 next:Nat
 get:Nat->Option cT
noncomputable def AH.set(H:AH)(n:Nat)(o:cT):AH:=⟨H.next,λk=>if k=n then some o else H.get k⟩
noncomputable def AH.new(H:AH)(o:cT):AH:=⟨H.next+1,λk=>if k=H.next then some o else H.get k⟩
inductive HO where|add|sub|mul|mod|fdiv|pow
inductive rh where|eq|ne|lt|le|gt|ge|is|eI|kg|pZ
set_option genCtorIdx false in
inductive aZ where
 |cst (v:ae)
 |loc (x:String)
 |glob (x:String) (v:ae)
 |tup (es:List aZ)
 |lst (es:List aZ)
 |lY (ks:List ae) (es:List aZ)
 |attr (e:aZ) (a:String)
 |sub (e i:aZ)
 |iZ (e:aZ) (n:Nat)
 |wU (e:aZ) (n:Nat)
 |p0 (e:aZ)
 |call (f:aZ) (es:List aZ)
 |aE (o:aZ) (a:String) (es:List aZ)
 |bin (op:HO) (a b:aZ)
 |cmp (a:aZ) (op:rh) (b:aZ)
 |qL (a:aZ) (op:rh) (b:aZ) (iB:rh) (c:aZ)
 |and (es:List aZ)
 |or (es:List aZ)
 |not (e:aZ)
 |neg (e:aZ)
 |ite (c a b:aZ)
 |comp (elt:aZ) (xs:List String) (single:Bool) (it:aZ)
 |dead
set_option genCtorIdx false in
inductive bD where
 |expr (e:aZ)
 |asg (x:String) (e:aZ)
 |pn (xs:List String) (e:aZ)
 |fj (xs:List String) (es:List aZ)
 |cV (o:aZ) (a:String) (e:aZ)
 |gS (o i e:aZ)
 |iff (c:aZ) (a b:List bD)
 |tx (c:aZ) (b:List bD)
 |tA (x:String) (it:aZ) (b:List bD)
 |wV (xs:List String) (it:aZ) (b:List bD)
 |ret (e:aZ)
 |zB
 |raise (c:Nat) (es:List aZ)
 |jE (c:Nat) (b:List bD)
 |gU (c:Nat) (b:List bD) (e2:aZ)
 |cont
 |dead
noncomputable abbrev Out(α:Type):=Option (Except Nat α×AH)
noncomputable abbrev dQ:=Nat->List ae->AH->Out ae
noncomputable abbrev Loc:=List (String×ae)
@[reducible] noncomputable def ok{α:Type}(a:α)(H:AH):Out α:=some (.ok a,H)
noncomputable def iz{α β:Type}(r:Out α)(f:α->AH->Out β):Out β:=match r with
 |some (.ok a,H)=>f a H
 |some (.error c,H)=>some (.error c,H)
 |none=>none
noncomputable def bc(x:String)(v:ae):Loc->Loc
 |[]=>[(x,v)]
 |(y,w)::r=>if x=y then(y,v)::r else(y,w)::bc x v r
noncomputable def aJ(x:String):Loc->Option ae
 |[]=>none
 |(y,w)::r=>if x=y then some w else aJ x r
theorem Sp{x:String}{v:ae}:bc x v []=[(x,v)]:=rfl
theorem rJ{x y:String}{v w:ae}{r:Loc}:bc x v ((y,w)::r)=if x=y then(y,v)::r else(y,w)::bc x v r:=rfl
theorem Sq{x:String}:aJ x []=none:=rfl
theorem gV{x y:String}{w:ae}{r:Loc}:aJ x ((y,w)::r)=if x=y then some w else aJ x r:=rfl
noncomputable def fk:List String->List ae->Loc->Option Loc
 |[],vs,l=>(match vs with
  |[]=>some l
  |_::_=>none)
 |x::xs,vs,l=>(match vs with
  |[]=>none
  |v::vs=>fk xs vs (bc x v l))
section
variable{α:Type}
theorem gl{G:Prop}(h:∀C:Prop,(G->C)->C):G:=h G id
theorem nn{r:α}:¬(none:Option α)=some r:=λh=>by cases h
theorem fX{C:Prop}{c:Prop}[Decidable c]{x:Option α}{r:α}(h:(if c then x else none)=some r)(k_:c->x=some r->C):C:=by
 by_cases q:c
 ·rw[if_pos q]at h;exact k_ q h
 ·rw[if_neg q]at h;exact absurd h nn
noncomputable def vInt(a:ae)(k:Int->Option α):Option α:=match a with
 | .int i=>k i
 |_=>none
theorem jq{C:Prop}{a:ae}{k:Int->Option α}{r:α}(h:vInt a k=some r)(k_:∀i,a=.int i->k i=some r->C):C:=by
 cases a<;>first|exact k_ _ rfl h|exact absurd h nn
noncomputable def vStr(a:ae)(k:String->Option α):Option α:=match a with
 | .str i=>k i
 |_=>none
theorem rK{C:Prop}{a:ae}{k:String->Option α}{r:α}(h:vStr a k=some r)(k_:∀i,a=.str i->k i=some r->C):C:=by
 cases a<;>first|exact k_ _ rfl h|exact absurd h nn
noncomputable def HW(a:ae)(k:List ae->Option α):Option α:=match a with
 | .tup i=>k i
 |_=>none
theorem wW{C:Prop}{a:ae}{k:List ae->Option α}{r:α}(h:HW a k=some r)(k_:∀i,a=.tup i->k i=some r->C):C:=by
 cases a<;>first|exact k_ _ rfl h|exact absurd h nn
noncomputable def vn(a:ae)(k:Nat->Option α):Option α:=match a with
 | .ref i=>k i
 |_=>none
theorem rM{C:Prop}{a:ae}{k:Nat->Option α}{r:α}(h:vn a k=some r)(k_:∀i,a=.ref i->k i=some r->C):C:=by
 cases a<;>first|exact k_ _ rfl h|exact absurd h nn
noncomputable def vBool(a:ae)(k:Bool->Option α):Option α:=match a with
 | .bool i=>k i
 |_=>none
theorem jF{C:Prop}{a:ae}{k:Bool->Option α}{r:α}(h:vBool a k=some r)(k_:∀i,a=.bool i->k i=some r->C):C:=by
 cases a<;>first|exact k_ _ rfl h|exact absurd h nn
noncomputable def pq(o:Option cT)(kl:List ae->Option α)(kd:List ae->List ae->Option α):Option α:=match o with
 |some o=>(match o with
  | .list vs=>kl vs
  | .dict ks vs=>kd ks vs
  |_=>none)
 |none=>none
theorem zC{C:Prop}{o:Option cT}{kl:List ae->Option α}{kd:List ae->List ae->Option α}{r:α}(h:pq o kl kd=some r)(k1:∀vs,o=some (.list vs)->kl vs=some r->C)(k2:∀ks vs,o=some (.dict ks vs)->kd ks vs=some r->C):C:=by
 cases o with
 |none=>exact absurd h nn
 |some o=>cases o with
  |list vs=>exact k1 vs rfl h
  |dict ks vs=>exact k2 ks vs rfl h
  |_=>exact absurd h nn
theorem nS{C:Prop}{c:Prop}[Decidable c]{x y:Option α}{r:α}(h:(if c then x else y)=some r)(k1:c->x=some r->C)(k2:y=some r->C):C:=by
 by_cases q:c
 ·rw[if_pos q]at h;exact k1 q h
 ·rw[if_neg q]at h;exact k2 h
noncomputable def fM{β:Type}(o:Option β)(k:β->Option α):Option α:=match o with
 |some x=>k x
 |none=>none
theorem ed{C:Prop}{β:Type}{o:Option β}{k:β->Option α}{r:α}(h:fM o k=some r)(k_:∀x,o=some x->k x=some r->C):C:=by
 cases o with
 |none=>exact absurd h nn
 |some x=>exact k_ x rfl h
noncomputable def JT(o:Option cT)(k:Nat->Nat->Option α):Option α:=match o with
 |some o=>(match o with
  | .inst c d=>k c d
  |_=>none)
 |none=>none
theorem LC{C:Prop}{o:Option cT}{k:Nat->Nat->Option α}{r:α}(h:JT o k=some r)(k_:∀c d,o=some (.inst c d)->k c d=some r->C):C:=by
 cases o with
 |none=>exact absurd h nn
 |some o=>cases o with
  |inst c d=>exact k_ c d rfl h
  |_=>exact absurd h nn
noncomputable def vo(o:Option cT)(k:List ae->List ae->Option α):Option α:=match o with
 |some o=>(match o with
  | .bg c d=>k c d
  |_=>none)
 |none=>none
theorem HX{C:Prop}{o:Option cT}{k:List ae->List ae->Option α}{r:α}(h:vo o k=some r)(k_:∀c d,o=some (.bg c d)->k c d=some r->C):C:=by
 cases o with
 |none=>exact absurd h nn
 |some o=>cases o with
  |bg c d=>exact k_ c d rfl h
  |_=>exact absurd h nn
noncomputable def l1(l:List ae)(k:ae->Option α):Option α:=match l with
 |x::r=>(match r with
  |[]=>k x
  |_::_=>none)
 |[]=>none
theorem HY{C:Prop}{l:List ae}{k:ae->Option α}{r:α}(h:l1 l k=some r)(k_:∀x,l=[x]->k x=some r->C):C:=by
 cases l with
 |nil=>exact absurd h nn
 |cons x l=>cases l with
  |nil=>exact k_ x rfl h
  |cons _ _=>exact absurd h nn
noncomputable def l2(l:List ae)(k:ae->ae->Option α):Option α:=match l with
 |x::r=>l1 r (k x)
 |[]=>none
theorem RE{C:Prop}{l:List ae}{k:ae->ae->Option α}{r:α}(h:l2 l k=some r)(k_:∀x y,l=[x,y]->k x y=some r->C):C:=by
 cases l with
 |nil=>exact absurd h nn
 |cons x l=>
  refine HY h λy z1 h=>?_;subst z1;exact k_ x y rfl h
noncomputable def l0{β:Type}(l:List β)(k:Option α):Option α:=match l with
 |[]=>k
 |_::_=>none
theorem LD{C:Prop}{β:Type}{l:List β}{k:Option α}{r:α}(h:l0 l k=some r)(k_:l=[]->k=some r->C):C:=by
 cases l with
 |nil=>exact k_ rfl h
 |cons _ _=>exact absurd h nn
noncomputable def kh(H:AH)(n:Nat)(k:List ae->Option α):Option α:=pq (H.get n) k λ_ _=>none
theorem jG{C:Prop}{H:AH}{n:Nat}{k:List ae->Option α}{r:α}(h:kh H n k=some r)(k_:∀vs,H.get n=some (.list vs)->k vs=some r->C):C:=zC h k_ λ_ _ _ z=>absurd z nn
end
mutual
noncomputable def ae.beq:ae->ae->Bool
 | .none,b=>(match b with | .none=>true|_=>false)
 | .int i,b=>(match b with | .int j=>i==j|_=>false)
 | .str s,b=>(match b with | .str t=>s==t|_=>false)
 | .tup vs,b=>(match b with | .tup ws=>wX vs ws|_=>false)
 |_,_=>false
noncomputable def wX:List ae->List ae->Bool
 |[],w=>(match w with|[]=>true|_::_=>false)
 |v::vs,w=>(match w with|[]=>false|w::ws=>ae.beq v w&&wX vs ws)
end
noncomputable def isData:Nat->ae->Bool
 |0,a=>(match a with | .none | .int _ | .str _=>true|_=>false)
 |k+1,a=>(match a with | .none | .int _ | .str _=>true | .tup vs=>vs.all (isData k)|_=>false)
noncomputable def lk(H:AH)(a:ae):Bool×ae:=match a with
 | .ref n=>((pq (H.get n) (λvs=>some (true,.tup vs)) λ_ _=>none).getD (false,.wR))
 |v=>(false,v)
noncomputable def Ea(H:AH)(a b:ae):Option Bool:=
 if isData 9 (lk H a).2&&isData 9 (lk H b).2 then some ((lk H a).1==(lk H b).1&&ae.beq (lk H a).2 (lk H b).2)else none
noncomputable def bits(i:Int):Nat:=PySem.Builtin.Int.intBits i
noncomputable def Oo(a b:ae)(H:AH):Option (ae×AH):=match a with
 | .int i=>vInt b λj=>some (.int (i+j),H)
 | .str s=>vStr b λt=>if s.length<=1000∧t.length<=1000 then some (.str (s++t),H)else none
 | .tup vs=>HW b λws=>if vs.length<=1000∧ws.length<=1000 then some (.tup (vs++ws),H)else none
 | .ref n=>vn b λk=>kh H n λvs=>kh H k λws=>if vs.length<=1000∧ws.length<=1000 then some (.ref H.next,H.new (.list (vs++ws)))else none
 |_=>none
noncomputable def binOp(op:HO)(a b:ae)(H:AH):Option (ae×AH):=match op with
 | .add=>Oo a b H
 | .sub=>vInt a λi=>vInt b λj=>some (.int (i-j),H)
 | .mul=>vInt a λi=>vInt b λj=>if bits i<=2097152∧bits j<=2097152 then some (.int (i*j),H)else none
 | .mod=>vInt a λi=>vInt b λj=>if j≠0 then some (.int (i.fmod j),H)else none
 | .fdiv=>vInt a λi=>vInt b λj=>if 0<j∧j<2^62 then some (.int (i.fdiv j),H)else none
 | .pow=>vInt a λi=>vInt b λj=>if 0<=j∧j<=1000∧i.natAbs<2^64 then some (.int (i^j.toNat),H)else none
noncomputable def bN(k:ae):List ae->List ae->Option ae
 |[],_=>none
 |x::xs,vs=>(match vs with
  |[]=>none
  |v::vs=>if ae.beq k x then some v else bN k xs vs)
noncomputable def putK(k v:ae):List ae->List ae->List ae×List ae
 |[],_=>([k],[v])
 |x::xs,ws=>(match ws with
  |[]=>([k],[v])
  |w::ws=>if ae.beq k x then(x::xs,v::ws)else((x::(putK k v xs ws).1),(w::(putK k v xs ws).2)))
noncomputable def isKey:ae->Bool
 | .str _=>true
 | .none=>true
 |_=>false
noncomputable def Sr(a b:ae):Option Bool:=match b with
 | .none=>(match a with
  | .none=>some true
  | .tup _ | .str _ | .int _ | .ref _=>some false
  |_=>none)
 |_=>none
noncomputable def RF(a:ae)(vs:List ae):Option Bool:=if isData 8 a&&vs.all (isData 8)then some (vs.any λv=>ae.beq v a)else none
noncomputable def isIn(H:AH)(a b:ae):Option Bool:=match b with
 | .tup vs=>RF a vs
 | .cp ks _=>vStr a λs=>some (ks.contains s)
 | .ref n=>pq (H.get n) (λvs=>RF a vs) λks vs=>vStr a λ_=>some (bN a ks vs).isSome
 |_=>none
noncomputable def bz(op:rh)(a b:ae)(H:AH):Option Bool:=match op with
 | .eq=>Ea H a b
 | .ne=>(Ea H a b).map (!·)
 | .lt=>vInt a λi=>vInt b λj=>some (decide (i<j))
 | .le=>vInt a λi=>vInt b λj=>some (decide (i<=j))
 | .gt=>vInt a λi=>vInt b λj=>some (decide (j<i))
 | .ge=>vInt a λi=>vInt b λj=>some (decide (j<=i))
 | .is=>Sr a b
 | .eI=>(Sr a b).map (!·)
 | .kg=>isIn H a b
 | .pZ=>(isIn H a b).map (!·)
noncomputable def qf(k:String):List String->List ae->Option ae
 |[],_=>none
 |x::xs,vs=>(match vs with
  |[]=>none
  |v::vs=>if k=x then some v else qf k xs vs)
noncomputable def subAt(a i:ae)(H:AH):Option ae:=match a with
 | .tup vs=>vInt i λk=>if 0<=k∧k<1000 then vs[k.toNat]? else none
 | .str s=>vInt i λk=>if 0<=k∧k<1000∧k<(s.toList.length:Int)then(s.toList[k.toNat]?).map λc=>.str (String.ofList [c])else none
 | .cp ks vs=>vStr i λs=>qf s ks vs
 | .kL vs=>vInt i λk=>if 0<=k∧k<1000 then vs[k.toNat]? else none
 | .ref n=>pq (H.get n) (λvs=>vInt i λk=>if 0<=k∧k<100000 then vs[k.toNat]? else if k=-1 then vs.getLast? else none) λks vs=>vStr i λs=>bN (.str s) ks vs
 |_=>none
noncomputable def JU:ae->Bool
 | .bi _ | .wR=>false
 |_=>true
noncomputable def Oq(s:String):Option String:=if s = "i8" then some "8" else if s = "u8" then some "8" else if s = "i32" then some "32" else if s = "i64" then some "64" else none
structure eJ where
 init:Option Nat
 meths:List (String×Nat)
 fields:List String
structure jr where
 params:List String
 js:List ae
 body:List bD
structure cW where
 fns:Nat->Option jr
 cls:Nat->Option eJ
 jH:List Nat
set_option genCtorIdx false in
inductive Iter where
 |seq (vs:List ae)
 |lst (n i:Nat)
 |nR (i n:Nat)
noncomputable def Iter.Eb(it:Iter)(H:AH):Option (Option (ae×Iter)):=match it with
 | .seq l=>some (match l with
  |[]=>none
  |v::r=>some (v,.seq r))
 | .lst n i=>kh H n λvs=>some (match vs[i]? with
  |some v=>some (v,.lst n (i+1))
  |none=>none)
 | .nR i n=>if i<n then some (some (.int i,.nR (i+1) n))else some none
noncomputable def gW(a:ae)(H:AH):Option Iter:=match a with
 | .tup vs=>some (.seq vs)
 | .nR n=>if n<=100000 then some (.nR 0 n)else none
 | .ref n=>kh H n λ_=>some (.lst n 0)
 |_=>none
set_option genCtorIdx false in
inductive ek where
 |next|cont
 |ret (v:ae)
 |exc (c:Nat)
noncomputable abbrev cy:=Option (ek×Loc×AH)
noncomputable def dJ{α:Type}(r:Out α)(l:Loc)(f:α->AH->cy):cy:=match r with
 |some (.ok v,H)=>f v H
 |some (.error c,H)=>some (.exc c,l,H)
 |none=>none
theorem wY{C:Prop}{α:Type}{r:Out α}{l:Loc}{f:α->AH->cy}{q:ek×Loc×AH}(h:dJ r l f=some q)(k1:∀v H,r=some (.ok v,H)->f v H=some q->C)(k2:∀c H,r=some (.error c,H)->q=(.exc c,l,H)->C):C:=by
 cases r with
 |none=>exact absurd h nn
 |some r=>
  obtain⟨r,H⟩:=r;cases r with
  |ok v=>exact k1 v H rfl h
  |error c=>exact k2 c H rfl ((Option.some.inj h).symm)
noncomputable def ek.isExc:ek->Bool
 | .exc _=>true
 |_=>false
noncomputable def ek.zD:ek->Bool
 | .next=>true
 |_=>false
noncomputable def ek.wZ:ek->Bool
 | .next=>true
 | .cont=>true
 |_=>false
noncomputable def again(r:cy)(k:Loc->AH->cy):cy:=match r with
 |none=>none
 |some (f,l,H)=>match f.wZ with
  |true=>k l H
  |false=>some (f,l,H)
theorem Ek{C:Prop}{r:cy}{k:Loc->AH->cy}{q:ek×Loc×AH}(h:again r k=some q)(k1:∀f l H,r=some (f,l,H)->f.wZ=true->k l H=some q->C)(k2:r=some q->q.1.wZ=false->C):C:=by
 cases r with
 |none=>exact absurd h nn
 |some r=>
  obtain⟨f,l,H⟩:=r;cases f with
  |next=>exact k1 _ _ _ rfl rfl h
  |cont=>exact k1 _ _ _ rfl rfl h
  |ret v=>exact k2 h (by cases h;rfl)
  |exc v=>exact k2 h (by cases h;rfl)
theorem zE{C:Prop}{β:Type}{o:Option β}{g:β->cy}{k:Loc->AH->cy}{q:ek×Loc×AH}(h:again (fM o g) k=some q)(k_:∀x,o=some x->again (g x) k=some q->C):C:=by
 cases o with
 |none=>exact absurd h nn
 |some x=>exact k_ x rfl h
noncomputable def zF(r:cy)(k:Loc->AH->cy):cy:=match r with
 |none=>none
 |some (f,l,H)=>match f.zD with
  |true=>k l H
  |false=>some (f,l,H)
theorem HZ{C:Prop}{r:cy}{k:Loc->AH->cy}{q:ek×Loc×AH}(h:zF r k=some q)(k1:∀l H,r=some (.next,l,H)->k l H=some q->C)(k2:r=some q->q.1.zD=false->C):C:=by
 cases r with
 |none=>exact absurd h nn
 |some r=>
  obtain⟨f,l,H⟩:=r;cases f with
  |next=>exact k1 _ _ rfl h
  |cont=>exact k2 h (by cases h;rfl)
  |ret v=>exact k2 h (by cases h;rfl)
  |exc v=>exact k2 h (by cases h;rfl)
noncomputable def w8(r:cy)(k:Nat->Loc->AH->cy):cy:=match r with
 |none=>none
 |some (f,l,H)=>match f with
  | .exc c=>k c l H
  | .next=>some (.next,l,H)
  | .cont=>some (.cont,l,H)
  | .ret v=>some (.ret v,l,H)
theorem El{C:Prop}{r:cy}{k:Nat->Loc->AH->cy}{q:ek×Loc×AH}(h:w8 r k=some q)(k1:∀c l H,r=some (.exc c,l,H)->k c l H=some q->C)(k2:r=some q->q.1.isExc=false->C):C:=by
 cases r with
 |none=>exact absurd h nn
 |some r=>
  obtain⟨f,l,H⟩:=r;cases f with
  |exc v=>exact k1 _ _ _ rfl h
  |next=>exact k2 h (by cases h;rfl)
  |cont=>exact k2 h (by cases h;rfl)
  |ret v=>exact k2 h (by cases h;rfl)
noncomputable def jt:Nat->(ae->Loc->AH->cy)->Iter->Loc->AH->cy
 |0,_,_,_,_=>none
 |k+1,body,it,l,H=>fM (it.Eb H) λo=>match o with
  |none=>some (.next,l,H)
  |some p=>again (body p.1 l H) λl H=>jt k body p.2 l H
noncomputable def eF:Nat->(Loc->AH->Out ae)->(Loc->AH->cy)->Loc->AH->cy
 |0,_,_,_,_=>none
 |k+1,cond,body,l,H=>dJ (cond l H) l λv H₁=>vBool v λq=>match q with
  |true=>again (body l H₁) λl H=>eF k cond body l H
  |false=>some (.next,l,H₁)
noncomputable def eO:Nat->(ae->AH->Out ae)->Nat->Iter->AH->Out ae
 |0,_,_,_,_=>none
 |k+1,elt,n,it,H=>match it.Eb H with
  |none=>none
  |some none=>ok (.ref n) H
  |some (some (v,it'))=>iz (elt v H) λx H₁=>kh H₁ n λvs=>if vs.length<=100000 then eO k elt n it' (H₁.set n (.list (vs++[x])))else none
theorem vt{k n:Nat}{elt:ae->AH->Out ae}{it:Iter}{H:AH}:eO (k+1) elt n it H=eO.match_1 (motive:=λ_=>Out ae) (it.Eb H) (λ_=>none) (λ_=>ok (.ref n) H) (λv it'=>iz (elt v H) λx H₁=>kh H₁ n λvs=>if vs.length<=100000 then eO k elt n it' (H₁.set n (.list (vs++[x])))else none):=rfl
noncomputable def Ot(H:AH)(x:ae):Out ae:=match x with
 | .tup vs=>if vs.length<=100000 then ok (.int vs.length) H else none
 | .ref n=>kh H n λvs=>if vs.length<=100000 then ok (.int vs.length) H else none
 | .kL vs=>if vs.length<=100000 then ok (.int vs.length) H else none
 |_=>none
noncomputable def Ou(H:AH)(x:ae):Out ae:=match x with
 | .int i=>ok (.int i) H
 | .bool b=>ok (.int (if b then 1 else 0)) H
 | .str s=>if s = "8" then ok (.int 8) H else if s = "32" then ok (.int 32) H else if s = "64" then ok (.int 64) H else none
 |_=>none
noncomputable def By(x:ae)(k:Out ae):Out ae:=match x with
 | .bi v=>(match v with
  | .type n=>if n = "bool" then k else none
  |_=>none)
 |_=>none
noncomputable def JV(H:AH)(x:ae):Out ae:=match x with
 | .tup vs=>if vs.length<=100000 then ok (.ref H.next) (H.new (.list vs))else none
 | .ref n=>pq (H.get n) (λ_=>none) λks vs=>l0 ks (l0 vs (ok (.ref H.next) (H.new (.list []))))
 |_=>none
noncomputable def rN(f:Value)(args:List ae)(H:AH):Out ae:=match f with
 | .builtin n=>if n = "len" then l1 args (Ot H)
  else if n = "max" then l2 args λx y=>vInt x λi=>vInt y λj=>ok (.int (if i<j then j else i)) H
  else if n = "isinstance" then l2 args λx y=>vInt x λ_=>By y (ok (.bool false) H)else none
 | .type n=>if n = "int" then l1 args (Ou H)
  else if n = "str" then l1 args λx=>vInt x λi=>if 0<=i∧i<100 then ok (.str (toString i)) H else none
  else if n = "tuple" then l1 args λx=>vn x λm=>kh H m λvs=>if vs.length<=100000 then ok (.tup vs) H else none
  else if n = "list" then l1 args (JV H)
  else if n = "range" then l1 args λx=>vInt x λi=>if 0<=i∧i<=100000 then ok (.nR i.toNat) H else none else none
 |_=>none
noncomputable def Ov(n:Nat)(vs:List ae)(x:ae)(H:AH):Out ae:=if vs.length<=100000 then ok .none (H.set n (.list (vs++[x])))else none
noncomputable def w9(o:ae)(a:String)(args:List ae)(H:AH):Out ae:=match o with
 | .ref n=>pq (H.get n)
   (λvs=>if a = "append" then l1 args λx=>Ov n vs x H
    else if a = "extend" then l1 args λx=>l0 vs (HW x λws=>l0 ws (ok .none H))
    else if a = "pop" then l0 args (if vs.length<=100000 then fM vs.getLast? λx=>ok x (H.set n (.list vs.dropLast))else none)else none)
   (λks vs=>l2 args λk d=>if a = "get" ∧ isKey k then ok ((bN k ks vs).getD d) H else none)
 | .cp ks vs=>l2 args λk d=>vStr k λk=>if a = "get" then ok ((qf k ks vs).getD d) H else none
 |_=>none
section
variable(P:cW)(F:dQ)
noncomputable def eK(f:ae)(args:List ae)(H:AH):Out ae:=match f with
 | .top a=>F a args H
 | .bi v=>rN v args H
 |_=>none
noncomputable def um{α:Type}(n:Nat)(H:AH)(k:Nat->eJ->Nat->List ae->List ae->Option α):Option α:=JT (H.get n) λc d=>fM (P.cls c) λci=>vo (H.get d) λks vs=>k c ci d ks vs
noncomputable def rO{α:Type}(ci:eJ)(a:String)(ks vs:List ae)(k:ae->Option α):Option α:=if ci.fields.contains a then fM (bN (.str a) ks vs) λv=>if JU v then k v else none else none
noncomputable def mF{α β:Type}(o:Option β)(km:β->Option α)(kf:Option α):Option α:=match o with
 |some f=>km f
 |none=>kf
theorem rP{C:Prop}{α β:Type}{o:Option β}{km:β->Option α}{kf:Option α}{r:α}(h:mF o km kf=some r)(k1:∀f,o=some f->km f=some r->C)(k2:o=none->kf=some r->C):C:=by
 cases o with
 |none=>exact k2 rfl h
 |some f=>exact k1 f rfl h
noncomputable def kQ(o:ae)(a:String)(H:AH):Out ae:=vn o λn=>um P n H λ_ ci _ ks vs=>mF (ci.meths.lookup a) (λ_=>if(bN (.str a) ks vs).isNone then ok .wR H else none) (rO ci a ks vs λv=>ok v H)
set_option genCtorIdx false in
inductive Callee where
 |fn (f:Nat) (o:ae)
 |val (v:ae)
 |jI (o:ae) (a:String)
noncomputable def Ow{α:Type}(o:Option cT)(ki:Option α)(kl:Option α)(kd:Option α):Option α:=match o with
 |some o=>(match o with
  | .inst _ _=>ki
  | .list _=>kl
  | .dict _ _=>kd
  |_=>none)
 |none=>none
theorem Ox{α:Type}{o:Option cT}{ki kl kd:Option α}{r:α}(h:Ow o ki kl kd=some r):(ki=some r)∨(∃vs,o=some (.list vs)∧kl=some r)∨∃ks vs,o=some (.dict ks vs)∧kd=some r:=by
 cases o with
 |none=>exact absurd h nn
 |some o=>cases o with
  |inst c d=>exact .inl h
  |list vs=>exact .inr (.inl ⟨vs,rfl,h⟩)
  |dict ks vs=>exact .inr (.inr ⟨ks,vs,rfl,h⟩)
  |_=>exact absurd h nn
noncomputable def eC(o:ae)(a:String)(H:AH):Option Callee:=match o with
 | .ref n=>Ow (H.get n) (um P n H λ_ ci _ ks vs=>mF (ci.meths.lookup a) (λf=>if(bN (.str a) ks vs).isNone then some (.fn f o)else none) (rO ci a ks vs λv=>some (.val v)))
   (if a = "append" ∨ a = "extend" ∨ a = "pop" then some (.jI o a)else none) (if a = "get" then some (.jI o a)else none)
 | .cp _ _=>if a = "get" then some (.jI o a)else none
 |_=>none
noncomputable def callC(c:Callee)(args:List ae)(H:AH):Out ae:=match c with
 | .fn f o=>F f (o::args) H
 | .val v=>eK F v args H
 | .jI o a=>w9 o a args H
noncomputable def JW(n:Nat)(o:ae)(H:AH):Out ae:=match o with
 | .tup vs=>if vs.length<=1000∧1<=n∧n<=vs.length then ok (.tup (vs.drop n)) H else none
 | .str s=>if n=1 then fM (Oq s) λx=>ok (.str x) H else none
 |_=>none
noncomputable def bindC(single:Bool)(xs:List String)(v:ae)(l:Loc):Option Loc:=match single with
 |true=>(match xs with
  |x::r=>l0 r (some (bc x v l))
  |[]=>none)
 |false=>HW v λvs=>fk xs vs l
mutual
noncomputable def aW:aZ->Loc->AH->Out ae
 | .cst v,_,H=>ok v H
 | .loc x,l,H=>fM (aJ x l) λv=>ok v H
 | .glob _ v,_,H=>ok v H
 | .tup es,l,H=>iz (cA es l H) λvs H=>ok (.tup vs) H
 | .lst es,l,H=>iz (cA es l H) λvs H=>ok (.ref H.next) (H.new (.list vs))
 | .lY ks es,l,H=>iz (cA es l H) λvs H=>ok (.ref H.next) (H.new (.dict ks vs))
 | .attr e a,l,H=>iz (aW e l H) λo H=>kQ P o a H
 | .sub e i,l,H=>iz (aW e l H) λo H=>iz (aW i l H) λk H=>fM (subAt o k H) λv=>ok v H
 | .iZ e n,l,H=>iz (aW e l H) λo H=>JW n o H
 | .wU e n,l,H=>iz (aW e l H) λo H=>vn o λr=>kh H r λvs=>if vs.length<=1000∧n<=vs.length then ok (.ref H.next) (H.new (.list (vs.take n)))else none
 | .p0 e,l,H=>iz (aW e l H) λo H=>vn o λr=>kh H r λvs=>if vs.length<=1000 then ok (.ref H.next) (H.new (.list vs.reverse))else none
 | .call f es,l,H=>iz (aW f l H) λg H=>iz (cA es l H) λvs H=>eK F g vs H
 | .aE o a es,l,H=>iz (aW o l H) λo H=>fM (eC P o a H) λc=>iz (cA es l H) λvs H=>callC F c vs H
 | .bin op a b,l,H=>iz (aW a l H) λx H=>iz (aW b l H) λy H=>fM (binOp op x y H) λz=>ok z.1 z.2
 | .cmp a op b,l,H=>iz (aW a l H) λx H=>iz (aW b l H) λy H=>fM (bz op x y H) λq=>ok (.bool q) H
 | .qL a op b iB c,l,H=>iz (aW a l H) λx H=>iz (aW b l H) λy H=>fM (bz op x y H) λq=>match q with
  |true=>iz (aW c l H) λz H=>fM (bz iB y z H) λq=>ok (.bool q) H
  |false=>ok (.bool false) H
 | .and es,l,H=>evalAnd es l H
 | .or es,l,H=>evalOr es l H
 | .not e,l,H=>iz (aW e l H) λv H=>vBool v λb=>ok (.bool (!b)) H
 | .neg e,l,H=>iz (aW e l H) λv H=>vInt v λi=>ok (.int (-i)) H
 | .ite c a b,l,H=>iz (aW c l H) λv H=>vBool v λq=>match q with
  |true=>aW a l H
  |false=>aW b l H
 | .comp elt xs single it,l,H=>iz (aW it l H) λo H=>fM (gW o H) λi=>eO 100000 (λv H=>fM (bindC single xs v l) λl'=>aW elt l' H) H.next i (H.new (.list []))
 | .dead,_,_=>none
noncomputable def cA:List aZ->Loc->AH->Out (List ae)
 |[],_,H=>ok [] H
 |e::es,l,H=>iz (aW e l H) λv H=>iz (cA es l H) λvs H=>ok (v::vs) H
noncomputable def evalAnd:List aZ->Loc->AH->Out ae
 |[],_,_=>none
 |e::es,l,H=>(match es with
  |[]=>aW e l H
  |_::_=>iz (aW e l H) λv H=>vBool v λq=>match q with
   |true=>evalAnd es l H
   |false=>ok (.bool false) H)
noncomputable def evalOr:List aZ->Loc->AH->Out ae
 |[],_,_=>none
 |e::es,l,H=>(match es with
  |[]=>aW e l H
  |_::_=>iz (aW e l H) λv H=>vBool v λq=>match q with
   |true=>ok (.bool true) H
   |false=>evalOr es l H)
end
noncomputable def jJ(o:ae)(a:String)(v:ae)(H:AH):Option AH:=vn o λn=>um P n H λ_ ci d ks vs=>if ci.fields.contains a∧ks.length<=50 then some (H.set d (.bg (putK (.str a) v ks vs).1 (putK (.str a) v ks vs).2))else none
noncomputable def putItem(o i v:ae)(H:AH):Option AH:=vn o λn=>pq (H.get n)
 (λvs=>vInt i λk=>if 0<=k∧k<vs.length∧vs.length<=100000 then some (H.set n (.list (vs.set k.toNat v)))else none)
 (λks vs=>vStr i λs=>if ks.length<=50 then some (H.set n (.dict (putK (.str s) v ks vs).1 (putK (.str s) v ks vs).2))else none)
noncomputable def zG:List ae->Bool
 |v::_=>JU v
 |[]=>false
noncomputable def Em:aZ->Loc->Bool
 | .loc x,l=>(aJ x l).isSome
 |_,_=>false
mutual
noncomputable def exec:bD->Loc->AH->cy
 | .expr e,l,H=>dJ (aW P F e l H) l λ_ H=>some (.next,l,H)
 | .asg x e,l,H=>dJ (aW P F e l H) l λv H=>some (.next,bc x v l,H)
 | .pn xs e,l,H=>dJ (aW P F e l H) l λv H=>fM (bindC false xs v l) λl'=>some (.next,l',H)
 | .fj xs es,l,H=>dJ (cA P F es l H) l λvs H=>fM (fk xs vs l) λl'=>some (.next,l',H)
 | .cV o a e,l,H=>dJ (aW P F e l H) l λv H=>dJ (aW P F o l H) l λo H=>fM (jJ P o a v H) λH=>some (.next,l,H)
 | .gS o i e,l,H=>dJ (aW P F e l H) l λv H=>dJ (aW P F o l H) l λo H=>dJ (aW P F i l H) l λi H=>fM (putItem o i v H) λH=>some (.next,l,H)
 | .iff c a b,l,H=>dJ (aW P F c l H) l λv H=>vBool v λq=>match q with
  |true=>execs a l H
  |false=>execs b l H
 | .tx c b,l,H=>eF 100000 (λl H=>aW P F c l H) (λl H=>execs b l H) l H
 | .tA x it b,l,H=>dJ (aW P F it l H) l λo H=>fM (gW o H) λi=>jt 100000 (λv l H=>fM (bindC true [x] v l) λl=>execs b l H) i l H
 | .wV xs it b,l,H=>dJ (aW P F it l H) l λo H=>fM (gW o H) λi=>jt 100000 (λv l H=>fM (bindC false xs v l) λl=>execs b l H) i l H
 | .ret e,l,H=>dJ (aW P F e l H) l λv H=>some (.ret v,l,H)
 | .zB,l,H=>some (.ret .none,l,H)
 | .raise c es,l,H=>dJ (cA P F es l H) l λvs H=>if(zG vs&&P.jH.contains c)=true then some (.exc (2*c),l,H)else none
 | .jE c b,l,H=>w8 (execs b l H) λc' l H=>if c' / 2=c∧P.jH.contains c=true then some (.ret .none,l,H)else none
 | .gU c b e,l,H=>w8 (execs b l H) λc' l H=>if c'=2*c∧P.jH.contains c=true∧Em e l=true then some (.exc (2*c+1),[],H)else none
 | .cont,l,H=>some (.cont,l,H)
 | .dead,_,_=>none
noncomputable def execs:List bD->Loc->AH->cy
 |[],l,H=>some (.next,l,H)
 |s::ss,l,H=>zF (exec s l H) λl H=>execs ss l H
end
end
noncomputable def En{α β:Type}(l:List α)(k:α->Option β):Option β:=match l with
 |d::_=>k d
 |[]=>none
theorem LF{C:Prop}{α β:Type}{l:List α}{k:α->Option β}{r:β}(h:En l k=some r)(k_:∀d t,l=d::t->k d=some r->C):C:=by
 cases l with
 |nil=>exact absurd h nn
 |cons d t=>exact k_ d t rfl h
noncomputable def kR:List String->List ae->List ae->Option Loc
 |[],[],_=>some []
 |p::ps,v::vs,ds=>(kR ps vs ds).map ((p,v)::·)
 |p::ps,[],ds=>En (ds.drop (ds.length-(ps.length+1))) λd=>if ps.length+1<=ds.length then(kR ps [] ds).map ((p,d)::·)else none
 |[],_::_,_=>none
noncomputable def back(r:cy):Out ae:=match r with
 |none=>none
 |some (f,_,H)=>match f with
  | .next=>ok .none H
  | .ret v=>ok v H
  | .exc c=>some (.error c,H)
  | .cont=>none
theorem Oy{r:cy}{q:Except Nat ae×AH}(h:back r=some q):(∃l H,r=some (.next,l,H)∧q=(.ok .none,H))∨(∃v l H,r=some (.ret v,l,H)∧q=(.ok v,H))∨∃c l H,r=some (.exc c,l,H)∧q=(.error c,H):=by
 cases r with
 |none=>exact absurd h nn
 |some r=>
  obtain⟨f,l,H⟩:=r;cases f with
  |next=>exact .inl ⟨_,_,rfl,(Option.some.inj h).symm⟩
  |ret v=>exact .inr (.inl ⟨_,_,_,rfl,(Option.some.inj h).symm⟩)
  |exc c=>exact .inr (.inr ⟨_,_,_,rfl,(Option.some.inj h).symm⟩)
  |cont=>exact absurd h nn
noncomputable def made(r:Out ae)(v:ae):Out ae:=match r with
 |none=>none
 |some (x,H)=>match x with
  | .error c=>some (.error c,H)
  | .ok u=>match u with
   | .none=>ok v H
   |_=>none
theorem Oz{C:Prop}{r:Out ae}{v:ae}{q:Except Nat ae×AH}(h:made r v=some q)(k1:∀H,r=some (.ok .none,H)->q=(.ok v,H)->C)(k2:∀c H,r=some (.error c,H)->q=(.error c,H)->C):C:=by
 cases r with
 |none=>exact absurd h nn
 |some r=>
  obtain⟨x,H⟩:=r;cases x with
  |error c=>exact k2 _ _ rfl ((Option.some.inj h).symm)
  |ok u=>cases u with
   |none=>exact k1 _ rfl ((Option.some.inj h).symm)
   |_=>exact absurd h nn
noncomputable def run(P:cW):Nat->dQ
 |0=>λ_ _ _=>none
 |n+1=>λf args H=>mF (P.fns f) (λfi=>fM (kR fi.params args fi.js) λl=>back (execs P (run P n) fi.body l H))
  (fM (P.cls f) λci=>mF ci.init (λg=>made (run P n g (.ref (H.next+1)::args) ((H.new (.bg [] [])).new (.inst f H.next))) (.ref (H.next+1)))
   (l0 args (ok (.ref (H.next+1)) ((H.new (.bg [] [])).new (.inst f H.next)))))
end
noncomputable def aK(s:String):Str:=Str.ofString s
section
variable{aa:Program}{w:World}(knd:KeyKind aa w (Option Str))
mutual
noncomputable def bf(hW h:Heap)(ρ:Nat->Addr)(N:Nat):ae->Value->Prop
 | .none,v=>v=.none
 | .bool b,v=>v=.bool b
 | .int i,v=>∃t,v=.int i t
 | .str x,v=>∃t,v=.str (aK x) t
 | .tup vs,v=>∃a ws,v=.ref a∧h.TupAt a ws∧aP hW h ρ N vs ws
 | .ref n,v=>n<N∧v=.ref (ρ n)
 | .top a,v=>v=.ref a
 | .bi w,v=>v=w
 | .cp ks vs,v=>∃a,v=.ref a∧a≠sysModules∧∃kvs,hW.DictOf knd a kvs∧kvs.map (·.1)=ks.map (λk=>some (aK k))∧aP hW h ρ N vs (kvs.map (·.2))
 | .nR n,v=>∃a,v=.ref a∧∃o x y z,h.get? a=some o∧o.cls=.type "range" ∧ o.dict=none∧o.data=.fields #[.int 0 x,.int n y,.int 1 z]
 | .kL vs,v=>∃a ws,v=.ref a∧hW.IsList a ws.toArray∧aP hW h ρ N vs ws
 | .wR,_=>True
noncomputable def aP(hW h:Heap)(ρ:Nat->Addr)(N:Nat):List ae->List Value->Prop
 |[],[]=>True
 |a::as,v::vs=>bf hW h ρ N a v∧aP hW h ρ N as vs
 |_,_=>False
end
noncomputable def bA(o:Obj):Prop:=(o.cls=.type "tuple" ∧ ∃xs n,o.data=.seq xs n)∨(o.cls=.type "range" ∧ ∃vs,o.data=.fields vs)
noncomputable def iC(h h':Heap):Prop:=∀b o,h.get? b=some o->bA o->∃sl,h'.get? b=some { o with slots:=sl }
theorem iC.refl(h:Heap):iC h h:=λ_ o e _=>⟨o.slots,e⟩
theorem iC.trans{ay bV dG:Heap}(x:iC ay bV)(y:iC bV dG):iC ay dG:=λb o e f=>by
 refine aV (x b o e f) λsl eo=>?_;refine aV (y b _ eo f) λEo LG=>?_;exact⟨Eo,LG⟩
theorem iC.tup{h h':Heap}{a:Addr}{ws:List Value}(x:iC h h')(t:h.TupAt a ws):h'.TupAt a ws:=by
 refine cn t ?_;clear t;intro o n ho hc hd;refine aV (x a o ho (.inl ⟨hc,_,_,hd⟩)) λsl e=>?_;exact⟨_,n,e,hc,hd⟩
noncomputable def VE(hW h:Heap)(ρ:Nat->Addr)(N:Nat)(C:Prop):ae->Value->Prop
 | .int i,v=>(∀t,v=.int i t->C)->C
 | .str x,v=>(∀t,v=.str (aK x) t->C)->C
 | .tup vs,v=>(∀a ws,v=.ref a->h.TupAt a ws->aP knd hW h ρ N vs ws->C)->C
 | .ref n,v=>(n<N->v=.ref (ρ n)->C)->C
 | .cp ks vs,v=>(∀a,v=.ref a->a≠sysModules->∀kvs,hW.DictOf knd a kvs->kvs.map (·.1)=ks.map (λk=>some (aK k))->aP knd hW h ρ N vs (kvs.map (·.2))->C)->C
 | .kL vs,v=>(∀a ws,v=.ref a->hW.IsList a ws.toArray->aP knd hW h ρ N vs ws->C)->C
 |_,_=>C->C
theorem bf.E{knd:KeyKind aa w (Option Str)}{hW h:Heap}{ρ:Nat->Addr}{N:Nat}{C:Prop}{a:ae}{v:Value}(r:bf knd hW h ρ N a v):VE knd hW h ρ N C a v:=by
 cases a with
 |int i=>exact λk=>r.elim k
 |str i=>exact λk=>r.elim k
 |tup vs=>exact λk=>r.elim λa z=>z.elim λws z=>k a ws z.1 z.2.1 z.2.2
 |ref n=>exact λk=>k r.1 r.2
 |cp ks vs=>exact λk=>r.elim λa z=>z.2.2.elim λkvs y=>k a z.1 z.2.1 kvs y.1 y.2.1 y.2.2
 |kL vs=>exact λk=>r.elim λa z=>z.elim λws z=>k a ws z.1 z.2.1 z.2.2
 |_=>exact id
end
section
variable{aa:Program}{w:World}{knd:KeyKind aa w (Option Str)}{hW h h':Heap}{ρ bq:Nat->Addr}{N N':Nat}
mutual
theorem bf.mono(st:iC h h')(le:N<=N')(ag:∀n,n<N->bq n=ρ n):∀{a:ae}{v:Value},bf knd hW h ρ N a v->bf knd hW h' bq N' a v
 | .none,_,r | .bool _,_,r | .int _,_,r | .str _,_,r | .top _,_,r | .bi _,_,r | .wR,_,r=>r
 | .tup vs,_,r=>by
  refine cn r ?_;clear r;intro a ws e t q;exact⟨a,ws,e,st.tup t,aP.mono st le ag q⟩
 | .ref n,_,r=>by
  refine bk r ?_;clear r;intro hn e;exact⟨Nat.lt_of_lt_of_le hn le,by rw[ag n hn];exact e⟩
 | .kL vs,_,r=>by
  refine cn r ?_;clear r;intro a ws e t q;exact⟨a,ws,e,t,aP.mono st le ag q⟩
 | .cp ks vs,_,r=>by
  obtain⟨a,e,hs,kvs,e1,e2,q⟩:=r;exact⟨a,e,hs,kvs,e1,e2,aP.mono st le ag q⟩
 | .nR n,_,r=>by
  obtain⟨a,e,o,x,y,z,e1,e2,e3,e4⟩:=r;refine aV (st a o e1 (.inr ⟨e2,_,e4⟩)) λsl e'=>?_;exact⟨a,e,_,x,y,z,e',e2,e3,e4⟩
theorem aP.mono(st:iC h h')(le:N<=N')(ag:∀n,n<N->bq n=ρ n):∀{as:List ae}{vs:List Value},aP knd hW h ρ N as vs->aP knd hW h' bq N' as vs
 |[],[],_=>trivial
 |_::_,_::_,r=>⟨bf.mono st le ag r.1,aP.mono st le ag r.2⟩
 |[],_::_,r=>r.elim
 |_::_,[],r=>r.elim
end
theorem aP.length:∀{as:List ae}{vs:List Value},aP knd hW h ρ N as vs->vs.length=as.length:=by
 intro zz;induction zz with
 |nil=>
  intro b0 r;cases b0 with
  |nil=>
   exact rfl
  |cons kT rj=>
   exact r.elim
 |cons _ _ ih=>
  intro kW r;cases kW with
  |nil=>
   exact r.elim
  |cons CH HP=>
   simp[ih r.2]
theorem aP.get:∀{as:List ae}{vs:List Value}{i:Nat}{a:ae},aP knd hW h ρ N as vs->as[i]? = some a->∃v,vs[i]? = some v∧bf knd hW h ρ N a v:=by
 intro zz;induction zz with
 |nil=>
  intro _ _ _ _ e;exact absurd e nn
 |cons _ _ ih=>
  intro b0 kT _ r e;cases b0 with
  |nil=>
   exact r.elim
  |cons v rj=>
   cases kT with
   |zero=>
    cases e;exact⟨v,rfl,r.1⟩
   |succ i=>
    simpa using ih r.2 (by simpa using e)
theorem aP.append:∀{as bs:List ae}{vs ws:List Value},aP knd hW h ρ N as vs->aP knd hW h ρ N bs ws->aP knd hW h ρ N (as++bs) (vs++ws):=by
 intro zz;induction zz with
 |nil=>
  intro _ b0 _ r q;cases b0 with
  |nil=>
   exact q
  |cons kT rj=>
   exact r.elim
 |cons _ _ ih=>
  intro _ kW _ r q;cases kW with
  |nil=>
   exact r.elim
  |cons CH HP=>
   exact⟨r.1,ih r.2 q⟩
theorem aP.drop:∀{as:List ae}{vs:List Value} (n:Nat),aP knd hW h ρ N as vs->aP knd hW h ρ N (as.drop n) (vs.drop n):=by
 intro zz;induction zz with
 |nil=>
  intro b0 kT r;cases kT with
  |zero=>
   exact r
  |succ rj=>
   cases b0 with
   |nil=>
    exact r
   |cons kW CH=>
    exact r.elim
 |cons _ _ ih=>
  intro HP NW r;cases NW with
  |zero=>
   exact r
  |succ n=>
   cases HP with
   |nil=>
    exact r.elim
   |cons Ss OA=>
    exact ih n r.2
theorem aP.take:∀{as:List ae}{vs:List Value} (n:Nat),aP knd hW h ρ N as vs->aP knd hW h ρ N (as.take n) (vs.take n):=by
 intro zz;induction zz with
 |nil=>
  intro b0 kT r;cases b0 with
  |nil=>
   cases kT with
   |zero=>
    exact trivial
   |succ rj=>
    exact r
  |cons kW CH=>
   exact r.elim
 |cons _ _ ih=>
  intro HP NW r;cases HP with
  |nil=>
   exact r.elim
  |cons Ss OA=>
   cases NW with
   |zero=>
    exact trivial
   |succ n=>
    exact⟨r.1,ih n r.2⟩
theorem aP.reverse:∀{as:List ae}{vs:List Value},aP knd hW h ρ N as vs->aP knd hW h ρ N as.reverse vs.reverse:=by
 intro zz;induction zz with
 |nil=>
  intro b0 r;cases b0 with
  |nil=>
   exact trivial
  |cons kT rj=>
   exact r.elim
 |cons _ _ ih=>
  intro kW r;cases kW with
  |nil=>
   exact r.elim
  |cons CH HP=>
   rw[List.reverse_cons,List.reverse_cons];exact(ih r.2).append ⟨r.1,trivial⟩
theorem aP.set:∀{as:List ae}{vs:List Value} (n:Nat) {a:ae}{v:Value},aP knd hW h ρ N as vs->bf knd hW h ρ N a v->aP knd hW h ρ N (as.set n a) (vs.set n v):=by
 intro zz;induction zz with
 |nil=>
  intro b0 _ _ _ r _;cases b0 with
  |nil=>
   exact r
  |cons kT rj=>
   exact r.elim
 |cons _ _ ih=>
  intro kW CH _ _ r q;cases kW with
  |nil=>
   exact r.elim
  |cons HP NW=>
   cases CH with
   |zero=>
    exact⟨q,r.2⟩
   |succ n=>
    exact⟨r.1,ih n r.2 q⟩
end
noncomputable def keyOf:ae->Option Str
 | .str x=>some (aK x)
 |_=>none
section
variable{aa:Program}{w:World}(knd:KeyKind aa w (Option Str))
noncomputable def KeysAre:List ae->List DictEntry->Prop
 |[],[]=>True
 |k::ks,e::es=>(∃x t,k=.str x∧e.key=.str (aK x) t)∧KeysAre ks es
 |_,_=>False
noncomputable def cg(hW h:Heap)(ρ:Nat->Addr)(N:Nat):cT->Addr->Prop
 | .list vs,a=>∃ws n,h.get? a=some (listOf ws.toArray n)∧aP knd hW h ρ N vs ws
 | .dict ks vs,a=>∃kvs,h.DictOf knd a kvs∧kvs.map (·.1)=ks.map keyOf∧ks.all isKey=true∧aP knd hW h ρ N vs (kvs.map (·.2))
 | .inst c d,a=>d<N∧∃sl,h.get? a=some ⟨.ref c,some (ρ d),.plain,sl⟩
 | .bg ks vs,a=>∃es n,h.get? a=some (dictOf es n)∧KeysAre ks es∧aP knd hW h ρ N vs (es.map (·.val))
structure Cells(hW:Heap)(ρ:Nat->Addr)(H:AH)(h:Heap):Prop where
 at_:∀n,n<H.next->∃o,H.get n=some o∧cg knd hW h ρ H.next o (ρ n)
 inj:∀n m,n<H.next->m<H.next->ρ n=ρ m->n=m
 out:∀n,n<H.next->hW.get? (ρ n)=none
noncomputable def bl(ah:List Env):List Addr:=ah.filterMap (·.frame)
structure St(hW:Heap)(ah:List Env)(ρ:Nat->Addr)(H:AH)(h:Heap):Prop extends Cells knd hW ρ H h where
 stays:hW.StaysIn h
 bW:h.FunFrames hW ah
 qM:∀n,n<H.next->ρ n∉bl ah
structure Step(X:Addr->Prop)(fr:List Addr)(ρ:Nat->Addr)(N:Nat)(h:Heap)(bq:Nat->Addr)(N':Nat)(h':Heap):Prop where
 le:N<=N'
 old:∀n,n<N->bq n=ρ n
 new:∀n,N<=n->n<N'->h.get? (bq n)=none
 keep:∀b o,h.get? b=some o->(∀n,n<N->ρ n≠b)->¬X b->b∉fr->h'.get? b=some o
 frame:∀b o,h.get? b=some o->b∈fr->¬X b->∃sl,h'.get? b=some { o with slots:=sl }
 live:∀b,h'.get? b=none->h.get? b=none
 eg:iC h h'
end
variable{aa:Program}{w:World}{knd:KeyKind aa w (Option Str)}{X Y:Addr->Prop}{fr:List Addr}{ρ aq b9:Nat->Addr}{N aN eh:Nat}{h ay bV:Heap}
theorem Step.refl:Step X fr ρ N h ρ N h:=
 ⟨Nat.le_refl _,λ_ _=>rfl,λ_ a b=>absurd (Nat.lt_of_lt_of_le b a) (Nat.lt_irrefl _),λ_ _ e _ _ _=>e,λ_ o e _ _=>⟨o.slots,e⟩,λ_ e=>e,.refl _⟩
theorem Step.trans(x:Step X fr ρ N h aq aN ay)(y:Step X fr aq aN ay b9 eh bV):Step X fr ρ N h b9 eh bV where
 le:=Nat.le_trans x.le y.le
 old n hn:=(y.old n (Nat.lt_of_lt_of_le hn x.le)).trans (x.old n hn)
 new n a b:=by
  refine dZ (Nat.lt_or_ge n aN) (λq=>?_) λq=>?_
  ·rw[y.old n q];exact x.new n a q
  ·exact x.live _ (y.new n q b)
 keep b o e hn hX hf:=by
  refine y.keep b o (x.keep b o e hn hX hf) (λn a q=>?_) hX hf;refine dZ (Nat.lt_or_ge n N) (λz=>?_) λz=>?_
  ·exact hn n z ((x.old n z).symm.trans q)
  ·have:=x.new n z a;rw[q,e]at this;exact absurd this.symm nn
 frame b o e hf hX:=by
  refine aV (x.frame b o e hf hX) λsl eo=>?_;refine aV (y.frame b _ eo hf hX) λEo LG=>?_;exact⟨Eo,LG⟩
 live b e:=x.live b (y.live b e)
 eg:=x.eg.trans y.eg
theorem Step.weaken(x:Step X fr ρ N h aq aN ay)(Vn:∀b,X b->Y b):Step Y fr ρ N h aq aN ay:=
 { x with keep:=λb o e hn hY hf=>x.keep b o e hn (λq=>hY (Vn b q)) hf,frame:=λb o e hf hY=>x.frame b o e hf λq=>hY (Vn b q) }
theorem Step.i0{hW:Heap}(x:Step X fr ρ N h aq aN ay){a:ae}{v:Value}(r:bf knd hW h ρ N a v):bf knd hW ay aq aN a v:=r.mono x.eg x.le x.old
theorem Step.gr{hW:Heap}(x:Step X fr ρ N h aq aN ay){as:List ae}{vs:List Value}(r:aP knd hW h ρ N as vs):aP knd hW ay aq aN as vs:=r.mono x.eg x.le x.old
section
variable{aa:Program}{w:World}{knd:KeyKind aa w (Option Str)}{hW h h':Heap}{ρ bq:Nat->Addr}{N N':Nat}{ah:List Env}{H:AH}{X:Addr->Prop}{fr:List Addr}
theorem cg.mono(st:iC h h')(le:N<=N')(ag:∀n,n<N->bq n=ρ n){o:cT}{a:Addr}(e:h'.get? a=h.get? a)(r:cg knd hW h ρ N o a):cg knd hW h' bq N' o a:=by
 cases o with
 |list vs=>obtain⟨ws,n,g,q⟩:=r;exact⟨ws,n,e.trans g,q.mono st le ag⟩
 |dict ks vs=>
  refine fq r ?_;clear r;intro kvs JY k1 k2 q;refine rI JY ?_;clear JY;intro o es ep g r;exact⟨kvs,⟨o,es,ep,e.trans g,r⟩,k1,k2,q.mono st le ag⟩
 |inst c d=>obtain⟨hd,sl,g⟩:=r;exact⟨Nat.lt_of_lt_of_le hd le,sl,by rw[ag d hd];exact e.trans g⟩
 |bg ks vs=>obtain⟨es,n,g,k,q⟩:=r;exact⟨es,n,e.trans g,k,q.mono st le ag⟩
theorem cg.there{C:Prop}{o:cT}{a:Addr}(r:cg knd hW h ρ N o a)(k_:∀ob,h.get? a=some ob->¬bA ob->(∀vs,ob.data≠.fields vs)->C):C:=by
 cases o with
 |list vs=>obtain⟨ws,n,g,q⟩:=r;exact k_ _ g (by rintro(⟨e,_⟩|⟨e,_⟩)<;>simp at e) (by intro vs e;cases e)
 |dict ks vs=>
  refine fq r ?_;clear r;intro kvs JZ k1 k2 q;refine Ei JZ ?_;clear JZ;intro o es ep g e d _;exact k_ _ g (by rintro(⟨e',_⟩|⟨e',_⟩)<;>rw[e.1]at e'<;>simp at e') (by intro vs e;rw[d]at e;cases e)
 |inst c d=>obtain⟨hd,sl,g⟩:=r;exact k_ _ g (by rintro(⟨e,_⟩|⟨e,_⟩)<;>simp at e) (by intro vs e;cases e)
 |bg ks vs=>obtain⟨es,n,g,k,q⟩:=r;exact k_ _ g (by rintro(⟨e,_⟩|⟨e,_⟩)<;>simp at e) (by intro vs e;cases e)
theorem Cells.wK{C:Prop}(x:Cells knd hW ρ H h)(n:Nat)(hn:n<H.next)(k:∀o,H.get n=some o->cg knd hW h ρ H.next o (ρ n)->C):C:=(x.at_ n hn).elim λo z=>k o z.1 z.2
theorem Cells.get(x:Cells knd hW ρ H h){n:Nat}{o:cT}(hn:n<H.next)(e:H.get n=some o):cg knd hW h ρ H.next o (ρ n):=by
 refine x.wK n hn λo' e' r=>?_;rw[e]at e';cases e';exact r
theorem FunFrames.nU{base:Heap}(k:∀b o,h.get? b=some o->(∀vs,o.data≠.fields vs)->∃o',h'.get? b=some o'∧∀vs,o'.data≠.fields vs):∀{l:List Env},h.FunFrames base l->h'.FunFrames base l:=by
 intro zz;induction zz with
 |nil=>
  intro _;exact trivial
 |cons _ _ ih=>
  intro b0;refine dw b0 ?_;clear b0;intro a J0 r;refine pk J0 ?_;clear J0;intro L o b c d e;refine aI (k L o d e) λo' d' e'=>?_;exact⟨a,⟨L,o',b,c,d',e'⟩,ih r⟩
theorem FunFrames.vw{base:Heap}{l:List Env}{L:Addr}(f:h.FunFrames base l)(m:L∈bl l):base.get? L=none∧∃o,h.get? L=some o∧∀vs,o.data≠.fields vs:=by
 induction l with
 |nil=>exact nomatch m
 |cons env r ih=>
  refine dw f ?_;clear f;intro _ J1 q;refine pk J1 ?_;clear J1;intro L' o e b g d;rw[show bl (env::r)=L'::bl r from List.filterMap_cons_some e]at m;rcases List.mem_cons.mp m with rfl|m
  ·exact⟨b,o,g,d⟩
  ·exact ih q m
theorem FunFrames.fN{C:Prop}{base:Heap}{l:List Env}{L:Addr}(f:h.FunFrames base l)(m:L∈bl l)(k:base.get? L=none->∀o,h.get? L=some o->(∀vs,o.data≠.fields vs)->C):C:=(FunFrames.vw f m).2.elim λo z=>k (FunFrames.vw f m).1 o z.1 z.2
theorem RG{C:Prop}{a:Addr}{m:Str->Option Value}(n:h.Ns a m)(k:∀o es ep,h.get? a=some o->o.data=.dict es ep->StrKeys es->(∀name,nsFind es name=m name)->C):C:=n.elim λo z=>z.elim λes z=>z.elim λep z=>k o es ep z.1 z.2.1 z.2.2.1 z.2.2.2
theorem iC.push(h:Heap)(o:Obj):iC h (h.push o):=λ_ ob e _=>⟨ob.slots,Heap.get?_push_of_some o e⟩
theorem uo(o:Obj)(b:Addr)(e:(h.push o).get? b=none):h.get? b=none:=by
 cases q:h.get? b with
 |none=>rfl
 |some ob=>rw[Heap.get?_push_of_some o q]at e;cases e
theorem Step.push(o:Obj):Step X fr ρ N h ρ N (h.push o):=
 { (Step.refl:Step X fr ρ N h ρ N h)with keep:=λb ob e _ _ _=>Heap.get?_push_of_some o e,frame:=λb ob e _ _=>⟨ob.slots,Heap.get?_push_of_some o e⟩,live:=uo o,eg:=.push h o }
theorem St.push(x:St knd hW ah ρ H h)(o:Obj):St knd hW ah ρ H (h.push o) where
 at_ n hn:=by
  refine x.wK n hn λob e r=>?_;refine r.there λoc g _ _=>?_;exact⟨ob,e,r.mono (.push h o) (Nat.le_refl _) (λ_ _=>rfl) ((Heap.get?_push_of_some o g).trans g.symm)⟩
 inj:=x.inj
 out:=x.out
 stays b ob e:=Heap.get?_push_of_some o (x.stays b ob e)
 bW:=FunFrames.nU (λb ob e d=>⟨ob,Heap.get?_push_of_some o e,d⟩) x.bW
 qM:=x.qM
noncomputable def ext(ρ:Nat->Addr)(n:Nat)(a:Addr):Nat->Addr:=λk=>if k=n then a else ρ k
theorem fE{n a k:Nat}(hk:k<n):ext ρ n a k=ρ k:=if_neg (Nat.ne_of_lt hk)
theorem dB{n a:Nat}:ext ρ n a n=a:=if_pos rfl
theorem cC(h:Heap):h.get? h.objs.size=none:=by
 cases q:h.get? h.objs.size with
 |none=>rfl
 |some o=>exact absurd (Heap.lt_size q) (Nat.lt_irrefl _)
theorem Step.bR(o:Obj):Step X fr ρ N h (ext ρ N h.objs.size) (N+1) (h.push o) where
 le:=Nat.le_succ _
 old _ hn:=fE hn
 new n a b:=by
  obtain rfl:n=N:=by omega
  rw[dB];exact cC h
 keep b ob e _ _ _:=Heap.get?_push_of_some o e
 frame b ob e _ _:=⟨ob.slots,Heap.get?_push_of_some o e⟩
 live:=uo o
 eg:=.push h o
theorem St.bR(x:St knd hW ah ρ H h)(o:Obj)(ao:cT)(rel:cg knd hW (h.push o) (ext ρ H.next h.objs.size) (H.next+1) ao h.objs.size):
  St knd hW ah (ext ρ H.next h.objs.size) (H.new ao) (h.push o) where
 at_ n hn:=by
  change n<H.next+1 at hn
  by_cases q:n=H.next
  ·subst q;exact⟨ao,if_pos rfl,by rw[dB];exact rel⟩
  ·have NX:n<H.next:=by omega
   refine x.wK n NX λob e r=>?_;refine r.there λoc g _ _=>?_;refine⟨ob,(if_neg q).trans e,?_⟩;rw[fE NX];exact r.mono (.push h o) (Nat.le_succ _) (λ_ z=>fE z) ((Heap.get?_push_of_some o g).trans g.symm)
 inj n m hn hm e:=by
  change n<H.next+1 at hn;change m<H.next+1 at hm;have lt:∀k,k<H.next->ρ k≠h.objs.size:=λk hk q=>by
   refine x.wK k hk λob _ r=>?_;refine r.there λoc g _ _=>?_;rw[q,cC h]at g;exact absurd g nn
  unfold ext at e;split at e<;>split at e
  ·omega
  ·exact absurd e.symm (lt m (by omega))
  ·exact absurd e (lt n (by omega))
  ·exact x.inj n m (by omega) (by omega) e
 out n hn:=by
  change n<H.next+1 at hn;unfold ext;split
  ·exact x.stays.fresh
  ·exact x.out n (by omega)
 stays b ob e:=Heap.get?_push_of_some o (x.stays b ob e)
 bW:=FunFrames.nU (λb ob e d=>⟨ob,Heap.get?_push_of_some o e,d⟩) x.bW
 qM n hn:=by
  change n<H.next+1 at hn;unfold ext;split
  ·intro m
   refine FunFrames.fN x.bW m λ_ o g _=>?_;rw[cC h]at g;exact absurd g nn
  ·exact x.qM n (by omega)
theorem pw{a:Addr}(hs:Heap.SameBut a h h'){ob:Obj}(g:h'.get? a=some ob)(b:Addr)(e:h'.get? b=none):h.get? b=none:=by
 by_cases q:b=a
 ·subst q;rw[g]at e;exact absurd e.symm nn
 ·exact(hs.2 b q).symm.trans e
theorem bP{a:Addr}(hs:Heap.SameBut a h h'){ob:Obj}(g:h.get? a=some ob)(nf:¬bA ob):iC h h':=λb o e f=>by
 by_cases q:b=a
 ·subst q;rw[g]at e;cases e;exact absurd f nf
 ·exact⟨o.slots,(hs.2 b q).trans e⟩
theorem Step.setCell{n:Nat}(hn:n<N){ob xa:Obj}(hs:Heap.SameBut (ρ n) h h')(g:h.get? (ρ n)=some ob)(nf:¬bA ob)(g':h'.get? (ρ n)=some xa)(rQ:ρ n∉fr):Step X fr ρ N h ρ N h':=
 { (Step.refl:Step X fr ρ N h ρ N h)with
  keep:=λb o e hb _ _=>(hs.2 b λq=>hb n hn q.symm).trans e
  frame:=λb o e hf _=>⟨o.slots,(hs.2 b λq=>rQ (q▸hf)).trans e⟩
  live:=pw hs g'
  eg:=bP hs g nf }
theorem St.setCell(x:St knd hW ah ρ H h){n:Nat}(hn:n<H.next)(hs:Heap.SameBut (ρ n) h h'){ao:cT}(rel:cg knd hW h' ρ H.next ao (ρ n)):St knd hW ah ρ (H.set n ao) h':=by
 refine x.wK n hn λSu Sv xb=>?_;refine xb.there λob g nf d=>?_;refine rel.there λxa g' Vo d'=>?_;have st:=bP hs g nf;exact{
  at_:=λm hm=>by
   change m<H.next at hm
   by_cases q:m=n
   ·subst q;exact⟨ao,if_pos rfl,rel⟩
   ·refine x.wK m hm λo e r=>?_
    exact⟨o,(if_neg q).trans e,r.mono st (Nat.le_refl _) (λ_ _=>rfl) (hs.2 _ λz=>q (x.inj m n hm hn z))⟩
  inj:=x.inj
  out:=x.out
  stays:=λb o e=>(hs.2 b λq=>by rw[q,x.out n hn]at e;cases e).trans (x.stays b o e)
  bW:=FunFrames.nU (λb o e f=>by
   by_cases q:b=ρ n
   ·subst q;exact⟨xa,g',d'⟩
   ·exact⟨o,(hs.2 b q).trans e,f⟩) x.bW
  qM:=x.qM }
theorem St.ju(x:St knd hW ah ρ H h){n:Nat}(hn:n<H.next)(hs:Heap.SameBut (ρ n) h h'){ao:cT}(rel:cg knd hW h' ρ H.next ao (ρ n)):Step X (bl ah) ρ H.next h ρ H.next h':=by
 refine x.wK n hn λSu Sv xb=>?_;refine xb.there λob g nf d=>?_;refine rel.there λxa g' Vo d'=>?_;exact .setCell hn hs g nf g' (x.qM n hn)
theorem St.mY(x:St knd hW ah ρ H h){a:Addr}(ha:∀n,n<H.next->ρ n≠a)(hb:hW.get? a=none)(hs:Heap.SameBut a h h'){ob xa:Obj}(g:h.get? a=some ob)(nf:¬bA ob)
  (g':h'.get? a=some xa) (d':∀vs,xa.data≠.fields vs):St knd hW ah ρ H h' where
 at_ m hm:=by
  refine x.wK m hm λo e r=>?_;exact⟨o,e,r.mono (bP hs g nf) (Nat.le_refl _) (λ_ _=>rfl) (hs.2 _ (ha m hm))⟩
 inj:=x.inj
 out:=x.out
 stays b o e:=(hs.2 b λq=>by rw[q,hb]at e;cases e).trans (x.stays b o e)
 bW:=FunFrames.nU (λb o e f=>by
   by_cases q:b=a
   ·subst q;exact⟨xa,g',d'⟩
   ·exact⟨o,(hs.2 b q).trans e,f⟩) x.bW
 qM:=x.qM
theorem Step.mY{a:Addr}(hX:X a)(hs:Heap.SameBut a h h'){ob xa:Obj}(g:h.get? a=some ob)(nf:¬bA ob)(g':h'.get? a=some xa):Step X fr ρ N h ρ N h':=
 { (Step.refl:Step X fr ρ N h ρ N h)with
  keep:=λb o e _ hb _=>(hs.2 b λq=>hb (q▸hX)).trans e
  frame:=λb o e _ hb=>⟨o.slots,(hs.2 b λq=>hb (q▸hX)).trans e⟩
  live:=pw hs g'
  eg:=bP hs g nf }
end
section
variable{aa:Program}{w:World}(knd:KeyKind aa w (Option Str))
structure bJ(hW h:Heap)(ρ:Nat->Addr)(N:Nat)(fr:List Addr)(env:Env)(l:Loc):Prop where
 fn:env.scope.kind=.function
 glob:env.globals=mainGlobals
 blt:env.builtins=builtinsNs
 dict:∃m,h.Ns env.locals m∧∀x v,aJ x l=some v->aK x≠(".0" : Str)->env.kindOf (aK x)=some .local->∃w,m (aK x)=some w∧bf knd hW h ρ N v w
 cell:∀x,(env.kindOf x=some .cell∨env.kindOf x=some .free)->∃c,env.cells.lookup x=some c
 tB:∀x v,aJ x l=some v->(env.kindOf (aK x)=some .cell∨env.kindOf (aK x)=some .free)->∃c w,env.cells.lookup (aK x)=some c∧h.IsCell c (some w)∧bf knd hW h ρ N v w
 kM:(∀n,n<N->ρ n≠env.locals)∧hW.get? env.locals=none
 xc:∀x c,env.cells.lookup x=some c->(∃qN,h.IsCell c qN)∧(∀n,n<N->ρ n≠c)∧hW.get? c=none∧c∉fr∧c≠env.locals
 sep:∀x y c,env.cells.lookup x=some c->env.cells.lookup y=some c->x=y
 frame:∃L,env.frame=some L∧fr.head? = some L
end
noncomputable def Own(env:Env)(b:Addr):Prop:=b=env.locals∨∃x,env.cells.lookup x=some b
section
variable{aa:Program}{w:World}{knd:KeyKind aa w (Option Str)}{hW h:Heap}{ρ:Nat->Addr}{N:Nat}{fr:List Addr}{env:Env}{l:Loc}{C:Prop}
theorem bJ.kj(r:bJ knd hW h ρ N fr env l)(k:∀m,h.Ns env.locals m->(∀x v,aJ x l=some v->aK x≠(".0" : Str)->env.kindOf (aK x)=some .local->∃w,m (aK x)=some w∧bf knd hW h ρ N v w)->C):C:=r.dict.elim λm z=>k m z.1 z.2
theorem bJ.nV(r:bJ knd hW h ρ N fr env l)(x:String)(v:ae)(e:aJ x l=some v)(e':env.kindOf (aK x)=some .cell∨env.kindOf (aK x)=some .free)(k:∀c w,env.cells.lookup (aK x)=some c->h.IsCell c (some w)->bf knd hW h ρ N v w->C):C:=(r.tB x v e e').elim λc z=>z.elim λw z=>k c w z.1 z.2.1 z.2.2
theorem bJ.nW(r:bJ knd hW h ρ N fr env l)(x:Str)(c:Addr)(e:env.cells.lookup x=some c)(k:(∃qN,h.IsCell c qN)->(∀n,n<N->ρ n≠c)->hW.get? c=none->c∉fr->c≠env.locals->C):C:=have z:=r.xc x c e;k z.1 z.2.1 z.2.2.1 z.2.2.2.1 z.2.2.2.2
theorem bJ.vy(r:bJ knd hW h ρ N fr env l)(k:∀L,env.frame=some L->fr.head? = some L->C):C:=r.frame.elim λL z=>k L z.1 z.2
end
theorem Ep{h h':Heap}{a:Addr}{m:Str->Option Value}(n:h.Ns a m)(k:∀o,h.get? a=some o->∃sl,h'.get? a=some { o with slots:=sl }):h'.Ns a m:=by
 refine ft n ?_;clear n;intro o es ep g d r;refine aV (k o g) λsl g'=>?_;exact⟨_,es,ep,g',d,r⟩
theorem bJ.step{aa:Program}{w:World}{knd:KeyKind aa w (Option Str)}{hW h h':Heap}{ρ bq:Nat->Addr}{N N':Nat}{fr Sw:List Addr}{env:Env}{l:Loc}{X:Addr->Prop}(r:bJ knd hW h ρ N fr env l)(s:Step X Sw ρ N h bq N' h')(rQ:∀b,b∈Sw->b∈fr)
  (hX:∀b,X b->¬Own env b):bJ knd hW h' bq N' fr env l where
 fn:=r.fn
 glob:=r.glob
 blt:=r.blt
 dict:=by
  refine r.kj λm n q=>?_;refine⟨m,Ep n λo g=>?_,λx v e z k=>?_⟩
  ·have nX:¬X env.locals:=λz=>hX _ z (.inl rfl)
   by_cases z:env.locals∈Sw
   ·exact s.frame _ o g z nX
   ·exact⟨o.slots,s.keep _ o g r.kM.1 nX z⟩
  ·obtain⟨w,a,b⟩:=q x v e z k;exact⟨w,a,s.i0 b⟩
 cell:=r.cell
 tB x v e k:=by
  refine r.nV x v e k λc w e' z1 q=>?_;refine aI z1 ?_;clear z1;intro o g d;refine r.nW _ c e' λ_ a1 a2 a3 a4=>?_;exact⟨c,w,e',⟨o,s.keep _ _ g a1 (λz=>hX _ z (.inr ⟨_,e'⟩)) (λz=>a3 (rQ _ z)),d⟩,s.i0 q⟩
 kM:=by
  refine⟨λn hn e=>?_,r.kM.2⟩;refine r.kj λm q _=>?_;refine rI q ?_;clear q;intro o _ _ g _;refine dZ (Nat.lt_or_ge n N) (λz=>?_) λz=>?_
  ·exact r.kM.1 n z ((s.old n z).symm.trans e)
  ·have:=s.new n z hn;rw[e,g]at this;exact absurd this.symm nn
 xc x c e:=by
  refine r.nW x c e λz1 a1 a2 a3 a4=>?_;refine aO z1 ?_;clear z1;intro qN o g d;refine⟨⟨qN,o,s.keep _ _ g a1 (λz=>hX _ z (.inr ⟨_,e⟩)) (λz=>a3 (rQ _ z)),d⟩,λn hn q=>?_,a2,a3,a4⟩;refine dZ (Nat.lt_or_ge n N) (λz=>?_) λz=>?_
  ·exact a1 n z ((s.old n z).symm.trans q)
  ·have:=s.new n z hn;rw[q,g]at this;exact absurd this.symm nn
 sep:=r.sep
 frame:=r.frame
section
theorem ff:¬false=true:=Bool.false_ne_true
theorem az{a b:Bool}(h:(a&&b)=true):a=true∧b=true:=Bool.and_eq_true_iff.mp h
theorem aL{a b:Bool}(h:(a&&b)=true):a=true:=(az h).1
theorem aR{a b:Bool}(h:(a&&b)=true):b=true:=(az h).2
theorem WU{a b:Bool}{P:Prop}(k:a=true->P)(h:(a&&b)=true):P∧b=true:=⟨k (az h).1,(az h).2⟩
theorem mA{a:Bool}(h:(!a)=true):a=false:=by cases a;rfl;exact absurd h Bool.false_ne_true
noncomputable def gX{α:Type}(l:List α)(k:α->Bool):Bool:=match l with
 |x::r=>(match r with|[]=>k x|_=>false)
 |[]=>false
theorem eP{C:Prop}{α:Type}{l:List α}{k:α->Bool}(h:gX l k=true)(k_:∀x,l=[x]->k x=true->C):C:=by
 cases l with
 |nil=>exact absurd h ff
 |cons x r=>cases r with
  |nil=>exact k_ x rfl h
  |cons _ _=>exact absurd h ff
noncomputable def rR{α:Type}(l:List α)(k:α->α->Bool):Bool:=match l with
 |x::r=>gX r (k x)
 |[]=>false
theorem px{C:Prop}{α:Type}{l:List α}{k:α->α->Bool}(h:rR l k=true)(k_:∀x y,l=[x,y]->k x y=true->C):C:=by
 cases l with
 |nil=>exact absurd h ff
 |cons x r=>
  refine eP h λy z1 h=>?_;subst z1;exact k_ x y rfl h
noncomputable def cq{α:Type}(o:Option α)(k:α->Bool):Bool:=match o with
 |some x=>k x
 |none=>false
theorem bQ{C:Prop}{α:Type}{o:Option α}{k:α->Bool}(h:cq o k=true)(k_:∀x,o=some x->k x=true->C):C:=by
 cases o with
 |none=>exact absurd h ff
 |some x=>exact k_ x rfl h
noncomputable def isNil{α:Type}:List α->Bool
 |[]=>true
 |_::_=>false
theorem bF{α:Type}{l:List α}(h:isNil l=true):l=[]:=by
 cases l with
 |nil=>rfl
 |cons _ _=>exact absurd h ff
noncomputable def qO{α:Type}:Option α->Bool
 |none=>true
 |some _=>false
theorem mG{α:Type}{l:Option α}(h:qO l=true):l=none:=by
 cases l with
 |none=>rfl
 |some _=>exact absurd h ff
set_option genInjectivity false
set_option genSizeOf false
structure EV where
 tag:Nat
 a0:Str
 a1:Pos
 a2:List Expr
 a3:Nat
 a4:List (Option Expr)
 a5:Expr
 a6:Expr
 a7:Expr
 a8:Option Expr
 a9:Option Expr
 Vp:Option Expr
 Vq:List Keyword
 Vr:Operator
 Vs:List CmpOp
 OB:BoolOp
 Vt:UnaryOp
 Vu:List Comprehension
 Vv:Scope
 Vw:Const
noncomputable def EV.of(e:Expr):EV:=match e with
 | .Name id p=>⟨1,id,p,[],0,[],Expr.Yield none ⟨0,0,0,0⟩,Expr.Yield none ⟨0,0,0,0⟩,Expr.Yield none ⟨0,0,0,0⟩,none,none,none,[],.Add,[],.And,.Not,[],⟨.module,[],false,false,[]⟩,.none⟩
 | .Tuple fs j p=>⟨2,⟨#[]⟩,p,fs,j,[],Expr.Yield none ⟨0,0,0,0⟩,Expr.Yield none ⟨0,0,0,0⟩,Expr.Yield none ⟨0,0,0,0⟩,none,none,none,[],.Add,[],.And,.Not,[],⟨.module,[],false,false,[]⟩,.none⟩
 | .List fs p=>⟨3,⟨#[]⟩,p,fs,0,[],Expr.Yield none ⟨0,0,0,0⟩,Expr.Yield none ⟨0,0,0,0⟩,Expr.Yield none ⟨0,0,0,0⟩,none,none,none,[],.Add,[],.And,.Not,[],⟨.module,[],false,false,[]⟩,.none⟩
 | .Dict ls fs p=>⟨4,⟨#[]⟩,p,fs,0,ls,Expr.Yield none ⟨0,0,0,0⟩,Expr.Yield none ⟨0,0,0,0⟩,Expr.Yield none ⟨0,0,0,0⟩,none,none,none,[],.Add,[],.And,.Not,[],⟨.module,[],false,false,[]⟩,.none⟩
 | .Attribute f b p=>⟨5,b,p,[],0,[],f,Expr.Yield none ⟨0,0,0,0⟩,Expr.Yield none ⟨0,0,0,0⟩,none,none,none,[],.Add,[],.And,.Not,[],⟨.module,[],false,false,[]⟩,.none⟩
 | .Subscript f j p=>⟨6,⟨#[]⟩,p,[],0,[],f,j,Expr.Yield none ⟨0,0,0,0⟩,none,none,none,[],.Add,[],.And,.Not,[],⟨.module,[],false,false,[]⟩,.none⟩
 | .Slice a b c p=>⟨7,⟨#[]⟩,p,[],0,[],Expr.Yield none ⟨0,0,0,0⟩,Expr.Yield none ⟨0,0,0,0⟩,Expr.Yield none ⟨0,0,0,0⟩,a,b,c,[],.Add,[],.And,.Not,[],⟨.module,[],false,false,[]⟩,.none⟩
 | .Call g fs kw p=>⟨8,⟨#[]⟩,p,fs,0,[],g,Expr.Yield none ⟨0,0,0,0⟩,Expr.Yield none ⟨0,0,0,0⟩,none,none,none,kw,.Add,[],.And,.Not,[],⟨.module,[],false,false,[]⟩,.none⟩
 | .BinOp a o b p=>⟨9,⟨#[]⟩,p,[],0,[],a,b,Expr.Yield none ⟨0,0,0,0⟩,none,none,none,[],o,[],.And,.Not,[],⟨.module,[],false,false,[]⟩,.none⟩
 | .Compare a os bs p=>⟨10,⟨#[]⟩,p,bs,0,[],a,Expr.Yield none ⟨0,0,0,0⟩,Expr.Yield none ⟨0,0,0,0⟩,none,none,none,[],.Add,os,.And,.Not,[],⟨.module,[],false,false,[]⟩,.none⟩
 | .BoolOp o fs p=>⟨11,⟨#[]⟩,p,fs,0,[],Expr.Yield none ⟨0,0,0,0⟩,Expr.Yield none ⟨0,0,0,0⟩,Expr.Yield none ⟨0,0,0,0⟩,none,none,none,[],.Add,[],o,.Not,[],⟨.module,[],false,false,[]⟩,.none⟩
 | .UnaryOp o f p=>⟨12,⟨#[]⟩,p,[],0,[],f,Expr.Yield none ⟨0,0,0,0⟩,Expr.Yield none ⟨0,0,0,0⟩,none,none,none,[],.Add,[],.And,o,[],⟨.module,[],false,false,[]⟩,.none⟩
 | .IfExp a b c p=>⟨13,⟨#[]⟩,p,[],0,[],a,b,c,none,none,none,[],.Add,[],.And,.Not,[],⟨.module,[],false,false,[]⟩,.none⟩
 | .ListComp f gs s p=>⟨14,⟨#[]⟩,p,[],0,[],f,Expr.Yield none ⟨0,0,0,0⟩,Expr.Yield none ⟨0,0,0,0⟩,none,none,none,[],.Add,[],.And,.Not,gs,s,.none⟩
 | .Constant c j p=>⟨15,⟨#[]⟩,p,[],j,[],Expr.Yield none ⟨0,0,0,0⟩,Expr.Yield none ⟨0,0,0,0⟩,Expr.Yield none ⟨0,0,0,0⟩,none,none,none,[],.Add,[],.And,.Not,[],⟨.module,[],false,false,[]⟩,c⟩
 |_=>⟨0,⟨#[]⟩,⟨0,0,0,0⟩,[],0,[],Expr.Yield none ⟨0,0,0,0⟩,Expr.Yield none ⟨0,0,0,0⟩,Expr.Yield none ⟨0,0,0,0⟩,none,none,none,[],.Add,[],.And,.Not,[],⟨.module,[],false,false,[]⟩,.none⟩
noncomputable def EV.back(n:Nat)(v:EV)(e:Expr):Expr:=match n with
 |1=>.Name v.a0 v.a1
 |2=>.Tuple v.a2 v.a3 v.a1
 |3=>.List v.a2 v.a1
 |4=>.Dict v.a4 v.a2 v.a1
 |5=>.Attribute v.a5 v.a0 v.a1
 |6=>.Subscript v.a5 v.a6 v.a1
 |7=>.Slice v.a8 v.a9 v.Vp v.a1
 |8=>.Call v.a5 v.a2 v.Vq v.a1
 |9=>.BinOp v.a5 v.Vr v.a6 v.a1
 |10=>.Compare v.a5 v.Vs v.a2 v.a1
 |11=>.BoolOp v.OB v.a2 v.a1
 |12=>.UnaryOp v.Vt v.a5 v.a1
 |13=>.IfExp v.a5 v.a6 v.a7 v.a1
 |14=>.ListComp v.a5 v.Vu v.Vv v.a1
 |15=>.Constant v.Vw v.a3 v.a1
 |_=>e
theorem EV.vA(e:Expr):EV.back (EV.of e).tag (EV.of e) e=e:=by cases e<;>rfl
theorem EV.is{e:Expr}{n:Nat}(h:Nat.beq (EV.of e).tag n=true):e=EV.back n (EV.of e) e:=(Nat.eq_of_beq_eq_true h▸EV.vA e).symm
noncomputable def eName(e:Expr)(k:Str->Pos->Bool):Bool:=Nat.beq (EV.of e).tag 1&&k (EV.of e).a0 (EV.of e).a1
theorem fY{C:Prop}{e:Expr}{k:Str->Pos->Bool}(h:eName e k=true)(k_:∀id p,e=.Name id p->k id p=true->C):C:=k_ _ _ (EV.is (az h).1) ((az h).2)
noncomputable def tC(e:Expr)(k:List Expr->Nat->Pos->Bool):Bool:=Nat.beq (EV.of e).tag 2&&k (EV.of e).a2 (EV.of e).a3 (EV.of e).a1
theorem uq{C:Prop}{e:Expr}{k:List Expr->Nat->Pos->Bool}(h:tC e k=true)(k_:∀fs j p,e=.Tuple fs j p->k fs j p=true->C):C:=k_ _ _ _ (EV.is (az h).1) ((az h).2)
noncomputable def eList(e:Expr)(k:List Expr->Pos->Bool):Bool:=Nat.beq (EV.of e).tag 3&&k (EV.of e).a2 (EV.of e).a1
theorem LH{C:Prop}{e:Expr}{k:List Expr->Pos->Bool}(h:eList e k=true)(k_:∀fs p,e=.List fs p->k fs p=true->C):C:=k_ _ _ (EV.is (az h).1) ((az h).2)
noncomputable def J2(e:Expr)(k:List (Option Expr)->List Expr->Pos->Bool):Bool:=Nat.beq (EV.of e).tag 4&&k (EV.of e).a4 (EV.of e).a2 (EV.of e).a1
theorem LI{C:Prop}{e:Expr}{k:List (Option Expr)->List Expr->Pos->Bool}(h:J2 e k=true)(k_:∀ls fs p,e=.Dict ls fs p->k ls fs p=true->C):C:=k_ _ _ _ (EV.is (az h).1) ((az h).2)
noncomputable def qg(e:Expr)(k:Expr->Str->Pos->Bool):Bool:=Nat.beq (EV.of e).tag 5&&k (EV.of e).a5 (EV.of e).a0 (EV.of e).a1
theorem pz{C:Prop}{e:Expr}{k:Expr->Str->Pos->Bool}(h:qg e k=true)(k_:∀f b p,e=.Attribute f b p->k f b p=true->C):C:=k_ _ _ _ (EV.is (az h).1) ((az h).2)
noncomputable def CI(e:Expr)(k:Expr->Expr->Pos->Bool):Bool:=Nat.beq (EV.of e).tag 6&&k (EV.of e).a5 (EV.of e).a6 (EV.of e).a1
theorem xd{C:Prop}{e:Expr}{k:Expr->Expr->Pos->Bool}(h:CI e k=true)(k_:∀f j p,e=.Subscript f j p->k f j p=true->C):C:=k_ _ _ _ (EV.is (az h).1) ((az h).2)
noncomputable def rS(e:Expr)(k:Option Expr->Option Expr->Option Expr->Pos->Bool):Bool:=Nat.beq (EV.of e).tag 7&&k (EV.of e).a8 (EV.of e).a9 (EV.of e).Vp (EV.of e).a1
theorem vB{C:Prop}{e:Expr}{k:Option Expr->Option Expr->Option Expr->Pos->Bool}(h:rS e k=true)(k_:∀a b c p,e=.Slice a b c p->k a b c p=true->C):C:=k_ _ _ _ _ (EV.is (az h).1) ((az h).2)
noncomputable def rT(e:Expr)(k:Expr->List Expr->List Keyword->Pos->Bool):Bool:=Nat.beq (EV.of e).tag 8&&k (EV.of e).a5 (EV.of e).a2 (EV.of e).Vq (EV.of e).a1
theorem rU{C:Prop}{e:Expr}{k:Expr->List Expr->List Keyword->Pos->Bool}(h:rT e k=true)(k_:∀g fs kw p,e=.Call g fs kw p->k g fs kw p=true->C):C:=k_ _ _ _ _ (EV.is (az h).1) ((az h).2)
noncomputable def OC(e:Expr)(k:Expr->Operator->Expr->Pos->Bool):Bool:=Nat.beq (EV.of e).tag 9&&k (EV.of e).a5 (EV.of e).Vr (EV.of e).a6 (EV.of e).a1
theorem OD{C:Prop}{e:Expr}{k:Expr->Operator->Expr->Pos->Bool}(h:OC e k=true)(k_:∀a o b p,e=.BinOp a o b p->k a o b p=true->C):C:=k_ _ _ _ _ (EV.is (az h).1) ((az h).2)
noncomputable def LJ(e:Expr)(k:Expr->List CmpOp->List Expr->Pos->Bool):Bool:=Nat.beq (EV.of e).tag 10&&k (EV.of e).a5 (EV.of e).Vs (EV.of e).a2 (EV.of e).a1
theorem J3{C:Prop}{e:Expr}{k:Expr->List CmpOp->List Expr->Pos->Bool}(h:LJ e k=true)(k_:∀a os bs p,e=.Compare a os bs p->k a os bs p=true->C):C:=k_ _ _ _ _ (EV.is (az h).1) ((az h).2)
noncomputable def Bz(e:Expr)(k:BoolOp->List Expr->Pos->Bool):Bool:=Nat.beq (EV.of e).tag 11&&k (EV.of e).OB (EV.of e).a2 (EV.of e).a1
theorem LK{C:Prop}{e:Expr}{k:BoolOp->List Expr->Pos->Bool}(h:Bz e k=true)(k_:∀o fs p,e=.BoolOp o fs p->k o fs p=true->C):C:=k_ _ _ _ (EV.is (az h).1) ((az h).2)
noncomputable def RH(e:Expr)(k:UnaryOp->Expr->Pos->Bool):Bool:=Nat.beq (EV.of e).tag 12&&k (EV.of e).Vt (EV.of e).a5 (EV.of e).a1
theorem LL{C:Prop}{e:Expr}{k:UnaryOp->Expr->Pos->Bool}(h:RH e k=true)(k_:∀o f p,e=.UnaryOp o f p->k o f p=true->C):C:=k_ _ _ _ (EV.is (az h).1) ((az h).2)
noncomputable def Vx(e:Expr)(k:Expr->Expr->Expr->Pos->Bool):Bool:=Nat.beq (EV.of e).tag 13&&k (EV.of e).a5 (EV.of e).a6 (EV.of e).a7 (EV.of e).a1
theorem Sx{C:Prop}{e:Expr}{k:Expr->Expr->Expr->Pos->Bool}(h:Vx e k=true)(k_:∀a b c p,e=.IfExp a b c p->k a b c p=true->C):C:=k_ _ _ _ _ (EV.is (az h).1) ((az h).2)
noncomputable def J4(e:Expr)(k:Expr->List Comprehension->Scope->Pos->Bool):Bool:=Nat.beq (EV.of e).tag 14&&k (EV.of e).a5 (EV.of e).Vu (EV.of e).Vv (EV.of e).a1
theorem LM{C:Prop}{e:Expr}{k:Expr->List Comprehension->Scope->Pos->Bool}(h:J4 e k=true)(k_:∀f gs s p,e=.ListComp f gs s p->k f gs s p=true->C):C:=k_ _ _ _ _ (EV.is (az h).1) ((az h).2)
noncomputable def Es(e:Expr)(k:Const->Nat->Pos->Bool):Bool:=Nat.beq (EV.of e).tag 15&&k (EV.of e).Vw (EV.of e).a3 (EV.of e).a1
theorem BA{C:Prop}{e:Expr}{k:Const->Nat->Pos->Bool}(h:Es e k=true)(k_:∀c j p,e=.Constant c j p->k c j p=true->C):C:=k_ _ _ _ (EV.is (az h).1) ((az h).2)
structure SV where
 tag:Nat
 a0:Expr
 a1:Expr
 a2:Pos
 a3:List Expr
 a4:List Stmt
 a5:List Stmt
 a6:List Stmt
 a7:Option Expr
 a8:Option Expr
 a9:List ExceptHandler
noncomputable def SV.of(e:Stmt):SV:=match e with
 | .Expr f p=>⟨1,f,Expr.Yield none ⟨0,0,0,0⟩,p,[],[],[],[],none,none,[]⟩
 | .Assign ts f p=>⟨2,f,Expr.Yield none ⟨0,0,0,0⟩,p,ts,[],[],[],none,none,[]⟩
 | .If c a b p=>⟨3,c,Expr.Yield none ⟨0,0,0,0⟩,p,[],a,b,[],none,none,[]⟩
 | .While c a b p=>⟨4,c,Expr.Yield none ⟨0,0,0,0⟩,p,[],a,b,[],none,none,[]⟩
 | .For t i a b p=>⟨5,t,i,p,[],a,b,[],none,none,[]⟩
 | .Return f p=>⟨6,Expr.Yield none ⟨0,0,0,0⟩,Expr.Yield none ⟨0,0,0,0⟩,p,[],[],[],[],f,none,[]⟩
 | .Raise a b p=>⟨7,Expr.Yield none ⟨0,0,0,0⟩,Expr.Yield none ⟨0,0,0,0⟩,p,[],[],[],[],a,b,[]⟩
 | .Try a hs b c p=>⟨8,Expr.Yield none ⟨0,0,0,0⟩,Expr.Yield none ⟨0,0,0,0⟩,p,[],a,b,c,none,none,hs⟩
 | .Continue p=>⟨9,Expr.Yield none ⟨0,0,0,0⟩,Expr.Yield none ⟨0,0,0,0⟩,p,[],[],[],[],none,none,[]⟩
 |_=>⟨0,Expr.Yield none ⟨0,0,0,0⟩,Expr.Yield none ⟨0,0,0,0⟩,⟨0,0,0,0⟩,[],[],[],[],none,none,[]⟩
noncomputable def SV.back(n:Nat)(v:SV)(e:Stmt):Stmt:=match n with
 |1=>.Expr v.a0 v.a2
 |2=>.Assign v.a3 v.a0 v.a2
 |3=>.If v.a0 v.a4 v.a5 v.a2
 |4=>.While v.a0 v.a4 v.a5 v.a2
 |5=>.For v.a0 v.a1 v.a4 v.a5 v.a2
 |6=>.Return v.a7 v.a2
 |7=>.Raise v.a7 v.a8 v.a2
 |8=>.Try v.a4 v.a9 v.a5 v.a6 v.a2
 |9=>.Continue v.a2
 |_=>e
theorem SV.vA(e:Stmt):SV.back (SV.of e).tag (SV.of e) e=e:=by cases e<;>rfl
theorem SV.is{e:Stmt}{n:Nat}(h:Nat.beq (SV.of e).tag n=true):e=SV.back n (SV.of e) e:=(Nat.eq_of_beq_eq_true h▸SV.vA e).symm
@[irreducible] noncomputable def BB(e:Stmt)(k:Expr->Pos->Bool):Bool:=Nat.beq (SV.of e).tag 1&&k (SV.of e).a0 (SV.of e).a2
theorem Et{C:Prop}{e:Stmt}{k:Expr->Pos->Bool}(h:BB e k=true)(k_:∀f p,e=.Expr f p->k f p=true->C):C:=by unfold BB at h;exact k_ _ _ (SV.is (az h).1) ((az h).2)
@[irreducible] noncomputable def xe(e:Stmt)(k:List Expr->Expr->Pos->Bool):Bool:=Nat.beq (SV.of e).tag 2&&k (SV.of e).a3 (SV.of e).a0 (SV.of e).a2
theorem ur{C:Prop}{e:Stmt}{k:List Expr->Expr->Pos->Bool}(h:xe e k=true)(k_:∀ts f p,e=.Assign ts f p->k ts f p=true->C):C:=by unfold xe at h;exact k_ _ _ _ (SV.is (az h).1) ((az h).2)
@[irreducible] noncomputable def Eu(e:Stmt)(k:Expr->List Stmt->List Stmt->Pos->Bool):Bool:=Nat.beq (SV.of e).tag 3&&k (SV.of e).a0 (SV.of e).a4 (SV.of e).a5 (SV.of e).a2
theorem LN{C:Prop}{e:Stmt}{k:Expr->List Stmt->List Stmt->Pos->Bool}(h:Eu e k=true)(k_:∀c a b p,e=.If c a b p->k c a b p=true->C):C:=by unfold Eu at h;exact k_ _ _ _ _ (SV.is (az h).1) ((az h).2)
@[irreducible] noncomputable def zH(e:Stmt)(k:Expr->List Stmt->List Stmt->Pos->Bool):Bool:=Nat.beq (SV.of e).tag 4&&k (SV.of e).a0 (SV.of e).a4 (SV.of e).a5 (SV.of e).a2
theorem Ia{C:Prop}{e:Stmt}{k:Expr->List Stmt->List Stmt->Pos->Bool}(h:zH e k=true)(k_:∀c a b p,e=.While c a b p->k c a b p=true->C):C:=by unfold zH at h;exact k_ _ _ _ _ (SV.is (az h).1) ((az h).2)
@[irreducible] noncomputable def Ib(e:Stmt)(k:Expr->Expr->List Stmt->List Stmt->Pos->Bool):Bool:=Nat.beq (SV.of e).tag 5&&k (SV.of e).a0 (SV.of e).a1 (SV.of e).a4 (SV.of e).a5 (SV.of e).a2
theorem J5{C:Prop}{e:Stmt}{k:Expr->Expr->List Stmt->List Stmt->Pos->Bool}(h:Ib e k=true)(k_:∀t i a b p,e=.For t i a b p->k t i a b p=true->C):C:=by unfold Ib at h;exact k_ _ _ _ _ _ (SV.is (az h).1) ((az h).2)
@[irreducible] noncomputable def Ew(e:Stmt)(k:Option Expr->Pos->Bool):Bool:=Nat.beq (SV.of e).tag 6&&k (SV.of e).a7 (SV.of e).a2
theorem Ey{C:Prop}{e:Stmt}{k:Option Expr->Pos->Bool}(h:Ew e k=true)(k_:∀f p,e=.Return f p->k f p=true->C):C:=by unfold Ew at h;exact k_ _ _ (SV.is (az h).1) ((az h).2)
@[irreducible] noncomputable def vC(e:Stmt)(k:Option Expr->Option Expr->Pos->Bool):Bool:=Nat.beq (SV.of e).tag 7&&k (SV.of e).a7 (SV.of e).a8 (SV.of e).a2
theorem BC{C:Prop}{e:Stmt}{k:Option Expr->Option Expr->Pos->Bool}(h:vC e k=true)(k_:∀a b p,e=.Raise a b p->k a b p=true->C):C:=by unfold vC at h;exact k_ _ _ _ (SV.is (az h).1) ((az h).2)
@[irreducible] noncomputable def Ic(e:Stmt)(k:List Stmt->List ExceptHandler->List Stmt->List Stmt->Pos->Bool):Bool:=Nat.beq (SV.of e).tag 8&&k (SV.of e).a4 (SV.of e).a9 (SV.of e).a5 (SV.of e).a6 (SV.of e).a2
theorem J6{C:Prop}{e:Stmt}{k:List Stmt->List ExceptHandler->List Stmt->List Stmt->Pos->Bool}(h:Ic e k=true)(k_:∀a hs b c p,e=.Try a hs b c p->k a hs b c p=true->C):C:=by unfold Ic at h;exact k_ _ _ _ _ _ (SV.is (az h).1) ((az h).2)
@[irreducible] noncomputable def Ez(e:Stmt)(k:Pos->Bool):Bool:=Nat.beq (SV.of e).tag 9&&k (SV.of e).a2
theorem LO{C:Prop}{e:Stmt}{k:Pos->Bool}(h:Ez e k=true)(k_:∀p,e=.Continue p->k p=true->C):C:=by unfold Ez at h;exact k_ _ (SV.is (az h).1) ((az h).2)
noncomputable def OE(a:ae)(k:List ae->Bool):Bool:=match a with
 | .tup vs=>k vs
 |_=>false
theorem OF{C:Prop}{a:ae}{k:List ae->Bool}(h:OE a k=true)(k_:∀vs,a=.tup vs->k vs=true->C):C:=by
 cases a<;>first|exact k_ _ rfl h|exact absurd h ff
noncomputable def OG(a:ae)(k:String->Bool):Bool:=match a with
 | .str vs=>k vs
 |_=>false
theorem OH{C:Prop}{a:ae}{k:String->Bool}(h:OG a k=true)(k_:∀vs,a=.str vs->k vs=true->C):C:=by
 cases a<;>first|exact k_ _ rfl h|exact absurd h ff
noncomputable def OI(a:ae)(k:Int->Bool):Bool:=match a with
 | .int vs=>k vs
 |_=>false
theorem OJ{C:Prop}{a:ae}{k:Int->Bool}(h:OI a k=true)(k_:∀vs,a=.int vs->k vs=true->C):C:=by
 cases a<;>first|exact k_ _ rfl h|exact absurd h ff
noncomputable def LP(a:ae)(k:Nat->Bool):Bool:=match a with
 | .top vs=>k vs
 |_=>false
theorem J7{C:Prop}{a:ae}{k:Nat->Bool}(h:LP a k=true)(k_:∀vs,a=.top vs->k vs=true->C):C:=by
 cases a<;>first|exact k_ _ rfl h|exact absurd h ff
noncomputable def Sy(a:ae)(k:Value->Bool):Bool:=match a with
 | .bi vs=>k vs
 |_=>false
theorem OK{C:Prop}{a:ae}{k:Value->Bool}(h:Sy a k=true)(k_:∀vs,a=.bi vs->k vs=true->C):C:=by
 cases a<;>first|exact k_ _ rfl h|exact absurd h ff
noncomputable def EA(a:ae)(k:List String->List ae->Bool):Bool:=match a with
 | .cp ks vs=>k ks vs
 |_=>false
theorem EB{C:Prop}{a:ae}{k:List String->List ae->Bool}(h:EA a k=true)(k_:∀ks vs,a=.cp ks vs->k ks vs=true->C):C:=by
 cases a<;>first|exact k_ _ _ rfl h|exact absurd h ff
mutual
noncomputable def ae.same:ae->ae->Bool
 | .str a,y=>OG y λb=>a==b
 | .int a,y=>OI y λb=>a==b
 | .tup a,y=>OE y λb=>BD a b
 | .top a,y=>LP y λb=>a==b
 | .bi a,y=>Sy y λb=>a==b
 | .cp a b,y=>EA y λc d=>a==c&&BD b d
 |_,_=>false
noncomputable def BD:List ae->List ae->Bool
 |[],y=>isNil y
 |a::as,y=>(match y with|b::bs=>ae.same a b&&BD as bs|[]=>false)
end
mutual
theorem ae.BE(a:ae){b:ae}(h:ae.same a b=true):a=b:=by
 cases a with
 |str a=>exact OH h λb z h=>by rw[z,eq_of_beq h]
 |int a=>exact OJ h λb z h=>by rw[z,eq_of_beq h]
 |tup a=>exact OF h λb z h=>by rw[z,rV a h]
 |top a=>exact J7 h λb z h=>by rw[z,eq_of_beq h]
 |bi a=>exact OK h λb z h=>by rw[z,eq_of_beq h]
 |cp a c=>exact EB h λb d z h=>by rw[z,eq_of_beq (az h).1,rV c (az h).2]
 |_=>exact absurd h ff
theorem rV(a:List ae){b:List ae}(h:BD a b=true):a=b:=by
 cases a with
 |nil=>exact(bF h).symm
 |cons x as=>cases b with
  |nil=>exact absurd h ff
  |cons y bs=>rw[ae.BE x (az h).1,rV as (az h).2]
end
noncomputable def OL:HO->Operator
 | .add=>.Add | .sub=>.Sub | .mul=>.Mult | .mod=>.Mod | .fdiv=>.FloorDiv | .pow=>.Pow
noncomputable def LQ(o:HO)(p:Operator):Bool:=p==OL o
theorem OM{o:HO}{p:Operator}(h:LQ o p=true):p=OL o:=eq_of_beq h
noncomputable def J8:rh->CmpOp
 | .eq=>.Eq | .ne=>.NotEq | .lt=>.Lt | .le=>.LtE | .gt=>.Gt | .ge=>.GtE | .is=>.Is | .eI=>.IsNot | .kg=>.In | .pZ=>.NotIn
noncomputable def nY(o:rh)(p:CmpOp):Bool:=p==J8 o
theorem LR{o:rh}{p:CmpOp}(h:nY o p=true):p=J8 o:=eq_of_beq h
noncomputable def lZ(e:Expr):Bool:=!(rT e λg fs kw _=>isNil fs&&isNil kw&&eName g λ_ _=>true)
noncomputable def noAttr(e:Expr):Bool:=!(qg e λ_ _ _=>true)
noncomputable def BF(e:Expr):Bool:=!(rS e λ_ _ _ _=>true)
noncomputable def noStar:Expr->Bool
 | .Starred ..=>false
 |_=>true
noncomputable def iG:Expr->Bool
 | .Set ..=>false
 |_=>true
noncomputable def isVar(sc:Scope)(id:Str):Bool:=match sc.names.lookup id with
 |some .local|some .cell|some .free=>true
 |_=>false
noncomputable def iH(sc:Scope)(id:Str):Bool:=match sc.names.lookup id with
 |some .local|some .cell=>true
 |_=>false
noncomputable def bG(id:Str):Bool:=!(id==("__debug__" : Str))&&!(id==("__classdict__" : Str))&&!(id==(".0" : Str))
noncomputable def jv(s' sc:Scope):Scope:={ s' with names:=s'.names.map λ(n,k)=>if(k==.free&&sc.kind==.function&&sc.names.lookup n==some .cell)then(n,.cell)else(n,k) }
noncomputable def vD(e:Expr)(n:Nat):Bool:=Es e λc _ _=>c==.int n
noncomputable def ON(k:ae)(e:Option Expr):Bool:=cq e λe=>Es e λc _ _=>match k with
 | .none=>c==.none
 | .str x=>c==.str (aK x)
 |_=>false
noncomputable def all2{α β:Type}(p:α->β->Bool):List α->List β->Bool
 |[],y=>isNil y
 |a::as,y=>(match y with|b::bs=>p a b&&all2 p as bs|[]=>false)
noncomputable def iI:List ae->List (Option Expr)->Bool:=all2 ON
noncomputable def vE(x:String)(e:Expr):Bool:=eName e λid _=>aK x==id
noncomputable def dK:List String->List Expr->Bool:=all2 vE
section
variable(gt:List (String×ae))
noncomputable def BG(single:Bool)(xs:List String)(rW:Expr):Bool:=match single with
 |true=>gX xs λx=>vE x rW
 |false=>tC rW λts _ _=>dK xs ts
noncomputable def xf(sc cB:Scope)(xs:List String)(p:Str×NameKind):Bool:=match p.2 with
 | .local=>(cB.names.lookup p.1==some .local)&&(p.1==(".0" : Str) || xs.any λx=>aK x==p.1)
 | .free=>(match sc.names.lookup p.1 with|some .cell|some .free=>true|_=>false)
 | .globalImplicit=>true
 |_=>false
noncomputable def CJ(sc cB:Scope)(xs:List String):Bool:=cB.names.all (xf sc cB xs)
noncomputable def OO(v:ae)(c:Const):Bool:=match v with
 | .none=>c==.none
 | .bool b=>c==.bool b
 | .int i=>c==.int i
 | .str x=>c==.str (aK x)
 |_=>false
mutual
noncomputable def bt(sc:Scope):aZ->Expr->Bool
 | .cst v,e'=>Es e' λc _ _=>OO v c
 | .loc x,e'=>eName e' λid _=>aK x==id&&isVar sc id&&bG id
 | .glob x v,e'=>eName e' λid _=>aK x==id&&(sc.names.lookup id==some .globalImplicit)&&bG id&&cq (gt.lookup x) λu=>ae.same v u
 | .tup es,e'=>tC e' λfs _ _=>cb sc es fs&&decide (es.length<=1000)
 | .lst es,e'=>eList e' λfs _=>cb sc es fs&&decide (es.length<=1000)
 | .lY ks es,e'=>J2 e' λls fs _=>iI ks ls&&cb sc es fs&&decide (es.length<=15)&&(ks.length==es.length)&&decide (ks.map keyOf).Nodup
 | .attr e a,e'=>qg e' λf b _=>aK a==b&&lZ f&&bt sc e f
 | .sub e i,e'=>CI e' λf j _=>BF j&&bt sc e f&&bt sc i j
 | .iZ e n,e'=>CI e' λf j _=>rS j λlo hi st _=>qO hi&&qO st&&cq lo (λk=>vD k n)&&bt sc e f
 | .wU e n,e'=>CI e' λf j _=>rS j λlo hi st _=>qO lo&&qO st&&cq hi (λk=>vD k n)&&bt sc e f
 | .p0 e,e'=>CI e' λf j _=>rS j λlo hi st _=>qO lo&&qO hi&&cq st (λu=>RH u λo k _=>o==.USub&&vD k 1)&&bt sc e f
 | .call f es,e'=>rT e' λg fs kw _=>isNil kw&&noAttr g&&bt sc f g&&cb sc es fs&&decide (es.length<=20)
 | .aE o a es,e'=>rT e' λg fs kw pos=>isNil kw&&qg g λp b apos=>aK a==b&&lZ p&&(apos.endLine==pos.line)&&bt sc o p&&cb sc es fs&&decide (es.length<=20)
 | .bin op a b,e'=>OC e' λc iB d _=>LQ op iB&&bt sc a c&&bt sc b d
 | .cmp a op b,e'=>LJ e' λc os ds _=>gX os λiB=>gX ds λd=>nY op iB&&iG d&&bt sc a c&&bt sc b d
 | .qL a op b kX c,e'=>LJ e' λa' os bs _=>rR os λiB cI=>rR bs λb' c'=>nY op iB&&nY kX cI&&iG b'&&iG c'&&bt sc a a'&&bt sc b b'&&bt sc c c'
 | .and es,e'=>Bz e' λo fs _=>o==.And&&cb sc es fs
 | .or es,e'=>Bz e' λo fs _=>o==.Or&&cb sc es fs
 | .not e,e'=>RH e' λo f _=>o==.Not&&bt sc e f
 | .neg e,e'=>RH e' λo f _=>o==.USub&&bt sc e f
 | .ite c a b,e'=>Vx e' λc' a' b' _=>bt sc c c'&&bt sc a a'&&bt sc b b'
 | .comp elt xs single it,e'=>J4 e' λkN gs cB _=>gX gs λg=>isNil g.ifs&&(g.is_async==0)&&BG single xs g.target&&iG g.iter&&bt sc it g.iter&&bt (jv cB sc) elt kN&&(cB.kind==.function)&&CJ sc cB xs&&(xs.all λx=>cB.names.lookup (aK x)==some .local)&&decide xs.Nodup
 | .dead,f=>noStar f
noncomputable def cb(sc:Scope):List aZ->List Expr->Bool
 |[],fs=>isNil fs
 |e::es,fs=>(match fs with|f::fs=>noStar f&&bt sc e f&&cb sc es fs|[]=>false)
end
noncomputable def fZ:Expr->Bool
 | .ListComp .. | .SetComp .. | .DictComp ..=>true
 |_=>false
noncomputable def l4(id:Str)(c:Nat):Bool:=cq (gt.find? λp=>aK p.1==id) λp=>LP p.2 λa=>a==c
noncomputable def EC(e:aZ)(sp:Str):Bool:=match e with
 | .loc x=>aK x==sp
 |_=>false
noncomputable def isNone(o:Option Expr):Bool:=cq o λe=>Es e λc _ _=>c==.none
noncomputable def zI(hs:List ExceptHandler)(k:Option Expr->Option Str->List Stmt->Bool):Bool:=gX hs λh=>match h with
 | .ExceptHandler a b c _=>k a b c
theorem BH{C:Prop}{hs:List ExceptHandler}{k:Option Expr->Option Str->List Stmt->Bool}(h:zI hs k=true)(k_:∀a b c p,hs=[.ExceptHandler a b c p]->k a b c=true->C):C:=by
 refine eP h λz1 z2 h=>?_;obtain⟨a,b,c,p⟩:=z1;subst z2;exact k_ a b c p rfl h
noncomputable def Ie(sc:Scope)(c:Nat)(hs:List ExceptHandler):Bool:=zI hs λty nm body=>qO nm&&cq ty λt=>eName t λid _=>gX body λst=>Ew st λf _=>isNone f&&(sc.names.lookup id==some .globalImplicit)&&bG id&&l4 gt id c
noncomputable def CK(sc:Scope)(c:Nat)(e:aZ)(hs:List ExceptHandler):Bool:=zI hs λty nm body=>cq ty λt=>eName t λid _=>cq nm λnm=>gX body λst=>vC st λex cause _=>isNone cause&&cq ex λex=>rT ex λg fs kw _=>isNil kw&&eName g λVy _=>rR fs λf1 f2=>qg f1 λf0 msg _=>eName f0 λVz _=>eName f2 λsp _=>
  (sc.names.lookup id==some .globalImplicit)&&bG id&&l4 gt id c&&(Vy==id)&&(Vz==nm)&&(msg==aK "message")&&EC e sp&&isVar sc sp&&bG sp&&(sc.names.lookup nm==some .local)&&bG nm&&!(nm==sp)&&(aK nm.toString==nm)
noncomputable def BI:bD->Bool
 | .dead=>true
 |_=>false
mutual
noncomputable def xg(sc:Scope):bD->Stmt->Bool
 | .expr e,s=>BB s λf _=>bt gt sc e f&&!fZ f
 | .asg x e,s=>xe s λts f _=>gX ts λt=>eName t λid _=>aK x==id&&iH sc id&&bt gt sc e f
 | .pn xs e,s=>xe s λts f _=>gX ts λt=>tC t λts _ _=>dK xs ts&&(xs.all λx=>iH sc (aK x))&&bt gt sc e f&&!(tC f λ_ _ _=>true)&&!fZ f
 | .fj xs es,s=>xe s λts f _=>gX ts λt=>tC t λts _ _=>tC f λfs _ _=>dK xs ts&&(xs.all λx=>iH sc (aK x))&&cb gt sc es fs&&decide (es.length<=1000)&&decide xs.Nodup&&!(fs.all (constantsAlone 8))
 | .cV o a e,s=>xe s λts f _=>gX ts λt=>qg t λp b _=>aK a==b&&lZ p&&bt gt sc o p&&bt gt sc e f&&!fZ f
 | .gS o i e,s=>xe s λts f _=>gX ts λt=>CI t λp j _=>BF j&&bt gt sc o p&&bt gt sc i j&&bt gt sc e f&&!fZ f
 | .iff c a b,s=>Eu s λc' a' b' _=>bt gt sc c c'&&fO sc a a'&&fO sc b b'
 | .tx c b,s=>zH s λc' b' BJ _=>isNil BJ&&bt gt sc c c'&&fO sc b b'
 | .tA x it b,s=>Ib s λt it' b' BJ _=>isNil BJ&&eName t λid _=>aK x==id&&iH sc id&&iG it'&&bt gt sc it it'&&fO sc b b'
 | .wV xs it b,s=>Ib s λt it' b' BJ _=>isNil BJ&&tC t λts _ _=>dK xs ts&&(xs.all λx=>iH sc (aK x))&&iG it'&&bt gt sc it it'&&fO sc b b'
 | .ret e,s=>Ew s λf _=>cq f λf=>bt gt sc e f
 | .zB,s=>Ew s λf _=>qO f
 | .raise c es,s=>vC s λex cause _=>qO cause&&cq ex λex=>rT ex λg fs kw _=>isNil kw&&eName g λid _=>(sc.names.lookup id==some .globalImplicit)&&bG id&&l4 gt id c&&cb gt sc es fs&&decide (1<=es.length∧es.length<=2)
 | .jE c b,s=>Ic s λb' hs BJ fin _=>isNil BJ&&isNil fin&&Ie gt sc c hs&&fO sc b b'
 | .gU c b e,s=>Ic s λb' hs BJ fin _=>isNil BJ&&isNil fin&&CK gt sc c e hs&&fO sc b b'
 | .cont,s=>Ez s λ_=>true
 | .dead,_=>true
noncomputable def fO(sc:Scope):List bD->List Stmt->Bool
 |[],ts=>isNil ts
 |s::ss,ts=>(BI s&&isNil ss) || (match ts with|t::ts=>xg sc s t&&fO sc ss ts|[]=>false)
end
end
end
noncomputable abbrev eQ:Addr->Prop:=λ_=>False
structure tD(h0 h:Heap)(e:Addr)(c:Nat)(oe:Obj)(vs:Array Value)(dx:Addr):Prop where
 new:h0.get? e=none
 at_:h.get? e=some oe
 cls:oe.cls=.ref (c / 2)
 lY:oe.dict=some dx
 ED:h0.get? dx=none
 dat:∃es n,h.get? dx=some (dictOf es n)∧∃mv,getL "message" es=some (some mv)∧handedIn mv=true
 data:oe.data=.fields vs
 ctx:c%2=0->vs[2]? = some .none
structure OP(h0 h:Heap)(e:Addr)(vs:Array Value)(T:Addr)(oT:Obj)(ts:Array Value):Prop where
 ref:vs[1]? = some (.ref T)
 new:h0.get? T=none
 ne:T≠e
 at_:h.get? T=some oT
 data:oT.data=.fields ts
 cls:oT.cls=.type "traceback"
 sz:3<ts.size
noncomputable def ExcAt(h0 h:Heap)(e:Addr)(c:Nat):Prop:=∀C:Prop,(∀oe vs dx T oT ts,tD h0 h e c oe vs dx->OP h0 h e vs T oT ts->C)->C
noncomputable def mZ(h0 h:Heap)(e:Addr)(c:Nat):Prop:=∀C:Prop,(∀oe vs dx,tD h0 h e c oe vs dx->vs[1]? = some .none->C)->C
section
variable{h0 h J9 h':Heap}{e T dx:Addr}{c:Nat}{oe mH oT:Obj}{vs RI ts:Array Value}
theorem tD.map(x:tD h0 h e c oe vs dx)(n:∀b,h0.get? b=none->J9.get? b=none)(a:h'.get? e=some mH)(g:∀es n,h.get? dx=some (dictOf es n)->h'.get? dx=some (dictOf es n))(hc:mH.cls=oe.cls)(hd:mH.dict=oe.dict)(d:mH.data=.fields RI)(k:RI[2]? = vs[2]?):tD J9 h' e c mH RI dx:=
 ⟨n _ x.new,a,hc.trans x.cls,hd.trans x.lY,n _ x.ED,x.dat.elim λes z=>z.elim λi z=>⟨es,i,g es i z.1,z.2⟩,d,λz=>k.trans (x.ctx z)⟩
theorem tD.RJ(x:tD h0 h e c oe vs dx){b:Addr}{o:Obj}{us:Array Value}(a:h.get? b=some o)(d:o.data=.fields us):dx≠b:=λq=>x.dat.elim λes z=>z.elim λi z=>by
 cases a.symm.trans (q▸z.1);cases d
theorem ExcAt.map(x:ExcAt h0 h e c)(n:∀b,h0.get? b=none->J9.get? b=none)(k:∀b o,h0.get? b=none->h.get? b=some o->((∃vs,o.data=.fields vs)∨∃es n,o=dictOf es n)->h'.get? b=some o):ExcAt J9 h' e c:=
 λC q=>x C λoe vs dx T oT ts o t=>q oe vs dx T oT ts (o.map n (k _ _ o.new o.at_ (.inl ⟨_,o.data⟩)) (λes i z=>k _ _ o.ED z (.inr ⟨es,i,rfl⟩)) rfl rfl o.data rfl) ⟨t.ref,n _ t.new,t.ne,k _ _ t.new t.at_ (.inl ⟨_,t.data⟩),t.data,t.cls,t.sz⟩
theorem mZ.back(x:mZ h0 h e c)(live:∀b,h0.get? b=none->J9.get? b=none):mZ J9 h e c:=λC q=>x C λoe vs dx o t=>q oe vs dx (o.map live o.at_ (λ_ _ z=>z) rfl rfl o.data rfl) t
theorem ExcAt.back(x:ExcAt h0 h e c)(live:∀b,h0.get? b=none->J9.get? b=none):ExcAt J9 h e c:=x.map live λ_ _ _ g _=>g
end
structure Cx(A:Around)(ah:List Env)(n:Nat):Prop where
 hand:A.handled=none
 stack:A.frames=some ah
 depth:A.depth+10*n+60<=recursionLimit
 units:A.units+40*n+200<=cLine
section
variable{aa:Program}{w:World}(knd:KeyKind aa w (Option Str))(hW:Heap)
structure ja(A:Around)(ah:List Env)(n:Nat)(env:Env)(l:Loc)(ρ:Nat->Addr)(H:AH)(h:Heap):Prop where
 cx:Cx A ah n
 st:St knd hW ah ρ H h
 lr:bJ knd hW h ρ H.next (bl ah) env l
noncomputable def bH(ah:List Env)(s:Shared)(ρ:Nat->Addr)(H:AH)(v:ae)(H₁:AH)(Q:Value->Shared->Prop):Prop:=
 ∀x bq h' t,St knd hW ah bq H₁ h'->Step eQ (bl ah) ρ H.next s.heap bq H₁.next h'->bf knd hW h' bq H₁.next v x->Q x { s with heap:=h',toks:=t }
noncomputable def xh(ah:List Env)(s:Shared)(ρ:Nat->Addr)(H:AH)(vs:List ae)(H₁:AH)(Q:List Value->Shared->Prop):Prop:=
 ∀xs bq h' t,St knd hW ah bq H₁ h'->Step eQ (bl ah) ρ H.next s.heap bq H₁.next h'->aP knd hW h' bq H₁.next vs xs->Q xs { s with heap:=h',toks:=t }
noncomputable def Exc(ah:List Env)(s:Shared)(ρ:Nat->Addr)(H:AH)(c:Nat)(H₁:AH)(E:Value->Shared->Prop):Prop:=
 ∀e bq h' t,St knd hW ah bq H₁ h'->Step eQ (bl ah) ρ H.next s.heap bq H₁.next h'->ExcAt s.heap h' e c->E (.ref e) { s with heap:=h',toks:=t }
noncomputable def bB(ah:List Env)(s:Shared)(ρ:Nat->Addr)(H:AH)(r:Except Nat ae×AH)(Q E:Value->Shared->Prop):Prop:=match r with
 |(.ok v,H₁)=>bH knd hW ah s ρ H v H₁ Q
 |(.error c,H₁)=>Exc knd hW ah s ρ H c H₁ E
noncomputable def xi(ah:List Env)(s:Shared)(ρ:Nat->Addr)(H:AH)(r:Except Nat (List ae)×AH)(Q:List Value->Shared->Prop)(E:Value->Shared->Prop):Prop:=match r with
 |(.ok vs,H₁)=>xh knd hW ah s ρ H vs H₁ Q
 |(.error c,H₁)=>Exc knd hW ah s ρ H c H₁ E
end
section
variable{aa:Program}{w:World}{knd:KeyKind aa w (Option Str)}{hW:Heap}{A:Around}{ah:List Env}{n:Nat}{env:Env}{l:Loc}{s:Shared}{ρ aq:Nat->Addr}{H H₁:AH}{h ay:Heap}{t₁:Nat}{Q E:Value->Shared->Prop}
theorem ja.next(x:ja knd hW A ah n env l ρ H h)(st:St knd hW ah aq H₁ ay)(sp:Step eQ (bl ah) ρ H.next h aq H₁.next ay):ja knd hW A ah n env l aq H₁ ay:=
 ⟨x.cx,st,x.lr.step sp (λ_ m=>m) (λ_ f=>f.elim)⟩
theorem bH.after{v:ae}{bU:AH}(x:bH knd hW ah s ρ H v bU Q)(sp:Step eQ (bl ah) ρ H.next s.heap aq H₁.next ay):bH knd hW ah { s with heap:=ay,toks:=t₁ } aq H₁ v bU Q:=
 λy bq h' t st dH r=>x y bq h' t st (sp.trans dH) r
theorem xh.after{vs:List ae}{bU:AH}{Q:List Value->Shared->Prop}(x:xh knd hW ah s ρ H vs bU Q)(sp:Step eQ (bl ah) ρ H.next s.heap aq H₁.next ay):xh knd hW ah { s with heap:=ay,toks:=t₁ } aq H₁ vs bU Q:=
 λy bq h' t st dH r=>x y bq h' t st (sp.trans dH) r
theorem Exc.after{c:Nat}{bU:AH}(x:Exc knd hW ah s ρ H c bU E)(sp:Step eQ (bl ah) ρ H.next s.heap aq H₁.next ay):Exc knd hW ah { s with heap:=ay,toks:=t₁ } aq H₁ c bU E:=
 λe bq h' t st dH r=>x e bq h' t st (sp.trans dH) (r.back sp.live)
theorem bB.after{r:Except Nat ae×AH}(x:bB knd hW ah s ρ H r Q E)(sp:Step eQ (bl ah) ρ H.next s.heap aq H₁.next ay):bB knd hW ah { s with heap:=ay,toks:=t₁ } aq H₁ r Q E:=by
 obtain⟨r,bU⟩:=r;cases r with
 |ok v=>exact bH.after x sp
 |error c=>exact Exc.after x sp
theorem xi.after{r:Except Nat (List ae)×AH}{Q:List Value->Shared->Prop}(x:xi knd hW ah s ρ H r Q E)(sp:Step eQ (bl ah) ρ H.next s.heap aq H₁.next ay):xi knd hW ah { s with heap:=ay,toks:=t₁ } aq H₁ r Q E:=by
 obtain⟨r,bU⟩:=r;cases r with
 |ok v=>exact xh.after x sp
 |error c=>exact Exc.after x sp
end
theorem cX{C:Prop}{α β:Type}{r:Out α}{f:α->AH->Out β}{x:Except Nat β×AH}(h:iz r f=some x)(k1:∀a,∀H,r=some (.ok a,H)->f a H=some x->C)(k2:∀c,∀H,r=some (.error c,H)->x=(.error c,H)->C):C:=by
 unfold iz at h;split at h
 ·exact k1 _ _ rfl h
 ·cases h;exact k2 _ _ rfl rfl
 ·exact absurd h nn
structure rX{aa:Program}{w:World}(knd:KeyKind aa w (Option Str))(gt:List (String×ae))(hW:Heap)(mg mb:Str->Option Value):Prop where
 g:hW.Ns mainGlobals mg
 b:hW.Ns builtinsNs mb
 glob:∀x v,gt.lookup x=some v->(∃u,mg (aK x)=some u∧∀ρ,bf knd hW hW ρ 0 v u)∨(mg (aK x)=none∧∃u,v=.bi u∧mb (aK x)=some u)
section
variable{aa:Program}{w:World}(knd:KeyKind aa w (Option Str))(hW:Heap)(gt:List (String×ae))(P:cW)(F:dQ)(n:Nat)
noncomputable def aG(e:aZ):Prop:=∀(e':Expr) (A:Around) (ah:List Env) (env:Env) (l:Loc) (s:Shared) (ρ:Nat->Addr) (H:AH) (r:Except Nat ae×AH) (Q E:Value->Shared->Prop),
 bt gt env.scope e e'=true->ja knd hW A ah n env l ρ H s.heap->aW P F e l H=some r->bB knd hW ah s ρ H r Q E->wpAny (model aa w) A (eval e' env) Q E s
noncomputable def cv(e:aZ):Prop:=∀(e':Expr) (A:Around) (ah:List Env) (env:Env) (l:Loc) (s:Shared) (ρ:Nat->Addr) (H:AH) (r:Except Nat ae×AH) (Q:Bool->Shared->Prop) (E:Value->Shared->Prop),
 bt gt env.scope e e'=true->ja knd hW A ah n env l ρ H s.heap->aW P F e l H=some r->bB knd hW ah s ρ H r (λv s'=>∀b,v=.bool b->Q b s') E->(∀v H₁,r=(.ok v,H₁)->∃b,v=.bool b)->
 wpAny (model aa w) A (isTrue e' env (eval e' env)) Q E s
noncomputable def fF(es:List aZ):Prop:=∀(fs:List Expr) (pos:Pos) (A:Around) (ah:List Env) (env:Env) (l:Loc) (s:Shared) (ρ:Nat->Addr) (H:AH) (r:Except Nat (List ae)×AH) (Q:List Value->Shared->Prop) (E:Value->Shared->Prop),
 cb gt env.scope es fs=true->ja knd hW A ah n env l ρ H s.heap->cA P F es l H=some r->xi knd hW ah s ρ H r Q E->wpAny (model aa w) A (spliced (backTo pos (starEach fs env))) Q E s
end
theorem jb{P:cW}{F:dQ}:∀{es:List aZ}{l:Loc}{H H₁:AH}{vs:List ae},cA P F es l H=some (.ok vs,H₁)->vs.length=es.length:=by
 intro zz;induction zz with
 |nil=>
  intro _ H _ _ h;cases(show ok [] H=some _ from h);rfl
 |cons e es ih=>
  intro l H H₁ vs h;refine cX (r:=aW P F e l H) h (λv bU _ e2=>?_) λc bU _ e2=>?_
  ·refine cX e2 (λws OQ e3 e4=>?_) λc OQ _ e4=>?_
   ·cases e4
    simp[ih e3]
   ·cases e4
  ·cases e2
theorem dz{h h':Heap}(x:h.StaysIn h'):iC h h':=λb o e _=>⟨o.slots,x b o e⟩
section
variable{aa:Program}{w:World}{knd:KeyKind aa w (Option Str)}{hW:Heap}{gt:List (String×ae)}{P:cW}{F:dQ}{n:Nat}{mg mb:Str->Option Value}
 {A:Around}{ah:List Env}{env:Env}{l:Loc}{s:Shared}{ρ:Nat->Addr}{H:AH}{Q E:Value->Shared->Prop}
theorem bH.now{v:ae}{x:Value}{t:Nat}(hq:bH knd hW ah s ρ H v H Q)(st:St knd hW ah ρ H s.heap)(r:bf knd hW s.heap ρ H.next v x):Q x { s with toks:=t }:=
 hq x ρ s.heap t st .refl r
theorem bH.gY{v:ae}{x:Value}(hq:bH knd hW ah s ρ H v H Q)(st:St knd hW ah ρ H s.heap)(r:bf knd hW s.heap ρ H.next v x):Q x s:=
 hq x ρ s.heap s.toks st .refl r
theorem bB.dn{C:Prop}{e:aZ}{f:ae->AH->Out ae}{r:Except Nat ae×AH}{Q':Value->Shared->Prop}(hb:iz (aW P F e l H) f=some r)(N:ja knd hW A ah n env l ρ H s.heap)
  (hE:bB knd hW ah s ρ H r Q E)
  (k:∀v H₁,aW P F e l H=some (.ok v,H₁)->f v H₁=some r->∀x aq ay t₁,ja knd hW A ah n env l aq H₁ ay->Step eQ (bl ah) ρ H.next s.heap aq H₁.next ay->bf knd hW ay aq H₁.next v x->
   bB knd hW ah { s with heap:=ay,toks:=t₁ } aq H₁ r Q E->Q' x { s with heap:=ay,toks:=t₁ }) (k_:∀bX,aW P F e l H=some bX->bB knd hW ah s ρ H bX Q' E->C):C:=by
 refine cX hb (λv H₁ e1 e2=>?_) λc H₁ e1 e2=>?_
 ·exact k_ _ e1 (λx aq ay t₁ st sp vr=>k v H₁ e1 e2 x aq ay t₁ (N.next st sp) sp vr (hE.after sp))
 ·subst e2;exact k_ _ e1 hE
theorem bB.BK{C:Prop}{es:List aZ}{f:List ae->AH->Out ae}{r:Except Nat ae×AH}{Q':List Value->Shared->Prop}(hb:iz (cA P F es l H) f=some r)(N:ja knd hW A ah n env l ρ H s.heap)
  (hE:bB knd hW ah s ρ H r Q E)
  (k:∀v H₁,cA P F es l H=some (.ok v,H₁)->f v H₁=some r->∀x aq ay t₁,ja knd hW A ah n env l aq H₁ ay->Step eQ (bl ah) ρ H.next s.heap aq H₁.next ay->aP knd hW ay aq H₁.next v x->
   bB knd hW ah { s with heap:=ay,toks:=t₁ } aq H₁ r Q E->Q' x { s with heap:=ay,toks:=t₁ }) (k_:∀bX,cA P F es l H=some bX->xi knd hW ah s ρ H bX Q' E->C):C:=by
 refine cX hb (λv H₁ e1 e2=>?_) λc H₁ e1 e2=>?_
 ·exact k_ _ e1 (λx aq ay t₁ st sp vr=>k v H₁ e1 e2 x aq ay t₁ (N.next st sp) sp vr (hE.after sp))
 ·subst e2;exact k_ _ e1 hE
theorem zJ{α:Type}{v:α}{H:AH}{r:Except Nat α×AH}(h:ok v H=some r):r=(.ok v,H):=by cases h;rfl
theorem bH.of{v v':ae}{H₁ bU:AH}(hq:bH knd hW ah s ρ H v' bU Q)(h:some (v,H₁)=some (v',bU)):bH knd hW ah s ρ H v H₁ Q:=by cases h;exact hq
theorem bB.of{v:ae}{H₁:AH}{r:Except Nat ae×AH}(hq:bB knd hW ah s ρ H r Q E)(h:ok v H₁=some r):bH knd hW ah s ρ H v H₁ Q:=by cases h;exact hq
theorem BL(v:ae):aG knd hW gt P F n (.cst v):=by
 intro e' A ah env l s ρ H r Q E hc N he hq;have hq:=hq.of he;refine BA hc λc k pos z1 h=>?_;clear hc;subst z1;cases v with
 |none=>obtain rfl:=eq_of_beq h;exact λ_ _ _=>bH.gY hq N.st rfl
 |bool b=>obtain rfl:=eq_of_beq h;exact λ_ _ _=>bH.gY hq N.st rfl
 |int i=>obtain rfl:=eq_of_beq h;exact wpAny_Constant_int (bH.now hq N.st ⟨_,rfl⟩)
 |str x=>obtain rfl:=eq_of_beq h;exact Calls.Constant_str (bH.now hq N.st ⟨_,rfl⟩)
 |_=>exact absurd h ff
theorem LS{a b:Str}(h:(!(a==b))=true):(a==b)=false:=mA h
theorem gB{id:Str}(h:bG id=true):(id==("__debug__" : Str))=false∧(id==("__classdict__" : Str))=false∧id≠(".0" : Str):=by
 refine bk (az h) λh c=>?_;refine bk (az h) λa b=>?_;exact⟨mA a,mA b,λe=>by rw[e]at c;exact absurd c (by decide)⟩
theorem uu{sc:Scope}{id:Str}(h:isVar sc id=true):sc.names.lookup id=some .local∨sc.names.lookup id=some .cell∨sc.names.lookup id=some .free:=by
 unfold isVar at h;generalize sc.names.lookup id=o at h;cases o with
 |none=>exact absurd h ff
 |some k=>cases k<;>first|exact .inl rfl|exact .inr (.inl rfl)|exact .inr (.inr rfl)|exact absurd h ff
theorem BM(x:String):aG knd hW gt P F n (.loc x):=by
 intro e' A ah env l s ρ H r Q E hc N he hq;refine fY hc λid pos z1 hc=>?_;subst z1;refine bk (az hc) λhc hp=>?_;refine bk (az hc) λhx hv=>?_;obtain rfl:=eq_of_beq hx;refine dw (gB hp) λhd wL RK=>?_;refine ed he λv hg he=>?_;have hq:=hq.of he;refine wpAny_Name ?_ hd;refine Ej (uu hv) (λhk=>?_) (λhk=>?_) λhk=>?_
 ·refine N.lr.kj λm hm q=>?_
  refine aI (q x v hg RK hk) λu e1 e2=>?_;exact wpAny_loadName_local N.lr.fn hk hm e1 (bH.gY hq N.st e2)
 ·refine N.lr.nV x v hg (.inl hk) λc u e1 e2 e3=>?_
  exact wpAny_loadName_cell N.lr.fn hk e1 e2 (bH.gY hq N.st e3)
 ·refine N.lr.nV x v hg (.inr hk) λc u e1 e2 e3=>?_
  exact wpAny_loadName_free N.lr.fn hk e1 e2 (bH.gY hq N.st e3) wL
theorem xj(M:rX knd gt hW mg mb)(x:String)(v:ae):aG knd hW gt P F n (.glob x v):=by
 intro e' A ah env l s ρ H r Q E hc N he hq;refine fY hc λid pos z1 hc=>?_;subst z1;refine bk (az hc) λhc hg=>?_;refine bk (az hc) λhc hp=>?_;refine bk (az hc) λhx hk=>?_;obtain rfl:=eq_of_beq hx;have hk:=eq_of_beq hk;refine dw (gB hp) λhd wL RK=>?_;refine bQ hg λu hu hg=>?_;obtain rfl:=ae.BE _ hg;have hq:=hq.of he;have ng:s.heap.Ns env.globals mg:=by rw[N.lr.glob];exact M.g.keeps N.st.stays
 have nb:s.heap.Ns env.builtins mb:=by rw[N.lr.blt];exact M.b.keeps N.st.stays
 refine Calls.Name_function_global N.lr.fn hk ?_ hd;rcases M.glob x v hu with ⟨y,e1,e2⟩|⟨e1,y,rfl,e2⟩
 ·exact Calls.loadGlobal_global ng e1 (bH.gY hq N.st ((e2 ρ).mono (dz N.st.stays) (Nat.zero_le _) λ_ _=>rfl))
 ·exact Calls.loadGlobal_builtin ng e1 nb e2 (bH.gY hq N.st rfl)
theorem cj{e:Expr}{fs:List Expr}{env:Env}(h:noStar e=true):starEach (e::fs) env=(false,eval e env)::starEach fs env:=by
 cases e<;>first|rfl|cases h
theorem dk{pos:Pos}{x:Sem Value}{r:List (Bool×Sem Value)}:backTo pos ((false,x)::r)=(false,x)::backTo pos r:=rfl
theorem CL:fF knd hW gt P F n []:=by
 intro fs pos A ah env l s ρ H r Q E hc N he hq;replace hc:=bF hc;subst hc;obtain rfl:=zJ he;exact Calls.spliced_nil (hq [] ρ s.heap s.toks N.st .refl trivial)
theorem zK{e:aZ}{es:List aZ}(h1:aG knd hW gt P F n e)(h2:fF knd hW gt P F n es):fF knd hW gt P F n (e::es):=by
 intro fs pos A ah env l s ρ H r Q E hc N he hq;cases fs with
 |nil=>exact absurd hc ff
 |cons f fs=>
  refine bk (az hc) λhc c3=>?_;refine bk (az hc) λc1 c2=>?_;rw[cj c1,dk];refine Calls.spliced_cons ?_;refine cX (r:=aW P F e l H) he (λv H₁ e1 e2=>?_) λc H₁ e1 e2=>?_
  ·refine h1 f A ah env l s ρ H _ _ _ c2 N e1 ?_
   intro x aq ay t₁ st sp vr;refine cX e2 (λvs bU e3 e4=>?_) λc bU e3 e4=>?_
   ·obtain rfl:=zJ e4
    refine h2 fs pos A ah env l _ aq H₁ _ _ _ c3 (N.next st sp) e3 ?_;intro xs b9 bV jK bO bh cf;exact hq (x::xs) b9 bV jK bO (sp.trans bh) ⟨bh.i0 vr,cf⟩
   ·subst e4
    exact h2 fs pos A ah env l _ aq H₁ _ _ _ c3 (N.next st sp) e3 (Exc.after hq sp)
  ·subst e2
   exact h1 f A ah env l s ρ H _ _ _ c2 N e1 hq
theorem vF{es:List aZ}(hs:fF knd hW gt P F n es):aG knd hW gt P F n (.tup es):=by
 intro e' A ah env l s ρ H r Q E hc N he hq;refine uq hc λfs k pos z1 hc=>?_;subst z1;replace hc:=az hc;refine bB.BK (Q':=λvs aS=>wpAny (model aa w) A (newTuple vs) Q E aS) he N hq (by
  intro vs H₁ e1 e2 xs aq ay t₁ aN bL br aM
  have aM:=aM.of e2
  have len:xs.length<=sizeLine:=by rw[br.length,jb e1];exact Nat.le_trans (of_decide_eq_true hc.2) (by decide)
  refine wpAny_newObj_type ?_ (by show xs.toArray.size<=sizeLine;rw[List.size_toArray];exact len)
  refine aM _ aq _ t₁ (aN.st.push _) (.push _) ⟨_,xs,rfl,⟨_,0,Heap.get?_push_size _ rfl,rfl,rfl⟩,(Step.push _:Step eQ (bl ah) aq H₁.next ay aq H₁.next _).gr br⟩) λbX e1 o1=>?_
 exact Tuple_ (hs fs pos A ah env l s ρ H bX _ E hc.1 N e1 o1)
theorem Ig{es:List aZ}(hs:fF knd hW gt P F n es):aG knd hW gt P F n (.lst es):=by
 intro e' A ah env l s ρ H r Q E hc N he hq;refine LH hc λfs pos z1 hc=>?_;subst z1;replace hc:=az hc;refine bB.BK (Q':=λvs aS=>wpAny (model aa w) A (newList vs) Q E aS) he N hq (by
  intro vs H₁ e1 e2 xs aq ay t₁ aN bL br aM
  have aM:=aM.of e2
  have len:xs.length<=sizeLine:=by rw[br.length,jb e1];exact Nat.le_trans (of_decide_eq_true hc.2) (by decide)
  refine wpAny_newObj_type ?_ (by show xs.toArray.size<=sizeLine;rw[List.size_toArray];exact len)
  have sp:Step eQ (bl ah) aq H₁.next ay (ext aq H₁.next ay.objs.size) (H₁.next+1) (ay.push (listOf xs.toArray 0)):=.bR _
  refine aM _ _ _ t₁ (aN.st.bR (listOf xs.toArray 0) (.list vs) ⟨xs,0,Heap.get?_push_size _ rfl,sp.gr br⟩) sp ⟨Nat.lt_succ_self _,by rw[dB]⟩) λbX e1 o1=>?_
 exact List_ (hs fs pos A ah env l s ρ H bX _ E hc.1 N e1 o1)
end
theorem jL(s:String):aK s=⟨(s.toList.map Char.toNat).toArray⟩:=Str.ofString_eq_toList s
theorem jM{s t:String}(h:aK s=aK t):s=t:=by
 rw[jL,jL]at h;injection h with h
 have h2:=congrArg Array.toList h;simp only at h2;have inj:∀a b:Char,a.toNat=b.toNat->a=b:=λa b e=>Char.ext (UInt32.toNat_inj.mp e);have:s.toList=t.toList:=by
  have g:∀(l m:List Char),l.map Char.toNat=m.map Char.toNat->l=m:=by
   intro l;induction l with
   |nil=>intro m e;cases m with|nil=>rfl|cons _ _=>cases e
   |cons a l ih=>
    intro m e;cases m with
    |nil=>cases e
    |cons b m=>
     simp only[List.map_cons,List.cons.injEq]at e;rw[inj a b e.1,ih m e.2]
  exact g _ _ h2
 exact String.toList_inj.mp this
theorem zL(s t:String):aK (s++t)=aK s++aK t:=by
 rw[jL,jL,jL];show _=Str.mk (_++_);simp[String.toList_append]
theorem jN(s:String):(aK s).length=s.toList.length:=by
 rw[jL];simp[Str.length]
section
variable{aa:Program}{w:World}{knd:KeyKind aa w (Option Str)}{hW:Heap}
 {A:Around}{ah:List Env}{env:Env}{l:Loc}{s:Shared}{ρ:Nat->Addr}{H H':AH}{Q E:Value->Shared->Prop}
theorem ints_of{C:Prop}{a b:ae}{α:Type}{r:α}{k:Int->Int->Option α}{x y:Value}(ra:bf knd hW s.heap ρ H.next a x)(rb:bf knd hW s.heap ρ H.next b y)(h:(vInt a λi=>vInt b λj=>k i j)=some r)(k_:∀i,∀j,∀t,∀u,x=.int i t->y=.int j u->k i j=some r->C):C:=by
 refine jq h λi z1 h1=>?_;clear h;subst z1;refine jq h1 λj z1 h2=>?_;clear h1;subst z1;refine ra.E λt z1=>?_;clear ra;subst z1;refine rb.E λu z1=>?_;clear rb;subst z1;exact k_ i j t u rfl rfl h2
theorem jO{α:Type}{l:List α}{n:Nat}(h:l.length=n)(hn:n<=100000):l.toArray.size<=sizeLine:=by rw[List.size_toArray,h];exact Nat.le_trans hn (by decide)
theorem uv{α β:Type}{l:List α}{l':List β}{m n:Nat}(h:l.length=m)(h':l'.length=n)(hm:m<=1000∧n<=1000):l.toArray.size+l'.toArray.size<=sizeLine:=by
 rw[List.size_toArray,List.size_toArray,h,h'];exact Nat.le_trans (Nat.add_le_add hm.1 hm.2) (by decide)
theorem add_tuples{p q:Addr}{ws us:List Value}{m n:Nat}(lw:ws.length=m)(lu:us.length=n)(hb:m<=1000∧n<=1000)(tp:s.heap.TupAt p ws)(tq:s.heap.TupAt q us)
  (h1:ws=[]->Q (.ref q) s) (h2:us=[]->Q (.ref p) s) (h3:Q (.ref s.heap.objs.size) { s with heap:=s.heap.push { cls:=.type "tuple",data:=.seq (ws++us).toArray } }):wpAny (model aa w) A (binaryOp .Add (.ref p) (.ref q)) Q E s:=by
 have e:ws.toArray++us.toArray=(ws++us).toArray:=by simp
 refine cn tp ?_;clear tp;intro OR n ho hc hd;obtain⟨cls,dd,data,sl⟩:=OR;refine cn tq ?_;clear tq;intro OS n2 Ih Ec hd2;obtain⟨WV,Sz,data2,SA⟩:=OS;simp only at hc hd Ec hd2;subst hc hd Ec hd2
 by_cases hv:ws=[]
 ·subst hv
  exact concat_meets ⟨_,ho,rfl⟩ ⟨_,Ih,rfl⟩ noFill_tuple_add seq_tuple_add PySem.F.slot_tuple_add PySem.F.entry_tuple_add (PySem.F.args_tuple_add_2 _ _)
   (tuple_addW0 p q _ _ n n2 dd Sz sl SA rfl) ⟨ho,Ih,h1 rfl⟩
 ·by_cases hw:us=[]
  ·subst hw
   exact concat_meets ⟨_,ho,rfl⟩ ⟨_,Ih,rfl⟩ noFill_tuple_add seq_tuple_add PySem.F.slot_tuple_add PySem.F.entry_tuple_add (PySem.F.args_tuple_add_2 _ _)
    (tuple_addW1 p q _ _ n n2 dd Sz sl SA (by simpa using hv) rfl) ⟨ho,Ih,h2 rfl⟩
  ·refine concat_meets ⟨_,ho,rfl⟩ ⟨_,Ih,rfl⟩ noFill_tuple_add seq_tuple_add PySem.F.slot_tuple_add PySem.F.entry_tuple_add (PySem.F.args_tuple_add_2 _ _)
    (tuple_addW2 p q _ _ n n2 dd Sz sl SA (by simpa using hv) (by simpa using hw) (uv lw lu hb)) ⟨ho,Ih,?_⟩
   rw[e];exact h3
theorem CM{a b r:ae}{x y:Value}(st:St knd hW ah ρ H s.heap)(ra:bf knd hW s.heap ρ H.next a x)(rb:bf knd hW s.heap ρ H.next b y)
  (he:Oo a b H=some (r,H')) (hq:bH knd hW ah s ρ H r H' Q):wpAny (model aa w) A (binaryOp .Add x y) Q E s:=by
 cases a with
 |int i=>
  refine jq he λj z1 h1=>?_;clear he;subst z1;refine ra.E λt z1=>?_;clear ra;subst z1;refine rb.E λu z1=>?_;clear rb;subst z1;exact PyProof.Rows.add_int (bH.now (hq.of h1) st ⟨_,rfl⟩)
 |str x=>
  refine rK he λy z1 h1=>?_;clear he;subst z1;refine ra.E λt z1=>?_;clear ra;subst z1;refine rb.E λu z1=>?_;clear rb;subst z1;refine fX h1 λhb h2=>?_;refine PyProof.Rows.add_str (hsz:=?_) λt' tk=>bH.now (hq.of h2) st ⟨_,by rw[zL]⟩;rw[jN,jN,String.length_toList,String.length_toList];exact Nat.le_trans (Nat.add_le_add hb.1 hb.2) (by decide)
 |tup vs=>
  refine wW he λus z1 h1=>?_;clear he;subst z1;refine ra.E λp ws z1 tp vp=>?_;clear ra;subst z1;refine rb.E λq us z1 tq vq=>?_;clear rb;subst z1;refine fX h1 λhb h2=>?_;have hq:=hq.of h2;have sp:Step eQ (bl ah) ρ H.next s.heap ρ H.next (s.heap.push { cls:=.type "tuple",data:=.seq (ws++us).toArray }):=.push _;refine add_tuples vp.length vq.length hb tp tq (λe=>?_) (λe=>?_) (hq _ ρ _ s.toks (st.push _) sp ⟨_,ws++us,rfl,⟨_,0,Heap.get?_push_size _ rfl,rfl,rfl⟩,(sp.gr vp).append (sp.gr vq)⟩)
  ·subst e;exact bH.gY hq st ⟨q,us,rfl,tq,vp.append vq⟩
  ·subst e;exact bH.gY hq st ⟨p,ws,rfl,tp,by have:=vp.append vq;rwa [List.append_nil]at this⟩
 |ref n=>
  refine rM he λk z1 h1=>?_;clear he;subst z1;refine ra.E λhn z1=>?_;clear ra;subst z1;refine rb.E λhk z1=>?_;clear rb;subst z1;refine jG h1 λvs e1 h2=>?_;refine jG h2 λus e2 h3=>?_;refine fX h3 λhb h4=>?_;have hq:=hq.of h4;refine aO (st.toCells.get hn e1) λws i ho vp=>?_;refine aO (st.toCells.get hk e2) λNY j Ih vq=>?_;have e:ws.toArray++NY.toArray=(ws++NY).toArray:=by simp
  refine concat_meets ⟨_,ho,rfl⟩ ⟨_,Ih,rfl⟩ noFill_list_add seq_list_add PySem.F.slot_list_add PySem.F.entry_list_add (PySem.F.args_list_add_2 _ _)
   (list_addW _ _ ws.toArray NY.toArray i j none none #[] #[] (uv vp.length vq.length hb)) ⟨ho,Ih,?_⟩
  rw[e];have sp:Step eQ (bl ah) ρ H.next s.heap (ext ρ H.next s.heap.objs.size) (H.next+1) (s.heap.push (listOf (ws++NY).toArray 0)):=.bR _;exact hq _ _ _ s.toks (st.bR (listOf (ws++NY).toArray 0) (.list (vs++us)) ⟨ws++NY,0,Heap.get?_push_size _ rfl,(sp.gr vp).append (sp.gr vq)⟩) sp ⟨Nat.lt_succ_self _,by rw[dB]⟩
 |_=>exact absurd he nn
theorem CN{op:HO}{iB:Operator}{a b r:ae}{x y:Value}(ho:LQ op iB=true)(st:St knd hW ah ρ H s.heap)(ra:bf knd hW s.heap ρ H.next a x)(rb:bf knd hW s.heap ρ H.next b y)
  (he:binOp op a b H=some (r,H')) (hq:bH knd hW ah s ρ H r H' Q):wpAny (model aa w) A (binaryOp iB x y) Q E s:=by
 replace ho:=OM ho;subst ho;cases op with
 |add=>exact CM st ra rb he hq
 |sub=>
  refine ints_of ra rb he λi j t u z1 z2 he=>?_;subst z1;subst z2;have hq:=hq.of he;exact PyProof.Rows.sub_int' (bH.now hq st ⟨_,rfl⟩)
 |mul=>
  refine ints_of ra rb he λi j t u z1 z2 he=>?_;subst z1;subst z2;refine fX he λhb he=>?_;have hq:=hq.of he;exact PyProof.Rows.mul_int (bH.now hq st ⟨_,rfl⟩) (IntMulOk.of_le hb.1 hb.2 (by decide))
 |mod=>
  refine ints_of ra rb he λi j t u z1 z2 he=>?_;subst z1;subst z2;refine fX he λhb he=>?_;have hq:=hq.of he;exact PyProof.Rows.mod_int' hb (bH.now hq st ⟨_,rfl⟩)
 |fdiv=>
  refine ints_of ra rb he λi j t u z1 z2 he=>?_;subst z1;subst z2;refine fX he λhb he=>?_;have hq:=hq.of he;refine PyProof.Rows.floordiv_int (by omega) (bH.now hq st ⟨_,rfl⟩) (.inl (PyProof.noPylong_of_log2 ?_));have:j.natAbs<2^62:=by omega
  have h2:=Nat.log2_lt (n:=j.natAbs) (k:=62) (by omega);omega
 |pow=>
  refine ints_of ra rb he λi j t u z1 z2 he=>?_;subst z1;subst z2;refine fX he λhb he=>?_;have hq:=hq.of he;exact PyProof.Rows.pow_int_small hb.1 (by omega) hb.2.2 (bH.now hq st ⟨_,rfl⟩)
end
mutual
noncomputable def toPy:ae->PyData
 | .int i=>.int i
 | .str x=>.str (aK x)
 | .tup vs=>.tuple (toPys vs)
 |_=>.none
noncomputable def toPys:List ae->List PyData
 |[]=>[]
 |a::as=>toPy a::toPys as
end
theorem m5{k:Nat}{vs:List ae}(h:isData (k+1) (.tup vs)=true):vs.all (isData k)=true:=h
theorem CO(x:String):PyData.strOk (aK x)=true:=by
 rw[jL];unfold PyData.strOk;rw[Array.all_eq_true'];intro i hi;rw[List.mem_toArray,List.mem_map]at hi;refine aI hi ?_;clear hi;intro c _ OT;subst OT;refine decide_eq_true ?_;refine dZ c.valid (λh=>?_) λh=>?_
 ·exact Nat.lt_trans h (by decide)
 ·exact Nat.lt_of_lt_of_le h.2 (by decide)
theorem dq{P:ae->Prop}{k:Nat}{a:ae}(h:isData k a=true)(h0:P .none)(h1:∀i,P (.int i))(h2:∀x,P (.str x))(h3:∀j vs,k=j+1->vs.all (isData j)=true->P (.tup vs)):P a:=by
 cases k<;>cases a<;>first|exact h0|exact h1 _|exact h2 _|exact h3 _ _ rfl h|exact absurd h Bool.false_ne_true
theorem nZ{P:Nat->ae->Prop}{PL:Nat->List ae->Prop}(h0:∀k,P k .none)(h1:∀k i,P k (.int i))(h2:∀k x,P k (.str x))(ht:∀k vs,vs.all (isData k)=true->PL k vs->P (k+1) (.tup vs))(hn:∀k,PL k [])
  (hc:∀k a as,P k a->PL k as->PL k (a::as)) (k:Nat):(∀a,isData k a=true->P k a)∧∀vs,vs.all (isData k)=true->PL k vs:=by
 have lst:∀{k},(∀a,isData k a=true->P k a)->∀vs,vs.all (isData k)=true->PL k vs:=λ{k} hp vs=>by
  induction vs with
  |nil=>exact λ_=>hn k
  |cons a as ih=>exact λh=>hc k a as (hp a (Bool.and_eq_true_iff.mp h).1) (ih (Bool.and_eq_true_iff.mp h).2)
 have one:∀k a,isData k a=true->P k a:=λk=>by
  induction k with
  |zero=>exact λa h=>dq (P:=P 0) h (h0 0) (h1 0) (h2 0) λj vs e _=>absurd e (Nat.succ_ne_zero _).symm
  |succ k ih=>exact λa h=>dq (P:=P (k+1)) h (h0 _) (h1 _) (h2 _) λj vs e hv=>(by cases e;exact ht k vs hv (lst ih vs hv))
 exact⟨one k,lst (one k)⟩
theorem BN(k:Nat):(∀a,isData k a=true->(toPy a).canLay0=true)∧∀vs,vs.all (isData k)=true->PyData.canLayAll0 (toPys vs)=true:=
 nZ (P:=λ_ a=>(toPy a).canLay0=true) (PL:=λ_ vs=>PyData.canLayAll0 (toPys vs)=true) (λ_=>rfl) (λ_ _=>rfl) (λ_ x=>CO x) (λ_ _ _ h=>h) (λ_=>rfl) (λ_ _ _ a b=>Bool.and_eq_true_iff.mpr ⟨a,b⟩) k
theorem fP(k:Nat)(a:ae)(h:isData k a=true):(toPy a).canLay0=true:=(BN k).1 a h
theorem eR(k:Nat)(as:List ae)(h:as.all (isData k)=true):PyData.canLayAll0 (toPys as)=true:=(BN k).2 as h
theorem EE(k:Nat):(∀a,isData k a=true->(toPy a).depth<=k)∧∀vs,vs.all (isData k)=true->PyData.depthAll (toPys vs)<=k:=
 nZ (P:=λk a=>(toPy a).depth<=k) (PL:=λk vs=>PyData.depthAll (toPys vs)<=k) (λk=>Nat.zero_le k) (λk _=>Nat.zero_le k) (λk _=>Nat.zero_le k) (λk vs _ h=>Nat.succ_le_succ h) (λk=>Nat.zero_le k) (λk a as x y=>Nat.max_le.mpr ⟨x,y⟩) k
theorem nh(k:Nat)(a:ae)(h:isData k a=true):(toPy a).depth<=k:=(EE k).1 a h
theorem xk(k:Nat)(as:List ae)(h:as.all (isData k)=true):PyData.depthAll (toPys as)<=k:=(EE k).2 as h
theorem BO(x y:String):(aK x==aK y)=(x==y):=by
 by_cases h:x=y
 ·subst h;rw[beq_self_eq_true,beq_self_eq_true]
 ·rw[beq_eq_false_iff_ne.mpr h,beq_eq_false_iff_ne.mpr λe=>h (jM e)]
theorem OU(k:Nat):(∀a,isData k a=true->∀j b,isData j b=true->PyData.eqv (toPy a) (toPy b)=ae.beq a b)∧∀as,as.all (isData k)=true->∀j bs,bs.all (isData j)=true->PyData.eqvAll (toPys as) (toPys bs)=wX as bs:=
 nZ (P:=λ_ a=>∀j b,isData j b=true->PyData.eqv (toPy a) (toPy b)=ae.beq a b) (PL:=λ_ as=>∀j bs,bs.all (isData j)=true->PyData.eqvAll (toPys as) (toPys bs)=wX as bs)
  (λ_ j b h=>dq (P:=λb=>PyData.eqv (toPy .none) (toPy b)=ae.beq .none b) h rfl (λ_=>rfl) (λ_=>rfl) λ_ _ _ _=>rfl)
  (λ_ i j b h=>dq (P:=λb=>PyData.eqv (toPy (.int i)) (toPy b)=ae.beq (.int i) b) h rfl (λ_=>rfl) (λ_=>rfl) λ_ _ _ _=>rfl)
  (λ_ x j b h=>dq (P:=λb=>PyData.eqv (toPy (.str x)) (toPy b)=ae.beq (.str x) b) h rfl (λ_=>rfl) (λy=>BO x y) λ_ _ _ _=>rfl)
  (λ_ vs _ ih j b h=>dq (P:=λb=>PyData.eqv (toPy (.tup vs)) (toPy b)=ae.beq (.tup vs) b) h rfl (λ_=>rfl) (λ_=>rfl) λj ws _ hw=>ih j ws hw)
  (λ_ j bs _=>by cases bs<;>rfl)
  (λ_ a as h1 h2 j bs h=>by
   cases bs with
   |nil=>rfl
   |cons b bs=>
    have h:=Bool.and_eq_true_iff.mp h
    show(PyData.eqv (toPy a) (toPy b)&&PyData.eqvAll (toPys as) (toPys bs))=(ae.beq a b&&wX as bs)
    rw[h1 j b h.1,h2 j bs h.2]) k
theorem xl(k j:Nat)(a b:ae)(ha:isData k a=true)(hb:isData j b=true):PyData.eqv (toPy a) (toPy b)=ae.beq a b:=(OU k).1 a ha j b hb
theorem CP(k j:Nat)(as bs:List ae)(ha:as.all (isData k)=true)(hb:bs.all (isData j)=true):PyData.eqvAll (toPys as) (toPys bs)=wX as bs:=(OU k).2 as ha j bs hb
section
variable{aa:Program}{w:World}{knd:KeyKind aa w (Option Str)}{hW h:Heap}{ρ:Nat->Addr}{N:Nat}
theorem EG(k:Nat):(∀a,isData k a=true->∀v,bf knd hW h ρ N a v->∃as,Reads h v (toPy a) as)∧∀as,as.all (isData k)=true->∀vs,aP knd hW h ρ N as vs->∃bs,ReadsAll h vs (toPys as) bs:=
 nZ (P:=λ_ a=>∀v,bf knd hW h ρ N a v->∃as,Reads h v (toPy a) as) (PL:=λ_ as=>∀vs,aP knd hW h ρ N as vs->∃bs,ReadsAll h vs (toPys as) bs)
  (λ_ v r=>by cases r;exact⟨[],.none⟩)
  (λ_ i v r=>by obtain⟨t,rfl⟩:=r;exact⟨[],.int i t⟩)
  (λ_ x v r=>by obtain⟨t,rfl⟩:=r;exact⟨[],.str _ t⟩)
  (λ_ vs _ ih v r=>by
   refine cn r ?_;clear r;intro a ws OV Ka q
   subst OV
   refine cn Ka ?_;clear Ka;intro o n g c d
   refine aV (ih ws q) λas ra=>?_
   exact⟨as,.tuple g c d (by simpa using ra)⟩)
  (λ_ vs r=>by
   cases vs with
   |nil=>exact⟨[],.nil⟩
   |cons _ _=>exact r.elim)
  (λ_ a as h1 h2 vs r=>by
   cases vs with
   |nil=>exact r.elim
   |cons v vs=>
    refine aV (h1 v r.1) λb rb=>?_
    refine aV (h2 vs r.2) λbs LU=>?_
    exact⟨b++bs,.cons rb LU⟩) k
theorem rY(k:Nat)(a:ae)(v:Value)(hd:isData k a=true)(r:bf knd hW h ρ N a v):∃as,Reads h v (toPy a) as:=(EG k).1 a hd v r
theorem qh(k:Nat)(as:List ae)(vs:List Value)(hd:as.all (isData k)=true)(r:aP knd hW h ρ N as vs):∃bs,ReadsAll h vs (toPys as) bs:=(EG k).2 as hd vs r
noncomputable def EH:Option Str->Value->Bool
 |none,.none=>true
 |some x,v=>Value.isStrOf x v
 |_,_=>false
theorem uw{P:Option Str->Value->Prop}{k:Option Str}{v:Value}(h:EH k v=true)(h0:P none .none)(h1:∀x t,P (some x) (.str x t)):P k v:=by
 cases k with
 |none=>cases v<;>first|exact h0|cases h
 |some x=>exact(Value.isStrOf_shape h).elim λt e=>e▸h1 x t
theorem LV{b:Option Str}(h:EH b .none=true):none=b:=by
 cases b with
 |none=>rfl
 |some y=>exact(Value.isStrOf_shape (show Value.isStrOf y .none=true from h)).elim λt e=>nomatch e
theorem EI{b:Option Str}{x:Str}{t:Tok}(h:EH b (.str x t)=true):some x=b:=by
 cases b with
 |none=>cases h
 |some y=>exact(Value.isStrOf_shape (show Value.isStrOf y (.str x t)=true from h)).elim λt e=>by cases e;rfl
noncomputable def pA(w:World):Option Str->Int
 |none=>reduceHash 4238894112
 |some x=>hashStr w x
theorem xm{aa:Program}{w:World}{A:Around}{E:Value->Shared->Prop}{s:Shared}{Q:Int->Shared->Prop}(h:Q (pA w none) { s with toks:=s.toks+1 }):wpAny (model aa w) A (pyHash .none) Q E s:=
 pyHash_slot (T := "NoneType") rfl PySem.F.slot_NoneType_hash PySem.F.entry_NoneType_hash (PySem.F.args_NoneType_hash_1 _) (beq_builtin_none _) (.inl rfl) (wpAny_bind (wpAny_pure (wpAny_bind (wpAny_mkInt (wpAny_pure ⟨_,_,rfl,h⟩)))))
noncomputable def af(aa:Program)(w:World):KeyKind aa w (Option Str) where
 is:=EH
 hash:=pA w
 inj:=λv a b ha hb=>uw (P:=λa v=>EH b v=true->a=b) ha LV (λ_ _=>EI) hb
 byValue:=λk v h=>uw (P:=λ_ v=>carriedByValue v=true) h rfl λ_ _=>rfl
 pyHash:=λ{A E s k v Q} hv h=>uw (P:=λk v=>Q (pA w k) { s with toks:=s.toks+1 }->wpAny (model aa w) A (PySem.pyHash v) Q E s) hv xm (λ_ _=>wpAny_pyHash_str) h
 eqBool:=λ{A E s a b u v Q} hu hv h=>uw (P:=λa u=>Q (decide (a=b)) s->wpAny (model aa w) A (PySem.eqBool u v) Q E s) hu
  (uw (P:=λb v=>Q (decide (none=b)) s->wpAny (model aa w) A (PySem.eqBool .none v) Q E s) hv (λh=>SeqAt.EqAt.same (A:=A) (s:=s) .none aa w E Q h) λy u h=>SeqAt.EqAt.none_str (A:=A) (s:=s) y u aa w E Q h)
  (λx t=>uw (P:=λb v=>Q (decide (some x=b)) s->wpAny (model aa w) A (PySem.eqBool (.str x t) v) Q E s) hv (λh=>SeqAt.EqAt.str_none (A:=A) (s:=s) x t aa w E Q h) λy u h=>wpAny_eqBool_str (by simpa using h)) h
 «strs»:=λk x t v h=>by
  have e:=EI h;subst e;cases v<;>rfl
theorem iJ{P:ae->Prop}{a:ae}(h:isKey a=true)(h0:P .none)(h1:∀s,P (.str s)):P a:=by
 cases a<;>first|exact h0|exact h1 _|exact absurd h Bool.false_ne_true
theorem l7{a b:ae}(ha:isKey a=true)(hb:isKey b=true):(keyOf a=keyOf b)↔ae.beq a b=true:=
 iJ (P:=λa=>(keyOf a=keyOf b)↔ae.beq a b=true) ha
  (iJ (P:=λb=>(keyOf .none=keyOf b)↔ae.beq .none b=true) hb ⟨λ_=>rfl,λ_=>rfl⟩ λs=>⟨λh=>(by cases h),λh=>absurd h Bool.false_ne_true⟩)
  λs=>iJ (P:=λb=>(keyOf (.str s)=keyOf b)↔ae.beq (.str s) b=true) hb ⟨λh=>(by cases h),λh=>absurd h Bool.false_ne_true⟩ λt=>⟨λh=>beq_iff_eq.mpr (jM (Option.some.inj h)),λh=>congrArg (λs=>some (aK s)) (eq_of_beq h)⟩
theorem EJ{aa:Program}{w:World}{hW h:Heap}{ρ:Nat->Addr}{N:Nat}{k:ae}{x:Value}(hk:isKey k=true):bf (af aa w) hW h ρ N k x->(af aa w).is (keyOf k) x=true:=
 iJ (P:=λk=>bf (af aa w) hW h ρ N k x->(af aa w).is (keyOf k) x=true) hk (λr=>by cases r;rfl) λs r=>by
  refine aV r ?_;clear r;intro t OW;subst OW;exact beq_self_eq_true (aK s)
theorem CQ{kv:Option Str×Value}{kvs:List (Option Str×Value)}{k:Option Str}(h:kv.1=k):valueAt (kv::kvs) k=some kv.2:=by simp[valueAt,h]
theorem zM{kv:Option Str×Value}{kvs:List (Option Str×Value)}{k:Option Str}(h:¬kv.1=k):valueAt (kv::kvs) k=valueAt kvs k:=by simp[valueAt,h]
noncomputable def Found(knd:KeyKind aa w (Option Str))(hW h:Heap)(ρ:Nat->Addr)(N:Nat)(o:Option ae)(u:Option Value):Prop:=match o with
 |some v=>∃x,u=some x∧bf knd hW h ρ N v x
 |none=>u=none
theorem EK{p:ae->Bool}{k:Option Str}{f:List ae->List ae->Option ae}(f0:∀vs,f [] vs=none)(f1:∀x xs v vs,f (x::xs) (v::vs)=if p x=true then some v else f xs vs)(hp:∀x,isKey x=true->(keyOf x=k↔p x=true)):
  ∀{ks vs:List ae}{kvs:List (Option Str×Value)},kvs.map (·.1)=ks.map keyOf->ks.all isKey=true->aP knd hW h ρ N vs (kvs.map (·.2))->Found knd hW h ρ N (f ks vs) (valueAt kvs k):=by
 intro zz;induction zz with
 |nil=>
  intro vs b0 e _ _;cases b0 with
  |nil=>
   rw[f0];rfl
  |cons kT rj=>
   cases e
 |cons x ks ih=>
  intro kW CH e BP r;cases CH with
  |nil=>
   cases e
  |cons kv kvs=>
   cases kW with
   |nil=>
    exact r.elim
   |cons v vs=>
    injection e with e1 e2
    refine bk (Bool.and_eq_true_iff.mp BP) λk1 k2=>?_;have ih:=ih e2 k2 r.2;rw[f1]
    by_cases hb:p x=true
    ·rw[if_pos hb,CQ (e1.trans ((hp x k1).mpr hb))]
     exact⟨kv.2,rfl,r.1⟩
    ·rw[if_neg hb,zM λz=>hb ((hp x k1).mp (e1.symm.trans z))]
     exact ih
theorem jP{k:ae}(hk:isKey k=true){ks vs:List ae}{kvs:List (Option Str×Value)}(e:kvs.map (·.1)=ks.map keyOf)(BP:ks.all isKey=true)(r:aP knd hW h ρ N vs (kvs.map (·.2))):Found knd hW h ρ N (bN k ks vs) (valueAt kvs (keyOf k)):=
 EK (p:=ae.beq k) (f:=bN k) (λ_=>rfl) (λ_ _ _ _=>rfl) (λx hx=>⟨λe=>(l7 hk hx).mp e.symm,λe=>((l7 hk hx).mpr e).symm⟩) e BP r
theorem CR{k:String}:∀{ks:List String}{vs:List ae},qf k ks vs=bN (.str k) (ks.map .str) vs:=by
 intro zz;induction zz with
 |nil=>
  intro _;exact rfl
 |cons x ks ih=>
  intro b0;cases b0 with
  |nil=>
   exact rfl
  |cons v vs=>
   show(if k=x then some v else qf k ks vs)=if(k==x)=true then some v else bN (.str k) (ks.map .str) vs;rw[ih]
   by_cases h:k=x
   ·rw[if_pos h,if_pos (beq_iff_eq.mpr h)]
   ·rw[if_neg h,if_neg λz=>h (eq_of_beq z)]
theorem ux:∀ks:List String,(ks.map ae.str).map keyOf=ks.map (λk=>some (aK k))∧(ks.map ae.str).all isKey=true:=by
 intro zz;induction zz with
 |nil=>
  exact⟨rfl,rfl⟩
 |cons k ks ih=>
  exact⟨congrArg (some (aK k)::·) (ih).1,(ih).2⟩
theorem kY{k:String}{ks:List String}{vs:List ae}{kvs:List (Option Str×Value)}(e:kvs.map (·.1)=ks.map (λk=>some (aK k)))(r:aP knd hW h ρ N vs (kvs.map (·.2))):Found knd hW h ρ N (qf k ks vs) (valueAt kvs (some (aK k))):=by
 rw[CR];exact jP (k:=.str k) rfl (e.trans (ux ks).1.symm) (ux ks).2 r
theorem Found.xn{C:Prop}{o:Option ae}{u:Option Value}{v:ae}(f:Found knd hW h ρ N o u)(e:o=some v)(k_:∀x,u=some x->bf knd hW h ρ N v x->C):C:=by subst e;exact f.elim λx z=>k_ x z.1 z.2
theorem Found.isSome{o:Option ae}{u:Option Value}(f:Found knd hW h ρ N o u):u.isSome=o.isSome:=by
 cases o with
 |none=>rw[show u=none from f];rfl
 |some v=>obtain⟨x,e,_⟩:=f;rw[e];rfl
theorem Found.getD{o:Option ae}{u:Option Value}{d:ae}{z:Value}(f:Found knd hW h ρ N o u)(r:bf knd hW h ρ N d z):bf knd hW h ρ N (o.getD d) (u.getD z):=by
 cases o with
 |none=>rw[show u=none from f];exact r
 |some v=>obtain⟨x,e,q⟩:=f;rw[e];exact q
theorem CS{k:String}:∀{ks:List String}{vs:List ae},vs.length=ks.length->(qf k ks vs).isSome=ks.contains k:=by
 intro zz;induction zz with
 |nil=>
  intro b0 e;cases b0 with
  |nil=>
   exact rfl
  |cons kT rj=>
   cases e
 |cons x ks ih=>
  intro kW e;cases kW with
  |nil=>
   cases e
  |cons v vs=>
   show(if k=x then some v else qf k ks vs).isSome=_;rw[List.contains_cons]
   by_cases h:k=x
   ·rw[if_pos h,h,beq_self_eq_true];rfl
   ·rw[if_neg h,ih (Nat.succ.inj e),beq_eq_false_iff_ne.mpr h,Bool.false_or]
noncomputable def EL(p:Bool×ae):PyData:=match p.1 with
 |true=>(match p.2 with
  | .tup vs=>.list (toPys vs)
  |a=>toPy a)
 |false=>toPy p.2
theorem oa(H:AH)(a:ae):(∃n vs,a=.ref n∧H.get n=some (.list vs)∧lk H a=(true,.tup vs))∨lk H a=(false,a)∨lk H a=(false,.wR):=by
 cases a with
 |ref n=>
  show(∃m vs,_∧_∧(pq (H.get n) (λvs=>some (true,ae.tup vs)) λ_ _=>none).getD (false,.wR)=_)∨(pq (H.get n) (λvs=>some (true,ae.tup vs)) λ_ _=>none).getD (false,.wR)=_∨(pq (H.get n) (λvs=>some (true,ae.tup vs)) λ_ _=>none).getD (false,.wR)=_;cases q:pq (H.get n) (λvs=>some (true,ae.tup vs)) λ_ _=>none with
  |none=>exact .inr (.inr rfl)
  |some r=>
   refine zC q (λvs e h=>?_) λ_ _ _ h=>?_
   ·cases h;exact .inl ⟨n,vs,rfl,e,rfl⟩
   ·exact absurd h nn
 |_=>exact .inr (.inl rfl)
theorem xo{H:AH}{ah:List Env}{a:ae}{x:Value}(st:St knd hW ah ρ H h)(r:bf knd hW h ρ H.next a x)(hd:isData 9 (lk H a).2=true):
  ∃as,Reads h x (EL (lk H a)) as∧(EL (lk H a)).canLay0=true∧(EL (lk H a)).depth<=10:=by
 rcases oa H a with ⟨n,vs,rfl,e,q⟩|q|q
 ·rw[q]at hd ⊢
  refine bk r ?_;clear r;intro hn OX;subst OX;refine aO (st.toCells.get hn e) λws i ho vp=>?_;have OY:=m5 (k:=8) hd;refine aV (qh 8 vs ws OY vp) λbs rb=>?_;exact⟨_,Reads.list ho rfl rfl (by simpa using rb),eR 8 vs OY,Nat.le_trans (Nat.succ_le_succ (xk 8 vs OY)) (by decide)⟩
 ·rw[q]at hd ⊢
  refine aV (rY 9 a x hd r) λas ra=>?_;exact⟨as,ra,fP 9 a hd,Nat.le_trans (nh 9 a hd) (by decide)⟩
 ·rw[q]at hd;exact absurd hd Bool.false_ne_true
theorem LW{H:AH}{a b:ae}(ha:isData 9 (lk H a).2=true)(hb:isData 9 (lk H b).2=true):
  PyData.eqv (EL (lk H a)) (EL (lk H b))=((lk H a).1==(lk H b).1&&ae.beq (lk H a).2 (lk H b).2):=by
 have mixed:∀(vs:List ae) (c:ae),isData 9 c=true->PyData.eqv (.list (toPys vs)) (toPy c)=false∧PyData.eqv (toPy c) (.list (toPys vs))=false:=λvs c hc=>
  dq (P:=λc=>PyData.eqv (.list (toPys vs)) (toPy c)=false∧PyData.eqv (toPy c) (.list (toPys vs))=false) hc ⟨rfl,rfl⟩ (λ_=>⟨rfl,rfl⟩) (λ_=>⟨rfl,rfl⟩) λ_ _ _ _=>⟨rfl,rfl⟩
 rcases oa H a with ⟨n,vs,_,_,q⟩|q|q
 ·rw[q]at ha ⊢
  rcases oa H b with ⟨m,us,_,_,q'⟩|q'|q'
  ·rw[q']at hb ⊢;exact CP 8 8 vs us (m5 ha) (m5 hb)
  ·rw[q']at hb ⊢;exact(mixed vs b hb).1
  ·rw[q']at hb;exact absurd hb Bool.false_ne_true
 ·rw[q]at ha ⊢
  rcases oa H b with ⟨m,us,_,_,q'⟩|q'|q'
  ·rw[q']at hb ⊢;exact(mixed us a ha).2
  ·rw[q']at hb ⊢;exact xl 9 9 a b ha hb
  ·rw[q']at hb;exact absurd hb Bool.false_ne_true
 ·rw[q]at ha;exact absurd ha Bool.false_ne_true
theorem Ii{a:ae}(ha:isData 8 a=true):∀{vs:List ae},vs.all (isData 8)=true->((toPys vs).any λy=>PyData.eqv y (toPy a))=vs.any λv=>ae.beq v a:=by
 intro zz;induction zz with
 |nil=>
  intro _;exact rfl
 |cons v vs ih=>
  intro h;have h:=Bool.and_eq_true_iff.mp h;show(PyData.eqv (toPy v) (toPy a) || (toPys vs).any λy=>PyData.eqv y (toPy a))=(ae.beq v a || vs.any λv=>ae.beq v a);rw[ih h.2,xl 8 8 v a h.1 ha]
end
section
variable{aa:Program}{w:World}{hW:Heap}{gt:List (String×ae)}{P:cW}{F:dQ}{n:Nat}{mg mb:Str->Option Value}
 {A:Around}{ah:List Env}{env:Env}{l:Loc}{s:Shared}{ρ:Nat->Addr}{H:AH}{Q E:Value->Shared->Prop}
theorem vG{ρ:Nat->Addr}{H:AH}{h:Heap}(st:St (af aa w) hW ah ρ H h)(sy:(hW.get? sysModules).isSome=true){n:Nat}(hn:n<H.next):(ρ n==sysModules)=false:=by
 refine beq_eq_false_iff_ne.mpr λe=>?_;have:=st.out n hn;rw[e]at this;rw[this]at sy;exact absurd sy Bool.false_ne_true
theorem iK{aa:Program}{w:World}{knd:KeyKind aa w (Option Str)}{h h':Heap}{p:Addr}{f:Option Str->Option Value}(M:h.MapOf knd p f)(k:∀b o,h.get? b=some o->h'.get? b=some o):h'.MapOf knd p f:=rI M λo es ep g r=>⟨o,es,ep,k _ _ g,r⟩
theorem xq{n d m:Nat}(cu:A.units+40*n+200<=cLine)(h:d<=8):A.units+1+min m d<cLine:=by omega
theorem CT{n d e:Nat}(cu:A.units+40*n+200<=cLine)(h:d<=10):A.units+min d e<cLine:=by omega
theorem dR(k:String)(t:Nat):(af aa w).is (some (aK k)) (.str (aK k) t)=true:=beq_self_eq_true (aK k)
theorem uy{a:ae}{x y:Value}{vs:List ae}{ws:List Value}{r:Bool}{d:PyData}(he:RF a vs=some r)(ra:bf (af aa w) hW s.heap ρ H.next a x)(vp:aP (af aa w) hW s.heap ρ H.next vs ws)
  (hq:∀(k:isData 8 a=true) (kv:vs.all (isData 8)=true) as bs,Reads s.heap x (toPy a) as->ReadsAll s.heap ws (toPys vs) bs->r=((toPys vs).any λy=>PyData.eqv y (toPy a))->wpAny (model aa w) A (compareOp .In x y) Q E s∧wpAny (model aa w) A (compareOp .NotIn x y) Q' E s):
  wpAny (model aa w) A (compareOp .In x y) Q E s∧wpAny (model aa w) A (compareOp .NotIn x y) Q' E s:=by
 refine fX he λhd e=>?_;refine bk (Bool.and_eq_true_iff.mp hd) λh1 h2=>?_;refine aV (qh 8 vs ws h2 vp) λbs LU=>?_;refine aV (rY 8 a x h1 ra) λas LX=>?_;exact hq h1 h2 as bs LX LU ((Option.some.inj e).symm.trans (Ii h1 h2).symm)
theorem xr{a b:ae}{x y:Value}{r:Bool}(sy:(hW.get? sysModules).isSome=true)(C:Cx A ah n)(st:St (af aa w) hW ah ρ H s.heap)(ra:bf (af aa w) hW s.heap ρ H.next a x)(rb:bf (af aa w) hW s.heap ρ H.next b y)
  (he:isIn H a b=some r) (hq:∀t,Q (.bool r) { s with toks:=t }) (BQ:∀t,Q' (.bool (!r)) { s with toks:=t }):
  wpAny (model aa w) A (compareOp .In x y) Q E s∧wpAny (model aa w) A (compareOp .NotIn x y) Q' E s:=by
 have cu:=C.units;cases b with
 |tup vs=>
  refine rb.E λp ws z1 z2 vp=>?_;clear rb;subst z1;refine cn z2 ?_;clear z2;intro o i g c d;refine uy (d:=.none) he ra vp λh1 h2 as bs LX LU e=>?_;subst e;have rt:Reads s.heap (.ref p) (.tuple (toPys vs)) bs:=.tuple g c d (by simpa using LU);have hu:=xq (m:=PyData.depthAll (toPys vs)) cu (nh 8 a h1);exact⟨SeqAt.in_tuple_reads rt LX (eR 8 vs h2) (fP 8 a h1) hu (hq s.toks),SeqAt.notIn_tuple_reads rt LX (eR 8 vs h2) (fP 8 a h1) hu (BQ s.toks)⟩
 |cp ks vs=>
  refine rK he λk z1 e1=>?_;clear he;subst z1;refine ra.E λt z1=>?_;clear ra;subst z1;refine rb.E λp z1 hs kvs hD hk vp=>?_;clear rb;subst z1;have hM:s.heap.MapOf (af aa w) p (valueAt kvs):=iK hD.mapOf st.stays;have e:(valueAt kvs (some (aK k))).isSome=r:=by
   rw[(kY (k:=k) hk vp).isSome,CS,Option.some.inj e1];have:=vp.length;rw[List.length_map]at this;have h3:=congrArg List.length hk;rw[List.length_map,List.length_map]at h3;exact this.symm.trans h3
  subst e;exact⟨wpAny_in_of (dR k t) (beq_eq_false_iff_ne.mpr hs) hM (hq _),wpAny_notIn_of (dR k t) (beq_eq_false_iff_ne.mpr hs) hM (BQ _)⟩
 |ref m=>
  refine rb.E λhm z1=>?_;clear rb;subst z1;refine zC he (λvs e1 e2=>?_) λks vs e1 e2=>?_
  ·refine aO (st.toCells.get hm e1) λws i ho vp=>?_
   refine uy (d:=.none) e2 ra vp λh1 h2 as bs LX LU e=>?_;subst e;have rt:=Reads.list ho rfl rfl (show ReadsAll s.heap (ws.toArray).toList (toPys vs) bs by simpa using LU);have hu:=xq (m:=PyData.depthAll (toPys vs)) cu (nh 8 a h1);exact⟨SeqAt.in_list_reads rt LX (eR 8 vs h2) (fP 8 a h1) hu (hq s.toks),SeqAt.notIn_list_reads rt LX (eR 8 vs h2) (fP 8 a h1) hu (BQ s.toks)⟩
  ·clear he
   refine rK e2 λk z1 e3=>?_;clear e2;subst z1;refine ra.E λt z1=>?_;clear ra;subst z1;refine fq (st.toCells.get hm e1) λkvs hD hk BP vp=>?_;have e:(valueAt kvs (some (aK k))).isSome=r:=(jP (k:=.str k) rfl hk BP vp).isSome.trans (Option.some.inj e3);subst e;have ns:=vG st sy hm;exact⟨wpAny_in_of (dR k t) ns hD.mapOf (hq _),wpAny_notIn_of (dR k t) ns hD.mapOf (BQ _)⟩
 |_=>exact absurd he nn
theorem uz{a b:ae}{x y:Value}{r:Bool}(ra:bf (af aa w) hW s.heap ρ H.next a x)(rb:bf (af aa w) hW s.heap ρ H.next b y)(he:Sr a b=some r):y=.none∧plainIs x .none=true∧r=(x==.none):=by
 cases b with
 |none=>
  refine⟨rb,?_⟩;cases a with
  |none=>cases ra;cases he;exact⟨rfl,rfl⟩
  |tup vs=>obtain⟨p,ws,rfl,_⟩:=ra;cases he;exact⟨rfl,rfl⟩
  |str x=>obtain⟨t,rfl⟩:=ra;cases he;exact⟨rfl,rfl⟩
  |int i=>obtain⟨t,rfl⟩:=ra;cases he;exact⟨rfl,rfl⟩
  |ref m=>obtain⟨_,rfl⟩:=ra;cases he;exact⟨rfl,rfl⟩
  |_=>exact absurd he nn
 |_=>exact absurd he nn
theorem rk{a b:ae}{x y:Value}{r:Bool}{p:Int->Int->Bool}{P:Prop}(ra:bf (af aa w) hW s.heap ρ H.next a x)(rb:bf (af aa w) hW s.heap ρ H.next b y)(h:(vInt a λi=>vInt b λj=>some (p i j))=some r)(k:∀i j t u,x=.int i t->y=.int j u->r=p i j->P):P:=by
 refine ints_of ra rb h λi j t u e1 e2 h=>?_;exact k i j t u e1 e2 (Option.some.inj h).symm
theorem uA{a b:ae}{x y:Value}{r:Bool}(C:Cx A ah n)(st:St (af aa w) hW ah ρ H s.heap)(ra:bf (af aa w) hW s.heap ρ H.next a x)(rb:bf (af aa w) hW s.heap ρ H.next b y)(he:Ea H a b=some r):
  ∃dx dy as bs,Reads s.heap x dx as∧Reads s.heap y dy bs∧dx.canLay0=true∧dy.canLay0=true∧A.units+min dx.depth dy.depth<cLine∧PyData.eqv dx dy=r:=by
 refine fX he λhd e=>?_;refine bk (Bool.and_eq_true_iff.mp hd) λh1 h2=>?_;refine cm (xo st ra h1) λas r1 c1 d1=>?_;refine cm (xo st rb h2) λbs r2 c2 d2=>?_;exact⟨_,_,as,bs,r1,r2,c1,c2,CT C.units d1,(LW h1 h2).trans (Option.some.inj e)⟩
theorem pB{op:rh}{iB:CmpOp}{a b:ae}{x y:Value}{r:Bool}(sy:(hW.get? sysModules).isSome=true)(ho:nY op iB=true)(C:Cx A ah n)(st:St (af aa w) hW ah ρ H s.heap)
  (ra:bf (af aa w) hW s.heap ρ H.next a x) (rb:bf (af aa w) hW s.heap ρ H.next b y)
  (he:bz op a b H=some r) (hq:∀t,Q (.bool r) { s with toks:=t }):wpAny (model aa w) A (compareOp iB x y) Q E s:=by
 replace ho:=LR ho;subst ho;have Kb:=hq s.toks;cases op with
 |eq=>
  obtain⟨_,_,_,_,r1,r2,c1,c2,hu,e⟩:=uA C st ra rb he;exact SeqAt.compareEq_reads r1 r2 c1 c2 hu (by rw[e];exact Kb)
 |ne=>
  refine aI (Option.map_eq_some_iff.mp he) λr' e' e2=>?_;obtain⟨_,_,_,_,r1,r2,c1,c2,hu,e⟩:=uA C st ra rb e';exact SeqAt.compareNe_reads r1 r2 c1 c2 hu (by rw[e,e2];exact Kb)
 |lt=>exact rk ra rb he λi j t u e1 e2 e3=>by subst e1;subst e2;subst e3;exact lt_int Kb
 |le=>exact rk ra rb he λi j t u e1 e2 e3=>by subst e1;subst e2;subst e3;exact le_int Kb
 |gt=>exact rk ra rb he λi j t u e1 e2 e3=>by subst e1;subst e2;subst e3;exact gt_int Kb
 |ge=>exact rk ra rb he λi j t u e1 e2 e3=>by subst e1;subst e2;subst e3;exact ge_int Kb
 |is=>
  refine dw (uz ra rb he) λOZ hp e=>?_;subst OZ;exact wpAny_is_plain hp (e▸Kb)
 |eI=>
  refine aI (Option.map_eq_some_iff.mp he) λr' e' e2=>?_;refine dw (uz ra rb e') λO0 hp e=>?_;subst O0;exact wpAny_isNot_plain hp (e▸e2▸Kb)
 |kg=>exact(xr (Q':=λ_ _=>True) sy C st ra rb he hq λ_=>trivial).1
 |pZ=>
  refine aI (Option.map_eq_some_iff.mp he) λr' e O2=>?_;subst O2;exact(xr (Q:=λ_ _=>True) sy C st ra rb e (λ_=>trivial) hq).2
theorem Ij{op:HO}{a b:aZ}(h1:(aG (af aa w) hW gt P F n) a)(h2:(aG (af aa w) hW gt P F n) b):(aG (af aa w) hW gt P F n) (.bin op a b):=by
 intro e' A ah env l s ρ H r Q E hc N he hq;refine OD hc λc iB d pos z1 k1=>?_;clear hc;subst z1;refine bk (az k1) λk2 c3=>?_;refine bk (az k2) λc1 c2=>?_;refine bB.dn (Q':=λx aS=>wpAny (model aa w) A (eval d env) (λy cz=>wpAny (model aa w) A (binaryOp iB x y) Q E cz) E aS) he N hq (by
  intro v H₁ _ f1 x aq ay t₁ aN bL br aM
  refine bB.dn (Q':=λy cz=>wpAny (model aa w) A (binaryOp iB x y) Q E cz) f1 aN aM (by
   intro u bU _ f2 y b9 bV jK eh bh cf gv
   refine ed f2 λz1 e3 f3=>?_
   clear f2
   obtain⟨v',H'⟩:=z1
   exact CN c1 eh.st (bh.i0 br) cf e3 (gv.of f3)) λvH e2 o2=>?_
  exact h2 d A ah env l _ aq H₁ vH _ E c3 aN e2 o2) λbX e1 o1=>?_
 exact wpAny_BinOp (h1 c A ah env l s ρ H bX _ E c2 N e1 o1)
theorem iL{op:CmpOp}{e:Expr}(h:iG e=true):behindInMarks op e=false:=by
 cases e<;>first|rfl|cases h
theorem rm{op:rh}{iB:CmpOp}{a b:aZ}{c d:Expr}{f:ae->ae->AH->Out ae}{r:Except Nat ae×AH}{W:Value->Value->Value->Shared->Prop}(sy:(hW.get? sysModules).isSome=true)(h1:(aG (af aa w) hW gt P F n) a)(h2:(aG (af aa w) hW gt P F n) b)
  (c1:nY op iB=true) (c2:bt gt env.scope a c=true) (c3:bt gt env.scope b d=true)
  (he:(iz (aW P F a l H) λx H=>iz (aW P F b l H) λy H=>fM (bz op x y H) λq=>f (.bool q) y H)=some r) (N:ja (af aa w) hW A ah n env l ρ H s.heap)
  (hq:bB (af aa w) hW ah s ρ H r Q E)
  (k:∀q v H₁,f (.bool q) v H₁=some r->∀x y aq ay t₁,ja (af aa w) hW A ah n env l aq H₁ ay->Step eQ (bl ah) ρ H.next s.heap aq H₁.next ay->bf (af aa w) hW ay aq H₁.next v y->
   bB (af aa w) hW ah { s with heap:=ay,toks:=t₁ } aq H₁ r Q E->W (.bool q) x y { s with heap:=ay,toks:=t₁ }):
  wpAny (model aa w) A (eval c env) (λx aS=>wpAny (model aa w) A (eval d env) (λy cz=>wpAny (model aa w) A (compareOp iB x y) (λz=>W z x y) E cz) E aS) E s:=by
 refine bB.dn (Q':=λx aS=>wpAny (model aa w) A (eval d env) (λy cz=>wpAny (model aa w) A (compareOp iB x y) (λz=>W z x y) E cz) E aS) he N hq (by
  intro v H₁ _ f1 x aq ay t₁ aN bL br aM
  refine bB.dn (Q':=λy cz=>wpAny (model aa w) A (compareOp iB x y) (λz=>W z x y) E cz) f1 aN aM (by
   intro u bU _ f2 y b9 bV jK eh bh cf gv
   refine ed f2 λq e3 f3=>?_
   exact pB sy c1 eh.cx eh.st (bh.i0 br) cf e3 λt=>k q u bU f3 x y b9 bV t eh (bL.trans bh) cf (gv.after (t₁:=t) .refl)) λvH e2 o2=>?_
  exact h2 d A ah env l _ aq H₁ vH _ E c3 aN e2 o2) λbX e1 o1=>?_
 exact h1 c A ah env l s ρ H bX _ E c2 N e1 o1
theorem BR{C:Prop}{sc:Scope}{a b:aZ}{op:rh}{e':Expr}(hc:bt gt sc (.cmp a op b) e'=true)(k_:∀c,∀iB,∀d,∀pos,e'=.Compare c [iB] [d] pos->nY op iB=true->iG d=true->bt gt sc a c=true->bt gt sc b d=true->C):C:=by
 refine J3 hc λc os ds pos e h1=>?_;refine eP h1 λiB e1 h2=>?_;refine eP h2 λd e2 h3=>?_;refine bk (az h3) λh4 h5=>?_;refine bk (az h4) λh6 h7=>?_;exact k_ c iB d pos (by rw[e,e1,e2]) ((az h6).1) ((az h6).2) h7 h5
theorem xt{C:Prop}{sc:Scope}{a b c:aZ}{op kX:rh}{e':Expr}(hc:bt gt sc (.qL a op b kX c) e'=true)(k_:∀a',∀iB,∀cI,∀b',∀c',∀pos,e'=.Compare a' [iB,cI] [b',c'] pos->nY op iB=true->nY kX cI=true->iG b'=true->iG c'=true->bt gt sc a a'=true->bt gt sc b b'=true->bt gt sc c c'=true->C):C:=by
 refine J3 hc λa' os ds pos e h1=>?_;refine px h1 λiB cI e1 h2=>?_;refine px h2 λb' c' e2 h3=>?_;refine bk (az h3) λh3 k7=>?_;refine bk (az h3) λh3 k6=>?_;refine bk (az h3) λh3 k5=>?_;refine bk (az h3) λh3 k4=>?_;refine bk (az h3) λh3 k3=>?_;refine bk (az h3) λk1 k2=>?_;exact k_ a' iB cI b' c' pos (by rw[e,e1,e2]) k1 k2 k3 k4 k5 k6 k7
theorem Ik{op:rh}{a b:aZ}(sy:(hW.get? sysModules).isSome=true)(h1:(aG (af aa w) hW gt P F n) a)(h2:(aG (af aa w) hW gt P F n) b):(aG (af aa w) hW gt P F n) (.cmp a op b)∧(cv (af aa w) hW gt P F n) (.cmp a op b):=by
 constructor
 ·intro e' A ah env l s ρ H r Q E hc N he hq
  refine BR hc λc iB d pos z1 c1 c0 c2 c3=>?_;subst z1;refine wpAny_Compare1 ?_ (iL c0);refine rm (f:=λz _ H=>ok z H) (W:=λz _ _ s'=>Q z s') sy h1 h2 c1 c2 c3 he N hq ?_;intro q v H₁ f1 x y aq ay t₁ aN sp vr aM;exact bH.gY (aM.of f1) aN.st rfl
 ·intro e' A ah env l s ρ H r Q E hc N he hq _
  refine BR hc λc iB d pos z1 c1 c0 c2 c3=>?_;subst z1;refine wpAny_isTrue_Compare1 ?_ (iL c0);refine rm (f:=λz _ H=>ok z H) (W:=λz _ _ s'=>wpAny (model aa w) A (truthy z) Q E s') sy h1 h2 c1 c2 c3 he N hq ?_;intro q v H₁ f1 x y aq ay t₁ aN sp vr aM;exact wpAny_truthy_bool (bH.gY (Q:=λv s'=>∀b,v=.bool b->Q b s') (aM.of f1) aN.st (x:=.bool q) rfl q rfl)
theorem EM{op kX:rh}{a b c:aZ}(sy:(hW.get? sysModules).isSome=true)(h1:(aG (af aa w) hW gt P F n) a)(h2:(aG (af aa w) hW gt P F n) b)(h3:(aG (af aa w) hW gt P F n) c):(aG (af aa w) hW gt P F n) (.qL a op b kX c):=by
 intro e' A ah env l s ρ H r Q E hc N he hq;refine xt hc λa' iB cI b' c' pos z1 k1 k2 k3 k4 k5 k6 k7=>?_;subst z1;have e0:eval (.Compare a' [iB,cI] [b',c'] pos) env=(do
   let x <-eval a' env
   let y <-holding [x] (eval b' env)
   standAt pos
   let z <-holding [x,y] (compareOp iB x y)
   release [x,y] [z]
   if <-holding [z,y] (truthy z)then(do
    let u <-holding [y] (markedBehindIn cI c' (eval c' env))
    standAt pos
    operate [y,u] (compareOp cI y u))else pure z):=rfl
 rw[e0];refine wpAny_bind (wpAny_mono (rm (f:=λz y H=>match z with
   | .bool true=>iz (aW P F c l H) λu H=>fM (bz kX y u H) λq=>ok (.bool q) H
   |_=>ok (.bool false) H) (W:=λz x y s'=>wpAny (model aa w) A (do
   release [x,y] [z]
   if <-holding [z,y] (truthy z)then(do
    let u <-holding [y] (markedBehindIn cI c' (eval c' env))
    standAt pos
    operate [y,u] (compareOp cI y u))else pure z) Q E s') sy h1 h2 k1 k5 k6 ?_ N hq ?_) ?_ λ_ _ x=>x)
 ·rw[<-he]
  congr 1
  funext x H
  congr 1
  funext y H
  congr 1
  funext q
  cases q<;>rfl
 ·intro q v H₁ f1 x y aq ay t₁ aN sp vr aM
  refine wpAny_bind (wpAny_release (wpAny_bind (wpAny_holding (wpAny_truthy_bool ?_))));cases q with
  |false=>
   exact wpAny_pure (bH.gY (aM.of f1) aN.st rfl)
  |true=>
   refine bB.dn (Q':=λu cz=>wpAny (model aa w) A (do standAt pos;operate [y,u] (compareOp cI y u)) Q E cz) f1 aN aM (by
    intro u bU _ f2 z b9 bV jK eh bh cf gv
    refine ed f2 λq e3 f3=>?_
    exact wpAny_bind (wpAny_standAt (wpAny_operating (pB sy k2 eh.cx eh.st (bh.i0 vr) cf e3 λt=>bH.now (gv.of f3) eh.st rfl)))) λvH e2 o2=>?_
   rw[markedBehindIn_of_false (iL k4)];exact wpAny_bind (wpAny_holding (h3 c' A ah env l _ aq H₁ vH _ E k7 aN e2 o2))
 ·intro x aS hx
  refine wpAny_bind (wpAny_mono (wpAny_holding hx) (λy cz hy=>?_) λ_ _ z=>z);exact wpAny_bind (wpAny_standAt (wpAny_bind (wpAny_holding hy)))
theorem bB.og{C:Prop}{e:aZ}{f:ae->AH->Out ae}{r:Except Nat ae×AH}{Q':Bool->Shared->Prop}(hb:iz (aW P F e l H) f=some r)(N:ja (af aa w) hW A ah n env l ρ H s.heap)
  (hE:bB (af aa w) hW ah s ρ H r Q E) (rZ:∀v H₁,f v H₁=some r->∃b,v=.bool b)
  (k:∀b H₁,f (.bool b) H₁=some r->∀aq ay t₁,ja (af aa w) hW A ah n env l aq H₁ ay->Step eQ (bl ah) ρ H.next s.heap aq H₁.next ay->
   bB (af aa w) hW ah { s with heap:=ay,toks:=t₁ } aq H₁ r Q E->Q' b { s with heap:=ay,toks:=t₁ }) (k_:∀bX,aW P F e l H=some bX->(bB (af aa w) hW ah s ρ H bX (λv s'=>∀b,v=.bool b->Q' b s') E)->(∀v H₁,bX=(.ok v,H₁)->∃b,v=.bool b)->C):C:=by
 refine cX hb (λv H₁ e1 e2=>?_) λc H₁ e1 e2=>?_
 ·obtain⟨b,rfl⟩:=rZ v H₁ e2
  refine k_ _ e1 (λx aq ay t₁ st sp vr b' O3=>?_) (λv bU q=>by cases q;exact⟨b,rfl⟩);obtain rfl:x=.bool b:=vr;cases O3;exact k b H₁ e2 aq ay t₁ (N.next st sp) sp (hE.after sp)
 ·subst e2;exact k_ _ e1 hE (λv bU q=>by cases q)
theorem zN{r:Except Nat ae×AH}{Q:Bool->Shared->Prop}(hq:bB (af aa w) hW ah s ρ H r (λv s'=>∀b,v=.bool b->Q b s') E)(hb:∀v H₁,r=(.ok v,H₁)->∃b,v=.bool b):
  bB (af aa w) hW ah s ρ H r (λv s'=>wpAny (model aa w) A (truthy v) Q E s') E:=by
 obtain⟨r,H₁⟩:=r;cases r with
 |error c=>exact hq
 |ok v=>
  obtain⟨b,rfl⟩:=hb v H₁ rfl;intro x bq h' t st sp vr;obtain rfl:x=.bool b:=vr;exact wpAny_truthy_bool (hq _ bq h' t st sp rfl b rfl)
noncomputable def plainT:Expr->Bool
 | .UnaryOp .Not _ _ | .BoolOp .. | .IfExp .. | .Compare ..=>false
 |_=>true
set_option tactic.hygienic true in
theorem isTrue_plain{e:Expr}{env:Env}{whole:Sem Value}(h:plainT e=true):isTrue e env whole=(do let v <-whole;standAt e.pos;holding [v] (truthy v)):=by
 cases e<;>first|rfl|(cases h;done)|skip
 rename_i op x pos;cases op<;>first|rfl|cases h
theorem bC{e:aZ}(hp:∀sc e',bt gt sc e e'=true->e=.dead∨plainT e'=true)(h:(aG (af aa w) hW gt P F n) e):(cv (af aa w) hW gt P F n) e:=by
 intro e' A ah env l s ρ H r Q E hc N he hq hb;rcases hp _ _ hc with rfl|hp
 ·exact absurd he nn
 ·exact wpAny_isTrue_value (h e' A ah env l s ρ H r _ E hc N he (zN hq hb)) (isTrue_plain hp)
theorem oh{v:ae}{H₁:AH}{k:Bool->Out ae}{r:Except Nat ae×AH}(h:vBool v k=some r):∃b,v=.bool b:=jF h λb e _=>⟨b,e⟩
theorem BS{C:Prop}{sc:Scope}{e:aZ}{e':Expr}(hc:bt gt sc (.not e) e'=true)(k_:∀x,∀pos,e'=.UnaryOp .Not x pos->bt gt sc e x=true->C):C:=by
 refine LL hc λo x pos e1 h=>?_;exact k_ x pos (by rw[e1,eq_of_beq (az h).1]) ((az h).2)
theorem BU{C:Prop}{sc:Scope}{e:aZ}{e':Expr}(hc:bt gt sc (.neg e) e'=true)(k_:∀x,∀pos,e'=.UnaryOp .USub x pos->bt gt sc e x=true->C):C:=by
 refine LL hc λo x pos e1 h=>?_;exact k_ x pos (by rw[e1,eq_of_beq (az h).1]) ((az h).2)
theorem Il{e:aZ}(h1:(aG (af aa w) hW gt P F n) e)(h2:(cv (af aa w) hW gt P F n) e):(aG (af aa w) hW gt P F n) (.not e)∧(cv (af aa w) hW gt P F n) (.not e):=by
 constructor
 ·intro e' A ah env l s ρ H r Q E hc N he hq
  refine BS hc λx pos z1 c1=>?_;subst z1;refine bB.dn (Q':=λv aS=>wpAny (model aa w) A (unaryOp .Not v) Q E aS) he N hq (by
   intro v H₁ _ f1 x aq ay t₁ aN bL br aM
   refine jF f1 λb z1 f2=>?_
   clear f1
   subst z1
   obtain rfl:x=.bool b:=br
   exact not_value (wpAny_truthy_bool (bH.gY (aM.of f2) aN.st rfl))) λbX e1 o1=>?_
  exact wpAny_UnaryOp (h1 x A ah env l s ρ H bX _ E c1 N e1 o1)
 ·intro e' A ah env l s ρ H r Q E hc N he hq hb
  refine BS hc λx pos z1 c1=>?_;subst z1;refine bB.og (Q':=λb aS=>Q (!b) aS) he N hq (λv H₁ f1=>oh (H₁:=H₁) f1)
   (λb H₁ f1 aq ay t₁ aN bL aM=>bH.gY (Q:=λv s'=>∀b,v=.bool b->Q b s') (aM.of f1) aN.st (x:=.bool (!b)) rfl _ rfl) λbX e1 o1 b1=>?_
  exact wpAny_isTrue_Not (h2 x A ah env l s ρ H bX _ E c1 N e1 o1 b1)
theorem Im{e:aZ}(h1:(aG (af aa w) hW gt P F n) e):(aG (af aa w) hW gt P F n) (.neg e):=by
 intro e' A ah env l s ρ H r Q E hc N he hq;refine BU hc λx pos z1 c1=>?_;subst z1;refine bB.dn (Q':=λv aS=>wpAny (model aa w) A (unaryOp .USub v) Q E aS) he N hq (by
  intro v H₁ _ f1 x aq ay t₁ aN bL br aM
  refine jq f1 λi z1 f2=>?_
  clear f1
  subst z1
  refine br.E λt z1=>?_
  clear br
  subst z1
  exact PySem.P.neg_int (bH.now (aM.of f2) aN.st ⟨_,rfl⟩)) λbX e1 o1=>?_
 exact wpAny_UnaryOp (h1 x A ah env l s ρ H bX _ E c1 N e1 o1)
theorem BV{C:Prop}{sc:Scope}{c a b:aZ}{e':Expr}(hc:bt gt sc (.ite c a b) e'=true)(k_:∀c',∀a',∀b',∀pos,e'=.IfExp c' a' b' pos->bt gt sc c c'=true->bt gt sc a a'=true->bt gt sc b b'=true->C):C:=by
 refine Sx hc λc' a' b' pos e1 h=>?_;exact k_ c' a' b' pos e1 ((az (az h).1).1) ((az (az h).1).2) ((az h).2)
theorem Io{c a b:aZ}(Kc:(cv (af aa w) hW gt P F n) c)(ha:(aG (af aa w) hW gt P F n) a)(hb:(aG (af aa w) hW gt P F n) b)(ta:(cv (af aa w) hW gt P F n) a)(tb:(cv (af aa w) hW gt P F n) b):(aG (af aa w) hW gt P F n) (.ite c a b)∧(cv (af aa w) hW gt P F n) (.ite c a b):=by
 constructor
 ·intro e' A ah env l s ρ H r Q E hc N he hq
  refine BV hc λc' a' b' pos z1 c1 c2 c3=>?_;subst z1;refine bB.og (Q':=λb aS=>if b then wpAny (model aa w) A (eval a' env) Q E aS else wpAny (model aa w) A (eval b' env) Q E aS) he N hq (λv H₁ f1=>oh (H₁:=H₁) f1) (by
   intro b H₁ f1 aq ay t₁ aN bL aM
   cases b
   ·exact hb b' A ah env l _ aq H₁ r Q E c3 aN f1 aM
   ·exact ha a' A ah env l _ aq H₁ r Q E c2 aN f1 aM) λbX e1 o1 b1=>?_
  exact wpAny_IfExp (Kc c' A ah env l s ρ H bX _ E c1 N e1 o1 b1)
 ·intro e' A ah env l s ρ H r Q E hc N he hq rZ
  refine BV hc λc' a' b' pos z1 c1 c2 c3=>?_;subst z1;refine bB.og (Q':=λb aS=>if b then wpAny (model aa w) A (isTrue a' env (eval a' env)) Q E aS else wpAny (model aa w) A (isTrue b' env (eval b' env)) Q E aS) he N hq (λv H₁ f1=>oh (H₁:=H₁) f1) (by
   intro b H₁ f1 aq ay t₁ aN bL aM
   cases b
   ·exact tb b' A ah env l _ aq H₁ r Q E c3 aN f1 aM rZ
   ·exact ta a' A ah env l _ aq H₁ r Q E c2 aN f1 aM rZ) λbX e1 o1 b1=>?_
  show wpAny _ _ (do if <-isTrue c' env (eval c' env)then isTrue a' env (eval a' env)else isTrue b' env (eval b' env)) Q E s;refine wpAny_bind (wpAny_mono (Kc c' A ah env l s ρ H bX _ E c1 N e1 o1 b1) (λb aS hs=>?_) λ_ _ x=>x);cases b<;>exact hs
theorem l8{C:Prop}{sc:Scope}{e:aZ}{fs:List Expr}(h:cb gt sc [e] fs=true)(k_:∀f,fs=[f]->bt gt sc e f=true->C):C:=by
 cases fs with
 |nil=>exact absurd h ff
 |cons f fs=>exact k_ f (by rw[bF (az h).2]) ((az (az h).1).2)
theorem gZ{C:Prop}{sc:Scope}{e:aZ}{es:List aZ}{fs:List Expr}(h:cb gt sc (e::es) fs=true)(k_:∀f,∀r,fs=f::r->bt gt sc e f=true->cb gt sc es r=true->C):C:=by
 cases fs with
 |nil=>exact absurd h ff
 |cons f fs=>exact k_ f fs rfl ((az (az h).1).2) ((az h).2)
theorem uB{C:Prop}{sc:Scope}{e e2:aZ}{es:List aZ}{fs:List Expr}(h:cb gt sc (e::e2::es) fs=true)(k_:∀f,∀f2,∀r,fs=f::f2::r->bt gt sc e f=true->cb gt sc (e2::es) (f2::r)=true->C):C:=by
 refine gZ h λf r z1 c1 c2=>?_;subst z1;cases r with
 |nil=>exact absurd c2 ff
 |cons f2 r=>exact k_ f f2 r rfl c1 c2
theorem O4:∀(es:List aZ),(∀e,e∈es->(aG (af aa w) hW gt P F n) e∧(cv (af aa w) hW gt P F n) e)->∀(fs:List Expr) (pos:Pos) (A:Around) (ah:List Env) (env:Env) (l:Loc) (s:Shared) (ρ:Nat->Addr) (H:AH) (r:Except Nat ae×AH) (Q E:Value->Shared->Prop),
  cb gt env.scope es fs=true->ja (af aa w) hW A ah n env l ρ H s.heap->evalAnd P F es l H=some r->bB (af aa w) hW ah s ρ H r Q E->wpAny (model aa w) A (eval (.BoolOp .And fs pos) env) Q E s:=by
 intro zz;induction zz with
 |nil=>
  intro _ _ _ _ _ _ _ _ _ _ _ _ _ _ _ he _;exact absurd he nn
 |cons e b0 ih=>
  intro hs fs pos A ah env l s ρ H r Q E hc N he hq;cases b0 with
  |nil=>
   refine l8 hc λf z1 c1=>?_;subst z1;exact BoolOp_one ((hs e (.head _)).1 f A ah env l s ρ H r Q E c1 N he hq)
  |cons e2 es=>
   refine uB hc λf f2 fs z1 c1 Ec=>?_;subst z1;refine BoolOp_and ?_;refine bB.dn (Q':=λv aS=>wpAny (model aa w) A (truthy v) (λc cz=>if c then wpAny (model aa w) A (eval (.BoolOp .And (f2::fs) pos) env) Q E cz else Q v cz) E aS) he N hq (by
    intro v H₁ _ f1 x aq ay t₁ aN bL br aM
    refine jF f1 λb z1 g1=>?_
    clear f1
    subst z1
    obtain rfl:x=.bool b:=br
    refine wpAny_truthy_bool ?_
    cases b with
    |true=>exact ih (λe he=>hs e (.tail _ he)) (f2::fs) pos A ah env l _ aq H₁ r Q E Ec aN g1 aM
    |false=>exact bH.gY (aM.of g1) aN.st rfl) λbX e1 o1=>?_
   exact(hs e (.head _)).1 f A ah env l s ρ H bX _ E c1 N e1 o1
theorem SD:∀(es:List aZ),(∀e,e∈es->(aG (af aa w) hW gt P F n) e∧(cv (af aa w) hW gt P F n) e)->∀(fs:List Expr) (pos:Pos) (A:Around) (ah:List Env) (env:Env) (l:Loc) (s:Shared) (ρ:Nat->Addr) (H:AH) (r:Except Nat ae×AH) (Q E:Value->Shared->Prop),
  cb gt env.scope es fs=true->ja (af aa w) hW A ah n env l ρ H s.heap->evalOr P F es l H=some r->bB (af aa w) hW ah s ρ H r Q E->wpAny (model aa w) A (eval (.BoolOp .Or fs pos) env) Q E s:=by
 intro zz;induction zz with
 |nil=>
  intro _ _ _ _ _ _ _ _ _ _ _ _ _ _ _ he _;exact absurd he nn
 |cons e b0 ih=>
  intro hs fs pos A ah env l s ρ H r Q E hc N he hq;cases b0 with
  |nil=>
   refine l8 hc λf z1 c1=>?_;subst z1;exact BoolOp_one ((hs e (.head _)).1 f A ah env l s ρ H r Q E c1 N he hq)
  |cons e2 es=>
   refine uB hc λf f2 fs z1 c1 Ec=>?_;subst z1;refine BoolOp_or ?_;refine bB.dn (Q':=λv aS=>wpAny (model aa w) A (truthy v) (λc cz=>if c then Q v cz else wpAny (model aa w) A (eval (.BoolOp .Or (f2::fs) pos) env) Q E cz) E aS) he N hq (by
    intro v H₁ _ f1 x aq ay t₁ aN bL br aM
    refine jF f1 λb z1 g1=>?_
    clear f1
    subst z1
    obtain rfl:x=.bool b:=br
    refine wpAny_truthy_bool ?_
    cases b with
    |true=>exact bH.gY (aM.of g1) aN.st rfl
    |false=>exact ih (λe he=>hs e (.tail _ he)) (f2::fs) pos A ah env l _ aq H₁ r Q E Ec aN g1 aM) λbX e1 o1=>?_
   exact(hs e (.head _)).1 f A ah env l s ρ H bX _ E c1 N e1 o1
theorem O5:∀(es:List aZ),(∀e,e∈es->(aG (af aa w) hW gt P F n) e∧(cv (af aa w) hW gt P F n) e)->∀(fs:List Expr) (A:Around) (ah:List Env) (env:Env) (l:Loc) (s:Shared) (ρ:Nat->Addr) (H:AH) (r:Except Nat ae×AH) (Q:Bool->Shared->Prop) (E:Value->Shared->Prop),
  cb gt env.scope es fs=true->ja (af aa w) hW A ah n env l ρ H s.heap->evalAnd P F es l H=some r->bB (af aa w) hW ah s ρ H r (λv s'=>∀b,v=.bool b->Q b s') E->
  (∀v H₁,r=(.ok v,H₁)->∃b,v=.bool b)->wpAny (model aa w) A (allTrue .And fs env) Q E s:=by
 intro zz;induction zz with
 |nil=>
  intro _ _ _ _ _ _ _ _ _ _ _ _ _ _ he _ _;exact absurd he nn
 |cons e b0 ih=>
  intro hs fs A ah env l s ρ H r Q E hc N he hq hb;cases b0 with
  |nil=>
   refine l8 hc λf z1 c1=>?_;subst z1;refine wpAny_allTrue_And_cons (wpAny_mono ((hs e (.head _)).2 f A ah env l s ρ H r Q E c1 N he hq hb) (λb aS h=>?_) λ_ _ x=>x);cases b
   ·exact h
   ·exact wpAny_allTrue_And_nil h
  |cons e2 es=>
   refine gZ hc λf fs z1 c1 Ec=>?_;subst z1;refine bB.og (Q':=λb aS=>if b then wpAny (model aa w) A (allTrue .And fs env) Q E aS else Q false aS) he N hq (λv H₁ f1=>oh (H₁:=H₁) f1) (by
    intro b H₁ f1 aq ay t₁ aN bL aM
    cases b
    ·exact bH.gY (Q:=λv s'=>∀b,v=.bool b->Q b s') (aM.of f1) aN.st (x:=.bool false) rfl _ rfl
    ·exact ih (λe he=>hs e (.tail _ he)) fs A ah env l _ aq H₁ r Q E Ec aN f1 aM hb) λbX e1 o1 b1=>?_
   exact wpAny_allTrue_And_cons ((hs e (.head _)).2 f A ah env l s ρ H bX _ E c1 N e1 o1 b1)
theorem SE:∀(es:List aZ),(∀e,e∈es->(aG (af aa w) hW gt P F n) e∧(cv (af aa w) hW gt P F n) e)->∀(fs:List Expr) (A:Around) (ah:List Env) (env:Env) (l:Loc) (s:Shared) (ρ:Nat->Addr) (H:AH) (r:Except Nat ae×AH) (Q:Bool->Shared->Prop) (E:Value->Shared->Prop),
  cb gt env.scope es fs=true->ja (af aa w) hW A ah n env l ρ H s.heap->evalOr P F es l H=some r->bB (af aa w) hW ah s ρ H r (λv s'=>∀b,v=.bool b->Q b s') E->
  (∀v H₁,r=(.ok v,H₁)->∃b,v=.bool b)->wpAny (model aa w) A (allTrue .Or fs env) Q E s:=by
 intro zz;induction zz with
 |nil=>
  intro _ _ _ _ _ _ _ _ _ _ _ _ _ _ he _ _;exact absurd he nn
 |cons e b0 ih=>
  intro hs fs A ah env l s ρ H r Q E hc N he hq hb;cases b0 with
  |nil=>
   refine l8 hc λf z1 c1=>?_;subst z1;refine wpAny_allTrue_Or_cons (wpAny_mono ((hs e (.head _)).2 f A ah env l s ρ H r Q E c1 N he hq hb) (λb aS h=>?_) λ_ _ x=>x);cases b
   ·exact wpAny_allTrue_Or_nil h
   ·exact h
  |cons e2 es=>
   refine gZ hc λf fs z1 c1 Ec=>?_;subst z1;refine bB.og (Q':=λb aS=>if b then Q true aS else wpAny (model aa w) A (allTrue .Or fs env) Q E aS) he N hq (λv H₁ f1=>oh (H₁:=H₁) f1) (by
    intro b H₁ f1 aq ay t₁ aN bL aM
    cases b
    ·exact ih (λe he=>hs e (.tail _ he)) fs A ah env l _ aq H₁ r Q E Ec aN f1 aM hb
    ·exact bH.gY (Q:=λv s'=>∀b,v=.bool b->Q b s') (aM.of f1) aN.st (x:=.bool true) rfl _ rfl) λbX e1 o1 b1=>?_
   exact wpAny_allTrue_Or_cons ((hs e (.head _)).2 f A ah env l s ρ H bX _ E c1 N e1 o1 b1)
theorem oj{C:Prop}{sc:Scope}{o:BoolOp}{es:List aZ}{e':Expr}(hc:(Bz e' λo' fs _=>o'==o&&cb gt sc es fs)=true)(k_:∀fs,∀pos,e'=.BoolOp o fs pos->cb gt sc es fs=true->C):C:=by
 refine LK hc λo' fs pos e1 h=>?_;exact k_ fs pos (by rw[e1,eq_of_beq (az h).1]) ((az h).2)
theorem snd_and{es:List aZ}(hs:∀e,e∈es->(aG (af aa w) hW gt P F n) e∧(cv (af aa w) hW gt P F n) e):(aG (af aa w) hW gt P F n) (.and es)∧(cv (af aa w) hW gt P F n) (.and es):=by
 constructor
 ·intro e' A ah env l s ρ H r Q E hc N he hq
  refine oj (o:=.And) hc λfs pos z1 c1=>?_;subst z1;exact O4 es hs fs pos A ah env l s ρ H r Q E c1 N he hq
 ·intro e' A ah env l s ρ H r Q E hc N he hq hb
  refine oj (o:=.And) hc λfs pos z1 c1=>?_;subst z1;exact wpAny_isTrue_BoolOp (O5 es hs fs A ah env l s ρ H r Q E c1 N he hq hb)
theorem LY{es:List aZ}(hs:∀e,e∈es->(aG (af aa w) hW gt P F n) e∧(cv (af aa w) hW gt P F n) e):(aG (af aa w) hW gt P F n) (.or es)∧(cv (af aa w) hW gt P F n) (.or es):=by
 constructor
 ·intro e' A ah env l s ρ H r Q E hc N he hq
  refine oj (o:=.Or) hc λfs pos z1 c1=>?_;subst z1;exact SD es hs fs pos A ah env l s ρ H r Q E c1 N he hq
 ·intro e' A ah env l s ρ H r Q E hc N he hq hb
  refine oj (o:=.Or) hc λfs pos z1 c1=>?_;subst z1;exact wpAny_isTrue_BoolOp (SE es hs fs A ah env l s ρ H r Q E c1 N he hq hb)
theorem om{slice:Expr}{o i:Value}(h:wpAny (model aa w) A (getItem o i) Q E s):wpAny (model aa w) A (subscripted slice false o i) Q E s:=by
 have k1:wpAny (model aa w) A (operate [i,o] (getItem o i)) Q E s:=wpAny_operating h;have k2:wpAny (model aa w) A (operate [o,i] (getItem o i)) Q E s:=wpAny_operating h;cases slice with
 |Slice a b c p=>cases c with
  |none=>exact k1
  |some _=>exact k2
 |_=>exact k2
theorem et{value slice:Expr}{o i:Value}{T id:String}(hT:s.TypeIs o T)(hl:typeLookup (.type T) "__getitem__" = pure (some (.builtin id)))(h:wpAny (model aa w) A (getItem o i) Q E s):
  wpAny (model aa w) A (subscriptTail value slice o i) Q E s:=by
 unfold subscriptTail;refine wpAny_bind ?_;rw[getitemInPython_of_ne hT.not_modules];refine wpAny_bind (wpAny_specialOf hT hl ?_);have fin:wpAny (model aa w) A (subscripted slice false o i) (λr mB=>wpAny (model aa w) A (letTemporaryGo value o r >>= λ_=>pure r) Q E mB) E s:=
  om (wpAny_mono h (λr mB dG=>wpAny_bind (wpAny_letTemporaryGo (wpAny_pure dG))) λ_ _ x=>x)
 first
  |exact wpAny_pure (wpAny_bind fin)
  |exact wpAny_bind (wpAny_pure (wpAny_bind fin))
  |exact wpAny_bind fin
theorem Heap.TupAt.isTup{h:Heap}{a:Addr}{ws:List Value}(t:h.TupAt a ws):IsTup h a ws.toArray:=by
 refine cn t ?_;clear t;intro o n g c d;exact⟨o,g,c,n,d⟩
theorem EN{k:Int}{n:Nat}(h0:0<=k)(hn:k.toNat<n):seqIndex? k n=some k.toNat:=by
 unfold seqIndex?;rw[if_neg (Int.not_lt.mpr h0),if_pos (by simp only[Bool.and_eq_true,decide_eq_true_eq];omega)]
theorem BW{α:Type}{l:List α}{n:Nat}{x:α}(h:l[n]? = some x):n<l.length:=(List.getElem?_eq_some_iff.mp h).1
theorem toNat_small{k:Int}(h:k<1000):k.toNat<1000:=by omega
theorem CU{k:Int}{n:Nat}(h:0<=k∧k<1000∧k<(n:Int)):k.toNat<n∧(decide (k < -9223372036854775808) || decide (9223372036854775807<k))=false:=by
 refine⟨by omega,?_⟩;simp only[Bool.or_eq_false_iff,decide_eq_false_iff_not];omega
theorem xu{value slice:Expr}{p:Addr}{ws:List Value}{vs:List ae}{k:Int}{t:Nat}{r:ae}(hL:s.heap.IsList p ws.toArray)(vp:aP (af aa w) hW s.heap ρ H.next vs ws)(st:St (af aa w) hW ah ρ H s.heap)(h0:0<=k)(hk:k<100000)(he:vs[k.toNat]? = some r)
  (hq:bH (af aa w) hW ah s ρ H r H Q):wpAny (model aa w) A (subscriptTail value slice (.ref p) (.int k t)) Q E s:=by
 refine aI (vp.get he) λu hu vr=>?_;exact et hL.typeIs PySem.F.slot_list_getitem.lookup (wpAny_getItem_list hL h0 (by omega) (by simpa using hu) (bH.gY hq st vr))
theorem CV{value slice:Expr}{a i r:ae}{x y:Value}(st:St (af aa w) hW ah ρ H s.heap)(ra:bf (af aa w) hW s.heap ρ H.next a x)(ri:bf (af aa w) hW s.heap ρ H.next i y)
  (he:subAt a i H=some r) (hq:bH (af aa w) hW ah s ρ H r H Q):wpAny (model aa w) A (subscriptTail value slice x y) Q E s:=by
 cases a with
 |tup vs=>
  refine jq he λk z1 h1=>?_;clear he;subst z1;refine fX h1 λhk h2=>?_;refine ra.E λp ws z1 tp vp=>?_;clear ra;subst z1;refine ri.E λt z1=>?_;clear ri;subst z1;refine aI (vp.get h2) λu hu vr=>?_;have zO:=BW hu;have hl:=toNat_small hk.2;exact et (Heap.TupAt.isTup tp).typeIs PySem.F.slot_tuple_getitem.lookup (PyProof.Rows.getItem_tuple (Heap.TupAt.isTup tp) (by omega) (by omega) (j:=k.toNat) (EN hk.1 (by rw[List.size_toArray];exact zO)) (by simpa using hu) (bH.gY hq st vr))
 |str x=>
  refine jq he λk z1 h1=>?_;clear he;subst z1;refine fX h1 λhk h2=>?_;refine ra.E λt z1=>?_;clear ra;subst z1;refine ri.E λu z1=>?_;clear ri;subst z1;refine aI (Option.map_eq_some_iff.mp h2) λc hc O6=>?_;subst O6;refine et (typeIs_str s _ t) PySem.F.slot_str_getitem.lookup (PySem.P.getItem_str (c:=c.toNat) ?_ ?_ ?_)
  ·simp only[Bool.or_eq_false_iff,decide_eq_false_iff_not]
   omega
  ·rw[EN hk.1 (by rw[jN];exact(CU hk).1),Option.bind_some,jL]
   simp[hc]
  ·have e:(⟨#[c.toNat]⟩:Str)=aK (String.ofList [c]):=by rw[jL];simp
   rw[e];exact bH.now hq st ⟨_,rfl⟩
 |cp ks vs=>
  refine rK he λk z1 h1=>?_;clear he;subst z1;refine ra.E λp z1 hs kvs hD hk vp=>?_;clear ra;subst z1;refine ri.E λt z1=>?_;clear ri;subst z1;have hM:s.heap.MapOf (af aa w) p (valueAt kvs):=iK hD.mapOf st.stays;refine(kY (k:=k) hk vp).xn h1 λu e vr=>?_;exact et hM.typeIs PySem.F.slot_dict_getitem.lookup (wpAny_getItem_of (dR k t) hM e (bH.now hq st vr))
 |kL vs=>
  refine jq he λk z1 h1=>?_;clear he;subst z1;refine fX h1 λhk h2=>?_;refine ra.E λp ws z1 SG vp=>?_;clear ra;subst z1;refine ri.E λt z1=>?_;clear ri;subst z1;exact xu (SG.elim λo z=>⟨o,st.stays _ _ z.1,z.2⟩) vp st hk.1 (Int.lt_trans hk.2 (by decide)) h2 hq
 |ref m=>
  refine ra.E λhm z1=>?_;clear ra;subst z1;refine zC he (λvs e1 h1=>?_) λks vs e1 h1=>?_
  ·refine jq h1 λk z1 h2=>?_
   clear h1;subst z1;refine ri.E λt z1=>?_;clear ri;subst z1;refine aO (st.toCells.get hm e1) λws j ho vp=>?_;have hL:s.heap.IsList (ρ m) ws.toArray:=⟨listOf ws.toArray j,ho,rfl,j,rfl⟩
   refine nS h2 (λhk h3=>?_) λh3=>?_
   ·exact xu hL vp st hk.1 hk.2 h3 hq
   ·clear h2
    refine fX h3 λz1 h4=>?_;clear h3;subst z1;rw[List.getLast?_eq_getElem?]at h4;have hlen:=vp.length;have LZ:=BW h4;refine aI (vp.get h4) λu hu vr=>?_;have hz:ws.toArray.size=vs.length:=by rw[List.size_toArray,hlen]
    refine et hL.typeIs PySem.F.slot_list_getitem.lookup (wpAny_getItem_list_neg hL (by omega) (by omega) (by omega) ?_ (bH.gY hq st vr));rw[show((-1:Int)+(ws.toArray.size:Nat)).toNat=vs.length-1 by omega];simpa using hu
  ·clear he
   refine rK h1 λk z1 h2=>?_;clear h1;subst z1;refine ri.E λt z1=>?_;clear ri;subst z1;refine fq (st.toCells.get hm e1) λkvs hD hk BP vp=>?_;refine(jP (k:=.str k) rfl hk BP vp).xn h2 λu e vr=>?_;exact et hD.mapOf.typeIs PySem.F.slot_dict_getitem.lookup (wpAny_getItem_of (dR k t) hD.mapOf e (bH.now hq st vr))
 |_=>exact absurd he nn
theorem Ip{a i:aZ}(h1:(aG (af aa w) hW gt P F n) a)(h2:(aG (af aa w) hW gt P F n) i):(aG (af aa w) hW gt P F n) (.sub a i):=by
 intro e' A ah env l s ρ H r Q E hc N he hq;refine xd hc λf j pos z1 k1=>?_;clear hc;subst z1;have c3:=(az k1).2;have c2:=(az (az k1).1).2;refine bB.dn (Q':=λx aS=>wpAny (model aa w) A (eval j env) (λy cz=>wpAny (model aa w) A (subscriptTail f j x y) Q E cz) E aS) he N hq (by
  intro v H₁ _ f1 x aq ay t₁ aN bL br aM
  refine bB.dn (Q':=λy cz=>wpAny (model aa w) A (subscriptTail f j x y) Q E cz) f1 aN aM (by
   intro u bU _ f2 y b9 bV jK eh bh cf gv
   refine ed f2 λv' e3 f3=>?_
   exact CV eh.st (bh.i0 br) cf e3 (gv.of f3)) λvH e2 o2=>?_
  exact h2 j A ah env l _ aq H₁ vH _ E c3 aN e2 o2) λbX e1 o1=>?_
 exact Subscript_ (h1 f A ah env l s ρ H bX _ E c2 N e1 o1)
theorem pC{C:Prop}{k:Expr}{n:Nat}(h:vD k n=true)(k_:∀a,∀b,k=.Constant (.int n) a b->C):C:=by
 refine BA h λc a b e h=>?_;exact k_ a b (by rw[e,eq_of_beq h])
theorem uC{P:String->String->Prop}{x y:String}(h:Oq x=some y)(h1:P "i8" "8")(h2:P "u8" "8")(h3:P "i32" "32")(h4:P "i64" "64"):P x y:=by
 refine nS h (λz1 h=>?_) λh=>?_
 ·subst z1
  cases h;exact h1
 refine nS h (λz1 h=>?_) λh=>?_
 ·subst z1
  cases h;exact h2
 refine nS h (λz1 h=>?_) λh=>?_
 ·subst z1
  cases h;exact h3
 refine fX h λz1 h=>?_;subst z1;cases h;exact h4
theorem EO{x y:String}(h:Oq x=some y)(t u:Tok):sliceMade (aK x) t (some (1,u)) none none=.str (aK y):=by
 have d:∀a b:String,((aK a).length==(slicePicked (aK a) (some (1,0)) none none).length)=false->(⟨((slicePicked (aK a) (some (1,0)) none none).filterMap ((aK a).cps[·]?)).toArray⟩:Str)=aK b->
   sliceMade (aK a) t (some (1,u)) none none=.str (aK b):=by
  intro a b h1 h2;have e:slicePicked (aK a) (some (1,u)) none none=slicePicked (aK a) (some (1,0)) none none:=rfl;unfold sliceMade;rw[e,if_neg,h2];intro q;have q:=(az q).2;rw[beq_eq_false_iff_ne.mpr λz=>absurd h1 (by rw[z,beq_self_eq_true];exact λh=>by cases h)]at q;exact absurd q ff
 exact uC (P:=λx y=>sliceMade (aK x) t (some (1,u)) none none=.str (aK y)) h (d _ _ (by decide +kernel) (by decide +kernel)) (d _ _ (by decide +kernel) (by decide +kernel)) (d _ _ (by decide +kernel) (by decide +kernel)) (d _ _ (by decide +kernel) (by decide +kernel))
theorem zP{C:Prop}{sc:Scope}{a:aZ}{k:Nat}{e':Expr}(hc:bt gt sc (.iZ a k) e'=true)(k_:∀f,∀x,∀y,∀sp,∀pos,e'=.Subscript f (.Slice (some (.Constant (.int k) x y)) none none sp) pos->bt gt sc a f=true->C):C:=by
 refine xd hc λf j pos e1 h1=>?_;refine vB h1 λlo hi VA sp e2 h2=>?_;refine bQ (aR (aL h2)) λc e3 h5=>?_;refine pC h5 λx y e4=>?_;exact k_ f x y sp pos (by rw[e1,e2,e3,e4,mG (az (aL (aL h2))).1,mG (az (aL (aL h2))).2]) (aR h2)
theorem ER{C:Prop}{sc:Scope}{a:aZ}{k:Nat}{e':Expr}(hc:bt gt sc (.wU a k) e'=true)(k_:∀f,∀x,∀y,∀sp,∀pos,e'=.Subscript f (.Slice none (some (.Constant (.int k) x y)) none sp) pos->bt gt sc a f=true->C):C:=by
 refine xd hc λf j pos e1 h1=>?_;refine vB h1 λlo hi VA sp e2 h2=>?_;refine bQ (aR (aL h2)) λc e3 h5=>?_;refine pC h5 λx y e4=>?_;exact k_ f x y sp pos (by rw[e1,e2,e3,e4,mG (az (aL (aL h2))).1,mG (az (aL (aL h2))).2]) (aR h2)
theorem CW{C:Prop}{sc:Scope}{a:aZ}{e':Expr}(hc:bt gt sc (.p0 a) e'=true)(k_:∀f,∀x,∀y,∀up,∀sp,∀pos,e'=.Subscript f (.Slice none none (some (.UnaryOp .USub (.Constant (.int 1) x y) up)) sp) pos->bt gt sc a f=true->C):C:=by
 refine xd hc λf j pos e1 h1=>?_;refine vB h1 λlo hi VA sp e2 h2=>?_;refine bQ (aR (aL h2)) λc e3 h5=>?_;refine LL h5 λo k up e5 h6=>?_;refine pC (az h6).2 λx y e4=>?_;exact k_ f x y up sp pos (by rw[e1,e2,e3,e5,e4,eq_of_beq (az h6).1,mG (az (aL (aL h2))).1,mG (az (aL (aL h2))).2];rfl) (aR h2)
theorem qP{i:Int}{x:Nat}{y sp:Pos}(h:Q (.ref s.heap.objs.size) { s with heap:=s.heap.push { cls:=.type "slice",data:=.fields #[.int i s.toks,.none,.none] },toks:=s.toks+1 }):
  wpAny (model aa w) A (eval (.Slice (some (.Constant (.int i) x y)) none none sp) env) Q E s:=
 wpAny_Slice (wpAny_Constant_int (k:=x) (pos:=y) (wpAny_pure (wpAny_pure h)))
theorem tE{i:Int}{x:Nat}{y sp:Pos}(h:Q (.ref s.heap.objs.size) { s with heap:=s.heap.push { cls:=.type "slice",data:=.fields #[.none,.int i s.toks,.none] },toks:=s.toks+1 }):
  wpAny (model aa w) A (eval (.Slice none (some (.Constant (.int i) x y)) none sp) env) Q E s:=
 wpAny_Slice (wpAny_pure (wpAny_Constant_int (k:=x) (pos:=y) (wpAny_pure h)))
theorem r3{x:Nat}{y up sp:Pos}(h:Q (.ref s.heap.objs.size) { s with heap:=s.heap.push { cls:=.type "slice",data:=.fields #[.none,.none,.int (-1) (s.toks+1)] },toks:=s.toks+1+1 }):
  wpAny (model aa w) A (eval (.Slice none none (some (.UnaryOp .USub (.Constant (.int 1) x y) up)) sp) env) Q E s:=
 wpAny_Slice (wpAny_pure (wpAny_pure (wpAny_UnaryOp (pos:=up) (wpAny_Constant_int (k:=x) (pos:=y) (PySem.P.neg_int h)))))
theorem zQ{a:aZ}{k:Nat}(h1:(aG (af aa w) hW gt P F n) a):(aG (af aa w) hW gt P F n) (.iZ a k):=by
 intro e' A ah env l s ρ H r Q E hc N he hq;refine zP hc λf x y sp pos z1 c1=>?_;subst z1;refine bB.dn (Q':=λo aS=>wpAny (model aa w) A (eval (.Slice (some (.Constant (.int k) x y)) none none sp) env) (λi cz=>wpAny (model aa w) A (subscriptTail f (.Slice (some (.Constant (.int k) x y)) none none sp) o i) Q E cz) E aS) he N hq (by
  intro v H₁ _ f1 o aq ay t₁ aN bL br aM
  refine qP ?_
  dsimp only
  have bO:=aN.st.push { cls:=.type "slice",data:=.fields #[.int k t₁,.none,.none] }
  have bh:Step eQ (bl ah) aq H₁.next ay aq H₁.next (ay.push { cls:=.type "slice",data:=.fields #[.int k t₁,.none,.none] }):=.push _
  have cf:=bh.i0 br
  have hs:(ay.push { cls:=.type "slice",data:=.fields #[.int k t₁,.none,.none] }).IsSliceOf ay.objs.size (.int k t₁) .none .none:=Heap.IsSliceOf.new ay _ _ _
  cases v with
  |tup vs=>
    refine fX f1 λhk f2=>?_
    have aM:=aM.of f2
    refine cf.E λp ws z1 tp vp=>?_
    clear cf
    subst z1
    have hl:=vp.length
    refine et (Heap.TupAt.isTup tp).typeIs PySem.F.slot_tuple_getitem.lookup (getItem_tuple_from (Heap.TupAt.isTup tp) hs hk.2.1 (by simpa[hl]using hk.2.2) ?_ (by simp only[List.size_toArray];exact Nat.le_trans (by omega:_<=1000) (by decide)))
    have dC:Step eQ (bl ah) aq H₁.next ay aq H₁.next ((ay.push { cls:=.type "slice",data:=.fields #[.int k t₁,.none,.none] }).push { cls:=.type "tuple",data:=.seq (ws.drop k).toArray }):=bh.trans (.push _)
    exact aM _ aq _ _ (bO.push _) dC ⟨_,ws.drop k,rfl,⟨_,0,Heap.get?_push_size _ rfl,rfl,rfl⟩,(Step.push _:Step eQ (bl ah) aq H₁.next _ aq H₁.next _).gr (vp.drop k)⟩
  |str x=>
     refine fX f1 λz1 f2=>?_
     clear f1
     subst z1
     refine ed f2 λz hz f3=>?_
     have aM:=aM.of f3
     clear f2
     refine cf.E λt z1=>?_
     clear cf
     subst z1
     refine et (typeIs_str _ _ t) PySem.F.slot_str_getitem.lookup (wpAny_getItem_str_slice (l:=some (1,t₁)) (u:=none) (st:=none) hs rfl ?_)
     rw[EO hz]
     refine⟨?_,aM _ aq _ _ bO bh ⟨_,rfl⟩⟩
     rw[jN]
     exact Nat.le_trans (uC (P:=λ_ z=>z.toList.length<=2) hz (by decide) (by decide) (by decide) (by decide)) (by decide)
  |_=>exact absurd f1 nn) λbX e1 o1=>?_
 exact Subscript_ (h1 f A ah env l s ρ H bX _ E c1 N e1 o1)
theorem ES{a:aZ}{k:Nat}(h1:(aG (af aa w) hW gt P F n) a):(aG (af aa w) hW gt P F n) (.wU a k):=by
 intro e' A ah env l s ρ H r Q E hc N he hq;refine ER hc λf x y sp pos z1 c1=>?_;subst z1;refine bB.dn (Q':=λo aS=>wpAny (model aa w) A (eval (.Slice none (some (.Constant (.int k) x y)) none sp) env) (λi cz=>wpAny (model aa w) A (subscriptTail f (.Slice none (some (.Constant (.int k) x y)) none sp) o i) Q E cz) E aS) he N hq (by
  intro v H₁ _ f1 o aq ay t₁ aN bL br aM
  refine tE ?_
  dsimp only
  have bO:=aN.st.push { cls:=.type "slice",data:=.fields #[.none,.int k t₁,.none] }
  have bh:Step eQ (bl ah) aq H₁.next ay aq H₁.next (ay.push { cls:=.type "slice",data:=.fields #[.none,.int k t₁,.none] }):=.push _
  have cf:=bh.i0 br
  have hs:(ay.push { cls:=.type "slice",data:=.fields #[.none,.int k t₁,.none] }).IsSliceOf ay.objs.size .none (.int k t₁) .none:=Heap.IsSliceOf.new ay _ _ _
  ·refine rM f1 λm z1 f2=>?_
   clear f1
   subst z1
   refine cf.E λhm z1=>?_
   clear cf
   subst z1
   ·refine jG f2 λvs e1 f3=>?_
    ·refine fX f3 λhk f4=>?_
     have aM:=aM.of f4
     refine aO (bO.toCells.get hm e1) λws j ho vp=>?_
     have hl:=vp.length
     have hL:Heap.IsList _ (aq _) ws.toArray:=⟨listOf ws.toArray j,ho,rfl,j,rfl⟩
     refine et hL.typeIs PySem.F.slot_list_getitem.lookup (wpAny_getItem_list_slice hL hs .none (.int _ _) .none (by simp) ?_ (by simp only[List.size_toArray];exact Nat.le_trans (by omega:_<=1000) (by decide)))
     rw[slicePick_upto _ _ (by simp only[List.size_toArray];omega)]
     dsimp only
     have dC:Step eQ (bl ah) aq H₁.next (ay.push { cls:=.type "slice",data:=.fields #[.none,.int k t₁,.none] }) _ _ _:=.bR (listOf (ws.take k).toArray 0)
     exact aM _ _ _ _ (bO.bR (listOf (ws.take k).toArray 0) (.list (vs.take k)) ⟨ws.take k,0,Heap.get?_push_size _ rfl,dC.gr (vp.take k)⟩) (bh.trans dC) ⟨Nat.lt_succ_self _,by rw[dB]⟩) λbX e1 o1=>?_
 exact Subscript_ (h1 f A ah env l s ρ H bX _ E c1 N e1 o1)
theorem CX{a:aZ}(h1:(aG (af aa w) hW gt P F n) a):(aG (af aa w) hW gt P F n) (.p0 a):=by
 intro e' A ah env l s ρ H r Q E hc N he hq;refine CW hc λf x y up sp pos z1 c1=>?_;subst z1;refine bB.dn (Q':=λo aS=>wpAny (model aa w) A (eval (.Slice none none (some (.UnaryOp .USub (.Constant (.int 1) x y) up)) sp) env) (λi cz=>wpAny (model aa w) A (subscriptTail f (.Slice none none (some (.UnaryOp .USub (.Constant (.int 1) x y) up)) sp) o i) Q E cz) E aS) he N hq (by
  intro v H₁ _ f1 o aq ay t₁ aN bL br aM
  refine r3 ?_
  dsimp only
  have bO:=aN.st.push { cls:=.type "slice",data:=.fields #[.none,.none,.int (-1) (t₁+1)] }
  have bh:Step eQ (bl ah) aq H₁.next ay aq H₁.next (ay.push { cls:=.type "slice",data:=.fields #[.none,.none,.int (-1) (t₁+1)] }):=.push _
  have cf:=bh.i0 br
  have hs:(ay.push { cls:=.type "slice",data:=.fields #[.none,.none,.int (-1) (t₁+1)] }).IsSliceOf ay.objs.size .none .none (.int (-1) (t₁+1)):=Heap.IsSliceOf.new ay _ _ _
  ·refine rM f1 λm z1 f2=>?_
   clear f1
   subst z1
   refine cf.E λhm z1=>?_
   clear cf
   subst z1
   ·refine jG f2 λvs e1 f3=>?_
    ·refine fX f3 λhk f4=>?_
     have aM:=aM.of f4
     refine aO (bO.toCells.get hm e1) λws j ho vp=>?_
     have hl:=vp.length
     have hL:Heap.IsList _ (aq _) ws.toArray:=⟨listOf ws.toArray j,ho,rfl,j,rfl⟩
     refine et hL.typeIs PySem.F.slot_list_getitem.lookup (wpAny_getItem_list_slice hL hs .none .none (.int _ _) (by simp) ?_ (by simp only[List.size_toArray];exact Nat.le_trans (by omega:_<=1000) (by decide)))
     rw[krv_pick]
     dsimp only
     have dC:Step eQ (bl ah) aq H₁.next (ay.push { cls:=.type "slice",data:=.fields #[.none,.none,.int (-1) (t₁+1)] }) _ _ _:=.bR (listOf ws.reverse.toArray 0)
     exact aM _ _ _ _ (bO.bR (listOf ws.reverse.toArray 0) (.list vs.reverse) ⟨ws.reverse,0,Heap.get?_push_size _ rfl,dC.gr vp.reverse⟩) (bh.trans dC) ⟨Nat.lt_succ_self _,by rw[dB]⟩) λbX e1 o1=>?_
 exact Subscript_ (h1 f A ah env l s ρ H bX _ E c1 N e1 o1)
end
section
variable{aa:Program}{w:World}{knd:KeyKind aa w (Option Str)}{hW h h':Heap}{ρ bq:Nat->Addr}{N N':Nat}{ah:List Env}{H:AH}{X:Addr->Prop}{fr:List Addr}
theorem Step.Kd(x:Step X fr ρ N h bq N' h')(hX:∀b,X b->h.get? b=none):Step eQ fr ρ N h bq N' h':=
 { x with
  keep:=λb o e hn _ hf=>x.keep b o e hn (λq=>by rw[hX b q]at e;cases e) hf
  frame:=λb o e hf _=>x.frame b o e hf λq=>by rw[hX b q]at e;cases e }
theorem St.adopt(x:St knd hW ah ρ H h){d:Addr}(ha:∀n,n<H.next->ρ n≠d)(hb:hW.get? d=none)(rQ:d∉bl ah)(hs:Heap.SameBut d h h'){ob:Obj}(g:h.get? d=some ob)(nf:¬bA ob){ao:cT}
  (rel:cg knd hW h' (ext ρ H.next d) (H.next+1) ao d):St knd hW ah (ext ρ H.next d) (H.new ao) h':=by
 refine rel.there λxa g' Vo d'=>?_;have st:=bP hs g nf;exact{
  at_:=λn hn=>by
   change n<H.next+1 at hn
   by_cases q:n=H.next
   ·subst q;exact⟨ao,if_pos rfl,by rw[dB];exact rel⟩
   ·have NX:n<H.next:=by omega
    refine x.wK n NX λo e r=>?_
    refine⟨o,(if_neg q).trans e,?_⟩
    rw[fE NX]
    exact r.mono st (Nat.le_succ _) (λ_ z=>fE z) (hs.2 _ (ha n NX))
  inj:=λn m hn hm e=>by
   change n<H.next+1 at hn
   change m<H.next+1 at hm
   unfold ext at e
   split at e<;>split at e
   ·omega
   ·exact absurd e.symm (ha m (by omega))
   ·exact absurd e (ha n (by omega))
   ·exact x.inj n m (by omega) (by omega) e
  out:=λn hn=>by
   change n<H.next+1 at hn
   unfold ext
   split
   ·exact hb
   ·exact x.out n (by omega)
  stays:=λb o e=>(hs.2 b λq=>by rw[q,hb]at e;cases e).trans (x.stays b o e)
  bW:=FunFrames.nU (λb o e f=>by
   by_cases q:b=d
   ·subst q;exact⟨xa,g',d'⟩
   ·exact⟨o,(hs.2 b q).trans e,f⟩) x.bW
  qM:=λn hn=>by
   change n<H.next+1 at hn
   unfold ext
   split
   ·exact rQ
   ·exact x.qM n (by omega) }
theorem Step.adopt{d:Addr}(hs:Heap.SameBut d h h'){ob xa:Obj}(g:h.get? d=some ob)(nf:¬bA ob)(g':h'.get? d=some xa)(h₀:Heap)(hd:h₀.get? d=none)(x:Step eQ fr bq N' h₀ ρ N h):
  Step eQ fr bq N' h₀ (ext ρ N d) (N+1) h' where
 le:=Nat.le_succ_of_le x.le
 old n hn:=(fE (Nat.lt_of_lt_of_le hn x.le)).trans (x.old n hn)
 new n a b:=by
  unfold ext;split
  ·exact hd
  ·exact x.new n a (by omega)
 keep b o e hn hX hf:=(hs.2 b λq=>by rw[q,hd]at e;cases e).trans (x.keep b o e hn hX hf)
 frame b o e hf hX:=by
  refine aV (x.frame b o e hf hX) λsl z=>?_;exact⟨sl,(hs.2 b λq=>by rw[q,hd]at e;cases e).trans z⟩
 live b e:=x.live b (pw hs g' b e)
 eg:=x.eg.trans (bP hs g nf)
end
section
variable{aa:Program}{w:World}{hW:Heap}{gt:List (String×ae)}{P:cW}{F:dQ}{n:Nat}{mg mb:Str->Option Value}
 {A:Around}{ah:List Env}{env:Env}{l:Loc}{s:Shared}{ρ:Nat->Addr}{H:AH}{Q E:Value->Shared->Prop}
noncomputable def L4(pos:Pos)(env:Env):List (Option Expr)->List Expr->List (Sem Value×Sem Value)
 |some k::ks,f::fs=>(eval k env,do let x <-eval f env;standAt pos;pure x)::L4 pos env ks fs
 |_,_=>[]
theorem gD{k:ae}{ks:List ae}{ls:List (Option Expr)}(h:iI (k::ks) ls=true):∃c a b r,ls=some (.Constant c a b)::r∧iI ks r=true∧((k=.none∧c=.none)∨∃x,k=.str x∧c=.str (aK x)):=by
 cases ls with
 |nil=>exact absurd h ff
 |cons l r=>
  refine bQ (az h).1 λe e1 h1=>?_;refine BA h1 λc a b e2 h2=>?_;refine⟨c,a,b,r,by rw[e1,e2],(az h).2,?_⟩;cases k with
  |none=>exact .inl ⟨rfl,eq_of_beq h2⟩
  |str x=>exact .inr ⟨x,rfl,eq_of_beq h2⟩
  |_=>exact absurd h2 ff
theorem CY{pos:Pos}{env:Env}:∀{ks:List ae}{ls:List (Option Expr)}{fs:List Expr},iI ks ls=true->
  (evalEachOpt ls env).zip ((evalEach fs env).map λv=>do let x <-v;standAt pos;pure x)=(L4 pos env ls fs).map λp=>(some p.1,p.2):=by
 intro zz;induction zz with
 |nil=>
  intro ls fs h;rw[bF (l:=ls) h];rfl
 |cons k ks ih=>
  intro ls fs h;refine vm (gD h) λc a b r O7 h2 _=>?_;subst O7;cases fs with
  |nil=>rfl
  |cons f fs=>exact congrArg ((some (eval (.Constant c a b) env),do let x <-eval f env;standAt pos;pure x)::·) (ih (fs:=fs) h2)
noncomputable def O8(hW:Heap)(ah:List Env)(s:Shared)(ρ:Nat->Addr)(H:AH)(ks vs:List ae)(H₁:AH)(Q:List (Value×Value)->Shared->Prop):Prop:=
 ∀xs kvs bq h' t,St (af aa w) hW ah bq H₁ h'->Step eQ (bl ah) ρ H.next s.heap bq H₁.next h'->Carries (af aa w) xs kvs->kvs.map (·.1)=ks.map keyOf->aP (af aa w) hW h' bq H₁.next vs (kvs.map (·.2))->Q xs { s with heap:=h',toks:=t }
noncomputable def SH(hW:Heap)(ah:List Env)(s:Shared)(ρ:Nat->Addr)(H:AH)(ks:List ae)(r:Except Nat (List ae)×AH)(Q:List (Value×Value)->Shared->Prop)(E:Value->Shared->Prop):Prop:=match r with
 |(.ok vs,H₁)=>O8 (aa:=aa) (w:=w) hW ah s ρ H ks vs H₁ Q
 |(.error c,H₁)=>Exc (af aa w) hW ah s ρ H c H₁ E
theorem qi:∀{es:List aZ} (hs:∀e,e∈es->(aG (af aa w) hW gt P F n) e) (ks:List ae) (ls:List (Option Expr)) (fs:List Expr) (pos:Pos) (A:Around) (ah:List Env) (env:Env) (l:Loc) (s:Shared) (ρ:Nat->Addr) (H:AH) (r:Except Nat (List ae)×AH)
  (Q:List (Value×Value)->Shared->Prop) (E:Value->Shared->Prop),iI ks ls=true->cb gt env.scope es fs=true->ks.length=es.length->ja (af aa w) hW A ah n env l ρ H s.heap->cA P F es l H=some r->
  SH (aa:=aa) (w:=w) hW ah s ρ H ks r Q E->wpAny (model aa w) A (evalPairs (L4 pos env ls fs)) Q E s:=by
 intro zz;induction zz with
 |nil=>
  intro hs b0 ls fs pos A ah env l s ρ H r Q E hk hc hl N he hq;cases b0 with
  |nil=>
   replace hk:=bF (l:=ls) hk;subst hk;cases(show ok [] H=some r from he);exact evalPairs_nil (hq [] [] ρ s.heap s.toks N.st .refl trivial rfl trivial)
  |cons k ks=>
   cases hl
 |cons e es ih=>
  intro hs kT ls fs pos A ah env l s ρ H r Q E hk hc hl N he hq;cases kT with
  |nil=>
   cases hl
  |cons k ks=>
   refine vm (gD hk) λc a b ls O9 Ke WW=>?_;subst O9;refine gZ hc λf fs z1 c1 c2=>?_;subst z1;have keyed:∀(Q':Value->Shared->Prop),(∀x t,(af aa w).is (keyOf k) x=true->Q' x { s with toks:=t })->wpAny (model aa w) A (eval (.Constant c a b) env) Q' E s:=by
    intro Q' hQ;rcases WW with ⟨rfl,rfl⟩|⟨x,rfl,rfl⟩
    ·exact wpAny_Constant_none (hQ .none s.toks rfl)
    ·exact Calls.Constant_str (hQ _ _ (dR x _))
   refine evalPairs_cons (keyed _ λx t hx=>?_);have N':ja (af aa w) hW A ah n env l ρ H ({ s with toks:=t }:Shared).heap:=N;have fin:wpAny (model aa w) A (eval f env) (λvv cz=>wpAny (model aa w) A (evalPairs (L4 pos env ls fs)) (λvs mB=>Q ((x,vv)::vs) mB) E cz) E { s with toks:=t }->wpAny (model aa w) A (do let x <-eval f env;standAt pos;pure x) (λvv cz=>wpAny (model aa w) A (evalPairs (L4 pos env ls fs)) (λvs mB=>Q ((x,vv)::vs) mB) E cz) E { s with toks:=t }:=λhv=>wpAny_bind (wpAny_mono hv (λy aS hy=>wpAny_bind (wpAny_standAt (wpAny_pure hy))) λ_ _ z=>z);refine fin ?_;refine cX (r:=aW P F e l H) he (λv H₁ e1 e2=>?_) λc H₁ e1 e2=>?_
   ·refine hs e (.head _) f A ah env l { s with toks:=t } ρ H _ _ E c1 N' e1 λy aq ay t₁ st sp vr=>?_
    refine cX (r:=cA P F es l H₁) e2 (λvs bU e3 e4=>?_) λc bU e3 e4=>?_
    ·cases(show ok (v::vs) bU=some r from e4)
     exact ih (λe he=>hs e (.tail _ he)) ks ls fs pos A ah env l _ aq H₁ _ _ E Ke c2 (Nat.succ.inj hl) (N'.next st sp) e3 λxs kvs b9 bV jK bO bh L5 L6 cf=>
      hq ((x,y)::xs) ((keyOf k,y)::kvs) b9 bV jK bO (sp.trans bh) ⟨hx,rfl,L5⟩ (congrArg (keyOf k::·) L6) ⟨bh.i0 vr,cf⟩
    ·subst e4
     exact ih (λe he=>hs e (.tail _ he)) ks ls fs pos A ah env l _ aq H₁ _ _ E Ke c2 (Nat.succ.inj hl) (N'.next st sp) e3 (Exc.after hq sp)
   ·subst e2
    exact hs e (.head _) f A ah env l { s with toks:=t } ρ H _ _ E c1 N' e1 hq
theorem Iq{C:Prop}{sc:Scope}{ks:List ae}{es:List aZ}{e':Expr}(hc:bt gt sc (.lY ks es) e'=true)(k_:∀ls,∀fs,∀pos,e'=.Dict ls fs pos->iI ks ls=true->cb gt sc es fs=true->es.length<=15->ks.length=es.length->(ks.map keyOf).Nodup->C):C:=by
 refine LI hc λls fs pos e1 h=>?_;exact k_ ls fs pos e1 ((az (aL (aL (aL h)))).1) ((az (aL (aL (aL h)))).2) (of_decide_eq_true (aR (aL (aL h)))) (eq_of_beq (aR (aL h))) (of_decide_eq_true (aR h))
theorem tF:∀{ks:List ae}{ls:List (Option Expr)},iI ks ls=true->ks.all isKey=true:=by
 intro zz;induction zz with
 |nil=>
  intro _ _;exact rfl
 |cons k ks ih=>
  intro ls h;refine vm (gD h) λc a b r Pa h2 h3=>?_;subst Pa;refine Bool.and_eq_true_iff.mpr ⟨?_,ih h2⟩;rcases h3 with ⟨rfl,_⟩|⟨x,rfl,_⟩<;>rfl
theorem zR{pos:Pos}{env:Env}:∀{ks:List ae}{ls:List (Option Expr)}{fs:List Expr},iI ks ls=true->ks.length=fs.length->(L4 pos env ls fs).length=ks.length:=by
 intro zz;induction zz with
 |nil=>
  intro ls _ h _;rw[bF (l:=ls) h];rfl
 |cons k ks ih=>
  intro ls fs h hl;refine vm (gD h) λc a b r Pb h2 _=>?_;subst Pb;cases fs with
  |nil=>cases hl
  |cons f fs=>exact congrArg (· + 1) (ih h2 (Nat.succ.inj hl))
theorem oo{sc:Scope}:∀{es:List aZ}{fs:List Expr},cb gt sc es fs=true->es.length=fs.length:=by
 intro zz;induction zz with
 |nil=>
  intro fs h;rw[bF (l:=fs) h];rfl
 |cons _ _ ih=>
  intro fs h;refine gZ h λf r z1 _ c2=>?_;subst z1;exact congrArg (· + 1) (ih c2)
theorem Ir{ks:List ae}{es:List aZ}(hs:∀e,e∈es->(aG (af aa w) hW gt P F n) e):(aG (af aa w) hW gt P F n) (.lY ks es):=by
 intro e' A ah env l s ρ H r Q E hc N he hq;refine Iq hc λls fs pos z1 c1 c2 c3 c4 c5=>?_;subst z1;have fresh:s.heap.get? s.heap.objs.size=none:=cC _;have Pc:hW.get? s.heap.objs.size=none:=N.st.stays.fresh;have VB:s.heap.objs.size∉bl ah:=λm=>by
  refine FunFrames.fN N.st.bW m λ_ o g _=>?_;rw[fresh]at g;exact absurd g nn
 have Pd:∀n,n<H.next->ρ n≠s.heap.objs.size:=λn hn q=>by
  refine N.st.wK n hn λob _ r=>?_;refine r.there λoc g _ _=>?_;rw[q,fresh]at g;exact absurd g nn
 have SI:Step eQ (bl ah) ρ H.next s.heap ρ H.next (s.heap.push { cls:=.type "dict",data:=.dict #[] }):=.push _;have g0:(s.heap.push { cls:=.type "dict",data:=.dict #[] }).get? s.heap.objs.size=some ({ cls:=.type "dict",data:=.dict #[] }:Obj):=Heap.get?_push_size _ rfl;have SJ:¬bA ({ cls:=.type "dict",data:=.dict #[] }:Obj):=by rintro(⟨e,_⟩|⟨e,_⟩)<;>simp at e
 have N0:ja (af aa w) hW A ah n env l ρ H (s.heap.push { cls:=.type "dict",data:=.dict #[] }):=N.next (N.st.push _) SI;cases ls with
 |nil=>
  cases ks with
  |cons _ _=>exact absurd c1 ff
  |nil=>
   obtain rfl:es=[]:=List.eq_nil_of_length_eq_zero c4.symm;replace c2:=bF (l:=fs) c2;subst c2
   ·have hq:=hq.of he
    refine wpAny_Dict_empty (hq _ _ _ s.toks (N.st.bR { cls:=.type "dict",data:=.dict #[] } (.dict [] []) ⟨[],⟨_,#[],0,g0,⟨rfl,rfl,rfl⟩,rfl,λ_ h=>by simp at h,.nil,.nil⟩,rfl,rfl,trivial⟩) (.bR _) ⟨Nat.lt_succ_self _,by rw[dB]⟩)
 |cons lk ls=>
  have hl:ks.length=fs.length:=c4.trans (oo c2);have Pe:=zR (pos:=pos) (env:=env) c1 hl;refine wpAny_Dict_pairs (knd:=(af aa w)) (pairs:=L4 pos env (lk::ls) fs) (CY c1) ?_ (by omega) ?_
  ·intro q
   rw[q]at Pe;cases ks with
   |nil=>exact absurd c1 ff
   |cons _ _=>cases Pe
  ·have Pf:∀ay aq aN,Step eQ (bl ah) ρ H.next (s.heap.push { cls:=.type "dict",data:=.dict #[] }) aq aN ay->ay.get? s.heap.objs.size=some { cls:=.type "dict",data:=.dict #[] }:=
    λay aq aN sp=>sp.keep _ _ g0 Pd (λf=>f.elim) VB
   refine cX (r:=cA P F es l H) he (λvs H₁ e1 e2=>?_) λc H₁ e1 e2=>?_
   ·have hq:=hq.of e2
    refine qi hs ks (lk::ls) fs pos A ah env l _ ρ H _ _ E c1 c2 c4 N0 e1 ?_;intro xs kvs aq ay t₁ st sp L5 L6 vr;have g1:=Pf ay aq _ sp;have nd:(kvs.map (·.1)).Nodup:=by rw[L6];exact c5
    refine⟨kvs,L5,⟨_,#[],0,g1,⟨rfl,rfl,rfl⟩,rfl,λ_ h=>by simp at h,.nil,.nil⟩,λh' hD SK=>?_⟩;rw[merged_nil_of_nodup kvs nd]at hD;have spT:=SI.trans sp;have ET:∀n,n<H₁.next->aq n≠s.heap.objs.size:=λn hn q=>by
     refine dZ (Nat.lt_or_ge n H.next) (λz=>?_) λz=>?_
     ·exact Pd n z ((spT.old n z).symm.trans q)
     ·have z1:=sp.new n z hn
      rw[q,g0]at z1;exact absurd z1.symm nn
    have g':∃xa,h'.get? s.heap.objs.size=some xa:=by obtain⟨o,_,_,g,_⟩:=hD;exact⟨o,g⟩
    refine aV g' ?_;clear g';intro xa g';have rel:cg (af aa w) hW h' (ext aq H₁.next s.heap.objs.size) (H₁.next+1) (.dict ks vs) s.heap.objs.size:=
     ⟨kvs,hD,L6,tF c1,vr.mono (bP SK g1 SJ) (Nat.le_succ _) λ_ z=>fE z⟩
    exact hq _ _ h' _ (st.adopt ET Pc VB SK g1 SJ rel) (Step.adopt SK g1 SJ g' s.heap fresh spT) ⟨Nat.lt_succ_self _,by rw[dB]⟩
   ·subst e2
    refine qi hs ks (lk::ls) fs pos A ah env l _ ρ H _ _ E c1 c2 c4 N0 e1 (Exc.after hq SI)
end
structure gE(P:cW)(K:Frag)(hW:Heap):Prop where
 uD:K.In hW
 get:∀C ci,P.cls C=some ci->findIn K (.ref C) "__getattribute__" = some (some (.builtin "object.__getattribute__"))∧findIn K (.ref C) "__getattr__" = some none
 dict:∀C ci,P.cls C=some ci->hasDictIn K C=true
 field:∀C ci,P.cls C=some ci->∀a,a∈ci.fields->findIn K (.ref C) (aK a)=some none
 jI:∀C ci,P.cls C=some ci->∀a f,ci.meths.lookup a=some f->findIn K (.ref C) (aK a)=some (some (.ref f))∧isFn K (.ref f)=true∧copiedNames.contains (aK a)=false
 set:∀C ci,P.cls C=some ci->findIn K (.ref C) "__setattr__" = some (some (.builtin "object.__setattr__"))∧plainOver K C=true
 fn:∀f,(P.fns f).isSome=true->keepIn K (.ref f)=true
theorem EU(x y:String)(t:Tok):(Value.str (aK x) t).isStr (aK y)=(x==y):=BO x y
section
variable{aa:Program}{w:World}{knd:KeyKind aa w (Option Str)}{hW h h':Heap}{ρ:Nat->Addr}{N:Nat}
theorem noRef:∀{ks:List ae}{es:List DictEntry},KeysAre ks es->es.any (·.refKey)=false:=by
 intro zz;induction zz with
 |nil=>
  intro b0 h;cases b0 with
  |nil=>
   exact rfl
  |cons kT rj=>
   exact h.elim
 |cons k ks ih=>
  intro kW h;cases kW with
  |nil=>
   exact h.elim
  |cons e es=>
   refine bk h ?_;clear h;intro Kf r;refine aO Kf ?_;clear Kf;intro x t _ h;simp only[List.any_cons,ih r,Bool.or_false];unfold DictEntry.refKey;rw[h]
noncomputable def ni(knd:KeyKind aa w (Option Str))(hW h:Heap)(ρ:Nat->Addr)(N:Nat)(o:Option ae)(u:Option (Option Value)):Prop:=match o with
 |some v=>∃x,u=some (some x)∧bf knd hW h ρ N v x
 |none=>u=some none
theorem ni.xn{o:Option ae}{u:Option (Option Value)}{v:ae}(f:ni knd hW h ρ N o u)(e:o=some v):∃x,u=some (some x)∧bf knd hW h ρ N v x:=by subst e;exact f
theorem ni.none_{o:Option ae}{u:Option (Option Value)}(f:ni knd hW h ρ N o u)(e:o.isNone=true):u=some none:=by
 cases o with
 |none=>exact f
 |some _=>cases e
theorem rn{a x:String}:(ae.beq (.str a) (.str x)=true)↔a=x:=beq_iff_eq
theorem jQ{a:String}:∀{ks vs:List ae}{es:List DictEntry},KeysAre ks es->aP knd hW h ρ N vs (es.map (·.val))->ni knd hW h ρ N (bN (.str a) ks vs) (getL (aK a) es):=by
 intro zz;induction zz with
 |nil=>
  intro vs b0 hk _;cases b0 with
  |nil=>
   exact rfl
  |cons kT rj=>
   exact hk.elim
 |cons k ks ih=>
  intro kW CH hk r;cases CH with
  |nil=>
   exact hk.elim
  |cons e es=>
   cases kW with
   |nil=>
    exact r.elim
   |cons v vs=>
    have nr:=noRef hk;refine bk hk ?_;clear hk;intro Kg EW;refine aO Kg ?_;clear Kg;intro x t Pg he;subst Pg;have ih:=ih EW r.2;have e1:e.key.isStr (aK a)=(x==a):=by rw[he,EU]
    show ni knd hW h ρ N (if ae.beq (.str a) (.str x)=true then some v else bN (.str a) ks vs) _
    by_cases hx:a=x
    ·subst hx
     rw[if_pos (rn.mpr rfl)];exact⟨e.val,by unfold getL;rw[List.find?_cons,e1,beq_self_eq_true],r.1⟩
    ·rw[if_neg λz=>hx (rn.mp z)]
     have NZ:(x==a)=false:=beq_eq_false_iff_ne.mpr λq=>hx q.symm;have e2:getL (aK a) (e::es)=getL (aK a) es:=by
      unfold getL;rw[List.find?_cons,e1,NZ,nr,noRef EW]
     rw[e2];exact ih
theorem xw:∀{ks:List ae}{es:List DictEntry},KeysAre ks es->es.length=ks.length:=by
 intro zz;induction zz with
 |nil=>
  intro b0 h;cases b0 with
  |nil=>
   exact rfl
  |cons kT rj=>
   exact h.elim
 |cons _ _ ih=>
  intro kW h;cases kW with
  |nil=>
   exact h.elim
  |cons CH HP=>
   exact congrArg (· + 1) (ih h.2)
theorem zS{a:String}{hsh:Int}{t:Tok}{v:ae}{u:Value}(hv:bf knd hW h ρ N v u):∀{ks vs:List ae}{es:List DictEntry},KeysAre ks es->aP knd hW h ρ N vs (es.map (·.val))->
  KeysAre (putK (.str a) v ks vs).1 (putL (aK a) hsh (.str (aK a) t) u es)∧aP knd hW h ρ N (putK (.str a) v ks vs).2 ((putL (aK a) hsh (.str (aK a) t) u es).map (·.val))∧
   (putL (aK a) hsh (.str (aK a) t) u es).length<=ks.length+1:=by
 intro zz;induction zz with
 |nil=>
  intro b0 kT hk r;cases b0 with
  |nil=>
   cases kT with
   |nil=>
    exact⟨⟨⟨a,t,rfl,rfl⟩,trivial⟩,⟨hv,trivial⟩,Nat.le_refl _⟩
   |cons rj kW=>
    exact hk.elim
  |cons CH HP=>
   cases kT with
   |nil=>
    exact r.elim
   |cons NW Ss=>
    exact hk.elim
 |cons k ks ih=>
  intro OA SM hk r;cases SM with
  |nil=>
   exact hk.elim
  |cons e es=>
   cases OA with
   |nil=>
    exact r.elim
   |cons y vs=>
    refine bk hk ?_;clear hk;intro Kh EW;refine aO Kh ?_;clear Kh;intro x t' Ph he;subst Ph;have ih:=ih EW r.2;have e1:e.key.isStr (aK a)=(x==a):=by rw[he,EU]
    have p1:putK (.str a) v (.str x::ks) (y::vs)=if ae.beq (.str a) (.str x)=true then(.str x::ks,v::vs)else(.str x::(putK (.str a) v ks vs).1,y::(putK (.str a) v ks vs).2):=rfl;rw[p1];unfold putL
    by_cases hx:a=x
    ·rw[if_pos (rn.mpr hx),if_pos (by rw[e1,hx,beq_self_eq_true])]
     exact⟨⟨⟨x,t',rfl,he⟩,EW⟩,⟨hv,r.2⟩,Nat.le_succ_of_le (Nat.succ_le_succ (Nat.le_of_eq (xw EW)))⟩
    ·rw[if_neg λz=>hx (rn.mp z),if_neg (by rw[e1];exact λq=>hx (eq_of_beq q).symm)]
     exact⟨⟨⟨x,t',rfl,he⟩,ih.1⟩,⟨r.1,ih.2.1⟩,Nat.succ_le_succ ih.2.2⟩
end
set_option tactic.hygienic true in
theorem L7{aa:Program}{w:World}{A:Around}{s:Shared}{K:Frag}{x C dx:Addr}{R:Result->Shared->Prop}{sl:Array (Option Value)}{name:Str}{tk:Tok}{v:Value}{es:List DictEntry}{n:Nat}(X:K.In s.heap)
  (I:InstAt s.heap x ⟨.ref C,some dx,.plain,sl⟩ C (some (dictOf es n))) (hp:plainOver K C=true) (ht:takerIn K C name=some none) (hh:hasDictIn K C=true)
  (hl:(getL name es).isSome=true) (hz:(putL name (PyData.keyHash w.params name) (.str name s.toks) v es).length<=1000)
  (h:∀h',Heap.SameBut dx s.heap h'->h'.get? dx=some (dictOf (putL name (PyData.keyHash w.params name) (.str name s.toks) v es) (putN name es n))->R (.ok (.ret .none)) { s with heap:=h',toks:=s.toks+1 }):
  codeAny (model aa w) A (.call (.builtin "object.__setattr__") ⟨[.ref x,.str name tk,v],[]⟩) R s:=by
 refine osa_open X I hp ht λb=>?_;refine aI (any_some hh) λcd hc OY=>?_;have D:s.heap.get? dx=some (dictOf es n):=I.dict;have D':(s.heap.update dx (Obj.putName name (PyData.keyHash w.params name) (.str name s.toks) v)).get? dx=some (dictOf (putL name (PyData.keyHash w.params name) (.str name s.toks) v es) (putN name es n)):=by
  rw[Heap.get?_update_self _ D (by rw[putName_dict];rfl),putName_dict]
 refine wpAny_bind (wpAny_pure (wpAny_bind (wpAny_bind (wpAny_loadPart I.at_ (wpAny_bind ((looks_clsIn X hc).here ?_))))));rw[OY];refine wpAny_pure (a:=some dx) (wpAny_bind (wpAny_pure (wpAny_bind ?_)));unfold nsSet;refine wpAny_bind (wpAny_bind (wpAny_askSetting (wpAny_pure (wpAny_bind (wpAny_mkText (wpAny_bind (wpAny_loadPart D ?_)))))));dsimp only[dictOf];have c:(!es.toArray.any (·.key.isStr name)&&es.toArray.any (·.refKey))=false:=by
  rw[<-Array.any_toList,<-Array.any_toList,List.toList_toArray];unfold getL at hl;split at hl
  ·rename_i en he
   rw[List.any_eq_true.mpr ⟨en,List.mem_of_find?_eq_some he,List.find?_some he⟩];rfl
  ·split at hl
   ·exact absurd hl Bool.false_ne_true
   ·rename_i z;rw[Bool.not_eq_true]at z;rw[z,Bool.and_false]
 rw[aRefKeyMayBeTheName_at,c];refine wpAny_updatePart D ?_;refine wpAny_bind (wpAny_lookBehind D' (pastItsLine_dict (by rw[List.size_toArray,sizeLine_eq];omega)) ?_);exact wpAny_pure (h _ (Heap.SameBut.update ..) D')
section
variable{aa:Program}{w:World}{hW:Heap}{gt:List (String×ae)}{P:cW}{F:dQ}{n:Nat}{mg mb:Str->Option Value}{K:Frag}
 {A:Around}{ah:List Env}{env:Env}{l:Loc}{s:Shared}{ρ:Nat->Addr}{H:AH}{Q E:Value->Shared->Prop}
theorem pD{v:ae}{x:Value}{h:Heap}{N:Nat}(hv:JU v=true)(r:bf (af aa w) hW h ρ N v x):handedIn x=true:=by
 cases v with
 |none=>cases r;rfl
 |bool b=>cases r;rfl
 |int i=>obtain⟨_,rfl⟩:=r;rfl
 |str s=>obtain⟨_,rfl⟩:=r;rfl
 |tup vs=>obtain⟨_,_,rfl,_⟩:=r;rfl
 |ref n=>obtain⟨_,rfl⟩:=r;rfl
 |top a=>cases r;rfl
 |cp _ _=>obtain⟨_,rfl,_⟩:=r;rfl
 |nR n=>obtain⟨_,rfl,_⟩:=r;rfl
 |kL vs=>obtain⟨_,_,rfl,_⟩:=r;rfl
 |_=>exact absurd hv ff
theorem vI{m C d:Nat}{ks vs:List ae}(st:St (af aa w) hW ah ρ H s.heap)(hm:m<H.next)(e:H.get m=some (.inst C d))(e':H.get d=some (.bg ks vs)):
  ∃es i sl,InstAt s.heap (ρ m) ⟨.ref C,some (ρ d),.plain,sl⟩ C (some (dictOf es i))∧KeysAre ks es∧aP (af aa w) hW s.heap ρ H.next vs (es.map (·.val)):=by
 obtain⟨hd,sl,g⟩:=st.toCells.get hm e;refine cn (st.toCells.get hd e') λes i g' k v=>?_;exact⟨es,i,sl,⟨g,rfl,rfl,g'⟩,k,v⟩
theorem EX{m C d:Nat}{ci:eJ}{ks vs:List ae}{a:String}{v:ae}{expr:Bool}(M:gE P K hW)(st:St (af aa w) hW ah ρ H s.heap)(hm:m<H.next)(e:H.get m=some (.inst C d))(e':H.get d=some (.bg ks vs))
  (hc:P.cls C=some ci) (hf:ci.fields.contains a=true) (hv:bN (.str a) ks vs=some v) (hk:JU v=true) (hq:bH (af aa w) hW ah s ρ H v H Q):wpAny (model aa w) A (getAttr (.ref (ρ m)) (aK a) expr) Q E s:=by
 refine ft (vI st hm e e') λes i sl I k vr=>?_;have X:K.In s.heap:=M.uD.keeps st.stays;have g:=jQ (a:=a) k vr;refine aI (g.xn hv) λu gu vu=>?_;refine get_value X I (M.get C ci hc).1 (findObj_own (M.dict C ci hc) (M.field C ci hc a (by simpa using hf)) rfl (by rw[lookIn_dict];exact gu)) (pD hk vu) (bH.now hq st vu)
theorem CZ:findIn K (.type "function") "__get__" = some (some (.builtin "function.__get__")):=(by decide +kernel:fastLookup "function" "__get__" = some (some (.builtin "function.__get__")))
theorem C0:findIn K (.type "function") "__set__" = some none:=(by decide +kernel:fastLookup "function" "__set__" = some none)
theorem C1:findIn K (.type "function") "__delete__" = some none:=(by decide +kernel:fastLookup "function" "__delete__" = some none)
theorem EY{m C d:Nat}{ci:eJ}{ks vs:List ae}{a:String}{f:Nat}{expr:Bool}(M:gE P K hW)(st:St (af aa w) hW ah ρ H s.heap)(hm:m<H.next)(e:H.get m=some (.inst C d))(e':H.get d=some (.bg ks vs))
  (hc:P.cls C=some ci) (hf:ci.meths.lookup a=some f) (hv:(bN (.str a) ks vs).isNone=true) (hq:bH (af aa w) hW ah s ρ H .wR H Q):wpAny (model aa w) A (getAttr (.ref (ρ m)) (aK a) expr) Q E s:=by
 refine ft (vI st hm e e') λes i sl I k vr=>?_;have X:K.In s.heap:=M.uD.keeps st.stays;have g:=jQ (a:=a) k vr;have g:=g.none_ hv;refine dw (M.jI C ci hc a f hf) λm1 m2 m3=>?_;have ht:typeIn K (.ref f)=some (.type "function"):=beq_iff_eq.mp m2;have hg:specialIn K (.ref f) "__get__" = some (some (.builtin "function.__get__")):=by
  unfold specialIn;rw[ht,Option.bind_some];exact CZ
 have WX:takesIn K (.ref f)=some false:=by
  unfold takesIn specialIn;rw[ht,Option.bind_some,Option.bind_some];rw[show findIn K (.type "function") "__set__" = some none from C0,show findIn K (.type "function") "__delete__" = some none from C1];rfl
 have WY:=findObj_fn (od:=dictOf es i) (M.dict C ci hc) m1 hg WX m3 g;refine get_bind X I (M.get C ci hc).1 WY (M.get C ci hc).2 (wpAny_call (fn_get (s:={ s with toks:=s.toks+1 }) X ht ?_));exact handed_on rfl (hq _ ρ _ _ (st.push _) (.push _) trivial)
theorem EZ{D:Prop}{α:Type}{n:Nat}{k:Nat->eJ->Nat->List ae->List ae->Option α}{r:α}(h:um P n H k=some r)(k_:∀C ci d ks vs,H.get n=some (.inst C d)->P.cls C=some ci->H.get d=some (.bg ks vs)->k C ci d ks vs=some r->D):D:=by
 refine LC h λC d e1 h1=>?_;refine ed h1 λci e2 h2=>?_;refine HX h2 λks vs e3 h3=>?_;exact k_ C ci d ks vs e1 e2 e3 h3
theorem E0{C:Prop}{α:Type}{ci:eJ}{a:String}{ks vs:List ae}{k:ae->Option α}{r:α}(h:rO ci a ks vs k=some r)(k_:∀v,ci.fields.contains a=true->bN (.str a) ks vs=some v->JU v=true->k v=some r->C):C:=by
 refine fX h λh1 h2=>?_;refine ed h2 λv h3 h4=>?_;exact k_ v h1 h3 (fX h4 λa _=>a) (fX h4 λ_ b=>b)
theorem zT{o v:ae}{a:String}{x:Value}{expr:Bool}{r:Except Nat ae×AH}(M:gE P K hW)(st:St (af aa w) hW ah ρ H s.heap)(ro:bf (af aa w) hW s.heap ρ H.next o x)
  (he:kQ P o a H=some r) (hq:bB (af aa w) hW ah s ρ H r Q E):wpAny (model aa w) A (getAttr x (aK a) expr) Q E s:=by
 refine rM he λm z1 h1=>?_;clear he;subst z1;refine ro.E λhm z1=>?_;clear ro;subst z1;refine EZ h1 λC ci d ks vs e1 e2 e3 h2=>?_;refine rP h2 (λf hf h3=>?_) λ_ h3=>?_
 ·exact EY M st hm e1 e3 e2 hf (fX h3 λa _=>a) (hq.of (fX h3 λ_ b=>b))
 ·clear h2
  refine E0 h3 λv hf hv hk h4=>?_;exact EX M st hm e1 e3 e2 hf hv hk (hq.of h4)
theorem RL{α:Type}{l:List α}(h:isNil l=false):l≠[]:=λe=>by rw[e]at h;exact absurd h.symm Bool.false_ne_true
set_option tactic.hygienic true in
theorem gw{o:Expr}{a:Str}{env:Env}{t:Sem Value}(h:lZ o=true):attributeBase o a env t=t:=by
 cases o<;>try rfl
 rename_i f args SN pos;cases f<;>try rfl
 cases args<;>try rfl
 cases SN<;>first|rfl|exact absurd h ff
theorem uE{o:Expr}{a:Str}{pos:Pos}{env:Env}(h:lZ o=true):eval (.Attribute o a pos) env=(do
   let v <-eval o env
   standAt pos.atName
   let r <-holding [v] (getAttr v a true)
   letTemporaryGo o v r
   pure r):=by
 have e:eval (.Attribute o a pos) env=(do
   let v <-attributeBase o a env (eval o env)
   standAt pos.atName
   let r <-holding [v] (getAttr v a true)
   letTemporaryGo o v r
   pure r):=rfl
 rw[e,gw h]
theorem E1(M:gE P K hW){o:aZ}{a:String}(h1:(aG (af aa w) hW gt P F n) o):(aG (af aa w) hW gt P F n) (.attr o a):=by
 intro e' A ah env l s ρ H r Q E hc N he hq;refine pz hc λf b pos z1 h2=>?_;clear hc;subst z1;obtain rfl:=eq_of_beq (az (aL h2)).1;refine bB.dn (Q':=λx aS=>wpAny (model aa w) A (getAttr x (aK a) true) Q E aS) he N hq (λv H₁ _ f1 x aq ay t₁ aN bL br aM=>zT (v:=v) M aN.st br f1 aM) λbX e1 o1=>?_;exact Attribute_any_ (h1 f A ah env l s ρ H bX _ E (aR h2) N e1 o1) (uE (az (aL h2)).2)
end
section
variable{aa:Program}{w:World}{knd:KeyKind aa w (Option Str)}{hW h h':Heap}{ρ bq:Nat->Addr}{N N':Nat}{ah:List Env}{H:AH}{X:Addr->Prop}{fr:List Addr}
theorem Step.keeps(k:∀b o,h.get? b=some o->h'.get? b=some o):Step X fr ρ N h ρ N h':=
 { (Step.refl:Step X fr ρ N h ρ N h)with
  keep:=λb o e _ _ _=>k b o e
  frame:=λb o e _ _=>⟨o.slots,k b o e⟩
  live:=λb e=>by
   cases q:h.get? b with
   |none=>rfl
   |some o=>rw[k b o q]at e;cases e
  eg:=dz k }
theorem St.keeps(x:St knd hW ah ρ H h)(k:∀b o,h.get? b=some o->h'.get? b=some o):St knd hW ah ρ H h' where
 at_ n hn:=by
  refine x.wK n hn λob e r=>?_;refine r.there λoc g _ _=>?_;exact⟨ob,e,r.mono (dz k) (Nat.le_refl _) (λ_ _=>rfl) ((k _ _ g).trans g.symm)⟩
 inj:=x.inj
 out:=x.out
 stays b ob e:=k _ _ (x.stays b ob e)
 bW:=FunFrames.nU (λb ob e d=>⟨ob,k _ _ e,d⟩) x.bW
 qM:=x.qM
theorem St.iM(x:St knd hW ah ρ H h):(∀n,n<H.next->ρ n≠h.objs.size)∧hW.get? h.objs.size=none∧h.objs.size∉bl ah:=by
 refine⟨λn hn q=>?_,x.stays.fresh,λm=>?_⟩
 ·refine x.wK n hn λob _ r=>?_
  refine r.there λoc g _ _=>?_;rw[q,cC h]at g;exact absurd g nn
 ·refine FunFrames.fN x.bW m λ_ o g _=>?_
  rw[cC h]at g;exact absurd g nn
theorem St.gF{C:Prop}(x:St knd hW ah ρ H h)(k:(∀n,n<H.next->ρ n≠h.objs.size)->hW.get? h.objs.size=none->h.objs.size∉bl ah->C):C:=k x.iM.1 x.iM.2.1 x.iM.2.2
theorem St.newList(x:St knd hW ah ρ H h)(k:∀b o,h.get? b=some o->h'.get? b=some o){ws:List Value}{c:Nat}{vs:List ae}(g:h'.get? h.objs.size=some (listOf ws.toArray c))(vr:aP knd hW h ρ H.next vs ws):
  St knd hW ah (ext ρ H.next h.objs.size) (H.new (.list vs)) h'∧Step X (bl ah) ρ H.next h (ext ρ H.next h.objs.size) (H.next+1) h'∧bf knd hW h' (ext ρ H.next h.objs.size) (H.next+1) (.ref H.next) (.ref h.objs.size):=by
 refine dw x.iM λn1 n2 n3=>?_;have nf:¬bA (listOf ws.toArray c):=by rintro(⟨e,_⟩|⟨e,_⟩)<;>simp at e
 have SO:aP knd hW h' (ext ρ H.next h.objs.size) (H.next+1) vs ws:=vr.mono (dz k) (Nat.le_succ _) λ_ z=>fE z;have sp:Step eQ (bl ah) ρ H.next h (ext ρ H.next h.objs.size) (H.next+1) h':=Step.adopt (Heap.SameBut.refl _ _) g nf g h (cC h) (.keeps k);exact⟨(x.keeps k).adopt n1 n2 n3 (Heap.SameBut.refl _ _) g nf ⟨ws,c,g,SO⟩,sp.weaken (λ_ f=>f.elim),Nat.lt_succ_self _,by rw[dB]⟩
end
section
variable{aa:Program}{w:World}{hW:Heap}{P:cW}{F:dQ}{n:Nat}{K:Frag}
 {A:Around}{ah:List Env}{env:Env}{l:Loc}{s:Shared}{ρ:Nat->Addr}{H:AH}{Q E:Value->Shared->Prop}
theorem tG{d:Addr}(hh:A.handled=none)(hd:(d==sysModules)=false)(hD:s.heap.DictOf (af aa w) d [])(hQ:∀h' c t,(∀b o,s.heap.get? b=some o->h'.get? b=some o)->h'.get? s.heap.objs.size=some (listOf #[] c)->Q (.ref s.heap.objs.size) { s with heap:=h',toks:=t }):
  wpAny (model aa w) A (call (.type "list") [.ref d]) Q E s:=by
 refine Eh hD ?_;clear hD;intro o es ep r;refine kdl_call (kdl_dict (knd:=(af aa w)) (d:=d) (kvs:=[]) (ep:=ep) hd) hh ⟨o,es,r⟩ (by simp) λh' tk E2 c' hk hS hi=>?_;have:E2=#[]:=by
  have:=hi.1;exact Array.eq_empty_of_size_eq_zero (by simpa using this)
 subst this;exact hQ h' c' tk hk hS
theorem jc{C:Prop}{a:ae}{xs:List Value}(r:aP (af aa w) hW s.heap ρ H.next [a] xs)(k_:∀x,xs=[x]->bf (af aa w) hW s.heap ρ H.next a x->C):C:=by
 cases xs with
 |nil=>exact r.elim
 |cons x xs=>cases xs with
  |nil=>exact k_ x rfl r.1
  |cons _ _=>exact r.2.elim
theorem vJ{C:Prop}{a b:ae}{xs:List Value}(r:aP (af aa w) hW s.heap ρ H.next [a,b] xs)(k_:∀x,∀y,xs=[x,y]->bf (af aa w) hW s.heap ρ H.next a x->bf (af aa w) hW s.heap ρ H.next b y->C):C:=by
 cases xs with
 |nil=>exact r.elim
 |cons x xs=>
  refine jc r.2 λy z1 h=>?_;subst z1;exact k_ x y rfl r.1 h
theorem E3{x:ae}{k:Out ae}{r:Except Nat ae×AH}(h:By x k=some r):x=.bi (.type "bool")∧k=some r:=by
 cases x with
 |bi v=>cases v with
  |type n=>exact fX h λz h1=>⟨congrArg _ (congrArg _ z),h1⟩
  |_=>exact absurd h nn
 |_=>exact absurd h nn
theorem zU{a:ae}{x:Value}{r:Except Nat ae×AH}(st:St (af aa w) hW ah ρ H s.heap)(ra:bf (af aa w) hW s.heap ρ H.next a x)(he:Ot H a=some r)(hq:bB (af aa w) hW ah s ρ H r Q E):wpAny (model aa w) A (call (.builtin "len") [x]) Q E s:=by
 have small:∀{n:Nat}{ws:List Value},ws.length=n->n<=100000->((ws.toArray.size:Nat):Int)<2^63:=λe h=>by rw[List.size_toArray,e];omega
 have len:∀{n:Nat}{ws:List Value},ws.length=n->ok (.int n) H=some r->Q (.int (ws.toArray.size:Nat) (s.toks+1)) { s with toks:=s.toks+1+1 }:=λe h=>by
  rw[List.size_toArray,e];exact bH.now (hq.of h) st ⟨_,rfl⟩
 cases a with
 |tup vs=>
  refine fX he λhl h1=>?_;refine ra.E λp ws z1 tp vp=>?_;clear ra;subst z1;exact len_tuple (Heap.TupAt.isTup tp) (small vp.length hl) (len vp.length h1)
 |ref n=>
  refine jG he λvs e1 h1=>?_;refine fX h1 λhl h2=>?_;refine ra.E λhm z1=>?_;clear ra;subst z1;refine aO (st.toCells.get hm e1) λws j ho vp=>?_;exact Calls.call_len_list ⟨listOf ws.toArray j,ho,rfl,j,rfl⟩ (small vp.length hl) (len vp.length h2)
 |kL vs=>
  refine fX he λhl h1=>?_;refine ra.E λp ws z1 SG vp=>?_;clear ra;subst z1;exact Calls.call_len_list (SG.elim λo z=>⟨o,st.stays _ _ z.1,z.2⟩) (small vp.length hl) (len vp.length h1)
 |_=>exact absurd he nn
theorem zV{a:ae}{x:Value}{r:Except Nat ae×AH}(st:St (af aa w) hW ah ρ H s.heap)(ra:bf (af aa w) hW s.heap ρ H.next a x)(he:Ou H a=some r)(hq:bB (af aa w) hW ah s ρ H r Q E):wpAny (model aa w) A (call (.type "int") [x]) Q E s:=by
 cases a with
 |int i=>
  refine ra.E λt z1=>?_;clear ra;subst z1;exact call_int_int (bH.gY (hq.of he) st ⟨_,rfl⟩)
 |bool b=>
  obtain rfl:x=_:=ra;exact call_int_bool (bH.now (hq.of he) st ⟨_,rfl⟩)
 |str z=>
  refine ra.E λt z1=>?_;clear ra;subst z1;refine nS he (λz1 h1=>?_) λh1=>?_
  ·clear he
   subst z1;exact KIN.call_text (by decide +kernel) (by decide +kernel) (bH.now (hq.of h1) st ⟨_,rfl⟩)
  clear he;refine nS h1 (λz1 h2=>?_) λh2=>?_
  ·clear h1
   subst z1;exact KIN.call_text (by decide +kernel) (by decide +kernel) (bH.now (hq.of h2) st ⟨_,rfl⟩)
  clear h1;refine fX h2 λz1 h3=>?_;clear h2;subst z1;exact KIN.call_text (by decide +kernel) (by decide +kernel) (bH.now (hq.of h3) st ⟨_,rfl⟩)
 |_=>exact absurd he nn
theorem xx{a:ae}{x:Value}{r:Except Nat ae×AH}(C:Cx A ah n)(sy:(hW.get? sysModules).isSome=true)(st:St (af aa w) hW ah ρ H s.heap)(ra:bf (af aa w) hW s.heap ρ H.next a x)(he:JV H a=some r)(hq:bB (af aa w) hW ah s ρ H r Q E):wpAny (model aa w) A (call (.type "list") [x]) Q E s:=by
 cases a with
 |tup vs=>
  refine fX he λhl h1=>?_;refine ra.E λp ws z1 z2 vp=>?_;clear ra;subst z1;refine cn z2 ?_;clear z2;intro o i g c d;refine call_list_seq (hsz:=jO vp.length hl) p (.inr rfl) g c d λh' c' hk hg=>?_;refine dw (st.newList (X:=eQ) hk hg vp) λa1 a2 a3=>?_;exact(hq.of h1) _ _ h' s.toks a1 a2 a3
 |ref n=>
  refine zC he (λ_ _ h1=>?_) λks vs e1 h1=>?_
  ·exact absurd h1 nn
  clear he;refine LD h1 λz1 h2=>?_;clear h1;subst z1;refine LD h2 λz1 h3=>?_;clear h2;subst z1;refine ra.E λhm z1=>?_;clear ra;subst z1;refine fq (st.toCells.get hm e1) λkvs hD k1 k2 vp=>?_;cases kvs with
  |cons _ _=>cases k1
  |nil=>
   refine tG C.hand (vG st sy hm) hD λh' c t hk hg=>?_;refine dw (st.newList (X:=eQ) (vs:=[]) (ws:=[]) hk hg trivial) λa1 a2 a3=>?_;exact(hq.of h3) _ _ h' t a1 a2 a3
 |_=>exact absurd he nn
theorem xy{i:Int}(h:0<=i∧i<100):i.natAbs.log2<1920:=by
 by_cases z:i.natAbs=0
 ·rw[z];decide
 ·exact Nat.lt_of_lt_of_le ((Nat.log2_lt (k:=7) z).mpr (by omega)) (by decide)
theorem xB{f:Value}{as:List ae}{xs:List Value}{r:Except Nat ae×AH}(C:Cx A ah n)(sy:(hW.get? sysModules).isSome=true)(st:St (af aa w) hW ah ρ H s.heap)(vr:aP (af aa w) hW s.heap ρ H.next as xs)(he:rN f as H=some r)(hq:bB (af aa w) hW ah s ρ H r Q E):
  wpAny (model aa w) A (call f xs) Q E s:=by
 cases f with
 |builtin m=>
  refine nS he (λz1 h1=>?_) λh1=>?_
  ·clear he
   subst z1;refine HY h1 λa z1 h2=>?_;clear h1;subst z1;refine jc vr λx z1 ra=>?_;subst z1;exact zU st ra h2 hq
  clear he;refine nS h1 (λz1 h2=>?_) λh2=>?_
  ·clear h1
   subst z1;refine RE h2 λa b z1 h3=>?_;clear h2;subst z1;refine vJ vr λx y z1 ra rb=>?_;subst z1;refine ints_of ra rb h3 λi j t u z1 z2 h4=>?_;subst z1;subst z2;refine max_two_ints C.hand λh' tk hk=>?_;exact(hq.of h4) (if i<j then .int j u else .int i t) ρ h' tk (st.keeps hk) (.keeps hk) (by by_cases q:i<j<;>simp only[q,if_true,if_false]<;>exact⟨_,rfl⟩)
  clear h1;refine fX h2 λz1 h3=>?_;clear h2;subst z1;refine RE h3 λa b z1 h4=>?_;clear h3;subst z1;refine vJ vr λx y z1 ra rb=>?_;subst z1;refine jq h4 λi z1 h5=>?_;clear h4;subst z1;replace h5:=E3 h5;refine bk h5 ?_;clear h5;intro Pj h6;subst Pj;refine ra.E λt z1=>?_;clear ra;subst z1;obtain rfl:y=_:=rb;exact IsiPair.int_bool (bH.now (hq.of h6) st rfl)
 |type m=>
  refine nS he (λz1 h1=>?_) λh1=>?_
  ·clear he
   subst z1;refine HY h1 λa z1 h2=>?_;clear h1;subst z1;refine jc vr λx z1 ra=>?_;subst z1;exact zV st ra h2 hq
  clear he;refine nS h1 (λz1 h2=>?_) λh2=>?_
  ·clear h1
   subst z1;refine HY h2 λa z1 h3=>?_;clear h2;subst z1;refine jc vr λx z1 ra=>?_;subst z1;refine jq h3 λi z1 h4=>?_;clear h3;subst z1;refine fX h4 λhi h5=>?_;refine ra.E λt z1=>?_;clear ra;subst z1;exact P.str_of_int (xy hi) (bH.now (hq.of h5) st ⟨_,rfl⟩)
  clear h1;refine nS h2 (λz1 h3=>?_) λh3=>?_
  ·clear h2
   subst z1;refine HY h3 λa z1 h4=>?_;clear h3;subst z1;refine jc vr λx z1 ra=>?_;subst z1;refine rM h4 λm z1 h5=>?_;clear h4;subst z1;refine jG h5 λvs e1 h6=>?_;refine fX h6 λhl h7=>?_;refine ra.E λhm z1=>?_;clear ra;subst z1;refine aO (st.toCells.get hm e1) λws j ho vp=>?_;refine call_tuple_list (hsz:=jO vp.length hl) ⟨listOf ws.toArray j,ho,rfl,j,rfl⟩ λh' hk=>?_;have sp:Step eQ (bl ah) ρ H.next s.heap ρ H.next (h'.push { cls:=.type "tuple",data:=.seq ws.toArray }):=(Step.keeps hk).trans (.push _);exact(hq.of h7) _ ρ _ s.toks ((st.keeps hk).push _) sp ⟨_,ws,rfl,⟨_,0,Heap.get?_push_size _ rfl,rfl,rfl⟩,sp.gr vp⟩
  clear h2;refine nS h3 (λz1 h4=>?_) λh4=>?_
  ·clear h3
   subst z1;refine HY h4 λa z1 h5=>?_;clear h4;subst z1;refine jc vr λx z1 ra=>?_;subst z1;exact xx C sy st ra h5 hq
  clear h3;refine fX h4 λz1 h5=>?_;clear h4;subst z1;refine HY h5 λa z1 h6=>?_;clear h5;subst z1;refine jc vr λx z1 ra=>?_;subst z1;refine jq h6 λi z1 h7=>?_;clear h6;subst z1;refine fX h7 λhi h8=>?_;clear h7;refine ra.E λt z1=>?_;clear ra;subst z1;refine call_range_1 ((hq.of h8) _ ρ _ _ (st.push _) (.push _) ⟨_,rfl,_,s.toks,t,s.toks+1,Heap.get?_push_size _ rfl,rfl,rfl,?_⟩);rw[show((i.toNat:Nat):Int)=i from Int.toNat_of_nonneg hi.1]
 |_=>exact absurd he nn
end
section
variable{aa:Program}{w:World}{hW:Heap}{gt:List (String×ae)}{P:cW}{F:dQ}{n:Nat}{K:Frag}
 {A:Around}{ah:List Env}{env:Env}{l:Loc}{s:Shared}{ρ:Nat->Addr}{H:AH}{Q E:Value->Shared->Prop}
noncomputable def jR(aa:Program)(w:World)(hW:Heap)(F:dQ)(n:Nat):Prop:=∀(f:Nat) (as:List ae) (H:AH) (r:Except Nat ae×AH) (A:Around) (ah:List Env) (s:Shared) (ρ:Nat->Addr) (xs:List Value) (Q E:Value->Shared->Prop),
 F f as H=some r->Cx A ah n->St (af aa w) hW ah ρ H s.heap->aP (af aa w) hW s.heap ρ H.next as xs->bB (af aa w) hW ah s ρ H r Q E->wpAny (model aa w) A (call (.ref f) xs []) Q E s
theorem zW{sc:Scope}{e:aZ}{es:List aZ}{fs:List Expr}(h:cb gt sc (e::es) fs=true):∃f r,fs=f::r∧noStar f=true∧cb gt sc es r=true:=by
 cases fs with
 |nil=>exact absurd h ff
 |cons f fs=>exact⟨f,fs,rfl,(az (az h).1).1,(az h).2⟩
theorem r4{sc:Scope}{pos:Pos}{env:Env}:∀{es:List aZ}{fs:List Expr},cb gt sc es fs=true->(backTo pos (starEach fs env)).any (·.1)=false:=by
 intro zz;induction zz with
 |nil=>
  intro fs h;rw[bF (l:=fs) h];rfl
 |cons e es ih=>
  intro fs h;refine cn (zW h) λf r Pk h1 h2=>?_;subst Pk;rw[cj h1,dk];exact ih h2
theorem It{f:Value}{first:List Value}{pos:Pos}{es:List aZ}{fs:List Expr}{sc:Scope}(hc:cb gt sc es fs=true)
  (hk:∀h:Heap,hW.StaysIn h->∃k,(k=Keeper.frame∨k=Keeper.machine∨k=Keeper.boundFrame)∧Looks (model aa w) h (keeperOf f) k)
  (h:wpAny (model aa w) A (spliced (backTo pos (starEach fs env))) (λvs aS=>hW.StaysIn aS.heap∧wpAny (model aa w) A (call f (first++vs)) Q E aS) E s):
  wpAny (model aa w) A (callWith pos f first (backTo pos (starEach fs env)) []) Q E s:=by
 refine callWith_of (P:=λh=>hW.StaysIn h) (by rw[r4 hc];rfl) hk ?_;cases fs with
 |nil=>
  unfold evalArgs;show wpAny (model aa w) A (spliced [] >>= _) _ E s;refine wpAny_bind (wpAny_mono h (λvs aS hv=>wpAny_bind (wpAny_pure ?_)) λ_ _ x=>x);refine wpAny_holding ?_;exact wpAny_bind (wpAny_pure (wpAny_bind (wpAny_pure (wpAny_pure hv))))
 |cons g fs=>
  cases es with
  |nil=>exact absurd hc ff
  |cons e es=>
   have h1:=(az (az hc).1).1;rw[cj h1,dk]at h ⊢;exact Calls.evalArgs_plain h
theorem xC{f:Value}{as:List ae}{H:AH}{r:Except Nat ae×AH}(h:rN f as H=some r):(∃i,f=.builtin i)∨∃T,f=.type T:=by
 cases f<;>first|exact .inl ⟨_,rfl⟩|exact .inr ⟨_,rfl⟩|exact absurd h nn
theorem nj{M:Model}{f:Value}(h:(∃i,f=.builtin i)∨∃T,f=.type T)(hp:Heap):∃k,(k=Keeper.frame∨k=Keeper.machine∨k=Keeper.boundFrame)∧Looks M hp (keeperOf f) k:=by
 rcases h with ⟨i,rfl⟩|⟨T,rfl⟩<;>exact⟨.machine,.inr (.inl rfl),.now⟩
noncomputable def vK(hW h:Heap)(ρ:Nat->Addr)(N:Nat):Callee->Value×List Value->Prop
 | .fn f o,fx=>fx.1=.ref f∧∃x,fx.2=[x]∧bf (af aa w) hW h ρ N o x
 | .val v,fx=>fx.2=[]∧bf (af aa w) hW h ρ N v fx.1
 | .jI o a,fx=>fx.1=.builtin (if a = "get" then "dict.get" else "list." ++ a)∧∃x,fx.2=[x]∧bf (af aa w) hW h ρ N o x
theorem vL{o:ae}{a:String}{c:Callee}{x:Value}{pl:Sem Bool}{Q:Value×List Value->Shared->Prop}(M:gE P K hW)(st:St (af aa w) hW ah ρ H s.heap)(ro:bf (af aa w) hW s.heap ρ H.next o x)
  (he:eC P o a H=some c) (hq:∀fx t,vK (aa:=aa) (w:=w) hW s.heap ρ H.next c fx->Q fx { s with toks:=t }):wpAny (model aa w) A (getMethod x (aK a) pl) Q E s:=by
 cases o with
 |ref m=>
  refine ro.E λhm z1=>?_;clear ro;subst z1;replace he:=Ox he;rcases he with h1|⟨vs,e1,h1⟩|⟨ks,vs,e1,h1⟩
  ·refine EZ h1 λC ci d ks vs e1 e2 e3 h2=>?_
   have X:K.In s.heap:=M.uD.keeps st.stays;refine ft (vI st hm e1 e3) λes i sl I k vr=>?_;have g:=jQ (a:=a) k vr;refine rP h2 (λf hf h3=>?_) λ_ h3=>?_
   ·refine fX h3 λhn h4=>?_
    replace h4:=Option.some.inj h4;subst h4;have g:=g.none_ hn;refine dw (M.jI C ci e2 a f hf) λm1 m2 m3=>?_;exact method_fn X I (M.get C ci e2).1 (M.get C ci e2).2 m1 (beq_iff_eq.mp m2) (by show(lookIn (aK a) (dictOf es i)).map _=_;rw[lookIn_dict,g];rfl) (hq _ s.toks ⟨rfl,_,rfl,hm,rfl⟩)
   ·clear h2
    refine E0 h3 λv hf hv hk h4=>?_;replace h4:=Option.some.inj h4;subst h4;have N1:=M.field C ci e2 a (by simpa using hf);refine method_usual X I (M.get C ci e2).1 (M.get C ci e2).2 N1 rfl ?_;refine aI (g.xn hv) λu gu vu=>?_;exact get_value X I (M.get C ci e2).1 (findObj_own (M.dict C ci e2) N1 rfl (by rw[lookIn_dict];exact gu)) (pD hk vu) (hq _ _ ⟨rfl,vu⟩)
  ·refine aO (st.toCells.get hm e1) λws j ho vp=>?_
   refine fX h1 λha h2=>?_;replace h2:=Option.some.inj h2;subst h2;rcases ha with rfl|rfl|rfl
   ·exact getMethod_builtin ⟨_,ho,rfl⟩ PySem.F.plainAttrs_list PySem.F.slot_list_append PySem.F.type_list_append (λb e=>by cases e;exact⟨_,ho,rfl⟩) (hq _ s.toks ⟨rfl,_,rfl,hm,rfl⟩)
   ·exact getMethod_builtin ⟨_,ho,rfl⟩ PySem.F.plainAttrs_list PySem.F.slot_list_extend PySem.F.type_list_extend (λb e=>by cases e;exact⟨_,ho,rfl⟩) (hq _ s.toks ⟨rfl,_,rfl,hm,rfl⟩)
   ·exact getMethod_builtin ⟨_,ho,rfl⟩ PySem.F.plainAttrs_list PySem.F.slot_list_pop PySem.F.type_list_pop (λb e=>by cases e;exact⟨_,ho,rfl⟩) (hq _ s.toks ⟨rfl,_,rfl,hm,rfl⟩)
  ·refine aI (st.toCells.get hm e1) λkvs hD _=>?_
   refine fX h1 λz1 h2=>?_;clear h1;subst z1;replace h2:=Option.some.inj h2;subst h2;exact getMethod_builtin hD.mapOf.typeIs PySem.F.plainAttrs_dict PySem.F.slot_dict_get PySem.F.type_dict_get hD.mapOf.noDict (hq _ s.toks ⟨rfl,_,rfl,hm,rfl⟩)
 |cp ks vs=>
  refine ro.E λp z1 hs kvs hD hk vp=>?_;subst z1;have hM:s.heap.MapOf (af aa w) p (valueAt kvs):=iK hD.mapOf st.stays;refine fX he λz1 h2=>?_;clear he;subst z1;replace h2:=Option.some.inj h2;subst h2;exact getMethod_builtin hM.typeIs PySem.F.plainAttrs_dict PySem.F.slot_dict_get PySem.F.type_dict_get hM.noDict (hq _ s.toks ⟨rfl,_,rfl,ro⟩)
 |_=>exact absurd he nn
theorem Iu(l:Addr)(n:Nat)(b:Addr)(o:Obj)(n2:Nat)(hc:o.cls=.type "tuple")(hd:o.data=.seq (([]:List Value).toArray) n2):
  Meets (Builtin.«list.extend» ⟨[.ref l,.ref b],[]⟩) (λ_ R s=>s.heap.get? l=some { cls:=.type "list",dict:=none,data:=.seq #[] n,slots:=#[] }∧s.heap.get? b=some o∧R (.ok (.ret Value.none)) { s with heap:=s.heap.update l (Obj.mapSeq λx=>x++#[]),toks:=s.toks }):=by
 obtain⟨cls,dd,data,sl⟩:=o;simp only at hc hd;subst hc hd;exact .of_wp λaa w A R s h=>by
  obtain⟨hp,g,d,tk,os⟩:=s;obtain⟨hl,hb,h⟩:=h;have f1:=PySem.AutoSeq1.idx_int;have f2:=PySem.AutoSeq1.sub_tuple_tuple;have f3:=PySem.AutoSeq1.sub_list_list;have f4:=PySem.AutoSeq1.sub_tuple_list;have f5:=PySem.AutoSeq1.sub_list_tuple;have WZ:((#[]:Array Value)++#[]).size<=sizeLine+1:=by simp
  have W0:(#[]:Array Value).size<=sizeLine:=by simp
  have RM:¬(!(#[]:Array Value).isEmpty&&Builtin.List.listTooLong ((#[]:Array Value).size+(#[]:Array Value).size))=true:=by simp
  wp_walk using (wpAny_updateSeq hl rfl (hz:=W0) (_hz':=WZ)),PySem.AutoSeq1.wpAny_loadPart' hl,PySem.AutoSeq1.wpAny_loadPart' hb;exact⟨_,rfl,h⟩
theorem AH.set_same{H:AH}{m:Nat}{o:cT}(e:H.get m=some o):H.set m o=H:=by
 obtain⟨nx,g⟩:=H;refine congrArg (AH.mk nx) (funext λk=>?_)
 by_cases q:k=m
 ·subst q;rw[if_pos rfl];exact e.symm
 ·rw[if_neg q]
theorem vM(ws:Array Value)(j:Nat):¬bA (W.listOf ws j):=by rintro(⟨e,_⟩|⟨e,_⟩)<;>simp at e
theorem r5:(if "append" = "get" then "dict.get" else "list." ++ "append") = "list.append" := by decide
theorem zX:(if "extend" = "get" then "dict.get" else "list." ++ "extend") = "list.extend" := by decide
theorem Iv:(if "pop" = "get" then "dict.get" else "list." ++ "pop") = "list.pop" := by decide
theorem BX:(if "get" = "get" then "dict.get" else "list." ++ "get") = "dict.get" := by decide
theorem C2{α:Type}{ws:List α}{u:α}{n:Nat}(e:ws.length=n)(h:ws[n-1]? = some u):ws=ws.take (ws.length-1)++[u]:=by
 have h1:=(List.getElem?_eq_some_iff.mp h).1;have h3:=List.take_add_one (l:=ws) (i:=n-1);rw[h,show n-1+1=ws.length by omega,List.take_length]at h3;rw[e];exact h3
theorem C3{m:Nat}{vs:List ae}{y:ae}{z:Value}{r:Except Nat ae×AH}(st:St (af aa w) hW ah ρ H s.heap)(hm:m<H.next)(e1:H.get m=some (.list vs))(vz:bf (af aa w) hW s.heap ρ H.next y z)(he:Ov m vs y H=some r)(hq:bB (af aa w) hW ah s ρ H r Q E):
  wpAny (model aa w) A (call (.builtin "list.append") [.ref (ρ m),z]) Q E s:=by
 refine fX he λhl h1=>?_;have hq:=hq.of h1;refine aO (st.toCells.get hm e1) λws j ho vp=>?_;refine wpAny_list_append_plain ⟨j,ho⟩ (hsz:=jO vp.length hl) λh' hp hs=>?_;refine aV hp ?_;clear hp;intro j' g';have g2:h'.get? (ρ m)=some (W.listOf (ws++[z]).toArray j'):=by rw[g'];simp[W.listOf]
 have nf:¬bA (W.listOf ws.toArray j):=vM _ _;have rel:cg (af aa w) hW h' ρ H.next (.list (vs++[y])) (ρ m):=⟨ws++[z],j',g2,(aP.append (bs:=[y]) (ws:=[z]) vp ⟨vz,trivial⟩).mono (bP hs ho nf) (Nat.le_refl _) λ_ _=>rfl⟩
 exact hq .none ρ h' s.toks (st.setCell hm hs rel) (st.ju hm hs rel) rfl
theorem C4{m:Nat}{y:ae}{z:Value}{r:Except Nat ae×AH}(st:St (af aa w) hW ah ρ H s.heap)(hm:m<H.next)(e1:H.get m=some (.list []))(vz:bf (af aa w) hW s.heap ρ H.next (.tup []) z)(he:ok .none H=some r)(hq:bB (af aa w) hW ah s ρ H r Q E):
  wpAny (model aa w) A (call (.builtin "list.extend") [.ref (ρ m),z]) Q E s:=by
 have hq:=hq.of he;refine aO (st.toCells.get hm e1) λws j ho vp=>?_;refine vz.E λp us z1 z2 vq=>?_;clear vz;subst z1;refine cn z2 ?_;clear z2;intro o i g c d;cases us with
 |cons _ _=>exact vq.elim
 |nil=>cases ws with
  |cons _ _=>exact vp.elim
  |nil=>
   refine call_meets PySem.F.slot_list_extend ⟨_,ho,rfl⟩ PySem.F.entry_list_extend (PySem.F.args_list_extend_2 _ _) (Iu (ρ m) j p o i c d) ⟨ho,g,?_⟩;have hs:Heap.SameBut (ρ m) s.heap (s.heap.update (ρ m) (Obj.mapSeq λx=>x++#[])):=Heap.SameBut.update ..;have g2:=PySem.IsL.update ho λx=>x++#[];have rel:cg (af aa w) hW (s.heap.update (ρ m) (Obj.mapSeq λx=>x++#[])) ρ H.next (.list []) (ρ m):=⟨[],_,g2,trivial⟩
   have stH:St (af aa w) hW ah ρ H (s.heap.update (ρ m) (Obj.mapSeq λx=>x++#[])):=by
    have:=st.setCell hm hs rel
    rwa [AH.set_same e1]at this
   exact hq .none ρ _ s.toks stH (st.ju hm hs rel) rfl
theorem C5{m:Nat}{vs:List ae}{r:Except Nat ae×AH}(st:St (af aa w) hW ah ρ H s.heap)(hm:m<H.next)(e1:H.get m=some (.list vs))(hl:vs.length<=100000){y:ae}(hy:vs.getLast? = some y)(he:ok y (H.set m (.list vs.dropLast))=some r)(hq:bB (af aa w) hW ah s ρ H r Q E):
  wpAny (model aa w) A (call (.builtin "list.pop") [.ref (ρ m)]) Q E s:=by
 have hq:=hq.of he;refine aO (st.toCells.get hm e1) λws j ho vp=>?_;have len:=vp.length;rw[List.getLast?_eq_getElem?]at hy;refine aI (vp.get hy) λu hu vu=>?_;refine call_meets PySem.F.slot_list_pop ⟨_,ho,rfl⟩ PySem.F.entry_list_pop (PySem.F.args_list_pop_1 _) (PySem.MeetsSeq.list_pop_last (ρ m) ws.toArray j u (by rw[List.size_toArray,len];simpa using hu) (jO len hl)) ⟨ho,?_⟩;have hs:Heap.SameBut (ρ m) s.heap (s.heap.update (ρ m) (Obj.mapSeq λxs=>xs.eraseIdxIfInBounds (ws.toArray.size-1))):=Heap.SameBut.update ..;have g2:=PySem.IsL.update ho λxs=>xs.eraseIdxIfInBounds (ws.toArray.size-1);have e2:ws.toArray.eraseIdxIfInBounds (ws.toArray.size-1)=(ws.take (ws.length-1)).toArray:=by
  have hw:=C2 len hu;generalize ws.take (ws.length-1)=pp at hw;subst hw;simpa using kl_erase pp [] u
 rw[e2]at g2;have nf:¬bA (W.listOf ws.toArray j):=vM _ _;have rel:cg (af aa w) hW (s.heap.update (ρ m) (Obj.mapSeq λxs=>xs.eraseIdxIfInBounds (ws.toArray.size-1))) ρ H.next (.list vs.dropLast) (ρ m):=
  ⟨ws.take (ws.length-1),_,g2,by
   have:=(vp.take (vs.length-1)).mono (bP hs ho nf) (Nat.le_refl _) λ_ _=>rfl
   rw[<-List.dropLast_eq_take]at this
   rwa [len]⟩
 exact hq u ρ _ s.toks (st.setCell hm hs rel) (st.ju hm hs rel) (vu.mono (bP hs ho nf) (Nat.le_refl _) λ_ _=>rfl)
theorem qj{o:ae}{a:String}{as:List ae}{x:Value}{xs:List Value}{r:Except Nat ae×AH}(C:Cx A ah n)(sy:(hW.get? sysModules).isSome=true)(st:St (af aa w) hW ah ρ H s.heap)
  (ro:bf (af aa w) hW s.heap ρ H.next o x) (vr:aP (af aa w) hW s.heap ρ H.next as xs) (he:w9 o a as H=some r) (hq:bB (af aa w) hW ah s ρ H r Q E):
  wpAny (model aa w) A (call (.builtin (if a = "get" then "dict.get" else "list." ++ a)) (x::xs)) Q E s:=by
 cases o with
 |ref m=>
  refine ro.E λhm z1=>?_;clear ro;subst z1;refine zC he (λvs e1 h1=>?_) λks vs e1 h1=>?_
  ·refine nS h1 (λz1 h2=>?_) λh2=>?_
   ·clear h1
    subst z1;refine HY h2 λy z1 h3=>?_;clear h2;subst z1;refine jc vr λz z1 vz=>?_;subst z1;rw[r5];exact C3 st hm e1 vz h3 hq
   clear h1;refine nS h2 (λz1 h3=>?_) λh3=>?_
   ·clear h2
    subst z1;refine HY h3 λy z1 h4=>?_;clear h3;subst z1;refine jc vr λz z1 vz=>?_;subst z1;refine LD h4 λz1 h5=>?_;clear h4;subst z1;refine wW h5 λws z1 h6=>?_;clear h5;subst z1;refine LD h6 λz1 h7=>?_;clear h6;subst z1;rw[zX];exact C4 (y:=.none) st hm e1 vz h7 hq
   clear h2;refine fX h3 λz1 h4=>?_;clear h3;subst z1;refine LD h4 λz1 h5=>?_;clear h4;subst z1;refine fX h5 λhl h6=>?_;refine ed h6 λy hy h7=>?_;obtain rfl:xs=[]:=by cases xs with|nil=>rfl|cons _ _=>exact vr.elim
   rw[Iv];exact C5 st hm e1 hl hy h7 hq
  ·clear he
   refine RE h1 λk d z1 h2=>?_;clear h1;subst z1;refine vJ vr λu z z1 vu vz=>?_;subst z1;refine fX h2 λz1 h3=>?_;clear h2;refine bk z1 ?_;clear z1;intro Pl Pm;subst Pl;refine fq (st.toCells.get hm e1) λkvs hD hk BP vp=>?_;rw[BX];exact call_meetsIn PySem.F.slot_dict_get hD.mapOf.typeIs PySem.F.entry_dict_get (PySem.F.args_dict_get_3 _ _ _) (meets_dict_get_default (af aa w) _ (EJ Pm vu) (vG st sy hm) z) ⟨_,hD.mapOf,bH.now (hq.of h3) st ((jP (k:=k) Pm hk BP vp).getD vz)⟩
 |cp ks vs=>
  refine RE he λk d z1 h1=>?_;clear he;subst z1;refine vJ vr λu z z1 vu vz=>?_;subst z1;refine rK h1 λk z1 h2=>?_;clear h1;subst z1;refine fX h2 λz1 h3=>?_;clear h2;subst z1;refine vu.E λt z1=>?_;clear vu;subst z1;refine ro.E λp z1 hs kvs hD hk vp=>?_;clear ro;subst z1;have hM:s.heap.MapOf (af aa w) p (valueAt kvs):=iK hD.mapOf st.stays;rw[BX];exact call_meetsIn PySem.F.slot_dict_get hM.typeIs PySem.F.entry_dict_get (PySem.F.args_dict_get_3 _ _ _) (meets_dict_get_default (af aa w) (k:=some (aK k)) _ (dR k t) (beq_eq_false_iff_ne.mpr hs) z) ⟨_,hM,bH.now (hq.of h3) st ((kY (k:=k) hk vp).getD vz)⟩
 |_=>exact absurd he nn
theorem ck{Pr:Heap->Prop}{f:Value}{first:List Value}{pos:Pos}{es:List aZ}{fs:List Expr}{sc:Scope}(hc:cb gt sc es fs=true)
  (hk:∀h:Heap,Pr h->∃k,(k=Keeper.frame∨k=Keeper.machine∨k=Keeper.boundFrame)∧Looks (model aa w) h (keeperOf f) k)
  (h:wpAny (model aa w) A (spliced (backTo pos (starEach fs env))) (λvs aS=>Pr aS.heap∧wpAny (model aa w) A (call f (first++vs)) Q E aS) E s):
  wpAny (model aa w) A (callWith pos f first (backTo pos (starEach fs env)) []) Q E s:=by
 refine callWith_of (P:=Pr) (by rw[r4 hc];rfl) hk ?_;cases fs with
 |nil=>
  unfold evalArgs;show wpAny (model aa w) A (spliced [] >>= _) _ E s;refine wpAny_bind (wpAny_mono h (λvs aS hv=>wpAny_bind (wpAny_pure ?_)) λ_ _ x=>x);refine wpAny_holding ?_;exact wpAny_bind (wpAny_pure (wpAny_bind (wpAny_pure (wpAny_pure hv))))
 |cons g fs=>
  cases es with
  |nil=>exact absurd hc ff
  |cons e es=>
   have h1:=(az (az hc).1).1;rw[cj h1,dk]at h ⊢;exact Calls.evalArgs_plain h
noncomputable def Keeps(K:Frag)(F:dQ):Prop:=∀f as H r,F f as H=some r->keepIn K (.ref f)=true
theorem qk{f:ae}{g:Value}{as:List ae}{xs:List Value}{r:Except Nat ae×AH}(SF:jR aa w hW F n)(C:Cx A ah n)(sy:(hW.get? sysModules).isSome=true)(st:St (af aa w) hW ah ρ H s.heap)
  (rf:bf (af aa w) hW s.heap ρ H.next f g) (vr:aP (af aa w) hW s.heap ρ H.next as xs) (he:eK F f as H=some r) (hq:bB (af aa w) hW ah s ρ H r Q E):wpAny (model aa w) A (call g xs) Q E s:=by
 cases f with
 |top f=>obtain rfl:g=_:=rf;exact SF _ as H r A ah s ρ xs Q E he C st vr hq
 |bi f=>obtain rfl:g=_:=rf;exact xB C sy st vr he hq
 |_=>exact absurd he nn
theorem ql{f:ae}{g:Value}{as:List ae}{r:Except Nat ae×AH}{h:Heap}{N:Nat}(KF:Keeps K F)(X:K.In hW)(rf:bf (af aa w) hW h ρ N f g)(he:eK F f as H=some r):
  ∀h:Heap,hW.StaysIn h->∃k,(k=Keeper.frame∨k=Keeper.machine∨k=Keeper.boundFrame)∧Looks (model aa w) h (keeperOf g) k:=by
 intro h hs;cases f with
 |top f=>obtain rfl:g=_:=rf;exact keeps_K (KF _ _ _ _ he) h (X.keeps hs)
 |bi f=>obtain rfl:g=_:=rf;exact nj (xC he) h
 |_=>exact absurd he nn
theorem ma{f:Expr}{args:List Expr}{pos:Pos}(h:noAttr f=true):eval (.Call f args [] pos) env=(do callWith pos (<-eval f env) [] (backTo pos (starEach args env)) (backToKw pos (keywordEach [] env))):=by
 cases f<;>first|rfl|exact absurd h ff
theorem E4(SF:jR aa w hW F n)(KF:Keeps K F)(X:K.In hW)(sy:(hW.get? sysModules).isSome=true){f:aZ}{es:List aZ}(h1:(aG (af aa w) hW gt P F n) f)(h2:(fF (af aa w) hW gt P F n) es):(aG (af aa w) hW gt P F n) (.call f es):=by
 intro e' A ah env l s ρ H r Q E hc N he hq;refine rU hc λg fs SN pos z1 k1=>?_;clear hc;subst z1;have c1:=(az (aL (aL ((az k1).1)))).2;have c2:=(aR (aL ((az k1).1)))
 have c3:=(aR ((az k1).1))
 obtain rfl:=bF (az (aL (aL ((az k1).1)))).1;refine bB.dn (Q':=λy aS=>wpAny (model aa w) A (callWith pos y [] (backTo pos (starEach fs env)) []) Q E aS) he N hq (by
  intro v H₁ _ f1 x aq ay t₁ aN bL br aM
  refine cX (r:=cA P F es l H₁) f1 (λvs bU e2 f2=>?_) λc bU e2 f2=>?_
  ·refine ck (Pr:=λh=>hW.StaysIn h) c3 (ql KF X br f2) ?_
   refine h2 fs pos A ah env l _ aq H₁ _ _ _ c3 aN e2 ?_
   intro xs b9 bV jK bO bh cf
   exact⟨bO.stays,qk SF aN.cx sy bO (bh.i0 br) cf f2 (aM.after bh)⟩
  ·subst f2
   refine ck (Pr:=λ_=>False) c3 (λ_ h=>h.elim) ?_
   exact h2 fs pos A ah env l _ aq H₁ _ _ _ c3 aN e2 aM) λbX e1 o1=>?_
 exact Call_ (h1 g A ah env l s ρ H bX _ E c2 N e1 o1) (ma c1)
theorem xD{c:Callee}{fx:Value×List Value}{as:List ae}{xs:List Value}{r:Except Nat ae×AH}(SF:jR aa w hW F n)(C:Cx A ah n)(sy:(hW.get? sysModules).isSome=true)(st:St (af aa w) hW ah ρ H s.heap)
  (rc:vK (aa:=aa) (w:=w) hW s.heap ρ H.next c fx) (vr:aP (af aa w) hW s.heap ρ H.next as xs) (he:callC F c as H=some r) (hq:bB (af aa w) hW ah s ρ H r Q E):wpAny (model aa w) A (call fx.1 (fx.2++xs)) Q E s:=by
 obtain⟨f,first⟩:=fx;cases c with
 |fn f o=>
  obtain⟨e1,x,e2,vx⟩:=rc;dsimp only at e1 e2 ⊢;subst e1 e2;exact SF _ _ H r A ah s ρ _ Q E he C st ⟨vx,vr⟩ hq
 |val v=>
  obtain⟨e1,vx⟩:=rc;dsimp only at e1 vx ⊢;subst e1;exact qk SF C sy st vx vr he hq
 |jI o a=>
  obtain⟨e1,x,e2,vx⟩:=rc;dsimp only at e1 e2 ⊢;subst e1 e2;exact qj C sy st vx vr he hq
theorem xE{c:Callee}{fx:Value×List Value}{as:List ae}{r:Except Nat ae×AH}{h:Heap}{N:Nat}(KF:Keeps K F)(X:K.In hW)(rc:vK (aa:=aa) (w:=w) hW h ρ N c fx)(he:callC F c as H=some r):
  ∀h:Heap,hW.StaysIn h->∃k,(k=Keeper.frame∨k=Keeper.machine∨k=Keeper.boundFrame)∧Looks (model aa w) h (keeperOf fx.1) k:=by
 intro h hs;obtain⟨f,first⟩:=fx;cases c with
 |fn f o=>
  obtain⟨e1,x,e2,vx⟩:=rc;dsimp only at e1 e2 ⊢;subst e1 e2;exact keeps_K (KF _ _ _ _ he) h (X.keeps hs)
 |val v=>
  obtain⟨e1,vx⟩:=rc;dsimp only at e1 vx ⊢;subst e1;exact ql KF X vx he h hs
 |jI o a=>
  obtain⟨e1,x,e2,vx⟩:=rc;dsimp only at e1 e2 ⊢;subst e1 e2;exact nj (.inl ⟨_,rfl⟩) h
theorem E5{sc:Scope}{es:List aZ}{fs:List Expr}{pos:Pos}(hc:cb gt sc es fs=true)(hl:es.length<=20):methodCallForm (fs.length+([]:List Keyword).length) (backTo pos (starEach fs env)) []=true:=by
 unfold methodCallForm;have h1:(backTo pos (starEach fs env)).all (!·.1)=true:=by
  have:=r4 (pos:=pos) (env:=env) hc;rw[List.all_eq_true];intro x hx;have h2:=List.any_eq_false.mp this x hx;simpa using h2
 rw[h1];have:=oo hc;simp;omega
theorem kq{o:Expr}{name:Str}{apos pos:Pos}{sc:Scope}{es:List aZ}{args:List Expr}(hb:lZ o=true)(hc:cb gt sc es args=true)(hl:es.length<=20)(E6:(apos.endLine==pos.line)=true)
  (h:wpAny (model aa w) A (eval o env) (λov aS=>wpAny (model aa w) A (getMethod ov name (do return (<-importBound o env).getD true)) (λfx cz=>wpAny (model aa w) A (callWith pos fx.1 fx.2 (backTo pos (starEach args env)) []) Q E cz) E aS) E s):
  wpAny (model aa w) A (eval (.Call (.Attribute o name apos) args [] pos) env) Q E s:=by
 rw[arm_eval_Call,gw hb];refine wpAny_bind (wpAny_mono h (λov aS ay=>?_) λ_ _ e=>e);refine wpAny_bind (wpAny_standAt ?_);have Pn:methodCallForm (args.length+([]:List Keyword).length) (backTo pos (starEach args env)) (backToKw pos (keywordEach [] env))=true:=E5 hc hl;have SQ:methodCallPos true o env apos pos=pure pos:=by unfold methodCallPos;simp[E6]
 unfold methodCall;rw[Pn];refine wpAny_bind (wpAny_holding ?_);unfold calleeOf;rw[if_pos rfl];refine wpAny_mono ay (λfx cz bV=>?_) λ_ _ e=>e;exact wpAny_bind (wpAny_of_eq SQ bV)
theorem C6(M:gE P K hW)(SF:jR aa w hW F n)(KF:Keeps K F)(sy:(hW.get? sysModules).isSome=true){o:aZ}{a:String}{es:List aZ}(h1:(aG (af aa w) hW gt P F n) o)(h2:(fF (af aa w) hW gt P F n) es):(aG (af aa w) hW gt P F n) (.aE o a es):=by
 intro e' A ah env l s ρ H r Q E hc N he hq;refine rU hc λg fs SN pos z1 k0=>?_;clear hc;subst z1;obtain rfl:=bF (az k0).1;refine pz (az k0).2 λp b apos z1 k1=>?_;clear k0;subst z1;obtain rfl:=eq_of_beq (az (aL (aL (aL (aL k1))))).1;have c1:=(az (aL (aL (aL (aL k1))))).2;have c2:=(aR (aL (aL (aL k1))))
 have c3:=(aR (aL (aL k1)))
 have c4:=(aR (aL k1))
 have c5:=of_decide_eq_true (aR k1);refine bB.dn (Q':=λov aS=>wpAny (model aa w) A (getMethod ov (aK a) (do return (<-importBound p env).getD true)) (λfx cz=>wpAny (model aa w) A (callWith pos fx.1 fx.2 (backTo pos (starEach fs env)) []) Q E cz) E aS) he N hq (by
  intro v H₁ _ f1 x aq ay t₁ aN bL br aM
  refine ed f1 λc SR f1=>?_
  ·refine vL M aN.st br SR λfx t Po=>?_
   have Ki:ja (af aa w) hW A ah n env l aq H₁ ({ s with heap:=ay,toks:=t }:Shared).heap:=aN
   have gv:bB (af aa w) hW ah { s with heap:=ay,toks:=t } aq H₁ r Q E:=aM.after .refl
   refine cX (r:=cA P F es l H₁) f1 (λvs bU e2 f2=>?_) λc' bU e2 f2=>?_
   ·refine ck (Pr:=λh=>hW.StaysIn h) c4 (xE KF M.uD Po f2) ?_
    refine h2 fs pos A ah env l _ aq H₁ _ _ _ c4 Ki e2 ?_
    intro xs b9 bV jK bO bh cf
    have L8:vK (aa:=aa) (w:=w) hW bV b9 bU.next c fx:=by
     cases c with
     |fn f o=>obtain⟨e1,x,e2,vx⟩:=Po;exact⟨e1,x,e2,bh.i0 vx⟩
     |val v=>exact⟨Po.1,bh.i0 Po.2⟩
     |jI o a=>obtain⟨e1,x,e2,vx⟩:=Po;exact⟨e1,x,e2,bh.i0 vx⟩
    exact⟨bO.stays,xD SF aN.cx sy bO L8 cf f2 (gv.after bh)⟩
   ·subst f2
    refine ck (Pr:=λ_=>False) c4 (λ_ h=>h.elim) ?_
    exact h2 fs pos A ah env l _ aq H₁ _ _ _ c4 Ki e2 gv) λbX e1 o1=>?_
 exact kq c1 c4 c5 c2 (h1 p A ah env l s ρ H bX _ E c3 N e1 o1)
end
structure tu(hW:Heap)(fr:List Addr)(Z:Addr->Prop)(h h':Heap):Prop where
 keep:∀b o,h.get? b=some o->¬Z b->b∉fr->h'.get? b=some o
 frame:∀b o,h.get? b=some o->¬Z b->∃sl,h'.get? b=some { o with slots:=sl }
 data:∀b o,Z b->h.get? b=some o->¬bA o∧(∃vs,o.data=.fields vs)∧∃o',h'.get? b=some o'
 fresh:∀b,Z b->hW.get? b=none
theorem fG{o:Obj}{c:Addr}(h:o.cls=.ref c):¬bA o:=by rintro(⟨e,_⟩|⟨e,_⟩)<;>rw[h]at e<;>cases e
theorem oq{o:Obj}(h:o.cls=.type "traceback"):¬bA o:=by rintro(⟨e,_⟩|⟨e,_⟩)<;>rw[h]at e<;>simp at e
section
variable{aa:Program}{w:World}{knd:KeyKind aa w (Option Str)}{hW h h':Heap}{ρ:Nat->Addr}{N:Nat}{ah:List Env}{H:AH}{X Z:Addr->Prop}{fr:List Addr}
theorem tu.upTo(j:tu hW fr Z h h'):h.UpToSlots h':=λb o e d=>j.frame b o e λz=>by
 obtain⟨_,⟨vs,q⟩,_⟩:=j.data b o z e;exact d vs q
theorem tu.eg(j:tu hW fr Z h h'):iC h h':=λb o e f=>j.frame b o e λz=>(j.data b o z e).1 f
theorem tu.step(j:tu hW fr Z h h')(hZ:∀b,Z b->X b):Step X fr ρ N h ρ N h':=
 { (Step.refl:Step X fr ρ N h ρ N h)with
  keep:=λb o e _ hX hf=>j.keep b o e (λz=>hX (hZ b z)) hf
  frame:=λb o e _ hX=>j.frame b o e λz=>hX (hZ b z)
  live:=λb e=>by
   cases q:h.get? b with
   |none=>rfl
   |some o=>
    by_cases z:Z b
    ·obtain⟨_,_,o',e'⟩:=j.data b o z q;rw[e']at e;exact absurd e.symm nn
    ·obtain⟨sl,e'⟩:=j.frame b o q z;rw[e']at e;exact absurd e.symm nn
  eg:=j.eg }
theorem tu.st(j:tu hW (bl ah) Z h h')(x:St knd hW ah ρ H h):St knd hW ah ρ H h' where
 at_ n hn:=by
  refine x.wK n hn λob e r=>?_;refine r.there λoc g _ d=>?_;refine⟨ob,e,r.mono j.eg (Nat.le_refl _) (λ_ _=>rfl) ((j.keep _ _ g (λz=>?_) (x.qM n hn)).trans g.symm)⟩;refine dw (j.data _ _ z g) λ_ Kj _=>?_;refine aV Kj ?_;clear Kj;intro vs q;exact d vs q
 inj:=x.inj
 out:=x.out
 stays b o e:=j.keep b o (x.stays b o e) (λz=>by rw[j.fresh b z]at e;cases e) λm=>by rw[(FunFrames.vw x.bW m).1]at e;exact absurd e nn
 bW:=FunFrames.nU (λb o e d=>by
  have nz:¬Z b:=λz=>by obtain⟨_,⟨vs,q⟩,_⟩:=j.data b o z e;exact d vs q
  refine aV (j.frame b o e nz) λsl e'=>?_
  exact⟨_,e',d⟩) x.bW
 qM:=x.qM
end
noncomputable abbrev kO(h0:Heap):Addr->Prop:=λb=>h0.get? b=none
noncomputable def qm(h0 h:Heap)(e:Addr)(c:Nat):Prop:=mZ h0 h e c∨ExcAt h0 h e c
theorem eu(o:Obj)(f:Array Value->Array Value):(o.mapFields f).cls=o.cls:=Obj.cls_mapFields ..
theorem eS(o:Obj)(f:Array Value->Array Value):(o.mapFields f).dict=o.dict:=by
 obtain⟨c,d,dt,sl⟩:=o;cases dt<;>rfl
section
variable{M:Model}{A:Around}{E:Value->Shared->Prop}{s:Shared}
structure Entry(h h':Heap)(fr:List Addr)(e:Addr)(oe mH:Obj)(vs:Array Value)(T:Addr)(oT:Obj)(ts:Array Value):Prop where
 keep:∀b o,b≠e->h.get? b=some o->b∉fr->h'.get? b=some o
 slots:∀b o,b≠e->h.get? b=some o->∃sl,h'.get? b=some { o with slots:=sl }
 at_:h'.get? e=some mH
 cls:mH.cls=oe.cls
 lY:mH.dict=oe.dict
 data:mH.data=.fields (vs.setIfInBounds 1 (.ref T))
 tb:OP h h' e (vs.setIfInBounds 1 (.ref T)) T oT ts
theorem uF{base:Heap}{env:Env}{ah:List Env}{L e:Addr}{oe:Obj}{vs:Array Value}{head:Value}{Iw:Bool}{Q:Unit->Shared->Prop}
  (rQ:A.frames=some ah) (hl:s.heap.FunFrames base ah) (hf:env.frame=some L) (hh:(bl ah).head? = some L)
  (he:s.heap.get? e=some oe) (hd:oe.data=.fields vs) (hsz:1<vs.size)
  (h:∀h' T oT ts mH,Entry s.heap h' (bl ah) e oe mH vs T oT ts->Q () { s with heap:=h' }):
  wpAny M A (do let a <-PySem.frameOf env;let pl <-entryPlaceOf L Iw;let b <-EntryCells.newEntry head a .none (rawInt L) .none pl;setField (.ref e) 1 b) Q E s:=by
 cases ah with
 |nil=>simp[bl]at hh
 |cons Pp outer=>
 refine dw (id hl) λ_ Kk _=>?_;refine pk Kk ?_;clear Kk;intro L0 o0 SS _ _ _;have:L0=L:=by simp[bl,SS]at hh;exact hh
 subst this;have SU:e∉bl (Pp::outer):=λhm=>by
  refine FunFrames.fN hl hm λ_ o ho RN=>?_;rw[he]at ho;injection ho with ho;subst ho;exact RN vs hd
 have ef:PySem.frameOf env=PySem.frameOf Pp:=by unfold PySem.frameOf;rw[hf,SS]
 rw[ef];refine wpAny_bind (wpAny_frameOf_fun rQ hl SS λay mI=>?_);refine wpAny_bind (wpAny_entryPlaceOf λpl Iy=>?_);unfold EntryCells.newEntry newFields;refine wpAny_bind (wpAny_newObj_type ?_ (Iy.sizeOk5 _ _ _ _ _));have Kl:ay.get? e=some oe:=(mI.2.1 e SU).trans he;have Km:=Heap.get?_push_of_some (h:=ay) { cls:=.type "traceback",dict:=none,data:=.fields ([head,.ref L0,.none,rawInt L0,.none]++(if pl.isEmpty then List.replicate 6 Value.none else pl)).toArray } Kl;have VC:ay.objs.size≠e:=Nat.ne_of_gt (Heap.lt_size Kl);have Ko:=Obj.data_mapFields hd (·.setIfInBounds 1 (Value.ref ay.objs.size));have Pq:=Heap.get?_update_self (Obj.mapFields (·.setIfInBounds 1 (Value.ref ay.objs.size))) Km (Obj.isFreed_of_fields Ko);have Pt:=(Heap.get?_update_other (ay.push { cls:=.type "traceback",dict:=none,data:=.fields ([head,.ref L0,.none,rawInt L0,.none]++(if pl.isEmpty then List.replicate 6 Value.none else pl)).toArray })
  (Obj.mapFields (·.setIfInBounds 1 (Value.ref ay.objs.size))) (Ne.symm VC)).trans (Heap.get?_push_size ay rfl)
 have keep:∀b o,b≠e->ay.get? b=some o->
   ((ay.push { cls:=.type "traceback",dict:=none,data:=.fields ([head,.ref L0,.none,rawInt L0,.none]++(if pl.isEmpty then List.replicate 6 Value.none else pl)).toArray }).update e (Obj.mapFields (·.setIfInBounds 1 (Value.ref ay.objs.size)))).get? b=some o:=
  λb o W2 hb=>by
   rw[Heap.get?_update_other _ _ (Ne.symm W2)];exact Heap.get?_push_of_some _ hb
 refine wpAny_setField Km hd hsz (h _ ay.objs.size _ _ _ ⟨λb o hb e' W3=>keep b o hb ((mI.2.1 b W3).trans e'),λb o hb e'=>?_,Pq,eu _ _,eS _ _,Ko,by simp[hsz],?_,VC,Pt,rfl,rfl,?_⟩)
 ·refine aV (mI.2.2 b o e') λsl q=>?_
  exact⟨sl,keep b _ hb q⟩
 ·rw[mI.1];exact cC _
 ·simp only[List.size_toArray,List.length_append,List.length_cons,List.length_nil];omega
end
section
variable{aa:Program}{w:World}{knd:KeyKind aa w (Option Str)}{hW:Heap}{A:Around}{ah:List Env}{env:Env}{s:Shared}{ρ:Nat->Addr}{H:AH}{E:Value->Shared->Prop}
structure tH(hW:Heap)(ah:List Env)(h0 h:Heap):Prop where
 stays:hW.StaysIn h0
 bW:h0.FunFrames hW ah
 live:∀b,h.get? b=none->h0.get? b=none
theorem tH.Iz{hW h0 h:Heap}{ah:List Env}(f:tH hW ah h0 h){b:Addr}(hb:h0.get? b=none):hW.get? b=none:=by
 cases q:hW.get? b with
 |none=>rfl
 |some o=>rw[f.stays b o q]at hb;cases hb
theorem tH.Kp{hW h0 h:Heap}{ah:List Env}(f:tH hW ah h0 h){b:Addr}(hb:h0.get? b=none):b∉bl ah:=λm=>by
 refine FunFrames.fN f.bW m λ_ o g _=>?_;rw[hb]at g;exact absurd g nn
theorem tD.Kq{h0 h h':Heap}{e dx T:Addr}{c:Nat}{oe mH oT:Obj}{vs ts:Array Value}{fr:List Addr}(o:tD h0 h e c oe vs dx)(E:Entry h h' fr e oe mH vs T oT ts)(live:∀b,h.get? b=none->h0.get? b=none)(nf:dx∉fr):ExcAt h0 h' e c:=
 λ_ q=>q mH _ dx T oT ts (o.map (λ_ z=>z) E.at_ (λes i z=>E.keep dx _ (o.RJ o.at_ o.data) z nf) E.cls E.lY E.data (Array.getElem?_setIfInBounds_ne (by decide))) ⟨E.tb.ref,live _ E.tb.new,E.tb.ne,E.tb.at_,E.tb.data,E.tb.cls,E.tb.sz⟩
theorem eG{h0:Heap}{e:Addr}{c:Nat}{L:Addr}{Q:Unit->Shared->Prop}(rQ:A.frames=some ah)(hf:env.frame=some L)(hh:(bl ah).head? = some L)(fm:tH hW ah h0 s.heap)(st:St knd hW ah ρ H s.heap)(x:qm h0 s.heap e c)
  (hQ:∀h',St knd hW ah ρ H h'->Step (kO h0) (bl ah) ρ H.next s.heap ρ H.next h'->ExcAt h0 h' e c->s.heap.UpToSlots h'->Q () { s with heap:=h' }):wpAny (model aa w) A (noteFrame (.ref e) env) Q E s:=by
 unfold noteFrame;simp only[hf];refine dZ x (λx=>?_) λx=>?_
 ·refine x _ λoe vs dx o h1=>?_
  have hsz:1<vs.size:=(Array.getElem?_eq_some_iff.mp h1).1;refine wpAny_bind (wpAny_field o.at_ o.data h1 ?_);rw[if_neg (by decide)];refine uF rQ st.bW hf hh o.at_ o.data hsz λh' T oT ts mH E=>?_;have j:tu hW (bl ah) (λb=>b=e) s.heap h':=⟨λb o q z f=>E.keep b o z q f,λb o q z=>E.slots b o z q,λb ob z q=>by cases z;cases o.at_.symm.trans q;exact⟨fG o.cls,⟨_,o.data⟩,_,E.at_⟩,λb z=>z▸fm.Iz o.new⟩
  exact hQ h' (j.st st) (j.step λb z=>z▸o.new) (o.Kq E fm.live (fm.Kp o.ED)) j.upTo
 ·refine id x _ λoe vs dx T oT ts o t=>?_
  have hsz:1<vs.size:=(Array.getElem?_eq_some_iff.mp t.ref).1;refine wpAny_bind (wpAny_field o.at_ o.data t.ref ?_);rw[if_pos (show(Value.ref T != Value.none)=true from rfl)];refine wpAny_bind (wpAny_field t.at_ t.data (Array.getElem?_eq_getElem t.sz) ?_)
  by_cases q:(ts[3]'t.sz==rawInt L)=true
  ·rw[if_pos q]
   exact wpAny_pure (hQ s.heap st .refl x (.refl _))
  ·rw[if_neg q]
   refine wpAny_bind (wpAny_setField t.at_ t.data t.sz ?_);have other:∀b,b≠T->(s.heap.update T (Obj.mapFields (·.setIfInBounds 3 Value.none))).get? b=s.heap.get? b:=λb hb=>Heap.get?_update_other _ _ (Ne.symm hb);have gT:=Heap.get?_update_self (Obj.mapFields (·.setIfInBounds 3 Value.none)) t.at_ (Obj.isFreed_of_fields (Obj.data_mapFields t.data _));generalize s.heap.update T (Obj.mapFields (·.setIfInBounds 3 Value.none))=h2 at *;have o2:tD h0 h2 e c oe vs dx:=o.map (λ_ z=>z) ((other e (Ne.symm t.ne)).trans o.at_) (λes i z=>(other dx (o.RJ t.at_ t.data)).trans z) rfl rfl o.data rfl;have ff:h2.FunFrames hW ah:=FunFrames.nU (λb o hb RN=>⟨o,(other b λq=>by cases t.at_.symm.trans (q▸hb);exact RN ts t.data).trans hb,RN⟩) st.bW;have Pu:∀b,h2.get? b=none->s.heap.get? b=none:=λb g=>by
    by_cases y:b=T
    ·cases g.symm.trans (y▸gT)
    ·exact(other b y).symm.trans g
   refine uF (s:={ s with heap:=h2 }) rQ ff hf hh o2.at_ o.data hsz λh' T' ZM ZN mH E=>?_;have j:tu hW (bl ah) (λb=>b=e∨b=T) s.heap h':=⟨λb o q z f=>E.keep b o (λy=>z (.inl y)) ((other b λy=>z (.inr y)).trans q) f,λb o q z=>E.slots b o (λy=>z (.inl y)) ((other b λy=>z (.inr y)).trans q),
    λb ob z q=>z.elim (λz=>by cases z;cases o.at_.symm.trans q;exact⟨fG o.cls,⟨_,o.data⟩,_,E.at_⟩) λz=>by cases z;cases t.at_.symm.trans q;exact⟨oq t.cls,⟨_,t.data⟩,(E.slots T _ t.ne gT).imp' _ λ_ z=>z⟩,λb z=>z.elim (λz=>z▸fm.Iz o.new) λz=>z▸fm.Iz t.new⟩
   exact hQ h' (j.st st) (j.step λb z=>z.elim (λz=>z▸o.new) λz=>z▸t.new) (o2.Kq E (λb z=>fm.live b (Pu b z)) (fm.Kp o.ED)) j.upTo
theorem dr{h0:Heap}{e:Addr}{c:Nat}{fo:Option Addr}{Q:Unit->Shared->Prop}(fm:tH hW ah h0 s.heap)(st:St knd hW ah ρ H s.heap)(x:ExcAt h0 s.heap e c)
  (hQ:∀h',St knd hW ah ρ H h'->Step (kO h0) (bl ah) ρ H.next s.heap ρ H.next h'->ExcAt h0 h' e c->s.heap.UpToSlots h'->Q () { s with heap:=h' }):wpAny (model aa w) A (setFlight (.ref e) fo) Q E s:=by
 refine x _ λoe vs dx T oT ts o t=>?_;unfold setFlight;refine wpAny_bind (wpAny_field o.at_ o.data t.ref ?_);rw[if_pos (show(Value.ref T != Value.none)=true from rfl)];refine wpAny_setField t.at_ t.data t.sz ?_;have other:∀b,b≠T->(s.heap.update T (Obj.mapFields (·.setIfInBounds 3 (fo.elim Value.none λf=>rawInt f)))).get? b=s.heap.get? b:=λb hb=>Heap.get?_update_other _ _ (Ne.symm hb);have gT:=Heap.get?_update_self (Obj.mapFields (·.setIfInBounds 3 (fo.elim Value.none λf=>rawInt f))) t.at_ (Obj.isFreed_of_fields (Obj.data_mapFields t.data _));generalize s.heap.update T (Obj.mapFields (·.setIfInBounds 3 (fo.elim Value.none λf=>rawInt f)))=h2 at *;have j:tu hW (bl ah) (λb=>b=T) s.heap h2:=⟨λb o q z f=>(other b z).trans q,λb o q z=>⟨o.slots,(other b z).trans q⟩,λb o z q=>by cases z;cases t.at_.symm.trans q;exact⟨oq t.cls,⟨_,t.data⟩,_,gT⟩,λb z=>z▸fm.Iz t.new⟩
 exact hQ h2 (j.st st) (j.step λb z=>z▸t.new) (λ_ q=>q oe vs dx T _ _ (o.map (λ_ z=>z) ((other e (Ne.symm t.ne)).trans o.at_) (λes i z=>(other dx (o.RJ t.at_ t.data)).trans z) rfl rfl o.data rfl)
  ⟨t.ref,t.new,t.ne,gT,Obj.data_mapFields t.data _,(eu _ _).trans t.cls,by rw[Array.size_setIfInBounds];exact t.sz⟩) j.upTo
theorem Kr{h0 h:Heap}{e:Addr}{c:Nat}{Q:Bool->Shared->Prop}(x:ExcAt h0 s.heap e c)(hQ:Q false s):wpAny (model aa w) A (do return (<-field (.ref e) 1)==.none) Q E s:=
 x _ λoe vs dx T oT ts o t=>wpAny_bind (wpAny_field o.at_ o.data t.ref (wpAny_pure hQ))
theorem kZ{h0:Heap}{e:Addr}{c:Nat}(fm:tH hW ah h0 s.heap)(st:St knd hW ah ρ H s.heap)(x:ExcAt h0 s.heap e c)
  (hQ:∀h',St knd hW ah ρ H h'->Step (kO h0) (bl ah) ρ H.next s.heap ρ H.next h'->ExcAt h0 h' e c->s.heap.UpToSlots h'->E (.ref e) { s with heap:=h' }):cameBackBy (model aa w) A env E (.ref e) s:=by
 refine id x _ λoe vs dx T oT ts o t=>?_;unfold cameBackBy;refine wpAny_bind (wpAny_field o.at_ o.data t.ref ?_);rw[if_neg (show ¬(Value.ref T==Value.none)=true from Bool.false_ne_true)];exact dr fm st x hQ
theorem ot{α:Type}{Pw:String}{Q:α->Shared->Prop}{h0:Heap}{e:Addr}{c:Nat}(fm:tH hW ah h0 s.heap)(st:St knd hW ah ρ H s.heap)(x:ExcAt h0 s.heap e c)
  (hQ:∀h',St knd hW ah ρ H h'->Step (kO h0) (bl ah) ρ H.next s.heap ρ H.next h'->ExcAt h0 h' e c->s.heap.UpToSlots h'->E (.ref e) { s with heap:=h' }):wpAny (model aa w) A (PySem.passOn Pw (.ref e) env:Sem α) Q E s:=by
 refine id x _ λoe vs dx T oT ts o t=>?_;unfold PySem.passOn;refine wpAny_bind (wpAny_field o.at_ o.data t.ref ?_);rw[if_neg (show ¬(Value.ref T==Value.none)=true from Bool.false_ne_true)];exact wpAny_bind (dr fm st x λh' a b c d=>wpAny_throw (hQ h' a b c d))
end
theorem xF(r:Addr)(a b c:Int)(t u v:Tok)(sl:Array (Option Value))(VD:¬(!(Builtin.Range.rangeFitsLong a&&Builtin.Range.rangeFitsLong b&&Builtin.Range.rangeFitsLong c&&Builtin.Range.rangeFitsLong (Builtin.Range.rangeSize a b c)&&(Builtin.Range.rangeSize a b c==0 || if c>0 then Builtin.Range.rangeFitsLong (b+(c-1))else Builtin.Range.rangeFitsLong (b+(c+1)))))=true):
  Meets (Builtin.«range.__iter__» ⟨[.ref r],[]⟩) (λ_ R s=>s.heap.get? r=some { cls:=.type "range",dict:=none,data:=.fields #[.int a t,.int b u,.int c v],slots:=sl }∧R (.ok (.ret (Value.ref s.heap.objs.size))) { s with heap:=s.heap.push { cls:=Value.type (if(Builtin.Range.rangeFitsLong a&&Builtin.Range.rangeFitsLong b&&Builtin.Range.rangeFitsLong c&&Builtin.Range.rangeFitsLong (Builtin.Range.rangeSize a b c)&&(Builtin.Range.rangeSize a b c==0 || if c>0 then Builtin.Range.rangeFitsLong (b+(c-1))else Builtin.Range.rangeFitsLong (b+(c+1))))=true then "range_iterator" else "longrange_iterator"),data:=Data.fields #[rawInt a,rawInt (Builtin.Range.rangeSize a b c),rawInt c] },toks:=s.toks }):=
 .of_wp λaa w A R s h=>by obtain⟨hp,g,d,tk,os⟩:=s;obtain⟨hl,h⟩:=h;wp_walk;exact⟨_,rfl,h⟩
theorem qo(n:Nat):Builtin.Range.rangeSize 0 n 1=n:=by
 unfold Builtin.Range.rangeSize;split
 ·split
  ·omega
  ·omega
 ·omega
section
variable{aa:Program}{w:World}(knd:KeyKind aa w (Option Str))
noncomputable def cJ(hW h:Heap)(ρ:Nat->Addr)(N:Nat)(it:Addr):Iter->Prop
 | .seq vs=>∃t items i,h.IsTupleIter it t i∧h.TupAt t items∧aP knd hW h ρ N vs (items.drop i)
 | .lst n i=>n<N∧h.IsListIter it (ρ n) i
 | .nR i n=>i<=n∧IsRangeIter h it (i:Int) ((n:Int)-(i:Int)) 1
end
section
variable{aa:Program}{w:World}{knd:KeyKind aa w (Option Str)}{hW h h' h0:Heap}{ρ bq:Nat->Addr}{N N':Nat}{ah:List Env}{H:AH}{X:Addr->Prop}{fr:List Addr}{it:Addr}{i:Iter}
theorem cJ.there{C:Prop}(x:cJ knd hW h ρ N it i)(k_:∀o,∀vs,h.get? it=some o->o.data=.fields vs->¬bA o->C):C:=by
 cases i with
 |seq vs=>obtain⟨t,items,k,⟨o,e,c,d⟩,_⟩:=x;exact k_ o _ e d (by rintro(⟨q,_⟩|⟨q,_⟩)<;>rw[c]at q<;>simp at q)
 |lst n k=>obtain⟨_,o,e,c,d⟩:=x;exact k_ o _ e d (by rintro(⟨q,_⟩|⟨q,_⟩)<;>rw[c]at q<;>simp at q)
 |nR k n=>obtain⟨_,e⟩:=x;exact k_ _ _ e rfl (by rintro(⟨q,_⟩|⟨q,_⟩)<;>simp at q)
theorem cJ.mono(st:iC h h')(le:N<=N')(ag:∀n,n<N->bq n=ρ n)(k:∀o,h.get? it=some o->h'.get? it=some o)(x:cJ knd hW h ρ N it i):cJ knd hW h' bq N' it i:=by
 cases i with
 |seq vs=>obtain⟨t,items,j,⟨o,e,c,d⟩,tp,vr⟩:=x;exact⟨t,items,j,⟨o,k _ e,c,d⟩,st.tup tp,vr.mono st le ag⟩
 |lst n j=>obtain⟨hn,o,e,c,d⟩:=x;exact⟨Nat.lt_of_lt_of_le hn le,o,k _ e,c,by rw[ag n hn];exact d⟩
 |nR j n=>obtain⟨hj,e⟩:=x;exact⟨hj,k _ e⟩
theorem cJ.step(s:Step X fr ρ N h bq N' h')(hc:∀n,n<N->ρ n≠it)(hX:¬X it)(hf:it∉fr)(x:cJ knd hW h ρ N it i):cJ knd hW h' bq N' it i∧∀n,n<N'->bq n≠it:=by
 refine x.there λo vs e _ _=>?_;refine⟨x.mono s.eg s.le s.old λo e=>s.keep _ o e hc hX hf,λn hn q=>?_⟩;refine dZ (Nat.lt_or_ge n N) (λz=>?_) λz=>?_
 ·exact hc n z ((s.old n z).symm.trans q)
 ·have:=s.new n z hn;rw[q,e]at this;exact absurd this.symm nn
theorem r6(x:cJ knd hW h ρ N it i)(hs:Heap.SameBut it h h')(hw:hW.get? it=none){o':Obj}(g:h'.get? it=some o'):tu hW fr (λb=>b=it) h h':=by
 refine x.there λo vs e d nf=>?_;exact⟨λb o q z f=>(hs.2 b z).trans q,λb o q z=>⟨o.slots,(hs.2 b z).trans q⟩,λb o z q=>by subst z;rw[e]at q;cases q;exact⟨nf,⟨_,d⟩,_,g⟩,λb z=>by subst z;exact hw⟩
theorem xG(x:cJ knd hW h ρ N it i)(hs:Heap.ExtBut it h h'):iC h h':=λb o e f=>by
 refine x.there λoi vs ei d nf=>?_;refine⟨o.slots,hs b o (λq=>?_) e⟩;subst q;rw[ei]at e;cases e;exact nf f
theorem SW(x:cJ knd hW h ρ H.next it i)(hs:Heap.ExtBut it h h')(hw:hW.get? it=none)(hc:∀n,n<H.next->ρ n≠it)(st:St knd hW ah ρ H h):St knd hW ah ρ H h' where
 at_ n hn:=by
  refine st.wK n hn λob e r=>?_;refine r.there λoc g _ _=>?_;exact⟨ob,e,r.mono (xG x hs) (Nat.le_refl _) (λ_ _=>rfl) ((hs _ _ (hc n hn) g).trans g.symm)⟩
 inj:=st.inj
 out:=st.out
 stays b o e:=hs b o (λq=>by rw[q,hw]at e;cases e) (st.stays b o e)
 bW:=FunFrames.nU (λb o e d=>by
  refine x.there λoi vs ei di nf=>?_
  exact⟨o,hs b o (λq=>by subst q;rw[ei]at e;cases e;exact d vs di) e,d⟩) st.bW
 qM:=st.qM
theorem Px(x:cJ knd hW h bq N' it i)(hs:Heap.ExtBut it h h')(L9:h0.get? it=none)(s:Step X fr ρ N h0 bq N' h):Step X fr ρ N h0 bq N' h' where
 le:=s.le
 old:=s.old
 new:=s.new
 keep b o e hc hX hf:=hs b o (λq=>by rw[q,L9]at e;cases e) (s.keep b o e hc hX hf)
 frame b o e hf hX:=by
  refine aV (s.frame b o e hf hX) λsl q=>?_;exact⟨sl,hs b _ (λq=>by rw[q,L9]at e;cases e) q⟩
 live b e:=by
  by_cases q:b=it
  ·subst q;exact L9
  ·refine s.live b ?_
   cases z:h.get? b with
   |none=>rfl
   |some o=>rw[hs b o q z]at e;cases e
 eg:=s.eg.trans (xG x hs)
end
section
variable{aa:Program}{w:World}{hW:Heap}{n:Nat}{A:Around}{ah:List Env}{env:Env}{s:Shared}{ρ:Nat->Addr}{H:AH}{E:Value->Shared->Prop}
theorem pE{k:Int}(h1:0<=k)(h2:k<=100001):Builtin.Range.rangeFitsLong k=true:=by
 unfold Builtin.Range.rangeFitsLong;simp only[Bool.and_eq_true,decide_eq_true_eq];omega
theorem xH{n:Nat}(hn:n<=100000):(Builtin.Range.rangeFitsLong (0:Int)&&Builtin.Range.rangeFitsLong (n:Int)&&Builtin.Range.rangeFitsLong (1:Int)&&Builtin.Range.rangeFitsLong (Builtin.Range.rangeSize 0 n 1)&&(Builtin.Range.rangeSize 0 n 1==0 || if(1:Int)>0 then Builtin.Range.rangeFitsLong ((n:Int)+(1-1))else Builtin.Range.rangeFitsLong ((n:Int)+(1+1))))=true:=by
 have h:Builtin.Range.rangeFitsLong (n:Int)=true:=pE (by omega) (by omega);rw[qo,pE (k:=0) (by decide) (by decide),h,pE (k:=1) (by decide) (by decide)];simp;exact .inr h
theorem ou{a:ae}{x:Value}{i:Iter}{Q:Value->Shared->Prop}(st:St (af aa w) hW ah ρ H s.heap)(r:bf (af aa w) hW s.heap ρ H.next a x)(he:gW a H=some i)
  (hQ:∀o,cJ (af aa w) hW (s.heap.push o) ρ H.next s.heap.objs.size i->Q (.ref s.heap.objs.size) { s with heap:=s.heap.push o }):wpAny (model aa w) A (pyIter x) Q E s:=by
 cases a with
 |tup vs=>
  replace he:=Option.some.inj he;subst he;refine cn r ?_;clear r;intro t ws Py Ks vr;subst Py;refine cn Ks ?_;clear Ks;intro o k g c d;refine wpAny_pyIter_tuple (items:=ws.toArray) ⟨o,g,c,k,d⟩ (hQ _ ⟨t,ws,0,⟨_,Heap.get?_push_size _ rfl,rfl,rfl⟩,⟨o,k,Heap.get?_push_of_some _ g,c,d⟩,?_⟩);exact vr.mono (.push _ _) (Nat.le_refl _) λ_ _=>rfl
 |nR n=>
  refine fX he λhn he=>?_;replace he:=Option.some.inj he;subst he;obtain⟨p,rfl,o,y,z,u,g,c,dd,d⟩:=r;obtain⟨cls,lY,data,sl⟩:=o;simp only at c dd d;subst c dd d;have hT:s.TypeIs (.ref p) "range" := ⟨_,g,rfl⟩;have small:=xH hn;refine wpAny_pyIter_slot hT F.slot_range_iter (call_meets F.slot_range_iter hT F.entry_range_iter (F.args_range_iter_1 _) (xF p 0 n 1 y z u sl (by rw[small];decide)) ⟨g,?_⟩);simp only[small,if_true];refine⟨"range_iterator",_,⟨_,Heap.get?_push_size _ rfl,rfl⟩,F.slot_range_iterator_next.lookup,?_⟩;rw[qo];exact hQ _ ⟨Nat.zero_le _,by have:=Heap.get?_push_size s.heap (o:={ cls:=.type "range_iterator",data:=.fields #[rawInt 0,rawInt (n:Int),rawInt 1] }) rfl;simpa[rawInt,IsRangeIter]using this⟩
 |ref m=>
  refine bk r ?_;clear r;intro hm Pz;subst Pz;refine jG he λvs e1 h1=>?_;replace h1:=Option.some.inj h1;subst h1;refine aO (st.toCells.get hm e1) λws j ho vp=>?_;exact wpAny_pyIter_list (items:=ws.toArray) ⟨W.listOf ws.toArray j,ho,rfl,j,rfl⟩ (hQ _ ⟨hm,_,Heap.get?_push_size _ rfl,rfl,rfl⟩)
 |_=>exact absurd he nn
theorem C7{α:Type}{l ys:List α}{k:Nat}{y:α}(q:l.drop k=y::ys):l[k]? = some y∧l.drop (k+1)=ys:=by
 refine⟨?_,?_⟩
 ·have:=congrArg List.head? q
  rwa [List.head?_drop]at this
 ·have:=congrArg List.tail q
  rwa [List.tail_drop]at this
theorem gG{it:Addr}{i:Iter}{r:Option (ae×Iter)}{Q:Option Value->Shared->Prop}(hand:A.handled=none)(st:St (af aa w) hW ah ρ H s.heap)(hc:∀n,n<H.next->ρ n≠it)(hw:hW.get? it=none)
  (x:cJ (af aa w) hW s.heap ρ H.next it i) (he:i.Eb H=some r) (h0:r=none->∀h',Heap.ExtBut it s.heap h'->Q none { s with heap:=h' })
  (h1:∀v i',r=some (v,i')->∀h' u t,Heap.SameBut it s.heap h'->St (af aa w) hW ah ρ H h'->(∀X:Addr->Prop,X it->Step X (bl ah) ρ H.next s.heap ρ H.next h')->bf (af aa w) hW h' ρ H.next v u->cJ (af aa w) hW h' ρ H.next it i'->Q (some u) { s with heap:=h',toks:=t }):
  wpAny (model aa w) A (pyNext (.ref it)) Q E s:=by
 cases i with
 |seq vs=>
  refine ft (id x) λt items k hit Kt vr=>?_;refine cn Kt ?_;clear Kt;intro o m g c d;have ht:s.heap.IsTuple t items.toArray:=⟨o,g,c,m,d⟩
  cases vs with
  |nil=>
   have:=vr.length;rw[List.length_drop]at this;exact wpAny_pyNext_tuple_end hand hit ht (by rw[List.getElem?_toArray,List.getElem?_eq_none_iff];exact Nat.le_of_sub_eq_zero this) λh' hs=>h0 (Option.some.inj he).symm h' hs
  |cons v vs=>
   cases q:items.drop k with
   |nil=>rw[q]at vr;exact vr.elim
   |cons y ys=>
    rw[q]at vr;refine bk (C7 q) λhy W4=>?_;refine wpAny_pyNext_tuple_item hit ht (by simpa using hy) λh' vN hs=>?_;refine cm (id vN) λo' g' c' d'=>?_;have j:tu hW (bl ah) (λb=>b=it) s.heap h':=r6 x hs hw g';refine h1 v _ (Option.some.inj he).symm h' y s.toks hs (j.st st) (λX hX=>j.step λb z=>z▸hX) (vr.1.mono j.eg (Nat.le_refl _) λ_ _=>rfl) ⟨t,items,k+1,vN,j.eg.tup ⟨o,m,g,c,d⟩,?_⟩;rw[W4];exact vr.2.mono j.eg (Nat.le_refl _) λ_ _=>rfl
 |lst m k=>
  refine bk (id x) λhm hit=>?_;refine jG he λvs e1 he=>?_;refine aO (st.toCells.get hm e1) λws j ho vp=>?_;have hl:s.heap.IsList (ρ m) ws.toArray:=⟨W.listOf ws.toArray j,ho,rfl,j,rfl⟩
  cases hv:vs[k]? with
  |some v=>
   rw[hv]at he;refine aI (vp.get hv) λu hu vr=>?_;refine wpAny_pyNext_list_item hit hl (by simpa using hu) λh' vN hs=>?_;refine cm (id vN) λo' g' c' d'=>?_;have j:tu hW (bl ah) (λb=>b=it) s.heap h':=r6 x hs hw g';exact h1 v _ (Option.some.inj he).symm h' u s.toks hs (j.st st) (λX hX=>j.step λb z=>z▸hX) (vr.mono j.eg (Nat.le_refl _) λ_ _=>rfl) ⟨hm,vN⟩
  |none=>
   rw[hv]at he;have:ws.toArray[k]? = none:=by
    rw[List.getElem?_toArray,List.getElem?_eq_none_iff,vp.length];exact List.getElem?_eq_none_iff.mp hv
   exact wpAny_pyNext_list_end hand hit hl this λh' hs=>h0 (Option.some.inj he).symm h' hs
 |nR k m=>
  refine bk (id x) λhk hit=>?_;replace he:(if k<m then some (some (ae.int k,Iter.nR (k+1) m))else some none)=some r:=he
  by_cases zO:k<m
  ·rw[if_pos zO]at he
   refine wpAny_pyNext_range_item hit (by omega) λh' vN hs=>?_;have j:tu hW (bl ah) (λb=>b=it) s.heap h':=r6 x hs hw vN;refine h1 _ _ (Option.some.inj he).symm h' _ _ hs (j.st st) (λX hX=>j.step λb z=>z▸hX) ⟨_,rfl⟩ ⟨zO,?_⟩;have e1:((k:Int)+1)=((k+1:Nat):Int):=by push_cast;rfl
   have e2:(m:Int)-(k:Int)-1=(m:Int)-((k+1:Nat):Int):=by push_cast;omega
   rw[e1,e2]at vN;exact vN
  ·rw[if_neg zO]at he
   exact wpAny_pyNext_range_end hand hit (by omega) λh' hs=>h0 (Option.some.inj he).symm h' hs
end
theorem cY{x y:String}{v:ae}:∀{l:Loc},aJ y (bc x v l)=if y=x then some v else aJ y l:=by
 intro zz;induction zz with
 |nil=>
  exact rfl
 |cons b0 r ih=>
  obtain⟨z,u⟩:=b0;have ih:=ih;show aJ y (if x=z then(z,v)::r else(z,u)::bc x v r)=if y=x then some v else if y=z then some u else aJ y r
  by_cases hx:x=z
  ·rw[if_pos hx,<-hx]
   show(if y=x then some v else aJ y r)=_
   by_cases hy:y=x
   ·rw[if_pos hy,if_pos hy]
   ·rw[if_neg hy,if_neg hy,if_neg hy]
  ·rw[if_neg hx]
   show(if y=z then some u else aJ y (bc x v r))=_;rw[ih]
   by_cases hy:y=z
   ·rw[if_pos hy,if_pos hy,if_neg λq=>hx (q.symm.trans hy)]
   ·rw[if_neg hy,if_neg hy]
section
variable{aa:Program}{w:World}{hW:Heap}{n:Nat}{A:Around}{ah:List Env}{env:Env}{l:Loc}{s:Shared}{ρ:Nat->Addr}{H:AH}{E:Value->Shared->Prop}
theorem Ma{sc:Scope}{id:Str}(h:iH sc id=true):sc.names.lookup id=some .local∨sc.names.lookup id=some .cell:=by
 unfold iH at h;generalize sc.names.lookup id=o at h;cases o with
 |none=>exact absurd h ff
 |some k=>cases k<;>first|exact .inl rfl|exact .inr rfl|exact absurd h ff
theorem xI(lr:bJ (af aa w) hW s.heap ρ H.next (bl ah) env l):(env.scope.kind==.class || (env.scope.kind==.module&&env.locals != env.globals))=false:=by rw[lr.fn];rfl
noncomputable def IA(env:Env)(X:Addr->Prop)(x:String):Prop:=(env.scope.names.lookup (aK x)=some .local->X env.locals)∧∀c,env.scope.names.lookup (aK x)=some .cell->env.cells.lookup (aK x)=some c->X c
theorem jw(x:String):IA env (Own env) x:=⟨λ_=>.inl rfl,λc _ h=>.inr ⟨_,h⟩⟩
theorem k8{o:Obj}{d:Array DictEntry}{n:Nat}(h:o.data=.dict d n):¬bA o:=by rintro(⟨_,_,_,q⟩|⟨_,_,q⟩)<;>rw[h]at q<;>cases q
theorem k9{o:Obj}{d:Array DictEntry}{n:Nat}(h:o.data=.dict d n)(vs:Array Value):o.data≠.fields vs:=λq=>by rw[h]at q;cases q
theorem bJ.bare{h h':Heap}{N:Nat}{fr:List Addr}{m':Str->Option Value}(r:bJ (af aa w) hW h ρ N fr env l)(hs:Heap.SameBut env.locals h h')(hm:h'.Ns env.locals m'):bJ (af aa w) hW h' ρ N fr env [] where
 fn:=r.fn
 glob:=r.glob
 blt:=r.blt
 dict:=⟨m',hm,λx v e=>absurd e nn⟩
 cell:=r.cell
 tB x v e:=absurd e nn
 kM:=r.kM
 xc x c e:=by
  refine r.nW x c e λz1 a1 a2 a3 a4=>?_;refine aO z1 ?_;clear z1;intro qN o g d;exact⟨⟨qN,o,(hs.2 c a4).trans g,d⟩,a1,a2,a3,a4⟩
 sep:=r.sep
 frame:=r.frame
theorem oy{x:String}{a:ae}{v:Value}{Q:Unit->Shared->Prop}{E:Value->Shared->Prop}(hk:env.scope.names.lookup (aK x)=some .local)(st:St (af aa w) hW ah ρ H s.heap)(lr:bJ (af aa w) hW s.heap ρ H.next (bl ah) env l)(rv:bf (af aa w) hW s.heap ρ H.next a v)
  (hQ:∀h' t,St (af aa w) hW ah ρ H h'->Heap.SameBut env.locals s.heap h'->(∃m,h'.Ns env.locals m)->(∀X:Addr->Prop,X env.locals->Step X (bl ah) ρ H.next s.heap ρ H.next h')->bJ (af aa w) hW h' ρ H.next (bl ah) env (bc x a l)->Q () { s with heap:=h',toks:=t }):wpAny (model aa w) A (storeName env (aK x) v) Q E s:=by
 refine lr.kj λm hm E7=>?_;refine wpAny_storeName_local hk hm (λh' Ed hs=>?_) (xI lr);refine RG hm λo es ep g d _ _=>?_;refine RG Ed λo' ZO ZP g' d' _ _=>?_;have nf:¬bA o:=k8 d;have HQ:=bP hs g nf;refine hQ h' _ (st.mY lr.kM.1 lr.kM.2 hs g nf g' (k9 d')) hs ⟨_,Ed⟩ (λX hX=>.mY hX hs g nf g') ?_;have lb:=lr.bare hs Ed;exact{ lb with
  dict:=⟨_,Ed,λy u e z k=>by
   rw[cY]at e
   by_cases hy:y=x
   ·subst hy;rw[if_pos rfl]at e;replace e:=Option.some.inj e;subst e
    exact⟨v,if_pos rfl,rv.mono HQ (Nat.le_refl _) λ_ _=>rfl⟩
   ·rw[if_neg hy]at e
    refine aI (E7 y u e z k) λw' e1 e2=>?_
    exact⟨w',(if_neg λq=>hy (jM q)).trans e1,e2.mono HQ (Nat.le_refl _) λ_ _=>rfl⟩⟩
  tB:=λy u e k=>by
   rw[cY]at e
   by_cases hy:y=x
   ·subst hy
    unfold Env.kindOf at k
    rw[hk]at k;rcases k with k|k<;>cases k
   ·rw[if_neg hy]at e
    refine lr.nV y u e k λc w' e1 z1 e2=>?_
    refine aI z1 ?_;clear z1;intro oc gc dc
    refine lr.nW _ _ e1 λ_ _ _ _ cl=>?_
    exact⟨c,w',e1,⟨oc,(hs.2 c cl).trans gc,dc⟩,e2.mono HQ (Nat.le_refl _) λ_ _=>rfl⟩ }
theorem eT{X:Addr->Prop}{x:String}{a:ae}{v:Value}{Q:Unit->Shared->Prop}(hX:IA env X x)(hx:iH env.scope (aK x)=true)(st:St (af aa w) hW ah ρ H s.heap)(lr:bJ (af aa w) hW s.heap ρ H.next (bl ah) env l)(rv:bf (af aa w) hW s.heap ρ H.next a v)
  (hQ:∀h' t,St (af aa w) hW ah ρ H h'->Step X (bl ah) ρ H.next s.heap ρ H.next h'->bJ (af aa w) hW h' ρ H.next (bl ah) env (bc x a l)->Q () { s with heap:=h',toks:=t }):wpAny (model aa w) A (storeName env (aK x) v) Q E s:=by
 refine dZ (Ma hx) (λhk=>?_) λhk=>?_
 ·exact oy hk st lr rv λh' t fg _ _ sp md=>hQ h' t fg (sp X (hX.1 hk)) md
 ·refine lr.kj λm hm E7=>?_
  refine aV (lr.cell (aK x) (.inl hk)) λc hc=>?_;refine lr.nW _ _ hc λz1 a1 a2 a3 a4=>?_;refine aO z1 ?_;clear z1;intro qN o g d;refine wpAny_storeName_cell lr.fn hk hc ⟨o,g,d⟩ λh' hv hs=>?_;refine aI (id hv) λo' g' d'=>?_;have nf:¬bA o:=by rintro(⟨_,_,_,q⟩|⟨_,_,q⟩)<;>rw[d]at q<;>cases q
  have HQ:=bP hs g nf;refine hQ h' s.toks (st.mY a1 a2 hs g nf g' λvs q=>by rw[d']at q;cases q) (.mY (hX.2 c hk hc) hs g nf g') ?_;exact{
   fn:=lr.fn,glob:=lr.glob,blt:=lr.blt,cell:=lr.cell,kM:=lr.kM,sep:=lr.sep,frame:=lr.frame
   dict:=⟨m,hm.sameBut hs (Ne.symm a4),λy u e z k=>by
    rw[cY]at e
    by_cases hy:y=x
    ·subst hy;unfold Env.kindOf at k;rw[hk]at k;cases k
    ·rw[if_neg hy]at e
     refine aI (E7 y u e z k) λw' e1 e2=>?_
     exact⟨w',e1,e2.mono HQ (Nat.le_refl _) λ_ _=>rfl⟩⟩
   tB:=λy u e k=>by
    rw[cY]at e
    by_cases hy:y=x
    ·subst hy;rw[if_pos rfl]at e;replace e:=Option.some.inj e;subst e
     exact⟨c,v,hc,hv,rv.mono HQ (Nat.le_refl _) λ_ _=>rfl⟩
    ·rw[if_neg hy]at e
     refine lr.nV y u e k λc' w' e1 z1 e2=>?_
     refine aI z1 ?_;clear z1;intro oc gc dc
     have:c'≠c:=λq=>by subst q;exact hy (jM (lr.sep _ _ _ e1 hc))
     exact⟨c',w',e1,⟨oc,(hs.2 c' this).trans gc,dc⟩,e2.mono HQ (Nat.le_refl _) λ_ _=>rfl⟩
   xc:=λy c' e=>by
    refine lr.nW y c' e λz1 b1 b2 b3 b4=>?_
    refine aO z1 ?_;clear z1;intro SX oc gc dc
    refine⟨?_,b1,b2,b3,b4⟩
    by_cases q:c'=c
    ·subst q;exact⟨_,hv⟩
    ·exact⟨SX,oc,(hs.2 c' q).trans gc,dc⟩ }
theorem bJ.cZ{h h':Heap}{bq:Nat->Addr}{N N':Nat}(r:bJ (af aa w) hW h ρ N (bl ah) env l)(s:Step eQ (bl ah) ρ N h bq N' h'):bJ (af aa w) hW h' bq N' (bl ah) env l:=r.step s (λ_ m=>m) λ_ f=>f.elim
theorem nk{C:Prop}{x:String}{e:Expr}(h:vE x e=true)(k_:∀pos,e=.Name (aK x) pos->C):C:=by
 refine fY h λid pos e1 h1=>?_;exact k_ pos (by rw[e1,eq_of_beq h1])
theorem mJ{x:String}{xs:List String}{ts:List Expr}(h:dK (x::xs) ts=true):∃pos r,ts=.Name (aK x) pos::r∧dK xs r=true:=by
 cases ts with
 |nil=>exact absurd h ff
 |cons t r=>
  refine nk (az h).1 λpos e=>?_;exact⟨pos,r,by rw[e],(az h).2⟩
theorem jS{x:String}{xs:List String}{vs:List ae}{l l':Loc}(h:fk (x::xs) vs l=some l'):∃v r,vs=v::r∧fk xs r (bc x v l)=some l':=by
 cases vs with
 |nil=>exact absurd h nn
 |cons v r=>exact⟨v,r,rfl,h⟩
theorem tI{X:Addr->Prop}:∀{xs:List String}{ts:List Expr}{as:List ae}{vs:List Value}{l l':Loc}{s:Shared}{Q:Unit->Shared->Prop},dK xs ts=true->(∀x,x∈xs->IA env X x)->(xs.all λx=>iH env.scope (aK x))=true->fk xs as l=some l'->
  St (af aa w) hW ah ρ H s.heap->bJ (af aa w) hW s.heap ρ H.next (bl ah) env l->aP (af aa w) hW s.heap ρ H.next as vs->
  (∀h' t,St (af aa w) hW ah ρ H h'->Step X (bl ah) ρ H.next s.heap ρ H.next h'->bJ (af aa w) hW h' ρ H.next (bl ah) env l'->Q () { s with heap:=h',toks:=t })->
  wpAny (model aa w) A (assignInOrder ((assignEach ts env).map (·.2)) vs) Q E s:=by
 intro zz;induction zz with
 |nil=>
  intro ts as vs l l' s Q ht _ _ he st lr vr hQ;obtain rfl:=bF (l:=ts) ht;cases as with
  |cons _ _=>exact absurd he nn
  |nil=>cases vs with
   |cons _ _=>exact vr.elim
   |nil=>
    obtain rfl:=Option.some.inj he;exact wpAny_pure (hQ s.heap s.toks st .refl lr)
 |cons x xs ih=>
  intro ts as vs l l' s Q ht hX hx he st lr vr hQ;replace ht:=mJ ht;refine aO ht ?_;clear ht;intro pos ts PA ht;subst PA;replace he:=jS he;refine aO he ?_;clear he;intro a as PB he;subst PB;cases vs with
  |nil=>exact vr.elim
  |cons v vs=>
   refine wpAny_assignInOrder_more (wpAny_assign_Name (eT (hX x (.head _)) (az hx).1 st lr vr.1 λh' t fg dH md=>?_));exact ih ht (λy hy=>hX y (.tail _ hy)) (az hx).2 he fg md (dH.gr vr.2) λE8 t' Mb Mc Md=>hQ E8 t' Mb (dH.trans Mc) Md
theorem tJ:∀{xs:List String}{ts:List Expr},dK xs ts=true->(assignEach ts env).length=xs.length∧(assignEach ts env).findIdx? (·.1)=none:=by
 intro zz;induction zz with
 |nil=>
  intro ts h;rw[bF (l:=ts) h];exact⟨rfl,rfl⟩
 |cons x xs ih=>
  intro ts h;replace h:=mJ h;refine aO h ?_;clear h;intro pos ts PC h;subst PC;obtain⟨h1,h2⟩:=ih (ts:=ts) h;have e:assignEach (.Name (aK x) pos::ts) env=(false,assign (.Name (aK x) pos) env)::assignEach ts env:=rfl;rw[e];refine⟨congrArg (· + 1) h1,?_⟩;rw[List.findIdx?_cons,h2]
  rfl
theorem jT:∀{xs:List String}{vs:List ae}{l l':Loc},fk xs vs l=some l'->vs.length=xs.length:=by
 intro zz;induction zz with
 |nil=>
  intro b0 _ _ h;cases b0 with
  |nil=>
   exact rfl
  |cons kT rj=>
   exact absurd h nn
 |cons _ _ ih=>
  intro vs _ _ h;replace h:=jS h;refine aO h ?_;clear h;intro v r PD h;subst PD;exact congrArg (· + 1) (ih h)
noncomputable abbrev BY(xs:List String)(single:Bool)(t:Expr):Bool:=BG single xs t
noncomputable abbrev r7(xs:List String)(single:Bool)(v:ae)(l:Loc):Option Loc:=bindC single xs v l
theorem gH{X:Addr->Prop}{xs:List String}{single:Bool}{t:Expr}{a:ae}{v:Value}{l':Loc}{Q:Unit->Shared->Prop}(hand:A.handled=none)(ht:BY xs single t=true)(hX:∀x,x∈xs->IA env X x)(hx:(xs.all λx=>iH env.scope (aK x))=true)
  (he:r7 xs single a l=some l') (st:St (af aa w) hW ah ρ H s.heap) (lr:bJ (af aa w) hW s.heap ρ H.next (bl ah) env l) (vr:bf (af aa w) hW s.heap ρ H.next a v)
  (hQ:∀h' t,St (af aa w) hW ah ρ H h'->Step X (bl ah) ρ H.next s.heap ρ H.next h'->bJ (af aa w) hW h' ρ H.next (bl ah) env l'->Q () { s with heap:=h',toks:=t }):
  wpAny (model aa w) A (assign t env v) Q E s:=by
 cases single with
 |true=>
  refine eP ht λx z1 h1=>?_;subst z1;refine nk h1 λpos z1=>?_;subst z1;obtain rfl:=Option.some.inj he;exact wpAny_assign_Name (eT (hX x (.head _)) (az hx).1 st lr vr hQ)
 |false=>
  refine uq (show tC t (λts _ _=>dK xs ts)=true from ht) λts k pos z1 h1=>?_;clear ht;subst z1;refine wW he λvs z1 h2=>?_;clear he;subst z1;refine vr.E λp ws z1 z2 vp=>?_;clear vr;subst z1;refine cn z2 ?_;clear z2;intro o i g c d;refine bk (tJ (env:=env) h1) λe1 e2=>?_;refine wpAny_bind (wpAny_standAt (wpAny_unpack_tuple (items:=ws.toArray) hand ⟨o,g,c,i,d⟩ ?_ e2 λh' hk=>?_))
  ·rw[e1,List.size_toArray,vp.length,jT h2]
  ·have kk:∀b o,s.heap.get? b=some o->h'.get? b=some o:=λb o e=>hk b o (Nat.ne_of_lt (Heap.lt_size e)) e
   have sp:Step eQ (bl ah) ρ H.next s.heap ρ H.next h':=.keeps kk;rw[List.toList_toArray];exact tI h1 hX hx h2 (st.keeps kk) (lr.cZ sp) (sp.gr vp) λE8 t fg dH md=>hQ E8 t fg ((sp.weaken λ_ f=>f.elim).trans dH) md
end
theorem FunFrames.on{h h' base:Heap}:∀{l:List Env},(∀b o,b∈bl l->h.get? b=some o->(∀vs,o.data≠.fields vs)->∃o',h'.get? b=some o'∧∀vs,o'.data≠.fields vs)->h.FunFrames base l->h'.FunFrames base l:=by
 intro zz;induction zz with
 |nil=>
  intro _ _;exact trivial
 |cons env r ih=>
  intro k b0;refine dw b0 ?_;clear b0;intro a Ku q;refine pk Ku ?_;clear Ku;intro L o b c d e;have PE:bl (env::r)=L::bl r:=List.filterMap_cons_some b;refine aI (k L o (by rw[PE];exact .head _) d e) λo' d' e'=>?_;exact⟨a,⟨L,o',b,c,d',e'⟩,ih (λb o hb=>k b o (by rw[PE];exact .tail _ hb)) q⟩
section
variable{aa:Program}{w:World}{knd:KeyKind aa w (Option Str)}{hW h h' h0:Heap}{ρ bq:Nat->Addr}{N N':Nat}{ah:List Env}{H:AH}{X:Addr->Prop}{fr:List Addr}{it:Addr}
theorem gK(nf:∀o,h.get? it=some o->¬bA o)(hs:Heap.ExtBut it h h'):iC h h':=λb o e f=>
 ⟨o.slots,hs b o (λq=>by subst q;exact nf o e f) e⟩
theorem me(nf:∀o,h.get? it=some o->¬bA o)(hs:Heap.ExtBut it h h')(hw:hW.get? it=none)(hf:it∉bl ah)(hc:∀n,n<H.next->ρ n≠it)(st:St knd hW ah ρ H h):St knd hW ah ρ H h' where
 at_ n hn:=by
  refine st.wK n hn λob e r=>?_;refine r.there λoc g _ _=>?_;exact⟨ob,e,r.mono (gK nf hs) (Nat.le_refl _) (λ_ _=>rfl) ((hs _ _ (hc n hn) g).trans g.symm)⟩
 inj:=st.inj
 out:=st.out
 stays b o e:=hs b o (λq=>by rw[q,hw]at e;cases e) (st.stays b o e)
 bW:=FunFrames.on (λb o hb e d=>⟨o,hs b o (λq=>by subst q;exact hf hb) e,d⟩) st.bW
 qM:=st.qM
theorem gM(nf:∀o,h.get? it=some o->¬bA o)(hs:Heap.ExtBut it h h')(L9:h0.get? it=none)(s:Step X fr ρ N h0 bq N' h):Step X fr ρ N h0 bq N' h' where
 le:=s.le
 old:=s.old
 new:=s.new
 keep b o e hc hX hf:=hs b o (λq=>by rw[q,L9]at e;cases e) (s.keep b o e hc hX hf)
 frame b o e hf hX:=by
  refine aV (s.frame b o e hf hX) λsl q=>?_;exact⟨sl,hs b _ (λq=>by rw[q,L9]at e;cases e) q⟩
 live b e:=by
  by_cases q:b=it
  ·subst q;exact L9
  ·refine s.live b ?_
   cases z:h.get? b with
   |none=>rfl
   |some o=>rw[hs b o q z]at e;cases e
 eg:=s.eg.trans (gK nf hs)
theorem ExcAt.drop{e:Addr}{c:Nat}(x:ExcAt h0 h e c)(hs:Heap.ExtBut it h h')(nd:∀o,h.get? it=some o->(∀vs,o.data≠.fields vs)∧∀es n,o≠dictOf es n):ExcAt h0 h' e c:=
 x.map (λ_ z=>z) λb o _ g f=>hs _ _ (λq=>by subst q;exact f.elim (λf=>f.elim λvs d=>(nd _ g).1 _ d) λf=>f.elim λes f=>f.elim λi d=>(nd _ g).2 _ _ d) g
theorem bJ.sub{env:Env}{l l':Loc}(r:bJ knd hW h ρ N fr env l)(k:∀y v,aJ y l'=some v->aJ y l=some v):bJ knd hW h ρ N fr env l':=
 { r with
  dict:=by
   refine r.kj λm a b=>?_
   exact⟨m,a,λx v e=>b x v (k x v e)⟩
  tB:=λx v e=>r.tB x v (k x v e) }
end
noncomputable def without(xs:List String)(l:Loc):Loc:=l.filter λp=>!(xs.contains p.1)
theorem gI{xs:List String}{y:String}:∀{l:Loc},aJ y (without xs l)=if xs.contains y then none else aJ y l:=by
 intro zz;induction zz with
 |nil=>
  cases xs.contains y<;>rfl
 |cons b0 r ih=>
  obtain⟨z,u⟩:=b0;have ih:=ih;unfold without at ih ⊢
  by_cases hz:xs.contains z=true
  ·rw[List.filter_cons_of_neg (by simpa using hz),ih]
   by_cases hy:y=z
   ·subst hy;rw[if_pos hz,if_pos hz]
   ·rw[gV,if_neg hy]
  ·rw[List.filter_cons_of_pos (by simpa using hz)]
   rw[gV,gV,ih]
   by_cases hy:y=z
   ·subst hy;rw[if_pos rfl,if_pos rfl,if_neg hz]
   ·rw[if_neg hy,if_neg hy]
theorem xJ:∀{xs:List String}{vs:List ae}{l m l':Loc},fk xs vs l=some l'->(∀y,y∉xs->aJ y l=aJ y m)->∃m',fk xs vs m=some m'∧∀y,aJ y m'=aJ y l':=by
 intro zz;induction zz with
 |nil=>
  intro b0 l m l' h k;cases b0 with
  |nil=>
   exact⟨m,rfl,λy=>by rw[<-Option.some.inj h,k y (λz=>nomatch z)]⟩
  |cons kT rj=>
   exact absurd h nn
 |cons x xs ih=>
  intro vs l m l' h k;replace h:=jS h;refine aO h ?_;clear h;intro v vs PF h;subst PF;exact ih (m:=bc x v m) h λy hy=>by
   rw[cY,cY]
   by_cases q:y=x
   ·rw[if_pos q,if_pos q]
   ·rw[if_neg q,if_neg q]
    exact k y λz=>(List.mem_cons.mp z).elim q hy
theorem Kv{C:Prop}{xs:List String}{v:ae}{l l':Loc}(h:bindC true xs v l=some l')(k_:∀x,xs=[x]->l'=bc x v l->C):C:=by
 cases xs with
 |nil=>exact absurd h nn
 |cons x r=>
  exact LD (l:=r) h λz h=>k_ x (by rw[z]) (Option.some.inj h).symm
theorem xK{C:Prop}{xs:List String}{single:Bool}{v:ae}{l m l':Loc}(h:r7 xs single v l=some l')(k:∀y,y∉xs->aJ y l=aJ y m)(k_:∀m',r7 xs single v m=some m'->(∀y,aJ y m'=aJ y l')->C):C:=by
 cases single with
 |true=>
  refine Kv h λx z1 z2=>?_;subst z1;subst z2;refine k_ _ rfl (λy=>?_);rw[cY,cY]
  by_cases q:y=x
  ·rw[if_pos q,if_pos q]
  ·rw[if_neg q,if_neg q];exact(k y λz=>q (List.mem_singleton.mp z)).symm
 |false=>
  refine wW (a:=v) h λvs z1 h1=>?_;clear h;subst z1;exact(xJ h1 k).elim λm' z=>k_ m' z.1 z.2
theorem xM:∀{xs:List String}{vs:List ae}{l l':Loc}{y:String},fk xs vs l=some l'->y∉xs->aJ y l'=aJ y l:=by
 intro zz;induction zz with
 |nil=>
  intro b0 l l' y h _;cases b0 with
  |nil=>
   rw[<-Option.some.inj h]
  |cons kT rj=>
   exact absurd h nn
 |cons x xs ih=>
  intro vs l l' y h k;replace h:=jS h;refine aO h ?_;clear h;intro v vs PG h;subst PG;rw[ih h λz=>k (.tail _ z),cY,if_neg λz:y=x=>k (z▸.head _)]
theorem xN{xs:List String}{single:Bool}{v:ae}{l l':Loc}{y:String}(h:r7 xs single v l=some l')(k:y∉xs):aJ y l'=aJ y l:=by
 cases single with
 |true=>
  refine Kv h λx z1 z2=>?_;subst z1;subst z2;rw[cY,if_neg λz:y=x=>k (z▸.head _)]
 |false=>
  refine wW (a:=v) h λvs z1 h1=>?_;subst z1;exact xM h1 k
noncomputable def cS(env:Env):List (Str×NameKind)->List (Str×Addr)->List (Str×Addr)
 |[],acc=>acc
 |(n,k)::r,acc=>if k==.free then(env.cells.lookup n).elim (cS env r acc) (λc=>cS env r ((n,c)::acc))else cS env r acc
theorem rp{env:Env}{n:Str}{k:NameKind}{r:List (Str×NameKind)}{acc:List (Str×Addr)}:cS env ((n,k)::r) acc=if k==.free then(env.cells.lookup n).elim (cS env r acc) (λc=>cS env r ((n,c)::acc))else cS env r acc:=rfl
theorem tK{scope:Scope}{env:Env}(h:∀p,p∈scope.names->p.2=.free->∃c,env.cells.lookup p.1=some c):closureFor scope env=pure (cS env scope.names []):=by
 unfold closureFor;have key:∀(l:List (Str×NameKind)) (acc:List (Str×Addr)),(∀p,p∈l->p.2=.free->∃c,env.cells.lookup p.1=some c)->
   (forIn l acc λx r=>(match x with|(name,kind)=>if(kind==.free)=true then do let a <-PySem.cellOf env name;pure (ForInStep.yield ((name,a)::r))else pure (ForInStep.yield r):Sem (ForInStep (List (Str×Addr)))))=(pure (cS env l acc):Sem _):=by
  intro l;induction l with
  |nil=>intro acc _;rfl
  |cons p l ih=>
   intro acc hl;obtain⟨n,k⟩:=p;rw[List.forIn_cons];dsimp only
   by_cases hk:(k==NameKind.free)=true
   ·refine aV (hl (n,k) (.head _) (by simpa using hk)) λc hc=>?_
    rw[if_pos hk];have e:PySem.cellOf env n=pure c:=by unfold PySem.cellOf;rw[hc]
    rw[e];rw[rp,if_pos hk,hc];show(forIn l ((n,c)::acc) _:Sem _)=_;exact ih _ λp hp=>hl p (.tail _ hp)
   ·rw[if_neg hk]
    rw[rp,if_neg hk];show(forIn l acc _:Sem _)=_;exact ih _ λp hp=>hl p (.tail _ hp)
 have:=key scope.names [] h;simp only[]at this ⊢;rw[show(forIn scope.names [] λx r=>(match x with|(name,kind)=>if(kind==.free)=true then do let a <-PySem.cellOf env name;pure (ForInStep.yield ((name,a)::r))else pure (ForInStep.yield r):Sem (ForInStep (List (Str×Addr)))))=_ from this]
 rfl
theorem oz{env:Env}:∀{l:List (Str×NameKind)}{acc:List (Str×Addr)}{x:Str}{c:Addr},(∀y d,acc.lookup y=some d->env.cells.lookup y=some d)->(cS env l acc).lookup x=some c->env.cells.lookup x=some c:=by
 intro zz;induction zz with
 |nil=>
  intro _ _ _ ha h;exact ha _ _ h
 |cons b0 r ih=>
  intro acc x c ha h;obtain⟨n,k⟩:=b0;rw[rp]at h
  by_cases hk:(k==.free)=true
  ·rw[if_pos hk]at h
   cases hc:env.cells.lookup n with
   |some c'=>
    rw[hc]at h;refine ih (λy d hy=>?_) h;rw[List.lookup_cons]at hy;cases q:y==n with
    |true=>rw[q]at hy;cases hy;rw[eq_of_beq q];exact hc
    |false=>rw[q]at hy;exact ha y d hy
   |none=>rw[hc]at h;exact ih ha h
  ·rw[if_neg hk]at h;exact ih ha h
theorem C8{env:Env}:∀{l:List (Str×NameKind)}{acc:List (Str×Addr)}{x:Str},((acc.lookup x).isSome=true∨((x,NameKind.free)∈l∧∃c,env.cells.lookup x=some c))->((cS env l acc).lookup x).isSome=true:=by
 intro zz;induction zz with
 |nil=>
  intro _ _ h;exact h.elim id λq=>by simp at q
 |cons b0 r ih=>
  intro acc x h;obtain⟨n,k⟩:=b0;rw[rp]
  by_cases hx:x=n
  ·subst hx
   by_cases hk:(k==.free)=true
   ·rw[if_pos hk]
    cases hc:env.cells.lookup x with
    |some c=>exact ih (.inl (by rw[List.lookup_cons_self];rfl))
    |none=>
     refine ih (.inl (h.elim id λq=>?_));obtain⟨_,c,Kc⟩:=q;rw[hc]at Kc;exact absurd Kc nn
   ·rw[if_neg hk]
    refine ih (h.imp_right λq=>⟨?_,q.2⟩);cases q.1 with
    |head=>exact absurd rfl hk
    |tail _ e=>exact e
  ·have h':∀E2,(E2.lookup x).isSome=(acc.lookup x).isSome->((cS env r E2).lookup x).isSome=true:=λE2 e=>ih (by
    rcases h with h|⟨h,q⟩
    ·exact .inl (e.trans h)
    ·cases h with
     |head=>exact absurd rfl hx
     |tail _ e=>exact .inr ⟨e,q⟩)
   by_cases hk:(k==.free)=true
   ·rw[if_pos hk]
    cases env.cells.lookup n with
    |some c=>exact h' _ (by rw[List.lookup_cons,beq_eq_false_iff_ne.mpr hx])
    |none=>exact h' _ rfl
   ·rw[if_neg hk];exact h' _ rfl
section
variable{aa:Program}{w:World}{hW:Heap}{gt:List (String×ae)}{P:cW}{F:dQ}{n:Nat}{K:Frag}
 {A:Around}{ah:List Env}{env:Env}{l:Loc}{s:Shared}{ρ:Nat->Addr}{H:AH}{Q E:Value->Shared->Prop}
set_option backward.match.sparseCases true in
theorem BZ{knd:KeyKind aa w (Option Str)}{N:Nat}{it:Addr}{i:Iter}{target:Expr}{v:Value}{Q:Unit->Shared->Prop}(x:cJ knd hW s.heap ρ N it i)(h:Q () s):wpAny (model aa w) A (letOwnedTupleGo target (.ref it) v) Q E s:=by
 have key:wpAny (model aa w) A (do
   let (.ref r,.ref a):=((Value.ref it),v)|return
   let o <-load r
   match o.cls,o.data with
   | .type n,.fields vs=>
    if["enumerate", "zip", "dict_itemiterator", "dict_reverseitemiterator", "odict_iterator", "itertools.zip_longest", "itertools.pairwise"].contains n&&vs[0]? ==some (rawInt a)then
     rule "for.unpacks-the-owned-tuple"
     updateField r 0 .none
   |_,_=>pure ()) Q E s:=by
  cases v with
  |ref a=>
   have go:∀(n:String) (o:Obj) (vs:Array Value),s.heap.get? it=some o->o.cls=.type n->o.data=.fields vs->["enumerate", "zip", "dict_itemiterator", "dict_reverseitemiterator", "odict_iterator", "itertools.zip_longest", "itertools.pairwise"].contains n=false->wpAny (model aa w) A (do
     let o <-load it
     match o.cls,o.data with
     | .type n,.fields vs=>
      if["enumerate", "zip", "dict_itemiterator", "dict_reverseitemiterator", "odict_iterator", "itertools.zip_longest", "itertools.pairwise"].contains n&&vs[0]? ==some (rawInt a)then
       rule "for.unpacks-the-owned-tuple"
       updateField it 0 .none
     |_,_=>pure ()) Q E s:=by
    intro n o vs g c d q;refine wpAny_bind (wpAny_load g ?_);rw[c,d];simp only[q,Bool.false_and,Bool.false_eq_true,if_false];exact wpAny_pure h
   cases i with
   |seq vs=>obtain⟨t,items,k,⟨o,g,c,d⟩,_⟩:=x;exact go _ o _ g c d (by decide)
   |lst m k=>obtain⟨_,o,g,c,d⟩:=x;exact go _ o _ g c d (by decide)
   |nR k m=>obtain⟨_,g⟩:=x;exact go _ _ _ g rfl rfl (by decide)
  |_=>exact wpAny_pure h
 have SY:wpAny (model aa w) A (pure ()) Q E s:=wpAny_pure h;cases target with
 |Tuple _ _ _=>exact key
 |List _ _=>exact key
 |_=>exact SY
theorem vO{elt target iter:Expr}{scope:Scope}{pos:Pos}{it acc:Value}{R:Result->Shared->Prop}(I:Nat->Shared->Prop)
  (turn:∀n s,I n s->wpAny (model aa w) A (pyNext it) (λr aS=>match r with
   |none=>R (.ok .next) aS
   |some v=>wpAny (model aa w) A (letOwnedTupleGo target it v) (λ_ aS=>wpAny (model aa w) A (assign target env v) (λ_ cz=>wpAny (model aa w) A (eval elt env) (λx mB=>
     wpAny (model aa w) A (call (.builtin "list.append") [acc,x]) (λ_ xO=>∃m,m<n∧I m xO) (notedBy (model aa w) A env λe s'=>R (.error e) s') mB)
     (notedBy (model aa w) A env λe s'=>R (.error e) s') cz) (notedBy (model aa w) A env λe s'=>R (.error e) s') aS) (notedBy (model aa w) A env λe s'=>R (.error e) s') aS) (notedBy (model aa w) A env λe s'=>R (.error e) s') s)
  (n:Nat) (h:I n s):codeAny (model aa w) A (.compLoop (.ListComp elt [⟨target,iter,[],0⟩] scope pos) 0 it acc env) R s:=by
 refine codeAny_loop rfl I (λn s hI=>?_) n h;show wpAny _ _ ((compTurn (.ListComp elt [⟨target,iter,[],0⟩] scope pos) 0 it acc env).onRaise (λx=>do noteFrame x env;theTreesLotGoes x)) _ _ s;refine wpAny_noted ?_;rw[compTurn_list1];refine wpAny_bind (wpAny_standAt (wpAny_bind (wpAny_mono (turn n s hI) (λr aS ay=>?_) λ_ _ h'=>h')));cases r with
 |none=>exact wpAny_pure ay
 |some v=>
  refine wpAny_bind (wpAny_mono ay (λ_ aS ay=>?_) λ_ _ h'=>h');exact wpAny_bind (wpAny_mono ay (λ_ cz bV=>wpAny_bind (wpAny_bind (wpAny_mono bV (λx mB dG=>wpAny_bind (wpAny_mono dG
   (λ_ xO tL=>wpAny_pure (wpAny_pure ⟨rfl,tL⟩)) λ_ _ h'=>h')) λ_ _ h'=>h'))) λ_ _ h'=>h')
noncomputable def mK(sc cB:Scope)(xs:List String)(p:Str×NameKind):Prop:=(p.2=.local∧cB.names.lookup p.1=some .local∧(p.1=(".0" : Str)∨∃x,x∈xs∧aK x=p.1))∨(p.2=.free∧(sc.names.lookup p.1=some .cell∨sc.names.lookup p.1=some .free))∨p.2=.globalImplicit
theorem mK.free{sc cB:Scope}{xs:List String}{p:Str×NameKind}(h:mK sc cB xs p)(hf:p.2=.free):sc.names.lookup p.1=some .cell∨sc.names.lookup p.1=some .free:=by
 rcases h with ⟨q,_⟩|⟨_,q⟩|q
 ·rw[hf]at q;cases q
 ·exact q
 ·rw[hf]at q;cases q
theorem mK.loc{sc cB:Scope}{xs:List String}{p:Str×NameKind}(h:mK sc cB xs p)(hl:p.2=.local):cB.names.lookup p.1=some .local:=by
 rcases h with ⟨_,q,_⟩|⟨q,_⟩|q
 ·exact q
 ·rw[hl]at q;cases q
 ·rw[hl]at q;cases q
theorem mK.kind{sc cB:Scope}{xs:List String}{p:Str×NameKind}(h:mK sc cB xs p):p.2=.local∨p.2=.free∨p.2=.globalImplicit:=h.imp And.left λz=>z.imp And.left id
theorem C9{sc cB:Scope}{xs:List String}{p:Str×NameKind}(h:xf sc cB xs p=true):mK sc cB xs p:=by
 obtain⟨x,k⟩:=p;cases k with
 | «local»=>
  refine bk (az h) λh1 h2=>?_;refine .inl ⟨rfl,eq_of_beq h1,?_⟩;refine dZ (Bool.or_eq_true_iff.mp h2) (λh3=>?_) λh3=>?_
  ·exact .inl (eq_of_beq h3)
  ·refine aI (List.any_eq_true.mp h3) λy a b=>?_
   exact .inr ⟨y,a,eq_of_beq b⟩
 |free=>
  refine .inr (.inl ⟨rfl,?_⟩);change (match sc.names.lookup x with|some .cell|some .free=>true|_=>false)=true at h;dsimp only;generalize sc.names.lookup x=o at h;cases o with
  |none=>exact absurd h ff
  |some k=>cases k<;>first|exact .inl rfl|exact .inr rfl|exact absurd h ff
 |globalImplicit=>exact .inr (.inr rfl)
 |_=>exact absurd h ff
theorem r8 {C:Prop}{sc:Scope}{elt it:aZ}{xs:List String}{single:Bool}{e':Expr} (hc:bt gt sc (.comp elt xs single it) e'=true) (k_:∀kN,∀rW,∀it',∀cB,∀pos,e'=.ListComp kN [⟨rW,it',[],0⟩] cB pos->BY xs single rW=true->iG it'=true->bt gt sc it it'=true->bt gt (jv cB sc) elt kN=true->cB.kind=.function->
   (∀p,p∈cB.names->mK sc cB xs p)->
   (∀x,x∈xs->cB.names.lookup (aK x)=some .local)->C):C:=by
 refine LM hc λkN gens cB pos e1 h1=>?_;refine eP h1 λz1 e2 h2=>?_;obtain⟨rW,it',ifs,W5⟩:=z1;refine k_ kN rW it' cB pos (by rw[e1,e2,show ifs=[]from bF (aL (aL (aL (aL (aL (aL (aL (aL (aL h2))))))))),show W5=0 from eq_of_beq (aR (aL (aL (aL (aL (aL (aL (aL (aL h2)))))))))]) (aR (aL (aL (aL (aL (aL (aL (aL h2)))))))) (aR (aL (aL (aL (aL (aL (aL h2))))))) (aR (aL (aL (aL (aL (aL h2)))))) (aR (aL (aL (aL (aL h2))))) (eq_of_beq (aR (aL (aL (aL h2))))) (λp hp=>?_) (λx hx=>eq_of_beq (List.all_eq_true.mp (aR (aL h2)) x hx));exact C9 (List.all_eq_true.mp (aR (aL (aL h2))) p hp)
theorem vP {C:Prop}{sc cB:Scope}{elt it:aZ}{xs:List String}{single:Bool}{kN rW it':Expr}{pos:Pos} (hc:bt gt sc (.comp elt xs single it) (.ListComp kN [⟨rW,it',[],0⟩] cB pos)=true) (k_:BY xs single rW=true->iG it'=true->bt gt sc it it'=true->bt gt (jv cB sc) elt kN=true->cB.kind=.function->
   (∀p,p∈cB.names->mK sc cB xs p)->
   (∀x,x∈xs->cB.names.lookup (aK x)=some .local)->C):C:=by
 refine r8 hc λW6 W7 ZQ VF W8 W9 ht Me c1 c2 hk jU Mf=>?_;cases W9;exact k_ ht Me c1 c2 hk jU Mf
theorem lookup_mem{k:NameKind}{x:Str}:∀{l:List (Str×NameKind)},l.lookup x=some k->(x,k)∈l:=by
 intro zz;induction zz with
 |nil=>
  intro h;simp at h
 |cons b0 r ih=>
  intro h;obtain⟨n,j⟩:=b0;rw[List.lookup_cons]at h;split at h
  ·rename_i q;cases h;rw[eq_of_beq q];exact .head _
  ·exact .tail _ (ih h)
theorem f9{s' sc:Scope}{x:Str}:(jv s' sc).names.lookup x=(s'.names.lookup x).map λk=>if(k==.free&&sc.kind==.function&&sc.names.lookup x==some .cell)then .cell else k:=by
 unfold jv;dsimp only;induction s'.names with
 |nil=>rfl
 |cons p r ih=>
  obtain⟨n,k⟩:=p;rw[List.map_cons,List.lookup_cons (as:=r)]
  by_cases q:(x==n)=true
  ·rw[q]
   have:=eq_of_beq q;subst this;dsimp only;rw[Option.map_some];split
   ·rw[List.lookup_cons,q]
   ·rw[List.lookup_cons,q]
  ·have q':(x==n)=false:=by simpa using q
   rw[q'];dsimp only;split<;>rw[List.lookup_cons,q']<;>exact ih
theorem ExcAt.drop'{h0 h h':Heap}{it e:Addr}{c:Nat}(x:ExcAt h0 h e c)(hs:Heap.ExtBut it h h')(nd:h0.get? it≠none):ExcAt h0 h' e c:=x.map (λ_ z=>z) λb o n g _=>hs _ _ (λq=>nd (q▸n)) g
theorem aG.iz{e:aZ}{e':Expr}{f:ae->AH->Out ae}{r:Except Nat ae×AH}{Q':Value->Shared->Prop}(h1:(aG (af aa w) hW gt P F n) e)(c1:bt gt env.scope e e'=true)(N:ja (af aa w) hW A ah n env l ρ H s.heap)(hb:iz (aW P F e l H) f=some r)
  (hE:bB (af aa w) hW ah s ρ H r Q E)
  (k:∀v H₁,f v H₁=some r->∀x aq ay t₁,ja (af aa w) hW A ah n env l aq H₁ ay->Step eQ (bl ah) ρ H.next s.heap aq H₁.next ay->bf (af aa w) hW ay aq H₁.next v x->
   bB (af aa w) hW ah { s with heap:=ay,toks:=t₁ } aq H₁ r Q E->Q' x { s with heap:=ay,toks:=t₁ }):wpAny (model aa w) A (eval e' env) Q' E s:=by
 refine bB.dn (Q':=Q') hb N hE (λv H₁ _=>k v H₁) λbX e1 o1=>?_;exact h1 e' A ah env l s ρ H bX _ E c1 N e1 o1
theorem zY{cB:Scope}{xs:List String}{C:Addr}{h:Heap}{N:Nat}(lr:bJ (af aa w) hW h ρ N (bl ah) env l)(hk:cB.kind=.function)
  (jU:∀p,p∈cB.names->mK env.scope cB xs p)
  {m:Str->Option Value} (Me:h.Ns C m) (hC:∀n,n<N->ρ n≠C) (PH:hW.get? C=none) (Xa:∀x c,env.cells.lookup x=some c->c≠C):
  bJ (af aa w) hW h ρ N (bl ah) (compEnvC cB (cS env cB.names []) C env) (without xs l):=by
 have kinds:∀x,((compEnvC cB (cS env cB.names []) C env).kindOf x=some .cell∨(compEnvC cB (cS env cB.names []) C env).kindOf x=some .free)->(x,NameKind.free)∈cB.names∧(env.kindOf x=some .cell∨env.kindOf x=some .free):=by
  intro x hx;have e:(compEnvC cB (cS env cB.names []) C env).kindOf x=(cB.names.lookup x).map λk=>if(k==.free&&env.scope.kind==.function&&env.scope.names.lookup x==some .cell)then .cell else k:=f9 (s':=cB) (sc:=env.scope);rw[e]at hx;cases q:cB.names.lookup x with
  |none=>rw[q]at hx;rcases hx with hx|hx<;>cases hx
  |some k=>
   have hm:=lookup_mem q;rcases jU _ hm with ⟨a,b,_⟩|⟨a,b⟩|a
   ·dsimp only at a;subst a
    rw[q]at hx;rcases hx with hx|hx<;>simp at hx
   ·dsimp only at a b;subst a
    exact⟨hm,b⟩
   ·dsimp only at a;subst a
    rw[q]at hx;rcases hx with hx|hx<;>simp at hx
 have lk:∀x c,(cS env cB.names []).lookup x=some c->env.cells.lookup x=some c:=λx c=>oz (λ_ _ h=>by simp at h);have has:∀x,(x,NameKind.free)∈cB.names->(env.kindOf x=some .cell∨env.kindOf x=some .free)->∃c,(cS env cB.names []).lookup x=some c:=λx hx hk=>by
  have:=C8 (env:=env) (l:=cB.names) (acc:=[]) (.inr ⟨hx,lr.cell x hk⟩);exact Option.isSome_iff_exists.mp this
 exact{
  fn:=hk
  glob:=lr.glob
  blt:=lr.blt
  dict:=⟨m,Me,λx v e z k=>by
   exfalso
   rw[gI]at e
   split at e
   ·exact absurd e nn
   ·rename_i hx
    have e2:(compEnvC cB (cS env cB.names []) C env).kindOf (aK x)=(cB.names.lookup (aK x)).map λk=>if(k==.free&&env.scope.kind==.function&&env.scope.names.lookup (aK x)==some .cell)then .cell else k:=f9 (s':=cB) (sc:=env.scope)
    rw[e2]at k
    cases q:cB.names.lookup (aK x)with
    |none=>rw[q]at k;cases k
    |some j=>
     rw[q]at k
     rcases jU _ (lookup_mem q)with ⟨a,b,c⟩|⟨a,b⟩|a
     ·rcases c with c|⟨y,hy,c⟩
      ·exact z c
      ·have:=jM c;subst this;exact hx (by simpa using hy)
     ·dsimp only at a;subst a
      simp at k
      split at k<;>cases k
     ·dsimp only at a;subst a
      simp at k⟩
  cell:=λx hx=>has x (kinds x hx).1 (kinds x hx).2
  tB:=λx v e hx=>by
   rw[gI]at e
   split at e
   ·exact absurd e nn
   ·refine lr.nV x v e (kinds _ hx).2 λc u e1 e2 e3=>?_
    refine aV (has _ (kinds _ hx).1 (kinds _ hx).2) λc' Kc=>?_
    have:=lk _ _ Kc
    rw[e1]at this;replace this:=Option.some.inj this;subst this
    exact⟨c,u,Kc,e2,e3⟩
  kM:=⟨hC,PH⟩
  xc:=λx c e=>by
   refine lr.nW x c (lk x c e) λa1 a2 a3 a4 a5=>?_
   exact⟨a1,a2,a3,a4,Xa x c (lk x c e)⟩
  sep:=λx y c e1 e2=>lr.sep x y c (lk x c e1) (lk y c e2)
  frame:=lr.frame }
theorem ExcAt.toStep{aa:Program}{w:World}{hW h0 h h':Heap}{fr:List Addr}{ρ bq PI:Nat->Addr}{N N' VG:Nat}(x:Step eQ fr ρ N h0 bq N' h)(y:Step (kO h0) fr bq N' h PI VG h'):Step eQ fr ρ N h0 PI VG h':=
 ((x.weaken λ_ f=>f.elim).trans y).Kd λb hb=>hb
noncomputable def zZ(aa:Program)(w:World)(hW:Heap)(ah:List Env)(nt:Env)(lf:Loc)(f:ae->AH->Out ae)(r:Except Nat ae×AH)(s:Shared)(aq:Nat->Addr)(H₁:AH)(ay:Heap)(I D:Addr)(k:Nat)(s':Shared):Prop:=
 ∀C:Prop,(∀bq Hc i h t,s'={ s with heap:=h,toks:=t }->St (af aa w) hW ah bq Hc h->cJ (af aa w) hW h bq Hc.next I i->(∀n,n<Hc.next->bq n≠I)->Step eQ (bl ah) aq H₁.next ay bq Hc.next h->
  bJ (af aa w) hW h bq Hc.next (bl ah) nt lf->H₁.next<Hc.next->bq H₁.next=D->eO k f H₁.next i Hc=some r->C)->C
noncomputable def jx(P:cW)(F:dQ)(elt:aZ)(xs:List String)(single:Bool)(l:Loc):ae->AH->Out ae:=λv H=>fM (r7 xs single v l) λl'=>aW P F elt l' H
theorem vQ{it:Addr}{i:Iter}{Q:Value->Shared->Prop}{N:Nat}(x:cJ (af aa w) hW s.heap ρ N it i)(h:Q (.ref it) s):wpAny (model aa w) A (pyIter (.ref it)) Q E s:=by
 cases i with
 |seq vs=>obtain⟨t,items,k,hit,_⟩:=x;exact wpAny_pyIter_tupleiter hit h
 |lst m k=>obtain⟨_,hit⟩:=x;exact wpAny_pyIter_listiter hit h
 |nR k m=>obtain⟨_,hit⟩:=x;exact wpAny_pyIter_rangeiter hit h
theorem uG{it':Expr}{env:Env}(h:iG it'=true)(x:Value):foldedSetIterable it' env x=pure x:=by
 cases it'<;>first|rfl|exact absurd h ff
set_option tactic.hygienic true in
theorem uH{elt it:aZ}{xs:List String}{single:Bool}{use:Option (Value->Sem Unit)}(sy:(hW.get? sysModules).isSome=true)(h1:(aG (af aa w) hW gt P F n) it)(h2:(aG (af aa w) hW gt P F n) elt)
  {kN rW it':Expr}{cB:Scope}{pos:Pos}{A:Around}{ah:List Env}{env:Env}{l:Loc}{s:Shared}{ρ:Nat->Addr}{H:AH}{r:Except Nat ae×AH}{PJ Q E:Value->Shared->Prop}
  (hc:bt gt env.scope (.comp elt xs single it) (.ListComp kN [⟨rW,it',[],0⟩] cB pos)=true) (N:ja (af aa w) hW A ah n env l ρ H s.heap) (he:aW P F (.comp elt xs single it) l H=some r) (hq:bB (af aa w) hW ah s ρ H r PJ E)
  (fin:∀v H' x C bq h' t,r=(.ok v,H')->ja (af aa w) hW A ah n env l bq H' h'->Step eQ (bl ah) ρ H.next s.heap bq H'.next h'->bf (af aa w) hW h' bq H'.next v x->(∃m,h'.Ns C m)->(∀n,n<H'.next->bq n≠C)->s.heap.get? C=none->C∉bl ah->hW.get? C=none->¬Own env C->
   compPost (model aa w) A E use Q x C (.ok .next) { s with heap:=h',toks:=t }):
  wpAny (model aa w) A (comprehension (.ListComp kN [⟨rW,it',[],0⟩] cB pos) cB env (firstIterPos [⟨rW,it',[],0⟩] pos) (newList []) (firstAsync [⟨rW,it',[],0⟩]) (firstIter [⟨rW,it',[],0⟩] env) use) Q E s:=by
 refine vP hc λht Me c1 c2 hk jU Mf=>?_;have PK:closureFor cB env=pure (cS env cB.names []):=tK λp hp hf=>N.lr.cell p.1 ((jU p hp).free hf);have hs:=uG (env:=env) Me;show wpAny (model aa w) A (comprehension _ _ env _ (newList []) false _ use) Q E s;refine wpAny_comprehension_free (use:=use) rfl hs PK hk (λp hp hl=>(jU p hp).loc hl) ?_;refine aG.iz (Q':=_) h1 c1 N he hq λv H₁ f1 x aq ay t₁ aN bL br aM=>?_;clear he hq;refine ed f1 λi hi f1=>?_;have f2:eO 100000 (jx P F elt xs single l) H₁.next i (H₁.new (.list []))=some r:=f1;clear f1;refine ou aN.st br hi λo hit=>?_;refine wpAny_newObj_type ?_ (by simp[sizeOk]);refine wpAny_newFunctionEnv (λp hp=>by rcases(jU p hp).kind with q|q|q<;>rw[q]<;>simp) (λx hx=>by simp at hx) (λtL pF jV=>?_) hk;dsimp only at pF jV ⊢;simp only[List.length_nil,Nat.add_zero];have bO:=aN.st.push o;have bh:Step eQ (bl ah) aq H₁.next ay aq H₁.next (ay.push o):=.push _;refine aN.st.gF λa1 a2 a3=>?_;generalize hI:ay.objs.size=I at hit a1 a2 a3 ⊢;have Mg:ay.get? I=none:=by rw[<-hI];exact cC _
 refine bO.gF λb1 b2 b3=>?_;have VH:I≠(ay.push o).objs.size:=by rw[Heap.size_push,hI];exact Nat.ne_of_lt (Nat.lt_succ_self _)
 have dC:Step eQ (bl ah) aq H₁.next ay (ext aq H₁.next (ay.push o).objs.size) (H₁.next+1) ((ay.push o).push (W.listOf #[] 0)):=bh.trans (.bR _);have iN:St (af aa w) hW ah (ext aq H₁.next (ay.push o).objs.size) (H₁.new (.list [])) ((ay.push o).push (W.listOf #[] 0)):=bO.bR (W.listOf #[] 0) (.list []) ⟨[],0,Heap.get?_push_size _ rfl,trivial⟩;have vR:cJ (af aa w) hW ((ay.push o).push (W.listOf #[] 0)) (ext aq H₁.next (ay.push o).objs.size) (H₁.next+1) I i:=hit.mono (.push _ _) (Nat.le_succ _) (λ_ z=>fE z) λo' e=>Heap.get?_push_of_some _ e;generalize hD:(ay.push o).objs.size=D at VH dC iN vR pF jV ⊢;have Xb:({ cls:=.type "list",dict:=none,data:=.seq ([]:List Value).toArray,slots:=#[] }:Obj)=W.listOf #[] 0:=rfl;rw[Xb]at pF jV ⊢;generalize ZR:(ay.push o).push (W.listOf #[] 0)=dG at dC iN vR pF jV ⊢;refine iN.gF λd1 d2 d3=>?_;generalize VI:dG.objs.size=C at pF jV d1 d2 d3 ⊢;have VJ:dG.get? C=none:=by rw[<-VI];exact cC _
 have Mh:ay.get? C=none:=dC.live C VJ;have RO:I≠C:=λq=>vR.there λoi _ e _ _=>by rw[q,VJ]at e;exact absurd e nn
 have gC:(dG.push { cls:=.type "dict",data:=.dict #[] }).get? C=some { cls:=.type "dict",data:=.dict #[] }:=by rw[<-VI];exact Heap.get?_push_size _ rfl
 have S6:∀o,(dG.push { cls:=.type "dict",data:=.dict #[] }).get? C=some o->¬bA o:=λo e=>by
  rw[gC]at e;cases e;rintro(⟨e,_⟩|⟨e,_⟩)<;>simp at e
 have uI:St (af aa w) hW ah (ext aq H₁.next D) (H₁.new (.list [])) tL:=me S6 jV.extBut d2 d3 d1 (iN.push _);have qp:Step eQ (bl ah) aq H₁.next ay (ext aq H₁.next D) (H₁.new (.list [])).next tL:=gM S6 jV.extBut Mh (dC.trans (.push _));have z0:cJ (af aa w) hW tL (ext aq H₁.next D) (H₁.new (.list [])).next I i:=vR.mono ((iC.push _ _).trans (gK S6 jV.extBut)) (Nat.le_refl _) (λ_ _=>rfl) λo' e=>jV.extBut _ _ RO (Heap.get?_push_of_some _ e);have E9:∀n,n<(H₁.new (.list [])).next->(ext aq H₁.next D) n≠I:=λn hn=>by
  change n<H₁.next+1 at hn;unfold ext;split
  ·exact Ne.symm VH
  ·exact a1 n (by omega)
 have z7:∀x c,env.cells.lookup x=some c->ay.get? c≠none:=λx c e=>by
  refine aN.lr.nW x c e λz1 _ _ _ _=>?_;refine aO z1 ?_;clear z1;intro qN oc g _;rw[g];simp
 have Fb:=zY (xs:=xs) (aN.lr.cZ qp) hk jU pF d1 d2 λx c e q=>z7 x c e (q▸Mh);have PM:{ newEnv cB C env.globals (cS env cB.names []) env.qual none Value.none (some env) builtinsNs with scope:=relabel cB env }=compEnvC cB (cS env cB.names []) C env:=rfl;have PN:(newEnv cB C env.globals (cS env cB.names []) env.qual none Value.none (some env) builtinsNs).locals=C:=rfl;rw[PM,PN];have PO:¬Own env C:=by
  rintro(q|⟨x,q⟩)
  ·refine aN.lr.kj λm z1 _=>?_
   refine rI z1 ?_;clear z1;intro o' _ _ g _;rw[<-q,Mh]at g;exact absurd g nn
  ·exact z7 x C q Mh
 have Kw:¬Own (compEnvC cB (cS env cB.names []) C env) I:=by
  rintro(q|⟨x,q⟩)
  ·exact RO q
  ·exact z7 x I (oz (λ_ _ h=>by simp at h) q) Mg
 have RP:(compEnvC cB (cS env cB.names []) C env).scope=jv cB env.scope:=rfl;have Fc:(compEnvC cB (cS env cB.names []) C env).locals=C:=rfl;have Mi:∀x,x∈xs->(compEnvC cB (cS env cB.names []) C env).scope.names.lookup (aK x)=some .local:=λx hx=>by rw[RP,f9,Mf x hx];rfl
 generalize compEnvC cB (cS env cB.names []) C env=nt at Fb Kw RP Fc Mi ⊢;have loop:∀s',zZ aa w hW ah nt (without xs l) (jx P F elt xs single l) r s aq H₁ ay I D 100000 s'->
   codeAny (model aa w) A (.compLoop (.ListComp kN [⟨rW,it',[],0⟩] cB pos) 0 (.ref I) (.ref D) nt) (compPost (model aa w) A E use Q (.ref D) C) s':=by
  intro s' h0;refine vO (zZ aa w hW ah nt (without xs l) (jx P F elt xs single l) r s aq H₁ ay I D) ?_ 100000 h0;intro k s' inv;refine inv _ λbq Hc j h t z fg it' vU dH md Mj PQ run'=>?_;clear inv;subst z;have S7:∀{bq:Nat->Addr}{N:Nat}{h:Heap}{lf:Loc},bJ (af aa w) hW h bq N (bl ah) nt lf->∃m,h.Ns C m:=λlr=>by
   refine lr.kj λm q _=>?_;rw[Fc]at q;exact⟨m,q⟩
  have PS:∀{h:Heap},(∃m,h.Ns C m)->∀o,h.get? C=some o->¬bA o:=by
   rintro h ⟨m,o',es,ep,g,d,_⟩ o e;rw[g]at e;replace e:=Option.some.inj e;subst e;rintro(⟨_,_,_,q⟩|⟨_,_,q⟩)<;>rw[d]at q<;>cases q
  cases k with
  |zero=>exact absurd run' nn
  |succ k=>
  rw[vt]at run';split at run'
  case h_1=>cases run'
  ·rename_i hx
   replace run':=Option.some.inj run';subst run';refine gG aN.cx.hand fg vU a2 it' hx (λ_ h' Mk=>?_) (λv i' q=>by cases q);refine aV (S7 md) λm hm=>?_;refine it'.there λoi Xc gi di S8=>?_;have Dc:∀o,h.get? I=some o->¬bA o:=λo e=>by rw[gi]at e;cases e;exact S8
   have HR:=me Dc Mk a2 a3 vU fg;have VK:=gM Dc Mk Mg dH;have Xd:h'.Ns C m:=hm.extBut Mk (Ne.symm RO);have nC:∀n,n<Hc.next->bq n≠C:=by have:=md.kM.1;rw[Fc]at this;exact this
   have hn:=Mj;have hd:=PQ;exact fin _ _ (.ref D) C bq h' t rfl (aN.next HR VK) (bL.trans VK) ⟨hn,by rw[hd]⟩ ⟨m,Xd⟩ nC (bL.live C Mh) d3 d2 PO
  ·rename_i v i' hx
   refine gG aN.cx.hand fg vU a2 it' hx (λq=>by cases q) (λv' VL q h' u t' Dd xP xQ vu xR=>?_);replace q:=Prod.mk.inj (Option.some.inj q);obtain rfl:=q.1;obtain rfl:=q.2;refine BZ (s:={ s with heap:=h',toks:=t' }) xR ?_;have Kx:=xQ (λb=>b=I) rfl;have S9:bJ (af aa w) hW h' bq Hc.next (bl ah) nt (without xs l):=md.step Kx (λ_ m=>m) λb e=>by subst e;exact Kw
   have IB:=run';obtain⟨l',hb,VM⟩:∃l',r7 xs single v l=some l'∧∀o,jx P F elt xs single l v Hc=o->aW P F elt l' Hc=o:=by
    unfold jx at IB ⊢;cases q:r7 xs single v l with
    |none=>rw[q]at IB;exact absurd IB nn
    |some l'=>exact⟨l',rfl,λo e=>e⟩
   refine xK hb (m:=without xs l) λy hy=>by rw[gI,if_neg (by simpa using hy)] λm' Ed ha=>?_
   refine gH (s:={ s with heap:=h',toks:=t' }) (env:=nt) (X:=λb=>b=C) aN.cx.hand ht (λx hx=>⟨λ_=>Fc,λc q _=>by rw[Mi x hx]at q;cases q⟩) (by
    rw[List.all_eq_true];intro x hx;unfold iH;rw[Mi x hx]) Ed xP S9 vu λr9 IC xS xT B0=>?_
   have vV:bJ (af aa w) hW r9 bq Hc.next (bl ah) nt l':=B0.sub λy v e=>(ha y).trans e;have z8:Step eQ (bl ah) aq H₁.next ay bq Hc.next r9:=Step.Kd (X:=λb=>b=I∨b=C) (((dH.weaken λ_ f=>f.elim).trans (Kx.weaken λ_ e=>.inl e)).trans (xT.weaken λ_ e=>.inr e)) λb hb=>by
    exact hb.elim (λz=>z▸Mg) λz=>z▸Mh
   have xU:=xR.step xT vU RO a3;have Fd:ja (af aa w) hW A ah n nt l' bq Hc r9:=⟨aN.cx,xS,vV⟩
   refine B0.vy λL Fe Ff=>?_;refine cX IB (λy xV e5 f5=>?_) λc xV e5 f5=>?_
   ·have e6:=VM _ e5
    refine h2 kN A ah nt l' { s with heap:=r9,toks:=IC } bq Hc _ _ _ (RP▸c2) Fd e6 ?_;intro z uJ Ml De Fg oB vz;have zO:H₁.next<xV.next:=Nat.lt_of_lt_of_le Mj oB.le;have VN:uJ H₁.next=D:=(oB.old _ Mj).trans PQ;refine jG f5 λvs z9 f5=>?_
    ·refine fX f5 λhle f5=>?_
     ·have ap:=qj (aa:=aa) (w:=w) (hW:=hW) (n:=n) (A:=A) (ah:=ah) (s:={ s with heap:=Ml,toks:=De }) (ρ:=uJ) (H:=xV) (o:=.ref H₁.next) (a := "append") (as:=[y]) (x:=.ref D) (xs:=[z]) (r:=(.ok .none,xV.set H₁.next (.list (vs++[y]))))
       (Q:=λ_ xO=>∃m,m<k+1∧zZ aa w hW ah nt (without xs l) (jx P F elt xs single l) r s aq H₁ ay I D m xO)
       (E:=notedBy (model aa w) A nt λe s'=>compPost (model aa w) A E use Q (.ref D) C (.error e) s') aN.cx sy Fg ⟨zO,by rw[VN]⟩ ⟨vz,trivial⟩ (by show pq (xV.get H₁.next) _ _=_;rw[z9];exact if_pos hle) (by
        intro z2 Ky Fh Ta Fi sf Xe
        have xW:=xU.1.step oB xU.2 (λf=>f.elim) a3
        have Kz:=xW.1.step sf xW.2 (λf=>f.elim) a3
        have PT:bJ (af aa w) hW Fh Ky (xV.set H₁.next (.list (vs++[y]))).next (bl ah) nt (without xs l):=((vV.sub λy v e=>by
         rw[gI]at e
         split at e
         ·exact absurd e nn
         ·rename_i hy
          rw[xN hb (by simpa using hy)];exact e).cZ oB).cZ sf
        exact⟨k,Nat.lt_succ_self k,λ_ q=>q Ky _ i' Fh Ta rfl Fi Kz.1 Kz.2 ((z8.trans oB).trans sf) PT (Nat.lt_of_lt_of_le zO sf.le) ((sf.old _ zO).trans VN) f5⟩)
      rw[r5]at ap;exact ap
   ·have e6:=VM _ e5
    subst f5;refine h2 kN A ah nt l' { s with heap:=r9,toks:=IC } bq Hc _ _ _ (RP▸c2) Fd e6 ?_;intro e uJ Ml De Fg oB Tb;refine eG (h0:=r9) (s:={ s with heap:=Ml,toks:=De }) aN.cx.stack Fe Ff ⟨xS.stays,xS.bW,oB.live⟩ Fg (.inr Tb) λFh Fi sf Tc PU=>?_;have KA:=vV.cZ oB;refine aV (S7 KA) λm hm=>?_;have Td:=PU.ns hm;show compPost (model aa w) A E use Q (.ref D) C (.error (.ref e)) _;have key:∃m,Fh.Ns C m∧∀h',Heap.SameBut C Fh h'->∀Fj:Env,Fj.locals=C->wpAny (model aa w) A (PySem.passOn "comprehension.variables-let-go" (.ref e) Fj:Sem Value) (λ_ _=>False) E { s with heap:=h',toks:=De }:=?key
    ·cases use<;>exact key
    refine⟨m,Td,λh9 Te Fj _=>?_⟩;have nC:∀n,n<xV.next->uJ n≠C:=by have:=KA.kM.1;rw[Fc]at this;exact this
    have Tf:r9.get? C≠none:=by
     refine Lz (S7 vV) λm6 o6 _ _ g6 _=>?_;rw[g6];simp
    have x9:ExcAt r9 h9 e c:=Tc.drop' Te.extBut Tf;have Tg:=me (PS ⟨m,Td⟩) Te.extBut d2 d3 nC Fi;have PV:Step eQ (bl ah) aq H₁.next ay uJ xV.next h9:=gM (PS ⟨m,Td⟩) Te.extBut Mh (ExcAt.toStep (aa:=aa) (w:=w) (hW:=hW) (z8.trans oB) (sf.weaken λb hb=>z8.live b hb));refine ot (h0:=ay) (s:={ s with heap:=h9,toks:=De }) ⟨aN.st.stays,aN.st.bW,PV.live⟩ Tg (x9.back z8.live) λhA Xf RQ xA _=>?_;exact aM e uJ hA De Xf (ExcAt.toStep (aa:=aa) (w:=w) (hW:=hW) PV RQ) xA
 refine codeAny_compStart_list (loop _ λ_ q=>q _ _ i _ _ rfl uI z0 E9 qp Fb (Nat.lt_succ_self _) dB f2) ?_;exact vQ (s:={ s with heap:=tL,toks:=t₁ }) z0 (loop _ λ_ q=>q _ _ i _ _ rfl uI z0 E9 qp Fb (Nat.lt_succ_self _) dB f2)
theorem Fl{elt it:aZ}{xs:List String}{single:Bool}(sy:(hW.get? sysModules).isSome=true)(h1:(aG (af aa w) hW gt P F n) it)(h2:(aG (af aa w) hW gt P F n) elt):(aG (af aa w) hW gt P F n) (.comp elt xs single it):=by
 intro e' A ah env l s ρ H r Q E hc N he hq;refine r8 hc λkN rW it' cB pos z1 _ _ _ _ _ _ _=>?_;subst z1;rw[eval_ListComp];refine uH (use:=none) sy h1 h2 hc N he hq λv H' x C bq h' t e N' sp vr ns nC hC RR PH _=>?_;subst e;refine aV ns ?_;clear ns;intro m hm;refine⟨m,hm,λE8 Aa=>?_⟩;have nf:∀o,h'.get? C=some o->¬bA o:=by
  refine ft hm ?_;clear hm;intro o' es ep g d _;intro o e;rw[g]at e;replace e:=Option.some.inj e;subst e;rintro(⟨_,_,_,q⟩|⟨_,_,q⟩)<;>rw[d]at q<;>cases q
 exact hq x bq E8 t (me nf Aa.extBut PH RR nC N'.st) (gM nf Aa.extBut hC sp) (vr.mono (gK nf Aa.extBut) (Nat.le_refl _) λ_ _=>rfl)
end
section
variable{aa:Program}{w:World}{hW:Heap}{gt:List (String×ae)}{P:cW}{F:dQ}{n:Nat}{K:Frag}{mg mb:Str->Option Value}
theorem Ab{op kX:rh}{a b c:aZ}(sy:(hW.get? sysModules).isSome=true)(h1:(aG (af aa w) hW gt P F n) a)(h2:(aG (af aa w) hW gt P F n) b)(h3:(aG (af aa w) hW gt P F n) c):(cv (af aa w) hW gt P F n) (.qL a op b kX c):=by
 intro e' A ah env l s ρ H r Q E hc N he hq _;refine xt hc λa' iB cI b' c' pos z1 k1 k2 k3 k4 k5 k6 k7=>?_;subst z1;have e0:isTrue (.Compare a' [iB,cI] [b',c'] pos) env (eval (.Compare a' [iB,cI] [b',c'] pos) env)=(do
   let x <-eval a' env
   let y <-holding [x] (eval b' env)
   standAt pos
   let z <-holding [x,y] (compareOp iB x y)
   release [x,y] [z]
   if <-holding [z,y] (truthy z)then(do
    let u <-holding [y] (markedBehindIn cI c' (eval c' env))
    standAt pos
    let z <-operate [y,u] (compareOp cI y u)
    holding [z] (truthy z))else pure false):=rfl
 rw[e0];refine wpAny_bind (wpAny_mono (rm (Q:=λv s'=>∀b,v=.bool b->Q b s') (f:=λz y H=>match z with
   | .bool true=>iz (aW P F c l H) λu H=>fM (bz kX y u H) λq=>ok (.bool q) H
   |_=>ok (.bool false) H) (W:=λz x y s'=>wpAny (model aa w) A (do
   release [x,y] [z]
   if <-holding [z,y] (truthy z)then(do
    let u <-holding [y] (markedBehindIn cI c' (eval c' env))
    standAt pos
    let z <-operate [y,u] (compareOp cI y u)
    holding [z] (truthy z))else pure false) Q E s') sy h1 h2 k1 k5 k6 ?_ N hq ?_) ?_ λ_ _ x=>x)
 ·rw[<-he]
  congr 1
  funext x H
  congr 1
  funext y H
  congr 1
  funext q
  cases q<;>rfl
 ·intro q v H₁ f1 x y aq ay t₁ aN sp vr aM
  refine wpAny_bind (wpAny_release (wpAny_bind (wpAny_holding (wpAny_truthy_bool ?_))));cases q with
  |false=>
   exact wpAny_pure (bH.gY (Q:=λv s'=>∀b,v=.bool b->Q b s') (aM.of f1) aN.st (x:=.bool false) rfl _ rfl)
  |true=>
   refine bB.dn (Q':=λu cz=>wpAny (model aa w) A (do standAt pos;let z <-operate [y,u] (compareOp cI y u);holding [z] (truthy z)) Q E cz) f1 aN aM (by
    intro u bU _ f2 z b9 bV jK eh bh cf gv
    refine ed f2 λq e3 f2=>?_
    exact wpAny_bind (wpAny_standAt (wpAny_bind (wpAny_operating (pB sy k2 eh.cx eh.st (bh.i0 vr) cf e3 λt=>wpAny_holding (wpAny_truthy_bool (bH.now (Q:=λv s'=>∀b,v=.bool b->Q b s') (gv.of f2) eh.st (x:=.bool q) rfl _ rfl))))))) λvH e2 o2=>?_
   rw[markedBehindIn_of_false (iL k4)];exact wpAny_bind (wpAny_holding (h3 c' A ah env l _ aq H₁ vH _ E k7 aN e2 o2))
 ·intro x aS hx
  refine wpAny_bind (wpAny_mono (wpAny_holding hx) (λy cz hy=>?_) λ_ _ z=>z);exact wpAny_bind (wpAny_standAt (wpAny_bind (wpAny_holding hy)))
theorem xX:(aG (af aa w) hW gt P F n) .dead:=by
 intro e' A ah env l s ρ H r Q E hc N he hq;exact absurd he nn
theorem gN:∀{es:List aZ},(∀e,e∈es->(aG (af aa w) hW gt P F n) e)->(fF (af aa w) hW gt P F n) es:=by
 intro zz;induction zz with
 |nil=>
  intro _;exact CL
 |cons e es ih=>
  intro h;exact zK (h e (.head _)) (ih λe he=>h e (.tail _ he))
structure Base(aa:Program)(w:World)(hW:Heap)(gt:List (String×ae))(P:cW)(K:Frag)(mg mb:Str->Option Value):Prop where
 names:rX (af aa w) gt hW mg mb
 classes:gE P K hW
 sys:(hW.get? sysModules).isSome=true
theorem pl{e:Expr}{n:Nat}{b:Bool}(h:(Nat.beq (EV.of e).tag n&&b)=true)(q:plainT (EV.back n (EV.of e) e)=true):plainT e=true:=(congrArg plainT (EV.is (az h).1)).trans q
mutual
theorem aY(B:Base aa w hW gt P K mg mb)(SF:jR aa w hW F n)(KF:Keeps K F):∀e:aZ,(aG (af aa w) hW gt P F n) e∧(cv (af aa w) hW gt P F n) e
 | .cst v=>⟨BL v,bC (λsc e' h=>.inr (pl h rfl)) (BL v)⟩
 | .loc x=>⟨BM x,bC (λsc e' h=>.inr (pl h rfl)) (BM x)⟩
 | .glob x v=>⟨xj B.names x v,bC (λsc e' h=>.inr (pl h rfl)) (xj B.names x v)⟩
 | .tup es=>have h:=vF (gN (λe he=>(fJ B SF KF es e he).1));⟨h,bC (λsc e' h=>.inr (pl h rfl)) h⟩
 | .lst es=>have h:=Ig (gN (λe he=>(fJ B SF KF es e he).1));⟨h,bC (λsc e' h=>.inr (pl h rfl)) h⟩
 | .lY ks es=>have h:=Ir (λe he=>(fJ B SF KF es e he).1);⟨h,bC (λsc e' h=>.inr (pl h rfl)) h⟩
 | .attr e a=>have h:=E1 B.classes (aY B SF KF e).1;⟨h,bC (λsc e' h=>.inr (pl h rfl)) h⟩
 | .sub e i=>have h:=Ip (aY B SF KF e).1 (aY B SF KF i).1;⟨h,bC (λsc e' h=>.inr (pl h rfl)) h⟩
 | .iZ e k=>have h:=zQ (aY B SF KF e).1;⟨h,bC (λsc e' h=>.inr (pl h rfl)) h⟩
 | .wU e k=>have h:=ES (aY B SF KF e).1;⟨h,bC (λsc e' h=>.inr (pl h rfl)) h⟩
 | .p0 e=>have h:=CX (aY B SF KF e).1;⟨h,bC (λsc e' h=>.inr (pl h rfl)) h⟩
 | .call f es=>have h:=E4 SF KF B.classes.uD B.sys (aY B SF KF f).1 (gN (λe he=>(fJ B SF KF es e he).1));⟨h,bC (λsc e' h=>.inr (pl h rfl)) h⟩
 | .aE o a es=>have h:=C6 B.classes SF KF B.sys (aY B SF KF o).1 (gN (λe he=>(fJ B SF KF es e he).1));⟨h,bC (λsc e' h=>.inr (pl h rfl)) h⟩
 | .bin op a b=>have h:=Ij (aY B SF KF a).1 (aY B SF KF b).1;⟨h,bC (λsc e' h=>.inr (pl h rfl)) h⟩
 | .cmp a op b=>Ik B.sys (aY B SF KF a).1 (aY B SF KF b).1
 | .qL a op b kX c=>have h:=EM B.sys (aY B SF KF a).1 (aY B SF KF b).1 (aY B SF KF c).1;⟨h,Ab B.sys (aY B SF KF a).1 (aY B SF KF b).1 (aY B SF KF c).1⟩
 | .and es=>snd_and (fJ B SF KF es)
 | .or es=>LY (fJ B SF KF es)
 | .not e=>Il (aY B SF KF e).1 (aY B SF KF e).2
 | .neg e=>have h:=Im (aY B SF KF e).1;⟨h,bC (λsc e' h=>.inr (BU h λ_ _ z _=>z▸rfl)) h⟩
 | .ite c a b=>Io (aY B SF KF c).2 (aY B SF KF a).1 (aY B SF KF b).1 (aY B SF KF a).2 (aY B SF KF b).2
 | .comp elt xs single it=>have h:=Fl B.sys (aY B SF KF it).1 (aY B SF KF elt).1;⟨h,bC (λsc e' h=>.inr (pl h rfl)) h⟩
 | .dead=>⟨xX,bC (λ_ _ _=>.inl rfl) xX⟩
theorem fJ(B:Base aa w hW gt P K mg mb)(SF:jR aa w hW F n)(KF:Keeps K F):∀(es:List aZ),∀e,e∈es->(aG (af aa w) hW gt P F n) e∧(cv (af aa w) hW gt P F n) e
 |[]=>λ_ h=>by cases h
 |a::es=>by
  have h1:=aY B SF KF a;have h2:=fJ B SF KF es;intro e h;rcases List.mem_cons.mp h with rfl|h
  ·exact h1
  ·exact h2 e h
end
end
section
variable{aa:Program}{w:World}{hW:Heap}{gt:List (String×ae)}{P:cW}{F:dQ}{n:Nat}{K:Frag}{mg mb:Str->Option Value}
 {A:Around}{ah:List Env}{env:Env}{l:Loc}{s:Shared}{ρ aq:Nat->Addr}{H H₁:AH}{ay:Heap}{t₁:Nat}{Q:Flow->Shared->Prop}{E:Value->Shared->Prop}
noncomputable def Fm(aa:Program)(w:World)(hW:Heap)(ah:List Env)(env:Env)(s:Shared)(ρ:Nat->Addr)(H:AH)(l':Loc)(H₁:AH)(Kn:Shared->Prop):Prop:=
 ∀bq h' t,St (af aa w) hW ah bq H₁ h'->Step (Own env) (bl ah) ρ H.next s.heap bq H₁.next h'->bJ (af aa w) hW h' bq H₁.next (bl ah) env l'->Kn { s with heap:=h',toks:=t }
noncomputable def PW(aa:Program)(w:World)(hW:Heap)(ah:List Env)(env:Env)(s:Shared)(ρ:Nat->Addr)(H:AH)(v:ae)(H₁:AH)(Q:Flow->Shared->Prop):Prop:=
 ∀x bq h' t,St (af aa w) hW ah bq H₁ h'->Step (Own env) (bl ah) ρ H.next s.heap bq H₁.next h'->bf (af aa w) hW h' bq H₁.next v x->Q (.ret x) { s with heap:=h',toks:=t }
noncomputable def Mm(aa:Program)(w:World)(hW:Heap)(ah:List Env)(env:Env)(s:Shared)(ρ:Nat->Addr)(H:AH)(c:Nat)(l':Loc)(H₁:AH)(E:Value->Shared->Prop):Prop:=
 ∀e bq h' t,St (af aa w) hW ah bq H₁ h'->Step (Own env) (bl ah) ρ H.next s.heap bq H₁.next h'->bJ (af aa w) hW h' bq H₁.next (bl ah) env l'->qm s.heap h' e c->E (.ref e) { s with heap:=h',toks:=t }
noncomputable def c8(aa:Program)(w:World)(hW:Heap)(ah:List Env)(env:Env)(s:Shared)(ρ:Nat->Addr)(H:AH)(r:ek×Loc×AH)(Q:Flow->Shared->Prop)(E:Value->Shared->Prop):Prop:=match r with
 |(.next,l',H₁)=>Fm aa w hW ah env s ρ H l' H₁ (Q .next)
 |(.cont,l',H₁)=>Fm aa w hW ah env s ρ H l' H₁ (Q .cont)
 |(.ret v,_,H₁)=>PW aa w hW ah env s ρ H v H₁ Q
 |(.exc c,l',H₁)=>Mm aa w hW ah env s ρ H c l' H₁ E
theorem qm.back{h0 h1 h:Heap}{e:Addr}{c:Nat}(x:qm h1 h e c)(live:∀b,h1.get? b=none->h0.get? b=none):qm h0 h e c:=x.imp (·.back live) (·.back live)
theorem c8.after{r:ek×Loc×AH}(x:c8 aa w hW ah env s ρ H r Q E)(sp:Step (Own env) (bl ah) ρ H.next s.heap aq H₁.next ay):c8 aa w hW ah env { s with heap:=ay,toks:=t₁ } aq H₁ r Q E:=by
 obtain⟨f,l',bU⟩:=r;cases f with
 |next=>exact λbq h' t st dH lr=>x bq h' t st (sp.trans dH) lr
 |cont=>exact λbq h' t st dH lr=>x bq h' t st (sp.trans dH) lr
 |ret v=>exact λy bq h' t st dH vr=>x y bq h' t st (sp.trans dH) vr
 |exc c=>exact λe bq h' t st dH lr ex=>x e bq h' t st (sp.trans dH) lr (ex.back sp.live)
theorem Df{b:Addr}(f:eQ b):Own env b:=f.elim
noncomputable def du(aa:Program)(w:World)(hW:Heap)(gt:List (String×ae))(P:cW)(F:dQ)(n:Nat)(st:bD):Prop:=∀(s':Stmt) (A:Around) (ah:List Env) (env:Env) (l:Loc) (s:Shared) (ρ:Nat->Addr) (H:AH) (r:ek×Loc×AH) (Q:Flow->Shared->Prop) (E:Value->Shared->Prop),
 xg gt env.scope st s'=true->ja (af aa w) hW A ah n env l ρ H s.heap->exec P F st l H=some r->c8 aa w hW ah env s ρ H r Q E->wpAny (model aa w) A (PySem.exec s' env) Q E s
noncomputable def dD(aa:Program)(w:World)(hW:Heap)(gt:List (String×ae))(P:cW)(F:dQ)(n:Nat)(ss:List bD):Prop:=∀(s':List Stmt) (A:Around) (ah:List Env) (env:Env) (l:Loc) (s:Shared) (ρ:Nat->Addr) (H:AH) (r:ek×Loc×AH) (Q:Flow->Shared->Prop) (E:Value->Shared->Prop),
 fO gt env.scope ss s'=true->ja (af aa w) hW A ah n env l ρ H s.heap->execs P F ss l H=some r->c8 aa w hW ah env s ρ H r Q E->wpAny (model aa w) A (PySem.execs s' env) Q E s
theorem ja.PX{l':Loc}(x:ja (af aa w) hW A ah n env l ρ H s.heap)(st:St (af aa w) hW ah aq H₁ ay)(lr:bJ (af aa w) hW ay aq H₁.next (bl ah) env l'):ja (af aa w) hW A ah n env l' aq H₁ ay:=⟨x.cx,st,lr⟩
theorem lh{c:Nat}(N:ja (af aa w) hW A ah n env l ρ H s.heap)(x:Mm aa w hW ah env s ρ H c l H₁ E):Exc (af aa w) hW ah s ρ H c H₁ E:=λe bq h' t st sp ex=>
 x e bq h' t st (sp.weaken λ_ f=>f.elim) (N.lr.cZ sp) (.inr ex)
theorem c8.next{l':Loc}{bU:AH}{r:ek×Loc×AH}(x:c8 aa w hW ah env s ρ H r Q E)(h:some (ek.next,l',bU)=some r):Fm aa w hW ah env s ρ H l' bU (Q .next):=by cases h;exact x
theorem c8.PY{v:ae}{l':Loc}{bU:AH}{r:ek×Loc×AH}(x:c8 aa w hW ah env s ρ H r Q E)(h:some (ek.ret v,l',bU)=some r):PW aa w hW ah env s ρ H v bU Q:=by cases h;exact x
theorem aG.dJ{e:aZ}{e':Expr}{f:ae->AH->cy}{r:ek×Loc×AH}{Q':Value->Shared->Prop}(h1:(aG (af aa w) hW gt P F n) e)(c1:bt gt env.scope e e'=true)(N:ja (af aa w) hW A ah n env l ρ H s.heap)(hb:dJ (aW P F e l H) l f=some r)
  (hE:c8 aa w hW ah env s ρ H r Q E)
  (k:∀v H₁,f v H₁=some r->∀x aq ay t₁,ja (af aa w) hW A ah n env l aq H₁ ay->Step eQ (bl ah) ρ H.next s.heap aq H₁.next ay->bf (af aa w) hW ay aq H₁.next v x->
   c8 aa w hW ah env { s with heap:=ay,toks:=t₁ } aq H₁ r Q E->Q' x { s with heap:=ay,toks:=t₁ }):wpAny (model aa w) A (eval e' env) Q' E s:=by
 refine wY hb (λv H₁ e1 hb=>?_) λc H₁ e1 z1=>?_
 ·exact h1 e' A ah env l s ρ H _ _ _ c1 N e1 λx aq ay t₁ st sp vr=>k v H₁ hb x aq ay t₁ (N.next st sp) sp vr (hE.after (sp.weaken λ_ f=>f.elim))
 ·clear hb
  subst z1;exact h1 e' A ah env l s ρ H _ _ _ c1 N e1 (lh N hE)
theorem lj(lr:bJ (af aa w) hW s.heap ρ H.next (bl ah) env l):interactive env=false:=by unfold interactive;rw[lr.fn];rfl
theorem eU{e:Expr}{t:Option Expr}{line:Nat}(h:fZ e=false):swapsWith e t line env=pure false:=by
 cases e<;>first|rfl|exact absurd h.symm ff
theorem ID{e:aZ}(h1:(aG (af aa w) hW gt P F n) e):(du aa w hW gt P F n) (.expr e):=by
 intro s' A ah env l s ρ H r Q E hc N he hq;refine Et hc λf pos z1 k1=>?_;clear hc;subst z1;exact wpAny_Expr_any (h1.dJ (az k1).1 N he hq λv H₁ f1 x aq ay t₁ aN bL br aM=>aM.next f1 aq ay t₁ aN.st .refl aN.lr) (lj N.lr) (eU (mA (az k1).2))
theorem bJ.drop{h h':Heap}{N:Nat}{C:Addr}(r:bJ (af aa w) hW h ρ N (bl ah) env l)(hs:Heap.ExtBut C h h')(nf:∀o,h.get? C=some o->¬bA o)(no:¬Own env C):bJ (af aa w) hW h' ρ N (bl ah) env l where
 fn:=r.fn
 glob:=r.glob
 blt:=r.blt
 dict:=by
  refine r.kj λm n q=>?_;refine⟨m,n.extBut hs (λe=>no (.inl e.symm)),λx v e z k=>?_⟩;refine aI (q x v e z k) λw a b=>?_;exact⟨w,a,b.mono (gK nf hs) (Nat.le_refl _) λ_ _=>rfl⟩
 cell:=r.cell
 tB x v e k:=by
  refine r.nV x v e k λc w e' z1 q=>?_;refine aI z1 ?_;clear z1;intro o g d;exact⟨c,w,e',⟨o,hs c o (λy=>no (.inr ⟨_,y▸e'⟩)) g,d⟩,q.mono (gK nf hs) (Nat.le_refl _) λ_ _=>rfl⟩
 kM:=r.kM
 xc x c e:=by
  refine bk (r.xc x c e) λKC a=>?_;refine aO KC ?_;clear KC;intro qN o g d;exact⟨⟨qN,o,hs c o (λy=>no (.inr ⟨_,y▸e⟩)) g,d⟩,a⟩
 sep:=r.sep
 frame:=r.frame
theorem IE{C:Prop}{sc:Scope}{x:String}{e:aZ}{s':Stmt}(hc:xg gt sc (.asg x e) s'=true)(k_:∀ipos,∀f,∀pos,s'=.Assign [.Name (aK x) ipos] f pos->iH sc (aK x)=true->bt gt sc e f=true->C):C:=by
 refine ur hc λts f pos e1 h1=>?_;refine eP h1 λt e2 h2=>?_;refine fY h2 λid ipos e3 h3=>?_;exact k_ ipos f pos (by rw[e1,e2,e3,eq_of_beq (aL ((az h3).1))]) (by rw[eq_of_beq (aL ((az h3).1))];exact(aR ((az h3).1))) ((az h3).2)
theorem Ac{f:Expr}{x:Str}{ipos:Pos}{line:Nat}:swapsWith f (some (.Name x ipos)) line env=pure false∨(fZ f=true∧swapsWith f (some (.Name x ipos)) line env=pure true):=by
 by_cases h:fZ f=true
 ·have key:∀b:Bool,(pure b:Sem Bool)=pure false∨(fZ f=true∧(pure b:Sem Bool)=pure true):=λb=>by
   cases b
   ·exact .inl rfl
   ·exact .inr ⟨h,rfl⟩
  cases f<;>first|exact absurd h ff|exact key _
 ·exact .inl (eU (by simpa using h))
theorem nc{C:Prop}{e:Expr}{n:Nat}{b:Bool}(h:fZ e=true)(hc:(Nat.beq (EV.of e).tag n&&b)=true)(q:fZ (EV.back n (EV.of e) e)=false):C:=Bool.noConfusion (h.symm.trans ((congrArg fZ (EV.is (aL hc))).trans q))
theorem Ae{e:aZ}{f:Expr}{sc:Scope}(hc:bt gt sc e f=true)(h:fZ f=true):(∃elt xs single it,e=.comp elt xs single it)∨e=.dead:=by
 cases e with
 |comp elt xs single it=>exact .inl ⟨elt,xs,single,it,rfl⟩
 |dead=>exact .inr rfl
 |cst v=>exact nc h hc rfl
 |loc x=>exact nc h hc rfl
 |glob x v=>exact nc h hc rfl
 |tup es=>exact nc h hc rfl
 |lst es=>exact nc h hc rfl
 |lY ks es=>exact nc h hc rfl
 |attr e a=>exact nc h hc rfl
 |sub e i=>exact nc h hc rfl
 |iZ e n=>exact nc h hc rfl
 |wU e n=>exact nc h hc rfl
 |p0 e=>exact nc h hc rfl
 |call f es=>exact nc h hc rfl
 |aE o a es=>exact nc h hc rfl
 |bin op a b=>exact nc h hc rfl
 |cmp a op b=>exact nc h hc rfl
 |qL a op b iB c=>exact nc h hc rfl
 |and es=>exact nc h hc rfl
 |or es=>exact nc h hc rfl
 |not e=>exact nc h hc rfl
 |neg e=>exact nc h hc rfl
 |ite c a b=>exact nc h hc rfl
theorem Mn{x:String}{e:aZ}(h1:(aG (af aa w) hW gt P F n) e)(PZ:∀elt xs single it,e=.comp elt xs single it->(aG (af aa w) hW gt P F n) it∧(aG (af aa w) hW gt P F n) elt)(sy:(hW.get? sysModules).isSome=true):(du aa w hW gt P F n) (.asg x e):=by
 intro s' A ah env l s ρ H r Q E hc N he hq;refine IE hc λipos f pos z1 hv c1=>?_;subst z1;rcases Ac (f:=f) (x:=aK x) (ipos:=ipos) (line:=pos.line) (env:=env)with KD|⟨Xg,KD⟩
 ·refine wpAny_Assign_Name (h1.dJ c1 N he hq λv H₁ f1 y aq ay t₁ aN bL br aM=>?_) KD
  exact eT (jw x) hv aN.st aN.lr br λh' t fg dH md=>aM.next f1 aq h' t fg dH md
 ·rw[exec_Assign_Name_used _ _ _ _ KD]
  obtain⟨elt,xs,single,it,rfl⟩:∃elt xs single it,e=.comp elt xs single it:=(Ae c1 Xg).resolve_right λz=>by subst z;exact nn he
  refine r8 c1 λkN rW it' cB pos' z1 _ _ _ _ _ _ _=>?_;subst z1;refine bk (PZ elt xs single it rfl) λhi Xh=>?_;obtain⟨xb,e0,o0,Th⟩:∃xb,aW P F (.comp elt xs single it) l H=some xb∧bB (af aa w) hW ah s ρ H xb (λ_ _=>True) E∧(∀v H',xb=(.ok v,H')->r=(.next,bc x v l,H')):=by
   refine wY he (λv H₁ e1 he=>?_) λc H₁ e1 z1=>?_
   ·exact⟨_,e1,λ_ _ _ _ _ _ _=>trivial,λv' H' q=>by cases q;exact(Option.some.inj he).symm⟩
   ·clear he
    subst z1;exact⟨_,e1,lh N hq,λv' H' q=>by cases q⟩
  refine wpAny_bind (wpAny_standAt (wpAny_bind ?_));show wpAny _ A (do let _ <-comprehension (.ListComp kN [⟨rW,it',[],0⟩] cB pos') cB env _ (newList []) _ _ (some (assign (.Name (aK x) ipos) env))) _ _ s;refine wpAny_bind (wpAny_mono (uH (use:=some (assign (.Name (aK x) ipos) env)) (Q:=λ_ s'=>Q .next s') (PJ:=λ_ _=>True) sy hi Xh c1 N e0 o0 ?_) (λ_ s' BQ=>wpAny_pure (wpAny_pure BQ)) λ_ _ z=>z);intro v H' y C bq h' t er N' sp vr ns nC hC RR PH nO;have:=Th v H' er;subst this;refine aV ns ?_;clear ns;intro m hm;show wpAny _ A (assign (.Name (aK x) ipos) env y) _ _ _;refine wpAny_assign_Name (eT (jw x) hv N'.st N'.lr vr λbV jK bO bh oC=>?_);refine ft (id hm) λo' es ep g d r2=>?_;have g2:bV.get? C=some o':=bh.keep C o' g nC nO RR;have nf:∀o,bV.get? C=some o->¬bA o:=by
   intro o e;rw[g2]at e;replace e:=Option.some.inj e;subst e;rintro(⟨_,_,_,q⟩|⟨_,_,q⟩)<;>rw[d]at q<;>cases q
  refine⟨m,⟨o',es,ep,g2,d,r2⟩,λE8 Aa=>?_⟩;have Xi:∀n,n<H'.next->bq n≠C:=nC;exact hq bq E8 _ (me nf Aa.extBut PH RR Xi bO) (gM nf Aa.extBut hC ((sp.weaken λ_ f=>f.elim).trans bh)) (oC.drop Aa.extBut nf nO)
end
noncomputable def iO{α:Type}[DecidableEq α]:List (α×Value)->α->Value->List (α×Value)
 |[],k,v=>[(k,v)]
 |(x,w)::r,k,v=>if x=k then(x,v)::r else(x,w)::iO r k v
theorem Dg{α:Type}[DecidableEq α]{x k:α}{w v:Value}{r:List (α×Value)}:iO ((x,w)::r) k v=if x=k then(x,v)::r else(x,w)::iO r k v:=rfl
theorem Af{α:Type}[DecidableEq α]{k:α}{v:Value}:∀{kvs:List (α×Value)},(kvs.map (·.1)).Nodup->stored kvs k v=iO kvs k v:=by
 intro zz;induction zz with
 |nil=>
  intro _;exact rfl
 |cons b0 r ih=>
  intro h;obtain⟨x,w⟩:=b0;simp only[List.map_cons,List.nodup_cons]at h;have ih:=ih h.2;rw[Dg]
  by_cases hx:x=k
  ·subst hx
   rw[if_pos rfl];unfold stored;simp only[List.any_cons,decide_true,Bool.true_or,if_true,List.map_cons];congr 1;have:∀p∈r,(if p.1=x then(p.1,v)else p)=p:=λp hp=>by
    rw[if_neg];intro e;exact h.1 (List.mem_map.mpr ⟨p,hp,e⟩)
   exact(List.map_congr_left this).trans (List.map_id' r)
  ·rw[if_neg hx,<-ih]
   unfold stored;simp only[List.any_cons,hx,decide_false,Bool.false_or,List.map_cons,if_false];cases r.any λp=>decide (p.1=k)<;>rfl
section
variable{aa:Program}{w:World}{hW h:Heap}{ρ:Nat->Addr}{N:Nat}
theorem Ag{k:ae}{v:ae}{u:Value}(hk:isKey k=true)(hv:bf (af aa w) hW h ρ N v u):∀{ks vs:List ae}{kvs:List (Option Str×Value)},kvs.map (·.1)=ks.map keyOf->ks.all isKey=true->aP (af aa w) hW h ρ N vs (kvs.map (·.2))->
  (iO kvs (keyOf k) u).map (·.1)=(putK k v ks vs).1.map keyOf∧(putK k v ks vs).1.all isKey=true∧aP (af aa w) hW h ρ N (putK k v ks vs).2 ((iO kvs (keyOf k) u).map (·.2)):=by
 intro zz;induction zz with
 |nil=>
  intro b0 kT e _ r;cases b0 with
  |nil=>
   cases kT with
   |nil=>
    exact⟨rfl,Bool.and_eq_true_iff.mpr ⟨hk,rfl⟩,hv,trivial⟩
   |cons rj kW=>
    cases e
  |cons CH HP=>
   cases kT with
   |nil=>
    exact r.elim
   |cons NW Ss=>
    cases e
 |cons x ks ih=>
  intro OA SM e BP r;cases SM with
  |nil=>
   cases e
  |cons kv kvs=>
   cases OA with
   |nil=>
    exact r.elim
   |cons y vs=>
    obtain⟨a,b⟩:=kv;injection e with e1 e2
    obtain⟨k1,k2⟩:=Bool.and_eq_true_iff.mp BP;have ih:=ih e2 k2 r.2;have p1:putK k v (x::ks) (y::vs)=if ae.beq k x=true then(x::ks,v::vs)else(x::(putK k v ks vs).1,y::(putK k v ks vs).2):=rfl;have p2:iO ((a,b)::kvs) (keyOf k) u=if a=keyOf k then(a,u)::kvs else(a,b)::iO kvs (keyOf k) u:=rfl;rw[p1,p2]
    by_cases hb:ae.beq k x=true
    ·have:=(l7 hk k1).mpr hb
     rw[if_pos hb,if_pos (Eq.trans (b:=keyOf x) e1 this.symm)];exact⟨congr (congrArg List.cons e1) e2,BP,hv,r.2⟩
    ·have:¬a=keyOf k:=λz=>hb ((l7 hk k1).mp (z.symm.trans e1))
     rw[if_neg hb,if_neg this];exact⟨congr (congrArg List.cons e1) ih.1,Bool.and_eq_true_iff.mpr ⟨k1,ih.2.1⟩,r.1,ih.2.2⟩
end
section
variable{aa:Program}{w:World}{A:Around}{E:Value->Shared->Prop}{s:Shared}
theorem vW{l:Addr}{items:Array Value}{n:Nat}{k:Int}{t:Tok}{v:Value}{Q:Unit->Shared->Prop}(ho:s.heap.get? l=some (W.listOf items n))(h0:0<=k)(Ti:k<2^63)(hn:k<items.size)
  (hQ:Q () { s with heap:=s.heap.update l (Obj.mapSeq (·.setIfInBounds k.toNat v)) }):wpAny (model aa w) A (setItem (.ref l) (.int k t) v) Q E s:=by
 have hT:s.TypeIs (.ref l) "list" := ⟨_,ho,rfl⟩;unfold setItem
 try with_reducible refine wpAny_holding ?_
 refine wpAny_bind (wpAny_sequenceKey hT (by decide) ?_);refine wpAny_bind (wpAny_callSpecial?_slot (name:=Str.ofString "__setitem__") hT slot_list_setitem (wpAny_call_entry slot_list_setitem hT entry_list_setitem ?_ (args_list_setitem _ _ _)));show wpAny _ _ (Builtin.List.listSubscript? (.int k t) >>= _) _ _ s;refine wpAny_bind (wpAny_listSubscript_int (fitsIndex_of h0 Ti) ?_);obtain⟨j,rfl⟩:=Int.eq_ofNat_of_zero_le h0;have hx:items[j]? = some items[j]:=Array.getElem?_eq_getElem (by omega);show wpAny _ _ ((seqItemAt l j >>= λr=>pure (r.map (j,·))) >>= _) _ _ s;refine wpAny_bind (wpAny_bind (wpAny_seqItemAt ho rfl (wpAny_pure ?_)));rw[hx];show wpAny _ _ (setSeqItemAt l j v >>= _) _ _ s;refine wpAny_bind (wpAny_setSeqItemAt ho rfl ?_);exact wpAny_pure ⟨.none,rfl,wpAny_pure hQ⟩
end
section
variable{aa:Program}{w:World}{hW:Heap}{gt:List (String×ae)}{P:cW}{F:dQ}{n:Nat}{K:Frag}{mg mb:Str->Option Value}
 {A:Around}{ah:List Env}{env:Env}{l:Loc}{s:Shared}{ρ aq:Nat->Addr}{H H₁:AH}{ay:Heap}{t₁:Nat}
theorem tM{o v:ae}{a:String}{x y:Value}{H':AH}{Q:Unit->Shared->Prop}{E:Value->Shared->Prop}(M:gE P K hW)(st:St (af aa w) hW ah ρ H s.heap)(ro:bf (af aa w) hW s.heap ρ H.next o x)(rv:bf (af aa w) hW s.heap ρ H.next v y)
  (he:jJ P o a v H=some H') (hq:∀h' t,St (af aa w) hW ah ρ H' h'->Step eQ (bl ah) ρ H.next s.heap ρ H'.next h'->Q () { s with heap:=h',toks:=t }):wpAny (model aa w) A (setAttr x (aK a) y) Q E s:=by
 refine rM he λm z1 he=>?_;subst z1;refine ro.E λhm z1=>?_;clear ro;subst z1;refine EZ he λC ci d ks vs e1 e2 e3 he=>?_;refine fX he λhf he=>?_;obtain rfl:=Option.some.inj he;obtain⟨hd,sl,g⟩:=st.toCells.get hm e1;refine cn (st.toCells.get hd e3) λes i g' k vr=>?_;have X:K.In s.heap:=M.uD.keeps st.stays;have I:InstAt s.heap (ρ m) ⟨.ref C,some (ρ d),.plain,sl⟩ C (some (dictOf es i)):=⟨g,rfl,rfl,g'⟩
 refine bk (M.set C ci e2) λs1 s2=>?_;have fl:=M.field C ci e2 a (by simpa using hf.1);have tk:takerIn K C (aK a)=some none:=by unfold takerIn;rw[fl];rfl
 have gl:=jQ (a:=a) k vr;have gs:(getL (aK a) es).isSome=true:=by
  unfold ni at gl;cases q:bN (.str a) ks vs with
  |none=>rw[q]at gl;rw[show getL (aK a) es=some none from gl];rfl
  |some z=>rw[q]at gl;obtain⟨u,e,_⟩:=gl;rw[e];rfl
 refine set_plain X I s1 ?_;have I':InstAt ({ s with toks:=s.toks+1 }:Shared).heap (ρ m) ⟨.ref C,some (ρ d),.plain,sl⟩ C (some (dictOf es i)):=I;have pl:=zS (knd:=(af aa w)) (hW:=hW) (h:=s.heap) (ρ:=ρ) (N:=H.next) (a:=a) (hsh:=PyData.keyHash w.params (aK a)) (t:=s.toks+1) rv k vr;refine L7 (s:={ s with toks:=s.toks+1 }) X I' s2 tk (M.dict C ci e2) gs (Nat.le_trans pl.2.2 (by omega)) λh' Dd gd=>?_;have nf:¬bA (dictOf es i):=by rintro(⟨e,_⟩|⟨e,_⟩)<;>simp at e
 have rel:cg (af aa w) hW h' ρ H.next (.bg (putK (.str a) v ks vs).1 (putK (.str a) v ks vs).2) (ρ d):=⟨_,_,gd,pl.1,pl.2.1.mono (bP Dd g' nf) (Nat.le_refl _) λ_ _=>rfl⟩
 exact hq h' _ (st.setCell hd Dd rel) (st.ju hd Dd rel)
theorem tN{o i v:ae}{x j y:Value}{H':AH}{Q:Unit->Shared->Prop}{E:Value->Shared->Prop}(st:St (af aa w) hW ah ρ H s.heap)(ro:bf (af aa w) hW s.heap ρ H.next o x)(ri:bf (af aa w) hW s.heap ρ H.next i j)(rv:bf (af aa w) hW s.heap ρ H.next v y)
  (he:putItem o i v H=some H') (hq:∀h' t,St (af aa w) hW ah ρ H' h'->Step eQ (bl ah) ρ H.next s.heap ρ H'.next h'->Q () { s with heap:=h',toks:=t }):wpAny (model aa w) A (setItem x j y) Q E s:=by
 refine rM he λm z1 he=>?_;subst z1;refine ro.E λhm z1=>?_;clear ro;subst z1;refine zC he (λvs e1 he=>?_) λks vs e1 he=>?_
 ·refine jq he λk z1 he=>?_
  subst z1;refine fX he λhk he=>?_;obtain rfl:=Option.some.inj he;refine ri.E λt z1=>?_;clear ri;subst z1;refine aO (st.toCells.get hm e1) λws c ho vp=>?_;have len:=vp.length;refine vW ho hk.1 (by omega) (by rw[List.size_toArray];omega) ?_;have hs:Heap.SameBut (ρ m) s.heap (s.heap.update (ρ m) (Obj.mapSeq (·.setIfInBounds k.toNat y))):=Heap.SameBut.update ..;have g2:=PySem.IsL.update ho (·.setIfInBounds k.toNat y);have nf:¬bA (W.listOf ws.toArray c):=vM _ _;have e5:ws.toArray.setIfInBounds k.toNat y=(ws.set k.toNat y).toArray:=by simp
  rw[e5]at g2;have rel:cg (af aa w) hW (s.heap.update (ρ m) (Obj.mapSeq (·.setIfInBounds k.toNat y))) ρ H.next (.list (vs.set k.toNat v)) (ρ m):=
   ⟨ws.set k.toNat y,_,g2,(vp.set k.toNat rv).mono (bP hs ho nf) (Nat.le_refl _) λ_ _=>rfl⟩
  exact hq _ s.toks (st.setCell hm hs rel) (st.ju hm hs rel)
 ·refine rK he λk z1 he=>?_
  subst z1;refine fX he λhk he=>?_;obtain rfl:=Option.some.inj he;clear he;refine ri.E λt z1=>?_;clear ri;subst z1;refine fq (st.toCells.get hm e1) λkvs hD L6 BP vp=>?_;have len:kvs.length=ks.length:=by have:=congrArg List.length L6;simpa using this
  refine wpAny_setItem_pairs (knd:=(af aa w)) (k:=some (aK k)) (dR k t) hD (λh' VO hs=>?_) (by rw[len];exact Nat.le_trans hk (by decide));obtain⟨o0,ZS,ZT,g0,ZU,d0,_,_,nd⟩:=id hD;rw[Af nd]at VO;have nf:¬bA o0:=by rintro(⟨_,_,_,q⟩|⟨_,_,q⟩)<;>rw[d0]at q<;>cases q
  refine dw (Ag (k:=.str k) rfl rv L6 BP vp) λp1 p2 p3=>?_;have rel:cg (af aa w) hW h' ρ H.next (.dict (putK (.str k) v ks vs).1 (putK (.str k) v ks vs).2) (ρ m):=⟨_,VO,p1,p2,p3.mono (bP hs g0 nf) (Nat.le_refl _) λ_ _=>rfl⟩
  exact hq h' _ (st.setCell hm hs rel) (st.ju hm hs rel)
theorem IG{o e:aZ}{a:String}(M:gE P K hW)(h1:(aG (af aa w) hW gt P F n) e)(h2:(aG (af aa w) hW gt P F n) o):(du aa w hW gt P F n) (.cV o a e):=by
 intro s' A ah env l s ρ H r Q E hc N he hq;refine ur hc λts f pos z1 k1=>?_;clear hc;subst z1;refine eP k1 λt z1 k2=>?_;clear k1;subst z1;refine pz k2 λp b apos z1 k3=>?_;clear k2;subst z1;obtain rfl:=eq_of_beq (az (aL (aL (aL k3)))).1;refine plainObj_wpAny_Assign_Attribute (h1.dJ (aR (aL k3)) N he hq λv H₁ f1 x aq ay t₁ aN bL br aM=>?_) (eU (mA (aR k3)));refine h2.dJ (aR (aL (aL k3))) aN f1 aM λov bU f2 y b9 bV jK eh bh cf gv=>?_;refine ed f2 λH' e3 f3=>?_;exact tM (s:={ s with heap:=bV,toks:=jK }) M eh.st cf (bh.i0 br) e3 λh' t fg dH=>gv.next f3 b9 h' t fg (dH.weaken λ_ f=>f.elim) (eh.lr.cZ dH)
theorem IH{o i e:aZ}(h1:(aG (af aa w) hW gt P F n) e)(h2:(aG (af aa w) hW gt P F n) o)(h3:(aG (af aa w) hW gt P F n) i):(du aa w hW gt P F n) (.gS o i e):=by
 intro s' A ah env l s ρ H r Q E hc N he hq;refine ur hc λts f pos z1 k1=>?_;subst z1;refine eP k1 λt z1 k2=>?_;subst z1;refine xd k2 λp b apos z1 k3=>?_;subst z1;refine wpAny_Assign_Subscript (h1.dJ (aR (aL k3)) N he hq λv H₁ f1 x aq ay t₁ aN bL br aM=>?_) (eU (mA (aR k3)));refine h2.dJ (az (aL (aL (aL k3)))).2 aN f1 aM λov bU f2 y b9 bV jK eh bh cf gv=>?_;refine h3.dJ (aR (aL (aL k3))) eh f2 gv λiv OQ f3 z ll dG Tj qQ dC P0 P4=>?_;refine ed f3 λH' e3 f4=>?_;exact tN (s:={ s with heap:=dG,toks:=Tj }) qQ.st (dC.i0 cf) P0 (dC.i0 (bh.i0 br)) e3 λh' t fg dH=>P4.next f4 ll h' t fg (dH.weaken λ_ f=>f.elim) (qQ.lr.cZ dH)
theorem Mo{e:aZ}(h1:(aG (af aa w) hW gt P F n) e):(du aa w hW gt P F n) (.ret e):=by
 intro s' A ah env l s ρ H r Q E hc N he hq;refine Ey hc λf pos z1 k1=>?_;subst z1;refine bQ k1 λf z1 k2=>?_;subst z1;exact wpAny_Return_some (h1.dJ k2 N he hq λv H₁ f1 x aq ay t₁ aN bL br aM=>aM.PY f1 x aq ay t₁ aN.st .refl br)
theorem II:(du aa w hW gt P F n) .zB:=by
 intro s' A ah env l s ρ H r Q E hc N he hq;refine Ey hc λf pos z1 k1=>?_;subst z1;obtain rfl:=mG k1;exact wpAny_Return_none (hq.PY he .none ρ s.heap s.toks N.st .refl rfl)
theorem c8.P5{l':Loc}{bU:AH}{r:ek×Loc×AH}{Q:Flow->Shared->Prop}{E:Value->Shared->Prop}(x:c8 aa w hW ah env s ρ H r Q E)(h:some (ek.cont,l',bU)=some r):Fm aa w hW ah env s ρ H l' bU (Q .cont):=by cases h;exact x
theorem IJ:(du aa w hW gt P F n) .cont:=by
 intro s' A ah env l s ρ H r Q E hc N he hq;refine LO hc λpos z1 _=>?_;clear hc;subst z1;exact wpAny_Continue (hq.P5 he ρ s.heap s.toks N.st .refl N.lr)
theorem IK:(du aa w hW gt P F n) .dead:=λs' A ah env l s ρ H r Q E hc N he hq=>absurd he nn
theorem cv.dJ{e:aZ}{e':Expr}{f:ae->AH->cy}{r:ek×Loc×AH}{Q:Flow->Shared->Prop}{E:Value->Shared->Prop}{Q':Bool->Shared->Prop}(h1:(cv (af aa w) hW gt P F n) e)(c1:bt gt env.scope e e'=true)(N:ja (af aa w) hW A ah n env l ρ H s.heap)(hb:dJ (aW P F e l H) l f=some r)
  (hE:c8 aa w hW ah env s ρ H r Q E) (rZ:∀v H₁,f v H₁=some r->∃b,v=.bool b)
  (k:∀b H₁,f (.bool b) H₁=some r->∀aq ay t₁,ja (af aa w) hW A ah n env l aq H₁ ay->Step eQ (bl ah) ρ H.next s.heap aq H₁.next ay->
   c8 aa w hW ah env { s with heap:=ay,toks:=t₁ } aq H₁ r Q E->Q' b { s with heap:=ay,toks:=t₁ }):wpAny (model aa w) A (isTrue e' env (eval e' env)) Q' E s:=by
 refine wY hb (λv H₁ e1 hb=>?_) λc H₁ e1 z1=>?_
 ·refine h1 e' A ah env l s ρ H _ Q' E c1 N e1 (λx aq ay t₁ st sp vr b hx=>?_) λv' H' q=>by cases q;exact rZ v H₁ hb
  obtain⟨b',rfl⟩:=rZ v H₁ hb;obtain rfl:x=_:=vr;cases hx;exact k _ H₁ hb aq ay t₁ (N.next st sp) sp (hE.after (sp.weaken λ_ f=>f.elim))
 ·clear hb
  subst z1;exact h1 e' A ah env l s ρ H _ Q' E c1 N e1 (lh N hE) λv' H' q=>by cases q
theorem xY{α:Type}{a:ae}{k:Bool->Option α}{r:α}(h:vBool a k=some r):∃b,a=.bool b:=jF h λb e _=>⟨b,e⟩
theorem Mp{c:aZ}{a b:List bD}(h1:(cv (af aa w) hW gt P F n) c)(h2:(dD aa w hW gt P F n) a)(h3:(dD aa w hW gt P F n) b):(du aa w hW gt P F n) (.iff c a b):=by
 intro s' A ah env l s ρ H r Q E hc N he hq;refine LN hc λc' a' b' pos z1 k1=>?_;subst z1;refine wpAny_If (h1.dJ (az (aL k1)).1 N he hq (λv H₁ f1=>xY f1) λbb H₁ f1 aq ay t₁ aN bL aM=>?_);cases bb
 ·exact h3 b' A ah env l _ aq H₁ r Q E (aR k1) aN f1 aM
 ·exact h2 a' A ah env l _ aq H₁ r Q E (az (aL k1)).2 aN f1 aM
theorem IL:(dD aa w hW gt P F n) []:=by
 intro s' A ah env l s ρ H r Q E hc N he hq;obtain rfl:=bF hc;exact wpAny_execs_nil (hq.next he ρ s.heap s.toks N.st .refl N.lr)
theorem Ah{C:Prop}{sc:Scope}{x:bD}{xs:List bD}{ss:List Stmt}(h:fO gt sc (x::xs) ss=true)(k1:x=.dead->C)(k2:∀t,∀ts,ss=t::ts->xg gt sc x t=true->fO gt sc xs ts=true->C):C:=by
 rcases Bool.or_eq_true_iff.mp (show(BI x&&isNil xs || match(generalizing:=false) ss with|t::ts=>xg gt sc x t&&fO gt sc xs ts|[]=>false)=true from h)with h|h
 ·exact k1 (by have:=(az h).1;cases x<;>first|rfl|exact absurd this ff)
 ·cases ss with
  |nil=>exact absurd h ff
  |cons t ts=>exact k2 t ts rfl (aL h) (aR h)
theorem c8.stop{f:Flow->Shared->Prop}{Q:Flow->Shared->Prop}{E:Value->Shared->Prop}{r:ek×Loc×AH}(h:r.1.zD=false)(x:c8 aa w hW ah env s ρ H r Q E)(hf:∀g s,(g=.next->False)->Q g s->f g s):c8 aa w hW ah env s ρ H r f E:=by
 obtain⟨fl,l',H'⟩:=r;cases fl with
 |next=>exact absurd h.symm ff
 |cont=>exact λbq h' t st sp lr=>hf _ _ (λz=>by cases z) (x bq h' t st sp lr)
 |ret v=>exact λy bq h' t st sp vr=>hf _ _ (λz=>by cases z) (x y bq h' t st sp vr)
 |exc c=>exact x
theorem Fn{x:bD}{xs:List bD}(h1:(du aa w hW gt P F n) x)(h2:(dD aa w hW gt P F n) xs):(dD aa w hW gt P F n) (x::xs):=by
 intro s' A ah env l s ρ H r Q E hc N he hq;refine Ah hc (λz1=>?_) λt ts z1 c1 c2=>?_
 ·subst z1
  exact absurd he nn
 clear hc;subst z1;refine wpAny_execs_cons ?_;refine HZ he (λl' H' e1 e2=>?_) λe1 e2=>?_
 ·exact h1 t A ah env l s ρ H _ _ E c1 N e1 λbq h' t' fg dH md=>h2 ts A ah env l' _ bq H' r Q E c2 (N.PX fg md) e2 (hq.after dH)
 ·clear he
  refine h1 t A ah env l s ρ H r _ E c1 N e1 (hq.stop e2 λg s hg q=>?_);cases g<;>first|exact absurd rfl hg|exact q
noncomputable def eV(y:String):List String->List ae->Option ae
 |x::xs,v::vs=>(eV y xs vs).or (if y=x then some v else none)
 |_,_=>none
theorem Ai{y:String}:∀{xs:List String}{vs:List ae},y∉xs->eV y xs vs=none:=by
 intro zz;induction zz with
 |nil=>
  intro _ _;exact rfl
 |cons x xs ih=>
  intro b0 h;cases b0 with
  |nil=>
   exact rfl
  |cons v vs=>
   rw[show eV y (x::xs) (v::vs)=(eV y xs vs).or (if y=x then some v else none)from rfl,ih λm=>h (.tail _ m),if_neg λe:y=x=>h (e▸.head _)]
   rfl
theorem sg{y:String}:∀{xs:List String}{vs:List ae}{l l':Loc},fk xs vs l=some l'->aJ y l'=(eV y xs vs).or (aJ y l):=by
 intro zz;induction zz with
 |nil=>
  intro b0 l l' h;cases b0 with
  |nil=>
   cases h;rfl
  |cons kT rj=>
   exact absurd h nn
 |cons x xs ih=>
  intro kW l l' h;cases kW with
  |nil=>
   exact absurd h nn
  |cons v vs=>
   rw[ih (vs:=vs) h,cY,show eV y (x::xs) (v::vs)=(eV y xs vs).or (if y=x then some v else none)from rfl];cases eV y xs vs with
   |some u=>rfl
   |none=>
    by_cases hy:y=x
    ·rw[if_pos hy,if_pos hy];rfl
    ·rw[if_neg hy,if_neg hy];rfl
theorem Aj:∀{xs:List String}{vs:List ae}{l:Loc},vs.length=xs.length->∃l',fk xs vs l=some l':=by
 intro zz;induction zz with
 |nil=>
  intro b0 l h;cases b0 with
  |nil=>
   exact⟨l,rfl⟩
  |cons kT rj=>
   exact nomatch h
 |cons x xs ih=>
  intro kW l h;cases kW with
  |nil=>
   exact nomatch h
  |cons v vs=>
   exact ih (Nat.succ.inj h)
theorem Ak{y x:String}{v:ae}:∀{xs:List String}{vs:List ae},vs.length=xs.length->eV y (xs++[x]) (vs++[v])=(if y=x then some v else none).or (eV y xs vs):=by
 intro zz;induction zz with
 |nil=>
  intro b0 h;cases b0 with
  |nil=>
   rw[show eV y ([]++[x]) ([]++[v])=(if y=x then some v else none)from Option.none_or,show eV y [] []=none from rfl,Option.or_none]
  |cons kT rj=>
   exact nomatch h
 |cons a xs ih=>
  intro kW h;cases kW with
  |nil=>
   exact nomatch h
  |cons b vs=>
   rw[show eV y (a::xs++[x]) (b::vs++[v])=(eV y (xs++[x]) (vs++[v])).or (if y=a then some b else none)from rfl,ih (vs:=vs) (Nat.succ.inj h),Option.or_assoc]
   rfl
theorem Dh{y:String}:∀{xs:List String}{vs:List ae},vs.length=xs.length->xs.Nodup->eV y xs.reverse vs.reverse=eV y xs vs:=by
 intro zz;induction zz with
 |nil=>
  intro b0 h _;cases b0 with
  |nil=>
   exact rfl
  |cons kT rj=>
   exact nomatch h
 |cons x xs ih=>
  intro kW h nd;cases kW with
  |nil=>
   exact nomatch h
  |cons v vs=>
   rw[List.nodup_cons]at nd;have hl:vs.length=xs.length:=Nat.succ.inj h;rw[List.reverse_cons,List.reverse_cons,Ak (by rw[List.length_reverse,List.length_reverse,hl]),ih hl nd.2,show eV y (x::xs) (v::vs)=(eV y xs vs).or (if y=x then some v else none)from rfl]
   by_cases hy:y=x
   ·subst hy
    rw[Ai nd.1,if_pos rfl];rfl
   ·rw[if_neg hy]
    cases eV y xs vs<;>rfl
theorem qR{xs:List String}{vs:List ae}{l l':Loc}(h:fk xs vs l=some l')(nd:xs.Nodup):∃m,fk xs.reverse vs.reverse l=some m∧∀y,aJ y l'=aJ y m:=by
 have hl:=jT h;refine aV (Aj (xs:=xs.reverse) (vs:=vs.reverse) (l:=l) (by rw[List.length_reverse,List.length_reverse,hl])) λm hm=>?_;exact⟨m,hm,λy=>by rw[sg h,sg hm,Dh hl nd]⟩
theorem vX(lr:bJ (af aa w) hW s.heap ρ H.next (bl ah) env l){b:Addr}(h:Own env b):s.heap.get? b≠none:=by
 rcases h with rfl|⟨x,e⟩
 ·refine lr.kj λm z1 _=>?_
  refine rI z1 ?_;clear z1;intro o _ _ g _;exact λz=>nomatch g.symm.trans z
 ·refine lr.nW x b e λz1 _ _ _ _=>?_
  refine aO z1 ?_;clear z1;intro qN o g _;exact λz=>nomatch g.symm.trans z
theorem Di{E:Value->Shared->Prop}{c:Nat}{l':Loc}(N:ja (af aa w) hW A ah n env l ρ H s.heap)(hq:Mm aa w hW ah env s ρ H c l' H₁ E){e:Addr}{bq:Nat->Addr}{h':Heap}{t:Nat}(st:St (af aa w) hW ah bq H₁ h')
  (sp:Step (Own env) (bl ah) ρ H.next s.heap bq H₁.next h') (lr:bJ (af aa w) hW h' bq H₁.next (bl ah) env l') (x:qm s.heap h' e c):
  notedBy (model aa w) A env (λe s'=>cameBackBy (model aa w) A env E e s') (.ref e) { s with heap:=h',toks:=t }:=by
 refine N.lr.vy λL Fe Ff=>?_;have nb:∀b,kO s.heap b->¬Own env b:=λb hb q=>vX N.lr q hb;have join:∀{b9 ll:Nat->Addr}{eh qQ:Nat}{bV dG:Heap},Step (Own env) (bl ah) ρ H.next s.heap b9 eh bV->Step (kO s.heap) (bl ah) b9 eh bV ll qQ dG->Step (Own env) (bl ah) ρ H.next s.heap ll qQ dG:=λ{b9 ll eh qQ bV dG} a b=>by
  have c:=(a.weaken (Y:=λb=>Own env b∨kO s.heap b) λ_ z=>.inl z).trans (b.weaken λ_ z=>.inr z);exact{
   le:=c.le,old:=c.old,new:=c.new,live:=c.live,eg:=c.eg
   keep:=λb o e hn hX hf=>c.keep b o e hn (λz=>z.elim hX λz=>by rw[show s.heap.get? b=none from z]at e;cases e) hf
   frame:=λb o e hf hX=>c.frame b o e hf λz=>z.elim hX λz=>by rw[show s.heap.get? b=none from z]at e;cases e }
 refine eG (h0:=s.heap) (s:={ s with heap:=h',toks:=t }) N.cx.stack Fe Ff ⟨N.st.stays,N.st.bW,sp.live⟩ st x λbV bO bh Al _=>?_;have rq:=join sp bh;have Mq:=lr.step bh (λ_ m=>m) nb;refine kZ (h0:=s.heap) (s:={ s with heap:=bV,toks:=t }) ⟨N.st.stays,N.st.bW,rq.live⟩ bO Al λdG iN dC Am _=>?_;exact hq e bq dG t iN (join rq dC) (Mq.step dC (λ_ m=>m) nb) (.inr Am)
noncomputable def Tn(aa:Program)(w:World)(hW:Heap)(ah:List Env)(env:Env)(c:Loc->AH->Out ae)(bd:Loc->AH->cy)(r:ek×Loc×AH)(s:Shared)(ρ:Nat->Addr)(H:AH)(k:Nat)(s':Shared):Prop:=
 ∀C:Prop,(∀bq Hc l' h t,s'={ s with heap:=h,toks:=t }->St (af aa w) hW ah bq Hc h->Step (Own env) (bl ah) ρ H.next s.heap bq Hc.next h->bJ (af aa w) hW h bq Hc.next (bl ah) env l'->eF k c bd l' Hc=some r->C)->C
noncomputable def P6(aa:Program)(w:World)(hW:Heap)(ah:List Env)(env:Env)(bd:ae->Loc->AH->cy)(r:ek×Loc×AH)(s:Shared)(ρ:Nat->Addr)(H:AH)(I:Addr)(k:Nat)(s':Shared):Prop:=
 ∀C:Prop,(∀bq Hc i' l' h t,s'={ s with heap:=h,toks:=t }->St (af aa w) hW ah bq Hc h->Step (Own env) (bl ah) ρ H.next s.heap bq Hc.next h->bJ (af aa w) hW h bq Hc.next (bl ah) env l'->
  cJ (af aa w) hW h bq Hc.next I i'->(∀n,n<Hc.next->bq n≠I)->jt k bd i' l' Hc=some r->C)->C
theorem c8.loop{h:Heap}{t:Nat}{bq:Nat->Addr}{Hc:AH}{r:ek×Loc×AH}{Q:Flow->Shared->Prop}{E:Value->Shared->Prop}(N:ja (af aa w) hW A ah n env l ρ H s.heap)(dH:Step (Own env) (bl ah) ρ H.next s.heap bq Hc.next h)(hq:c8 aa w hW ah env s ρ H r Q E):
  c8 aa w hW ah env { s with heap:=h,toks:=t } bq Hc r Q (λe s'=>notedBy (model aa w) A env (λe s'=>cameBackBy (model aa w) A env E e s') e s'):=by
 have h0:=hq.after (t₁:=t) dH;obtain⟨f,l2,H2⟩:=r;cases f with
 |exc c=>exact λe b9 bV jK bO bh oC Al=>Di N hq bO (dH.trans bh) oC (Al.back dH.live)
 |_=>exact h0
theorem c8.wZ{f:ek}{l':Loc}{bU:AH}{Q:Flow->Shared->Prop}{E:Value->Shared->Prop}(hg:f.wZ=true)(x:Fm aa w hW ah env s ρ H l' bU (Q .next))(y:Q .next=Q .cont):c8 aa w hW ah env s ρ H (f,l',bU) Q E:=by
 cases f with
 |next=>exact x
 |cont=>exact λbq h' t st sp lr=>y▸x bq h' t st sp lr
 |ret v=>exact absurd hg ff
 |exc c=>exact absurd hg ff
theorem c8.ends{r:ek×Loc×AH}{f Q:Flow->Shared->Prop}{E:Value->Shared->Prop}(h:r.1.wZ=false)(x:c8 aa w hW ah env s ρ H r Q E)(hf:∀v s,Q (.ret v) s->f (.ret v) s):c8 aa w hW ah env s ρ H r f E:=by
 obtain⟨fl,l',H'⟩:=r;cases fl with
 |next=>exact absurd h.symm ff
 |cont=>exact absurd h.symm ff
 |ret v=>exact λy bq h' t st sp vr=>hf _ _ (x y bq h' t st sp vr)
 |exc c=>exact x
theorem Fo{c:aZ}{b:List bD}(h1:(cv (af aa w) hW gt P F n) c)(h2:(dD aa w hW gt P F n) b):(du aa w hW gt P F n) (.tx c b):=by
 intro s' A ah env l s ρ H r Q E hc N he hq;refine Ia hc λc' b' BJ pos z1 k1=>?_;clear hc;subst z1;obtain rfl:=bF (az (az k1).1).1;have c1:=(az (az k1).1).2;have c2:=(az k1).2;refine wpAny_While ?_;refine codeAny_whileLoop (R:=λr s'=>match r with | .ok f=>Q f s' | .error e=>cameBackBy (model aa w) A env E e s')
  (Tn aa w hW ah env (λl H=>aW P F c l H) (λl H=>execs P F b l H) r s ρ H) ?_ 100000 λ_ q=>q ρ H l s.heap s.toks rfl N.st .refl N.lr he
 intro k s' inv;refine inv _ λbq Hc l' h t z fg dH md run=>?_;clear inv;subst z;cases k with
 |zero=>exact absurd run nn
 |succ k=>
 refine h1.dJ (s:={ s with heap:=h,toks:=t }) c1 ⟨N.cx,fg,md⟩ run (hq.loop N dH) (λv H₁ f1=>xY f1) λbb H₁ f1 aq ay t₁ aN bL aM=>?_;cases bb with
 |false=>exact wpAny_execs_nil (aM.next f1 aq ay t₁ aN.st .refl aN.lr)
 |true=>
  have spT:Step (Own env) (bl ah) ρ H.next s.heap aq H₁.next ay:=dH.trans (bL.weaken λ_ f=>f.elim);refine Ek f1 (λf Mr bU e2 hg f2=>?_) λe2 hg=>?_
  ·exact h2 b' A ah env l' _ aq H₁ _ _ _ c2 aN e2 (.wZ hg (λb9 bV jK bO bh oC=>⟨k,Nat.lt_succ_self k,λ_ q=>q b9 bU Mr bV jK rfl bO (spT.trans bh) oC f2⟩) rfl)
  ·exact h2 b' A ah env l' _ aq H₁ _ _ _ c2 aN e2 (aM.ends hg λ_ _ z=>z)
theorem Step.Ms{X Y:Addr->Prop}{fr:List Addr}{ρ bq:Nat->Addr}{N N':Nat}{h h':Heap}(x:Step X fr ρ N h bq N' h')(hX:∀b,X b->Y b∨h.get? b=none):Step Y fr ρ N h bq N' h' where
 le:=x.le
 old:=x.old
 new:=x.new
 live:=x.live
 eg:=x.eg
 keep b o e hn hY hf:=x.keep b o e hn (λz=>(hX b z).elim hY λz=>by rw[z]at e;cases e) hf
 frame b o e hf hY:=x.frame b o e hf λz=>(hX b z).elim hY λz=>by rw[z]at e;exact absurd e nn
theorem xZ{R:Result->Shared->Prop}{target:Expr}{it:Value}{body orelse:List Stmt}(I:Nat->Shared->Prop)
  (turn:∀n s,I n s->wpAny (model aa w) A (pyNext it) (λr aS=>match r with
   |none=>wpAny (model aa w) A (PySem.execs orelse env) (λf mB=>R (.ok f) mB) (notedBy (model aa w) A env λe s'=>R (.error e) s') aS
   |some v=>wpAny (model aa w) A (letOwnedTupleGo target it v) (λ_ aS=>wpAny (model aa w) A (assign target env v) (λ_ cz=>wpAny (model aa w) A (PySem.execs body env) (λf mB=>match f with
     | .next | .cont=>∃m,m<n∧I m mB
     | .brk=>R (.ok .next) mB
     | .ret v=>R (.ok (.ret v)) mB) (notedBy (model aa w) A env λe s'=>R (.error e) s') cz) (notedBy (model aa w) A env λe s'=>R (.error e) s') aS) (notedBy (model aa w) A env λe s'=>R (.error e) s') aS) (notedBy (model aa w) A env λe s'=>R (.error e) s') s)
  (n:Nat) (h:I n s):codeAny (model aa w) A (.forLoop target it body orelse env) R s:=by
 refine codeAny_loop' rfl I (λn s hI=>?_) n h;show wpAny _ _ ((forTurn target it body orelse env).onRaise (λx=>do noteFrame x env;theTreesLotGoes x)) _ _ s;refine wpAny_noted ?_;simp only[forTurn];refine wpAny_bind (wpAny_standAt (wpAny_bind (wpAny_onRaise (wpAny_mono (turn n s hI) (λr aS ay=>?_) λ_ _ h'=>wpAny_standAt h'))));cases r with
 |none=>exact wpAny_pure (.inr ⟨rfl,codeAny_block ay⟩)
 |some v=>
  refine wpAny_bind (wpAny_mono ay (λ_ aS ay=>?_) λ_ _ h'=>h');refine wpAny_bind (wpAny_mono ay (λ_ cz bV=>wpAny_bind (wpAny_mono bV (λf mB dG=>?_) λ_ _ h'=>h')) λ_ _ h'=>h');cases f with
  |next=>exact wpAny_pure (.inl ⟨rfl,dG⟩)
  |cont=>exact wpAny_pure (.inl ⟨rfl,dG⟩)
  |brk=>exact wpAny_pure dG
  |ret v=>exact wpAny_pure dG
noncomputable def B3(P:cW)(F:dQ)(b:List bD)(xs:List String)(single:Bool):ae->Loc->AH->cy:=λv l H=>fM (bindC single xs v l) λl'=>execs P F b l' H
theorem x7{it:aZ}{b:List bD}{xs:List String}{single:Bool}(h1:(aG (af aa w) hW gt P F n) it)(h2:(dD aa w hW gt P F n) b){rW it':Expr}{b':List Stmt}{pos:Pos}{A:Around}{ah:List Env}{env:Env}{l:Loc}{s:Shared}{ρ:Nat->Addr}{H:AH}
  {r:ek×Loc×AH}{Q:Flow->Shared->Prop}{E:Value->Shared->Prop} (ht:BY xs single rW=true) (hx:(xs.all λx=>iH env.scope (aK x))=true) (Me:iG it'=true) (c1:bt gt env.scope it it'=true) (c2:fO gt env.scope b b'=true)
  (N:ja (af aa w) hW A ah n env l ρ H s.heap) (he:(dJ (aW P F it l H) l λo H=>fM (gW o H) λi=>jt 100000 (B3 P F b xs single) i l H)=some r) (hq:c8 aa w hW ah env s ρ H r Q E):
  wpAny (model aa w) A (PySem.exec (.For rW it' b' [] pos) env) Q E s:=by
 refine wpAny_For ?_ (uG Me);refine h1.dJ c1 N he hq λv H₁ f1 x aq ay t₁ aN bL br aM=>?_;refine ed f1 λi hi Mt=>?_;refine ou aN.st br hi λo hit=>?_;have bO:=aN.st.push o;have bh:Step eQ (bl ah) aq H₁.next ay aq H₁.next (ay.push o):=.push _;have oC:=aN.lr.cZ bh;refine aN.st.gF λa1 a2 a3=>?_;generalize hI:ay.objs.size=I at hit a1 a2 a3 ⊢;have Mg:ay.get? I=none:=by rw[<-hI];exact cC _
 have nO:¬Own env I:=λq=>vX (s:={ s with heap:=ay }) aN.lr q Mg;refine xZ (R:=λr s'=>match r with | .ok f=>Q f s' | .error e=>cameBackBy (model aa w) A env E e s')
  (P6 aa w hW ah env (B3 P F b xs single) r { s with heap:=ay,toks:=t₁ } aq H₁ I) ?_ 100000 λ_ q=>q aq H₁ i l _ _ rfl bO (bh.weaken λ_ f=>Df f) oC hit a1 Mt
 intro k s' inv;refine inv _ λbq Hc i' l' h t z fg dH md it' vU run=>?_;clear inv;subst z;cases k with
 |zero=>exact absurd run nn
 |succ k=>
 refine ed run λo NZ run=>?_;cases o with
 |none=>
  refine gG (s:={ s with heap:=h,toks:=t }) aN.cx.hand fg vU a2 it' NZ (λ_ h' Mk=>?_) (λv i' q=>by cases q);refine it'.there λoi Xc gi di S8=>?_;have Dc:∀o,h.get? I=some o->¬bA o:=λo e=>by rw[gi]at e;cases e;exact S8
  exact wpAny_execs_nil (aM.next run bq h' t (me Dc Mk a2 a3 vU fg) (gM Dc Mk Mg dH) (md.drop Mk Dc nO))
 |some p=>
  obtain⟨v,VL⟩:=p;refine gG (s:={ s with heap:=h,toks:=t }) aN.cx.hand fg vU a2 it' NZ (λq=>by cases q) (λv' i3 q h' u t' Dd xP xQ vu xR=>?_);replace q:=Prod.mk.inj (Option.some.inj q);obtain rfl:=q.1;obtain rfl:=q.2;refine BZ (s:={ s with heap:=h',toks:=t' }) xR ?_;have Kx:=xQ (λb=>b=I) rfl;have S9:bJ (af aa w) hW h' bq Hc.next (bl ah) env l':=md.step Kx (λ_ m=>m) λb e=>by subst e;exact nO
  refine zE run λl2 hb run'=>?_;refine gH (s:={ s with heap:=h',toks:=t' }) (X:=Own env) aN.cx.hand ht (λx _=>jw x) hx hb xP S9 vu λr9 IC xS xT B0=>?_;have z8:Step (Own env) (bl ah) aq H₁.next ay bq Hc.next r9:=Step.Ms (X:=λb=>Own env b∨b=I) (((dH.weaken λ_ e=>.inl e).trans (Kx.weaken λ_ e=>.inr e)).trans (xT.weaken λ_ e=>.inl e)) λb hb=>hb.imp id λe:b=I=>e▸Mg;have xU:=xR.step xT vU nO a3;have Fd:ja (af aa w) hW A ah n env l2 bq Hc r9:=⟨aN.cx,xS,B0⟩
  refine Ek run' (λf Mr bU e2 hg f2=>?_) λe2 hg=>?_
  ·refine h2 b' A ah env l2 _ bq Hc _ _ _ c2 Fd e2 (.wZ hg (λb9 bV jK bO bh oC=>?_) rfl)
   have xW:=xU.1.step bh xU.2 nO a3;exact⟨k,Nat.lt_succ_self k,λ_ q=>q b9 bU VL Mr bV jK rfl bO (z8.trans bh) oC xW.1 xW.2 f2⟩
  ·exact h2 b' A ah env l2 _ bq Hc _ _ _ c2 Fd e2 ((aM.loop (s:={ s with heap:=ay,toks:=t₁ }) (t:=IC) aN z8).ends hg λ_ _ z=>z)
theorem IM{x:String}{it:aZ}{b:List bD}(h1:(aG (af aa w) hW gt P F n) it)(h2:(dD aa w hW gt P F n) b):(du aa w hW gt P F n) (.tA x it b):=by
 intro s' A ah env l s ρ H r Q E hc N he hq;refine J5 hc λt it' b' BJ pos z1 k1=>?_;clear hc;subst z1;obtain rfl:=bF (aL k1);refine fY (aR k1) λid ipos z1 k2=>?_;clear k1;subst z1;obtain rfl:=eq_of_beq (aL (aL (aL (aL k2))));exact x7 (xs:=[x]) (single:=true) h1 h2 (aL (aL (aL (aL k2)))) (Bool.and_eq_true_iff.mpr ⟨(aR (aL (aL (aL k2)))),rfl⟩) (aR (aL (aL k2))) (aR (aL k2)) (aR k2) N he hq
theorem IP{xs:List String}{it:aZ}{b:List bD}(h1:(aG (af aa w) hW gt P F n) it)(h2:(dD aa w hW gt P F n) b):(du aa w hW gt P F n) (.wV xs it b):=by
 intro s' A ah env l s ρ H r Q E hc N he hq;refine J5 hc λt it' b' BJ pos z1 k1=>?_;subst z1;obtain rfl:=bF (aL k1);refine uq (aR k1) λts j ipos z1 k2=>?_;subst z1;exact x7 (xs:=xs) (single:=false) h1 h2 (aL (aL (aL (aL k2)))) (aR (aL (aL (aL k2)))) (aR (aL (aL k2))) (aR (aL k2)) (aR k2) N he hq
theorem An{ts:List Expr}{k:Nat}{tpos:Pos}{f:Expr}(h:(tC f λ_ _ _=>true)=false):swappedStores [.Tuple ts k tpos] f env=pure none:=by
 cases f<;>first|rfl|exact absurd h.symm ff
theorem IQ{xs:List String}{e:aZ}(h1:(aG (af aa w) hW gt P F n) e):(du aa w hW gt P F n) (.pn xs e):=by
 intro s' A ah env l s ρ H r Q E hc N he hq;refine ur hc λts f pos z1 k1=>?_;subst z1;refine eP k1 λt z1 k2=>?_;subst z1;refine uq k2 λts j tpos z1 k3=>?_;clear k2;subst z1;have KD:swapsWithSole [.Tuple ts j tpos] f pos.line env=pure false:=by
  show swapsWith f (some (.Tuple ts j tpos)) pos.line env=pure false;exact eU (mA (aR k3))
 refine Assign_Tuple (h1.dJ (aR (aL (aL k3))) N he hq λv H₁ f1 x aq ay t₁ aN bL br aM=>?_) KD (An (mA (aR (aL k3))));refine ed f1 λl2 hb f2=>?_;exact gH (s:={ s with heap:=ay,toks:=t₁ }) (X:=Own env) (xs:=xs) (single:=false) aN.cx.hand (aL (aL (aL (aL k3)))) (λx _=>jw x) (aR (aL (aL (aL k3)))) hb aN.st aN.lr br λh' t fg dH md=>aM.next f2 aq h' t fg dH md
theorem si{xs:List String}:∀{as:List ae}{vs:List Value}{l l':Loc}{s:Shared}{Q:Unit->Shared->Prop},(xs.all λx=>iH env.scope (aK x))=true->fk xs as l=some l'->
  St (af aa w) hW ah ρ H s.heap->bJ (af aa w) hW s.heap ρ H.next (bl ah) env l->aP (af aa w) hW s.heap ρ H.next as vs->
  (∀h' t,St (af aa w) hW ah ρ H h'->Step (Own env) (bl ah) ρ H.next s.heap ρ H.next h'->bJ (af aa w) hW h' ρ H.next (bl ah) env l'->Q () { s with heap:=h',toks:=t })->
  wpAny (model aa w) A (assignInOrder (xs.map λx=>bindName env (aK x)) vs) Q E s:=by
 induction xs with
 |nil=>
  intro as vs l l' s Q _ he st lr vr hQ;cases as with
  |cons _ _=>exact absurd he nn
  |nil=>cases vs with
   |cons _ _=>exact vr.elim
   |nil=>exact wpAny_pure (hQ s.heap s.toks st .refl (Option.some.inj he▸lr))
 |cons x xs ih=>
  intro as vs l l' s Q hx he st lr vr hQ;cases as with
  |nil=>exact absurd he nn
  |cons a as=>cases vs with
   |nil=>exact vr.elim
   |cons v vs=>exact wpAny_assignInOrder_more (bindName_ (eT (jw x) (aL hx) st lr vr.1 λh' t fg dH md=>
     ih (aR hx) he fg md (dH.gr vr.2) λE8 t' Mb Mc Md=>hQ E8 t' Mb (dH.trans Mc) Md))
noncomputable def IS(p:Str->Pos->Bool)(e:Expr):Option Str:=swappedStores.match_8 (λ_=>Option Str) e (λid pos=>if p id pos then some id else none) λ_=>none
theorem yb{p:Str->Pos->Bool}:∀{xs:List String}{ts:List Expr},dK xs ts=true->(ts.filterMap (IS p)).length=ts.length->ts.filterMap (IS p)=xs.map aK:=by
 intro zz;induction zz with
 |nil=>
  intro b0 h _;cases b0 with
  |nil=>
   exact rfl
  |cons kT rj=>
   exact absurd h ff
 |cons x xs ih=>
  intro kW h hl;cases kW with
  |nil=>
   exact absurd h ff
  |cons t ts=>
   replace h:=az h;refine nk h.1 λpos z1=>?_;subst z1
   by_cases q:p (aK x) pos=true
   ·rw[List.filterMap_cons_some (show IS p (.Name (aK x) pos)=some (aK x)from if_pos q)]at hl ⊢
    exact congrArg _ (ih h.2 (Nat.succ.inj hl))
   ·rw[List.filterMap_cons_none (show IS p (.Name (aK x) pos)=none from if_neg q)]at hl
    exact absurd hl (Nat.ne_of_lt (Nat.lt_succ_of_le (List.length_filterMap_le _ ts)))
theorem Mu{a b:Nat}{c:Bool}(h:¬((a != b || c)=true)):a=b:=by
 simp only[Bool.not_eq_true,Bool.or_eq_false_iff,bne_eq_false_iff_eq]at h;exact h.1
theorem tO{xs:List String}{ts fs:List Expr}{k k':Nat}{tpos sj:Pos}(ht:dK xs ts=true)(Xj:(fs.all (constantsAlone 8))=false):
  swappedStores [.Tuple ts k tpos] (.Tuple fs k' sj) env=pure none∨swappedStores [.Tuple ts k tpos] (.Tuple fs k' sj) env=pure (some (xs.map aK)):=by
 have P:∀{c:Prop} [Decidable c] {x y:Sem (Option (List Str))},(x=pure none∨x=pure (some (xs.map aK)))->(¬c->(y=pure none∨y=pure (some (xs.map aK))))->((if c then x else y)=pure none∨(if c then x else y)=pure (some (xs.map aK))):=λ{c} _ {x y} h1 h2=>by
  by_cases q:c
  ·rw[if_pos q];exact h1
  ·rw[if_neg q];exact h2 q
 refine P (.inl rfl) λh1=>P (.inl rfl) λh2=>P (.inl rfl) λh3=>P (.inl rfl) λh4=>?_;show(if(fs.all (constantsAlone 8))=true then _ else _)=_∨(if(fs.all (constantsAlone 8))=true then _ else _)=_;rw[if_neg (Xj▸Bool.false_ne_true)]
 right
 have:=yb (p:=λid pos=>env.kindOf id==some .local&&pos.line==(Option.map (λx=>x.pos.line) ts.head?).getD 0) ht (Mu h3);exact congrArg (λx=>(pure (some x):Sem (Option (List Str)))) this
theorem Fp{xs:List String}{es:List aZ}(h1:(fF (af aa w) hW gt P F n) es):(du aa w hW gt P F n) (.fj xs es):=by
 intro s' A ah env l s ρ H r Q E hc N he hq;refine ur hc λts f pos z1 k1=>?_;clear hc;subst z1;refine eP k1 λt z1 k2=>?_;clear k1;subst z1;refine uq k2 λts k tpos z1 k3=>?_;clear k2;subst z1;refine uq k3 λfs k' sj z1 k4=>?_;clear k3;subst z1;have c0:=(aL (aL (aL (aL (aL k4)))))
 have c1:=(aR (aL (aL (aL (aL k4)))))
 have c4:xs.Nodup:=of_decide_eq_true (aR (aL k4));have KD:swapsWithSole [.Tuple ts k tpos] (.Tuple fs k' sj) pos.line env=pure false:=by
  show swapsWith (.Tuple fs k' sj) (some (.Tuple ts k tpos)) pos.line env=pure false;exact eU rfl
 have ct:bt gt env.scope (.tup es) (.Tuple fs k' sj)=true:=Bool.and_eq_true_iff.mpr ⟨(aR (aL (aL (aL k4)))),(aR (aL (aL k4)))⟩;have value:∀{Q':Value->Shared->Prop},(∀vs H₁ l2,fk xs vs l=some l2->r=(.next,l2,H₁)->∀x aq ay t₁,ja (af aa w) hW A ah n env l aq H₁ ay->Step eQ (bl ah) ρ H.next s.heap aq H₁.next ay->bf (af aa w) hW ay aq H₁.next (.tup vs) x->Q' x { s with heap:=ay,toks:=t₁ })->
   wpAny (model aa w) A (eval (.Tuple fs k' sj) env) Q' E s:=by
  intro Q' Xk;have ev:∀o,cA P F es l H=some o->aW P F (.tup es) l H=some (match o with|(.ok vs,H)=>(.ok (.tup vs),H)|(.error c,H)=>(.error c,H)):=λo e=>by
   show iz (cA P F es l H) _=_;rw[e];obtain⟨v|c,H⟩:=o<;>rfl
  refine wY he (λvs H₁ e1 f1=>?_) λc H₁ e1 z1=>?_
  ·refine ed f1 λl2 e2 f2=>?_
   exact vF h1 (.Tuple fs k' sj) A ah env l s ρ H _ Q' E ct N (ev _ e1) λx aq ay t₁ st sp vr=>Xk vs H₁ l2 e2 (Option.some.inj f2).symm x aq ay t₁ (N.next st sp) sp vr
  ·clear he
   skip
   subst z1;exact vF h1 (.Tuple fs k' sj) A ah env l s ρ H _ Q' E ct N (ev _ e1) (lh N hq)
 refine dZ (tO (env:=env) (k:=k) (k':=k') (tpos:=tpos) (sj:=sj) c0 (mA (aR k4))) (λhw=>?_) λhw=>?_
 ·refine Assign_Tuple (value λvs H₁ l2 e2 er x aq ay t₁ aN bL br=>?_) KD hw
  subst er;exact gH (s:={ s with heap:=ay,toks:=t₁ }) (X:=Own env) (xs:=xs) (single:=false) aN.cx.hand c0 (λx _=>jw x) c1 (show bindC false xs (.tup vs) l=some l2 from e2) aN.st aN.lr br λh' t fg dH md=>
   hq aq h' t fg ((bL.weaken λ_ f=>f.elim).trans dH) md
 ·refine Assign_Tuple_swapped (value λvs H₁ l2 e2 er x aq ay t₁ aN bL br=>?_) KD hw
  subst er;refine br.E λp ws z1 z2 vp=>?_;clear br;subst z1;refine cn z2 ?_;clear z2;intro o i g c d;have hlen:(xs.map aK).length=ws.toArray.size:=by rw[List.length_map,List.size_toArray,vp.length,jT e2]
  rw[hlen];refine wpAny_unpackItems_tuple (s:={ s with heap:=ay,toks:=t₁ }) (items:=ws.toArray) aN.cx.hand ⟨o,g,c,i,d⟩ λh' hk=>?_;have kk:∀b o,ay.get? b=some o->h'.get? b=some o:=λb o e=>hk b o (Nat.ne_of_lt (Heap.lt_size e)) e;have sp:Step eQ (bl ah) aq H₁.next ay aq H₁.next h':=.keeps kk;refine aI (qR e2 c4) λm hm ha=>?_;have e3:(xs.map aK).reverse.map (λn=>bindName env n)=xs.reverse.map λx=>bindName env (aK x):=by rw[<-List.map_reverse,List.map_map];rfl
  rw[e3,List.toList_toArray];refine si (s:={ s with heap:=h',toks:=t₁ }) (xs:=xs.reverse) (as:=vs.reverse) (by rw[List.all_reverse];exact c1) hm (aN.st.keeps kk) (aN.lr.cZ sp) ((sp.gr vp).reverse) λE8 t fg dH md=>?_;exact hq aq E8 t fg (((bL.trans sp).weaken λ_ f=>f.elim).trans dH) (md.sub λy v e=>(ha y).symm.trans e)
end
theorem Ao{α β:Type}{f:α->β->Sem (ForInStep β)}{g:β->α->β}:∀(l:List α) (b:β),(∀x r,f x r=pure (.yield (g r x)))->(forIn l b f:Sem β)=pure (l.foldl g b):=by
 intro zz;induction zz with
 |nil=>
  intro b _;exact rfl
 |cons x l ih=>
  intro b h;rw[List.forIn_cons,h];show(forIn l (g b x) f:Sem β)=_;rw[ih _ h];rfl
theorem qS{n:Str}:∀{ns:List Str}{xs:List Value},n∉ns->(ns.zip xs).lookup n=none:=by
 intro zz;induction zz with
 |nil=>
  intro _ _;exact rfl
 |cons m ns ih=>
  intro b0 h;cases b0 with
  |nil=>
   exact rfl
  |cons x xs=>
   rw[List.zip_cons_cons,List.lookup_cons,beq_eq_false_iff_ne.mpr (List.ne_of_not_mem_cons h)];exact ih (List.not_mem_of_not_mem_cons h)
theorem gh{n:Str}:∀{ns:List Str}{xs:List Value},n∈ns->xs.length=ns.length->((ns.zip xs).lookup n).isSome=true:=by
 intro zz;induction zz with
 |nil=>
  intro _ h _;exact nomatch h
 |cons m ns ih=>
  intro b0 h hl;cases b0 with
  |nil=>
   exact nomatch hl
  |cons x xs=>
   rw[List.zip_cons_cons,List.lookup_cons]
   by_cases q:n=m
   ·rw[beq_iff_eq.mpr q];rfl
   ·rw[beq_eq_false_iff_ne.mpr q]
    exact ih ((List.mem_cons.mp h).resolve_left q) (Nat.succ.inj hl)
theorem Fs{α β:Type}{f g:α->Option β}:∀{l:List α},(∀m,m∈l->f m=g m)->l.filterMap f=l.filterMap g:=by
 intro zz;induction zz with
 |nil=>
  intro _;exact rfl
 |cons x l ih=>
  intro h;rw[List.filterMap_cons,List.filterMap_cons,h x (.head _),ih λm hm=>h m (.tail _ hm)]
theorem mL:∀{ns:List Str}{xs:List Value},ns.Nodup->xs.length=ns.length->(ns.filterMap λn=>((ns.zip xs).lookup n).map (n,·))=ns.zip xs:=by
 intro zz;induction zz with
 |nil=>
  intro xs _ _;exact rfl
 |cons n ns ih=>
  intro b0 nd hl;cases b0 with
  |nil=>
   exact nomatch hl
  |cons x xs=>
   rw[List.nodup_cons]at nd;rw[List.zip_cons_cons,List.filterMap_cons_some (b:=(n,x)) (by rw[List.lookup_cons,beq_self_eq_true];rfl)];have ih:=ih (xs:=xs) nd.2 (Nat.succ.inj hl);have this:∀m,m∈ns->(((n,x)::ns.zip xs).lookup m).map (m,·)=((ns.zip xs).lookup m).map (m,·):=λm hm=>by
    have:m≠n:=λe=>nd.1 (e▸hm);rw[List.lookup_cons,beq_eq_false_iff_ne.mpr this]
   exact congrArg _ ((Fs this).trans ih)
section
variable{M:Model}{A:Around}{E:Value->Shared->Prop}{s:Shared}
structure Plain(p:Arguments)(ns:List Str):Prop where
 po:p.posonlyargs=[]
 args:p.args.map (·.arg)=ns
 kw:p.kwonlyargs=[]
 va:p.vararg.isNone=true
 ka:p.kwarg.isNone=true
theorem ny{c:Prop}[Decidable c]{α:Type}{x y:Sem α}{Q:α->Shared->Prop}(h:¬c)(k:wpAny M A y Q E s):wpAny M A (if c then x else y) Q E s:=(if_neg h).symm▸k
theorem uK{fd:FuncData}{ns:List Str}{xs:List Value}{ds:List Value}{Q:List (Str×Value)->Shared->Prop}{binds:List (Str×Value)}(hp:Plain fd.params ns)(hl:xs.length<=ns.length)
  (seq:∀Q':Option (Array Value)->Shared->Prop,(∀o,(o.getD #[]).toList=ds->Q' o s)->wpAny M A (seqItems? fd.defaults) Q' E s)
  (hm:(List.filter (λn=>(List.lookup n (ns.zip xs)).isNone) (List.take (ns.length-(List.drop (ds.length-ns.length) ds).length) ns))=[])
  (hb:ns.filterMap (λn=>((((List.drop (ns.length-(List.drop (ds.length-ns.length) ds).length) ns).zip (List.drop (ds.length-ns.length) ds)).foldl (λr x=>if(List.lookup x.1 r).isNone=true then r++[(x.1,x.2)]else r) (ns.zip xs)).lookup n).map (n,·))=binds)
  (h:Q binds s):wpAny M A (bindArgs fd ⟨xs,[]⟩) Q E s:=by
 obtain⟨g0,g1,pr,g2,g3,g4,g5,g6,g7,g8,g9,Xl,Xm,Xn,Xo⟩:=fd;obtain⟨po,ar,va,ko,kd,ka,df⟩:=pr;obtain⟨p1,p2,p3,p4,p5⟩:=hp;cases va with
 |some _=>cases p4
 |none=>
 cases ka with
 |some _=>cases p5
 |none=>
 replace p1:po=[]:=p1;replace p3:ko=[]:=p3;subst p1 p3;replace p2:([]:List Arg).map (·.arg)++ar.map (·.arg)=ns:=p2;unfold bindArgs;refine wpAny_bind (wpAny_pure (wpAny_bind (seq _ λo ho=>?_)));dsimp only;rw[ho,p2];refine ny (λq=>absurd (of_decide_eq_true (az q).1) (Nat.not_lt.mpr hl)) ?_;rw[hm];refine ny ff ?_;rw[Ao (g:=λr x=>if(List.lookup x.1 r).isNone=true then r++[(x.1,x.2)]else r) _ _ (λx r=>by split<;>rfl)];refine wpAny_bind (wpAny_pure (wpAny_bind (wpAny_pure ?_)));refine ny ff (wpAny_pure ?_);rw[List.map_nil,List.append_nil,hb];exact h
theorem jd{α:Type}{o:Option α}(h:o.isSome=true):¬o.isNone=true:=by cases o<;>first|exact absurd h ff|exact ff
theorem uL{fd:FuncData}{ns:List Str}{xs:List Value}{ds:List Value}{Q:List (Str×Value)->Shared->Prop}(hp:Plain fd.params ns)(nd:ns.Nodup)(hl:xs.length=ns.length)(hd:ds.length<=1)(ZV:ds.length<=ns.length)
  (seq:∀Q':Option (Array Value)->Shared->Prop,(∀o,(o.getD #[]).toList=ds->Q' o s)->wpAny M A (seqItems? fd.defaults) Q' E s)
  (h:Q (ns.zip xs) s):wpAny M A (bindArgs fd ⟨xs,[]⟩) Q E s:=by
 refine uK hp (Nat.le_of_eq hl) seq ?_ ?_ h
 ·rw[List.filter_eq_nil_iff]
  intro n hn;exact jd (gh (xs:=xs) (List.mem_of_mem_take hn) hl)
 ·have key:∀(l:List (Str×Value)),(∀p,p∈l->p.1∈ns)->l.foldl (λr x=>if(List.lookup x.1 r).isNone=true then r++[(x.1,x.2)]else r) (ns.zip xs)=ns.zip xs:=by
   intro l;induction l with
   |nil=>intro _;rfl
   |cons p l ih=>
    intro Dj;rw[List.foldl_cons,if_neg (jd (gh (xs:=xs) (Dj p (.head _)) hl))];exact ih λq hq=>Dj q (.tail _ hq)
  rw[key _ λp hp=>List.mem_of_mem_drop (List.of_mem_zip hp).1];exact mL nd hl
theorem Ft{fd:FuncData}{ns:List Str}{p:Str}{xs:List Value}{d:Value}{Q:List (Str×Value)->Shared->Prop}(hp:Plain fd.params (ns++[p]))(nd:(ns++[p]).Nodup)(hl:xs.length=ns.length)
  (seq:∀Q':Option (Array Value)->Shared->Prop,(∀o,(o.getD #[]).toList=[d]->Q' o s)->wpAny M A (seqItems? fd.defaults) Q' E s)
  (h:Q ((ns++[p]).zip (xs++[d])) s):wpAny M A (bindArgs fd ⟨xs,[]⟩) Q E s:=by
 have el:(ns++[p]).length=ns.length+1:=List.length_append;have e0:List.drop ([d].length-(ns++[p]).length) [d]=[d]:=by rw[el,show[d].length-(ns.length+1)=0 from Nat.sub_eq_zero_of_le (Nat.le_add_left 1 _)];rfl
 have e1:(ns++[p]).length - [d].length=ns.length:=by rw[el];rfl
 have np:p∉ns:=λXp=>(List.nodup_append.mp nd).2.2 p Xp p (.head _) rfl;have ez:(ns++[p]).zip xs=ns.zip xs:=by rw[List.zip_eq_zip_take_min,el,hl,Nat.min_eq_right (Nat.le_succ _),List.take_left' rfl,<-hl,List.take_length]
 refine uK hp (by rw[el,hl];exact Nat.le_succ _) seq ?_ ?_ h
 ·rw[e0,e1,List.filter_eq_nil_iff,ez,List.take_left' rfl]
  exact λn hn=>jd (gh (xs:=xs) hn hl)
 ·rw[e0,e1,List.drop_left' rfl,ez]
  have hn:(ns.zip xs).lookup p=none:=qS np;rw[show List.zip [p] [d]=[(p,d)]from rfl,List.foldl_cons,List.foldl_nil,hn,if_pos (show(none:Option Value).isNone=true from rfl),show ns.zip xs++[((p,d).fst,(p,d).snd)]=(ns++[p]).zip (xs++[d])from(by rw[List.zip_append hl.symm];rfl)];exact mL nd (by rw[List.length_append,List.length_append,hl];rfl)
end
theorem IT{α:Type}{l:List α}(h:l.length<=1)(k:1<=l.length):∃d,l=[d]:=by
 cases l with
 |nil=>exact absurd k (Nat.not_succ_le_zero 0)
 |cons d l=>cases l with
  |nil=>exact⟨d,rfl⟩
  |cons _ _=>exact absurd (Nat.le_of_succ_le_succ h) (Nat.not_succ_le_zero _)
theorem yc:∀{ps:List String}{as ds:List ae}{l:Loc},kR ps as ds=some l->ds.length<=1->(as.length=ps.length∧l=ps.zip as)∨(∃qs p d,ds=[d]∧ps=qs++[p]∧as.length=qs.length∧l=ps.zip (as++[d])):=by
 intro zz;induction zz with
 |nil=>
  intro b0 ds l h _;cases b0 with
  |nil=>
   exact .inl ⟨rfl,(Option.some.inj h).symm⟩
  |cons kT rj=>
   exact absurd h nn
 |cons p ps ih=>
  intro kW ds l h hd;cases kW with
  |nil=>
   have h':En (ds.drop (ds.length-(ps.length+1))) (λd=>if ps.length+1<=ds.length then(kR ps [] ds).map ((p,d)::·)else none)=some l:=h;refine LF h' λd r e h1=>?_;refine fX h1 λhle h2=>?_;clear h' h1;refine aV (IT hd (Nat.le_trans (Nat.le_add_left 1 _) hle)) λd' P7=>?_;subst P7;obtain rfl:ps=[]:=List.eq_nil_of_length_eq_zero (Nat.le_zero.mp (Nat.le_of_succ_le_succ hle));injection e with e _
   subst e;exact .inr ⟨[],p,_,rfl,rfl,rfl,(Option.some.inj h2).symm⟩
  |cons v vs=>
   refine aI (Option.map_eq_some_iff.mp (show(kR ps vs ds).map ((p,v)::·)=some l from h)) λl' h' P8=>?_;subst P8;rcases ih h' hd with ⟨a,b⟩|⟨qs,q,d,a,b,c,e⟩
   ·exact .inl ⟨congrArg _ a,congrArg _ b⟩
   ·exact .inr ⟨p::qs,q,d,a,congrArg _ b,congrArg _ c,congrArg _ e⟩
section
variable{aa:Program}{w:World}{hW:Heap}{gt:List (String×ae)}{P:cW}{F:dQ}{n:Nat}{K:Frag}{mg mb:Str->Option Value}
 {A:Around}{ah:List Env}{env:Env}{l:Loc}{s:Shared}{ρ aq:Nat->Addr}{H H₁:AH}{ay:Heap}{t₁:Nat}
set_option backward.match.sparseCases true in
noncomputable abbrev qq(Q E:Value->Shared->Prop):Result->Shared->Prop:=λr s'=>match r with | .ok (.ret v)=>Q v s' | .ok _=>False | .error e=>E e s'
noncomputable def Mv:Flow->Value
 | .ret v=>v
 | .next=>.none
 | .brk=>.none
 | .cont=>.none
theorem IU{d n:Nat}(h:d+10*(n+1)+20<=recursionLimit):d+1<=recursionLimit:=Nat.le_trans (Nat.le_trans (Nat.add_le_add_left (by decide:1<=20) _) (Nat.add_le_add_right (Nat.le_add_right _ _) _)) h
structure ru(gt:List (String×ae))(K:Frag)(aa:Program)(w:World)(f:Nat)(fi:jr)(fd:FuncData)(body:List Stmt):Prop where
 look:∃c d sl,K.lookup f=some ⟨c,d,.func fd,sl⟩
 co:fd.scope.isCoroutine=false
 gen:fd.scope.isGenerator=false
 kind:fd.scope.kind=.function
 Fu:fd.body=.stmts body
 VQ:fO gt fd.scope fi.body body=true
 code:codeIn K fd.code fd.qualname=true
 VR:fd.closure=[]
 glob:fd.globals=mainGlobals
 blt:fd.builtins=builtinsNs
 plain:Plain fd.params (fi.params.map aK)
 nodup:fi.params.Nodup
 kinds:∀x,x∈fi.params->fd.scope.names.lookup (aK x)=some .local∨fd.scope.names.lookup (aK x)=some .cell
 Ap:∀p,p∈fd.scope.names->p.2≠.free
 Mw:fi.js.length<=1
 P9:fi.js.length<=fi.params.length
 dflt:(fd.defaults=.none∧fi.js=[])∨∃t c d items n sl,fd.defaults=.ref t∧K.lookup t=some ⟨c,d,.seq items n,sl⟩∧∀hW h ρ N,aP (af aa w) hW h ρ N fi.js items.toList
theorem yd{kindOf:Str->Option NameKind}{n:Str}:∀{bs:List (Str×Value)}{m:Str->Option Value},n∉bs.map (·.1)->bindL kindOf bs m n=m n:=by
 intro zz;induction zz with
 |nil=>
  intro _ _;exact rfl
 |cons b0 r ih=>
  intro m h;obtain⟨k,v⟩:=b0;rw[show bindL kindOf ((k,v)::r) m=bindL kindOf r (if kindOf k=some .local then λy=>if y=k then some v else m y else m)from rfl,ih (List.not_mem_of_not_mem_cons h)];split
  ·exact if_neg (List.ne_of_not_mem_cons h)
  ·rfl
theorem ye{kindOf:Str->Option NameKind}{n:Str}:∀{bs:List (Str×Value)}{m:Str->Option Value},n∉bs.map (·.1)->PySem.bindC kindOf bs m n=m n:=by
 intro zz;induction zz with
 |nil=>
  intro _ _;exact rfl
 |cons b0 r ih=>
  intro m h;obtain⟨k,v⟩:=b0;rw[show PySem.bindC kindOf ((k,v)::r) m=PySem.bindC kindOf r (if kindOf k=some .local then m else λy=>if y=k then some v else m y)from rfl,ih (List.not_mem_of_not_mem_cons h)];split
  ·rfl
  ·exact if_neg (List.ne_of_not_mem_cons h)
theorem map_fst_zip{ps:List String}{xs:List Value}:∀{n:Str},n∈((ps.map aK).zip xs).map (·.1)->n∈ps.map aK:=by
 intro n h;refine aI (List.mem_map.mp h) λp hp Qa=>?_;subst Qa;exact(List.of_mem_zip hp).1
theorem yg{h:Heap}{N:Nat}{kindOf:Str->Option NameKind}{x:String}{v:ae}:∀{ps:List String}{as:List ae}{xs:List Value} (m:Str->Option Value),ps.Nodup->aP (af aa w) hW h ρ N as xs->aJ x (ps.zip as)=some v->
  (kindOf (aK x)=some .local->∃u,bindL kindOf ((ps.map aK).zip xs) m (aK x)=some u∧bf (af aa w) hW h ρ N v u)∧(kindOf (aK x)≠some .local->∃u,PySem.bindC kindOf ((ps.map aK).zip xs) m (aK x)=some u∧bf (af aa w) hW h ρ N v u):=by
 intro zz;induction zz with
 |nil=>
  intro _ _ _ _ _ e;exact absurd e nn
 |cons p ps ih=>
  intro b0 kT m nd r e;cases b0 with
  |nil=>
   exact absurd e nn
  |cons a as=>
   cases kT with
   |nil=>
    exact r.elim
   |cons y ys=>
    rw[List.nodup_cons]at nd;replace e:(if x=p then some a else aJ x (ps.zip as))=some v:=e
    by_cases hx:x=p
    ·subst hx
     rw[if_pos rfl]at e;replace e:=Option.some.inj e;subst e;have no:aK x∉((ps.map aK).zip ys).map (·.1):=λq=>by
      refine aI (List.mem_map.mp (map_fst_zip q)) λz hz e=>?_;exact nd.1 (jM e▸hz)
     refine⟨λk=>⟨y,?_,r.1⟩,λk=>⟨y,?_,r.1⟩⟩
     ·refine(yd no).trans ?_
      rw[if_pos k];exact if_pos rfl
     ·refine(ye no).trans ?_
      rw[if_neg k];exact if_pos rfl
    ·rw[if_neg hx]at e
     exact⟨λk=>(ih _ nd.2 r.2 e).1 k,λk=>(ih _ nd.2 r.2 e).2 k⟩
theorem je{x:Str}:∀{l:List (Str×NameKind)}{n:Nat}{acc:List (Str×Addr)},((acc.lookup x).isSome=true∨(x,NameKind.cell)∈l)->((cellsFrom n l acc).lookup x).isSome=true:=by
 intro zz;induction zz with
 |nil=>
  intro _ _ h;exact h.elim id λq=>nomatch q
 |cons b0 r ih=>
  intro n acc h;obtain⟨m,k⟩:=b0;unfold cellsFrom
  by_cases hx:x=m
  ·subst hx
   split
   ·exact ih (.inl (by rw[List.lookup_cons,beq_self_eq_true];rfl))
   ·rename_i hk
    refine ih (h.imp_right λq=>?_);refine dZ (List.mem_cons.mp q) (λe=>?_) λe=>?_
    ·injection e with _ e;subst e;exact absurd rfl hk
    ·exact e
  ·have h':(acc.lookup x).isSome=true∨(x,NameKind.cell)∈r:=h.imp_right λq=>by
    refine dZ (List.mem_cons.mp q) (λe=>?_) λe=>?_
    ·injection e with e;exact absurd e hx
    ·exact e
   split
   ·refine ih (h'.imp_left λq=>?_)
    rw[List.lookup_cons,beq_eq_false_iff_ne.mpr hx];exact q
   ·exact ih h'
theorem Dk{h:Heap}{N:Nat}{as:List ae}{xs:List Value}{d:ae}{u:Value}(r:aP (af aa w) hW h ρ N as xs)(q:bf (af aa w) hW h ρ N d u):aP (af aa w) hW h ρ N (as++[d]) (xs++[u]):=aP.append (bs:=[d]) (ws:=[u]) r ⟨q,trivial⟩
theorem B4{f:Nat}{fi:jr}{fd:FuncData}{body:List Stmt}{as:List ae}{xs:List Value}{Q E:Value->Shared->Prop}(FF:ru gt K aa w f fi fd body)(lim:hW.NoLimit)(X:K.In hW)(hsz:n+1<=90)(hand:A.handled=none∨True)
  (rQ:A.frames=some ah) (Mx:A.depth+10*(n+1)+20<=recursionLimit) (st:St (af aa w) hW ah ρ H s.heap) (vr:aP (af aa w) hW s.heap ρ H.next as xs) (hb:kR fi.params as fi.js=some l)
  (k:∀env aS,St (af aa w) hW (env::ah) ρ H aS.heap->bJ (af aa w) hW aS.heap ρ H.next (bl (env::ah)) env l->(A.deeper env).frames=some (env::ah)->env.scope=fd.scope->(∃h t,aS={ s with heap:=h,toks:=t })->(∀b o,s.heap.get? b=some o->aS.heap.get? b=some o)->
   (∀b,Own env b->s.heap.get? b=none)->(∃L,env.frame=some L∧s.heap.get? L=none)->
   wpAny (model aa w) (A.deeper env) (PySem.execs body env) (λf s'=>Q (Mv f) s')
    (λe s'=>wpAny (model aa w) (A.deeper env) (leaving env e) (λ_ Ee=>E e Ee) (λe' Ee=>E e' Ee) s') aS):
  codeAny (model aa w) A (.call (.ref f) ⟨xs,[]⟩) (qq Q E) s:=by
 refine Eh FF.look λoc od sl Qb=>?_;have Xs:K.In s.heap:=X.keeps st.stays;have fresh:∀b,s.heap.objs.size<=b->s.heap.get? b=none:=λb hb=>by
  cases e:s.heap.get? b with
  |none=>rfl
  |some o'=>exact absurd (Heap.lt_size e) (Nat.not_lt.mpr hb)
 refine codeAny_call_function (fd:=fd) (body:=body) (IU Mx) (Xs _ _ Qb) rfl FF.co FF.gen FF.Fu (codeRec_of Xs FF.code) ?_;have args:∀{C:Prop},(∀Qc ys,l=fi.params.zip Qc->aP (af aa w) hW s.heap ρ H.next Qc ys->(∀(Q':List (Str×Value)->Shared->Prop) (E':Value->Shared->Prop),Q' ((fi.params.map aK).zip ys) s->wpAny (model aa w) A.in1 (bindArgs fd ⟨xs,[]⟩) Q' E' s)->C)->C:=by
  intro C kk;clear k;have hlen:=vr.length;have RS:(fi.params.map aK).Nodup:=List.pairwise_map.mpr (List.Pairwise.imp (λh e=>h (jM e)) FF.nodup);have IV:fd.defaults=.none->fi.js=[]->∀(E':Value->Shared->Prop) (Q':Option (Array Value)->Shared->Prop),(∀o,(o.getD #[]).toList=[]->Q' o s)->wpAny (model aa w) A.in1 (seqItems? fd.defaults) Q' E' s:=by
   intro h1 h2 E' Q' hq;rw[h1];exact wpAny_bind (wpAny_pure (wpAny_pure (hq none rfl)))
  rcases yc hb FF.Mw with ⟨hl,rfl⟩|⟨qs,p,d,hd,Xq,hl,rfl⟩
  ·refine kk as xs rfl vr λQ' E' hq=>?_
   clear kk;have Qd:xs.length=(fi.params.map aK).length:=by rw[List.length_map,hlen,hl]
   rcases FF.dflt with ⟨d1,d2⟩|⟨t,c,dd,items,m,Xr,d1,d2,d3⟩
   ·exact uL (ds:=[]) FF.plain RS Qd (Nat.zero_le _) (Nat.zero_le _) (IV d1 d2 E') hq
   ·have My:=(d3 hW s.heap ρ H.next).length
    refine uL (ds:=items.toList) FF.plain RS Qd (by rw[My];exact FF.Mw) (by
     rw[My,List.length_map]
     exact FF.P9) (λXu Mz=>?_) hq
    rw[d1];exact wpAny_seqItems (Xs _ _ d2) rfl (Mz (some items) rfl)
  ·rcases FF.dflt with ⟨d1,d2⟩|⟨t,c,dd,items,m,Xr,d1,d2,d3⟩
   ·rw[d2]at hd;cases hd
   ·have hv:=d3 hW s.heap ρ H.next
    rw[hd]at hv;refine jc (xs:=items.toList) hv λu hu hv=>?_;refine kk (as++[d]) (xs++[u]) rfl (Dk vr hv) λQ' E' hq=>?_;clear kk;have Iy:=FF.plain;rw[Xq,List.map_append]at Iy RS hq;refine Ft (ns:=qs.map aK) (p:=aK p) Iy RS (by rw[List.length_map,hlen,hl]) (λXu Mz=>?_) hq;rw[d1];exact wpAny_seqItems (Xs _ _ d2) rfl (Mz (some items) hu)
 refine args λps ys Xv To KG=>?_;clear args;subst Xv;refine KG _ _ ?_;clear KG;rw[FF.VR];have Xw:=To.length;refine wpAny_newFunctionEnv_cells FF.kind (λx hx=>?_) λenv he s' ic=>?_
 ·refine aI (List.mem_map.mp (map_fst_zip (List.mem_map_of_mem hx))) λx' NZ e=>?_
  refine dZ (FF.kinds x' NZ) (λq=>?_) λq=>?_
  ·left;rw[<-e];exact q
  ·right
   rw[<-e];exact⟨q,je (.inr (lookup_mem q))⟩
 ·have hL:env.locals=s.heap.objs.size:=by rw[he];rfl
  have tP:env.scope=fd.scope:=by rw[he];rfl
  have IW:env.frame=some s.heap.objs.size:=by rw[he];rfl
  have Qe:env.cells=cellsFrom (s.heap.objs.size+1) fd.scope.names []:=by rw[he];rfl
  have Qf:env.globals=mainGlobals:=by rw[he];exact FF.glob
  have Tp:env.builtins=builtinsNs:=by rw[he];exact FF.blt
  refine aO ic.done λh' ZW e kp=>?_;have ns:=ic.toInCall.ns;replace kp:∀b o,s.heap.get? b=some o->s'.heap.get? b=some o:=by rw[e];exact kp
  subst e;have above:∀x c,env.cells.lookup x=some c->s.heap.objs.size<c:=λx c e=>by
   have:=ic.above x c (mem_of_lookup e)
   rwa [hL]at this
  refine⟨lim.keeps λb o e=>kp b o (st.stays b o e),codeAny_func ?_⟩;have Tq:bl (env::ah)=s.heap.objs.size::bl ah:=List.filterMap_cons_some (f:=λe:Env=>e.frame) IW;have fg:St (af aa w) hW ah ρ H h':=st.keeps kp;have MA:∀c,s.heap.objs.size<=c->c∉bl ah:=λc hc m=>by
   refine FunFrames.fN st.bW m λ_ o g _=>?_;rw[fresh c hc]at g;exact absurd g nn
  have vY:∀c,s.heap.objs.size<=c->∀n,n<H.next->ρ n≠c:=λc hc n hn q=>by
   refine st.wK n hn λob _ r=>?_;refine r.there λoc g _ _=>?_;rw[q,fresh c hc]at g;exact absurd g nn
  have MB:∀c,s.heap.objs.size<=c->hW.get? c=none:=λc hc=>by
   cases q:hW.get? c with
   |none=>rfl
   |some o=>have:=st.stays c o q;rw[fresh c hc]at this;cases this
  refine ft (id ns) λoL es ep gL dL rL=>?_;rw[hL]at gL;have HR:St (af aa w) hW (env::ah) ρ H h':={
   fg with
   bW:=⟨by rw[tP,FF.kind];exact(λq=>nomatch q),⟨_,oL,IW,MB _ (Nat.le_refl _),gL,λvs q=>by rw[dL]at q;cases q⟩,fg.bW⟩
   qM:=λn hn=>by
    rw[Tq]
    intro m
    refine dZ (List.mem_cons.mp m) (λe=>?_) λm=>?_
    ·exact vY _ (Nat.le_refl _) n hn e
    ·exact fg.qM n hn m }
  have HQ:iC s.heap h':=dz kp;have lr:bJ (af aa w) hW h' ρ H.next (bl (env::ah)) env (fi.params.zip ps):={
   fn:=by rw[tP];exact FF.kind
   glob:=Qf
   blt:=Tp
   dict:=⟨_,ns,λx v e z kd=>by
    refine aI ((yg (kindOf:=env.kindOf) (λ_=>none) FF.nodup To e).1 kd) λu a b=>?_
    exact⟨u,a,b.mono HQ (Nat.le_refl _) λ_ _=>rfl⟩⟩
   cell:=λx hx=>by
    have N2:env.kindOf x=some .cell:=hx.resolve_right λq=>by
     unfold Env.kindOf at q;rw[tP]at q
     exact FF.Ap _ (lookup_mem q) rfl
    unfold Env.kindOf at N2;rw[tP]at N2
    rw[Qe]
    exact Option.isSome_iff_exists.mp (je (.inr (lookup_mem N2)))
   tB:=λx v e hx=>by
    have N2:env.kindOf (aK x)=some .cell:=hx.resolve_right λq=>by
     unfold Env.kindOf at q;rw[tP]at q
     exact FF.Ap _ (lookup_mem q) rfl
    obtain⟨u,a,b⟩:=(yg (kindOf:=env.kindOf) (λ_=>none) FF.nodup To e).2 (by rw[N2];exact(λq=>nomatch q))
    have MC:=N2
    unfold Env.kindOf at MC;rw[tP]at MC
    obtain⟨c,hc⟩:∃c,env.cells.lookup (aK x)=some c:=by
     rw[Qe];exact Option.isSome_iff_exists.mp (je (.inr (lookup_mem MC)))
    have:=ic.cell _ _ hc
    rw[a]at this
    exact⟨c,u,hc,this,b.mono HQ (Nat.le_refl _) λ_ _=>rfl⟩
   kM:=by rw[hL];exact⟨vY _ (Nat.le_refl _),MB _ (Nat.le_refl _)⟩
   xc:=λx c e=>by
    have zO:=above x c e
    refine⟨⟨_,ic.cell x c e⟩,vY c (Nat.le_of_lt zO),MB c (Nat.le_of_lt zO),?_,by rw[hL];exact Nat.ne_of_gt zO⟩
    rw[Tq]
    intro m
    refine dZ (List.mem_cons.mp m) (λe=>?_) λm=>?_
    ·exact absurd e (Nat.ne_of_gt zO)
    ·exact MA c (Nat.le_of_lt zO) m
   sep:=λx y c e1 e2=>name_of_addr ic.apart (mem_of_lookup e1) (mem_of_lookup e2)
   frame:=⟨_,IW,by rw[Tq];rfl⟩ }
  refine wpAny_mono (k env _ HR lr (by show A.frames.map _=_;rw[rQ];rfl) tP ⟨_,_,rfl⟩ kp (λb hb=>?_) ⟨_,IW,fresh _ (Nat.le_refl _)⟩) (λf Ee hf=>by cases f<;>exact hf) λ_ _ z=>z;rcases hb with rfl|⟨x,e⟩
  ·rw[hL];exact fresh _ (Nat.le_refl _)
  ·exact fresh _ (Nat.le_of_lt (above x b e))
theorem St.pop{h:Heap}(x:St (af aa w) hW (env::ah) ρ H h):St (af aa w) hW ah ρ H h:=
 { x with
  bW:=x.bW.2.2
  qM:=λn hn m=>x.qM n hn (by
   refine dw x.bW λ_ KH _=>?_
   refine aO KH ?_;clear KH;intro L _ b _
   have:bl (env::ah)=L::bl ah:=by simp[bl,b]
   rw[this];exact .tail _ m) }
theorem Step.pop{X:Addr->Prop}{h h':Heap}{bq:Nat->Addr}{N N':Nat}(x:Step X (bl (env::ah)) ρ N h bq N' h')(hX:∀b,X b->h.get? b=none)(hL:∃L,env.frame=some L∧h.get? L=none):Step eQ (bl ah) ρ N h bq N' h':=by
 refine aI hL ?_;clear hL;intro L e hn;have fe:bl (env::ah)=L::bl ah:=by simp[bl,e]
 exact{
  le:=x.le,old:=x.old,new:=x.new,live:=x.live,eg:=x.eg
  keep:=λb o g hc _ hf=>x.keep b o g hc (λz=>by rw[hX b z]at g;cases g) (by
   rw[fe];intro m
   rcases List.mem_cons.mp m with rfl|m
   ·rw[hn]at g;exact absurd g nn
   ·exact hf m)
  frame:=λb o g hf _=>x.frame b o g (by rw[fe];exact .tail _ hf) λz=>by rw[hX b z]at g;cases g }
theorem ME{d:Nat}(h:d+10*(n+1)+60<=recursionLimit):d+10*(n+1)+20<=recursionLimit:=Nat.le_trans (Nat.add_le_add_left (by decide) _) h
theorem IX(C:Cx A ah (n+1))(h:(A.deeper env).frames=some (env::ah)):Cx (A.deeper env) (env::ah) n:=
 ⟨C.hand,h,by have:=C.depth;show A.depth+1+10*n+60<=_;omega,by have:=C.units;show A.units+3+40*n+200<=_;omega⟩
theorem MH{env:Env}{e:Addr}{c:Nat}{h0:Heap}{E:Value->Shared->Prop}{E':Value->Shared->Prop}{A':Around}(rQ:A'.frames=some (env::ah))(hf:∃L,env.frame=some L)(fm:tH hW (env::ah) h0 s.heap)(st:St (af aa w) hW (env::ah) ρ H s.heap)(x:qm h0 s.heap e c)
  (hQ:∀h',St (af aa w) hW (env::ah) ρ H h'->Step (kO h0) (bl (env::ah)) ρ H.next s.heap ρ H.next h'->ExcAt h0 h' e c->E (.ref e) { s with heap:=h' }):
  wpAny (model aa w) A' (leaving env (.ref e)) (λ_ Ee=>E (.ref e) Ee) E' s:=by
 refine aV hf ?_;clear hf;intro L hf;have hh:(bl (env::ah)).head? = some L:=by simp[bl,hf]
 unfold leaving;refine wpAny_bind (eG (h0:=h0) rQ hf hh fm st x λh1 N3 MJ x1 _=>?_);refine dr (h0:=h0) (s:={ s with heap:=h1 }) ⟨fm.stays,fm.bW,λb hb=>fm.live b (MJ.live b hb)⟩ N3 x1 λh2 HS rq x2 _=>?_;exact hQ h2 HS (MJ.trans rq) x2
theorem uM{C:Addr}{xs:List Value}:(Code.builtin "type.__call__" ⟨.ref C::xs,[]⟩).weight<=1:=by
 have h1:(Code.builtin "type.__call__" ⟨.ref C::xs,[]⟩).isGuard=false:=by show guardIds.contains "type.__call__" = false;decide
 unfold Code.weight;rw[h1];exact Nat.le_of_ble_eq_true rfl
theorem yh{d w n m k c:Nat}(hw:w<=1)(h:d+k*(n+1)+c<=m)(hk:1<=k):d+w+k*n+c<=m:=by
 rw[Nat.mul_add]at h;generalize k*n=z at *;omega
theorem Qg{C:Addr}{xs:List Value}(c:Cx A ah (n+1)):Cx (A.under (.builtin "type.__call__" ⟨.ref C::xs,[]⟩)) ah n:=
 ⟨c.hand,c.stack,yh uM c.depth (by decide),yh (w:=(Code.builtin "type.__call__" ⟨.ref C::xs,[]⟩).cUnits) (Nat.le_of_eq rfl) c.units (by decide)⟩
noncomputable def mf(aa:Program)(w:World)(hW:Heap)(F:dQ)(n:Nat):Prop:=∀(f:Nat) (as:List ae) (H:AH) (r:Except Nat ae×AH) (A:Around) (ah:List Env) (s:Shared) (ρ:Nat->Addr) (xs:List Value) (Q E:Value->Shared->Prop),
 F f as H=some r->Cx A ah n->St (af aa w) hW ah ρ H s.heap->aP (af aa w) hW s.heap ρ H.next as xs->bB (af aa w) hW ah s ρ H r Q E->codeAny (model aa w) A (.call (.ref f) ⟨xs,[]⟩) (qq Q E) s
theorem mf.toF(h:mf aa w hW F n):jR aa w hW F n:=λf as H r A ah s ρ xs Q E a b c d e=>wpAny_call (h f as H r A ah s ρ xs Q E a b c d e)
structure Dl(K:Frag)(C:Nat)(ci:eJ):Prop where
 makes:makesIn K C=true
 Qh:ci.init=none->findIn K (.ref C) "__init__" = some (some (.builtin "object.__init__"))
 Qi:∀g,ci.init=some g->findIn K (.ref C) "__init__" = some (some (.ref g))∧typeIn K (.ref g)=some (.type "function")
structure Text(aa:Program)(w:World)(hW:Heap)(gt:List (String×ae))(P:cW)(K:Frag):Prop where
 lim:hW.NoLimit
 uD:K.In hW
 fns:∀f fi,P.fns f=some fi->∃fd body,ru gt K aa w f fi fd body
 cls:∀C ci,P.cls C=some ci->Dl K C ci
theorem Step.IY{h0 h1 h':Heap}{bq:Nat->Addr}{N N':Nat}{X:Addr->Prop}(kp:∀b o,h0.get? b=some o->h1.get? b=some o)(hO:∀b,X b->h0.get? b=none)(hL:∃L,env.frame=some L∧h0.get? L=none)(x:Step X (bl (env::ah)) ρ N h1 bq N' h'):Step eQ (bl ah) ρ N h0 bq N' h':=
 ((Step.keeps (X:=X) (fr:=bl (env::ah)) (ρ:=ρ) (N:=N) kp).trans x).pop hO hL
theorem B5{h0 h1:Heap}(kp:∀b o,h0.get? b=some o->h1.get? b=some o)(b:Addr)(hb:h1.get? b=none):h0.get? b=none:=by
 cases q:h0.get? b with
 |none=>rfl
 |some o=>exact absurd ((kp b o q).symm.trans hb) (λz=>nn z.symm)
theorem Fv(T:Text aa w hW gt P K)(hn:n+1<=90)(hS:∀ss,dD aa w hW gt P (run P n) n ss){f:Nat}{fi:jr}{as:List ae}{xs:List Value}{H:AH}{l:Loc}{q:Except Nat ae×AH}{Q E:Value->Shared->Prop}(hf:P.fns f=some fi)(C:Cx A ah (n+1))(st:St (af aa w) hW ah ρ H s.heap)
  (vr:aP (af aa w) hW s.heap ρ H.next as xs) (hb:kR fi.params as fi.js=some l) (he:back (execs P (run P n) fi.body l H)=some q) (hq:bB (af aa w) hW ah s ρ H q Q E):codeAny (model aa w) A (.call (.ref f) ⟨xs,[]⟩) (qq Q E) s:=by
 refine dA (T.fns f fi hf) λfd body FF=>?_;refine B4 FF T.lim T.uD hn (.inr trivial) C.stack (ME C.depth) st vr hb λenv aS HR lr rQ tP mI kp hO hL=>?_;refine dA mI ?_;clear mI;intro h1 t1 Qj;subst Qj;have N:ja (af aa w) hW (A.deeper env) (env::ah) n env l ρ H h1:=⟨IX C rQ,HR,lr⟩
 have Tr:=λr=>hS fi.body body (A.deeper env) (env::ah) env l { s with heap:=h1,toks:=t1 } ρ H r (λf s'=>Q (Mv f) s') (λe s'=>wpAny (model aa w) (A.deeper env) (leaving env e) (λ_ Ee=>E e Ee) (λe' Ee=>E e' Ee) s') (by rw[tP];exact FF.VQ) N;rcases Oy he with ⟨l',H₁,e1,rfl⟩|⟨v,l',H₁,e1,rfl⟩|⟨c,l',H₁,e1,rfl⟩
 ·exact Tr _ e1 λbq h' t fg dH md=>hq .none bq h' t fg.pop (dH.IY kp hO hL) rfl
 ·exact Tr _ e1 λx bq h' t fg dH SO=>hq x bq h' t fg.pop (dH.IY kp hO hL) SO
 ·refine Tr _ e1 λe bq h' t fg dH md ex=>?_
  refine MH (h0:=h1) (s:={ s with heap:=h',toks:=t }) rQ (hL.elim λL z=>⟨L,z.1⟩) ⟨HR.stays,HR.bW,dH.live⟩ fg ex λh2 HS rq x2=>?_;exact hq e bq h2 t HS.pop (((dH.weaken (Y:=λb=>Own env b∨kO h1 b) λ_ z=>.inl z).trans (rq.weaken λ_ z=>.inr z)).IY kp (λb z=>z.elim (hO b) λz=>B5 kp b z) hL) (x2.back λb=>B5 kp b)
theorem Aq(T:Text aa w hW gt P K)(ih:mf aa w hW (run P n) n){f:Nat}{ci:eJ}{as:List ae}{xs:List Value}{H:AH}{q:Except Nat ae×AH}{Q E:Value->Shared->Prop}(hc:P.cls f=some ci)(C:Cx A ah (n+1))(st:St (af aa w) hW ah ρ H s.heap)
  (vr:aP (af aa w) hW s.heap ρ H.next as xs) (he:mF ci.init (λg=>made (run P n g (.ref (H.next+1)::as) ((H.new (.bg [] [])).new (.inst f H.next))) (.ref (H.next+1))) (l0 as (ok (.ref (H.next+1)) ((H.new (.bg [] [])).new (.inst f H.next))))=some q)
  (hq:bB (af aa w) hW ah s ρ H q Q E):codeAny (model aa w) A (.call (.ref f) ⟨xs,[]⟩) (qq Q E) s:=by
 have MF:=T.cls f ci hc;have X:K.In s.heap:=T.uD.keeps st.stays;have Y:=makes_of (M:=model aa w) X MF.makes;have sz:(s.heap.push emptyDict).objs.size=s.heap.objs.size+1:=Heap.size_push ..;have N3:St (af aa w) hW ah (ext ρ H.next s.heap.objs.size) (H.new (.bg [] [])) (s.heap.push emptyDict):=st.bR emptyDict (.bg [] []) ⟨[],0,Heap.get?_push_size _ rfl,trivial,trivial⟩;have HS:St (af aa w) hW ah (ext (ext ρ H.next s.heap.objs.size) (H.next+1) (s.heap.objs.size+1)) ((H.new (.bg [] [])).new (.inst f H.next)) ((s.heap.push emptyDict).push (instObj f s.heap.objs.size)):=by
  rw[<-sz];refine N3.bR (instObj f s.heap.objs.size) (.inst f H.next) ⟨Nat.lt_succ_of_lt (Nat.lt_succ_self _),#[],?_⟩;exact(Heap.get?_push_size _ rfl).trans (congrArg (λx=>some ({ cls:=.ref f,dict:=some x,data:=.plain,slots:=#[] }:Obj)) ((fE (Nat.lt_succ_self H.next)).trans dB).symm)
 have rq:Step eQ (bl ah) ρ H.next s.heap (ext (ext ρ H.next s.heap.objs.size) (H.next+1) (s.heap.objs.size+1)) (H.next+2) ((s.heap.push emptyDict).push (instObj f s.heap.objs.size)):=by
  rw[<-sz];exact(Step.bR _).trans (.bR _)
 have self:bf (af aa w) hW ((s.heap.push emptyDict).push (instObj f s.heap.objs.size)) (ext (ext ρ H.next s.heap.objs.size) (H.next+1) (s.heap.objs.size+1)) (H.next+2) (.ref (H.next+1)) (.ref (s.heap.objs.size+1)):=⟨Nat.lt_succ_self _,by rw[dB]⟩
 refine rP he (λgi hi he=>?_) λhi he=>?_
 ·refine bk (MF.Qi gi hi) λi1 i2=>?_
  refine make_core (R:=qq Q E) Y (looks_findIn X i1) (λself=>bind_fn X self i2) (.inl rfl) ?_;have key:=λr e=>ih gi (.ref (H.next+1)::as) ((H.new (.bg [] [])).new (.inst f H.next)) r (A.under (.builtin "type.__call__" ⟨.ref f::xs,[]⟩)) ah ⟨(s.heap.push emptyDict).push (instObj f s.heap.objs.size),s.gens,s.drawn,s.toks,s.os⟩ (ext (ext ρ H.next s.heap.objs.size) (H.next+1) (s.heap.objs.size+1)) (.ref (s.heap.objs.size+1)::xs) (λv s'=>v=.none∧Q (.ref (s.heap.objs.size+1)) s') E e (Qg C) HS ⟨self,rq.gr vr⟩;have fin:∀(r':Result) s',qq (λv s'=>v=.none∧Q (.ref (s.heap.objs.size+1)) s') E r' s'->InitBack (s.heap.objs.size+1) (qq Q E) r' s':=λr' s' z=>by
   rcases r' with e|(v|_|_|_)<;>exact z
  refine Oz he (λH₁ e1 z1=>?_) λc H₁ e1 z1=>?_
  ·clear he
   subst z1;refine codeAny_mono (key _ e1 ?_) fin;intro x bq h' t' fg dH vx;exact⟨vx,hq _ bq h' t' fg (rq.trans dH) (dH.i0 self)⟩
  ·clear he
   subst z1;refine codeAny_mono (key _ e1 ?_) fin;intro e bq h' t' fg dH ex;exact hq e bq h' t' fg (rq.trans dH) (ex.back rq.live)
 ·refine LD he λz1 he=>?_
  subst z1;obtain rfl:xs=[]:=by cases xs with|nil=>rfl|cons _ _=>exact vr.elim
  obtain rfl:=zJ he;refine make_core (R:=qq Q E) Y (looks_findIn X (MF.Qh hi)) (λself=>Looks.of_pure (oi_bind self)) (.inr ⟨rfl,rfl⟩) ?_;have hx:((s.heap.push emptyDict).push (instObj f s.heap.objs.size)).get? (s.heap.objs.size+1)=some (instObj f s.heap.objs.size):=by heap_get
  have t1:Looks (model aa w) ((s.heap.push emptyDict).push (instObj f s.heap.objs.size)) (typeOf (.ref (s.heap.objs.size+1))) (.ref f):=(Looks.ld hx).andThen .now;have t2:Looks (model aa w) ((s.heap.push emptyDict).push (instObj f s.heap.objs.size)) (isInstance (.ref (s.heap.objs.size+1)) (.type "object")) true:=t1.andThen (Y.top.keeps λb o e=>Heap.get?_push_of_some _ (Heap.get?_push_of_some _ e));refine codeAny_call_builtin oi_plain entry_oi (@check_slot (model aa w) _ _ _ "object.__init__" "object" "__init__" (.ref (s.heap.objs.size+1)) [] [] _ oi_kind oi_split t2 (oi_args (.ref (s.heap.objs.size+1))) ?_);rw[oi_run];exact wpAny_pure (And.intro rfl (hq _ _ _ s.toks HS rq self))
theorem Fw(T:Text aa w hW gt P K)(hn:n+1<=90)(hS:∀ss,dD aa w hW gt P (run P n) n ss)(ih:mf aa w hW (run P n) n):mf aa w hW (run P (n+1)) (n+1):=by
 intro f as H r A ah s ρ xs Q E he C st vr hq;refine rP he (λfi hf he=>?_) λ_ he=>?_
 ·refine ed he λl hb he=>?_
  exact Fv T hn hS hf C st vr hb he hq
 ·refine ed he λci hc he=>?_
  exact Aq T ih hc C st vr he hq
end
noncomputable abbrev fu(C t:Addr):Obj:={ cls:=.ref C,data:=.fields #[.ref t,.none,.none,.none,.bool false,.none] }
section
variable{M:Model}{A:Around}{E:Value->Shared->Prop}{h:Heap}{g:Array GenState}{d:Drawn}{t:Nat}{os:OsState}
variable{nm q:Str}{C N:Addr}{bs bm:List Value}{yi:Bool}{sn:List Str}{sub:List Value}{ab:Bool}{col:Option Bool}{dd:Option Addr}{k0 k1 k2 k3 k5:Option Value}
theorem tQ{rest:List Value}{Q:Unit->Shared->Prop}(hX:bm.contains (.type "Exception")=true)(hC:h.get? C=some (excClassObj nm q C N bs bm yi sn sub ab col dd k0 k1 k2 k3 k5 "Exception.__new__"))
  (hq:Q () ⟨h,g,d,t,os⟩):wpAny M A (checkBuiltinCall "Exception.__new__" ⟨.ref C::rest,[]⟩) Q E ⟨h,g,d,t,os⟩:=by
 have F:=PySem.F.excBase_Exception;have Qk:(Value.ref C::bm).contains (.type "Exception")=true:=by rw[List.contains_cons,hX,Bool.or_true]
 have VS:=F.noStar;unfold checkBuiltinCall;rw[F.newKind,F.newSplit,F.newRow]
 repeat (first|refine wpAny_loadPart_at hC ?_|(refine wpAny_isSubtype_exc hC ?_;rw[Qk])|refine wpAny_staticBase_exc hC ?_|refine wpAny_madeBy_exc hC ?_|simp only[bne_self_eq_false,Bool.false_eq_true,if_false]|wp_step)
 exact hq
end
section
variable{aa:Program}{w:World}{A:Around}{R:Result->Shared->Prop}{h:Heap}{g:Array GenState}{d:Drawn}{t:Nat}{os:OsState}
variable{nm q:Str}{C N:Addr}{bs bm:List Value}{yi:Bool}{sn:List Str}{sub:List Value}{ab:Bool}{col:Option Bool}{dd:Option Addr}{k0 k1 k2 k3 k5:Option Value}
theorem IZ{rest:List Value}(hX:bm.contains (.type "Exception")=true)(Ts:bm.contains (.type "AttributeError")=false)(Tt:bm.contains (.type "NameError")=false)
  (hC:h.get? C=some (excClassObj nm q C N bs bm yi sn sub ab col dd k0 k1 k2 k3 k5 "Exception.__new__"))
  (hq:R (.ok (.ret (.ref (h.objs.size+1)))) ⟨(h.push { cls:=.type "tuple",data:=.seq rest.toArray }).push (fu C h.objs.size),g,d,t,os⟩) (KI:rest.length<=sizeLine):
  codeAny (model aa w) A (.builtin "Exception.__new__" ⟨.ref C::rest,[]⟩) R ⟨h,g,d,t,os⟩:=by
 have F:=PySem.F.excBase_Exception;have VT:=F.ends;have Tu:(Value.ref C::bm).contains (.type "Exception")=true:=by rw[List.contains_cons,hX,Bool.or_true]
 have Xx:(Value.ref C::bm).contains (.type "AttributeError")=false:=by rw[List.contains_cons,Ts];rfl
 have Xy:(Value.ref C::bm).contains (.type "NameError")=false:=by rw[List.contains_cons,Tt];rfl
 refine codeAny_builtinAt F.entry ?_;unfold Builtin.«BaseException.__new__»;refine PySem.wpAt_bind ?_;show PySem.wpAt _ _ _ (stack >>= _) _ _ _;refine PySem.wpAt_bind (PySem.wpAt_stack λp below=>PySem.wpAt_of_wpAny ?_)
 wp_walk
 refine PySem.wpAt_of_wpAny ?_;rw[F.owner]
 repeat (first|with_reducible refine wpAny_madeHere_exc F.canon hC ?_|with_reducible refine wpAny_loadPart_at hC ?_|(with_reducible refine wpAny_isSubtype_exc hC ?_;first|rw[Tu]|rw[Xx]|rw[Xy])|wp_step)
 show R _ _;rw[Heap.size_push];exact hq
theorem Fx{rest:List Value}{init:Value}(hX:bm.contains (.type "Exception")=true)(Ts:bm.contains (.type "AttributeError")=false)(Tt:bm.contains (.type "NameError")=false)
  (hC:h.get? C=some (excClassObj nm q C N bs bm yi sn sub false col dd k0 k1 k2 k3 k5 "Exception.__new__")) (KI:rest.length<=sizeLine)
  (call:Looks (model aa w) h (specialOf (.ref C) "__call__") (some (.builtin "type.__call__"))) (typ:Looks (model aa w) h (isInstance (.ref C) (.type "type")) true)
  (hi:Looks (model aa w) h (typeLookup (.ref C) "__init__") (some init)) (hb:∀self,Looks (model aa w) h (bindSpecial init self) (init,[self]))
  (hq:codeAny (model aa w) (A.under (.builtin "type.__call__" ⟨.ref C::rest,[]⟩)) (.call init ⟨.ref (h.objs.size+1)::rest,[]⟩) (InitBack (h.objs.size+1) R)
   ⟨(h.push { cls:=.type "tuple",data:=.seq rest.toArray }).push (fu C h.objs.size),g,d,t,os⟩):
  codeAny (model aa w) A (.call (.ref C) ⟨rest,[]⟩) R ⟨h,g,d,t,os⟩:=by
 refine codeAny_of_tree ?_;show wpAny _ _ (callAny (.ref C) _) _ _ _;refine nd_load hC ?_;show wpAny _ _ (callAny.viaDunder (.ref C) _) _ _ _;unfold callAny.viaDunder;refine wpAny_bind (call.at ?_);dsimp only;rw[tc_bind];refine wpAny_bind (wpAny_pure (wpAny_bind (wpAny_pure ?_)));refine wpAny_pure (a:=Fin.again (.call (.builtin "type.__call__") ⟨.ref C::rest,[]⟩)) (And.intro rfl ?_);refine codeAny_call_builtin_at (Code.quiet_builtin _ (by decide +kernel)) entry_typeCall (check_slot tc_kind tc_split typ (tc_args _ _ _) ?_);unfold Builtin.«type.__call__»
 repeat (first|with_reducible refine wpAny_loadPart_at hC ?_|with_reducible refine wpAny_madeBy_exc hC ?_|wp_step)
 have F:=PySem.F.excBase_Exception;refine codeAny_call_builtin_code (Code.quiet_builtin _ F.quiet) (tQ hX hC ?_);refine IZ hX Ts Tt hC ?_ KI;show wpAny _ _ _ _ _ _;have k:∀b o,h.get? b=some o->((h.push { cls:=.type "tuple",data:=.seq rest.toArray }).push (fu C h.objs.size)).get? b=some o:=λb o e=>Heap.get?_push_of_some _ (Heap.get?_push_of_some _ e);have Ql:=k _ _ hC;have z9:((h.push { cls:=.type "tuple",data:=.seq rest.toArray }).push (fu C h.objs.size)).get? (h.objs.size+1)=some (fu C h.objs.size):=by heap_get
 have Xz:(Value.ref C::bm).contains (.ref C)=true:=by simp
 have i1:=hi.keeps k;have b1:=(hb (.ref (h.objs.size+1))).keeps k;have t1:Looks (model aa w) ((h.push { cls:=.type "tuple",data:=.seq rest.toArray }).push (fu C h.objs.size)) (typeOf (.ref (h.objs.size+1))) (.ref C):=(Looks.ld z9).andThen .now;have s1:Looks (model aa w) ((h.push { cls:=.type "tuple",data:=.seq rest.toArray }).push (fu C h.objs.size)) (isSubtype (.ref C) (.ref C)) true:=λA Q E s k' q=>by
  obtain⟨hh,g',d',t',ZX⟩:=s;refine wpAny_isSubtype_exc (h:=hh) (k' _ _ Ql) ?_;rw[Xz];exact q
 unfold isInstance callSpecial? specialOf
 repeat (first|with_reducible refine wpAny_call ?_|lk)
 refine codeAny_mono hq λr s' z=>?_;rcases r with e|(v|_|_|_)<;>first|exact z|exact z.elim|skip
 refine bk z ?_;clear z;intro Qm z;subst Qm;exact wpAny_pure (wpAny_pure z)
end
section
open Builtin Builtin.ObjectAttr
noncomputable def VU(v:Value)(k:String->Bool):Bool:=match v with
 | .type a=>k a
 |_=>false
theorem Tv{v:Value}{k:String->Bool}(h:VU v k=true):∃a,v=.type a∧k a=true:=by
 cases v<;>first|exact⟨_,rfl,h⟩|exact absurd h ff
noncomputable def KJ(v:Value):Bool:=match v with
 | .ref _=>true
 |_=>false
theorem MK{v:Value}(h:KJ v=true):∃a,v=.ref a:=by
 cases v<;>first|exact⟨_,rfl⟩|exact absurd h ff
noncomputable def yj(s:String)(v:Value):Bool:=VU v λa=>a==s
theorem uN{s:String}{v:Value}(h:yj s v=true):v=.type s:=by
 refine aI (Tv h) λa Qn h=>?_;subst Qn;rw[eq_of_beq h]
noncomputable def fK:List Value->Bool
 |[]=>false
 |v::r=>(KJ v&&fK r) || (yj "Exception" v&&rR r λb c=>yj "BaseException" b&&yj "object" c)
theorem yk{v:Value}{r:List Value}(h:fK (v::r)=true):(∃a,v=.ref a∧fK r=true)∨(v=.type "Exception" ∧ r=[.type "BaseException",.type "object"]):=by
 refine dZ (Bool.or_eq_true_iff.mp h) (λh=>?_) λh=>?_
 ·refine aV (MK (az h).1) λa e=>?_
  exact .inl ⟨a,e,(az h).2⟩
 ·refine px (az h).2 λb c e k=>?_
  rw[uN (az k).1,uN (az k).2]at e;exact .inr ⟨uN (az h).1,e⟩
theorem Ar(self:Value)(l:List Value)(h:fK l=true):refuseLoop self "__setattr__" l=pure ():=by
 induction l with
 |nil=>exact absurd h ff
 |cons v r ih=>
  rcases yk h with ⟨a,e,h⟩|⟨e,e2⟩
  ·rw[e,refuseLoop_ref];exact ih h
  ·rw[e,e2];exact PySem.F.store_Exception.passes self
structure I0(l:List Value):Prop where
 obj:l.contains (.type "object")=true
 exc:l.contains (.type "Exception")=true
 base:l.contains (.type "BaseException")=true
 attr:l.contains (.type "AttributeError")=false
 name:l.contains (.type "NameError")=false
 some:l.isEmpty=false
theorem lq{a:Addr}{r:List Value}{b:Bool}{t:String}(h:r.contains (.type t)=b):(Value.ref a::r).contains (.type t)=b:=by rw[List.contains_cons,h];rfl
theorem fQ(l:List Value)(h:fK l=true):I0 l:=by
 induction l with
 |nil=>exact absurd h ff
 |cons v r ih=>
  rcases yk h with ⟨a,e,h⟩|⟨e,e2⟩
  ·have x:=ih h
   rw[e];exact⟨lq x.obj,lq x.exc,lq x.base,lq x.attr,lq x.name,rfl⟩
  ·rw[e,e2];exact⟨by decide,by decide,by decide,by decide,by decide,rfl⟩
section
variable{aa:Program}{w:World}{A:Around}{E:Value->Shared->Prop}{s:Shared}{K:Frag}{x C:Addr}
theorem Fy{name:Str}{hsh:Int}{k v:Value}:∀{es:List DictEntry},(putL name hsh k v es).length<=es.length+1:=by
 intro zz;induction zz with
 |nil=>
  simp[putL]
 |cons e es ih=>
  unfold putL;split
  ·simp
  ·have:=ih
   simp only[List.length_cons];omega
set_option tactic.hygienic true in
theorem sk{dx:Addr}{es:List DictEntry}{n:Nat}{name:Str}{tk:Tok}{v:Value}{Q:Fin->Shared->Prop}(D:s.heap.get? dx=some (dictOf es n))(hl:(getL name es).isSome=true)
  (hz:(putL name (PyData.keyHash w.params name) (.str name s.toks) v es).length<=1000)
  (h:∀h',Heap.SameBut dx s.heap h'->h'.get? dx=some (dictOf (putL name (PyData.keyHash w.params name) (.str name s.toks) v es) (putN name es n))->Q (.done (.ret .none)) { s with heap:=h',toks:=s.toks+1 }):
  wpAny (model aa w) A (storeInDict dx (.str name tk) name v) Q E s:=by
 have D':(s.heap.update dx (Obj.putName name (PyData.keyHash w.params name) (.str name s.toks) v)).get? dx=some (dictOf (putL name (PyData.keyHash w.params name) (.str name s.toks) v es) (putN name es n)):=by
  rw[Heap.get?_update_self _ D (by rw[putName_dict];rfl),putName_dict]
 unfold storeInDict newKeyGuard;refine wpAny_bind (wpAny_pure (wpAny_bind ?_));unfold nsSet;refine wpAny_bind (wpAny_bind (wpAny_askSetting (wpAny_pure (wpAny_bind (wpAny_mkText (wpAny_bind (wpAny_loadPart D ?_)))))));dsimp only[dictOf];have c:(!es.toArray.any (·.key.isStr name)&&es.toArray.any (·.refKey))=false:=by
  rw[<-Array.any_toList,<-Array.any_toList,List.toList_toArray];unfold getL at hl;split at hl
  ·rename_i en he
   rw[List.any_eq_true.mpr ⟨en,List.mem_of_find?_eq_some he,List.find?_some he⟩];rfl
  ·split at hl
   ·exact absurd hl Bool.false_ne_true
   ·rename_i z;rw[Bool.not_eq_true]at z;rw[z,Bool.and_false]
 rw[aRefKeyMayBeTheName_at,c];refine wpAny_updatePart D ?_;refine wpAny_bind (wpAny_lookBehind D' (pastItsLine_dict (by rw[List.size_toArray,sizeLine_eq];omega)) ?_);exact wpAny_pure (h _ (Heap.SameBut.update ..) D')
structure XP where
 nm:Str
 q:Str
 N:Addr
 bs:List Value
 bm:List Value
 yi:Bool
 sn:List Str
 sub:List Value
 col:Option Bool
 dd:Option Addr
 k0:Option Value
 k1:Option Value
 k2:Option Value
 k3:Option Value
 k5:Option Value
noncomputable abbrev XP.cls(x:XP)(C:Addr):Obj:=excClassObj x.nm x.q C x.N x.bs x.bm x.yi x.sn x.sub false x.col x.dd x.k0 x.k1 x.k2 x.k3 x.k5 "Exception.__new__"
structure bS(K:Frag)(C:Addr):Prop where
 obj:∃x:XP,K.lookup C=some (x.cls C)∧fK x.bm=true
 call:specialIn K (.ref C) "__call__" = some (some (.builtin "type.__call__"))
 typ:instIn K (.ref C) (.type "type")=some true
 set:findIn K (.ref C) "__setattr__" = some (some (.builtin "object.__setattr__"))
 dict:hasDictIn K C=true
 fld:findIn K (.ref C) (aK "message")=some none∧findIn K (.ref C) (aK "spot")=some none
 get:findIn K (.ref C) "__getattribute__" = some (some (.builtin "BaseException.__getattribute__"))
 MM:typeIn K (.ref C)=some (.type "type")
 hook:findIn K (.ref C) "__getattr__" = some none
theorem bS.mro(F:bS K C):∃cd,clsIn K C=some cd∧fK cd.mro=true:=by
 refine aI F.obj λy hC hb=>?_;refine⟨_,by unfold clsIn;rw[hC],?_⟩;show fK (.ref C::y.bm)=true;exact Bool.or_eq_true_iff.mpr (.inl hb)
theorem I1{ox:Obj}{od:Option Obj}{name:Str}{tk:Tok}{v:Value}{R:Result->Shared->Prop}(F:bS K C)(X:K.In s.heap)(I:InstAt s.heap x ox C od)(ht:takerIn K C name=some none)
  (h:∀b,wpAny (model aa w) A.in1 (storeInOwnDict (.ref x) (.ref C) (.str name tk) name v b)
   (λfin s'=>match fin with | .done f=>R (.ok f) s' | .again c'=>c'.quiet=true∧codeAny (model aa w) A c' R s') (λe s'=>R (.error e) s') s):
  codeAny (model aa w) A (.call (.builtin "object.__setattr__") ⟨[.ref x,.str name tk,v],[]⟩) R s:=by
 have SF:=PySem.F.store_object;refine aI F.mro λcd hc ho=>?_;have hx:=fQ _ ho;have sub:Looks (model aa w) s.heap (isInstance (.ref x) (.type "object")) true:=I.type.andThen (looks_mroIn X (by unfold mroIn;rw[hc,Option.bind_some,if_neg (by rw[hx.some];decide),hx.obj]));refine codeAny_call_builtin SF.slot.plain SF.entry (@check_slot (model aa w) _ _ s "object.__setattr__" "object" "__setattr__" (.ref x) [.str name tk,v] [] _ SF.kind SF.split sub (SF.args (.ref x) (.str name tk) v) ?_);refine aI (Option.bind_eq_some_iff.mp ht) λattr ha hr=>?_;have hm:Looks (model aa w) s.heap (mroOf (.ref C)) cd.mro:=(looks_clsIn X hc).andThen .now;have L3:Looks (model aa w) s.heap (storeTaker? attr) none:=by
  cases attr with
  |none=>cases hr;exact .now
  |some a=>
   refine aI (Option.map_eq_some_iff.mp hr) λb hb O3=>?_;refine(looks_takesIn X hb).andThen ?_;cases b<;>first|exact .now|cases O3
 rw[osa_eq,refuse_eq];refine wpAny_bind (wpAny_bind (I.type.here (wpAny_bind (hm.here ?_))));rw[Ar _ _ ho];refine wpAny_pure (wpAny_bind (I.type.here (wpAny_bind ((looks_findIn X ha).here (wpAny_bind (L3.here ?_))))));exact h _
theorem B6{ox:Obj}{od:Option Obj}{name:Str}{v:Value}{Q:Unit->Shared->Prop}(F:bS K C)(X:K.In s.heap)(I:InstAt s.heap x ox C od)(ht:takerIn K C name=some none)
  (h:∀b (Q':Fin->Shared->Prop) E',(∀s',Q () s'->Q' (.done (.ret .none)) s')->wpAny (model aa w) A.in1 (storeInOwnDict (.ref x) (.ref C) (.str name s.toks) name v b) Q' E' { s with toks:=s.toks+1 }):
  wpAny (model aa w) A (setAttr (.ref x) name v) Q E s:=by
 refine set_plain X I F.set (I1 (s:={ s with toks:=s.toks+1 }) F X I ht λb=>?_);exact h b _ _ λs' q=>q
theorem Fz{od:Obj}{cd:ClassData}{Q:Fin->Shared->Prop}{b:Bool}{name:Str}{k v:Value}(hx:s.heap.get? x=some od)(hc:od.cls=.ref C)(X:K.In s.heap)(wL:clsIn K C=some cd)(KL:cd.hasDict=true){dx:Addr}(hd:od.dict=some dx)
  (h:wpAny (model aa w) A (storeInDict dx k name v) Q E s):wpAny (model aa w) A (storeInOwnDict (.ref x) (.ref C) k name v b) Q E s:=by
 obtain⟨oc,od,VV,XC⟩:=od;dsimp only at hc hd;subst hc hd;refine wpAny_bind (wpAny_pure (wpAny_bind (wpAny_bind (wpAny_loadPart hx (wpAny_bind (looks_clsIn X wL _ _ _ _ (λ_ _ e=>e) ?_))))));rw[KL];rw[if_neg (by simp)];exact wpAny_pure (a:=some dx) h
theorem As{ox:Obj}{n:Addr}(hf:ox.isFreed=false):({ ox with dict:=some n }:Obj).isFreed=false:=by obtain⟨_,_,c,_⟩:=ox;cases c<;>exact hf
theorem FA{ox:Obj}{cd:ClassData}{Q:Fin->Shared->Prop}{b:Bool}{name:Str}{k v:Value}(hx:s.heap.get? x=some ox)(hc:ox.cls=.ref C)(hn:notCls ox=true)(X:K.In s.heap)(wL:clsIn K C=some cd)(KL:cd.hasDict=true)(hd:ox.dict=none)
  (h:wpAny (model aa w) A (storeInDict s.heap.objs.size k name v) Q E { s with heap:=(s.heap.push emptyDict).update x λo=>{ o with dict:=some s.heap.objs.size } }):wpAny (model aa w) A (storeInOwnDict (.ref x) (.ref C) k name v b) Q E s:=by
 obtain⟨oc,od,VV,XC⟩:=ox;replace hc:oc=.ref C:=hc;replace hd:od=none:=hd;subst hc hd;refine wpAny_bind (wpAny_pure (wpAny_bind (wpAny_bind (wpAny_loadPart hx (wpAny_bind (looks_clsIn X wL _ _ _ _ (λ_ _ e=>e) ?_))))));rw[KL,if_neg (by simp)];show wpAny _ _ (if(!true || !typeHasDict (Value.ref C))=true then(pure none:Sem (Option Addr))else _) _ _ _;rw[if_neg (by simp[typeHasDict])];have key:∀{Q':Option Addr->Shared->Prop},Q' (some s.heap.objs.size) { s with heap:=(s.heap.push emptyDict).update x λo=>{ o with dict:=some s.heap.objs.size } }->
   wpAny (model aa w) A (do
    let d <-alloc { cls:=.type "dict",data:=.dict #[] }
    update x λo=>{ o with dict:=some d }
    dictMade (.ref C) x d) Q' E s:=λBQ=>wpAny_bind (wpAny_alloc (wpAny_bind (wpAny_update (Heap.get?_push_of_some _ hx) (wpAny_pure BQ))))
 cases VV<;>first|exact key h|exact absurd hn ff
theorem uO{a:String}{v:Value}{oe:Obj}{Q:Unit->Shared->Prop}(F:bS K C)(X:K.In s.heap)(hx:s.heap.get? x=some oe)(hc:oe.cls=.ref C)(hn:notCls oe=true)(hf:findIn K (.ref C) (aK a)=some none)
  (hd:oe.dict=none∨∃dx es n,oe.dict=some dx∧s.heap.get? dx=some (dictOf es n)∧(getL (aK a) es).isSome=true∧es.length<=10∧dx≠x)
  (hQ:∀h' t dx es n mH,(∀b o,b≠x->oe.dict≠some b->s.heap.get? b=some o->h'.get? b=some o)->h'.get? x=some mH->mH.cls=oe.cls->mH.data=oe.data->mH.dict=some dx->h'.get? dx=some (dictOf (putL (aK a) (PyData.keyHash w.params (aK a)) (.str (aK a) t) v es) n)->
   (oe.dict=none->es=[]∧s.heap.get? dx=none)->(∀dy,oe.dict=some dy->dx=dy∧∃m,s.heap.get? dx=some (dictOf es m))->dx≠x->Q () { s with heap:=h',toks:=t+1 }):
  wpAny (model aa w) A (setAttr (.ref x) (aK a) v) Q E s:=by
 have tk:takerIn K C (aK a)=some none:=by unfold takerIn;rw[hf];rfl
 refine aI (any_some F.dict) λcd wL KL=>?_;rcases hd with hd|⟨dx,es,n,hd,D,gl,hlen,LZ⟩
 ·refine B6 (od:=none) F X ⟨hx,hc,hn,by rw[hd];trivial⟩ tk λb Q' E' hq=>FA (s:={ s with toks:=s.toks+1 }) hx hc hn X wL KL hd ?_
  have Mf:x≠s.heap.objs.size:=Nat.ne_of_lt (Heap.lt_size hx);have Tw:=Heap.get?_update_self (λo=>{ o with dict:=some s.heap.objs.size }) (Heap.get?_push_of_some emptyDict hx) (As (Heap.get?_some_iff.mp hx).2);have D0:((s.heap.push emptyDict).update x λo=>{ o with dict:=some s.heap.objs.size }).get? s.heap.objs.size=some (dictOf [] 0):=(Heap.get?_update_ne _ _ _ _ Mf.symm).trans (Heap.get?_push_size _ rfl);refine sk (s:={ s with heap:=(s.heap.push emptyDict).update x λo=>{ o with dict:=some s.heap.objs.size },toks:=s.toks+1 }) D0 rfl (Nat.le_of_ble_eq_true rfl) λh' Dd gd=>hq _ ?_;exact hQ h' _ s.heap.objs.size [] _ _ (λb o hb I2 e=>(Dd.2 b (Nat.ne_of_lt (Heap.lt_size e))).trans ((Heap.get?_update_ne _ _ _ _ hb).trans (Heap.get?_push_of_some _ e))) ((Dd.2 x Mf).trans Tw) rfl rfl rfl gd (λ_=>⟨rfl,cC _⟩) (λdy q=>absurd (hd.symm.trans q) (λz=>nn z)) Mf.symm
 ·refine B6 (od:=some (dictOf es n)) F X ⟨hx,hc,hn,by rw[hd];exact D⟩ tk λb Q' E' hq=>Fz (s:={ s with toks:=s.toks+1 }) hx hc X wL KL hd ?_
  refine sk (s:={ s with toks:=s.toks+1 }) D gl (Nat.le_trans Fy (Nat.le_trans (Nat.succ_le_succ hlen) (by decide))) λh' Dd gd=>hq _ ?_;exact hQ h' _ dx es _ _ (λb o hb I2 e=>(Dd.2 b λq=>I2 (by rw[hd,q])).trans e) ((Dd.2 x (Ne.symm LZ)).trans hx) rfl rfl hd gd (λq=>absurd (q.symm.trans hd) (λz=>nn z)) (λdy q=>⟨Option.some.inj (hd.symm.trans q),n,D⟩) LZ
end
end
section
variable{aa:Program}{w:World}{hW:Heap}{gt:List (String×ae)}{K:Frag}{mg mb:Str->Option Value}
 {A:Around}{ah:List Env}{env:Env}{l:Loc}{s:Shared}{ρ:Nat->Addr}{H:AH}{E:Value->Shared->Prop}
theorem lx{x:String}{v:ae}{pos:Pos}{Q:Value->Shared->Prop}(lr:bJ (af aa w) hW s.heap ρ H.next (bl ah) env l)(hg:aJ x l=some v)(hv:isVar env.scope (aK x)=true)(hp:bG (aK x)=true)(hQ:∀u,bf (af aa w) hW s.heap ρ H.next v u->Q u s):
  wpAny (model aa w) A (eval (.Name (aK x) pos) env) Q E s:=by
 refine dw (gB hp) λhd wL RK=>?_;refine wpAny_Name ?_ hd;refine Ej (uu hv) (λhk=>?_) (λhk=>?_) λhk=>?_
 ·refine lr.kj λm hm q=>?_
  refine aI (q x v hg RK hk) λu e1 e2=>?_;exact wpAny_loadName_local lr.fn hk hm e1 (hQ u e2)
 ·refine lr.nV x v hg (.inl hk) λc u e1 e2 e3=>?_
  exact wpAny_loadName_cell lr.fn hk e1 e2 (hQ u e3)
 ·refine lr.nV x v hg (.inr hk) λc u e1 e2 e3=>?_
  exact wpAny_loadName_free lr.fn hk e1 e2 (hQ u e3) wL
theorem uP{x:String}{v:ae}{pos:Pos}{Q:Value->Shared->Prop}(M:rX (af aa w) gt hW mg mb)(st:hW.StaysIn s.heap)(lr:bJ (af aa w) hW s.heap ρ H.next (bl ah) env l)(hg:gt.lookup x=some v)(hk:env.scope.names.lookup (aK x)=some .globalImplicit)(hp:bG (aK x)=true)
  (hQ:∀u,bf (af aa w) hW s.heap ρ H.next v u->Q u s):wpAny (model aa w) A (eval (.Name (aK x) pos) env) Q E s:=by
 refine dw (gB hp) λhd wL _=>?_;have ng:s.heap.Ns env.globals mg:=by rw[lr.glob];exact M.g.keeps st
 have nb:s.heap.Ns env.builtins mb:=by rw[lr.blt];exact M.b.keeps st
 refine Calls.Name_function_global lr.fn hk ?_ hd;rcases M.glob x v hg with ⟨y,e1,e2⟩|⟨e1,y,rfl,e2⟩
 ·exact Calls.loadGlobal_global ng e1 (hQ _ ((e2 ρ).mono (dz st) (Nat.zero_le _) λ_ _=>rfl))
 ·exact Calls.loadGlobal_builtin ng e1 nb e2 (hQ _ rfl)
theorem oD{x:String}{e:Addr}{pos:Pos}{Q:Value->Shared->Prop}(lr:bJ (af aa w) hW s.heap ρ H.next (bl ah) env l)(hg:aJ x l=some (.top e))(hv:isVar env.scope (aK x)=true)(hp:bG (aK x)=true)(hQ:Q (.ref e) s):
  wpAny (model aa w) A (eval (.Name (aK x) pos) env) Q E s:=lx lr hg hv hp λu (hu:u=_)=>hu▸hQ
theorem I3{x:String}{v:Value}{pos:Pos}{Q:Value->Shared->Prop}(M:rX (af aa w) gt hW mg mb)(st:hW.StaysIn s.heap)(lr:bJ (af aa w) hW s.heap ρ H.next (bl ah) env l)(hg:gt.lookup x=some (.bi v))(hk:env.scope.names.lookup (aK x)=some .globalImplicit)(hp:bG (aK x)=true)
  (hQ:Q v s):wpAny (model aa w) A (eval (.Name (aK x) pos) env) Q E s:=uP M st lr hg hk hp λu (hu:u=_)=>hu▸hQ
theorem sm{M:Model}{h:Heap}{g:Array GenState}{d:Drawn}{t:Nat}{os:OsState}{nm q:Str}{C N:Addr}{bs bm:List Value}{yi:Bool}{sn:List Str}{sub:List Value}{ab:Bool}{col:Option Bool}{dd:Option Addr}{k0 k1 k2 k3 k5:Option Value}{newId:String}
  {e:Addr}{oe:Obj}{rest:List Value}{Q:Unit->Shared->Prop}{E:Value->Shared->Prop} (hX:bm.contains (.type "Exception")=true)
  (hC:h.get? C=some (excClassObj nm q C N bs bm yi sn sub ab col dd k0 k1 k2 k3 k5 newId)) (he:h.get? e=some oe) (Tx:oe.cls=.ref C) (hq:Q () ⟨h,g,d,t,os⟩):
  wpAny M A (checkBuiltinCall "Exception.__init__" ⟨.ref e::rest,[]⟩) Q E ⟨h,g,d,t,os⟩:=by
 have F:=PySem.F.excBase_Exception;have Tu:(Value.ref C::bm).contains (.type "Exception")=true:=by rw[List.contains_cons,hX,Bool.or_true]
 have Tz:=F.noStar;simp only[checkBuiltinCall,F.initKind,F.initSplit,F.initRow]
 repeat (first|(with_reducible refine wpAny_loadPart_at he ?_;rw[Tx])|with_reducible refine wpAny_loadPart_at hC ?_|(with_reducible refine wpAny_isSubtype_exc hC ?_;rw[Tu])|wp_step)
 refine wpAny_onRaise ?_;rw[show ∀(a b:String) (n:Nat),Bind.check ⟨.positional, "*", "Exception",.self,[⟨"args",.varPos,false⟩]⟩ a b n (List.map (λx=>x.fst) ({ pos:=Value.ref e::rest }:Args).kw)=pure ()from
  λa b n=>check_star_args _ _ _ _ _ _]
 exact wpAny_pure hq
theorem FC{C:Addr}{e t0:Addr}{oe:Obj}{vs:Array Value}{u:Value}{Q:Value->Shared->Prop}(F:bS K C)(X:K.In s.heap)(he:s.heap.get? e=some oe)(hc:oe.cls=.ref C)(hd:oe.data=.fields vs)(h0:vs[0]? = some (.ref t0))
  (hQ:Q .none { s with heap:=(s.heap.push { cls:=.type "tuple",data:=.seq [u].toArray }).update e (Obj.mapFields (·.setIfInBounds 0 (.ref s.heap.objs.size))) }):
  wpAny (model aa w) A (call (.builtin "Exception.__init__") [.ref e,u]) Q E s:=by
 have B:=PySem.F.excBase_Exception;refine aI F.obj λy hC hb=>?_;have hx:=fQ _ hb;have RT:=X _ _ hC;obtain⟨hh,g,d,t,os⟩:=s;refine wpAny_call (codeAny_call_builtin B.init.plain B.initEntry (sm hx.exc RT he hc ?_));have RU:(hh.push { cls:=.type "tuple",data:=.seq [u].toArray }).get? e=some oe:=Heap.get?_push_of_some _ he;unfold Builtin.«BaseException.__init__»;dsimp only;rw[if_neg (by simp)];refine wpAny_bind (wpAny_newObj_type ?_ (by show([u].toArray).size<=sizeLine;simp;decide));unfold Builtin.BaseException.bexcPut;refine wpAny_bind (wpAny_bind (wpAny_field RU hd h0 (wpAny_bind (wpAny_setField RU hd (Array.getElem?_eq_some_iff.mp h0).1 ?_))));refine wpAny_letGo (wpAny_pure ?_);exact hQ
theorem B7{K:Frag}:findIn K (.type "type") "__getattribute__" = some (some (.builtin "type.__getattribute__")):=(by decide +kernel:fastLookup "type" "__getattribute__" = some (some (.builtin "type.__getattribute__")))
theorem Au{K:Frag}:findCls K (.type "Exception") (.type "type") "__init__" = some (.val (.builtin "Exception.__init__")):=by kernel_rfl
theorem yl{K:Frag}:subIn K (.type "type") (.type "type")=some true:=by kernel_rfl
theorem Av{pl:Sem Bool}{Q:Value×List Value->Shared->Prop}(X:K.In s.heap)(hQ:Q (.builtin "Exception.__init__",[]) { s with toks:=s.toks+1 }):wpAny (model aa w) A (getMethod (.type "Exception") "__init__" pl) Q E s:=by
 have ht:Looks (model aa w) s.heap (typeOf (.type "Exception")) (.type "type"):=Looks.of_pure (by kernel_rfl);have hs:Looks (model aa w) s.heap (specialOf (.type "Exception") "__getattribute__") (some (.builtin "type.__getattribute__")):=ht.andThen (looks_findIn X B7);unfold getMethod;refine wpAny_bind (hs.here ?_);dsimp only;rw[if_pos canon_tga];refine wpAny_bind ?_;refine cls_open (c:=.type "Exception") (mc:=.type "type") (hook:=none) X (Looks.of_pure (by kernel_rfl)) ht B7 (looks_hook X (by rfl)) yl Au ?_;refine wpAny_pure ?_;dsimp only;exact handed_on rfl (wpAny_pure hQ)
noncomputable def isName(x:String)(e:Expr):Bool:=eName e λn _=>n==aK x
theorem oE{C:Prop}{x:String}{e:Expr}(h:isName x e=true)(k_:∀p,e=.Name (aK x) p->C):C:=by
 refine fY h λn p e k=>?_;exact k_ p (by rw[e,eq_of_beq k])
noncomputable def vZ(x:String)(st:Stmt):Bool:=xe st λts f _=>gX ts λt=>qg t λo b _=>isName "self" o&&b==aK x&&isName x f
theorem ym{C:Prop}{x:String}{st:Stmt}(h:vZ x st=true)(k_:∀p1,∀p2,∀p3,∀p4,st=.Assign [.Attribute (.Name (aK "self") p1) (aK x) p2] (.Name (aK x) p3) p4->C):C:=by
 refine ur h λts f p4 e h=>?_;refine eP h λt e2 h=>?_;refine pz h λo b p2 e3 h=>?_;refine oE (az (az h).1).1 λp1 e4=>?_;refine oE (az h).2 λp3 e5=>?_;exact k_ p1 p2 p3 p4 (by rw[e,e2,e3,e4,e5,eq_of_beq (az (az h).1).2])
noncomputable def uQ(st:Stmt):Bool:=BB st λc _=>rT c λg fs kw pos=>isNil kw&&(rR fs λa b=>isName "self" a&&isName "message" b)&&qg g λo b apos=>isName "Exception" o&&b==("__init__" : Str)&&(apos.endLine==pos.line)
theorem Aw{st:Stmt}(h:uQ st=true):∃p1 p2 p3 p4 p5 p6,st=.Expr (.Call (.Attribute (.Name (aK "Exception") p1) ("__init__" : Str) p2) [.Name (aK "self") p3,.Name (aK "message") p4] [] p5) p6∧(p2.endLine==p5.line)=true:=by
 refine Et h λc p6 e h=>?_;refine rU h λg fs kw p5 e2 h=>?_;refine px (az (az h).1).2 λa b e3 k=>?_;refine oE (az k).1 λp3 e4=>?_;refine oE (az k).2 λp4 e5=>?_;refine pz (az h).2 λo n p2 e6 k2=>?_;refine oE (az (az k2).1).1 λp1 e7=>?_;exact⟨p1,p2,p3,p4,p5,p6,by rw[e,e2,e3,e4,e5,e6,e7,bF (az (az h).1).1,eq_of_beq (az (az k2).1).2],(az k2).2⟩
noncomputable def so(b:List Stmt):Bool:=match b with
 |s1::r=>uQ s1&&rR r λs2 s3=>vZ "message" s2&&vZ "spot" s3
 |[]=>false
theorem yn {C:Prop}{b:List Stmt} (h:so b=true) (k_:∀p1,∀p2,∀p3,∀p4,∀p5,∀p6,∀p7,∀p8,∀p9,∀RV,∀RW,∀RX,∀RY,∀RZ,b=[.Expr (.Call (.Attribute (.Name (aK "Exception") p1) ("__init__" : Str) p2) [.Name (aK "self") p3,.Name (aK "message") p4] [] p5) p6,
  .Assign [.Attribute (.Name (aK "self") p7) (aK "message") p8] (.Name (aK "message") p9) RV,.Assign [.Attribute (.Name (aK "self") RW) (aK "spot") RX] (.Name (aK "spot") RY) RZ]->(p2.endLine==p5.line)=true->C):C:=by
 cases b with
 |nil=>exact absurd h ff
 |cons s1 r=>
  obtain⟨p1,p2,p3,p4,p5,p6,e1,hl⟩:=Aw (az h).1;refine px (az h).2 λs2 s3 er k=>?_;refine ym (az k).1 λp7 p8 p9 RV e2=>?_;refine ym (az k).2 λRW RX RY RZ e3=>?_;exact k_ p1 p2 p3 p4 p5 p6 p7 p8 p9 RV RW RX RY RZ (by rw[er,e1,e2,e3]) hl
structure pG(gt:List (String×ae))(K:Frag)(aa:Program)(w:World)(C fI:Nat)(fd:FuncData)(body:List Stmt):Prop where
 fn:ru gt K aa w fI ⟨["self", "message", "spot"],[.int 0],[.dead]⟩ fd body
 shape:so body=true
 found:findIn K (.ref C) "__init__" = some (some (.ref fI))
 isFn:typeIn K (.ref fI)=some (.type "function")
 VW:fd.scope.names.lookup (aK "Exception")=some .globalImplicit
 gt:gt.lookup "Exception" = some (.bi (.type "Exception"))
theorem tu.one{h h':Heap}{fr:List Addr}{e:Addr}{oe mH:Obj}{vs:Array Value}(k:∀b o,b≠e->h.get? b=some o->h'.get? b=some o)(g:h.get? e=some oe)(nf:¬bA oe)(d:oe.data=.fields vs)(g':h'.get? e=some mH)(z:hW.get? e=none):tu hW fr (λb=>b=e) h h':=
 ⟨λb o g z f=>k b o z g,λb o g z=>⟨o.slots,k b o z g⟩,λb o z g2=>by cases z;cases g.symm.trans g2;exact⟨nf,⟨_,d⟩,_,g'⟩,λb q=>by cases q;exact z⟩
theorem Dm{C fI e t0:Nat}{fd:FuncData}{body:List Stmt}{m sp:ae}{A':Around}{XD:Obj}{Q:Flow->Shared->Prop}(EF:bS K C)(IF:pG gt K aa w C fI fd body)(MN:rX (af aa w) gt hW mg mb)(X:K.In hW)
  (st:St (af aa w) hW ah ρ H s.heap) (tP:env.scope=fd.scope) (lr:bJ (af aa w) hW s.heap ρ H.next (bl ah) env [("self",.top e),("message",m),("spot",sp)]) (he:s.heap.get? e=some (fu C t0)) (hO:¬Own env e) (ZY:e∉bl ah) (Pc:hW.get? e=none)
  (hm:∀h ρ N u,bf (af aa w) hW h ρ N m u->handedIn u=true)
  (hQ:∀h' t mv,St (af aa w) hW ah ρ H h'->Step (λb=>b=e) (bl ah) ρ H.next s.heap ρ H.next h'->(∀D:Prop,(∀oe,∀vs,∀dx,∀es,∀n,h'.get? e=some oe->oe.cls=.ref C->oe.dict=some dx->h'.get? dx=some (dictOf es n)->s.heap.get? dx=none->getL "message" es=some (some mv)->handedIn mv=true->oe.data=.fields vs->vs[1]? = some .none->vs.size=6->vs[2]? = some .none->D)->D)->
   Q .next { s with heap:=h',toks:=t }):wpAny (model aa w) A' (PySem.execs body env) Q E s:=by
 refine yn IF.shape λp1 p2 p3 p4 p5 p6 p7 p8 p9 RV RW RX RY RZ z1 E6=>?_;subst z1;have N5:∀x,x∈["self", "message", "spot"]->isVar env.scope (aK x)=true:=λx hx=>by
  unfold isVar;rw[tP];rcases IF.fn.kinds x hx with q|q<;>rw[q]
 have pl:∀x,x∈["self", "message", "spot", "Exception"]->bG (aK x)=true:=by decide +kernel
 have ZZ:∀n,n<H.next->ρ n≠e:=λn hn q=>by
  refine st.wK n hn λob _ r=>?_;refine r.there λoc g _ d=>?_;cases(q▸g).symm.trans he;exact d _ rfl
 have TA:∀{o:Obj},o.cls=.ref C->¬bA o:=λh=>fG h;refine wpAny_execs_cons (wpAny_Expr_any ?_ (lj lr) (eU rfl));refine kq (gt:=gt) (sc:=fd.scope) (es:=[.dead,.dead]) rfl rfl (by decide) E6 ?_;refine I3 MN st.stays lr IF.gt (by rw[tP];exact IF.VW) (pl _ (.tail _ (.tail _ (.tail _ (.head _))))) ?_;refine Av (X.keeps st.stays) ?_;refine ck (gt:=gt) (sc:=fd.scope) (es:=[.dead,.dead]) (Pr:=λ_=>True) rfl (λh _=>nj (.inl ⟨_,rfl⟩) h) ?_;have VX:bJ (af aa w) hW ({ s with toks:=s.toks+1 }:Shared).heap ρ H.next (bl ah) env [("self",.top e),("message",m),("spot",sp)]:=lr;rw[cj (by rfl),dk,cj (by rfl),dk];refine Calls.spliced_cons (oD (s:={ s with toks:=s.toks+1 }) VX rfl (N5 _ (.head _)) (pl _ (.head _)) ?_);refine Calls.spliced_cons (lx (s:={ s with toks:=s.toks+1 }) (v:=m) VX rfl (N5 _ (.tail _ (.head _))) (pl _ (.tail _ (.head _))) λmv TB=>Calls.spliced_nil ⟨trivial,?_⟩);have XF:handedIn mv=true:=hm _ _ _ _ TB;refine FC (s:={ s with toks:=s.toks+1 }) EF (X.keeps st.stays) he rfl rfl (t0:=t0) rfl ?_;dsimp only;have e1:s.heap.objs.size≠e:=Nat.ne_of_gt (Heap.lt_size he);generalize VY:(s.heap.push { cls:=.type "tuple",data:=.seq [mv].toArray }).update e (Obj.mapFields (·.setIfInBounds 0 (.ref s.heap.objs.size)))=h1;have Qo:∀b o,b≠e->s.heap.get? b=some o->h1.get? b=some o:=λb o hb g=>by
  rw[<-VY];exact(Heap.get?_update_other _ _ (Ne.symm hb)).trans (Heap.get?_push_of_some _ g)
 have O1:∀{D:Prop},(∀N7,h1.get? e=some N7->N7.cls=.ref C->N7.dict=none->N7.data=.fields #[.ref s.heap.objs.size,.none,.none,.none,.bool false,.none]->D)->D:=by
  intro D kk;have:=Heap.get?_update_self (Obj.mapFields (·.setIfInBounds 0 (.ref s.heap.objs.size))) (Heap.get?_push_of_some { cls:=.type "tuple",data:=.seq [mv].toArray } he) rfl;rw[VY]at this;exact kk _ this rfl rfl rfl
 refine O1 λN7 g1 c1 d1 f1=>?_;clear O1;have j1:tu hW (bl ah) (λb=>b=e) s.heap h1:=.one Qo he (TA rfl) rfl g1 Pc;have N3:=j1.st st;have MJ:Step (λb=>b=e) (bl ah) ρ H.next s.heap ρ H.next h1:=j1.step λ_ z=>z;have TC:=lr.step MJ (λ_ m=>m) λb z o=>hO (z▸o);have X1:K.In h1:=X.keeps N3.stays;refine wpAny_execs_cons (plainObj_wpAny_Assign_Attribute ?_ (eU rfl));refine lx (s:={ s with heap:=h1,toks:=s.toks+1 }) (v:=m) TC rfl (N5 _ (.tail _ (.head _))) (pl _ (.tail _ (.head _))) λN8 TF=>?_;have Qp:handedIn N8=true:=hm _ _ _ _ TF;refine oD (s:={ s with heap:=h1,toks:=s.toks+1 }) TC rfl (N5 _ (.head _)) (pl _ (.head _)) ?_;have XG:notCls N7=true:=by unfold notCls;rw[f1]
 refine uO (s:={ s with heap:=h1,toks:=s.toks+1 }) EF X1 g1 c1 XG EF.fld.1 (.inl d1) λh2 t2 dx es n XH k2 g2 c2 f2 d2 TG Ax _ TH=>?_;have XI:=(Ax d1).2;have j2:tu hW (bl ah) (λb=>b=e) h1 h2:=.one (λb o z g=>k2 b o z (λq=>nn (d1.symm.trans q)) g) g1 (TA c1) f1 g2 Pc;have HS:=j2.st N3;have rq:Step (λb=>b=e) (bl ah) ρ H.next h1 ρ H.next h2:=j2.step λ_ z=>z;have Mq:=TC.step rq (λ_ m=>m) λb z o=>hO (z▸o);refine wpAny_execs_cons (plainObj_wpAny_Assign_Attribute ?_ (eU rfl));refine lx (s:={ s with heap:=h2,toks:=t2+1 }) (v:=sp) Mq rfl (N5 _ (.tail _ (.tail _ (.head _)))) (pl _ (.tail _ (.tail _ (.head _)))) λsv Z0=>?_;refine oD (s:={ s with heap:=h2,toks:=t2+1 }) Mq rfl (N5 _ (.head _)) (pl _ (.head _)) ?_;have XJ:notCls XH=true:=by unfold notCls;rw[f2,f1]
 have XK:putL (aK "message") (PyData.keyHash w.params (aK "message")) (.str (aK "message") t2) N8 []=[⟨PyData.keyHash w.params (aK "message"),.str (aK "message") t2,N8⟩]:=rfl;rw[(Ax d1).1,XK]at TG;have XM:(getL (aK "spot") [⟨PyData.keyHash w.params (aK "message"),.str (aK "message") t2,N8⟩]).isSome=true:=by
  have e:(Value.str (aK "message") t2).isStr (aK "spot")=false:=(by decide +kernel:(aK "message" == aK "spot")=false);unfold getL;simp only[List.find?_cons,e,List.find?_nil,List.any_cons,List.any_nil]
  rfl
 refine uO (s:={ s with heap:=h2,toks:=t2+1 }) EF (X.keeps HS.stays) g2 (c2.trans c1) XJ EF.fld.2 (.inr ⟨dx,_,n,d2,TG,XM,by simp,TH⟩) λh3 t3 dy XN n3 XO k3 g3 c3 f3 d3 XQ _ XR XT=>?_;obtain⟨rfl,mm,TJ⟩:=XR dx d2;have XU:XN=[⟨PyData.keyHash w.params (aK "message"),.str (aK "message") t2,N8⟩]:=by
  dsimp only at TJ;rw[TG]at TJ;have hd:=congrArg (λo:Obj=>match o.data with | .dict es _=>es.toList|_=>[]) (Option.some.inj TJ);exact hd.symm
 subst XU;have dyn:s.heap.get? dy=none:=MJ.live dy XI;have kk:∀b o,b≠e->s.heap.get? b=some o->h3.get? b=some o:=λb o hb g=>
  k3 b o hb (λq=>nn (dyn.symm.trans (Option.some.inj (d2.symm.trans q)▸g))) (k2 b o hb (λq=>nn (d1.symm.trans q)) (Qo b o hb g))
 have j3:tu hW (bl ah) (λb=>b=e) s.heap h3:=.one kk he (TA rfl) rfl g3 Pc;refine wpAny_execs_nil (hQ h3 _ N8 (j3.st st) (j3.step λ_ z=>z) λ_ q=>q XO _ dy _ n3 g3 (c3.trans (c2.trans c1)) d3 XQ dyn ?_ Qp ((f3.trans f2).trans f1) rfl rfl rfl);have e:(Value.str (aK "message") t2).isStr (aK "spot")=false:=(by decide +kernel:(aK "message" == aK "spot")=false);have e':(Value.str (aK "message") t2).isStr "message" = true:=(by decide +kernel:(aK "message" == ("message" : Str))=true);unfold putL;rw[if_neg (by rw[e];simp)];unfold getL;simp only[List.find?_cons,e']
end
noncomputable abbrev Ay:List bD:=[.asg "kind" (.sub (.loc "told") (.cst (.int 0))),
  .iff (.cmp (.loc "kind") .eq (.cst (.str "ref"))) [.dead] [],
  .iff (.or [.cmp (.loc "kind") .eq (.cst (.str "box")),.cmp (.loc "kind") .eq (.cst (.str "array"))]) [.dead] [],
  .iff (.cmp (.loc "kind") .eq (.cst (.str "tuple"))) [.ret (.sub (.loc "told") (.cst (.int 1)))] [],
  .ret (.ite (.cmp (.loc "kind") .eq (.cst (.str "adt"))) .dead (.tup []))]
noncomputable abbrev uR:List bD:=[.asg "kind" (.sub (.loc "told") (.cst (.int 0))),
  .iff (.cmp (.loc "kind") .eq (.cst (.str "ref"))) [.dead] [],
  .iff (.cmp (.loc "kind") .eq (.cst (.str "box"))) [.dead] [],
  .iff (.cmp (.loc "kind") .eq (.cst (.str "array"))) [.dead] [],
  .iff (.cmp (.loc "kind") .eq (.cst (.str "tuple"))) [.ret (.tup [.cst (.str "tuple"),.call (.glob "tuple" (.bi (.type "tuple"))) [.loc "parts"]])] [],
  .ret (.ite (.cmp (.loc "kind") .eq (.cst (.str "adt"))) .dead (.loc "told"))]
noncomputable abbrev sq:List bD:=[.iff (.cmp (.sub (.loc "told") (.cst (.int 0))) .eq (.cst (.str "ref"))) [.dead] [.iff (.cmp (.sub (.loc "told") (.cst (.int 0))) .eq (.cst (.str "adt"))) [.dead] []],
  .ret (.call (.glob "rebuilt" (.top 96)) [.loc "told",.comp .dead ["part"] true (.call (.glob "parts_of" (.top 89)) [.loc "told"])])]
noncomputable abbrev FE:List bD:=[.ret (.call (.glob "with_regions" (.top 106)) [.loc "told",.glob "no_region" (.top 113)])]
noncomputable abbrev hF:List bD:=[.asg "left" (.lst [.loc "told"]),
  .tx (.cmp (.loc "left") .ne (.lst [])) [.asg "here" (.aE (.loc "left") "pop" []),
  .iff (.cmp (.sub (.loc "here") (.cst (.int 0))) .kg (.tup [.cst (.str "var"),.cst (.str "intvar")])) [.dead] [],
  .expr (.aE (.loc "left") "extend" [.call (.glob "parts_of" (.top 89)) [.loc "here"]])],
  .ret (.cst (.bool false))]
noncomputable abbrev yo:List bD:=[.asg "kind" (.sub (.loc "told") (.cst (.int 0))),
  .iff (.or [.cmp (.loc "kind") .eq (.cst (.str "int")),.cmp (.loc "kind") .eq (.cst (.str "param"))]) [.ret (.sub (.loc "told") (.cst (.int 1)))] [],
  .iff (.cmp (.loc "kind") .eq (.cst (.str "bool"))) [.ret (.cst (.str "bool"))] [],
  .dead,
  .dead,
  .dead,
  .dead,
  .dead,
  .dead,
  .dead,
  .dead,
  .dead]
noncomputable abbrev Dp:List bD:=[.asg "kind" (.sub (.loc "told") (.cst (.int 0))),
  .iff (.cmp (.loc "kind") .kg (.tup [.cst (.str "int"),.cst (.str "bool"),.cst (.str "never"),.cst (.str "intvar")])) [.ret (.cst (.bool true))] [],
  .dead,
  .dead,
  .dead,
  .dead,
  .dead,
  .dead]
noncomputable abbrev fR:List bD:=[.cV (.loc "self") "checker" (.loc "checker"),
  .cV (.loc "self") "known" (.lY [] []),
  .cV (.loc "self") "here" (.lY [] [])]
noncomputable abbrev fS:List bD:=[.fj ["kind", "spot"] [.sub (.loc "pattern") (.cst (.int 0)),.sub (.loc "pattern") (.cst (.int 1))],
  .iff (.cmp (.loc "kind") .eq (.cst (.str "wild"))) [.dead] [],
  .iff (.cmp (.loc "kind") .eq (.cst (.str "name"))) [.ret (.aE (.loc "self") "read_name" [.loc "pattern",.loc "t",.loc "mode"])] [],
  .dead,
  .dead,
  .dead,
  .dead,
  .dead,
  .dead,
  .dead,
  .dead]
noncomputable abbrev dU:List bD:=[.pn ["word", "spot", "name", "is_ref", "is_mut", "inner"] (.loc "pattern"),
  .iff (.and [.not (.loc "is_ref"),.not (.loc "is_mut"),.cmp (.loc "inner") .is (.cst (.none))]) [.asg "told" (.aE (.loc "self") "read_told" [.loc "name",.loc "spot",.loc "t",.loc "mode"]),
  .iff (.cmp (.loc "told") .eI (.cst (.none))) [.dead] []] [],
  .asg "way" (.aE (.loc "self") "way_of" [.loc "is_ref",.loc "is_mut",.loc "mode",.loc "spot"]),
  .asg "held" (.ite (.cmp (.loc "way") .eq (.glob "BY_VALUE" (.str "move"))) (.loc "t") .dead),
  .asg "local" (.aE (.loc "self") "bound" [.loc "name",.loc "held",.and [.loc "is_mut",.dead],.loc "way",.loc "spot"]),
  .asg "behind" (.ite (.cmp (.loc "inner") .is (.cst (.none))) (.cst (.none)) .dead),
  .ret (.tup [.cst (.str "bind"),.loc "t",.loc "local",.loc "way",.loc "behind"])]
noncomputable abbrev jW:List bD:=[.iff (.loc "is_ref") [.dead,
  .dead] [],
  .ret (.ite (.loc "is_mut") .dead (.loc "mode"))]
noncomputable abbrev dW:List bD:=[.asg "told" (.aE (.attr (.loc "self") "checker") "value_path" [.tup [.tup [.loc "name",.tup [],.tup []]],.loc "spot"]),
  .iff (.cmp (.loc "told") .is (.cst (.none))) [.ret (.cst (.none))] [],
  .dead,
  .dead]
noncomputable abbrev fp:List bD:=[.iff (.cmp (.loc "name") .kg (.attr (.loc "self") "here")) [.dead] [],
  .iff (.cmp (.loc "name") .kg (.attr (.loc "self") "known")) [.dead,
  .dead,
  .dead] [.asg "local" (.aE (.attr (.loc "self") "checker") "declare" [.loc "name",.loc "t",.loc "is_mut",.loc "spot"])],
  .gS (.attr (.loc "self") "here") (.loc "name") (.tup [.loc "local",.loc "t",.loc "way",.loc "is_mut"]),
  .ret (.loc "local")]
noncomputable abbrev kr:List bD:=[.ret (.aE (.call (.glob "PatternReader" (.top 286)) [.loc "checker"]) "read" [.loc "pattern",.loc "t",.loc "mode"])]
noncomputable abbrev yp:List bD:=[.ret (.cmp (.sub (.loc "kind") (.cst (.int 0))) .eq (.cst (.str "i")))]
noncomputable abbrev I4:List bD:=[.ret (.ite (.call (.glob "is_signed" (.top 334)) [.loc "kind"]) (.bin .sub (.cst (.int 0)) (.bin .pow (.cst (.int 2)) (.bin .sub (.sub (.glob "BITS" (.cp ["i8", "i16", "i32", "i64", "u8", "u16", "u32", "u64", "usize"] [.int 8,.int 16,.int 32,.int 64,.int 8,.int 16,.int 32,.int 64,.int 64])) (.loc "kind")) (.cst (.int 1))))) (.cst (.int 0)))]
noncomputable abbrev Az:List bD:=[.ret (.ite (.call (.glob "is_signed" (.top 334)) [.loc "kind"]) (.bin .sub (.bin .pow (.cst (.int 2)) (.bin .sub (.sub (.glob "BITS" (.cp ["i8", "i16", "i32", "i64", "u8", "u16", "u32", "u64", "usize"] [.int 8,.int 16,.int 32,.int 64,.int 8,.int 16,.int 32,.int 64,.int 64])) (.loc "kind")) (.cst (.int 1)))) (.cst (.int 1))) (.bin .sub (.bin .pow (.cst (.int 2)) (.sub (.glob "BITS" (.cp ["i8", "i16", "i32", "i64", "u8", "u16", "u32", "u64", "usize"] [.int 8,.int 16,.int 32,.int 64,.int 8,.int 16,.int 32,.int 64,.int 64])) (.loc "kind"))) (.cst (.int 1))))]
noncomputable abbrev FG:List bD:=[.ret (.qL (.call (.glob "least" (.top 341)) [.loc "kind"]) .le (.loc "number") .le (.call (.glob "greatest" (.top 348)) [.loc "kind"]))]
noncomputable abbrev ly:List bD:=[.cV (.loc "self") "infer" (.loc "infer"),
  .cV (.loc "self") "world" (.loc "world"),
  .cV (.loc "self") "bounds" (.loc "bounds")]
noncomputable abbrev hG:List bD:=[.asg "found" (.aE (.attr (.loc "self") "infer") "resolved" [.loc "told"]),
  .iff (.call (.glob "has_unknowns" (.top 127)) [.loc "found"]) [.dead] [],
  .ret (.loc "found")]
noncomputable abbrev cw:List bD:=[.iff (.cmp (.loc "made") .is (.cst (.none))) [.ret (.cst (.none))] [],
  .fj ["kind", "told", "spot"] [.sub (.loc "made") (.cst (.int 0)),.aE (.loc "self") "type" [.sub (.loc "made") (.cst (.int 1)),.sub (.loc "made") (.cst (.int 2))],.sub (.loc "made") (.cst (.int 2))],
  .asg "parts" (.call (.glob "list" (.bi (.type "list"))) [.iZ (.loc "made") 3]),
  .tA "place" (.aE (.glob "SINGLE" (.cp ["binary", "lazy", "unary", "borrow", "deref", "field", "index", "repeat", "box", "assign", "update", "if", "loop", "break", "return", "cast", "print"] [.tup [.int 4,.int 5],.tup [.int 4,.int 5],.tup [.int 4],.tup [.int 4],.tup [.int 3],.tup [.int 3],.tup [.int 3,.int 4],.tup [.int 3],.tup [.int 3],.tup [.int 3,.int 4],.tup [.int 4,.int 5],.tup [.int 3,.int 4,.int 5],.tup [.int 4],.tup [.int 4],.tup [.int 3],.tup [.int 3],.tup [.int 3]])) "get" [.loc "kind",.tup []]) [.gS (.loc "parts") (.bin .sub (.loc "place") (.cst (.int 3))) (.aE (.loc "self") "expr" [.sub (.loc "parts") (.bin .sub (.loc "place") (.cst (.int 3)))])],
  .iff (.cmp (.loc "kind") .kg (.glob "ROWS" (.cp ["call", "tuple", "array"] [.int 4,.int 3,.int 3]))) [.dead] [],
  .iff (.cmp (.loc "kind") .eq (.cst (.str "call"))) [.dead] [.iff (.cmp (.loc "kind") .eq (.cst (.str "adt"))) [.dead] [.iff (.cmp (.loc "kind") .eq (.cst (.str "match"))) [.dead] [.iff (.cmp (.loc "kind") .eq (.cst (.str "block"))) [.asg "parts" (.lst [.call (.glob "tuple" (.bi (.type "tuple"))) [.comp (.aE (.loc "self") "statement" [.loc "one"]) ["one"] true (.sub (.loc "parts") (.cst (.int 0)))],.aE (.loc "self") "expr" [.sub (.loc "parts") (.cst (.int 1))]])] []]]],
  .asg "found" (.bin .add (.tup [.loc "kind",.loc "told",.loc "spot"]) (.call (.glob "tuple" (.bi (.type "tuple"))) [.loc "parts"])),
  .expr (.aE (.loc "self") "look" [.loc "found"]),
  .ret (.loc "found")]
noncomputable abbrev gx:List bD:=[.iff (.cmp (.sub (.loc "one") (.cst (.int 0))) .eq (.cst (.str "let"))) [.ret (.tup [.cst (.str "let"),.sub (.loc "one") (.cst (.int 1)),.aE (.loc "self") "pattern" [.sub (.loc "one") (.cst (.int 2)),.sub (.loc "one") (.cst (.int 1))],.aE (.loc "self") "expr" [.sub (.loc "one") (.cst (.int 3))]])] [],
  .dead]
noncomputable abbrev iP:List bD:=[.iff (.cmp (.loc "pattern") .is (.cst (.none))) [.ret (.cst (.none))] [],
  .fj ["kind", "told"] [.sub (.loc "pattern") (.cst (.int 0)),.aE (.loc "self") "type" [.sub (.loc "pattern") (.cst (.int 1)),.loc "spot"]],
  .iff (.cmp (.loc "kind") .eq (.cst (.str "bind"))) [.asg "way" (.sub (.loc "pattern") (.cst (.int 3))),
  .iff (.cmp (.loc "way") .kg (.tup [.cst (.str "move"),.cst (.str "copy")])) [.asg "way" (.ite (.call (.glob "is_copy" (.top 158)) [.loc "told",.attr (.loc "self") "world",.attr (.loc "self") "bounds"]) (.cst (.str "copy")) .dead)] [],
  .ret (.tup [.cst (.str "bind"),.loc "told",.sub (.loc "pattern") (.cst (.int 2)),.loc "way",.aE (.loc "self") "pattern" [.sub (.loc "pattern") (.cst (.int 4)),.loc "spot"]])] [],
  .dead,
  .dead,
  .dead,
  .dead]
noncomputable abbrev fT:List bD:=[.iff (.call (.glob "isinstance" (.bi (.builtin "isinstance"))) [.loc "value",.glob "bool" (.bi (.type "bool"))]) [.dead] [.asg "is_right" (.and [.cmp (.sub (.loc "told") (.cst (.int 0))) .eq (.cst (.str "int")),.call (.glob "fits" (.top 355)) [.sub (.loc "told") (.cst (.int 1)),.loc "value"]])],
  .iff (.not (.loc "is_right")) [.raise 64 [.bin .add (.cst (.str "a literal that is none of ")) (.call (.glob "type_text" (.top 139)) [.loc "told"]),.loc "spot"]] []]
noncomputable abbrev c9:List bD:=[.fj ["kind", "told", "spot"] [.sub (.loc "made") (.cst (.int 0)),.sub (.loc "made") (.cst (.int 1)),.sub (.loc "made") (.cst (.int 2))],
  .iff (.cmp (.loc "kind") .eq (.cst (.str "const"))) [.expr (.aE (.loc "self") "look_value" [.loc "told",.sub (.loc "made") (.cst (.int 3)),.loc "spot"])] [.iff (.cmp (.loc "kind") .eq (.cst (.str "binary"))) [.expr (.aE (.loc "self") "look_operator" [.sub (.loc "made") (.cst (.int 3)),.sub (.sub (.loc "made") (.cst (.int 4))) (.cst (.int 1)),.sub (.sub (.loc "made") (.cst (.int 5))) (.cst (.int 1)),.loc "spot"])] [.iff (.cmp (.loc "kind") .eq (.cst (.str "update"))) [.dead] [.iff (.cmp (.loc "kind") .eq (.cst (.str "unary"))) [.expr (.aE (.loc "self") "look_sign" [.sub (.loc "made") (.cst (.int 3)),.loc "told",.loc "spot"])] [.iff (.cmp (.loc "kind") .eq (.cst (.str "cast"))) [.expr (.aE (.loc "self") "look_cast" [.loc "told",.sub (.sub (.loc "made") (.cst (.int 3))) (.cst (.int 1)),.loc "spot"])] [.iff (.and [.cmp (.loc "kind") .eq (.cst (.str "print")),.dead]) [.dead] [.iff (.and [.cmp (.loc "kind") .eq (.cst (.str "repeat")),.dead,.dead]) [.dead] []]]]]]]]
noncomputable abbrev jy:List bD:=[.iff (.cmp (.tup [.cst (.str "never")]) .kg (.tup [.loc "left",.loc "right"])) [.dead] [],
  .iff (.and [.cmp (.sub (.loc "left") (.cst (.int 0))) .eq (.cst (.str "int")),.cmp (.sub (.loc "right") (.cst (.int 0))) .eq (.cst (.str "int"))]) [.zB] [],
  .iff (.or [.cmp (.loc "left") .ne (.glob "BOOL" (.tup [.str "bool"])),.cmp (.loc "right") .ne (.glob "BOOL" (.tup [.str "bool"])),.cmp (.loc "op") .pZ (.glob "OF_TRUTHS" (.tup [.str "==",.str "!=",.str "&",.str "|",.str "^"]))]) [.raise 64 [.bin .add (.bin .add (.bin .add (.cst (.str "no operator ")) (.loc "op")) (.cst (.str " of "))) (.call (.glob "type_text" (.top 139)) [.loc "left"]),.loc "spot"]] []]
noncomputable abbrev mC:List bD:=[.iff (.or [.and [.cmp (.loc "op") .eq (.cst (.str "-")),.cmp (.sub (.loc "told") (.cst (.int 0))) .eq (.cst (.str "int")),.call (.glob "is_signed" (.top 334)) [.sub (.loc "told") (.cst (.int 1))]],.cmp (.loc "told") .eq (.tup [.cst (.str "never")])]) [.zB] [],
  .iff (.or [.cmp (.loc "op") .eq (.cst (.str "-")),.dead]) [.raise 64 [.bin .add (.bin .add (.bin .add (.cst (.str "no sign ")) (.loc "op")) (.cst (.str " ahead of "))) (.call (.glob "type_text" (.top 139)) [.loc "told"]),.loc "spot"]] []]
noncomputable abbrev mD:List bD:=[.iff (.or [.cmp (.sub (.loc "told") (.cst (.int 0))) .ne (.cst (.str "int")),.cmp (.sub (.loc "of") (.cst (.int 0))) .pZ (.tup [.cst (.str "int"),.cst (.str "bool"),.cst (.str "never")])]) [.dead] []]
noncomputable abbrev AA:List bD:=[.ret (.cmp (.sub (.loc "made") (.cst (.int 1))) .eq (.glob "NEVER" (.tup [.str "never"])))]
noncomputable abbrev sr:List bD:=[.pn ["kind", "spot", "value", "width"] (.loc "node"),
  .iff (.cmp (.loc "width") .eI (.cst (.none))) [.ret (.tup [.cst (.str "const"),.tup [.cst (.str "int"),.loc "width"],.loc "spot",.loc "value"])] [],
  .asg "told" (.ite (.cmp (.loc "wanted") .is (.cst (.none))) (.cst (.none)) (.aE (.loc "checker") "resolved" [.loc "wanted"])),
  .iff (.or [.cmp (.loc "told") .is (.cst (.none)),.cmp (.sub (.loc "told") (.cst (.int 0))) .pZ (.tup [.cst (.str "int"),.cst (.str "intvar")])]) [.asg "told" (.aE (.attr (.loc "checker") "infer") "fresh_int" [])] [],
  .ret (.tup [.cst (.str "const"),.loc "told",.loc "spot",.loc "value"])]
noncomputable abbrev jX:List bD:=[.pn ["kind", "spot", "op", "inner"] (.loc "node"),
  .iff (.cmp (.loc "op") .eq (.cst (.str "*"))) [.dead] [],
  .iff (.and [.cmp (.loc "op") .eq (.cst (.str "-")),.cmp (.sub (.loc "inner") (.cst (.int 0))) .eq (.cst (.str "int"))]) [.asg "made" (.call (.glob "read_int" (.top 483)) [.loc "checker",.loc "inner",.loc "wanted"]),
  .ret (.tup [.cst (.str "const"),.sub (.loc "made") (.cst (.int 1)),.loc "spot",.bin .sub (.cst (.int 0)) (.sub (.loc "made") (.cst (.int 3)))])] [],
  .asg "made" (.aE (.loc "checker") "expr" [.loc "inner",.loc "wanted"]),
  .ret (.tup [.cst (.str "unary"),.sub (.loc "made") (.cst (.int 1)),.loc "spot",.loc "op",.loc "made"])]
noncomputable abbrev mM:List bD:=[.pn ["kind", "spot", "op", "left", "right"] (.loc "node"),
  .iff (.cmp (.loc "op") .kg (.tup [.cst (.str "&&"),.cst (.str "||")])) [.dead,
  .dead] [],
  .asg "one" (.aE (.loc "checker") "expr" [.loc "left",.ite (.cmp (.loc "op") .kg (.glob "COMPARISONS" (.tup [.str "==",.str "!=",.str "<",.str "<=",.str ">",.str ">="]))) (.cst (.none)) (.loc "wanted")]),
  .iff (.cmp (.loc "op") .kg (.glob "SHIFTS" (.tup [.str "<<",.str ">>"]))) [.ret (.tup [.cst (.str "binary"),.sub (.loc "one") (.cst (.int 1)),.loc "spot",.loc "op",.loc "one",.aE (.loc "checker") "expr" [.loc "right",.cst (.none)]])] [],
  .asg "other" (.aE (.loc "checker") "coerce" [.aE (.loc "checker") "expr" [.loc "right",.sub (.loc "one") (.cst (.int 1))],.sub (.loc "one") (.cst (.int 1))]),
  .ret (.tup [.cst (.str "binary"),.ite (.cmp (.loc "op") .kg (.glob "COMPARISONS" (.tup [.str "==",.str "!=",.str "<",.str "<=",.str ">",.str ">="]))) (.glob "BOOL" (.tup [.str "bool"])) (.sub (.loc "one") (.cst (.int 1))),.loc "spot",.loc "op",.loc "one",.loc "other"])]
noncomputable abbrev qr:List bD:=[.ret (.tup [.cst (.str "cast"),.aE (.loc "checker") "typex" [.sub (.loc "node") (.cst (.int 3))],.sub (.loc "node") (.cst (.int 1)),.aE (.loc "checker") "expr" [.sub (.loc "node") (.cst (.int 2)),.cst (.none)]])]
noncomputable abbrev nA:List bD:=[.pn ["kind", "spot", "pattern", "written", "value"] (.loc "statement"),
  .asg "told" (.ite (.cmp (.loc "written") .is (.cst (.none))) (.aE (.loc "checker") "fresh" []) (.aE (.loc "checker") "typex" [.loc "written"])),
  .asg "made" (.cst (.none)),
  .iff (.cmp (.loc "value") .eI (.cst (.none))) [.asg "made" (.aE (.loc "checker") "expr" [.loc "value",.ite (.cmp (.loc "written") .is (.cst (.none))) (.cst (.none)) (.loc "told")]),
  .iff (.and [.cmp (.loc "written") .is (.cst (.none)),.not (.call (.glob "is_never" (.top 476)) [.loc "made"])]) [.asg "told" (.sub (.loc "made") (.cst (.int 1)))] [],
  .asg "made" (.aE (.loc "checker") "coerce" [.loc "made",.loc "told"])] [.dead],
  .ret (.tup [.cst (.str "let"),.loc "spot",.call (.glob "typed_pattern" (.top 319)) [.loc "checker",.loc "pattern",.loc "told",.glob "BYVALUE" (.str "move")],.loc "made"])]
noncomputable abbrev oF:List bD:=[.pn ["kind", "spot", "statements", "tail"] (.loc "node"),
  .expr (.aE (.loc "checker") "open" []),
  .fj ["rows", "is_over"] [.lst [],.cst (.bool false)],
  .tA "statement" (.loc "statements") [.iff (.cmp (.sub (.loc "statement") (.cst (.int 0))) .eq (.cst (.str "let"))) [.expr (.aE (.loc "rows") "append" [.call (.glob "read_let" (.top 511)) [.loc "checker",.loc "statement"]]),
  .asg "is_over" (.or [.loc "is_over",.and [.cmp (.sub (.sub (.loc "rows") (.neg (.cst (.int 1)))) (.cst (.int 3))) .eI (.cst (.none)),.call (.glob "is_never" (.top 476)) [.sub (.sub (.loc "rows") (.neg (.cst (.int 1)))) (.cst (.int 3))]]])] [.dead,
  .dead]],
  .asg "made" (.ite (.cmp (.loc "tail") .is (.cst (.none))) (.cst (.none)) .dead),
  .iff (.and [.cmp (.loc "made") .eI (.cst (.none)),.dead]) [.dead] [],
  .expr (.aE (.loc "checker") "close" []),
  .asg "told" (.ite (.cmp (.loc "made") .is (.cst (.none))) (.glob "UNIT" (.tup [.str "tuple",.tup []])) .dead),
  .ret (.tup [.cst (.str "block"),.ite (.loc "is_over") .dead (.loc "told"),.loc "spot",.call (.glob "tuple" (.bi (.type "tuple"))) [.loc "rows"],.loc "made"])]
noncomputable abbrev oG:List bD:=[.cV (.loc "self") "known" (.lst []),
  .cV (.loc "self") "is_number" (.lst [])]
noncomputable abbrev mO:List bD:=[.expr (.aE (.attr (.loc "self") "known") "append" [.cst (.none)]),
  .expr (.aE (.attr (.loc "self") "is_number") "append" [.cst (.bool false)]),
  .ret (.tup [.cst (.str "var"),.bin .sub (.call (.glob "len" (.bi (.builtin "len"))) [.attr (.loc "self") "known"]) (.cst (.int 1))])]
noncomputable abbrev iQ:List bD:=[.expr (.aE (.attr (.loc "self") "known") "append" [.cst (.none)]),
  .expr (.aE (.attr (.loc "self") "is_number") "append" [.cst (.bool true)]),
  .ret (.tup [.cst (.str "intvar"),.bin .sub (.call (.glob "len" (.bi (.builtin "len"))) [.attr (.loc "self") "known"]) (.cst (.int 1))])]
noncomputable abbrev ku:List bD:=[.tx (.and [.cmp (.sub (.loc "told") (.cst (.int 0))) .kg (.tup [.cst (.str "var"),.cst (.str "intvar")]),.cmp (.sub (.attr (.loc "self") "known") (.sub (.loc "told") (.cst (.int 1)))) .eI (.cst (.none))]) [.asg "told" (.sub (.attr (.loc "self") "known") (.sub (.loc "told") (.cst (.int 1))))],
  .ret (.loc "told")]
noncomputable abbrev fv:List bD:=[.asg "told" (.aE (.loc "self") "shallow" [.loc "told"]),
  .ret (.call (.glob "rebuilt" (.top 96)) [.loc "told",.comp .dead ["part"] true (.call (.glob "parts_of" (.top 89)) [.loc "told"])])]
noncomputable abbrev lz:List bD:=[.asg "left" (.lst [.loc "told"]),
  .tx (.cmp (.loc "left") .ne (.lst [])) [.asg "here" (.aE (.loc "self") "shallow" [.aE (.loc "left") "pop" []]),
  .iff (.cmp (.loc "here") .eq (.loc "unknown")) [.dead] [],
  .expr (.aE (.loc "left") "extend" [.call (.glob "parts_of" (.top 89)) [.loc "here"]])],
  .ret (.cst (.bool false))]
noncomputable abbrev jY:List bD:=[.iff (.and [.cmp (.sub (.loc "unknown") (.cst (.int 0))) .eq (.cst (.str "intvar")),.cmp (.sub (.loc "told") (.cst (.int 0))) .pZ (.tup [.cst (.str "int"),.cst (.str "intvar")])]) [.iff (.cmp (.sub (.loc "told") (.cst (.int 0))) .eq (.cst (.str "var"))) [.dead,
  .dead] [],
  .raise 64 [.bin .add (.cst (.str "a whole number is no ")) (.call (.glob "type_text" (.top 139)) [.aE (.loc "self") "resolved" [.loc "told"]])]] [],
  .iff (.aE (.loc "self") "occurs" [.loc "unknown",.loc "told"]) [.dead] [],
  .gS (.attr (.loc "self") "known") (.sub (.loc "unknown") (.cst (.int 1))) (.loc "told")]
noncomputable abbrev oH:List bD:=[.iff (.or [.cmp (.sub (.loc "one") (.cst (.int 0))) .ne (.sub (.loc "other") (.cst (.int 0))),.cmp (.call (.glob "len" (.bi (.builtin "len"))) [.call (.glob "parts_of" (.top 89)) [.loc "one"]]) .ne (.call (.glob "len" (.bi (.builtin "len"))) [.call (.glob "parts_of" (.top 89)) [.loc "other"]])]) [.ret (.cst (.bool false))] [],
  .iff (.cmp (.sub (.loc "one") (.cst (.int 0))) .kg (.tup [.cst (.str "int"),.cst (.str "param"),.cst (.str "adt")])) [.ret (.cmp (.sub (.loc "one") (.cst (.int 1))) .eq (.sub (.loc "other") (.cst (.int 1))))] [],
  .dead]
noncomputable abbrev mP:List bD:=[.asg "left" (.lst [.tup [.loc "one",.loc "other"]]),
  .tx (.cmp (.loc "left") .ne (.lst [])) [.pn ["here", "there"] (.aE (.loc "left") "pop" []),
  .fj ["here", "there"] [.aE (.loc "self") "shallow" [.loc "here"],.aE (.loc "self") "shallow" [.loc "there"]],
  .iff (.cmp (.loc "here") .eq (.loc "there")) [.cont] [],
  .iff (.cmp (.sub (.loc "here") (.cst (.int 0))) .kg (.tup [.cst (.str "var"),.cst (.str "intvar")])) [.expr (.aE (.loc "self") "bind" [.loc "here",.loc "there"])] [.iff (.cmp (.sub (.loc "there") (.cst (.int 0))) .kg (.tup [.cst (.str "var"),.cst (.str "intvar")])) [.expr (.aE (.loc "self") "bind" [.loc "there",.loc "here"])] [.iff (.aE (.loc "self") "are_alike" [.loc "here",.loc "there"]) [.dead] [.asg "told" (.bin .add (.bin .add (.call (.glob "type_text" (.top 139)) [.aE (.loc "self") "resolved" [.loc "here"]]) (.cst (.str " and "))) (.call (.glob "type_text" (.top 139)) [.aE (.loc "self") "resolved" [.loc "there"]])),
  .raise 64 [.bin .add (.cst (.str "types that are not one: ")) (.loc "told")]]]]]]
noncomputable abbrev fU:List bD:=[.tA "n" (.call (.glob "range" (.bi (.type "range"))) [.call (.glob "len" (.bi (.builtin "len"))) [.attr (.loc "self") "known"]]) [.iff (.and [.sub (.attr (.loc "self") "is_number") (.loc "n"),.cmp (.sub (.attr (.loc "self") "known") (.loc "n")) .is (.cst (.none))]) [.gS (.attr (.loc "self") "known") (.loc "n") (.glob "DEFAULT_INT" (.tup [.str "int",.str "i32"]))] []]]
noncomputable abbrev mQ:List bD:=[.cV (.loc "self") "modules" (.loc "modules"),
  .cV (.loc "self") "module" (.loc "module"),
  .cV (.loc "self") "generics" (.loc "generics"),
  .cV (.loc "self") "self_type" (.loc "self_type"),
  .cV (.loc "self") "fresh" (.loc "fresh")]
noncomputable abbrev mR:List bD:=[.fj ["kind", "spot"] [.sub (.loc "written") (.cst (.int 0)),.sub (.loc "written") (.cst (.int 1))],
  .iff (.cmp (.loc "kind") .eq (.cst (.str "path"))) [.ret (.aE (.loc "self") "path" [.loc "spot",.sub (.loc "written") (.cst (.int 2))])] [],
  .dead,
  .dead,
  .dead,
  .dead,
  .dead]
noncomputable abbrev mS:List bD:=[.asg "names" (.call (.glob "tuple" (.bi (.type "tuple"))) [.comp (.sub (.loc "row") (.cst (.int 0))) ["row"] true (.loc "spath")]),
  .iff (.cmp (.call (.glob "len" (.bi (.builtin "len"))) [.loc "spath"]) .eq (.cst (.int 1))) [.asg "told" (.aE (.loc "self") "single" [.loc "spot",.sub (.loc "spath") (.cst (.int 0))]),
  .iff (.cmp (.loc "told") .eI (.cst (.none))) [.ret (.loc "told")] []] [],
  .dead,
  .dead]
noncomputable abbrev kx:List bD:=[.pn ["name", "regions", "types"] (.loc "row"),
  .iff (.and [.cmp (.loc "name") .kg (.attr (.loc "self") "generics"),.dead]) [.dead] [],
  .iff (.and [.cmp (.loc "name") .eq (.cst (.str "Self")),.dead]) [.dead] [],
  .iff (.cmp (.loc "name") .kg (.glob "INT_KINDS" (.tup [.str "i8",.str "i16",.str "i32",.str "i64",.str "u8",.str "u16",.str "u32",.str "u64",.str "usize"]))) [.ret (.aE (.loc "self") "bare" [.loc "spot",.loc "row",.tup [.cst (.str "int"),.loc "name"]])] [],
  .iff (.cmp (.loc "name") .eq (.cst (.str "bool"))) [.ret (.aE (.loc "self") "bare" [.loc "spot",.loc "row",.tup [.cst (.str "bool")]])] [],
  .dead,
  .dead,
  .dead]
noncomputable abbrev tR:List bD:=[.iff (.or [.cmp (.sub (.loc "row") (.cst (.int 1))) .ne (.tup []),.cmp (.sub (.loc "row") (.cst (.int 2))) .ne (.tup [])]) [.dead] [],
  .ret (.loc "told")]
noncomputable abbrev uS:List bD:=[.ret (.aE (.call (.glob "Reader" (.top 655)) [.loc "modules",.loc "module",.loc "generics",.loc "self_type",.loc "fresh"]) "read" [.loc "written"])]
noncomputable abbrev lA:List bD:=[.cV (.loc "self") "world" (.loc "world"),
  .cV (.loc "self") "module" (.loc "module"),
  .cV (.loc "self") "self_type" (.loc "self_type"),
  .cV (.loc "self") "bounds" (.loc "bounds"),
  .cV (.loc "self") "reader" (.loc "reader"),
  .cV (.loc "self") "infer" (.call (.glob "Infer" (.top 597)) []),
  .cV (.loc "self") "locals" (.lst []),
  .cV (.loc "self") "scopes" (.lst [.lY [] []]),
  .cV (.loc "self") "loops" (.lst []),
  .cV (.loc "self") "many_loops" (.cst (.int 0)),
  .cV (.loc "self") "owed" (.lst []),
  .cV (.loc "self") "result" (.glob "UNIT" (.tup [.str "tuple",.tup []]))]
noncomputable abbrev lB:List bD:=[.ret (.aE (.attr (.loc "self") "reader") "read" [.loc "self",.loc "node",.loc "wanted"])]
noncomputable abbrev ky:List bD:=[.ret (.aE (.attr (.loc "self") "infer") "fresh" [])]
noncomputable abbrev hH:List bD:=[.ret (.aE (.attr (.loc "self") "infer") "resolved" [.loc "told"])]
noncomputable abbrev kz:List bD:=[.gU 64 [.expr (.aE (.attr (.loc "self") "infer") "unify" [.loc "one",.loc "other"])] (.loc "spot")]
noncomputable abbrev kC:List bD:=[.asg "names" (.call (.glob "list" (.bi (.type "list"))) [.attr (.loc "self") "bounds"]),
  .ret (.call (.glob "erased" (.top 120)) [.call (.glob "type_of" (.top 667)) [.attr (.attr (.loc "self") "world") "modules",.attr (.loc "self") "module",.loc "names",.attr (.loc "self") "self_type",.loc "written",.attr (.loc "self") "fresh"]])]
noncomputable abbrev lC:List bD:=[.expr (.aE (.attr (.loc "self") "scopes") "append" [.lY [] []])]
noncomputable abbrev kD:List bD:=[.expr (.aE (.attr (.loc "self") "scopes") "pop" [])]
noncomputable abbrev gy:List bD:=[.expr (.aE (.attr (.loc "self") "locals") "append" [.lst [.loc "name",.loc "told",.loc "is_mut"]]),
  .ret (.bin .sub (.call (.glob "len" (.bi (.builtin "len"))) [.attr (.loc "self") "locals"]) (.cst (.int 1)))]
noncomputable abbrev iR:List bD:=[.asg "number" (.aE (.loc "self") "new_local" [.loc "name",.loc "told",.loc "is_mut"]),
  .gS (.sub (.attr (.loc "self") "scopes") (.neg (.cst (.int 1)))) (.loc "name") (.loc "number"),
  .ret (.loc "number")]
noncomputable abbrev kE:List bD:=[.tA "scope" (.p0 (.attr (.loc "self") "scopes")) [.iff (.cmp (.loc "name") .kg (.loc "scope")) [.ret (.sub (.loc "scope") (.loc "name"))] []],
  .dead]
noncomputable abbrev fV:List bD:=[.iff (.cmp (.sub (.sub (.loc "spath") (.cst (.int 0))) (.cst (.int 0))) .eq (.glob "SELF" (.str "Self"))) [.dead] [],
  .jE 52 [.asg "path" (.aE (.attr (.attr (.loc "self") "world") "modules") "find" [.attr (.loc "self") "module",.call (.glob "names_in" (.top 841)) [.loc "spath"],.cst (.str "value"),.loc "spot"])],
  .dead,
  .dead,
  .dead]
noncomputable abbrev jz:List bD:=[.fj ["here", "wanted"] [.aE (.loc "self") "resolved" [.sub (.loc "made") (.cst (.int 1))],.aE (.loc "self") "resolved" [.loc "told"]],
  .iff (.cmp (.loc "here") .eq (.tup [.cst (.str "never")])) [.dead] [],
  .iff (.and [.cmp (.sub (.loc "here") (.cst (.int 0))) .eq (.cst (.str "ref")),.dead,.dead]) [.dead] [],
  .expr (.aE (.loc "self") "unify" [.sub (.loc "made") (.cst (.int 1)),.loc "told",.sub (.loc "made") (.cst (.int 2))]),
  .ret (.loc "made")]
noncomputable abbrev su:List bD:=[.ret (.call (.glob "tuple" (.bi (.type "tuple"))) [.comp (.loc "name") ["name", "regions", "types"] false (.loc "spath")])]
noncomputable abbrev oI:List bD:=[.cV (.loc "self") "modules" (.loc "modules"),
  .cV (.loc "self") "adts" (.lY [] []),
  .cV (.loc "self") "variants" (.lY [] []),
  .cV (.loc "self") "sigs" (.lY [] []),
  .cV (.loc "self") "traits" (.lY [] []),
  .cV (.loc "self") "impls" (.lst []),
  .cV (.loc "self") "consts" (.lY [] []),
  .cV (.loc "self") "bodies" (.lY [] [])]
noncomputable abbrev qt:List bD:=[.asg "cell" (.cst (.int 0)),
  .iff (.cmp (.loc "k") .lt (.call (.glob "len" (.bi (.builtin "len"))) [.loc "script"])) [.asg "cell" (.sub (.loc "script") (.loc "k"))] [],
  .asg "big" (.call (.glob "max" (.bi (.builtin "max"))) [.call (.glob "int" (.bi (.type "int"))) [.loc "cell"],.call (.glob "int" (.bi (.type "int"))) [.bin .sub (.neg (.cst (.int 1))) (.loc "cell")]]),
  .asg "mixed" (.bin .mod (.call (.glob "int" (.bi (.type "int"))) [.bin .mul (.bin .add (.bin .add (.bin .add (.bin .mod (.call (.glob "int" (.bi (.type "int"))) [.loc "big"]) (.cst (.int 2147483629))) (.bin .mul (.bin .mul (.cst (.int 7919)) (.loc "k")) (.loc "k"))) (.bin .mul (.cst (.int 31)) (.loc "k"))) (.cst (.int 17))) (.cst (.int 48271))]) (.cst (.int 2147483647))),
  .ret (.lst [.bin .mul (.loc "big") (.call (.glob "int" (.bi (.type "int"))) [.cmp (.loc "big") .ge (.bin .pow (.cst (.int 10)) (.cst (.int 18)))]),.loc "mixed"])]
noncomputable abbrev qu:List bD:=[.iff (.cmp (.sub (.loc "source") (.cst (.int 0))) .gt (.cst (.int 0))) [.asg "drawn" (.bin .mod (.call (.glob "int" (.bi (.type "int"))) [.sub (.loc "source") (.cst (.int 0))]) (.loc "top")),
  .gS (.loc "source") (.cst (.int 0)) (.bin .fdiv (.sub (.loc "source") (.cst (.int 0))) (.loc "top")),
  .ret (.loc "drawn")] [],
  .gS (.loc "source") (.cst (.int 1)) (.bin .mod (.call (.glob "int" (.bi (.type "int"))) [.bin .add (.bin .mul (.sub (.loc "source") (.cst (.int 1))) (.cst (.int 39373))) (.cst (.int 7))]) (.cst (.int 2147483647))),
  .ret (.bin .mod (.call (.glob "int" (.bi (.type "int"))) [.bin .fdiv (.bin .mod (.call (.glob "int" (.bi (.type "int"))) [.bin .mul (.sub (.loc "source") (.cst (.int 1))) (.sub (.loc "source") (.cst (.int 1)))]) (.cst (.int 2147483629))) (.cst (.int 32))]) (.loc "top"))]
noncomputable abbrev sx:List bD:=[.ret (.sub (.loc "things") (.call (.glob "_law_take" (.top 898)) [.loc "source",.call (.glob "len" (.bi (.builtin "len"))) [.loc "things"]]))]
noncomputable abbrev oJ:List bD:=[.ret (.lst [.cst (.str "i8"),.cst (.str "u8"),.cst (.str "i32"),.cst (.str "i64")])]
noncomputable abbrev lD:List bD:=[.fj ["value", "kind"] [.call (.glob "_law_one" (.top 905)) [.loc "source",.lst [.cst (.int 0),.cst (.int 1),.cst (.int 7),.cst (.int 127),.cst (.int 128),.cst (.int 200),.cst (.int 255),.cst (.int 300),.bin .pow (.cst (.int 2)) (.cst (.int 31))]],.cst (.none)],
  .iff (.cmp (.call (.glob "_law_take" (.top 898)) [.loc "source",.cst (.int 4)]) .eq (.cst (.int 0))) [.asg "kind" (.call (.glob "_law_one" (.top 905)) [.loc "source",.call (.glob "_law_kinds" (.top 912)) []])] [],
  .ret (.tup [.cst (.str "int"),.cst (.int 1),.loc "value",.loc "kind"])]
noncomputable abbrev qw:List bD:=[.ret (.tup [.cst (.str "path"),.cst (.int 1),.tup [.tup [.loc "name",.tup [],.tup []]]])]
noncomputable abbrev lE:List bD:=[.asg "way" (.call (.glob "_law_take" (.top 898)) [.loc "source",.ite (.cmp (.loc "deep") .gt (.cst (.int 0))) (.cst (.int 9)) (.cst (.int 4))]),
  .iff (.or [.cmp (.loc "way") .lt (.cst (.int 2)),.and [.cmp (.loc "way") .lt (.cst (.int 4)),.cmp (.loc "names") .eq (.lst [])]]) [.ret (.call (.glob "_law_literal" (.top 919)) [.loc "source"])] [],
  .iff (.cmp (.loc "way") .lt (.cst (.int 4))) [.ret (.call (.glob "_law_name" (.top 926)) [.call (.glob "_law_one" (.top 905)) [.loc "source",.loc "names"]])] [],
  .iff (.cmp (.loc "way") .eq (.cst (.int 4))) [.ret (.tup [.cst (.str "unary"),.cst (.int 1),.cst (.str "-"),.call (.glob "_law_expr" (.top 933)) [.loc "source",.loc "names",.bin .sub (.loc "deep") (.cst (.int 1))]])] [],
  .iff (.cmp (.loc "way") .eq (.cst (.int 5))) [.asg "kind" (.call (.glob "_law_one" (.top 905)) [.loc "source",.call (.glob "_law_kinds" (.top 912)) []]),
  .ret (.tup [.cst (.str "cast"),.cst (.int 1),.call (.glob "_law_expr" (.top 933)) [.loc "source",.loc "names",.bin .sub (.loc "deep") (.cst (.int 1))],.tup [.cst (.str "path"),.cst (.int 1),.tup [.tup [.loc "kind",.tup [],.tup []]]]])] [],
  .asg "op" (.call (.glob "_law_one" (.top 905)) [.loc "source",.lst [.cst (.str "+"),.cst (.str "*"),.cst (.str "<"),.cst (.str "=="),.cst (.str "<<")]]),
  .ret (.tup [.cst (.str "binary"),.cst (.int 1),.loc "op",.call (.glob "_law_expr" (.top 933)) [.loc "source",.loc "names",.bin .sub (.loc "deep") (.cst (.int 1))],.call (.glob "_law_expr" (.top 933)) [.loc "source",.loc "names",.bin .sub (.loc "deep") (.cst (.int 1))]])]
noncomputable abbrev qx:List bD:=[.asg "rows" (.lst [.tup [.cst (.str "v0"),.cst (.none),.tup [.cst (.str "int"),.cst (.int 1),.cst (.int 5),.cst (.none)]],.tup [.cst (.str "v1"),.cst (.none),.tup [.cst (.str "binary"),.cst (.int 1),.cst (.str "+"),.call (.glob "_law_name" (.top 926)) [.cst (.str "v0")],.tup [.cst (.str "int"),.cst (.int 1),.cst (.int 3),.cst (.str "u8")]]]]),
  .tA "turn" (.call (.glob "range" (.bi (.type "range"))) [.bin .add (.cst (.int 1)) (.call (.glob "_law_take" (.top 898)) [.loc "source",.cst (.int 4)])]) [.asg "names" (.comp (.sub (.loc "row") (.cst (.int 0))) ["row"] true (.loc "rows")),
  .asg "told" (.ite (.cmp (.call (.glob "_law_take" (.top 898)) [.loc "source",.cst (.int 3)]) .eq (.cst (.int 0))) (.call (.glob "_law_one" (.top 905)) [.loc "source",.bin .add (.call (.glob "_law_kinds" (.top 912)) []) (.lst [.cst (.str "bool")])]) (.cst (.none))),
  .expr (.aE (.loc "rows") "append" [.tup [.bin .add (.cst (.str "v")) (.call (.glob "str" (.bi (.type "str"))) [.call (.glob "len" (.bi (.builtin "len"))) [.loc "rows"]]),.loc "told",.call (.glob "_law_expr" (.top 933)) [.loc "source",.loc "names",.cst (.int 2)]]])],
  .ret (.loc "rows")]
noncomputable abbrev qy:List bD:=[.tx (.cmp (.sub (.sub (.loc "groups") (.cst (.str "links"))) (.loc "node")) .ne (.loc "node")) [.asg "node" (.sub (.sub (.loc "groups") (.cst (.str "links"))) (.loc "node"))],
  .ret (.loc "node")]
noncomputable abbrev qz:List bD:=[.expr (.aE (.sub (.loc "groups") (.cst (.str "links"))) "append" [.call (.glob "len" (.bi (.builtin "len"))) [.sub (.loc "groups") (.cst (.str "links"))]]),
  .expr (.aE (.sub (.loc "groups") (.cst (.str "kinds"))) "append" [.loc "kind"]),
  .ret (.bin .sub (.call (.glob "len" (.bi (.builtin "len"))) [.sub (.loc "groups") (.cst (.str "links"))]) (.cst (.int 1)))]
noncomputable abbrev qA:List bD:=[.fj ["here", "there"] [.call (.glob "_law_home" (.top 945)) [.loc "groups",.loc "one"],.call (.glob "_law_home" (.top 945)) [.loc "groups",.loc "other"]],
  .fj ["first", "second"] [.sub (.sub (.loc "groups") (.cst (.str "kinds"))) (.loc "here"),.sub (.sub (.loc "groups") (.cst (.str "kinds"))) (.loc "there")],
  .iff (.and [.cmp (.loc "first") .eI (.cst (.none)),.cmp (.loc "second") .eI (.cst (.none)),.cmp (.loc "first") .ne (.loc "second")]) [.gS (.loc "groups") (.cst (.str "fine")) (.cst (.bool false))] [],
  .gS (.sub (.loc "groups") (.cst (.str "links"))) (.loc "here") (.loc "there"),
  .gS (.sub (.loc "groups") (.cst (.str "kinds"))) (.loc "there") (.ite (.cmp (.loc "first") .is (.cst (.none))) (.loc "second") (.loc "first"))]
noncomputable abbrev dM:List bD:=[.iff (.cmp (.sub (.loc "e") (.cst (.int 0))) .eq (.cst (.str "int"))) [.asg "node" (.call (.glob "_law_node" (.top 952)) [.loc "groups",.sub (.loc "e") (.cst (.int 3))]),
  .expr (.aE (.sub (.loc "groups") (.cst (.str "asks"))) "append" [.tup [.cst (.str "room"),.loc "node",.sub (.loc "e") (.cst (.int 2))]]),
  .ret (.loc "node")] [],
  .iff (.cmp (.sub (.loc "e") (.cst (.int 0))) .eq (.cst (.str "path"))) [.ret (.sub (.loc "known") (.sub (.sub (.sub (.loc "e") (.cst (.int 2))) (.cst (.int 0))) (.cst (.int 0))))] [],
  .iff (.and [.cmp (.sub (.loc "e") (.cst (.int 0))) .eq (.cst (.str "unary")),.cmp (.sub (.sub (.loc "e") (.cst (.int 3))) (.cst (.int 0))) .eq (.cst (.str "int"))]) [.asg "node" (.call (.glob "_law_node" (.top 952)) [.loc "groups",.sub (.sub (.loc "e") (.cst (.int 3))) (.cst (.int 3))]),
  .expr (.aE (.sub (.loc "groups") (.cst (.str "asks"))) "append" [.tup [.cst (.str "room"),.loc "node",.bin .sub (.cst (.int 0)) (.sub (.sub (.loc "e") (.cst (.int 3))) (.cst (.int 2)))]]),
  .ret (.loc "node")] [],
  .iff (.cmp (.sub (.loc "e") (.cst (.int 0))) .eq (.cst (.str "unary"))) [.asg "node" (.call (.glob "_law_walk" (.top 966)) [.loc "groups",.loc "known",.sub (.loc "e") (.cst (.int 3))]),
  .expr (.aE (.sub (.loc "groups") (.cst (.str "asks"))) "append" [.tup [.cst (.str "sign"),.loc "node",.cst (.int 0)]]),
  .ret (.loc "node")] [],
  .iff (.cmp (.sub (.loc "e") (.cst (.int 0))) .eq (.cst (.str "cast"))) [.expr (.aE (.sub (.loc "groups") (.cst (.str "asks"))) "append" [.tup [.cst (.str "cast"),.call (.glob "_law_walk" (.top 966)) [.loc "groups",.loc "known",.sub (.loc "e") (.cst (.int 2))],.cst (.int 0)]]),
  .ret (.call (.glob "_law_node" (.top 952)) [.loc "groups",.sub (.sub (.sub (.sub (.loc "e") (.cst (.int 3))) (.cst (.int 2))) (.cst (.int 0))) (.cst (.int 0))])] [],
  .fj ["one", "other"] [.call (.glob "_law_walk" (.top 966)) [.loc "groups",.loc "known",.sub (.loc "e") (.cst (.int 3))],.call (.glob "_law_walk" (.top 966)) [.loc "groups",.loc "known",.sub (.loc "e") (.cst (.int 4))]],
  .expr (.aE (.sub (.loc "groups") (.cst (.str "asks"))) "append" [.tup [.ite (.cmp (.sub (.loc "e") (.cst (.int 2))) .eq (.cst (.str "=="))) (.cst (.str "equal")) (.cst (.str "number")),.loc "one",.cst (.int 0)]]),
  .iff (.cmp (.sub (.loc "e") (.cst (.int 2))) .eq (.cst (.str "<<"))) [.expr (.aE (.sub (.loc "groups") (.cst (.str "asks"))) "append" [.tup [.cst (.str "number"),.loc "other",.cst (.int 0)]]),
  .ret (.loc "one")] [],
  .expr (.call (.glob "_law_same" (.top 959)) [.loc "groups",.loc "one",.loc "other"]),
  .ret (.ite (.cmp (.sub (.loc "e") (.cst (.int 2))) .kg (.lst [.cst (.str "<"),.cst (.str "==")])) (.call (.glob "_law_node" (.top 952)) [.loc "groups",.cst (.str "bool")]) (.loc "one"))]
noncomputable abbrev qB:List bD:=[.asg "bits" (.call (.glob "int" (.bi (.type "int"))) [.iZ (.loc "kind") 1]),
  .ret (.ite (.cmp (.sub (.loc "kind") (.cst (.int 0))) .eq (.cst (.str "i"))) (.qL (.bin .sub (.cst (.int 0)) (.bin .pow (.cst (.int 2)) (.bin .sub (.loc "bits") (.cst (.int 1))))) .le (.loc "value") .lt (.bin .pow (.cst (.int 2)) (.bin .sub (.loc "bits") (.cst (.int 1))))) (.qL (.cst (.int 0)) .le (.loc "value") .lt (.bin .pow (.cst (.int 2)) (.loc "bits"))))]
noncomputable abbrev sA:List bD:=[.fj ["groups", "known"] [.lY [.str "links",.str "kinds",.str "asks",.str "fine"] [.lst [],.lst [],.lst [],.cst (.bool true)],.lY [] []],
  .wV ["name", "told", "e"] (.loc "rows") [.asg "node" (.call (.glob "_law_walk" (.top 966)) [.loc "groups",.loc "known",.loc "e"]),
  .iff (.cmp (.loc "told") .eI (.cst (.none))) [.expr (.call (.glob "_law_same" (.top 959)) [.loc "groups",.loc "node",.call (.glob "_law_node" (.top 952)) [.loc "groups",.loc "told"]])] [],
  .gS (.loc "known") (.loc "name") (.loc "node")],
  .wV ["word", "node", "value"] (.sub (.loc "groups") (.cst (.str "asks"))) [.asg "kind" (.sub (.sub (.loc "groups") (.cst (.str "kinds"))) (.call (.glob "_law_home" (.top 945)) [.loc "groups",.loc "node"])),
  .asg "kind" (.ite (.cmp (.loc "kind") .is (.cst (.none))) (.cst (.str "i32")) (.loc "kind")),
  .iff (.or [.and [.cmp (.loc "word") .kg (.lst [.cst (.str "number"),.cst (.str "sign"),.cst (.str "room")]),.cmp (.loc "kind") .eq (.cst (.str "bool"))],.and [.cmp (.loc "word") .eq (.cst (.str "sign")),.cmp (.sub (.loc "kind") (.cst (.int 0))) .eq (.cst (.str "u"))]]) [.ret (.cst (.none))] [],
  .iff (.and [.cmp (.loc "word") .eq (.cst (.str "room")),.not (.call (.glob "_law_room" (.top 973)) [.loc "kind",.loc "value"])]) [.ret (.cst (.none))] []],
  .asg "kinds" (.comp (.sub (.sub (.loc "groups") (.cst (.str "kinds"))) (.call (.glob "_law_home" (.top 945)) [.loc "groups",.sub (.loc "known") (.sub (.loc "row") (.cst (.int 0)))])) ["row"] true (.loc "rows")),
  .iff (.not (.sub (.loc "groups") (.cst (.str "fine")))) [.ret (.cst (.none))] [],
  .ret (.comp (.aE (.lY [.str "bool",.none] [.tup [.cst (.str "bool")],.tup [.cst (.str "int"),.cst (.str "i32")]]) "get" [.loc "kind",.tup [.cst (.str "int"),.loc "kind"]]) ["kind"] true (.loc "kinds"))]
noncomputable abbrev lF:List bD:=[.raise 52 [.cst (.str "nothing"),.loc "spot"]]
noncomputable abbrev dN:List bD:=[.iff (.cmp (.sub (.loc "node") (.cst (.int 0))) .eq (.cst (.str "path"))) [.asg "number" (.aE (.loc "checker") "local" [.sub (.sub (.sub (.loc "node") (.cst (.int 2))) (.cst (.int 0))) (.cst (.int 0))]),
  .ret (.tup [.cst (.str "local"),.sub (.sub (.attr (.loc "checker") "locals") (.loc "number")) (.cst (.int 1)),.cst (.int 1),.loc "number"])] [],
  .iff (.cmp (.sub (.loc "node") (.cst (.int 0))) .eq (.cst (.str "binary"))) [.ret (.call (.glob "read_binary" (.top 497)) [.loc "checker",.loc "node",.loc "wanted"])] [],
  .asg "readers" (.lY [.str "int",.str "unary",.str "cast",.str "block"] [.glob "read_int" (.top 483),.glob "read_unary" (.top 490),.glob "read_cast" (.top 504),.glob "read_block" (.top 518)]),
  .ret (.call (.sub (.loc "readers") (.sub (.loc "node") (.cst (.int 0)))) [.loc "checker",.loc "node",.loc "wanted"])]
noncomputable abbrev qC:List bD:=[.asg "reader" (.call (.glob "World" (.top 880)) []),
  .cV (.loc "reader") "read" (.glob "_law_read" (.top 993)),
  .asg "checker" (.call (.glob "Checker" (.top 832)) [.call (.glob "World" (.top 880)) [],.cst (.str ""),.cst (.none),.lY [] [],.loc "reader"]),
  .asg "lines" (.lst []),
  .wV ["name", "told", "e"] (.loc "rows") [.asg "kind" (.ite (.cmp (.loc "told") .is (.cst (.none))) (.cst (.none)) (.tup [.cst (.str "path"),.cst (.int 1),.tup [.tup [.loc "told",.tup [],.tup []]]])),
  .expr (.aE (.loc "lines") "append" [.tup [.cst (.str "let"),.cst (.int 1),.tup [.cst (.str "name"),.cst (.int 1),.loc "name",.cst (.bool false),.cst (.bool false),.cst (.none)],.loc "kind",.loc "e"]])],
  .asg "lookup" (.call (.glob "World" (.top 880)) []),
  .cV (.loc "lookup") "find" (.glob "_law_nothing" (.top 986)),
  .cV (.attr (.loc "checker") "world") "modules" (.loc "lookup"),
  .jE 64 [.asg "made" (.aE (.loc "checker") "expr" [.tup [.cst (.str "block"),.cst (.int 1),.call (.glob "tuple" (.bi (.type "tuple"))) [.loc "lines"],.cst (.none)],.cst (.none)]),
  .expr (.aE (.attr (.loc "checker") "infer") "default_ints" []),
  .asg "settler" (.call (.glob "Settler" (.top 464)) [.attr (.loc "checker") "infer",.attr (.loc "checker") "world",.lY [] []]),
  .expr (.aE (.loc "settler") "expr" [.loc "made"]),
  .ret (.comp (.aE (.loc "settler") "type" [.sub (.loc "row") (.cst (.int 1)),.cst (.int 1)]) ["row"] true (.attr (.loc "checker") "locals"))]]
noncomputable abbrev KN:List bD:=[.asg "rows" (.call (.glob "_law_rows" (.top 938)) [.call (.glob "_law_pool" (.top 891)) [.loc "script",.cst (.int 0)]]),
  .ret (.and [.cmp (.call (.glob "_law_told" (.top 998)) [.loc "rows"]) .eq (.call (.glob "_law_due" (.top 978)) [.loc "rows"]),.cmp (.call (.glob "_law_told" (.top 998)) [.wU (.loc "rows") 2]) .eq (.lst [.tup [.cst (.str "int"),.cst (.str "u8")],.tup [.cst (.str "int"),.cst (.str "u8")]])])]
noncomputable def uT:List (Nat×jr):=[(89,⟨["told"],[],Ay⟩),
 (96,⟨["told", "parts"],[],uR⟩),
 (106,⟨["told", "change"],[],sq⟩),
 (120,⟨["told"],[],FE⟩),
 (127,⟨["told"],[],hF⟩),
 (139,⟨["told"],[],yo⟩),
 (158,⟨["told", "world", "bounds"],[],Dp⟩),
 (184,⟨["self", "checker"],[],fR⟩),
 (198,⟨["self", "pattern", "t", "mode"],[],fS⟩),
 (205,⟨["self", "pattern", "t", "mode"],[],dU⟩),
 (212,⟨["self", "is_ref", "is_mut", "mode", "spot"],[],jW⟩),
 (219,⟨["self", "name", "spot", "t", "mode"],[],dW⟩),
 (226,⟨["self", "name", "t", "is_mut", "way", "spot"],[],fp⟩),
 (319,⟨["checker", "pattern", "t", "mode"],[.str "move"],kr⟩),
 (334,⟨["kind"],[],yp⟩),
 (341,⟨["kind"],[],I4⟩),
 (348,⟨["kind"],[],Az⟩),
 (355,⟨["kind", "number"],[],FG⟩),
 (390,⟨["self", "infer", "world", "bounds"],[],ly⟩),
 (397,⟨["self", "told", "spot"],[],hG⟩),
 (402,⟨["self", "made"],[],cw⟩),
 (421,⟨["self", "one"],[],gx⟩),
 (426,⟨["self", "pattern", "spot"],[],iP⟩),
 (433,⟨["self", "told", "value", "spot"],[],fT⟩),
 (440,⟨["self", "made"],[],c9⟩),
 (447,⟨["self", "op", "left", "right", "spot"],[],jy⟩),
 (454,⟨["self", "op", "told", "spot"],[],mC⟩),
 (461,⟨["self", "told", "of", "spot"],[],mD⟩),
 (476,⟨["made"],[],AA⟩),
 (483,⟨["checker", "node", "wanted"],[],sr⟩),
 (490,⟨["checker", "node", "wanted"],[],jX⟩),
 (497,⟨["checker", "node", "wanted"],[],mM⟩),
 (504,⟨["checker", "node", "wanted"],[],qr⟩),
 (511,⟨["checker", "statement"],[],nA⟩),
 (518,⟨["checker", "node", "wanted"],[],oF⟩),
 (533,⟨["self"],[],oG⟩),
 (540,⟨["self"],[],mO⟩),
 (547,⟨["self"],[],iQ⟩),
 (554,⟨["self", "told"],[],ku⟩),
 (559,⟨["self", "told"],[],fv⟩),
 (566,⟨["self", "unknown", "told"],[],lz⟩),
 (573,⟨["self", "unknown", "told"],[],jY⟩),
 (580,⟨["self", "one", "other"],[],oH⟩),
 (587,⟨["self", "one", "other"],[],mP⟩),
 (594,⟨["self"],[],fU⟩),
 (616,⟨["self", "modules", "module", "generics", "self_type", "fresh"],[],mQ⟩),
 (621,⟨["self", "written"],[],mR⟩),
 (633,⟨["self", "spot", "spath"],[],mS⟩),
 (640,⟨["self", "spot", "row"],[],kx⟩),
 (647,⟨["self", "spot", "row", "told"],[],tR⟩),
 (667,⟨["modules", "module", "generics", "self_type", "written", "fresh"],[.none],uS⟩),
 (681,⟨["self", "world", "module", "self_type", "bounds", "reader"],[],lA⟩),
 (688,⟨["self", "node", "wanted"],[],lB⟩),
 (702,⟨["self"],[],ky⟩),
 (709,⟨["self", "told"],[],hH⟩),
 (716,⟨["self", "one", "other", "spot"],[],kz⟩),
 (723,⟨["self", "written"],[],kC⟩),
 (730,⟨["self"],[],lC⟩),
 (737,⟨["self"],[],kD⟩),
 (744,⟨["self", "name", "told", "is_mut"],[],gy⟩),
 (751,⟨["self", "name", "told", "is_mut", "spot"],[],iR⟩),
 (758,⟨["self", "name"],[],kE⟩),
 (784,⟨["self", "spath", "spot"],[],fV⟩),
 (822,⟨["self", "made", "told"],[],jz⟩),
 (841,⟨["spath"],[],su⟩),
 (870,⟨["self", "modules"],[.none],oI⟩),
 (891,⟨["script", "k"],[],qt⟩),
 (898,⟨["source", "top"],[],qu⟩),
 (905,⟨["source", "things"],[],sx⟩),
 (912,⟨[],[],oJ⟩),
 (919,⟨["source"],[],lD⟩),
 (926,⟨["name"],[],qw⟩),
 (933,⟨["source", "names", "deep"],[],lE⟩),
 (938,⟨["source"],[],qx⟩),
 (945,⟨["groups", "node"],[],qy⟩),
 (952,⟨["groups", "kind"],[],qz⟩),
 (959,⟨["groups", "one", "other"],[],qA⟩),
 (966,⟨["groups", "known", "e"],[],dM⟩),
 (973,⟨["kind", "value"],[],qB⟩),
 (978,⟨["rows"],[],sA⟩),
 (986,⟨["module", "names", "space", "spot"],[.int 0],lF⟩),
 (993,⟨["checker", "node", "wanted"],[],dN⟩),
 (998,⟨["rows"],[],qC⟩),
 (1005,⟨["script"],[],KN⟩)]
noncomputable def v5:List (Nat×eJ):=[(286,⟨some 184,[("read",198),("read_name",205),("way_of",212),("read_told",219),("bound",226)],["checker", "known", "here"]⟩),
 (464,⟨some 390,[("type",397),("expr",402),("statement",421),("pattern",426),("look_value",433),("look",440),("look_operator",447),("look_sign",454),("look_cast",461)],["infer", "world", "bounds"]⟩),
 (597,⟨some 533,[("fresh",540),("fresh_int",547),("shallow",554),("resolved",559),("occurs",566),("bind",573),("are_alike",580),("unify",587),("default_ints",594)],["known", "is_number"]⟩),
 (655,⟨some 616,[("read",621),("path",633),("single",640),("bare",647)],["modules", "module", "generics", "self_type", "fresh"]⟩),
 (832,⟨some 681,[("expr",688),("fresh",702),("resolved",709),("unify",716),("typex",723),("open",730),("close",737),("new_local",744),("declare",751),("local",758),("value_path",784),("coerce",822)],["world", "module", "self_type", "bounds", "reader", "infer", "locals", "scopes", "loops", "many_loops", "owed", "result"]⟩),
 (880,⟨some 870,[],["modules", "adts", "variants", "sigs", "traits", "impls", "consts", "bodies", "read", "find"]⟩)]
noncomputable def I5:List (String×ae):=[("tuple",.bi (.type "tuple")),
 ("rebuilt",.top 96),
 ("parts_of",.top 89),
 ("with_regions",.top 106),
 ("no_region",.top 113),
 ("BY_VALUE",.str "move"),
 ("PatternReader",.top 286),
 ("is_signed",.top 334),
 ("BITS",.cp ["i8", "i16", "i32", "i64", "u8", "u16", "u32", "u64", "usize"] [.int 8,.int 16,.int 32,.int 64,.int 8,.int 16,.int 32,.int 64,.int 64]),
 ("least",.top 341),
 ("greatest",.top 348),
 ("has_unknowns",.top 127),
 ("list",.bi (.type "list")),
 ("SINGLE",.cp ["binary", "lazy", "unary", "borrow", "deref", "field", "index", "repeat", "box", "assign", "update", "if", "loop", "break", "return", "cast", "print"] [.tup [.int 4,.int 5],.tup [.int 4,.int 5],.tup [.int 4],.tup [.int 4],.tup [.int 3],.tup [.int 3],.tup [.int 3,.int 4],.tup [.int 3],.tup [.int 3],.tup [.int 3,.int 4],.tup [.int 4,.int 5],.tup [.int 3,.int 4,.int 5],.tup [.int 4],.tup [.int 4],.tup [.int 3],.tup [.int 3],.tup [.int 3]]),
 ("ROWS",.cp ["call", "tuple", "array"] [.int 4,.int 3,.int 3]),
 ("is_copy",.top 158),
 ("isinstance",.bi (.builtin "isinstance")),
 ("bool",.bi (.type "bool")),
 ("fits",.top 355),
 ("TypeFault",.top 64),
 ("type_text",.top 139),
 ("BOOL",.tup [.str "bool"]),
 ("OF_TRUTHS",.tup [.str "==",.str "!=",.str "&",.str "|",.str "^"]),
 ("NEVER",.tup [.str "never"]),
 ("read_int",.top 483),
 ("COMPARISONS",.tup [.str "==",.str "!=",.str "<",.str "<=",.str ">",.str ">="]),
 ("SHIFTS",.tup [.str "<<",.str ">>"]),
 ("is_never",.top 476),
 ("typed_pattern",.top 319),
 ("BYVALUE",.str "move"),
 ("read_let",.top 511),
 ("UNIT",.tup [.str "tuple",.tup []]),
 ("len",.bi (.builtin "len")),
 ("range",.bi (.type "range")),
 ("DEFAULT_INT",.tup [.str "int",.str "i32"]),
 ("INT_KINDS",.tup [.str "i8",.str "i16",.str "i32",.str "i64",.str "u8",.str "u16",.str "u32",.str "u64",.str "usize"]),
 ("Reader",.top 655),
 ("Infer",.top 597),
 ("erased",.top 120),
 ("type_of",.top 667),
 ("SELF",.str "Self"),
 ("NameFault",.top 52),
 ("names_in",.top 841),
 ("max",.bi (.builtin "max")),
 ("int",.bi (.type "int")),
 ("_law_take",.top 898),
 ("_law_one",.top 905),
 ("_law_kinds",.top 912),
 ("_law_literal",.top 919),
 ("_law_name",.top 926),
 ("_law_expr",.top 933),
 ("str",.bi (.type "str")),
 ("_law_home",.top 945),
 ("_law_node",.top 952),
 ("_law_walk",.top 966),
 ("_law_same",.top 959),
 ("_law_room",.top 973),
 ("read_binary",.top 497),
 ("read_unary",.top 490),
 ("read_cast",.top 504),
 ("read_block",.top 518),
 ("World",.top 880),
 ("_law_read",.top 993),
 ("Checker",.top 832),
 ("_law_nothing",.top 986),
 ("Settler",.top 464),
 ("_law_rows",.top 938),
 ("_law_pool",.top 891),
 ("_law_told",.top 998),
 ("_law_due",.top 978)]
noncomputable def au:cW:=⟨λa=>uT.lookup a,λa=>v5.lookup a,[52,64]⟩
section
noncomputable def sC:List (String×ae):=("Exception",.bi (.type "Exception"))::I5
noncomputable def AB:List Nat:=[3,1,52,51,64,63,39,38,286,285,464,463,597,596,655,654,832,831,880,879,89,88,96,95,106,105,120,119,127,126,139,138,158,157,184,183,198,197,205,204,212,211,219,218,226,225,319,318,312,334,333,341,340,348,347,355,354,390,389,397,396,402,401,421,420,426,425,433,432,440,439,447,446,454,453,461,460,476,475,483,482,490,489,497,496,504,503,511,510,518,517,533,532,540,539,547,546,554,553,559,558,566,565,573,572,580,579,587,586,594,593,616,615,621,620,633,632,640,639,647,646,667,666,660,681,680,688,687,702,701,709,708,716,715,723,722,730,729,737,736,744,743,751,750,758,757,784,783,822,821,841,840,870,869,863,891,890,898,897,905,904,912,911,919,918,926,925,933,932,938,937,945,944,952,951,959,958,966,965,973,972,978,977,986,985,979,993,992,998,997,1005,1004,36,35,29,327,356,357,358,359,360,361,362,363,364,365,366,367,368,369,370,371,372,373,374,82,376,81,375,469,80,79,519,602]
noncomputable def v7(h:Heap)(as:List Nat):Frag:=as.filterMap λa=>(h.get? a).map λo=>(a,o)
theorem I6(h:Heap)(as:List Nat):(v7 h as).In h:=by
 induction as with
 |nil=>exact λa o e=>absurd e nn
 |cons b as ih=>
  intro a o e;unfold v7 at e;rw[List.filterMap_cons]at e;cases q:h.get? b with
  |none=>rw[q]at e;exact ih a o e
  |some ob=>
   rw[q]at e;replace e:List.lookup a ((b,ob)::v7 h as)=some o:=e;rw[List.lookup_cons]at e;cases z:a==b with
   |true=>
    rw[z]at e;rw[eq_of_beq z,q];exact e
   |false=>rw[z]at e;exact ih a o e
noncomputable def FH(v:Value):Bool:=match v with | .none=>true|_=>false
theorem FI{v:Value}(h:FH v=true):v=.none:=by cases v<;>first|rfl|exact absurd h ff
noncomputable def KO(v:Value)(k:Bool->Bool):Bool:=match v with | .bool c=>k c|_=>false
theorem MP{C:Prop}{v:Value}{k:Bool->Bool}(h:KO v k=true)(k_:∀c,v=.bool c->k c=true->C):C:=by cases v<;>first|exact k_ _ rfl h|exact absurd h ff
noncomputable def Qq(v:Value)(k:Int->Bool):Bool:=match v with | .int c _=>k c|_=>false
theorem Qr{C:Prop}{v:Value}{k:Int->Bool}(h:Qq v k=true)(k_:∀c t,v=.int c t->k c=true->C):C:=by cases v<;>first|exact k_ _ _ rfl h|exact absurd h ff
noncomputable def MQ(v:Value)(k:Str->Bool):Bool:=match v with | .str c _=>k c|_=>false
theorem KP{C:Prop}{v:Value}{k:Str->Bool}(h:MQ v k=true)(k_:∀c t,v=.str c t->k c=true->C):C:=by cases v<;>first|exact k_ _ _ rfl h|exact absurd h ff
noncomputable def FJ(v:Value)(k:Nat->Bool):Bool:=match v with | .ref c=>k c|_=>false
theorem FK{C:Prop}{v:Value}{k:Nat->Bool}(h:FJ v k=true)(k_:∀c,v=.ref c->k c=true->C):C:=by cases v<;>first|exact k_ _ rfl h|exact absurd h ff
noncomputable def MR(d:Data)(k:Array Value->Bool):Bool:=match d with | .seq xs _=>k xs|_=>false
theorem KQ{C:Prop}{d:Data}{k:Array Value->Bool}(h:MR d k=true)(k_:∀xs n,d=.seq xs n->k xs=true->C):C:=by cases d<;>first|exact k_ _ _ rfl h|exact absurd h ff
noncomputable def FL(d:Data)(k:Array DictEntry->Bool):Bool:=match d with | .dict xs _=>k xs|_=>false
theorem MS{C:Prop}{d:Data}{k:Array DictEntry->Bool}(h:FL d k=true)(k_:∀xs n,d=.dict xs n->k xs=true->C):C:=by cases d<;>first|exact k_ _ _ rfl h|exact absurd h ff
noncomputable def Qs(d:Data)(k:ClassData->Bool):Bool:=match d with | .cls xs=>k xs|_=>false
theorem Qt{C:Prop}{d:Data}{k:ClassData->Bool}(h:Qs d k=true)(k_:∀xs,d=.cls xs->k xs=true->C):C:=by cases d<;>first|exact k_ _ rfl h|exact absurd h ff
noncomputable def FN(fd:FuncData):Option (FuncData×List Stmt):=match fd.body with
 | .stmts b=>some (fd,b)
 | .expr _=>none
noncomputable def KR(d:Data):Option (FuncData×List Stmt):=match d with
 | .func fd=>FN fd
 |_=>none
theorem I7{C:Prop}{f fd:FuncData}{b:List Stmt}(h:FN f=some (fd,b))(k_:f=fd->fd.body=.stmts b->C):C:=by
 obtain⟨g0,g1,pr,bd,g3,g4,g5,g6,g7,g8,g9,Xl,Xm,Xn,Xo⟩:=f;cases bd with
 |stmts b'=>cases h;exact k_ rfl rfl
 |expr _=>exact absurd h nn
theorem MT{C:Prop}{d:Data}{fd:FuncData}{b:List Stmt}(h:KR d=some (fd,b))(k_:d=.func fd->fd.body=.stmts b->C):C:=by
 cases d with
 |func f=>exact I7 h λe k=>k_ (congrArg _ e) k
 |_=>exact absurd h nn
noncomputable def kObj(K:Frag)(p:Nat)(k:Obj->Bool):Bool:=cq (K.lookup p) k
mutual
noncomputable def sD:ae->List (List String)
 | .tup vs=>fw vs
 | .cp ks vs=>ks::fw vs
 |_=>[]
noncomputable def fw:List ae->List (List String)
 |[]=>[]
 |a::as=>sD a++fw as
end
noncomputable def keyOk(k:String)(e:DictEntry):Bool:=MQ e.key λy=>aK k==y
noncomputable def keysOk:List String->List DictEntry->Bool:=all2 keyOk
mutual
noncomputable def B8(K:Frag):ae->Value->Bool
 | .none,v=>FH v
 | .bool b,v=>KO v λc=>b==c
 | .int i,v=>Qq v λj=>i==j
 | .str x,v=>MQ v λy=>aK x==y
 | .tup vs,v=>FJ v λp=>kObj K p λo=>yj "tuple" o.cls&&MR o.data λitems=>valsOk K vs items.toList
 | .top a,v=>FJ v λb=>a==b
 | .cp ks vs,v=>FJ v λp=>p != sysModules&&kObj K p λo=>yj "dict" o.cls&&qO o.dict&&o.slots.toList.isEmpty&&FL o.data λes=>keysOk ks es.toList&&valsOk K vs (es.toList.map (·.val))&&decide (ks.map λk=>some (aK k)).Nodup
 |_,_=>false
noncomputable def valsOk(K:Frag):List ae->List Value->Bool
 |[],vs=>isNil vs
 |a::as,vs=>(match vs with|v::vs=>B8 K a v&&valsOk K as vs|[]=>false)
end
noncomputable def v8(K:Frag)(p:Nat):List Int:=match K.lookup p with
 |some o=>(match o.data with | .dict es _=>es.toList.map (·.hash)|_=>[])
 |none=>[]
noncomputable def FO:List String:=["i8", "i16", "i32", "i64", "u8", "u16", "u32", "u64", "usize"]
noncomputable def AD:List String:=["binary", "lazy", "unary", "borrow", "deref", "field", "index", "repeat", "box", "assign", "update", "if", "loop", "break", "return", "cast", "print"]
noncomputable def FP:List String:=["call", "tuple", "array"]
noncomputable def dictAt:List (String×Nat×List String):=[("BITS",327,FO),("SINGLE",356,AD),("ROWS",374,FP)]
noncomputable def hashesOf(K:Frag):List (List Int):=dictAt.map λq=>v8 K q.2.1
noncomputable def wa(w:World):List (List Int):=dictAt.map λq=>q.2.2.map λk=>pA w (some (aK k))
noncomputable def KU{α:Type}(o:Option (Option α))(ks:α->Bool)(kn:Bool):Bool:=match o with
 |some o=>(match o with|some u=>ks u|none=>kn)
 |none=>false
theorem MU{C:Prop}{α:Type}{o:Option (Option α)}{ks:α->Bool}{kn:Bool}(h:KU o ks kn=true)(k1:∀u,o=some (some u)->ks u=true->C)(k2:o=some none->kn=true->C):C:=by
 cases o with
 |none=>exact absurd h ff
 |some o=>cases o with
  |none=>exact k2 rfl h
  |some u=>exact k1 u rfl h
noncomputable def AE(K:Frag)(p:String×ae):Bool:=KU (nsIn K mainGlobals (aK p.1)) (λu=>B8 K p.2 u) (Sy p.2 λu=>bootBuiltins (aK p.1)==some u&&!(aK p.1==("__name__" : Str)))
noncomputable def dfltOk(K:Frag)(dv:Value)(ds:List ae):Bool:=(FH dv&&isNil ds) || (FJ dv λt=>kObj K t λo=>MR o.data λitems=>isNil (fw ds)&&valsOk [] ds items.toList)
noncomputable def bodyOf(K:Frag)(f:Nat):Option (FuncData×List Stmt):=match K.lookup f with
 |some o=>KR o.data
 |none=>none
noncomputable def AF(K:Frag)(f:Nat)(fi:jr):Bool:=cq (bodyOf K f) λq=>codeIn K q.1.code q.1.qualname&&isNil q.1.closure&&q.1.globals==mainGlobals&&q.1.builtins==builtinsNs&&dfltOk K q.1.defaults fi.js
noncomputable def Qu(fi:jr):Bool:=decide fi.params.Nodup&&decide (fi.js.length<=1)&&decide (fi.js.length<=fi.params.length)
noncomputable def wb(K:Frag)(C g:Nat):Bool:=findIn K (.ref C) "__init__" == some (some (.ref g))&&typeIn K (.ref g)==some (.type "function")
noncomputable def FQ(K:Frag)(C:Nat)(ci:eJ):Bool:=
 findIn K (.ref C) "__getattribute__" == some (some (.builtin "object.__getattribute__"))&&findIn K (.ref C) "__getattr__" == some none&&hasDictIn K C &&
 (ci.fields.all λa=>findIn K (.ref C) (aK a)==some none) &&
 (ci.meths.all λp=>findIn K (.ref C) (aK p.1)==some (some (.ref p.2))&&isFn K (.ref p.2)&&!copiedNames.contains (aK p.1)) &&
 findIn K (.ref C) "__setattr__" == some (some (.builtin "object.__setattr__"))&&plainOver K C&&makesIn K C&&keepIn K (.ref C) &&
 cq ci.init (wb K C)
noncomputable def wc:jr:=⟨["self", "message", "spot"],[.int 0],[.dead]⟩
noncomputable def TK(s:String)(o:Option Value):Bool:=cq o λv=>v==.builtin s
noncomputable def FR(l:List (Option Value)):Bool:=Nat.beq l.length 6&&cq (l[4]?) (TK "Exception.__new__")
noncomputable def FT(C:Nat)(o:Obj):Bool:=yj "type" o.cls&&FR o.slots.toList&&Qs o.data λcd=>(match cd.mro with|c::bm=>c==.ref C&&fK bm|[]=>false)&&!cd.hasDel&&!cd.abstract
noncomputable def FU(K:Frag)(C:Nat):Bool:=
 kObj K C (FT C) &&
 specialIn K (.ref C) "__call__" == some (some (.builtin "type.__call__"))&&instIn K (.ref C) (.type "type")==some true&&findIn K (.ref C) "__setattr__" == some (some (.builtin "object.__setattr__"))&&hasDictIn K C &&
 findIn K (.ref C) (aK "message")==some none&&findIn K (.ref C) (aK "spot")==some none&&findIn K (.ref C) "__getattribute__" == some (some (.builtin "BaseException.__getattribute__"))&&typeIn K (.ref C)==some (.type "type")&&findIn K (.ref C) "__getattr__" == some none &&
 keepIn K (.ref C)&&wb K C 36
noncomputable def placesOk(K:Frag):Bool:=dictAt.all λq=>nsIn K mainGlobals (aK q.1)==some (some (.ref q.2.1))
noncomputable def KV(K:Frag):Bool:=nsIn K mainGlobals "law" == some (some (.ref 1005))&&(K.lookup sysModules).isSome
noncomputable def sE(K:Frag):Bool:=KV K&&placesOk K&&(sC.all (AE K))&&(uT.all λp=>AF K p.1 p.2&&keepIn K (.ref p.1))&&(v5.all λp=>FQ K p.1 p.2)&&([52,64].all (FU K))&&AF K 36 wc
noncomputable def mh:List (Nat×Nat):=[(36,7),(89,22),(96,31),(106,46),(120,54),(127,56),(139,68),(158,114),(184,150),(198,158),(205,179),(212,191),(219,198),(226,209),(319,325),(334,336),(341,338),(348,340),(355,342),(390,351),(397,356),(402,362),(421,393),(426,398),(433,417),(440,425),(447,442),(454,450),(461,456),(476,462),(483,464),(490,472),(497,481),(504,491),(511,493),(518,505),(533,526),(540,530),(547,535),(554,540),(559,545),(566,549),(573,558),(580,568),(587,575),(594,592),(616,600),(621,607),(633,624),(640,635),(647,651),(667,669),(681,675),(688,689),(702,695),(709,698),(716,701),(723,707),(730,711),(737,714),(744,717),(751,721),(758,726),(784,754),(822,809),(841,828),(870,843),(891,856),(898,863),(905,870),(912,872),(919,874),(926,879),(933,881),(938,894),(945,901),(952,905),(959,909),(966,916),(973,941),(978,944),(986,962),(993,964),(998,972),(1005,991)]
noncomputable abbrev AG:=Arguments×Scope×List Stmt
set_option backward.match.sparseCases true
noncomputable def we:List Stmt->List (Nat×AG)
 |[]=>[]
 | .FunctionDef _ ps b _ _ _ sc _ _ pos::r=>(pos.line,ps,sc,b)::we r
 |_::r=>we r
noncomputable def defsIn:List Stmt->List (Nat×AG)
 |[]=>[]
 | .FunctionDef _ ps b _ _ _ sc _ _ pos::r=>(pos.line,ps,sc,b)::defsIn r
 | .ClassDef _ _ _ b _ _ _ _ _ _ _::r=>we b++defsIn r
 |_::r=>defsIn r
noncomputable def defAt(n:Nat):Option AG:=(defsIn PySem.Challenge.pw_ot0051_01.main.body).lookup n
noncomputable def yq(f:Nat):Option jr:=if f=36 then some wc else uT.lookup f
noncomputable def Qv(gt:List (String×ae))(fi:jr)(d:AG):Bool:=!d.2.1.isCoroutine&&!d.2.1.isGenerator&&d.2.1.kind==.function&&fO gt d.2.1 fi.body d.2.2 &&
 isNil d.1.posonlyargs&&(d.1.args.map (·.arg))==fi.params.map aK&&isNil d.1.kwonlyargs&&d.1.vararg.isNone&&d.1.kwarg.isNone &&
 (fi.params.all λx=>(d.2.1.names.lookup (aK x)==some .local) || (d.2.1.names.lookup (aK x)==some .cell))&&(d.2.1.names.all λp=>p.2 != .free)&&Qu fi
noncomputable def Qw(p:Nat×Nat):Bool:=cq (defAt p.2) λd=>cq (yq p.1) λfi=>Qv sC fi d
noncomputable def defsOf(K:Frag):List (Option AG):=mh.map λp=>(bodyOf K p.1).map λq=>(q.1.params,q.1.scope,q.2)
noncomputable def lH:List (Option AG):=mh.map λp=>defAt p.2
end
section
set_option tactic.hygienic true
noncomputable abbrev YT:=Bool×List (List Int)×List (Option AG)
noncomputable def yf(s:Shared):YT:=(sE (v7 s.heap AB),hashesOf (v7 s.heap AB),defsOf (v7 s.heap AB))
noncomputable def yr(t:BT)(n:Nat)(as:List Nat):Frag:=as.filterMap λa=>(match Nat.blt a n with|true=>alive ((t.get a).getD default)|false=>none).map λo=>(a,o)
noncomputable def yt(s:SharedT):YT:=(sE (yr s.tree s.n AB),hashesOf (yr s.tree s.n AB),defsOf (yr s.tree s.n AB))
theorem I8(t:BT)(n:Nat)(life:Life)(a:Nat):(absHeap t n life).get? a=match Nat.blt a n with|true=>alive ((t.get a).getD default)|false=>none:=by
 unfold Heap.get?;rw[absHeap_at]
 by_cases h:a<n
 ·have hb:Nat.blt a n=true:=Nat.ble_eq_true_of_le h
  rw[if_pos h,hb];obtain⟨c,d,dt,sl⟩:=(t.get a).getD default;cases dt<;>rfl
 ·have hb:Nat.blt a n=false:=by
   cases q:Nat.blt a n with
   |false=>rfl
   |true=>exact absurd (Nat.le_of_ble_eq_true q) h
  rw[if_neg h,hb]
theorem FV(t:BT)(n:Nat)(life:Life)(as:List Nat):v7 (absHeap t n life) as=yr t n as:=by
 unfold v7 yr;congr 1
 funext a
 rw[I8]
theorem MV(s:SharedT):yf s.abs=yt s:=by
 unfold yf yt SharedT.abs;dsimp only;rw[FV]
noncomputable def ya(w:World):YT:=(true,wa w,lH)
theorem TL:∀(w:World) (os:OsState),(segRunT treeTable PySem.Challenge.pw_ot0051_01 (w.withFollow "special-get-raises" false) 11 (some (.ref 6)) 0 13666 (wO (w.withFollow "special-get-raises" false) os) (topStub PySem.Challenge.pw_ot0051_01)).map (λx=>wM PySem.Challenge.pw_ot0051_01 qv kP (λ_=>true) yt (boot_heap (w.withFollow "special-get-raises" false).params) x.2.1)=some (true,openGood qv kP,ya (w.withFollow "special-get-raises" false)):=by
 intro w os;rw[PySem.W.Fast.te10110043849684766642,PySem.W.Fast.te14364793385576792824]
 kernel_rfl
theorem TM:∀(w:World) (os:OsState),(segRunT treeTable PySem.Challenge.pw_ot0051_01 (w.withFollow "special-get-raises" true) 11 (some (.ref 6)) 0 13666 (wO (w.withFollow "special-get-raises" true) os) (topStub PySem.Challenge.pw_ot0051_01)).map (λx=>wM PySem.Challenge.pw_ot0051_01 qv kP (λ_=>true) yt (boot_heap (w.withFollow "special-get-raises" true).params) x.2.1)=some (true,openGood qv kP,ya (w.withFollow "special-get-raises" true)):=by
 intro w os;rw[PySem.W.Fast.te10110043849684766642,PySem.W.Fast.te14364793385576792824]
 kernel_rfl
theorem left:LeftO PySem.Challenge.pw_ot0051_01 qv kP (λ_=>true) yf ya 13666 true:=
 wN wO CG MV Ol Om λw=>Lw (P:=λw=>∀os,(segRunT treeTable PySem.Challenge.pw_ot0051_01 w 11 (some (.ref 6)) 0 13666 (wO w os) (topStub PySem.Challenge.pw_ot0051_01)).map (λx=>wM PySem.Challenge.pw_ot0051_01 qv kP (λ_=>true) yt (boot_heap w.params) x.2.1)=some (true,openGood qv kP,ya w)) "special-get-raises" (λb w=>by cases b;exact TL w;exact TM w) w
end
section
variable{aa:Program}{w:World}{hW:Heap}{gt:List (String×ae)}{K:Frag}{mg mb:Str->Option Value}
 {A:Around}{ah:List Env}{env:Env}{l:Loc}{s:Shared}{ρ:Nat->Addr}{H:AH}{E:Value->Shared->Prop}
noncomputable def TN(h:Heap)(e:Addr):Prop:=∃oe vs,h.get? e=some oe∧oe.data=.fields vs∧vs.size=6∧vs[2]? = some .none
theorem TN.six{h:Heap}{e:Addr}{oe:Obj}{vs:Array Value}(x:TN h e)(a:h.get? e=some oe)(d:oe.data=.fields vs):vs.size=6:=by
 refine pk x ?_;clear x;intro mH RI q1 q2 q3 _;cases a.symm.trans q1;cases d.symm.trans q2;exact q3
theorem iS{h h':Heap}(k:∀b o,h.get? b=some o->h'.get? b=some o){b:Addr}(hb:h'.get? b=none):h.get? b=none:=by
 cases q:h.get? b with
 |none=>rfl
 |some o=>rw[k b o q]at hb;cases hb
theorem AI{C:Prop}(e:Addr){as:List ae}(hl:1<=as.length∧as.length<=2)(k_:∀m,∀sp,kR ["self", "message", "spot"] (.top e::as) [.int 0]=some [("self",.top e),("message",m),("spot",sp)]->as.head? = some m->C):C:=by
 cases as with
 |nil=>exact absurd hl.1 (Nat.not_succ_le_zero 0)
 |cons m r=>cases r with
  |nil=>exact k_ m (.int 0) rfl rfl
  |cons sp r=>cases r with
   |nil=>exact k_ m sp rfl rfl
   |cons _ _=>exact absurd hl.2 (λz=>Nat.not_succ_le_zero _ (Nat.le_of_succ_le_succ (Nat.le_of_succ_le_succ z)))
theorem FW{d k m:Nat}(h:k<=1)(hd:d+50<=m):d+k+10*(0+1)+20<=m:=by omega
theorem yu{C fI:Nat}{fd:FuncData}{body:List Stmt}{as:List ae}{xs:List Value}{Q:Value->Shared->Prop}(EF:bS K C)(IF:pG gt K aa w C fI fd body)(MN:rX (af aa w) gt hW mg mb)(lim:hW.NoLimit)(X:K.In hW)
  (rQ:A.frames=some ah) (Mx:A.depth+50<=recursionLimit) (st:St (af aa w) hW ah ρ H s.heap) (vr:aP (af aa w) hW s.heap ρ H.next as xs) (hl:1<=as.length∧as.length<=2) (hm:∀m,as.head? = some m->∀h ρ N u,bf (af aa w) hW h ρ N m u->handedIn u=true)
  (hQ:∀e h' t,St (af aa w) hW ah ρ H h'->Step eQ (bl ah) ρ H.next s.heap ρ H.next h'->mZ s.heap h' e (2*C)->TN h' e->Q (.ref e) { s with heap:=h',toks:=t }):wpAny (model aa w) A (call (.ref C) xs) Q E s:=by
 refine aI EF.obj λy hC hb=>?_;have hx:=fQ _ hb;have Xs:K.In s.heap:=X.keeps st.stays;have XW:xs.length<=sizeLine:=by
  have:=vr.length;rw[sizeLine_eq];omega
 refine wpAny_call (Fx hx.exc hx.attr hx.name (Xs _ _ hC) XW (looks_specialIn Xs EF.call) (looks_instIn Xs EF.typ) (looks_findIn Xs IF.found) (λself=>bind_fn Xs self IF.isFn) ?_);have k:∀b o,s.heap.get? b=some o->((s.heap.push { cls:=.type "tuple",data:=.seq xs.toArray }).push (fu C s.heap.objs.size)).get? b=some o:=λb o e=>Heap.get?_push_of_some _ (Heap.get?_push_of_some _ e);have he:((s.heap.push { cls:=.type "tuple",data:=.seq xs.toArray }).push (fu C s.heap.objs.size)).get? (s.heap.objs.size+1)=some (fu C s.heap.objs.size):=by heap_get
 generalize Z2:(s.heap.push { cls:=.type "tuple",data:=.seq xs.toArray }).push (fu C s.heap.objs.size)=h2 at *;have j0:tu hW (bl ah) (λ_=>False) s.heap h2:=⟨λb o q _ _=>k b o q,λb o q _=>⟨o.slots,k b o q⟩,λ_ _ z=>z.elim,λ_ z=>z.elim⟩
 have HS:St (af aa w) hW ah ρ H h2:=j0.st st;have rq:Step eQ (bl ah) ρ H.next s.heap ρ H.next h2:=.keeps k;refine AI (s.heap.objs.size+1) hl λm sp TO XX=>?_;have fresh:s.heap.get? (s.heap.objs.size+1)=none:=by
  cases e:s.heap.get? (s.heap.objs.size+1)with
  |none=>rfl
  |some o'=>exact absurd (Heap.lt_size e) (Nat.not_lt.mpr (Nat.le_succ _))
 refine codeAny_mono (B4 (n:=0) (A:=A.under (.builtin "type.__call__" ⟨.ref C::xs,[]⟩)) (s:=⟨h2,s.gens,s.drawn,s.toks,s.os⟩) (as:=.top (s.heap.objs.size+1)::as) (Q:=λv s'=>v=.none∧Q (.ref (s.heap.objs.size+1)) s') (E:=E) IF.fn lim X (by decide) (.inr trivial) rQ ?_ HS ⟨rfl,rq.gr vr⟩ TO ?_) λr' s' z=>?_
 ·show A.depth+(Code.builtin "type.__call__" ⟨.ref C::xs,[]⟩).weight+10*(0+1)+20<=_
  exact FW uM Mx
 ·intro env aS HR lr XY tP mI kp hO hL
  refine dA mI ?_;clear mI;intro h3 t3 Qx;subst Qx;have XZ:hW.get? (s.heap.objs.size+1)=none:=iS st.stays fresh;have V0:=kp _ _ he;refine wpAny_mono (Dm (C:=C) (fI:=fI) (e:=s.heap.objs.size+1) (t0:=s.heap.objs.size) (fd:=fd) (ah:=env::ah) (s:=⟨h3,s.gens,s.drawn,t3,s.os⟩) (Q:=λf s'=>Mv f=.none∧Q (.ref (s.heap.objs.size+1)) s') (XD:=fu C s.heap.objs.size) EF IF MN X HR tP lr V0 (λo=>?_) (λm=>?_) XZ (hm _ XX) ?_) (λ_ _ z=>z) λ_ _ z=>z
  ·exact absurd (he.symm.trans (hO _ o)) (λz=>nn z.symm)
  ·refine FunFrames.fN HR.bW m λ_ o g1 nf=>?_
   dsimp only at g1;rw[V0]at g1;replace g1:=Option.some.inj g1;subst g1;exact nf _ rfl
  ·intro h' t' mv fg dH hz
   refine hz _ λoe vs dx es n g1 g2 g3 g4 g5 g6 g7 g8 g9 ga gb=>?_;have kk:∀b o,s.heap.get? b=some o->h3.get? b=some o:=λb o q=>kp b o (k b o q);refine⟨rfl,hQ _ h' t' fg.pop (dH.IY kk (λb (z:b=_)=>z▸fresh) (hL.imp λL z=>⟨z.1,iS k z.2⟩)) (λ_ q=>q oe vs dx ⟨fresh,g1,by rw[g2,Nat.mul_div_cancel_left _ (by decide)],g3,iS kk g5,⟨es,n,g4,mv,g6,g7⟩,g8,λ_=>gb⟩ g9) ⟨oe,vs,g1,g8,ga,gb⟩⟩
 ·rcases r' with e|(v|_|_|_)<;>exact z
end
section
variable{M:Model}{h:Heap}{e C:Addr}{oe:Obj}{vs:Array Value}{K:Frag}
theorem lI(he:h.get? e=some oe)(hd:oe.data=.fields vs):Looks M h (isType (.ref e)) false:=by
 unfold isType;refine(Looks.ld he).andThen ?_;rw[hd];exact .now
theorem lJ(he:h.get? e=some oe)(hc:oe.cls=.ref C):Looks M h (typeOf (.ref e)) (.ref C):=(Looks.ld he).andThen (by rw[hc];exact .now)
theorem yv(F:bS K C)(X:K.In h)(he:h.get? e=some oe)(hc:oe.cls=.ref C):Looks M h (isInstance (.ref e) (.type "BaseException")) true:=by
 refine aI F.mro λcd wL ho=>?_;have hx:=fQ _ ho;exact(lJ he hc).andThen (looks_mroIn X (by unfold mroIn;rw[wL,Option.bind_some,if_neg (by rw[hx.some];decide),hx.base]))
theorem uU(F:bS K C)(X:K.In h)(he:h.get? e=some oe)(hc:oe.cls=.ref C)(hd:oe.data=.fields vs):Looks M h (excFromValue (.ref e) t) (.ref e):=by
 unfold excFromValue;have L1:Looks M h (isExcClass (.ref e)) false:=(lI he hd).andThen .now;refine L1.andThen ?_;exact(yv F X he hc).andThen .now
theorem qD(F:bS K C)(X:K.In h)(he:h.get? e=some oe)(hc:oe.cls=.ref C):Looks M h (raisedInstance (.ref e)) (.ref e):=by
 unfold raisedInstance;exact(lJ he hc).andThen ((looks_typeIn X F.MM).andThen .now)
end
section
variable{aa:Program}{w:World}{hW:Heap}{gt:List (String×ae)}{P:cW}{F:dQ}{n:Nat}{K:Frag}{mg mb:Str->Option Value}
 {A:Around}{ah:List Env}{env:Env}{l:Loc}{s:Shared}{ρ:Nat->Addr}{H:AH}
theorem AJ{C:Addr}{x:Sem Value}{Q:Flow->Shared->Prop}{E:Value->Shared->Prop}(EF:bS K C)(hh:A.handled=none)
  (h:wpAny (model aa w) A x (λv aS=>∀D:Prop,(∀e,∀oe,∀vs,v=.ref e->K.In aS.heap->aS.heap.get? e=some oe->oe.cls=.ref C->oe.data=.fields vs->vs[1]? = some .none->E (.ref e) aS->D)->D) E s):
  wpAny (model aa w) A (raiseStmt env (some x) none) Q E s:=by
 unfold raiseStmt;refine wpAny_bind (wpAny_mono h (λv aS ay=>?_) λ_ _ x=>x);refine ay _ λe oe vs z X he hc hd h1 hE=>?_;clear ay;subst z;refine wpAny_bind (wpAny_pure (wpAny_bind (wpAny_holding ((uU EF X he hc hd).here ?_))));refine wpAny_bind ((lI he hd).here (wpAny_bind ((qD EF X he hc).here (wpAny_bind ?_))));unfold setFlight;refine wpAny_bind (wpAny_field he hd h1 ?_);exact wpAny_pure (wpAny_raiseNew_none hh hE)
structure pH(gt:List (String×ae))(K:Frag)(aa:Program)(w:World)(c:Nat):Prop where
 facts:bS K c
 keep:keepIn K (.ref c)=true
 init:∃fI fd body,pG gt K aa w c fI fd body
theorem yw{id:Str}{p:String×ae}:∀{gt:List (String×ae)},gt.find? (λp=>aK p.1==id)=some p->aK p.1=id∧gt.lookup p.1=some p.2:=by
 intro zz;induction zz with
 |nil=>
  intro h;exact absurd h nn
 |cons q r ih=>
  intro h;rw[List.find?_cons]at h
  by_cases e:(aK q.1==id)=true
  ·rw[e]at h
   cases h;exact⟨eq_of_beq e,by obtain⟨a,b⟩:=p;rw[List.lookup_cons,beq_self_eq_true]⟩
  ·rw[Bool.not_eq_true]at e
   rw[e]at h;refine bk (ih h) λa b=>?_;refine⟨a,?_⟩;obtain⟨x,y⟩:=q;rw[List.lookup_cons,beq_eq_false_iff_ne.mpr (λz=>?_)]
   ·exact b
   ·exact absurd (z▸beq_iff_eq.mpr a) (by rw[e];exact ff)
theorem sF{C:Prop}{id:Str}{c:Nat}(h:l4 gt id c=true)(k_:∀x,id=aK x->gt.lookup x=some (.top c)->C):C:=by
 refine bQ h λp e h=>?_;refine J7 h λa e2 h=>?_;refine bk (yw e) λk q=>?_;exact k_ p.1 k.symm (by rw[q,e2,eq_of_beq h])
theorem Dq {C:Prop}{sc:Scope}{c:Nat}{es:List aZ}{s':Stmt} (hc:xg gt sc (.raise c es) s'=true) (k_:∀x,∀I9,∀fs,∀Dr,∀pos,s'=.Raise (some (.Call (.Name (aK x) I9) fs [] Dr)) none pos->
  sc.names.lookup (aK x)=some .globalImplicit->bG (aK x)=true->gt.lookup x=some (.top c)->cb gt sc es fs=true->1<=es.length->es.length<=2->C):C:=by
 refine BC hc λex ca pos e1 h=>?_;refine bQ (az h).2 λX0 e2 h2=>?_;refine rU h2 λg fs kw Dr e3 h3=>?_;refine fY (az h3).2 λid I9 e4 h4=>?_;refine sF (aR (aL (aL h4))) λx e5 hx=>?_;have k4:=az (aL (aL (aL h4)));rw[e5]at k4 e4;have k5:=of_decide_eq_true (aR h4);exact k_ x I9 fs Dr pos (by rw[e1,e2,e3,e4,mG (az h).1,bF (az h3).1]) (eq_of_beq k4.1) k4.2 hx (aR (aL h4)) k5.1 k5.2
theorem lK(B:Base aa w hW gt P K mg mb)(st:hW.StaysIn s.heap)(lr:bJ (af aa w) hW s.heap ρ H.next (bl ah) env l){x:String}{c:Nat}{pos:Pos}{Q E:Value->Shared->Prop}(hg:gt.lookup x=some (.top c))(hk:env.scope.names.lookup (aK x)=some .globalImplicit)(hp:bG (aK x)=true)
  (hQ:Q (.ref c) s):wpAny (model aa w) A (eval (.Name (aK x) pos) env) Q E s:=uP B.names st lr hg hk hp λu (hu:u=_)=>hu▸hQ
theorem half{c:Nat}{oe:Obj}(h:oe.cls=.ref (2*c / 2)):oe.cls=.ref c:=by rw[h,Nat.mul_div_cancel_left _ (by decide)]
theorem KW{d m:Nat}(h:d+10*n+60<=m):d+50<=m:=by omega
theorem FX{c:Nat}{es:List aZ}(T:Text aa w hW gt P K)(B:Base aa w hW gt P K mg mb)(hX:∀c,P.jH.contains c=true->pH gt K aa w c)(h2:(fF (af aa w) hW gt P F n) es):(du aa w hW gt P F n) (.raise c es):=by
 intro s' A ah env l s ρ H r Q E hc N he hq;refine Dq hc λx I9 fs Dr pos z1 c1 c2 hx c4 c5 c6=>?_;subst z1;rw[arm_exec_Raise];refine wY he (λvs H₁ e1 he=>?_) λc' H₁ e1 z1=>?_
 ·refine fX he λV1 he=>?_
  replace he:=Option.some.inj he;subst he;obtain⟨EF,FY,fI,fd,body,IF⟩:=hX c (az V1).2;refine wpAny_bind (wpAny_standAt (AJ EF N.cx.hand (wpAny_bind (Call_ ?_ (ma rfl)))));refine lK B N.st.stays N.lr hx c1 c2 ?_;refine ck (Pr:=λh=>hW.StaysIn h) c4 (λh hs=>keeps_K FY h (T.uD.keeps hs)) ?_;refine h2 fs Dr A ah env l s ρ H _ _ _ c4 N e1 ?_;intro xs aq ay t₁ KX bL br;refine⟨KX.stays,?_⟩;have hlen:=jb e1;refine yu (s:={ s with heap:=ay,toks:=t₁ }) EF IF B.names T.lim T.uD N.cx.stack (KW N.cx.depth) KX br (hlen▸⟨c5,c6⟩) (λm hm=>?_) λe h' t fg dH ex six=>?_
  ·cases vs with
   |nil=>cases hm
   |cons v vs=>cases hm;exact λh ρ N u hu=>pD (az V1).1 hu
  ·refine wpAny_bind (wpAny_standAt (wpAny_pure ?_))
   have RQ:=bL.trans dH;refine ex _ λoe vs dx o g9=>?_;exact λ_ q=>q e oe vs rfl (T.uD.keeps fg.stays) o.at_ (half o.cls) o.data g9 (hq e aq h' t fg (RQ.weaken λ_ f=>f.elim) (N.lr.cZ RQ) (.inl (mZ.back ex bL.live)))
 ·clear he
  subst z1;unfold raiseStmt;refine wpAny_bind (wpAny_standAt (wpAny_bind (wpAny_bind (Call_ ?_ (ma rfl)))));refine lK B N.st.stays N.lr hx c1 c2 ?_;refine ck (Pr:=λ_=>False) c4 (λ_ h=>h.elim) ?_;exact h2 fs Dr A ah env l s ρ H _ _ _ c4 N e1 (lh N hq)
end
theorem tS:entryFor table "proto.unchain" = some Builtin.«proto.unchain»:=entryFor_of_fast (by kernel_rfl)
theorem Ja:builtinKind "BaseException.__getattribute__" = some .slot:=by decide +kernel
theorem FZ:splitId "BaseException.__getattribute__" = some ("BaseException", "__getattribute__"):=by decide +kernel
theorem F0:plainId "BaseException.__getattribute__" = true:=by decide +kernel
theorem Jb(self:Value):bindSpecial (.builtin "BaseException.__getattribute__") self=pure (.builtin "BaseException.__getattribute__",[self]):=by
 unfold bindSpecial;kernel_rfl
section
variable{aa:Program}{w:World}{A:Around}{E:Value->Shared->Prop}{s:Shared}{K:Frag}{e C:Addr}{oe:Obj}{vs:Array Value}
theorem sG{Q:Bool->Shared->Prop}(F:bS K C)(X:K.In s.heap)(he:s.heap.get? e=some oe)(hc:oe.cls=.ref C)(h:Q true s):wpAny (model aa w) A (excMatches (.ref e) (.ref C)) Q E s:=by
 refine aI F.obj λy hC hb=>?_;have RT:=X _ _ hC;have L1:Looks (model aa w) s.heap (isInstance (.ref C) (.type "tuple")) false:=(looks_typeIn X F.MM).andThen (Looks.of_pure (isSubtype_of_subB (by decide +kernel)));have L2:Looks (model aa w) s.heap (isExcClass (.ref C)) true:=by
  have:Looks (model aa w) s.heap (isType (.ref C)) true:=(Looks.ld RT).andThen .now;refine aI F.mro λcd wL ho=>?_;have hx:=fQ _ ho;exact this.andThen (looks_mroIn X (by unfold mroIn;rw[wL,Option.bind_some,if_neg (by rw[hx.some];decide),hx.base]))
 have L3:Looks (model aa w) s.heap (typeOf (.ref e)) (.ref C):=lJ he hc;obtain⟨hh,g,d,t,os⟩:=s;unfold excMatches;refine wpAny_bind (L1.here (wpAny_bind (wpAny_pure ?_)));simp only[List.forIn_cons,List.forIn_nil];refine wpAny_bind (wpAny_bind (wpAny_bind (L2.here ?_)));refine wpAny_pure (wpAny_pure (wpAny_bind (L3.here ?_)));refine wpAny_bind (wpAny_bind (wpAny_bind (wpAny_isSubtype_exc RT ?_)));rw[show(Value.ref C::y.bm).contains (.ref C)=true by simp];exact wpAny_pure (wpAny_pure (wpAny_pure h))
theorem Jc{dx:Addr}{es:List DictEntry}{n:Nat}{mv:Value}{expr:Bool}{Q:Value->Shared->Prop}(F:bS K C)(X:K.In s.heap)(he:s.heap.get? e=some oe)(hc:oe.cls=.ref C)(hn:notCls oe=true)(KL:oe.dict=some dx)
  (X2:s.heap.get? dx=some (dictOf es n)) (hm:getL (aK "message") es=some (some mv)) (TB:handedIn mv=true) (hQ:Q mv { s with toks:=s.toks+1 }):wpAny (model aa w) A (getAttr (.ref e) (aK "message") expr) Q E s:=by
 have I:InstAt s.heap e oe C (some (dictOf es n)):=⟨he,hc,hn,by rw[KL];exact X2⟩
 have hf:findObj K C (some (dictOf es n)) (aK "message")=some (.value mv):=findObj_own F.dict F.fld.1 rfl (by rw[lookIn_dict];exact hm);have L0:=I.type (M:=model aa w);have L1:=looks_findIn (M:=model aa w) X F.get;have X3:=looks_findIn (M:=model aa w) X F.hook;have L2:=looks_find (M:=model aa w) X I hf;have L3:Looks (model aa w) s.heap (isInstance (.ref e) (.type "BaseException")) true:=yv F X he hc;unfold getAttr getAttrBy;refine wpAny_bind (wpAny_mkText (wpAny_holding (wpAny_bind (L0.at (wpAny_bind (L1.at ?_))))));dsimp only;rw[if_neg (by rw[show(Value.builtin "BaseException.__getattribute__" == Value.builtin "object.__getattribute__")=false by decide +kernel];simp)];unfold getAttrByItsOwn hookBefore;rw[if_pos (by rfl)];refine wpAny_bind (X3.at ?_);refine wpAny_bind (wpAny_attempt (wpAny_holding ?_));unfold callGetattribute;rw[if_neg (by cases expr<;>simp[onTheHeap])];unfold boundAndCalled;rw[Jb];refine wpAny_bind (wpAny_pure ?_);have ha:=PySem.F.args_bexc_ga (.ref e) (.str (aK "message") s.toks);refine wpAny_call (codeAny_call_builtin F0 PySem.F.entry_bexc_ga (@check_slot (model aa w) _ _ ⟨s.heap,s.gens,s.drawn,s.toks+1,s.os⟩ "BaseException.__getattribute__" "BaseException" "__getattribute__" (.ref e) [.str (aK "message") s.toks] [] _ Ja FZ L3 ha ?_));refine wpAny_bind (m:=slotArgs "__getattribute__" 1 ⟨[.ref e,.str (aK "message") s.toks],[]⟩) (wpAny_pure ?_);refine wpAny_bind (m:=Builtin.ObjectAttr.attrName _) (wpAny_pure ?_);refine wpAny_bind (L0.at (wpAny_bind (L2.at ?_)));refine wpAny_pure ?_;show wpAny _ _ (handedOut mv) _ _ _;rw[handedOut_of TB];exact wpAny_pure hQ
end
section
variable{aa:Program}{w:World}{A:Around}{E:Value->Shared->Prop}{s:Shared}{K:Frag}{env:Env}
theorem sH{o:Obj}{vs:Array Value}(hd:o.data=.fields vs)(f:Array Value->Array Value):(o.mapFields f).isFreed=false:=Obj.isFreed_of_fields (Obj.data_mapFields hd f)
theorem oK{M:Model}{a:Addr}{i:Nat}{v:Value}{o:Obj}{vs:Array Value}{Q:Unit->Shared->Prop}(h:s.heap.get? a=some o)(hd:o.data=.fields vs)(hi:i<vs.size)(hQ:Q () { s with heap:=s.heap.update a (Obj.mapFields (·.setIfInBounds i v)) }):
  wpAny M A (updateField a i v) Q E s:=by
 unfold updateField;refine wpAny_bind (wpAny_load h ?_);rw[hd];dsimp only;rw[if_pos hi];exact wpAny_update h hQ
theorem wg{α:Type}{e e0:Addr}{oe o0:Obj}{vs v0:Array Value}{Q:α->Shared->Prop}(hh:A.handled=some (.ref e0))(he:s.heap.get? e=some oe)(hd:oe.data=.fields vs)(h2:2<vs.size)
  (h0:s.heap.get? e0=some o0) (TP:o0.data=.fields v0) (TQ:v0[2]? = some .none) (ne:e0≠e)
  (h:E (.ref e) { s with heap:=s.heap.update e (Obj.mapFields (·.setIfInBounds 2 (.ref e0))) }):wpAny (model aa w) A (raiseNew (.ref e):Sem α) Q E s:=by
 unfold raiseNew;refine wpAny_bind (wpAny_handled ?_);rw[hh];dsimp only;rw[if_pos (by simp[ne])];refine wpAny_bind (wpAny_holding (wpAny_runValue (codeAny_builtin tS ?_)));unfold Builtin.«proto.unchain»;dsimp only;refine wpAny_bind (wpAny_field h0 TP TQ ?_);rw[if_pos (show(Value.none==Value.none)=true by decide)];refine wpAny_pure ?_;show wpAny _ _ (updateField e 2 (.ref e0) >>= _) _ _ _;exact wpAny_bind (oK he hd h2 (wpAny_throw h))
theorem AK{C e0:Addr}{x c:Sem Value}{Q:Flow->Shared->Prop}(EF:bS K C)(hh:A.handled=some (.ref e0))(VD:∀s' (Q':Value->Shared->Prop) (E':Value->Shared->Prop),Q' .none s'->wpAny (model aa w) A c Q' E' s')
  (h:wpAny (model aa w) A x (λv aS=>∀D:Prop,(∀e,∀oe,∀vs,∀o0,∀v0,v=.ref e->((∀h',Heap.SameBut e aS.heap h'->K.In h'))->aS.heap.get? e=some oe->oe.cls=.ref C->oe.data=.fields vs->vs.size=6->vs[1]? = some .none->aS.heap.get? e0=some o0->o0.data=.fields v0->v0[2]? = some .none->e0≠e->(∀h' mH us,Heap.SameBut e aS.heap h'->h'.get? e=some mH->mH.cls=oe.cls->mH.dict=oe.dict->mH.data=.fields us->us[1]? = some .none->E (.ref e) { aS with heap:=h' })->D)->D) E s):
  wpAny (model aa w) A (raiseStmt env (some x) (some c)) Q E s:=by
 unfold raiseStmt;refine wpAny_bind (wpAny_mono h (λv aS ay=>?_) λ_ _ x=>x);refine ay _ λe oe vs o0 v0 z X he hc hd hsz h1 h0 TP TQ ne hE=>?_;clear ay;subst z;refine wpAny_bind (wpAny_holding (VD _ _ _ (wpAny_bind (wpAny_pure ?_))));refine wpAny_bind (wpAny_holding ((uU EF (X _ (.refl ..)) he hc hd).here ?_));refine wpAny_bind ?_;refine wpAny_pure (wpAny_bind (wpAny_setField he hd (by omega) ?_));generalize MW:aS.heap.update e (Obj.mapFields (·.setIfInBounds 3 Value.none))=k1;have g1:k1.get? e=some (oe.mapFields (·.setIfInBounds 3 Value.none)):=by rw[<-MW];exact Heap.get?_update_self _ he (sH hd _)
 have d1:(oe.mapFields (·.setIfInBounds 3 Value.none)).data=.fields (vs.setIfInBounds 3 .none):=Obj.data_mapFields hd _;have s1:Heap.SameBut e aS.heap k1:=by rw[<-MW];exact .update ..
 refine wpAny_bind (wpAny_setField g1 d1 (by simp;omega) ?_);dsimp only;generalize Ke:k1.update e (Obj.mapFields (·.setIfInBounds 4 (Value.bool true)))=k2;have g2:k2.get? e=some ((oe.mapFields (·.setIfInBounds 3 Value.none)).mapFields (·.setIfInBounds 4 (Value.bool true))):=by rw[<-Ke];exact Heap.get?_update_self _ g1 (sH d1 _)
 have d2:((oe.mapFields (·.setIfInBounds 3 Value.none)).mapFields (·.setIfInBounds 4 (Value.bool true))).data=.fields ((vs.setIfInBounds 3 .none).setIfInBounds 4 (.bool true)):=Obj.data_mapFields d1 _;have s2:Heap.SameBut e aS.heap k2:=by rw[<-Ke];exact s1.trans (.update ..)
 have c2:((oe.mapFields (·.setIfInBounds 3 Value.none)).mapFields (·.setIfInBounds 4 (Value.bool true))).cls=.ref C:=by rw[eu,eu,hc]
 refine wpAny_bind ((lI (vs:=_) g2 d2).here ?_);rw[if_neg (by decide)];refine wpAny_bind ((qD EF (X _ s2) g2 c2).here (wpAny_bind ?_));have Qy:((vs.setIfInBounds 3 Value.none).setIfInBounds 4 (.bool true))[1]? = some .none:=by simpa using h1
 unfold setFlight;refine wpAny_bind (wpAny_field g2 d2 Qy ?_);refine wpAny_pure ?_;refine wg hh g2 d2 (by simp;omega) ((s2.2 e0 ne).trans h0) TP TQ ne ?_;refine hE _ _ _ (s2.trans (.update ..)) (Heap.get?_update_self _ g2 (sH d2 _)) ?_ ?_ (Obj.data_mapFields d2 _) ?_
 ·rw[eu,c2,hc]
 ·rw[eS,eS,eS]
 ·simpa using h1
end
section
variable{aa:Program}{w:World}{hW:Heap}{gt:List (String×ae)}{P:cW}{F:dQ}{n:Nat}{K:Frag}{mg mb:Str->Option Value}
 {A:Around}{ah:List Env}{env:Env}{l:Loc}{s:Shared}{ρ:Nat->Addr}{H:AH}
theorem yx(lr:bJ (af aa w) hW s.heap ρ H.next (bl ah) env l):∀b,kO s.heap b->¬Own env b:=λb hb q=>vX lr q hb
theorem sI{h0:Heap}{fr:List Addr}{X:Addr->Prop}{N eh qQ:Nat}{ρ b9 ll:Nat->Addr}{bV dG:Heap}(a:Step X fr ρ N h0 b9 eh bV)(b:Step (λb=>X b∨kO h0 b) fr b9 eh bV ll qQ dG):Step X fr ρ N h0 ll qQ dG:=by
 have c:=(a.weaken (Y:=λb=>X b∨kO h0 b) λ_ z=>.inl z).trans b;exact{
  le:=c.le,old:=c.old,new:=c.new,live:=c.live,eg:=c.eg
  keep:=λb o e hn hX hf=>c.keep b o e hn (λz=>z.elim hX λz=>by rw[show h0.get? b=none from z]at e;cases e) hf
  frame:=λb o e hf hX=>c.frame b o e hf λz=>z.elim hX λz=>by rw[show h0.get? b=none from z]at e;cases e }
theorem fy{h0:Heap}{fr:List Addr}{X:Addr->Prop}{N eh qQ:Nat}{ρ b9 ll:Nat->Addr}{bV dG:Heap}(a:Step X fr ρ N h0 b9 eh bV)(b:Step (kO h0) fr b9 eh bV ll qQ dG):Step X fr ρ N h0 ll qQ dG:=sI a (b.weaken λ_ z=>.inr z)
theorem mT{h0:Heap}{e C:Addr}{c:Nat}{Q:Bool->Shared->Prop}{E:Value->Shared->Prop}(x:ExcAt h0 s.heap e c)(hc:c / 2=C)(F:bS K C)(X:K.In s.heap)(h:Q true s):wpAny (model aa w) A (excMatches (.ref e) (.ref C)) Q E s:=
 x _ λoe vs dx T oT ts o t=>sG F X o.at_ (hc▸o.cls) h
theorem B9{C:Prop}{o:Option Expr}(h:isNone o=true)(k_:∀k,∀p,o=some (.Constant .none k p)->C):C:=by
 refine bQ h λe e1 h=>?_;refine BA h λc k p e2 h=>?_;exact k_ k p (by rw[e1,e2,eq_of_beq h])
theorem AL {C:Prop}{sc:Scope}{c:Nat}{b:List bD}{s':Stmt} (hc:xg gt sc (.jE c b) s'=true) (k_:∀b',∀x,∀p1,∀p2,∀k,∀p3,∀p4,∀pos,s'=.Try b' [.ExceptHandler (some (.Name (aK x) p1)) none [.Return (some (.Constant .none k p2)) p3] p4] [] [] pos->
  sc.names.lookup (aK x)=some .globalImplicit->bG (aK x)=true->gt.lookup x=some (.top c)->fO gt sc b b'=true->C):C:=by
 refine J6 hc λb' hs BJ fin pos e1 h=>?_;refine BH (aR (aL h)) λty nm bd p4 e2 h2=>?_;refine bQ (az h2).2 λt e3 h3=>?_;refine fY h3 λid p1 e4 h4=>?_;refine eP h4 λst e5 h5=>?_;refine Ey h5 λf p3 e6 h6=>?_;refine B9 (aL (aL (aL h6))) λk p2 e7=>?_;refine sF (aR h6) λx e8 hx=>?_;have q6:=aR (aL h6);have q7:=aR (aL (aL h6));rw[e8]at q6 q7 e4;exact k_ b' x p1 p2 k p3 p4 pos (by rw[e1,e2,e3,e4,e5,e6,e7,bF (aL (aL (aL h))),bF (aR (aL (aL h))),mG (az h2).1]) (eq_of_beq q7) q6 hx (aR h)
theorem Jd{C:Prop}{e:aZ}{sp:Str}(h:EC e sp=true)(k_:∀x,e=.loc x->aK x=sp->C):C:=by
 cases e<;>first|exact k_ _ rfl (eq_of_beq h)|exact absurd h ff
structure Qz(gt:List (String×ae))(sc:Scope)(c:Nat)(g:String)(nm:Str)(x:String):Prop where
 gk:sc.names.lookup (aK g)=some .globalImplicit
 gp:bG (aK g)=true
 gg:gt.lookup g=some (.top c)
 xv:isVar sc (aK x)=true
 xp:bG (aK x)=true
 nl:sc.names.lookup nm=some .local
 np:bG nm=true
 ne:nm≠aK x
 ns:aK nm.toString=nm
theorem wh {C:Prop}{sc:Scope}{c:Nat}{b:List bD}{e:aZ}{s':Stmt} (hc:xg gt sc (.gU c b e) s'=true) (k_:∀b',∀g,∀nm,∀x,∀p1,∀p2,∀p3,∀p4,∀p5,∀p6,∀k,∀p7,∀p8,∀p9,∀pos,e=.loc x->
  s'=.Try b' [.ExceptHandler (some (.Name (aK g) p1)) (some nm) [.Raise (some (.Call (.Name (aK g) p2) [.Attribute (.Name nm p3) (aK "message") p4,.Name (aK x) p5] [] p6)) (some (.Constant .none k p7)) p8] p9] [] [] pos->
  Qz gt sc c g nm x->fO gt sc b b'=true->C):C:=by
 refine J6 hc λb' hs BJ fin pos e1 h=>?_;refine BH (aR (aL h)) λty Z3 bd p9 e2 h2=>?_;refine bQ h2 λt e3 h3=>?_;refine fY h3 λid p1 e4 h4=>?_;refine bQ h4 λnm e5 h5=>?_;refine eP h5 λst e6 h6=>?_;refine BC h6 λex ca p8 e7 h7=>?_;refine B9 (az h7).1 λk p7 e8=>?_;refine bQ (az h7).2 λX0 e9 h9=>?_;refine rU h9 λg fs kw p6 X4 R0=>?_;refine fY (az R0).2 λVy p2 X5 TR=>?_;refine px TR λf1 f2 X6 Qy=>?_;refine pz Qy λf0 msg p4 X7 X8=>?_;refine fY X8 λVz p3 X9 Yb=>?_;refine fY Yb λsp p5 V2 Ds=>?_;refine sF (aR (aL (aL (aL (aL (aL (aL (aL (aL (aL (aL Ds))))))))))) λy TS hy=>?_;refine Jd (aR (aL (aL (aL (aL (aL (aL Ds))))))) λx Yc hx=>?_;rw[<-hx]at V2;exact k_ b' y nm x p1 p2 p3 p4 p5 p6 k p7 p8 p9 pos Yc (by rw[e1,e2,e3,e4,e5,e6,e7,e8,e9,X4,X5,X6,X7,X9,V2,bF (aL (aL (aL h))),bF (aR (aL (aL h))),bF (az R0).1,eq_of_beq (aR (aL (aL (aL (aL (aL (aL (aL (aL (aL Ds)))))))))),eq_of_beq (aR (aL (aL (aL (aL (aL (aL (aL (aL Ds))))))))),eq_of_beq (aR (aL (aL (aL (aL (aL (aL (aL Ds)))))))),TS]) ⟨TS▸eq_of_beq (aL (aL (aL (aL (aL (aL (aL (aL (aL (aL (aL (aL Ds)))))))))))),TS▸(aR (aL (aL (aL (aL (aL (aL (aL (aL (aL (aL (aL Ds)))))))))))),hy,hx.symm▸(aR (aL (aL (aL (aL (aL Ds)))))),hx.symm▸(aR (aL (aL (aL (aL Ds))))),eq_of_beq (aR (aL (aL (aL Ds)))),(aR (aL (aL Ds))),λz=>absurd (beq_iff_eq.mpr (z.trans hx)) (by rw[mA (aR (aL Ds))];exact ff),eq_of_beq (aR Ds)⟩ (aR h)
theorem Dt{c:Nat}{b:List bD}(T:Text aa w hW gt P K)(B:Base aa w hW gt P K mg mb)(hX:∀c,P.jH.contains c=true->pH gt K aa w c)(h1:(dD aa w hW gt P F n) b):(du aa w hW gt P F n) (.jE c b):=by
 intro s' A ah env l s ρ H r Q E hc N he hq;refine AL hc λb' x p1 p2 k p3 p4 pos z1 c1 c2 hx c4=>?_;subst z1;refine wpAny_Try_except ?_;refine El he (λc' l' H₁ hex he=>?_) λhex hf=>?_
 ·refine fX he λV3 he=>?_
  replace he:=Option.some.inj he;subst he;refine h1 b' A ah env l s ρ H _ _ _ c4 N hex ?_;intro e bq h' t fg dH md ex;obtain⟨EF,_,_⟩:=hX c V3.2;refine N.lr.vy λL Fe Ff=>?_;have nb:=yx N.lr;refine eG (h0:=s.heap) (s:={ s with heap:=h',toks:=t }) N.cx.stack Fe Ff ⟨N.st.stays,N.st.bW,dH.live⟩ fg ex λbV bO bh Al _=>?_;have rq:=fy dH bh;refine dr (h0:=s.heap) (s:={ s with heap:=bV,toks:=t }) ⟨N.st.stays,N.st.bW,rq.live⟩ bO Al λdG iN dC Am _=>?_;have MX:=fy rq dC;have R1:=(md.step bh (λ_ m=>m) nb).step dC (λ_ m=>m) nb;refine wpAny_handleBy_cons (codeAny_handlers_test (lK (s:={ s with heap:=dG,toks:=t }) B iN.stays R1 hx c1 c2 ?_)) (by intro q;cases q);refine mT Am V3.1 EF (T.uD.keeps iN.stays) ?_;refine codeAny_handlers_suite (dr (h0:=s.heap) (s:={ s with heap:=dG,toks:=t }) ⟨N.st.stays,N.st.bW,MX.live⟩ iN Am λtL uI qp QA _=>?_);refine wpAny_execs_cons (wpAny_Return_some (λ_ _ _=>?_));exact hq .none bq tL t uI (fy MX qp) rfl
 ·clear he
  refine h1 b' A ah env l s ρ H r _ _ c4 N hex ?_;obtain⟨f,l',H₁⟩:=r;cases f with
  |next=>exact λbq h' t st sp lr=>wpAny_execs_nil (hq bq h' t st sp lr)
  |exc c'=>exact absurd hf.symm ff
  |_=>exact hq
theorem ExcAt.same{h0 h h':Heap}{e:Addr}{c:Nat}(x:ExcAt h0 h e c)(k:∀b o,h0.get? b=none->h.get? b=some o->h'.get? b=some o):ExcAt h0 h' e c:=x.map (λ_ z=>z) λb o n g _=>k b o n g
theorem wi{nm:Str}{a:ae}{v:Value}{Q:Unit->Shared->Prop}{E:Value->Shared->Prop}(Je:aK nm.toString=nm)(hk:env.scope.names.lookup nm=some .local)(st:St (af aa w) hW ah ρ H s.heap)(lr:bJ (af aa w) hW s.heap ρ H.next (bl ah) env l)(rv:bf (af aa w) hW s.heap ρ H.next a v)
  (hQ:∀h' t,St (af aa w) hW ah ρ H h'->Heap.SameBut env.locals s.heap h'->(∃m,h'.Ns env.locals m)->Step (Own env) (bl ah) ρ H.next s.heap ρ H.next h'->bJ (af aa w) hW h' ρ H.next (bl ah) env (bc nm.toString a l)->Q () { s with heap:=h',toks:=t }):wpAny (model aa w) A (storeName env nm v) Q E s:=by
 rw[<-Je]at hk;exact(congrArg (λz=>storeName env z v) Je)▸oy hk st lr rv λh' t fg hs ns sp md=>hQ h' t fg hs ns (sp _ (.inl rfl)) md
theorem Du{h:Heap}{e:Addr}{oe:Obj}{vs:Array Value}(st:St (af aa w) hW ah ρ H h)(he:h.get? e=some oe)(hd:oe.data=.fields vs):(∀n,n<H.next->ρ n≠e)∧e∉bl ah:=by
 refine⟨λn hn q=>?_,λm=>?_⟩
 ·refine st.wK n hn λob _ r=>?_
  refine r.there λoc g _ d=>?_;rw[q,he]at g;replace g:=Option.some.inj g;subst g;exact d _ hd
 ·refine FunFrames.fN st.bW m λ_ o g1 nf=>?_
  rw[he]at g1;replace g1:=Option.some.inj g1;subst g1;exact nf _ hd
theorem F1(c:Nat):(2*c+1) / 2=c:=by omega
theorem Jf(c:Nat):¬(2*c+1)%2=0:=by omega
theorem Dv{A':Around}{nm:Str}{pos:Pos}{e2:Addr}{c':Nat}{L:Addr}{h0:Heap}{Er E:Value->Shared->Prop}(rQ:A'.frames=some ah)(Fe:env.frame=some L)(Ff:(bl ah).head? = some L)(fm:tH hW ah h0 s.heap)(lk:env.scope.names.lookup nm=some .local)
  (nb:∀b,kO h0 b->¬Own env b) (st:St (af aa w) hW ah ρ H s.heap) (lr:bJ (af aa w) hW s.heap ρ H.next (bl ah) env l) (ex:qm h0 s.heap e2 c') (Je:aK nm.toString=nm)
  (hR:∀s',cameBackBy (model aa w) A env E (.ref e2) s'->Er (.ref e2) s')
  (hQ:∀h t,St (af aa w) hW ah ρ H h->Step (λb=>Own env b∨kO h0 b) (bl ah) ρ H.next s.heap ρ H.next h->bJ (af aa w) hW h ρ H.next (bl ah) env []->ExcAt h0 h e2 c'->E (.ref e2) { s with heap:=h,toks:=t }):
  wpAny (model aa w) A' (noteFrame (.ref e2) env) (λ_ QB=>wpAny (model aa w) A' (do bindName env nm .none;unbindBehindTheSuite env nm pos)
   (λ_ xO=>wpAny (model aa w) A' (PySem.passOn "try.except-as" (.ref e2) env:Sem Flow) (λ_ _=>False) (notedBy (model aa w) A' env Er) xO)
   (λy xO=>wpAny (model aa w) A' (setFlight (.ref e2) none) (λ_ TU=>(notedBy (model aa w) A' env Er) y TU) (notedBy (model aa w) A' env Er) xO) QB) (notedBy (model aa w) A' env Er) s:=by
 refine eG (h0:=h0) rQ Fe Ff fm st ex λh8 Yd V4 x8 _=>?_;have QC:=lr.step V4 (λ_ m=>m) nb;refine QC.kj λml Qd _=>?_;rw[<-Je]at lk ⊢;refine wpAny_nameGoes (s:={ s with heap:=h8 }) lk Qd (xI (aa:=aa) (w:=w) (hW:=hW) (ah:=ah) (s:={ s with heap:=h8 }) (H:=H) QC) λh9 Z4 V5 R2=>?_;refine RG Qd λol Z5 Z6 gl dl _ _=>?_;refine RG V5 λZ7 Ye Yg V6 Yh _ _=>?_;have V7:¬bA ol:=k8 dl;have Tg:St (af aa w) hW ah ρ H h9:=Yd.mY QC.kM.1 QC.kM.2 R2 gl V7 V6 (k9 Yh);have PV:Step (λb=>Own env b∨kO h0 b) (bl ah) ρ H.next s.heap ρ H.next h9:=(V4.weaken λ_ z=>.inr z).trans (.mY (.inl (.inl rfl)) R2 gl V7 V6);have x9:ExcAt h0 h9 e2 c':=x8.same λb o hb q=>(R2.2 b λz=>nb b hb (.inl z)).trans q;refine ot (h0:=h0) (s:={ s with heap:=h9,toks:=s.toks+1 }) ⟨fm.stays,fm.bW,λb z=>fm.live b (PV.live b z)⟩ Tg x9 λR0 TV QD Yi _=>?_;have KY:=PV.trans (QD.weaken λ_ z=>.inr z);refine eG (h0:=h0) (s:={ s with heap:=R0,toks:=s.toks+1 }) rQ Fe Ff ⟨fm.stays,fm.bW,λb z=>fm.live b (KY.live b z)⟩ TV (.inr Yi) λTR TX QE Yj _=>hR _ ?_;have KZ:=KY.trans (QE.weaken λ_ z=>.inr z);refine kZ (h0:=h0) (s:={ s with heap:=TR,toks:=s.toks+1 }) ⟨fm.stays,fm.bW,λb z=>fm.live b (KZ.live b z)⟩ TX Yj λQy TY QF Yk _=>?_;exact hQ Qy _ TY (KZ.trans (QF.weaken λ_ z=>.inr z)) ((((QC.bare R2 V5).step QD (λ_ m=>m) nb).step QE (λ_ m=>m) nb).step QF (λ_ m=>m) nb) Yk
theorem AM{c:Nat}{g x:String}{nm:Str}{e:Addr}{h0:Heap}{Q:Flow->Shared->Prop}{E:Value->Shared->Prop}{p2 p3 p4 p5 p6 p7 p8:Pos}{k:Nat}(T:Text aa w hW gt P K)(B:Base aa w hW gt P K mg mb)(X:pH gt K aa w c)(C:Cx A ah n)(W:Qz gt env.scope c g nm x)
  (st:St (af aa w) hW ah ρ H s.heap) (lr:bJ (af aa w) hW s.heap ρ H.next (bl ah) env l) (he:aJ nm.toString l=some (.top e)) {v2:ae} (hx:aJ x l=some v2) (x4:ExcAt h0 s.heap e (2*c)) (live:∀b,s.heap.get? b=none->h0.get? b=none) (stays:hW.StaysIn h0)
  (hE:∀e2 h' t,St (af aa w) hW ah ρ H h'->Step (kO h0) (bl ah) ρ H.next s.heap ρ H.next h'->mZ h0 h' e2 (2*c+1)->E (.ref e2) { s with heap:=h',toks:=t }):
  wpAny (model aa w) (A.mark (some (.ref e))) (PySem.exec (.Raise (some (.Call (.Name (aK g) p2) [.Attribute (.Name nm p3) (aK "message") p4,.Name (aK x) p5] [] p6)) (some (.Constant .none k p7)) p8) env) Q E s:=by
 refine gl λCC kk=>?_;obtain⟨EF,FY,fI,fd,body,IF⟩:=X;refine x4 _ λV8 Yl Z8 T4 Z9 ts4 o4 t4=>?_;obtain⟨es4,i4,k4,TZ,k6,k7⟩:=o4.dat;refine kk ?_;have hA:(A.mark (some (.ref e))).handled=some (.ref e):=rfl;rw[arm_exec_Raise];refine wpAny_bind (wpAny_standAt ?_);refine AK (C:=c) (e0:=e) EF hA (λs' Q' E' z=>wpAny_bind (wpAny_pure (wpAny_bind (wpAny_standAt (wpAny_pure z))))) (wpAny_bind ?_);refine Call_ ?_ (ma rfl);refine lK B st.stays lr W.gg W.gk W.gp ?_;refine ck (gt:=gt) (sc:=env.scope) (es:=[.dead,.dead]) (Pr:=λh=>hW.StaysIn h) rfl (λh hs=>keeps_K FY h (T.uD.keeps hs)) ?_;rw[cj (by rfl),dk,cj (by rfl),dk,<-W.ns];refine Calls.spliced_cons (Attribute_any_ (oD lr he (by unfold isVar;rw[W.ns,W.nl]) (by rw[W.ns];exact W.np) ?_) (uE (o:=.Name (aK nm.toString) p3) rfl));refine Jc EF (T.uD.keeps st.stays) o4.at_ (half o4.cls) (by unfold notCls;rw[o4.data]) o4.lY k4 k6 k7 ?_;refine Calls.spliced_cons (lx (s:={ s with toks:=s.toks+1 }) (v:=v2) lr hx W.xv W.xp λu2 Ym=>Calls.spliced_nil ⟨st.stays,?_⟩);refine yu (s:={ s with toks:=s.toks+1 }) (as:=[.bi TZ,v2]) (xs:=[TZ,u2]) EF IF B.names T.lim T.uD C.stack (KW C.depth) st ⟨rfl,Ym,trivial⟩ ⟨Nat.le_of_ble_eq_true rfl,Nat.le_of_ble_eq_true rfl⟩ (λm hm h ρ N u hu=>?_) λe2 h6 t6 R3 QG T1 T2=>?_
 ·replace hm:=Option.some.inj hm;subst hm
  obtain rfl:u=TZ:=hu;exact k7
 refine wpAny_bind (wpAny_standAt (wpAny_pure ?_));have ce:=Du st o4.at_ o4.data;refine T1 _ λYn Yo T3 o6 m9=>?_;have q3:=T2.six o6.at_ o6.data;have ne:e≠e2:=λq=>nn (o6.new.symm.trans (q▸o4.at_));have n0:h0.get? e2=none:=live e2 o6.new;have V9:hW.get? e2=none:=iS stays n0;refine λ_ q=>q e2 Yn Yo V8 Yl rfl (λh' hs b o q=>?_) o6.at_ (half o6.cls) o6.data q3 m9 (QG.keep e V8 o4.at_ ce.1 (λz=>z) ce.2) o4.data (o4.ctx (Nat.mul_mod_right 2 c)) ne λh' mH us hs g3 gc gd gf g1=>?_
 ·have:=T.uD _ _ q
  exact(hs.2 b λz=>by rw[z,V9]at this;cases this).trans (R3.stays _ _ this)
 have j:tu hW (bl ah) (λb=>b=e2) h6 h':=.one (λb o z q=>(hs.2 b z).trans q) o6.at_ (fG o6.cls) o6.data g3 V9;refine hE e2 h' t6 (j.st R3) ((QG.weaken λ_ f=>f.elim).trans (j.step λb (z:b=e2)=>z▸n0)) λ_ q=>q mH us T3 ⟨n0,g3,by rw[gc,o6.cls,Nat.mul_div_cancel_left _ (by decide),F1],gd.trans o6.lY,live T3 o6.ED,?_,gf,λz=>absurd z (Jf c)⟩ g1;exact o6.dat.imp λes z=>z.imp λi z=>⟨(hs.2 T3 (o6.RJ o6.at_ o6.data)).trans z.1,z.2⟩
theorem yy{c:Nat}{b:List bD}{e2:aZ}(T:Text aa w hW gt P K)(B:Base aa w hW gt P K mg mb)(hX:∀c,P.jH.contains c=true->pH gt K aa w c)(h1:(dD aa w hW gt P F n) b):(du aa w hW gt P F n) (.gU c b e2):=by
 intro s' A ah env l s ρ H r Q E hc N he hq;refine wh hc λb' g nm x p1 p2 p3 p4 p5 p6 k p7 p8 p9 pos z1 z2 W c4=>?_;clear hc;subst z1;subst z2;refine wpAny_Try_except ?_;refine El he (λc' l' H₁ hex he=>?_) λhex hf=>?_
 ·refine fX he λz1 he=>?_
  refine dw z1 ?_;clear z1;intro QH Yp Yq;replace he:=Option.some.inj he;subst he;have Ec:c' / 2=c:=by rw[QH,Nat.mul_div_cancel_left _ (by decide)]
  obtain⟨v2,Yr⟩:∃v2,aJ x l'=some v2:=Option.isSome_iff_exists.mp Yq;refine h1 b' A ah env l s ρ H _ _ _ c4 N hex ?_;intro e bq h' t fg dH md ex;have XA:=hX c Yp;refine N.lr.vy λL Fe Ff=>?_;have nb:=yx N.lr;refine eG (h0:=s.heap) (s:={ s with heap:=h',toks:=t }) N.cx.stack Fe Ff ⟨N.st.stays,N.st.bW,dH.live⟩ fg ex λbV bO bh Al _=>?_;have rq:=fy dH bh;refine dr (h0:=s.heap) (s:={ s with heap:=bV,toks:=t }) ⟨N.st.stays,N.st.bW,rq.live⟩ bO Al λdG iN dC Am _=>?_;have MX:=fy rq dC;have R1:=(md.step bh (λ_ m=>m) nb).step dC (λ_ m=>m) nb;refine wpAny_handleBy_cons (codeAny_handlers_test (lK (s:={ s with heap:=dG,toks:=t }) B iN.stays R1 W.gg W.gk W.gp ?_)) (by intro q;cases q);refine mT Am Ec XA.facts (T.uD.keeps iN.stays) ?_;refine codeAny_handlers_suite_as (dr (h0:=s.heap) (s:={ s with heap:=dG,toks:=t }) ⟨N.st.stays,N.st.bW,MX.live⟩ iN Am λtL uI qp QA _=>?_);have Ys:=fy MX qp;have Yt:=R1.step qp (λ_ m=>m) nb;refine wi (s:={ s with heap:=tL,toks:=t }) (a:=.top e) W.ns W.nl uI Yt rfl λQI T5 xP QJ Wa xQ K1=>?_;have Kx:=Ys.trans xQ;have x5:ExcAt s.heap QI e (2*c):=QH▸QA.same λb o hb q=>(QJ.2 b λz=>nb b hb (.inl z)).trans q;refine wpAny_execs_cons (AM (s:={ s with heap:=QI,toks:=T5 }) (h0:=s.heap) T B XA N.cx W xP K1 (by rw[cY,if_pos rfl]) (by rw[cY,if_neg λq=>W.ne (by rw[q,W.ns])];exact Yr) x5 Kx.live N.st.stays λe2 h6 t6 R3 QG T1=>?_);have QK:=fy Kx QG;refine Dv (A:=A) (A':=A.mark (some (.ref e))) (s:={ s with heap:=h6,toks:=t6 }) (h0:=s.heap) (E:=E) N.cx.stack Fe Ff ⟨N.st.stays,N.st.bW,QK.live⟩ W.nl nb R3 (K1.step QG (λ_ m=>m) nb) (.inl T1) W.ns (λ_ z=>z) λh t st sp lr x=>?_;exact hq e2 bq h t st (sI QK sp) lr (.inr x)
 ·clear he
  refine h1 b' A ah env l s ρ H r _ _ c4 N hex ?_;obtain⟨f,l',H₁⟩:=r;cases f with
  |next=>exact λbq h' t st sp lr=>wpAny_execs_nil (hq bq h' t st sp lr)
  |exc c'=>exact absurd hf.symm ff
  |_=>exact hq
end
section
variable{aa:Program}{w:World}{hW:Heap}{gt:List (String×ae)}{P:cW}{F:dQ}{n:Nat}{K:Frag}{mg mb:Str->Option Value}
structure uV(aa:Program)(w:World)(hW:Heap)(gt:List (String×ae))(P:cW)(K:Frag)(mg mb:Str->Option Value):Prop where
 base:Base aa w hW gt P K mg mb
 text:Text aa w hW gt P K
 jH:∀c,P.jH.contains c=true->pH gt K aa w c
 keep:∀C,(P.cls C).isSome=true->keepIn K (.ref C)=true
mutual
theorem Jg(W:uV aa w hW gt P K mg mb)(SF:jR aa w hW F n)(KF:Keeps K F):∀st:bD,(du aa w hW gt P F n) st
 | .expr e=>ID (aY W.base SF KF e).1
 | .asg x e=>Mn (aY W.base SF KF e).1 (λelt xs single it h=>⟨(aY W.base SF KF it).1,(aY W.base SF KF elt).1⟩) W.base.sys
 | .pn xs e=>IQ (aY W.base SF KF e).1
 | .fj xs es=>Fp (gN λe he=>(fJ W.base SF KF es e he).1)
 | .cV o a e=>IG W.base.classes (aY W.base SF KF e).1 (aY W.base SF KF o).1
 | .gS o i e=>IH (aY W.base SF KF e).1 (aY W.base SF KF o).1 (aY W.base SF KF i).1
 | .iff c a b=>Mp (aY W.base SF KF c).2 (eW W SF KF a) (eW W SF KF b)
 | .tx c b=>Fo (aY W.base SF KF c).2 (eW W SF KF b)
 | .tA x it b=>IM (aY W.base SF KF it).1 (eW W SF KF b)
 | .wV xs it b=>IP (aY W.base SF KF it).1 (eW W SF KF b)
 | .ret e=>Mo (aY W.base SF KF e).1
 | .zB=>II
 | .raise c es=>FX W.text W.base W.jH (gN λe he=>(fJ W.base SF KF es e he).1)
 | .jE c b=>Dt W.text W.base W.jH (eW W SF KF b)
 | .gU c b e=>yy W.text W.base W.jH (eW W SF KF b)
 | .cont=>IJ
 | .dead=>IK
theorem eW(W:uV aa w hW gt P K mg mb)(SF:jR aa w hW F n)(KF:Keeps K F):∀ss:List bD,(dD aa w hW gt P F n) ss
 |[]=>IL
 |s::ss=>Fn (Jg W SF KF s) (eW W SF KF ss)
end
theorem Dw(W:uV aa w hW gt P K mg mb)(n:Nat):Keeps K (run P n):=by
 cases n with
 |zero=>exact λf as H r h=>absurd h nn
 |succ n=>
  intro f as H r h;refine rP h (λfi hf _=>?_) λ_ h=>?_
  ·exact W.base.classes.fn f (by rw[hf];rfl)
  ·refine ed h λci hc _=>?_
   exact W.keep f (by rw[hc];rfl)
theorem Dx(W:uV aa w hW gt P K mg mb)(n:Nat)(hn:n<=90):mf aa w hW (run P n) n:=by
 induction n with
 |zero=>exact λf as H r A ah s ρ xs Q E he=>absurd he nn
 |succ n ih=>
  have h:=ih (Nat.le_of_succ_le hn);exact Fw W.text hn (eW W h.toF (Dw W n)) h
end
theorem Ca{C:Prop}{K:Frag}{p:Nat}{k:Obj->Bool}(h:kObj K p k=true)(k_:∀o,K.lookup p=some o->k o=true->C):C:=bQ h k_
theorem ew{α β:Type}[BEq α][LawfulBEq α]{x:α}{v:β}{l:List (α×β)}(h:l.lookup x=some v):(x,v)∈l:=by
 induction l with
 |nil=>exact absurd h nn
 |cons p l ih=>
  rw[List.lookup_cons]at h;cases z:x==p.1 with
  |true=>rw[z]at h;rw[eq_of_beq z,<-Option.some.inj h];exact .head _
  |false=>rw[z]at h;exact .tail _ (ih h)
section
variable{aa:Program}{w:World}{K:Frag}{hW h:Heap}{mg mb:Str->Option Value}{ρ:Nat->Addr}{N:Nat}
theorem F2{k:String}{e:DictEntry}(h:keyOk k e=true):(af aa w).is (some (aK k)) e.key=true:=by
 refine KP h λc t e1 h1=>?_;rw[e1,<-eq_of_beq h1];exact beq_self_eq_true (aK k)
theorem Jh{ks:List String}:∀{es:List DictEntry},keysOk ks es=true->Pairs (af aa w) es ((ks.map λk=>some (aK k)).zip (es.map (·.val)))∧es.length=ks.length∧
  (es.map (·.hash)=(ks.map λk=>pA w (some (aK k)))->∀e,e∈es->∃k,(af aa w).is k e.key=true∧e.hash=(af aa w).hash k):=by
 induction ks with
 |nil=>
  intro es h;obtain rfl:=bF h;exact⟨.nil,rfl,λ_ e he=>nomatch he⟩
 |cons k ks ih=>
  intro es h;cases es with
  |nil=>exact absurd h ff
  |cons x es=>
   refine dw (ih (az h).2) λi1 i2 i3=>?_;refine⟨.cons (F2 (az h).1) rfl i1,congrArg (· + 1) i2,λhh e he=>?_⟩;injection hh with h1 h2
   cases he with
   |head=>exact⟨_,F2 (az h).1,h1⟩
   |tail _ he=>exact i3 h2 e he
mutual
theorem uW(X:K.In h)(a:ae){v:Value}(hd:sD a=[])(e:B8 K a v=true):bf (af aa w) hW h ρ N a v:=by
 cases a with
 |none=>exact FI e
 |bool b=>exact MP e λc e1 h1=>by rw[e1,<-eq_of_beq h1];rfl
 |int i=>exact Qr e λc t e1 h1=>⟨t,by rw[e1,<-eq_of_beq h1]⟩
 |str x=>exact KP e λc t e1 h1=>⟨t,by rw[e1,<-eq_of_beq h1]⟩
 |top a=>exact FK e λc e1 h1=>by rw[e1,<-eq_of_beq h1];rfl
 |tup vs=>
  refine FK e λp e1 h1=>?_;refine Ca h1 λo hl h2=>?_;refine KQ (az h2).2 λxs n e3 h3=>?_;exact⟨p,xs.toList,e1,⟨o,n,X _ _ hl,uN (az h2).1,by rw[e3]⟩,jZ X vs hd h3⟩
 |cp ks vs=>exact nomatch hd
 |_=>exact absurd e ff
theorem jZ(X:K.In h)(as:List ae){vs:List Value}(hd:fw as=[])(e:valsOk K as vs=true):aP (af aa w) hW h ρ N as vs:=by
 cases as with
 |nil=>obtain rfl:=bF e;trivial
 |cons a as=>cases vs with
  |nil=>exact absurd e ff
  |cons v vs=>exact⟨uW X a (List.append_eq_nil_iff.mp hd).1 (az e).1,jZ X as (List.append_eq_nil_iff.mp hd).2 (az e).2⟩
end
theorem yz(X:K.In h){ks:List String}{vs:List ae}{p:Nat}(hd:fw vs=[])(hs:v8 K p=ks.map λk=>pA w (some (aK k)))(e:B8 K (.cp ks vs) (.ref p)=true):bf (af aa w) h h ρ 0 (.cp ks vs) (.ref p):=by
 have e':(p != sysModules&&kObj K p λo=>yj "dict" o.cls&&qO o.dict&&o.slots.toList.isEmpty&&FL o.data λes=>keysOk ks es.toList&&valsOk K vs (es.toList.map (·.val))&&decide (ks.map λk=>some (aK k)).Nodup)=true:=e;refine Ca (az e').2 λo hl h2=>?_;refine MS (az h2).2 λes n e3 h3=>?_;refine dw (Jh (aa:=aa) (w:=w) (aL (aL h3))) λpr len hk=>?_;have hh:v8 K p=es.toList.map (·.hash):=by unfold v8;rw[hl];dsimp only;rw[e3]
 have e4:((ks.map λk=>some (aK k)).zip (es.toList.map (·.val))).map (·.1)=ks.map λk=>some (aK k):=List.map_fst_zip (by rw[List.length_map,List.length_map,len];exact Nat.le_refl _);have e5:((ks.map λk=>some (aK k)).zip (es.toList.map (·.val))).map (·.2)=es.toList.map (·.val):=List.map_snd_zip (by rw[List.length_map,List.length_map,len];exact Nat.le_refl _);exact⟨p,rfl,bne_iff_ne.mp (az e').1,_,⟨o,es,n,X _ _ hl,⟨uN (aL (aL ((az h2).1))),mG (aR (aL ((az h2).1))),Array.toList_eq_nil_iff.mp (List.isEmpty_iff.mp (aR ((az h2).1)))⟩,e3,λe he=>hk (hh▸hs) e (Array.mem_toList_iff.mpr he),pr,by rw[e4];exact of_decide_eq_true (aR h3)⟩,e4,by rw[e5];exact jZ X vs hd (aR (aL h3))⟩
theorem Ji{n:Str}(X:K.In h)(G:h.Ns mainGlobals mg)(e:nsIn K mainGlobals n=some none):mg n=none:=by
 refine Ei G ?_;clear G;intro o es ep ho hd _ hf;unfold nsIn at e;cases hl:K.lookup mainGlobals with
 |none=>rw[hl]at e;exact absurd e nn
 |some ob=>
  cases(X _ _ hl).symm.trans ho;obtain⟨c,d,dt,sl⟩:=o;replace hd:dt=_:=hd;rw[hl,hd]at e;dsimp only at e;rw[<-hf];unfold nsFind findBy;rw[<-Array.find?_toList];cases q:es.toList.find? (λx=>x.key.isStr n)with
  |none=>rfl
  |some x=>rw[q]at e;cases e
noncomputable def T6(p:String×ae):Bool:=isNil (sD p.2) || EA p.2 λks vs=>isNil (fw vs)&&dictAt.any λq=>q.1==p.1&&q.2.2==ks
theorem QM:sC.all T6=true:=by decide +kernel
theorem F3(X:K.In hW)(G:hW.Ns mainGlobals mg)(B:hW.Ns builtinsNs mb)(hb:∀x:Str,x ≠ "__name__" -> mb x=bootBuiltins x)(h1:sC.all (AE K)=true)(hp:placesOk K=true)(hh:hashesOf K=wa w):rX (af aa w) sC hW mg mb where
 g:=G
 b:=B
 glob x v hx:=by
  have hm:(x,v)∈sC:=ew hx;refine MU (List.all_eq_true.mp h1 _ hm) (λu hu ok=>?_) λhu ok=>?_
  ·refine .inl ⟨u,mg_of X G hu,λρ=>?_⟩
   refine dZ (Bool.or_eq_true_iff.mp (List.all_eq_true.mp QM _ hm)) (λrow=>?_) λrow=>?_
   ·exact uW X v (bF row) ok
   ·refine EB row λks vs e1 row=>?_
    refine aI (List.any_eq_true.mp (az row).2) λq hq h2=>?_;replace e1:v=.cp ks vs:=e1;have Iy:=eq_of_beq (List.all_eq_true.mp hp q hq);rw[eq_of_beq (az h2).1,hu]at Iy;have Iy:=Option.some.inj (Option.some.inj Iy);have Wb:=List.map_inj_left.mp hh q hq;rw[eq_of_beq (az h2).2]at Wb;rw[e1,Iy]at ok ⊢;exact yz X (bF (az row).1) Wb ok
  ·refine OK ok λu e1 h2=>?_
   exact .inr ⟨Ji X G hu,u,e1,(hb _ λz=>absurd (beq_iff_eq.mpr z) (by rw[mA (az h2).2];exact ff)).trans (eq_of_beq (az h2).1)⟩
end
theorem tab_of{α:Type}{l:List α}{n:Nat}(v:α)(h:l.length=n):l=(List.range n).map λi=>(l[i]?).getD v:=
 List.ext_getElem (by rw[List.length_map,List.length_range,h]) λi a _=>by rw[List.getElem_map,List.getElem_range,List.getElem?_eq_getElem a];rfl
theorem MY{C:Prop}{α:Type}{l:List α}{v:α}(h:l.length=6)(e:l[4]? = some v)(k_:∀a,∀b,∀c,∀d,∀f,l=[a,b,c,d,v,f]->C):C:=
 have q:l=[(l[0]?).getD v,(l[1]?).getD v,(l[2]?).getD v,(l[3]?).getD v,(l[4]?).getD v,(l[5]?).getD v]:=tab_of v h
 k_ _ _ _ _ _ (e▸q)
section
variable{aa:Program}{w:World}{K:Frag}{hW h:Heap}{mg mb:Str->Option Value}
theorem Dy{f:Nat}{fd:FuncData}{body:List Stmt}(h:bodyOf K f=some (fd,body)):(∃c d sl,K.lookup f=some ⟨c,d,.func fd,sl⟩)∧fd.body=.stmts body:=by
 unfold bodyOf at h;cases hl:K.lookup f with
 |none=>rw[hl]at h;exact absurd h nn
 |some o=>
  rw[hl]at h;obtain⟨c,d,dt,sl⟩:=o;refine MT h λe k=>?_;exact⟨⟨c,d,sl,by rw[<-e]⟩,k⟩
theorem Jj:mh.all Qw=true:=by decide +kernel
theorem F4:uT.all (λp=>(mh.lookup p.1).isSome&&p.1 != 36)=true:=by decide +kernel
theorem AN{dv:Value}{ds:List ae}(h:dfltOk K dv ds=true):(dv=.none∧ds=[])∨∃t c d items n sl,dv=.ref t∧K.lookup t=some ⟨c,d,.seq items n,sl⟩∧∀hW h ρ N,aP (af aa w) hW h ρ N ds items.toList:=by
 refine dZ (Bool.or_eq_true_iff.mp h) (λh=>?_) λh=>?_
 ·exact .inl ⟨FI (az h).1,bF (az h).2⟩
 ·refine FK h λt e1 h1=>?_
  refine Ca h1 λo hl h2=>?_;refine KQ h2 λitems n e2 h3=>?_;obtain⟨c,d,dt,sl⟩:=o;replace e2:dt=_:=e2;exact .inr ⟨t,c,d,items,n,sl,e1,by rw[hl,e2],λhW h ρ N=>jZ (K:=[]) (λ_ _ z=>absurd z nn) ds (bF (az h3).1) (az h3).2⟩
theorem yA{f ln:Nat}{fi:jr}(hd:defsOf K=lH)(hm:(f,ln)∈mh)(N1:yq f=some fi)(h:AF K f fi=true):∃fd body,defAt ln=some (fd.params,fd.scope,body)∧ru sC K aa w f fi fd body:=by
 refine bQ h λz1 hb h=>?_;obtain⟨fd,body⟩:=z1;refine bk (Dy hb) λhl TO=>?_;have hq:=List.map_inj_left.mp hd (f,ln) hm;replace hq:(bodyOf K f).map (λq=>(q.1.params,q.1.scope,q.2))=defAt ln:=hq;rw[hb]at hq;replace hq:some (fd.params,fd.scope,body)=defAt ln:=hq;refine bQ (List.all_eq_true.mp Jj (f,ln) hm) λd e1 hs=>?_;refine bQ hs λYu e2 hs=>?_;obtain rfl:Yu=fi:=Option.some.inj (e2.symm.trans N1);obtain rfl:d=(fd.params,fd.scope,body):=Option.some.inj (e1.symm.trans hq.symm);exact⟨fd,body,hq.symm,{
  look:=hl
  co:=mA (aL (aL (aL (aL (aL (aL (aL (aL (aL (aL (aL hs)))))))))))
  gen:=mA (aR (aL (aL (aL (aL (aL (aL (aL (aL (aL (aL hs)))))))))))
  kind:=eq_of_beq (aR (aL (aL (aL (aL (aL (aL (aL (aL (aL hs))))))))))
  Fu:=TO
  VQ:=(aR (aL (aL (aL (aL (aL (aL (aL (aL hs)))))))))
  code:=(aL (aL (aL (aL h))))
  VR:=bF (aR (aL (aL (aL h))))
  glob:=eq_of_beq (aR (aL (aL h)))
  blt:=eq_of_beq (aR (aL h))
  plain:=⟨bF (aR (aL (aL (aL (aL (aL (aL (aL hs)))))))),eq_of_beq (aR (aL (aL (aL (aL (aL (aL hs))))))),bF (aR (aL (aL (aL (aL (aL hs)))))),(aR (aL (aL (aL (aL hs))))),(aR (aL (aL (aL hs))))⟩
  nodup:=of_decide_eq_true (aL (aL (aR hs)))
  kinds:=λx hx=>(Bool.or_eq_true_iff.mp (List.all_eq_true.mp (aR (aL (aL hs))) x hx)).imp eq_of_beq eq_of_beq
  Ap:=λp hp=>bne_iff_ne.mp (List.all_eq_true.mp (aR (aL hs)) p hp)
  Mw:=of_decide_eq_true (aR (aL (aR hs)))
  P9:=of_decide_eq_true (aR (aR hs))
  dflt:=AN (aR h) }⟩
noncomputable def MZ:Bool:=cq (defAt 7) λd=>so d.2.2&&d.2.1.names.lookup (aK "Exception")==some .globalImplicit
theorem Jk:MZ=true:=by decide +kernel
theorem Jl{C:Nat}{o:Obj}(h:FT C o=true):∃x:XP,o=x.cls C∧fK x.bm=true:=by
 obtain⟨cls,dd,dt,sl⟩:=o;refine Qt (az h).2 λcd e1 h1=>?_;obtain⟨nm,bs,mro,ns,qn,hd,sn,sub,ab,col,del⟩:=cd;cases mro with
 |nil=>exact absurd (aL (aL h1)) ff
 |cons c bm=>
  obtain⟨l⟩:=sl;refine bQ (aR (aR ((az h).1))) λv e3 h3=>?_;refine bQ h3 λu e4 h4=>?_;refine MY (Nat.eq_of_beq_eq_true (aL (aR ((az h).1)))) e3 λk0 Yv Yw Yx Yy e5=>?_;replace e1:dt=_:=e1;replace e5:l=_:=e5;refine⟨⟨nm,qn,ns,bs,bm,hd,sn,sub,col,dd,k0,Yv,Yw,Yx,Yy⟩,?_,(aR (aL (aL h1)))⟩;rw[e1,e5,e4,eq_of_beq h4,show cls=.type "type" from uN (aL ((az h).1)),show c=.ref C from eq_of_beq (aL (aL (aL h1))),show ab=false from mA (aR h1),show del=false from mA (aR (aL h1))]
theorem Cb{C g:Nat}(h:wb K C g=true):findIn K (.ref C) "__init__" = some (some (.ref g))∧typeIn K (.ref g)=some (.type "function"):=⟨eq_of_beq (az h).1,eq_of_beq (az h).2⟩
theorem Dz{C:Nat}(hd:defsOf K=lH)(h:FU K C=true)(hi:AF K 36 wc=true):pH sC K aa w C:=by
 refine Ca (aL (aL (aL (aL (aL (aL (aL (aL (aL (aL (aL h))))))))))) λo hl ho=>?_;refine aI (Jl ho) λx ex hx=>?_;refine aO (yA (aa:=aa) (w:=w) hd (ln:=7) (.head _) (by unfold yq;rw[if_pos rfl]) hi) λfd body hb fn=>?_;refine bQ Jk λd e1 OB=>?_;obtain rfl:d=(fd.params,fd.scope,body):=Option.some.inj (e1.symm.trans hb);have i:=Cb (aR h);exact⟨{ obj:=⟨x,ex▸hl,hx⟩,call:=eq_of_beq (aR (aL (aL (aL (aL (aL (aL (aL (aL (aL (aL h))))))))))),typ:=eq_of_beq (aR (aL (aL (aL (aL (aL (aL (aL (aL (aL h)))))))))),set:=eq_of_beq (aR (aL (aL (aL (aL (aL (aL (aL (aL h))))))))),dict:=(aR (aL (aL (aL (aL (aL (aL (aL h)))))))),fld:=⟨eq_of_beq (aR (aL (aL (aL (aL (aL (aL h))))))),eq_of_beq (aR (aL (aL (aL (aL (aL h))))))⟩,get:=eq_of_beq (aR (aL (aL (aL (aL h))))),MM:=eq_of_beq (aR (aL (aL (aL h)))),hook:=eq_of_beq (aR (aL (aL h))) },(aR (aL h)),36,fd,body,
  { fn:=fn,shape:=(az OB).1,found:=i.1,isFn:=i.2,VW:=eq_of_beq (az OB).2,gt:=by kernel_rfl }⟩
structure yB(K:Frag)(C:Nat)(ci:eJ):Prop where
 get:findIn K (.ref C) "__getattribute__" = some (some (.builtin "object.__getattribute__"))∧findIn K (.ref C) "__getattr__" = some none
 dict:hasDictIn K C=true
 T7:(ci.fields.all λa=>findIn K (.ref C) (aK a)==some none)=true
 M0:(ci.meths.all λp=>findIn K (.ref C) (aK p.1)==some (some (.ref p.2))&&isFn K (.ref p.2)&&!copiedNames.contains (aK p.1))=true
 set:findIn K (.ref C) "__setattr__" = some (some (.builtin "object.__setattr__"))∧plainOver K C=true
 makes:makesIn K C=true
 keep:keepIn K (.ref C)=true
 init:cq ci.init (wb K C)=true
theorem DA{C:Nat}{ci:eJ}(h:FQ K C ci=true):yB K C ci:=by
 exact⟨⟨eq_of_beq (aL (aL (aL (aL (aL (aL (aL (aL (aL h))))))))),eq_of_beq (aR (aL (aL (aL (aL (aL (aL (aL (aL h)))))))))⟩,(aR (aL (aL (aL (aL (aL (aL (aL h)))))))),(aR (aL (aL (aL (aL (aL (aL h))))))),(aR (aL (aL (aL (aL (aL h)))))),⟨eq_of_beq (aR (aL (aL (aL (aL h))))),(aR (aL (aL (aL h))))⟩,(aR (aL (aL h))),(aR (aL h)),(aR h)⟩
theorem F5(C:Nat):au.cls C=v5.lookup C:=by unfold au;rfl
theorem F6(f:Nat):au.fns f=uT.lookup f:=by unfold au;rfl
structure F7(K:Frag):Prop where
 Wc:KV K=true
 places:placesOk K=true
 QN:sC.all (AE K)=true
 fns:uT.all (λp=>AF K p.1 p.2&&keepIn K (.ref p.1))=true
 cls:v5.all (λp=>FQ K p.1 p.2)=true
 exc:[52,64].all (FU K)=true
 init:AF K 36 wc=true
theorem F8(h:sE K=true):F7 K:=by
 unfold sE at h;exact⟨(aL (aL (aL (aL (aL (aL h)))))),(aR (aL (aL (aL (aL (aL h)))))),(aR (aL (aL (aL (aL h))))),(aR (aL (aL (aL h)))),(aR (aL (aL h))),(aR (aL h)),(aR h)⟩
theorem K2(k:F7 K){f:Nat}{fi:jr}(hf:au.fns f=some fi):AF K f fi=true∧keepIn K (.ref f)=true∧∃ln,(f,ln)∈mh∧yq f=some fi:=by
 rw[F6]at hf;refine aV (Option.isSome_iff_exists.mp (aL (List.all_eq_true.mp F4 _ (ew hf)))) λln Yz=>?_;exact⟨(aL (List.all_eq_true.mp k.fns _ (ew hf))),(aR (List.all_eq_true.mp k.fns _ (ew hf))),ln,ew Yz,by unfold yq;rw[if_neg (bne_iff_ne.mp (aR (List.all_eq_true.mp F4 _ (ew hf))))];exact hf⟩
theorem j4(k:F7 K){C:Nat}{ci:eJ}(hc:au.cls C=some ci):yB K C ci:=by
 rw[F5]at hc;exact DA (List.all_eq_true.mp k.cls (C,ci) (ew hc))
theorem F9{c:Nat}(h:au.jH.contains c=true):c∈[52,64]:=by
 have e:au.jH=[52,64]:=by kernel_rfl
 rw[e]at h;exact List.contains_iff_mem.mp h
theorem Gb(X:K.In hW)(G:hW.Ns mainGlobals mg)(B:hW.Ns builtinsNs mb)(hb:∀x:Str,x ≠ "__name__" -> mb x=bootBuiltins x)(lim:hW.NoLimit)(hk:sE K=true)(hh:hashesOf K=wa w)(hd:defsOf K=lH):uV aa w hW sC au K mg mb:=by
 have k:=F8 hk;have sy:(hW.get? sysModules).isSome=true:=by
  refine aV (Option.isSome_iff_exists.mp (az k.Wc).2) λo ho=>?_;rw[X _ _ ho];rfl
 exact{
  base:=⟨F3 X G B hb k.QN k.places hh,{
   uD:=X
   get:=λC ci hc=>(j4 k hc).get
   dict:=λC ci hc=>(j4 k hc).dict
   field:=λC ci hc a ha=>eq_of_beq (List.all_eq_true.mp (j4 k hc).T7 a ha)
   jI:=λC ci hc a f hf=>by
    exact⟨eq_of_beq (az (aL (List.all_eq_true.mp (j4 k hc).M0 _ (ew hf)))).1,(az (aL (List.all_eq_true.mp (j4 k hc).M0 _ (ew hf)))).2,mA (aR (List.all_eq_true.mp (j4 k hc).M0 _ (ew hf)))⟩
   set:=λC ci hc=>(j4 k hc).set
   fn:=λf hf=>by
    refine aV (Option.isSome_iff_exists.mp hf) λfi N1=>?_
    exact(K2 k N1).2.1 },sy⟩
  text:={
   lim:=lim
   uD:=X
   fns:=λf fi hf=>by
    obtain⟨a,b,ln,c,d⟩:=K2 k hf
    refine aO (yA (aa:=aa) (w:=w) hd c d a) λfd body _ fx=>?_
    exact⟨fd,body,fx⟩
   cls:=λC ci hc=>by
    have m:=j4 k hc
    refine bQ m.init λg' e hi=>?_
    exact⟨m.makes,λz=>absurd (z.symm.trans e) nn,λg hg=>Option.some.inj (e.symm.trans hg)▸Cb hi⟩ }
  jH:=λc hc=>Dz hd (List.all_eq_true.mp k.exc c (F9 hc)) k.init
  keep:=λC hC=>by
   refine aV (Option.isSome_iff_exists.mp hC) λci YA=>?_
   exact(j4 k YA).keep }
theorem M1(X:K.In hW)(G:hW.Ns mainGlobals mg)(hk:sE K=true):mg "law" = some (.ref 1005):=mg_of X G (eq_of_beq (az (F8 hk).Wc).1)
end
noncomputable def W{α:Type}(r:Out α)(Q:α->AH->Prop)(E:Nat->AH->Prop):Prop:=match r with
 |some r=>(match r.1 with
  | .ok v=>Q v r.2
  | .error c=>E c r.2)
 |none=>False
noncomputable def WS(r:cy)(R:ek->Loc->AH->Prop):Prop:=match r with
 |some r=>R r.1 r.2.1 r.2.2
 |none=>False
theorem oM{α β:Type}{r:Out α}{f:α->AH->Out β}{Q:β->AH->Prop}{E:Nat->AH->Prop}(h:W r (λv H=>W (f v H) Q E) E):W (iz r f) Q E:=by
 cases r with
 |none=>exact h
 |some r=>
  obtain⟨x,H⟩:=r;cases x with
  |ok v=>exact h
  |error c=>exact h
theorem jf{α:Type}{r:Out α}{Q Q':α->AH->Prop}{E E':Nat->AH->Prop}(h:W r Q E)(k:∀v H,Q v H->Q' v H)(k':∀c H,E c H->E' c H):W r Q' E':=by
 cases r with
 |none=>exact h
 |some r=>
  obtain⟨x,H⟩:=r;cases x with
  |ok v=>exact k _ _ h
  |error c=>exact k' _ _ h
theorem M3{α:Type}{r:Out α}{Q Q':α->AH->Prop}{E:Nat->AH->Prop}(h:W r Q E)(k:∀v H,Q v H->Q' v H):W r Q' E:=jf h k λ_ _ z=>z
theorem cK{α β:Type}{r:Out α}{f:α->AH->Out β}{P:α->AH->Prop}{Q:β->AH->Prop}{E:Nat->AH->Prop}(h:W r P E)(k:∀v H,P v H->W (f v H) Q E):W (iz r f) Q E:=oM (M3 h k)
theorem sJ{α β:Type}{o:Option β}{x:β}{f:β->Out α}{Q:α->AH->Prop}{E:Nat->AH->Prop}(e:o=some x)(h:W (f x) Q E):W (fM o f) Q E:=e▸h
theorem R4{r:cy}{R R':ek->Loc->AH->Prop}(h:WS r R)(k:∀f l H,R f l H->R' f l H):WS r R':=by
 cases r with
 |none=>exact h
 |some r=>exact k _ _ _ h
theorem qE{β:Type}{o:Option β}{x:β}{f:β->cy}{R:ek->Loc->AH->Prop}(e:o=some x)(h:WS (f x) R):WS (fM o f) R:=e▸h
theorem bY{α:Type}{r:Out α}{v:α}{H:AH}{Q:α->AH->Prop}{E:Nat->AH->Prop}(e:r=some (.ok v,H))(h:Q v H):W r Q E:=e▸h
theorem We{α:Type}{r:Out α}{c:Nat}{H:AH}{Q:α->AH->Prop}{E:Nat->AH->Prop}(e:r=some (.error c,H))(h:E c H):W r Q E:=e▸h
theorem lL{α:Type}{c:Prop}[Decidable c]{x y:Out α}{Q:α->AH->Prop}{E:Nat->AH->Prop}(hc:c)(h:W x Q E):W (if c then x else y) Q E:=(if_pos hc).symm▸h
theorem hJ{α:Type}{c:Prop}[Decidable c]{x y:Out α}{Q:α->AH->Prop}{E:Nat->AH->Prop}(hc:¬c)(h:W y Q E):W (if c then x else y) Q E:=(if_neg hc).symm▸h
theorem Ge{c:Prop}[Decidable c]{x y:cy}{R:ek->Loc->AH->Prop}(hc:c)(h:WS x R):WS (if c then x else y) R:=(if_pos hc).symm▸h
mutual
noncomputable def pv:aZ->Loc->AH->Option ae
 | .cst v,_,_=>some v
 | .loc x,l,_=>aJ x l
 | .glob _ v,_,_=>some v
 | .tup es,l,H=>fM (R5 es l H) λvs=>some (.tup vs)
 | .sub e i,l,H=>fM (pv e l H) λo=>fM (pv i l H) λk=>subAt o k H
 | .cmp a op b,l,H=>fM (pv a l H) λx=>fM (pv b l H) λy=>fM (bz op x y H) λq=>some (.bool q)
 | .and es,l,H=>T8 es l H
 | .or es,l,H=>T9 es l H
 | .not e,l,H=>fM (pv e l H) λv=>vBool v λb=>some (.bool (!b))
 | .ite c a b,l,H=>fM (pv c l H) λv=>vBool v λq=>match q with
  |true=>pv a l H
  |false=>pv b l H
 |_,_,_=>none
noncomputable def R5:List aZ->Loc->AH->Option (List ae)
 |[],_,_=>some []
 |e::es,l,H=>fM (pv e l H) λv=>fM (R5 es l H) λvs=>some (v::vs)
noncomputable def T8:List aZ->Loc->AH->Option ae
 |[],_,_=>none
 |e::es,l,H=>(match es with
  |[]=>pv e l H
  |_::_=>fM (pv e l H) λv=>vBool v λq=>match q with
   |true=>T8 es l H
   |false=>some (.bool false))
noncomputable def T9:List aZ->Loc->AH->Option ae
 |[],_,_=>none
 |e::es,l,H=>(match es with
  |[]=>pv e l H
  |_::_=>fM (pv e l H) λv=>vBool v λq=>match q with
   |true=>some (.bool true)
   |false=>T9 es l H)
end
theorem hP{α β:Type}{r:Out α}{a:α}{H:AH}{f:α->AH->Out β}{q:Out β}(e:r=ok a H)(h:f a H=q):iz r f=q:=by rw[e];exact h
theorem Gf{α β:Type}{o:Option β}{x:β}{f:β->Option α}{q:Option α}(e:o=some x)(h:f x=q):fM o f=q:=by rw[e];exact h
section
variable{F:dQ}{l:Loc}{H:AH}
mutual
theorem iT(e:aZ){v:ae}(h:pv e l H=some v):aW au F e l H=ok v H:=by
 cases e with
 |cst w=>exact congrArg (λz=>ok z H) (Option.some.inj h)
 |loc x=>exact Gf (f:=λv=>ok v H) h rfl
 |glob x w=>exact congrArg (λz=>ok z H) (Option.some.inj h)
 |tup es=>
  refine ed h λvs e1 h=>?_;exact hP (AO es e1) (congrArg (λz=>ok z H) (Option.some.inj h))
 |sub e i=>
  refine ed h λo e1 h=>?_;refine ed h λk e2 h=>?_;exact hP (iT e e1) (hP (iT i e2) (Gf (f:=λv=>ok v H) h rfl))
 |cmp a op b=>
  refine ed h λx e1 h=>?_;refine ed h λy e2 h=>?_;refine ed h λq e3 h=>?_;exact hP (iT a e1) (hP (iT b e2) (Gf (f:=λq=>ok (ae.bool q) H) e3 (congrArg (λz=>ok z H) (Option.some.inj h))))
 |and es=>exact Gg es h
 |or es=>exact Gh es h
 |not e=>
  refine ed h λx e1 h=>?_;refine jF h λb z1 h=>?_;subst z1;exact hP (iT e e1) (congrArg (λz=>ok z H) (Option.some.inj h))
 |ite c a b=>
  refine ed h λx e1 h=>?_;refine jF h λq z1 h=>?_;subst z1;refine hP (iT c e1) ?_;cases q with
  |true=>exact iT a h
  |false=>exact iT b h
 |_=>exact absurd h nn
theorem AO(es:List aZ){vs:List ae}(h:R5 es l H=some vs):cA au F es l H=ok vs H:=by
 cases es with
 |nil=>exact congrArg (λz=>ok z H) (Option.some.inj h)
 |cons e es=>
  refine ed h λv e1 h=>?_;refine ed h λws e2 h=>?_;exact hP (iT e e1) (hP (AO es e2) (congrArg (λz=>ok z H) (Option.some.inj h)))
theorem Gg(es:List aZ){v:ae}(h:T8 es l H=some v):evalAnd au F es l H=ok v H:=by
 cases es with
 |nil=>exact absurd h nn
 |cons e es=>cases es with
  |nil=>exact iT e h
  |cons e' es=>
   refine ed h λx e1 h=>?_;refine jF h λq z1 h=>?_;subst z1;refine hP (iT e e1) ?_;cases q with
   |true=>exact Gg (e'::es) h
   |false=>exact congrArg (λz=>ok z H) (Option.some.inj h)
theorem Gh(es:List aZ){v:ae}(h:T9 es l H=some v):evalOr au F es l H=ok v H:=by
 cases es with
 |nil=>exact absurd h nn
 |cons e es=>cases es with
  |nil=>exact iT e h
  |cons e' es=>
   refine ed h λx e1 h=>?_;refine jF h λq z1 h=>?_;subst z1;refine hP (iT e e1) ?_;cases q with
   |true=>exact congrArg (λz=>ok z H) (Option.some.inj h)
   |false=>exact Gh (e'::es) h
end
end
theorem ble{a b:Nat}(h:Nat.ble a b=true):a<=b:=Nat.le_of_ble_eq_true h
theorem Ua{a b c:Prop}(h:a)(k:b):a∧b∨c:=.inl ⟨h,k⟩
theorem Ub{a b c:Prop}(h:a)(k:b):c∨a∧b:=.inr ⟨h,k⟩
section
variable{F:dQ}{l:Loc}{H:AH}{Q:ae->AH->Prop}{QL:List ae->AH->Prop}{E:Nat->AH->Prop}{R:ek->Loc->AH->Prop}
noncomputable abbrev XE(F:dQ)(e:aZ)(l:Loc)(H:AH)(Q:ae->AH->Prop)(E:Nat->AH->Prop):Prop:=W (aW au F e l H) Q E
noncomputable abbrev XL(F:dQ)(es:List aZ)(l:Loc)(H:AH)(Q:List ae->AH->Prop)(E:Nat->AH->Prop):Prop:=W (cA au F es l H) Q E
noncomputable abbrev XS(F:dQ)(s:bD)(l:Loc)(H:AH)(R:ek->Loc->AH->Prop):Prop:=WS (exec au F s l H) R
noncomputable abbrev XB(F:dQ)(ss:List bD)(l:Loc)(H:AH)(R:ek->Loc->AH->Prop):Prop:=WS (execs au F ss l H) R
noncomputable abbrev VP:=ae->AH->Prop
noncomputable abbrev HT:=List ae->AH->Prop
noncomputable abbrev EP:=Nat->AH->Prop
noncomputable abbrev SP:=ek->Loc->AH->Prop
noncomputable abbrev Uc(Q:VP):HT:=λvs H=>Q (.tup vs) H
noncomputable abbrev Ud(Q:VP):HT:=λvs H=>Q (.ref H.next) (H.new (.list vs))
noncomputable abbrev Ue(ks:List ae)(Q:VP):HT:=λvs H=>Q (.ref H.next) (H.new (.dict ks vs))
noncomputable abbrev QO(a:String)(Q:VP)(E:EP):VP:=λo H=>W (kQ au o a H) Q E
noncomputable abbrev QP(o:ae)(Q:VP):VP:=λk H=>∃v,subAt o k H=some v∧Q v H
noncomputable abbrev Ug(F:dQ)(i:aZ)(l:Loc)(Q:VP)(E:EP):VP:=λo H=>XE F i l H (QP o Q) E
noncomputable abbrev M4(F:dQ)(g:ae)(Q:VP)(E:EP):HT:=λvs H=>W (eK F g vs H) Q E
noncomputable abbrev KCall(F:dQ)(es:List aZ)(l:Loc)(Q:VP)(E:EP):VP:=λg H=>XL F es l H (M4 F g Q E) E
noncomputable abbrev YB(F:dQ)(c:Callee)(Q:VP)(E:EP):HT:=λvs H=>W (callC F c vs H) Q E
noncomputable abbrev KM(F:dQ)(a:String)(es:List aZ)(l:Loc)(Q:VP)(E:EP):VP:=λo H=>∃c,eC au o a H=some c∧XL F es l H (YB F c Q E) E
noncomputable abbrev QQ(op:HO)(x:ae)(Q:VP):VP:=λy H=>∃v H',binOp op x y H=some (v,H')∧Q v H'
noncomputable abbrev Uh(F:dQ)(op:HO)(b:aZ)(l:Loc)(Q:VP)(E:EP):VP:=λx H=>XE F b l H (QQ op x Q) E
@[irreducible] noncomputable def AP(x:ae)(op:rh)(y:ae)(H:AH)(Q:ae->AH->Prop):Prop:=∃r,bz op x y H=some r∧Q (.bool r) H
noncomputable abbrev QR(op:rh)(x:ae)(Q:VP):VP:=λy H=>AP x op y H Q
noncomputable abbrev Ui(F:dQ)(op:rh)(b:aZ)(l:Loc)(Q:VP)(E:EP):VP:=λx H=>XE F b l H (QR op x Q) E
noncomputable abbrev Uj(F:dQ)(es:List aZ)(l:Loc)(Q:VP)(E:EP):VP:=λv H=>v=.bool false∧Q (.bool false) H∨v=.bool true∧XE F (.and es) l H Q E
noncomputable abbrev YC(F:dQ)(es:List aZ)(l:Loc)(Q:VP)(E:EP):VP:=λv H=>v=.bool true∧Q (.bool true) H∨v=.bool false∧XE F (.or es) l H Q E
noncomputable abbrev KNot(Q:VP):VP:=λv H=>∃b,v=.bool b∧Q (.bool (!b)) H
noncomputable abbrev Uk(Q:VP):VP:=λv H=>∃i,v=.int i∧Q (.int (-i)) H
noncomputable abbrev QS(F:dQ)(a b:aZ)(l:Loc)(Q:VP)(E:EP):VP:=λv H=>v=.bool true∧XE F a l H Q E∨v=.bool false∧XE F b l H Q E
noncomputable abbrev M5(v:ae)(QL:HT):HT:=λvs H=>QL (v::vs) H
noncomputable abbrev QT(F:dQ)(es:List aZ)(l:Loc)(QL:HT)(E:EP):VP:=λv H=>XL F es l H (M5 v QL) E
noncomputable abbrev Wf(F:dQ)(elt:aZ)(xs:List String)(single:Bool)(l:Loc)(Q:VP)(E:EP)(yC:ae->AH->Out ae):VP:=λo H=>∃i,gW o H=some i∧W (eO 100000 yC H.next i (H.new (.list []))) Q E
noncomputable abbrev JX(R:SP)(l:Loc):EP:=λc H=>R (.exc c) l H
noncomputable abbrev QU(R:SP)(l:Loc):VP:=λ_ H=>R .next l H
noncomputable abbrev M6(x:String)(R:SP)(l:Loc):VP:=λv H=>R .next (bc x v l) H
noncomputable abbrev QV(xs:List String)(R:SP)(l:Loc):VP:=λv H=>∃vs l',v=.tup vs∧fk xs vs l=some l'∧R .next l' H
noncomputable abbrev M7(xs:List String)(R:SP)(l:Loc):HT:=λvs H=>∃l',fk xs vs l=some l'∧R .next l' H
noncomputable abbrev M8(a:String)(v:ae)(R:SP)(l:Loc):VP:=λo H=>∃H',jJ au o a v H=some H'∧R .next l H'
noncomputable abbrev QW(F:dQ)(o:aZ)(a:String)(R:SP)(l:Loc):VP:=λv H=>XE F o l H (M8 a v R l) (JX R l)
noncomputable abbrev M9(o v:ae)(R:SP)(l:Loc):VP:=λi H=>∃H',putItem o i v H=some H'∧R .next l H'
noncomputable abbrev Na(F:dQ)(i:aZ)(v:ae)(R:SP)(l:Loc):VP:=λo H=>XE F i l H (M9 o v R l) (JX R l)
noncomputable abbrev QX(F:dQ)(o i:aZ)(R:SP)(l:Loc):VP:=λv H=>XE F o l H (Na F i v R l) (JX R l)
noncomputable abbrev YD(F:dQ)(a b:List bD)(R:SP)(l:Loc):VP:=λv H=>v=.bool true∧XB F a l H R∨v=.bool false∧XB F b l H R
noncomputable abbrev Ul(R:SP)(l:Loc):VP:=λv H=>R (.ret v) l H
noncomputable abbrev Nb(c:Nat)(R:SP)(l:Loc):HT:=λvs H=>zG vs=true∧au.jH.contains c=true∧R (.exc (2*c)) l H
theorem oN{e:aZ}{v:ae}(h:pv e l H=some v)(k:Q v H):XE F e l H Q E:=bY (iT e h) k
theorem Nc{es:List aZ}{vs:List ae}(h:R5 es l H=some vs)(k:QL vs H):XL F es l H QL E:=bY (AO es h) k
theorem ax{v:ae}(h:Q v H):XE F (.cst v) l H Q E:=h
theorem av{x:String}{v:ae}(e:aJ x l=some v)(h:Q v H):XE F (.loc x) l H Q E:=sJ (f:=λv=>ok v H) e h
theorem aT{x:String}{v:ae}(h:Q v H):XE F (.glob x v) l H Q E:=h
theorem dE{es:List aZ}(h:XL F es l H (Uc Q) E):XE F (.tup es) l H Q E:=oM h
theorem hU{es:List aZ}(h:XL F es l H (Ud Q) E):XE F (.lst es) l H Q E:=oM h
theorem Cc{ks:List ae}{es:List aZ}(h:XL F es l H (Ue ks Q) E):XE F (.lY ks es) l H Q E:=oM h
theorem AQ{e:aZ}{a:String}(h:XE F e l H (QO a Q E) E):XE F (.attr e a) l H Q E:=oM h
theorem bx{e i:aZ}(h:XE F e l H (Ug F i l Q E) E):XE F (.sub e i) l H Q E:=cK h λo H h=>cK h λk H h=>h.elim λv h=>sJ h.1 h.2
theorem hV{e:aZ}{n:Nat}(h:XE F e l H (λo H=>W (JW n o H) Q E) E):XE F (.iZ e n) l H Q E:=oM h
theorem Nd{e:aZ}{n:Nat}(h:XE F e l H (λo H=>∃r vs,o=.ref r∧H.get r=some (.list vs)∧vs.length<=1000∧n<=vs.length∧Q (.ref H.next) (H.new (.list (vs.take n)))) E):XE F (.wU e n) l H Q E:=by
 refine cK h λo H h=>?_;refine Lx h ?_;clear h;intro r vs Um e h1 h2 h;subst Um;have k:W (if vs.length<=1000∧n<=vs.length then ok (ae.ref H.next) (H.new (.list (vs.take n)))else none) Q E:=lL ⟨h1,h2⟩ h;exact(congrArg (λz=>W (pq z (λvs=>if vs.length<=1000∧n<=vs.length then ok (ae.ref H.next) (H.new (.list (vs.take n)))else none) λ_ _=>none) Q E) e).mpr k
theorem Jm{e:aZ}(h:XE F e l H (λo H=>∃r vs,o=.ref r∧H.get r=some (.list vs)∧vs.length<=1000∧Q (.ref H.next) (H.new (.list vs.reverse))) E):XE F (.p0 e) l H Q E:=by
 refine cK h λo H h=>?_;refine pk h ?_;clear h;intro r vs Un e h1 h;subst Un;have k:W (if vs.length<=1000 then ok (ae.ref H.next) (H.new (.list vs.reverse))else none) Q E:=lL h1 h;exact(congrArg (λz=>W (pq z (λvs=>if vs.length<=1000 then ok (ae.ref H.next) (H.new (.list vs.reverse))else none) λ_ _=>none) Q E) e).mpr k
theorem x_call{f:aZ}{es:List aZ}(h:XE F f l H (KCall F es l Q E) E):XE F (.call f es) l H Q E:=cK h λ_ _ h=>oM h
theorem eX{o:aZ}{a:String}{es:List aZ}(h:XE F o l H (KM F a es l Q E) E):XE F (.aE o a es) l H Q E:=cK h λ_ _ h=>h.elim λc h=>sJ h.1 (oM h.2)
theorem bI{op:HO}{a b:aZ}(h:XE F a l H (Uh F op b l Q E) E):XE F (.bin op a b) l H Q E:=cK h λ_ _ h=>cK h λ_ _ h=>h.elim λv h=>h.elim λH' h=>sJ h.1 h.2
theorem bu{op:rh}{x y:ae}{r:Bool}(h:bz op x y H=some r)(k:Q (.bool r) H):AP x op y H Q:=by unfold AP;exact⟨r,h,k⟩
theorem YE{op:rh}{x y:ae}(h:bz op x y H=some true)(k:Q (.bool true) H):AP x op y H Q:=bu h k
theorem YF{op:rh}{x y:ae}(h:bz op x y H=some false)(k:Q (.bool false) H):AP x op y H Q:=bu h k
theorem Uo{op:rh}{x y:ae}(h:AP x op y H Q):∃r,bz op x y H=some r∧Q (.bool r) H:=by unfold AP at h;exact h
theorem bK{op:rh}{a b:aZ}(h:XE F a l H (Ui F op b l Q E) E):XE F (.cmp a op b) l H Q E:=cK h λ_ _ h=>cK h λ_ _ h=>(Uo h).elim λv h=>sJ h.1 h.2
theorem Gi{op iB:rh}{a b c:aZ}(h:XE F a l H (λx H=>XE F b l H (λy H=>∃r,bz op x y H=some r∧(if r=true then XE F c l H (λz H=>∃r,bz iB y z H=some r∧Q (.bool r) H) E else Q (.bool false) H)) E) E):XE F (.qL a op b iB c) l H Q E:=by
 refine cK h λ_ _ h=>cK h λ_ _ h=>?_;refine aI h ?_;clear h;intro v e h;refine sJ e ?_;cases v with
 |true=>
  rw[if_pos rfl]at h;exact cK h λ_ _ h=>h.elim λ_ h=>sJ h.1 h.2
 |false=>
  rw[if_neg Bool.false_ne_true]at h;exact h
theorem lM{e:aZ}(h:XE F e l H Q E):XE F (.and [e]) l H Q E:=h
theorem oO{e e':aZ}{es:List aZ}(h:XE F e l H (Uj F (e'::es) l Q E) E):XE F (.and (e::e'::es)) l H Q E:=by
 refine cK h λv H h=>?_;rcases h with ⟨rfl,h⟩|⟨rfl,h⟩
 ·exact h
 ·exact h
theorem Cd{e:aZ}(h:XE F e l H Q E):XE F (.or [e]) l H Q E:=h
theorem Jn{e e':aZ}{es:List aZ}(h:XE F e l H (YC F (e'::es) l Q E) E):XE F (.or (e::e'::es)) l H Q E:=by
 refine cK h λv H h=>?_;rcases h with ⟨rfl,h⟩|⟨rfl,h⟩
 ·exact h
 ·exact h
theorem Gj{e:aZ}(h:XE F e l H (KNot Q) E):XE F (.not e) l H Q E:=cK h λ_ _ h=>h.elim λb h=>h.1▸h.2
theorem K3{e:aZ}(h:XE F e l H (Uk Q) E):XE F (.neg e) l H Q E:=cK h λ_ _ h=>h.elim λb h=>h.1▸h.2
theorem iU{c a b:aZ}(h:XE F c l H (QS F a b l Q E) E):XE F (.ite c a b) l H Q E:=by
 refine cK h λv H h=>?_;rcases h with ⟨rfl,h⟩|⟨rfl,h⟩
 ·exact h
 ·exact h
theorem QY{c a b:aZ}(e:pv c l H=some (.bool true))(h:XE F a l H Q E):XE F (.ite c a b) l H Q E:=iU (oN e (.inl ⟨rfl,h⟩))
theorem QZ{c a b:aZ}(e:pv c l H=some (.bool false))(h:XE F b l H Q E):XE F (.ite c a b) l H Q E:=iU (oN e (.inr ⟨rfl,h⟩))
theorem aD(h:QL [] H):XL F [] l H QL E:=h
theorem ai{e:aZ}{es:List aZ}(h:XE F e l H (QT F es l QL E) E):XL F (e::es) l H QL E:=cK h λ_ _ h=>oM h
noncomputable def tT(F:dQ)(ss:List bD)(R:ek->Loc->AH->Prop):ek->Loc->AH->Prop:=λf l H=>match f with
 | .next=>XB F ss l H R
 | .cont=>R .cont l H
 | .ret v=>R (.ret v) l H
 | .exc c=>R (.exc c) l H
theorem dm(h:R .next l H):XB F [] l H R:=h
theorem aC{s:bD}{ss:List bD}(h:XS F s l H (tT F ss R)):XB F (s::ss) l H R:=by
 show WS (zF (exec au F s l H) λl H=>execs au F ss l H) R;replace h:WS (exec au F s l H) (tT F ss R):=h;generalize exec au F s l H=r at h;cases r with
 |none=>exact h
 |some r=>
  obtain⟨f,l',H'⟩:=r;cases f<;>exact h
theorem wj{α:Type}{r:Out α}{f:α->AH->cy}(h:W r (λv H=>WS (f v H) R) (JX R l)):WS (dJ r l f) R:=by
 cases r with
 |none=>exact h
 |some r=>
  obtain⟨x,H⟩:=r;cases x with
  |ok v=>exact h
  |error c=>exact h
theorem cD{α:Type}{r:Out α}{f:α->AH->cy}{P:α->AH->Prop}(h:W r P (JX R l))(k:∀v H,P v H->WS (f v H) R):WS (dJ r l f) R:=wj (M3 h k)
theorem j5{e:aZ}(h:XE F e l H (QU R l) (JX R l)):XS F (.expr e) l H R:=wj h
theorem dg{x:String}{e:aZ}(h:XE F e l H (M6 x R l) (JX R l)):XS F (.asg x e) l H R:=wj h
theorem Nf{xs:List String}{e:aZ}(h:XE F e l H (QV xs R l) (JX R l)):XS F (.pn xs e) l H R:=by
 refine cD h λv H h=>?_;refine cn h ?_;clear h;intro vs l' Up e h;subst Up;exact qE e h
theorem oP{xs:List String}{es:List aZ}(h:XL F es l H (M7 xs R l) (JX R l)):XS F (.fj xs es) l H R:=cD h λ_ _ h=>h.elim λl' h=>qE h.1 h.2
theorem AR{o e:aZ}{a:String}(h:XE F e l H (QW F o a R l) (JX R l)):XS F (.cV o a e) l H R:=cD h λ_ _ h=>cD h λ_ _ h=>h.elim λH' h=>qE h.1 h.2
theorem nB{o i e:aZ}(h:XE F e l H (QX F o i R l) (JX R l)):XS F (.gS o i e) l H R:=cD h λ_ _ h=>cD h λ_ _ h=>cD h λ_ _ h=>h.elim λH' h=>qE h.1 h.2
theorem eY{c:aZ}{a b:List bD}(h:XE F c l H (YD F a b R l) (JX R l)):XS F (.iff c a b) l H R:=by
 refine cD h λv H h=>?_;rcases h with ⟨rfl,h⟩|⟨rfl,h⟩
 ·exact h
 ·exact h
theorem Q0{c:aZ}{a b:List bD}(e:pv c l H=some (.bool true))(h:XB F a l H R):XS F (.iff c a b) l H R:=eY (oN e (.inl ⟨rfl,h⟩))
theorem Ng{c:aZ}{a b:List bD}(e:pv c l H=some (.bool false))(h:XB F b l H R):XS F (.iff c a b) l H R:=eY (oN e (.inr ⟨rfl,h⟩))
theorem dh{e:aZ}(h:XE F e l H (Ul R l) (JX R l)):XS F (.ret e) l H R:=wj h
theorem Nh(h:R (.ret .none) l H):XS F .zB l H R:=h
theorem Ni(h:R .cont l H):XS F .cont l H R:=h
theorem rx{c:Nat}{es:List aZ}(h:XL F es l H (Nb c R l) (JX R l)):XS F (.raise c es) l H R:=cD h λ_ _ h=>Ge (by rw[h.1,h.2.1];rfl) h.2.2
noncomputable def oQ(c:Nat)(R:ek->Loc->AH->Prop):ek->Loc->AH->Prop:=λf l H=>match f with
 | .exc c'=>c' / 2=c∧R (.ret .none) l H
 | .next=>R .next l H
 | .cont=>R .cont l H
 | .ret v=>R (.ret v) l H
theorem yD{c:Nat}{b:List bD}(hc:au.jH.contains c=true)(h:XB F b l H (oQ c R)):XS F (.jE c b) l H R:=by
 show WS (w8 (execs au F b l H) λc' l H=>if c' / 2=c∧au.jH.contains c=true then some (.ret .none,l,H)else none) R;replace h:WS (execs au F b l H) (oQ c R):=h;generalize execs au F b l H=r at h;cases r with
 |none=>exact h
 |some r=>
  obtain⟨f,l',H'⟩:=r;cases f with
  |exc c'=>exact Ge ⟨And.left h,hc⟩ (And.right h)
  |_=>exact h
noncomputable def nD(c:Nat)(x:String)(R:ek->Loc->AH->Prop):ek->Loc->AH->Prop:=λf l H=>match f with
 | .exc c'=>c'=2*c∧(aJ x l).isSome=true∧R (.exc (2*c+1)) [] H
 | .next=>R .next l H
 | .cont=>R .cont l H
 | .ret v=>R (.ret v) l H
theorem AS{c:Nat}{x:String}{b:List bD}(hc:au.jH.contains c=true)(h:XB F b l H (nD c x R)):XS F (.gU c b (.loc x)) l H R:=by
 show WS (w8 (execs au F b l H) λc' l H=>if c'=2*c∧au.jH.contains c=true∧Em (.loc x) l=true then some (.exc (2*c+1),[],H)else none) R;replace h:WS (execs au F b l H) (nD c x R):=h;generalize execs au F b l H=r at h;cases r with
 |none=>exact h
 |some r=>
  obtain⟨f,l',H'⟩:=r;cases f with
  |exc c'=>exact Ge ⟨And.left h,hc,(And.right h).1⟩ (And.right h).2
  |_=>exact h
noncomputable def Ce(F:dQ)(k:Nat)(c:aZ)(b:List bD)(R:ek->Loc->AH->Prop):ek->Loc->AH->Prop:=λf l H=>match f with
 | .next=>WS (eF k (λl H=>aW au F c l H) (λl H=>execs au F b l H) l H) R
 | .cont=>WS (eF k (λl H=>aW au F c l H) (λl H=>execs au F b l H) l H) R
 | .ret v=>R (.ret v) l H
 | .exc c=>R (.exc c) l H
theorem fz{k:Nat}{c:aZ}{b:List bD}(h:XE F c l H (λv H=>v=.bool true∧XB F b l H (Ce F k c b R)∨v=.bool false∧R .next l H) (JX R l)):
  WS (eF (k+1) (λl H=>aW au F c l H) (λl H=>execs au F b l H) l H) R:=by
 refine cD h λv H h=>?_;rcases h with ⟨rfl,h⟩|⟨rfl,h⟩
 ·show WS (again (execs au F b l H) λl H=>eF k (λl H=>aW au F c l H) (λl H=>execs au F b l H) l H) R
  replace h:WS (execs au F b l H) (Ce F k c b R):=h;generalize execs au F b l H=r at h;cases r with
  |none=>exact h
  |some r=>
   obtain⟨f,l',H'⟩:=r;cases f<;>exact h
 ·exact h
theorem pI{c:aZ}{b:List bD}(h:WS (eF 100000 (λl H=>aW au F c l H) (λl H=>execs au F b l H) l H) R):XS F (.tx c b) l H R:=h
noncomputable def yE(k:Nat)(body:ae->Loc->AH->cy)(it:Iter)(R:ek->Loc->AH->Prop):ek->Loc->AH->Prop:=λf l H=>match f with
 | .next=>WS (jt k body it l H) R
 | .cont=>WS (jt k body it l H) R
 | .ret v=>R (.ret v) l H
 | .exc c=>R (.exc c) l H
theorem kF{k:Nat}{body:ae->Loc->AH->cy}{it:Iter}(e:it.Eb H=some none)(h:R .next l H):WS (jt (k+1) body it l H) R:=qE e h
theorem ig{k:Nat}{body:ae->Loc->AH->cy}{it it':Iter}{v:ae}(e:it.Eb H=some (some (v,it')))(h:WS (body v l H) (yE k body it' R)):WS (jt (k+1) body it l H) R:=by
 refine qE e ?_;show WS (again (body v l H) λl H=>jt k body it' l H) R;generalize body v l H=r at h;cases r with
 |none=>exact h
 |some r=>
  obtain⟨f,l',H'⟩:=r;cases f<;>exact h
theorem jg{x:String}{it:aZ}{b:List bD}(h:XE F it l H (λo H=>∃i,gW o H=some i∧WS (jt 100000 (λv l H=>execs au F b (bc x v l) H) i l H) R) (JX R l)):XS F (.tA x it b) l H R:=cD h λ_ _ h=>h.elim λi h=>qE h.1 h.2
noncomputable def oR(F:dQ)(xs:List String)(b:List bD):ae->Loc->AH->cy:=λv l H=>fM (bindC false xs v l) λl=>execs au F b l H
theorem AU{xs:List String}{it:aZ}{b:List bD}(h:XE F it l H (λo H=>∃i,gW o H=some i∧WS (jt 100000 (oR F xs b) i l H) R) (JX R l)):XS F (.wV xs it b) l H R:=cD h λ_ _ h=>h.elim λi h=>qE h.1 h.2
noncomputable def yC(F:dQ)(elt:aZ)(xs:List String)(single:Bool)(l:Loc):ae->AH->Out ae:=λv H=>fM (bindC single xs v l) λl'=>aW au F elt l' H
theorem lN{elt it:aZ}{xs:List String}{single:Bool}(h:XE F it l H (λo H=>∃i,gW o H=some i∧W (eO 100000 (yC F elt xs single l) H.next i (H.new (.list []))) Q E) E):XE F (.comp elt xs single it) l H Q E:=cK h λ_ _ h=>h.elim λi h=>sJ h.1 h.2
theorem sL{k n:Nat}{elt:ae->AH->Out ae}{it:Iter}(e:it.Eb H=some none)(h:Q (.ref n) H):W (eO (k+1) elt n it H) Q E:=by rw[vt,e];exact h
theorem pJ{k n:Nat}{elt:ae->AH->Out ae}{it it':Iter}{v:ae}(e:it.Eb H=some (some (v,it')))(h:W (elt v H) (λx H₁=>∃vs,H₁.get n=some (.list vs)∧vs.length<=100000∧W (eO k elt n it' (H₁.set n (.list (vs++[x])))) Q E) E):W (eO (k+1) elt n it H) Q E:=by
 rw[vt,e];refine cK h λx H h=>?_;refine cm h ?_;clear h;intro vs e1 e2 h;show W (pq (H.get n) (λvs=>if vs.length<=100000 then eO k elt n it' (H.set n (.list (vs++[x])))else none) λ_ _=>none) Q E;rw[e1];exact lL e2 h
noncomputable def pK(Q:ae->AH->Prop)(E:Nat->AH->Prop):ek->Loc->AH->Prop:=λf _ H=>match f with
 | .next=>Q .none H
 | .ret v=>Q v H
 | .exc c=>E c H
 | .cont=>False
theorem aw{n f:Nat}{fi:jr}{as:List ae}(h:XB (run au n) fi.body l H (pK Q E))(hf:au.fns f=some fi:=by kernel_rfl)(hb:kR fi.params as fi.js=some l:=by kernel_rfl):W (run au (n+1) f as H) Q E:=by
 show W (mF (au.fns f) (λfi=>fM (kR fi.params as fi.js) λl=>back (execs au (run au n) fi.body l H)) _) Q E;rw[hf];refine sJ hb ?_;replace h:WS (execs au (run au n) fi.body l H) (pK Q E):=h;generalize execs au (run au n) fi.body l H=r at h;cases r with
 |none=>exact h
 |some r=>
  obtain⟨f,l',H'⟩:=r;cases f<;>exact h
theorem mj{n f g:Nat}{ci:eJ}{as:List ae}(hf:au.fns f=none)(hc:au.cls f=some ci)(hi:ci.init=some g)
  (h:W (run au n g (.ref (H.next+1)::as) ((H.new (.bg [] [])).new (.inst f H.next))) (λv H₁=>v=.none∧Q (.ref (H.next+1)) H₁) E):W (run au (n+1) f as H) Q E:=by
 show W (mF (au.fns f) _ (fM (au.cls f) λci=>mF ci.init (λg=>made (run au n g (.ref (H.next+1)::as) ((H.new (.bg [] [])).new (.inst f H.next))) (.ref (H.next+1))) _)) Q E;rw[hf];refine sJ hc ?_;rw[hi];show W (made (run au n g (.ref (H.next+1)::as) ((H.new (.bg [] [])).new (.inst f H.next))) (.ref (H.next+1))) Q E;generalize run au n g (.ref (H.next+1)::as) ((H.new (.bg [] [])).new (.inst f H.next))=r at h;cases r with
 |none=>exact h
 |some r=>
  obtain⟨x,H'⟩:=r;cases x with
  |error c=>exact h
  |ok v=>
   refine bk h ?_;clear h;intro e h;replace e:v=.none:=e;cases e;exact h
end
inductive K|i8|u8|j6|K4|bool
inductive Ty|con (k:K)|iv (n:Nat)
inductive Op|add|mul|lt|eq|shl
inductive Ex|lit (v:Int) (k:Option K)|gz (x:Nat)|neg (e:Ex)|cast (k:K) (e:Ex)|bin (op:Op) (l r:Ex)
noncomputable def kS:K->String
 | .i8 => "i8" | .u8 => "u8" | .j6 => "i32" | .K4 => "i64" | .bool => "bool"
noncomputable def qF:Op->String
 | .add => "+" | .mul => "*" | .lt => "<" | .eq => "==" | .shl => "<<"
noncomputable def vS:Nat->String
 |0 => "v0"|1 => "v1"|2 => "v2"|3 => "v3"|4 => "v4"|5 => "v5"|_ => "v?"
noncomputable def kA(k:K):ae:=.str (kS k)
noncomputable def fL:Option K->ae
 |none=>.none
 |some k=>.str (kS k)
noncomputable def ba:Ty->ae
 | .con .bool=>.tup [.str "bool"]
 | .con .i8=>.tup [.str "int",.str "i8"]
 | .con .u8=>.tup [.str "int",.str "u8"]
 | .con .j6=>.tup [.str "int",.str "i32"]
 | .con .K4=>.tup [.str "int",.str "i64"]
 | .iv n=>.tup [.str "intvar",.int n]
noncomputable def nameA(s:String):ae:=.tup [.str "path",.int 1,.tup [.tup [.str s,.tup [],.tup []]]]
noncomputable def dX:Ex->ae
 | .lit v k=>.tup [.str "int",.int 1,.int v,fL k]
 | .gz x=>nameA (vS x)
 | .neg e=>.tup [.str "unary",.int 1,.str "-",dX e]
 | .cast k e=>.tup [.str "cast",.int 1,dX e,nameA (kS k)]
 | .bin op l r=>.tup [.str "binary",.int 1,.str (qF op),dX l,dX r]
section
variable{n:Nat}{H:AH}
theorem j7(t:Ty):run au (n+1) 89 [ba t] H=some (.ok (.tup []),H):=by
 cases t with
 |con k=>cases k<;>kernel_rfl
 |iv m=>kernel_rfl
theorem mU:run au (n+1) 89 [.tup [.str "tuple",.tup []]] H=some (.ok (.tup []),H):=by kernel_rfl
theorem yF(t:Ty){a:ae}:run au (n+1) 96 [ba t,a] H=some (.ok (ba t),H):=by
 cases t with
 |con k=>cases k<;>kernel_rfl
 |iv m=>kernel_rfl
theorem AV(k:K):run au (n+3) 120 [ba (.con k)] H=some (.ok (ba (.con k)),H.new (.list [])):=by cases k<;>kernel_rfl
theorem jh(k:K):run au (n+1) 139 [ba (.con k)] H=some (.ok (kA k),H):=by cases k<;>kernel_rfl
theorem yG(k:K){a b:ae}:run au (n+1) 158 [ba (.con k),a,b] H=some (.ok (.bool true),H):=by cases k<;>kernel_rfl
theorem Jo(k:K){a b c:ae}:run au (n+1) 476 [.tup [a,ba (.con k),b,c]] H=some (.ok (.bool false),H):=by cases k<;>kernel_rfl
theorem DB(k k':K)(h:k≠k'){o:ae}:run au (n+2) 580 [o,ba (.con k),ba (.con k')] H=some (.ok (.bool false),H):=by
 cases k<;>cases k'<;>first|exact absurd rfl h|kernel_rfl
end
section
variable{F:dQ}{l:Loc}{H:AH}{Q:ae->AH->Prop}{E:Nat->AH->Prop}{R:ek->Loc->AH->Prop}{ss:List bD}{v:ae}{c:Nat}
theorem aX(h:XB F ss l H R):tT F ss R .next l H:=h
theorem Q1(h:R (.ret v) l H):tT F ss R (.ret v) l H:=h
theorem Q2(h:R (.exc c) l H):tT F ss R (.exc c) l H:=h
theorem Uq(h:R .cont l H):tT F ss R .cont l H:=h
theorem Nj(h:Q .none H):pK Q E .next l H:=h
theorem Q3(h:Q v H):pK Q E (.ret v) l H:=h
theorem Q4(h:E c H):pK Q E (.exc c) l H:=h
theorem Nk{k:Nat}{body:ae->Loc->AH->cy}{it:Iter}(h:R (.ret v) l H):yE k body it R (.ret v) l H:=h
theorem Nl{k:Nat}{body:ae->Loc->AH->cy}{it:Iter}(h:R (.exc c) l H):yE k body it R (.exc c) l H:=h
theorem Jp{k:Nat}{body:ae->Loc->AH->cy}{it:Iter}(h:WS (jt k body it l H) R):yE k body it R .next l H:=h
theorem Nm{k:Nat}{e:aZ}{b:List bD}(h:R (.ret v) l H):Ce F k e b R (.ret v) l H:=h
theorem Nn{k:Nat}{e:aZ}{b:List bD}(h:R (.exc c) l H):Ce F k e b R (.exc c) l H:=h
theorem Ur(h:R .next l H):oQ c R .next l H:=h
theorem Wg(h:R (.ret v) l H):oQ c R (.ret v) l H:=h
theorem Np{x:String}(h:R .next l H):nD c x R .next l H:=h
end
theorem aF(H:AH)(a:Nat)(o:cT):(H.set a o).get a=some o:=if_pos rfl
theorem aB(H:AH){a b:Nat}(o:cT)(h:b≠a):(H.set a o).get b=H.get b:=if_neg h
theorem aj(H:AH)(o:cT):(H.new o).get H.next=some o:=if_pos rfl
theorem aH(H:AH){b:Nat}(o:cT)(h:b<H.next):(H.new o).get b=H.get b:=if_neg (Nat.ne_of_lt h)
noncomputable def Fr(M:Nat->Prop)(H H':AH):Prop:=H.next<=H'.next∧∀k,k<H.next->¬M k->H'.get k=H.get k
theorem Fr.refl{M:Nat->Prop}{H:AH}:Fr M H H:=⟨Nat.le_refl _,λ_ _ _=>rfl⟩
theorem Fr.trans{M:Nat->Prop}{H H' Gk:AH}(x:Fr M H H')(y:Fr M H' Gk):Fr M H Gk:=⟨Nat.le_trans x.1 y.1,λk a b=>(y.2 k (Nat.lt_of_lt_of_le a x.1) b).trans (x.2 k a b)⟩
theorem Fr.weaken{M M':Nat->Prop}{H H':AH}(x:Fr M H H')(h:∀k,M k->M' k):Fr M' H H':=⟨x.1,λk a b=>x.2 k a λz=>b (h k z)⟩
theorem Fr.new{M:Nat->Prop}(H:AH)(o:cT):Fr M H (H.new o):=⟨Nat.le_succ _,λk a _=>aH H o a⟩
theorem Fr.set{M:Nat->Prop}(H:AH){a:Nat}(o:cT)(h:M a):Fr M H (H.set a o):=⟨Nat.le_refl _,λk _ b=>aB H o λz=>b (z▸h)⟩
theorem Fr.fresh{M:Nat->Prop}{H H' Gk:AH}(x:Fr M H H')(y:Fr (λk=>M k∨H.next<=k) H' Gk):Fr M H Gk:=
 ⟨Nat.le_trans x.1 y.1,λk a b=>(y.2 k (Nat.lt_of_lt_of_le a x.1) (λz=>z.elim b λz=>absurd a (Nat.not_lt.mpr z))).trans (x.2 k a b)⟩
set_option genInjectivity false in
set_option genSizeOf false in
structure Ad where
 (c cd i id kn nu w wd lk Nq rd Nr bd lp ow lo sc s0 s1:Nat)
noncomputable def wKs:List ae:=[.str "modules",.str "adts",.str "variants",.str "sigs",.str "traits",.str "impls",.str "consts",.str "bodies"]
noncomputable def Wh:List ae:=[.str "world",.str "module",.str "self_type",.str "bounds",.str "reader",.str "infer",.str "locals",.str "scopes",.str "loops",.str "many_loops",.str "owed",.str "result"]
noncomputable def Us:List ae:=[.str "known",.str "is_number"]
noncomputable def MI(A:Ad)(k:Nat):Prop:=k=A.kn∨k=A.nu
noncomputable def ML(A:Ad)(k:Nat):Prop:=k=A.lo∨k=A.s1∨k=A.sc
structure Env(A:Ad)(H:AH):Prop where
 c1:H.get A.c=some (.inst 832 A.cd)
 c2:H.get A.cd=some (.bg Wh [.ref A.w,.str "",.none,.ref A.bd,.ref A.rd,.ref A.i,.ref A.lo,.ref A.sc,.ref A.lp,.int 0,.ref A.ow,.tup [.str "tuple",.tup []]])
 i1:H.get A.i=some (.inst 597 A.id)
 i2:H.get A.id=some (.bg Us [.ref A.kn,.ref A.nu])
 w1:H.get A.w=some (.inst 880 A.wd)
 w2:∃a b c d e f g,H.get A.wd=some (.bg wKs [.ref A.lk,.ref a,.ref b,.ref c,.ref d,.ref e,.ref f,.ref g])
 k1:H.get A.lk=some (.inst 880 A.Nq)
 k2:∃a b c d e f g,H.get A.Nq=some (.bg (wKs++[.str "find"]) [.none,.ref a,.ref b,.ref c,.ref d,.ref e,.ref f,.ref g,.top 986])
 r1:H.get A.rd=some (.inst 880 A.Nr)
 r2:∃a b c d e f g,H.get A.Nr=some (.bg (wKs++[.str "read"]) [.none,.ref a,.ref b,.ref c,.ref d,.ref e,.ref f,.ref g,.top 993])
 bd:H.get A.bd=some (.dict [] [])
 lt:∀a,a∈[A.c,A.cd,A.i,A.id,A.w,A.wd,A.lk,A.Nq,A.rd,A.Nr,A.bd]->a<H.next∧¬MI A a∧¬ML A a
 lm:A.kn<H.next∧A.nu<H.next∧A.lo<H.next∧A.s1<H.next∧A.sc<H.next
 ne:A.kn≠A.nu∧A.lo≠A.s1∧A.lo≠A.sc∧A.s1≠A.sc∧(∀a,MI A a->¬ML A a)
theorem Env.step{A:Ad}{H H':AH}(e:Env A H)(f:Fr (λk=>MI A k∨ML A k) H H'):Env A H':=by
 have g:∀a,a∈[A.c,A.cd,A.i,A.id,A.w,A.wd,A.lk,A.Nq,A.rd,A.Nr,A.bd]->H'.get a=H.get a:=λa ha=>f.2 a (e.lt a ha).1 λz=>z.elim (e.lt a ha).2.1 (e.lt a ha).2.2;have le:=f.1;have t1:=λa h=>g a (.tail _ h);have t2:=λa h=>t1 a (.tail _ h);have t3:=λa h=>t2 a (.tail _ h);have t4:=λa h=>t3 a (.tail _ h);have t5:=λa h=>t4 a (.tail _ h);have t6:=λa h=>t5 a (.tail _ h);have t7:=λa h=>t6 a (.tail _ h);have t8:=λa h=>t7 a (.tail _ h);have t9:=λa h=>t8 a (.tail _ h);have YG:=λa h=>t9 a (.tail _ h);exact{
  c1:=(g _ (.head _)).trans e.c1
  c2:=(t1 _ (.head _)).trans e.c2
  i1:=(t2 _ (.head _)).trans e.i1
  i2:=(t3 _ (.head _)).trans e.i2
  w1:=(t4 _ (.head _)).trans e.w1
  w2:=by rw[t5 _ (.head _)];exact e.w2
  k1:=(t6 _ (.head _)).trans e.k1
  k2:=by rw[t7 _ (.head _)];exact e.k2
  r1:=(t8 _ (.head _)).trans e.r1
  r2:=by rw[t9 _ (.head _)];exact e.r2
  bd:=(YG _ (.head _)).trans e.bd
  lt:=λa ha=>⟨Nat.lt_of_lt_of_le (e.lt a ha).1 le,(e.lt a ha).2⟩
  lm:=⟨Nat.lt_of_lt_of_le e.lm.1 le,Nat.lt_of_lt_of_le e.lm.2.1 le,Nat.lt_of_lt_of_le e.lm.2.2.1 le,Nat.lt_of_lt_of_le e.lm.2.2.2.1 le,Nat.lt_of_lt_of_le e.lm.2.2.2.2 le⟩
  ne:=e.ne }
noncomputable def oA:Option Ty->ae
 |none=>.none
 |some t=>ba t
noncomputable def nv(ns:List Bool):Ty->Prop
 | .con _=>True
 | .iv n=>ns[n]? = some true
theorem nv.snoc{ns:List Bool}{b:Bool}{t:Ty}(h:nv ns t):nv (ns++[b]) t:=by
 cases t with
 |con k=>trivial
 |iv n=>exact(List.getElem?_append_left (List.getElem?_eq_some_iff.mp h).1).trans h
structure Dn(A:Ad)(H:AH)(σ:List (Option Ty))(ns:List Bool):Prop where
 kn:H.get A.kn=some (.list (σ.map oA))
 nu:H.get A.nu=some (.list (ns.map .bool))
 len:ns.length=σ.length
 small:σ.length<=1000
 num:∀(n:Nat) (t:Ty),σ[n]? = some (some t)->nv ns t∧t≠.con .bool
theorem Dn.step{A:Ad}{H H':AH}{σ:List (Option Ty)}{ns:List Bool}{M:Nat->Prop}(d:Dn A H σ ns)(e:Env A H)(f:Fr M H H')(h:∀k,M k->¬MI A k):Dn A H' σ ns where
 kn:=(f.2 _ e.lm.1 λz=>h _ z (.inl rfl)).trans d.kn
 nu:=(f.2 _ e.lm.2.1 λz=>h _ z (.inr rfl)).trans d.nu
 len:=d.len
 small:=d.small
 num:=d.num
section
variable{F:dQ}{l:Loc}{H:AH}{Q:ae->AH->Prop}{E:Nat->AH->Prop}{i C d f:Nat}{ks vs:List ae}{ci:eJ}{a:String}{v:ae}{es:List aZ}
theorem sM{α:Type}{k:Nat->eJ->Nat->List ae->List ae->Option α}(h1:H.get i=some (.inst C d))(h2:H.get d=some (.bg ks vs))(hc:au.cls C=some ci):um au i H k=k C ci d ks vs:=by
 unfold um;rw[h1];show fM (au.cls C) (λci=>vo (H.get d) λks vs=>k C ci d ks vs)=_;rw[hc];show vo (H.get d) (λks vs=>k C ci d ks vs)=_;rw[h2]
 rfl
theorem Cf{α:Type}{k:ae->Option α}(hf:ci.fields.contains a=true)(hv:bN (.str a) ks vs=some v)(hk:JU v=true):rO ci a ks vs k=k v:=by
 unfold rO;rw[if_pos hf,hv];exact if_pos hk
theorem Gl{α:Type}{o:Option Nat}{km:Nat->Option α}{kf x:Option α}(hm:o=none)(h:kf=x):mF o km kf=x:=by rw[hm];exact h
theorem aQ(h1:H.get i=some (.inst C d))(h2:H.get d=some (.bg ks vs))(hc:au.cls C=some ci)(hm:ci.meths.lookup a=none)(hf:ci.fields.contains a=true)(hv:bN (.str a) ks vs=some v)(hk:JU v=true)(h:Q v H):
  W (kQ au (.ref i) a H) Q E:=bY ((sM h1 h2 hc).trans (Gl hm (Cf hf hv hk))) h
theorem aA(h1:H.get i=some (.inst C d))(h2:H.get d=some (.bg ks vs))(hc:au.cls C=some ci)(hm:ci.meths.lookup a=some f)(hv:(bN (.str a) ks vs).isNone=true):eC au (.ref i) a H=some (.fn f (.ref i)):=by
 unfold eC;dsimp only;rw[h1];refine(sM h1 h2 hc).trans ?_;rw[hm];exact if_pos hv
theorem sN(h1:H.get i=some (.inst C d))(h2:H.get d=some (.bg ks vs))(hc:au.cls C=some ci)(hm:ci.meths.lookup a=none)(hf:ci.fields.contains a=true)(hv:bN (.str a) ks vs=some v)(hk:JU v=true):eC au (.ref i) a H=some (.val v):=by
 unfold eC;dsimp only;rw[h1];exact(sM h1 h2 hc).trans (Gl hm (Cf hf hv hk))
theorem aU{n:Nat}(h1:H.get n=some (.list vs))(ha:a = "append" ∨ a = "extend" ∨ a = "pop"):eC au (.ref n) a H=some (.jI (.ref n) a):=by
 unfold eC;dsimp only;rw[h1];exact if_pos ha
theorem Q5{o:aZ}(ho:XE F o l H (λo H'=>o=.ref i∧H'=H) E)(h1:H.get i=some (.inst C d))(h2:H.get d=some (.bg ks vs))(hc:au.cls C=some ci)(hm:ci.meths.lookup a=some f)(hv:(bN (.str a) ks vs).isNone=true)
  (h:XL F es l H (λvs H=>W (F f (.ref i::vs) H) Q E) E):XE F (.aE o a es) l H Q E:=
 eX (M3 ho λo H' z=>by obtain⟨rfl,rfl⟩:=z;exact⟨_,aA h1 h2 hc hm hv,h⟩)
theorem Gm{o:Option cT}{kl:List ae->Out ae}{kd:List ae->List ae->Out ae}(h1:o=some (.list vs))(h:W (kl vs) Q E):W (pq o kl kd) Q E:=h1▸h
theorem len_list{n:Nat}(h1:H.get n=some (.list vs))(hl:vs.length<=100000)(h:Q (.int vs.length) H):W (eK F (.bi (.builtin "len")) [.ref n] H) Q E:=Gm (kl:=λvs=>if vs.length<=100000 then ok (.int vs.length) H else none) (kd:=λ_ _=>none) h1 (lL hl h)
theorem append_list{n:Nat}{x:ae}(h1:H.get n=some (.list vs))(hl:vs.length<=100000)(h:Q .none (H.set n (.list (vs++[x])))):W (callC F (.jI (.ref n) "append") [x] H) Q E:=by
 unfold callC w9;exact Gm h1 (lL rfl (lL hl h))
theorem pop_list{n:Nat}{x:ae}(h1:H.get n=some (.list (vs++[x])))(hl:vs.length+1<=100000)(h:Q x (H.set n (.list vs))):W (callC F (.jI (.ref n) "pop") [] H) Q E:=by
 unfold callC w9;refine Gm h1 (hJ (by decide) (hJ (by decide) (lL rfl ?_)));refine lL (by rw[List.length_append];exact hl) (sJ List.getLast?_concat ?_);rw[List.dropLast_concat];exact h
theorem nF{n:Nat}(h1:H.get n=some (.list []))(h:Q .none H):W (callC F (.jI (.ref n) "extend") [.tup []] H) Q E:=by
 unfold callC w9;exact Gm h1 (hJ (by decide) (lL rfl h))
end
local macro_rules | `(tactic| tb_start) => do
  let s : Lean.TSyntax `tactic ← `(tactic| first | refine YE rfl ?_ | refine YF rfl ?_ | refine ⟨_, rfl, ?_⟩ | refine ⟨_, _, rfl, ?_⟩ | refine ⟨_, _, rfl, rfl, ?_⟩)
  let r ← "dm aX Q1 Q2 Q3 Nj Q4 Nk Nl Jp Nm Nn !Q0 !Ng dg j5 eY dh oP Nf AR nB Nh Ni !av ax aT !Nc !QY !QZ bK lM oO Cd Jn Gj !oN dE hU Cc bx x_call AQ bI iU K3 eX ai aD !Ua !Ub".splitOn " " |>.foldrM (fun n (s : Lean.TSyntax `tactic) => if n.startsWith "!" then `(tactic| first | (with_reducible apply $(Lean.mkIdent (.mkSimple (n.drop 1).copy))); focus exact rfl | $s:tactic) else `(tactic| first | with_reducible refine $(Lean.mkIdent (.mkSimple n)) ?_ | $s:tactic)) s
  return r
local macro_rules | `(tactic| tb_rel) => `(tactic| repeat (first | with_reducible refine aC ?_ | tb_start))
local macro_rules | `(tactic| ktd_rel) => `(tactic| repeat tb_start)
section
variable{n:Nat}{A:Ad}{H:AH}{σ:List (Option Ty)}{ns:List Bool}{Q:ae->AH->Prop}{E:Nat->AH->Prop}
theorem Dn.append{x:Bool}(e:Env A H)(d:Dn A H σ ns)(hs:σ.length<1000):Dn A ((H.set A.kn (.list (σ.map oA++[.none]))).set A.nu (.list (ns.map .bool++[.bool x]))) (σ++[none]) (ns++[x]) where
 kn:=by rw[aB _ _ e.ne.1,aF,List.map_append];rfl
 nu:=by rw[aF];simp
 len:=by simp[d.len]
 small:=by simp;omega
 num:=λn t h=>by
  by_cases q:n<σ.length
  ·rw[List.getElem?_append_left q]at h;exact⟨(d.num n t h).1.snoc,(d.num n t h).2⟩
  ·have hl:=(List.getElem?_eq_some_iff.mp h).1
   have:n=σ.length:=by simp at hl;omega
   subst this;simp at h
theorem mn{a b:cT}:Fr (MI A) H ((H.set A.kn a).set A.nu b):=(Fr.set _ _ (.inl rfl)).trans (Fr.set _ _ (.inr rfl))
theorem DC(e:Env A H)(d:Dn A H σ ns)(hs:σ.length<1000)(h:∀H',Env A H'->Dn A H' (σ++[none]) (ns++[false])->Fr (MI A) H H'->Q (.tup [.str "var",.int σ.length]) H'):W (run au (n+1) 540 [.ref A.i] H) Q E:=by
 refine aw (fi:=⟨["self"],[],mO⟩) (l:=[("self",.ref A.i)]) ?_;tb_rel;refine aQ e.i1 e.i2 rfl rfl rfl rfl rfl ⟨_,aU d.kn (.inl rfl),?_⟩;tb_rel;refine append_list d.kn (by simp;omega) ?_;have e1:Env A (H.set A.kn (.list (σ.map oA++[.none]))):=e.step (Fr.set _ _ (.inl (.inl rfl)));have Q6:(H.set A.kn (.list (σ.map oA++[.none]))).get A.nu=some (.list (ns.map .bool)):=(aB _ _ (Ne.symm e.ne.1)).trans d.nu;tb_rel;refine aQ e1.i1 e1.i2 rfl rfl rfl rfl rfl ⟨_,aU Q6 (.inl rfl),?_⟩;tb_rel;refine append_list Q6 (by simp[d.len];omega) ?_;have d2:=d.append (x:=false) e hs;have e2:=e.step (mn (A:=A) (H:=H) (a:=.list (σ.map oA++[.none])) (b:=.list (ns.map .bool++[.bool false])) |>.weaken λk z=>.inl z);tb_rel;refine aQ e2.i1 e2.i2 rfl rfl rfl rfl rfl ?_;tb_rel;refine len_list d2.kn (by simp;omega) ?_;tb_rel;have:=h _ e2 d2 mn;simpa using this
theorem mV(e:Env A H)(d:Dn A H σ ns)(hs:σ.length<1000)(h:∀H',Env A H'->Dn A H' (σ++[none]) (ns++[true])->Fr (MI A) H H'->Q (ba (.iv σ.length)) H'):W (run au (n+1) 547 [.ref A.i] H) Q E:=by
 refine aw (fi:=⟨["self"],[],iQ⟩) (l:=[("self",.ref A.i)]) ?_;tb_rel;refine aQ e.i1 e.i2 rfl rfl rfl rfl rfl ⟨_,aU d.kn (.inl rfl),?_⟩;tb_rel;refine append_list d.kn (by simp;omega) ?_;have e1:Env A (H.set A.kn (.list (σ.map oA++[.none]))):=e.step (Fr.set _ _ (.inl (.inl rfl)));have Q6:(H.set A.kn (.list (σ.map oA++[.none]))).get A.nu=some (.list (ns.map .bool)):=(aB _ _ (Ne.symm e.ne.1)).trans d.nu;tb_rel;refine aQ e1.i1 e1.i2 rfl rfl rfl rfl rfl ⟨_,aU Q6 (.inl rfl),?_⟩;tb_rel;refine append_list Q6 (by simp[d.len];omega) ?_;have d2:=d.append (x:=true) e hs;have e2:=e.step (mn (A:=A) (H:=H) (a:=.list (σ.map oA++[.none])) (b:=.list (ns.map .bool++[.bool true])) |>.weaken λk z=>.inl z);tb_rel;refine aQ e2.i1 e2.i2 rfl rfl rfl rfl rfl ?_;tb_rel;refine len_list d2.kn (by simp;omega) ?_;tb_rel;have:=h _ e2 d2 mn;simpa[show ba (.iv σ.length)=.tup [.str "intvar",.int σ.length]from rfl]using this
theorem DD{α:Type}{o:Option cT}{vs:List ae}{kl:List ae->Option α}{kd:List ae->List ae->Option α}(h:o=some (.list vs)):pq o kl kd=kl vs:=by rw[h];rfl
theorem Gn{α:Type}{i:Int}{k:Int->Option α}:vInt (.int i) k=k i:=rfl
theorem bT{H:AH}{a m:Nat}{vs:List ae}{v:ae}(h:H.get a=some (.list vs))(hv:vs[m]? = some v)(hm:m<100000):subAt (.ref a) (.int m) H=some v:=by
 unfold subAt;dsimp only;rw[DD h,Gn,if_pos (by omega)];exact hv
theorem Gp{α:Type}{o:Option cT}{ks vs:List ae}{kl:List ae->Option α}{kd:List ae->List ae->Option α}(h:o=some (.dict ks vs)):pq o kl kd=kd ks vs:=by rw[h];rfl
theorem Gq{α:Type}{H:AH}{a:Nat}{vs:List ae}{k:List ae->Option α}(h:H.get a=some (.list vs)):kh H a k=k vs:=DD h
theorem in_list{H:AH}{a:Nat}{vs:List ae}{x:ae}{b:Bool}(h:H.get a=some (.list vs))(hi:RF x vs=some b):isIn H x (.ref a)=some b:=(DD h).trans hi
theorem oS{H:AH}{a:Nat}{vs:List ae}(h:H.get a=some (.list vs)):gW (.ref a) H=some (.lst a 0):=Gq h
theorem nG{H:AH}{a i:Nat}{vs:List ae}(h:H.get a=some (.list vs))(e:vs.length<=i):(Iter.lst a i).Eb H=some none:=(Gq h).trans (by rw[List.getElem?_eq_none e])
theorem iV{H:AH}{a i:Nat}{vs:List ae}{v:ae}(h:H.get a=some (.list vs))(e:vs[i]? = some v):(Iter.lst a i).Eb H=some (some (v,.lst a (i+1))):=(Gq h).trans (by rw[e])
theorem Nt{H:AH}{i:Nat}:(Iter.nR i i).Eb H=some none:=if_neg (Nat.lt_irrefl i)
theorem Cg{H:AH}{i n:Nat}(h:i<n):(Iter.nR i n).Eb H=some (some (.int i,.nR (i+1) n)):=if_pos h
theorem Q7{α:Type}{i:Nat}{k:Nat->Option α}:vn (.ref i) k=k i:=rfl
theorem Wi{α:Type}{i:String}{k:String->Option α}:vStr (.str i) k=k i:=rfl
theorem ey{H:AH}{a m:Nat}{vs:List ae}{v:ae}(h:H.get a=some (.list vs))(hm:m<vs.length)(hl:vs.length<=100000):putItem (.ref a) (.int m) v H=some (H.set a (.list (vs.set m v))):=by
 unfold putItem;rw[Q7,DD h,Gn,if_pos ⟨Int.natCast_nonneg m,Int.ofNat_lt.mpr hm,hl⟩]
 rfl
theorem mq{H:AH}{σ:List (Option Ty)}{ns:List Bool}{m:Nat}{o:Option Ty}(d:Dn A H σ ns)(h:σ[m]? = some o):subAt (.ref A.kn) (.int m) H=some (oA o):=by
 have:=(List.getElem?_eq_some_iff.mp h).1;exact bT d.kn (by rw[List.getElem?_map,h];rfl) (by have:=d.small;omega)
theorem sO(t:Ty)(H:AH):bz .eI (ba t) .none H=some true:=by
 cases t with
 |con k=>cases k<;>rfl
 |iv m=>rfl
inductive Sh (σ:List (Option Ty)):Nat->Ty->Ty->Prop
 |con (k:K):Sh σ 0 (.con k) (.con k)
 |free {m:Nat} (h:σ[m]? = some none):Sh σ 0 (.iv m) (.iv m)
 |step {m j:Nat}{t r:Ty} (h:σ[m]? = some (some t)) (s:Sh σ j t r):Sh σ (j+1) (.iv m) r
theorem DE{j:Nat}{t r:Ty}(s:Sh σ j t r)(e:Env A H)(d:Dn A H σ ns){R:ek->Loc->AH->Prop}:∀{k:Nat},j<=k->(R .next [("self",.ref A.i),("told",ba r)] H)->
  WS (eF (k+1) (λl H=>aW au (run au n) (.and [.cmp (.sub (.loc "told") (.cst (.int 0))) .kg (.tup [.cst (.str "var"),.cst (.str "intvar")]),.cmp (.sub (.attr (.loc "self") "known") (.sub (.loc "told") (.cst (.int 1)))) .eI (.cst (.none))]) l H)
   (λl H=>execs au (run au n) [.asg "told" (.sub (.attr (.loc "self") "known") (.sub (.loc "told") (.cst (.int 1))))] l H) [("self",.ref A.i),("told",ba t)] H) R:=by
 induction s with
 |con c=>
  intro k _ h;refine fz ?_;cases c<;>(tb_rel;exact h)
 | @free m hm=>
  intro k _ h;refine fz ?_;tb_rel;refine aQ e.i1 e.i2 rfl rfl rfl rfl rfl ?_;tb_rel;refine⟨_,mq d hm,?_⟩;tb_rel;exact h
 | @step m j t r hm s ih=>
  intro k hk h;obtain⟨k,rfl⟩:∃k',k=k'+1:=⟨k-1,by omega⟩
  refine fz ?_;tb_rel;refine aQ e.i1 e.i2 rfl rfl rfl rfl rfl ?_;tb_rel;refine⟨_,mq d hm,?_⟩;tb_rel;refine bu (sO t H) ?_;tb_rel;refine aQ e.i1 e.i2 rfl rfl rfl rfl rfl ?_;tb_rel;refine⟨_,mq d hm,?_⟩;tb_rel;exact ih (by omega) h
theorem iW{j:Nat}{t r:Ty}(s:Sh σ j t r)(hj:j<=99999)(e:Env A H)(d:Dn A H σ ns)(h:Q (ba r) H):W (run au (n+1) 554 [.ref A.i,ba t] H) Q E:=by
 refine aw (fi:=⟨["self", "told"],[],ku⟩) (l:=[("self",.ref A.i),("told",ba t)]) ?_;tb_rel;refine pI (DE s e d hj ?_);tb_rel;exact h
theorem yH{F:dQ}{elt:aZ}{xs:List String}{single:Bool}{it:aZ}{l:Loc}{H:AH}{Q:ae->AH->Prop}{E:Nat->AH->Prop}(h:XE F it l H (λo H=>o=.tup []∧Q (.ref H.next) (H.new (.list []))) E):XE F (.comp elt xs single it) l H Q E:=
 lN (jf h (λo H z=>by obtain⟨rfl,z⟩:=z;exact⟨.seq [],rfl,sL (k:=99999) rfl z⟩) λ_ _ z=>z)
theorem eZ{j:Nat}{t r:Ty}(s:Sh σ j t r)(hj:j<=99999)(e:Env A H)(d:Dn A H σ ns)(h:Q (ba r) (H.new (.list []))):W (run au (n+2) 559 [.ref A.i,ba t] H) Q E:=by
 refine aw (fi:=⟨["self", "told"],[],fv⟩) (l:=[("self",.ref A.i),("told",ba t)]) ?_;tb_rel;refine⟨_,aA e.i1 e.i2 rfl rfl rfl,?_⟩;tb_rel;refine iW s hj e d ?_;tb_rel;refine yH ?_;tb_rel;refine bY (j7 r) ⟨rfl,?_⟩;tb_rel;refine bY (yF r) ?_;tb_rel;exact h
noncomputable abbrev No:Nat->Prop:=λ_=>False
theorem Fr.gj{M:Nat->Prop}{H H':AH}(f:Fr M H H')(o:cT):Fr M H (H'.new o):=f.trans (.new _ _)
theorem Fr.oU{M:Nat->Prop}{H H':AH}(f:Fr M H H'){a:Nat}(o:cT)(h:H.next<=a):Fr M H (H'.set a o):=f.fresh (Fr.set _ _ (.inr h))
theorem Fr.setM{M:Nat->Prop}{H H':AH}(f:Fr M H H'){a:Nat}(o:cT)(h:M a):Fr M H (H'.set a o):=f.trans (Fr.set _ _ h)
theorem Env.no{A:Ad}{H H':AH}(e:Env A H)(f:Fr No H H'):Env A H':=e.step (f.weaken λ_ z=>z.elim)
theorem Dn.no{A:Ad}{H H':AH}{σ:List (Option Ty)}{ns:List Bool}(d:Dn A H σ ns)(e:Env A H)(f:Fr No H H'):Dn A H' σ ns:=d.step e f λ_ z=>z.elim
theorem Env.mi{A:Ad}{H H':AH}(e:Env A H)(f:Fr (MI A) H H'):Env A H':=e.step (f.weaken λ_ z=>.inl z)
theorem mr{H:AH}{a:Nat}{vs:List ae}(h:H.get a=some (.list vs)):lk H (.ref a)=(true,.tup vs):=by unfold lk;dsimp only;rw[DD h];rfl
theorem ry{H:AH}{a b:Nat}{v:ae}{vs:List ae}(h:H.get a=some (.list (v::vs)))(hd:isData 9 (.tup (v::vs))=true)(h2:H.get b=some (.list [])):bz .ne (.ref a) (.ref b) H=some true:=by
 unfold bz Ea;simp only[mr h,mr h2,hd,Bool.true_and]
 rfl
theorem rz{H:AH}{a b:Nat}(h:H.get a=some (.list []))(h2:H.get b=some (.list [])):bz .ne (.ref a) (.ref b) H=some false:=by
 unfold bz Ea;simp only[mr h,mr h2]
 rfl
theorem yI(t:Ty):isData 8 (ba t)=true:=by
 cases t with
 |con c=>cases c<;>rfl
 |iv m=>rfl
theorem yJ(t:Ty):isData 7 (ba t)=true:=by
 cases t with
 |con c=>cases c<;>rfl
 |iv m=>rfl
theorem Gs(t:Ty):isData 9 (ba t)=true:=by
 cases t with
 |con c=>cases c<;>rfl
 |iv m=>rfl
instance:DecidableEq K:=λa b=>by cases a<;>cases b<;>first|exact isTrue rfl|exact isFalse (by intro h;cases h)
instance:DecidableEq Ty:=λa b=>match a,b with
 | .con a,.con b=>if h:a=b then isTrue (by rw[h])else isFalse (by intro e;cases e;exact h rfl)
 | .iv a,.iv b=>if h:a=b then isTrue (by rw[h])else isFalse (by intro e;cases e;exact h rfl)
 | .con _,.iv _=>isFalse (by intro h;cases h)
 | .iv _,.con _=>isFalse (by intro h;cases h)
theorem Nu(a b:Ty):ae.beq (ba a) (ba b)=decide (a=b):=by
 cases a with
 |con x=>cases b with
  |con y=>cases x<;>cases y<;>rfl
  |iv m=>cases x<;>rfl
 |iv m=>cases b with
  |con y=>cases y<;>rfl
  |iv m'=>
   show("intvar" == "intvar" && ((m:Int)==(m':Int)&&true))=_
   by_cases h:m=m'
   ·subst h;simp
   ·have:¬Ty.iv m=Ty.iv m':=by intro e;cases e;exact h rfl
    simp[h];omega
theorem K5(H:AH)(t:Ty):lk H (ba t)=(false,ba t):=by
 cases t with
 |con c=>cases c<;>rfl
 |iv m=>rfl
theorem K6(a b:Ty)(H:AH):bz .eq (ba a) (ba b) H=some (decide (a=b)):=by
 unfold bz Ea;rw[K5,K5];simp only[Gs,Bool.and_self,if_true,Nu,beq_self_eq_true,Bool.true_and]
theorem Sh.end_{j:Nat}{t r:Ty}(s:Sh σ j t r):Sh σ 0 r r:=by
 induction s with
 |con k=>exact .con k
 |free h=>exact .free h
 |step _ _ ih=>exact ih
theorem AW{u:Nat}{r:Ty}(s:Sh σ 0 r r)(hu:r≠.iv u)(e:Env A H)(d:Dn A H σ ns)(h:∀H',Fr No H H'->Q (.bool false) H'):W (run au (n+2) 566 [.ref A.i,ba (.iv u),ba r] H) Q E:=by
 refine aw (fi:=⟨["self", "unknown", "told"],[],lz⟩) (l:=[("self",.ref A.i),("unknown",ba (.iv u)),("told",ba r)]) ?_;tb_rel;have f1:Fr No H (H.new (.list [ba r])):=.new _ _;refine pI (fz (k:=99999) ?_);tb_rel;have f2:=f1.gj (.list []);have g2:((H.new (.list [ba r])).new (.list [])).get H.next=some (.list [ba r]):=(aH _ _ (Nat.lt_succ_self _)).trans (aj _ _);refine bu (r:=true) (ry g2 (by show(isData 8 (ba r)&&true)=true;rw[yI];rfl) (aj _ _)) ?_;tb_rel;refine⟨_,aA (e.no f2).i1 (e.no f2).i2 rfl rfl rfl,?_⟩;tb_rel;refine⟨_,aU g2 (.inr (.inr rfl)),?_⟩;tb_rel;refine pop_list (vs:=[]) g2 (ble rfl) ?_;have f3:=f2.oU (.list []) (Nat.le_refl H.next);tb_rel;refine iW s (by omega) (e.no f3) (d.no e f3) ?_;tb_rel;refine bu (r:=false) (by rw[K6];simp[hu]) ?_;tb_rel;have g3:(((H.new (.list [ba r])).new (.list [])).set H.next (.list [])).get H.next=some (.list []):=aF _ _ _;refine⟨_,aU g3 (.inr (.inl rfl)),?_⟩;tb_rel;refine bY (j7 r) ?_;tb_rel;refine nF g3 ?_;tb_rel;show WS (eF (99998+1) _ _ _ _) _;refine fz ?_;tb_rel;have f4:=f3.gj (.list []);refine bu (r:=false) (rz ((aH _ _ (Nat.lt_succ_of_lt (Nat.lt_succ_self _))).trans g3) (aj _ _)) ?_;tb_rel;exact h _ f4
noncomputable def iD(σ:List (Option Ty)):Ty->Ty->Option (List (Option Ty))
 | .con k,.con k'=>if k=k' then some σ else none
 | .iv u,.con .bool=>none
 | .iv u,.con k=>some (σ.set u (some (.con k)))
 | .con .bool,.iv v=>none
 | .con k,.iv v=>some (σ.set v (some (.con k)))
 | .iv u,.iv v=>if u=v then some σ else some (σ.set u (some (.iv v)))
theorem Dn.set{H:AH}(d:Dn A H σ ns)(e:Env A H)(u:Nat)(t:Ty)(hn:nv ns t)(YH:t≠.con .bool):Dn A (H.set A.kn (.list ((σ.map oA).set u (ba t)))) (σ.set u (some t)) ns where
 kn:=by rw[aF,List.map_set];rfl
 nu:=(aB _ _ (Ne.symm e.ne.1)).trans d.nu
 len:=by simp[d.len]
 small:=by simp[d.small]
 num:=λm t' h=>by
  by_cases q:u=m
  ·subst q
   have hl:=(List.getElem?_eq_some_iff.mp h).1;rw[List.getElem?_set_self (by simpa using hl)]at h;cases h;exact⟨hn,YH⟩
  ·rw[List.getElem?_set_ne q]at h;exact d.num m t' h
theorem R6(k:K):zG [.str ("x" ++ kS k)]=true:=rfl
theorem yK{u:Nat}(e:Env A H)(d:Dn A H σ ns)(h:∀H',Fr No H H'->E 128 H'):W (run au (n+3) 573 [.ref A.i,ba (.iv u),ba (.con .bool)] H) Q E:=by
 refine aw (fi:=⟨["self", "unknown", "told"],[],jY⟩) (l:=[("self",.ref A.i),("unknown",ba (.iv u)),("told",ba (.con .bool))]) ?_;tb_rel;refine rx ?_;tb_rel;refine⟨_,aA e.i1 e.i2 rfl rfl rfl,?_⟩;tb_rel;refine eZ (.con .bool) (by omega) e d ?_;tb_rel;refine⟨rfl,rfl,?_⟩;tb_rel;exact h _ (.new _ _)
theorem Ci{u:Nat}{r:Ty}(s:Sh σ 0 r r)(hu:r≠.iv u)(hb:r≠.con .bool)(hl:u<σ.length)(YI:nv ns r)(e:Env A H)(d:Dn A H σ ns)(h:∀H',Env A H'->Dn A H' (σ.set u (some r)) ns->Fr (MI A) H H'->Q .none H'):W (run au (n+3) 573 [.ref A.i,ba (.iv u),ba r] H) Q E:=by
 refine aw (fi:=⟨["self", "unknown", "told"],[],jY⟩) (l:=[("self",.ref A.i),("unknown",ba (.iv u)),("told",ba r)]) ?_;have step:∀H₁,Fr No H H₁->XB (run au (n+2)) [.gS (.attr (.loc "self") "known") (.sub (.loc "unknown") (.cst (.int 1))) (.loc "told")] [("self",.ref A.i),("unknown",ba (.iv u)),("told",ba r)] H₁ (pK Q E):=by
  intro H₁ f;have e1:=e.no f;have d1:=d.no e f;tb_rel;refine aQ e1.i1 e1.i2 rfl rfl rfl rfl rfl ?_;tb_rel;refine⟨H₁.set A.kn (.list ((σ.map oA).set u (ba r))),ey d1.kn (by rw[List.length_map];exact hl) (by rw[List.length_map];exact Nat.le_trans d.small (by decide)),?_⟩
  ·tb_rel
   exact h _ (e1.step (Fr.set _ _ (.inl (.inl rfl)))) (d1.set e1 u r YI hb) ((f.weaken λ_ z=>z.elim).setM _ (.inl rfl))
 have tail:XB (run au (n+2)) [.iff (.aE (.loc "self") "occurs" [.loc "unknown",.loc "told"]) [.dead] [],
   .gS (.attr (.loc "self") "known") (.sub (.loc "unknown") (.cst (.int 1))) (.loc "told")] [("self",.ref A.i),("unknown",ba (.iv u)),("told",ba r)] H (pK Q E):=by
  tb_rel;refine⟨_,aA e.i1 e.i2 rfl rfl rfl,?_⟩;tb_rel;refine AW s hu e d λH₁ f=>?_;ktd_rel;exact step H₁ f
 cases r with
 |con k=>cases k<;>first|exact absurd rfl hb|(refine aC ?_;ktd_rel;exact tail)
 |iv m=>refine aC ?_;ktd_rel;exact tail
theorem Sh.lt{u:Nat}(s:Sh σ 0 (.iv u) (.iv u)):u<σ.length:=by
 cases s with
 |free h=>exact(List.getElem?_eq_some_iff.mp h).1
theorem Fr.keep{M:Nat->Prop}{H H':AH}(f:Fr M H H'){a:Nat}{o:cT}(h:H.get a=some o)(hl:a<H.next)(hm:¬M a):H'.get a=some o:=(f.2 a hl hm).trans h
theorem Gu(e:Env A H){a:Nat}(h:H.next<=a):¬MI A a:=by
 rintro(rfl|rfl)
 ·exact absurd e.lm.1 (Nat.not_lt.mpr h)
 ·exact absurd e.lm.2.1 (Nat.not_lt.mpr h)
theorem DF{F:dQ}{k a:Nat}{l:Loc}{H₁:AH}{b:List bD}{R:ek->Loc->AH->Prop}(hl:aJ "left" l=some (.ref a))(ha:a<H₁.next)(hg:H₁.get a=some (.list []))(h:R .next l (H₁.new (.list []))):
  WS (eF (k+1) (λl H=>aW au F (.cmp (.loc "left") .ne (.lst [])) l H) (λl H=>execs au F b l H) l H₁) R:=by
 refine fz (bK (av hl (hU (aD ?_))));refine bu (r:=false) (rz ((aH _ _ ha).trans hg) (aj _ _)) ?_;exact .inr ⟨rfl,h⟩
theorem Cj(k:K)(H:AH):∃s,subAt (ba (.con k)) (.int 0) H=some (.str s)∧bz .kg (.str s) (.tup [.str "var",.str "intvar"]) H=some false:=by
 cases k<;>exact⟨_,rfl,rfl⟩
theorem add_str{s t:String}{H:AH}(h1:s.length<=1000)(h2:t.length<=1000):binOp .add (.str s) (.str t) H=some (.str (s++t),H):=if_pos ⟨h1,h2⟩
theorem Gv(k:K):(kS k).length<=5:=by cases k<;>decide
theorem Jq:(" and " : String).length<=10:=by decide
theorem Sh.Wj{j:Nat}{t r:Ty}(s:Sh σ j t r)(d:Dn A H σ ns)(h:nv ns t):nv ns r:=by
 induction s with
 |con k=>trivial
 |free _=>exact h
 |step hm _ ih=>exact ih (d.num _ _ hm).1
theorem DG{t1 t2 r1 r2:Ty}{j1 j2:Nat}(s1:Sh σ j1 t1 r1)(s2:Sh σ j2 t2 r2)(h1:j1<=99999)(h2:j2<=99999)(n1:nv ns t1)(n2:nv ns t2)(e:Env A H)(d:Dn A H σ ns)
  (h:match iD σ r1 r2 with|some bE=>∀H',Env A H'->Dn A H' bE ns->Fr (MI A) H H'->Q .none H'|none=>∀H',Fr No H H'->E 128 H'):W (run au (n+4) 587 [.ref A.i,ba t1,ba t2] H) Q E:=by
 refine aw (fi:=⟨["self", "one", "other"],[],mP⟩) (l:=[("self",.ref A.i),("one",ba t1),("other",ba t2)]) ?_;tb_rel;have f1:Fr No H (H.new (.list [.tup [ba t1,ba t2]])):=.new _ _;refine pI (fz (k:=99999) ?_);tb_rel;have f2:=f1.gj (.list []);have g2:((H.new (.list [.tup [ba t1,ba t2]])).new (.list [])).get H.next=some (.list [.tup [ba t1,ba t2]]):=(aH _ _ (Nat.lt_succ_self _)).trans (aj _ _);refine bu (r:=true) (ry g2 (by show(isData 8 (.tup [ba t1,ba t2])&&true)=true;show((isData 7 (ba t1)&&(isData 7 (ba t2)&&true))&&true)=true;rw[yJ,yJ];rfl) (aj _ _)) ?_;tb_rel;refine⟨_,aU g2 (.inr (.inr rfl)),?_⟩;tb_rel;refine pop_list (vs:=[]) g2 (ble rfl) ?_;have f3:=f2.oU (.list []) (Nat.le_refl H.next);have e3:=e.no f3;have d3:=d.no e f3;have g3:(((H.new (.list [.tup [ba t1,ba t2]])).new (.list [])).set H.next (.list [])).get H.next=some (.list []):=aF _ _ _;have l3:H.next<(((H.new (.list [.tup [ba t1,ba t2]])).new (.list [])).set H.next (.list [])).next:=Nat.lt_succ_of_lt (Nat.lt_succ_self _);generalize ((H.new (.list [.tup [ba t1,ba t2]])).new (.list [])).set H.next (.list [])=H3 at *;tb_rel;refine⟨_,aA e3.i1 e3.i2 rfl rfl rfl,?_⟩;tb_rel;refine iW s1 h1 e3 d3 ?_;tb_rel;refine⟨_,aA e3.i1 e3.i2 rfl rfl rfl,?_⟩;tb_rel;refine iW s2 h2 e3 d3 ?_;tb_rel;refine bu (K6 r1 r2 _) ?_;have fin:∀{l:Loc}{H₁:AH}{bE:List (Option Ty)}{ss:List bD},aJ "left" l=some (.ref H.next)->Env A H₁->Dn A H₁ bE ns->Fr (MI A) H3 H₁->(∀H',Env A H'->Dn A H' bE ns->Fr (MI A) H H'->Q .none H')->∀b,
   WS (eF (99998+1) (λl H=>aW au (run au (n+3)) (.cmp (.loc "left") .ne (.lst [])) l H) (λl H=>execs au (run au (n+3)) b l H) l H₁) (tT (run au (n+3)) [] (pK Q E)):=by
  intro l H₁ bE ss hl e' d' f' hQ b;have g':=f'.keep g3 l3 (Gu e (Nat.le_refl _));refine DF hl (Nat.lt_of_lt_of_le l3 f'.1) g' ?_;tb_rel;exact hQ _ (e'.no (.new _ _)) (d'.no e' (.new _ _)) (((f3.weaken λ_ z=>z.elim).trans f').gj _)
 by_cases hr:r1=r2
 ·subst hr
  have hu:iD σ r1 r1=some σ:=by cases r1<;>exact if_pos rfl
  rw[hu]at h;refine .inl ⟨by simp,?_⟩;tb_rel;exact fin (ss:=[]) rfl e3 d3 .refl h _
 ·refine .inr ⟨by simp[hr],?_⟩
  cases r1 with
  |iv u=>
   have hs:=s1.end_
   by_cases hb:r2=.con .bool
   ·subst hb
    tb_rel;refine⟨_,aA e3.i1 e3.i2 rfl rfl rfl,?_⟩;tb_rel;refine yK e3 d3 λH' f'=>?_;exact h H' (f3.trans f')
   ·have hu:iD σ (.iv u) r2=some (σ.set u (some r2)):=by
     cases r2 with
     |con k=>cases k<;>first|rfl|exact absurd rfl hb
     |iv v=>exact if_neg (c:=u=v) λq=>absurd (by rw[q]) hr
    rw[hu]at h;tb_rel;refine⟨_,aA e3.i1 e3.i2 rfl rfl rfl,?_⟩;tb_rel;refine Ci s2.end_ (λq=>hr q.symm) hb hs.lt (s2.Wj d n2) e3 d3 λH' e' d' f'=>?_;tb_rel;exact fin (ss:=[]) rfl e' d' f' h _
  |con k=>
   refine aI (Cj k H3) λs q1 q2=>?_;tb_rel;refine⟨_,q1,?_⟩;tb_rel;refine bu q2 ?_;cases r2 with
   |iv v=>
    by_cases hb:k=.bool
    ·subst hb
     tb_rel;refine⟨_,aA e3.i1 e3.i2 rfl rfl rfl,?_⟩;tb_rel;refine yK e3 d3 λH' f'=>?_;exact h H' (f3.trans f')
    ·have hu:iD σ (.con k) (.iv v)=some (σ.set v (some (.con k))):=by cases k<;>first|rfl|exact absurd rfl hb
     rw[hu]at h;tb_rel;refine⟨_,aA e3.i1 e3.i2 rfl rfl rfl,?_⟩;tb_rel;refine Ci (.con k) (by intro q;cases q) (by intro q;cases q;exact hb rfl) s2.end_.lt trivial e3 d3 λH' e' d' f'=>?_;tb_rel;exact fin (ss:=[]) rfl e' d' f' h _
   |con k'=>
    have Wl:k≠k':=λq=>hr (by rw[q]);have hu:iD σ (.con k) (.con k')=none:=if_neg Wl;rw[hu]at h;refine aI (Cj k' H3) λs' YJ YK=>?_;tb_rel;refine⟨_,YJ,?_⟩;tb_rel;refine bu YK ?_;tb_rel;refine⟨_,aA e3.i1 e3.i2 rfl rfl rfl,?_⟩;tb_rel;refine bY (DB k k' Wl) ?_;tb_rel;refine⟨_,aA e3.i1 e3.i2 rfl rfl rfl,?_⟩;tb_rel;have f4:Fr No H3 (H3.new (.list [])):=.new _ _;refine eZ (.con k) (by omega) e3 d3 ?_;tb_rel;refine bY (jh k) ?_;tb_rel;have l1:=Gv k;have l2:=Gv k';have l3:=Jq;refine⟨_,_,add_str (by omega) (by omega),?_⟩;tb_rel;refine⟨_,aA (e3.no f4).i1 (e3.no f4).i2 rfl rfl rfl,?_⟩;tb_rel;refine eZ (.con k') (by omega) (e3.no f4) (d3.no e3 f4) ?_;tb_rel;refine bY (jh k') ?_;refine⟨_,_,add_str (by rw[String.length_append];omega) (by omega),?_⟩;tb_rel;refine rx ?_;tb_rel;refine⟨_,_,add_str (by decide) (by rw[String.length_append,String.length_append];omega),?_⟩;tb_rel;refine⟨rfl,rfl,?_⟩;tb_rel;exact h _ ((f3.trans f4).gj _)
noncomputable def tag:Ty->String
 | .con .bool => "bool"
 | .con _ => "int"
 | .iv _ => "intvar"
theorem wk(t:Ty)(H:AH):subAt (ba t) (.int 0) H=some (.str (tag t)):=by
 cases t with
 |con k=>cases k<;>rfl
 |iv m=>rfl
theorem Nv(t:Ty)(s:String)(H:AH)(h:s = "ref" ∨ s = "adt" ∨ s = "never"):bz .eq (.str (tag t)) (.str s) H=some false:=by
 rcases h with rfl|rfl|rfl<;>(cases t with
  |con k=>cases k<;>rfl
  |iv m=>rfl)
theorem Gw(t:Ty)(H:AH):bz .eq (ba t) (.tup [.str "never"]) H=some false:=by
 cases t with
 |con k=>cases k<;>rfl
 |iv m=>rfl
theorem ji{j:Nat}{t r:Ty}(s:Sh σ j t r)(hj:j<=99999)(e:Env A H)(d:Dn A H σ ns)(h:Q (ba r) (H.new (.list []))):W (run au (n+3) 709 [.ref A.c,ba t] H) Q E:=by
 refine aw (fi:=⟨["self", "told"],[],hH⟩) (l:=[("self",.ref A.c),("told",ba t)]) ?_;tb_rel;refine aQ e.c1 e.c2 rfl rfl rfl rfl rfl ?_;refine⟨_,aA e.i1 e.i2 rfl rfl rfl,?_⟩;tb_rel;refine eZ s hj e d ?_;tb_rel;exact h
theorem AX(e:Env A H)(d:Dn A H σ ns)(hs:σ.length<1000)(h:∀H',Env A H'->Dn A H' (σ++[none]) (ns++[false])->Fr (MI A) H H'->Q (.tup [.str "var",.int σ.length]) H'):W (run au (n+2) 702 [.ref A.c] H) Q E:=by
 refine aw (fi:=⟨["self"],[],ky⟩) (l:=[("self",.ref A.c)]) ?_;tb_rel;refine aQ e.c1 e.c2 rfl rfl rfl rfl rfl ?_;refine⟨_,aA e.i1 e.i2 rfl rfl rfl,?_⟩;tb_rel;refine DC e d hs λH' e' d' f=>?_;tb_rel;exact h H' e' d' f
theorem AY{t1 t2 r1 r2:Ty}{j1 j2:Nat}{sp:ae}(s1:Sh σ j1 t1 r1)(s2:Sh σ j2 t2 r2)(h1:j1<=99999)(h2:j2<=99999)(n1:nv ns t1)(n2:nv ns t2)(e:Env A H)(d:Dn A H σ ns)
  (h:match iD σ r1 r2 with|some bE=>∀H',Env A H'->Dn A H' bE ns->Fr (MI A) H H'->Q .none H'|none=>∀H',Fr No H H'->E 129 H'):W (run au (n+5) 716 [.ref A.c,ba t1,ba t2,sp] H) Q E:=by
 refine aw (fi:=⟨["self", "one", "other", "spot"],[],kz⟩) (l:=[("self",.ref A.c),("one",ba t1),("other",ba t2),("spot",sp)]) ?_;tb_rel;refine AS rfl ?_;tb_rel;refine aQ e.c1 e.c2 rfl rfl rfl rfl rfl ?_;refine⟨_,aA e.i1 e.i2 rfl rfl rfl,?_⟩;tb_rel;refine DG s1 s2 h1 h2 n1 n2 e d ?_;cases hu:iD σ r1 r2 with
 |some bE=>
  rw[hu]at h;intro H' e' d' f;tb_rel;refine Np ?_;tb_rel;exact h H' e' d' f
 |none=>
  rw[hu]at h;intro H' f;tb_rel;refine⟨rfl,rfl,?_⟩;tb_rel;exact h H' f
theorem nH{t1 t2 r1 r2:Ty}{j1 j2:Nat}{a:ae}{rest:List ae}(s1:Sh σ j1 t1 r1)(s2:Sh σ j2 t2 r2)(h1:j1<=99999)(h2:j2<=99999)(n1:nv ns t1)(n2:nv ns t2)(e:Env A H)(d:Dn A H σ ns)
  (h:match iD σ r1 r2 with|some bE=>∀H',Env A H'->Dn A H' bE ns->Fr (MI A) H H'->Q (.tup (a::ba t1::.int 1::rest)) H'|none=>∀H',Fr No H H'->E 129 H'):W (run au (n+6) 822 [.ref A.c,.tup (a::ba t1::.int 1::rest),ba t2] H) Q E:=by
 refine aw (fi:=⟨["self", "made", "told"],[],jz⟩) (l:=[("self",.ref A.c),("made",.tup (a::ba t1::.int 1::rest)),("told",ba t2)]) ?_;tb_rel;refine⟨_,aA e.c1 e.c2 rfl rfl rfl,?_⟩;tb_rel;refine ji s1 h1 e d ?_;have f1:Fr No H (H.new (.list [])):=.new _ _;tb_rel;refine⟨_,aA (e.no f1).c1 (e.no f1).c2 rfl rfl rfl,?_⟩;tb_rel;refine ji s2 h2 (e.no f1) (d.no e f1) ?_;have f2:=f1.gj (.list []);tb_rel;refine bu (Gw r1 _) ?_;tb_rel;refine⟨_,wk r1 _,?_⟩;tb_rel;refine bu (Nv r1 _ _ (.inl rfl)) ?_;tb_rel;refine⟨_,aA (e.no f2).c1 (e.no f2).c2 rfl rfl rfl,?_⟩;tb_rel;refine AY s1 s2 h1 h2 n1 n2 (e.no f2) (d.no e f2) ?_;cases hu:iD σ r1 r2 with
 |some bE=>
  rw[hu]at h;intro H' e' d' f;tb_rel;exact h H' e' d' ((f2.weaken λ_ z=>z.elim).trans f)
 |none=>
  rw[hu]at h;intro H' f;tb_rel;exact h H' (f2.trans f)
end
noncomputable def SB(d:Nat)(H H':AH):Prop:=H'.next=H.next∧∀k,k≠d->H'.get k=H.get k
theorem SB.refl{d:Nat}{H:AH}:SB d H H:=⟨rfl,λ_ _=>rfl⟩
theorem SB.trans{d:Nat}{H H' Gk:AH}(x:SB d H H')(y:SB d H' Gk):SB d H Gk:=⟨y.1.trans x.1,λk h=>(y.2 k h).trans (x.2 k h)⟩
theorem Fr.sb{M:Nat->Prop}{H H' Gk:AH}{d:Nat}(f:Fr M H H')(s:SB d H' Gk)(hd:H.next<=d):Fr M H Gk:=f.fresh ⟨Nat.le_of_eq s.1.symm,λk _ b=>s.2 k λq=>b (.inr (q▸hd))⟩
section
variable{H:AH}{i C d:Nat}{ks vs:List ae}{ci:eJ}{a:String}{v:ae}{P:AH->Prop}{R:ek->Loc->AH->Prop}
theorem fa(h1:H.get i=some (.inst C d))(h2:H.get d=some (.bg ks vs))(hc:au.cls C=some ci)(hf:ci.fields.contains a=true)(hl:ks.length<=50)(ne:i≠d)
  (k:∀H',H'.get i=some (.inst C d)->H'.get d=some (.bg (putK (.str a) v ks vs).1 (putK (.str a) v ks vs).2)->SB d H H'->P H'):∃H',jJ au (.ref i) a v H=some H'∧P H':=by
 refine⟨H.set d (.bg (putK (.str a) v ks vs).1 (putK (.str a) v ks vs).2),?_,k _ ((aB _ _ ne).trans h1) (aF _ _ _) ⟨rfl,λb hb=>aB _ _ hb⟩⟩;unfold jJ;exact(sM h1 h2 hc).trans (if_pos ⟨hf,hl⟩)
end
section
variable{n:Nat}{A:Ad}{H:AH}{σ:List (Option Ty)}{ns:List Bool}{Q:ae->AH->Prop}{E:Nat->AH->Prop}
theorem yL{i d:Nat}{a b c e f:ae}(h1:H.get i=some (.inst 655 d))(h2:H.get d=some (.bg [] []))(ne:i≠d)
  (h:∀H',H'.get i=some (.inst 655 d)->H'.get d=some (.bg [.str "modules",.str "module",.str "generics",.str "self_type",.str "fresh"] [a,b,c,e,f])->SB d H H'->Q .none H'):W (run au (n+1) 616 [.ref i,a,b,c,e,f] H) Q E:=by
 refine aw (fi:=⟨["self", "modules", "module", "generics", "self_type", "fresh"],[],mQ⟩) (l:=[("self",.ref i),("modules",a),("module",b),("generics",c),("self_type",e),("fresh",f)]) ?_;tb_rel;refine fa h1 h2 rfl rfl (ble rfl) ne λH1 i1 d1 s1=>?_;tb_rel;refine fa i1 d1 rfl rfl (ble rfl) ne λH2 i2 d2 s2=>?_;tb_rel;refine fa i2 d2 rfl rfl (ble rfl) ne λH3 i3 d3 s3=>?_;tb_rel;refine fa i3 d3 rfl rfl (ble rfl) ne λH4 i4 d4 s4=>?_;tb_rel;refine fa i4 d4 rfl rfl (ble rfl) ne λH5 i5 d5 s5=>?_;tb_rel;exact h H5 i5 d5 ((((s1.trans s2).trans s3).trans s4).trans s5)
theorem Gx{n:Nat}{H:AH}(r s:ae){x v:ae}:run au (n+1) 647 [r,s,.tup [x,.tup [],.tup []],v] H=some (.ok v,H):=by kernel_rfl
noncomputable def Ut:List ae:=[.str "modules",.str "module",.str "generics",.str "self_type",.str "fresh"]
theorem AZ{i d g:Nat}{a b e f:ae}(k:K)(h1:H.get i=some (.inst 655 d))(h2:H.get d=some (.bg Ut [a,b,.ref g,e,f]))(h3:H.get g=some (.list []))(h:Q (ba (.con k)) H):
  W (run au (n+2) 640 [.ref i,.int 1,.tup [.str (kS k),.tup [],.tup []]] H) Q E:=by
 refine aw (fi:=⟨["self", "spot", "row"],[],kx⟩) (l:=[("self",.ref i),("spot",.int 1),("row",.tup [.str (kS k),.tup [],.tup []])]) ?_;have hb:∀v,run au (n+1) 647 [.ref i,.int 1,.tup [.str (kS k),.tup [],.tup []],v] H=some (.ok v,H):=λv=>Gx _ _;cases k<;>
 ·tb_rel
  refine aQ h1 h2 rfl rfl rfl rfl rfl ?_;refine bu (r:=false) (in_list h3 rfl) ?_;tb_rel;refine⟨_,aA h1 h2 rfl rfl rfl,?_⟩;tb_rel;refine bY (hb _) ?_;tb_rel;exact h
theorem pure_seq{elt:ae->AH->Out ae}{f:ae->ae}{c:Nat}:∀(ys:List ae) (acc:List ae) (H:AH) (k:Nat),(∀v∈ys,∀H,elt v H=some (.ok (f v),H))->H.get c=some (.list acc)->ys.length+1<=k->acc.length+ys.length<=100000->
  (∀H',SB c H H'->H'.get c=some (.list (acc++ys.map f))->Q (.ref c) H')->W (eO k elt c (.seq ys) H) Q E:=by
 intro zz;induction zz with
 |nil=>
  intro acc H k _ hg hk _ h;obtain⟨k,rfl⟩:∃k',k=k'+1:=⟨k-1,by simp at hk;omega⟩
  exact sL rfl (h H .refl (by simpa using hg))
 |cons y ys ih=>
  intro acc H k hf hg hk ha h;simp only[List.length_cons]at hk ha;obtain⟨k,rfl⟩:∃k',k=k'+1:=⟨k-1,by omega⟩
  refine pJ (it':=.seq ys) rfl (bY (hf y (.head _) H) ⟨acc,hg,by omega,?_⟩);refine ih (acc++[f y]) _ k (λv hv=>hf v (.tail _ hv)) (aF _ _ _) (by omega) (by simp;omega) λH' s g=>?_;refine h H' ((show SB c H (H.set c (.list (acc++[f y])))from⟨rfl,λb hb=>aB _ _ hb⟩).trans s) (by rw[g];simp)
theorem bw{F:dQ}{c:Nat}{ys:List ae}{H:AH}(h:H.get c=some (.list ys))(hl:ys.length<=100000)(q:Q (.tup ys) H):W (eK F (.bi (.type "tuple")) [.ref c] H) Q E:=by
 unfold eK rN;exact hJ (by decide) (hJ (by decide) (lL rfl (Gm h (lL hl q))))
theorem Gy{i d g:Nat}{a b e f:ae}(k:K)(h1:H.get i=some (.inst 655 d))(h2:H.get d=some (.bg Ut [a,b,.ref g,e,f]))(h3:H.get g=some (.list []))(li:i<H.next)(ld:d<H.next)(lg:g<H.next)(h:∀H',Fr No H H'->Q (ba (.con k)) H'):
  W (run au (n+3) 633 [.ref i,.int 1,.tup [.tup [.str (kS k),.tup [],.tup []]]] H) Q E:=by
 refine aw (fi:=⟨["self", "spot", "spath"],[],mS⟩) (l:=[("self",.ref i),("spot",.int 1),("spath",.tup [.tup [.str (kS k),.tup [],.tup []]])]) ?_;tb_rel;refine lN ?_;tb_rel;have f1:Fr No H (H.new (.list [])):=.new _ _;refine pure_seq (f:=λv=>match v with | .tup (x::_)=>x|v=>v) _ _ _ _ (λv hv H=>?_) (aj _ _) (ble rfl) (ble rfl) λH2 s2 g2=>?_
 ·simp only[List.mem_singleton]at hv
  subst hv
  rfl
 have f2:=f1.sb s2 (Nat.le_refl _);tb_rel;refine bw g2 (ble rfl) ?_;tb_rel;refine⟨_,aA (f2.keep h1 li id) (f2.keep h2 ld id) rfl rfl rfl,?_⟩;tb_rel;refine AZ k (f2.keep h1 li id) (f2.keep h2 ld id) (f2.keep h3 lg id) ?_;tb_rel;refine bu (sO _ _) ?_;tb_rel;exact h _ f2
theorem DH{i d g:Nat}{a b e f:ae}(k:K)(h1:H.get i=some (.inst 655 d))(h2:H.get d=some (.bg Ut [a,b,.ref g,e,f]))(h3:H.get g=some (.list []))(li:i<H.next)(ld:d<H.next)(lg:g<H.next)(h:∀H',Fr No H H'->Q (ba (.con k)) H'):
  W (run au (n+4) 621 [.ref i,nameA (kS k)] H) Q E:=by
 refine aw (fi:=⟨["self", "written"],[],mR⟩) (l:=[("self",.ref i),("written",nameA (kS k))]) ?_;tb_rel;refine⟨_,aA h1 h2 rfl rfl rfl,?_⟩;tb_rel;refine Gy k h1 h2 h3 li ld lg λH' f=>?_;tb_rel;exact h H' f
theorem mu(H:AH)(C:Nat):Fr No H ((H.new (.bg [] [])).new (.inst C H.next))∧((H.new (.bg [] [])).new (.inst C H.next)).get (H.next+1)=some (.inst C H.next)∧((H.new (.bg [] [])).new (.inst C H.next)).get H.next=some (.bg [] [])∧((H.new (.bg [] [])).new (.inst C H.next)).next=H.next+2:=
 ⟨(Fr.new _ _).gj _,aj _ _,(aH _ _ (Nat.lt_succ_self _)).trans (aj _ _),rfl⟩
theorem yM{g:Nat}{a b e f:ae}(k:K)(h3:H.get g=some (.list []))(lg:g<H.next)(h:∀H',Fr No H H'->Q (ba (.con k)) H'):
  W (run au (n+5) 667 [a,b,.ref g,e,nameA (kS k),f] H) Q E:=by
 refine aw (fi:=⟨["modules", "module", "generics", "self_type", "written", "fresh"],[.none],uS⟩) (l:=[("modules",a),("module",b),("generics",.ref g),("self_type",e),("written",nameA (kS k)),("fresh",f)]) ?_;tb_rel;show W (run au (n+3+1) 655 [a,b,.ref g,e,f] H) _ _;refine mj (g:=616) (by kernel_rfl) (ci:=⟨some 616,[("read",621),("path",633),("single",640),("bare",647)],["modules", "module", "generics", "self_type", "fresh"]⟩) (by kernel_rfl) rfl ?_;refine gq (mu H 655) λf0 g1 g2 nx=>?_;refine yL g1 g2 (Nat.succ_ne_self _) λH1 i1 d1 s1=>?_;have f1:=f0.sb s1 (Nat.le_refl _);refine⟨rfl,?_⟩;refine⟨_,aA i1 d1 rfl rfl rfl,?_⟩;tb_rel;refine DH k i1 d1 (f1.keep h3 lg id) (by rw[s1.1,nx];omega) (by rw[s1.1,nx];omega) (Nat.lt_of_lt_of_le lg f1.1) λH' f=>?_;tb_rel;exact h H' (f1.trans f)
theorem wm{F:dQ}{b:Nat}{H:AH}(h:H.get b=some (.dict [] []))(q:Q (.ref H.next) (H.new (.list []))):W (eK F (.bi (.type "list")) [.ref b] H) Q E:=by
 unfold eK rN;refine hJ (by decide) (hJ (by decide) (hJ (by decide) (lL rfl ?_)));show W (pq (H.get b) (λ_=>none) λks vs=>l0 ks (l0 vs (ok (.ref H.next) (H.new (.list []))))) Q E;rw[Gp h];exact q
theorem DI{i C d f:Nat}{ks vs:List ae}{ci:eJ}{a:String}(h1:H.get i=some (.inst C d))(h2:H.get d=some (.bg ks vs))(hc:au.cls C=some ci)(hm:ci.meths.lookup a=some f)(hv:(bN (.str a) ks vs).isNone=true)(h:Q .wR H):W (kQ au (.ref i) a H) Q E:=by
 refine bY ((sM h1 h2 hc).trans ?_) h;rw[hm];exact if_pos hv
theorem uX(k:K)(e:Env A H)(h:∀H',Fr No H H'->Q (ba (.con k)) H'):W (run au (n+6) 723 [.ref A.c,nameA (kS k)] H) Q E:=by
 refine aw (fi:=⟨["self", "written"],[],kC⟩) (l:=[("self",.ref A.c),("written",nameA (kS k))]) ?_;tb_rel;refine aQ e.c1 e.c2 rfl rfl rfl rfl rfl ?_;tb_rel;refine wm e.bd ?_;have f1:Fr No H (H.new (.list [])):=.new _ _;have e1:=e.no f1;obtain⟨w1,w2,w3,w4,w5,w6,w7,hw⟩:=e1.w2;tb_rel;refine aQ e1.c1 e1.c2 rfl rfl rfl rfl rfl ?_;refine aQ e1.w1 hw rfl rfl rfl rfl rfl ?_;tb_rel;refine aQ e1.c1 e1.c2 rfl rfl rfl rfl rfl ?_;tb_rel;refine aQ e1.c1 e1.c2 rfl rfl rfl rfl rfl ?_;tb_rel;refine DI e1.c1 e1.c2 rfl rfl rfl ?_;tb_rel;refine yM k (aj _ _) (Nat.lt_succ_self _) λH' f=>?_;tb_rel;refine bY (AV k) ?_;tb_rel;exact h _ ((f1.trans f).gj _)
end
noncomputable def iE(n:Nat):List ae:=(List.range n).map λj=>.str (vS j)
noncomputable def Jr(n:Nat):List ae:=(List.range n).map λ(j:Nat)=>.int (j:Int)
theorem Gz{a b:Nat}(h:a≠b):Nat.beq a b=false:=by
 cases q:Nat.beq a b with
 |false=>rfl
 |true=>exact absurd (Nat.eq_of_beq_eq_true q) h
theorem GA:∀{x y:Nat},x<6->y<6->ae.beq (.str (vS x)) (.str (vS y))=Nat.beq y x:=by
 have h:((List.range 6).all λx=>(List.range 6).all λy=>ae.beq (.str (vS x)) (.str (vS y))==Nat.beq y x)=true:=by rfl
 intro x y hx hy;exact eq_of_beq (List.all_eq_true.mp (List.all_eq_true.mp h x (List.mem_range.mpr hx)) y (List.mem_range.mpr hy))
theorem GB{k v:ae}{f:Nat->ae}{i c:Nat}(hi:i<c)(hb:∀j,j<c->ae.beq k (f j)=Nat.beq j i):∀(d m l:Nat) {vs:List ae},m+d=i->m+l=c->vs[d]? = some v->bN k ((List.range' m l).map f) vs=some v:=by
 intro zz;induction zz with
 |zero=>
  intro m b0 kT e e' h;cases b0 with
  |zero=>
   exact absurd (Nat.lt_of_lt_of_le hi (Nat.le_of_eq e'.symm)) (Nat.not_lt.mpr (Nat.le.intro e))
  |succ l=>
   cases kT with
   |nil=>
    exact absurd h nn
   |cons w vs=>
    cases e;exact(if_pos ((hb m hi).trans (Nat.beq_refl m))).trans h
 |succ d ih=>
  intro m rj kW e e' h;cases rj with
  |zero=>
   exact absurd (Nat.lt_of_lt_of_le hi (Nat.le_of_eq e'.symm)) (Nat.not_lt.mpr (Nat.le.intro e))
  |succ l=>
   cases kW with
   |nil=>
    exact absurd h nn
   |cons w vs=>
    exact(if_neg λq=>absurd ((hb m (Nat.lt_of_le_of_lt (Nat.le.intro e) hi)).symm.trans q) (by rw[Gz (Nat.ne_of_lt (Nat.lt_of_lt_of_le (Nat.lt_add_of_pos_right (Nat.succ_pos d)) (Nat.le_of_eq e)))];exact Bool.false_ne_true)).trans (ih (m+1) l ((Nat.succ_add_eq_add_succ m d).trans e) ((Nat.succ_add_eq_add_succ m l).trans e') h)
theorem K7{n x:Nat}{vs:List ae}{v:ae}(hn:n<=6)(hx:x<n)(h:vs[x]? = some v):bN (.str (vS x)) (iE n) vs=some v:=by
 unfold iE;rw[List.range_eq_range'];exact GB (f:=λj=>.str (vS j)) hx (λj hj=>GA (Nat.lt_of_lt_of_le hx hn) (Nat.lt_of_lt_of_le hj hn)) x 0 n (Nat.zero_add x) (Nat.zero_add n) h
theorem Js{n x:Nat}(hn:n<=6)(hx:x<n):bN (.str (vS x)) (iE n) (Jr n)=some (.int x):=K7 hn hx (by simp[Jr,hx])
theorem GC{k v:ae}:∀{ks vs:List ae},(∀a∈ks,ae.beq k a=false)->ks.length=vs.length->putK k v ks vs=(ks++[k],vs++[v]):=by
 intro ks;induction ks with
 |nil=>
  intro vs _ h;cases vs with
  |nil=>rfl
  |cons _ _=>cases h
 |cons a ks ih=>
  intro vs hb h;cases vs with
  |nil=>cases h
  |cons w vs=>
   have q:=hb a List.mem_cons_self;refine(if_neg (by rw[q];exact Bool.false_ne_true)).trans ?_;rw[ih (λb hm=>hb b (List.mem_cons_of_mem _ hm)) (Nat.succ.inj h)]
   rfl
theorem Ck{n:Nat}(hn:n<6){v:ae}{vs:List ae}(h:vs.length=n):putK (.str (vS n)) v (iE n) vs=(iE (n+1),vs++[v]):=by
 have e:iE (n+1)=iE n++[.str (vS n)]:=by unfold iE;rw[List.range_succ,List.map_append];rfl
 rw[e];refine GC (λa hm=>?_) (by rw[h,iE,List.length_map,List.length_range]);refine aI (List.mem_map.mp hm) λy hy Uu=>?_;subst Uu;have hy:=List.mem_range.mp hy;exact(GA hn (Nat.lt_trans hy hn)).trans (Gz (Nat.ne_of_lt hy))
theorem Nw{n:Nat}(hn:n<6):putK (.str (vS n)) (.int n) (iE n) (Jr n)=(iE (n+1),Jr (n+1)):=by
 rw[Ck hn (by rw[Jr,List.length_map,List.length_range])];unfold Jr;rw[List.range_succ,List.map_append];rfl
theorem Jt{x:Nat}(hx:x<6)(H:AH):bz .eq (.str (vS x)) (.str "Self") H=some false:=by
 have h:((List.range 6).all λx=>ae.beq (.str (vS x)) (.str "Self")==false)=true:=by rfl
 exact congrArg some (eq_of_beq (List.all_eq_true.mp h x (List.mem_range.mpr hx)))
structure Lc(A:Ad)(H:AH)(ts:List Ty):Prop where
 lo:∃rs:List Nat,H.get A.lo=some (.list (rs.map .ref))∧rs.length=ts.length∧∀j r t,rs[j]? = some r->ts[j]? = some t->H.get r=some (.list [.str (vS j),ba t,.bool false])∧r<H.next∧¬MI A r∧¬ML A r
 sc:H.get A.sc=some (.list [.ref A.s0,.ref A.s1])
 s1:H.get A.s1=some (.dict (iE ts.length) (Jr ts.length))
 le:ts.length<=6
theorem Lc.mi{A:Ad}{H H':AH}{ts:List Ty}(x:Lc A H ts)(e:Env A H)(f:Fr (MI A) H H'):Lc A H' ts where
 lo:=by
  refine cm x.lo λrs h1 h2 h3=>?_;refine⟨rs,(f.2 _ e.lm.2.2.1 λz=>e.ne.2.2.2.2 _ z (.inl rfl)).trans h1,h2,λj r t hr ht=>?_⟩;refine gq (h3 j r t hr ht) λa b c d=>?_;exact⟨f.keep a b c,Nat.lt_of_lt_of_le b f.1,c,d⟩
 sc:=(f.2 _ e.lm.2.2.2.2 λz=>e.ne.2.2.2.2 _ z (.inr (.inr rfl))).trans x.sc
 s1:=(f.2 _ e.lm.2.2.2.1 λz=>e.ne.2.2.2.2 _ z (.inr (.inl rfl))).trans x.s1
 le:=x.le
theorem Lc.no{A:Ad}{H H':AH}{ts:List Ty}(x:Lc A H ts)(e:Env A H)(f:Fr No H H'):Lc A H' ts:=x.mi e (f.weaken λ_ z=>z.elim)
section
variable{n:Nat}{A:Ad}{H:AH}{σ:List (Option Ty)}{ns:List Bool}{ts:List Ty}{Q:ae->AH->Prop}{E:Nat->AH->Prop}
theorem in_dict{F:dQ}{H:AH}{b:Nat}{s:String}{ks vs:List ae}{op:rh}(h:H.get b=some (.dict ks vs)):bz .kg (.str s) (.ref b) H=some (bN (.str s) ks vs).isSome:=by
 show isIn H (.str s) (.ref b)=_;exact Gp h
theorem dO{H:AH}{b:Nat}{s:String}{ks vs:List ae}{v:ae}(h:H.get b=some (.dict ks vs))(hf:bN (.str s) ks vs=some v):subAt (.ref b) (.str s) H=some v:=by
 exact(Gp h).trans hf
theorem DJ{x:Nat}(hx:x<ts.length)(e:Env A H)(c:Lc A H ts)(h:∀H',Fr No H H'->Q (.int x) H'):W (run au (n+1) 758 [.ref A.c,.str (vS x)] H) Q E:=by
 refine aw (fi:=⟨["self", "name"],[],kE⟩) (l:=[("self",.ref A.c),("name",.str (vS x))]) ?_;tb_rel;refine jg (Jm (AQ (av rfl ?_)));refine aQ e.c1 e.c2 rfl rfl rfl rfl rfl ?_;refine⟨_,_,rfl,c.sc,by simp,?_⟩;have f1:Fr No H (H.new (.list [.ref A.s1,.ref A.s0])):=.new _ _;have c1:=c.no e f1;refine⟨.lst H.next 0,oS (aj _ _),?_⟩;refine ig (k:=99999) (v:=.ref A.s1) (it':=.lst H.next 1) (iV (aj _ _) rfl) ?_;tb_rel;have hf:=Js c.le hx;refine bu (in_dict (F:=run au n) (op:=.kg) c1.s1) ?_;rw[hf];tb_rel;refine⟨_,dO c1.s1 hf,?_⟩;tb_rel;exact h _ f1
noncomputable def Wm:List ae:=[.str "checker",.str "known",.str "here"]
theorem Ju{i d:Nat}{a:ae}(h1:H.get i=some (.inst 286 d))(h2:H.get d=some (.bg [] []))(ne:i≠d)(li:i<H.next)(ld:d<H.next)
  (h:∀H' k1 k2,H'.get i=some (.inst 286 d)->H'.get d=some (.bg Wm [a,.ref k1,.ref k2])->H'.get k1=some (.dict [] [])->H'.get k2=some (.dict [] [])->H.next<=k1->k1<k2->k2<H'.next->Fr (λk=>k=d) H H'->Q .none H'):
  W (run au (n+1) 184 [.ref i,a] H) Q E:=by
 refine aw (fi:=⟨["self", "checker"],[],fR⟩) (l:=[("self",.ref i),("checker",a)]) ?_;tb_rel;refine fa h1 h2 rfl rfl (ble rfl) ne λH1 i1 d1 s1=>?_;tb_rel;have YL:i<H1.next:=by rw[s1.1];exact li
 have YM:d<H1.next:=by rw[s1.1];exact ld
 have YN:=(aH H1 (.dict [] []) YL).trans i1;have YO:=(aH H1 (.dict [] []) YM).trans d1;refine fa YN YO rfl rfl (ble rfl) ne λH2 i2 d2 s2=>?_;have n2:H2.next=H.next+1:=by rw[s2.1];show H1.next+1=_;rw[s1.1]
 tb_rel;have Uv:=(aH H2 (.dict [] []) (by omega)).trans i2;have Uw:=(aH H2 (.dict [] []) (by omega)).trans d2;refine fa Uv Uw rfl rfl (ble rfl) ne λH3 i3 d3 s3=>?_;have n3:H3.next=H.next+2:=by rw[s3.1];show H2.next+1=_;rw[n2]
 tb_rel;have n1:H1.next=H.next:=s1.1;have k1:H3.get H1.next=some (.dict [] []):=by
  rw[s3.2 _ (by omega),aH _ _ (by omega),s2.2 _ (by omega)];exact aj _ _
 have k2:H3.get H2.next=some (.dict [] []):=by
  rw[s3.2 _ (by omega)];exact aj _ _
 refine h H3 H1.next H2.next i3 d3 k1 k2 (by rw[s1.1];exact Nat.le_refl _) (by rw[n2,s1.1];exact Nat.lt_succ_self _) (by omega) ⟨by omega,λk hk hd=>?_⟩;rw[s3.2 k hd,aH _ _ (by omega),s2.2 k hd,aH _ _ (by rw[s1.1];exact hk),s1.2 k hd]
theorem wo{x:Nat}(h:∀H',Fr No H H'->Q (.tup [.str (vS x)]) H'):W (run au (n+1) 841 [.tup [.tup [.str (vS x),.tup [],.tup []]]] H) Q E:=by
 refine aw (fi:=⟨["spath"],[],su⟩) (l:=[("spath",.tup [.tup [.str (vS x),.tup [],.tup []]])]) ?_;tb_rel;refine lN ?_;tb_rel;have f1:Fr No H (H.new (.list [])):=.new _ _;refine pure_seq (f:=λv=>match v with | .tup (x::_)=>x|v=>v) _ _ _ _ (λv hv H=>?_) (aj _ _) (ble rfl) (ble rfl) λH2 s2 g2=>?_
 ·simp only[List.mem_singleton]at hv
  subst hv
  rfl
 tb_rel;refine bw g2 (ble rfl) ?_;tb_rel;exact h _ (f1.sb s2 (Nat.le_refl _))
theorem yN{a b c d:ae}(h:E 104 H):W (run au (n+1) 986 [a,b,c,d] H) Q E:=by
 refine aw (fi:=⟨["module", "names", "space", "spot"],[.int 0],lF⟩) (l:=[("module",a),("names",b),("space",c),("spot",d)]) ?_;tb_rel;refine rx ?_;tb_rel;refine⟨rfl,rfl,?_⟩;tb_rel;exact h
theorem sP{x:Nat}(hx:x<6)(e:Env A H)(h:∀H',Fr No H H'->Q .none H'):W (run au (n+2) 784 [.ref A.c,.tup [.tup [.str (vS x),.tup [],.tup []]],.int 1] H) Q E:=by
 refine aw (fi:=⟨["self", "spath", "spot"],[],fV⟩) (l:=[("self",.ref A.c),("spath",.tup [.tup [.str (vS x),.tup [],.tup []]]),("spot",.int 1)]) ?_;tb_rel;refine bu (Jt hx H) ?_;tb_rel;refine yD rfl ?_;obtain⟨w1,w2,w3,w4,w5,w6,w7,hw⟩:=e.w2;obtain⟨k1,k2,k3,k4,k5,k6,k7,hk⟩:=e.k2;tb_rel;refine aQ e.c1 e.c2 rfl rfl rfl rfl rfl ?_;refine aQ e.w1 hw rfl rfl rfl rfl rfl ?_;refine⟨_,sN e.k1 hk rfl rfl rfl rfl rfl,?_⟩;tb_rel;refine aQ e.c1 e.c2 rfl rfl rfl rfl rfl ?_;tb_rel;refine wo λH' f=>?_;tb_rel;show W (run au (n+1) 986 [.str "",.tup [.str (vS x)],.str "value",.int 1] H') _ _;refine yN ?_;refine⟨rfl,?_⟩;tb_rel;exact h H' f
theorem R7{n:Nat}(hn:n<6):bN (.str (vS n)) [] []=none:=rfl
theorem oV{a:Nat}{s:String}{ks vs:List ae}{v:ae}{H:AH}(h:H.get a=some (.dict ks vs))(hl:ks.length<=50):putItem (.ref a) (.str s) v H=some (H.set a (.dict (putK (.str s) v ks vs).1 (putK (.str s) v ks vs).2)):=by
 exact(Gp h).trans (if_pos hl)
theorem sQ{a:Nat}{vs:List ae}{v:ae}{H:AH}(h:H.get a=some (.list vs))(hl:vs.getLast? = some v):subAt (.ref a) (.int (-1)) H=some v:=by
 unfold subAt;dsimp only;rw[DD h,Gn,if_neg (by decide),if_pos rfl];exact hl
theorem Lc.Jv{t:Ty}(e:Env A H)(c:Lc A H ts)(hn:ts.length<6):∃rs:List Nat,H.get A.lo=some (.list (rs.map .ref))∧rs.length=ts.length∧
  Lc A (((H.new (.list [.str (vS ts.length),ba t,.bool false])).set A.lo (.list (rs.map .ref++[.ref H.next]))).set A.s1 (.dict (iE (ts.length+1)) (Jr (ts.length+1)))) (ts++[t]):=by
 refine cm c.lo λrs h1 h2 h3=>?_;refine⟨rs,h1,h2,?_⟩;have lm:=e.lm;have ne:=e.ne;exact{
  lo:=by
   refine⟨rs++[H.next],?_,by simp[h2],λj r t' hr ht=>?_⟩
   ·rw[aB _ _ ne.2.1,aF];simp
   ·by_cases hj:j<rs.length
    ·rw[List.getElem?_append_left hj]at hr
     rw[List.getElem?_append_left (by omega)]at ht
     refine gq (h3 j r t' hr ht) λa b cc d=>?_
     refine⟨?_,Nat.lt_succ_of_lt b,cc,d⟩
     rw[aB _ _ (λq=>d (.inr (.inl q))),aB _ _ (λq=>d (.inl q)),aH _ _ b];exact a
    ·rw[List.getElem?_append_right (by omega)]at hr
     rw[List.getElem?_append_right (by omega)]at ht
     have YQ:j-rs.length=0:=by
      have:=(List.getElem?_eq_some_iff.mp hr).1
      simp at this;omega
     rw[YQ]at hr
     rw[show j-ts.length=0 by omega]at ht
     simp only[List.getElem?_cons_zero,Option.some.injEq]at hr ht
     subst hr ht
     have YR:j=ts.length:=by omega
     subst YR
     refine⟨?_,Nat.lt_succ_self _,Gu e (Nat.le_refl _),?_⟩
     ·rw[aB _ _ (Nat.ne_of_gt lm.2.2.2.1),aB _ _ (Nat.ne_of_gt lm.2.2.1)]
      exact aj _ _
     ·rintro(q|q|q)
      ·exact absurd lm.2.2.1 (by rw[<-q];exact Nat.lt_irrefl _)
      ·exact absurd lm.2.2.2.1 (by rw[<-q];exact Nat.lt_irrefl _)
      ·exact absurd lm.2.2.2.2 (by rw[<-q];exact Nat.lt_irrefl _)
  sc:=by rw[aB _ _ (Ne.symm ne.2.2.2.1),aB _ _ (Ne.symm ne.2.2.1),aH _ _ lm.2.2.2.2];exact c.sc
  s1:=by rw[aF];simp
  le:=by simp;omega }
theorem yO{t:Ty}(hn:ts.length<6)(e:Env A H)(c:Lc A H ts)(h:∀H',Lc A H' (ts++[t])->Fr (ML A) H H'->Q (.int ts.length) H'):
  W (run au (n+2) 751 [.ref A.c,.str (vS ts.length),ba t,.bool false,.int 1] H) Q E:=by
 refine aw (fi:=⟨["self", "name", "told", "is_mut", "spot"],[],iR⟩) (l:=[("self",.ref A.c),("name",.str (vS ts.length)),("told",ba t),("is_mut",.bool false),("spot",.int 1)]) ?_;refine cm (c.Jv (t:=t) e hn) λrs h1 h2 h3=>?_;have lm:=e.lm;have ne:=e.ne;tb_rel;refine⟨_,aA e.c1 e.c2 rfl rfl rfl,?_⟩;tb_rel;show W (run au (n+1) 744 [.ref A.c,.str (vS ts.length),ba t,.bool false] H) _ _;refine aw (fi:=⟨["self", "name", "told", "is_mut"],[],gy⟩) (l:=[("self",.ref A.c),("name",.str (vS ts.length)),("told",ba t),("is_mut",.bool false)]) ?_;tb_rel;refine aQ e.c1 e.c2 rfl rfl rfl rfl rfl ?_;refine⟨_,aU h1 (.inl rfl),?_⟩;tb_rel;have f1:Fr (ML A) H (H.new (.list [.str (vS ts.length),ba t,.bool false])):=.new _ _;have g1:=f1.2 _ lm.2.2.1;have lo1:(H.new (.list [.str (vS ts.length),ba t,.bool false])).get A.lo=some (.list (rs.map .ref)):=(aH _ _ lm.2.2.1).trans h1;refine append_list lo1 (by simp[h2];omega) ?_;have f2:=f1.setM (.list (rs.map .ref++[.ref H.next])) (.inl rfl:ML A A.lo);have e2:=e.step (f2.weaken λk z=>.inr z);tb_rel;refine aQ e2.c1 e2.c2 rfl rfl rfl rfl rfl ?_;tb_rel;refine len_list (aF _ _ _) (by simp[h2];omega) ?_;tb_rel;refine aQ e2.c1 e2.c2 rfl rfl rfl rfl rfl ?_;tb_rel;have VF:((H.new (.list [.str (vS ts.length),ba t,.bool false])).set A.lo (.list (rs.map .ref++[.ref H.next]))).get A.sc=some (.list [.ref A.s0,.ref A.s1]):=by
  rw[aB _ _ (Ne.symm ne.2.2.1),aH _ _ lm.2.2.2.2];exact c.sc
 have YS:((H.new (.list [.str (vS ts.length),ba t,.bool false])).set A.lo (.list (rs.map .ref++[.ref H.next]))).get A.s1=some (.dict (iE ts.length) (Jr ts.length)):=by
  rw[aB _ _ (Ne.symm ne.2.1),aH _ _ lm.2.2.2.1];exact c.s1
 refine⟨_,sQ VF rfl,?_⟩;tb_rel;refine⟨_,oV YS (by simp[iE];omega),?_⟩;have num:(ae.int ((((rs.map ae.ref++[ae.ref H.next]:List ae).length:Nat):Int)-1))=.int ts.length:=by
  congr 1;simp[h2]
 rw[num,Nw hn];tb_rel;exact h _ h3 (f2.setM _ (.inr (.inl rfl)))
end
structure PR(A:Ad)(i d k1 k2:Nat)(H:AH):Prop where
 i1:H.get i=some (.inst 286 d)
 i2:H.get d=some (.bg Wm [.ref A.c,.ref k1,.ref k2])
 g1:H.get k1=some (.dict [] [])
 g2:H.get k2=some (.dict [] [])
 lt:i<H.next∧d<H.next∧k1<H.next∧k2<H.next
 no:¬ML A i∧¬ML A d∧¬ML A k1∧¬ML A k2
theorem PR.Wn{A:Ad}{i d k1 k2:Nat}{H H':AH}(p:PR A i d k1 k2 H)(f:Fr No H H'):PR A i d k1 k2 H':=
 ⟨f.keep p.i1 p.lt.1 id,f.keep p.i2 p.lt.2.1 id,f.keep p.g1 p.lt.2.2.1 id,f.keep p.g2 p.lt.2.2.2 id,⟨Nat.lt_of_lt_of_le p.lt.1 f.1,Nat.lt_of_lt_of_le p.lt.2.1 f.1,Nat.lt_of_lt_of_le p.lt.2.2.1 f.1,Nat.lt_of_lt_of_le p.lt.2.2.2 f.1⟩,p.no⟩
section
variable{n:Nat}{A:Ad}{H:AH}{σ:List (Option Ty)}{ns:List Bool}{ts:List Ty}{Q:ae->AH->Prop}{E:Nat->AH->Prop}{i d k1 k2:Nat}
theorem DK{t:Ty}(hn:ts.length<6)(e:Env A H)(c:Lc A H ts)(p:PR A i d k1 k2 H)(he:k2≠A.s0∧k2≠A.c∧k2≠A.cd)
  (hl:∀H',Lc A H' (ts++[t])->Fr (ML A) H H'->Q (.int ts.length) (H'.set k2 (.dict [.str (vS ts.length)] [.tup [.int ts.length,ba t,.str "move",.bool false]]))):
  W (run au (n+3) 226 [.ref i,.str (vS ts.length),ba t,.bool false,.str "move",.int 1] H) Q E:=by
 refine aw (fi:=⟨["self", "name", "t", "is_mut", "way", "spot"],[],fp⟩) (l:=[("self",.ref i),("name",.str (vS ts.length)),("t",ba t),("is_mut",.bool false),("way",.str "move"),("spot",.int 1)]) ?_;tb_rel;refine aQ p.i1 p.i2 rfl rfl rfl rfl rfl ?_;refine bu (in_dict (F:=run au n) (op:=.kg) p.g2) ?_;tb_rel;refine aQ p.i1 p.i2 rfl rfl rfl rfl rfl ?_;refine bu (in_dict (F:=run au n) (op:=.kg) p.g1) ?_;tb_rel;refine aQ p.i1 p.i2 rfl rfl rfl rfl rfl ?_;refine⟨_,aA e.c1 e.c2 rfl rfl rfl,?_⟩;tb_rel;refine yO hn e c λH' c' f=>?_;tb_rel;refine aQ (f.keep p.i1 p.lt.1 p.no.1) (f.keep p.i2 p.lt.2.1 p.no.2.1) rfl rfl rfl rfl rfl ?_;tb_rel;refine⟨_,oV (f.keep p.g2 p.lt.2.2.2 p.no.2.2.2) (by simp),?_⟩;tb_rel;exact hl H' c' f
theorem tU{x:Nat}{t m:ae}(hx:x<6)(e:Env A H)(p:PR A i d k1 k2 H)(h:∀H',Fr No H H'->Q .none H'):W (run au (n+3) 219 [.ref i,.str (vS x),.int 1,t,m] H) Q E:=by
 refine aw (fi:=⟨["self", "name", "spot", "t", "mode"],[],dW⟩) (l:=[("self",.ref i),("name",.str (vS x)),("spot",.int 1),("t",t),("mode",m)]) ?_;tb_rel;refine aQ p.i1 p.i2 rfl rfl rfl rfl rfl ?_;refine⟨_,aA e.c1 e.c2 rfl rfl rfl,?_⟩;tb_rel;refine sP hx e λH' f=>?_;tb_rel;exact h H' f
theorem A0:run au (n+1) 212 [.ref i,.bool false,.bool false,.str "move",.int 1] H=some (.ok (.str "move"),H):=by kernel_rfl
noncomputable def yP(x:Nat):ae:=.tup [.str "name",.int 1,.str (vS x),.bool false,.bool false,.none]
noncomputable def pL(t:Ty)(x:Nat):ae:=.tup [.str "bind",ba t,.int x,.str "move",.none]
theorem tV{t:Ty}(hn:ts.length<6)(e:Env A H)(c:Lc A H ts)(p:PR A i d k1 k2 H)(he:k2≠A.s0∧k2≠A.c∧k2≠A.cd)
  (hl:∀H₁ H',Fr No H H₁->Lc A H' (ts++[t])->Fr (ML A) H₁ H'->Q (pL t ts.length) (H'.set k2 (.dict [.str (vS ts.length)] [.tup [.int ts.length,ba t,.str "move",.bool false]]))):
  W (run au (n+4) 205 [.ref i,yP ts.length,ba t,.str "move"] H) Q E:=by
 refine aw (fi:=⟨["self", "pattern", "t", "mode"],[],dU⟩) (l:=[("self",.ref i),("pattern",yP ts.length),("t",ba t),("mode",.str "move")]) ?_;tb_rel;refine⟨_,aA p.i1 p.i2 rfl rfl rfl,?_⟩;tb_rel;refine tU hn e p λH₁ qT=>?_;have e1:=e.no qT;have p1:=p.Wn qT;have c1:=c.no e qT;tb_rel;refine⟨_,aA p1.i1 p1.i2 rfl rfl rfl,?_⟩;tb_rel;refine bY (A0 (n:=n+2) (i:=i)) ?_;tb_rel;refine⟨_,aA p1.i1 p1.i2 rfl rfl rfl,?_⟩;tb_rel;refine DK hn e1 c1 p1 he λH' c' f=>?_;tb_rel;exact hl H₁ H' qT c' f
theorem DL{t:Ty}(hn:ts.length<6)(e:Env A H)(c:Lc A H ts)(p:PR A i d k1 k2 H)(he:k2≠A.s0∧k2≠A.c∧k2≠A.cd)
  (hl:∀H₁ H',Fr No H H₁->Lc A H' (ts++[t])->Fr (ML A) H₁ H'->Q (pL t ts.length) (H'.set k2 (.dict [.str (vS ts.length)] [.tup [.int ts.length,ba t,.str "move",.bool false]]))):
  W (run au (n+5) 198 [.ref i,yP ts.length,ba t,.str "move"] H) Q E:=by
 refine aw (fi:=⟨["self", "pattern", "t", "mode"],[],fS⟩) (l:=[("self",.ref i),("pattern",yP ts.length),("t",ba t),("mode",.str "move")]) ?_;tb_rel;refine⟨_,aA p.i1 p.i2 rfl rfl rfl,?_⟩;tb_rel;refine tV hn e c p he λH₁ H' qT c' f=>?_;tb_rel;exact hl H₁ H' qT c' f
theorem Lc.sb{t:Ty}{o:cT}{k:Nat}{N:Nat}(c:Lc A H ts)(e:Env A H)(hk:k≠A.lo∧k≠A.s1∧k≠A.sc)(hr:∀j:Nat,∀o',H.get k=some o'->o'≠.list [.str (vS j),ba t,.bool false])(hd:∃ks vs,H.get k=some (.dict ks vs)):Lc A (H.set k o) ts where
 lo:=by
  refine cm c.lo λrs h1 h2 h3=>?_;refine⟨rs,(aB _ _ (Ne.symm hk.1)).trans h1,h2,λj r t' Ux ht=>?_⟩;refine gq (h3 j r t' Ux ht) λa b cc dd=>?_;refine⟨(aB _ _ λq=>?_).trans a,b,cc,dd⟩;refine dA hd ?_;clear hd;intro ks vs hd;rw[q,hd]at a;cases a
 sc:=(aB _ _ (Ne.symm hk.2.2)).trans c.sc
 s1:=(aB _ _ (Ne.symm hk.2.1)).trans c.s1
 le:=c.le
theorem iX{t:Ty}(hn:ts.length<6)(e:Env A H)(d0:Dn A H σ ns)(c:Lc A H ts)(hs:A.s0<H.next)
  (h:∀H',Env A H'->Dn A H' σ ns->Lc A H' (ts++[t])->Fr (ML A) H H'->Q (pL t ts.length) H'):W (run au (n+6) 319 [.ref A.c,yP ts.length,ba t,.str "move"] H) Q E:=by
 refine aw (fi:=⟨["checker", "pattern", "t", "mode"],[.str "move"],kr⟩) (l:=[("checker",.ref A.c),("pattern",yP ts.length),("t",ba t),("mode",.str "move")]) ?_;tb_rel;show W (run au (n+4+1) 286 [.ref A.c] H) _ _;refine mj (g:=184) (by kernel_rfl) (ci:=⟨some 184,[("read",198),("read_name",205),("way_of",212),("read_told",219),("bound",226)],["checker", "known", "here"]⟩) (by kernel_rfl) rfl ?_;refine gq (mu H 286) λf0 g1 g2 nx=>?_;refine Ju g1 g2 (Nat.succ_ne_self _) (by rw[nx];omega) (by rw[nx];omega) λH1 k1 k2 i1 i2 q1 q2 l1 l2 l3 Mt=>?_;have f1:Fr No H H1:=f0.fresh (Mt.weaken λk z=>.inr (by rw[z];exact Nat.le_refl _));refine⟨rfl,?_⟩;have Nx:∀a,H.next<=a->¬ML A a:=λa ha=>by
  have lm:=e.lm;rintro(q|q|q)
  ·rw[q]at ha;exact absurd lm.2.2.1 (Nat.not_lt.mpr ha)
  ·rw[q]at ha;exact absurd lm.2.2.2.1 (Nat.not_lt.mpr ha)
  ·rw[q]at ha;exact absurd lm.2.2.2.2 (Nat.not_lt.mpr ha)
 rw[nx]at l1;have n1:=Mt.1;rw[nx]at n1;have p:PR A (H.next+1) H.next k1 k2 H1:=⟨i1,i2,q1,q2,⟨by omega,by omega,by omega,by omega⟩,⟨Nx _ (by omega),Nx _ (by omega),Nx _ (by omega),Nx _ (by omega)⟩⟩
 have e1:=e.no f1;have c1:=c.no e f1;refine⟨_,aA p.i1 p.i2 rfl rfl rfl,?_⟩;tb_rel;have hc:=(e.lt A.c (by simp)).1;have wL:=(e.lt A.cd (by simp)).1;refine DL hn e1 c1 p ⟨by omega,by omega,by omega⟩ λH2 H3 f2 c3 f3=>?_;tb_rel;have Jw:Fr (ML A) H H3:=((f1.trans f2).weaken λ_ z=>z.elim).trans f3;have f4:Fr (ML A) H (H3.set k2 (.dict [.str (vS ts.length)] [.tup [.int ts.length,ba t,.str "move",.bool false]])):=Jw.oU _ (by omega);have e4:=e.step (f4.weaken λ_ z=>.inr z);have d4:=d0.step e f4 λk z w=>e.ne.2.2.2.2 k w z;refine h _ e4 d4 ?_ f4;have lm:=e.lm;have p2:=p.Wn f2;refine c3.sb (t:=t) (N:=0) (e.step (Jw.weaken λ_ z=>.inr z)) ⟨by omega,by omega,by omega⟩ (λj o' q=>?_) ⟨_,_,f3.keep p2.g2 p2.lt.2.2.2 p2.no.2.2.2⟩;rw[f3.keep p2.g2 p2.lt.2.2.2 p2.no.2.2.2]at q;replace q:=Option.some.inj q;subst q;intro z;cases z
end
noncomputable def ev(μ:Nat->K):Ty->K
 | .con k=>k
 | .iv n=>μ n
structure Sat(σ:List (Option Ty))(μ:Nat->K):Prop where
 int:∀n,μ n≠.bool
 eq:∀n t,σ[n]? = some (some t)->μ n=ev μ t
noncomputable def Op.cmp:Op->Bool
 | .lt | .eq=>true
 |_=>false
noncomputable def cnt:Ex->Nat
 | .lit _ none=>1
 | .lit _ (some _)=>0
 | .gz _=>0
 | .neg e=>cnt e
 | .cast _ e=>cnt e
 | .bin _ l r=>cnt l+cnt r
noncomputable def size:Ex->Nat
 | .lit _ _=>1
 | .gz _=>1
 | .neg e=>size e+1
 | .cast _ e=>size e+1
 | .bin _ l r=>size l+size r+1
section
variable(ν:Nat->K)(Γ:List K)
noncomputable def ty:Nat->Ex->K
 |j,.lit _ none=>ν j
 |_,.lit _ (some k)=>k
 |_,.gz x=>Γ[x]?.getD .bool
 |j,.neg e=>ty j e
 |_,.cast k _=>k
 |j,.bin op l _=>if op.cmp then .bool else ty j l
noncomputable def eqs:Nat->Ex->Prop
 |_,.lit _ _=>True
 |_,.gz _=>True
 |j,.neg e=>eqs j e
 |j,.cast _ e=>eqs j e
 |j,.bin op l r=>eqs j l∧eqs (j+cnt l) r∧(op=.shl∨ty ν Γ j l=ty ν Γ (j+cnt l) r)
end
noncomputable def eD(lam:Nat->Ty)(Γ:List Ty):Nat->Ex->Ty
 |j,.lit _ none=>lam j
 |_,.lit _ (some k)=>.con k
 |_,.gz x=>Γ[x]?.getD (.con .bool)
 |j,.neg e=>eD lam Γ j e
 |_,.cast k _=>.con k
 |j,.bin op l _=>if op.cmp then .con .bool else eD lam Γ j l
noncomputable def iA(lam:Nat->Ty)(Γ:List Ty):Nat->Ex->ae
 |j,.lit v k=>.tup [.str "const",ba (eD lam Γ j (.lit v k)),.int 1,.int v]
 |j,.gz x=>.tup [.str "local",ba (eD lam Γ j (.gz x)),.int 1,.int x]
 |j,.neg (.lit v k)=>.tup [.str "const",ba (eD lam Γ j (.lit v k)),.int 1,.int (0-v)]
 |j,.neg e=>.tup [.str "unary",ba (eD lam Γ j e),.int 1,.str "-",iA lam Γ j e]
 |j,.cast k e=>.tup [.str "cast",ba (.con k),.int 1,iA lam Γ j e]
 |j,.bin op l r=>.tup [.str "binary",ba (eD lam Γ j (.bin op l r)),.int 1,.str (qF op),iA lam Γ j l,iA lam Γ (j+cnt l) r]
section
variable{ν:Nat->K}{Γ:List K}{lam:Nat->Ty}{Δ:List Ty}{j x:Nat}{v:Int}{k:K}{q:Option K}{op:Op}{e l r:Ex}
theorem ij:cnt (.lit v none)=1:=rfl
theorem ik:cnt (.lit v (some k))=0:=rfl
theorem il:cnt (.gz x)=0:=rfl
theorem ip:cnt (.neg e)=cnt e:=rfl
theorem iq:cnt (.cast k e)=cnt e:=rfl
theorem ir:cnt (.bin op l r)=cnt l+cnt r:=rfl
theorem cL:size (.lit v q)=1:=rfl
theorem cM:size (.gz x)=1:=rfl
theorem cN:size (.neg e)=size e+1:=rfl
theorem cO:size (.cast k e)=size e+1:=rfl
theorem cP:size (.bin op l r)=size l+size r+1:=rfl
theorem GD:ty ν Γ j (.lit v none)=ν j:=rfl
theorem GF:ty ν Γ j (.lit v (some k))=k:=rfl
theorem DM:ty ν Γ j (.gz x)=Γ[x]?.getD .bool:=rfl
theorem GG:ty ν Γ j (.neg e)=ty ν Γ j e:=rfl
theorem GH:ty ν Γ j (.cast k e)=k:=rfl
theorem yQ:ty ν Γ j (.bin op l r)=if op.cmp then .bool else ty ν Γ j l:=rfl
theorem K8:eqs ν Γ j (.lit v q)=True:=rfl
theorem K9:eqs ν Γ j (.gz x)=True:=rfl
theorem La:eqs ν Γ j (.neg e)=eqs ν Γ j e:=rfl
theorem Lb:eqs ν Γ j (.cast k e)=eqs ν Γ j e:=rfl
theorem Cm:eqs ν Γ j (.bin op l r)=(eqs ν Γ j l∧eqs ν Γ (j+cnt l) r∧(op=.shl∨ty ν Γ j l=ty ν Γ (j+cnt l) r)):=rfl
theorem Ld:eD lam Δ j (.lit v none)=lam j:=rfl
theorem Le:eD lam Δ j (.lit v (some k))=.con k:=rfl
theorem sR:eD lam Δ j (.gz x)=Δ[x]?.getD (.con .bool):=rfl
theorem Lf:eD lam Δ j (.neg e)=eD lam Δ j e:=rfl
theorem Lg:eD lam Δ j (.cast k e)=.con k:=rfl
theorem oW:eD lam Δ j (.bin op l r)=if op.cmp then .con .bool else eD lam Δ j l:=rfl
theorem sS:iA lam Δ j (.lit v q)=.tup [.str "const",ba (eD lam Δ j (.lit v q)),.int 1,.int v]:=rfl
theorem yR:iA lam Δ j (.gz x)=.tup [.str "local",ba (eD lam Δ j (.gz x)),.int 1,.int x]:=rfl
theorem uY:iA lam Δ j (.neg (.lit v q))=.tup [.str "const",ba (eD lam Δ j (.lit v q)),.int 1,.int (0-v)]:=rfl
theorem yS:iA lam Δ j (.cast k e)=.tup [.str "cast",ba (.con k),.int 1,iA lam Δ j e]:=rfl
theorem uZ:iA lam Δ j (.bin op l r)=.tup [.str "binary",ba (eD lam Δ j (.bin op l r)),.int 1,.str (qF op),iA lam Δ j l,iA lam Δ (j+cnt l) r]:=rfl
end
noncomputable def tv(n:Nat):Nat->Ex->Prop
 |_,.lit _ k=>k≠some .bool
 |_,.gz x=>x<n
 |d+1,.neg e=>tv n d e
 |d+1,.cast k e=>k≠.bool∧tv n d e
 |d+1,.bin _ l r=>tv n d l∧tv n d r
 |0,_=>False
theorem qG{i j:Nat}{op:Op}{l r:Ex}(b:i<j+cnt l):i<j+cnt (.bin op l r):=Nat.lt_of_lt_of_le b (Nat.add_le_add_left (Nat.le_add_right _ _) _)
theorem Cn{i j:Nat}{op:Op}{l r:Ex}(b:i<j+cnt l+cnt r):i<j+cnt (.bin op l r):=Nat.lt_of_lt_of_eq b (Nat.add_assoc _ _ _)
theorem eL{lam eH:Nat->Ty}{Γ:List Ty}{j:Nat}{e:Ex}(h:∀i,j<=i->i<j+cnt e->lam i=eH i):eD lam Γ j e=eD eH Γ j e:=by
 induction e with
 |lit v k=>cases k with
  |none=>exact h j (Nat.le_refl _) (Nat.lt_succ_self _)
  |some k=>rfl
 |neg e ih=>exact ih h
 |bin op l r ih _=>rw[oW,oW,ih λi a b=>h i a (qG b)]
 |_=>rfl
theorem mw{lam:Nat->Ty}{Γ:List Ty}{j:Nat}{e:Ex}(h:∀v k,e≠.lit v k):iA lam Γ j (.neg e)=.tup [.str "unary",ba (eD lam Γ j e),.int 1,.str "-",iA lam Γ j e]:=by
 cases e with
 |lit v k=>exact absurd rfl (h v k)
 |_=>rfl
theorem pM{lam eH:Nat->Ty}{Γ:List Ty}{j:Nat}{e:Ex}(h:∀i,j<=i->i<j+cnt e->lam i=eH i):iA lam Γ j e=iA eH Γ j e:=by
 induction e generalizing j with
 |lit v k=>rw[sS,sS,eL h]
 |gz x=>rfl
 |neg e ih=>
  by_cases q:∃v k,e=.lit v k
  ·refine dA q ?_;clear q;intro v k Uy
   subst Uy;rw[uY,uY,eL (e:=.lit v k) h]
  ·have q':∀v k,e≠.lit v k:=λv k z=>q ⟨v,k,z⟩
   rw[mw q',mw q',eL (e:=e) h,ih h]
 |cast k e ih=>rw[yS,yS,ih h]
 |bin op l r ih Ny=>rw[uZ,uZ,eL (e:=.bin op l r) h,ih λi a b=>h i a (qG b),Ny λi a b=>h i (Nat.le_of_add_right_le a) (Cn b)]
theorem kG{lam:Nat->Ty}{Γ:List Ty}{μ:Nat->K}{j:Nat}{e:Ex}:ty (λi=>ev μ (lam i)) (Γ.map (ev μ)) j e=ev μ (eD lam Γ j e):=by
 induction e with
 |lit v k=>cases k<;>rfl
 |gz x=>
  rw[DM,sR,List.getElem?_map];cases Γ[x]? <;>rfl
 |neg e ih=>exact ih
 |cast k e=>rfl
 |bin op l r ih _=>
  rw[yQ,oW,ih];cases op.cmp<;>rfl
theorem eA{ν pN:Nat->K}{Γ:List K}{j:Nat}{e:Ex}(h:∀i,j<=i->i<j+cnt e->ν i=pN i):ty ν Γ j e=ty pN Γ j e:=by
 induction e with
 |lit v k=>cases k with
  |none=>exact h j (Nat.le_refl _) (Nat.lt_succ_self _)
  |some k=>rfl
 |neg e ih=>exact ih h
 |bin op l r ih _=>rw[yQ,yQ,ih λi a b=>h i a (qG b)]
 |_=>rfl
theorem gO{ν pN:Nat->K}{Γ:List K}{j:Nat}{e:Ex}(h:∀i,j<=i->i<j+cnt e->ν i=pN i):(eqs ν Γ j e↔eqs pN Γ j e):=by
 induction e generalizing j with
 |neg e ih=>exact ih h
 |cast k e ih=>exact ih h
 |bin op l r ih Ny=>
  have hl:∀i,j<=i->i<j+cnt l->ν i=pN i:=λi a b=>h i a (qG b);have hr:∀i,j+cnt l<=i->i<j+cnt l+cnt r->ν i=pN i:=λi a b=>h i (Nat.le_of_add_right_le a) (Cn b);rw[Cm,Cm,ih hl,Ny hr,eA hl,eA hr]
 |_=>exact Iff.rfl
noncomputable def Bd(σ:List (Option Ty))(B:Nat):Prop:=∀n,n<σ.length->∃k r,k<=B∧Sh σ k (.iv n) r
noncomputable def iY(σ:List (Option Ty)):Ty->Prop
 | .con _=>True
 | .iv n=>n<σ.length
theorem Bd.sh{σ:List (Option Ty)}{B:Nat}(h:Bd σ B){t:Ty}(v:iY σ t):∃k r,k<=B∧Sh σ k t r:=by
 cases t with
 |con k=>exact⟨0,_,Nat.zero_le _,.con k⟩
 |iv n=>exact h n v
theorem Bd.Wo{C:Prop}{σ:List (Option Ty)}{B:Nat}(h:Bd σ B){t:Ty}(v:iY σ t)(c:∀k r,k<=B->Sh σ k t r->C):C:=(h.sh v).elim λk z=>z.elim λr z=>c k r z.1 z.2
theorem Bd.mono{σ:List (Option Ty)}{B B':Nat}(h:Bd σ B)(le:B<=B'):Bd σ B':=λn hn=>aO (h n hn) λk r a b=>⟨k,r,Nat.le_trans a le,b⟩
theorem Sh.Q8{σ:List (Option Ty)}{k:Nat}{t r:Ty}(s:Sh σ k t r):iY σ t∧iY σ r:=by
 induction s with
 |con k=>exact⟨trivial,trivial⟩
 |free h=>exact⟨(List.getElem?_eq_some_iff.mp h).1,(List.getElem?_eq_some_iff.mp h).1⟩
 |step h _ ih=>exact⟨(List.getElem?_eq_some_iff.mp h).1,ih.2⟩
theorem Bd.closed{σ:List (Option Ty)}{B:Nat}(h:Bd σ B){n:Nat}{t:Ty}(e:σ[n]? = some (some t)):iY σ t:=by
 refine aO (h n (List.getElem?_eq_some_iff.mp e).1) λk r _ s=>?_;cases s with
 |free h'=>rw[e]at h';cases h'
 |step h' s'=>rw[e]at h';cases h';exact s'.Q8.1
theorem Sh.Lh{σ:List (Option Ty)}{k:Nat}{t r:Ty}{μ:Nat->K}(s:Sh σ k t r)(S:Sat σ μ):ev μ t=ev μ r:=by
 induction s with
 |con k=>rfl
 |free h=>rfl
 |step h _ ih=>exact(S.eq _ _ h).trans ih
theorem oX{σ:List (Option Ty)}{o:Option Ty}{n:Nat}(h:n<σ.length):(σ++[o])[n]? = σ[n]? :=List.getElem?_append_left h
theorem Sh.snoc{σ:List (Option Ty)}{k:Nat}{t r:Ty}(s:Sh σ k t r):Sh (σ++[none]) k t r:=by
 induction s with
 |con k=>exact .con k
 |free h=>exact .free ((oX (List.getElem?_eq_some_iff.mp h).1).trans h)
 |step h _ ih=>exact .step ((oX (List.getElem?_eq_some_iff.mp h).1).trans h) ih
theorem Bd.snoc{σ:List (Option Ty)}{B:Nat}(h:Bd σ B):Bd (σ++[none]) B:=λn hn=>by
 by_cases q:n<σ.length
 ·refine aO (h n q) λk r a b=>?_
  exact⟨k,r,a,b.snoc⟩
 ·have:n=σ.length:=by simp at hn;omega
  subst this;exact⟨0,_,Nat.zero_le _,.free (by simp)⟩
theorem iY.snoc{σ:List (Option Ty)}{t:Ty}(h:iY σ t):iY (σ++[none]) t:=by
 cases t with
 |con k=>trivial
 |iv n=>show n<_;simp;exact Nat.lt_succ_of_lt h
theorem Sh.set{σ:List (Option Ty)}{k u:Nat}{t r q:Ty}(hu:σ[u]? = some none)(hq:Sh σ 0 q q)(nq:q≠.iv u)(s:Sh σ k t r):∃k' r',k'<=k+1∧Sh (σ.set u (some q)) k' t r':=by
 have R8:=(List.getElem?_eq_some_iff.mp hu).1;have BQ:Sh (σ.set u (some q)) 0 q q:=by
  cases hq with
  |con k=>exact .con k
  | @free m h=>exact .free (by rw[List.getElem?_set_ne (λz=>nq (by rw[z]))];exact h)
 induction s with
 |con k=>exact⟨0,_,Nat.zero_le _,.con k⟩
 | @free m h=>
  by_cases z:u=m
  ·subst z
   exact⟨1,q,Nat.le_refl _,.step (List.getElem?_set_self R8) BQ⟩
  ·exact⟨0,_,Nat.zero_le _,.free (by rw[List.getElem?_set_ne z];exact h)⟩
 | @step m j t r h _ ih=>
  refine aO ih ?_;clear ih;intro k' r' a b;have z:u≠m:=λz=>by rw[z,h]at hu;cases hu
  exact⟨k'+1,r',by omega,.step (by rw[List.getElem?_set_ne z];exact h) b⟩
theorem Bd.set{σ:List (Option Ty)}{B u:Nat}{q:Ty}(h:Bd σ B)(hu:σ[u]? = some none)(hq:Sh σ 0 q q)(nq:q≠.iv u):Bd (σ.set u (some q)) (B+1):=λn hn=>by
 refine aO (h n (by simpa using hn)) λk r a b=>?_;refine aO (Sh.set hu hq nq b) λk' r' c d=>?_;exact⟨k',r',by omega,d⟩
theorem Co{σ:List (Option Ty)}{u:Nat}{q:Ty}{μ:Nat->K}(hu:σ[u]? = some none):Sat (σ.set u (some q)) μ↔Sat σ μ∧μ u=ev μ q:=by
 have R8:=(List.getElem?_eq_some_iff.mp hu).1;constructor
 ·intro S
  refine⟨⟨S.int,λn t h=>S.eq n t ?_⟩,S.eq u q (List.getElem?_set_self R8)⟩;rw[List.getElem?_set_ne λz=>by rw[<-z,hu]at h;cases h];exact h
 ·rintro⟨S,e⟩
  refine⟨S.int,λn t h=>?_⟩
  by_cases z:u=n
  ·subst z
   rw[List.getElem?_set_self R8]at h;cases h;exact e
  ·rw[List.getElem?_set_ne z]at h
   exact S.eq n t h
theorem Cp{σ:List (Option Ty)}{u:Nat}(s:Sh σ 0 (.iv u) (.iv u)):σ[u]? = some none:=by cases s with|free h=>exact h
theorem yT{σ:List (Option Ty)}{r1 r2:Ty}{B:Nat}(s1:Sh σ 0 r1 r1)(s2:Sh σ 0 r2 r2)(hb:Bd σ B):
  match iD σ r1 r2 with
  |some bE=>(∀μ,Sat bE μ↔Sat σ μ∧ev μ r1=ev μ r2)∧Bd bE (B+1)∧bE.length=σ.length
  |none=>∀μ,Sat σ μ->ev μ r1≠ev μ r2:=by
 cases r1 with
 |con k=>
  cases r2 with
  |con k'=>
   simp only[iD]
   by_cases h:k=k'
   ·rw[if_pos h]
    exact⟨λμ=>⟨λS=>⟨S,h⟩,λS=>S.1⟩,hb.mono (Nat.le_succ _),rfl⟩
   ·rw[if_neg h]
    exact λμ _ q=>h q
  |iv v=>
   have hv:=Cp s2
   by_cases h:k=.bool
   ·subst h
    exact λμ S q=>S.int v q.symm
   ·have:iD σ (.con k) (.iv v)=some (σ.set v (some (.con k))):=by cases k<;>first|rfl|exact absurd rfl h
    rw[this];exact⟨λμ=>(Co hv).trans ⟨λz=>⟨z.1,z.2.symm⟩,λz=>⟨z.1,z.2.symm⟩⟩,hb.set hv s1 (by intro z;cases z),by simp⟩
 |iv u=>
  have hu:=Cp s1
  by_cases h:r2=.con .bool
  ·subst h
   exact λμ S q=>S.int u q
  ·by_cases z:r2=.iv u
   ·subst z
    have:iD σ (.iv u) (.iv u)=some σ:=by simp[iD]
    rw[this];exact⟨λμ=>⟨λS=>⟨S,rfl⟩,λS=>S.1⟩,hb.mono (Nat.le_succ _),rfl⟩
   ·have:iD σ (.iv u) r2=some (σ.set u (some r2)):=by
     cases r2 with
     |con k=>cases k<;>first|rfl|exact absurd rfl h
     |iv v=>simp[iD];intro q;exact absurd (by rw[q]) z
    rw[this];exact⟨λμ=>Co hu,hb.set hu s2 z,by simp⟩
theorem lO{σ:List (Option Ty)}{B:Nat}{μ:Nat->K}(hb:Bd σ B):(Sat (σ++[none]) μ->Sat σ μ)∧(Sat σ μ->∀k,k≠.bool->Sat (σ++[none]) (λn=>if n=σ.length then k else μ n)):=by
 constructor
 ·exact λS=>⟨S.int,λn t h=>S.eq n t ((oX (List.getElem?_eq_some_iff.mp h).1).trans h)⟩
 ·intro S k hk
  refine⟨λn=>by split;exact hk;exact S.int n,λn t h=>?_⟩
  by_cases q:n<σ.length
  ·rw[oX q]at h
   have hv:=hb.closed h;rw[if_neg (Nat.ne_of_lt q),S.eq n t h];cases t with
   |con k=>rfl
   |iv m=>show μ m=if m=σ.length then k else μ m;rw[if_neg (Nat.ne_of_lt hv)]
  ·have hl:=(List.getElem?_eq_some_iff.mp h).1
   have:n=σ.length:=by simp at hl;omega
   subst this;simp at h
noncomputable def wA:Option Ty->ae
 |none=>.none
 |some t=>ba t
structure eN(σ bE:List (Option Ty))(B':Nat)(lam:Nat->Ty)(Γ:List Ty)(j:Nat)(e:Ex)(w:Option Ty):Prop where
 bd:Bd bE B'
 len:σ.length<=bE.length
 top:bE.length<=σ.length+size e
 vl:∀i,j<=i->i<j+cnt e->iY bE (lam i)∧lam i≠.con .bool
 snd:∀μ,Sat bE μ->Sat σ μ∧eqs (λi=>ev μ (lam i)) (Γ.map (ev μ)) j e
 cmp:∀μ ν,Sat σ μ->(∀i,ν i≠.bool)->eqs ν (Γ.map (ev μ)) j e->(∀T,w=some T->ty ν (Γ.map (ev μ)) j e=ev μ T)->
  ∃lP,Sat bE lP∧(∀n,n<σ.length->lP n=μ n)∧∀i,j<=i->i<j+cnt e->ev lP (lam i)=ν i
structure Num(ns dI:List Bool)(lam:Nat->Ty)(j c:Nat):Prop where
 le:∀t,nv ns t->nv dI t
 nl:∀i,j<=i->i<j+c->nv dI (lam i)
theorem gm{ns:List Bool}{lam:Nat->Ty}{Γ:List Ty}{j:Nat}{e:Ex}(hg:∀t∈Γ,nv ns t)(h:∀i,j<=i->i<j+cnt e->nv ns (lam i)):nv ns (eD lam Γ j e):=by
 induction e with
 |lit v k=>cases k with
  |none=>exact h j (Nat.le_refl _) (Nat.lt_succ_self _)
  |some k=>trivial
 |gz x=>
  rw[sR];cases q:Γ[x]? with
  |none=>trivial
  |some t=>exact hg t (List.mem_of_getElem? q)
 |neg e ih=>exact ih h
 |cast k e=>trivial
 |bin op l r ih _=>
  rw[oW];cases op.cmp with
  |true=>trivial
  |false=>exact ih λi a b=>h i a (qG b)
noncomputable def Fail(σ:List (Option Ty))(Γ:List Ty)(j:Nat)(e:Ex)(w:Option Ty):Prop:=
 ∀μ ν,Sat σ μ->(∀i,ν i≠.bool)->eqs ν (Γ.map (ev μ)) j e->(∀T,w=some T->ty ν (Γ.map (ev μ)) j e=ev μ T)->False
theorem iY.le{σ bE:List (Option Ty)}{t:Ty}(v:iY σ t)(h:σ.length<=bE.length):iY bE t:=by
 cases t with
 |con k=>trivial
 |iv n=>exact Nat.lt_of_lt_of_le v h
theorem lQ{σ:List (Option Ty)}{μ lP:Nat->K}{t:Ty}(v:iY σ t)(h:∀n,n<σ.length->lP n=μ n):ev lP t=ev μ t:=by
 cases t with
 |con k=>rfl
 |iv n=>exact h n v
theorem gP{σ:List (Option Ty)}{μ lP:Nat->K}{Γ:List Ty}(v:∀t∈Γ,iY σ t)(h:∀n,n<σ.length->lP n=μ n):Γ.map (ev lP)=Γ.map (ev μ):=List.map_congr_left λt ht=>lQ (v t ht) h
theorem fA(lam:Nat->Ty)(Γ:List Ty)(j:Nat)(e:Ex):∃a rest,iA lam Γ j e=.tup (a::ba (eD lam Γ j e)::.int 1::rest):=by
 cases e with
 |lit v k=>exact⟨_,_,rfl⟩
 |gz x=>exact⟨_,_,rfl⟩
 |neg e=>
  by_cases q:∃v k,e=.lit v k
  ·obtain⟨v,k,rfl⟩:=q;exact⟨_,_,rfl⟩
  ·rw[mw λv k z=>q ⟨v,k,z⟩];exact⟨_,_,rfl⟩
 |cast k e=>exact⟨_,_,rfl⟩
 |bin op l r=>exact⟨_,_,rfl⟩
section
variable{n:Nat}{A:Ad}{H:AH}{σ:List (Option Ty)}{ns:List Bool}{Γ:List Ty}{Q:ae->AH->Prop}{E:Nat->AH->Prop}{B j:Nat}{w:Option Ty}
theorem Nz(r:Ty)(H:AH):bz .pZ (.str (tag r)) (.tup [.str "int",.str "intvar"]) H=some (decide (r=.con .bool)):=by
 cases r with
 |con k=>cases k<;>rfl
 |iv m=>rfl
theorem tW{v:Int}{k:K}(hk:k≠.bool)(wv:ae):run au (n+1) 483 [.ref A.c,dX (.lit v (some k)),wv] H=some (.ok (.tup [.str "const",ba (.con k),.int 1,.int v]),H):=by
 cases k<;>first|exact absurd rfl hk|kernel_rfl
theorem oY{v:Int}{k:Option K}(hk:k≠some .bool)(hb:Bd σ B)(hB:B+1<=90000)(hw:∀T,w=some T->iY σ T)(zv:∀T,w=some T->nv ns T)(hs:σ.length+1<1000)(e:Env A H)(d:Dn A H σ ns)
  (hQ:∀H' bE dI lam,Env A H'->Dn A H' bE dI->Fr (MI A) H H'->eN σ bE (B+1) lam Γ j (.lit v k) w->Num ns dI lam j (cnt (.lit v k))->Q (.tup [.str "const",ba (eD lam Γ j (.lit v k)),.int 1,.int v]) H'):
  W (run au (n+5) 483 [.ref A.c,dX (.lit v k),wA w] H) Q E:=by
 cases k with
 |some k=>
  refine bY (tW (λq=>hk (by rw[q])) _) (hQ H σ ns (λ_=>.iv 0) e d .refl ?_ ⟨λ_ h=>h,λi a b=>by simp only[ij,ik,il,ip,iq,ir]at b;omega⟩);exact⟨hb.mono (Nat.le_succ _),Nat.le_refl _,Nat.le_succ _,λi a b=>by simp only[ij,ik,il,ip,iq,ir]at b;omega,λμ S=>⟨S,trivial⟩,λμ ν S _ _ _=>⟨μ,S,λ_ _=>rfl,λi a b=>by simp only[ij,ik,il,ip,iq,ir]at b;omega⟩⟩
 |none=>
  have num:Num ns (ns++[true]) (λ_=>.iv σ.length) j (cnt (.lit v none)):=⟨λ_ h=>h.snoc,λi a b=>by show(ns++[true])[σ.length]? = _;rw[<-d.len];simp⟩
  have post:eN σ (σ++[none]) (B+1) (λ_=>.iv σ.length) Γ j (.lit v none) w:=by
   refine⟨hb.snoc.mono (Nat.le_succ _),by simp,by simp[cL,cM,cN,cO,cP],λi a b=>⟨by show σ.length<_;simp,by intro z;cases z⟩,λμ S=>⟨(lO hb).1 S,trivial⟩,λμ ν S fb _ _=>⟨_,(lO hb).2 S (ν j) (fb j),λm hm=>if_neg (Nat.ne_of_lt hm),λi a b=>?_⟩⟩;simp only[ij,ik,il,ip,iq,ir]at b;obtain rfl:i=j:=by omega
   exact if_pos rfl
  refine aw (fi:=⟨["checker", "node", "wanted"],[],sr⟩) (l:=[("checker",.ref A.c),("node",dX (.lit v none)),("wanted",wA w)]) ?_;cases w with
  |none=>
   tb_rel;refine aQ e.c1 e.c2 rfl rfl rfl rfl rfl ?_;refine⟨_,aA e.i1 e.i2 rfl rfl rfl,?_⟩;tb_rel;refine mV e d (by omega) λH' e' d' f'=>?_;tb_rel;exact hQ H' _ _ (λ_=>.iv σ.length) e' d' f' post num
  |some T=>
   refine aO (hb.sh (hw T rfl)) λc r hc s=>?_;have Q9:bz .is (ba T) .none H=some false:=by
    cases T with
    |con k=>cases k<;>rfl
    |iv m=>rfl
   tb_rel;refine bu Q9 ?_;tb_rel;refine⟨_,aA e.c1 e.c2 rfl rfl rfl,?_⟩;tb_rel;refine ji s (by omega) e d ?_;have f1:Fr No H (H.new (.list [])):=.new _ _;have e1:=e.no f1;have d1:=d.no e f1;have NA:bz .is (ba r) .none (H.new (.list []))=some false:=by
    cases r with
    |con k=>cases k<;>rfl
    |iv m=>rfl
   tb_rel;refine bu NA ?_;tb_rel;refine⟨_,wk r _,?_⟩;tb_rel;refine bu (Nz r _) ?_
   by_cases hr:r=.con .bool
   ·rw[decide_eq_true hr]
    tb_rel;refine aQ e1.c1 e1.c2 rfl rfl rfl rfl rfl ?_;refine⟨_,aA e1.i1 e1.i2 rfl rfl rfl,?_⟩;tb_rel;refine mV e1 d1 (by omega) λH' e' d' f'=>?_;tb_rel;exact hQ H' _ _ (λ_=>.iv σ.length) e' d' ((f1.weaken λ_ z=>z.elim).trans f') post num
   ·rw[decide_eq_false hr]
    tb_rel;refine hQ _ σ ns (λ_=>r) e1 d1 (f1.weaken λ_ z=>z.elim) ⟨hb.mono (Nat.le_succ _),Nat.le_refl _,Nat.le_succ _,λi a b=>⟨s.Q8.2,hr⟩,λμ S=>⟨S,trivial⟩,λμ ν S fb _ NB=>⟨μ,S,λ_ _=>rfl,λi a b=>?_⟩⟩ ⟨λ_ h=>h,λi a b=>s.Wj d (zv T rfl)⟩;simp only[ij,ik,il,ip,iq,ir]at b;obtain rfl:i=j:=by omega
    rw[<-s.Lh S,<-NB T rfl];rfl
end
section
variable{n m:Nat}{A:Ad}{H:AH}{σ:List (Option Ty)}{ns:List Bool}{Γ:List Ty}{Q:ae->AH->Prop}{E:Nat->AH->Prop}{B j:Nat}{w:Option Ty}{wv:ae}
theorem gQ{node:ae}(e:Env A H)(h:W (run au m 993 [.ref A.c,node,wv] H) Q E):W (run au (m+1) 688 [.ref A.c,node,wv] H) Q E:=by
 refine aw (fi:=⟨["self", "node", "wanted"],[],lB⟩) (l:=[("self",.ref A.c),("node",node),("wanted",wv)]) ?_;obtain⟨w1,w2,w3,w4,w5,w6,w7,hr⟩:=e.r2;tb_rel;refine aQ e.c1 e.c2 rfl rfl rfl rfl rfl ?_;refine⟨_,sN e.r1 hr rfl rfl rfl rfl rfl,?_⟩;tb_rel;refine jf h (λv H z=>?_) λc H z=>?_
 ·tb_rel;exact z
 ·tb_rel;exact z
theorem GI{v:Int}{k:Option K}(h:∀H₁,Fr No H H₁->W (run au m 483 [.ref A.c,dX (.lit v k),wv] H₁) Q E):W (run au (m+1) 993 [.ref A.c,dX (.lit v k),wv] H) Q E:=by
 refine aw (fi:=⟨["checker", "node", "wanted"],[],dN⟩) (l:=[("checker",.ref A.c),("node",dX (.lit v k)),("wanted",wv)]) ?_;tb_rel;refine⟨_,dO (aj _ _) rfl,?_⟩;tb_rel;refine jf (h _ (.new _ _)) (λv H z=>?_) λc H z=>?_
 ·tb_rel;exact z
 ·tb_rel;exact z
theorem GJ{e':Ex}(h:∀H₁,Fr No H H₁->W (run au m 490 [.ref A.c,dX (.neg e'),wv] H₁) Q E):W (run au (m+1) 993 [.ref A.c,dX (.neg e'),wv] H) Q E:=by
 refine aw (fi:=⟨["checker", "node", "wanted"],[],dN⟩) (l:=[("checker",.ref A.c),("node",dX (.neg e')),("wanted",wv)]) ?_;tb_rel;refine⟨_,dO (aj _ _) rfl,?_⟩;tb_rel;refine jf (h _ (.new _ _)) (λv H z=>?_) λc H z=>?_
 ·tb_rel;exact z
 ·tb_rel;exact z
theorem GK{k:K}{e':Ex}(h:∀H₁,Fr No H H₁->W (run au m 504 [.ref A.c,dX (.cast k e'),wv] H₁) Q E):W (run au (m+1) 993 [.ref A.c,dX (.cast k e'),wv] H) Q E:=by
 refine aw (fi:=⟨["checker", "node", "wanted"],[],dN⟩) (l:=[("checker",.ref A.c),("node",dX (.cast k e')),("wanted",wv)]) ?_;tb_rel;refine⟨_,dO (aj _ _) rfl,?_⟩;tb_rel;refine jf (h _ (.new _ _)) (λv H z=>?_) λc H z=>?_
 ·tb_rel;exact z
 ·tb_rel;exact z
theorem GL{op:Op}{l r:Ex}(h:W (run au m 497 [.ref A.c,dX (.bin op l r),wv] H) Q E):W (run au (m+1) 993 [.ref A.c,dX (.bin op l r),wv] H) Q E:=by
 refine aw (fi:=⟨["checker", "node", "wanted"],[],dN⟩) (l:=[("checker",.ref A.c),("node",dX (.bin op l r)),("wanted",wv)]) ?_;tb_rel;refine jf h (λv H z=>?_) λc H z=>?_
 ·tb_rel;exact z
 ·tb_rel;exact z
theorem GN{x:Nat}{t:Ty}(ht:Γ[x]? = some t)(e:Env A H)(c:Lc A H Γ)(h:∀H',Fr No H H'->Q (.tup [.str "local",ba t,.int 1,.int x]) H'):W (run au (m+2) 993 [.ref A.c,dX (.gz x),wv] H) Q E:=by
 have hx:=(List.getElem?_eq_some_iff.mp ht).1;refine aw (fi:=⟨["checker", "node", "wanted"],[],dN⟩) (l:=[("checker",.ref A.c),("node",dX (.gz x)),("wanted",wv)]) ?_;tb_rel;refine⟨_,aA e.c1 e.c2 rfl rfl rfl,?_⟩;tb_rel;refine DJ hx e c λH' f=>?_;have e':=e.no f;have c':=c.no e f;refine cm c'.lo λrs h1 h2 h3=>?_;obtain⟨r,hr⟩:∃r,rs[x]? = some r:=⟨rs[x]'(by omega),List.getElem?_eq_getElem (by omega)⟩
 refine bk (h3 x r t hr ht) λg _=>?_;have le:=c.le;tb_rel;refine aQ e'.c1 e'.c2 rfl rfl rfl rfl rfl ?_;tb_rel;refine⟨_,bT h1 (by rw[List.getElem?_map,hr];rfl) (by omega),?_⟩;tb_rel;refine⟨_,bT (m:=1) g rfl (by omega),?_⟩;tb_rel;exact h H' f
theorem u0{e':Ex}(h:∀v k,e'≠.lit v k)(H:AH):∃s,subAt (dX e') (.int 0) H=some (.str s)∧bz .eq (.str s) (.str "int") H=some false:=by
 cases e' with
 |lit v k=>exact absurd rfl (h v k)
 |_=>exact⟨_,rfl,rfl⟩
end
theorem eN.congr{σ bE:List (Option Ty)}{B':Nat}{lam eH:Nat->Ty}{Γ:List Ty}{j:Nat}{e:Ex}{w:Option Ty}(p:eN σ bE B' lam Γ j e w)(h:∀i,j<=i->i<j+cnt e->lam i=eH i):eN σ bE B' eH Γ j e w where
 bd:=p.bd
 len:=p.len
 top:=p.top
 vl i a b:=by rw[<-h i a b];exact p.vl i a b
 snd μ S:=⟨(p.snd μ S).1,(gO λi a b=>by rw[h i a b]).mp (p.snd μ S).2⟩
 cmp μ ν S fb he hw:=by
  refine cm (p.cmp μ ν S fb he hw) λlP a b c=>?_;exact⟨lP,a,b,λi x y=>by rw[<-h i x y];exact c i x y⟩
noncomputable def wq(dp:Nat):Prop:=∀(e:Ex) (n:Nat) {A:Ad}{H:AH}{σ:List (Option Ty)}{ns:List Bool}{Γ:List Ty}{Q:ae->AH->Prop}{E:Nat->AH->Prop}{B j:Nat}{w:Option Ty},
 tv Γ.length dp e->Bd σ B->B+size e<=90000->(∀t∈Γ,iY σ t)->(∀T,w=some T->iY σ T)->(∀t∈Γ,nv ns t)->(∀T,w=some T->nv ns T)->σ.length+size e<1000->Env A H->Dn A H σ ns->Lc A H Γ->
 (∀H' bE dI lam,Env A H'->Dn A H' bE dI->Fr (MI A) H H'->eN σ bE (B+size e) lam Γ j e w->Num ns dI lam j (cnt e)->Q (iA lam Γ j e) H')->(∀H',Fr (MI A) H H'->Fail σ Γ j e w->E 129 H')->
 W (run au (n+3*dp+9) 688 [.ref A.c,dX e,wA w] H) Q E
theorem oZ{σ:List (Option Ty)}{lam:Nat->Ty}{Γ:List Ty}{j:Nat}{e:Ex}(hg:∀t∈Γ,iY σ t)(h:∀i,j<=i->i<j+cnt e->iY σ (lam i)):iY σ (eD lam Γ j e):=by
 induction e with
 |lit v k=>cases k with
  |none=>exact h j (Nat.le_refl _) (Nat.lt_succ_self _)
  |some k=>trivial
 |gz x=>
  rw[sR];cases q:Γ[x]? with
  |none=>trivial
  |some t=>exact hg t (List.mem_of_getElem? q)
 |neg e ih=>exact ih h
 |cast k e=>trivial
 |bin op l r ih _=>
  rw[oW];cases op.cmp with
  |true=>trivial
  |false=>exact ih λi a b=>h i a (qG b)
section
variable{dp n m:Nat}{A:Ad}{H:AH}{σ:List (Option Ty)}{ns:List Bool}{Γ:List Ty}{Q:ae->AH->Prop}{E:Nat->AH->Prop}{B j:Nat}{w:Option Ty}
theorem mW{v:Int}{k:Option K}(hk:k≠some .bool)(hb:Bd σ B)(hB:B+1<=90000)(hw:∀T,w=some T->iY σ T)(zv:∀T,w=some T->nv ns T)(hs:σ.length+1<1000)(e:Env A H)(d:Dn A H σ ns)
  (hQ:∀H' bE dI lam,Env A H'->Dn A H' bE dI->Fr (MI A) H H'->eN σ bE (B+1) lam Γ j (.lit v k) w->Num ns dI lam j (cnt (.lit v k))->Q (iA lam Γ j (.lit v k)) H'):W (run au (m+9) 688 [.ref A.c,dX (.lit v k),wA w] H) Q E:=by
 refine gQ (m:=m+8) e (GI (m:=m+7) λH₁ f=>?_);refine oY (n:=m+2) (Γ:=Γ) (j:=j) hk hb hB hw zv hs (e.no f) (d.no e f) λH' bE dI lam e' d' f' p q=>?_;exact hQ H' bE dI lam e' d' ((f.weaken λ_ z=>z.elim).trans f') p q
theorem mX{x:Nat}(hx:x<Γ.length)(hb:Bd σ B)(e:Env A H)(d:Dn A H σ ns)(c:Lc A H Γ)
  (hQ:∀H' bE dI lam,Env A H'->Dn A H' bE dI->Fr (MI A) H H'->eN σ bE (B+1) lam Γ j (.gz x) w->Num ns dI lam j (cnt (.gz x))->Q (iA lam Γ j (.gz x)) H'):W (run au (m+9) 688 [.ref A.c,dX (.gz x),wA w] H) Q E:=by
 obtain⟨t,ht⟩:∃t,Γ[x]? = some t:=⟨Γ[x],List.getElem?_eq_getElem hx⟩
 refine gQ (m:=m+8) e (GN (m:=m+6) ht e c λH' f=>?_);have:=hQ H' σ ns (λ_=>.iv 0) (e.no f) (d.no e f) (f.weaken λ_ z=>z.elim) ⟨hb.mono (Nat.le_succ _),Nat.le_refl _,Nat.le_succ _,λi a b=>by simp only[ij,ik,il,ip,iq,ir]at b;omega,λμ S=>⟨S,trivial⟩,λμ ν S _ _ _=>⟨μ,S,λ_ _=>rfl,λi a b=>by simp only[ij,ik,il,ip,iq,ir]at b;omega⟩⟩ ⟨λ_ h=>h,λi a b=>by simp only[ij,ik,il,ip,iq,ir]at b;omega⟩;simpa only[sS,yR,uY,yS,uZ,Ld,Le,sR,Lf,Lg,oW,ht,Option.getD_some]using this
theorem yU{σ bE:List (Option Ty)}{B':Nat}{lam:Nat->Ty}{e:Ex}(p:eN σ bE B' lam Γ j e w):eN σ bE (B'+1) lam Γ j (.neg e) w:=
 ⟨p.bd.mono (Nat.le_succ _),p.len,Nat.le_succ_of_le p.top,p.vl,p.snd,p.cmp⟩
theorem DN{σ bE:List (Option Ty)}{B':Nat}{lam:Nat->Ty}{e:Ex}{k:K}(p:eN σ bE B' lam Γ j e none):eN σ bE (B'+1) lam Γ j (.cast k e) w:=
 ⟨p.bd.mono (Nat.le_succ _),p.len,Nat.le_succ_of_le p.top,p.vl,p.snd,λμ ν S fb he _=>p.cmp μ ν S fb he λT q=>by cases q⟩
theorem sT{v:Int}{k:Option K}{lam:Nat->Ty}(hk:k≠some .bool)(hb:Bd σ B)(hB:B+2<=90000)(hw:∀T,w=some T->iY σ T)(zv:∀T,w=some T->nv ns T)(hs:σ.length+2<1000)(e:Env A H)(d:Dn A H σ ns)
  (hQ:∀H' bE dI lam,Env A H'->Dn A H' bE dI->Fr (MI A) H H'->eN σ bE (B+2) lam Γ j (.neg (.lit v k)) w->Num ns dI lam j (cnt (.neg (.lit v k)))->Q (iA lam Γ j (.neg (.lit v k))) H'):W (run au (m+6) 490 [.ref A.c,dX (.neg (.lit v k)),wA w] H) Q E:=by
 refine aw (fi:=⟨["checker", "node", "wanted"],[],jX⟩) (l:=[("checker",.ref A.c),("node",dX (.neg (.lit v k))),("wanted",wA w)]) ?_;tb_rel;refine oY (n:=m) (Γ:=Γ) (j:=j) hk hb (by omega) hw zv (by omega) e d λH' bE dI lam e' d' f' p q=>?_;tb_rel;exact hQ H' bE dI lam e' d' f' (yU p) q
theorem sU{eo:Ex}(ih:wq dp)(hl:∀v k,eo≠.lit v k)(ho:tv Γ.length dp eo)(hb:Bd σ B)(hB:B+(size eo+1)<=90000)(hg:∀t∈Γ,iY σ t)(wt:∀t∈Γ,nv ns t)(hw:∀T,w=some T->iY σ T)(zv:∀T,w=some T->nv ns T)(hs:σ.length+(size eo+1)<1000)(e:Env A H)(d:Dn A H σ ns)(c:Lc A H Γ)
  (hQ:∀H' bE dI lam,Env A H'->Dn A H' bE dI->Fr (MI A) H H'->eN σ bE (B+(size eo+1)) lam Γ j (.neg eo) w->Num ns dI lam j (cnt (.neg eo))->Q (iA lam Γ j (.neg eo)) H') (hE:∀H',Fr (MI A) H H'->Fail σ Γ j (.neg eo) w->E 129 H'):W (run au (n+3*dp+9+1) 490 [.ref A.c,dX (.neg eo),wA w] H) Q E:=by
 refine aw (fi:=⟨["checker", "node", "wanted"],[],jX⟩) (l:=[("checker",.ref A.c),("node",dX (.neg eo)),("wanted",wA w)]) ?_;refine aI (u0 hl H) λs q1 q2=>?_;tb_rel;refine⟨_,q1,?_⟩;tb_rel;refine bu q2 ?_;tb_rel;refine⟨_,aA e.c1 e.c2 rfl rfl rfl,?_⟩;tb_rel;refine ih eo n (B:=B) (j:=j) ho hb (by omega) hg hw wt zv (by omega) e d c (λH' bE dI lam e' d' f' p q=>?_) λH' ff hf=>?_
 ·refine dA (fA lam Γ j eo) λa rest hm=>?_
  rw[hm];tb_rel;have:=hQ H' bE dI lam e' d' f' (by have:=yU p;rwa [Nat.add_assoc]at this) q;rw[mw hl,hm]at this;exact this
 ·tb_rel
  exact hE H' ff hf
theorem tX{k:K}{eo:Ex}(ih:wq dp)(ho:tv Γ.length dp eo)(hb:Bd σ B)(hB:B+(size eo+1)<=90000)(hg:∀t∈Γ,iY σ t)(wt:∀t∈Γ,nv ns t)(hs:σ.length+(size eo+1)<1000)(e:Env A H)(d:Dn A H σ ns)(c:Lc A H Γ)
  (hQ:∀H' bE dI lam,Env A H'->Dn A H' bE dI->Fr (MI A) H H'->eN σ bE (B+(size eo+1)) lam Γ j (.cast k eo) w->Num ns dI lam j (cnt (.cast k eo))->Q (iA lam Γ j (.cast k eo)) H') (hE:∀H',Fr (MI A) H H'->Fail σ Γ j (.cast k eo) w->E 129 H') {wv:ae}:W (run au (n+3*dp+9+1) 504 [.ref A.c,dX (.cast k eo),wv] H) Q E:=by
 refine aw (fi:=⟨["checker", "node", "wanted"],[],qr⟩) (l:=[("checker",.ref A.c),("node",dX (.cast k eo)),("wanted",wv)]) ?_;tb_rel;refine⟨_,aA e.c1 e.c2 rfl rfl rfl,?_⟩;tb_rel;refine uX (n:=n+3*dp+3) k e λH₁ qT=>?_;have e1:=e.no qT;tb_rel;refine⟨_,aA e1.c1 e1.c2 rfl rfl rfl,?_⟩;tb_rel;refine ih eo n (B:=B) (j:=j) (w:=none) ho hb (by omega) hg (λT q=>by cases q) wt (λT q=>by cases q) (by omega) e1 (d.no e qT) (c.no e qT) (λH' bE dI lam e' d' f' p q=>?_) λH' ff hf=>?_
 ·tb_rel
  exact hQ H' bE dI lam e' d' ((qT.weaken λ_ z=>z.elim).trans f') (by have:=DN (k:=k) (w:=w) p;rwa [Nat.add_assoc]at this) q
 ·tb_rel
  exact hE H' ((qT.weaken λ_ z=>z.elim).trans ff) λμ ν S fb he _=>hf μ ν S fb he λT q=>by cases q
end
section
variable{dp n m:Nat}{A:Ad}{H:AH}{σ ph nJ Jx:List (Option Ty)}{ns:List Bool}{Γ:List Ty}{Q:ae->AH->Prop}{E:Nat->AH->Prop}{B B1 B2 j:Nat}{w wl:Option Ty}{op:Op}{l r:Ex}{bp bM:Nat->Ty}
noncomputable def kH(j:Nat)(l:Ex)(bp bM:Nat->Ty):Nat->Ty:=λi=>if i<j+cnt l then bp i else bM i
theorem jj{i:Nat}(h:i<j+cnt l):kH j l bp bM i=bp i:=if_pos h
theorem j8{i:Nat}(h:j+cnt l<=i):kH j l bp bM i=bM i:=if_neg (Nat.not_lt.mpr h)
theorem Num.join{ns yV u5:List Bool}(q1:Num ns yV bp j (cnt l))(q2:Num yV u5 bM (j+cnt l) (cnt r)):Num ns u5 (kH j l bp bM) j (cnt (.bin op l r)):=
 ⟨λt h=>q2.le t (q1.le t h),λi a b=>by
  simp only[ij,ik,il,ip,iq,ir]at b
  by_cases h:i<j+cnt l
  ·rw[jj h];exact q2.le _ (q1.nl i a h)
  ·rw[j8 (by omega)];exact q2.nl i (by omega) (by omega)⟩
theorem rA(p1:eN σ ph B1 bp Γ j l wl)(hg:∀t∈Γ,iY σ t)(u7:∀T,wl=some T->w=some T∧op.cmp=false){μ ν:Nat->K}(S:Sat σ μ)(fb:∀i,ν i≠.bool)(he:eqs ν (Γ.map (ev μ)) j (.bin op l r))
  (hw:∀T,w=some T->ty ν (Γ.map (ev μ)) j (.bin op l r)=ev μ T):∃pO,Sat ph pO∧(∀n,n<σ.length->pO n=μ n)∧Γ.map (ev pO)=Γ.map (ev μ)∧(∀i,j<=i->i<j+cnt l->ev pO (bp i)=ν i)∧ev pO (eD bp Γ j l)=ty ν (Γ.map (ev μ)) j l∧
   eqs ν (Γ.map (ev pO)) (j+cnt l) r:=by
 refine dw he ?_;clear he;intro e1 e2 e3;obtain⟨pO,a,b,c⟩:=p1.cmp μ ν S fb e1 λT hT=>by
  refine bk (u7 T hT) λh1 h2=>?_;have:=hw T h1;simp only[GD,GF,DM,GG,GH,yQ,h2]at this;exact this
 have g:=gP hg b;refine⟨pO,a,b,g,c,?_,by rw[g];exact e2⟩;rw[<-kG,g];exact eA c
theorem Jy(p1:eN σ ph B1 bp Γ j l w)(p2:eN ph nJ B2 bM Γ (j+cnt l) r none)(hg:∀t∈Γ,iY σ t):eN σ nJ (B2+1) (kH j l bp bM) Γ j (.bin .shl l r) w where
 bd:=p2.bd.mono (Nat.le_succ _)
 len:=Nat.le_trans p1.len p2.len
 top:=by have:=p1.top;have:=p2.top;simp only[cL,cM,cN,cO,cP];omega
 vl i a b:=by
  simp only[ij,ik,il,ip,iq,ir]at b
  by_cases h:i<j+cnt l
  ·rw[jj h];exact⟨(p1.vl i a h).1.le p2.len,(p1.vl i a h).2⟩
  ·rw[j8 (by omega)];exact p2.vl i (by omega) (by omega)
 snd μ S:=by
  refine bk (p2.snd μ S) λS1 e2=>?_;refine bk (p1.snd μ S1) λS0 e1=>?_;refine⟨S0,(gO λi a b=>?_).mp e1,(gO λi a b=>?_).mp e2,.inl rfl⟩
  ·rw[jj b]
  ·rw[j8 a]
 cmp μ ν S fb he hw:=by
  refine vk (rA p1 hg (λT h=>⟨h,rfl⟩) S fb he hw) λpO a b g c d e=>?_;refine cm (p2.cmp pO ν a fb e λT q=>by cases q) λyW a2 b2 c2=>?_;refine⟨yW,a2,λn hn=>(b2 n (Nat.lt_of_lt_of_le hn p1.len)).trans (b n hn),λi x y=>?_⟩;simp only[ij,ik,il,ip,iq,ir]at y
  by_cases h:i<j+cnt l
  ·rw[jj h,lQ (p1.vl i x h).1 b2];exact c i x h
  ·rw[j8 (by omega)];exact c2 i (by omega) (by omega)
theorem GO(tY:op≠.shl)(p1:eN σ ph B1 bp Γ j l wl)(u7:∀T,wl=some T->w=some T∧op.cmp=false)(p2:eN ph nJ B2 bM Γ (j+cnt l) r (some (eD bp Γ j l)))(hg:∀t∈Γ,iY σ t){r1 r2:Ty}{j1 j2:Nat}
  (s2:Sh nJ j2 (eD bM Γ (j+cnt l) r) r2) (s1:Sh nJ j1 (eD bp Γ j l) r1) (v1:iY ph (eD bp Γ j l)):match iD nJ r2 r1 with
   |some Jx=>eN σ Jx (B2+1) (kH j l bp bM) Γ j (.bin op l r) w
   |none=>Fail σ Γ j (.bin op l r) w:=by
 have GP:=yT s2.end_ s1.end_ p2.bd;have pre:∀{μ ν:Nat->K},Sat σ μ->(∀i,ν i≠.bool)->eqs ν (Γ.map (ev μ)) j (.bin op l r)->(∀T,w=some T->ty ν (Γ.map (ev μ)) j (.bin op l r)=ev μ T)->
   ∃yW,Sat nJ yW∧(∀n,n<σ.length->yW n=μ n)∧(∀i,j<=i->i<j+cnt (.bin op l r)->ev yW (kH j l bp bM i)=ν i)∧ev yW r2=ev yW r1:=by
  intro μ ν S fb he hw;refine vk (rA p1 hg u7 S fb he hw) λpO a b g c d e=>?_;have e3:ty ν (Γ.map (ev μ)) j l=ty ν (Γ.map (ev μ)) (j+cnt l) r:=he.2.2.resolve_left tY;obtain⟨yW,a2,b2,c2⟩:=p2.cmp pO ν a fb e λT q=>by cases q;rw[g,<-e3,d]
  have g2:Γ.map (ev yW)=Γ.map (ev μ):=(gP (λt ht=>(hg t ht).le p1.len) b2).trans g;refine⟨yW,a2,λn hn=>(b2 n (Nat.lt_of_lt_of_le hn p1.len)).trans (b n hn),λi x y=>?_,?_⟩
  ·simp only[ij,ik,il,ip,iq,ir]at y
   by_cases h:i<j+cnt l
   ·rw[jj h,lQ (p1.vl i x h).1 b2];exact c i x h
   ·rw[j8 (by omega)];exact c2 i (by omega) (by omega)
  ·rw[<-s2.Lh a2,<-s1.Lh a2,lQ v1 b2,d,e3,<-kG,g2]
   exact eA c2
 cases hu:iD nJ r2 r1 with
 |none=>
  rw[hu]at GP;intro μ ν S fb he hw;refine fq (pre S fb he hw) λyW a _ _ q=>?_;exact GP yW a q
 |some Jx=>
  rw[hu]at GP;refine dw GP ?_;clear GP;intro sat bd ln;exact{
   bd:=bd
   len:=by rw[ln];exact Nat.le_trans p1.len p2.len
   top:=by rw[ln];have:=p1.top;have:=p2.top;simp only[cL,cM,cN,cO,cP];omega
   vl:=λi a b=>by
    simp only[ij,ik,il,ip,iq,ir]at b
    by_cases h:i<j+cnt l
    ·rw[jj h];exact⟨(p1.vl i a h).1.le (by rw[ln];exact p2.len),(p1.vl i a h).2⟩
    ·rw[j8 (by omega)];exact⟨(p2.vl i (by omega) (by omega)).1.le (Nat.le_of_eq ln.symm),(p2.vl i (by omega) (by omega)).2⟩
   snd:=λμ S=>by
    refine bk ((sat μ).mp S) λS2 q=>?_
    refine bk (p2.snd μ S2) λS1 e2=>?_
    refine bk (p1.snd μ S1) λS0 e1=>?_
    refine⟨S0,(gO λi a b=>?_).mp e1,(gO λi a b=>?_).mp e2,.inr ?_⟩
    ·rw[jj b]
    ·rw[j8 a]
    ·rw[kG,kG,eL (eH:=bp) (e:=l) λi a b=>jj b,eL (eH:=bM) (e:=r) λi a b=>j8 a,s1.Lh S2,s2.Lh S2]
     exact q.symm
   cmp:=λμ ν S fb he hw=>by
    refine fq (pre S fb he hw) λyW a b c q=>?_
    exact⟨yW,(sat yW).mpr ⟨a,q⟩,b,c⟩ }
end
section
variable{dp n m:Nat}{A:Ad}{H:AH}{σ:List (Option Ty)}{ns:List Bool}{Γ:List Ty}{Q:ae->AH->Prop}{E:Nat->AH->Prop}{B j:Nat}{w:Option Ty}{op:Op}{l r:Ex}
theorem Uz(op:Op)(H:AH):bz .kg (.str (qF op)) (.tup [.str "&&",.str "||"]) H=some false:=by cases op<;>rfl
theorem Rb(op:Op)(H:AH):bz .kg (.str (qF op)) (.tup [.str "==",.str "!=",.str "<",.str "<=",.str ">",.str ">="]) H=some op.cmp:=by cases op<;>rfl
theorem UA(h:op≠.shl)(H:AH):bz .kg (.str (qF op)) (.tup [.str "<<",.str ">>"]) H=some false:=by cases op<;>first|rfl|exact absurd rfl h
theorem Rc{F:dQ}{b:Bool}{x y:aZ}{va vb:ae}{l:Loc}(ha:pv x l H=some va)(hb:pv y l H=some vb)(k:Q (cond b va vb) H):QS F x y l Q E (.bool b) H:=by
 cases b
 ·exact .inr ⟨rfl,oN hb k⟩
 ·exact .inl ⟨rfl,oN ha k⟩
theorem wu{P:ae->Prop}(lam:Nat->Ty)(Γ:List Ty)(j:Nat)(e:Ex)(k:∀a rest,iA lam Γ j e=.tup (a::ba (eD lam Γ j e)::.int 1::rest)->P (.tup (a::ba (eD lam Γ j e)::.int 1::rest))):P (iA lam Γ j e):=
 (fA lam Γ j e).elim λa z=>z.elim λrest h=>h.symm▸k a rest h
theorem Cq{bp bM:Nat->Ty}:iA (kH j l bp bM) Γ j (.bin op l r)=.tup [.str "binary",ba (if op.cmp then .con .bool else eD bp Γ j l),.int 1,.str (qF op),iA bp Γ j l,iA bM Γ (j+cnt l) r]:=by
 simp only[sS,yR,uY,yS,uZ,Ld,Le,sR,Lf,Lg,oW];rw[eL (eH:=bp) (e:=l) λi a b=>jj b,pM (eH:=bp) (e:=l) λi a b=>jj b,pM (eH:=bM) (e:=r) λi a b=>j8 a]
theorem qU(ih:wq dp)(ho:tv Γ.length dp l∧tv Γ.length dp r)(hb:Bd σ B)(hB:B+size (.bin op l r)<=90000)(hg:∀t∈Γ,iY σ t)(hw:∀T,w=some T->iY σ T)(wt:∀t∈Γ,nv ns t)(zv:∀T,w=some T->nv ns T)(hs:σ.length+size (.bin op l r)<1000)(e:Env A H)(d:Dn A H σ ns)(c:Lc A H Γ)
  (hQ:∀H' bE dI lam,Env A H'->Dn A H' bE dI->Fr (MI A) H H'->eN σ bE (B+size (.bin op l r)) lam Γ j (.bin op l r) w->Num ns dI lam j (cnt (.bin op l r))->Q (iA lam Γ j (.bin op l r)) H') (hE:∀H',Fr (MI A) H H'->Fail σ Γ j (.bin op l r) w->E 129 H'):W (run au (n+3*dp+9+1) 497 [.ref A.c,dX (.bin op l r),wA w] H) Q E:=by
 simp only[cL,cM,cN,cO,cP]at hB hs;refine aw (fi:=⟨["checker", "node", "wanted"],[],mM⟩) (l:=[("checker",.ref A.c),("node",dX (.bin op l r)),("wanted",wA w)]) ?_;have left:∀(wl:Option Ty) (u:ae) (hu:u=wA wl) (u7:∀T,wl=some T->w=some T∧op.cmp=false) (Q':ae->AH->Prop) (E':Nat->AH->Prop),(∀H' bE dI lam,Env A H'->Dn A H' bE dI->Fr (MI A) H H'->eN σ bE (B+size l) lam Γ j l wl->Num ns dI lam j (cnt l)->∀a rest,iA lam Γ j l=.tup (a::ba (eD lam Γ j l)::.int 1::rest)->Q' (.tup (a::ba (eD lam Γ j l)::.int 1::rest)) H')->(∀H',Fr (MI A) H H'->Fail σ Γ j (.bin op l r) w->E' 129 H')->
   W (run au (n+3*dp+9) 688 [.ref A.c,dX l,u] H) Q' E':=by
  intro wl u hu u7 Q' E' hq he;cases hu;refine ih l n (B:=B) (j:=j) (w:=wl) ho.1 hb (by omega) hg (λT q=>hw T (u7 T q).1) wt (λT q=>zv T (u7 T q).1) (by omega) e d c (λH' bE dI lam e' d' f' p q=>wu (P:=λv=>Q' v H') lam Γ j l (hq H' bE dI lam e' d' f' p q)) λH' ff hf=>he H' ff λμ ν S fb h NB=>?_;refine hf μ ν S fb h.1 λT q=>?_;refine bk (u7 T q) λh1 h2=>?_;have:=NB T h1;simpa only[GD,GF,DM,GG,GH,yQ,h2,Bool.false_eq_true,if_false]using this
 have right:∀{H1:AH}{ph:List (Option Ty)}{yV:List Bool}{bp:Nat->Ty}{wl:Option Ty} (tY:op≠.shl) (u7:∀T,wl=some T->w=some T∧op.cmp=false),Env A H1->Dn A H1 ph yV->Fr (MI A) H H1->eN σ ph (B+size l) bp Γ j l wl->Num ns yV bp j (cnt l)->∀(Q':ae->AH->Prop) (E':Nat->AH->Prop),
   (∀H' bE dI bM,Env A H'->Dn A H' bE dI->Fr (MI A) H1 H'->eN ph bE (B+size l+size r) bM Γ (j+cnt l) r (some (eD bp Γ j l))->Num yV dI bM (j+cnt l) (cnt r)->Q' (iA bM Γ (j+cnt l) r) H')->(∀H',Fr (MI A) H H'->Fail σ Γ j (.bin op l r) w->E' 129 H')->W (run au (n+3*dp+9) 688 [.ref A.c,dX r,ba (eD bp Γ j l)] H1) Q' E':=by
  intro H1 ph yV bp wl tY u7 e1 d1 f1 p1 q1 Q' E' hq he;have v1:iY ph (eD bp Γ j l):=oZ (λt ht=>(hg t ht).le p1.len) λi a b=>(p1.vl i a b).1;have t1:=p1.top;refine ih r n (B:=B+size l) (j:=j+cnt l) (w:=some (eD bp Γ j l)) ho.2 p1.bd (by omega) (λt ht=>(hg t ht).le p1.len) (λT q=>by cases q;exact v1) (λt ht=>q1.le t (wt t ht)) (λT q=>by cases q;exact gm (λt ht=>q1.le t (wt t ht)) q1.nl) (by omega) e1 d1 (c.mi e f1) hq λH' ff hf=>he H' (f1.trans ff) λμ ν S fb h NB=>?_;refine vk (rA p1 hg u7 S fb h NB) λpO a b g cc dd ee=>?_;refine hf pO ν a fb ee λT q=>?_;replace q:=Option.some.inj q;subst q;rw[g,dd];exact(h.2.2.resolve_left tY).symm
 have NC:∀{H2:AH}{ph nJ:List (Option Ty)}{yV u5:List Bool}{bp bM:Nat->Ty}{wl:Option Ty} (tY:op≠.shl) (u7:∀T,wl=some T->w=some T∧op.cmp=false),Env A H2->Dn A H2 nJ u5->Fr (MI A) H H2->eN σ ph (B+size l) bp Γ j l wl->eN ph nJ (B+size l+size r) bM Γ (j+cnt l) r (some (eD bp Γ j l))->Num ns yV bp j (cnt l)->Num yV u5 bM (j+cnt l) (cnt r)->
   ∀(Q':ae->AH->Prop) (E':Nat->AH->Prop),(∀H' bE dI,Env A H'->Dn A H' bE dI->Fr (MI A) H H'->eN σ bE (B+(size l+size r+1)) (kH j l bp bM) Γ j (.bin op l r) w->Num ns dI (kH j l bp bM) j (cnt (.bin op l r))->Q' (iA bM Γ (j+cnt l) r) H')->(∀H',Fr (MI A) H H'->Fail σ Γ j (.bin op l r) w->E' 129 H')->
   W (run au (n+3*dp+9) 822 [.ref A.c,iA bM Γ (j+cnt l) r,ba (eD bp Γ j l)] H2) Q' E':=by
  intro H2 ph nJ yV u5 bp bM wl tY u7 e2 d2 f2 p1 p2 q1 q2 Q' E' hq he;have Wq:∀t∈Γ,nv u5 t:=λt ht=>q2.le t (q1.le t (wt t ht));have v1:iY ph (eD bp Γ j l):=oZ (λt ht=>(hg t ht).le p1.len) λi a b=>(p1.vl i a b).1;have v2:iY nJ (eD bM Γ (j+cnt l) r):=oZ (λt ht=>((hg t ht).le p1.len).le p2.len) λi a b=>(p2.vl i a b).1;refine aO (p2.bd.sh v2) λk2 r2 Ke s2=>?_;refine aO (p2.bd.sh (v1.le p2.len)) λk1 r1 MW s1=>?_;have both:=GO (op:=op) tY p1 u7 p2 hg s2 s1 v1;refine wu (P:=λv=>(∀H' bE dI,Env A H'->Dn A H' bE dI->Fr (MI A) H H'->eN σ bE (B+(size l+size r+1)) (kH j l bp bM) Γ j (.bin op l r) w->Num ns dI (kH j l bp bM) j (cnt (.bin op l r))->Q' v H')->W (run au (n+3*dp+9) 822 [.ref A.c,v,ba (eD bp Γ j l)] H2) Q' E') bM Γ (j+cnt l) r (λa rest hm hq=>?_) hq;refine nH (n:=n+3*dp+3) s2 s1 (by omega) (by omega) (gm Wq q2.nl) (gm Wq λi a b=>q2.le _ (q1.nl i a b)) e2 d2 ?_;cases hu:iD nJ r2 r1 with
  |some Jx=>
   rw[hu]at both;exact λH' e' d' f'=>hq H' Jx u5 e' d' (f2.trans f') (by have:=both;rwa [show B+size l+size r+1=B+(size l+size r+1) by omega]at this) (q1.join q2)
  |none=>
   rw[hu]at both;exact λH' ff=>he H' (f2.trans (ff.weaken λ_ z=>z.elim)) both
 by_cases tY:op=.shl
 ·subst tY
  tb_rel;refine⟨_,aA e.c1 e.c2 rfl rfl rfl,?_⟩;tb_rel;refine left w _ rfl (λT h=>⟨h,rfl⟩) _ _ (λH1 ph yV bp e1 d1 f1 p1 q1 a rest hm=>?_) λH' ff hf=>?_
  ·tb_rel
   refine⟨_,aA e1.c1 e1.c2 rfl rfl rfl,?_⟩;tb_rel;have t1:=p1.top;refine ih r n (B:=B+size l) (j:=j+cnt l) (w:=none) ho.2 p1.bd (by omega) (λt ht=>(hg t ht).le p1.len) (λT q=>by cases q) (λt ht=>q1.le t (wt t ht)) (λT q=>by cases q) (by omega) e1 d1 (c.mi e f1) (λH2 nJ u5 bM e2 d2 f2 p2 q2=>?_) λH' ff hf=>?_
   ·tb_rel
    have:=hQ H2 nJ u5 (kH j l bp bM) e2 d2 (f1.trans f2) (by have:=Jy p1 p2 hg;rwa [show B+size l+size r+1=B+size (.bin .shl l r) by simp only[cL,cM,cN,cO,cP];omega]at this) (q1.join q2);rw[Cq,hm]at this;exact this
   ·tb_rel
    refine hE H' (f1.trans ff) λμ ν S fb h NB=>?_;refine vk (rA p1 hg (λT h=>⟨h,rfl⟩) S fb h NB) λpO a1 b g cc dd ee=>?_;exact hf pO ν a1 fb ee λT q=>by cases q
  ·tb_rel
   exact hE H' ff hf
 ·have u7:∀T,cond op.cmp none w=some T->w=some T∧op.cmp=false:=λT=>by cases op.cmp<;>intro z<;>first|cases z;done|exact⟨z,rfl⟩
  have hu:cond op.cmp .none (wA w)=wA (cond op.cmp none w):=by cases op.cmp<;>rfl
  tb_rel;refine bu (Uz op _) (.inr ⟨rfl,?_⟩);tb_rel;refine⟨_,aA e.c1 e.c2 rfl rfl rfl,?_⟩;tb_rel;refine bu (Rb op _) (Rc rfl rfl ?_);tb_rel;refine left _ _ hu u7 _ _ (λH1 ph yV bp e1 d1 f1 p1 q1 a rest hm=>?_) λH' ff hf=>?_
  ·tb_rel
   refine bu (UA tY _) (.inr ⟨rfl,?_⟩);tb_rel;refine⟨_,aA e1.c1 e1.c2 rfl rfl rfl,?_⟩;tb_rel;refine⟨_,aA e1.c1 e1.c2 rfl rfl rfl,?_⟩;tb_rel;refine right tY u7 e1 d1 f1 p1 q1 _ _ (λH2 nJ u5 bM e2 d2 f2 p2 q2=>?_) λH' ff hf=>?_
   ·tb_rel
    refine NC tY u7 e2 d2 (f1.trans f2) p1 p2 q1 q2 _ _ (λH3 Jx YU e3 d3 f3 p3 q3=>?_) λH' ff hf=>?_
    ·tb_rel
     refine bu (Rb op _) (Rc rfl rfl ?_);tb_rel;have:=hQ H3 Jx YU _ e3 d3 f3 p3 q3;rw[Cq,hm]at this;exact(congrArg (λz=>Q (.tup [.str "binary",z,.int 1,.str (qF op),.tup (a::ba (eD bp Γ j l)::.int 1::rest),iA bM Γ (j+cnt l) r]) H3) (show cond op.cmp (ba (.con .bool)) (ba (eD bp Γ j l))=ba (if op.cmp then .con .bool else eD bp Γ j l) by cases op.cmp<;>rfl)).mpr this
    ·tb_rel
     exact hE H' ff hf
   ·tb_rel
    exact hE H' ff hf
  ·tb_rel
   exact hE H' ff hf
end
theorem Cr:∀dp,wq dp:=by
 intro zz;induction zz with
 |zero=>
  intro e n A H σ ns Γ Q E B j w ho hb hB hg hw wt zv hs he d c hQ hE;cases e with
  |lit v k=>exact mW (m:=n) (by cases k<;>exact ho) hb hB hw zv hs he d hQ
  |gz x=>exact mX (m:=n) ho hb he d c hQ
  |_=>exact ho.elim
 |succ dp ih=>
  intro e n A H σ ns Γ Q E B j w ho hb hB hg hw wt zv hs he d c hQ hE;have ih:=ih;rw[show n+3*(dp+1)+9=n+3*dp+9+1+1+1 by omega];cases e with
  |lit v k=>exact mW (m:=n+3*dp+3) (by cases k<;>exact ho) hb hB hw zv hs he d hQ
  |gz x=>exact mX (m:=n+3*dp+3) ho hb he d c hQ
  |neg eo=>
   refine gQ he (GJ λH₁ f=>?_);have f':Fr (MI A) H H₁:=f.weaken λ_ z=>z.elim
   by_cases q:∃v k,eo=.lit v k
   ·refine dA q ?_;clear q;intro v k UB
    subst UB;refine sT (m:=n+3*dp+4) (Γ:=Γ) (j:=j) (lam:=λ_=>.iv 0) (by cases dp<;>cases k<;>exact ho) hb (by simpa only[cL,cM,cN,cO,cP]using hB) hw zv (by simpa only[cL,cM,cN,cO,cP]using hs) (he.no f) (d.no he f) λH' bE dI lam e' d' g p q=>?_;exact hQ H' bE dI lam e' d' (f'.trans g) p q
   ·exact sU ih (λv k z=>q ⟨v,k,z⟩) ho hb hB hg wt hw zv hs (he.no f) (d.no he f) (c.no he f) (λH' bE dI lam e' d' g p q=>hQ H' bE dI lam e' d' (f'.trans g) p q) λH' ff=>hE H' (f'.trans ff)
  |cast k eo=>
   refine gQ he (GK λH₁ f=>?_);have f':Fr (MI A) H H₁:=f.weaken λ_ z=>z.elim;exact tX ih ho.2 hb hB hg wt hs (he.no f) (d.no he f) (c.no he f) (λH' bE dI lam e' d' g p q=>hQ H' bE dI lam e' d' (f'.trans g) p q) λH' ff=>hE H' (f'.trans ff)
  |bin op l r=>exact gQ he (GL (qU ih ho hb hB hg hw wt zv hs he d c hQ hE))
structure Row where
 told:Option K
 ex:Ex
noncomputable def qH(i:Nat)(r:Row):ae:=.tup [.str "let",.int 1,yP i,(match r.told with|none=>.none|some k=>nameA (kS k)),dX r.ex]
noncomputable def gn(lam:Nat->Ty)(Γ:List Ty)(j:Nat)(r:Row):Ty:=match r.told with
 |none=>eD lam Γ j r.ex
 |some k=>.con k
noncomputable def nK(ν:Nat->K)(Γ:List K)(j:Nat)(r:Row):K:=match r.told with
 |none=>ty ν Γ j r.ex
 |some k=>k
noncomputable def qV(ν:Nat->K)(Γ:List K)(j:Nat)(r:Row):Prop:=eqs ν Γ j r.ex∧∀k,r.told=some k->ty ν Γ j r.ex=k
noncomputable def iF(lam:Nat->Ty)(Γ:List Ty)(j:Nat)(r:Row):ae:=.tup [.str "let",.int 1,pL (gn lam Γ j r) Γ.length,iA lam Γ j r.ex]
structure GQ(σ bE:List (Option Ty))(B':Nat)(lam:Nat->Ty)(Γ:List Ty)(j:Nat)(r:Row):Prop where
 bd:Bd bE B'
 len:σ.length<=bE.length
 top:bE.length<=σ.length+size r.ex+1
 vl:∀i,j<=i->i<j+cnt r.ex->iY bE (lam i)∧lam i≠.con .bool
 snd:∀μ,Sat bE μ->Sat σ μ∧qV (λi=>ev μ (lam i)) (Γ.map (ev μ)) j r
 cmp:∀μ ν,Sat σ μ->(∀i,ν i≠.bool)->qV ν (Γ.map (ev μ)) j r->∃lP,Sat bE lP∧(∀n,n<σ.length->lP n=μ n)∧∀i,j<=i->i<j+cnt r.ex->ev lP (lam i)=ν i
noncomputable def Rd(σ:List (Option Ty))(Γ:List Ty)(j:Nat)(r:Row):Prop:=∀μ ν,Sat σ μ->(∀i,ν i≠.bool)->qV ν (Γ.map (ev μ)) j r->False
theorem o5{n:Nat}{H:AH}(t:Ty){a:ae}{rest:List ae}:run au (n+1) 476 [.tup (a::ba t::rest)] H=some (.ok (.bool false),H):=by
 cases t with
 |con k=>cases k<;>kernel_rfl
 |iv m=>kernel_rfl
theorem sV(e:Ex)(H:AH):bz .eI (dX e) .none H=some true:=by cases e<;>rfl
section
variable{n:Nat}{A:Ad}{H:AH}{σ:List (Option Ty)}{ns:List Bool}{Γ:List Ty}{Q:ae->AH->Prop}{E:Nat->AH->Prop}{B j:Nat}{r:Row}
theorem GR{H':AH}{M:Nat->Prop}(h:A.s0<H.next)(f:Fr M H H'):A.s0<H'.next:=Nat.lt_of_lt_of_le h f.1
theorem wx{dp:Nat}(hdp:dp<=3)(ho:tv Γ.length dp r.ex)(hn:Γ.length<6)(hb:Bd σ B)(hB:B+(size r.ex+1)<=90000)(hg:∀t∈Γ,iY σ t)(wt:∀t∈Γ,nv ns t)(hs:σ.length+(size r.ex+1)<1000)(e:Env A H)(d:Dn A H σ ns)(c:Lc A H Γ)(h0:A.s0<H.next)
  (hQ:∀H' bE dI lam,Env A H'->Dn A H' bE dI->Lc A H' (Γ++[gn lam Γ j r])->Fr (λk=>MI A k∨ML A k) H H'->GQ σ bE (B+(size r.ex+1)) lam Γ j r->iY bE (gn lam Γ j r)->Num ns dI lam j (cnt r.ex)->nv dI (gn lam Γ j r)->Q (iF lam Γ j r) H') (hE:∀H',Fr (MI A) H H'->Rd σ Γ j r->E 129 H'):
  W (run au (n+3*dp+10) 511 [.ref A.c,qH Γ.length r] H) Q E:=by
 obtain⟨told,ex⟩:=r;dsimp only at ho hB hs;cases told with
 |none=>
  refine aw (fi:=⟨["checker", "statement"],[],nA⟩) (l:=[("checker",.ref A.c),("statement",qH Γ.length ⟨none,ex⟩)]) ?_;tb_rel;refine⟨_,aA e.c1 e.c2 rfl rfl rfl,?_⟩;tb_rel;refine AX (n:=n+3*dp+7) e d (by omega) λH1 e1 d1 f1=>?_;tb_rel;refine bu (sV ex _) ?_;tb_rel;refine⟨_,aA e1.c1 e1.c2 rfl rfl rfl,?_⟩;tb_rel;refine Cr dp ex n (B:=B) (j:=j) (w:=none) ho hb.snoc (by omega) (λt ht=>(hg t ht).snoc) (λT q=>by cases q) (λt ht=>(wt t ht).snoc) (λT q=>by cases q) (by simp;omega) e1 d1 (c.mi e f1) (λH2 nJ u5 lam e2 d2 f2 p q0=>?_) λH2 ff hf=>?_
  ·refine wu (P:=λv=>M6 "made" _ _ v H2) lam Γ j ex λa rest hm=>?_
   have l1:σ.length<=nJ.length:=Nat.le_trans (by simp) p.len;have vT:iY nJ (eD lam Γ j ex):=oZ (λt ht=>(hg t ht).le l1) λi a b=>(p.vl i a b).1;have q1:Num ns u5 lam j (cnt ex):=⟨λt h=>q0.le t h.snoc,q0.nl⟩
   have nT:nv u5 (eD lam Γ j ex):=gm (λt ht=>q1.le t (wt t ht)) q1.nl;refine Bd.Wo p.bd vT λk0 rr hk s=>?_;tb_rel;refine bY (o5 _) ?_;tb_rel;refine⟨_,aA e2.c1 e2.c2 rfl rfl rfl,?_⟩;tb_rel;refine nH (n:=n+3*dp+3) s s (by omega) (by omega) nT nT e2 d2 ?_;have hu:iD nJ rr rr=some nJ:=by cases rr<;>simp[iD]
   rw[hu];intro H3 e3 d3 f3;have ND:Fr (MI A) H H3:=(f1.trans f2).trans f3;tb_rel;refine iX (n:=n+3*dp+3) (ts:=Γ) hn e3 d3 (c.mi e ND) (GR h0 ND) λH4 e4 d4 c4 f4=>?_;tb_rel;have:=hQ H4 nJ u5 lam e4 d4 c4 ((ND.weaken λ_ z=>.inl z).trans (f4.weaken λ_ z=>.inr z)) ⟨p.bd.mono (by show _<=B+(size ex+1);omega),l1,by have:=p.top;simp at this;show _<=σ.length+size ex+1;omega,p.vl,λμ S=>⟨(lO hb).1 (p.snd μ S).1,(p.snd μ S).2,λk q=>by cases q⟩,λμ ν S fb he=>?_⟩ vT q1 nT
   ·unfold iF at this
    dsimp only at this;rw[hm]at this;exact this
   ·have S0:=(lO hb).2 S .j6 (by intro z;cases z)
    have ag:∀m,m<σ.length->(if m=σ.length then K.j6 else μ m)=μ m:=λm hm=>if_neg (Nat.ne_of_lt hm);have g:Γ.map (ev λm=>if m=σ.length then K.j6 else μ m)=Γ.map (ev μ):=gP hg ag;refine cm (p.cmp _ ν S0 fb (by rw[g];exact he.1) λT q=>by cases q) λlP x y z=>?_;exact⟨lP,x,λm hm=>(y m (by simp;omega)).trans (ag m hm),z⟩
  ·tb_rel
   refine hE H2 (f1.trans ff) λμ ν S fb he=>?_;have S0:=(lO hb).2 S .j6 (by intro z;cases z);have ag:∀m,m<σ.length->(if m=σ.length then K.j6 else μ m)=μ m:=λm hm=>if_neg (Nat.ne_of_lt hm);have g:Γ.map (ev λm=>if m=σ.length then K.j6 else μ m)=Γ.map (ev μ):=gP hg ag;exact hf _ ν S0 fb (by rw[g];exact he.1) λT q=>by cases q
 |some k=>
  refine aw (fi:=⟨["checker", "statement"],[],nA⟩) (l:=[("checker",.ref A.c),("statement",qH Γ.length ⟨some k,ex⟩)]) ?_;tb_rel;refine⟨_,aA e.c1 e.c2 rfl rfl rfl,?_⟩;tb_rel;refine uX (n:=n+3*dp+3) k e λH1 f1=>?_;have e1:=e.no f1;have d1:=d.no e f1;tb_rel;refine bu (sV ex _) ?_;tb_rel;refine⟨_,aA e1.c1 e1.c2 rfl rfl rfl,?_⟩;tb_rel;refine Cr dp ex n (B:=B) (j:=j) (w:=some (.con k)) ho hb (by omega) hg (λT q=>by cases q;trivial) wt (λT q=>by cases q;trivial) (by omega) e1 d1 (c.no e f1) (λH2 nJ u5 lam e2 d2 f2 p q1=>?_) λH2 ff hf=>?_
  ·refine wu (P:=λv=>M6 "made" _ _ v H2) lam Γ j ex λa rest hm=>?_
   have vT:iY nJ (eD lam Γ j ex):=oZ (λt ht=>(hg t ht).le p.len) λi a b=>(p.vl i a b).1;refine Bd.Wo p.bd vT λkk rr hk s=>?_;tb_rel;refine⟨_,aA e2.c1 e2.c2 rfl rfl rfl,?_⟩;tb_rel;refine nH (n:=n+3*dp+3) s (.con k) (by omega) (by omega) (gm (λt ht=>q1.le t (wt t ht)) q1.nl) trivial e2 d2 ?_;have GP:=yT s.end_ (.con k) p.bd;have pre:∀{μ ν:Nat->K},Sat σ μ->(∀i,ν i≠.bool)->qV ν (Γ.map (ev μ)) j ⟨some k,ex⟩->∃lP,Sat nJ lP∧(∀n,n<σ.length->lP n=μ n)∧(∀i,j<=i->i<j+cnt ex->ev lP (lam i)=ν i)∧ev lP rr=ev lP (.con k):=by
    intro μ ν S fb he;obtain⟨lP,x,y,z⟩:=p.cmp μ ν S fb he.1 λT q=>by cases q;exact he.2 k rfl
    refine⟨lP,x,y,z,?_⟩;rw[<-s.Lh x,<-kG,gP hg y];exact(eA z).trans (he.2 k rfl)
   cases hu:iD nJ rr (.con k)with
   |none=>
    rw[hu]at GP;intro H3 ff;tb_rel;refine hE H3 (((f1.weaken λ_ z=>z.elim).trans f2).trans (ff.weaken λ_ z=>z.elim)) λμ ν S fb he=>?_;refine fq (pre S fb he) λlP x _ _ q=>?_;exact GP lP x q
   |some Jx=>
    rw[hu]at GP;refine dw GP ?_;clear GP;intro sat bd ln;intro H3 e3 d3 f3;have ND:Fr (MI A) H H3:=((f1.weaken λ_ z=>z.elim).trans f2).trans f3;tb_rel;refine iX (n:=n+3*dp+3) (t:=.con k) (ts:=Γ) hn e3 d3 (c.mi e ND) (GR h0 ND) λH4 e4 d4 c4 f4=>?_;tb_rel;have:=hQ H4 Jx u5 lam e4 d4 c4 ((ND.weaken λ_ z=>.inl z).trans (f4.weaken λ_ z=>.inr z)) ⟨by have:=bd;rwa [Nat.add_assoc]at this,by rw[ln];exact p.len,by rw[ln];have:=p.top;show _<=σ.length+size ex+1;omega,λi a b=>⟨(p.vl i a b).1.le (Nat.le_of_eq ln.symm),(p.vl i a b).2⟩,λμ S=>?_,λμ ν S fb he=>?_⟩ trivial q1 trivial
    ·unfold iF at this
     dsimp only at this;rw[hm]at this;exact this
    ·refine bk ((sat μ).mp S) λS2 q=>?_
     refine⟨(p.snd μ S2).1,(p.snd μ S2).2,λk' EW=>?_⟩;cases EW;rw[kG,s.Lh S2,q];rfl
    ·refine fq (pre S fb he) λlP x y z q=>?_
     exact⟨lP,(sat lP).mpr ⟨x,q⟩,y,z⟩
  ·tb_rel
   refine hE H2 ((f1.weaken λ_ z=>z.elim).trans ff) λμ ν S fb he=>hf μ ν S fb he.1 λT q=>by cases q;exact he.2 k rfl
end
noncomputable def o7:Nat->List Row->Prop
 |_,[]=>True
 |n,r::rs=>tv n 2 r.ex∧o7 (n+1) rs
noncomputable def dS:List Row->Nat
 |[]=>0
 |r::rs=>cnt r.ex+dS rs
noncomputable def dF:List Row->Nat
 |[]=>0
 |r::rs=>size r.ex+1+dF rs
noncomputable def ej:Nat->List Row->List ae
 |_,[]=>[]
 |i,r::rs=>qH i r::ej (i+1) rs
noncomputable def iu(lam:Nat->Ty):List Ty->Nat->List Row->List Ty
 |Γ,_,[]=>Γ
 |Γ,j,r::rs=>iu lam (Γ++[gn lam Γ j r]) (j+cnt r.ex) rs
noncomputable def dY(lam:Nat->Ty):List Ty->Nat->List Row->List ae
 |_,_,[]=>[]
 |Γ,j,r::rs=>iF lam Γ j r::dY lam (Γ++[gn lam Γ j r]) (j+cnt r.ex) rs
noncomputable def gA(ν:Nat->K):List K->Nat->List Row->Prop
 |_,_,[]=>True
 |Γ,j,r::rs=>qV ν Γ j r∧gA ν (Γ++[nK ν Γ j r]) (j+cnt r.ex) rs
noncomputable def sW(ν:Nat->K):List K->Nat->List Row->List K
 |Γ,_,[]=>Γ
 |Γ,j,r::rs=>sW ν (Γ++[nK ν Γ j r]) (j+cnt r.ex) rs
section
variable{ν:Nat->K}{Γ:List K}{lam:Nat->Ty}{Δ:List Ty}{j:Nat}{r:Row}{rs:List Row}
theorem jk:dS []=0:=rfl
theorem jl:dS (r::rs)=cnt r.ex+dS rs:=rfl
theorem o8:dF []=0:=rfl
theorem o9:dF (r::rs)=size r.ex+1+dF rs:=rfl
theorem sX:ej j []=[]:=rfl
theorem sY:ej j (r::rs)=qH j r::ej (j+1) rs:=rfl
theorem pP:iu lam Δ j []=Δ:=rfl
theorem pQ:iu lam Δ j (r::rs)=iu lam (Δ++[gn lam Δ j r]) (j+cnt r.ex) rs:=rfl
theorem rB:dY lam Δ j []=[]:=rfl
theorem rC:dY lam Δ j (r::rs)=iF lam Δ j r::dY lam (Δ++[gn lam Δ j r]) (j+cnt r.ex) rs:=rfl
theorem Jz:gA ν Γ j []=True:=rfl
theorem JA:gA ν Γ j (r::rs)=(qV ν Γ j r∧gA ν (Γ++[nK ν Γ j r]) (j+cnt r.ex) rs):=rfl
theorem A1:sW ν Γ j []=Γ:=rfl
theorem A2:sW ν Γ j (r::rs)=sW ν (Γ++[nK ν Γ j r]) (j+cnt r.ex) rs:=rfl
end
theorem jm{i j:Nat}{r:Row}{rs:List Row}(b:i<j+cnt r.ex):i<j+dS (r::rs):=Nat.lt_of_lt_of_le b (Nat.add_le_add_left (Nat.le_add_right _ _) _)
theorem pR{i j:Nat}{r:Row}{rs:List Row}(b:i<j+cnt r.ex+dS rs):i<j+dS (r::rs):=Nat.lt_of_lt_of_eq b (Nat.add_assoc _ _ _)
theorem fB{lam eH:Nat->Ty}{Γ:List Ty}{j:Nat}{r:Row}(h:∀i,j<=i->i<j+cnt r.ex->lam i=eH i):gn lam Γ j r=gn eH Γ j r:=by
 unfold gn;split
 ·exact eL h
 ·rfl
theorem j9{ν pN:Nat->K}{Γ:List K}{j:Nat}{r:Row}(h:∀i,j<=i->i<j+cnt r.ex->ν i=pN i):nK ν Γ j r=nK pN Γ j r:=by
 unfold nK;split
 ·exact eA h
 ·rfl
theorem mx{lam:Nat->Ty}{Γ:List Ty}{μ:Nat->K}{j:Nat}{r:Row}:nK (λi=>ev μ (lam i)) (Γ.map (ev μ)) j r=ev μ (gn lam Γ j r):=by
 unfold nK gn;cases r.told with
 |none=>exact kG
 |some k=>rfl
theorem sZ{ν pN:Nat->K}{Γ:List K}{j:Nat}{r:Row}(h:∀i,j<=i->i<j+cnt r.ex->ν i=pN i):qV ν Γ j r↔qV pN Γ j r:=by
 unfold qV;rw[gO h,eA h]
theorem s6{lam eH:Nat->Ty}{Γ:List Ty}{j:Nat}{r:Row}(h:∀i,j<=i->i<j+cnt r.ex->lam i=eH i):iF lam Γ j r=iF eH Γ j r:=by
 unfold iF;rw[fB h,pM h]
theorem s7{lam eH:Nat->Ty}:∀{rs:List Row}{Γ:List Ty}{j:Nat},(∀i,j<=i->i<j+dS rs->lam i=eH i)->iu lam Γ j rs=iu eH Γ j rs:=by
 intro zz;induction zz with
 |nil=>
  intro _ _ _;exact rfl
 |cons r rs ih=>
  intro Γ j h;simp only[pP,pQ];rw[fB λi a b=>h i a (jm b)];exact ih λi a b=>h i (Nat.le_of_add_right_le a) (pR b)
theorem yX{lam eH:Nat->Ty}:∀{rs:List Row}{Γ:List Ty}{j:Nat},(∀i,j<=i->i<j+dS rs->lam i=eH i)->dY lam Γ j rs=dY eH Γ j rs:=by
 intro zz;induction zz with
 |nil=>
  intro _ _ _;exact rfl
 |cons r rs ih=>
  intro Γ j h;simp only[rB,rC];rw[fB λi a b=>h i a (jm b),s6 λi a b=>h i a (jm b)];rw[ih λi a b=>h i (Nat.le_of_add_right_le a) (pR b)]
theorem qI{ν pN:Nat->K}:∀{rs:List Row}{Γ:List K}{j:Nat},(∀i,j<=i->i<j+dS rs->ν i=pN i)->(gA ν Γ j rs↔gA pN Γ j rs):=by
 intro zz;induction zz with
 |nil=>
  intro _ _ _;exact Iff.rfl
 |cons r rs ih=>
  intro Γ j h;simp only[Jz,JA];rw[j9 λi a b=>h i a (jm b),sZ λi a b=>h i a (jm b),ih λi a b=>h i (Nat.le_of_add_right_le a) (pR b)]
theorem s8{ν pN:Nat->K}:∀{rs:List Row}{Γ:List K}{j:Nat},(∀i,j<=i->i<j+dS rs->ν i=pN i)->sW ν Γ j rs=sW pN Γ j rs:=by
 intro zz;induction zz with
 |nil=>
  intro _ _ _;exact rfl
 |cons r rs ih=>
  intro Γ j h;simp only[A1,A2];rw[j9 λi a b=>h i a (jm b)];exact ih λi a b=>h i (Nat.le_of_add_right_le a) (pR b)
theorem R9{lam:Nat->Ty}{μ:Nat->K}:∀{rs:List Row}{Γ:List Ty}{j:Nat},sW (λi=>ev μ (lam i)) (Γ.map (ev μ)) j rs=(iu lam Γ j rs).map (ev μ):=by
 intro zz;induction zz with
 |nil=>
  intro _ _;exact rfl
 |cons r rs ih=>
  intro Γ j;simp only[A1,A2,pP,pQ];rw[mx,<-ih,List.map_append];rfl
structure lR(σ bE:List (Option Ty))(B':Nat)(lam:Nat->Ty)(Γ:List Ty)(j:Nat)(rs:List Row):Prop where
 bd:Bd bE B'
 len:σ.length<=bE.length
 vl:∀i,j<=i->i<j+dS rs->iY bE (lam i)∧lam i≠.con .bool
 snd:∀μ,Sat bE μ->Sat σ μ∧gA (λi=>ev μ (lam i)) (Γ.map (ev μ)) j rs
 cmp:∀μ ν,Sat σ μ->(∀i,ν i≠.bool)->gA ν (Γ.map (ev μ)) j rs->∃lP,Sat bE lP∧(∀n,n<σ.length->lP n=μ n)∧∀i,j<=i->i<j+dS rs->ev lP (lam i)=ν i
 vg:∀t∈iu lam Γ j rs,iY bE t
noncomputable def GS(σ:List (Option Ty))(Γ:List Ty)(j:Nat)(rs:List Row):Prop:=∀μ ν,Sat σ μ->(∀i,ν i≠.bool)->gA ν (Γ.map (ev μ)) j rs->False
noncomputable def joinR(j:Nat)(r:Row)(bp bM:Nat->Ty):Nat->Ty:=λi=>if i<j+cnt r.ex then bp i else bM i
section
variable{σ ph nJ:List (Option Ty)}{B1 B2 j:Nat}{bp bM:Nat->Ty}{Γ:List Ty}{r:Row}{rs:List Row}
theorem yY{i:Nat}(h:i<j+cnt r.ex):joinR j r bp bM i=bp i:=if_pos h
theorem A3{i:Nat}(h:j+cnt r.ex<=i):joinR j r bp bM i=bM i:=if_neg (Nat.not_lt.mpr h)
theorem yZ(p1:GQ σ ph B1 bp Γ j r)(hg:∀t∈Γ,iY σ t){μ ν:Nat->K}(S:Sat σ μ)(fb:∀i,ν i≠.bool)(he:gA ν (Γ.map (ev μ)) j (r::rs)):
  ∃pO,Sat ph pO∧(∀n,n<σ.length->pO n=μ n)∧(∀i,j<=i->i<j+cnt r.ex->ev pO (bp i)=ν i)∧gA ν ((Γ++[gn bp Γ j r]).map (ev pO)) (j+cnt r.ex) rs:=by
 refine bk he ?_;clear he;intro e1 e2;refine cm (p1.cmp μ ν S fb e1) λpO a b c=>?_;refine⟨pO,a,b,c,?_⟩;have g:=gP hg b;rw[List.map_append,List.map_cons,List.map_nil,<-mx,g,j9 c];exact e2
theorem lR.cons(p1:GQ σ ph B1 bp Γ j r)(p2:lR ph nJ B2 bM (Γ++[gn bp Γ j r]) (j+cnt r.ex) rs)(hg:∀t∈Γ,iY σ t):lR σ nJ B2 (joinR j r bp bM) Γ j (r::rs):=by
 have hr:gn (joinR j r bp bM) Γ j r=gn bp Γ j r:=fB λi a b=>yY b;exact{
  bd:=p2.bd
  len:=Nat.le_trans p1.len p2.len
  vl:=λi a b=>by
   simp only[jk,jl]at b
   by_cases h:i<j+cnt r.ex
   ·rw[yY h];exact⟨(p1.vl i a h).1.le p2.len,(p1.vl i a h).2⟩
   ·rw[A3 (by omega)];exact p2.vl i (by omega) (by omega)
  snd:=λμ S=>by
   refine bk (p2.snd μ S) λS1 e2=>?_
   refine bk (p1.snd μ S1) λS0 e1=>?_
   refine⟨S0,(sZ λi a b=>by rw[yY b]).mp e1,?_⟩
   rw[mx,hr]
   rw[List.map_append]at e2
   exact(qI λi a b=>by rw[A3 a]).mp e2
  cmp:=λμ ν S fb he=>by
   refine fq (yZ p1 hg S fb he) λpO a b c e2=>?_
   refine cm (p2.cmp pO ν a fb e2) λyW a2 b2 c2=>?_
   refine⟨yW,a2,λn hn=>(b2 n (Nat.lt_of_lt_of_le hn p1.len)).trans (b n hn),λi x y=>?_⟩
   simp only[jk,jl]at y
   by_cases h:i<j+cnt r.ex
   ·rw[yY h,lQ (p1.vl i x h).1 b2];exact c i x h
   ·rw[A3 (by omega)];exact c2 i (by omega) (by omega)
  vg:=by
   simp only[pP,pQ]
   rw[hr,s7 (eH:=bM) λi a b=>A3 a]
   exact p2.vg }
theorem Num.cons{ns yV u5:List Bool}(q1:Num ns yV bp j (cnt r.ex))(q2:Num yV u5 bM (j+cnt r.ex) (dS rs)):Num ns u5 (joinR j r bp bM) j (dS (r::rs)):=
 ⟨λt h=>q2.le t (q1.le t h),λi a b=>by
  simp only[jk,jl]at b
  by_cases h:i<j+cnt r.ex
  ·rw[yY h];exact q2.le _ (q1.nl i a h)
  ·rw[A3 (by omega)];exact q2.nl i (by omega) (by omega)⟩
theorem y0:iu (joinR j r bp bM) Γ j (r::rs)=iu bM (Γ++[gn bp Γ j r]) (j+cnt r.ex) rs:=by
 simp only[pP,pQ];rw[fB (eH:=bp) λi a b=>yY b,s7 (eH:=bM) λi a b=>A3 a]
theorem DO:dY (joinR j r bp bM) Γ j (r::rs)=iF bp Γ j r::dY bM (Γ++[gn bp Γ j r]) (j+cnt r.ex) rs:=by
 simp only[rB,rC];rw[fB (eH:=bp) λi a b=>yY b,s6 (eH:=bp) λi a b=>yY b,yX (eH:=bM) λi a b=>A3 a]
end
noncomputable def vc(A:Ad)(kI:ae)(lines:List ae)(a:Nat):Loc:=[("checker",.ref A.c),("node",kI),("wanted",.none),("kind",.str "block"),("spot",.int 1),("statements",.tup lines),("tail",.none),("rows",.ref a),("is_over",.bool false)]
noncomputable def A4(A:Ad)(kI:ae)(lines:List ae)(a:Nat)(l:Loc):Prop:=l=vc A kI lines a∨∃x,l=vc A kI lines a++[("statement",x)]
theorem DP{A:Ad}{kI:ae}{lines:List ae}{a:Nat}{l:Loc}(h:A4 A kI lines a l)(v:ae):bc "statement" v l=vc A kI lines a++[("statement",v)]:=by
 rcases h with rfl|⟨x,rfl⟩<;>rfl
theorem JB(lam:Nat->Ty)(Γ:List Ty)(j:Nat)(e:Ex)(H:AH):bz .eI (iA lam Γ j e) .none H=some true:=by
 refine dA (fA lam Γ j e) λa rest h=>?_;rw[h];rfl
section
variable{n:Nat}{A:Ad}{kI:ae}{lines:List ae}{a:Nat}{R:ek->Loc->AH->Prop}
noncomputable def vd:List bD:=[.iff (.cmp (.sub (.loc "statement") (.cst (.int 0))) .eq (.cst (.str "let"))) [.expr (.aE (.loc "rows") "append" [.call (.glob "read_let" (.top 511)) [.loc "checker",.loc "statement"]]),
  .asg "is_over" (.or [.loc "is_over",.and [.cmp (.sub (.sub (.loc "rows") (.neg (.cst (.int 1)))) (.cst (.int 3))) .eI (.cst (.none)),.call (.glob "is_never" (.top 476)) [.sub (.sub (.loc "rows") (.neg (.cst (.int 1)))) (.cst (.int 3))]]])] [.dead,
  .dead]]
theorem Lc.row{H:AH}{ts:List Ty}(c:Lc A H ts)(e:Env A H){o:cT}(ha:a<H.next)(hl:a≠A.lo∧a≠A.s1∧a≠A.sc)(hr:∀j:Nat,∀t:Ty,H.get a≠some (.list [.str (vS j),ba t,.bool false])):Lc A (H.set a o) ts where
 lo:=by
  refine cm c.lo λrs h1 h2 h3=>?_;refine⟨rs,(aB _ _ (Ne.symm hl.1)).trans h1,h2,λj r t' Ux ht=>?_⟩;refine gq (h3 j r t' Ux ht) λx b cc dd=>?_;refine⟨(aB _ _ λq=>?_).trans x,b,cc,dd⟩;rw[q]at x;exact hr _ _ x
 sc:=(aB _ _ (Ne.symm hl.2.2)).trans c.sc
 s1:=(aB _ _ (Ne.symm hl.2.1)).trans c.s1
 le:=c.le
theorem Env.YV{H:AH}{acc:List ae}{o:cT}(e:Env A H)(hg:H.get a=some (.list acc)):Env A (H.set a o):=by
 have k:∀x o',H.get x=some o'->(∀vs,o'≠.list vs)->(H.set a o).get x=some o':=λx o' h no=>(aB _ _ λq=>by rw[q,hg]at h;cases h;exact no _ rfl).trans h;obtain⟨a1,a2,a3,a4,a5,a6,a7,hw⟩:=e.w2;obtain⟨b1,b2,b3,b4,b5,b6,b7,hk⟩:=e.k2;obtain⟨c1,c2,c3,c4,c5,c6,c7,hr⟩:=e.r2;exact{
  c1:=k _ _ e.c1 (by intro vs q;cases q)
  c2:=k _ _ e.c2 (by intro vs q;cases q)
  i1:=k _ _ e.i1 (by intro vs q;cases q)
  i2:=k _ _ e.i2 (by intro vs q;cases q)
  w1:=k _ _ e.w1 (by intro vs q;cases q)
  w2:=⟨a1,a2,a3,a4,a5,a6,a7,k _ _ hw (by intro vs q;cases q)⟩
  k1:=k _ _ e.k1 (by intro vs q;cases q)
  k2:=⟨b1,b2,b3,b4,b5,b6,b7,k _ _ hk (by intro vs q;cases q)⟩
  r1:=k _ _ e.r1 (by intro vs q;cases q)
  r2:=⟨c1,c2,c3,c4,c5,c6,c7,k _ _ hr (by intro vs q;cases q)⟩
  bd:=k _ _ e.bd (by intro vs q;cases q)
  lt:=e.lt
  lm:=e.lm
  ne:=e.ne }
noncomputable def Lets(acc:List ae):Prop:=∀v∈acc,∃xs,v=.tup xs
theorem A5{acc:List ae}(h:Lets acc)(j:Nat)(t:Ty):(some (cT.list acc))≠some (.list [.str (vS j),ba t,.bool false]):=by
 intro q;injection q with q;injection q with q
 refine aV (h (.str (vS j)) (by rw[q];simp)) λxs e=>?_;cases e
theorem A6:∀(rs:List Row) {H:AH}{σ:List (Option Ty)}{ns:List Bool}{Γ:List Ty}{B j k:Nat}{acc:List ae}{l:Loc},A4 A kI lines a l->H.get a=some (.list acc)->Lets acc->a<H.next->¬MI A a->¬ML A a->rs.length+1<=k->acc.length+rs.length<=100->o7 Γ.length rs->Γ.length+rs.length<=6->Bd σ B->B+dF rs<=90000->(∀t∈Γ,iY σ t)->(∀t∈Γ,nv ns t)->σ.length+dF rs<1000->
  Env A H->Dn A H σ ns->Lc A H Γ->A.s0<H.next->
  (∀H' bE dI lam l',A4 A kI lines a l'->Env A H'->Dn A H' bE dI->Lc A H' (iu lam Γ j rs)->H'.get a=some (.list (acc++dY lam Γ j rs))->Fr (λk=>MI A k∨ML A k∨k=a) H H'->lR σ bE (B+dF rs) lam Γ j rs->Num ns dI lam j (dS rs)->(∀t∈iu lam Γ j rs,nv dI t)->R .next l' H')->(∀H' l',Fr (λk=>MI A k∨ML A k∨k=a) H H'->GS σ Γ j rs->R (.exc 129) l' H')->
  WS (jt k (λv l H=>execs au (run au (n+16)) vd (bc "statement" v l) H) (.seq (ej Γ.length rs)) l H) R:=by
 intro zz;induction zz with
 |nil=>
  intro H σ ns Γ B j k acc l hl hg NF ha m1 m2 hk hlen ok h6 hb hB hv Sa hs e d c h0 hQ hE;obtain⟨k,rfl⟩:∃k',k=k'+1:=⟨k-1,by simp at hk;omega⟩
  refine kF rfl (hQ H σ ns (λ_=>.iv 0) l hl e d c (by simpa[rB,rC]using hg) .refl ⟨hb,Nat.le_refl _,λi x y=>by simp only[jk,jl]at y;omega,λμ S=>⟨S,trivial⟩,λμ ν S _ _=>⟨μ,S,λ_ _=>rfl,λi x y=>by simp only[jk,jl]at y;omega⟩,hv⟩ ⟨λ_ h=>h,λi x y=>by simp only[jk,jl]at y;omega⟩ Sa)
 |cons r rs ih=>
  intro H σ ns Γ B j k acc l hl hg NF ha m1 m2 hk hlen ok h6 hb hB hv Sa hs e d c h0 hQ hE;simp only[List.length_cons]at hk h6 hlen;simp only[o8,o9]at hB hs;obtain⟨k,rfl⟩:∃k',k=k'+1:=⟨k-1,by omega⟩
  refine ig (it':=.seq (ej (Γ.length+1) rs)) rfl ?_;rw[DP hl];unfold vd;tb_rel;refine⟨_,aU hg (.inl rfl),?_⟩;tb_rel;refine wx (n:=n) (dp:=2) (B:=B) (j:=j) (r:=r) (Γ:=Γ) (by omega) ok.1 (by omega) hb (by omega) hv Sa (by omega) e d c h0 (λH1 ph yV bp e1 d1 c1 f1 p1 v1 q1 nT=>?_) λH1 ff hf=>?_
  ·have ne:¬(MI A a∨ML A a):=λz=>z.elim m1 m2
   have g1:=f1.keep hg ha ne;have a1:a<H1.next:=Nat.lt_of_lt_of_le ha f1.1;tb_rel;refine append_list g1 (by omega) ?_;have Sb:a≠A.lo∧a≠A.s1∧a≠A.sc:=⟨λq=>m2 (.inl q),λq=>m2 (.inr (.inl q)),λq=>m2 (.inr (.inr q))⟩
   have f2:Fr (λk=>k=a) H1 (H1.set a (.list (acc++[iF bp Γ j r]))):=Fr.set _ _ rfl;have e2:Env A (H1.set a (.list (acc++[iF bp Γ j r]))):=e1.YV g1;have d2:Dn A (H1.set a (.list (acc++[iF bp Γ j r]))) ph _:=d1.step e1 f2 λk z w=>m1 (z▸w);have c2:=c1.row e1 (o:=.list (acc++[iF bp Γ j r])) a1 Sb λj' t'=>by rw[g1];exact A5 NF j' t'
   have g2:(H1.set a (.list (acc++[iF bp Γ j r]))).get a=some (.list (acc++[iF bp Γ j r])):=aF _ _ _;tb_rel;refine⟨iF bp Γ j r,sQ g2 (by simp),?_⟩;tb_rel;refine bu (JB bp Γ j r.ex _) ?_;tb_rel;refine⟨iF bp Γ j r,sQ g2 (by simp),?_⟩;refine dA (fA bp Γ j r.ex) λa' rest hm=>?_;tb_rel;rw[hm];refine bY (o5 _) ?_;tb_rel;have s1:=p1.top;have:=ih (H:=H1.set a (.list (acc++[iF bp Γ j r]))) (σ:=ph) (Γ:=Γ++[gn bp Γ j r]) (B:=B+(size r.ex+1)) (j:=j+cnt r.ex) (k:=k) (l:=vc A kI lines a++[("statement",qH Γ.length r)]) (.inr ⟨_,rfl⟩) g2 ?_ a1 m1 m2 (by omega) (by simp;omega) (by simpa using ok.2) (by simp;omega) p1.bd (by omega) ?_ ?_ (by omega) e2 d2 c2 (Nat.lt_of_lt_of_le h0 f1.1) ?_ ?_
   ·rw[List.length_append,List.length_singleton]at this
    exact this
   ·intro v hv
    refine dZ (List.mem_append.mp hv) (λq=>?_) λq=>?_
    ·exact NF v q
    ·rw[List.mem_singleton]at q;exact⟨_,q⟩
   ·intro t ht
    refine dZ (List.mem_append.mp ht) (λq=>?_) λq=>?_
    ·exact(hv t q).le p1.len
    ·rw[List.mem_singleton]at q;rw[q];exact v1
   ·intro t ht
    refine dZ (List.mem_append.mp ht) (λq=>?_) λq=>?_
    ·exact q1.le t (Sa t q)
    ·rw[List.mem_singleton]at q;rw[q];exact nT
   ·intro H' bE dI bM l' Dj e' d' c' g' f' p2 q2 Ax
    refine hQ H' bE dI (joinR j r bp bM) l' Dj e' d' ?_ ?_ ?_ ?_ (q1.cons q2) (by rw[y0];exact Ax)
    ·rw[y0];exact c'
    ·rw[DO,g'];simp
    ·exact((f1.weaken λk z=>z.elim .inl λz=>.inr (.inl z)).trans (f2.weaken λk z=>.inr (.inr z))).trans f'
    ·have:=lR.cons p1 p2 hv
     rwa [show B+(size r.ex+1)+dF rs=B+dF (r::rs) by simp only[o8,o9];omega]at this
   ·intro H' l' ff hf
    refine hE H' l' (((f1.weaken λk z=>z.elim .inl λz=>.inr (.inl z)).trans (f2.weaken λk z=>.inr (.inr z))).trans ff) λμ ν S fb he=>?_;refine fq (yZ p1 hv S fb he) λpO x _ _ y=>?_;exact hf pO ν x fb y
  ·tb_rel
   exact hE H1 _ (ff.weaken λk z=>.inl z) λμ ν S fb he=>hf μ ν S fb he.1
end
noncomputable def cQ(A:Ad)(s:Nat):Ad:={ A with s1:=s }
noncomputable def MO(A:Ad)(k:Nat):Prop:=k=A.kn∨k=A.nu∨k=A.lo∨k=A.sc
noncomputable def nL(lines:List ae):ae:=.tup [.str "block",.int 1,.tup lines,.none]
noncomputable def wy(lets:List ae):ae:=.tup [.str "block",.tup [.str "tuple",.tup []],.int 1,.tup lets,.none]
structure Lo(A:Ad)(H:AH)(ts:List Ty):Prop where
 lo:∃rs:List Nat,H.get A.lo=some (.list (rs.map .ref))∧rs.length=ts.length∧∀j r t,rs[j]? = some r->ts[j]? = some t->H.get r=some (.list [.str (vS j),ba t,.bool false])∧r<H.next∧¬MI A r∧¬ML A r
section
variable{n:Nat}{A:Ad}{H:AH}{σ:List (Option Ty)}{ns:List Bool}{Q:ae->AH->Prop}{E:Nat->AH->Prop}{B:Nat}
theorem Env.opened{H':AH}{s:Nat}(e:Env A H)(f:Fr No H H')(hs:H.next<=s)(Dd:s<H'.next):Env (cQ A s) H':=by
 have e':=e.no f;have lm:=e.lm;exact{
  c1:=e'.c1,c2:=e'.c2,i1:=e'.i1,i2:=e'.i2,w1:=e'.w1,w2:=e'.w2,k1:=e'.k1,k2:=e'.k2,r1:=e'.r1,r2:=e'.r2,bd:=e'.bd
  lt:=λa ha=>⟨(e'.lt a ha).1,(e'.lt a ha).2.1,by
   rintro(q|q|q)
   ·exact(e'.lt a ha).2.2 (.inl q)
   ·have:=(e.lt a ha).1
    have q':a=s:=q
    omega
   ·exact(e'.lt a ha).2.2 (.inr (.inr q))⟩
  lm:=⟨e'.lm.1,e'.lm.2.1,e'.lm.2.2.1,Dd,e'.lm.2.2.2.2⟩
  ne:=⟨e.ne.1,by show A.lo≠s;omega,e.ne.2.2.1,by show s≠A.sc;omega,λa ha=>by
   rintro(q|q|q)
   ·exact e.ne.2.2.2.2 a ha (.inl q)
   ·have q':a=s:=q
    refine dZ ha (λh=>?_) λh=>?_
    ·have:a=A.kn:=h
     omega
    ·have:a=A.nu:=h
     omega
   ·exact e.ne.2.2.2.2 a ha (.inr (.inr q))⟩ }
theorem s9{rs:List Row}(ok:o7 0 rs)(h6:rs.length<=6)(hb:Bd σ B)(hB:B+dF rs<=90000)(hs:σ.length+dF rs<1000)(e:Env A H)(d:Dn A H σ ns)(JC:H.get A.lo=some (.list []))(tP:H.get A.sc=some (.list [.ref A.s0]))(h0:A.s0<H.next)
  (hQ:∀s H' bE dI lam,Env (cQ A s) H'->Dn (cQ A s) H' bE dI->Lo (cQ A s) H' (iu lam [] 0 rs)->Fr (MO A) H H'->lR σ bE (B+dF rs) lam [] 0 rs->Num ns dI lam 0 (dS rs)->(∀t∈iu lam [] 0 rs,nv dI t)->Q (wy (dY lam [] 0 rs)) H') (hE:∀H',Fr (MO A) H H'->GS σ [] 0 rs->E 129 H'):
  W (run au (n+17) 518 [.ref A.c,nL (ej 0 rs),.none] H) Q E:=by
 refine aw (fi:=⟨["checker", "node", "wanted"],[],oF⟩) (l:=[("checker",.ref A.c),("node",nL (ej 0 rs)),("wanted",.none)]) ?_;have lm:=e.lm;have ne:=e.ne;tb_rel;refine⟨_,aA e.c1 e.c2 rfl rfl rfl,?_⟩;tb_rel;show W (run au (n+15+1) 730 [.ref A.c] H) _ _;refine aw (fi:=⟨["self"],[],lC⟩) (l:=[("self",.ref A.c)]) ?_;tb_rel;refine aQ e.c1 e.c2 rfl rfl rfl rfl rfl ?_;refine⟨_,aU tP (.inl rfl),?_⟩;tb_rel;have f1:Fr No H (H.new (.dict [] [])):=.new _ _;have YW:(H.new (.dict [] [])).get A.sc=some (.list [.ref A.s0]):=(aH _ _ lm.2.2.2.2).trans tP;refine append_list YW (ble rfl) ?_;have e1:Env (cQ A H.next) (H.new (.dict [] [])):=e.opened f1 (Nat.le_refl _) (Nat.lt_succ_self _);have f2:Fr (ML (cQ A H.next)) (H.new (.dict [] [])) ((H.new (.dict [] [])).set A.sc (.list ([.ref A.s0]++[.ref H.next]))):=Fr.set _ _ (.inr (.inr rfl));have e2:=e1.step (f2.weaken λk z=>.inr z);have d2:Dn (cQ A H.next) ((H.new (.dict [] [])).set A.sc (.list ([.ref A.s0]++[.ref H.next]))) σ ns:=by
  have d1:Dn (cQ A H.next) (H.new (.dict [] [])) σ ns:=let x:=d.no e f1;⟨x.kn,x.nu,x.len,x.small,x.num⟩;exact d1.step e1 f2 λk z w=>e1.ne.2.2.2.2 k w z
 have YX:Lc (cQ A H.next) ((H.new (.dict [] [])).set A.sc (.list ([.ref A.s0]++[.ref H.next]))) []:=
  {
   lo:=⟨[],(aB _ _ (show A.lo≠A.sc from ne.2.2.1)).trans ((aH _ _ lm.2.2.1).trans JC),rfl,λj r t hr=>by simp at hr⟩
   sc:=aF _ _ _
   s1:=(aB _ _ (show H.next≠A.sc by omega)).trans (aj _ _)
   le:=by simp }
 have Sd:Fr (MO A) H ((H.new (.dict [] [])).set A.sc (.list ([.ref A.s0]++[.ref H.next]))):=(f1.weaken λ_ z=>z.elim).setM _ (.inr (.inr (.inr rfl)));generalize YY:(H.new (.dict [] [])).set A.sc (.list ([.ref A.s0]++[.ref H.next]))=H2 at *;have n2:H2.next=H.next+1:=by rw[<-YY];rfl
 tb_rel;have f3:Fr No H2 (H2.new (.list [])):=.new _ _;refine jg ?_;tb_rel;have YZ:¬MI (cQ A H.next) H2.next:=Gu e2 (Nat.le_refl _);have N9:=e2.lm;have Nx:¬ML (cQ A H.next) H2.next:=by
  rintro(q|q|q)
  ·rw[q]at N9;exact absurd N9.2.2.1 (Nat.lt_irrefl _)
  ·rw[q]at N9;exact absurd N9.2.2.2.1 (Nat.lt_irrefl _)
  ·rw[q]at N9;exact absurd N9.2.2.2.2 (Nat.lt_irrefl _)
 have Lj:∀H',Fr (λk=>MI (cQ A H.next) k∨ML (cQ A H.next) k∨k=H2.next) (H2.new (.list [])) H'->Fr (MO A) H H':=by
   intro H' f';refine Sd.fresh ⟨Nat.le_trans (Nat.le_succ _) f'.1,λk hk hn=>?_⟩;have n3:(H2.new (.list [])).next=H2.next+1:=rfl;rw[f'.2 k (by rw[n3];omega) ?_,aH _ _ hk];rintro(q|q|q)
   ·exact hn (.inl (q.elim .inl λz=>.inr (.inl z)))
   ·refine Ej q (λz=>?_) (λz=>?_) λz=>?_
    ·exact hn (.inl (.inr (.inr (.inl z))))
    ·exact hn (.inr (by have z':k=H.next:=z;omega))
    ·exact hn (.inl (.inr (.inr (.inr z))))
   ·exact hn (.inr (by omega))
 refine A6 (n:=n) (A:=cQ A H.next) (a:=H2.next) (acc:=[]) (Γ:=[]) (B:=B) (j:=0) (kI:=nL (ej 0 rs)) (lines:=ej 0 rs) rs (.inl rfl) (aj _ _) (λv hv=>by cases hv) (Nat.lt_succ_self _) YZ Nx (by omega) (by simp;omega) ok (by simp;omega) hb hB (λt ht=>by cases ht) (λt ht=>by cases ht) hs (e2.no f3) (d2.no e2 f3) (YX.no e2 f3) (by show A.s0<H2.next+1;omega) (λH' bE dI lam l' Dj e' d' c' g' f' p q1 Oa=>?_) λH' l' ff hf=>?_
 ·have fin:Fr (MO A) H H':=Lj H' f'
  have close:∀{Q':ae->AH->Prop}{E':Nat->AH->Prop},Q' .none (H'.set A.sc (.list [.ref A.s0]))->W (run au (n+16) 737 [.ref A.c] H') Q' E':=by
   intro Q' E' hq;refine aw (n:=n+15) (fi:=⟨["self"],[],kD⟩) (l:=[("self",.ref A.c)]) ?_;tb_rel;refine aQ e'.c1 e'.c2 rfl rfl rfl rfl rfl ?_;refine⟨_,aU c'.sc (.inr (.inr rfl)),?_⟩;tb_rel;refine pop_list (vs:=[.ref A.s0]) c'.sc (ble rfl) ?_;tb_rel;exact hq
  have lm':=e'.lm;have f4:Fr (ML (cQ A H.next)) H' (H'.set A.sc (.list [.ref A.s0])):=Fr.set _ _ (.inr (.inr rfl));have e4:=e'.step (f4.weaken λk z=>.inr z);have d4:=d'.step e' f4 λk z w=>e'.ne.2.2.2.2 k w z;have UC:Lo (cQ A H.next) (H'.set A.sc (.list [.ref A.s0])) (iu lam [] 0 rs):=by
   refine cm c'.lo λrr x1 x2 x3=>?_;refine⟨rr,(aB _ _ (show A.lo≠A.sc from ne.2.2.1)).trans x1,x2,λj r t hr ht=>?_⟩;refine gq (x3 j r t hr ht) λy1 y2 y3 y4=>?_;exact⟨(aB _ _ λq=>y4 (.inr (.inr q))).trans y1,y2,y3,y4⟩
  have g4:(H'.set A.sc (.list [.ref A.s0])).get H2.next=some (.list ([]++dY lam [] 0 rs)):=(aB _ _ (λq=>Nx (.inr (.inr q)))).trans g';have hlen:(dY lam [] 0 rs).length<=6:=by
   have:∀(rs:List Row) (Γ:List Ty) (j:Nat),(dY lam Γ j rs).length=rs.length:=by
    intro rs;induction rs with
    |nil=>intro _ _;rfl
    |cons r rs ih=>intro Γ j;simp[rB,rC,ih]
   rw[this];exact h6
  have q5:=hQ H.next _ bE dI lam e4 d4 UC (fin.setM _ (.inr (.inr (.inr rfl)))) p q1 Oa;rcases Dj with rfl|⟨x,rfl⟩
  ·unfold vc
   tb_rel;refine⟨_,aA e'.c1 e'.c2 rfl rfl rfl,?_⟩;tb_rel;refine close ?_;tb_rel;refine bw g4 (by simp;omega) ?_;tb_rel;exact q5
  ·unfold vc
   tb_rel;refine⟨_,aA e'.c1 e'.c2 rfl rfl rfl,?_⟩;tb_rel;refine close ?_;tb_rel;refine bw g4 (by simp;omega) ?_;tb_rel;exact q5
 ·tb_rel
  exact hE H' (Lj H' ff) hf
end
noncomputable def GU:Ty:=.con .j6
noncomputable def Lk(σ bE:List (Option Ty))(ns:List Bool)(i:Nat):Prop:=bE.length=σ.length∧∀m,m<σ.length->bE[m]? = if m<i∧σ[m]? = some none∧ns[m]? = some true then some (some GU)else σ[m]?
section
variable{n:Nat}{A:Ad}{H:AH}{σ bE:List (Option Ty)}{ns:List Bool}{Q:ae->AH->Prop}{E:Nat->AH->Prop}
theorem DQ{F:dQ}{i:Nat}(h:i<=100000)(q:Q (.nR i) H):W (eK F (.bi (.type "range")) [.int i] H) Q E:=by
 unfold eK rN;exact hJ (by decide) (hJ (by decide) (hJ (by decide) (hJ (by decide) (lL rfl (lL (c:=(0:Int)<=i∧(i:Int)<=100000) (by omega) q)))))
theorem JD(d:Dn A H σ ns){m:Nat}{b:Bool}(h:ns[m]? = some b):subAt (.ref A.nu) (.int m) H=some (.bool b):=by
 have:=(List.getElem?_eq_some_iff.mp h).1;exact bT d.nu (by rw[List.getElem?_map,h];rfl) (by have:=d.small;have:=d.len;omega)
theorem DR(o:Option Ty)(H:AH):bz .is (oA o) .none H=some o.isNone:=by
 cases o with
 |none=>rfl
 |some t=>cases t with
  |con k=>cases k<;>rfl
  |iv m=>rfl
noncomputable def Rf(A:Ad)(l:Loc):Prop:=l=[("self",.ref A.i)]∨∃x,l=[("self",.ref A.i),("n",x)]
theorem GV{R:ek->Loc->AH->Prop}:∀(r i k:Nat) (bE:List (Option Ty)) (H:AH) (l:Loc),Rf A l->i+r=σ.length->r<=k->Env A H->Dn A H bE ns->Lk σ bE ns i->
  (∀H' bE l',Env A H'->Dn A H' bE ns->Lk σ bE ns σ.length->Fr (MI A) H H'->R .next l' H')->
  WS (jt (k+1) (λv l H=>execs au (run au n) [.iff (.and [.sub (.attr (.loc "self") "is_number") (.loc "n"),.cmp (.sub (.attr (.loc "self") "known") (.loc "n")) .is (.cst (.none))]) [.gS (.attr (.loc "self") "known") (.loc "n") (.glob "DEFAULT_INT" (.tup [.str "int",.str "i32"]))] []] (bc "n" v l) H) (.nR i σ.length) l H) R:=by
 intro r;induction r with
 |zero=>
  intro i k bE H l _ hi hk e d df h;have:i=σ.length:=by omega
  subst this;exact kF Nt (h H bE l e d df .refl)
 |succ r ih=>
  intro i k bE H l hl hi hk e d df h;obtain⟨k,rfl⟩:∃k',k=k'+1:=⟨k-1,by omega⟩
  have My:i<σ.length:=by omega
  have Y0:i<ns.length:=by rw[d.len,df.1];exact My
  have UD:i<bE.length:=by rw[df.1];exact My
  refine ig (it':=.nR (i+1) σ.length) (v:=.int i) (Cg My) ?_;have zw:bc "n" (.int i) l=[("self",.ref A.i),("n",.int i)]:=by rcases hl with rfl|⟨x,rfl⟩<;>rfl
  show XB (run au n) _ (bc "n" (.int i) l) H _;rw[zw];obtain⟨b,hb⟩:∃b,ns[i]? = some b:=⟨_,List.getElem?_eq_getElem Y0⟩
  obtain⟨o,ho⟩:∃o,bE[i]? = some o:=⟨_,List.getElem?_eq_getElem UD⟩
  have Ws:σ[i]? = some o:=by rw[<-ho,df.2 i My,if_neg (λq=>absurd q.1 (Nat.lt_irrefl _))]
  have keep:(b=true->o≠none)->Lk σ bE ns (i+1):=λnb=>⟨df.1,λm hm=>by
   rw[df.2 m hm]
   by_cases q:m=i
   ·subst q
    rw[if_neg (λq=>absurd q.1 (Nat.lt_irrefl _)),if_neg]
    rintro⟨_,q1,q2⟩
    rw[hb]at q2;rw[Ws]at q1
    exact nb (by injection q2) (by injection q1)
   ·simp only[show m<i↔m<i+1 by omega]⟩
  tb_rel;refine aQ e.i1 e.i2 rfl rfl rfl rfl rfl ?_;tb_rel;refine⟨_,JD d hb,?_⟩;cases b with
  |false=>
   tb_rel;exact ih (i+1) k bE H _ (.inr ⟨_,rfl⟩) (by omega) (by omega) e d (keep λq=>by cases q) h
  |true=>
   tb_rel;refine aQ e.i1 e.i2 rfl rfl rfl rfl rfl ?_;tb_rel;refine⟨_,mq d ho,?_⟩;refine bu (DR o H) ?_;cases o with
   |some t=>
    tb_rel;exact ih (i+1) k bE H _ (.inr ⟨_,rfl⟩) (by omega) (by omega) e d (keep λ_ q=>by cases q) h
   |none=>
    tb_rel;refine aQ e.i1 e.i2 rfl rfl rfl rfl rfl ?_;tb_rel;refine⟨H.set A.kn (.list ((bE.map oA).set i (ba GU))),?_,?_⟩
    ·exact ey d.kn (by rw[List.length_map];exact UD) (by rw[List.length_map];exact Nat.le_trans d.small (by decide))
    ·tb_rel
     refine ih (i+1) k (bE.set i (some GU)) _ _ (.inr ⟨_,rfl⟩) (by omega) (by omega) (e.step (Fr.set _ _ (.inl (.inl rfl)))) (d.set e i GU trivial (by intro z;cases z)) ⟨by simp[df.1],λm hm=>?_⟩ λH' UE l' e' d' Y1 f'=>h H' UE l' e' d' Y1 ((Fr.set _ _ (.inl rfl)).trans f')
     by_cases q:m=i
     ·subst q
      rw[List.getElem?_set_self UD,if_pos ⟨Nat.lt_succ_self _,Ws,hb⟩]
     ·rw[List.getElem?_set_ne (Ne.symm q),df.2 m hm]
      simp only[show m<i↔m<i+1 by omega]
theorem pS(e:Env A H)(d:Dn A H σ ns)(h:∀H' bE,Env A H'->Dn A H' bE ns->Lk σ bE ns σ.length->Fr (MI A) H H'->Q .none H'):W (run au (n+1) 594 [.ref A.i] H) Q E:=by
 refine aw (fi:=⟨["self"],[],fU⟩) (l:=[("self",.ref A.i)]) ?_;refine aC (jg ?_);ktd_rel;refine aQ e.i1 e.i2 rfl rfl rfl rfl rfl ?_;ktd_rel;refine len_list d.kn (by simp;have:=d.small;omega) ?_;ktd_rel;rw[List.length_map];refine DQ (by have:=d.small;omega) ?_;refine⟨.nR 0 σ.length,if_pos (Nat.le_trans d.small (by decide)),?_⟩;refine GV (σ:=σ) σ.length 0 99999 σ H _ (.inl rfl) (by omega) (by have:=d.small;omega) e d ⟨rfl,λm hm=>by rw[if_neg (by omega)]⟩ λH' bE l' e' d' df f'=>?_;tb_rel;exact h H' bE e' d' df f'
end
noncomputable def room(k:K)(v:Int):Bool:=match k with
 | .i8=>decide (-128<=v)&&decide (v<=127)
 | .u8=>decide (0<=v)&&decide (v<=255)
 | .j6=>decide (-2147483648<=v)&&decide (v<=2147483647)
 | .K4=>decide (-9223372036854775808<=v)&&decide (v<=9223372036854775807)
 | .bool=>false
noncomputable def sign:K->Bool
 | .i8 | .j6 | .K4=>true
 |_=>false
noncomputable def tZ(op:Op)(a b:K):Bool:=(decide (a≠.bool)&&decide (b≠.bool)) || (decide (a=.bool)&&decide (b=.bool)&&(match op with | .eq=>true|_=>false))
section
variable{n:Nat}{A:Ad}{H:AH}{σ:List (Option Ty)}{ns:List Bool}{Q:ae->AH->Prop}{E:Nat->AH->Prop}
theorem pT(k:K)(h:∀H',Fr No H H'->Q (.bool false) H'):W (run au (n+2) 127 [ba (.con k)] H) Q E:=by
 refine aw (fi:=⟨["told"],[],hF⟩) (l:=[("told",ba (.con k))]) ?_;tb_rel;have f1:Fr No H (H.new (.list [ba (.con k)])):=.new _ _;refine pI (fz (k:=99999) ?_);tb_rel;have f2:=f1.gj (.list []);have g2:((H.new (.list [ba (.con k)])).new (.list [])).get H.next=some (.list [ba (.con k)]):=(aH _ _ (Nat.lt_succ_self _)).trans (aj _ _);refine bu (r:=true) (ry g2 (by show(isData 8 (ba (.con k))&&true)=true;rw[yI];rfl) (aj _ _)) ?_;tb_rel;refine⟨_,aU g2 (.inr (.inr rfl)),?_⟩;tb_rel;refine pop_list (vs:=[]) g2 (ble rfl) ?_;have f3:=f2.oU (.list []) (Nat.le_refl H.next);tb_rel;refine⟨_,wk _ _,?_⟩;tb_rel;refine bu (r:=false) (by cases k<;>rfl) ?_;tb_rel;have g3:(((H.new (.list [ba (.con k)])).new (.list [])).set H.next (.list [])).get H.next=some (.list []):=aF _ _ _;refine⟨_,aU g3 (.inr (.inl rfl)),?_⟩;tb_rel;refine bY (j7 _) ?_;tb_rel;refine nF g3 ?_;tb_rel;show WS (eF (99998+1) _ _ _ _) _;refine fz ?_;tb_rel;have f4:=f3.gj (.list []);refine bu (r:=false) (rz ((aH _ _ (Nat.lt_succ_of_lt (Nat.lt_succ_self _))).trans g3) (aj _ _)) ?_;tb_rel;exact h _ f4
noncomputable def A7:K->Int
 | .i8=>-128 | .u8=>0 | .j6=>-2147483648 | .K4=>-9223372036854775808 | .bool=>0
noncomputable def A8:K->Int
 | .i8=>127 | .u8=>255 | .j6=>2147483647 | .K4=>9223372036854775807 | .bool=>0
theorem NG(k:K)(hk:k≠.bool):run au (n+1) 334 [.str (kS k)] H=some (.ok (.bool (sign k)),H):=by cases k<;>first|exact absurd rfl hk|kernel_rfl
theorem DS(k:K)(hk:k≠.bool):run au (n+2) 341 [.str (kS k)] H=some (.ok (.int (A7 k)),H):=by cases k<;>first|exact absurd rfl hk|kernel_rfl
theorem DT(k:K)(hk:k≠.bool):run au (n+2) 348 [.str (kS k)] H=some (.ok (.int (A8 k)),H):=by cases k<;>first|exact absurd rfl hk|kernel_rfl
theorem JE(k:K)(hk:k≠.bool)(v:Int):room k v=(decide (A7 k<=v)&&decide (v<=A8 k)):=by cases k<;>first|exact absurd rfl hk|rfl
theorem GW(k:K)(hk:k≠.bool)(v:Int)(h:Q (.bool (room k v)) H):W (run au (n+3) 355 [.str (kS k),.int v] H) Q E:=by
 refine aw (fi:=⟨["kind", "number"],[],FG⟩) (l:=[("kind",.str (kS k)),("number",.int v)]) ?_;tb_rel;refine Gi ?_;tb_rel;refine bY (DS k hk) ?_;refine⟨decide (A7 k<=v),rfl,?_⟩;rw[JE k hk]at h;split
 ·rename_i q
  rw[q,Bool.true_and]at h;tb_rel;refine bY (DT k hk) ?_;refine⟨decide (v<=A8 k),rfl,?_⟩;tb_rel;exact h
 ·rename_i q
  rw[Bool.eq_false_iff.mpr q,Bool.false_and]at h;tb_rel;exact h
theorem A9{F:dQ}{v:Int}(h:Q (.bool false) H):W (eK F (.bi (.builtin "isinstance")) [.int v,.bi (.type "bool")] H) Q E:=h
theorem Cs{k:K}(hk:k≠.bool):ba (.con k)=.tup [.str "int",.str (kS k)]:=by cases k<;>first|rfl|exact absurd rfl hk
theorem ve(s:String)(k:K)(hs:s.length<=1000):binOp .add (.str s) (kA k) H=some (.str (s++kS k),H):=by
 show(if s.length<=1000∧(kS k).length<=1000 then _ else _)=_;rw[if_pos ⟨hs,by cases k<;>decide⟩]
theorem tc{o sp:ae}{k:K}(hk:k≠.bool)(v:Int)(ht:room k v=true->Q .none H)(hf:room k v=false->E 128 H):W (run au (n+4) 433 [o,ba (.con k),.int v,sp] H) Q E:=by
 refine aw (fi:=⟨["self", "told", "value", "spot"],[],fT⟩) (l:=[("self",o),("told",ba (.con k)),("value",.int v),("spot",sp)]) ?_;rw[Cs hk];tb_rel;refine A9 ?_;tb_rel;refine GW k hk v ?_;tb_rel;cases hr:room k v with
 |true=>tb_rel;exact ht hr
 |false=>
  tb_rel;refine rx ?_;tb_rel;rw[<-Cs hk];refine bY (jh k) ?_;refine⟨_,_,ve _ k (by decide),?_⟩;tb_rel;refine⟨rfl,rfl,?_⟩;tb_rel;exact hf hr
theorem Wt(op:Op)(k:K):∀H,binOp .add (.str (("no operator " ++ qF op) ++ " of ")) (kA k) H=some (.str ((("no operator " ++ qF op) ++ " of ")++kS k),H):=λH=>ve _ k (by cases op<;>decide)
noncomputable def UG(b:Bool)(H:AH):Out ae:=match b with
 |true=>ok .none H
 |false=>some (.error 128,H)
theorem GX{r:Out ae}{b:Bool}(e:r=UG b H)(ht:b=true->Q .none H)(hf:b=false->E 128 H):W r Q E:=by
 rw[e];cases b with
 |true=>exact ht rfl
 |false=>exact hf rfl
theorem y5{o sp:ae}{op:Op}{a b:K}(ht:tZ op a b=true->Q .none H)(hf:tZ op a b=false->E 128 H):W (run au (n+4) 447 [o,.str (qF op),ba (.con a),ba (.con b),sp] H) Q E:=by
 refine GX ?_ ht hf;clear ht hf;cases op<;>cases a<;>cases b<;>kernel_rfl
theorem uc{o sp:ae}{k:K}(ht:sign k=true->Q .none H)(hf:sign k=false->E 128 H):W (run au (n+4) 454 [o,.str "-",ba (.con k),sp] H) Q E:=by
 refine GX ?_ ht hf;clear ht hf;cases k<;>kernel_rfl
theorem ud{o sp:ae}{k k':K}(hk:k≠.bool):run au (n+1) 461 [o,ba (.con k),ba (.con k'),sp] H=some (.ok .none,H):=by
 cases k<;>cases k'<;>first|exact absurd rfl hk|kernel_rfl
end
structure Se(A:Ad)(sa sd:Nat)(H:AH)(σ:List (Option Ty))(ns:List Bool):Prop where
 e:Env A H
 d:Dn A H σ ns
 s1:H.get sa=some (.inst 464 sd)
 s2:∃b,H.get sd=some (.bg [.str "infer",.str "world",.str "bounds"] [.ref A.i,.ref A.w,.ref b])
 lt:sa<H.next∧sd<H.next
section
variable{n:Nat}{A:Ad}{H:AH}{σ:List (Option Ty)}{ns:List Bool}{sa sd:Nat}{Q:ae->AH->Prop}{E:Nat->AH->Prop}
theorem Ba{k:ae}{xs:List ae}:∀{vs ws:List ae},vs.length=ws.length->(bN k xs vs).isNone=true->(bN k xs ws).isNone=true:=by
 induction xs with
 |nil=>exact λ_ h=>h
 |cons x xs ih=>
  intro vs ws e;cases vs with
  |nil=>cases ws with
   |nil=>exact id
   |cons w ws=>exact nomatch e
  |cons v vs=>cases ws with
   |nil=>exact nomatch e
   |cons w ws=>
    show(if ae.beq k x=true then some v else bN k xs vs).isNone=true->(if ae.beq k x=true then some w else bN k xs ws).isNone=true;cases ae.beq k x with
    |true=>exact id
    |false=>exact ih (Nat.succ.inj e)
theorem Se.no{H':AH}(s:Se A sa sd H σ ns)(f:Fr No H H'):Se A sa sd H' σ ns where
 e:=s.e.no f
 d:=s.d.no s.e f
 s1:=(f.2 _ s.lt.1 λz=>z.elim).trans s.s1
 s2:=s.s2.elim λb h=>⟨b,(f.2 _ s.lt.2 λz=>z.elim).trans h⟩
 lt:=⟨Nat.lt_of_lt_of_le s.lt.1 f.1,Nat.lt_of_lt_of_le s.lt.2 f.1⟩
theorem Se.callee(s:Se A sa sd H σ ns){a:String}{f:Nat}(hm:List.lookup a [("type",397),("expr",402),("statement",421),("pattern",426),("look_value",433),("look",440),("look_operator",447),("look_sign",454),("look_cast",461)]=some f)(hv:(bN (.str a) [.str "infer",.str "world",.str "bounds"] [.none,.none,.none]).isNone=true):eC au (.ref sa) a H=some (.fn f (.ref sa)):=by
 refine aV s.s2 λb h=>?_;refine aA s.s1 h rfl hm ?_;exact Ba (vs:=[.none,.none,.none]) rfl hv
theorem Se.infer(s:Se A sa sd H σ ns)(h:Q (.ref A.i) H):W (kQ au (.ref sa) "infer" H) Q E:=by
 refine aV s.s2 λb h2=>?_;exact aQ s.s1 h2 rfl rfl rfl rfl rfl h
theorem bZ{j:Nat}{t:Ty}{k:K}{sp:ae}(c:Sh σ j t (.con k))(hj:j<=99999)(s:Se A sa sd H σ ns)(h:∀H',Fr No H H'->Q (ba (.con k)) H'):W (run au (n+4) 397 [.ref sa,ba t,sp] H) Q E:=by
 refine aw (fi:=⟨["self", "told", "spot"],[],hG⟩) (l:=[("self",.ref sa),("told",ba t),("spot",sp)]) ?_;tb_rel;refine s.infer ?_;refine⟨_,aA s.e.i1 s.e.i2 rfl rfl rfl,?_⟩;tb_rel;refine eZ c hj s.e s.d ?_;tb_rel;refine pT k λH' f=>?_;tb_rel;exact h H' ((Fr.new _ _).trans f)
theorem eM{F:dQ}{vs:List ae}(hl:vs.length<=100000)(q:Q (.ref H.next) (H.new (.list vs))):W (eK F (.bi (.type "list")) [.tup vs] H) Q E:=by
 unfold eK rN;exact hJ (by decide) (hJ (by decide) (hJ (by decide) (lL rfl (lL hl q))))
theorem Bb{t:Ty}{k:K}(hk:k≠.bool){v:Int}(s:Se A sa sd H σ ns)(ht:room k v=true->Q .none H)(hf:room k v=false->E 128 H):W (run au (n+5) 440 [.ref sa,.tup [.str "const",ba (.con k),.int 1,.int v]] H) Q E:=by
 refine aw (fi:=⟨["self", "made"],[],c9⟩) (l:=[("self",.ref sa),("made",.tup [.str "const",ba (.con k),.int 1,.int v])]) ?_;tb_rel;refine⟨_,s.callee rfl rfl,?_⟩;tb_rel;refine tc hk v (λh=>?_) λh=>?_
 ·tb_rel;exact ht h
 ·tb_rel;exact hf h
theorem Bc{k:K}{x:Int}(s:Se A sa sd H σ ns)(h:Q .none H):W (run au (n+5) 440 [.ref sa,.tup [.str "local",ba (.con k),.int 1,.int x]] H) Q E:=by
 refine aw (fi:=⟨["self", "made"],[],c9⟩) (l:=[("self",.ref sa),("made",.tup [.str "local",ba (.con k),.int 1,.int x])]) ?_;tb_rel;exact h
theorem Be{k:K}{m:ae}(s:Se A sa sd H σ ns)(ht:sign k=true->Q .none H)(hf:sign k=false->E 128 H):W (run au (n+5) 440 [.ref sa,.tup [.str "unary",ba (.con k),.int 1,.str "-",m]] H) Q E:=by
 refine aw (fi:=⟨["self", "made"],[],c9⟩) (l:=[("self",.ref sa),("made",.tup [.str "unary",ba (.con k),.int 1,.str "-",m])]) ?_;tb_rel;refine⟨_,s.callee rfl rfl,?_⟩;tb_rel;refine uc (λh=>?_) λh=>?_
 ·tb_rel;exact ht h
 ·tb_rel;exact hf h
theorem DU{k k':K}{a:ae}{rest:List ae}(hk:k≠.bool)(s:Se A sa sd H σ ns)(h:Q .none H):W (run au (n+5) 440 [.ref sa,.tup [.str "cast",ba (.con k),.int 1,.tup (a::ba (.con k')::rest)]] H) Q E:=by
 refine aw (fi:=⟨["self", "made"],[],c9⟩) (l:=[("self",.ref sa),("made",.tup [.str "cast",ba (.con k),.int 1,.tup (a::ba (.con k')::rest)])]) ?_;tb_rel;refine⟨_,s.callee rfl rfl,?_⟩;tb_rel;refine bY (ud hk) ?_;tb_rel;exact h
theorem y6{k ka kb:K}{op:Op}{a b:ae}{ra rb:List ae}(s:Se A sa sd H σ ns)(ht:tZ op ka kb=true->Q .none H)(hf:tZ op ka kb=false->E 128 H):W (run au (n+5) 440 [.ref sa,.tup [.str "binary",ba (.con k),.int 1,.str (qF op),.tup (a::ba (.con ka)::ra),.tup (b::ba (.con kb)::rb)]] H) Q E:=by
 refine aw (fi:=⟨["self", "made"],[],c9⟩) (l:=[("self",.ref sa),("made",.tup [.str "binary",ba (.con k),.int 1,.str (qF op),.tup (a::ba (.con ka)::ra),.tup (b::ba (.con kb)::rb)])]) ?_;tb_rel;refine⟨_,s.callee rfl rfl,?_⟩;tb_rel;refine y5 (λh=>?_) λh=>?_
 ·tb_rel;exact ht h
 ·tb_rel;exact hf h
theorem wz{j:Nat}{t:Ty}{k:K}(hk:k≠.bool)(c:Sh σ j t (.con k))(hj:j<=99999){v:Int}(s:Se A sa sd H σ ns)(ht:room k v=true->∀H',Fr No H H'->Q (.tup [.str "const",ba (.con k),.int 1,.int v]) H')(hf:room k v=false->∀H',Fr No H H'->E 128 H'):
  W (run au (n+6) 402 [.ref sa,.tup [.str "const",ba t,.int 1,.int v]] H) Q E:=by
 refine aw (fi:=⟨["self", "made"],[],cw⟩) (l:=[("self",.ref sa),("made",.tup [.str "const",ba t,.int 1,.int v])]) ?_;tb_rel;refine⟨_,s.callee rfl rfl,?_⟩;tb_rel;refine bZ c hj s λH1 f1=>?_;tb_rel;refine hV ?_;tb_rel;refine bY (v:=.tup [.int v]) rfl ?_;tb_rel;refine eM (ble rfl) ?_;tb_rel;refine jg ?_;tb_rel;refine kF (k:=99999) rfl ?_;tb_rel;refine bw (aj _ _) (ble rfl) ?_;tb_rel;have f2:=f1.gj (.list [.int v]);refine⟨_,(s.no f2).callee rfl rfl,?_⟩;tb_rel;refine Bb (t:=t) hk (s.no f2) (λh=>?_) λh=>?_
 ·tb_rel;exact ht h _ f2
 ·tb_rel;exact hf h _ f2
theorem pa{j:Nat}{t:Ty}{k:K}(c:Sh σ j t (.con k))(hj:j<=99999){v:Int}(s:Se A sa sd H σ ns)(ht:∀H',Fr No H H'->Q (.tup [.str "local",ba (.con k),.int 1,.int v]) H'):
  W (run au (n+6) 402 [.ref sa,.tup [.str "local",ba t,.int 1,.int v]] H) Q E:=by
 refine aw (fi:=⟨["self", "made"],[],cw⟩) (l:=[("self",.ref sa),("made",.tup [.str "local",ba t,.int 1,.int v])]) ?_;tb_rel;refine⟨_,s.callee rfl rfl,?_⟩;tb_rel;refine bZ c hj s λH1 f1=>?_;tb_rel;refine hV ?_;tb_rel;refine bY (v:=.tup [.int v]) rfl ?_;tb_rel;refine eM (ble rfl) ?_;tb_rel;refine jg ?_;tb_rel;refine kF (k:=99999) rfl ?_;tb_rel;refine bw (aj _ _) (ble rfl) ?_;tb_rel;have f2:=f1.gj (.list [.int v]);refine⟨_,(s.no f2).callee rfl rfl,?_⟩;refine ai (av rfl (aD ?_));refine Bc (n:=n) (k:=k) (x:=v) (s.no f2) ?_;tb_rel;exact ht _ f2
noncomputable def Part(n sa:Nat)(H:AH)(b:Bool)(m m':ae):Prop:=∀{Q':ae->AH->Prop}{E':Nat->AH->Prop} H1,Fr No H H1->(b=true->∀H2,Fr No H1 H2->Q' m' H2)->(b=false->∀H2,Fr No H1 H2->E' 128 H2)->W (run au n 402 [.ref sa,m] H1) Q' E'
theorem y7{j:Nat}{k:K}(hk:k≠.bool){m a:ae}{k':K}{rest:List ae}(s:Se A sa sd H σ ns)
  {b:Bool} (hc:Part (n+6) sa H b m (.tup (a::ba (.con k')::rest)))
  (ht:b=true->∀H',Fr No H H'->Q (.tup [.str "cast",ba (.con k),.int 1,.tup (a::ba (.con k')::rest)]) H') (hf:b=false->∀H',Fr No H H'->E 128 H'):
  W (run au (n+7) 402 [.ref sa,.tup [.str "cast",ba (.con k),.int 1,m]] H) Q E:=by
 refine aw (fi:=⟨["self", "made"],[],cw⟩) (l:=[("self",.ref sa),("made",.tup [.str "cast",ba (.con k),.int 1,m])]) ?_;tb_rel;refine⟨_,s.callee rfl rfl,?_⟩;tb_rel;refine bZ (n:=n+2) (.con k) (by omega) s λH1 f1=>?_;tb_rel;refine hV ?_;tb_rel;refine bY (v:=.tup [m]) rfl ?_;tb_rel;refine eM (ble rfl) ?_;tb_rel;have f2:=f1.gj (.list [m]);have s2:=s.no f2;refine jg ?_;tb_rel;refine ig (k:=99999) (it':=.seq []) (v:=.int 3) rfl ?_;show XB (run au (n+6)) _ _ _ _;tb_rel;refine⟨_,s2.callee rfl rfl,?_⟩;tb_rel;refine⟨_,bT (m:=0) (aj _ _) rfl (by omega),?_⟩;tb_rel;refine hc _ f2 (λhb H2 f3=>?_) λhb H2 f3=>?_
 ·tb_rel
  have g3:H2.get H1.next=some (.list [m]):=(f3.2 _ (Nat.lt_succ_self _) λz=>z.elim).trans (aj _ _);refine⟨_,ey (m:=0) g3 (ble rfl) (ble rfl),?_⟩;tb_rel;have f4:Fr No H (H2.set H1.next (.list [.tup (a::ba (.con k')::rest)])):=(f2.trans f3).oU _ f1.1;refine kF (k:=99998) rfl ?_;tb_rel;refine bw (aF _ _ _) (ble rfl) ?_;tb_rel;refine⟨_,(s.no f4).callee rfl rfl,?_⟩;tb_rel;refine DU hk (s.no f4) ?_;tb_rel;exact ht hb _ f4
 ·tb_rel
  exact hf hb _ (f2.trans f3)
theorem wB{j:Nat}{t:Ty}{k:K}(c:Sh σ j t (.con k))(hj:j<=99999){m m':ae}{bb:Bool}(s:Se A sa sd H σ ns)(hc:Part (n+6) sa H bb m m')
  (ht:bb=true->sign k=true->∀H',Fr No H H'->Q (.tup [.str "unary",ba (.con k),.int 1,.str "-",m']) H') (hf:bb=true->sign k=false->∀H',Fr No H H'->E 128 H') (he:bb=false->∀H',Fr No H H'->E 128 H'):
  W (run au (n+7) 402 [.ref sa,.tup [.str "unary",ba t,.int 1,.str "-",m]] H) Q E:=by
 refine aw (fi:=⟨["self", "made"],[],cw⟩) (l:=[("self",.ref sa),("made",.tup [.str "unary",ba t,.int 1,.str "-",m])]) ?_;tb_rel;refine⟨_,s.callee rfl rfl,?_⟩;tb_rel;refine bZ (n:=n+2) c hj s λH1 f1=>?_;tb_rel;refine hV ?_;tb_rel;refine bY (v:=.tup [.str "-",m]) rfl ?_;tb_rel;refine eM (ble rfl) ?_;tb_rel;have f2:=f1.gj (.list [.str "-",m]);have s2:=s.no f2;refine jg ?_;tb_rel;refine ig (k:=99999) (it':=.seq []) (v:=.int 4) rfl ?_;show XB (run au (n+6)) _ _ _ _;tb_rel;refine⟨_,s2.callee rfl rfl,?_⟩;tb_rel;refine⟨_,bT (m:=1) (aj _ _) rfl (by omega),?_⟩;tb_rel;refine hc _ f2 (λhb H2 f3=>?_) λhb H2 f3=>?_
 ·tb_rel
  have g3:H2.get H1.next=some (.list [.str "-",m]):=(f3.2 _ (Nat.lt_succ_self _) λz=>z.elim).trans (aj _ _);refine⟨_,ey (m:=1) g3 (ble rfl) (ble rfl),?_⟩;tb_rel;have f4:Fr No H (H2.set H1.next (.list [.str "-",m'])):=(f2.trans f3).oU _ f1.1;refine kF (k:=99998) rfl ?_;tb_rel;refine bw (aF _ _ _) (ble rfl) ?_;tb_rel;refine⟨_,(s.no f4).callee rfl rfl,?_⟩;tb_rel;refine Be (s.no f4) (λh=>?_) λh=>?_
  ·tb_rel;exact ht hb h _ f4
  ·tb_rel;exact hf hb h _ f4
 ·tb_rel
  exact he hb _ (f2.trans f3)
theorem ue{j:Nat}{t:Ty}{k ka kb:K}{op:Op}(c:Sh σ j t (.con k))(hj:j<=99999){m1 m2 a b:ae}{ra rb:List ae}{b1 b2:Bool}(s:Se A sa sd H σ ns)(h1:Part (n+6) sa H b1 m1 (.tup (a::ba (.con ka)::ra)))(h2:Part (n+6) sa H b2 m2 (.tup (b::ba (.con kb)::rb)))
  (ht:b1=true->b2=true->tZ op ka kb=true->∀H',Fr No H H'->Q (.tup [.str "binary",ba (.con k),.int 1,.str (qF op),.tup (a::ba (.con ka)::ra),.tup (b::ba (.con kb)::rb)]) H') (hf:b1=true->b2=true->tZ op ka kb=false->∀H',Fr No H H'->E 128 H') (RU:b1=false->∀H',Fr No H H'->E 128 H') (Y2:b2=false->∀H',Fr No H H'->E 128 H'):
  W (run au (n+7) 402 [.ref sa,.tup [.str "binary",ba t,.int 1,.str (qF op),m1,m2]] H) Q E:=by
 refine aw (fi:=⟨["self", "made"],[],cw⟩) (l:=[("self",.ref sa),("made",.tup [.str "binary",ba t,.int 1,.str (qF op),m1,m2])]) ?_;tb_rel;refine⟨_,s.callee rfl rfl,?_⟩;tb_rel;refine bZ (n:=n+2) c hj s λH1 f1=>?_;tb_rel;refine hV ?_;tb_rel;refine bY (v:=.tup [.str (qF op),m1,m2]) rfl ?_;tb_rel;refine eM (ble rfl) ?_;tb_rel;have f2:=f1.gj (.list [.str (qF op),m1,m2]);have s2:=s.no f2;refine jg ?_;tb_rel;refine ig (k:=99999) (it':=.seq [.int 5]) (v:=.int 4) rfl ?_;show XB (run au (n+6)) _ _ _ _;tb_rel;refine⟨_,s2.callee rfl rfl,?_⟩;tb_rel;refine⟨_,bT (m:=1) (aj _ _) rfl (by omega),?_⟩;tb_rel;refine h1 _ f2 (λSf H2 f3=>?_) λSf H2 f3=>?_
 ·tb_rel
  have g3:H2.get H1.next=some (.list [.str (qF op),m1,m2]):=(f3.2 _ (Nat.lt_succ_self _) λz=>z.elim).trans (aj _ _);refine⟨_,ey (m:=1) g3 (ble rfl) (ble rfl),?_⟩;tb_rel;have f4:Fr No H (H2.set H1.next (.list [.str (qF op),.tup (a::ba (.con ka)::ra),m2])):=(f2.trans f3).oU _ f1.1;refine ig (k:=99998) (it':=.seq []) (v:=.int 5) rfl ?_;show XB (run au (n+6)) _ _ _ _;tb_rel;refine⟨_,(s.no f4).callee rfl rfl,?_⟩;tb_rel;refine⟨_,bT (m:=2) (aF _ _ _) rfl (by omega),?_⟩;tb_rel;refine h2 _ f4 (λI2 H5 f5=>?_) λI2 H5 f5=>?_
  ·tb_rel
   have g5:H5.get H1.next=some (.list [.str (qF op),.tup (a::ba (.con ka)::ra),m2]):=(f5.2 _ (Nat.lt_of_lt_of_le (Nat.lt_succ_self _) f3.1) λz=>z.elim).trans (aF _ _ _);refine⟨_,ey (m:=2) g5 (ble rfl) (ble rfl),?_⟩;tb_rel;have f6:Fr No H (H5.set H1.next (.list [.str (qF op),.tup (a::ba (.con ka)::ra),.tup (b::ba (.con kb)::rb)])):=(f4.trans f5).oU _ f1.1;refine kF (k:=99997) rfl ?_;tb_rel;refine bw (aF _ _ _) (ble rfl) ?_;tb_rel;refine⟨_,(s.no f6).callee rfl rfl,?_⟩;tb_rel;refine y6 (s.no f6) (λh=>?_) λh=>?_
   ·tb_rel;exact ht Sf I2 h _ f6
   ·tb_rel;exact hf Sf I2 h _ f6
  ·tb_rel
   exact Y2 I2 _ (f4.trans f5)
 ·tb_rel
  exact RU Sf _ (f2.trans f3)
end
noncomputable def asks(ν:Nat->K)(Γ:List K):Nat->Ex->Bool
 |j,.lit v none=>room (ν j) v
 |_,.lit v (some k)=>room k v
 |_,.gz _=>true
 |j,.neg (.lit v none)=>room (ν j) (0-v)
 |_,.neg (.lit v (some k))=>room k (0-v)
 |j,.neg e=>asks ν Γ j e&&sign (ty ν Γ j e)
 |j,.cast _ e=>asks ν Γ j e
 |j,.bin op l r=>asks ν Γ j l&&(asks ν Γ (j+cnt l) r&&tZ op (ty ν Γ j l) (ty ν Γ (j+cnt l) r))
section
variable{ν:Nat->K}{Γ:List K}{lam:Nat->Ty}{Δ:List Ty}{j x:Nat}{v:Int}{k:K}{q:Option K}{op:Op}{e l r:Ex}
theorem td:asks ν Γ j (.lit v none)=room (ν j) v:=rfl
theorem Bf:asks ν Γ j (.lit v (some k))=room k v:=rfl
theorem Bg:asks ν Γ j (.gz x)=true:=rfl
theorem te:asks ν Γ j (.neg (.lit v none))=room (ν j) (0-v):=rfl
theorem Bh:asks ν Γ j (.neg (.lit v (some k)))=room k (0-v):=rfl
theorem Bi:asks ν Γ j (.cast k e)=asks ν Γ j e:=rfl
theorem pU:asks ν Γ j (.bin op l r)=(asks ν Γ j l&&(asks ν Γ (j+cnt l) r&&tZ op (ty ν Γ j l) (ty ν Γ (j+cnt l) r))):=rfl
end
theorem jA{ν:Nat->K}{Γ:List K}{j:Nat}{e:Ex}(h:∀v k,e≠.lit v k):asks ν Γ j (.neg e)=(asks ν Γ j e&&sign (ty ν Γ j e)):=by
 cases e with
 |lit v k=>exact absurd rfl (h v k)
 |_=>rfl
noncomputable def wC(μ:Nat->K)(lam:Nat->Ty):Nat->Ty:=λi=>.con (ev μ (lam i))
noncomputable def uf(μ:Nat->K)(Γ:List Ty):List Ty:=Γ.map λt=>.con (ev μ t)
theorem pb{μ:Nat->K}{lam:Nat->Ty}{Γ:List Ty}{j:Nat}{e:Ex}:eD (wC μ lam) (uf μ Γ) j e=.con (ev μ (eD lam Γ j e)):=by
 induction e with
 |lit v k=>cases k<;>rfl
 |gz x=>
  rw[sR,sR,uf,List.getElem?_map];cases Γ[x]? <;>rfl
 |neg e ih=>exact ih
 |cast k e=>rfl
 |bin op l r ih _=>
  rw[oW,oW,ih];cases op.cmp<;>rfl
section
variable{n:Nat}{A:Ad}{H:AH}{σ:List (Option Ty)}{ns:List Bool}{sa sd:Nat}{Q:ae->AH->Prop}{E:Nat->AH->Prop}{μ:Nat->K}{lam:Nat->Ty}{Γ:List Ty}
noncomputable def Gd(σ:List (Option Ty))(ns:List Bool)(μ:Nat->K):Prop:=∀t,nv ns t->∃k,k<=99999∧Sh σ k t (.con (ev μ t))
theorem DV(g:Gd σ ns μ)(hg:∀t∈Γ,nv ns t):∀(dp:Nat) (e:Ex) (n j:Nat) {H:AH}{Q:ae->AH->Prop}{E:Nat->AH->Prop},tv Γ.length dp e->(∀i,j<=i->i<j+cnt e->nv ns (lam i)∧ev μ (lam i)≠.bool)->Se A sa sd H σ ns->
  (asks (λi=>ev μ (lam i)) (Γ.map (ev μ)) j e=true->∀H',Fr No H H'->Q (iA (wC μ lam) (uf μ Γ) j e) H')->(asks (λi=>ev μ (lam i)) (Γ.map (ev μ)) j e=false->∀H',Fr No H H'->E 128 H')->W (run au (n+dp+6) 402 [.ref sa,iA lam Γ j e] H) Q E:=by
 have lits:∀(v w:Int) (k:Option K) (n j:Nat) {H:AH}{Q:ae->AH->Prop}{E:Nat->AH->Prop},k≠some .bool->(∀i,j<=i->i<j+cnt (.lit v k)->nv ns (lam i)∧ev μ (lam i)≠.bool)->Se A sa sd H σ ns->
   (room (ev μ (eD lam Γ j (.lit v k))) w=true->∀H',Fr No H H'->Q (.tup [.str "const",ba (.con (ev μ (eD lam Γ j (.lit v k)))),.int 1,.int w]) H')->(room (ev μ (eD lam Γ j (.lit v k))) w=false->∀H',Fr No H H'->E 128 H')->W (run au (n+6) 402 [.ref sa,.tup [.str "const",ba (eD lam Γ j (.lit v k)),.int 1,.int w]] H) Q E:=by
  intro v w k n j H Q E hk hl s ht hf;have JF:nv ns (eD lam Γ j (.lit v k)):=gm hg λi a b=>(hl i a b).1;refine aI (g _ JF) λq hq c=>?_;refine wz ?_ c hq s ht hf;cases k with
  |none=>exact(hl j (Nat.le_refl _) (Nat.lt_succ_self _)).2
  |some k=>exact λz=>hk (by show some k=_;rw[show k=K.bool from z])
 intro dp;induction dp with
 |zero=>
  intro e n j H Q E ok hl s ht hf;cases e with
  |lit v k=>
   refine lits v v k n j ok hl s (λh=>?_) λh=>?_
   ·have:=ht (by cases k<;>exact h)
    rw[sS,pb]at this;exact this
   ·exact hf (by cases k<;>exact h)
  |gz x=>
   have JF:nv ns (eD lam Γ j (.gz x)):=gm hg λi a b=>(hl i a b).1;refine aI (g _ JF) λq hq c=>?_;refine pa c hq s λH' f=>?_;have:=ht rfl H' f;rw[yR,pb]at this;exact this
  |neg e=>exact ok.elim
  |cast k e=>exact ok.elim
  |bin op l r=>exact ok.elim
 |succ dp ih=>
  intro e n j H Q E ok hl s ht hf;have part:∀(e:Ex) (j:Nat),tv Γ.length dp e->(∀i,j<=i->i<j+cnt e->nv ns (lam i)∧ev μ (lam i)≠.bool)->Part (n+dp+6) sa H (asks (λi=>ev μ (lam i)) (Γ.map (ev μ)) j e) (iA lam Γ j e) (iA (wC μ lam) (uf μ Γ) j e):=by
   intro e j ok hl Q' E' H1 f1 hq hE;exact ih e n j ok hl (s.no f1) hq hE
  cases e with
  |lit v k=>
   refine lits v v k (n+(dp+1)) j ok hl s (λh=>?_) λh=>?_
   ·have:=ht (by cases k<;>exact h)
    rw[sS,pb]at this;exact this
   ·exact hf (by cases k<;>exact h)
  |gz x=>
   have JF:nv ns (eD lam Γ j (.gz x)):=gm hg λi a b=>(hl i a b).1;refine aI (g _ JF) λq hq c=>?_;refine pa (n:=n+(dp+1)) c hq s λH' f=>?_;have:=ht rfl H' f;rw[yR,pb]at this;exact this
  |neg e=>
   have JF:nv ns (eD lam Γ j e):=gm hg λi a b=>(hl i a b).1
   by_cases q:∃v k,e=.lit v k
   ·refine dA q ?_;clear q;intro v k UH
    subst UH;have Y3:k≠some .bool:=by cases dp<;>exact ok
    refine lits v (0-v) k (n+(dp+1)) j Y3 hl s (λh=>?_) λh=>?_
    ·have:=ht (by cases k<;>exact h)
     rw[uY,pb]at this;exact this
    ·exact hf (by cases k<;>exact h)
   ·have q':∀v k,e≠.lit v k:=λv k z=>q ⟨v,k,z⟩
    rw[mw q',jA q',pb]at ht;rw[jA q']at hf;rw[mw q'];rw[kG]at ht hf;refine aI (g _ JF) λq hq c=>?_;exact wB (n:=n+dp) c hq s (part e j ok hl) (λhb h=>ht (by rw[hb,h];rfl)) (λhb h=>hf (by rw[hb,h];rfl)) λh=>hf (by rw[h];rfl)
  |cast k e=>
   refine dA (fA (wC μ lam) (uf μ Γ) j e) λa rest hm=>?_;have p:Part (n+dp+6) sa H (asks (λi=>ev μ (lam i)) (Γ.map (ev μ)) j e) (iA lam Γ j e) (iA (wC μ lam) (uf μ Γ) j e):=part e j ok.2 hl;have nP:=ht;simp only[sS,yR,uY,yS,uZ,pb]at hm nP ⊢;rw[hm]at p nP;exact y7 (n:=n+dp) (j:=0) ok.1 s p nP hf
  |bin op l r=>
   have JF:nv ns (eD lam Γ j (.bin op l r)):=gm hg λi a b=>(hl i a b).1;refine aI (g _ JF) λq hq c=>?_;refine dA (fA (wC μ lam) (uf μ Γ) j l) λa1 r1 Wu=>?_;refine dA (fA (wC μ lam) (uf μ Γ) (j+cnt l) r) λa2 r2 Wv=>?_;rw[pb]at Wu Wv;have p1:Part (n+dp+6) sa H (asks (λi=>ev μ (lam i)) (Γ.map (ev μ)) j l) (iA lam Γ j l) (iA (wC μ lam) (uf μ Γ) j l):=part l j ok.1 (λi a b=>hl i a (qG b));have p2:Part (n+dp+6) sa H (asks (λi=>ev μ (lam i)) (Γ.map (ev μ)) (j+cnt l) r) (iA lam Γ (j+cnt l) r) (iA (wC μ lam) (uf μ Γ) (j+cnt l) r):=part r (j+cnt l) ok.2 (λi a b=>hl i (Nat.le_of_add_right_le a) (Cn b));rw[uZ,pb]at ht;rw[Wu]at p1 ht;rw[Wv]at p2 ht;simp only[td,Bf,Bg,te,Bh,Bi,pU]at ht hf;refine ue (n:=n+dp) c hq s p1 p2 (λx y z=>ht ?_) (λx y z=>hf ?_) (λh=>hf ?_) λh=>hf ?_
   ·rw[x,y,kG,kG,z];rfl
   ·rw[x,y,kG,kG,z];rfl
   ·rw[h];rfl
   ·rw[h];simp
theorem ug(h:∀H',Fr No H H'->Q (.bool false) H'):W (run au (n+2) 127 [.tup [.str "tuple",.tup []]] H) Q E:=by
 refine aw (fi:=⟨["told"],[],hF⟩) (l:=[("told",.tup [.str "tuple",.tup []])]) ?_;tb_rel;have f1:Fr No H (H.new (.list [.tup [.str "tuple",.tup []]])):=.new _ _;refine pI (fz (k:=99999) ?_);tb_rel;have f2:=f1.gj (.list []);have g2:((H.new (.list [.tup [.str "tuple",.tup []]])).new (.list [])).get H.next=some (.list [.tup [.str "tuple",.tup []]]):=(aH _ _ (Nat.lt_succ_self _)).trans (aj _ _);refine bu (r:=true) (ry g2 rfl (aj _ _)) ?_;tb_rel;refine⟨_,aU g2 (.inr (.inr rfl)),?_⟩;tb_rel;refine pop_list (vs:=[]) g2 (ble rfl) ?_;have f3:=f2.oU (.list []) (Nat.le_refl H.next);tb_rel;have g3:(((H.new (.list [.tup [.str "tuple",.tup []]])).new (.list [])).set H.next (.list [])).get H.next=some (.list []):=aF _ _ _;refine⟨_,aU g3 (.inr (.inl rfl)),?_⟩;refine ai (x_call (aT (ai (av rfl (aD ?_)))));refine bY (mU (n:=n)) ?_;tb_rel;refine nF g3 ?_;tb_rel;show WS (eF (99998+1) _ _ _ _) _;refine fz ?_;tb_rel;have f4:=f3.gj (.list []);refine bu (r:=false) (rz ((aH _ _ (Nat.lt_succ_of_lt (Nat.lt_succ_self _))).trans g3) (aj _ _)) ?_;tb_rel;exact h _ f4
theorem uh(h:Q (.tup [.str "tuple",.tup []]) (H.new (.list [])))(e:Env A H):W (run au (n+2) 559 [.ref A.i,.tup [.str "tuple",.tup []]] H) Q E:=by
 refine aw (fi:=⟨["self", "told"],[],fv⟩) (l:=[("self",.ref A.i),("told",.tup [.str "tuple",.tup []])]) ?_;tb_rel;refine⟨_,aA e.i1 e.i2 rfl rfl rfl,?_⟩;refine ai (av rfl (aD ?_));have sh:run au (n+1) 554 [.ref A.i,.tup [.str "tuple",.tup []]] H=some (.ok (.tup [.str "tuple",.tup []]),H):=by kernel_rfl
 refine bY sh ?_;tb_rel;refine yH ?_;refine x_call (aT (ai (av rfl (aD ?_))));refine bY (mU (n:=n)) ⟨rfl,?_⟩;tb_rel;show W (run au (n+1) 96 [.tup [.str "tuple",.tup []],.ref H.next] (H.new (.list []))) _ _;refine aw (fi:=⟨["told", "parts"],[],uR⟩) (l:=[("told",.tup [.str "tuple",.tup []]),("parts",.ref H.next)]) ?_;tb_rel;refine bw (aj _ _) (ble rfl) ?_;tb_rel;exact h
theorem qW{sp:ae}(s:Se A sa sd H σ ns)(h:∀H',Fr No H H'->Q (.tup [.str "tuple",.tup []]) H'):W (run au (n+4) 397 [.ref sa,.tup [.str "tuple",.tup []],sp] H) Q E:=by
 refine aw (fi:=⟨["self", "told", "spot"],[],hG⟩) (l:=[("self",.ref sa),("told",.tup [.str "tuple",.tup []]),("spot",sp)]) ?_;tb_rel;refine s.infer ?_;refine⟨_,aA s.e.i1 s.e.i2 rfl rfl rfl,?_⟩;refine ai (av rfl (aD ?_));refine uh ?_ s.e;tb_rel;refine ug λH' f=>?_;tb_rel;exact h H' ((Fr.new _ _).trans f)
theorem y8(h:Q .none H):W (run au (n+1) 402 [.ref sa,.none] H) Q E:=by
 have:run au (n+1) 402 [.ref sa,.none] H=some (.ok .none,H):=by kernel_rfl
 exact bY this h
theorem wD{sp:ae}(h:Q .none H):W (run au (n+1) 426 [.ref sa,.none,sp] H) Q E:=by
 have:run au (n+1) 426 [.ref sa,.none,sp] H=some (.ok .none,H):=by kernel_rfl
 exact bY this h
theorem Se.Rg(s:Se A sa sd H σ ns)(h:Q (.ref A.w) H):W (kQ au (.ref sa) "world" H) Q E:=by
 refine aV s.s2 λb h2=>?_;exact aQ s.s1 h2 rfl rfl rfl rfl rfl h
theorem Se.bounds(s:Se A sa sd H σ ns)(h:∀b,Q (.ref b) H):W (kQ au (.ref sa) "bounds" H) Q E:=by
 refine aV s.s2 λb h2=>?_;exact aQ s.s1 h2 rfl rfl rfl rfl rfl (h b)
theorem tf{j x:Nat}{t:Ty}{k:K}{sp:ae}(c:Sh σ j t (.con k))(hj:j<=99999)(s:Se A sa sd H σ ns)(h:∀v H',Fr No H H'->Q v H'):W (run au (n+5) 426 [.ref sa,pL t x,sp] H) Q E:=by
 refine aw (fi:=⟨["self", "pattern", "spot"],[],iP⟩) (l:=[("self",.ref sa),("pattern",pL t x),("spot",sp)]) ?_;tb_rel;refine⟨_,s.callee rfl rfl,?_⟩;tb_rel;refine bZ c hj s λH1 f1=>?_;tb_rel;refine(s.no f1).Rg ?_;tb_rel;refine(s.no f1).bounds λb=>?_;tb_rel;refine bY (yG k) ?_;tb_rel;refine⟨_,(s.no f1).callee rfl rfl,?_⟩;refine ai (bx (av rfl (ax ⟨_,rfl,ai (av rfl (aD ?_))⟩)));refine wD (n:=n+3) (sa:=sa) (sp:=sp) ?_;tb_rel;exact h _ _ f1
theorem Bj{dp j:Nat}{r:Row}(g:Gd σ ns μ)(hg:∀t∈Γ,nv ns t)(ok:tv Γ.length dp r.ex)(hl:∀i,j<=i->i<j+cnt r.ex->nv ns (lam i)∧ev μ (lam i)≠.bool)(s:Se A sa sd H σ ns)
  (ht:asks (λi=>ev μ (lam i)) (Γ.map (ev μ)) j r.ex=true->∀v H',Fr No H H'->Q v H') (hf:asks (λi=>ev μ (lam i)) (Γ.map (ev μ)) j r.ex=false->∀H',Fr No H H'->E 128 H'):W (run au (n+dp+7) 421 [.ref sa,iF lam Γ j r] H) Q E:=by
 refine aw (fi:=⟨["self", "one"],[],gx⟩) (l:=[("self",.ref sa),("one",iF lam Γ j r)]) ?_;have nT:nv ns (gn lam Γ j r):=by
  unfold gn;split
  ·exact gm hg λi a b=>(hl i a b).1
  ·trivial
 refine aI (g _ nT) λq hq c=>?_;tb_rel;refine⟨_,s.callee rfl rfl,?_⟩;tb_rel;refine tf (n:=n+dp+1) c hq s λv1 H1 f1=>?_;tb_rel;refine⟨_,(s.no f1).callee rfl rfl,?_⟩;tb_rel;refine DV g hg dp r.ex n j ok hl (s.no f1) (λh H2 f2=>?_) λh H2 f2=>?_
 ·tb_rel
  exact ht h _ _ (f1.trans f2)
 ·tb_rel
  exact hf h _ (f1.trans f2)
end
noncomputable def fC(ν:Nat->K):List K->Nat->List Row->Bool
 |_,_,[]=>true
 |Γ,j,r::rs=>asks ν Γ j r.ex&&fC ν (Γ++[nK ν Γ j r]) (j+cnt r.ex) rs
section
variable{ν:Nat->K}{Γ:List K}{lam:Nat->Ty}{Δ:List Ty}{j:Nat}{r:Row}{rs:List Row}
theorem lS:fC ν Γ j []=true:=rfl
theorem lT:fC ν Γ j (r::rs)=(asks ν Γ j r.ex&&fC ν (Γ++[nK ν Γ j r]) (j+cnt r.ex) rs):=rfl
end
section
variable{n:Nat}{A:Ad}{H:AH}{σ:List (Option Ty)}{ns:List Bool}{sa sd:Nat}{Q:ae->AH->Prop}{E:Nat->AH->Prop}{μ:Nat->K}{lam:Nat->Ty}
theorem y9{H0:AH}{c:Nat}{l:Loc}(g:Gd σ ns μ)(s:Se A sa sd H0 σ ns)(hc:H0.next<=c)(hl:∀v,aJ "self" (bc "one" v l)=some (.ref sa)∧aJ "one" (bc "one" v l)=some v):
  ∀(rs:List Row) (Γ:List Ty) (j k:Nat) (acc:List ae) (H:AH),o7 Γ.length rs->(∀t∈Γ,nv ns t)->(∀i,j<=i->i<j+dS rs->nv ns (lam i)∧ev μ (lam i)≠.bool)->Fr No H0 H->H.get c=some (.list acc)->c<H.next->rs.length<=k->acc.length+rs.length<=1000->
  (fC (λi=>ev μ (lam i)) (Γ.map (ev μ)) j rs=true->∀H' vs,Fr No H0 H'->H'.get c=some (.list vs)->vs.length=acc.length+rs.length->Q (.ref c) H')->(fC (λi=>ev μ (lam i)) (Γ.map (ev μ)) j rs=false->∀H',Fr No H0 H'->E 128 H')->
  W (eO (k+1) (yC (run au (n+10)) (.aE (.loc "self") "statement" [.loc "one"]) ["one"] true l) c (.seq (dY lam Γ j rs)) H) Q E:=by
 intro zz;induction zz with
 |nil=>
  intro Γ j k acc H ok hg za f z9 ui hk ha ht hf;exact sL rfl (ht rfl H acc f z9 rfl)
 |cons r rs ih=>
  intro Γ j k acc H ok hg za f z9 ui hk ha ht hf;simp only[List.length_cons]at hk ha;obtain⟨k,rfl⟩:∃k',k=k'+1:=⟨k-1,by omega⟩
  have nT:nv ns (gn lam Γ j r):=by
   unfold gn;split
   ·exact gm hg λi a b=>(za i a (jm b)).1
   ·trivial
  refine pJ (it':=.seq (dY lam (Γ++[gn lam Γ j r]) (j+cnt r.ex) rs)) (v:=iF lam Γ j r) rfl ?_;show XE (run au (n+10)) (.aE (.loc "self") "statement" [.loc "one"]) (bc "one" (iF lam Γ j r) l) H _ _;refine eX (av (hl _).1 ⟨_,(s.no f).callee rfl rfl,ai (av (hl _).2 (aD ?_))⟩);refine Bj (n:=n+1) (dp:=2) g hg ok.1 (λi a b=>za i a (jm b)) (s.no f) (λh v H1 f1=>?_) λh H1 f1=>hf (by simp only[lS,lT];rw[h];rfl) H1 (f.trans f1);have g1:=(f1.2 _ ui λz=>z.elim).trans z9;refine⟨acc,g1,by omega,?_⟩;refine ih _ _ k (acc++[v]) _ (by simpa using ok.2) ?_ (λi a b=>za i (Nat.le_of_add_right_le a) (pR b)) ((f.trans f1).oU _ hc) (aF _ _ _) (Nat.lt_of_lt_of_le ui f1.1) (by omega) (by simp;omega) ?_ ?_
  ·intro t nP
   rcases List.mem_append.mp nP with z|z
   ·exact hg t z
   ·simp at z;rw[z];exact nT
  ·intro h2 H' vs f' g' hv
   refine ht ?_ H' vs f' g' (by rw[hv];simp;omega);simp only[lS,lT];rw[h,mx];rw[List.map_append]at h2;exact h2
  ·intro h2 H' f'
   refine hf ?_ H' f';simp only[lS,lT];rw[h,mx];rw[List.map_append]at h2;exact h2
theorem wF{rs:List Row}(g:Gd σ ns μ)(ok:o7 0 rs)(h6:rs.length<=6)(za:∀i,i<dS rs->nv ns (lam i)∧ev μ (lam i)≠.bool)(s:Se A sa sd H σ ns)
  (ht:fC (λi=>ev μ (lam i)) [] 0 rs=true->∀v H',Fr No H H'->Q v H') (hf:fC (λi=>ev μ (lam i)) [] 0 rs=false->∀H',Fr No H H'->E 128 H'):
  W (run au (n+11) 402 [.ref sa,wy (dY lam [] 0 rs)] H) Q E:=by
 refine aw (fi:=⟨["self", "made"],[],cw⟩) (l:=[("self",.ref sa),("made",wy (dY lam [] 0 rs))]) ?_;tb_rel;refine⟨_,s.callee rfl rfl,?_⟩;refine ai (bx (av rfl (ax ⟨_,rfl,ai (bx (av rfl (ax ⟨_,rfl,aD ?_⟩)))⟩)));refine qW (n:=n+6) s λH1 f1=>?_;tb_rel;refine hV ?_;tb_rel;refine bY (v:=.tup [.tup (dY lam [] 0 rs),.none]) rfl ?_;tb_rel;refine eM (ble rfl) ?_;tb_rel;have f2:=f1.gj (.list [.tup (dY lam [] 0 rs),.none]);have s2:=s.no f2;refine jg ?_;tb_rel;refine kF (k:=99999) rfl ?_;tb_rel;refine lN ?_;tb_rel;refine⟨_,bT (m:=0) (aj _ _) rfl (by omega),?_⟩;refine⟨.seq (dY lam [] 0 rs),rfl,?_⟩;refine y9 (n:=n) (μ:=μ) (lam:=lam) g s2 (Nat.le_refl _) (λv=>⟨rfl,rfl⟩) rs [] 0 99999 [] _ ok (λt z=>by cases z) (λi a b=>za i (by omega)) (.new _ _) (aj _ _) (Nat.lt_succ_self _) (by omega) (by simp;omega) (λh H3 vs f3 g3 hv=>?_) λh H3 f3=>?_
 ·refine bw g3 (by rw[hv];simp;omega) ?_
  tb_rel;have g4:H3.get H1.next=some (.list [.tup (dY lam [] 0 rs),.none]):=(f3.2 _ (Nat.lt_succ_self _) λz=>z.elim).trans (aj _ _);have f4:=f2.trans f3;refine⟨_,(s.no f4).callee rfl rfl,?_⟩;refine ai (bx (av rfl (ax ⟨_,bT (m:=1) g4 rfl (by omega),aD ?_⟩)));refine y8 (n:=n+9) (sa:=sa) ?_;tb_rel;refine bw (aj _ _) (ble rfl) ?_;have f5:=f4.gj (.list [.tup vs,.none]);tb_rel;refine⟨_,(s.no f5).callee rfl rfl,?_⟩;refine ai (av rfl (aD ?_));have lk:run au (n+10) 440 [.ref sa,.tup [.str "block",.tup [.str "tuple",.tup []],.int 1,.tup vs,.none]] (H3.new (.list [.tup vs,.none]))=some (.ok .none,H3.new (.list [.tup vs,.none])):=by kernel_rfl
  refine bY lk ?_;tb_rel;exact ht h _ _ f5
 ·tb_rel
  exact hf h _ (f2.trans f3)
end
section
structure Good(rs:List Row)(δ:Nat->K):Prop where
 int:∀i,δ i≠.bool
 sol:gA δ [] 0 rs
 df:∀j,j<dS rs->δ j=.j6∨∀ν,(∀i,ν i≠.bool)->gA ν [] 0 rs->ν j=δ j
noncomputable def Unsat(rs:List Row):Prop:=∀ν,(∀i,ν i≠.bool)->¬gA ν [] 0 rs
noncomputable def Spec(rs:List Row)(res:Option (List K)):Prop:=
 (Unsat rs∧res=none)∨∃δ,Good rs δ∧res=if fC δ [] 0 rs=true then some (sW δ [] 0 rs)else none
theorem Bk{ν pN:Nat->K}{Γ:List K}{j:Nat}{e:Ex}(h:∀i,j<=i->i<j+cnt e->ν i=pN i):asks ν Γ j e=asks pN Γ j e:=by
 induction e generalizing j with
 |lit v k=>cases k with
  |none=>rw[td,td,h j (Nat.le_refl _) (Nat.lt_succ_self _)]
  |some k=>rfl
 |gz x=>rfl
 |neg e ih=>
  by_cases q:∃v k,e=.lit v k
  ·refine dA q ?_;clear q;intro v k UI
   subst UI;cases k with
   |none=>rw[te,te,h j (Nat.le_refl _) (Nat.lt_succ_self _)]
   |some k=>rfl
  ·have q':∀v k,e≠.lit v k:=λv k z=>q ⟨v,k,z⟩
   rw[jA q',jA q',ih h,eA (e:=e) h]
 |cast k e ih=>exact ih h
 |bin op l r ih Ny=>
  have hl:∀i,j<=i->i<j+cnt l->ν i=pN i:=λi a b=>h i a (qG b);have hr:∀i,j+cnt l<=i->i<j+cnt l+cnt r->ν i=pN i:=λi a b=>h i (Nat.le_of_add_right_le a) (Cn b);rw[pU,pU,ih hl,Ny hr,eA hl,eA hr]
theorem kc{ν pN:Nat->K}:∀{rs:List Row}{Γ:List K}{j:Nat},(∀i,j<=i->i<j+dS rs->ν i=pN i)->fC ν Γ j rs=fC pN Γ j rs:=by
 intro zz;induction zz with
 |nil=>
  intro _ _ _;exact rfl
 |cons r rs ih=>
  intro Γ j h;simp only[lS,lT];rw[j9 λi a b=>h i a (jm b),Bk λi a b=>h i a (jm b),ih λi a b=>h i (Nat.le_of_add_right_le a) (pR b)]
theorem Spec.uniq{rs:List Row}{a b:Option (List K)}(x:Spec rs a)(y:Spec rs b):a=b:=by
 rcases x with ⟨u,rfl⟩|⟨δ,g,rfl⟩
 ·rcases y with ⟨_,rfl⟩|⟨δ,g,_⟩
  ·rfl
  ·exact absurd g.sol (u δ g.int)
 ·rcases y with ⟨u,_⟩|⟨Ww,g',rfl⟩
  ·exact absurd g.sol (u δ g.int)
  ·have ag:∀i,0<=i->i<0+dS rs->δ i=Ww i:=by
    intro i _ hi;refine dZ (g.df i (by omega)) (λh=>?_) λh=>?_
    ·refine dZ (g'.df i (by omega)) (λh'=>?_) λh'=>?_
     ·rw[h,h']
     ·exact h' δ g.int g.sol
    ·exact(h Ww g'.int g'.sol).symm
   rw[kc ag,s8 ag]
section
variable{σ nQ:List (Option Ty)}{ns:List Bool}
theorem Sh.uniq{k k':Nat}{t r r':Ty}(s:Sh σ k t r)(s':Sh σ k' t r'):r=r':=by
 induction s generalizing k' r' with
 |con c=>cases s';rfl
 |free h=>cases s' with
  |free _=>rfl
  |step h' _=>rw[h]at h';cases h'
 |step h _ ih=>cases s' with
  |free h'=>rw[h]at h';cases h'
  |step h' Ee=>rw[h]at h';cases h';exact ih Ee
theorem Ct(df:Lk σ nQ ns σ.length)(qX:∀(n:Nat) (t:Ty),σ[n]? = some (some t)->nv ns t∧t≠.con .bool){k:Nat}{t r:Ty}(s:Sh σ k t r)(h:nv ns t):
  ∃k' c,k'<=k+1∧Sh nQ k' t (.con c)∧(r=.con c∨c=.j6):=by
 induction s with
 |con k=>exact⟨0,k,by omega,.con k,.inl rfl⟩
 | @free m hm=>
  refine⟨1,.j6,by omega,.step (t:=GU) ?_ (.con _),.inr rfl⟩;have hl:=(List.getElem?_eq_some_iff.mp hm).1;rw[df.2 m hl,if_pos ⟨hl,hm,h⟩]
 | @step m j t r hm s ih=>
  refine cn (ih (qX m t hm).1) λk' c a b d=>?_;refine⟨k'+1,c,by omega,.step ?_ b,d⟩;have hl:=(List.getElem?_eq_some_iff.mp hm).1;rw[df.2 m hl,if_neg (by rw[hm];rintro⟨_,q,_⟩;cases q)];exact hm
theorem DW(qX:∀(n:Nat) (t:Ty),σ[n]? = some (some t)->nv ns t∧t≠.con .bool){k:Nat}{t r:Ty}(s:Sh σ k t r):r=.con .bool->t=.con .bool:=by
 induction s with
 |con k=>exact id
 |free h=>intro z;cases z
 | @step m j t r hm s ih=>intro z;exact absurd (ih z) (qX m t hm).2
open Classical in
noncomputable def zx(nQ:List (Option Ty)):Nat->K:=λn=>if h:∃c k,Sh nQ k (.iv n) (.con c)then h.choose else .j6
theorem GY{n k:Nat}{c:K}(s:Sh nQ k (.iv n) (.con c)):zx nQ n=c:=by
 have h:∃c k,Sh nQ k (.iv n) (.con c):=⟨c,k,s⟩
 unfold zx;rw[dif_pos h];refine aV h.choose_spec λk' s'=>?_;have:=Sh.uniq s' s;injection this
theorem JG(hd:∀(n:Nat) (t:Ty),nQ[n]? = some (some t)->nv ns t∧t≠.con .bool)(n:Nat):zx nQ n≠.bool:=by
 unfold zx;split
 ·rename_i h
  refine aV h.choose_spec λk' s'=>?_;intro z;rw[z]at s';have:=DW hd s' rfl;cases this
 ·intro z;cases z
theorem GZ{B:Nat}(hb:Bd σ B)(hB:B<=99000)(hlen:ns.length=σ.length)(df:Lk σ nQ ns σ.length)(qX:∀(n:Nat) (t:Ty),σ[n]? = some (some t)->nv ns t∧t≠.con .bool):Gd nQ ns (zx nQ):=by
 intro t ht;cases t with
 |con k=>exact⟨0,by omega,.con k⟩
 |iv n=>
  have hn:n<σ.length:=by rw[<-hlen];exact(List.getElem?_eq_some_iff.mp ht).1
  refine aO (hb n hn) λk r a s=>?_;refine cn (Ct df qX s ht) λk' c a' s' _=>?_;exact⟨k',by omega,by rw[show ev (zx nQ) (.iv n)=c from GY s'];exact s'⟩
theorem Cu{B:Nat}(hb:Bd σ B)(hB:B<=99000)(hlen:ns.length=σ.length)(df:Lk σ nQ ns σ.length)(qX:∀(n:Nat) (t:Ty),σ[n]? = some (some t)->nv ns t∧t≠.con .bool)(hd:∀(n:Nat) (t:Ty),nQ[n]? = some (some t)->nv ns t∧t≠.con .bool):Sat σ (zx nQ) where
 int:=JG hd
 eq:=λn t h=>by
  refine aI (GZ hb hB hlen df qX t (qX n t h).1) λk _ s=>?_;refine GY (k:=k+1) (.step ?_ s);have hl:=(List.getElem?_eq_some_iff.mp h).1;rw[df.2 n hl,if_neg (by rw[h];rintro⟨_,q,_⟩;cases q)];exact h
theorem Cv:Sat [] (λ_=>K.j6):=⟨λ_ z=>(by cases z),λn t h=>(by simp at h)⟩
theorem DX{B:Nat}{rs:List Row}{lam:Nat->Ty}{δ:Nat->K}(p:lR [] σ B lam [] 0 rs)(nl:∀i,i<dS rs->nv ns (lam i))(hB:B<=99000)(hlen:ns.length=σ.length)(df:Lk σ nQ ns σ.length)(qX:∀(n:Nat) (t:Ty),σ[n]? = some (some t)->nv ns t∧t≠.con .bool)(hd:∀(n:Nat) (t:Ty),nQ[n]? = some (some t)->nv ns t∧t≠.con .bool)
  (UJ:∀i,δ i=if i<dS rs then ev (zx nQ) (lam i)else .j6):Good rs δ:=by
 have S:=Cu p.bd hB hlen df qX hd;have ag:∀i,0<=i->i<0+dS rs->ev (zx nQ) (lam i)=δ i:=λi _ b=>by rw[UJ,if_pos (by omega)]
 have Y4:∀{μ:Nat->K}{t:Ty},(∀n,μ n≠.bool)->t≠.con .bool->ev μ t≠.bool:=by
  intro μ t h1 h2;cases t with
  |con k=>exact λz=>h2 (by rw[show k=K.bool from z])
  |iv n=>exact h1 n
 refine⟨λi=>?_,(qI ag).mp (p.snd _ S).2,λj hj=>?_⟩
 ·rw[UJ]
  split
  ·rename_i h;exact Y4 S.int (p.vl i (Nat.zero_le _) (by omega)).2
  ·intro z;cases z
 ·rw[UJ,if_pos hj]
  refine aO (p.bd.sh (p.vl j (Nat.zero_le _) (by omega)).1) λk r _ s=>?_;refine cn (Ct df qX s (nl j hj)) λk' c _ s' hr=>?_;have e1:ev (zx nQ) (lam j)=c:=by
   refine aI (GZ p.bd hB hlen df qX (lam j) (nl j hj)) λk2 _ s2=>?_;have:=s2.uniq s';injection this
  rw[e1];rcases hr with rfl|rfl
  ·right
   intro ν fb he;refine cm (p.cmp _ ν Cv fb he) λlP S' _ h'=>?_;rw[<-h' j (Nat.zero_le _) (by omega),s.Lh S']
   rfl
  ·exact .inl rfl
end
end
inductive Hm (L:List Nat):Nat->Nat->Nat->Prop
 |root {n:Nat} (h:L[n]? = some n):Hm L 0 n n
 |step {n m k r:Nat} (h:L[n]? = some m) (ne:m≠n) (s:Hm L k m r):Hm L (k+1) n r
theorem Hm.end_{L:List Nat}{k n r:Nat}(h:Hm L k n r):L[r]? = some r:=by
 induction h with
 |root h=>exact h
 |step _ _ _ ih=>exact ih
theorem Hm.uniq{L:List Nat}{k k' n r r':Nat}(h:Hm L k n r)(h':Hm L k' n r'):r=r':=by
 induction h generalizing k' r' with
 |root h=>cases h' with
  |root _=>rfl
  |step h2 ne _=>rw[h]at h2;cases h2;exact absurd rfl ne
 |step h ne _ ih=>cases h' with
  |root h2=>rw[h]at h2;cases h2;exact absurd rfl ne
  |step h2 _ s=>rw[h]at h2;cases h2;exact ih s
theorem Hm.snoc{L:List Nat}{k n r:Nat}(m:Nat)(h:Hm L k n r):Hm (L++[m]) k n r:=by
 induction h with
 |root h=>exact .root ((List.getElem?_append_left (List.getElem?_eq_some_iff.mp h).1).trans h)
 |step h ne _ ih=>exact .step ((List.getElem?_append_left (List.getElem?_eq_some_iff.mp h).1).trans h) ne ih
theorem Hm.set{L:List Nat}{k n r a b:Nat}(ha:L[a]? = some a)(hb:L[b]? = some b)(ne:b≠a)(h:Hm L k n r):∃k',k'<=k+1∧Hm (L.set a b) k' n (if r=a then b else r):=by
 have Y5:=(List.getElem?_eq_some_iff.mp ha).1;have O3:(L.set a b)[b]? = some b:=by rw[List.getElem?_set_ne (Ne.symm ne)];exact hb
 induction h with
 | @root n h=>
  by_cases q:n=a
  ·subst q
   rw[if_pos rfl];exact⟨1,Nat.le_refl _,.step (List.getElem?_set_self Y5) ne (.root O3)⟩
  ·rw[if_neg q]
   exact⟨0,by omega,.root (by rw[List.getElem?_set_ne (Ne.symm q)];exact h)⟩
 | @step n m k r h ne' _ ih=>
  refine aI ih ?_;clear ih;intro k' x y;have q:n≠a:=λq=>by rw[q,ha]at h;cases h;exact ne' q.symm
  exact⟨k'+1,by omega,.step (by rw[List.getElem?_set_ne (Ne.symm q)];exact h) ne' y⟩
structure UF(L:List Nat)(KS:List (Option K))(bj:List Ty)(m:Nat)(B:Nat)(bo:Bool)(EQ:(Nat->K)->Prop):Prop where
 lk:KS.length=L.length
 la:bj.length=L.length
 hm:∀n,n<L.length->∃k r,k<=B∧Hm L k n r
 lit:∀j:Nat,(∃n:Nat,bj[n]? = some (Ty.iv j))↔j<m
 one:∀n n' j:Nat,bj[n]? = some (Ty.iv j)->bj[n']? = some (Ty.iv j)->n=n'
 wG:bo=true->∀ν,EQ ν↔∀(n k r:Nat) (t t':Ty),Hm L k n r->bj[n]? = some t->bj[r]? = some t'->ev ν t=ev ν t'
 cons:bo=true->∀(n k r:Nat) (c:K),Hm L k n r->bj[n]? = some (Ty.con c)->KS[r]? = some (some c)
 Ll:bo=true->∀(r:Nat) (c:K),KS[r]? = some (some c)->L[r]? = some r->∃n k:Nat,Hm L k n r∧bj[n]? = some (Ty.con c)
 bad:bo=false->∀ν,¬EQ ν
theorem UF.nil:UF [] [] [] 0 0 true (λ_=>True) where
 lk:=rfl
 la:=rfl
 hm:=λn h=>by simp at h
 lit:=λj=>⟨λh=>h.elim λn h=>by simp at h,λh=>by omega⟩
 one:=λn n' j h=>by simp at h
 wG:=λ_ ν=>⟨λ_ n k r t t' _ h=>by simp at h,λ_=>trivial⟩
 cons:=λ_ n k r c _ h=>by simp at h
 Ll:=λ_ r c h=>by simp at h
 bad:=λh=>by cases h
theorem Hm.lt{L:List Nat}{k n r:Nat}(h:Hm L k n r):n<L.length:=by
 cases h with
 |root h=>exact(List.getElem?_eq_some_iff.mp h).1
 |step h _ _=>exact(List.getElem?_eq_some_iff.mp h).1
theorem Hm.back{L:List Nat}{k n r:Nat}(hc:∀n,n<L.length->∃k r,Hm L k n r)(h:Hm (L++[L.length]) k n r):(n<L.length∧∃k,Hm L k n r)∨(n=L.length∧r=L.length):=by
 have hl:=h.lt
 by_cases q:n<L.length
 ·refine dA (hc n q) λk' r' s=>?_
  have:=(s.snoc L.length).uniq h;exact .inl ⟨q,k',this▸s⟩
 ·have:n=L.length:=by simp at hl;omega
  subst this;have:=(Hm.root (L:=L++[L.length]) (n:=L.length) (by simp)).uniq h;exact .inr ⟨rfl,this.symm⟩
noncomputable def HU(m:Nat):Option K->Ty
 |some k=>.con k
 |none=>.iv m
noncomputable def mN(m:Nat):Option K->Nat
 |some _=>m
 |none=>m+1
section
variable{L:List Nat}{KS:List (Option K)}{bj:List Ty}{m B:Nat}{bo:Bool}{EQ:(Nat->K)->Prop}
theorem UF.G0(u:UF L KS bj m B bo EQ)(n:Nat)(h:n<L.length):∃k r,Hm L k n r:=aO (u.hm n h) λk r _ s=>⟨k,r,s⟩
theorem eE{α:Type}{l:List α}{x:α}{n:Nat}(h:n<l.length):(l++[x])[n]? = l[n]? :=List.getElem?_append_left h
theorem fW{α:Type}{l:List α}{x:α}{n:Nat}(h:n=l.length):(l++[x])[n]? = some x:=by rw[h];simp
theorem UF.new(u:UF L KS bj m B bo EQ)(kind:Option K):UF (L++[L.length]) (KS++[kind]) (bj++[HU m kind]) (mN m kind) B bo EQ where
 lk:=by simp[u.lk]
 la:=by simp[u.la]
 hm:=λn h=>by
  by_cases q:n<L.length
  ·refine aO (u.hm n q) λk r a s=>?_
   exact⟨k,r,a,s.snoc _⟩
  ·have:n=L.length:=by simp at h;omega
   subst this;exact⟨0,_,Nat.zero_le _,.root (by simp)⟩
 lit:=λj=>by
  constructor
  ·rintro⟨n,h⟩
   by_cases q:n<bj.length
   ·rw[eE q]at h
    have:=(u.lit j).mp ⟨n,h⟩;cases kind with
    |some k=>exact this
    |none=>exact Nat.lt_succ_of_lt this
   ·have hl:=(List.getElem?_eq_some_iff.mp h).1
    rw[fW (by simp at hl;omega)]at h;cases kind with
    |some k=>exact nomatch h
    |none=>cases h;exact Nat.lt_succ_self _
  ·intro h
   by_cases q:j<m
   ·refine aV ((u.lit j).mpr q) λn hn=>?_
    exact⟨n,(eE (List.getElem?_eq_some_iff.mp hn).1).trans hn⟩
   ·cases kind with
    |some k=>exact absurd h q
    |none=>
     obtain rfl:=Nat.le_antisymm (Nat.le_of_lt_succ h) (Nat.le_of_not_lt q);exact⟨bj.length,fW rfl⟩
 one:=λn n' j h h'=>by
  have key:∀n,(bj++[HU m kind])[n]? = some (Ty.iv j)->(n<bj.length∧bj[n]? = some (Ty.iv j)∧j<m)∨(n=bj.length∧j=m):=by
   intro n h
   by_cases q:n<bj.length
   ·rw[eE q]at h
    exact .inl ⟨q,h,(u.lit j).mp ⟨n,h⟩⟩
   ·have hl:=(List.getElem?_eq_some_iff.mp h).1
    have e:n=bj.length:=by simp at hl;omega
    rw[fW e]at h;cases kind with
    |some k=>exact nomatch h
    |none=>cases h;exact .inr ⟨e,rfl⟩
  rcases key n h with ⟨a,b,c⟩|⟨a,b⟩<;>rcases key n' h' with ⟨a',b',c'⟩|⟨a',b'⟩
  ·exact u.one n n' j b b'
  ·omega
  ·omega
  ·omega
 wG:=λhf ν=>by
  rw[u.wG hf ν];constructor
  ·intro h n k r t t' s ht nP
   rcases s.back u.G0 with ⟨a,k',s'⟩|⟨a,b⟩
   ·rw[eE (by rw[u.la];exact a)]at ht
    rw[eE (by rw[u.la];exact(List.getElem?_eq_some_iff.mp s'.end_).1)]at nP;exact h n k' r t t' s' ht nP
   ·rw[a]at ht;rw[b]at nP;rw[ht]at nP;cases nP;rfl
  ·intro h n k r t t' s ht nP
   exact h n k r t t' (s.snoc _) ((eE (List.getElem?_eq_some_iff.mp ht).1).trans ht) ((eE (List.getElem?_eq_some_iff.mp nP).1).trans nP)
 cons:=λhf n k r c s ht=>by
  rcases s.back u.G0 with ⟨a,k',s'⟩|⟨a,b⟩
  ·rw[eE (by rw[u.la];exact a)]at ht
   have:=u.cons hf n k' r c s' ht;rw[eE (List.getElem?_eq_some_iff.mp this).1];exact this
  ·rw[fW (by rw[u.la];exact a)]at ht
   rw[fW (by rw[u.lk];exact b)];cases kind with
   |some k=>cases ht;rfl
   |none=>cases ht
 Ll:=λhf r c h hr=>by
  by_cases q:r<L.length
  ·rw[eE (by rw[u.lk];exact q)]at h
   rw[eE q]at hr;refine aO (u.Ll hf r c h hr) λn k s hn=>?_;exact⟨n,k,s.snoc _,(eE (List.getElem?_eq_some_iff.mp hn).1).trans hn⟩
  ·have hl:=(List.getElem?_eq_some_iff.mp hr).1
   have e:r=L.length:=by simp at hl;omega
   rw[fW (by rw[u.lk];exact e)]at h;replace h:=Option.some.inj h;subst h;exact⟨r,0,.root hr,fW (by rw[u.la];exact e)⟩
 bad:=u.bad
noncomputable def vf(a b:Option K):Option K:=match a with
 |none=>b
 |some k=>some k
noncomputable def qJ(a b:Option K):Bool:=match a,b with
 |some x,some y=>decide (x≠y)
 |_,_=>false
theorem UF.gJ(u:UF L KS bj m B bo EQ)(hf:bo=true){ν:Nat->K}(h:EQ ν){n k r:Nat}{t t':Ty}(s:Hm L k n r)(ht:bj[n]? = some t)(nP:bj[r]? = some t'):ev ν t=ev ν t':=(u.wG hf ν).mp h n k r t t' s ht nP
theorem UF.kind(u:UF L KS bj m B bo EQ)(hf:bo=true){ν:Nat->K}(h:EQ ν){r:Nat}{c:K}{t:Ty}(hk:KS[r]? = some (some c))(hr:L[r]? = some r)(ht:bj[r]? = some t):ev ν t=c:=by
 refine aO (u.Ll hf r c hk hr) λn k s hn=>?_;exact(u.gJ hf h s hn ht).symm
theorem UF.weaken(u:UF L KS bj m B bo EQ){B':Nat}(h:B<=B'){gR:(Nat->K)->Prop}(he:∀ν,EQ ν↔gR ν):UF L KS bj m B' bo gR:=
 { u with hm:=λn hn=>aO (u.hm n hn) λk r a s=>⟨k,r,Nat.le_trans a h,s⟩,wG:=λhf ν=>(he ν).symm.trans (u.wG hf ν),bad:=λhf ν q=>u.bad hf ν ((he ν).mpr q) }
theorem zb{α:Type}{l:List α}{i:Nat}{x:α}(h:l[i]? = some x):l.set i x=l:=by
 apply List.ext_getElem?;intro n
 by_cases q:i=n
 ·subst q
  rw[List.getElem?_set_self (List.getElem?_eq_some_iff.mp h).1,h]
 ·rw[List.getElem?_set_ne q]
theorem Bl(a:Option K):vf a a=a:=by cases a<;>rfl
theorem Bm(a:Option K):qJ a a=false:=by cases a with
 |none=>rfl
 |some k=>exact decide_eq_false λz=>z rfl
theorem UF.at_{C:Prop}(u:UF L KS bj m B bo EQ){k n r:Nat}(h:Hm L k n r)(k_:∀t,bj[r]? = some t->C):C:=
 k_ _ (List.getElem?_eq_getElem (by rw[u.la];exact(List.getElem?_eq_some_iff.mp h.end_).1))
theorem UF.same(u:UF L KS bj m B bo EQ){n1 n2 k1 k2 r1 r2:Nat}(h1:Hm L k1 n1 r1)(h2:Hm L k2 n2 r2){t1 t2:Ty}(e1:bj[n1]? = some t1)(e2:bj[n2]? = some t2){a b:Option K}(ka:KS[r1]? = some a)(kb:KS[r2]? = some b):
  UF (L.set r1 r2) (KS.set r2 (vf a b)) bj m (B+1) (bo&&!qJ a b) (λν=>EQ ν∧ev ν t1=ev ν t2):=by
 refine u.at_ h1 λw1 x1=>?_;refine u.at_ h2 λw2 x2=>?_
 by_cases q:r1=r2
 ·subst q
  rw[ka]at kb;replace kb:=Option.some.inj kb;subst kb;rw[x1]at x2;replace x2:=Option.some.inj x2;subst x2;rw[Bl,Bm,zb h1.end_,zb ka,Bool.not_false,Bool.and_true];refine u.weaken (Nat.le_succ _) λν=>⟨λh=>⟨h,?_⟩,λh=>h.1⟩
  cases hf:bo with
  |false=>exact absurd h (u.bad hf ν)
  |true=>exact(u.gJ hf h h1 e1 x1).trans (u.gJ hf h h2 e2 x1).symm
 ·have ne:r2≠r1:=Ne.symm q
  have fwd:∀{n k r},Hm L k n r->∃k',k'<=k+1∧Hm (L.set r1 r2) k' n (if r=r1 then r2 else r):=λh=>Hm.set h1.end_ h2.end_ ne h;have lt:∀{n k r},Hm (L.set r1 r2) k n r->n<L.length:=λh=>by have:=h.lt;rwa [List.length_set]at this
  have back:∀{C:Prop} {n k r},Hm (L.set r1 r2) k n r->(∀k' r0,Hm L k' n r0->r=(if r0=r1 then r2 else r0)->C)->C:=by
   intro C n k r h kk;refine dA (u.G0 n (lt h)) λk' r0 s=>?_;refine aI (fwd s) λk2 _ s2=>?_;exact kk k' r0 s (h.uniq s2)
  have G5:r2<KS.length:=(List.getElem?_eq_some_iff.mp kb).1;have f1:∀{C:Prop} {n k},Hm L k n r1->(∀k',Hm (L.set r1 r2) k' n r2->C)->C:=λh kk=>by
   refine aI (fwd h) λk' _ s=>?_;rw[if_pos rfl]at s;exact kk k' s
  have f2:∀{C:Prop} {n k r},r≠r1->Hm L k n r->(∀k',Hm (L.set r1 r2) k' n r->C)->C:=λnr h kk=>by
   refine aI (fwd h) λk' _ s=>?_;rw[if_neg nr]at s;exact kk k' s
  exact{
   lk:=by rw[List.length_set,List.length_set];exact u.lk
   la:=by rw[List.length_set];exact u.la
   hm:=λn h=>by
    rw[List.length_set]at h
    refine aO (u.hm n h) λk r a s=>?_
    refine aI (fwd s) λk' a' s'=>?_
    exact⟨k',_,by omega,s'⟩
   lit:=u.lit
   one:=u.one
   wG:=λhf ν=>by
    simp only[Bool.and_eq_true]at hf
    constructor
    ·rintro⟨h,e⟩ n k r t t' s ht nP
     refine back s λk' r0 s0 z1=>?_
     subst z1
     refine u.at_ s0 λw0 x0=>?_
     rw[u.gJ hf.1 h s0 ht x0]
     by_cases z:r0=r1
     ·rw[if_pos z]at nP
      subst z
      rw[x0]at x1;replace x1:=Option.some.inj x1;subst x1
      rw[x2]at nP;replace nP:=Option.some.inj nP;subst nP
      rw[<-u.gJ hf.1 h h1 e1 x0,e,u.gJ hf.1 h h2 e2 x2]
     ·rw[if_neg z,x0]at nP;cases nP;rfl
    ·intro h
     have key:∀n k r t t',Hm L k n r->bj[n]? = some t->bj[r]? = some t'->ev ν t=ev ν t':=by
      intro n k r t t' s ht nP
      by_cases z:r=r1
      ·subst z
       refine f1 s λ_ s1=>?_
       refine f1 (Hm.root s.end_) λ_ s2=>?_
       exact(h _ _ _ _ _ s1 ht x2).trans (h _ _ _ _ _ s2 nP x2).symm
      ·refine f2 z s λ_ s1=>?_
       exact h _ _ _ _ _ s1 ht nP
     refine⟨(u.wG hf.1 ν).mpr key,?_⟩
     refine f1 h1 λ_ s1=>?_
     refine f2 ne h2 λ_ s2=>?_
     exact(h _ _ _ _ _ s1 e1 x2).trans (h _ _ _ _ _ s2 e2 x2).symm
   cons:=λhf n k r c s ht=>by
    simp only[Bool.and_eq_true]at hf
    refine back s λk' r0 s0 z1=>?_
    subst z1
    have hc:=u.cons hf.1 n k' r0 c s0 ht
    by_cases z:r0=r1
    ·rw[if_pos z]
     subst z
     rw[hc]at ka;replace ka:=Option.some.inj ka;subst ka
     rw[List.getElem?_set_self G5];rfl
    ·rw[if_neg z]
     by_cases z2:r2=r0
     ·subst z2
      rw[hc]at kb;replace kb:=Option.some.inj kb;subst kb
      rw[List.getElem?_set_self G5]
      cases a with
      |none=>rfl
      |some x=>
       have:=Decidable.not_not.mp (of_decide_eq_false ((Bool.not_eq_true' _).mp hf.2))
       rw[this];rfl
     ·rw[List.getElem?_set_ne z2];exact hc
   Ll:=λhf r c hk hr=>by
    simp only[Bool.and_eq_true]at hf
    have Sg:r1<L.length:=(List.getElem?_eq_some_iff.mp h1.end_).1
    by_cases z:r1=r
    ·subst z
     rw[List.getElem?_set_self Sg]at hr
     injection hr with hr
     exact absurd hr ne
    ·rw[List.getElem?_set_ne z]at hr
     by_cases z2:r2=r
     ·subst z2
      rw[List.getElem?_set_self G5]at hk
      injection hk with hk
      cases a with
      |none=>
       subst hk
       refine aO (u.Ll hf.1 _ c kb hr) λn k s ht=>?_
       refine f2 ne s λk' s'=>?_
       exact⟨n,k',s',ht⟩
      |some x=>
       cases hk
       refine aO (u.Ll hf.1 _ c ka h1.end_) λn k s ht=>?_
       refine f1 s λk' s'=>?_
       exact⟨n,k',s',ht⟩
     ·rw[List.getElem?_set_ne z2]at hk
      refine aO (u.Ll hf.1 r c hk hr) λn k s ht=>?_
      refine f2 (Ne.symm z) s λk' s'=>?_
      exact⟨n,k',s',ht⟩
   bad:=λhf ν=>by
    rintro⟨h,e⟩
    cases Ob:bo with
    |false=>exact u.bad Ob ν h
    |true=>
     rw[Ob]at hf
     simp only[Bool.true_and,Bool.not_eq_false']at hf
     cases a with
     |none=>exact nomatch hf
     |some x=>
      cases b with
      |none=>exact nomatch hf
      |some y=>
       replace hf:=of_decide_eq_true hf
       have y1:=u.kind Ob h ka h1.end_ x1
       have y2:=u.kind Ob h kb h2.end_ x2
       exact hf (by rw[<-y1,<-y2,<-u.gJ Ob h h1 e1 x1,e,u.gJ Ob h h2 e2 x2]) }
end
section
variable{n:Nat}{H:AH}{i C d:Nat}{ks vs:List ae}{ci:eJ}{a:String}{v:ae}{P:AH->Prop}{Q:ae->AH->Prop}{E:Nat->AH->Prop}
noncomputable abbrev FD(d:Nat)(H H':AH):Prop:=Fr (λk=>k=d) H H'
theorem FD.old{H':AH}{k:Nat}{o:Option cT}(f:FD d H H')(hk:k<H.next)(ne:k≠d)(h:H.get k=o):H'.get k=o:=(f.2 k hk ne).trans h
theorem cU(h1:H.get i=some (.inst C d))(h2:H.get d=some (.bg ks vs))(ne:i≠d)(hc:au.cls C=some ci)(hf:ci.fields.contains a=true)(hl:ks.length<=50)
  (k:∀H',H'.get i=some (.inst C d)->H'.get d=some (.bg (putK (.str a) v ks vs).1 (putK (.str a) v ks vs).2)->FD d H H'->H'.next=H.next->P H'):∃H',jJ au (.ref i) a v H=some H'∧P H':=
 fa h1 h2 hc hf hl ne λH' x y z=>k H' x y ⟨Nat.le_of_eq z.1.symm,λb _ hb=>z.2 b hb⟩ z.1
theorem zc{N i j:Nat}(h:Nat.blt i j=true):N+i<N+j:=Nat.add_lt_add_left (Nat.le_of_ble_eq_true h) N
theorem tg{N i j:Nat}(h:Nat.beq i j=false):N+i≠N+j:=λz=>Bool.false_ne_true (h.symm.trans (Nat.add_left_cancel z▸Nat.beq_refl i))
theorem dT{o:cT}{M:Nat}(m:H.next=M)(h1:H.get i=some (.inst C d))(h2:H.get d=some (.bg ks vs))(ne:i≠d)(li:i<M)(ld:d<M)(hc:au.cls C=some ci)(hf:ci.fields.contains a=true)(hl:ks.length<=50)
  (k:∀H',H'.get i=some (.inst C d)->H'.get d=some (.bg (putK (.str a) (.ref M) ks vs).1 (putK (.str a) (.ref M) ks vs).2)->H'.get M=some o->FD d H H'->H'.next=M+1->i<M+1->d<M+1->P H'):∃H',jJ au (.ref i) a (.ref H.next) (H.new o)=some H'∧P H':=by
 subst m;exact cU ((aH _ _ li).trans h1) ((aH _ _ ld).trans h2) ne hc hf hl λH' x y f nx=>k H' x y ((f.2 _ (Nat.lt_succ_self _) (Nat.ne_of_gt ld)).trans (aj _ _)) ((Fr.new _ _).trans f) nx (Nat.lt_succ_of_lt li) (Nat.lt_succ_of_lt ld)
theorem pV(h:∀H',Fr No H H'->H'.next=H.next+9->H'.get (H.next+1)=some (.inst 880 H.next)->(∃a b c d e f g,H'.get H.next=some (.bg wKs [.none,.ref a,.ref b,.ref c,.ref d,.ref e,.ref f,.ref g]))->Q (.ref (H.next+1)) H'):W (run au (n+2) 880 [] H) Q E:=by
 refine mj (g:=870) (by kernel_rfl) (ci:=⟨some 870,[],["modules", "adts", "variants", "sigs", "traits", "impls", "consts", "bodies", "read", "find"]⟩) (by kernel_rfl) rfl ?_;refine gq (mu H 880) λf0 g1 g2 nx=>?_;refine aw (fi:=⟨["self", "modules"],[.none],oI⟩) (l:=[("self",.ref (H.next+1)),("modules",.none)]) ?_;have ne:H.next+1≠H.next:=Nat.succ_ne_self _;tb_rel;refine cU g1 g2 ne rfl rfl (ble rfl) λH1 i1 d1 q1 n1=>?_;have a1:H.next+1<H.next+2:=Nat.lt_succ_self _;have b1:H.next<H.next+2:=Nat.lt_succ_of_lt (Nat.lt_succ_self _);tb_rel;refine dT n1 i1 d1 ne a1 b1 rfl rfl (ble rfl) λH2 i2 d2 _ q2 n2 a2 b2=>?_;tb_rel;refine dT n2 i2 d2 ne a2 b2 rfl rfl (ble rfl) λH3 i3 d3 _ q3 n3 a3 b3=>?_;tb_rel;refine dT n3 i3 d3 ne a3 b3 rfl rfl (ble rfl) λH4 i4 d4 _ q4 n4 a4 b4=>?_;tb_rel;refine dT n4 i4 d4 ne a4 b4 rfl rfl (ble rfl) λH5 i5 d5 _ q5 n5 a5 b5=>?_;tb_rel;refine dT n5 i5 d5 ne a5 b5 rfl rfl (ble rfl) λH6 i6 d6 _ q6 n6 a6 b6=>?_;tb_rel;refine dT n6 i6 d6 ne a6 b6 rfl rfl (ble rfl) λH7 i7 d7 _ q7 n7 a7 b7=>?_;tb_rel;refine dT n7 i7 d7 ne a7 b7 rfl rfl (ble rfl) λH8 i8 d8 _ q8 n8 a8 b8=>?_;tb_rel;have q:=((((((q1.trans q2).trans q3).trans q4).trans q5).trans q6).trans q7).trans q8;have f:Fr No H H8:=f0.fresh (q.weaken λk z=>.inr (Nat.le_of_eq z.symm));exact⟨rfl,h H8 f n8 i8 ⟨_,_,_,_,_,_,_,d8⟩⟩
theorem DY(h:∀H',Fr No H H'->H'.next=H.next+4->H'.get (H.next+1)=some (.inst 597 H.next)->H'.get H.next=some (.bg Us [.ref (H.next+2),.ref (H.next+3)])->H'.get (H.next+2)=some (.list [])->H'.get (H.next+3)=some (.list [])->Q (.ref (H.next+1)) H'):W (run au (n+2) 597 [] H) Q E:=by
 refine mj (g:=533) (by kernel_rfl) (ci:=⟨some 533,[("fresh",540),("fresh_int",547),("shallow",554),("resolved",559),("occurs",566),("bind",573),("are_alike",580),("unify",587),("default_ints",594)],["known", "is_number"]⟩) (by kernel_rfl) rfl ?_;refine gq (mu H 597) λf0 g1 g2 nx=>?_;refine aw (fi:=⟨["self"],[],oG⟩) (l:=[("self",.ref (H.next+1))]) ?_;have ne:H.next+1≠H.next:=Nat.succ_ne_self _;generalize Y6:(H.new (.bg [] [])).new (.inst 597 H.next)=H1 at *;tb_rel;refine dT nx g1 g2 ne (Nat.lt_succ_self _) (Nat.lt_succ_of_lt (Nat.lt_succ_self _)) rfl rfl (ble rfl) λH2 i2 d2 a2 q2 n2 u2 v2=>?_;tb_rel;refine dT n2 i2 d2 ne u2 v2 rfl rfl (ble rfl) λH3 i3 d3 b3 q3 n3 _ _=>?_;tb_rel;have f:Fr No H H3:=f0.fresh ((q2.trans q3).weaken λk z=>.inr (Nat.le_of_eq z.symm));exact⟨rfl,h H3 f n3 i3 d3 (q3.old (Nat.lt_of_lt_of_eq (Nat.lt_succ_self _) n2.symm) (tg (i:=2) (j:=0) rfl) a2) b3⟩
end
section
variable{n:Nat}{H:AH}{Q:ae->AH->Prop}{E:Nat->AH->Prop}
noncomputable def G7(N w wd lk Nq rd Nr bd:Nat):Ad:={ c:=N+1,cd:=N,i:=N+3,id:=N+2,kn:=N+4,nu:=N+5,w:=w,wd:=wd,lk:=lk,Nq:=Nq,rd:=rd,Nr:=Nr,bd:=bd,lo:=N+6,s0:=N+7,sc:=N+8,lp:=N+9,s1:=N+9,ow:=N+10 }
theorem zd {w bd rd:Nat} (h:∀H' N,N=H.next->Fr No H H'->H'.next=N+11->H'.get (N+1)=some (.inst 832 N)->
   H'.get N=some (.bg Wh [.ref w,.str "",.none,.ref bd,.ref rd,.ref (N+3),.ref (N+6),.ref (N+8),.ref (N+9),.int 0,.ref (N+10),.tup [.str "tuple",.tup []]])->
   H'.get (N+3)=some (.inst 597 (N+2))->H'.get (N+2)=some (.bg Us [.ref (N+4),.ref (N+5)])->H'.get (N+4)=some (.list [])->H'.get (N+5)=some (.list [])->H'.get (N+6)=some (.list [])->H'.get (N+8)=some (.list [.ref (N+7)])->Q (.ref (N+1)) H'):
  W (run au (n+4) 832 [.ref w,.str "",.none,.ref bd,.ref rd] H) Q E:=by
 refine mj (g:=681) (by kernel_rfl) (ci:=⟨some 681,[("expr",688),("fresh",702),("resolved",709),("unify",716),("typex",723),("open",730),("close",737),("new_local",744),("declare",751),("local",758),("value_path",784),("coerce",822)],["world", "module", "self_type", "bounds", "reader", "infer", "locals", "scopes", "loops", "many_loops", "owed", "result"]⟩) (by kernel_rfl) rfl ?_;refine gq (mu H 832) λf0 g1 g2 nx=>?_;obtain⟨N,hN⟩:∃N,N=H.next:=⟨_,rfl⟩
 rw[<-hN]at f0 g1 g2 nx ⊢;refine aw (n:=n+2) (fi:=⟨["self", "world", "module", "self_type", "bounds", "reader"],[],lA⟩) (l:=[("self",.ref (N+1)),("world",.ref w),("module",.str ""),("self_type",.none),("bounds",.ref bd),("reader",.ref rd)]) ?_;have ne:N+1≠N:=Nat.succ_ne_self _;generalize Y6:(H.new (.bg [] [])).new (.inst 832 N)=H1 at *;tb_rel;refine cU g1 g2 ne rfl rfl (ble rfl) λH2 i2 d2 q2 n2=>?_;tb_rel;refine cU i2 d2 ne rfl rfl (ble rfl) λH3 i3 d3 q3 n3=>?_;tb_rel;refine cU i3 d3 ne rfl rfl (ble rfl) λH4 i4 d4 q4 n4=>?_;tb_rel;refine cU i4 d4 ne rfl rfl (ble rfl) λH5 i5 d5 q5 n5=>?_;tb_rel;refine cU i5 d5 ne rfl rfl (ble rfl) λH6 i6 d6 q6 n6=>?_;tb_rel;have m6:H6.next=N+2:=n6.trans (n5.trans (n4.trans (n3.trans (n2.trans nx))));show W (run au (n+2) 597 [] H6) _ _;refine DY λH7 f7 n7 a7 b7 c7 d7=>?_;have a6:N+1<H6.next:=Nat.lt_of_lt_of_eq (zc (j:=2) rfl) m6.symm;have i7:H7.get (N+1)=_:=(f7.2 _ a6 λz=>z.elim).trans i6;have e7:H7.get N=_:=(f7.2 _ (Nat.lt_of_succ_lt a6) λz=>z.elim).trans d6;rw[m6]at a7 b7 c7 d7 n7 ⊢;tb_rel;refine cU i7 e7 ne rfl rfl (ble rfl) λH8 i8 d8 q8 n8=>?_;have m8:H8.next=N+6:=n8.trans n7;tb_rel;refine dT m8 i8 d8 ne (zc rfl) (zc (i:=0) rfl) rfl rfl (ble rfl) λH9 i9 d9 l9 q9 n9 u9 v9=>?_;tb_rel;have m9:(H9.new (.dict [] [])).next=N+8:=congrArg (· + 1) n9;refine dT m9 ((aH _ _ (Nat.lt_of_lt_of_eq u9 n9.symm)).trans i9) ((aH _ _ (Nat.lt_of_lt_of_eq v9 n9.symm)).trans d9) ne (Nat.lt_succ_of_lt u9) (Nat.lt_succ_of_lt v9) rfl rfl (ble rfl) λHa ia da la qa na ua va=>?_;have Wx:FD N H9 Ha:=(Fr.new _ _).trans qa;rw[show H9.next=N+7 from n9]at la;tb_rel;refine dT na ia da ne ua va rfl rfl (ble rfl) λHb ib db lb qb nb ub vb=>?_;tb_rel;refine cU ib db ne rfl rfl (ble rfl) λHc ic dc qc nc=>?_;tb_rel;refine dT (nc.trans nb) ic dc ne ub vb rfl rfl (ble rfl) λHd Y7 dd ld qd nd _ _=>?_;tb_rel;refine cU Y7 dd ne rfl rfl (ble rfl) λHe ie de qe nE=>?_;tb_rel;have p6:FD N H1 H6:=(((q2.trans q3).trans q4).trans q5).trans q6;have p9:FD N H7 H9:=q8.trans q9;have pe:FD N Ha He:=((qb.trans qc).trans qd).trans qe;have Wy:FD N H7 He:=(p9.trans Wx).trans pe;have Y8:FD N H1 He:=(p6.trans (f7.weaken λ_ z=>z.elim)).trans Wy;have f:Fr No H He:=f0.fresh (Y8.weaken λk z=>.inr (hN▸Nat.le_of_eq z.symm));have k7:∀{i:Nat}{o:Option cT},Nat.blt i 6=true->Nat.beq i 0=false->H7.get (N+i)=o->He.get (N+i)=o:=λx y z=>Wy.old (Nat.lt_of_lt_of_eq (zc x) n7.symm) (tg (j:=0) y) z;exact⟨rfl,h He N hN f (nE.trans nd) ie de (k7 (i:=3) rfl rfl a7) (k7 (i:=2) rfl rfl b7) (k7 (i:=4) rfl rfl c7) (k7 (i:=5) rfl rfl d7) (FD.old (Wx.trans pe) (Nat.lt_of_lt_of_eq (zc (i:=6) (j:=7) rfl) n9.symm) (tg (i:=6) (j:=0) rfl) l9) (pe.old (Nat.lt_of_lt_of_eq (zc (i:=8) (j:=9) rfl) na.symm) (tg (i:=8) (j:=0) rfl) la)⟩
end
noncomputable def nM(i:Nat)(r:Row):ae:=.tup [.str (vS i),fL r.told,dX r.ex]
noncomputable def cF:Nat->List Row->List ae
 |_,[]=>[]
 |i,r::rs=>nM i r::cF (i+1) rs
section
variable{ν:Nat->K}{Γ:List K}{lam:Nat->Ty}{Δ:List Ty}{j:Nat}{r:Row}{rs:List Row}
theorem wH:cF j []=[]:=rfl
theorem wI:cF j (r::rs)=nM j r::cF (j+1) rs:=rfl
end
theorem cG:∀(rs:List Row) (i:Nat),(cF i rs).length=rs.length:=by
 intro zz;induction zz with
 |nil=>
  intro _;exact rfl
 |cons r rs ih=>
  intro i;simp[wH,wI,ih]
theorem pW:∀(rs:List Row) (i m:Nat) (r:Row),rs[m]? = some r->(cF i rs)[m]? = some (nM (i+m) r):=by
 intro zz;induction zz with
 |nil=>
  intro i m r h;simp at h
 |cons r0 rs ih=>
  intro i b0 r h;cases b0 with
  |zero=>
   simp at h;subst h;rfl
  |succ m=>
   simp only[List.getElem?_cons_succ]at h;simp only[wH,wI,List.getElem?_cons_succ];rw[ih (i+1) m r h,show i+1+m=i+(m+1) by omega]
theorem uj:∀(rs:List Row) (i:Nat),(ej i rs).length=rs.length:=by
 intro zz;induction zz with
 |nil=>
  intro _;exact rfl
 |cons r rs ih=>
  intro i;simp[sX,sY,ih]
noncomputable def Wz(told:Option K):ae:=match told with
 |none=>.none
 |some k=>nameA (kS k)
noncomputable def th(ra rd c la:Nat):Loc:=[("rows",.ref ra),("reader",.ref rd),("checker",.ref c),("lines",.ref la)]
noncomputable def DZ(ra rd c la:Nat)(l:Loc):Prop:=∃x y z w,l=th ra rd c la++[("name",x),("told",y),("e",z),("kind",w)]
noncomputable def Y9(ra rd c la:Nat)(l:Loc):Prop:=l=th ra rd c la∨DZ ra rd c la l
noncomputable abbrev pd:List bD:=[.asg "kind" (.ite (.cmp (.loc "told") .is (.cst (.none))) (.cst (.none)) (.tup [.cst (.str "path"),.cst (.int 1),.tup [.tup [.loc "told",.tup [],.tup []]]])),
  .expr (.aE (.loc "lines") "append" [.tup [.cst (.str "let"),.cst (.int 1),.tup [.cst (.str "name"),.cst (.int 1),.loc "name",.cst (.bool false),.cst (.bool false),.cst (.none)],.loc "kind",.loc "e"]])]
theorem Bn{n ra rd c la:Nat}{R:ek->Loc->AH->Prop}{vs:List ae}(ne:ra≠la):∀(rs:List Row) (i k:Nat) (acc:List ae) (H:AH) (l:Loc),Y9 ra rd c la l->H.get ra=some (.list vs)->H.get la=some (.list acc)->vs.length=i+rs.length->(∀m r,rs[m]? = some r->vs[i+m]? = some (nM (i+m) r))->rs.length<=k->acc.length+rs.length<=1000->
  (∀H' l',(DZ ra rd c la l∨rs≠[]->DZ ra rd c la l')->Fr (λk=>k=la) H H'->H'.next=H.next->H'.get la=some (.list (acc++ej i rs))->R .next l' H')->WS (jt (k+1) (oR (run au n) ["name", "told", "e"] pd) (.lst ra i) l H) R:=by
 intro zz;induction zz with
 |nil=>
  intro i k acc H l hl h1 h2 hv hr hk ha h;refine kF ?_ (h H l (λz=>z.elim id λz=>absurd rfl z) .refl rfl (by simpa[sX,sY]using h2));exact nG h1 (by simp at hv;omega)
 |cons r rs ih=>
  intro i k acc H l hl h1 h2 hv hr hk ha h;simp only[List.length_cons]at hv hk ha;obtain⟨k,rfl⟩:∃k',k=k'+1:=⟨k-1,by omega⟩
  have h0:=hr 0 r rfl;simp only[Nat.add_zero]at h0;refine ig (v:=nM i r) (it':=.lst ra (i+1)) (iV h1 h0) ?_;have next:∀l',DZ ra rd c la l'->WS (jt (k+1) (oR (run au n) ["name", "told", "e"] pd) (.lst ra (i+1)) l' (H.set la (.list (acc++[qH i r])))) R:=by
   intro l' Dj;refine ih (i+1) k (acc++[qH i r]) _ l' (.inr Dj) ((aB _ _ ne).trans h1) (aF _ _ _) (by omega) (λm r' hm=>?_) (by omega) (by simp;omega) λH' Za UK f nx g=>?_
   ·have:=hr (m+1) r' (by simpa using hm)
    rw[show i+(m+1)=i+1+m by omega]at this;exact this
   ·refine h H' Za (λ_=>UK (.inl Dj)) (Fr.trans (M:=λk=>k=la) (Fr.set (M:=λk=>k=la) H _ rfl) f) nx ?_
    rw[g];simp[sX,sY]
  obtain⟨told,ex⟩:=r;have body:∀l2,l2=th ra rd c la++[("name",.str (vS i)),("told",fL told),("e",dX ex)]∨(∃w,l2=th ra rd c la++[("name",.str (vS i)),("told",fL told),("e",dX ex),("kind",w)])->XB (run au n) pd l2 H (yE (k+1) (oR (run au n) ["name", "told", "e"] pd) (.lst ra (i+1)) R):=by
   intro l2 zw;have hp:pv (.ite (.cmp (.loc "told") .is (.cst (.none))) (.cst (.none)) (.tup [.cst (.str "path"),.cst (.int 1),.tup [.tup [.loc "told",.tup [],.tup []]]])) l2 H=some (Wz told):=by
    rcases zw with rfl|⟨w,rfl⟩<;>cases told<;>rfl
   have JH:∀v,DZ ra rd c la (bc "kind" v l2)∧aJ "lines" (bc "kind" v l2)=some (.ref la)∧pv (.tup [.cst (.str "let"),.cst (.int 1),.tup [.cst (.str "name"),.cst (.int 1),.loc "name",.cst (.bool false),.cst (.bool false),.cst (.none)],.loc "kind",.loc "e"]) (bc "kind" v l2) H=some (.tup [.str "let",.int 1,yP i,v,dX ex]):=by
    intro v;rcases zw with rfl|⟨w,rfl⟩<;>exact⟨⟨_,_,_,_,rfl⟩,rfl,rfl⟩
   refine dw (JH (Wz told)) λg1 g2 g3=>?_;refine aC (dg (oN hp (aX (aC (j5 (eX (av g2 ⟨_,aU h2 (.inl rfl),ai (oN g3 (aD ?_))⟩)))))));refine append_list h2 (by omega) ?_;tb_rel;exact next _ g1
  rcases hl with rfl|⟨x,y,z,w,rfl⟩
  ·exact body (th ra rd c la++[("name",.str (vS i)),("told",fL told),("e",dX ex)]) (.inl rfl)
  ·exact body (th ra rd c la++[("name",.str (vS i)),("told",fL told),("e",dX ex),("kind",w)]) (.inr ⟨w,rfl⟩)
section
variable{n:Nat}{A:Ad}{H:AH}{Q:ae->AH->Prop}{E:Nat->AH->Prop}
theorem G8{m:Nat}{lines:List ae}{wv:ae}(h:∀H₁,Fr No H H₁->W (run au m 518 [.ref A.c,nL lines,wv] H₁) Q E):W (run au (m+1) 993 [.ref A.c,nL lines,wv] H) Q E:=by
 refine aw (fi:=⟨["checker", "node", "wanted"],[],dN⟩) (l:=[("checker",.ref A.c),("node",nL lines),("wanted",wv)]) ?_;tb_rel;refine⟨_,dO (aj _ _) rfl,?_⟩;tb_rel;refine jf (h _ (.new _ _)) (λv H z=>?_) λc H z=>?_
 ·tb_rel;exact z
 ·tb_rel;exact z
noncomputable def Lm:List bD:=[.jE 64 [.asg "made" (.aE (.loc "checker") "expr" [.tup [.cst (.str "block"),.cst (.int 1),.call (.glob "tuple" (.bi (.type "tuple"))) [.loc "lines"],.cst (.none)],.cst (.none)]),
  .expr (.aE (.attr (.loc "checker") "infer") "default_ints" []),
  .asg "settler" (.call (.glob "Settler" (.top 464)) [.attr (.loc "checker") "infer",.attr (.loc "checker") "world",.lY [] []]),
  .expr (.aE (.loc "settler") "expr" [.loc "made"]),
  .ret (.comp (.aE (.loc "settler") "type" [.sub (.loc "row") (.cst (.int 1)),.cst (.int 1)]) ["row"] true (.attr (.loc "checker") "locals"))]]
noncomputable def UL(ra rd c la:Nat)(l:Loc):Prop:=∃v x y z w,l=th ra rd c la++[("name",x),("told",y),("e",z),("kind",w),("lookup",v)]
theorem NH{ra rd c la:Nat}{l:Loc}{v:ae}(h:DZ ra rd c la l):UL ra rd c la (bc "lookup" v l):=by
 refine Ly h ?_;clear h;intro x y z w UM;subst UM;exact⟨v,x,y,z,w,rfl⟩
noncomputable abbrev ze(N:Nat):Ad:=G7 (N+19) (N+9+1) (N+9) (N+31+1) (N+31) (N+1) N (N+18)
theorem off_ne{N i j:Nat}{l:List Nat}(z:N+i=N+j)(h:i∉l)(k:j∈l):False:=h (Nat.add_left_cancel z▸k)
theorem Rh{N m:Nat}(hm:m=N+40)(a:Nat)(ha:a∈[20,19,22,21,10,9,32,31,1,0,18].map (N + ·)):a<m∧¬MI (ze N) a∧¬ML (ze N) a:=by
 refine aI (List.mem_map.mp ha) λi hi UN=>?_;subst UN;have k:=(by decide:∀i∈[20,19,22,21,10,9,32,31,1,0,18],i<40∧i∉[23,24]∧i∉[25,28,27]) i hi;refine⟨hm▸Nat.add_lt_add_left k.1 N,λz=>?_,λz=>?_⟩
 ·refine dZ z (λz=>?_) λz=>?_
  ·exact off_ne z k.2.1 (by decide:23∈[23,24])
  ·exact off_ne z k.2.1 (by decide:24∈[23,24])
 ·refine Ej z (λz=>?_) (λz=>?_) λz=>?_
  ·exact off_ne z k.2.2 (by decide:25∈[25,28,27])
  ·exact off_ne z k.2.2 (by decide:28∈[25,28,27])
  ·exact off_ne z k.2.2 (by decide:27∈[25,28,27])
theorem Ri{N m:Nat}(hm:m=N+40):(ze N).kn<m∧(ze N).nu<m∧(ze N).lo<m∧(ze N).s1<m∧(ze N).sc<m:=by
 subst hm;exact⟨Nat.add_lt_add_left (by decide:23<40) N,Nat.add_lt_add_left (by decide:24<40) N,Nat.add_lt_add_left (by decide:25<40) N,Nat.add_lt_add_left (by decide:28<40) N,Nat.add_lt_add_left (by decide:27<40) N⟩
theorem JI{N i j:Nat}(h:i≠j):N+i≠N+j:=λz=>h (Nat.add_left_cancel z)
theorem Rj{N:Nat}:(ze N).kn≠(ze N).nu∧(ze N).lo≠(ze N).s1∧(ze N).lo≠(ze N).sc∧(ze N).s1≠(ze N).sc∧(∀a,MI (ze N) a->¬ML (ze N) a):=by
 refine⟨JI (by decide:4≠5),JI (by decide:6≠9),JI (by decide:6≠8),JI (by decide:9≠8),λa h1 h2=>?_⟩;have k:∃i,a=N+i∧i∈[23,24]:=by
  refine dZ h1 (λz=>?_) λz=>?_
  ·exact⟨23,z,by decide⟩
  ·exact⟨24,z,by decide⟩
 refine aI k ?_;clear k;intro i UO hi;subst UO;have q:=(by decide:∀i∈[23,24],i∉[25,28,27]) i hi;refine Ej h2 (λz=>?_) (λz=>?_) λz=>?_
 ·exact off_ne z q (by decide:25∈[25,28,27])
 ·exact off_ne z q (by decide:28∈[25,28,27])
 ·exact off_ne z q (by decide:27∈[25,28,27])
theorem Bo{ra:Nat}{rs:List Row}(Ln:H.get ra=some (.list (cF 0 rs)))(zy:ra<H.next)(h6:rs.length<=6)(LZ:rs≠[])
  (h:∀A la rd H' l,Env A H'->Dn A H' [] []->H'.get A.lo=some (.list [])->H'.get A.sc=some (.list [.ref A.s0])->A.s0<H'.next->la<H'.next->H'.get la=some (.list (ej 0 rs))->Fr No H H'->UL ra rd A.c la l->H.next<=A.kn∧H.next<=A.nu∧H.next<=A.lo∧H.next<=A.sc->XB (run au (n+19)) Lm l H' (pK Q E)):
  W (run au (n+20) 998 [.ref ra] H) Q E:=by
 refine aw (fi:=⟨["rows"],[],qC⟩) (l:=[("rows",.ref ra)]) ?_;obtain⟨N,hN⟩:∃N,N=H.next:=⟨_,rfl⟩
 tb_rel;show W (run au (n+17+2) 880 [] H) _ _;refine pV λH1 f1 n1 i1 x1=>?_;obtain⟨a1,a2,a3,a4,a5,a6,a7,d1⟩:=x1;rw[<-hN]at n1 i1 d1 ⊢;tb_rel;refine cU i1 d1 (Nat.succ_ne_self _) rfl rfl (ble rfl) λH2 i2 d2 q2 n2=>?_;tb_rel;show W (run au (n+17+2) 880 [] H2) _ _;refine pV λH3 f3 n3 i3 x3=>?_;obtain⟨b1,b2,b3,b4,b5,b6,b7,d3⟩:=x3;have m2:H2.next=N+9:=n2.trans n1;rw[m2]at n3 i3 d3 ⊢;tb_rel;have m3:H3.next=N+18:=n3;rw[m3];show W (run au (n+15+4) 832 [.ref (N+9+1),.str "",.none,.ref (N+18),.ref (N+1)] (H3.new (.dict [] []))) _ _;refine zd λH4 N4 WA f4 n4 c1 c2 k1 k2 k3 k4 k5 k6=>?_;obtain rfl:N4=N+19:=WA.trans (congrArg (· + 1) m3);have u4:∀{k o},k<N+18->H3.get k=o->H4.get k=o:=λhk hg=>(f4.2 _ (Nat.lt_succ_of_lt (Nat.lt_of_lt_of_eq hk m3.symm)) λz=>z.elim).trans ((aH _ _ (Nat.lt_of_lt_of_eq hk m3.symm)).trans hg);have u3:∀{k o},k<N+9->H2.get k=o->H4.get k=o:=λhk hg=>u4 (Nat.lt_of_lt_of_le hk (Nat.le_add_right (N+9) 9)) ((f3.2 _ (Nat.lt_of_lt_of_eq hk m2.symm) λz=>z.elim).trans hg);have Uv:=u3 (zc rfl) i2;have Uw:=u3 (zc (i:=0) rfl) d2;have Zb:=u4 (zc (i:=10) (j:=18) rfl) i3;have Zc:=u4 (zc rfl) d3;have Zd:H4.get (N+18)=some (.dict [] []):=(f4.2 _ (Nat.lt_of_lt_of_eq (Nat.lt_succ_self _) (congrArg (· + 1) m3.symm)) λz=>z.elim).trans (m3▸aj H3 _);have UP:ra<N:=Nat.lt_of_lt_of_eq zy hN.symm;have WB:ra<N+9:=Nat.lt_of_lt_of_le UP (Nat.le_add_right _ _);have Ze:H4.get ra=some (.list (cF 0 rs)):=u3 WB (q2.old (Nat.lt_of_lt_of_eq WB n1.symm) (Nat.ne_of_lt UP) ((f1.2 _ zy λz=>z.elim).trans Ln));have WC:Fr No H H4:=((f1.fresh (q2.weaken λk z=>.inr (hN▸Nat.le_of_eq z.symm))).trans ((f3.gj _))).trans f4;have hle:∀i,H.next<=N+i:=λi=>hN▸Nat.le_add_right _ _;clear f1 q2 f3 f4 WA i1 d1 i2 d2 i3 d3 n1 n2 n3 m2 m3 Ln u4 u3;tb_rel;have m4:H4.next=N+30:=n4;rw[m4];refine AU ?_;tb_rel;have Rk:ra<N+30:=Nat.lt_of_lt_of_le UP (Nat.le_add_right _ _);have Rl:(H4.new (.list [])).get ra=some (.list (cF 0 rs)):=(aH H4 (.list []) (Nat.lt_of_lt_of_eq Rk m4.symm)).trans Ze;refine⟨.lst ra 0,oS Rl,?_⟩;refine Bn (n:=n+19) (ra:=ra) (rd:=N+1) (c:=N+19+1) (la:=N+30) (vs:=cF 0 rs) (Nat.ne_of_lt Rk) rs 0 99999 [] _ _ (.inl rfl) Rl (m4▸aj H4 _) (by rw[cG,Nat.zero_add]) (λm r hm=>by have:=pW rs 0 m r hm;simpa using this) (by omega) (by simp;omega) λH5 l5 Rm f5 n5 g5=>?_;replace Rm:=Rm (.inr LZ);have WD:H5.next=N+31:=n5.trans (congrArg (· + 1) m4);have Rn:∀{k o},k<N+30->H4.get k=o->H5.get k=o:=λ{k o} hk hg=>(f5.2 k (Nat.lt_succ_of_lt (Nat.lt_of_lt_of_eq hk m4.symm)) (Nat.ne_of_lt hk)).trans ((aH _ _ (Nat.lt_of_lt_of_eq hk m4.symm)).trans hg);have Zf:H5.get (N+30)=some (.list (ej 0 rs)):=g5;have Zg:Fr No H H5:=(WC.gj _).fresh (f5.weaken λk z=>.inr (z▸hle 30));clear f5 g5 n5 WC;refine aX (aC (dg (x_call (aT (aD ?_)))));show W (run au (n+17+2) 880 [] H5) _ _;refine pV λH6 f6 n6 i6 x6=>?_;obtain⟨e1,e2,e3,e4,e5,e6,e7,d6⟩:=x6;rw[WD]at n6 i6 d6 ⊢;have WE:aJ "lookup" (bc "lookup" (.ref (N+31+1)) l5)=some (.ref (N+31+1)):=by obtain⟨x,y,z,w,rfl⟩:=Rm;rfl
 have Zh:aJ "checker" (bc "lookup" (.ref (N+31+1)) l5)=some (.ref (N+19+1)):=by obtain⟨x,y,z,w,rfl⟩:=Rm;rfl
 have hL:UL ra (N+1) (N+19+1) (N+30) (bc "lookup" (.ref (N+31+1)) l5):=NH Rm;show tT _ _ _ _ (bc "lookup" (.ref (N+31+1)) l5) _;generalize bc "lookup" (.ref (N+31+1)) l5=l6 at *;refine aX (aC (AR (aT (av WE ?_))));refine cU i6 d6 (Nat.succ_ne_self _) rfl rfl (ble rfl) λH7 i7 d7 q7 n7=>?_;refine aX (aC (AR (av WE (AQ (av Zh ?_)))));have m6:H6.next=N+40:=n6;have m7:H7.next=N+40:=n7.trans m6;have WG:∀{k o},Nat.blt k 31=true->H5.get (N+k)=o->H7.get (N+k)=o:=λ{k o} hk hg=>q7.old (Nat.lt_of_lt_of_eq (Nat.lt_of_lt_of_le (zc hk) (Nat.le_add_right (N+31) 9)) m6.symm) (Nat.ne_of_lt (zc hk)) ((f6.2 _ (Nat.lt_of_lt_of_eq (zc hk) WD.symm) λz=>z.elim).trans hg);have zf:∀{k o},Nat.blt k 30=true->H4.get (N+k)=o->H7.get (N+k)=o:=λ{k o} hk hg=>WG (Nat.ble_eq_true_of_le (Nat.le_succ_of_le (Nat.le_of_ble_eq_true hk))) (Rn (zc hk) hg);refine aQ (zf (k:=20) rfl c1) (zf (k:=19) rfl c2) rfl rfl rfl rfl rfl ?_;refine cU (zf (k:=10) rfl Zb) (zf rfl Zc) (Nat.succ_ne_self _) rfl rfl (ble rfl) λH8 i8 d8 q8 n8=>?_;refine aX ?_;have Si:∀{k o},Nat.blt k 40=true->Nat.beq k 9=false->H7.get (N+k)=o->H8.get (N+k)=o:=λ{k o} hk hn hg=>q8.old (Nat.lt_of_lt_of_eq (zc hk) m7.symm) (tg hn) hg;have lU:∀{k o},Nat.blt k 30=true->Nat.beq k 9=false->H4.get (N+k)=o->H8.get (N+k)=o:=λ{k o} hk hn hg=>Si (Nat.ble_eq_true_of_le (Nat.le_trans (Nat.le_of_ble_eq_true hk) (ble rfl))) hn (zf hk hg);have m8:H8.next=N+40:=n8.trans m7;have Zi:Fr No H H8:=Zg.fresh (((f6.weaken λk z=>z.elim).trans (q7.weaken λk z=>.inr (z▸hle 31))).trans (q8.weaken λk z=>.inr (z▸hle 9)));have Zj:H8.get (N+30)=some (.list (ej 0 rs)):=Si rfl rfl (WG rfl Zf);have ee:Env (G7 (N+19) (N+9+1) (N+9) (N+31+1) (N+31) (N+1) N (N+18)) H8:={
  c1:=lU (k:=20) rfl rfl c1
  c2:=lU (k:=19) rfl rfl c2
  i1:=lU (k:=22) rfl rfl k1
  i2:=lU (k:=21) rfl rfl k2
  w1:=i8
  w2:=⟨b1,b2,b3,b4,b5,b6,b7,d8⟩
  k1:=Si (k:=32) rfl rfl i7
  k2:=⟨e1,e2,e3,e4,e5,e6,e7,Si (k:=31) rfl rfl d7⟩
  r1:=lU (k:=1) rfl rfl Uv
  r2:=⟨a1,a2,a3,a4,a5,a6,a7,lU (k:=0) rfl rfl Uw⟩
  bd:=lU (k:=18) rfl rfl Zd
  lt:=Rh m8
  lm:=Ri m8
  ne:=Rj }
 have dd:Dn (G7 (N+19) (N+9+1) (N+9) (N+31+1) (N+31) (N+1) N (N+18)) H8 [] []:={
  kn:=lU (k:=23) rfl rfl k3
  nu:=lU (k:=24) rfl rfl k4
  len:=rfl
  small:=Nat.zero_le _
  num:=λm t h=>nomatch h }
 exact h _ (N+30) (N+1) H8 l6 ee dd (lU (k:=25) rfl rfl k5) (lU (k:=27) rfl rfl k6) (Nat.lt_of_lt_of_eq (zc (i:=26) rfl) m8.symm) (Nat.lt_of_lt_of_eq (zc rfl) m8.symm) Zj Zi hL ⟨hle 23,hle 24,hle 25,hle 27⟩
end
section
variable{n:Nat}{A:Ad}{H:AH}{σ:List (Option Ty)}{ns:List Bool}{sa sd:Nat}{Q:ae->AH->Prop}{E:Nat->AH->Prop}{μ:Nat->K}
theorem zg{i w b:Nat}(h:∀H',Fr No H H'->H'.next=H.next+2->H'.get (H.next+1)=some (.inst 464 H.next)->H'.get H.next=some (.bg [.str "infer",.str "world",.str "bounds"] [.ref i,.ref w,.ref b])->Q (.ref (H.next+1)) H'):W (run au (n+2) 464 [.ref i,.ref w,.ref b] H) Q E:=by
 refine mj (g:=390) (by kernel_rfl) (ci:=⟨some 390,[("type",397),("expr",402),("statement",421),("pattern",426),("look_value",433),("look",440),("look_operator",447),("look_sign",454),("look_cast",461)],["infer", "world", "bounds"]⟩) (by kernel_rfl) rfl ?_;refine gq (mu H 464) λf0 g1 g2 nx=>?_;refine aw (fi:=⟨["self", "infer", "world", "bounds"],[],ly⟩) (l:=[("self",.ref (H.next+1)),("infer",.ref i),("world",.ref w),("bounds",.ref b)]) ?_;have ne:H.next+1≠H.next:=Nat.succ_ne_self _;tb_rel;refine cU g1 g2 ne rfl rfl (ble rfl) λH2 i2 d2 q2 n2=>?_;tb_rel;refine cU i2 d2 ne rfl rfl (ble rfl) λH3 i3 d3 q3 n3=>?_;tb_rel;refine cU i3 d3 ne rfl rfl (ble rfl) λH4 i4 d4 q4 n4=>?_;tb_rel;exact⟨rfl,h H4 (f0.fresh (((q2.trans q3).trans q4).weaken λk z=>.inr (by omega))) (by omega) i4 d4⟩
theorem Lo.no{H':AH}{ts:List Ty}(o:Lo A H ts)(e:Env A H)(f:Fr No H H'):Lo A H' ts:=by
 refine cm o.lo λrs h1 h2 h3=>?_;exact⟨rs,(f.2 _ e.lm.2.2.1 λz=>z.elim).trans h1,h2,λj r t a b=>by
  refine gq (h3 j r t a b) λx y z w=>?_
  exact⟨(f.2 _ y λz=>z.elim).trans x,Nat.lt_of_lt_of_le y f.1,z,w⟩⟩
noncomputable def jB(k:K):ae:=ba (.con k)
theorem zh{H0:AH}{c:Nat}{l:Loc}{ts:List Ty}(g:Gd σ ns μ)(s:Se A sa sd H0 σ ns)(o:Lo A H0 ts)(hn:∀t∈ts,nv ns t)(hc:H0.next<=c)(hl:∀v,aJ "settler" (bc "row" v l)=some (.ref sa)∧aJ "row" (bc "row" v l)=some v):
  ∀(Oc:List Ty) (i k:Nat) (acc:List ae) (H:AH),i+Oc.length=ts.length->(∀m t,Oc[m]? = some t->ts[i+m]? = some t)->Fr No H0 H->H.get c=some (.list acc)->c<H.next->Oc.length<=k->acc.length+Oc.length<=1000->
  (∀H',Fr No H0 H'->H'.get c=some (.list (acc++Oc.map λt=>jB (ev μ t)))->c<H'.next->Q (.ref c) H')->
  W (eO (k+1) (yC (run au (n+4)) (.aE (.loc "settler") "type" [.sub (.loc "row") (.cst (.int 1)),.cst (.int 1)]) ["row"] true l) c (.lst A.lo i) H) Q E:=by
 intro zz;induction zz with
 |nil=>
  intro i k acc H hi hm f hg ui hk ha h;refine cm ((o.no s.e f).lo) λrr h1 h2 h3=>?_;refine sL ?_ (h H f (by simpa using hg) ui);exact nG h1 (by simp at hi ⊢;omega)
 |cons t Oc ih=>
  intro i k acc H hi hm f hg ui hk ha h;simp only[List.length_cons]at hi hk ha;obtain⟨k,rfl⟩:∃k',k=k'+1:=⟨k-1,by omega⟩
  refine cm ((o.no s.e f).lo) λrr h1 h2 h3=>?_;have ht:ts[i]? = some t:=hm 0 t rfl;obtain⟨r,hr⟩:∃r,rr[i]? = some r:=⟨_,List.getElem?_eq_getElem (by omega)⟩
  refine gq (h3 i r t hr ht) λx y z w=>?_;refine aI (g t (hn t (List.mem_of_getElem? ht))) λq hq ch=>?_;refine pJ (it':=.lst A.lo (i+1)) (v:=.ref r) (iV h1 (by rw[List.getElem?_map,hr];rfl)) ?_;show XE (run au (n+4)) (.aE (.loc "settler") "type" [.sub (.loc "row") (.cst (.int 1)),.cst (.int 1)]) (bc "row" (.ref r) l) H _ _;refine eX (av (hl _).1 ⟨_,(s.no f).callee rfl rfl,ai (bx (av (hl _).2 (ax ⟨_,bT (m:=1) x rfl (by omega),ai (ax (aD ?_))⟩)))⟩);refine bZ ch hq (s.no f) λH1 f1=>?_;have g1:=(f1.2 _ ui λz=>z.elim).trans hg;refine⟨acc,g1,by omega,?_⟩;refine ih (i+1) k (acc++[jB (ev μ t)]) _ (by omega) (λm t' Ed=>?_) ((f.trans f1).oU _ hc) (aF _ _ _) (Nat.lt_of_lt_of_le ui f1.1) (by omega) (by simp;omega) λH' f' g' n'=>h H' f' (by rw[g'];simp) n';have:=hm (m+1) t' (by simpa using Ed);rw[show i+(m+1)=i+1+m by omega]at this;exact this
end
noncomputable def G9(H:AH):Option (List K)->ae->Prop
 |none,v=>v=.none
 |some ks,v=>∃a,v=.ref a∧a<H.next∧H.get a=some (.list (ks.map jB))
theorem JJ{lam:Nat->Ty}{μ:Nat->K}:∀{rs:List Row}{Γ:List Ty}{j:Nat},sW (λi=>ev μ (lam i)) (Γ.map (ev μ)) j rs=(iu lam Γ j rs).map (ev μ):=by
 intro zz;induction zz with
 |nil=>
  intro _ _;exact rfl
 |cons r rs ih=>
  intro Γ j;simp only[A1,A2,pP,pQ];rw[mx,<-ih,List.map_append]
  rfl
section
variable{n:Nat}{A:Ad}{H:AH}{Q:ae->AH->Prop}{E:Nat->AH->Prop}
theorem Hf{H H0:AH}{rs:List Row}(ok:o7 0 rs)(h6:rs.length<=6)(hsz:dF rs<1000)(e:Env A H0)(d:Dn A H0 [] [])(JC:H0.get A.lo=some (.list []))(tP:H0.get A.sc=some (.list [.ref A.s0]))(RM:A.s0<H0.next)(f0:Fr No H H0)(hA:H.next<=A.kn∧H.next<=A.nu∧H.next<=A.lo∧H.next<=A.sc)
  (hq:∀s H' σ ns lam,Env (cQ A s) H'->Dn (cQ A s) H' σ ns->Lo (cQ A s) H' (iu lam [] 0 rs)->Fr No H H'->lR [] σ (0+dF rs) lam [] 0 rs->Num [] ns lam 0 (dS rs)->(∀t∈iu lam [] 0 rs,nv ns t)->Q (wy (dY lam [] 0 rs)) H') (he:Unsat rs->∀H',Fr No H H'->E 129 H'):
  W (run au (n+19) 688 [.ref A.c,nL (ej 0 rs),.none] H0) Q E:=by
 have back:∀H',Fr (MO A) H0 H'->Fr No H H':=λH' f=>f0.fresh (f.weaken λk z=>.inr (by rcases z with rfl|rfl|rfl|rfl<;>omega));refine gQ (m:=n+18) e ?_;refine G8 (m:=n+17) λH1 f1=>?_;have e1:=e.no f1;have lm:=e.lm;refine s9 (n:=n) (B:=0) (σ:=[]) (ns:=[]) ok h6 (λm hm=>by simp at hm) (by omega) (by simpa using hsz) e1 (d.no e f1) ((f1.2 _ lm.2.2.1 λz=>z.elim).trans JC) ((f1.2 _ lm.2.2.2.2 λz=>z.elim).trans tP) (Nat.lt_of_lt_of_le RM f1.1) (λs H' bE dI lam e' d' Hg f' p q UQ=>?_) λH' f' hf=>?_
 ·exact hq s H' bE dI lam e' d' Hg (back H' ((f1.weaken λ_ z=>z.elim).trans f')) p q UQ
 ·exact he (λν fb h=>hf _ ν Cv fb h) H' (back H' ((f1.weaken λ_ z=>z.elim).trans f'))
theorem zi{lam:Nat->Ty}:∀{rs:List Row}{Γ:List Ty}{j:Nat},(iu lam Γ j rs).length=Γ.length+rs.length:=by
 intro zz;induction zz with
 |nil=>
  intro _ _;exact rfl
 |cons r rs ih=>
  intro Γ j;simp only[pP,pQ];rw[ih];simp;omega
theorem zj{ra:Nat}{rs:List Row}(Ln:H.get ra=some (.list (cF 0 rs)))(zy:ra<H.next)(ok:o7 0 rs)(h6:rs.length<=6)(LZ:rs≠[])(hsz:dF rs<1000)
  (hQ:∀res v H',Spec rs res->Fr No H H'->G9 H' res v->Q v H'):W (run au (n+20) 998 [.ref ra] H) Q E:=by
 refine Bo (n:=n) Ln zy h6 LZ λA la rd H0 l e d JC tP RM lla Sb f0 hl hA=>?_;unfold Lm;refine LA hl ?_;clear hl;intro v x y z w UR;subst UR
 ·skip
  refine aC (yD rfl ?_);tb_rel;refine⟨_,aA e.c1 e.c2 rfl rfl rfl,?_⟩;tb_rel;refine bw Sb (by rw[uj];omega) ?_;tb_rel;refine Hf (n:=n) ok h6 hsz e d JC tP RM f0 hA (λs H1 σ ns lam e1 d1 lo1 f1 p q UQ=>?_) λhu H1 f1=>?_
  ·tb_rel
   refine aQ e1.c1 e1.c2 rfl rfl rfl rfl rfl ?_;refine⟨_,aA e1.i1 e1.i2 rfl rfl rfl,?_⟩;tb_rel;refine pS (n:=n+18) e1 d1 λH2 nQ e2 d2 df f2=>?_;have Sd:Fr No H H2:=f1.fresh (f2.weaken λk z=>.inr (by rcases z with z|z;exact z▸hA.1;exact z▸hA.2.1));tb_rel;refine aQ e2.c1 e2.c2 rfl rfl rfl rfl rfl ?_;tb_rel;refine aQ e2.c1 e2.c2 rfl rfl rfl rfl rfl ?_;tb_rel;refine zg (n:=n+17) λH3 f3 n3 s1 s2=>?_;have Jw:Fr No H2 H3:=(Fr.new _ _).trans f3;have se:Se (cQ A s) ((H2.new (.dict [] [])).next+1) (H2.new (.dict [] [])).next H3 nQ ns:=⟨e2.no Jw,d2.no e2 Jw,s1,⟨_,s2⟩,by omega⟩
   have g:Gd nQ ns (zx nQ):=GZ p.bd (by omega) d1.len df d1.num;have S:=Cu p.bd (by omega) d1.len df d1.num d2.num;have za:∀i,i<dS rs->nv ns (lam i)∧ev (zx nQ) (lam i)≠.bool:=λi hi=>⟨q.nl i (Nat.zero_le _) (by omega),by
    have hb:=(p.vl i (Nat.zero_le _) (by omega)).2
    cases hL:lam i with
    |con k=>rw[hL]at hb;exact λz=>hb (by rw[show k=K.bool from z])
    |iv m=>exact S.int m⟩
   have good:=DX (δ:=λi=>if i<dS rs then ev (zx nQ) (lam i)else .j6) p (λi hi=>q.nl i (Nat.zero_le _) (by omega)) (by omega) d1.len df d1.num d2.num λi=>rfl;have ag:∀i,0<=i->i<0+dS rs->(λi=>if i<dS rs then ev (zx nQ) (lam i)else K.j6) i=ev (zx nQ) (lam i):=λi _ hi=>if_pos (by omega);tb_rel;refine⟨_,se.callee rfl rfl,?_⟩;tb_rel;refine wF (n:=n+8) g ok h6 za se (λha v4 H4 f4=>?_) λha H4 f4=>?_
   ·tb_rel
    refine lN ?_;tb_rel;have e4:=(se.no f4).e;have gl:(iu lam [] 0 rs).length=rs.length:=by rw[zi];simp
    refine aQ e4.c1 e4.c2 rfl rfl rfl rfl rfl ?_;have Ro:=Jw.trans f4;have vh:Lo (cQ A s) H2 (iu lam [] 0 rs):=by
     obtain⟨rr,x1,x2,x3⟩:=lo1;have Zk:=e1.lm;refine⟨rr,(f2.2 _ Zk.2.2.1 λz=>e1.ne.2.2.2.2 _ z (.inl rfl)).trans x1,x2,λj r t hr ht=>?_⟩;refine gq (x3 j r t hr ht) λy1 y2 y3 y4=>?_;exact⟨(f2.2 _ y2 y3).trans y1,Nat.lt_of_lt_of_le y2 f2.1,y3,y4⟩
    have UC:=vh.no e2 Ro;obtain⟨rr,x1,x2,x3⟩:=UC;refine⟨.lst A.lo 0,oS x1,?_⟩;refine zh (n:=n+15) (H0:=H4) g (se.no f4) (vh.no e2 Ro) UQ (Nat.le_refl _) (λv=>⟨rfl,rfl⟩) (iu lam [] 0 rs) 0 99999 [] _ (by omega) (λm t hm=>by rw[Nat.zero_add];exact hm) (.new _ _) (aj _ _) (Nat.lt_succ_self _) (by omega) (by simp;omega) λH5 f5 g5 n5=>?_;tb_rel;refine hQ (some ((iu lam [] 0 rs).map (ev (zx nQ)))) _ H5 (.inr ⟨_,good,?_⟩) (((Sd.trans Jw).trans f4).trans f5) ⟨_,rfl,n5,?_⟩
    ·rw[kc ag,s8 ag]
     rw[if_pos ha];exact congrArg some (JJ (Γ:=[])).symm
    ·rw[g5,List.nil_append,List.map_map];rfl
   ·tb_rel
    refine⟨rfl,?_⟩;tb_rel;refine hQ none .none H4 (.inr ⟨_,good,?_⟩) ((Sd.trans Jw).trans f4) rfl;rw[kc ag];exact(if_neg (by rw[ha];decide)).symm
  ·tb_rel
   refine⟨rfl,?_⟩;tb_rel;exact hQ none .none H1 (.inl ⟨hu,rfl⟩) f1 rfl
end
structure Ga where
 (g lk kk ak:Nat)
noncomputable def MG(A:Ga)(k:Nat):Prop:=k=A.g∨k=A.lk∨k=A.kk∨k=A.ak
inductive Wd|room|sign|cast|equal|number
noncomputable def wS:Wd->String
 | .room => "room" | .sign => "sign" | .cast => "cast" | .equal => "equal" | .number => "number"
structure Ask where
 w:Wd
 n:Nat
 v:Int
noncomputable def Bp(a:Ask):ae:=.tup [.str (wS a.w),.int a.n,.int a.v]
noncomputable def Sj:List ae:=[.str "links",.str "kinds",.str "asks",.str "fine"]
noncomputable def nI(n:Nat):ae:=.int n
structure Gr(A:Ga)(H:AH)(L:List Nat)(KS:List (Option K))(as:List Ask)(bo:Bool):Prop where
 g:H.get A.g=some (.dict Sj [.ref A.lk,.ref A.kk,.ref A.ak,.bool bo])
 lk:H.get A.lk=some (.list (L.map nI))
 kk:H.get A.kk=some (.list (KS.map fL))
 ak:H.get A.ak=some (.list (as.map Bp))
 lt:A.g<H.next∧A.lk<H.next∧A.kk<H.next∧A.ak<H.next
 ne:A.g≠A.lk∧A.g≠A.kk∧A.g≠A.ak∧A.lk≠A.kk∧A.lk≠A.ak∧A.kk≠A.ak
section
variable{n:Nat}{A:Ga}{H:AH}{L:List Nat}{KS:List (Option K)}{as:List Ask}{bo:Bool}{Q:ae->AH->Prop}{E:Nat->AH->Prop}{R:ek->Loc->AH->Prop}
theorem Gr.no{H':AH}(G:Gr A H L KS as bo)(f:Fr No H H'):Gr A H' L KS as bo where
 g:=(f.2 _ G.lt.1 λz=>z.elim).trans G.g
 lk:=(f.2 _ G.lt.2.1 λz=>z.elim).trans G.lk
 kk:=(f.2 _ G.lt.2.2.1 λz=>z.elim).trans G.kk
 ak:=(f.2 _ G.lt.2.2.2 λz=>z.elim).trans G.ak
 lt:=⟨Nat.lt_of_lt_of_le G.lt.1 f.1,Nat.lt_of_lt_of_le G.lt.2.1 f.1,Nat.lt_of_lt_of_le G.lt.2.2.1 f.1,Nat.lt_of_lt_of_le G.lt.2.2.2 f.1⟩
 ne:=G.ne
theorem Gr.bc(G:Gr A H L KS as bo)(L':List Nat):Gr A (H.set A.lk (.list (L'.map nI))) L' KS as bo where
 g:=(aB _ _ G.ne.1).trans G.g
 lk:=aF _ _ _
 kk:=(aB _ _ (Ne.symm G.ne.2.2.2.1)).trans G.kk
 ak:=(aB _ _ (Ne.symm G.ne.2.2.2.2.1)).trans G.ak
 lt:=G.lt
 ne:=G.ne
theorem Gr.Rp(G:Gr A H L KS as bo)(D1:List (Option K)):Gr A (H.set A.kk (.list (D1.map fL))) L D1 as bo where
 g:=(aB _ _ G.ne.2.1).trans G.g
 lk:=(aB _ _ G.ne.2.2.2.1).trans G.lk
 kk:=aF _ _ _
 ak:=(aB _ _ (Ne.symm G.ne.2.2.2.2.2)).trans G.ak
 lt:=G.lt
 ne:=G.ne
theorem Gr.US(G:Gr A H L KS as bo)(Qc:List Ask):Gr A (H.set A.ak (.list (Qc.map Bp))) L KS Qc bo where
 g:=(aB _ _ G.ne.2.2.1).trans G.g
 lk:=(aB _ _ G.ne.2.2.2.2.1).trans G.lk
 kk:=(aB _ _ G.ne.2.2.2.2.2).trans G.kk
 ak:=aF _ _ _
 lt:=G.lt
 ne:=G.ne
theorem Gr.UT(G:Gr A H L KS as bo)(b:Bool):Gr A (H.set A.g (.dict Sj [.ref A.lk,.ref A.kk,.ref A.ak,.bool b])) L KS as b where
 g:=aF _ _ _
 lk:=(aB _ _ (Ne.symm G.ne.1)).trans G.lk
 kk:=(aB _ _ (Ne.symm G.ne.2.1)).trans G.kk
 ak:=(aB _ _ (Ne.symm G.ne.2.2.1)).trans G.ak
 lt:=G.lt
 ne:=G.ne
theorem Rq:MG A A.g:=.inl rfl
theorem Hh:MG A A.lk:=.inr (.inl rfl)
theorem Hi:MG A A.kk:=.inr (.inr (.inl rfl))
theorem Lp:MG A A.ak:=.inr (.inr (.inr rfl))
theorem Gr.NI(G:Gr A H L KS as bo):subAt (.ref A.g) (.str "links") H=some (.ref A.lk):=dO G.g rfl
theorem Gr.NJ(G:Gr A H L KS as bo):subAt (.ref A.g) (.str "kinds") H=some (.ref A.kk):=dO G.g rfl
theorem Gr.NK(G:Gr A H L KS as bo):subAt (.ref A.g) (.str "asks") H=some (.ref A.ak):=dO G.g rfl
theorem Gr.Zl(G:Gr A H L KS as bo):subAt (.ref A.g) (.str "fine") H=some (.bool bo):=dO G.g rfl
theorem Gr.link(G:Gr A H L KS as bo){m r:Nat}(h:L[m]? = some r)(hL:L.length<=100000):subAt (.ref A.lk) (.int m) H=some (.int r):=by
 have hl:=(List.getElem?_eq_some_iff.mp h).1;exact bT G.lk (by rw[List.getElem?_map,h];rfl) (by omega)
theorem Gr.kind(G:Gr A H L KS as bo){m:Nat}{k:Option K}(h:KS[m]? = some k)(hL:KS.length<=100000):subAt (.ref A.kk) (.int m) H=some (fL k):=by
 have hl:=(List.getElem?_eq_some_iff.mp h).1;exact bT G.kk (by rw[List.getElem?_map,h];rfl) (by omega)
theorem ne_int{x y:Nat}:bz .ne (.int x) (.int y) H=some (decide (x≠y)):=by
 show(Ea H (.int x) (.int y)).map (!·)=_;show some (!(true&&((x:Int)==y)))=some (decide (x≠y))
 by_cases h:x=y
 ·rw[h,beq_self_eq_true,decide_eq_false λz=>z rfl];rfl
 ·rw[beq_eq_false_iff_ne.mpr λz=>h (Int.ofNat_inj.mp z),decide_eq_true h];rfl
theorem D2{F:dQ}(G:Gr A H L KS as bo)(hL:L.length<=99999){k m r:Nat}(h:Hm L k m r):∀K,k<K->R .next [("groups",.ref A.g),("node",.int r)] H->
  WS (eF K (λl H=>aW au F (.cmp (.sub (.sub (.loc "groups") (.cst (.str "links"))) (.loc "node")) .ne (.loc "node")) l H) (λl H=>execs au F [.asg "node" (.sub (.sub (.loc "groups") (.cst (.str "links"))) (.loc "node"))] l H) [("groups",.ref A.g),("node",.int m)] H) R:=by
 induction h with
 | @root m h=>
  intro K hK q;obtain⟨K,rfl⟩:∃K',K=K'+1:=⟨K-1,by omega⟩
  refine fz (bK (bx (bx (av rfl (ax ⟨_,G.NI,av rfl ⟨_,G.link h (by omega),av rfl (bu (r:=false) (by rw[ne_int,decide_eq_false λz=>z rfl]) (.inr ⟨rfl,q⟩))⟩⟩)))))
 | @step m m' k r h ne s ih=>
  intro K hK q;obtain⟨K,rfl⟩:∃K',K=K'+1:=⟨K-1,by omega⟩
  refine fz (bK (bx (bx (av rfl (ax ⟨_,G.NI,av rfl ⟨_,G.link h (by omega),av rfl (bu (r:=true) (by rw[ne_int,decide_eq_true ne]) (.inl ⟨rfl,?_⟩))⟩⟩)))));refine aC (dg (bx (bx (av rfl (ax ⟨_,G.NI,av rfl ⟨_,G.link h (by omega),?_⟩⟩)))));exact ih K (by omega) q
theorem pf(G:Gr A H L KS as bo)(hL:L.length<=99999){k m r:Nat}(h:Hm L k m r)(hk:k<=99999)(q:Q (.int r) H):W (run au (n+1) 945 [.ref A.g,.int m] H) Q E:=by
 refine aw (fi:=⟨["groups", "node"],[],qy⟩) (l:=[("groups",.ref A.g),("node",.int m)]) ?_;refine aC (pI (D2 G hL h 100000 (by omega) ?_));tb_rel;exact q
theorem lV(G:Gr A H L KS as bo)(hl:KS.length=L.length)(hL:L.length<=99998)(kind:Option K)(q:∀H',Gr A H' (L++[L.length]) (KS++[kind]) as bo->Fr (MG A) H H'->Q (.int L.length) H'):W (run au (n+1) 952 [.ref A.g,fL kind] H) Q E:=by
 refine aw (fi:=⟨["groups", "kind"],[],qz⟩) (l:=[("groups",.ref A.g),("kind",fL kind)]) ?_;refine aC (j5 (eX (bx (av rfl (ax ⟨_,G.NI,_,aU G.lk (.inl rfl),ai (x_call (aT (ai (bx (av rfl (ax ⟨_,G.NI,aD ?_⟩)))))) ⟩)))));refine len_list G.lk (by simp;omega) (aD ?_);refine append_list G.lk (by simp;omega) ?_;have G1:=G.bc (L++[L.length]);have f1:Fr (MG A) H (H.set A.lk (.list ((L++[L.length]).map nI))):=Fr.set _ _ Hh;rw[show L.map nI++[ae.int ((L.map nI).length:Nat)]=(L++[L.length]).map nI by rw[List.map_append,List.length_map];rfl];refine aC (j5 (eX (bx (av rfl (ax ⟨_,G1.NJ,_,aU G1.kk (.inl rfl),ai (av rfl (aD ?_))⟩)))));refine append_list G1.kk (by simp;omega) ?_;have G2:=G1.Rp (KS++[kind]);have f2:=f1.trans (Fr.set (M:=MG A) _ (.list ((KS++[kind]).map fL)) Hi);rw[show KS.map fL++[fL kind]=(KS++[kind]).map fL by rw[List.map_append];rfl];refine aC (dh (bI (x_call (aT (ai (bx (av rfl (ax ⟨_,G2.NI,aD ?_⟩))))))));refine len_list G2.lk (by simp;omega) (ax ⟨_,_,rfl,?_⟩);have:=q _ G2 f2;show Q (.int ((((L++[L.length]).map nI).length:Nat)-1)) _;rw[show((((L++[L.length]).map nI).length:Nat):Int)-1=L.length by simp];exact this
theorem is_none(k:Option K):bz .is (fL k) .none H=some (decide (k=none)):=by cases k with|none=>rfl|some k=>cases k<;>rfl
theorem pX(k:Option K):bz .eI (fL k) .none H=some (decide (k≠none)):=by cases k with|none=>rfl|some k=>cases k<;>rfl
theorem JK(x y:K):bz .ne (fL (some x)) (fL (some y)) H=some (decide (x≠y)):=by cases x<;>cases y<;>rfl
theorem zk(G:Gr A H L KS as bo)(hl:KS.length=L.length)(hL:L.length<=99998){k1 k2 m1 m2 r1 r2:Nat}(h1:Hm L k1 m1 r1)(h2:Hm L k2 m2 r2)(MW:k1<=99999)(Ke:k2<=99999){a b:Option K}(ka:KS[r1]? = some a)(kb:KS[r2]? = some b)
  (q:∀H',Gr A H' (L.set r1 r2) (KS.set r2 (vf a b)) as (bo&&!qJ a b)->Fr (MG A) H H'->Q .none H'):W (run au (n+2) 959 [.ref A.g,.int m1,.int m2] H) Q E:=by
 refine aw (fi:=⟨["groups", "one", "other"],[],qA⟩) (l:=[("groups",.ref A.g),("one",.int m1),("other",.int m2)]) ?_;have UU:r1<L.length:=(List.getElem?_eq_some_iff.mp h1.end_).1;have G5:r2<KS.length:=(List.getElem?_eq_some_iff.mp kb).1;refine aC (oP (ai (x_call (aT (ai (av rfl (ai (av rfl (aD (pf (n:=n) G (by omega) h1 MW ?_))))))))));refine ai (x_call (aT (ai (av rfl (ai (av rfl (aD (pf (n:=n) G (by omega) h2 Ke (aD ⟨_,rfl,?_⟩)))))))));refine aC (oP (ai (bx (bx (av rfl (ax ⟨_,G.NJ,av rfl ⟨_,G.kind ka (by omega),?_⟩⟩))))));refine ai (bx (bx (av rfl (ax ⟨_,G.NJ,av rfl ⟨_,G.kind kb (by omega),aD ⟨_,rfl,?_⟩⟩⟩))));have rest:∀H1 jC,Gr A H1 L KS as jC->Fr (MG A) H H1->jC=(bo&&!qJ a b)->XB (run au (n+1)) [.gS (.sub (.loc "groups") (.cst (.str "links"))) (.loc "here") (.loc "there"),.gS (.sub (.loc "groups") (.cst (.str "kinds"))) (.loc "there") (.ite (.cmp (.loc "first") .is (.cst (.none))) (.loc "second") (.loc "first"))]
   [("groups",.ref A.g),("one",.int m1),("other",.int m2),("here",.int r1),("there",.int r2),("first",fL a),("second",fL b)] H1 (pK Q E):=by
  rintro H1 _ G1 f1 rfl;refine aC (nB (av rfl (bx (av rfl (ax ⟨_,G1.NI,av rfl ⟨_,ey G1.lk (by simpa using UU) (by simp;omega),?_⟩⟩)))));have G2:=G1.bc (L.set r1 r2);have f2:=f1.trans (Fr.set (M:=MG A) H1 (.list ((L.set r1 r2).map nI)) Hh);rw[show(L.map nI).set r1 (.int r2)=(L.set r1 r2).map nI by rw[List.map_set];rfl];have key:∀{w:ae},w=fL (vf a b)->∃H',putItem (.ref A.kk) (.int r2) w (H1.set A.lk (.list ((L.set r1 r2).map nI)))=some H'∧XB (run au (n+1)) [] [("groups",.ref A.g),("one",.int m1),("other",.int m2),("here",.int r1),("there",.int r2),("first",fL a),("second",fL b)] H' (pK Q E):=by
   rintro _ rfl;refine⟨_,ey G2.kk (by simpa using G5) (by simp;omega),?_⟩;rw[show(KS.map fL).set r2 (fL (vf a b))=(KS.set r2 (vf a b)).map fL by rw[List.map_set]];exact dm (q _ (G2.Rp _) (f2.trans (Fr.set (M:=MG A) _ _ Hi)))
  refine aC (nB (iU (bK (av rfl (ax (bu (is_none a) ?_))))));cases a with
  |none=>exact .inl ⟨rfl,av rfl (bx (av rfl (ax ⟨_,G2.NJ,av rfl (key rfl)⟩)))⟩
  |some a=>exact .inr ⟨rfl,av rfl (bx (av rfl (ax ⟨_,G2.NJ,av rfl (key rfl)⟩)))⟩
 refine aC (eY (oO (bK (av rfl (ax (bu (pX a) ?_))))));cases a with
 |none=>exact .inl ⟨rfl,.inr ⟨rfl,dm (rest _ _ G .refl (by simp[qJ]))⟩⟩
 |some a=>
  refine .inr ⟨rfl,oO (bK (av rfl (ax (bu (pX b) ?_))))⟩;cases b with
  |none=>exact .inl ⟨rfl,.inr ⟨rfl,dm (rest _ _ G .refl (by simp[qJ]))⟩⟩
  |some b=>
   refine .inr ⟨rfl,lM (bK (av rfl (av rfl (bu (JK a b) ?_))))⟩
   by_cases z:a=b
   ·rw[decide_eq_false (by simpa using z)]
    exact .inr ⟨rfl,dm (rest _ _ G .refl (by simp[qJ,z]))⟩
   ·rw[decide_eq_true z]
    refine .inl ⟨rfl,aC (nB (ax (av rfl (ax ⟨_,oV G.g (by decide),aX (dm (aX (rest _ _ (G.UT false) (Fr.set _ _ Rq) (by simp[qJ,z]))))⟩))))⟩
end
noncomputable def kJ(bj:List Ty)(ν:Nat->K)(n:Nat):K:=((bj[n]?).map (ev ν)).getD .bool
noncomputable def eB:Wd->K->Int->Bool
 | .room,k,v=>room k v
 | .sign,k,_=>sign k
 | .number,k,_=>decide (k≠.bool)
 |_,_,_=>true
theorem JL{k:K}{v:Int}:eB .number k v=decide (k≠.bool):=rfl
noncomputable def mE(bj:List Ty)(ν:Nat->K)(as:List Ask):Bool:=as.all λa=>eB a.w (kJ bj ν a.n) a.v
noncomputable def Od:Op->Wd
 | .eq=>.equal
 |_=>.number
structure Wk(EQ gR:(Nat->K)->Prop)(Γ:(Nat->K)->List K)(bj fh:List Ty)(new:List Ask)(node j:Nat)(e:Ex):Prop where
 ext:∃z,fh=bj++z
 eq:∀ν,gR ν↔EQ ν∧eqs ν (Γ ν) j e
 lt:node<fh.length
 ty:∀ν,gR ν->kJ fh ν node=ty ν (Γ ν) j e
 an:∀a∈new,a.n<fh.length
 asks:∀ν,gR ν->mE fh ν new=asks ν (Γ ν) j e
section
variable{EQ qY uk gR:(Nat->K)->Prop}{Γ:(Nat->K)->List K}{bj cR dj z:List Ty}{new jn jo:List Ask}{n n1 n2 j:Nat}{e l r:Ex}{ν:Nat->K}{t:Ty}{k:Option K}{v:Int}{op:Op}
theorem lW(h:bj[n]? = some t):kJ bj ν n=ev ν t:=by unfold kJ;rw[h];rfl
theorem rD(h:n<bj.length):kJ (bj++z) ν n=kJ bj ν n:=by unfold kJ;rw[List.getElem?_append_left h]
theorem iw:kJ (bj++[t]) ν bj.length=ev ν t:=lW (fW rfl)
theorem dP:mE bj ν (new++jn)=(mE bj ν new&&mE bj ν jn):=List.all_append
theorem ti:∀{new:List Ask},(∀a∈new,a.n<bj.length)->mE (bj++z) ν new=mE bj ν new:=by
 intro zz;induction zz with
 |nil=>
  intro _;exact rfl
 |cons a as ih=>
  intro h;show(eB a.w (kJ (bj++z) ν a.n) a.v&&mE (bj++z) ν as)=(eB a.w (kJ bj ν a.n) a.v&&mE bj ν as);rw[ih λb hb=>h b (.tail _ hb),rD (h a (.head _))]
theorem ix{w:Wd}:mE bj ν [⟨w,n,v⟩]=eB w (kJ bj ν n) v:=Bool.and_true _
theorem Hj:mN j k=j+cnt (.lit v k):=by cases k<;>rfl
theorem Hk:ev ν (HU j k)=ty ν (Γ ν) j (.lit v k):=by cases k<;>rfl
theorem Hl{w:Wd}:∀a∈[(⟨w,bj.length,v⟩:Ask)],a.n<(bj++[t]).length:=λa h=>by
 cases List.mem_singleton.mp h;simp
theorem Wk.lit:Wk EQ EQ Γ bj (bj++[HU j k]) [⟨.room,bj.length,v⟩] bj.length j (.lit v k) where
 ext:=⟨_,rfl⟩
 eq:=λν=>⟨λh=>⟨h,trivial⟩,λh=>h.1⟩
 lt:=by simp
 ty:=λν _=>iw.trans Hk
 an:=Hl
 asks:=λν _=>by rw[ix,iw];cases k<;>rfl
theorem Wk.UW:Wk EQ EQ Γ bj (bj++[HU j k]) [⟨.room,bj.length,0-v⟩] bj.length j (.neg (.lit v k)) where
 ext:=⟨_,rfl⟩
 eq:=λν=>⟨λh=>⟨h,trivial⟩,λh=>h.1⟩
 lt:=by simp
 ty:=λν _=>iw.trans (Hk (v:=v))
 an:=Hl
 asks:=λν _=>by rw[ix,iw];cases k<;>rfl
theorem Wk.gz{kn:List Nat}{x:Nat}(hx:kn[x]? = some n)(hk:∀x∈kn,x<bj.length)(vi:∀ν,EQ ν->Γ ν=kn.map (kJ bj ν)):Wk EQ EQ Γ bj bj [] n j (.gz x) where
 ext:=⟨[],by simp⟩
 eq:=λν=>⟨λh=>⟨h,trivial⟩,λh=>h.1⟩
 lt:=hk _ (List.mem_of_getElem? hx)
 ty:=λν h=>by simp only[GD,GF,DM,GG,GH,yQ];rw[vi ν h,List.getElem?_map,hx];rfl
 an:=λa h=>nomatch h
 asks:=λν _=>rfl
theorem Wk.app(w:Wk EQ gR Γ bj cR new n j e)(hz:dj=cR++z):(∃z,dj=bj++z)∧n<dj.length∧(∀ν,gR ν->kJ dj ν n=Mine.ty ν (Γ ν) j e)∧(∀a∈new,a.n<dj.length)∧∀ν,gR ν->mE dj ν new=Mine.asks ν (Γ ν) j e:=by
 subst hz;refine aV w.ext λz1 h1=>?_;refine⟨⟨z1++z,by rw[h1,List.append_assoc]⟩,by rw[List.length_append];exact Nat.lt_add_right _ w.lt,λν h=>by rw[rD w.lt];exact w.ty ν h,λa h=>by rw[List.length_append];exact Nat.lt_add_right _ (w.an a h),λν h=>by rw[ti w.an];exact w.asks ν h⟩
theorem ke{N m:Nat}{w:Wd}(h:∀a∈new,a.n<N)(hm:m<N):∀a∈new++[(⟨w,m,v⟩:Ask)],a.n<N:=λa ha=>by
 refine dZ (List.mem_append.mp ha) (λq=>?_) λq=>?_
 ·exact h a q
 ·cases List.mem_singleton.mp q;exact hm
theorem Wk.neg(w:Wk EQ gR Γ bj cR new n j e)(hn:∀v k,e≠.lit v k):Wk EQ gR Γ bj cR (new++[⟨.sign,n,0⟩]) n j (.neg e) where
 ext:=w.ext
 eq:=w.eq
 lt:=w.lt
 ty:=w.ty
 an:=ke w.an w.lt
 asks:=λν h=>by rw[dP,ix,w.asks ν h,w.ty ν h,jA hn];rfl
theorem Wk.cast{c:K}(w:Wk EQ gR Γ bj cR new n j e):Wk EQ gR Γ bj (cR++[.con c]) (new++[⟨.cast,n,0⟩]) cR.length j (.cast c e):=by
 refine Ef (w.app (dj:=cR++[.con c]) rfl) λa b x y z=>?_;exact{
  ext:=a
  eq:=w.eq
  lt:=by simp
  ty:=λν h=>iw
  an:=ke y b
  asks:=λν h=>by rw[dP,ix,z ν h];exact Bool.and_true _ }
theorem Wk.two(w1:Wk EQ qY Γ bj cR jn n1 j l)(w2:Wk qY uk Γ cR dj jo n2 (j+cnt l) r):
  (∃z,dj=bj++z)∧(∀ν,uk ν↔EQ ν∧eqs ν (Γ ν) j l∧eqs ν (Γ ν) (j+cnt l) r)∧n1<dj.length∧(∀ν,uk ν->kJ dj ν n1=Mine.ty ν (Γ ν) j l)∧(∀a∈jn++jo,a.n<dj.length)∧∀ν,uk ν->mE dj ν (jn++jo)=(Mine.asks ν (Γ ν) j l&&Mine.asks ν (Γ ν) (j+cnt l) r):=by
 refine aV w2.ext λz2 h2=>?_;refine Ef (w1.app h2) λa b x y q=>?_;have back:∀ν,uk ν->qY ν:=λν h=>((w2.eq ν).mp h).1;exact⟨a,λν=>by rw[w2.eq,w1.eq,and_assoc],b,λν h=>x ν (back ν h),λc h=>(List.mem_append.mp h).elim (y c) (w2.an c),λν h=>by rw[dP,q ν (back ν h),w2.asks ν h]⟩
theorem Hn(a b:K):tZ .shl a b=(decide (a≠.bool)&&decide (b≠.bool)):=by cases a<;>cases b<;>rfl
theorem D3(tY:op≠.shl)(a:K):tZ op a a=eB (Od op) a 0:=by cases op<;>cases a<;>first|rfl|exact absurd rfl tY
theorem Wk.shl(w1:Wk EQ qY Γ bj cR jn n1 j l)(w2:Wk qY uk Γ cR dj jo n2 (j+cnt l) r):Wk EQ uk Γ bj dj (jn++jo++[⟨.number,n1,0⟩]++[⟨.number,n2,0⟩]) n1 j (.bin .shl l r):=by
 refine Eg (w1.two w2) λa b c d x y=>?_;exact{
  ext:=a
  eq:=λν=>by rw[b];simp only[K8,K9,La,Lb,Cm,true_or,and_true]
  lt:=c
  ty:=d
  an:=ke (ke x c) w2.lt
  asks:=λν h=>by rw[dP,dP,y ν h,ix,ix,d ν h,w2.ty ν h];simp only[JL,td,Bf,Bg,te,Bh,Bi,pU,Hn,Bool.and_assoc] }
theorem Wk.bin(w1:Wk EQ qY Γ bj cR jn n1 j l)(w2:Wk qY uk Γ cR dj jo n2 (j+cnt l) r)(tY:op≠.shl)(hq:∀ν,gR ν↔uk ν∧kJ dj ν n1=kJ dj ν n2):
  (op.cmp=false->Wk EQ gR Γ bj dj (jn++jo++[⟨Od op,n1,0⟩]) n1 j (.bin op l r))∧
  (op.cmp=true->Wk EQ gR Γ bj (dj++[.con .bool]) (jn++jo++[⟨Od op,n1,0⟩]) dj.length j (.bin op l r)):=by
 refine Eg (w1.two w2) λa b c d x y=>?_;have he:∀ν,gR ν↔EQ ν∧eqs ν (Γ ν) j (.bin op l r):=λν=>by
  simp only[K8,K9,La,Lb,Cm,tY,false_or];rw[hq];constructor
  ·rintro⟨h,e⟩
   have:=(b ν).mp h;exact⟨this.1,this.2.1,this.2.2,by rw[<-d ν h,<-w2.ty ν h,e]⟩
  ·rintro⟨h,h1,h2,e⟩
   have:=(b ν).mpr ⟨h,h1,h2⟩;exact⟨this,by rw[d ν this,w2.ty ν this,e]⟩
 have ha:∀ν,gR ν->mE dj ν (jn++jo++[⟨Od op,n1,0⟩])=Mine.asks ν (Γ ν) j (.bin op l r):=λν h=>by
  refine bk ((hq ν).mp h) λh e=>?_;rw[dP,ix,y ν h,d ν h];simp only[td,Bf,Bg,te,Bh,Bi,pU];rw[<-w2.ty ν h,<-e,d ν h,D3 tY,Bool.and_assoc]
 refine⟨λhc=>⟨a,he,c,λν h=>?_,ke x c,ha⟩,λhc=>⟨?_,he,by simp,λν h=>?_,?_,λν h=>?_⟩⟩
 ·simp only[GD,GF,DM,GG,GH,yQ,hc,Bool.false_eq_true,if_false];exact d ν ((hq ν).mp h).1
 ·obtain⟨z,h⟩:=a;exact⟨z++[.con .bool],by rw[h,List.append_assoc]⟩
 ·simp only[GD,GF,DM,GG,GH,yQ,hc,if_true];exact iw
 ·intro a h;have:=ke x c a h;rw[List.length_append];exact Nat.lt_add_right _ this
 ·rw[ti (ke x c)];exact ha ν h
end
theorem Cw{kn:List Nat}{x m:Nat}(hl:kn.length<=6)(h:kn[x]? = some m):bN (.str (vS x)) (iE kn.length) (kn.map nI)=some (.int m):=
 K7 hl (List.getElem?_eq_some_iff.mp h).1 (by rw[List.getElem?_map,h];rfl)
structure Kn(A:Ga)(H:AH)(kd:Nat)(kn:List Nat):Prop where
 k:H.get kd=some (.dict (iE kn.length) (kn.map nI))
 lt:kd<H.next
 nm:¬MG A kd
 le:kn.length<=6
section
variable{n:Nat}{A:Ga}{H:AH}{L:List Nat}{KS:List (Option K)}{as:List Ask}{bo:Bool}{Q:ae->AH->Prop}{E:Nat->AH->Prop}{kd:Nat}{kn:List Nat}{bj:List Ty}{j B:Nat}{EQ:(Nat->K)->Prop}{Γ:(Nat->K)->List K}
theorem Kn.step{H':AH}(c:Kn A H kd kn)(f:Fr (MG A) H H'):Kn A H' kd kn:=⟨(f.2 _ c.lt c.nm).trans c.k,Nat.lt_of_lt_of_le c.lt f.1,c.nm,c.le⟩
theorem Gr.ask{F:dQ}(G:Gr A H L KS as bo)(hl:as.length<=100000)(a:Ask)(q:∀H',Gr A H' L KS (as++[a]) bo->Fr (MG A) H H'->Q .none H'):W (callC F (.jI (.ref A.ak) "append") [Bp a] H) Q E:=by
 refine append_list G.ak (by simpa using hl) ?_;rw[show as.map Bp++[Bp a]=(as++[a]).map Bp by rw[List.map_append];rfl];exact q _ (G.US _) (Fr.set _ _ Lp)
noncomputable def WalkAt(dp:Nat):Prop:=∀(e:Ex) {n:Nat}{A:Ga}{H:AH}{L:List Nat}{KS:List (Option K)}{as:List Ask}{bo:Bool}{Q:ae->AH->Prop}{E:Nat->AH->Prop}{kd:Nat}{kn:List Nat}{bj:List Ty}{j B:Nat}{EQ:(Nat->K)->Prop}{Γ:(Nat->K)->List K},
 tv kn.length dp e->UF L KS bj j B bo EQ->Gr A H L KS as bo->Kn A H kd kn->(∀x∈kn,x<bj.length)->(∀ν,EQ ν->Γ ν=kn.map (kJ bj ν))->L.length+size e<=1000->B+size e<=1000->as.length+2*size e<=3000->
 (∀H' L' D1 fh B' jC gR new node,UF L' D1 fh (j+cnt e) B' jC gR->Gr A H' L' D1 (as++new) jC->Fr (MG A) H H'->L'.length<=L.length+size e->B'<=B+size e->new.length<=2*size e->Wk EQ gR Γ bj fh new node j e->Q (.int node) H')->
 W (run au (n+dp+4) 966 [.ref A.g,.ref kd,dX e] H) Q E
theorem zl{v:Int}{k:Option K}(u:UF L KS bj j B bo EQ)(G:Gr A H L KS as bo)(hL:L.length+1<=1000)(ha:as.length+2<=3000)
  (q:∀H',UF (L++[L.length]) (KS++[k]) (bj++[HU j k]) (j+cnt (.lit v k)) B bo EQ->Gr A H' (L++[L.length]) (KS++[k]) (as++[⟨.room,bj.length,v⟩]) bo->Fr (MG A) H H'->Wk EQ EQ Γ bj (bj++[HU j k]) [⟨.room,bj.length,v⟩] bj.length j (.lit v k)->Q (.int bj.length) H'):
  W (run au (n+4) 966 [.ref A.g,.ref kd,dX (.lit v k)] H) Q E:=by
 refine aw (fi:=⟨["groups", "known", "e"],[],dM⟩) (l:=[("groups",.ref A.g),("known",.ref kd),("e",dX (.lit v k))]) ?_;tb_rel;refine lV (n:=n+2) G u.lk (by omega) k λH1 G1 f1=>?_;tb_rel;refine⟨_,G1.NK,_,aU G1.ak (.inl rfl),?_⟩;tb_rel;refine G1.ask (by omega) ⟨.room,L.length,v⟩ λH2 G2 f2=>?_;tb_rel;have w:=Wk.lit (EQ:=EQ) (Γ:=Γ) (bj:=bj) (j:=j) (k:=k) (v:=v);have u':=u.new k;rw[Hj (v:=v)]at u';rw[<-u.la]at G2 ⊢;exact q H2 u' (by rw[u.la]at G2 ⊢;exact G2) (f1.trans f2) w
theorem D4{v:Int}{k:Option K}(u:UF L KS bj j B bo EQ)(G:Gr A H L KS as bo)(hL:L.length+1<=1000)(ha:as.length+2<=3000)
  (q:∀H',UF (L++[L.length]) (KS++[k]) (bj++[HU j k]) (j+cnt (.lit v k)) B bo EQ->Gr A H' (L++[L.length]) (KS++[k]) (as++[⟨.room,bj.length,0-v⟩]) bo->Fr (MG A) H H'->Q (.int bj.length) H'):
  W (run au (n+4) 966 [.ref A.g,.ref kd,dX (.neg (.lit v k))] H) Q E:=by
 refine aw (fi:=⟨["groups", "known", "e"],[],dM⟩) (l:=[("groups",.ref A.g),("known",.ref kd),("e",dX (.neg (.lit v k)))]) ?_;tb_rel;refine lV (n:=n+2) G u.lk (by omega) k λH1 G1 f1=>?_;tb_rel;refine⟨_,G1.NK,_,aU G1.ak (.inl rfl),?_⟩;tb_rel;refine G1.ask (by omega) ⟨.room,L.length,0-v⟩ λH2 G2 f2=>?_;tb_rel;have u':=u.new k;rw[Hj (v:=v)]at u';rw[<-u.la];exact q H2 u' (by rw[u.la];exact G2) (f1.trans f2)
theorem zm{x m:Nat}(c:Kn A H kd kn)(hx:kn[x]? = some m)(q:Q (.int m) H):W (run au (n+4) 966 [.ref A.g,.ref kd,dX (.gz x)] H) Q E:=by
 refine aw (fi:=⟨["groups", "known", "e"],[],dM⟩) (l:=[("groups",.ref A.g),("known",.ref kd),("e",dX (.gz x))]) ?_;tb_rel;refine⟨_,dO c.k (Cw c.le hx),?_⟩;tb_rel;exact q
theorem Ho{e:Ex}(hn:∀v k,e≠.lit v k)(h:W (run au (n+4) 966 [.ref A.g,.ref kd,dX e] H) (λv H1=>∃(m:Nat) (L1:List Nat) (zo:List (Option K)) (JM:List Ask) (iy:Bool),v=.int m∧Gr A H1 L1 zo JM iy∧JM.length<=100000∧∀H2,Gr A H2 L1 zo (JM++[⟨.sign,m,0⟩]) iy->Fr (MG A) H1 H2->Q (.int m) H2) E):
  W (run au (n+5) 966 [.ref A.g,.ref kd,dX (.neg e)] H) Q E:=by
 refine aw (fi:=⟨["groups", "known", "e"],[],dM⟩) (l:=[("groups",.ref A.g),("known",.ref kd),("e",dX (.neg e))]) ?_;refine aI (u0 hn H) λs h1 h2=>?_;tb_rel;refine⟨_,h1,?_⟩;tb_rel;refine bu h2 ?_;tb_rel;refine jf h (λv H1 z=>?_) λc H1 z=>?_
 ·refine LB z ?_;clear z;intro m L1 zo JM iy UX G1 hl z
  subst UX;tb_rel;refine⟨_,G1.NK,_,aU G1.ak (.inl rfl),?_⟩;tb_rel;refine G1.ask hl ⟨.sign,m,0⟩ λH2 G2 f2=>?_;tb_rel;exact z H2 G2 f2
 ·tb_rel;exact z
theorem D5{e:Ex}{k:K}(h:W (run au (n+4) 966 [.ref A.g,.ref kd,dX e] H) (λv H1=>∃(m:Nat) (L1:List Nat) (zo:List (Option K)) (JM:List Ask) (iy:Bool),v=.int m∧Gr A H1 L1 zo JM iy∧JM.length<=100000∧zo.length=L1.length∧L1.length<=99998∧∀H2,Gr A H2 (L1++[L1.length]) (zo++[some k]) (JM++[⟨.cast,m,0⟩]) iy->Fr (MG A) H1 H2->Q (.int L1.length) H2) E)(G:Gr A H L KS as bo):
  W (run au (n+5) 966 [.ref A.g,.ref kd,dX (.cast k e)] H) Q E:=by
 refine aw (fi:=⟨["groups", "known", "e"],[],dM⟩) (l:=[("groups",.ref A.g),("known",.ref kd),("e",dX (.cast k e))]) ?_;tb_rel;refine⟨_,G.NK,_,aU G.ak (.inl rfl),?_⟩;tb_rel;refine jf h (λv H1 z=>?_) λc H1 z=>?_
 ·obtain⟨m,L1,zo,JM,iy,rfl,G1,hl,h2,h3,z⟩:=z
  tb_rel;refine G1.ask hl ⟨.cast,m,0⟩ λH2 G2 f2=>?_;tb_rel;refine lV (n:=n+3) G2 h2 h3 (some k) λH3 G3 f3=>?_;tb_rel;exact z H3 G3 (f2.trans f3)
 ·tb_rel;exact z
end
noncomputable def NL:Op->Bool
 | .eq=>true
 |_=>false
section
variable{n:Nat}{A:Ga}{H:AH}{L:List Nat}{KS:List (Option K)}{as:List Ask}{bo:Bool}{Q:ae->AH->Prop}{E:Nat->AH->Prop}{kd:Nat}{kn:List Nat}{bj:List Ty}{j B:Nat}{EQ:(Nat->K)->Prop}{Γ:(Nat->K)->List K}{op:Op}{l r:Ex}
theorem NM{a:Nat}(h:H.get a=some (.list [.str "<",.str "=="])):bz .kg (.str (qF op)) (.ref a) H=some op.cmp:=by
 show isIn H (.str (qF op)) (.ref a)=_;exact in_list h (by cases op<;>rfl)
theorem Rr:bz .eq (.str (qF op)) (.str "==") H=some (NL op):=by cases op<;>rfl
theorem JN{F:dQ}{a:ae}{R:ek->Loc->AH->Prop}{lo:Loc}{x:Nat}(he:aJ "e" lo=some (dX (.bin op l r)))(ho:aJ "one" lo=some (.int x))(ht:op.cmp=true->∀H1,Fr No H H1->XE F (.call (.glob "_law_node" (.top 952)) [.loc "groups",.cst (.str "bool")]) lo H1 (λv H=>R (.ret v) lo H) (λc H=>R (.exc c) lo H))(hf:op.cmp=false->∀H1,Fr No H H1->R (.ret (.int x)) lo H1):
  XS F (.ret (.ite (.cmp (.sub (.loc "e") (.cst (.int 2))) .kg (.lst [.cst (.str "<"),.cst (.str "==")])) (.call (.glob "_law_node" (.top 952)) [.loc "groups",.cst (.str "bool")]) (.loc "one"))) lo H R:=by
 refine dh (iU (bK (bx (av he (ax ⟨_,rfl,hU (ai (ax (ai (ax (aD (bu (NM (aj _ _)) ?_)))))) ⟩)))));cases hc:op.cmp with
 |true=>exact .inl ⟨rfl,ht hc _ (.new _ _)⟩
 |false=>exact .inr ⟨rfl,av ho (hf hc _ (.new _ _))⟩
theorem Hp{dp:Nat}(ih:WalkAt dp)(ho:tv kn.length dp l∧tv kn.length dp r)(u:UF L KS bj j B bo EQ)(G:Gr A H L KS as bo)(c:Kn A H kd kn)(hk:∀x∈kn,x<bj.length)(vi:∀ν,EQ ν->Γ ν=kn.map (kJ bj ν))(hL:L.length+size (.bin op l r)<=1000)(hB:B+size (.bin op l r)<=1000)(ha:as.length+2*size (.bin op l r)<=3000)
  (q:∀H' L' D1 fh B' jC gR new node,UF L' D1 fh (j+cnt (.bin op l r)) B' jC gR->Gr A H' L' D1 (as++new) jC->Fr (MG A) H H'->L'.length<=L.length+size (.bin op l r)->B'<=B+size (.bin op l r)->new.length<=2*size (.bin op l r)->Wk EQ gR Γ bj fh new node j (.bin op l r)->Q (.int node) H'):
  W (run au (n+(dp+1)+4) 966 [.ref A.g,.ref kd,dX (.bin op l r)] H) Q E:=by
 simp only[cL,cM,cN,cO,cP,ij,ik,il,ip,iq,ir]at hL hB ha q;refine aw (fi:=⟨["groups", "known", "e"],[],dM⟩) (l:=[("groups",.ref A.g),("known",.ref kd),("e",dX (.bin op l r))]) ?_;tb_rel;refine ih l (n:=n) ho.1 u G c hk vi (by omega) (by omega) (by omega) λH1 L1 zo cR B1 iy qY jn n1 u1 G1 f1 l1 b1 a1 w1=>?_;tb_rel;have c1:=c.step f1;refine aV w1.ext λz1 h1=>?_;have MW:∀x∈kn,x<cR.length:=λx hx=>by rw[h1,List.length_append];exact Nat.lt_add_right _ (hk x hx)
 have UY:∀ν,qY ν->Γ ν=kn.map (kJ cR ν):=λν h=>by
  rw[vi ν ((w1.eq ν).mp h).1];exact List.map_congr_left λx hx=>by rw[h1,rD (hk x hx)]
 refine ih r (n:=n) ho.2 u1 G1 c1 MW UY (by omega) (by omega) (by simp;omega) λH2 L2 Lq dj B2 vj uk jo n2 u2 G2 f2 l2 b2 a2 w2=>?_;refine Eg (w1.two w2) λx1 x2 x3 x4 x5 x6=>?_;have UZ:=f1.trans f2;rw[List.append_assoc]at G2;refine aD ⟨_,rfl,?_⟩;refine aX (aC (j5 (eX (bx (av rfl (ax ⟨_,G2.NK,_,aU G2.ak (.inl rfl),ai (dE (ai (iU (bK (bx (av rfl (ax ⟨_,rfl,ax (bu (Rr (op:=op)) ?_)⟩)))))))⟩))))));have hw:∀{R:ae->AH->Prop}{E':Nat->AH->Prop}{lo:Loc},R (.str (wS (Od op))) H2->(ae.bool (NL op)=.bool true∧XE (run au (n+dp+4)) (.cst (.str "equal")) lo H2 R E'∨ae.bool (NL op)=.bool false∧XE (run au (n+dp+4)) (.cst (.str "number")) lo H2 R E'):=by
  intro R E' lo h;cases op
  case eq=>exact .inl ⟨rfl,ax h⟩
  all_goals exact .inr ⟨rfl,ax h⟩
 refine hw (ai (av rfl (ai (ax (aD (aD ?_))))));refine G2.ask (by simp;omega) ⟨Od op,n1,0⟩ λH3 G3 f3=>?_;refine aX (aC (eY (bK (bx (av rfl (ax ⟨_,rfl,ax ?_⟩))))))
 by_cases tY:op=.shl
 ·subst tY
  refine bu (r:=true) rfl (.inl ⟨rfl,?_⟩);refine aC (j5 (eX (bx (av rfl (ax ⟨_,G3.NK,_,aU G3.ak (.inl rfl),ai (dE (ai (ax (ai (av rfl (ai (ax (aD (aD ?_)))))))))⟩)))));refine G3.ask (by simp;omega) ⟨.number,n2,0⟩ λH4 G4 f4=>?_;refine aX (aC (dh (av rfl ?_)));refine q H4 L2 Lq dj B2 vj uk _ n1 (by rw[<-Nat.add_assoc];exact u2) ?_ ((UZ.trans f3).trans f4) (by omega) (by omega) ?_ (w1.shl w2)
  ·rw[show as++(jn++jo++[⟨.number,n1,0⟩]++[⟨.number,n2,0⟩])=as++(jn++jo)++[⟨.number,n1,0⟩]++[⟨.number,n2,0⟩] by simp]
   exact G4
  ·simp;omega
 ·refine bu (r:=false) (by cases op<;>first|rfl|exact absurd rfl tY) (.inr ⟨rfl,dm (aX ?_)⟩)
  refine aO (u2.hm n1 (by rw[<-u2.la];exact x3)) λk1 r1 U0 s1=>?_;refine aO (u2.hm n2 (by rw[<-u2.la];exact w2.lt)) λk2 r2 U1 s2=>?_;obtain⟨a,ka⟩:∃a,Lq[r1]? = some a:=⟨_,List.getElem?_eq_getElem (by rw[u2.lk];exact(List.getElem?_eq_some_iff.mp s1.end_).1)⟩
  obtain⟨b,kb⟩:∃b,Lq[r2]? = some b:=⟨_,List.getElem?_eq_getElem (by rw[u2.lk];exact(List.getElem?_eq_some_iff.mp s2.end_).1)⟩
  have e1:dj[n1]? = some (dj[n1]'x3):=List.getElem?_eq_getElem x3;have e2:dj[n2]? = some (dj[n2]'w2.lt):=List.getElem?_eq_getElem w2.lt;have u3:=(u2.same s1 s2 e1 e2 ka kb).weaken (Nat.le_refl _) (gR:=λν=>uk ν∧kJ dj ν n1=kJ dj ν n2) λν=>by rw[lW e1,lW e2]
  refine bk (w1.bin (op:=op) w2 tY (gR:=λν=>uk ν∧kJ dj ν n1=kJ dj ν n2) λν=>Iff.rfl) λy1 y2=>?_;refine aC (j5 (x_call (aT (ai (av rfl (ai (av rfl (ai (av rfl (aD ?_))))))))));refine zk (n:=n+dp+2) G3 u2.lk (by omega) s1 s2 (by omega) (by omega) ka kb λH4 G4 f4=>?_;refine aX (aC (JN (a:=.none) rfl rfl (λhc H5 f5=>?_) λhc H5 f5=>?_))
  ·refine x_call (aT (ai (av rfl (ai (ax (aD ?_))))))
   refine lV (n:=n+dp+3) (kind:=some .bool) (G4.no f5) u3.lk (by rw[List.length_set];omega) λH6 G6 f6=>?_;have u6:=u3.new (some .bool);rw[<-u3.la];refine q H6 _ _ _ _ _ _ _ _ (by rw[<-Nat.add_assoc];exact u6) ?_ ((((UZ.trans f3).trans f4).trans (f5.weaken λ_ z=>z.elim)).trans f6) (by simp;omega) (by omega) ?_ (y2 hc)
   ·rw[<-List.append_assoc];exact G6
   ·simp;omega
  ·refine q H5 _ _ _ _ _ _ _ _ (by rw[<-Nat.add_assoc];exact u3) ?_ (((UZ.trans f3).trans f4).trans (f5.weaken λ_ z=>z.elim)) (by simp;omega) (by omega) ?_ (y1 hc)
   ·rw[<-List.append_assoc];exact G4.no f5
   ·simp;omega
end
theorem walk_at:∀dp,WalkAt dp:=by
 intro dp;induction dp with
 |zero=>
  intro e n A H L KS as bo Q E kd kn bj j B EQ Γ ho u G c hk vi hL hB ha q;cases e with
  |lit v k=>exact zl u G (by simp only[cL,cM,cN,cO,cP]at hL;omega) (by simp only[cL,cM,cN,cO,cP]at ha;omega) λH1 u1 G1 f1 w=>q H1 _ _ _ B bo EQ _ _ u1 G1 f1 (by simp[cL,cM,cN,cO,cP]) (by omega) (by simp[cL,cM,cN,cO,cP]) w
  |gz x=>
   obtain⟨m,hm⟩:∃m,kn[x]? = some m:=⟨_,List.getElem?_eq_getElem ho⟩
   exact zm c hm (q H L KS bj B bo EQ [] m u (by simpa using G) .refl (by omega) (by omega) (by simp) (Wk.gz hm hk vi))
  |neg e=>exact ho.elim
  |cast k e=>exact ho.elim
  |bin op l r=>exact ho.elim
 |succ dp ih=>
  intro e n A H L KS as bo Q E kd kn bj j B EQ Γ ho u G c hk vi hL hB ha q;cases e with
  |lit v k=>exact zl (n:=n+(dp+1)) u G (by simp only[cL,cM,cN,cO,cP]at hL;omega) (by simp only[cL,cM,cN,cO,cP]at ha;omega) λH1 u1 G1 f1 w=>q H1 _ _ _ B bo EQ _ _ u1 G1 f1 (by simp[cL,cM,cN,cO,cP]) (by omega) (by simp[cL,cM,cN,cO,cP]) w
  |gz x=>
   obtain⟨m,hm⟩:∃m,kn[x]? = some m:=⟨_,List.getElem?_eq_getElem ho⟩
   exact zm (n:=n+(dp+1)) c hm (q H L KS bj B bo EQ [] m u (by simpa using G) .refl (by omega) (by omega) (by simp) (Wk.gz hm hk vi))
  |neg e=>
   simp only[cL,cM,cN,cO,cP]at hL hB ha q
   by_cases z:∃v k,e=.lit v k
   ·refine dA z ?_;clear z;intro v k U2
    subst U2;exact D4 (n:=n+(dp+1)) u G (by omega) (by omega) λH1 u1 G1 f1=>q H1 _ _ _ B bo EQ _ _ u1 G1 f1 (by simp) (by omega) (by simp;omega) Wk.UW
   ·have hn:∀v k,e≠.lit v k:=λv k h=>z ⟨v,k,h⟩
    refine Ho (n:=n+dp) hn (ih e (n:=n) ho u G c hk vi (by omega) (by omega) (by omega) λH1 L1 zo cR B1 iy qY jn n1 u1 G1 f1 l1 b1 a1 w1=>?_);exact⟨n1,L1,zo,_,iy,rfl,G1,by simp;omega,λH2 G2 f2=>q H2 L1 zo cR B1 iy qY _ n1 u1 (by rw[<-List.append_assoc];exact G2) (f1.trans f2) (by omega) (by omega) (by simp;omega) (w1.neg hn)⟩
  |cast k e=>
   simp only[cL,cM,cN,cO,cP]at hL hB ha q;refine D5 (n:=n+dp) (ih e (n:=n) ho.2 u G c hk vi (by omega) (by omega) (by omega) λH1 L1 zo cR B1 iy qY jn n1 u1 G1 f1 l1 b1 a1 w1=>?_) G;refine⟨n1,L1,zo,_,iy,rfl,G1,by simp;omega,u1.lk,by omega,λH2 G2 f2=>?_⟩;rw[<-u1.la];exact q H2 _ _ _ B1 iy qY _ _ (u1.new (some k)) (by rw[<-List.append_assoc];exact G2) (f1.trans f2) (by simp;omega) (by omega) (by simp;omega) w1.cast
  |bin op l r=>exact Hp (n:=n) ih ho u G c hk vi hL hB ha q
theorem NN{kn:List Nat}{m:Nat}(hl:kn.length<6):putK (.str (vS kn.length)) (.int m) (iE kn.length) (kn.map nI)=(iE (kn++[m]).length,(kn++[m]).map nI):=by
 rw[Ck hl (List.length_map _),List.length_append,List.map_append];rfl
structure Wr(EQ gR:(Nat->K)->Prop)(Γ:(Nat->K)->List K)(bj fh:List Ty)(new:List Ask)(kn Lr:List Nat)(j:Nat)(rs:List Row):Prop where
 ext:∃z,fh=bj++z
 eq:∀ν,gR ν↔EQ ν∧gA ν (Γ ν) j rs
 kl:∀x∈Lr,x<fh.length
 ty:∀ν,gR ν->sW ν (Γ ν) j rs=Lr.map (kJ fh ν)
 an:∀a∈new,a.n<fh.length
 asks:∀ν,gR ν->mE fh ν new=fC ν (Γ ν) j rs
 len:Lr.length=kn.length+rs.length
structure W1(EQ gR:(Nat->K)->Prop)(Γ:(Nat->K)->List K)(bj fh:List Ty)(new:List Ask)(node j:Nat)(r:Row):Prop where
 ext:∃z,fh=bj++z
 eq:∀ν,gR ν↔EQ ν∧qV ν (Γ ν) j r
 lt:node<fh.length
 ty:∀ν,gR ν->kJ fh ν node=nK ν (Γ ν) j r
 an:∀a∈new,a.n<fh.length
 asks:∀ν,gR ν->mE fh ν new=Mine.asks ν (Γ ν) j r.ex
section
variable{EQ qY uk gR:(Nat->K)->Prop}{Γ:(Nat->K)->List K}{bj cR dj z:List Ty}{new jn jo:List Ask}{n node j:Nat}{ν:Nat->K}{k:K}{ex:Ex}{r:Row}{rs:List Row}{kn WH:List Nat}
theorem W1.none(w:Wk EQ gR Γ bj cR new node j ex):W1 EQ gR Γ bj cR new node j ⟨none,ex⟩ where
 ext:=w.ext
 eq:=λν=>by rw[w.eq];simp[qV]
 lt:=w.lt
 ty:=w.ty
 an:=w.an
 asks:=w.asks
theorem W1.some(w:Wk EQ qY Γ bj cR new node j ex)(hq:∀ν,gR ν↔qY ν∧kJ (cR++[.con k]) ν node=kJ (cR++[.con k]) ν cR.length):W1 EQ gR Γ bj (cR++[.con k]) new node j ⟨some k,ex⟩:=by
 refine Ef (w.app (dj:=cR++[.con k]) rfl) λa b x y q=>?_;have BQ:∀ν,gR ν↔qY ν∧kJ (cR++[.con k]) ν node=k:=λν=>by rw[hq,iw];rfl
 have back:∀ν,gR ν->qY ν:=λν h=>((BQ ν).mp h).1;refine⟨a,λν=>?_,b,λν h=>((BQ ν).mp h).2,y,λν h=>q ν (back ν h)⟩;rw[BQ,qV];constructor
 ·rintro⟨h,e⟩
  have:=(w.eq ν).mp h;exact⟨this.1,this.2,λk' hk=>by cases hk;rw[<-x ν h];exact e⟩
 ·rintro⟨h,h1,h2⟩
  have:=(w.eq ν).mpr ⟨h,h1⟩;exact⟨this,by rw[x ν this];exact h2 k rfl⟩
theorem Wr.nil(hk:∀x∈kn,x<bj.length)(vi:∀ν,EQ ν->Γ ν=kn.map (kJ bj ν)):Wr EQ EQ Γ bj bj [] kn kn j [] where
 ext:=⟨[],by simp⟩
 eq:=λν=>⟨λh=>⟨h,trivial⟩,λh=>h.1⟩
 kl:=hk
 ty:=λν h=>vi ν h
 an:=λa h=>nomatch h
 asks:=λν _=>rfl
 len:=rfl
theorem W1.Zm(w:W1 EQ qY Γ bj cR jn node j r)(hk:∀x∈kn,x<bj.length)(vi:∀ν,EQ ν->Γ ν=kn.map (kJ bj ν)):(∀x∈kn++[node],x<cR.length)∧∀ν,qY ν->Γ ν++[nK ν (Γ ν) j r]=(kn++[node]).map (kJ cR ν):=by
 refine aV w.ext λz hz=>?_;constructor
 ·intro x hx
  refine dZ (List.mem_append.mp hx) (λh=>?_) λh=>?_
  ·rw[hz,List.length_append];exact Nat.lt_add_right _ (hk x h)
  ·cases List.mem_singleton.mp h;exact w.lt
 ·intro ν h
  rw[List.map_append,List.map_cons,List.map_nil,w.ty ν h,vi ν ((w.eq ν).mp h).1];congr 1;exact List.map_congr_left λx hx=>by rw[hz,rD (hk x hx)]
theorem Wr.cons(w1:W1 EQ qY Γ bj cR jn node j r)(w2:Wr qY uk (λν=>Γ ν++[nK ν (Γ ν) j r]) cR dj jo (kn++[node]) WH (j+cnt r.ex) rs):Wr EQ uk Γ bj dj (jn++jo) kn WH j (r::rs):=by
 refine aV w1.ext λz1 h1=>?_;refine aV w2.ext λz2 h2=>?_;have back:∀ν,uk ν->qY ν:=λν h=>((w2.eq ν).mp h).1;refine⟨⟨z1++z2,by rw[h2,h1,List.append_assoc]⟩,λν=>by rw[w2.eq,w1.eq,and_assoc];rfl,w2.kl,λν h=>w2.ty ν h,λa ha=>?_,λν h=>?_,by rw[w2.len];simp;omega⟩
 ·refine dZ (List.mem_append.mp ha) (λq=>?_) λq=>?_
  ·rw[h2,List.length_append];exact Nat.lt_add_right _ (w1.an a q)
  ·exact w2.an a q
 ·rw[dP,w2.asks ν h,h2,ti w1.an,w1.asks ν (back ν h)];rfl
end
noncomputable def Bq(ra g kd:Nat):Loc:=[("rows",.ref ra),("groups",.ref g),("known",.ref kd)]
noncomputable def WI(ra g kd:Nat)(l:Loc):Prop:=l=Bq ra g kd∨∃x y z w,l=Bq ra g kd++[("name",x),("told",y),("e",z),("node",w)]
noncomputable def pg:List bD:=[.asg "node" (.call (.glob "_law_walk" (.top 966)) [.loc "groups",.loc "known",.loc "e"]),
  .iff (.cmp (.loc "told") .eI (.cst (.none))) [.expr (.call (.glob "_law_same" (.top 959)) [.loc "groups",.loc "node",.call (.glob "_law_node" (.top 952)) [.loc "groups",.loc "told"]])] [],
  .gS (.loc "known") (.loc "name") (.loc "node")]
noncomputable def MD(A:Ga)(kd:Nat)(k:Nat):Prop:=MG A k∨k=kd
section
variable{n:Nat}{A:Ga}{ra kd:Nat}{R:ek->Loc->AH->Prop}{vs:List ae}
theorem Hq(U3:¬MD A kd ra):∀(rs:List Row) (k i:Nat) {H:AH}{lo:Loc}{L:List Nat}{KS:List (Option K)}{as:List Ask}{bo:Bool}{kn:List Nat}{bj:List Ty}{j B:Nat}{EQ:(Nat->K)->Prop}{Γ:(Nat->K)->List K},
  WI ra A.g kd lo->H.get ra=some (.list vs)->ra<H.next->vs.length=i+rs.length->(∀m r,rs[m]? = some r->vs[i+m]? = some (nM (i+m) r))->kn.length=i->i+rs.length<=6->o7 i rs->rs.length<=k->UF L KS bj j B bo EQ->Gr A H L KS as bo->Kn A H kd kn->(∀x∈kn,x<bj.length)->(∀ν,EQ ν->Γ ν=kn.map (kJ bj ν))->L.length+dF rs<=1000->B+dF rs<=1000->as.length+2*dF rs<=3000->
  (∀H' Hg L' D1 fh B' jC gR new Lr,WI ra A.g kd Hg->UF L' D1 fh (j+dS rs) B' jC gR->Gr A H' L' D1 (as++new) jC->Kn A H' kd Lr->Fr (MD A kd) H H'->L'.length<=1000->B'<=1000->(as++new).length<=3000->Wr EQ gR Γ bj fh new kn Lr j rs->R .next Hg H')->
  WS (jt (k+1) (oR (run au (n+6)) ["name", "told", "e"] pg) (.lst ra i) lo H) R:=by
 intro zz;induction zz with
 |nil=>
  intro k i H lo L KS as bo kn bj j B EQ Γ hl h1 zy hv hr hi h6 ok hk u G c Oe vi hL hB ha q;refine kF ?_ (q H lo L KS bj B bo EQ [] kn hl u (by simpa using G) c .refl (by omega) (by omega) (by simp;omega) (Wr.nil Oe vi));exact nG h1 (by simp at hv;omega)
 |cons r rs ih=>
  intro k i H lo L KS as bo kn bj j B EQ Γ hl h1 zy hv hr hi h6 ok hk u G c Oe vi hL hB ha q;simp only[List.length_cons,o8,o9,jk,jl]at hv hk hL hB ha h6 q;subst hi;obtain⟨k,rfl⟩:∃k',k=k'+1:=⟨k-1,by omega⟩
  have h0:=hr 0 r rfl;simp only[Nat.add_zero]at h0;refine ig (v:=nM kn.length r) (it':=.lst ra (kn.length+1)) (iV h1 h0) ?_;obtain⟨told,ex⟩:=r;refine bk ok ?_;clear ok;intro WJ Zn;dsimp only at WJ hL hB ha q;have next:∀{vh:Loc}{H2:AH} {L2 Lq dj B2 vj uk jo node},(∃z,vh=Bq ra A.g kd++[("name",.str (vS kn.length)),("told",fL told),("e",dX ex),("node",z)])->UF L2 Lq dj (j+cnt ex) B2 vj uk->Gr A H2 L2 Lq (as++jo) vj->Fr (MG A) H H2->L2.length<=L.length+size ex+1->B2<=B+size ex+1->jo.length<=2*size ex->W1 EQ uk Γ bj dj jo node j ⟨told,ex⟩->aJ "node" vh=some (.int node)->
    XB (run au (n+6)) [.gS (.loc "known") (.loc "name") (.loc "node")] vh H2 (yE (k+1) (oR (run au (n+6)) ["name", "told", "e"] pg) (.lst ra (kn.length+1)) R):=by
   intro vh H2 L2 Lq dj B2 vj uk jo node ⟨z,JC⟩ u2 G2 f2 l2 b2 a2 w hn;subst JC;have c2:=c.step f2;refine aC (nB (av hn (av rfl (av rfl ⟨_,oV c2.k (by simp[iE];omega),aX (dm ?_)⟩))));rw[NN (by omega)];have ne:∀x,MG A x->x≠kd:=λx hx z=>c.nm (z▸hx);have f3:Fr (MD A kd) H (H2.set kd (.dict (iE (kn++[node]).length) ((kn++[node]).map nI))):=(f2.weaken λ_ z=>.inl z).trans (Fr.set _ _ (.inr rfl));refine bk (w.Zm Oe vi) λy1 y2=>?_;have G3:Gr A (H2.set kd (.dict (iE (kn++[node]).length) ((kn++[node]).map nI))) L2 Lq (as++jo) vj:={
    g:=(aB _ _ (ne _ Rq)).trans G2.g
    lk:=(aB _ _ (ne _ Hh)).trans G2.lk
    kk:=(aB _ _ (ne _ Hi)).trans G2.kk
    ak:=(aB _ _ (ne _ Lp)).trans G2.ak
    lt:=G2.lt
    ne:=G2.ne }
   refine ih k (kn.length+1) (kn:=kn++[node]) (Γ:=λν=>Γ ν++[nK ν (Γ ν) j ⟨told,ex⟩]) (.inr ⟨_,_,_,_,rfl⟩) ((f3.2 _ zy U3).trans h1) (Nat.lt_of_lt_of_le zy f3.1) (by omega) (λm r' hm=>?_) (by simp) (by omega) Zn (by omega) u2 G3 ⟨aF _ _ _,c2.lt,c.nm,by simp;omega⟩ y1 y2 (by omega) (by omega) (by simp;omega) λH' Hg L' D1 fh B' jC gR new Lr Dj u' G' c' f' l' b' a' w'=>?_
   ·have:=hr (m+1) r' (by simpa using hm)
    rw[show kn.length+(m+1)=kn.length+1+m by omega]at this;exact this
   ·rw[List.append_assoc]at G' a'
    exact q H' Hg L' D1 fh B' jC gR _ Lr Dj (by rw[<-Nat.add_assoc];exact u') G' c' (f3.trans f') l' b' a' (Wr.cons w w')
  have body:∀vh,(vh=Bq ra A.g kd++[("name",.str (vS kn.length)),("told",fL told),("e",dX ex)]∨∃z,vh=Bq ra A.g kd++[("name",.str (vS kn.length)),("told",fL told),("e",dX ex),("node",z)])->XB (run au (n+6)) pg vh H (yE (k+1) (oR (run au (n+6)) ["name", "told", "e"] pg) (.lst ra (kn.length+1)) R):=by
   intro vh U4;have JH:aJ "groups" vh=some (.ref A.g)∧aJ "known" vh=some (.ref kd)∧aJ "e" vh=some (dX ex)∧∀x,(∃z,bc "node" x vh=Bq ra A.g kd++[("name",.str (vS kn.length)),("told",fL told),("e",dX ex),("node",z)])∧aJ "groups" (bc "node" x vh)=some (.ref A.g)∧aJ "node" (bc "node" x vh)=some x∧aJ "told" (bc "node" x vh)=some (fL told):=by
    rcases U4 with rfl|⟨z,rfl⟩<;>exact⟨rfl,rfl,rfl,λx=>⟨⟨x,rfl⟩,rfl,rfl,rfl⟩⟩
   refine gq JH ?_;clear JH;intro g1 g2 g3 g4;unfold pg;refine aC (dg (x_call (aT (ai (av g1 (ai (av g2 (ai (av g3 (aD ?_))))))))));refine walk_at 2 ex (n:=n) WJ u G c Oe vi (by omega) (by omega) (by omega) λH1 L1 zo cR B1 iy qY jn node u1 G1 f1 l1 b1 a1 w1=>?_;refine gq (g4 (.int node)) λg5 g6 g7 g8=>?_;refine aX (aC (eY (bK (av g8 (ax (bu (pX told) ?_))))));cases told with
   |none=>exact .inr ⟨rfl,dm (aX (next g5 u1 G1 f1 (by omega) (by omega) a1 (.none w1) g7))⟩
   |some kk=>
    refine .inl ⟨rfl,aC (j5 (x_call (aT (ai (av g6 (ai (av g7 (ai (x_call (aT (ai (av g6 (ai (av g8 (aD ?_)))))))))))))))⟩;refine lV (n:=n+5) G1 u1.lk (by omega) (some kk) λH2 G2 f2=>aD ?_;have u2:=u1.new (some kk);have hz:node<(cR++[HU (j+cnt ex) (some kk)]).length:=by rw[List.length_append];exact Nat.lt_add_right _ w1.lt
    have WK:L1.length<(cR++[HU (j+cnt ex) (some kk)]).length:=by rw[List.length_append,u1.la];exact Nat.lt_succ_self _
    refine aO (u2.hm node (by rw[<-u2.la];exact hz)) λk1 r1 U0 s1=>?_;refine aO (u2.hm L1.length (by rw[<-u2.la];exact WK)) λk2 r2 U1 s2=>?_;obtain⟨a,ka⟩:∃a,(zo++[some kk])[r1]? = some a:=⟨_,List.getElem?_eq_getElem (by rw[u2.lk];exact(List.getElem?_eq_some_iff.mp s1.end_).1)⟩
    obtain⟨b,kb⟩:∃b,(zo++[some kk])[r2]? = some b:=⟨_,List.getElem?_eq_getElem (by rw[u2.lk];exact(List.getElem?_eq_some_iff.mp s2.end_).1)⟩
    have e1:=List.getElem?_eq_getElem hz;have e2:=List.getElem?_eq_getElem WK;have u3:=(u2.same s1 s2 e1 e2 ka kb).weaken (Nat.le_refl _) (gR:=λν=>qY ν∧kJ (cR++[.con kk]) ν node=kJ (cR++[.con kk]) ν cR.length) λν=>by
     rw[show kJ (cR++[.con kk]) ν node=_ from lW e1,u1.la,show kJ (cR++[.con kk]) ν L1.length=_ from lW e2]
    refine zk (n:=n+4) G2 u2.lk (by simp;omega) s1 s2 (by omega) (by omega) ka kb λH3 G3 f3=>?_;refine aX (dm (aX ?_));exact next g5 u3 G3 ((f1.trans f2).trans f3) (by simp;omega) (by omega) a1 (.some w1 λν=>Iff.rfl) g7
  rcases hl with rfl|⟨x,y,z,w,rfl⟩
  ·exact body _ (.inl rfl)
  ·exact body _ (.inr ⟨_,rfl⟩)
end
section
theorem Hr{ν:Nat->K}{Γ:List K}{j:Nat}{e:Ex}(h:asks ν Γ j e=true)(i:Nat)(a:j<=i)(b:i<j+cnt e):ν i≠.bool:=by
 have lit:∀{v:Int},room (ν j) v=true->i<j+1->ν i≠.bool:=λ{v} h b z=>by
  obtain rfl:=Nat.le_antisymm a (Nat.le_of_lt_succ b);rw[z]at h;exact Bool.false_ne_true h
 have no:¬i<j+0:=Nat.not_lt.mpr a;induction e generalizing j with
 |lit v k=>cases k with
  |none=>exact lit h b
  |some k=>exact absurd b no
 |gz x=>exact absurd b no
 |neg e ih=>
  by_cases q:∃v k,e=.lit v k
  ·refine dA q ?_;clear q;intro v k U5
   subst U5;cases k with
   |none=>exact lit h b
   |some k=>exact absurd b no
  ·rw[jA λv k z=>q ⟨v,k,z⟩,Bool.and_eq_true]at h
   exact ih h.1 a b lit no
 |cast k e ih=>exact ih h a b lit no
 |bin op l r ih Ny=>
  rw[pU,Bool.and_eq_true,Bool.and_eq_true]at h
  by_cases q:i<j+cnt l
  ·exact ih h.1 a q lit no
  ·have q':=Nat.le_of_not_lt q
   exact Ny h.2.1 q' (Nat.lt_of_lt_of_eq b (Nat.add_assoc _ _ _).symm) (λh b z=>by
    obtain rfl:=Nat.le_antisymm q' (Nat.le_of_lt_succ b)
    rw[z]at h
    exact Bool.false_ne_true h) (Nat.not_lt.mpr q')
theorem Br{ν:Nat->K}:∀{rs:List Row}{Γ:List K}{j:Nat},fC ν Γ j rs=true->∀i,j<=i->i<j+dS rs->ν i≠.bool:=by
 intro zz;induction zz with
 |nil=>
  intro _ j h i a b;simp only[jk,jl]at b;omega
 |cons r rs ih=>
  intro Γ j h i a b;simp only[lS,lT,Bool.and_eq_true]at h;simp only[jk,jl]at b
  by_cases q:i<j+cnt r.ex
  ·exact Hr h.1 i a q
  ·exact ih h.2 i (by omega) (by omega)
open Classical in
noncomputable def Bs(L:List Nat)(KS:List (Option K))(n:Nat):Option K:=if h:∃k d r,Hm L d n r∧KS[r]? = some k then h.choose else none
noncomputable def qZ(L:List Nat)(KS:List (Option K))(n:Nat):K:=(Bs L KS n).getD .j6
theorem my{L:List Nat}{KS:List (Option K)}{n d r:Nat}{k:Option K}(h:Hm L d n r)(hk:KS[r]? = some k):Bs L KS n=k:=by
 have hh:∃k d r,Hm L d n r∧KS[r]? = some k:=⟨k,d,r,h,hk⟩
 unfold Bs;rw[dif_pos hh];refine aO hh.choose_spec λd' r' h' EW=>?_;rw[h'.uniq h,hk]at EW;cases EW;rfl
open Classical in
noncomputable def Cy(L:List Nat)(KS:List (Option K))(bj:List Ty)(i:Nat):K:=if h:∃n:Nat,bj[n]? = some (Ty.iv i)then qZ L KS h.choose else .j6
section
variable{L:List Nat}{KS:List (Option K)}{bj:List Ty}{m B:Nat}{bo:Bool}{EQ:(Nat->K)->Prop}{new:List Ask}{kn:List Nat}{rs:List Row}
theorem UF.Hs(u:UF L KS bj m B bo EQ){n i:Nat}(h:bj[n]? = some (.iv i)):Cy L KS bj i=qZ L KS n:=by
 have hh:∃n:Nat,bj[n]? = some (Ty.iv i):=⟨n,h⟩
 unfold Cy;rw[dif_pos hh,u.one _ _ i hh.choose_spec h]
theorem UF.root(u:UF L KS bj m B bo EQ){n:Nat}(h:n<bj.length):∃d r k,d<=B∧Hm L d n r∧KS[r]? = some k:=by
 refine aO (u.hm n (by rw[<-u.la];exact h)) λd r a s=>?_;exact⟨d,r,_,a,s,List.getElem?_eq_getElem (by rw[u.lk];exact(List.getElem?_eq_some_iff.mp s.end_).1)⟩
theorem UF.rE(u:UF L KS bj m B true EQ){n:Nat}(h:n<bj.length):kJ bj (Cy L KS bj) n=qZ L KS n:=by
 have e:=List.getElem?_eq_getElem h;rw[lW e];cases q:bj[n]'h with
 |con c=>
  rw[q]at e;refine ft (u.root h) λd r k _ s hk=>?_;unfold qZ;rw[my s (u.cons rfl n d r c s e)]
  rfl
 |iv i=>rw[q]at e;exact u.Hs e
theorem UF.JO(u:UF L KS bj m B true EQ):EQ (Cy L KS bj):=by
 refine(u.wG rfl _).mpr λn d r t t' s ht nP=>?_;have h1:=u.rE (List.getElem?_eq_some_iff.mp ht).1;have h2:=u.rE (List.getElem?_eq_some_iff.mp nP).1;rw[lW ht]at h1;rw[lW nP]at h2;rw[h1,h2];refine ft (u.root (List.getElem?_eq_some_iff.mp ht).1) λd' r' k _ s' hk=>?_;have:=s'.uniq s;subst this;unfold qZ;rw[my s hk,my (.root s.end_) hk]
theorem UF.Ht(u:UF L KS bj m B true EQ){i:Nat}(h:i<m):Cy L KS bj i=.j6∨∀ν,EQ ν->ν i=Cy L KS bj i:=by
 refine aV ((u.lit i).mpr h) λn hn=>?_;refine ft (u.root (List.getElem?_eq_some_iff.mp hn).1) λd r k _ s hk=>?_;rw[u.Hs hn];unfold qZ;rw[my s hk];cases k with
 |none=>exact .inl rfl
 |some c=>
  right
  intro ν fb;refine u.at_ s λt ht=>?_;have h1:=u.gJ rfl fb s hn ht;rw[u.kind rfl fb hk s.end_ ht]at h1;exact h1
theorem Hu(u:UF L KS bj m B true EQ):∀{new:List Ask},(∀a∈new,a.n<bj.length)->mE bj (Cy L KS bj) new=new.all λa=>eB a.w (qZ L KS a.n) a.v:=by
 intro zz;induction zz with
 |nil=>
  intro _;exact rfl
 |cons a as ih=>
  intro h;show(eB a.w (kJ bj (Cy L KS bj) a.n) a.v&&mE bj (Cy L KS bj) as)=(eB a.w (qZ L KS a.n) a.v&&as.all λa=>eB a.w (qZ L KS a.n) a.v);rw[ih λb hb=>h b (.tail _ hb),u.rE (h a (.head _))]
theorem Hv(u:UF L KS bj (0+dS rs) B bo EQ)(w:Wr (λ_=>True) EQ (λ_=>[]) [] bj new [] kn 0 rs):
  Spec rs (if(new.all λa=>eB a.w (qZ L KS a.n) a.v)=true then if bo=true then some (kn.map (qZ L KS))else none else none):=by
 have back:∀ν,gA ν [] 0 rs->EQ ν:=λν h=>(w.eq ν).mpr ⟨trivial,h⟩;cases bo with
 |false=>
  refine .inl ⟨λν _ h=>u.bad rfl ν (back ν h),?_⟩;split<;>rfl
 |true=>
  have S:=u.JO;have a1:=w.asks _ S;rw[Hu u w.an]at a1;have g1:=w.ty _ S;have g2:kn.map (qZ L KS)=sW (Cy L KS bj) [] 0 rs:=by
   rw[g1];exact List.map_congr_left λx hx=>(u.rE (w.kl x hx)).symm
  by_cases hb:∀i,Cy L KS bj i≠.bool
  ·refine .inr ⟨Cy L KS bj,⟨hb,((w.eq _).mp S).2,λj hj=>?_⟩,?_⟩
   ·refine dZ (u.Ht (i:=j) (by omega)) (λh=>?_) λh=>?_
    ·exact .inl h
    ·exact .inr λν _ he=>h ν (back ν he)
   ·rw[a1,g2,if_pos rfl]
  ·refine aV (Classical.not_forall.mp hb) λi hi=>?_
   have hi:Cy L KS bj i=.bool:=Classical.not_not.mp hi;have WL:i<0+dS rs:=by
    refine(u.lit i).mp (Classical.byContradiction λh=>?_);unfold Cy at hi;rw[dif_neg h]at hi;cases hi
   left
   constructor
   ·intro ν fb he
    refine dZ (u.Ht WL) (λh=>?_) λh=>?_
    ·rw[h]at hi;cases hi
    ·exact fb i ((h ν (back ν he)).trans hi)
   ·rw[if_neg]
    rw[a1];exact λh=>Br h i (Nat.zero_le _) WL hi
end
end
theorem cE{x:String}{v:ae}:∀{l:Loc},aJ x (bc x v l)=some v:=by
 intro zz;induction zz with
 |nil=>
  exact if_pos rfl
 |cons b0 r ih=>
  obtain⟨y,w⟩:=b0
  by_cases h:x=y
  ·rw[rJ,if_pos h,gV,if_pos h]
  ·rw[rJ,if_neg h,gV,if_neg h,ih]
theorem cH{x y:String}{v:ae}(n:x≠y):∀{l:Loc},aJ x (bc y v l)=aJ x l:=by
 intro zz;induction zz with
 |nil=>
  exact if_neg n
 |cons b0 r ih=>
  obtain⟨z,w⟩:=b0
  by_cases h:y=z
  ·rw[rJ,if_pos h,gV,gV,if_neg (h▸n),if_neg (h▸n)]
  ·by_cases h2:x=z
   ·rw[rJ,if_neg h,gV,gV,if_pos h2,if_pos h2]
   ·rw[rJ,if_neg h,gV,gV,if_neg h2,if_neg h2,ih]
section
variable{n:Nat}{H:AH}{Q:ae->AH->Prop}{E:Nat->AH->Prop}{R:ek->Loc->AH->Prop}{l lo:Loc}{F:dQ}{w:Wd}{k:K}{v:Int}
theorem rF{s t:String}{b:Int}(h:Oq s=some t)(hb:eK F (.bi (.type "int")) [.str t] H=ok (.int b) H)(e:aJ "kind" l=some (.str s))(q:Q (.int b) H):XE F (.call (.glob "int" (.bi (.type "int"))) [.iZ (.loc "kind") 1]) l H Q E:=by
 refine x_call (aT (ai (hV (av e ?_))));refine bY (v:=ae.str t) (H:=H) ?_ (aD (bY hb q));show(if 1=1 then fM (Oq s) λx=>ok (ae.str x) H else none)=_;rw[if_pos rfl,h]
 rfl
theorem wJ{lo hi:Int}{a c:aZ}(eb:aJ "value" l=some (.int v))(ea:∀{Q':ae->AH->Prop}{E':Nat->AH->Prop},Q' (.int lo) H->XE F a l H Q' E')(ec:∀{Q':ae->AH->Prop}{E':Nat->AH->Prop},Q' (.int hi) H->XE F c l H Q' E')(h:room k v=(decide (lo<=v)&&decide (v<hi)))(q:Q (.bool (room k v)) H):XE F (.qL a .le (.loc "value") .lt c) l H Q E:=by
 refine Gi (ea (av eb ⟨_,rfl,?_⟩));split
 ·rename_i hq
  refine ec ⟨_,rfl,?_⟩;rw[h,hq,Bool.true_and]at q;exact q
 ·rename_i hq
  rw[h,Bool.eq_false_iff.mpr hq,Bool.false_and]at q;exact q
theorem Hw(hk:k≠.bool)(q:Q (.bool (room k v)) H):W (run au (n+1) 973 [.str (kS k),.int v] H) Q E:=by
 refine aw (fi:=⟨["kind", "value"],[],qB⟩) (l:=[("kind",.str (kS k)),("value",.int v)]) ?_;cases k with
 |bool=>exact absurd rfl hk
 |i8=>
  refine aC (dg (rF (t := "8") (b:=8) (by rfl) (by rfl) rfl (aC (dh (iU (bK (bx (av rfl (ax ⟨_,rfl,ax (bu (r:=true) rfl (.inl ⟨rfl,?_⟩))⟩)))))))));refine wJ rfl (λh=>bI (ax (bI (ax (bI (av rfl (ax ⟨_,_,rfl,⟨_,_,rfl,⟨_,_,rfl,h⟩⟩⟩))))))) (λh=>bI (ax (bI (av rfl (ax ⟨_,_,rfl,⟨_,_,rfl,h⟩⟩))))) ?_ q;show(decide (-128<=v)&&decide (v<=127))=(decide (-128<=v)&&decide (v<128));rw[decide_eq_decide.mpr (show v<=127↔v<128 by omega)]
 |j6=>
  refine aC (dg (rF (t := "32") (b:=32) (by rfl) (by rfl) rfl (aC (dh (iU (bK (bx (av rfl (ax ⟨_,rfl,ax (bu (r:=true) rfl (.inl ⟨rfl,?_⟩))⟩)))))))));refine wJ rfl (λh=>bI (ax (bI (ax (bI (av rfl (ax ⟨_,_,rfl,⟨_,_,rfl,⟨_,_,rfl,h⟩⟩⟩))))))) (λh=>bI (ax (bI (av rfl (ax ⟨_,_,rfl,⟨_,_,rfl,h⟩⟩))))) ?_ q;show(decide (-2147483648<=v)&&decide (v<=2147483647))=(decide (-2147483648<=v)&&decide (v<2147483648));rw[decide_eq_decide.mpr (show v<=2147483647↔v<2147483648 by omega)]
 |K4=>
  refine aC (dg (rF (t := "64") (b:=64) (by rfl) (by rfl) rfl (aC (dh (iU (bK (bx (av rfl (ax ⟨_,rfl,ax (bu (r:=true) rfl (.inl ⟨rfl,?_⟩))⟩)))))))));refine wJ rfl (λh=>bI (ax (bI (ax (bI (av rfl (ax ⟨_,_,rfl,⟨_,_,rfl,⟨_,_,rfl,h⟩⟩⟩))))))) (λh=>bI (ax (bI (av rfl (ax ⟨_,_,rfl,⟨_,_,rfl,h⟩⟩))))) ?_ q;show(decide (-9223372036854775808<=v)&&decide (v<=9223372036854775807))=(decide (-9223372036854775808<=v)&&decide (v<9223372036854775808));rw[decide_eq_decide.mpr (show v<=9223372036854775807↔v<9223372036854775808 by omega)]
 |u8=>
  refine aC (dg (rF (t := "8") (b:=8) (by rfl) (by rfl) rfl (aC (dh (iU (bK (bx (av rfl (ax ⟨_,rfl,ax (bu (r:=false) rfl (.inr ⟨rfl,?_⟩))⟩)))))))));refine wJ rfl (λh=>ax h) (λh=>bI (ax (av rfl ⟨_,_,rfl,h⟩))) ?_ q;show(decide (0<=v)&&decide (v<=255))=(decide (0<=v)&&decide (v<256));rw[decide_eq_decide.mpr (show v<=255↔v<256 by omega)]
end
noncomputable def Sk:Wd->Bool
 | .number | .sign | .room=>true
 |_=>false
noncomputable def U6:Wd->Bool
 | .sign=>true
 |_=>false
noncomputable def Sl:Wd->Bool
 | .room=>true
 |_=>false
noncomputable def kB:K->Bool
 | .bool=>true
 |_=>false
noncomputable def kU:K->Bool
 | .u8=>true
 |_=>false
theorem NO(w:Wd)(k:K)(v:Int):eB w k v=(!((Sk w&&kB k) || (U6 w&&kU k))&&!(Sl w&&!room k v)):=by
 cases w with
 |room=>
  show room k v=(!((true&&kB k) || (false&&kU k))&&!(true&&!room k v));cases k<;>first|rfl|exact(Bool.not_not _).symm
 |_=>cases k<;>rfl
section
variable{n:Nat}{H:AH}{Q:ae->AH->Prop}{E:Nat->AH->Prop}{R:ek->Loc->AH->Prop}{l:Loc}{F:dQ}{w:Wd}{k:K}{v:Int}
theorem in_words{a:Nat}(h:H.get a=some (.list [.str "number",.str "sign",.str "room"])):bz .kg (.str (wS w)) (.ref a) H=some (Sk w):=by
 show isIn H (.str (wS w)) (.ref a)=_;exact in_list h (by cases w<;>rfl)
theorem tj{b:Bool}{P1 P2:Prop}(ht:b=true->P1)(hf:b=false->P2):ae.bool b=.bool true∧P1∨ae.bool b=.bool false∧P2:=by
 cases b with
 |true=>exact .inl ⟨rfl,ht rfl⟩
 |false=>exact .inr ⟨rfl,hf rfl⟩
theorem Cz{b:Bool}{P1 P2:Prop}(ht:b=true->P1)(hf:b=false->P2):ae.bool b=.bool false∧P2∨ae.bool b=.bool true∧P1:=(tj ht hf).symm
theorem Rt(hw:aJ "word" l=some (.str (wS w)))(hk:aJ "kind" l=some (.str (kS k)))(q:∀H',Fr No H H'->Q (.bool ((Sk w&&kB k) || (U6 w&&kU k))) H'):
  XE F (.or [.and [.cmp (.loc "word") .kg (.lst [.cst (.str "number"),.cst (.str "sign"),.cst (.str "room")]),.cmp (.loc "kind") .eq (.cst (.str "bool"))],.and [.cmp (.loc "word") .eq (.cst (.str "sign")),.cmp (.sub (.loc "kind") (.cst (.int 0))) .eq (.cst (.str "u"))]]) l H Q E:=by
 have f:Fr No H (H.new (.list [.str "number",.str "sign",.str "room"])):=.new _ _;have two:∀{H'},Fr No H H'->(Sk w&&kB k)=false->XE F (.or [.and [.cmp (.loc "word") .eq (.cst (.str "sign")),.cmp (.sub (.loc "kind") (.cst (.int 0))) .eq (.cst (.str "u"))]]) l H' Q E:=by
  intro H' f' h;refine Cd (oO (bK (av hw (ax (bu (r:=U6 w) (by cases w<;>rfl) (Cz (λh1=>?_) λh1=>?_))))))
  ·refine lM (bK (bx (av hk (ax ⟨.str ((kS k).toList.head!.toString),by cases k<;>rfl,ax (bu (r:=kU k) (by cases k<;>rfl) ?_)⟩))))
   have:=q H' f'
   rwa [h,h1,Bool.false_or,Bool.true_and]at this
  ·have:=q H' f'
   rwa [h,h1,Bool.false_or,Bool.false_and]at this
 refine Jn (oO (bK (av hw (hU (ai (ax (ai (ax (ai (ax (aD (bu (in_words (aj _ _)) (Cz (λh1=>?_) λh1=>?_)))))))))))))
 ·refine lM (bK (av hk (ax (bu (r:=kB k) (by cases k<;>rfl) (tj (λh2=>?_) λh2=>?_)))))
  ·have:=q _ f
   rwa [h1,h2,Bool.true_and,Bool.true_or]at this
  ·exact two f (by rw[h1,h2];rfl)
 ·exact .inr ⟨rfl,two f (by rw[h1];rfl)⟩
theorem Ru(hw:aJ "word" l=some (.str (wS w)))(hk:aJ "kind" l=some (.str (kS k)))(hv:aJ "value" l=some (.int v))(hb:Sl w=true->k≠.bool)(q:Q (.bool (Sl w&&!room k v)) H):
  XE (run au (n+1)) (.and [.cmp (.loc "word") .eq (.cst (.str "room")),.not (.call (.glob "_law_room" (.top 973)) [.loc "kind",.loc "value"])]) l H Q E:=by
 refine oO (bK (av hw (ax (bu (r:=Sl w) (by cases w<;>rfl) (Cz (λh1=>?_) λh1=>?_)))))
 ·refine lM (Gj (x_call (aT (ai (av hk (ai (av hv (aD ?_))))))))
  refine Hw (n:=n) (hb h1) ⟨_,rfl,?_⟩
  rwa [h1,Bool.true_and]at q
 ·rwa [h1,Bool.false_and]at q
noncomputable def rG:List bD:=[.asg "kind" (.sub (.sub (.loc "groups") (.cst (.str "kinds"))) (.call (.glob "_law_home" (.top 945)) [.loc "groups",.loc "node"])),
  .asg "kind" (.ite (.cmp (.loc "kind") .is (.cst (.none))) (.cst (.str "i32")) (.loc "kind")),
  .iff (.or [.and [.cmp (.loc "word") .kg (.lst [.cst (.str "number"),.cst (.str "sign"),.cst (.str "room")]),.cmp (.loc "kind") .eq (.cst (.str "bool"))],.and [.cmp (.loc "word") .eq (.cst (.str "sign")),.cmp (.sub (.loc "kind") (.cst (.int 0))) .eq (.cst (.str "u"))]]) [.ret (.cst (.none))] [],
  .iff (.and [.cmp (.loc "word") .eq (.cst (.str "room")),.not (.call (.glob "_law_room" (.top 973)) [.loc "kind",.loc "value"])]) [.ret (.cst (.none))] []]
noncomputable def Hx(ra g kd:Nat)(l:Loc):Prop:=aJ "groups" l=some (.ref g)∧aJ "known" l=some (.ref kd)∧aJ "rows" l=some (.ref ra)
theorem Hx.set{ra g kd:Nat}(h:Hx ra g kd l){x:String}{v:ae}(h1 : "groups" ≠ x)(h2 : "known" ≠ x)(h3 : "rows" ≠ x):Hx ra g kd (bc x v l):=⟨(cH h1).trans h.1,(cH h2).trans h.2.1,(cH h3).trans h.2.2⟩
end
section
variable{n:Nat}{A:Ga}{L:List Nat}{KS:List (Option K)}{all:List Ask}{bo:Bool}{R:ek->Loc->AH->Prop}{bj:List Ty}{m B:Nat}{EQ:(Nat->K)->Prop}{ra kd:Nat}
theorem Hy(u:UF L KS bj m B bo EQ)(hL:L.length<=1000)(hB:B<=1000):∀(as:List Ask) (k i:Nat) {H:AH}{l:Loc},Hx ra A.g kd l->Gr A H L KS all bo->all.length=i+as.length->(∀m a,as[m]? = some a->all[i+m]? = some a)->(∀a∈as,a.n<bj.length)->as.length<=k->
  ((as.all λa=>eB a.w (qZ L KS a.n) a.v)=true->∀H' l',Hx ra A.g kd l'->Fr No H H'->R .next l' H')->((as.all λa=>eB a.w (qZ L KS a.n) a.v)=false->∀H' l',Fr No H H'->R (.ret .none) l' H')->
  WS (jt (k+1) (oR (run au (n+2)) ["word", "node", "value"] rG) (.lst A.ak i) l H) R:=by
 intro zz;induction zz with
 |nil=>
  intro k i H l hl G ha hg hn hk q q';refine kF ?_ (q rfl H l hl .refl);exact nG G.ak (by simp at ha ⊢;omega)
 |cons a as ih=>
  intro k i H l hl G ha hg hn hk q q';simp only[List.length_cons]at ha hk;obtain⟨k,rfl⟩:∃k',k=k'+1:=⟨k-1,by omega⟩
  have h0:=hg 0 a rfl;simp only[Nat.add_zero]at h0;refine ig (v:=Bp a) (it':=.lst A.ak (i+1)) (iV G.ak (by rw[List.getElem?_map,h0];rfl)) ?_;obtain⟨w,nd,v⟩:=a;show WS (execs au (run au (n+2)) rG (bc "value" (.int v) (bc "node" (.int nd) (bc "word" (.str (wS w)) l))) H) _;have zw:Hx ra A.g kd (bc "value" (.int v) (bc "node" (.int nd) (bc "word" (.str (wS w)) l))):=((hl.set (by decide) (by decide) (by decide)).set (by decide) (by decide) (by decide)).set (by decide) (by decide) (by decide);have e1:aJ "node" (bc "value" (.int v) (bc "node" (.int nd) (bc "word" (.str (wS w)) l)))=some (.int nd):=(cH (by decide)).trans cE;have e2:aJ "word" (bc "value" (.int v) (bc "node" (.int nd) (bc "word" (.str (wS w)) l)))=some (.str (wS w)):=(cH (by decide)).trans ((cH (by decide)).trans cE);have e3:aJ "value" (bc "value" (.int v) (bc "node" (.int nd) (bc "word" (.str (wS w)) l)))=some (.int v):=cE;generalize bc "value" (.int v) (bc "node" (.int nd) (bc "word" (.str (wS w)) l))=l2 at *;refine ft (u.root (hn _ (.head _))) λd r ko hd s Rv=>?_;have U7:qZ L KS nd=ko.getD .j6:=by unfold qZ;rw[my s Rv]
  unfold rG;refine aC (dg (bx (bx (av zw.1 (ax ⟨_,G.NJ,x_call (aT (ai (av zw.1 (ai (av e1 (aD ?_)))))) ⟩)))));refine pf (n:=n+1) G (by omega) s (by omega) ⟨_,G.kind Rv (by rw[u.lk];omega),?_⟩;have U8:Hx ra A.g kd (bc "kind" (.str (kS (ko.getD .j6))) (bc "kind" (fL ko) l2)):=(zw.set (by decide) (by decide) (by decide)).set (by decide) (by decide) (by decide);have e4:aJ "kind" (bc "kind" (.str (kS (ko.getD .j6))) (bc "kind" (fL ko) l2))=some (.str (kS (ko.getD .j6))):=cE;have e5:aJ "word" (bc "kind" (.str (kS (ko.getD .j6))) (bc "kind" (fL ko) l2))=some (.str (wS w)):=(cH (by decide)).trans ((cH (by decide)).trans e2);have e6:aJ "value" (bc "kind" (.str (kS (ko.getD .j6))) (bc "kind" (fL ko) l2))=some (.int v):=(cH (by decide)).trans ((cH (by decide)).trans e3);have rest:XB (run au (n+2)) [.iff (.or [.and [.cmp (.loc "word") .kg (.lst [.cst (.str "number"),.cst (.str "sign"),.cst (.str "room")]),.cmp (.loc "kind") .eq (.cst (.str "bool"))],.and [.cmp (.loc "word") .eq (.cst (.str "sign")),.cmp (.sub (.loc "kind") (.cst (.int 0))) .eq (.cst (.str "u"))]]) [.ret (.cst (.none))] [],
    .iff (.and [.cmp (.loc "word") .eq (.cst (.str "room")),.not (.call (.glob "_law_room" (.top 973)) [.loc "kind",.loc "value"])]) [.ret (.cst (.none))] []] (bc "kind" (.str (kS (ko.getD .j6))) (bc "kind" (fL ko) l2)) H (yE (k+1) (oR (run au (n+2)) ["word", "node", "value"] rG) (.lst A.ak (i+1)) R):=by
   generalize bc "kind" (.str (kS (ko.getD .j6))) (bc "kind" (fL ko) l2)=l3 at *;rw[<-U7]at e4;have heq:=NO w (qZ L KS nd) v;have no:eB w (qZ L KS nd) v=false->((⟨w,nd,v⟩::as:List Ask).all λa=>eB a.w (qZ L KS a.n) a.v)=false:=λh=>by
    show(eB w (qZ L KS nd) v&&_)=false;rw[h];rfl
   refine aC (eY (Rt e5 e4 λH1 f1=>tj (λh1=>?_) λh1=>?_))
   ·exact aC (dh (ax (q' (no (by rw[heq,h1];rfl)) _ _ f1)))
   ·refine dm (aX (aC (eY (Ru (n:=n+1) e5 e4 e6 (λhr hb=>?_) (tj (λh2=>?_) λh2=>?_)))))
    ·rw[hb]at h1
     cases w<;>first|(cases hr;done)|cases h1
    ·exact aC (dh (ax (q' (no (by rw[heq,h1,h2];rfl)) _ _ f1)))
    ·have yes:eB w (qZ L KS nd) v=true:=by rw[heq,h1,h2];rfl
     have Rw:((⟨w,nd,v⟩::as:List Ask).all λa=>eB a.w (qZ L KS a.n) a.v)=as.all λa=>eB a.w (qZ L KS a.n) a.v:=by
      show(eB w (qZ L KS nd) v&&_)=_;rw[yes,Bool.true_and]
     rw[Rw]at q q';refine dm (aX (dm ?_));refine ih k (i+1) U8 (G.no f1) (by omega) (λm' a hm=>?_) (λa h=>hn a (.tail _ h)) (by omega) (λh H' l' Dj f'=>q h H' l' Dj (f1.trans f')) λh H' l' f'=>q' h H' l' (f1.trans f');have:=hg (m'+1) a (by simpa using hm);rw[show i+(m'+1)=i+1+m' by omega]at this;exact this
  refine aX (aC (dg (iU (bK (av cE (ax (bu (is_none ko) ?_)))))));cases ko with
  |none=>exact .inl ⟨rfl,ax (aX rest)⟩
  |some kk=>exact .inr ⟨rfl,av cE (aX rest)⟩
end
section
variable{n:Nat}{H:AH}{Q:ae->AH->Prop}{E:Nat->AH->Prop}{l:Loc}{F:dQ}
theorem get_dict{a:Nat}{ks vs:List ae}{k d:ae}(h:H.get a=some (.dict ks vs))(hk:isKey k=true)(q:Q ((bN k ks vs).getD d) H):W (callC F (.jI (.ref a) "get") [k,d] H) Q E:=by
 show W (pq (H.get a) _ (λks vs=>l2 [k,d] λk d=>if "get" = "get" ∧ isKey k then ok ((bN k ks vs).getD d) H else none)) Q E;rw[Gp h];exact lL ⟨rfl,hk⟩ q
theorem zp{a:Nat}{ks vs:List ae}(h:H.get a=some (.dict ks vs)):eC au (.ref a) "get" H=some (.jI (.ref a) "get"):=by
 unfold eC;dsimp only;rw[h]
 rfl
theorem Hz(k:Option K)(hk:aJ "kind" l=some (fL k))(q:∀H',Fr No H H'->Q (jB (k.getD .j6)) H'):XE F (.aE (.lY [.str "bool",.none] [.tup [.cst (.str "bool")],.tup [.cst (.str "int"),.cst (.str "i32")]]) "get" [.loc "kind",.tup [.cst (.str "int"),.loc "kind"]]) l H Q E:=by
 refine eX (Cc (ai (dE (ai (ax (aD (ai (dE (ai (ax (ai (ax (aD (aD ⟨_,zp (aj _ _),ai (av hk (ai (dE (ai (ax (ai (av hk (aD (aD ?_)))))))) )⟩))))))))))))));refine get_dict (aj _ _) (by cases k with|none=>rfl|some k=>rfl) ?_;have:=q _ (.new H (.dict [.str "bool",.none] [.tup [.str "bool"],.tup [.str "int",.str "i32"]]));cases k with
 |none=>exact this
 |some k=>cases k<;>exact this
end
section
variable{n:Nat}{A:Ga}{L:List Nat}{KS:List (Option K)}{all:List Ask}{bo:Bool}{Q:ae->AH->Prop}{E:Nat->AH->Prop}{bj:List Ty}{m B:Nat}{EQ:(Nat->K)->Prop}{ra kd:Nat}{l:Loc}{kn:List Nat}{vs:List ae}
theorem Bt{H0:AH}{c:Nat}(u:UF L KS bj m B bo EQ)(hL:L.length<=1000)(hB:B<=1000)(hl:Hx ra A.g kd l)(G:Gr A H0 L KS all bo)(K0:Kn A H0 kd kn)(hc:H0.next<=c)(hr:H0.get ra=some (.list vs))(zy:ra<H0.next)(Oe:∀x∈kn,x<bj.length):
  ∀(rs:List Row) (i k:Nat) (acc:List ae) (H:AH),i+rs.length=kn.length->vs.length=kn.length->(∀m r,rs[m]? = some r->vs[i+m]? = some (nM (i+m) r))->Fr No H0 H->H.get c=some (.list acc)->c<H.next->rs.length<=k->acc=(kn.take i).map (λx=>fL (Bs L KS x))->
  (∀H',Fr No H0 H'->H'.get c=some (.list (kn.map λx=>fL (Bs L KS x)))->c<H'.next->Q (.ref c) H')->
  W (eO (k+1) (yC (run au (n+1)) (.sub (.sub (.loc "groups") (.cst (.str "kinds"))) (.call (.glob "_law_home" (.top 945)) [.loc "groups",.sub (.loc "known") (.sub (.loc "row") (.cst (.int 0)))])) ["row"] true l) c (.lst ra i) H) Q E:=by
 intro zz;induction zz with
 |nil=>
  intro i k acc H hi hv hm f hg ui hk ha q;have h1:=(f.2 _ zy λz=>z.elim).trans hr;refine sL ?_ (q H f ?_ ui)
  ·exact nG h1 (by simp at hi;omega)
  ·rw[hg,ha,List.take_of_length_le (by simp at hi;omega)]
 |cons r rs ih=>
  intro i k acc H hi hv hm f hg ui hk ha q;simp only[List.length_cons]at hi hk;obtain⟨k,rfl⟩:∃k',k=k'+1:=⟨k-1,by omega⟩
  have h1:=(f.2 _ zy λz=>z.elim).trans hr;have h0:=hm 0 r rfl;simp only[Nat.add_zero]at h0;obtain⟨x,hx⟩:∃x,kn[i]? = some x:=⟨_,List.getElem?_eq_getElem (by omega)⟩
  have G1:=G.no f;have c1:=K0.step (f.weaken λ_ z=>z.elim);refine ft (u.root (Oe x (List.mem_of_getElem? hx))) λd r0 ko hd s Rv=>?_;refine pJ (it':=.lst ra (i+1)) (v:=nM i r) (iV h1 h0) ?_;show XE (run au (n+1)) (.sub (.sub (.loc "groups") (.cst (.str "kinds"))) (.call (.glob "_law_home" (.top 945)) [.loc "groups",.sub (.loc "known") (.sub (.loc "row") (.cst (.int 0)))])) (bc "row" (nM i r) l) H _ _;have zw:Hx ra A.g kd (bc "row" (nM i r) l):=hl.set (by decide) (by decide) (by decide);refine bx (bx (av zw.1 (ax ⟨_,G1.NJ,x_call (aT (ai (av zw.1 (ai (bx (av zw.2.1 (bx (av cE (ax ⟨.str (vS i),rfl,⟨_,dO c1.k (Cw c1.le hx),aD ?_⟩⟩)))))))) )⟩)));refine pf (n:=n) G1 (by omega) s (by omega) ⟨_,G1.kind Rv (by rw[u.lk];omega),acc,hg,by rw[ha,List.length_map,List.length_take];have:=c1.le;omega,?_⟩;refine ih (i+1) k (acc++[fL ko]) _ (by omega) hv (λm' r' Ed=>?_) (f.oU _ hc) (aF _ _ _) ui (by omega) ?_ q
  ·have:=hm (m'+1) r' (by simpa using Ed)
   rw[show i+(m'+1)=i+1+m' by omega]at this;exact this
  ·rw[ha,List.take_add_one,hx,List.map_append,<-my s Rv];rfl
theorem D6{H0:AH}{c b:Nat}{ks:List (Option K)}(hc:H0.next<=c)(hb:H0.get b=some (.list (ks.map fL)))(lb:b<H0.next)(h6:ks.length<=6):
  ∀(k2:List (Option K)) (i k:Nat) (acc:List ae) (H:AH),i+k2.length=ks.length->(∀m x,k2[m]? = some x->ks[i+m]? = some x)->Fr No H0 H->H.get c=some (.list acc)->c<H.next->k2.length<=k->acc=(ks.take i).map (λx=>jB (x.getD .j6))->
  (∀H',Fr No H0 H'->H'.get c=some (.list (ks.map λx=>jB (x.getD .j6)))->c<H'.next->Q (.ref c) H')->
  W (eO (k+1) (yC (run au n) (.aE (.lY [.str "bool",.none] [.tup [.cst (.str "bool")],.tup [.cst (.str "int"),.cst (.str "i32")]]) "get" [.loc "kind",.tup [.cst (.str "int"),.loc "kind"]]) ["kind"] true l) c (.lst b i) H) Q E:=by
 intro zz;induction zz with
 |nil=>
  intro i k acc H hi hm f hg ui hk ha q;have h1:=(f.2 _ lb λz=>z.elim).trans hb;refine sL ?_ (q H f ?_ ui)
  ·exact nG h1 (by simp at hi ⊢;omega)
  ·rw[hg,ha,List.take_of_length_le (by simp at hi;omega)]
 |cons x k2 ih=>
  intro i k acc H hi hm f hg ui hk ha q;simp only[List.length_cons]at hi hk;obtain⟨k,rfl⟩:∃k',k=k'+1:=⟨k-1,by omega⟩
  have h1:=(f.2 _ lb λz=>z.elim).trans hb;have h0:=hm 0 x rfl;simp only[Nat.add_zero]at h0;refine pJ (it':=.lst b (i+1)) (v:=fL x) (iV h1 (by rw[List.getElem?_map,h0];rfl)) ?_;show XE (run au n) (.aE (.lY [.str "bool",.none] [.tup [.cst (.str "bool")],.tup [.cst (.str "int"),.cst (.str "i32")]]) "get" [.loc "kind",.tup [.cst (.str "int"),.loc "kind"]]) (bc "kind" (fL x) l) H _ _;refine Hz x cE λH1 f1=>⟨acc,(f1.2 _ ui λz=>z.elim).trans hg,by rw[ha,List.length_map,List.length_take];omega,?_⟩
  refine ih (i+1) k (acc++[jB (x.getD .j6)]) _ (by omega) (λm' x' Ed=>?_) ((f.trans f1).oU _ hc) (aF _ _ _) (Nat.lt_of_lt_of_le ui f1.1) (by omega) ?_ q
  ·have:=hm (m'+1) x' (by simpa using Ed)
   rw[show i+(m'+1)=i+1+m' by omega]at this;exact this
  ·rw[ha,List.take_add_one,h0,List.map_append];rfl
end
section
variable{n:Nat}{H:AH}{Q:ae->AH->Prop}{E:Nat->AH->Prop}
noncomputable def zq(H:AH):AH:=((((H.new (.list [])).new (.list [])).new (.list [])).new (.dict Sj [.ref H.next,.ref (H.next+1),.ref (H.next+2),.bool true])).new (.dict [] [])
noncomputable def nN(H:AH):Ga:=⟨H.next+3,H.next,H.next+1,H.next+2⟩
theorem lX(H:AH)(k:Nat):(zq H).get k=if k=H.next+4 then some (.dict [] [])else if k=H.next+3 then some (.dict Sj [.ref H.next,.ref (H.next+1),.ref (H.next+2),.bool true])else if k=H.next+2 then some (.list [])else if k=H.next+1 then some (.list [])else if k=H.next then some (.list [])else H.get k:=rfl
theorem NP:Gr (nN H) (zq H) [] [] [] true where
 g:=by rw[lX];simp[nN]
 lk:=by rw[lX];simp[nN]
 kk:=by rw[lX];simp[nN]
 ak:=by rw[lX];simp[nN]
 lt:=by show _<H.next+5∧_<H.next+5∧_<H.next+5∧_<H.next+5;simp[nN]
 ne:=by simp[nN]
theorem NQ:Kn (nN H) (zq H) (H.next+4) [] where
 k:=by rw[lX];simp[iE]
 lt:=by show _<H.next+5;omega
 nm:=by rintro(h|h|h|h)<;>simp[nN]at h
 le:=Nat.zero_le _
theorem NR:Fr No H (zq H):=Fr.gj (Fr.gj (Fr.gj (Fr.gj (Fr.new _ _) _) _) _) _
theorem JP{ra:Nat}{rs:List Row}(Ln:H.get ra=some (.list (cF 0 rs)))(zy:ra<H.next)(ok:o7 0 rs)(h6:rs.length<=6)(hsz:dF rs<=1000)
  (hQ:∀res v H',Spec rs res->Fr No H H'->G9 H' res v->Q v H'):W (run au (n+7) 978 [.ref ra] H) Q E:=by
 refine aw (fi:=⟨["rows"],[],sA⟩) (l:=[("rows",.ref ra)]) ?_;refine aC (oP (ai (Cc (ai (hU (aD (ai (hU (aD (ai (hU (aD (ai (ax (aD (ai (Cc (aD (aD ⟨_,rfl,?_⟩)))))))))))))))))));show XB (run au (n+6)) _ (Bq ra (nN H).g (H.next+4)) (zq H) _;have f0:Fr No H (zq H):=NR;have g0:(zq H).get ra=some (.list (cF 0 rs)):=(f0.2 _ zy λz=>z.elim).trans Ln;have l0:ra<(zq H).next:=Nat.lt_of_lt_of_le zy f0.1;have U3:¬MD (nN H) (H.next+4) ra:=by
  rintro((h|h|h|h)|h)<;>(first|omega|(simp only[nN]at h;omega))
 have rl:=cG rs 0;have rg:∀m r,rs[m]? = some r->(cF 0 rs)[0+m]? = some (nM (0+m) r):=λm r h=>by rw[Nat.zero_add];have:=pW rs 0 m r h;rwa [Nat.zero_add]at this
 have iter:∀{H':AH}{a:Nat}{vs:List ae},H'.get a=some (.list vs)->gW (.ref a) H'=some (.lst a 0):=oS;refine aC (AU (av rfl ⟨_,iter g0,?_⟩));refine Hq (n:=n) U3 rs 99999 0 (.inl rfl) g0 l0 (by omega) rg rfl (by omega) ok (by omega) UF.nil NP NQ (λx h=>nomatch h) (Γ:=λ_=>[]) (λ_ _=>rfl) (by simpa using hsz) (by omega) (by simp;omega) λH1 l1 L KS bj B bo EQ new kn hl u G c f1 hL hB ha w=>?_;simp only[List.nil_append]at G ha;have Sg:Hx ra (nN H).g (H.next+4) l1:=by
  rcases hl with rfl|⟨x,y,z,w,rfl⟩<;>exact⟨rfl,rfl,rfl⟩
 have fH:Fr No H H1:=f0.fresh (f1.weaken λk z=>.inr (by rcases z with (h|h|h|h)|h<;>(first|omega|(simp only[nN]at h;omega))));have lG:=G.lt;refine aX (aC (AU (bx (av Sg.1 (ax ⟨_,G.NK,_,iter G.ak,?_⟩)))));have sp:=Hv u w;refine Hy (n:=n+4) (all:=new) u hL hB new 99999 0 Sg G (by simp) (λm a h=>by rwa [Nat.zero_add]) w.an (by omega) (λhy H2 l2 zw f2=>?_) λhn H2 l2 f2=>?_
 ·rw[if_pos hy]at sp
  have g1:H2.get ra=some (.list (cF 0 rs)):=((fH.trans f2).2 _ zy λz=>z.elim).trans Ln;have Zo:ra<H2.next:=Nat.lt_of_lt_of_le zy (fH.trans f2).1;have G2:=G.no f2;have c2:=c.step (f2.weaken λ_ z=>z.elim);have kl:kn.length=rs.length:=by have:=w.len;simpa using this
  refine aX (aC (dg (lN (av zw.2.2 ⟨_,iter g1,?_⟩))));refine Bt (n:=n+5) u hL hB zw G2 c2 (Nat.le_refl _) g1 Zo w.kl rs 0 99999 [] _ (by omega) (by omega) rg (.new _ _) (aj _ _) (Nat.lt_succ_self _) (by omega) rfl λH3 f3 g3 n3=>?_;have U8:Hx ra (nN H).g (H.next+4) (bc "kinds" (.ref H2.next) l2):=zw.set (by decide) (by decide) (by decide);have G3:=G2.no f3;refine aX (aC (eY (Gj (bx (av U8.1 (ax ⟨_,G3.Zl,_,rfl,?_⟩))))));cases bo with
  |false=>exact .inl ⟨rfl,aC (dh (ax (hQ none .none H3 sp ((fH.trans f2).trans f3) rfl)))⟩
  |true=>
   refine .inr ⟨rfl,dm (aX (aC (dh (lN (av cE ⟨_,iter g3,?_⟩)))))⟩;refine D6 (n:=n+6) (ks:=kn.map (Bs L KS)) (Nat.le_refl _) (by rw[g3,List.map_map];rfl) n3 (by simp;omega) (kn.map (Bs L KS)) 0 99999 [] _ (by simp) (λm x h=>by rwa [Nat.zero_add]) (.new _ _) (aj _ _) (Nat.lt_succ_self _) (by simp;omega) rfl λH4 f4 g4 n4=>?_;refine hQ (some (kn.map (qZ L KS))) _ H4 sp (((fH.trans f2).trans f3).trans f4) ⟨_,rfl,n4,?_⟩;rw[g4,List.map_map,List.map_map];rfl
 ·rw[if_neg (by rw[hn];decide)]at sp
  exact hQ none .none H2 sp (fH.trans f2) rfl
end
noncomputable def Src(s:Nat)(H:AH):Prop:=s<H.next∧∃a b:Int,H.get s=some (.list [.int a,.int b])∧0<=b∧b<2147483647
theorem fD{a:Int}(h:0<=a)(h2:a<2147483648):bits a<=2097152:=Nat.le_trans (intBits_le_64 (by omega) (by omega)) (by decide)
section
variable{n s:Nat}{H:AH}{Q:ae->AH->Prop}{E:Nat->AH->Prop}{F:dQ}
theorem bmod{i j:Int}(h:j≠0):binOp .mod (.int i) (.int j) H=some (.int (i.fmod j),H):=if_pos h
theorem bdiv{i j:Int}(h:0<j∧j<2^62):binOp .fdiv (.int i) (.int j) H=some (.int (i.fdiv j),H):=if_pos h
theorem HA{i j:Int}(h:bits i<=2097152∧bits j<=2097152):binOp .mul (.int i) (.int j) H=some (.int (i*j),H):=if_pos h
theorem Src.keep{H':AH}(S:Src s H)(f:Fr (λk=>k≠s) H H'):Src s H':=by
 obtain⟨l,a,b,h,r⟩:=S;exact⟨Nat.lt_of_lt_of_le l f.1,a,b,(f.2 s l λz=>z rfl).trans h,r⟩
theorem Src.no{H':AH}(S:Src s H)(f:Fr No H H'):Src s H':=S.keep (f.weaken λ_ z=>z.elim)
theorem CA{i:Int}{t:Nat}(h:0<t):∃d:Nat,d<t∧i.fmod t=d:=by
 have h0:(0:Int)<t:=Int.natCast_pos.mpr h;have h1:=Int.fmod_nonneg_of_pos i h0;exact⟨(i.fmod t).toNat,(Int.toNat_lt h1).mpr (Int.fmod_lt_of_pos i h0),(Int.toNat_of_nonneg h1).symm⟩
theorem jD(S:Src s H){t:Nat}(h0:0<t)(ht:t<=1000)(q:∀(d:Nat) H',d<t->Src s H'->Fr (λk=>k=s) H H'->Q (.int d) H'):W (run au (n+1) 898 [.ref s,.int t] H) Q E:=by
 refine aw (fi:=⟨["source", "top"],[],qu⟩) (l:=[("source",.ref s),("top",.int t)]) ?_;obtain⟨ls,a,b,hs,hb,I2⟩:=S;have s0:subAt (.ref s) (.int ((0:Nat):Int)) H=some (.int a):=bT hs rfl (by decide);have s1:subAt (.ref s) (.int ((1:Nat):Int)) H=some (.int b):=bT hs rfl (by decide);refine aC (eY (bK (bx (av rfl (ax ⟨_,s0,ax (bu (r:=decide (0<a)) rfl ?_)⟩)))))
 by_cases z:0<a
 ·rw[decide_eq_true z]
  refine aI (CA (i:=a) h0) λd hd e=>?_;refine .inl ⟨rfl,aC (dg (bI (x_call (aT (ai (bx (av rfl (ax ⟨_,s0,aD (bY (v:=.int a) rfl (av rfl ⟨_,_,bmod (by omega),?_⟩))⟩)))))))) ⟩;rw[e];refine aC (nB (bI (bx (av rfl (ax ⟨_,s0,av rfl ⟨_,_,bdiv (by omega),av rfl (ax ⟨_,ey (m:=0) hs (ble rfl) (ble rfl),?_⟩)⟩⟩)))));refine aX (aC (dh (av rfl ?_)));exact q d _ hd ⟨ls,_,b,aF _ _ _,hb,I2⟩ (Fr.set (M:=λk=>k=s) _ _ rfl)
 ·rw[decide_eq_false z]
  refine .inr ⟨rfl,dm (aC (nB (bI (x_call (aT (ai (bI (bI (bx (av rfl (ax ⟨_,s1,ax ⟨_,_,HA ⟨fD hb (by omega),fD (by omega) (by omega)⟩,ax ⟨_,_,rfl,aD (bY (v:=.int (b*39373+7)) rfl (ax ⟨_,_,bmod (by omega),?_⟩))⟩⟩⟩)))))))))))⟩;refine av rfl (ax ⟨_,ey (m:=1) hs (ble rfl) (ble rfl),?_⟩);have c1:0<=(b*39373+7).fmod 2147483647:=Int.fmod_nonneg_of_pos _ (by decide);have c2:(b*39373+7).fmod 2147483647<2147483647:=Int.fmod_lt_of_pos _ (by decide);generalize (b*39373+7).fmod 2147483647=c at *;have g2:(H.set s (.list ([.int a,.int b].set 1 (.int c)))).get s=some (.list [.int a,.int c]):=aF _ _ _;have s2:subAt (.ref s) (.int ((1:Nat):Int)) (H.set s (.list ([.int a,.int b].set 1 (.int c))))=some (.int c):=bT g2 rfl (by decide);refine aI (CA (i:=((c*c).fmod 2147483629).fdiv 32) h0) λd hd e=>?_;refine aX (aC (dh (bI (x_call (aT (ai (bI (bI (x_call (aT (ai (bI (bx (av rfl (ax ⟨_,s2,bx (av rfl (ax ⟨_,s2,⟨_,_,HA ⟨fD c1 (by omega),fD c1 (by omega)⟩,aD (bY (v:=.int (c*c)) rfl (ax ⟨_,_,bmod (by omega),ax ⟨_,_,bdiv (by omega),aD (bY (v:=.int (((c*c).fmod 2147483629).fdiv 32)) rfl (av rfl ⟨_,_,bmod (by omega),?_⟩))⟩⟩))⟩⟩))⟩)))))))))))))));rw[e];exact q d _ hd ⟨ls,a,c,g2,c1,by omega⟩ (Fr.set (M:=λk=>k=s) _ _ rfl)
theorem mz(S:Src s H){t:Nat}{vs:List ae}(hv:H.get t=some (.list vs))(lt:t<H.next)(ne:t≠s)(h0:vs≠[])(ht:vs.length<=1000)(q:∀v H',v∈vs->Src s H'->Fr (λk=>k=s) H H'->Q v H'):W (run au (n+2) 905 [.ref s,.ref t] H) Q E:=by
 refine aw (fi:=⟨["source", "things"],[],sx⟩) (l:=[("source",.ref s),("things",.ref t)]) ?_;refine aC (dh (bx (av rfl (x_call (aT (ai (av rfl (ai (x_call (aT (ai (av rfl (aD ?_))))))))))))) ;refine len_list hv (by omega) (aD ?_);have hp:0<vs.length:=List.length_pos_iff.mpr h0;refine jD (n:=n) S hp ht λd H1 hd S1 f1=>?_;have h1:=(f1.2 t lt ne).trans hv;exact⟨_,bT h1 (List.getElem?_eq_getElem hd) (by omega),q _ H1 (List.getElem_mem hd) S1 f1⟩
noncomputable def Sm:List ae:=[.str "i8",.str "u8",.str "i32",.str "i64"]
theorem tl(q:Q (.ref H.next) (H.new (.list Sm))):W (run au (n+1) 912 [] H) Q E:=by
 refine aw (fi:=⟨[],[],oJ⟩) (l:=[]) ?_;tb_rel;exact q
theorem CB{v:ae}(h:v∈Sm):∃k:K,k≠.bool∧v=kA k:=by
 simp only[Sm,List.mem_cons,List.not_mem_nil,or_false]at h;rcases h with rfl|rfl|rfl|rfl
 ·exact⟨.i8,by decide,rfl⟩
 ·exact⟨.u8,by decide,rfl⟩
 ·exact⟨.j6,by decide,rfl⟩
 ·exact⟨.K4,by decide,rfl⟩
theorem fc(S:Src s H)(o:cT):Src s (H.new o):=S.no (.new _ _)
theorem pY(S:Src s H):H.next≠s:=Nat.ne_of_gt S.1
theorem zr{l:Loc}(hl:aJ "source" l=some (.ref s))(S:Src s H)(q:∀k H',k≠K.bool->Src s H'->Fr (λk=>k=s) H H'->Q (kA k) H'):XE (run au (n+3)) (.call (.glob "_law_one" (.top 905)) [.loc "source",.call (.glob "_law_kinds" (.top 912)) []]) l H Q E:=by
 refine x_call (aT (ai (av hl (ai (x_call (aT (aD ?_)))))));refine tl (n:=n+2) (aD ?_);refine mz (n:=n+1) (fc S _) (aj _ _) (Nat.lt_succ_self _) (pY S) (by decide) (by decide) λv H1 hv S1 f1=>?_;refine aI (CB hv) λk hk U9=>?_;subst U9;exact q k H1 hk S1 ((Fr.new _ _).trans f1)
theorem rH{d:Nat}{i:Int}:bz .eq (.int d) (.int i) H=some (decide ((d:Int)=i)):=by
 show Ea H (.int d) (.int i)=_
 rfl
noncomputable def NS:List ae:=[.int 0,.int 1,.int 7,.int 127,.int 128,.int 200,.int 255,.int 300,.int (2^(31:Int).toNat)]
theorem HB{v:ae}(h:v∈NS):∃i:Int,v=.int i:=by
 refine aV (Option.isSome_iff_exists.mp (List.all_eq_true.mp (show NS.all (λv=>(vInt v some).isSome)=true from rfl) v h)) λi hi=>?_;exact jq hi λi e _=>⟨i,e⟩
theorem qK(S:Src s H)(q:∀v k H',k≠some K.bool->Src s H'->Fr (λk=>k=s) H H'->Q (dX (.lit v k)) H'):W (run au (n+4) 919 [.ref s] H) Q E:=by
 refine aw (fi:=⟨["source"],[],lD⟩) (l:=[("source",.ref s)]) ?_;refine aC (oP (ai (x_call (aT (ai (av rfl (ai (hU (ai (ax (ai (ax (ai (ax (ai (ax (ai (ax (ai (ax (ai (ax (ai (ax (ai (bI (ax (ax ⟨_,_,rfl,aD (aD ?_)⟩))))))))))))))))))))))))))));refine mz (n:=n+1) (vs:=NS) (fc S _) (aj _ _) (Nat.lt_succ_self _) (pY S) (by decide) (by decide) λv H1 hv S1 f1=>?_;refine aV (HB hv) λv Va=>?_;subst Va;have Mt:Fr (λk=>k=s) H H1:=(Fr.new _ _).trans f1;refine ai (ax (aD ⟨_,rfl,?_⟩));refine aX (aC (eY (bK (x_call (aT (ai (av rfl (ai (ax (aD ?_))))))))));refine jD (n:=n+2) (t:=4) S1 (by decide) (by decide) λd H2 hd S2 f2=>ax (bu rH (tj (λz=>?_) λz=>?_))
 ·refine aC (dg (zr (n:=n) rfl S2 λk H3 hk S3 f3=>?_))
  refine aX (dm (aX (aC (dh (dE (ai (ax (ai (ax (ai (av rfl (ai (av rfl (aD ?_))))))))))))));exact q v (some k) H3 (λz=>hk (by injection z)) S3 ((Mt.trans f2).trans f3)
 ·refine dm (aX (aC (dh (dE (ai (ax (ai (ax (ai (av rfl (ai (av rfl (aD ?_)))))))))))))
  exact q v none H2 (λz=>nomatch z) S2 (Mt.trans f2)
theorem tm{x:String}(q:Q (nameA x) H):W (run au (n+1) 926 [.str x] H) Q E:=by
 refine aw (fi:=⟨["name"],[],qw⟩) (l:=[("name",.str x)]) ?_;tb_rel;exact q
theorem zt{c nm b:Nat}(h:H.get nm=some (.list (iE c)))(hb:H.get b=some (.list []))(h2:2<=c)(h6:c<=6):bz .eq (.ref nm) (.ref b) H=some false:=by
 have k:((List.range 7).all λc=>Nat.blt c 2 || (isData 9 (.tup (iE c))&&!ae.beq (.tup (iE c)) (.tup [])))=true:=by rfl
 have k2:=List.all_eq_true.mp k c (List.mem_range.mpr (Nat.lt_succ_of_le h6));have b2:Nat.blt c 2=false:=by
  cases q:Nat.blt c 2 with
  |false=>rfl
  |true=>exact absurd (Nat.le_of_ble_eq_true q) (Nat.not_le.mpr (Nat.lt_succ_of_le h2))
 rw[b2,Bool.false_or,Bool.and_eq_true]at k2;have nb:ae.beq (.tup (iE c)) (.tup [])=false:=by
  cases q:ae.beq (.tup (iE c)) (.tup [])with
  |false=>rfl
  |true=>rw[q]at k2;exact absurd k2.2 Bool.false_ne_true
 show Ea H (.ref nm) (.ref b)=_;have z:Ea H (.ref nm) (.ref b)=if isData 9 ((pq (H.get nm) (λvs=>some (true,ae.tup vs)) λ_ _=>none).getD (false,.wR)).2&&isData 9 ((pq (H.get b) (λvs=>some (true,ae.tup vs)) λ_ _=>none).getD (false,.wR)).2 then some (((pq (H.get nm) (λvs=>some (true,ae.tup vs)) λ_ _=>none).getD (false,.wR)).1==((pq (H.get b) (λvs=>some (true,ae.tup vs)) λ_ _=>none).getD (false,.wR)).1&&ae.beq ((pq (H.get nm) (λvs=>some (true,ae.tup vs)) λ_ _=>none).getD (false,.wR)).2 ((pq (H.get b) (λvs=>some (true,ae.tup vs)) λ_ _=>none).getD (false,.wR)).2)else none:=rfl;rw[z,h,hb];show(if isData 9 (.tup (iE c))&&true then some (true&&ae.beq (.tup (iE c)) (.tup []))else none)=_;rw[k2.1,nb]
 rfl
theorem HC{c:Nat}(h:2<=c):iE c≠[]:=λe=>by
 have q:=congrArg List.length e;rw[iE,List.length_map,List.length_range]at q;cases q;cases h
theorem CD{c:Nat}{v:ae}(h:v∈iE c):∃x,x<c∧v=.str (vS x):=by
 refine aI (List.mem_map.mp h) λx hx e=>?_;exact⟨x,List.mem_range.mp hx,e.symm⟩
noncomputable def NT:List ae:=[.str "+",.str "*",.str "<",.str "==",.str "<<"]
theorem HD{v:ae}(h:v∈NT):∃o:Op,v=.str (qF o):=by
 simp only[NT,List.mem_cons,List.not_mem_nil,or_false]at h;rcases h with rfl|rfl|rfl|rfl|rfl
 ·exact⟨.add,rfl⟩
 ·exact⟨.mul,rfl⟩
 ·exact⟨.lt,rfl⟩
 ·exact⟨.eq,rfl⟩
 ·exact⟨.shl,rfl⟩
noncomputable def GenAt(dp:Nat):Prop:=∀{n s nm c:Nat}{H:AH}{Q:ae->AH->Prop}{E:Nat->AH->Prop},Src s H->H.get nm=some (.list (iE c))->nm<H.next->nm≠s->2<=c->c<=6->
 (∀e H',tv c dp e->size e+1<=2^(dp+1)->Src s H'->Fr (λk=>k=s) H H'->Q (dX e) H')->W (run au (n+dp+5) 933 [.ref s,.ref nm,.int dp] H) Q E
theorem lt_int{x y:Int}:bz .lt (.int x) (.int y) H=some (decide (x<y)):=rfl
theorem gt_int{x y:Int}:bz .gt (.int x) (.int y) H=some (decide (y<x)):=rfl
theorem sub_one{d:Nat}:binOp .sub (.int ((d+1:Nat):Int)) (.int 1) H=some (.int d,H):=by
 show some (ae.int (((d+1:Nat):Int)-1),H)=_;rw[show((d+1:Nat):Int)-1=d by omega]
theorem CE{c dp:Nat}{v:Int}{k:Option K}(h:k≠some .bool):tv c dp (.lit v k):=by cases dp<;>exact h
theorem CF{c dp x:Nat}(h:x<c):tv c dp (.gz x):=by cases dp<;>exact h
theorem one_pow(dp:Nat):1+1<=2^(dp+1):=by
 have:=Nat.one_le_two_pow (n:=dp);rw[Nat.pow_succ];omega
theorem NU:∀dp,GenAt dp:=by
 intro dp;induction dp with
 |zero=>
  intro n s nm c H Q E S Vb Rx ne h2 h6 q;refine aw (fi:=⟨["source", "names", "deep"],[],lE⟩) (l:=[("source",.ref s),("names",.ref nm),("deep",.int 0)]) ?_;refine aC (dg (x_call (aT (ai (av rfl (ai (iU (bK (av rfl (ax (bu (r:=false) rfl (.inr ⟨rfl,ax (aD ?_)⟩))))))))))));refine jD (n:=n+3) (t:=4) S (by decide) (by decide) λd H1 hd S1 f1=>?_;have Oa:=(f1.2 _ Rx ne).trans Vb;have l1:=Nat.lt_of_lt_of_le Rx f1.1;refine aX (aC (eY (Jn (bK (av rfl (ax (bu lt_int (tj (λz=>?_) λz=>?_))))))))
  ·refine .inl ⟨rfl,aC (dh (x_call (aT (ai (av rfl (aD ?_))))))⟩
   exact qK (n:=n) S1 λv k H2 hk S2 f2=>q _ H2 (CE hk) (one_pow 0) S2 (f1.trans f2)
  ·have f2:Fr (λk=>k=s) H (H1.new (.list [])):=f1.trans (.new _ _)
   have Ax:=(aH H1 (.list []) l1).trans Oa;refine Cd (oO (bK (av rfl (ax (bu (r:=true) (by rw[lt_int,decide_eq_true (by omega)]) (.inr ⟨rfl,?_⟩))))));refine lM (bK (av rfl (hU (aD (bu (zt Ax (aj _ _) h2 h6) (.inr ⟨rfl,dm (aX ?_)⟩))))));refine aC (eY (bK (av rfl (ax (bu (r:=true) (by rw[lt_int,decide_eq_true (by omega)]) (.inl ⟨rfl,?_⟩))))));refine aC (dh (x_call (aT (ai (x_call (aT (ai (av rfl (ai (av rfl (aD ?_)))))))))));refine mz (n:=n+2) (fc S1 _) Ax (Nat.lt_succ_of_lt l1) ne (HC h2) (by simp[iE];omega) λv H3 hv S3 f3=>aD ?_;refine aI (CD hv) λx hx Vc=>?_;subst Vc;exact tm (n:=n+3) (q (.gz x) H3 (CF hx) (one_pow 0) S3 (f2.trans f3))
 |succ dp ih=>
  intro n s nm c H Q E S Vb Rx ne h2 h6 q;refine aw (fi:=⟨["source", "names", "deep"],[],lE⟩) (l:=[("source",.ref s),("names",.ref nm),("deep",.int ((dp+1:Nat):Int))]) ?_;refine aC (dg (x_call (aT (ai (av rfl (ai (iU (bK (av rfl (ax (bu (r:=true) (by rw[gt_int,decide_eq_true (by omega)]) (.inl ⟨rfl,ax (aD ?_)⟩))))))))))));refine jD (n:=n+(dp+1)+3) (t:=9) S (by decide) (by decide) λd H1 hd S1 f1=>?_;have Oa:=(f1.2 _ Rx ne).trans Vb;have l1:=Nat.lt_of_lt_of_le Rx f1.1;have p2:2^(dp+1+1)=2^(dp+1)+2^(dp+1):=by rw[Nat.pow_succ];omega
  have p1:=Nat.one_le_two_pow (n:=dp+1);refine aX (aC (eY (Jn (bK (av rfl (ax (bu lt_int (tj (λz=>?_) λz=>?_))))))))
  ·refine .inl ⟨rfl,aC (dh (x_call (aT (ai (av rfl (aD ?_))))))⟩
   exact qK (n:=n+(dp+1)) S1 λv k H2 hk S2 f2=>q _ H2 (CE hk) (one_pow _) S2 (f1.trans f2)
  ·-- a name,or deeper
   have tail:∀{H2:AH}{b:Bool},b=decide ((d:Int)<4)->H2.get nm=some (.list (iE c))->nm<H2.next->Src s H2->Fr (λk=>k=s) H H2->XB (run au (n+(dp+1)+4)) [.iff (.cmp (.loc "way") .lt (.cst (.int 4))) [.ret (.call (.glob "_law_name" (.top 926)) [.call (.glob "_law_one" (.top 905)) [.loc "source",.loc "names"]])] [],
     .iff (.cmp (.loc "way") .eq (.cst (.int 4))) [.ret (.tup [.cst (.str "unary"),.cst (.int 1),.cst (.str "-"),.call (.glob "_law_expr" (.top 933)) [.loc "source",.loc "names",.bin .sub (.loc "deep") (.cst (.int 1))]])] [],
     .iff (.cmp (.loc "way") .eq (.cst (.int 5))) [.asg "kind" (.call (.glob "_law_one" (.top 905)) [.loc "source",.call (.glob "_law_kinds" (.top 912)) []]),
     .ret (.tup [.cst (.str "cast"),.cst (.int 1),.call (.glob "_law_expr" (.top 933)) [.loc "source",.loc "names",.bin .sub (.loc "deep") (.cst (.int 1))],.tup [.cst (.str "path"),.cst (.int 1),.tup [.tup [.loc "kind",.tup [],.tup []]]]])] [],
     .asg "op" (.call (.glob "_law_one" (.top 905)) [.loc "source",.lst [.cst (.str "+"),.cst (.str "*"),.cst (.str "<"),.cst (.str "=="),.cst (.str "<<")]]),
     .ret (.tup [.cst (.str "binary"),.cst (.int 1),.loc "op",.call (.glob "_law_expr" (.top 933)) [.loc "source",.loc "names",.bin .sub (.loc "deep") (.cst (.int 1))],.call (.glob "_law_expr" (.top 933)) [.loc "source",.loc "names",.bin .sub (.loc "deep") (.cst (.int 1))]])]
     [("source",.ref s),("names",.ref nm),("deep",.int ((dp+1:Nat):Int)),("way",.int d)] H2 (pK Q E):=by
    intro H2 b _ Ax l2 S2 f2;have sub:∀{lo:Loc}{H3:AH}{Q':ae->AH->Prop}{E':Nat->AH->Prop},aJ "source" lo=some (.ref s)->aJ "names" lo=some (.ref nm)->aJ "deep" lo=some (.int ((dp+1:Nat):Int))->Src s H3->Fr (λk=>k=s) H2 H3->(∀e H',tv c dp e->size e+1<=2^(dp+1)->Src s H'->Fr (λk=>k=s) H H'->Fr (λk=>k=s) H2 H'->Q' (dX e) H')->XE (run au (n+(dp+1)+4)) (.call (.glob "_law_expr" (.top 933)) [.loc "source",.loc "names",.bin .sub (.loc "deep") (.cst (.int 1))]) lo H3 Q' E':=by
     intro lo H3 Q' E' e1 e2 e3 S3 f3 q';refine x_call (aT (ai (av e1 (ai (av e2 (ai (bI (av e3 (ax ⟨_,_,sub_one,aD ?_⟩)))))))));exact ih (n:=n) S3 ((f3.2 _ l2 ne).trans Ax) (Nat.lt_of_lt_of_le l2 f3.1) ne h2 h6 λe H' o1 o2 S' f'=>q' e H' o1 o2 S' ((f2.trans f3).trans f') (f3.trans f')
    refine aC (eY (bK (av rfl (ax (bu lt_int (tj (λz4=>?_) λz4=>?_))))))
    ·refine aC (dh (x_call (aT (ai (x_call (aT (ai (av rfl (ai (av rfl (aD ?_)))))))))))
     refine mz (n:=n+(dp+1)+2) S2 Ax l2 ne (HC h2) (by simp[iE];omega) λv H3 hv S3 f3=>aD ?_;refine aI (CD hv) λx hx Vd=>?_;subst Vd;exact tm (n:=n+(dp+1)+3) (q (.gz x) H3 (CF hx) (one_pow _) S3 (f2.trans f3))
    ·refine dm (aX (aC (eY (bK (av rfl (ax (bu rH (tj (λz5=>?_) λz5=>?_))))))))
     ·refine aC (dh (dE (ai (ax (ai (ax (ai (ax (ai (sub rfl rfl rfl S2 .refl λe H3 o1 o2 S3 f3 Jw=>aD ?_))))))))))
      exact q (.neg e) H3 o1 (by simp only[cL,cM,cN,cO,cP];omega) S3 f3
     ·refine dm (aX (aC (eY (bK (av rfl (ax (bu rH (tj (λz6=>?_) λz6=>?_))))))))
      ·refine aC (dg (zr (n:=n+(dp+1)+1) rfl S2 λk H3 hk S3 f3=>?_))
       refine aX (aC (dh (dE (ai (ax (ai (ax (ai (sub rfl rfl rfl S3 f3 λe H4 o1 o2 S4 f4 Ro=>?_)))))))));refine ai (dE (ai (ax (ai (ax (ai (dE (ai (dE (ai (av rfl (ai (dE (aD (ai (dE (aD (aD (aD (aD (aD ?_)))))))))))))))))))));exact q (.cast k e) H4 ⟨hk,o1⟩ (by simp only[cL,cM,cN,cO,cP];omega) S4 f4
      ·refine dm (aX (aC (dg (x_call (aT (ai (av rfl (ai (hU (ai (ax (ai (ax (ai (ax (ai (ax (ai (ax (aD (aD ?_)))))))))))))))))))))
       refine mz (n:=n+(dp+1)+2) (vs:=NT) (fc S2 _) (aj _ _) (Nat.lt_succ_self _) (pY S2) (by decide) (by decide) λv H3 hv S3 f3=>?_;refine aV (HD hv) λo Ve=>?_;subst Ve;refine aX (aC (dh (dE (ai (ax (ai (ax (ai (av rfl (ai (sub rfl rfl rfl S3 ((Fr.new _ _).trans f3) λe1 H4 o1 o2 S4 f4 Ro=>?_)))))))))));refine ai (sub rfl rfl rfl S4 Ro λe2 H5 o3 o4 S5 f5 f25=>aD ?_);exact q (.bin o e1 e2) H5 ⟨o1,o3⟩ (by simp only[cL,cM,cN,cO,cP];omega) S5 f5
   refine Cd (oO (bK (av rfl (ax (bu lt_int (Cz (λz4=>?_) λz4=>?_))))))
   ·have Ax:=(aH H1 (.list []) l1).trans Oa
    refine lM (bK (av rfl (hU (aD (bu (zt Ax (aj _ _) h2 h6) (.inr ⟨rfl,dm (aX ?_)⟩))))));exact tail rfl Ax (Nat.lt_succ_of_lt l1) (fc S1 _) (f1.trans (.new _ _))
   ·exact .inr ⟨rfl,dm (aX (tail rfl Oa l1 S1 f1))⟩
theorem HE{xs:List Int}(hl:xs.length<=63)(hb:∀x,x∈xs->bits x<=2^20)(q:∀s H',Src s H'->Q (.ref s) H'):W (run au (n+1) 891 [.kL (xs.map .int),.int 0] H) Q E:=by
 refine aw (fi:=⟨["script", "k"],[],qt⟩) (l:=[("script",.kL (xs.map .int)),("k",.int 0)]) ?_;have tail:∀{c:Int},bits c<=2^20->XB (run au n) [.asg "big" (.call (.glob "max" (.bi (.builtin "max"))) [.call (.glob "int" (.bi (.type "int"))) [.loc "cell"],.call (.glob "int" (.bi (.type "int"))) [.bin .sub (.neg (.cst (.int 1))) (.loc "cell")]]),
  .asg "mixed" (.bin .mod (.call (.glob "int" (.bi (.type "int"))) [.bin .mul (.bin .add (.bin .add (.bin .add (.bin .mod (.call (.glob "int" (.bi (.type "int"))) [.loc "big"]) (.cst (.int 2147483629))) (.bin .mul (.bin .mul (.cst (.int 7919)) (.loc "k")) (.loc "k"))) (.bin .mul (.cst (.int 31)) (.loc "k"))) (.cst (.int 17))) (.cst (.int 48271))]) (.cst (.int 2147483647))),
  .ret (.lst [.bin .mul (.loc "big") (.call (.glob "int" (.bi (.type "int"))) [.cmp (.loc "big") .ge (.bin .pow (.cst (.int 10)) (.cst (.int 18)))]),.loc "mixed"])] [("script",.kL (xs.map .int)),("k",.int 0),("cell",.int c)] H (pK Q E):=by
  intro c hc;have hd:bits (-1-c)<=2^20+1:=bits_sub (show bits (-1)<=2^20 by decide) hc;refine aC (dg (x_call (aT (ai (x_call (aT (ai (av rfl (aD (bY (v:=.int c) rfl (ai (x_call (aT (ai (bI (K3 (ax ⟨1,rfl,av rfl ⟨_,_,rfl,aD (bY (v:=.int (-1-c)) rfl (aD (bY (v:=.int (if c < -1-c then -1-c else c)) rfl ?_)))⟩⟩)))))))))))))))));have Zp:bits (if c < -1-c then -1-c else c)<=2^20+1:=by split<;>omega
  generalize (if c < -1-c then -1-c else c)=big at *;have h1:0<=big.fmod 2147483629:=Int.fmod_nonneg_of_pos _ (by decide);have h2:big.fmod 2147483629<2147483629:=Int.fmod_lt_of_pos _ (by decide);have hk:∀{i j:Int}{H:AH},i=0∨j=0->bits i<=2097152->bits j<=2097152->binOp .mul (.int i) (.int j) H=some (.int 0,H):=λZq a b=>by
   rw[HA ⟨a,b⟩];rcases Zq with rfl|rfl<;>simp
  refine aX (aC (dg (bI (x_call (aT (ai (bI (bI (bI (bI (bI (x_call (aT (ai (av rfl (aD (bY (v:=.int big) rfl (ax ⟨_,_,bmod (by omega),bI (bI (ax (av rfl ⟨_,_,hk (.inr rfl) (by decide) (by decide),av rfl ⟨_,_,hk (.inr rfl) (by decide) (by decide),⟨_,_,rfl,bI (ax (av rfl ⟨_,_,hk (.inr rfl) (by decide) (by decide),⟨_,_,rfl,ax ⟨_,_,rfl,ax ⟨_,_,HA ⟨fD (by omega) (by omega),fD (by omega) (by omega)⟩,aD (bY (v:=.int ((big.fmod 2147483629+0+0+17)*48271)) rfl (ax ⟨_,_,bmod (by omega),?_⟩))⟩⟩⟩⟩))⟩⟩⟩)))⟩))))))))))))))))));have h3:0<=((big.fmod 2147483629+0+0+17)*48271).fmod 2147483647:=Int.fmod_nonneg_of_pos _ (by decide);have h4:((big.fmod 2147483629+0+0+17)*48271).fmod 2147483647<2147483647:=Int.fmod_lt_of_pos _ (by decide);generalize ((big.fmod 2147483629+0+0+17)*48271).fmod 2147483647=mixed at *;refine aX (aC (dh (hU (ai (bI (av rfl (x_call (aT (ai (bK (av rfl (bI (ax (ax ⟨_,_,rfl,bu rfl (aD (bY rfl ⟨_,_,HA ⟨by omega,?_⟩,ai (av rfl (aD ?_))⟩))⟩))))))))))))))
  ·split<;>decide
  ·exact q _ _ ⟨Nat.lt_succ_self _,_,mixed,aj _ _,h3,h4⟩
 cases xs with
 |nil=>exact aC (dg (ax (aX (aC (eY (bK (av rfl (x_call (aT (ai (av rfl (aD (bY (v:=.int 0) rfl (bu (r:=false) rfl (.inr ⟨rfl,dm (aX (tail (by decide)))⟩)))))))))))))) )
 |cons x xs=>
  have hlen:eK (run au n) (.bi (.builtin "len")) [.kL ((x::xs).map .int)] H=ok (.int (((x::xs).map ae.int).length:Nat)) H:=if_pos (by simp at hl ⊢;omega);refine aC (dg (ax (aX (aC (eY (bK (av rfl (x_call (aT (ai (av rfl (aD (bY hlen (bu (r:=true) (by rw[lt_int,decide_eq_true];simp) (.inl ⟨rfl,aC (dg (bx (av rfl (av rfl ⟨.int x,rfl,?_⟩))))⟩)))))))))))))));exact aX (dm (aX (tail (hb x (.head _)))))
end
theorem Bu:∀(rs:List Row) (i:Nat) (r:Row),cF i (rs++[r])=cF i rs++[nM (i+rs.length) r]:=by
 intro zz;induction zz with
 |nil=>
  intro i r;exact rfl
 |cons r0 rs ih=>
  intro i r;simp only[List.cons_append,wH,wI,ih (i+1) r,List.length_cons];rw[show i+1+rs.length=i+(rs.length+1) by omega]
theorem D7:∀{rs:List Row}{i:Nat}{r:Row},o7 i rs->tv (i+rs.length) 2 r.ex->o7 i (rs++[r]):=by
 intro zz;induction zz with
 |nil=>
  intro i r _ h;exact⟨h,trivial⟩
 |cons r0 rs ih=>
  intro i r h1 h;exact⟨h1.1,ih h1.2 (by rwa [show i+1+rs.length=i+(rs.length+1) by omega])⟩
theorem Bv:∀{rs:List Row}{r:Row},dF (rs++[r])=dF rs+(size r.ex+1):=by
 intro zz;induction zz with
 |nil=>
  intro r;simp[o8,o9]
 |cons r0 rs ih=>
  intro r;simp only[List.cons_append,o8,o9,ih];omega
section
variable{n s rw:Nat}{Q:ae->AH->Prop}{E:Nat->AH->Prop}{F:dQ}{R:ek->Loc->AH->Prop}{l:Loc}
theorem HF(c:Nat):iE (c+1)=iE c++[.str (vS c)]:=by unfold iE;rw[List.range_succ,List.map_append];rfl
theorem Bw{H0:AH}{c:Nat}{rs:List Row}(hc:H0.next<=c)(hr:H0.get rw=some (.list (cF 0 rs)))(lr:rw<H0.next)(h6:rs.length<=6):
  ∀(m i k:Nat) {H:AH},i+m=rs.length->m<=k->Fr No H0 H->H.get c=some (.list (iE i))->c<H.next->
  (∀H',Fr No H0 H'->H'.get c=some (.list (iE rs.length))->c<H'.next->Q (.ref c) H')->W (eO (k+1) (yC F (.sub (.loc "row") (.cst (.int 0))) ["row"] true l) c (.lst rw i) H) Q E:=by
 intro zz;induction zz with
 |zero=>
  intro i k H hi hk f hg ui q;have h1:=(f.2 _ lr λz=>z.elim).trans hr;refine sL ?_ (q H f ?_ ui)
  ·exact nG h1 (by rw[cG];omega)
  ·rw[hg];rw[show i=rs.length by omega]
 |succ m ih=>
  intro i k H hi hk f hg ui q;obtain⟨k,rfl⟩:∃k',k=k'+1:=⟨k-1,by omega⟩
  have h1:=(f.2 _ lr λz=>z.elim).trans hr;obtain⟨r,Zr⟩:∃r,rs[i]? = some r:=⟨_,List.getElem?_eq_getElem (by omega)⟩
  have h0:=pW rs 0 i r Zr;rw[Nat.zero_add]at h0;refine pJ (it':=.lst rw (i+1)) (v:=nM i r) (iV h1 h0) ?_;show XE F (.sub (.loc "row") (.cst (.int 0))) (bc "row" (nM i r) l) H _ _;refine bx (av cE (ax ⟨.str (vS i),rfl,iE i,hg,by simp[iE];omega,?_⟩));refine ih (i+1) k (by omega) (by omega) (f.oU _ hc) (by rw[aF,HF]) ui q
theorem Vf{a b:Nat}{vs ws:List ae}{H:AH}(ha:H.get a=some (.list vs))(hb:H.get b=some (.list ws))(h1:vs.length<=1000)(h2:ws.length<=1000):binOp .add (.ref a) (.ref b) H=some (.ref H.next,H.new (.list (vs++ws))):=by
 refine(Gq ha).trans ?_;rw[Gq hb];exact if_pos ⟨h1,h2⟩
theorem HG{H:AH}(hl:aJ "source" l=some (.ref s))(S:Src s H)(q:∀(k:Option K) H',Src s H'->Fr (λk=>k=s) H H'->Q (fL k) H'):
  XE (run au (n+3)) (.ite (.cmp (.call (.glob "_law_take" (.top 898)) [.loc "source",.cst (.int 3)]) .eq (.cst (.int 0))) (.call (.glob "_law_one" (.top 905)) [.loc "source",.bin .add (.call (.glob "_law_kinds" (.top 912)) []) (.lst [.cst (.str "bool")])]) (.cst (.none))) l H Q E:=by
 refine iU (bK (x_call (aT (ai (av hl (ai (ax (aD ?_))))))));refine jD (n:=n+2) (t:=3) S (by decide) (by decide) λd H1 hd S1 f1=>ax (bu rH (tj (λz=>?_) λz=>ax (q none H1 S1 f1)));refine x_call (aT (ai (av hl (ai (bI (x_call (aT (aD ?_))))))));refine tl (n:=n+2) (hU (ai (ax (aD ⟨_,_,Vf (vs:=Sm) (ws:=[.str "bool"]) ((aH _ _ (Nat.lt_succ_self _)).trans (aj _ _)) (aj _ _) (by decide) (by decide),aD ?_⟩))));refine mz (n:=n+1) (fc (fc (fc S1 _) _) _) (aj _ _) (Nat.lt_succ_self _) (pY (fc (fc S1 _) _)) (by decide) (by decide) λv H2 hv S2 f2=>?_;have f3:Fr (λk=>k=s) H H2:=(((f1.trans (Fr.new _ _)).trans (Fr.new _ _)).trans (Fr.new _ _)).trans f2;refine dZ (List.mem_append.mp hv) (λh=>?_) λh=>?_
 ·refine aI (CB h) λk hk Vg=>?_
  subst Vg;exact q (some k) H2 S2 f3
 ·cases List.mem_singleton.mp h
  exact q (some .bool) H2 S2 f3
theorem Zs{P:Nat->Prop}(h0:P 0)(h1:P 1)(h2:P 2)(h3:P 3)(h4:P 4)(h5:P 5){c:Nat}(h:c<6):P c:=by
 rcases Nat.lt_succ_iff_lt_or_eq.mp h with h|rfl
 ·rcases Nat.lt_succ_iff_lt_or_eq.mp h with h|rfl
  ·rcases Nat.lt_succ_iff_lt_or_eq.mp h with h|rfl
   ·rcases Nat.lt_succ_iff_lt_or_eq.mp h with h|rfl
    ·rcases Nat.lt_succ_iff_lt_or_eq.mp h with h|rfl
     ·rw[Nat.lt_one_iff.mp h];exact h0
     ·exact h1
    ·exact h2
   ·exact h3
  ·exact h4
 ·exact h5
theorem Ry{c:Nat}{H:AH}(h:c<6):∃x,eK F (.bi (.type "str")) [.int c] H=ok (.str x) H∧binOp .add (.str "v") (.str x) H=some (.str (vS c),H):=by
 exact Zs (P:=λc=>∃x,eK F (.bi (.type "str")) [.int c] H=ok (.str x) H∧binOp .add (.str "v") (.str x) H=some (.str (vS c),H)) ⟨"0",rfl,rfl⟩ ⟨"1",rfl,rfl⟩ ⟨"2",rfl,rfl⟩ ⟨"3",rfl,rfl⟩ ⟨"4",rfl,rfl⟩ ⟨"5",rfl,rfl⟩ h
end
noncomputable def r0:Row:=⟨none,.lit 5 none⟩
noncomputable def r1:Row:=⟨none,.bin .add (.gz 0) (.lit 3 (some .u8))⟩
noncomputable def zu:List bD:=[.asg "names" (.comp (.sub (.loc "row") (.cst (.int 0))) ["row"] true (.loc "rows")),
  .asg "told" (.ite (.cmp (.call (.glob "_law_take" (.top 898)) [.loc "source",.cst (.int 3)]) .eq (.cst (.int 0))) (.call (.glob "_law_one" (.top 905)) [.loc "source",.bin .add (.call (.glob "_law_kinds" (.top 912)) []) (.lst [.cst (.str "bool")])]) (.cst (.none))),
  .expr (.aE (.loc "rows") "append" [.tup [.bin .add (.cst (.str "v")) (.call (.glob "str" (.bi (.type "str"))) [.call (.glob "len" (.bi (.builtin "len"))) [.loc "rows"]]),.loc "told",.call (.glob "_law_expr" (.top 933)) [.loc "source",.loc "names",.cst (.int 2)]]])]
section
variable{n s rw:Nat}{Q:ae->AH->Prop}{E:Nat->AH->Prop}{R:ek->Loc->AH->Prop}
theorem D8(ne:rw≠s):∀(m i N k:Nat) (rs:List Row) {H:AH}{lo:Loc},i+m=N->m<=k->aJ "source" lo=some (.ref s)->aJ "rows" lo=some (.ref rw)->2<=rs.length->rs.length+m<=6->o7 0 rs->dF rs<=8*rs.length->Src s H->H.get rw=some (.list (cF 0 rs))->rw<H.next->
  (∀H' Hg rest,aJ "rows" Hg=some (.ref rw)->o7 0 (rs++rest)->(rs++rest).length<=6->dF (rs++rest)<=8*(rs++rest).length->H'.get rw=some (.list (cF 0 (rs++rest)))->rw<H'.next->R .next Hg H')->
  WS (jt (k+1) (λv l H=>execs au (run au (n+7)) zu (bc "turn" v l) H) (.nR i N) lo H) R:=by
 intro zz;induction zz with
 |zero=>
  intro i N k rs H lo hi hk e1 e2 h2 h6 ok hs S hr lr q;refine kF (if_neg (by omega)) (q H lo [] e2 (by simpa using ok) (by simpa using h6) (by simpa using hs) (by simpa using hr) lr)
 |succ m ih=>
  intro i N k rs H lo hi hk e1 e2 h2 h6 ok hs S hr lr q;obtain⟨k,rfl⟩:∃k',k=k'+1:=⟨k-1,by omega⟩
  refine ig (v:=.int i) (it':=.nR (i+1) N) (Cg (by omega)) ?_;have a1:aJ "source" (bc "turn" (.int i) lo)=some (.ref s):=(cH (by decide)).trans e1;have a2:aJ "rows" (bc "turn" (.int i) lo)=some (.ref rw):=(cH (by decide)).trans e2;generalize bc "turn" (.int i) lo=l1 at *;unfold zu;refine aC (dg (lN (av a2 ⟨_,oS hr,?_⟩)));refine Bw (Nat.le_refl _) hr lr (by omega) rs.length 0 99999 (by omega) (by omega) (.new _ _) (aj _ _) (Nat.lt_succ_self _) λH1 f1 g1 n1=>?_;have b1:aJ "source" (bc "names" (.ref H.next) l1)=some (.ref s):=(cH (by decide)).trans a1;have b2:aJ "rows" (bc "names" (.ref H.next) l1)=some (.ref rw):=(cH (by decide)).trans a2;have b3:aJ "names" (bc "names" (.ref H.next) l1)=some (.ref H.next):=cE;show tT _ _ _ _ (bc "names" (.ref H.next) l1) _;generalize bc "names" (.ref H.next) l1=l2 at *;refine aX (aC (dg (HG (n:=n+4) b1 (S.no f1) λko H2 S2 f2=>?_)));have c1:aJ "source" (bc "told" (fL ko) l2)=some (.ref s):=(cH (by decide)).trans b1;have c2:aJ "rows" (bc "told" (fL ko) l2)=some (.ref rw):=(cH (by decide)).trans b2;have c3:aJ "names" (bc "told" (fL ko) l2)=some (.ref H.next):=(cH (by decide)).trans b3;have c4:aJ "told" (bc "told" (fL ko) l2)=some (fL ko):=cE;show tT _ _ _ _ (bc "told" (fL ko) l2) _;generalize bc "told" (fL ko) l2=l3 at *;have G5:H2.get rw=some (.list (cF 0 rs)):=(f2.2 _ (Nat.lt_of_lt_of_le lr f1.1) ne).trans ((f1.2 _ lr λz=>z.elim).trans hr);have Mq:rw<H2.next:=Nat.lt_of_lt_of_le (Nat.lt_of_lt_of_le lr f1.1) f2.1;have nn:H.next≠s:=pY S;have Ax:H2.get H.next=some (.list (iE rs.length)):=(f2.2 _ n1 nn).trans g1;have ln2:H.next<H2.next:=Nat.lt_of_lt_of_le n1 f2.1;refine aI (Ry (F:=run au (n+7)) (c:=rs.length) (H:=H2) (by omega)) λx Tw Zt=>?_;refine aX (aC (j5 (eX (av c2 ⟨_,aU G5 (.inl rfl),ai (dE (ai (bI (ax (x_call (aT (ai (x_call (aT (ai (av c2 (aD ?_))))))))))))⟩))));refine len_list G5 (by rw[cG];omega) (aD ?_);rw[cG];refine bY Tw ⟨_,_,Zt,ai (av c4 (ai (x_call (aT (ai (av c1 (ai (av c3 (ai (ax (aD ?_)))))))))))⟩;refine NU 2 (n:=n) S2 Ax ln2 nn h2 (by omega) λe H3 ho hse S3 f3=>aD (aD ?_);have Sn:=(f3.2 _ Mq ne).trans G5;refine append_list Sn (by rw[cG];omega) ?_;have Vh:cF 0 rs++[ae.tup [.str (vS rs.length),fL ko,dX e]]=cF 0 (rs++[⟨ko,e⟩]):=by rw[Bu,Nat.zero_add];rfl
  rw[Vh];refine aX (dm ?_);have Zu:rw<H3.next:=Nat.lt_of_lt_of_le Mq f3.1;refine ih (i+1) N k (rs++[⟨ko,e⟩]) (by omega) (by omega) c1 c2 (by simp;omega) (by simp;omega) (D7 ok (by rw[Nat.zero_add];exact ho)) (by rw[Bv,List.length_append];simp only[List.length_cons,List.length_nil];omega) ?_ (aF _ _ _) Zu λH' Hg rest x1 x2 x3 x4 x5 x6=>?_
  ·obtain⟨ls,a,b,hg,r⟩:=S3
   exact⟨ls,a,b,(aB _ _ (Ne.symm ne)).trans hg,r⟩
  ·rw[List.append_assoc]at x2 x3 x4 x5
   exact q H' Hg _ x1 x2 x3 x4 x5 x6
theorem HH{H:AH}(S:Src s H)(q:∀rest H' rw,o7 0 (r0::r1::rest)->(r0::r1::rest).length<=6->dF (r0::r1::rest)<=48->H'.get rw=some (.list (cF 0 (r0::r1::rest)))->rw<H'.next->Q (.ref rw) H'):W (run au (n+8) 938 [.ref s] H) Q E:=by
 refine aw (fi:=⟨["source"],[],qx⟩) (l:=[("source",.ref s)]) ?_;refine aC (dg (hU (ai (dE (ai (ax (ai (ax (ai (dE (ai (ax (ai (ax (ai (ax (ai (ax (aD (aD ?_))))))))))))))))))));refine ai (dE (ai (ax (ai (ax (ai (dE (ai (ax (ai (ax (ai (ax (ai (x_call (aT (ai (ax (aD ?_)))))))))))))))))));refine tm (n:=n+6) (ai (dE (ai (ax (ai (ax (ai (ax (ai (ax (aD (aD (aD (aD ?_))))))))))))));have S1:Src s (H.new (.list (cF 0 [r0,r1]))):=fc S _;refine aX (aC (jg (x_call (aT (ai (bI (ax (x_call (aT (ai (av rfl (ai (ax (aD ?_))))))))))))));refine jD (n:=n+6) (t:=4) S1 (by decide) (by decide) λd H1 hd S2 f2=>⟨_,_,rfl,aD ?_⟩
 have hr:(H.new (.list (cF 0 [r0,r1]))).get H.next=some (.list (cF 0 [r0,r1])):=aj _ _;have ne:H.next≠s:=pY S;have UU:=(f2.2 H.next (Nat.lt_succ_self _) ne).trans hr;have l1:H.next<H1.next:=Nat.lt_of_lt_of_le (Nat.lt_succ_self _) f2.1;have rg:eK (run au (n+7)) (.bi (.type "range")) [.int (1+(d:Int))] H1=ok (.nR (d+1)) H1:=by
  show(if 0<=1+(d:Int)∧1+(d:Int)<=100000 then ok (ae.nR (1+(d:Int)).toNat) H1 else none)=_;rw[if_pos (by omega),show(1+(d:Int)).toNat=d+1 by omega]
 refine bY rg ⟨.nR 0 (d+1),if_pos (by omega),?_⟩;refine D8 (n:=n) ne (d+1) 0 (d+1) 99999 [r0,r1] (by omega) (by omega) rfl rfl (by decide) (by simp;omega) ⟨show(none:Option K)≠some .bool by decide,⟨show(0:Nat)<1 by decide,show(some K.u8)≠some .bool by decide⟩,trivial⟩ (by decide) S2 UU l1 λH2 vh rest e2 o2 h6 hs G5 l2=>?_;refine aX (aC (dh (av e2 ?_)));exact q rest H2 H.next o2 h6 (by simp only[List.cons_append,List.nil_append]at hs h6 ⊢;omega) G5 l2
end
theorem HI:Spec [r0,r1] (some [.u8,.u8]):=by
 refine .inr ⟨λi=>if i=0 then .u8 else .j6,⟨λi=>?_,?_,λj hj=>?_⟩,?_⟩
 ·split<;>exact λz=>nomatch z
 ·refine⟨⟨trivial,λk h=>nomatch h⟩,⟨⟨trivial,trivial,.inr ?_⟩,λk h=>nomatch h⟩,trivial⟩
  rfl
 ·have:j=0:=by simp only[jk,jl,r0,r1,ij,ik,il,ip,iq,ir]at hj;omega
  subst this;refine .inr λν _ h=>?_;have:=h.2.1.1.2.2.resolve_left (λz=>nomatch z);exact this
 ·rw[if_pos (by rfl)];rfl
section
variable{n:Nat}{H:AH}
theorem HJ(k:K):isData 8 (jB k)=true:=by cases k<;>rfl
theorem JQ(k:K):ae.beq (jB k) (jB k)=true:=by cases k<;>rfl
theorem JR:∀ks:List K,(ks.map jB).all (isData 8)=true:=by
 intro zz;induction zz with
 |nil=>
  exact rfl
 |cons k ks ih=>
  exact Bool.and_eq_true_iff.mpr ⟨HJ k,ih⟩
theorem HK:∀ks:List K,wX (ks.map jB) (ks.map jB)=true:=by
 intro zz;induction zz with
 |nil=>
  exact rfl
 |cons k ks ih=>
  exact Bool.and_eq_true_iff.mpr ⟨JQ k,ih⟩
theorem HL{res:Option (List K)}{v w:ae}{H':AH}(f:Fr No H H')(h1:G9 H res v)(h2:G9 H' res w):bz .eq v w H'=some true:=by
 cases res with
 |none=>cases h1;cases h2;rfl
 |some ks=>
  refine cm h1 ?_;clear h1;intro a Rz la ga;subst Rz;refine cm h2 ?_;clear h2;intro b RA lb gb;subst RA;have Zv:=(f.2 a la λz=>z.elim).trans ga;show Ea H' _ _=_;unfold Ea;rw[mr Zv,mr gb];dsimp only;have d:isData 9 (.tup (ks.map jB))=true:=JR ks;rw[d];show some (ae.beq (.tup (ks.map jB)) (.tup (ks.map jB)))=_;rw[show ae.beq (.tup (ks.map jB)) (.tup (ks.map jB))=wX (ks.map jB) (ks.map jB)from rfl,HK]
theorem D9(xs:List Int)(hl:xs.length<=63)(hb:∀x,x∈xs->bits x<=2^20):∃H',run au 40 1005 [.kL (xs.map .int)] ⟨0,λ_=>none⟩=some (.ok (.bool true),H'):=by
 have main:W (run au (39+1) 1005 [.kL (xs.map .int)] ⟨0,λ_=>none⟩) (λv _=>v=.bool true) (λ_ _=>False):=by
  refine aw (fi:=⟨["script"],[],KN⟩) (l:=[("script",.kL (xs.map .int))]) ?_;refine aC (dg (x_call (aT (ai (x_call (aT (ai (av rfl (ai (ax (aD ?_)))))))))));refine HE (n:=38) hl hb λs H1 S1=>aD ?_;refine HH (n:=31) S1 λrest H2 rw ok h6 hs hr lr=>?_;refine aX (aC (dh (oO (bK (x_call (aT (ai (av rfl (aD ?_)))))))));refine zj (n:=19) hr lr ok h6 (List.cons_ne_nil _ _) (by omega) λZw v1 H3 MJ f3 Zx=>?_;refine x_call (aT (ai (av rfl (aD ?_))));have Sn:=(f3.2 _ lr λz=>z.elim).trans hr;refine JP (n:=32) Sn (Nat.lt_of_lt_of_le lr f3.1) ok h6 (by omega) λZy v2 H4 rq f4 WM=>?_;rw[rq.uniq MJ]at WM;refine bu (HL f4 Zx WM) (.inr ⟨rfl,lM (bK (x_call (aT (ai (Nd (av rfl ?_))))))⟩);have Zz:=(f4.2 _ (Nat.lt_of_lt_of_le lr f3.1) λz=>z.elim).trans Sn;refine⟨rw,_,rfl,Zz,by rw[cG];omega,by rw[cG];simp,aD ?_⟩;have g5:(H4.new (.list ((cF 0 (r0::r1::rest)).take 2))).get H4.next=some (.list (cF 0 [r0,r1])):=aj _ _;refine zj (n:=19) (rs:=[r0,r1]) g5 (Nat.lt_succ_self _) ⟨ok.1,ok.2.1,trivial⟩ (by decide) (List.cons_ne_nil _ _) (by decide) λZA v3 H5 MX f5 WN=>?_;rw[MX.uniq HI]at WN;refine hU (ai (dE (ai (ax (ai (ax (aD (ai (dE (ai (ax (ai (ax (aD (aD ?_)))))))))))))));have ZC:G9 (H5.new (.list [.tup [.str "int",.str "u8"],.tup [.str "int",.str "u8"]])) (some [.u8,.u8]) (.ref H5.next):=⟨_,rfl,Nat.lt_succ_self _,aj _ _⟩
  exact bu (HL (.new _ _) WN ZC) rfl
 match h:run au 40 1005 [.kL (xs.map .int)] ⟨0,λ_=>none⟩with
 |some (.ok v,H')=>
  rw[h]at main;exact⟨H',by rw[show v=.bool true from main]⟩
 |some (.error c,H')=>rw[h]at main;exact main.elim
 |none=>rw[h]at main;exact main.elim
end
noncomputable def tn(w:World)(h:Heap):Prop:=∃K:Frag,K.In h∧sE K=true∧hashesOf K=wa w∧defsOf K=lH
theorem tr{aa:Program}{w:World}{hW h:Heap}{ρ:Nat->Addr}{N:Nat}:∀{vs:List Value}{xs:List Int},IntsAre vs xs->aP (af aa w) hW h ρ N (xs.map .int) vs
 |_,_,.nil=>trivial
 |_,_,.cons n t r=>⟨⟨t,rfl⟩,tr r⟩
theorem HM{aa:Program}{w:World}{aS:Shared}{mg mb:Str->Option Value}{xs:List Int}{p:Addr}{vs:List Value}{Q E:Value->Shared->Prop}
  (Y:tn w aS.heap) (G:aS.heap.Ns mainGlobals mg) (B:aS.heap.Ns builtinsNs mb) (hb:∀x:Str,x ≠ "__name__" -> mb x=bootBuiltins x) (lim:aS.heap.NoLimit)
  (hl:aS.heap.IsList p vs.toArray) (hi:IntsAre vs xs) (ZD:xs.length<=63) (RB:∀x,x∈xs->bits x<=2^20) {a:Addr} (ha:mg "law" = some (.ref a))
  (hQ:∀h' t,(∀b o,aS.heap.get? b=some o->h'.get? b=some o)->Q (.bool true) { aS with heap:=h',toks:=t }):wpAny (model aa w) callerA (call (.ref a) [.ref p]) Q E aS:=by
 obtain⟨K,X,h1,h2,h3⟩:=Y;have Vi:=M1 X G h1;rw[Vi]at ha;cases ha;have W:uV aa w aS.heap sC au K mg mb:=Gb X G B hb lim h1 h2 h3;obtain⟨H',Vj⟩:=D9 xs ZD RB;have C:Cx callerA [] 40:=⟨rfl,rfl,by decide,by decide⟩
 have st:St (af aa w) aS.heap [] (λ_=>0) ⟨0,λ_=>none⟩ aS.heap:=
  { at_:=λn hn=>absurd hn (Nat.not_lt_zero _),inj:=λn m hn=>absurd hn (Nat.not_lt_zero _),out:=λn hn=>absurd hn (Nat.not_lt_zero _),stays:=λ_ _ e=>e,bW:=trivial,qM:=λn hn=>absurd hn (Nat.not_lt_zero _) }
 refine(Dx W 40 (by decide)).toF 1005 [.kL (xs.map .int)] _ _ callerA [] aS (λ_=>0) [.ref p] Q E Vj C st ⟨⟨p,vs,rfl,hl,tr hi⟩,trivial⟩ ?_;intro x bq h' t fg dH vr;obtain rfl:x=.bool true:=vr;exact hQ h' t fg.stays
section
set_option tactic.hygienic true
theorem HN(lk)(a b:List Stmt):noRoadLSs lk (a++b)=(noRoadLSs lk a&&noRoadLSs lk b):=by
 induction a with
 |nil=>exact(Bool.true_and _).symm
 |cons x a ih=>exact(congrArg (_&&·) ih).trans (Bool.and_assoc _ _ _).symm
theorem RC{lk}{l:List Stmt}(k:Nat)(h1:noRoadLSs lk (l.take k)=true)(h2:noRoadLSs lk (l.drop k)=true):noRoadLSs lk l=true:=by
 rw[<-List.take_append_drop k l,HN,h1,h2];rfl
theorem NV{b c:Bool}{lk:Bool->Look}{l:List Stmt}(h:b=c)(k:noRoadLSs (lk c) l=true):noRoadLSs (lk b) l=true:=h▸k
theorem JS:OpenLaw.wellSaid PySem.Challenge.rw_ot0051_01=true:=by
 unfold OpenLaw.wellSaid OpenLaw.row
 first|unfold OpenRow.wellSaid|skip
 first|unfold OpenRow.partSaid|skip
 first|unfold OpenScript.wellSaid|skip
 first|unfold looksOpen|skip
 repeat' with_reducible refine look_both ?_ ?_
 all_goals first|((with_reducible refine NV (b:=!List.all (importedModules _) _) (c:=false) (lk:=λb=>{ strict:=b,foot:=_,bare:=_,writes:=_,may:=_ }) ?_ (RC 45 ?_ ?_))<;>decide +kernel)|decide +kernel
end
section
set_option tactic.hygienic true
theorem ZE(w:World)(s:Shared)(h:yf s=ya w):tn w s.heap:=by
 unfold yf ya at h;injection h with h1 h
 injection h with h2 h3
 exact⟨v7 s.heap AB,I6 _ _,h1,h2,h3⟩
theorem ZF(w:World)(h h':Heap)(x:tn w h)(k:∀b o,h.get? b=some o->h'.get? b=some o):tn w h':=x.elim λK z=>⟨K,z.1.keeps k,z.2⟩
end
end Mine
set_option tactic.hygienic true
set_option maxHeartbeats 0 in
theorem PySem.Challenge.cw_ot0051_01_holds : PySem.Challenge.rw_ot0051_01.Holds := by
 w_on
 refine holds_law Mine.JS λZG=>?_;refine holds_open (q:=Mine.qv) (loose:=Mine.kP) (Xt:=λ_=>true) (XP:=λ_ _=>True) (Yf:=Mine.yf) (Ya:=Mine.ya) (YP:=Mine.tn) (N:=13666) Mine.left Mine.ZE Mine.ZF (λ_ _=>trivial) (λ_ _ _ _ _=>trivial) (by rfl) (by rfl) (by rfl) (λs _=>recFacts_of (by rfl)) (by rfl) (by assumption) (by decide +kernel) ⟨rfl,rfl,rfl,rfl,rfl,by decide +kernel⟩ ?hw ?hc
 case hw=>w_witness2
 intro w ZH aS mg mb G Y a o pm cd doc dV kV ho hd wL hD ZI hg args vals as Vk Vl ZJ u7 JC;refine Ground.open G ?_;intro T B D TE TW
 wrow_args Vk Vl ZJ u7 JC
 rename_i xs hs WO RD Ln Sb as2 as3 p vs as4 hL ZK hw1 ZL Vm hlen WQ hints;refine Mine.HM (xs:=xs) (vs:=vs) Y T.g T.b T.builtins T.nolimit hL Vm (by omega) (λx hx=>PyData.bits_item_of_ints RD hx) (show mg "law" = some (.ref a)from ZI) ?_;intro h' t k;refine GoodW.toG ⟨.inl ⟨_,.bool true,[],rfl,raisesW_false ?_,.bool true,?_,unshared_nil⟩,k,rfl,hg⟩
 ·wrow_none_raised
 ·wrow_post
