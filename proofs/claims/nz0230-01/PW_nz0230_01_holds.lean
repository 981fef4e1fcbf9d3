import PyProof.Rows.All
import Wide.All
import OpenK.AllK
import Wide.FinOn
import PyProof.Methods
import PyProof.AutoListH
import PyProof.SliceList
import PyProof.SumWalk
import PyProof.DictKinds
import PyProof.EqAt
import PyProof.EqKinds
import PyProof.NeKinds
import PyProof.Rows.StrInSeq
import Lean
import PySem.Challenge.RW_nz0230_01
set_option Elab.async false
set_option maxRecDepth 100000
set_option maxHeartbeats 0
set_option linter.all false
set_option compiler.extract_closed false
noncomputable section
namespace Mine
section
open PySem PySem.W
inductive HT where
 |nil
 |node (v:Option Obj) (l r:HT)
def HT.getK(t:HT):Nat→Option Obj:=
 HT.rec (motive:=fun _=>Nat→Option Obj) (fun _=>none)
  (fun v _ _ gl gr k=>@Bool.rec (fun _=>Option Obj) (@Bool.rec (fun _=>Option Obj) (gl (Nat.div k 2)) (gr (Nat.div k 2)) (Nat.beq (Nat.mod k 2) 1)) v (Nat.beq k 1)) t
def HT.chain(n:Nat):Nat→Obj→HT:=
 Nat.rec (motive:=fun _=>Nat→Obj→HT) (fun _ _=>.nil)
  (fun _ c k o=>@Bool.rec (fun _=>HT) (@Bool.rec (fun _=>HT) (.node none (c (Nat.div k 2) o) .nil) (.node none .nil (c (Nat.div k 2) o)) (Nat.beq (Nat.mod k 2) 1)) (.node (some o) .nil .nil) (Nat.beq k 1)) n
def HT.putK(t:HT):Nat→Obj→HT:=
 HT.rec (motive:=fun _=>Nat→Obj→HT) (fun k o=>HT.chain 40 k o)
  (fun v l r pl pr k o=>@Bool.rec (fun _=>HT) (@Bool.rec (fun _=>HT) (.node v (pl (Nat.div k 2) o) r) (.node v l (pr (Nat.div k 2) o)) (Nat.beq (Nat.mod k 2) 1)) (.node (some o) l r) (Nat.beq k 1)) t
theorem qC(a b:Nat):Nat.beq a b=decide (a=b):=BT.beq_eq a b
theorem HT.get_nil(k:Nat):HT.getK .nil k=none:=rfl
theorem HT.get_node(v:Option Obj)(l r:HT)(k:Nat):HT.getK (.node v l r) k=if k=1 then v else if k%2=1 then r.getK (k/2) else l.getK (k/2):=by
 show @Bool.rec (fun _=>Option Obj) (@Bool.rec (fun _=>Option Obj) (l.getK (k/2)) (r.getK (k/2)) (Nat.beq (k%2) 1)) v (Nat.beq k 1)=_
 rw[qC,qC]
 by_cases h1:k=1
 ·simp[h1]
 ·by_cases h2:k%2=1<;>simp[h1,h2]
theorem HT.put_node(v:Option Obj)(l r:HT)(k:Nat)(o:Obj):HT.putK (.node v l r) k o=if k=1 then .node (some o) l r else if k%2=1 then .node v l (r.putK (k/2) o) else .node v (l.putK (k/2) o) r:=by
 show @Bool.rec (fun _=>HT) (@Bool.rec (fun _=>HT) (.node v (l.putK (k/2) o) r) (.node v l (r.putK (k/2) o)) (Nat.beq (k%2) 1)) (.node (some o) l r) (Nat.beq k 1)=_
 rw[qC,qC]
 by_cases h1:k=1
 ·simp[h1]
 ·by_cases h2:k%2=1<;>simp[h1,h2]
theorem HT.put_nil(k:Nat)(o:Obj):HT.putK .nil k o=HT.chain 40 k o:=rfl
theorem HT.chain_succ(n k:Nat)(o:Obj):HT.chain (n+1) k o=if k=1 then .node (some o) .nil .nil else if k%2=1 then .node none .nil (HT.chain n (k/2) o) else .node none (HT.chain n (k/2) o) .nil:=by
 show @Bool.rec (fun _=>HT) (@Bool.rec (fun _=>HT) (.node none (HT.chain n (k/2) o) .nil) (.node none .nil (HT.chain n (k/2) o)) (Nat.beq (k%2) 1)) (.node (some o) .nil .nil) (Nat.beq k 1)=_
 rw[qC,qC]
 by_cases h1:k=1
 ·simp[h1]
 ·by_cases h2:k%2=1<;>simp[h1,h2]
theorem HT.chain_ne(o:Obj):∀(n k k':Nat),1≤k→1≤k'→k≠k'→(HT.chain n k o).getK k'=none
 |0,_,_,_,_,_=>rfl
 |n+1,k,k',h1,h2,h3=>by
  rw[chain_succ]
  by_cases a:k=1
  ·rw[if_pos a,get_node,if_neg (by omega)]
   split<;>rfl
  ·rw[if_neg a]
   by_cases b:k%2=1
   ·rw[if_pos b,get_node]
    by_cases c:k'=1
    ·rw[if_pos c]
    ·rw[if_neg c]
     by_cases d:k'%2=1
     ·rw[if_pos d];exact chain_ne o n _ _ (by omega) (by omega) (by omega)
     ·rw[if_neg d];rfl
   ·rw[if_neg b,get_node]
    by_cases c:k'=1
    ·rw[if_pos c]
    ·rw[if_neg c]
     by_cases d:k'%2=1
     ·rw[if_pos d];rfl
     ·rw[if_neg d];exact chain_ne o n _ _ (by omega) (by omega) (by omega)
theorem HT.chain_self(o:Obj):∀(n k:Nat),(HT.chain n k o).getK k=some o∨(HT.chain n k o).getK k=none
 |0,_=>.inr rfl
 |n+1,k=>by
  rw[chain_succ]
  by_cases a:k=1
  ·rw[if_pos a,get_node,if_pos a];exact .inl rfl
  ·rw[if_neg a]
   by_cases b:k%2=1
   ·rw[if_pos b,get_node,if_neg a,if_pos b];exact chain_self o n _
   ·rw[if_neg b,get_node,if_neg a,if_neg b];exact chain_self o n _
theorem HT.put_ne(o:Obj):∀(t:HT) (k k':Nat),1≤k→1≤k'→k≠k'→(t.putK k o).getK k'=t.getK k'
 |.nil,k,k',h1,h2,h3=>by rw[put_nil,chain_ne o 40 k k' h1 h2 h3];rfl
 |.node v l r,k,k',h1,h2,h3=>by
  rw[put_node,get_node v l r]
  by_cases a:k=1
  ·have hk:k'≠1:=by omega
   rw[if_pos a,get_node,if_neg hk,if_neg hk]
  ·rw[if_neg a]
   by_cases b:k%2=1
   ·rw[if_pos b,get_node]
    by_cases c:k'=1
    ·rw[if_pos c,if_pos c]
    ·rw[if_neg c,if_neg c]
     by_cases d:k'%2=1
     ·rw[if_pos d,if_pos d];exact put_ne o r _ _ (by omega) (by omega) (by omega)
     ·rw[if_neg d,if_neg d]
   ·rw[if_neg b,get_node]
    by_cases c:k'=1
    ·rw[if_pos c,if_pos c]
    ·rw[if_neg c,if_neg c]
     by_cases d:k'%2=1
     ·rw[if_pos d,if_pos d]
     ·rw[if_neg d,if_neg d];exact put_ne o l _ _ (by omega) (by omega) (by omega)
theorem HT.put_self(o:Obj):∀(t:HT) (k:Nat),(t.putK k o).getK k=some o∨(t.putK k o).getK k=none
 |.nil,k=>chain_self o 40 k
 |.node v l r,k=>by
  rw[put_node]
  by_cases a:k=1
  ·rw[if_pos a,get_node,if_pos a];exact .inl rfl
  ·rw[if_neg a]
   by_cases b:k%2=1
   ·rw[if_pos b,get_node,if_neg a,if_pos b];exact put_self o r _
   ·rw[if_neg b,get_node,if_neg a,if_neg b];exact put_self o l _
theorem wI(a b:List UInt8):S.codeB (a++b)=S.codeB a+256^a.length*S.codeB b:=by
 induction a with
 |nil=>show S.codeB b=0+256^0*S.codeB b;omega
 |cons x a ih=>
  have e1:S.codeB (x::a++b)=Nat.succ (S.codeB (a++b)*256+x.toBitVec.toFin.val):=rfl
  have e2:S.codeB (x::a)=Nat.succ (S.codeB a*256+x.toBitVec.toFin.val):=rfl
  have e3:256^(x::a).length=256^a.length*256:=Nat.pow_succ _ _
  rw[e1,e2,ih,e3,Nat.add_mul]
  have:256^a.length*256*S.codeB b=256^a.length*S.codeB b*256:=by
   rw[Nat.mul_assoc,Nat.mul_comm 256,←Nat.mul_assoc]
  omega
theorem wk{id:String}(h:id.startsWith "lifetime."=true):S.codeS id%256^9=874377925356117518957:=by
 obtain⟨t,ht⟩:=String.startsWith_string_iff.mp h
 have e:id="lifetime."++String.ofList t:=by
  apply String.toList_inj.mp
  exact ht.symm.trans (by rw[String.toList_append];exact congrArg ("lifetime.".toList++·) (String.toList_ofList (l:=t)).symm)
 have eb:id.toByteArray.data.toList="lifetime.".toByteArray.data.toList++(String.ofList t).toByteArray.data.toList:=by
  rw[e,String.toByteArray_append,ByteArray.data_append,Array.toList_append]
 have e9:"lifetime.".toByteArray.data.toList.length=9:=by decide +kernel
 have eL:S.codeB "lifetime.".toByteArray.data.toList=874377925356117518957:=by decide +kernel
 show S.codeB id.toByteArray.data.toList%256^9=_
 rw[eb,wI,e9,eL,Nat.add_mul_mod_self_left]
def fZ(c:Code):Bool:=match c with
 |.builtin id _=>Bool.not (Nat.beq (Nat.mod (S.codeS id) 4722366482869645213696) 874377925356117518957)
 |_=>true
theorem uk{c:Code}(h:fZ c=true):c.quiet=true:=by
 cases c with
 |builtin id args=>
  refine Code.quiet_builtin args ?_
  cases q:id.startsWith "lifetime." with
  |false=>rfl
  |true=>
   have e:=wk q
   have h':Bool.not (Nat.beq (S.codeS id%256^9) 874377925356117518957)=true:=h
   rw[e]at h'
   exact absurd h' (by decide)
 |_=>rfl
inductive Hn where
 |nil
 |ld (i:Nat) (r:Hn)
 |fork (a b:Hn)
 |orc (i:Nat) (r:Hn)
inductive Claim where
 |eq (a b:Nat)
 |tr (c b:Bool)
 |ask (k:Setting→Sem PySem.Fin)
 |code (a b:Code)
 |obj (a b:Option Obj)
 |gl (a b:List (Addr×Obj))
 |bel (a b:List (Code×Pos))
inductive Q where
 |ok (r:Result) (T:HT) (c tk:Nat) (A:List Claim) (H:Hn)
 |fork (b:Bool) (x y:Q)
 |no
abbrev mn:=Ctx→Code→Pos→HT→Nat→Nat→List Claim→Hn→Q
structure Cfg where
 S:HT
 B:Nat
 rho:Nat→Nat
 tok:Nat→Nat
 G:Nat→List (Addr×Obj)
 st:Setting
abbrev fR:=Bool→mn→Cfg→Ctx→Pos→HT→Nat→Nat→List Claim→Hn→Q
def Q.andThen(q:Q)(f:Result→HT→Nat→Nat→List Claim→Hn→Q):Q:=
 @Q.rec (fun _=>Q) (fun r T c tk A H=>f r T c tk A H) (fun b _ _ x y=>.fork b x y) .no q
def AP(g:Cfg)(a:Addr)(T:HT)(A:List Claim)(H:Hn)(k:Obj→Nat→List Claim→Hn→Q):Q:=
 @Hn.rec (fun _=>Q) .no (fun j H' _=>@Nat.rec (fun _=>Q) .no (fun j' _=>@Option.rec Obj (fun _=>Q) .no (fun o=>k o j' (.eq a (g.rho j')::A) H') (T.getK (.add j' 1))) j) (fun _ _ _ _=>.no) (fun _ _ _=>.no) H
def zi(g:Cfg)(a:Addr)(T:HT)(A:List Claim)(H:Hn)(k:Obj→List Claim→Hn→Q):Q:=
 @Hn.rec (fun _=>Q) .no (fun j H' _=>@Nat.rec (fun _=>Q) (@Option.rec Obj (fun _=>Q) .no (fun o=>k o A H') (g.S.getK (.add a 1)))
  (fun j' _=>@Option.rec Obj (fun _=>Q) .no (fun o=>k o (.eq a (g.rho j')::A) H') (T.getK (.add j' 1))) j) (fun _ _ _ _=>.no) (fun _ _ _=>.no) H
def kf(c:Bool)(A:List Claim)(H:Hn)(k:Bool→List Claim→Hn→Q):Q:=
 @Hn.rec (fun _=>Q) .no (fun j H' _=>@Nat.rec (fun _=>Q) (@Bool.rec (fun _=>Q) (k false A H') (k true A H') c)
   (fun j' _=>@Nat.rec (fun _=>Q) (k true (.tr c true::A) H') (fun j'' _=>@Nat.rec (fun _=>Q) (k false (.tr c false::A) H') (fun _ _=>k c A H') j'') j') j)
  (fun x y _ _=>.fork c (k true A x) (k false A y)) (fun _ _ _=>.no) H
def sPure(fin:PySem.Fin):fR:=fun _ ih _ Γ p T c tk A H=>
 @PySem.Fin.rec (fun _=>Q) (fun f=>.ok (.ok f) T c tk A H) (fun cd=>@Bool.rec (fun _=>Q) .no (ih (Γ.goto cd) cd p T c tk A H) (fZ cd)) fin
def sLoad(a:Addr)(kih:Obj→fR):fR:=fun mk ih g Γ p T c tk A H=>zi g a T A H fun o A H=>kih o mk ih g Γ p T c tk A H
def sAlive(a:Addr)(kih:Option Obj→fR):fR:=fun mk ih g Γ p T c tk A H=>zi g a T A H fun o A H=>kih (some o) mk ih g Γ p T c tk A H
def sUpd(a:Addr)(f:Obj→Obj)(kih:Unit→fR):fR:=fun mk ih g Γ p T c tk A H=>AP g a T A H fun o j A H=>
 @Bool.rec (fun _=>Q) (kih () mk ih g Γ p (T.putK (.add j 1) (f o)) c tk A H) .no (f o).isFreed
def sAlloc(o:Obj)(kih:Addr→fR):fR:=fun mk ih g Γ p T c tk A H=>
 @Bool.rec (fun _=>Q) (kih (g.rho c) mk ih g Γ p (T.putK (.add c 1) o) (.add c 1) tk (.gl (g.G (.add c 1)) (g.G c)::.eq (g.rho (.add c 1)) (Nat.succ (g.rho c))::A) H) .no o.isFreed
def sFresh(kih:Tok→fR):fR:=fun mk ih g Γ p T c tk A H=>
 kih (g.tok tk) mk ih g Γ p T c (.add tk 1) (.eq (g.tok (.add tk 1)) (Nat.succ (g.tok tk))::A) H
def sCall(cd:Code)(h:Option Value)(kih:Result→fR):fR:=fun mk ih g Γ p T c tk A H=>
 Q.andThen (ih (Γ.enter cd h p) cd p T c tk A H) fun r T c tk A H=>kih r mk ih g Γ p T c tk A H
def sMark(a:Addr)(live:List Value)(kih:Bool→fR):fR:=fun mk ih g Γ p T c tk A H=>
 @Bool.rec (fun _=>Q) .no (@List.rec Value (fun _=>Q) .no (fun v _ _=>match v with
  |.int x _=>@Int.rec (fun _=>Q) (fun n=>kih true mk ih g Γ p T c tk (.eq a n::A) H) (fun _=>.no) x
  |.bool b=>kf b A H fun b A H=>kih b mk ih g Γ p T c tk A H
  |_=>.no) live) mk
def dE(t:Sem PySem.Fin):fR:=
 Sem.rec (motive:=fun _=>fR)
  (pure:=sPure)
  (raise:=fun e _ _ _ _ _ T c tk A H=>.ok (.error e) T c tk A H)
  (unsupported:=fun _ _ _ _ _ _ _ _ _ _ _=>.no)
  (finish:=fun _ _ _ _ _ _ _ _ _ _ _=>.no)
  (rule:=fun _ _ kih=>kih ())
  («at»:=fun q _ kih mk ih g Γ _ T c tk A H=>kih () mk ih g Γ q T c tk A H)
  (load:=fun a _ _ kih=>sLoad a kih)
  (update:=fun a _ f _ kih=>sUpd a f kih)
  (alloc:=fun o _ kih=>sAlloc o kih)
  (loadIfAlive:=fun a _ kih=>sAlive a kih)
  (point:=fun _ _ kih=>kih ())
  (register:=fun _ _ _ _ _ _ _ _ _ _ _ _ _=>.no)
  (fresh:=fun _ kih=>sFresh kih)
  (ask:=fun k kih mk ih g Γ p T c tk A H=>kih g.st mk ih g Γ p T c tk (.ask k::A) H)
  (choose:=fun _ _ _ _ _ _ _ _ _ _ _ _ _ _=>.no)
  (os:=fun _ _ _ _ _ _ _ _ _ _ _ _ _ _=>.no)
  (call:=fun cd h _ _ _ kih=>sCall cd h kih)
  (handled:=fun own _ kih mk ih g Γ=>kih (@Bool.rec (fun _=>Option Value) Γ.handled Γ.own own) mk ih g Γ)
  (newGen:=fun _ _ _ _ _ _ _ _ _ _ _ _ _=>.no)
  (genState:=fun _ _ _ _ _ _ _ _ _ _ _ _ _=>.no)
  (resume:=fun _ _ _ _ _ _ _ _ _ _ _ _ _ _ _=>.no)
  (yield:=fun _ _ _ _ _ _ _ _ _ _ _ _ _ _ _=>.no)
  (stack:=fun _ kih mk ih g Γ p=>kih ((Γ.code,p)::Γ.below) mk ih g Γ p)
  (fork:=fun _ _ _ _ _ _ _ _ _ _ _ _ _=>.no)
  (thread:=fun _ kih=>kih 0)
  (await:=fun a _ _ live _ kih=>sMark a live kih)
  t
abbrev WT:=Bool×Sem PySem.Fin
abbrev j0:=Nat→Cfg→Ctx→Code→HT→Nat→Nat→List Claim→Hn→Q
def se(W:Code→WT)(O:j0)(g:Cfg)(N:Nat):mn:=
 @Nat.rec (fun _=>mn) (fun _ _ _ _ _ _ _ _=>.no) (fun _ ih Γ cd p T c tk A H=>
  @Hn.rec (fun _=>Q) (@Prod.rec Bool (Sem PySem.Fin) (fun _=>Q) (fun mk t=>dE t mk ih g Γ p T c tk A .nil) (W cd))
   (fun i r _=>@Prod.rec Bool (Sem PySem.Fin) (fun _=>Q) (fun mk t=>dE t mk ih g Γ p T c tk A (.ld i r)) (W cd))
   (fun x y _ _=>@Prod.rec Bool (Sem PySem.Fin) (fun _=>Q) (fun mk t=>dE t mk ih g Γ p T c tk A (.fork x y)) (W cd))
   (fun i r _=>@Bool.rec (fun _=>Q) (O i g Γ cd T c tk A r) (@Prod.rec Bool (Sem PySem.Fin) (fun _=>Q) (fun mk t=>dE t mk ih g Γ p T c tk A (.orc (Nat.sub i 2000) r)) (W cd)) (Nat.ble 2000 i)) H) N
structure Leaf where
 r:Result
 T:HT
 c:Nat
 tk:Nat
 A:List Claim
 H:Hn
def Q.leaf:Q→Option Leaf
 |.ok r T c tk A H=>some ⟨r,T,c,tk,A,H⟩
 |.fork b x y=>bif b then x.leaf else y.leaf
 |.no=>none
def Leaf.go(l:Leaf)(f:Result→HT→Nat→Nat→List Claim→Hn→Q):Q:=f l.r l.T l.c l.tk l.A l.H
theorem Q.leaf_andThen(q:Q)(f):(Q.andThen q f).leaf=q.leaf.bind fun l=>(l.go f).leaf:=by
 induction q with
 |ok=>rfl
 |fork b x y hx hy=>
  show (bif b then (Q.andThen x f).leaf else (Q.andThen y f).leaf)=(bif b then x.leaf else y.leaf).bind _
  cases b<;>assumption
 |no=>rfl
def Claim.So(M:Model)(st:Setting):Claim→Prop
 |.eq a b=>a=b
 |.tr c b=>c=b
 |.ask k=>k ⟨M.prog,M.w.params⟩=k st
 |.code a b=>a=b
 |.obj a b=>a=b
 |.gl a b=>a=b
 |.bel a b=>a=b
def pk(M:Model)(st:Setting)(A:List Claim):Prop:=∀x∈A,x.So M st
structure Rep (g:Cfg) (h:Heap) (T:HT) (c:Nat):Prop where
 size:h.objs.size=g.rho c
 big:g.B≤h.objs.size
 still:∀a o,g.S.getK (a+1)=some o→h.get? a=some o
 under:∀a o,g.S.getK (a+1)=some o→a<g.B
 at_:∀k o,T.getK (k+1)=some o→g.B≤g.rho k∧h.get? (g.rho k)=some o
 inj:∀i j o o',T.getK (i+1)=some o→T.getK (j+1)=some o'→g.rho i=g.rho j→i=j
 ghost:∀x∈g.G c,h.get? x.1=some x.2∧∀k o,T.getK (k+1)=some o→g.rho k≠x.1
def zT(g:Cfg)(T:HT)(b:Addr):Prop:=∀k o,T.getK (k+1)=some o→g.rho k≠b
def Kept2(g:Cfg)(T:HT)(h:Heap)(T':HT)(h':Heap):Prop:=∀b,b<h.objs.size→zT g T b→zT g T' b∧∀o,h.get? b=some o→h'.get? b=some o
def lB(c:Code):Bool:=match c with|.builtin "type.__call__" ⟨.ref _::_,_⟩=>true|_=>false
def unitsOf(L:List (Code×Pos)):Nat:=((L.map (·.1)).map (·.frames)).sum+((L.map (·.1)).filter lB).length
def Few(L:List (Code×Pos)):Prop:=unitsOf L<700
def Lim(Γ:Ctx)(N:Nat):Prop:=(Γ.handled=none∧Γ.own=none∧Γ.past=none)∧unitsOf Γ.below+4*N<700
theorem Co(c:Code):c.frames≤3:=by
 unfold Code.frames
 split<;>first|omega|(split<;>omega)
theorem Jb{α:Type}(f:α→Bool)(x:α)(l:List α):(List.filter f (x::l)).length≤(List.filter f l).length+1:=by
 rw[List.filter_cons];cases f x<;>simp
theorem hH(x:Code×Pos)(L:List (Code×Pos)):unitsOf (x::L)≤unitsOf L+4:=by
 have h:=Co x.1
 have h2:=Jb lB x.1 (L.map (·.1))
 unfold unitsOf
 simp only[List.map_cons,List.sum_cons]
 omega
def LimU(Γ:Ctx)(N:Nat):Prop:=unitsOf Γ.below+4*N<700
theorem Lim.u{Γ:Ctx}{N:Nat}(h:Lim Γ N):LimU Γ N:=h.2
theorem LimU.few{Γ:Ctx}{N:Nat}(h:LimU Γ (N+1))(p:Pos):Few ((Γ.code,p)::Γ.below):=by
 have:=hH (Γ.code,p) Γ.below
 unfold LimU at h;unfold Few;omega
theorem LimU.goto{Γ:Ctx}{N:Nat}(h:LimU Γ (N+1))(c:Code):LimU (Γ.goto c) N:=by
 unfold LimU at h
 show unitsOf Γ.below+_<_
 omega
theorem LimU.enter{Γ:Ctx}{N:Nat}(h:LimU Γ (N+1))(c:Code)(hd:Option Value)(p:Pos):LimU (Γ.enter c hd p) N:=by
 have:=hH (Γ.code,p) Γ.below
 unfold LimU at h
 show unitsOf ((Γ.code,p)::Γ.below)+_<_
 omega
def SOut(M:Model)(g:Cfg)(Γ:Ctx)(t:Sem PySem.Fin)(p:Pos)(T:HT)(c tk:Nat)(A:List Claim)(l:Leaf):Prop:=
 (∃xs,l.A=xs++A)∧(pk M g.st l.A→∀h gs d os,Rep g h T c→
  ∃h',Runs M Γ p t [] ⟨h,gs,d,g.tok tk,os⟩ (.ret l.r) ⟨h',gs,d,g.tok l.tk,os⟩∧Rep g h' l.T l.c∧Kept2 g T h l.T h'∧h'.life=h.life∧h.objs.size≤h'.objs.size)
def ye(M:Model)(g:Cfg)(N:Nat)(f:mn):Prop:=
 ∀Γ cd p T c tk A H l,Γ.code=cd→LimU Γ N→(f Γ cd p T c tk A H).leaf=some l→SOut M g Γ (M.den cd) p T c tk A l
inductive Sim:Bool→Sem PySem.Fin→Sem PySem.Fin→Prop
 |pure {mk} (f):Sim mk (.pure f) (.pure f)
 |raise {mk} (e):Sim mk (.raise e) (.raise e)
 |unsupported {mk t₀} (w):Sim mk t₀ (.unsupported w)
 |finish {mk t₀} (w):Sim mk t₀ (.finish w)
 |rule {mk k k'} (tag tag'):Sim mk (k ()) (k' ())→Sim mk (.rule tag k) (.rule tag' k')
 |ruleL {mk k t} (tag):Sim mk (k ()) t→Sim mk (.rule tag k) t
 |«at» {mk k k'} (q):Sim mk (k ()) (k' ())→Sim mk (.at q k) (.at q k')
 |load {mk k k'} (a part part'):(∀o,Sim mk (k o) (k' o))→Sim mk (.load a part k) (.load a part' k')
 |update {mk k k'} (a part part' f):Sim mk (k ()) (k' ())→Sim mk (.update a part f k) (.update a part' f k')
 |alloc {mk k k'} (o):(∀a,Sim mk (k a) (k' a))→Sim mk (.alloc o k) (.alloc o k')
 |loadIfAlive {mk k k'} (a):(∀o,Sim mk (k o) (k' o))→Sim mk (.loadIfAlive a k) (.loadIfAlive a k')
 |point {mk k k'} (l l'):Sim mk (k ()) (k' ())→Sim mk (.point l k) (.point l' k')
 |pointL {mk k t} (l):Sim mk (k ()) t→Sim mk (.point l k) t
 |register {mk t₀ k} (a):Sim mk t₀ (.register a k)
 |fresh {mk k k'}:(∀a,Sim mk (k a) (k' a))→Sim mk (.fresh k) (.fresh k')
 |ask {mk k k'}:(∀s,Sim mk (k s) (k' s))→Sim mk (.ask k) (.ask k')
 |choose {mk t₀ k} (s n):Sim mk t₀ (.choose s n k)
 |os {mk t₀ k} (s n):Sim mk t₀ (.os s n k)
 |call {mk k k'} (c hd gd gd' l l'):(∀r,Sim mk (k r) (k' r))→Sim mk (.call c hd gd l k) (.call c hd gd' l' k')
 |handled {mk k k'} (own):(∀r,Sim mk (k r) (k' r))→Sim mk (.handled own k) (.handled own k')
 |newGen {mk t₀ k} (s):Sim mk t₀ (.newGen s k)
 |genState {mk t₀ k} (s):Sim mk t₀ (.genState s k)
 |resume {mk t₀ k} (a b c):Sim mk t₀ (.resume a b c k)
 |yield {mk t₀ k} (a b c):Sim mk t₀ (.yield a b c k)
 |stack {mk k k'}:(∀r,Sim mk (k r) (k' r))→Sim mk (.stack k) (.stack k')
 |stackC {t k}:(∀L,Few L→Sim true (k L) t)→Sim true (.stack k) t
 |fork {mk t₀ k} (s):Sim mk t₀ (.fork s k)
 |thread {mk k k'}:Sim mk (k 0) (k' 0)→Sim mk (.thread k) (.thread k')
 |awaitF {t₀ k} (a take timed live):Sim false t₀ (.await a take timed live k)
 |awaitNo {t₀ k} (a take timed):Sim true t₀ (.await a take timed [] k)
 |claim {t₀ k} (a x take timed u ls):(a=x→Sim true t₀ (k true))→Sim true t₀ (.await a take timed (.int (Int.ofNat x) u::ls) k)
 |cond {t₀ k} (a c take timed ls):(∀b,c=b→Sim true t₀ (k b))→Sim true t₀ (.await a take timed (.bool c::ls) k)
theorem Sim.refl(t:Sem PySem.Fin):Sim false t t:=by
 induction t with
 |pure f=>exact .pure f
 |raise e=>exact .raise e
 |unsupported=>exact .unsupported _
 |finish=>exact .finish _
 |rule tag k kih=>exact .rule _ _ (kih ())
 |«at» q k kih=>exact .at _ (kih ())
 |load a part k kih=>exact .load _ _ _ kih
 |update a part f k kih=>exact .update _ _ _ _ (kih ())
 |alloc o k kih=>exact .alloc _ kih
 |loadIfAlive a k kih=>exact .loadIfAlive _ kih
 |point l k kih=>exact .point _ _ (kih ())
 |register=>exact .register _
 |fresh k kih=>exact .fresh kih
 |ask k kih=>exact .ask kih
 |choose=>exact .choose _ _
 |os=>exact .os _ _
 |call c hd gd l k kih=>exact .call _ _ _ _ _ _ kih
 |handled own k kih=>exact .handled _ kih
 |newGen=>exact .newGen _
 |genState=>exact .genState _
 |resume=>exact .resume _ _ _
 |yield=>exact .yield _ _ _
 |stack k kih=>exact .stack kih
 |fork=>exact .fork _
 |thread k kih=>exact .thread (kih 0)
 |await=>exact .awaitF _ _ _ _
theorem oA{g:Cfg}{a:Addr}{T:HT}{A:List Claim}{H:Hn}{k:Obj→Nat→List Claim→Hn→Q}{l:Leaf}(e:(AP g a T A H k).leaf=some l):
  ∃j H' o,T.getK (j+1)=some o∧(k o j (.eq a (g.rho j)::A) H').leaf=some l:=by
 cases H with
 |nil=>cases e
 |fork x y=>cases e
 |orc i r=>cases e
 |ld j H'=>
  cases j with
  |zero=>cases e
  |succ j=>
   have e':(@Option.rec Obj (fun _=>Q) .no (fun o=>k o j (.eq a (g.rho j)::A) H') (T.getK (j+1))).leaf=some l:=e
   cases ho:T.getK (j+1) with
   |none=>rw[ho]at e';cases e'
   |some o=>rw[ho]at e';exact⟨j,H',o,ho,e'⟩
theorem je{g:Cfg}{a:Addr}{T:HT}{A:List Claim}{H:Hn}{k:Obj→List Claim→Hn→Q}{l:Leaf}(e:(zi g a T A H k).leaf=some l):
  ∃H' o xs,(k o (xs++A) H').leaf=some l∧(∀M st,pk M st xs→∀h c,Rep g h T c→h.get? a=some o):=by
 cases H with
 |nil=>cases e
 |fork x y=>cases e
 |orc i r=>cases e
 |ld j H'=>
  cases j with
  |zero=>
   have e':(@Option.rec Obj (fun _=>Q) .no (fun o=>k o A H') (g.S.getK (a+1))).leaf=some l:=e
   cases ho:g.S.getK (a+1) with
   |none=>rw[ho]at e';cases e'
   |some o=>rw[ho]at e';exact⟨H',o,[],e',fun _ _ _ h c R=>R.still a o ho⟩
  |succ j=>
   have e':(@Option.rec Obj (fun _=>Q) .no (fun o=>k o (.eq a (g.rho j)::A) H') (T.getK (j+1))).leaf=some l:=e
   cases ho:T.getK (j+1) with
   |none=>rw[ho]at e';cases e'
   |some o=>
    rw[ho]at e'
    refine⟨H',o,[.eq a (g.rho j)],e',fun M st S h c R=>?_⟩
    have:a=g.rho j:=S (.eq a (g.rho j)) (by simp)
    rw[this];exact(R.at_ _ _ ho).2
theorem gc{c:Bool}{A:List Claim}{H:Hn}{k:Bool→List Claim→Hn→Q}{l:Leaf}(e:(kf c A H k).leaf=some l):
  ∃b H' xs,(k b (xs++A) H').leaf=some l∧(c=b∨xs=[.tr c b]):=by
 cases H with
 |nil=>cases e
 |orc i r=>cases e
 |fork x y=>
  have e':(bif c then (k true A x).leaf else (k false A y).leaf)=some l:=e
  cases c with
  |true=>exact⟨true,x,[],e',.inl rfl⟩
  |false=>exact⟨false,y,[],e',.inl rfl⟩
 |ld j H'=>
  match j with
  |0=>
   cases c with
   |true=>exact⟨true,H',[],e,.inl rfl⟩
   |false=>exact⟨false,H',[],e,.inl rfl⟩
  |1=>exact⟨true,H',[.tr c true],e,.inr rfl⟩
  |2=>exact⟨false,H',[.tr c false],e,.inr rfl⟩
  |n+3=>exact⟨c,H',[],e,.inl rfl⟩
theorem Rep.put{g:Cfg}{h:Heap}{T:HT}{c:Nat}(H:Rep g h T c){j:Nat}{o:Obj}{f:Obj→Obj}(e:T.getK (j+1)=some o)(hf:(f o).isFreed=false):
  Rep g (h.update (g.rho j) f) (T.putK (j+1) (f o)) c∧Kept2 g T h (T.putK (j+1) (f o)) (h.update (g.rho j) f)∧h.objs.size≤(h.update (g.rho j) f).objs.size:=by
 obtain⟨hB,ho⟩:=H.at_ j o e
 have hs:(h.update (g.rho j) f).objs.size=h.objs.size:=(Heap.SameBut.update (a:=g.rho j) (h:=h) (f:=f) |>.1)
 have key:∀k o',(T.putK (j+1) (f o)).getK (k+1)=some o'→(k=j∧o'=f o)∨(k≠j∧T.getK (k+1)=some o'):=fun k o' hk=>by
  by_cases q:k=j
  ·subst q
   rcases HT.put_self (f o) T (k+1) with z|z
   ·rw[z]at hk;cases hk;exact .inl ⟨rfl,rfl⟩
   ·rw[z]at hk;cases hk
  ·rw[HT.put_ne _ _ _ _ (by omega) (by omega) (by omega)]at hk
   exact .inr ⟨q,hk⟩
 have live:∀k o',(T.putK (j+1) (f o)).getK (k+1)=some o'→∃o'',T.getK (k+1)=some o'':=fun k o' hk=>by
  rcases key k o' hk with ⟨rfl,_⟩|⟨_,hk'⟩
  ·exact⟨o,e⟩
  ·exact⟨o',hk'⟩
 refine⟨⟨hs.trans H.size,hs▸H.big,fun a o' ha=>(Heap.get?_update_ne _ _ _ _ (Nat.ne_of_lt (Nat.lt_of_lt_of_le (H.under a o' ha) hB))).trans (H.still a o' ha),H.under,fun k o' hk=>?_,fun i k o' o'' hi hk hr=>?_,fun x hx=>⟨(Heap.get?_update_ne _ _ _ _ (fun z=>(H.ghost x hx).2 _ _ e z.symm)).trans (H.ghost x hx).1,fun k o' hk=>?_⟩⟩,
  fun b hb hn=>⟨fun k o' hk=>?_,fun o' hb'=>?_⟩,Nat.le_of_eq hs.symm⟩
 ·rcases key k o' hk with ⟨rfl,rfl⟩|⟨q,hk'⟩
  ·exact⟨hB,Heap.get?_update_self _ ho hf⟩
  ·obtain⟨a,b⟩:=H.at_ k o' hk'
   exact⟨a,(Heap.get?_update_ne _ _ _ _ (fun z=>q (H.inj _ _ _ _ hk' e z))).trans b⟩
 ·obtain⟨x,hx⟩:=live i o' hi
  obtain⟨y,hy⟩:=live k o'' hk
  exact H.inj _ _ _ _ hx hy hr
 ·obtain⟨y,hy⟩:=live k o' hk
  exact(H.ghost x hx).2 _ _ hy
 ·obtain⟨x,hx⟩:=live k o' hk
  exact hn _ _ hx
 ·exact(Heap.get?_update_ne _ _ _ _ (fun z=>hn _ _ e z.symm)).trans hb'
theorem Rep.push{g:Cfg}{h:Heap}{T:HT}{c:Nat}(hc:g.rho (c+1)=Nat.succ (g.rho c))(hG:g.G (c+1)=g.G c)(H:Rep g h T c){o:Obj}(hf:o.isFreed=false):
  Rep g (h.push o) (T.putK (c+1) o) (c+1)∧Kept2 g T h (T.putK (c+1) o) (h.push o)∧h.objs.size≤(h.push o).objs.size:=by
 have key:∀k o',(T.putK (c+1) o).getK (k+1)=some o'→(k=c∧o'=o)∨(k≠c∧T.getK (k+1)=some o'):=fun k o' hk=>by
  by_cases q:k=c
  ·subst q
   rcases HT.put_self o T (k+1) with z|z
   ·rw[z]at hk;cases hk;exact .inl ⟨rfl,rfl⟩
   ·rw[z]at hk;cases hk
  ·rw[HT.put_ne _ _ _ _ (by omega) (by omega) (by omega)]at hk
   exact .inr ⟨q,hk⟩
 have hs:(h.push o).objs.size=h.objs.size+1:=Heap.size_push _ _
 have old:∀k o',T.getK (k+1)=some o'→g.rho k<g.rho c:=fun k o' hk=>H.size▸Heap.lt_size (H.at_ k o' hk).2
 refine⟨⟨hs.trans (by rw[H.size,hc]),hs▸Nat.le_succ_of_le H.big,fun a o' ha=>Heap.get?_push_of_some _ (H.still a o' ha),H.under,fun k o' hk=>?_,fun i k o' o'' hi hk hr=>?_,fun x hx=>?_⟩,
  fun b hb hn=>⟨fun k o' hk=>?_,fun o' hb'=>Heap.get?_push_of_some _ hb'⟩,hs▸Nat.le_succ _⟩
 ·rcases key k o' hk with ⟨rfl,rfl⟩|⟨q,hk'⟩
  ·refine⟨H.size▸H.big,?_⟩
   rw[←H.size];exact Heap.get?_push_size _ hf
  ·obtain⟨a,b⟩:=H.at_ k o' hk'
   exact⟨a,Heap.get?_push_of_some _ b⟩
 ·rcases key i o' hi with ⟨rfl,_⟩|⟨_,hi'⟩<;>rcases key k o'' hk with ⟨rfl,_⟩|⟨_,hk'⟩
  ·rfl
  ·have:=old k o'' hk';omega
  ·have:=old i o' hi';omega
  ·exact H.inj _ _ _ _ hi' hk' hr
 ·rw[hG]at hx
  obtain⟨x1,x2⟩:=H.ghost x hx
  refine⟨Heap.get?_push_of_some _ x1,fun k o' hk=>?_⟩
  rcases key k o' hk with ⟨rfl,rfl⟩|⟨q,hk'⟩
  ·intro z;have h1:=Heap.lt_size x1;rw[H.size,←z]at h1;exact Nat.lt_irrefl _ h1
  ·exact x2 _ _ hk'
 ·rcases key k o' hk with ⟨rfl,rfl⟩|⟨q,hk'⟩
  ·intro z;rw[H.size,←z]at hb;exact Nat.lt_irrefl _ hb
  ·exact hn _ _ hk'
theorem Kept2.refl(g:Cfg)(T:HT)(h:Heap):Kept2 g T h T h:=fun _ _ hn=>⟨hn,fun _ x=>x⟩
theorem Kept2.trans{g:Cfg}{T T' T'':HT}{h h' h'':Heap}(a:Kept2 g T h T' h')(hs:h.objs.size≤h'.objs.size)(b:Kept2 g T' h' T'' h''):Kept2 g T h T'' h'':=fun x hx hn=>
 let ⟨p,q⟩:=a x hx hn
 let ⟨r,s⟩:=b x (Nat.lt_of_lt_of_le hx hs) p
 ⟨r,fun o ho=>s o (q o ho)⟩
theorem SOut.mono{M:Model}{g:Cfg}{Γ Γ':Ctx}{t t':Sem PySem.Fin}{p p':Pos}{T:HT}{c tk:Nat}{A:List Claim}{xs:List Claim}{l:Leaf}(H:SOut M g Γ' t' p' T c tk (xs++A) l)
  (step:pk M g.st l.A→pk M g.st xs→∀h gs d os,Rep g h T c→∀h',Runs M Γ' p' t' [] ⟨h,gs,d,g.tok tk,os⟩ (.ret l.r) ⟨h',gs,d,g.tok l.tk,os⟩→Runs M Γ p t [] ⟨h,gs,d,g.tok tk,os⟩ (.ret l.r) ⟨h',gs,d,g.tok l.tk,os⟩):
  SOut M g Γ t p T c tk A l:=by
 obtain⟨⟨ys,e⟩,K⟩:=H
 refine⟨⟨ys++xs,by rw[e,List.append_assoc]⟩,fun S h gs d os R=>?_⟩
 obtain⟨h',a,b⟩:=K S h gs d os R
 exact⟨h',step S (fun x hx=>S x (by rw[e];simp[hx])) h gs d os R h' a,b⟩
def n7(f:mn):Prop:=∀Γ cd p T c tk A H l,(f Γ cd p T c tk A H).leaf=some l→∃xs,l.A=xs++A
theorem i3(g:Cfg)(ih:mn)(hih:n7 ih)(t:Sem PySem.Fin):∀mk Γ p T c tk A H l,(dE t mk ih g Γ p T c tk A H).leaf=some l→∃xs,l.A=xs++A:=by
 have cut:∀{x:List Claim} {A:List Claim} {l:Leaf},(∃xs,l.A=xs++(x++A))→∃xs,l.A=xs++A:=fun ⟨xs,a⟩=>⟨xs++_,by rw[a,List.append_assoc]⟩
 have one:∀{x:Claim} {A:List Claim} {l:Leaf},(∃xs,l.A=xs++(x::A))→∃xs,l.A=xs++A:=fun h=>cut (x:=[_]) h
 induction t with
 |pure fin=>
  intro mk Γ p T c tk A H l e
  cases fin with
  |done f=>
   have e':some (⟨.ok f,T,c,tk,A,H⟩:Leaf)=some l:=e
   cases e'
   exact⟨[],rfl⟩
  |again cd=>
   have e':(@Bool.rec (fun _=>Q) .no (ih (Γ.goto cd) cd p T c tk A H) (fZ cd)).leaf=some l:=e
   cases q:fZ cd with
   |false=>rw[q]at e';cases e'
   |true=>rw[q]at e';exact hih _ _ _ _ _ _ _ _ _ e'
 |raise v=>
  intro mk Γ p T c tk A H l e
  have e':some (⟨.error v,T,c,tk,A,H⟩:Leaf)=some l:=e
  cases e'
  exact⟨[],rfl⟩
 |unsupported|finish|register|choose|os|newGen|genState|resume|yield|fork=>intro mk Γ p T c tk A H l e;cases e
 |rule tag k kih=>intro mk Γ p T c tk A H l e;exact kih () mk Γ p T c tk A H l e
 |«at» q k kih=>intro mk Γ p T c tk A H l e;exact kih () mk Γ q T c tk A H l e
 |point l k kih=>intro mk Γ p T c tk A H l e;exact kih () mk Γ p T c tk A H l e
 |thread k kih=>intro mk Γ p T c tk A H l e;exact kih 0 mk Γ p T c tk A H l e
 |stack k kih=>intro mk Γ p T c tk A H l e;exact kih _ mk Γ p T c tk A H l e
 |handled own k kih=>intro mk Γ p T c tk A H l e;exact kih _ mk Γ p T c tk A H l e
 |ask k kih=>intro mk Γ p T c tk A H l e;exact one (kih g.st mk Γ p T c tk _ H l e)
 |load a part k kih=>
  intro mk Γ p T c tk A H l e
  obtain⟨H',o,xs,e',_⟩:=je (k:=fun o A H=>dE (k o) mk ih g Γ p T c tk A H) e
  exact cut (kih o mk Γ p T c tk _ H' l e')
 |loadIfAlive a k kih=>
  intro mk Γ p T c tk A H l e
  obtain⟨H',o,xs,e',_⟩:=je (k:=fun o A H=>dE (k (some o)) mk ih g Γ p T c tk A H) e
  exact cut (kih (some o) mk Γ p T c tk _ H' l e')
 |update a part f k kih=>
  intro mk Γ p T c tk A H l e
  obtain⟨j,H',o,ho,e'⟩:=oA (k:=fun o j A H=>@Bool.rec (fun _=>Q) (dE (k ()) mk ih g Γ p (T.putK (.add j 1) (f o)) c tk A H) .no (f o).isFreed) e
  skip
  cases hf:(f o).isFreed with
  |true=>rw[hf]at e';cases e'
  |false=>rw[hf]at e';exact one (kih () mk Γ p _ c tk _ H' l e')
 |alloc o k kih=>
  intro mk Γ p T c tk A H l e
  have e':(@Bool.rec (fun _=>Q) (dE (k (g.rho c)) mk ih g Γ p (T.putK (c+1) o) (c+1) tk (.gl (g.G (c+1)) (g.G c)::.eq (g.rho (c+1)) (Nat.succ (g.rho c))::A) H) .no o.isFreed).leaf=some l:=e
  cases hf:o.isFreed with
  |true=>rw[hf]at e';cases e'
  |false=>rw[hf]at e';exact one (one (kih (g.rho c) mk Γ p _ (c+1) tk _ H l e'))
 |fresh k kih=>intro mk Γ p T c tk A H l e;exact one (kih _ mk Γ p T c (tk+1) _ H l e)
 |call cd hd gd lv k kih=>
  intro mk Γ p T c tk A H l e
  have e':(Q.andThen (ih (Γ.enter cd hd p) cd p T c tk A H) fun r T c tk A H=>dE (k r) mk ih g Γ p T c tk A H).leaf=some l:=e
  rw[Q.leaf_andThen]at e'
  cases hl:(ih (Γ.enter cd hd p) cd p T c tk A H).leaf with
  |none=>rw[hl]at e';cases e'
  |some m=>
   rw[hl]at e'
   obtain⟨ys,ey⟩:=hih _ _ _ _ _ _ _ _ _ hl
   obtain⟨zs,ez⟩:=kih m.r mk Γ p m.T m.c m.tk m.A m.H l e'
   exact⟨zs++ys,by rw[ez,ey,List.append_assoc]⟩
 |await a take timed live k kih=>
  intro mk Γ p T c tk A H l e
  cases mk with
  |false=>cases e
  |true=>
   cases live with
   |nil=>cases e
   |cons v ls=>
    cases v with
    |int x u=>
     cases x with
     |ofNat n=>exact one (kih true true Γ p T c tk _ H l e)
     |negSucc n=>cases e
    |bool b=>
     obtain⟨b',H',xs,e',_⟩:=gc (k:=fun b A H=>dE (k b) true ih g Γ p T c tk A H) e
     exact cut (kih b' true Γ p T c tk _ H' l e')
    |_=>cases e
def jg(O:j0):Prop:=∀i g Γ cd T c tk A H l,(O i g Γ cd T c tk A H).leaf=some l→∃xs,l.A=xs++A
theorem mY(W:Code→WT)(O:j0)(hO:jg O)(g:Cfg):∀N,n7 (se W O g N)
 |0=>fun _ _ _ _ _ _ _ _ _ e=>by cases e
 |N+1=>fun Γ cd p T c tk A H l e=>by
  cases H with
  |orc i r=>
   have e':(@Bool.rec (fun _=>Q) (O i g Γ cd T c tk A r) (dE (W cd).2 (W cd).1 (se W O g N) g Γ p T c tk A (.orc (Nat.sub i 2000) r)) (Nat.ble 2000 i)).leaf=some l:=e
   cases hb:Nat.ble 2000 i with
   |false=>rw[hb]at e';exact hO i g Γ cd T c tk A r l e'
   |true=>rw[hb]at e';exact i3 g _ (mY W O hO g N) (W cd).2 (W cd).1 Γ p T c tk A _ l e'
  |nil|ld|fork=>exact i3 g _ (mY W O hO g N) (W cd).2 (W cd).1 Γ p T c tk A _ l e
theorem qd(M:Model)(g:Cfg)(ih:mn)(him:n7 ih)(N:Nat)(hih:ye M g N ih){mk:Bool}{t₀ t:Sem PySem.Fin}(hs:Sim mk t₀ t):∀Γ p T c tk A H l,
  LimU Γ (N+1)→(dE t mk ih g Γ p T c tk A H).leaf=some l→SOut M g Γ t₀ p T c tk A l:=by
 induction hs with
 |pure fin=>
  intro Γ p T c tk A H l hL e
  cases fin with
  |done f=>
   have e':some (⟨.ok f,T,c,tk,A,H⟩:Leaf)=some l:=e
   cases e'
   exact⟨⟨[],rfl⟩,fun _ h gs d os R=>⟨h,.done,R,.refl _ _ _,rfl,Nat.le_refl _⟩⟩
  |again cd=>
   have e':(@Bool.rec (fun _=>Q) .no (ih (Γ.goto cd) cd p T c tk A H) (fZ cd)).leaf=some l:=e
   cases q:fZ cd with
   |false=>rw[q]at e';cases e'
   |true=>
    rw[q]at e'
    exact SOut.mono (xs:=[]) (hih (Γ.goto cd) cd p T c tk A H l rfl (hL.goto cd) e') fun _ _ h gs d os _ h' r=>.again (uk q) r
 |raise v=>
  intro Γ p T c tk A H l hL e
  have e':some (⟨.error v,T,c,tk,A,H⟩:Leaf)=some l:=e
  cases e'
  exact⟨⟨[],rfl⟩,fun _ h gs d os R=>⟨h,.raise,R,.refl _ _ _,rfl,Nat.le_refl _⟩⟩
 |unsupported|finish|register|choose|os|newGen|genState|resume|yield|fork|awaitF|awaitNo=>intro Γ p T c tk A H l hL e;cases e
 |rule tag tag' _ kih=>intro Γ p T c tk A H l hL e;exact SOut.mono (xs:=[]) (kih Γ p T c tk A H l hL e) fun _ _ h gs d os _ h' r=>.rule r
 |ruleL tag _ kih=>intro Γ p T c tk A H l hL e;exact SOut.mono (xs:=[]) (kih Γ p T c tk A H l hL e) fun _ _ h gs d os _ h' r=>.rule r
 |«at» q _ kih=>intro Γ p T c tk A H l hL e;exact SOut.mono (xs:=[]) (kih Γ q T c tk A H l hL e) fun _ _ h gs d os _ h' r=>.at r
 |point l l' _ kih=>intro Γ p T c tk A H l hL e;exact SOut.mono (xs:=[]) (kih Γ p T c tk A H l hL e) fun _ _ h gs d os _ h' r=>.point r
 |pointL l _ kih=>intro Γ p T c tk A H l hL e;exact SOut.mono (xs:=[]) (kih Γ p T c tk A H l hL e) fun _ _ h gs d os _ h' r=>.point r
 |thread _ kih=>intro Γ p T c tk A H l hL e;exact SOut.mono (xs:=[]) (kih Γ p T c tk A H l hL e) fun _ _ h gs d os _ h' r=>.thread r
 |stack _ kih=>intro Γ p T c tk A H l hL e;exact SOut.mono (xs:=[]) (kih _ Γ p T c tk A H l hL e) fun _ _ h gs d os _ h' r=>.stack r
 |stackC _ kih=>intro Γ p T c tk A H l hL e;exact SOut.mono (xs:=[]) (kih _ (hL.few p) Γ p T c tk A H l hL e) fun _ _ h gs d os _ h' r=>.stack r
 |handled own _ kih=>
  intro Γ p T c tk A H l hL e
  refine SOut.mono (xs:=[]) (kih _ Γ p T c tk A H l hL e) fun _ _ h gs d os _ h' r=>.handled ?_
  cases own<;>exact r
 |ask _ kih=>
  rename_i mk k k' _
  intro Γ p T c tk A H l hL e
  have e':(dE (k' g.st) mk ih g Γ p T c tk (.ask k'::A) H).leaf=some l:=e
  obtain⟨xs,ex⟩:=i3 g ih him (k' g.st) mk Γ p T c tk _ H l e'
  refine⟨⟨xs++[.ask k'],by rw[ex,List.append_assoc];rfl⟩,fun S h gs d os R=>?_⟩
  have q:k' ⟨M.prog,M.w.params⟩=k' g.st:=S (.ask k') (by rw[ex];simp)
  rw[←q]at e'
  obtain⟨h',a1,a2⟩:=(kih ⟨M.prog,M.w.params⟩ Γ p T c tk _ H l hL e').2 S h gs d os R
  exact⟨h',.ask a1,a2⟩
 |load a part part' _ kih=>
  rename_i mk _ k' _
  intro Γ p T c tk A H l hL e
  obtain⟨H',o,xs,e',ho⟩:=je (k:=fun o A H=>dE (k' o) mk ih g Γ p T c tk A H) e
  exact SOut.mono (xs:=xs) (kih o Γ p T c tk _ H' l hL e') fun _ hx h gs d os R h' r=>.load (ho _ _ hx h c R) r
 |loadIfAlive a _ kih=>
  rename_i mk _ k' _
  intro Γ p T c tk A H l hL e
  obtain⟨H',o,xs,e',ho⟩:=je (k:=fun o A H=>dE (k' (some o)) mk ih g Γ p T c tk A H) e
  refine SOut.mono (xs:=xs) (kih (some o) Γ p T c tk _ H' l hL e') fun _ hx h gs d os R h' r=>.loadIfAlive ?_
  rw[show (Shared.heap ⟨h,gs,d,g.tok tk,os⟩).get? a=some o from ho _ _ hx h c R];exact r
 |update a part part' f _ kih=>
  rename_i mk _ k' _
  intro Γ p T c tk A H l hL e
  obtain⟨j,H',o,ho,e'⟩:=oA (k:=fun o j A H=>@Bool.rec (fun _=>Q) (dE (k' ()) mk ih g Γ p (T.putK (.add j 1) (f o)) c tk A H) .no (f o).isFreed) e
  skip
  cases hf:(f o).isFreed with
  |true=>rw[hf]at e';cases e'
  |false=>
   rw[hf]at e'
   obtain⟨⟨ys,ey⟩,K⟩:=kih Γ p _ c tk _ H' l hL e'
   refine⟨⟨ys++[.eq a (g.rho j)],by rw[ey,List.append_assoc];rfl⟩,fun S h gs d os R=>?_⟩
   obtain⟨R1,R2,R3⟩:=R.put ho hf
   have ea:a=g.rho j:=S (.eq a (g.rho j)) (by rw[ey];simp)
   obtain⟨h',a1,a2,a3,a4,a5⟩:=K S (h.update (g.rho j) f) gs d os R1
   refine⟨h',.update ?_ ?_,a2,R2.trans R3 a3,a4.trans (by cases h;rfl),Nat.le_trans R3 a5⟩
   ·rw[ea,show (Shared.heap ⟨h,gs,d,g.tok tk,os⟩).get? (g.rho j)=some o from (R.at_ _ _ ho).2];rfl
   ·rw[ea];exact a1
 |alloc o _ kih=>
  rename_i mk k k' _
  intro Γ p T c tk A H l hL e
  have e':(@Bool.rec (fun _=>Q) (dE (k' (g.rho c)) mk ih g Γ p (T.putK (c+1) o) (c+1) tk (.gl (g.G (c+1)) (g.G c)::.eq (g.rho (c+1)) (Nat.succ (g.rho c))::A) H) .no o.isFreed).leaf=some l:=e
  cases hf:o.isFreed with
  |true=>rw[hf]at e';cases e'
  |false=>
   rw[hf]at e'
   obtain⟨⟨ys,ey⟩,K⟩:=kih (g.rho c) Γ p _ (c+1) tk _ H l hL e'
   refine⟨⟨ys++[.gl (g.G (c+1)) (g.G c),.eq (g.rho (c+1)) (Nat.succ (g.rho c))],by rw[ey,List.append_assoc];rfl⟩,fun S h gs d os R=>?_⟩
   obtain⟨R1,R2,R3⟩:=R.push (S (.eq (g.rho (c+1)) (Nat.succ (g.rho c))) (by rw[ey];simp)) (S (.gl (g.G (c+1)) (g.G c)) (by rw[ey];simp)) hf
   obtain⟨h',a1,a2,a3,a4,a5⟩:=K S (h.push o) gs d os R1
   refine⟨h',.alloc ?_,a2,R2.trans R3 a3,a4.trans (by cases h;rfl),Nat.le_trans R3 a5⟩
   rw[show (Shared.heap ⟨h,gs,d,g.tok tk,os⟩).objs.size=g.rho c from R.size];exact a1
 |fresh _ kih=>
  rename_i mk k k' _
  intro Γ p T c tk A H l hL e
  have e':(dE (k' (g.tok tk)) mk ih g Γ p T c (tk+1) (.eq (g.tok (tk+1)) (Nat.succ (g.tok tk))::A) H).leaf=some l:=e
  obtain⟨⟨ys,ey⟩,K⟩:=kih (g.tok tk) Γ p T c (tk+1) _ H l hL e'
  refine⟨⟨ys++[.eq (g.tok (tk+1)) (Nat.succ (g.tok tk))],by rw[ey,List.append_assoc];rfl⟩,fun S h gs d os R=>?_⟩
  obtain⟨h',a1,a2⟩:=K S h gs d os R
  have q:g.tok (tk+1)=g.tok tk+1:=S (.eq (g.tok (tk+1)) (Nat.succ (g.tok tk))) (by rw[ey];simp)
  rw[q]at a1
  exact⟨h',.fresh a1,a2⟩
 |call cd hd gd gd' l₁ l₂ _ kih=>
  intro Γ p T c tk A H l hL e
  rename_i mk k k' _
  have e':(Q.andThen (ih (Γ.enter cd hd p) cd p T c tk A H) fun r T c tk A H=>dE (k' r) mk ih g Γ p T c tk A H).leaf=some l:=e
  rw[Q.leaf_andThen]at e'
  cases hl:(ih (Γ.enter cd hd p) cd p T c tk A H).leaf with
  |none=>rw[hl]at e';cases e'
  |some m=>
   rw[hl]at e'
   obtain⟨⟨ys₁,ey₁⟩,K₁⟩:=hih (Γ.enter cd hd p) cd p T c tk A H m rfl (hL.enter cd hd p) hl
   obtain⟨⟨ys,ey⟩,K⟩:=kih m.r Γ p m.T m.c m.tk m.A m.H l hL e'
   refine⟨⟨ys++ys₁,by rw[ey,ey₁,List.append_assoc]⟩,fun S h gs d os R=>?_⟩
   obtain⟨h₁,a1,a2,a3,a4,a5⟩:=K₁ (fun x hx=>S x (by rw[ey];exact List.mem_append_right _ hx)) h gs d os R
   obtain⟨h',b1,b2,b3,b4,b5⟩:=K S h₁ gs d os a2
   exact⟨h',.call a1 b1,b2,a3.trans a5 b3,b4.trans a4,Nat.le_trans a5 b5⟩
 |claim a x take timed u ls _ kih=>
  rename_i k _
  intro Γ p T c tk A H l hL e
  have e':(dE (k true) true ih g Γ p T c tk (.eq a x::A) H).leaf=some l:=e
  obtain⟨xs,ex⟩:=i3 g ih him (k true) true Γ p T c tk _ H l e'
  refine⟨⟨xs++[.eq a x],by rw[ex,List.append_assoc];rfl⟩,fun S=>?_⟩
  have:a=x:=S (.eq a x) (by rw[ex];simp)
  exact(kih this Γ p T c tk _ H l hL e').2 S
 |cond a c take timed ls _ kih=>
  rename_i k _
  intro Γ p T c' tk A H l hL e
  obtain⟨b,H',xs,e',hb⟩:=gc (k:=fun b A H=>dE (k b) true ih g Γ p T c' tk A H) e
  obtain⟨ys,ey⟩:=i3 g ih him (k b) true Γ p T c' tk _ H' l e'
  refine⟨⟨ys++xs,by rw[ey,List.append_assoc]⟩,fun S=>?_⟩
  have:c=b:=hb.elim id fun z=>S (.tr c b) (by rw[ey,z];simp)
  exact(kih b this Γ p T c' tk _ H' l hL e').2 S
def ub(M:Model)(W:Code→WT):Prop:=∀cd,Sim (W cd).1 (M.den cd) (W cd).2
def lC(M:Model)(g:Cfg)(L:Nat)(O:j0):Prop:=
 ∀i Γ cd p T c tk A H l,Γ.code=cd→LimU Γ L→(O i g Γ cd T c tk A H).leaf=some l→SOut M g Γ (M.den cd) p T c tk A l
theorem oN(M:Model)(g:Cfg)(W:Code→WT)(hW:ub M W)(O:j0)(hO:jg O)(L:Nat)(hOk:lC M g L O):∀N,ye M g (N+L) (se W O g N)
 |0=>fun _ _ _ _ _ _ _ _ _ _ _ e=>by cases e
 |N+1=>fun Γ cd p T c tk A H l hΓ hL e=>by
  cases H with
  |orc i r=>
   have e':(@Bool.rec (fun _=>Q) (O i g Γ cd T c tk A r) (dE (W cd).2 (W cd).1 (se W O g N) g Γ p T c tk A (.orc (Nat.sub i 2000) r)) (Nat.ble 2000 i)).leaf=some l:=e
   cases hb:Nat.ble 2000 i with
   |false=>rw[hb]at e';exact hOk i Γ cd p T c tk A r l hΓ (by unfold LimU at hL ⊢;omega) e'
   |true=>rw[hb]at e';exact qd M g _ (mY W O hO g N) (N+L) (oN M g W hW O hO L hOk N) (hW cd) Γ p T c tk A _ l (by rwa [Nat.add_right_comm]at hL) e'
  |nil|ld|fork=>exact qd M g _ (mY W O hO g N) (N+L) (oN M g W hW O hO L hOk N) (hW cd) Γ p T c tk A _ l (by rwa [Nat.add_right_comm]at hL) e
def Claim.twice:Claim→Claim
 |.eq _ b=>.eq b b
 |.tr c b=>.tr c b
 |.ask k=>.ask k
 |.code _ b=>.code b b
 |.obj _ b=>.obj b b
 |.gl _ b=>.gl b b
 |.bel _ b=>.bel b b
theorem wE{A:List Claim}(e:A=A.map Claim.twice):∀x∈A,x=x.twice:=by
 induction A with
 |nil=>intro x h;cases h
 |cons y xs ih=>
  intro x h
  simp only[List.map_cons,List.cons.injEq]at e
  rcases List.mem_cons.mp h with h|h
  ·rw[h];exact e.1
  ·exact ih e.2 x h
def condsOf:List Claim→List (Bool×Bool)
 |[]=>[]
 |.tr c b::A=>(c,b)::condsOf A
 |_::A=>condsOf A
theorem A9{A:List Claim}{c b:Bool}(h:Claim.tr c b∈A):(c,b)∈condsOf A:=by
 induction A with
 |nil=>cases h
 |cons x xs ih=>
  rcases List.mem_cons.mp h with h'|h'
  ·subst h';exact List.mem_cons_self
  ·clear h
   cases x<;>first|exact ih h'|exact List.mem_cons_of_mem _ (ih h')
def iU(st:Setting):List Claim→List (Sem PySem.Fin)
 |[]=>[]
 |.ask k::A=>k st::iU st A
 |_::A=>iU st A
theorem Eo{A:List Claim}{s₁ s₂:Setting}(e:iU s₁ A=iU s₂ A){k:Setting→Sem PySem.Fin}(h:Claim.ask k∈A):k s₁=k s₂:=by
 induction A with
 |nil=>cases h
 |cons x xs ih=>
  rcases List.mem_cons.mp h with h'|h'
  ·subst h';exact(List.cons.inj e).1
  ·clear h
   cases x<;>first|exact ih e h'|exact ih (List.cons.inj e).2 h'
theorem vD{M:Model}{A:List Claim}{st st₂:Setting}(h1:A=A.map Claim.twice)(h2:∀x∈condsOf A,x.1=x.2)(h3:iU st₂ A=iU st A)
  (hst:(⟨M.prog,M.w.params⟩:Setting)=st∨(⟨M.prog,M.w.params⟩:Setting)=st₂):pk M st A:=by
 intro x hx
 have tw:=wE h1 x hx
 cases x with
 |eq a b=>injection tw
 |tr c b=>exact h2 _ (A9 hx)
 |ask k=>
  rcases hst with e|e
  ·exact congrArg k e
  ·exact(congrArg k e).trans (Eo h3 hx)
 |code a b=>injection tw
 |obj a b=>injection tw
 |gl a b=>injection tw
 |bel a b=>injection tw
def FM(vs:List Nat)(n0:Nat):Nat→Nat:=
 @List.rec Nat (fun _=>Nat→Nat) (fun j=>Nat.add n0 j) (fun v _ f j=>@Nat.rec (fun _=>Nat) v (fun j' _=>f j') j) vs
def sq{α:Type}(m:Sem α)(f:α→Sem PySem.Fin):Sem PySem.Fin:=
 Sem.rec (motive:=fun _=>Sem PySem.Fin) (pure:=f) (raise:=fun _=>.unsupported "") (unsupported:=fun w=>.unsupported w) (finish:=fun _=>.unsupported "")
  (rule:=fun t _ k=>.rule t k) («at»:=fun q _ k=>.at q k) (load:=fun a p _ k=>.load a p k) (update:=fun a p g _ k=>.update a p g k) (alloc:=fun o _ k=>.alloc o k)
  (loadIfAlive:=fun a _ k=>.loadIfAlive a k) (point:=fun l _ k=>.point l k) (register:=fun _ _ _=>.unsupported "") (fresh:=fun _ k=>.fresh k) (ask:=fun _ k=>.ask k)
  (choose:=fun _ _ _ _=>.unsupported "") (os:=fun _ _ _ _=>.unsupported "") (call:=fun c h g l _ k=>.call c h g l k) (handled:=fun o _ k=>.handled o k) (newGen:=fun _ _ _=>.unsupported "")
  (genState:=fun _ _ _=>.unsupported "") (resume:=fun _ _ _ _ _=>.unsupported "") (yield:=fun _ _ _ _ _=>.unsupported "") (stack:=fun _ k=>.stack k) (fork:=fun _ _ _=>.unsupported "")
  (thread:=fun _ k=>.thread k) (await:=fun _ _ _ _ _ _=>.unsupported "") m
theorem pL{α:Type}(h:Value→Sem Unit)(m:Sem α)(f f':α→Sem PySem.Fin)(H:∀a,Sim true ((f a).onRaise h) (f' a)):Sim true ((m.bind f).onRaise h) (sq m f'):=by
 induction m with
 |pure a=>exact H a
 |ask k kih=>exact .ask kih
 |raise|unsupported|finish|register|choose|os|newGen|genState|resume|yield|fork|await=>exact .unsupported _
 |rule t k kih=>exact .rule _ _ (kih ())
 |«at» q k kih=>exact .at _ (kih ())
 |load a p k kih=>exact .load _ _ _ kih
 |update a p g k kih=>exact .update _ _ _ _ (kih ())
 |alloc o k kih=>exact .alloc _ kih
 |loadIfAlive a k kih=>exact .loadIfAlive _ kih
 |point l k kih=>exact .point _ _ (kih ())
 |fresh k kih=>exact .fresh kih
 |call c hd g l k kih=>exact .call _ _ _ _ _ _ kih
 |handled o k kih=>exact .handled _ kih
 |stack k kih=>exact .stack kih
 |thread k kih=>exact .thread (kih 0)
def ownNames:List String:=["enumerate","zip","dict_itemiterator","dict_reverseitemiterator","odict_iterator","itertools.zip_longest","itertools.pairwise"]
def ownS(it v:Value)(k:Sem PySem.Fin):Sem PySem.Fin:=
 match it with
 |.ref r=>match v with
  |.ref a=>.load r Option.none fun (o:Obj)=>match o.cls with
   |.type n=>match o.data with
    |.fields vs=>@Bool.rec (fun _=>Sem PySem.Fin) k (match (vs[0]?:Option Value) with
     |Option.some (.int (.ofNat x) 0)=>.await a (fun _=>Option.none) false [.int (.ofNat x) 0] fun _=>.rule "for.unpacks-the-owned-tuple" fun _=>sq (Fast.tw12367529300394763782 r 0 .none) fun _=>k
     |Option.some .none=>k
     |_=>.unsupported "") (ownNames.contains n)
    |_=>k
   |_=>k
  |_=>k
 |_=>k
theorem HV(h:Value→Sem Unit)(es:List Expr)(kk:Nat)(pos:Pos)(it v:Value)(K₀ K:Sem PySem.Fin)(H:Sim true (K₀.onRaise h) K):
  Sim true (((letOwnedTupleGo (.Tuple es kk pos) it v).bind fun _=>K₀).onRaise h) (ownS it v K):=by
 rw[letOwnedTupleGo.eq_1]
 cases it<;>try exact H
 rename_i r
 cases v<;>try exact H
 rename_i a
 refine .load _ _ _ fun o=>?_
 obtain⟨cls,dict,data,slots⟩:=o
 cases cls<;>try exact H
 rename_i n
 cases data<;>try exact H
 rename_i vs
 show Sim true ((Sem.bind (if (ownNames.contains n&&(vs[0]?:Option Value)==Option.some (rawInt a))=true then Sem.bind (PySem.rule "for.unpacks-the-owned-tuple") (fun _=>updateField r 0 .none) else Sem.pure ()) fun _=>K₀).onRaise h) (@Bool.rec (fun _=>Sem PySem.Fin) K _ (ownNames.contains n))
 cases hn:ownNames.contains n with
 |false=>exact H
 |true=>
  rw[Bool.true_and]
  generalize (vs[0]?:Option Value)=q
  cases q with
  |none=>exact .unsupported _
  |some y=>
   cases y with
   |int x u=>
    cases x with
    |negSucc=>exact .unsupported _
    |ofNat x=>
     cases u with
     |succ=>exact .unsupported _
     |zero=>
      refine .claim _ _ _ _ _ _ fun e=>?_
      have:((Option.some (Value.int (Int.ofNat x) 0):Option Value)==Option.some (rawInt (a:Int)))=true:=by rw[e];simp[rawInt]
      rw[if_pos this]
      refine .rule _ _ ?_
      show Sim true (((updateField r 0 .none).bind fun _=>K₀).onRaise h) _
      rw[Fast.te12367529300394763782]
      exact pL h _ (fun _=>K₀) (fun _=>K) fun _=>H
   |none=>
    have:¬((Option.some Value.none:Option Value)==Option.some (rawInt (a:Int)))=true:=by simp[rawInt]
    rw[if_neg this];exact H
   |_=>exact .unsupported _
def forS(target:Expr)(it:Value)(body orelse:List Stmt)(env:Env):Sem PySem.Fin:=
 .at target.pos fun _=>sq ((Fast.tw9404975358583537561 it).onRaise (fun _=>standAt {target.pos with line:=0})) fun x=>match x with
 |Option.none=>again (.block orelse env)
 |Option.some v=>ownS it v (sq (Fast.tw17772580674575903948 target env v) fun _=>sq (Fast.tw12563942051412417395 body env) fun f=>match f with
  |.next=>again (.forLoop target it body orelse env)
  |.cont=>again (.forLoop target it body orelse env)
  |.brk=>pure (.done .next)
  |.ret v=>pure (.done (.ret v)))
theorem IP(h:Value→Sem Unit)(es:List Expr)(kk:Nat)(pos:Pos)(it:Value)(body orelse:List Stmt)(env:Env):
  Sim true ((forTurn (.Tuple es kk pos) it body orelse env).onRaise h) (forS (.Tuple es kk pos) it body orelse env):=by
 refine .at _ ?_
 rw[←Fast.te9404975358583537561,←Fast.te17772580674575903948,←Fast.te12563942051412417395]
 refine pL h _ (fun x=>match x with
  |Option.none=>again (.block orelse env)
  |Option.some v=>do
   letOwnedTupleGo (.Tuple es kk pos) it v
   assign (.Tuple es kk pos) env v
   match ←execs body env with
   |.next|.cont=>again (.forLoop (.Tuple es kk pos) it body orelse env)
   |.brk=>pure (.done .next)
   |.ret v=>pure (.done (.ret v))) _ fun x=>?_
 cases x with
 |none=>exact .pure _
 |some v=>
  refine HV h es kk pos it v _ _ ?_
  refine pL h _ (fun _=>_) _ fun _=>?_
  refine pL h _ _ _ fun f=>?_
  cases f<;>exact .pure _
abbrev dY(cd:Code):Sem PySem.Fin:=Fast.tw11892475500146522536 Fast.tw14364793385576792824 cd
theorem kj(cd:Code):denote table cd=dY cd:=by rw[table_eq_tree,Fast.te11892475500146522536,Fast.te14364793385576792824]
theorem jp{α:Type}(m:Sem α)(f f':α→Sem PySem.Fin)(H:∀a,Sim true (f a) (f' a)):Sim true (m.bind f) (sq m f'):=by
 induction m with
 |pure a=>exact H a
 |ask k kih=>exact .ask kih
 |raise|unsupported|finish|register|choose|os|newGen|genState|resume|yield|fork|await=>exact .unsupported _
 |rule t k kih=>exact .rule _ _ (kih ())
 |«at» q k kih=>exact .at _ (kih ())
 |load a p k kih=>exact .load _ _ _ kih
 |update a p g k kih=>exact .update _ _ _ _ (kih ())
 |alloc o k kih=>exact .alloc _ kih
 |loadIfAlive a k kih=>exact .loadIfAlive _ kih
 |point l k kih=>exact .point _ _ (kih ())
 |fresh k kih=>exact .fresh kih
 |call c hd g l k kih=>exact .call _ _ _ _ _ _ kih
 |handled o k kih=>exact .handled _ kih
 |stack k kih=>exact .stack kih
 |thread k kih=>exact .thread (kih 0)
theorem Ez(m:Sem PySem.Fin):Sim true m (sq m .pure):=by
 have:=jp m .pure .pure (fun a=>.pure a)
 rwa [show m.bind .pure=m from PySem.Sem.bind_pure m]at this
def B2(self:Addr)(fd:FuncData)(args:Args)(compiled:Str):Sem PySem.Fin:=
 sq (Fast.tw9782568553167038054 fd args) fun binds=>
 sq (Fast.tw11113344188204177931 fd.scope fd.globals fd.closure binds (compiled++".<locals>.") (some self) fd.code Option.none fd.builtins) fun env=>
 sq Fast.tw2211186353215096513 fun limit=>@Bool.rec (fun _=>Sem PySem.Fin) (.unsupported "") (match fd.scope.isGenerator with
  |false=>match fd.scope.isCoroutine with
   |false=>.pure (.again (match fd.body with|.stmts b=>.func b env|.expr e=>.expr e env))
   |true=>.unsupported ""
  |true=>.unsupported "") (Nat.beq limit 1000)
def zo(self:Addr)(fd:FuncData)(args:Args):Sem PySem.Fin:=
 match fd.code with
 |.none=>B2 self fd args fd.qualname
 |c=>sq (Fast.tw6609576154772507232 c 1) fun v=>match v with
  |.str q _=>B2 self fd args q
  |_=>B2 self fd args fd.qualname
theorem AZ(f f':Sem PySem.Fin)(H:Sim true f f'):Sim true ((enterFrame).bind fun _=>f) (sq currentRecursionLimit fun limit=>@Bool.rec (fun _=>Sem PySem.Fin) (.unsupported "") f' (Nat.beq limit 1000)):=by
 refine .stackC fun L hL=>?_
 show Sim true ((Sem.bind currentRecursionLimit _).bind fun _=>f) _
 rw[Sem.bind_assoc]
 refine jp currentRecursionLimit _ _ fun limit=>?_
 cases hl:Nat.beq limit 1000 with
 |false=>exact .unsupported _
 |true=>
  have e:limit=1000:=Nat.eq_of_beq_eq_true hl
  subst e
  have h1:unitsOf L<700:=hL
  unfold unitsOf at h1
  have n1:nearTheLimitUnderAClaim (L.map (·.1)) (((L.map (·.1)).map (·.frames)).sum-0+((L.map (·.1)).filter lB).length) 1000=false:=by
   unfold nearTheLimitUnderAClaim claimMargin
   have:¬(((L.map (·.1)).map (·.frames)).sum-0+((L.map (·.1)).filter lB).length+300≥1000):=by omega
   rw[decide_eq_false this];rfl
  have n2:¬(((L.map (·.1)).map (·.frames)).sum-0≥1000):=by omega
  have n3:¬(((L.map (·.1)).map (·.frames)).sum-0+((L.map (·.1)).filter lB).length≥1000):=by omega
  show Sim true (Sem.bind (if nearTheLimitUnderAClaim (L.map (·.1)) (((L.map (·.1)).map (·.frames)).sum-0+((L.map (·.1)).filter lB).length) 1000=true then _ else
   (if ((L.map (·.1)).map (·.frames)).sum-0≥1000 then _ else (if ((L.map (·.1)).map (·.frames)).sum-0+((L.map (·.1)).filter lB).length≥1000 then _ else Sem.pure ()))) fun _=>f) _
  rw[if_neg (by rw[n1];decide),if_neg n2,if_neg n3]
  exact H
theorem jp_sim(self:Addr)(fd:FuncData)(args:Args)(compiled:Str):Sim true ((bindArgs fd args).bind fun binds=>(newFunctionEnv fd.scope fd.globals fd.closure binds (compiled++".<locals>.") (some self) fd.code Option.none fd.builtins).bind fun env=>
   (enterFrame).bind fun _=>(match fd.scope.isGenerator,fd.scope.isCoroutine with
    |false,false=>again (match fd.body with|.stmts b=>.func b env|.expr e=>.expr e env)
    |true,false=>do ret (←newGenerator (match fd.body with|.stmts b=>.func b env|.expr e=>.expr e env) fd.name fd.qualname)
    |false,true=>do ret (←newCoroutine (match fd.body with|.stmts b=>.func b env|.expr e=>.expr e env) fd.name fd.qualname)
    |true,true=>do ret (←newAsyncGenerator (match fd.body with|.stmts b=>.func b env|.expr e=>.expr e env) fd.name fd.qualname))) (B2 self fd args compiled):=by
 unfold B2
 rw[←Fast.te9782568553167038054,←Fast.te11113344188204177931,←Fast.te2211186353215096513]
 refine jp _ _ _ fun binds=>jp _ _ _ fun env=>AZ _ _ ?_
 cases fd.scope.isGenerator<;>cases fd.scope.isCoroutine<;>first|exact .pure _|exact .unsupported _
theorem fun_sim(self:Addr)(fd:FuncData)(args:Args):Sim true (callFunction self fd args) (zo self fd args):=by
 obtain⟨name,qualname,params,body,scope,globals,closure,defaults,kwdefaults,doc,pyModule,annotations,code,ct,bi⟩:=fd
 have J:=fun code=>jp_sim self ⟨name,qualname,params,body,scope,globals,closure,defaults,kwdefaults,doc,pyModule,annotations,code,ct,bi⟩ args
 cases code with
 |none=>exact J .none qualname
 |_=>
  unfold zo
  rw[←Fast.te6609576154772507232]
  refine jp (field _ 1) _ _ fun v=>?_
  cases v<;>exact J _ _
def Ac(cd:Code)(args:Args):Sem PySem.Fin:=
 match dY cd with
 |.load a part k=>.load a part fun o=>match o.data with
  |.func fd=>zo a fd args
  |_=>sq (k o) .pure
 |_=>.unsupported ""
theorem CZ(a:Addr)(args:Args):Sim true (denote table (.call (.ref a) args)) (Ac (.call (.ref a) args) args):=by
 unfold Ac
 rw[←kj]
 refine .load a Option.none Option.none fun o=>?_
 obtain⟨cls,dict,data,slots⟩:=o
 cases data with
 |func fd=>exact(fun_sim a fd args:Sim true (callFunction a fd args) (zo a fd args))
 |_=>exact Ez _
def isCmp(id:String):Bool:=
 let c:=S.codeS id
 or (Nat.beq c 455126531311803185852266) (or (Nat.beq c 455125450447892616933226) (or (Nat.beq c 455126529904428302298986) (or (Nat.beq c 455125449040517733379946)
  (or (Nat.beq c 455126313168696235093866) (or (Nat.beq c 455125451010842570354538) (Nat.beq c 29827134633612522566320484202))))))
def t6(fin:PySem.Fin):Sem PySem.Fin:=match fin with
 |.done f=>match f with
  |.ret v=>match v with
   |.bool c=>.await 0 (fun _=>Option.none) false [.bool c] fun b=>.pure (.done (.ret (.bool b)))
   |v=>.pure (.done (.ret v))
  |f=>.pure (.done f)
 |.again c=>.pure (.again c)
theorem CS(fin:PySem.Fin):Sim true (.pure fin) (t6 fin):=by
 cases fin with
 |again c=>exact .pure _
 |done f=>
  cases f with
  |ret v=>
   cases v with
   |bool c=>exact .cond _ _ _ _ _ fun b e=>by subst e;exact .pure _
   |_=>exact .pure _
  |_=>exact .pure _
theorem Ie(t:Sem PySem.Fin):Sim true t (sq t t6):=by
 have:=jp t .pure t6 CS
 rwa [show t.bind .pure=t from PySem.Sem.bind_pure t]at this
def ay(x n:Int):Int:=x.fdiv (2^n.toNat)
def be(x n:Int):Int:=x*2^n.toNat
def aw(x y:Int):Int:=x*y
def aP(x y:Int):Int:=x.fdiv y
def ak(x y:Int):Int:=x.fmod y
def iI(n:Int):Bool:=decide (n<0)
def bg(x n:Int):Bool:=!(decide (0≤n)&&decide ((Builtin.Int.intBits x:Int)+n≤134217728))
def bB(x y:Int):Bool:=Builtin.Int.intBits x>shortFactorBits&&Builtin.Int.intBits y>shortFactorBits&&Builtin.Int.intTooBig (Builtin.Int.intBits x+Builtin.Int.intBits y)
def z0(x y:Int):Bool:=y==0||Builtin.divisionGoesByPylong x y
def nw(y:Int):Bool:=y==0
def mU(stop:Bool)(val:Int):Sem PySem.Fin:=
 .await 0 (fun _=>Option.none) false [.bool stop] fun b=>@Bool.rec (fun _=>Sem PySem.Fin) (.fresh fun t=>.pure (.done (.ret (.int val t)))) (.unsupported "") b
theorem lw(t:Sem PySem.Fin)(stop:Bool)(val:Int)(H:stop=false→Sim true t (.fresh fun tk=>.pure (.done (.ret (.int val tk))))):Sim true t (mU stop val):=by
 refine .cond _ _ _ _ _ fun b e=>?_
 cases b with
 |true=>exact .unsupported _
 |false=>exact H e
theorem uF(id:String)(args:Args):denote table (.builtin id args)=(match entryFor table id with|some b=>b args|none=>PySem.Sem.unsupported ((withoutEnding? id "#data").getD id)):=rfl
theorem fy{id:String}{args:Args}{b:Builtin}(h:entryFor table id=some b):denote table (.builtin id args)=b args:=by rw[uF,h]
theorem eK(v:Int):Sim true (retInt v) (.fresh fun tk=>.pure (.done (.ret (.int v tk)))):=.fresh fun _=>.pure _
theorem Ju(x n:Int)(tx tn:Nat):Sim true (denote table (.builtin "int.__rshift__" ⟨[.int x tx,.int n tn],[]⟩)) (mU (iI n) (ay x n)):=by
 refine lw _ _ _ fun e=>?_
 rw[fy PyProof.Rows.entry_int_rshift]
 have hn:¬n<0:=by unfold iI at e;simpa using e
 show Sim true (if n<0 then _ else _) _
 rw[if_neg hn]
 show Sim true (if n≥(Builtin.Int.intBits x:Int) then _ else _) _
 by_cases hb:n≥(Builtin.Int.intBits x:Int)
 ·rw[if_pos hb]
  have e:ay x n=(if x<0 then (-1:Int) else 0):=PyProof.Rows.fdiv_pow_of_bits (by omega)
  rw[e]
  exact .ruleL _ (eK _)
 ·rw[if_neg hb];exact eK _
theorem Jl(x n:Int)(tx tn:Nat):Sim true (denote table (.builtin "int.__lshift__" ⟨[.int x tx,.int n tn],[]⟩)) (mU (bg x n) (be x n)):=by
 refine lw _ _ _ fun e=>?_
 rw[fy PyProof.Rows.entry_int_lshift]
 have hh:0≤n∧(Builtin.Int.intBits x:Int)+n≤134217728:=by
  unfold bg at e
  simpa using e
 obtain⟨hn,hsz⟩:=hh
 show Sim true (if n<0 then _ else _) _
 rw[if_neg (by omega)]
 show Sim true (if (x==0)=true then _ else _) _
 by_cases h0:x=0
 ·rw[if_pos (by simpa using h0)]
  have e:be x n=0:=by subst h0;exact Int.zero_mul _
  rw[e];exact .ruleL _ (eK _)
 rw[if_neg (by simpa using h0)]
 have h3:¬(((Builtin.Int.intBits x:Int)+29)/30+n/30+(if n%30==0 then 0 else 1)>Builtin.maxDigits):=by
  unfold Builtin.maxDigits
  split<;>omega
 show Sim true (if ((Builtin.Int.intBits x:Int)+29)/30+n/30+(if n%30==0 then 0 else 1)>Builtin.maxDigits then _ else _) _
 rw[if_neg h3]
 have hbig:Builtin.Int.intTooBig ((Builtin.Int.intBits x:Int)+n)=false:=decide_eq_false (Int.not_lt.mpr hsz)
 show Sim true (if Builtin.Int.intTooBig ((Builtin.Int.intBits x:Int)+n)=true then _ else _) _
 rw[if_neg (by rw[hbig];exact Bool.false_ne_true)]
 exact eK _
theorem Iw(x n:Int)(tx tn:Nat):Sim true (denote table (.builtin "int.__mul__" ⟨[.int x tx,.int n tn],[]⟩)) (mU (bB x n) (aw x n)):=by
 refine lw _ _ _ fun e=>?_
 rw[fy PyProof.Rows.entry_int_mul]
 show Sim true (if bB x n=true then _ else _) _
 rw[if_neg (by rw[e];exact Bool.false_ne_true)]
 exact eK _
theorem H7(x n:Int)(tx tn:Nat):Sim true (denote table (.builtin "int.__mod__" ⟨[.int x tx,.int n tn],[]⟩)) (mU (nw n) (ak x n)):=by
 refine lw _ _ _ fun e=>?_
 rw[fy PyProof.Rows.entry_int_mod]
 show Sim true (if (n==0)=true then _ else _) _
 rw[if_neg (by unfold nw at e;rw[e];exact Bool.false_ne_true)]
 exact eK _
theorem HZ(x n:Int)(tx tn:Nat):Sim true (denote table (.builtin "int.__floordiv__" ⟨[.int x tx,.int n tn],[]⟩)) (mU (z0 x n) (aP x n)):=by
 refine lw _ _ _ fun e=>?_
 rw[fy PyProof.Rows.entry_int_floordiv]
 have hh:(n==0)=false∧Builtin.divisionGoesByPylong x n=false:=by unfold z0 at e;simpa using e
 show Sim true (if (n==0)=true then _ else _) _
 rw[if_neg (by rw[hh.1];exact Bool.false_ne_true)]
 show Sim true (Sem.bind (if Builtin.divisionGoesByPylong x n=true then _ else _) _) _
 rw[if_neg (by rw[hh.2];exact Bool.false_ne_true)]
 exact eK _
def GH(id:String)(x y:Int)(dflt:WT):WT:=
 @Bool.rec (fun _=>WT) (@Bool.rec (fun _=>WT) (@Bool.rec (fun _=>WT) (@Bool.rec (fun _=>WT) (@Bool.rec (fun _=>WT) dflt
  (true,mU (z0 x y) (aP x y)) (Nat.beq (S.codeS id) 128106770130096871752080967664072486762))
  (true,mU (nw y) (ak x y)) (Nat.beq (S.codeS id) 116512097088030077292474218))
  (true,mU (bB x y) (aw x y)) (Nat.beq (S.codeS id) 116512245094328231196454762))
  (true,mU (bg x y) (be x y)) (Nat.beq (S.codeS id) 1954753560319954399567331122835306))
  (true,mU (iI y) (ay x y)) (Nat.beq (S.codeS id) 1954753560319954401256180983099242)
theorem gb(id:String)(lit:String)(n:Nat)(hn:S.codeS lit=n)(h:Nat.beq (S.codeS id) n=true):id=lit:=
 PySem.code_inj _ _ (by rw[S.code_S,S.code_S,Nat.eq_of_beq_eq_true h,hn])
theorem Ib(id:String)(x y:Int)(tx ty:Nat)(dflt:WT)(H:Sim dflt.1 (denote table (.builtin id ⟨[.int x tx,.int y ty],[]⟩)) dflt.2):
  Sim (GH id x y dflt).1 (denote table (.builtin id ⟨[.int x tx,.int y ty],[]⟩)) (GH id x y dflt).2:=by
 unfold GH
 cases h1:Nat.beq (S.codeS id) 1954753560319954401256180983099242 with
 |true=>
  have:=gb id "int.__rshift__" _ (by decide +kernel) h1
  subst this;exact Ju x y tx ty
 |false=>
 cases h2:Nat.beq (S.codeS id) 1954753560319954399567331122835306 with
 |true=>
  have:=gb id "int.__lshift__" _ (by decide +kernel) h2
  subst this;exact Jl x y tx ty
 |false=>
 cases h3:Nat.beq (S.codeS id) 116512245094328231196454762 with
 |true=>
  have:=gb id "int.__mul__" _ (by decide +kernel) h3
  subst this;exact Iw x y tx ty
 |false=>
 cases h4:Nat.beq (S.codeS id) 116512097088030077292474218 with
 |true=>
  have:=gb id "int.__mod__" _ (by decide +kernel) h4
  subst this;exact H7 x y tx ty
 |false=>
 cases h5:Nat.beq (S.codeS id) 128106770130096871752080967664072486762 with
 |true=>
  have:=gb id "int.__floordiv__" _ (by decide +kernel) h5
  subst this;exact HZ x y tx ty
 |false=>exact H
def blW(id:String)(args:Args)(dflt:WT):WT:=
 match args with
 |⟨pos,kw⟩=>match kw with
  |_::_=>dflt
  |[]=>match pos with
   |[]=>dflt
   |a::r=>match a with
    |.int x _=>match r with
     |[]=>dflt
     |b::r'=>match b with
      |.int y _=>match r' with
       |[]=>GH id x y dflt
       |_::_=>dflt
      |_=>dflt
    |_=>dflt
theorem IA(id:String)(args:Args)(dflt:WT)(H:Sim dflt.1 (denote table (.builtin id args)) dflt.2):Sim (blW id args dflt).1 (denote table (.builtin id args)) (blW id args dflt).2:=by
 obtain⟨pos,kw⟩:=args
 cases kw with
 |cons=>exact H
 |nil=>
  cases pos with
  |nil=>exact H
  |cons a r=>
   cases a with
   |int x tx=>
    cases r with
    |nil=>exact H
    |cons b r'=>
     cases b with
     |int y ty=>
      cases r' with
      |nil=>exact Ib id x y tx ty dflt H
      |cons=>exact H
     |_=>exact H
   |_=>exact H
def WS(cd:Code):WT:=
 match cd with
 |.call f args=>match f with
  |.ref _=>(true,Ac cd args)
  |_=>(false,dY cd)
 |.builtin id args=>blW id args (@Bool.rec (fun _=>WT) (false,dY cd) (true,sq (dY cd) t6) (isCmp id))
 |.forLoop target it body orelse env=>match target with
  |.Tuple ..=>(true,forS target it body orelse env)
  |_=>(false,dY cd)
 |_=>(false,dY cd)
theorem s5(p:Program)(w:World):ub (model p w) WS:=by
 intro cd
 have pl:Sim false ((model p w).den cd) (dY cd):=by
  show Sim false (denote table cd) _
  rw[kj];exact Sim.refl _
 cases cd with
 |call f args=>
  cases f with
  |ref a=>exact CZ a args
  |_=>exact pl
 |builtin id args=>
  refine IA id args _ ?_
  cases isCmp id with
  |false=>exact pl
  |true=>
   show Sim true (denote table (.builtin id args)) (sq (dY (.builtin id args)) t6)
   rw[kj];exact Ie _
 |forLoop target it body orelse env=>
  cases target with
  |Tuple es k pos=>exact IP _ _ _ _ _ _ _ _
  |_=>exact pl
 |_=>exact pl
def fIdx:List DictEntry→Int→Option Nat
 |[],_=>none
 |e::l,k=>if Value.isInt k e.key=true then some 0 else (fIdx l k).map (·+1)
theorem n8(es:Array DictEntry)(k:Int):(es.findIdx? fun e=>Value.isInt k e.key)=fIdx es.toList k:=by
 obtain⟨l⟩:=es
 rw[show (Array.mk l).findIdx? (fun e=>Value.isInt k e.key)=l.findIdx? (fun e=>Value.isInt k e.key) from List.findIdx?_toArray ..]
 show List.findIdx? _ l=fIdx l k
 induction l with
 |nil=>rfl
 |cons e l ih=>
  rw[List.findIdx?_cons,fIdx]
  cases Value.isInt k e.key with
  |true=>rfl
  |false=>simp only[Bool.false_eq_true,if_false];rw[ih]
theorem cK(k:Nat)(h:k≤1000000000000):hashInt (Int.ofNat k)=Int.ofNat k:=by
 have e:rawHash (Int.ofNat k)=Int.ofNat k:=by
  unfold rawHash
  have h2:((k:Nat):Int)%((2^61-1:Nat):Int)=k:=Int.emod_eq_of_lt (by omega) (by omega)
  have h3:¬(Int.ofNat k<0):=by simp
  have h4:¬(((k:Nat):Int)==-1)=true:=by
   have:((k:Nat):Int)≠-1:=by omega
   simpa using this
  show (if (((if Int.ofNat k<0 then -(((k:Nat):Int)%((2^61-1:Nat):Int)) else ((k:Nat):Int)%((2^61-1:Nat):Int)))==-1)=true then (-2:Int) else _)=_
  rw[if_neg h3,h2,if_neg h4,if_neg h3];exact h2
 unfold hashInt
 rw[e,if_neg]
 have:((k:Nat):Int)≠-1:=by omega
 simpa using this
def y9(e:DictEntry):Bool:=match e.hash with
 |.ofNat h=>match e.key with
  |.int x _=>match x with
   |.ofNat k=>Nat.beq h k&&Nat.ble k 1000000000000
   |_=>false
  |_=>false
 |_=>false
def jM:List DictEntry→Bool
 |[]=>true
 |e::l=>y9 e&&jM l
theorem Eh{e:DictEntry}(h:y9 e=true):∃k t,e.key=.int k t∧e.hash=hashInt k:=by
 obtain⟨hs,key,v⟩:=e
 unfold y9 at h
 cases hs with
 |negSucc=>cases h
 |ofNat hh=>
  cases key with
  |int x t=>
   cases x with
   |negSucc=>cases h
   |ofNat k=>
    simp only[Bool.and_eq_true]at h
    refine⟨_,_,rfl,?_⟩
    rw[cK k (Nat.le_of_ble_eq_true h.2)]
    show Int.ofNat hh=Int.ofNat k
    rw[Nat.eq_of_beq_eq_true h.1]
  |_=>cases h
theorem sx{l:List DictEntry}(h:jM l=true):IntKeys ⟨l⟩:=by
 intro e he
 have he':e∈l:=by simpa using he
 induction l with
 |nil=>cases he'
 |cons x l ih=>
  simp only[jM,Bool.and_eq_true]at h
  rcases List.mem_cons.mp he' with z|z
  ·subst z;exact Eh h.1
  ·exact ih h.2 (by simpa using z) z
section
variable{prog:Program}{w:World}{A:Around}{E:Value→Shared→Prop}{s:Shared}
theorem lF{d:Addr}{o:Obj}{es ep}{k:Int}{t:Tok}{Q:Option Value→Shared→Prop}(ho:s.heap.get? d=some o)(hd:o.data=.dict es ep)(hk:IntKeys es)
  (h:Q ((es.findIdx? fun e=>Value.isInt k e.key).bind fun i=>(es[i]?).map (·.val)) {s with toks:=s.toks+1}):wpAny (model prog w) A (dictGet d (.int k t)) Q E s:=by
 unfold dictGet
 try with_reducible refine wpAny_holding ?_
 refine wpAny_bind (wpAny_pyHash_int (wpAny_bind (wpAny_dictFind_int (s:={s with toks:=s.toks+1}) ho hd hk ?_)))
 cases hi:es.findIdx? fun e=>Value.isInt k e.key with
 |none=>rw[hi]at h;exact wpAny_pure h
 |some i=>rw[hi]at h;exact wpAny_bind (wpAny_dictEntries (s:={s with toks:=s.toks+1}) ho hd (wpAny_pure h))
theorem zN{d:Addr}{o:Obj}{es ep}{k:Int}{t:Tok}{v:Value}{i:Nat}{Q:Unit→Shared→Prop}(ho:s.heap.get? d=some o)(hd:o.data=.dict es ep)(hk:IntKeys es)
  (hi:(es.findIdx? fun e=>Value.isInt k e.key)=some i) (h:Q () {s with heap:=s.heap.update d (Obj.mapDict (·.modify i fun e=>{e with val:=v})),toks:=s.toks+1}):
  wpAny (model prog w) A (dictSet d (.int k t) v) Q E s:=by
 unfold dictSet
 try with_reducible refine wpAny_holding ?_
 refine wpAny_bind (wpAny_pyHash_int ?_)
 unfold dictSetHashed
 try with_reducible refine wpAny_holding ?_
 refine wpAny_bind (wpAny_dictFind_int (s:={s with toks:=s.toks+1}) ho hd hk ?_)
 rw[hi]
 exact wpAny_bind (wpAny_rule (wpAny_bind (wpAny_updateDict (s:={s with toks:=s.toks+1}) ho hd (wpAny_point h))))
theorem cM{id:String}{args:Args}{b:Builtin}(h:entryFor table id=some b):(model prog w).den (.builtin id args)=b args:=fy h
theorem bL{Γ:Ctx}{p:Pos}{t:Sem PySem.Fin}{f:Flow}{s':Shared}(hh:Γ.handled=none)
  (H:∀A,A.handled=none→wpAny (model prog w) A t (fun fin x=>fin=.done f∧x=s') (fun _ _=>False) s):Runs (model prog w) Γ p t [] s (.ret (.ok f)) s':=by
 have hw:=H ⟨none,frameCount Γ.below+Γ.code.weight,none,none,Γ.code.cUnits+PySem.unitsOf Γ.below⟩ rfl Γ p ⟨hh,Nat.le_refl _,(fun _ h=>nomatch h),(fun _ h=>nomatch h),Nat.le_refl _⟩
 have hw':Sem.wp (model prog w) Γ t (Sem.finPost (model prog w) Γ fun r x=>r=.ok f∧x=s') (fun e _ x=>(.error e:Result)=.ok f∧x=s') p s:=
  Sem.wp_mono _ Γ t (fun a p' x hx=>by obtain⟨rfl,rfl⟩:=hx;exact⟨rfl,rfl⟩) (fun e p' x hx=>hx.elim) p s hw
 obtain⟨r,x,hr,rfl,rfl⟩:=(Sem.wp_iff_runs (model prog w) Γ t _ p s).mp hw'
 exact hr
variable{Γ:Ctx}{p:Pos}{d:Addr}{o:Obj}{es:Array DictEntry}{ep:Nat}{k:Int}{t:Tok}
theorem wH(hh:Γ.handled=none){i:Nat}{e:DictEntry}(ho:s.heap.get? d=some o)(hd:o.data=.dict es ep)(hk:IntKeys es)(hi:(es.findIdx? fun e=>Value.isInt k e.key)=some i)(he:es[i]?=some e):
  Runs (model prog w) Γ p ((model prog w).den (.builtin "dict.__getitem__" ⟨[.ref d,.int k t],[]⟩)) [] s (.ret (.ok (.ret e.val))) {s with toks:=s.toks+1}:=by
 rw[cM entry_dict_getitem]
 refine bL hh fun A hA=>?_
 show wpAny _ _ (dictGet d (.int k t) >>= _) _ _ s
 refine wpAny_bind (lF ho hd hk ?_)
 rw[hi,show ((some i).bind fun i=>(es[i]?).map (·.val))=some e.val by simp[he]]
 exact wpAny_pure ⟨rfl,rfl⟩
theorem wS(hh:Γ.handled=none)(hs:(d==sysModules)=false)(ho:s.heap.get? d=some o)(hd:o.data=.dict es ep)(hk:IntKeys es):
  Runs (model prog w) Γ p ((model prog w).den (.builtin "dict.get" ⟨[.ref d,.int k t],[]⟩)) [] s
   (.ret (.ok (.ret (((es.findIdx? fun e=>Value.isInt k e.key).bind fun i=>(es[i]?).map (·.val)).getD .none)))) {s with toks:=s.toks+1}:=by
 rw[cM F.entry_dict_get]
 refine bL hh fun A hA=>?_
 show wpAny _ _ (dictGet d (.int k t) >>= _) _ _ s
 refine wpAny_bind (lF ho hd hk ?_)
 cases(es.findIdx? fun e=>Value.isInt k e.key).bind fun i=>(es[i]?).map (·.val) with
 |some v=>exact wpAny_pure ⟨rfl,rfl⟩
 |none=>
  show wpAny _ _ (Builtin.Dict.missed d _ >>= _) _ _ _
  exact wpAny_bind (wpAny_missed_other hs (wpAny_pure ⟨rfl,rfl⟩))
theorem mv(hh:Γ.handled=none)(hs:(d==sysModules)=false)(ho:s.heap.get? d=some o)(hd:o.data=.dict es ep)(hk:IntKeys es):
  Runs (model prog w) Γ p ((model prog w).den (.builtin "dict.__contains__" ⟨[.ref d,.int k t],[]⟩)) [] s
   (.ret (.ok (.ret (.bool ((es.findIdx? fun e=>Value.isInt k e.key).bind fun i=>(es[i]?).map (·.val)).isSome)))) {s with toks:=s.toks+1}:=by
 rw[cM F.entry_dict_contains]
 refine bL hh fun A hA=>?_
 show wpAny _ _ (dictGet d (.int k t) >>= _) _ _ s
 refine wpAny_bind (lF ho hd hk ?_)
 cases(es.findIdx? fun e=>Value.isInt k e.key).bind fun i=>(es[i]?).map (·.val) with
 |some v=>exact wpAny_pure ⟨rfl,rfl⟩
 |none=>
  show wpAny _ _ (Builtin.Dict.pendingKey? d _ >>= _) _ _ _
  exact wpAny_bind (wpAny_pendingKey_other hs (wpAny_pure ⟨rfl,rfl⟩))
theorem wy(hh:Γ.handled=none){i:Nat}{v:Value}(hc:o.cls=.type "dict")(ho:s.heap.get? d=some o)(hd:o.data=.dict es ep)(hk:IntKeys es)(hi:(es.findIdx? fun e=>Value.isInt k e.key)=some i):
  Runs (model prog w) Γ p ((model prog w).den (.builtin "dict.__setitem__" ⟨[.ref d,.int k t,v],[]⟩)) [] s (.ret (.ok (.ret .none)))
   {s with heap:=s.heap.update d (Obj.mapDict (·.modify i fun e=>{e with val:=v})),toks:=s.toks+1}:=by
 rw[cM entry_dict_setitem]
 refine bL hh fun A hA=>?_
 show wpAny _ _ (Builtin.Dict.notOrdered "__setitem__" ⟨[.ref d,.int k t,v],[]⟩ >>= _) _ _ s
 refine wpAny_bind (wpAny_notOrdered_dict ⟨o,ho,hc⟩ ?_)
 show wpAny _ _ (dictSet d (.int k t) v >>= _) _ _ s
 exact wpAny_bind (zN ho hd hk hi (wpAny_pure ⟨rfl,rfl⟩))
theorem di{t:Sem PySem.Fin}{Sp:Spec}{f:Flow}{s':Shared}(g:Meets t Sp)(hh:Γ.handled=none)(H:∀A:Around,A.handled=none→Sp A (fun r x=>r=.ok f∧x=s') s):
  Runs (model prog w) Γ p t [] s (.ret (.ok f)) s':=by
 have hw:=g prog w ⟨none,frameCount Γ.below+Γ.code.weight,none,none,Γ.code.cUnits+PySem.unitsOf Γ.below⟩ _ s (H _ rfl) Γ p
  ⟨hh,Nat.le_refl _,(fun _ h=>nomatch h),(fun _ h=>nomatch h),by show _≤_+_;simp[Ctx.units]⟩
 have hw':Sem.wp (model prog w) Γ t (Sem.finPost (model prog w) Γ fun r x=>r=.ok f∧x=s') (fun e _ x=>(.error e:Result)=.ok f∧x=s') p s:=
  Sem.wp_mono _ Γ t (fun a p' x hx=>by
   cases a with
   |done f'=>exact hx
   |again c=>exact⟨hx.1,hx.2 (Γ.goto c) p' rfl ⟨hh,Nat.le_add_right _ _,(fun _ h=>nomatch h),(fun _ h=>nomatch h),Nat.le_add_left _ _⟩⟩) (fun e p' x hx=>hx) p s hw
 obtain⟨r,x,hr,rfl,rfl⟩:=(Sem.wp_iff_runs (model prog w) Γ t _ p s).mp hw'
 exact hr
def AC(k:Int)(v:Value):Bool:=match v with
 |.int x _=>x==k
 |_=>false
def cy:List Value→Bool
 |[]=>true
 |v::l=>(match v with|.int _ _=>true|_=>false)&&cy l
def hP:List Value→Int→Bool
 |[],_=>false
 |v::l,k=>AC k v||hP l k
theorem xE(l:List Value)(k:Int):l.any (AC k)=hP l k:=by
 induction l with
 |nil=>rfl
 |cons v l ih=>rw[List.any_cons,hP,ih]
theorem kb{l:List Value}(h:cy l=true):∀v∈l,∃x t,v=.int x t:=by
 induction l with
 |nil=>intro v hv;cases hv
 |cons y l ih=>
  intro v hv
  simp only[cy,Bool.and_eq_true]at h
  rcases List.mem_cons.mp hv with z|z
  ·subst z
   cases v with
   |int x t=>exact⟨x,t,rfl⟩
   |_=>exact absurd h.1 (by simp)
  ·exact ih h.2 v z
open SeqAt in
theorem oS{A:Around}{s:Shared}(a b:Int)(t u:Tok):EqAt A s (.int a t) (.int b u) (a==b):=fun _ _ _ _ h=>wpAny_eqBool_int h
open SeqAt in
theorem jW{l:List Value}{n:Nat}{dd:Option Addr}{sl:Array (Option Value)}(hh:Γ.handled=none)(ho:s.heap.get? d=some ⟨.type "tuple",dd,.seq ⟨l⟩ n,sl⟩)(hi:cy l=true):
  Runs (model prog w) Γ p ((model prog w).den (.builtin "tuple.__contains__" ⟨[.ref d,.int k t],[]⟩)) [] s (.ret (.ok (.ret (.bool (hP l k))))) s:=by
 rw[cM F.entry_tuple_contains]
 refine di (tuple_containsAt d ⟨l⟩ n dd sl (.int k t) (AC k)) hh fun A hA=>⟨ho,fun y hy=>?_,?_⟩
 ·obtain⟨x,u,rfl⟩:=kb hi y (by simpa using hy)
  exact oS x k u t
 ·refine⟨?_,rfl⟩
  rw[←xE]
  simp
def pH:List Nat→List Nat→Bool
 |[],[]=>true
 |a::l,b::r=>Nat.beq a b&&pH l r
 |_,_=>false
theorem DK(l r:List Nat):pH l r=decide (l=r):=by
 induction l generalizing r with
 |nil=>cases r<;>rfl
 |cons a l ih=>
  cases r with
  |nil=>rfl
  |cons b r=>
   rw[pH,ih]
   by_cases h:a=b
   ·subst h;simp
   ·have:Nat.beq a b=false:=Bool.eq_false_iff.mpr fun q=>h (Nat.eq_of_beq_eq_true q)
    rw[this];simp[h]
def isT(k:PySem.Str)(v:Value):Bool:=match v with
 |.str x _=>pH x.cps.toList k.cps.toList
 |_=>false
def iM:List Value→Bool
 |[]=>true
 |v::l=>(match v with|.str _ _=>true|_=>false)&&iM l
def ir:List Value→PySem.Str→Bool
 |[],_=>false
 |v::l,k=>isT k v||ir l k
theorem HW(l:List Value)(k:PySem.Str):l.any (isT k)=ir l k:=by
 induction l with
 |nil=>rfl
 |cons v l ih=>rw[List.any_cons,ir,ih]
theorem Cd{l:List Value}(h:iM l=true):∀v∈l,∃x t,v=.str x t:=by
 induction l with
 |nil=>intro v hv;cases hv
 |cons y l ih=>
  intro v hv
  simp only[iM,Bool.and_eq_true]at h
  rcases List.mem_cons.mp hv with z|z
  ·subst z
   cases v with
   |str x t=>exact⟨x,t,rfl⟩
   |_=>exact absurd h.1 (by simp)
  ·exact ih h.2 v z
theorem IL(x y:PySem.Str):(x==y)=pH x.cps.toList y.cps.toList:=by
 rw[DK]
 obtain⟨⟨x⟩⟩:=x
 obtain⟨⟨y⟩⟩:=y
 by_cases h:x=y
 ·subst h;simp
 ·have:¬(⟨⟨x⟩⟩:PySem.Str)=⟨⟨y⟩⟩:=fun e=>h (by injection e with e;injection e)
  simp[h,this]
open SeqAt in
theorem lX{k:PySem.Str}{l:List Value}{n:Nat}{dd:Option Addr}{sl:Array (Option Value)}(hh:Γ.handled=none)(ho:s.heap.get? d=some ⟨.type "tuple",dd,.seq ⟨l⟩ n,sl⟩)(hi:iM l=true):
  Runs (model prog w) Γ p ((model prog w).den (.builtin "tuple.__contains__" ⟨[.ref d,.str k t],[]⟩)) [] s (.ret (.ok (.ret (.bool (ir l k))))) s:=by
 rw[cM F.entry_tuple_contains]
 refine di (tuple_containsAt d ⟨l⟩ n dd sl (.str k t) (isT k)) hh fun A hA=>⟨ho,fun y hy=>?_,?_⟩
 ·obtain⟨x,u,rfl⟩:=Cd hi y (by simpa using hy)
  exact fun _ _ _ _ h=>PyProof.Rows.eqBool_str (by rw[IL];exact h)
 ·refine⟨?_,rfl⟩
  rw[←HW]
  simp
end
def Q.isOk:Q→Bool
  |.ok _ _ _ _ _ _=>true
  |_=>false
def Q.val:Q→Result
  |.ok r _ _ _ _ _=>r
  |_=>.error .none
def Q.tree:Q→HT
  |.ok _ T _ _ _ _=>T
  |_=>.nil
def Q.cnt:Q→Nat
  |.ok _ _ c _ _ _=>c
  |_=>0
def Q.tks:Q→Nat
  |.ok _ _ _ tk _ _=>tk
  |_=>0
def Q.claims:Q→List Claim
  |.ok _ _ _ _ A _=>A
  |_=>[]
theorem nthOr_eq(vs:List Nat)(n0:Nat):∀j,FM vs n0 j=if h:j<vs.length then vs[j] else n0+(j-vs.length):=by
  induction vs with
  |nil=>intro j;rfl
  |cons v vs ih=>
    intro j
    cases j with
    |zero=>rfl
    |succ j=>
      show FM vs n0 j=_
      rw[ih j]
      by_cases h:j<vs.length
      · rw[dif_pos h,dif_pos (by simpa using h)];rfl
      · rw[dif_neg h,dif_neg (by simpa using h)];simp
def HT.depth:HT→Nat
  |.nil=>0
  |.node _ l r=>max l.depth r.depth+1
theorem HT.deep:∀(t:HT) (k:Nat),1≤k→2^t.depth≤k→t.getK k=none
  |.nil,_,_,_=>rfl
  |.node v l r,k,h1,h2=>by
    have e:2^(max l.depth r.depth+1)≤k:=h2
    rw[Nat.pow_succ]at e
    have hl:2^l.depth≤2^max l.depth r.depth:=Nat.pow_le_pow_right (by omega) (Nat.le_max_left _ _)
    have hr:2^r.depth≤2^max l.depth r.depth:=Nat.pow_le_pow_right (by omega) (Nat.le_max_right _ _)
    have hp:1≤2^max l.depth r.depth:=Nat.one_le_two_pow
    rw[HT.get_node,if_neg (by omega)]
    split
    · exact HT.deep r (k/2) (by omega) (by omega)
    · exact HT.deep l (k/2) (by omega) (by omega)
def HT.Under(t:HT)(B:Nat):Prop:=∀a o,t.getK (a+1)=some o→a<B
theorem HT.under_of{t:HT}{B d:Nat}(hd:t.depth≤d)(hB:(List.range (2^d-B)).map (fun i=>(t.getK (B+i+1)).isNone)=(List.range (2^d-B)).map fun _=>true):t.Under B:=by
  intro a o h
  by_cases q:a<B
  · exact q
  · exfalso
    by_cases z:a+1<2^d+1
    · have:∀i,i<2^d-B→(t.getK (B+i+1)).isNone=true:=fun i hi=>(List.map_inj_left.mp hB) i (List.mem_range.mpr hi)
      by_cases y:a-B<2^d-B
      · have:=this (a-B) y
        rw[show B+(a-B)+1=a+1 by omega,h]at this;cases this
      · have e:t.getK (a+1)=none:=HT.deep t (a+1) (by omega) (Nat.le_trans (Nat.pow_le_pow_right (by omega) hd) (by omega))
        rw[e]at h;cases h
    · have e:t.getK (a+1)=none:=HT.deep t (a+1) (by omega) (Nat.le_trans (Nat.pow_le_pow_right (by omega) hd) (by omega))
      rw[e]at h;cases h
def jN:List DictEntry→Nat→Value→List DictEntry
  |[],_,_=>[]
  |e::l,0,v=>⟨e.hash,e.key,v⟩::l
  |e::l,i+1,v=>e::jN l i v
theorem w7(l:List DictEntry)(i:Nat)(v:Value):(Array.mk l).modify i (fun e=>{e with val:=v})=⟨jN l i v⟩:=by
  apply Array.toList_inj.mp
  rw[Array.toList_modify]
  show l.modify i _=jN l i v
  induction l generalizing i with
  |nil=>cases i<;>rfl
  |cons e l ih=>cases i with
    |zero=>rfl
    |succ i=>rw[List.modify_succ_cons,ih];rfl
def nthE:List DictEntry→Nat→Option DictEntry
  |[],_=>none
  |e::_,0=>some e
  |_::l,i+1=>nthE l i
theorem op(l:List DictEntry)(i:Nat):(Array.mk l)[i]?=nthE l i:=by
  show l.toArray[i]?=_
  rw[List.getElem?_toArray]
  induction l generalizing i with
  |nil=>rfl
  |cons e l ih=>cases i with
    |zero=>rfl
    |succ i=>rw[List.getElem?_cons_succ,ih];rfl
def dp(l:List DictEntry)(k:Int):Option Value:=match fIdx l k with
  |some i=>match nthE l i with
    |some e=>some e.val
    |none=>none
  |none=>none
theorem mg(l:List DictEntry)(k:Int):(((Array.mk l).findIdx? fun e=>Value.isInt k e.key).bind fun i=>((Array.mk l)[i]?).map (·.val))=dp l k:=by
  rw[n8]
  unfold dp
  show (fIdx l k).bind _=_
  cases fIdx l k with
  |none=>rfl
  |some i=>
    show ((Array.mk l)[i]?).map (·.val)=_
    rw[op]
    show Option.map _ (nthE l i)=(match nthE l i with|some e=>some e.val|none=>none)
    cases nthE l i<;>rfl
def isDictC(v:Value):Prop:=v=.type "dict"
def sU(v:Value):Bool:=match v with
  |.type s=>Nat.beq (S.codeS s) 1969515109
  |_=>false
theorem C8{v:Value}(h:sU v=true):v=.type "dict":=by
  cases v with
  |type s=>rw[gb s "dict" _ (by decide +kernel) h]
  |_=>cases h
def k4(id:String)(k:Int)(rest:List Value)(o:Obj)(l:List DictEntry)(n j:Nat)(T:HT)(c tk:Nat)(A:List Claim)(H:Hn):Q:=
  @Bool.rec (fun _=>Q)
   (@Bool.rec (fun _=>Q)
    (@Bool.rec (fun _=>Q)
     (@Bool.rec (fun _=>Q) .no
      (match rest with
        |[]=>.no
        |v::r=>match r with
          |[]=>match fIdx l k with
            |none=>.no
            |some i=>@Bool.rec (fun _=>Q) .no (.ok (.ok (.ret .none)) (T.putK (.add j 1) ⟨o.cls,o.dict,.dict ⟨jN l i v⟩ n,o.slots⟩) c (.add tk 1) A H) (sU o.cls)
          |_::_=>.no)
      (Nat.beq (S.codeS id) 128106587276438692082622197436938218085))
     (match rest with|[]=>.ok (.ok (.ret (.bool (dp l k).isSome))) T c (.add tk 1) A H|_::_=>.no)
     (Nat.beq (S.codeS id) 32795317678217157189674408721764466322021))
    (match rest with|[]=>.ok (.ok (.ret ((dp l k).getD .none))) T c (.add tk 1) A H|_::_=>.no)
    (Nat.beq (S.codeS id) 8459563503104322149))
   (match rest with|[]=>(match dp l k with|some v=>.ok (.ok (.ret v)) T c (.add tk 1) A H|none=>.no)|_::_=>.no)
   (Nat.beq (S.codeS id) 128106587276438692081757506308483082853)
def o7(v:Value):Bool:=match v with
  |.type s=>Nat.beq (S.codeS s) 439922816629
  |_=>false
theorem xD{v:Value}(h:o7 v=true):v=.type "tuple":=by
  cases v with
  |type s=>rw[gb s "tuple" _ (by decide +kernel) h]
  |_=>cases h
def seqGo(g:Cfg)(id:String)(d:Addr)(k:Int)(rest:List Value)(o:Obj)(l:List Value)(j:Nat)(T:HT)(c tk:Nat)(A:List Claim)(H:Hn):Q:=
  match rest with
  |_::_=>.no
  |[]=>@Bool.rec (fun _=>Q) .no (kf (hP l k) (.eq d (g.rho j)::A) H fun b A H=>.ok (.ok (.ret (.bool b))) T c tk A H) (Nat.beq (S.codeS id) 8395601325623592240556648632771639105386101&&(o7 o.cls&&cy l))
def wc(g:Cfg)(id:String)(d:Addr)(k:Int)(rest:List Value)(j:Nat)(T:HT)(c tk:Nat)(A:List Claim)(H:Hn):Q:=
  match T.getK (.add j 1) with
  |none=>.no
  |some o=>match o.data with
    |.dict es n=>@Bool.rec (fun _=>Q) .no (k4 id k rest o es.toList n j T c tk (.eq d (g.rho j)::.eq (g.tok (.add tk 1)) (Nat.succ (g.tok tk))::A) H) (jM es.toList&&Nat.ble 2 g.B)
    |.seq xs _=>seqGo g id d k rest o xs.toList j T c tk A H
    |_=>.no
def zw(g:Cfg)(id:String)(d:Addr)(k:PySem.Str)(rest:List Value)(j:Nat)(T:HT)(c tk:Nat)(A:List Claim)(H:Hn):Q:=
  match rest with
  |_::_=>.no
  |[]=>match T.getK (.add j 1) with
    |none=>.no
    |some o=>match o.data with
      |.seq xs _=>@Bool.rec (fun _=>Q) .no (kf (ir xs.toList k) (.eq d (g.rho j)::A) H fun b A H=>.ok (.ok (.ret (.bool b))) T c tk A H) (Nat.beq (S.codeS id) 8395601325623592240556648632771639105386101&&(o7 o.cls&&iM xs.toList))
      |_=>.no
def s8(g:Cfg)(cd:Code)(T:HT)(c tk:Nat)(A:List Claim)(H:Hn):Q:=
  match cd with
  |.builtin id args=>match args with
    |⟨pos,kw⟩=>match kw with
      |_::_=>.no
      |[]=>match pos with
        |[]=>.no
        |a::r=>match a with
          |.ref d=>match r with
            |[]=>.no
            |b::rest=>match b with
              |.int k _=>match H with
                |.ld j H'=>match j with
                  |0=>.no
                  |j+1=>wc g id d k rest j T c tk A H'
                |_=>.no
              |.str k _=>match H with
                |.ld j H'=>match j with
                  |0=>.no
                  |j+1=>zw g id d k rest j T c tk A H'
                |_=>.no
              |_=>.no
          |_=>.no
  |_=>.no
inductive DInv (g:Cfg) (cd:Code) (T:HT) (c tk:Nat) (A:List Claim) (f:Leaf):Prop where
  |a (id:String) (d:Addr) (k:Int) (t:Nat) (rest:List Value) (j:Nat) (H':Hn) (o:Obj) (l:List DictEntry) (n:Nat) (h1:cd=.builtin id ⟨.ref d::.int k t::rest,[]⟩) (h2:T.getK (j+1)=some o) (h3:o.data=.dict ⟨l⟩ n) (h4:jM l=true) (h5:2≤g.B)
      (h6:(k4 id k rest o l n j T c tk (.eq d (g.rho j)::.eq (g.tok (tk+1)) (Nat.succ (g.tok tk))::A) H').leaf=some f):DInv g cd T c tk A f
  |b (d:Addr) (k:Int) (t j:Nat) (H':Hn) (o:Obj) (l:List Value) (n:Nat) (h1:cd=.builtin "tuple.__contains__" ⟨[.ref d,.int k t],[]⟩) (h2:T.getK (j+1)=some o) (h3:o.cls=.type "tuple") (h4:o.data=.seq ⟨l⟩ n) (h5:cy l=true)
      (h6:(kf (hP l k) (.eq d (g.rho j)::A) H' fun b A H=>.ok (.ok (.ret (.bool b))) T c tk A H).leaf=some f):DInv g cd T c tk A f
  |c (d:Addr) (k:Str) (t j:Nat) (H':Hn) (o:Obj) (l:List Value) (n:Nat) (h1:cd=.builtin "tuple.__contains__" ⟨[.ref d,.str k t],[]⟩) (h2:T.getK (j+1)=some o) (h3:o.cls=.type "tuple") (h4:o.data=.seq ⟨l⟩ n) (h5:iM l=true)
      (h6:(kf (ir l k) (.eq d (g.rho j)::A) H' fun b A H=>.ok (.ok (.ret (.bool b))) T c tk A H).leaf=some f):DInv g cd T c tk A f
theorem dictO_inv{g:Cfg}{cd:Code}{T:HT}{c tk:Nat}{A:List Claim}{H:Hn}{f:Leaf}(e:(s8 g cd T c tk A H).leaf=some f):DInv g cd T c tk A f:=by
  cases cd with
  |builtin id args=>
    obtain⟨pos,kw⟩:=args
    cases kw with
    |cons=>cases e
    |nil=>
      cases pos with
      |nil=>cases e
      |cons a r=>
        cases a with
        |ref d=>
          cases r with
          |nil=>cases e
          |cons b rest=>
            cases b with
            |int k t=>
              cases H with
              |ld j H'=>
                cases j with
                |zero=>cases e
                |succ j=>
                  have e':(wc g id d k rest j T c tk A H').leaf=some f:=e
                  unfold wc at e'
                  cases ho:T.getK (j+1) with
                  |none=>rw[show T.getK (.add j 1)=none from ho]at e';cases e'
                  |some o=>
                    rw[show T.getK (.add j 1)=some o from ho]at e'
                    obtain⟨cls,dict,data,slots⟩:=o
                    cases data with
                    |dict es n=>
                      obtain⟨l⟩:=es
                      have e'':(@Bool.rec (fun _=>Q) .no (k4 id k rest ⟨cls,dict,.dict ⟨l⟩ n,slots⟩ l n j T c tk (.eq d (g.rho j)::.eq (g.tok (.add tk 1)) (Nat.succ (g.tok tk))::A) H') (jM l&&Nat.ble 2 g.B)).leaf=some f:=e'
                      cases hk:(jM l&&Nat.ble 2 g.B) with
                      |false=>rw[hk]at e'';cases e''
                      |true=>
                        rw[hk]at e''
                        simp only[Bool.and_eq_true]at hk
                        exact .a id d k t rest j H' _ l n rfl ho rfl hk.1 (Nat.le_of_ble_eq_true hk.2) e''
                    |seq xs n=>
                      obtain⟨l⟩:=xs
                      cases rest with
                      |cons=>cases e'
                      |nil=>
                        have e'':(@Bool.rec (fun _=>Q) .no (kf (hP l k) (.eq d (g.rho j)::A) H' fun b A H=>.ok (.ok (.ret (.bool b))) T c tk A H) (Nat.beq (S.codeS id) 8395601325623592240556648632771639105386101&&(o7 cls&&cy l))).leaf=some f:=e'
                        cases hk:(Nat.beq (S.codeS id) 8395601325623592240556648632771639105386101&&(o7 cls&&cy l)) with
                        |false=>rw[hk]at e'';cases e''
                        |true=>
                          rw[hk]at e''
                          simp only[Bool.and_eq_true]at hk
                          have hid:=gb id "tuple.__contains__" _ (by decide +kernel) hk.1
                          subst hid
                          exact .b d k t j H' _ l n rfl ho (xD hk.2.1) rfl hk.2.2 e''
                    |_=>cases e'
              |_=>cases e
            |str k t=>
              cases H with
              |ld j H'=>
                cases j with
                |zero=>cases e
                |succ j=>
                  have e':(zw g id d k rest j T c tk A H').leaf=some f:=e
                  unfold zw at e'
                  cases rest with
                  |cons=>cases e'
                  |nil=>
                    cases ho:T.getK (j+1) with
                    |none=>simp only[show T.getK (.add j 1)=none from ho]at e';cases e'
                    |some o=>
                      simp only[show T.getK (.add j 1)=some o from ho]at e'
                      obtain⟨cls,dict,data,slots⟩:=o
                      cases data with
                      |seq xs n=>
                        obtain⟨l⟩:=xs
                        have e'':(@Bool.rec (fun _=>Q) .no (kf (ir l k) (.eq d (g.rho j)::A) H' fun b A H=>.ok (.ok (.ret (.bool b))) T c tk A H) (Nat.beq (S.codeS id) 8395601325623592240556648632771639105386101&&(o7 cls&&iM l))).leaf=some f:=e'
                        cases hk:(Nat.beq (S.codeS id) 8395601325623592240556648632771639105386101&&(o7 cls&&iM l)) with
                        |false=>rw[hk]at e'';cases e''
                        |true=>
                          rw[hk]at e''
                          simp only[Bool.and_eq_true]at hk
                          have hid:=gb id "tuple.__contains__" _ (by decide +kernel) hk.1
                          subst hid
                          exact .c d k t j H' _ l n rfl ho (xD hk.2.1) rfl hk.2.2 e''
                      |_=>cases e'
              |_=>cases e
            |_=>cases e
        |_=>cases e
  |_=>cases e
theorem mq{id:String}{k:Int}{rest:List Value}{o:Obj}{l:List DictEntry}{n j:Nat}{T:HT}{c tk:Nat}{A:List Claim}{H:Hn}{f:Leaf}(e:(k4 id k rest o l n j T c tk A H).leaf=some f):f.A=A:=by
  unfold k4 at e
  cases h1:Nat.beq (S.codeS id) 128106587276438692081757506308483082853 with
  |true=>
    rw[h1]at e
    cases rest with
    |cons=>cases e
    |nil=>
      cases hv:dp l k with
      |none=>simp only[hv]at e;cases e
      |some v=>simp only[hv]at e;cases e;rfl
  |false=>
  cases h2:Nat.beq (S.codeS id) 8459563503104322149 with
  |true=>rw[h1,h2]at e;cases rest<;>cases e;rfl
  |false=>
  cases h3:Nat.beq (S.codeS id) 32795317678217157189674408721764466322021 with
  |true=>rw[h1,h2,h3]at e;cases rest<;>cases e;rfl
  |false=>
  cases h4:Nat.beq (S.codeS id) 128106587276438692082622197436938218085 with
  |false=>rw[h1,h2,h3,h4]at e;cases e
  |true=>
    rw[h1,h2,h3,h4]at e
    cases rest with
    |nil=>cases e
    |cons v r=>
      cases r with
      |cons=>cases e
      |nil=>
        cases hi:fIdx l k with
        |none=>simp only[hi]at e;cases e
        |some i=>
          simp only[hi]at e
          cases hd:sU o.cls with
          |false=>rw[hd]at e;cases e
          |true=>rw[hd]at e;cases e;rfl
theorem E3{p:Program}{w:World}{g:Cfg}{Γ:Ctx}{cd:Code}{P:Pos}{T:HT}{c tk:Nat}{A:List Claim}{H:Hn}{f:Leaf}(hh:Γ.handled=none)(e:(s8 g cd T c tk A H).leaf=some f):
    SOut (model p w) g Γ ((model p w).den cd) P T c tk A f:=by
  rcases dictO_inv e with ⟨id,d,k,t,rest,j,H',o,l,n,rfl,ho,hd,hk,hB,e6⟩|⟨d,k,t,j,H',o,l,n,rfl,ho,hc,hd,hi,e6⟩|⟨d,k,t,j,H',o,l,n,rfl,ho,hc,hd,hi,e6⟩
  rotate_left
  · obtain⟨b,H'',xs,e',hb⟩:=gc e6
    cases e'
    refine⟨⟨xs++[.eq d (g.rho j)],by simp⟩,fun Sx h gs dd os R=>?_⟩
    have c1:d=g.rho j:=Sx (.eq d (g.rho j)) (by simp)
    have c2:hP l k=b:=hb.elim (fun z=>z) fun z=>Sx (.tr (hP l k) b) (by simp[z])
    obtain⟨hBr,hg⟩:=R.at_ j o ho
    rw[←c1]at hg
    refine⟨h,?_,R,.refl _ _ _,rfl,Nat.le_refl _⟩
    obtain⟨cls,dict,data,slots⟩:=o
    simp only at hc hd
    subst hc hd
    rw[←c2]
    exact jW (s:=⟨h,gs,dd,g.tok tk,os⟩) hh hg hi
  · obtain⟨b,H'',xs,e',hb⟩:=gc e6
    cases e'
    refine⟨⟨xs++[.eq d (g.rho j)],by simp⟩,fun Sx h gs dd os R=>?_⟩
    have c1:d=g.rho j:=Sx (.eq d (g.rho j)) (by simp)
    have c2:ir l k=b:=hb.elim (fun z=>z) fun z=>Sx (.tr (ir l k) b) (by simp[z])
    obtain⟨hBr,hg⟩:=R.at_ j o ho
    rw[←c1]at hg
    refine⟨h,?_,R,.refl _ _ _,rfl,Nat.le_refl _⟩
    obtain⟨cls,dict,data,slots⟩:=o
    simp only at hc hd
    subst hc hd
    rw[←c2]
    exact lX (s:=⟨h,gs,dd,g.tok tk,os⟩) hh hg hi
  have hA:=mq e6
  refine⟨⟨[.eq d (g.rho j),.eq (g.tok (tk+1)) (Nat.succ (g.tok tk))],hA⟩,fun Sx h gs dd os R=>?_⟩
  have c1:d=g.rho j:=Sx (.eq d (g.rho j)) (by rw[hA];simp)
  have c2:g.tok (tk+1)=g.tok tk+1:=Sx (.eq (g.tok (tk+1)) (Nat.succ (g.tok tk))) (by rw[hA];simp)
  obtain⟨hBr,hg⟩:=R.at_ j o ho
  rw[←c1]at hBr hg
  have hs:(d==sysModules)=false:=by
    have:d≠1:=Nat.ne_of_gt (Nat.lt_of_lt_of_le hB hBr)
    simpa [sysModules] using this
  have hk':=sx hk
  unfold k4 at e6
  cases h1:Nat.beq (S.codeS id) 128106587276438692081757506308483082853 with
  |true=>
    have:=gb id "dict.__getitem__" _ (by decide +kernel) h1
    subst this
    rw[h1]at e6
    cases rest with
    |cons=>cases e6
    |nil=>
      cases hv:dp l k with
      |none=>simp only[hv]at e6;cases e6
      |some v=>
        simp only[hv]at e6
        cases e6
        refine⟨h,?_,R,.refl _ _ _,rfl,Nat.le_refl _⟩
        unfold dp at hv
        cases hi:fIdx l k with
        |none=>simp only[hi]at hv;cases hv
        |some i=>
          simp only[hi]at hv
          cases hn:nthE l i with
          |none=>simp only[hn]at hv;cases hv
          |some en=>
            simp only[hn,Option.some.injEq]at hv
            subst hv
            have:=wH (prog:=p) (w:=w) (Γ:=Γ) (p:=P) (t:=t) (s:=⟨h,gs,dd,g.tok tk,os⟩) hh hg hd hk' (i:=i) (e:=en) (by rw[n8];exact hi) (by rw[op];exact hn)
            show Runs _ _ _ _ _ _ _ ⟨h,gs,dd,g.tok (tk+1),os⟩
            rw[c2];exact this
  |false=>
  cases h2:Nat.beq (S.codeS id) 8459563503104322149 with
  |true=>
    have:=gb id "dict.get" _ (by decide +kernel) h2
    subst this
    rw[h1,h2]at e6
    cases rest with
    |cons=>cases e6
    |nil=>
      cases e6
      refine⟨h,?_,R,.refl _ _ _,rfl,Nat.le_refl _⟩
      have:=wS (prog:=p) (w:=w) (Γ:=Γ) (p:=P) (k:=k) (t:=t) (s:=⟨h,gs,dd,g.tok tk,os⟩) hh hs hg hd hk'
      rw[mg]at this
      show Runs _ _ _ _ _ _ _ ⟨h,gs,dd,g.tok (tk+1),os⟩
      rw[c2];exact this
  |false=>
  cases h3:Nat.beq (S.codeS id) 32795317678217157189674408721764466322021 with
  |true=>
    have:=gb id "dict.__contains__" _ (by decide +kernel) h3
    subst this
    rw[h1,h2,h3]at e6
    cases rest with
    |cons=>cases e6
    |nil=>
      cases e6
      refine⟨h,?_,R,.refl _ _ _,rfl,Nat.le_refl _⟩
      have:=mv (prog:=p) (w:=w) (Γ:=Γ) (p:=P) (k:=k) (t:=t) (s:=⟨h,gs,dd,g.tok tk,os⟩) hh hs hg hd hk'
      rw[mg]at this
      show Runs _ _ _ _ _ _ _ ⟨h,gs,dd,g.tok (tk+1),os⟩
      rw[c2];exact this
  |false=>
  cases h4:Nat.beq (S.codeS id) 128106587276438692082622197436938218085 with
  |false=>rw[h1,h2,h3,h4]at e6;cases e6
  |true=>
    have:=gb id "dict.__setitem__" _ (by decide +kernel) h4
    subst this
    rw[h1,h2,h3,h4]at e6
    cases rest with
    |nil=>cases e6
    |cons v r=>
      cases r with
      |cons=>cases e6
      |nil=>
        cases hi:fIdx l k with
        |none=>simp only[hi]at e6;cases e6
        |some i=>
          simp only[hi]at e6
          cases hdb:sU o.cls with
          |false=>rw[hdb]at e6;cases e6
          |true=>
            rw[hdb]at e6
            cases e6
            have hfo:Obj.mapDict (fun es=>es.modify i fun e=>{e with val:=v}) o=⟨o.cls,o.dict,.dict ⟨jN l i v⟩ n,o.slots⟩:=by
              obtain⟨cls,dict,data,slots⟩:=o
              simp only at hd
              subst hd
              show (⟨cls,dict,.dict ((Array.mk l).modify i fun e=>{e with val:=v}) n,slots⟩:Obj)=_
              rw[w7]
            have hfr:(Obj.mapDict (fun es=>es.modify i fun e=>{e with val:=v}) o).isFreed=false:=by rw[hfo];rfl
            obtain⟨R1,R2,R3⟩:=R.put (f:=Obj.mapDict (fun es=>es.modify i fun e=>{e with val:=v})) ho hfr
            rw[hfo]at R1 R2
            refine⟨_,?_,R1,R2,by cases h;rfl,R3⟩
            have:=wy (prog:=p) (w:=w) (Γ:=Γ) (p:=P) (t:=t) (v:=v) (s:=⟨h,gs,dd,g.tok tk,os⟩) hh (C8 hdb) hg hd hk' (i:=i) (by rw[n8];exact hi)
            show Runs _ _ _ _ _ _ _ ⟨h.update (g.rho j) _,gs,dd,g.tok (tk+1),os⟩
            rw[c2,←c1];exact this
structure Call where
  cd:Code
  c:Nat
  tk:Nat
  pre:List (Nat×Obj)
  r:Result
  c':Nat
  tk':Nat
  post:List (Nat×Obj)
def putL(l:List (Nat×Obj))(T:HT):HT:=@List.rec (Nat×Obj) (fun _=>HT) T (fun x _ ih=>ih.putK (.add x.1 1) x.2) l
def mI(T:HT)(l:List (Nat×Obj))(A:List Claim):List Claim:=
  @List.rec (Nat×Obj) (fun _=>List Claim) A (fun x _ ih=>.obj (T.getK (.add x.1 1)) (some x.2)::ih) l
def Call.go(k:Call)(cd:Code)(T:HT)(c tk:Nat)(A:List Claim)(H:Hn):Q:=
  .ok k.r (putL k.post T) k.c' k.tk' (.code cd k.cd::.eq c k.c::.eq tk k.tk::mI T k.pre A) H
def mw(Γ:Ctx):Bool:=@Option.rec Value (fun _=>Bool) (@Option.rec Value (fun _=>Bool) (@Option.rec Value (fun _=>Bool) true (fun _=>false) Γ.past) (fun _=>false) Γ.own) (fun _=>false) Γ.handled
theorem mu{Γ:Ctx}(h:mw Γ=true):Γ.handled=none∧Γ.own=none∧Γ.past=none:=by
  obtain⟨_,a,b,_,d⟩:=Γ
  cases a<;>cases b<;>cases d<;>first|exact⟨rfl,rfl,rfl⟩|cases h
def oO(l:List Call):j0:=fun i _ _ cd T c tk A H=>
  @List.rec Call (fun _=>Nat→Q) (fun _=>.no) (fun k _ f i=>@Nat.rec (fun _=>Q) (k.go cd T c tk A H) (fun i' _=>f i') i) l i
def yR(l:List Call):j0:=fun i g Γ cd T c tk A H=>@Bool.rec (fun _=>Q) .no (@Nat.rec (fun _=>Q) (s8 g cd T c tk A H) (fun i' _=>oO l i' g Γ cd T c tk A H) i) (mw Γ)
def Ft(bl:List (List (Code×Pos)))(lb:List Call):j0:=fun i g Γ cd T c tk A H=>
    (@List.rec Call (fun _=>List (List (Code×Pos))→Nat→Q) (fun _ _=>.no) (fun k _ f bs i=>match bs with
      |[]=>.no
      |b::bs=>@Nat.rec (fun _=>Q) (k.go cd T c tk (.bel Γ.below b::A) H) (fun i' _=>f bs i') i) lb bl i)
def An(l:List Call)(bl:List (List (Code×Pos)))(lb:List Call):j0:=fun i g Γ cd T c tk A H=>
  @Bool.rec (fun _=>Q) (yR l i g Γ cd T c tk A H)
    (@Bool.rec (fun _=>Q) .no (Ft bl lb (Nat.sub i 500) g Γ cd T c tk A H) (mw Γ)) (Nat.ble 500 i)
def lI(l:List Call)(bl:List (List (Code×Pos)))(lb lu:List Call):j0:=fun i g Γ cd T c tk A H=>
  @Bool.rec (fun _=>Q) (An l bl lb i g Γ cd T c tk A H) (oO lu (Nat.sub i 900) g Γ cd T c tk A H) (Nat.ble 900 i)
theorem l8{l:List Call}{i:Nat}{g:Cfg}{Γ:Ctx}{cd:Code}{T:HT}{c tk:Nat}{A:List Claim}{H:Hn}{f:Leaf}(e:(oO l i g Γ cd T c tk A H).leaf=some f):
    ∃k∈l,(k.go cd T c tk A H).leaf=some f:=by
  induction l generalizing i with
  |nil=>cases e
  |cons k l ih=>
    cases i with
    |zero=>exact⟨k,List.mem_cons_self,e⟩
    |succ i=>obtain⟨k',hk,e'⟩:=ih (i:=i) e;exact⟨k',List.mem_cons_of_mem _ hk,e'⟩
theorem v7(T:HT)(l:List (Nat×Obj))(A:List Claim):∃xs,mI T l A=xs++A∧∀x∈l,Claim.obj (T.getK (x.1+1)) (some x.2)∈xs:=by
  induction l with
  |nil=>exact⟨[],rfl,fun _ h=>by cases h⟩
  |cons y l ih=>
    obtain⟨xs,e,h⟩:=ih
    refine⟨.obj (T.getK (y.1+1)) (some y.2)::xs,?_,fun x hx=>?_⟩
    · show _::mI T l A=_;rw[e];rfl
    · rcases List.mem_cons.mp hx with q|q
      · subst q;exact List.mem_cons_self
      · exact List.mem_cons_of_mem _ (h x q)
theorem Call.go_mono{k:Call}{cd:Code}{T:HT}{c tk:Nat}{A:List Claim}{H:Hn}{f:Leaf}(e:(k.go cd T c tk A H).leaf=some f):∃xs,f.A=xs++A:=by
  obtain⟨xs,ex,_⟩:=v7 T k.pre A
  have e':some (⟨k.r,putL k.post T,k.c',k.tk',.code cd k.cd::.eq c k.c::.eq tk k.tk::mI T k.pre A,H⟩:Leaf)=some f:=e
  cases e'
  exact⟨.code cd k.cd::.eq c k.c::.eq tk k.tk::xs,by show _::_::_::mI T k.pre A=_;rw[ex];rfl⟩
theorem mT(l:List Call):jg (oO l):=fun i g Γ cd T c tk A H f e=>by
  obtain⟨k,_,e⟩:=l8 e
  exact Call.go_mono e
theorem putL_get(l:List (Nat×Obj))(T:HT)(hl:(l.map (·.1)).Nodup):∀k o,(putL l T).getK (k+1)=some o→(k,o)∈l∨(k∉l.map (·.1)∧T.getK (k+1)=some o):=by
  induction l with
  |nil=>intro k o h;exact .inr ⟨List.not_mem_nil,h⟩
  |cons y l ih=>
    intro k o h
    have h':((putL l T).putK (y.1+1) y.2).getK (k+1)=some o:=h
    rw[List.map_cons,List.nodup_cons]at hl
    by_cases q:k=y.1
    · subst q
      rcases HT.put_self y.2 (putL l T) (y.1+1) with z|z
      · rw[z]at h';cases h';exact .inl List.mem_cons_self
      · rw[z]at h';cases h'
    · rw[HT.put_ne _ _ _ _ (by omega) (by omega) (by omega)]at h'
      rcases ih hl.2 k o h' with z|⟨z,w⟩
      · exact .inl (List.mem_cons_of_mem _ z)
      · exact .inr ⟨by rw[List.map_cons,List.mem_cons];exact fun h=>h.elim q z,w⟩
theorem mA{α β:Type}{f:α→β}{l:List α}(h:(l.map f).Nodup){a b:α}(ha:a∈l)(hb:b∈l)(e:f a=f b):a=b:=by
  induction l with
  |nil=>cases ha
  |cons x l ih=>
    rw[List.map_cons,List.nodup_cons]at h
    rcases List.mem_cons.mp ha with p|p<;>rcases List.mem_cons.mp hb with q|q
    · rw[p,q]
    · subst p;exact absurd (List.mem_map.mpr ⟨b,q,e.symm⟩) h.1
    · subst q;exact absurd (List.mem_map.mpr ⟨a,p,e⟩) h.1
    · exact ih h.2 p q
def TriC(M:Model)(S:HT)(B:Nat)(C:Ctx→Prop)(cd:Code)(gh pre:List (Addr×Obj))(n t:Nat)(r:Result)(gh' post:List (Addr×Obj))(n' t':Nat):Prop:=
  (pre.map (·.1)).Nodup→(∀x∈pre,B≤x.1)→B≤n→∀Γ p h gs d os,Γ.code=cd→C Γ→h.objs.size=n→
    (∀a o,S.getK (a+1)=some o→h.get? a=some o)→(∀x∈pre,h.get? x.1=some x.2)→(∀x∈gh,h.get? x.1=some x.2∧x.1∉pre.map (·.1))→
    ∃h',Runs M Γ p (M.den cd) [] ⟨h,gs,d,t,os⟩ (.ret r) ⟨h',gs,d,t',os⟩∧h'.objs.size=n'∧n≤n'∧h'.life=h.life∧(post.map (·.1)).Nodup∧
      (∀x∈post,(x.1∈pre.map (·.1)∨n≤x.1)∧h'.get? x.1=some x.2)∧(∀b,b<n→b∉pre.map (·.1)→∀o,h.get? b=some o→h'.get? b=some o)∧
      ∀x∈gh',h'.get? x.1=some x.2∧x.1∉post.map (·.1)∧(x.1∈gh.map (·.1)∨n≤x.1)
abbrev Tri(M:Model)(S:HT)(B L:Nat):=TriC M S B fun Γ=>Lim Γ L
abbrev TriAt(M:Model)(S:HT)(B L:Nat)(bl:List (Code×Pos)):=TriC M S B fun Γ=>Lim Γ L∧Γ.below=bl
def fI(rho:Nat→Nat)(l:List (Nat×Obj)):List (Addr×Obj):=l.map fun x=>(rho x.1,x.2)
theorem fv(rho:Nat→Nat)(l:List (Nat×Obj)):(fI rho l).map (·.1)=(l.map (·.1)).map rho:=by
  simp[fI,List.map_map,Function.comp_def]
def Call.okB(k:Call):Bool:=decide (k.pre.map (·.1)).Nodup&&decide (k.post.map (·.1)).Nodup&&(k.pre.map (·.1)).all fun i=>(k.post.map (·.1)).contains i
def eu(M:Model)(g:Cfg)(C:Ctx→Prop)(k:Call):Prop:=
  k.okB=true∧TriC M g.S g.B C k.cd (g.G k.c) (fI g.rho k.pre) (g.rho k.c) (g.tok k.tk) k.r (g.G k.c') (fI g.rho k.post) (g.rho k.c') (g.tok k.tk')
abbrev br(M:Model)(g:Cfg)(L:Nat)(k:Call):Prop:=eu M g (fun Γ=>Lim Γ L) k
theorem Call.go_ok{M:Model}{g:Cfg}{C:Ctx→Prop}{k:Call}(H:eu M g C k){Γ:Ctx}{cd:Code}{p:Pos}{T:HT}{c tk:Nat}{A:List Claim}{Hn:Hn}{f:Leaf}(hΓ:Γ.code=cd)(hL:C Γ)(e:(k.go cd T c tk A Hn).leaf=some f):
    SOut M g Γ (M.den cd) p T c tk A f:=by
  obtain⟨xs,ex,hx⟩:=v7 T k.pre A
  have e':some (⟨k.r,putL k.post T,k.c',k.tk',.code cd k.cd::.eq c k.c::.eq tk k.tk::mI T k.pre A,Hn⟩:Leaf)=some f:=e
  cases e'
  obtain⟨ok,tri⟩:=H
  simp only[Call.okB,Bool.and_eq_true,decide_eq_true_eq,List.all_eq_true,List.contains_iff_mem]at ok
  obtain⟨⟨nd1,nd2⟩,sub⟩:=ok
  refine⟨⟨.code cd k.cd::.eq c k.c::.eq tk k.tk::xs,by show _::_::_::mI T k.pre A=_;rw[ex];rfl⟩,fun S h gs d os R=>?_⟩
  have c1:cd=k.cd:=S (.code cd k.cd) (by simp)
  have c2:c=k.c:=S (.eq c k.c) (by simp)
  have c3:tk=k.tk:=S (.eq tk k.tk) (by simp)
  have c4:∀x∈k.pre,T.getK (x.1+1)=some x.2:=fun x hx'=>S (.obj (T.getK (x.1+1)) (some x.2)) (by
    show _∈_::_::_::mI T k.pre A
    rw[ex];simp[hx x hx'])
  subst c1 c2 c3
  have live:∀i∈k.pre.map (·.1),∃o,T.getK (i+1)=some o:=fun i hi=>by
    obtain⟨x,hx',rfl⟩:=List.mem_map.mp hi
    exact⟨_,c4 x hx'⟩
  have pnd:((fI g.rho k.pre).map (·.1)).Nodup:=by
    rw[fv]
    refine List.pairwise_map.mpr (List.Pairwise.imp_of_mem (fun {a b} ha hb hab=>?_) nd1)
    obtain⟨_,l1⟩:=live _ ha
    obtain⟨_,l2⟩:=live _ hb
    exact fun z=>hab (R.inj _ _ _ _ l1 l2 z)
  obtain⟨h',a1,a2,a3,a4,a5,a6,a7,a8⟩:=tri pnd (fun x hx'=>by
      obtain⟨y,hy,rfl⟩:=List.mem_map.mp hx'
      exact(R.at_ _ _ (c4 y hy)).1) (R.size▸R.big) Γ p h gs d os hΓ hL R.size R.still (fun x hx'=>by
      obtain⟨y,hy,rfl⟩:=List.mem_map.mp hx'
      exact(R.at_ _ _ (c4 y hy)).2) (fun x hx'=>⟨(R.ghost x hx').1,fun z=>by
      rw[fv]at z
      obtain⟨i,hi,e⟩:=List.mem_map.mp z
      obtain⟨_,hi'⟩:=live i hi
      exact(R.ghost x hx').2 _ _ hi' e⟩)
  rw[fv]at a5 a7
  have a6':∀x∈k.post,(g.rho x.1∈(k.pre.map (·.1)).map g.rho∨g.rho k.c≤g.rho x.1)∧h'.get? (g.rho x.1)=some x.2:=fun x hx'=>by
    have:=a6 (g.rho x.1,x.2) (List.mem_map.mpr ⟨x,hx',rfl⟩)
    rwa [fv]at this
  have key:=putL_get k.post T nd2
  have kept:∀j o,T.getK (j+1)=some o→j∉k.post.map (·.1)→g.rho j∉(k.pre.map (·.1)).map g.rho:=fun j o hj hn z=>by
    obtain⟨i,hi,e⟩:=List.mem_map.mp z
    obtain⟨_,hi'⟩:=live i hi
    exact hn (R.inj _ _ _ _ hi' hj e▸sub i hi)
  refine⟨h',a1,⟨a2,a2▸Nat.le_trans (R.size▸R.big) a3,fun a o ha=>?_,R.under,fun j o hj=>?_,fun i j o o' hi hj hr=>?_,fun x hx=>?_⟩,fun b hb hn=>⟨fun j o hj=>?_,fun o hb'=>?_⟩,a4,by rw[R.size,a2];exact a3⟩
  · refine a7 a (R.size▸Heap.lt_size (R.still a o ha)) (fun z=>?_) o (R.still a o ha)
    obtain⟨i,hi,e⟩:=List.mem_map.mp z
    obtain⟨_,hi'⟩:=live i hi
    have h1:=R.under a o ha
    have h2:=(R.at_ _ _ hi').1
    omega
  · rcases key j o hj with z|⟨z,y⟩
    · obtain⟨q,w⟩:=a6' _ z
      refine⟨q.elim (fun q=>?_) (fun q=>Nat.le_trans (R.size▸R.big) q),w⟩
      obtain⟨i,hi,e⟩:=List.mem_map.mp q
      obtain⟨_,hi'⟩:=live i hi
      show g.B≤g.rho j
      rw[←e];exact(R.at_ _ _ hi').1
    · obtain⟨x1,x2⟩:=R.at_ j o y
      exact⟨x1,a7 _ (R.size▸Heap.lt_size x2) (kept j o y z) o x2⟩
  · have lt:∀j o,T.getK (j+1)=some o→g.rho j<g.rho k.c:=fun j o hj=>R.size▸Heap.lt_size (R.at_ _ _ hj).2
    have mix:∀i j o o',(i,o)∈k.post→j∉k.post.map (·.1)→T.getK (j+1)=some o'→g.rho i≠g.rho j:=fun i j o o' hi hn hj e=>by
      rcases(a6' _ hi).1 with q|q
      · exact kept j o' hj hn (e▸q)
      · have:=lt j o' hj;have q':g.rho k.c≤g.rho i:=q;omega
    rcases key i o hi with z|⟨z,y⟩<;>rcases key j o' hj with z'|⟨z',y'⟩
    · have hi':i∈k.post.map (·.1):=List.mem_map.mpr ⟨_,z,rfl⟩
      have hj':j∈k.post.map (·.1):=List.mem_map.mpr ⟨_,z',rfl⟩
      exact mA a5 hi' hj' hr
    · exact absurd hr (mix i j o o' z z' y')
    · exact absurd hr.symm (mix j i o' o z' z y)
    · exact R.inj _ _ _ _ y y' hr
  · obtain⟨x1,x2,x3⟩:=a8 x hx
    rw[fv]at x2
    refine⟨x1,fun j o hj e=>?_⟩
    rcases key j o hj with z|⟨z,y⟩
    · exact x2 (List.mem_map.mpr ⟨j,List.mem_map.mpr ⟨_,z,rfl⟩,e⟩)
    · rcases x3 with q|q
      · obtain⟨x',hx',e'⟩:=List.mem_map.mp q
        exact(R.ghost x' hx').2 _ _ y (e.trans e'.symm)
      · have h1:=Heap.lt_size (R.at_ _ _ y).2
        rw[R.size,e]at h1
        exact Nat.lt_irrefl _ (Nat.lt_of_lt_of_le h1 q)
  · rcases key j o hj with z|⟨z,y⟩
    · rcases(a6' _ z).1 with q|q
      · obtain⟨i,hi,e⟩:=List.mem_map.mp q
        obtain⟨_,hi'⟩:=live i hi
        have e':g.rho i=g.rho j:=e
        exact e'▸hn _ _ hi'
      · have q':g.rho k.c≤g.rho j:=q
        have:=R.size;omega
    · exact hn _ _ y
  · refine a7 b (R.size▸hb) (fun z=>?_) o hb'
    obtain⟨i,hi,e⟩:=List.mem_map.mp z
    obtain⟨_,hi'⟩:=live i hi
    exact hn _ _ hi' e
theorem Iz{M:Model}{g:Cfg}{L:Nat}{l:List Call}(H:∀k∈l,eu M g (fun Γ=>LimU Γ L) k):lC M g L (oO l):=by
  intro i Γ cd p T c tk A Hn f hΓ hL e
  obtain⟨k,hk,e⟩:=l8 e
  exact Call.go_ok (H k hk) hΓ hL e
theorem qm{b:Bool}{q:Q}{f:Leaf}(e:(@Bool.rec (fun _=>Q) .no q b).leaf=some f):b=true∧q.leaf=some f:=by
  cases b with
  |false=>cases e
  |true=>exact⟨rfl,e⟩
theorem BZ(l:List Call):jg (yR l):=fun i g Γ cd T c tk A H f e=>by
  obtain⟨_,e⟩:=qm e
  cases i with
  |succ i=>exact mT l i g Γ cd T c tk A H f e
  |zero=>
    have e':(s8 g cd T c tk A H).leaf=some f:=e
    rcases dictO_inv e' with ⟨id,d,k,t,rest,j,H',o,l,n,rfl,ho,hd,hk,hB,e6⟩|⟨d,k,t,j,H',o,l,n,rfl,ho,hc,hd,hi,e6⟩|⟨d,k,t,j,H',o,l,n,rfl,ho,hc,hd,hi,e6⟩
    · exact⟨[.eq d (g.rho j),.eq (g.tok (tk+1)) (Nat.succ (g.tok tk))],mq e6⟩
    · obtain⟨b,H'',xs,e',hb⟩:=gc e6
      cases e'
      exact⟨xs++[.eq d (g.rho j)],by simp⟩
    · obtain⟨b,H'',xs,e',hb⟩:=gc e6
      cases e'
      exact⟨xs++[.eq d (g.rho j)],by simp⟩
theorem I6{p:Program}{w:World}{g:Cfg}{L:Nat}{l:List Call}(H:∀k∈l,br (model p w) g L k):lC (model p w) g L (yR l):=by
  intro i Γ cd P T c tk A Hn f hΓ hL e
  obtain⟨hc,e⟩:=qm e
  have hc:=mu hc
  cases i with
  |succ i=>
    obtain⟨k,hk,e⟩:=l8 e
    exact Call.go_ok (H k hk) hΓ ⟨hc,hL⟩ e
  |zero=>exact E3 hc.1 e
theorem A7{bl:List (List (Code×Pos))}{lb:List Call}{j:Nat}{g:Cfg}{Γ:Ctx}{cd:Code}{T:HT}{c tk:Nat}{A:List Claim}{H:Hn}{f:Leaf}(e:(Ft bl lb j g Γ cd T c tk A H).leaf=some f):
    ∃x∈lb.zip bl,(x.1.go cd T c tk (.bel Γ.below x.2::A) H).leaf=some f:=by
  induction lb generalizing bl j with
  |nil=>cases e
  |cons k lb ih=>
    cases bl with
    |nil=>cases e
    |cons b bs=>
      cases j with
      |zero=>exact⟨(k,b),List.mem_cons_self,e⟩
      |succ j=>
        obtain⟨x,hx,e'⟩:=ih (bl:=bs) (j:=j) e
        exact⟨x,List.mem_cons_of_mem _ hx,e'⟩
theorem orcB_inv{l:List Call}{bl:List (List (Code×Pos))}{lb:List Call}{i:Nat}{g:Cfg}{Γ:Ctx}{cd:Code}{T:HT}{c tk:Nat}{A:List Claim}{H:Hn}{f:Leaf}(e:(An l bl lb i g Γ cd T c tk A H).leaf=some f):
    (yR l i g Γ cd T c tk A H).leaf=some f∨(mw Γ=true∧∃x∈lb.zip bl,(x.1.go cd T c tk (.bel Γ.below x.2::A) H).leaf=some f):=by
  unfold An at e
  cases hb:Nat.ble 500 i with
  |false=>rw[hb]at e;exact .inl e
  |true=>
    rw[hb]at e
    obtain⟨hc,e⟩:=qm e
    exact .inr ⟨hc,A7 e⟩
theorem orcU_inv{l:List Call}{bl:List (List (Code×Pos))}{lb lu:List Call}{i:Nat}{g:Cfg}{Γ:Ctx}{cd:Code}{T:HT}{c tk:Nat}{A:List Claim}{H:Hn}{f:Leaf}(e:(lI l bl lb lu i g Γ cd T c tk A H).leaf=some f):
    (An l bl lb i g Γ cd T c tk A H).leaf=some f∨(oO lu (i-900) g Γ cd T c tk A H).leaf=some f:=by
  unfold lI at e
  cases hb:Nat.ble 900 i with
  |false=>rw[hb]at e;exact .inl e
  |true=>rw[hb]at e;exact .inr e
theorem rr(l:List Call)(bl:List (List (Code×Pos)))(lb lu:List Call):jg (lI l bl lb lu):=fun i g Γ cd T c tk A H f e=>by
  rcases orcU_inv e with e|e
  · rcases orcB_inv e with e|⟨_,x,_,e⟩
    · exact BZ l i g Γ cd T c tk A H f e
    · obtain⟨xs,hx⟩:=Call.go_mono e
      exact⟨xs++[.bel Γ.below x.2],by rw[hx];simp⟩
  · exact mT lu _ g Γ cd T c tk A H f e
theorem wW{p:Program}{w:World}{g:Cfg}{L:Nat}{l:List Call}{bl:List (List (Code×Pos))}{lb lu:List Call}(H:∀k∈l,br (model p w) g L k)
    (HB:∀x∈lb.zip bl,eu (model p w) g (fun Γ=>Lim Γ L∧Γ.below=x.2) x.1) (HU:∀k∈lu,eu (model p w) g (fun Γ=>LimU Γ L) k):lC (model p w) g L (lI l bl lb lu):=by
  intro i Γ cd P T c tk A Hn f hΓ hL e
  rcases orcU_inv e with e|e
  · rcases orcB_inv e with e|⟨hc,x,hx,e⟩
    · exact I6 H i Γ cd P T c tk A Hn f hΓ hL e
    · obtain⟨xs,hxs⟩:=Call.go_mono e
      refine⟨⟨xs++[.bel Γ.below x.2],by rw[hxs];simp⟩,fun Sx=>?_⟩
      have hb:Γ.below=x.2:=Sx (.bel Γ.below x.2) (by rw[hxs];simp)
      exact(Call.go_ok (HB x hx) hΓ ⟨⟨mu hc,hL⟩,hb⟩ e).2 Sx
  · exact Iz HU _ Γ cd P T c tk A Hn f hΓ hL e
def mQ(l:List Call):j0:=fun i g Γ cd T c tk A H=>@Bool.rec (fun _=>Q) .no (oO l i g Γ cd T c tk A H) (mw Γ)
theorem mF(l:List Call):jg (mQ l):=fun i g Γ cd T c tk A H f e=>mT l i g Γ cd T c tk A H f (qm e).2
theorem xr{M:Model}{g:Cfg}{L:Nat}{l:List Call}(H:∀k∈l,br M g L k):lC M g L (mQ l):=by
  intro i Γ cd P T c tk A Hn f hΓ hL e
  obtain⟨hc,e⟩:=qm e
  obtain⟨k,hk,e⟩:=l8 e
  exact Call.go_ok (H k hk) hΓ ⟨mu hc,hL⟩ e
def fN(q:Q)(post:List (Nat×Obj))(s:Setting):Bool×Result×Nat×Nat×List (Option Obj)×List (Bool×Bool)×List Claim×List (Sem PySem.Fin):=
  (q.isOk,q.val,q.cnt,q.tks,post.map (fun x=>q.tree.getK (.add x.1 1)),condsOf q.claims,q.claims,iU s q.claims)
def fS(q:Q)(r:Result)(c' tk':Nat)(post:List (Nat×Obj))(cs:List (Bool×Bool))(s:Setting):Bool×Result×Nat×Nat×List (Option Obj)×List (Bool×Bool)×List Claim×List (Sem PySem.Fin):=
  (true,r,c',tk',post.map (fun x=>some x.2),cs,q.claims.map Claim.twice,iU s q.claims)
theorem TriC.of_se{W:Code→WT}(hW:∀p w,ub (model p w) W){C:Ctx→Prop}{O:j0}(hO:jg O){p:Program}{w:World}{S:HT}{B:Nat}{G:Nat→List (Addr×Obj)}{st st₂:Setting}(hst:(⟨p,w.params⟩:Setting)=st∨(⟨p,w.params⟩:Setting)=st₂)(hS:S.Under B){rho tok:Nat→Nat}{L N:Nat}{cd:Code}{pre:List (Nat×Obj)}{c tk:Nat}{H:Hn}
    {r:Result} {c' tk':Nat} {post:List (Nat×Obj)} {cs:List (Bool×Bool)}
    (hOk:lC (model p w) ⟨S,B,rho,tok,G,st⟩ L O) (hpre:(pre.map (·.1)).Nodup) (hpost:(post.map (·.1)).Nodup)
    (hC:∀Γ,C Γ→Lim Γ (N+L)) (hq:∀bl P,C ⟨cd,none,none,bl,none⟩→fN (se W O ⟨S,B,rho,tok,G,st⟩ N ⟨cd,none,none,bl,none⟩ cd P (putL pre .nil) c tk [] H) post st₂
     =fS (se W O ⟨S,B,rho,tok,G,st⟩ N ⟨cd,none,none,bl,none⟩ cd P (putL pre .nil) c tk [] H) r c' tk' post cs st)
    (hcs:∀x∈cs,x.1=x.2) (hgrow:∀x∈G c',x.1∈(G c).map (·.1)∨rho c≤x.1):TriC (model p w) S B C cd (G c) (fI rho pre) (rho c) (tok tk) r (G c') (fI rho post) (rho c') (tok tk'):=by
  intro nd lo big Γ P h gs d os hΓ hCΓ hn hs hp hgh
  have hL:=hC Γ hCΓ
  have snd:=oN (model p w) ⟨S,B,rho,tok,G,st⟩ W (hW p w) O (hO) L hOk N Γ cd P (putL pre .nil) c tk [] H
  have hG:Γ=⟨cd,none,none,Γ.below,none⟩:=by
    obtain⟨⟨h1,h2,h3⟩,_⟩:=hL
    obtain⟨a1,a2,a3,a4,a5⟩:=Γ
    simp only at hΓ h1 h2 h3
    rw[hΓ,h1,h2,h3]
  have e:=hq Γ.below P (hG▸hCΓ)
  rw[←hG]at e
  revert e snd
  generalize se W O ⟨S,B,rho,tok,G,st⟩ N Γ cd P (putL pre .nil) c tk [] H=q
  intro snd e
  cases q with
  |fork|no=>simp[fN,fS,Q.isOk]at e
  |ok r₁ T' c₁ tk₁ A₁ H₁=>
    simp only[fN,fS,Q.isOk,Q.val,Q.cnt,Q.tks,Q.tree,Q.claims,Prod.mk.injEq,true_and]at e
    obtain⟨rfl,rfl,rfl,e1,e2,e3,e4⟩:=e
    rw[fv]at nd
    have get0:∀k o,(putL pre .nil).getK (k+1)=some o→(k,o)∈pre:=fun k o hk=>by
      rcases putL_get pre .nil hpre k o hk with z|⟨_,z⟩
      · exact z
      · cases z
    have R:Rep ⟨S,B,rho,tok,G,st⟩ h (putL pre .nil) c:=by
      refine⟨hn,hn▸big,hs,hS,fun k o hk=>?_,fun i j o o' hi hj hr=>?_,fun x hx=>⟨(hgh x hx).1,fun k o hk e=>(hgh x hx).2 (by rw[fv];exact List.mem_map.mpr ⟨k,List.mem_map.mpr ⟨_,get0 k o hk,rfl⟩,e⟩)⟩⟩
      · have:=get0 k o hk
        exact⟨lo (rho k,o) (List.mem_map.mpr ⟨_,this,rfl⟩),hp (rho k,o) (List.mem_map.mpr ⟨_,this,rfl⟩)⟩
      · exact mA nd (List.mem_map.mpr ⟨_,get0 i o hi,rfl⟩) (List.mem_map.mpr ⟨_,get0 j o' hj,rfl⟩) hr
    obtain⟨_,K⟩:=snd _ hΓ hL.u rfl
    obtain⟨h',a1,R',a3,a4,a5⟩:=K (vD e3 (by intro x hx;exact hcs x (e2▸hx)) e4 hst) h gs d os R
    have tget:∀x∈post,T'.getK (x.1+1)=some x.2:=fun x hx=>by
      have:=List.map_inj_left.mp e1 x hx
      exact this
    have free:∀b,b∉(fI rho pre).map (·.1)→zT ⟨S,B,rho,tok,G,st⟩ (putL pre .nil) b:=fun b hb k o hk e=>by
      have:=get0 k o hk
      exact hb (by rw[fv];exact e▸List.mem_map.mpr ⟨k,List.mem_map.mpr ⟨_,this,rfl⟩,rfl⟩)
    refine⟨h',a1,R'.size,by have q:h'.objs.size=rho c₁:=R'.size;rw[←q,←hn];exact a5,a4,?_,fun x hx=>?_,fun b hb hn' o ho=>(a3 b (hn.symm▸hb) (free b hn')).2 o ho,fun x hx=>?_⟩
    · rw[fv]
      refine List.pairwise_map.mpr (List.Pairwise.imp_of_mem (fun {a b} ha hb hab=>?_) hpost)
      obtain⟨x,hx,rfl⟩:=List.mem_map.mp ha
      obtain⟨y,hy,rfl⟩:=List.mem_map.mp hb
      exact fun z=>hab (R'.inj _ _ _ _ (tget x hx) (tget y hy) z)
    · obtain⟨y,hy,rfl⟩:=List.mem_map.mp hx
      have ty:=tget y hy
      refine⟨?_,(R'.at_ _ _ ty).2⟩
      by_cases q:rho y.1∈(fI rho pre).map (·.1)
      · exact .inl q
      · right
        refine Nat.le_of_not_lt fun z=>?_
        exact(a3 (rho y.1) (hn.symm▸z) (free _ q)).1 _ _ ty rfl
    · obtain⟨x1,x2⟩:=R'.ghost x hx
      refine⟨x1,fun z=>?_,?_⟩
      · rw[fv]at z
        obtain⟨i,hi,e⟩:=List.mem_map.mp z
        obtain⟨y,hy,rfl⟩:=List.mem_map.mp hi
        exact x2 _ _ (tget y hy) e
      · exact hgrow x hx
theorem Tri.of_se{W:Code→WT}(hW:∀p w,ub (model p w) W){p:Program}{w:World}{S:HT}{B:Nat}{G:Nat→List (Addr×Obj)}{st st₂:Setting}(hst:(⟨p,w.params⟩:Setting)=st∨(⟨p,w.params⟩:Setting)=st₂)(hS:S.Under B){rho tok:Nat→Nat}{calls lu:List Call}{L N:Nat}{cd:Code}{pre:List (Nat×Obj)}{c tk:Nat}{H:Hn}
    {r:Result} {c' tk':Nat} {post:List (Nat×Obj)} {cs:List (Bool×Bool)}
    (hcalls:∀k∈calls,br (model p w) ⟨S,B,rho,tok,G,st⟩ L k) (hu:∀k∈lu,eu (model p w) ⟨S,B,rho,tok,G,st⟩ (fun Γ=>LimU Γ L) k) (hpre:(pre.map (·.1)).Nodup) (hpost:(post.map (·.1)).Nodup)
    (hq:∀bl P,fN (se W (lI calls [] [] lu) ⟨S,B,rho,tok,G,st⟩ N ⟨cd,none,none,bl,none⟩ cd P (putL pre .nil) c tk [] H) post st₂
     =fS (se W (lI calls [] [] lu) ⟨S,B,rho,tok,G,st⟩ N ⟨cd,none,none,bl,none⟩ cd P (putL pre .nil) c tk [] H) r c' tk' post cs st)
    (hcs:∀x∈cs,x.1=x.2) (hgrow:∀x∈G c',x.1∈(G c).map (·.1)∨rho c≤x.1):Tri (model p w) S B (N+L) cd (G c) (fI rho pre) (rho c) (tok tk) r (G c') (fI rho post) (rho c') (tok tk'):=
  TriC.of_se hW (rr calls [] [] lu) hst hS (wW hcalls (fun x hx=>nomatch hx) hu) hpre hpost (fun _ h=>h) (fun bl P _=>hq bl P) hcs hgrow
theorem TriAt.of_se{W:Code→WT}(hW:∀p w,ub (model p w) W){p:Program}{w:World}{S:HT}{B:Nat}{G:Nat→List (Addr×Obj)}{st st₂:Setting}(hst:(⟨p,w.params⟩:Setting)=st∨(⟨p,w.params⟩:Setting)=st₂)(hS:S.Under B){rho tok:Nat→Nat}{calls:List Call}{bls:List (List (Code×Pos))}{callsB lu:List Call}{L N:Nat}{cd:Code}{bl:List (Code×Pos)}{pre:List (Nat×Obj)}{c tk:Nat}{H:Hn}
    {r:Result} {c' tk':Nat} {post:List (Nat×Obj)} {cs:List (Bool×Bool)}
    (hcalls:∀k∈calls,br (model p w) ⟨S,B,rho,tok,G,st⟩ L k) (hB:∀x∈callsB.zip bls,eu (model p w) ⟨S,B,rho,tok,G,st⟩ (fun Γ=>Lim Γ L∧Γ.below=x.2) x.1) (hu:∀k∈lu,eu (model p w) ⟨S,B,rho,tok,G,st⟩ (fun Γ=>LimU Γ L) k) (hpre:(pre.map (·.1)).Nodup) (hpost:(post.map (·.1)).Nodup)
    (hq:∀P,fN (se W (lI calls bls callsB lu) ⟨S,B,rho,tok,G,st⟩ N ⟨cd,none,none,bl,none⟩ cd P (putL pre .nil) c tk [] H) post st₂
     =fS (se W (lI calls bls callsB lu) ⟨S,B,rho,tok,G,st⟩ N ⟨cd,none,none,bl,none⟩ cd P (putL pre .nil) c tk [] H) r c' tk' post cs st)
    (hcs:∀x∈cs,x.1=x.2) (hgrow:∀x∈G c',x.1∈(G c).map (·.1)∨rho c≤x.1):TriAt (model p w) S B (N+L) bl cd (G c) (fI rho pre) (rho c) (tok tk) r (G c') (fI rho post) (rho c') (tok tk'):=
  TriC.of_se hW (rr calls bls callsB lu) hst hS (wW hcalls hB hu) hpre hpost (fun _ h=>h.1) (fun bl' P h=>by
    have h2:bl'=bl:=h.2
    subst h2;exact hq P) hcs hgrow
theorem cA{g:List (Addr×Obj)}{n:Nat}:∀x∈g,x.1∈g.map (·.1)∨n≤x.1:=fun x hx=>.inl (List.mem_map.mpr ⟨x,hx,rfl⟩)
def bY{α:Type}(m:Sem α)(f:α→Sem PySem.Fin)(r:Value→Sem PySem.Fin):Sem PySem.Fin:=
 Sem.rec (motive:=fun _=>Sem PySem.Fin) (pure:=f) (raise:=r) (unsupported:=fun w=>.unsupported w) (finish:=fun _=>.unsupported "")
  (rule:=fun t _ k=>.rule t k) («at»:=fun q _ k=>.at q k) (load:=fun a p _ k=>.load a p k) (update:=fun a p g _ k=>.update a p g k) (alloc:=fun o _ k=>.alloc o k)
  (loadIfAlive:=fun a _ k=>.loadIfAlive a k) (point:=fun l _ k=>.point l k) (register:=fun _ _ _=>.unsupported "") (fresh:=fun _ k=>.fresh k) (ask:=fun _ k=>.ask k)
  (choose:=fun _ _ _ _=>.unsupported "") (os:=fun _ _ _ _=>.unsupported "") (call:=fun c h g l _ k=>.call c h g l k) (handled:=fun o _ k=>.handled o k) (newGen:=fun _ _ _=>.unsupported "")
  (genState:=fun _ _ _=>.unsupported "") (resume:=fun _ _ _ _ _=>.unsupported "") (yield:=fun _ _ _ _ _=>.unsupported "") (stack:=fun _ k=>.stack k) (fork:=fun _ _ _=>.unsupported "")
  (thread:=fun _ k=>.thread k) (await:=fun _ _ _ _ _ _=>.unsupported "") m
def aE{α:Type}:Sem α→(α→Sem PySem.Fin)→(Value→Sem PySem.Fin)→Sem PySem.Fin
 |.pure a,f,_=>f a
 |.raise e,_,r=>r e
 |.unsupported w,_,_=>.unsupported w
 |.finish e,_,_=>.finish e
 |.rule t k,f,r=>.rule t fun x=>aE (k x) f r
 |.at p k,f,r=>.at p fun x=>aE (k x) f r
 |.load a p k,f,r=>.load a p fun x=>aE (k x) f r
 |.update a p g k,f,r=>.update a p g fun x=>aE (k x) f r
 |.alloc o k,f,r=>.alloc o fun x=>aE (k x) f r
 |.register a k,f,r=>.register a fun x=>aE (k x) f r
 |.loadIfAlive a k,f,r=>.loadIfAlive a fun x=>aE (k x) f r
 |.point l k,f,r=>.point l fun x=>aE (k x) f r
 |.fresh k,f,r=>.fresh fun x=>aE (k x) f r
 |.ask k,f,r=>.ask fun x=>aE (k x) f r
 |.choose s n k,f,r=>.choose s n fun x=>aE (k x) f r
 |.os q l k,f,r=>.os q l fun x=>aE (k x) f r
 |.call c h g l k,f,r=>.call c h g l fun x=>aE (k x) f r
 |.handled o k,f,r=>.handled o fun x=>aE (k x) f r
 |.genState g k,f,r=>.genState g fun x=>aE (k x) f r
 |.newGen c k,f,r=>.newGen c fun x=>aE (k x) f r
 |.resume g q l k,f,r=>.resume g q l fun x=>aE (k x) f r
 |.yield v g l k,f,r=>.yield v g l fun x=>aE (k x) f r
 |.stack k,f,r=>.stack fun x=>aE (k x) f r
 |.fork c k,f,r=>.fork c fun x=>aE (k x) f r
 |.thread k,f,r=>.thread fun x=>aE (k x) f r
 |.await a t d l k,f,r=>.await a t d l fun x=>aE (k x) f r
theorem mj{α:Type}(h:Value→Sem Unit)(F:α→Sem PySem.Fin)(m:Sem α):(m.onRaise h).bind F=aE m F fun e=>((h e).bind fun _=>Sem.raise e).bind F:=by
 induction m with
 |pure|raise|unsupported|finish=>rfl
 |rule t k i=>exact congrArg (Sem.rule t) (funext i)
 |«at» p k i=>exact congrArg (Sem.at p) (funext i)
 |load a p k i=>exact congrArg (Sem.load a p) (funext i)
 |update a p g k i=>exact congrArg (Sem.update a p g) (funext i)
 |alloc o k i=>exact congrArg (Sem.alloc o) (funext i)
 |register a k i=>exact congrArg (Sem.register a) (funext i)
 |loadIfAlive a k i=>exact congrArg (Sem.loadIfAlive a) (funext i)
 |point l k i=>exact congrArg (Sem.point l) (funext i)
 |fresh k i=>exact congrArg (Sem.fresh) (funext i)
 |ask k i=>exact congrArg (Sem.ask) (funext i)
 |choose s n k i=>exact congrArg (Sem.choose s n) (funext i)
 |os q l k i=>exact congrArg (Sem.os q l) (funext i)
 |call c h g l k i=>exact congrArg (Sem.call c h g l) (funext i)
 |handled o k i=>exact congrArg (Sem.handled o) (funext i)
 |genState g k i=>exact congrArg (Sem.genState g) (funext i)
 |newGen c k i=>exact congrArg (Sem.newGen c) (funext i)
 |resume g q l k i=>exact congrArg (Sem.resume g q l) (funext i)
 |yield v g l k i=>exact congrArg (Sem.yield v g l) (funext i)
 |stack k i=>exact congrArg (Sem.stack) (funext i)
 |fork c k i=>exact congrArg (Sem.fork c) (funext i)
 |thread k i=>exact congrArg (Sem.thread) (funext i)
 |await a t d l k i=>exact congrArg (Sem.await a t d l) (funext i)
theorem aS{α β:Type}(m:Sem α)(k:α→Sem β)(f:β→Sem PySem.Fin)(r:Value→Sem PySem.Fin):aE (m.bind k) f r=aE m (fun a=>aE (k a) f r) r:=by
 induction m with
 |pure|raise|unsupported|finish=>rfl
 |rule t k i=>exact congrArg (Sem.rule t) (funext i)
 |«at» p k i=>exact congrArg (Sem.at p) (funext i)
 |load a p k i=>exact congrArg (Sem.load a p) (funext i)
 |update a p g k i=>exact congrArg (Sem.update a p g) (funext i)
 |alloc o k i=>exact congrArg (Sem.alloc o) (funext i)
 |register a k i=>exact congrArg (Sem.register a) (funext i)
 |loadIfAlive a k i=>exact congrArg (Sem.loadIfAlive a) (funext i)
 |point l k i=>exact congrArg (Sem.point l) (funext i)
 |fresh k i=>exact congrArg (Sem.fresh) (funext i)
 |ask k i=>exact congrArg (Sem.ask) (funext i)
 |choose s n k i=>exact congrArg (Sem.choose s n) (funext i)
 |os q l k i=>exact congrArg (Sem.os q l) (funext i)
 |call c h g l k i=>exact congrArg (Sem.call c h g l) (funext i)
 |handled o k i=>exact congrArg (Sem.handled o) (funext i)
 |genState g k i=>exact congrArg (Sem.genState g) (funext i)
 |newGen c k i=>exact congrArg (Sem.newGen c) (funext i)
 |resume g q l k i=>exact congrArg (Sem.resume g q l) (funext i)
 |yield v g l k i=>exact congrArg (Sem.yield v g l) (funext i)
 |stack k i=>exact congrArg (Sem.stack) (funext i)
 |fork c k i=>exact congrArg (Sem.fork c) (funext i)
 |thread k i=>exact congrArg (Sem.thread) (funext i)
 |await a t d l k i=>exact congrArg (Sem.await a t d l) (funext i)
theorem elimS_pure(m:Sem PySem.Fin):aE m .pure .raise=m:=by
 induction m with
 |pure|raise|unsupported|finish=>rfl
 |rule t k i=>exact congrArg (Sem.rule t) (funext i)
 |«at» p k i=>exact congrArg (Sem.at p) (funext i)
 |load a p k i=>exact congrArg (Sem.load a p) (funext i)
 |update a p g k i=>exact congrArg (Sem.update a p g) (funext i)
 |alloc o k i=>exact congrArg (Sem.alloc o) (funext i)
 |register a k i=>exact congrArg (Sem.register a) (funext i)
 |loadIfAlive a k i=>exact congrArg (Sem.loadIfAlive a) (funext i)
 |point l k i=>exact congrArg (Sem.point l) (funext i)
 |fresh k i=>exact congrArg (Sem.fresh) (funext i)
 |ask k i=>exact congrArg (Sem.ask) (funext i)
 |choose s n k i=>exact congrArg (Sem.choose s n) (funext i)
 |os q l k i=>exact congrArg (Sem.os q l) (funext i)
 |call c h g l k i=>exact congrArg (Sem.call c h g l) (funext i)
 |handled o k i=>exact congrArg (Sem.handled o) (funext i)
 |genState g k i=>exact congrArg (Sem.genState g) (funext i)
 |newGen c k i=>exact congrArg (Sem.newGen c) (funext i)
 |resume g q l k i=>exact congrArg (Sem.resume g q l) (funext i)
 |yield v g l k i=>exact congrArg (Sem.yield v g l) (funext i)
 |stack k i=>exact congrArg (Sem.stack) (funext i)
 |fork c k i=>exact congrArg (Sem.fork c) (funext i)
 |thread k i=>exact congrArg (Sem.thread) (funext i)
 |await a t d l k i=>exact congrArg (Sem.await a t d l) (funext i)
theorem bU{α:Type}(m:Sem α)(F f:α→Sem PySem.Fin)(R r:Value→Sem PySem.Fin)(H:∀a,Sim true (F a) (f a))(HR:∀e,Sim true (R e) (r e)):Sim true (aE m F R) (bY m f r):=by
 induction m with
 |pure a=>exact H a
 |raise e=>exact HR e
 |ask k kih=>exact .ask kih
 |unsupported|finish|register|choose|os|newGen|genState|resume|yield|fork|await=>exact .unsupported _
 |rule t k kih=>exact .rule _ _ (kih ())
 |«at» q k kih=>exact .at _ (kih ())
 |load a p k kih=>exact .load _ _ _ kih
 |update a p g k kih=>exact .update _ _ _ _ (kih ())
 |alloc o k kih=>exact .alloc _ kih
 |loadIfAlive a k kih=>exact .loadIfAlive _ kih
 |point l k kih=>exact .point _ _ (kih ())
 |fresh k kih=>exact .fresh kih
 |call c hd g l k kih=>exact .call _ _ _ _ _ _ kih
 |handled o k kih=>exact .handled _ kih
 |stack k kih=>exact .stack kih
 |thread k kih=>exact .thread (kih 0)
theorem ws{α:Type}(m:Sem α)(G:Except Value α→Sem PySem.Fin)(R:Value→Sem PySem.Fin)(f:α→Sem PySem.Fin)(r:Value→Sem PySem.Fin)(H:∀a,Sim true (G (.ok a)) (f a))(HR:∀e,Sim true (G (.error e)) (r e)):
  Sim true (aE m.attempt G R) (bY m f r):=by
 induction m with
 |pure a=>exact H a
 |raise e=>exact HR e
 |ask k kih=>exact .ask kih
 |unsupported|finish|register|choose|os|newGen|genState|resume|yield|fork|await=>exact .unsupported _
 |rule t k kih=>exact .rule _ _ (kih ())
 |«at» q k kih=>exact .at _ (kih ())
 |load a p k kih=>exact .load _ _ _ kih
 |update a p g k kih=>exact .update _ _ _ _ (kih ())
 |alloc o k kih=>exact .alloc _ kih
 |loadIfAlive a k kih=>exact .loadIfAlive _ kih
 |point l k kih=>exact .point _ _ (kih ())
 |fresh k kih=>exact .fresh kih
 |call c hd g l k kih=>exact .call _ _ _ _ _ _ kih
 |handled o k kih=>exact .handled _ kih
 |stack k kih=>exact .stack kih
 |thread k kih=>exact .thread (kih 0)
theorem Ec{α:Type}(vs:List Value)(m:Sem α)(F f:α→Sem PySem.Fin)(R r:Value→Sem PySem.Fin)(H:∀a,Sim true (F a) (f a))(HR:∀e,Sim true (R e) (r e)):Sim true (aE (m.keep vs) F R) (bY m f r):=by
 induction m with
 |pure a=>exact H a
 |raise e=>exact HR e
 |ask k kih=>exact .ask kih
 |unsupported|finish|register|choose|os|newGen|genState|resume|yield|fork|await=>exact .unsupported _
 |rule t k kih=>exact .rule _ _ (kih ())
 |«at» q k kih=>exact .at _ (kih ())
 |load a p k kih=>exact .load _ _ _ kih
 |update a p g k kih=>exact .update _ _ _ _ (kih ())
 |alloc o k kih=>exact .alloc _ kih
 |loadIfAlive a k kih=>exact .loadIfAlive _ kih
 |point l k kih=>exact .point _ _ (kih ())
 |fresh k kih=>exact .fresh kih
 |call c hd g l k kih=>exact .call _ _ _ _ _ _ kih
 |handled o k kih=>exact .handled _ kih
 |stack k kih=>exact .stack kih
 |thread k kih=>exact .thread (kih 0)
theorem jP{α:Type}(vs:List Value)(m:Sem α)(F f:α→Sem PySem.Fin)(R r:Value→Sem PySem.Fin)(H:∀a,Sim true (F a) (f a))(HR:∀e,Sim true (R e) (r e)):Sim true (aE (holding vs m) F R) (bY m f r):=by
 unfold holding
 split
 ·exact bU m F f R r H HR
 ·exact Ec _ m F f R r H HR
def gA(f:Addr)(hadNext:Bool)(acts:List (Code×Pos)):List Value:=
 match acts.find? fun (c,_)=>c.env?.bind (·.frame)==some f with
 |some (_,pos)=>if pos.line==0 then [] else [rawInt pos.line,rawInt pos.endLine,rawInt pos.col,rawInt pos.endCol]++EntryCells.cells f hadNext acts
 |none=>[]
theorem Dh(f:Addr)(hadNext:Bool):entryPlaceOf f hadNext=Sem.stack fun acts=>.pure (gA f hadNext acts):=by
 unfold entryPlaceOf
 show Sem.stack _=Sem.stack _
 congr 1;funext acts
 unfold gA
 show (match acts.find? fun (c,_)=>c.env?.bind (·.frame)==some f with|some (_,pos)=>_|none=>_)=_
 cases acts.find? fun (c,_)=>c.env?.bind (·.frame)==some f<;>rfl
def nz(f:Addr)(had:Bool)(acts:List (Code×Pos))(i:Nat):Value:=(if (gA f had acts).isEmpty then List.replicate 6 Value.none else gA f had acts).getD i .none
theorem six_of{l:List Value}(h:l.length=6):l=[l.getD 0 .none,l.getD 1 .none,l.getD 2 .none,l.getD 3 .none,l.getD 4 .none,l.getD 5 .none]:=by
 match l,h with
 |[_,_,_,_,_,_],_=>rfl
theorem C6(f:Addr)(had:Bool)(acts:List (Code×Pos)):(if (gA f had acts).isEmpty then List.replicate 6 Value.none else gA f had acts).length=6:=by
 cases hp:(gA f had acts).isEmpty with
 |true=>rfl
 |false=>
  rw[if_neg Bool.false_ne_true]
  revert hp
  unfold gA
  split
  ·split
   ·intro h;cases h
   ·intro _
    unfold EntryCells.cells
    split<;>rfl
  ·intro h;cases h
def vd(head fr:Value)(f:Addr)(had:Bool)(acts:List (Code×Pos)):Sem Value:=
 newFields "traceback" [head,fr,.none,rawInt f,.none,nz f had acts 0,nz f had acts 1,nz f had acts 2,nz f had acts 3,nz f had acts 4,nz f had acts 5]
theorem Iq(head fr:Value)(f:Addr)(had:Bool)(acts:List (Code×Pos)):EntryCells.newEntry head fr .none (rawInt f) .none (gA f had acts)=vd head fr f had acts:=by
 have:=six_of (C6 f had acts)
 unfold EntryCells.newEntry vd
 congr 1
 show [head,fr,.none,rawInt f,.none]++_=[head,fr,.none,rawInt f,.none]++_
 congr 1
def oR(L:List (Code×Pos)):List Env:=(L.filter (·.1.isFrame)).filterMap (·.1.env?)
def l7(f:Addr)(k:Value→Sem PySem.Fin)(r:Value→Sem PySem.Fin):Sem PySem.Fin:=
 .stack fun L=>match oR L with
  |[]=>.unsupported ""
  |E::rest=>match E.frame with
   |Option.none=>.unsupported ""
   |some f0=>.await f0 (fun _=>Option.none) false [.int (.ofNat f) 0] fun _=>bY (Fast.tw9112722382718976056 (E::rest)) (fun _=>k (.ref f)) r
theorem wq(env:Env)(f:Addr)(hf:env.frame=some f)(K k:Value→Sem PySem.Fin)(R r:Value→Sem PySem.Fin)(hR:∀e,Sim true (R e) (r e))(H:Sim true (K (.ref f)) (k (.ref f))):
  Sim true (aE (frameOf env) K R) (l7 f k r):=by
 refine .stack fun L=>?_
 show Sim true (aE (Sem.bind (frameObject ((oR L).dropWhile (·.frame != env.frame))) _) K R) _
 cases hL:oR L with
 |nil=>exact .unsupported _
 |cons E rest=>
  show Sim true _ (match E.frame with|Option.none=>_|some f0=>_)
  cases hE:E.frame with
  |none=>exact .unsupported _
  |some f0=>
   refine .claim _ _ _ _ _ _ fun e=>?_
   subst e
   rw[List.dropWhile_cons,if_neg (by rw[hE,hf];simp)]
   rw[aS]
   show Sim true (aE (Sem.bind (readyFrames (E::rest)) fun _=>Sem.pure (E.frame.map Value.ref)) _ R) _
   rw[aS,←Fast.te9112722382718976056]
   refine bU _ _ _ _ _ (fun _=>?_) hR
   show Sim true (aE (match E.frame.map Value.ref with|some f=>Sem.pure f|Option.none=>_) K R) _
   rw[hE]
   exact H
def qp(e:Value)(env:Env)(k:Sem PySem.Fin)(r:Value→Sem PySem.Fin):Sem PySem.Fin:=
 match env.frame with
 |Option.none=>.unsupported ""
 |some f=>
  let rest (head:Value) (had:Bool):Sem PySem.Fin:=l7 f (fun fr=>.stack fun acts=>bY (vd head fr f had acts) (fun en=>bY (setField e 1 en) (fun _=>k) r) r) r
  bY (field e 1) (fun head=>match head with
   |.none=>rest .none false
   |.ref a=>bY (field (.ref a) 3) (fun v=>match v with
    |.int (.ofNat x) 0=>.await x (fun _=>Option.none) false [.int (.ofNat f) 0] fun _=>k
    |.none=>bY (setField (.ref a) 3 .none) (fun _=>rest (.ref a) true) r
    |_=>.unsupported "") r
   |_=>.unsupported "") r
theorem oU(e:Value)(env:Env)(K:Unit→Sem PySem.Fin)(R:Value→Sem PySem.Fin)(k:Sem PySem.Fin)(r:Value→Sem PySem.Fin)(hR:∀e,Sim true (R e) (r e))(H:Sim true (K ()) k):Sim true (aE (noteFrame e env) K R) (qp e env k r):=by
 unfold noteFrame qp
 cases hf:env.frame with
 |none=>exact .unsupported _
 |some f=>
  have rest:∀head had,Sim true (aE (Sem.bind (frameOf env) fun fr=>Sem.bind (entryPlaceOf f had) fun pl=>Sem.bind (EntryCells.newEntry head fr .none (rawInt f) .none pl) fun en=>setField e 1 en) K R)
    (l7 f (fun fr=>.stack fun acts=>bY (vd head fr f had acts) (fun en=>bY (setField e 1 en) (fun _=>k) r) r) r):=fun head had=>by
   rw[aS]
   refine wq env f hf _ _ R r hR ?_
   show Sim true (aE (Sem.bind (entryPlaceOf f had) _) K R) _
   rw[Dh]
   refine .stack fun acts=>?_
   show Sim true (aE (Sem.bind (EntryCells.newEntry head (.ref f) .none (rawInt f) .none (gA f had acts)) fun en=>setField e 1 en) K R) _
   rw[aS,Iq]
   refine bU _ _ _ _ _ (fun en=>?_) hR
   exact bU _ _ _ _ _ (fun _=>H) hR
  show Sim true (aE (Sem.bind (field e 1) _) K R) _
  rw[aS]
  refine bU _ _ _ _ _ (fun head=>?_) hR
  cases head with
  |none=>exact rest .none false
  |ref a=>
   show Sim true (aE (if (Value.ref a != Value.none)=true then Sem.bind (field (.ref a) 3) _ else _) K R) _
   rw[if_pos (show (Value.ref a != Value.none)=true from rfl),aS]
   refine bU _ _ _ _ _ (fun v=>?_) hR
   have go:(v==rawInt (f:Int))=false→Sim true (aE (if (v==rawInt (f:Int))=true then Sem.pure () else Sem.bind (setField (.ref a) 3 .none) fun _=>Sem.bind (frameOf env) fun fr=>Sem.bind (entryPlaceOf f (Value.ref a != Value.none)) fun pl=>Sem.bind (EntryCells.newEntry (.ref a) fr .none (rawInt f) .none pl) fun en=>setField e 1 en) K R)
     (bY (setField (.ref a) 3 .none) (fun _=>l7 f (fun fr=>.stack fun acts=>bY (vd (.ref a) fr f true acts) (fun en=>bY (setField e 1 en) (fun _=>k) r) r) r) r):=fun hv=>by
    rw[if_neg (by rw[hv];exact Bool.false_ne_true),aS]
    exact bU _ _ _ _ _ (fun _=>rest (.ref a) true) hR
   cases v with
   |none=>exact go rfl
   |int x u=>
    cases x with
    |negSucc=>exact .unsupported _
    |ofNat x=>
     cases u with
     |succ=>exact .unsupported _
     |zero=>
      refine .claim _ _ _ _ _ _ fun ex=>?_
      show Sim true (aE (if (Value.int (Int.ofNat x) 0==rawInt (f:Int))=true then Sem.pure () else _) K R) _
      rw[if_pos (by rw[ex];simp[rawInt])]
      exact H
   |_=>exact .unsupported _
  |_=>exact .unsupported _
def jC(e:Value)(r:Value→Sem PySem.Fin):Sem PySem.Fin:=
 .handled false fun hd=>match e with
  |.ref a=>match hd with
   |some h=>.await 0 (fun _=>Option.none) false [.bool (h != e)] fun b=>@Bool.rec (fun _=>Sem PySem.Fin) (r e)
     (bY (runValue (.builtin "proto.unchain" ⟨[e,h,h,.bool false],[]⟩)) (fun _=>bY (updateField a 2 h) (fun _=>r e) r) r) b
   |Option.none=>r e
  |_=>r e
theorem y6{α:Type}(e:Value)(F:α→Sem PySem.Fin)(R r:Value→Sem PySem.Fin)(HR:∀e,Sim true (R e) (r e)):Sim true (aE (raiseNew (α:=α) e) F R) (jC e r):=by
 refine .handled _ fun hd=>?_
 cases e with
 |ref a=>
  cases hd with
  |none=>exact HR _
  |some h=>
   refine .cond _ _ _ _ _ fun b hb=>?_
   cases b with
   |false=>
    show Sim true (aE (if (h != Value.ref a)=true then _ else _) F R) _
    rw[if_neg (by rw[hb];exact Bool.false_ne_true)]
    exact HR _
   |true=>
    show Sim true (aE (if (h != Value.ref a)=true then Sem.bind (holding [.ref a] (runValue _)) _ else _) F R) _
    rw[if_pos hb]
    rw[aS]
    refine jP _ _ _ _ _ _ (fun _=>?_) HR
    show Sim true (aE (Sem.bind (updateField a 2 h) fun _=>Sem.raise (.ref a)) F R) _
    rw[aS]
    exact bU _ _ _ _ _ (fun _=>HR _) HR
 |_=>exact HR _
theorem Dj{α β:Type}(m:Sem α)(k:α→Sem β)(f:β→Sem PySem.Fin)(r:Value→Sem PySem.Fin):bY (m.bind k) f r=bY m (fun a=>bY (k a) f r) r:=by
 induction m with
 |pure a=>rfl
 |raise e=>rfl
 |ask k kih=>exact congrArg Sem.ask (funext kih)
 |unsupported|finish|register|choose|os|newGen|genState|resume|yield|fork|await=>rfl
 |rule t k kih=>exact congrArg (Sem.rule t) (funext kih)
 |«at» q k kih=>exact congrArg (Sem.at q) (funext kih)
 |load a p k kih=>exact congrArg (Sem.load a p) (funext kih)
 |update a p g k kih=>exact congrArg (Sem.update a p g) (funext kih)
 |alloc o k kih=>exact congrArg (Sem.alloc o) (funext kih)
 |loadIfAlive a k kih=>exact congrArg (Sem.loadIfAlive a) (funext kih)
 |point l k kih=>exact congrArg (Sem.point l) (funext kih)
 |fresh k kih=>exact congrArg Sem.fresh (funext kih)
 |call c hd g l k kih=>exact congrArg (Sem.call c hd g l) (funext kih)
 |handled o k kih=>exact congrArg (Sem.handled o) (funext kih)
 |stack k kih=>exact congrArg Sem.stack (funext kih)
 |thread k kih=>exact congrArg Sem.thread (funext kih)
def eH(xv cv:Value):Sem Flow:=Sem.bind (holding [cv] (excFromValue xv "exceptions must derive from BaseException")) fun e=>
 if (cv==Value.none)=true then Sem.bind (Sem.pure Value.none) fun c=>Sem.bind (setField e 3 c) fun _=>Sem.bind (setField e 4 (.bool true)) fun _=>Sem.bind (isType xv) fun b=>
   if b=true then Sem.bind (holding [e] (raisedFor xv e)) fun e=>Sem.bind (setFlight e none) fun _=>raiseNew e else Sem.bind (raisedInstance e) fun e=>Sem.bind (setFlight e none) fun _=>raiseNew e
  else Sem.bind (holding [e] (excFromValue cv "exception causes must derive from BaseException")) fun c=>Sem.bind (setField e 3 c) fun _=>Sem.bind (setField e 4 (.bool true)) fun _=>Sem.bind (isType xv) fun b=>
   if b=true then Sem.bind (holding [e] (raisedFor xv e)) fun e=>Sem.bind (setFlight e none) fun _=>raiseNew e else Sem.bind (raisedInstance e) fun e=>Sem.bind (setFlight e none) fun _=>raiseNew e
theorem C0(env:Env)(x c:Sem Value):raiseStmt env (some x) (some c)=x.bind fun xv=>(Sem.bind (holding [xv] c) fun v=>.pure (some v)).bind fun cv=>match cv with
  |some cv=>eH xv cv
  |Option.none=>eH xv .none:=by
 show Sem.bind x _=Sem.bind x _
 congr 1
 funext xv
 show Sem.bind (holding [xv] c) _=_
 rw[Sem.bind_assoc]
 rfl
def oh(xv cv:Value)(r:Value→Sem PySem.Fin):Sem PySem.Fin:=
  bY (Fast.tw13596814643533388497 xv "exceptions must derive from BaseException") (fun e=>
   bY (@Bool.rec (fun _=>Sem Value) (Fast.tw13596814643533388497 cv "exception causes must derive from BaseException") (Sem.pure Value.none) (cv==.none)) (fun c'=>
    bY (setField e 3 c') (fun _=>bY (setField e 4 (.bool true)) (fun _=>bY (isType xv) (fun b=>@Bool.rec (fun _=>Sem PySem.Fin) (bY (raisedInstance e) (fun e=>
     bY (Fast.tw5670386056902412789 e .none) (fun _=>jC e r) r) r) (bY (raisedFor xv e) (fun e=>
     bY (Fast.tw5670386056902412789 e .none) (fun _=>jC e r) r) r) b) r) r) r) r) r
theorem zu(xv cv:Value)(F:Flow→Sem PySem.Fin)(R r:Value→Sem PySem.Fin)(HR:∀e,Sim true (R e) (r e)):Sim true (aE (eH xv cv) F R) (oh xv cv r):=by
 unfold eH oh
 rw[aS,←Fast.te13596814643533388497,←Fast.te5670386056902412789]
 refine jP _ _ _ _ _ _ (fun e=>?_) HR
 have fl:∀e,Sim true (aE (Sem.bind (setFlight e none) fun _=>raiseNew (α:=Flow) e) F R) (bY (setFlight e none) (fun _=>jC e r) r):=fun e=>by
  rw[aS]
  exact bU _ _ _ _ _ (fun _=>y6 e F R r HR) HR
 have fin:∀c',Sim true (aE (Sem.bind (setField e 3 c') fun _=>Sem.bind (setField e 4 (.bool true)) fun _=>Sem.bind (isType xv) fun b=>
   if b=true then Sem.bind (holding [e] (raisedFor xv e)) fun e=>Sem.bind (setFlight e none) fun _=>raiseNew (α:=Flow) e else Sem.bind (raisedInstance e) fun e=>Sem.bind (setFlight e none) fun _=>raiseNew e) F R)
   (bY (setField e 3 c') (fun _=>bY (setField e 4 (.bool true)) (fun _=>bY (isType xv) (fun b=>@Bool.rec (fun _=>Sem PySem.Fin) (bY (raisedInstance e) (fun e=>
     bY (setFlight e none) (fun _=>jC e r) r) r) (bY (raisedFor xv e) (fun e=>
     bY (setFlight e none) (fun _=>jC e r) r) r) b) r) r) r):=fun c'=>by
  rw[aS]
  refine bU _ _ _ _ _ (fun _=>?_) HR
  rw[aS]
  refine bU _ _ _ _ _ (fun _=>?_) HR
  rw[aS]
  refine bU _ _ _ _ _ (fun b=>?_) HR
  cases b with
  |true=>
   show Sim true (aE (if true=true then Sem.bind (holding [e] (raisedFor xv e)) fun e=>Sem.bind (setFlight e none) fun _=>raiseNew (α:=Flow) e else _) F R) _
   rw[if_pos rfl,aS]
   exact jP _ _ _ _ _ _ fl HR
  |false=>
   show Sim true (aE (if false=true then _ else Sem.bind (raisedInstance e) fun e=>Sem.bind (setFlight e none) fun _=>raiseNew (α:=Flow) e) F R) _
   rw[if_neg Bool.false_ne_true,aS]
   exact bU _ _ _ _ _ fl HR
 cases hc:(cv==Value.none) with
 |true=>
  rw[if_pos rfl]
  exact fin _
 |false=>
  rw[if_neg Bool.false_ne_true,aS]
  exact jP _ _ _ _ _ _ fin HR
def Cm(x c:Expr)(pos:Pos)(env:Env)(r:Value→Sem PySem.Fin):Sem PySem.Fin:=
 .at pos fun _=>bY (Fast.tw14044960220447912780 x env) (fun xv=>.at pos fun _=>bY (Fast.tw14044960220447912780 c env) (fun cv=>.at pos fun _=>oh xv cv r) r) r
theorem Bn(x c:Expr)(pos:Pos)(env:Env)(F:Flow→Sem PySem.Fin)(R r:Value→Sem PySem.Fin)(HR:∀e,Sim true (R e) (r e)):Sim true (aE (exec (.Raise (some x) (some c) pos) env) F R) (Cm x c pos env r):=by
 refine .at _ ?_
 show Sim true (aE (raiseStmt env (some (Sem.bind (eval x env) fun v=>Sem.at pos fun _=>.pure v)) (some (Sem.bind (eval c env) fun v=>Sem.at pos fun _=>.pure v))) F R) _
 rw[C0,aS,aS,←Fast.te14044960220447912780]
 refine bU _ _ _ _ _ (fun xv=>.at _ ?_) HR
 show Sim true (aE (Sem.bind (Sem.bind (holding [xv] (Sem.bind (eval c env) fun v=>Sem.at pos fun _=>.pure v)) fun v=>.pure (some v)) fun cv=>match cv with
  |some cv=>eH xv cv
  |Option.none=>eH xv .none) F R) _
 rw[aS,aS]
 have:=jP [xv] (Sem.bind (eval c env) fun v=>Sem.at pos fun _=>.pure v) (fun v=>aE (Sem.pure (some v)) (fun cv=>aE (match cv with|some cv=>eH xv cv|Option.none=>eH xv .none) F R) R)
  (fun cv=>oh xv cv r) R r (fun cv=>zu xv cv F R r HR) HR
 rw[Dj]at this
 exact this
theorem jh{α:Type}(m:Sem α)(F:α→Sem PySem.Fin):m.bind F=aE m F .raise:=by
 induction m with
 |pure|raise|unsupported|finish=>rfl
 |rule t k i=>exact congrArg (Sem.rule t) (funext i)
 |«at» p k i=>exact congrArg (Sem.at p) (funext i)
 |load a p k i=>exact congrArg (Sem.load a p) (funext i)
 |update a p g k i=>exact congrArg (Sem.update a p g) (funext i)
 |alloc o k i=>exact congrArg (Sem.alloc o) (funext i)
 |register a k i=>exact congrArg (Sem.register a) (funext i)
 |loadIfAlive a k i=>exact congrArg (Sem.loadIfAlive a) (funext i)
 |point l k i=>exact congrArg (Sem.point l) (funext i)
 |fresh k i=>exact congrArg (Sem.fresh) (funext i)
 |ask k i=>exact congrArg (Sem.ask) (funext i)
 |choose s n k i=>exact congrArg (Sem.choose s n) (funext i)
 |os q l k i=>exact congrArg (Sem.os q l) (funext i)
 |call c h g l k i=>exact congrArg (Sem.call c h g l) (funext i)
 |handled o k i=>exact congrArg (Sem.handled o) (funext i)
 |genState g k i=>exact congrArg (Sem.genState g) (funext i)
 |newGen c k i=>exact congrArg (Sem.newGen c) (funext i)
 |resume g q l k i=>exact congrArg (Sem.resume g q l) (funext i)
 |yield v g l k i=>exact congrArg (Sem.yield v g l) (funext i)
 |stack k i=>exact congrArg (Sem.stack) (funext i)
 |fork c k i=>exact congrArg (Sem.fork c) (funext i)
 |thread k i=>exact congrArg (Sem.thread) (funext i)
 |await a t d l k i=>exact congrArg (Sem.await a t d l) (funext i)
def xS(s:Stmt)(env:Env)(f:Flow→Sem PySem.Fin)(r:Value→Sem PySem.Fin):Sem PySem.Fin:=
 match s with
 |.Try body handlers orelse final pos=>match final with
  |_::_=>.unsupported ""
  |[]=>match handlers with
   |[]=>.unsupported ""
   |_::_=>.at pos fun _=>bY (Fast.tw12563942051412417395 body env) (fun fl=>match fl with
     |.next=>bY (Fast.tw12563942051412417395 orelse env) f r
     |fl=>f fl) fun e=>qp e env (bY (Fast.tw5670386056902412789 e .none) (fun _=>bY (handleBy e env handlers) f r) r) r
 |.Raise exc cause pos=>match exc with
  |Option.none=>.unsupported ""
  |some x=>match cause with
   |some c=>Cm x c pos env r
   |Option.none=>bY (Fast.tw12563942051412417395 [s] env) f r
 |_=>bY (Fast.tw12563942051412417395 [s] env) f r
theorem xG(s:Stmt)(env:Env)(F f:Flow→Sem PySem.Fin)(R r:Value→Sem PySem.Fin)(H:∀a,Sim true (F a) (f a))(HR:∀e,Sim true (R e) (r e)):Sim true (aE (exec s env) F R) (bY (execs [s] env) f r):=by
 have e:execs [s] env=(exec s env).bind .pure:=by
  show Sem.bind (exec s env) _=_
  congr 1
  funext fl
  cases fl<;>rfl
 rw[e,show (exec s env).bind .pure=exec s env from PySem.Sem.bind_pure _]
 exact bU _ _ _ _ _ H HR
theorem CP(s:Stmt)(env:Env)(F f:Flow→Sem PySem.Fin)(R r:Value→Sem PySem.Fin)(H:∀a,Sim true (F a) (f a))(HR:∀e,Sim true (R e) (r e)):Sim true (aE (exec s env) F R) (xS s env f r):=by
 unfold xS
 rw[←Fast.te12563942051412417395,←Fast.te5670386056902412789]
 cases s with
 |Try body handlers orelse final pos=>
  cases final with
  |cons=>exact .unsupported _
  |nil=>
   cases handlers with
   |nil=>exact .unsupported _
   |cons h hs=>
    refine .at _ ?_
    show Sim true (aE (Sem.bind (Sem.attempt (execs body env)) _) F R) _
    rw[aS]
    refine ws _ _ _ _ _ (fun fl=>?_) (fun e=>?_)
    ·cases fl with
     |next=>exact bU _ _ _ _ _ H HR
     |_=>exact H _
    ·show Sim true (aE (Sem.bind (noteFrame e env) fun _=>Sem.bind (setFlight e none) fun _=>handleBy e env (h::hs)) F R) _
     rw[aS]
     refine oU _ _ _ _ _ _ HR ?_
     rw[aS]
     exact bU _ _ _ _ _ (fun _=>bU _ _ _ _ _ H HR) HR
 |Raise exc cause pos=>
  cases exc with
  |none=>exact .unsupported _
  |some x=>
   cases cause with
   |some c=>exact Bn _ _ _ _ _ _ _ HR
   |none=>exact xG _ _ _ _ _ _ H HR
 |_=>exact xG _ _ _ _ _ _ H HR
def vf(env:Env)(r:Value→Sem PySem.Fin)(l:List Stmt):(Flow→Sem PySem.Fin)→Sem PySem.Fin:=
 @List.rec Stmt (fun _=>(Flow→Sem PySem.Fin)→Sem PySem.Fin) (fun f=>f .next) (fun s _ ih f=>xS s env (fun fl=>match fl with
  |.next=>ih f
  |fl=>f fl) r) l
theorem rH(env:Env)(R r:Value→Sem PySem.Fin)(HR:∀e,Sim true (R e) (r e))(l:List Stmt):∀(F f:Flow→Sem PySem.Fin),(∀a,Sim true (F a) (f a))→Sim true (aE (execs l env) F R) (vf env r l f):=by
 induction l with
 |nil=>intro F f H;exact H .next
 |cons s l ih=>
  intro F f H
  show Sim true (aE (Sem.bind (exec s env) _) F R) _
  rw[aS]
  refine CP s env _ _ R r (fun fl=>?_) HR
  cases fl with
  |next=>exact ih F f H
  |_=>exact H _
def GQ(body:List Stmt)(env:Env):Sem PySem.Fin:=
 vf env (fun e=>qp e env (bY (Fast.tw5670386056902412789 e .none) (fun _=>.raise e) .raise) .raise) body fun fl=>match fl with
  |.ret v=>.pure (.done (.ret v))
  |_=>.pure (.done (.ret .none))
theorem Dn(body:List Stmt)(env:Env):Sim true (denote table (.func body env)) (GQ body env):=by
 show Sim true (Sem.point [] fun _=>Sem.bind (Sem.onRaise (execs body env) (leaving env)) _) _
 refine .pointL _ ?_
 rw[mj]
 refine rH env _ _ (fun e=>?_) body _ _ (fun fl=>?_)
 ·show Sim true (Sem.bind (Sem.bind (Sem.bind (noteFrame e env) fun _=>setFlight e none) fun _=>Sem.raise e) _) _
  rw[Sem.bind_assoc,Sem.bind_assoc,jh,←Fast.te5670386056902412789]
  refine oU _ _ _ _ _ _ (fun e=>.raise e) ?_
  rw[jh]
  exact bU _ _ _ _ _ (fun _=>.raise e) (fun e=>.raise e)
 ·cases fl<;>exact .pure _
def DH(env:Env)(x:Value):Sem PySem.Fin:=qp x env (bY (theTreesLotGoes x) (fun _=>.raise x) .raise) .raise
def GB(e:Value)(body:List Stmt)(pos:Pos)(env:Env):Sem PySem.Fin:=
 .at pos fun _=>bY (Fast.tw5670386056902412789 e .none) (fun _=>vf env (DH env) body fun fl=>.pure (.done fl)) (DH env)
theorem Dv(e:Value)(s:Stmt)(body:List Stmt)(pos:Pos)(env:Env)(hs:List ExceptHandler):Sim true (denote table (.handlers e (.ExceptHandler .none .none (s::body) pos::hs) env)) (GB e (s::body) pos env):=by
 show Sim true (Sem.bind (Sem.onRaise (handleWith e env (.ExceptHandler .none .none (s::body) pos::hs)) _) _) _
 rw[mj]
 refine .at _ ?_
 show Sim true (aE (Sem.bind (setFlight e none) fun _=>execs (s::body) env) _ _) _
 rw[aS,←Fast.te5670386056902412789]
 have RR:∀x,Sim true (Sem.bind (Sem.bind (Sem.bind (noteFrame x env) fun _=>theTreesLotGoes x) fun _=>Sem.raise x) fun fl:Flow=>Sem.pure (PySem.Fin.done fl)) (DH env x):=fun x=>by
  rw[Sem.bind_assoc,Sem.bind_assoc,jh]
  refine oU _ _ _ _ _ _ (fun e=>.raise e) ?_
  rw[jh]
  exact bU _ _ _ _ _ (fun _=>.raise x) (fun e=>.raise e)
 exact bU _ _ _ _ _ (fun _=>rH env _ _ RR _ _ _ fun fl=>.pure _) RR
def WR(cd:Code):WT:=
 match cd with
 |.func body env=>(true,GQ body env)
 |.handlers e hs env=>match hs with
  |[]=>(false,dY cd)
  |.ExceptHandler t n b p::_=>match t with
   |some _=>(false,dY cd)
   |Option.none=>match n with
    |some _=>(false,dY cd)
    |Option.none=>match b with
     |[]=>(false,dY cd)
     |_::_=>(true,GB e b p env)
 |cd=>WS cd
theorem WR_ok(p:Program)(w:World):ub (model p w) WR:=by
 intro cd
 have pl:Sim false ((model p w).den cd) (dY cd):=by
  show Sim false (denote table cd) _
  rw[kj];exact Sim.refl _
 cases cd with
 |func body env=>exact Dn body env
 |handlers e hs env=>
  cases hs with
  |nil=>exact pl
  |cons h hs=>
   obtain⟨t,n,b,p⟩:=h
   cases t with
   |some=>exact pl
   |none=>
    cases n with
    |some=>exact pl
    |none=>
     cases b with
     |nil=>exact pl
     |cons s b=>exact Dv e s b p env hs
 |_=>exact s5 p w _
noncomputable def db(b:List Stmt)(i:Nat):Arguments×List Stmt×Scope:=match b[i]? with
 |some (.FunctionDef _ a body _ _ _ sc _ _ _)=>(a,body,sc)
 |_=>(default,[],default)
noncomputable def bR(b:List Stmt)(i j:Nat):Arguments×List Stmt×Scope:=match b[i]? with
 |some (.ClassDef _ _ _ body _ _ _ _ _ _ _)=>db body j
 |_=>(default,[],default)
abbrev prog2:Program:=PySem.Challenge.rw_nz0230_01.prog
noncomputable def aF:List Stmt:=prog2.main.body
noncomputable def kS(P:Params)(k:Str)(t:Nat)(v:Value):DictEntry:=⟨PyData.keyHash P k,.str k t,v⟩
noncomputable def kI(k:Int)(t:Nat)(v:Value):DictEntry:=⟨k,.int k t,v⟩
noncomputable def dO(l:List DictEntry)(n:Nat):Obj:=⟨.type "dict",none,.dict ⟨l⟩ n,#[]⟩
noncomputable def iO(c d:Nat):Obj:=⟨.ref c,some d,.plain,#[]⟩
noncomputable def lO(l:List Value)(n:Nat):Obj:=⟨.type "list",none,.seq ⟨l⟩ n,#[]⟩
noncomputable def tO(l:List Value):Obj:=⟨.type "tuple",none,.seq ⟨l⟩ 0,#[]⟩
noncomputable def fO(n q:Str)(r:Arguments×List Stmt×Scope)(d m c:Value):Obj:=⟨.type "function",none,.func ⟨n,q,r.1,.stmts r.2.1,r.2.2,3,[],d,.none,.none,m,none,c,.none,0⟩,#[]⟩
noncomputable def cO(l:List Value):Obj:=⟨.type "code",none,.fields ⟨l⟩,#[]⟩
noncomputable def hL(o:Obj):HT:=.node (some o) .nil .nil
noncomputable def hU(a b:HT):HT:=.node none a b
noncomputable def hT(o:Obj)(a b:HT):HT:=.node (some o) a b
def sJZ(l:List Nat):Str:=⟨⟨l⟩⟩
noncomputable def J0:=sJZ [95,95,110,97,109,101,95,95]
noncomputable def J1:=sJZ [98,117,105,108,116,105,110,115]
noncomputable def J2:=sJZ [95,95,100,111,99,95,95]
noncomputable def J3:=sJZ [95,95,112,97,99,107,97,103,101,95,95]
noncomputable def J4:=sJZ [95,95,108,111,97,100,101,114,95,95]
noncomputable def J5:=sJZ [95,95,115,112,101,99,95,95]
noncomputable def J6:=sJZ [95,95,98,117,105,108,100,95,99,108,97,115,115,95,95]
noncomputable def J7:=sJZ [95,95,105,109,112,111,114,116,95,95]
noncomputable def J8:=sJZ [97,98,115]
noncomputable def J9:=sJZ [97,108,108]
noncomputable def J10:=sJZ [97,110,121]
noncomputable def J11:=sJZ [97,115,99,105,105]
noncomputable def J12:=sJZ [98,105,110]
noncomputable def J13:=sJZ [98,114,101,97,107,112,111,105,110,116]
noncomputable def J14:=sJZ [99,97,108,108,97,98,108,101]
noncomputable def J15:=sJZ [99,104,114]
noncomputable def J16:=sJZ [99,111,109,112,105,108,101]
noncomputable def J17:=sJZ [100,101,108,97,116,116,114]
noncomputable def J18:=sJZ [100,105,114]
noncomputable def J19:=sJZ [100,105,118,109,111,100]
noncomputable def J20:=sJZ [101,118,97,108]
noncomputable def J21:=sJZ [101,120,101,99]
noncomputable def J22:=sJZ [102,111,114,109,97,116]
noncomputable def J23:=sJZ [103,101,116,97,116,116,114]
noncomputable def J24:=sJZ [103,108,111,98,97,108,115]
noncomputable def J25:=sJZ [104,97,115,97,116,116,114]
noncomputable def J26:=sJZ [104,97,115,104]
noncomputable def J27:=sJZ [104,101,120]
noncomputable def J28:=sJZ [105,100]
noncomputable def J29:=sJZ [105,110,112,117,116]
noncomputable def J30:=sJZ [105,115,105,110,115,116,97,110,99,101]
noncomputable def J31:=sJZ [105,115,115,117,98,99,108,97,115,115]
noncomputable def J32:=sJZ [105,116,101,114]
noncomputable def J33:=sJZ [97,105,116,101,114]
noncomputable def J34:=sJZ [108,101,110]
noncomputable def J35:=sJZ [108,111,99,97,108,115]
noncomputable def J36:=sJZ [109,97,120]
noncomputable def J37:=sJZ [109,105,110]
noncomputable def J38:=sJZ [110,101,120,116]
noncomputable def J39:=sJZ [97,110,101,120,116]
noncomputable def J40:=sJZ [111,99,116]
noncomputable def J41:=sJZ [111,114,100]
noncomputable def J42:=sJZ [112,111,119]
noncomputable def J43:=sJZ [112,114,105,110,116]
noncomputable def J44:=sJZ [114,101,112,114]
noncomputable def J45:=sJZ [114,111,117,110,100]
noncomputable def J46:=sJZ [115,101,116,97,116,116,114]
noncomputable def J47:=sJZ [115,111,114,116,101,100]
noncomputable def J48:=sJZ [115,117,109]
noncomputable def J49:=sJZ [118,97,114,115]
noncomputable def J50:=sJZ [78,111,110,101]
noncomputable def J51:=sJZ [69,108,108,105,112,115,105,115]
noncomputable def J52:=sJZ [78,111,116,73,109,112,108,101,109,101,110,116,101,100]
noncomputable def J53:=sJZ [70,97,108,115,101]
noncomputable def J54:=sJZ [84,114,117,101]
noncomputable def J55:=sJZ [98,111,111,108]
noncomputable def J56:=sJZ [109,101,109,111,114,121,118,105,101,119]
noncomputable def J57:=sJZ [98,121,116,101,97,114,114,97,121]
noncomputable def J58:=sJZ [98,121,116,101,115]
noncomputable def J59:=sJZ [99,108,97,115,115,109,101,116,104,111,100]
noncomputable def J60:=sJZ [99,111,109,112,108,101,120]
noncomputable def J61:=sJZ [100,105,99,116]
noncomputable def J62:=sJZ [101,110,117,109,101,114,97,116,101]
noncomputable def J63:=sJZ [102,105,108,116,101,114]
noncomputable def J64:=sJZ [102,108,111,97,116]
noncomputable def J65:=sJZ [102,114,111,122,101,110,115,101,116]
noncomputable def J66:=sJZ [112,114,111,112,101,114,116,121]
noncomputable def J67:=sJZ [105,110,116]
noncomputable def J68:=sJZ [108,105,115,116]
noncomputable def J69:=sJZ [109,97,112]
noncomputable def J70:=sJZ [111,98,106,101,99,116]
noncomputable def J71:=sJZ [114,97,110,103,101]
noncomputable def J72:=sJZ [114,101,118,101,114,115,101,100]
noncomputable def J73:=sJZ [115,101,116]
noncomputable def J74:=sJZ [115,108,105,99,101]
noncomputable def J75:=sJZ [115,116,97,116,105,99,109,101,116,104,111,100]
noncomputable def J76:=sJZ [115,116,114]
noncomputable def J77:=sJZ [115,117,112,101,114]
noncomputable def J78:=sJZ [116,117,112,108,101]
noncomputable def J79:=sJZ [116,121,112,101]
noncomputable def J80:=sJZ [122,105,112]
noncomputable def J81:=sJZ [95,95,100,101,98,117,103,95,95]
noncomputable def J82:=sJZ [66,97,115,101,69,120,99,101,112,116,105,111,110]
noncomputable def J83:=sJZ [66,97,115,101,69,120,99,101,112,116,105,111,110,71,114,111,117,112]
noncomputable def J84:=sJZ [69,120,99,101,112,116,105,111,110]
noncomputable def J85:=sJZ [71,101,110,101,114,97,116,111,114,69,120,105,116]
noncomputable def J86:=sJZ [75,101,121,98,111,97,114,100,73,110,116,101,114,114,117,112,116]
noncomputable def J87:=sJZ [83,121,115,116,101,109,69,120,105,116]
noncomputable def J88:=sJZ [65,114,105,116,104,109,101,116,105,99,69,114,114,111,114]
noncomputable def J89:=sJZ [65,115,115,101,114,116,105,111,110,69,114,114,111,114]
noncomputable def J90:=sJZ [65,116,116,114,105,98,117,116,101,69,114,114,111,114]
noncomputable def J91:=sJZ [66,117,102,102,101,114,69,114,114,111,114]
noncomputable def J92:=sJZ [69,79,70,69,114,114,111,114]
noncomputable def J93:=sJZ [73,109,112,111,114,116,69,114,114,111,114]
noncomputable def J94:=sJZ [76,111,111,107,117,112,69,114,114,111,114]
noncomputable def J95:=sJZ [77,101,109,111,114,121,69,114,114,111,114]
noncomputable def J96:=sJZ [78,97,109,101,69,114,114,111,114]
noncomputable def J97:=sJZ [79,83,69,114,114,111,114]
noncomputable def J98:=sJZ [82,101,102,101,114,101,110,99,101,69,114,114,111,114]
noncomputable def J99:=sJZ [82,117,110,116,105,109,101,69,114,114,111,114]
noncomputable def J100:=sJZ [83,116,111,112,65,115,121,110,99,73,116,101,114,97,116,105,111,110]
noncomputable def J101:=sJZ [83,116,111,112,73,116,101,114,97,116,105,111,110]
noncomputable def J102:=sJZ [83,121,110,116,97,120,69,114,114,111,114]
noncomputable def J103:=sJZ [83,121,115,116,101,109,69,114,114,111,114]
noncomputable def J104:=sJZ [84,121,112,101,69,114,114,111,114]
noncomputable def J105:=sJZ [86,97,108,117,101,69,114,114,111,114]
noncomputable def J106:=sJZ [87,97,114,110,105,110,103]
noncomputable def J107:=sJZ [70,108,111,97,116,105,110,103,80,111,105,110,116,69,114,114,111,114]
noncomputable def J108:=sJZ [79,118,101,114,102,108,111,119,69,114,114,111,114]
noncomputable def J109:=sJZ [90,101,114,111,68,105,118,105,115,105,111,110,69,114,114,111,114]
noncomputable def J110:=sJZ [66,121,116,101,115,87,97,114,110,105,110,103]
noncomputable def J111:=sJZ [68,101,112,114,101,99,97,116,105,111,110,87,97,114,110,105,110,103]
noncomputable def J112:=sJZ [69,110,99,111,100,105,110,103,87,97,114,110,105,110,103]
noncomputable def J113:=sJZ [70,117,116,117,114,101,87,97,114,110,105,110,103]
noncomputable def J114:=sJZ [73,109,112,111,114,116,87,97,114,110,105,110,103]
noncomputable def J115:=sJZ [80,101,110,100,105,110,103,68,101,112,114,101,99,97,116,105,111,110,87,97,114,110,105,110,103]
noncomputable def J116:=sJZ [82,101,115,111,117,114,99,101,87,97,114,110,105,110,103]
noncomputable def J117:=sJZ [82,117,110,116,105,109,101,87,97,114,110,105,110,103]
noncomputable def J118:=sJZ [83,121,110,116,97,120,87,97,114,110,105,110,103]
noncomputable def J119:=sJZ [85,110,105,99,111,100,101,87,97,114,110,105,110,103]
noncomputable def J120:=sJZ [85,115,101,114,87,97,114,110,105,110,103]
noncomputable def J121:=sJZ [66,108,111,99,107,105,110,103,73,79,69,114,114,111,114]
noncomputable def J122:=sJZ [67,104,105,108,100,80,114,111,99,101,115,115,69,114,114,111,114]
noncomputable def J123:=sJZ [67,111,110,110,101,99,116,105,111,110,69,114,114,111,114]
noncomputable def J124:=sJZ [70,105,108,101,69,120,105,115,116,115,69,114,114,111,114]
noncomputable def J125:=sJZ [70,105,108,101,78,111,116,70,111,117,110,100,69,114,114,111,114]
noncomputable def J126:=sJZ [73,110,116,101,114,114,117,112,116,101,100,69,114,114,111,114]
noncomputable def J127:=sJZ [73,115,65,68,105,114,101,99,116,111,114,121,69,114,114,111,114]
noncomputable def J128:=sJZ [78,111,116,65,68,105,114,101,99,116,111,114,121,69,114,114,111,114]
noncomputable def J129:=sJZ [80,101,114,109,105,115,115,105,111,110,69,114,114,111,114]
noncomputable def J130:=sJZ [80,114,111,99,101,115,115,76,111,111,107,117,112,69,114,114,111,114]
noncomputable def J131:=sJZ [84,105,109,101,111,117,116,69,114,114,111,114]
noncomputable def J132:=sJZ [73,110,100,101,110,116,97,116,105,111,110,69,114,114,111,114]
noncomputable def J133:=sJZ [95,73,110,99,111,109,112,108,101,116,101,73,110,112,117,116,69,114,114,111,114]
noncomputable def J134:=sJZ [73,110,100,101,120,69,114,114,111,114]
noncomputable def J135:=sJZ [75,101,121,69,114,114,111,114]
noncomputable def J136:=sJZ [77,111,100,117,108,101,78,111,116,70,111,117,110,100,69,114,114,111,114]
noncomputable def J137:=sJZ [78,111,116,73,109,112,108,101,109,101,110,116,101,100,69,114,114,111,114]
noncomputable def J138:=sJZ [80,121,116,104,111,110,70,105,110,97,108,105,122,97,116,105,111,110,69,114,114,111,114]
noncomputable def J139:=sJZ [82,101,99,117,114,115,105,111,110,69,114,114,111,114]
noncomputable def J140:=sJZ [85,110,98,111,117,110,100,76,111,99,97,108,69,114,114,111,114]
noncomputable def J141:=sJZ [85,110,105,99,111,100,101,69,114,114,111,114]
noncomputable def J142:=sJZ [66,114,111,107,101,110,80,105,112,101,69,114,114,111,114]
noncomputable def J143:=sJZ [67,111,110,110,101,99,116,105,111,110,65,98,111,114,116,101,100,69,114,114,111,114]
noncomputable def J144:=sJZ [67,111,110,110,101,99,116,105,111,110,82,101,102,117,115,101,100,69,114,114,111,114]
noncomputable def J145:=sJZ [67,111,110,110,101,99,116,105,111,110,82,101,115,101,116,69,114,114,111,114]
noncomputable def J146:=sJZ [84,97,98,69,114,114,111,114]
noncomputable def J147:=sJZ [85,110,105,99,111,100,101,68,101,99,111,100,101,69,114,114,111,114]
noncomputable def J148:=sJZ [85,110,105,99,111,100,101,69,110,99,111,100,101,69,114,114,111,114]
noncomputable def J149:=sJZ [85,110,105,99,111,100,101,84,114,97,110,115,108,97,116,101,69,114,114,111,114]
noncomputable def J150:=sJZ [69,120,99,101,112,116,105,111,110,71,114,111,117,112]
noncomputable def J151:=sJZ [69,110,118,105,114,111,110,109,101,110,116,69,114,114,111,114]
noncomputable def J152:=sJZ [73,79,69,114,114,111,114]
noncomputable def J153:=sJZ [111,112,101,110]
noncomputable def J154:=sJZ [113,117,105,116]
noncomputable def J155:=sJZ [101,120,105,116]
noncomputable def J156:=sJZ [99,111,112,121,114,105,103,104,116]
noncomputable def J157:=sJZ [99,114,101,100,105,116,115]
noncomputable def J158:=sJZ [108,105,99,101,110,115,101]
noncomputable def J159:=sJZ [104,101,108,112]
noncomputable def l6:=sJZ [108,97,119,95,110,122,48,50,51,48,95,48,49]
noncomputable def DM:=sJZ [95,95,97,110,110,111,116,97,116,105,111,110,115,95,95]
noncomputable def C2:=sJZ [95,95,98,117,105,108,116,105,110,115,95,95]
noncomputable def DG:=sJZ [95,95,102,105,108,101,95,95]
noncomputable def az:=sJZ [47,99,108,97,105,109,47,99,117,116,46,112,121]
noncomputable def DJ:=sJZ [95,95,99,97,99,104,101,100,95,95]
noncomputable def J166:=sJZ [95,119,97,108,108]
noncomputable def qF:=sJZ [66,111,97,114,100,69,114,114,111,114]
noncomputable def J168:=sJZ [66,97,100,65,114,103,117,109,101,110,116]
noncomputable def J169:=sJZ [66,97,100,73,110,115,116,114,117,99,116,105,111,110]
noncomputable def rh:=sJZ [84,114,97,112]
noncomputable def J171:=sJZ [67,83,82,83]
noncomputable def J172:=sJZ [76,79,65,68,95,105,115,97]
noncomputable def J173:=sJZ [70,69,78,67,69,83]
noncomputable def J174:=sJZ [73,77,77,69,68,73,65,84,69]
noncomputable def J175:=sJZ [65,85,73,80,67]
noncomputable def J176:=sJZ [83,84,79,82,69,95,105,115,97]
noncomputable def J177:=sJZ [82,69,71,73,83,84,69,82]
noncomputable def J178:=sJZ [76,85,73]
noncomputable def J179:=sJZ [66,82,65,78,67,72]
noncomputable def J180:=sJZ [74,65,76,82]
noncomputable def J181:=sJZ [74,65,76]
noncomputable def J182:=sJZ [83,89,83,84,69,77]
noncomputable def qQ:=sJZ [73,110,115,116,114,117,99,116,105,111,110]
noncomputable def qA:=sJZ [83,104,97,112,101]
noncomputable def q5:=sJZ [110,117,109,98,101,114,101,100]
noncomputable def q8:=sJZ [115,104,97,112,101,115]
noncomputable def vc:=sJZ [75,110,111,119,110]
noncomputable def J188:=sJZ [85,83,69,68]
noncomputable def J189:=sJZ [82,65,78,71,69,83]
noncomputable def vY:=sJZ [115,104,97,112,101,95,111,102]
noncomputable def uO:=sJZ [99,104,101,99,107]
noncomputable def J192:=sJZ [115,112,114,101,97,100,95,98,114,97,110,99,104]
noncomputable def J193:=sJZ [115,112,114,101,97,100,95,106,117,109,112]
noncomputable def va:=sJZ [101,110,99,111,100,101]
noncomputable def J195:=sJZ [103,97,116,104,101,114,101,100,95,98,114,97,110,99,104]
noncomputable def J196:=sJZ [103,97,116,104,101,114,101,100,95,106,117,109,112]
noncomputable def uK:=sJZ [102,105,110,100,95,115,104,97,112,101]
noncomputable def ua:=sJZ [100,101,99,111,100,101]
noncomputable def J199:=sJZ [77,65,83,75]
noncomputable def J200:=sJZ [83,73,71,78]
noncomputable def J201:=sJZ [87,72,79,76,69]
noncomputable def J202:=sJZ [115,105,103,110,101,100]
noncomputable def J203:=sJZ [115,105,103,110,95,101,120,116,101,110,100]
noncomputable def vR:=sJZ [97,100,100]
noncomputable def yp:=sJZ [115,117,98]
noncomputable def J206:=sJZ [115,104,105,102,116,95,108,101,102,116]
noncomputable def J207:=sJZ [115,104,105,102,116,95,114,105,103,104,116]
noncomputable def J208:=sJZ [115,104,105,102,116,95,115,105,103,110,101,100]
noncomputable def J209:=sJZ [108,101,115,115,95,115,105,103,110,101,100]
noncomputable def yw:=sJZ [109,117,108]
noncomputable def zE:=sJZ [109,117,108,104]
noncomputable def zx:=sJZ [109,117,108,104,115,117]
noncomputable def za:=sJZ [109,117,108,104,117]
noncomputable def yX:=sJZ [100,105,118,117]
noncomputable def yP:=sJZ [114,101,109,117]
noncomputable def zP:=sJZ [100,105,118]
noncomputable def Aj:=sJZ [114,101,109]
noncomputable def J218:=sJZ [85,83,69,82,95,99,115,114,115]
noncomputable def J219:=sJZ [83,85,80,69,82,86,73,83,79,82]
noncomputable def J220:=sJZ [77,65,67,72,73,78,69]
noncomputable def J221:=sJZ [73,78,84,69,82,82,85,80,84]
noncomputable def J222:=sJZ [83,73,69]
noncomputable def J223:=sJZ [77,73,69]
noncomputable def J224:=sJZ [83,80,73,69]
noncomputable def J225:=sJZ [77,80,73,69]
noncomputable def J226:=sJZ [83,80,80]
noncomputable def J227:=sJZ [77,80,80,95,80,76,65,67,69]
noncomputable def J228:=sJZ [77,80,80]
noncomputable def J229:=sJZ [77,80,82,86]
noncomputable def J230:=sJZ [83,85,77]
noncomputable def J231:=sJZ [77,88,82]
noncomputable def J232:=sJZ [77,83,84,65,84,85,83,95,66,73,84,83]
noncomputable def J233:=sJZ [83,83,84,65,84,85,83,95,66,73,84,83]
noncomputable def J234:=sJZ [83,79,70,84,95,83]
noncomputable def J235:=sJZ [83,79,70,84,95,77]
noncomputable def J236:=sJZ [84,73,77,69,82,95,83]
noncomputable def J237:=sJZ [84,73,77,69,82,95,77]
noncomputable def J238:=sJZ [79,85,84,69,82,95,83]
noncomputable def J239:=sJZ [79,85,84,69,82,95,77]
noncomputable def J240:=sJZ [79,82,68,69,82]
noncomputable def J241:=sJZ [83,95,76,73,78,69,83]
noncomputable def J242:=sJZ [65,76,76,95,76,73,78,69,83]
noncomputable def J243:=sJZ [68,69,76,69,71,65,66,76,69]
noncomputable def J244:=sJZ [83,65,84,80,95,77,79,68,69]
noncomputable def J245:=sJZ [83,65,84,80,95,82,79,79,84]
noncomputable def J246:=sJZ [83,65,84,80,95,66,73,84,83]
noncomputable def J247:=sJZ [78,65,77,69,83]
noncomputable def J248:=sJZ [67,79,85,78,84,69,82,83]
noncomputable def J249:=sJZ [77,73,83,65]
noncomputable def tM:=sJZ [108,111,119,101,115,116,95,109,111,100,101]
noncomputable def wb:=sJZ [105,115,95,114,101,97,100,95,111,110,108,121]
noncomputable def vQ:=sJZ [118,101,99,116,111,114,95,116,111,108,100]
noncomputable def J253:=sJZ [115,116,97,116,117,115,95,116,111,108,100]
noncomputable def vy:=sJZ [67,115,114,115]
noncomputable def J255:=sJZ [69,78,84,82,89]
noncomputable def J256:=sJZ [86,65,76,73,68]
noncomputable def J257:=sJZ [82,69,65,68]
noncomputable def J258:=sJZ [87,82,73,84,69]
noncomputable def J259:=sJZ [69,88,69,67,85,84,69]
noncomputable def J260:=sJZ [85,83,69,82,95,112,97,103,105,110,103]
noncomputable def J261:=sJZ [65,67,67,69,83,83,69,68]
noncomputable def J262:=sJZ [68,73,82,84,89]
noncomputable def J263:=sJZ [76,69,65,70]
noncomputable def J264:=sJZ [70,76,65,71,95,66,73,84,83]
noncomputable def J265:=sJZ [70,69,84,67,72,95,112,97,103,105,110,103]
noncomputable def J266:=sJZ [102,101,116,99,104]
noncomputable def J267:=sJZ [76,79,65,68,95,112,97,103,105,110,103]
noncomputable def J268:=sJZ [108,111,97,100]
noncomputable def J269:=sJZ [83,84,79,82,69,95,112,97,103,105,110,103]
noncomputable def J270:=sJZ [115,116,111,114,101]
noncomputable def J271:=sJZ [80,65,71,69,95,70,65,85,76,84,83]
noncomputable def J272:=sJZ [65,67,67,69,83,83,95,70,65,85,76,84,83]
noncomputable def J273:=sJZ [85,83,69,82,95,77,79,68,69]
noncomputable def vC:=sJZ [76,97,121,111,117,116]
noncomputable def J275:=sJZ [105,115,95,108,101,97,102]
noncomputable def J276:=sJZ [105,115,95,115,111,117,110,100]
noncomputable def J277:=sJZ [109,97,121]
noncomputable def vF:=sJZ [87,97,108,107,101,114]
noncomputable def J279:=sJZ [70,69,84,67,72,95,99,111,114,101]
noncomputable def J280:=sJZ [76,79,65,68,95,99,111,114,101]
noncomputable def J281:=sJZ [83,84,79,82,69,95,99,111,114,101]
noncomputable def J282:=sJZ [75,73,78,68,83]
noncomputable def J283:=sJZ [84,85,82,78,73,78,71]
noncomputable def J284:=sJZ [66,89,95,73,77,77,69,68,73,65,84,69]
noncomputable def J285:=sJZ [66,89,95,82,69,71,73,83,84,69,82]
noncomputable def J286:=sJZ [66,89,95,76,79,65,68]
noncomputable def J287:=sJZ [66,89,95,83,84,79,82,69]
noncomputable def J288:=sJZ [66,89,95,66,82,65,78,67,72]
noncomputable def J289:=sJZ [66,89,95,78,65,77,69]
noncomputable def J290:=sJZ [98,111,116,104]
noncomputable def J291:=sJZ [101,105,116,104,101,114]
noncomputable def J292:=sJZ [117,110,108,105,107,101,95,98,105,116,115]
noncomputable def J293:=sJZ [115,101,116,95,108,101,115,115]
noncomputable def J294:=sJZ [115,101,116,95,108,101,115,115,95,112,108,97,105,110]
noncomputable def J295:=sJZ [105,115,95,101,113,117,97,108]
noncomputable def J296:=sJZ [105,115,95,117,110,108,105,107,101]
noncomputable def J297:=sJZ [105,115,95,110,111,116,95,108,101,115,115]
noncomputable def J298:=sJZ [105,115,95,108,101,115,115,95,112,108,97,105,110]
noncomputable def J299:=sJZ [105,115,95,110,111,116,95,108,101,115,115,95,112,108,97,105,110]
noncomputable def J300:=sJZ [66,79,84,72,95,87,65,89,83]
noncomputable def J301:=sJZ [82,69,71,73,83,84,69,82,83,95,79,78,76,89]
noncomputable def J302:=sJZ [73,77,77,69,68,73,65,84,69,83]
noncomputable def J303:=sJZ [76,79,65,68,83]
noncomputable def J304:=sJZ [83,84,79,82,69,83]
noncomputable def J305:=sJZ [66,82,65,78,67,72,69,83]
noncomputable def uc:=sJZ [114,111,119,95,111,102]
noncomputable def uy:=sJZ [67,111,114,101]
noncomputable def vm:=sJZ [95,108,97,119,95,110,117,109,98,101,114,115]
noncomputable def uw:=sJZ [95,108,97,119,95,108,101,116]
noncomputable def tN:=sJZ [95,108,97,119,95,114,101,97,100]
noncomputable def uU:=sJZ [95,108,97,119,95,119,114,105,116,101]
noncomputable def uo:=sJZ [95,108,97,119,95,100,101,101,100]
noncomputable def uP:=sJZ [95,108,97,119,95,100,117,101]
noncomputable def v8:=sJZ [95,108,97,119,95,116,111,108,100]
noncomputable def uZ:=sJZ [108,97,119]
noncomputable def EK:Str:=⟨⟨[]⟩⟩
noncomputable def dm:=sJZ [95,95,105,110,105,116,95,95]
noncomputable def J318:=sJZ [66,111,97,114,100,69,114,114,111,114,46,95,95,105,110,105,116,95,95]
noncomputable def zS:=sJZ [112,105,112,101,98,111,97,114,100,46,101,114,114,111,114,115]
noncomputable def lR:=sJZ [95,95,109,111,100,117,108,101,95,95]
noncomputable def l4:=sJZ [95,95,102,105,114,115,116,108,105,110,101,110,111,95,95]
noncomputable def lY:=sJZ [95,95,115,116,97,116,105,99,95,97,116,116,114,105,98,117,116,101,115,95,95]
noncomputable def mx:=sJZ [95,95,119,101,97,107,114,101,102,95,95]
noncomputable def J324:=sJZ [84,114,97,112,46,95,95,105,110,105,116,95,95]
noncomputable def J325:=sJZ [70,69,84,67,72,95,77,73,83,65,76,73,71,78,69,68]
noncomputable def J326:=sJZ [70,69,84,67,72,95,65,67,67,69,83,83]
noncomputable def J327:=sJZ [73,76,76,69,71,65,76]
noncomputable def J328:=sJZ [66,82,69,65,75,80,79,73,78,84]
noncomputable def J329:=sJZ [76,79,65,68,95,77,73,83,65,76,73,71,78,69,68]
noncomputable def J330:=sJZ [76,79,65,68,95,65,67,67,69,83,83]
noncomputable def J331:=sJZ [83,84,79,82,69,95,77,73,83,65,76,73,71,78,69,68]
noncomputable def J332:=sJZ [83,84,79,82,69,95,65,67,67,69,83,83]
noncomputable def J333:=sJZ [67,65,76,76,95,70,82,79,77,95,85,83,69,82]
noncomputable def J334:=sJZ [67,65,76,76,95,70,82,79,77,95,83,85,80,69,82,86,73,83,79,82]
noncomputable def J335:=sJZ [67,65,76,76,95,70,82,79,77,95,77,65,67,72,73,78,69]
noncomputable def J336:=sJZ [70,69,84,67,72,95,80,65,71,69]
noncomputable def J337:=sJZ [76,79,65,68,95,80,65,71,69]
noncomputable def J338:=sJZ [83,84,79,82,69,95,80,65,71,69]
noncomputable def J339:=sJZ [73,110,115,116,114,117,99,116,105,111,110,46,95,95,105,110,105,116,95,95]
noncomputable def hF:=sJZ [112,105,112,101,98,111,97,114,100,46,105,115,97]
noncomputable def J341:=sJZ [102,105,101,108,100,115]
noncomputable def oP:=sJZ [95,95,100,105,99,116,95,95]
noncomputable def ER:=sJZ [102,105,120,101,100]
noncomputable def J344:=sJZ [83,104,97,112,101,46,102,105,120,101,100]
noncomputable def dj:=sJZ [110,97,109,101]
noncomputable def kL:=sJZ [99,115,114,114,119]
noncomputable def jR:=sJZ [107,105,110,100]
noncomputable def yS:=sJZ [67,83,82]
noncomputable def oY:=sJZ [111,112,99,111,100,101]
noncomputable def oM:=sJZ [116,104,105,114,100]
noncomputable def o8:=sJZ [115,101,118,101,110,116,104]
noncomputable def kz:=sJZ [99,115,114,114,115]
noncomputable def kG:=sJZ [99,115,114,114,99]
noncomputable def kv:=sJZ [99,115,114,114,119,105]
noncomputable def tL:=sJZ [67,83,82,73]
noncomputable def kM:=sJZ [99,115,114,114,115,105]
noncomputable def kJ:=sJZ [99,115,114,114,99,105]
noncomputable def qN:=sJZ [108,117,105]
noncomputable def qy:=sJZ [97,117,105,112,99]
noncomputable def qD:=sJZ [106,97,108]
noncomputable def qz:=sJZ [106,97,108,114]
noncomputable def CV:=sJZ [98,101,113]
noncomputable def ET:=sJZ [98,110,101]
noncomputable def EB:=sJZ [98,108,116]
noncomputable def EA:=sJZ [98,103,101]
noncomputable def E0:=sJZ [98,108,116,117]
noncomputable def EF:=sJZ [98,103,101,117]
noncomputable def Et:=sJZ [108,98]
noncomputable def D8:=sJZ [108,104]
noncomputable def Em:=sJZ [108,119]
noncomputable def ED:=sJZ [108,98,117]
noncomputable def Ev:=sJZ [108,104,117]
noncomputable def CK:=sJZ [115,98]
noncomputable def Ea:=sJZ [115,104]
noncomputable def CN:=sJZ [115,119]
noncomputable def Dd:=sJZ [97,100,100,105]
noncomputable def Ey:=sJZ [115,108,116,105]
noncomputable def Du:=sJZ [115,108,116,105,117]
noncomputable def Dx:=sJZ [120,111,114,105]
noncomputable def Ei:=sJZ [111,114,105]
noncomputable def E5:=sJZ [97,110,100,105]
noncomputable def DF:=sJZ [115,108,108,105]
noncomputable def EP:=sJZ [115,114,108,105]
noncomputable def EC:=sJZ [115,114,97,105]
noncomputable def zA:=sJZ [115,108,108]
noncomputable def yO:=sJZ [115,108,116]
noncomputable def xK:=sJZ [115,108,116,117]
noncomputable def zJ:=sJZ [120,111,114]
noncomputable def zF:=sJZ [115,114,108]
noncomputable def yE:=sJZ [111,114]
noncomputable def yL:=sJZ [97,110,100]
noncomputable def yG:=sJZ [115,114,97]
noncomputable def qY:=sJZ [102,101,110,99,101]
noncomputable def J394:=sJZ [102,101,110,99,101,46,105]
noncomputable def qL:=sJZ [115,102,101,110,99,101,46,118,109,97]
noncomputable def q6:=sJZ [101,99,97,108,108]
noncomputable def rf:=sJZ [101,98,114,101,97,107]
noncomputable def J398:=sJZ [115,114,101,116]
noncomputable def J399:=sJZ [119,102,105]
noncomputable def J400:=sJZ [109,114,101,116]
noncomputable def J401:=sJZ [83,72,65,80,69,83]
noncomputable def J402:=sJZ [66,89,95,79,80,67,79,68,69]
noncomputable def J403:=sJZ [66,89,95,84,72,73,82,68]
noncomputable def J404:=sJZ [66,89,95,83,69,86,69,78,84,72]
noncomputable def eN:=sJZ [82]
noncomputable def iv:=sJZ [73]
noncomputable def ug:=sJZ [83]
noncomputable def mD:=sJZ [66]
noncomputable def xV:=sJZ [85]
noncomputable def Dr:=sJZ [74]
noncomputable def uC:=sJZ [115,104,105,102,116]
noncomputable def uY:=sJZ [102,108,117,115,104]
noncomputable def qV:=sJZ [115,121,115,116,101,109]
noncomputable def gK:=sJZ [114,100]
noncomputable def lD:=sJZ [114,115,49]
noncomputable def gq:=sJZ [99,115,114]
noncomputable def iG:=sJZ [105,109,109]
noncomputable def J418:=sJZ [115,115,116,97,116,117,115]
noncomputable def J419:=sJZ [115,105,101]
noncomputable def J420:=sJZ [115,116,118,101,99]
noncomputable def J421:=sJZ [115,99,111,117,110,116,101,114,101,110]
noncomputable def J422:=sJZ [115,115,99,114,97,116,99,104]
noncomputable def J423:=sJZ [115,101,112,99]
noncomputable def J424:=sJZ [115,99,97,117,115,101]
noncomputable def J425:=sJZ [115,116,118,97,108]
noncomputable def J426:=sJZ [115,105,112]
noncomputable def zk:=sJZ [115,97,116,112]
noncomputable def J428:=sJZ [109,115,116,97,116,117,115]
noncomputable def J429:=sJZ [109,105,115,97]
noncomputable def J430:=sJZ [109,101,100,101,108,101,103]
noncomputable def J431:=sJZ [109,105,100,101,108,101,103]
noncomputable def J432:=sJZ [109,105,101]
noncomputable def J433:=sJZ [109,116,118,101,99]
noncomputable def J434:=sJZ [109,99,111,117,110,116,101,114,101,110]
noncomputable def J435:=sJZ [109,115,99,114,97,116,99,104]
noncomputable def J436:=sJZ [109,101,112,99]
noncomputable def J437:=sJZ [109,99,97,117,115,101]
noncomputable def J438:=sJZ [109,116,118,97,108]
noncomputable def J439:=sJZ [109,105,112]
noncomputable def J440:=sJZ [109,99,121,99,108,101]
noncomputable def J441:=sJZ [109,105,110,115,116,114,101,116]
noncomputable def J442:=sJZ [109,99,121,99,108,101,104]
noncomputable def J443:=sJZ [109,105,110,115,116,114,101,116,104]
noncomputable def J444:=sJZ [99,121,99,108,101]
noncomputable def vg:=sJZ [116,105,109,101]
noncomputable def J446:=sJZ [105,110,115,116,114,101,116]
noncomputable def J447:=sJZ [99,121,99,108,101,104]
noncomputable def J448:=sJZ [116,105,109,101,104]
noncomputable def J449:=sJZ [105,110,115,116,114,101,116,104]
noncomputable def J450:=sJZ [109,118,101,110,100,111,114,105,100]
noncomputable def J451:=sJZ [109,97,114,99,104,105,100]
noncomputable def J452:=sJZ [109,105,109,112,105,100]
noncomputable def zW:=sJZ [109,104,97,114,116,105,100]
noncomputable def hZ:=sJZ [112,105,112,101,98,111,97,114,100,46,99,115,114,115]
noncomputable def J455:=sJZ [67,115,114,115,46,95,95,105,110,105,116,95,95]
noncomputable def J456:=sJZ [67,115,114,115,46,116,105,109,101]
noncomputable def DN:=sJZ [110,101,101,100]
noncomputable def J458:=sJZ [67,115,114,115,46,110,101,101,100]
noncomputable def DR:=sJZ [114,101,97,100]
noncomputable def J460:=sJZ [67,115,114,115,46,114,101,97,100]
noncomputable def DZ:=sJZ [114,101,97,100,95,109,97,99,104,105,110,101]
noncomputable def J462:=sJZ [67,115,114,115,46,114,101,97,100,95,109,97,99,104,105,110,101]
noncomputable def Ef:=sJZ [99,111,117,110,116,101,100]
noncomputable def J464:=sJZ [67,115,114,115,46,99,111,117,110,116,101,100]
noncomputable def D1:=sJZ [119,114,105,116,101]
noncomputable def J466:=sJZ [67,115,114,115,46,119,114,105,116,101]
noncomputable def D3:=sJZ [116,111,108,100]
noncomputable def J468:=sJZ [67,115,114,115,46,116,111,108,100]
noncomputable def Dm:=sJZ [119,114,105,116,101,95,109,97,99,104,105,110,101]
noncomputable def J470:=sJZ [67,115,114,115,46,119,114,105,116,101,95,109,97,99,104,105,110,101]
noncomputable def Ex:=sJZ [119,114,105,116,101,95,99,111,117,110,116,101,114]
noncomputable def J472:=sJZ [67,115,114,115,46,119,114,105,116,101,95,99,111,117,110,116,101,114]
noncomputable def J473:=sJZ [108,105,110,101]
noncomputable def J474:=sJZ [112,101,110,100,105,110,103]
noncomputable def J475:=sJZ [105,115,95,104,97,110,100,101,100]
noncomputable def J476:=sJZ [101,110,116,101,114]
noncomputable def J477:=sJZ [112,108,97,99,101,95,111,102]
noncomputable def J478:=sJZ [108,101,97,118,101,95,109,97,99,104,105,110,101]
noncomputable def J479:=sJZ [108,101,97,118,101,95,115,117,112,101,114,118,105,115,111,114]
noncomputable def J480:=sJZ [100,97,116,97,95,109,111,100,101]
noncomputable def J481:=sJZ [105,115,95,112,97,103,101,100]
noncomputable def J482:=sJZ [114,111,111,116]
noncomputable def J483:=sJZ [76,97,121,111,117,116,46,95,95,105,110,105,116,95,95]
noncomputable def zj:=sJZ [112,105,112,101,98,111,97,114,100,46,112,97,103,105,110,103]
noncomputable def J485:=sJZ [112,97,114,116,115]
noncomputable def J486:=sJZ [97,100,100,114,101,115,115]
noncomputable def J487:=sJZ [100,111,119,110]
noncomputable def J488:=sJZ [117,112]
noncomputable def J489:=sJZ [105,115,95,98,101,103,105,110]
noncomputable def J490:=sJZ [112,97,103,101,115,95,105,110]
noncomputable def J491:=sJZ [101,110,116,114,121]
noncomputable def J492:=sJZ [112,104,121,115,105,99,97,108]
noncomputable def J493:=sJZ [87,97,108,107,101,114,46,95,95,105,110,105,116,95,95]
noncomputable def J494:=sJZ [116,114,97,110,115,108,97,116,101]
noncomputable def J495:=sJZ [101,110,116,114,121,95,97,116]
noncomputable def J496:=sJZ [108,97,114,103,101,95,112,97,103,101]
noncomputable def J497:=sJZ [109,97,114,107]
noncomputable def J498:=sJZ [112,114,111,98,101]
noncomputable def lz:=sJZ [112,105,112,101,98,111,97,114,100,46,99,111,114,101]
noncomputable def J500:=sJZ [67,111,114,101,46,95,95,105,110,105,116,95,95]
noncomputable def J501:=sJZ [67,111,114,101,46,102,108,117,115,104]
noncomputable def EW:=sJZ [112,117,116]
noncomputable def J503:=sJZ [67,111,114,101,46,112,117,116]
noncomputable def E6:=sJZ [108,101,97,114,110]
noncomputable def J505:=sJZ [67,111,114,101,46,108,101,97,114,110]
noncomputable def EM:=sJZ [101,120,101,99,117,116,101]
noncomputable def J507:=sJZ [67,111,114,101,46,101,120,101,99,117,116,101]
noncomputable def C3:=sJZ [101,120,101,99,117,116,101,95,114,101,115,116]
noncomputable def J509:=sJZ [67,111,114,101,46,101,120,101,99,117,116,101,95,114,101,115,116]
noncomputable def CR:=sJZ [99,104,97,110,103,101]
noncomputable def J511:=sJZ [67,111,114,101,46,99,104,97,110,103,101]
noncomputable def J512:=sJZ [114,101,115,117,109,101]
noncomputable def Ah:=sJZ [112,108,97,99,101]
noncomputable def J514:=sJZ [106,117,109,112]
noncomputable def J515:=sJZ [108,101,97,118,101]
noncomputable def J516:=sJZ [116,114,97,112]
noncomputable def J517:=sJZ [115,116,101,112]
noncomputable def J518:=sJZ [114,117,110]
noncomputable def J519:=sJZ [117,110,116,105,108,95,116,114,97,112]
noncomputable def J520:=sJZ [83,104,97,112,101,46,95,95,105,110,105,116,95,95]
noncomputable def vl:=sJZ [115,104,97,112,101]
noncomputable def kr:=sJZ [75,110,111,119,110,46]
noncomputable def vn:=sJZ [110,117,109,98,101,114]
noncomputable def DA:=sJZ [95,95,109,97,105,110,95,95]
noncomputable def J525:=sJZ [60,109,111,100,117,108,101,62]
noncomputable def o0(P:Params):Obj:=dO [(kS P J0 1 (.str J1 160)),(kS P J2 2 (.builtin "builtins.__doc__:str#opaque")),(kS P J3 3 (.builtin "builtins.__package__:str#opaque")),(kS P J4 4 (.builtin "builtins.__loader__:shared#opaque")),(kS P J5 5 (.builtin "builtins.__spec__#opaque")),(kS P J6 6 (.builtin "__build_class__")),(kS P J7 7 (.builtin "__import__")),(kS P J8 8 (.builtin "abs")),(kS P J9 9 (.builtin "all")),(kS P J10 10 (.builtin "any")),(kS P J11 11 (.builtin "ascii")),(kS P J12 12 (.builtin "bin")),(kS P J13 13 (.builtin "breakpoint")),(kS P J14 14 (.builtin "callable")),(kS P J15 15 (.builtin "chr")),(kS P J16 16 (.builtin "compile")),(kS P J17 17 (.builtin "delattr")),(kS P J18 18 (.builtin "dir")),(kS P J19 19 (.builtin "divmod")),(kS P J20 20 (.builtin "eval")),(kS P J21 21 (.builtin "exec")),(kS P J22 22 (.builtin "format")),(kS P J23 23 (.builtin "getattr")),(kS P J24 24 (.builtin "globals")),(kS P J25 25 (.builtin "hasattr")),(kS P J26 26 (.builtin "hash")),(kS P J27 27 (.builtin "hex")),(kS P J28 28 (.builtin "id")),(kS P J29 29 (.builtin "input")),(kS P J30 30 (.builtin "isinstance")),(kS P J31 31 (.builtin "issubclass")),(kS P J32 32 (.builtin "iter")),(kS P J33 33 (.builtin "aiter")),(kS P J34 34 (.builtin "len")),(kS P J35 35 (.builtin "locals")),(kS P J36 36 (.builtin "max")),(kS P J37 37 (.builtin "min")),(kS P J38 38 (.builtin "next")),(kS P J39 39 (.builtin "anext")),(kS P J40 40 (.builtin "oct")),(kS P J41 41 (.builtin "ord")),(kS P J42 42 (.builtin "pow")),(kS P J43 43 (.builtin "print")),(kS P J44 44 (.builtin "repr")),(kS P J45 45 (.builtin "round")),(kS P J46 46 (.builtin "setattr")),(kS P J47 47 (.builtin "sorted")),(kS P J48 48 (.builtin "sum")),(kS P J49 49 (.builtin "vars")),(kS P J50 50 .none),(kS P J51 51 .ellipsis),(kS P J52 52 .notImplemented),(kS P J53 53 (.bool false)),(kS P J54 54 (.bool true)),(kS P J55 55 (.type "bool")),(kS P J56 56 (.type "memoryview")),(kS P J57 57 (.type "bytearray")),(kS P J58 58 (.type "bytes")),(kS P J59 59 (.type "classmethod")),(kS P J60 60 (.type "complex")),(kS P J61 61 (.type "dict")),(kS P J62 62 (.type "enumerate")),(kS P J63 63 (.type "filter")),(kS P J64 64 (.type "float")),(kS P J65 65 (.type "frozenset")),(kS P J66 66 (.type "property")),(kS P J67 67 (.type "int")),(kS P J68 68 (.type "list")),(kS P J69 69 (.type "map")),(kS P J70 70 (.type "object")),(kS P J71 71 (.type "range")),(kS P J72 72 (.type "reversed")),(kS P J73 73 (.type "set")),(kS P J74 74 (.type "slice")),(kS P J75 75 (.type "staticmethod")),(kS P J76 76 (.type "str")),(kS P J77 77 (.type "super")),(kS P J78 78 (.type "tuple")),(kS P J79 79 (.type "type")),(kS P J80 80 (.type "zip")),(kS P J81 81 (.bool true)),(kS P J82 82 (.type "BaseException")),(kS P J83 83 (.type "BaseExceptionGroup")),(kS P J84 84 (.type "Exception")),(kS P J85 85 (.type "GeneratorExit")),(kS P J86 86 (.type "KeyboardInterrupt")),(kS P J87 87 (.type "SystemExit")),(kS P J88 88 (.type "ArithmeticError")),(kS P J89 89 (.type "AssertionError")),(kS P J90 90 (.type "AttributeError")),(kS P J91 91 (.type "BufferError")),(kS P J92 92 (.type "EOFError")),(kS P J93 93 (.type "ImportError")),(kS P J94 94 (.type "LookupError")),(kS P J95 95 (.type "MemoryError")),(kS P J96 96 (.type "NameError")),(kS P J97 97 (.type "OSError")),(kS P J98 98 (.type "ReferenceError")),(kS P J99 99 (.type "RuntimeError")),(kS P J100 100 (.type "StopAsyncIteration")),(kS P J101 101 (.type "StopIteration")),(kS P J102 102 (.type "SyntaxError")),(kS P J103 103 (.type "SystemError")),(kS P J104 104 (.type "TypeError")),(kS P J105 105 (.type "ValueError")),(kS P J106 106 (.type "Warning")),(kS P J107 107 (.type "FloatingPointError")),(kS P J108 108 (.type "OverflowError")),(kS P J109 109 (.type "ZeroDivisionError")),(kS P J110 110 (.type "BytesWarning")),(kS P J111 111 (.type "DeprecationWarning")),(kS P J112 112 (.type "EncodingWarning")),(kS P J113 113 (.type "FutureWarning")),(kS P J114 114 (.type "ImportWarning")),(kS P J115 115 (.type "PendingDeprecationWarning")),(kS P J116 116 (.type "ResourceWarning")),(kS P J117 117 (.type "RuntimeWarning")),(kS P J118 118 (.type "SyntaxWarning")),(kS P J119 119 (.type "UnicodeWarning")),(kS P J120 120 (.type "UserWarning")),(kS P J121 121 (.type "BlockingIOError")),(kS P J122 122 (.type "ChildProcessError")),(kS P J123 123 (.type "ConnectionError")),(kS P J124 124 (.type "FileExistsError")),(kS P J125 125 (.type "FileNotFoundError")),(kS P J126 126 (.type "InterruptedError")),(kS P J127 127 (.type "IsADirectoryError")),(kS P J128 128 (.type "NotADirectoryError")),(kS P J129 129 (.type "PermissionError")),(kS P J130 130 (.type "ProcessLookupError")),(kS P J131 131 (.type "TimeoutError")),(kS P J132 132 (.type "IndentationError")),(kS P J133 133 (.type "_IncompleteInputError")),(kS P J134 134 (.type "IndexError")),(kS P J135 135 (.type "KeyError")),(kS P J136 136 (.type "ModuleNotFoundError")),(kS P J137 137 (.type "NotImplementedError")),(kS P J138 138 (.type "PythonFinalizationError")),(kS P J139 139 (.type "RecursionError")),(kS P J140 140 (.type "UnboundLocalError")),(kS P J141 141 (.type "UnicodeError")),(kS P J142 142 (.type "BrokenPipeError")),(kS P J143 143 (.type "ConnectionAbortedError")),(kS P J144 144 (.type "ConnectionRefusedError")),(kS P J145 145 (.type "ConnectionResetError")),(kS P J146 146 (.type "TabError")),(kS P J147 147 (.type "UnicodeDecodeError")),(kS P J148 148 (.type "UnicodeEncodeError")),(kS P J149 149 (.type "UnicodeTranslateError")),(kS P J150 150 (.type "ExceptionGroup")),(kS P J151 151 (.type "OSError")),(kS P J152 152 (.type "OSError")),(kS P J153 153 (.builtin "open")),(kS P J154 154 (.builtin "builtins.quit#opaque")),(kS P J155 155 (.builtin "builtins.exit#opaque")),(kS P J156 156 (.builtin "builtins.copyright#opaque")),(kS P J157 157 (.builtin "builtins.credits#opaque")),(kS P J158 158 (.builtin "builtins.license#opaque")),(kS P J159 159 (.builtin "builtins.help#opaque"))] 159
noncomputable def o2(P:Params):Obj:=⟨.none,none,(.dict ⟨[]⟩ 0),⟨[]⟩⟩
noncomputable def o3(P:Params):Obj:=dO [(kS P J0 165 (.str l6 5529)),(kS P J2 166 .none),(kS P J3 167 .none),(kS P J4 168 (.builtin "__main__.__loader__#opaque")),(kS P J5 169 .none),(kS P DM 170 (.ref 6)),(kS P C2 171 (.ref 4)),(kS P DG 173 (.str az 172)),(kS P DJ 174 .none),(kS P J166 193 (.ref 21)),(kS P qF 223 (.ref 39)),(kS P J168 239 (.ref 52)),(kS P J169 264 (.ref 71)),(kS P rh 320 (.ref 91)),(kS P J171 431 (.ref 94)),(kS P J172 433 (.int 3 432)),(kS P J173 435 (.int 15 434)),(kS P J174 437 (.int 19 436)),(kS P J175 439 (.int 23 438)),(kS P J176 441 (.int 35 440)),(kS P J177 443 (.int 51 442)),(kS P J178 445 (.int 55 444)),(kS P J179 447 (.int 99 446)),(kS P J180 449 (.int 103 448)),(kS P J181 451 (.int 111 450)),(kS P J182 453 (.int 115 452)),(kS P qQ 504 (.ref 121)),(kS P qA 550 (.ref 150)),(kS P q5 564 (.ref 162)),(kS P q8 573 (.ref 169)),(kS P vc 3994 (.ref 1011)),(kS P J188 4049 (.ref 1016)),(kS P J189 4094 (.ref 1029)),(kS P vY 4101 (.ref 1044)),(kS P uO 4116 (.ref 1051)),(kS P J192 4123 (.ref 1058)),(kS P J193 4130 (.ref 1065)),(kS P va 4141 (.ref 1072)),(kS P J195 4149 (.ref 1079)),(kS P J196 4157 (.ref 1086)),(kS P uK 4168 (.ref 1093)),(kS P ua 4182 (.ref 1100)),(kS P J199 4186 (.int 4294967295 4185)),(kS P J200 4188 (.int 2147483648 4187)),(kS P J201 4190 (.int 4294967296 4189)),(kS P J202 4197 (.ref 1107)),(kS P J203 4206 (.ref 1114)),(kS P vR 4214 (.ref 1121)),(kS P yp 4222 (.ref 1128)),(kS P J206 4230 (.ref 1135)),(kS P J207 4238 (.ref 1142)),(kS P J208 4246 (.ref 1149)),(kS P J209 4254 (.ref 1156)),(kS P yw 4262 (.ref 1163)),(kS P zE 4270 (.ref 1170)),(kS P zx 4278 (.ref 1177)),(kS P za 4286 (.ref 1184)),(kS P yX 4294 (.ref 1191)),(kS P yP 4302 (.ref 1198)),(kS P zP 4313 (.ref 1205)),(kS P Aj 4324 (.ref 1212)),(kS P J218 4328 (.int 0 4327)),(kS P J219 4330 (.int 1 4329)),(kS P J220 4332 (.int 3 4331)),(kS P J221 4336 (.int 2147483648 4335)),(kS P J222 4340 (.int 2 4339)),(kS P J223 4344 (.int 8 4343)),(kS P J224 4348 (.int 32 4347)),(kS P J225 4352 (.int 128 4351)),(kS P J226 4356 (.int 256 4355)),(kS P J227 4358 (.int 11 4357)),(kS P J228 4361 (.int 6144 4360)),(kS P J229 4365 (.int 131072 4364)),(kS P J230 4369 (.int 262144 4368)),(kS P J231 4373 (.int 524288 4372)),(kS P J232 4382 (.int 924074 4381)),(kS P J233 4387 (.int 786722 4386)),(kS P J234 4389 (.int 1 4388)),(kS P J235 4391 (.int 3 4390)),(kS P J236 4393 (.int 5 4392)),(kS P J237 4395 (.int 7 4394)),(kS P J238 4397 (.int 9 4396)),(kS P J239 4399 (.int 11 4398)),(kS P J240 4400 (.ref 1213)),(kS P J241 4409 (.int 546 4408)),(kS P J242 4419 (.int 2730 4418)),(kS P J243 4421 (.int 46079 4420)),(kS P J244 4425 (.int 2147483648 4424)),(kS P J245 4431 (.int 4194303 4430)),(kS P J246 4433 (.int 2151677951 4432)),(kS P J247 4542 (.ref 1216)),(kS P J248 4544 (.int 7 4543)),(kS P J249 4564 (.int 1075056896 4563)),(kS P tM 4571 (.ref 1370)),(kS P wb 4578 (.ref 1377)),(kS P vQ 4585 (.ref 1384)),(kS P J253 4594 (.ref 1391)),(kS P vy 4812 (.ref 1544)),(kS P J255 4816 (.int 4 4815)),(kS P J256 4818 (.int 1 4817)),(kS P J257 4820 (.int 2 4819)),(kS P J258 4822 (.int 4 4821)),(kS P J259 4824 (.int 8 4823)),(kS P J260 4826 (.int 16 4825)),(kS P J261 4828 (.int 64 4827)),(kS P J262 4830 (.int 128 4829)),(kS P J263 4832 (.int 10 4831)),(kS P J264 4834 (.int 10 4833)),(kS P J265 4836 (.str J266 4835)),(kS P J267 4838 (.str J268 4837)),(kS P J269 4840 (.str J270 4839)),(kS P J271 4847 (.ref 1549)),(kS P J272 4854 (.ref 1550)),(kS P J273 4856 (.int 0 4855)),(kS P vC 4961 (.ref 1625)),(kS P J275 4968 (.ref 1636)),(kS P J276 4975 (.ref 1643)),(kS P J277 4986 (.ref 1650)),(kS P vF 5088 (.ref 1704)),(kS P J279 5092 (.int 0 5091)),(kS P J280 5094 (.int 1 5093)),(kS P J281 5096 (.int 2 5095)),(kS P J282 5100 (.ref 1709)),(kS P J283 5104 (.ref 1710)),(kS P J284 5106 (.int 0 5105)),(kS P J285 5108 (.int 1 5107)),(kS P J286 5110 (.int 2 5109)),(kS P J287 5112 (.int 3 5111)),(kS P J288 5114 (.int 4 5113)),(kS P J289 5116 (.int 5 5115)),(kS P J290 5124 (.ref 1717)),(kS P J291 5132 (.ref 1724)),(kS P J292 5140 (.ref 1731)),(kS P J293 5148 (.ref 1738)),(kS P J294 5156 (.ref 1745)),(kS P J295 5164 (.ref 1752)),(kS P J296 5172 (.ref 1759)),(kS P J297 5180 (.ref 1766)),(kS P J298 5188 (.ref 1773)),(kS P J299 5196 (.ref 1780)),(kS P J300 5215 (.ref 1781)),(kS P J301 5234 (.ref 1782)),(kS P J302 5262 (.ref 1783)),(kS P J303 5278 (.ref 1784)),(kS P J304 5288 (.ref 1790)),(kS P J305 5301 (.ref 1791)),(kS P uc 5309 (.ref 1798)),(kS P uy 5528 (.ref 1937)),(kS P vm 5538 (.ref 1948)),(kS P uw 5552 (.ref 1955)),(kS P tN 5561 (.ref 1962)),(kS P uU 5575 (.ref 1969)),(kS P uo 5581 (.ref 1974)),(kS P uP 5599 (.ref 1981)),(kS P v8 5608 (.ref 1988)),(kS P uZ 5614 (.ref 1993))] 156
noncomputable def o29(P:Params):Obj:=tO [(.str EK 208)]
noncomputable def o35(P:Params):Obj:=cO [(.str dm 209),(.str J318 210),(.str az 211),(.int 7 0),(.int 2 0),(.int 0 0),(.int 0 0),(.int 3 0),(.ref 30),(.bool true),(.int 181 0),(.ref 31),.none,(.ref 32),(.ref 33),(.ref 34),(.int 214 0),(.int 7 0),(.str az 215)]
noncomputable def o36(P:Params):Obj:=fO dm J318 (bR aF 2 0) (.ref 29) (.str zS 194) (.ref 35)
noncomputable def o38(P:Params):Obj:=dO [(kS P lR 203 (.str zS 194)),(kS P l4 207 (.int 5 206)),(kS P dm 216 (.ref 36)),(kS P lY 218 (.ref 37)),(kS P mx 220 (.ref 40)),(kS P J2 221 .none)] 3
noncomputable def o39(P:Params):Obj:=⟨(.type "type"),none,(.cls ⟨qF,[(.type "ValueError")],[(.ref 39),(.type "ValueError"),(.type "Exception"),(.type "BaseException"),(.type "object")],38,qF,true,[],[(.ref 52),(.ref 71),(.ref 91)],false,Option.none,false⟩),⟨[some (.ref 22),none,some (.str qF 196),some (.str qF 204),some (.builtin "ValueError.__new__"),some (.bool true)]⟩⟩
noncomputable def o81(P:Params):Obj:=tO [(.int 0 305)]
noncomputable def o87(P:Params):Obj:=cO [(.str dm 306),(.str J324 307),(.str az 308),(.int 33 0),(.int 3 0),(.int 0 0),(.int 0 0),(.int 3 0),(.ref 82),(.bool true),(.int 181 0),(.ref 83),.none,(.ref 84),(.ref 85),(.ref 86),(.int 312 0),(.int 33 0),(.str az 313)]
noncomputable def o88(P:Params):Obj:=fO dm J324 (bR aF 5 14) (.ref 81) (.str zS 194) (.ref 87)
noncomputable def o90(P:Params):Obj:=dO [(kS P lR 272 (.str zS 194)),(kS P l4 276 (.int 17 275)),(kS P J325 278 (.int 0 277)),(kS P J326 280 (.int 1 279)),(kS P J327 282 (.int 2 281)),(kS P J328 284 (.int 3 283)),(kS P J329 286 (.int 4 285)),(kS P J330 288 (.int 5 287)),(kS P J331 290 (.int 6 289)),(kS P J332 292 (.int 7 291)),(kS P J333 294 (.int 8 293)),(kS P J334 296 (.int 9 295)),(kS P J335 298 (.int 11 297)),(kS P J336 300 (.int 12 299)),(kS P J337 302 (.int 13 301)),(kS P J338 304 (.int 15 303)),(kS P dm 314 (.ref 88)),(kS P lY 317 (.ref 89)),(kS P J2 318 .none)] 2
noncomputable def o91(P:Params):Obj:=⟨(.type "type"),none,(.cls ⟨rh,[(.ref 39)],[(.ref 91),(.ref 39),(.type "ValueError"),(.type "Exception"),(.type "BaseException"),(.type "object")],90,rh,true,[],[],false,Option.none,false⟩),⟨[some (.ref 74),none,some (.str rh 265),some (.str rh 273),some (.builtin "ValueError.__new__"),some (.bool true)]⟩⟩
noncomputable def o104(P:Params):Obj:=tO [(.int 0 466),(.int 0 467),(.int 0 468),(.int 0 469),(.int 0 470)]
noncomputable def o110(P:Params):Obj:=cO [(.str dm 471),(.str J339 472),(.str az 473),(.int 52 0),(.int 7 0),(.int 0 0),(.int 0 0),(.int 3 0),(.ref 105),(.bool true),(.int 181 0),(.ref 106),.none,(.ref 107),(.ref 108),(.ref 109),(.int 481 0),(.int 52 0),(.str az 482)]
noncomputable def o111(P:Params):Obj:=fO dm J339 (bR aF 19 0) (.ref 104) (.str hF 321) (.ref 110)
noncomputable def o120(P:Params):Obj:=dO [(kS P lR 461 (.str hF 321)),(kS P l4 465 (.int 50 464)),(kS P dm 483 (.ref 111)),(kS P J341 490 (.ref 118)),(kS P lY 497 (.ref 119)),(kS P oP 499 (.ref 122)),(kS P mx 501 (.ref 123)),(kS P J2 502 .none)] 4
noncomputable def o121(P:Params):Obj:=⟨(.type "type"),none,(.cls ⟨qQ,[(.type "object")],[(.ref 121),(.type "object")],120,qQ,true,[],[],false,Option.none,false⟩),⟨[none,none,some (.str qQ 454),some (.str qQ 462),some (.builtin "object.__new__"),some (.bool true)]⟩⟩
noncomputable def qW(P:Params):Obj:=cO [(.str ER 531),(.str J344 532),(.str az 533),(.int 71 0),(.int 1 0),(.int 0 0),(.int 0 0),(.int 3 0),(.ref 141),(.bool true),(.int 181 0),(.ref 142),.none,(.ref 143),(.ref 144),(.ref 145),(.int 535 0),(.int 71 0),(.str az 536)]
noncomputable def qH(P:Params):Obj:=fO ER J344 (bR aF 20 1) .none (.str hF 321) (.ref 146)
noncomputable def ip(P:Params):Obj:=dO [(kS P lR 512 (.str hF 321)),(kS P l4 516 (.int 62 515)),(kS P dm 530 (.ref 140)),(kS P ER 537 (.ref 147)),(kS P lY 543 (.ref 148)),(kS P oP 545 (.ref 151)),(kS P mx 547 (.ref 152)),(kS P J2 548 .none)] 4
noncomputable def hM(P:Params):Obj:=⟨(.type "type"),none,(.cls ⟨qA,[(.type "object")],[(.ref 150),(.type "object")],149,qA,true,[],[],false,Option.none,false⟩),⟨[none,none,some (.str qA 505),some (.str qA 513),some (.builtin "object.__new__"),some (.bool true)]⟩⟩
noncomputable def C5(P:Params):Obj:=dO [(kS P dj 1762 (.str kL 1744)),(kS P jR 1764 (.str yS 1736)),(kS P oY 1766 (.int 115 452)),(kS P oM 1768 (.int 1 1751)),(kS P o8 1770 (.int 0 551))] 5
noncomputable def CW(P:Params):Obj:=iO 150 647
noncomputable def De(P:Params):Obj:=dO [(kS P dj 1782 (.str kz 1745)),(kS P jR 1784 (.str yS 1736)),(kS P oY 1786 (.int 115 452)),(kS P oM 1788 (.int 2 1771)),(kS P o8 1790 (.int 0 551))] 5
noncomputable def DQ(P:Params):Obj:=iO 150 654
noncomputable def DU(P:Params):Obj:=dO [(kS P dj 1802 (.str kG 1746)),(kS P jR 1804 (.str yS 1736)),(kS P oY 1806 (.int 115 452)),(kS P oM 1808 (.int 3 1791)),(kS P o8 1810 (.int 0 551))] 5
noncomputable def Dg(P:Params):Obj:=iO 150 661
noncomputable def Ep(P:Params):Obj:=dO [(kS P dj 1858 (.str kv 1824)),(kS P jR 1860 (.str tL 1812)),(kS P oY 1862 (.int 115 452)),(kS P oM 1864 (.int 5 1847)),(kS P o8 1866 (.int 0 551))] 5
noncomputable def D6(P:Params):Obj:=iO 150 695
noncomputable def DO(P:Params):Obj:=dO [(kS P dj 1878 (.str kM 1825)),(kS P jR 1880 (.str tL 1812)),(kS P oY 1882 (.int 115 452)),(kS P oM 1884 (.int 6 1867)),(kS P o8 1886 (.int 0 551))] 5
noncomputable def D4(P:Params):Obj:=iO 150 702
noncomputable def Do(P:Params):Obj:=dO [(kS P dj 1898 (.str kJ 1826)),(kS P jR 1900 (.str tL 1812)),(kS P oY 1902 (.int 115 452)),(kS P oM 1904 (.int 7 1887)),(kS P o8 1906 (.int 0 551))] 5
noncomputable def EL(P:Params):Obj:=iO 150 709
noncomputable def Dk(P:Params):Obj:=dO [(kS P qN 586 (.ref 179)),(kS P qy 604 (.ref 182)),(kS P qD 622 (.ref 185)),(kS P qz 640 (.ref 188)),(kS P CV 667 (.ref 201)),(kS P ET 668 (.ref 208)),(kS P EB 671 (.ref 223)),(kS P EA 672 (.ref 230)),(kS P E0 673 (.ref 237)),(kS P EF 674 (.ref 244)),(kS P Et 811 (.ref 258)),(kS P D8 812 (.ref 265)),(kS P Em 813 (.ref 272)),(kS P ED 815 (.ref 283)),(kS P Ev 816 (.ref 290)),(kS P CK 929 (.ref 304)),(kS P Ea 930 (.ref 311)),(kS P CN 931 (.ref 318)),(kS P Dd 1000 (.ref 332)),(kS P Ey 1002 (.ref 343)),(kS P Du 1003 (.ref 350)),(kS P Dx 1004 (.ref 357)),(kS P Ei 1006 (.ref 368)),(kS P E5 1007 (.ref 375)),(kS P DF 1145 (.ref 393)),(kS P EP 1149 (.ref 412)),(kS P EC 1220 (.ref 446)),(kS P vR 1269 (.ref 460)),(kS P zA 1270 (.ref 467)),(kS P yO 1271 (.ref 474)),(kS P xK 1272 (.ref 481)),(kS P zJ 1273 (.ref 488)),(kS P zF 1274 (.ref 495)),(kS P yE 1275 (.ref 502)),(kS P yL 1276 (.ref 509)),(kS P yp 1446 (.ref 523)),(kS P yG 1451 (.ref 546)),(kS P yw 1517 (.ref 560)),(kS P zE 1518 (.ref 567)),(kS P zx 1519 (.ref 574)),(kS P za 1520 (.ref 581)),(kS P zP 1521 (.ref 588)),(kS P yX 1522 (.ref 595)),(kS P Aj 1523 (.ref 602)),(kS P yP 1524 (.ref 609)),(kS P qY 1693 (.ref 623)),(kS P J394 1694 (.ref 630)),(kS P kL 1744 (.ref 648)),(kS P kz 1745 (.ref 655)),(kS P kG 1746 (.ref 662)),(kS P kv 1824 (.ref 696)),(kS P kM 1825 (.ref 703)),(kS P kJ 1826 (.ref 710)),(kS P qL 1907 (.ref 715)),(kS P q6 1927 (.ref 728)),(kS P rf 1929 (.ref 734)),(kS P J398 1931 (.ref 740)),(kS P J399 1933 (.ref 746)),(kS P J400 1935 (.ref 752))] 59
noncomputable def DC(P:Params):Obj:=dO [(kI 55 444 (.ref 179)),(kI 23 438 (.ref 182)),(kI 111 450 (.ref 185))] 3
noncomputable def CJ(P:Params):Obj:=dO [(kI 103 2510 (.ref 188)),(kI 99 2529 (.ref 201)),(kI 4195 2548 (.ref 208)),(kI 16483 2567 (.ref 223)),(kI 20579 2586 (.ref 230)),(kI 24675 2605 (.ref 237)),(kI 28771 2624 (.ref 244)),(kI 3 2643 (.ref 258)),(kI 4099 2662 (.ref 265)),(kI 8195 2681 (.ref 272)),(kI 16387 2700 (.ref 283)),(kI 20483 2719 (.ref 290)),(kI 35 2738 (.ref 304)),(kI 4131 2757 (.ref 311)),(kI 8227 2776 (.ref 318)),(kI 19 2795 (.ref 332)),(kI 8211 2814 (.ref 343)),(kI 12307 2833 (.ref 350)),(kI 16403 2852 (.ref 357)),(kI 24595 2871 (.ref 368)),(kI 28691 2890 (.ref 375)),(kI 15 3077 (.ref 623)),(kI 4111 3096 (.ref 630)),(kI 4211 3115 (.ref 648)),(kI 8307 3134 (.ref 655)),(kI 12403 3153 (.ref 662)),(kI 20595 3172 (.ref 696)),(kI 24691 3191 (.ref 703)),(kI 28787 3210 (.ref 710))] 29
noncomputable def Hk(P:Params):Obj:=dO [(kS P lR 581 (.str hF 321)),(kS P l4 585 (.int 97 584)),(kS P J401 2047 (.ref 190)),(kS P J289 2225 (.ref 757)),(kS P J402 2468 (.ref 762)),(kS P J403 3260 (.ref 826)),(kS P J404 3798 (.ref 919)),(kS P J201 3986 (.ref 1005)),(kS P lY 3987 (.ref 1009)),(kS P oP 3989 (.ref 1012)),(kS P mx 3991 (.ref 1013)),(kS P J2 3992 .none)] 4
noncomputable def HD(P:Params):Obj:=⟨(.type "type"),none,(.cls ⟨vc,[(.type "object")],[(.ref 1011),(.type "object")],1010,vc,true,[],[],false,Option.none,false⟩),⟨[none,none,some (.str vc 574),some (.str vc 582),some (.builtin "object.__new__"),some (.bool true)]⟩⟩
noncomputable def Gx(P:Params):Obj:=dO [(kS P eN 3995 (.ref 1017)),(kS P iv 3999 (.ref 1018)),(kS P ug 4003 (.ref 1019)),(kS P mD 4007 (.ref 1020)),(kS P xV 4011 (.ref 1021)),(kS P Dr 4014 (.ref 1022)),(kS P uC 4017 (.ref 1023)),(kS P qY 4021 (.ref 1024)),(kS P yS 4025 (.ref 1025)),(kS P tL 4029 (.ref 1026)),(kS P uY 4033 (.ref 1027)),(kS P qV 4036 (.ref 1028))] 12
noncomputable def GD(P:Params):Obj:=tO [(.str gK 4026),(.str lD 4027),(.str gq 4028)]
noncomputable def FB(P:Params):Obj:=tO [(.str gK 4030),(.str iG 4031),(.str gq 4032)]
noncomputable def Gz(P:Params):Obj:=dO [(kS P iv 4050 (.ref 1030)),(kS P ug 4055 (.ref 1031)),(kS P mD 4060 (.ref 1032)),(kS P xV 4065 (.ref 1033)),(kS P Dr 4069 (.ref 1034)),(kS P uC 4074 (.ref 1035)),(kS P qY 4078 (.ref 1036)),(kS P tL 4082 (.ref 1037))] 8
noncomputable def Hw(P:Params):Obj:=tO [(.int 0 4083),(.int 31 4084),(.int 1 4085)]
noncomputable def FE(P:Params):Obj:=cO [(.str vY 4095),(.str vY 4096),(.str az 4097),(.int 106 0),(.int 1 0),(.int 0 0),(.int 0 0),(.int 3 0),(.ref 1038),(.bool true),(.int 181 0),(.ref 1039),.none,(.ref 1040),(.ref 1041),(.ref 1042),(.int 4099 0),(.int 106 0),(.str az 4100)]
noncomputable def GG(P:Params):Obj:=fO vY vY (db aF 26) .none (.str hF 321) (.ref 1043)
noncomputable def FJ(P:Params):Obj:=cO [(.str uO 4102),(.str uO 4103),(.str az 4104),(.int 110 0),(.int 2 0),(.int 0 0),(.int 0 0),(.int 3 0),(.ref 1045),(.bool true),(.int 181 0),(.ref 1046),.none,(.ref 1047),(.ref 1048),(.ref 1049),(.int 4114 0),(.int 110 0),(.str az 4115)]
noncomputable def Ho(P:Params):Obj:=fO uO uO (db aF 27) .none (.str hF 321) (.ref 1050)
noncomputable def Hx(P:Params):Obj:=cO [(.str va 4131),(.str va 4132),(.str az 4133),(.int 129 0),(.int 1 0),(.int 0 0),(.int 0 0),(.int 3 0),(.ref 1066),(.bool true),(.int 181 0),(.ref 1067),.none,(.ref 1068),(.ref 1069),(.ref 1070),(.int 4139 0),(.int 129 0),(.str az 4140)]
noncomputable def Fz(P:Params):Obj:=fO va va (db aF 30) .none (.str hF 321) (.ref 1071)
noncomputable def G9(P:Params):Obj:=cO [(.str uK 4158),(.str uK 4159),(.str az 4160),(.int 155 0),(.int 1 0),(.int 0 0),(.int 0 0),(.int 3 0),(.ref 1087),(.bool true),(.int 181 0),(.ref 1088),.none,(.ref 1089),(.ref 1090),(.ref 1091),(.int 4166 0),(.int 155 0),(.str az 4167)]
noncomputable def Fk(P:Params):Obj:=fO uK uK (db aF 33) .none (.str hF 321) (.ref 1092)
noncomputable def Hi(P:Params):Obj:=cO [(.str ua 4169),(.str ua 4170),(.str az 4171),(.int 167 0),(.int 1 0),(.int 0 0),(.int 0 0),(.int 3 0),(.ref 1094),(.bool true),(.int 181 0),(.ref 1095),.none,(.ref 1096),(.ref 1097),(.ref 1098),(.int 4180 0),(.int 167 0),(.str az 4181)]
noncomputable def FH(P:Params):Obj:=fO ua ua (db aF 34) .none (.str hF 321) (.ref 1099)
noncomputable def nW(P:Params):Obj:=dO [(kI 256 324 (.str J418 323)),(kI 260 327 (.str J419 326)),(kI 261 330 (.str J420 329)),(kI 262 333 (.str J421 332)),(kI 320 336 (.str J422 335)),(kI 321 339 (.str J423 338)),(kI 322 342 (.str J424 341)),(kI 323 345 (.str J425 344)),(kI 324 348 (.str J426 347)),(kI 384 351 (.str zk 350)),(kI 768 354 (.str J428 353)),(kI 769 357 (.str J429 356)),(kI 770 360 (.str J430 359)),(kI 771 363 (.str J431 362)),(kI 772 366 (.str J432 365)),(kI 773 369 (.str J433 368)),(kI 774 372 (.str J434 371)),(kI 832 375 (.str J435 374)),(kI 833 378 (.str J436 377)),(kI 834 381 (.str J437 380)),(kI 835 384 (.str J438 383)),(kI 836 387 (.str J439 386)),(kI 2816 390 (.str J440 389)),(kI 2818 393 (.str J441 392)),(kI 2944 396 (.str J442 395)),(kI 2946 399 (.str J443 398)),(kI 3072 402 (.str J444 401)),(kI 3073 405 (.str vg 404)),(kI 3074 408 (.str J446 407)),(kI 3200 411 (.str J447 410)),(kI 3201 414 (.str J448 413)),(kI 3202 417 (.str J449 416)),(kI 3857 420 (.str J450 419)),(kI 3858 423 (.str J451 422)),(kI 3859 426 (.str J452 425)),(kI 3860 428 (.str zW 427))] 36
noncomputable def FF(P:Params):Obj:=cO [(.str tM 4565),(.str tM 4566),(.str az 4567),(.int 277 0),(.int 1 0),(.int 0 0),(.int 0 0),(.int 3 0),(.ref 1364),(.bool true),(.int 181 0),(.ref 1365),.none,(.ref 1366),(.ref 1367),(.ref 1368),(.int 4569 0),(.int 277 0),(.str az 4570)]
noncomputable def Hm(P:Params):Obj:=fO tM tM (db aF 88) .none (.str hZ 4325) (.ref 1369)
noncomputable def GV(P:Params):Obj:=cO [(.str wb 4572),(.str wb 4573),(.str az 4574),(.int 279 0),(.int 1 0),(.int 0 0),(.int 0 0),(.int 3 0),(.ref 1371),(.bool true),(.int 181 0),(.ref 1372),.none,(.ref 1373),(.ref 1374),(.ref 1375),(.int 4576 0),(.int 279 0),(.str az 4577)]
noncomputable def Fh(P:Params):Obj:=fO wb wb (db aF 89) .none (.str hZ 4325) (.ref 1376)
noncomputable def GP(P:Params):Obj:=cO [(.str vQ 4579),(.str vQ 4580),(.str az 4581),(.int 281 0),(.int 1 0),(.int 0 0),(.int 0 0),(.int 3 0),(.ref 1378),(.bool true),(.int 181 0),(.ref 1379),.none,(.ref 1380),(.ref 1381),(.ref 1382),(.int 4583 0),(.int 281 0),(.str az 4584)]
noncomputable def GY(P:Params):Obj:=fO vQ vQ (db aF 90) .none (.str hZ 4325) (.ref 1383)
noncomputable def GW(P:Params):Obj:=tO [(.int 0 4607)]
noncomputable def HE(P:Params):Obj:=cO [(.str dm 4608),(.str J455 4609),(.str az 4610),(.int 290 0),(.int 2 0),(.int 0 0),(.int 0 0),(.int 3 0),(.ref 1400),(.bool true),(.int 181 0),(.ref 1401),.none,(.ref 1402),(.ref 1403),(.ref 1404),(.int 4613 0),(.int 290 0),(.str az 4614)]
noncomputable def Hv(P:Params):Obj:=fO dm J455 (bR aF 92 0) (.ref 1399) (.str hZ 4325) (.ref 1405)
noncomputable def Gp(P:Params):Obj:=cO [(.str vg 4616),(.str J456 4617),(.str az 4618),(.int 303 0),(.int 1 0),(.int 0 0),(.int 0 0),(.int 3 0),(.ref 1407),(.bool true),(.int 181 0),(.ref 1408),.none,(.ref 1409),(.ref 1410),(.ref 1411),(.int 4620 0),(.int 303 0),(.str az 4621)]
noncomputable def Fa(P:Params):Obj:=fO vg J456 (bR aF 92 1) .none (.str hZ 4325) (.ref 1412)
noncomputable def GJ(P:Params):Obj:=cO [(.str DN 4623),(.str J458 4624),(.str az 4625),(.int 306 0),(.int 3 0),(.int 0 0),(.int 0 0),(.int 3 0),(.ref 1414),(.bool true),(.int 181 0),(.ref 1415),.none,(.ref 1416),(.ref 1417),(.ref 1418),(.int 4630 0),(.int 306 0),(.str az 4631)]
noncomputable def Gl(P:Params):Obj:=fO DN J458 (bR aF 92 2) .none (.str hZ 4325) (.ref 1419)
noncomputable def G0(P:Params):Obj:=tO [(.int 3 4331)]
noncomputable def F9(P:Params):Obj:=cO [(.str DR 4633),(.str J460 4634),(.str az 4635),(.int 314 0),(.int 3 0),(.int 0 0),(.int 0 0),(.int 3 0),(.ref 1422),(.bool true),(.int 181 0),(.ref 1423),.none,(.ref 1424),(.ref 1425),(.ref 1426),(.int 4639 0),(.int 314 0),(.str az 4640)]
noncomputable def FZ(P:Params):Obj:=fO DR J460 (bR aF 92 3) (.ref 1421) (.str hZ 4325) (.ref 1427)
noncomputable def Ha(P:Params):Obj:=cO [(.str DZ 4642),(.str J462 4643),(.str az 4644),(.int 330 0),(.int 2 0),(.int 0 0),(.int 0 0),(.int 3 0),(.ref 1429),(.bool true),(.int 181 0),(.ref 1430),.none,(.ref 1431),(.ref 1432),(.ref 1433),(.int 4647 0),(.int 330 0),(.str az 4648)]
noncomputable def Gq(P:Params):Obj:=fO DZ J462 (bR aF 92 4) .none (.str hZ 4325) (.ref 1434)
noncomputable def Gu(P:Params):Obj:=cO [(.str Ef 4650),(.str J464 4651),(.str az 4652),(.int 341 0),(.int 2 0),(.int 0 0),(.int 0 0),(.int 3 0),(.ref 1436),(.bool true),(.int 181 0),(.ref 1437),.none,(.ref 1438),(.ref 1439),(.ref 1440),(.int 4656 0),(.int 341 0),(.str az 4657)]
noncomputable def Gb(P:Params):Obj:=fO Ef J464 (bR aF 92 5) .none (.str hZ 4325) (.ref 1441)
noncomputable def Hd(P:Params):Obj:=tO [(.int 3 4331)]
noncomputable def Gi(P:Params):Obj:=cO [(.str D1 4659),(.str J466 4660),(.str az 4661),(.int 347 0),(.int 4 0),(.int 0 0),(.int 0 0),(.int 3 0),(.ref 1444),(.bool true),(.int 181 0),(.ref 1445),.none,(.ref 1446),(.ref 1447),(.ref 1448),(.int 4667 0),(.int 347 0),(.str az 4668)]
noncomputable def Fn(P:Params):Obj:=fO D1 J466 (bR aF 92 6) (.ref 1443) (.str hZ 4325) (.ref 1449)
noncomputable def GI(P:Params):Obj:=cO [(.str D3 4670),(.str J468 4671),(.str az 4672),(.int 368 0),(.int 3 0),(.int 0 0),(.int 0 0),(.int 3 0),(.ref 1451),(.bool true),(.int 181 0),(.ref 1452),.none,(.ref 1453),(.ref 1454),(.ref 1455),(.int 4676 0),(.int 368 0),(.str az 4677)]
noncomputable def Fq(P:Params):Obj:=fO D3 J468 (bR aF 92 7) .none (.str hZ 4325) (.ref 1456)
noncomputable def GR(P:Params):Obj:=cO [(.str Dm 4679),(.str J470 4680),(.str az 4681),(.int 375 0),(.int 3 0),(.int 0 0),(.int 0 0),(.int 3 0),(.ref 1458),(.bool true),(.int 181 0),(.ref 1459),.none,(.ref 1460),(.ref 1461),(.ref 1462),(.int 4685 0),(.int 375 0),(.str az 4686)]
noncomputable def Gc(P:Params):Obj:=fO Dm J470 (bR aF 92 8) .none (.str hZ 4325) (.ref 1463)
noncomputable def Gt(P:Params):Obj:=cO [(.str Ex 4688),(.str J472 4689),(.str az 4690),(.int 387 0),(.int 3 0),(.int 0 0),(.int 0 0),(.int 3 0),(.ref 1465),(.bool true),(.int 181 0),(.ref 1466),.none,(.ref 1467),(.ref 1468),(.ref 1469),(.int 4696 0),(.int 387 0),(.str az 4697)]
noncomputable def F7(P:Params):Obj:=fO Ex J472 (bR aF 92 9) .none (.str hZ 4325) (.ref 1470)
noncomputable def FC(P:Params):Obj:=dO [(kS P lR 4602 (.str hZ 4325)),(kS P l4 4606 (.int 288 4605)),(kS P dm 4615 (.ref 1406)),(kS P vg 4622 (.ref 1413)),(kS P DN 4632 (.ref 1420)),(kS P DR 4641 (.ref 1428)),(kS P DZ 4649 (.ref 1435)),(kS P Ef 4658 (.ref 1442)),(kS P D1 4669 (.ref 1450)),(kS P D3 4678 (.ref 1457)),(kS P Dm 4687 (.ref 1464)),(kS P Ex 4698 (.ref 1471)),(kS P J473 4707 (.ref 1478)),(kS P J474 4720 (.ref 1485)),(kS P J475 4730 (.ref 1492)),(kS P J476 4742 (.ref 1499)),(kS P J477 4752 (.ref 1506)),(kS P J478 4761 (.ref 1513)),(kS P J479 4770 (.ref 1520)),(kS P J480 4778 (.ref 1527)),(kS P J481 4785 (.ref 1534)),(kS P J482 4793 (.ref 1541)),(kS P lY 4805 (.ref 1542)),(kS P oP 4807 (.ref 1545)),(kS P mx 4809 (.ref 1546)),(kS P J2 4810 .none)] 4
noncomputable def F2(P:Params):Obj:=⟨(.type "type"),none,(.cls ⟨vy,[(.type "object")],[(.ref 1544),(.type "object")],1543,vy,true,[],[],false,Option.none,false⟩),⟨[none,none,some (.str vy 4595),some (.str vy 4603),some (.builtin "object.__new__"),some (.bool true)]⟩⟩
noncomputable def Ge(P:Params):Obj:=tO [(.int 12 4869)]
noncomputable def Fu(P:Params):Obj:=cO [(.str dm 4870),(.str J483 4871),(.str az 4872),(.int 480 0),(.int 2 0),(.int 0 0),(.int 0 0),(.int 3 0),(.ref 1559),(.bool true),(.int 181 0),(.ref 1560),.none,(.ref 1561),(.ref 1562),(.ref 1563),(.int 4875 0),(.int 480 0),(.str az 4876)]
noncomputable def Ht(P:Params):Obj:=fO dm J483 (bR aF 110 0) (.ref 1558) (.str zj 4813) (.ref 1564)
noncomputable def Fc(P:Params):Obj:=dO [(kS P lR 4864 (.str zj 4813)),(kS P l4 4868 (.int 478 4867)),(kS P dm 4877 (.ref 1565)),(kS P J485 4886 (.ref 1572)),(kS P J486 4897 (.ref 1580)),(kS P J487 4905 (.ref 1587)),(kS P J488 4913 (.ref 1594)),(kS P J489 4921 (.ref 1601)),(kS P J490 4930 (.ref 1608)),(kS P J491 4939 (.ref 1615)),(kS P J492 4947 (.ref 1622)),(kS P lY 4954 (.ref 1623)),(kS P oP 4956 (.ref 1626)),(kS P mx 4958 (.ref 1627)),(kS P J2 4959 .none)] 4
noncomputable def FK(P:Params):Obj:=⟨(.type "type"),none,(.cls ⟨vC,[(.type "object")],[(.ref 1625),(.type "object")],1624,vC,true,[],[],false,Option.none,false⟩),⟨[none,none,some (.str vC 4857),some (.str vC 4865),some (.builtin "object.__new__"),some (.bool true)]⟩⟩
noncomputable def Gs(P:Params):Obj:=cO [(.str dm 4999),(.str J493 5000),(.str az 5001),(.int 532 0),(.int 3 0),(.int 0 0),(.int 0 0),(.int 3 0),(.ref 1658),(.bool true),(.int 181 0),(.ref 1659),.none,(.ref 1660),(.ref 1661),(.ref 1662),(.int 5005 0),(.int 532 0),(.str az 5006)]
noncomputable def E8(P:Params):Obj:=fO dm J493 (bR aF 114 0) .none (.str zj 4813) (.ref 1663)
noncomputable def Gf(P:Params):Obj:=dO [(kS P lR 4994 (.str zj 4813)),(kS P l4 4998 (.int 530 4997)),(kS P dm 5007 (.ref 1664)),(kS P J494 5025 (.ref 1672)),(kS P J495 5036 (.ref 1679)),(kS P J496 5051 (.ref 1686)),(kS P J497 5063 (.ref 1693)),(kS P J498 5078 (.ref 1701)),(kS P lY 5081 (.ref 1702)),(kS P oP 5083 (.ref 1705)),(kS P mx 5085 (.ref 1706)),(kS P J2 5086 .none)] 4
noncomputable def FL(P:Params):Obj:=⟨(.type "type"),none,(.cls ⟨vF,[(.type "object")],[(.ref 1704),(.type "object")],1703,vF,true,[],[],false,Option.none,false⟩),⟨[none,none,some (.str vF 4987),some (.str vF 4995),some (.builtin "object.__new__"),some (.bool true)]⟩⟩
noncomputable def yB(P:Params):Obj:=tO [(.int 256 5101),(.int 384 5102),(.int 768 5103)]
noncomputable def GX(P:Params):Obj:=dO [(kS P vR 5197 (.ref 1121)),(kS P zA 5198 (.ref 1135)),(kS P yO 5199 (.ref 1738)),(kS P xK 5200 (.ref 1745)),(kS P zJ 5201 (.ref 1731)),(kS P zF 5202 (.ref 1142)),(kS P yG 5203 (.ref 1149)),(kS P yE 5204 (.ref 1724)),(kS P yL 5205 (.ref 1717))] 9
noncomputable def HA(P:Params):Obj:=dO [(kS P yp 5216 (.ref 1128)),(kS P yw 5217 (.ref 1163)),(kS P zE 5218 (.ref 1170)),(kS P zx 5219 (.ref 1177)),(kS P za 5220 (.ref 1184)),(kS P zP 5221 (.ref 1205)),(kS P yX 5222 (.ref 1191)),(kS P Aj 5223 (.ref 1212)),(kS P yP 5224 (.ref 1198))] 9
noncomputable def Gr(P:Params):Obj:=dO [(kS P Dd 5235 (.str vR 5236)),(kS P DF 5237 (.str zA 5238)),(kS P Ey 5239 (.str yO 5240)),(kS P Du 5241 (.str xK 5242)),(kS P Dx 5243 (.str zJ 5244)),(kS P EP 5245 (.str zF 5246)),(kS P EC 5247 (.str yG 5248)),(kS P Ei 5249 (.str yE 5250)),(kS P E5 5251 (.str yL 5252))] 9
noncomputable def FA(P:Params):Obj:=dO [(kS P Et 5263 (.ref 1785)),(kS P D8 5265 (.ref 1786)),(kS P Em 5267 (.ref 1787)),(kS P ED 5269 (.ref 1788)),(kS P Ev 5271 (.ref 1789))] 5
noncomputable def GT(P:Params):Obj:=dO [(kS P CK 5279 (.int 1 5280)),(kS P Ea 5281 (.int 2 5282)),(kS P CN 5283 (.int 4 5284))] 3
noncomputable def FW(P:Params):Obj:=dO [(kS P CV 5289 (.ref 1752)),(kS P ET 5290 (.ref 1759)),(kS P EB 5291 (.ref 1156)),(kS P EA 5292 (.ref 1766)),(kS P E0 5293 (.ref 1773)),(kS P EF 5294 (.ref 1780))] 6
noncomputable def Fm(P:Params):Obj:=cO [(.str uc 5302),(.str uc 5303),(.str az 5304),(.int 615 0),(.int 1 0),(.int 0 0),(.int 0 0),(.int 3 0),(.ref 1792),(.bool true),(.int 181 0),(.ref 1793),.none,(.ref 1794),(.ref 1795),(.ref 1796),(.int 5307 0),(.int 615 0),(.str az 5308)]
noncomputable def GC(P:Params):Obj:=fO uc uc (db aF 143) .none (.str lz 5089) (.ref 1797)
noncomputable def FO(P:Params):Obj:=tO [(.int 0 5322)]
noncomputable def Hj(P:Params):Obj:=cO [(.str dm 5323),(.str J500 5324),(.str az 5325),(.int 632 0),(.int 4 0),(.int 0 0),(.int 0 0),(.int 3 0),(.ref 1807),(.bool true),(.int 181 0),(.ref 1808),.none,(.ref 1809),(.ref 1810),(.ref 1811),(.int 5330 0),(.int 632 0),(.str az 5331)]
noncomputable def FD(P:Params):Obj:=fO dm J500 (bR aF 144 0) (.ref 1806) (.str lz 5089) (.ref 1812)
noncomputable def Fb(P:Params):Obj:=cO [(.str uY 5333),(.str J501 5334),(.str az 5335),(.int 643 0),(.int 1 0),(.int 0 0),(.int 0 0),(.int 3 0),(.ref 1814),(.bool true),(.int 181 0),(.ref 1815),.none,(.ref 1816),(.ref 1817),(.ref 1818),(.int 5337 0),(.int 643 0),(.str az 5338)]
noncomputable def HI(P:Params):Obj:=fO uY J501 (bR aF 144 1) .none (.str lz 5089) (.ref 1819)
noncomputable def FT(P:Params):Obj:=cO [(.str EW 5351),(.str J503 5352),(.str az 5353),(.int 649 0),(.int 3 0),(.int 0 0),(.int 0 0),(.int 3 0),(.ref 1829),(.bool true),(.int 181 0),(.ref 1830),.none,(.ref 1831),(.ref 1832),(.ref 1833),(.int 5357 0),(.int 649 0),(.str az 5358)]
noncomputable def E7(P:Params):Obj:=fO EW J503 (bR aF 144 3) .none (.str lz 5089) (.ref 1834)
noncomputable def Gy(P:Params):Obj:=cO [(.str E6 5407),(.str J505 5408),(.str az 5409),(.int 696 0),(.int 2 0),(.int 0 0),(.int 0 0),(.int 3 0),(.ref 1864),(.bool true),(.int 181 0),(.ref 1865),.none,(.ref 1866),(.ref 1867),(.ref 1868),(.int 5413 0),(.int 696 0),(.str az 5414)]
noncomputable def FR(P:Params):Obj:=fO E6 J505 (bR aF 144 8) .none (.str lz 5089) (.ref 1869)
noncomputable def Fy(P:Params):Obj:=cO [(.str EM 5416),(.str J507 5417),(.str az 5418),(.int 704 0),(.int 2 0),(.int 0 0),(.int 0 0),(.int 3 0),(.ref 1871),(.bool true),(.int 181 0),(.ref 1872),.none,(.ref 1873),(.ref 1874),(.ref 1875),(.int 5427 0),(.int 704 0),(.str az 5428)]
noncomputable def FG(P:Params):Obj:=fO EM J507 (bR aF 144 9) .none (.str lz 5089) (.ref 1876)
noncomputable def Gd(P:Params):Obj:=cO [(.str C3 5438),(.str J509 5439),(.str az 5440),(.int 731 0),(.int 3 0),(.int 0 0),(.int 0 0),(.int 3 0),(.ref 1885),(.bool true),(.int 181 0),(.ref 1886),.none,(.ref 1887),(.ref 1888),(.ref 1889),(.int 5446 0),(.int 731 0),(.str az 5447)]
noncomputable def Hy(P:Params):Obj:=fO C3 J509 (bR aF 144 11) .none (.str lz 5089) (.ref 1890)
noncomputable def Fv(P:Params):Obj:=cO [(.str CR 5449),(.str J511 5450),(.str az 5451),(.int 762 0),(.int 3 0),(.int 0 0),(.int 0 0),(.int 3 0),(.ref 1892),(.bool true),(.int 181 0),(.ref 1893),.none,(.ref 1894),(.ref 1895),(.ref 1896),(.int 5464 0),(.int 762 0),(.str az 5465)]
noncomputable def Gn(P:Params):Obj:=fO CR J511 (bR aF 144 12) .none (.str lz 5089) (.ref 1897)
noncomputable def Gv(P:Params):Obj:=dO [(kS P lR 5317 (.str lz 5089)),(kS P l4 5321 (.int 630 5320)),(kS P dm 5332 (.ref 1813)),(kS P uY 5339 (.ref 1820)),(kS P J512 5350 (.ref 1828)),(kS P EW 5359 (.ref 1835)),(kS P Ah 5375 (.ref 1842)),(kS P J266 5383 (.ref 1849)),(kS P J268 5395 (.ref 1856)),(kS P J270 5406 (.ref 1863)),(kS P E6 5415 (.ref 1870)),(kS P EM 5429 (.ref 1877)),(kS P J514 5437 (.ref 1884)),(kS P C3 5448 (.ref 1891)),(kS P CR 5466 (.ref 1898)),(kS P J515 5475 (.ref 1905)),(kS P J516 5485 (.ref 1913)),(kS P J517 5495 (.ref 1920)),(kS P J518 5503 (.ref 1927)),(kS P J519 5511 (.ref 1934)),(kS P lY 5521 (.ref 1935)),(kS P oP 5523 (.ref 1938)),(kS P mx 5525 (.ref 1939)),(kS P J2 5526 .none)] 4
noncomputable def Fp(P:Params):Obj:=⟨(.type "type"),none,(.cls ⟨uy,[(.type "object")],[(.ref 1937),(.type "object")],1936,uy,true,[],[],false,Option.none,false⟩),⟨[none,none,some (.str uy 5310),some (.str uy 5318),some (.builtin "object.__new__"),some (.bool true)]⟩⟩
noncomputable def FV(P:Params):Obj:=cO [(.str vm 5531),(.str vm 5532),(.str az 5533),(.int 811 0),(.int 0 0),(.int 0 0),(.int 0 0),(.int 3 0),(.ref 1942),(.bool true),(.int 181 0),(.ref 1943),.none,(.ref 1944),(.ref 1945),(.ref 1946),(.int 5536 0),(.int 811 0),(.str az 5537)]
noncomputable def GS(P:Params):Obj:=fO vm vm (db aF 146) .none (.str l6 5529) (.ref 1947)
noncomputable def Fi(P:Params):Obj:=cO [(.str uw 5539),(.str uw 5540),(.str az 5541),(.int 815 0),(.int 4 0),(.int 0 0),(.int 0 0),(.int 3 0),(.ref 1949),(.bool true),(.int 181 0),(.ref 1950),.none,(.ref 1951),(.ref 1952),(.ref 1953),(.int 5550 0),(.int 815 0),(.str az 5551)]
noncomputable def Fj(P:Params):Obj:=fO uw uw (db aF 147) .none (.str l6 5529) (.ref 1954)
noncomputable def F8(P:Params):Obj:=cO [(.str tN 5553),(.str tN 5554),(.str az 5555),(.int 822 0),(.int 2 0),(.int 0 0),(.int 0 0),(.int 3 0),(.ref 1956),(.bool true),(.int 181 0),(.ref 1957),.none,(.ref 1958),(.ref 1959),(.ref 1960),(.int 5559 0),(.int 822 0),(.str az 5560)]
noncomputable def Fr(P:Params):Obj:=fO tN tN (db aF 148) .none (.str l6 5529) (.ref 1961)
noncomputable def GM(P:Params):Obj:=cO [(.str uU 5562),(.str uU 5563),(.str az 5564),(.int 829 0),(.int 3 0),(.int 0 0),(.int 0 0),(.int 3 0),(.ref 1963),(.bool true),(.int 181 0),(.ref 1964),.none,(.ref 1965),(.ref 1966),(.ref 1967),(.int 5573 0),(.int 829 0),(.str az 5574)]
noncomputable def E9(P:Params):Obj:=fO uU uU (db aF 149) .none (.str l6 5529) (.ref 1968)
noncomputable def Fg(P:Params):Obj:=cO [(.str uo 5576),(.str uo 5577),(.str az 5578),(.int 837 0),(.int 1 0),(.int 0 0),(.int 0 0),(.int 3 0),(.ref 1970),(.bool true),(.int 181 0),(.ref 1971),.none,.none,.none,(.ref 1972),(.int 5579 0),(.int 837 0),(.str az 5580)]
noncomputable def Fl(P:Params):Obj:=fO uo uo (db aF 150) .none (.str l6 5529) (.ref 1973)
noncomputable def Hp(P:Params):Obj:=cO [(.str uP 5582),(.str uP 5583),(.str az 5584),(.int 842 0),(.int 4 0),(.int 0 0),(.int 0 0),(.int 3 0),(.ref 1975),(.bool true),(.int 181 0),(.ref 1976),.none,(.ref 1977),(.ref 1978),(.ref 1979),(.int 5597 0),(.int 842 0),(.str az 5598)]
noncomputable def GK(P:Params):Obj:=fO uP uP (db aF 151) .none (.str l6 5529) (.ref 1980)
noncomputable def G8(P:Params):Obj:=cO [(.str v8 5600),(.str v8 5601),(.str az 5602),(.int 854 0),(.int 2 0),(.int 0 0),(.int 0 0),(.int 3 0),(.ref 1982),(.bool true),(.int 181 0),(.ref 1983),.none,(.ref 1984),(.ref 1985),(.ref 1986),(.int 5606 0),(.int 854 0),(.str az 5607)]
noncomputable def Fx(P:Params):Obj:=fO v8 v8 (db aF 152) .none (.str l6 5529) (.ref 1987)
noncomputable def zX(P:Params):Obj:=cO [(.str uZ 5609),(.str uZ 5610),(.str az 5611),(.int 859 0),(.int 1 0),(.int 0 0),(.int 0 0),(.int 3 0),(.ref 1989),(.bool true),(.int 181 0),(.ref 1990),.none,.none,.none,(.ref 1991),(.int 5612 0),(.int 859 0),(.str az 5613)]
noncomputable def tH(P:Params):Obj:=fO uZ uZ (db aF 153) .none (.str l6 5529) (.ref 1992)
noncomputable def bV(P:Params):HT:=(hT (o0 P) (hU (hT (o3 P) (hU (hU (hU (hU (hU (hU .nil (hU .nil (hL (FW P)))) (hU (hU .nil (hL (Gs P))) .nil)) (hU .nil (hU (hL (D4 P)) (hU (hL (F7 P)) .nil)))) .nil) (hU (hU (hU .nil (hU (hL (DQ P)) .nil)) .nil) (hT (o111 P) (hU (hU (hU (hL (Hx P)) .nil) .nil) .nil) .nil))) (hU (hT (o39 P) (hU (hU (hU (hU .nil (hL (FC P))) .nil) (hU (hL (C5 P)) .nil)) .nil) (hU (hU .nil (hU (hU .nil (hL (Gf P))) .nil)) (hU (hU .nil (hU (hL (GP P)) .nil)) .nil))) (hU (hL (o87 P)) (hU (hU .nil (hU (hL (Ep P)) (hU (hL (GR P)) .nil))) (hU (hU .nil (hU (hL (GW P)) .nil)) (hU (hU .nil (hL (Gr P))) .nil)))))) (hU (hU (hT (o35 P) (hU .nil (hU .nil (hU .nil (hU .nil (hL (G8 P)))))) (hU (hU .nil (hU .nil (hU (hL (Hd P)) (hL (Fj P))))) (hU (hU .nil (hU .nil (hL (Hy P)))) .nil))) (hU (hU (hT (qH P) (hU (hU (hL (FE P)) .nil) .nil) (hU .nil (hU (hL (F9 P)) .nil))) .nil) (hU .nil (hU .nil (hU .nil (hL (HD P))))))) (hU (hU (hU (hU .nil (hU .nil (hU (hL (GJ P)) .nil))) (hU (hU (hU (hL (Hi P)) .nil) .nil) .nil)) (hU (hU (hU .nil (hU .nil (hL (E7 P)))) .nil) .nil)) (hU (hT (o91 P) (hU (hU (hU (hL (Ho P)) .nil) (hU .nil (hL (Fb P)))) (hU .nil (hU (hL (Gq P)) (hL (FV P))))) .nil) .nil)))) (hU (hU (hU (hU (hU (hU (hU (hU (hL (GD P)) .nil) .nil) .nil) .nil) (hU (hU .nil (hU .nil (hU (hL (Gu P)) .nil))) (hU (hU .nil (hU (hL (Fh P)) .nil)) .nil))) (hU (hT (o81 P) (hU .nil (hU .nil (hU .nil (hL (Fp P))))) .nil) (hU (hU .nil (hU .nil (hU (hL (Fq P)) (hL (E9 P))))) .nil))) (hU (hU (hU .nil (hU .nil (hU .nil (hU .nil (hL (tH P)))))) (hU (hU .nil (hU .nil (hU (hL (Gi P)) (hL (F8 P))))) (hU (hU .nil (hU .nil (hL (Fv P)))) .nil))) (hU (hU .nil (hU (hU (hU .nil (hL (FK P))) (hU (hL (FF P)) .nil)) .nil)) (hL (o121 P))))) (hU (hU (hU (hU (hU (hU (hU (hL (Gz P)) .nil) (hU .nil (hL (Fm P)))) (hU .nil (hU (hL (Fa P)) .nil))) (hU (hU (hU (hL (Fk P)) .nil) .nil) (hU (hL (Do P)) .nil))) .nil) (hU (hU (hT (ip P) (hU .nil (hU .nil (hL (FD P)))) (hU (hL (DU P)) .nil)) (hU (hU .nil (hU .nil (hL (FG P)))) .nil)) (hU (hU .nil (hU .nil (hU .nil (hL (Fg P))))) (hU .nil (hU (hT (Dk P) .nil (hL (GX P))) .nil))))) (hT (o29 P) (hU (hU (hU (hU (hU (hL (Hw P)) .nil) .nil) (hU .nil (hU (hL (G0 P)) .nil))) (hU (hU .nil (hU .nil (hL (Gy P)))) .nil)) .nil) (hU (hU (hU (hU (hU .nil (hL (Ht P))) .nil) .nil) .nil) (hU (hU .nil (hU .nil (hU .nil (hL (GK P))))) (hU (hU .nil (hU (hL (HE P)) .nil)) .nil))))))) (hT (o2 P) (hU (hU (hU (hU (hU (hU .nil (hU (hU .nil (hL (E8 P))) .nil)) (hU .nil (hU (hU (hL (nW P)) .nil) .nil))) (hU .nil (hU (hU .nil (hU (hL (GV P)) .nil)) .nil))) (hU (hU (hU .nil (hU .nil (hU .nil (hL (Gv P))))) .nil) (hU (hU (hU (hU (hL (Fz P)) .nil) .nil) (hU .nil (hU (hL (GI P)) (hL (GM P))))) .nil))) (hU (hU (hU (hU (hU (hU .nil (hL (F2 P))) .nil) (hU (hL (CW P)) .nil)) (hU .nil (hU .nil (hU .nil (hL (zX P)))))) (hT (o104 P) (hU .nil (hU (hU .nil (hL (FL P))) .nil)) (hU (hU .nil (hU (hL (GY P)) .nil)) .nil))) (hU (hT (o88 P) .nil (hU (hU (hU .nil (hL (Fc P))) .nil) .nil)) (hT (o120 P) (hU .nil (hU (hL (D6 P)) (hU (hL (Gc P)) .nil))) (hU .nil (hU (hU .nil (hL (FA P))) (hL (Gx P)))))))) (hU (hU (hT (o36 P) (hU (hU .nil (hU .nil (hU (hL (Gp P)) .nil))) (hU (hU (hU (hL (G9 P)) .nil) .nil) (hU .nil (hU .nil (hL (Fx P)))))) .nil) (hU (hU (hU (hU (hU (hL (GG P)) .nil) (hU .nil (hL (Hj P)))) (hU .nil (hU (hL (FZ P)) .nil))) (hU (hU .nil (hU .nil (hL (Fy P)))) .nil)) .nil)) (hU (hU (hU (hU .nil (hU .nil (hU (hL (Gl P)) .nil))) (hU (hU (hU (hL (FH P)) .nil) .nil) .nil)) .nil) (hU (hU (hU (hU (hU .nil (hL (Fu P))) (hU .nil (hL (HI P)))) (hU .nil (hU .nil (hL (GS P))))) .nil) (hU (hU .nil (hU .nil (hU .nil (hL (Hp P))))) .nil))))) (hU (hU (hU (hU (hU (hU (hU (hU (hL (FB P)) .nil) .nil) .nil) .nil) (hU (hU .nil (hU .nil (hU (hL (Gb P)) (hL (Fi P))))) (hU (hU .nil (hU .nil (hL (Gd P)))) .nil))) (hU (hU (hL (qW P)) .nil) (hU .nil (hU .nil (hU .nil (hL (Hk P))))))) (hU (hU .nil (hU (hU (hU .nil (hU .nil (hL (FT P)))) (hU .nil (hU (hL (Fn P)) (hL (Fr P))))) (hU (hU .nil (hU .nil (hL (Gn P)))) .nil))) (hU (hT (o90 P) (hU (hU (hU (hL (FJ P)) .nil) .nil) (hU .nil (hU (hL (Ha P)) .nil))) (hU (hU .nil (hU (hL (Hm P)) .nil)) .nil)) (hU (hU (hU .nil (hL (CJ P))) .nil) (hU .nil (hU (hL (DC P)) .nil)))))) (hU (hU (hT (o38 P) (hU (hU (hU .nil (hU .nil (hL (GC P)))) .nil) (hU .nil (hU (hL (EL P)) .nil))) .nil) (hU (hU (hT (hM P) (hU (hU .nil (hL (Ge P))) .nil) (hU (hL (Dg P)) .nil)) .nil) (hU (hU .nil (hU .nil (hU .nil (hL (Fl P))))) (hU .nil (hU (hU .nil (hL (HA P))) .nil))))) (hU (hU (hU (hU (hU .nil (hU .nil (hL (FO P)))) (hU (hL (De P)) .nil)) (hU (hU .nil (hU .nil (hL (FR P)))) .nil)) (hT (o110 P) (hU .nil (hU (hU .nil (hL (yB P))) .nil)) .nil)) (hU .nil (hU (hU .nil (hU (hL (DO P)) (hU (hL (Gt P)) .nil))) (hU (hU .nil (hU (hL (Hv P)) .nil)) (hU (hU .nil (hL (GT P))) .nil)))))))))
noncomputable def KJ0:=sJZ [114,101,103,105,115,116,101,114,115]
noncomputable def Bl:=sJZ [109,111,100,101]
noncomputable def KJ2:=sJZ [100,101,108,101,103,97,116,101,100]
noncomputable def KJ3:=sJZ [108,105,110,101,115,95,100,101,108,101,103,97,116,101,100]
noncomputable def uN:=sJZ [99,121,99,108,101,115]
noncomputable def sf:=sJZ [114,115,50]
noncomputable def tT:=sJZ [99,111,114,101]
noncomputable def FP:=sJZ [111,119,110]
noncomputable def KJ8:=sJZ [108,97,119,46,60,108,111,99,97,108,115,62,46]
noncomputable def F0:=sJZ [114,101,97,115,111,110]
noncomputable def yj:=sJZ [99,97,117,115,101]
noncomputable def oV:=sJZ [118,97,108,117,101]
noncomputable def DX:=sJZ [95,108,97,119,95,116,111,108,100,46,60,108,111,99,97,108,115,62,46]
noncomputable def KJ13:=sJZ [67,111,114,101,46,101,120,101,99,117,116,101,46,60,108,111,99,97,108,115,62,46]
noncomputable def Ek:=sJZ [67,111,114,101,46,101,120,101,99,117,116,101,95,114,101,115,116,46,60,108,111,99,97,108,115,62,46]
noncomputable def KJ15:=sJZ [67,111,114,101,46,99,104,97,110,103,101,46,60,108,111,99,97,108,115,62,46]
noncomputable def wa:=sJZ [100,111,110,101]
noncomputable def qI:=sJZ [115,99,114,105,112,116]
noncomputable def tV:=sJZ [109,97,114,107,115]
noncomputable def mN:=sJZ [120]
noncomputable def pa:=sJZ [110]
noncomputable def o5:=sJZ [100,101,101,100]
noncomputable def jU:=sJZ [97,116]
noncomputable def Df:=sJZ [105,115,95,110,117,109,98,101,114]
noncomputable def q9:=sJZ [99,101,108,108]
noncomputable def DY:=sJZ [100,117,101]
noncomputable def KJ26:=sJZ [116,114,97,112,32,50,32,119,105,116,104,32,48]
noncomputable def fD:=sJZ [115]
noncomputable def mM:=sJZ [105]
noncomputable def el:=sJZ [119]
noncomputable def gp:=sJZ [99]
noncomputable def ku:=sJZ [115,101,108,102]
noncomputable def kK:=sJZ [105,110,115,116,114,117,99,116,105,111,110]
noncomputable def kD:=sJZ [119,111,114,100]
noncomputable def zG:=sJZ [98,121,95,110,117,109,98,101,114]
noncomputable def yN:=sJZ [115,111,117,114,99,101]
noncomputable def yo:=sJZ [105,115,95,101,120,99,104,97,110,103,101]
noncomputable def zQ:=sJZ [105,115,95,119,114,105,116,116,101,110]
noncomputable def Ew:=sJZ [111,108,100]
noncomputable def yx:=sJZ [114,111,119]
noncomputable def yr:=sJZ [111,110,101]
noncomputable def yF:=sJZ [98,101,104,105,110,100]
end
section
open PySem PySem.W PyProof.Rows
structure AS where
 a:Nat→Nat
 k:Nat→Nat
structure BS where
 z:Nat→Int×Nat
 p:Nat→Int×Nat
 r:Nat→Int×Nat
 pc:Int×Nat
 md:Int×Nat
 sp:Nat
 es:Array DictEntry
 em:Nat
noncomputable def up(z:Nat→Int×Nat)(i:Nat)(x:Int)(t:Nat):Nat→Int×Nat:=fun j=>@Bool.rec (fun _=>Int×Nat) (z j) (x,t) (Nat.beq i j)
noncomputable def zv(s:BS)(i:Nat):Value:=.int (s.z i).1 (s.z i).2
noncomputable def pv(s:BS)(i:Nat):Value:=.int (s.p i).1 (s.p i).2
noncomputable def bo(s:BS)(i:Nat):Value:=.int (s.r i).1 (s.r i).2
noncomputable def d0(P:Params)(A:AS):Obj:=iO 1937 (.add (A.a 1) 1994)
noncomputable def d1(P:Params)(A:AS)(s:BS):Obj:=dO [kS P ⟨⟨[98,117,115]⟩⟩ (.add (A.k 0) 5615) .none,kS P ⟨⟨[108,97,121,111,117,116]⟩⟩ (.add (A.k 1) 5615) (.ref (.add (A.a 100) 1994)),kS P ⟨⟨[119,97,108,107,101,114]⟩⟩ (.add (A.k 2) 5615) (.ref (.add (A.a 101) 1994)),kS P ⟨⟨[99,115,114,115]⟩⟩ (.add (A.k 3) 5615) (.ref (.add (A.a 2) 1994)),kS P KJ0 (.add (A.k 4) 5615) (.ref (.add (A.a 5) 1994)),kS P ⟨⟨[112,99]⟩⟩ (.add (A.k 5) 5615) (.int s.pc.1 s.pc.2),kS P Bl (.add (A.k 6) 5615) (.int s.md.1 s.md.2),kS P ⟨⟨[107,110,111,119,110]⟩⟩ (.add (A.k 7) 5615) (.ref (.add (A.a 6) 1994)),kS P ⟨⟨[115,112,111,116,115]⟩⟩ (.add (A.k 8) 5615) (.ref s.sp)] 9
noncomputable def d2(P:Params)(A:AS):Obj:=iO 1544 (.add (A.a 3) 1994)
noncomputable def d3(P:Params)(A:AS)(s:BS):Obj:=dO [kS P ⟨⟨[115,116,97,116,117,115]⟩⟩ (.add (A.k 9) 5615) (zv s 768),kS P KJ2 (.add (A.k 10) 5615) (zv s 770),kS P KJ3 (.add (A.k 11) 5615) (zv s 771),kS P ⟨⟨[101,110,97,98,108,101,100]⟩⟩ (.add (A.k 12) 5615) (zv s 772),kS P ⟨⟨[119,97,105,116,105,110,103]⟩⟩ (.add (A.k 13) 5615) (zv s 836),kS P zk (.add (A.k 14) 5615) (zv s 384),kS P uN (.add (A.k 15) 5615) (zv s 2816),kS P ⟨⟨[114,101,116,105,114,101,100]⟩⟩ (.add (A.k 16) 5615) (zv s 2818),kS P ⟨⟨[116,105,109,101,114]⟩⟩ (.add (A.k 17) 5615) .none,kS P ⟨⟨[104,97,114,116]⟩⟩ (.add (A.k 18) 5615) (zv s 3860),kS P ⟨⟨[112,108,97,105,110]⟩⟩ (.add (A.k 19) 5615) (.ref (.add (A.a 4) 1994))] 11
noncomputable def d4(P:Params)(A:AS)(s:BS):Obj:=dO [kI 261 (.add (A.k 20) 5615) (pv s 261),kI 262 (.add (A.k 21) 5615) (pv s 262),kI 320 (.add (A.k 22) 5615) (pv s 320),kI 321 (.add (A.k 23) 5615) (pv s 321),kI 322 (.add (A.k 24) 5615) (pv s 322),kI 323 (.add (A.k 25) 5615) (pv s 323),kI 773 (.add (A.k 26) 5615) (pv s 773),kI 774 (.add (A.k 27) 5615) (pv s 774),kI 832 (.add (A.k 28) 5615) (pv s 832),kI 833 (.add (A.k 29) 5615) (pv s 833),kI 834 (.add (A.k 30) 5615) (pv s 834),kI 835 (.add (A.k 31) 5615) (pv s 835)] 12
noncomputable def d5(P:Params)(A:AS)(s:BS):Obj:=lO [bo s 0,bo s 1,bo s 2,bo s 3,bo s 4,bo s 5,bo s 6,bo s 7,bo s 8,bo s 9,bo s 10,bo s 11,bo s 12,bo s 13,bo s 14,bo s 15,bo s 16,bo s 17,bo s 18,bo s 19,bo s 20,bo s 21,bo s 22,bo s 23,bo s 24,bo s 25,bo s 26,bo s 27,bo s 28,bo s 29,bo s 30,bo s 31] 1
noncomputable def d6(P:Params)(A:AS)(s:BS):Obj:=⟨.type "dict",none,.dict s.es s.em,#[]⟩
noncomputable def B7(P:Params)(A:AS)(s:BS):List (Nat×Obj):=[(0,d0 P A),(1,d1 P A s),(2,d2 P A),(3,d3 P A s),(4,d4 P A s),(5,d5 P A s),(6,d6 P A s)]
noncomputable def bG(A:AS):Nat→Nat:=fun i=>Nat.add (A.a i) 1994
noncomputable def bI(f:Nat→Nat)(l:List (Nat×Nat))(i:Nat):Nat:=@List.rec (Nat×Nat) (fun _=>Nat) (f i) (fun x _ ih=>@Prod.rec Nat Nat (fun _=>Nat) (fun j b=>@Bool.rec (fun _=>Nat) ih (.add b (Nat.sub i j)) (Nat.ble j i)) x) l
noncomputable def hl(l:List Nat):Hn:=@List.rec Nat (fun _=>Hn) .nil (fun x _ ih=>@Bool.rec (fun _=>Hn) (.ld x ih) (.orc (Nat.sub x 1000) ih) (Nat.ble 1000 x)) l
noncomputable def E2(g:List (Addr×Obj))(l:List (Nat×List (Addr×Obj)))(i:Nat):List (Addr×Obj):=@List.rec (Nat×List (Addr×Obj)) (fun _=>List (Addr×Obj)) g (fun x _ ih=>@Bool.rec (fun _=>List (Addr×Obj)) ih x.2 (Nat.ble x.1 i)) l
noncomputable def W2(w:World)(b c:Bool):World:=(w.withFollow "special-get-raises" b).withFollow "comprehension-iter-twice" c
noncomputable def SG(w:World)(b c:Bool):Setting:=⟨prog2,(W2 w b c).params⟩
abbrev MM(w:World)(b c:Bool):Model:=model prog2 (W2 w b c)
abbrev PP(w:World)(b c:Bool):Params:=(W2 w b c).params
theorem cY(w:World)(b c:Bool):(⟨prog2,(W2 w b c).params⟩:Setting)=SG w true c∨(⟨prog2,(W2 w b c).params⟩:Setting)=SG w false c:=by
 cases b
 ·exact .inr rfl
 ·exact .inl rfl
structure IS where
 k:Nat→Nat
 t:Nat→Nat
 nm:Str
 rd:Int
 rs1:Int
 rs2:Int
 im:Int
 cs:Int
noncomputable def iD(P:Params)(I:IS):Obj:=dO [kS P dj (I.k 0) (.str I.nm (I.t 0)),kS P gK (I.k 1) (.int I.rd (I.t 1)),kS P lD (I.k 2) (.int I.rs1 (I.t 2)),kS P sf (I.k 3) (.int I.rs2 (I.t 3)),kS P iG (I.k 4) (.int I.im (I.t 4)),kS P gq (I.k 5) (.int I.cs (I.t 5))] 6
theorem pg(P:Params):(bV P).Under 1994:=
 HT.under_of (d:=11) (Nat.le_of_eq (by kernel_rfl)) (by kernel_rfl)
theorem nd_of{l:List (Nat×Obj)}(ks:List Nat)(e:l.map (·.1)=ks)(h:ks.Nodup):(l.map (·.1)).Nodup:=e▸h
abbrev ag(w:World)(b c:Bool):=kS (PP w b c)
abbrev al(w:World)(b c:Bool):=B7 (PP w b c)
end
section
open PySem PySem.W
section
variable{p:Program}{w:World}{S:HT}{B L:Nat}{gh pre:List (Addr×Obj)}{n t t':Nat}{id:String}{args:Args}{b:Builtin}{Sp:Spec}{v:Value}{C:Ctx→Prop}
theorem iP(hC:∀Γ,C Γ→Γ.handled=none)(entry:entryFor table id=some b)(g:Meets (b args) Sp)
  (H:∀(A:Around) R s,A.handled=none→s.toks=t→(∀x∈pre,s.heap.get? x.1=some x.2)→R (.ok (.ret v)) {s with toks:=t'}→Sp A R s):
  TriC (model p w) S B C (.builtin id args) gh pre n t (.ok (.ret v)) gh pre n t':=by
 intro nd lo big Γ P h gs d os hΓ hL hn hs hp hgh
 refine⟨h,?_,hn,Nat.le_refl _,rfl,nd,fun x hx=>⟨.inl (List.mem_map.mpr ⟨x,hx,rfl⟩),hp x hx⟩,fun _ _ _ o ho=>ho,fun x hx=>⟨(hgh x hx).1,(hgh x hx).2,.inl (List.mem_map.mpr ⟨x,hx,rfl⟩)⟩⟩
 rw[cM entry]
 exact di g (hC Γ hL) fun A hA=>H A _ ⟨h,gs,d,t,os⟩ hA rfl hp ⟨rfl,rfl⟩
theorem vH(hC:∀Γ,C Γ→Γ.handled=none){a:Addr}{o:Obj}{f:Obj→Obj}(hf:(f o).isFreed=false)(entry:entryFor table id=some b)(g:Meets (b args) Sp)
  (H:∀(A:Around) R s,A.handled=none→s.toks=t→s.heap.get? a=some o→(∀x∈pre,s.heap.get? x.1=some x.2)→R (.ok (.ret v)) {s with heap:=s.heap.update a f,toks:=t'}→Sp A R s):
  TriC (model p w) S B C (.builtin id args) gh ((a,o)::pre) n t (.ok (.ret v)) gh ((a,f o)::pre) n t':=by
 intro nd lo big Γ P h gs d os hΓ hL hn hs hp hgh
 have ho:h.get? a=some o:=hp (a,o) List.mem_cons_self
 have hsz:(h.update a f).objs.size=h.objs.size:=(Heap.SameBut.update (a:=a) (h:=h) (f:=f) |>.1)
 rw[List.map_cons,List.nodup_cons]at nd
 have ne:∀x∈pre,x.1≠a:=fun x hx e=>nd.1 (List.mem_map.mpr ⟨x,hx,e⟩)
 refine⟨h.update a f,?_,hsz.trans hn,Nat.le_refl _,by cases h;rfl,by rw[List.map_cons,List.nodup_cons];exact nd,fun x hx=>?_,fun x hx hb o' ho'=>?_,fun x hx=>?_⟩
 ·rw[cM entry]
  exact di g (hC Γ hL) fun A hA=>H A _ ⟨h,gs,d,t,os⟩ hA rfl ho (fun x hx=>hp x (List.mem_cons_of_mem _ hx)) ⟨rfl,rfl⟩
 ·rcases List.mem_cons.mp hx with e|e
  ·subst e;exact⟨.inl (List.mem_map.mpr ⟨_,List.mem_cons_self,rfl⟩),Heap.get?_update_self _ ho hf⟩
  ·exact⟨.inl (List.mem_map.mpr ⟨x,List.mem_cons_of_mem _ e,rfl⟩),(Heap.get?_update_ne _ _ _ _ (ne x e)).trans (hp x (List.mem_cons_of_mem _ e))⟩
 ·exact(Heap.get?_update_ne _ _ _ _ (fun z=>hb (by rw[z];exact List.mem_map.mpr ⟨(a,o),List.mem_cons_self,rfl⟩))).trans ho'
 ·obtain⟨x1,x2⟩:=hgh x hx
  exact⟨(Heap.get?_update_ne _ _ _ _ (fun z=>x2 (by rw[z];exact List.mem_map.mpr ⟨(a,o),List.mem_cons_self,rfl⟩))).trans x1,x2,.inl (List.mem_map.mpr ⟨x,hx,rfl⟩)⟩
end
theorem Lim.h{L:Nat}:∀Γ,Lim Γ L→Γ.handled=none:=fun _ h=>h.1.1
def kU(a b:Value):Bool:=match a with
 |.int x _=>match b with
  |.int y _=>x==y
  |_=>false
 |_=>false
def eqLs:List Value→List Value→Bool
 |[],[]=>true
 |a::l,b::r=>kU a b&&eqLs l r
 |_,_=>false
theorem jk(l r:List Value):((List.range (min l.length r.length)).all (fun j=>kU (l.getD j .none) (r.getD j .none))&&l.length==r.length)=eqLs l r:=by
 induction l generalizing r with
 |nil=>cases r<;>simp[eqLs]
 |cons a l ih=>
  cases r with
  |nil=>simp[eqLs]
  |cons b r=>
   rw[eqLs,←ih r]
   have hm:min (a::l).length (b::r).length=min l.length r.length+1:=by simp[Nat.succ_min_succ]
   rw[hm,List.range_succ_eq_map,List.all_cons,List.all_map]
   simp[Function.comp_def,Bool.and_assoc]
theorem eqLs_len{l r:List Value}(h:eqLs l r=true):l.length=r.length:=by
 induction l generalizing r with
 |nil=>cases r with
  |nil=>rfl
  |cons=>cases h
 |cons a l ih=>cases r with
  |nil=>cases h
  |cons b r=>simp only[eqLs,Bool.and_eq_true]at h;simp[ih h.2]
open SeqAt in
theorem eqAt_V{A:Around}{s:Shared}{a b:Value}(ha:∃x t,a=.int x t)(hb:∃x t,b=.int x t):EqAt A s a b (kU a b):=by
 obtain⟨x,t,rfl⟩:=ha
 obtain⟨y,u,rfl⟩:=hb
 exact oS x y t u
open SeqAt in
theorem jb{A:Around}{s:Shared}{l r:List Value}(hl:cy l=true)(hr:cy r=true):
  ∀j (h1:j<(Array.mk l).size) (h2:j<(Array.mk r).size),EqAt A s (Array.mk l)[j] (Array.mk r)[j] (kU (l.getD j .none) (r.getD j .none)):=by
 intro j h1 h2
 have h1':j<l.length:=h1
 have h2':j<r.length:=h2
 have e1:l.getD j .none=l[j]:=by simp[List.getD,h1']
 have e2:r.getD j .none=r[j]:=by simp[List.getD,h2']
 rw[e1,e2]
 exact eqAt_V (kb hl _ (List.getElem_mem h1')) (kb hr _ (List.getElem_mem h2'))
section
variable{p:Program}{w:World}{S:HT}{B:Nat}{gh:List (Addr×Obj)}{n t:Nat}{C:Ctx→Prop}(hC:∀Γ,C Γ→Γ.handled=none){a b:Addr}{l r:List Value}{k m:Nat}
include hC
theorem zY(hl:cy l=true)(hr:cy r=true):TriC (model p w) S B C (.builtin "tuple.__ne__" ⟨[.ref a,.ref b],[]⟩) gh [(a,⟨.type "tuple",none,.seq ⟨l⟩ k,#[]⟩),(b,⟨.type "tuple",none,.seq ⟨r⟩ m,#[]⟩)] n t
  (.ok (.ret (.bool (!eqLs l r)))) gh [(a,⟨.type "tuple",none,.seq ⟨l⟩ k,#[]⟩),(b,⟨.type "tuple",none,.seq ⟨r⟩ m,#[]⟩)] n t:=
 iP hC F.entry_tuple_ne (SeqAt.tuple_neAt a b ⟨l⟩ ⟨r⟩ k m none none #[] #[] (fun j=>kU (l.getD j .none) (r.getD j .none))) fun A R s _ ht hp hR=>
  ⟨hp (a,_) List.mem_cons_self,hp (b,_) (List.mem_cons_of_mem _ List.mem_cons_self),jb hl hr,by subst ht;rw[←jk]at hR;exact hR⟩
theorem T_tuple_eq(hl:cy l=true)(hr:cy r=true):TriC (model p w) S B C (.builtin "tuple.__eq__" ⟨[.ref a,.ref b],[]⟩) gh [(a,⟨.type "tuple",none,.seq ⟨l⟩ k,#[]⟩),(b,⟨.type "tuple",none,.seq ⟨r⟩ m,#[]⟩)] n t
  (.ok (.ret (.bool (eqLs l r)))) gh [(a,⟨.type "tuple",none,.seq ⟨l⟩ k,#[]⟩),(b,⟨.type "tuple",none,.seq ⟨r⟩ m,#[]⟩)] n t:=
 iP hC F.entry_tuple_eq (SeqAt.tuple_eqAt a b ⟨l⟩ ⟨r⟩ k m none none #[] #[] (fun j=>kU (l.getD j .none) (r.getD j .none))) fun A R s _ ht hp hR=>
  ⟨hp (a,_) List.mem_cons_self,hp (b,_) (List.mem_cons_of_mem _ List.mem_cons_self),jb hl hr,by subst ht;rw[←jk]at hR;exact hR⟩
theorem AO(hl:cy l=true)(hr:cy r=true)(hlen:l.length=r.length):TriC (model p w) S B C (.builtin "list.__ne__" ⟨[.ref a,.ref b],[]⟩) gh [(a,⟨.type "list",none,.seq ⟨l⟩ k,#[]⟩),(b,⟨.type "list",none,.seq ⟨r⟩ m,#[]⟩)] n t
  (.ok (.ret (.bool (!eqLs l r)))) gh [(a,⟨.type "list",none,.seq ⟨l⟩ k,#[]⟩),(b,⟨.type "list",none,.seq ⟨r⟩ m,#[]⟩)] n t:=
 iP hC F.entry_list_ne (SeqAt.list_neAt a b ⟨l⟩ ⟨r⟩ k m none none #[] #[] hlen (fun j=>kU (l.getD j .none) (r.getD j .none))) fun A R s _ ht hp hR=>
  ⟨hp (a,_) List.mem_cons_self,hp (b,_) (List.mem_cons_of_mem _ List.mem_cons_self),jb hl hr,by
   have e:(List.range (Array.mk l).size).all (fun j=>kU (l.getD j .none) (r.getD j .none))=eqLs l r:=by
    rw[←jk,hlen,Nat.min_self];simp[hlen]
   subst ht;rw[e];exact hR⟩
theorem Jz(hlen:(l.length != r.length)=true):TriC (model p w) S B C (.builtin "list.__ne__" ⟨[.ref a,.ref b],[]⟩) gh [(a,⟨.type "list",none,.seq ⟨l⟩ k,#[]⟩),(b,⟨.type "list",none,.seq ⟨r⟩ m,#[]⟩)] n t
  (.ok (.ret (.bool true))) gh [(a,⟨.type "list",none,.seq ⟨l⟩ k,#[]⟩),(b,⟨.type "list",none,.seq ⟨r⟩ m,#[]⟩)] n t:=
 iP hC F.entry_list_ne (SeqAt.list_ne_lengthsAt a b ⟨l⟩ ⟨r⟩ k m none none #[] #[] hlen) fun A R s _ ht hp hR=>⟨hp (a,_) List.mem_cons_self,hp (b,_) (List.mem_cons_of_mem _ List.mem_cons_self),by subst ht;exact hR⟩
theorem dI{x:Value}(hsz:l.length≤sizeLine):TriC (model p w) S B C (.builtin "list.append" ⟨[.ref a,x],[]⟩) gh [(a,⟨.type "list",none,.seq ⟨l⟩ k,#[]⟩)] n t
  (.ok (.ret .none)) gh [(a,⟨.type "list",none,.seq ⟨l++[x]⟩ (k+1),#[]⟩)] n t:=by
 have e:Obj.mapSeq (fun xs=>xs.push x) ⟨.type "list",none,.seq ⟨l⟩ k,#[]⟩=⟨.type "list",none,.seq ⟨l++[x]⟩ (k+1),#[]⟩:=by
  show (⟨.type "list",none,.seq ((Array.mk l).push x) _,#[]⟩:Obj)=_
  rw[show (Array.mk l).push x=⟨l++[x]⟩ by simp,if_neg (by simp)]
 have:=vH (p:=p) (w:=w) (S:=S) (B:=B) (gh:=gh) (pre:=[]) (n:=n) (t:=t) (t':=t) (v:=.none) hC (f:=Obj.mapSeq fun xs=>xs.push x) (o:=⟨.type "list",none,.seq ⟨l⟩ k,#[]⟩) (by rw[e];rfl) F.entry_list_append
  (AutoListH.list_append_list_val_0 a ⟨l⟩ k x hsz) fun A R s _ ht ho _ hR=>⟨ho,by rw[show s.toks=t from ht];exact hR⟩
 rw[e]at this
 exact this
end
theorem zt{prog:Program}{w:World}{A:Around}{E:Value→Shared→Prop}{s:Shared}{l:Addr}{o:Obj}{items:Array Value}{ne:Nat}{k:Int}{t:Tok}{x:Value}{Q:PySem.Fin→Shared→Prop}(ho:s.heap.get? l=some o)(hd:o.data=.seq items ne)
  (h0:0≤k) (hfit:k<2^63) (hx:items[k.toNat]?=some x) (h:Q (.done (.ret x)) s):wpAny (model prog w) A (Builtin.«list.__getitem__» ⟨[.ref l,.int k t],[]⟩) Q E s:=by
 show wpAny _ _ (Builtin.List.listSubscript? (.int k t) >>= _) _ _ s
 refine wpAny_bind (wpAny_listSubscript_int (fitsIndex_of h0 hfit) ?_)
 clear hfit
 obtain⟨j,rfl⟩:=Int.eq_ofNat_of_zero_le h0
 have hx':items[j]?=some x:=hx
 show wpAny _ _ ((seqItemAt l j >>= fun r=>pure (r.map (j,·))) >>= _) _ _ s
 refine wpAny_bind (wpAny_bind (wpAny_seqItemAt ho hd (wpAny_pure ?_)))
 rw[hx']
 first
  |exact wpAny_bind (wpAny_pure (wpAny_pure h))
  |exact wpAny_pure h
theorem sJ(m:Nat):seqIndex? (-1) (m+1)=some m:=by
 unfold seqIndex?
 simp
 omega
open AutoSeq1 in
theorem sF(a:Addr)(l:List Value)(m:Nat)(x:Value)(hsz:l.length+1≤sizeLine):
  Meets (Builtin.«list.pop» ⟨[.ref a],[]⟩) (fun _ R s=>s.heap.get? a=some {cls:=.type "list",dict:=none,data:=.seq ⟨l++[x]⟩ m,slots:=#[]}∧R (.ok (.ret x)) {s with heap:=s.heap.update a (Obj.mapSeq fun xs=>xs.eraseIdxIfInBounds l.length),toks:=s.toks}):=
 .of_wp fun prog w A R s h=>by
  obtain⟨hp,g,d,tk,os⟩:=s;obtain⟨hl,h⟩:=h
  have e:(Array.mk (l++[x])).size=l.length+1:=by simp
  have hi:(seqIndex? (-1) (Array.mk (l++[x])).size).bind (fun k=>((Array.mk (l++[x]))[k]?).map (k,·))=some (l.length,x):=by
   rw[e,sJ];simp
  have hne:¬(Array.mk (l++[x])).isEmpty=true:=by simp
  have hz:(Array.mk (l++[x])).size≤sizeLine:=by rw[e];exact hsz
  have hz':((Array.mk (l++[x])).eraseIdxIfInBounds l.length).size≤sizeLine+1:=by
   have:((Array.mk (l++[x])).eraseIdxIfInBounds l.length).size≤(Array.mk (l++[x])).size:=by
    unfold Array.eraseIdxIfInBounds
    split
    ·rw[Array.size_eraseIdx];omega
    ·exact Nat.le_refl _
   omega
  wp_walk using (wpAny_updateSeq hl rfl (hz:=hz) (_hz':=hz')),wpAny_loadPart' hl
  rw[hi]
  show wpAny _ _ (updateSeq a _ >>= _) _ _ _
  exact wpAny_bind (wpAny_updateSeq hl rfl (hz:=hz) (_hz':=hz') (wpAny_pure ⟨_,rfl,h⟩))
theorem xU{prog:Program}{w:World}{A:Around}{E:Value→Shared→Prop}{s:Shared}{d:Addr}{o:Obj}{es ep}{k:Int}{t:Tok}{v:Value}{Q:Unit→Shared→Prop}(ho:s.heap.get? d=some o)(hd:o.data=.dict es ep)(hk:IntKeys es)(hz:es.size≤sizeLine)
  (hi:(es.findIdx? fun e=>Value.isInt k e.key)=none) (h:Q () {s with heap:=s.heap.update d (Obj.mapDictKeys (·.push ⟨hashInt k,.int k t,v⟩)),toks:=s.toks+1}):
  wpAny (model prog w) A (dictSet d (.int k t) v) Q E s:=by
 unfold dictSet
 try with_reducible refine wpAny_holding ?_
 refine wpAny_bind (wpAny_pyHash_int ?_)
 unfold dictSetHashed
 try with_reducible refine wpAny_holding ?_
 refine wpAny_bind (wpAny_dictFind_int (s:={s with toks:=s.toks+1}) ho hd hk ?_)
 rw[hi]
 exact wpAny_bind (wpAny_rule (wpAny_updateDictKeys (hz:=hz) (s:={s with toks:=s.toks+1}) ho hd h))
section
variable{p:Program}{w:World}{S:HT}{B:Nat}{gh pre:List (Addr×Obj)}{n t t':Nat}{cd:Code}{f:Flow}{C:Ctx→Prop}(hC:∀Γ,C Γ→Γ.handled=none)
include hC
theorem dL(H:∀Γ P h gs d os,Γ.handled=none→(∀x∈pre,B≤x.1)→(∀x∈pre,h.get? x.1=some x.2)→Runs (model p w) Γ P ((model p w).den cd) [] ⟨h,gs,d,t,os⟩ (.ret (.ok f)) ⟨h,gs,d,t',os⟩):
  TriC (model p w) S B C cd gh pre n t (.ok f) gh pre n t':=by
 intro nd lo big Γ P h gs d os hΓ hL hn hs hp hgh
 exact⟨h,H Γ P h gs d os (hC Γ hL) lo hp,hn,Nat.le_refl _,rfl,nd,fun x hx=>⟨.inl (List.mem_map.mpr ⟨x,hx,rfl⟩),hp x hx⟩,fun _ _ _ o ho=>ho,fun x hx=>⟨(hgh x hx).1,(hgh x hx).2,.inl (List.mem_map.mpr ⟨x,hx,rfl⟩)⟩⟩
theorem gi{a:Addr}{o:Obj}{g:Obj→Obj}(hf:(g o).isFreed=false)
  (H:∀Γ P h gs d os,Γ.handled=none→(∀x∈(a,o)::pre,B≤x.1)→(∀x∈(a,o)::pre,h.get? x.1=some x.2)→Runs (model p w) Γ P ((model p w).den cd) [] ⟨h,gs,d,t,os⟩ (.ret (.ok f)) ⟨h.update a g,gs,d,t',os⟩):
  TriC (model p w) S B C cd gh ((a,o)::pre) n t (.ok f) gh ((a,g o)::pre) n t':=by
 intro nd lo big Γ P h gs d os hΓ hL hn hs hp hgh
 have ho:h.get? a=some o:=hp (a,o) List.mem_cons_self
 have hsz:(h.update a g).objs.size=h.objs.size:=(Heap.SameBut.update (a:=a) (h:=h) (f:=g) |>.1)
 have nd':=nd
 rw[List.map_cons,List.nodup_cons]at nd'
 have ne:∀x∈pre,x.1≠a:=fun x hx e=>nd'.1 (List.mem_map.mpr ⟨x,hx,e⟩)
 refine⟨h.update a g,H Γ P h gs d os (hC Γ hL) lo hp,hsz.trans hn,Nat.le_refl _,by cases h;rfl,by rw[List.map_cons,List.nodup_cons];exact nd',fun x hx=>?_,fun x hx hb o' ho'=>?_,fun x hx=>?_⟩
 ·rcases List.mem_cons.mp hx with e|e
  ·subst e;exact⟨.inl (List.mem_map.mpr ⟨_,List.mem_cons_self,rfl⟩),Heap.get?_update_self _ ho hf⟩
  ·exact⟨.inl (List.mem_map.mpr ⟨x,List.mem_cons_of_mem _ e,rfl⟩),(Heap.get?_update_ne _ _ _ _ (ne x e)).trans (hp x (List.mem_cons_of_mem _ e))⟩
 ·exact(Heap.get?_update_ne _ _ _ _ (fun z=>hb (by rw[z];exact List.mem_map.mpr ⟨(a,o),List.mem_cons_self,rfl⟩))).trans ho'
 ·obtain⟨x1,x2⟩:=hgh x hx
  exact⟨(Heap.get?_update_ne _ _ _ _ (fun z=>x2 (by rw[z];exact List.mem_map.mpr ⟨(a,o),List.mem_cons_self,rfl⟩))).trans x1,x2,.inl (List.mem_map.mpr ⟨x,hx,rfl⟩)⟩
theorem jl(hB:2≤B){d:Addr}{o:Obj}{l:List DictEntry}{ep:Nat}{k:Int}{u:Tok}(hd:o.data=.dict ⟨l⟩ ep)(hk:IntKeys ⟨l⟩):
  TriC (model p w) S B C (.builtin "dict.get" ⟨[.ref d,.int k u],[]⟩) gh [(d,o)] n t (.ok (.ret ((dp l k).getD .none))) gh [(d,o)] n (t+1):=
 dL hC fun Γ P h gs dd os hh lo hp=>by
  have hs:(d==sysModules)=false:=by
   have h1:B≤d:=lo (d,o) List.mem_cons_self
   have:d≠1:=Nat.ne_of_gt (Nat.lt_of_lt_of_le hB h1)
   simpa [sysModules] using this
  have:=wS (prog:=p) (w:=w) (Γ:=Γ) (p:=P) (k:=k) (t:=u) (s:=⟨h,gs,dd,t,os⟩) hh hs (hp (d,o) List.mem_cons_self) hd hk
  rw[mg]at this
  exact this
theorem ga{d:Addr}{o:Obj}{l:List DictEntry}{ep:Nat}{k hk':Int}{u:Tok}{v:Value}(hc:o.cls=.type "dict")(hd:o.data=.dict ⟨l⟩ ep)(hk:IntKeys ⟨l⟩)(hz:l.length≤sizeLine)(hh':hashInt k=hk')(hi:fIdx l k=none):
  TriC (model p w) S B C (.builtin "dict.__setitem__" ⟨[.ref d,.int k u,v],[]⟩) gh [(d,o)] n t (.ok (.ret .none)) gh [(d,⟨o.cls,o.dict,.dict ((Array.mk l).push ⟨hk',.int k u,v⟩) (ep+1),o.slots⟩)] n (t+1):=by
 subst hh'
 have e:Obj.mapDictKeys (·.push ⟨hashInt k,.int k u,v⟩) o=⟨o.cls,o.dict,.dict ((Array.mk l).push ⟨hashInt k,.int k u,v⟩) (ep+1),o.slots⟩:=by
  obtain⟨cls,dict,data,slots⟩:=o
  simp only at hd
  subst hd
  rfl
 have key:=gi (p:=p) (w:=w) (S:=S) (B:=B) (gh:=gh) (pre:=[]) (n:=n) (t:=t) (t':=t+1) (f:=.ret .none) (cd:=.builtin "dict.__setitem__" ⟨[.ref d,.int k u,v],[]⟩) hC (a:=d) (o:=o) (g:=Obj.mapDictKeys (·.push ⟨hashInt k,.int k u,v⟩)) (by rw[e];rfl) fun Γ P h gs dd os hh lo hp=>by
  rw[cM entry_dict_setitem]
  refine bL hh fun A hA=>?_
  have ho:h.get? d=some o:=hp (d,o) List.mem_cons_self
  show wpAny _ _ (Builtin.Dict.notOrdered "__setitem__" ⟨[.ref d,.int k u,v],[]⟩ >>= _) _ _ _
  refine wpAny_bind (wpAny_notOrdered_dict ⟨o,ho,hc⟩ ?_)
  show wpAny _ _ (dictSet d (.int k u) v >>= _) _ _ _
  exact wpAny_bind (xU ho hd hk hz (by rw[n8];exact hi) (wpAny_pure ⟨rfl,rfl⟩))
 rw[e]at key
 exact key
theorem bb{a:Addr}{l:List Value}{m k:Nat}{u:Tok}{x:Value}(hx:l[k]?=some x)(hk:k≤1000000):TriC (model p w) S B C (.builtin "list.__getitem__" ⟨[.ref a,.int k u],[]⟩) gh [(a,⟨.type "list",none,.seq ⟨l⟩ m,#[]⟩)] n t
  (.ok (.ret x)) gh [(a,⟨.type "list",none,.seq ⟨l⟩ m,#[]⟩)] n t:=
 dL hC fun Γ P h gs dd os hh lo hp=>by
  rw[cM entry_list_getitem]
  refine bL hh fun A hA=>?_
  have ho:h.get? a=some ⟨.type "list",none,.seq ⟨l⟩ m,#[]⟩:=hp (a,_) List.mem_cons_self
  have hx':(Array.mk l)[((k:Int)).toNat]?=some x:=by rw[Int.toNat_natCast];exact(List.getElem?_toArray (xs:=l) (i:=k)).trans hx
  have h0:(0:Int)≤k:=Int.natCast_nonneg _
  have h2:(k:Int)<2^63:=by omega
  generalize (k:Int)=kk at *
  generalize hs:(⟨h,gs,dd,t,os⟩:Shared)=s
  have ho':s.heap.get? a=some ⟨.type "list",none,.seq ⟨l⟩ m,#[]⟩:=by rw[←hs];exact ho
  have:=zt (prog:=p) (w:=w) (A:=A) (E:=fun _ _=>False) (t:=u) (Q:=fun fin x_1=>fin=.done (.ret x)∧x_1=s) ho' rfl h0 h2 hx' ⟨rfl,rfl⟩
  exact this
theorem T_list_pop{a:Addr}{l:List Value}{m:Nat}{x:Value}(hsz:l.length+1≤sizeLine):TriC (model p w) S B C (.builtin "list.pop" ⟨[.ref a],[]⟩) gh [(a,⟨.type "list",none,.seq ⟨l++[x]⟩ m,#[]⟩)] n t
  (.ok (.ret x)) gh [(a,⟨.type "list",none,.seq ⟨l⟩ (m+1),#[]⟩)] n t:=by
 have e:Obj.mapSeq (fun xs=>xs.eraseIdxIfInBounds l.length) ⟨.type "list",none,.seq ⟨l++[x]⟩ m,#[]⟩=⟨.type "list",none,.seq ⟨l⟩ (m+1),#[]⟩:=by
  show (⟨.type "list",none,.seq ((Array.mk (l++[x])).eraseIdxIfInBounds l.length) _,#[]⟩:Obj)=_
  have e1:(Array.mk (l++[x])).eraseIdxIfInBounds l.length=⟨l⟩:=by
   apply Array.toList_inj.mp
   simp[Array.eraseIdxIfInBounds,List.eraseIdx_append_of_length_le]
  rw[e1,if_neg (by simp[Array.eraseIdxIfInBounds,List.eraseIdx_append_of_length_le])]
 have key:=vH (p:=p) (w:=w) (S:=S) (B:=B) (gh:=gh) (pre:=[]) (n:=n) (t:=t) (t':=t) (v:=x) hC (f:=Obj.mapSeq (fun xs=>xs.eraseIdxIfInBounds l.length)) (o:=⟨.type "list",none,.seq ⟨l++[x]⟩ m,#[]⟩) (by rw[e];rfl) F.entry_list_pop
  (sF a l m x hsz) fun A R s _ ht ho _ hR=>⟨ho,by rw[show s.toks=t from ht];exact hR⟩
 rw[e]at key
 exact key
end
variable{prog:Program}{w:World}{A:Around}{E:Value→Shared→Prop}{s:Shared}
theorem wv{Γ:Ctx}{p:Pos}{t:Sem PySem.Fin}{e:Value}{s':Shared}(hh:Γ.handled=none)
  (H:∀A,A.handled=none→wpAny (model prog w) A t (fun _ _=>False) (fun x y=>x=e∧y=s') s):Runs (model prog w) Γ p t [] s (.ret (.error e)) s':=by
 have hw:=H ⟨none,frameCount Γ.below+Γ.code.weight,none,none,Γ.code.cUnits+PySem.unitsOf Γ.below⟩ rfl Γ p ⟨hh,Nat.le_refl _,(fun _ h=>nomatch h),(fun _ h=>nomatch h),Nat.le_refl _⟩
 have hw':Sem.wp (model prog w) Γ t (Sem.finPost (model prog w) Γ fun r x=>r=.error e∧x=s') (fun e' _ x=>(.error e':Result)=.error e∧x=s') p s:=
  Sem.wp_mono _ Γ t (fun a p' x hx=>hx.elim) (fun e' p' x hx=>by obtain⟨rfl,rfl⟩:=hx;exact⟨rfl,rfl⟩) p s hw
 obtain⟨r,x,hr,rfl,rfl⟩:=(Sem.wp_iff_runs (model prog w) Γ t _ p s).mp hw'
 exact hr
theorem ou{it l:Addr}{i:Nat}{o ol:Obj}{items:Array Value}{n:Nat}{x:Value}{Q:PySem.Fin→Shared→Prop}(ho:s.heap.get? it=some o)(hd:o.data=.fields #[.ref l,.int i 0])
  (hol:s.heap.get? l=some ol) (hdl:ol.data=.seq items n) (hx:items[i]?=some x) (hQ:Q (.done (.ret x)) {s with heap:=s.heap.update it (Obj.mapFields fun vs=>vs.setIfInBounds 1 (rawInt ((i:Int)+1)))}):
  wpAny (model prog w) A (Builtin.«list_iterator.__next__» ⟨[.ref it],[]⟩) Q E s:=by
 show wpAny _ _ (field (.ref it) 0 >>= _) _ _ s
 refine wpAny_bind (wpAny_field ho hd (x:=.ref l) rfl ?_)
 show wpAny _ _ (if (Value.ref l==Value.none)=true then _ else _) _ _ s
 rw[if_neg (show ¬((Value.ref l==Value.none)=true) from Bool.false_ne_true)]
 show wpAny _ _ (field (.ref it) 1 >>= _) _ _ s
 refine wpAny_bind (wpAny_field ho hd (x:=.int i 0) rfl ?_)
 show wpAny _ _ (seqItems? (.ref l) >>= _) _ _ s
 refine wpAny_bind (wpAny_seqItems hol hdl ?_)
 simp only[Int.toNat_natCast,hx]
 exact wpAny_bind (wpAny_setField ho hd (by simp) (wpAny_pure hQ))
theorem qo(hh:A.handled=none){it l:Addr}{i:Nat}{o ol:Obj}{items:Array Value}{n:Nat}{Q:PySem.Fin→Shared→Prop}(ho:s.heap.get? it=some o)(hd:o.data=.fields #[.ref l,.int i 0])
  (hol:s.heap.get? l=some ol) (hdl:ol.data=.seq items n) (hx:items[i]?=none)
  (hQ:E (.ref (s.heap.objs.size+1)) {s with heap:=((s.heap.update it (Obj.mapFields fun vs=>vs.setIfInBounds 0 .none)).push {cls:=.type "tuple",data:=.seq #[]}).push {cls:=.type "StopIteration",data:=.fields #[.ref s.heap.objs.size,.none,.none,.none,.bool false,.none]}}):
  wpAny (model prog w) A (Builtin.«list_iterator.__next__» ⟨[.ref it],[]⟩) Q E s:=by
 show wpAny _ _ (field (.ref it) 0 >>= _) _ _ s
 refine wpAny_bind (wpAny_field ho hd (x:=.ref l) rfl ?_)
 show wpAny _ _ (if (Value.ref l==Value.none)=true then _ else _) _ _ s
 rw[if_neg (show ¬((Value.ref l==Value.none)=true) from Bool.false_ne_true)]
 show wpAny _ _ (field (.ref it) 1 >>= _) _ _ s
 refine wpAny_bind (wpAny_field ho hd (x:=.int i 0) rfl ?_)
 show wpAny _ _ (seqItems? (.ref l) >>= _) _ _ s
 refine wpAny_bind (wpAny_seqItems hol hdl ?_)
 simp only[Int.toNat_natCast,hx]
 refine wpAny_bind (wpAny_rule (wpAny_bind (wpAny_setField ho hd (by simp) ?_)))
 have hsz:(s.heap.update it (Obj.mapFields fun vs=>vs.setIfInBounds 0 .none)).objs.size=s.heap.objs.size:=(Heap.SameBut.update (a:=it) (h:=s.heap) (f:=Obj.mapFields fun vs=>vs.setIfInBounds 0 .none) |>.1)
 show wpAny _ _ (newExc (.type "StopIteration") [] >>= _) _ _ _
 refine wpAny_bind ?_
 simp only[newExc,newTuple]
 refine wpAny_bind (wpAny_newObj_type ?_ (by size_fits))
 refine wpAny_bind (m:=firstArgMember _ _) (wpAny_of_eq (a:=Value.none) (by first|rfl|(simp only[firstArgMember];rfl)) ?_)
 refine wpAny_newObj_type ?_ (by size_fits)
 refine wpAny_raiseNew_none hh ?_
 have ho':ownMembersOf (.type "StopIteration") []=#[]:=by kernel_rfl
 have e2:((s.heap.update it (Obj.mapFields fun vs=>vs.setIfInBounds 0 .none)).push {cls:=.type "tuple",data:=.seq #[]}).objs.size=s.heap.objs.size+1:=by
  show (Array.push _ _).size=_
  rw[Array.size_push]
  exact congrArg (·+1) hsz
 rw[ho']
 show E (.ref ((s.heap.update it (Obj.mapFields fun vs=>vs.setIfInBounds 0 .none)).push {cls:=.type "tuple",data:=.seq #[]}).objs.size) {s with heap:=((s.heap.update it (Obj.mapFields fun vs=>vs.setIfInBounds 0 .none)).push {cls:=.type "tuple",data:=.seq #[]}).push {cls:=.type "StopIteration",data:=.fields #[.ref (s.heap.update it (Obj.mapFields fun vs=>vs.setIfInBounds 0 .none)).objs.size,.none,.none,.none,.bool false,.none]}}
 rw[e2,hsz]
 exact hQ
def cm(l:Addr)(i:Nat):Obj:=⟨.type "list_iterator",none,.fields #[.ref l,.int i 0],#[]⟩
def fH(i:Nat):Obj:=⟨.type "list_iterator",none,.fields #[.none,.int i 0],#[]⟩
def ah(l:List Value)(m:Nat):Obj:=⟨.type "list",none,.seq ⟨l⟩ m,#[]⟩
def iq(n:Addr):Obj:=⟨.type "StopIteration",none,.fields #[.ref n,.none,.none,.none,.bool false,.none],#[]⟩
section
variable{p:Program}{w:World}{S:HT}{B:Nat}{gh:List (Addr×Obj)}{n t:Nat}{C:Ctx→Prop}(hC:∀Γ,C Γ→Γ.handled=none)
include hC
theorem du{it l:Addr}{i m:Nat}{xs:List Value}{x:Value}(hx:xs[i]?=some x):
  TriC (model p w) S B C (.builtin "list_iterator.__next__" ⟨[.ref it],[]⟩) gh [(it,cm l i),(l,ah xs m)] n t (.ok (.ret x)) gh [(it,cm l (i+1)),(l,ah xs m)] n t:=by
 have key:=gi (p:=p) (w:=w) (S:=S) (B:=B) (gh:=gh) (pre:=[(l,ah xs m)]) (n:=n) (t:=t) (t':=t) (f:=.ret x) (cd:=.builtin "list_iterator.__next__" ⟨[.ref it],[]⟩) hC (a:=it) (o:=cm l i)
  (g:=Obj.mapFields fun vs=>vs.setIfInBounds 1 (rawInt ((i:Int)+1))) rfl fun Γ P h gs dd os hh lo hp=>by
  rw[cM entry_listiter_next]
  refine bL hh fun A hA=>?_
  refine ou (o:=cm l i) (ol:=ah xs m) (items:=⟨xs⟩) (n:=m) (x:=x) (hp (it,_) List.mem_cons_self) rfl (hp (l,_) (List.mem_cons_of_mem _ List.mem_cons_self)) rfl ?_ ⟨rfl,rfl⟩
  exact(List.getElem?_toArray (xs:=xs) (i:=i)).trans hx
 exact key
theorem jj{it l:Addr}{i m:Nat}{xs:List Value}(hx:xs[i]?=none):
  TriC (model p w) S B C (.builtin "list_iterator.__next__" ⟨[.ref it],[]⟩) gh [(it,cm l i),(l,ah xs m)] n t (.error (.ref (n+1))) gh [(it,fH i),(l,ah xs m),(n+1,iq n)] (n+2) t:=by
 intro nd lo big Γ P h gs d os hΓ hL hn hs hp hgh
 have ho:h.get? it=some (cm l i):=hp (it,_) List.mem_cons_self
 have hl:h.get? l=some (ah xs m):=hp (l,_) (List.mem_cons_of_mem _ List.mem_cons_self)
 have hlt:=Heap.lt_size ho
 have hlt2:=Heap.lt_size hl
 rw[hn]at hlt hlt2
 have nil:it≠l:=by
  have:=(List.nodup_cons.mp nd).1
  intro e;exact this (by rw[e];exact List.mem_cons_self)
 let h1:=h.update it (Obj.mapFields fun vs=>vs.setIfInBounds 0 .none)
 let h2:=h1.push {cls:=.type "tuple",data:=.seq #[]}
 let h3:=h2.push (iq n)
 have z1:h1.objs.size=n:=(Heap.SameBut.update (a:=it) (h:=h) (f:=Obj.mapFields fun vs=>vs.setIfInBounds 0 .none) |>.1).trans hn
 have z2:h2.objs.size=n+1:=by show (Array.push _ _).size=_;rw[Array.size_push];exact congrArg (·+1) z1
 have z3:h3.objs.size=n+2:=by show (Array.push _ _).size=_;rw[Array.size_push];exact congrArg (·+1) z2
 have k:∀b o,b≠it→h.get? b=some o→h3.get? b=some o:=fun b o hb hbo=>Heap.get?_push_of_some _ (Heap.get?_push_of_some _ ((Heap.get?_update_ne _ _ _ _ hb).trans hbo))
 refine⟨h3,?_,z3,Nat.le_add_right _ _,by cases h;rfl,?_,fun x hx=>?_,fun b hb hnb o hbo=>?_,fun x hx=>?_⟩
 ·rw[cM entry_listiter_next]
  refine wv (hC Γ hL) fun A hA=>?_
  refine qo hA (o:=cm l i) (ol:=ah xs m) (items:=⟨xs⟩) (n:=m) ho rfl hl rfl ((List.getElem?_toArray (xs:=xs) (i:=i)).trans hx) ?_
  show _∧_
  rw[show (⟨h,gs,d,t,os⟩:Shared).heap.objs.size=n from hn]
  exact⟨rfl,rfl⟩
 ·show [it,l,n+1].Nodup
  rw[List.nodup_cons,List.nodup_cons]
  refine⟨?_,?_,by simp⟩
  ·simp only[List.mem_cons,List.not_mem_nil,or_false,not_or];exact⟨nil,fun e=>Nat.lt_irrefl n (Nat.lt_of_succ_lt (by rw[e]at hlt;exact hlt))⟩
  ·simp only[List.mem_cons,List.not_mem_nil,or_false];exact fun e=>Nat.lt_irrefl n (Nat.lt_of_succ_lt (by rw[e]at hlt2;exact hlt2))
 ·rcases List.mem_cons.mp hx with e|e
  ·subst e
   exact⟨.inl List.mem_cons_self,Heap.get?_push_of_some _ (Heap.get?_push_of_some _ (Heap.get?_update_self _ ho rfl))⟩
  ·rcases List.mem_cons.mp e with e|e
   ·subst e
    exact⟨.inl (List.mem_cons_of_mem _ List.mem_cons_self),k l _ nil.symm hl⟩
   ·rcases List.mem_cons.mp e with e|e
    ·subst e
     refine⟨.inr (Nat.le_add_right _ _),?_⟩
     have:=Heap.get?_push_size h2 (o:=iq n) rfl
     rw[z2]at this
     exact this
    ·cases e
 ·exact k b o (fun e=>hnb (by rw[e];exact List.mem_cons_self)) hbo
 ·obtain⟨x1,x2⟩:=hgh x hx
  have xlt:=Heap.lt_size x1
  rw[hn]at xlt
  refine⟨k _ _ (fun e=>x2 (by rw[e];exact List.mem_cons_self)) x1,fun z=>?_,.inl (List.mem_map.mpr ⟨x,hx,rfl⟩)⟩
  rcases List.mem_cons.mp z with e|e
  ·exact x2 (by rw[e];exact List.mem_cons_self)
  ·rcases List.mem_cons.mp e with e|e
   ·exact x2 (by rw[e];exact List.mem_cons_of_mem _ List.mem_cons_self)
   ·rcases List.mem_cons.mp e with e|e
    ·have e':x.1=n+1:=e
     exact Nat.lt_irrefl n (Nat.lt_of_succ_lt (by rw[e']at xlt;exact xlt))
    ·cases e
end
variable{prog:Program}{w:World}{A:Around}{E:Value→Shared→Prop}{s:Shared}
theorem kn{Γ:Ctx}{p:Pos}{cd:Code}{R:Result→Shared→Prop}(hh:Γ.handled=none)(hΓ:Γ.code=cd)
  (H:∀A,A.handled=none→codeAny (model prog w) A cd R s):∃r x,Runs (model prog w) Γ p ((model prog w).den cd) [] s (.ret r) x∧R r x:=by
 have hw:=H ⟨none,frameCount Γ.below+Γ.code.weight,none,none,Γ.code.cUnits+PySem.unitsOf Γ.below⟩ rfl Γ p hΓ ⟨hh,Nat.le_add_right _ _,(fun _ h=>nomatch h),(fun _ h=>nomatch h),Nat.le_add_left _ _⟩
 have hw':Sem.wp (model prog w) Γ ((model prog w).den cd) (Sem.finPost (model prog w) Γ R) (fun e _ x=>R (.error e) x) p s:=by
  subst hΓ;exact(wpCode_iff_wp _ _ _ _ _).mp hw
 obtain⟨r,x,hr,hx⟩:=(Sem.wp_iff_runs (model prog w) Γ _ _ p s).mp hw'
 exact⟨r,x,hr,hx⟩
theorem sG{it l:Addr}{i m:Nat}{items:List Value}{x:Value}{Q:Option Value→Shared→Prop}(ho:s.heap.get? it=some (cm l i))
  (hl:s.heap.get? l=some (ah items m)) (hx:items[i]?=some x)
  (hQ:Q (some x) {s with heap:=s.heap.update it (Obj.mapFields fun vs=>vs.setIfInBounds 1 (rawInt ((i:Int)+1)))}):
  wpAny (model prog w) A (pyNext (.ref it)) Q E s:=by
 unfold pyNext
 refine wpAny_bind (wpAny_attempt (wpAny_callSpecial?_slot (name:=Str.ofString "__next__") ⟨_,ho,rfl⟩ slot_listiter_next
  (wpAny_call_entry slot_listiter_next ⟨_,ho,rfl⟩ entry_listiter_next ?_ (args_listiter_next _))))
 refine ou ho rfl hl rfl ((List.getElem?_toArray (xs:=items) (i:=i)).trans hx) ?_
 exact⟨x,rfl,wpAny_pure hQ⟩
theorem ve{it l:Addr}{i m:Nat}{items:List Value}{Q:Option Value→Shared→Prop}(hh:A.handled=none)(ho:s.heap.get? it=some (cm l i))
  (hl:s.heap.get? l=some (ah items m)) (hx:items[i]?=none)
  (hQ:Q none {s with heap:=((s.heap.update it (Obj.mapFields fun vs=>vs.setIfInBounds 0 .none)).push {cls:=.type "tuple",data:=.seq #[]}).push (iq s.heap.objs.size)}):
  wpAny (model prog w) A (pyNext (.ref it)) Q E s:=by
 have z1:(s.heap.update it (Obj.mapFields fun vs=>vs.setIfInBounds 0 .none)).objs.size=s.heap.objs.size:=(Heap.SameBut.update (a:=it) (h:=s.heap) (f:=Obj.mapFields fun vs=>vs.setIfInBounds 0 .none) |>.1)
 have z2:((s.heap.update it (Obj.mapFields fun vs=>vs.setIfInBounds 0 .none)).push {cls:=.type "tuple",data:=.seq #[]}).objs.size=s.heap.objs.size+1:=by
  show (Array.push _ _).size=_
  rw[Array.size_push];exact congrArg (·+1) z1
 unfold pyNext
 refine wpAny_bind (wpAny_attempt (wpAny_callSpecial?_slot (name:=Str.ofString "__next__") ⟨_,ho,rfl⟩ slot_listiter_next
  (wpAny_call_entry slot_listiter_next ⟨_,ho,rfl⟩ entry_listiter_next ?_ (args_listiter_next _))))
 refine qo (o:=cm l i) (ol:=ah items m) (show A.in1.handled=none from hh) ho rfl hl rfl ((List.getElem?_toArray (xs:=items) (i:=i)).trans hx) ?_
 refine wpAny_bind (wpAny_isInstance (T:="StopIteration") (b:=true) ⟨iq s.heap.objs.size,?_,rfl⟩ isSubtype_stop ?_)
 ·have:=Heap.get?_push_size ((s.heap.update it (Obj.mapFields fun vs=>vs.setIfInBounds 0 .none)).push {cls:=.type "tuple",data:=.seq #[]}) (o:=iq s.heap.objs.size) rfl
  rw[z2]at this
  exact this
 ·exact wpAny_pure hQ
def dS(ps:List (Int×Nat)):List Value:=ps.map fun p=>.int p.1 p.2
def ic:List (Int×Nat)→Int
 |[]=>0
 |p::l=>p.1+ic l
def p4(ps:List (Int×Nat)):Prop:=∀p∈ps,0≤p.1∧p.1≤1000000000
structure SumPost (I a S:Addr) (ps:List (Int×Nat)) (m c:Nat) (tot:Int) (tr k:Nat) (s:Shared) (r:Result) (x:Shared):Prop where
 res:r=.ok (.ret (.int tot tr))
 toks:x.toks=s.toks+k
 gens:x.gens=s.gens
 drawn:x.drawn=s.drawn
 os:x.os=s.os
 size:x.heap.objs.size=s.heap.objs.size+2
 life:x.heap.life=s.heap.life
 it:x.heap.get? I=some (fH ps.length)
 li:x.heap.get? a=some (ah (dS ps) m)
 st:x.heap.get? S=some (ah [.int tot tr] c)
 frame:∀b o,b≠I→b≠S→s.heap.get? b=some o→x.heap.get? b=some o
theorem kH(h:Heap)(a:Addr)(f:Obj→Obj):(h.update a f).life=h.life:=by cases h;rfl
theorem life_push(h:Heap)(o:Obj):(h.push o).life=h.life:=by cases h;rfl
theorem kC(h:Heap)(a:Addr)(f:Obj→Obj):(h.update a f).objs.size=h.objs.size:=(Heap.SameBut.update (a:=a) (h:=h) (f:=f) |>.1)
theorem size_push(h:Heap)(o:Obj):(h.push o).objs.size=h.objs.size+1:=by show (Array.push _ _).size=_;rw[Array.size_push]
theorem xy(ps:List (Int×Nat))(i:Nat):(dS ps)[i]?=(ps[i]?).map fun p=>.int p.1 p.2:=by simp[dS]
theorem EU{ps:List (Int×Nat)}{i:Nat}{p:Int×Nat}(h:ps[i]?=some p):ic (ps.drop i)=p.1+ic (ps.drop (i+1)):=by
 obtain⟨hi,e⟩:=List.getElem?_eq_some_iff.mp h
 rw[List.drop_eq_getElem_cons hi,e];rfl
theorem pZ{I a S:Addr}(hIa:I≠a)(hIS:I≠S)(haS:a≠S)(hh:A.handled=none){ps:List (Int×Nat)}(hp:p4 ps){m c:Nat}:
  ∀(k i:Nat) (s:Shared) (tot:Int) (tA:Nat),ps.length=i+k→0≤tot→tot+1000000000*k<2^62→s.heap.get? I=some (cm a i)→s.heap.get? a=some (ah (dS ps) m)→s.heap.get? S=some (ah [.int tot tA] c)→
  codeAny (model prog w) A (.builtin "sum.loop" ⟨[.ref I,.ref S,rawInt 0,rawInt 0],[]⟩) (SumPost I a S ps m c (tot+ic (ps.drop i)) (if k=0 then tA else s.toks+k-1) k s) s:=by
 intro k
 induction k with
 |zero=>
  intro i s tot tA hk h0 hb hI ha hS
  refine codeAny_builtin F.entry_sum_loop ?_
  rw[Around.under_plainId F.plain_sum_loop _]
  show wpAny _ A.in1 (seqItems? (.ref S) >>= _) _ _ s
  refine wpAny_bind (wpAny_seqItems hS rfl ?_)
  show wpAny _ A.in1 (tryCatch (pyNext (.ref I)) _ >>= _) _ _ s
  refine wpAny_bind (wpAny_tryCatch (ve hh hI ha (by rw[xy,List.getElem?_eq_none (by omega)];rfl) ?_))
  have hlt:=Heap.lt_size ha
  have hltI:=Heap.lt_size hI
  have k:∀b o,b≠I→s.heap.get? b=some o→(((s.heap.update I (Obj.mapFields fun vs=>vs.setIfInBounds 0 .none)).push {cls:=.type "tuple",data:=.seq #[]}).push (iq s.heap.objs.size)).get? b=some o:=fun b o hb hbo=>
   Heap.get?_push_of_some _ (Heap.get?_push_of_some _ ((Heap.get?_update_ne _ _ _ _ hb).trans hbo))
  have hz:ic (ps.drop i)=0:=by rw[List.drop_eq_nil_of_le (by omega)];rfl
  rw[if_pos rfl,hz,Int.add_zero]
  refine wpAny_pure ⟨rfl,rfl,rfl,rfl,rfl,?_,?_,?_,k _ _ hIa.symm ha,k _ _ hIS.symm hS,fun b o hb _=>k b o hb⟩
  ·rw[size_push,size_push,kC]
  ·rw[life_push,life_push,kH]
  ·refine Heap.get?_push_of_some _ (Heap.get?_push_of_some _ ?_)
   rw[Heap.get?_update_self _ hI rfl,hk];rfl
 |succ k ih=>
  intro i s tot tA hk h0 hb hI ha hS
  have hi:i<ps.length:=by omega
  have hx:(dS ps)[i]?=some (.int ps[i].1 ps[i].2):=by rw[xy,List.getElem?_eq_getElem hi];rfl
  obtain⟨g1,g2⟩:=hp ps[i] (List.getElem_mem hi)
  refine codeAny_builtin F.entry_sum_loop ?_
  rw[Around.under_plainId F.plain_sum_loop _]
  show wpAny _ A.in1 (seqItems? (.ref S) >>= _) _ _ s
  refine wpAny_bind (wpAny_seqItems hS rfl ?_)
  show wpAny _ A.in1 (tryCatch (pyNext (.ref I)) _ >>= _) _ _ s
  refine wpAny_bind (wpAny_tryCatch (sG hI ha hx ?_))
  have hS':(s.heap.update I (Obj.mapFields fun vs=>vs.setIfInBounds 1 (rawInt ((i:Int)+1)))).get? S=some (ah [.int tot tA] c):=(Heap.get?_update_ne _ _ _ _ hIS.symm).trans hS
  have hc:((decide (-(2^63)≤ps[i].1)&&decide (ps[i].1<2^63))&&(decide (-(2^63)≤tot+ps[i].1)&&decide (tot+ps[i].1<2^63)))=true:=by
   simp only[Bool.and_eq_true,decide_eq_true_eq]
   refine⟨⟨?_,?_⟩,?_,?_⟩<;>omega
  show wpAny _ A.in1 (if (_:Bool)=true then (mkInt (tot+ps[i].1) >>= _) else _) _ _ _
  split
  ·refine wpAny_bind (wpAny_mkInt ?_)
   show wpAny _ A.in1 (updateSeq S (fun _=>#[.int (tot+ps[i].1) s.toks]) >>= _) _ _ _
   refine wpAny_bind ?_
   refine wpAny_updateSeq hS' rfl (wpAny_pure ⟨plainId_quiet F.plain_sum_loop _,?_⟩)
   have key:=ih (i+1) {s with heap:=(s.heap.update I (Obj.mapFields fun vs=>vs.setIfInBounds 1 (rawInt ((i:Int)+1)))).update S (Obj.mapSeq fun _=>#[.int (tot+ps[i].1) s.toks]),toks:=s.toks+1} (tot+ps[i].1) s.toks (by omega) (by omega) (by omega)
    ((Heap.get?_update_ne _ _ _ _ hIS).trans (Heap.get?_update_self _ hI rfl)) ((Heap.get?_update_ne _ _ _ _ haS).trans ((Heap.get?_update_ne _ _ _ _ hIa.symm).trans ha)) (Heap.get?_update_self _ hS' rfl)
   refine codeAny_mono key fun r x X=>?_
   have e1:tot+ps[i].1+ic (ps.drop (i+1))=tot+ic (ps.drop i):=by
    rw[EU (List.getElem?_eq_getElem hi),Int.add_assoc]
   have e2:(if k=0 then s.toks else s.toks+1+k-1)=(if k+1=0 then tA else s.toks+(k+1)-1):=by
    rw[if_neg (by omega:¬k+1=0)]
    split
    ·subst_vars;simp
    ·show s.toks+1+k-1=_;omega
   have X':=X
   rw[e1,show (if k=0 then s.toks else ({s with heap:=(s.heap.update I (Obj.mapFields fun vs=>vs.setIfInBounds 1 (rawInt ((i:Int)+1)))).update S (Obj.mapSeq fun _=>#[.int (tot+ps[i].1) s.toks]),toks:=s.toks+1}:Shared).toks+k-1)=(if k+1=0 then tA else s.toks+(k+1)-1) from e2]at X'
   refine⟨X'.res,X'.toks.trans (by show s.toks+1+k=s.toks+(k+1);omega),X'.gens,X'.drawn,X'.os,X'.size.trans ?_,X'.life.trans ?_,X'.it,X'.li,X'.st,fun b o hb hb' e=>X'.frame b o hb hb' ?_⟩
   ·show (Heap.update _ _ _).objs.size+2=_
    rw[kC,kC]
   ·show (Heap.update _ _ _).life=_
    rw[kH,kH]
   ·exact(Heap.get?_update_ne _ _ _ _ hb').trans ((Heap.get?_update_ne _ _ _ _ hb).trans e)
  ·rename_i hneg
   exact absurd hc hneg
section
variable{S:HT}{B:Nat}{gh:List (Addr×Obj)}{n t:Nat}{C:Ctx→Prop}(hC:∀Γ,C Γ→Γ.handled=none)
include hC
theorem A5{I a St:Addr}{ps:List (Int×Nat)}(hp:p4 ps)(hl:ps.length≤40){m:Nat}{tA:Nat}:
  TriC (model prog w) S B C (.builtin "sum.loop" ⟨[.ref I,.ref St,.int 0 0,.int 0 0],[]⟩) gh [(I,cm a 0),(a,ah (dS ps) m),(St,ah [.int 0 tA] 0)] n t
   (.ok (.ret (.int (ic ps) (if ps.length=0 then tA else t+ps.length-1)))) gh [(I,fH ps.length),(a,ah (dS ps) m),(St,ah [.int (ic ps) (if ps.length=0 then tA else t+ps.length-1)] 0)] (n+2) (t+ps.length):=by
 intro nd lo big Γ P h gs d os hΓ hL hn hs hpre hgh
 have hI:h.get? I=some (cm a 0):=hpre (I,_) List.mem_cons_self
 have ha:h.get? a=some (ah (dS ps) m):=hpre (a,_) (List.mem_cons_of_mem _ List.mem_cons_self)
 have hS:h.get? St=some (ah [.int 0 tA] 0):=hpre (St,_) (List.mem_cons_of_mem _ (List.mem_cons_of_mem _ List.mem_cons_self))
 simp only[List.map_cons,List.map_nil,List.nodup_cons,List.mem_cons,List.not_mem_nil,or_false,not_or]at nd
 obtain⟨r,x,hr,X⟩:=kn (prog:=prog) (w:=w) (p:=P) (hC Γ hL) hΓ (s:=⟨h,gs,d,t,os⟩) fun A hA=>
  pZ (A:=A) (c:=0) (m:=m) nd.1.1 nd.1.2 nd.2.1 hA hp ps.length 0 ⟨h,gs,d,t,os⟩ 0 tA (by omega) (by omega) (by omega) hI ha hS
 obtain⟨X1,X2,X3,X4,X5,X6,X7,X8,X9,X10,X11⟩:=X
 have e0:(0:Int)+ic (ps.drop 0)=ic ps:=by simp
 rw[e0]at X1 X10
 obtain⟨xh,xg,xd,xt,xo⟩:=x
 simp only at X2 X3 X4 X5 X6 X7 X8 X9 X10 X11
 subst X1 X2 X3 X4 X5
 have ndP:[I,a,St].Nodup:=by simp[nd]
 refine⟨xh,hr,X6.trans (congrArg (·+2) hn),Nat.le_add_right _ _,X7,ndP,fun y hy=>?_,fun b hb hnb o ho=>?_,fun y hy=>?_⟩
 ·rcases List.mem_cons.mp hy with e|e
  ·subst e;exact⟨.inl List.mem_cons_self,X8⟩
  ·rcases List.mem_cons.mp e with e|e
   ·subst e;exact⟨.inl (List.mem_cons_of_mem _ List.mem_cons_self),X9⟩
   ·rcases List.mem_cons.mp e with e|e
    ·subst e;exact⟨.inl (List.mem_cons_of_mem _ (List.mem_cons_of_mem _ List.mem_cons_self)),X10⟩
    ·cases e
 ·exact X11 b o (fun e=>hnb (by rw[e];exact List.mem_cons_self)) (fun e=>hnb (by rw[e];exact List.mem_cons_of_mem _ (List.mem_cons_of_mem _ List.mem_cons_self))) ho
 ·obtain⟨x1,x2⟩:=hgh y hy
  refine⟨X11 _ _ (fun e=>x2 (by rw[e];exact List.mem_cons_self)) (fun e=>x2 (by rw[e];exact List.mem_cons_of_mem _ (List.mem_cons_of_mem _ List.mem_cons_self))) x1,x2,.inl (List.mem_map.mpr ⟨y,hy,rfl⟩)⟩
end
variable{prog:Program}{w:World}{A:Around}{E:Value→Shared→Prop}{s:Shared}
theorem pick7(a b c d e f g:Value)(ml:List Value):slicePick ⟨a::b::c::d::e::f::g::ml⟩ none (some 7) none=⟨[a,b,c,d,e,f,g]⟩:=by
 have hsz:(⟨a::b::c::d::e::f::g::ml⟩:Array Value).size=ml.length+7:=by simp
 have hb:sliceBounds none (some 7) none (⟨a::b::c::d::e::f::g::ml⟩:Array Value).size=(0,7,1):=by
  rw[hsz];simp[sliceBounds];omega
 unfold slicePick
 rw[hb]
 have hr:sliceRange 0 7 1=[0,1,2,3,4,5,6]:=by decide +kernel
 show ((sliceRange 0 7 1).filterMap _).toArray=_
 rw[hr];rfl
def slO(t:Nat):Obj:=⟨.type "slice",none,.fields #[.none,.int 7 t,.none],#[]⟩
section
variable{S:HT}{B:Nat}{gh:List (Addr×Obj)}{n t:Nat}{C:Ctx→Prop}(hC:∀Γ,C Γ→Γ.handled=none)
include hC
theorem Al{pre:List (Addr×Obj)}{t':Nat}{cd:Code}{f:Flow}(H:∀Γ P h gs d os,Γ.handled=none→Γ.code=cd→(∀x∈pre,B≤x.1)→(∀x∈pre,h.get? x.1=some x.2)→Runs (model prog w) Γ P ((model prog w).den cd) [] ⟨h,gs,d,t,os⟩ (.ret (.ok f)) ⟨h,gs,d,t',os⟩):
  TriC (model prog w) S B C cd gh pre n t (.ok f) gh pre n t':=by
 intro nd lo big Γ P h gs d os hΓ hL hn hs hp hgh
 exact⟨h,H Γ P h gs d os (hC Γ hL) hΓ lo hp,hn,Nat.le_refl _,rfl,nd,fun x hx=>⟨.inl (List.mem_map.mpr ⟨x,hx,rfl⟩),hp x hx⟩,fun _ _ _ o ho=>ho,fun x hx=>⟨(hgh x hx).1,(hgh x hx).2,.inl (List.mem_map.mpr ⟨x,hx,rfl⟩)⟩⟩
theorem T_slice{l sl:Addr}{t7 m:Nat}{a b c d e f g:Value}{ml:List Value}(hz:ml.length+7≤sizeLine):
  TriC (model prog w) S B C (.builtin "list.__getitem__" ⟨[.ref l,.ref sl],[]⟩) gh [(l,ah (a::b::c::d::e::f::g::ml) m),(sl,slO t7)] n t
   (.ok (.ret (.ref n))) gh [(l,ah (a::b::c::d::e::f::g::ml) m),(sl,slO t7),(n,ah [a,b,c,d,e,f,g] 0)] (n+1) t:=by
 intro nd lo big Γ P h gs dd os hΓ hL hn hs hpre hgh
 have ho:h.get? l=some (ah (a::b::c::d::e::f::g::ml) m):=hpre (l,_) List.mem_cons_self
 have hos:h.get? sl=some (slO t7):=hpre (sl,_) (List.mem_cons_of_mem _ List.mem_cons_self)
 have hlt:=Heap.lt_size ho
 have hlt2:=Heap.lt_size hos
 rw[hn]at hlt hlt2
 have nd':[l,sl].Nodup:=nd
 have k:∀b' o,h.get? b'=some o→(h.push (ah [a,b,c,d,e,f,g] 0)).get? b'=some o:=fun b' o hb=>Heap.get?_push_of_some _ hb
 refine⟨h.push (ah [a,b,c,d,e,f,g] 0),?_,by rw[size_push,hn],Nat.le_succ _,life_push _ _,?_,fun x hx=>?_,fun b' hb hnb o hbo=>k b' o hbo,fun x hx=>?_⟩
 ·rw[cM entry_list_getitem]
  refine bL (hC Γ hL) fun A hA=>?_
  show wpAny _ _ (Builtin.List.listSubscript? (.ref sl) >>= _) _ _ _
  refine wpAny_bind ?_
  unfold Builtin.List.listSubscript?
  refine wpAny_bind (wpAny_specialOf (T:="slice") ⟨_,hos,rfl⟩ slice_no_index ?_)
  simp only[Option.isNone_none,if_true]
  refine wpAny_pure ?_
  show wpAny _ _ (typeOf (.ref sl) >>= _) _ _ _
  refine wpAny_bind (wpAny_typeOf (T:="slice") ⟨_,hos,rfl⟩ ?_)
  rw[if_neg (by decide)]
  rw[listSliceParts_eq]
  refine wpAny_bind (wpAny_bind (wpAny_field hos rfl (x:=.none) rfl (wpAny_bind (wpAny_listPart .none ?_))))
  rw[if_neg (show ¬((rawPart none==rawInt 0)=true) from Bool.false_ne_true)]
  refine wpAny_bind (wpAny_field hos rfl (x:=.none) rfl (wpAny_bind (wpAny_listPart .none ?_)))
  refine wpAny_bind (wpAny_field hos rfl (x:=.int 7 t7) rfl (wpAny_bind (wpAny_listPart (.int 7 t7) (wpAny_pure ?_))))
  refine wpAny_bind (m:=Builtin.List.listItems (.ref l)) ?_
  unfold Builtin.List.listItems
  refine wpAny_bind (wpAny_seqItems ho rfl (wpAny_pure ?_))
  refine wpAny_bind (wpAny_of_eq (sliceIndices_raw none (some 7) none _ (by simp)) ?_)
  refine wpAny_bind (wpAny_newObj_type (wpAny_pure ?_) (Nat.le_trans (slicePick_size_le _ none (some 7) none) (by simpa using hz)))
  have:=pick7 a b c d e f g ml
  unfold slicePick at this
  refine⟨?_,?_⟩
  ·show PySem.Fin.done (.ret (.ref h.objs.size))=_
   rw[hn]
  ·show (⟨h.push {cls:=.type "list",data:=.seq _},gs,dd,t,os⟩:Shared)=_
   rw[this];rfl
 ·show [l,sl,n].Nodup
  have h1:=(List.nodup_cons.mp nd').1
  simp only[List.mem_cons,List.not_mem_nil,or_false]at h1
  rw[List.nodup_cons,List.nodup_cons]
  refine⟨?_,?_,by simp⟩
  ·simp only[List.mem_cons,List.not_mem_nil,or_false,not_or];exact⟨h1,Nat.ne_of_lt hlt⟩
  ·simp only[List.mem_cons,List.not_mem_nil,or_false];exact Nat.ne_of_lt hlt2
 ·rcases List.mem_cons.mp hx with q|q
  ·subst q;exact⟨.inl List.mem_cons_self,k _ _ ho⟩
  ·rcases List.mem_cons.mp q with q|q
   ·subst q;exact⟨.inl (List.mem_cons_of_mem _ List.mem_cons_self),k _ _ hos⟩
   ·rcases List.mem_cons.mp q with q|q
    ·subst q
     refine⟨.inr (Nat.le_refl _),?_⟩
     have:=Heap.get?_push_size h (o:=ah [a,b,c,d,e,f,g] 0) rfl
     rw[hn]at this
     exact this
    ·cases q
 ·obtain⟨x1,x2⟩:=hgh x hx
  have xlt:=Heap.lt_size x1
  rw[hn]at xlt
  refine⟨k _ _ x1,fun z=>?_,.inl (List.mem_map.mpr ⟨x,hx,rfl⟩)⟩
  rcases List.mem_cons.mp z with q|q
  ·exact x2 (by rw[q];exact List.mem_cons_self)
  ·rcases List.mem_cons.mp q with q|q
   ·exact x2 (by rw[q];exact List.mem_cons_of_mem _ List.mem_cons_self)
   ·rcases List.mem_cons.mp q with q|q
    ·exact Nat.ne_of_lt xlt q
    ·cases q
theorem T_len{l:Addr}{m:Nat}{xs:List Value}(hz:xs.length≤1000):
  TriC (model prog w) S B C (.call (.builtin "len") ⟨[.ref l],[]⟩) gh [(l,ah xs m)] n t (.ok (.ret (.int xs.length (t+1)))) gh [(l,ah xs m)] n (t+2):=
 Al hC fun Γ P h gs dd os hh hΓ lo hp=>by
  have ho:h.get? l=some (ah xs m):=hp (l,_) List.mem_cons_self
  ·obtain⟨r,x,hr,rfl,rfl⟩:=kn (prog:=prog) (w:=w) (p:=P) hh hΓ (s:=⟨h,gs,dd,t,os⟩) (R:=fun r x=>r=.ok (.ret (.int xs.length (t+1)))∧x=⟨h,gs,dd,t+2,os⟩) fun A hA=>by
    refine codeAny_call_builtin plain_len entry_len ?_
    simp only[checkBuiltinCall,kind_len]
    have ha:=args_len1 (.ref l)
    have body:wpAny (model prog w) A.in1 (Builtin.«len» ⟨[.ref l],[]⟩) (fun fin s'=>match fin with
      |.done f=>(Except.ok f:Result)=.ok (.ret (.int xs.length (t+1)))∧s'=⟨h,gs,dd,t+2,os⟩
      |.again c'=>c'.quiet=true∧codeAny (model prog w) A c' (fun r x=>r=.ok (.ret (.int xs.length (t+1)))∧x=⟨h,gs,dd,t+2,os⟩) s')
      (fun e s'=>(Except.error e:Result)=.ok (.ret (.int xs.length (t+1)))∧s'=⟨h,gs,dd,t+2,os⟩) ⟨h,gs,dd,t,os⟩:=by
     unfold Builtin.«len»
     refine wpAny_bind (m:=oneArg "len" _) (wpAny_pure ?_)
     refine wpAny_bind (m:=callSpecial? (.ref l) (Str.ofString "__len__")) (wpAny_callSpecial?_slot (name:=Str.ofString "__len__") ⟨_,ho,rfl⟩ slot_list_len
      (wpAny_call_entry slot_list_len ⟨_,ho,rfl⟩ entry_list_len ?_ (args_list_len _)))
     show wpAny _ _ (do retInt (←seqSize l)) _ _ _
     unfold seqSize
     refine wpAny_bind (wpAny_bind (wpAny_load ho ?_))
     refine wpAny_pure (wpAny_bind (wpAny_mkInt (wpAny_pure ⟨_,rfl,?_⟩)))
     refine wpAny_bind (wpAny_holding (wpAny_pure ?_))
     refine wpAny_bind (wpAny_letGo ?_)
     show wpAny _ _ (if ((xs.length:Nat):Int)<0 then _ else _) _ _ _
     rw[if_neg (by omega)]
     show wpAny _ _ (if ((xs.length:Nat):Int)≥2^63 then _ else _) _ _ _
     rw[if_neg (by omega)]
     exact wpAny_bind (wpAny_mkInt (wpAny_pure ⟨rfl,rfl⟩))
    cases hsig:Manifest.signature? "len" with
    |none=>exact wpAny_pure body
    |some sig=>
     simp only[argsOk,hsig]at ha
     have h2:Bind.checkArgs "len" sig ⟨[.ref l],[]⟩=pure ():=ha
     show wpAny _ A.in1 (Bind.checkArgs "len" sig ⟨[.ref l],[]⟩) _ _ _
     rw[h2];exact wpAny_pure body
   exact hr
end
section
variable{M:Model}{S:HT}{B:Nat}{C:Ctx→Prop}{cd:Code}{n t n' t':Nat}{r:Result}{pre post X Y g g0 g0' gh gh' g' gh2:List (Addr×Obj)}
theorem TriC.mono{C':Ctx→Prop}(hC:∀Γ,C' Γ→C Γ)(H:TriC M S B C cd gh pre n t r gh' post n' t'):TriC M S B C' cd gh pre n t r gh' post n' t':=
 fun nd lo big Γ P h gs d os hΓ hL=>H nd lo big Γ P h gs d os hΓ (hC Γ hL)
theorem fU{l:List (Addr×Obj)}{x:Addr×Obj}(h:x∈l):x.1∈l.map (·.1):=List.mem_map.mpr ⟨x,h,rfl⟩
theorem TriC.take(H:TriC M S B C cd g0 (pre++X) n t r g0' (post++X) n' t')(hX:∀x∈X,x∈gh)(hB:∀x∈X,B≤x.1)(hn:(X.map (·.1)).Nodup)
  (h0:∀y∈g0,y∈gh∧y.1∉X.map (·.1)) (h1:∀y∈gh',y∈g0'∨y∈X):TriC M S B C cd gh pre n t r gh' post n' t':=by
 intro nd lo big Γ P h gs d os hΓ hL hsz hs hp hgh
 have dis:∀x∈X,x.1∉pre.map (·.1):=fun x hx=>(hgh x (hX x hx)).2
 have nd2:((pre++X).map (·.1)).Nodup:=by
  rw[List.map_append]
  refine List.nodup_append.mpr ⟨nd,hn,fun a ha b hb e=>?_⟩
  subst e
  obtain⟨x,hx,e⟩:=List.mem_map.mp hb
  exact dis x hx (e▸ha)
 obtain⟨h',a1,a2,a3,a4,a5,a6,a7,a8⟩:=H nd2 (fun x hx=>(List.mem_append.mp hx).elim (lo x) (hB x)) big Γ P h gs d os hΓ hL hsz hs
  (fun x hx=>(List.mem_append.mp hx).elim (hp x) fun hx=>(hgh x (hX x hx)).1) (fun y hy=>⟨(hgh y (h0 y hy).1).1,fun z=>by
   rw[List.map_append]at z
   exact(List.mem_append.mp z).elim (hgh y (h0 y hy).1).2 (h0 y hy).2⟩)
 rw[List.map_append]at a5
 obtain⟨p1,p2,p3⟩:=List.nodup_append.mp a5
 refine⟨h',a1,a2,a3,a4,p1,fun x hx=>⟨?_,(a6 x (List.mem_append_left _ hx)).2⟩,fun b hb hnb o ho=>?_,fun y hy=>?_⟩
 ·rcases(a6 x (List.mem_append_left _ hx)).1 with q|q
  ·rw[List.map_append]at q
   rcases List.mem_append.mp q with q|q
   ·exact .inl q
   ·exact absurd rfl (p3 _ (fU hx) _ q)
  ·exact .inr q
 ·by_cases q:b∈X.map (·.1)
  ·obtain⟨x,hx,rfl⟩:=List.mem_map.mp q
   have e:=(hgh x (hX x hx)).1
   rw[e]at ho
   cases ho
   exact(a6 x (List.mem_append_right _ hx)).2
  ·exact a7 b hb (fun z=>by rw[List.map_append]at z;exact(List.mem_append.mp z).elim hnb q) o ho
 ·rcases h1 y hy with q|q
  ·obtain⟨z1,z2,z3⟩:=a8 y q
   rw[List.map_append]at z2
   refine⟨z1,fun z=>z2 (List.mem_append_left _ z),z3.imp (fun z=>?_) id⟩
   obtain⟨y',hy',e⟩:=List.mem_map.mp z
   exact List.mem_map.mpr ⟨y',(h0 y' hy').1,e⟩
  ·exact⟨(a6 y (List.mem_append_right _ q)).2,fun z=>p3 _ z _ (fU q) rfl,.inl (fU (hX y q))⟩
theorem TriC.give(H:TriC M S B C cd g pre n t r g' post n' t')(h0:∀y∈g,y∈X∨y∈gh)(h1:∀y∈gh',y∈g'∧(y.1∈gh.map (·.1)∨n≤y.1)):
  TriC M S B C cd gh (pre++X) n t r gh' (post++X) n' t':=by
 intro nd lo big Γ P h gs d os hΓ hL hsz hs hp hgh
 have nd':=nd
 rw[List.map_append]at nd'
 obtain⟨p1,p2,p3⟩:=List.nodup_append.mp nd'
 have live:∀x∈X,x.1<n:=fun x hx=>hsz▸Heap.lt_size (hp x (List.mem_append_right _ hx))
 have notpre:∀x∈X,x.1∉pre.map (·.1):=fun x hx z=>p3 _ z _ (fU hx) rfl
 obtain⟨h',a1,a2,a3,a4,a5,a6,a7,a8⟩:=H p1 (fun x hx=>lo x (List.mem_append_left _ hx)) big Γ P h gs d os hΓ hL hsz hs
  (fun x hx=>hp x (List.mem_append_left _ hx)) (fun y hy=>(h0 y hy).elim (fun q=>⟨hp y (List.mem_append_right _ q),notpre y q⟩) fun q=>⟨(hgh y q).1,fun z=>(hgh y q).2 (by rw[List.map_append];exact List.mem_append_left _ z)⟩)
 have notpost:∀x∈X,x.1∉post.map (·.1):=fun x hx z=>by
  obtain⟨y,hy,e⟩:=List.mem_map.mp z
  rcases(a6 y hy).1 with q|q
  ·exact notpre x hx (e▸q)
  ·exact Nat.lt_irrefl _ (Nat.lt_of_lt_of_le (live x hx) (e▸q))
 refine⟨h',a1,a2,a3,a4,?_,fun x hx=>?_,fun b hb hnb o ho=>a7 b hb (fun z=>hnb (by rw[List.map_append];exact List.mem_append_left _ z)) o ho,fun y hy=>?_⟩
 ·rw[List.map_append]
  refine List.nodup_append.mpr ⟨a5,p2,fun a ha b hb e=>?_⟩
  subst e
  obtain⟨x,hx,e⟩:=List.mem_map.mp hb
  exact notpost x hx (e▸ha)
 ·rcases List.mem_append.mp hx with q|q
  ·exact⟨(a6 x q).1.imp (fun z=>by rw[List.map_append];exact List.mem_append_left _ z) id,(a6 x q).2⟩
  ·exact⟨.inl (by rw[List.map_append];exact List.mem_append_right _ (fU q)),a7 x.1 (live x q) (notpre x q) _ (hp x (List.mem_append_right _ q))⟩
 ·obtain⟨q1,q2⟩:=h1 y hy
  obtain⟨z1,z2,_⟩:=a8 y q1
  refine⟨z1,fun z=>?_,q2⟩
  rw[List.map_append]at z
  rcases List.mem_append.mp z with z|z
  ·exact z2 z
  ·rcases q2 with q|q
   ·obtain⟨y',hy',e⟩:=List.mem_map.mp q
    exact(hgh y' hy').2 (by rw[List.map_append];exact List.mem_append_right _ (e▸z))
   ·obtain⟨x,hx,e⟩:=List.mem_map.mp z
    exact Nat.lt_irrefl _ (Nat.lt_of_lt_of_le (live x hx) (e▸q))
theorem TriC.keep(H:TriC M S B C cd gh pre n t r g' (post++Y) n' t')(hY:∀y∈Y,y.1∉pre.map (·.1))(h1:∀y∈gh',y∈g'∨y∈Y):TriC M S B C cd gh pre n t r gh' post n' t':=by
 intro nd lo big Γ P h gs d os hΓ hL hsz hs hp hgh
 obtain⟨h',a1,a2,a3,a4,a5,a6,a7,a8⟩:=H nd lo big Γ P h gs d os hΓ hL hsz hs hp hgh
 rw[List.map_append]at a5
 obtain⟨p1,p2,p3⟩:=List.nodup_append.mp a5
 refine⟨h',a1,a2,a3,a4,p1,fun x hx=>a6 x (List.mem_append_left _ hx),a7,fun y hy=>?_⟩
 rcases h1 y hy with q|q
 ·obtain⟨z1,z2,z3⟩:=a8 y q
  exact⟨z1,fun z=>z2 (by rw[List.map_append];exact List.mem_append_left _ z),z3⟩
 ·obtain⟨z1,z2⟩:=a6 y (List.mem_append_right _ q)
  exact⟨z2,fun z=>p3 _ z _ (fU q) rfl,.inr (z1.resolve_left (hY y q))⟩
theorem TriC.less(H:TriC M S B C cd gh pre n t r g' post n' t')(h1:∀y∈gh',y∈g'):TriC M S B C cd gh pre n t r gh' post n' t':=by
 intro nd lo big Γ P h gs d os hΓ hL hsz hs hp hgh
 obtain⟨h',a1,a2,a3,a4,a5,a6,a7,a8⟩:=H nd lo big Γ P h gs d os hΓ hL hsz hs hp hgh
 exact⟨h',a1,a2,a3,a4,a5,a6,a7,fun y hy=>a8 y (h1 y hy)⟩
theorem TriC.keepAll(H:TriC M S B C cd gh pre n t r g' post n' t')(h1:∀y∈gh',y∈g'∨y∈gh):TriC M S B C cd gh pre n t r gh' post n' t':=by
 intro nd lo big Γ P h gs d os hΓ hL hsz hs hp hgh
 obtain⟨h',a1,a2,a3,a4,a5,a6,a7,a8⟩:=H nd lo big Γ P h gs d os hΓ hL hsz hs hp hgh
 refine⟨h',a1,a2,a3,a4,a5,a6,a7,fun y hy=>(h1 y hy).elim (a8 y) fun q=>?_⟩
 obtain⟨x1,x2⟩:=hgh y q
 have lt:y.1<n:=hsz▸Heap.lt_size x1
 refine⟨a7 _ lt x2 _ x1,fun z=>?_,.inl (fU q)⟩
 obtain⟨x,hx,e⟩:=List.mem_map.mp z
 rcases(a6 x hx).1 with w|w
 ·exact x2 (e▸w)
 ·exact Nat.lt_irrefl _ (Nat.lt_of_lt_of_le lt (e▸w))
end
theorem ab{α:Type}{P:α→Prop}{a:α}{l:List α}(h:P a)(t:∀k∈l,P k):∀k∈a::l,P k:=fun k hk=>(List.mem_cons.mp hk).elim (fun e=>e▸h) (t k)
theorem aa{α:Type}{P:α→Prop}:∀k∈([]:List α),P k:=fun _ h=>nomatch h
end
section
open PySem PySem.W PyProof.Rows
noncomputable def dN:List Nat→Bool
 |[]=>true
 |x::l=>l.all (fun y=>!Nat.beq x y)&&dN l
theorem pp{l:List Nat}(h:dN l=true):l.Nodup:=by
 induction l with
 |nil=>exact List.nodup_nil
 |cons x l ih=>
  obtain⟨h1,h2⟩:=Bool.and_eq_true_iff.mp (show (l.all (fun y=>!Nat.beq x y)&&dN l)=true from h)
  refine List.nodup_cons.mpr ⟨fun hm=>?_,ih h2⟩
  have:=List.all_eq_true.mp h1 x hm
  rw[Nat.beq_refl]at this;cases this
abbrev TX(w:World)(b c:Bool)(L:Nat)(cd:Code)(G:Nat→List (Addr×Obj))(R K:Nat→Nat)(i:Nat)(pre:List (Nat×Obj))(r:Result)(j:Nat)(post:List (Nat×Obj))(k:Nat):Prop:=
 Tri (MM w b c) (bV (PP w b c)) 1994 L cd (G i) (fI R pre) (R i) (K 0) r (G j) (fI R post) (R j) (K k)
abbrev TY(w:World)(b c:Bool)(L:Nat)(bl:List (Code×PySem.Pos))(cd:Code)(G:Nat→List (Addr×Obj))(R K:Nat→Nat)(i:Nat)(pre:List (Nat×Obj))(r:Result)(j:Nat)(post:List (Nat×Obj))(k:Nat):Prop:=
 TriAt (MM w b c) (bV (PP w b c)) 1994 L bl cd (G i) (fI R pre) (R i) (K 0) r (G j) (fI R post) (R j) (K k)
abbrev gX(w:World)(b c:Bool)(R K:Nat→Nat)(G:Nat→List (Addr×Obj)):Cfg:=⟨bV (PP w b c),1994,R,K,G,SG w true c⟩
abbrev sX(W:Code→WT)(w:World)(b c:Bool)(R K:Nat→Nat)(G:Nat→List (Addr×Obj))(calls:List Call)(bls:List (List (Code×PySem.Pos)))(cb lu:List Call)(N:Nat)(bl:List (Code×PySem.Pos))(cd:Code)(P:PySem.Pos)(pre:List (Nat×Obj))(i:Nat)(H:Hn):Q:=
 se W (lI calls bls cb lu) (gX w b c R K G) N ⟨cd,none,none,bl,none⟩ cd P (putL pre .nil) i 0 [] H
theorem mG{w:World}{b c:Bool}{G:Nat→List (Addr×Obj)}{R K:Nat→Nat}{calls lu:List Call}{L N:Nat}{cd:Code}{pre:List (Nat×Obj)}{i:Nat}{H:Hn}{r:Result}{j k:Nat}{post:List (Nat×Obj)}{cs:List (Bool×Bool)}
  (hc:∀k∈calls,br (MM w b c) (gX w b c R K G) L k) (hu:∀k∈lu,eu (MM w b c) (gX w b c R K G) (fun Γ=>LimU Γ L) k) (h1:dN (pre.map (·.1))=true) (h2:dN (post.map (·.1))=true)
  (hq:∀bl P,fN (sX WS w b c R K G calls [] [] lu N bl cd P pre i H) post (SG w false c)=fS (sX WS w b c R K G calls [] [] lu N bl cd P pre i H) r j k post cs (SG w true c))
  (hcs:∀x∈cs,x.1=x.2) (hg:∀x∈G j,x.1∈(G i).map (·.1)∨R i≤x.1):TX w b c (N+L) cd G R K i pre r j post k:=
 Tri.of_se s5 (cY w b c) (pg _) hc hu (pp h1) (pp h2) hq hcs hg
theorem mJ{w:World}{b c:Bool}{G:Nat→List (Addr×Obj)}{R K:Nat→Nat}{calls cb lu:List Call}{bls:List (List (Code×PySem.Pos))}{L N:Nat}{bl:List (Code×PySem.Pos)}{cd:Code}{pre:List (Nat×Obj)}{i:Nat}{H:Hn}{r:Result}{j k:Nat}{post:List (Nat×Obj)}{cs:List (Bool×Bool)}
  (hc:∀k∈calls,br (MM w b c) (gX w b c R K G) L k) (hb:∀x∈cb.zip bls,eu (MM w b c) (gX w b c R K G) (fun Γ=>Lim Γ L∧Γ.below=x.2) x.1) (hu:∀k∈lu,eu (MM w b c) (gX w b c R K G) (fun Γ=>LimU Γ L) k)
  (h1:dN (pre.map (·.1))=true) (h2:dN (post.map (·.1))=true)
  (hq:∀P,fN (sX WR w b c R K G calls bls cb lu N bl cd P pre i H) post (SG w false c)=fS (sX WR w b c R K G calls bls cb lu N bl cd P pre i H) r j k post cs (SG w true c))
  (hcs:∀x∈cs,x.1=x.2) (hg:∀x∈G j,x.1∈(G i).map (·.1)∨R i≤x.1):TY w b c (N+L) bl cd G R K i pre r j post k:=
 TriAt.of_se WR_ok (cY w b c) (pg _) hc hb hu (pp h1) (pp h2) hq hcs hg
noncomputable def aQ(l:List (Nat×Nat)):Nat→Nat:=bI (fun i=>i) l
abbrev Ra(A:AS)(n:Nat):Nat→Nat:=bI (bG A) [(7,Nat.add n 1994)]
abbrev Ka(t:Nat):Nat→Nat:=aQ [(0,Nat.add t 5615)]
abbrev Ga(gh:List (Addr×Obj)):Nat→List (Addr×Obj):=E2 gh []
noncomputable def rp(n a:Nat)(l:List Nat):List Nat:=@Nat.rec (fun _=>List Nat) l (fun _ r=>a::r) n
noncomputable def tm(t a b:Nat)(l:List Nat):List Nat:=cond (Nat.beq t 2) (a::0::0::0::a::0::0::0::a::a::0::b::l) (cond (Nat.beq t 3) (a::a::a::a::b::b::b::b::b::a::b::b::b::b::b::b::a::b::b::b::b::b::b::a::b::b::l) (cond (Nat.beq t 4) (a::a::a::a::a::b::a::a::a::a::a::a::b::a::a::a::a::a::a::b::a::a::l) (cond (Nat.beq t 5) (a::0::0::0::a::0::a::0::a::0::0::0::a::0::b::b::b::l) (cond (Nat.beq t 6) (a::0::0::0::a::0::0::0::a::0::0::0::0::a::b::l) (cond (Nat.beq t 7) (0::0::0::a::a::0::a::l) (cond (Nat.beq t 8) (0::0::a::0::0::0::0::a::0::0::a::a::0::0::0::0::a::l) (cond (Nat.beq t 9) (a::a::a::b::a::l) (cond (Nat.beq t 10) (0::0::a::a::a::a::0::0::0::a::0::0::0::b::b::0::b::0::b::0::0::0::b::0::0::0::l) (rp a b l)))))))))
noncomputable def hm(l:List Nat):Hn:=hl (@List.rec Nat (fun _=>List Nat) [] (fun x _ r=>cond (Nat.blt x 1000000) (x::r) (tm (Nat.div x 1000000) (Nat.mod (Nat.div x 1000) 1000) (Nat.mod x 1000) r)) l)
noncomputable def ej:List Stmt:=(db aF 153).2.1
noncomputable def gL(f c1 c2 c3:Nat):Env:=⟨(db aF 153).2.2,f,3,[(tT,c1),(FP,c2),(⟨⟨[115,101,101,100]⟩⟩,c3)],KJ8,some 1993,.ref 1992,some f,0⟩
noncomputable def my(b:List Stmt)(i:Nat)(it:Nat)(e:Env):Code:=match b[i]? with
 |some (.For t _ body orelse _)=>.forLoop t (.ref it) body orelse e
 |_=>.builtin "" {}
noncomputable def fnE(i:Nat)(q:Str)(fn cd f:Nat):Env:=⟨(db aF i).2.2,f,3,[],q,some fn,.ref cd,some f,0⟩
noncomputable def fnC(i:Nat)(q:Str)(fn cd f:Nat):Code:=.func (db aF i).2.1 (fnE i q fn cd f)
noncomputable def meE(i j:Nat)(q:Str)(fn cd f:Nat):Env:=⟨(bR aF i j).2.2,f,3,[],q,some fn,.ref cd,some f,0⟩
noncomputable def us(i j:Nat)(q:Str)(fn cd f:Nat):Code:=.func (bR aF i j).2.1 (meE i j q fn cd f)
noncomputable def bC(es:Array DictEntry)(n:Nat)(sl:Array (Option Value)):Obj:=⟨.type "frame",none,.dict es n,sl⟩
noncomputable def cI(cd fn:Nat)(back:Value):Array (Option Value):=#[some (.ref cd),some (.ref 3),none,some back,none,some (.ref fn),some (.ref 0)]
noncomputable def dD(c1 c2 c3:Nat):Array (Option Value):=#[some (.ref 1992),some (.ref 3),none,some .notImplemented,none,some (.ref 1993),some (.ref 0),some (.ref c1),some (.ref c2),some (.ref c3)]
noncomputable def iN(x:Value)(f:Nat)(fl:Value)(pl:Nat→Value):Obj:=⟨.type "traceback",none,.fields ⟨[x,.ref f,.none,fl,.none,pl 0,pl 1,pl 2,pl 3,pl 4,pl 5]⟩,#[]⟩
noncomputable def exO(xa d tb:Nat):Obj:=⟨.ref 91,some d,.fields ⟨[.ref xa,.ref tb,.none,.none,.bool false,.none]⟩,#[]⟩
noncomputable def exD(xa d tb:Nat)(xh:Value):Obj:=⟨.ref 91,some d,.fields ⟨[.ref xa,.ref tb,xh,.none,.bool true,.none]⟩,#[]⟩
noncomputable def edO(P:Params)(k:Nat→Nat)(R:Str)(wd:Int)(tw:Nat):Obj:=dO [kS P F0 (k 0) (.str R (k 3)),kS P yj (k 1) (.int 2 281),kS P oV (k 2) (.int wd tw)] 3
noncomputable def rX(it fl c1 c2 c3:Nat)(q:Nat→PySem.Pos):List (Code×PySem.Pos):=[(my ej 7 it (gL fl c1 c2 c3),q 4),(.func ej (gL fl c1 c2 c3),q 5),(.builtin "claim.caller" {},q 6)]
noncomputable def stT(it ft fl c1 c2 c3:Nat)(q:Nat→PySem.Pos):List (Code×PySem.Pos):=(fnC 152 DX 1988 1987 ft,q 3)::rX it fl c1 c2 c3 q
noncomputable def stE(it fe ft fl c1 c2 c3:Nat)(q:Nat→PySem.Pos):List (Code×PySem.Pos):=(us 144 9 KJ13 1877 1876 fe,q 2)::stT it ft fl c1 c2 c3 q
noncomputable def AK(it fr fe ft fl c1 c2 c3:Nat)(q:Nat→PySem.Pos):List (Code×PySem.Pos):=(us 144 11 Ek 1891 1890 fr,q 1)::stE it fe ft fl c1 c2 c3 q
noncomputable def stC(it fc fr fe ft fl c1 c2 c3:Nat)(q:Nat→PySem.Pos):List (Code×PySem.Pos):=(us 144 12 KJ15 1898 1897 fc,q 0)::AK it fr fe ft fl c1 c2 c3 q
noncomputable def i5(q:Q)(i j:Nat):Value:=match q.tree.getK (.add i 1) with
 |some o=>match o.data with
  |.fields a=>a.toList.getD (.add j 5) .none
  |_=>.none
 |none=>.none
noncomputable def dF(P:Params)(k:Nat→Nat)(o:Nat→Int×Nat):List DictEntry:=[kI 832 (k 0) (.int (o 832).1 (o 832).2),kI 320 (k 1) (.int (o 320).1 (o 320).2),kI 834 (k 2) (.int (o 834).1 (o 834).2),kI 322 (k 3) (.int (o 322).1 (o 322).2),kI 835 (k 4) (.int (o 835).1 (o 835).2),kI 323 (k 5) (.int (o 323).1 (o 323).2),kI 833 (k 6) (.int (o 833).1 (o 833).2),kI 321 (k 7) (.int (o 321).1 (o 321).2),kI 773 (k 8) (.int (o 773).1 (o 773).2),kI 261 (k 9) (.int (o 261).1 (o 261).2),kI 770 (k 10) (.int (o 770).1 (o 770).2),kI 771 (k 11) (.int (o 771).1 (o 771).2),kI 384 (k 12) (.int (o 384).1 (o 384).2),kI 774 (k 13) (.int (o 774).1 (o 774).2),kI 262 (k 14) (.int (o 262).1 (o 262).2),kS P uN (k 15) (.int (o 2816).1 (o 2816).2),kS P wa (k 16) (.int (o 2818).1 (o 2818).2)]
noncomputable def bq(P:Params)(k:Nat→Nat)(o:Nat→Int×Nat):Obj:=dO (dF P k o) 17
noncomputable def xM(r:Nat→Int×Nat)(m:Nat):Obj:=lO [.int (r 0).1 (r 0).2,.int (r 1).1 (r 1).2,.int (r 2).1 (r 2).2,.int (r 3).1 (r 3).2,.int (r 4).1 (r 4).2,.int (r 5).1 (r 5).2,.int (r 6).1 (r 6).2,.int (r 7).1 (r 7).2,.int (r 8).1 (r 8).2,.int (r 9).1 (r 9).2,.int (r 10).1 (r 10).2,.int (r 11).1 (r 11).2,.int (r 12).1 (r 12).2,.int (r 13).1 (r 13).2,.int (r 14).1 (r 14).2,.int (r 15).1 (r 15).2,.int (r 16).1 (r 16).2,.int (r 17).1 (r 17).2,.int (r 18).1 (r 18).2,.int (r 19).1 (r 19).2,.int (r 20).1 (r 20).2,.int (r 21).1 (r 21).2,.int (r 22).1 (r 22).2,.int (r 23).1 (r 23).2,.int (r 24).1 (r 24).2,.int (r 25).1 (r 25).2,.int (r 26).1 (r 26).2,.int (r 27).1 (r 27).2,.int (r 28).1 (r 28).2,.int (r 29).1 (r 29).2,.int (r 30).1 (r 30).2,.int (r 31).1 (r 31).2] m
noncomputable def xO(r:Nat→Int×Nat):Obj:=xM r 0
end
section
open PySem PySem.W
theorem isInt_shape{k:Int}{v:Value}(h:Value.isInt k v=true):∃t,v=.int k t:=Value.isInt_shape h
def mixIs:Int⊕Str→Value→Bool
 |.inl k,v=>Value.isInt k v
 |.inr x,v=>Value.isStrOf x v
theorem l5{k:Int}{v:Value}(h:mixIs (.inl k) v=true):∃t,v=.int k t:=Value.isInt_shape h
theorem mb{x:Str}{v:Value}(h:mixIs (.inr x) v=true):∃t,v=.str x t:=Value.isStrOf_shape h
def f8(w:World):Int⊕Str→Int
 |.inl k=>hashInt k
 |.inr x=>hashStr w x
def eD(prog:Program)(w:World):KeyKind prog w (Int⊕Str) where
 is:=mixIs
 hash:=f8 w
 inj:=fun v a b ha hb=>by
  cases a with
  |inl a=>
   obtain⟨t,rfl⟩:=l5 ha
   cases b with
   |inl b=>
    obtain⟨u,h⟩:=l5 hb
    injection h with h1;rw[h1]
   |inr b=>obtain⟨u,h⟩:=mb hb;cases h
  |inr a=>
   obtain⟨t,rfl⟩:=mb ha
   cases b with
   |inl b=>obtain⟨u,h⟩:=l5 hb;cases h
   |inr b=>
    obtain⟨u,h⟩:=mb hb
    injection h with h1;rw[h1]
 byValue:=fun k v h=>by
  cases k with
  |inl k=>obtain⟨t,rfl⟩:=l5 h;rfl
  |inr x=>obtain⟨t,rfl⟩:=mb h;rfl
 pyHash:=fun {A E s k v Q} hv h=>by
  cases k with
  |inl k=>obtain⟨t,rfl⟩:=l5 hv;exact wpAny_pyHash_int h
  |inr x=>obtain⟨t,rfl⟩:=mb hv;exact wpAny_pyHash_str h
 eqBool:=fun {A E s a b u v Q} hu hv h=>by
  cases a with
  |inl a=>
   obtain⟨t,rfl⟩:=l5 hu
   cases b with
   |inl b=>
    obtain⟨t',rfl⟩:=l5 hv
    refine wpAny_eqBool_int ?_
    have:(a==b)=decide ((Sum.inl a:Int⊕Str)=Sum.inl b):=by
     by_cases hab:a=b
     ·subst hab;simp
     ·simp[hab]
    rw[this];exact h
   |inr b=>
    obtain⟨t',rfl⟩:=mb hv
    refine SeqAt.EqAt.int_str a t b t' prog w E Q ?_
    rwa [decide_eq_false (by intro q;cases q)]at h
  |inr a=>
   obtain⟨t,rfl⟩:=mb hu
   cases b with
   |inl b=>
    obtain⟨t',rfl⟩:=l5 hv
    refine SeqAt.EqAt.str_int a t b t' prog w E Q ?_
    rwa [decide_eq_false (by intro q;cases q)]at h
   |inr b=>
    obtain⟨t',rfl⟩:=mb hv
    refine wpAny_eqBool_str ?_
    have:decide (a=b)=decide ((Sum.inr a:Int⊕Str)=Sum.inr b):=by
     by_cases hab:a=b
     ·subst hab;simp
     ·simp[hab]
    rw[this];exact h
 «strs»:=fun k x t v h=>by
  cases k with
  |inl k=>obtain⟨u,h'⟩:=l5 h;cases h'
  |inr y=>
   obtain⟨u,hu⟩:=mb h
   injection hu with hx
   subst hx
   cases v<;>rfl
def dx(w:World)(l:List DictEntry):Prop:=∀e∈l,∃k,mixIs k e.key=true∧e.hash=f8 w k
section
variable{prog:Program}{w:World}{A:Around}{E:Value→Shared→Prop}{s:Shared}{Γ:Ctx}{p:Pos}{d:Addr}{o:Obj}{l:List DictEntry}{ep:Nat}{k:Int⊕Str}{key v:Value}
theorem lM(h:dx w l):KeysOf (eD prog w) ⟨l⟩:=fun e he=>h e (by simpa using he)
theorem mB{Q:Option Value→Shared→Prop}(hkey:mixIs k key=true)(ho:s.heap.get? d=some o)(hd:o.data=.dict ⟨l⟩ ep)(hk:dx w l)
  (h:Q (((Array.mk l).findIdx? fun e=>mixIs k e.key).bind fun i=>((Array.mk l)[i]?).map (·.val)) {s with toks:=s.toks+1}):wpAny (model prog w) A (dictGet d key) Q E s:=by
 unfold dictGet
 try with_reducible refine wpAny_holding ?_
 refine wpAny_bind ((eD prog w).pyHash hkey (wpAny_bind (wpAny_dictFind_of (knd:=eD prog w) (s:={s with toks:=s.toks+1}) hkey ho hd (lM hk) ?_)))
 cases hi:(Array.mk l).findIdx? fun e=>mixIs k e.key with
 |none=>rw[show ((Array.mk l).findIdx? fun e=>(eD prog w).is k e.key)=none from hi];rw[hi]at h;exact wpAny_pure h
 |some i=>rw[show ((Array.mk l).findIdx? fun e=>(eD prog w).is k e.key)=some i from hi];rw[hi]at h;exact wpAny_bind (wpAny_dictEntries (s:={s with toks:=s.toks+1}) ho hd (wpAny_pure h))
theorem Cl{Q:Unit→Shared→Prop}{i:Nat}(hkey:mixIs k key=true)(ho:s.heap.get? d=some o)(hd:o.data=.dict ⟨l⟩ ep)(hk:dx w l)
  (hi:((Array.mk l).findIdx? fun e=>mixIs k e.key)=some i) (h:Q () {s with heap:=s.heap.update d (Obj.mapDict (·.modify i fun e=>{e with val:=v})),toks:=s.toks+1}):
  wpAny (model prog w) A (dictSet d key v) Q E s:=by
 unfold dictSet
 try with_reducible refine wpAny_holding ?_
 refine wpAny_bind ((eD prog w).pyHash hkey ?_)
 unfold dictSetHashed
 try with_reducible refine wpAny_holding ?_
 refine wpAny_bind (wpAny_dictFind_of (knd:=eD prog w) (s:={s with toks:=s.toks+1}) hkey ho hd (lM hk) ?_)
 rw[show ((Array.mk l).findIdx? fun e=>(eD prog w).is k e.key)=some i from hi]
 exact wpAny_bind (wpAny_rule (wpAny_bind (wpAny_updateDict (s:={s with toks:=s.toks+1}) ho hd (wpAny_point h))))
end
section
variable{p:Program}{w:World}{S:HT}{B:Nat}{gh:List (Addr×Obj)}{n t:Nat}{C:Ctx→Prop}(hC:∀Γ,C Γ→Γ.handled=none)
 {d:Addr} {l:List DictEntry} {ep:Nat} {k:Int⊕Str} {key v:Value} {i:Nat} {e:DictEntry}
include hC
theorem dt(hkey:mixIs k key=true)(hk:dx w l)(hi:((Array.mk l).findIdx? fun e=>mixIs k e.key)=some i)(he:nthE l i=some e):
  TriC (model p w) S B C (.builtin "dict.__getitem__" ⟨[.ref d,key],[]⟩) gh [(d,dO l ep)] n t (.ok (.ret e.val)) gh [(d,dO l ep)] n (t+1):=
 dL hC fun Γ P h gs dd os hh lo hp=>by
  rw[cM entry_dict_getitem]
  refine bL hh fun A hA=>?_
  show wpAny _ _ (dictGet d key >>= _) _ _ _
  refine wpAny_bind (mB hkey (hp (d,_) List.mem_cons_self) rfl hk ?_)
  rw[hi,show ((some i).bind fun i=>((Array.mk l)[i]?).map (·.val))=some e.val by rw[Option.bind_some,op,he];rfl]
  exact wpAny_pure ⟨rfl,rfl⟩
theorem rF(hB:2≤B)(hkey:mixIs k key=true)(hk:dx w l)(hi:((Array.mk l).findIdx? fun e=>mixIs k e.key)=some i)(he:nthE l i=some e):
  TriC (model p w) S B C (.builtin "dict.__contains__" ⟨[.ref d,key],[]⟩) gh [(d,dO l ep)] n t (.ok (.ret (.bool true))) gh [(d,dO l ep)] n (t+1):=
 dL hC fun Γ P h gs dd os hh lo hp=>by
  rw[cM F.entry_dict_contains]
  refine bL hh fun A hA=>?_
  show wpAny _ _ (dictGet d key >>= _) _ _ _
  refine wpAny_bind (mB hkey (hp (d,_) List.mem_cons_self) rfl hk ?_)
  rw[hi,show ((some i).bind fun i=>((Array.mk l)[i]?).map (·.val))=some e.val by rw[Option.bind_some,op,he];rfl]
  exact wpAny_pure ⟨rfl,rfl⟩
theorem oF(hB:2≤B)(hkey:mixIs k key=true)(hk:dx w l)(hi:((Array.mk l).findIdx? fun e=>mixIs k e.key)=none):
  TriC (model p w) S B C (.builtin "dict.__contains__" ⟨[.ref d,key],[]⟩) gh [(d,dO l ep)] n t (.ok (.ret (.bool false))) gh [(d,dO l ep)] n (t+1):=
 dL hC fun Γ P h gs dd os hh lo hp=>by
  have hs:(d==sysModules)=false:=by
   have h1:B≤d:=lo (d,_) List.mem_cons_self
   have:d≠1:=Nat.ne_of_gt (Nat.lt_of_lt_of_le hB h1)
   simpa [sysModules] using this
  rw[cM F.entry_dict_contains]
  refine bL hh fun A hA=>?_
  show wpAny _ _ (dictGet d key >>= _) _ _ _
  refine wpAny_bind (mB hkey (hp (d,_) List.mem_cons_self) rfl hk ?_)
  rw[hi]
  show wpAny _ _ (Builtin.Dict.pendingKey? d _ >>= _) _ _ _
  exact wpAny_bind (wpAny_pendingKey_other hs (wpAny_pure ⟨rfl,rfl⟩))
theorem j2(hkey:mixIs k key=true)(hk:dx w l)(hi:((Array.mk l).findIdx? fun e=>mixIs k e.key)=some i):
  TriC (model p w) S B C (.builtin "dict.__setitem__" ⟨[.ref d,key,v],[]⟩) gh [(d,dO l ep)] n t (.ok (.ret .none)) gh [(d,dO (jN l i v) ep)] n (t+1):=by
 have e:Obj.mapDict (·.modify i fun e=>{e with val:=v}) (dO l ep)=dO (jN l i v) ep:=by
  show (⟨.type "dict",none,.dict ((Array.mk l).modify i fun e=>{e with val:=v}) ep,#[]⟩:Obj)=_
  rw[w7];rfl
 have key:=gi (p:=p) (w:=w) (S:=S) (B:=B) (gh:=gh) (pre:=[]) (n:=n) (t:=t) (t':=t+1) (f:=.ret .none) (cd:=.builtin "dict.__setitem__" ⟨[.ref d,key,v],[]⟩) hC (a:=d) (o:=dO l ep) (g:=Obj.mapDict (·.modify i fun e=>{e with val:=v})) (by rw[e];rfl) fun Γ P h gs dd os hh lo hp=>by
  rw[cM entry_dict_setitem]
  refine bL hh fun A hA=>?_
  have ho:h.get? d=some (dO l ep):=hp (d,_) List.mem_cons_self
  show wpAny _ _ (Builtin.Dict.notOrdered "__setitem__" ⟨[.ref d,key,v],[]⟩ >>= _) _ _ _
  refine wpAny_bind (wpAny_notOrdered_dict ⟨_,ho,rfl⟩ ?_)
  show wpAny _ _ (dictSet d key v >>= _) _ _ _
  exact wpAny_bind (Cl hkey ho rfl hk hi (wpAny_pure ⟨rfl,rfl⟩))
 rw[e]at key
 exact key
end
end
section
open PySem PySem.W PyProof.Rows
def keptL:List Nat:=[832,320,834,322,835,323,833,321,773,261,770,771,384,774,262]
def ox:Str:=uN
def oH:Str:=wa
def mP:List Nat→Nat→Nat
 |[],_=>0
 |a::l,n=>cond (Nat.beq a n) 0 (mP l n+1)
theorem ue(w:World)(n t:Nat)(v:Value)(h:n≤1000000):∃k,mixIs k (kI n t v).key=true∧(kI n t v).hash=f8 w k:=
 ⟨.inl n,by show Value.isInt _ (.int n t)=true;simp[Value.isInt],(cK n (by omega)).symm⟩
theorem BN(w:World)(x:Str)(t:Nat)(v:Value):∃k,mixIs k (kS w.params x t v).key=true∧(kS w.params x t v).hash=f8 w k:=
 ⟨.inr x,by show Value.isStrOf x (.str x t)=true;simp[Value.isStrOf],rfl⟩
theorem eJ(w:World)(k:Nat→Nat)(o:Nat→Int×Nat):dx w (dF w.params k o):=by
 intro e he
 simp only[dF,List.mem_cons,List.not_mem_nil,or_false]at he
 rcases he with rfl|rfl|rfl|rfl|rfl|rfl|rfl|rfl|rfl|rfl|rfl|rfl|rfl|rfl|rfl|rfl|rfl
 iterate 15 exact ue w _ _ _ (by decide)
 iterate 2 exact BN w _ _ _
def l0:List DictEntry→Int⊕Str→Option Nat
 |[],_=>none
 |e::l,k=>if mixIs k e.key=true then some 0 else (l0 l k).map (·+1)
theorem df(l:List DictEntry)(k:Int⊕Str):((Array.mk l).findIdx? fun e=>mixIs k e.key)=l0 l k:=by
 rw[show (Array.mk l).findIdx? (fun e=>mixIs k e.key)=l.findIdx? (fun e=>mixIs k e.key) from List.findIdx?_toArray ..]
 induction l with
 |nil=>rfl
 |cons e l ih=>
  rw[List.findIdx?_cons,l0]
  cases mixIs k e.key with
  |true=>rfl
  |false=>simp only[Bool.false_eq_true,if_false];rw[ih]
theorem uB{i:Nat}(hi:i∈keptL)(P:Params)(k:Nat→Nat)(o:Nat→Int×Nat)(t:Nat):
  ((Array.mk (dF P k o)).findIdx? fun e=>mixIs (.inl (Int.ofNat i)) e.key)=some (mP keptL i)∧nthE (dF P k o) (mP keptL i)=some (kI i (k (mP keptL i)) (.int (o i).1 (o i).2)):=by
 rw[df]
 simp only[keptL,List.mem_cons,List.not_mem_nil,or_false]at hi
 rcases hi with rfl|rfl|rfl|rfl|rfl|rfl|rfl|rfl|rfl|rfl|rfl|rfl|rfl|rfl|rfl<;>exact⟨rfl,rfl⟩
theorem pD(P:Params)(k:Nat→Nat)(o:Nat→Int×Nat):
  ((Array.mk (dF P k o)).findIdx? fun e=>mixIs (.inr ox) e.key)=some 15∧((Array.mk (dF P k o)).findIdx? fun e=>mixIs (.inr oH) e.key)=some 16:=by
 rw[df,df]
 exact⟨rfl,rfl⟩
theorem Ik{i:Nat}(hi:i∉keptL)(P:Params)(k:Nat→Nat)(o:Nat→Int×Nat):((Array.mk (dF P k o)).findIdx? fun e=>mixIs (.inl (Int.ofNat i)) e.key)=none:=by
 rw[df]
 simp only[keptL,List.mem_cons,List.not_mem_nil,or_false,not_or]at hi
 have key:∀(a t:Nat) (v:Value),i≠a→mixIs (.inl (Int.ofNat i)) (kI a t v).key=false:=fun a t v h=>by
  show Value.isInt (Int.ofNat i) (.int a t)=false
  simp[Value.isInt];omega
 obtain⟨h1,h2,h3,h4,h5,h6,h7,h8,h9,h10,h11,h12,h13,h14,h15⟩:=hi
 have nn:∀{e:DictEntry} {l:List DictEntry} {k:Int⊕Str},mixIs k e.key=false→l0 l k=none→l0 (e::l) k=none:=fun h1 h2=>by
  rw[l0,if_neg (by rw[h1];exact Bool.false_ne_true),h2];rfl
 exact nn (key _ _ _ h1) (nn (key _ _ _ h2) (nn (key _ _ _ h3) (nn (key _ _ _ h4) (nn (key _ _ _ h5) (nn (key _ _ _ h6) (nn (key _ _ _ h7) (nn (key _ _ _ h8) (nn (key _ _ _ h9) (nn (key _ _ _ h10)
  (nn (key _ _ _ h11) (nn (key _ _ _ h12) (nn (key _ _ _ h13) (nn (key _ _ _ h14) (nn (key _ _ _ h15) (nn rfl (nn rfl rfl))))))))))))))))
theorem ib(k:Int)(t:Nat):mixIs (.inl k) (.int k t)=true:=by show Value.isInt k (.int k t)=true;simp[Value.isInt]
theorem lU(x:Str)(t:Nat):mixIs (.inr x) (.str x t)=true:=by show Value.isStrOf x (.str x t)=true;simp[Value.isStrOf]
theorem H9{i:Nat}(hi:i∈keptL)(P:Params)(k:Nat→Nat)(o:Nat→Int×Nat)(x:Int)(t:Nat):jN (dF P k o) (mP keptL i) (.int x t)=dF P k (up o i x t):=by
 simp only[keptL,List.mem_cons,List.not_mem_nil,or_false]at hi
 rcases hi with rfl|rfl|rfl|rfl|rfl|rfl|rfl|rfl|rfl|rfl|rfl|rfl|rfl|rfl|rfl<;>rfl
theorem vb(P:Params)(k:Nat→Nat)(o:Nat→Int×Nat)(x:Int)(t:Nat):jN (dF P k o) 15 (.int x t)=dF P k (up o 2816 x t)∧jN (dF P k o) 16 (.int x t)=dF P k (up o 2818 x t):=⟨rfl,rfl⟩
section
variable{w:World}{b c:Bool}{S:HT}{B:Nat}{gh:List (Addr×Obj)}{n t:Nat}{C:Ctx→Prop}(hC:∀Γ,C Γ→Γ.handled=none){d i u:Nat}{k:Nat→Nat}{o:Nat→Int×Nat}
include hC
theorem fQ(hi:i∈keptL):TriC (MM w b c) S B C (.builtin "dict.__getitem__" ⟨[.ref d,.int (Int.ofNat i) u],[]⟩) gh [(d,bq (PP w b c) k o)] n t (.ok (.ret (.int (o i).1 (o i).2))) gh [(d,bq (PP w b c) k o)] n (t+1):=by
 obtain⟨h1,h2⟩:=uB hi (PP w b c) k o u
 exact dt hC (k:=.inl (Int.ofNat i)) (ib _ _) (eJ (W2 w b c) k o) h1 h2
theorem B5(hB:2≤B)(hi:i∈keptL):TriC (MM w b c) S B C (.builtin "dict.__contains__" ⟨[.ref d,.int (Int.ofNat i) u],[]⟩) gh [(d,bq (PP w b c) k o)] n t (.ok (.ret (.bool true))) gh [(d,bq (PP w b c) k o)] n (t+1):=by
 obtain⟨h1,h2⟩:=uB hi (PP w b c) k o u
 exact rF hC hB (k:=.inl (Int.ofNat i)) (ib _ _) (eJ (W2 w b c) k o) h1 h2
theorem fq(hB:2≤B)(hi:i∉keptL):TriC (MM w b c) S B C (.builtin "dict.__contains__" ⟨[.ref d,.int (Int.ofNat i) u],[]⟩) gh [(d,bq (PP w b c) k o)] n t (.ok (.ret (.bool false))) gh [(d,bq (PP w b c) k o)] n (t+1):=
 oF hC hB (k:=.inl (Int.ofNat i)) (ib _ _) (eJ (W2 w b c) k o) (Ik hi (PP w b c) k o)
theorem cz(hi:i∈keptL){x:Int}{y:Nat}:TriC (MM w b c) S B C (.builtin "dict.__setitem__" ⟨[.ref d,.int (Int.ofNat i) u,.int x y],[]⟩) gh [(d,bq (PP w b c) k o)] n t (.ok (.ret .none)) gh [(d,bq (PP w b c) k (up o i x y))] n (t+1):=by
 obtain⟨h1,_⟩:=uB hi (PP w b c) k o u
 have:=j2 (p:=prog2) (w:=W2 w b c) (S:=S) (B:=B) (gh:=gh) (n:=n) (t:=t) hC (d:=d) (l:=dF (PP w b c) k o) (ep:=17) (k:=.inl (Int.ofNat i)) (key:=.int (Int.ofNat i) u) (v:=.int x y) (ib _ _) (eJ (W2 w b c) k o) h1
 rw[H9 hi]at this
 exact this
theorem gg:TriC (MM w b c) S B C (.builtin "dict.__getitem__" ⟨[.ref d,.str ox u],[]⟩) gh [(d,bq (PP w b c) k o)] n t (.ok (.ret (.int (o 2816).1 (o 2816).2))) gh [(d,bq (PP w b c) k o)] n (t+1):=
 dt hC (k:=.inr ox) (i:=15) (e:=ag w b c ox (k 15) (.int (o 2816).1 (o 2816).2)) (lU _ _) (eJ (W2 w b c) k o) (pD (PP w b c) k o).1 rfl
theorem gj:TriC (MM w b c) S B C (.builtin "dict.__getitem__" ⟨[.ref d,.str oH u],[]⟩) gh [(d,bq (PP w b c) k o)] n t (.ok (.ret (.int (o 2818).1 (o 2818).2))) gh [(d,bq (PP w b c) k o)] n (t+1):=
 dt hC (k:=.inr oH) (i:=16) (e:=ag w b c oH (k 16) (.int (o 2818).1 (o 2818).2)) (lU _ _) (eJ (W2 w b c) k o) (pD (PP w b c) k o).2 rfl
theorem pX{x:Int}{y:Nat}:TriC (MM w b c) S B C (.builtin "dict.__setitem__" ⟨[.ref d,.str ox u,.int x y],[]⟩) gh [(d,bq (PP w b c) k o)] n t (.ok (.ret .none)) gh [(d,bq (PP w b c) k (up o 2816 x y))] n (t+1):=by
 have:=j2 (p:=prog2) (w:=W2 w b c) (S:=S) (B:=B) (gh:=gh) (n:=n) (t:=t) hC (d:=d) (l:=dF (PP w b c) k o) (ep:=17) (k:=.inr ox) (key:=.str ox u) (v:=.int x y) (lU _ _) (eJ (W2 w b c) k o) (pD (PP w b c) k o).1
 rw[(vb _ _ _ _ _).1]at this
 exact this
theorem pm{x:Int}{y:Nat}:TriC (MM w b c) S B C (.builtin "dict.__setitem__" ⟨[.ref d,.str oH u,.int x y],[]⟩) gh [(d,bq (PP w b c) k o)] n t (.ok (.ret .none)) gh [(d,bq (PP w b c) k (up o 2818 x y))] n (t+1):=by
 have:=j2 (p:=prog2) (w:=W2 w b c) (S:=S) (B:=B) (gh:=gh) (n:=n) (t:=t) hC (d:=d) (l:=dF (PP w b c) k o) (ep:=17) (k:=.inr oH) (key:=.str oH u) (v:=.int x y) (lU _ _) (eJ (W2 w b c) k o) (pD (PP w b c) k o).2
 rw[(vb _ _ _ _ _).2]at this
 exact this
end
def plainL:List Nat:=[261,262,320,321,322,323,773,774,832,833,834,835]
def pd(A:AS)(s:BS):List DictEntry:=[kI 261 (.add (A.k 20) 5615) (pv s 261),kI 262 (.add (A.k 21) 5615) (pv s 262),kI 320 (.add (A.k 22) 5615) (pv s 320),kI 321 (.add (A.k 23) 5615) (pv s 321),kI 322 (.add (A.k 24) 5615) (pv s 322),kI 323 (.add (A.k 25) 5615) (pv s 323),kI 773 (.add (A.k 26) 5615) (pv s 773),kI 774 (.add (A.k 27) 5615) (pv s 774),kI 832 (.add (A.k 28) 5615) (pv s 832),kI 833 (.add (A.k 29) 5615) (pv s 833),kI 834 (.add (A.k 30) 5615) (pv s 834),kI 835 (.add (A.k 31) 5615) (pv s 835)]
theorem d4_pl(P:Params)(A:AS)(s:BS):d4 P A s=dO (pd A s) 12:=rfl
theorem na(w:World)(A:AS)(s:BS):dx w (pd A s):=by
 intro e he
 simp only[pd,List.mem_cons,List.not_mem_nil,or_false]at he
 rcases he with rfl|rfl|rfl|rfl|rfl|rfl|rfl|rfl|rfl|rfl|rfl|rfl
 iterate 12 exact ue w _ _ _ (by decide)
theorem yK{i:Nat}(hi:i∈plainL)(A:AS)(s:BS):∃t,((Array.mk (pd A s)).findIdx? fun e=>mixIs (.inl (Int.ofNat i)) e.key)=some (mP plainL i)∧nthE (pd A s) (mP plainL i)=some (kI i t (pv s i)):=by
 rw[df]
 simp only[plainL,List.mem_cons,List.not_mem_nil,or_false]at hi
 rcases hi with rfl|rfl|rfl|rfl|rfl|rfl|rfl|rfl|rfl|rfl|rfl|rfl<;>exact⟨_,rfl,rfl⟩
theorem pl_not{i:Nat}(hi:i∉plainL)(A:AS)(s:BS):((Array.mk (pd A s)).findIdx? fun e=>mixIs (.inl (Int.ofNat i)) e.key)=none:=by
 rw[df]
 simp only[plainL,List.mem_cons,List.not_mem_nil,or_false,not_or]at hi
 have key:∀(a t:Nat) (v:Value),i≠a→mixIs (.inl (Int.ofNat i)) (kI a t v).key=false:=fun a t v h=>by
  show Value.isInt (Int.ofNat i) (.int a t)=false
  simp[Value.isInt];omega
 obtain⟨h1,h2,h3,h4,h5,h6,h7,h8,h9,h10,h11,h12⟩:=hi
 have nn:∀{e:DictEntry} {l:List DictEntry} {k:Int⊕Str},mixIs k e.key=false→l0 l k=none→l0 (e::l) k=none:=fun h1 h2=>by
  rw[l0,if_neg (by rw[h1];exact Bool.false_ne_true),h2];rfl
 exact nn (key _ _ _ h1) (nn (key _ _ _ h2) (nn (key _ _ _ h3) (nn (key _ _ _ h4) (nn (key _ _ _ h5) (nn (key _ _ _ h6) (nn (key _ _ _ h7) (nn (key _ _ _ h8) (nn (key _ _ _ h9) (nn (key _ _ _ h10) (nn (key _ _ _ h11) (nn (key _ _ _ h12) (rfl))))))))))))
theorem pl_set{i:Nat}(hi:i∈plainL)(A:AS)(s:BS)(x:Int)(t:Nat):jN (pd A s) (mP plainL i) (.int x t)=pd A {s with p:=up s.p i x t}:=by
 simp only[plainL,List.mem_cons,List.not_mem_nil,or_false]at hi
 rcases hi with rfl|rfl|rfl|rfl|rfl|rfl|rfl|rfl|rfl|rfl|rfl|rfl<;>rfl
section
variable{w:World}{b c:Bool}{S:HT}{B:Nat}{gh:List (Addr×Obj)}{n t:Nat}{C:Ctx→Prop}(hC:∀Γ,C Γ→Γ.handled=none){d i u:Nat}{A:AS}{s:BS}
include hC
theorem cC(hi:i∈plainL):TriC (MM w b c) S B C (.builtin "dict.__getitem__" ⟨[.ref d,.int (Int.ofNat i) u],[]⟩) gh [(d,d4 (PP w b c) A s)] n t (.ok (.ret (pv s i))) gh [(d,d4 (PP w b c) A s)] n (t+1):=by
 obtain⟨t',h1,h2⟩:=yK hi A s
 exact dt hC (k:=.inl (Int.ofNat i)) (ib _ _) (na (W2 w b c) A s) h1 h2
theorem fW(hB:2≤B)(hi:i∈plainL):TriC (MM w b c) S B C (.builtin "dict.__contains__" ⟨[.ref d,.int (Int.ofNat i) u],[]⟩) gh [(d,d4 (PP w b c) A s)] n t (.ok (.ret (.bool true))) gh [(d,d4 (PP w b c) A s)] n (t+1):=by
 obtain⟨t',h1,h2⟩:=yK hi A s
 exact rF hC hB (k:=.inl (Int.ofNat i)) (ib _ _) (na (W2 w b c) A s) h1 h2
theorem ax(hB:2≤B)(hi:i∉plainL):TriC (MM w b c) S B C (.builtin "dict.__contains__" ⟨[.ref d,.int (Int.ofNat i) u],[]⟩) gh [(d,d4 (PP w b c) A s)] n t (.ok (.ret (.bool false))) gh [(d,d4 (PP w b c) A s)] n (t+1):=
 oF hC hB (k:=.inl (Int.ofNat i)) (ib _ _) (na (W2 w b c) A s) (pl_not hi A s)
theorem jI(hi:i∈plainL){x:Int}{y:Nat}:TriC (MM w b c) S B C (.builtin "dict.__setitem__" ⟨[.ref d,.int (Int.ofNat i) u,.int x y],[]⟩) gh [(d,d4 (PP w b c) A s)] n t (.ok (.ret .none)) gh [(d,d4 (PP w b c) A {s with p:=up s.p i x y})] n (t+1):=by
 obtain⟨t',h1,_⟩:=yK hi A s
 have:=j2 (p:=prog2) (w:=W2 w b c) (S:=S) (B:=B) (gh:=gh) (n:=n) (t:=t) hC (d:=d) (l:=pd A s) (ep:=12) (k:=.inl (Int.ofNat i)) (key:=.int (Int.ofNat i) u) (v:=.int x y) (ib _ _) (na (W2 w b c) A s) h1
 rw[pl_set hi]at this
 exact this
end
theorem xX{prog:Program}{w:World}{A:Around}{E:Value→Shared→Prop}{s:Shared}{l:Addr}{o:Obj}{items:Array Value}{ne:Nat}{k:Int}{t:Tok}{v:Value}{Q:PySem.Fin→Shared→Prop}(ho:s.heap.get? l=some o)(hd:o.data=.seq items ne)
  (h0:0≤k) (hfit:k<2^63) (hn:k<items.size) (h:Q (.done (.ret .none)) {s with heap:=s.heap.update l (Obj.mapSeq fun xs=>xs.setIfInBounds k.toNat v)}):wpAny (model prog w) A (Builtin.«list.__setitem__» ⟨[.ref l,.int k t,v],[]⟩) Q E s:=by
 show wpAny _ _ (Builtin.List.listSubscript? (.int k t) >>= _) _ _ s
 refine wpAny_bind (wpAny_listSubscript_int (fitsIndex_of h0 hfit) ?_)
 clear hfit
 obtain⟨j,rfl⟩:=Int.eq_ofNat_of_zero_le h0
 have hj:j<items.size:=by omega
 have hx':items[j]?=some items[j]:=Array.getElem?_eq_getElem hj
 show wpAny _ _ ((seqItemAt l j >>= fun r=>pure (r.map (j,·))) >>= _) _ _ s
 refine wpAny_bind (wpAny_bind (wpAny_seqItemAt ho hd (wpAny_pure ?_)))
 rw[hx']
 show wpAny _ _ (setSeqItemAt l j v >>= _) _ _ s
 refine wpAny_bind (wpAny_setSeqItemAt ho hd ?_)
 first
  |exact wpAny_bind (wpAny_pure (wpAny_pure h))
  |exact wpAny_bind (wpAny_pure h)
  |exact wpAny_pure h
def ra:List Value→Nat→Value→List Value
 |[],_,_=>[]
 |_::l,0,v=>v::l
 |a::l,i+1,v=>a::ra l i v
theorem Jf(l:List Value)(i:Nat)(v:Value):(Array.mk l).setIfInBounds i v=⟨ra l i v⟩:=by
 apply Array.toList_inj.mp
 rw[Array.toList_setIfInBounds]
 show l.set i v=ra l i v
 induction l generalizing i with
 |nil=>rfl
 |cons a l ih=>cases i with
  |zero=>rfl
  |succ i=>rw[List.set_cons_succ,ih];rfl
section
variable{p:Program}{w:World}{S:HT}{B:Nat}{gh:List (Addr×Obj)}{n t:Nat}{C:Ctx→Prop}(hC:∀Γ,C Γ→Γ.handled=none)
include hC
theorem yZ{a:Addr}{l:List Value}{k u m:Nat}{v:Value}(hk:k<l.length)(hk2:k≤1000000):TriC (model p w) S B C (.builtin "list.__setitem__" ⟨[.ref a,.int (Int.ofNat k) u,v],[]⟩) gh [(a,lO l m)] n t
  (.ok (.ret .none)) gh [(a,lO (ra l k v) m)] n t:=by
 have e:Obj.mapSeq (fun xs=>xs.setIfInBounds k v) (lO l m)=lO (ra l k v) m:=by
  show (⟨.type "list",none,.seq ((Array.mk l).setIfInBounds k v) _,#[]⟩:Obj)=_
  rw[if_pos (by simp),Jf]
  rfl
 have key:=gi (p:=p) (w:=w) (S:=S) (B:=B) (gh:=gh) (pre:=[]) (n:=n) (t:=t) (t':=t) (f:=.ret .none) (cd:=.builtin "list.__setitem__" ⟨[.ref a,.int (Int.ofNat k) u,v],[]⟩) hC (a:=a) (o:=lO l m) (g:=Obj.mapSeq fun xs=>xs.setIfInBounds k v) (by rw[e];rfl) fun Γ P h gs dd os hh lo hp=>by
  rw[cM entry_list_setitem]
  refine bL hh fun A hA=>?_
  have ho:h.get? a=some (lO l m):=hp (a,_) List.mem_cons_self
  have h0:(0:Int)≤(k:Int):=Int.natCast_nonneg _
  have h2:(k:Int)<2^63:=by omega
  have h3:(k:Int)<((Array.mk l).size:Nat):=by
   have:(Array.mk l).size=l.length:=rfl
   rw[this];omega
  have h4:(fun xs:Array Value=>xs.setIfInBounds k v)=fun xs=>xs.setIfInBounds ((k:Int)).toNat v:=by rw[Int.toNat_natCast]
  rw[h4]
  show wpAny _ _ (Builtin.«list.__setitem__» ⟨[.ref a,.int (k:Int) u,v],[]⟩) _ _ _
  generalize (k:Int)=kk at *
  exact xX (s:=⟨h,gs,dd,t,os⟩) ho rfl h0 h2 h3 ⟨rfl,rfl⟩
 rw[e]at key
 exact key
theorem aN{a i u m:Nat}{r:Nat→Int×Nat}(hi:i<32):TriC (model p w) S B C (.builtin "list.__getitem__" ⟨[.ref a,.int (Int.ofNat i) u],[]⟩) gh [(a,xM r m)] n t (.ok (.ret (.int (r i).1 (r i).2))) gh [(a,xM r m)] n t:=by
 refine bb hC (k:=i) ?_ (by omega)
 show ((List.range 32).map fun j=>Value.int (r j).1 (r j).2)[i]?=_
 rw[List.getElem?_map,List.getElem?_range hi];rfl
theorem bv{a i u m:Nat}{r:Nat→Int×Nat}{x:Int}{y:Nat}(hi:i<32):TriC (model p w) S B C (.builtin "list.__setitem__" ⟨[.ref a,.int (Int.ofNat i) u,.int x y],[]⟩) gh [(a,xM r m)] n t (.ok (.ret .none)) gh [(a,xM (up r i x y) m)] n t:=by
 have:=yZ (p:=p) (w:=w) (S:=S) (B:=B) (gh:=gh) (n:=n) (t:=t) hC (a:=a) (k:=i) (m:=m) (u:=u) (v:=.int x y) (l:=(List.range 32).map fun j=>.int (r j).1 (r j).2) (by simpa using hi) (by omega)
 have e:∀j,j<32→lO (ra ((List.range 32).map fun j=>Value.int (r j).1 (r j).2) j (.int x y)) m=xM (up r j x y) m:=by
  intro j hj
  iterate 32 (rcases j with _|j;· rfl)
  omega
 rw[e i hi]at this
 exact this
end
noncomputable def cP(a:Nat):Obj:=⟨.type "cell",none,.cell (some (.ref a)),#[]⟩
structure FS where
 k:Nat→Nat
 v:Nat→Value
noncomputable def fr3(P:Params)(f:FS)(x:Nat):List DictEntry:=[kS P qI (f.k 0) (f.v 0),kS P tV (f.k 1) (f.v 1),kS P mN (f.k 2) (.ref x)]
noncomputable def Ee(P:Params)(f:FS)(x:Nat):List DictEntry:=[kS P qI (f.k 0) (f.v 0),kS P tV (f.k 1) (f.v 1),kS P mN (f.k 2) (.ref x),kS P pa (f.k 3) (f.v 3),kS P o5 (f.k 4) (f.v 4),kS P dj (f.k 5) (f.v 5),kS P gK (f.k 6) (f.v 6),kS P ⟨⟨[98,121]⟩⟩ (f.k 7) (f.v 7),kS P jU (f.k 8) (f.v 8),kS P Bl (f.k 9) (f.v 9),kS P Df (f.k 10) (f.v 10),kS P q9 (f.k 11) (f.v 11),kS P Ah (f.k 12) (f.v 12),kS P DY (f.k 13) (f.v 13)]
noncomputable def ss(P:Params)(num:Nat)(f:FS)(x:Nat)(sl:Array (Option Value)):Obj:=bC ⟨@Bool.rec (fun _=>List DictEntry) (Ee P f x) (fr3 P f x) (Nat.beq num 3)⟩ num sl
noncomputable def cmX(i:Nat):Expr:=match i with
 |0=>match (ej[0]?:Option Stmt) with
  |some (.Assign _ (.BinOp l _ _ _) _)=>l
  |_=>.Name ⟨⟨[]⟩⟩ ⟨0,0,0,0⟩
 |1=>match (ej[9]?:Option Stmt) with
  |some (.Return (some (.Compare l _ _ _)) _)=>l
  |_=>.Name ⟨⟨[]⟩⟩ ⟨0,0,0,0⟩
 |_=>match (ej[9]?:Option Stmt) with
  |some (.Return (some (.Compare _ _ [l] _)) _)=>l
  |_=>.Name ⟨⟨[]⟩⟩ ⟨0,0,0,0⟩
noncomputable def ownK(l:List (Str×NameKind)):List (Str×NameKind):=l.map fun y=>(y.1,match y.2 with|.free=>.cell|k=>k)
noncomputable def cmS(e:Expr):Scope:=match e with
 |.ListComp _ _ s _=>{s with names:=ownK s.names}
 |_=>default
noncomputable def pA(i it acc loc fr:Nat)(cells:List (Str×Addr)):Code:=.compLoop (cmX i) 0 (.ref it) (.ref acc) ⟨cmS (cmX i),loc,3,cells,KJ8,none,.ref 1992,some fr,0⟩
noncomputable abbrev cS(cd:Code)(c t:Nat)(p:List (Nat×Obj))(r:Result)(c' t':Nat):Call:=⟨cd,c,t,p,r,c',t',p⟩
noncomputable abbrev cB(s:String)(l:List Value):Code:=.builtin s ⟨l,[]⟩
noncomputable abbrev cR(f:Nat)(l:List Value):Code:=.call (.ref f) ⟨l,[]⟩
noncomputable abbrev rA(A:AS)(i:Nat):Value:=.ref (.add (A.a i) 1994)
noncomputable abbrev rV(v:Value):Result:=.ok (.ret v)
section
variable(n:Nat)(gE:List (Addr×Obj))(G:Nat→List (Addr×Obj))(w:World)(b c:Bool)(A:AS)(gh:List (Addr×Obj))(L N:Nat)(R K:List (Nat×Nat))(calls cb:List Call)(bls:List (List (Code×PySem.Pos)))(lu:List Call)(es:List (Bool×Bool))(bl:List (Code×PySem.Pos))(cd:Code)(i:Nat)(pre:List (Nat×Obj))(r:Result)(j:Nat)(post:List (Nat×Obj))(pos:(Nat→Value)→List (Nat×Obj))(k:Nat)
abbrev Hc:Prop:=∀x∈calls,br (MM w b c) (gX w b c (bI (bG A) R) (aQ K) (Ga gh)) L x
abbrev Hb:Prop:=∀x∈cb.zip bls,eu (MM w b c) (gX w b c (bI (bG A) R) (aQ K) (Ga gh)) (fun Γ=>Lim Γ L∧Γ.below=x.2) x.1
abbrev Hcg:Prop:=∀x∈calls,br (MM w b c) (gX w b c (bI (bG A) R) (aQ K) (G)) L x
abbrev Hbg:Prop:=∀x∈cb.zip bls,eu (MM w b c) (gX w b c (bI (bG A) R) (aQ K) (G)) (fun Γ=>Lim Γ L∧Γ.below=x.2) x.1
abbrev Hu:Prop:=∀x∈lu,eu (MM w b c) (gX w b c (bI (bG A) R) (aQ K) (Ga gh)) (fun Γ=>LimU Γ L) x
abbrev Hg:Prop:=∀x∈gE,x.1∈gh.map (·.1)∨Nat.add n 1994≤x.1
abbrev He:Prop:=∀x∈es,x.1=x.2
abbrev FN:Prop:=TX w b c (N+L) cd (Ga gh) (bI (bG A) R) (aQ K) i pre r j post k
abbrev qR:Prop:=Hcg G w b c A L R K calls→Hbg G w b c A L R K cb bls→He es→Hg n gE gh→TY w b c (N+L) bl cd (G) (bI (bG A) R) (aQ K) i pre r j post k
abbrev re:Prop:=Hc w b c A gh L R K calls→TX w b c (N+L) cd (Ga gh) (bI (bG A) R) (aQ K) i pre r j post k
abbrev bP:Prop:=Hc w b c A gh L R K calls→He es→TX w b c (N+L) cd (Ga gh) (bI (bG A) R) (aQ K) i pre r j post k
abbrev Dl:Prop:=He es→TX w b c (N+L) cd (Ga gh) (bI (bG A) R) (aQ K) i pre r j post k
abbrev lG:Prop:=Hc w b c A gh L R K calls→Hb w b c A gh L R K cb bls→TY w b c (N+L) bl cd (Ga gh) (bI (bG A) R) (aQ K) i pre r j post k
abbrev zK:Prop:=Hc w b c A gh L R K calls→TY w b c (N+L) bl cd (Ga gh) (bI (bG A) R) (aQ K) i pre r j post k
abbrev pe:Prop:=Hc w b c A gh L R K calls→Hb w b c A gh L R K cb bls→He es→TY w b c (N+L) bl cd (Ga gh) (bI (bG A) R) (aQ K) i pre r j post k
abbrev c9:Prop:=Hc w b c A gh L R K calls→Hb w b c A gh L R K cb bls→Hu w b c A gh L R K lu→He es→∃PL:Nat→Value,TY w b c (N+L) bl cd (Ga gh) (bI (bG A) R) (aQ K) i pre r j (pos PL) k
abbrev zZ:Prop:=Hc w b c A gh L R K calls→He es→∃PL:Nat→Value,TY w b c (N+L) bl cd (Ga gh) (bI (bG A) R) (aQ K) i pre r j (pos PL) k
abbrev ZR_e:Prop:=He es→∃PL:Nat→Value,TY w b c (N+L) bl cd (Ga gh) (bI (bG A) R) (aQ K) i pre r j (pos PL) k
end
section
variable{n:Nat}{gE:List (Addr×Obj)}{G:Nat→List (Addr×Obj)}{w:World}{b c:Bool}{A:AS}{gh:List (Addr×Obj)}{L N:Nat}{R K:List (Nat×Nat)}{calls cb:List Call}{bls:List (List (Code×PySem.Pos))}{lu:List Call}{es:List (Bool×Bool)}{bl:List (Code×PySem.Pos)}{cd:Code}{i:Nat}{pre:List (Nat×Obj)}{r:Result}{j:Nat}{post:List (Nat×Obj)}{pos:(Nat→Value)→List (Nat×Obj)}{k:Nat}
theorem eM(H:Hn)(h1:dN (pre.map (·.1))=true:=by rfl)(h2:dN (post.map (·.1))=true:=by rfl)(hq:∀bl P,fN (sX WS w b c (bI (bG A) R) (aQ K) (Ga gh) [] [] [] [] N bl cd P pre i H) post (SG w false c)=fS (sX WS w b c (bI (bG A) R) (aQ K) (Ga gh) [] [] [] [] N bl cd P pre i H) r j k post [] (SG w true c):=by intro bl p;kernel_rfl):FN w b c A gh L N R K  cd i pre r j post k:=mG (calls:=[]) (H:=H) (fun _ h=>nomatch h) (lu:=[]) (fun _ h=>nomatch h) h1 h2 hq (cs:=[]) (fun _ h=>nomatch h) cA
theorem mZY_cbeg(H:Hn)(e1:G j=gE)(e2:G i=gh)(e3:bI (bG A) R i=Nat.add n 1994)(h1:dN (pre.map (·.1))=true:=by rfl)(h2:dN (post.map (·.1))=true:=by rfl)(hq:∀P,fN (sX WR w b c (bI (bG A) R) (aQ K) (G) calls bls cb [] N bl cd P pre i H) post (SG w false c)=fS (sX WR w b c (bI (bG A) R) (aQ K) (G) calls bls cb [] N bl cd P pre i H) r j k post es (SG w true c):=by intro p;kernel_rfl):qR n gE G w b c A gh L N R K calls cb bls es bl cd i pre r j post k:=fun hc hb he hg=>mJ (calls:=calls) (H:=H) hc (cb:=cb) (bls:=bls) hb (lu:=[]) (fun _ h=>nomatch h) h1 h2 hq (cs:=es) he (e1▸e2▸e3▸hg)
theorem ph(H:Hn)(h1:dN (pre.map (·.1))=true:=by rfl)(h2:dN (post.map (·.1))=true:=by rfl)(hq:∀bl P,fN (sX WS w b c (bI (bG A) R) (aQ K) (Ga gh) calls [] [] [] N bl cd P pre i H) post (SG w false c)=fS (sX WS w b c (bI (bG A) R) (aQ K) (Ga gh) calls [] [] [] N bl cd P pre i H) r j k post [] (SG w true c):=by intro bl p;kernel_rfl):re w b c A gh L N R K calls cd i pre r j post k:=fun hc=>mG (calls:=calls) (H:=H) hc (lu:=[]) (fun _ h=>nomatch h) h1 h2 hq (cs:=[]) (fun _ h=>nomatch h) cA
theorem ae(H:Hn)(h1:dN (pre.map (·.1))=true:=by rfl)(h2:dN (post.map (·.1))=true:=by rfl)(hq:∀bl P,fN (sX WS w b c (bI (bG A) R) (aQ K) (Ga gh) calls [] [] [] N bl cd P pre i H) post (SG w false c)=fS (sX WS w b c (bI (bG A) R) (aQ K) (Ga gh) calls [] [] [] N bl cd P pre i H) r j k post es (SG w true c):=by intro bl p;kernel_rfl):bP w b c A gh L N R K calls es cd i pre r j post k:=fun hc he=>mG (calls:=calls) (H:=H) hc (lu:=[]) (fun _ h=>nomatch h) h1 h2 hq (cs:=es) he cA
theorem lA(H:Hn)(h1:dN (pre.map (·.1))=true:=by rfl)(h2:dN (post.map (·.1))=true:=by rfl)(hq:∀bl P,fN (sX WS w b c (bI (bG A) R) (aQ K) (Ga gh) [] [] [] [] N bl cd P pre i H) post (SG w false c)=fS (sX WS w b c (bI (bG A) R) (aQ K) (Ga gh) [] [] [] [] N bl cd P pre i H) r j k post es (SG w true c):=by intro bl p;kernel_rfl):Dl w b c A gh L N R K es cd i pre r j post k:=fun he=>mG (calls:=[]) (H:=H) (fun _ h=>nomatch h) (lu:=[]) (fun _ h=>nomatch h) h1 h2 hq (cs:=es) he cA
theorem lm(H:Hn)(h1:dN (pre.map (·.1))=true:=by rfl)(h2:dN (post.map (·.1))=true:=by rfl)(hq:∀P,fN (sX WR w b c (bI (bG A) R) (aQ K) (Ga gh) calls bls cb [] N bl cd P pre i H) post (SG w false c)=fS (sX WR w b c (bI (bG A) R) (aQ K) (Ga gh) calls bls cb [] N bl cd P pre i H) r j k post [] (SG w true c):=by intro p;kernel_rfl):lG w b c A gh L N R K calls cb bls bl cd i pre r j post k:=fun hc hb=>mJ (calls:=calls) (H:=H) hc (cb:=cb) (bls:=bls) hb (lu:=[]) (fun _ h=>nomatch h) h1 h2 hq (cs:=[]) (fun _ h=>nomatch h) cA
theorem zB(H:Hn)(h1:dN (pre.map (·.1))=true:=by rfl)(h2:dN (post.map (·.1))=true:=by rfl)(hq:∀P,fN (sX WR w b c (bI (bG A) R) (aQ K) (Ga gh) calls [] [] [] N bl cd P pre i H) post (SG w false c)=fS (sX WR w b c (bI (bG A) R) (aQ K) (Ga gh) calls [] [] [] N bl cd P pre i H) r j k post [] (SG w true c):=by intro p;kernel_rfl):zK w b c A gh L N R K calls bl cd i pre r j post k:=fun hc=>mJ (calls:=calls) (H:=H) hc (cb:=[]) (bls:=[]) (fun _ h=>nomatch h) (lu:=[]) (fun _ h=>nomatch h) h1 h2 hq (cs:=[]) (fun _ h=>nomatch h) cA
theorem jD(H:Hn)(h1:dN (pre.map (·.1))=true:=by rfl)(h2:dN (post.map (·.1))=true:=by rfl)(hq:∀P,fN (sX WR w b c (bI (bG A) R) (aQ K) (Ga gh) calls bls cb [] N bl cd P pre i H) post (SG w false c)=fS (sX WR w b c (bI (bG A) R) (aQ K) (Ga gh) calls bls cb [] N bl cd P pre i H) r j k post es (SG w true c):=by intro p;kernel_rfl):pe w b c A gh L N R K calls cb bls es bl cd i pre r j post k:=fun hc hb he=>mJ (calls:=calls) (H:=H) hc (cb:=cb) (bls:=bls) hb (lu:=[]) (fun _ h=>nomatch h) h1 h2 hq (cs:=es) he cA
theorem cU(H:Hn)(i0:Nat)(h1:dN (pre.map (·.1))=true:=by rfl)(h2:dN ((pos (i5 (sX WR w b c (bI (bG A) R) (aQ K) (Ga gh) calls bls cb lu N bl cd default pre i H) i0)).map (·.1))=true:=by rfl)(hq:∀P,fN (sX WR w b c (bI (bG A) R) (aQ K) (Ga gh) calls bls cb lu N bl cd P pre i H) (pos (i5 (sX WR w b c (bI (bG A) R) (aQ K) (Ga gh) calls bls cb lu N bl cd default pre i H) i0)) (SG w false c)=fS (sX WR w b c (bI (bG A) R) (aQ K) (Ga gh) calls bls cb lu N bl cd P pre i H) r j k (pos (i5 (sX WR w b c (bI (bG A) R) (aQ K) (Ga gh) calls bls cb lu N bl cd default pre i H) i0)) es (SG w true c):=by intro p;kernel_rfl):c9 w b c A gh L N R K calls cb bls lu es bl cd i pre r j pos k:=fun hc hb hu he=>⟨i5 (sX WR w b c (bI (bG A) R) (aQ K) (Ga gh) calls bls cb lu N bl cd default pre i H) i0,mJ (calls:=calls) (H:=H) hc (cb:=cb) (bls:=bls) hb (lu:=lu) hu h1 h2 hq (cs:=es) he cA⟩
theorem eQ(H:Hn)(i0:Nat)(h1:dN (pre.map (·.1))=true:=by rfl)(h2:dN ((pos (i5 (sX WR w b c (bI (bG A) R) (aQ K) (Ga gh) calls [] [] [] N bl cd default pre i H) i0)).map (·.1))=true:=by rfl)(hq:∀P,fN (sX WR w b c (bI (bG A) R) (aQ K) (Ga gh) calls [] [] [] N bl cd P pre i H) (pos (i5 (sX WR w b c (bI (bG A) R) (aQ K) (Ga gh) calls [] [] [] N bl cd default pre i H) i0)) (SG w false c)=fS (sX WR w b c (bI (bG A) R) (aQ K) (Ga gh) calls [] [] [] N bl cd P pre i H) r j k (pos (i5 (sX WR w b c (bI (bG A) R) (aQ K) (Ga gh) calls [] [] [] N bl cd default pre i H) i0)) es (SG w true c):=by intro p;kernel_rfl):zZ w b c A gh L N R K calls es bl cd i pre r j pos k:=fun hc he=>⟨i5 (sX WR w b c (bI (bG A) R) (aQ K) (Ga gh) calls [] [] [] N bl cd default pre i H) i0,mJ (calls:=calls) (H:=H) hc (cb:=[]) (bls:=[]) (fun _ h=>nomatch h) (lu:=[]) (fun _ h=>nomatch h) h1 h2 hq (cs:=es) he cA⟩
theorem mZR_e(H:Hn)(i0:Nat)(h1:dN (pre.map (·.1))=true:=by rfl)(h2:dN ((pos (i5 (sX WR w b c (bI (bG A) R) (aQ K) (Ga gh) [] [] [] [] N bl cd default pre i H) i0)).map (·.1))=true:=by rfl)(hq:∀P,fN (sX WR w b c (bI (bG A) R) (aQ K) (Ga gh) [] [] [] [] N bl cd P pre i H) (pos (i5 (sX WR w b c (bI (bG A) R) (aQ K) (Ga gh) [] [] [] [] N bl cd default pre i H) i0)) (SG w false c)=fS (sX WR w b c (bI (bG A) R) (aQ K) (Ga gh) [] [] [] [] N bl cd P pre i H) r j k (pos (i5 (sX WR w b c (bI (bG A) R) (aQ K) (Ga gh) [] [] [] [] N bl cd default pre i H) i0)) es (SG w true c):=by intro p;kernel_rfl):ZR_e w b c A gh L N R K es bl cd i pre r j pos k:=fun he=>⟨i5 (sX WR w b c (bI (bG A) R) (aQ K) (Ga gh) [] [] [] [] N bl cd default pre i H) i0,mJ (calls:=[]) (H:=H) (fun _ h=>nomatch h) (cb:=[]) (bls:=[]) (fun _ h=>nomatch h) (lu:=[]) (fun _ h=>nomatch h) h1 h2 hq (cs:=es) he cA⟩
end
noncomputable def dB:List Nat:=[0,0,0,1006008,0,8,8,2003004,5,5,5,1001,8,6003004,8,8,0,0,0,1006009,0,9,0,9,7010000,0,2,9,0,0,0,0,1002,9]
noncomputable def gw:List Nat:=[0,0,1008008,0,8,6003004,8,8,0,0,0,1006009,0,9,0,9,7010000,0,2,9,0,0,0,0,1001,9,0,2,0,8,7011000,0,2,8,0,8,8,8,8,2003004,5,5,5,1002]
noncomputable def fP:List Nat:=[6003004,8,0,0,0,11,9011000,2,11,2003004,11,6003004,7012000,2003004,12,2003004,11,2003004,11,1004013]
noncomputable def ii:List Nat:=[8,6003004,8,8,0,0,0,1006012,0,12]
noncomputable def lj:List Nat:=dB++[0,2,8,2,8,1,8,6003004,8,0,0,0,11,9011000,2]
noncomputable def pn:List Nat:=gw++ii++[13,13,13,1000,13,2,12,14,14,14,1000]
noncomputable def qe:List Nat:=dB++[0,2,8,1,8,6003004,8,0,0,0,11,9011000]
noncomputable def B3:List Nat:=dB++[0,1,9,0,1,9,0,2,9,2003004,5,5,5,5,1003,9,2003004,5,5,5,5,1004,9,9,9,9,2,2,8,1,8]++fP++[1005]
section
variable(w:World)(b c:Bool)(A:AS)(s:BS)(gh:List (Addr×Obj))(n t L:Nat)(i ti tm:Nat)(m:Int)(xw:Int)(tw:Nat)
def gB(Y0:Int):Bool×Bool:=((BEq.beq (Int.ofNat i) Y0),false)
def ecsr0:List (Nat×Nat):=[(7,Nat.add n 1994)]
def ecsr1:List (Nat×Nat):=[(0,Nat.add t 5615)]
def tF(Y0:Nat):Result:=rV (.int (Builtin.bitAnd (ay xw 32) 4294967295) (.add t Y0))
def tl(Y0:Nat):Result:=rV (.int (Builtin.bitAnd xw 4294967295) (.add t Y0))
def pT:Int:=Builtin.bitAnd (Int.ofNat i) 3
def dC:Code:=(cR 1428 [.ref (.add (A.a 2) 1994),.int (Int.ofNat i) ti,.int m tm])
def dP:Call:=cS (cB "dict.__contains__" [(rA A 4),(.int (Int.ofNat i) ti)]) 8 4 [(4,d4 (PP w b c) A s)] (rV (.bool false)) 8 5
def d9:Call:=cS (cB "dict.__contains__" [(.ref 1216),(.int (Int.ofNat i) ti)]) 10 13 [] (rV (.bool true)) 10 14
def p6:Bool:=(decide (GE.ge (Int.ofNat i) 768))
def dM:Bool:=(decide (GE.ge (Int.ofNat i) 2816))
def d7:Bool:=(BEq.beq (ay (Int.ofNat i) 8) 12)
def ec:Bool:=(decide (LT.lt m (Builtin.bitAnd (ay (Int.ofNat i) 8) 3)))
def iR(x0 x1:Nat):Call:=cS (cB "list.__getitem__" [(.ref (.add n 1999)),(.int (pT i) (.add t x0))]) 13 x1 [(12,lO [(zv s 2816),(zv s 2816),(zv s 2818)] 0)] (rV (.int xw tw)) 13 x1
def iQ:Bool:=(bne (Builtin.bitAnd (Int.ofNat i) 128) 0)
def gx:Bool:=(decide (GE.ge (Int.ofNat i) 3840))
def nH:Call:=cS (cB "dict.__getitem__" [(rA A 4),(.int 774 (.add t 5633))]) 10 19 [(4,d4 (PP w b c) A s)] (rV (pv s 774)) 10 20
def nl:Bool:=(iI (pT i))
def wO:Call:=cS (cB "dict.__getitem__" [(rA A 4),(.int 262 (.add t 5636))]) 10 22 [(4,d4 (PP w b c) A s)] (rV (pv s 262)) 10 23
def wK:Bool:=(BEq.beq (Builtin.bitAnd (ay (Builtin.bitAnd (s.p 774).1 (s.p 262).1) (pT i)) 1) 0)
def uD:List (Bool×Bool):=[((decide (GE.ge m (Builtin.bitAnd (ay (Int.ofNat i) 8) 3))),true)]
def ui:List (Bool×Bool):=[((BEq.beq (Int.ofNat i) 770),true),gB i 769,gB i 768,(p6 i,true),(dM i,false),(d7 i,false),(ec i m,false)]
def vX:List (Bool×Bool):=[((BEq.beq (Int.ofNat i) 771),true),gB i 770,gB i 769,gB i 768,(p6 i,true),(dM i,false),(d7 i,false),(ec i m,false)]
def uu:List (Bool×Bool):=[gB i 324,gB i 260,gB i 256,(p6 i,false),(dM i,false),(d7 i,false),(ec i m,false)]
def vk:List (Bool×Bool):=[(iQ i,false),(gx i,false),(dM i,true),(d7 i,false),(ec i m,false)]
def uE:List (Bool×Bool):=[(iQ i,true),(gx i,false),(dM i,true),(d7 i,false),(ec i m,false)]
def uI:List (Bool×Bool):=[(iQ i,false),(gx i,false),(dM i,true),((decide (LT.lt m 3)),false),(d7 i,true),(ec i m,false)]
def tW:List (Bool×Bool):=[(iQ i,false),(gx i,false),(dM i,true),((BEq.beq (Builtin.bitAnd (ay (s.p 774).1 (pT i)) 1) 0),false),(nl i,false),((BEq.beq m 1),true),((decide (LT.lt m 3)),true),(d7 i,true),(ec i m,false)]
def u9:List (Bool×Bool):=[(iQ i,false),(gx i,false),(dM i,true),(wK s i,false),(nl i,false),((BEq.beq m 1),false),((decide (LT.lt m 3)),true),(d7 i,true),(ec i m,false)]
def uq:List (Bool×Bool):=[(iQ i,true),(gx i,false),(dM i,true),((decide (LT.lt m 3)),false),(d7 i,true),(ec i m,false)]
def ru:List (Bool×Bool):=[(iQ i,true),(gx i,false),(dM i,true),((BEq.beq (Builtin.bitAnd (ay (s.p 774).1 (pT i)) 1) 0),false),(nl i,false),((BEq.beq m 1),true),((decide (LT.lt m 3)),true),(d7 i,true),(ec i m,false)]
def sB:List (Bool×Bool):=[(iQ i,true),(gx i,false),(dM i,true),(wK s i,false),(nl i,false),((BEq.beq m 1),false),((decide (LT.lt m 3)),true),(d7 i,true),(ec i m,false)]
def rj:List (Bool×Bool):=[((BEq.beq (Int.ofNat i) 769),true),gB i 768,(p6 i,true),(dM i,false),(d7 i,false),(ec i m,false)]
def sw:List (Bool×Bool):=[gB i 3860,(gx i,true),(dM i,true),(d7 i,false),(ec i m,false)]
def rx:List (Bool×Bool):=[((BEq.beq (Int.ofNat i) 3860),true),(gx i,true),(dM i,true),(d7 i,false),(ec i m,false)]
abbrev eI:=bP w b c A gh L 40 (ecsr0 n) (ecsr1 t)
include w b c A s gh n t L i ti tm m xw tw
theorem read_0:eI w b c A gh n t L [cS (cB "dict.__contains__" [(rA A 4),(.int (Int.ofNat i) ti)]) 8 4 [(4,d4 (PP w b c) A s)] (rV (.bool true)) 8 5,cS (cB "dict.__getitem__" [(rA A 4),(.int (Int.ofNat i) ti)]) 9 11 [(4,d4 (PP w b c) A s)] (rV (pv s i)) 9 12] (uD i m) (dC A i ti tm m) 7 (al w b c A s) (rV (pv s i)) 9 (al w b c A s) 12:=ae (hm [0,0,0,1006008,0,8,8,2003004,5,5,5,1001,8,0,8,7009000,0,1,8,2003004,8,5,5,5,5,1002])
theorem read_1:eI w b c A gh n t L [dP w b c A s i ti,d9 i ti] (ui i m) (dC A i ti tm m) 7 (al w b c A s) (rV (zv s 770)) 11 (al w b c A s) 25:=ae (hm (lj++[11,2,11,1,11,2003004]))
theorem read_2:eI w b c A gh n t L [dP w b c A s i ti,d9 i ti] (vX i m) (dC A i ti tm m) 7 (al w b c A s) (rV (zv s 771)) 11 (al w b c A s) 26:=ae (hm (lj++[11,2,11,2,11,1,11,2003004]))
theorem read_3:eI w b c A gh n t L [dP w b c A s i ti,d9 i ti] (uu i m) (dC A i ti tm m) 7 (al w b c A s) (rV (zv s 384)) 10 (al w b c A s) 23:=ae (hm (dB++[0,2,8,2,8,2,8,2,8,2,8,2,8,2003004]))
theorem read_4:eI w b c A gh n t L [dP w b c A s i ti,d9 i ti,iR s n t i xw tw 5642 28] (vk i m) (dC A i ti tm m) 7 (al w b c A s) (tl t xw 5646) 13 (al w b c A s) 32:=ae (hm (dB++[0,2,8,1,8]++fP++[1003,9011002,0]))
theorem read_5:eI w b c A gh n t L [dP w b c A s i ti,d9 i ti,iR s n t i xw tw 5642 28] (uE i m) (dC A i ti tm m) 7 (al w b c A s) (tF t xw 5648) 13 (al w b c A s) 34:=ae (hm (dB++[0,2,8,1,8]++fP++[1003,9011001,0,0]))
theorem read_6:eI w b c A gh n t L [dP w b c A s i ti,d9 i ti,iR s n t i xw tw 5642 28] (uI i m) (dC A i ti tm m) 7 (al w b c A s) (tl t xw 5646) 13 (al w b c A s) 32:=ae (hm (dB++[0,1,9,0,2,8,1,8]++fP++[1003,9011002,0]))
theorem read_7:eI w b c A gh n t L [dP w b c A s i ti,d9 i ti,nH w b c A s t,iR s n t i xw tw 5652 38] (tW s i m) (dC A i ti tm m) 7 (al w b c A s) (tl t xw 5656) 13 (al w b c A s) 42:=ae (hm (dB++[0,1,9,0,1,9,0,1,9,2003004,5,5,5,5,1003,9,9,9,9,2,2,8,1,8]++fP++[1004,9011002,0]))
theorem read_8:eI w b c A gh n t L [dP w b c A s i ti,d9 i ti,nH w b c A s t,wO w b c A s t,iR s n t i xw tw 5656 42] (u9 s i m) (dC A i ti tm m) 7 (al w b c A s) (tl t xw 5660) 13 (al w b c A s) 46:=ae (hm (B3++[9011002,0]))
theorem read_9:eI w b c A gh n t L [dP w b c A s i ti,d9 i ti,iR s n t i xw tw 5642 28] (uq i m) (dC A i ti tm m) 7 (al w b c A s) (tF t xw 5648) 13 (al w b c A s) 34:=ae (hm (dB++[0,1,9,0,2,8,1,8]++fP++[1003,9011001,0,0]))
theorem IR:eI w b c A gh n t L [dP w b c A s i ti,d9 i ti,nH w b c A s t,iR s n t i xw tw 5652 38] (ru s i m) (dC A i ti tm m) 7 (al w b c A s) (tF t xw 5658) 13 (al w b c A s) 44:=ae (hm (dB++[0,1,9,0,1,9,0,1,9,2003004,5,5,5,5,1003,9,9,9,9,2,2,8,1,8]++fP++[1004,9011001,0,0]))
theorem IG:eI w b c A gh n t L [dP w b c A s i ti,d9 i ti,nH w b c A s t,wO w b c A s t,iR s n t i xw tw 5656 42] (sB s i m) (dC A i ti tm m) 7 (al w b c A s) (tF t xw 5662) 13 (al w b c A s) 48:=ae (hm (B3++[9011001,0,0]))
theorem IC:eI w b c A gh n t L [dP w b c A s i ti,d9 i ti] (rj i m) (dC A i ti tm m) 7 (al w b c A s) (rV (.int 1075056896 4563)) 11 (al w b c A s) 23:=ae (hm (lj++[11,1,0]))
theorem Jm:eI w b c A gh n t L [dP w b c A s i ti,d9 i ti] (sw i m) (dC A i ti tm m) 7 (al w b c A s) (rV (.int 0 (.add t 5637))) 11 (al w b c A s) 23:=ae (hm (qe++[1,11,2]))
theorem I3:eI w b c A gh n t L [dP w b c A s i ti,d9 i ti] (rx i m) (dC A i ti tm m) 7 (al w b c A s) (rV (zv s 3860)) 11 (al w b c A s) 23:=ae (hm (qe++[1,11,1,11,2003004]))
end
section
variable(w:World)(b c:Bool)(A:AS)(s:BS)(gh:List (Addr×Obj))(n t L:Nat)(i ti:Nat)(xw:Int)(tw:Nat)
def gv(Y0:Int):Bool×Bool:=((BEq.beq (Int.ofNat i) Y0),false)
def ecsr5:List (Nat×Nat):=[(7,Nat.add n 1994)]
def ecsr6:List (Nat×Nat):=[(0,Nat.add t 5615)]
def tK:Bool:=decide (GE.ge (Int.ofNat i) 768)
def eC:Code:=(cR 1428 [.ref (.add (A.a 2) 1994),.int (Int.ofNat i) ti])
def ff:Call:=cS (cB "dict.__contains__" [(rA A 4),(.int (Int.ofNat i) ti)]) 8 4 [(4,d4 (PP w b c) A s)] (rV (.bool false)) 8 5
def fs:Call:=cS (cB "dict.__contains__" [(.ref 1216),(.int (Int.ofNat i) ti)]) 10 13 [] (rV (.bool true)) 10 14
def fj:Bool:=(decide (GE.ge (Int.ofNat i) 2816))
def fi:Bool:=(BEq.beq (ay (Int.ofNat i) 8) 12)
def fA:Bool:=(decide (LT.lt 3 (Builtin.bitAnd (ay (Int.ofNat i) 8) 3)))
def nK:Call:=cS (cB "list.__getitem__" [(.ref (.add n 1999)),(.int (Builtin.bitAnd (Int.ofNat i) 3) (.add t 5642))]) 13 28 [(12,lO [(zv s 2816),(zv s 2816),(zv s 2818)] 0)] (rV (.int xw tw)) 13 28
def om:Bool:=(bne (Builtin.bitAnd (Int.ofNat i) 128) 0)
def jy:Bool:=(decide (GE.ge (Int.ofNat i) 3840))
def rz:List (Bool×Bool):=[((decide (GE.ge 3 (Builtin.bitAnd (ay (Int.ofNat i) 8) 3))),true)]
def sy:List (Bool×Bool):=[((BEq.beq (Int.ofNat i) 770),true),gv i 769,gv i 768,((tK i),true),(fj i,false),(fi i,false),(fA i,false)]
def sk:List (Bool×Bool):=[((BEq.beq (Int.ofNat i) 771),true),gv i 770,gv i 769,gv i 768,((tK i),true),(fj i,false),(fi i,false),(fA i,false)]
def rv:List (Bool×Bool):=[gv i 324,gv i 260,gv i 256,((tK i),false),(fj i,false),(fi i,false),(fA i,false)]
def ry:List (Bool×Bool):=[(om i,false),(jy i,false),(fj i,true),(fi i,false),(fA i,false)]
def rT:List (Bool×Bool):=[(om i,true),(jy i,false),(fj i,true),(fi i,false),(fA i,false)]
def rn:List (Bool×Bool):=[(om i,false),(jy i,false),(fj i,true),(fi i,true),(fA i,false)]
def rK:List (Bool×Bool):=[(om i,true),(jy i,false),(fj i,true),(fi i,true),(fA i,false)]
def r0:List (Bool×Bool):=[((BEq.beq (Int.ofNat i) 769),true),gv i 768,((tK i),true),(fj i,false),(fi i,false),(fA i,false)]
def rQ:List (Bool×Bool):=[gv i 3860,(jy i,true),(fj i,true),(fi i,false),(fA i,false)]
def pu:List (Bool×Bool):=[((BEq.beq (Int.ofNat i) 3860),true),(jy i,true),(fj i,true),(fi i,false),(fA i,false)]
abbrev ie:=bP w b c A gh L 40 (ecsr5 n) (ecsr6 t)
include w b c A s gh n t L i ti xw tw
theorem Js:ie w b c A gh n t L [cS (cB "dict.__contains__" [(rA A 4),(.int (Int.ofNat i) ti)]) 8 4 [(4,d4 (PP w b c) A s)] (rV (.bool true)) 8 5,cS (cB "dict.__getitem__" [(rA A 4),(.int (Int.ofNat i) ti)]) 9 11 [(4,d4 (PP w b c) A s)] (rV (pv s i)) 9 12] (rz i) (eC A i ti) 7 (al w b c A s) (rV (pv s i)) 9 (al w b c A s) 12:=ae (hm [0,0,0,1006008,0,8,8,2003004,5,5,5,1001,8,0,8,7009000,0,1,8,2003004,8,5,5,5,5,1002])
theorem I9:ie w b c A gh n t L [ff w b c A s i ti,fs i ti] (sy i) (eC A i ti) 7 (al w b c A s) (rV (zv s 770)) 11 (al w b c A s) 25:=ae (hm (lj++[11,2,11,1,11,2003004]))
theorem Im:ie w b c A gh n t L [ff w b c A s i ti,fs i ti] (sk i) (eC A i ti) 7 (al w b c A s) (rV (zv s 771)) 11 (al w b c A s) 26:=ae (hm (lj++[11,2,11,2,11,1,11,2003004]))
theorem Iy:ie w b c A gh n t L [ff w b c A s i ti,fs i ti] (rv i) (eC A i ti) 7 (al w b c A s) (rV (zv s 384)) 10 (al w b c A s) 23:=ae (hm (dB++[0,2,8,2,8,2,8,2,8,2,8,2,8,2003004]))
theorem H8:ie w b c A gh n t L [ff w b c A s i ti,fs i ti,nK s n t i xw tw] (ry i) (eC A i ti) 7 (al w b c A s) (rV (.int (Builtin.bitAnd xw 4294967295) (.add t 5646))) 13 (al w b c A s) 32:=ae (hm (dB++[0,2,8,1,8]++fP++[1003,9011002,0]))
theorem IJ:ie w b c A gh n t L [ff w b c A s i ti,fs i ti,nK s n t i xw tw] (rT i) (eC A i ti) 7 (al w b c A s) (rV (.int (Builtin.bitAnd (ay xw 32) 4294967295) (.add t 5648))) 13 (al w b c A s) 34:=ae (hm (dB++[0,2,8,1,8]++fP++[1003,9011001,0,0]))
theorem Id:ie w b c A gh n t L [ff w b c A s i ti,fs i ti,nK s n t i xw tw] (rn i) (eC A i ti) 7 (al w b c A s) (rV (.int (Builtin.bitAnd xw 4294967295) (.add t 5646))) 13 (al w b c A s) 32:=ae (hm (dB++[0,1,9,0,0,8,1,8]++fP++[1003,9011002,0]))
theorem Jg:ie w b c A gh n t L [ff w b c A s i ti,fs i ti,nK s n t i xw tw] (rK i) (eC A i ti) 7 (al w b c A s) (rV (.int (Builtin.bitAnd (ay xw 32) 4294967295) (.add t 5648))) 13 (al w b c A s) 34:=ae (hm (dB++[0,1,9,0,0,8,1,8]++fP++[1003,9011001,0,0]))
theorem Ip:ie w b c A gh n t L [ff w b c A s i ti,fs i ti] (r0 i) (eC A i ti) 7 (al w b c A s) (rV (.int 1075056896 4563)) 11 (al w b c A s) 23:=ae (hm (lj++[11,1,0]))
theorem Jn:ie w b c A gh n t L [ff w b c A s i ti,fs i ti] (rQ i) (eC A i ti) 7 (al w b c A s) (rV (.int 0 (.add t 5637))) 11 (al w b c A s) 23:=ae (hm (qe++[1,11,2]))
theorem DB:ie w b c A gh n t L [ff w b c A s i ti,fs i ti] (pu i) (eC A i ti) 7 (al w b c A s) (rV (zv s 3860)) 11 (al w b c A s) 23:=ae (hm (qe++[1,11,1,11,2003004]))
end
section
variable(w:World)(b c:Bool)(A:AS)(s:BS)(gh:List (Addr×Obj))(n t L:Nat)(i ti tm tv:Nat)(m v:Int)(p1:Nat→Int×Nat)
def fV(Y0:Int):Bool×Bool:=((BEq.beq (Int.ofNat i) Y0),false)
def gf:Int:=Builtin.bitAnd v 4294967295
def ecsr9:List (Nat×Nat):=[(7,Nat.add n 1994)]
def ecsr10:List (Nat×Nat):=[(0,Nat.add t 5615)]
def qh:Nat×Obj:=(4,d4 (PP w b c) A ⟨s.z,p1,s.r,s.pc,s.md,s.sp,s.es,s.em⟩)
def pK:Bool:=decide (GE.ge (Int.ofNat i) 768)
def iY:Value:=.int (Int.ofNat i) ti
def dw:Call:=cS (cB "dict.__contains__" [(.ref 1216),(iY i ti)]) 10 12 [] (rV (.bool true)) 10 13
def kY:Call:=cS (cB "dict.__contains__" [(rA A 4),(iY i ti)]) 11 25 [(4,d4 (PP w b c) A s)] (rV (.bool true)) 11 26
def xA:Bool:=(hP (HAppend.hAppend (List.cons (PySem.Value.int 321 (aQ (List.cons (Prod.mk 0 (.add t 5615)) ([])) 33)) ([])) (HAppend.hAppend (List.cons (PySem.Value.int 833 (aQ (List.cons (Prod.mk 0 (.add t 5615)) ([])) 34)) ([])) ([]))) (Int.ofNat i))
def np:Bool:=(hP (HAppend.hAppend (List.cons (PySem.Value.int 262 (aQ (List.cons (Prod.mk 0 (.add t 5615)) ([])) 31)) ([])) (HAppend.hAppend (List.cons (PySem.Value.int 774 (aQ (List.cons (Prod.mk 0 (.add t 5615)) ([])) 32)) ([])) ([]))) (Int.ofNat i))
def lq:Bool:=(hP (HAppend.hAppend (List.cons (PySem.Value.int 261 (aQ (List.cons (Prod.mk 0 (.add t 5615)) ([])) 29)) ([])) (HAppend.hAppend (List.cons (PySem.Value.int 773 (aQ (List.cons (Prod.mk 0 (.add t 5615)) ([])) 30)) ([])) ([]))) (Int.ofNat i))
def dv:Bool:=(BEq.beq (Builtin.bitAnd (ay (Int.ofNat i) 10) 3) 3)
def dA:Bool:=(BEq.beq (ay (Int.ofNat i) 8) 12)
def dy:Bool:=(decide (LT.lt m (Builtin.bitAnd (ay (Int.ofNat i) 8) 3)))
def dz:Code:=(cR 1450 [.ref (.add (A.a 2) 1994),iY i ti,.int v tv,.int m tm])
def lg:List (Nat×Obj):=(al w b c A ⟨s.z,p1,s.r,s.pc,s.md,s.sp,s.es,s.em⟩)
def gR:Call:=cS (cB "dict.__contains__" [(rA A 4),(iY i ti)]) 11 25 [(4,d4 (PP w b c) A s)] (rV (.bool false)) 11 26
def gU:Bool:=(decide (GE.ge (Int.ofNat i) 2816))
def wY:Call:=⟨cB "dict.__setitem__" [(rA A 4),(iY i ti),(.int (Builtin.bitAnd (gf v) 7) (.add t 5648))],14,35,[(4,d4 (PP w b c) A s)],rV .none,14,36,[qh w b c A s p1]⟩
def g4:Bool:=(BEq.beq (Builtin.bitAnd (Int.ofNat i) 3) 0)
def og:Bool:=(bne (Builtin.bitAnd (Int.ofNat i) 128) 0)
def rt:List (Bool×Bool):=[((BEq.beq (Int.ofNat i) 770),true),fV i 768,((pK i),true),(gU i,false),(dv i,false),(dA i,false),(dy i m,false)]
def rq:List (Bool×Bool):=[((BEq.beq (Int.ofNat i) 771),true),fV i 770,fV i 768,((pK i),true),(gU i,false),(dv i,false),(dA i,false),(dy i m,false)]
def sr:List (Bool×Bool):=[fV i 324,fV i 260,fV i 256,((pK i),false),(gU i,false),(dv i,false),(dA i,false),(dy i m,false)]
def sj:List (Bool×Bool):=[(g4 i,true),((bg (ay (s.z 2816).1 32) 32),false),(og i,false),(g4 i,true),(gU i,true),(dv i,false),(dA i,false),(dy i m,false)]
def rL:List (Bool×Bool):=[(g4 i,false),((bg (ay (s.z 2818).1 32) 32),false),(og i,false),(g4 i,false),(gU i,true),(dv i,false),(dA i,false),(dy i m,false)]
def pC:List (Bool×Bool):=[(g4 i,true),((bg (gf v) 32),false),(og i,true),(g4 i,true),(gU i,true),(dv i,false),(dA i,false),(dy i m,false)]
def pB:List (Bool×Bool):=[(g4 i,false),((bg (gf v) 32),false),(og i,true),(g4 i,false),(gU i,true),(dv i,false),(dA i,false),(dy i m,false)]
def qi:List (Bool×Bool):=[fV i 836,fV i 772,fV i 771,fV i 770,fV i 768,((pK i),true),(gU i,false),(dv i,false),(dA i,false),(dy i m,false)]
abbrev f6:=bP w b c A gh L 40 (ecsr9 n) (ecsr10 t)
include w b c A s gh n t L i ti tm tv m v p1
theorem Il:f6 w b c A gh n t L [dw i ti,kY w b c A s i ti,⟨cB "dict.__setitem__" [(rA A 4),(iY i ti),(.int (gf v) (.add t 5637))],15,36,[(4,d4 (PP w b c) A s)],rV .none,15,37,[qh w b c A s p1]⟩] [(xA t i,false),(np t i,false),(lq t i,false),(dv i,false),(dA i,false),(dy i m,false)] (dz A i ti tm tv m v) 7 (al w b c A s) (rV .none) 15 (lg w b c A s p1) 37:=ae (hm ([0]++pn++[14,2,12,15,15,15,1000,15,2,12,8,2003004,8,5,5,5,1003]))
theorem Ji:f6 w b c A gh n t L [dw i ti,kY w b c A s i ti,⟨cB "dict.__setitem__" [(rA A 4),(iY i ti),(.int (Builtin.bitAnd (gf v) 4294967292) (.add t 5652))],15,39,[(4,d4 (PP w b c) A s)],rV .none,15,40,[qh w b c A s p1]⟩] [(xA t i,true),(np t i,false),(lq t i,false),(dv i,false),(dA i,false),(dy i m,false)] (dz A i ti tm tv m v) 7 (al w b c A s) (rV .none) 15 (lg w b c A s p1) 40:=ae (hm ([0]++pn++[14,2,12,15,15,15,1000,15,1,12,0,8,2003004,8,5,5,5,1003]))
theorem IX:f6 w b c A gh n t L [dw i ti,kY w b c A s i ti,⟨cB "dict.__setitem__" [(rA A 4),(iY i ti),(.int (Builtin.bitAnd (gf v) 4294967293) (.add t 5649))],14,36,[(4,d4 (PP w b c) A s)],rV .none,14,37,[qh w b c A s p1]⟩] [(lq t i,true),(dv i,false),(dA i,false),(dy i m,false)] (dz A i ti tm tv m v) 7 (al w b c A s) (rV .none) 14 (lg w b c A s p1) 37:=ae (hm ([0]++gw++ii++[13,13,13,1000,13,1,0,12,7014000,0,8,2003004,8,5,5,5,1003]))
theorem IZ:f6 w b c A gh n t L [dw i ti,gR w b c A s i ti] (rt i m) (dz A i ti tm tv m v) 7 (al w b c A s) (rV .none) 12 (al w b c A ⟨(up s.z 770 (Builtin.bitAnd (gf v) 46079) (.add t 5648)),s.p,s.r,s.pc,s.md,s.sp,s.es,s.em⟩) 36:=ae (hm ([0]++gw++[8,2,8,1]++ii++[2,12,1,12,0,12,5003004]))
theorem Jq:f6 w b c A gh n t L [dw i ti,gR w b c A s i ti] (rq i m) (dz A i ti tm tv m v) 7 (al w b c A s) (rV .none) 12 (al w b c A ⟨(up s.z 771 (Builtin.bitAnd (gf v) 546) (.add t 5649)),s.p,s.r,s.pc,s.md,s.sp,s.es,s.em⟩) 37:=ae (hm ([0]++gw++[8,2,8,1]++ii++[2,12,2,12,1,12,0,12,5003004]))
theorem Ih:f6 w b c A gh n t L [dw i ti,gR w b c A s i ti] (sr i m) (dz A i ti tm tv m v) 7 (al w b c A s) (rV .none) 11 (al w b c A ⟨(up s.z 384 (Builtin.bitAnd (gf v) 2151677951) (.add t 5646)),s.p,s.r,s.pc,s.md,s.sp,s.es,s.em⟩) 34:=ae (hm ([0]++gw++[8,2,8,2,8,2,8,2,8,2,8,0,8,5003004]))
theorem I5:f6 w b c A gh n t L [dw i ti,kY w b c A s i ti,wY w b c A s t i ti v p1] [(np t i,true),(lq t i,false),(dv i,false),(dA i,false),(dy i m,false)] (dz A i ti tm tv m v) 7 (al w b c A s) (rV .none) 14 (lg w b c A s p1) 36:=ae (hm ([0]++pn++[14,1,12,0,8,2003004,8,5,5,5,1003]))
theorem Iv:f6 w b c A gh n t L [dw i ti,kY w b c A s i ti,wY w b c A s t i ti v p1] [(np t i,true),(lq t i,false),(dv i,false),(dA i,false),(dy i m,false)] (dz A i ti tm tv m v) 7 (al w b c A s) (rV .none) 14 (lg w b c A s p1) 36:=ae (hm ([0]++pn++[14,1,12,0,8,2003004,8,5,5,5,1003]))
theorem II:f6 w b c A gh n t L [dw i ti,gR w b c A s i ti] (sj s i m) (dz A i ti tm tv m v) 7 (al w b c A s) (rV .none) 12 (al w b c A ⟨(up s.z 2816 (Builtin.bitOr (be (ay (s.z 2816).1 32) 32) (gf v)) (.add t 5656)),s.p,s.r,s.pc,s.md,s.sp,s.es,s.em⟩) 48:=ae (hm ([0]++gw++[8,1]++ii++[1,12,2003004,9012002,0,2,12,9012001,12,5003004]))
theorem ID:f6 w b c A gh n t L [dw i ti,gR w b c A s i ti] (rL s i m) (dz A i ti tm tv m v) 7 (al w b c A s) (rV .none) 12 (al w b c A ⟨(up s.z 2818 (Builtin.bitOr (be (ay (s.z 2818).1 32) 32) (gf v)) (.add t 5656)),s.p,s.r,s.pc,s.md,s.sp,s.es,s.em⟩) 48:=ae (hm ([0]++gw++[8,1]++ii++[2,12,2003004,9012002,0,2,12,9012002,12,5003004]))
theorem DL:f6 w b c A gh n t L [dw i ti,gR w b c A s i ti] (pC i m v) (dz A i ti tm tv m v) 7 (al w b c A s) (rV .none) 12 (al w b c A ⟨(up s.z 2816 (Builtin.bitOr (be (gf v) 32) (Builtin.bitAnd (s.z 2816).1 4294967295)) (.add t 5655)),s.p,s.r,s.pc,s.md,s.sp,s.es,s.em⟩) 47:=ae (hm ([0]++gw++[8,1]++ii++[1,12,2003004,9012001,2,12,0,9012001,12,5003004]))
theorem CI:f6 w b c A gh n t L [dw i ti,gR w b c A s i ti] (pB i m v) (dz A i ti tm tv m v) 7 (al w b c A s) (rV .none) 12 (al w b c A ⟨(up s.z 2818 (Builtin.bitOr (be (gf v) 32) (Builtin.bitAnd (s.z 2818).1 4294967295)) (.add t 5655)),s.p,s.r,s.pc,s.md,s.sp,s.es,s.em⟩) 47:=ae (hm ([0]++gw++[8,1]++ii++[2,12,2003004,9012001,2,12,0,9012002,12,5003004]))
theorem EN:f6 w b c A gh n t L [dw i ti,gR w b c A s i ti] (qi i m) (dz A i ti tm tv m v) 7 (al w b c A s) (rV .none) 12 (al w b c A s) 36:=ae (hm ([0]++gw++[8,2,8,1]++ii++[2,12,2,12,2,12,2,12,2]))
end
theorem TriC.cast{M:Model}{S:HT}{B:Nat}{C:Ctx→Prop}{cd:Code}{n t n' t' n1 t1 n1' t1':Nat}{r r1:Result}{pre post gh gh' pre1 post1 gh1 gh1':List (Addr×Obj)}
  (H:TriC M S B C cd gh pre n t r gh' post n' t') (h1:pre=pre1) (h2:n=n1) (h3:t=t1) (h4:post=post1) (h5:n'=n1') (h6:t'=t1') (h7:gh=gh1) (h8:gh'=gh1') (h9:r=r1):
  TriC M S B C cd gh1 pre1 n1 t1 r1 gh1' post1 n1' t1':=by subst h1 h2 h3 h4 h5 h6 h7 h8 h9;exact H
theorem TriC.code{M:Model}{S:HT}{B:Nat}{C:Ctx→Prop}{cd cd':Code}{n t n' t':Nat}{r:Result}{pre post gh gh':List (Addr×Obj)}(e:cd'=cd)
  (H:TriC M S B C cd gh pre n t r gh' post n' t'):TriC M S B C cd' gh pre n t r gh' post n' t':=e▸H
theorem TriC.perm{M:Model}{S:HT}{B:Nat}{C:Ctx→Prop}{cd:Code}{n t n' t':Nat}{r:Result}{pre post pre1 post1 gh gh':List (Addr×Obj)}
  (H:TriC M S B C cd gh pre n t r gh' post n' t') (h1:pre.Perm pre1) (h2:post.Perm post1):TriC M S B C cd gh pre1 n t r gh' post1 n' t':=by
 have m1:=h1.map (·.1)
 have m2:=h2.map (·.1)
 intro nd lo big Γ P h gs d os hΓ hL hsz hs hp hgh
 obtain⟨h',a1,a2,a3,a4,a5,a6,a7,a8⟩:=H (m1.nodup_iff.mpr nd) (fun x hx=>lo x (h1.mem_iff.mp hx)) big Γ P h gs d os hΓ hL hsz hs (fun x hx=>hp x (h1.mem_iff.mp hx)) (fun y hy=>⟨(hgh y hy).1,fun z=>(hgh y hy).2 (m1.mem_iff.mp z)⟩)
 exact⟨h',a1,a2,a3,a4,m2.nodup_iff.mp a5,fun x hx=>⟨(a6 x (h2.mem_iff.mpr hx)).1.imp m1.mem_iff.mp id,(a6 x (h2.mem_iff.mpr hx)).2⟩,fun b hb hnb=>a7 b hb fun z=>hnb (m1.mem_iff.mp z),fun y hy=>⟨(a8 y hy).1,fun z=>(a8 y hy).2.1 (m2.mem_iff.mpr z),(a8 y hy).2.2⟩⟩
theorem TriC.gh{M:Model}{S:HT}{B:Nat}{C:Ctx→Prop}{cd:Code}{n t n' t':Nat}{r:Result}{pre post g g' gh gh':List (Addr×Obj)}(H:TriC M S B C cd g pre n t r g' post n' t')(h0:∀y∈g,y∈gh)(h1:∀y∈gh',y∈g'∨y∈gh):TriC M S B C cd gh pre n t r gh' post n' t':=by
 intro nd lo big Γ P h gs d os hΓ hL hsz hs hp hgh
 obtain⟨h',a1,a2,a3,a4,a5,a6,a7,a8⟩:=H nd lo big Γ P h gs d os hΓ hL hsz hs hp (fun y hy=>hgh y (h0 y hy))
 refine⟨h',a1,a2,a3,a4,a5,a6,a7,fun y hy=>(h1 y hy).elim (fun q=>?_) fun q=>?_⟩
 ·obtain⟨z1,z2,z3⟩:=a8 y q
  refine⟨z1,z2,z3.imp (fun z=>?_) id⟩
  obtain⟨x,hx,e⟩:=List.mem_map.mp z
  exact List.mem_map.mpr ⟨x,h0 x hx,e⟩
 ·obtain⟨x1,x2⟩:=hgh y q
  have lt:y.1<n:=hsz▸Heap.lt_size x1
  refine⟨a7 _ lt x2 _ x1,fun z=>?_,.inl (fU q)⟩
  obtain⟨x,hx,e⟩:=List.mem_map.mp z
  rcases(a6 x hx).1 with w|w
  ·exact x2 (e▸w)
  ·exact Nat.lt_irrefl _ (Nat.lt_of_lt_of_le lt (e▸w))
theorem nf(a b k:Nat):Nat.add (.add a b) k=Nat.add (.add a k) b:=Nat.add_right_comm a b k
section
variable{M:Model}{S:HT}{B:Nat}{C:Ctx→Prop}{cd:Code}{n t n' t' n1 t1 n1' t1':Nat}{r r1:Result}{pre post gh gh' pre1 post1:List (Addr×Obj)}(H:TriC M S B C cd gh pre n t r gh' post n' t')
include H
theorem kc(h1:pre=pre1:=by kernel_rfl)(h4:post=post1:=by kernel_rfl):TriC M S B C cd gh pre1 n t r gh' post1 n' t':=TriC.cast H h1 rfl rfl h4 rfl rfl rfl rfl rfl
theorem kd(h1:pre=pre1:=by kernel_rfl)(h2:n=n1:=by first|exact(nf _ _ _).symm|rfl)(h3:t=t1:=by first|exact(nf _ _ _).symm|rfl)(h4:post=post1:=by kernel_rfl)(h9:r=r1:=by kernel_rfl):TriC M S B C cd gh pre1 n1 t1 r1 gh' post1 n' t':=TriC.cast H h1 h2 h3 h4 rfl rfl rfl rfl h9
theorem kE(h1:pre=pre1:=by kernel_rfl)(h4:post=post1:=by kernel_rfl)(h5:n'=n1':=by first|exact nf _ _ _|rfl)(h6:t'=t1':=by first|exact nf _ _ _|rfl):TriC M S B C cd gh pre1 n t r gh' post1 n1' t1':=TriC.cast H h1 rfl rfl h4 h5 h6 rfl rfl rfl
theorem kF(h1:pre=pre1:=by kernel_rfl)(h4:post=post1:=by kernel_rfl)(h5:n'=n1':=by first|exact nf _ _ _|rfl)(h6:t'=t1':=by first|exact nf _ _ _|rfl)(h9:r=r1:=by kernel_rfl):TriC M S B C cd gh pre1 n t r1 gh' post1 n1' t1':=TriC.cast H h1 rfl rfl h4 h5 h6 rfl rfl h9
end
def ar(l:List Nat)(i:Nat):Nat:=l.getD i 0
theorem oW{α:Type}(l:List α):l=l++[]:=(List.append_nil l).symm
theorem lx{a b:Nat}(h:a≤b):∀Γ,Lim Γ b→Lim Γ a:=fun Γ H=>⟨H.1,by have:=H.2;omega⟩
abbrev bd(w:World)(b c:Bool)(A:AS)(s:BS):List (Addr×Obj):=fI (bG A) (al w b c A s)
abbrev TB(w:World)(b c:Bool)(A:AS)(L:Nat)(cd:Code)(gh X:List (Addr×Obj))(s:BS)(n t:Nat)(r:Result)(gh' Y:List (Addr×Obj))(s':BS)(n' t':Nat):Prop:=
 Tri (MM w b c) (bV (PP w b c)) 1994 L cd gh (bd w b c A s++X) (.add n 1994) (.add t 5615) r gh' (bd w b c A s'++Y) (.add n' 1994) (.add t' 5615)
abbrev TA(w:World)(b c:Bool)(A:AS)(L:Nat)(bl:List (Code×PySem.Pos))(cd:Code)(gh X:List (Addr×Obj))(s:BS)(n t:Nat)(r:Result)(gh' Y:List (Addr×Obj))(s':BS)(n' t':Nat):Prop:=
 TriAt (MM w b c) (bV (PP w b c)) 1994 L bl cd gh (bd w b c A s++X) (.add n 1994) (.add t 5615) r gh' (bd w b c A s'++Y) (.add n' 1994) (.add t' 5615)
theorem fk{M:Model}{g:Cfg}{C:Ctx→Prop}{k:Call}{l:List Call}(H:TriC M g.S g.B C k.cd (g.G k.c) (fI g.rho k.pre) (g.rho k.c) (g.tok k.tk) k.r (g.G k.c') (fI g.rho k.post) (g.rho k.c') (g.tok k.tk'))(T:∀x∈l,eu M g C x)(ok:k.okB=true:=by kernel_rfl):∀x∈k::l,eu M g C x:=ab ⟨ok,H⟩ T
def vz(s:BS):Nat→Int:=fun k=>(s.z k).1
def vp(s:BS):Nat→Int:=fun k=>(s.p k).1
def vr(s:BS):Nat→Int:=fun k=>(s.r k).1
def aW(v:Nat→Int)(i:Nat)(x:Int):Nat→Int:=fun j=>if j=i then x else v j
theorem aO(z:Nat→Int×Nat)(i:Nat)(x:Int)(t j:Nat):(up z i x t j).1=aW (fun j=>(z j).1) i x j:=by
 unfold up aW
 by_cases h:j=i
 ·subst h;rw[if_pos rfl,show Nat.beq j j=true from Nat.beq_refl j]
 ·rw[if_neg h]
  cases e:Nat.beq i j with
  |false=>rfl
  |true=>exact absurd (Nat.eq_of_beq_eq_true e).symm h
def bk:List Int→Int→Bool
 |[],_=>false
 |v::l,k=>AC k (.int v 0)||bk l k
theorem bN:2≤1994:=by decide
theorem ai{l:List (Bool×Bool)}(h:(l.all fun x=>x.1==x.2)=true:=by decide +kernel):∀x∈l,x.1=x.2:=fun x hx=>eq_of_beq (List.all_eq_true.mp h x hx)
section
variable{p:Program}{w:World}{S:HT}{B:Nat}{C:Ctx→Prop}{cd:Code}{gh pre:List (Addr×Obj)}{n t t':Nat}{f:Flow}
theorem qv(hC:∀Γ,C Γ→Γ.handled=none)(H:∀Γ P h gs d os,Γ.handled=none→(∀a o,S.getK (a+1)=some o→h.get? a=some o)→(∀x∈pre,h.get? x.1=some x.2)→Runs (model p w) Γ P ((model p w).den cd) [] ⟨h,gs,d,t,os⟩ (.ret (.ok f)) ⟨h,gs,d,t',os⟩):
  TriC (model p w) S B C cd gh pre n t (.ok f) gh pre n t':=by
 intro nd lo big Γ P h gs d os hΓ hL hn hs hp hgh
 exact⟨h,H Γ P h gs d os (hC Γ hL) hs hp,hn,Nat.le_refl _,rfl,nd,fun x hx=>⟨.inl (List.mem_map.mpr ⟨x,hx,rfl⟩),hp x hx⟩,fun _ _ _ o ho=>ho,fun x hx=>⟨(hgh x hx).1,(hgh x hx).2,.inl (List.mem_map.mpr ⟨x,hx,rfl⟩)⟩⟩
end
def Cs(P:Params):List DictEntry:=match (nW P).data with|.dict es _=>es.toList|_=>[]
def oB(P:Params)(i:Int):Bool:=(dp (Cs P) i).isSome
section
variable{w:World}{b c:Bool}{B:Nat}{C:Ctx→Prop}{gh:List (Addr×Obj)}{n t:Nat}(hC:∀Γ,C Γ→Γ.handled=none)
include hC
theorem aD{i:Int}{u:Nat}{v:Bool}(h:oB (PP w b c) i=v):TriC (MM w b c) (bV (PP w b c)) B C (.builtin "dict.__contains__" ⟨[.ref 1216,.int i u],[]⟩) gh [] n t (.ok (.ret (.bool v))) gh [] n (t+1):=by
 refine qv hC fun Γ P h' gs d os hh hs hp=>?_
 have ho:h'.get? 1216=some (nW (PP w b c)):=hs 1216 _ (by kernel_rfl)
 have e:=mv (prog:=prog2) (w:=W2 w b c) (Γ:=Γ) (p:=P) (d:=1216) (k:=i) (t:=u) (o:=nW (PP w b c)) (es:=⟨Cs (PP w b c)⟩) (ep:=36) (s:=⟨h',gs,d,t,os⟩) hh (by decide) ho (by kernel_rfl) (sx (by kernel_rfl))
 rw[mg]at e
 rw[←h];exact e
theorem bc{i:Int}{u:Nat}{v:Bool}(h:hP [.int 256 5101,.int 384 5102,.int 768 5103] i=v):TriC (MM w b c) (bV (PP w b c)) B C (.builtin "tuple.__contains__" ⟨[.ref 1710,.int i u],[]⟩) gh [] n t (.ok (.ret (.bool v))) gh [] n t:=by
 refine qv hC fun Γ P h' gs d os hh hs hp=>?_
 have ho:h'.get? 1710=some (yB (PP w b c)):=hs 1710 _ (by kernel_rfl)
 have e:=jW (prog:=prog2) (w:=W2 w b c) (Γ:=Γ) (p:=P) (d:=1710) (k:=i) (t:=u) (s:=⟨h',gs,d,t,os⟩) (l:=[.int 256 5101,.int 384 5102,.int 768 5103]) (n:=0) (dd:=none) (sl:=#[]) hh ho rfl
 rw[←h];exact e
end
inductive ReadOkX (w:World) (b c:Bool) (A:AS) (s:BS) (i:Nat) (m v:Int) (gh:List (Addr×Obj)) (n t ti tm:Nat):Prop where
 |mk (tv n' t':Nat) (h0_:TB w b c A 40 (.call (.ref 1428) ⟨[.ref (.add (A.a 2) 1994),.int (Int.ofNat i) ti,.int m tm],[]⟩) gh [] s n t (.ok (.ret (.int v tv))) gh [] s n' t'):ReadOkX w b c A s i m v gh n t ti tm
def bw(w:World)(b c:Bool)(A:AS)(s:BS)(i:Nat)(m v:Int):Prop:=∀(gh:List (Addr×Obj)) (n t ti tm:Nat),ReadOkX w b c A s i m v gh n t ti tm
inductive ReadMOkX (w:World) (b c:Bool) (A:AS) (s:BS) (i:Nat) (v:Int) (gh:List (Addr×Obj)) (n t ti:Nat):Prop where
 |mk (tv n' t':Nat) (h0_:TB w b c A 40 (.call (.ref 1428) ⟨[.ref (.add (A.a 2) 1994),.int (Int.ofNat i) ti],[]⟩) gh [] s n t (.ok (.ret (.int v tv))) gh [] s n' t'):ReadMOkX w b c A s i v gh n t ti
def dJ(w:World)(b c:Bool)(A:AS)(s:BS)(i:Nat)(v:Int):Prop:=∀(gh:List (Addr×Obj)) (n t ti:Nat),ReadMOkX w b c A s i v gh n t ti
inductive WriteOkX (w:World) (b c:Bool) (A:AS) (s:BS) (i:Nat) (m v:Int) (fz fp:Nat→Int) (gh:List (Addr×Obj)) (n t ti tv tm:Nat):Prop where
 |mk (z1 p1:Nat→Int×Nat) (n' t':Nat) (h0_:(∀k,(z1 k).1=fz k)) (h1_:(∀k,(p1 k).1=fp k)) (h2_:TB w b c A 40 (.call (.ref 1450) ⟨[.ref (.add (A.a 2) 1994),.int (Int.ofNat i) ti,.int v tv,.int m tm],[]⟩) gh [] s n t (.ok (.ret .none)) gh [] ⟨z1,p1,s.r,s.pc,s.md,s.sp,s.es,s.em⟩ n' t'):WriteOkX w b c A s i m v fz fp gh n t ti tv tm
def bz(w:World)(b c:Bool)(A:AS)(s:BS)(i:Nat)(m v:Int)(fz fp:Nat→Int):Prop:=∀(gh:List (Addr×Obj)) (n t ti tv tm:Nat),WriteOkX w b c A s i m v fz fp gh n t ti tv tm
section
variable(w:World)(b c:Bool)(A:AS)(s:BS)
include w b c A s
section
variable(i:Nat)
include i
section
variable(m:Int)
include m
theorem Ap(hp:i∈plainL)(he:He (uD i m)):bw w b c A s i m ((s.p i).1):=fun gh n t ti tm=>
 ⟨(s.p i).2,n+2,t+12,kE (read_0 w b c A s gh n t 0 i ti tm m 0 0 (fk (fW Lim.h bN hp)<|fk (cC Lim.h hp)<|aa) he)⟩
section
variable(hp:i∉plainL)(hn:oB (PP w b c) (Int.ofNat i)=true)
include hp hn
theorem AU(he:He (ui i m)):bw w b c A s i m ((s.z 770).1):=fun gh n t ti tm=>
 ⟨(s.z 770).2,n+4,t+25,kE (read_1 w b c A s gh n t 0 i ti tm m 0 0 (fk (ax Lim.h bN hp)<|fk (aD Lim.h hn)<|aa) he)⟩
theorem BO(he:He (vX i m)):bw w b c A s i m ((s.z 771).1):=fun gh n t ti tm=>
 ⟨(s.z 771).2,n+4,t+26,kE (read_2 w b c A s gh n t 0 i ti tm m 0 0 (fk (ax Lim.h bN hp)<|fk (aD Lim.h hn)<|aa) he)⟩
theorem BU(he:He (uu i m)):bw w b c A s i m ((s.z 384).1):=fun gh n t ti tm=>
 ⟨(s.z 384).2,n+3,t+23,kE (read_3 w b c A s gh n t 0 i ti tm m 0 0 (fk (ax Lim.h bN hp)<|fk (aD Lim.h hn)<|aa) he)⟩
section
variable(j:Nat)(xw:Int)(tw:Nat)(hj:Builtin.bitAnd (Int.ofNat i) 3=(j:Int))(hx:[zv s 2816,zv s 2816,zv s 2818][j]?=some (.int xw tw))(hk:j≤1000000)
include j xw tw hj hx hk
theorem rP(he:He (vk i m)):bw w b c A s i m ((Builtin.bitAnd xw 4294967295)):=fun gh n t ti tm=>
 ⟨(.add t 5646),n+6,t+32,kE (read_4 w b c A s gh n t 0 i ti tm m xw tw (fk (ax Lim.h bN hp)<|fk (aD Lim.h hn)<|fk (TriC.code (congrArg (fun x=>Code.builtin "list.__getitem__" ⟨[.ref _,.int x _],[]⟩) hj) (bb Lim.h (k:=j) hx hk))<|aa) he)⟩
theorem sv(he:He (uE i m)):bw w b c A s i m ((Builtin.bitAnd (ay xw 32) 4294967295)):=fun gh n t ti tm=>
 ⟨(.add t 5648),n+6,t+34,kE (read_5 w b c A s gh n t 0 i ti tm m xw tw (fk (ax Lim.h bN hp)<|fk (aD Lim.h hn)<|fk (TriC.code (congrArg (fun x=>Code.builtin "list.__getitem__" ⟨[.ref _,.int x _],[]⟩) hj) (bb Lim.h (k:=j) hx hk))<|aa) he)⟩
theorem mS(he:He (uI i m)):bw w b c A s i m ((Builtin.bitAnd xw 4294967295)):=fun gh n t ti tm=>
 ⟨(.add t 5646),n+6,t+32,kE (read_6 w b c A s gh n t 0 i ti tm m xw tw (fk (ax Lim.h bN hp)<|fk (aD Lim.h hn)<|fk (TriC.code (congrArg (fun x=>Code.builtin "list.__getitem__" ⟨[.ref _,.int x _],[]⟩) hj) (bb Lim.h (k:=j) hx hk))<|aa) he)⟩
theorem mL(he:He (tW s i m)):bw w b c A s i m ((Builtin.bitAnd xw 4294967295)):=fun gh n t ti tm=>
 ⟨(.add t 5656),n+6,t+42,kE (read_7 w b c A s gh n t 0 i ti tm m xw tw (fk (ax Lim.h bN hp)<|fk (aD Lim.h hn)<|fk (cC Lim.h (i:=774) (by decide))<|fk (TriC.code (congrArg (fun x=>Code.builtin "list.__getitem__" ⟨[.ref _,.int x _],[]⟩) hj) (bb Lim.h (k:=j) hx hk))<|aa) he)⟩
theorem mR(he:He (u9 s i m)):bw w b c A s i m ((Builtin.bitAnd xw 4294967295)):=fun gh n t ti tm=>
 ⟨(.add t 5660),n+6,t+46,kE (read_8 w b c A s gh n t 0 i ti tm m xw tw (fk (ax Lim.h bN hp)<|fk (aD Lim.h hn)<|fk (cC Lim.h (i:=774) (by decide))<|fk (cC Lim.h (i:=262) (by decide))<|fk (TriC.code (congrArg (fun x=>Code.builtin "list.__getitem__" ⟨[.ref _,.int x _],[]⟩) hj) (bb Lim.h (k:=j) hx hk))<|aa) he)⟩
theorem mK(he:He (uq i m)):bw w b c A s i m ((Builtin.bitAnd (ay xw 32) 4294967295)):=fun gh n t ti tm=>
 ⟨(.add t 5648),n+6,t+34,kE (read_9 w b c A s gh n t 0 i ti tm m xw tw (fk (ax Lim.h bN hp)<|fk (aD Lim.h hn)<|fk (TriC.code (congrArg (fun x=>Code.builtin "list.__getitem__" ⟨[.ref _,.int x _],[]⟩) hj) (bb Lim.h (k:=j) hx hk))<|aa) he)⟩
theorem lZ(he:He (ru s i m)):bw w b c A s i m ((Builtin.bitAnd (ay xw 32) 4294967295)):=fun gh n t ti tm=>
 ⟨(.add t 5658),n+6,t+44,kE (IR w b c A s gh n t 0 i ti tm m xw tw (fk (ax Lim.h bN hp)<|fk (aD Lim.h hn)<|fk (cC Lim.h (i:=774) (by decide))<|fk (TriC.code (congrArg (fun x=>Code.builtin "list.__getitem__" ⟨[.ref _,.int x _],[]⟩) hj) (bb Lim.h (k:=j) hx hk))<|aa) he)⟩
theorem l9(he:He (sB s i m)):bw w b c A s i m ((Builtin.bitAnd (ay xw 32) 4294967295)):=fun gh n t ti tm=>
 ⟨(.add t 5662),n+6,t+48,kE (IG w b c A s gh n t 0 i ti tm m xw tw (fk (ax Lim.h bN hp)<|fk (aD Lim.h hn)<|fk (cC Lim.h (i:=774) (by decide))<|fk (cC Lim.h (i:=262) (by decide))<|fk (TriC.code (congrArg (fun x=>Code.builtin "list.__getitem__" ⟨[.ref _,.int x _],[]⟩) hj) (bb Lim.h (k:=j) hx hk))<|aa) he)⟩
end
theorem zV(he:He (rj i m)):bw w b c A s i m (1075056896):=fun gh n t ti tm=>
 ⟨4563,n+4,t+23,kE (IC w b c A s gh n t 0 i ti tm m 0 0 (fk (ax Lim.h bN hp)<|fk (aD Lim.h hn)<|aa) he)⟩
theorem zf(he:He (sw i m)):bw w b c A s i m (0):=fun gh n t ti tm=>
 ⟨(.add t 5637),n+4,t+23,kE (Jm w b c A s gh n t 0 i ti tm m 0 0 (fk (ax Lim.h bN hp)<|fk (aD Lim.h hn)<|aa) he)⟩
theorem zg(he:He (rx i m)):bw w b c A s i m ((s.z 3860).1):=fun gh n t ti tm=>
 ⟨(s.z 3860).2,n+4,t+23,kE (I3 w b c A s gh n t 0 i ti tm m 0 0 (fk (ax Lim.h bN hp)<|fk (aD Lim.h hn)<|aa) he)⟩
end
section
variable(v:Int)
include v
section
variable(hp:i∈plainL)(hn:oB (PP w b c) (Int.ofNat i)=true)
include hp hn
theorem xN(he:He [((bk [321,833] (Int.ofNat i)),false),((bk [262,774] (Int.ofNat i)),false),((bk [261,773] (Int.ofNat i)),false),((BEq.beq (Builtin.bitAnd (ay (Int.ofNat i) 10) 3) 3),false),((BEq.beq (ay (Int.ofNat i) 8) 12),false),((decide (LT.lt m (Builtin.bitAnd (ay (Int.ofNat i) 8) 3))),false)]):bz w b c A s i m v (vz s) (aW (vp s) i (Builtin.bitAnd v 4294967295)):=fun gh n t ti tv tm=>
 ⟨s.z,(up s.p i (Builtin.bitAnd v 4294967295) (.add t 5637)),n+8,t+37,fun _=>rfl,fun k=>aO _ _ _ _ k,kE (Il w b c A s gh n t 0 i ti tm tv m v (up s.p i (Builtin.bitAnd v 4294967295) (.add t 5637)) (fk (aD Lim.h hn)<|fk (fW Lim.h bN hp)<|fk (jI Lim.h hp)<|aa) he)⟩
theorem yV(he:He [((bk [321,833] (Int.ofNat i)),true),((bk [262,774] (Int.ofNat i)),false),((bk [261,773] (Int.ofNat i)),false),((BEq.beq (Builtin.bitAnd (ay (Int.ofNat i) 10) 3) 3),false),((BEq.beq (ay (Int.ofNat i) 8) 12),false),((decide (LT.lt m (Builtin.bitAnd (ay (Int.ofNat i) 8) 3))),false)]):bz w b c A s i m v (vz s) (aW (vp s) i (Builtin.bitAnd (Builtin.bitAnd v 4294967295) 4294967292)):=fun gh n t ti tv tm=>
 ⟨s.z,(up s.p i (Builtin.bitAnd (Builtin.bitAnd v 4294967295) 4294967292) (.add t 5652)),n+8,t+40,fun _=>rfl,fun k=>aO _ _ _ _ k,kE (Ji w b c A s gh n t 0 i ti tm tv m v (up s.p i (Builtin.bitAnd (Builtin.bitAnd v 4294967295) 4294967292) (.add t 5652)) (fk (aD Lim.h hn)<|fk (fW Lim.h bN hp)<|fk (jI Lim.h hp)<|aa) he)⟩
theorem zy(he:He [((bk [261,773] (Int.ofNat i)),true),((BEq.beq (Builtin.bitAnd (ay (Int.ofNat i) 10) 3) 3),false),((BEq.beq (ay (Int.ofNat i) 8) 12),false),((decide (LT.lt m (Builtin.bitAnd (ay (Int.ofNat i) 8) 3))),false)]):bz w b c A s i m v (vz s) (aW (vp s) i (Builtin.bitAnd (Builtin.bitAnd v 4294967295) 4294967293)):=fun gh n t ti tv tm=>
 ⟨s.z,(up s.p i (Builtin.bitAnd (Builtin.bitAnd v 4294967295) 4294967293) (.add t 5649)),n+7,t+37,fun _=>rfl,fun k=>aO _ _ _ _ k,kE (IX w b c A s gh n t 0 i ti tm tv m v (up s.p i (Builtin.bitAnd (Builtin.bitAnd v 4294967295) 4294967293) (.add t 5649)) (fk (aD Lim.h hn)<|fk (fW Lim.h bN hp)<|fk (jI Lim.h hp)<|aa) he)⟩
section
variable(he:He [((bk [262,774] (Int.ofNat i)),true),((bk [261,773] (Int.ofNat i)),false),((BEq.beq (Builtin.bitAnd (ay (Int.ofNat i) 10) 3) 3),false),((BEq.beq (ay (Int.ofNat i) 8) 12),false),((decide (LT.lt m (Builtin.bitAnd (ay (Int.ofNat i) 8) 3))),false)])
include he
theorem zb:bz w b c A s i m v (vz s) (aW (vp s) i (Builtin.bitAnd (Builtin.bitAnd v 4294967295) 7)):=fun gh n t ti tv tm=>
 ⟨s.z,(up s.p i (Builtin.bitAnd (Builtin.bitAnd v 4294967295) 7) (.add t 5648)),n+7,t+36,fun _=>rfl,fun k=>aO _ _ _ _ k,kE (I5 w b c A s gh n t 0 i ti tm tv m v (up s.p i (Builtin.bitAnd (Builtin.bitAnd v 4294967295) 7) (.add t 5648)) (fk (aD Lim.h hn)<|fk (fW Lim.h bN hp)<|fk (jI Lim.h hp)<|aa) he)⟩
theorem write_7_ok:bz w b c A s i m v (vz s) (aW (vp s) i (Builtin.bitAnd (Builtin.bitAnd v 4294967295) 7)):=fun gh n t ti tv tm=>
 ⟨s.z,(up s.p i (Builtin.bitAnd (Builtin.bitAnd v 4294967295) 7) (.add t 5648)),n+7,t+36,fun _=>rfl,fun k=>aO _ _ _ _ k,kE (Iv w b c A s gh n t 0 i ti tm tv m v (up s.p i (Builtin.bitAnd (Builtin.bitAnd v 4294967295) 7) (.add t 5648)) (fk (aD Lim.h hn)<|fk (fW Lim.h bN hp)<|fk (jI Lim.h hp)<|aa) he)⟩
end
end
section
variable(hp:i∉plainL)(hn:oB (PP w b c) (Int.ofNat i)=true)
include hp hn
theorem Ai(he:He (rt i m)):bz w b c A s i m v (aW (vz s) 770 (Builtin.bitAnd (Builtin.bitAnd v 4294967295) 46079)) (vp s):=fun gh n t ti tv tm=>
 ⟨(up s.z 770 (Builtin.bitAnd (Builtin.bitAnd v 4294967295) 46079) (.add t 5648)),s.p,n+5,t+36,fun k=>aO _ _ _ _ k,fun _=>rfl,kE (IZ w b c A s gh n t 0 i ti tm tv m v s.p (fk (aD Lim.h hn)<|fk (ax Lim.h bN hp)<|aa) he)⟩
theorem zd(he:He (rq i m)):bz w b c A s i m v (aW (vz s) 771 (Builtin.bitAnd (Builtin.bitAnd v 4294967295) 546)) (vp s):=fun gh n t ti tv tm=>
 ⟨(up s.z 771 (Builtin.bitAnd (Builtin.bitAnd v 4294967295) 546) (.add t 5649)),s.p,n+5,t+37,fun k=>aO _ _ _ _ k,fun _=>rfl,kE (Jq w b c A s gh n t 0 i ti tm tv m v s.p (fk (aD Lim.h hn)<|fk (ax Lim.h bN hp)<|aa) he)⟩
theorem yq(he:He (sr i m)):bz w b c A s i m v (aW (vz s) 384 (Builtin.bitAnd (Builtin.bitAnd v 4294967295) 2151677951)) (vp s):=fun gh n t ti tv tm=>
 ⟨(up s.z 384 (Builtin.bitAnd (Builtin.bitAnd v 4294967295) 2151677951) (.add t 5646)),s.p,n+4,t+34,fun k=>aO _ _ _ _ k,fun _=>rfl,kE (Ih w b c A s gh n t 0 i ti tm tv m v s.p (fk (aD Lim.h hn)<|fk (ax Lim.h bN hp)<|aa) he)⟩
theorem Af(he:He (sj s i m)):bz w b c A s i m v (aW (vz s) 2816 (Builtin.bitOr (be (ay (s.z 2816).1 32) 32) (Builtin.bitAnd v 4294967295))) (vp s):=fun gh n t ti tv tm=>
 ⟨(up s.z 2816 (Builtin.bitOr (be (ay (s.z 2816).1 32) 32) (Builtin.bitAnd v 4294967295)) (.add t 5656)),s.p,n+5,t+48,fun k=>aO _ _ _ _ k,fun _=>rfl,kE (II w b c A s gh n t 0 i ti tm tv m v s.p (fk (aD Lim.h hn)<|fk (ax Lim.h bN hp)<|aa) he)⟩
theorem zO(he:He (rL s i m)):bz w b c A s i m v (aW (vz s) 2818 (Builtin.bitOr (be (ay (s.z 2818).1 32) 32) (Builtin.bitAnd v 4294967295))) (vp s):=fun gh n t ti tv tm=>
 ⟨(up s.z 2818 (Builtin.bitOr (be (ay (s.z 2818).1 32) 32) (Builtin.bitAnd v 4294967295)) (.add t 5656)),s.p,n+5,t+48,fun k=>aO _ _ _ _ k,fun _=>rfl,kE (ID w b c A s gh n t 0 i ti tm tv m v s.p (fk (aD Lim.h hn)<|fk (ax Lim.h bN hp)<|aa) he)⟩
theorem wG(he:He (pC i m v)):bz w b c A s i m v (aW (vz s) 2816 (Builtin.bitOr (be (Builtin.bitAnd v 4294967295) 32) (Builtin.bitAnd (s.z 2816).1 4294967295))) (vp s):=fun gh n t ti tv tm=>
 ⟨(up s.z 2816 (Builtin.bitOr (be (Builtin.bitAnd v 4294967295) 32) (Builtin.bitAnd (s.z 2816).1 4294967295)) (.add t 5655)),s.p,n+5,t+47,fun k=>aO _ _ _ _ k,fun _=>rfl,kE (DL w b c A s gh n t 0 i ti tm tv m v s.p (fk (aD Lim.h hn)<|fk (ax Lim.h bN hp)<|aa) he)⟩
theorem wn(he:He (pB i m v)):bz w b c A s i m v (aW (vz s) 2818 (Builtin.bitOr (be (Builtin.bitAnd v 4294967295) 32) (Builtin.bitAnd (s.z 2818).1 4294967295))) (vp s):=fun gh n t ti tv tm=>
 ⟨(up s.z 2818 (Builtin.bitOr (be (Builtin.bitAnd v 4294967295) 32) (Builtin.bitAnd (s.z 2818).1 4294967295)) (.add t 5655)),s.p,n+5,t+47,fun k=>aO _ _ _ _ k,fun _=>rfl,kE (CI w b c A s gh n t 0 i ti tm tv m v s.p (fk (aD Lim.h hn)<|fk (ax Lim.h bN hp)<|aa) he)⟩
theorem wl(he:He (qi i m)):bz w b c A s i m v (vz s) (vp s):=fun gh n t ti tv tm=>
 ⟨s.z,s.p,n+5,t+36,fun _=>rfl,fun _=>rfl,kE (EN w b c A s gh n t 0 i ti tm tv m v s.p (fk (aD Lim.h hn)<|fk (ax Lim.h bN hp)<|aa) he)⟩
end
end
end
theorem cJ(hp:i∈plainL)(he:He (rz i)):dJ w b c A s i ((s.p i).1):=fun gh n t ti=>
 ⟨(s.p i).2,n+2,t+12,kE (Js w b c A s gh n t 0 i ti 0 0 (fk (fW Lim.h bN hp)<|fk (cC Lim.h hp)<|aa) he)⟩
section
variable(hp:i∉plainL)(hn:oB (PP w b c) (Int.ofNat i)=true)
include hp hn
theorem yc(he:He (sy i)):dJ w b c A s i ((s.z 770).1):=fun gh n t ti=>
 ⟨(s.z 770).2,n+4,t+25,kE (I9 w b c A s gh n t 0 i ti 0 0 (fk (ax Lim.h bN hp)<|fk (aD Lim.h hn)<|aa) he)⟩
theorem Ak(he:He (sk i)):dJ w b c A s i ((s.z 771).1):=fun gh n t ti=>
 ⟨(s.z 771).2,n+4,t+26,kE (Im w b c A s gh n t 0 i ti 0 0 (fk (ax Lim.h bN hp)<|fk (aD Lim.h hn)<|aa) he)⟩
theorem yQ(he:He (rv i)):dJ w b c A s i ((s.z 384).1):=fun gh n t ti=>
 ⟨(s.z 384).2,n+3,t+23,kE (Iy w b c A s gh n t 0 i ti 0 0 (fk (ax Lim.h bN hp)<|fk (aD Lim.h hn)<|aa) he)⟩
section
variable(j:Nat)(xw:Int)(tw:Nat)(hj:Builtin.bitAnd (Int.ofNat i) 3=(j:Int))(hx:[zv s 2816,zv s 2816,zv s 2818][j]?=some (.int xw tw))(hk:j≤1000000)
include j xw tw hj hx hk
theorem qq(he:He (ry i)):dJ w b c A s i ((Builtin.bitAnd xw 4294967295)):=fun gh n t ti=>
 ⟨(.add t 5646),n+6,t+32,kE (H8 w b c A s gh n t 0 i ti xw tw (fk (ax Lim.h bN hp)<|fk (aD Lim.h hn)<|fk (TriC.code (congrArg (fun x=>Code.builtin "list.__getitem__" ⟨[.ref _,.int x _],[]⟩) hj) (bb Lim.h (k:=j) hx hk))<|aa) he)⟩
theorem qg(he:He (rT i)):dJ w b c A s i ((Builtin.bitAnd (ay xw 32) 4294967295)):=fun gh n t ti=>
 ⟨(.add t 5648),n+6,t+34,kE (IJ w b c A s gh n t 0 i ti xw tw (fk (ax Lim.h bN hp)<|fk (aD Lim.h hn)<|fk (TriC.code (congrArg (fun x=>Code.builtin "list.__getitem__" ⟨[.ref _,.int x _],[]⟩) hj) (bb Lim.h (k:=j) hx hk))<|aa) he)⟩
theorem lK(he:He (rn i)):dJ w b c A s i ((Builtin.bitAnd xw 4294967295)):=fun gh n t ti=>
 ⟨(.add t 5646),n+6,t+32,kE (Id w b c A s gh n t 0 i ti xw tw (fk (ax Lim.h bN hp)<|fk (aD Lim.h hn)<|fk (TriC.code (congrArg (fun x=>Code.builtin "list.__getitem__" ⟨[.ref _,.int x _],[]⟩) hj) (bb Lim.h (k:=j) hx hk))<|aa) he)⟩
theorem lJ(he:He (rK i)):dJ w b c A s i ((Builtin.bitAnd (ay xw 32) 4294967295)):=fun gh n t ti=>
 ⟨(.add t 5648),n+6,t+34,kE (Jg w b c A s gh n t 0 i ti xw tw (fk (ax Lim.h bN hp)<|fk (aD Lim.h hn)<|fk (TriC.code (congrArg (fun x=>Code.builtin "list.__getitem__" ⟨[.ref _,.int x _],[]⟩) hj) (bb Lim.h (k:=j) hx hk))<|aa) he)⟩
end
theorem y5(he:He (r0 i)):dJ w b c A s i (1075056896):=fun gh n t ti=>
 ⟨4563,n+4,t+23,kE (Ip w b c A s gh n t 0 i ti 0 0 (fk (ax Lim.h bN hp)<|fk (aD Lim.h hn)<|aa) he)⟩
theorem zc(he:He (rQ i)):dJ w b c A s i (0):=fun gh n t ti=>
 ⟨(.add t 5637),n+4,t+23,kE (Jn w b c A s gh n t 0 i ti 0 0 (fk (ax Lim.h bN hp)<|fk (aD Lim.h hn)<|aa) he)⟩
theorem ww(he:He (pu i)):dJ w b c A s i ((s.z 3860).1):=fun gh n t ti=>
 ⟨(s.z 3860).2,n+4,t+23,kE (DB w b c A s gh n t 0 i ti 0 0 (fk (ax Lim.h bN hp)<|fk (aD Lim.h hn)<|aa) he)⟩
end
end
end
noncomputable def hrr_0:List Nat:=[1034000,17,0,17,1007000,1006018,2000018,18,18,0,0,0,0,1004019,0,0,0,19,19,17,0,17,0,17,17,17,19,19,17,0,0,9000017,17,0,17,0,0,9000017,17,21,21,21,18,18,17,0,0,9000017,17,0,17,0,0,9000017,21,21,21,18,18,17,0,0,9000017,17,0,17,0,0,9000017,21,21,21,17,17,0,17,17,0,17,17]
noncomputable def tB:List Nat:=[13,6003004,13,13,0,0,0,1006014,0,14,0,14,7015000,0,2,14,0,0,0,0]
noncomputable def km:List Nat:=[12,17,17,17,22,22,17,22,22,22,13,17,17,17,23,23]
noncomputable def lE:List Nat:=hrr_0++[14,14,13,13,8,8,9,9,10,10,11,11]
noncomputable def hrr_4:List Nat:=[1006013,0,13,13,2003004,5,5,5,1001,13,0,13,7014000,0,2,13,6003004,13,13,0,0,0,1006015,0,15,0,15,7016000,0,1,1034000,18,0,18,1007000,1006019,2000019,19,19,0,0,0,0,1004020,0,0,0,20,20,18,0,18,0,18,18,18,20,20,18,0,0,9000018,18,0,18,0,0,9000018,18,22,22,22,19,19,18,0,0,9000018,18,0,18,0,0,9000018,22,22,22,19,19,18,0,0,9000018,18,0,18,0,0,9000018,22,22,22,18,18,0,18,18,0,18,18]
noncomputable def zh:List Nat:=[0,0,1006013,0,13,13,2003004,5,5,5,1001]++tB++[1002]
noncomputable def Gw:List Nat:=[13,6003004,13,13,0,0,0,1006014,0,14,0,14,7015000,0,1]++lE
noncomputable def hrr_7:List Nat:=[0,0,0,1008013,0]++tB++[1001,14,0,1,14,0,1,14,0,2,14,2003004,5,5,5,5,1002,14,2003004,5,5,5,5,1003,1004014,2,1]++lE
noncomputable def hrr_8:List Nat:=[0,0,1008013,0]++tB++[1001,14,0,1,14,0,1,14,0,1,14,2003004,5,5,5,5,1002,1004014,2,1]++lE
section
variable(w:World)(b c:Bool)(A:AS)(s:BS)(gh:List (Addr×Obj))(n t L:Nat)(i ti tm tv it c1 c2 c3:Nat)(m v:Int)(fe:Nat→Array DictEntry)(fm:Nat→Nat)(q:Nat→PySem.Pos)(y:Bool)
def Ad:Bool:=(iI (Builtin.bitAnd (Int.ofNat i) 3))
def uJ:Bool:=(BEq.beq (ay (Int.ofNat i) 8) 12)
def kl:Bool:=(decide (LT.lt m (Builtin.bitAnd (ay (Int.ofNat i) 8) 3)))
def err0:List (Bool×Bool):=[((BEq.beq (Builtin.bitAnd (ay (s.p 774).1 (Builtin.bitAnd (Int.ofNat i) 3)) 1) 0),true),(Ad i,false),((BEq.beq m 1),true),((decide (LT.lt m 3)),true),(uJ i,true),(kl i m,false)]
def mc(Y0:Nat):Result:=.error (.ref (.add n Y0))
def err2:List (Nat×Nat):=[(12,Nat.add n 1994)]
def err3:List (Nat×Nat):=[(0,Nat.add t 5615)]
def jf:List (Code×PySem.Pos):=(stC it (.add (A.a 7) 1994) (.add (A.a 8) 1994) (.add (A.a 9) 1994) (.add (A.a 10) 1994) (.add (A.a 11) 1994) c1 c2 c3 q)
def pG:Code:=(cR 1428 [.ref (.add (A.a 2) 1994),.int (Int.ofNat i) ti,.int m tm])
def jc:List (Nat×Obj):=(al w b c A s++[(7,bC (fe 0) (fm 0) #[]),(8,bC (fe 1) (fm 1) #[]),(9,bC (fe 2) (fm 2) #[]),(10,bC (fe 3) (fm 3) #[]),(11,bC (fe 4) (fm 4) (cond y (dD c1 c2 c3) #[]))])
def ja(PL:Nat→Value)(x0 x1 x2 x3 x4 x5 x6 x7 x8 x9 x10:Nat):List (Nat×Obj):=(al w b c A s++[(7,bC (fe 0) (fm 0) (cI 1897 1898 (rA A 8))),(8,bC (fe 1) (fm 1) (cI 1890 1891 (rA A 9))),(9,bC (fe 2) (fm 2) (cI 1876 1877 (rA A 10))),(10,bC (fe 3) (fm 3) (cI 1987 1988 (rA A 11))),(11,bC (fe 4) (fm 4) (dD c1 c2 c3)),(x0,⟨(.ref 91),(some (.add n x1)),(.fields ⟨[(.ref (.add n x2)),(.ref (.add n x3)),.none,.none,(.bool false),.none]⟩),#[]⟩),(x4,dO [ag w b c F0 (.add t x5) (.str KJ26 (.add t x6)),ag w b c yj (.add t x7) (.int 2 281),ag w b c oV (.add t x8) (.int 0 305)] 3),(x9,iN (.ref (.add n x10)) (.add n 1994) .none PL)])
def tD:Call:=cS (cB "dict.__contains__" [(rA A 4),(.int (Int.ofNat i) ti)]) 13 4 [(4,d4 (PP w b c) A s)] (rV (.bool false)) 13 5
def F5(x0 x1:Nat):Call:=cS (cB "dict.__contains__" [(.ref 1216),(.int (Int.ofNat i) ti)]) 15 x0 [] (rV (.bool false)) 15 x1
def ts(x0 x1:Nat):Call:=cS (cB "dict.__contains__" [(.ref 1216),(.int (Int.ofNat i) ti)]) 15 x0 [] (rV (.bool true)) 15 x1
def tJ(x0 x1 x2:Nat):Call:=cS (cB "dict.__getitem__" [(rA A 4),(.int 774 (.add t x0))]) 15 x1 [(4,d4 (PP w b c) A s)] (rV (pv s 774)) 15 x2
def B9:Bool:=(BEq.beq (Builtin.bitAnd (ay (Builtin.bitAnd (s.p 774).1 (s.p 262).1) (Builtin.bitAnd (Int.ofNat i) 3)) 1) 0)
def pI:Code:=(cR 1450 [.ref (.add (A.a 2) 1994),.int (Int.ofNat i) ti,.int v tv,.int m tm])
abbrev mC:=zZ w b c A gh L 40 (err2 n) (err3 t)
def rY:List (Bool×Bool):=[(kl i m,true),((decide (GE.ge m (Builtin.bitAnd (ay (Int.ofNat i) 8) 3))),false)]
def sn:List (Bool×Bool):=[(B9 s i,true),(Ad i,false),((BEq.beq m 1),false),((decide (LT.lt m 3)),true),(uJ i,true),(kl i m,false)]
def pN:List (Bool×Bool):=[(B9 s i,true),(Ad i,false),((BEq.beq m 1),false),((decide (LT.lt m 3)),true),(uJ i,true),(kl i m,false)]
include w b c A s gh n t L i ti tm tv it c1 c2 c3 m v fe fm q y
theorem Ja:mC w b c A gh n t L [cS (cB "dict.__contains__" [(rA A 4),(.int (Int.ofNat i) ti)]) 13 4 [(4,d4 (PP w b c) A s)] (rV (.bool true)) 13 5] (rY i m) (jf A it c1 c2 c3 q) (pG A i ti tm m) 12 (jc w b c A s c1 c2 c3 fe fm y) (mc n 1999) 24 (fun PL=>ja w b c A s n t c1 c2 c3 fe fm PL 17 2003 2002 2005 21 5650 5645 5652 5654 23 2004) 40:=eQ (hm ([0,0,0]++hrr_4++[15,15,13,13,8,8,9,9,10,10,11,11]++cond y [] [12]++[12,18,18,18,23,23,18,23,23,23,13,18,18,18,24,24])) 23 (hq:=by intro p;cases y<;>kernel_rfl)
theorem IN:mC w b c A gh n t L [tD w b c A s i ti] [(kl i m,true)] (jf A it c1 c2 c3 q) (pG A i ti tm m) 12 (jc w b c A s c1 c2 c3 fe fm y) (mc n 1998) 23 (fun PL=>ja w b c A s n t c1 c2 c3 fe fm PL 16 2002 2001 2004 20 5645 5640 5647 5649 22 2003) 35:=eQ (hm ([0,0,0,1006013,0,13,13,2003004,5,5,5,1001]++Gw++cond y [] [12]++km)) 22 (hq:=by intro p;cases y<;>kernel_rfl)
theorem IH:mC w b c A gh n t L [tD w b c A s i ti,F5 i ti 13 14] [(kl i m,false)] (jf A it c1 c2 c3 q) (pG A i ti tm m) 12 (jc w b c A s c1 c2 c3 fe fm y) (mc n 1998) 23 (fun PL=>ja w b c A s n t c1 c2 c3 fe fm PL 16 2002 2001 2004 20 5646 5641 5648 5650 22 2003) 36:=eQ (hm ([0]++zh++lE++cond y [] [12]++km)) 22 (hq:=by intro p;cases y<;>kernel_rfl)
theorem IF:mC w b c A gh n t L [tD w b c A s i ti,ts i ti 13 14,tJ w b c A s t 5633 19 20] (err0 s i m) (jf A it c1 c2 c3 q) (pG A i ti tm m) 12 (jc w b c A s c1 c2 c3 fe fm y) (mc n 1998) 23 (fun PL=>ja w b c A s n t c1 c2 c3 fe fm PL 16 2002 2001 2004 20 5659 5654 5661 5663 22 2003) 49:=eQ (hm ([0]++zh++[14,0,1,14,0,1,14,0,1,14,2003004,5,5,5,5,1003,1004014,2,1]++lE++cond y [] [12]++km)) 22 (hq:=by intro p;cases y<;>kernel_rfl)
theorem HN:mC w b c A gh n t L [tD w b c A s i ti,ts i ti 13 14,tJ w b c A s t 5633 19 20,cS (cB "dict.__getitem__" [(rA A 4),(.int 262 (.add t 5636))]) 15 22 [(4,d4 (PP w b c) A s)] (rV (pv s 262)) 15 23] (sn s i m) (jf A it c1 c2 c3 q) (pG A i ti tm m) 12 (jc w b c A s c1 c2 c3 fe fm y) (mc n 1998) 23 (fun PL=>ja w b c A s n t c1 c2 c3 fe fm PL 16 2002 2001 2004 20 5663 5658 5665 5667 22 2003) 53:=eQ (hm ([0]++zh++[14,0,1,14,0,1,14,0,2,14,2003004,5,5,5,5,1003,14,2003004,5,5,5,5,1004,1004014,2,1]++lE++cond y [] [12]++km)) 22 (hq:=by intro p;cases y<;>kernel_rfl)
theorem DV:ZR_e w b c A gh L 40 (err2 n) (err3 t) [(kl i m,true)] (jf A it c1 c2 c3 q) (pI A i ti tm tv m v) 12 (jc w b c A s c1 c2 c3 fe fm y) (mc n 1998) 23 (fun PL=>ja w b c A s n t c1 c2 c3 fe fm PL 16 2002 2001 2004 20 5644 5639 5646 5648 22 2003) 34:=mZR_e (hm ([0,0,0,1008013,0]++Gw++cond y [] [12]++km)) 22 (hq:=by intro p;cases y<;>kernel_rfl)
theorem Eu:mC w b c A gh n t L [F5 i ti 12 13] [(kl i m,false)] (jf A it c1 c2 c3 q) (pI A i ti tm tv m v) 12 (jc w b c A s c1 c2 c3 fe fm y) (mc n 1998) 23 (fun PL=>ja w b c A s n t c1 c2 c3 fe fm PL 16 2002 2001 2004 20 5645 5640 5647 5649 22 2003) 35:=eQ (hm ([0,0,0,1008013,0]++tB++[1001]++lE++cond y [] [12]++km)) 22 (hq:=by intro p;cases y<;>kernel_rfl)
theorem Es:mC w b c A gh n t L [ts i ti 12 13,tJ w b c A s t 5632 18 19] (err0 s i m) (jf A it c1 c2 c3 q) (pI A i ti tm tv m v) 12 (jc w b c A s c1 c2 c3 fe fm y) (mc n 1998) 23 (fun PL=>ja w b c A s n t c1 c2 c3 fe fm PL 16 2002 2001 2004 20 5658 5653 5660 5662 22 2003) 48:=eQ (hm ([0]++hrr_8++cond y [] [12]++km)) 22 (hq:=by intro p;cases y<;>kernel_rfl)
theorem CL:mC w b c A gh n t L [ts i ti 12 13,tJ w b c A s t 5632 18 19,cS (cB "dict.__getitem__" [(rA A 4),(.int 262 (.add t 5635))]) 15 21 [(4,d4 (PP w b c) A s)] (rV (pv s 262)) 15 22] (pN s i m) (jf A it c1 c2 c3 q) (pI A i ti tm tv m v) 12 (jc w b c A s c1 c2 c3 fe fm y) (mc n 1998) 23 (fun PL=>ja w b c A s n t c1 c2 c3 fe fm PL 16 2002 2001 2004 20 5662 5657 5664 5666 22 2003) 52:=eQ (hm (hrr_7++cond y [] [12]++km)) 22 (hq:=by intro p;cases y<;>kernel_rfl)
end
noncomputable def hrn_0:List Nat:=[13,7016000,0,1,1034000,18,0,18,1007000,1006019,2000019,19,19,0,0,0,0,1004020,0,0,0,20,20,18,0,18,0,18,18,18,20,20,18,0,0,9000018,18,0,18,0,0,9000018,18,22,22,22,19,19,18,0,0,9000018,18,0,18,0,0,9000018,22,22,22,19,19,18,0,0,9000018,18,0,18,0,0,9000018,22,22,22,18,18,0,18]
noncomputable def sW:List Nat:=[0,0,1008013,0,13,6003004,13,13,0,0,0,1006014,0,14,0,14,7015000,0,2,14,0,0,0,0,1001,14]
noncomputable def sP:List Nat:=hrn_0++[18,0,18,18,13,13,8,8,9,9,10,10,11,11,12]
section
variable(w:World)(b c:Bool)(A:AS)(s:BS)(gh:List (Addr×Obj))(n t L:Nat)(i ti tm tv it c1 c2 c3:Nat)(m v:Int)(fe:Nat→Array DictEntry)(fm:Nat→Nat)(q:Nat→PySem.Pos)(y:Bool)
def y0:Result:=.error (.ref (.add n 1999))
def ern1:List (Nat×Nat):=[(12,Nat.add n 1994)]
def ern2:List (Nat×Nat):=[(0,Nat.add t 5615)]
def ern3:Bool×Bool:=((BEq.beq (Builtin.bitAnd (ay (s.p 774).1 (Builtin.bitAnd (Int.ofNat i) 3)) 1) 0),false)
def s4:Call:=cS (cB "dict.__contains__" [(.ref 1216),(.int (Int.ofNat i) ti)]) 15 12 [] (rV (.bool true)) 15 13
def sN:Bool:=(BEq.beq (Builtin.bitAnd (ay (Int.ofNat i) 10) 3) 3)
def s7:Bool:=(BEq.beq (ay (Int.ofNat i) 8) 12)
def s6:Bool:=(decide (LT.lt m (Builtin.bitAnd (ay (Int.ofNat i) 8) 3)))
def tg:List (Code×PySem.Pos):=(stC it (.add (A.a 7) 1994) (.add (A.a 8) 1994) (.add (A.a 9) 1994) (.add (A.a 10) 1994) (.add (A.a 11) 1994) c1 c2 c3 q)
def tu:Code:=(cR 1450 [.ref (.add (A.a 2) 1994),.int (Int.ofNat i) ti,.int v tv,.int m tm])
def tp:List (Nat×Obj):=(al w b c A s++[(7,bC (fe 0) (fm 0) #[]),(8,bC (fe 1) (fm 1) #[]),(9,bC (fe 2) (fm 2) #[]),(10,bC (fe 3) (fm 3) #[]),(11,bC (fe 4) (fm 4) (cond y (dD c1 c2 c3) #[]))])
def tq(PL:Nat→Value)(x0 x1 x2 x3:Nat):List (Nat×Obj):=(al w b c A s++[(7,bC (fe 0) (fm 0) (cI 1897 1898 (rA A 8))),(8,bC (fe 1) (fm 1) (cI 1890 1891 (rA A 9))),(9,bC (fe 2) (fm 2) (cI 1876 1877 (rA A 10))),(10,bC (fe 3) (fm 3) (cI 1987 1988 (rA A 11))),(11,bC (fe 4) (fm 4) (dD c1 c2 c3)),(17,⟨(.ref 91),(some (.add n 2003)),(.fields ⟨[(.ref (.add n 2002)),(.ref (.add n 2004)),.none,.none,(.bool false),.none]⟩),#[]⟩),(21,dO [ag w b c F0 (.add t x0) (.str KJ26 (.add t x1)),ag w b c yj (.add t x2) (.int 2 281),ag w b c oV (.add t x3) (.int 0 305)] 3),(22,iN .none (.add n 1994) .none PL)])
def Hl:Call:=cS (cB "dict.__getitem__" [(rA A 4),(.int 774 (.add t 5632))]) 15 18 [(4,d4 (PP w b c) A s)] (rV (pv s 774)) 15 19
def qrn_9:Call:=cS (cB "dict.__getitem__" [(rA A 4),(.int 262 (.add t 5635))]) 15 21 [(4,d4 (PP w b c) A s)] (rV (pv s 262)) 15 22
def qrn_10:Bool:=(BEq.beq (Builtin.bitAnd (ay (Builtin.bitAnd (s.p 774).1 (s.p 262).1) (Builtin.bitAnd (Int.ofNat i) 3)) 1) 0)
abbrev xY:=zZ w b c A gh L 40 (ern1 n) (ern2 t)
def pS:List (Bool×Bool):=[(sN i,true),((decide (LT.lt m 3)),false),(s7 i,true),(s6 i m,false)]
def pM:List (Bool×Bool):=[(sN i,true),ern3 s i,((BEq.beq m 1),true),((decide (LT.lt m 3)),true),(s7 i,true),(s6 i m,false)]
def po:List (Bool×Bool):=[(sN i,true),(qrn_10 s i,false),((BEq.beq m 1),false),((decide (LT.lt m 3)),true),(s7 i,true),(s6 i m,false)]
include w b c A s gh n t L i ti tm tv it c1 c2 c3 m v fe fm q y
theorem E1:xY w b c A gh n t L [s4 i ti] [(sN i,true),(s7 i,false),(s6 i m,false)] (tg A it c1 c2 c3 q) (tu A i ti tm tv m v) 12 (tp w b c A s c1 c2 c3 fe fm y) (y0 n) 23 (fun PL=>tq w b c A s n t c1 c2 c3 fe fm PL 5654 5649 5656 5658) 44:=eQ (hm ([0]++sW++[0,2,0]++sP++cond y [] [12]++[18,18,18,23,23])) 22 (hq:=by intro p;cases y<;>kernel_rfl)
theorem DT:xY w b c A gh n t L [s4 i ti] (pS i m) (tg A it c1 c2 c3 q) (tu A i ti tm tv m v) 12 (tp w b c A s c1 c2 c3 fe fm y) (y0 n) 23 (fun PL=>tq w b c A s n t c1 c2 c3 fe fm PL 5654 5649 5656 5658) 44:=eQ (hm ([0]++sW++[0,1,14,0,2,0]++sP++cond y [] [12]++[18,18,18,23,23])) 22 (hq:=by intro p;cases y<;>kernel_rfl)
theorem CH:xY w b c A gh n t L [s4 i ti,Hl w b c A s t] (pM s i m) (tg A it c1 c2 c3 q) (tu A i ti tm tv m v) 12 (tp w b c A s c1 c2 c3 fe fm y) (y0 n) 23 (fun PL=>tq w b c A s n t c1 c2 c3 fe fm PL 5664 5659 5666 5668) 54:=eQ (hm ([0]++sW++[0,1,14,0,1,14,0,1,14,2003004,5,5,5,5,1002,1004014,0,2,0]++sP++cond y [] [12]++[18,18,18,23,23])) 22 (hq:=by intro p;cases y<;>kernel_rfl)
theorem D0:xY w b c A gh n t L [s4 i ti,Hl w b c A s t,qrn_9 w b c A s t] (po s i m) (tg A it c1 c2 c3 q) (tu A i ti tm tv m v) 12 (tp w b c A s c1 c2 c3 fe fm y) (y0 n) 23 (fun PL=>tq w b c A s n t c1 c2 c3 fe fm PL 5668 5663 5670 5672) 58:=eQ (hm ([0]++sW++[0,1,14,0,1,14,0,2,14,2003004,5,5,5,5,1002,14,2003004,5,5,5,5,1003,1004014,0,2,0]++sP++cond y [] [12]++[18,18,18,23,23])) 22 (hq:=by intro p;cases y<;>kernel_rfl)
end
theorem TriC.sub{M:Model}{S:HT}{B:Nat}{C:Ctx→Prop}{cd:Code}{n t n' t':Nat}{r:Result}{pre post post1 gh gh':List (Addr×Obj)}(H:TriC M S B C cd gh pre n t r gh' post n' t')(h:post1.Sublist post):TriC M S B C cd gh pre n t r gh' post1 n' t':=by
  intro nd lo big Γ P h1 gs d os hΓ hL hsz hs hp hgh
  obtain⟨h',a1,a2,a3,a4,a5,a6,a7,a8⟩:=H nd lo big Γ P h1 gs d os hΓ hL hsz hs hp hgh
  have hm:=h.map (·.1)
  exact⟨h',a1,a2,a3,a4,a5.sublist hm,fun x hx=>a6 x (h.subset hx),a7,fun y hy=>⟨(a8 y hy).1,fun z=>(a8 y hy).2.1 (hm.subset z),(a8 y hy).2.2⟩⟩
def gt(l:List (Nat×Nat))(f:Nat→Nat)(i:Nat):Nat:=@List.rec (Nat×Nat) (fun _=>Nat) (f i) (fun x _ ih=>@Bool.rec (fun _=>Nat) ih x.2 (Nat.beq x.1 i)) l
structure RC where
  it:Nat
  c1:Nat
  c2:Nat
  c3:Nat
  fe:Nat→Array DictEntry
  fm:Nat→Nat
  q:Nat→PySem.Pos
  sl:Array (Option Value)
def RC.ok(R:RC):Prop:=R.sl=#[]∨R.sl=dD R.c1 R.c2 R.c3
theorem kW{α:Type}{x0 x1 x2 x3 x4 x5 x6 x7 x8 x9 x10 x11 x12 x13 x14:α}:[x0,x1,x2,x3,x4,x5,x6,x7,x8,x9,x10,x11,x12,x14].Sublist [x0,x1,x2,x3,x4,x5,x6,x7,x8,x9,x10,x11,x12,x13,x14]:=.cons₂ _ (.cons₂ _ (.cons₂ _ (.cons₂ _ (.cons₂ _ (.cons₂ _ (.cons₂ _ (.cons₂ _ (.cons₂ _ (.cons₂ _ (.cons₂ _ (.cons₂ _ (.cons₂ _ (.cons _ (.cons₂ _ .slnil))))))))))))))
theorem okB{it c1 c2 c3:Nat}{fe:Nat→Array DictEntry}{fm:Nat→Nat}{q:Nat→PySem.Pos}{sl:Array (Option Value)}(h:RC.ok ⟨it,c1,c2,c3,fe,fm,q,sl⟩):∃y:Bool,sl=cond y (dD c1 c2 c3) #[]:=
  h.elim (fun e=>⟨false,e⟩) fun e=>⟨true,e⟩
def aR(A:AS)(f:Nat→Nat):AS:=⟨gt [(7,f 0),(8,f 1),(9,f 2),(10,f 3),(11,f 4)] A.a,A.k⟩
abbrev ad(x:Nat):Nat:=Nat.add x 1994
abbrev stCr(R:RC)(f:Nat→Nat):List (Code×PySem.Pos):=stC R.it (ad (f 0)) (ad (f 1)) (ad (f 2)) (ad (f 3)) (ad (f 4)) R.c1 R.c2 R.c3 R.q
inductive RdRX (w:World) (b c:Bool) (A:AS) (s:BS) (cd:Code) (R:RC) (f:Nat→Nat) (gh:List (Addr×Obj)) (n t:Nat):Prop where
  |mk (xa xf e xd xb n' t':Nat) (xt:Value) (pl:Nat→Value) (h0_:e<n') (h1_:TA w b c A 40 (stCr R f) cd gh [(ad (f 0),bC (R.fe 0) (R.fm 0) #[]),(ad (f 1),bC (R.fe 1) (R.fm 1) #[]),(ad (f 2),bC (R.fe 2) (R.fm 2) #[]),(ad (f 3),bC (R.fe 3) (R.fm 3) #[]),(ad (f 4),bC (R.fe 4) (R.fm 4) R.sl)] s n t (.error (.ref (ad e))) gh
   [(ad (f 0),bC (R.fe 0) (R.fm 0) (cI 1897 1898 (.ref (ad (f 1))))),(ad (f 1),bC (R.fe 1) (R.fm 1) (cI 1890 1891 (.ref (ad (f 2))))),(ad (f 2),bC (R.fe 2) (R.fm 2) (cI 1876 1877 (.ref (ad (f 3))))),(ad (f 3),bC (R.fe 3) (R.fm 3) (cI 1987 1988 (.ref (ad (f 4))))),(ad (f 4),bC (R.fe 4) (R.fm 4) (dD R.c1 R.c2 R.c3)),
    (ad e,exO xa (ad xd) (ad xb)),(ad xb,iN xt xf .none pl)] s n' t'):RdRX w b c A s cd R f gh n t
def RdR(w:World)(b c:Bool)(A:AS)(s:BS)(cd:Code):Prop:=∀(R:RC) (f:Nat→Nat) (gh:List (Addr×Obj)) (n t:Nat),R.ok→RdRX w b c A s cd R f gh n t
def eP(w:World)(b c:Bool)(A:AS)(s:BS)(i:Nat)(m:Int):Prop:=∀ti tm,RdR w b c A s (.call (.ref 1428) ⟨[.ref (ad (A.a 2)),.int (Int.ofNat i) ti,.int m tm],[]⟩)
def cL(w:World)(b c:Bool)(A:AS)(s:BS)(i:Nat)(m v:Int):Prop:=∀ti tv tm,RdR w b c A s (.call (.ref 1450) ⟨[.ref (ad (A.a 2)),.int (Int.ofNat i) ti,.int v tv,.int m tm],[]⟩)
noncomputable def uz:List Nat:=[1006010,0,10,2008009,10,2008009,10,2008009,3011012,12,9012011,12,14,1007010,7001,3002]
noncomputable def fh:List Nat:=[2001002,6003004,10,10,2001002,0]
noncomputable def Cx:List Nat:=uz++[1004010,2001002,10,2008009,6,6,6,6,1003,10,10,10,3004,3005,1005010,2008009,1,1004010]++fh++[1006]
noncomputable def jL:List Nat:=uz++[1004010,2008009,10,10,10,3003,3004]
noncomputable def Bx:List Nat:=jL++[1005010,2008009,1,1004010]++fh++[1005,1005010]
noncomputable def eX:List Nat:=[2001002,6003004,10,10,10,2001002]
noncomputable def mH:List Nat:=[10,6001002,7017000,5001002,10,6001002,10,10,0,0,0,1006019,0]
noncomputable def ll:List Nat:=[0]++uz++[1004010,2001002,10,2008009,6,6,6,6,1003,10,10,10,3004,3005]
noncomputable def lr:List Nat:=[10,6001002,10,10,0,0,0,1006017,0,17]
noncomputable def kR:List Nat:=lr++[1,17,17,2001002,17,6]
noncomputable def pw:List Nat:=[0]++Cx++[1005010,3007,3008,1005010]++eX++[0,1009,10,10,0,0,0,0,1010]
noncomputable def qb:List Nat:=[0,0]++Cx++[1005010,3007,3008,10,0,1004010]++eX++[0,1009,10,10,0,0]
noncomputable def mZ:List Nat:=Bx++[3006,3007,10,0,1004010]++eX++[0,1008,10,10,0,0,0,0,1009]
noncomputable def nC:List Nat:=[0,0]++Bx++[3006,3007,1005010]++eX++[0,1008,10,10,0,0,0,0,1009]
noncomputable def jB:List Nat:=mH++[19,1,19,19,2001002,19,6,6,6]
noncomputable def jv:List Nat:=[6001002,10,10,0,0,0,1006016,0]
section
variable(w:World)(b c:Bool)(A:AS)(s:BS)(gh:List (Addr×Obj))(n t L:Nat)(nn tt:Nat→Nat)(vv:Nat→Nat→Nat)(wd old:Int)(tw told j:Nat)(I:IS)(z1 p1 r1:Nat→Int×Nat)(lc fc:Str)
def nB:List (Nat×Obj):=[(7,iO 121 (.add (A.a 8) 1994)),(8,iD (PP w b c) I)]
def hJ:Bool×Bool:=((bne I.rd 0),false)
def ik:Bool×Bool:=((bne I.rd 0),true)
def n5:List (Nat×Obj):=al w b c A ⟨z1,p1,s.r,s.pc,s.md,s.sp,s.es,s.em⟩
def j8:Bool×Bool:=((bne I.rs1 0),true)
def jn:Value:=.int I.cs (I.t 5)
def j6:Bool×Bool:=((bne I.im 0),true)
def FX:Code:=cB "str.__eq__" [(.str fc (.add (tt 0) 5617)),(.str fD (.add (tt 0) 5618))]
def sV:List (Bool×Bool):=[ik I,((BEq.beq I.rd 0),false)]
def Hs:Code:=cB "str.__eq__" [(.str lc (.add t 5626)),(.str mM (.add t 5627))]
def jZ:Value:=.int s.md.1 s.md.2
def qc:List (Bool×Bool):=[hJ I,((BEq.beq I.rd 0),true)]
def i1:List (Nat×Nat):=[(15,Nat.add (nn 0) 1994),(9,Nat.add n 1994)]
def iT(x0:Nat):List (Nat×Nat):=[(x0,Nat.add (tt 0) 5615),(0,Nat.add t 5615)]
def bH:Call:=cS (cB "str.__getitem__" [(.str I.nm (I.t 0)),(.int (Neg.neg 1) (.add t 5625))]) 14 11 [] (rV (.str lc (.add t 5626))) 14 12
def dK:Call:=cS (Hs t lc) 14 13 [] (rV (.bool false)) 14 13
def dR:Call:=cS (cB "list.__getitem__" [(rA A 5),(.int I.rs1 (I.t 2))]) 14 16 [(5,d5 (PP w b c) A s)] (rV (bo s j)) 14 16
def bF(x0 x1 x2 x3:Nat):Call:=cS (cB "str.__getitem__" [(.str I.nm (I.t 0)),(.int 4 (.add t x0))]) 14 x1 [] (rV (.str fc (.add t x2))) 14 x3
def iZ(x0 x1 x2:Nat):Call:=cS (cB "str.__eq__" [(.str fc (.add t x0)),(.str el (.add t x1))]) 14 x2 [] (rV (.bool true)) 14 x2
def pR(x0 x1 x2 x3:Nat):Call:=⟨cR 1450 [(rA A 2),(jn I),(bo s j),(jZ s)],x0,x1,(al w b c A s),rV .none,x2,x3,(n5 w b c A s z1 p1)⟩
def eU(x0 x1:Nat):Call:=cS (cB "tuple.__contains__" [(.ref 1710),(jn I)]) x0 x1 [] (rV (.bool false)) x0 x1
def bJ:Code:=(cR 1898 [.ref (.add (A.a 0) 1994),.ref (.add (A.a 7) 1994),.int wd tw])
def bh:List (Nat×Obj):=(al w b c A s++(nB w b c A I))
def js:List (Nat×Obj):=(al w b c A ⟨z1,p1,s.r,s.pc,s.md,s.sp,s.es,s.em⟩++(nB w b c A I))
def dG(x0 x1:Nat):Call:=cS (cB "tuple.__contains__" [(.ref 1710),(jn I)]) x0 x1 [] (rV (.bool true)) x0 x1
def jx(x0:Nat):List (Nat×Obj):=(al w b c A ⟨z1,p1,s.r,s.pc,s.md,(.add (nn x0) 1995),s.es,s.em⟩++(nB w b c A I))
def gQ:List (Nat×Nat):=[(16,Nat.add (nn 1) 1994),(15,Nat.add (nn 0) 1994),(9,Nat.add n 1994)]
def gZ(x0 x1:Nat):List (Nat×Nat):=[(x0,Nat.add (tt 1) 5615),(x1,Nat.add (tt 0) 5615),(0,Nat.add t 5615)]
def bE(x0 x1:Nat):Call:=cS (cR 1428 [(rA A 2),(jn I),(jZ s)]) 14 x0 (al w b c A s) (rV (.int old told)) 15 x1
def dh(x0 x1:Nat):Call:=⟨cB "list.__setitem__" [(rA A 5),(.int I.rd (I.t 1)),(.int old told)],x0,x1,[(5,d5 (PP w b c) A s)],rV .none,x0,x1,[(5,d5 (PP w b c) A ⟨s.z,s.p,r1,s.pc,s.md,s.sp,s.es,s.em⟩)]⟩
def jt:List (Nat×Obj):=(al w b c A ⟨z1,p1,r1,s.pc,s.md,s.sp,s.es,s.em⟩++(nB w b c A I))
def jo:List (Nat×Obj):=(al w b c A ⟨z1,p1,r1,s.pc,s.md,(.add (nn 1) 1995),s.es,s.em⟩++(nB w b c A I))
def cg(x0 x1 x2:Nat):Call:=cS (cB "str.__eq__" [(.str fc (.add t x0)),(.str el (.add t x1))]) 14 x2 [] (rV (.bool false)) 14 x2
def cV(x0 x1:Nat):Call:=cS (cB "str.__getitem__" [(.str I.nm (I.t 0)),(.int 4 (.add (tt 0) 5616))]) 15 x0 [] (rV (.str fc (.add (tt 0) 5617))) 15 x1
def g8(x0:Nat):Call:=cS (FX tt fc) 15 x0 [] (rV (.bool true)) 15 x0
def nL:Call:=⟨cR 1450 [(rA A 2),(jn I),(.int (Builtin.bitOr old (s.r j).1) (.add (tt 0) 5619)),(jZ s)],15,35,(al w b c A s),rV .none,16,36,(n5 w b c A s z1 p1)⟩
def wM:List (Nat×Obj):=(al w b c A ⟨s.z,s.p,r1,s.pc,s.md,s.sp,s.es,s.em⟩++(nB w b c A I))
def gV(x0:Nat):Call:=cS (FX tt fc) 15 x0 [] (rV (.bool false)) 15 x0
def nh:Call:=⟨cR 1450 [(rA A 2),(jn I),(.int (Builtin.bitAnd old (Builtin.bitXor 4294967295 (s.r j).1)) (.add (tt 0) 5620)),(jZ s)],15,36,(al w b c A s),rV .none,16,37,(n5 w b c A s z1 p1)⟩
def de:Call:=cS (Hs t lc) 14 13 [] (rV (.bool true)) 14 13
def nu(x0 x1 x2 x3:Nat):Call:=⟨cR 1450 [(rA A 2),(jn I),(.int I.im (I.t 4)),(jZ s)],x0,x1,(al w b c A s),rV .none,x2,x3,(n5 w b c A s z1 p1)⟩
def nQ:Call:=⟨cR 1450 [(rA A 2),(jn I),(.int (Builtin.bitOr old I.im) (.add (tt 0) 5619)),(jZ s)],15,34,(al w b c A s),rV .none,16,35,(n5 w b c A s z1 p1)⟩
def oi:Call:=⟨cR 1450 [(rA A 2),(jn I),(.int (Builtin.bitAnd old (Builtin.bitXor 4294967295 I.im)) (.add (tt 0) 5620)),(jZ s)],15,35,(al w b c A s),rV .none,16,36,(n5 w b c A s z1 p1)⟩
abbrev sK:=bP w b c A gh L 40 (gQ n nn) (gZ t tt 36 27)
abbrev sQ:=bP w b c A gh L 40 (gQ n nn) (gZ t tt 37 27)
abbrev s3:=bP w b c A gh L 40 (gQ n nn) (gZ t tt 35 26)
abbrev tC:=bP w b c A gh L 40 (gQ n nn) (gZ t tt 36 26)
include w b c A s gh n t L nn tt vv wd old tw told j I z1 p1 r1 lc fc
theorem chg_0:bP w b c A gh L 40 (i1 n nn) (iT t tt 29) [bH t I lc,dK t lc,dR w b c A s j I,bF t I fc 5632 18 5633 19,iZ t fc 5633 5634 20,pR w b c A s j I z1 p1 14 28 15 29,eU I 15 29] (qc I) (bJ A wd tw) 9 (bh w b c A s I) (rV .none) 16 (js w b c A s I z1 p1) 33:=ae (hm ([0]++ll++[1007010,1,1008010]++eX++[0,1006,10,10,0,0,0,0,1007,10]++jv++[16,2]))
theorem chg_1:bP w b c A gh L 40 (i1 n nn) (iT t tt 29) [bH t I lc,dK t lc,dR w b c A s j I,bF t I fc 5632 18 5633 19,iZ t fc 5633 5634 20,pR w b c A s j I z1 p1 14 28 15 29,dG I 15 29] (qc I) (bJ A wd tw) 9 (bh w b c A s I) (rV .none) 18 (jx w b c A s nn I z1 p1 0) 36:=ae (hm ([0]++ll++[1007010,1,1008010]++eX++[0,1006,10,10,0,0,0,0,1007,10,6001002,7016000,5001002,10,6001002,10,10,0,0,0,1006018,0,18,2]))
theorem chg_2:bP w b c A gh L 40 (gQ n nn) (gZ t tt 31 26) [bH t I lc,dK t lc,dR w b c A s j I,bF t I fc 5632 18 5633 19,iZ t fc 5633 5634 20,bE w b c A s old told I 25 26,pR w b c A s j I z1 p1 15 30 16 31,eU I 16 31,dh w b c A s old told I r1 17 36] (sV I) (bJ A wd tw) 9 (bh w b c A s I) (rV .none) 17 (jt w b c A s I z1 p1 r1) 36:=ae (hm ([0]++ll++[1007010,2,10]++fh++[1006,1008010]++eX++[0,1007,10,10,0,0,0,0,1008]++kR++[6,6,1009]))
theorem chg_3:bP w b c A gh L 40 (gQ n nn) (gZ t tt 31 26) [bH t I lc,dK t lc,dR w b c A s j I,bF t I fc 5632 18 5633 19,iZ t fc 5633 5634 20,bE w b c A s old told I 25 26,pR w b c A s j I z1 p1 15 30 16 31,dG I 16 31,dh w b c A s old told I r1 19 39] (sV I) (bJ A wd tw) 9 (bh w b c A s I) (rV .none) 19 (jo w b c A s nn I z1 p1 r1) 39:=ae (hm ([0]++ll++[1007010,2,10]++fh++[1006,1008010]++eX++[0,1007,10,10,0,0,0,0,1008]++jB++[1009]))
theorem chg_4:bP w b c A gh L 40 (i1 n nn) (iT t tt 27) [bH t I lc,dK t lc,dR w b c A s j I,bF t I fc 5632 18 5633 19,cg t fc 5633 5634 20,bE w b c A s old told I 26 27] [hJ I,((bne I.rs1 0),false)] (bJ A wd tw) 9 (bh w b c A s I) (rV .none) 16 (bh w b c A s I) 32:=ae (hm ([0]++ll++[1005010,2008009,2,1004010]++fh++[1006,1005010]++jv++[16,2]))
theorem chg_5:sK w b c A gh n t L nn tt [bH t I lc,dK t lc,dR w b c A s j I,bF t I fc 5632 18 5633 19,cg t fc 5633 5634 20,bE w b c A s old told I 26 27,cV tt I fc 29 30,g8 tt fc 31,nL w b c A s tt old j I z1 p1,eU I 16 36] [hJ I,j8 I] (bJ A wd tw) 9 (bh w b c A s I) (rV .none) 17 (js w b c A s I z1 p1) 40:=ae (hm ([0]++pw++lr++[2]))
theorem chg_6:sK w b c A gh n t L nn tt [bH t I lc,dK t lc,dR w b c A s j I,bF t I fc 5632 18 5633 19,cg t fc 5633 5634 20,bE w b c A s old told I 26 27,cV tt I fc 29 30,g8 tt fc 31,nL w b c A s tt old j I z1 p1,dG I 16 36] [hJ I,j8 I] (bJ A wd tw) 9 (bh w b c A s I) (rV .none) 19 (jx w b c A s nn I z1 p1 1) 43:=ae (hm ([0]++pw++mH++[19,2]))
theorem chg_7:bP w b c A gh L 40 (i1 n nn) (iT t tt 27) [bH t I lc,dK t lc,dR w b c A s j I,bF t I fc 5632 18 5633 19,cg t fc 5633 5634 20,bE w b c A s old told I 26 27,dh w b c A s old told I r1 16 33] [ik I,((bne I.rs1 0),false)] (bJ A wd tw) 9 (bh w b c A s I) (rV .none) 16 (wM w b c A s I r1) 33:=ae (hm ([0]++ll++[1005010,2008009,2,1004010]++fh++[1006,1005010]++jv++[16,1,16,16,2001002,16,6,6,6,1007]))
theorem chg_8:sK w b c A gh n t L nn tt [bH t I lc,dK t lc,dR w b c A s j I,bF t I fc 5632 18 5633 19,cg t fc 5633 5634 20,bE w b c A s old told I 26 27,cV tt I fc 29 30,g8 tt fc 31,nL w b c A s tt old j I z1 p1,eU I 16 36,dh w b c A s old told I r1 17 41] [ik I,j8 I] (bJ A wd tw) 9 (bh w b c A s I) (rV .none) 17 (jt w b c A s I z1 p1 r1) 41:=ae (hm ([0]++pw++kR++[6,6,1011]))
theorem chg_9:sK w b c A gh n t L nn tt [bH t I lc,dK t lc,dR w b c A s j I,bF t I fc 5632 18 5633 19,cg t fc 5633 5634 20,bE w b c A s old told I 26 27,cV tt I fc 29 30,g8 tt fc 31,nL w b c A s tt old j I z1 p1,dG I 16 36,dh w b c A s old told I r1 19 44] [ik I,j8 I] (bJ A wd tw) 9 (bh w b c A s I) (rV .none) 19 (jo w b c A s nn I z1 p1 r1) 44:=ae (hm ([0]++pw++jB++[1011]))
theorem chg_10:sQ w b c A gh n t L nn tt [bH t I lc,dK t lc,dR w b c A s j I,bF t I fc 5632 18 5633 19,cg t fc 5633 5634 20,bE w b c A s old told I 26 27,cV tt I fc 29 30,gV tt fc 31,nh w b c A s tt old j I z1 p1,eU I 16 37] [hJ I,j8 I] (bJ A wd tw) 9 (bh w b c A s I) (rV .none) 17 (js w b c A s I z1 p1) 41:=ae (hm (qb++[0,0,1010]++lr++[2]))
theorem chg_11:sQ w b c A gh n t L nn tt [bH t I lc,dK t lc,dR w b c A s j I,bF t I fc 5632 18 5633 19,cg t fc 5633 5634 20,bE w b c A s old told I 26 27,cV tt I fc 29 30,gV tt fc 31,nh w b c A s tt old j I z1 p1,dG I 16 37] [hJ I,j8 I] (bJ A wd tw) 9 (bh w b c A s I) (rV .none) 19 (jx w b c A s nn I z1 p1 1) 44:=ae (hm (qb++[0,0,1010]++mH++[19,2]))
theorem chg_12:sQ w b c A gh n t L nn tt [bH t I lc,dK t lc,dR w b c A s j I,bF t I fc 5632 18 5633 19,cg t fc 5633 5634 20,bE w b c A s old told I 26 27,cV tt I fc 29 30,gV tt fc 31,nh w b c A s tt old j I z1 p1,eU I 16 37,dh w b c A s old told I r1 17 42] [ik I,j8 I] (bJ A wd tw) 9 (bh w b c A s I) (rV .none) 17 (jt w b c A s I z1 p1 r1) 42:=ae (hm (qb++[0,0,1010]++kR++[6,6,1011]))
theorem chg_13:sQ w b c A gh n t L nn tt [bH t I lc,dK t lc,dR w b c A s j I,bF t I fc 5632 18 5633 19,cg t fc 5633 5634 20,bE w b c A s old told I 26 27,cV tt I fc 29 30,gV tt fc 31,nh w b c A s tt old j I z1 p1,dG I 16 37,dh w b c A s old told I r1 19 45] [ik I,j8 I] (bJ A wd tw) 9 (bh w b c A s I) (rV .none) 19 (jo w b c A s nn I z1 p1 r1) 45:=ae (hm (qb++[0,0,1010]++jB++[1011]))
theorem chg_14:bP w b c A gh L 40 (i1 n nn) (iT t tt 28) [bH t I lc,de t lc,bF t I fc 5631 17 5632 18,iZ t fc 5632 5633 19,nu w b c A s I z1 p1 14 27 15 28,eU I 15 28] (qc I) (bJ A wd tw) 9 (bh w b c A s I) (rV .none) 16 (js w b c A s I z1 p1) 32:=ae (hm ([0,0]++jL++[1007010,1,1008010]++eX++[0,1005,10,10,0,0,0,0,1006,10]++jv++[16,2]))
theorem chg_15:bP w b c A gh L 40 (i1 n nn) (iT t tt 28) [bH t I lc,de t lc,bF t I fc 5631 17 5632 18,iZ t fc 5632 5633 19,nu w b c A s I z1 p1 14 27 15 28,dG I 15 28] (qc I) (bJ A wd tw) 9 (bh w b c A s I) (rV .none) 18 (jx w b c A s nn I z1 p1 0) 35:=ae (hm ([0,0]++jL++[1007010,1,1008010]++eX++[0,1005,10,10,0,0,0,0,1006,10,6001002,7016000,5001002,10,6001002,10,10,0,0,0,1006018,0,18,2]))
theorem chg_16:bP w b c A gh L 40 (gQ n nn) (gZ t tt 30 25) [bH t I lc,de t lc,bF t I fc 5631 17 5632 18,iZ t fc 5632 5633 19,bE w b c A s old told I 24 25,nu w b c A s I z1 p1 15 29 16 30,eU I 16 30,dh w b c A s old told I r1 17 35] (sV I) (bJ A wd tw) 9 (bh w b c A s I) (rV .none) 17 (jt w b c A s I z1 p1 r1) 35:=ae (hm ([0,0]++jL++[1007010,2,10]++fh++[1005,1008010]++eX++[0,1006,10,10,0,0,0,0,1007]++kR++[6,6,1008]))
theorem chg_17:bP w b c A gh L 40 (gQ n nn) (gZ t tt 30 25) [bH t I lc,de t lc,bF t I fc 5631 17 5632 18,iZ t fc 5632 5633 19,bE w b c A s old told I 24 25,nu w b c A s I z1 p1 15 29 16 30,dG I 16 30,dh w b c A s old told I r1 19 38] (sV I) (bJ A wd tw) 9 (bh w b c A s I) (rV .none) 19 (jo w b c A s nn I z1 p1 r1) 38:=ae (hm ([0,0]++jL++[1007010,2,10]++fh++[1005,1008010]++eX++[0,1006,10,10,0,0,0,0,1007]++jB++[1008]))
theorem chg_18:bP w b c A gh L 40 (i1 n nn) (iT t tt 26) [bH t I lc,de t lc,bF t I fc 5631 17 5632 18,cg t fc 5632 5633 19,bE w b c A s old told I 25 26] [hJ I,((bne I.im 0),false)] (bJ A wd tw) 9 (bh w b c A s I) (rV .none) 16 (bh w b c A s I) 31:=ae (hm ([0,0]++jL++[1005010,2008009,2,1004010]++fh++[1005,1005010]++jv++[16,2]))
theorem chg_19:s3 w b c A gh n t L nn tt [bH t I lc,de t lc,bF t I fc 5631 17 5632 18,cg t fc 5632 5633 19,bE w b c A s old told I 25 26,cV tt I fc 28 29,g8 tt fc 30,nQ w b c A s tt old I z1 p1,eU I 16 35] [hJ I,j6 I] (bJ A wd tw) 9 (bh w b c A s I) (rV .none) 17 (js w b c A s I z1 p1) 39:=ae (hm (nC++lr++[2]))
theorem chg_20:s3 w b c A gh n t L nn tt [bH t I lc,de t lc,bF t I fc 5631 17 5632 18,cg t fc 5632 5633 19,bE w b c A s old told I 25 26,cV tt I fc 28 29,g8 tt fc 30,nQ w b c A s tt old I z1 p1,dG I 16 35] [hJ I,j6 I] (bJ A wd tw) 9 (bh w b c A s I) (rV .none) 19 (jx w b c A s nn I z1 p1 1) 42:=ae (hm (nC++mH++[19,2]))
theorem chg_21:bP w b c A gh L 40 (i1 n nn) (iT t tt 26) [bH t I lc,de t lc,bF t I fc 5631 17 5632 18,cg t fc 5632 5633 19,bE w b c A s old told I 25 26,dh w b c A s old told I r1 16 32] [ik I,((bne I.im 0),false)] (bJ A wd tw) 9 (bh w b c A s I) (rV .none) 16 (wM w b c A s I r1) 32:=ae (hm ([0,0]++jL++[1005010,2008009,2,1004010]++fh++[1005,1005010]++jv++[16,1,16,16,2001002,16,6,6,6,1006]))
theorem chg_22:s3 w b c A gh n t L nn tt [bH t I lc,de t lc,bF t I fc 5631 17 5632 18,cg t fc 5632 5633 19,bE w b c A s old told I 25 26,cV tt I fc 28 29,g8 tt fc 30,nQ w b c A s tt old I z1 p1,eU I 16 35,dh w b c A s old told I r1 17 40] [ik I,j6 I] (bJ A wd tw) 9 (bh w b c A s I) (rV .none) 17 (jt w b c A s I z1 p1 r1) 40:=ae (hm (nC++kR++[6,6,1010]))
theorem chg_23:s3 w b c A gh n t L nn tt [bH t I lc,de t lc,bF t I fc 5631 17 5632 18,cg t fc 5632 5633 19,bE w b c A s old told I 25 26,cV tt I fc 28 29,g8 tt fc 30,nQ w b c A s tt old I z1 p1,dG I 16 35,dh w b c A s old told I r1 19 43] [ik I,j6 I] (bJ A wd tw) 9 (bh w b c A s I) (rV .none) 19 (jo w b c A s nn I z1 p1 r1) 43:=ae (hm (nC++jB++[1010]))
theorem chg_24:tC w b c A gh n t L nn tt [bH t I lc,de t lc,bF t I fc 5631 17 5632 18,cg t fc 5632 5633 19,bE w b c A s old told I 25 26,cV tt I fc 28 29,gV tt fc 30,oi w b c A s tt old I z1 p1,eU I 16 36] [hJ I,j6 I] (bJ A wd tw) 9 (bh w b c A s I) (rV .none) 17 (js w b c A s I z1 p1) 40:=ae (hm ([0,0]++mZ++lr++[2]))
theorem chg_25:tC w b c A gh n t L nn tt [bH t I lc,de t lc,bF t I fc 5631 17 5632 18,cg t fc 5632 5633 19,bE w b c A s old told I 25 26,cV tt I fc 28 29,gV tt fc 30,oi w b c A s tt old I z1 p1,dG I 16 36] [hJ I,j6 I] (bJ A wd tw) 9 (bh w b c A s I) (rV .none) 19 (jx w b c A s nn I z1 p1 1) 43:=ae (hm ([0,0]++mZ++mH++[19,2]))
theorem chg_26:tC w b c A gh n t L nn tt [bH t I lc,de t lc,bF t I fc 5631 17 5632 18,cg t fc 5632 5633 19,bE w b c A s old told I 25 26,cV tt I fc 28 29,gV tt fc 30,oi w b c A s tt old I z1 p1,eU I 16 36,dh w b c A s old told I r1 17 41] [ik I,j6 I] (bJ A wd tw) 9 (bh w b c A s I) (rV .none) 17 (jt w b c A s I z1 p1 r1) 41:=ae (hm ([0,0]++mZ++kR++[6,6,1010]))
theorem chg_27:tC w b c A gh n t L nn tt [bH t I lc,de t lc,bF t I fc 5631 17 5632 18,cg t fc 5632 5633 19,bE w b c A s old told I 25 26,cV tt I fc 28 29,gV tt fc 30,oi w b c A s tt old I z1 p1,dG I 16 36,dh w b c A s old told I r1 19 44] [ik I,j6 I] (bJ A wd tw) 9 (bh w b c A s I) (rV .none) 19 (jo w b c A s nn I z1 p1 r1) 44:=ae (hm ([0,0]++mZ++jB++[1010]))
end
section
variable(w:World)(b c:Bool)(A:AS)(s:BS)(gh:List (Addr×Obj))(n t L:Nat)(tn ti:Nat)
def Gj:List (Nat×Nat):=[(0,Nat.add t 5615)]
def Gg(Y0:Nat):List (Nat×Nat):=[(Y0,Nat.add n 1994)]
def mW:Result:=rV (.str gq (.add t 5615))
def mX:Value:=.ref (.add (A.a 0) 1994)
def eZ:List (Nat×Obj):=[(0,⟨(.type "slice"),none,(.fields ⟨[.none,(.int 3 ti),.none]⟩),#[]⟩)]
abbrev gD:=FN w b c A gh L 20 (Gg n 0) (Gj t)
abbrev nT:=FN w b c A gh L 20 (Gg n 1) (Gj t)
include w b c A s gh n t L tn ti
theorem slast_0:gD w b c A gh n t L (cB "str.__getitem__" [.str kL tn,.int (-1) ti]) 0 [] (rV (.str el (.add t 5615))) 0 [] 1:=eM (hm [])
theorem sfour_0:gD w b c A gh n t L (cB "str.__getitem__" [.str kL tn,.int 4 ti]) 0 [] (rV (.str el (.add t 5615))) 0 [] 1:=eM (hm [])
theorem scut_0:nT w b c A gh n t L (cB "str.__getitem__" [.str kL tn,mX A]) 1 (eZ ti) (mW t) 1 (eZ ti) 1:=eM (hm [1,1,1,1])
theorem slast_1:gD w b c A gh n t L (cB "str.__getitem__" [.str kz tn,.int (-1) ti]) 0 [] (rV (.str fD (.add t 5615))) 0 [] 1:=eM (hm [])
theorem sfour_1:gD w b c A gh n t L (cB "str.__getitem__" [.str kz tn,.int 4 ti]) 0 [] (rV (.str fD (.add t 5615))) 0 [] 1:=eM (hm [])
theorem scut_1:nT w b c A gh n t L (cB "str.__getitem__" [.str kz tn,mX A]) 1 (eZ ti) (mW t) 1 (eZ ti) 1:=eM (hm [1,1,1,1])
theorem slast_2:gD w b c A gh n t L (cB "str.__getitem__" [.str kG tn,.int (-1) ti]) 0 [] (rV (.str gp (.add t 5615))) 0 [] 1:=eM (hm [])
theorem sfour_2:gD w b c A gh n t L (cB "str.__getitem__" [.str kG tn,.int 4 ti]) 0 [] (rV (.str gp (.add t 5615))) 0 [] 1:=eM (hm [])
theorem scut_2:nT w b c A gh n t L (cB "str.__getitem__" [.str kG tn,mX A]) 1 (eZ ti) (mW t) 1 (eZ ti) 1:=eM (hm [1,1,1,1])
theorem slast_3:gD w b c A gh n t L (cB "str.__getitem__" [.str kv tn,.int (-1) ti]) 0 [] (rV (.str mM (.add t 5615))) 0 [] 1:=eM (hm [])
theorem sfour_3:gD w b c A gh n t L (cB "str.__getitem__" [.str kv tn,.int 4 ti]) 0 [] (rV (.str el (.add t 5615))) 0 [] 1:=eM (hm [])
theorem scut_3:nT w b c A gh n t L (cB "str.__getitem__" [.str kv tn,mX A]) 1 (eZ ti) (mW t) 1 (eZ ti) 1:=eM (hm [1,1,1,1])
theorem slast_4:gD w b c A gh n t L (cB "str.__getitem__" [.str kM tn,.int (-1) ti]) 0 [] (rV (.str mM (.add t 5615))) 0 [] 1:=eM (hm [])
theorem sfour_4:gD w b c A gh n t L (cB "str.__getitem__" [.str kM tn,.int 4 ti]) 0 [] (rV (.str fD (.add t 5615))) 0 [] 1:=eM (hm [])
theorem scut_4:nT w b c A gh n t L (cB "str.__getitem__" [.str kM tn,mX A]) 1 (eZ ti) (mW t) 1 (eZ ti) 1:=eM (hm [1,1,1,1])
theorem slast_5:gD w b c A gh n t L (cB "str.__getitem__" [.str kJ tn,.int (-1) ti]) 0 [] (rV (.str mM (.add t 5615))) 0 [] 1:=eM (hm [])
theorem sfour_5:gD w b c A gh n t L (cB "str.__getitem__" [.str kJ tn,.int 4 ti]) 0 [] (rV (.str gp (.add t 5615))) 0 [] 1:=eM (hm [])
theorem scut_5:nT w b c A gh n t L (cB "str.__getitem__" [.str kJ tn,mX A]) 1 (eZ ti) (mW t) 1 (eZ ti) 1:=eM (hm [1,1,1,1])
end
section
variable(w:World)(b c:Bool)(A:AS)(s:BS)(gh:List (Addr×Obj))(n t L:Nat)(x y:Str)(tn ti:Nat)
include w b c A s gh n t L x y tn ti
theorem seq_:FN w b c A gh L 20 [(0,Nat.add n 1994)] [(0,Nat.add t 5615)] (cB "str.__eq__" [.str x tn,.str y ti]) 0 [] (rV (.bool (BEq.beq x.cps.toList y.cps.toList))) 0 [] 0:=eM (hm [])
end
def an:Nat→Str
 |0=>kL
 |1=>kz
 |2=>kG
 |3=>kv
 |4=>kM
 |_=>kJ
def ap:Nat→Str
 |0=>el
 |1=>fD
 |2=>gp
 |_=>mM
def am:Nat→Str
 |0=>el
 |1=>fD
 |2=>gp
 |3=>el
 |4=>fD
 |_=>gp
theorem ke{P:Nat→Prop}(h0:P 0)(h1:P 1)(h2:P 2)(h3:P 3)(h4:P 4)(h5:P 5):∀j,j<6→P j
 |0,_=>h0
 |1,_=>h1
 |2,_=>h2
 |3,_=>h3
 |4,_=>h4
 |5,_=>h5
theorem Ar(tn ti:Nat):Builtin.«str.__getitem__» ⟨[.str (an 0) tn,.int (-1) ti],[]⟩=(.fresh fun t=>.pure (.done (.ret (.str (ap 0) t))):Sem PySem.Fin):=by kernel_rfl
theorem Ca(tn ti:Nat):Builtin.«str.__getitem__» ⟨[.str (an 1) tn,.int (-1) ti],[]⟩=(.fresh fun t=>.pure (.done (.ret (.str (ap 1) t))):Sem PySem.Fin):=by kernel_rfl
theorem Cb(tn ti:Nat):Builtin.«str.__getitem__» ⟨[.str (an 2) tn,.int (-1) ti],[]⟩=(.fresh fun t=>.pure (.done (.ret (.str (ap 2) t))):Sem PySem.Fin):=by kernel_rfl
theorem CF(tn ti:Nat):Builtin.«str.__getitem__» ⟨[.str (an 3) tn,.int (-1) ti],[]⟩=(.fresh fun t=>.pure (.done (.ret (.str (ap 3) t))):Sem PySem.Fin):=by kernel_rfl
theorem Cq(tn ti:Nat):Builtin.«str.__getitem__» ⟨[.str (an 4) tn,.int (-1) ti],[]⟩=(.fresh fun t=>.pure (.done (.ret (.str (ap 4) t))):Sem PySem.Fin):=by kernel_rfl
theorem Cz(tn ti:Nat):Builtin.«str.__getitem__» ⟨[.str (an 5) tn,.int (-1) ti],[]⟩=(.fresh fun t=>.pure (.done (.ret (.str (ap 5) t))):Sem PySem.Fin):=by kernel_rfl
theorem CT(j tn ti:Nat)(hj:j<6):Builtin.«str.__getitem__» ⟨[.str (an j) tn,.int (-1) ti],[]⟩=(.fresh fun t=>.pure (.done (.ret (.str (ap j) t))):Sem PySem.Fin):=
 ke (P:=fun j=>Builtin.«str.__getitem__» ⟨[.str (an j) tn,.int (-1) ti],[]⟩=(.fresh fun t=>.pure (.done (.ret (.str (ap j) t))):Sem PySem.Fin)) (Ar tn ti) (Ca tn ti) (Cb tn ti) (CF tn ti) (Cq tn ti) (Cz tn ti) j hj
theorem Cu(tn ti:Nat):Builtin.«str.__getitem__» ⟨[.str (an 0) tn,.int 4 ti],[]⟩=(.fresh fun t=>.pure (.done (.ret (.str (am 0) t))):Sem PySem.Fin):=by kernel_rfl
theorem AQ(tn ti:Nat):Builtin.«str.__getitem__» ⟨[.str (an 1) tn,.int 4 ti],[]⟩=(.fresh fun t=>.pure (.done (.ret (.str (am 1) t))):Sem PySem.Fin):=by kernel_rfl
theorem Bv(tn ti:Nat):Builtin.«str.__getitem__» ⟨[.str (an 2) tn,.int 4 ti],[]⟩=(.fresh fun t=>.pure (.done (.ret (.str (am 2) t))):Sem PySem.Fin):=by kernel_rfl
theorem AI(tn ti:Nat):Builtin.«str.__getitem__» ⟨[.str (an 3) tn,.int 4 ti],[]⟩=(.fresh fun t=>.pure (.done (.ret (.str (am 3) t))):Sem PySem.Fin):=by kernel_rfl
theorem BM(tn ti:Nat):Builtin.«str.__getitem__» ⟨[.str (an 4) tn,.int 4 ti],[]⟩=(.fresh fun t=>.pure (.done (.ret (.str (am 4) t))):Sem PySem.Fin):=by kernel_rfl
theorem BF(tn ti:Nat):Builtin.«str.__getitem__» ⟨[.str (an 5) tn,.int 4 ti],[]⟩=(.fresh fun t=>.pure (.done (.ret (.str (am 5) t))):Sem PySem.Fin):=by kernel_rfl
theorem CU(j tn ti:Nat)(hj:j<6):Builtin.«str.__getitem__» ⟨[.str (an j) tn,.int 4 ti],[]⟩=(.fresh fun t=>.pure (.done (.ret (.str (am j) t))):Sem PySem.Fin):=
 ke (P:=fun j=>Builtin.«str.__getitem__» ⟨[.str (an j) tn,.int 4 ti],[]⟩=(.fresh fun t=>.pure (.done (.ret (.str (am j) t))):Sem PySem.Fin)) (Cu tn ti) (AQ tn ti) (Bv tn ti) (AI tn ti) (BM tn ti) (BF tn ti) j hj
theorem Jw(x y:Str)(tn ti:Nat):Builtin.«str.__eq__» ⟨[.str x tn,.str y ti],[]⟩=(.pure (.done (.ret (.bool (BEq.beq x.cps.toList y.cps.toList)))):Sem PySem.Fin):=by kernel_rfl
section
variable{w:World}{b c:Bool}{S:HT}{B:Nat}{gh:List (Addr×Obj)}{n t:Nat}{C:Ctx→Prop}(hC:∀Γ,C Γ→Γ.handled=none){j tn ti:Nat}{x y:Str}{v:Bool}
include hC
theorem au(hj:j<6):TriC (MM w b c) S B C (.builtin "str.__getitem__" ⟨[.str (an j) tn,.int (-1) ti],[]⟩) gh [] n t (.ok (.ret (.str (ap j) t))) gh [] n (t+1):=
 dL hC fun Γ P h gs dd os hh lo hp=>by rw[cM F.entry_str_getitem,CT j tn ti hj];exact .fresh .done
theorem aj(hj:j<6):TriC (MM w b c) S B C (.builtin "str.__getitem__" ⟨[.str (an j) tn,.int 4 ti],[]⟩) gh [] n t (.ok (.ret (.str (am j) t))) gh [] n (t+1):=
 dL hC fun Γ P h gs dd os hh lo hp=>by rw[cM F.entry_str_getitem,CU j tn ti hj];exact .fresh .done
theorem ac(hv:BEq.beq x.cps.toList y.cps.toList=v):TriC (MM w b c) S B C (.builtin "str.__eq__" ⟨[.str x tn,.str y ti],[]⟩) gh [] n t (.ok (.ret (.bool v))) gh [] n t:=
 dL hC fun Γ P h gs dd os hh lo hp=>by subst hv;rw[cM F.entry_str_eq,Jw x y tn ti];exact .done
end
inductive ChgOkX (w:World) (b c:Bool) (A:AS) (s:BS) (nm:Str) (rd rs im cs:Int) (fz fp fr:Nat→Int) (k u:Nat→Nat) (a7 a8:Nat) (gh:List (Addr×Obj)) (n t:Nat) (wd:Int) (tw:Nat):Prop where
 |mk (z1 p1 r1:Nat→Int×Nat) (sp1 n' t':Nat) (h0_:(∀i,(z1 i).1=fz i)) (h1_:(∀i,(p1 i).1=fp i)) (h2_:(∀i,(r1 i).1=fr i)) (h3_:TB w b c A 80 (.call (.ref 1898) ⟨[.ref (ad (A.a 0)),.ref (ad a7),.int wd tw],[]⟩) gh [(ad a7,iO 121 (ad a8)),(ad a8,iD (PP w b c) ⟨k,u,nm,rd,rs,0,im,cs⟩)] s n t (.ok (.ret .none)) gh [(ad a7,iO 121 (ad a8)),(ad a8,iD (PP w b c) ⟨k,u,nm,rd,rs,0,im,cs⟩)] ⟨z1,p1,r1,s.pc,s.md,sp1,s.es,s.em⟩ n' t'):ChgOkX w b c A s nm rd rs im cs fz fp fr k u a7 a8 gh n t wd tw
def bD(w:World)(b c:Bool)(A:AS)(s:BS)(nm:Str)(rd rs im cs:Int)(fz fp fr:Nat→Int):Prop:=∀(k u:Nat→Nat) (a7 a8:Nat) (gh:List (Addr×Obj)) (n t:Nat) (wd:Int) (tw:Nat),ChgOkX w b c A s nm rd rs im cs fz fp fr k u a7 a8 gh n t wd tw
def aI(A:AS)(a7 a8:Nat):AS:=⟨gt [(7,a7),(8,a8)] A.a,A.k⟩
section
variable(w:World)(b c:Bool)(A:AS)(s:BS)
include w b c A s
section
variable(j:Nat)(hj:j<6)(rd:Nat)
include j hj rd
section
variable(rs at_:Nat)(hrd:rd<32)(hrs:rs<32)(q0:BEq.beq (ap j).cps.toList [105]=false)
include rs at_ hrd hrs q0
section
variable(q1:BEq.beq (am j).cps.toList [119]=true)
include q1
section
variable(fz fp:Nat→Int)(hW:bz w b c A s at_ s.md.1 (s.r rs).1 fz fp)
include fz fp hW
theorem Eb(ht:bk [256,384,768] (Int.ofNat at_)=false)(he:He [((bne (Int.ofNat rd) 0),false),((BEq.beq (Int.ofNat rd) 0),true)]):bD w b c A s (an j) (Int.ofNat rd) (Int.ofNat rs) 0 (Int.ofNat at_) fz fp (vr s):=by
 intro k u a7 a8 gh n t wd tw
 obtain⟨z1,p1,n0,t0,ez,ep,H0⟩:=hW gh (n+5) (t+28) (u 5) (s.r rs).2 s.md.2
 exact⟨z1,p1,s.r,s.sp,n0+1,t0+4,ez,ep,fun _=>rfl,kE (chg_0 w b c (aI A a7 a8) s gh n t 40 (ar [n0]) (ar [t0]) (fun _ _=>0) wd 0 tw 0 rs ⟨k,u,an j,(Int.ofNat rd),(Int.ofNat rs),0,0,(Int.ofNat at_)⟩ z1 p1 s.r (ap j) (am j) (fk (au Lim.h hj)<|fk (ac Lim.h q0)<|fk (kc (aN Lim.h (m:=1) (r:=s.r) (i:=rs) hrs))<|fk (aj Lim.h hj)<|fk (ac Lim.h q1)<|fk (kd H0)<|fk (bc Lim.h ht)<|aa) he)⟩
theorem D9(ht:bk [256,384,768] (Int.ofNat at_)=true)(he:He [((bne (Int.ofNat rd) 0),false),((BEq.beq (Int.ofNat rd) 0),true)]):bD w b c A s (an j) (Int.ofNat rd) (Int.ofNat rs) 0 (Int.ofNat at_) fz fp (vr s):=by
 intro k u a7 a8 gh n t wd tw
 obtain⟨z1,p1,n0,t0,ez,ep,H0⟩:=hW gh (n+5) (t+28) (u 5) (s.r rs).2 s.md.2
 exact⟨z1,p1,s.r,(.add n0 1995),n0+3,t0+7,ez,ep,fun _=>rfl,kE (chg_1 w b c (aI A a7 a8) s gh n t 40 (ar [n0]) (ar [t0]) (fun _ _=>0) wd 0 tw 0 rs ⟨k,u,an j,(Int.ofNat rd),(Int.ofNat rs),0,0,(Int.ofNat at_)⟩ z1 p1 s.r (ap j) (am j) (fk (au Lim.h hj)<|fk (ac Lim.h q0)<|fk (kc (aN Lim.h (m:=1) (r:=s.r) (i:=rs) hrs))<|fk (aj Lim.h hj)<|fk (ac Lim.h q1)<|fk (kd H0)<|fk (bc Lim.h ht)<|aa) he)⟩
end
section
variable(old:Int)(hR:bw w b c A s at_ s.md.1 old)(fz fp:Nat→Int)(hW:bz w b c A s at_ s.md.1 (s.r rs).1 fz fp)
include old hR fz fp hW
theorem Dp(ht:bk [256,384,768] (Int.ofNat at_)=false)(he:He [((bne (Int.ofNat rd) 0),true),((BEq.beq (Int.ofNat rd) 0),false)]):bD w b c A s (an j) (Int.ofNat rd) (Int.ofNat rs) 0 (Int.ofNat at_) fz fp (aW (vr s) rd old):=by
 intro k u a7 a8 gh n t wd tw
 obtain⟨told,n0,t0,H0⟩:=hR gh (n+5) (t+25) (u 5) s.md.2
 obtain⟨z1,p1,n1,t1,ez,ep,H1⟩:=hW gh (n0+0) (t0+4) (u 5) (s.r rs).2 s.md.2
 exact⟨z1,p1,(up s.r rd old told),s.sp,n1+1,t1+5,ez,ep,fun i=>aO _ _ _ _ i,kE (chg_2 w b c (aI A a7 a8) s gh n t 40 (ar [n0,n1]) (ar [t0,t1]) (fun _ _=>0) wd old tw told rs ⟨k,u,an j,(Int.ofNat rd),(Int.ofNat rs),0,0,(Int.ofNat at_)⟩ z1 p1 (up s.r rd old told) (ap j) (am j) (fk (au Lim.h hj)<|fk (ac Lim.h q0)<|fk (kc (aN Lim.h (m:=1) (r:=s.r) (i:=rs) hrs))<|fk (aj Lim.h hj)<|fk (ac Lim.h q1)<|fk (kd H0)<|fk (kd H1)<|fk (bc Lim.h ht)<|fk (kc (bv Lim.h (m:=1) (r:=s.r) (i:=rd) (x:=old) (y:=told) hrd))<|aa) he)⟩
theorem D7(ht:bk [256,384,768] (Int.ofNat at_)=true)(he:He [((bne (Int.ofNat rd) 0),true),((BEq.beq (Int.ofNat rd) 0),false)]):bD w b c A s (an j) (Int.ofNat rd) (Int.ofNat rs) 0 (Int.ofNat at_) fz fp (aW (vr s) rd old):=by
 intro k u a7 a8 gh n t wd tw
 obtain⟨told,n0,t0,H0⟩:=hR gh (n+5) (t+25) (u 5) s.md.2
 obtain⟨z1,p1,n1,t1,ez,ep,H1⟩:=hW gh (n0+0) (t0+4) (u 5) (s.r rs).2 s.md.2
 exact⟨z1,p1,(up s.r rd old told),(.add n1 1995),n1+3,t1+8,ez,ep,fun i=>aO _ _ _ _ i,kE (chg_3 w b c (aI A a7 a8) s gh n t 40 (ar [n0,n1]) (ar [t0,t1]) (fun _ _=>0) wd old tw told rs ⟨k,u,an j,(Int.ofNat rd),(Int.ofNat rs),0,0,(Int.ofNat at_)⟩ z1 p1 (up s.r rd old told) (ap j) (am j) (fk (au Lim.h hj)<|fk (ac Lim.h q0)<|fk (kc (aN Lim.h (m:=1) (r:=s.r) (i:=rs) hrs))<|fk (aj Lim.h hj)<|fk (ac Lim.h q1)<|fk (kd H0)<|fk (kd H1)<|fk (bc Lim.h ht)<|fk (kc (bv Lim.h (m:=1) (r:=s.r) (i:=rd) (x:=old) (y:=told) hrd))<|aa) he)⟩
end
end
section
variable(q1:BEq.beq (am j).cps.toList [119]=false)(old:Int)(hR:bw w b c A s at_ s.md.1 old)
include q1 old hR
theorem t5(he:He [((bne (Int.ofNat rd) 0),false),((bne (Int.ofNat rs) 0),false)]):bD w b c A s (an j) (Int.ofNat rd) (Int.ofNat rs) 0 (Int.ofNat at_) (vz s) (vp s) (vr s):=by
 intro k u a7 a8 gh n t wd tw
 obtain⟨told,n0,t0,H0⟩:=hR gh (n+5) (t+26) (u 5) s.md.2
 exact⟨s.z,s.p,s.r,s.sp,n0+1,t0+5,fun _=>rfl,fun _=>rfl,fun _=>rfl,kE (chg_4 w b c (aI A a7 a8) s gh n t 40 (ar [n0]) (ar [t0]) (fun _ _=>0) wd old tw told rs ⟨k,u,an j,(Int.ofNat rd),(Int.ofNat rs),0,0,(Int.ofNat at_)⟩ s.z s.p s.r (ap j) (am j) (fk (au Lim.h hj)<|fk (ac Lim.h q0)<|fk (kc (aN Lim.h (m:=1) (r:=s.r) (i:=rs) hrs))<|fk (aj Lim.h hj)<|fk (ac Lim.h q1)<|fk (kd H0)<|aa) he)⟩
section
variable(q2:BEq.beq (am j).cps.toList [115]=true)(fz fp:Nat→Int)(hW:bz w b c A s at_ s.md.1 (Builtin.bitOr old (s.r rs).1) fz fp)
include q2 fz fp hW
theorem DI(ht:bk [256,384,768] (Int.ofNat at_)=false)(he:He [((bne (Int.ofNat rd) 0),false),((bne (Int.ofNat rs) 0),true)]):bD w b c A s (an j) (Int.ofNat rd) (Int.ofNat rs) 0 (Int.ofNat at_) fz fp (vr s):=by
 intro k u a7 a8 gh n t wd tw
 obtain⟨told,n0,t0,H0⟩:=hR gh (n+5) (t+26) (u 5) s.md.2
 obtain⟨z1,p1,n1,t1,ez,ep,H1⟩:=hW gh (n0+0) (t0+8) (u 5) (.add t0 5619) s.md.2
 exact⟨z1,p1,s.r,s.sp,n1+1,t1+4,ez,ep,fun _=>rfl,kE (chg_5 w b c (aI A a7 a8) s gh n t 40 (ar [n0,n1]) (ar [t0,t1]) (fun _ _=>0) wd old tw told rs ⟨k,u,an j,(Int.ofNat rd),(Int.ofNat rs),0,0,(Int.ofNat at_)⟩ z1 p1 s.r (ap j) (am j) (fk (au Lim.h hj)<|fk (ac Lim.h q0)<|fk (kc (aN Lim.h (m:=1) (r:=s.r) (i:=rs) hrs))<|fk (aj Lim.h hj)<|fk (ac Lim.h q1)<|fk (kd H0)<|fk (aj Lim.h hj)<|fk (ac Lim.h q2)<|fk (kd H1)<|fk (bc Lim.h ht)<|aa) he)⟩
theorem CO(ht:bk [256,384,768] (Int.ofNat at_)=false)(he:He [((bne (Int.ofNat rd) 0),true),((bne (Int.ofNat rs) 0),true)]):bD w b c A s (an j) (Int.ofNat rd) (Int.ofNat rs) 0 (Int.ofNat at_) fz fp (aW (vr s) rd old):=by
 intro k u a7 a8 gh n t wd tw
 obtain⟨told,n0,t0,H0⟩:=hR gh (n+5) (t+26) (u 5) s.md.2
 obtain⟨z1,p1,n1,t1,ez,ep,H1⟩:=hW gh (n0+0) (t0+8) (u 5) (.add t0 5619) s.md.2
 exact⟨z1,p1,(up s.r rd old told),s.sp,n1+1,t1+5,ez,ep,fun i=>aO _ _ _ _ i,kE (chg_8 w b c (aI A a7 a8) s gh n t 40 (ar [n0,n1]) (ar [t0,t1]) (fun _ _=>0) wd old tw told rs ⟨k,u,an j,(Int.ofNat rd),(Int.ofNat rs),0,0,(Int.ofNat at_)⟩ z1 p1 (up s.r rd old told) (ap j) (am j) (fk (au Lim.h hj)<|fk (ac Lim.h q0)<|fk (kc (aN Lim.h (m:=1) (r:=s.r) (i:=rs) hrs))<|fk (aj Lim.h hj)<|fk (ac Lim.h q1)<|fk (kd H0)<|fk (aj Lim.h hj)<|fk (ac Lim.h q2)<|fk (kd H1)<|fk (bc Lim.h ht)<|fk (kc (bv Lim.h (m:=1) (r:=s.r) (i:=rd) (x:=old) (y:=told) hrd))<|aa) he)⟩
theorem CX(ht:bk [256,384,768] (Int.ofNat at_)=true)(he:He [((bne (Int.ofNat rd) 0),false),((bne (Int.ofNat rs) 0),true)]):bD w b c A s (an j) (Int.ofNat rd) (Int.ofNat rs) 0 (Int.ofNat at_) fz fp (vr s):=by
 intro k u a7 a8 gh n t wd tw
 obtain⟨told,n0,t0,H0⟩:=hR gh (n+5) (t+26) (u 5) s.md.2
 obtain⟨z1,p1,n1,t1,ez,ep,H1⟩:=hW gh (n0+0) (t0+8) (u 5) (.add t0 5619) s.md.2
 exact⟨z1,p1,s.r,(.add n1 1995),n1+3,t1+7,ez,ep,fun _=>rfl,kE (chg_6 w b c (aI A a7 a8) s gh n t 40 (ar [n0,n1]) (ar [t0,t1]) (fun _ _=>0) wd old tw told rs ⟨k,u,an j,(Int.ofNat rd),(Int.ofNat rs),0,0,(Int.ofNat at_)⟩ z1 p1 s.r (ap j) (am j) (fk (au Lim.h hj)<|fk (ac Lim.h q0)<|fk (kc (aN Lim.h (m:=1) (r:=s.r) (i:=rs) hrs))<|fk (aj Lim.h hj)<|fk (ac Lim.h q1)<|fk (kd H0)<|fk (aj Lim.h hj)<|fk (ac Lim.h q2)<|fk (kd H1)<|fk (bc Lim.h ht)<|aa) he)⟩
theorem EO(ht:bk [256,384,768] (Int.ofNat at_)=true)(he:He [((bne (Int.ofNat rd) 0),true),((bne (Int.ofNat rs) 0),true)]):bD w b c A s (an j) (Int.ofNat rd) (Int.ofNat rs) 0 (Int.ofNat at_) fz fp (aW (vr s) rd old):=by
 intro k u a7 a8 gh n t wd tw
 obtain⟨told,n0,t0,H0⟩:=hR gh (n+5) (t+26) (u 5) s.md.2
 obtain⟨z1,p1,n1,t1,ez,ep,H1⟩:=hW gh (n0+0) (t0+8) (u 5) (.add t0 5619) s.md.2
 exact⟨z1,p1,(up s.r rd old told),(.add n1 1995),n1+3,t1+8,ez,ep,fun i=>aO _ _ _ _ i,kE (chg_9 w b c (aI A a7 a8) s gh n t 40 (ar [n0,n1]) (ar [t0,t1]) (fun _ _=>0) wd old tw told rs ⟨k,u,an j,(Int.ofNat rd),(Int.ofNat rs),0,0,(Int.ofNat at_)⟩ z1 p1 (up s.r rd old told) (ap j) (am j) (fk (au Lim.h hj)<|fk (ac Lim.h q0)<|fk (kc (aN Lim.h (m:=1) (r:=s.r) (i:=rs) hrs))<|fk (aj Lim.h hj)<|fk (ac Lim.h q1)<|fk (kd H0)<|fk (aj Lim.h hj)<|fk (ac Lim.h q2)<|fk (kd H1)<|fk (bc Lim.h ht)<|fk (kc (bv Lim.h (m:=1) (r:=s.r) (i:=rd) (x:=old) (y:=told) hrd))<|aa) he)⟩
end
theorem uW(he:He [((bne (Int.ofNat rd) 0),true),((bne (Int.ofNat rs) 0),false)]):bD w b c A s (an j) (Int.ofNat rd) (Int.ofNat rs) 0 (Int.ofNat at_) (vz s) (vp s) (aW (vr s) rd old):=by
 intro k u a7 a8 gh n t wd tw
 obtain⟨told,n0,t0,H0⟩:=hR gh (n+5) (t+26) (u 5) s.md.2
 exact⟨s.z,s.p,(up s.r rd old told),s.sp,n0+1,t0+6,fun _=>rfl,fun _=>rfl,fun i=>aO _ _ _ _ i,kE (chg_7 w b c (aI A a7 a8) s gh n t 40 (ar [n0]) (ar [t0]) (fun _ _=>0) wd old tw told rs ⟨k,u,an j,(Int.ofNat rd),(Int.ofNat rs),0,0,(Int.ofNat at_)⟩ s.z s.p (up s.r rd old told) (ap j) (am j) (fk (au Lim.h hj)<|fk (ac Lim.h q0)<|fk (kc (aN Lim.h (m:=1) (r:=s.r) (i:=rs) hrs))<|fk (aj Lim.h hj)<|fk (ac Lim.h q1)<|fk (kd H0)<|fk (kc (bv Lim.h (m:=1) (r:=s.r) (i:=rd) (x:=old) (y:=told) hrd))<|aa) he)⟩
section
variable(q2:BEq.beq (am j).cps.toList [115]=false)(fz fp:Nat→Int)(hW:bz w b c A s at_ s.md.1 (Builtin.bitAnd old (Builtin.bitXor 4294967295 (s.r rs).1)) fz fp)
include q2 fz fp hW
theorem AT(ht:bk [256,384,768] (Int.ofNat at_)=false)(he:He [((bne (Int.ofNat rd) 0),false),((bne (Int.ofNat rs) 0),true)]):bD w b c A s (an j) (Int.ofNat rd) (Int.ofNat rs) 0 (Int.ofNat at_) fz fp (vr s):=by
 intro k u a7 a8 gh n t wd tw
 obtain⟨told,n0,t0,H0⟩:=hR gh (n+5) (t+26) (u 5) s.md.2
 obtain⟨z1,p1,n1,t1,ez,ep,H1⟩:=hW gh (n0+0) (t0+9) (u 5) (.add t0 5620) s.md.2
 exact⟨z1,p1,s.r,s.sp,n1+1,t1+4,ez,ep,fun _=>rfl,kE (chg_10 w b c (aI A a7 a8) s gh n t 40 (ar [n0,n1]) (ar [t0,t1]) (fun _ _=>0) wd old tw told rs ⟨k,u,an j,(Int.ofNat rd),(Int.ofNat rs),0,0,(Int.ofNat at_)⟩ z1 p1 s.r (ap j) (am j) (fk (au Lim.h hj)<|fk (ac Lim.h q0)<|fk (kc (aN Lim.h (m:=1) (r:=s.r) (i:=rs) hrs))<|fk (aj Lim.h hj)<|fk (ac Lim.h q1)<|fk (kd H0)<|fk (aj Lim.h hj)<|fk (ac Lim.h q2)<|fk (kd H1)<|fk (bc Lim.h ht)<|aa) he)⟩
theorem At(ht:bk [256,384,768] (Int.ofNat at_)=false)(he:He [((bne (Int.ofNat rd) 0),true),((bne (Int.ofNat rs) 0),true)]):bD w b c A s (an j) (Int.ofNat rd) (Int.ofNat rs) 0 (Int.ofNat at_) fz fp (aW (vr s) rd old):=by
 intro k u a7 a8 gh n t wd tw
 obtain⟨told,n0,t0,H0⟩:=hR gh (n+5) (t+26) (u 5) s.md.2
 obtain⟨z1,p1,n1,t1,ez,ep,H1⟩:=hW gh (n0+0) (t0+9) (u 5) (.add t0 5620) s.md.2
 exact⟨z1,p1,(up s.r rd old told),s.sp,n1+1,t1+5,ez,ep,fun i=>aO _ _ _ _ i,kE (chg_12 w b c (aI A a7 a8) s gh n t 40 (ar [n0,n1]) (ar [t0,t1]) (fun _ _=>0) wd old tw told rs ⟨k,u,an j,(Int.ofNat rd),(Int.ofNat rs),0,0,(Int.ofNat at_)⟩ z1 p1 (up s.r rd old told) (ap j) (am j) (fk (au Lim.h hj)<|fk (ac Lim.h q0)<|fk (kc (aN Lim.h (m:=1) (r:=s.r) (i:=rs) hrs))<|fk (aj Lim.h hj)<|fk (ac Lim.h q1)<|fk (kd H0)<|fk (aj Lim.h hj)<|fk (ac Lim.h q2)<|fk (kd H1)<|fk (bc Lim.h ht)<|fk (kc (bv Lim.h (m:=1) (r:=s.r) (i:=rd) (x:=old) (y:=told) hrd))<|aa) he)⟩
theorem Ay(ht:bk [256,384,768] (Int.ofNat at_)=true)(he:He [((bne (Int.ofNat rd) 0),false),((bne (Int.ofNat rs) 0),true)]):bD w b c A s (an j) (Int.ofNat rd) (Int.ofNat rs) 0 (Int.ofNat at_) fz fp (vr s):=by
 intro k u a7 a8 gh n t wd tw
 obtain⟨told,n0,t0,H0⟩:=hR gh (n+5) (t+26) (u 5) s.md.2
 obtain⟨z1,p1,n1,t1,ez,ep,H1⟩:=hW gh (n0+0) (t0+9) (u 5) (.add t0 5620) s.md.2
 exact⟨z1,p1,s.r,(.add n1 1995),n1+3,t1+7,ez,ep,fun _=>rfl,kE (chg_11 w b c (aI A a7 a8) s gh n t 40 (ar [n0,n1]) (ar [t0,t1]) (fun _ _=>0) wd old tw told rs ⟨k,u,an j,(Int.ofNat rd),(Int.ofNat rs),0,0,(Int.ofNat at_)⟩ z1 p1 s.r (ap j) (am j) (fk (au Lim.h hj)<|fk (ac Lim.h q0)<|fk (kc (aN Lim.h (m:=1) (r:=s.r) (i:=rs) hrs))<|fk (aj Lim.h hj)<|fk (ac Lim.h q1)<|fk (kd H0)<|fk (aj Lim.h hj)<|fk (ac Lim.h q2)<|fk (kd H1)<|fk (bc Lim.h ht)<|aa) he)⟩
theorem CC(ht:bk [256,384,768] (Int.ofNat at_)=true)(he:He [((bne (Int.ofNat rd) 0),true),((bne (Int.ofNat rs) 0),true)]):bD w b c A s (an j) (Int.ofNat rd) (Int.ofNat rs) 0 (Int.ofNat at_) fz fp (aW (vr s) rd old):=by
 intro k u a7 a8 gh n t wd tw
 obtain⟨told,n0,t0,H0⟩:=hR gh (n+5) (t+26) (u 5) s.md.2
 obtain⟨z1,p1,n1,t1,ez,ep,H1⟩:=hW gh (n0+0) (t0+9) (u 5) (.add t0 5620) s.md.2
 exact⟨z1,p1,(up s.r rd old told),(.add n1 1995),n1+3,t1+8,ez,ep,fun i=>aO _ _ _ _ i,kE (chg_13 w b c (aI A a7 a8) s gh n t 40 (ar [n0,n1]) (ar [t0,t1]) (fun _ _=>0) wd old tw told rs ⟨k,u,an j,(Int.ofNat rd),(Int.ofNat rs),0,0,(Int.ofNat at_)⟩ z1 p1 (up s.r rd old told) (ap j) (am j) (fk (au Lim.h hj)<|fk (ac Lim.h q0)<|fk (kc (aN Lim.h (m:=1) (r:=s.r) (i:=rs) hrs))<|fk (aj Lim.h hj)<|fk (ac Lim.h q1)<|fk (kd H0)<|fk (aj Lim.h hj)<|fk (ac Lim.h q2)<|fk (kd H1)<|fk (bc Lim.h ht)<|fk (kc (bv Lim.h (m:=1) (r:=s.r) (i:=rd) (x:=old) (y:=told) hrd))<|aa) he)⟩
end
end
end
section
variable(at_:Nat)(im:Int)(hrd:rd<32)(q0:BEq.beq (ap j).cps.toList [105]=true)
include at_ im hrd q0
section
variable(q1:BEq.beq (am j).cps.toList [119]=true)
include q1
section
variable(fz fp:Nat→Int)(hW:bz w b c A s at_ s.md.1 im fz fp)
include fz fp hW
theorem Cw(ht:bk [256,384,768] (Int.ofNat at_)=false)(he:He [((bne (Int.ofNat rd) 0),false),((BEq.beq (Int.ofNat rd) 0),true)]):bD w b c A s (an j) (Int.ofNat rd) 0 im (Int.ofNat at_) fz fp (vr s):=by
 intro k u a7 a8 gh n t wd tw
 obtain⟨z1,p1,n0,t0,ez,ep,H0⟩:=hW gh (n+5) (t+27) (u 5) (u 4) s.md.2
 exact⟨z1,p1,s.r,s.sp,n0+1,t0+4,ez,ep,fun _=>rfl,kE (chg_14 w b c (aI A a7 a8) s gh n t 40 (ar [n0]) (ar [t0]) (fun _ _=>0) wd 0 tw 0 0 ⟨k,u,an j,(Int.ofNat rd),0,0,im,(Int.ofNat at_)⟩ z1 p1 s.r (ap j) (am j) (fk (au Lim.h hj)<|fk (ac Lim.h q0)<|fk (aj Lim.h hj)<|fk (ac Lim.h q1)<|fk (kd H0)<|fk (bc Lim.h ht)<|aa) he)⟩
theorem Cc(ht:bk [256,384,768] (Int.ofNat at_)=true)(he:He [((bne (Int.ofNat rd) 0),false),((BEq.beq (Int.ofNat rd) 0),true)]):bD w b c A s (an j) (Int.ofNat rd) 0 im (Int.ofNat at_) fz fp (vr s):=by
 intro k u a7 a8 gh n t wd tw
 obtain⟨z1,p1,n0,t0,ez,ep,H0⟩:=hW gh (n+5) (t+27) (u 5) (u 4) s.md.2
 exact⟨z1,p1,s.r,(.add n0 1995),n0+3,t0+7,ez,ep,fun _=>rfl,kE (chg_15 w b c (aI A a7 a8) s gh n t 40 (ar [n0]) (ar [t0]) (fun _ _=>0) wd 0 tw 0 0 ⟨k,u,an j,(Int.ofNat rd),0,0,im,(Int.ofNat at_)⟩ z1 p1 s.r (ap j) (am j) (fk (au Lim.h hj)<|fk (ac Lim.h q0)<|fk (aj Lim.h hj)<|fk (ac Lim.h q1)<|fk (kd H0)<|fk (bc Lim.h ht)<|aa) he)⟩
end
section
variable(old:Int)(hR:bw w b c A s at_ s.md.1 old)(fz fp:Nat→Int)(hW:bz w b c A s at_ s.md.1 im fz fp)
include old hR fz fp hW
theorem BQ(ht:bk [256,384,768] (Int.ofNat at_)=false)(he:He [((bne (Int.ofNat rd) 0),true),((BEq.beq (Int.ofNat rd) 0),false)]):bD w b c A s (an j) (Int.ofNat rd) 0 im (Int.ofNat at_) fz fp (aW (vr s) rd old):=by
 intro k u a7 a8 gh n t wd tw
 obtain⟨told,n0,t0,H0⟩:=hR gh (n+5) (t+24) (u 5) s.md.2
 obtain⟨z1,p1,n1,t1,ez,ep,H1⟩:=hW gh (n0+0) (t0+4) (u 5) (u 4) s.md.2
 exact⟨z1,p1,(up s.r rd old told),s.sp,n1+1,t1+5,ez,ep,fun i=>aO _ _ _ _ i,kE (chg_16 w b c (aI A a7 a8) s gh n t 40 (ar [n0,n1]) (ar [t0,t1]) (fun _ _=>0) wd old tw told 0 ⟨k,u,an j,(Int.ofNat rd),0,0,im,(Int.ofNat at_)⟩ z1 p1 (up s.r rd old told) (ap j) (am j) (fk (au Lim.h hj)<|fk (ac Lim.h q0)<|fk (aj Lim.h hj)<|fk (ac Lim.h q1)<|fk (kd H0)<|fk (kd H1)<|fk (bc Lim.h ht)<|fk (kc (bv Lim.h (m:=1) (r:=s.r) (i:=rd) (x:=old) (y:=told) hrd))<|aa) he)⟩
theorem Au(ht:bk [256,384,768] (Int.ofNat at_)=true)(he:He [((bne (Int.ofNat rd) 0),true),((BEq.beq (Int.ofNat rd) 0),false)]):bD w b c A s (an j) (Int.ofNat rd) 0 im (Int.ofNat at_) fz fp (aW (vr s) rd old):=by
 intro k u a7 a8 gh n t wd tw
 obtain⟨told,n0,t0,H0⟩:=hR gh (n+5) (t+24) (u 5) s.md.2
 obtain⟨z1,p1,n1,t1,ez,ep,H1⟩:=hW gh (n0+0) (t0+4) (u 5) (u 4) s.md.2
 exact⟨z1,p1,(up s.r rd old told),(.add n1 1995),n1+3,t1+8,ez,ep,fun i=>aO _ _ _ _ i,kE (chg_17 w b c (aI A a7 a8) s gh n t 40 (ar [n0,n1]) (ar [t0,t1]) (fun _ _=>0) wd old tw told 0 ⟨k,u,an j,(Int.ofNat rd),0,0,im,(Int.ofNat at_)⟩ z1 p1 (up s.r rd old told) (ap j) (am j) (fk (au Lim.h hj)<|fk (ac Lim.h q0)<|fk (aj Lim.h hj)<|fk (ac Lim.h q1)<|fk (kd H0)<|fk (kd H1)<|fk (bc Lim.h ht)<|fk (kc (bv Lim.h (m:=1) (r:=s.r) (i:=rd) (x:=old) (y:=told) hrd))<|aa) he)⟩
end
end
section
variable(q1:BEq.beq (am j).cps.toList [119]=false)(old:Int)(hR:bw w b c A s at_ s.md.1 old)
include q1 old hR
theorem r9(he:He [((bne (Int.ofNat rd) 0),false),((bne im 0),false)]):bD w b c A s (an j) (Int.ofNat rd) 0 im (Int.ofNat at_) (vz s) (vp s) (vr s):=by
 intro k u a7 a8 gh n t wd tw
 obtain⟨told,n0,t0,H0⟩:=hR gh (n+5) (t+25) (u 5) s.md.2
 exact⟨s.z,s.p,s.r,s.sp,n0+1,t0+5,fun _=>rfl,fun _=>rfl,fun _=>rfl,kE (chg_18 w b c (aI A a7 a8) s gh n t 40 (ar [n0]) (ar [t0]) (fun _ _=>0) wd old tw told 0 ⟨k,u,an j,(Int.ofNat rd),0,0,im,(Int.ofNat at_)⟩ s.z s.p s.r (ap j) (am j) (fk (au Lim.h hj)<|fk (ac Lim.h q0)<|fk (aj Lim.h hj)<|fk (ac Lim.h q1)<|fk (kd H0)<|aa) he)⟩
section
variable(q2:BEq.beq (am j).cps.toList [115]=true)(fz fp:Nat→Int)(hW:bz w b c A s at_ s.md.1 (Builtin.bitOr old im) fz fp)
include q2 fz fp hW
theorem A2(ht:bk [256,384,768] (Int.ofNat at_)=false)(he:He [((bne (Int.ofNat rd) 0),false),((bne im 0),true)]):bD w b c A s (an j) (Int.ofNat rd) 0 im (Int.ofNat at_) fz fp (vr s):=by
 intro k u a7 a8 gh n t wd tw
 obtain⟨told,n0,t0,H0⟩:=hR gh (n+5) (t+25) (u 5) s.md.2
 obtain⟨z1,p1,n1,t1,ez,ep,H1⟩:=hW gh (n0+0) (t0+8) (u 5) (.add t0 5619) s.md.2
 exact⟨z1,p1,s.r,s.sp,n1+1,t1+4,ez,ep,fun _=>rfl,kE (chg_19 w b c (aI A a7 a8) s gh n t 40 (ar [n0,n1]) (ar [t0,t1]) (fun _ _=>0) wd old tw told 0 ⟨k,u,an j,(Int.ofNat rd),0,0,im,(Int.ofNat at_)⟩ z1 p1 s.r (ap j) (am j) (fk (au Lim.h hj)<|fk (ac Lim.h q0)<|fk (aj Lim.h hj)<|fk (ac Lim.h q1)<|fk (kd H0)<|fk (aj Lim.h hj)<|fk (ac Lim.h q2)<|fk (kd H1)<|fk (bc Lim.h ht)<|aa) he)⟩
theorem AN(ht:bk [256,384,768] (Int.ofNat at_)=false)(he:He [((bne (Int.ofNat rd) 0),true),((bne im 0),true)]):bD w b c A s (an j) (Int.ofNat rd) 0 im (Int.ofNat at_) fz fp (aW (vr s) rd old):=by
 intro k u a7 a8 gh n t wd tw
 obtain⟨told,n0,t0,H0⟩:=hR gh (n+5) (t+25) (u 5) s.md.2
 obtain⟨z1,p1,n1,t1,ez,ep,H1⟩:=hW gh (n0+0) (t0+8) (u 5) (.add t0 5619) s.md.2
 exact⟨z1,p1,(up s.r rd old told),s.sp,n1+1,t1+5,ez,ep,fun i=>aO _ _ _ _ i,kE (chg_22 w b c (aI A a7 a8) s gh n t 40 (ar [n0,n1]) (ar [t0,t1]) (fun _ _=>0) wd old tw told 0 ⟨k,u,an j,(Int.ofNat rd),0,0,im,(Int.ofNat at_)⟩ z1 p1 (up s.r rd old told) (ap j) (am j) (fk (au Lim.h hj)<|fk (ac Lim.h q0)<|fk (aj Lim.h hj)<|fk (ac Lim.h q1)<|fk (kd H0)<|fk (aj Lim.h hj)<|fk (ac Lim.h q2)<|fk (kd H1)<|fk (bc Lim.h ht)<|fk (kc (bv Lim.h (m:=1) (r:=s.r) (i:=rd) (x:=old) (y:=told) hrd))<|aa) he)⟩
theorem BA(ht:bk [256,384,768] (Int.ofNat at_)=true)(he:He [((bne (Int.ofNat rd) 0),false),((bne im 0),true)]):bD w b c A s (an j) (Int.ofNat rd) 0 im (Int.ofNat at_) fz fp (vr s):=by
 intro k u a7 a8 gh n t wd tw
 obtain⟨told,n0,t0,H0⟩:=hR gh (n+5) (t+25) (u 5) s.md.2
 obtain⟨z1,p1,n1,t1,ez,ep,H1⟩:=hW gh (n0+0) (t0+8) (u 5) (.add t0 5619) s.md.2
 exact⟨z1,p1,s.r,(.add n1 1995),n1+3,t1+7,ez,ep,fun _=>rfl,kE (chg_20 w b c (aI A a7 a8) s gh n t 40 (ar [n0,n1]) (ar [t0,t1]) (fun _ _=>0) wd old tw told 0 ⟨k,u,an j,(Int.ofNat rd),0,0,im,(Int.ofNat at_)⟩ z1 p1 s.r (ap j) (am j) (fk (au Lim.h hj)<|fk (ac Lim.h q0)<|fk (aj Lim.h hj)<|fk (ac Lim.h q1)<|fk (kd H0)<|fk (aj Lim.h hj)<|fk (ac Lim.h q2)<|fk (kd H1)<|fk (bc Lim.h ht)<|aa) he)⟩
theorem BI(ht:bk [256,384,768] (Int.ofNat at_)=true)(he:He [((bne (Int.ofNat rd) 0),true),((bne im 0),true)]):bD w b c A s (an j) (Int.ofNat rd) 0 im (Int.ofNat at_) fz fp (aW (vr s) rd old):=by
 intro k u a7 a8 gh n t wd tw
 obtain⟨told,n0,t0,H0⟩:=hR gh (n+5) (t+25) (u 5) s.md.2
 obtain⟨z1,p1,n1,t1,ez,ep,H1⟩:=hW gh (n0+0) (t0+8) (u 5) (.add t0 5619) s.md.2
 exact⟨z1,p1,(up s.r rd old told),(.add n1 1995),n1+3,t1+8,ez,ep,fun i=>aO _ _ _ _ i,kE (chg_23 w b c (aI A a7 a8) s gh n t 40 (ar [n0,n1]) (ar [t0,t1]) (fun _ _=>0) wd old tw told 0 ⟨k,u,an j,(Int.ofNat rd),0,0,im,(Int.ofNat at_)⟩ z1 p1 (up s.r rd old told) (ap j) (am j) (fk (au Lim.h hj)<|fk (ac Lim.h q0)<|fk (aj Lim.h hj)<|fk (ac Lim.h q1)<|fk (kd H0)<|fk (aj Lim.h hj)<|fk (ac Lim.h q2)<|fk (kd H1)<|fk (bc Lim.h ht)<|fk (kc (bv Lim.h (m:=1) (r:=s.r) (i:=rd) (x:=old) (y:=told) hrd))<|aa) he)⟩
end
theorem rW(he:He [((bne (Int.ofNat rd) 0),true),((bne im 0),false)]):bD w b c A s (an j) (Int.ofNat rd) 0 im (Int.ofNat at_) (vz s) (vp s) (aW (vr s) rd old):=by
 intro k u a7 a8 gh n t wd tw
 obtain⟨told,n0,t0,H0⟩:=hR gh (n+5) (t+25) (u 5) s.md.2
 exact⟨s.z,s.p,(up s.r rd old told),s.sp,n0+1,t0+6,fun _=>rfl,fun _=>rfl,fun i=>aO _ _ _ _ i,kE (chg_21 w b c (aI A a7 a8) s gh n t 40 (ar [n0]) (ar [t0]) (fun _ _=>0) wd old tw told 0 ⟨k,u,an j,(Int.ofNat rd),0,0,im,(Int.ofNat at_)⟩ s.z s.p (up s.r rd old told) (ap j) (am j) (fk (au Lim.h hj)<|fk (ac Lim.h q0)<|fk (aj Lim.h hj)<|fk (ac Lim.h q1)<|fk (kd H0)<|fk (kc (bv Lim.h (m:=1) (r:=s.r) (i:=rd) (x:=old) (y:=told) hrd))<|aa) he)⟩
section
variable(q2:BEq.beq (am j).cps.toList [115]=false)(fz fp:Nat→Int)(hW:bz w b c A s at_ s.md.1 (Builtin.bitAnd old (Builtin.bitXor 4294967295 im)) fz fp)
include q2 fz fp hW
theorem AB(ht:bk [256,384,768] (Int.ofNat at_)=false)(he:He [((bne (Int.ofNat rd) 0),false),((bne im 0),true)]):bD w b c A s (an j) (Int.ofNat rd) 0 im (Int.ofNat at_) fz fp (vr s):=by
 intro k u a7 a8 gh n t wd tw
 obtain⟨told,n0,t0,H0⟩:=hR gh (n+5) (t+25) (u 5) s.md.2
 obtain⟨z1,p1,n1,t1,ez,ep,H1⟩:=hW gh (n0+0) (t0+9) (u 5) (.add t0 5620) s.md.2
 exact⟨z1,p1,s.r,s.sp,n1+1,t1+4,ez,ep,fun _=>rfl,kE (chg_24 w b c (aI A a7 a8) s gh n t 40 (ar [n0,n1]) (ar [t0,t1]) (fun _ _=>0) wd old tw told 0 ⟨k,u,an j,(Int.ofNat rd),0,0,im,(Int.ofNat at_)⟩ z1 p1 s.r (ap j) (am j) (fk (au Lim.h hj)<|fk (ac Lim.h q0)<|fk (aj Lim.h hj)<|fk (ac Lim.h q1)<|fk (kd H0)<|fk (aj Lim.h hj)<|fk (ac Lim.h q2)<|fk (kd H1)<|fk (bc Lim.h ht)<|aa) he)⟩
theorem BG(ht:bk [256,384,768] (Int.ofNat at_)=false)(he:He [((bne (Int.ofNat rd) 0),true),((bne im 0),true)]):bD w b c A s (an j) (Int.ofNat rd) 0 im (Int.ofNat at_) fz fp (aW (vr s) rd old):=by
 intro k u a7 a8 gh n t wd tw
 obtain⟨told,n0,t0,H0⟩:=hR gh (n+5) (t+25) (u 5) s.md.2
 obtain⟨z1,p1,n1,t1,ez,ep,H1⟩:=hW gh (n0+0) (t0+9) (u 5) (.add t0 5620) s.md.2
 exact⟨z1,p1,(up s.r rd old told),s.sp,n1+1,t1+5,ez,ep,fun i=>aO _ _ _ _ i,kE (chg_26 w b c (aI A a7 a8) s gh n t 40 (ar [n0,n1]) (ar [t0,t1]) (fun _ _=>0) wd old tw told 0 ⟨k,u,an j,(Int.ofNat rd),0,0,im,(Int.ofNat at_)⟩ z1 p1 (up s.r rd old told) (ap j) (am j) (fk (au Lim.h hj)<|fk (ac Lim.h q0)<|fk (aj Lim.h hj)<|fk (ac Lim.h q1)<|fk (kd H0)<|fk (aj Lim.h hj)<|fk (ac Lim.h q2)<|fk (kd H1)<|fk (bc Lim.h ht)<|fk (kc (bv Lim.h (m:=1) (r:=s.r) (i:=rd) (x:=old) (y:=told) hrd))<|aa) he)⟩
theorem AG(ht:bk [256,384,768] (Int.ofNat at_)=true)(he:He [((bne (Int.ofNat rd) 0),false),((bne im 0),true)]):bD w b c A s (an j) (Int.ofNat rd) 0 im (Int.ofNat at_) fz fp (vr s):=by
 intro k u a7 a8 gh n t wd tw
 obtain⟨told,n0,t0,H0⟩:=hR gh (n+5) (t+25) (u 5) s.md.2
 obtain⟨z1,p1,n1,t1,ez,ep,H1⟩:=hW gh (n0+0) (t0+9) (u 5) (.add t0 5620) s.md.2
 exact⟨z1,p1,s.r,(.add n1 1995),n1+3,t1+7,ez,ep,fun _=>rfl,kE (chg_25 w b c (aI A a7 a8) s gh n t 40 (ar [n0,n1]) (ar [t0,t1]) (fun _ _=>0) wd old tw told 0 ⟨k,u,an j,(Int.ofNat rd),0,0,im,(Int.ofNat at_)⟩ z1 p1 s.r (ap j) (am j) (fk (au Lim.h hj)<|fk (ac Lim.h q0)<|fk (aj Lim.h hj)<|fk (ac Lim.h q1)<|fk (kd H0)<|fk (aj Lim.h hj)<|fk (ac Lim.h q2)<|fk (kd H1)<|fk (bc Lim.h ht)<|aa) he)⟩
theorem Cp(ht:bk [256,384,768] (Int.ofNat at_)=true)(he:He [((bne (Int.ofNat rd) 0),true),((bne im 0),true)]):bD w b c A s (an j) (Int.ofNat rd) 0 im (Int.ofNat at_) fz fp (aW (vr s) rd old):=by
 intro k u a7 a8 gh n t wd tw
 obtain⟨told,n0,t0,H0⟩:=hR gh (n+5) (t+25) (u 5) s.md.2
 obtain⟨z1,p1,n1,t1,ez,ep,H1⟩:=hW gh (n0+0) (t0+9) (u 5) (.add t0 5620) s.md.2
 exact⟨z1,p1,(up s.r rd old told),(.add n1 1995),n1+3,t1+8,ez,ep,fun i=>aO _ _ _ _ i,kE (chg_27 w b c (aI A a7 a8) s gh n t 40 (ar [n0,n1]) (ar [t0,t1]) (fun _ _=>0) wd old tw told 0 ⟨k,u,an j,(Int.ofNat rd),0,0,im,(Int.ofNat at_)⟩ z1 p1 (up s.r rd old told) (ap j) (am j) (fk (au Lim.h hj)<|fk (ac Lim.h q0)<|fk (aj Lim.h hj)<|fk (ac Lim.h q1)<|fk (kd H0)<|fk (aj Lim.h hj)<|fk (ac Lim.h q2)<|fk (kd H1)<|fk (bc Lim.h ht)<|fk (kc (bv Lim.h (m:=1) (r:=s.r) (i:=rd) (x:=old) (y:=told) hrd))<|aa) he)⟩
end
end
end
end
end
theorem lH{p:Program}{w:World}{S:HT}{B:Nat}{C:Ctx→Prop}{cd:Code}{gh pre:List (Addr×Obj)}{n t t':Nat}{f:Flow}
  (H:∀Γ P h gs d os,Runs (model p w) Γ P ((model p w).den cd) [] ⟨h,gs,d,t,os⟩ (.ret (.ok f)) ⟨h,gs,d,t',os⟩):
  TriC (model p w) S B C cd gh pre n t (.ok f) gh pre n t':=by
 intro nd lo big Γ P h gs d os hΓ hL hn hs hp hgh
 exact⟨h,H Γ P h gs d os,hn,Nat.le_refl _,rfl,nd,fun x hx=>⟨.inl (List.mem_map.mpr ⟨x,hx,rfl⟩),hp x hx⟩,fun _ _ _ o ho=>ho,fun x hx=>⟨(hgh x hx).1,(hgh x hx).2,.inl (List.mem_map.mpr ⟨x,hx,rfl⟩)⟩⟩
def dg(m:Nat):List Nat:=(Nat.toDigits 16 m).map fun c=>(if (120:Nat)==88 then c.toUpper else c).toNat
def dsX(l:List Nat):List Nat:=if l.isEmpty=true then [] else List.replicate ((0:Int).toNat-l.length) 48++l
def Er(m:Nat):Str:=⟨(List.replicate ((-1:Int)-((([]:List Nat).length:Int)+(([]:List Nat).length:Int)+(([]:List Nat).length:Int))-((dsX (dg m)).length:Int)).toNat 32++[]++[]++List.replicate 0 32++dsX (dg m)++[]++List.replicate 0 32).toArray⟩
theorem Jx(m tn ti:Nat):Builtin.«int.__format__» ⟨[.int (Int.ofNat m) tn,.str mN ti],[]⟩=(retStr (Er m):Sem PySem.Fin):=by kernel_rfl
theorem ret8(a0 a1 a2 a3 a4 a5 a6 a7:Nat):(retStr ⟨⟨[a0,a1,a2,a3,a4,a5,a6,a7]⟩⟩:Sem PySem.Fin)=.fresh fun t=>.pure (.done (.ret (.str ⟨⟨[a0,a1,a2,a3,a4,a5,a6,a7]⟩⟩ t))):=by kernel_rfl
theorem dgs8{m:Nat}(h1:2^28≤m)(h2:m<2^32):∃a0 a1 a2 a3 a4 a5 a6 a7,dg m=[a0,a1,a2,a3,a4,a5,a6,a7]:=by
 have key:∃c0 c1 c2 c3 c4 c5 c6 c7,Nat.toDigits 16 m=[c0,c1,c2,c3,c4,c5,c6,c7]:=by
  unfold Nat.toDigits
  obtain⟨f,hf⟩:∃f,m+1=f+8:=⟨m-7,by omega⟩
  rw[hf]
  simp only[Nat.toDigitsCore]
  rw[if_neg (by omega),if_neg (by omega),if_neg (by omega),if_neg (by omega),if_neg (by omega),if_neg (by omega),if_neg (by omega),if_pos (by omega)]
  exact⟨_,_,_,_,_,_,_,_,rfl⟩
 obtain⟨c0,c1,c2,c3,c4,c5,c6,c7,e⟩:=key
 exact⟨_,_,_,_,_,_,_,_,by unfold dg;rw[e];rfl⟩
def cN(l:List Nat)(i:Nat):Nat:=l.getD i 0
theorem cT{w:World}{b c:Bool}{S:HT}{B:Nat}{C:Ctx→Prop}{gh:List (Addr×Obj)}{n t tn ti m:Nat}(h1:2^28≤m)(h2:m<2^32):
  TriC (MM w b c) S B C (.builtin "int.__format__" ⟨[.int (Int.ofNat m) tn,.str mN ti],[]⟩) gh [] n t (.ok (.ret (.str ⟨⟨[cN (dg m) 0,cN (dg m) 1,cN (dg m) 2,cN (dg m) 3,cN (dg m) 4,cN (dg m) 5,cN (dg m) 6,cN (dg m) 7]⟩⟩ t))) gh [] n (t+1):=by
 obtain⟨a0,a1,a2,a3,a4,a5,a6,a7,e⟩:=dgs8 h1 h2
 refine lH fun Γ P h gs d os=>?_
 have z:Er m=⟨⟨[a0,a1,a2,a3,a4,a5,a6,a7]⟩⟩:=by
  unfold Er;rw[e];rfl
 rw[cM F.entry_int_format,Jx,z,ret8,e]
 exact .fresh .done
section
variable(w:World)(b c:Bool)(A:AS)(s:BS)
include w b c A s
section
variable(i:Nat)(m:Int)
include i m
theorem xZ(hp:i∈plainL)(he:He (rY i m)):eP w b c A s i m:=by
 rintro ti tm ⟨it,c1,c2,c3,fe,fm,q,sl⟩ f gh n t hs
 obtain⟨y,rfl⟩:=okB hs
 obtain⟨PL,h⟩:=Ja w b c (aR A f) s gh n t 0 i ti tm 0 it c1 c2 c3 m 0 fe fm q y (fk (fW Lim.h bN hp)<|aa) he
 exact⟨Nat.add n 2002,Nat.add n 1994,n+5,n+9,n+11,n+12,t+40,(.ref (.add n 2004)),PL,by omega,kF (TriC.sub h kW)⟩
section
variable(hp:i∉plainL)
include hp
theorem zr(he:He [((decide (LT.lt m (Builtin.bitAnd (ay (Int.ofNat i) 8) 3))),true)]):eP w b c A s i m:=by
 rintro ti tm ⟨it,c1,c2,c3,fe,fm,q,sl⟩ f gh n t hs
 obtain⟨y,rfl⟩:=okB hs
 obtain⟨PL,h⟩:=IN w b c (aR A f) s gh n t 0 i ti tm 0 it c1 c2 c3 m 0 fe fm q y (fk (ax Lim.h bN hp)<|aa) he
 exact⟨Nat.add n 2001,Nat.add n 1994,n+4,n+8,n+10,n+11,t+35,(.ref (.add n 2003)),PL,by omega,kF (TriC.sub h kW)⟩
theorem xR(hn:oB (PP w b c) (Int.ofNat i)=false)(he:He [((decide (LT.lt m (Builtin.bitAnd (ay (Int.ofNat i) 8) 3))),false)]):eP w b c A s i m:=by
 rintro ti tm ⟨it,c1,c2,c3,fe,fm,q,sl⟩ f gh n t hs
 obtain⟨y,rfl⟩:=okB hs
 obtain⟨PL,h⟩:=IH w b c (aR A f) s gh n t 0 i ti tm 0 it c1 c2 c3 m 0 fe fm q y (fk (ax Lim.h bN hp)<|fk (aD Lim.h hn)<|aa) he
 exact⟨Nat.add n 2001,Nat.add n 1994,n+4,n+8,n+10,n+11,t+36,(.ref (.add n 2003)),PL,by omega,kF (TriC.sub h kW)⟩
theorem f5(hn:oB (PP w b c) (Int.ofNat i)=true)(he:He [((BEq.beq (Builtin.bitAnd (ay (s.p 774).1 (Builtin.bitAnd (Int.ofNat i) 3)) 1) 0),true),((iI (Builtin.bitAnd (Int.ofNat i) 3)),false),((BEq.beq m 1),true),((decide (LT.lt m 3)),true),((BEq.beq (ay (Int.ofNat i) 8) 12),true),((decide (LT.lt m (Builtin.bitAnd (ay (Int.ofNat i) 8) 3))),false)]):eP w b c A s i m:=by
 rintro ti tm ⟨it,c1,c2,c3,fe,fm,q,sl⟩ f gh n t hs
 obtain⟨y,rfl⟩:=okB hs
 obtain⟨PL,h⟩:=IF w b c (aR A f) s gh n t 0 i ti tm 0 it c1 c2 c3 m 0 fe fm q y (fk (ax Lim.h bN hp)<|fk (aD Lim.h hn)<|fk (cC Lim.h (i:=774) (by decide))<|aa) he
 exact⟨Nat.add n 2001,Nat.add n 1994,n+4,n+8,n+10,n+11,t+49,(.ref (.add n 2003)),PL,by omega,kF (TriC.sub h kW)⟩
theorem f9(hn:oB (PP w b c) (Int.ofNat i)=true)(he:He (sn s i m)):eP w b c A s i m:=by
 rintro ti tm ⟨it,c1,c2,c3,fe,fm,q,sl⟩ f gh n t hs
 obtain⟨y,rfl⟩:=okB hs
 obtain⟨PL,h⟩:=HN w b c (aR A f) s gh n t 0 i ti tm 0 it c1 c2 c3 m 0 fe fm q y (fk (ax Lim.h bN hp)<|fk (aD Lim.h hn)<|fk (cC Lim.h (i:=774) (by decide))<|fk (cC Lim.h (i:=262) (by decide))<|aa) he
 exact⟨Nat.add n 2001,Nat.add n 1994,n+4,n+8,n+10,n+11,t+53,(.ref (.add n 2003)),PL,by omega,kF (TriC.sub h kW)⟩
end
section
variable(v:Int)
include v
theorem wD(he:He [((decide (LT.lt m (Builtin.bitAnd (ay (Int.ofNat i) 8) 3))),true)]):cL w b c A s i m v:=by
 rintro ti tv tm ⟨it,c1,c2,c3,fe,fm,q,sl⟩ f gh n t hs
 obtain⟨y,rfl⟩:=okB hs
 obtain⟨PL,h⟩:=DV w b c (aR A f) s gh n t 0 i ti tm tv it c1 c2 c3 m v fe fm q y he
 exact⟨Nat.add n 2001,Nat.add n 1994,n+4,n+8,n+10,n+11,t+34,(.ref (.add n 2003)),PL,by omega,kF (TriC.sub h kW)⟩
theorem wi(hn:oB (PP w b c) (Int.ofNat i)=false)(he:He [((decide (LT.lt m (Builtin.bitAnd (ay (Int.ofNat i) 8) 3))),false)]):cL w b c A s i m v:=by
 rintro ti tv tm ⟨it,c1,c2,c3,fe,fm,q,sl⟩ f gh n t hs
 obtain⟨y,rfl⟩:=okB hs
 obtain⟨PL,h⟩:=Eu w b c (aR A f) s gh n t 0 i ti tm tv it c1 c2 c3 m v fe fm q y (fk (aD Lim.h hn)<|aa) he
 exact⟨Nat.add n 2001,Nat.add n 1994,n+4,n+8,n+10,n+11,t+35,(.ref (.add n 2003)),PL,by omega,kF (TriC.sub h kW)⟩
section
variable(hn:oB (PP w b c) (Int.ofNat i)=true)
include hn
theorem fB(he:He [((BEq.beq (Builtin.bitAnd (ay (s.p 774).1 (Builtin.bitAnd (Int.ofNat i) 3)) 1) 0),true),((iI (Builtin.bitAnd (Int.ofNat i) 3)),false),((BEq.beq m 1),true),((decide (LT.lt m 3)),true),((BEq.beq (ay (Int.ofNat i) 8) 12),true),((decide (LT.lt m (Builtin.bitAnd (ay (Int.ofNat i) 8) 3))),false)]):cL w b c A s i m v:=by
 rintro ti tv tm ⟨it,c1,c2,c3,fe,fm,q,sl⟩ f gh n t hs
 obtain⟨y,rfl⟩:=okB hs
 obtain⟨PL,h⟩:=Es w b c (aR A f) s gh n t 0 i ti tm tv it c1 c2 c3 m v fe fm q y (fk (aD Lim.h hn)<|fk (cC Lim.h (i:=774) (by decide))<|aa) he
 exact⟨Nat.add n 2001,Nat.add n 1994,n+4,n+8,n+10,n+11,t+48,(.ref (.add n 2003)),PL,by omega,kF (TriC.sub h kW)⟩
theorem fu(he:He (pN s i m)):cL w b c A s i m v:=by
 rintro ti tv tm ⟨it,c1,c2,c3,fe,fm,q,sl⟩ f gh n t hs
 obtain⟨y,rfl⟩:=okB hs
 obtain⟨PL,h⟩:=CL w b c (aR A f) s gh n t 0 i ti tm tv it c1 c2 c3 m v fe fm q y (fk (aD Lim.h hn)<|fk (cC Lim.h (i:=774) (by decide))<|fk (cC Lim.h (i:=262) (by decide))<|aa) he
 exact⟨Nat.add n 2001,Nat.add n 1994,n+4,n+8,n+10,n+11,t+52,(.ref (.add n 2003)),PL,by omega,kF (TriC.sub h kW)⟩
theorem wm(he:He [((BEq.beq (Builtin.bitAnd (ay (Int.ofNat i) 10) 3) 3),true),((BEq.beq (ay (Int.ofNat i) 8) 12),false),((decide (LT.lt m (Builtin.bitAnd (ay (Int.ofNat i) 8) 3))),false)]):cL w b c A s i m v:=by
 rintro ti tv tm ⟨it,c1,c2,c3,fe,fm,q,sl⟩ f gh n t hs
 obtain⟨y,rfl⟩:=okB hs
 obtain⟨PL,h⟩:=E1 w b c (aR A f) s gh n t 0 i ti tm tv it c1 c2 c3 m v fe fm q y (fk (aD Lim.h hn)<|aa) he
 exact⟨Nat.add n 2002,Nat.add n 1994,n+5,n+9,n+10,n+11,t+44,.none,PL,by omega,kF (TriC.sub h kW)⟩
theorem wo(he:He (pS i m)):cL w b c A s i m v:=by
 rintro ti tv tm ⟨it,c1,c2,c3,fe,fm,q,sl⟩ f gh n t hs
 obtain⟨y,rfl⟩:=okB hs
 obtain⟨PL,h⟩:=DT w b c (aR A f) s gh n t 0 i ti tm tv it c1 c2 c3 m v fe fm q y (fk (aD Lim.h hn)<|aa) he
 exact⟨Nat.add n 2002,Nat.add n 1994,n+5,n+9,n+10,n+11,t+44,.none,PL,by omega,kF (TriC.sub h kW)⟩
theorem fw(he:He (pM s i m)):cL w b c A s i m v:=by
 rintro ti tv tm ⟨it,c1,c2,c3,fe,fm,q,sl⟩ f gh n t hs
 obtain⟨y,rfl⟩:=okB hs
 obtain⟨PL,h⟩:=CH w b c (aR A f) s gh n t 0 i ti tm tv it c1 c2 c3 m v fe fm q y (fk (aD Lim.h hn)<|fk (cC Lim.h (i:=774) (by decide))<|aa) he
 exact⟨Nat.add n 2002,Nat.add n 1994,n+5,n+9,n+10,n+11,t+54,.none,PL,by omega,kF (TriC.sub h kW)⟩
theorem fg(he:He (po s i m)):cL w b c A s i m v:=by
 rintro ti tv tm ⟨it,c1,c2,c3,fe,fm,q,sl⟩ f gh n t hs
 obtain⟨y,rfl⟩:=okB hs
 obtain⟨PL,h⟩:=D0 w b c (aR A f) s gh n t 0 i ti tm tv it c1 c2 c3 m v fe fm q y (fk (aD Lim.h hn)<|fk (cC Lim.h (i:=774) (by decide))<|fk (cC Lim.h (i:=262) (by decide))<|aa) he
 exact⟨Nat.add n 2002,Nat.add n 1994,n+5,n+9,n+10,n+11,t+58,.none,PL,by omega,kF (TriC.sub h kW)⟩
end
end
end
end
noncomputable def kp:List Nat:=[14,14,2001002,0,1500,20,22,22,22,14,20,20,20,23,23,0,9000020,20,23,23,1009000,14,1025000,25,0,25,1007000,1006026,2000026,26,26,3900,0,0,0,0,1004027,0,0,0,27,27,25,0,25,0,25,25,25,27,27,25,0,0,9000025,25,0,25,0,0,9000025,25,29,29,29,26,26,25,0,0,9000025,25,0,25,0,0,9000025,29,29,29,26,26,25,0,0,9000025,25,0,25,0,0,9000025,29,29,29,25,25,0,1006025,0,25,1,20,9025014,25,25,25,30,30,25]
noncomputable def hcr_1:List Nat:=[2001002,6003004,14,14,14,2001002,0,1500,21,23,23,23,14,21,21,21,24,24,0,9000021,21,24,24,1009000,14,1025000,26,0,26,1007000,1006027,2000027,27,27,3900,0,0,0,0,1004028,0,0,0,28,28,26,0,26,0,26,26,26,28,28,26,0,0,9000026,26,0,26,0,0,9000026,26,30,30,30,27,27,26,0,0,9000026,26,0,26,0,0,9000026,30,30,30,27,27,26,0,0,9000026,26,0,26,0,0,9000026,30,30,30,26,26,0,1006026,0,26,1,21,9026014,26,26,26]
noncomputable def FY:List Nat:=[1006014,0,14,2008013,14,2008013,14,2008013,3015016,16,9016015,16,18,1007014,7001,3002]
noncomputable def mf:List Nat:=[0]++FY++[1004014,2001002,14,2008013,6,6,6,6,1003,14,14,14,3004,3005]
noncomputable def lN:List Nat:=[0,0]++FY++[1004014,2008013,14,14,14,3003,3004]
noncomputable def nD:List Nat:=[1005014,2008013,1,1004014,2001002,6003004]
noncomputable def ny:List Nat:=hcr_1++[31,31,26,31,26,31,31]
section
variable(w:World)(b c:Bool)(A:AS)(s:BS)(gh:List (Addr×Obj))(n t L:Nat)(nn tt:Nat→Nat)(vv:Nat→Nat→Nat)(wd old xf2:Int)(tw told j it c1 c2 c3 xa xf:Nat)(I:IS)(xt:Value)(pl:Nat→Value)(hx:Nat→Nat)(fe:Nat→Array DictEntry)(fm:Nat→Nat)(q:Nat→PySem.Pos)(sl:Array (Option Value))(lc fc:Str)
def Aa:DictEntry:=ag w b c ku (.add t 5615) (rA A 0)
def zz:DictEntry:=ag w b c kK (.add t 5616) (rA A 7)
def yU:DictEntry:=ag w b c kD (.add t 5617) (.int wd tw)
def xP:DictEntry:=ag w b c gK (.add t 5621) (.int I.rd (I.t 1))
def gJ:Value:=.int I.cs (I.t 5)
def yJ:DictEntry:=ag w b c dj (.add t 5623) (.str I.nm (I.t 0))
def jQ(Y0:Value)(Y1:Nat)(Y2:Value)(Y3:Nat)(Y4:Value)(Y5 Y6:Nat)(Y7:Value):List (DictEntry):=[Aa w b c A t,zz w b c A t,yU w b c t wd tw,xP w b c t I,ag w b c vn (.add t 5622) (gJ I),yJ w b c t I,ag w b c zG (.add t 5628) Y0,ag w b c yN (.add t Y1) Y2,ag w b c yo (.add t Y3) Y4,ag w b c zQ (.add t Y5) (.bool true),ag w b c Ew (.add (tt 0) 5615) (.int old told),ag w b c oV (.add (tt 0) Y6) Y7]
def yT(Y0:Value)(Y1:Nat)(Y2:Value)(Y3:Nat)(Y4:Value)(Y5:Nat)(Y6:Value):List (DictEntry):=[Aa w b c A t,zz w b c A t,yU w b c t wd tw,xP w b c t I,ag w b c vn (.add t 5622) (gJ I),yJ w b c t I,ag w b c zG (.add t 5628) Y0,ag w b c yN (.add t Y1) Y2,ag w b c yo (.add t Y3) Y4,ag w b c zQ (.add t Y5) Y6]
def y8(Y0:Value)(Y1:Nat)(Y2:Value)(Y3 Y4 Y5:Nat)(Y6:Value)(Y7:Nat):List (DictEntry):=[Aa w b c A t,zz w b c A t,yU w b c t wd tw,xP w b c t I,ag w b c vn (.add t 5622) (gJ I),yJ w b c t I,ag w b c zG (.add t 5628) Y0,ag w b c yN (.add t Y1) Y2,ag w b c yo (.add t Y3) (.bool true),ag w b c zQ (.add t Y4) (.bool true),ag w b c Ew (.add t Y5) Y6,ag w b c oV (.add t Y7) Y2]
def jm:Value:=.int s.md.1 s.md.2
def qj:Code:=cR 1428 [(rA A 2),(gJ I),(jm s)]
def f7:Value:=.int I.im (I.t 4)
def cE(Y0 Y1:Nat):Nat×Obj:=(Y0,bC (fe Y1) (fm Y1) #[])
def iA:Nat×Obj:=(11,bC (fe 4) (fm 4) sl)
def GZ(Y0:Bool)(Y1:Nat)(Y2:Bool):List (Nat×Obj):=al w b c A s++[(13,⟨(.type "frame"),none,(.dict ⟨yT w b c A t wd tw I (.bool true) 5630 (f7 I) 5634 (.bool Y0) Y1 (.bool Y2)⟩ 10),#[]⟩),cE fe fm 8 1,cE fe fm 9 2,cE fe fm 10 3,iA fe fm sl]
def iz(Y0 Y1:Nat):Nat:=Nat.add (vv Y0 Y1) 1994
def i6(Y0:Nat):Result:=.error (.ref (iz vv Y0 0))
def cF(Y0 Y1 Y2 Y3 Y4:Nat):Nat×Obj:=(Y0,bC (fe Y1) (fm Y1) (cI Y2 Y3 (rA A Y4)))
def il:Nat×Obj:=(11,bC (fe 4) (fm 4) (dD c1 c2 c3))
def kB(Y0 Y1:Nat):Nat×Obj:=(Y0,exO xa (iz vv Y1 1) (iz vv Y1 2))
def Fd(Y0:Bool)(Y1:Nat)(Y2:Bool):List (Nat×Obj):=al w b c A s++[(13,⟨(.type "frame"),none,(.dict ⟨yT w b c A t wd tw I (.bool true) 5630 (f7 I) 5634 (.bool Y0) Y1 (.bool Y2)⟩ 10),(cI 1897 1898 (rA A 8))⟩),cF A fe fm 8 1 1890 1891 9,cF A fe fm 9 2 1876 1877 10,cF A fe fm 10 3 1987 1988 11,il c1 c2 c3 fe fm,kB vv xa 19 0,(21,iN xt xf .none pl)]
def ecr3(Y0:Bool):Call:=⟨qj A s I,18,25,(GZ w b c A s t wd tw I fe fm sl false 5637 Y0),i6 vv 0,22,26,(Fd w b c A s t vv wd tw c1 c2 c3 xa xf I xt pl fe fm false 5637 Y0)⟩
def FU(Y0:Bool)(Y1:Nat)(Y2:Bool):List (Nat×Obj):=al w b c A s++[(13,⟨(.type "frame"),none,(.dict ⟨yT w b c A t wd tw I (.bool false) 5631 (bo s j) 5635 (.bool Y0) Y1 (.bool Y2)⟩ 10),#[]⟩),cE fe fm 8 1,cE fe fm 9 2,cE fe fm 10 3,iA fe fm sl]
def HG(Y0:Bool)(Y1:Nat)(Y2:Bool):List (Nat×Obj):=al w b c A s++[(13,⟨(.type "frame"),none,(.dict ⟨yT w b c A t wd tw I (.bool false) 5631 (bo s j) 5635 (.bool Y0) Y1 (.bool Y2)⟩ 10),(cI 1897 1898 (rA A 8))⟩),cF A fe fm 8 1 1890 1891 9,cF A fe fm 9 2 1876 1877 10,cF A fe fm 10 3 1987 1988 11,il c1 c2 c3 fe fm,kB vv xa 19 0,(21,iN xt xf .none pl)]
def ecr4(Y0:Bool):Call:=⟨qj A s I,18,26,(FU w b c A s t wd tw j I fe fm sl false 5638 Y0),i6 vv 0,22,27,(HG w b c A s t vv wd tw j c1 c2 c3 xa xf I xt pl fe fm false 5638 Y0)⟩
def iy(Y0:Nat):Result:=.error (.ref (.add (nn Y0) 1996))
def et(Y0:Nat):Nat:=Nat.add (A.a Y0) 1994
def yA:Value:=.int (Builtin.bitAnd old (Builtin.bitXor 4294967295 (s.r j).1)) (.add (tt 0) 5620)
def zC:Value:=.int (Builtin.bitAnd old (Builtin.bitXor 4294967295 I.im)) (.add (tt 0) 5620)
def GL:Code:=us 144 12 KJ15 1898 1897 (.add n 1994)
def FQ:Code:=cB "str.__eq__" [(.str fc (.add (tt 0) 5617)),(.str fD (.add (tt 0) 5618))]
def yy:Value:=.int (Builtin.bitOr old (s.r j).1) (.add (tt 0) 5619)
def Hh:List (DictEntry):=jQ w b c A t tt wd old tw told I (.bool true) 5630 (f7 I) 5634 (.bool false) 5637 5620 (.int (Builtin.bitOr old I.im) (.add (tt 0) 5619))
def Gh:Code:=cB "str.__eq__" [(.str lc (.add t 5626)),(.str mM (.add t 5627))]
def ki:List (Nat×Nat):=[(22,Nat.add (nn 0) 1994),(21,iz vv 0 2),(20,iz vv 0 1),(19,iz vv 0 0),(13,Nat.add n 1994)]
def kh(x0:Nat):List (Nat×Nat):=[(x0,Nat.add (tt 0) 5615),(0,Nat.add t 5615)]
def fJ:Call:=cS (cB "str.__getitem__" [(.str I.nm (I.t 0)),(.int (Neg.neg 1) (.add t 5625))]) 18 11 [] (rV (.str lc (.add t 5626))) 18 12
def lV:Call:=cS (Gh t lc) 18 13 [] (rV (.bool false)) 18 13
def lL:Call:=cS (cB "list.__getitem__" [(rA A 5),(.int I.rs1 (I.t 2))]) 18 16 [(5,d5 (PP w b c) A s)] (rV (bo s j)) 18 16
def fG(x0 x1 x2 x3:Nat):Call:=cS (cB "str.__getitem__" [(.str I.nm (I.t 0)),(.int 4 (.add t x0))]) 18 x1 [] (rV (.str fc (.add t x2))) 18 x3
def oq(x0 x1 x2:Nat):Call:=cS (cB "str.__eq__" [(.str fc (.add t x0)),(.str el (.add t x1))]) 18 x2 [] (rV (.bool true)) 18 x2
def oj:List (List (Code×PySem.Pos)):=[((GL n,⟨769,52,769,85⟩)::AK it (et A 8) (et A 9) (et A 10) (et A 11) c1 c2 c3 q)]
def fL(x0 x1 x2 x3:Nat):Call:=cS (cB "int.__format__" [(.int wd tw),(.str mN (.add (tt x0) 5625))]) x1 x2 [] (rV (.str ⟨⟨[hx 0,hx 1,hx 2,hx 3,hx 4,hx 5,hx 6,hx 7]⟩⟩ (.add (tt x0) 5626))) x1 x3
def fF(x0:Nat):Bool:=(bne (Value.ref (iz vv x0 0)) (Value.ref (.add (nn x0) 1996)))
def dU:List (Code×PySem.Pos):=(AK it (et A 8) (et A 9) (et A 10) (et A 11) c1 c2 c3 q)
def ef:Code:=(cR 1898 [.ref (et A 0),.ref (et A 7),.int wd tw])
def eg:List (Nat×Obj):=(al w b c A s++[(7,iO 121 (et A 12)),cE fe fm 8 1,cE fe fm 9 2,cE fe fm 10 3,iA fe fm sl,(12,iD (PP w b c) I)])
def ed(PL:Nat→Value)(x0 x1 x2 x3:Nat):List (Nat×Obj):=(al w b c A s++[(7,iO 121 (et A 12)),cF A fe fm 8 1 1890 1891 9,cF A fe fm 9 2 1876 1877 10,cF A fe fm 10 3 1987 1988 11,il c1 c2 c3 fe fm,(12,iD (PP w b c) I),(x0,⟨(.ref 91),(some (.add (nn x1) 2000)),(.fields ⟨[(.ref (.add (nn x1) 1999)),(.ref (.add (nn x1) 2001)),(.ref (iz vv x1 0)),.none,(.bool true),.none]⟩),#[]⟩),(x2,dO [ag w b c F0 (.add (tt x1) 5632) (.str ⟨⟨[116,114,97,112,32,50,32,119,105,116,104,32,(hx 0),(hx 1),(hx 2),(hx 3),(hx 4),(hx 5),(hx 6),(hx 7)]⟩⟩ (.add (tt x1) 5627)),ag w b c yj (.add (tt x1) 5634) (.int 2 281),ag w b c oV (.add (tt x1) 5636) (.int wd tw)] 3),(x3,iN .none (.add n 1994) .none PL)])
def iV(x0 x1 x2:Nat):Call:=cS (cB "str.__eq__" [(.str fc (.add t x0)),(.str el (.add t x1))]) 18 x2 [] (rV (.bool false)) 18 x2
def iL:List (List (Code×PySem.Pos)):=[((GL n,⟨772,16,772,57⟩)::AK it (et A 8) (et A 9) (et A 10) (et A 11) c1 c2 c3 q)]
def lf:List (Nat×Nat):=[(23,Nat.add (nn 1) 1994),(22,iz vv 1 2),(21,iz vv 1 1),(20,iz vv 1 0),(19,Nat.add (nn 0) 1994),(13,Nat.add n 1994)]
def k7(x0 x1:Nat):List (Nat×Nat):=[(x0,Nat.add (tt 1) 5615),(x1,Nat.add (tt 0) 5615),(0,Nat.add t 5615)]
def kN(x0 x1:Nat):Call:=cS (qj A s I) 18 x0 (al w b c A s) (rV (.int old told)) 19 x1
def p5(x0 x1:Nat):Call:=cS (cB "str.__getitem__" [(.str I.nm (I.t 0)),(.int 4 (.add (tt 0) 5616))]) 19 x0 [] (rV (.str fc (.add (tt 0) 5617))) 19 x1
def Bw(x0:Nat):Call:=cS (FQ tt fc) 19 x0 [] (rV (.bool true)) 19 x0
def Bs(x0:Nat):Call:=cS (FQ tt fc) 19 x0 [] (rV (.bool false)) 19 x0
def jY:Call:=cS (Gh t lc) 18 13 [] (rV (.bool true)) 18 13
include w b c A s gh n t L nn tt vv wd old xf2 tw told j it c1 c2 c3 xa xf I xt pl hx fe fm q sl lc fc
theorem chgR_0:c9 w b c A gh L 40 (ki n nn vv) (kh t tt 26) [fJ t I lc,lV t lc,lL w b c A s j I,fG t I fc 5632 18 5633 19,oq t fc 5633 5634 20] [⟨qj A s I,18,25,(FU w b c A s t wd tw j I fe fm sl true 5636 true),i6 vv 0,22,26,(HG w b c A s t vv wd tw j c1 c2 c3 xa xf I xt pl fe fm true 5636 true)⟩] (oj A n it c1 c2 c3 q) [fL tt wd tw hx 0 26 37 38] [(fF nn vv 0,true),((BEq.beq I.rd 0),false)] (dU A it c1 c2 c3 q) (ef A wd tw) 13 (eg w b c A s I fe fm sl) (iy nn 0) 30 (fun PL=>ed w b c A s n nn tt vv wd tw c1 c2 c3 I hx fe fm PL 24 0 28 29) 48:=cU (hm ([0]++mf++[1007014,2,14,2001002,6003004]++kp++[30,25,30,30])) 29
theorem chgR_1:c9 w b c A gh L 40 (ki n nn vv) (kh t tt 27) [fJ t I lc,lV t lc,lL w b c A s j I,fG t I fc 5632 18 5633 19,iV t fc 5633 5634 20] [ecr4 w b c A s t vv wd tw j c1 c2 c3 xa xf I xt pl fe fm sl true] (oj A n it c1 c2 c3 q) [fL tt wd tw hx 0 26 38 39] [(fF nn vv 0,true),((bne I.rs1 0),true)] (dU A it c1 c2 c3 q) (ef A wd tw) 13 (eg w b c A s I fe fm sl) (iy nn 0) 30 (fun PL=>ed w b c A s n nn tt vv wd tw c1 c2 c3 I hx fe fm PL 24 0 28 29) 49:=cU (hm ([0]++mf++nD++kp++[30,25,30,30])) 29
theorem chgR_2:c9 w b c A gh L 40 (ki n nn vv) (kh t tt 27) [fJ t I lc,lV t lc,lL w b c A s j I,fG t I fc 5632 18 5633 19,iV t fc 5633 5634 20] [ecr4 w b c A s t vv wd tw j c1 c2 c3 xa xf I xt pl fe fm sl false] (oj A n it c1 c2 c3 q) [fL tt wd tw hx 0 26 38 39] [(fF nn vv 0,true),((bne I.rs1 0),false)] (dU A it c1 c2 c3 q) (ef A wd tw) 13 (eg w b c A s I fe fm sl) (iy nn 0) 30 (fun PL=>ed w b c A s n nn tt vv wd tw c1 c2 c3 I hx fe fm PL 24 0 28 29) 49:=cU (hm ([0]++mf++[1005014,2008013,2,1004014,2001002,6003004]++kp++[30,25,30,30])) 29
theorem chgR_3:c9 w b c A gh L 40 (ki n nn vv) (kh t tt 29) [fJ t I lc,lV t lc,lL w b c A s j I,fG t I fc 5632 18 5633 19,oq t fc 5633 5634 20] [⟨cR 1450 [(rA A 2),(gJ I),(bo s j),(jm s)],18,28,(al w b c A s++[(13,⟨(.type "frame"),none,(.dict ⟨y8 w b c A t wd tw I (.bool false) 5631 (bo s j) 5635 5636 5639 (.int 0 (.add t 5638)) 5640⟩ 12),#[]⟩),cE fe fm 8 1,cE fe fm 9 2,cE fe fm 10 3,iA fe fm sl]),i6 vv 0,22,29,(al w b c A s++[(13,⟨(.type "frame"),none,(.dict ⟨y8 w b c A t wd tw I (.bool false) 5631 (bo s j) 5635 5636 5639 (.int 0 (.add t 5638)) 5640⟩ 12),(cI 1897 1898 (rA A 8))⟩),cF A fe fm 8 1 1890 1891 9,cF A fe fm 9 2 1876 1877 10,cF A fe fm 10 3 1987 1988 11,il c1 c2 c3 fe fm,kB vv xa 19 0,(21,iN xt xf .none pl)])⟩] (iL A n it c1 c2 c3 q) [fL tt wd tw hx 0 26 40 41] [(fF nn vv 0,true),((BEq.beq I.rd 0),true)] (dU A it c1 c2 c3 q) (ef A wd tw) 13 (eg w b c A s I fe fm sl) (iy nn 0) 30 (fun PL=>ed w b c A s n nn tt vv wd tw c1 c2 c3 I hx fe fm PL 24 0 28 29) 51:=cU (hm ([0]++mf++[1007014,1,1008014,2001002,6003004,14]++kp++[30,25,30,30])) 29
theorem chgR_4:c9 w b c A gh L 40 (lf n nn vv) (k7 t tt 31 26) [fJ t I lc,lV t lc,lL w b c A s j I,fG t I fc 5632 18 5633 19,oq t fc 5633 5634 20,kN w b c A s old told I 25 26] [⟨cR 1450 [(rA A 2),(gJ I),(bo s j),(jm s)],19,30,(al w b c A s++[(13,⟨(.type "frame"),none,(.dict ⟨jQ w b c A t tt wd old tw told I (.bool false) 5631 (bo s j) 5635 (.bool true) 5636 5616 (bo s j)⟩ 12),#[]⟩),cE fe fm 8 1,cE fe fm 9 2,cE fe fm 10 3,iA fe fm sl]),i6 vv 1,23,31,(al w b c A s++[(13,⟨(.type "frame"),none,(.dict ⟨jQ w b c A t tt wd old tw told I (.bool false) 5631 (bo s j) 5635 (.bool true) 5636 5616 (bo s j)⟩ 12),(cI 1897 1898 (rA A 8))⟩),cF A fe fm 8 1 1890 1891 9,cF A fe fm 9 2 1876 1877 10,cF A fe fm 10 3 1987 1988 11,il c1 c2 c3 fe fm,kB vv xa 20 1,(22,iN xt xf .none pl)])⟩] (iL A n it c1 c2 c3 q) [fL tt wd tw hx 1 27 42 43] [(fF nn vv 1,true),((BEq.beq I.rd 0),false)] (dU A it c1 c2 c3 q) (ef A wd tw) 13 (eg w b c A s I fe fm sl) (iy nn 1) 31 (fun PL=>ed w b c A s n nn tt vv wd tw c1 c2 c3 I hx fe fm PL 25 1 29 30) 53:=cU (hm ([0]++mf++[1007014,2,14,2001002,6003004,14,14,2001002,0,1006,1008014]++ny)) 30
theorem chgR_5:c9 w b c A gh L 40 (lf n nn vv) (k7 t tt 36 27) [fJ t I lc,lV t lc,lL w b c A s j I,fG t I fc 5632 18 5633 19,iV t fc 5633 5634 20,kN w b c A s old told I 26 27,p5 tt I fc 29 30,Bw tt fc 31] [⟨cR 1450 [(rA A 2),(gJ I),(yy s tt old j),(jm s)],19,35,(al w b c A s++[(13,⟨(.type "frame"),none,(.dict ⟨jQ w b c A t tt wd old tw told I (.bool false) 5631 (bo s j) 5635 (.bool false) 5638 5620 (yy s tt old j)⟩ 12),#[]⟩),cE fe fm 8 1,cE fe fm 9 2,cE fe fm 10 3,iA fe fm sl]),i6 vv 1,23,36,(al w b c A s++[(13,⟨(.type "frame"),none,(.dict ⟨jQ w b c A t tt wd old tw told I (.bool false) 5631 (bo s j) 5635 (.bool false) 5638 5620 (yy s tt old j)⟩ 12),(cI 1897 1898 (rA A 8))⟩),cF A fe fm 8 1 1890 1891 9,cF A fe fm 9 2 1876 1877 10,cF A fe fm 10 3 1987 1988 11,il c1 c2 c3 fe fm,kB vv xa 20 1,(22,iN xt xf .none pl)])⟩] (iL A n it c1 c2 c3 q) [fL tt wd tw hx 1 27 47 48] [(fF nn vv 1,true),((bne I.rs1 0),true)] (dU A it c1 c2 c3 q) (ef A wd tw) 13 (eg w b c A s I fe fm sl) (iy nn 1) 31 (fun PL=>ed w b c A s n nn tt vv wd tw c1 c2 c3 I hx fe fm PL 25 1 29 30) 58:=cU (hm ([0]++mf++nD++[14,14,2001002,0,1006,1005014,3007,3008,1005014]++ny)) 30
theorem chgR_6:c9 w b c A gh L 40 (lf n nn vv) (k7 t tt 37 27) [fJ t I lc,lV t lc,lL w b c A s j I,fG t I fc 5632 18 5633 19,iV t fc 5633 5634 20,kN w b c A s old told I 26 27,p5 tt I fc 29 30,Bs tt fc 31] [⟨cR 1450 [(rA A 2),(gJ I),(yA s tt old j),(jm s)],19,36,(al w b c A s++[(13,⟨(.type "frame"),none,(.dict ⟨jQ w b c A t tt wd old tw told I (.bool false) 5631 (bo s j) 5635 (.bool false) 5638 5621 (yA s tt old j)⟩ 12),#[]⟩),cE fe fm 8 1,cE fe fm 9 2,cE fe fm 10 3,iA fe fm sl]),i6 vv 1,23,37,(al w b c A s++[(13,⟨(.type "frame"),none,(.dict ⟨jQ w b c A t tt wd old tw told I (.bool false) 5631 (bo s j) 5635 (.bool false) 5638 5621 (yA s tt old j)⟩ 12),(cI 1897 1898 (rA A 8))⟩),cF A fe fm 8 1 1890 1891 9,cF A fe fm 9 2 1876 1877 10,cF A fe fm 10 3 1987 1988 11,il c1 c2 c3 fe fm,kB vv xa 20 1,(22,iN xt xf .none pl)])⟩] (iL A n it c1 c2 c3 q) [fL tt wd tw hx 1 27 48 49] [(fF nn vv 1,true),((bne I.rs1 0),true)] (dU A it c1 c2 c3 q) (ef A wd tw) 13 (eg w b c A s I fe fm sl) (iy nn 1) 31 (fun PL=>ed w b c A s n nn tt vv wd tw c1 c2 c3 I hx fe fm PL 25 1 29 30) 59:=cU (hm ([0]++mf++nD++[14,14,2001002,0,1006,1005014,3007,3008,14,0,1004014]++ny)) 30
theorem chgR_7:c9 w b c A gh L 40 (ki n nn vv) (kh t tt 25) [fJ t I lc,jY t lc,fG t I fc 5631 17 5632 18,oq t fc 5632 5633 19] [⟨qj A s I,18,24,(GZ w b c A s t wd tw I fe fm sl true 5635 true),i6 vv 0,22,25,(Fd w b c A s t vv wd tw c1 c2 c3 xa xf I xt pl fe fm true 5635 true)⟩] (oj A n it c1 c2 c3 q) [fL tt wd tw hx 0 26 36 37] [(fF nn vv 0,true),((BEq.beq I.rd 0),false)] (dU A it c1 c2 c3 q) (ef A wd tw) 13 (eg w b c A s I fe fm sl) (iy nn 0) 30 (fun PL=>ed w b c A s n nn tt vv wd tw c1 c2 c3 I hx fe fm PL 24 0 28 29) 47:=cU (hm (lN++[1007014,2,14,2001002,6003004]++kp++[30,25,30,30])) 29
theorem chgR_8:c9 w b c A gh L 40 (ki n nn vv) (kh t tt 26) [fJ t I lc,jY t lc,fG t I fc 5631 17 5632 18,iV t fc 5632 5633 19] [ecr3 w b c A s t vv wd tw c1 c2 c3 xa xf I xt pl fe fm sl true] (oj A n it c1 c2 c3 q) [fL tt wd tw hx 0 26 37 38] [(fF nn vv 0,true),((bne I.im 0),true)] (dU A it c1 c2 c3 q) (ef A wd tw) 13 (eg w b c A s I fe fm sl) (iy nn 0) 30 (fun PL=>ed w b c A s n nn tt vv wd tw c1 c2 c3 I hx fe fm PL 24 0 28 29) 48:=cU (hm (lN++nD++kp++[30,25,30,30])) 29
theorem chgR_9:c9 w b c A gh L 40 (ki n nn vv) (kh t tt 26) [fJ t I lc,jY t lc,fG t I fc 5631 17 5632 18,iV t fc 5632 5633 19] [ecr3 w b c A s t vv wd tw c1 c2 c3 xa xf I xt pl fe fm sl false] (oj A n it c1 c2 c3 q) [fL tt wd tw hx 0 26 37 38] [(fF nn vv 0,true),((bne I.im 0),false)] (dU A it c1 c2 c3 q) (ef A wd tw) 13 (eg w b c A s I fe fm sl) (iy nn 0) 30 (fun PL=>ed w b c A s n nn tt vv wd tw c1 c2 c3 I hx fe fm PL 24 0 28 29) 48:=cU (hm (lN++[1005014,2008013,2,1004014,2001002,6003004]++kp++[30,25,30,30])) 29
theorem Iu:c9 w b c A gh L 40 (ki n nn vv) (kh t tt 28) [fJ t I lc,jY t lc,fG t I fc 5631 17 5632 18,oq t fc 5632 5633 19] [⟨cR 1450 [(rA A 2),(gJ I),(f7 I),(jm s)],18,27,(al w b c A s++[(13,⟨(.type "frame"),none,(.dict ⟨y8 w b c A t wd tw I (.bool true) 5630 (f7 I) 5634 5635 5638 (.int 0 (.add t 5637)) 5639⟩ 12),#[]⟩),cE fe fm 8 1,cE fe fm 9 2,cE fe fm 10 3,iA fe fm sl]),i6 vv 0,22,28,(al w b c A s++[(13,⟨(.type "frame"),none,(.dict ⟨y8 w b c A t wd tw I (.bool true) 5630 (f7 I) 5634 5635 5638 (.int 0 (.add t 5637)) 5639⟩ 12),(cI 1897 1898 (rA A 8))⟩),cF A fe fm 8 1 1890 1891 9,cF A fe fm 9 2 1876 1877 10,cF A fe fm 10 3 1987 1988 11,il c1 c2 c3 fe fm,kB vv xa 19 0,(21,iN xt xf .none pl)])⟩] (iL A n it c1 c2 c3 q) [fL tt wd tw hx 0 26 39 40] [(fF nn vv 0,true),((BEq.beq I.rd 0),true)] (dU A it c1 c2 c3 q) (ef A wd tw) 13 (eg w b c A s I fe fm sl) (iy nn 0) 30 (fun PL=>ed w b c A s n nn tt vv wd tw c1 c2 c3 I hx fe fm PL 24 0 28 29) 50:=cU (hm (lN++[1007014,1,1008014,2001002,6003004,14]++kp++[30,25,30,30])) 29
theorem H5:c9 w b c A gh L 40 (lf n nn vv) (k7 t tt 30 25) [fJ t I lc,jY t lc,fG t I fc 5631 17 5632 18,oq t fc 5632 5633 19,kN w b c A s old told I 24 25] [⟨cR 1450 [(rA A 2),(gJ I),(f7 I),(jm s)],19,29,(al w b c A s++[(13,⟨(.type "frame"),none,(.dict ⟨jQ w b c A t tt wd old tw told I (.bool true) 5630 (f7 I) 5634 (.bool true) 5635 5616 (f7 I)⟩ 12),#[]⟩),cE fe fm 8 1,cE fe fm 9 2,cE fe fm 10 3,iA fe fm sl]),i6 vv 1,23,30,(al w b c A s++[(13,⟨(.type "frame"),none,(.dict ⟨jQ w b c A t tt wd old tw told I (.bool true) 5630 (f7 I) 5634 (.bool true) 5635 5616 (f7 I)⟩ 12),(cI 1897 1898 (rA A 8))⟩),cF A fe fm 8 1 1890 1891 9,cF A fe fm 9 2 1876 1877 10,cF A fe fm 10 3 1987 1988 11,il c1 c2 c3 fe fm,kB vv xa 20 1,(22,iN xt xf .none pl)])⟩] (iL A n it c1 c2 c3 q) [fL tt wd tw hx 1 27 41 42] [(fF nn vv 1,true),((BEq.beq I.rd 0),false)] (dU A it c1 c2 c3 q) (ef A wd tw) 13 (eg w b c A s I fe fm sl) (iy nn 1) 31 (fun PL=>ed w b c A s n nn tt vv wd tw c1 c2 c3 I hx fe fm PL 25 1 29 30) 52:=cU (hm (lN++[1007014,2,14,2001002,6003004,14,14,2001002,0,1005,1008014]++ny)) 30
theorem I8:c9 w b c A gh L 40 (lf n nn vv) (k7 t tt 35 26) [fJ t I lc,jY t lc,fG t I fc 5631 17 5632 18,iV t fc 5632 5633 19,kN w b c A s old told I 25 26,p5 tt I fc 28 29,Bw tt fc 30] [⟨cR 1450 [(rA A 2),(gJ I),(.int (Builtin.bitOr old I.im) (.add (tt 0) 5619)),(jm s)],19,34,(al w b c A s++[(13,⟨(.type "frame"),none,(.dict ⟨Hh w b c A t tt wd old tw told I⟩ 12),#[]⟩),cE fe fm 8 1,cE fe fm 9 2,cE fe fm 10 3,iA fe fm sl]),i6 vv 1,23,35,(al w b c A s++[(13,⟨(.type "frame"),none,(.dict ⟨Hh w b c A t tt wd old tw told I⟩ 12),(cI 1897 1898 (rA A 8))⟩),cF A fe fm 8 1 1890 1891 9,cF A fe fm 9 2 1876 1877 10,cF A fe fm 10 3 1987 1988 11,il c1 c2 c3 fe fm,kB vv xa 20 1,(22,iN xt xf .none pl)])⟩] (iL A n it c1 c2 c3 q) [fL tt wd tw hx 1 27 46 47] [(fF nn vv 1,true),((bne I.im 0),true)] (dU A it c1 c2 c3 q) (ef A wd tw) 13 (eg w b c A s I fe fm sl) (iy nn 1) 31 (fun PL=>ed w b c A s n nn tt vv wd tw c1 c2 c3 I hx fe fm PL 25 1 29 30) 57:=cU (hm (lN++nD++[14,14,2001002,0,1005,1005014,3006,3007,1005014]++ny)) 30
theorem If:c9 w b c A gh L 40 (lf n nn vv) (k7 t tt 36 26) [fJ t I lc,jY t lc,fG t I fc 5631 17 5632 18,iV t fc 5632 5633 19,kN w b c A s old told I 25 26,p5 tt I fc 28 29,Bs tt fc 30] [⟨cR 1450 [(rA A 2),(gJ I),(zC tt old I),(jm s)],19,35,(al w b c A s++[(13,⟨(.type "frame"),none,(.dict ⟨jQ w b c A t tt wd old tw told I (.bool true) 5630 (f7 I) 5634 (.bool false) 5637 5621 (zC tt old I)⟩ 12),#[]⟩),cE fe fm 8 1,cE fe fm 9 2,cE fe fm 10 3,iA fe fm sl]),i6 vv 1,23,36,(al w b c A s++[(13,⟨(.type "frame"),none,(.dict ⟨jQ w b c A t tt wd old tw told I (.bool true) 5630 (f7 I) 5634 (.bool false) 5637 5621 (zC tt old I)⟩ 12),(cI 1897 1898 (rA A 8))⟩),cF A fe fm 8 1 1890 1891 9,cF A fe fm 9 2 1876 1877 10,cF A fe fm 10 3 1987 1988 11,il c1 c2 c3 fe fm,kB vv xa 20 1,(22,iN xt xf .none pl)])⟩] (iL A n it c1 c2 c3 q) [fL tt wd tw hx 1 27 47 48] [(fF nn vv 1,true),((bne I.im 0),true)] (dU A it c1 c2 c3 q) (ef A wd tw) 13 (eg w b c A s I fe fm sl) (iy nn 1) 31 (fun PL=>ed w b c A s n nn tt vv wd tw c1 c2 c3 I hx fe fm PL 25 1 29 30) 58:=cU (hm (lN++nD++[14,14,2001002,0,1005,1005014,3006,3007,14,0,1004014]++ny)) 30
end
theorem Je{x y:Nat}(h:x≠y):bne (Value.ref x) (Value.ref y)=true:=by
  rw[bne_iff_ne];intro e;injection e;contradiction
abbrev stRr(R:RC)(f:Nat→Nat):List (Code×PySem.Pos):=AK R.it (ad (f 1)) (ad (f 2)) (ad (f 3)) (ad (f 4)) R.c1 R.c2 R.c3 R.q
def aC(A:AS)(a7 a8:Nat)(f:Nat→Nat):AS:=⟨gt [(7,a7),(8,f 1),(9,f 2),(10,f 3),(11,f 4),(12,a8)] A.a,A.k⟩
inductive ChgRX (w:World) (b c:Bool) (A:AS) (s:BS) (nm:Str) (rd rs im cs:Int) (R:RC) (f:Nat→Nat) (k u:Nat→Nat) (a7 a8:Nat) (gh:List (Addr×Obj)) (n t m tw:Nat):Prop where
  |mk (xa xf e xd xb n' t':Nat) (xt xh:Value) (ek:Nat→Nat) (Rs:Str) (pl:Nat→Value) (h0_:TA w b c A 80 (stRr R f) (.call (.ref 1898) ⟨[.ref (ad (A.a 0)),.ref (ad a7),.int (Int.ofNat m) tw],[]⟩) gh
   [(ad a7,iO 121 (ad a8)),(ad (f 1),bC (R.fe 1) (R.fm 1) #[]),(ad (f 2),bC (R.fe 2) (R.fm 2) #[]),(ad (f 3),bC (R.fe 3) (R.fm 3) #[]),(ad (f 4),bC (R.fe 4) (R.fm 4) R.sl),(ad a8,iD (PP w b c) ⟨k,u,nm,rd,rs,0,im,cs⟩)] s n t (.error (.ref (ad e))) gh
   [(ad a7,iO 121 (ad a8)),(ad (f 1),bC (R.fe 1) (R.fm 1) (cI 1890 1891 (.ref (ad (f 2))))),(ad (f 2),bC (R.fe 2) (R.fm 2) (cI 1876 1877 (.ref (ad (f 3))))),(ad (f 3),bC (R.fe 3) (R.fm 3) (cI 1987 1988 (.ref (ad (f 4))))),(ad (f 4),bC (R.fe 4) (R.fm 4) (dD R.c1 R.c2 R.c3)),(ad a8,iD (PP w b c) ⟨k,u,nm,rd,rs,0,im,cs⟩),
    (ad e,exD xa (ad xd) (ad xb) xh),(ad xd,edO (PP w b c) ek Rs (Int.ofNat m) tw),(ad xb,iN xt xf .none pl)] s n' t'):ChgRX w b c A s nm rd rs im cs R f k u a7 a8 gh n t m tw
def eF(w:World)(b c:Bool)(A:AS)(s:BS)(nm:Str)(rd rs im cs:Int):Prop:=∀(R:RC) (f:Nat→Nat) (k u:Nat→Nat) (a7 a8:Nat) (gh:List (Addr×Obj)) (n t m tw:Nat),2^28≤m→m<2^32→R.ok→
  ChgRX w b c A s nm rd rs im cs R f k u a7 a8 gh n t m tw
def vT(q e d x:Nat):Nat→Nat→Nat:=fun i j=>cond (Nat.beq i q) (cond (Nat.beq j 0) e (cond (Nat.beq j 1) d x)) 0
def R0(R:RC)(es:List DictEntry)(m:Nat)(p:PySem.Pos):RC:=⟨R.it,R.c1,R.c2,R.c3,fun i=>cond (Nat.beq i 0) ⟨es⟩ (R.fe i),fun i=>cond (Nat.beq i 0) m (R.fm i),fun i=>cond (Nat.beq i 0) p (R.q i),R.sl⟩
def j3(a b c d:Nat):Nat→Nat:=fun i=>cond (Nat.beq i 0) a (cond (Nat.beq i 1) b (cond (Nat.beq i 2) c d))
def f0(n:Nat)(f:Nat→Nat):Nat→Nat:=fun i=>cond (Nat.beq i 0) n (f i)
theorem bO{M:Model}{S:HT}{B L:Nat}{bl bl':List (Code×PySem.Pos)}{cd:Code}{gh pre:List (Addr×Obj)}{n t:Nat}{r:Result}{gh' post:List (Addr×Obj)}{n' t':Nat}(e:bl'=bl)(H:TriAt M S B L bl cd gh pre n t r gh' post n' t'):TriC M S B (fun Γ=>Lim Γ L∧Γ.below=bl') cd gh pre n t r gh' post n' t':=e▸H
theorem hV{x y:Nat}(h:x<y):bne (Value.ref (.add x 1994)) (Value.ref (.add y 1996))=true:=Je (by show x+1994≠y+1996;omega)
def j9(w:World)(b c:Bool)(A:AS)(a7 t m tw rd at_ j:Nat)(u:Nat→Nat)(bn:Bool)(k1:Nat)(v1:Value)(k2:Nat)(ex:Bool)(k3:Nat)(wr:Bool)(l:List DictEntry):List DictEntry:=ag w b c ku (.add t 5615) (.ref (ad (A.a 0)))::ag w b c kK (.add t 5616) (.ref (ad a7))::ag w b c kD (.add t 5617) (.int (Int.ofNat m) tw)::ag w b c gK (.add t 5621) (.int (Int.ofNat rd) (u 1))::ag w b c vn (.add t 5622) (.int (Int.ofNat at_) (u 5))::ag w b c dj (.add t 5623) (.str (an j) (u 0))::ag w b c zG (.add t 5628) (.bool bn)::ag w b c yN (.add t k1) v1::ag w b c yo (.add t k2) (.bool ex)::ag w b c zQ (.add t k3) (.bool wr)::l
def sz(w:World)(b c:Bool)(k1:Nat)(v1:Value)(k2:Nat)(v2:Value):List DictEntry:=[ag w b c Ew k1 v1,ag w b c oV k2 v2]
def kq(m:Nat):Str:=⟨⟨[116,114,97,112,32,50,32,119,105,116,104,32,(cN (dg m) 0),(cN (dg m) 1),(cN (dg m) 2),(cN (dg m) 3),(cN (dg m) 4),(cN (dg m) 5),(cN (dg m) 6),(cN (dg m) 7)]⟩⟩
section
variable(w:World)(b c:Bool)(A:AS)(s:BS)
include w b c A s
section
variable(j:Nat)(hj:j<6)(rd:Nat)
include j hj rd
section
variable(rs at_:Nat)(hrs:rs<32)(q0:BEq.beq (ap j).cps.toList [105]=false)
include rs at_ hrs q0
section
variable(q1:BEq.beq (am j).cps.toList [119]=true)
include q1
theorem BE(hR:eP w b c A s at_ s.md.1)(he:He [((BEq.beq (Int.ofNat rd) 0),false)]):eF w b c A s (an j) (Int.ofNat rd) (Int.ofNat rs) 0 (Int.ofNat at_):=by
 rintro⟨it,c1,c2,c3,fe,fm,q,sl⟩ f k u a7 a8 gh n t m tw h1 h2 hs
 obtain⟨ya,yf,e0,yd,yb,n0,t0,yt,yl,he0,H0⟩:=hR (u 5) s.md.2 (R0 ⟨it,c1,c2,c3,fe,fm,q,sl⟩ (j9 w b c A a7 t m tw rd at_ j u false 5631 (bo s rs) 5635 true 5636 true []) 10 ⟨769,52,769,85⟩) (f0 n f) gh (n+5) (t+25) hs
 obtain⟨PL,h⟩:=chgR_0 w b c (aC A a7 a8 f) s gh n t 40 (ar [n0]) (ar [t0]) (vT 0 e0 yd yb) (Int.ofNat m) 0 0 tw 0 rs it c1 c2 c3 ya yf ⟨k,u,an j,(Int.ofNat rd),(Int.ofNat rs),0,0,(Int.ofNat at_)⟩ yt yl (cN (dg m)) fe fm q sl (ap j) (am j) (fk (au Lim.h hj)<|fk (ac Lim.h q0)<|fk (kc (aN Lim.h (m:=1) (r:=s.r) (i:=rs) hrs))<|fk (aj Lim.h hj)<|fk (ac Lim.h q1)<|aa) (ab ⟨by kernel_rfl,bO (by kernel_rfl) (kd H0)⟩ aa) (fk (cT h1 h2)<|aa) (ab (hV he0) he)
 exact⟨(.add n0 1999),(.add n 1994),n0+2,n0+6,n0+7,n0+8,t0+22,.none,.ref (ad e0),j3 (.add t0 5632) (.add t0 5634) (.add t0 5636) (.add t0 5627),(kq m),PL,kF h⟩
theorem rR(hW:cL w b c A s at_ s.md.1 (s.r rs).1)(he:He [((BEq.beq (Int.ofNat rd) 0),true)]):eF w b c A s (an j) (Int.ofNat rd) (Int.ofNat rs) 0 (Int.ofNat at_):=by
 rintro⟨it,c1,c2,c3,fe,fm,q,sl⟩ f k u a7 a8 gh n t m tw h1 h2 hs
 obtain⟨ya,yf,e0,yd,yb,n0,t0,yt,yl,he0,H0⟩:=hW (u 5) (s.r rs).2 s.md.2 (R0 ⟨it,c1,c2,c3,fe,fm,q,sl⟩ (j9 w b c A a7 t m tw rd at_ j u false 5631 (bo s rs) 5635 true 5636 true (sz w b c (.add t 5639) (.int 0 (.add t 5638)) (.add t 5640) (bo s rs))) 12 ⟨772,16,772,57⟩) (f0 n f) gh (n+5) (t+28) hs
 obtain⟨PL,h⟩:=chgR_3 w b c (aC A a7 a8 f) s gh n t 40 (ar [n0]) (ar [t0]) (vT 0 e0 yd yb) (Int.ofNat m) 0 0 tw 0 rs it c1 c2 c3 ya yf ⟨k,u,an j,(Int.ofNat rd),(Int.ofNat rs),0,0,(Int.ofNat at_)⟩ yt yl (cN (dg m)) fe fm q sl (ap j) (am j) (fk (au Lim.h hj)<|fk (ac Lim.h q0)<|fk (kc (aN Lim.h (m:=1) (r:=s.r) (i:=rs) hrs))<|fk (aj Lim.h hj)<|fk (ac Lim.h q1)<|aa) (ab ⟨by kernel_rfl,bO (by kernel_rfl) (kd H0)⟩ aa) (fk (cT h1 h2)<|aa) (ab (hV he0) he)
 exact⟨(.add n0 1999),(.add n 1994),n0+2,n0+6,n0+7,n0+8,t0+22,.none,.ref (ad e0),j3 (.add t0 5632) (.add t0 5634) (.add t0 5636) (.add t0 5627),(kq m),PL,kF h⟩
theorem Ax(old:Int)(hR:bw w b c A s at_ s.md.1 old)(hW:cL w b c A s at_ s.md.1 (s.r rs).1)(he:He [((BEq.beq (Int.ofNat rd) 0),false)]):eF w b c A s (an j) (Int.ofNat rd) (Int.ofNat rs) 0 (Int.ofNat at_):=by
 rintro⟨it,c1,c2,c3,fe,fm,q,sl⟩ f k u a7 a8 gh n t m tw h1 h2 hs
 obtain⟨told,n0,t0,H0⟩:=hR gh (n+5) (t+25) (u 5) s.md.2
 obtain⟨ya,yf,e0,yd,yb,n1,t1,yt,yl,he0,H1⟩:=hW (u 5) (s.r rs).2 s.md.2 (R0 ⟨it,c1,c2,c3,fe,fm,q,sl⟩ (j9 w b c A a7 t m tw rd at_ j u false 5631 (bo s rs) 5635 true 5636 true (sz w b c (.add t0 5615) (.int old told) (.add t0 5616) (bo s rs))) 12 ⟨772,16,772,57⟩) (f0 n f) gh (n0+0) (t0+4) hs
 obtain⟨PL,h⟩:=chgR_4 w b c (aC A a7 a8 f) s gh n t 40 (ar [n0,n1]) (ar [t0,t1]) (vT 1 e0 yd yb) (Int.ofNat m) old 0 tw told rs it c1 c2 c3 ya yf ⟨k,u,an j,(Int.ofNat rd),(Int.ofNat rs),0,0,(Int.ofNat at_)⟩ yt yl (cN (dg m)) fe fm q sl (ap j) (am j) (fk (au Lim.h hj)<|fk (ac Lim.h q0)<|fk (kc (aN Lim.h (m:=1) (r:=s.r) (i:=rs) hrs))<|fk (aj Lim.h hj)<|fk (ac Lim.h q1)<|fk (kd H0)<|aa) (ab ⟨by kernel_rfl,bO (by kernel_rfl) (kd H1)⟩ aa) (fk (cT h1 h2)<|aa) (ab (hV he0) he)
 exact⟨(.add n1 1999),(.add n 1994),n1+2,n1+6,n1+7,n1+8,t1+22,.none,.ref (ad e0),j3 (.add t1 5632) (.add t1 5634) (.add t1 5636) (.add t1 5627),(kq m),PL,kF h⟩
end
section
variable(q1:BEq.beq (am j).cps.toList [119]=false)
include q1
theorem rZ(hR:eP w b c A s at_ s.md.1)(he:He [((bne (Int.ofNat rs) 0),true)]):eF w b c A s (an j) (Int.ofNat rd) (Int.ofNat rs) 0 (Int.ofNat at_):=by
 rintro⟨it,c1,c2,c3,fe,fm,q,sl⟩ f k u a7 a8 gh n t m tw h1 h2 hs
 obtain⟨ya,yf,e0,yd,yb,n0,t0,yt,yl,he0,H0⟩:=hR (u 5) s.md.2 (R0 ⟨it,c1,c2,c3,fe,fm,q,sl⟩ (j9 w b c A a7 t m tw rd at_ j u false 5631 (bo s rs) 5635 false 5638 true []) 10 ⟨769,52,769,85⟩) (f0 n f) gh (n+5) (t+26) hs
 obtain⟨PL,h⟩:=chgR_1 w b c (aC A a7 a8 f) s gh n t 40 (ar [n0]) (ar [t0]) (vT 0 e0 yd yb) (Int.ofNat m) 0 0 tw 0 rs it c1 c2 c3 ya yf ⟨k,u,an j,(Int.ofNat rd),(Int.ofNat rs),0,0,(Int.ofNat at_)⟩ yt yl (cN (dg m)) fe fm q sl (ap j) (am j) (fk (au Lim.h hj)<|fk (ac Lim.h q0)<|fk (kc (aN Lim.h (m:=1) (r:=s.r) (i:=rs) hrs))<|fk (aj Lim.h hj)<|fk (ac Lim.h q1)<|aa) (ab ⟨by kernel_rfl,bO (by kernel_rfl) (kd H0)⟩ aa) (fk (cT h1 h2)<|aa) (ab (hV he0) he)
 exact⟨(.add n0 1999),(.add n 1994),n0+2,n0+6,n0+7,n0+8,t0+22,.none,.ref (ad e0),j3 (.add t0 5632) (.add t0 5634) (.add t0 5636) (.add t0 5627),(kq m),PL,kF h⟩
theorem rO(hR:eP w b c A s at_ s.md.1)(he:He [((bne (Int.ofNat rs) 0),false)]):eF w b c A s (an j) (Int.ofNat rd) (Int.ofNat rs) 0 (Int.ofNat at_):=by
 rintro⟨it,c1,c2,c3,fe,fm,q,sl⟩ f k u a7 a8 gh n t m tw h1 h2 hs
 obtain⟨ya,yf,e0,yd,yb,n0,t0,yt,yl,he0,H0⟩:=hR (u 5) s.md.2 (R0 ⟨it,c1,c2,c3,fe,fm,q,sl⟩ (j9 w b c A a7 t m tw rd at_ j u false 5631 (bo s rs) 5635 false 5638 false []) 10 ⟨769,52,769,85⟩) (f0 n f) gh (n+5) (t+26) hs
 obtain⟨PL,h⟩:=chgR_2 w b c (aC A a7 a8 f) s gh n t 40 (ar [n0]) (ar [t0]) (vT 0 e0 yd yb) (Int.ofNat m) 0 0 tw 0 rs it c1 c2 c3 ya yf ⟨k,u,an j,(Int.ofNat rd),(Int.ofNat rs),0,0,(Int.ofNat at_)⟩ yt yl (cN (dg m)) fe fm q sl (ap j) (am j) (fk (au Lim.h hj)<|fk (ac Lim.h q0)<|fk (kc (aN Lim.h (m:=1) (r:=s.r) (i:=rs) hrs))<|fk (aj Lim.h hj)<|fk (ac Lim.h q1)<|aa) (ab ⟨by kernel_rfl,bO (by kernel_rfl) (kd H0)⟩ aa) (fk (cT h1 h2)<|aa) (ab (hV he0) he)
 exact⟨(.add n0 1999),(.add n 1994),n0+2,n0+6,n0+7,n0+8,t0+22,.none,.ref (ad e0),j3 (.add t0 5632) (.add t0 5634) (.add t0 5636) (.add t0 5627),(kq m),PL,kF h⟩
theorem AV(old:Int)(hR:bw w b c A s at_ s.md.1 old)(q2:BEq.beq (am j).cps.toList [115]=true)(hW:cL w b c A s at_ s.md.1 (Builtin.bitOr old (s.r rs).1))(he:He [((bne (Int.ofNat rs) 0),true)]):eF w b c A s (an j) (Int.ofNat rd) (Int.ofNat rs) 0 (Int.ofNat at_):=by
 rintro⟨it,c1,c2,c3,fe,fm,q,sl⟩ f k u a7 a8 gh n t m tw h1 h2 hs
 obtain⟨told,n0,t0,H0⟩:=hR gh (n+5) (t+26) (u 5) s.md.2
 obtain⟨ya,yf,e0,yd,yb,n1,t1,yt,yl,he0,H1⟩:=hW (u 5) (.add t0 5619) s.md.2 (R0 ⟨it,c1,c2,c3,fe,fm,q,sl⟩ (j9 w b c A a7 t m tw rd at_ j u false 5631 (bo s rs) 5635 false 5638 true (sz w b c (.add t0 5615) (.int old told) (.add t0 5620) (.int (Builtin.bitOr old (s.r rs).1) (.add t0 5619)))) 12 ⟨772,16,772,57⟩) (f0 n f) gh (n0+0) (t0+8) hs
 obtain⟨PL,h⟩:=chgR_5 w b c (aC A a7 a8 f) s gh n t 40 (ar [n0,n1]) (ar [t0,t1]) (vT 1 e0 yd yb) (Int.ofNat m) old 0 tw told rs it c1 c2 c3 ya yf ⟨k,u,an j,(Int.ofNat rd),(Int.ofNat rs),0,0,(Int.ofNat at_)⟩ yt yl (cN (dg m)) fe fm q sl (ap j) (am j) (fk (au Lim.h hj)<|fk (ac Lim.h q0)<|fk (kc (aN Lim.h (m:=1) (r:=s.r) (i:=rs) hrs))<|fk (aj Lim.h hj)<|fk (ac Lim.h q1)<|fk (kd H0)<|fk (aj Lim.h hj)<|fk (ac Lim.h q2)<|aa) (ab ⟨by kernel_rfl,bO (by kernel_rfl) (kd H1)⟩ aa) (fk (cT h1 h2)<|aa) (ab (hV he0) he)
 exact⟨(.add n1 1999),(.add n 1994),n1+2,n1+6,n1+7,n1+8,t1+22,.none,.ref (ad e0),j3 (.add t1 5632) (.add t1 5634) (.add t1 5636) (.add t1 5627),(kq m),PL,kF h⟩
theorem A6(old:Int)(hR:bw w b c A s at_ s.md.1 old)(q2:BEq.beq (am j).cps.toList [115]=false)(hW:cL w b c A s at_ s.md.1 (Builtin.bitAnd old (Builtin.bitXor 4294967295 (s.r rs).1)))(he:He [((bne (Int.ofNat rs) 0),true)]):eF w b c A s (an j) (Int.ofNat rd) (Int.ofNat rs) 0 (Int.ofNat at_):=by
 rintro⟨it,c1,c2,c3,fe,fm,q,sl⟩ f k u a7 a8 gh n t m tw h1 h2 hs
 obtain⟨told,n0,t0,H0⟩:=hR gh (n+5) (t+26) (u 5) s.md.2
 obtain⟨ya,yf,e0,yd,yb,n1,t1,yt,yl,he0,H1⟩:=hW (u 5) (.add t0 5620) s.md.2 (R0 ⟨it,c1,c2,c3,fe,fm,q,sl⟩ (j9 w b c A a7 t m tw rd at_ j u false 5631 (bo s rs) 5635 false 5638 true (sz w b c (.add t0 5615) (.int old told) (.add t0 5621) (.int (Builtin.bitAnd old (Builtin.bitXor 4294967295 (s.r rs).1)) (.add t0 5620)))) 12 ⟨772,16,772,57⟩) (f0 n f) gh (n0+0) (t0+9) hs
 obtain⟨PL,h⟩:=chgR_6 w b c (aC A a7 a8 f) s gh n t 40 (ar [n0,n1]) (ar [t0,t1]) (vT 1 e0 yd yb) (Int.ofNat m) old 0 tw told rs it c1 c2 c3 ya yf ⟨k,u,an j,(Int.ofNat rd),(Int.ofNat rs),0,0,(Int.ofNat at_)⟩ yt yl (cN (dg m)) fe fm q sl (ap j) (am j) (fk (au Lim.h hj)<|fk (ac Lim.h q0)<|fk (kc (aN Lim.h (m:=1) (r:=s.r) (i:=rs) hrs))<|fk (aj Lim.h hj)<|fk (ac Lim.h q1)<|fk (kd H0)<|fk (aj Lim.h hj)<|fk (ac Lim.h q2)<|aa) (ab ⟨by kernel_rfl,bO (by kernel_rfl) (kd H1)⟩ aa) (fk (cT h1 h2)<|aa) (ab (hV he0) he)
 exact⟨(.add n1 1999),(.add n 1994),n1+2,n1+6,n1+7,n1+8,t1+22,.none,.ref (ad e0),j3 (.add t1 5632) (.add t1 5634) (.add t1 5636) (.add t1 5627),(kq m),PL,kF h⟩
end
end
section
variable(at_:Nat)(im:Int)(q0:BEq.beq (ap j).cps.toList [105]=true)
include at_ im q0
section
variable(q1:BEq.beq (am j).cps.toList [119]=true)
include q1
theorem BD(hR:eP w b c A s at_ s.md.1)(he:He [((BEq.beq (Int.ofNat rd) 0),false)]):eF w b c A s (an j) (Int.ofNat rd) 0 im (Int.ofNat at_):=by
 rintro⟨it,c1,c2,c3,fe,fm,q,sl⟩ f k u a7 a8 gh n t m tw h1 h2 hs
 obtain⟨ya,yf,e0,yd,yb,n0,t0,yt,yl,he0,H0⟩:=hR (u 5) s.md.2 (R0 ⟨it,c1,c2,c3,fe,fm,q,sl⟩ (j9 w b c A a7 t m tw rd at_ j u true 5630 (.int im (u 4)) 5634 true 5635 true []) 10 ⟨769,52,769,85⟩) (f0 n f) gh (n+5) (t+24) hs
 obtain⟨PL,h⟩:=chgR_7 w b c (aC A a7 a8 f) s gh n t 40 (ar [n0]) (ar [t0]) (vT 0 e0 yd yb) (Int.ofNat m) 0 0 tw 0 0 it c1 c2 c3 ya yf ⟨k,u,an j,(Int.ofNat rd),0,0,im,(Int.ofNat at_)⟩ yt yl (cN (dg m)) fe fm q sl (ap j) (am j) (fk (au Lim.h hj)<|fk (ac Lim.h q0)<|fk (aj Lim.h hj)<|fk (ac Lim.h q1)<|aa) (ab ⟨by kernel_rfl,bO (by kernel_rfl) (kd H0)⟩ aa) (fk (cT h1 h2)<|aa) (ab (hV he0) he)
 exact⟨(.add n0 1999),(.add n 1994),n0+2,n0+6,n0+7,n0+8,t0+22,.none,.ref (ad e0),j3 (.add t0 5632) (.add t0 5634) (.add t0 5636) (.add t0 5627),(kq m),PL,kF h⟩
theorem pi(hW:cL w b c A s at_ s.md.1 im)(he:He [((BEq.beq (Int.ofNat rd) 0),true)]):eF w b c A s (an j) (Int.ofNat rd) 0 im (Int.ofNat at_):=by
 rintro⟨it,c1,c2,c3,fe,fm,q,sl⟩ f k u a7 a8 gh n t m tw h1 h2 hs
 obtain⟨ya,yf,e0,yd,yb,n0,t0,yt,yl,he0,H0⟩:=hW (u 5) (u 4) s.md.2 (R0 ⟨it,c1,c2,c3,fe,fm,q,sl⟩ (j9 w b c A a7 t m tw rd at_ j u true 5630 (.int im (u 4)) 5634 true 5635 true (sz w b c (.add t 5638) (.int 0 (.add t 5637)) (.add t 5639) (.int im (u 4)))) 12 ⟨772,16,772,57⟩) (f0 n f) gh (n+5) (t+27) hs
 obtain⟨PL,h⟩:=Iu w b c (aC A a7 a8 f) s gh n t 40 (ar [n0]) (ar [t0]) (vT 0 e0 yd yb) (Int.ofNat m) 0 0 tw 0 0 it c1 c2 c3 ya yf ⟨k,u,an j,(Int.ofNat rd),0,0,im,(Int.ofNat at_)⟩ yt yl (cN (dg m)) fe fm q sl (ap j) (am j) (fk (au Lim.h hj)<|fk (ac Lim.h q0)<|fk (aj Lim.h hj)<|fk (ac Lim.h q1)<|aa) (ab ⟨by kernel_rfl,bO (by kernel_rfl) (kd H0)⟩ aa) (fk (cT h1 h2)<|aa) (ab (hV he0) he)
 exact⟨(.add n0 1999),(.add n 1994),n0+2,n0+6,n0+7,n0+8,t0+22,.none,.ref (ad e0),j3 (.add t0 5632) (.add t0 5634) (.add t0 5636) (.add t0 5627),(kq m),PL,kF h⟩
theorem xQ(old:Int)(hR:bw w b c A s at_ s.md.1 old)(hW:cL w b c A s at_ s.md.1 im)(he:He [((BEq.beq (Int.ofNat rd) 0),false)]):eF w b c A s (an j) (Int.ofNat rd) 0 im (Int.ofNat at_):=by
 rintro⟨it,c1,c2,c3,fe,fm,q,sl⟩ f k u a7 a8 gh n t m tw h1 h2 hs
 obtain⟨told,n0,t0,H0⟩:=hR gh (n+5) (t+24) (u 5) s.md.2
 obtain⟨ya,yf,e0,yd,yb,n1,t1,yt,yl,he0,H1⟩:=hW (u 5) (u 4) s.md.2 (R0 ⟨it,c1,c2,c3,fe,fm,q,sl⟩ (j9 w b c A a7 t m tw rd at_ j u true 5630 (.int im (u 4)) 5634 true 5635 true (sz w b c (.add t0 5615) (.int old told) (.add t0 5616) (.int im (u 4)))) 12 ⟨772,16,772,57⟩) (f0 n f) gh (n0+0) (t0+4) hs
 obtain⟨PL,h⟩:=H5 w b c (aC A a7 a8 f) s gh n t 40 (ar [n0,n1]) (ar [t0,t1]) (vT 1 e0 yd yb) (Int.ofNat m) old 0 tw told 0 it c1 c2 c3 ya yf ⟨k,u,an j,(Int.ofNat rd),0,0,im,(Int.ofNat at_)⟩ yt yl (cN (dg m)) fe fm q sl (ap j) (am j) (fk (au Lim.h hj)<|fk (ac Lim.h q0)<|fk (aj Lim.h hj)<|fk (ac Lim.h q1)<|fk (kd H0)<|aa) (ab ⟨by kernel_rfl,bO (by kernel_rfl) (kd H1)⟩ aa) (fk (cT h1 h2)<|aa) (ab (hV he0) he)
 exact⟨(.add n1 1999),(.add n 1994),n1+2,n1+6,n1+7,n1+8,t1+22,.none,.ref (ad e0),j3 (.add t1 5632) (.add t1 5634) (.add t1 5636) (.add t1 5627),(kq m),PL,kF h⟩
end
section
variable(q1:BEq.beq (am j).cps.toList [119]=false)
include q1
theorem sh(hR:eP w b c A s at_ s.md.1)(he:He [((bne im 0),true)]):eF w b c A s (an j) (Int.ofNat rd) 0 im (Int.ofNat at_):=by
 rintro⟨it,c1,c2,c3,fe,fm,q,sl⟩ f k u a7 a8 gh n t m tw h1 h2 hs
 obtain⟨ya,yf,e0,yd,yb,n0,t0,yt,yl,he0,H0⟩:=hR (u 5) s.md.2 (R0 ⟨it,c1,c2,c3,fe,fm,q,sl⟩ (j9 w b c A a7 t m tw rd at_ j u true 5630 (.int im (u 4)) 5634 false 5637 true []) 10 ⟨769,52,769,85⟩) (f0 n f) gh (n+5) (t+25) hs
 obtain⟨PL,h⟩:=chgR_8 w b c (aC A a7 a8 f) s gh n t 40 (ar [n0]) (ar [t0]) (vT 0 e0 yd yb) (Int.ofNat m) 0 0 tw 0 0 it c1 c2 c3 ya yf ⟨k,u,an j,(Int.ofNat rd),0,0,im,(Int.ofNat at_)⟩ yt yl (cN (dg m)) fe fm q sl (ap j) (am j) (fk (au Lim.h hj)<|fk (ac Lim.h q0)<|fk (aj Lim.h hj)<|fk (ac Lim.h q1)<|aa) (ab ⟨by kernel_rfl,bO (by kernel_rfl) (kd H0)⟩ aa) (fk (cT h1 h2)<|aa) (ab (hV he0) he)
 exact⟨(.add n0 1999),(.add n 1994),n0+2,n0+6,n0+7,n0+8,t0+22,.none,.ref (ad e0),j3 (.add t0 5632) (.add t0 5634) (.add t0 5636) (.add t0 5627),(kq m),PL,kF h⟩
theorem sb(hR:eP w b c A s at_ s.md.1)(he:He [((bne im 0),false)]):eF w b c A s (an j) (Int.ofNat rd) 0 im (Int.ofNat at_):=by
 rintro⟨it,c1,c2,c3,fe,fm,q,sl⟩ f k u a7 a8 gh n t m tw h1 h2 hs
 obtain⟨ya,yf,e0,yd,yb,n0,t0,yt,yl,he0,H0⟩:=hR (u 5) s.md.2 (R0 ⟨it,c1,c2,c3,fe,fm,q,sl⟩ (j9 w b c A a7 t m tw rd at_ j u true 5630 (.int im (u 4)) 5634 false 5637 false []) 10 ⟨769,52,769,85⟩) (f0 n f) gh (n+5) (t+25) hs
 obtain⟨PL,h⟩:=chgR_9 w b c (aC A a7 a8 f) s gh n t 40 (ar [n0]) (ar [t0]) (vT 0 e0 yd yb) (Int.ofNat m) 0 0 tw 0 0 it c1 c2 c3 ya yf ⟨k,u,an j,(Int.ofNat rd),0,0,im,(Int.ofNat at_)⟩ yt yl (cN (dg m)) fe fm q sl (ap j) (am j) (fk (au Lim.h hj)<|fk (ac Lim.h q0)<|fk (aj Lim.h hj)<|fk (ac Lim.h q1)<|aa) (ab ⟨by kernel_rfl,bO (by kernel_rfl) (kd H0)⟩ aa) (fk (cT h1 h2)<|aa) (ab (hV he0) he)
 exact⟨(.add n0 1999),(.add n 1994),n0+2,n0+6,n0+7,n0+8,t0+22,.none,.ref (ad e0),j3 (.add t0 5632) (.add t0 5634) (.add t0 5636) (.add t0 5627),(kq m),PL,kF h⟩
theorem yk(old:Int)(hR:bw w b c A s at_ s.md.1 old)(q2:BEq.beq (am j).cps.toList [115]=true)(hW:cL w b c A s at_ s.md.1 (Builtin.bitOr old im))(he:He [((bne im 0),true)]):eF w b c A s (an j) (Int.ofNat rd) 0 im (Int.ofNat at_):=by
 rintro⟨it,c1,c2,c3,fe,fm,q,sl⟩ f k u a7 a8 gh n t m tw h1 h2 hs
 obtain⟨told,n0,t0,H0⟩:=hR gh (n+5) (t+25) (u 5) s.md.2
 obtain⟨ya,yf,e0,yd,yb,n1,t1,yt,yl,he0,H1⟩:=hW (u 5) (.add t0 5619) s.md.2 (R0 ⟨it,c1,c2,c3,fe,fm,q,sl⟩ (j9 w b c A a7 t m tw rd at_ j u true 5630 (.int im (u 4)) 5634 false 5637 true (sz w b c (.add t0 5615) (.int old told) (.add t0 5620) (.int (Builtin.bitOr old im) (.add t0 5619)))) 12 ⟨772,16,772,57⟩) (f0 n f) gh (n0+0) (t0+8) hs
 obtain⟨PL,h⟩:=I8 w b c (aC A a7 a8 f) s gh n t 40 (ar [n0,n1]) (ar [t0,t1]) (vT 1 e0 yd yb) (Int.ofNat m) old 0 tw told 0 it c1 c2 c3 ya yf ⟨k,u,an j,(Int.ofNat rd),0,0,im,(Int.ofNat at_)⟩ yt yl (cN (dg m)) fe fm q sl (ap j) (am j) (fk (au Lim.h hj)<|fk (ac Lim.h q0)<|fk (aj Lim.h hj)<|fk (ac Lim.h q1)<|fk (kd H0)<|fk (aj Lim.h hj)<|fk (ac Lim.h q2)<|aa) (ab ⟨by kernel_rfl,bO (by kernel_rfl) (kd H1)⟩ aa) (fk (cT h1 h2)<|aa) (ab (hV he0) he)
 exact⟨(.add n1 1999),(.add n 1994),n1+2,n1+6,n1+7,n1+8,t1+22,.none,.ref (ad e0),j3 (.add t1 5632) (.add t1 5634) (.add t1 5636) (.add t1 5627),(kq m),PL,kF h⟩
theorem yg(old:Int)(hR:bw w b c A s at_ s.md.1 old)(q2:BEq.beq (am j).cps.toList [115]=false)(hW:cL w b c A s at_ s.md.1 (Builtin.bitAnd old (Builtin.bitXor 4294967295 im)))(he:He [((bne im 0),true)]):eF w b c A s (an j) (Int.ofNat rd) 0 im (Int.ofNat at_):=by
 rintro⟨it,c1,c2,c3,fe,fm,q,sl⟩ f k u a7 a8 gh n t m tw h1 h2 hs
 obtain⟨told,n0,t0,H0⟩:=hR gh (n+5) (t+25) (u 5) s.md.2
 obtain⟨ya,yf,e0,yd,yb,n1,t1,yt,yl,he0,H1⟩:=hW (u 5) (.add t0 5620) s.md.2 (R0 ⟨it,c1,c2,c3,fe,fm,q,sl⟩ (j9 w b c A a7 t m tw rd at_ j u true 5630 (.int im (u 4)) 5634 false 5637 true (sz w b c (.add t0 5615) (.int old told) (.add t0 5621) (.int (Builtin.bitAnd old (Builtin.bitXor 4294967295 im)) (.add t0 5620)))) 12 ⟨772,16,772,57⟩) (f0 n f) gh (n0+0) (t0+9) hs
 obtain⟨PL,h⟩:=If w b c (aC A a7 a8 f) s gh n t 40 (ar [n0,n1]) (ar [t0,t1]) (vT 1 e0 yd yb) (Int.ofNat m) old 0 tw told 0 it c1 c2 c3 ya yf ⟨k,u,an j,(Int.ofNat rd),0,0,im,(Int.ofNat at_)⟩ yt yl (cN (dg m)) fe fm q sl (ap j) (am j) (fk (au Lim.h hj)<|fk (ac Lim.h q0)<|fk (aj Lim.h hj)<|fk (ac Lim.h q1)<|fk (kd H0)<|fk (aj Lim.h hj)<|fk (ac Lim.h q2)<|aa) (ab ⟨by kernel_rfl,bO (by kernel_rfl) (kd H1)⟩ aa) (fk (cT h1 h2)<|aa) (ab (hV he0) he)
 exact⟨(.add n1 1999),(.add n 1994),n1+2,n1+6,n1+7,n1+8,t1+22,.none,.ref (ad e0),j3 (.add t1 5632) (.add t1 5634) (.add t1 5636) (.add t1 5627),(kq m),PL,kF h⟩
end
end
end
end
section
variable(w:World)(b c:Bool)(A:AS)(s:BS)(gh:List (Addr×Obj))(n t L:Nat)(nn tt:Nat→Nat)(vv:Nat→Nat→Nat)(wd:Int)(tw j sp1 em1:Nat)(I:IS)(z1 p1 r1:Nat→Int×Nat)(es1:Array DictEntry)
def dl:Value:=.str I.nm (I.t 0)
def dV:Result:=rV (.bool false)
def fY(Y0:Nat):Nat:=Nat.add (vv 0 Y0) 1994
def p9:Nat×Obj:=(8,iO 121 (.add (A.a 9) 1994))
include w b c A s gh n t L nn tt vv wd tw j sp1 em1 I z1 p1 r1 es1
theorem Cf:bP w b c A gh L 40 [(28,Nat.add (nn 1) 1994),(13,Nat.add (nn 0) 1994),(12,fY vv 2),(11,fY vv 1),(10,fY vv 0),(7,Nat.add n 1994)] [(40,Nat.add (tt 1) 5615),(8,Nat.add (tt 0) 5615),(0,Nat.add t 5615)] [cS (cB "dict.get" [(rA A 6),(.int wd tw)]) 9 5 [(6,d6 (PP w b c) A s)] (rV .none) 9 6,⟨cR 1870 [(rA A 0),(.int wd tw)],9,7,(al w b c A s),rV (.ref (fY vv 0)),13,8,(al w b c A ⟨s.z,s.p,s.r,s.pc,s.md,s.sp,es1,em1⟩++[(10,tO [.int 5 5115,.none,.ref (fY vv 1)]),(11,iO 121 (fY vv 2)),(12,iD (PP w b c) I)])⟩,cS (cB "list.__getitem__" [(rA A 5),(.int I.rs1 (I.t 2))]) 16 14 [(5,d5 (PP w b c) A s)] (rV (bo s j)) 16 14,cS (cB "str.__eq__" [(dl I),(.str qN (.add (tt 0) 5634))]) 25 28 [] (dV) 25 28,cS (cB "str.__eq__" [(dl I),(.str qy (.add (tt 0) 5635))]) 25 29 [] (dV) 25 29,cS (cB "str.__eq__" [(dl I),(.str qD (.add (tt 0) 5636))]) 25 30 [] (dV) 25 30,cS (cB "str.__eq__" [(dl I),(.str qz (.add (tt 0) 5637))]) 25 31 [] (dV) 25 31,cS (cB "str.__eq__" [(dl I),(.str q6 (.add (tt 0) 5638))]) 25 32 [] (dV) 25 32,cS (cB "str.__eq__" [(dl I),(.str rf (.add (tt 0) 5639))]) 25 33 [] (dV) 25 33,cS (cB "str.__eq__" [(dl I),(.str qL (.add (tt 0) 5642))]) 26 36 [] (dV) 26 36,cS (cB "str.__getitem__" [(dl I),(.ref (.add (nn 0) 2007))]) 27 37 [(26,⟨(.type "slice"),none,(.fields ⟨[.none,(.int 3 (.add (tt 0) 5643)),.none]⟩),#[]⟩)] (rV (.str gq (.add (tt 0) 5644))) 27 38,⟨cR 1898 [(rA A 0),(.ref (fY vv 1)),(.int wd tw)],27,39,(al w b c A ⟨s.z,s.p,s.r,s.pc,s.md,s.sp,es1,em1⟩++[(11,iO 121 (fY vv 2)),(12,iD (PP w b c) I)]),rV .none,28,40,(al w b c A ⟨z1,p1,r1,s.pc,s.md,sp1,es1,em1⟩++[(11,iO 121 (fY vv 2)),(12,iD (PP w b c) I)])⟩] [((ir (HAppend.hAppend (List.cons (PySem.Value.str (PySem.Str.ofString ("mret")) (aQ (List.cons (Prod.mk 40 (.add (tt 1) 5615)) (List.cons (Prod.mk 8 (.add (tt 0) 5615)) (List.cons (Prod.mk 0 (.add t 5615)) ([])))) 33)) ([])) (HAppend.hAppend (List.cons (PySem.Value.str (PySem.Str.ofString ("sret")) (aQ (List.cons (Prod.mk 40 (.add (tt 1) 5615)) (List.cons (Prod.mk 8 (.add (tt 0) 5615)) (List.cons (Prod.mk 0 (.add t 5615)) ([])))) 34)) ([])) ([]))) I.nm),false)] (cR 1988 [.ref (.add (A.a 0) 1994),.int wd tw]) 7 (al w b c A s) (rV .none) 28 (al w b c A ⟨z1,p1,r1,((Builtin.bitAnd (s.pc.1+4) 4294967295),(.add (tt 0) 5631)),s.md,sp1,es1,em1⟩++[(10,tO [(.int 5 5115),.none,(.ref (fY vv 1))]),(11,iO 121 (fY vv 2)),(12,iD (PP w b c) I)]) 42:=ae (hm [0,0,8,9008000,6001002,8,0,0,0,9,9009000,2001002,7,9007009,1001,9,9,9,9,6001002,9,0,1002,9,9,9,3011014,14,9014011,14,16,1007009,2001002,9,2012013,6,6,6,6,1003,9,2012013,3017018,20,1005009,0,0,9,0,0,9,0,0,9,0,0,9,0,0,9,6001002,9,9,0,0,0,1006021,0,21,2012013,21,2001002,0,3022023,25,1005021,3004,21,3005,21,3006,21,3007,21,3008,21,3009,21,26,26,26,1000,26,2,21,3010,21,3011,21,6001002,21,21,0,1012,21,21,5001002])
theorem DW:bP w b c A gh L 40 [(27,Nat.add (nn 0) 1994),(10,Nat.add n 1994)] [(38,Nat.add (tt 0) 5615),(0,Nat.add t 5615)] [cS (cB "dict.get" [(rA A 6),(.int wd tw)]) 12 5 [(6,d6 (PP w b c) A s)] (rV (rA A 7)) 12 6,cS (cB "list.__getitem__" [(rA A 5),(.int I.rs1 (I.t 2))]) 15 12 [(5,d5 (PP w b c) A s)] (rV (bo s j)) 15 12,cS (cB "str.__eq__" [(dl I),(.str qN (.add t 5640))]) 24 26 [] (dV) 24 26,cS (cB "str.__eq__" [(dl I),(.str qy (.add t 5641))]) 24 27 [] (dV) 24 27,cS (cB "str.__eq__" [(dl I),(.str qD (.add t 5642))]) 24 28 [] (dV) 24 28,cS (cB "str.__eq__" [(dl I),(.str qz (.add t 5643))]) 24 29 [] (dV) 24 29,cS (cB "str.__eq__" [(dl I),(.str q6 (.add t 5644))]) 24 30 [] (dV) 24 30,cS (cB "str.__eq__" [(dl I),(.str rf (.add t 5645))]) 24 31 [] (dV) 24 31,cS (cB "str.__eq__" [(dl I),(.str qL (.add t 5648))]) 25 34 [] (dV) 25 34,cS (cB "str.__getitem__" [(dl I),(.ref (.add n 2009))]) 26 35 [(25,⟨(.type "slice"),none,(.fields ⟨[.none,(.int 3 (.add t 5649)),.none]⟩),#[]⟩)] (rV (.str gq (.add t 5650))) 26 36,⟨cR 1898 [(rA A 0),(rA A 8),(.int wd tw)],26,37,(al w b c A s++[p9 A,(9,iD (PP w b c) I)]),rV .none,27,38,(al w b c A ⟨z1,p1,r1,s.pc,s.md,sp1,s.es,s.em⟩++[p9 A,(9,iD (PP w b c) I)])⟩] [((ir (HAppend.hAppend (List.cons (PySem.Value.str (PySem.Str.ofString ("mret")) (aQ (List.cons (Prod.mk 38 (.add (tt 0) 5615)) (List.cons (Prod.mk 0 (.add t 5615)) ([]))) 31)) ([])) (HAppend.hAppend (List.cons (PySem.Value.str (PySem.Str.ofString ("sret")) (aQ (List.cons (Prod.mk 38 (.add (tt 0) 5615)) (List.cons (Prod.mk 0 (.add t 5615)) ([]))) 32)) ([])) ([]))) I.nm),false)] (cR 1988 [.ref (.add (A.a 0) 1994),.int wd tw]) 10 (al w b c A s++[(7,tO [.int 5 5115,.none,.ref (.add (A.a 8) 1994)]),p9 A,(9,iD (PP w b c) I)]) (rV .none) 27 (al w b c A ⟨z1,p1,r1,((Builtin.bitAnd (s.pc.1+4) 4294967295),(.add t 5637)),s.md,sp1,s.es,s.em⟩++[(7,tO [(.int 5 5115),.none,(rA A 8)]),p9 A,(9,iD (PP w b c) I)]) 40:=ae (hm [0,0,11,9011000,6001002,11,0,0,0,12,9012000,2001002,7,9007012,1001,1004012,3008013,13,9013008,13,15,1007012,2001002,12,2009010,6,6,6,6,1002,12,2009010,3016017,19,1005012,0,0,12,0,0,12,0,0,12,0,0,12,0,0,12,6001002,12,12,0,0,0,1006020,0,20,2009010,20,2001002,0,3021022,24,1005020,3003,20,3004,20,3005,20,3006,20,3007,20,3008,20,25,25,25,1000,25,2,20,3009,20,3010,20,6001002,20,20,0,1011,20,20,5001002])
end
section
variable(w:World)(b c:Bool)(A:AS)(s:BS)(gh:List (Addr×Obj))(n t L:Nat)(nn tt:Nat→Nat)(vv:Nat→Nat→Nat)(wd:Int)(tw j em1 it c1 c2 c3 xa xf:Nat)(xh xt:Value)(I:IS)(ek:Nat→Nat)(R:Str)(pl:Nat→Value)(es1:Array DictEntry)(fe:Nat→Array DictEntry)(fm:Nat→Nat)(q:Nat→PySem.Pos)(sl:Array (Option Value))
def dc(Y0 Y1:Nat):Nat:=Nat.add (vv Y0 Y1) 1994
def bW(Y0 Y1:Nat):Nat:=Nat.add (tt Y0) Y1
def etr0:List (DictEntry):=[ag w b c ku (.add t 5617) (rA A 0),ag w b c kD (.add t 5618) (.int wd tw),ag w b c yx (.add t 5621) (.ref (dc vv 0 0)),ag w b c jR (bW tt 0 5616) (.int 5 5115),ag w b c o5 (bW tt 0 5617) .none,ag w b c kK (bW tt 0 5618) (.ref (dc vv 0 1)),ag w b c iG (bW tt 0 5622) (.int I.im (I.t 4)),ag w b c yr (bW tt 0 5623) (bo s j)]
def etr1:List (DictEntry):=[ag w b c ku (.add t 5617) (rA A 0),ag w b c kD (.add t 5618) (.int wd tw),ag w b c yx (.add t 5621) (rA A 7),ag w b c jR (.add t 5622) (.int 5 5115),ag w b c o5 (.add t 5623) .none,ag w b c kK (.add t 5624) (rA A 8),ag w b c iG (.add t 5628) (.int I.im (I.t 4)),ag w b c yr (.add t 5629) (bo s j)]
def fE:Value:=.str I.nm (I.t 0)
def etr2:List (DictEntry):=[ag w b c ku (bW tt 0 5624) (rA A 0),ag w b c kK (bW tt 0 5625) (.ref (dc vv 0 1)),ag w b c kD (bW tt 0 5626) (.int wd tw),ag w b c yF (bW tt 0 5632) (.int (Builtin.bitAnd (s.pc.1+4) 4294967295) (bW tt 0 5631)),ag w b c dj (bW tt 0 5633) (fE I)]
def etr3:List (DictEntry):=[ag w b c ku (.add t 5630) (rA A 0),ag w b c kK (.add t 5631) (rA A 8),ag w b c kD (.add t 5632) (.int wd tw),ag w b c yF (.add t 5638) (.int (Builtin.bitAnd (s.pc.1+4) 4294967295) (.add t 5637)),ag w b c dj (.add t 5639) (fE I)]
def zM:List (DictEntry):=[ag w b c tT (.add t 5615) (rA A 0),ag w b c q9 (.add t 5616) (.int wd tw)]
def ig:Result:=rV (.bool false)
def etr8:Code:=us 144 9 KJ13 1877 1876 (.add n 1995)
def jX(Y0:Nat):Nat:=Nat.add (A.a Y0) 1994
include w b c A s gh n t L nn tt vv wd tw j em1 it c1 c2 c3 xa xf xh xt I ek R pl es1 fe fm q sl
theorem xT:pe w b c A gh L 40 [(32,Nat.add (nn 1) 1994),(31,dc vv 1 2),(30,dc vv 1 1),(29,dc vv 1 0),(14,Nat.add (nn 0) 1994),(13,dc vv 0 2),(12,dc vv 0 1),(11,dc vv 0 0),(8,Nat.add n 1994)] [(40,bW tt 1 5615),(8,bW tt 0 5615),(0,Nat.add t 5615)] [cS (cB "dict.get" [(rA A 6),(.int wd tw)]) 10 5 [(6,d6 (PP w b c) A s)] (rV .none) 10 6,⟨cR 1870 [(rA A 0),(.int wd tw)],10,7,(al w b c A s),rV (.ref (dc vv 0 0)),14,8,(al w b c A ⟨s.z,s.p,s.r,s.pc,s.md,s.sp,es1,em1⟩++[(11,tO [.int 5 5115,.none,.ref (dc vv 0 1)]),(12,iO 121 (dc vv 0 2)),(13,iD (PP w b c) I)])⟩,cS (cB "list.__getitem__" [(rA A 5),(.int I.rs1 (I.t 2))]) 17 14 [(5,d5 (PP w b c) A s)] (rV (bo s j)) 17 14,cS (cB "str.__eq__" [(fE I),(.str qN (bW tt 0 5634))]) 26 28 [] (ig) 26 28,cS (cB "str.__eq__" [(fE I),(.str qy (bW tt 0 5635))]) 26 29 [] (ig) 26 29,cS (cB "str.__eq__" [(fE I),(.str qD (bW tt 0 5636))]) 26 30 [] (ig) 26 30,cS (cB "str.__eq__" [(fE I),(.str qz (bW tt 0 5637))]) 26 31 [] (ig) 26 31,cS (cB "str.__eq__" [(fE I),(.str q6 (bW tt 0 5638))]) 26 32 [] (ig) 26 32,cS (cB "str.__eq__" [(fE I),(.str rf (bW tt 0 5639))]) 26 33 [] (ig) 26 33,cS (cB "str.__eq__" [(fE I),(.str qL (bW tt 0 5642))]) 27 36 [] (ig) 27 36,cS (cB "str.__getitem__" [(fE I),(.ref (.add (nn 0) 2007))]) 28 37 [(27,⟨(.type "slice"),none,(.fields ⟨[.none,(.int 3 (bW tt 0 5643)),.none]⟩),#[]⟩)] (rV (.str gq (bW tt 0 5644))) 28 38] [⟨cR 1898 [(rA A 0),(.ref (dc vv 0 1)),(.int wd tw)],28,39,(al w b c A ⟨s.z,s.p,s.r,s.pc,s.md,s.sp,es1,em1⟩++[(12,iO 121 (dc vv 0 2)),(13,iD (PP w b c) I),(21,⟨(.type "frame"),none,(.dict ⟨etr2 w b c A s tt vv wd tw I⟩ 5),#[]⟩),(9,⟨(.type "frame"),none,(.dict ⟨etr0 w b c A s t tt vv wd tw j I⟩ 8),#[]⟩),(8,⟨(.type "frame"),none,(.dict ⟨zM w b c A t wd tw⟩ 2),#[]⟩),(7,bC (fe 4) (fm 4) sl)]),.error (.ref (dc vv 1 0)),32,40,(al w b c A ⟨s.z,s.p,s.r,s.pc,s.md,s.sp,es1,em1⟩++[(12,iO 121 (dc vv 0 2)),(13,iD (PP w b c) I),(21,⟨(.type "frame"),none,(.dict ⟨etr2 w b c A s tt vv wd tw I⟩ 5),(cI 1890 1891 (.ref (.add n 1995)))⟩),(9,⟨(.type "frame"),none,(.dict ⟨etr0 w b c A s t tt vv wd tw j I⟩ 8),(cI 1876 1877 (.ref (.add n 1994)))⟩),(8,⟨(.type "frame"),none,(.dict ⟨zM w b c A t wd tw⟩ 2),(cI 1987 1988 (rA A 7))⟩),(7,bC (fe 4) (fm 4) (dD c1 c2 c3)),(29,exD xa (dc vv 1 1) (dc vv 1 2) xh),(30,edO (PP w b c) ek R wd tw),(31,iN xt xf .none pl)])⟩] [((us 144 11 Ek 1891 1890 (.add (nn 0) 2001),⟨757,12,757,42⟩)::(etr8 n,⟨719,12,719,48⟩)::(fnC 152 DX 1988 1987 (.add n 1994),⟨856,15,856,33⟩)::rX it (jX A 7) c1 c2 c3 q)] [((ir (HAppend.hAppend (List.cons (PySem.Value.str (PySem.Str.ofString ("mret")) (aQ (List.cons (Prod.mk 40 (bW tt 1 5615)) (List.cons (Prod.mk 8 (bW tt 0 5615)) (List.cons (Prod.mk 0 (.add t 5615)) ([])))) 33)) ([])) (HAppend.hAppend (List.cons (PySem.Value.str (PySem.Str.ofString ("sret")) (aQ (List.cons (Prod.mk 40 (bW tt 1 5615)) (List.cons (Prod.mk 8 (bW tt 0 5615)) (List.cons (Prod.mk 0 (.add t 5615)) ([])))) 34)) ([])) ([]))) I.nm),false)] (rX it (jX A 7) c1 c2 c3 q) (cR 1988 [.ref (jX A 0),.int wd tw]) 8 (al w b c A s++[(7,bC (fe 4) (fm 4) sl)]) (rV (.ref (.add (nn 1) 1997))) 36 (al w b c A ⟨s.z,s.p,s.r,s.pc,s.md,s.sp,es1,em1⟩++[(7,bC (fe 4) (fm 4) (dD c1 c2 c3)),(11,tO [(.int 5 5115),.none,(.ref (dc vv 0 1))]),(12,iO 121 (dc vv 0 2)),(13,iD (PP w b c) I),(35,tO [(.int 2 281),(.int wd tw)])]) 44:=jD (hm [0,0,9,9009000,6001002,9,0,0,0,10,9010000,2001002,7,9007010,1001,1004010,6001002,10,0,1002,10,10,10,3012015,15,9015012,15,17,1007010,2001002,10,2013014,6,6,6,6,1003,10,2013014,3018019,21,1005010,0,0,10,0,0,10,0,0,10,0,0,10,0,0,10,6001002,10,10,0,0,0,1006022,0,22,2013014,22,2001002,0,3023024,26,1005022,3004,22,3005,22,3006,22,3007,22,3008,22,3009,22,27,27,27,1000,27,2,22,3010,22,3011,22,6001002,22,22,0,1500,30,32,32,32,22,30,30,30,33,33,30,33,33,33,10,30,30,30,34,34,30,34,34,34,9,30,30,30,35,35,0,9000030,30,35,35,9,9,9,30,1010000,30,0,30,1005000,30,30,0,31,9,30,1010000,30,0,30,1005000,30,30,0,31,9,9,9,9])
theorem AA:pe w b c A gh L 40 [(31,Nat.add (nn 0) 1994),(30,dc vv 0 2),(29,dc vv 0 1),(28,dc vv 0 0),(11,Nat.add n 1994)] [(38,bW tt 0 5615),(0,Nat.add t 5615)] [cS (cB "dict.get" [(rA A 6),(.int wd tw)]) 13 5 [(6,d6 (PP w b c) A s)] (rV (rA A 7)) 13 6,cS (cB "list.__getitem__" [(rA A 5),(.int I.rs1 (I.t 2))]) 16 12 [(5,d5 (PP w b c) A s)] (rV (bo s j)) 16 12,cS (cB "str.__eq__" [(fE I),(.str qN (.add t 5640))]) 25 26 [] (ig) 25 26,cS (cB "str.__eq__" [(fE I),(.str qy (.add t 5641))]) 25 27 [] (ig) 25 27,cS (cB "str.__eq__" [(fE I),(.str qD (.add t 5642))]) 25 28 [] (ig) 25 28,cS (cB "str.__eq__" [(fE I),(.str qz (.add t 5643))]) 25 29 [] (ig) 25 29,cS (cB "str.__eq__" [(fE I),(.str q6 (.add t 5644))]) 25 30 [] (ig) 25 30,cS (cB "str.__eq__" [(fE I),(.str rf (.add t 5645))]) 25 31 [] (ig) 25 31,cS (cB "str.__eq__" [(fE I),(.str qL (.add t 5648))]) 26 34 [] (ig) 26 34,cS (cB "str.__getitem__" [(fE I),(.ref (.add n 2009))]) 27 35 [(26,⟨(.type "slice"),none,(.fields ⟨[.none,(.int 3 (.add t 5649)),.none]⟩),#[]⟩)] (rV (.str gq (.add t 5650))) 27 36] [⟨cR 1898 [(rA A 0),(rA A 8),(.int wd tw)],27,37,(al w b c A s++[(8,iO 121 (jX A 9)),(9,iD (PP w b c) I),(20,⟨(.type "frame"),none,(.dict ⟨etr3 w b c A s t wd tw I⟩ 5),#[]⟩),(12,⟨(.type "frame"),none,(.dict ⟨etr1 w b c A s t wd tw j I⟩ 8),#[]⟩),(11,⟨(.type "frame"),none,(.dict ⟨zM w b c A t wd tw⟩ 2),#[]⟩),(10,bC (fe 4) (fm 4) sl)]),.error (.ref (dc vv 0 0)),31,38,(al w b c A s++[(8,iO 121 (jX A 9)),(9,iD (PP w b c) I),(20,⟨(.type "frame"),none,(.dict ⟨etr3 w b c A s t wd tw I⟩ 5),(cI 1890 1891 (.ref (.add n 1995)))⟩),(12,⟨(.type "frame"),none,(.dict ⟨etr1 w b c A s t wd tw j I⟩ 8),(cI 1876 1877 (.ref (.add n 1994)))⟩),(11,⟨(.type "frame"),none,(.dict ⟨zM w b c A t wd tw⟩ 2),(cI 1987 1988 (rA A 10))⟩),(10,bC (fe 4) (fm 4) (dD c1 c2 c3)),(28,exD xa (dc vv 0 1) (dc vv 0 2) xh),(29,edO (PP w b c) ek R wd tw),(30,iN xt xf .none pl)])⟩] [((us 144 11 Ek 1891 1890 (.add n 2003),⟨757,12,757,42⟩)::(etr8 n,⟨719,12,719,48⟩)::(fnC 152 DX 1988 1987 (.add n 1994),⟨856,15,856,33⟩)::rX it (jX A 10) c1 c2 c3 q)] [((ir (HAppend.hAppend (List.cons (PySem.Value.str (PySem.Str.ofString ("mret")) (aQ (List.cons (Prod.mk 38 (bW tt 0 5615)) (List.cons (Prod.mk 0 (.add t 5615)) ([]))) 31)) ([])) (HAppend.hAppend (List.cons (PySem.Value.str (PySem.Str.ofString ("sret")) (aQ (List.cons (Prod.mk 38 (bW tt 0 5615)) (List.cons (Prod.mk 0 (.add t 5615)) ([]))) 32)) ([])) ([]))) I.nm),false)] (rX it (jX A 10) c1 c2 c3 q) (cR 1988 [.ref (jX A 0),.int wd tw]) 11 (al w b c A s++[(7,tO [.int 5 5115,.none,.ref (jX A 8)]),(8,iO 121 (jX A 9)),(9,iD (PP w b c) I),(10,bC (fe 4) (fm 4) sl)]) (rV (.ref (.add (nn 0) 1997))) 35 (al w b c A s++[(7,tO [(.int 5 5115),.none,(rA A 8)]),(8,iO 121 (jX A 9)),(9,iD (PP w b c) I),(10,bC (fe 4) (fm 4) (dD c1 c2 c3)),(34,tO [(.int 2 281),(.int wd tw)])]) 42:=jD (hm [0,0,12,9012000,6001002,12,0,0,0,13,9013000,2001002,7,9007013,1001,1004013,3008014,14,9014008,14,16,1007013,2001002,13,2009010,6,6,6,6,1002,13,2009010,3017018,20,1005013,0,0,13,0,0,13,0,0,13,0,0,13,0,0,13,6001002,13,13,0,0,0,1006021,0,21,2009010,21,2001002,0,3022023,25,1005021,3003,21,3004,21,3005,21,3006,21,3007,21,3008,21,26,26,26,1000,26,2,21,3009,21,3010,21,6001002,21,21,0,1500,29,31,31,31,21,29,29,29,32,32,29,32,32,32,13,29,29,29,33,33,29,33,33,33,12,29,29,29,34,34,0,9000029,29,34,34,12,12,12,29,1010000,29,0,29,1005000,29,29,0,30,12,29,1010000,29,0,29,1005000,29,29,0,30,1004012])
end
noncomputable def vJ:List Nat:=[1006002,1006000,1006003,1005023,19,19,19,24,24,9024019,24,24,3004025,27,1007002,24,9024019,24,24,3005028]
noncomputable def iK:List Nat:=vJ++[30,1007002,24,9024019,24,24,3006031,33,1007002,24,9024019,24,24,3007034]
noncomputable def vw:List Nat:=[24,9024019,24,24,3008037,39,1007002,24,9024019,24,24,3009040,42,1007002,24,9024019,24,24,3010043,45]
noncomputable def qS:List Nat:=[1007002,24,9024019,24,24,3011046,48,1007002,24,9024019,24,24,3012049]
noncomputable def jS:List Nat:=vw++qS++[51]
noncomputable def u8:List Nat:=iK++[36,1007002]++jS++[1007002,24,9024019,24,24,3013052,54,1007002,24,9024019]
noncomputable def pO:List Nat:=[24,3015058,60,1007002,24,9024019,24,24,3016061,63,1007002,24,9024019,24,24,3017064]
noncomputable def m7:List Nat:=[1007002,24,9024019,24,24,3018067,69,1007002,24,9024019]
noncomputable def p8:List Nat:=[24,3014055,57,1007002,24,9024019,24]++pO++[66]++m7
noncomputable def iW:List Nat:=[1008002,1006000,1006003,3023024,24,9024023,24,24,9024023,24,26,1010002,22,22,22,1001]
noncomputable def iJ:List Nat:=[1007002,24,9024019,24,24,3013052,54,1007002,24,9024019,24]++p8++[24,71,2,2]
noncomputable def dW:List Nat:=[1006002,1,2,2,2,2,1,1,1,1001,24,9024019,24]
noncomputable def n9:List Nat:=iW++[2,2,0,0,2,2,2,2,20,20,20,1002]
noncomputable def nM:List Nat:=[0,0]++n9++[2,1,2,1,2,1,1,1,1,1003,2]
noncomputable def nk:List Nat:=[0]++u8++[24,24,3014055,57,1007002,24,9024019,24]
noncomputable def nP:List Nat:=[1,1,1,1001,0,2,2,1,1,1,1,1002,0,3072073,75,1005002]
noncomputable def kV:List Nat:=[0,0]++u8++[24]++p8++[24,71,2]
section
variable(w:World)(b c:Bool)(A:AS)(s:BS)(gh:List (Addr×Obj))(n t L:Nat)(kt:Nat→Nat)(o:Nat→Int×Nat)(i ti tm:Nat)(m:Int)
def dZ(Y0:Int)(Y1:Nat):Value:=.int Y0 (.add t Y1)
def Ff:Obj:=lO [(dZ t 2816 5690),(dZ t 2818 5691),(dZ t 2944 5692),(dZ t 2946 5693),(dZ t 3072 5694),(dZ t 3073 5695),(dZ t 3074 5696),(dZ t 3200 5697),(dZ t 3201 5698),(dZ t 3202 5699)] 0
def bT:List (Nat×Obj):=[(0,bq (PP w b c) kt o)]
def zR:List (Nat×Nat):=[(1,Nat.add n 1994)]
def yh:List (Nat×Nat):=[(0,Nat.add t 5615)]
def sM(Y0:Nat):Code:=cB "list.__contains__" [(.ref (.add n Y0)),(.int (Int.ofNat i) ti)]
def Hq:Obj:=lO [(dZ t 257 5704),(dZ t 1984 5705),(dZ t 2817 5706),(dZ t 3075 5707),(dZ t 4095 5708)] 0
def ji:Result:=rV (.bool false)
def fa:Call:=cS (sM n i ti 2014) 26 98 [(21,Hq t)] (ji) 26 98
def Ck(x0:Nat):Call:=cS (sM n i ti 2012) 26 x0 [(19,Ff t)] (ji) 26 x0
def gz:Bool:=(decide (GE.ge (Int.ofNat i) 3072))
def eT:Bool:=(decide (LT.lt m (ak (aP (Int.ofNat i) 256) 4)))
def mE:Code:=(cR 1955 [.ref (.add (A.a 0) 1994),.int (Int.ofNat i) ti,.int m tm,.bool true])
def ij:Code:=(cR 1955 [.ref (.add (A.a 0) 1994),.int (Int.ofNat i) ti,.int m tm,.bool false])
def jG(x0:Nat):Call:=cS (sM n i ti 2012) 26 x0 [(19,Ff t)] (rV (.bool true)) 26 x0
def qn:Call:=cS (cB "dict.__getitem__" [(rA A 0),(dZ t 774 5719)]) 26 105 (bT w b c kt o) (rV (.int (o 774).1 (o 774).2)) 26 106
def ql:Bool:=(BEq.beq (Builtin.bitAnd (ay (o 774).1 (ak (Int.ofNat i) 4)) 1) 1)
def k8:Bool:=(iI (ak (Int.ofNat i) 4))
def xu:Call:=cS (cB "dict.__getitem__" [(rA A 0),(dZ t 262 5728)]) 26 114 (bT w b c kt o) (rV (.int (o 262).1 (o 262).2)) 26 115
def w3:Call:=cS (sM n i ti 2014) 26 98 [(21,Hq t)] (rV (.bool true)) 26 98
def xC:List (Bool×Bool):=[((decide (LT.lt m 3)),false),(gz i,true),(eT i m,false)]
def xm:List (Bool×Bool):=[((BEq.beq m 1),true),(ql o i,true),(k8 i,false),((decide (LT.lt m 3)),true),(gz i,true),(eT i m,false)]
def xI:List (Bool×Bool):=[((BEq.beq (Builtin.bitAnd (ay (o 262).1 (ak (Int.ofNat i) 4)) 1) 1),true),(k8 i,false),((BEq.beq m 1),false),(ql o i,true),(k8 i,false),((decide (LT.lt m 3)),true),(gz i,true),(eT i m,false)]
def uH:List (Bool×Bool):=[(ql o i,false),(k8 i,false),((decide (LT.lt m 3)),true),(gz i,true),(eT i m,false)]
def uv:List (Bool×Bool):=[((BEq.beq (Builtin.bitAnd (ay (o 262).1 (ak (Int.ofNat i) 4)) 1) 1),false),(k8 i,false),((BEq.beq m 1),false),(ql o i,true),(k8 i,false),((decide (LT.lt m 3)),true),(gz i,true),(eT i m,false)]
abbrev gF:=bP w b c A gh L 40 (zR n) (yh t)
include w b c A s gh n t L kt o i ti tm m
theorem let_0:gF w b c A gh n t L [fa n t i ti,Ck n t i ti 103] [(gz i,false),(eT i m,false)] (mE A i ti tm m) 1 (bT w b c kt o) (rV (.bool true)) 26 (bT w b c kt o) 103:=ae (hm ([0,0]++iW++[2,2,0,0,1006002,20,20,20,1002]))
theorem let_1:gF w b c A gh n t L [fa n t i ti,Ck n t i ti 102] [(eT i m,false)] (ij A i ti tm m) 1 (bT w b c kt o) (rV (.bool true)) 26 (bT w b c kt o) 102:=ae (hm ([0,0]++n9))
theorem let_2:gF w b c A gh n t L [fa n t i ti] [(eT i m,true)] (mE A i ti tm m) 1 (bT w b c kt o) (ji) 26 (bT w b c kt o) 102:=ae (hm ([0,0]++iW++[2,2,0,0,1]))
theorem let_3:gF w b c A gh n t L [fa n t i ti] [(eT i m,true)] (ij A i ti tm m) 1 (bT w b c kt o) (ji) 26 (bT w b c kt o) 102:=ae (hm ([0,0]++iW++[2,2,0,0,1]))
theorem let_4:gF w b c A gh n t L [fa n t i ti,jG n t i ti 103] [(gz i,false),(gz i,false),(eT i m,false)] (mE A i ti tm m) 1 (bT w b c kt o) (rV (.bool true)) 26 (bT w b c kt o) 104:=ae (hm ([0,0]++iW++[2,2,0,0,1006002,20,20,20,1002,2,2]))
theorem let_5:gF w b c A gh n t L [fa n t i ti,jG n t i ti 102] [(gz i,false),(eT i m,false)] (ij A i ti tm m) 1 (bT w b c kt o) (rV (.bool true)) 26 (bT w b c kt o) 103:=ae (hm ([0,0]++n9++[2,2]))
theorem let_6:gF w b c A gh n t L [fa n t i ti] [(gz i,true),(eT i m,false)] (mE A i ti tm m) 1 (bT w b c kt o) (ji) 26 (bT w b c kt o) 103:=ae (hm ([0,0]++iW++[2,2,0,0,2,2,2,1]))
theorem let_7:gF w b c A gh n t L [fa n t i ti,jG n t i ti 102] (xC i m) (ij A i ti tm m) 1 (bT w b c kt o) (rV (.bool true)) 26 (bT w b c kt o) 104:=ae (hm ([0,0]++n9++[2,1,2,2]))
theorem let_8:gF w b c A gh n t L [fa n t i ti,jG n t i ti 102,qn w b c A t kt o] (xm o i m) (ij A i ti tm m) 1 (bT w b c kt o) (rV (.bool true)) 26 (bT w b c kt o) 113:=ae (hm (nM++[0,2,1,2,1]))
theorem let_9:gF w b c A gh n t L [fa n t i ti,jG n t i ti 102,qn w b c A t kt o,xu w b c A t kt o] (xI o i m) (ij A i ti tm m) 1 (bT w b c kt o) (rV (.bool true)) 26 (bT w b c kt o) 121:=ae (hm (nM++[0,2,1,2,2,2,1,1,1,1,1004,2,0,2,1]))
theorem let_10:re w b c A gh L 40 (zR n) (yh t) [w3 n t i ti] (mE A i ti tm m) 1 (bT w b c kt o) (ji) 26 (bT w b c kt o) 98:=ph (hm ([0,0]++iW))
theorem let_11:re w b c A gh L 40 (zR n) (yh t) [w3 n t i ti] (ij A i ti tm m) 1 (bT w b c kt o) (ji) 26 (bT w b c kt o) 98:=ph (hm ([0,0]++iW))
theorem let_12:gF w b c A gh n t L [fa n t i ti,jG n t i ti 102,qn w b c A t kt o] (uH o i m) (ij A i ti tm m) 1 (bT w b c kt o) (ji) 26 (bT w b c kt o) 112:=ae (hm (nM++[0,2,2]))
theorem let_13:gF w b c A gh n t L [fa n t i ti,jG n t i ti 102,qn w b c A t kt o,xu w b c A t kt o] (uv o i m) (ij A i ti tm m) 1 (bT w b c kt o) (ji) 26 (bT w b c kt o) 121:=ae (hm (nM++[0,2,1,2,2,2,1,1,1,1,1004,2,0,2,2]))
end
section
variable(w:World)(b c:Bool)(A:AS)(s:BS)(gh:List (Addr×Obj))(n t L:Nat)(kt:Nat→Nat)(o:Nat→Int×Nat)(i ti:Nat)(xw:Int)(tw:Nat)
def dq:List (Nat×Obj):=[(0,bq (PP w b c) kt o)]
def sR:Bool×Bool:=((BEq.beq (Int.ofNat i) 769),false)
def pV:Bool:=BEq.beq (ak (Int.ofNat i) 4) 2
def BK:List (Nat×Nat):=[(1,Nat.add n 1994)]
def Bm:List (Nat×Nat):=[(0,Nat.add t 5615)]
def iC:Code:=(cR 1962 [.ref (.add (A.a 0) 1994),.int (Int.ofNat i) ti])
def jA:Call:=cS (cB "dict.__contains__" [(rA A 0),(.int (Int.ofNat i) ti)]) 2 2 (dq w b c kt o) (rV (.bool false)) 2 3
def xF:Call:=cS (cB "dict.__getitem__" [(rA A 0),(.str uN (.add t 5623))]) 2 9 (dq w b c kt o) (rV (.int (o 2816).1 (o 2816).2)) 2 10
def nJ:Bool:=(decide (GE.ge (ak (Int.ofNat i) 256) 128))
def jz:Bool:=(decide (GE.ge (Int.ofNat i) 3840))
def wP:Call:=cS (cB "dict.__getitem__" [(rA A 0),(.str wa (.add t 5623))]) 2 9 (dq w b c kt o) (rV (.int (o 2818).1 (o 2818).2)) 2 10
def wT(x0 x1 x2 x3 x4 x5 x6 x7:Nat):Call:=cS (cB "dict.__getitem__" [(.ref (.add n 1995)),(.int (Int.ofNat i) ti)]) 3 x0 [(2,dO [⟨769,(.int 769 (.add t x1)),(.int 1075056896 (.add t x2))⟩,⟨3857,(.int 3857 (.add t x3)),(.int 0 (.add t x4))⟩,⟨3860,(.int 3860 (.add t x5)),(.int 3 (.add t x6))⟩] 3)] (rV (.int xw tw)) 3 x7
def rJ:List (Bool×Bool):=[(nJ i,false),((pV i),false),sR i,(jz i,false)]
def su:List (Bool×Bool):=[(nJ i,false),((pV i),true),sR i,(jz i,false)]
def sg:List (Bool×Bool):=[(nJ i,true),((pV i),false),sR i,(jz i,false)]
def rS:List (Bool×Bool):=[(nJ i,true),((pV i),true),sR i,(jz i,false)]
abbrev ng:=bP w b c A gh L 40 (BK n) (Bm t)
include w b c A s gh n t L kt o i ti xw tw
theorem IV:re w b c A gh L 40 (BK n) (Bm t) [cS (cB "dict.__contains__" [(rA A 0),(.int (Int.ofNat i) ti)]) 2 2 (dq w b c kt o) (rV (.bool true)) 2 3,cS (cB "dict.__getitem__" [(rA A 0),(.int (Int.ofNat i) ti)]) 2 3 (dq w b c kt o) (rV (.int (o i).1 (o i).2)) 2 4] (iC A i ti) 1 (dq w b c kt o) (rV (.int (o i).1 (o i).2)) 2 (dq w b c kt o) 4:=ph (hm [0,0,2,9002000,2,1,1,1,1001,2,2,1,1,1,1,1002])
theorem IO:ng w b c A gh n t L [jA w b c A kt o i ti,xF w b c A t kt o] (rJ i) (iC A i ti) 1 (dq w b c kt o) (rV (.int (ak (o 2816).1 4294967296) (.add t 5632))) 2 (dq w b c kt o) 18:=ae (hm [0,0,2,9002000,2,1,1,1,1001,2,2,9002000,2,1,1,1,1,1002,9002000,2,0])
theorem Jy:ng w b c A gh n t L [jA w b c A kt o i ti,wP w b c A t kt o] (su i) (iC A i ti) 1 (dq w b c kt o) (rV (.int (ak (o 2818).1 4294967296) (.add t 5632))) 2 (dq w b c kt o) 18:=ae (hm [0,0,2,9002000,2,1,1,1,1001,1005002,0,1,2,1,1,1,1,1002,9002000,2,0])
theorem IY:ng w b c A gh n t L [jA w b c A kt o i ti,xF w b c A t kt o] (sg i) (iC A i ti) 1 (dq w b c kt o) (rV (.int (aP (o 2816).1 4294967296) (.add t 5632))) 2 (dq w b c kt o) 18:=ae (hm [0,0,2,9002000,2,1,1,1,1001,2,2,9002000,2,1,1,1,1,1002,2,2,2,0,1,2,0])
theorem H4:ng w b c A gh n t L [jA w b c A kt o i ti,wP w b c A t kt o] (rS i) (iC A i ti) 1 (dq w b c kt o) (rV (.int (aP (o 2818).1 4294967296) (.add t 5632))) 2 (dq w b c kt o) 18:=ae (hm [0,0,2,9002000,2,1,1,1,1001,1005002,0,1,2,1,1,1,1,1002,2,2,2,0,1,2,0])
theorem Is:ng w b c A gh n t L [jA w b c A kt o i ti,wT n t i ti xw tw 32 5620 5639 5640 5641 5642 5643 33] [((BEq.beq (Int.ofNat i) 769),true),(jz i,false)] (iC A i ti) 1 (dq w b c kt o) (rV (.int xw tw)) 3 (dq w b c kt o) 33:=ae (hm [0,0,2,9002000,2,1,1,1,1001,2,2,2,1,1012003,2,3,3,3,3,1002])
theorem HL:ng w b c A gh n t L [jA w b c A kt o i ti,wT n t i ti xw tw 31 5619 5638 5639 5640 5641 5642 32] [(jz i,true)] (iC A i ti) 1 (dq w b c kt o) (rV (.int xw tw)) 3 (dq w b c kt o) 32:=ae (hm [0,0,2,9002000,2,1,1,1,1001,2,1,1012003,2,3,3,3,3,1002])
end
section
variable(w:World)(b c:Bool)(A:AS)(s:BS)(gh:List (Addr×Obj))(n t L:Nat)(kt:Nat→Nat)(o o1:Nat→Int×Nat)(i ti tv:Nat)(v:Int)
def bj:List (Nat×Obj):=[(0,bq (PP w b c) kt o)]
def bx:List (Nat×Obj):=[(0,bq (PP w b c) kt o1)]
def AJ:List (Nat×Nat):=[(1,Nat.add n 1994)]
def BB:List (Nat×Nat):=[(0,Nat.add t 5615)]
def tQ:Value:=.str uN (.add t 5744)
def qx:Bool:=BEq.beq (ak (Int.ofNat i) 4) 2
def iS:Value:=.int (Int.ofNat i) ti
def t9:Value:=.str wa (.add t 5744)
def jF(x0 x1 x2 x3:Nat):Call:=⟨cB "dict.__setitem__" [(rA A 0),(iS i ti),(.int (Builtin.bitAnd v 4294967295) (.add t x0))],x1,x2,bj w b c kt o,rV .none,x1,x3,bx w b c kt o1⟩
def b6:Bool:=(decide (LE.le 2816 (Int.ofNat i)))
def cn:Bool:=(BEq.beq 262 (Int.ofNat i))
def b9:Bool:=(BEq.beq 774 (Int.ofNat i))
def cu:Bool:=(BEq.beq 384 (Int.ofNat i))
def ca:Bool:=(BEq.beq 771 (Int.ofNat i))
def b0:Bool:=(BEq.beq 770 (Int.ofNat i))
def b8:Bool:=(BEq.beq 261 (Int.ofNat i))
def ce:Bool:=(BEq.beq 773 (Int.ofNat i))
def b7:Bool:=(BEq.beq 321 (Int.ofNat i))
def cf:Bool:=(BEq.beq 833 (Int.ofNat i))
def ch:Bool:=(BEq.beq 323 (Int.ofNat i))
def ck:Bool:=(BEq.beq 835 (Int.ofNat i))
def bZ:Bool:=(BEq.beq 322 (Int.ofNat i))
def cx:Bool:=(BEq.beq 834 (Int.ofNat i))
def cj:Bool:=(BEq.beq 320 (Int.ofNat i))
def cw:Bool:=(BEq.beq 832 (Int.ofNat i))
def cr:Code:=(cR 1969 [.ref (.add (A.a 0) 1994),iS i ti,.int v tv])
def xH(x0 x1 x2 x3:Nat):Call:=⟨cB "dict.__setitem__" [(rA A 0),(iS i ti),(.int (Builtin.bitAnd v 4294967292) (.add t x0))],x1,x2,bj w b c kt o,rV .none,x1,x3,bx w b c kt o1⟩
def w8(x0 x1 x2 x3:Nat):Call:=⟨cB "dict.__setitem__" [(rA A 0),(iS i ti),(.int (Builtin.bitAnd v 4294967293) (.add t x0))],x1,x2,bj w b c kt o,rV .none,x1,x3,bx w b c kt o1⟩
def w0(x0 x1 x2 x3:Nat):Call:=⟨cB "dict.__setitem__" [(rA A 0),(iS i ti),(.int (Builtin.bitAnd v 7) (.add t x0))],x1,x2,bj w b c kt o,rV .none,x1,x3,bx w b c kt o1⟩
def nO(x0 x1:Nat):Call:=cS (cB "dict.__getitem__" [(rA A 0),(tQ t)]) 71 x0 (bj w b c kt o) (rV (.int (o 2816).1 (o 2816).2)) 71 x1
def nG:Bool:=(decide (GE.ge (ak (Int.ofNat i) 256) 128))
def nj:Bool:=(decide (LT.lt (Int.ofNat i) 3072))
def ni(x0 x1:Nat):Call:=cS (cB "dict.__getitem__" [(rA A 0),(t9 t)]) 71 x0 (bj w b c kt o) (rV (.int (o 2818).1 (o 2818).2)) 71 x1
def p7:List (Bool×Bool):=[(b6 i,false),(cn i,false),(b9 i,false),(cu i,false),(ca i,false),(b0 i,false),(b8 i,false),(ce i,false),(b7 i,false),(cf i,false),(ch i,false),(ck i,false),(bZ i,false),(cx i,false),(cj i,false),(cw i,true)]
def py:List (Bool×Bool):=[(b6 i,false),(cn i,false),(b9 i,false),(cu i,false),(ca i,false),(b0 i,false),(b8 i,false),(ce i,false),(b7 i,false),(cf i,false),(ch i,false),(ck i,false),(bZ i,false),(cx i,false),(cj i,true),(cw i,false)]
def pE:List (Bool×Bool):=[(b6 i,false),(cn i,false),(b9 i,false),(cu i,false),(ca i,false),(b0 i,false),(b8 i,false),(ce i,false),(b7 i,false),(cf i,false),(ch i,false),(ck i,false),(bZ i,false),(cx i,true),(cj i,false),(cw i,false)]
def qk:List (Bool×Bool):=[(b6 i,false),(cn i,false),(b9 i,false),(cu i,false),(ca i,false),(b0 i,false),(b8 i,false),(ce i,false),(b7 i,false),(cf i,false),(ch i,false),(ck i,false),(bZ i,true),(cx i,false),(cj i,false),(cw i,false)]
def pj:List (Bool×Bool):=[(b6 i,false),(cn i,false),(b9 i,false),(cu i,false),(ca i,false),(b0 i,false),(b8 i,false),(ce i,false),(b7 i,false),(cf i,false),(ch i,false),(ck i,true),(bZ i,false),(cx i,false),(cj i,false),(cw i,false)]
def px:List (Bool×Bool):=[(b6 i,false),(cn i,false),(b9 i,false),(cu i,false),(ca i,false),(b0 i,false),(b8 i,false),(ce i,false),(b7 i,false),(cf i,false),(ch i,true),(ck i,false),(bZ i,false),(cx i,false),(cj i,false),(cw i,false)]
def qf:List (Bool×Bool):=[(b6 i,false),(cn i,false),(b9 i,false),(cu i,false),(ca i,false),(b0 i,false),(b8 i,false),(ce i,false),(b7 i,false),(cf i,true),(ch i,false),(ck i,false),(bZ i,false),(cx i,false),(cj i,false),(cw i,false)]
def pq:List (Bool×Bool):=[(b6 i,false),(cn i,false),(b9 i,false),(cu i,false),(ca i,false),(b0 i,false),(b8 i,false),(ce i,false),(b7 i,true),(cf i,false),(ch i,false),(ck i,false),(bZ i,false),(cx i,false),(cj i,false),(cw i,false)]
def pf:List (Bool×Bool):=[(b6 i,false),(cn i,false),(b9 i,false),(cu i,false),(ca i,false),(b0 i,false),(b8 i,false),(ce i,true),(b7 i,false),(cf i,false),(ch i,false),(ck i,false),(bZ i,false),(cx i,false),(cj i,false),(cw i,false)]
def qu:List (Bool×Bool):=[(b6 i,false),(cn i,false),(b9 i,false),(cu i,false),(ca i,false),(b0 i,false),(b8 i,true),(ce i,false),(b7 i,false),(cf i,false),(ch i,false),(ck i,false),(bZ i,false),(cx i,false),(cj i,false),(cw i,false)]
def oG:List (Bool×Bool):=[(b6 i,false),(cn i,false),(b9 i,false),(cu i,false),(ca i,false),(b0 i,true),(b8 i,false),(ce i,false),(b7 i,false),(cf i,false),(ch i,false),(ck i,false),(bZ i,false),(cx i,false),(cj i,false),(cw i,false)]
def oy:List (Bool×Bool):=[(b6 i,false),(cn i,false),(b9 i,false),(cu i,false),(ca i,true),(b0 i,false),(b8 i,false),(ce i,false),(b7 i,false),(cf i,false),(ch i,false),(ck i,false),(bZ i,false),(cx i,false),(cj i,false),(cw i,false)]
def oD:List (Bool×Bool):=[(b6 i,false),(cn i,false),(b9 i,false),(cu i,true),(ca i,false),(b0 i,false),(b8 i,false),(ce i,false),(b7 i,false),(cf i,false),(ch i,false),(ck i,false),(bZ i,false),(cx i,false),(cj i,false),(cw i,false)]
def oz:List (Bool×Bool):=[(b6 i,false),(cn i,false),(b9 i,true),(cu i,false),(ca i,false),(b0 i,false),(b8 i,false),(ce i,false),(b7 i,false),(cf i,false),(ch i,false),(ck i,false),(bZ i,false),(cx i,false),(cj i,false),(cw i,false)]
def oI:List (Bool×Bool):=[(b6 i,false),(cn i,true),(b9 i,false),(cu i,false),(ca i,false),(b0 i,false),(b8 i,false),(ce i,false),(b7 i,false),(cf i,false),(ch i,false),(ck i,false),(bZ i,false),(cx i,false),(cj i,false),(cw i,false)]
def ov:List (Bool×Bool):=[(nG i,false),((qx i),false),(nj i,true),(b6 i,true),(cn i,false),(b9 i,false),(cu i,false),(ca i,false),(b0 i,false),(b8 i,false),(ce i,false),(b7 i,false),(cf i,false),(ch i,false),(ck i,false),(bZ i,false),(cx i,false),(cj i,false),(cw i,false)]
def oK:List (Bool×Bool):=[(nG i,false),((qx i),true),(nj i,true),(b6 i,true),(cn i,false),(b9 i,false),(cu i,false),(ca i,false),(b0 i,false),(b8 i,false),(ce i,false),(b7 i,false),(cf i,false),(ch i,false),(ck i,false),(bZ i,false),(cx i,false),(cj i,false),(cw i,false)]
def ot:List (Bool×Bool):=[(nG i,true),((qx i),false),(nj i,true),(b6 i,true),(cn i,false),(b9 i,false),(cu i,false),(ca i,false),(b0 i,false),(b8 i,false),(ce i,false),(b7 i,false),(cf i,false),(ch i,false),(ck i,false),(bZ i,false),(cx i,false),(cj i,false),(cw i,false)]
def oJ:List (Bool×Bool):=[(nG i,true),((qx i),true),(nj i,true),(b6 i,true),(cn i,false),(b9 i,false),(cu i,false),(ca i,false),(b0 i,false),(b8 i,false),(ce i,false),(b7 i,false),(cf i,false),(ch i,false),(ck i,false),(bZ i,false),(cx i,false),(cj i,false),(cw i,false)]
def oC:List (Bool×Bool):=[(b6 i,false),(cn i,false),(b9 i,false),(cu i,false),(ca i,false),(b0 i,false),(b8 i,false),(ce i,false),(b7 i,false),(cf i,false),(ch i,false),(ck i,false),(bZ i,false),(cx i,false),(cj i,false),(cw i,false)]
abbrev ds:=bP w b c A gh L 40 (AJ n) (BB t)
include w b c A s gh n t L kt o o1 i ti tv v
theorem El:ds w b c A gh n t L [jF w b c A t kt o o1 i ti v 5711 27 97 98] (p7 i) (cr A i ti tv v) 1 (bj w b c kt o) (rV .none) 71 (bx w b c kt o1) 127:=ae (hm ([0,0,1006002,1006000,1006003,1005023,19,19,19,24,24,9024019,24,24,3004025,27]++dW++[24,3005028,30,1007002,24,9024019,24,24,3006031,33,1007002,24,9024019,24,24,3007034,36,1007002]++jS++iJ))
theorem En:ds w b c A gh n t L [jF w b c A t kt o o1 i ti v 5713 30 99 100] (py i) (cr A i ti tv v) 1 (bj w b c kt o) (rV .none) 71 (bx w b c kt o1) 127:=ae (hm ([0,0]++vJ++[30]++dW++[24,3006031,33,1007002,24,9024019,24,24,3007034,36,1007002]++jS++iJ))
theorem Da:ds w b c A gh n t L [jF w b c A t kt o o1 i ti v 5715 33 101 102] (pE i) (cr A i ti tv v) 1 (bj w b c kt o) (rV .none) 71 (bx w b c kt o1) 127:=ae (hm ([0,0]++vJ++[30,1007002,24,9024019,24,24,3006031,33]++dW++[24,3007034,36,1007002]++jS++iJ))
theorem Ej:ds w b c A gh n t L [jF w b c A t kt o o1 i ti v 5717 36 103 104] (qk i) (cr A i ti tv v) 1 (bj w b c kt o) (rV .none) 71 (bx w b c kt o1) 127:=ae (hm ([0,0]++iK++[36,1006002,1,2,2,2,2,1,1,1,1001]++jS++iJ))
theorem EG:ds w b c A gh n t L [jF w b c A t kt o o1 i ti v 5719 39 105 106] (pj i) (cr A i ti tv v) 1 (bj w b c kt o) (rV .none) 71 (bx w b c kt o1) 127:=ae (hm ([0,0]++iK++[36,1007002,24,9024019,24,24,3008037,39]++dW++[24,3009040,42,1007002,24,9024019,24,24,3010043,45]++qS++[51]++iJ))
theorem D2:ds w b c A gh n t L [jF w b c A t kt o o1 i ti v 5721 42 107 108] (px i) (cr A i ti tv v) 1 (bj w b c kt o) (rV .none) 71 (bx w b c kt o1) 127:=ae (hm ([0,0]++iK++[36,1007002,24,9024019,24,24,3008037,39,1007002,24,9024019,24,24,3009040,42]++dW++[24,3010043,45]++qS++[51]++iJ))
theorem EH:ds w b c A gh n t L [xH w b c A t kt o o1 i ti v 5723 45 109 110] (qf i) (cr A i ti tv v) 1 (bj w b c kt o) (rV .none) 71 (bx w b c kt o1) 127:=ae (hm ([0,0]++iK++[36,1007002]++vw++dW++[24,3011046,48,1007002,24,9024019,24,24,3012049,51]++iJ))
theorem DE:ds w b c A gh n t L [xH w b c A t kt o o1 i ti v 5725 48 111 112] (pq i) (cr A i ti tv v) 1 (bj w b c kt o) (rV .none) 71 (bx w b c kt o1) 127:=ae (hm ([0,0]++iK++[36,1007002]++vw++[1007002,24,9024019,24,24,3011046,48]++dW++[24,3012049,51]++iJ))
theorem EY:ds w b c A gh n t L [w8 w b c A t kt o o1 i ti v 5727 51 113 114] (pf i) (cr A i ti tv v) 1 (bj w b c kt o) (rV .none) 71 (bx w b c kt o1) 127:=ae (hm ([0,0]++iK++[36,1007002]++jS++dW++[24,3013052,54,1007002,24,9024019,24]++p8++[24,71,2,2]))
theorem ES:ds w b c A gh n t L [w8 w b c A t kt o o1 i ti v 5729 54 115 116] (qu i) (cr A i ti tv v) 1 (bj w b c kt o) (rV .none) 71 (bx w b c kt o1) 127:=ae (hm ([0,0]++iK++[36,1007002]++jS++[1007002,24,9024019,24,24,3013052,54]++dW++p8++[24,71,2,2]))
theorem Ao:ds w b c A gh n t L [⟨cB "dict.__setitem__" [(rA A 0),(iS i ti),(.int (Builtin.bitAnd v 46079) (.add t 5731))],57,117,bj w b c kt o,rV .none,57,118,bx w b c kt o1⟩] (oG i) (cr A i ti tv v) 1 (bj w b c kt o) (rV .none) 71 (bx w b c kt o1) 127:=ae (hm ([0,0]++u8++[24,24,3014055,57]++dW++pO++[66]++m7++[24,71,2,2]))
theorem Ci:ds w b c A gh n t L [⟨cB "dict.__setitem__" [(rA A 0),(iS i ti),(.int (Builtin.bitAnd v 546) (.add t 5733))],60,119,bj w b c kt o,rV .none,60,120,bx w b c kt o1⟩] (oy i) (cr A i ti tv v) 1 (bj w b c kt o) (rV .none) 71 (bx w b c kt o1) 127:=ae (hm ([0]++nk++[24,3015058,60]++dW++[24,3016061,63,1007002,24,9024019,24,24,3017064,66]++m7++[24,71,2,2]))
theorem Bb:ds w b c A gh n t L [⟨cB "dict.__setitem__" [(rA A 0),(iS i ti),(.int (Builtin.bitAnd v 2151677951) (.add t 5735))],63,121,bj w b c kt o,rV .none,63,122,bx w b c kt o1⟩] (oD i) (cr A i ti tv v) 1 (bj w b c kt o) (rV .none) 71 (bx w b c kt o1) 127:=ae (hm ([0]++nk++[24,3015058,60,1007002,24,9024019,24,24,3016061,63]++dW++[24,3017064,66]++m7++[24,71,2,2]))
theorem Bz:ds w b c A gh n t L [w0 w b c A t kt o o1 i ti v 5737 66 123 124] (oz i) (cr A i ti tv v) 1 (bj w b c kt o) (rV .none) 71 (bx w b c kt o1) 127:=ae (hm ([0]++nk++pO++[66]++dW++[24,3018067,69,1007002,24,9024019,24,71,2,2]))
theorem BP:ds w b c A gh n t L [w0 w b c A t kt o o1 i ti v 5739 69 125 126] (oI i) (cr A i ti tv v) 1 (bj w b c kt o) (rV .none) 71 (bx w b c kt o1) 127:=ae (hm ([0]++nk++pO++[66,1007002,24,9024019,24,24,3018067,69]++dW++[71,2,2]))
theorem AH:ds w b c A gh n t L [nO w b c A t kt o 131 132,nO w b c A t kt o 136 137,⟨cB "dict.__setitem__" [(rA A 0),(tQ t),(.int (v+(aw 4294967296 (aP (o 2816).1 4294967296))) (.add t 5765))],75,151,bj w b c kt o,rV .none,75,152,bx w b c kt o1⟩] (ov i) (cr A i ti tv v) 1 (bj w b c kt o) (rV .none) 75 (bx w b c kt o1) 152:=ae (hm (kV++[1,1,2,0,1005002,1]++nP++[0,9002000,2,1,1,1,1003]))
theorem A4:ds w b c A gh n t L [ni w b c A t kt o 131 132,ni w b c A t kt o 136 137,⟨cB "dict.__setitem__" [(rA A 0),(t9 t),(.int (v+(aw 4294967296 (aP (o 2818).1 4294967296))) (.add t 5765))],75,151,bj w b c kt o,rV .none,75,152,bx w b c kt o1⟩] (oK i) (cr A i ti tv v) 1 (bj w b c kt o) (rV .none) 75 (bx w b c kt o1) 152:=ae (hm (kV++[1,1,2,0,1,2,2,2,2,1]++nP++[0,9002000,2,1,1,1,1003]))
theorem AE:ds w b c A gh n t L [nO w b c A t kt o 131 132,nO w b c A t kt o 136 137,⟨cB "dict.__setitem__" [(rA A 0),(tQ t),(.int ((ak (o 2816).1 4294967296)+(aw 4294967296 v)) (.add t 5765))],75,151,bj w b c kt o,rV .none,75,152,bx w b c kt o1⟩] (ot i) (cr A i ti tv v) 1 (bj w b c kt o) (rV .none) 75 (bx w b c kt o1) 152:=ae (hm (kV++[1,1,2,0,1005002,1]++nP++[0,1,2,2,0,2,2,1,1,1,1003]))
theorem Ch:ds w b c A gh n t L [ni w b c A t kt o 131 132,ni w b c A t kt o 136 137,⟨cB "dict.__setitem__" [(rA A 0),(t9 t),(.int ((ak (o 2818).1 4294967296)+(aw 4294967296 v)) (.add t 5765))],75,151,bj w b c kt o,rV .none,75,152,bx w b c kt o1⟩] (oJ i) (cr A i ti tv v) 1 (bj w b c kt o) (rV .none) 75 (bx w b c kt o1) 152:=ae (hm (kV++[1,1,2,0,1,2,2,2,2,1]++nP++[0,1,2,2,0,2,2,1,1,1,1003]))
theorem A3:Dl w b c A gh L 40 (AJ n) (BB t) (oC i) (cr A i ti tv v) 1 (bj w b c kt o) (rV .none) 71 (bj w b c kt o) 125:=lA (hm (kV++[2]))
end
section
variable{p:Program}{w:World}{S:HT}{B:Nat}{gh:List (Addr×Obj)}{n t:Nat}{C:Ctx→Prop}(hC:∀Γ,C Γ→Γ.handled=none)
include hC
open SeqAt in
theorem aA{a:Addr}{l:List Value}{m:Nat}{k:Int}{u:Nat}{v:Bool}(hi:cy l=true)(hv:hP l k=v):TriC (model p w) S B C (.builtin "list.__contains__" ⟨[.ref a,.int k u],[]⟩) gh [(a,lO l m)] n t (.ok (.ret (.bool v))) gh [(a,lO l m)] n t:=
 dL hC fun Γ P h gs dd os hh lo hp=>by
  subst hv
  rw[cM F.entry_list_contains]
  refine di (list_containsAt a ⟨l⟩ m none #[] (.int k u) (AC k)) hh fun A hA=>⟨hp (a,_) List.mem_cons_self,fun y hy=>?_,?_⟩
  ·obtain⟨x,u,rfl⟩:=kb hi y (by simpa using hy)
   exact oS x k _ _
  ·refine⟨?_,rfl⟩
   rw[←xE]
   simp
end
def bf:BS:=⟨fun _=>(0,0),fun _=>(0,0),fun _=>(0,0),(0,0),(0,0),0,#[],0⟩
def a1(d:Nat):AS:=⟨fun _=>d,fun _=>0⟩
abbrev TO(w:World)(b c:Bool)(d:Nat)(kt:Nat→Nat)(cd:Code)(gh:List (Addr×Obj))(o:Nat→Int×Nat)(n t:Nat)(r:Result)(o':Nat→Int×Nat)(n' t':Nat):Prop:=
 Tri (MM w b c) (bV (PP w b c)) 1994 40 cd gh [(.add d 1994,bq (PP w b c) kt o)] (.add n 1994) (.add t 5615) r gh [(.add d 1994,bq (PP w b c) kt o')] (.add n' 1994) (.add t' 5615)
inductive LetOkX (w:World) (b c:Bool) (o:Nat→Int×Nat) (i:Nat) (m:Int) (tw v:Bool) (kt:Nat→Nat) (d:Nat) (gh:List (Addr×Obj)) (n t ti tm:Nat):Prop where
 |mk (n' t':Nat) (h0_:TO w b c d kt (.call (.ref 1955) ⟨[.ref (.add d 1994),.int (Int.ofNat i) ti,.int m tm,.bool tw],[]⟩) gh o n t (.ok (.ret (.bool v))) o n' t'):LetOkX w b c o i m tw v kt d gh n t ti tm
def bu(w:World)(b c:Bool)(o:Nat→Int×Nat)(i:Nat)(m:Int)(tw v:Bool):Prop:=∀(kt:Nat→Nat) (d:Nat) (gh:List (Addr×Obj)) (n t ti tm:Nat),LetOkX w b c o i m tw v kt d gh n t ti tm
inductive LReadOkX (w:World) (b c:Bool) (o:Nat→Int×Nat) (i:Nat) (v:Int) (kt:Nat→Nat) (d:Nat) (gh:List (Addr×Obj)) (n t ti:Nat):Prop where
 |mk (tv n' t':Nat) (h0_:TO w b c d kt (.call (.ref 1962) ⟨[.ref (.add d 1994),.int (Int.ofNat i) ti],[]⟩) gh o n t (.ok (.ret (.int v tv))) o n' t'):LReadOkX w b c o i v kt d gh n t ti
def bM(w:World)(b c:Bool)(o:Nat→Int×Nat)(i:Nat)(v:Int):Prop:=∀(kt:Nat→Nat) (d:Nat) (gh:List (Addr×Obj)) (n t ti:Nat),LReadOkX w b c o i v kt d gh n t ti
inductive LWriteOkX (w:World) (b c:Bool) (o:Nat→Int×Nat) (i:Nat) (v:Int) (f:Nat→Int) (kt:Nat→Nat) (d:Nat) (gh:List (Addr×Obj)) (n t ti tv:Nat):Prop where
 |mk (o1:Nat→Int×Nat) (n' t':Nat) (h0_:(∀k,(o1 k).1=f k)) (h1_:TO w b c d kt (.call (.ref 1969) ⟨[.ref (.add d 1994),.int (Int.ofNat i) ti,.int v tv],[]⟩) gh o n t (.ok (.ret .none)) o1 n' t'):LWriteOkX w b c o i v f kt d gh n t ti tv
def aT(w:World)(b c:Bool)(o:Nat→Int×Nat)(i:Nat)(v:Int)(f:Nat→Int):Prop:=∀(kt:Nat→Nat) (d:Nat) (gh:List (Addr×Obj)) (n t ti tv:Nat),LWriteOkX w b c o i v f kt d gh n t ti tv
def vo(o:Nat→Int×Nat):Nat→Int:=fun k=>(o k).1
theorem o9(w:World)(k0 k1 k2:Nat)(v0 v1 v2:Value):dx w [kI 769 k0 v0,kI 3857 k1 v1,kI 3860 k2 v2]:=by
 intro e he
 simp only[List.mem_cons,List.not_mem_nil,or_false]at he
 rcases he with rfl|rfl|rfl
 iterate 3 exact ue w _ _ _ (by decide)
theorem F3{w:World}{b c:Bool}{S:HT}{B:Nat}{gh:List (Addr×Obj)}{n t:Nat}{C:Ctx→Prop}(hC:∀Γ,C Γ→Γ.handled=none){d i u k0 k1 k2:Nat}{v0 v1 v2 x:Value}(h:(i=769∧x=v0)∨(i=3857∧x=v1)∨(i=3860∧x=v2)):
  TriC (MM w b c) S B C (.builtin "dict.__getitem__" ⟨[.ref d,.int (Int.ofNat i) u],[]⟩) gh [(d,dO [kI 769 k0 v0,kI 3857 k1 v1,kI 3860 k2 v2] 3)] n t (.ok (.ret x)) gh [(d,dO [kI 769 k0 v0,kI 3857 k1 v1,kI 3860 k2 v2] 3)] n (t+1):=by
 rcases h with ⟨rfl,rfl⟩|⟨rfl,rfl⟩|⟨rfl,rfl⟩
 ·exact dt hC (k:=.inl (Int.ofNat 769)) (i:=0) (e:=kI 769 k0 x) (ib _ _) (o9 (W2 w b c) _ _ _ _ _ _) (by rw[df];rfl) rfl
 ·exact dt hC (k:=.inl (Int.ofNat 3857)) (i:=1) (e:=kI 3857 k1 x) (ib _ _) (o9 (W2 w b c) _ _ _ _ _ _) (by rw[df];rfl) rfl
 ·exact dt hC (k:=.inl (Int.ofNat 3860)) (i:=2) (e:=kI 3860 k2 x) (ib _ _) (o9 (W2 w b c) _ _ _ _ _ _) (by rw[df];rfl) rfl
def aX(A:AS)(a7 a8 a9:Nat):AS:=⟨gt [(7,a7),(8,a8),(9,a9)] A.a,A.k⟩
def aH(A:AS)(a7 a8 a9 a10:Nat):AS:=⟨gt [(7,a7),(8,a8),(9,a9),(10,a10)] A.a,A.k⟩
def aM(A:AS)(a7:Nat):AS:=⟨gt [(7,a7)] A.a,A.k⟩
def rowX(P:Params)(a7 a8 a9:Nat)(I:IS):List (Addr×Obj):=[(ad a7,tO [.int 5 5115,.none,.ref (ad a8)]),(ad a8,iO 121 (ad a9)),(ad a9,iD P I)]
theorem nF:∀j,j<6→∀t1 t2:Nat,ir ([Value.str (PySem.Str.ofString "mret") t1]++([Value.str (PySem.Str.ofString "sret") t2]++[])) (an j)=false:=
  ke (fun _ _=>by kernel_rfl) (fun _ _=>by kernel_rfl) (fun _ _=>by kernel_rfl) (fun _ _=>by kernel_rfl) (fun _ _=>by kernel_rfl) (fun _ _=>by kernel_rfl)
theorem bm:∀j,j<6→∀x∈([[108,117,105],[97,117,105,112,99],[106,97,108],[106,97,108,114],[101,99,97,108,108],[101,98,114,101,97,107],[115,102,101,110,99,101,46,118,109,97]]:List (List Nat)),BEq.beq (an j).cps.toList x=false:=
  ke (by decide) (by decide) (by decide) (by decide) (by decide) (by decide)
theorem sL{w:World}{b c:Bool}{gh:List (Addr×Obj)}{n t a tn ti:Nat}:∀j,j<6→Tri (MM w b c) (bV (PP w b c)) 1994 80 (.builtin "str.__getitem__" ⟨[.str (an j) tn,.ref (ad a)],[]⟩) gh [(ad a,⟨.type "slice",none,.fields ⟨[.none,.int 3 ti,.none]⟩,#[]⟩)] (.add n 1994) (.add t 5615)
   (.ok (.ret (.str gq (.add t 5615)))) gh [(ad a,⟨.type "slice",none,.fields ⟨[.none,.int 3 ti,.none]⟩,#[]⟩)] (.add n 1994) (.add (t+1) 5615):=
  ke (kE (scut_0 w b c (a1 a) bf gh n t 60 tn ti)) (kE (scut_1 w b c (a1 a) bf gh n t 60 tn ti)) (kE (scut_2 w b c (a1 a) bf gh n t 60 tn ti)) (kE (scut_3 w b c (a1 a) bf gh n t 60 tn ti)) (kE (scut_4 w b c (a1 a) bf gh n t 60 tn ti)) (kE (scut_5 w b c (a1 a) bf gh n t 60 tn ti))
abbrev IS'(k u:Nat→Nat)(j rd rs:Nat)(im:Int)(at_:Nat):IS:=⟨k,u,an j,Int.ofNat rd,Int.ofNat rs,0,im,Int.ofNat at_⟩
inductive LearnOkX (w:World) (b c:Bool) (A:AS) (j rd rs:Nat) (im:Int) (at_ m:Nat) (s:BS) (gh:List (Addr×Obj)) (n t tw:Nat):Prop where
  |mk (a7 a8 a9:Nat) (k u:Nat→Nat) (n' t':Nat) (h0_:n≤a7) (h1_:n≤a8) (h2_:n≤a9) (h3_:(a7≠a8∧a7≠a9∧a8≠a9)) (h4_:TB w b c A 40 (.call (.ref 1870) ⟨[.ref (ad (A.a 0)),.int (Int.ofNat m) tw],[]⟩) gh [] s n t (.ok (.ret (.ref (ad a7)))) gh (rowX (PP w b c) a7 a8 a9 (IS' k u j rd rs im at_)) ⟨s.z,s.p,s.r,s.pc,s.md,s.sp,s.es.push ⟨Int.ofNat m,.int (Int.ofNat m) tw,.ref (ad a7)⟩,Nat.add s.em 1⟩ n' t'):LearnOkX w b c A j rd rs im at_ m s gh n t tw
def fC(w:World)(b c:Bool)(A:AS)(j rd rs:Nat)(im:Int)(at_ m:Nat):Prop:=∀(s:BS) (gh:List (Addr×Obj)) (n t tw:Nat),IntKeys s.es→s.es.toList.length≤sizeLine→fIdx s.es.toList (Int.ofNat m)=none→
  LearnOkX w b c A j rd rs im at_ m s gh n t tw
theorem sS{α:Type}(l:List α)(a b x y z v:α)(Z:List α):(l++(a::x::y::z::v::b::Z)).Perm (l++(a::b::x::y::z::v::Z)):=
  List.Perm.append_left l (List.Perm.cons a (List.perm_middle (a:=b) (l₁:=[x,y,z,v]) (l₂:=Z)))
inductive told_miss_kX (w:World) (b:Bool) (c:Bool) (A:AS) (s:BS) (j:Nat) (rd:Nat) (rs:Nat) (im:Int) (at_:Nat) (m:Nat) (tw:Nat) (fz:Nat→Int) (fp:Nat→Int) (fr:Nat→Int) (n:Nat) (t:Nat):Prop where
 |mk (a7 a8 a9:Nat) (k u:Nat→Nat) (h0_:n≤a7) (h1_:n≤a8) (h2_:n≤a9) (h3_:(a7≠a8∧a7≠a9∧a8≠a9)) (h4_:∃(z1 p1 r1:Nat→Int×Nat) (sp1 pt n' t':Nat),(∀i,(z1 i).1=fz i)∧(∀i,(p1 i).1=fp i)∧(∀i,(r1 i).1=fr i)∧
 TB w b c A 120 (.call (.ref 1988) ⟨[.ref (ad (A.a 0)),.int (Int.ofNat m) tw],[]⟩) [] [] s n t (.ok (.ret .none)) [] (rowX (PP w b c) a7 a8 a9 (IS' k u j rd rs im at_)) ⟨z1,p1,r1,(Builtin.bitAnd (s.pc.1+4) 4294967295,pt),s.md,sp1,(s.es.push ⟨Int.ofNat m,.int (Int.ofNat m) tw,.ref (ad a7)⟩),(.add s.em 1)⟩ n' t'):told_miss_kX w b c A s j rd rs im at_ m tw fz fp fr n t
inductive told_hit_kX (w:World) (b:Bool) (c:Bool) (A:AS) (s:BS) (j:Nat) (rd:Nat) (rs:Nat) (im:Int) (at_:Nat) (m:Nat) (tw:Nat) (k:Nat→Nat) (u:Nat→Nat) (a7:Nat) (a8:Nat) (a9:Nat) (fz:Nat→Int) (fp:Nat→Int) (fr:Nat→Int) (n:Nat) (t:Nat):Prop where
 |mk (z1 p1 r1:Nat→Int×Nat) (sp1 pt n' t':Nat) (h0_:(∀i,(z1 i).1=fz i)) (h1_:(∀i,(p1 i).1=fp i)) (h2_:(∀i,(r1 i).1=fr i)) (h3_:TB w b c A 120 (.call (.ref 1988) ⟨[.ref (ad (A.a 0)),.int (Int.ofNat m) tw],[]⟩) [] (rowX (PP w b c) a7 a8 a9 (IS' k u j rd rs im at_)) s n t (.ok (.ret .none)) [] (rowX (PP w b c) a7 a8 a9 (IS' k u j rd rs im at_)) ⟨z1,p1,r1,(Builtin.bitAnd (s.pc.1+4) 4294967295,pt),s.md,sp1,s.es,s.em⟩ n' t'):told_hit_kX w b c A s j rd rs im at_ m tw k u a7 a8 a9 fz fp fr n t
inductive toldR_miss_kX (w:World) (b:Bool) (c:Bool) (A:AS) (s:BS) (j:Nat) (rd:Nat) (rs:Nat) (im:Int) (at_:Nat) (m:Nat) (tw:Nat) (R:RC) (f:Nat→Nat) (n:Nat) (t:Nat):Prop where
 |mk (a7 a8 a9:Nat) (k u:Nat→Nat) (h0_:n≤a7) (h1_:n≤a8) (h2_:n≤a9) (h3_:(a7≠a8∧a7≠a9∧a8≠a9)) (h4_:∃(e n' t':Nat),
 TA w b c A 120 (rX R.it (ad (f 4)) R.c1 R.c2 R.c3 R.q) (.call (.ref 1988) ⟨[.ref (ad (A.a 0)),.int (Int.ofNat m) tw],[]⟩) [] [(ad (f 4),bC (R.fe 4) (R.fm 4) R.sl)] s n t (.ok (.ret (.ref (ad e)))) [] ([(ad (f 4),bC (R.fe 4) (R.fm 4) (dD R.c1 R.c2 R.c3))]++(rowX (PP w b c) a7 a8 a9 (IS' k u j rd rs im at_)++[(ad e,tO [.int 2 281,.int (Int.ofNat m) tw])])) ⟨s.z,s.p,s.r,s.pc,s.md,s.sp,(s.es.push ⟨Int.ofNat m,.int (Int.ofNat m) tw,.ref (ad a7)⟩),(.add s.em 1)⟩ n' t'):toldR_miss_kX w b c A s j rd rs im at_ m tw R f n t
inductive toldR_hit_kX (w:World) (b:Bool) (c:Bool) (A:AS) (s:BS) (j:Nat) (rd:Nat) (rs:Nat) (im:Int) (at_:Nat) (m:Nat) (tw:Nat) (k:Nat→Nat) (u:Nat→Nat) (a7:Nat) (a8:Nat) (a9:Nat) (R:RC) (f:Nat→Nat) (n:Nat) (t:Nat):Prop where
 |mk (e n' t':Nat) (h0_:TA w b c A 120 (rX R.it (ad (f 4)) R.c1 R.c2 R.c3 R.q) (.call (.ref 1988) ⟨[.ref (ad (A.a 0)),.int (Int.ofNat m) tw],[]⟩) [] (rowX (PP w b c) a7 a8 a9 (IS' k u j rd rs im at_)++[(ad (f 4),bC (R.fe 4) (R.fm 4) R.sl)]) s n t (.ok (.ret (.ref (ad e)))) [] (rowX (PP w b c) a7 a8 a9 (IS' k u j rd rs im at_)++[(ad (f 4),bC (R.fe 4) (R.fm 4) (dD R.c1 R.c2 R.c3)),(ad e,tO [.int 2 281,.int (Int.ofNat m) tw])]) ⟨s.z,s.p,s.r,s.pc,s.md,s.sp,s.es,s.em⟩ n' t'):toldR_hit_kX w b c A s j rd rs im at_ m tw k u a7 a8 a9 R f n t
section
variable(w:World)(b c:Bool)(A:AS)(s:BS)
include w b c A s
theorem wF(j:Nat)(hj:j<6)(rd rs:Nat)(im:Int)(at_:Nat)(hrs:rs<32)(m tw:Nat)(hL:fC w b c A j rd rs im at_ m)(hk:IntKeys s.es)(hz:s.es.toList.length≤sizeLine)(hl:fIdx s.es.toList (Int.ofNat m)=none)(fz fp fr:Nat→Int)(hC:∀(es:Array DictEntry) (em:Nat),bD w b c A ⟨s.z,s.p,s.r,s.pc,s.md,s.sp,es,em⟩ (an j) (Int.ofNat rd) (Int.ofNat rs) im (Int.ofNat at_) fz fp fr)(n t:Nat):told_miss_kX w b c A s j rd rs im at_ m tw fz fp fr n t:=by
 have hl':dp s.es.toList (Int.ofNat m)=none:=by unfold dp;rw[hl]
 obtain⟨a7,a8,a9,k,u,n0,t0,g1,g2,g3,ha,H0⟩:=hL s [] (n+2) (t+7) tw hk hz hl
 obtain⟨z1,p1,r1,sp1,n1,t1,ez,ep,er,H1⟩:=hC (s.es.push ⟨Int.ofNat m,.int (Int.ofNat m) tw,.ref (ad a7)⟩) (.add s.em 1) k u a8 a9 [] (n0+14) (t0+31) (Int.ofNat m) tw
 have key:=Cf w b c A s [] n t 80 (ar [n0,n1]) (ar [t0,t1]) (vT 0 a7 a8 a9) (Int.ofNat m) tw rs sp1 (.add s.em 1) (IS' k u j rd rs im at_) z1 p1 r1 (s.es.push ⟨Int.ofNat m,.int (Int.ofNat m) tw,.ref (ad a7)⟩) (fk (TriC.cast (jl Lim.h bN (d:=ad (A.a 6)) (o:=d6 (PP w b c) A s) (l:=s.es.toList) (ep:=s.em) (k:=Int.ofNat m) (u:=tw) rfl hk) (by kernel_rfl) rfl rfl (by kernel_rfl) rfl rfl rfl rfl (by rw[hl'];rfl))<|fk (TriC.mono (lx (by decide)) (kd H0))<|fk (kc (aN Lim.h (m:=1) (r:=s.r) (i:=rs) hrs))<|fk (ac Lim.h (bm j hj _ (by decide)))<|fk (ac Lim.h (bm j hj _ (by decide)))<|fk (ac Lim.h (bm j hj _ (by decide)))<|fk (ac Lim.h (bm j hj _ (by decide)))<|fk (ac Lim.h (bm j hj _ (by decide)))<|fk (ac Lim.h (bm j hj _ (by decide)))<|fk (ac Lim.h (bm j hj _ (by decide)))<|fk (TriC.cast (sL (gh:=[]) (n:=n0+14) (t:=t0+29) (a:=n0+13) (tn:=u 0) (ti:=(.add t0 5643)) j hj) (by kernel_rfl) (nf n0 1994 14).symm (nf t0 5615 29).symm (by kernel_rfl) (nf n0 1994 14).symm (nf t0 5615 30).symm rfl rfl (by kernel_rfl))<|fk (kd H1)<|aa) (ab (nF j hj _ _) aa)
 exact⟨a7,a8,a9,k,u,by omega,by omega,by omega,ha,z1,p1,r1,sp1,(.add t0 5631),n1+0,t1+2,ez,ep,er,kE key⟩
theorem yH(j:Nat)(hj:j<6)(rd rs:Nat)(im:Int)(at_:Nat)(hrs:rs<32)(m tw:Nat)(k u:Nat→Nat)(a7 a8 a9:Nat)(hk:IntKeys s.es)(hl:dp s.es.toList (Int.ofNat m)=some (.ref (ad a7)))(fz fp fr:Nat→Int)(hC:∀(es:Array DictEntry) (em:Nat),bD w b c A ⟨s.z,s.p,s.r,s.pc,s.md,s.sp,es,em⟩ (an j) (Int.ofNat rd) (Int.ofNat rs) im (Int.ofNat at_) fz fp fr)(n t:Nat):told_hit_kX w b c A s j rd rs im at_ m tw k u a7 a8 a9 fz fp fr n t:=by
 obtain⟨z1,p1,r1,sp1,n0,t0,ez,ep,er,H0⟩:=hC s.es s.em k u a8 a9 [] (n+16) (t+37) (Int.ofNat m) tw
 have key:=DW w b c (aX A a7 a8 a9) s [] n t 80 (ar [n0]) (ar [t0]) (fun _ _=>0) (Int.ofNat m) tw rs sp1 s.em (IS' k u j rd rs im at_) z1 p1 r1 s.es (fk (TriC.cast (jl Lim.h bN (d:=ad (A.a 6)) (o:=d6 (PP w b c) A s) (l:=s.es.toList) (ep:=s.em) (k:=Int.ofNat m) (u:=tw) rfl hk) (by kernel_rfl) rfl rfl (by kernel_rfl) rfl rfl rfl rfl (by rw[hl];rfl))<|fk (kc (aN Lim.h (m:=1) (r:=s.r) (i:=rs) hrs))<|fk (ac Lim.h (bm j hj _ (by decide)))<|fk (ac Lim.h (bm j hj _ (by decide)))<|fk (ac Lim.h (bm j hj _ (by decide)))<|fk (ac Lim.h (bm j hj _ (by decide)))<|fk (ac Lim.h (bm j hj _ (by decide)))<|fk (ac Lim.h (bm j hj _ (by decide)))<|fk (ac Lim.h (bm j hj _ (by decide)))<|fk (TriC.cast (sL (gh:=[]) (n:=n+16) (t:=t+35) (a:=n+15) (tn:=u 0) (ti:=(.add t 5649)) j hj) (by kernel_rfl) (nf n 1994 16).symm (nf t 5615 35).symm (by kernel_rfl) (nf n 1994 16).symm (nf t 5615 36).symm rfl rfl (by kernel_rfl))<|fk (kd H0)<|aa) (ab (nF j hj _ _) aa)
 exact⟨z1,p1,r1,sp1,(.add t 5637),n0+0,t0+2,ez,ep,er,kE key⟩
theorem vx(j:Nat)(hj:j<6)(rd rs:Nat)(im:Int)(at_:Nat)(hrs:rs<32)(m tw:Nat)(hL:fC w b c A j rd rs im at_ m)(hk:IntKeys s.es)(hz:s.es.toList.length≤sizeLine)(hl:fIdx s.es.toList (Int.ofNat m)=none)(hC:∀(es:Array DictEntry) (em:Nat),eF w b c A ⟨s.z,s.p,s.r,s.pc,s.md,s.sp,es,em⟩ (an j) (Int.ofNat rd) (Int.ofNat rs) im (Int.ofNat at_))(h1:2^28≤m)(h2:m<2^32)(R:RC)(f:Nat→Nat)(hs:R.ok)(n t:Nat):toldR_miss_kX w b c A s j rd rs im at_ m tw R f n t:=by
 obtain⟨it,c1,c2,c3,fe,fm,q,sl⟩:=R
 have hl':dp s.es.toList (Int.ofNat m)=none:=by unfold dp;rw[hl]
 obtain⟨a7,a8,a9,k,u,n0,t0,g1,g2,g3,ha,H0⟩:=hL s [] (n+2) (t+7) tw hk hz hl
 obtain⟨xa,xf,e0,xd,xb,n1,t1,xt,xh,ek,Rs,pl,H1⟩:=hC (s.es.push ⟨Int.ofNat m,.int (Int.ofNat m) tw,.ref (ad a7)⟩) (.add s.em 1) (RC.mk (it) (c1) (c2) (c3) ((fun i=>cond (Nat.beq i 1) ⟨[ag w b c ku (.add t0 5624) (.ref (.add (A.a 0) 1994)),ag w b c kK (.add t0 5625) (.ref (.add a8 1994)),ag w b c kD (.add t0 5626) (.int (Int.ofNat m) tw),ag w b c yF (.add t0 5632) (.int (Builtin.bitAnd (s.pc.1+4) 4294967295) (.add t0 5631)),ag w b c dj (.add t0 5633) (.str (an j) (u 0))]⟩ (cond (Nat.beq i 2) ⟨[ag w b c ku (.add t 5617) (.ref (.add (A.a 0) 1994)),ag w b c kD (.add t 5618) (.int (Int.ofNat m) tw),ag w b c yx (.add t 5621) (.ref (.add a7 1994)),ag w b c jR (.add t0 5616) (.int 5 5115),ag w b c o5 (.add t0 5617) .none,ag w b c kK (.add t0 5618) (.ref (.add a8 1994)),ag w b c iG (.add t0 5622) (.int im (u 4)),ag w b c yr (.add t0 5623) (bo s rs)]⟩ (cond (Nat.beq i 3) ⟨[ag w b c tT (.add t 5615) (.ref (.add (A.a 0) 1994)),ag w b c q9 (.add t 5616) (.int (Int.ofNat m) tw)]⟩ (fe 4))))) ((fun i=>cond (Nat.beq i 1) 5 (cond (Nat.beq i 2) 8 (cond (Nat.beq i 3) 2 (fm 4))))) ((fun i=>cond (Nat.beq i 1) ⟨757,12,757,42⟩ (cond (Nat.beq i 2) ⟨719,12,719,48⟩ (cond (Nat.beq i 3) ⟨856,15,856,33⟩ (q i))))) (sl)) (fun i=>cond (Nat.beq i 1) (n0+7) (cond (Nat.beq i 2) (n+1) (cond (Nat.beq i 3) (n+0) (f 4)))) k u a8 a9 [] (n0+14) (t0+31) m tw h1 h2 hs
 obtain⟨PL,key⟩:∃PL:Nat→Value,_:=⟨pl,xT w b c (aM A (f 4)) s [] n t 80 (ar [n0,n1]) (ar [t0,t1]) (fun i j=>cond (Nat.beq i 0) (vT 0 a7 a8 a9 0 j) (vT 1 e0 xd xb i j)) (Int.ofNat m) tw rs (.add s.em 1) it c1 c2 c3 xa xf xh xt (IS' k u j rd rs im at_) ek Rs pl (s.es.push ⟨Int.ofNat m,.int (Int.ofNat m) tw,.ref (ad a7)⟩) fe fm q sl (fk (TriC.cast (jl Lim.h bN (d:=ad (A.a 6)) (o:=d6 (PP w b c) A s) (l:=s.es.toList) (ep:=s.em) (k:=Int.ofNat m) (u:=tw) rfl hk) (by kernel_rfl) rfl rfl (by kernel_rfl) rfl rfl rfl rfl (by rw[hl'];rfl))<|fk (TriC.mono (lx (by decide)) (kd H0))<|fk (kc (aN Lim.h (m:=1) (r:=s.r) (i:=rs) hrs))<|fk (ac Lim.h (bm j hj _ (by decide)))<|fk (ac Lim.h (bm j hj _ (by decide)))<|fk (ac Lim.h (bm j hj _ (by decide)))<|fk (ac Lim.h (bm j hj _ (by decide)))<|fk (ac Lim.h (bm j hj _ (by decide)))<|fk (ac Lim.h (bm j hj _ (by decide)))<|fk (ac Lim.h (bm j hj _ (by decide)))<|fk (TriC.cast (sL (gh:=[]) (n:=n0+14) (t:=t0+29) (a:=n0+13) (tn:=u 0) (ti:=(.add t0 5643)) j hj) (by kernel_rfl) (nf n0 1994 14).symm (nf t0 5615 29).symm (by kernel_rfl) (nf n0 1994 14).symm (nf t0 5615 30).symm rfl rfl (by kernel_rfl))<|aa) (ab ⟨by kernel_rfl,bO (by kernel_rfl) (kd (TriC.perm H1 (sS (bd w b c A ⟨s.z,s.p,s.r,s.pc,s.md,s.sp,s.es.push ⟨Int.ofNat m,.int (Int.ofNat m) tw,.ref (ad a7)⟩,Nat.add s.em 1⟩) _ _ _ _ _ _ _) (sS (bd w b c A ⟨s.z,s.p,s.r,s.pc,s.md,s.sp,s.es.push ⟨Int.ofNat m,.int (Int.ofNat m) tw,.ref (ad a7)⟩,Nat.add s.em 1⟩) _ _ _ _ _ _ _)))⟩ aa) (ab (nF j hj _ _) aa)⟩
 exact⟨a7,a8,a9,k,u,by omega,by omega,by omega,ha,n1+3,n1+4,t1+4,kF key⟩
theorem wh(j:Nat)(hj:j<6)(rd rs:Nat)(im:Int)(at_:Nat)(hrs:rs<32)(m tw:Nat)(k u:Nat→Nat)(a7 a8 a9:Nat)(hk:IntKeys s.es)(hl:dp s.es.toList (Int.ofNat m)=some (.ref (ad a7)))(hC:∀(es:Array DictEntry) (em:Nat),eF w b c A ⟨s.z,s.p,s.r,s.pc,s.md,s.sp,es,em⟩ (an j) (Int.ofNat rd) (Int.ofNat rs) im (Int.ofNat at_))(h1:2^28≤m)(h2:m<2^32)(R:RC)(f:Nat→Nat)(hs:R.ok)(n t:Nat):toldR_hit_kX w b c A s j rd rs im at_ m tw k u a7 a8 a9 R f n t:=by
 obtain⟨it,c1,c2,c3,fe,fm,q,sl⟩:=R
 obtain⟨xa,xf,e0,xd,xb,n0,t0,xt,xh,ek,Rs,pl,H0⟩:=hC s.es s.em (RC.mk (it) (c1) (c2) (c3) ((fun i=>cond (Nat.beq i 1) ⟨[ag w b c ku (.add t 5630) (.ref (.add (A.a 0) 1994)),ag w b c kK (.add t 5631) (.ref (.add a8 1994)),ag w b c kD (.add t 5632) (.int (Int.ofNat m) tw),ag w b c yF (.add t 5638) (.int (Builtin.bitAnd (s.pc.1+4) 4294967295) (.add t 5637)),ag w b c dj (.add t 5639) (.str (an j) (u 0))]⟩ (cond (Nat.beq i 2) ⟨[ag w b c ku (.add t 5617) (.ref (.add (A.a 0) 1994)),ag w b c kD (.add t 5618) (.int (Int.ofNat m) tw),ag w b c yx (.add t 5621) (.ref (.add a7 1994)),ag w b c jR (.add t 5622) (.int 5 5115),ag w b c o5 (.add t 5623) .none,ag w b c kK (.add t 5624) (.ref (.add a8 1994)),ag w b c iG (.add t 5628) (.int im (u 4)),ag w b c yr (.add t 5629) (bo s rs)]⟩ (cond (Nat.beq i 3) ⟨[ag w b c tT (.add t 5615) (.ref (.add (A.a 0) 1994)),ag w b c q9 (.add t 5616) (.int (Int.ofNat m) tw)]⟩ (fe 4))))) ((fun i=>cond (Nat.beq i 1) 5 (cond (Nat.beq i 2) 8 (cond (Nat.beq i 3) 2 (fm 4))))) ((fun i=>cond (Nat.beq i 1) ⟨757,12,757,42⟩ (cond (Nat.beq i 2) ⟨719,12,719,48⟩ (cond (Nat.beq i 3) ⟨856,15,856,33⟩ (q i))))) (sl)) (fun i=>cond (Nat.beq i 1) (n+9) (cond (Nat.beq i 2) (n+1) (cond (Nat.beq i 3) (n+0) (f 4)))) k u a8 a9 [] (n+16) (t+37) m tw h1 h2 hs
 obtain⟨PL,key⟩:∃PL:Nat→Value,_:=⟨pl,AA w b c (aH A a7 a8 a9 (f 4)) s [] n t 80 (ar [n0]) (ar [t0]) (vT 0 e0 xd xb) (Int.ofNat m) tw rs s.em it c1 c2 c3 xa xf xh xt (IS' k u j rd rs im at_) ek Rs pl s.es fe fm q sl (fk (TriC.cast (jl Lim.h bN (d:=ad (A.a 6)) (o:=d6 (PP w b c) A s) (l:=s.es.toList) (ep:=s.em) (k:=Int.ofNat m) (u:=tw) rfl hk) (by kernel_rfl) rfl rfl (by kernel_rfl) rfl rfl rfl rfl (by rw[hl];rfl))<|fk (kc (aN Lim.h (m:=1) (r:=s.r) (i:=rs) hrs))<|fk (ac Lim.h (bm j hj _ (by decide)))<|fk (ac Lim.h (bm j hj _ (by decide)))<|fk (ac Lim.h (bm j hj _ (by decide)))<|fk (ac Lim.h (bm j hj _ (by decide)))<|fk (ac Lim.h (bm j hj _ (by decide)))<|fk (ac Lim.h (bm j hj _ (by decide)))<|fk (ac Lim.h (bm j hj _ (by decide)))<|fk (TriC.cast (sL (gh:=[]) (n:=n+16) (t:=t+35) (a:=n+15) (tn:=u 0) (ti:=(.add t 5649)) j hj) (by kernel_rfl) (nf n 1994 16).symm (nf t 5615 35).symm (by kernel_rfl) (nf n 1994 16).symm (nf t 5615 36).symm rfl rfl (by kernel_rfl))<|aa) (ab ⟨by kernel_rfl,bO (by kernel_rfl) (kd (TriC.perm H0 (sS (bd w b c A s) _ _ _ _ _ _ _) (sS (bd w b c A s) _ _ _ _ _ _ _)))⟩ aa) (ab (nF j hj _ _) aa)⟩
 exact⟨n0+3,n0+4,t0+4,kF key⟩
end
def f3:Nat→Nat
 |0=>1
 |1=>2
 |2=>3
 |3=>5
 |4=>6
 |_=>7
def aG(j rd by_ at_:Nat):Nat:=115+f3 j*4096+rd*128+by_*32768+at_*1048576
def rsOf(j by_:Nat):Nat:=if j<3 then by_ else 0
def imOf(j by_:Nat):Int:=if j<3 then 0 else (by_:Int)
theorem s9:∀j,j<6→f3 j<8:=ke (by decide) (by decide) (by decide) (by decide) (by decide) (by decide)
theorem f3_inj:∀j,j<6→∀j',j'<6→f3 j=f3 j'→j=j':=by decide
theorem IM{j rd by_ at_ j' rd' by' at':Nat}(h:aG j rd by_ at_=aG j' rd' by' at')(hj:j<6)(hr:rd<32)(hb:by_<32)(hj':j'<6)(hr':rd'<32)(hb':by'<32):j=j'∧rd=rd'∧by_=by'∧at_=at':=by
 unfold aG at h
 have h1:=s9 j hj
 have h2:=s9 j' hj'
 have e:f3 j=f3 j':=by omega
 exact⟨f3_inj j hj j' hj' e,by omega,by omega,by omega⟩
theorem dX{j rd by_ at_:Nat}(hj:j<6)(hr:rd<32)(hb:by_<32)(ha:at_<4096):aG j rd by_ at_<2^32:=by
 have h1:=s9 j hj
 unfold aG;omega
theorem Jj{j rd by_ at_:Nat}(ha:256≤at_):2^28≤aG j rd by_ at_:=by unfold aG;omega
def KRow(P:Params)(gh:List (Addr×Obj))(e:DictEntry):Prop:=
 ∃(j rd by_ at_ u0 a7 a8 a9:Nat) (k u:Nat→Nat),(j<6∧rd<32∧by_<32∧at_<4096)∧e=⟨Int.ofNat (aG j rd by_ at_),.int (Int.ofNat (aG j rd by_ at_)) u0,.ref (ad a7)⟩∧(a7≠a8∧a7≠a9∧a8≠a9)∧
  ∀y∈rowX P a7 a8 a9 (IS' k u j rd (rsOf j by_) (imOf j by_) at_),y∈gh
def KInv(P:Params)(es:Array DictEntry)(gh:List (Addr×Obj)):Prop:=∀e∈es.toList,KRow P gh e
theorem KRow.more{P:Params}{gh gh':List (Addr×Obj)}{e:DictEntry}(h:KRow P gh e)(hm:∀y∈gh,y∈gh'):KRow P gh' e:=by
 obtain⟨j,rd,by_,at_,u0,a7,a8,a9,k,u,h1,h2,h3,h4⟩:=h
 exact⟨j,rd,by_,at_,u0,a7,a8,a9,k,u,h1,h2,h3,fun y hy=>hm y (h4 y hy)⟩
theorem KInv.more{P:Params}{gh gh':List (Addr×Obj)}{es:Array DictEntry}(h:KInv P es gh)(hm:∀y∈gh,y∈gh'):KInv P es gh':=fun e he=>(h e he).more hm
theorem KInv.keys{P:Params}{gh:List (Addr×Obj)}{es:Array DictEntry}(h:KInv P es gh):IntKeys es:=fun e he=>by
 obtain⟨j,rd,by_,at_,u0,a7,a8,a9,k,u,⟨h1,h2,h3,h4⟩,rfl,_⟩:=h e (by simpa using he)
 have hs:=dX h1 h2 h3 h4
 exact⟨Int.ofNat (aG j rd by_ at_),u0,rfl,(cK _ (by omega)).symm⟩
theorem isInt_key{k v:Int}{u:Nat}:Value.isInt k (.int v u)=true ↔ v=k:=by
 show (_==_)=true ↔ _
 first|exact⟨fun h=>(eq_of_beq h),fun h=>by subst h;exact beq_self_eq_true _⟩|exact⟨fun h=>(eq_of_beq h).symm,fun h=>by subst h;exact beq_self_eq_true _⟩
theorem Ct{l:List DictEntry}{k:Int}{i:Nat}(h:fIdx l k=some i):∃e∈l,Value.isInt k e.key=true∧dp l k=some e.val:=by
 have key:∃e∈l,Value.isInt k e.key=true∧nthE l i=some e:=by
  induction l generalizing i with
  |nil=>cases h
  |cons a l ih=>
   unfold fIdx at h
   by_cases q:Value.isInt k a.key=true
   ·rw[if_pos q]at h;cases h
    exact⟨a,List.mem_cons_self,q,rfl⟩
   ·rw[if_neg q]at h
    cases hf:fIdx l k with
    |none=>rw[hf]at h;cases h
    |some j=>
     rw[hf]at h;cases h
     obtain⟨e,h1,h2,h3⟩:=ih hf
     exact⟨e,List.mem_cons_of_mem _ h1,h2,h3⟩
 obtain⟨e,h1,h2,h3⟩:=key
 exact⟨e,h1,h2,by unfold dp;simp only[h,h3]⟩
theorem qP(a:Nat):1994≤ad a:=Nat.le_add_left _ _
theorem w9{P:Params}{I:IS}{a7 a8 a9:Nat}(h:a7≠a8∧a7≠a9∧a8≠a9):((rowX P a7 a8 a9 I).map (·.1)).Nodup:=by
 show [a7+1994,a8+1994,a9+1994].Nodup
 obtain⟨h1,h2,h3⟩:=h
 simp only[List.nodup_cons,List.mem_cons,List.not_mem_nil,or_false,not_or,List.nodup_nil,and_true,not_false_eq_true]
 exact⟨⟨fun e=>h1 (Nat.add_right_cancel e),fun e=>h2 (Nat.add_right_cancel e)⟩,fun e=>h3 (Nat.add_right_cancel e)⟩
theorem ur{P:Params}{I:IS}{a7 a8 a9:Nat}:∀y∈rowX P a7 a8 a9 I,1994≤y.1:=
 ab (qP _) (ab (qP _) (ab (qP _) aa))
theorem l3{P:Params}{I:IS}{n a7 a8 a9:Nat}(h7:n≤a7)(h8:n≤a8)(h9:n≤a9):∀y∈rowX P a7 a8 a9 I,Nat.add n 1994≤y.1:=
 ab (Nat.add_le_add_right h7 _) (ab (Nat.add_le_add_right h8 _) (ab (Nat.add_le_add_right h9 _) aa))
section
variable{M:Model}{S:HT}{B:Nat}{C:Ctx→Prop}{cd:Code}{n t n' t':Nat}{r:Result}{pre post X Y gh:List (Addr×Obj)}
theorem TriC.keepNew(H:TriC M S B C cd [] pre n t r [] (post++Y) n' t')(hY:∀y∈Y,n≤y.1):TriC M S B C cd gh pre n t r (Y++gh) post n' t':=by
 intro nd lo big Γ P h gs d os hΓ hL hsz hs hp hgh
 have hY':∀y∈Y,y.1∉pre.map (·.1):=fun y hy z=>by
  obtain⟨x,hx,e⟩:=List.mem_map.mp z
  have h1:x.1<n:=hsz▸Heap.lt_size (hp x hx)
  have h2:=hY y hy
  rw[←e]at h2;exact Nat.lt_irrefl _ (Nat.lt_of_lt_of_le h1 h2)
 exact(TriC.gh (TriC.keep H (gh':=Y) hY' (fun y hy=>.inr hy)) (gh:=gh) (gh':=Y++gh) (fun y hy=>nomatch hy) (fun y hy=>List.mem_append.mp hy)) nd lo big Γ P h gs d os hΓ hL hsz hs hp hgh
theorem TriC.takeAll(H:TriC M S B C cd [] (pre++X) n t r [] (post++X) n' t')(hX:∀x∈X,x∈gh)(hB:∀x∈X,B≤x.1)(hn:(X.map (·.1)).Nodup):TriC M S B C cd gh pre n t r gh post n' t':=
 TriC.gh (TriC.take H (gh:=gh) (gh':=[]) hX hB hn (fun y hy=>nomatch hy) (fun y hy=>nomatch hy)) (fun y hy=>hy) (fun y hy=>.inr hy)
end
theorem KInv.look{P:Params}{gh:List (Addr×Obj)}{es:Array DictEntry}(h:KInv P es gh){j rd by_ at_:Nat}(hj:j<6)(hr:rd<32)(hb:by_<32):
  fIdx es.toList (Int.ofNat (aG j rd by_ at_))=none∨∃(a7 a8 a9:Nat) (k u:Nat→Nat),dp es.toList (Int.ofNat (aG j rd by_ at_))=some (.ref (ad a7))∧(a7≠a8∧a7≠a9∧a8≠a9)∧∀y∈rowX P a7 a8 a9 (IS' k u j rd (rsOf j by_) (imOf j by_) at_),y∈gh:=by
 cases hf:fIdx es.toList (Int.ofNat (aG j rd by_ at_)) with
 |none=>exact .inl rfl
 |some i=>
  right
  obtain⟨e,he,hk,hv⟩:=Ct hf
  obtain⟨j',rd',by',at',u0,a7,a8,a9,k,u,⟨h1,h2,h3,h4⟩,rfl,h5,h6⟩:=h e he
  have e1:=isInt_key.mp hk
  obtain⟨rfl,rfl,rfl,rfl⟩:=IM (Int.ofNat.inj e1) h1 h2 h3 hj hr hb
  exact⟨a7,a8,a9,k,u,hv,h5,h6⟩
theorem KInv.push{P:Params}{gh:List (Addr×Obj)}{es:Array DictEntry}(h:KInv P es gh){j rd by_ at_ tw a7 a8 a9:Nat}{k u:Nat→Nat}(hr:j<6∧rd<32∧by_<32∧at_<4096)(ha:a7≠a8∧a7≠a9∧a8≠a9):
  KInv P (es.push ⟨Int.ofNat (aG j rd by_ at_),.int (Int.ofNat (aG j rd by_ at_)) tw,.ref (ad a7)⟩) (rowX P a7 a8 a9 (IS' k u j rd (rsOf j by_) (imOf j by_) at_)++gh):=by
 intro e he
 rw[Array.toList_push]at he
 rcases List.mem_append.mp he with he|he
 ·exact(h e he).more fun y hy=>List.mem_append_right _ hy
 ·rw[List.mem_singleton.mp he]
  exact⟨j,rd,by_,at_,tw,a7,a8,a9,k,u,hr,rfl,ha,fun y hy=>List.mem_append_left _ hy⟩
theorem sZ{j by_:Nat}(h:by_<32):rsOf j by_<32:=by unfold rsOf;split<;>omega
inductive told_okX (w:World) (b:Bool) (c:Bool) (A:AS) (s:BS) (j:Nat) (rd:Nat) (by_:Nat) (at_:Nat) (fz:Nat→Int) (fp:Nat→Int) (fr:Nat→Int) (gh:List (Addr×Obj)) (n:Nat) (t:Nat) (tw:Nat):Prop where
 |mk (z1 p1 r1:Nat→Int×Nat) (sp1 pt em1 n' t':Nat) (es1:Array DictEntry) (gh':List (Addr×Obj)) (h0_:(∀i,(z1 i).1=fz i)) (h1_:(∀i,(p1 i).1=fp i)) (h2_:(∀i,(r1 i).1=fr i)) (h3_:KInv (PP w b c) es1 gh') (h4_:es1.toList.length≤s.es.toList.length+1) (h5_:(∀y∈gh,y∈gh')) (h6_:(∀y∈gh',y∈gh∨Nat.add n 1994≤y.1)) (h7_:TB w b c A 120 (.call (.ref 1988) ⟨[.ref (ad (A.a 0)),.int (Int.ofNat (aG j rd by_ at_)) tw],[]⟩) gh [] s n t (.ok (.ret .none)) gh' [] ⟨z1,p1,r1,(Builtin.bitAnd (s.pc.1+4) 4294967295,pt),s.md,sp1,es1,em1⟩ n' t'):told_okX w b c A s j rd by_ at_ fz fp fr gh n t tw
inductive told_raiseX (w:World) (b:Bool) (c:Bool) (A:AS) (s:BS) (j:Nat) (rd:Nat) (by_:Nat) (at_:Nat) (R:RC) (f:Nat→Nat) (gh:List (Addr×Obj)) (n:Nat) (t:Nat) (tw:Nat):Prop where
 |mk (em1 e n' t':Nat) (es1:Array DictEntry) (gh':List (Addr×Obj)) (h0_:KInv (PP w b c) es1 gh') (h1_:es1.toList.length≤s.es.toList.length+1) (h2_:(∀y∈gh,y∈gh')) (h3_:(∀y∈gh',y∈gh∨Nat.add n 1994≤y.1)) (h4_:TA w b c A 120 (rX R.it (ad (f 4)) R.c1 R.c2 R.c3 R.q) (.call (.ref 1988) ⟨[.ref (ad (A.a 0)),.int (Int.ofNat (aG j rd by_ at_)) tw],[]⟩) gh [(ad (f 4),bC (R.fe 4) (R.fm 4) R.sl)] s n t (.ok (.ret (.ref (ad e)))) gh'
   [(ad (f 4),bC (R.fe 4) (R.fm 4) (dD R.c1 R.c2 R.c3)),(ad e,tO [.int 2 281,.int (Int.ofNat (aG j rd by_ at_)) tw])] ⟨s.z,s.p,s.r,s.pc,s.md,s.sp,es1,em1⟩ n' t'):told_raiseX w b c A s j rd by_ at_ R f gh n t tw
section
variable{w:World}{b c:Bool}{A:AS}{s:BS}{j rd by_ at_:Nat}(hr:j<6∧rd<32∧by_<32∧at_<4096)(hL:fC w b c A j rd (rsOf j by_) (imOf j by_) at_ (aG j rd by_ at_))
include hr hL
theorem It{fz fp fr:Nat→Int}(hC:∀(es:Array DictEntry) (em:Nat),bD w b c A ⟨s.z,s.p,s.r,s.pc,s.md,s.sp,es,em⟩ (an j) (Int.ofNat rd) (Int.ofNat (rsOf j by_)) (imOf j by_) (Int.ofNat at_) fz fp fr)(gh:List (Addr×Obj))(n t tw:Nat)(hk:KInv (PP w b c) s.es gh)(hz:s.es.toList.length≤sizeLine):told_okX w b c A s j rd by_ at_ fz fp fr gh n t tw:=by
 obtain⟨h1,h2,h3,h4⟩:=hr
 rcases hk.look (at_:=at_) h1 h2 h3 with hm|⟨a7,a8,a9,k,u,hl,ha,hx⟩
 ·obtain⟨a7,a8,a9,k,u,g1,g2,g3,ha,z1,p1,r1,sp1,pt,n',t',ez,ep,er,H⟩:=wF w b c A s j h1 rd (rsOf j by_) (imOf j by_) at_ (sZ h3) _ tw hL hk.keys hz hm fz fp fr hC n t
  refine⟨z1,p1,r1,sp1,pt,Nat.add s.em 1,n',t',_,_,ez,ep,er,hk.push (tw:=tw) (k:=k) (u:=u) ⟨h1,h2,h3,h4⟩ ha,?_,fun y hy=>List.mem_append_right _ hy,fun y hy=>?_,?_⟩
  ·rw[Array.toList_push,List.length_append];exact Nat.le_refl _
  ·exact(List.mem_append.mp hy).elim (fun z=>.inr (l3 g1 g2 g3 y z)) .inl
  ·exact TriC.cast (TriC.keepNew H (gh:=gh) (l3 g1 g2 g3)) rfl rfl rfl (oW _) rfl rfl rfl rfl rfl
 ·obtain⟨z1,p1,r1,sp1,pt,n',t',ez,ep,er,H⟩:=yH w b c A s j h1 rd (rsOf j by_) (imOf j by_) at_ (sZ h3) _ tw k u a7 a8 a9 hk.keys hl fz fp fr hC n t
  refine⟨z1,p1,r1,sp1,pt,s.em,n',t',s.es,gh,ez,ep,er,hk,Nat.le_succ _,fun y hy=>hy,fun y hy=>.inl hy,?_⟩
  exact TriC.cast (TriC.takeAll H hx ur (w9 ha)) (oW _) rfl rfl (oW _) rfl rfl rfl rfl rfl
theorem yY(h256:256≤at_)(hC:∀(es:Array DictEntry) (em:Nat),eF w b c A ⟨s.z,s.p,s.r,s.pc,s.md,s.sp,es,em⟩ (an j) (Int.ofNat rd) (Int.ofNat (rsOf j by_)) (imOf j by_) (Int.ofNat at_))(R:RC)(f:Nat→Nat)(hs:R.ok)(gh:List (Addr×Obj))(n t tw:Nat)(hk:KInv (PP w b c) s.es gh)(hz:s.es.toList.length≤sizeLine):told_raiseX w b c A s j rd by_ at_ R f gh n t tw:=by
 obtain⟨h1,h2,h3,h4⟩:=hr
 have hb:=Jj (j:=j) (rd:=rd) (by_:=by_) h256
 have hsm:=dX h1 h2 h3 h4
 rcases hk.look (at_:=at_) h1 h2 h3 with hm|⟨a7,a8,a9,k,u,hl,ha,hx⟩
 ·obtain⟨a7,a8,a9,k,u,g1,g2,g3,ha,e,n',t',H⟩:=vx w b c A s j h1 rd (rsOf j by_) (imOf j by_) at_ (sZ h3) _ tw hL hk.keys hz hm hC hb hsm R f hs n t
  refine⟨Nat.add s.em 1,e,n',t',_,_,hk.push (tw:=tw) (k:=k) (u:=u) ⟨h1,h2,h3,h4⟩ ha,?_,fun y hy=>List.mem_append_right _ hy,fun y hy=>?_,?_⟩
  ·rw[Array.toList_push,List.length_append];exact Nat.le_refl _
  ·exact(List.mem_append.mp hy).elim (fun z=>.inr (l3 g1 g2 g3 y z)) .inl
  ·refine TriC.keepNew (TriC.perm H (List.Perm.refl _) ?_) (l3 g1 g2 g3)
   rw[List.append_assoc]
   exact List.Perm.append_left _ (List.Perm.cons _ (List.perm_append_comm (l₁:=rowX _ _ _ _ _) (l₂:=[_])))
 ·obtain⟨e,n',t',H⟩:=wh w b c A s j h1 rd (rsOf j by_) (imOf j by_) at_ (sZ h3) _ tw k u a7 a8 a9 hk.keys hl hC hb hsm R f hs n t
  refine⟨s.em,e,n',t',s.es,gh,hk,Nat.le_succ _,fun y hy=>hy,fun y hy=>.inl hy,?_⟩
  refine TriC.takeAll (TriC.perm H ?_ ?_) hx ur (w9 ha)
  ·rw[List.append_assoc];exact List.Perm.append_left _ List.perm_append_comm
  ·rw[List.append_assoc];exact List.Perm.append_left _ List.perm_append_comm
end
theorem lT(a:Nat):Builtin.bitNot (a:Int)=Int.negSucc a:=by unfold Builtin.bitNot;omega
theorem me(a:Nat):Builtin.bitNot (Int.negSucc a)=(a:Int):=by unfold Builtin.bitNot;omega
theorem iE(a b:Nat):Builtin.bitAnd (a:Int) (b:Int)=((a &&& b:Nat):Int):=by
 unfold Builtin.bitAnd
 have h1:decide ((0:Int)≤a)=true:=by simp
 have h2:decide ((0:Int)≤b)=true:=by simp
 rw[h1,h2];simp
theorem eE(a b:Nat):Builtin.bitOr (a:Int) (b:Int)=((a ||| b:Nat):Int):=by
 unfold Builtin.bitOr
 rw[lT,lT]
 unfold Builtin.bitAnd
 have h1:decide ((0:Int)≤Int.negSucc a)=false:=by simp
 have h2:decide ((0:Int)≤Int.negSucc b)=false:=by simp
 rw[h1,h2]
 show Builtin.bitNot (Builtin.bitNot _)=_
 rw[me,me]
 simp only[Int.toNat_natCast]
 rw[lT,me]
theorem g7(a n:Nat):be (a:Int) (n:Int)=((a*2^n:Nat):Int):=by unfold be;simp
theorem gY(a n:Nat):ay (a:Int) (n:Int)=((a/2^n:Nat):Int):=by
 unfold ay
 rw[Int.toNat_natCast,Int.fdiv_eq_ediv_of_nonneg _ (by exact_mod_cast Nat.zero_le _)]
 simp
theorem kT(a b:Nat):aw (a:Int) (b:Int)=((a*b:Nat):Int):=by unfold aw;simp
theorem nq(a b:Nat):aP (a:Int) (b:Int)=((a/b:Nat):Int):=by
 unfold aP;rw[Int.fdiv_eq_ediv_of_nonneg _ (by exact_mod_cast Nat.zero_le _)];simp
theorem gP(a b:Nat):ak (a:Int) (b:Int)=((a%b:Nat):Int):=by
 unfold ak;rw[Int.fmod_eq_emod_of_nonneg _ (by exact_mod_cast Nat.zero_le _)];simp
theorem fM(a n:Nat)(ha:a<2^200)(hn:n≤1000):bg (a:Int) (n:Int)=false:=by
 unfold bg
 have h1:decide ((0:Int)≤(n:Int))=true:=by simp
 have h2:Builtin.Int.intBits (a:Int)≤201:=by
  unfold Builtin.Int.intBits
  by_cases h:a=0
  ·subst h;simp
  ·have:((a:Int)==0)=false:=by simpa using h
   rw[this]
   have h3:a.log2<200:=(Nat.log2_lt h).mpr ha
   simp only[Int.natAbs_natCast]
   simp;omega
 have h4:decide ((Builtin.Int.intBits (a:Int):Int)+(n:Int)≤134217728)=true:=by
  apply decide_eq_true;omega
 rw[h1,h4];rfl
theorem stopR_nat(n:Nat):iI (n:Int)=false:=by unfold iI;simp
theorem EV(i a b c d:Nat)(hb:b<2^i)(hd:d<2^i):(2^i*a+b) ||| (2^i*c+d)=2^i*(a ||| c)+(b ||| d):=by
 apply Nat.eq_of_testBit_eq
 intro k
 rw[Nat.testBit_or,Nat.testBit_two_pow_mul_add _ hb,Nat.testBit_two_pow_mul_add _ hd,Nat.testBit_two_pow_mul_add _ (Nat.or_lt_two_pow hb hd),Nat.testBit_or,Nat.testBit_or]
 split<;>rfl
theorem CA(i a b c d:Nat)(hb:b<2^i)(hd:d<2^i):(2^i*a+b) &&& (2^i*c+d)=2^i*(a &&& c)+(b &&& d):=by
 apply Nat.eq_of_testBit_eq
 intro k
 rw[Nat.testBit_and,Nat.testBit_two_pow_mul_add _ hb,Nat.testBit_two_pow_mul_add _ hd,Nat.testBit_two_pow_mul_add _ (Nat.and_lt_two_pow _ hd),Nat.testBit_and,Nat.testBit_and]
 split<;>rfl
theorem pU(i a b:Nat)(hb:b<2^i):b ||| a*2^i=b+a*2^i:=by
 rw[Nat.mul_comm,Nat.or_comm,←Nat.two_pow_add_eq_or_of_lt hb];omega
theorem nS(a k:Nat):a &&& (2^k-1)=a%2^k:=Nat.and_two_pow_sub_one_eq_mod a k
theorem A1(a:Nat):a &&& 28799=a%128+a/4096%8*4096:=by
 have h:=CA 12 (a/4096) (a%4096) 7 127 (Nat.mod_lt _ (by decide)) (by decide)
 have e1:2^12*(a/4096)+a%4096=a:=by omega
 have h7:=nS (a/4096) 3
 have h127:=nS (a%4096) 7
 rw[e1]at h
 show a &&& (2^12*7+127)=_
 rw[h,show (7:Nat)=2^3-1 from rfl,h7,show (127:Nat)=2^7-1 from rfl,h127]
 omega
theorem Bj{j rd by_ at_:Nat}(hj:j<6)(hr:rd<32)(hb:by_<32):aG j rd by_ at_ &&& 127=115∧aG j rd by_ at_ &&& 28799=115+f3 j*4096∧aG j rd by_ at_/128%32=rd∧aG j rd by_ at_/32768%32=by_∧aG j rd by_ at_/1048576=at_:=by
 have h3:=s9 j hj
 have h1:=nS (aG j rd by_ at_) 7
 rw[A1]
 rw[show (127:Nat)=2^7-1 from rfl,h1]
 unfold aG
 refine⟨by omega,by omega,by omega,by omega,by omega⟩
theorem Be{f rd by_ at_:Nat}(hf:f<8)(hr:rd<32)(hb:by_<32):(((115+f*4096 ||| rd*2^7) ||| by_*2^15) ||| 0) ||| at_*2^20=115+f*4096+rd*128+by_*32768+at_*1048576:=by
 have h1:=EV 12 f 115 0 (rd*128) (by decide) (by omega)
 have h2:=pU 7 rd 115 (by decide)
 have e1:115+f*4096 ||| rd*2^7=115+f*4096+rd*128:=by
  have a1:2^12*f+115=115+f*4096:=by omega
  have a2:2^12*0+rd*128=rd*2^7:=by omega
  rw[a1,a2]at h1
  rw[h1,Nat.or_zero,show rd*128=rd*2^7 from rfl,h2];omega
 rw[e1,pU 15 by_ _ (by omega),Nat.or_zero,pU 20 at_ _ (by omega)]
theorem IT{f rd by_ at_:Nat}(hf:f<8)(hr:rd<32)(hb:by_<32):((((115+f*4096 ||| rd*2^7) ||| 0) ||| 0) ||| at_*2^20) ||| by_*2^15=115+f*4096+rd*128+by_*32768+at_*1048576:=by
 have h:=Be (f:=f) (rd:=rd) (by_:=by_) (at_:=at_) hf hr hb
 rw[Nat.or_zero]at h
 rw[Nat.or_zero,Nat.or_zero,Nat.or_assoc,Nat.or_comm (at_*2^20),←Nat.or_assoc,h]
noncomputable def Bk:List Nat:=[0,0,3,3,0,0,3,2001002,7004000,1027000,4,1008000,3,3,3,0,2000003,2001002,3005006,8,3,9003000,3,0,0,0,9,9,9,9,0,0,9,1008000,9,9,9,2001002,9,2001002,9,2001002,9,2001002,9,2001002,1020010,9,9,9,1006010,1004011,10,10,1005012,10,10,1020012,3013014,16,9,9,9,9,8009000,9,1,9,1,1004012,10,10,1020012,3017018,20,9,9,9,9,8009000]
noncomputable def kX:List Nat:=[0,9,0,2000009,9,9,1028000,16,0,16,1007000,1014017,0,17,17,5016015,17,17,5016015,17,17,5016015,17,17,5016015,17,17,5016015,17,17,5016015,7018000,2016015,18,18,18,0,0,9000018,0,9000018,0,9000018,0,9000018,0,9000018,1005000,18,8,8,8,8,2001002,8,7,7,7,1003,8]
noncomputable def kZ:List Nat:=[0,0,0,8,7009000,2,9,0,2,0,9,7010000,3001,10,10,10,6000010,3002,10,10,10,1028000,10,1009000,9,9,9,9,0,2000009,0,9,0,9,0,3011012,12,9012011,12,12,9012011,12,14,1009009]
noncomputable def hlrn_3:List Nat:=Bk++[0,1004012,10,10,1020012,3021022,24,9,9,9,9,8009000,0,1004012,10,10,1020012,3025026,28,9,9,9,9,8009000,0,9,0,2000029,29,9029000,4029000,31,1008009,1,9,1,9,9,0,2,1004012,10,10,1020012,3032033,35,9,9,9,9,8009000,9,1,9,1,1004012,10,10,12,12,12,37,3,1015000,7038000,1013000,38,1013000,38,0,2000003,2001002,2,3,2001002,2,3,2001002,2]
noncomputable def v9:List Nat:=Bk++[9,1,9,1,1004012,10,10,1020012,3021022,24,9,9,9,9,8009000,0,1004012,10,10,1020012,3025026,28,9,9,9,9,8009000,0,1004012,10,10,1020012,3029030,32,9,9,9,9,8009000,9,1,9,1,1004012,10,10,12,12,12,34,3,1015000,7035000,1013000,35,1013000,35,0,2000003,2001002,2,3,2001002,2,3,2001002,2,3,3,3,36,36,36,1000,36,0,1007003,2001002,2]
noncomputable def tZ:List Nat:=hlrn_3++[3,3,3,39,39,39,1000,39,0,1008003,2001002,2]
section
variable(w:World)(b c:Bool)(A:AS)(s:BS)(gh:List (Addr×Obj))(n t L:Nat)(wd:Int)(tw em1:Nat)(es1:Array DictEntry)
def kQ:Call:=cS (cB "int.__and__" [(.int wd tw),(.int 127 (.add t 5622))]) 10 8 [] (rV (.int 115 (.add t 5623))) 10 9
def kP(x0 x1:Nat):Call:=⟨cB "dict.__setitem__" [(rA A 6),(.int wd tw),(.ref (.add n 2005))],19,x0,[(6,d6 (PP w b c) A s)],rV .none,19,x1,[(6,d6 (PP w b c) A ⟨s.z,s.p,s.r,s.pc,s.md,s.sp,es1,em1⟩)]⟩
def k9:Code:=(cR 1870 [.ref (.add (A.a 0) 1994),.int wd tw])
abbrev nX:=bP w b c A gh L 40 [(7,Nat.add n 1994)] [(0,Nat.add t 5615)]
include w b c A s gh n t L wd tw em1 es1
theorem H6:nX w b c A gh n t L [kQ t wd tw,cS (cB "int.__and__" [(.int wd tw),(.int 28799 (.add t 5627))]) 10 13 [] (rV (.int 4211 (.add t 5628))) 10 14,kP w b c A s n wd tw em1 es1 82 83] [((bne (ay wd 32) 0),false),((decide (LT.lt wd 0)),false)] (k9 A wd tw) 7 (al w b c A s) (rV (.ref (.add n 2005))) 19 (al w b c A ⟨s.z,s.p,s.r,s.pc,s.md,s.sp,es1,em1⟩++[(18,tO [(.int 5 5115),.none,(.ref (.add n 2002))]),(15,iO 121 (.add n 2001)),(14,dO [ag w b c dj (.add t 5675) (.str kL 1744),ag w b c gK (.add t 5677) (.int (Builtin.bitAnd (ay wd 7) 31) (.add t 5639)),ag w b c lD (.add t 5679) (.int (Builtin.bitAnd (ay wd 15) 31) (.add t 5643)),ag w b c sf (.add t 5681) (.int 0 (.add t 5665)),ag w b c iG (.add t 5683) (.int 0 (.add t 5666)),ag w b c gq (.add t 5685) (.int (ay wd 20) (.add t 5653))] 6)]) 83:=ae (hm ([0,0,8,8,8,8]++kZ++[0,1011009]++kX))
theorem I2:nX w b c A gh n t L [kQ t wd tw,cS (cB "int.__and__" [(.int wd tw),(.int 28799 (.add t 5627))]) 10 13 [] (rV (.int 8307 (.add t 5628))) 10 14,kP w b c A s n wd tw em1 es1 82 83] [((bne (ay wd 32) 0),false),((decide (LT.lt wd 0)),false)] (k9 A wd tw) 7 (al w b c A s) (rV (.ref (.add n 2005))) 19 (al w b c A ⟨s.z,s.p,s.r,s.pc,s.md,s.sp,es1,em1⟩++[(18,tO [(.int 5 5115),.none,(.ref (.add n 2002))]),(15,iO 121 (.add n 2001)),(14,dO [ag w b c dj (.add t 5675) (.str kz 1745),ag w b c gK (.add t 5677) (.int (Builtin.bitAnd (ay wd 7) 31) (.add t 5639)),ag w b c lD (.add t 5679) (.int (Builtin.bitAnd (ay wd 15) 31) (.add t 5643)),ag w b c sf (.add t 5681) (.int 0 (.add t 5665)),ag w b c iG (.add t 5683) (.int 0 (.add t 5666)),ag w b c gq (.add t 5685) (.int (ay wd 20) (.add t 5653))] 6)]) 83:=ae (hm ([0,0,8,8,8,8]++kZ++[0,1011009]++kX))
theorem Ia:nX w b c A gh n t L [kQ t wd tw,cS (cB "int.__and__" [(.int wd tw),(.int 28799 (.add t 5627))]) 10 13 [] (rV (.int 12403 (.add t 5628))) 10 14,kP w b c A s n wd tw em1 es1 82 83] [((bne (ay wd 32) 0),false),((decide (LT.lt wd 0)),false)] (k9 A wd tw) 7 (al w b c A s) (rV (.ref (.add n 2005))) 19 (al w b c A ⟨s.z,s.p,s.r,s.pc,s.md,s.sp,es1,em1⟩++[(18,tO [(.int 5 5115),.none,(.ref (.add n 2002))]),(15,iO 121 (.add n 2001)),(14,dO [ag w b c dj (.add t 5675) (.str kG 1746),ag w b c gK (.add t 5677) (.int (Builtin.bitAnd (ay wd 7) 31) (.add t 5639)),ag w b c lD (.add t 5679) (.int (Builtin.bitAnd (ay wd 15) 31) (.add t 5643)),ag w b c sf (.add t 5681) (.int 0 (.add t 5665)),ag w b c iG (.add t 5683) (.int 0 (.add t 5666)),ag w b c gq (.add t 5685) (.int (ay wd 20) (.add t 5653))] 6)]) 83:=ae (hm ([0,0,8,8,8,8]++kZ++[0,1011009]++kX))
theorem HK:nX w b c A gh n t L [kQ t wd tw,cS (cB "int.__and__" [(.int wd tw),(.int 28799 (.add t 5627))]) 10 13 [] (rV (.int 20595 (.add t 5628))) 10 14,kP w b c A s n wd tw em1 es1 83 84] [((bne (ay wd 32) 0),false),((decide (LT.lt wd 0)),false)] (k9 A wd tw) 7 (al w b c A s) (rV (.ref (.add n 2005))) 19 (al w b c A ⟨s.z,s.p,s.r,s.pc,s.md,s.sp,es1,em1⟩++[(18,tO [(.int 5 5115),.none,(.ref (.add n 2002))]),(15,iO 121 (.add n 2001)),(14,dO [ag w b c dj (.add t 5676) (.str kv 1824),ag w b c gK (.add t 5678) (.int (Builtin.bitAnd (ay wd 7) 31) (.add t 5639)),ag w b c lD (.add t 5680) (.int 0 (.add t 5666)),ag w b c sf (.add t 5682) (.int 0 (.add t 5667)),ag w b c iG (.add t 5684) (.int (Builtin.bitAnd (ay wd 15) 31) (.add t 5643)),ag w b c gq (.add t 5686) (.int (ay wd 20) (.add t 5653))] 6)]) 84:=ae (hm ([0,0,8,8,8,8]++kZ++[0,1012009]++kX))
theorem HX:nX w b c A gh n t L [kQ t wd tw,cS (cB "int.__and__" [(.int wd tw),(.int 28799 (.add t 5627))]) 10 13 [] (rV (.int 24691 (.add t 5628))) 10 14,kP w b c A s n wd tw em1 es1 83 84] [((bne (ay wd 32) 0),false),((decide (LT.lt wd 0)),false)] (k9 A wd tw) 7 (al w b c A s) (rV (.ref (.add n 2005))) 19 (al w b c A ⟨s.z,s.p,s.r,s.pc,s.md,s.sp,es1,em1⟩++[(18,tO [(.int 5 5115),.none,(.ref (.add n 2002))]),(15,iO 121 (.add n 2001)),(14,dO [ag w b c dj (.add t 5676) (.str kM 1825),ag w b c gK (.add t 5678) (.int (Builtin.bitAnd (ay wd 7) 31) (.add t 5639)),ag w b c lD (.add t 5680) (.int 0 (.add t 5666)),ag w b c sf (.add t 5682) (.int 0 (.add t 5667)),ag w b c iG (.add t 5684) (.int (Builtin.bitAnd (ay wd 15) 31) (.add t 5643)),ag w b c gq (.add t 5686) (.int (ay wd 20) (.add t 5653))] 6)]) 84:=ae (hm ([0,0,8,8,8,8]++kZ++[0,1012009]++kX))
theorem IW:nX w b c A gh n t L [kQ t wd tw,cS (cB "int.__and__" [(.int wd tw),(.int 28799 (.add t 5627))]) 10 13 [] (rV (.int 28787 (.add t 5628))) 10 14,kP w b c A s n wd tw em1 es1 83 84] [((bne (ay wd 32) 0),false),((decide (LT.lt wd 0)),false)] (k9 A wd tw) 7 (al w b c A s) (rV (.ref (.add n 2005))) 19 (al w b c A ⟨s.z,s.p,s.r,s.pc,s.md,s.sp,es1,em1⟩++[(18,tO [(.int 5 5115),.none,(.ref (.add n 2002))]),(15,iO 121 (.add n 2001)),(14,dO [ag w b c dj (.add t 5676) (.str kJ 1826),ag w b c gK (.add t 5678) (.int (Builtin.bitAnd (ay wd 7) 31) (.add t 5639)),ag w b c lD (.add t 5680) (.int 0 (.add t 5666)),ag w b c sf (.add t 5682) (.int 0 (.add t 5667)),ag w b c iG (.add t 5684) (.int (Builtin.bitAnd (ay wd 15) 31) (.add t 5643)),ag w b c gq (.add t 5686) (.int (ay wd 20) (.add t 5653))] 6)]) 84:=ae (hm ([0,0,8,8,8,8]++kZ++[0,1012009]++kX))
end
section
variable(w:World)(b c:Bool)(A:AS)(s:BS)(gh:List (Addr×Obj))(n t L:Nat)(k u:Nat→Nat)(tn:Nat)(rd by_ cs:Int)
def k6:Code:=(cR 1072 [.ref (.add (A.a 0) 1994)])
def AX:List (Nat×Obj):=[(0,iO 121 (.add (A.a 1) 1994)),(1,iD (PP w b c) ⟨k,(fun i=>cond (Nat.beq i 0) (.add tn 5615) (u i)),kL,rd,by_,0,0,cs⟩)]
def Cn:List (Nat×Obj):=[(0,iO 121 (.add (A.a 1) 1994)),(1,iD (PP w b c) ⟨k,(fun i=>cond (Nat.beq i 0) (.add tn 5615) (u i)),kz,rd,by_,0,0,cs⟩)]
def AD:List (Nat×Obj):=[(0,iO 121 (.add (A.a 1) 1994)),(1,iD (PP w b c) ⟨k,(fun i=>cond (Nat.beq i 0) (.add tn 5615) (u i)),kG,rd,by_,0,0,cs⟩)]
def Bu:List (Nat×Obj):=[(0,iO 121 (.add (A.a 1) 1994)),(1,iD (PP w b c) ⟨k,(fun i=>cond (Nat.beq i 0) (.add tn 5615) (u i)),kv,rd,0,0,by_,cs⟩)]
def Cg:List (Nat×Obj):=[(0,iO 121 (.add (A.a 1) 1994)),(1,iD (PP w b c) ⟨k,(fun i=>cond (Nat.beq i 0) (.add tn 5615) (u i)),kM,rd,0,0,by_,cs⟩)]
def Br:List (Nat×Obj):=[(0,iO 121 (.add (A.a 1) 1994)),(1,iD (PP w b c) ⟨k,(fun i=>cond (Nat.beq i 0) (.add tn 5615) (u i)),kJ,rd,0,0,by_,cs⟩)]
abbrev nI:=Dl w b c A gh L 40 [(2,Nat.add n 1994)] [(0,Nat.add t 5615)]
include w b c A s gh n t L k u tn rd by_ cs
theorem vI:nI w b c A gh n t L [((bg cs 20),false),((bg 0 20),false),((bg by_ 15),false),((bg rd 7),false),((decide (LT.lt cs 4096)),true),((decide (LE.le 0 cs)),true),((decide (LT.lt by_ 32)),true),((decide (LE.le 0 by_)),true),((decide (LT.lt rd 32)),true),((decide (LE.le 0 rd)),true)] (k6 A) 2 (AX w b c A k u tn rd by_ cs) (rV (.int (Builtin.bitOr (Builtin.bitOr (Builtin.bitOr (Builtin.bitOr 4211 (be rd 7)) (be by_ 15)) (be 0 20)) (be cs 20)) (.add t 5710))) 36 (AX w b c A k u tn rd by_ cs) 96:=lA (hm v9)
theorem ux:nI w b c A gh n t L [((bg cs 20),false),((bg 0 20),false),((bg by_ 15),false),((bg rd 7),false),((decide (LT.lt cs 4096)),true),((decide (LE.le 0 cs)),true),((decide (LT.lt by_ 32)),true),((decide (LE.le 0 by_)),true),((decide (LT.lt rd 32)),true),((decide (LE.le 0 rd)),true)] (k6 A) 2 (Cn w b c A k u tn rd by_ cs) (rV (.int (Builtin.bitOr (Builtin.bitOr (Builtin.bitOr (Builtin.bitOr 8307 (be rd 7)) (be by_ 15)) (be 0 20)) (be cs 20)) (.add t 5710))) 36 (Cn w b c A k u tn rd by_ cs) 96:=lA (hm v9)
theorem tR:nI w b c A gh n t L [((bg cs 20),false),((bg 0 20),false),((bg by_ 15),false),((bg rd 7),false),((decide (LT.lt cs 4096)),true),((decide (LE.le 0 cs)),true),((decide (LT.lt by_ 32)),true),((decide (LE.le 0 by_)),true),((decide (LT.lt rd 32)),true),((decide (LE.le 0 rd)),true)] (k6 A) 2 (AD w b c A k u tn rd by_ cs) (rV (.int (Builtin.bitOr (Builtin.bitOr (Builtin.bitOr (Builtin.bitOr 12403 (be rd 7)) (be by_ 15)) (be 0 20)) (be cs 20)) (.add t 5710))) 36 (AD w b c A k u tn rd by_ cs) 96:=lA (hm v9)
theorem sH:nI w b c A gh n t L [((bg by_ 15),false),((bg cs 20),false),((bg 0 20),false),((bg 0 15),false),((bg rd 7),false),((decide (LT.lt cs 4096)),true),((decide (LE.le 0 cs)),true),((bne (ak by_ 1) 0),false),((decide (LE.le by_ 31)),true),((decide (LE.le 0 by_)),true),((decide (LT.lt rd 32)),true),((decide (LE.le 0 rd)),true)] (k6 A) 2 (Bu w b c A k u tn rd by_ cs) (rV (.int (Builtin.bitOr (Builtin.bitOr (Builtin.bitOr (Builtin.bitOr (Builtin.bitOr 20595 (be rd 7)) (be 0 15)) (be 0 20)) (be cs 20)) (be by_ 15)) (.add t 5717))) 39 (Bu w b c A k u tn rd by_ cs) 103:=lA (hm (tZ++[3,2]))
theorem sI:nI w b c A gh n t L [((bg by_ 15),false),((bg cs 20),false),((bg 0 20),false),((bg 0 15),false),((bg rd 7),false),((decide (LT.lt cs 4096)),true),((decide (LE.le 0 cs)),true),((bne (ak by_ 1) 0),false),((decide (LE.le by_ 31)),true),((decide (LE.le 0 by_)),true),((decide (LT.lt rd 32)),true),((decide (LE.le 0 rd)),true)] (k6 A) 2 (Cg w b c A k u tn rd by_ cs) (rV (.int (Builtin.bitOr (Builtin.bitOr (Builtin.bitOr (Builtin.bitOr (Builtin.bitOr 24691 (be rd 7)) (be 0 15)) (be 0 20)) (be cs 20)) (be by_ 15)) (.add t 5717))) 39 (Cg w b c A k u tn rd by_ cs) 103:=lA (hm (tZ++[3,2]))
theorem sD:nI w b c A gh n t L [((bg by_ 15),false),((bg cs 20),false),((bg 0 20),false),((bg 0 15),false),((bg rd 7),false),((decide (LT.lt cs 4096)),true),((decide (LE.le 0 cs)),true),((bne (ak by_ 1) 0),false),((decide (LE.le by_ 31)),true),((decide (LE.le 0 by_)),true),((decide (LT.lt rd 32)),true),((decide (LE.le 0 rd)),true)] (k6 A) 2 (Br w b c A k u tn rd by_ cs) (rV (.int (Builtin.bitOr (Builtin.bitOr (Builtin.bitOr (Builtin.bitOr (Builtin.bitOr 28787 (be rd 7)) (be 0 15)) (be 0 20)) (be cs 20)) (be by_ 15)) (.add t 5717))) 39 (Br w b c A k u tn rd by_ cs) 103:=lA (hm (tZ++[3,2]))
end
theorem In(x y:Int)(tx ty:Nat):Builtin.«int.__and__» ⟨[.int x tx,.int y ty],[]⟩=(.fresh fun t=>.pure (.done (.ret (.int (Builtin.bitAnd x y) t))):Sem PySem.Fin):=by kernel_rfl
theorem gI{w:World}{b c:Bool}{S:HT}{B:Nat}{gh:List (Addr×Obj)}{n t:Nat}{C:Ctx→Prop}{x y v:Int}{tx ty:Nat}(h:Builtin.bitAnd x y=v):
    TriC (MM w b c) S B C (.builtin "int.__and__" ⟨[.int x tx,.int y ty],[]⟩) gh [] n t (.ok (.ret (.int v t))) gh [] n (t+1):=
  lH fun Γ P h' gs d os=>by rw[cM F.entry_int_and,In,h];exact .fresh .done
theorem pF{a m v:Nat}(h:a &&& m=v):Builtin.bitAnd (Int.ofNat a) (Int.ofNat m)=Int.ofNat v:=by
  have:=iE a m
  rw[h]at this;exact this
theorem Hz(a:Nat):a &&& 31=a%32:=nS a 5
theorem gM{j rd by_ at_:Nat}(hj:j<6)(hr:rd<32)(hb:by_<32)(ha:at_<4096):
    Builtin.bitAnd (Int.ofNat (aG j rd by_ at_)) 127=115∧Builtin.bitAnd (Int.ofNat (aG j rd by_ at_)) 28799=Int.ofNat (115+f3 j*4096)∧Builtin.bitAnd (ay (Int.ofNat (aG j rd by_ at_)) 7) 31=Int.ofNat rd∧
    Builtin.bitAnd (ay (Int.ofNat (aG j rd by_ at_)) 15) 31=Int.ofNat by_∧ay (Int.ofNat (aG j rd by_ at_)) 20=Int.ofNat at_∧ay (Int.ofNat (aG j rd by_ at_)) 32=0:=by
  obtain⟨h1,h2,h3,h4,h5⟩:=Bj (at_:=at_) hj hr hb
  have hs:=dX hj hr hb ha
  refine⟨pF h1,pF h2,?_,?_,?_,?_⟩
  · have:=gY (aG j rd by_ at_) 7
    rw[show ay (Int.ofNat (aG j rd by_ at_)) 7=Int.ofNat (aG j rd by_ at_/2^7) from this]
    exact pF (by rw[Hz];exact h3)
  · have:=gY (aG j rd by_ at_) 15
    rw[show ay (Int.ofNat (aG j rd by_ at_)) 15=Int.ofNat (aG j rd by_ at_/2^15) from this]
    exact pF (by rw[Hz];exact h4)
  · have:=gY (aG j rd by_ at_) 20
    rw[show ay (Int.ofNat (aG j rd by_ at_)) 20=Int.ofNat (aG j rd by_ at_/2^20) from this]
    exact congrArg Int.ofNat h5
  · have:=gY (aG j rd by_ at_) 32
    rw[show ay (Int.ofNat (aG j rd by_ at_)) 32=Int.ofNat (aG j rd by_ at_/2^32) from this,Nat.div_eq_of_lt hs];rfl
theorem jE{j rd by_ at_:Nat}(hj:j<6)(hr:rd<32)(hb:by_<32)(ha:at_<4096):(bne (ay (Int.ofNat (aG j rd by_ at_)) 32) 0)=false∧(decide (LT.lt (Int.ofNat (aG j rd by_ at_)) 0))=false:=by
  rw[(gM hj hr hb ha).2.2.2.2.2]
  exact⟨rfl,by simp⟩
theorem qZ{f rd by_ at_:Nat}(hf:f<8)(hr:rd<32)(hb:by_<32):
    Builtin.bitOr (Builtin.bitOr (Builtin.bitOr (Builtin.bitOr (Int.ofNat (115+f*4096)) (be (Int.ofNat rd) 7)) (be (Int.ofNat by_) 15)) (be 0 20)) (be (Int.ofNat at_) 20)=Int.ofNat (115+f*4096+rd*128+by_*32768+at_*1048576):=by
  rw[←Be hf hr hb]
  have e1:=g7 rd 7
  have e2:=g7 by_ 15
  have e3:be 0 20=((0:Nat):Int):=by decide
  have e4:=g7 at_ 20
  rw[show be (Int.ofNat rd) 7=((rd*2^7:Nat):Int) from e1,show be (Int.ofNat by_) 15=((by_*2^15:Nat):Int) from e2,e3,show be (Int.ofNat at_) 20=((at_*2^20:Nat):Int) from e4]
  rw[show Int.ofNat (115+f*4096)=((115+f*4096:Nat):Int) from rfl,eE,eE,eE,eE];rfl
theorem oT{f rd by_ at_:Nat}(hf:f<8)(hr:rd<32)(hb:by_<32):
    Builtin.bitOr (Builtin.bitOr (Builtin.bitOr (Builtin.bitOr (Builtin.bitOr (Int.ofNat (115+f*4096)) (be (Int.ofNat rd) 7)) (be 0 15)) (be 0 20)) (be (Int.ofNat at_) 20)) (be (Int.ofNat by_) 15)=Int.ofNat (115+f*4096+rd*128+by_*32768+at_*1048576):=by
  rw[←IT hf hr hb]
  have e1:=g7 rd 7
  have e2:=g7 by_ 15
  have e3:be 0 20=((0:Nat):Int):=by decide
  have e5:be 0 15=((0:Nat):Int):=by decide
  have e4:=g7 at_ 20
  rw[show be (Int.ofNat rd) 7=((rd*2^7:Nat):Int) from e1,show be (Int.ofNat by_) 15=((by_*2^15:Nat):Int) from e2,e3,e5,show be (Int.ofNat at_) 20=((at_*2^20:Nat):Int) from e4]
  rw[show Int.ofNat (115+f*4096)=((115+f*4096:Nat):Int) from rfl,eE,eE,eE,eE,eE];rfl
theorem gS{rd by_ at_:Nat}(hr:rd<32)(hb:by_<32)(ha:at_<4096):bg (Int.ofNat at_) 20=false∧bg (Int.ofNat by_) 15=false∧bg (Int.ofNat rd) 7=false∧(decide (LT.lt (Int.ofNat at_) 4096))=true∧(decide (LE.le 0 (Int.ofNat at_)))=true∧
    (decide (LT.lt (Int.ofNat by_) 32))=true∧(decide (LE.le 0 (Int.ofNat by_)))=true∧(decide (LT.lt (Int.ofNat rd) 32))=true∧(decide (LE.le 0 (Int.ofNat rd)))=true∧(decide (LE.le (Int.ofNat by_) 31))=true∧(bne (ak (Int.ofNat by_) 1) 0)=false:=by
  have p:∀x,x<4096→x<2^200:=fun x h=>Nat.lt_trans h (by decide)
  refine⟨fM at_ 20 (p _ ha) (by decide),fM by_ 15 (p _ (by omega)) (by decide),fM rd 7 (p _ (by omega)) (by decide),?_,?_,?_,?_,?_,?_,?_,?_⟩
  iterate 7 (exact decide_eq_true (by simp only[Int.ofNat_eq_natCast];omega))
  have:=gP by_ 1
  rw[show ak (Int.ofNat by_) 1=((by_%1:Nat):Int) from this,Nat.mod_one];rfl
theorem fc{a b:Bool}{l:List (Bool×Bool)}(h:a=b)(t:∀x∈l,x.1=x.2):∀x∈(a,b)::l,x.1=x.2:=ab h t
theorem stopL0:bg 0 20=false∧bg 0 15=false:=⟨fM 0 20 (by decide) (by decide),fM 0 15 (by decide) (by decide)⟩
def i7(a b c d e f:Nat):Nat→Nat:=fun i=>cond (Nat.beq i 0) a (cond (Nat.beq i 1) b (cond (Nat.beq i 2) c (cond (Nat.beq i 3) d (cond (Nat.beq i 4) e f))))
inductive EncOkX (w:World) (b c:Bool) (j rd by_ at_:Nat) (k u:Nat→Nat) (tn a d:Nat) (gh:List (Addr×Obj)) (n t:Nat):Prop where
  |mk (tc n' t':Nat) (h0_:Tri (MM w b c) (bV (PP w b c)) 1994 40 (.call (.ref 1072) ⟨[.ref (ad a)],[]⟩) gh [(ad a,iO 121 (ad d)),(ad d,iD (PP w b c) (IS' k (fun i=>cond (Nat.beq i 0) (.add tn 5615) (u i)) j rd (rsOf j by_) (imOf j by_) at_))] (.add n 1994) (.add t 5615) (.ok (.ret (.int (Int.ofNat (aG j rd by_ at_)) tc))) gh
   [(ad a,iO 121 (ad d)),(ad d,iD (PP w b c) (IS' k (fun i=>cond (Nat.beq i 0) (.add tn 5615) (u i)) j rd (rsOf j by_) (imOf j by_) at_))] (.add n' 1994) (.add t' 5615)):EncOkX w b c j rd by_ at_ k u tn a d gh n t
def lQ(w:World)(b c:Bool)(j rd by_ at_:Nat):Prop:=∀(k u:Nat→Nat) (tn a d:Nat) (gh:List (Addr×Obj)) (n t:Nat),EncOkX w b c j rd by_ at_ k u tn a d gh n t
def a2(a d:Nat):AS:=⟨fun i=>cond (Nat.beq i 0) a d,fun _=>0⟩
section
variable(w:World)(b c:Bool)(A:AS){rd by_ at_:Nat}(hr:rd<32)(hb:by_<32)(ha:at_<4096)
include w b c hr hb ha
theorem zU:fC w b c A 0 rd (rsOf 0 by_) (imOf 0 by_) at_ (aG 0 rd by_ at_):=by
 intro s gh n t tw hk hz hi
 obtain⟨v1,v2,v3,v4,v5,_⟩:=gM (j:=0) (by decide) hr hb ha
 obtain⟨c1,c2⟩:=jE (j:=0) (by decide) hr hb ha
 have hs:=dX (j:=0) (by decide) hr hb ha
 have key:=H6 w b c A s gh n t 0 (Int.ofNat (aG 0 rd by_ at_)) tw (.add s.em 1) (s.es.push ⟨Int.ofNat (aG 0 rd by_ at_),.int (Int.ofNat (aG 0 rd by_ at_)) tw,.ref (ad (n+11))⟩)
  (fk (gI v1)<|fk (gI v2)<|fk (TriC.cast (ga (gh:=gh) (n:=Nat.add n (1994+12)) (t:=Nat.add t (5615+82)) Lim.h (d:=ad (A.a 6)) (o:=d6 (PP w b c) A s) (l:=s.es.toList) (ep:=s.em) (k:=Int.ofNat (aG 0 rd by_ at_)) (u:=tw) (v:=.ref (.add n 2005)) rfl rfl hk hz (cK _ (by omega)) hi) (by kernel_rfl) (by kernel_rfl) (by kernel_rfl) (by kernel_rfl) (by kernel_rfl) (by kernel_rfl) rfl rfl rfl)<|aa) (ab c1 (ab c2 aa))
 rw[v3,v4,v5]at key
 exact⟨n+11,n+8,n+7,i7 (.add t 5675) (.add t 5677) (.add t 5679) (.add t 5681) (.add t 5683) (.add t 5685),i7 1744 (.add t 5639) (.add t 5643) (.add t 5665) (.add t 5666) (.add t 5653),n+12,t+83,by omega,by omega,by omega,⟨by omega,by omega,by omega⟩,kF key⟩
theorem zH:fC w b c A 1 rd (rsOf 1 by_) (imOf 1 by_) at_ (aG 1 rd by_ at_):=by
 intro s gh n t tw hk hz hi
 obtain⟨v1,v2,v3,v4,v5,_⟩:=gM (j:=1) (by decide) hr hb ha
 obtain⟨c1,c2⟩:=jE (j:=1) (by decide) hr hb ha
 have hs:=dX (j:=1) (by decide) hr hb ha
 have key:=I2 w b c A s gh n t 0 (Int.ofNat (aG 1 rd by_ at_)) tw (.add s.em 1) (s.es.push ⟨Int.ofNat (aG 1 rd by_ at_),.int (Int.ofNat (aG 1 rd by_ at_)) tw,.ref (ad (n+11))⟩)
  (fk (gI v1)<|fk (gI v2)<|fk (TriC.cast (ga (gh:=gh) (n:=Nat.add n (1994+12)) (t:=Nat.add t (5615+82)) Lim.h (d:=ad (A.a 6)) (o:=d6 (PP w b c) A s) (l:=s.es.toList) (ep:=s.em) (k:=Int.ofNat (aG 1 rd by_ at_)) (u:=tw) (v:=.ref (.add n 2005)) rfl rfl hk hz (cK _ (by omega)) hi) (by kernel_rfl) (by kernel_rfl) (by kernel_rfl) (by kernel_rfl) (by kernel_rfl) (by kernel_rfl) rfl rfl rfl)<|aa) (ab c1 (ab c2 aa))
 rw[v3,v4,v5]at key
 exact⟨n+11,n+8,n+7,i7 (.add t 5675) (.add t 5677) (.add t 5679) (.add t 5681) (.add t 5683) (.add t 5685),i7 1745 (.add t 5639) (.add t 5643) (.add t 5665) (.add t 5666) (.add t 5653),n+12,t+83,by omega,by omega,by omega,⟨by omega,by omega,by omega⟩,kF key⟩
theorem Ae:fC w b c A 2 rd (rsOf 2 by_) (imOf 2 by_) at_ (aG 2 rd by_ at_):=by
 intro s gh n t tw hk hz hi
 obtain⟨v1,v2,v3,v4,v5,_⟩:=gM (j:=2) (by decide) hr hb ha
 obtain⟨c1,c2⟩:=jE (j:=2) (by decide) hr hb ha
 have hs:=dX (j:=2) (by decide) hr hb ha
 have key:=Ia w b c A s gh n t 0 (Int.ofNat (aG 2 rd by_ at_)) tw (.add s.em 1) (s.es.push ⟨Int.ofNat (aG 2 rd by_ at_),.int (Int.ofNat (aG 2 rd by_ at_)) tw,.ref (ad (n+11))⟩)
  (fk (gI v1)<|fk (gI v2)<|fk (TriC.cast (ga (gh:=gh) (n:=Nat.add n (1994+12)) (t:=Nat.add t (5615+82)) Lim.h (d:=ad (A.a 6)) (o:=d6 (PP w b c) A s) (l:=s.es.toList) (ep:=s.em) (k:=Int.ofNat (aG 2 rd by_ at_)) (u:=tw) (v:=.ref (.add n 2005)) rfl rfl hk hz (cK _ (by omega)) hi) (by kernel_rfl) (by kernel_rfl) (by kernel_rfl) (by kernel_rfl) (by kernel_rfl) (by kernel_rfl) rfl rfl rfl)<|aa) (ab c1 (ab c2 aa))
 rw[v3,v4,v5]at key
 exact⟨n+11,n+8,n+7,i7 (.add t 5675) (.add t 5677) (.add t 5679) (.add t 5681) (.add t 5683) (.add t 5685),i7 1746 (.add t 5639) (.add t 5643) (.add t 5665) (.add t 5666) (.add t 5653),n+12,t+83,by omega,by omega,by omega,⟨by omega,by omega,by omega⟩,kF key⟩
theorem yI:fC w b c A 3 rd (rsOf 3 by_) (imOf 3 by_) at_ (aG 3 rd by_ at_):=by
 intro s gh n t tw hk hz hi
 obtain⟨v1,v2,v3,v4,v5,_⟩:=gM (j:=3) (by decide) hr hb ha
 obtain⟨c1,c2⟩:=jE (j:=3) (by decide) hr hb ha
 have hs:=dX (j:=3) (by decide) hr hb ha
 have key:=HK w b c A s gh n t 0 (Int.ofNat (aG 3 rd by_ at_)) tw (.add s.em 1) (s.es.push ⟨Int.ofNat (aG 3 rd by_ at_),.int (Int.ofNat (aG 3 rd by_ at_)) tw,.ref (ad (n+11))⟩)
  (fk (gI v1)<|fk (gI v2)<|fk (TriC.cast (ga (gh:=gh) (n:=Nat.add n (1994+12)) (t:=Nat.add t (5615+83)) Lim.h (d:=ad (A.a 6)) (o:=d6 (PP w b c) A s) (l:=s.es.toList) (ep:=s.em) (k:=Int.ofNat (aG 3 rd by_ at_)) (u:=tw) (v:=.ref (.add n 2005)) rfl rfl hk hz (cK _ (by omega)) hi) (by kernel_rfl) (by kernel_rfl) (by kernel_rfl) (by kernel_rfl) (by kernel_rfl) (by kernel_rfl) rfl rfl rfl)<|aa) (ab c1 (ab c2 aa))
 rw[v3,v4,v5]at key
 exact⟨n+11,n+8,n+7,i7 (.add t 5676) (.add t 5678) (.add t 5680) (.add t 5682) (.add t 5684) (.add t 5686),i7 1824 (.add t 5639) (.add t 5666) (.add t 5667) (.add t 5643) (.add t 5653),n+12,t+84,by omega,by omega,by omega,⟨by omega,by omega,by omega⟩,kF key⟩
theorem ze:fC w b c A 4 rd (rsOf 4 by_) (imOf 4 by_) at_ (aG 4 rd by_ at_):=by
 intro s gh n t tw hk hz hi
 obtain⟨v1,v2,v3,v4,v5,_⟩:=gM (j:=4) (by decide) hr hb ha
 obtain⟨c1,c2⟩:=jE (j:=4) (by decide) hr hb ha
 have hs:=dX (j:=4) (by decide) hr hb ha
 have key:=HX w b c A s gh n t 0 (Int.ofNat (aG 4 rd by_ at_)) tw (.add s.em 1) (s.es.push ⟨Int.ofNat (aG 4 rd by_ at_),.int (Int.ofNat (aG 4 rd by_ at_)) tw,.ref (ad (n+11))⟩)
  (fk (gI v1)<|fk (gI v2)<|fk (TriC.cast (ga (gh:=gh) (n:=Nat.add n (1994+12)) (t:=Nat.add t (5615+83)) Lim.h (d:=ad (A.a 6)) (o:=d6 (PP w b c) A s) (l:=s.es.toList) (ep:=s.em) (k:=Int.ofNat (aG 4 rd by_ at_)) (u:=tw) (v:=.ref (.add n 2005)) rfl rfl hk hz (cK _ (by omega)) hi) (by kernel_rfl) (by kernel_rfl) (by kernel_rfl) (by kernel_rfl) (by kernel_rfl) (by kernel_rfl) rfl rfl rfl)<|aa) (ab c1 (ab c2 aa))
 rw[v3,v4,v5]at key
 exact⟨n+11,n+8,n+7,i7 (.add t 5676) (.add t 5678) (.add t 5680) (.add t 5682) (.add t 5684) (.add t 5686),i7 1825 (.add t 5639) (.add t 5666) (.add t 5667) (.add t 5643) (.add t 5653),n+12,t+84,by omega,by omega,by omega,⟨by omega,by omega,by omega⟩,kF key⟩
theorem Ag:fC w b c A 5 rd (rsOf 5 by_) (imOf 5 by_) at_ (aG 5 rd by_ at_):=by
 intro s gh n t tw hk hz hi
 obtain⟨v1,v2,v3,v4,v5,_⟩:=gM (j:=5) (by decide) hr hb ha
 obtain⟨c1,c2⟩:=jE (j:=5) (by decide) hr hb ha
 have hs:=dX (j:=5) (by decide) hr hb ha
 have key:=IW w b c A s gh n t 0 (Int.ofNat (aG 5 rd by_ at_)) tw (.add s.em 1) (s.es.push ⟨Int.ofNat (aG 5 rd by_ at_),.int (Int.ofNat (aG 5 rd by_ at_)) tw,.ref (ad (n+11))⟩)
  (fk (gI v1)<|fk (gI v2)<|fk (TriC.cast (ga (gh:=gh) (n:=Nat.add n (1994+12)) (t:=Nat.add t (5615+83)) Lim.h (d:=ad (A.a 6)) (o:=d6 (PP w b c) A s) (l:=s.es.toList) (ep:=s.em) (k:=Int.ofNat (aG 5 rd by_ at_)) (u:=tw) (v:=.ref (.add n 2005)) rfl rfl hk hz (cK _ (by omega)) hi) (by kernel_rfl) (by kernel_rfl) (by kernel_rfl) (by kernel_rfl) (by kernel_rfl) (by kernel_rfl) rfl rfl rfl)<|aa) (ab c1 (ab c2 aa))
 rw[v3,v4,v5]at key
 exact⟨n+11,n+8,n+7,i7 (.add t 5676) (.add t 5678) (.add t 5680) (.add t 5682) (.add t 5684) (.add t 5686),i7 1826 (.add t 5639) (.add t 5666) (.add t 5667) (.add t 5643) (.add t 5653),n+12,t+84,by omega,by omega,by omega,⟨by omega,by omega,by omega⟩,kF key⟩
theorem EE:lQ w b c 0 rd by_ at_:=by
 intro k u tn a d gh n t
 obtain⟨e1,e2,e3,e4,e5,e6,e7,e8,e9,e10,e11⟩:=gS hr hb ha
 have key:=vI w b c (a2 a d) bf gh n t 0 k u tn (Int.ofNat rd) (Int.ofNat by_) (Int.ofNat at_) (fc e1 (fc stopL0.1 (fc e2 (fc e3 (fc e4 (fc e5 (fc e6 (fc e7 (fc e8 (fc e9 aa))))))))))
 have ev:=qZ (f:=1) (at_:=at_) (by decide) hr hb
 exact⟨(.add t 5710),n+34,t+96,TriC.cast key (by kernel_rfl) rfl rfl (by kernel_rfl) (nf n 1994 34) (nf t 5615 96) rfl rfl (congrArg (fun x=>(.ok (.ret (.int x (.add t 5710))):Result)) ev)⟩
theorem E4:lQ w b c 1 rd by_ at_:=by
 intro k u tn a d gh n t
 obtain⟨e1,e2,e3,e4,e5,e6,e7,e8,e9,e10,e11⟩:=gS hr hb ha
 have key:=ux w b c (a2 a d) bf gh n t 0 k u tn (Int.ofNat rd) (Int.ofNat by_) (Int.ofNat at_) (fc e1 (fc stopL0.1 (fc e2 (fc e3 (fc e4 (fc e5 (fc e6 (fc e7 (fc e8 (fc e9 aa))))))))))
 have ev:=qZ (f:=2) (at_:=at_) (by decide) hr hb
 exact⟨(.add t 5710),n+34,t+96,TriC.cast key (by kernel_rfl) rfl rfl (by kernel_rfl) (nf n 1994 34) (nf t 5615 96) rfl rfl (congrArg (fun x=>(.ok (.ret (.int x (.add t 5710))):Result)) ev)⟩
theorem Db:lQ w b c 2 rd by_ at_:=by
 intro k u tn a d gh n t
 obtain⟨e1,e2,e3,e4,e5,e6,e7,e8,e9,e10,e11⟩:=gS hr hb ha
 have key:=tR w b c (a2 a d) bf gh n t 0 k u tn (Int.ofNat rd) (Int.ofNat by_) (Int.ofNat at_) (fc e1 (fc stopL0.1 (fc e2 (fc e3 (fc e4 (fc e5 (fc e6 (fc e7 (fc e8 (fc e9 aa))))))))))
 have ev:=qZ (f:=3) (at_:=at_) (by decide) hr hb
 exact⟨(.add t 5710),n+34,t+96,TriC.cast key (by kernel_rfl) rfl rfl (by kernel_rfl) (nf n 1994 34) (nf t 5615 96) rfl rfl (congrArg (fun x=>(.ok (.ret (.int x (.add t 5710))):Result)) ev)⟩
theorem C7:lQ w b c 3 rd by_ at_:=by
 intro k u tn a d gh n t
 obtain⟨e1,e2,e3,e4,e5,e6,e7,e8,e9,e10,e11⟩:=gS hr hb ha
 have key:=sH w b c (a2 a d) bf gh n t 0 k u tn (Int.ofNat rd) (Int.ofNat by_) (Int.ofNat at_) (fc e2 (fc e1 (fc stopL0.1 (fc stopL0.2 (fc e3 (fc e4 (fc e5 (fc e11 (fc e10 (fc e7 (fc e8 (fc e9 aa))))))))))))
 have ev:=oT (f:=5) (at_:=at_) (by decide) hr hb
 exact⟨(.add t 5717),n+37,t+103,TriC.cast key (by kernel_rfl) rfl rfl (by kernel_rfl) (nf n 1994 37) (nf t 5615 103) rfl rfl (congrArg (fun x=>(.ok (.ret (.int x (.add t 5717))):Result)) ev)⟩
theorem Dz:lQ w b c 4 rd by_ at_:=by
 intro k u tn a d gh n t
 obtain⟨e1,e2,e3,e4,e5,e6,e7,e8,e9,e10,e11⟩:=gS hr hb ha
 have key:=sI w b c (a2 a d) bf gh n t 0 k u tn (Int.ofNat rd) (Int.ofNat by_) (Int.ofNat at_) (fc e2 (fc e1 (fc stopL0.1 (fc stopL0.2 (fc e3 (fc e4 (fc e5 (fc e11 (fc e10 (fc e7 (fc e8 (fc e9 aa))))))))))))
 have ev:=oT (f:=6) (at_:=at_) (by decide) hr hb
 exact⟨(.add t 5717),n+37,t+103,TriC.cast key (by kernel_rfl) rfl rfl (by kernel_rfl) (nf n 1994 37) (nf t 5615 103) rfl rfl (congrArg (fun x=>(.ok (.ret (.int x (.add t 5717))):Result)) ev)⟩
theorem C9:lQ w b c 5 rd by_ at_:=by
 intro k u tn a d gh n t
 obtain⟨e1,e2,e3,e4,e5,e6,e7,e8,e9,e10,e11⟩:=gS hr hb ha
 have key:=sD w b c (a2 a d) bf gh n t 0 k u tn (Int.ofNat rd) (Int.ofNat by_) (Int.ofNat at_) (fc e2 (fc e1 (fc stopL0.1 (fc stopL0.2 (fc e3 (fc e4 (fc e5 (fc e11 (fc e10 (fc e7 (fc e8 (fc e9 aa))))))))))))
 have ev:=oT (f:=7) (at_:=at_) (by decide) hr hb
 exact⟨(.add t 5717),n+37,t+103,TriC.cast key (by kernel_rfl) rfl rfl (by kernel_rfl) (nf n 1994 37) (nf t 5615 103) rfl rfl (congrArg (fun x=>(.ok (.ret (.int x (.add t 5717))):Result)) ev)⟩
theorem sC:∀j,j<6→fC w b c A j rd (rsOf j by_) (imOf j by_) at_ (aG j rd by_ at_):= ke (zU w b c A hr hb ha) (zH w b c A hr hb ha) (Ae w b c A hr hb ha) (yI w b c A hr hb ha) (ze w b c A hr hb ha) (Ag w b c A hr hb ha)
theorem xk:∀j,j<6→lQ w b c j rd by_ at_:= ke (EE w b c hr hb ha) (E4 w b c hr hb ha) (Db w b c hr hb ha) (C7 w b c hr hb ha) (Dz w b c hr hb ha) (C9 w b c hr hb ha)
end
section
variable(w:World)(b c:Bool)(o:Nat→Int×Nat)
include w b c o
section
variable(i:Nat)
include i
section
variable(m:Int)
include m
section
variable(h0:bk [257,1984,2817,3075,4095] (Int.ofNat i)=false)
include h0
section
variable(h1:bk [2816,2818,2944,2946,3072,3073,3074,3200,3201,3202] (Int.ofNat i)=false)
include h1
theorem Ed(he:He [((decide (GE.ge (Int.ofNat i) 3072)),false),((decide (LT.lt m (ak (aP (Int.ofNat i) 256) 4))),false)]):bu w b c o i m true true:=fun kt d gh n t ti tm=>
 ⟨n+25,t+103,kE (let_0 w b c (a1 d) bf gh n t 0 kt o i ti tm m (fk (aA Lim.h rfl h0)<|fk (aA Lim.h rfl h1)<|aa) he)⟩
theorem C4(he:He [((decide (LT.lt m (ak (aP (Int.ofNat i) 256) 4))),false)]):bu w b c o i m false true:=fun kt d gh n t ti tm=>
 ⟨n+25,t+102,kE (let_1 w b c (a1 d) bf gh n t 0 kt o i ti tm m (fk (aA Lim.h rfl h0)<|fk (aA Lim.h rfl h1)<|aa) he)⟩
end
section
variable(he:He [((decide (LT.lt m (ak (aP (Int.ofNat i) 256) 4))),true)])
include he
theorem CY:bu w b c o i m true false:=fun kt d gh n t ti tm=>
 ⟨n+25,t+102,kE (let_2 w b c (a1 d) bf gh n t 0 kt o i ti tm m (fk (aA Lim.h rfl h0)<|aa) he)⟩
theorem EZ:bu w b c o i m false false:=fun kt d gh n t ti tm=>
 ⟨n+25,t+102,kE (let_3 w b c (a1 d) bf gh n t 0 kt o i ti tm m (fk (aA Lim.h rfl h0)<|aa) he)⟩
end
section
variable(h1:bk [2816,2818,2944,2946,3072,3073,3074,3200,3201,3202] (Int.ofNat i)=true)
include h1
theorem Dq(he:He [((decide (GE.ge (Int.ofNat i) 3072)),false),((decide (GE.ge (Int.ofNat i) 3072)),false),((decide (LT.lt m (ak (aP (Int.ofNat i) 256) 4))),false)]):bu w b c o i m true true:=fun kt d gh n t ti tm=>
 ⟨n+25,t+104,kE (let_4 w b c (a1 d) bf gh n t 0 kt o i ti tm m (fk (aA Lim.h rfl h0)<|fk (aA Lim.h rfl h1)<|aa) he)⟩
theorem C1(he:He [((decide (GE.ge (Int.ofNat i) 3072)),false),((decide (LT.lt m (ak (aP (Int.ofNat i) 256) 4))),false)]):bu w b c o i m false true:=fun kt d gh n t ti tm=>
 ⟨n+25,t+103,kE (let_5 w b c (a1 d) bf gh n t 0 kt o i ti tm m (fk (aA Lim.h rfl h0)<|fk (aA Lim.h rfl h1)<|aa) he)⟩
theorem Dt(he:He (xC i m)):bu w b c o i m false true:=fun kt d gh n t ti tm=>
 ⟨n+25,t+104,kE (let_7 w b c (a1 d) bf gh n t 0 kt o i ti tm m (fk (aA Lim.h rfl h0)<|fk (aA Lim.h rfl h1)<|aa) he)⟩
theorem iH(he:He (xm o i m)):bu w b c o i m false true:=fun kt d gh n t ti tm=>
 ⟨n+25,t+113,kE (let_8 w b c (a1 d) bf gh n t 0 kt o i ti tm m (fk (aA Lim.h rfl h0)<|fk (aA Lim.h rfl h1)<|fk (fQ Lim.h (i:=774) (by decide))<|aa) he)⟩
theorem iF(he:He (xI o i m)):bu w b c o i m false true:=fun kt d gh n t ti tm=>
 ⟨n+25,t+121,kE (let_9 w b c (a1 d) bf gh n t 0 kt o i ti tm m (fk (aA Lim.h rfl h0)<|fk (aA Lim.h rfl h1)<|fk (fQ Lim.h (i:=774) (by decide))<|fk (fQ Lim.h (i:=262) (by decide))<|aa) he)⟩
theorem cX(he:He (uH o i m)):bu w b c o i m false false:=fun kt d gh n t ti tm=>
 ⟨n+25,t+112,kE (let_12 w b c (a1 d) bf gh n t 0 kt o i ti tm m (fk (aA Lim.h rfl h0)<|fk (aA Lim.h rfl h1)<|fk (fQ Lim.h (i:=774) (by decide))<|aa) he)⟩
theorem g9(he:He (uv o i m)):bu w b c o i m false false:=fun kt d gh n t ti tm=>
 ⟨n+25,t+121,kE (let_13 w b c (a1 d) bf gh n t 0 kt o i ti tm m (fk (aA Lim.h rfl h0)<|fk (aA Lim.h rfl h1)<|fk (fQ Lim.h (i:=774) (by decide))<|fk (fQ Lim.h (i:=262) (by decide))<|aa) he)⟩
end
theorem da(he:He [((decide (GE.ge (Int.ofNat i) 3072)),true),((decide (LT.lt m (ak (aP (Int.ofNat i) 256) 4))),false)]):bu w b c o i m true false:=fun kt d gh n t ti tm=>
 ⟨n+25,t+103,kE (let_6 w b c (a1 d) bf gh n t 0 kt o i ti tm m (fk (aA Lim.h rfl h0)<|aa) he)⟩
end
section
variable(h0:bk [257,1984,2817,3075,4095] (Int.ofNat i)=true)
include h0
theorem CG:bu w b c o i m true false:=fun kt d gh n t ti tm=>
 ⟨n+25,t+98,kE (let_10 w b c (a1 d) bf gh n t 0 kt o i ti tm m (fk (aA Lim.h rfl h0)<|aa) )⟩
theorem BL:bu w b c o i m false false:=fun kt d gh n t ti tm=>
 ⟨n+25,t+98,kE (let_11 w b c (a1 d) bf gh n t 0 kt o i ti tm m (fk (aA Lim.h rfl h0)<|aa) )⟩
end
end
theorem zq(hp:i∈keptL):bM w b c o i ((o i).1):=fun kt d gh n t ti=>
 ⟨(o i).2,n+1,t+4,kE (IV w b c (a1 d) bf gh n t 0 kt o i ti 0 0 (fk (B5 Lim.h bN hp)<|fk (fQ Lim.h hp)<|aa) )⟩
section
variable(hp:i∉keptL)
include hp
theorem yv(he:He (rJ i)):bM w b c o i ((ak (o 2816).1 4294967296)):=fun kt d gh n t ti=>
 ⟨(.add t 5632),n+1,t+18,kE (IO w b c (a1 d) bf gh n t 0 kt o i ti 0 0 (fk (fq Lim.h bN hp)<|fk (gg Lim.h)<|aa) he)⟩
theorem yi(he:He (su i)):bM w b c o i ((ak (o 2818).1 4294967296)):=fun kt d gh n t ti=>
 ⟨(.add t 5632),n+1,t+18,kE (Jy w b c (a1 d) bf gh n t 0 kt o i ti 0 0 (fk (fq Lim.h bN hp)<|fk (gj Lim.h)<|aa) he)⟩
theorem yM(he:He (sg i)):bM w b c o i ((aP (o 2816).1 4294967296)):=fun kt d gh n t ti=>
 ⟨(.add t 5632),n+1,t+18,kE (IY w b c (a1 d) bf gh n t 0 kt o i ti 0 0 (fk (fq Lim.h bN hp)<|fk (gg Lim.h)<|aa) he)⟩
theorem y7(he:He (rS i)):bM w b c o i ((aP (o 2818).1 4294967296)):=fun kt d gh n t ti=>
 ⟨(.add t 5632),n+1,t+18,kE (H4 w b c (a1 d) bf gh n t 0 kt o i ti 0 0 (fk (fq Lim.h bN hp)<|fk (gj Lim.h)<|aa) he)⟩
section
variable(x:Int)(hx:(i=769∧x=1075056896)∨(i=3857∧x=0)∨(i=3860∧x=3))
include x hx
theorem xW(he:He [((BEq.beq (Int.ofNat i) 769),true),((decide (GE.ge (Int.ofNat i) 3840)),false)]):bM w b c o i (x):=fun kt d gh n t ti=>
 ⟨(cond (Nat.beq i 769) (.add t 5639) (cond (Nat.beq i 3857) (.add t 5641) (.add t 5643))),n+2,t+33,kE (Is w b c (a1 d) bf gh n t 0 kt o i ti x (cond (Nat.beq i 769) (.add t 5639) (cond (Nat.beq i 3857) (.add t 5641) (.add t 5643))) (fk (fq Lim.h bN hp)<|fk (F3 Lim.h (x:=.int x (cond (Nat.beq i 769) (.add t 5639) (cond (Nat.beq i 3857) (.add t 5641) (.add t 5643)))) (hx.imp (fun h=>⟨h.1,by rw[h.1,h.2];rfl⟩) (fun h=>h.imp (fun h=>⟨h.1,by rw[h.1,h.2];rfl⟩) (fun h=>⟨h.1,by rw[h.1,h.2];rfl⟩))))<|aa) he)⟩
theorem qr(he:He [((decide (GE.ge (Int.ofNat i) 3840)),true)]):bM w b c o i (x):=fun kt d gh n t ti=>
 ⟨(cond (Nat.beq i 769) (.add t 5638) (cond (Nat.beq i 3857) (.add t 5640) (.add t 5642))),n+2,t+32,kE (HL w b c (a1 d) bf gh n t 0 kt o i ti x (cond (Nat.beq i 769) (.add t 5638) (cond (Nat.beq i 3857) (.add t 5640) (.add t 5642))) (fk (fq Lim.h bN hp)<|fk (F3 Lim.h (x:=.int x (cond (Nat.beq i 769) (.add t 5638) (cond (Nat.beq i 3857) (.add t 5640) (.add t 5642)))) (hx.imp (fun h=>⟨h.1,by rw[h.1,h.2];rfl⟩) (fun h=>h.imp (fun h=>⟨h.1,by rw[h.1,h.2];rfl⟩) (fun h=>⟨h.1,by rw[h.1,h.2];rfl⟩))))<|aa) he)⟩
end
end
section
variable(v:Int)
include v
section
variable(hp:i∈keptL)
include hp
theorem wB(he:He (p7 i)):aT w b c o i v (aW (vo o) i (Builtin.bitAnd v 4294967295)):=fun kt d gh n t ti tv=>
 ⟨(up o i (Builtin.bitAnd v 4294967295) (.add t 5711)),n+70,t+127,fun k=>aO _ _ _ _ k,kE (El w b c (a1 d) bf gh n t 0 kt o (up o i (Builtin.bitAnd v 4294967295) (.add t 5711)) i ti tv v (fk (cz Lim.h hp)<|aa) he)⟩
theorem wt(he:He (py i)):aT w b c o i v (aW (vo o) i (Builtin.bitAnd v 4294967295)):=fun kt d gh n t ti tv=>
 ⟨(up o i (Builtin.bitAnd v 4294967295) (.add t 5713)),n+70,t+127,fun k=>aO _ _ _ _ k,kE (En w b c (a1 d) bf gh n t 0 kt o (up o i (Builtin.bitAnd v 4294967295) (.add t 5713)) i ti tv v (fk (cz Lim.h hp)<|aa) he)⟩
theorem wf(he:He (pE i)):aT w b c o i v (aW (vo o) i (Builtin.bitAnd v 4294967295)):=fun kt d gh n t ti tv=>
 ⟨(up o i (Builtin.bitAnd v 4294967295) (.add t 5715)),n+70,t+127,fun k=>aO _ _ _ _ k,kE (Da w b c (a1 d) bf gh n t 0 kt o (up o i (Builtin.bitAnd v 4294967295) (.add t 5715)) i ti tv v (fk (cz Lim.h hp)<|aa) he)⟩
theorem we(he:He (qk i)):aT w b c o i v (aW (vo o) i (Builtin.bitAnd v 4294967295)):=fun kt d gh n t ti tv=>
 ⟨(up o i (Builtin.bitAnd v 4294967295) (.add t 5717)),n+70,t+127,fun k=>aO _ _ _ _ k,kE (Ej w b c (a1 d) bf gh n t 0 kt o (up o i (Builtin.bitAnd v 4294967295) (.add t 5717)) i ti tv v (fk (cz Lim.h hp)<|aa) he)⟩
theorem wz(he:He (pj i)):aT w b c o i v (aW (vo o) i (Builtin.bitAnd v 4294967295)):=fun kt d gh n t ti tv=>
 ⟨(up o i (Builtin.bitAnd v 4294967295) (.add t 5719)),n+70,t+127,fun k=>aO _ _ _ _ k,kE (EG w b c (a1 d) bf gh n t 0 kt o (up o i (Builtin.bitAnd v 4294967295) (.add t 5719)) i ti tv v (fk (cz Lim.h hp)<|aa) he)⟩
theorem wA(he:He (px i)):aT w b c o i v (aW (vo o) i (Builtin.bitAnd v 4294967295)):=fun kt d gh n t ti tv=>
 ⟨(up o i (Builtin.bitAnd v 4294967295) (.add t 5721)),n+70,t+127,fun k=>aO _ _ _ _ k,kE (D2 w b c (a1 d) bf gh n t 0 kt o (up o i (Builtin.bitAnd v 4294967295) (.add t 5721)) i ti tv v (fk (cz Lim.h hp)<|aa) he)⟩
theorem wu(he:He (qf i)):aT w b c o i v (aW (vo o) i (Builtin.bitAnd v 4294967292)):=fun kt d gh n t ti tv=>
 ⟨(up o i (Builtin.bitAnd v 4294967292) (.add t 5723)),n+70,t+127,fun k=>aO _ _ _ _ k,kE (EH w b c (a1 d) bf gh n t 0 kt o (up o i (Builtin.bitAnd v 4294967292) (.add t 5723)) i ti tv v (fk (cz Lim.h hp)<|aa) he)⟩
theorem wC(he:He (pq i)):aT w b c o i v (aW (vo o) i (Builtin.bitAnd v 4294967292)):=fun kt d gh n t ti tv=>
 ⟨(up o i (Builtin.bitAnd v 4294967292) (.add t 5725)),n+70,t+127,fun k=>aO _ _ _ _ k,kE (DE w b c (a1 d) bf gh n t 0 kt o (up o i (Builtin.bitAnd v 4294967292) (.add t 5725)) i ti tv v (fk (cz Lim.h hp)<|aa) he)⟩
theorem wg(he:He (pf i)):aT w b c o i v (aW (vo o) i (Builtin.bitAnd v 4294967293)):=fun kt d gh n t ti tv=>
 ⟨(up o i (Builtin.bitAnd v 4294967293) (.add t 5727)),n+70,t+127,fun k=>aO _ _ _ _ k,kE (EY w b c (a1 d) bf gh n t 0 kt o (up o i (Builtin.bitAnd v 4294967293) (.add t 5727)) i ti tv v (fk (cz Lim.h hp)<|aa) he)⟩
theorem wx(he:He (qu i)):aT w b c o i v (aW (vo o) i (Builtin.bitAnd v 4294967293)):=fun kt d gh n t ti tv=>
 ⟨(up o i (Builtin.bitAnd v 4294967293) (.add t 5729)),n+70,t+127,fun k=>aO _ _ _ _ k,kE (ES w b c (a1 d) bf gh n t 0 kt o (up o i (Builtin.bitAnd v 4294967293) (.add t 5729)) i ti tv v (fk (cz Lim.h hp)<|aa) he)⟩
theorem vB(he:He (oG i)):aT w b c o i v (aW (vo o) i (Builtin.bitAnd v 46079)):=fun kt d gh n t ti tv=>
 ⟨(up o i (Builtin.bitAnd v 46079) (.add t 5731)),n+70,t+127,fun k=>aO _ _ _ _ k,kE (Ao w b c (a1 d) bf gh n t 0 kt o (up o i (Builtin.bitAnd v 46079) (.add t 5731)) i ti tv v (fk (cz Lim.h hp)<|aa) he)⟩
theorem uf(he:He (oy i)):aT w b c o i v (aW (vo o) i (Builtin.bitAnd v 546)):=fun kt d gh n t ti tv=>
 ⟨(up o i (Builtin.bitAnd v 546) (.add t 5733)),n+70,t+127,fun k=>aO _ _ _ _ k,kE (Ci w b c (a1 d) bf gh n t 0 kt o (up o i (Builtin.bitAnd v 546) (.add t 5733)) i ti tv v (fk (cz Lim.h hp)<|aa) he)⟩
theorem vM(he:He (oD i)):aT w b c o i v (aW (vo o) i (Builtin.bitAnd v 2151677951)):=fun kt d gh n t ti tv=>
 ⟨(up o i (Builtin.bitAnd v 2151677951) (.add t 5735)),n+70,t+127,fun k=>aO _ _ _ _ k,kE (Bb w b c (a1 d) bf gh n t 0 kt o (up o i (Builtin.bitAnd v 2151677951) (.add t 5735)) i ti tv v (fk (cz Lim.h hp)<|aa) he)⟩
theorem vO(he:He (oz i)):aT w b c o i v (aW (vo o) i (Builtin.bitAnd v 7)):=fun kt d gh n t ti tv=>
 ⟨(up o i (Builtin.bitAnd v 7) (.add t 5737)),n+70,t+127,fun k=>aO _ _ _ _ k,kE (Bz w b c (a1 d) bf gh n t 0 kt o (up o i (Builtin.bitAnd v 7) (.add t 5737)) i ti tv v (fk (cz Lim.h hp)<|aa) he)⟩
theorem vi(he:He (oI i)):aT w b c o i v (aW (vo o) i (Builtin.bitAnd v 7)):=fun kt d gh n t ti tv=>
 ⟨(up o i (Builtin.bitAnd v 7) (.add t 5739)),n+70,t+127,fun k=>aO _ _ _ _ k,kE (BP w b c (a1 d) bf gh n t 0 kt o (up o i (Builtin.bitAnd v 7) (.add t 5739)) i ti tv v (fk (cz Lim.h hp)<|aa) he)⟩
end
theorem vG(he:He (ov i)):aT w b c o i v (aW (vo o) 2816 (v+(aw 4294967296 (aP (o 2816).1 4294967296)))):=fun kt d gh n t ti tv=>
 ⟨(up o 2816 (v+(aw 4294967296 (aP (o 2816).1 4294967296))) (.add t 5765)),n+74,t+152,fun k=>aO _ _ _ _ k,kE (AH w b c (a1 d) bf gh n t 0 kt o (up o 2816 (v+(aw 4294967296 (aP (o 2816).1 4294967296))) (.add t 5765)) i ti tv v (fk (gg Lim.h)<|fk (gg Lim.h)<|fk (pX Lim.h)<|aa) he)⟩
theorem vU(he:He (oK i)):aT w b c o i v (aW (vo o) 2818 (v+(aw 4294967296 (aP (o 2818).1 4294967296)))):=fun kt d gh n t ti tv=>
 ⟨(up o 2818 (v+(aw 4294967296 (aP (o 2818).1 4294967296))) (.add t 5765)),n+74,t+152,fun k=>aO _ _ _ _ k,kE (A4 w b c (a1 d) bf gh n t 0 kt o (up o 2818 (v+(aw 4294967296 (aP (o 2818).1 4294967296))) (.add t 5765)) i ti tv v (fk (gj Lim.h)<|fk (gj Lim.h)<|fk (pm Lim.h)<|aa) he)⟩
theorem uV(he:He (ot i)):aT w b c o i v (aW (vo o) 2816 ((ak (o 2816).1 4294967296)+(aw 4294967296 v))):=fun kt d gh n t ti tv=>
 ⟨(up o 2816 ((ak (o 2816).1 4294967296)+(aw 4294967296 v)) (.add t 5765)),n+74,t+152,fun k=>aO _ _ _ _ k,kE (AE w b c (a1 d) bf gh n t 0 kt o (up o 2816 ((ak (o 2816).1 4294967296)+(aw 4294967296 v)) (.add t 5765)) i ti tv v (fk (gg Lim.h)<|fk (gg Lim.h)<|fk (pX Lim.h)<|aa) he)⟩
theorem vN(he:He (oJ i)):aT w b c o i v (aW (vo o) 2818 ((ak (o 2818).1 4294967296)+(aw 4294967296 v))):=fun kt d gh n t ti tv=>
 ⟨(up o 2818 ((ak (o 2818).1 4294967296)+(aw 4294967296 v)) (.add t 5765)),n+74,t+152,fun k=>aO _ _ _ _ k,kE (Ch w b c (a1 d) bf gh n t 0 kt o (up o 2818 ((ak (o 2818).1 4294967296)+(aw 4294967296 v)) (.add t 5765)) i ti tv v (fk (gj Lim.h)<|fk (gj Lim.h)<|fk (pm Lim.h)<|aa) he)⟩
theorem vP(he:He (oC i)):aT w b c o i v (vo o):=fun kt d gh n t ti tv=>
 ⟨o,n+70,t+125,fun _=>rfl,kE (A3 w b c (a1 d) bf gh n t 0 kt o o i ti tv v  he)⟩
end
end
end
noncomputable def Cj:List Nat:=[0,1008004,0,4,3003005,5,5,5,5,3,1006005,3,1006005,3,5,5,7,1011004,7001,3002]
noncomputable def d8:List Nat:=[1005033,1004032,31,9031018,31,31]
noncomputable def CB:List Nat:=[31,31,3003034,36]++d8++[3004037,39]++d8++[3005040,42]++d8++[3006043,45]++d8++[3007046,48]++d8++[3008049,51]++d8++[3009052,54]++d8++[3010055,57]++d8++[3011058,60]++d8++[3012061,63]++d8++[3013064,66]++d8++[3014067,69]++d8++[3015070,72]++d8++[3016073,75]++d8++[3017076,78,1005033,1004032,31,9031018,31,80,1006033,1,32,19,32,32,19,32,19,1,81,20,81,81,20,81,20,1,82,21,82,82,21,82,21,1,9001000,0]
noncomputable def iB:List Nat:=Cj++[4,4,2,2,2,2,1003,4,4,4,3004,3005]
noncomputable def pQ:List Nat:=[4,4,0,4,4,4,4,0,1006,0,4,4,0,1007,4,4,4,0,1007004,1012010,4,3008,1004010,1009,0,1010]
noncomputable def pz:List Nat:=[4,4,0,4,4,4,4,0,1005,0,4,4,0,1006,4,4,4,0,1007004,1012010,4,3007,1004010,1008,0,1009]
noncomputable def iw:List Nat:=[0]++Cj++[4,4,4,4,3003,3004]
noncomputable def Bi:List Nat:=[0,0,1,1,1006000,1006002,3022023,23,9023022,23,23,9023022,23,25,1009001,0,1004026,1001,1,0,3027028,30,1005001,18,18,18]
section
variable(w:World)(b c:Bool)(A:AS)(s:BS)(gh:List (Addr×Obj))(n t L:Nat)(nn tt:Nat→Nat)(vv:Nat→Nat→Nat)(kt:Nat→Nat)(o o1 r r1:Nat→Int×Nat)(nm:Str)(tn td tb ta tm tc told j tv:Nat)(rd by_ at_ md old cell v:Int)(lc fc:Str)
def nc:Result:=rV (.ref (.add (nn 0) 1994))
def pJ(Y0:Bool):Code:=cR 1955 [(rA A 0),(.int at_ ta),(.int md tm),(.bool Y0)]
def nY:Nat×Obj:=(2,tO [.str nm tn,.int rd td,.int by_ tb,.int at_ ta,.int md tm])
def Gk(Y0 Y1 Y2:Value):Obj:=dO [ag w b c el (.add (tt 1) 5616) Y0,ag w b c fD (.add (tt 1) 5617) Y1,ag w b c gp (.add (tt 1) 5619) Y2] 3
def ia:Nat×Obj:=(0,bq (PP w b c) kt o)
def F4:Code:=cB "str.__eq__" [(.str lc (.add t 5626)),(.str mM (.add t 5627))]
def GF:Code:=cB "str.__eq__" [(.str fc (.add t 5630)),(.str el (.add t 5631))]
def F1:Code:=cB "dict.__getitem__" [(.ref (.add (nn 1) 1994)),(.str fc (.add (tt 1) 5631))]
def BW:List (Nat×Nat):=[(11,Nat.add (nn 2) 1994),(9,Nat.add (nn 1) 1994),(8,Nat.add (nn 0) 1994),(3,Nat.add n 1994)]
def Bf(x0 x1 x2:Nat):List (Nat×Nat):=[(x0,Nat.add (tt 2) 5615),(x1,Nat.add (tt 1) 5615),(x2,Nat.add (tt 0) 5615),(0,Nat.add t 5615)]
def c8:Call:=cS (cB "str.__getitem__" [(.str nm tn),(.int (Neg.neg 1) (.add t 5625))]) 7 11 [] (rV (.str lc (.add t 5626))) 7 12
def ix:Call:=cS (F4 t lc) 7 13 [] (rV (.bool false)) 7 13
def iu:Call:=cS (cB "list.__getitem__" [(rA A 1),(.int by_ tb)]) 7 13 [(1,xO r)] (rV (.int (r j).1 (r j).2)) 7 13
def cZ:Call:=cS (cB "str.__getitem__" [(.str nm tn),(.int 4 (.add t 5629))]) 7 15 [] (rV (.str fc (.add t 5630))) 7 16
def lp:Call:=cS (GF t fc) 7 17 [] (rV (.bool true)) 7 17
def i4(x0 x1:Nat):Call:=cS (pJ A ta tm at_ md true) 7 x0 [ia w b c kt o] (rV (.bool true)) 8 x1
def eV(x0 x1:Nat):Call:=cS (cR 1962 [(rA A 0),(.int at_ ta)]) 8 x0 [ia w b c kt o] (rV (.int old told)) 9 x1
def iX(x0 x1:Nat):Call:=cS (cB "str.__getitem__" [(.str nm tn),(.int 4 (.add (tt 1) 5630))]) 10 x0 [] (rV (.str fc (.add (tt 1) 5631))) 10 x1
def nR(x0 x1:Nat):Call:=cS (F1 nn tt fc) 10 x0 [(9,Gk w b c tt (.int (r j).1 (r j).2) (.int (Builtin.bitOr old (r j).1) (.add (tt 1) 5618)) (.int (Builtin.bitAnd old (4294967295-(r j).1)) (.add (tt 1) 5626)))] (rV (.int v tv)) 10 x1
def g5(x0 x1:Nat):Call:=⟨cR 1969 [(rA A 0),(.int at_ ta),(.int v tv)],10,x0,[ia w b c kt o],rV .none,11,x1,[(0,bq (PP w b c) kt o1)]⟩
def cG:Code:=(cR 1981 [.ref (.add (A.a 0) 1994),.ref (.add (A.a 1) 1994),.ref (.add (A.a 2) 1994),.int cell tc])
def cq:List (Nat×Obj):=[ia w b c kt o,(1,xO r),nY nm tn td tb ta tm rd by_ at_ md]
def nU:List (Nat×Obj):=[(0,bq (PP w b c) kt o1),(1,xO r),nY nm tn td tb ta tm rd by_ at_ md]
def ju(x0 x1:Nat):Call:=⟨cB "list.__setitem__" [(rA A 1),(.int rd td),(.int old told)],x0,x1,[(1,xO r)],rV .none,x0,x1,[(1,xO r1)]⟩
def nr:List (Nat×Obj):=[(0,bq (PP w b c) kt o1),(1,xO r1),nY nm tn td tb ta tm rd by_ at_ md]
def qJ:List (Nat×Nat):=[(8,Nat.add (nn 0) 1994),(3,Nat.add n 1994)]
def qG(x0:Nat):List (Nat×Nat):=[(x0,Nat.add (tt 0) 5615),(0,Nat.add t 5615)]
def nV(x0 x1:Nat):Call:=cS (pJ A ta tm at_ md true) 7 x0 [ia w b c kt o] (rV (.bool false)) 8 x1
def jq:List (Nat×Obj):=[ia w b c kt o,(1,xO r),nY nm tn td tb ta tm rd by_ at_ md,(8,tO [(.int 2 (.add (tt 0) 5615)),(.int cell tc)])]
def HY:List (Nat×Nat):=[(9,Nat.add (nn 1) 1994),(8,Nat.add (nn 0) 1994),(3,Nat.add n 1994)]
def Jc:List (Nat×Nat):=[(21,Nat.add (tt 1) 5615),(20,Nat.add (tt 0) 5615),(0,Nat.add t 5615)]
def dH:Call:=cS (GF t fc) 7 17 [] (rV (.bool false)) 7 17
def n4:Call:=cS (pJ A ta tm at_ md false) 7 19 [ia w b c kt o] (rV (.bool true)) 8 20
def gk:Call:=cS (F4 t lc) 7 13 [] (rV (.bool true)) 7 13
def on(x0 x1:Nat):Call:=cS (F1 nn tt fc) 10 x0 [(9,Gk w b c tt (.int by_ tb) (.int (Builtin.bitOr old by_) (.add (tt 1) 5618)) (.int (Builtin.bitAnd old (4294967295-by_)) (.add (tt 1) 5626)))] (rV (.int v tv)) 10 x1
abbrev sT:=bP w b c A gh L 40 (BW n nn) (Bf t tt 39 20 19)
abbrev tI:=bP w b c A gh L 40 (HY n nn) (Jc t tt)
abbrev tG:=bP w b c A gh L 40 (BW n nn) (Bf t tt 40 21 20)
abbrev sY:=bP w b c A gh L 40 (qJ n nn) (qG t tt 20)
include w b c A s gh n t L nn tt vv kt o o1 r r1 nm tn td tb ta tm tc told j tv rd by_ at_ md old cell v lc fc
theorem due_0:sT w b c A gh n t L nn tt [c8 t nm tn lc,ix t lc,iu A r tb j by_,cZ t nm tn fc,lp t fc,i4 w b c A kt o ta tm at_ md 18 19,eV w b c A kt o ta told at_ old 19 20,iX tt nm tn fc 36 37,nR w b c nn tt r j tv old v fc 37 38,g5 w b c A kt o o1 ta tv at_ v 38 39] [((bne rd 0),false)] (cG A tc cell) 3 (cq w b c kt o r nm tn td tb ta tm rd by_ at_ md) (rV .none) 11 (nU w b c kt o1 r nm tn td tb ta tm rd by_ at_ md) 40:=ae (hm ([0]++iB++pQ++[4,2]))
theorem due_1:sT w b c A gh n t L nn tt [c8 t nm tn lc,ix t lc,iu A r tb j by_,cZ t nm tn fc,lp t fc,i4 w b c A kt o ta tm at_ md 18 19,eV w b c A kt o ta told at_ old 19 20,iX tt nm tn fc 36 37,nR w b c nn tt r j tv old v fc 37 38,g5 w b c A kt o o1 ta tv at_ v 38 39,ju A r r1 td told rd old 11 40] [((bne rd 0),true)] (cG A tc cell) 3 (cq w b c kt o r nm tn td tb ta tm rd by_ at_ md) (rV .none) 11 (nr w b c kt o1 r1 nm tn td tb ta tm rd by_ at_ md) 40:=ae (hm ([0]++iB++pQ++[4,1,4,4,4,2,2,2,1011]))
theorem due_2:re w b c A gh L 40 (qJ n nn) (qG t tt 19) [c8 t nm tn lc,ix t lc,iu A r tb j by_,cZ t nm tn fc,lp t fc,nV w b c A kt o ta tm at_ md 18 19] (cG A tc cell) 3 (cq w b c kt o r nm tn td tb ta tm rd by_ at_ md) (nc nn) 9 (jq w b c tt kt o r nm tn td tb ta tm tc rd by_ at_ md cell) 20:=ph (hm ([0]++iB++[4,4,0,4,4,4,4,0,1006,4]))
theorem due_3:tI w b c A gh n t L nn tt [c8 t nm tn lc,ix t lc,iu A r tb j by_,cZ t nm tn fc,dH t fc,n4 w b c A kt o ta tm at_ md,eV w b c A kt o ta told at_ old 20 21] [((bne rd 0),false),((bne by_ 0),false)] (cG A tc cell) 3 (cq w b c kt o r nm tn td tb ta tm rd by_ at_ md) (rV .none) 9 (cq w b c kt o r nm tn td tb ta tm rd by_ at_ md) 23:=ae (hm ([0]++iB++[4,2,4,4,0,4,4,4,4,0,1006,0,4,4,0,1007,4,4,4,4,2]))
theorem due_4:tG w b c A gh n t L nn tt [c8 t nm tn lc,ix t lc,iu A r tb j by_,cZ t nm tn fc,dH t fc,i4 w b c A kt o ta tm at_ md 19 20,eV w b c A kt o ta told at_ old 20 21,iX tt nm tn fc 37 38,nR w b c nn tt r j tv old v fc 38 39,g5 w b c A kt o o1 ta tv at_ v 39 40] [((bne rd 0),false),((bne by_ 0),true)] (cG A tc cell) 3 (cq w b c kt o r nm tn td tb ta tm rd by_ at_ md) (rV .none) 11 (nU w b c kt o1 r nm tn td tb ta tm rd by_ at_ md) 41:=ae (hm ([0]++iB++[4,1]++pQ++[4,2]))
theorem due_5:tI w b c A gh n t L nn tt [c8 t nm tn lc,ix t lc,iu A r tb j by_,cZ t nm tn fc,dH t fc,n4 w b c A kt o ta tm at_ md,eV w b c A kt o ta told at_ old 20 21,ju A r r1 td told rd old 9 23] [((bne rd 0),true),((bne by_ 0),false)] (cG A tc cell) 3 (cq w b c kt o r nm tn td tb ta tm rd by_ at_ md) (rV .none) 9 [ia w b c kt o,(1,xO r1),nY nm tn td tb ta tm rd by_ at_ md] 23:=ae (hm ([0]++iB++[4,2,4,4,0,4,4,4,4,0,1006,0,4,4,0,1007,4,9004001,4,4,2,2,2,1008]))
theorem due_6:sY w b c A gh n t L nn tt [c8 t nm tn lc,ix t lc,iu A r tb j by_,cZ t nm tn fc,dH t fc,cS (pJ A ta tm at_ md false) 7 19 [ia w b c kt o] (rV (.bool false)) 8 20] [((bne by_ 0),false)] (cG A tc cell) 3 (cq w b c kt o r nm tn td tb ta tm rd by_ at_ md) (nc nn) 9 (jq w b c tt kt o r nm tn td tb ta tm tc rd by_ at_ md cell) 21:=ae (hm ([0]++iB++[4,2,4,4,0,4,4,4,4,0,1006,4]))
theorem due_7:tG w b c A gh n t L nn tt [c8 t nm tn lc,ix t lc,iu A r tb j by_,cZ t nm tn fc,dH t fc,i4 w b c A kt o ta tm at_ md 19 20,eV w b c A kt o ta told at_ old 20 21,iX tt nm tn fc 37 38,nR w b c nn tt r j tv old v fc 38 39,g5 w b c A kt o o1 ta tv at_ v 39 40,ju A r r1 td told rd old 11 41] [((bne rd 0),true),((bne by_ 0),true)] (cG A tc cell) 3 (cq w b c kt o r nm tn td tb ta tm rd by_ at_ md) (rV .none) 11 (nr w b c kt o1 r1 nm tn td tb ta tm rd by_ at_ md) 41:=ae (hm ([0]++iB++[4,1]++pQ++[4,1,4,4,4,2,2,2,1011]))
theorem due_8:sY w b c A gh n t L nn tt [c8 t nm tn lc,ix t lc,iu A r tb j by_,cZ t nm tn fc,dH t fc,nV w b c A kt o ta tm at_ md 19 20] [((bne by_ 0),true)] (cG A tc cell) 3 (cq w b c kt o r nm tn td tb ta tm rd by_ at_ md) (nc nn) 9 (jq w b c tt kt o r nm tn td tb ta tm tc rd by_ at_ md cell) 21:=ae (hm ([0]++iB++[4,1,4,4,0,4,4,4,4,0,1006,4]))
theorem due_9:sT w b c A gh n t L nn tt [c8 t nm tn lc,gk t lc,cZ t nm tn fc,lp t fc,i4 w b c A kt o ta tm at_ md 18 19,eV w b c A kt o ta told at_ old 19 20,iX tt nm tn fc 36 37,on w b c nn tt tb tv by_ old v fc 37 38,g5 w b c A kt o o1 ta tv at_ v 38 39] [((bne rd 0),false)] (cG A tc cell) 3 (cq w b c kt o r nm tn td tb ta tm rd by_ at_ md) (rV .none) 11 (nU w b c kt o1 r nm tn td tb ta tm rd by_ at_ md) 40:=ae (hm (iw++pz++[4,2]))
theorem due_10:sT w b c A gh n t L nn tt [c8 t nm tn lc,gk t lc,cZ t nm tn fc,lp t fc,i4 w b c A kt o ta tm at_ md 18 19,eV w b c A kt o ta told at_ old 19 20,iX tt nm tn fc 36 37,on w b c nn tt tb tv by_ old v fc 37 38,g5 w b c A kt o o1 ta tv at_ v 38 39,ju A r r1 td told rd old 11 40] [((bne rd 0),true)] (cG A tc cell) 3 (cq w b c kt o r nm tn td tb ta tm rd by_ at_ md) (rV .none) 11 (nr w b c kt o1 r1 nm tn td tb ta tm rd by_ at_ md) 40:=ae (hm (iw++pz++[4,1,4,4,4,2,2,2,1010]))
theorem due_11:re w b c A gh L 40 (qJ n nn) (qG t tt 19) [c8 t nm tn lc,gk t lc,cZ t nm tn fc,lp t fc,nV w b c A kt o ta tm at_ md 18 19] (cG A tc cell) 3 (cq w b c kt o r nm tn td tb ta tm rd by_ at_ md) (nc nn) 9 (jq w b c tt kt o r nm tn td tb ta tm tc rd by_ at_ md cell) 20:=ph (hm (iw++[4,4,0,4,4,4,4,0,1005,4]))
theorem due_12:tI w b c A gh n t L nn tt [c8 t nm tn lc,gk t lc,cZ t nm tn fc,dH t fc,n4 w b c A kt o ta tm at_ md,eV w b c A kt o ta told at_ old 20 21] [((bne rd 0),false),((bne by_ 0),false)] (cG A tc cell) 3 (cq w b c kt o r nm tn td tb ta tm rd by_ at_ md) (rV .none) 9 (cq w b c kt o r nm tn td tb ta tm rd by_ at_ md) 23:=ae (hm (iw++[4,2,4,4,0,4,4,4,4,0,1005,0,4,4,0,1006,4,4,4,4,2]))
theorem due_13:tG w b c A gh n t L nn tt [c8 t nm tn lc,gk t lc,cZ t nm tn fc,dH t fc,i4 w b c A kt o ta tm at_ md 19 20,eV w b c A kt o ta told at_ old 20 21,iX tt nm tn fc 37 38,on w b c nn tt tb tv by_ old v fc 38 39,g5 w b c A kt o o1 ta tv at_ v 39 40] [((bne rd 0),false),((bne by_ 0),true)] (cG A tc cell) 3 (cq w b c kt o r nm tn td tb ta tm rd by_ at_ md) (rV .none) 11 (nU w b c kt o1 r nm tn td tb ta tm rd by_ at_ md) 41:=ae (hm (iw++[4,1]++pz++[4,2]))
theorem due_14:tI w b c A gh n t L nn tt [c8 t nm tn lc,gk t lc,cZ t nm tn fc,dH t fc,n4 w b c A kt o ta tm at_ md,eV w b c A kt o ta told at_ old 20 21,ju A r r1 td told rd old 9 23] [((bne rd 0),true),((bne by_ 0),false)] (cG A tc cell) 3 (cq w b c kt o r nm tn td tb ta tm rd by_ at_ md) (rV .none) 9 [ia w b c kt o,(1,xO r1),nY nm tn td tb ta tm rd by_ at_ md] 23:=ae (hm (iw++[4,2,4,4,0,4,4,4,4,0,1005,0,4,4,0,1006,4,9004001,4,4,2,2,2,1007]))
theorem due_15:sY w b c A gh n t L nn tt [c8 t nm tn lc,gk t lc,cZ t nm tn fc,dH t fc,cS (pJ A ta tm at_ md false) 7 19 [ia w b c kt o] (rV (.bool false)) 8 20] [((bne by_ 0),false)] (cG A tc cell) 3 (cq w b c kt o r nm tn td tb ta tm rd by_ at_ md) (nc nn) 9 (jq w b c tt kt o r nm tn td tb ta tm tc rd by_ at_ md cell) 21:=ae (hm (iw++[4,2,4,4,0,4,4,4,4,0,1005,4]))
theorem due_16:tG w b c A gh n t L nn tt [c8 t nm tn lc,gk t lc,cZ t nm tn fc,dH t fc,i4 w b c A kt o ta tm at_ md 19 20,eV w b c A kt o ta told at_ old 20 21,iX tt nm tn fc 37 38,on w b c nn tt tb tv by_ old v fc 38 39,g5 w b c A kt o o1 ta tv at_ v 39 40,ju A r r1 td told rd old 11 41] [((bne rd 0),true),((bne by_ 0),true)] (cG A tc cell) 3 (cq w b c kt o r nm tn td tb ta tm rd by_ at_ md) (rV .none) 11 (nr w b c kt o1 r1 nm tn td tb ta tm rd by_ at_ md) 41:=ae (hm (iw++[4,1]++pz++[4,1,4,4,4,2,2,2,1010]))
theorem due_17:sY w b c A gh n t L nn tt [c8 t nm tn lc,gk t lc,cZ t nm tn fc,dH t fc,nV w b c A kt o ta tm at_ md 19 20] [((bne by_ 0),true)] (cG A tc cell) 3 (cq w b c kt o r nm tn td tb ta tm rd by_ at_ md) (nc nn) 9 (jq w b c tt kt o r nm tn td tb ta tm tc rd by_ at_ md cell) 21:=ae (hm (iw++[4,1,4,4,0,4,4,4,4,0,1005,4]))
end
section
variable(w:World)(b c:Bool)(A:AS)(s:BS)(gh:List (Addr×Obj))(n t L:Nat)(nn_:Int)(ti:Nat)(nm:Str)(tn t8 tm ta:Nat)(m8 md at_:Int)
def bp(Y0:Int)(Y1:Nat):Value:=.int Y0 (.add t Y1)
def wQ:Call:=cS (cB "list.__getitem__" [(.ref (.add n 2019)),(.int (ak nn_ 6) (.add t 5717))]) 26 103 [(25,lO [(.str kL (.add t 5710)),(.str kz (.add t 5711)),(.str kG (.add t 5712)),(.str kv (.add t 5713)),(.str kM (.add t 5714)),(.str kJ (.add t 5715))] 0)] (rV (.str nm tn)) 26 103
def wR:Call:=cS (cB "list.__getitem__" [(.ref (.add n 2077)),(.int (aP (ak nn_ 6) 3) (.add t 5762))]) 84 148 [(83,lO [(bp t 8 5757),(bp t 32 5758)] 0)] (rV (.int m8 t8)) 84 148
def xi:Call:=cS (cB "list.__getitem__" [(.ref (.add n 2076)),(.int (ak (aP (aP nn_ 6) 3) 33) (.add t 5768))]) 84 154 [(82,lO [(bp t 832 5616),(bp t 320 5622),(bp t 834 5628),(bp t 322 5634),(bp t 835 5640),(bp t 323 5646),(bp t 833 5652),(bp t 321 5658),(bp t 773 5664),(bp t 261 5670),(bp t 770 5676),(bp t 771 5678),(bp t 384 5680),(bp t 774 5682),(bp t 262 5684),(bp t 2816 5687),(bp t 2818 5688),(bp t 2944 5689),(bp t 2946 5690),(bp t 3072 5691),(bp t 3073 5692),(bp t 3074 5693),(bp t 3200 5694),(bp t 3201 5695),(bp t 3202 5696),(bp t 769 5698),(bp t 3857 5699),(bp t 3860 5700),(bp t 257 5701),(bp t 1984 5702),(bp t 2817 5703),(bp t 3075 5704),(bp t 4095 5705)] 0)] (rV (.int at_ ta)) 84 154
def w2:Call:=cS (cB "list.__getitem__" [(.ref (.add n 2078)),(.int (ak (aP (aP nn_ 6) 5) 4) (.add t 5776))]) 85 162 [(84,lO [(bp t 3 5769),(bp t 1 5770),(bp t 3 5771),(bp t 0 5772)] 0)] (rV (.int md tm)) 85 162
def xx:List (Nat×Obj):=[(85,tO [(.str nm tn),(.int (ak (aP nn_ 6) 8) (.add t 5754)),(.int (ak (aP (aP nn_ 6) 8) m8) (.add t 5763)),(.int at_ ta),(.int md tm)])]
include w b c A s gh n t L nn_ ti nm tn t8 tm ta m8 md at_
theorem deed_t:bP w b true A gh L 40 [(0,Nat.add n 1994)] [(0,Nat.add t 5615)] [wQ n t nn_ nm tn,wR n t nn_ t8 m8,xi n t nn_ ta at_,w2 n t nn_ tm md] [((nw m8),false)] (cR 1974 [.int nn_ ti]) 0 [] (rV (.ref (.add n 2079))) 86 (xx t nn_ nm tn tm ta m8 md at_) 162:=ae (hm (Bi++[31,31,9031018]++CB++[1,0,0,1004084,1002,2,1,1,0,0,0,1,9083000,83,83,83,1003,1,0,0,1004085,1004]))
theorem deed_f:bP w b false A gh L 40 [(0,Nat.add n 1994)] [(0,Nat.add t 5615)] [wQ n t nn_ nm tn,wR n t nn_ t8 m8,xi n t nn_ ta at_,w2 n t nn_ tm md] [((nw m8),false)] (cR 1974 [.int nn_ ti]) 0 [] (rV (.ref (.add n 2079))) 86 (xx t nn_ nm tn tm ta m8 md at_) 162:=ae (hm (Bi++[1009031,18,31]++CB++[1,0,0,1004084,1002,2,1,1,0,0,0,1,9083000,83,83,83,1003,1,0,0,1004085,1004]))
end
def bS{α:Type}(j:Nat)(a b c:α):α:=match j with
  |0=>a
  |1=>b
  |2=>c
  |3=>a
  |4=>b
  |_=>c
theorem g6:∀j,j<6→∀(x y z:Int) (t u v:Nat),bS j (Value.int x t) (.int y u) (.int z v)=.int (bS j x y z) (bS j t u v):=
  ke (fun _ _ _ _ _ _=>rfl) (fun _ _ _ _ _ _=>rfl) (fun _ _ _ _ _ _=>rfl) (fun _ _ _ _ _ _=>rfl) (fun _ _ _ _ _ _=>rfl) (fun _ _ _ _ _ _=>rfl)
theorem pb(w:World)(k0 k1 k2:Nat)(v0 v1 v2:Value):dx w [kS w.params el k0 v0,kS w.params fD k1 v1,kS w.params gp k2 v2]:=by
  intro e he
  simp only[List.mem_cons,List.not_mem_nil,or_false]at he
  rcases he with rfl|rfl|rfl
  iterate 3 exact BN w _ _ _
theorem ko{w:World}{b c:Bool}{S:HT}{B:Nat}{gh:List (Addr×Obj)}{n t:Nat}{C:Ctx→Prop}(hC:∀Γ,C Γ→Γ.handled=none){d u k0 k1 k2:Nat}{v0 v1 v2:Value}:∀j,j<6→
    TriC (MM w b c) S B C (.builtin "dict.__getitem__" ⟨[.ref d,.str (am j) u],[]⟩) gh [(d,dO [ag w b c el k0 v0,ag w b c fD k1 v1,ag w b c gp k2 v2] 3)] n t (.ok (.ret (bS j v0 v1 v2))) gh [(d,dO [ag w b c el k0 v0,ag w b c fD k1 v1,ag w b c gp k2 v2] 3)] n (t+1):=by
  have h0:TriC (MM w b c) S B C (.builtin "dict.__getitem__" ⟨[.ref d,.str el u],[]⟩) gh [(d,dO [ag w b c el k0 v0,ag w b c fD k1 v1,ag w b c gp k2 v2] 3)] n t (.ok (.ret v0)) gh _ n (t+1):=
    dt hC (k:=.inr el) (i:=0) (e:=ag w b c el k0 v0) (lU _ _) (pb (W2 w b c) _ _ _ _ _ _) (by rw[df];rfl) rfl
  have h1:TriC (MM w b c) S B C (.builtin "dict.__getitem__" ⟨[.ref d,.str fD u],[]⟩) gh [(d,dO [ag w b c el k0 v0,ag w b c fD k1 v1,ag w b c gp k2 v2] 3)] n t (.ok (.ret v1)) gh _ n (t+1):=
    dt hC (k:=.inr fD) (i:=1) (e:=ag w b c fD k1 v1) (lU _ _) (pb (W2 w b c) _ _ _ _ _ _) (by rw[df];rfl) rfl
  have h2:TriC (MM w b c) S B C (.builtin "dict.__getitem__" ⟨[.ref d,.str gp u],[]⟩) gh [(d,dO [ag w b c el k0 v0,ag w b c fD k1 v1,ag w b c gp k2 v2] 3)] n t (.ok (.ret v2)) gh _ n (t+1):=
    dt hC (k:=.inr gp) (i:=2) (e:=ag w b c gp k2 v2) (lU _ _) (pb (W2 w b c) _ _ _ _ _ _) (by rw[df];rfl) rfl
  exact ke h0 h1 h2 h0 h1 h2
def dT(j tn:Nat)(rd by_ at_:Nat)(md:Int)(td tb ta tm:Nat):Obj:=tO [.str (an j) tn,.int (Int.ofNat rd) td,.int (Int.ofNat by_) tb,.int (Int.ofNat at_) ta,.int md tm]
inductive DueOkX (w:World) (b c:Bool) (o r:Nat→Int×Nat) (j rd by_ at_:Nat) (md:Int) (fo fr:Nat→Int) (kt:Nat→Nat) (d x e:Nat) (gh:List (Addr×Obj)) (n t tn td tb ta tm tc:Nat) (cell:Int):Prop where
  |mk (o1 r1:Nat→Int×Nat) (n' t':Nat) (h0_:(∀k,(o1 k).1=fo k)) (h1_:(∀k,(r1 k).1=fr k)) (h2_:Tri (MM w b c) (bV (PP w b c)) 1994 80 (.call (.ref 1981) ⟨[.ref (ad d),.ref (ad x),.ref (ad e),.int cell tc],[]⟩) gh [(ad d,bq (PP w b c) kt o),(ad x,xO r),(ad e,dT j tn rd by_ at_ md td tb ta tm)] (.add n 1994) (.add t 5615) (.ok (.ret .none)) gh
   [(ad d,bq (PP w b c) kt o1),(ad x,xO r1),(ad e,dT j tn rd by_ at_ md td tb ta tm)] (.add n' 1994) (.add t' 5615)):DueOkX w b c o r j rd by_ at_ md fo fr kt d x e gh n t tn td tb ta tm tc cell
def fK(w:World)(b c:Bool)(o r:Nat→Int×Nat)(j rd by_ at_:Nat)(md:Int)(fo fr:Nat→Int):Prop:=∀(kt:Nat→Nat) (d x e:Nat) (gh:List (Addr×Obj)) (n t tn td tb ta tm tc:Nat) (cell:Int),DueOkX w b c o r j rd by_ at_ md fo fr kt d x e gh n t tn td tb ta tm tc cell
inductive DueNoX (w:World) (b c:Bool) (o r:Nat→Int×Nat) (j rd by_ at_:Nat) (md:Int) (kt:Nat→Nat) (d x e:Nat) (gh:List (Addr×Obj)) (n t tn td tb ta tm tc:Nat) (cell:Int):Prop where
  |mk (e2 t2 n' t':Nat) (h0_:Tri (MM w b c) (bV (PP w b c)) 1994 80 (.call (.ref 1981) ⟨[.ref (ad d),.ref (ad x),.ref (ad e),.int cell tc],[]⟩) gh [(ad d,bq (PP w b c) kt o),(ad x,xO r),(ad e,dT j tn rd by_ at_ md td tb ta tm)] (.add n 1994) (.add t 5615) (.ok (.ret (.ref (ad e2)))) gh
   [(ad d,bq (PP w b c) kt o),(ad x,xO r),(ad e,dT j tn rd by_ at_ md td tb ta tm),(ad e2,tO [.int 2 t2,.int cell tc])] (.add n' 1994) (.add t' 5615)):DueNoX w b c o r j rd by_ at_ md kt d x e gh n t tn td tb ta tm tc cell
def j4(w:World)(b c:Bool)(o r:Nat→Int×Nat)(j rd by_ at_:Nat)(md:Int):Prop:=∀(kt:Nat→Nat) (d x e:Nat) (gh:List (Addr×Obj)) (n t tn td tb ta tm tc:Nat) (cell:Int),DueNoX w b c o r j rd by_ at_ md kt d x e gh n t tn td tb ta tm tc cell
def a3(d x e:Nat):AS:=⟨fun i=>cond (Nat.beq i 0) d (cond (Nat.beq i 1) x e),fun _=>0⟩
section
variable(w:World)(b c:Bool)(o r:Nat→Int×Nat)
include w b c o r
section
variable(j:Nat)(hj:j<6)(rd by_ at_:Nat)(md:Int)
include j hj rd by_ at_ md
section
variable(hb:by_<32)
include hb
section
variable(q0:BEq.beq (ap j).cps.toList [105]=false)
include q0
theorem D5(q1:BEq.beq (am j).cps.toList [119]=true)(hL:bu w b c o at_ md true true)(old:Int)(hR:bM w b c o at_ old)(fo:Nat→Int)(hW:aT w b c o at_ (bS j (r by_).1 (Builtin.bitOr old (r by_).1) (Builtin.bitAnd old (4294967295-(r by_).1))) fo)(he:He [((bne (Int.ofNat rd) 0),false)]):fK w b c o r j rd by_ at_ md fo (vo r):=by
 intro kt d x e gh n t tn td tb ta tm tc cell
 obtain⟨n0,t0,H0⟩:=hL kt d gh (n+4) (t+18) ta tm
 obtain⟨told,n1,t1,H1⟩:=hR kt d gh (n0+0) (t0+0) ta
 obtain⟨o1,n2,t2,eo,H2⟩:=hW kt d gh (n1+1) (t1+18) ta (bS j (r by_).2 (.add t1 5618) (.add t1 5626))
 exact⟨o1,r,n2+0,t2+1,eo,fun _=>rfl,kE (due_0 w b c (a3 d x e) bf gh n t 40 (ar [n0,n1,n2]) (ar [t0,t1,t2]) (fun _ _=>0) kt o o1 r r (an j) tn td tb ta tm tc told by_ (bS j (r by_).2 (.add t1 5618) (.add t1 5626)) (Int.ofNat rd) (Int.ofNat by_) (Int.ofNat at_) md old cell (bS j (r by_).1 (Builtin.bitOr old (r by_).1) (Builtin.bitAnd old (4294967295-(r by_).1))) (ap j) (am j) (fk (au Lim.h hj)<|fk (ac Lim.h q0)<|fk (aN Lim.h (m:=0) (r:=r) (i:=by_) hb)<|fk (aj Lim.h hj)<|fk (ac Lim.h q1)<|fk (kd H0)<|fk (kd H1)<|fk (aj Lim.h hj)<|fk (TriC.cast (ko Lim.h j hj) rfl rfl rfl rfl rfl rfl rfl rfl (congrArg (fun x=>(.ok (.ret x):Result)) (g6 j hj _ _ _ _ _ _)))<|fk (kd H2)<|aa) he)⟩
theorem vj(q1:BEq.beq (am j).cps.toList [119]=true)(hL:bu w b c o at_ md true false):j4 w b c o r j rd by_ at_ md:=by
 intro kt d x e gh n t tn td tb ta tm tc cell
 obtain⟨n0,t0,H0⟩:=hL kt d gh (n+4) (t+18) ta tm
 exact⟨n0+0,(.add t0 5615),n0+1,t0+1,kF (due_2 w b c (a3 d x e) bf gh n t 40 (ar [n0]) (ar [t0]) (fun _ _=>0) kt o o r r (an j) tn td tb ta tm tc 0 by_ 0 (Int.ofNat rd) (Int.ofNat by_) (Int.ofNat at_) md 0 cell 0 (ap j) (am j) (fk (au Lim.h hj)<|fk (ac Lim.h q0)<|fk (aN Lim.h (m:=0) (r:=r) (i:=by_) hb)<|fk (aj Lim.h hj)<|fk (ac Lim.h q1)<|fk (kd H0)<|aa) )⟩
section
variable(q1:BEq.beq (am j).cps.toList [119]=false)
include q1
theorem vE(hL:bu w b c o at_ md false true)(old:Int)(hR:bM w b c o at_ old)(he:He [((bne (Int.ofNat rd) 0),false),((bne (Int.ofNat by_) 0),false)]):fK w b c o r j rd by_ at_ md (vo o) (vo r):=by
 intro kt d x e gh n t tn td tb ta tm tc cell
 obtain⟨n0,t0,H0⟩:=hL kt d gh (n+4) (t+19) ta tm
 obtain⟨told,n1,t1,H1⟩:=hR kt d gh (n0+0) (t0+0) ta
 exact⟨o,r,n1+0,t1+2,fun _=>rfl,fun _=>rfl,kE (due_3 w b c (a3 d x e) bf gh n t 40 (ar [n0,n1]) (ar [t0,t1]) (fun _ _=>0) kt o o r r (an j) tn td tb ta tm tc told by_ 0 (Int.ofNat rd) (Int.ofNat by_) (Int.ofNat at_) md old cell 0 (ap j) (am j) (fk (au Lim.h hj)<|fk (ac Lim.h q0)<|fk (aN Lim.h (m:=0) (r:=r) (i:=by_) hb)<|fk (aj Lim.h hj)<|fk (ac Lim.h q1)<|fk (kd H0)<|fk (kd H1)<|aa) he)⟩
theorem uG(hL:bu w b c o at_ md true true)(old:Int)(hR:bM w b c o at_ old)(fo:Nat→Int)(hW:aT w b c o at_ (bS j (r by_).1 (Builtin.bitOr old (r by_).1) (Builtin.bitAnd old (4294967295-(r by_).1))) fo)(he:He [((bne (Int.ofNat rd) 0),false),((bne (Int.ofNat by_) 0),true)]):fK w b c o r j rd by_ at_ md fo (vo r):=by
 intro kt d x e gh n t tn td tb ta tm tc cell
 obtain⟨n0,t0,H0⟩:=hL kt d gh (n+4) (t+19) ta tm
 obtain⟨told,n1,t1,H1⟩:=hR kt d gh (n0+0) (t0+0) ta
 obtain⟨o1,n2,t2,eo,H2⟩:=hW kt d gh (n1+1) (t1+18) ta (bS j (r by_).2 (.add t1 5618) (.add t1 5626))
 exact⟨o1,r,n2+0,t2+1,eo,fun _=>rfl,kE (due_4 w b c (a3 d x e) bf gh n t 40 (ar [n0,n1,n2]) (ar [t0,t1,t2]) (fun _ _=>0) kt o o1 r r (an j) tn td tb ta tm tc told by_ (bS j (r by_).2 (.add t1 5618) (.add t1 5626)) (Int.ofNat rd) (Int.ofNat by_) (Int.ofNat at_) md old cell (bS j (r by_).1 (Builtin.bitOr old (r by_).1) (Builtin.bitAnd old (4294967295-(r by_).1))) (ap j) (am j) (fk (au Lim.h hj)<|fk (ac Lim.h q0)<|fk (aN Lim.h (m:=0) (r:=r) (i:=by_) hb)<|fk (aj Lim.h hj)<|fk (ac Lim.h q1)<|fk (kd H0)<|fk (kd H1)<|fk (aj Lim.h hj)<|fk (TriC.cast (ko Lim.h j hj) rfl rfl rfl rfl rfl rfl rfl rfl (congrArg (fun x=>(.ok (.ret x):Result)) (g6 j hj _ _ _ _ _ _)))<|fk (kd H2)<|aa) he)⟩
theorem vK(hL:bu w b c o at_ md false false)(he:He [((bne (Int.ofNat by_) 0),false)]):j4 w b c o r j rd by_ at_ md:=by
 intro kt d x e gh n t tn td tb ta tm tc cell
 obtain⟨n0,t0,H0⟩:=hL kt d gh (n+4) (t+19) ta tm
 exact⟨n0+0,(.add t0 5615),n0+1,t0+1,kF (due_6 w b c (a3 d x e) bf gh n t 40 (ar [n0]) (ar [t0]) (fun _ _=>0) kt o o r r (an j) tn td tb ta tm tc 0 by_ 0 (Int.ofNat rd) (Int.ofNat by_) (Int.ofNat at_) md 0 cell 0 (ap j) (am j) (fk (au Lim.h hj)<|fk (ac Lim.h q0)<|fk (aN Lim.h (m:=0) (r:=r) (i:=by_) hb)<|fk (aj Lim.h hj)<|fk (ac Lim.h q1)<|fk (kd H0)<|aa) he)⟩
theorem ly(hL:bu w b c o at_ md true false)(he:He [((bne (Int.ofNat by_) 0),true)]):j4 w b c o r j rd by_ at_ md:=by
 intro kt d x e gh n t tn td tb ta tm tc cell
 obtain⟨n0,t0,H0⟩:=hL kt d gh (n+4) (t+19) ta tm
 exact⟨n0+0,(.add t0 5615),n0+1,t0+1,kF (due_8 w b c (a3 d x e) bf gh n t 40 (ar [n0]) (ar [t0]) (fun _ _=>0) kt o o r r (an j) tn td tb ta tm tc 0 by_ 0 (Int.ofNat rd) (Int.ofNat by_) (Int.ofNat at_) md 0 cell 0 (ap j) (am j) (fk (au Lim.h hj)<|fk (ac Lim.h q0)<|fk (aN Lim.h (m:=0) (r:=r) (i:=by_) hb)<|fk (aj Lim.h hj)<|fk (ac Lim.h q1)<|fk (kd H0)<|aa) he)⟩
end
end
section
variable(hrd:rd<32)(q0:BEq.beq (ap j).cps.toList [105]=false)
include hrd q0
theorem EX(q1:BEq.beq (am j).cps.toList [119]=true)(hL:bu w b c o at_ md true true)(old:Int)(hR:bM w b c o at_ old)(fo:Nat→Int)(hW:aT w b c o at_ (bS j (r by_).1 (Builtin.bitOr old (r by_).1) (Builtin.bitAnd old (4294967295-(r by_).1))) fo)(he:He [((bne (Int.ofNat rd) 0),true)]):fK w b c o r j rd by_ at_ md fo (aW (vo r) rd old):=by
 intro kt d x e gh n t tn td tb ta tm tc cell
 obtain⟨n0,t0,H0⟩:=hL kt d gh (n+4) (t+18) ta tm
 obtain⟨told,n1,t1,H1⟩:=hR kt d gh (n0+0) (t0+0) ta
 obtain⟨o1,n2,t2,eo,H2⟩:=hW kt d gh (n1+1) (t1+18) ta (bS j (r by_).2 (.add t1 5618) (.add t1 5626))
 exact⟨o1,(up r rd old told),n2+0,t2+1,eo,fun k=>aO _ _ _ _ k,kE (due_1 w b c (a3 d x e) bf gh n t 40 (ar [n0,n1,n2]) (ar [t0,t1,t2]) (fun _ _=>0) kt o o1 r (up r rd old told) (an j) tn td tb ta tm tc told by_ (bS j (r by_).2 (.add t1 5618) (.add t1 5626)) (Int.ofNat rd) (Int.ofNat by_) (Int.ofNat at_) md old cell (bS j (r by_).1 (Builtin.bitOr old (r by_).1) (Builtin.bitAnd old (4294967295-(r by_).1))) (ap j) (am j) (fk (au Lim.h hj)<|fk (ac Lim.h q0)<|fk (aN Lim.h (m:=0) (r:=r) (i:=by_) hb)<|fk (aj Lim.h hj)<|fk (ac Lim.h q1)<|fk (kd H0)<|fk (kd H1)<|fk (aj Lim.h hj)<|fk (TriC.cast (ko Lim.h j hj) rfl rfl rfl rfl rfl rfl rfl rfl (congrArg (fun x=>(.ok (.ret x):Result)) (g6 j hj _ _ _ _ _ _)))<|fk (kd H2)<|fk (bv Lim.h (m:=0) (r:=r) (i:=rd) (x:=old) (y:=told) hrd)<|aa) he)⟩
theorem un(q1:BEq.beq (am j).cps.toList [119]=false)(hL:bu w b c o at_ md false true)(old:Int)(hR:bM w b c o at_ old)(he:He [((bne (Int.ofNat rd) 0),true),((bne (Int.ofNat by_) 0),false)]):fK w b c o r j rd by_ at_ md (vo o) (aW (vo r) rd old):=by
 intro kt d x e gh n t tn td tb ta tm tc cell
 obtain⟨n0,t0,H0⟩:=hL kt d gh (n+4) (t+19) ta tm
 obtain⟨told,n1,t1,H1⟩:=hR kt d gh (n0+0) (t0+0) ta
 exact⟨o,(up r rd old told),n1+0,t1+2,fun _=>rfl,fun k=>aO _ _ _ _ k,kE (due_5 w b c (a3 d x e) bf gh n t 40 (ar [n0,n1]) (ar [t0,t1]) (fun _ _=>0) kt o o r (up r rd old told) (an j) tn td tb ta tm tc told by_ 0 (Int.ofNat rd) (Int.ofNat by_) (Int.ofNat at_) md old cell 0 (ap j) (am j) (fk (au Lim.h hj)<|fk (ac Lim.h q0)<|fk (aN Lim.h (m:=0) (r:=r) (i:=by_) hb)<|fk (aj Lim.h hj)<|fk (ac Lim.h q1)<|fk (kd H0)<|fk (kd H1)<|fk (bv Lim.h (m:=0) (r:=r) (i:=rd) (x:=old) (y:=told) hrd)<|aa) he)⟩
theorem ud(q1:BEq.beq (am j).cps.toList [119]=false)(hL:bu w b c o at_ md true true)(old:Int)(hR:bM w b c o at_ old)(fo:Nat→Int)(hW:aT w b c o at_ (bS j (r by_).1 (Builtin.bitOr old (r by_).1) (Builtin.bitAnd old (4294967295-(r by_).1))) fo)(he:He [((bne (Int.ofNat rd) 0),true),((bne (Int.ofNat by_) 0),true)]):fK w b c o r j rd by_ at_ md fo (aW (vo r) rd old):=by
 intro kt d x e gh n t tn td tb ta tm tc cell
 obtain⟨n0,t0,H0⟩:=hL kt d gh (n+4) (t+19) ta tm
 obtain⟨told,n1,t1,H1⟩:=hR kt d gh (n0+0) (t0+0) ta
 obtain⟨o1,n2,t2,eo,H2⟩:=hW kt d gh (n1+1) (t1+18) ta (bS j (r by_).2 (.add t1 5618) (.add t1 5626))
 exact⟨o1,(up r rd old told),n2+0,t2+1,eo,fun k=>aO _ _ _ _ k,kE (due_7 w b c (a3 d x e) bf gh n t 40 (ar [n0,n1,n2]) (ar [t0,t1,t2]) (fun _ _=>0) kt o o1 r (up r rd old told) (an j) tn td tb ta tm tc told by_ (bS j (r by_).2 (.add t1 5618) (.add t1 5626)) (Int.ofNat rd) (Int.ofNat by_) (Int.ofNat at_) md old cell (bS j (r by_).1 (Builtin.bitOr old (r by_).1) (Builtin.bitAnd old (4294967295-(r by_).1))) (ap j) (am j) (fk (au Lim.h hj)<|fk (ac Lim.h q0)<|fk (aN Lim.h (m:=0) (r:=r) (i:=by_) hb)<|fk (aj Lim.h hj)<|fk (ac Lim.h q1)<|fk (kd H0)<|fk (kd H1)<|fk (aj Lim.h hj)<|fk (TriC.cast (ko Lim.h j hj) rfl rfl rfl rfl rfl rfl rfl rfl (congrArg (fun x=>(.ok (.ret x):Result)) (g6 j hj _ _ _ _ _ _)))<|fk (kd H2)<|fk (bv Lim.h (m:=0) (r:=r) (i:=rd) (x:=old) (y:=told) hrd)<|aa) he)⟩
end
end
section
variable(q0:BEq.beq (ap j).cps.toList [105]=true)
include q0
theorem DD(q1:BEq.beq (am j).cps.toList [119]=true)(hL:bu w b c o at_ md true true)(old:Int)(hR:bM w b c o at_ old)(fo:Nat→Int)(hW:aT w b c o at_ (bS j (Int.ofNat by_) (Builtin.bitOr old (Int.ofNat by_)) (Builtin.bitAnd old (4294967295-(Int.ofNat by_)))) fo)(he:He [((bne (Int.ofNat rd) 0),false)]):fK w b c o r j rd by_ at_ md fo (vo r):=by
 intro kt d x e gh n t tn td tb ta tm tc cell
 obtain⟨n0,t0,H0⟩:=hL kt d gh (n+4) (t+18) ta tm
 obtain⟨told,n1,t1,H1⟩:=hR kt d gh (n0+0) (t0+0) ta
 obtain⟨o1,n2,t2,eo,H2⟩:=hW kt d gh (n1+1) (t1+18) ta (bS j tb (.add t1 5618) (.add t1 5626))
 exact⟨o1,r,n2+0,t2+1,eo,fun _=>rfl,kE (due_9 w b c (a3 d x e) bf gh n t 40 (ar [n0,n1,n2]) (ar [t0,t1,t2]) (fun _ _=>0) kt o o1 r r (an j) tn td tb ta tm tc told by_ (bS j tb (.add t1 5618) (.add t1 5626)) (Int.ofNat rd) (Int.ofNat by_) (Int.ofNat at_) md old cell (bS j (Int.ofNat by_) (Builtin.bitOr old (Int.ofNat by_)) (Builtin.bitAnd old (4294967295-(Int.ofNat by_)))) (ap j) (am j) (fk (au Lim.h hj)<|fk (ac Lim.h q0)<|fk (aj Lim.h hj)<|fk (ac Lim.h q1)<|fk (kd H0)<|fk (kd H1)<|fk (aj Lim.h hj)<|fk (TriC.cast (ko Lim.h j hj) rfl rfl rfl rfl rfl rfl rfl rfl (congrArg (fun x=>(.ok (.ret x):Result)) (g6 j hj _ _ _ _ _ _)))<|fk (kd H2)<|aa) he)⟩
theorem rG(q1:BEq.beq (am j).cps.toList [119]=true)(hL:bu w b c o at_ md true false):j4 w b c o r j rd by_ at_ md:=by
 intro kt d x e gh n t tn td tb ta tm tc cell
 obtain⟨n0,t0,H0⟩:=hL kt d gh (n+4) (t+18) ta tm
 exact⟨n0+0,(.add t0 5615),n0+1,t0+1,kF (due_11 w b c (a3 d x e) bf gh n t 40 (ar [n0]) (ar [t0]) (fun _ _=>0) kt o o r r (an j) tn td tb ta tm tc 0 by_ 0 (Int.ofNat rd) (Int.ofNat by_) (Int.ofNat at_) md 0 cell 0 (ap j) (am j) (fk (au Lim.h hj)<|fk (ac Lim.h q0)<|fk (aj Lim.h hj)<|fk (ac Lim.h q1)<|fk (kd H0)<|aa) )⟩
section
variable(q1:BEq.beq (am j).cps.toList [119]=false)
include q1
theorem rM(hL:bu w b c o at_ md false true)(old:Int)(hR:bM w b c o at_ old)(he:He [((bne (Int.ofNat rd) 0),false),((bne (Int.ofNat by_) 0),false)]):fK w b c o r j rd by_ at_ md (vo o) (vo r):=by
 intro kt d x e gh n t tn td tb ta tm tc cell
 obtain⟨n0,t0,H0⟩:=hL kt d gh (n+4) (t+19) ta tm
 obtain⟨told,n1,t1,H1⟩:=hR kt d gh (n0+0) (t0+0) ta
 exact⟨o,r,n1+0,t1+2,fun _=>rfl,fun _=>rfl,kE (due_12 w b c (a3 d x e) bf gh n t 40 (ar [n0,n1]) (ar [t0,t1]) (fun _ _=>0) kt o o r r (an j) tn td tb ta tm tc told by_ 0 (Int.ofNat rd) (Int.ofNat by_) (Int.ofNat at_) md old cell 0 (ap j) (am j) (fk (au Lim.h hj)<|fk (ac Lim.h q0)<|fk (aj Lim.h hj)<|fk (ac Lim.h q1)<|fk (kd H0)<|fk (kd H1)<|aa) he)⟩
theorem rN(hL:bu w b c o at_ md true true)(old:Int)(hR:bM w b c o at_ old)(fo:Nat→Int)(hW:aT w b c o at_ (bS j (Int.ofNat by_) (Builtin.bitOr old (Int.ofNat by_)) (Builtin.bitAnd old (4294967295-(Int.ofNat by_)))) fo)(he:He [((bne (Int.ofNat rd) 0),false),((bne (Int.ofNat by_) 0),true)]):fK w b c o r j rd by_ at_ md fo (vo r):=by
 intro kt d x e gh n t tn td tb ta tm tc cell
 obtain⟨n0,t0,H0⟩:=hL kt d gh (n+4) (t+19) ta tm
 obtain⟨told,n1,t1,H1⟩:=hR kt d gh (n0+0) (t0+0) ta
 obtain⟨o1,n2,t2,eo,H2⟩:=hW kt d gh (n1+1) (t1+18) ta (bS j tb (.add t1 5618) (.add t1 5626))
 exact⟨o1,r,n2+0,t2+1,eo,fun _=>rfl,kE (due_13 w b c (a3 d x e) bf gh n t 40 (ar [n0,n1,n2]) (ar [t0,t1,t2]) (fun _ _=>0) kt o o1 r r (an j) tn td tb ta tm tc told by_ (bS j tb (.add t1 5618) (.add t1 5626)) (Int.ofNat rd) (Int.ofNat by_) (Int.ofNat at_) md old cell (bS j (Int.ofNat by_) (Builtin.bitOr old (Int.ofNat by_)) (Builtin.bitAnd old (4294967295-(Int.ofNat by_)))) (ap j) (am j) (fk (au Lim.h hj)<|fk (ac Lim.h q0)<|fk (aj Lim.h hj)<|fk (ac Lim.h q1)<|fk (kd H0)<|fk (kd H1)<|fk (aj Lim.h hj)<|fk (TriC.cast (ko Lim.h j hj) rfl rfl rfl rfl rfl rfl rfl rfl (congrArg (fun x=>(.ok (.ret x):Result)) (g6 j hj _ _ _ _ _ _)))<|fk (kd H2)<|aa) he)⟩
theorem rB(hL:bu w b c o at_ md false false)(he:He [((bne (Int.ofNat by_) 0),false)]):j4 w b c o r j rd by_ at_ md:=by
 intro kt d x e gh n t tn td tb ta tm tc cell
 obtain⟨n0,t0,H0⟩:=hL kt d gh (n+4) (t+19) ta tm
 exact⟨n0+0,(.add t0 5615),n0+1,t0+1,kF (due_15 w b c (a3 d x e) bf gh n t 40 (ar [n0]) (ar [t0]) (fun _ _=>0) kt o o r r (an j) tn td tb ta tm tc 0 by_ 0 (Int.ofNat rd) (Int.ofNat by_) (Int.ofNat at_) md 0 cell 0 (ap j) (am j) (fk (au Lim.h hj)<|fk (ac Lim.h q0)<|fk (aj Lim.h hj)<|fk (ac Lim.h q1)<|fk (kd H0)<|aa) he)⟩
theorem j7(hL:bu w b c o at_ md true false)(he:He [((bne (Int.ofNat by_) 0),true)]):j4 w b c o r j rd by_ at_ md:=by
 intro kt d x e gh n t tn td tb ta tm tc cell
 obtain⟨n0,t0,H0⟩:=hL kt d gh (n+4) (t+19) ta tm
 exact⟨n0+0,(.add t0 5615),n0+1,t0+1,kF (due_17 w b c (a3 d x e) bf gh n t 40 (ar [n0]) (ar [t0]) (fun _ _=>0) kt o o r r (an j) tn td tb ta tm tc 0 by_ 0 (Int.ofNat rd) (Int.ofNat by_) (Int.ofNat at_) md 0 cell 0 (ap j) (am j) (fk (au Lim.h hj)<|fk (ac Lim.h q0)<|fk (aj Lim.h hj)<|fk (ac Lim.h q1)<|fk (kd H0)<|aa) he)⟩
end
end
section
variable(hrd:rd<32)(q0:BEq.beq (ap j).cps.toList [105]=true)
include hrd q0
theorem B0(q1:BEq.beq (am j).cps.toList [119]=true)(hL:bu w b c o at_ md true true)(old:Int)(hR:bM w b c o at_ old)(fo:Nat→Int)(hW:aT w b c o at_ (bS j (Int.ofNat by_) (Builtin.bitOr old (Int.ofNat by_)) (Builtin.bitAnd old (4294967295-(Int.ofNat by_)))) fo)(he:He [((bne (Int.ofNat rd) 0),true)]):fK w b c o r j rd by_ at_ md fo (aW (vo r) rd old):=by
 intro kt d x e gh n t tn td tb ta tm tc cell
 obtain⟨n0,t0,H0⟩:=hL kt d gh (n+4) (t+18) ta tm
 obtain⟨told,n1,t1,H1⟩:=hR kt d gh (n0+0) (t0+0) ta
 obtain⟨o1,n2,t2,eo,H2⟩:=hW kt d gh (n1+1) (t1+18) ta (bS j tb (.add t1 5618) (.add t1 5626))
 exact⟨o1,(up r rd old told),n2+0,t2+1,eo,fun k=>aO _ _ _ _ k,kE (due_10 w b c (a3 d x e) bf gh n t 40 (ar [n0,n1,n2]) (ar [t0,t1,t2]) (fun _ _=>0) kt o o1 r (up r rd old told) (an j) tn td tb ta tm tc told by_ (bS j tb (.add t1 5618) (.add t1 5626)) (Int.ofNat rd) (Int.ofNat by_) (Int.ofNat at_) md old cell (bS j (Int.ofNat by_) (Builtin.bitOr old (Int.ofNat by_)) (Builtin.bitAnd old (4294967295-(Int.ofNat by_)))) (ap j) (am j) (fk (au Lim.h hj)<|fk (ac Lim.h q0)<|fk (aj Lim.h hj)<|fk (ac Lim.h q1)<|fk (kd H0)<|fk (kd H1)<|fk (aj Lim.h hj)<|fk (TriC.cast (ko Lim.h j hj) rfl rfl rfl rfl rfl rfl rfl rfl (congrArg (fun x=>(.ok (.ret x):Result)) (g6 j hj _ _ _ _ _ _)))<|fk (kd H2)<|fk (bv Lim.h (m:=0) (r:=r) (i:=rd) (x:=old) (y:=told) hrd)<|aa) he)⟩
theorem ri(q1:BEq.beq (am j).cps.toList [119]=false)(hL:bu w b c o at_ md false true)(old:Int)(hR:bM w b c o at_ old)(he:He [((bne (Int.ofNat rd) 0),true),((bne (Int.ofNat by_) 0),false)]):fK w b c o r j rd by_ at_ md (vo o) (aW (vo r) rd old):=by
 intro kt d x e gh n t tn td tb ta tm tc cell
 obtain⟨n0,t0,H0⟩:=hL kt d gh (n+4) (t+19) ta tm
 obtain⟨told,n1,t1,H1⟩:=hR kt d gh (n0+0) (t0+0) ta
 exact⟨o,(up r rd old told),n1+0,t1+2,fun _=>rfl,fun k=>aO _ _ _ _ k,kE (due_14 w b c (a3 d x e) bf gh n t 40 (ar [n0,n1]) (ar [t0,t1]) (fun _ _=>0) kt o o r (up r rd old told) (an j) tn td tb ta tm tc told by_ 0 (Int.ofNat rd) (Int.ofNat by_) (Int.ofNat at_) md old cell 0 (ap j) (am j) (fk (au Lim.h hj)<|fk (ac Lim.h q0)<|fk (aj Lim.h hj)<|fk (ac Lim.h q1)<|fk (kd H0)<|fk (kd H1)<|fk (bv Lim.h (m:=0) (r:=r) (i:=rd) (x:=old) (y:=told) hrd)<|aa) he)⟩
theorem ro(q1:BEq.beq (am j).cps.toList [119]=false)(hL:bu w b c o at_ md true true)(old:Int)(hR:bM w b c o at_ old)(fo:Nat→Int)(hW:aT w b c o at_ (bS j (Int.ofNat by_) (Builtin.bitOr old (Int.ofNat by_)) (Builtin.bitAnd old (4294967295-(Int.ofNat by_)))) fo)(he:He [((bne (Int.ofNat rd) 0),true),((bne (Int.ofNat by_) 0),true)]):fK w b c o r j rd by_ at_ md fo (aW (vo r) rd old):=by
 intro kt d x e gh n t tn td tb ta tm tc cell
 obtain⟨n0,t0,H0⟩:=hL kt d gh (n+4) (t+19) ta tm
 obtain⟨told,n1,t1,H1⟩:=hR kt d gh (n0+0) (t0+0) ta
 obtain⟨o1,n2,t2,eo,H2⟩:=hW kt d gh (n1+1) (t1+18) ta (bS j tb (.add t1 5618) (.add t1 5626))
 exact⟨o1,(up r rd old told),n2+0,t2+1,eo,fun k=>aO _ _ _ _ k,kE (due_16 w b c (a3 d x e) bf gh n t 40 (ar [n0,n1,n2]) (ar [t0,t1,t2]) (fun _ _=>0) kt o o1 r (up r rd old told) (an j) tn td tb ta tm tc told by_ (bS j tb (.add t1 5618) (.add t1 5626)) (Int.ofNat rd) (Int.ofNat by_) (Int.ofNat at_) md old cell (bS j (Int.ofNat by_) (Builtin.bitOr old (Int.ofNat by_)) (Builtin.bitAnd old (4294967295-(Int.ofNat by_)))) (ap j) (am j) (fk (au Lim.h hj)<|fk (ac Lim.h q0)<|fk (aj Lim.h hj)<|fk (ac Lim.h q1)<|fk (kd H0)<|fk (kd H1)<|fk (aj Lim.h hj)<|fk (TriC.cast (ko Lim.h j hj) rfl rfl rfl rfl rfl rfl rfl rfl (congrArg (fun x=>(.ok (.ret x):Result)) (g6 j hj _ _ _ _ _ _)))<|fk (kd H2)<|fk (bv Lim.h (m:=0) (r:=r) (i:=rd) (x:=old) (y:=told) hrd)<|aa) he)⟩
end
end
end
def E33:List Nat:=[832,320,834,322,835,323,833,321,773,261,770,771,384,774,262,2816,2818,2944,2946,3072,3073,3074,3200,3201,3202,769,3857,3860,257,1984,2817,3075,4095]
def gn(v:Nat):Nat:=E33.getD (v/6/3%33) 0
def i9(v:Nat):Nat:=v/6%8
def gm(v:Nat):Nat:=v/6/8%(if v%6<3 then 8 else 32)
def gW(v:Nat):Int:=Int.ofNat ([3,1,3,0].getD (v/6/5%4) 0)
def gu(l:List Value)(k:Nat):Nat:=match l[k]? with
 |some (.int _ t)=>t
 |some (.str _ t)=>t
 |_=>0
def xc(t:Nat):List Value:=[(.str kL (.add t 5710)),(.str kz (.add t 5711)),(.str kG (.add t 5712)),(.str kv (.add t 5713)),(.str kM (.add t 5714)),(.str kJ (.add t 5715))]
def GU(t:Nat):List Value:=[(.int 8 (.add t 5757)),(.int 32 (.add t 5758))]
def CE(t:Nat):List Value:=[(.int 832 (.add t 5616)),(.int 320 (.add t 5622)),(.int 834 (.add t 5628)),(.int 322 (.add t 5634)),(.int 835 (.add t 5640)),(.int 323 (.add t 5646)),(.int 833 (.add t 5652)),(.int 321 (.add t 5658)),(.int 773 (.add t 5664)),(.int 261 (.add t 5670)),(.int 770 (.add t 5676)),(.int 771 (.add t 5678)),(.int 384 (.add t 5680)),(.int 774 (.add t 5682)),(.int 262 (.add t 5684)),(.int 2816 (.add t 5687)),(.int 2818 (.add t 5688)),(.int 2944 (.add t 5689)),(.int 2946 (.add t 5690)),(.int 3072 (.add t 5691)),(.int 3073 (.add t 5692)),(.int 3074 (.add t 5693)),(.int 3200 (.add t 5694)),(.int 3201 (.add t 5695)),(.int 3202 (.add t 5696)),(.int 769 (.add t 5698)),(.int 3857 (.add t 5699)),(.int 3860 (.add t 5700)),(.int 257 (.add t 5701)),(.int 1984 (.add t 5702)),(.int 2817 (.add t 5703)),(.int 3075 (.add t 5704)),(.int 4095 (.add t 5705))]
def B8(t:Nat):List Value:=[(.int 3 (.add t 5769)),(.int 1 (.add t 5770)),(.int 3 (.add t 5771)),(.int 0 (.add t 5772))]
theorem nm_at(t:Nat):∀j,j<6→(xc t)[j]?=some (.str (an j) (gu (xc t) j)):=ke rfl rfl rfl rfl rfl rfl
theorem nm_tok(t:Nat):∀j,j<6→∃tn,gu (xc t) j=Nat.add tn 5615:=
 ke ⟨t+95,nf t 95 5615▸rfl⟩ ⟨t+96,nf t 96 5615▸rfl⟩ ⟨t+97,nf t 97 5615▸rfl⟩ ⟨t+98,nf t 98 5615▸rfl⟩ ⟨t+99,nf t 99 5615▸rfl⟩ ⟨t+100,nf t 100 5615▸rfl⟩
theorem m8_at(t:Nat):∀i,i<2→(GU t)[i]?=some (.int (Int.ofNat (if i=0 then 8 else 32)) (gu (GU t) i))
 |0,_=>rfl
 |1,_=>rfl
theorem md_at(t:Nat):∀i,i<4→(B8 t)[i]?=some (.int (Int.ofNat ([3,1,3,0].getD i 0)) (gu (B8 t) i))
 |0,_=>rfl
 |1,_=>rfl
 |2,_=>rfl
 |3,_=>rfl
theorem ev_at(t k:Nat)(hk:k<33):(CE t)[k]?=some (.int (Int.ofNat (E33.getD k 0)) (gu (CE t) k)):=by
 iterate 33 (rcases k with _|k;· rfl)
 omega
theorem uh(a b:Nat):ak (Int.ofNat a) (Int.ofNat b)=Int.ofNat (a%b):=gP a b
theorem uR(a b:Nat):aP (Int.ofNat a) (Int.ofNat b)=Int.ofNat (a/b):=nq a b
theorem Bo(v:Nat):ak (Int.ofNat v) 6=Int.ofNat (v%6)∧aP (ak (Int.ofNat v) 6) 3=Int.ofNat (v%6/3)∧ak (aP (aP (Int.ofNat v) 6) 3) 33=Int.ofNat (v/6/3%33)∧ak (aP (aP (Int.ofNat v) 6) 5) 4=Int.ofNat (v/6/5%4)∧
  ak (aP (Int.ofNat v) 6) 8=Int.ofNat (i9 v)∧∀m:Nat,ak (aP (aP (Int.ofNat v) 6) 8) (Int.ofNat m)=Int.ofNat (v/6/8%m):=by
 have e1:=uh v 6
 have e2:=uR (v%6) 3
 have e3:=uR v 6
 have e4:=uR (v/6) 3
 have e5:=uh (v/6/3) 33
 have e6:=uR (v/6) 5
 have e7:=uh (v/6/5) 4
 have e8:=uh (v/6) 8
 have e9:=uR (v/6) 8
 refine⟨e1,?_,?_,?_,?_,fun m=>?_⟩
 ·exact(congrArg (fun x=>aP x 3) e1).trans e2
 ·exact(congrArg (fun x=>ak (aP x 3) 33) e3).trans ((congrArg (fun x=>ak x 33) e4).trans e5)
 ·exact(congrArg (fun x=>ak (aP x 5) 4) e3).trans ((congrArg (fun x=>ak x 4) e6).trans e7)
 ·exact(congrArg (fun x=>ak x 8) e3).trans e8
 ·exact(congrArg (fun x=>ak (aP x 8) (Int.ofNat m)) e3).trans ((congrArg (fun x=>ak x (Int.ofNat m)) e9).trans (uh _ m))
theorem gO{a:Addr}{x y:Int}{u:Nat}(h:x=y):Code.builtin "list.__getitem__" ⟨[.ref a,.int x u],[]⟩=Code.builtin "list.__getitem__" ⟨[.ref a,.int y u],[]⟩:=by rw[h]
inductive deed_okX (w:World) (b:Bool) (c:Bool) (v:Nat) (ti:Nat) (gh:List (Addr×Obj)) (n:Nat) (t:Nat):Prop where
 |mk (e tn td tb ta tm n' t':Nat) (h0_:Tri (MM w b c) (bV (PP w b c)) 1994 40 (.call (.ref 1974) ⟨[.int (Int.ofNat v) ti],[]⟩) gh [] (.add n 1994) (.add t 5615) (.ok (.ret (.ref (ad e)))) gh
  [(ad e,dT (v%6) (.add tn 5615) (i9 v) (gm v) (gn v) (gW v) td tb ta tm)] (.add n' 1994) (.add t' 5615)):deed_okX w b c v ti gh n t
theorem w6(w:World)(b c:Bool)(v ti:Nat)(gh:List (Addr×Obj))(n t:Nat):deed_okX w b c v ti gh n t:=by
 obtain⟨e1,e2,e3,e4,e5,e6⟩:=Bo v
 obtain⟨tn,htn⟩:=nm_tok t (v%6) (Nat.mod_lt _ (by decide))
 have hn:=nm_at t (v%6) (Nat.mod_lt _ (by decide))
 have h8:=m8_at t (v%6/3) (by omega)
 have he:=ev_at t (v/6/3%33) (Nat.mod_lt _ (by decide))
 have hm:=md_at t (v/6/5%4) (Nat.mod_lt _ (by decide))
 have hby:v/6/8%(if v%6/3=0 then 8 else 32)=gm v:=by
  unfold gm
  by_cases q:v%6<3
  ·rw[if_pos q,if_pos (by omega)]
  ·rw[if_neg q,if_neg (by omega)]
 have h0:nw (Int.ofNat (if v%6/3=0 then 8 else 32))=false:=by split<;>rfl
 have calls:∀{L:Nat} {g:Cfg} {l:List Call},(∀k∈l,br (MM w b c) g L k)→(∀k∈l,br (MM w b c) g L k):=fun h=>h
 have key:∃tb:Nat,Tri (MM w b c) (bV (PP w b c)) 1994 40 (.call (.ref 1974) ⟨[.int (Int.ofNat v) ti],[]⟩) gh [] (.add n 1994) (.add t 5615) (.ok (.ret (.ref (ad (n+85))))) gh
   [(ad (n+85),tO [.str (an (v%6)) (gu (xc t) (v%6)),.int (ak (aP (Int.ofNat v) 6) 8) (.add t 5754),.int (ak (aP (aP (Int.ofNat v) 6) 8) (Int.ofNat (if v%6/3=0 then 8 else 32))) tb,.int (Int.ofNat (gn v)) (gu (CE t) (v/6/3%33)),.int (gW v) (gu (B8 t) (v/6/5%4))])] (.add (n+86) 1994) (.add (t+162) 5615):=by
  cases c
  ·exact⟨Nat.add t 5763,TriC.cast (deed_f w b false (a1 0) bf gh n t 0 (Int.ofNat v) ti (an (v%6)) (gu (xc t) (v%6)) (gu (GU t) (v%6/3)) (gu (B8 t) (v/6/5%4)) (gu (CE t) (v/6/3%33)) (Int.ofNat (if v%6/3=0 then 8 else 32)) (gW v) (Int.ofNat (gn v))
    (fk (TriC.code (gO e1) (bb Lim.h hn (by omega)))<|fk (TriC.code (gO e2) (bb Lim.h h8 (by omega)))<|fk (TriC.code (gO e3) (bb Lim.h he (by omega)))<|fk (TriC.code (gO e4) (bb Lim.h hm (by omega)))<|aa) (fc h0 aa)) (by kernel_rfl) rfl rfl (by kernel_rfl) (nf n 1994 86) (nf t 5615 162) rfl rfl (by kernel_rfl)⟩
  ·exact⟨Nat.add t 5763,TriC.cast (deed_t w b true (a1 0) bf gh n t 0 (Int.ofNat v) ti (an (v%6)) (gu (xc t) (v%6)) (gu (GU t) (v%6/3)) (gu (B8 t) (v/6/5%4)) (gu (CE t) (v/6/3%33)) (Int.ofNat (if v%6/3=0 then 8 else 32)) (gW v) (Int.ofNat (gn v))
    (fk (TriC.code (gO e1) (bb Lim.h hn (by omega)))<|fk (TriC.code (gO e2) (bb Lim.h h8 (by omega)))<|fk (TriC.code (gO e3) (bb Lim.h he (by omega)))<|fk (TriC.code (gO e4) (bb Lim.h hm (by omega)))<|aa) (fc h0 aa)) (by kernel_rfl) rfl rfl (by kernel_rfl) (nf n 1994 86) (nf t 5615 162) rfl rfl (by kernel_rfl)⟩
 obtain⟨tb,key⟩:=key
 rw[e5,e6,hby,htn]at key
 exact⟨n+85,tn,Nat.add t 5754,tb,_,_,n+86,t+162,key⟩
def E28:List Nat:=[832,320,834,322,835,323,833,321,773,261,770,771,384,774,262,2816,2818,2944,2946,3072,3073,3074,3200,3201,3202,769,3857,3860]
def strL:List Nat:=[257,1984,2817,3075,4095]
def cnt3:List Nat:=[3072,3073,3074,3200,3201,3202]
def cQ(i m a d:Nat):Bool:=cond (strL.any (Nat.beq i)) false (cond (Nat.blt m (i/256%4)) false (cond (cnt3.any (Nat.beq i)&&Nat.blt m 3) (Nat.testBit a (i%4)&&(Nat.beq m 1||Nat.testBit d (i%4))) true))
def dQ(s:BS)(i:Nat):Int:=cond (plainL.any (Nat.beq i)) (s.p i).1 (cond (Nat.beq i 769) 1075056896 (cond (Nat.beq i 3857) 0 (cond (Nat.beq i 3860) (s.z 3860).1 (cond (Nat.ble 2816 i)
 (cond (Nat.ble 128 (i%256)) (Builtin.bitAnd (ay (cond (Nat.beq (i%4) 2) (s.z 2818).1 (s.z 2816).1) 32) 4294967295) (Builtin.bitAnd (cond (Nat.beq (i%4) 2) (s.z 2818).1 (s.z 2816).1) 4294967295)) (s.z i).1))))
def jK(s:BS)(i v:Nat):Nat→Int:=cond (plainL.any (Nat.beq i)) (aW (vp s) i (cond (Nat.beq i 261||Nat.beq i 773) (Builtin.bitAnd (Builtin.bitAnd (Int.ofNat v) 4294967295) 4294967293) (cond (Nat.beq i 321||Nat.beq i 833) (Builtin.bitAnd (Builtin.bitAnd (Int.ofNat v) 4294967295) 4294967292)
 (cond (Nat.beq i 262||Nat.beq i 774) (Builtin.bitAnd (Builtin.bitAnd (Int.ofNat v) 4294967295) 7) (Builtin.bitAnd (Int.ofNat v) 4294967295))))) (vp s)
def jV(s:BS)(i v:Nat):Nat→Int:=cond (Nat.beq i 770) (aW (vz s) 770 (Builtin.bitAnd (Builtin.bitAnd (Int.ofNat v) 4294967295) 46079)) (cond (Nat.beq i 771) (aW (vz s) 771 (Builtin.bitAnd (Builtin.bitAnd (Int.ofNat v) 4294967295) 546))
 (cond (Nat.beq i 384) (aW (vz s) 384 (Builtin.bitAnd (Builtin.bitAnd (Int.ofNat v) 4294967295) 2151677951)) (cond (Nat.beq i 2816) (aW (vz s) 2816 (Builtin.bitOr (be (ay (s.z 2816).1 32) 32) (Builtin.bitAnd (Int.ofNat v) 4294967295)))
 (cond (Nat.beq i 2818) (aW (vz s) 2818 (Builtin.bitOr (be (ay (s.z 2818).1 32) 32) (Builtin.bitAnd (Int.ofNat v) 4294967295))) (cond (Nat.beq i 2944) (aW (vz s) 2816 (Builtin.bitOr (be (Builtin.bitAnd (Int.ofNat v) 4294967295) 32) (Builtin.bitAnd (s.z 2816).1 4294967295)))
 (cond (Nat.beq i 2946) (aW (vz s) 2818 (Builtin.bitOr (be (Builtin.bitAnd (Int.ofNat v) 4294967295) 32) (Builtin.bitAnd (s.z 2818).1 4294967295))) (vz s)))))))
theorem qK(a k:Nat):Builtin.bitAnd (ay (a:Int) (k:Int)) 1=((if a.testBit k then 1 else 0:Nat):Int):=by
 rw[gY,show (1:Int)=((1:Nat):Int) from rfl,iE]
 congr 1
 rw[Nat.and_one_is_mod,Nat.testBit_eq_decide_div_mod_eq]
 by_cases h:a/2^k%2=1
 ·rw[decide_eq_true h];exact h
 ·rw[decide_eq_false h];have:=Nat.mod_two_eq_zero_or_one (a/2^k);simp only[Bool.false_eq_true,if_false];omega
theorem dn{x e:Int}{a k:Nat}(hx:x=a)(he:e=(k:Int))(h:a.testBit k=true):(BEq.beq (Builtin.bitAnd (ay x e) 1) 0)=false:=by
 subst hx he;rw[qK,h];rfl
theorem dr{x e:Int}{a k:Nat}(hx:x=a)(he:e=(k:Int))(h:a.testBit k=false):(BEq.beq (Builtin.bitAnd (ay x e) 1) 0)=true:=by
 subst hx he;rw[qK,h];rfl
theorem bX{x y:Int}{a d:Nat}(hx:x=a)(hy:y=d):Builtin.bitAnd x y=((a &&& d:Nat):Int):=by subst hx hy;exact iE a d
theorem gC{p q:Bool}(h:(p&&(true||q))=false):p=false:=by cases p<;>simp_all
theorem nN{p q:Bool}(h:(p&&(true||q))=true):p=true:=by cases p<;>simp_all
theorem gH{a d k:Nat}(h:(Nat.testBit a k&&(false||Nat.testBit d k))=false):(a &&& d).testBit k=false:=by rw[Nat.testBit_and];simpa using h
theorem nZ{a d k:Nat}(h:(Nat.testBit a k&&(false||Nat.testBit d k))=true):(a &&& d).testBit k=true:=by rw[Nat.testBit_and];simpa using h
theorem jJ(v:Nat):Builtin.bitAnd (Int.ofNat v) 4294967295=Int.ofNat (v%4294967296):=pF (nS v 32)
theorem wX(v:Nat):bg (Builtin.bitAnd (Int.ofNat v) 4294967295) 32=false:=by
 rw[jJ]
 exact fM _ 32 (Nat.lt_trans (Nat.mod_lt _ (by decide)) (by decide)) (by decide)
theorem wU{z:Int}{x:Nat}(hz:z=x)(h:x<2^64):bg (ay z 32) 32=false:=by
 subst hz
 have:=gY x 32
 rw[show ay (x:Int) 32=((x/2^32:Nat):Int) from this]
 exact fM _ 32 (Nat.lt_of_le_of_lt (Nat.div_le_self _ _) (Nat.lt_trans h (by decide))) (by decide)
section
variable(w:World)(b c:Bool)(A:AS)(s:BS)(a d:Nat)(ha:(s.p 774).1=a)(hd:(s.p 262).1=d)
include w b c A s a d ha hd
theorem uA{i m:Nat}(hi:i∈E28)(hm:m=0∨m=1∨m=3)(h:cQ i m a d=true):bw w b c A s i (Int.ofNat m) (dQ s i):=by
 revert i
 refine @ab _ _ _ _ ?_ ?_
 all_goals repeat' first|exact aa|refine ab ?_ ?_
 all_goals intro h
 all_goals rcases hm with rfl|rfl|rfl
 all_goals try first|exact absurd (show false=true from h) Bool.false_ne_true|exact Ap w b c A s _ _ (by decide) ai|exact BU w b c A s _ _ (by decide) (by kernel_rfl!) ai|exact AU w b c A s _ _ (by decide) (by kernel_rfl!) ai|exact BO w b c A s _ _ (by decide) (by kernel_rfl!) ai|exact rP w b c A s _ _ (by decide) (by kernel_rfl!) 0 (s.z 2816).1 (s.z 2816).2 (by decide +kernel) rfl (by decide) ai|exact rP w b c A s _ _ (by decide) (by kernel_rfl!) 2 (s.z 2818).1 (s.z 2818).2 (by decide +kernel) rfl (by decide) ai|exact sv w b c A s _ _ (by decide) (by kernel_rfl!) 0 (s.z 2816).1 (s.z 2816).2 (by decide +kernel) rfl (by decide) ai|exact sv w b c A s _ _ (by decide) (by kernel_rfl!) 2 (s.z 2818).1 (s.z 2818).2 (by decide +kernel) rfl (by decide) ai|exact mS w b c A s _ _ (by decide) (by kernel_rfl!) 0 (s.z 2816).1 (s.z 2816).2 (by decide +kernel) rfl (by decide) ai|exact mS w b c A s _ _ (by decide) (by kernel_rfl!) 1 (s.z 2816).1 (s.z 2816).2 (by decide +kernel) rfl (by decide) ai|exact mS w b c A s _ _ (by decide) (by kernel_rfl!) 2 (s.z 2818).1 (s.z 2818).2 (by decide +kernel) rfl (by decide) ai|exact mK w b c A s _ _ (by decide) (by kernel_rfl!) 0 (s.z 2816).1 (s.z 2816).2 (by decide +kernel) rfl (by decide) ai|exact mK w b c A s _ _ (by decide) (by kernel_rfl!) 1 (s.z 2816).1 (s.z 2816).2 (by decide +kernel) rfl (by decide) ai|exact mK w b c A s _ _ (by decide) (by kernel_rfl!) 2 (s.z 2818).1 (s.z 2818).2 (by decide +kernel) rfl (by decide) ai|exact zV w b c A s _ _ (by decide) (by kernel_rfl!) ai|exact zf w b c A s _ _ (by decide) (by kernel_rfl!) ai|exact zg w b c A s _ _ (by decide) (by kernel_rfl!) ai
 ·obtain⟨h1,h2⟩:=Bool.and_eq_true_iff.mp (show (Nat.testBit a 0&&(false||Nat.testBit d 0))=true from h)
  exact mR w b c A s 3072 (Int.ofNat 0) (by decide) (by kernel_rfl!) 0 (s.z 2816).1 (s.z 2816).2 (by decide +kernel) rfl (by decide) (fc (by decide +kernel) (fc (by decide +kernel) (fc (by decide +kernel) (fc (dn (bX ha hd) (k:=0) (by decide +kernel) (by rw[Nat.testBit_and,h1];exact h2)) ai))))
 ·have h1:=(Bool.and_eq_true_iff.mp (show (Nat.testBit a 0&&(true||Nat.testBit d 0))=true from h)).1
  exact mL w b c A s 3072 (Int.ofNat 1) (by decide) (by kernel_rfl!) 0 (s.z 2816).1 (s.z 2816).2 (by decide +kernel) rfl (by decide) (fc (by decide +kernel) (fc (by decide +kernel) (fc (by decide +kernel) (fc (dn ha (k:=0) (by decide +kernel) h1) ai))))
 ·obtain⟨h1,h2⟩:=Bool.and_eq_true_iff.mp (show (Nat.testBit a 1&&(false||Nat.testBit d 1))=true from h)
  exact mR w b c A s 3073 (Int.ofNat 0) (by decide) (by kernel_rfl!) 1 (s.z 2816).1 (s.z 2816).2 (by decide +kernel) rfl (by decide) (fc (by decide +kernel) (fc (by decide +kernel) (fc (by decide +kernel) (fc (dn (bX ha hd) (k:=1) (by decide +kernel) (by rw[Nat.testBit_and,h1];exact h2)) ai))))
 ·have h1:=(Bool.and_eq_true_iff.mp (show (Nat.testBit a 1&&(true||Nat.testBit d 1))=true from h)).1
  exact mL w b c A s 3073 (Int.ofNat 1) (by decide) (by kernel_rfl!) 1 (s.z 2816).1 (s.z 2816).2 (by decide +kernel) rfl (by decide) (fc (by decide +kernel) (fc (by decide +kernel) (fc (by decide +kernel) (fc (dn ha (k:=1) (by decide +kernel) h1) ai))))
 ·obtain⟨h1,h2⟩:=Bool.and_eq_true_iff.mp (show (Nat.testBit a 2&&(false||Nat.testBit d 2))=true from h)
  exact mR w b c A s 3074 (Int.ofNat 0) (by decide) (by kernel_rfl!) 2 (s.z 2818).1 (s.z 2818).2 (by decide +kernel) rfl (by decide) (fc (by decide +kernel) (fc (by decide +kernel) (fc (by decide +kernel) (fc (dn (bX ha hd) (k:=2) (by decide +kernel) (by rw[Nat.testBit_and,h1];exact h2)) ai))))
 ·have h1:=(Bool.and_eq_true_iff.mp (show (Nat.testBit a 2&&(true||Nat.testBit d 2))=true from h)).1
  exact mL w b c A s 3074 (Int.ofNat 1) (by decide) (by kernel_rfl!) 2 (s.z 2818).1 (s.z 2818).2 (by decide +kernel) rfl (by decide) (fc (by decide +kernel) (fc (by decide +kernel) (fc (by decide +kernel) (fc (dn ha (k:=2) (by decide +kernel) h1) ai))))
 ·obtain⟨h1,h2⟩:=Bool.and_eq_true_iff.mp (show (Nat.testBit a 0&&(false||Nat.testBit d 0))=true from h)
  exact l9 w b c A s 3200 (Int.ofNat 0) (by decide) (by kernel_rfl!) 0 (s.z 2816).1 (s.z 2816).2 (by decide +kernel) rfl (by decide) (fc (by decide +kernel) (fc (by decide +kernel) (fc (by decide +kernel) (fc (dn (bX ha hd) (k:=0) (by decide +kernel) (by rw[Nat.testBit_and,h1];exact h2)) ai))))
 ·have h1:=(Bool.and_eq_true_iff.mp (show (Nat.testBit a 0&&(true||Nat.testBit d 0))=true from h)).1
  exact lZ w b c A s 3200 (Int.ofNat 1) (by decide) (by kernel_rfl!) 0 (s.z 2816).1 (s.z 2816).2 (by decide +kernel) rfl (by decide) (fc (by decide +kernel) (fc (by decide +kernel) (fc (by decide +kernel) (fc (dn ha (k:=0) (by decide +kernel) h1) ai))))
 ·obtain⟨h1,h2⟩:=Bool.and_eq_true_iff.mp (show (Nat.testBit a 1&&(false||Nat.testBit d 1))=true from h)
  exact l9 w b c A s 3201 (Int.ofNat 0) (by decide) (by kernel_rfl!) 1 (s.z 2816).1 (s.z 2816).2 (by decide +kernel) rfl (by decide) (fc (by decide +kernel) (fc (by decide +kernel) (fc (by decide +kernel) (fc (dn (bX ha hd) (k:=1) (by decide +kernel) (by rw[Nat.testBit_and,h1];exact h2)) ai))))
 ·have h1:=(Bool.and_eq_true_iff.mp (show (Nat.testBit a 1&&(true||Nat.testBit d 1))=true from h)).1
  exact lZ w b c A s 3201 (Int.ofNat 1) (by decide) (by kernel_rfl!) 1 (s.z 2816).1 (s.z 2816).2 (by decide +kernel) rfl (by decide) (fc (by decide +kernel) (fc (by decide +kernel) (fc (by decide +kernel) (fc (dn ha (k:=1) (by decide +kernel) h1) ai))))
 ·obtain⟨h1,h2⟩:=Bool.and_eq_true_iff.mp (show (Nat.testBit a 2&&(false||Nat.testBit d 2))=true from h)
  exact l9 w b c A s 3202 (Int.ofNat 0) (by decide) (by kernel_rfl!) 2 (s.z 2818).1 (s.z 2818).2 (by decide +kernel) rfl (by decide) (fc (by decide +kernel) (fc (by decide +kernel) (fc (by decide +kernel) (fc (dn (bX ha hd) (k:=2) (by decide +kernel) (by rw[Nat.testBit_and,h1];exact h2)) ai))))
 ·have h1:=(Bool.and_eq_true_iff.mp (show (Nat.testBit a 2&&(true||Nat.testBit d 2))=true from h)).1
  exact lZ w b c A s 3202 (Int.ofNat 1) (by decide) (by kernel_rfl!) 2 (s.z 2818).1 (s.z 2818).2 (by decide +kernel) rfl (by decide) (fc (by decide +kernel) (fc (by decide +kernel) (fc (by decide +kernel) (fc (dn ha (k:=2) (by decide +kernel) h1) ai))))
theorem Bt{i m:Nat}(hi:i∈E33)(hm:m=0∨m=1∨m=3)(h:cQ i m a d=false):eP w b c A s i (Int.ofNat m):=by
 revert i
 refine @ab _ _ _ _ ?_ ?_
 all_goals repeat' first|exact aa|refine ab ?_ ?_
 all_goals intro h
 all_goals rcases hm with rfl|rfl|rfl
 all_goals try first|exact absurd (show true=false from h) (fun z=>nomatch z)|exact zr w b c A s _ _ (by decide) ai|exact xZ w b c A s _ _ (by decide) ai|exact xR w b c A s _ _ (by decide) (by kernel_rfl!) ai
 ·have h1:=gH (show (Nat.testBit a 0&&(false||Nat.testBit d 0))=false from h)
  exact f9 w b c A s 3072 (Int.ofNat 0) (by decide) (by kernel_rfl!) (fc (dr (bX ha hd) (k:=0) (by decide +kernel) h1) ai)
 ·have h1:=gC (show (Nat.testBit a 0&&(true||Nat.testBit d 0))=false from h)
  exact f5 w b c A s 3072 (Int.ofNat 1) (by decide) (by kernel_rfl!) (fc (dr ha (k:=0) (by decide +kernel) h1) ai)
 ·have h1:=gH (show (Nat.testBit a 1&&(false||Nat.testBit d 1))=false from h)
  exact f9 w b c A s 3073 (Int.ofNat 0) (by decide) (by kernel_rfl!) (fc (dr (bX ha hd) (k:=1) (by decide +kernel) h1) ai)
 ·have h1:=gC (show (Nat.testBit a 1&&(true||Nat.testBit d 1))=false from h)
  exact f5 w b c A s 3073 (Int.ofNat 1) (by decide) (by kernel_rfl!) (fc (dr ha (k:=1) (by decide +kernel) h1) ai)
 ·have h1:=gH (show (Nat.testBit a 2&&(false||Nat.testBit d 2))=false from h)
  exact f9 w b c A s 3074 (Int.ofNat 0) (by decide) (by kernel_rfl!) (fc (dr (bX ha hd) (k:=2) (by decide +kernel) h1) ai)
 ·have h1:=gC (show (Nat.testBit a 2&&(true||Nat.testBit d 2))=false from h)
  exact f5 w b c A s 3074 (Int.ofNat 1) (by decide) (by kernel_rfl!) (fc (dr ha (k:=2) (by decide +kernel) h1) ai)
 ·have h1:=gH (show (Nat.testBit a 0&&(false||Nat.testBit d 0))=false from h)
  exact f9 w b c A s 3200 (Int.ofNat 0) (by decide) (by kernel_rfl!) (fc (dr (bX ha hd) (k:=0) (by decide +kernel) h1) ai)
 ·have h1:=gC (show (Nat.testBit a 0&&(true||Nat.testBit d 0))=false from h)
  exact f5 w b c A s 3200 (Int.ofNat 1) (by decide) (by kernel_rfl!) (fc (dr ha (k:=0) (by decide +kernel) h1) ai)
 ·have h1:=gH (show (Nat.testBit a 1&&(false||Nat.testBit d 1))=false from h)
  exact f9 w b c A s 3201 (Int.ofNat 0) (by decide) (by kernel_rfl!) (fc (dr (bX ha hd) (k:=1) (by decide +kernel) h1) ai)
 ·have h1:=gC (show (Nat.testBit a 1&&(true||Nat.testBit d 1))=false from h)
  exact f5 w b c A s 3201 (Int.ofNat 1) (by decide) (by kernel_rfl!) (fc (dr ha (k:=1) (by decide +kernel) h1) ai)
 ·have h1:=gH (show (Nat.testBit a 2&&(false||Nat.testBit d 2))=false from h)
  exact f9 w b c A s 3202 (Int.ofNat 0) (by decide) (by kernel_rfl!) (fc (dr (bX ha hd) (k:=2) (by decide +kernel) h1) ai)
 ·have h1:=gC (show (Nat.testBit a 2&&(true||Nat.testBit d 2))=false from h)
  exact f5 w b c A s 3202 (Int.ofNat 1) (by decide) (by kernel_rfl!) (fc (dr ha (k:=2) (by decide +kernel) h1) ai)
theorem Am{i m:Nat}(v:Int)(hi:i∈E33)(hm:m=0∨m=1∨m=3)(h:(cQ i m a d&&!(Nat.ble 3072 i))=false):cL w b c A s i (Int.ofNat m) v:=by
 revert i
 refine @ab _ _ _ _ ?_ ?_
 all_goals repeat' first|exact aa|refine ab ?_ ?_
 all_goals intro h
 all_goals rcases hm with rfl|rfl|rfl
 all_goals try first|exact wD w b c A s _ _ v ai|exact absurd (show true=false from h) (fun z=>nomatch z)|exact wi w b c A s _ _ v (by kernel_rfl!) ai|exact wo w b c A s _ _ v (by kernel_rfl!) ai|exact wm w b c A s _ _ v (by kernel_rfl!) ai
 ·cases hb:cQ 3072 0 a d with
  |false=>
   have h1:=gH (show (Nat.testBit a 0&&(false||Nat.testBit d 0))=false from hb)
   exact fu w b c A s 3072 (Int.ofNat 0) v (by kernel_rfl!) (fc (dr (bX ha hd) (k:=0) (by decide +kernel) h1) ai)
  |true=>
   have h1:=nZ (show (Nat.testBit a 0&&(false||Nat.testBit d 0))=true from hb)
   exact fg w b c A s 3072 (Int.ofNat 0) v (by kernel_rfl!) (fc (by decide +kernel) (fc (dn (bX ha hd) (k:=0) (by decide +kernel) h1) ai))
 ·cases hb:cQ 3072 1 a d with
  |false=>
   have h1:=gC (show (Nat.testBit a 0&&(true||Nat.testBit d 0))=false from hb)
   exact fB w b c A s 3072 (Int.ofNat 1) v (by kernel_rfl!) (fc (dr ha (k:=0) (by decide +kernel) h1) ai)
  |true=>
   have h1:=nN (show (Nat.testBit a 0&&(true||Nat.testBit d 0))=true from hb)
   exact fw w b c A s 3072 (Int.ofNat 1) v (by kernel_rfl!) (fc (by decide +kernel) (fc (dn ha (k:=0) (by decide +kernel) h1) ai))
 ·cases hb:cQ 3073 0 a d with
  |false=>
   have h1:=gH (show (Nat.testBit a 1&&(false||Nat.testBit d 1))=false from hb)
   exact fu w b c A s 3073 (Int.ofNat 0) v (by kernel_rfl!) (fc (dr (bX ha hd) (k:=1) (by decide +kernel) h1) ai)
  |true=>
   have h1:=nZ (show (Nat.testBit a 1&&(false||Nat.testBit d 1))=true from hb)
   exact fg w b c A s 3073 (Int.ofNat 0) v (by kernel_rfl!) (fc (by decide +kernel) (fc (dn (bX ha hd) (k:=1) (by decide +kernel) h1) ai))
 ·cases hb:cQ 3073 1 a d with
  |false=>
   have h1:=gC (show (Nat.testBit a 1&&(true||Nat.testBit d 1))=false from hb)
   exact fB w b c A s 3073 (Int.ofNat 1) v (by kernel_rfl!) (fc (dr ha (k:=1) (by decide +kernel) h1) ai)
  |true=>
   have h1:=nN (show (Nat.testBit a 1&&(true||Nat.testBit d 1))=true from hb)
   exact fw w b c A s 3073 (Int.ofNat 1) v (by kernel_rfl!) (fc (by decide +kernel) (fc (dn ha (k:=1) (by decide +kernel) h1) ai))
 ·cases hb:cQ 3074 0 a d with
  |false=>
   have h1:=gH (show (Nat.testBit a 2&&(false||Nat.testBit d 2))=false from hb)
   exact fu w b c A s 3074 (Int.ofNat 0) v (by kernel_rfl!) (fc (dr (bX ha hd) (k:=2) (by decide +kernel) h1) ai)
  |true=>
   have h1:=nZ (show (Nat.testBit a 2&&(false||Nat.testBit d 2))=true from hb)
   exact fg w b c A s 3074 (Int.ofNat 0) v (by kernel_rfl!) (fc (by decide +kernel) (fc (dn (bX ha hd) (k:=2) (by decide +kernel) h1) ai))
 ·cases hb:cQ 3074 1 a d with
  |false=>
   have h1:=gC (show (Nat.testBit a 2&&(true||Nat.testBit d 2))=false from hb)
   exact fB w b c A s 3074 (Int.ofNat 1) v (by kernel_rfl!) (fc (dr ha (k:=2) (by decide +kernel) h1) ai)
  |true=>
   have h1:=nN (show (Nat.testBit a 2&&(true||Nat.testBit d 2))=true from hb)
   exact fw w b c A s 3074 (Int.ofNat 1) v (by kernel_rfl!) (fc (by decide +kernel) (fc (dn ha (k:=2) (by decide +kernel) h1) ai))
 ·cases hb:cQ 3200 0 a d with
  |false=>
   have h1:=gH (show (Nat.testBit a 0&&(false||Nat.testBit d 0))=false from hb)
   exact fu w b c A s 3200 (Int.ofNat 0) v (by kernel_rfl!) (fc (dr (bX ha hd) (k:=0) (by decide +kernel) h1) ai)
  |true=>
   have h1:=nZ (show (Nat.testBit a 0&&(false||Nat.testBit d 0))=true from hb)
   exact fg w b c A s 3200 (Int.ofNat 0) v (by kernel_rfl!) (fc (by decide +kernel) (fc (dn (bX ha hd) (k:=0) (by decide +kernel) h1) ai))
 ·cases hb:cQ 3200 1 a d with
  |false=>
   have h1:=gC (show (Nat.testBit a 0&&(true||Nat.testBit d 0))=false from hb)
   exact fB w b c A s 3200 (Int.ofNat 1) v (by kernel_rfl!) (fc (dr ha (k:=0) (by decide +kernel) h1) ai)
  |true=>
   have h1:=nN (show (Nat.testBit a 0&&(true||Nat.testBit d 0))=true from hb)
   exact fw w b c A s 3200 (Int.ofNat 1) v (by kernel_rfl!) (fc (by decide +kernel) (fc (dn ha (k:=0) (by decide +kernel) h1) ai))
 ·cases hb:cQ 3201 0 a d with
  |false=>
   have h1:=gH (show (Nat.testBit a 1&&(false||Nat.testBit d 1))=false from hb)
   exact fu w b c A s 3201 (Int.ofNat 0) v (by kernel_rfl!) (fc (dr (bX ha hd) (k:=1) (by decide +kernel) h1) ai)
  |true=>
   have h1:=nZ (show (Nat.testBit a 1&&(false||Nat.testBit d 1))=true from hb)
   exact fg w b c A s 3201 (Int.ofNat 0) v (by kernel_rfl!) (fc (by decide +kernel) (fc (dn (bX ha hd) (k:=1) (by decide +kernel) h1) ai))
 ·cases hb:cQ 3201 1 a d with
  |false=>
   have h1:=gC (show (Nat.testBit a 1&&(true||Nat.testBit d 1))=false from hb)
   exact fB w b c A s 3201 (Int.ofNat 1) v (by kernel_rfl!) (fc (dr ha (k:=1) (by decide +kernel) h1) ai)
  |true=>
   have h1:=nN (show (Nat.testBit a 1&&(true||Nat.testBit d 1))=true from hb)
   exact fw w b c A s 3201 (Int.ofNat 1) v (by kernel_rfl!) (fc (by decide +kernel) (fc (dn ha (k:=1) (by decide +kernel) h1) ai))
 ·cases hb:cQ 3202 0 a d with
  |false=>
   have h1:=gH (show (Nat.testBit a 2&&(false||Nat.testBit d 2))=false from hb)
   exact fu w b c A s 3202 (Int.ofNat 0) v (by kernel_rfl!) (fc (dr (bX ha hd) (k:=2) (by decide +kernel) h1) ai)
  |true=>
   have h1:=nZ (show (Nat.testBit a 2&&(false||Nat.testBit d 2))=true from hb)
   exact fg w b c A s 3202 (Int.ofNat 0) v (by kernel_rfl!) (fc (by decide +kernel) (fc (dn (bX ha hd) (k:=2) (by decide +kernel) h1) ai))
 ·cases hb:cQ 3202 1 a d with
  |false=>
   have h1:=gC (show (Nat.testBit a 2&&(true||Nat.testBit d 2))=false from hb)
   exact fB w b c A s 3202 (Int.ofNat 1) v (by kernel_rfl!) (fc (dr ha (k:=2) (by decide +kernel) h1) ai)
  |true=>
   have h1:=nN (show (Nat.testBit a 2&&(true||Nat.testBit d 2))=true from hb)
   exact fw w b c A s 3202 (Int.ofNat 1) v (by kernel_rfl!) (fc (by decide +kernel) (fc (dn ha (k:=2) (by decide +kernel) h1) ai))
omit ha hd in
theorem BY{i m:Nat}(v x y:Nat)(hx:(s.z 2816).1=x)(hy:(s.z 2818).1=y)(hx64:x<2^64)(hy64:y<2^64)(hi:i∈E33)(hm:m=0∨m=1∨m=3)(h:(cQ i m a d&&!(Nat.ble 3072 i))=true):bz w b c A s i (Int.ofNat m) (Int.ofNat v) (jV s i v) (jK s i v):=by
 revert i
 refine @ab _ _ _ _ ?_ ?_
 all_goals repeat' first|exact aa|refine ab ?_ ?_
 all_goals intro h
 all_goals rcases hm with rfl|rfl|rfl
 all_goals try first|exact absurd (show false=true from h) Bool.false_ne_true|exact absurd ((Bool.and_eq_true_iff.mp h).2) (by decide)|exact xN w b c A s _ _ (Int.ofNat v) (by decide) (by kernel_rfl!) ai|exact yV w b c A s _ _ (Int.ofNat v) (by decide) (by kernel_rfl!) ai|exact zy w b c A s _ _ (Int.ofNat v) (by decide) (by kernel_rfl!) ai|exact zb w b c A s _ _ (Int.ofNat v) (by decide) (by kernel_rfl!) ai|exact yq w b c A s _ _ (Int.ofNat v) (by decide) (by kernel_rfl!) ai|exact Ai w b c A s _ _ (Int.ofNat v) (by decide) (by kernel_rfl!) ai|exact zd w b c A s _ _ (Int.ofNat v) (by decide) (by kernel_rfl!) ai|exact wG w b c A s _ _ (Int.ofNat v) (by decide) (by kernel_rfl!) (fc (by decide +kernel) (fc (wX v) ai))|exact wn w b c A s _ _ (Int.ofNat v) (by decide) (by kernel_rfl!) (fc (by decide +kernel) (fc (wX v) ai))|exact wl w b c A s _ _ (Int.ofNat v) (by decide) (by kernel_rfl!) ai
 ·exact Af w b c A s 2816 (Int.ofNat 3) (Int.ofNat v) (by decide) (by kernel_rfl!) (fc (by decide +kernel) (fc (wU hx hx64) ai))
 ·exact zO w b c A s 2818 (Int.ofNat 3) (Int.ofNat v) (by decide) (by kernel_rfl!) (fc (by decide +kernel) (fc (wU hy hy64) ai))
end
theorem bK{x e:Int}{a k:Nat}{v:Bool}(hx:x=a)(he:e=(k:Int))(h:a.testBit k=v):(BEq.beq (Builtin.bitAnd (ay x e) 1) 1)=v:=by
 subst hx he h;rw[qK];cases a.testBit k<;>rfl
def eA(o:Nat→Int×Nat)(i:Nat):Int:=cond (keptL.any (Nat.beq i)) (o i).1 (cond (Nat.beq i 769) 1075056896 (cond (Nat.beq i 3857) 0 (cond (Nat.beq i 3860) 3
 (cond (Nat.ble 128 (i%256)) (aP (cond (Nat.beq (i%4) 2) (o 2818).1 (o 2816).1) 4294967296) (ak (cond (Nat.beq (i%4) 2) (o 2818).1 (o 2816).1) 4294967296)))))
def bitsL(i:Nat):Int:=cond (Nat.beq i 833||Nat.beq i 321) 4294967292 (cond (Nat.beq i 773||Nat.beq i 261) 4294967293 (cond (Nat.beq i 770) 46079 (cond (Nat.beq i 771) 546 (cond (Nat.beq i 384) 2151677951 (cond (Nat.beq i 774||Nat.beq i 262) 7 4294967295)))))
def wrL(o:Nat→Int×Nat)(i v:Nat):Nat→Int:=cond (keptL.any (Nat.beq i)) (aW (vo o) i (Builtin.bitAnd (Int.ofNat v) (bitsL i))) (cond (Nat.beq i 2816) (aW (vo o) 2816 (Int.ofNat v+aw 4294967296 (aP (o 2816).1 4294967296)))
 (cond (Nat.beq i 2818) (aW (vo o) 2818 (Int.ofNat v+aw 4294967296 (aP (o 2818).1 4294967296))) (cond (Nat.beq i 2944) (aW (vo o) 2816 (ak (o 2816).1 4294967296+aw 4294967296 (Int.ofNat v)))
 (cond (Nat.beq i 2946) (aW (vo o) 2818 (ak (o 2818).1 4294967296+aw 4294967296 (Int.ofNat v))) (vo o)))))
theorem bA{w:World}{b c:Bool}{o:Nat→Int×Nat}{i:Nat}{m:Int}{tw v v':Bool}(e:v=v')(H:bu w b c o i m tw v'):bu w b c o i m tw v:=e▸H
section
variable(w:World)(b c:Bool)(o:Nat→Int×Nat)
include w b c o
theorem xe{i m:Nat}(a d:Nat)(ha:(o 774).1=a)(hd:(o 262).1=d)(hi:i∈E33)(hm:m=0∨m=1∨m=3)(tw:Bool):bu w b c o i (Int.ofNat m) tw (cQ i m a d&&!(tw&&Nat.ble 3072 i)):=by
 revert i
 refine @ab _ _ _ _ ?_ ?_
 all_goals repeat' first|exact aa|refine ab ?_ ?_
 all_goals rcases hm with rfl|rfl|rfl<;>cases tw
 all_goals try first|exact EZ w b c o _ _ (by decide +kernel) ai|exact CY w b c o _ _ (by decide +kernel) ai|exact C4 w b c o _ _ (by decide +kernel) (by decide +kernel) ai|exact Ed w b c o _ _ (by decide +kernel) (by decide +kernel) ai|exact BL w b c o _ _ (by decide +kernel)  | exact CG w b c o _ _ (by decide +kernel)  | exact da w b c o _ _ (by decide +kernel) ai|exact Dt w b c o _ _ (by decide +kernel) (by decide +kernel) ai|exact C1 w b c o _ _ (by decide +kernel) (by decide +kernel) ai|exact Dq w b c o _ _ (by decide +kernel) (by decide +kernel) ai
 ·cases h1:Nat.testBit a 0 with
  |false=>exact bA (show ((Nat.testBit a 0&&(false||Nat.testBit d 0))&&true)=false from by rw[h1];rfl) (cX w b c o 3072 (Int.ofNat 0) (by decide +kernel) (by decide +kernel) (fc (bK ha (k:=0) (by decide +kernel) h1) ai))
  |true=>
   cases h2:Nat.testBit d 0 with
   |false=>exact bA (show ((Nat.testBit a 0&&(false||Nat.testBit d 0))&&true)=false from by rw[h1,h2];rfl) (g9 w b c o 3072 (Int.ofNat 0) (by decide +kernel) (by decide +kernel) (fc (bK hd (k:=0) (by decide +kernel) h2) (fc (by decide +kernel) (fc (by decide +kernel) (fc (bK ha (k:=0) (by decide +kernel) h1) ai)))))
   |true=>exact bA (show ((Nat.testBit a 0&&(false||Nat.testBit d 0))&&true)=true from by rw[h1,h2];rfl) (iF w b c o 3072 (Int.ofNat 0) (by decide +kernel) (by decide +kernel) (fc (bK hd (k:=0) (by decide +kernel) h2) (fc (by decide +kernel) (fc (by decide +kernel) (fc (bK ha (k:=0) (by decide +kernel) h1) ai)))))
 ·exact bA (by rw[show (!(true&&Nat.ble 3072 3072))=false from rfl,Bool.and_false]) (da w b c o 3072 (Int.ofNat 0) (by decide +kernel) ai)
 ·cases h1:Nat.testBit a 0 with
  |false=>exact bA (show ((Nat.testBit a 0&&(true||Nat.testBit d 0))&&true)=false from by rw[h1];rfl) (cX w b c o 3072 (Int.ofNat 1) (by decide +kernel) (by decide +kernel) (fc (bK ha (k:=0) (by decide +kernel) h1) ai))
  |true=>exact bA (show ((Nat.testBit a 0&&(true||Nat.testBit d 0))&&true)=true from by rw[h1];rfl) (iH w b c o 3072 (Int.ofNat 1) (by decide +kernel) (by decide +kernel) (fc (by decide +kernel) (fc (bK ha (k:=0) (by decide +kernel) h1) ai)))
 ·exact bA (by rw[show (!(true&&Nat.ble 3072 3072))=false from rfl,Bool.and_false]) (da w b c o 3072 (Int.ofNat 1) (by decide +kernel) ai)
 ·cases h1:Nat.testBit a 1 with
  |false=>exact bA (show ((Nat.testBit a 1&&(false||Nat.testBit d 1))&&true)=false from by rw[h1];rfl) (cX w b c o 3073 (Int.ofNat 0) (by decide +kernel) (by decide +kernel) (fc (bK ha (k:=1) (by decide +kernel) h1) ai))
  |true=>
   cases h2:Nat.testBit d 1 with
   |false=>exact bA (show ((Nat.testBit a 1&&(false||Nat.testBit d 1))&&true)=false from by rw[h1,h2];rfl) (g9 w b c o 3073 (Int.ofNat 0) (by decide +kernel) (by decide +kernel) (fc (bK hd (k:=1) (by decide +kernel) h2) (fc (by decide +kernel) (fc (by decide +kernel) (fc (bK ha (k:=1) (by decide +kernel) h1) ai)))))
   |true=>exact bA (show ((Nat.testBit a 1&&(false||Nat.testBit d 1))&&true)=true from by rw[h1,h2];rfl) (iF w b c o 3073 (Int.ofNat 0) (by decide +kernel) (by decide +kernel) (fc (bK hd (k:=1) (by decide +kernel) h2) (fc (by decide +kernel) (fc (by decide +kernel) (fc (bK ha (k:=1) (by decide +kernel) h1) ai)))))
 ·exact bA (by rw[show (!(true&&Nat.ble 3072 3073))=false from rfl,Bool.and_false]) (da w b c o 3073 (Int.ofNat 0) (by decide +kernel) ai)
 ·cases h1:Nat.testBit a 1 with
  |false=>exact bA (show ((Nat.testBit a 1&&(true||Nat.testBit d 1))&&true)=false from by rw[h1];rfl) (cX w b c o 3073 (Int.ofNat 1) (by decide +kernel) (by decide +kernel) (fc (bK ha (k:=1) (by decide +kernel) h1) ai))
  |true=>exact bA (show ((Nat.testBit a 1&&(true||Nat.testBit d 1))&&true)=true from by rw[h1];rfl) (iH w b c o 3073 (Int.ofNat 1) (by decide +kernel) (by decide +kernel) (fc (by decide +kernel) (fc (bK ha (k:=1) (by decide +kernel) h1) ai)))
 ·exact bA (by rw[show (!(true&&Nat.ble 3072 3073))=false from rfl,Bool.and_false]) (da w b c o 3073 (Int.ofNat 1) (by decide +kernel) ai)
 ·cases h1:Nat.testBit a 2 with
  |false=>exact bA (show ((Nat.testBit a 2&&(false||Nat.testBit d 2))&&true)=false from by rw[h1];rfl) (cX w b c o 3074 (Int.ofNat 0) (by decide +kernel) (by decide +kernel) (fc (bK ha (k:=2) (by decide +kernel) h1) ai))
  |true=>
   cases h2:Nat.testBit d 2 with
   |false=>exact bA (show ((Nat.testBit a 2&&(false||Nat.testBit d 2))&&true)=false from by rw[h1,h2];rfl) (g9 w b c o 3074 (Int.ofNat 0) (by decide +kernel) (by decide +kernel) (fc (bK hd (k:=2) (by decide +kernel) h2) (fc (by decide +kernel) (fc (by decide +kernel) (fc (bK ha (k:=2) (by decide +kernel) h1) ai)))))
   |true=>exact bA (show ((Nat.testBit a 2&&(false||Nat.testBit d 2))&&true)=true from by rw[h1,h2];rfl) (iF w b c o 3074 (Int.ofNat 0) (by decide +kernel) (by decide +kernel) (fc (bK hd (k:=2) (by decide +kernel) h2) (fc (by decide +kernel) (fc (by decide +kernel) (fc (bK ha (k:=2) (by decide +kernel) h1) ai)))))
 ·exact bA (by rw[show (!(true&&Nat.ble 3072 3074))=false from rfl,Bool.and_false]) (da w b c o 3074 (Int.ofNat 0) (by decide +kernel) ai)
 ·cases h1:Nat.testBit a 2 with
  |false=>exact bA (show ((Nat.testBit a 2&&(true||Nat.testBit d 2))&&true)=false from by rw[h1];rfl) (cX w b c o 3074 (Int.ofNat 1) (by decide +kernel) (by decide +kernel) (fc (bK ha (k:=2) (by decide +kernel) h1) ai))
  |true=>exact bA (show ((Nat.testBit a 2&&(true||Nat.testBit d 2))&&true)=true from by rw[h1];rfl) (iH w b c o 3074 (Int.ofNat 1) (by decide +kernel) (by decide +kernel) (fc (by decide +kernel) (fc (bK ha (k:=2) (by decide +kernel) h1) ai)))
 ·exact bA (by rw[show (!(true&&Nat.ble 3072 3074))=false from rfl,Bool.and_false]) (da w b c o 3074 (Int.ofNat 1) (by decide +kernel) ai)
 ·cases h1:Nat.testBit a 0 with
  |false=>exact bA (show ((Nat.testBit a 0&&(false||Nat.testBit d 0))&&true)=false from by rw[h1];rfl) (cX w b c o 3200 (Int.ofNat 0) (by decide +kernel) (by decide +kernel) (fc (bK ha (k:=0) (by decide +kernel) h1) ai))
  |true=>
   cases h2:Nat.testBit d 0 with
   |false=>exact bA (show ((Nat.testBit a 0&&(false||Nat.testBit d 0))&&true)=false from by rw[h1,h2];rfl) (g9 w b c o 3200 (Int.ofNat 0) (by decide +kernel) (by decide +kernel) (fc (bK hd (k:=0) (by decide +kernel) h2) (fc (by decide +kernel) (fc (by decide +kernel) (fc (bK ha (k:=0) (by decide +kernel) h1) ai)))))
   |true=>exact bA (show ((Nat.testBit a 0&&(false||Nat.testBit d 0))&&true)=true from by rw[h1,h2];rfl) (iF w b c o 3200 (Int.ofNat 0) (by decide +kernel) (by decide +kernel) (fc (bK hd (k:=0) (by decide +kernel) h2) (fc (by decide +kernel) (fc (by decide +kernel) (fc (bK ha (k:=0) (by decide +kernel) h1) ai)))))
 ·exact bA (by rw[show (!(true&&Nat.ble 3072 3200))=false from rfl,Bool.and_false]) (da w b c o 3200 (Int.ofNat 0) (by decide +kernel) ai)
 ·cases h1:Nat.testBit a 0 with
  |false=>exact bA (show ((Nat.testBit a 0&&(true||Nat.testBit d 0))&&true)=false from by rw[h1];rfl) (cX w b c o 3200 (Int.ofNat 1) (by decide +kernel) (by decide +kernel) (fc (bK ha (k:=0) (by decide +kernel) h1) ai))
  |true=>exact bA (show ((Nat.testBit a 0&&(true||Nat.testBit d 0))&&true)=true from by rw[h1];rfl) (iH w b c o 3200 (Int.ofNat 1) (by decide +kernel) (by decide +kernel) (fc (by decide +kernel) (fc (bK ha (k:=0) (by decide +kernel) h1) ai)))
 ·exact bA (by rw[show (!(true&&Nat.ble 3072 3200))=false from rfl,Bool.and_false]) (da w b c o 3200 (Int.ofNat 1) (by decide +kernel) ai)
 ·cases h1:Nat.testBit a 1 with
  |false=>exact bA (show ((Nat.testBit a 1&&(false||Nat.testBit d 1))&&true)=false from by rw[h1];rfl) (cX w b c o 3201 (Int.ofNat 0) (by decide +kernel) (by decide +kernel) (fc (bK ha (k:=1) (by decide +kernel) h1) ai))
  |true=>
   cases h2:Nat.testBit d 1 with
   |false=>exact bA (show ((Nat.testBit a 1&&(false||Nat.testBit d 1))&&true)=false from by rw[h1,h2];rfl) (g9 w b c o 3201 (Int.ofNat 0) (by decide +kernel) (by decide +kernel) (fc (bK hd (k:=1) (by decide +kernel) h2) (fc (by decide +kernel) (fc (by decide +kernel) (fc (bK ha (k:=1) (by decide +kernel) h1) ai)))))
   |true=>exact bA (show ((Nat.testBit a 1&&(false||Nat.testBit d 1))&&true)=true from by rw[h1,h2];rfl) (iF w b c o 3201 (Int.ofNat 0) (by decide +kernel) (by decide +kernel) (fc (bK hd (k:=1) (by decide +kernel) h2) (fc (by decide +kernel) (fc (by decide +kernel) (fc (bK ha (k:=1) (by decide +kernel) h1) ai)))))
 ·exact bA (by rw[show (!(true&&Nat.ble 3072 3201))=false from rfl,Bool.and_false]) (da w b c o 3201 (Int.ofNat 0) (by decide +kernel) ai)
 ·cases h1:Nat.testBit a 1 with
  |false=>exact bA (show ((Nat.testBit a 1&&(true||Nat.testBit d 1))&&true)=false from by rw[h1];rfl) (cX w b c o 3201 (Int.ofNat 1) (by decide +kernel) (by decide +kernel) (fc (bK ha (k:=1) (by decide +kernel) h1) ai))
  |true=>exact bA (show ((Nat.testBit a 1&&(true||Nat.testBit d 1))&&true)=true from by rw[h1];rfl) (iH w b c o 3201 (Int.ofNat 1) (by decide +kernel) (by decide +kernel) (fc (by decide +kernel) (fc (bK ha (k:=1) (by decide +kernel) h1) ai)))
 ·exact bA (by rw[show (!(true&&Nat.ble 3072 3201))=false from rfl,Bool.and_false]) (da w b c o 3201 (Int.ofNat 1) (by decide +kernel) ai)
 ·cases h1:Nat.testBit a 2 with
  |false=>exact bA (show ((Nat.testBit a 2&&(false||Nat.testBit d 2))&&true)=false from by rw[h1];rfl) (cX w b c o 3202 (Int.ofNat 0) (by decide +kernel) (by decide +kernel) (fc (bK ha (k:=2) (by decide +kernel) h1) ai))
  |true=>
   cases h2:Nat.testBit d 2 with
   |false=>exact bA (show ((Nat.testBit a 2&&(false||Nat.testBit d 2))&&true)=false from by rw[h1,h2];rfl) (g9 w b c o 3202 (Int.ofNat 0) (by decide +kernel) (by decide +kernel) (fc (bK hd (k:=2) (by decide +kernel) h2) (fc (by decide +kernel) (fc (by decide +kernel) (fc (bK ha (k:=2) (by decide +kernel) h1) ai)))))
   |true=>exact bA (show ((Nat.testBit a 2&&(false||Nat.testBit d 2))&&true)=true from by rw[h1,h2];rfl) (iF w b c o 3202 (Int.ofNat 0) (by decide +kernel) (by decide +kernel) (fc (bK hd (k:=2) (by decide +kernel) h2) (fc (by decide +kernel) (fc (by decide +kernel) (fc (bK ha (k:=2) (by decide +kernel) h1) ai)))))
 ·exact bA (by rw[show (!(true&&Nat.ble 3072 3202))=false from rfl,Bool.and_false]) (da w b c o 3202 (Int.ofNat 0) (by decide +kernel) ai)
 ·cases h1:Nat.testBit a 2 with
  |false=>exact bA (show ((Nat.testBit a 2&&(true||Nat.testBit d 2))&&true)=false from by rw[h1];rfl) (cX w b c o 3202 (Int.ofNat 1) (by decide +kernel) (by decide +kernel) (fc (bK ha (k:=2) (by decide +kernel) h1) ai))
  |true=>exact bA (show ((Nat.testBit a 2&&(true||Nat.testBit d 2))&&true)=true from by rw[h1];rfl) (iH w b c o 3202 (Int.ofNat 1) (by decide +kernel) (by decide +kernel) (fc (by decide +kernel) (fc (bK ha (k:=2) (by decide +kernel) h1) ai)))
 ·exact bA (by rw[show (!(true&&Nat.ble 3072 3202))=false from rfl,Bool.and_false]) (da w b c o 3202 (Int.ofNat 1) (by decide +kernel) ai)
theorem mO{i:Nat}(hi:i∈E28):bM w b c o i (eA o i):=by
 revert i
 refine @ab _ _ _ _ ?_ ?_
 all_goals repeat' first|exact aa|refine ab ?_ ?_
 all_goals try first|exact zq w b c o _ (by decide)|exact yv w b c o _ (by decide) ai|exact yM w b c o _ (by decide) ai|exact yi w b c o _ (by decide) ai|exact y7 w b c o _ (by decide) ai|exact xW w b c o _ (by decide) 1075056896 (.inl ⟨rfl,rfl⟩) ai|exact qr w b c o _ (by decide) 0 (.inr (.inl ⟨rfl,rfl⟩)) ai|exact qr w b c o _ (by decide) 3 (.inr (.inr ⟨rfl,rfl⟩)) ai
theorem yu{i:Nat}(v:Nat)(hi:i∈E28)(h:Nat.ble 3072 i=false):aT w b c o i (Int.ofNat v) (wrL o i v):=by
 revert i
 refine @ab _ _ _ _ ?_ ?_
 all_goals repeat' first|exact aa|refine ab ?_ ?_
 all_goals intro h
 all_goals try first|exact absurd (show true=false from h) (fun z=>nomatch z)|exact wB w b c o _ (Int.ofNat v) (by decide) ai|exact wt w b c o _ (Int.ofNat v) (by decide) ai|exact wf w b c o _ (Int.ofNat v) (by decide) ai|exact we w b c o _ (Int.ofNat v) (by decide) ai|exact wz w b c o _ (Int.ofNat v) (by decide) ai|exact wA w b c o _ (Int.ofNat v) (by decide) ai|exact wu w b c o _ (Int.ofNat v) (by decide) ai|exact wC w b c o _ (Int.ofNat v) (by decide) ai|exact wg w b c o _ (Int.ofNat v) (by decide) ai|exact wx w b c o _ (Int.ofNat v) (by decide) ai|exact vB w b c o _ (Int.ofNat v) (by decide) ai|exact uf w b c o _ (Int.ofNat v) (by decide) ai|exact vM w b c o _ (Int.ofNat v) (by decide) ai|exact vO w b c o _ (Int.ofNat v) (by decide) ai|exact vi w b c o _ (Int.ofNat v) (by decide) ai|exact vG w b c o _ (Int.ofNat v) ai|exact vU w b c o _ (Int.ofNat v) ai|exact uV w b c o _ (Int.ofNat v) ai|exact vN w b c o _ (Int.ofNat v) ai|exact vP w b c o _ (Int.ofNat v) ai
end
structure InvA (s:BS) (o r:Nat→Int×Nat):Prop where
 pl:∀k∈plainL,(s.p k).1=(o k).1
 zl:∀k∈[770,771,384,2816,2818],(s.z k).1=(o k).1
 ha:(s.z 3860).1=3
 rg:∀k,k<32→(s.r k).1=(r k).1
 ob:∀k∈keptL,∃n:Nat,(o k).1=n∧n<2^32
 oc:∃n:Nat,(o 2816).1=n∧n<2^64
 od:∃n:Nat,(o 2818).1=n∧n<2^64
 rb:∀k,k<32→∃n:Nat,(r k).1=n∧n<2^32
theorem f4(v:Nat→Int)(i:Nat)(x:Int):aW v i x i=x:=if_pos rfl
theorem dk{v:Nat→Int}{i j:Nat}{x:Int}(h:j≠i):aW v i x j=v j:=if_neg h
theorem yD:∀k∈plainL,k∈keptL:=by decide
theorem ul:∀k∈plainL,k≠770∧k≠771∧k≠384∧k≠2816∧k≠2818∧k≠3860:=by decide
theorem Ix:∀k∈keptL,k≠2816∧k≠2818:=by decide
section
variable{s s1:BS}{o o1 r:Nat→Int×Nat}(I:InvA s o r)
include I
theorem th{i:Nat}{X X':Int}(hi:i∈plainL)(hX:X=X')(hn:∃n:Nat,X'=n∧n<2^32)(ez:∀k,(s1.z k).1=(s.z k).1)(ep:∀k,(s1.p k).1=aW (vp s) i X k)(er:∀k,(s1.r k).1=(s.r k).1)(eo:∀k,(o1 k).1=aW (vo o) i X' k):InvA s1 o1 r:=by
 subst hX
 have hno:=ul i hi
 refine⟨fun k hk=>?_,fun k hk=>?_,(ez _).trans I.ha,fun k hk=>(er k).trans (I.rg k hk),fun k hk=>?_,?_,?_,I.rb⟩
 ·rw[ep,eo]
  by_cases h:k=i
  ·subst h;rw[f4,f4]
  ·rw[dk h,dk h];exact I.pl k hk
 ·have h:k≠i:=by
   simp only[List.mem_cons,List.not_mem_nil,or_false]at hk
   rintro rfl
   obtain⟨h1,h2,h3,h4,h5,h6⟩:=hno
   rcases hk with e|e|e|e|e<;>contradiction
  rw[ez,eo,dk h];exact I.zl k hk
 ·rw[eo]
  by_cases h:k=i
  ·subst h;rw[f4];exact hn
  ·rw[dk h];exact I.ob k hk
 ·rw[eo,dk (Ne.symm hno.2.2.2.1)];exact I.oc
 ·rw[eo,dk (Ne.symm hno.2.2.2.2.1)];exact I.od
theorem lP{i:Nat}{X X':Int}(hi:i∈[770,771,384,2816,2818])(hX:X=X')(hn:∃n:Nat,X'=n∧n<2^(if i=2816∨i=2818 then 64 else 32))(ez:∀k,(s1.z k).1=aW (vz s) i X k)(ep:∀k,(s1.p k).1=(s.p k).1)(er:∀k,(s1.r k).1=(s.r k).1)(eo:∀k,(o1 k).1=aW (vo o) i X' k):InvA s1 o1 r:=by
 subst hX
 have hi':=hi
 simp only[List.mem_cons,List.not_mem_nil,or_false]at hi'
 refine⟨fun k hk=>?_,fun k hk=>?_,?_,fun k hk=>(er k).trans (I.rg k hk),fun k hk=>?_,?_,?_,I.rb⟩
 ·have hno:=ul k hk
  have h:k≠i:=by
   rintro rfl
   obtain⟨h1,h2,h3,h4,h5,h6⟩:=hno
   rcases hi' with e|e|e|e|e<;>contradiction
  rw[ep,eo,dk h];exact I.pl k hk
 ·rw[ez,eo]
  by_cases h:k=i
  ·subst h;rw[f4,f4]
  ·rw[dk h,dk h];exact I.zl k hk
 ·rw[ez,dk (by rintro rfl;rcases hi' with e|e|e|e|e<;>cases e)];exact I.ha
 ·rw[eo]
  by_cases h:k=i
  ·subst h
   rw[f4]
   have:=Ix k hk
   rw[if_neg (by rintro(e|e);exact this.1 e;exact this.2 e)]at hn
   exact hn
  ·rw[dk h];exact I.ob k hk
 ·rw[eo]
  by_cases h:2816=i
  ·subst h;rw[f4];rw[if_pos (.inl rfl)]at hn;exact hn
  ·rw[dk h];exact I.oc
 ·rw[eo]
  by_cases h:2818=i
  ·subst h;rw[f4];rw[if_pos (.inr rfl)]at hn;exact hn
  ·rw[dk h];exact I.od
theorem jd(ez:∀k,(s1.z k).1=(s.z k).1)(ep:∀k,(s1.p k).1=(s.p k).1)(er:∀k,(s1.r k).1=(s.r k).1)(eo:∀k,(o1 k).1=(o k).1):InvA s1 o1 r:=
 ⟨fun k hk=>by rw[ep,eo];exact I.pl k hk,fun k hk=>by rw[ez,eo];exact I.zl k hk,(ez _).trans I.ha,fun k hk=>(er k).trans (I.rg k hk),fun k hk=>by rw[eo];exact I.ob k hk,by rw[eo];exact I.oc,by rw[eo];exact I.od,I.rb⟩
theorem fb{r1:Nat→Int×Nat}{i:Nat}{X:Int}(hn:∃n:Nat,X=n∧n<2^32)(ez:∀k,(s1.z k).1=(s.z k).1)(ep:∀k,(s1.p k).1=(s.p k).1)(er:∀k,(s1.r k).1=aW (vr s) i X k)(eo:∀k,(r1 k).1=aW (vo r) i X k):InvA s1 o r1:=by
 refine⟨fun k hk=>by rw[ep];exact I.pl k hk,fun k hk=>by rw[ez];exact I.zl k hk,(ez _).trans I.ha,fun k hk=>?_,I.ob,I.oc,I.od,fun k hk=>?_⟩
 ·rw[er,eo]
  by_cases h:k=i
  ·subst h;rw[f4,f4]
  ·rw[dk h,dk h];exact I.rg k hk
 ·rw[eo]
  by_cases h:k=i
  ·subst h;rw[f4];exact hn
  ·rw[dk h];exact I.rb k hk
end
theorem kO{v m:Nat}(hv:v<2^32):Builtin.bitAnd (Builtin.bitAnd (Int.ofNat v) 4294967295) (Int.ofNat m)=Builtin.bitAnd (Int.ofNat v) (Int.ofNat m):=by
 rw[jJ,Nat.mod_eq_of_lt hv]
theorem nx{v:Nat}(hv:v<2^32):Builtin.bitAnd (Int.ofNat v) 4294967295=Int.ofNat v:=by rw[jJ,Nat.mod_eq_of_lt hv]
theorem fT(v m:Nat)(hm:m<2^32):∃n:Nat,Builtin.bitAnd (Int.ofNat v) (Int.ofNat m)=n∧n<2^32:=
 ⟨v &&& m,iE v m,Nat.and_lt_two_pow v hm⟩
theorem wZ{z:Int}{x:Nat}(hz:z=x)(hx:x<2^64)(v:Nat)(hv:v<2^32):Builtin.bitOr (be (ay z 32) 32) (Builtin.bitAnd (Int.ofNat v) 4294967295)=Int.ofNat v+aw 4294967296 (aP z 4294967296)∧∃n:Nat,Int.ofNat v+aw 4294967296 (aP z 4294967296)=n∧n<2^64:=by
 subst hz
 have e1:ay (x:Int) 32=((x/2^32:Nat):Int):=gY x 32
 have e2:be ((x/2^32:Nat):Int) 32=((x/2^32*2^32:Nat):Int):=g7 _ 32
 have e3:aP (x:Int) 4294967296=((x/4294967296:Nat):Int):=nq x 4294967296
 have e4:aw 4294967296 ((x/4294967296:Nat):Int)=((4294967296*(x/4294967296):Nat):Int):=kT 4294967296 _
 rw[e1,e2,nx hv,e3,e4,show Int.ofNat v=((v:Nat):Int) from rfl,eE,Nat.or_comm,pU 32 _ v hv]
 refine⟨?_,v+4294967296*(x/4294967296),(Int.natCast_add v (4294967296*(x/4294967296))).symm,by omega⟩
 rw[←Int.natCast_add];congr 1;omega
theorem wN{z:Int}{x:Nat}(hz:z=x)(hx:x<2^64)(v:Nat)(hv:v<2^32):Builtin.bitOr (be (Builtin.bitAnd (Int.ofNat v) 4294967295) 32) (Builtin.bitAnd z 4294967295)=ak z 4294967296+aw 4294967296 (Int.ofNat v)∧∃n:Nat,ak z 4294967296+aw 4294967296 (Int.ofNat v)=n∧n<2^64:=by
 subst hz
 have e1:Builtin.bitAnd (x:Int) 4294967295=Int.ofNat (x%4294967296):=jJ x
 have e2:be (Int.ofNat v) 32=((v*2^32:Nat):Int):=g7 v 32
 have e3:ak (x:Int) 4294967296=((x%4294967296:Nat):Int):=gP x 4294967296
 have e4:aw 4294967296 (Int.ofNat v)=((4294967296*v:Nat):Int):=kT 4294967296 v
 rw[nx hv,e1,e2,e3,e4,show Int.ofNat (x%4294967296)=((x%4294967296:Nat):Int) from rfl,eE,Nat.or_comm,pU 32 v (x%4294967296) (Nat.mod_lt _ (by decide))]
 refine⟨?_,x%4294967296+4294967296*v,(Int.natCast_add (x%4294967296) (4294967296*v)).symm,by omega⟩
 rw[←Int.natCast_add];congr 1;omega
theorem vq{z:Int}{x:Nat}(hz:z=x)(hx:x<2^64):Builtin.bitAnd z 4294967295=ak z 4294967296∧Builtin.bitAnd (ay z 32) 4294967295=aP z 4294967296∧(∃n:Nat,ak z 4294967296=n∧n<2^32)∧∃n:Nat,aP z 4294967296=n∧n<2^32:=by
 subst hz
 have e1:Builtin.bitAnd (x:Int) 4294967295=Int.ofNat (x%4294967296):=jJ x
 have e2:ay (x:Int) 32=((x/2^32:Nat):Int):=gY x 32
 have e3:ak (x:Int) 4294967296=((x%4294967296:Nat):Int):=gP x 4294967296
 have e4:aP (x:Int) 4294967296=((x/4294967296:Nat):Int):=nq x 4294967296
 refine⟨e1.trans e3.symm,?_,⟨_,e3,Nat.mod_lt _ (by decide)⟩,⟨_,e4,by omega⟩⟩
 rw[e2,show ((x/2^32:Nat):Int)=Int.ofNat (x/2^32) from rfl,nx (by omega),e4];rfl
section
variable{s s1:BS}{o o1 r:Nat→Int×Nat}(I:InvA s o r)
include I
theorem xp{i:Nat}(hi:i∈E28):dQ s i=eA o i∧∃n:Nat,eA o i=n∧n<2^32:=by
 obtain⟨x,hx,hx'⟩:=I.oc
 obtain⟨y,hy,hy'⟩:=I.od
 have kx:(s.z 2816).1=(o 2816).1:=I.zl 2816 (by simp)
 have ky:(s.z 2818).1=(o 2818).1:=I.zl 2818 (by simp)
 obtain⟨a1,a2,a3,a4⟩:=vq hx hx'
 obtain⟨b1,b2,b3,b4⟩:=vq hy hy'
 have L0:Builtin.bitAnd (s.z 2816).1 4294967295=ak (o 2816).1 4294967296∧∃n:Nat,ak (o 2816).1 4294967296=n∧n<2^32:=⟨by rw[kx];exact a1,a3⟩
 have L2:Builtin.bitAnd (s.z 2818).1 4294967295=ak (o 2818).1 4294967296∧∃n:Nat,ak (o 2818).1 4294967296=n∧n<2^32:=⟨by rw[ky];exact b1,b3⟩
 have H0:Builtin.bitAnd (ay (s.z 2816).1 32) 4294967295=aP (o 2816).1 4294967296∧∃n:Nat,aP (o 2816).1 4294967296=n∧n<2^32:=⟨by rw[kx];exact a2,a4⟩
 have H2:Builtin.bitAnd (ay (s.z 2818).1 32) 4294967295=aP (o 2818).1 4294967296∧∃n:Nat,aP (o 2818).1 4294967296=n∧n<2^32:=⟨by rw[ky];exact b2,b4⟩
 have P:∀k∈plainL,(s.p k).1=(o k).1∧∃n:Nat,(o k).1=n∧n<2^32:=fun k hk=>⟨I.pl k hk,I.ob k (yD k hk)⟩
 have Z:∀k∈[770,771,384],(s.z k).1=(o k).1∧∃n:Nat,(o k).1=n∧n<2^32:=fun k hk=>⟨I.zl k (by simp only[List.mem_cons,List.not_mem_nil,or_false]at hk ⊢;omega),I.ob k (by revert hk;revert k;decide)⟩
 simp only[E28,List.mem_cons,List.not_mem_nil,or_false]at hi
 rcases hi with rfl|rfl|rfl|rfl|rfl|rfl|rfl|rfl|rfl|rfl|rfl|rfl|rfl|rfl|rfl|rfl|rfl|rfl|rfl|rfl|rfl|rfl|rfl|rfl|rfl|rfl|rfl|rfl
 iterate 10 exact P _ (by decide)
 iterate 3 exact Z _ (by decide)
 iterate 2 exact P _ (by decide)
 ·exact L0
 ·exact L2
 ·exact H0
 ·exact H2
 ·exact L0
 ·exact L0
 ·exact L2
 ·exact H0
 ·exact H0
 ·exact H2
 ·exact⟨rfl,1075056896,rfl,by decide⟩
 ·exact⟨rfl,0,rfl,by decide⟩
 ·exact⟨I.ha,3,rfl,by decide⟩
theorem cW{i v:Nat}(hi:i∈E28)(h3:Nat.ble 3072 i=false)(hv:v<2^32)(ez:∀k,(s1.z k).1=jV s i v k)(ep:∀k,(s1.p k).1=jK s i v k)(er:∀k,(s1.r k).1=(s.r k).1)(eo:∀k,(o1 k).1=wrL o i v k):InvA s1 o1 r:=by
 obtain⟨x,hx,hx'⟩:=I.oc
 obtain⟨y,hy,hy'⟩:=I.od
 have kx:(s.z 2816).1=(o 2816).1:=I.zl 2816 (by simp)
 have ky:(s.z 2818).1=(o 2818).1:=I.zl 2818 (by simp)
 obtain⟨a1,a2⟩:=wZ hx hx' v hv
 obtain⟨a3,a4⟩:=wN hx hx' v hv
 obtain⟨b1,b2⟩:=wZ hy hy' v hv
 obtain⟨b3,b4⟩:=wN hy hy' v hv
 have a1:=(congrArg (fun z=>Builtin.bitOr (be (ay z 32) 32) (Builtin.bitAnd (Int.ofNat v) 4294967295)) kx).trans a1
 have b1:=(congrArg (fun z=>Builtin.bitOr (be (ay z 32) 32) (Builtin.bitAnd (Int.ofNat v) 4294967295)) ky).trans b1
 have a3:=(congrArg (fun z=>Builtin.bitOr (be (Builtin.bitAnd (Int.ofNat v) 4294967295) 32) (Builtin.bitAnd z 4294967295)) kx).trans a3
 have b3:=(congrArg (fun z=>Builtin.bitOr (be (Builtin.bitAnd (Int.ofNat v) 4294967295) 32) (Builtin.bitAnd z 4294967295)) ky).trans b3
 have M0:∃n:Nat,Builtin.bitAnd (Int.ofNat v) 4294967295=n∧n<2^32:=fT v 4294967295 (by decide)
 simp only[E28,List.mem_cons,List.not_mem_nil,or_false]at hi
 rcases hi with rfl|rfl|rfl|rfl|rfl|rfl|rfl|rfl|rfl|rfl|rfl|rfl|rfl|rfl|rfl|rfl|rfl|rfl|rfl|rfl|rfl|rfl|rfl|rfl|rfl|rfl|rfl|rfl
 iterate 6 exact th I (by decide) rfl M0 ez ep er eo
 iterate 2 exact th I (by decide) (kO hv) (fT v 4294967292 (by decide)) ez ep er eo
 iterate 2 exact th I (by decide) (kO hv) (fT v 4294967293 (by decide)) ez ep er eo
 ·exact lP I (i:=770) (by decide) (kO hv) (fT v 46079 (by decide)) ez ep er eo
 ·exact lP I (i:=771) (by decide) (kO hv) (fT v 546 (by decide)) ez ep er eo
 ·exact lP I (i:=384) (by decide) (kO hv) (fT v 2151677951 (by decide)) ez ep er eo
 iterate 2 exact th I (by decide) (kO hv) (fT v 7 (by decide)) ez ep er eo
 ·exact lP I (i:=2816) (by decide) a1 a2 ez ep er eo
 ·exact lP I (i:=2818) (by decide) b1 b2 ez ep er eo
 ·exact lP I (i:=2816) (by decide) a3 a4 ez ep er eo
 ·exact lP I (i:=2818) (by decide) b3 b4 ez ep er eo
 iterate 6 exact absurd (show true=false from h3) (fun z=>nomatch z)
 ·exact jd I ez ep er eo
 iterate 2 exact absurd (show true=false from h3) (fun z=>nomatch z)
end
def jO(j by_:Nat):Bool:=Nat.beq (j%3) 0||!(Nat.beq by_ 0)
theorem m9{tw:Bool}{i:Nat}(h:tw=true)(hT:(!(tw&&Nat.ble 3072 i))=true):Nat.ble 3072 i=false:=by subst h;simpa using hT
theorem ew{j n:Nat}(h:n≠0):jO j n=true:=by
 unfold jO
 have:Nat.beq n 0=false:=by cases e:Nat.beq n 0 with|false=>rfl|true=>exact absurd (Nat.eq_of_beq_eq_true e) h
 rw[this];simp
theorem aU{n:Nat}(h:n=0):(bne (Int.ofNat n) 0)=false:=by subst h;rfl
theorem kg{n:Nat}(h:n=0):(BEq.beq (Int.ofNat n) 0)=true:=by subst h;rfl
theorem aq{n:Nat}(h:n≠0):(bne (Int.ofNat n) 0)=true:=by
 rw[bne_iff_ne];intro e;exact h (Int.ofNat.inj e)
theorem i2{n:Nat}(h:n≠0):(BEq.beq (Int.ofNat n) 0)=false:=by
 cases e:(BEq.beq (Int.ofNat n) 0) with
 |false=>rfl
 |true=>exact absurd (Int.ofNat.inj (eq_of_beq e)) h
theorem I4(s:Nat)(h:s<2^32):4294967295 ||| s=4294967295:=by
 apply Nat.eq_of_testBit_eq
 intro i
 rw[Nat.testBit_or,show (4294967295:Nat)=2^32-1 from rfl,Nat.testBit_two_pow_sub_one]
 by_cases hi:i<32
 ·rw[decide_eq_true hi];rfl
 ·rw[decide_eq_false hi,Nat.testBit_lt_two_pow (Nat.lt_of_lt_of_le h (Nat.pow_le_pow_right (by decide) (by omega)))];rfl
theorem Dy{z:Int}{s:Nat}(hz:z=(s:Int))(h:s<2^32):Builtin.bitXor 4294967295 z=4294967295-(s:Int):=by
 subst hz
 unfold Builtin.bitXor
 rw[show (4294967295:Int)=((4294967295:Nat):Int) from rfl,eE,iE,I4 s h,Nat.and_comm,show (4294967295:Nat)=2^32-1 from rfl,nS,Nat.mod_eq_of_lt h]
def bt(j o0 s0:Nat):Nat:=bS j s0 (o0 ||| s0) (o0 &&& (4294967295-s0))
theorem lW{z:Int}{o0 s0:Nat}(hz:z=(s0:Int)):Builtin.bitOr (Int.ofNat o0) z=Int.ofNat (o0 ||| s0):=by subst hz;exact eE o0 s0
theorem tP{s0:Nat}(h:s0<2^32):(4294967295:Int)-(s0:Int)=((4294967295-s0:Nat):Int):=by omega
theorem mr{z:Int}{o0 s0:Nat}(hz:z=(s0:Int))(h:s0<2^32):Builtin.bitAnd (Int.ofNat o0) (Builtin.bitXor 4294967295 z)=Int.ofNat (o0 &&& (4294967295-s0)):=by
 rw[Dy hz h,tP h];exact iE o0 _
theorem eW{j o0 s0:Nat}{z:Int}(hj:j<6)(hz:z=(s0:Int))(h:s0<2^32):bS j z (Builtin.bitOr (Int.ofNat o0) z) (Builtin.bitAnd (Int.ofNat o0) (4294967295-z))=Int.ofNat (bt j o0 s0):=by
 have e:Builtin.bitAnd (Int.ofNat o0) (4294967295-z)=Int.ofNat (o0 &&& (4294967295-s0)):=by rw[hz,tP h];exact iE o0 _
 rw[lW hz,e,hz]
 revert j
 exact fun {j} hj=>ke (P:=fun j=>bS j (s0:Int) (Int.ofNat (o0 ||| s0)) (Int.ofNat (o0 &&& (4294967295-s0)))=Int.ofNat (bt j o0 s0)) rfl rfl rfl rfl rfl rfl j hj
theorem gG{j o0 s0:Nat}(hj:j<6)(ho:o0<2^32)(hs:s0<2^32):bt j o0 s0<2^32:=by
 have h1:o0 ||| s0<2^32:=Nat.or_lt_two_pow ho hs
 have h2:o0 &&& (4294967295-s0)<2^32:=Nat.lt_of_le_of_lt Nat.and_le_left ho
 exact ke (P:=fun j=>bt j o0 s0<2^32) hs h1 h2 hs h1 h2 j hj
theorem w5{i m a d:Nat}(hi:i∈E33)(h:cQ i m a d=true):i∈E28:=by
 have key:∀i∈E33,i∈E28∨strL.any (Nat.beq i)=true:=by decide
 rcases key i hi with h'|h'
 ·exact h'
 ·unfold cQ at h;rw[h']at h;cases h
section
variable{w:World}{b c:Bool}{A:AS}{s:BS}{o r:Nat→Int×Nat}{i:Nat}{m m' v v':Int}{fz fp f:Nat→Int}
theorem rOk(hm:m=m')(hv:v=v')(H:bw w b c A s i m' v'):bw w b c A s i m v:=by subst hm hv;exact H
theorem wOk(hm:m=m')(hv:v=v')(H:bz w b c A s i m' v' fz fp):bz w b c A s i m v fz fp:=by subst hm hv;exact H
theorem rRk(hm:m=m')(H:eP w b c A s i m'):eP w b c A s i m:=by subst hm;exact H
theorem wRk(hm:m=m')(H:cL w b c A s i m' v):cL w b c A s i m v:=by subst hm;exact H
theorem lrOk(hv:v=v')(H:bM w b c o i v'):bM w b c o i v:=by subst hv;exact H
theorem lwOk(hv:v=v')(H:aT w b c o i v' f):aT w b c o i v f:=by subst hv;exact H
end
section
variable{s s1:BS}{o o1 r r1:Nat→Int×Nat}
theorem InvA.o774(I:InvA s o r):(o 774).1=((o 774).1.toNat:Nat):=by
 obtain⟨n,h,_⟩:=I.ob 774 (by decide)
 rw[h];rfl
theorem InvA.o262(I:InvA s o r):(o 262).1=((o 262).1.toNat:Nat):=by
 obtain⟨n,h,_⟩:=I.ob 262 (by decide)
 rw[h];rfl
theorem InvA.nats(I:InvA s o r):(s.p 774).1=((o 774).1.toNat:Nat)∧(s.p 262).1=((o 262).1.toNat:Nat)∧∃x y:Nat,(s.z 2816).1=x∧(s.z 2818).1=y∧x<2^64∧y<2^64:=by
 obtain⟨x,hx,hx'⟩:=I.oc
 obtain⟨y,hy,hy'⟩:=I.od
 exact⟨(I.pl 774 (by decide)).trans I.o774,(I.pl 262 (by decide)).trans I.o262,x,y,(I.zl 2816 (by simp)).trans hx,(I.zl 2818 (by simp)).trans hy,hx',hy'⟩
theorem InvA.reg0(I:InvA s o r)(ex:∀k,(r1 k).1=vo r k):InvA s o r1:=
 ⟨I.pl,I.zl,I.ha,fun k hk=>(I.rg k hk).trans (ex k).symm,I.ob,I.oc,I.od,fun k hk=>by rw[ex k];exact I.rb k hk⟩
end
inductive step_yesX (w:World) (b:Bool) (c:Bool) (A:AS) (s:BS) (o:Nat→Int×Nat) (r:Nat→Int×Nat) (j:Nat) (rd:Nat) (by_:Nat) (at_:Nat) (m:Nat):Prop where
 |mk (fz fp fr fo fx:Nat→Int) (h0_:(∀(es:Array DictEntry) (em:Nat) (pc:Int×Nat) (mt:Nat),bD w b c A ⟨s.z,s.p,s.r,pc,(Int.ofNat m,mt),s.sp,es,em⟩ (an j) (Int.ofNat rd) (Int.ofNat (rsOf j by_)) (imOf j by_) (Int.ofNat at_) fz fp fr)) (h1_:fK w b c o r j rd by_ at_ (Int.ofNat m) fo fx) (h2_:∀(s1:BS) (o1 r1:Nat→Int×Nat),(∀k,(s1.z k).1=fz k)→(∀k,(s1.p k).1=fp k)→(∀k,(s1.r k).1=fr k)→(∀k,(o1 k).1=fo k)→(∀k,(r1 k).1=fx k)→InvA s1 o1 r1):step_yesX w b c A s o r j rd by_ at_ m
section
variable{w:World}{b c:Bool}{A:AS}{s:BS}{o r:Nat→Int×Nat}(I:InvA s o r){j rd by_ at_ m:Nat}(hj:j<6)(hr:rd<32)(hb:by_<32)(hi:at_∈E33)(hm:m=0∨m=1∨m=3)
include I hj hr hb hi hm
theorem Dw(h:(cQ at_ m (o 774).1.toNat (o 262).1.toNat&&!(jO j by_&&Nat.ble 3072 at_))=true):step_yesX w b c A s o r j rd by_ at_ m:=by
 obtain⟨a1,d1,x,y,hx,hy,hx64,hy64⟩:=I.nats
 obtain⟨hN,hT⟩:=Bool.and_eq_true_iff.mp h
 have h28:=w5 hi hN
 obtain⟨eR,old,eO,hO⟩:=xp I h28
 obtain⟨s0,eS,hS⟩:=I.rb by_ hb
 have eSs:(s.r by_).1=(s0:Int):=(I.rg by_ hb).trans eS
 have RD:∀(es:Array DictEntry) (em:Nat) (pc:Int×Nat) (mt:Nat),bw w b c A ⟨s.z,s.p,s.r,pc,(Int.ofNat m,mt),s.sp,es,em⟩ at_ (Int.ofNat m) (Int.ofNat old):=fun es em pc mt=>rOk rfl (eR.trans eO).symm (uA w b c A ⟨s.z,s.p,s.r,pc,(Int.ofNat m,mt),s.sp,es,em⟩ _ _ a1 d1 h28 hm hN)
 have LR:bM w b c o at_ (Int.ofNat old):=lrOk eO.symm (mO w b c o h28)
 have LT:∀tw,(!(tw&&Nat.ble 3072 at_))=true→bu w b c o at_ (Int.ofNat m) tw true:=fun tw h=>bA (by rw[hN,h];rfl) (xe w b c o _ _ (I.o774) (I.o262) hi hm tw)
 have WR:∀(v:Nat) (es:Array DictEntry) (em:Nat) (pc:Int×Nat) (mt:Nat) (z:Int),z=Int.ofNat v→Nat.ble 3072 at_=false→bz w b c A ⟨s.z,s.p,s.r,pc,(Int.ofNat m,mt),s.sp,es,em⟩ at_ (Int.ofNat m) z (jV s at_ v) (jK s at_ v):=fun v es em pc mt z hz h3=>
  wOk rfl hz (BY w b c A ⟨s.z,s.p,s.r,pc,(Int.ofNat m,mt),s.sp,es,em⟩ _ _ v x y hx hy hx64 hy64 hi hm (by rw[hN,h3];rfl))
 have LW:∀(v:Nat) (z:Int),z=Int.ofNat v→Nat.ble 3072 at_=false→aT w b c o at_ z (wrL o at_ v):=fun v z hz h3=>lwOk hz (yu w b c o v h28 h3)
 have OO:∃n:Nat,(Int.ofNat old)=n∧n<2^32:=⟨old,rfl,hO⟩
 have six:j=0∨j=1∨j=2∨j=3∨j=4∨j=5:=by omega
 rcases six with rfl|rfl|rfl|rfl|rfl|rfl
 ·have h3:Nat.ble 3072 at_=false:=m9 (tw:=jO 0 by_) rfl hT
  by_cases hz:rd=0
  ·subst hz
   refine⟨jV s at_ (bt 0 old s0),jK s at_ (bt 0 old s0),vr s,_,_,fun es em pc mt=>?_,D5 w b c o r 0 (by decide) 0 by_ at_ (Int.ofNat m) hb rfl rfl (LT true (by rw[h3];rfl)) (Int.ofNat old) LR _ (LW (bt 0 old s0) _ (eW (j:=0) (by decide) eS hS) h3) (fc (aU rfl) aa),fun s1 o1 r1 ez ep er eo ex=>?_⟩
   ·cases ht:bk [256,384,768] (Int.ofNat at_) with
    |false=>exact Eb w b c A _ 0 (by decide) 0 by_ at_ (by decide) hb rfl rfl _ _ (WR (bt 0 old s0) es em pc mt _ eSs h3) ht (fc (aU rfl) (fc (kg rfl) aa))
    |true=>exact D9 w b c A _ 0 (by decide) 0 by_ at_ (by decide) hb rfl rfl _ _ (WR (bt 0 old s0) es em pc mt _ eSs h3) ht (fc (aU rfl) (fc (kg rfl) aa))
   ·exact InvA.reg0 (cW I h28 h3 (gG (j:=0) (by decide) hO hS) ez ep er eo) ex
  ·
   refine⟨jV s at_ (bt 0 old s0),jK s at_ (bt 0 old s0),aW (vr s) rd (Int.ofNat old),_,_,fun es em pc mt=>?_,EX w b c o r 0 (by decide) rd by_ at_ (Int.ofNat m) hb hr rfl rfl (LT true (by rw[h3];rfl)) (Int.ofNat old) LR _ (LW (bt 0 old s0) _ (eW (j:=0) (by decide) eS hS) h3) (fc (aq hz) aa),fun s1 o1 r1 ez ep er eo ex=>?_⟩
   ·cases ht:bk [256,384,768] (Int.ofNat at_) with
    |false=>exact Dp w b c A _ 0 (by decide) rd by_ at_ hr hb rfl rfl (Int.ofNat old) (RD es em pc mt) _ _ (WR (bt 0 old s0) es em pc mt _ eSs h3) ht (fc (aq hz) (fc (i2 hz) aa))
    |true=>exact D7 w b c A _ 0 (by decide) rd by_ at_ hr hb rfl rfl (Int.ofNat old) (RD es em pc mt) _ _ (WR (bt 0 old s0) es em pc mt _ eSs h3) ht (fc (aq hz) (fc (i2 hz) aa))
   ·exact fb (s:=⟨s1.z,s1.p,s.r,s1.pc,s1.md,s1.sp,s1.es,s1.em⟩) (cW I h28 h3 (gG (j:=0) (by decide) hO hS) (s1:=⟨s1.z,s1.p,s.r,s1.pc,s1.md,s1.sp,s1.es,s1.em⟩) ez ep (fun _=>rfl) eo) OO (fun _=>rfl) (fun _=>rfl) er ex
 ·by_cases hy0:by_=0
  ·subst hy0
   by_cases hz:rd=0
   ·subst hz
    refine⟨vz s,vp s,vr s,_,_,fun es em pc mt=>t5 w b c A _ 1 (by decide) 0 0 at_ (by decide) (by decide) rfl rfl (Int.ofNat old) (RD es em pc mt) (fc (aU rfl) (fc (aU rfl) aa)),vE w b c o r 1 (by decide) 0 0 at_ (Int.ofNat m) (by decide) rfl rfl (LT false rfl) (Int.ofNat old) LR (fc (aU rfl) (fc (aU rfl) aa)),fun s1 o1 r1 ez ep er eo ex=>?_⟩
    exact InvA.reg0 (jd I ez ep er eo) ex
   ·
    refine⟨vz s,vp s,aW (vr s) rd (Int.ofNat old),_,_,fun es em pc mt=>uW w b c A _ 1 (by decide) rd 0 at_ hr (by decide) rfl rfl (Int.ofNat old) (RD es em pc mt) (fc (aq hz) (fc (aU rfl) aa)),un w b c o r 1 (by decide) rd 0 at_ (Int.ofNat m) (by decide) hr rfl rfl (LT false rfl) (Int.ofNat old) LR (fc (aq hz) (fc (aU rfl) aa)),fun s1 o1 r1 ez ep er eo ex=>?_⟩
    exact fb (s:=⟨s1.z,s1.p,s.r,s1.pc,s1.md,s1.sp,s1.es,s1.em⟩) (jd I (s1:=⟨s1.z,s1.p,s.r,s1.pc,s1.md,s1.sp,s1.es,s1.em⟩) ez ep (fun _=>rfl) eo) OO (fun _=>rfl) (fun _=>rfl) er ex
  ·have h3:Nat.ble 3072 at_=false:=m9 (tw:=jO 1 by_) (ew hy0) hT
   by_cases hz:rd=0
   ·subst hz
    refine⟨jV s at_ (bt 1 old s0),jK s at_ (bt 1 old s0),vr s,_,_,fun es em pc mt=>?_,uG w b c o r 1 (by decide) 0 by_ at_ (Int.ofNat m) hb rfl rfl (LT true (by rw[h3];rfl)) (Int.ofNat old) LR _ (LW (bt 1 old s0) _ (eW (j:=1) (by decide) eS hS) h3) (fc (aU rfl) (fc (aq hy0) aa)),fun s1 o1 r1 ez ep er eo ex=>?_⟩
    ·cases ht:bk [256,384,768] (Int.ofNat at_) with
     |false=>exact DI w b c A _ 1 (by decide) 0 by_ at_ (by decide) hb rfl rfl (Int.ofNat old) (RD es em pc mt) rfl _ _ (WR (bt 1 old s0) es em pc mt _ (lW eSs) h3) ht (fc (aU rfl) (fc (aq hy0) aa))
     |true=>exact CX w b c A _ 1 (by decide) 0 by_ at_ (by decide) hb rfl rfl (Int.ofNat old) (RD es em pc mt) rfl _ _ (WR (bt 1 old s0) es em pc mt _ (lW eSs) h3) ht (fc (aU rfl) (fc (aq hy0) aa))
    ·exact InvA.reg0 (cW I h28 h3 (gG (j:=1) (by decide) hO hS) ez ep er eo) ex
   ·
    refine⟨jV s at_ (bt 1 old s0),jK s at_ (bt 1 old s0),aW (vr s) rd (Int.ofNat old),_,_,fun es em pc mt=>?_,ud w b c o r 1 (by decide) rd by_ at_ (Int.ofNat m) hb hr rfl rfl (LT true (by rw[h3];rfl)) (Int.ofNat old) LR _ (LW (bt 1 old s0) _ (eW (j:=1) (by decide) eS hS) h3) (fc (aq hz) (fc (aq hy0) aa)),fun s1 o1 r1 ez ep er eo ex=>?_⟩
    ·cases ht:bk [256,384,768] (Int.ofNat at_) with
     |false=>exact CO w b c A _ 1 (by decide) rd by_ at_ hr hb rfl rfl (Int.ofNat old) (RD es em pc mt) rfl _ _ (WR (bt 1 old s0) es em pc mt _ (lW eSs) h3) ht (fc (aq hz) (fc (aq hy0) aa))
     |true=>exact EO w b c A _ 1 (by decide) rd by_ at_ hr hb rfl rfl (Int.ofNat old) (RD es em pc mt) rfl _ _ (WR (bt 1 old s0) es em pc mt _ (lW eSs) h3) ht (fc (aq hz) (fc (aq hy0) aa))
    ·exact fb (s:=⟨s1.z,s1.p,s.r,s1.pc,s1.md,s1.sp,s1.es,s1.em⟩) (cW I h28 h3 (gG (j:=1) (by decide) hO hS) (s1:=⟨s1.z,s1.p,s.r,s1.pc,s1.md,s1.sp,s1.es,s1.em⟩) ez ep (fun _=>rfl) eo) OO (fun _=>rfl) (fun _=>rfl) er ex
 ·by_cases hy0:by_=0
  ·subst hy0
   by_cases hz:rd=0
   ·subst hz
    refine⟨vz s,vp s,vr s,_,_,fun es em pc mt=>t5 w b c A _ 2 (by decide) 0 0 at_ (by decide) (by decide) rfl rfl (Int.ofNat old) (RD es em pc mt) (fc (aU rfl) (fc (aU rfl) aa)),vE w b c o r 2 (by decide) 0 0 at_ (Int.ofNat m) (by decide) rfl rfl (LT false rfl) (Int.ofNat old) LR (fc (aU rfl) (fc (aU rfl) aa)),fun s1 o1 r1 ez ep er eo ex=>?_⟩
    exact InvA.reg0 (jd I ez ep er eo) ex
   ·
    refine⟨vz s,vp s,aW (vr s) rd (Int.ofNat old),_,_,fun es em pc mt=>uW w b c A _ 2 (by decide) rd 0 at_ hr (by decide) rfl rfl (Int.ofNat old) (RD es em pc mt) (fc (aq hz) (fc (aU rfl) aa)),un w b c o r 2 (by decide) rd 0 at_ (Int.ofNat m) (by decide) hr rfl rfl (LT false rfl) (Int.ofNat old) LR (fc (aq hz) (fc (aU rfl) aa)),fun s1 o1 r1 ez ep er eo ex=>?_⟩
    exact fb (s:=⟨s1.z,s1.p,s.r,s1.pc,s1.md,s1.sp,s1.es,s1.em⟩) (jd I (s1:=⟨s1.z,s1.p,s.r,s1.pc,s1.md,s1.sp,s1.es,s1.em⟩) ez ep (fun _=>rfl) eo) OO (fun _=>rfl) (fun _=>rfl) er ex
  ·have h3:Nat.ble 3072 at_=false:=m9 (tw:=jO 2 by_) (ew hy0) hT
   by_cases hz:rd=0
   ·subst hz
    refine⟨jV s at_ (bt 2 old s0),jK s at_ (bt 2 old s0),vr s,_,_,fun es em pc mt=>?_,uG w b c o r 2 (by decide) 0 by_ at_ (Int.ofNat m) hb rfl rfl (LT true (by rw[h3];rfl)) (Int.ofNat old) LR _ (LW (bt 2 old s0) _ (eW (j:=2) (by decide) eS hS) h3) (fc (aU rfl) (fc (aq hy0) aa)),fun s1 o1 r1 ez ep er eo ex=>?_⟩
    ·cases ht:bk [256,384,768] (Int.ofNat at_) with
     |false=>exact AT w b c A _ 2 (by decide) 0 by_ at_ (by decide) hb rfl rfl (Int.ofNat old) (RD es em pc mt) rfl _ _ (WR (bt 2 old s0) es em pc mt _ (mr eSs hS) h3) ht (fc (aU rfl) (fc (aq hy0) aa))
     |true=>exact Ay w b c A _ 2 (by decide) 0 by_ at_ (by decide) hb rfl rfl (Int.ofNat old) (RD es em pc mt) rfl _ _ (WR (bt 2 old s0) es em pc mt _ (mr eSs hS) h3) ht (fc (aU rfl) (fc (aq hy0) aa))
    ·exact InvA.reg0 (cW I h28 h3 (gG (j:=2) (by decide) hO hS) ez ep er eo) ex
   ·
    refine⟨jV s at_ (bt 2 old s0),jK s at_ (bt 2 old s0),aW (vr s) rd (Int.ofNat old),_,_,fun es em pc mt=>?_,ud w b c o r 2 (by decide) rd by_ at_ (Int.ofNat m) hb hr rfl rfl (LT true (by rw[h3];rfl)) (Int.ofNat old) LR _ (LW (bt 2 old s0) _ (eW (j:=2) (by decide) eS hS) h3) (fc (aq hz) (fc (aq hy0) aa)),fun s1 o1 r1 ez ep er eo ex=>?_⟩
    ·cases ht:bk [256,384,768] (Int.ofNat at_) with
     |false=>exact At w b c A _ 2 (by decide) rd by_ at_ hr hb rfl rfl (Int.ofNat old) (RD es em pc mt) rfl _ _ (WR (bt 2 old s0) es em pc mt _ (mr eSs hS) h3) ht (fc (aq hz) (fc (aq hy0) aa))
     |true=>exact CC w b c A _ 2 (by decide) rd by_ at_ hr hb rfl rfl (Int.ofNat old) (RD es em pc mt) rfl _ _ (WR (bt 2 old s0) es em pc mt _ (mr eSs hS) h3) ht (fc (aq hz) (fc (aq hy0) aa))
    ·exact fb (s:=⟨s1.z,s1.p,s.r,s1.pc,s1.md,s1.sp,s1.es,s1.em⟩) (cW I h28 h3 (gG (j:=2) (by decide) hO hS) (s1:=⟨s1.z,s1.p,s.r,s1.pc,s1.md,s1.sp,s1.es,s1.em⟩) ez ep (fun _=>rfl) eo) OO (fun _=>rfl) (fun _=>rfl) er ex
 ·have h3:Nat.ble 3072 at_=false:=m9 (tw:=jO 3 by_) rfl hT
  by_cases hz:rd=0
  ·subst hz
   refine⟨jV s at_ (bt 3 old by_),jK s at_ (bt 3 old by_),vr s,_,_,fun es em pc mt=>?_,DD w b c o r 3 (by decide) 0 by_ at_ (Int.ofNat m) rfl rfl (LT true (by rw[h3];rfl)) (Int.ofNat old) LR _ (LW (bt 3 old by_) _ (eW (j:=3) (by decide) rfl (Nat.lt_trans hb (by decide))) h3) (fc (aU rfl) aa),fun s1 o1 r1 ez ep er eo ex=>?_⟩
   ·cases ht:bk [256,384,768] (Int.ofNat at_) with
    |false=>exact Cw w b c A _ 3 (by decide) 0 at_ (Int.ofNat by_) (by decide) rfl rfl _ _ (WR (bt 3 old by_) es em pc mt _ rfl h3) ht (fc (aU rfl) (fc (kg rfl) aa))
    |true=>exact Cc w b c A _ 3 (by decide) 0 at_ (Int.ofNat by_) (by decide) rfl rfl _ _ (WR (bt 3 old by_) es em pc mt _ rfl h3) ht (fc (aU rfl) (fc (kg rfl) aa))
   ·exact InvA.reg0 (cW I h28 h3 (gG (j:=3) (by decide) hO (Nat.lt_trans hb (by decide))) ez ep er eo) ex
  ·
   refine⟨jV s at_ (bt 3 old by_),jK s at_ (bt 3 old by_),aW (vr s) rd (Int.ofNat old),_,_,fun es em pc mt=>?_,B0 w b c o r 3 (by decide) rd by_ at_ (Int.ofNat m) hr rfl rfl (LT true (by rw[h3];rfl)) (Int.ofNat old) LR _ (LW (bt 3 old by_) _ (eW (j:=3) (by decide) rfl (Nat.lt_trans hb (by decide))) h3) (fc (aq hz) aa),fun s1 o1 r1 ez ep er eo ex=>?_⟩
   ·cases ht:bk [256,384,768] (Int.ofNat at_) with
    |false=>exact BQ w b c A _ 3 (by decide) rd at_ (Int.ofNat by_) hr rfl rfl (Int.ofNat old) (RD es em pc mt) _ _ (WR (bt 3 old by_) es em pc mt _ rfl h3) ht (fc (aq hz) (fc (i2 hz) aa))
    |true=>exact Au w b c A _ 3 (by decide) rd at_ (Int.ofNat by_) hr rfl rfl (Int.ofNat old) (RD es em pc mt) _ _ (WR (bt 3 old by_) es em pc mt _ rfl h3) ht (fc (aq hz) (fc (i2 hz) aa))
   ·exact fb (s:=⟨s1.z,s1.p,s.r,s1.pc,s1.md,s1.sp,s1.es,s1.em⟩) (cW I h28 h3 (gG (j:=3) (by decide) hO (Nat.lt_trans hb (by decide))) (s1:=⟨s1.z,s1.p,s.r,s1.pc,s1.md,s1.sp,s1.es,s1.em⟩) ez ep (fun _=>rfl) eo) OO (fun _=>rfl) (fun _=>rfl) er ex
 ·by_cases hy0:by_=0
  ·subst hy0
   by_cases hz:rd=0
   ·subst hz
    refine⟨vz s,vp s,vr s,_,_,fun es em pc mt=>r9 w b c A _ 4 (by decide) 0 at_ (Int.ofNat 0) (by decide) rfl rfl (Int.ofNat old) (RD es em pc mt) (fc (aU rfl) (fc (aU rfl) aa)),rM w b c o r 4 (by decide) 0 0 at_ (Int.ofNat m) rfl rfl (LT false rfl) (Int.ofNat old) LR (fc (aU rfl) (fc (aU rfl) aa)),fun s1 o1 r1 ez ep er eo ex=>?_⟩
    exact InvA.reg0 (jd I ez ep er eo) ex
   ·
    refine⟨vz s,vp s,aW (vr s) rd (Int.ofNat old),_,_,fun es em pc mt=>rW w b c A _ 4 (by decide) rd at_ (Int.ofNat 0) hr rfl rfl (Int.ofNat old) (RD es em pc mt) (fc (aq hz) (fc (aU rfl) aa)),ri w b c o r 4 (by decide) rd 0 at_ (Int.ofNat m) hr rfl rfl (LT false rfl) (Int.ofNat old) LR (fc (aq hz) (fc (aU rfl) aa)),fun s1 o1 r1 ez ep er eo ex=>?_⟩
    exact fb (s:=⟨s1.z,s1.p,s.r,s1.pc,s1.md,s1.sp,s1.es,s1.em⟩) (jd I (s1:=⟨s1.z,s1.p,s.r,s1.pc,s1.md,s1.sp,s1.es,s1.em⟩) ez ep (fun _=>rfl) eo) OO (fun _=>rfl) (fun _=>rfl) er ex
  ·have h3:Nat.ble 3072 at_=false:=m9 (tw:=jO 4 by_) (ew hy0) hT
   by_cases hz:rd=0
   ·subst hz
    refine⟨jV s at_ (bt 4 old by_),jK s at_ (bt 4 old by_),vr s,_,_,fun es em pc mt=>?_,rN w b c o r 4 (by decide) 0 by_ at_ (Int.ofNat m) rfl rfl (LT true (by rw[h3];rfl)) (Int.ofNat old) LR _ (LW (bt 4 old by_) _ (eW (j:=4) (by decide) rfl (Nat.lt_trans hb (by decide))) h3) (fc (aU rfl) (fc (aq hy0) aa)),fun s1 o1 r1 ez ep er eo ex=>?_⟩
    ·cases ht:bk [256,384,768] (Int.ofNat at_) with
     |false=>exact A2 w b c A _ 4 (by decide) 0 at_ (Int.ofNat by_) (by decide) rfl rfl (Int.ofNat old) (RD es em pc mt) rfl _ _ (WR (bt 4 old by_) es em pc mt _ (lW rfl) h3) ht (fc (aU rfl) (fc (aq hy0) aa))
     |true=>exact BA w b c A _ 4 (by decide) 0 at_ (Int.ofNat by_) (by decide) rfl rfl (Int.ofNat old) (RD es em pc mt) rfl _ _ (WR (bt 4 old by_) es em pc mt _ (lW rfl) h3) ht (fc (aU rfl) (fc (aq hy0) aa))
    ·exact InvA.reg0 (cW I h28 h3 (gG (j:=4) (by decide) hO (Nat.lt_trans hb (by decide))) ez ep er eo) ex
   ·
    refine⟨jV s at_ (bt 4 old by_),jK s at_ (bt 4 old by_),aW (vr s) rd (Int.ofNat old),_,_,fun es em pc mt=>?_,ro w b c o r 4 (by decide) rd by_ at_ (Int.ofNat m) hr rfl rfl (LT true (by rw[h3];rfl)) (Int.ofNat old) LR _ (LW (bt 4 old by_) _ (eW (j:=4) (by decide) rfl (Nat.lt_trans hb (by decide))) h3) (fc (aq hz) (fc (aq hy0) aa)),fun s1 o1 r1 ez ep er eo ex=>?_⟩
    ·cases ht:bk [256,384,768] (Int.ofNat at_) with
     |false=>exact AN w b c A _ 4 (by decide) rd at_ (Int.ofNat by_) hr rfl rfl (Int.ofNat old) (RD es em pc mt) rfl _ _ (WR (bt 4 old by_) es em pc mt _ (lW rfl) h3) ht (fc (aq hz) (fc (aq hy0) aa))
     |true=>exact BI w b c A _ 4 (by decide) rd at_ (Int.ofNat by_) hr rfl rfl (Int.ofNat old) (RD es em pc mt) rfl _ _ (WR (bt 4 old by_) es em pc mt _ (lW rfl) h3) ht (fc (aq hz) (fc (aq hy0) aa))
    ·exact fb (s:=⟨s1.z,s1.p,s.r,s1.pc,s1.md,s1.sp,s1.es,s1.em⟩) (cW I h28 h3 (gG (j:=4) (by decide) hO (Nat.lt_trans hb (by decide))) (s1:=⟨s1.z,s1.p,s.r,s1.pc,s1.md,s1.sp,s1.es,s1.em⟩) ez ep (fun _=>rfl) eo) OO (fun _=>rfl) (fun _=>rfl) er ex
 ·by_cases hy0:by_=0
  ·subst hy0
   by_cases hz:rd=0
   ·subst hz
    refine⟨vz s,vp s,vr s,_,_,fun es em pc mt=>r9 w b c A _ 5 (by decide) 0 at_ (Int.ofNat 0) (by decide) rfl rfl (Int.ofNat old) (RD es em pc mt) (fc (aU rfl) (fc (aU rfl) aa)),rM w b c o r 5 (by decide) 0 0 at_ (Int.ofNat m) rfl rfl (LT false rfl) (Int.ofNat old) LR (fc (aU rfl) (fc (aU rfl) aa)),fun s1 o1 r1 ez ep er eo ex=>?_⟩
    exact InvA.reg0 (jd I ez ep er eo) ex
   ·
    refine⟨vz s,vp s,aW (vr s) rd (Int.ofNat old),_,_,fun es em pc mt=>rW w b c A _ 5 (by decide) rd at_ (Int.ofNat 0) hr rfl rfl (Int.ofNat old) (RD es em pc mt) (fc (aq hz) (fc (aU rfl) aa)),ri w b c o r 5 (by decide) rd 0 at_ (Int.ofNat m) hr rfl rfl (LT false rfl) (Int.ofNat old) LR (fc (aq hz) (fc (aU rfl) aa)),fun s1 o1 r1 ez ep er eo ex=>?_⟩
    exact fb (s:=⟨s1.z,s1.p,s.r,s1.pc,s1.md,s1.sp,s1.es,s1.em⟩) (jd I (s1:=⟨s1.z,s1.p,s.r,s1.pc,s1.md,s1.sp,s1.es,s1.em⟩) ez ep (fun _=>rfl) eo) OO (fun _=>rfl) (fun _=>rfl) er ex
  ·have h3:Nat.ble 3072 at_=false:=m9 (tw:=jO 5 by_) (ew hy0) hT
   by_cases hz:rd=0
   ·subst hz
    refine⟨jV s at_ (bt 5 old by_),jK s at_ (bt 5 old by_),vr s,_,_,fun es em pc mt=>?_,rN w b c o r 5 (by decide) 0 by_ at_ (Int.ofNat m) rfl rfl (LT true (by rw[h3];rfl)) (Int.ofNat old) LR _ (LW (bt 5 old by_) _ (eW (j:=5) (by decide) rfl (Nat.lt_trans hb (by decide))) h3) (fc (aU rfl) (fc (aq hy0) aa)),fun s1 o1 r1 ez ep er eo ex=>?_⟩
    ·cases ht:bk [256,384,768] (Int.ofNat at_) with
     |false=>exact AB w b c A _ 5 (by decide) 0 at_ (Int.ofNat by_) (by decide) rfl rfl (Int.ofNat old) (RD es em pc mt) rfl _ _ (WR (bt 5 old by_) es em pc mt _ (mr rfl (Nat.lt_trans hb (by decide))) h3) ht (fc (aU rfl) (fc (aq hy0) aa))
     |true=>exact AG w b c A _ 5 (by decide) 0 at_ (Int.ofNat by_) (by decide) rfl rfl (Int.ofNat old) (RD es em pc mt) rfl _ _ (WR (bt 5 old by_) es em pc mt _ (mr rfl (Nat.lt_trans hb (by decide))) h3) ht (fc (aU rfl) (fc (aq hy0) aa))
    ·exact InvA.reg0 (cW I h28 h3 (gG (j:=5) (by decide) hO (Nat.lt_trans hb (by decide))) ez ep er eo) ex
   ·
    refine⟨jV s at_ (bt 5 old by_),jK s at_ (bt 5 old by_),aW (vr s) rd (Int.ofNat old),_,_,fun es em pc mt=>?_,ro w b c o r 5 (by decide) rd by_ at_ (Int.ofNat m) hr rfl rfl (LT true (by rw[h3];rfl)) (Int.ofNat old) LR _ (LW (bt 5 old by_) _ (eW (j:=5) (by decide) rfl (Nat.lt_trans hb (by decide))) h3) (fc (aq hz) (fc (aq hy0) aa)),fun s1 o1 r1 ez ep er eo ex=>?_⟩
    ·cases ht:bk [256,384,768] (Int.ofNat at_) with
     |false=>exact BG w b c A _ 5 (by decide) rd at_ (Int.ofNat by_) hr rfl rfl (Int.ofNat old) (RD es em pc mt) rfl _ _ (WR (bt 5 old by_) es em pc mt _ (mr rfl (Nat.lt_trans hb (by decide))) h3) ht (fc (aq hz) (fc (aq hy0) aa))
     |true=>exact Cp w b c A _ 5 (by decide) rd at_ (Int.ofNat by_) hr rfl rfl (Int.ofNat old) (RD es em pc mt) rfl _ _ (WR (bt 5 old by_) es em pc mt _ (mr rfl (Nat.lt_trans hb (by decide))) h3) ht (fc (aq hz) (fc (aq hy0) aa))
    ·exact fb (s:=⟨s1.z,s1.p,s.r,s1.pc,s1.md,s1.sp,s1.es,s1.em⟩) (cW I h28 h3 (gG (j:=5) (by decide) hO (Nat.lt_trans hb (by decide))) (s1:=⟨s1.z,s1.p,s.r,s1.pc,s1.md,s1.sp,s1.es,s1.em⟩) ez ep (fun _=>rfl) eo) OO (fun _=>rfl) (fun _=>rfl) er ex
theorem Ic(h:(cQ at_ m (o 774).1.toNat (o 262).1.toNat&&!(jO j by_&&Nat.ble 3072 at_))=false):
 (∀(es:Array DictEntry) (em:Nat) (pc:Int×Nat) (mt:Nat),eF w b c A ⟨s.z,s.p,s.r,pc,(Int.ofNat m,mt),s.sp,es,em⟩ (an j) (Int.ofNat rd) (Int.ofNat (rsOf j by_)) (imOf j by_) (Int.ofNat at_))∧j4 w b c o r j rd by_ at_ (Int.ofNat m):=by
 obtain⟨a1,d1,x,y,hx,hy,hx64,hy64⟩:=I.nats
 have LT:∀tw,jO j by_=tw→bu w b c o at_ (Int.ofNat m) tw false:=fun tw e=>bA (by rw[←e];exact h.symm) (xe w b c o _ _ (I.o774) (I.o262) hi hm tw)
 have WX:∀(v:Int) (es:Array DictEntry) (em:Nat) (pc:Int×Nat) (mt:Nat),jO j by_=true→cL w b c A ⟨s.z,s.p,s.r,pc,(Int.ofNat m,mt),s.sp,es,em⟩ at_ (Int.ofNat m) v:=fun v es em pc mt e=>wRk rfl (Am w b c A ⟨s.z,s.p,s.r,pc,(Int.ofNat m,mt),s.sp,es,em⟩ _ _ a1 d1 v hi hm (by rw[e]at h;exact h))
 cases hN:cQ at_ m (o 774).1.toNat (o 262).1.toNat with
 |false=>
  have RX:∀(es:Array DictEntry) (em:Nat) (pc:Int×Nat) (mt:Nat),eP w b c A ⟨s.z,s.p,s.r,pc,(Int.ofNat m,mt),s.sp,es,em⟩ at_ (Int.ofNat m):=fun es em pc mt=>rRk rfl (Bt w b c A ⟨s.z,s.p,s.r,pc,(Int.ofNat m,mt),s.sp,es,em⟩ _ _ a1 d1 hi hm hN)
  have six:j=0∨j=1∨j=2∨j=3∨j=4∨j=5:=by omega
  rcases six with rfl|rfl|rfl|rfl|rfl|rfl
  ·refine⟨fun es em pc mt=>?_,vj w b c o r 0 (by decide) rd by_ at_ (Int.ofNat m) hb rfl rfl (LT true rfl)⟩
   by_cases hz:rd=0
   ·subst hz
    exact rR w b c A _ 0 (by decide) 0 by_ at_ hb rfl rfl (WX _ es em pc mt rfl) (fc (kg rfl) aa)
   ·exact BE w b c A _ 0 (by decide) rd by_ at_ hb rfl rfl (RX es em pc mt) (fc (i2 hz) aa)
  ·by_cases hy0:by_=0
   ·subst hy0
    exact⟨fun es em pc mt=>rO w b c A _ 1 (by decide) rd 0 at_ (by decide) rfl rfl (RX es em pc mt) (fc (aU rfl) aa),vK w b c o r 1 (by decide) rd 0 at_ (Int.ofNat m) (by decide) rfl rfl (LT false rfl) (fc (aU rfl) aa)⟩
   ·exact⟨fun es em pc mt=>rZ w b c A _ 1 (by decide) rd by_ at_ hb rfl rfl (RX es em pc mt) (fc (aq hy0) aa),ly w b c o r 1 (by decide) rd by_ at_ (Int.ofNat m) hb rfl rfl (LT true (ew hy0)) (fc (aq hy0) aa)⟩
  ·by_cases hy0:by_=0
   ·subst hy0
    exact⟨fun es em pc mt=>rO w b c A _ 2 (by decide) rd 0 at_ (by decide) rfl rfl (RX es em pc mt) (fc (aU rfl) aa),vK w b c o r 2 (by decide) rd 0 at_ (Int.ofNat m) (by decide) rfl rfl (LT false rfl) (fc (aU rfl) aa)⟩
   ·exact⟨fun es em pc mt=>rZ w b c A _ 2 (by decide) rd by_ at_ hb rfl rfl (RX es em pc mt) (fc (aq hy0) aa),ly w b c o r 2 (by decide) rd by_ at_ (Int.ofNat m) hb rfl rfl (LT true (ew hy0)) (fc (aq hy0) aa)⟩
  ·refine⟨fun es em pc mt=>?_,rG w b c o r 3 (by decide) rd by_ at_ (Int.ofNat m) rfl rfl (LT true rfl)⟩
   by_cases hz:rd=0
   ·subst hz
    exact pi w b c A _ 3 (by decide) 0 at_ (Int.ofNat by_) rfl rfl (WX _ es em pc mt rfl) (fc (kg rfl) aa)
   ·exact BD w b c A _ 3 (by decide) rd at_ (Int.ofNat by_) rfl rfl (RX es em pc mt) (fc (i2 hz) aa)
  ·by_cases hy0:by_=0
   ·subst hy0
    exact⟨fun es em pc mt=>sb w b c A _ 4 (by decide) rd at_ (Int.ofNat 0) rfl rfl (RX es em pc mt) (fc (aU rfl) aa),rB w b c o r 4 (by decide) rd 0 at_ (Int.ofNat m) rfl rfl (LT false rfl) (fc (aU rfl) aa)⟩
   ·exact⟨fun es em pc mt=>sh w b c A _ 4 (by decide) rd at_ (Int.ofNat by_) rfl rfl (RX es em pc mt) (fc (aq hy0) aa),j7 w b c o r 4 (by decide) rd by_ at_ (Int.ofNat m) rfl rfl (LT true (ew hy0)) (fc (aq hy0) aa)⟩
  ·by_cases hy0:by_=0
   ·subst hy0
    exact⟨fun es em pc mt=>sb w b c A _ 5 (by decide) rd at_ (Int.ofNat 0) rfl rfl (RX es em pc mt) (fc (aU rfl) aa),rB w b c o r 5 (by decide) rd 0 at_ (Int.ofNat m) rfl rfl (LT false rfl) (fc (aU rfl) aa)⟩
   ·exact⟨fun es em pc mt=>sh w b c A _ 5 (by decide) rd at_ (Int.ofNat by_) rfl rfl (RX es em pc mt) (fc (aq hy0) aa),j7 w b c o r 5 (by decide) rd by_ at_ (Int.ofNat m) rfl rfl (LT true (ew hy0)) (fc (aq hy0) aa)⟩
 |true=>
  have h28:=w5 hi hN
  have RD:∀(es:Array DictEntry) (em:Nat) (pc:Int×Nat) (mt:Nat),bw w b c A ⟨s.z,s.p,s.r,pc,(Int.ofNat m,mt),s.sp,es,em⟩ at_ (Int.ofNat m) (dQ s at_):=fun es em pc mt=>rOk rfl rfl (uA w b c A ⟨s.z,s.p,s.r,pc,(Int.ofNat m,mt),s.sp,es,em⟩ _ _ a1 d1 h28 hm hN)
  have hW:jO j by_=true:=by cases e:jO j by_ with|true=>rfl|false=>rw[hN,e]at h;cases h
  have six:j=0∨j=1∨j=2∨j=3∨j=4∨j=5:=by omega
  rcases six with rfl|rfl|rfl|rfl|rfl|rfl
  ·refine⟨fun es em pc mt=>?_,vj w b c o r 0 (by decide) rd by_ at_ (Int.ofNat m) hb rfl rfl (LT true rfl)⟩
   by_cases hz:rd=0
   ·subst hz
    exact rR w b c A _ 0 (by decide) 0 by_ at_ hb rfl rfl (WX _ es em pc mt rfl) (fc (kg rfl) aa)
   ·exact Ax w b c A _ 0 (by decide) rd by_ at_ hb rfl rfl _ (RD es em pc mt) (WX _ es em pc mt rfl) (fc (i2 hz) aa)
  ·have hy0:by_≠0:=by rintro rfl;cases hW
   exact⟨fun es em pc mt=>AV w b c A _ 1 (by decide) rd by_ at_ hb rfl rfl _ (RD es em pc mt) rfl (WX _ es em pc mt (ew hy0)) (fc (aq hy0) aa),ly w b c o r 1 (by decide) rd by_ at_ (Int.ofNat m) hb rfl rfl (LT true (ew hy0)) (fc (aq hy0) aa)⟩
  ·have hy0:by_≠0:=by rintro rfl;cases hW
   exact⟨fun es em pc mt=>A6 w b c A _ 2 (by decide) rd by_ at_ hb rfl rfl _ (RD es em pc mt) rfl (WX _ es em pc mt (ew hy0)) (fc (aq hy0) aa),ly w b c o r 2 (by decide) rd by_ at_ (Int.ofNat m) hb rfl rfl (LT true (ew hy0)) (fc (aq hy0) aa)⟩
  ·refine⟨fun es em pc mt=>?_,rG w b c o r 3 (by decide) rd by_ at_ (Int.ofNat m) rfl rfl (LT true rfl)⟩
   by_cases hz:rd=0
   ·subst hz
    exact pi w b c A _ 3 (by decide) 0 at_ (Int.ofNat by_) rfl rfl (WX _ es em pc mt rfl) (fc (kg rfl) aa)
   ·exact xQ w b c A _ 3 (by decide) rd at_ (Int.ofNat by_) rfl rfl _ (RD es em pc mt) (WX _ es em pc mt rfl) (fc (i2 hz) aa)
  ·have hy0:by_≠0:=by rintro rfl;cases hW
   exact⟨fun es em pc mt=>yk w b c A _ 4 (by decide) rd at_ (Int.ofNat by_) rfl rfl _ (RD es em pc mt) rfl (WX _ es em pc mt (ew hy0)) (fc (aq hy0) aa),j7 w b c o r 4 (by decide) rd by_ at_ (Int.ofNat m) rfl rfl (LT true (ew hy0)) (fc (aq hy0) aa)⟩
  ·have hy0:by_≠0:=by rintro rfl;cases hW
   exact⟨fun es em pc mt=>yg w b c A _ 5 (by decide) rd at_ (Int.ofNat by_) rfl rfl _ (RD es em pc mt) rfl (WX _ es em pc mt (ew hy0)) (fc (aq hy0) aa),j7 w b c o r 5 (by decide) rd by_ at_ (Int.ofNat m) rfl rfl (LT true (ew hy0)) (fc (aq hy0) aa)⟩
end
noncomputable def hlturn_0:List Nat:=[10,10,1001,8,8,0,8,0,1002,8,8,8,3016017,17,9017016,1005017,16,1006017,16,17,17,19,1011008,7003,3004,8,8,0,0,1006008,1028000,21,0,21,1007000,1014022,0,22,22,5021020,22,22,5021020,22,22,5021020,22,22,5021020,22,22,5021020,22,22,5021020,0,1005,8,8,8,8,0,0,3024025,27,13,5001002,8,8,8,13,5001002,0,14,8,8,8,0,1006,8]
noncomputable def tS:List Nat:=[13,2001002,8,0,0,8,0,2,13,2001002,8,6,12,6,6,1008,13,2001002,8,2]
noncomputable def hlturn_2:List Nat:=[0,13,8,0,1500,8,31,29,31,31,1007]++tS++[1501]
noncomputable def hlturn_3:List Nat:=hlturn_0++[8,0,13,8,0,1007,8]++tS++[1500]
section
variable(w:World)(b c:Bool)(A:AS)(s:BS)(gh:List (Addr×Obj))(n t L:Nat)(nn tt:Nat→Nat)(vv:Nat→Nat→Nat)(f:FS)(sl:Array (Option Value))(ml:List Value)(mm i nt tn td tb ta tm tc t2 t3 t4 c3:Nat)(kt:Nat→Nat)(o o1 r r1:Nat→Int×Nat)(nv rd by_ at_ md cell:Int)(nm lc:Str)(s2 sE:BS)(g1 gE:List (Addr×Obj))(fo mo io oo xo:Obj)(q:Nat→PySem.Pos)(fl im:Bool)(rsv imv:Int)(e1:cond im 0 by_=rsv)(e2:cond im by_ 0=imv)
def ba(Y0 Y1:Nat):Nat:=Nat.add (tt Y0) Y1
def eB(Y0:Nat):Value:=.ref (.add (vv Y0 0) 1994)
def n6(Y0 Y1:Value):List (DictEntry):=[ag w b c qI (f.k 0) (f.2 0),ag w b c tV (f.k 1) (f.2 1),ag w b c mN (f.k 2) (rA A 11),ag w b c pa (cond fl (f.k 3) (.add t 5615)) (.int nv nt),ag w b c o5 (cond fl (f.k 4) (ba tt 0 5615)) (eB vv 0),ag w b c dj (cond fl (f.k 5) (ba tt 0 5616)) (.str nm tn),ag w b c gK (cond fl (f.k 6) (ba tt 0 5617)) (.int rd td),ag w b c ⟨⟨[98,121]⟩⟩ (cond fl (f.k 7) (ba tt 0 5618)) (.int by_ tb),ag w b c jU (cond fl (f.k 8) (ba tt 0 5619)) (.int at_ ta),ag w b c Bl (cond fl (f.k 9) (ba tt 0 5620)) (.int md tm),ag w b c Df (cond fl (f.k 10) (ba tt 0 5625)) Y0,ag w b c q9 (cond fl (f.k 11) (ba tt 1 5615)) (.int cell tc),ag w b c Ah (cond fl (f.k 12) (ba tt 1 5622)) (.int (aw 4 (ak nv 1000)) (ba tt 1 5619)),ag w b c DY (cond fl (f.k 13) (ba tt 2 5615)) Y1]
def aY(Y0:Nat):Nat:=Nat.add (A.a Y0) 1994
def qE:List (Nat×Obj):=al w b c A sE++[(7,fo),(8,mo),(9,io),(10,oo),(11,xo),(12,cP (aY A 0)),(13,cP (aY A 10))]
def IU(Y0:Bool):List (Call):=[⟨cR 1988 [(rA A 0),(.int cell tc)],29,47,(al w b c A ⟨s.z,s.p,s.r,((aw 4 (ak nv 1000)),(ba tt 1 5619)),(md,tm),s.sp,s.es,s.em⟩++[(7,⟨(.type "frame"),none,(.dict ⟨n6 w b c A t tt vv f nt tn td tb ta tm tc nv rd by_ at_ md cell nm fl (.bool Y0) (eB vv 2)⟩ 14),sl⟩)]),rV (eB vv 3),31,48,(al w b c A s2++[(7,⟨(.type "frame"),none,(.dict ⟨n6 w b c A t tt vv f nt tn td tb ta tm tc nv rd by_ at_ md cell nm fl (.bool Y0) (eB vv 2)⟩ 14),(dD (aY A 12) (aY A 13) c3)⟩),(30,tO [.int 2 t3,.int cell t4])])⟩,⟨my ej 7 (aY A 9) (gL (aY A 7) (aY A 12) (aY A 13) c3),31,55,(al w b c A s2++[(7,⟨(.type "frame"),none,(.dict ⟨n6 w b c A t tt vv f nt tn td tb ta tm tc nv rd by_ at_ md cell nm fl (.bool Y0) (eB vv 2)⟩ 14),⟨[some (.ref 1992),some (.ref 3),none,some (Value.notImplemented),none,some (.ref 1993),some (.ref 0),some (rA A 12),some (rA A 13),some (.ref c3)]⟩⟩),(8,ah ml mm),(9,cm (aY A 8) (i+1)),(10,bq (PP w b c) kt o1),(11,xO r1),(12,cP (aY A 0)),(13,cP (aY A 10))]),.ok .next,32,56,(qE w b c A sE fo mo io oo xo)⟩]
def Jv(Y0 Y1 Y2:Value):List (Nat×Obj):=[(20,iO 121 (.add (nn 0) 1997)),(19,dO [ag w b c dj (ba tt 0 5636) (.str nm tn),ag w b c gK (ba tt 0 5638) (.int rd td),ag w b c lD (ba tt 0 5640) Y0,ag w b c sf (ba tt 0 5642) Y1,ag w b c iG (ba tt 0 5644) Y2,ag w b c gq (ba tt 0 5646) (.int at_ ta)] 6)]
def nA:Code:=.func ej (gL (aY A 7) (aY A 12) (aY A 13) c3)
def B1:Bool:=(bne s2.pc.1 ((aw 4 (ak nv 1000))+(aw 4 (ite (Eq (BEq.beq PySem.Value.none PySem.Value.none) true) 1 0))))
def Dc:List (Bool×Bool):=[((bne s2.md.1 md),false),(B1 nv s2,false)]
def jT:Nat×Obj:=(15,tO [.str nm tn,.int rd td,.int by_ tb,.int at_ ta,.int md tm])
def EJ(Y0:Bool):List (Nat×Obj):=al w b c A s2++[(7,⟨(.type "frame"),none,(.dict ⟨n6 w b c A t tt vv f nt tn td tb ta tm tc nv rd by_ at_ md cell nm fl (.bool Y0) .none⟩ 14),sl⟩),(8,ah ml mm),(9,cm (aY A 8) (i+1)),(10,bq (PP w b c) kt o1),(11,xO r1),(12,cP (aY A 0)),(13,cP (aY A 10))]
def Ds:Code:=cB "str.__eq__" [(.str lc (ba tt 0 5623)),(.str mM (ba tt 0 5624))]
def eh(Y0 Y1:Nat):Nat×Nat:=(Y0,Nat.add (nn Y1) 1994)
def lS:Code:=.builtin "claim.caller" {}
def Eg:List (Nat×Nat):=[eh nn 30 4,eh nn 29 3,eh nn 28 2,eh nn 23 1,eh nn 16 0,(15,Nat.add (vv 0 0) 1994),(14,Nat.add n 1994)]
def vA:List (Nat×Nat):=[(56,ba tt 4 5615),(48,ba tt 3 5615),(46,ba tt 2 5615),(35,ba tt 1 5615),(2,ba tt 0 5615),(0,Nat.add t 5615)]
def tY:Call:=⟨cB "list_iterator.__next__" [(rA A 9)],14,0,[(9,cm (aY A 8) i),(8,ah ml mm)],rV (.int nv nt),14,0,[(9,cm (aY A 8) (i+1)),(8,ah ml mm)]⟩
def vS:Call:=⟨cR 1974 [(.int nv nt)],14,1,[],rV (eB vv 0),16,2,[jT tn td tb ta tm rd by_ at_ md nm]⟩
def um:Call:=cS (cB "str.__getitem__" [(.str nm tn),(.int (Neg.neg 1) (ba tt 0 5622))]) 19 10 [] (rV (.str lc (ba tt 0 5623))) 19 11
def uM:Call:=cS (Ds tt lc) 19 12 [] (rV (.bool im)) 19 12
def vL:Call:=cS (cR 1072 [(.ref (.add (nn 0) 1998))]) 22 34 (Jv w b c nn tt tn td ta rd at_ nm (.int rsv (cond im (ba tt 0 5626) tb)) (.int 0 (cond im (ba tt 0 5627) (ba tt 0 5626))) (.int imv (cond im tb (ba tt 0 5627)))) (rV (.int cell tc)) 23 35
def CQ:Call:=⟨cR 1981 [(rA A 10),(rA A 11),(eB vv 0),(.int cell tc)],27,45,[(10,bq (PP w b c) kt o),(11,xO r),jT tn td tb ta tm rd by_ at_ md nm],rV .none,28,46,[(10,bq (PP w b c) kt o1),(11,xO r1),jT tn td tb ta tm rd by_ at_ md nm]⟩
def DP:Call:=⟨cR 1988 [(rA A 0),(.int cell tc)],28,47,(al w b c A ⟨s.z,s.p,s.r,((aw 4 (ak nv 1000)),(ba tt 1 5619)),(md,tm),s.sp,s.es,s.em⟩),rV .none,29,48,(al w b c A s2)⟩
def uS(x0:Nat):Call:=cS (cB "list.__ne__" [(rA A 5),(rA A 11)]) x0 54 [(5,d5 (PP w b c) A s2),(11,xO r1)] (rV (.bool false)) x0 54
def Ce:List (List (Code×PySem.Pos)):=[[(nA A c3,q 5),(lS,q 6)]]
def rk:List (Code×PySem.Pos):=[(nA A c3,q 5),(lS,q 6)]
def rI:Code:=(my ej 7 (aY A 9) (gL (aY A 7) (aY A 12) (aY A 13) c3))
def sa:List (Nat×Obj):=(al w b c A s++[(7,ss (PP w b c) (cond fl 14 3) f (aY A 11) sl),(8,ah ml mm),(9,cm (aY A 8) i),(10,bq (PP w b c) kt o),(11,xO r),(12,cP (aY A 0)),(13,cP (aY A 10))])
def sA:List (Nat×Obj):=(qE w b c A sE fo mo io oo xo)
def BC:List (Nat×Nat):=[eh nn 32 4,eh nn 31 3,(30,Nat.add (vv 3 0) 1994),eh nn 29 2,(28,Nat.add (vv 2 0) 1994),eh nn 23 1,eh nn 16 0,(15,Nat.add (vv 0 0) 1994),(14,Nat.add n 1994)]
def Ba:Call:=⟨cR 1981 [(rA A 10),(rA A 11),(eB vv 0),(.int cell tc)],27,45,[(10,bq (PP w b c) kt o),(11,xO r),jT tn td tb ta tm rd by_ at_ md nm],rV (eB vv 2),29,46,[(10,bq (PP w b c) kt o1),(11,xO r1),jT tn td tb ta tm rd by_ at_ md nm,(28,tO [.int 2 t2,.int cell tc])]⟩
def Aq:Call:=cS (cB "tuple.__ne__" [(eB vv 3),(eB vv 2)]) 31 48 [(30,tO [.int 2 t3,.int cell t4]),(28,tO [.int 2 t2,.int cell tc])] (rV (.bool false)) 31 48
def AM:List (List (Code×PySem.Pos)):=[((my ej 7 (aY A 9) (gL (aY A 7) (aY A 12) (aY A 13) c3),⟨875,11,875,32⟩)::(nA A c3,q 5)::[(lS,q 6)]),[(nA A c3,q 5),(lS,q 6)]]
def Aw:Bool:=(bne s2.pc.1 ((aw 4 (ak nv 1000))+(aw 4 (ite (Eq (BEq.beq (ag w b c (PySem.Str.mk (Array.mk (List.cons 100 (List.cons 117 (List.cons 101 ([])))))) (cond fl (f.k 13) (ba tt 2 5615)) (Value.ref (.add (vv 2 0) 1994))).val PySem.Value.none) true) 1 0))))
include w b c A s gh n t L nn tt vv f sl ml mm i nt tn td tb ta tm tc t2 t3 t4 c3 kt o o1 r r1 nv rd by_ at_ md cell nm lc s2 sE g1 gE fo mo io oo xo q fl im rsv imv e1 e2
theorem turn_o:qR n gE (E2 gh [(30,gE),(29,g1)]) w b c A gh L 40 (Eg n nn vv) (vA t tt) [tY A ml mm i nt nv,vS vv nt tn td tb ta tm nv rd by_ at_ md nm,um tt tn nm lc,uM tt lc im,vL w b c nn tt tn td tb ta tc rd at_ cell nm im rsv imv,CQ w b c A vv tn td tb ta tm tc kt o o1 r r1 rd by_ at_ md cell nm,DP w b c A s tt tm tc nv md cell s2,uS w b c A r1 s2 29] [⟨my ej 7 (aY A 9) (gL (aY A 7) (aY A 12) (aY A 13) c3),29,55,(EJ w b c A t tt vv f sl ml mm i nt tn td tb ta tm tc kt o1 r1 nv rd by_ at_ md cell nm s2 fl im),.ok .next,30,56,(qE w b c A sE fo mo io oo xo)⟩] (Ce A c3 q) (Dc nv md s2) (rk A c3 q) (rI A c3) 14 (sa w b c A s f sl ml mm i kt o r fl) (.ok Flow.next) 30 (sA w b c A sE fo mo io oo xo) 56:=by subst e1 e2;cases fl<;>cases im<;>exact mZY_cbeg (hm hlturn_3) rfl rfl rfl
theorem turn_x:qR n gE (E2 gh [(32,gE),(31,g1)]) w b c A gh L 40 (BC n nn vv) (vA t tt) [tY A ml mm i nt nv,vS vv nt tn td tb ta tm nv rd by_ at_ md nm,um tt tn nm lc,uM tt lc im,vL w b c nn tt tn td tb ta tc rd at_ cell nm im rsv imv,Ba w b c A vv tn td tb ta tm tc t2 kt o o1 r r1 rd by_ at_ md cell nm,Aq vv tc t2 t3 t4 cell,uS w b c A r1 s2 31] (IU w b c A s t tt vv f sl ml mm i nt tn td tb ta tm tc t3 t4 c3 kt o1 r1 nv rd by_ at_ md cell nm s2 sE fo mo io oo xo fl im) (AM A c3 q) [((bne s2.md.1 md),false),(Aw w b c tt vv f nv s2 fl,false)] (rk A c3 q) (rI A c3) 14 (sa w b c A s f sl ml mm i kt o r fl) (.ok Flow.next) 32 (sA w b c A sE fo mo io oo xo) 56:=by subst e1 e2;cases fl<;>cases im<;>exact mZY_cbeg (hm (hlturn_0++[8]++hlturn_2)) rfl rfl rfl
end
structure LA where
 fr:Nat
 ma:Nat
 it:Nat
 ow:Nat
 xl:Nat
 cc:Nat
 co:Nat
 c3:Nat
def aL(A:AS)(B:LA):AS:=⟨gt [(7,B.fr),(8,B.ma),(9,B.it),(10,B.ow),(11,B.xl),(12,B.cc),(13,B.co)] A.a,A.k⟩
abbrev envL(B:LA):Env:=gL (ad B.fr) (ad B.cc) (ad B.co) B.c3
abbrev GN(B:LA):Code:=my ej 7 (ad B.it) (envL B)
abbrev B4(B:LA)(q:Nat→PySem.Pos):List (Code×PySem.Pos):=[(.func ej (envL B),q 5),(.builtin "claim.caller" {},q 6)]
def Fo(P:Params)(A:AS)(B:LA)(num:Nat)(f:FS)(sl:Array (Option Value))(ml:List Value)(mm i:Nat)(kt:Nat→Nat)(o r:Nat→Int×Nat):List (Addr×Obj):=
 [(ad B.fr,ss P num f (ad B.xl) sl),(ad B.ma,ah ml mm),(ad B.it,cm (ad B.ma) i),(ad B.ow,bq P kt o),(ad B.xl,xO r),(ad B.cc,cP (ad (A.a 0))),(ad B.co,cP (ad B.ow))]
def Fe(A:AS)(B:LA)(fo mo io oo xo:Obj):List (Addr×Obj):=[(ad B.fr,fo),(ad B.ma,mo),(ad B.it,io),(ad B.ow,oo),(ad B.xl,xo),(ad B.cc,cP (ad (A.a 0))),(ad B.co,cP (ad B.ow))]
def eG(l:List Nat)(i:Nat):Nat:=l.getD i 0
def BV(l:List Value)(i:Nat):Value:=l.getD i .none
theorem InvA.board{s:BS}{o r:Nat→Int×Nat}(I:InvA s o r){pc md:Int×Nat}{sp em:Nat}{es:Array DictEntry}:InvA ⟨s.z,s.p,s.r,pc,md,sp,es,em⟩ o r:=⟨I.pl,I.zl,I.ha,I.rg,I.ob,I.oc,I.od,I.rb⟩
theorem Io{s r:Nat→Int×Nat}(h:∀k,k<32→(s k).1=(r k).1):eqLs ((List.range 32).map fun k=>.int (s k).1 (s k).2) ((List.range 32).map fun k=>.int (r k).1 (r k).2)=true:=by
 have key:∀l:List Nat,(∀k∈l,k<32)→eqLs (l.map fun k=>.int (s k).1 (s k).2) (l.map fun k=>.int (r k).1 (r k).2)=true:=by
  intro l
  induction l with
  |nil=>intro _;rfl
  |cons a l ih=>
   intro hl
   have:=ih fun k hk=>hl k (List.mem_cons_of_mem _ hk)
   simp[eqLs,kU,h a (hl a List.mem_cons_self),this]
 exact key _ fun k hk=>List.mem_range.mp hk
theorem Az{p:Program}{w:World}{S:HT}{B:Nat}{gh:List (Addr×Obj)}{n t:Nat}{C:Ctx→Prop}(hC:∀Γ,C Γ→Γ.handled=none){a b:Addr}{s r:Nat→Int×Nat}(h:∀k,k<32→(s k).1=(r k).1):
  TriC (model p w) S B C (.builtin "list.__ne__" ⟨[.ref a,.ref b],[]⟩) gh [(a,xM s 1),(b,xO r)] n t (.ok (.ret (.bool false))) gh [(a,xM s 1),(b,xO r)] n t:=by
 have:=AO (p:=p) (w:=w) (S:=S) (B:=B) (gh:=gh) (n:=n) (t:=t) hC (a:=a) (b:=b) (k:=1) (m:=0) (l:=(List.range 32).map fun k=>.int (s k).1 (s k).2) (r:=(List.range 32).map fun k=>.int (r k).1 (r k).2) rfl rfl rfl
 rw[Io h]at this
 exact this
theorem T_tup2{p:Program}{w:World}{S:HT}{B:Nat}{gh:List (Addr×Obj)}{n t:Nat}{C:Ctx→Prop}(hC:∀Γ,C Γ→Γ.handled=none){a b:Addr}{x:Int}{t1 t2 t3 t4:Nat}:
  TriC (model p w) S B C (.builtin "tuple.__ne__" ⟨[.ref a,.ref b],[]⟩) gh [(a,tO [.int 2 t1,.int x t2]),(b,tO [.int 2 t3,.int x t4])] n t (.ok (.ret (.bool false))) gh [(a,tO [.int 2 t1,.int x t2]),(b,tO [.int 2 t3,.int x t4])] n t:=by
 have:=zY (p:=p) (w:=w) (S:=S) (B:=B) (gh:=gh) (n:=n) (t:=t) hC (a:=a) (b:=b) (k:=0) (m:=0) (l:=[.int 2 t1,.int x t2]) (r:=[.int 2 t3,.int x t4]) rfl rfl
 rw[show eqLs [.int 2 t1,.int x t2] [.int 2 t3,.int x t4]=true by simp[eqLs,kU]]at this
 exact this
theorem pc_yes(v:Nat):(bne (Builtin.bitAnd (aw 4 (ak (Int.ofNat v) 1000)+4) 4294967295) (aw 4 (ak (Int.ofNat v) 1000)+aw 4 1))=false:=by
 have e1:ak (Int.ofNat v) 1000=((v%1000:Nat):Int):=gP v 1000
 have e2:aw 4 ((v%1000:Nat):Int)=((4*(v%1000):Nat):Int):=kT 4 _
 have e3:((4*(v%1000):Nat):Int)+4=Int.ofNat (4*(v%1000)+4):=rfl
 rw[e1,e2,e3,nx (by omega)]
 show (bne (Int.ofNat (4*(v%1000)+4)) (Int.ofNat (4*(v%1000)+4)))=false
 simp
theorem pc_no(v:Nat):(bne (aw 4 (ak (Int.ofNat v) 1000)) (aw 4 (ak (Int.ofNat v) 1000)+aw 4 0))=false:=by
 rw[show aw 4 0=0 from rfl,Int.add_zero];simp
theorem uT(x:Int):(bne x x)=false:=by simp
theorem nb{M:Model}{S:HT}{B L:Nat}{cd:Code}{gh pre:List (Addr×Obj)}{n t:Nat}{r:Result}{gh' post:List (Addr×Obj)}{n' t':Nat}(H:Tri M S B L cd gh pre n t r gh' post n' t')(h:L≤120:=by decide):TriC M S B (fun Γ=>Lim Γ 120) cd gh pre n t r gh' post n' t':=TriC.mono (lx h) H
abbrev WD(v:Nat):Nat:=aG (v%6) (i9 v) (gm v) (gn v)
theorem qa(v:Nat):gn v∈E33:=by
 have key:∀k,k<33→E33.getD k 0∈E33:=by decide
 exact key _ (Nat.mod_lt _ (by decide))
theorem md_mem(v:Nat):∃m,gW v=Int.ofNat m∧(m=0∨m=1∨m=3):=by
 have key:∀k,k<4→[3,1,3,0].getD k 0=0∨[3,1,3,0].getD k 0=1∨[3,1,3,0].getD k 0=3:=by decide
 exact⟨_,rfl,key _ (Nat.mod_lt _ (by decide))⟩
theorem oQ(v:Nat):v%6<6∧i9 v<32∧gm v<32∧gn v<4096:=by
 have key:∀x∈E33,x<4096:=by decide
 refine⟨Nat.mod_lt _ (by decide),?_,?_,key _ (qa v)⟩
 ·unfold i9;omega
 ·unfold gm;split<;>omega
inductive TurnOkX (w:World) (b c:Bool) (A:AS) (B:LA) (q:Nat→PySem.Pos) (num:Nat) (f:FS) (sl:Array (Option Value)) (ml:List Value) (mm i:Nat) (kt:Nat→Nat) (s:BS) (o r:Nat→Int×Nat) (gh:List (Addr×Obj)) (n t:Nat):Prop where
 |mk (s2:BS) (o1 r1:Nat→Int×Nat) (gh1:List (Addr×Obj)) (n1 t1:Nat) (f1:FS) (sl1:Array (Option Value)) (h0_:KInv (PP w b c) s2.es gh1) (h1_:s2.es.toList.length≤s.es.toList.length+1) (h2_:InvA s2 o1 r1) (h3_:(sl1=#[]∨sl1=dD (ad B.cc) (ad B.co) B.c3)) (h4_:∀(sE:BS) (nE tE:Nat) (fo mo io oo xo:Obj),TA w b c A 120 (B4 B q) (GN B) gh1 (Fo (PP w b c) A B 14 f1 sl1 ml mm (i+1) kt o1 r1) s2 n1 t1 (.ok .next) [] (Fe A B fo mo io oo xo) sE nE tE→
  TA w b c A 160 (B4 B q) (GN B) gh (Fo (PP w b c) A B num f sl ml mm i kt o r) s n t (.ok .next) [] (Fe A B fo mo io oo xo) sE nE tE):TurnOkX w b c A B q num f sl ml mm i kt s o r gh n t
def vZ(w:World)(b c:Bool)(A:AS)(B:LA)(q:Nat→PySem.Pos)(num:Nat)(f:FS)(sl:Array (Option Value))(ml:List Value)(mm i:Nat)(kt:Nat→Nat)(s:BS)(o r:Nat→Int×Nat):Prop:=∀(gh:List (Addr×Obj)) (n t:Nat),KInv (PP w b c) s.es gh→s.es.toList.length≤1000→
 TurnOkX w b c A B q num f sl ml mm i kt s o r gh n t
def KL(fl:Bool)(f:FS)(t t0 t1 t2:Nat):List Nat:=[f.k 0,f.k 1,f.k 2,cond fl (f.k 3) (.add t 5615),cond fl (f.k 4) (.add t0 5615),cond fl (f.k 5) (.add t0 5616),cond fl (f.k 6) (.add t0 5617),cond fl (f.k 7) (.add t0 5618),cond fl (f.k 8) (.add t0 5619),cond fl (f.k 9) (.add t0 5620),cond fl (f.k 10) (.add t0 5625),cond fl (f.k 11) (.add t1 5615),cond fl (f.k 12) (.add t1 5622),cond fl (f.k 13) (.add t2 5615)]
def VL(f:FS)(B:LA)(v nt e0 tn td tb ta tm tc t1:Nat)(x:Value):List Value:=[(f.v 0),(f.v 1),(.ref (.add B.xl 1994)),(.int (Int.ofNat v) nt),(.ref (.add e0 1994)),(.str (an (v%6)) (.add tn 5615)),(.int (Int.ofNat (i9 v)) td),(.int (Int.ofNat (gm v)) tb),(.int (Int.ofNat (gn v)) ta),(.int (gW v) tm),(.bool (Nat.ble 3 (v%6))),(.int (Int.ofNat (WD v)) tc),(.int (aw 4 (ak (Int.ofNat v) 1000)) (.add t1 5619)),x]
theorem F6(j y:Nat):cond (Nat.ble 3 j) 0 (Int.ofNat y)=Int.ofNat (rsOf j y):=by
 by_cases h:j<3
 ·rw[show rsOf j y=y from if_pos h,show Nat.ble 3 j=false from Bool.eq_false_iff.mpr fun e=>absurd (Nat.le_of_ble_eq_true e) (by omega)];rfl
 ·rw[show rsOf j y=0 from if_neg h,show Nat.ble 3 j=true from Nat.ble_eq_true_of_le (by omega)];rfl
theorem Go(j y:Nat):cond (Nat.ble 3 j) (Int.ofNat y) 0=imOf j y:=by
 by_cases h:j<3
 ·rw[show imOf j y=0 from if_pos h,show Nat.ble 3 j=false from Bool.eq_false_iff.mpr fun e=>absurd (Nat.le_of_ble_eq_true e) (by omega)];rfl
 ·rw[show imOf j y=Int.ofNat y from if_neg h,show Nat.ble 3 j=true from Nat.ble_eq_true_of_le (by omega)];rfl
theorem Bq:∀j,j<6→BEq.beq (ap j).cps.toList [105]=Nat.ble 3 j:=by decide
section
variable{w:World}{b c:Bool}{A:AS}{B:LA}{q:Nat→PySem.Pos}{f:FS}{sl:Array (Option Value)}{ml:List Value}{mm i:Nat}{kt:Nat→Nat}{s:BS}{o r:Nat→Int×Nat}(I:InvA s o r)(hsl:sl=#[]∨sl=dD (ad B.cc) (ad B.co) B.c3){v nt:Nat}(hx:ml[i]?=some (.int (Int.ofNat v) nt))
include I hsl hx
theorem uj(fl:Bool){fz fp fr fo_ fx:Nat→Int}(hC:∀(es:Array DictEntry) (em pt mt:Nat),bD w b c A ⟨s.z,s.p,s.r,(aw 4 (ak (Int.ofNat v) 1000),pt),(gW v,mt),s.sp,es,em⟩ (an (v%6)) (Int.ofNat (i9 v)) (Int.ofNat (rsOf (v%6) (gm v))) (imOf (v%6) (gm v)) (Int.ofNat (gn v)) fz fp fr)(hD:fK w b c o r (v%6) (i9 v) (gm v) (gn v) (gW v) fo_ fx)(hI:∀(s1:BS) (o1 r1:Nat→Int×Nat),(∀k,(s1.z k).1=fz k)→(∀k,(s1.p k).1=fp k)→(∀k,(s1.r k).1=fr k)→(∀k,(o1 k).1=fo_ k)→(∀k,(r1 k).1=fx k)→InvA s1 o1 r1):vZ w b c A B q (cond fl 14 3) f sl ml mm i kt s o r:=by
 intro gh n t hk hz1
 have hz:s.es.toList.length≤sizeLine:=Nat.le_trans hz1 (by decide)
 have hj:v%6<6:=Nat.mod_lt _ (by decide)
 have hr:v%6<6∧i9 v<32∧gm v<32∧gn v<4096:=oQ v
 have hL:=sC w b c A hr.2.1 hr.2.2.1 hr.2.2.2 _ hj
 have hE:=xk w b c hr.2.1 hr.2.2.1 hr.2.2.2 _ hj
 have hq:=Bq _ hj
 obtain⟨e0,tn,td,tb,ta,tm,n0,t0,H0⟩:=w6 w b c v nt gh (n+0) (t+1)
 obtain⟨tc,n1,t1,H1⟩:=hE (i7 (.add t0 5636) (.add t0 5638) (.add t0 5640) (.add t0 5642) (.add t0 5644) (.add t0 5646)) (i7 (.add tn 5615) td (cond (Nat.ble 3 (v%6)) (.add t0 5626) tb) (cond (Nat.ble 3 (v%6)) (.add t0 5627) (.add t0 5626)) (cond (Nat.ble 3 (v%6)) tb (.add t0 5627)) ta) tn (n0+4) (n0+3) gh (n0+6) (t0+32)
 obtain⟨o1,r1,n2,t2,eo,er,H2⟩:=hD kt B.ow B.xl e0 gh (n1+4) (t1+10) (.add tn 5615) td tb ta tm tc (Int.ofNat (WD v))
 obtain⟨z1,p1,r2,sp1,pt,em1,n3,t3,es1,gh1,ez,ep,er2,hk1,hl1,_,_,H3⟩:=It (s:=⟨s.z,s.p,s.r,((aw 4 (ak (Int.ofNat v) 1000)),(.add t1 5619)),(gW v,tm),s.sp,s.es,s.em⟩) hr hL (fun es em=>hC es em _ _) gh (n2+0) (t2+1) tc hk hz
 have hI2:=hI ⟨z1,p1,r2,s.pc,s.md,s.sp,s.es,s.em⟩ o1 r1 ez ep er2 eo er
 have hreg:∀k,k<32→(r2 k).1=(r1 k).1:=hI2.rg
 refine⟨⟨z1,p1,r2,(Builtin.bitAnd ((aw 4 (ak (Int.ofNat v) 1000))+4) 4294967295,pt),(gW v,tm),sp1,es1,em1⟩,o1,r1,gh1,n3+0,t3+7,⟨eG (KL fl f t t0 t1 t2),BV (VL f B v nt e0 tn td tb ta tm tc t1 .none)⟩,sl,hk1,hl1,hI2.board,hsl,fun sE nE tE fo mo io oo xo HR=>?_⟩
 exact kc (turn_o w b c (aL A B) s gh n t 120 (ar [n0,n1,n2,n3,nE]) (ar [t0,t1,t2,t3,tE]) (fun i _=>cond (Nat.beq i 0) e0 0) f sl ml mm i nt (.add tn 5615) td tb ta tm tc 0 0 0 B.c3 kt o o1 r r1 (Int.ofNat v) (Int.ofNat (i9 v)) (Int.ofNat (gm v)) (Int.ofNat (gn v)) (gW v) (Int.ofNat (WD v)) (an (v%6)) (ap (v%6)) ⟨z1,p1,r2,(Builtin.bitAnd ((aw 4 (ak (Int.ofNat v) 1000))+4) 4294967295,pt),(gW v,tm),sp1,es1,em1⟩ sE gh1 [] fo mo io oo xo q fl (Nat.ble 3 (v%6)) _ _ (F6 _ _) (Go _ _) (fk (du Lim.h hx)<|fk (nb (kd H0))<|fk (au Lim.h hj)<|fk (ac Lim.h hq)<|fk (nb (kd H1))<|fk (nb (kd H2))<|fk (kd H3)<|fk (kc (Az Lim.h (s:=r2) (r:=r1) hreg))<|aa) (ab ⟨by kernel_rfl,bO (by kernel_rfl) (kd HR)⟩ aa) (fc (uT _) (fc (pc_yes v) aa)) (fun x hx=>nomatch hx))
theorem v6(fl:Bool)(h256:256≤gn v)(hC:∀(es:Array DictEntry) (em pt mt:Nat),eF w b c A ⟨s.z,s.p,s.r,(aw 4 (ak (Int.ofNat v) 1000),pt),(gW v,mt),s.sp,es,em⟩ (an (v%6)) (Int.ofNat (i9 v)) (Int.ofNat (rsOf (v%6) (gm v))) (imOf (v%6) (gm v)) (Int.ofNat (gn v)))(hD:j4 w b c o r (v%6) (i9 v) (gm v) (gn v) (gW v)):vZ w b c A B q (cond fl 14 3) f sl ml mm i kt s o r:=by
 intro gh n t hk hz1
 have hz:s.es.toList.length≤sizeLine:=Nat.le_trans hz1 (by decide)
 have hj:v%6<6:=Nat.mod_lt _ (by decide)
 have hr:v%6<6∧i9 v<32∧gm v<32∧gn v<4096:=oQ v
 have hL:=sC w b c A hr.2.1 hr.2.2.1 hr.2.2.2 _ hj
 have hE:=xk w b c hr.2.1 hr.2.2.1 hr.2.2.2 _ hj
 have hq:=Bq _ hj
 obtain⟨e0,tn,td,tb,ta,tm,n0,t0,H0⟩:=w6 w b c v nt gh (n+0) (t+1)
 obtain⟨tc,n1,t1,H1⟩:=hE (i7 (.add t0 5636) (.add t0 5638) (.add t0 5640) (.add t0 5642) (.add t0 5644) (.add t0 5646)) (i7 (.add tn 5615) td (cond (Nat.ble 3 (v%6)) (.add t0 5626) tb) (cond (Nat.ble 3 (v%6)) (.add t0 5627) (.add t0 5626)) (cond (Nat.ble 3 (v%6)) tb (.add t0 5627)) ta) tn (n0+4) (n0+3) gh (n0+6) (t0+32)
 obtain⟨e2,u2,n2,t2,H2⟩:=hD kt B.ow B.xl e0 gh (n1+4) (t1+10) (.add tn 5615) td tb ta tm tc (Int.ofNat (WD v))
 obtain⟨em1,e3,n3,t3,es1,gh1,hk1,hl1,_,_,H3⟩:=yY (s:=⟨s.z,s.p,s.r,((aw 4 (ak (Int.ofNat v) 1000)),(.add t1 5619)),(gW v,tm),s.sp,s.es,s.em⟩) hr hL h256 (fun es em=>hC es em _ _) (RC.mk (ad B.it) (ad B.cc) (ad B.co) B.c3 (fun _=>⟨Ee (PP w b c) ⟨eG (KL fl f t t0 t1 t2),BV (VL f B v nt e0 tn td tb ta tm tc t1 (.ref (.add e2 1994)))⟩ (ad B.xl)⟩) (fun _=>14) (fun j=>cond (Nat.beq j 4) ⟨875,11,875,32⟩ (q j)) sl) (fun _=>B.fr) hsl gh (n2+0) (t2+1) tc hk hz
 have hreg:∀k,k<32→(s.r k).1=(r k).1:=I.rg
 refine⟨⟨s.z,s.p,s.r,((aw 4 (ak (Int.ofNat v) 1000)),(.add t1 5619)),(gW v,tm),s.sp,es1,em1⟩,o,r,gh1,n3+0,t3+7,⟨eG (KL fl f t t0 t1 t2),BV (VL f B v nt e0 tn td tb ta tm tc t1 (.ref (.add e2 1994)))⟩,dD (ad B.cc) (ad B.co) B.c3,hk1,hl1,I.board,.inr rfl,fun sE nE tE fo mo io oo xo HR=>?_⟩
 exact kc (turn_x w b c (aL A B) s gh n t 120 (ar [n0,n1,n2,n3,nE]) (ar [t0,t1,t2,t3,tE]) (fun i _=>cond (Nat.beq i 0) e0 (cond (Nat.beq i 2) e2 e3)) f sl ml mm i nt (.add tn 5615) td tb ta tm tc u2 281 tc B.c3 kt o o r r (Int.ofNat v) (Int.ofNat (i9 v)) (Int.ofNat (gm v)) (Int.ofNat (gn v)) (gW v) (Int.ofNat (WD v)) (an (v%6)) (ap (v%6)) ⟨s.z,s.p,s.r,((aw 4 (ak (Int.ofNat v) 1000)),(.add t1 5619)),(gW v,tm),s.sp,es1,em1⟩ sE gh1 [] fo mo io oo xo q fl (Nat.ble 3 (v%6)) _ _ (F6 _ _) (Go _ _) (fk (du Lim.h hx)<|fk (nb (kd H0))<|fk (au Lim.h hj)<|fk (ac Lim.h hq)<|fk (nb (kd H1))<|fk (nb (kd H2))<|fk (T_tup2 Lim.h)<|fk (kc (Az Lim.h (s:=s.r) (r:=r) hreg))<|aa) (ab ⟨by kernel_rfl,bO (by kernel_rfl) (kd H3)⟩ (ab ⟨by kernel_rfl,bO (by kernel_rfl) (kd HR)⟩ aa)) (fc (uT _) (fc (pc_no v) aa)) (fun x hx=>nomatch hx))
end
theorem GA(v:Nat):256≤gn v:=by
 have key:∀x∈E33,256≤x:=by decide
 exact key _ (qa v)
section
variable{w:World}{b c:Bool}{A:AS}{B:LA}{q:Nat→PySem.Pos}{f:FS}{sl:Array (Option Value)}{ml:List Value}{mm i:Nat}{kt:Nat→Nat}{s:BS}{o r:Nat→Int×Nat}
theorem EQ(I:InvA s o r)(hsl:sl=#[]∨sl=dD (ad B.cc) (ad B.co) B.c3){v nt:Nat}(hx:ml[i]?=some (.int (Int.ofNat v) nt)){num:Nat}(hnum:num=3∨num=14):vZ w b c A B q num f sl ml mm i kt s o r:=by
 obtain⟨h1,h2,h3,h4⟩:=oQ v
 obtain⟨m,hm,hm3⟩:=md_mem v
 cases h:(cQ (gn v) m (o 774).1.toNat (o 262).1.toNat&&!(jO (v%6) (gm v)&&Nat.ble 3072 (gn v))) with
 |true=>
  obtain⟨fz,fp,fr,fo,fx,hC,hD,hI⟩:=Dw (w:=w) (b:=b) (c:=c) (A:=A) I h1 h2 h3 (qa v) hm3 h
  have hC':∀(es:Array DictEntry) (em pt mt:Nat),bD w b c A ⟨s.z,s.p,s.r,(aw 4 (ak (Int.ofNat v) 1000),pt),(gW v,mt),s.sp,es,em⟩ (an (v%6)) (Int.ofNat (i9 v)) (Int.ofNat (rsOf (v%6) (gm v))) (imOf (v%6) (gm v)) (Int.ofNat (gn v)) fz fp fr:=by
   rw[hm];exact fun es em pt mt=>hC es em _ mt
  rw[←hm]at hD
  rcases hnum with rfl|rfl
  ·exact uj I hsl hx false hC' hD hI
  ·exact uj I hsl hx true hC' hD hI
 |false=>
  obtain⟨hC,hD⟩:=Ic (w:=w) (b:=b) (c:=c) (A:=A) I h1 h2 h3 (qa v) hm3 h
  have hC':∀(es:Array DictEntry) (em pt mt:Nat),eF w b c A ⟨s.z,s.p,s.r,(aw 4 (ak (Int.ofNat v) 1000),pt),(gW v,mt),s.sp,es,em⟩ (an (v%6)) (Int.ofNat (i9 v)) (Int.ofNat (rsOf (v%6) (gm v))) (imOf (v%6) (gm v)) (Int.ofNat (gn v)):=by
   rw[hm];exact fun es em pt mt=>hC es em _ mt
  rw[←hm]at hD
  rcases hnum with rfl|rfl
  ·exact v6 I hsl hx false (GA v) hC' hD
  ·exact v6 I hsl hx true (GA v) hC' hD
end
section
variable(w:World)(b c:Bool)(A:AS)(s:BS)(gh:List (Addr×Obj))(n t L:Nat)
include w b c A s gh n t L
theorem lend(nn tt:Nat→Nat)(vv:Nat→Nat→Nat)(fo co cp:Obj)(ml:List Value)(mm i c3:Nat)(q:Nat→PySem.Pos)(hc:∀k∈([⟨.builtin "list_iterator.__next__" ⟨[(.ref (.add (A.a 2) 1994))],[]⟩,5,0,[(2,cm (.add (A.a 1) 1994) i),(1,ah ml mm)],.error (.ref (.add (vv 0 0) 1994)),7,1,[(2,fH i),(1,ah ml mm),(6,iq (.add (vv 0 1) 1994))]⟩]:List Call),br (MM w b c) (gX w b c (bI (bG A) [(7,Nat.add (nn 0) 1994),(6,Nat.add (vv 0 0) 1994),(5,Nat.add n 1994)]) (aQ [(1,Nat.add (tt 0) 5615),(0,Nat.add t 5615)]) (Ga gh)) L k) :
 TY w b c (40+L) [(.func ej (gL (.add (A.a 0) 1994) (.add (A.a 3) 1994) (.add (A.a 4) 1994) c3),q 5),(.builtin "claim.caller" {},q 6)] (my ej 7 (.add (A.a 2) 1994) (gL (.add (A.a 0) 1994) (.add (A.a 3) 1994) (.add (A.a 4) 1994) c3)) (Ga gh) (bI (bG A) [(7,Nat.add (nn 0) 1994),(6,Nat.add (vv 0 0) 1994),(5,Nat.add n 1994)]) (aQ [(1,Nat.add (tt 0) 5615),(0,Nat.add t 5615)]) 5 [(0,fo),(1,ah ml mm),(2,cm (.add (A.a 1) 1994) i),(3,co),(4,cp)] (.ok Flow.next) 7 [(0,fo),(1,ah ml mm),(2,fH i),(3,co),(4,cp)] 1:=
 mJ (H:=hm [3,3,1001,7]) hc (cb:=[]) (bls:=[]) (fun _ h=>nomatch h) (lu:=[]) (fun _ h=>nomatch h) rfl rfl (fun p=>by kernel_rfl) (cs:=[]) (fun _ h=>nomatch h) cA
end
theorem wJ{α:Type}(L:List α)(a b c d e f g:α):([a,b,c,d,e]++(L++[f,g])).Perm (L++[a,b,c,f,g,d,e]):=by
 refine(List.perm_append_comm.trans (List.Perm.of_eq (List.append_assoc L [f,g] [a,b,c,d,e]))).trans (List.Perm.append_left L ?_)
 exact(List.perm_append_comm (l₁:=[f,g]) (l₂:=[a,b,c,d,e])).trans (List.Perm.append_left [a,b,c] (List.perm_append_comm (l₁:=[d,e]) (l₂:=[f,g])))
theorem I7(w:World)(b c:Bool)(A:AS)(B:LA)(q:Nat→PySem.Pos)(num:Nat)(f:FS)(sl:Array (Option Value))(ml:List Value)(mm i:Nat)(kt:Nat→Nat)(s:BS)(o r:Nat→Int×Nat)(hx:ml[i]?=none)(gh:List (Addr×Obj))(n t:Nat):
  TA w b c A 120 (B4 B q) (GN B) gh (Fo (PP w b c) A B num f sl ml mm i kt o r) s n t (.ok .next) [] (Fe A B (ss (PP w b c) num f (ad B.xl) sl) (ah ml mm) (fH i) (bq (PP w b c) kt o) (xO r)) s (n+2) t:=by
 let X:List (Addr×Obj):=bd w b c A s++[(ad B.ow,bq (PP w b c) kt o),(ad B.xl,xO r)]
 have key:=lend w b c ⟨gt [(0,B.fr),(1,B.ma),(2,B.it),(3,B.cc),(4,B.co)] (fun _=>0),A.k⟩ s X n t 80 (fun _=>n+2) (fun _=>t) (fun _ j=>cond (Nat.beq j 0) (n+1) n) (ss (PP w b c) num f (ad B.xl) sl) (cP (ad (A.a 0))) (cP (ad B.ow)) ml mm i B.c3 q
  (ab ⟨by kernel_rfl,TriC.cast (jj (p:=prog2) (w:=W2 w b c) (S:=bV (PP w b c)) (B:=1994) (gh:=X) (n:=Nat.add n 1994) (t:=Nat.add t 5615) (C:=fun Γ=>Lim Γ 80) Lim.h (it:=ad B.it) (l:=ad B.ma) (i:=i) (m:=mm) (xs:=ml) hx)
   (by kernel_rfl) rfl rfl (post1:=[(ad B.it,fH i),(ad B.ma,ah ml mm),(.add (n+1) 1994,iq (.add n 1994))]) (by rw[←nf n 1994 1]) (nf n 1994 2) rfl rfl rfl (by rw[show Nat.add n 1994+1=Nat.add (n+1) 1994 from nf n 1994 1];rfl)⟩ aa)
 have k2:=TriC.give key (X:=X) (gh:=gh) (gh':=[]) (fun y hy=>.inl hy) (fun y hy=>nomatch hy)
 refine TriC.perm k2 ?_ ?_
 ·show ([(ad B.fr,ss (PP w b c) num f (ad B.xl) sl),(ad B.ma,ah ml mm),(ad B.it,cm (ad B.ma) i),(ad B.cc,cP (ad (A.a 0))),(ad B.co,cP (ad B.ow))]++(bd w b c A s++[(ad B.ow,bq (PP w b c) kt o),(ad B.xl,xO r)])).Perm
   (bd w b c A s++[(ad B.fr,ss (PP w b c) num f (ad B.xl) sl),(ad B.ma,ah ml mm),(ad B.it,cm (ad B.ma) i),(ad B.ow,bq (PP w b c) kt o),(ad B.xl,xO r),(ad B.cc,cP (ad (A.a 0))),(ad B.co,cP (ad B.ow))])
  exact wJ _ _ _ _ _ _ _ _
 ·exact wJ _ _ _ _ _ _ _ _
theorem Jo{w:World}{b c:Bool}{A:AS}{bl:List (Code×PySem.Pos)}(hb:unitsOf bl+640<700){cd:Code}{gh X:List (Addr×Obj)}{s:BS}{n t:Nat}{r:Result}{gh' Y:List (Addr×Obj)}{s':BS}{n' t':Nat}
  (H:TA w b c A 160 bl cd gh X s n t r gh' Y s' n' t'):TA w b c A 120 bl cd gh X s n t r gh' Y s' n' t':=
 TriC.mono (fun Γ h=>⟨⟨h.1.1,by rw[h.2];omega⟩,h.2⟩) H
theorem gN(e:Env)(p0 p1:PySem.Pos):unitsOf [(.func ej e,p1),(.builtin "claim.caller" {},p0)]+640<700:=by
 have h:=hH ((.func ej e,p1):Code×PySem.Pos) [(.builtin "claim.caller" {},p0)]
 have h2:=hH ((.builtin "claim.caller" {},p0):Code×PySem.Pos) []
 have h3:unitsOf ([]:List (Code×PySem.Pos))=0:=rfl
 omega
theorem vW(B:LA)(q:Nat→PySem.Pos):unitsOf (B4 B q)+640<700:=gN _ _ _
inductive forRunX (w:World) (b:Bool) (c:Bool) (A:AS) (B:LA) (q:Nat→PySem.Pos) (ml:List Value) (mm:Nat) (kt:Nat→Nat) (i:Nat) (num:Nat) (f:FS) (sl:Array (Option Value)) (s:BS) (o:Nat→Int×Nat) (r:Nat→Int×Nat) (gh:List (Addr×Obj)) (n:Nat) (t:Nat):Prop where
 |mk (sE:BS) (oE rE:Nat→Int×Nat) (f':FS) (sl':Array (Option Value)) (io:Obj) (nE tE:Nat) (h0_:InvA sE oE rE) (h1_:(sl'=#[]∨sl'=dD (ad B.cc) (ad B.co) B.c3)) (h2_:TA w b c A 120 (B4 B q) (GN B) gh (Fo (PP w b c) A B num f sl ml mm i kt o r) s n t (.ok .next) [] (Fe A B (ss (PP w b c) 14 f' (ad B.xl) sl') (ah ml mm) io (bq (PP w b c) kt oE) (xO rE)) sE nE tE):forRunX w b c A B q ml mm kt i num f sl s o r gh n t
theorem forRun(w:World)(b c:Bool)(A:AS)(B:LA)(q:Nat→PySem.Pos)(ml:List Value)(mm:Nat)(kt:Nat→Nat)(hm:∀i,i<ml.length→∃v nt:Nat,ml[i]?=some (.int (Int.ofNat v) nt)):∀(k i num:Nat) (f:FS) (sl:Array (Option Value)) (s:BS) (o r:Nat→Int×Nat) (gh:List (Addr×Obj)) (n t:Nat),i+k=ml.length→(num=3∨num=14)→(k=0→num=14)→(sl=#[]∨sl=dD (ad B.cc) (ad B.co) B.c3)→InvA s o r→KInv (PP w b c) s.es gh→s.es.toList.length+k≤1000→
   forRunX w b c A B q ml mm kt i num f sl s o r gh n t:=by
 intro k
 induction k with
 |zero=>
  intro i num f sl s o r gh n t hi hn h0 hsl I hK hl
  have e:=h0 rfl
  subst e
  exact⟨s,o,r,f,sl,fH i,n+2,t,I,hsl,I7 w b c A B q 14 f sl ml mm i kt s o r (List.getElem?_eq_none (by omega)) gh n t⟩
 |succ k ih=>
  intro i num f sl s o r gh n t hi hn h0 hsl I hK hl
  obtain⟨v,nt,hx⟩:=hm i (by omega)
  obtain⟨s2,o1,r1,gh1,n1,t1,f1,sl1,hK1,hl1,I1,hsl1,hrest⟩:=EQ I hsl hx hn gh n t hK (by omega)
  obtain⟨sE,oE,rE,f',sl',io,nE,tE,IE,hslE,H⟩:=ih (i+1) 14 f1 sl1 s2 o1 r1 gh1 n1 t1 (by omega) (.inr rfl) (fun _=>rfl) hsl1 I1 hK1 (by omega)
  exact⟨sE,oE,rE,f',sl',io,nE,tE,IE,hslE,Jo (vW B q) (hrest sE nE tE _ _ _ _ _ H)⟩
section
variable{prog:Program}{w:World}{S:HT}{B:Nat}{gh pre:List (Addr×Obj)}{n t t':Nat}{C:Ctx→Prop}(hC:∀Γ,C Γ→Γ.handled=none)
include hC
theorem mz{cd:Code}{o:Obj}(hf:o.isFreed=false)(H:∀Γ P h gs d os,Γ.handled=none→(∀x∈pre,h.get? x.1=some x.2)→h.objs.size=n→Runs (model prog w) Γ P ((model prog w).den cd) [] ⟨h,gs,d,t,os⟩ (.ret (.ok (.ret (.ref n)))) ⟨h.push o,gs,d,t',os⟩):
  TriC (model prog w) S B C cd gh pre n t (.ok (.ret (.ref n))) gh (pre++[(n,o)]) (n+1) t':=by
 intro nd lo big Γ P h gs dd os hΓ hL hn hs hpre hgh
 have k:∀b' q,h.get? b'=some q→(h.push o).get? b'=some q:=fun b' q hb=>Heap.get?_push_of_some _ hb
 have lt:∀x∈pre,x.1<n:=fun x hx=>hn▸Heap.lt_size (hpre x hx)
 refine⟨h.push o,H Γ P h gs dd os (hC Γ hL) hpre hn,by rw[size_push,hn],Nat.le_succ _,life_push _ _,?_,fun x hx=>?_,fun b' hb hnb q hq=>k b' q hq,fun x hx=>?_⟩
 ·rw[List.map_append,List.nodup_append]
  refine⟨nd,by simp,fun a ha b hb=>?_⟩
  obtain⟨x,hx,rfl⟩:=List.mem_map.mp ha
  rw[List.mem_singleton.mp hb]
  exact Nat.ne_of_lt (lt x hx)
 ·rcases List.mem_append.mp hx with q|q
  ·exact⟨.inl (List.mem_map.mpr ⟨x,q,rfl⟩),k _ _ (hpre x q)⟩
  ·rw[List.mem_singleton.mp q]
   refine⟨.inr (Nat.le_refl _),?_⟩
   have:=Heap.get?_push_size h (o:=o) hf
   rw[hn]at this
   exact this
 ·obtain⟨x1,x2⟩:=hgh x hx
  have xlt:=Heap.lt_size x1
  rw[hn]at xlt
  refine⟨k _ _ x1,fun z=>?_,.inl (List.mem_map.mpr ⟨x,hx,rfl⟩)⟩
  rw[List.map_append]at z
  rcases List.mem_append.mp z with q|q
  ·exact x2 q
  ·exact Nat.ne_of_lt xlt (List.mem_singleton.mp q)
def slK(k:Int)(t:Nat):Obj:=⟨.type "slice",none,.fields #[.none,.int k t,.none],#[]⟩
theorem T_upto{l sl:Addr}{tk m k:Nat}{xs:List Value}(hz:xs.length≤sizeLine):
  TriC (model prog w) S B C (.builtin "list.__getitem__" ⟨[.ref l,.ref sl],[]⟩) gh [(l,ah xs m),(sl,slK k tk)] n t (.ok (.ret (.ref n))) gh [(l,ah xs m),(sl,slK k tk),(n,ah (xs.take k) 0)] (n+1) t:=
 mz hC rfl fun Γ P h gs dd os hh hp hn=>by
  have ho:h.get? l=some (ah xs m):=hp (l,_) List.mem_cons_self
  have hos:h.get? sl=some (slK k tk):=hp (sl,_) (List.mem_cons_of_mem _ List.mem_cons_self)
  rw[cM entry_list_getitem]
  refine bL hh fun A hA=>?_
  show wpAny _ _ (Builtin.List.listSubscript? (.ref sl) >>= _) _ _ _
  refine wpAny_bind ?_
  unfold Builtin.List.listSubscript?
  refine wpAny_bind (wpAny_specialOf (T:="slice") ⟨_,hos,rfl⟩ slice_no_index ?_)
  simp only[Option.isNone_none,if_true]
  refine wpAny_pure ?_
  show wpAny _ _ (typeOf (.ref sl) >>= _) _ _ _
  refine wpAny_bind (wpAny_typeOf (T:="slice") ⟨_,hos,rfl⟩ ?_)
  rw[if_neg (by decide)]
  rw[listSliceParts_eq]
  refine wpAny_bind (wpAny_bind (wpAny_field hos rfl (x:=.none) rfl (wpAny_bind (wpAny_listPart .none ?_))))
  rw[if_neg (show ¬((rawPart none==rawInt 0)=true) from Bool.false_ne_true)]
  refine wpAny_bind (wpAny_field hos rfl (x:=.none) rfl (wpAny_bind (wpAny_listPart .none ?_)))
  refine wpAny_bind (wpAny_field hos rfl (x:=.int k tk) rfl (wpAny_bind (wpAny_listPart (.int k tk) (wpAny_pure ?_))))
  refine wpAny_bind (m:=Builtin.List.listItems (.ref l)) ?_
  unfold Builtin.List.listItems
  refine wpAny_bind (wpAny_seqItems ho rfl (wpAny_pure ?_))
  refine wpAny_bind (wpAny_of_eq (sliceIndices_raw none (some (k:Int)) none _ (by simp)) ?_)
  refine wpAny_bind (wpAny_newObj_type (wpAny_pure ?_) (Nat.le_trans (slicePick_size_le _ none (some (k:Int)) none) (by simpa using hz)))
  have:=slicePick_upto' ⟨xs⟩ k
  unfold slicePick at this
  refine⟨?_,?_⟩
  ·show PySem.Fin.done (.ret (.ref h.objs.size))=_
   rw[hn]
  ·show (⟨h.push {cls:=.type "list",data:=.seq _},gs,dd,t,os⟩:Shared)=_
   rw[this];simp[ah]
theorem zp{a b:Addr}{xs ys:List Value}{k m:Nat}(hz:xs.length+ys.length≤sizeLine):
  TriC (model prog w) S B C (.builtin "list.__add__" ⟨[.ref a,.ref b],[]⟩) gh [(a,ah xs k),(b,ah ys m)] n t (.ok (.ret (.ref n))) gh [(a,ah xs k),(b,ah ys m),(n,ah (xs++ys) 0)] (n+1) t:=
 mz hC rfl fun Γ P h gs dd os hh hp hn=>by
  rw[cM F.entry_list_add]
  refine di (list_addW a b ⟨xs⟩ ⟨ys⟩ k m none none #[] #[] (by simpa using hz)) hh fun A hA=>⟨hp (a,_) List.mem_cons_self,hp (b,_) (List.mem_cons_of_mem _ List.mem_cons_self),?_⟩
  rw[show (⟨xs⟩++⟨ys⟩:Array Value)=⟨xs++ys⟩ by simp]
  exact⟨by rw[hn],rfl⟩
theorem zD{a:Addr}{xs:List Value}{m u:Nat}{d:Bool}{x:Int}(hx:x=cond d 1 0)(hz:xs.length≤1000)(h0:xs≠[]):
  TriC (model prog w) S B C (.builtin "list.__mul__" ⟨[.ref a,.int x u],[]⟩) gh [(a,ah xs m)] n t (.ok (.ret (.ref n))) gh [(a,ah xs m),(n,ah (cond d xs []) 0)] (n+1) t:=
 mz hC rfl fun Γ P h gs dd os hh hp hn=>by
  rw[cM F.entry_list_mul]
  have h1:x.toNat≤1:=by subst hx;cases d<;>decide
  have h2:xs.length*x.toNat≤1000:=Nat.le_trans (Nat.mul_le_mul_left _ h1) (by omega)
  refine di (lm_list_mul_any a ⟨xs⟩ m none #[] x u (by subst hx;cases d<;>decide) (by show ¬xs.length*x.toNat>_;omega) (by show ¬Builtin.List.listTooLong (xs.length*x.toNat)=true;simp[Builtin.List.listTooLong,sizeLine];omega)) hh fun A hA=>⟨hp (a,_) List.mem_cons_self,?_⟩
  have e:List.foldl (fun x1 x2=>x1++x2) #[] (List.replicate (if (Array.mk xs).isEmpty=true then 0 else x.toNat) (Array.mk xs))=Array.mk (cond d xs []):=by
   cases xs with
   |nil=>exact absurd rfl h0
   |cons y l=>
    subst hx
    rw[if_neg (by simp)]
    cases d<;>simp
  rw[e]
  exact⟨by rw[hn],rfl⟩
theorem BJ{a b:Addr}{l r:List Value}{k m:Nat}(hl:cy l=true)(hr:cy r=true)(hlen:l.length=r.length):TriC (model prog w) S B C (.builtin "list.__eq__" ⟨[.ref a,.ref b],[]⟩) gh [(a,ah l k),(b,ah r m)] n t
  (.ok (.ret (.bool (eqLs l r)))) gh [(a,ah l k),(b,ah r m)] n t:=
 iP hC F.entry_list_eq (SeqAt.list_eqAt a b ⟨l⟩ ⟨r⟩ k m none none #[] #[] hlen (fun j=>kU (l.getD j .none) (r.getD j .none))) fun A R s _ ht hp hR=>
  ⟨hp (a,_) List.mem_cons_self,hp (b,_) (List.mem_cons_of_mem _ List.mem_cons_self),jb hl hr,by
   have e:(List.range (Array.mk l).size).all (fun j=>kU (l.getD j .none) (r.getD j .none))=eqLs l r:=by
    rw[←jk,hlen,Nat.min_self];simp[hlen]
   subst ht;rw[e];exact hR⟩
end
theorem upd2(h:Heap)(a:Addr)(f g:Obj→Obj):(h.update a f).update a g=h.update a (fun o=>g (f o)):=by
 obtain⟨objs,l⟩:=h
 show (⟨(objs.modify a f).modify a g,l⟩:Heap)=⟨objs.modify a fun o=>g (f o),l⟩
 congr 1
 apply Array.ext
 ·simp
 ·intro i h1 h2
  rw[Array.getElem_modify,Array.getElem_modify,Array.getElem_modify]
  split<;>rfl
section
variable{prog:Program}{w:World}{S:HT}{B:Nat}{gh:List (Addr×Obj)}{n t:Nat}{C:Ctx→Prop}(hC:∀Γ,C Γ→Γ.handled=none)
include hC
theorem wj{a l:Addr}{xs:List Value}{m:Nat}(hz:xs.length≤1000)(h0:xs≠[]):
  TriC (model prog w) S B C (.builtin "list.__init__" ⟨[.ref a,.ref l],[]⟩) gh [(a,ah [] 0),(l,ah xs m)] n t (.ok (.ret .none)) gh [(a,ah xs 1),(l,ah xs m)] n t:=by
 have e:Obj.mapSeq (fun ys=>ys++(⟨xs⟩:Array Value)) (Obj.mapSeq (fun _=>#[]) (ah [] 0))=ah xs 1:=by
  show (⟨.type "list",none,.seq (#[]++⟨xs⟩) (if (#[]++(⟨xs⟩:Array Value)).size==(#[]:Array Value).size then 0 else 0+1),#[]⟩:Obj)=_
  rw[if_neg (by cases xs with
   |nil=>exact absurd rfl h0
   |cons y l=>simp)]
  simp[ah]
 have key:=gi (p:=prog) (w:=w) (S:=S) (B:=B) (gh:=gh) (pre:=[(l,ah xs m)]) (n:=n) (t:=t) (t':=t) (f:=.ret .none) (cd:=.builtin "list.__init__" ⟨[.ref a,.ref l],[]⟩) hC (a:=a) (o:=ah [] 0) (g:=fun o=>Obj.mapSeq (fun ys=>ys++(⟨xs⟩:Array Value)) (Obj.mapSeq (fun _=>#[]) o)) (by rw[e];rfl) fun Γ P h gs dd os hh lo hp=>by
  rw[cM F.entry_list_init]
  refine bL hh fun A hA=>?_
  have hS:h.get? a=some (ah [] 0):=hp (a,_) List.mem_cons_self
  have hl:h.get? l=some (ah xs m):=hp (l,_) (List.mem_cons_of_mem _ List.mem_cons_self)
  by_cases hal:a=l
  ·subst hal
   rw[hS]at hl
   injection hl with hl
   have:(#[]:Array Value)=⟨xs⟩:=by
    have:=congrArg Obj.data hl
    injection this
   have:xs=[]:=(congrArg Array.toList this).symm
   exact absurd this h0
  show wpAny _ _ (do let old ←Builtin.List.listItems (.ref a);Builtin.List.listUpdate (.ref a) (fun _=>#[]);letGo old.toList.reverse;Builtin.List.listExtendWith (.ref a) (.ref l) .none) _ _ _
  refine wpAny_bind ?_
  unfold Builtin.List.listItems
  refine wpAny_bind (wpAny_seqItems hS rfl (wpAny_pure ?_))
  show wpAny _ _ (updateSeq a (fun _=>#[]) >>= fun _=>letGo (#[]:Array Value).toList.reverse >>= fun _=>Builtin.List.listExtendWith (.ref a) (.ref l) .none) _ _ _
  refine wpAny_bind (wpAny_updateSeq hS rfl ?_)
  have hS₂:=Heap.get?_update_self (Obj.mapSeq (fun _=>(#[]:Array Value))) hS rfl
  have hl2:(h.update a (Obj.mapSeq (fun _=>(#[]:Array Value)))).get? l=some (ah xs m):=(Heap.get?_update_other _ _ hal).trans hl
  refine wpAny_bind (wpAny_letGo ?_)
  unfold Builtin.List.listExtendWith
  refine wpAny_bind (wpAny_typeOf (T:="list") ⟨_,hl2,rfl⟩ ?_)
  rw[if_pos (by simp)]
  refine wpAny_bind (m:=Builtin.List.listItems (.ref l)) ?_
  unfold Builtin.List.listItems
  refine wpAny_bind (wpAny_seqItems hl2 rfl (wpAny_pure ?_))
  refine wpAny_bind ?_
  refine wpAny_bind (wpAny_seqItems hS₂ rfl (wpAny_pure ?_))
  show wpAny _ _ (updateSeq a (fun ys=>ys++(⟨xs⟩:Array Value)) >>= fun _=>ret .none) _ _ _
  refine wpAny_bind (wpAny_updateSeq hS₂ rfl ?_ (by decide) (by show (#[]++(⟨xs⟩:Array Value)).size≤_;simp[sizeLine];omega))
  refine wpAny_pure ⟨rfl,?_⟩
  show (⟨(h.update a _).update a _,gs,dd,t,os⟩:Shared)=⟨h.update a _,gs,dd,t,os⟩
  rw[upd2]
 rw[e]at key
 exact key
theorem rC{d:Addr}{l:List DictEntry}{ep:Nat}{k:Int⊕Str}{key v:Value}{e:DictEntry}(hkey:mixIs k key=true)(hk:dx w l)(hz:l.length≤1000)(hi:((Array.mk l).findIdx? fun e=>mixIs k e.key)=none)(he:e=⟨f8 w k,key,v⟩):
  TriC (model prog w) S B C (.builtin "dict.__setitem__" ⟨[.ref d,key,v],[]⟩) gh [(d,dO l ep)] n t (.ok (.ret .none)) gh [(d,dO (l++[e]) (ep+1))] n (t+1):=by
 subst he
 have e:Obj.mapDictKeys (·.push ⟨f8 w k,key,v⟩) (dO l ep)=dO (l++[⟨f8 w k,key,v⟩]) (ep+1):=by
  show (⟨.type "dict",none,.dict ((Array.mk l).push ⟨f8 w k,key,v⟩) (ep+1),#[]⟩:Obj)=_
  simp[dO]
 have kk:=gi (p:=prog) (w:=w) (S:=S) (B:=B) (gh:=gh) (pre:=[]) (n:=n) (t:=t) (t':=t+1) (f:=.ret .none) (cd:=.builtin "dict.__setitem__" ⟨[.ref d,key,v],[]⟩) hC (a:=d) (o:=dO l ep) (g:=Obj.mapDictKeys (·.push ⟨f8 w k,key,v⟩)) (by rw[e];rfl) fun Γ P h gs dd os hh lo hp=>by
  rw[cM entry_dict_setitem]
  refine bL hh fun A hA=>?_
  have ho:h.get? d=some (dO l ep):=hp (d,_) List.mem_cons_self
  show wpAny _ _ (Builtin.Dict.notOrdered "__setitem__" ⟨[.ref d,key,v],[]⟩ >>= _) _ _ _
  refine wpAny_bind (wpAny_notOrdered_dict ⟨_,ho,rfl⟩ ?_)
  show wpAny _ _ (dictSet d key v >>= _) _ _ _
  refine wpAny_bind ?_
  unfold dictSet
  try with_reducible refine wpAny_holding ?_
  refine wpAny_bind ((eD prog w).pyHash hkey ?_)
  unfold dictSetHashed
  try with_reducible refine wpAny_holding ?_
  refine wpAny_bind (wpAny_dictFind_of (knd:=eD prog w) (s:=⟨h,gs,dd,t+1,os⟩) hkey ho rfl (lM hk) ?_)
  rw[show ((Array.mk l).findIdx? fun e=>(eD prog w).is k e.key)=none from hi]
  exact wpAny_bind (wpAny_rule (wpAny_updateDictKeys (hz:=by show l.length≤_;simp[sizeLine];omega) (s:=⟨h,gs,dd,t+1,os⟩) ho rfl (wpAny_pure ⟨rfl,rfl⟩)))
 rw[e]at kk
 exact kk
end
section
variable(w:World)(b c:Bool)(A:AS)(s:BS)(gh:List (Addr×Obj))(n t L:Nat)
include w b c A s gh n t L
theorem sum_c(nn tt:Nat→Nat)(ml:List Value)(mm:Nat)(q:Int×Nat)(io so:Obj)(hc:∀k∈([⟨.builtin "sum.loop" ⟨[.ref (.add n 1994),.ref (.add n 1995),.int 0 0,.int 0 0],[]⟩,10,1,[(8,cm (.add (A.a 7) 1994) 0),(7,ah ml mm),(9,ah [.int 0 (.add t 5615)] 0)],.ok (.ret (.int q.1 q.2)),11,2,[(8,io),(7,ah ml mm),(9,so)]⟩]:List Call),br (MM w b c) (gX w b c (bI (bG A) [(11,Nat.add (nn 0) 1994),(8,Nat.add n 1994)]) (aQ [(2,Nat.add (tt 0) 5615),(0,Nat.add t 5615)]) (Ga gh)) L k):
 TX w b c (40+L) (.call (.builtin "sum") ⟨[.ref (.add (A.a 7) 1994)],[]⟩) (Ga gh) (bI (bG A) [(11,Nat.add (nn 0) 1994),(8,Nat.add n 1994)]) (aQ [(2,Nat.add (tt 0) 5615),(0,Nat.add t 5615)]) 8 [(7,ah ml mm)] (.ok (.ret (.int q.1 q.2))) 11 [(7,ah ml mm)] 2:=
 mG (H:=hm [8,8,8,9,1001]) hc (lu:=[]) (fun _ h=>nomatch h) rfl rfl (fun bl p=>by kernel_rfl) (cs:=[]) (fun _ h=>nomatch h) cA
theorem abs_p(k tx:Nat):
 TX w b c (40+L) (.call (.builtin "abs") ⟨[.int (Int.ofNat k) tx],[]⟩) (Ga gh) (Ra A n) (Ka t) 7 [] (.ok (.ret (.int (Int.ofNat k) tx))) 7 [] 0:=
 mG (H:=hm []) aa (lu:=[]) (fun _ h=>nomatch h) rfl rfl (fun bl p=>by kernel_rfl) (cs:=[]) (fun _ h=>nomatch h) cA
theorem abs_1(tx:Nat):
 TX w b c (40+L) (.call (.builtin "abs") ⟨[.int (Int.negSucc 0) tx],[]⟩) (Ga gh) (Ra A n) (Ka t) 7 [] (.ok (.ret (.int 1 (Ka t 0)))) 7 [] 1:=
 mG (H:=hm []) aa (lu:=[]) (fun _ h=>nomatch h) rfl rfl (fun bl p=>by kernel_rfl) (cs:=[]) (fun _ h=>nomatch h) cA
theorem abs_n(k tx:Nat):
 TX w b c (40+L) (.call (.builtin "abs") ⟨[.int (Int.negSucc (Nat.succ k)) tx],[]⟩) (Ga gh) (Ra A n) (Ka t) 7 [] (.ok (.ret (.int (Neg.neg (Int.negSucc (Nat.succ k))) (Ka t 0)))) 7 [] 1:=
 mG (H:=hm []) aa (lu:=[]) (fun _ h=>nomatch h) rfl rfl (fun bl p=>by kernel_rfl) (cs:=[]) (fun _ h=>nomatch h) cA
end
section
variable(w:World)(b c:Bool)(A:AS)(s:BS)(gh:List (Addr×Obj))(n t L:Nat)(nn tt:Nat→Nat)(vv:Nat→Nat→Nat)(bl0:List (Code×PySem.Pos))(fo io ao lo:Obj)(ml ys yz:List Value)(lv:Value)(mm ym yn i lk nt at_:Nat)(nv av:Int)(kt:Nat→Nat)(o:Nat→Int×Nat)
def aJ(Y0:Nat):Nat:=Nat.add (A.a Y0) 1994
def uX:Code:=pA 1 (aJ A 7) (aJ A 9) (aJ A 10) (aJ A 11) [(tT,(aJ A 12))]
def vh:Code:=pA 2 (aJ A 0) (aJ A 2) (aJ A 3) (aJ A 4) [(FP,(aJ A 5))]
def pW:List (Nat×Obj):=al w b c A s++[(7,io),(8,ah ml mm),(9,ao),(10,lo),(11,fo),(12,cP (aJ A 0))]
def tU:Code:=pA 0 (aJ A 0) (aJ A 2) (aJ A 3) (aJ A 4) []
def eY:Nat×Obj:=(6,bq (PP w b c) kt o)
def qw(Y0:Nat):Code:=cB "list_iterator.__next__" [(rA A Y0)]
def jw(x0 x1 x2:Nat):List (Nat×Nat):=[(x0,Nat.add (nn 1) 1994),(x1,Nat.add (nn 0) 1994),(x2,Nat.add n 1994)]
def jr(x0 x1:Nat):List (Nat×Nat):=[(x0,Nat.add (tt 1) 5615),(x1,Nat.add (tt 0) 5615),(0,Nat.add t 5615)]
def oa(x0:Nat):Call:=⟨qw A 0,x0,0,[(0,cm (aJ A 1) i),(1,ah ml mm)],rV (.int nv nt),x0,0,[(0,cm (aJ A 1) (i+1)),(1,ah ml mm)]⟩
def xq:Call:=⟨cB "list.append" [(rA A 2),(.int (ak av 1000000000) (.add (tt 0) 5618))],6,6,[(2,ah ys ym)],rV .none,6,6,[(2,ah yz yn)]⟩
def qT:Code:=(tU A)
def qX(x0 x1 x2:Nat):List (Nat×Nat):=[(x0,Nat.add (nn 0) 1994),(x1,Nat.add (vv 0 0) 1994),(x2,Nat.add n 1994)]
def qB:List (Nat×Nat):=[(1,Nat.add (tt 0) 5615),(0,Nat.add t 5615)]
def w1(x0 x1 x2:Nat):Call:=⟨qw A 0,x0,0,[(0,cm (aJ A 1) i),(1,ah ml mm)],.error (.ref (.add (vv 0 0) 1994)),x1,1,[(0,fH i),(1,ah ml mm),(x2,iq (.add (vv 0 1) 1994))]⟩
def xz:Call:=⟨qw A 7,13,0,[(7,cm (aJ A 8) i),(8,ah ml mm)],rV (.int nv nt),13,0,[(7,cm (aJ A 8) (i+1)),(8,ah ml mm)]⟩
def qU:Code:=(uX A)
def o6:Code:=(vh A)
include w b c A s gh n t L nn tt vv bl0 fo io ao lo ml ys yz lv mm ym yn i lk nt at_ nv av kt o
theorem cm_f:lG w b c A gh L 40 (jw n nn 7 6 5) (jr t tt 7 2) [oa A ml mm i nt nv 5,cS (.call (Value.builtin "abs") ⟨[(.int nv nt)],[]⟩) 5 1 [] (rV (.int av at_)) 6 2,xq A tt ys yz ym yn av] [⟨tU A,6,6,[(0,cm (aJ A 1) (i+1)),(1,ah ml mm),(2,ah yz yn),(3,dO [ag w b c pa (.add t 5615) (.int nv nt)] 1),(4,fo)],.ok .next,7,7,[(0,io),(1,ah ml mm),(2,ao),(3,lo),(4,fo)]⟩] [bl0] bl0 (qT A) 5 [(0,cm (aJ A 1) i),(1,ah ml mm),(2,ah ys ym),(3,dO [] 0),(4,fo)] (.ok Flow.next) 7 [(0,io),(1,ah ml mm),(2,ao),(3,lo),(4,fo)] 7:=lm (hm [1,1,1001,4,4,0,0,4,1002,0,3,1003,1500])
theorem cm_l:lG w b c A gh L 40 (jw n nn 7 6 5) (jr t tt 7 2) [oa A ml mm i nt nv 5,cS (.call (Value.builtin "abs") ⟨[(.int nv nt)],[]⟩) 5 1 [] (rV (.int av at_)) 6 2,xq A tt ys yz ym yn av] [⟨tU A,6,6,[(0,cm (aJ A 1) (i+1)),(1,ah ml mm),(2,ah yz yn),(3,dO [ag w b c pa lk (.int nv nt)] 1),(4,fo)],.ok .next,7,7,[(0,io),(1,ah ml mm),(2,ao),(3,lo),(4,fo)]⟩] [bl0] bl0 (qT A) 5 [(0,cm (aJ A 1) i),(1,ah ml mm),(2,ah ys ym),(3,dO [ag w b c pa lk lv] 1),(4,fo)] (.ok Flow.next) 7 [(0,io),(1,ah ml mm),(2,ao),(3,lo),(4,fo)] 7:=lm (hm [1,1,1001,4,4,0,0,4,1002,0,3,1003,1500])
theorem cm_e:zK w b c A gh L 40 (qX n nn vv 7 6 5) (qB t tt) [w1 A vv ml mm i 5 7 6] bl0 (qT A) 5 [(0,cm (aJ A 1) i),(1,ah ml mm),(2,ah ys ym),(3,lo),(4,fo)] (.ok Flow.next) 7 [(0,fH i),(1,ah ml mm),(2,ah ys ym),(3,lo),(4,fo)] 1:=zB (hm [1,1,1001,7])
theorem cc_f:lG w b c A gh L 40 (jw n nn 15 14 13) (jr t tt 4 3) [xz A ml mm i nt nv,cS (cR 1428 [(rA A 2),(.int nv nt)]) 13 2 (al w b c A s) (rV (.int av at_)) 14 3,⟨cB "list.append" [(rA A 9),(.int av at_)],14,3,[(9,ah ys ym)],rV .none,14,3,[(9,ah yz yn)]⟩] [⟨uX A,14,3,(al w b c A s++[(7,cm (aJ A 8) (i+1)),(8,ah ml mm),(9,ah yz yn),(10,dO [ag w b c jU (.add t 5615) (.int nv nt)] 1),(11,fo),(12,cP (aJ A 0))]),.ok .next,15,4,(pW w b c A s fo io ao lo ml mm)⟩] [bl0] bl0 (qU A) 13 (al w b c A s++[(7,cm (aJ A 8) i),(8,ah ml mm),(9,ah ys ym),(10,dO [] 0),(11,fo),(12,cP (aJ A 0))]) (.ok Flow.next) 15 (pW w b c A s fo io ao lo ml mm) 4:=lm (hm [8,8,1001,11,11,13,2001002,6003004,11,0,1002,10,1003,1500])
theorem cc_l:lG w b c A gh L 40 (jw n nn 15 14 13) (jr t tt 4 3) [xz A ml mm i nt nv,cS (cR 1428 [(rA A 2),(.int nv nt)]) 13 2 (al w b c A s) (rV (.int av at_)) 14 3,⟨cB "list.append" [(rA A 9),(.int av at_)],14,3,[(9,ah ys ym)],rV .none,14,3,[(9,ah yz yn)]⟩] [⟨uX A,14,3,(al w b c A s++[(7,cm (aJ A 8) (i+1)),(8,ah ml mm),(9,ah yz yn),(10,dO [ag w b c jU lk (.int nv nt)] 1),(11,fo),(12,cP (aJ A 0))]),.ok .next,15,4,(pW w b c A s fo io ao lo ml mm)⟩] [bl0] bl0 (qU A) 13 (al w b c A s++[(7,cm (aJ A 8) i),(8,ah ml mm),(9,ah ys ym),(10,dO [ag w b c jU lk lv] 1),(11,fo),(12,cP (aJ A 0))]) (.ok Flow.next) 15 (pW w b c A s fo io ao lo ml mm) 4:=lm (hm [8,8,1001,11,11,13,2001002,6003004,11,0,1002,10,1003,1500])
theorem cc_e:zK w b c A gh L 40 (qX n nn vv 15 14 13) (qB t tt) [⟨qw A 7,13,0,[(7,cm (aJ A 8) i),(8,ah ml mm)],.error (.ref (.add (vv 0 0) 1994)),15,1,[(7,fH i),(8,ah ml mm),(14,iq (.add (vv 0 1) 1994))]⟩] bl0 (qU A) 13 (al w b c A s++[(7,cm (aJ A 8) i),(8,ah ml mm),(9,ah ys ym),(10,lo),(11,fo),(12,cP (aJ A 0))]) (.ok Flow.next) 15 (al w b c A s++[(7,fH i),(8,ah ml mm),(9,ah ys ym),(10,lo),(11,fo),(12,cP (aJ A 0))]) 1:=zB (hm [8,8,1001,15])
theorem co_f:lG w b c A gh L 40 (jw n nn 9 8 7) (jr t tt 3 2) [oa A ml mm i nt nv 7,cS (cR 1962 [(rA A 6),(.int nv nt)]) 7 1 [eY w b c kt o] (rV (.int av at_)) 8 2,⟨cB "list.append" [(rA A 2),(.int av at_)],8,2,[(2,ah ys ym)],rV .none,8,2,[(2,ah yz yn)]⟩] [⟨vh A,8,2,[(0,cm (aJ A 1) (i+1)),(1,ah ml mm),(2,ah yz yn),(3,dO [ag w b c jU (.add t 5615) (.int nv nt)] 1),(4,fo),(5,cP (aJ A 6)),eY w b c kt o],.ok .next,9,3,[(0,io),(1,ah ml mm),(2,ao),(3,lo),(4,fo),(5,cP (aJ A 6)),eY w b c kt o]⟩] [bl0] bl0 (o6 A) 7 [(0,cm (aJ A 1) i),(1,ah ml mm),(2,ah ys ym),(3,dO [] 0),(4,fo),(5,cP (aJ A 6)),eY w b c kt o] (.ok Flow.next) 9 [(0,io),(1,ah ml mm),(2,ao),(3,lo),(4,fo),(5,cP (aJ A 6)),eY w b c kt o] 3:=lm (hm [1,1,1001,4,4,0,6,4,0,1002,3,1003,1500])
theorem co_l:lG w b c A gh L 40 (jw n nn 9 8 7) (jr t tt 3 2) [oa A ml mm i nt nv 7,cS (cR 1962 [(rA A 6),(.int nv nt)]) 7 1 [eY w b c kt o] (rV (.int av at_)) 8 2,⟨cB "list.append" [(rA A 2),(.int av at_)],8,2,[(2,ah ys ym)],rV .none,8,2,[(2,ah yz yn)]⟩] [⟨vh A,8,2,[(0,cm (aJ A 1) (i+1)),(1,ah ml mm),(2,ah yz yn),(3,dO [ag w b c jU lk (.int nv nt)] 1),(4,fo),(5,cP (aJ A 6)),eY w b c kt o],.ok .next,9,3,[(0,io),(1,ah ml mm),(2,ao),(3,lo),(4,fo),(5,cP (aJ A 6)),eY w b c kt o]⟩] [bl0] bl0 (o6 A) 7 [(0,cm (aJ A 1) i),(1,ah ml mm),(2,ah ys ym),(3,dO [ag w b c jU lk lv] 1),(4,fo),(5,cP (aJ A 6)),eY w b c kt o] (.ok Flow.next) 9 [(0,io),(1,ah ml mm),(2,ao),(3,lo),(4,fo),(5,cP (aJ A 6)),eY w b c kt o] 3:=lm (hm [1,1,1001,4,4,0,6,4,0,1002,3,1003,1500])
theorem co_e:zK w b c A gh L 40 (qX n nn vv 9 8 7) (qB t tt) [w1 A vv ml mm i 7 9 8] bl0 (o6 A) 7 [(0,cm (aJ A 1) i),(1,ah ml mm),(2,ah ys ym),(3,lo),(4,fo),(5,cP (aJ A 6)),eY w b c kt o] (.ok Flow.next) 9 [(0,fH i),(1,ah ml mm),(2,ah ys ym),(3,lo),(4,fo),(5,cP (aJ A 6)),eY w b c kt o] 1:=zB (hm [1,1,1001,9])
end
theorem AY(w:World)(b c:Bool)(v:Int)(u n t:Nat):∃t' u':Nat,Tri (MM w b c) (bV (PP w b c)) 1994 80 (.call (.builtin "abs") ⟨[.int v u],[]⟩) [] [] (.add n 1994) (.add t 5615) (.ok (.ret (.int (v.natAbs:Int) u'))) [] [] (.add n 1994) (.add t' 5615):=by
 have A:AS:=⟨fun _=>0,fun _=>0⟩
 have s:BS:=⟨fun _=>(0,0),fun _=>(0,0),fun _=>(0,0),(0,0),(0,0),0,#[],0⟩
 cases v with
 |ofNat k=>exact⟨t,u,abs_p w b c A s [] n t 40 k u⟩
 |negSucc k=>
  cases k with
  |zero=>exact⟨t+1,Nat.add t 5615,TriC.cast (abs_1 w b c A s [] n t 40 u) rfl rfl rfl rfl rfl (nf t 5615 1) rfl rfl rfl⟩
  |succ k=>exact⟨t+1,Nat.add t 5615,TriC.cast (abs_n w b c A s [] n t 40 k u) rfl rfl rfl rfl rfl (nf t 5615 1) rfl rfl rfl⟩
theorem gy{M:Model}{S:HT}{B:Nat}{bl:List (Code×PySem.Pos)}(hb:unitsOf bl+640<700){cd:Code}{gh X:List (Addr×Obj)}{n t:Nat}{r:Result}{gh' Y:List (Addr×Obj)}{n' t':Nat}
  (H:TriAt M S B 120 bl cd gh X n t r gh' Y n' t'):TriAt M S B 80 bl cd gh X n t r gh' Y n' t':=
 TriC.mono (fun Γ h=>⟨⟨h.1.1,by rw[h.2];omega⟩,h.2⟩) H
def si(z:Value):Prop:=∃v u:Nat,z=.int (Int.ofNat v) u∧v<1000000000
theorem Cy(v:Int)(u:Nat):si (.int (ak (v.natAbs:Int) 1000000000) u):=⟨v.natAbs%1000000000,u,by rw[show ak (v.natAbs:Int) 1000000000=((v.natAbs%1000000000:Nat):Int) from gP _ 1000000000];rfl,Nat.mod_lt _ (by decide)⟩
abbrev i8(P:Params)(x:List Nat)(k:Nat)(v:Value):Obj:=dO [kS P ⟨⟨x⟩⟩ k v] 1
section
variable(w:World)(b c:Bool)(it ls acc loc fr:Nat)(bl:List (Code×PySem.Pos))(hb:unitsOf bl+640<700)(fo:Obj)(ml:List Value)(mm:Nat)
abbrev Gm(i:Nat)(ys:List Value)(ym:Nat)(d:Obj)(n t:Nat)(zs:List Value)(zm:Nat)(io d':Obj)(n' t':Nat):Prop:=
 TriAt (MM w b c) (bV (PP w b c)) 1994 120 bl (pA 0 (ad it) (ad acc) (ad loc) (ad fr) []) [] [(ad it,cm (ad ls) i),(ad ls,ah ml mm),(ad acc,ah ys ym),(ad loc,d),(ad fr,fo)] (.add n 1994) (.add t 5615) (.ok .next) []
  [(ad it,io),(ad ls,ah ml mm),(ad acc,ah zs zm),(ad loc,d'),(ad fr,fo)] (.add n' 1994) (.add t' 5615)
abbrev aK(it ls acc loc fr:Nat):AS:=⟨gt [(0,it),(1,ls),(2,acc),(3,loc),(4,fr)] (fun _=>0),fun _=>0⟩
theorem Bc(s:BS)(i:Nat)(hx:ml[i]?=none)(ys:List Value)(ym:Nat)(d:Obj)(n t:Nat):Gm w b c it ls acc loc fr bl fo ml mm i ys ym d n t ys ym (fH i) d (n+2) t:=by
 have key:=cm_e w b c (aK it ls acc loc fr) s [] n t 80 (fun _=>n+2) (fun _=>t) (fun _ j=>cond (Nat.beq j 0) (n+1) n) bl fo fo fo d ml ys ys .none mm ym ym i 0 0 0 0 0 (fun _=>0) (fun _=>(0,0))
  (ab ⟨by kernel_rfl,TriC.cast (jj (p:=prog2) (w:=W2 w b c) (S:=bV (PP w b c)) (B:=1994) (gh:=[]) (n:=Nat.add n 1994) (t:=Nat.add t 5615) (C:=fun Γ=>Lim Γ 80) Lim.h (it:=ad it) (l:=ad ls) (i:=i) (m:=mm) (xs:=ml) hx)
   (by kernel_rfl) rfl rfl (post1:=[(ad it,fH i),(ad ls,ah ml mm),(.add (n+1) 1994,iq (.add n 1994))]) (by rw[←nf n 1994 1]) (nf n 1994 2) rfl rfl rfl (by rw[show Nat.add n 1994+1=Nat.add (n+1) 1994 from nf n 1994 1];rfl)⟩ aa)
 exact kc key
include hb
theorem cm_run(s:BS)(hm:∀j,j<ml.length→∃(v:Int) (u:Nat),ml[j]?=some (.int v u)):∀(k i:Nat) (ys:List Value) (ym lk:Nat) (lv:Value) (n t:Nat),i+k=ml.length→ys.length+k≤1000→
  ∃(ps:List Value) (zm lk' n' t':Nat) (lv':Value) (io:Obj),ps.length=k∧(∀z∈ps,si z)∧Gm w b c it ls acc loc fr bl fo ml mm i ys ym (i8 (PP w b c) [110] lk lv) n t (ys++ps) zm io (i8 (PP w b c) [110] lk' lv') n' t':=by
 intro k
 induction k with
 |zero=>
  intro i ys ym lk lv n t hi hl
  exact⟨[],ym,lk,n+2,t,lv,fH i,rfl,aa,by rw[List.append_nil];exact Bc w b c it ls acc loc fr bl fo ml mm s i (List.getElem?_eq_none (by omega)) ys ym _ n t⟩
 |succ k ih=>
  intro i ys ym lk lv n t hi hl
  obtain⟨v,u,hx⟩:=hm i (by omega)
  obtain⟨t0,u0,H0⟩:=AY w b c v u n (t+1)
  obtain⟨ps,zm,lk',n',t',lv',io,h1,h2,H⟩:=ih (i+1) (ys++[.int (ak (v.natAbs:Int) 1000000000) (.add t0 5618)]) (ym+1) lk (.int v u) n (t0+4) (by omega) (by simp;omega)
  rw[List.append_assoc]at H
  refine⟨.int (ak (v.natAbs:Int) 1000000000) (.add t0 5618)::ps,zm,lk',n',t',lv',io,by rw[List.length_cons,h1],ab (Cy _ _) h2,?_⟩
  have key:=cm_l w b c (aK it ls acc loc fr) s [] n t 80 (fun i=>cond (Nat.beq i 0) n n') (fun i=>cond (Nat.beq i 0) t0 t') (fun _ _=>0) bl fo io (ah (ys++(.int (ak (v.natAbs:Int) 1000000000) (.add t0 5618)::ps)) zm) (i8 (PP w b c) [110] lk' lv') ml ys (ys++[.int (ak (v.natAbs:Int) 1000000000) (.add t0 5618)]) lv mm ym (ym+1) i lk u u0 v (v.natAbs:Int) (fun _=>0) (fun _=>(0,0))
   (fk (du Lim.h hx)<|fk (TriC.cast H0 rfl rfl (nf t 5615 1).symm rfl rfl rfl rfl rfl rfl)<|fk (dI Lim.h (by simp[sizeLine];omega))<|aa)
   (ab ⟨by kernel_rfl,kd (gy hb H)⟩ aa)
  exact kc key
theorem cm_all(s:BS)(hm:∀j,j<ml.length→∃(v:Int) (u:Nat),ml[j]?=some (.int v u))(hl:ml.length≤900)(h0:ml≠[])(n t:Nat):
  ∃(ps:List Value) (zm lk' n' t':Nat) (lv':Value) (io:Obj),ps.length=ml.length∧(∀z∈ps,si z)∧Gm w b c it ls acc loc fr bl fo ml mm 0 [] 0 (dO [] 0) n t ps zm io (i8 (PP w b c) [110] lk' lv') n' t':=by
 obtain⟨k,hk⟩:∃k,ml.length=k+1:=by
  cases ml with
  |nil=>exact absurd rfl h0
  |cons x l=>exact⟨l.length,rfl⟩
 obtain⟨v,u,hx⟩:=hm 0 (by omega)
 obtain⟨t0,u0,H0⟩:=AY w b c v u n (t+1)
 obtain⟨ps,zm,lk',n',t',lv',io,h1,h2,H⟩:=cm_run w b c it ls acc loc fr bl hb fo ml mm s hm k 1 [.int (ak (v.natAbs:Int) 1000000000) (.add t0 5618)] 1 (.add t 5615) (.int v u) n (t0+4) (by omega) (by simp;omega)
 refine⟨.int (ak (v.natAbs:Int) 1000000000) (.add t0 5618)::ps,zm,lk',n',t',lv',io,by rw[List.length_cons,h1,hk],ab (Cy _ _) h2,?_⟩
 have key:=cm_f w b c (aK it ls acc loc fr) s [] n t 80 (fun i=>cond (Nat.beq i 0) n n') (fun i=>cond (Nat.beq i 0) t0 t') (fun _ _=>0) bl fo io (ah (.int (ak (v.natAbs:Int) 1000000000) (.add t0 5618)::ps) zm) (i8 (PP w b c) [110] lk' lv') ml [] [.int (ak (v.natAbs:Int) 1000000000) (.add t0 5618)] .none mm 0 1 0 0 u u0 v (v.natAbs:Int) (fun _=>0) (fun _=>(0,0))
  (fk (du Lim.h hx)<|fk (TriC.cast H0 rfl rfl (nf t 5615 1).symm rfl rfl rfl rfl rfl rfl)<|fk (dI Lim.h (by decide))<|aa)
  (ab ⟨by kernel_rfl,kd (gy hb H)⟩ aa)
 exact kc key
end
theorem rD(w:World)(b c:Bool)(A:AS)(s:BS){i:Nat}(hi:i∈E28):dJ w b c A s i (dQ s i):=by
 revert i
 refine @ab _ _ _ _ ?_ ?_
 all_goals repeat' first|exact aa|refine ab ?_ ?_
 ·exact cJ w b c A s 832 (by decide) ai
 ·exact cJ w b c A s 320 (by decide) ai
 ·exact cJ w b c A s 834 (by decide) ai
 ·exact cJ w b c A s 322 (by decide) ai
 ·exact cJ w b c A s 835 (by decide) ai
 ·exact cJ w b c A s 323 (by decide) ai
 ·exact cJ w b c A s 833 (by decide) ai
 ·exact cJ w b c A s 321 (by decide) ai
 ·exact cJ w b c A s 773 (by decide) ai
 ·exact cJ w b c A s 261 (by decide) ai
 ·exact yc w b c A s 770 (by decide) (by kernel_rfl) ai
 ·exact Ak w b c A s 771 (by decide) (by kernel_rfl) ai
 ·exact yQ w b c A s 384 (by decide) (by kernel_rfl) ai
 ·exact cJ w b c A s 774 (by decide) ai
 ·exact cJ w b c A s 262 (by decide) ai
 ·exact qq w b c A s 2816 (by decide) (by kernel_rfl) 0 (s.z 2816).1 (s.z 2816).2 (by decide +kernel) rfl (by decide) ai
 ·exact qq w b c A s 2818 (by decide) (by kernel_rfl) 2 (s.z 2818).1 (s.z 2818).2 (by decide +kernel) rfl (by decide) ai
 ·exact qg w b c A s 2944 (by decide) (by kernel_rfl) 0 (s.z 2816).1 (s.z 2816).2 (by decide +kernel) rfl (by decide) ai
 ·exact qg w b c A s 2946 (by decide) (by kernel_rfl) 2 (s.z 2818).1 (s.z 2818).2 (by decide +kernel) rfl (by decide) ai
 ·exact lK w b c A s 3072 (by decide) (by kernel_rfl) 0 (s.z 2816).1 (s.z 2816).2 (by decide +kernel) rfl (by decide) ai
 ·exact lK w b c A s 3073 (by decide) (by kernel_rfl) 1 (s.z 2816).1 (s.z 2816).2 (by decide +kernel) rfl (by decide) ai
 ·exact lK w b c A s 3074 (by decide) (by kernel_rfl) 2 (s.z 2818).1 (s.z 2818).2 (by decide +kernel) rfl (by decide) ai
 ·exact lJ w b c A s 3200 (by decide) (by kernel_rfl) 0 (s.z 2816).1 (s.z 2816).2 (by decide +kernel) rfl (by decide) ai
 ·exact lJ w b c A s 3201 (by decide) (by kernel_rfl) 1 (s.z 2816).1 (s.z 2816).2 (by decide +kernel) rfl (by decide) ai
 ·exact lJ w b c A s 3202 (by decide) (by kernel_rfl) 2 (s.z 2818).1 (s.z 2818).2 (by decide +kernel) rfl (by decide) ai
 ·exact y5 w b c A s 769 (by decide) (by kernel_rfl) ai
 ·exact zc w b c A s 3857 (by decide) (by kernel_rfl) ai
 ·exact ww w b c A s 3860 (by decide) (by kernel_rfl) ai
theorem Ab{M:Model}{S:HT}{B:Nat}{cd:Code}{gh pre:List (Addr×Obj)}{n t:Nat}{r:Result}{gh' post:List (Addr×Obj)}{n' t':Nat}(H:Tri M S B 40 cd gh pre n t r gh' post n' t'):TriC M S B (fun Γ=>Lim Γ 80) cd gh pre n t r gh' post n' t':=TriC.mono (lx (by decide)) H
def o4:List Value→List Nat→(Nat→Int)→Prop
 |[],[],_=>True
 |x::ps,e::es,f=>(∃u:Nat,x=.int (f e) u)∧o4 ps es f
 |_,_,_=>False
theorem A0:∀(es:List Nat) (ps qs:List Value) (f g:Nat→Int),(∀e∈es,f e=g e)→o4 ps es f→o4 qs es g→eqLs ps qs=true∧cy ps=true∧cy qs=true∧ps.length=qs.length
 |[],[],[],_,_,_,_,_=>⟨rfl,rfl,rfl,rfl⟩
 |e::es,x::ps,y::qs,f,g,h,⟨⟨u,hu⟩,hp⟩,⟨⟨v,hv⟩,hq⟩=>by
  obtain⟨a1,a2,a3,a4⟩:=A0 es ps qs f g (fun e he=>h e (List.mem_cons_of_mem _ he)) hp hq
  subst hu hv
  refine⟨?_,?_,?_,by rw[List.length_cons,List.length_cons,a4]⟩
  ·simp[eqLs,kU,h e List.mem_cons_self,a1]
  ·simpa [cy] using a2
  ·simpa [cy] using a3
 |[],[],_::_,_,_,_,_,h=>h.elim
 |[],_::_,_,_,_,_,h,_=>h.elim
 |_::_,[],_,_,_,_,h,_=>h.elim
 |_::_,_::_,[],_,_,_,_,h=>h.elim
section
variable(w:World)(b c:Bool)(A:AS)(s:BS)(it ls acc loc fr cc:Nat)(bl:List (Code×PySem.Pos))(hb:unitsOf bl+640<700)(fo:Obj)(ml:List Value)(mm:Nat)
abbrev CCx(i:Nat)(ys:List Value)(ym:Nat)(d:Obj)(n t:Nat)(zs:List Value)(zm:Nat)(io d':Obj)(n' t':Nat):Prop:=
 TriAt (MM w b c) (bV (PP w b c)) 1994 120 bl (pA 1 (ad it) (ad acc) (ad loc) (ad fr) [(tT,ad cc)]) [] (bd w b c A s++[(ad it,cm (ad ls) i),(ad ls,ah ml mm),(ad acc,ah ys ym),(ad loc,d),(ad fr,fo),(ad cc,cP (ad (A.a 0)))]) (.add n 1994) (.add t 5615) (.ok .next) [] (bd w b c A s++[(ad it,io),(ad ls,ah ml mm),(ad acc,ah zs zm),(ad loc,d'),(ad fr,fo),(ad cc,cP (ad (A.a 0)))]) (.add n' 1994) (.add t' 5615)
theorem cc_end(i:Nat)(hx:ml[i]?=none)(ys:List Value)(ym:Nat)(d:Obj)(n t:Nat):CCx w b c A s it ls acc loc fr cc bl fo ml mm i ys ym d n t ys ym (fH i) d (n+2) t:=by
 have key:=cc_e w b c (⟨gt [(7,it),(8,ls),(9,acc),(10,loc),(11,fr),(12,cc)] A.a,A.k⟩) s [] n t 80 (fun _=>n+2) (fun _=>t) (fun _ j=>cond (Nat.beq j 0) (n+1) n) bl fo fo fo d ml ys ys .none mm ym ym i 0 0 0 0 0 (fun _=>0) (fun _=>(0,0))
  (ab ⟨by kernel_rfl,TriC.cast (jj (p:=prog2) (w:=W2 w b c) (S:=bV (PP w b c)) (B:=1994) (gh:=[]) (n:=Nat.add n 1994) (t:=Nat.add t 5615) (C:=fun Γ=>Lim Γ 80) Lim.h (it:=ad it) (l:=ad ls) (i:=i) (m:=mm) (xs:=ml) hx)
   (by kernel_rfl) rfl rfl (post1:=[(ad it,fH i),(ad ls,ah ml mm),(.add (n+1) 1994,iq (.add n 1994))]) (by rw[←nf n 1994 1]) (nf n 1994 2) rfl rfl rfl (by rw[show Nat.add n 1994+1=Nat.add (n+1) 1994 from nf n 1994 1];rfl)⟩ aa)
 exact kc key
include hb
theorem cc_run:∀(es:List Nat) (i:Nat) (ys:List Value) (ym lk:Nat) (lv:Value) (n t:Nat),(∀e∈es,e∈E28)→i+es.length=ml.length→(∀(j e:Nat),(es[j]?:Option Nat)=some e→∃u:Nat,(ml[i+j]?:Option Value)=some (.int (Int.ofNat e) u))→ys.length+es.length≤1000→
  ∃(ps:List Value) (zm lk' n' t':Nat) (lv':Value) (io:Obj),o4 ps es (dQ s)∧CCx w b c A s it ls acc loc fr cc bl fo ml mm i ys ym (i8 (PP w b c) [97,116] lk lv) n t (ys++ps) zm io (i8 (PP w b c) [97,116] lk' lv') n' t':=by
 intro es
 induction es with
 |nil=>
  intro i ys ym lk lv n t _ hi _ hl
  exact⟨[],ym,lk,n+2,t,lv,fH i,trivial,by rw[List.append_nil];exact cc_end w b c A s it ls acc loc fr cc bl fo ml mm i (List.getElem?_eq_none (by simp at hi;omega)) ys ym _ n t⟩
 |cons e es ih=>
  intro i ys ym lk lv n t he hi hm hl
  obtain⟨u,hx⟩:=hm 0 e rfl
  obtain⟨tv,n0,t0,H0⟩:=rD w b c A s (he e List.mem_cons_self) [] n (t+2) u
  obtain⟨ps,zm,lk',n',t',lv',io,h1,H⟩:=ih (i+1) (ys++[.int (dQ s e) tv]) (ym+1) lk (.int (Int.ofNat e) u) n0 t0 (fun e' h=>he e' (List.mem_cons_of_mem _ h)) (by simp at hi;omega) (fun j e' h=>by have:=hm (j+1) e' (by simpa using h);rwa [Nat.add_assoc,Nat.add_comm 1 j]) (by simp at hl ⊢;omega)
  rw[List.append_assoc]at H
  refine⟨.int (dQ s e) tv::ps,zm,lk',n',t',lv',io,⟨⟨tv,rfl⟩,h1⟩,?_⟩
  simp only[List.length_cons]at hl
  have key:=cc_l w b c (⟨gt [(7,it),(8,ls),(9,acc),(10,loc),(11,fr),(12,cc)] A.a,A.k⟩) s [] n t 80 (fun i=>cond (Nat.beq i 0) n0 n') (fun i=>cond (Nat.beq i 0) t0 t') (fun _ _=>0) bl fo io (ah (ys++(Value.int (dQ s e) tv::ps)) zm) (i8 (PP w b c) [97,116] lk' lv') ml ys (ys++[Value.int (dQ s e) tv]) lv mm ym (ym+1) i lk u tv (Int.ofNat e) (dQ s e) (fun _=>0) (fun _=>(0,0))
   (fk (du Lim.h hx)<|fk (Ab (kd H0))<|fk (dI Lim.h (by simp[sizeLine];try omega))<|aa)
   (ab ⟨by kernel_rfl,kc (gy hb H)⟩ aa)
  exact kc key
theorem cc_all(hm:ml.length=E28.length)(hk:∀(j e:Nat),(E28[j]?:Option Nat)=some e→∃u:Nat,(ml[j]?:Option Value)=some (.int (Int.ofNat e) u))(n t:Nat):
  ∃(ps:List Value) (zm lk' n' t':Nat) (lv':Value) (io:Obj),o4 ps E28 (dQ s)∧CCx w b c A s it ls acc loc fr cc bl fo ml mm 0 [] 0 (dO [] 0) n t ps zm io (i8 (PP w b c) [97,116] lk' lv') n' t':=by
 obtain⟨e,es,hE⟩:∃e es,E28=e::es:=⟨_,_,rfl⟩
 have he:∀e'∈e::es,e'∈E28:=fun e' h=>by rw[hE];exact h
 rw[hE]at hm hk
 obtain⟨u,hx⟩:=hk 0 e (by simp)
 obtain⟨tv,n0,t0,H0⟩:=rD w b c A s (he e List.mem_cons_self) [] n (t+2) u
 obtain⟨ps,zm,lk',n',t',lv',io,h1,H⟩:=cc_run w b c A s it ls acc loc fr cc bl hb fo ml mm es 1 [.int (dQ s e) tv] 1 (.add t 5615) (.int (Int.ofNat e) u) n0 t0 (fun e' h=>he e' (List.mem_cons_of_mem _ h)) (by simp at hm;omega) (fun j e' h=>by have:=hk (j+1) e' (by simpa using h);rwa [Nat.add_comm]at this) (by have:=congrArg List.length hE;simp[E28]at this;simp;omega)
 refine⟨.int (dQ s e) tv::ps,zm,lk',n',t',lv',io,by rw[hE];exact⟨⟨tv,rfl⟩,h1⟩,?_⟩
 ·have key:=cc_f w b c (⟨gt [(7,it),(8,ls),(9,acc),(10,loc),(11,fr),(12,cc)] A.a,A.k⟩) s [] n t 80 (fun i=>cond (Nat.beq i 0) n0 n') (fun i=>cond (Nat.beq i 0) t0 t') (fun _ _=>0) bl fo io (ah (Value.int (dQ s e) tv::ps) zm) (i8 (PP w b c) [97,116] lk' lv') ml [] ([Value.int (dQ s e) tv]) .none mm 0 1 0 0 u tv (Int.ofNat e) (dQ s e) (fun _=>0) (fun _=>(0,0))
   (fk (du Lim.h hx)<|fk (Ab (kd H0))<|fk (dI Lim.h (by simp[sizeLine];try omega))<|aa)
   (ab ⟨by kernel_rfl,kc (gy hb H)⟩ aa)
  exact kc key
end
section
variable(w:World)(b c:Bool)(it ls acc loc fr co ow:Nat)(bl:List (Code×PySem.Pos))(hb:unitsOf bl+640<700)(fo:Obj)(ml:List Value)(mm:Nat)(kt:Nat→Nat)(o:Nat→Int×Nat)
abbrev COx(i:Nat)(ys:List Value)(ym:Nat)(d:Obj)(n t:Nat)(zs:List Value)(zm:Nat)(io d':Obj)(n' t':Nat):Prop:=
 TriAt (MM w b c) (bV (PP w b c)) 1994 120 bl (pA 2 (ad it) (ad acc) (ad loc) (ad fr) [(FP,ad co)]) [] ([(ad it,cm (ad ls) i),(ad ls,ah ml mm),(ad acc,ah ys ym),(ad loc,d),(ad fr,fo),(ad co,cP (ad ow)),(ad ow,bq (PP w b c) kt o)]) (.add n 1994) (.add t 5615) (.ok .next) [] ([(ad it,io),(ad ls,ah ml mm),(ad acc,ah zs zm),(ad loc,d'),(ad fr,fo),(ad co,cP (ad ow)),(ad ow,bq (PP w b c) kt o)]) (.add n' 1994) (.add t' 5615)
theorem co_end(i:Nat)(hx:ml[i]?=none)(ys:List Value)(ym:Nat)(d:Obj)(n t:Nat):COx w b c it ls acc loc fr co ow bl fo ml mm kt o i ys ym d n t ys ym (fH i) d (n+2) t:=by
 have key:=co_e w b c (⟨gt [(0,it),(1,ls),(2,acc),(3,loc),(4,fr),(5,co),(6,ow)] (fun _=>0),fun _=>0⟩) ⟨fun _=>(0,0),fun _=>(0,0),fun _=>(0,0),(0,0),(0,0),0,#[],0⟩ [] n t 80 (fun _=>n+2) (fun _=>t) (fun _ j=>cond (Nat.beq j 0) (n+1) n) bl fo fo fo d ml ys ys .none mm ym ym i 0 0 0 0 0 kt o
  (ab ⟨by kernel_rfl,TriC.cast (jj (p:=prog2) (w:=W2 w b c) (S:=bV (PP w b c)) (B:=1994) (gh:=[]) (n:=Nat.add n 1994) (t:=Nat.add t 5615) (C:=fun Γ=>Lim Γ 80) Lim.h (it:=ad it) (l:=ad ls) (i:=i) (m:=mm) (xs:=ml) hx)
   (by kernel_rfl) rfl rfl (post1:=[(ad it,fH i),(ad ls,ah ml mm),(.add (n+1) 1994,iq (.add n 1994))]) (by rw[←nf n 1994 1]) (nf n 1994 2) rfl rfl rfl (by rw[show Nat.add n 1994+1=Nat.add (n+1) 1994 from nf n 1994 1];rfl)⟩ aa)
 exact kc key
include hb
theorem co_run:∀(es:List Nat) (i:Nat) (ys:List Value) (ym lk:Nat) (lv:Value) (n t:Nat),(∀e∈es,e∈E28)→i+es.length=ml.length→(∀(j e:Nat),(es[j]?:Option Nat)=some e→∃u:Nat,(ml[i+j]?:Option Value)=some (.int (Int.ofNat e) u))→ys.length+es.length≤1000→
  ∃(ps:List Value) (zm lk' n' t':Nat) (lv':Value) (io:Obj),o4 ps es (eA o)∧COx w b c it ls acc loc fr co ow bl fo ml mm kt o i ys ym (i8 (PP w b c) [97,116] lk lv) n t (ys++ps) zm io (i8 (PP w b c) [97,116] lk' lv') n' t':=by
 intro es
 induction es with
 |nil=>
  intro i ys ym lk lv n t _ hi _ hl
  exact⟨[],ym,lk,n+2,t,lv,fH i,trivial,by rw[List.append_nil];exact co_end w b c it ls acc loc fr co ow bl fo ml mm kt o i (List.getElem?_eq_none (by simp at hi;omega)) ys ym _ n t⟩
 |cons e es ih=>
  intro i ys ym lk lv n t he hi hm hl
  obtain⟨u,hx⟩:=hm 0 e rfl
  obtain⟨tv,n0,t0,H0⟩:=mO w b c o (he e List.mem_cons_self) kt ow [] n (t+1) u
  obtain⟨ps,zm,lk',n',t',lv',io,h1,H⟩:=ih (i+1) (ys++[.int (eA o e) tv]) (ym+1) lk (.int (Int.ofNat e) u) n0 t0 (fun e' h=>he e' (List.mem_cons_of_mem _ h)) (by simp at hi;omega) (fun j e' h=>by have:=hm (j+1) e' (by simpa using h);rwa [Nat.add_assoc,Nat.add_comm 1 j]) (by simp at hl ⊢;omega)
  rw[List.append_assoc]at H
  refine⟨.int (eA o e) tv::ps,zm,lk',n',t',lv',io,⟨⟨tv,rfl⟩,h1⟩,?_⟩
  simp only[List.length_cons]at hl
  have key:=co_l w b c (⟨gt [(0,it),(1,ls),(2,acc),(3,loc),(4,fr),(5,co),(6,ow)] (fun _=>0),fun _=>0⟩) ⟨fun _=>(0,0),fun _=>(0,0),fun _=>(0,0),(0,0),(0,0),0,#[],0⟩ [] n t 80 (fun i=>cond (Nat.beq i 0) n0 n') (fun i=>cond (Nat.beq i 0) t0 t') (fun _ _=>0) bl fo io (ah (ys++(Value.int (eA o e) tv::ps)) zm) (i8 (PP w b c) [97,116] lk' lv') ml ys (ys++[Value.int (eA o e) tv]) lv mm ym (ym+1) i lk u tv (Int.ofNat e) (eA o e) kt o
   (fk (du Lim.h hx)<|fk (Ab (kd H0))<|fk (dI Lim.h (by simp[sizeLine];try omega))<|aa)
   (ab ⟨by kernel_rfl,kc (gy hb H)⟩ aa)
  exact kc key
theorem co_all(hm:ml.length=E28.length)(hk:∀(j e:Nat),(E28[j]?:Option Nat)=some e→∃u:Nat,(ml[j]?:Option Value)=some (.int (Int.ofNat e) u))(n t:Nat):
  ∃(ps:List Value) (zm lk' n' t':Nat) (lv':Value) (io:Obj),o4 ps E28 (eA o)∧COx w b c it ls acc loc fr co ow bl fo ml mm kt o 0 [] 0 (dO [] 0) n t ps zm io (i8 (PP w b c) [97,116] lk' lv') n' t':=by
 obtain⟨e,es,hE⟩:∃e es,E28=e::es:=⟨_,_,rfl⟩
 have he:∀e'∈e::es,e'∈E28:=fun e' h=>by rw[hE];exact h
 rw[hE]at hm hk
 obtain⟨u,hx⟩:=hk 0 e (by simp)
 obtain⟨tv,n0,t0,H0⟩:=mO w b c o (he e List.mem_cons_self) kt ow [] n (t+1) u
 obtain⟨ps,zm,lk',n',t',lv',io,h1,H⟩:=co_run w b c it ls acc loc fr co ow bl hb fo ml mm kt o es 1 [.int (eA o e) tv] 1 (.add t 5615) (.int (Int.ofNat e) u) n0 t0 (fun e' h=>he e' (List.mem_cons_of_mem _ h)) (by simp at hm;omega) (fun j e' h=>by have:=hk (j+1) e' (by simpa using h);rwa [Nat.add_comm]at this) (by have:=congrArg List.length hE;simp[E28]at this;simp;omega)
 refine⟨.int (eA o e) tv::ps,zm,lk',n',t',lv',io,by rw[hE];exact⟨⟨tv,rfl⟩,h1⟩,?_⟩
 ·have key:=co_f w b c (⟨gt [(0,it),(1,ls),(2,acc),(3,loc),(4,fr),(5,co),(6,ow)] (fun _=>0),fun _=>0⟩) ⟨fun _=>(0,0),fun _=>(0,0),fun _=>(0,0),(0,0),(0,0),0,#[],0⟩ [] n t 80 (fun i=>cond (Nat.beq i 0) n0 n') (fun i=>cond (Nat.beq i 0) t0 t') (fun _ _=>0) bl fo io (ah (Value.int (eA o e) tv::ps) zm) (i8 (PP w b c) [97,116] lk' lv') ml [] ([Value.int (eA o e) tv]) .none mm 0 1 0 0 u tv (Int.ofNat e) (eA o e) kt o
   (fk (du Lim.h hx)<|fk (Ab (kd H0))<|fk (dI Lim.h (by simp[sizeLine];try omega))<|aa)
   (ab ⟨by kernel_rfl,kc (gy hb H)⟩ aa)
  exact kc key
end
theorem oL(x:Int){y:Int}(h:decide (Builtin.Int.intBits y>shortFactorBits)=false):bB x y=false:=by
 unfold bB
 rw[h]
 simp
theorem CM(sd:Int):He [((bB (aw sd 2654435761) 7),false),((bB sd 2654435761),false),((bB (aw sd 2654435761) 6),false),((bB sd 2654435761),false),((bB (aw sd 2654435761) 5),false),((bB sd 2654435761),false),((bB (aw sd 2654435761) 4),false),((bB sd 2654435761),false),((bB (aw sd 2654435761) 3),false),((bB sd 2654435761),false),((bB (aw sd 2654435761) 2),false),((bB sd 2654435761),false),((bB (aw sd 2654435761) 1),false),((bB sd 2654435761),false)]:=by
 have h:bB sd 2654435761=false:=oL _ (by decide +kernel)
 have k:∀j:Int,decide (Builtin.Int.intBits j>shortFactorBits)=false→bB (aw sd 2654435761) j=false:=fun j hj=>oL _ hj
 exact fc (k 7 (by decide +kernel))<|fc h<|fc (k 6 (by decide +kernel))<|fc h<|fc (k 5 (by decide +kernel))<|fc h<|fc (k 4 (by decide +kernel))<|fc h<|fc (k 3 (by decide +kernel))<|fc h<|fc (k 2 (by decide +kernel))<|fc h<|fc (k 1 (by decide +kernel))<|fc h aa
theorem den_lt(x y:Int)(tx ty:Nat):Builtin.«int.__lt__» ⟨[.int x tx,.int y ty],[]⟩=(.pure (.done (.ret (.bool (decide (x<y))))):Sem PySem.Fin):=by kernel_rfl
theorem T_lt{w:World}{b c:Bool}{S:HT}{B:Nat}{gh:List (Addr×Obj)}{n t:Nat}{C:Ctx→Prop}{x y:Int}{tx ty:Nat}:
  TriC (MM w b c) S B C (.builtin "int.__lt__" ⟨[.int x tx,.int y ty],[]⟩) gh [] n t (.ok (.ret (.bool (decide (x<y))))) gh [] n t:=
 lH fun Γ P h' gs d os=>by rw[cM F.entry_int_lt,den_lt];exact .done
theorem Bg:∀{l:List Value},(∀z∈l,si z)→∃ps,l=dS ps∧p4 ps
 |[],_=>⟨[],rfl,aa⟩
 |z::l,h=>by
  obtain⟨ps,e,hp⟩:=Bg (l:=l) fun y hy=>h y (List.mem_cons_of_mem _ hy)
  obtain⟨v,u,hz,hv⟩:=h z List.mem_cons_self
  have h0:(v:Int)≤1000000000:=by omega
  have h1:(0:Int)≤Int.ofNat v∧Int.ofNat v≤1000000000:=⟨Int.natCast_nonneg v,h0⟩
  exact⟨(Int.ofNat v,u)::ps,by rw[e,hz];rfl,ab h1 hp⟩
theorem vu:∀{ps:List (Int×Nat)},p4 ps→∃p:Nat,ic ps=p
 |[],_=>⟨0,rfl⟩
 |x::ps,h=>by
  obtain⟨p,hp⟩:=vu (ps:=ps) fun y hy=>h y (List.mem_cons_of_mem _ hy)
  have:=(h x List.mem_cons_self).1
  refine⟨x.1.toNat+p,?_⟩
  show x.1+ic ps=_
  rw[hp];push_cast;omega
inductive sum_okX (w:World) (b:Bool) (c:Bool) (l:List Value) (mk:Nat) (n:Nat) (t:Nat):Prop where
 |mk (p n' t' u:Nat) (h0_:Tri (MM w b c) (bV (PP w b c)) 1994 80 (.call (.builtin "sum") ⟨[.ref (.add mk 1994)],[]⟩) [] [(.add mk 1994,ah l 0)] (.add n 1994) (.add t 5615) (.ok (.ret (.int (Int.ofNat p) u))) [] [(.add mk 1994,ah l 0)] (.add n' 1994) (.add t' 5615)):sum_okX w b c l mk n t
theorem sum_ok(w:World)(b c:Bool){l:List Value}(hl:∀z∈l,si z)(hlen:l.length≤40)(mk n t:Nat):sum_okX w b c l mk n t:=by
 obtain⟨ps,rfl,hp⟩:=Bg hl
 have hl9:ps.length≤40:=by simpa [dS] using hlen
 obtain⟨p,hpp⟩:=vu hp
 refine⟨p,n+2+2,t+1+ps.length,(if ps.length=0 then Nat.add t 5615 else Nat.add (t+1) 5615+ps.length-1),?_⟩
 have key:=sum_c w b c ⟨fun _=>mk,fun _=>0⟩ ⟨fun _=>(0,0),fun _=>(0,0),fun _=>(0,0),(0,0),(0,0),0,#[],0⟩ [] n t 40 (fun _=>n+2+2) (fun _=>t+1+ps.length) (dS ps) 0 (Int.ofNat p,(if ps.length=0 then Nat.add t 5615 else Nat.add (t+1) 5615+ps.length-1))
  (fH ps.length) (ah [.int (ic ps) (if ps.length=0 then Nat.add t 5615 else Nat.add (t+1) 5615+ps.length-1)] 0)
  (ab ⟨by kernel_rfl,TriC.cast (A5 (prog:=prog2) (w:=W2 w b c) (S:=bV (PP w b c)) (B:=1994) (gh:=[]) (n:=Nat.add (n+2) 1994) (t:=Nat.add (t+1) 5615) (C:=fun Γ=>Lim Γ 40) Lim.h (I:=Nat.add n 1994) (a:=Nat.add mk 1994) (St:=Nat.add n 1995) (ps:=ps) hp hl9 (m:=0) (tA:=Nat.add t 5615))
   rfl (nf n 1994 2).symm (nf t 5615 1).symm rfl (nf (n+2) 1994 2) (nf (t+1) 5615 ps.length) rfl rfl (by rw[hpp];rfl)⟩ aa)
 exact TriC.cast key rfl rfl rfl rfl rfl rfl rfl rfl rfl
theorem pick4(p k t0 t1 t2 t3:Nat):∃(j x u:Nat),ak (aP (Int.ofNat p) 7+(k:Int)) 4=(j:Int)∧j≤1000000∧x<2^32∧
  ([.int (ak (aw (aw (Int.ofNat p) 2654435761) (k:Int)) 4294967296) t0,.int 0 t1,.int 4294967295 t2,.int 6 t3]:List Value)[j]?=some (.int (Int.ofNat x) u):=by
 have e1:aP (Int.ofNat p) 7=((p/7:Nat):Int):=nq p 7
 have e2:ak (((p/7:Nat):Int)+(k:Int)) 4=(((p/7+k)%4:Nat):Int):=gP (p/7+k) 4
 have e3:aw (Int.ofNat p) 2654435761=((p*2654435761:Nat):Int):=kT p 2654435761
 have e4:aw ((p*2654435761:Nat):Int) (k:Int)=((p*2654435761*k:Nat):Int):=kT _ k
 have e5:ak ((p*2654435761*k:Nat):Int) 4294967296=((p*2654435761*k%4294967296:Nat):Int):=gP _ 4294967296
 rw[e1,e2,e3,e4,e5]
 have hlt:(p/7+k)%4<4:=Nat.mod_lt _ (by decide)
 generalize (p/7+k)%4=j at hlt
 have hm:p*2654435761*k%4294967296<2^32:=Nat.mod_lt _ (by decide)
 generalize p*2654435761*k%4294967296=m at hm
 rcases j with _|_|_|_|j
 ·exact⟨0,m,t0,rfl,by decide,hm,rfl⟩
 ·exact⟨1,0,t1,rfl,by decide,by decide,rfl⟩
 ·exact⟨2,4294967295,t2,rfl,by decide,by decide,rfl⟩
 ·exact⟨3,6,t3,rfl,by decide,by decide,rfl⟩
 ·omega
def hrF(f:Nat→List Nat):Nat→Nat→List Nat
 |0,_=>[]
 |n+1,i=>f i++hrF f n (i+1)
def j5(n:Nat)(f:Nat→List Nat):List Nat:=hrF f n 0
def sO(e c:Bool):List Nat:=[0,0,2,2,0,2,1,1,1,1,1001,8,8,8,9]++(cond c [3500] [9,9,9,9,1500])++(cond e [] [11,11])++[11,0,0,0,0,2,1002,3003,13,13,13,13,1004,10,16,10,10,1005,2,2,0,0,2,1006,3,3,0,0]++(j5 3 fun i=>[21,21,21])++[21]++(cond c [] [22,22,22,22])++(j5 3 fun i=>[22,22,22])++(j5 6 fun i=>[22,24,24,3,2,24,2,0,3,0,24,0,25+i,25+i,25+i,25+i,1007+i,23,23,23,23,22,22,22,22,22,22,22,22])++[22,24,24,3,2,24,2,0,3,0,24,0,31,31,31,31,1013,23,23,23,23,22,22,22,22,22,33,24,24,24,20,23,20,20,23,20,23,35,35,35,35,35,34,36,34,34,36,34,36,2,2,0,0,0,0,0,0,0,38,38,38,38,38,38,58,58,58,58,58,54,54,54]++(cond c [] [59,59,59,59])++[59]++(j5 15 fun i=>[59,59,59,59,54,59,59,59,39+i,39+i,39+i,39+i,62+4*i,62+4*i,62+4*i,62+4*i,62+4*i,39+i,62+4*i,62+4*i,62+4*i,62+4*i,62+4*i,62+4*i,39+i,62+4*i,62+4*i,62+4*i,62+4*i,62+4*i,62+4*i,39+i,62+4*i,62+4*i,64+4*i,61,61,61,61,61,60,60,60,60])++[59,59,59,59,54,59,59,123,61,61,61,61,61,61,124,124,124,124,60,60,60,60,60,60,60,126,126,126,126,126,126,126,60,60,60,127]++(j5 15 fun i=>[127,127,127,127,60,127,127,65+4*i,65+4*i,124,124,124,124])++[127,127,127,127,60,127,127,129,4,4,130,130,130,130]++(j5 5 fun i=>[131,131,131,131,131,130,131])++[131,133,4,124,124,124,1000,124,4,124,124,124,1000,124,4,124,124,124,1014,4,124,124,124,1015]++(j5 10 fun i=>[0,0,0])++[135,0,135,0,0,0,0,0,0,0,136,136,136,136,0,136,0,0,136,136,135,0,0,0,135,0,135,0,135,0,0,0,135,0,134,134,134,136,136,135,0,0,0,135,0,135,0,135,0,0,0,135,0,134,134,134,136,0,136,135,0,0,0,135,0,135,0,135,0,0,0,135,0,134,134,134,136,135,0,0,0,135,0,0,0,135,135,0,134,0,136,135,0,0,0,135,0,135,0,135,0,0,0,135,0,134,134,134,136,135,0,0,0,135,0,0,0,135,135,0,134,136,135,0,0,0,135,0,0,0,135,135,0,134,0,136,135,0,0,0,135,0,135,0,135,0,0,0,135,0,134,134,134,136,135,0,0,0,135,0,0,0,135,135,0,134,136,135,0,0,0,135,0,0,0,135,135,0,134,0,136,135,0,0,0,135,0,135,0,135,0,0,0,135,0,134,134,134]++(j5 7 fun i=>[0,0,0,0])++[138,0,138,0,0,0,0,0,0,0,139,139,139,139,139,139,139,139,0,139,139,138,0,0,0,138,0,138,0,138,0,0,0,138,0,137,137,137,139,139,138,0,0,0,138,0,138,0,138,0,0,0,138,0,137,137,137,0,139,139]++(j5 7 fun i=>[0,0,0,0])++[141,0,141,0,0,0,0,0,0,142,142,142,142,142,142,0,142,142,141,0,0,0,141,0,141,0,141,0,0,0,141,0,140,140,140,142,142,141,0,0,0,141,0,141,0,141,0,0,0,141,0,140,140,140,139,138,0,0,0,138,0,138,0,138,0,0,0,138,0,137,137,137,0,139]++(j5 7 fun i=>[0,0,0,0])++[144,0,144,0,0,0,0,0,0,0,145,145,145,145,0]++(j5 9 fun i=>[145,144,0,0,0,144,0,144,0,144,0,0,0,144,0,143,143,143])++[145,145,144,0,0,0,144,0,144,0,144,0,0,0,144,0,143,143,143,0,0]++(j5 16 fun i=>[146,146,146])++[145,144,0,0,0,144,0,144,0,144,0,0,0,144,0,143,143,143,139,138,0,0,0,138,0,138,0,138,0,0,0,138,0,137,137,137,147,147,147,147,147,139,138,0,0,0,138,0,138,0,138,0,0,0,138,0,137,137,137,139,138,0,0,0,138,0,138,0,138,0,0,0,138,0,137,137,137,0]++(j5 3 fun i=>[139,138,0,0,0,138,0,138,0,138,0,0,0,138,0,137,137,137])++[5,5,0,0,2,151,151,151,1016,5,138,0,0,0,138,0,138,0,138,0,0,0,138,0,137,137,137,2,18,18,18,152,1501,0,0,0,0,0,154,154,154,154,154,154,174,174,174,174,174,170,170,170,175,175,175,175,175]++(cond c [] [175,175,175,175])++(j5 15 fun i=>[170,175,175,175,155+i,155+i,155+i,155+i,178+3*i,178+3*i,178+3*i,178+3*i,178+3*i,155+i,178+3*i,178+3*i,178+3*i,178+3*i,178+3*i,178+3*i,155+i,178+3*i,178+3*i,178+3*i,178+3*i,178+3*i,178+3*i,155+i,178+3*i,178+3*i,180+3*i,177,177,177,177,177,176,176,176,176,175,175,175,175])++[170,175,175,224,177,177,177,177,177,177,0,0,0,0,0,225,225,225,225,225,225,245,245,245,245,245,176,242,176,176,242,176,242,0,0,0,0,0,247,247,247,247,247,247,267,267,267,267,267,246,265,246,246,265,246,265,2,2,2,268,268,268,269]++(cond c [3502] [269,269,269,269,1502])++[271,271,271,2,268,268,268,273]++(cond c [3503] [273,273,273,273,1503])++[275,275,275,270,274,270,270,1017]
section
variable(w:World)(b c:Bool)(A:AS)(s:BS)(gh:List (Addr×Obj))(n t L:Nat)(e:Bool)(nn tt:Nat→Nat)(vv:Nat→Nat→Nat)(sc m0 m1 m2 m3 ml mt:List Value)(rl:List Value)(rm sm y1 y2 y3 lt st c3:Nat)(dd:Bool)(ln sd:Int)(xv:Nat→Int)(xt:Nat→Nat)(kt:Nat→Nat)(o:Nat→Int×Nat)(f:FS)(sl:Array (Option Value))(sE:BS)(mo io oo xo:Obj)(ci:Nat→Obj)(lk:Nat→Nat)(lv:Nat→Value)(q:Nat→PySem.Pos)
def aV(Y0 Y1:Nat):Nat:=Nat.add (tt Y0) Y1
def af(Y0:Int)(Y1 Y2:Nat):Value:=.int Y0 (aV tt Y1 Y2)
def cD(Y0 Y1:Nat):Value:=.ref (.add (nn Y0) Y1)
def tj:Nat×Obj:=(1,⟨(.type "frame"),none,(.dict ⟨[ag w b c qI (f.k 0) (f.2 0),ag w b c tV (f.k 1) (f.2 1),ag w b c mN (f.k 2) (cD nn 5 2011),ag w b c pa (f.k 3) (f.2 3),ag w b c o5 (f.k 4) (f.2 4),ag w b c dj (f.k 5) (f.2 5),ag w b c gK (f.k 6) (f.2 6),ag w b c ⟨⟨[98,121]⟩⟩ (f.k 7) (f.2 7),ag w b c jU (f.k 8) (f.2 8),ag w b c Bl (f.k 9) (f.2 9),ag w b c Df (f.k 10) (f.2 10),ag w b c q9 (f.k 11) (f.2 11),ag w b c Ah (f.k 12) (f.2 12),ag w b c DY (f.k 13) (f.2 13),ag w b c ⟨⟨[101,118,101,114,121]⟩⟩ (aV tt 6 5918) (cD nn 6 2108)]⟩ 15),sl⟩)
def tf:Nat×Obj:=(267,lO [(af tt 832 6 5615),(af tt 320 6 5621),(af tt 834 6 5627),(af tt 322 6 5633),(af tt 835 6 5639),(af tt 323 6 5645),(af tt 833 6 5651),(af tt 321 6 5657),(af tt 773 6 5663),(af tt 261 6 5669),(af tt 770 6 5675),(af tt 771 6 5677),(af tt 384 6 5679),(af tt 774 6 5681),(af tt 262 6 5683),(af tt 2816 6 5807),(af tt 2818 6 5808),(af tt 2944 6 5809),(af tt 2946 6 5810),(af tt 3072 6 5811),(af tt 3073 6 5812),(af tt 3074 6 5813),(af tt 3200 6 5814),(af tt 3201 6 5815),(af tt 3202 6 5816),(af tt 769 6 5909),(af tt 3857 6 5910),(af tt 3860 6 5911)] 0)
def zL:Nat×Obj:=(36,lO [(af tt 0 5 5615),(.int (xv 0) (xt 0)),(.int (xv 1) (xt 1)),(.int (xv 2) (xt 2)),(.int (xv 3) (xt 3)),(.int (xv 4) (xt 4)),(.int (xv 5) (xt 5)),(.int (xv 6) (xt 6)),(af tt 0 5 5766),(af tt 0 5 5766),(af tt 0 5 5766),(af tt 0 5 5766),(af tt 0 5 5766),(af tt 0 5 5766),(af tt 0 5 5766),(af tt 0 5 5766),(af tt 0 5 5766),(af tt 0 5 5766),(af tt 0 5 5766),(af tt 0 5 5766),(af tt 0 5 5766),(af tt 0 5 5766),(af tt 0 5 5766),(af tt 0 5 5766),(af tt 0 5 5766),(af tt 0 5 5766),(af tt 0 5 5766),(af tt 0 5 5766),(af tt 0 5 5766),(af tt 0 5 5766),(af tt 0 5 5766),(af tt 0 5 5766)] 0)
def j1(Y0:Nat):Obj:=⟨(.type "cell"),none,(.cell (some (cD nn 5 Y0))),#[]⟩
def tz:Code:=.func ej (gL (.add n 1994) (.add n 1997) (.add n 1996) (.add n 1995))
def ka(Y0:Nat):Value:=.ref (.add (vv Y0 0) 1994)
def zI:DictEntry:=ag w b c qI (.add t 5615) (rA A 0)
def ms:Code:=.builtin "claim.caller" {}
def BX:Obj:=⟨(.type "slice"),none,(.fields ⟨[.none,(.int 24 (.add t 5616)),.none]⟩),#[]⟩
def A8:Obj:=⟨(.type "list_iterator"),none,(.fields ⟨[(cD nn 6 2108),(.int 0 0)]⟩),#[]⟩
def AF:Obj:=lO [(af tt 6 1 5615),(af tt 18 1 5616),(af tt 3006 1 5617)] 0
def law_c:List Call:=[⟨cB "list.__getitem__" [(rA A 0),(.ref (.add n 1998))],6,2,[(0,ah sc sm),(5,BX t)],rV (ka vv 0),8,3,[(0,ah sc sm),(5,BX t),(7,ah m0 0)]⟩,cS (.call (Value.builtin "len") ⟨[(rA A 0)],[]⟩) 13 7 [(0,ah sc sm)] (rV (.int ln lt)) 14 8,cS (cB "int.__lt__" [(.int ln lt),(af tt 2 2 5615)]) 14 9 [] (rV (.bool dd)) 14 9,⟨cB "list.__mul__" [(cD nn 1 1994),(.int (ite (Eq dd true) 1 0) (aV tt 2 5616))],14,10,[(12,AF tt)],rV (ka vv 3),16,11,[(12,AF tt),(15,ah mt 0)]⟩,⟨cB "list.__add__" [(cD nn 0 1995),(ka vv 3)],16,11,[(9,ah m1 y1),(15,ah mt 0)],rV (ka vv 4),18,12,[(9,ah m1 y1),(15,ah mt 0),(17,ah ml 0)]⟩,cS (.call (Value.builtin "sum") ⟨[(ka vv 4)],[]⟩) 18 13 [(17,ah ml 0)] (rV (.int sd st)) 19 14,cS (cB "list.__getitem__" [(cD nn 5 1999),(.int (ak ((aP sd 7)+1) 4) (aV tt 5 5639))]) 25 39 [(24,lO [(.int (ak (aw (aw sd 2654435761) 1) 4294967296) (aV tt 5 5627)),(af tt 0 5 5628),(af tt 4294967295 5 5633),(af tt 6 5 5634)] 0)] (rV (.int (xv 0) (xt 0))) 25 39,cS (cB "list.__getitem__" [(cD nn 5 2000),(.int (ak ((aP sd 7)+2) 4) (aV tt 5 5660))]) 26 60 [(25,lO [(.int (ak (aw (aw sd 2654435761) 2) 4294967296) (aV tt 5 5648)),(af tt 0 5 5649),(af tt 4294967295 5 5654),(af tt 6 5 5655)] 0)] (rV (.int (xv 1) (xt 1))) 26 60,cS (cB "list.__getitem__" [(cD nn 5 2001),(.int (ak ((aP sd 7)+3) 4) (aV tt 5 5681))]) 27 81 [(26,lO [(.int (ak (aw (aw sd 2654435761) 3) 4294967296) (aV tt 5 5669)),(af tt 0 5 5670),(af tt 4294967295 5 5675),(af tt 6 5 5676)] 0)] (rV (.int (xv 2) (xt 2))) 27 81,cS (cB "list.__getitem__" [(cD nn 5 2002),(.int (ak ((aP sd 7)+4) 4) (aV tt 5 5702))]) 28 102 [(27,lO [(.int (ak (aw (aw sd 2654435761) 4) 4294967296) (aV tt 5 5690)),(af tt 0 5 5691),(af tt 4294967295 5 5696),(af tt 6 5 5697)] 0)] (rV (.int (xv 3) (xt 3))) 28 102,cS (cB "list.__getitem__" [(cD nn 5 2003),(.int (ak ((aP sd 7)+5) 4) (aV tt 5 5723))]) 29 123 [(28,lO [(.int (ak (aw (aw sd 2654435761) 5) 4294967296) (aV tt 5 5711)),(af tt 0 5 5712),(af tt 4294967295 5 5717),(af tt 6 5 5718)] 0)] (rV (.int (xv 4) (xt 4))) 29 123,cS (cB "list.__getitem__" [(cD nn 5 2004),(.int (ak ((aP sd 7)+6) 4) (aV tt 5 5744))]) 30 144 [(29,lO [(.int (ak (aw (aw sd 2654435761) 6) 4294967296) (aV tt 5 5732)),(af tt 0 5 5733),(af tt 4294967295 5 5738),(af tt 6 5 5739)] 0)] (rV (.int (xv 5) (xt 5))) 30 144,cS (cB "list.__getitem__" [(cD nn 5 2005),(.int (ak ((aP sd 7)+7) 4) (aV tt 5 5765))]) 31 165 [(30,lO [(.int (ak (aw (aw sd 2654435761) 7) 4294967296) (aV tt 5 5753)),(af tt 0 5 5754),(af tt 4294967295 5 5759),(af tt 6 5 5760)] 0)] (rV (.int (xv 6) (xt 6))) 31 165,⟨cB "dict.__setitem__" [(cD nn 5 2098),(.str uN (aV tt 5 5931)),(af tt 0 5 5925)],133,331,[(123,dO [⟨832,(af tt 832 5 5769),(af tt 0 5 5862)⟩,⟨320,(af tt 320 5 5775),(af tt 0 5 5865)⟩,⟨834,(af tt 834 5 5781),(af tt 0 5 5868)⟩,⟨322,(af tt 322 5 5787),(af tt 0 5 5871)⟩,⟨835,(af tt 835 5 5793),(af tt 0 5 5874)⟩,⟨323,(af tt 323 5 5799),(af tt 0 5 5877)⟩,⟨833,(af tt 833 5 5805),(af tt 0 5 5880)⟩,⟨321,(af tt 321 5 5811),(af tt 0 5 5883)⟩,⟨773,(af tt 773 5 5817),(af tt 0 5 5886)⟩,⟨261,(af tt 261 5 5823),(af tt 0 5 5889)⟩,⟨770,(af tt 770 5 5829),(af tt 0 5 5892)⟩,⟨771,(af tt 771 5 5831),(af tt 0 5 5895)⟩,⟨384,(af tt 384 5 5833),(af tt 0 5 5898)⟩,⟨774,(af tt 774 5 5835),(af tt 7 5 5923)⟩,⟨262,(af tt 262 5 5837),(af tt 7 5 5924)⟩] 15)],.ok (.ret .none),133,332,[(123,dO (List.take 16 (dF (PP w b c) kt o)) 16)]⟩,⟨cB "dict.__setitem__" [(cD nn 5 2098),(.str wa (aV tt 5 5933)),(af tt 0 5 5926)],133,333,[(123,dO (List.take 16 (dF (PP w b c) kt o)) 16)],.ok (.ret .none),133,334,[(123,bq (PP w b c) kt o)]⟩,⟨cB "list.__init__" [(cD nn 5 2125),(cD nn 5 2011)],151,463,[(150,lO [] 0),zL tt xv xt],.ok (.ret .none),151,463,[(150,ah rl rm),zL tt xv xt]⟩,cS (cB "list.__eq__" [(cD nn 6 2110),(cD nn 7 1995)]) 276 772 [(269,ah m2 y2),(273,ah m3 y3)] (rV (.bool true)) 276 772]
def law_b:List Call:=[⟨pA 0 (.add (nn 0) 1994) (.add (nn 0) 1995) (.add (nn 0) 1996) (.add n 1994) [],11,3,[(8,⟨(.type "list_iterator"),none,(.fields ⟨[(ka vv 0),(.int 0 0)]⟩),#[]⟩),(7,ah m0 0),(9,lO [] 0),(10,dO [] 0),(1,⟨(.type "frame"),none,(.dict ⟨[zI w b c A t]⟩ 1),#[]⟩)],.ok .next,12,4,[(8,ci 0),(7,ah m0 0),(9,ah m1 y1),(10,cond e (dO [] 0) (dO [ag w b c pa (lk 0) (lv 0)] 1)),(1,⟨(.type "frame"),none,(.dict ⟨[zI w b c A t]⟩ 1),#[]⟩)]⟩,⟨my ej 7 (.add (nn 5) 2126) (gL (.add n 1994) (.add n 1997) (.add n 1996) (.add n 1995)),152,465,[(137,iO 1937 (.add (nn 5) 2111)),(136,dO [ag w b c ⟨⟨[98,117,115]⟩⟩ (aV tt 5 5971) .none,ag w b c ⟨⟨[108,97,121,111,117,116]⟩⟩ (aV tt 5 5973) (cD nn 5 2109),ag w b c ⟨⟨[119,97,108,107,101,114]⟩⟩ (aV tt 5 5982) (cD nn 5 2115),ag w b c ⟨⟨[99,115,114,115]⟩⟩ (aV tt 5 6050) (cD nn 5 2118),ag w b c KJ0 (aV tt 5 6054) (cD nn 5 2125),ag w b c ⟨⟨[112,99]⟩⟩ (aV tt 5 6057) (af tt 0 5 6055),ag w b c Bl (aV tt 5 6059) (.int 3 4331),ag w b c ⟨⟨[107,110,111,119,110]⟩⟩ (aV tt 5 6061) (cD nn 5 2123),ag w b c ⟨⟨[115,112,111,116,115]⟩⟩ (aV tt 5 6063) (cD nn 5 2124)] 9),(143,iO 1544 (.add (nn 5) 2117)),(142,dO [ag w b c ⟨⟨[115,116,97,116,117,115]⟩⟩ (aV tt 5 5987) (af tt 0 5 5985),ag w b c KJ2 (aV tt 5 5990) (af tt 0 5 5988),ag w b c KJ3 (aV tt 5 5993) (af tt 0 5 5991),ag w b c ⟨⟨[101,110,97,98,108,101,100]⟩⟩ (aV tt 5 5996) (af tt 0 5 5994),ag w b c ⟨⟨[119,97,105,116,105,110,103]⟩⟩ (aV tt 5 5999) (af tt 0 5 5997),ag w b c zk (aV tt 5 6002) (af tt 0 5 6000),ag w b c uN (aV tt 5 6005) (af tt 0 5 6003),ag w b c ⟨⟨[114,101,116,105,114,101,100]⟩⟩ (aV tt 5 6008) (af tt 0 5 6006),ag w b c ⟨⟨[116,105,109,101,114]⟩⟩ (aV tt 5 6010) .none,ag w b c ⟨⟨[104,97,114,116]⟩⟩ (aV tt 5 6012) (af tt 3 5 5965),ag w b c ⟨⟨[112,108,97,105,110]⟩⟩ (aV tt 5 6048) (cD nn 5 2120)] 11),(145,dO [⟨261,(af tt 261 5 6013),(af tt 0 5 6014)⟩,⟨262,(af tt 262 5 6015),(.int 7 4543)⟩,⟨320,(af tt 320 5 6016),(af tt 0 5 6017)⟩,⟨321,(af tt 321 5 6018),(af tt 0 5 6019)⟩,⟨322,(af tt 322 5 6020),(af tt 0 5 6021)⟩,⟨323,(af tt 323 5 6022),(af tt 0 5 6023)⟩,⟨773,(af tt 773 5 6024),(af tt 0 5 6025)⟩,⟨774,(af tt 774 5 6026),(.int 7 4543)⟩,⟨832,(af tt 832 5 6027),(af tt 0 5 6028)⟩,⟨833,(af tt 833 5 6029),(af tt 0 5 6030)⟩,⟨834,(af tt 834 5 6031),(af tt 0 5 6032)⟩,⟨835,(af tt 835 5 6033),(af tt 0 5 6034)⟩] 12),(150,ah rl rm),(148,dO [] 0),(1,⟨(.type "frame"),none,(.dict ⟨[zI w b c A t,ag w b c tV (aV tt 4 5615) (ka vv 4),ag w b c mN (aV tt 5 5768) (cD nn 5 2011)]⟩ 3),#[]⟩),(17,ah ml 0),(151,⟨(.type "list_iterator"),none,(.fields ⟨[(ka vv 4),(.int 0 0)]⟩),#[]⟩),(123,bq (PP w b c) kt o),zL tt xv xt,(4,j1 nn 2112),(3,j1 nn 2098)],.ok .next,153,466,[(137,d0 (PP w b c) A),(136,d1 (PP w b c) A sE),(143,d2 (PP w b c) A),(142,d3 (PP w b c) A sE),(145,d4 (PP w b c) A sE),(150,d5 (PP w b c) A sE),(148,d6 (PP w b c) A sE),(1,ss (PP w b c) 14 f (.add (nn 5) 2011) sl),(17,mo),(151,io),(123,oo),(36,xo),(4,j1 nn 2112),(3,j1 nn 2098)]⟩,⟨pA 1 (.add (nn 6) 2109) (.add (nn 6) 2110) (.add (nn 6) 2111) (.add n 1994) [(tT,(.add n 1997))],271,770,[(137,d0 (PP w b c) A),(136,d1 (PP w b c) A sE),(143,d2 (PP w b c) A),(142,d3 (PP w b c) A sE),(145,d4 (PP w b c) A sE),(150,d5 (PP w b c) A sE),(148,d6 (PP w b c) A sE),(4,j1 nn 2112),(268,A8 nn),tf tt,(269,lO [] 0),(270,dO [] 0),tj w b c nn tt f sl],.ok .next,272,771,[(137,d0 (PP w b c) A),(136,d1 (PP w b c) A sE),(143,d2 (PP w b c) A),(142,d3 (PP w b c) A sE),(145,d4 (PP w b c) A sE),(150,d5 (PP w b c) A sE),(148,d6 (PP w b c) A sE),(4,j1 nn 2112),(268,ci 1),tf tt,(269,ah m2 y2),(270,dO [ag w b c jU (lk 1) (lv 1)] 1),tj w b c nn tt f sl]⟩,⟨pA 2 (.add (nn 7) 1994) (.add (nn 7) 1995) (.add (nn 7) 1996) (.add n 1994) [(FP,(.add n 1996))],275,771,[(3,j1 nn 2098),(123,oo),(272,A8 nn),tf tt,(273,lO [] 0),(274,dO [] 0),tj w b c nn tt f sl],.ok .next,276,772,[(3,j1 nn 2098),(123,oo),(272,ci 2),tf tt,(273,ah m3 y3),(274,dO [ag w b c jU (lk 2) (lv 2)] 1),tj w b c nn tt f sl]⟩]
def law_l:List (List (Code×PySem.Pos)):=[[(tz n,⟨860,39,860,50⟩),(ms,q 6)],[(tz n,⟨867,13,867,18⟩),(ms,q 6)],[(tz n,⟨878,41,878,46⟩),(ms,q 6)],[(tz n,⟨878,81,878,86⟩),(ms,q 6)]]
def law_E:List (Bool×Bool):=[((bB (aw sd 2654435761) 7),false),((bB sd 2654435761),false),((bB (aw sd 2654435761) 6),false),((bB sd 2654435761),false),((bB (aw sd 2654435761) 5),false),((bB sd 2654435761),false),((bB (aw sd 2654435761) 4),false),((bB sd 2654435761),false),((bB (aw sd 2654435761) 3),false),((bB sd 2654435761),false),((bB (aw sd 2654435761) 2),false),((bB sd 2654435761),false),((bB (aw sd 2654435761) 1),false),((bB sd 2654435761),false)]
include w b c A s gh n t L e nn tt vv sc m0 m1 m2 m3 ml mt rl rm sm y1 y2 y3 lt st c3 dd ln sd xv xt kt o f sl sE mo io oo xo ci lk lv q
theorem law_k:pe w b c A gh L 60 [(276,Nat.add (nn 8) 1994),(272,Nat.add (nn 7) 1994),(153,Nat.add (nn 6) 1994),(19,Nat.add (nn 5) 1994),(18,Nat.add (nn 4) 1994),(17,Nat.add (vv 4 0) 1994),(16,Nat.add (nn 3) 1994),(15,Nat.add (vv 3 0) 1994),(14,Nat.add (nn 2) 1994),(12,Nat.add (nn 1) 1994),(8,Nat.add (nn 0) 1994),(7,Nat.add (vv 0 0) 1994),(1,Nat.add n 1994)] [(772,aV tt 8 5615),(771,aV tt 7 5615),(466,aV tt 6 5615),(14,aV tt 5 5615),(12,aV tt 4 5615),(11,aV tt 3 5615),(8,aV tt 2 5615),(4,aV tt 1 5615),(3,aV tt 0 5615),(0,Nat.add t 5615)] (law_c w b c A n t nn tt vv sc m0 m1 m2 m3 ml mt rl rm sm y1 y2 y3 lt st dd ln sd xv xt kt o) (law_b w b c A n t e nn tt vv m0 m1 m2 m3 ml rl rm y1 y2 y3 xv xt kt o f sl sE mo io oo xo ci lk lv) (law_l n q) (law_E sd) [(ms,q 6)] (.call (.ref 1993) ⟨[.ref (.add (A.a 0) 1994)],[]⟩) 1 [(0,ah sc sm)] (.ok (.ret (.bool true))) 276 [(0,ah sc sm)] 772:=by
 cases c<;>cases e
 ·exact jD (hm (sO false false))
 ·exact jD (hm (sO true false))
 ·exact jD (hm (sO false true))
 ·exact jD (hm (sO true true))
end
def zn(d:Int×Nat)(l:List (Nat×Int×Nat))(i:Nat):Int×Nat:=@List.rec (Nat×Int×Nat) (fun _=>Int×Nat) d (fun x _ ih=>@Bool.rec (fun _=>Int×Nat) ih x.2 (Nat.beq x.1 i)) l
def lkZ(l:List Int)(i:Nat):Int:=l.getD i 0
def aB(N T c0:Nat):AS:=⟨gt [(0,c0),(1,N+117),(2,N+124),(3,N+123),(4,N+126),(5,N+131),(6,N+129),(100,N+115),(101,N+121)] (fun _=>0),fun j=>T+eG [356,358,367,435,439,442,444,446,448,372,375,378,381,384,387,390,393,395,397,433,398,400,401,403,405,407,409,411,412,414,416,418] j⟩
def vV(T:Nat)(x u:List Nat):Nat→Int×Nat:=zn (0,Nat.add T 5766) [(0,0,Nat.add T 5615),(1,Int.ofNat (eG x 0),eG u 0),(2,Int.ofNat (eG x 1),eG u 1),(3,Int.ofNat (eG x 2),eG u 2),(4,Int.ofNat (eG x 3),eG u 3),(5,Int.ofNat (eG x 4),eG u 4),(6,Int.ofNat (eG x 5),eG u 5),(7,Int.ofNat (eG x 6),eG u 6)]
def uQ(T:Nat):Nat→Int×Nat:=zn (0,0) [(832,0,(.add T 5862)),(320,0,(.add T 5865)),(834,0,(.add T 5868)),(322,0,(.add T 5871)),(835,0,(.add T 5874)),(323,0,(.add T 5877)),(833,0,(.add T 5880)),(321,0,(.add T 5883)),(773,0,(.add T 5886)),(261,0,(.add T 5889)),(770,0,(.add T 5892)),(771,0,(.add T 5895)),(384,0,(.add T 5898)),(774,7,(.add T 5923)),(262,7,(.add T 5924)),(2816,0,(.add T 5925)),(2818,0,(.add T 5926))]
def rU(T:Nat):Nat→Nat:=eG [(.add T 5769),(.add T 5775),(.add T 5781),(.add T 5787),(.add T 5793),(.add T 5799),(.add T 5805),(.add T 5811),(.add T 5817),(.add T 5823),(.add T 5829),(.add T 5831),(.add T 5833),(.add T 5835),(.add T 5837),(.add T 5931),(.add T 5933)]
def s0_(N T:Nat)(x u:List Nat):BS:=⟨zn (0,0) [(768,0,(.add T 5985)),(770,0,(.add T 5988)),(771,0,(.add T 5991)),(772,0,(.add T 5994)),(836,0,(.add T 5997)),(384,0,(.add T 6000)),(2816,0,(.add T 6003)),(2818,0,(.add T 6006)),(3860,3,(.add T 5965))],zn (0,0) [(261,0,(.add T 6014)),(262,7,4543),(320,0,(.add T 6017)),(321,0,(.add T 6019)),(322,0,(.add T 6021)),(323,0,(.add T 6023)),(773,0,(.add T 6025)),(774,7,4543),(832,0,(.add T 6028)),(833,0,(.add T 6030)),(834,0,(.add T 6032)),(835,0,(.add T 6034))],vV T x u,(0,Nat.add T 6055),(3,4331),Nat.add N 2124,#[],0⟩
def evT(T:Nat):List Value:=[.int (Int.ofNat 832) (.add T 5615),.int (Int.ofNat 320) (.add T 5621),.int (Int.ofNat 834) (.add T 5627),.int (Int.ofNat 322) (.add T 5633),.int (Int.ofNat 835) (.add T 5639),.int (Int.ofNat 323) (.add T 5645),.int (Int.ofNat 833) (.add T 5651),.int (Int.ofNat 321) (.add T 5657),.int (Int.ofNat 773) (.add T 5663),.int (Int.ofNat 261) (.add T 5669),.int (Int.ofNat 770) (.add T 5675),.int (Int.ofNat 771) (.add T 5677),.int (Int.ofNat 384) (.add T 5679),.int (Int.ofNat 774) (.add T 5681),.int (Int.ofNat 262) (.add T 5683),.int (Int.ofNat 2816) (.add T 5807),.int (Int.ofNat 2818) (.add T 5808),.int (Int.ofNat 2944) (.add T 5809),.int (Int.ofNat 2946) (.add T 5810),.int (Int.ofNat 3072) (.add T 5811),.int (Int.ofNat 3073) (.add T 5812),.int (Int.ofNat 3074) (.add T 5813),.int (Int.ofNat 3200) (.add T 5814),.int (Int.ofNat 3201) (.add T 5815),.int (Int.ofNat 3202) (.add T 5816),.int (Int.ofNat 769) (.add T 5909),.int (Int.ofNat 3857) (.add T 5910),.int (Int.ofNat 3860) (.add T 5911)]
theorem inv0(N T:Nat)(x u:List Nat)(hx:∀i,i<7→eG x i<2^32):InvA (s0_ N T x u) (uQ T) (vV T x u):=by
  refine⟨fun k hk=>?_,fun k hk=>?_,rfl,fun k hk=>rfl,fun k hk=>?_,⟨0,rfl,by decide⟩,⟨0,rfl,by decide⟩,fun k hk=>?_⟩
  · simp only[plainL,List.mem_cons,List.not_mem_nil,or_false]at hk
    rcases hk with rfl|rfl|rfl|rfl|rfl|rfl|rfl|rfl|rfl|rfl|rfl|rfl<;>rfl
  · simp only[List.mem_cons,List.not_mem_nil,or_false]at hk
    rcases hk with rfl|rfl|rfl|rfl|rfl<;>rfl
  · simp only[keptL,List.mem_cons,List.not_mem_nil,or_false]at hk
    rcases hk with rfl|rfl|rfl|rfl|rfl|rfl|rfl|rfl|rfl|rfl|rfl|rfl|rfl|rfl|rfl<;>first|exact⟨0,rfl,by decide⟩|exact⟨7,rfl,by decide⟩
  · rcases k with _|k
    · exact⟨0,rfl,by decide⟩
    iterate 7 (rcases k with _|k;· exact⟨_,rfl,hx _ (by decide)⟩)
    iterate 24 (rcases k with _|k;· exact⟨0,rfl,by decide⟩)
    omega
theorem Fs(T:Nat):∀(j e:Nat),(E28[j]?:Option Nat)=some e→∃u:Nat,((evT T)[j]?:Option Value)=some (.int (Int.ofNat e) u):=by
  intro j e h
  iterate 28 (rcases j with _|j;· cases h;exact⟨_,rfl⟩)
  simp[E28]at h
theorem Bp{α:Type}(a b c d e f g:α):[a,b,c,d,e,f,g].Perm [f,g,a,b,c,d,e]:=List.perm_append_comm (l₁:=[a,b,c,d,e]) (l₂:=[f,g])
theorem AL{α:Type}(L:List α)(a b c d e f:α):(L++[a,b,c,d,e,f]).Perm (L++[f,a,b,c,d,e]):=List.Perm.append_left L (List.perm_append_comm (l₁:=[a,b,c,d,e]) (l₂:=[f]))
inductive get4X (p:Nat) (k:Nat) (t0:Nat) (t1:Nat) (t2:Nat) (t3:Nat):Prop where
  |mk (x u:Nat) (h0_:x<2^32) (h1_:∀(w:World) (b c:Bool) (a n t ut:Nat),TriC (MM w b c) (bV (PP w b c)) 1994 (fun Γ=>Lim Γ 80) (.builtin "list.__getitem__" ⟨[.ref a,.int (ak (aP (Int.ofNat p) 7+(k:Int)) 4) ut],[]⟩) []
    [(a,lO [.int (ak (aw (aw (Int.ofNat p) 2654435761) (k:Int)) 4294967296) t0,.int 0 t1,.int 4294967295 t2,.int 6 t3] 0)] n t (.ok (.ret (.int (Int.ofNat x) u))) [] [(a,lO [.int (ak (aw (aw (Int.ofNat p) 2654435761) (k:Int)) 4294967296) t0,.int 0 t1,.int 4294967295 t2,.int 6 t3] 0)] n t):get4X p k t0 t1 t2 t3
theorem oZ(p k t0 t1 t2 t3:Nat):get4X p k t0 t1 t2 t3:=by
  obtain⟨j,x,u,hj,hj6,hx,hl⟩:=pick4 p k t0 t1 t2 t3
  exact⟨x,u,hx,fun w b c a n t ut=>TriC.code (by rw[hj]) (bb Lim.h hl hj6)⟩
inductive cm_bothX (w:World) (b:Bool) (c:Bool) (it:Nat) (ls:Nat) (acc:Nat) (loc:Nat) (fr:Nat) (bl:List (Code×PySem.Pos)) (fo:Obj) (ml:List Value) (n:Nat) (t:Nat):Prop where
  |mk (e:Bool) (ps:List Value) (zm lk' n' t':Nat) (lv':Value) (io:Obj) (h0_:ps.length=ml.length) (h1_:(∀z∈ps,si z)) (h2_:Gm w b c it ls acc loc fr bl fo ml 0 0 [] 0 (dO [] 0) n t ps zm io (cond e (dO [] 0) (i8 (PP w b c) [110] lk' lv')) n' t'):cm_bothX w b c it ls acc loc fr bl fo ml n t
theorem Jp(w:World)(b c:Bool)(it ls acc loc fr:Nat)(bl:List (Code×PySem.Pos))(hb:unitsOf bl+640<700)(fo:Obj)(ml:List Value)(hm:∀j,j<ml.length→∃(v:Int) (u:Nat),ml[j]?=some (.int v u))(hl:ml.length≤900)(n t:Nat):cm_bothX w b c it ls acc loc fr bl fo ml n t:=by
  have s:BS:=⟨fun _=>(0,0),fun _=>(0,0),fun _=>(0,0),(0,0),(0,0),0,#[],0⟩
  by_cases h:ml=[]
  · subst h
    exact⟨true,[],0,0,n+2,t,.none,fH 0,rfl,aa,Bc w b c it ls acc loc fr bl fo [] 0 s 0 rfl [] 0 (dO [] 0) n t⟩
  · obtain⟨ps,zm,lk',n',t',lv',io,h1,h2,h3⟩:=cm_all w b c it ls acc loc fr bl hb fo ml 0 s hm hl h n t
    exact⟨false,ps,zm,lk',n',t',lv',io,h1,h2,h3⟩
theorem GO(w:World)(k:Nat→Nat)(o:Nat→Int×Nat)(m:Nat):dx w ((dF w.params k o).take m):=fun e he=>eJ w k o e (List.mem_of_mem_take he)
theorem law_ok(w:World)(b c:Bool)(P6:PySem.Pos)(xs:List Value)(hx:∀j,j<xs.length→∃(v:Int) (u:Nat),xs[j]?=some (.int v u))(hlen:xs.length≤100)(la n t:Nat):∃n' t':Nat,
    TriAt (MM w b c) (bV (PP w b c)) 1994 140 [(.builtin "claim.caller" {},P6)] (.call (.ref 1993) ⟨[.ref (.add la 1994)],[]⟩) [] [(.add la 1994,ah xs 0)] (.add n 1994) (.add t 5615) (.ok (.ret (.bool true))) [] [(.add la 1994,ah xs 0)] n' t':=by
  have hm0:∀j,j<(xs.take 24).length→∃(v:Int) (u:Nat),(xs.take 24)[j]?=some (.int v u):=fun j hj=>by
    have h1:j<24:=by simp at hj;omega
    have h2:j<xs.length:=by simp at hj;omega
    obtain⟨v,u,h⟩:=hx j h2
    exact⟨v,u,by rw[List.getElem?_take,if_pos h1];exact h⟩
  have hl0:(xs.take 24).length=min 24 xs.length:=by simp
  obtain⟨e,m1,y1,lk0,N1,T1,lv0,io0,hl1,hk1,HM⟩:=Jp w b c (n+6) (n+5) (n+7) (n+8) n [(.func ej (gL (.add n 1994) (.add n 1997) (.add n 1996) (.add n 1995)),⟨860,39,860,50⟩),(.builtin "claim.caller" {},P6)] (gN _ _ _) (bC ⟨[ag w b c qI (.add t 5615) (.ref (.add la 1994))]⟩ 1 #[]) (xs.take 24) hm0 (by rw[hl0];omega) (n+9) (t+2)
  have hl1':m1.length≤24:=by rw[hl1,hl0];omega
  have hmt:∀z∈([.int 6 (.add T1 5615),.int 18 (.add T1 5616),.int 3006 (.add T1 5617)]:List Value),si z:=ab ⟨6,_,rfl,by decide⟩ (ab ⟨18,_,rfl,by decide⟩ (ab ⟨3006,_,rfl,by decide⟩ aa))
  obtain⟨dd,hdd⟩:∃dd:Bool,dd=decide ((xs.length:Int)<2):=⟨_,rfl⟩
  obtain⟨mt,hmtE⟩:∃mt:List Value,mt=cond dd [.int 6 (.add T1 5615),.int 18 (.add T1 5616),.int 3006 (.add T1 5617)] []:=⟨_,rfl⟩
  have hmlK:∀z∈m1++mt,si z:=fun z hz=>by
    rcases List.mem_append.mp hz with h|h
    · exact hk1 z h
    · rw[hmtE]at h
      cases dd with
      |true=>exact hmt z h
      |false=>cases h
  have hmlL:(m1++mt).length≤40:=by
    rw[List.length_append,hmtE]
    cases dd<;>simp<;>omega
  have hml0:m1++mt≠[]:=by
    intro h
    have h1:=congrArg List.length h
    rw[List.length_append,hmtE,hl1,hl0]at h1
    cases hd:dd with
    |true=>rw[hd]at h1;simp at h1
    |false=>
      rw[hd]at hdd h1
      have:¬(xs.length:Int)<2:=of_decide_eq_false hdd.symm
      have h2:min 24 xs.length+0=0:=h1
      omega
  obtain⟨p,N5,T5,st,HS⟩:=sum_ok w b c hmlK hmlL (N1+2) (N1+3) (T1+8)
  obtain⟨x1,u1,hx1,G1⟩:=oZ p 1 (.add T5 5627) (.add T5 5628) (.add T5 5633) (.add T5 5634)
  obtain⟨x2,u2,hx2,G2⟩:=oZ p 2 (.add T5 5648) (.add T5 5649) (.add T5 5654) (.add T5 5655)
  obtain⟨x3,u3,hx3,G3⟩:=oZ p 3 (.add T5 5669) (.add T5 5670) (.add T5 5675) (.add T5 5676)
  obtain⟨x4,u4,hx4,G4⟩:=oZ p 4 (.add T5 5690) (.add T5 5691) (.add T5 5696) (.add T5 5697)
  obtain⟨x5,u5,hx5,G5⟩:=oZ p 5 (.add T5 5711) (.add T5 5712) (.add T5 5717) (.add T5 5718)
  obtain⟨x6,u6,hx6,G6⟩:=oZ p 6 (.add T5 5732) (.add T5 5733) (.add T5 5738) (.add T5 5739)
  obtain⟨x7,u7,hx7,G7⟩:=oZ p 7 (.add T5 5753) (.add T5 5754) (.add T5 5759) (.add T5 5760)
  obtain⟨xL,hxL⟩:∃l:List Nat,l=[x1,x2,x3,x4,x5,x6,x7]:=⟨_,rfl⟩
  obtain⟨uL,huL⟩:∃l:List Nat,l=[u1,u2,u3,u4,u5,u6,u7]:=⟨_,rfl⟩
  have hxs:∀i,i<7→eG xL i<2^32:=fun i hi=>by
    subst hxL
    rcases i with _|_|_|_|_|_|_|i
    · exact hx1
    · exact hx2
    · exact hx3
    · exact hx4
    · exact hx5
    · exact hx6
    · exact hx7
    · omega
  have I0:=inv0 N5 T5 xL uL hxs
  let Bd:LA:=⟨n,N1+2,N5+132,N5+104,N5+17,n+3,n+2,Nat.add n 1995⟩
  let q:Nat→PySem.Pos:=fun i=>cond (Nat.beq i 5) ⟨867,13,867,18⟩ P6
  obtain⟨sE,oE,rE,f',sl',ioE,N6,T6,IE,hslE,HF⟩:=forRun w b c (aB N5 T5 (N5+118)) Bd q (m1++mt) 0 (rU T5) (fun i hi=>by
      obtain⟨v,u,hz,_⟩:=hmlK (m1++mt)[i] (List.getElem_mem hi)
      exact⟨v,u,by rw[List.getElem?_eq_getElem hi,hz]⟩) (m1++mt).length 0 3 ⟨eG [Nat.add t 5615,Nat.add (T1+7) 5615,Nat.add T5 5768],BV [.ref (.add la 1994),.ref (.add (N1+2) 1994)]⟩ #[] (s0_ N5 T5 xL uL) (uQ T5) (vV T5 xL uL) [] (N5+133) (T5+451)
    (by omega) (.inl rfl) (fun h=>absurd (List.length_eq_zero_iff.mp h) hml0) (.inl rfl) I0 (fun e he=>nomatch he) (by show 0+_≤1000;omega)
  let frE:Obj:=bC ⟨Ee (PP w b c) f' (.add N5 2011)++[ag w b c ⟨⟨[101,118,101,114,121]⟩⟩ (.add T6 5918) (.ref (.add N6 2108))]⟩ 15 sl'
  obtain⟨m2,y2,lk1,N7,T7,lv1,io1,hv2,HC⟩:=cc_all w b c (aB N5 T5 (N5+118)) sE (N6+115) (N6+114) (N6+116) (N6+117) n (n+3) [(.func ej (gL (.add n 1994) (.add n 1997) (.add n 1996) (.add n 1995)),⟨878,41,878,46⟩),(.builtin "claim.caller" {},P6)] (gN _ _ _) frE (evT T6) 0 rfl (Fs T6) (N6+118) (T6+304)
  obtain⟨m3,y3,lk2,N8,T8,lv2,io2,hv3,HO⟩:=co_all w b c N7 (N6+114) (N7+1) (N7+2) n (n+2) (N5+104) [(.func ej (gL (.add n 1994) (.add n 1997) (.add n 1996) (.add n 1995)),⟨878,81,878,86⟩),(.builtin "claim.caller" {},P6)] (gN _ _ _) frE (evT T6) 0 (rU T5) oE rfl (Fs T6) (N7+3) T7
  obtain⟨q1,q2,q3,q4⟩:=A0 E28 m2 m3 (dQ sE) (eA oE) (fun e he=>(xp IE he).1) hv2 hv3
  have key:=law_k w b c (aB N5 T5 la) (s0_ N5 T5 xL uL) [] n t 80 e (eG [n+6,N1,N1+1,N1+2,N1+3,N5,N6,N7,N8]) (eG [t+2,T1,T1+5,T1+7,T1+7,T5,T6,T7,T8]) (fun i _=>cond (Nat.beq i 0) (n+5) (cond (Nat.beq i 3) (N1+1) (N1+2)))
    xs (xs.take 24) m1 m2 m3 (m1++mt) mt ((List.range 32).map fun k=>.int (vV T5 xL uL k).1 (vV T5 xL uL k).2) 1 0 y1 y2 y3 (.add T1 5619) st 0 dd (xs.length:Int) (Int.ofNat p) (lkZ [Int.ofNat x1,Int.ofNat x2,Int.ofNat x3,Int.ofNat x4,Int.ofNat x5,Int.ofNat x6,Int.ofNat x7]) (eG [u1,u2,u3,u4,u5,u6,u7]) (rU T5) (uQ T5) f' sl' sE (ah (m1++mt) 0) ioE (bq (PP w b c) (rU T5) oE) (xO rE) (fun i=>cond (Nat.beq i 0) io0 (cond (Nat.beq i 1) io1 io2)) (eG [lk0,lk1,lk2]) (BV [lv0,lv1,lv2]) q
    (fk (TriC.cast (T_upto (prog:=prog2) (w:=W2 w b c) (S:=bV (PP w b c)) (B:=1994) (gh:=[]) (n:=Nat.add (n+5) 1994) (t:=Nat.add t 5617) (C:=fun Γ=>Lim Γ 80) Lim.h (l:=Nat.add la 1994) (sl:=Nat.add n 1998) (tk:=Nat.add t 5616) (m:=0) (k:=24) (xs:=xs) (by simp[sizeLine];omega)) (by kernel_rfl) (by kernel_rfl) (by kernel_rfl) (by kernel_rfl) (by kernel_rfl) (by kernel_rfl) rfl rfl (by kernel_rfl)) <|
     fk (TriC.cast (T_len (prog:=prog2) (w:=W2 w b c) (S:=bV (PP w b c)) (B:=1994) (gh:=[]) (n:=Nat.add (N1+1) 1994) (t:=Nat.add T1 5618) (C:=fun Γ=>Lim Γ 80) Lim.h (l:=Nat.add la 1994) (m:=0) (xs:=xs) (by omega)) (by kernel_rfl) (by kernel_rfl) (by kernel_rfl) (by kernel_rfl) (by kernel_rfl) (by kernel_rfl) rfl rfl (by kernel_rfl)) <|
     fk (TriC.cast T_lt rfl rfl rfl rfl rfl rfl rfl rfl (by rw[hdd])) <|
     fk (TriC.cast (zD (prog:=prog2) (w:=W2 w b c) (S:=bV (PP w b c)) (B:=1994) (gh:=[]) (n:=Nat.add (N1+1) 1994) (t:=Nat.add (T1+7) 5615) (C:=fun Γ=>Lim Γ 80) Lim.h (a:=Nat.add N1 1994) (xs:=[.int 6 (.add T1 5615),.int 18 (.add T1 5616),.int 3006 (.add T1 5617)]) (m:=0) (u:=Nat.add (T1+5) 5616) (d:=dd) (x:=ite (Eq dd true) 1 0) (by cases dd<;>rfl) (show 3≤1000 by decide) (fun h=>by cases h)) (by kernel_rfl) (by kernel_rfl) (by kernel_rfl) (by rw[←hmtE];kernel_rfl) (by kernel_rfl) (by kernel_rfl) rfl rfl (by kernel_rfl)) <|
     fk (TriC.code (by kernel_rfl) (TriC.cast (zp (prog:=prog2) (w:=W2 w b c) (S:=bV (PP w b c)) (B:=1994) (gh:=[]) (n:=Nat.add (N1+2) 1994) (t:=Nat.add (T1+7) 5615) (C:=fun Γ=>Lim Γ 80) Lim.h (a:=Nat.add (n+7) 1994) (b:=Nat.add (N1+1) 1994) (xs:=m1) (ys:=mt) (k:=y1) (m:=0) (by rw[←List.length_append];simp only[sizeLine];omega)) (by kernel_rfl) (by kernel_rfl) (by kernel_rfl) (by kernel_rfl) (by kernel_rfl) (by kernel_rfl) rfl rfl (by kernel_rfl))) <|
     fk (TriC.cast HS (by kernel_rfl) (by kernel_rfl) (by kernel_rfl) (by kernel_rfl) rfl rfl rfl rfl rfl) <|
     fk (TriC.cast (G1 w b c (.add N5 1999) (.add N5 2000) (.add T5 5640) (.add T5 5639)) (by kernel_rfl) (by kernel_rfl) (by kernel_rfl) (by kernel_rfl) (by kernel_rfl) (by kernel_rfl) rfl rfl (by kernel_rfl))<|fk (TriC.cast (G2 w b c (.add N5 2000) (.add N5 2001) (.add T5 5661) (.add T5 5660)) (by kernel_rfl) (by kernel_rfl) (by kernel_rfl) (by kernel_rfl) (by kernel_rfl) (by kernel_rfl) rfl rfl (by kernel_rfl))<|fk (TriC.cast (G3 w b c (.add N5 2001) (.add N5 2002) (.add T5 5682) (.add T5 5681)) (by kernel_rfl) (by kernel_rfl) (by kernel_rfl) (by kernel_rfl) (by kernel_rfl) (by kernel_rfl) rfl rfl (by kernel_rfl))<|fk (TriC.cast (G4 w b c (.add N5 2002) (.add N5 2003) (.add T5 5703) (.add T5 5702)) (by kernel_rfl) (by kernel_rfl) (by kernel_rfl) (by kernel_rfl) (by kernel_rfl) (by kernel_rfl) rfl rfl (by kernel_rfl))<|fk (TriC.cast (G5 w b c (.add N5 2003) (.add N5 2004) (.add T5 5724) (.add T5 5723)) (by kernel_rfl) (by kernel_rfl) (by kernel_rfl) (by kernel_rfl) (by kernel_rfl) (by kernel_rfl) rfl rfl (by kernel_rfl))<|fk (TriC.cast (G6 w b c (.add N5 2004) (.add N5 2005) (.add T5 5745) (.add T5 5744)) (by kernel_rfl) (by kernel_rfl) (by kernel_rfl) (by kernel_rfl) (by kernel_rfl) (by kernel_rfl) rfl rfl (by kernel_rfl))<|fk (TriC.cast (G7 w b c (.add N5 2005) (.add N5 2006) (.add T5 5766) (.add T5 5765)) (by kernel_rfl) (by kernel_rfl) (by kernel_rfl) (by kernel_rfl) (by kernel_rfl) (by kernel_rfl) rfl rfl (by kernel_rfl)) <|
     fk (TriC.cast (rC (prog:=prog2) (w:=W2 w b c) (S:=bV (PP w b c)) (B:=1994) (gh:=[]) (n:=Nat.add (N5+114) 1994) (t:=Nat.add T5 5932) (C:=fun Γ=>Lim Γ 80) Lim.h (d:=Nat.add N5 2098) (l:=(dF (PP w b c) (rU T5) (uQ T5)).take 15) (ep:=15) (k:=.inr ox) (key:=.str ox (.add T5 5931)) (v:=.int 0 (.add T5 5925)) (e:=ag w b c ox (.add T5 5931) (.int 0 (.add T5 5925))) (by kernel_rfl) (GO (W2 w b c) (rU T5) (uQ T5) 15) (by rw[List.length_take];omega) (by rw[df];kernel_rfl) (by kernel_rfl)) (by kernel_rfl) (by kernel_rfl) (by kernel_rfl) (by kernel_rfl) (by kernel_rfl) (by kernel_rfl) rfl rfl rfl) <|
     fk (TriC.cast (rC (prog:=prog2) (w:=W2 w b c) (S:=bV (PP w b c)) (B:=1994) (gh:=[]) (n:=Nat.add (N5+114) 1994) (t:=Nat.add T5 5934) (C:=fun Γ=>Lim Γ 80) Lim.h (d:=Nat.add N5 2098) (l:=(dF (PP w b c) (rU T5) (uQ T5)).take 16) (ep:=16) (k:=.inr oH) (key:=.str oH (.add T5 5933)) (v:=.int 0 (.add T5 5926)) (e:=ag w b c oH (.add T5 5933) (.int 0 (.add T5 5926))) (by kernel_rfl) (GO (W2 w b c) (rU T5) (uQ T5) 16) (by rw[List.length_take];omega) (by rw[df];kernel_rfl) (by kernel_rfl)) (by kernel_rfl) (by kernel_rfl) (by kernel_rfl) (by kernel_rfl) (by kernel_rfl) (by kernel_rfl) rfl rfl rfl) <|
     fk (TriC.cast (wj (prog:=prog2) (w:=W2 w b c) (S:=bV (PP w b c)) (B:=1994) (gh:=[]) (n:=Nat.add (N5+132) 1994) (t:=Nat.add (T5+449) 5615) (C:=fun Γ=>Lim Γ 80) Lim.h (a:=Nat.add N5 2125) (l:=Nat.add N5 2011) (xs:=(List.range 32).map fun k=>.int (vV T5 xL uL k).1 (vV T5 xL uL k).2) (m:=0) (by simp) (fun h=>by cases h)) (by subst hxL huL;kernel_rfl) (by kernel_rfl) (by kernel_rfl) (by subst hxL huL;kernel_rfl) (by kernel_rfl) (by kernel_rfl) rfl rfl rfl) <|
     fk (TriC.code (by kernel_rfl) (TriC.cast (BJ (prog:=prog2) (w:=W2 w b c) (S:=bV (PP w b c)) (B:=1994) (gh:=[]) (n:=Nat.add N8 1994) (t:=Nat.add T8 5615) (C:=fun Γ=>Lim Γ 80) Lim.h (a:=Nat.add N6 2110) (b:=Nat.add (N7+1) 1994) (l:=m2) (r:=m3) (k:=y2) (m:=y3) q2 q3 q4) (by kernel_rfl) (by kernel_rfl) (by kernel_rfl) (by kernel_rfl) (by kernel_rfl) (by kernel_rfl) rfl rfl (by rw[q1]))) <|
     aa)
    (ab ⟨by kernel_rfl,TriC.code (by kernel_rfl) (TriC.cast (gy (gN _ _ _) HM) (by kernel_rfl) (by kernel_rfl) (by kernel_rfl) (by kernel_rfl) rfl rfl rfl rfl rfl)⟩ <|
     ab ⟨by kernel_rfl,bO (by kernel_rfl) (TriC.code (by kernel_rfl) (TriC.cast (gy (vW Bd q) HF) (by subst hxL huL;kernel_rfl) (by kernel_rfl) (by kernel_rfl) (by kernel_rfl) rfl rfl rfl rfl rfl))⟩ <|
     ab ⟨by kernel_rfl,TriC.code (by kernel_rfl) (TriC.cast (TriC.perm (gy (gN _ _ _) HC) (AL _ _ _ _ _ _ _) (AL _ _ _ _ _ _ _)) (by kernel_rfl) (by kernel_rfl) (by kernel_rfl) (by kernel_rfl) rfl rfl rfl rfl rfl)⟩ <|
     ab ⟨by kernel_rfl,TriC.code (by kernel_rfl) (TriC.cast (TriC.perm (gy (gN _ _ _) HO) (Bp _ _ _ _ _ _ _) (Bp _ _ _ _ _ _ _)) (by kernel_rfl) (by kernel_rfl) (by kernel_rfl) (by kernel_rfl) rfl rfl rfl rfl rfl)⟩ aa)
    (CM _)
  exact⟨_,_,TriC.cast key rfl rfl rfl rfl rfl rfl rfl rfl rfl⟩
end
section
open PySem PySem.W
def gT(st:Setting):Cfg:=⟨.nil,0,fun i=>i,fun i=>i,fun _=>[],st⟩
abbrev fX:=Bool→mn→Setting→Ctx→Pos→HT→Nat→Nat→List Claim→Hn→Q
def tPure(fin:PySem.Fin):fX:=fun _ ih _ Γ p T c tk A H=>
 @PySem.Fin.rec (fun _=>Q) (fun f=>.ok (.ok f) T c tk A H) (fun cd=>@Bool.rec (fun _=>Q) .no (ih (Γ.goto cd) cd p T c tk A H) (fZ cd)) fin
def tLoad(a:Addr)(kih:Obj→fX):fX:=fun mk ih g Γ p T c tk A H=>@Option.rec Obj (fun _=>Q) .no (fun o=>kih o mk ih g Γ p T c tk A H) (T.getK (.add a 1))
def tAlive(a:Addr)(kih:Option Obj→fX):fX:=fun mk ih g Γ p T c tk A H=>@Option.rec Obj (fun _=>Q) .no (fun o=>kih (some o) mk ih g Γ p T c tk A H) (T.getK (.add a 1))
def tUpd(a:Addr)(f:Obj→Obj)(kih:Unit→fX):fX:=fun mk ih g Γ p T c tk A H=>@Option.rec Obj (fun _=>Q) .no (fun o=>
 @Bool.rec (fun _=>Q) (kih () mk ih g Γ p (T.putK (.add a 1) (f o)) c tk A H) .no (f o).isFreed) (T.getK (.add a 1))
def tAlloc(o:Obj)(kih:Addr→fX):fX:=fun mk ih g Γ p T c tk A H=>@Bool.rec (fun _=>Q) (kih c mk ih g Γ p (T.putK (.add c 1) o) (.add c 1) tk A H) .no o.isFreed
def tFresh(kih:Tok→fX):fX:=fun mk ih g Γ p T c tk A H=>@Bool.rec (fun _=>Q) .no (kih tk mk ih g Γ p T c (.add tk 1) A H) (Nat.ble tk 1000000000)
def tCall(cd:Code)(h:Option Value)(kih:Result→fX):fX:=fun mk ih g Γ p T c tk A H=>
 Q.andThen (ih (Γ.enter cd h p) cd p T c tk A H) fun r T c tk A H=>kih r mk ih g Γ p T c tk A H
def tMark(a:Addr)(live:List Value)(kih:Bool→fX):fX:=fun mk ih g Γ p T c tk A H=>
 @Bool.rec (fun _=>Q) .no (@List.rec Value (fun _=>Q) .no (fun v _ _=>match v with
  |.int x _=>@Int.rec (fun _=>Q) (fun n=>kih true mk ih g Γ p T c tk (.eq a n::A) H) (fun _=>.no) x
  |.bool b=>@Bool.rec (fun _=>Q) (kih false mk ih g Γ p T c tk A H) (kih true mk ih g Γ p T c tk A H) b
  |_=>.no) live) mk
def ei(t:Sem PySem.Fin):fX:=
 Sem.rec (motive:=fun _=>fX)
  (pure:=tPure)
  (raise:=fun e _ _ _ _ _ T c tk A H=>.ok (.error e) T c tk A H)
  (unsupported:=fun _ _ _ _ _ _ _ _ _ _ _=>.no)
  (finish:=fun _ _ _ _ _ _ _ _ _ _ _=>.no)
  (rule:=fun _ _ kih=>kih ())
  («at»:=fun q _ kih mk ih g Γ _ T c tk A H=>kih () mk ih g Γ q T c tk A H)
  (load:=fun a _ _ kih=>tLoad a kih)
  (update:=fun a _ f _ kih=>tUpd a f kih)
  (alloc:=fun o _ kih=>tAlloc o kih)
  (loadIfAlive:=fun a _ kih=>tAlive a kih)
  (point:=fun _ _ kih=>kih ())
  (register:=fun _ _ _ _ _ _ _ _ _ _ _ _ _=>.no)
  (fresh:=fun _ kih=>tFresh kih)
  (ask:=fun k kih mk ih g Γ p T c tk A H=>kih g mk ih g Γ p T c tk (.ask k::A) H)
  (choose:=fun _ _ _ _ _ _ _ _ _ _ _ _ _ _=>.no)
  (os:=fun _ _ _ _ _ _ _ _ _ _ _ _ _ _=>.no)
  (call:=fun cd h _ _ _ kih=>tCall cd h kih)
  (handled:=fun own _ kih mk ih g Γ=>kih (@Bool.rec (fun _=>Option Value) Γ.handled Γ.own own) mk ih g Γ)
  (newGen:=fun _ _ _ _ _ _ _ _ _ _ _ _ _=>.no)
  (genState:=fun _ _ _ _ _ _ _ _ _ _ _ _ _=>.no)
  (resume:=fun _ _ _ _ _ _ _ _ _ _ _ _ _ _ _=>.no)
  (yield:=fun _ _ _ _ _ _ _ _ _ _ _ _ _ _ _=>.no)
  (stack:=fun _ kih mk ih g Γ p=>kih ((Γ.code,p)::Γ.below) mk ih g Γ p)
  (fork:=fun _ _ _ _ _ _ _ _ _ _ _ _ _=>.no)
  (thread:=fun _ kih=>kih 0)
  (await:=fun a _ _ live _ kih=>tMark a live kih)
  t
def HH(cd:Code):Nat:=match cd with
 |.call f _=>(match f with|.ref a=>Nat.add a 3|_=>0)
 |.compLoop ..=>1
 |.compStart ..=>2
 |_=>0
def tX(H:Hn)(cd:Code)(c tk:Nat):Option (Nat×Hn):=match H with
 |.ld c0 H1=>(match H1 with
  |.ld t0 H2=>(match H2 with
   |.ld kd H3=>(match H3 with
    |.orc i r=>@Bool.rec (fun _=>Option (Nat×Hn)) none (@Bool.rec (fun _=>Option (Nat×Hn)) none (@Bool.rec (fun _=>Option (Nat×Hn)) none (some (i,r)) (Nat.beq kd (HH cd))) (Nat.beq t0 tk)) (Nat.beq c0 c)
    |_=>none)
   |_=>none)
  |_=>none)
 |_=>none
def te(W:Code→WT)(O:j0)(st:Setting)(N:Nat):mn:=
 @Nat.rec (fun _=>mn) (fun _ _ _ _ _ _ _ _=>.no) (fun _ ih Γ cd p T c tk A H=>
  @Option.rec (Nat×Hn) (fun _=>Q) (@Prod.rec Bool (Sem PySem.Fin) (fun _=>Q) (fun mk t=>ei t mk ih st Γ p T c tk A H) (W cd))
   (fun x=>O x.1 (gT st) Γ cd T c tk A x.2) (tX H cd c tk)) N
theorem mV(st:Setting)(ih:mn)(hih:n7 ih)(t:Sem PySem.Fin):∀mk Γ p T c tk A H l,(ei t mk ih st Γ p T c tk A H).leaf=some l→∃xs,l.A=xs++A:=by
 have cut:∀{x:List Claim} {A:List Claim} {l:Leaf},(∃xs,l.A=xs++(x++A))→∃xs,l.A=xs++A:=fun ⟨xs,a⟩=>⟨xs++_,by rw[a,List.append_assoc]⟩
 have one:∀{x:Claim} {A:List Claim} {l:Leaf},(∃xs,l.A=xs++(x::A))→∃xs,l.A=xs++A:=fun h=>cut (x:=[_]) h
 induction t with
 |pure fin=>
  intro mk Γ p T c tk A H l e
  cases fin with
  |done f=>
   have e':some (⟨.ok f,T,c,tk,A,H⟩:Leaf)=some l:=e
   cases e'
   exact⟨[],rfl⟩
  |again cd=>
   have e':(@Bool.rec (fun _=>Q) .no (ih (Γ.goto cd) cd p T c tk A H) (fZ cd)).leaf=some l:=e
   cases q:fZ cd with
   |false=>rw[q]at e';cases e'
   |true=>rw[q]at e';exact hih _ _ _ _ _ _ _ _ _ e'
 |raise v=>
  intro mk Γ p T c tk A H l e
  have e':some (⟨.error v,T,c,tk,A,H⟩:Leaf)=some l:=e
  cases e'
  exact⟨[],rfl⟩
 |unsupported|finish|register|choose|os|newGen|genState|resume|yield|fork=>intro mk Γ p T c tk A H l e;cases e
 |rule tag k kih=>intro mk Γ p T c tk A H l e;exact kih () mk Γ p T c tk A H l e
 |«at» q k kih=>intro mk Γ p T c tk A H l e;exact kih () mk Γ q T c tk A H l e
 |point l k kih=>intro mk Γ p T c tk A H l e;exact kih () mk Γ p T c tk A H l e
 |thread k kih=>intro mk Γ p T c tk A H l e;exact kih 0 mk Γ p T c tk A H l e
 |stack k kih=>intro mk Γ p T c tk A H l e;exact kih _ mk Γ p T c tk A H l e
 |handled own k kih=>intro mk Γ p T c tk A H l e;exact kih _ mk Γ p T c tk A H l e
 |ask k kih=>intro mk Γ p T c tk A H l e;exact one (kih st mk Γ p T c tk _ H l e)
 |load a part k kih=>
  intro mk Γ p T c tk A H l e
  have e':(@Option.rec Obj (fun _=>Q) .no (fun o=>ei (k o) mk ih st Γ p T c tk A H) (T.getK (a+1))).leaf=some l:=e
  cases ho:T.getK (a+1) with
  |none=>rw[ho]at e';cases e'
  |some o=>rw[ho]at e';exact kih o mk Γ p T c tk A H l e'
 |loadIfAlive a k kih=>
  intro mk Γ p T c tk A H l e
  have e':(@Option.rec Obj (fun _=>Q) .no (fun o=>ei (k (some o)) mk ih st Γ p T c tk A H) (T.getK (a+1))).leaf=some l:=e
  cases ho:T.getK (a+1) with
  |none=>rw[ho]at e';cases e'
  |some o=>rw[ho]at e';exact kih (some o) mk Γ p T c tk A H l e'
 |update a part f k kih=>
  intro mk Γ p T c tk A H l e
  have e':(@Option.rec Obj (fun _=>Q) .no (fun o=>@Bool.rec (fun _=>Q) (ei (k ()) mk ih st Γ p (T.putK (a+1) (f o)) c tk A H) .no (f o).isFreed) (T.getK (a+1))).leaf=some l:=e
  cases ho:T.getK (a+1) with
  |none=>rw[ho]at e';cases e'
  |some o=>
   rw[ho]at e'
   dsimp only at e'
   cases hf:(f o).isFreed with
   |true=>rw[hf]at e';cases e'
   |false=>rw[hf]at e';exact kih () mk Γ p _ c tk A H l e'
 |alloc o k kih=>
  intro mk Γ p T c tk A H l e
  have e':(@Bool.rec (fun _=>Q) (ei (k c) mk ih st Γ p (T.putK (c+1) o) (c+1) tk A H) .no o.isFreed).leaf=some l:=e
  cases hf:o.isFreed with
  |true=>rw[hf]at e';cases e'
  |false=>rw[hf]at e';exact kih c mk Γ p _ (c+1) tk A H l e'
 |fresh k kih=>
  intro mk Γ p T c tk A H l e
  have e':(@Bool.rec (fun _=>Q) .no (ei (k tk) mk ih st Γ p T c (tk+1) A H) (Nat.ble tk 1000000000)).leaf=some l:=e
  cases hf:Nat.ble tk 1000000000 with
  |false=>rw[hf]at e';cases e'
  |true=>rw[hf]at e';exact kih tk mk Γ p T c (tk+1) A H l e'
 |call cd hd gd lv k kih=>
  intro mk Γ p T c tk A H l e
  have e':(Q.andThen (ih (Γ.enter cd hd p) cd p T c tk A H) fun r T c tk A H=>ei (k r) mk ih st Γ p T c tk A H).leaf=some l:=e
  rw[Q.leaf_andThen]at e'
  cases hl:(ih (Γ.enter cd hd p) cd p T c tk A H).leaf with
  |none=>rw[hl]at e';cases e'
  |some m=>
   rw[hl]at e'
   obtain⟨ys,ey⟩:=hih _ _ _ _ _ _ _ _ _ hl
   obtain⟨zs,ez⟩:=kih m.r mk Γ p m.T m.c m.tk m.A m.H l e'
   exact⟨zs++ys,by rw[ez,ey,List.append_assoc]⟩
 |await a take timed live k kih=>
  intro mk Γ p T c tk A H l e
  cases mk with
  |false=>cases e
  |true=>
   cases live with
   |nil=>cases e
   |cons v ls=>
    cases v with
    |int x u=>
     cases x with
     |ofNat n=>exact one (kih true true Γ p T c tk _ H l e)
     |negSucc n=>cases e
    |bool b=>cases b<;>exact kih _ true Γ p T c tk A H l e
    |_=>cases e
theorem qt(M:Model)(st:Setting)(ih:mn)(him:n7 ih)(N:Nat)(hih:ye M (gT st) N ih){mk:Bool}{t₀ t:Sem PySem.Fin}(hs:Sim mk t₀ t):∀Γ p T c tk A H l,
  LimU Γ (N+1)→(ei t mk ih st Γ p T c tk A H).leaf=some l→SOut M (gT st) Γ t₀ p T c tk A l:=by
 induction hs with
 |pure fin=>
  intro Γ p T c tk A H l hL e
  cases fin with
  |done f=>
   have e':some (⟨.ok f,T,c,tk,A,H⟩:Leaf)=some l:=e
   cases e'
   exact⟨⟨[],rfl⟩,fun _ h gs d os R=>⟨h,.done,R,.refl _ _ _,rfl,Nat.le_refl _⟩⟩
  |again cd=>
   have e':(@Bool.rec (fun _=>Q) .no (ih (Γ.goto cd) cd p T c tk A H) (fZ cd)).leaf=some l:=e
   cases q:fZ cd with
   |false=>rw[q]at e';cases e'
   |true=>
    rw[q]at e'
    exact SOut.mono (xs:=[]) (hih (Γ.goto cd) cd p T c tk A H l rfl (hL.goto cd) e') fun _ _ h gs d os _ h' r=>.again (uk q) r
 |raise v=>
  intro Γ p T c tk A H l hL e
  have e':some (⟨.error v,T,c,tk,A,H⟩:Leaf)=some l:=e
  cases e'
  exact⟨⟨[],rfl⟩,fun _ h gs d os R=>⟨h,.raise,R,.refl _ _ _,rfl,Nat.le_refl _⟩⟩
 |unsupported|finish|register|choose|os|newGen|genState|resume|yield|fork|awaitF|awaitNo=>intro Γ p T c tk A H l hL e;cases e
 |rule tag tag' _ kih=>intro Γ p T c tk A H l hL e;exact SOut.mono (xs:=[]) (kih Γ p T c tk A H l hL e) fun _ _ h gs d os _ h' r=>.rule r
 |ruleL tag _ kih=>intro Γ p T c tk A H l hL e;exact SOut.mono (xs:=[]) (kih Γ p T c tk A H l hL e) fun _ _ h gs d os _ h' r=>.rule r
 |«at» q _ kih=>intro Γ p T c tk A H l hL e;exact SOut.mono (xs:=[]) (kih Γ q T c tk A H l hL e) fun _ _ h gs d os _ h' r=>.at r
 |point l l' _ kih=>intro Γ p T c tk A H l hL e;exact SOut.mono (xs:=[]) (kih Γ p T c tk A H l hL e) fun _ _ h gs d os _ h' r=>.point r
 |pointL l _ kih=>intro Γ p T c tk A H l hL e;exact SOut.mono (xs:=[]) (kih Γ p T c tk A H l hL e) fun _ _ h gs d os _ h' r=>.point r
 |thread _ kih=>intro Γ p T c tk A H l hL e;exact SOut.mono (xs:=[]) (kih Γ p T c tk A H l hL e) fun _ _ h gs d os _ h' r=>.thread r
 |stack _ kih=>intro Γ p T c tk A H l hL e;exact SOut.mono (xs:=[]) (kih _ Γ p T c tk A H l hL e) fun _ _ h gs d os _ h' r=>.stack r
 |stackC _ kih=>intro Γ p T c tk A H l hL e;exact SOut.mono (xs:=[]) (kih _ (hL.few p) Γ p T c tk A H l hL e) fun _ _ h gs d os _ h' r=>.stack r
 |handled own _ kih=>
  intro Γ p T c tk A H l hL e
  refine SOut.mono (xs:=[]) (kih _ Γ p T c tk A H l hL e) fun _ _ h gs d os _ h' r=>.handled ?_
  cases own<;>exact r
 |ask _ kih=>
  rename_i mk k k' _
  intro Γ p T c tk A H l hL e
  have e':(ei (k' st) mk ih st Γ p T c tk (.ask k'::A) H).leaf=some l:=e
  obtain⟨xs,ex⟩:=mV st ih him (k' st) mk Γ p T c tk _ H l e'
  refine⟨⟨xs++[.ask k'],by rw[ex,List.append_assoc];rfl⟩,fun S h gs d os R=>?_⟩
  have q:k' ⟨M.prog,M.w.params⟩=k' st:=S (.ask k') (by rw[ex];simp)
  rw[←q]at e'
  obtain⟨h',a1,a2⟩:=(kih ⟨M.prog,M.w.params⟩ Γ p T c tk _ H l hL e').2 S h gs d os R
  exact⟨h',.ask a1,a2⟩
 |load a part part' _ kih=>
  rename_i mk _ k' _
  intro Γ p T c tk A H l hL e
  have e':(@Option.rec Obj (fun _=>Q) .no (fun o=>ei (k' o) mk ih st Γ p T c tk A H) (T.getK (a+1))).leaf=some l:=e
  cases ho:T.getK (a+1) with
  |none=>rw[ho]at e';cases e'
  |some o=>
   rw[ho]at e'
   exact SOut.mono (xs:=[]) (kih o Γ p T c tk _ H l hL e') fun _ hx h gs d os R h' r=>.load (R.at_ _ _ ho).2 r
 |loadIfAlive a _ kih=>
  rename_i mk _ k' _
  intro Γ p T c tk A H l hL e
  have e':(@Option.rec Obj (fun _=>Q) .no (fun o=>ei (k' (some o)) mk ih st Γ p T c tk A H) (T.getK (a+1))).leaf=some l:=e
  cases ho:T.getK (a+1) with
  |none=>rw[ho]at e';cases e'
  |some o=>
   rw[ho]at e'
   refine SOut.mono (xs:=[]) (kih (some o) Γ p T c tk _ H l hL e') fun _ hx h gs d os R h' r=>.loadIfAlive ?_
   rw[show (Shared.heap ⟨h,gs,d,(gT st).tok tk,os⟩).get? a=some o from (R.at_ _ _ ho).2];exact r
 |update a part part' f _ kih=>
  rename_i mk _ k' _
  intro Γ p T c tk A H l hL e
  have e':(@Option.rec Obj (fun _=>Q) .no (fun o=>@Bool.rec (fun _=>Q) (ei (k' ()) mk ih st Γ p (T.putK (a+1) (f o)) c tk A H) .no (f o).isFreed) (T.getK (a+1))).leaf=some l:=e
  cases ho:T.getK (a+1) with
  |none=>rw[ho]at e';cases e'
  |some o=>
   rw[ho]at e'
   dsimp only at e'
   cases hf:(f o).isFreed with
   |true=>rw[hf]at e';cases e'
   |false=>
    rw[hf]at e'
    obtain⟨⟨ys,ey⟩,K⟩:=kih Γ p _ c tk _ H l hL e'
    refine⟨⟨ys,ey⟩,fun S h gs d os R=>?_⟩
    obtain⟨R1,R2,R3⟩:=R.put ho hf
    obtain⟨h',a1,a2,a3,a4,a5⟩:=K S (h.update a f) gs d os R1
    refine⟨h',.update ?_ ?_,a2,R2.trans R3 a3,a4.trans (by cases h;rfl),Nat.le_trans R3 a5⟩
    ·rw[show (Shared.heap ⟨h,gs,d,(gT st).tok tk,os⟩).get? a=some o from (R.at_ _ _ ho).2];rfl
    ·exact a1
 |alloc o _ kih=>
  rename_i mk k k' _
  intro Γ p T c tk A H l hL e
  have e':(@Bool.rec (fun _=>Q) (ei (k' c) mk ih st Γ p (T.putK (c+1) o) (c+1) tk A H) .no o.isFreed).leaf=some l:=e
  cases hf:o.isFreed with
  |true=>rw[hf]at e';cases e'
  |false=>
   rw[hf]at e'
   obtain⟨⟨ys,ey⟩,K⟩:=kih c Γ p _ (c+1) tk _ H l hL e'
   refine⟨⟨ys,ey⟩,fun S h gs d os R=>?_⟩
   obtain⟨R1,R2,R3⟩:=R.push rfl rfl hf
   obtain⟨h',a1,a2,a3,a4,a5⟩:=K S (h.push o) gs d os R1
   refine⟨h',.alloc ?_,a2,R2.trans R3 a3,a4.trans (by cases h;rfl),Nat.le_trans R3 a5⟩
   rw[show (Shared.heap ⟨h,gs,d,(gT st).tok tk,os⟩).objs.size=c from R.size];exact a1
 |fresh _ kih=>
  rename_i mk k k' _
  intro Γ p T c tk A H l hL e
  have e':(@Bool.rec (fun _=>Q) .no (ei (k' tk) mk ih st Γ p T c (tk+1) A H) (Nat.ble tk 1000000000)).leaf=some l:=e
  cases hf:Nat.ble tk 1000000000 with
  |false=>rw[hf]at e';cases e'
  |true=>
   rw[hf]at e'
   obtain⟨⟨ys,ey⟩,K⟩:=kih tk Γ p T c (tk+1) _ H l hL e'
   refine⟨⟨ys,ey⟩,fun S h gs d os R=>?_⟩
   obtain⟨h',a1,a2⟩:=K S h gs d os R
   exact⟨h',.fresh a1,a2⟩
 |call cd hd gd gd' l₁ l₂ _ kih=>
  intro Γ p T c tk A H l hL e
  rename_i mk k k' _
  have e':(Q.andThen (ih (Γ.enter cd hd p) cd p T c tk A H) fun r T c tk A H=>ei (k' r) mk ih st Γ p T c tk A H).leaf=some l:=e
  rw[Q.leaf_andThen]at e'
  cases hl:(ih (Γ.enter cd hd p) cd p T c tk A H).leaf with
  |none=>rw[hl]at e';cases e'
  |some m=>
   rw[hl]at e'
   obtain⟨⟨ys₁,ey₁⟩,K₁⟩:=hih (Γ.enter cd hd p) cd p T c tk A H m rfl (hL.enter cd hd p) hl
   obtain⟨⟨ys,ey⟩,K⟩:=kih m.r Γ p m.T m.c m.tk m.A m.H l hL e'
   refine⟨⟨ys++ys₁,by rw[ey,ey₁,List.append_assoc]⟩,fun S h gs d os R=>?_⟩
   obtain⟨h₁,a1,a2,a3,a4,a5⟩:=K₁ (fun x hx=>S x (by rw[ey];exact List.mem_append_right _ hx)) h gs d os R
   obtain⟨h',b1,b2,b3,b4,b5⟩:=K S h₁ gs d os a2
   exact⟨h',.call a1 b1,b2,a3.trans a5 b3,b4.trans a4,Nat.le_trans a5 b5⟩
 |claim a x take timed u ls _ kih=>
  rename_i k _
  intro Γ p T c tk A H l hL e
  have e':(ei (k true) true ih st Γ p T c tk (.eq a x::A) H).leaf=some l:=e
  obtain⟨xs,ex⟩:=mV st ih him (k true) true Γ p T c tk _ H l e'
  refine⟨⟨xs++[.eq a x],by rw[ex,List.append_assoc];rfl⟩,fun S=>?_⟩
  have:a=x:=S (.eq a x) (by rw[ex];simp)
  exact(kih this Γ p T c tk _ H l hL e').2 S
 |cond a c take timed ls _ kih=>
  rename_i k _
  intro Γ p T c' tk A H l hL e
  cases c with
  |true=>exact kih true rfl Γ p T c' tk A H l hL e
  |false=>exact kih false rfl Γ p T c' tk A H l hL e
theorem rc(W:Code→WT)(O:j0)(hO:jg O)(st:Setting):∀N,n7 (te W O st N)
 |0=>fun _ _ _ _ _ _ _ _ _ e=>by cases e
 |N+1=>fun Γ cd p T c tk A H l e=>by
  have e':(@Option.rec (Nat×Hn) (fun _=>Q) (@Prod.rec Bool (Sem PySem.Fin) (fun _=>Q) (fun mk t=>ei t mk (te W O st N) st Γ p T c tk A H) (W cd))
   (fun x=>O x.1 (gT st) Γ cd T c tk A x.2) (tX H cd c tk)).leaf=some l:=e
  cases h:tX H cd c tk with
  |none=>rw[h]at e';exact mV st _ (rc W O hO st N) (W cd).2 (W cd).1 Γ p T c tk A _ l e'
  |some x=>rw[h]at e';exact hO x.1 (gT st) Γ cd T c tk A x.2 l e'
theorem oX(M:Model)(st:Setting)(W:Code→WT)(hW:ub M W)(O:j0)(hO:jg O)(L:Nat)(hOk:lC M (gT st) L O):∀N,ye M (gT st) (N+L) (te W O st N)
 |0=>fun _ _ _ _ _ _ _ _ _ _ _ e=>by cases e
 |N+1=>fun Γ cd p T c tk A H l hΓ hL e=>by
  have e':(@Option.rec (Nat×Hn) (fun _=>Q) (@Prod.rec Bool (Sem PySem.Fin) (fun _=>Q) (fun mk t=>ei t mk (te W O st N) st Γ p T c tk A H) (W cd))
   (fun x=>O x.1 (gT st) Γ cd T c tk A x.2) (tX H cd c tk)).leaf=some l:=e
  cases h:tX H cd c tk with
  |none=>rw[h]at e';exact qt M st _ (rc W O hO st N) (N+L) (oX M st W hW O hO L hOk N) (hW cd) Γ p T c tk A _ l (by rwa [Nat.add_right_comm]at hL) e'
  |some x=>rw[h]at e';exact hOk x.1 Γ cd p T c tk A x.2 l hΓ (by unfold LimU at hL ⊢;omega) e'
def lh(l:List Call):Nat→Hn:=@List.rec Call (fun _=>Nat→Hn) (fun _=>.nil) (fun k _ ih i=>.ld k.c (.ld k.tk (.ld (HH k.cd) (.orc i (ih (.add i 1)))))) l
theorem As(l:List (Nat×Obj)):fI (fun i=>i) l=l:=by simp[fI]
theorem w4{p:Program}{w:World}{st st₂:Setting}(hst:(⟨p,w.params⟩:Setting)=st∨(⟨p,w.params⟩:Setting)=st₂){Γ:Ctx}{t:Sem PySem.Fin}{P:Pos}{q:Q}{pre:List (Nat×Obj)}{n tk:Nat}{r:Result}{n' tk':Nat}{post:List (Nat×Obj)}
  (hpre:(pre.map (·.1)).Nodup) (snd:∀l,q.leaf=some l→SOut (model p w) (gT st) Γ t P (putL pre .nil) n tk [] l) (e:fN q post st₂=fS q r n' tk' post [] st) (h:Heap) (gs:Array GenState) (d:Drawn) (os:OsState)
  (hn:h.objs.size=n) (hp:∀x∈pre,h.get? x.1=some x.2):
  ∃h',Runs (model p w) Γ P t [] ⟨h,gs,d,tk,os⟩ (.ret r) ⟨h',gs,d,tk',os⟩∧h'.objs.size=n'∧n≤n'∧h'.life=h.life∧(∀x∈post,(x.1∈pre.map (·.1)∨n≤x.1)∧h'.get? x.1=some x.2)∧
   ∀b,b<n→b∉pre.map (·.1)→∀o,h.get? b=some o→h'.get? b=some o:=by
 cases q with
 |fork|no=>simp[fN,fS,Q.isOk]at e
 |ok r₁ T' c₁ tk₁ A₁ H₁=>
  simp only[fN,fS,Q.isOk,Q.val,Q.cnt,Q.tks,Q.tree,Q.claims,Prod.mk.injEq,true_and]at e
  obtain⟨rfl,rfl,rfl,e1,e2,e3,e4⟩:=e
  have get0:∀k o,(putL pre .nil).getK (k+1)=some o→(k,o)∈pre:=fun k o hk=>by
   rcases putL_get pre .nil hpre k o hk with z|⟨_,z⟩
   ·exact z
   ·cases z
  have R:Rep (gT st) h (putL pre .nil) n:=⟨hn,Nat.zero_le _,(fun a o hs=>nomatch hs),(fun a o hs=>nomatch hs),fun k o hk=>⟨Nat.zero_le _,hp (k,o) (get0 k o hk)⟩,fun i j o o' _ _ hr=>hr,(fun x hx=>nomatch hx)⟩
  obtain⟨_,K⟩:=snd _ rfl
  obtain⟨h',a1,R',a3,a4,a5⟩:=K (vD e3 (by intro x hx;rw[e2]at hx;cases hx) e4 hst) h gs d os R
  have tget:∀x∈post,T'.getK (x.1+1)=some x.2:=fun x hx=>List.map_inj_left.mp e1 x hx
  have free:∀b,b∉pre.map (·.1)→zT (gT st) (putL pre .nil) b:=fun b hb k o hk ee=>hb (by
   have:=get0 k o hk
   have ee':k=b:=ee
   exact ee'▸List.mem_map.mpr ⟨_,this,rfl⟩)
  refine⟨h',a1,R'.size,by have q:h'.objs.size=c₁:=R'.size;rw[←q,←hn];exact a5,a4,fun x hx=>⟨?_,(R'.at_ _ _ (tget x hx)).2⟩,fun b hb hnb o ho=>(a3 b (hn.symm▸hb) (free b hnb)).2 o ho⟩
  by_cases q:x.1∈pre.map (·.1)
  ·exact .inl q
  ·right
   refine Nat.le_of_not_lt fun z=>?_
   exact(a3 x.1 (hn.symm▸z) (free _ q)).1 _ _ (tget x hx) rfl
theorem aZ{p:Program}{w:World}{st st₂:Setting}(hst:(⟨p,w.params⟩:Setting)=st∨(⟨p,w.params⟩:Setting)=st₂){calls:List Call}{L N:Nat}{k:Call}{H:Hn}(hcalls:∀x∈calls,br (model p w) (gT st) L x)(hok:k.okB=true)
  (hq:∀bl P,fN (te WS (mQ calls) st N ⟨k.cd,none,none,bl,none⟩ k.cd P (putL k.pre .nil) k.c k.tk [] H) k.post st₂=fS (te WS (mQ calls) st N ⟨k.cd,none,none,bl,none⟩ k.cd P (putL k.pre .nil) k.c k.tk [] H) k.r k.c' k.tk' k.post [] st):
  br (model p w) (gT st) (N+L) k:=by
 refine⟨hok,?_⟩
 simp only[Call.okB,Bool.and_eq_true,decide_eq_true_eq]at hok
 obtain⟨⟨hpre,hpost⟩,_⟩:=hok
 show TriC (model p w) .nil 0 _ k.cd [] (fI (fun i=>i) k.pre) k.c k.tk k.r [] (fI (fun i=>i) k.post) k.c' k.tk'
 rw[As,As]
 intro nd lo big Γ P h gs d os hΓ hL hn hs hp hgh
 have hG:Γ=⟨k.cd,none,none,Γ.below,none⟩:=by
  obtain⟨⟨h1,h2,h3⟩,_⟩:=hL
  obtain⟨a1,a2,a3,a4,a5⟩:=Γ
  simp only at hΓ h1 h2 h3
  rw[hΓ,h1,h2,h3]
 have e:=hq Γ.below P
 rw[←hG]at e
 obtain⟨h',a1,a2,a3,a4,a5,a6⟩:=w4 hst hpre (fun l hl=>oX (model p w) st WS (s5 p w) (mQ calls) (mF calls) L (xr hcalls) N Γ k.cd P (putL k.pre .nil) k.c k.tk [] H l hΓ hL.u hl) e h gs d os hn hp
 exact⟨h',a1,a2,a3,a4,hpost,a5,a6,fun x hx=>nomatch hx⟩
theorem yW{p:Program}{w:World}{st st₂:Setting}(hst:(⟨p,w.params⟩:Setting)=st∨(⟨p,w.params⟩:Setting)=st₂){calls:List Call}{L N:Nat}(hcalls:∀x∈calls,br (model p w) (gT st) L x){Γ:Ctx}(hL:Lim Γ (N+L+1)){t:Sem PySem.Fin}{P:Pos}
  {pre:List (Nat×Obj)} {n tk:Nat} {H:Hn} {r:Result} {n' tk':Nat} {post:List (Nat×Obj)} (hpre:(pre.map (·.1)).Nodup)
  (hq:fN (ei t false (te WS (mQ calls) st N) st Γ P (putL pre .nil) n tk [] H) post st₂=fS (ei t false (te WS (mQ calls) st N) st Γ P (putL pre .nil) n tk [] H) r n' tk' post [] st) (h:Heap) (gs:Array GenState) (d:Drawn) (os:OsState)
  (hn:h.objs.size=n) (hp:∀x∈pre,h.get? x.1=some x.2):
  ∃h',Runs (model p w) Γ P t [] ⟨h,gs,d,tk,os⟩ (.ret r) ⟨h',gs,d,tk',os⟩∧h'.objs.size=n'∧n≤n'∧h'.life=h.life∧(∀x∈post,(x.1∈pre.map (·.1)∨n≤x.1)∧h'.get? x.1=some x.2)∧
   ∀b,b<n→b∉pre.map (·.1)→∀o,h.get? b=some o→h'.get? b=some o:=
 w4 hst hpre (fun l hl=>qt (model p w) st _ (rc WS _ (mF calls) st N) (N+L) (oX (model p w) st WS (s5 p w) (mQ calls) (mF calls) L (xr hcalls) N) (Sim.refl t) Γ P (putL pre .nil) n tk [] H l hL.u hl) hq h gs d os hn hp
end
section
open PySem PySem.W PyProof.Rows
def mi(b:List Stmt)(i:Nat):Expr:=match b[i]? with
 |some (.Assign _ e _)=>e
 |_=>default
def kA(b:List Stmt)(i:Nat):List Stmt:=match b[i]? with
 |some (.ClassDef _ _ _ body _ _ _ _ _ _ _)=>body
 |_=>[]
def q7(e:Expr)(it acc loc:Nat)(q:Str)(code frame:Nat):Code:=match e with
 |.DictComp _ _ _ sc _=>.compLoop e 0 (.ref it) (.ref acc) ⟨sc,loc,3,[],q,none,.ref code,some frame,0⟩
 |_=>.builtin "" {}
def qM(e:Expr)(it acc loc:Nat)(q:Str)(code frame:Nat):Code:=match e with
 |.DictComp _ _ _ sc _=>.compStart e 0 (.ref it) (.ref acc) ⟨sc,loc,3,[],q,none,.ref code,some frame,0⟩
 |_=>.builtin "" {}
def bQ(P:Params)(t:Nat)(a:Str)(ta:Nat)(b:Str)(tb:Nat)(c:Int)(tc:Nat)(d:Int)(td:Nat)(e:Int)(te:Nat):Obj:=
 dO [kS P dj t (.str a ta),kS P jR (t+2) (.str b tb),kS P oY (t+4) (.int c tc),kS P oM (t+6) (.int d td),kS P o8 (t+8) (.int e te)] 5
def v3_0(P:Params):Obj:=dO [(kS P J0 165 (.str hF 321)),(kS P J2 166 .none),(kS P J3 167 .none),(kS P J4 168 (.builtin "__main__.__loader__#opaque")),(kS P J5 169 .none),(kS P DM 170 (.ref 6)),(kS P C2 171 (.ref 4)),(kS P DG 173 (.str az 172)),(kS P DJ 174 .none),(kS P J166 193 (.ref 21)),(kS P qF 223 (.ref 39)),(kS P J168 239 (.ref 52)),(kS P J169 264 (.ref 71)),(kS P rh 320 (.ref 91)),(kS P J171 431 (.ref 94)),(kS P J172 433 (.int 3 432)),(kS P J173 435 (.int 15 434)),(kS P J174 437 (.int 19 436)),(kS P J175 439 (.int 23 438)),(kS P J176 441 (.int 35 440)),(kS P J177 443 (.int 51 442)),(kS P J178 445 (.int 55 444)),(kS P J179 447 (.int 99 446)),(kS P J180 449 (.int 103 448)),(kS P J181 451 (.int 111 450)),(kS P J182 453 (.int 115 452)),(kS P qQ 504 (.ref 121)),(kS P qA 550 (.ref 150)),(kS P q5 564 (.ref 162)),(kS P q8 573 (.ref 169))] 30
def AW(P:Params):Obj:=tO [(.int 0 517),(.int 0 518)]
def B6(P:Params):Obj:=cO [(.str dm 519),(.str J520 520),(.str az 521),(.int 64 0),(.int 6 0),(.int 0 0),(.int 0 0),(.int 3 0),(.ref 134),(.bool true),(.int 181 0),(.ref 135),.none,(.ref 136),(.ref 137),(.ref 138),(.int 528 0),(.int 64 0),(.str az 529)]
def CD(P:Params):Obj:=fO dm J520 (bR aF 20 0) (.ref 133) (.str hF 321) (.ref 139)
def BH(P:Params):Obj:=tO [(.int 0 551)]
def By(P:Params):Obj:=cO [(.str q5 552),(.str q5 553),(.str az 554),(.int 73 0),(.int 4 0),(.int 0 0),(.int 0 0),(.int 3 0),(.ref 156),(.bool true),(.int 181 0),(.ref 157),.none,(.ref 158),(.ref 159),(.ref 160),(.int 562 0),(.int 73 0),(.str az 563)]
def AR(P:Params):Obj:=fO q5 q5 (db aF 21) (.ref 155) (.str hF 321) (.ref 161)
def Av(P:Params):Obj:=cO [(.str q8 565),(.str q8 566),(.str az 567),(.int 79 0),(.int 0 0),(.int 0 0),(.int 0 0),(.int 3 0),(.ref 163),(.bool true),(.int 181 0),(.ref 164),.none,(.ref 165),(.ref 166),(.ref 167),(.int 571 0),(.int 79 0),(.str az 572)]
def Bh(P:Params):Obj:=fO q8 q8 (db aF 22) .none (.str hF 321) (.ref 168)
def v178_0(P:Params):Obj:=bQ P 595 qN 586 xV 587 55 444 0 517 0 518
def v179_0(P:Params):Obj:=iO 150 178
def v181_0(P:Params):Obj:=bQ P 613 qy 604 xV 605 23 438 0 517 0 518
def v182_0(P:Params):Obj:=iO 150 181
def v184_0(P:Params):Obj:=bQ P 631 qD 622 Dr 623 111 450 0 517 0 518
def v185_0(P:Params):Obj:=iO 150 184
def v187_0(P:Params):Obj:=bQ P 649 qz 640 iv 641 103 448 0 517 0 518
def v188_0(P:Params):Obj:=iO 150 187
def v190_0(P:Params):Obj:=lO [(.ref 179),(.ref 182),(.ref 185),(.ref 188),(.ref 201),(.ref 208),(.ref 223),(.ref 230),(.ref 237),(.ref 244),(.ref 258),(.ref 265),(.ref 272),(.ref 283),(.ref 290),(.ref 304),(.ref 311),(.ref 318),(.ref 332),(.ref 343),(.ref 350),(.ref 357),(.ref 368),(.ref 375),(.ref 393),(.ref 412),(.ref 446),(.ref 460),(.ref 467),(.ref 474),(.ref 481),(.ref 488),(.ref 495),(.ref 502),(.ref 509),(.ref 523),(.ref 546),(.ref 560),(.ref 567),(.ref 574),(.ref 581),(.ref 588),(.ref 595),(.ref 602),(.ref 609),(.ref 623),(.ref 630),(.ref 648),(.ref 655),(.ref 662),(.ref 696),(.ref 703),(.ref 710),(.ref 715),(.ref 728),(.ref 734),(.ref 740),(.ref 746),(.ref 752)] 18
def v200_0(P:Params):Obj:=bQ P 686 CV 667 mD 660 99 446 0 675 0 551
def v201_0(P:Params):Obj:=iO 150 200
def v207_0(P:Params):Obj:=bQ P 706 ET 668 mD 660 99 446 1 695 0 551
def v208_0(P:Params):Obj:=iO 150 207
def v222_0(P:Params):Obj:=bQ P 734 EB 671 mD 660 99 446 4 723 0 551
def v223_0(P:Params):Obj:=iO 150 222
def v229_0(P:Params):Obj:=bQ P 754 EA 672 mD 660 99 446 5 743 0 551
def v230_0(P:Params):Obj:=iO 150 229
def v236_0(P:Params):Obj:=bQ P 774 E0 673 mD 660 99 446 6 763 0 551
def v237_0(P:Params):Obj:=iO 150 236
def v243_0(P:Params):Obj:=bQ P 794 EF 674 mD 660 99 446 7 783 0 551
def v244_0(P:Params):Obj:=iO 150 243
def v257_0(P:Params):Obj:=bQ P 828 Et 811 iv 804 3 432 0 817 0 551
def v258_0(P:Params):Obj:=iO 150 257
def v264_0(P:Params):Obj:=bQ P 848 D8 812 iv 804 3 432 1 837 0 551
def v265_0(P:Params):Obj:=iO 150 264
def v271_0(P:Params):Obj:=bQ P 868 Em 813 iv 804 3 432 2 857 0 551
def v272_0(P:Params):Obj:=iO 150 271
def v282_0(P:Params):Obj:=bQ P 892 ED 815 iv 804 3 432 4 881 0 551
def v283_0(P:Params):Obj:=iO 150 282
def v289_0(P:Params):Obj:=bQ P 912 Ev 816 iv 804 3 432 5 901 0 551
def v290_0(P:Params):Obj:=iO 150 289
def v303_0(P:Params):Obj:=bQ P 943 CK 929 ug 922 35 440 0 932 0 551
def v304_0(P:Params):Obj:=iO 150 303
def v310_0(P:Params):Obj:=bQ P 963 Ea 930 ug 922 35 440 1 952 0 551
def v311_0(P:Params):Obj:=iO 150 310
def v317_0(P:Params):Obj:=bQ P 983 CN 931 ug 922 35 440 2 972 0 551
def v318_0(P:Params):Obj:=iO 150 317
def v331_0(P:Params):Obj:=bQ P 1019 Dd 1000 iv 993 19 436 0 1008 0 551
def v332_0(P:Params):Obj:=iO 150 331
def v342_0(P:Params):Obj:=bQ P 1043 Ey 1002 iv 993 19 436 2 1032 0 551
def v343_0(P:Params):Obj:=iO 150 342
def v349_0(P:Params):Obj:=bQ P 1063 Du 1003 iv 993 19 436 3 1052 0 551
def v350_0(P:Params):Obj:=iO 150 349
def v356_0(P:Params):Obj:=bQ P 1083 Dx 1004 iv 993 19 436 4 1072 0 551
def v357_0(P:Params):Obj:=iO 150 356
def v367_0(P:Params):Obj:=bQ P 1107 Ei 1006 iv 993 19 436 6 1096 0 551
def v368_0(P:Params):Obj:=iO 150 367
def v374_0(P:Params):Obj:=bQ P 1127 E5 1007 iv 993 19 436 7 1116 0 551
def v375_0(P:Params):Obj:=iO 150 374
def v392_0(P:Params):Obj:=bQ P 1165 DF 1145 uC 1137 19 436 1 1154 0 551
def v393_0(P:Params):Obj:=iO 150 392
def v411_0(P:Params):Obj:=bQ P 1197 EP 1149 uC 1137 19 436 5 1186 0 551
def v412_0(P:Params):Obj:=iO 150 411
def v445_0(P:Params):Obj:=bQ P 1252 EC 1220 uC 1207 19 436 5 1241 32 1208
def v446_0(P:Params):Obj:=iO 150 445
def v459_0(P:Params):Obj:=bQ P 1288 vR 1269 eN 1262 51 442 0 1277 0 551
def v460_0(P:Params):Obj:=iO 150 459
def v466_0(P:Params):Obj:=bQ P 1308 zA 1270 eN 1262 51 442 1 1297 0 551
def v467_0(P:Params):Obj:=iO 150 466
def v473_0(P:Params):Obj:=bQ P 1328 yO 1271 eN 1262 51 442 2 1317 0 551
def v474_0(P:Params):Obj:=iO 150 473
def v480_0(P:Params):Obj:=bQ P 1348 xK 1272 eN 1262 51 442 3 1337 0 551
def v481_0(P:Params):Obj:=iO 150 480
def v487_0(P:Params):Obj:=bQ P 1368 zJ 1273 eN 1262 51 442 4 1357 0 551
def v488_0(P:Params):Obj:=iO 150 487
def v494_0(P:Params):Obj:=bQ P 1388 zF 1274 eN 1262 51 442 5 1377 0 551
def v495_0(P:Params):Obj:=iO 150 494
def v501_0(P:Params):Obj:=bQ P 1408 yE 1275 eN 1262 51 442 6 1397 0 551
def v502_0(P:Params):Obj:=iO 150 501
def v508_0(P:Params):Obj:=bQ P 1428 yL 1276 eN 1262 51 442 7 1417 0 551
def v509_0(P:Params):Obj:=iO 150 508
def v522_0(P:Params):Obj:=bQ P 1463 yp 1446 eN 1438 51 442 0 1452 32 1439
def v523_0(P:Params):Obj:=iO 150 522
def v545_0(P:Params):Obj:=bQ P 1499 yG 1451 eN 1438 51 442 5 1488 32 1439
def v546_0(P:Params):Obj:=iO 150 545
def v559_0(P:Params):Obj:=bQ P 1536 yw 1517 eN 1509 51 442 0 1525 1 1510
def v560_0(P:Params):Obj:=iO 150 559
def v566_0(P:Params):Obj:=bQ P 1556 zE 1518 eN 1509 51 442 1 1545 1 1510
def v567_0(P:Params):Obj:=iO 150 566
def v573_0(P:Params):Obj:=bQ P 1576 zx 1519 eN 1509 51 442 2 1565 1 1510
def v574_0(P:Params):Obj:=iO 150 573
def v580_0(P:Params):Obj:=bQ P 1596 za 1520 eN 1509 51 442 3 1585 1 1510
def v581_0(P:Params):Obj:=iO 150 580
def v587_0(P:Params):Obj:=bQ P 1616 zP 1521 eN 1509 51 442 4 1605 1 1510
def v588_0(P:Params):Obj:=iO 150 587
def v594_0(P:Params):Obj:=bQ P 1636 yX 1522 eN 1509 51 442 5 1625 1 1510
def v595_0(P:Params):Obj:=iO 150 594
def v601_0(P:Params):Obj:=bQ P 1656 Aj 1523 eN 1509 51 442 6 1645 1 1510
def v602_0(P:Params):Obj:=iO 150 601
def v608_0(P:Params):Obj:=bQ P 1676 yP 1524 eN 1509 51 442 7 1665 1 1510
def v609_0(P:Params):Obj:=iO 150 608
def v622_0(P:Params):Obj:=bQ P 1706 qY 1693 qY 1686 15 434 0 1695 0 551
def v623_0(P:Params):Obj:=iO 150 622
def v629_0(P:Params):Obj:=bQ P 1726 J394 1694 qY 1686 15 434 1 1715 0 551
def v630_0(P:Params):Obj:=iO 150 629
def v714_0(P:Params):Obj:=bQ P 1918 qL 1907 uY 1908 115 452 0 1909 9 1910
def v715_0(P:Params):Obj:=iO 150 714
def v727_0(P:Params):Obj:=bQ P 1950 q6 1927 qV 1939 115 1942 0 517 0 518
def v728_0(P:Params):Obj:=iO 150 727
def v733_0(P:Params):Obj:=bQ P 1972 rf 1929 qV 1961 1048691 1964 0 517 0 518
def v734_0(P:Params):Obj:=iO 150 733
def v739_0(P:Params):Obj:=bQ P 1994 J398 1931 qV 1983 270532723 1986 0 517 0 518
def v740_0(P:Params):Obj:=iO 150 739
def v745_0(P:Params):Obj:=bQ P 2016 J399 1933 qV 2005 273678451 2008 0 517 0 518
def v746_0(P:Params):Obj:=iO 150 745
def v751_0(P:Params):Obj:=bQ P 2038 J400 1935 qV 2027 807403635 2030 0 517 0 518
def v752_0(P:Params):Obj:=iO 150 751
def v756_0(P:Params):Obj:=⟨(.type "list_iterator"),none,(.fields ⟨[(.ref 190),(.int 0 0)]⟩),⟨[]⟩⟩
def v757_0(P:Params):Obj:=dO [] 0
def v758_0(P:Params):Obj:=dO [] 0
def v756_1(P:Params):Obj:=⟨(.type "list_iterator"),none,(.fields ⟨[.none,(.int 59 0)]⟩),⟨[]⟩⟩
def v758_1(P:Params):Obj:=dO [(kS P vl 2048 (.ref 752))] 1
def v761_0(P:Params):Obj:=⟨(.type "list_iterator"),none,(.fields ⟨[(.ref 190),(.int 0 0)]⟩),⟨[]⟩⟩
def v762_0(P:Params):Obj:=dO [] 0
def v763_0(P:Params):Obj:=dO [] 0
def v761_1(P:Params):Obj:=⟨(.type "list_iterator"),none,(.fields ⟨[.none,(.int 59 0)]⟩),⟨[]⟩⟩
def v763_1(P:Params):Obj:=dO [(kS P vl 2226 (.ref 752))] 1
def v825_0(P:Params):Obj:=⟨(.type "list_iterator"),none,(.fields ⟨[(.ref 190),(.int 0 0)]⟩),⟨[]⟩⟩
def v826_0(P:Params):Obj:=dO [] 0
def v827_0(P:Params):Obj:=dO [] 0
def v825_1(P:Params):Obj:=⟨(.type "list_iterator"),none,(.fields ⟨[.none,(.int 59 0)]⟩),⟨[]⟩⟩
def v827_1(P:Params):Obj:=dO [(kS P vl 2469 (.ref 752))] 1
def v918_0(P:Params):Obj:=⟨(.type "list_iterator"),none,(.fields ⟨[(.ref 190),(.int 0 0)]⟩),⟨[]⟩⟩
def v919_0(P:Params):Obj:=dO [] 0
def v920_0(P:Params):Obj:=dO [] 0
def v918_1(P:Params):Obj:=⟨(.type "list_iterator"),none,(.fields ⟨[.none,(.int 59 0)]⟩),⟨[]⟩⟩
def v919_1(P:Params):Obj:=dO [(kI 4115 3395 (.ref 393)),(kI 20499 3411 (.ref 412)),(kI 1073762323 3427 (.ref 446)),(kI 51 3443 (.ref 460)),(kI 4147 3459 (.ref 467)),(kI 8243 3475 (.ref 474)),(kI 12339 3491 (.ref 481)),(kI 16435 3507 (.ref 488)),(kI 20531 3523 (.ref 495)),(kI 24627 3539 (.ref 502)),(kI 28723 3555 (.ref 509)),(kI 1073741875 3571 (.ref 523)),(kI 1073762355 3587 (.ref 546)),(kI 33554483 3603 (.ref 560)),(kI 33558579 3619 (.ref 567)),(kI 33562675 3635 (.ref 574)),(kI 33566771 3651 (.ref 581)),(kI 33570867 3667 (.ref 588)),(kI 33574963 3683 (.ref 595)),(kI 33579059 3699 (.ref 602)),(kI 33583155 3715 (.ref 609)),(kI 301990003 3771 (.ref 715))] 22
def v920_1(P:Params):Obj:=dO [(kS P vl 3261 (.ref 752))] 1
def Ii(P:Params):Obj:=⟨(.type "list_iterator"),none,(.fields ⟨[(.ref 190),(.int 0 0)]⟩),⟨[]⟩⟩
def Jh(P:Params):Obj:=dO [] 0
def HJ(P:Params):Obj:=dO [] 0
def IK(P:Params):Obj:=⟨(.type "list_iterator"),none,(.fields ⟨[.none,(.int 59 0)]⟩),⟨[]⟩⟩
def Jr(P:Params):Obj:=dO [(kI 115 1942 (.ref 728)),(kI 1048691 1964 (.ref 734)),(kI 270532723 1986 (.ref 740)),(kI 273678451 2008 (.ref 746)),(kI 807403635 2030 (.ref 752))] 5
def IB(P:Params):Obj:=dO [(kS P vl 3799 (.ref 752))] 1
def Hr(P:Params):Obj:=dO [(kS P J418 323 (.int 256 324)),(kS P J419 326 (.int 260 327)),(kS P J420 329 (.int 261 330)),(kS P J421 332 (.int 262 333)),(kS P J422 335 (.int 320 336)),(kS P J423 338 (.int 321 339)),(kS P J424 341 (.int 322 342)),(kS P J425 344 (.int 323 345)),(kS P J426 347 (.int 324 348)),(kS P zk 350 (.int 384 351)),(kS P J428 353 (.int 768 354)),(kS P J429 356 (.int 769 357)),(kS P J430 359 (.int 770 360)),(kS P J431 362 (.int 771 363)),(kS P J432 365 (.int 772 366)),(kS P J433 368 (.int 773 369)),(kS P J434 371 (.int 774 372)),(kS P J435 374 (.int 832 375)),(kS P J436 377 (.int 833 378)),(kS P J437 380 (.int 834 381)),(kS P J438 383 (.int 835 384)),(kS P J439 386 (.int 836 387)),(kS P J440 389 (.int 2816 390)),(kS P J441 392 (.int 2818 393)),(kS P J442 395 (.int 2944 396)),(kS P J443 398 (.int 2946 399)),(kS P J444 401 (.int 3072 402)),(kS P vg 404 (.int 3073 405)),(kS P J446 407 (.int 3074 408)),(kS P J447 410 (.int 3200 411)),(kS P J448 413 (.int 3201 414)),(kS P J449 416 (.int 3202 417)),(kS P J450 419 (.int 3857 420)),(kS P J451 422 (.int 3858 423)),(kS P J452 425 (.int 3859 426)),(kS P zW 427 (.int 3860 428))] 36
def Ir(P:Params):Obj:=⟨(.type "dict_itemiterator"),none,(.fields ⟨[.none,(.bool false),(.ref 94),(.int 0 0),(.int 36 0),(.int 36 0),.none,.none]⟩),⟨[]⟩⟩
def Ig(P:Params):Obj:=dO [] 0
def HQ(P:Params):Obj:=dO [] 0
def Jd(P:Params):Obj:=⟨(.type "dict_itemiterator"),none,(.fields ⟨[.none,(.bool false),.none,(.int 36 0),(.int 36 0),(.int 36 0),(.str zW 427),(.int 3860 428)]⟩),⟨[]⟩⟩
def Ij(P:Params):Obj:=dO [(kS P dj 4434 (.str zW 427)),(kS P vn 4435 (.int 3860 428))] 2
def jH(P:Params):List (Nat×Obj):=[(178,v178_0 P),(179,v179_0 P),(181,v181_0 P),(182,v182_0 P),(184,v184_0 P),(185,v185_0 P),(187,v187_0 P),(188,v188_0 P),(190,v190_0 P),(200,v200_0 P),(201,v201_0 P),(207,v207_0 P),(208,v208_0 P),(222,v222_0 P),(223,v223_0 P),(229,v229_0 P),(230,v230_0 P),(236,v236_0 P),(237,v237_0 P),(243,v243_0 P),(244,v244_0 P),(257,v257_0 P),(258,v258_0 P),(264,v264_0 P),(265,v265_0 P),(271,v271_0 P),(272,v272_0 P),(282,v282_0 P),(283,v283_0 P),(289,v289_0 P),(290,v290_0 P),(303,v303_0 P),(304,v304_0 P),(310,v310_0 P),(311,v311_0 P),(317,v317_0 P),(318,v318_0 P),(331,v331_0 P),(332,v332_0 P),(342,v342_0 P),(343,v343_0 P),(349,v349_0 P),(350,v350_0 P),(356,v356_0 P),(357,v357_0 P),(367,v367_0 P),(368,v368_0 P),(374,v374_0 P),(375,v375_0 P),(392,v392_0 P),(393,v393_0 P),(411,v411_0 P),(412,v412_0 P),(445,v445_0 P),(446,v446_0 P),(459,v459_0 P),(460,v460_0 P),(466,v466_0 P),(467,v467_0 P),(473,v473_0 P),(474,v474_0 P),(480,v480_0 P),(481,v481_0 P),(487,v487_0 P),(488,v488_0 P),(494,v494_0 P),(495,v495_0 P),(501,v501_0 P),(502,v502_0 P),(508,v508_0 P),(509,v509_0 P),(522,v522_0 P),(523,v523_0 P),(545,v545_0 P),(546,v546_0 P),(559,v559_0 P),(560,v560_0 P),(566,v566_0 P),(567,v567_0 P),(573,v573_0 P),(574,v574_0 P),(580,v580_0 P),(581,v581_0 P),(587,v587_0 P),(588,v588_0 P),(594,v594_0 P),(595,v595_0 P),(601,v601_0 P),(602,v602_0 P),(608,v608_0 P),(609,v609_0 P),(622,v622_0 P),(623,v623_0 P),(629,v629_0 P),(630,v630_0 P),(647,C5 P),(648,CW P),(654,De P),(655,DQ P),(661,DU P),(662,Dg P),(695,Ep P),(696,D6 P),(702,DO P),(703,D4 P),(709,Do P),(710,EL P),(714,v714_0 P),(715,v715_0 P),(727,v727_0 P),(728,v728_0 P),(733,v733_0 P),(734,v734_0 P),(739,v739_0 P),(740,v740_0 P),(745,v745_0 P),(746,v746_0 P),(751,v751_0 P),(752,v752_0 P)]
def kT0(P:Params):Call:=⟨.call (.ref 169) ⟨[],[]⟩,177,586,[(0,o0 P),(2,o2 P),(3,v3_0 P),(133,AW P),(139,B6 P),(140,CD P),(149,ip P),(150,hM P),(155,BH P),(161,By P),(162,AR P),(168,Av P),(169,Bh P)],.ok (.ret (.ref 190)),756,2047,jH P++[(0,o0 P),(2,o2 P),(3,v3_0 P),(133,AW P),(139,B6 P),(140,CD P),(149,ip P),(150,hM P),(155,BH P),(161,By P),(162,AR P),(168,Av P),(169,Bh P)]⟩
def wV(P:Params):Call:=⟨q7 (mi (kA aF 23) 1) 756 757 758 kr 175 176,759,2048,jH P++[(149,ip P),(150,hM P),(756,v756_0 P),(757,v757_0 P),(758,v758_0 P)],.ok .next,761,2225,jH P++[(149,ip P),(150,hM P),(756,v756_1 P),(757,Dk P),(758,v758_1 P)]⟩
def xB(P:Params):Call:=⟨q7 (mi (kA aF 23) 2) 761 762 763 kr 175 176,764,2226,jH P++[(149,ip P),(150,hM P),(761,v761_0 P),(762,v762_0 P),(763,v763_0 P)],.ok .next,825,2468,jH P++[(149,ip P),(150,hM P),(761,v761_1 P),(762,DC P),(763,v763_1 P)]⟩
def xJ(P:Params):Call:=⟨q7 (mi (kA aF 23) 3) 825 826 827 kr 175 176,828,2469,jH P++[(2,o2 P),(146,qW P),(147,qH P),(149,ip P),(150,hM P),(825,v825_0 P),(826,v826_0 P),(827,v827_0 P)],.ok .next,918,3260,jH P++[(2,o2 P),(146,qW P),(147,qH P),(149,ip P),(150,hM P),(825,v825_1 P),(826,CJ P),(827,v827_1 P)]⟩
def xn(P:Params):Call:=⟨q7 (mi (kA aF 23) 4) 918 919 920 kr 175 176,921,3261,jH P++[(2,o2 P),(146,qW P),(147,qH P),(149,ip P),(150,hM P),(918,v918_0 P),(919,v919_0 P),(920,v920_0 P)],.ok .next,1004,3798,jH P++[(2,o2 P),(146,qW P),(147,qH P),(149,ip P),(150,hM P),(918,v918_1 P),(919,v919_1 P),(920,v920_1 P)]⟩
def wL(P:Params):Call:=⟨q7 (mi (kA aF 23) 5) 1004 1005 1006 kr 175 176,1007,3799,jH P++[(149,ip P),(150,hM P),(1004,Ii P),(1005,Jh P),(1006,HJ P)],.ok .next,1009,3986,jH P++[(149,ip P),(150,hM P),(1004,IK P),(1005,Jr P),(1006,IB P)]⟩
def xj(P:Params):Call:=⟨q7 (mi aF 85) 1215 1216 1217 EK 13 14,1218,4434,[(94,Hr P),(1215,Ir P),(1216,Ig P),(1217,HQ P)],.ok .next,1364,4542,[(94,Hr P),(1215,Jd P),(1216,nW P),(1217,Ij P)]⟩
theorem ck0(w:World)(b c:Bool):br (MM w b c) (gT (SG w true c)) (80+10) (kT0 (PP w b c)):=
 aZ (calls:=[]) (H:=.nil) (cY w b c) (fun _ h=>nomatch h) (by kernel_rfl) (fun bl p=>by kernel_rfl)
theorem ck1(w:World)(b c:Bool):br (MM w b c) (gT (SG w true c)) (80+10) (wV (PP w b c)):=
 aZ (calls:=[]) (H:=.nil) (cY w b c) (fun _ h=>nomatch h) (by kernel_rfl) (fun bl p=>by kernel_rfl)
theorem ck2(w:World)(b c:Bool):br (MM w b c) (gT (SG w true c)) (80+10) (xB (PP w b c)):=
 aZ (calls:=[]) (H:=.nil) (cY w b c) (fun _ h=>nomatch h) (by kernel_rfl) (fun bl p=>by kernel_rfl)
theorem ck3(w:World)(b c:Bool):br (MM w b c) (gT (SG w true c)) (80+10) (xJ (PP w b c)):=
 aZ (calls:=[]) (H:=.nil) (cY w b c) (fun _ h=>nomatch h) (by kernel_rfl) (fun bl p=>by kernel_rfl)
theorem ck4(w:World)(b c:Bool):br (MM w b c) (gT (SG w true c)) (80+10) (xn (PP w b c)):=
 aZ (calls:=[]) (H:=.nil) (cY w b c) (fun _ h=>nomatch h) (by kernel_rfl) (fun bl p=>by kernel_rfl)
theorem ck5(w:World)(b c:Bool):br (MM w b c) (gT (SG w true c)) (80+10) (wL (PP w b c)):=
 aZ (calls:=[]) (H:=.nil) (cY w b c) (fun _ h=>nomatch h) (by kernel_rfl) (fun bl p=>by kernel_rfl)
theorem ck6(w:World)(b c:Bool):br (MM w b c) (gT (SG w true c)) (80+10) (xj (PP w b c)):=
 aZ (calls:=[]) (H:=.nil) (cY w b c) (fun _ h=>nomatch h) (by kernel_rfl) (fun bl p=>by kernel_rfl)
def kQ1(P:Params):Call:={wV P with cd:=qM (mi (kA aF 23) 1) 756 757 758 kr 175 176}
theorem cs1(w:World)(b c:Bool):br (MM w b c) (gT (SG w true c)) (5+90) (kQ1 (PP w b c)):=by
 cases c
 ·exact aZ (calls:=[wV (PP w b false)]) (H:=lh [wV (PP w b false)] 0) (cY w b false) (ab (ck1 w b false) aa) (by kernel_rfl) (fun bl p=>by kernel_rfl)
 ·exact aZ (calls:=[wV (PP w b true)]) (H:=lh [wV (PP w b true)] 0) (cY w b true) (ab (ck1 w b true) aa) (by kernel_rfl) (fun bl p=>by kernel_rfl)
def kQ2(P:Params):Call:={xB P with cd:=qM (mi (kA aF 23) 2) 761 762 763 kr 175 176}
theorem cs2(w:World)(b c:Bool):br (MM w b c) (gT (SG w true c)) (5+90) (kQ2 (PP w b c)):=by
 cases c
 ·exact aZ (calls:=[xB (PP w b false)]) (H:=lh [xB (PP w b false)] 0) (cY w b false) (ab (ck2 w b false) aa) (by kernel_rfl) (fun bl p=>by kernel_rfl)
 ·exact aZ (calls:=[xB (PP w b true)]) (H:=lh [xB (PP w b true)] 0) (cY w b true) (ab (ck2 w b true) aa) (by kernel_rfl) (fun bl p=>by kernel_rfl)
def kQ3(P:Params):Call:={xJ P with cd:=qM (mi (kA aF 23) 3) 825 826 827 kr 175 176}
theorem cs3(w:World)(b c:Bool):br (MM w b c) (gT (SG w true c)) (5+90) (kQ3 (PP w b c)):=by
 cases c
 ·exact aZ (calls:=[xJ (PP w b false)]) (H:=lh [xJ (PP w b false)] 0) (cY w b false) (ab (ck3 w b false) aa) (by kernel_rfl) (fun bl p=>by kernel_rfl)
 ·exact aZ (calls:=[xJ (PP w b true)]) (H:=lh [xJ (PP w b true)] 0) (cY w b true) (ab (ck3 w b true) aa) (by kernel_rfl) (fun bl p=>by kernel_rfl)
def kQ4(P:Params):Call:={xn P with cd:=qM (mi (kA aF 23) 4) 918 919 920 kr 175 176}
theorem cs4(w:World)(b c:Bool):br (MM w b c) (gT (SG w true c)) (5+90) (kQ4 (PP w b c)):=by
 cases c
 ·exact aZ (calls:=[xn (PP w b false)]) (H:=lh [xn (PP w b false)] 0) (cY w b false) (ab (ck4 w b false) aa) (by kernel_rfl) (fun bl p=>by kernel_rfl)
 ·exact aZ (calls:=[xn (PP w b true)]) (H:=lh [xn (PP w b true)] 0) (cY w b true) (ab (ck4 w b true) aa) (by kernel_rfl) (fun bl p=>by kernel_rfl)
def kQ5(P:Params):Call:={wL P with cd:=qM (mi (kA aF 23) 5) 1004 1005 1006 kr 175 176}
theorem cs5(w:World)(b c:Bool):br (MM w b c) (gT (SG w true c)) (5+90) (kQ5 (PP w b c)):=by
 cases c
 ·exact aZ (calls:=[wL (PP w b false)]) (H:=lh [wL (PP w b false)] 0) (cY w b false) (ab (ck5 w b false) aa) (by kernel_rfl) (fun bl p=>by kernel_rfl)
 ·exact aZ (calls:=[wL (PP w b true)]) (H:=lh [wL (PP w b true)] 0) (cY w b true) (ab (ck5 w b true) aa) (by kernel_rfl) (fun bl p=>by kernel_rfl)
def kQ6(P:Params):Call:={xj P with cd:=qM (mi aF 85) 1215 1216 1217 EK 13 14}
theorem cs6(w:World)(b c:Bool):br (MM w b c) (gT (SG w true c)) (5+90) (kQ6 (PP w b c)):=by
 cases c
 ·exact aZ (calls:=[xj (PP w b false)]) (H:=lh [xj (PP w b false)] 0) (cY w b false) (ab (ck6 w b false) aa) (by kernel_rfl) (fun bl p=>by kernel_rfl)
 ·exact aZ (calls:=[xj (PP w b true)]) (H:=lh [xj (PP w b true)] 0) (cY w b true) (ab (ck6 w b true) aa) (by kernel_rfl) (fun bl p=>by kernel_rfl)
def z1(P:Params):Obj:=dO [(kS P J1 162 (.ref 4)),(kS P DA 163 (.ref 5))] 2
def z3(P:Params):Obj:=dO [(kS P J0 165 (.str DA 164)),(kS P J2 166 .none),(kS P J3 167 .none),(kS P J4 168 (.builtin "__main__.__loader__#opaque")),(kS P J5 169 .none),(kS P DM 170 (.ref 6)),(kS P C2 171 (.ref 4)),(kS P DG 173 (.str az 172)),(kS P DJ 174 .none)] 9
def z4(P:Params):Obj:=⟨(.type "module"),some 0,.plain,⟨[]⟩⟩
def z5(P:Params):Obj:=⟨(.type "module"),some 3,.plain,⟨[]⟩⟩
def z6(P:Params):Obj:=dO [] 0
def z7(P:Params):Obj:=tO []
def z8(P:Params):Obj:=⟨.none,none,(.fields ⟨[]⟩),⟨[]⟩⟩
def z9(P:Params):Obj:=cO [(.str J525 176),(.str J525 177),(.str az 178),(.int 1 0),(.int 0 0),(.int 0 0),(.int 0 0),(.int 0 0),(.ref 7),(.bool false),(.int 175 0),(.ref 8),.none,.none,.none,.none,(.int 179 0),(.int 1 0),(.str az 180)]
def z10(P:Params):Obj:=⟨(.type "frame"),none,.plain,⟨[some (.ref 9),some (.ref 3),some (.ref 3),none,some (.str DA 164),none,some (.ref 0)]⟩⟩
def s0L(P:Params):List (Nat×Obj):=[(0,o0 P),(1,z1 P),(2,o2 P),(3,z3 P),(4,z4 P),(5,z5 P),(6,z6 P),(7,z7 P),(8,z8 P),(9,z9 P),(10,z10 P)]
def stLT(P:Params):List (Nat×Obj):=[(0,o0 P),(2,o2 P),(3,o3 P),(29,o29 P),(35,o35 P),(36,o36 P),(38,o38 P),(39,o39 P),(81,o81 P),(87,o87 P),(88,o88 P),(90,o90 P),(91,o91 P),(104,o104 P),(110,o110 P),(111,o111 P),(120,o120 P),(121,o121 P),(146,qW P),(147,qH P),(149,ip P),(150,hM P),(647,C5 P),(648,CW P),(654,De P),(655,DQ P),(661,DU P),(662,Dg P),(695,Ep P),(696,D6 P),(702,DO P),(703,D4 P),(709,Do P),(710,EL P),(757,Dk P),(762,DC P),(826,CJ P),(1010,Hk P),(1011,HD P),(1016,Gx P),(1025,GD P),(1026,FB P),(1029,Gz P),(1037,Hw P),(1043,FE P),(1044,GG P),(1050,FJ P),(1051,Ho P),(1071,Hx P),(1072,Fz P),(1092,G9 P),(1093,Fk P),(1099,Hi P),(1100,FH P),(1216,nW P),(1369,FF P),(1370,Hm P),(1376,GV P),(1377,Fh P),(1383,GP P),(1384,GY P),(1399,GW P),(1405,HE P),(1406,Hv P),(1412,Gp P),(1413,Fa P),(1419,GJ P),(1420,Gl P),(1421,G0 P),(1427,F9 P),(1428,FZ P),(1434,Ha P),(1435,Gq P),(1441,Gu P),(1442,Gb P),(1443,Hd P),(1449,Gi P),(1450,Fn P),(1456,GI P),(1457,Fq P),(1463,GR P),(1464,Gc P),(1470,Gt P),(1471,F7 P),(1543,FC P),(1544,F2 P),(1558,Ge P),(1564,Fu P),(1565,Ht P),(1624,Fc P),(1625,FK P),(1663,Gs P),(1664,E8 P),(1703,Gf P),(1704,FL P),(1710,yB P),(1781,GX P),(1782,HA P),(1783,Gr P),(1784,FA P),(1790,GT P),(1791,FW P),(1797,Fm P),(1798,GC P),(1806,FO P),(1812,Hj P),(1813,FD P),(1819,Fb P),(1820,HI P),(1834,FT P),(1835,E7 P),(1869,Gy P),(1870,FR P),(1876,Fy P),(1877,FG P),(1890,Gd P),(1891,Hy P),(1897,Fv P),(1898,Gn P),(1936,Gv P),(1937,Fp P),(1947,FV P),(1948,GS P),(1954,Fi P),(1955,Fj P),(1961,F8 P),(1962,Fr P),(1968,GM P),(1969,E9 P),(1973,Fg P),(1974,Fl P),(1980,Hp P),(1981,GK P),(1987,G8 P),(1988,Fx P),(1992,zX P),(1993,tH P)]
def finL(P:Params):List (Nat×Obj):=[(1,z1 P),(4,z4 P),(5,z5 P),(6,z6 P),(7,z7 P),(8,z8 P),(9,z9 P),(10,z10 P)]++stLT P
def cks(P:Params):List Call:=[kT0 P,kQ1 P,kQ2 P,kQ3 P,kQ4 P,kQ5 P,kQ6 P]
theorem lev{M:Model}{g:Cfg}{k:Call}{a b:Nat}(h:a≤b)(H:br M g a k):br M g b k:=⟨H.1,TriC.mono (fun Γ hL=>⟨hL.1,by have:=hL.2;omega⟩) H.2⟩
theorem cks_ok(w:World)(b c:Bool):∀k∈cks (PP w b c),br (MM w b c) (gT (SG w true c)) 95 k:=
 ab (lev (by decide) (ck0 w b c)) (ab (cs1 w b c) (ab (cs2 w b c) (ab (cs3 w b c) (ab (cs4 w b c) (ab (cs5 w b c) (ab (cs6 w b c) aa))))))
abbrev caller:Ctx:=⟨.builtin "claim.caller" {},none,none,[],none⟩
def TopAt(w:World)(b c:Bool):Prop:=∀(h:Heap) (gs:Array GenState) (d:Drawn) (os:OsState),h.objs.size=11→(∀x∈s0L (PP w b c),h.get? x.1=some x.2)→
 ∃h',Runs (MM w b c) caller (topStub prog2).pos (topStub prog2).cur [] ⟨h,gs,d,181,os⟩ (.ret (.ok (.ret .none))) ⟨h',gs,d,5615,os⟩∧h'.objs.size=1994∧11≤h'.objs.size∧h'.life=h.life∧
  ∀x∈finL (PP w b c),h'.get? x.1=some x.2
theorem IQ(w:World)(b c:Bool):TopAt w b c:=by
 intro h gs d os hn hp
 obtain⟨h',a1,a2,a3,a4,a5,_⟩:=yW (calls:=cks (PP w b c)) (N:=50) (H:=lh (cks (PP w b c)) 0) (t:=(topStub prog2).cur) (P:=(topStub prog2).pos) (pre:=s0L (PP w b c)) (n:=11) (tk:=181) (r:=.ok (.ret .none)) (n':=1994) (tk':=5615) (post:=finL (PP w b c))
  (cY w b c) (cks_ok w b c) (Γ:=caller) ⟨⟨rfl,rfl,rfl⟩,by decide⟩ (nd_of [0,1,2,3,4,5,6,7,8,9,10] rfl (by decide)) (by kernel_rfl) h gs d os hn hp
 exact⟨h',a1,a2,a2▸a3,a4,fun x hx=>(a5 x hx).2⟩
theorem Cv(P:Params):bV P=putL (stLT P) .nil:=by kernel_rfl
theorem Di(P:Params)(a:Nat)(o:Obj)(h:(bV P).getK (a+1)=some o):(a,o)∈finL P:=by
 rw[Cv]at h
 rcases putL_get (stLT P) .nil (nd_of [0,2,3,29,35,36,38,39,81,87,88,90,91,104,110,111,120,121,146,147,149,150,647,648,654,655,661,662,695,696,702,703,709,710,757,762,826,1010,1011,1016,1025,1026,1029,1037,1043,1044,1050,1051,1071,1072,1092,1093,1099,1100,1216,1369,1370,1376,1377,1383,1384,1399,1405,1406,1412,1413,1419,1420,1421,1427,1428,1434,1435,1441,1442,1443,1449,1450,1456,1457,1463,1464,1470,1471,1543,1544,1558,1564,1565,1624,1625,1663,1664,1703,1704,1710,1781,1782,1783,1784,1790,1791,1797,1798,1806,1812,1813,1819,1820,1834,1835,1869,1870,1876,1877,1890,1891,1897,1898,1936,1937,1947,1948,1954,1955,1961,1962,1968,1969,1973,1974,1980,1981,1987,1988,1992,1993] rfl (by decide +kernel)) a o h with z|⟨_,z⟩
 ·exact List.mem_append_right _ z
 ·cases z
theorem HP(w:World):∃b c,W2 w b c=w:=⟨w.params.followText "special-get-raises",w.params.followText "comprehension-iter-twice",by unfold W2;rw[World.withFollow_self,World.withFollow_self]⟩
theorem cH{h:Heap}{l:List Obj}(e:h.objs.toList=l){i:Nat}{o:Obj}(hi:l[i]?=some o)(hf:o.isFreed=false):h.get? i=some o:=by
 have:h.objs[i]?=some o:=by rw[←Array.getElem?_toList,e];exact hi
 unfold Heap.get?;rw[this]
 obtain⟨c,d,data,s⟩:=o
 cases data<;>first|rfl|cases hf
theorem s0_of(w:World)(b c:Bool):∃s,fencedOpening treeTable prog2 (W2 w b c) 3000=some s∧s.heap.objs.size=11∧(∀x∈s0L (PP w b c),s.heap.get? x.1=some x.2)∧s.toks=181∧s.gens=#[]:=by
 have e:(fencedOpening treeTable prog2 (W2 w b c) 3000).map (fun s=>(s.heap.objs.toList,s.toks,s.gens.toList))=some ((s0L (PP w b c)).map (·.2),181,[]):=by kernel_rfl
 obtain⟨s,hs,e⟩:=Option.map_eq_some_iff.mp e
 simp only[Prod.mk.injEq]at e
 obtain⟨e1,e2,e3⟩:=e
 refine⟨s,hs,?_,?_,e2,Array.toList_inj.mp e3⟩
 ·have:=congrArg List.length e1
  rw[Array.length_toList]at this
  exact this
 ·exact ab (cH e1 rfl rfl) (ab (cH e1 rfl rfl) (ab (cH e1 rfl rfl) (ab (cH e1 rfl rfl) (ab (cH e1 rfl rfl) (ab (cH e1 rfl rfl)
   (ab (cH e1 rfl rfl) (ab (cH e1 rfl rfl) (ab (cH e1 rfl rfl) (ab (cH e1 rfl rfl) (ab (cH e1 rfl rfl) aa))))))))))
theorem mh{p:Program}{w:World}{c:Code}{t:Sem PySem.Fin}{P:Pos}{s s':Shared}{f:Flow}(hz:s.asleep)(hg:s'.gens=#[])(H:Runs (model p w) ⟨c,none,none,[],none⟩ P t [] s (.ret (.ok f)) s'):
  (∃n t',schedN (denote table) p w n (.single s ⟨t,c,P,[]⟩)=.running (.single s' t')∧through t'=true)∧∃n,schedN (denote table) p w n (.single s ⟨t,c,P,[]⟩)=.halted (.done f) s':=by
 obtain⟨n,t',c',p',pre',hn,hx⟩:=(runs_reach H [] (Ctx.fits_of c [])).runN
 obtain⟨h1,h2⟩:t'=leafOf (.ok f)∧pre'=[]:=hx
 subst h1 h2
 have hw:=(wp_iff_halts (M:=model p w) (c:=c) t (fun r x=>r=.ok f∧x=s') P s).mp ((Sem.wp_iff_runs (model p w) ⟨c,none,none,[],none⟩ t (fun r x=>(r=.ok f∧x=s')∧leftWithCleanup x.gens=false) P s).mpr ⟨_,_,H,⟨rfl,rfl⟩,by rw[hg];simp[leftWithCleanup]⟩)
 obtain⟨N,r,s₁,hN,rfl,rfl⟩:=hw
 obtain⟨s'',hr,hf,hc⟩:=runNI_real (denote table) p w (show runNI (denote table) p w N s ⟨t,c,P,[]⟩=.halted (outcomeOf (.ok f)) s₁ from hN) (outcomeOf_ends _)
 have hne:∀k s₂,runN (denote table) p w k s ⟨t,c,P,[]⟩≠.halted (.unsupported "lifetime:generator-with-cleanup-left-suspended") s₂:=by
  intro k s₂ hk
  have a:=runN_mono (denote table) p w N k s ⟨t,c,P,[]⟩ _ s'' hr
  have b:=runN_mono (denote table) p w k N s ⟨t,c,P,[]⟩ _ s₂ hk
  rw[Nat.add_comm,b]at a
  cases a
 have hS:s''=s₁:=Shared.eq_of_forget_eq hf hg
 have key:=schedN_eq_runN (denote table) p w s ⟨t,c,P,[]⟩ hz ⟨hc,hne⟩
 constructor
 ·obtain⟨σ,tau,k1,k2,k3⟩:=runNI_running_real (show runNI (denote table) p w n s ⟨t,c,P,[]⟩=.running s₁ ⟨leafOf (.ok f),c',p',[]⟩ from hn)
  have hσ:σ=s₁:=Shared.eq_of_forget_eq k2 hg
  subst hσ
  refine⟨n,tau,by rw[key,k1];rfl,?_⟩
  obtain⟨cur,code,pos,stack⟩:=tau
  simp only[Thread.forget,Thread.mk.injEq,forgetAll]at k3
  obtain⟨rfl,_,_,k5⟩:=k3
  have:stack=[]:=by cases stack with|nil=>rfl|cons x xs=>cases k5
  subst this;rfl
 ·exact⟨N,by rw[key,hr,hS];rfl⟩
theorem Hf{P:Params}{h:Heap}(e:h.get? 3=some (o3 P)):h.isNs mainGlobals=true:=by
 unfold Heap.isNs;rw[show h.get? mainGlobals=some (o3 P) from e];kernel_rfl
theorem isNs3z{P:Params}{h:Heap}(e:h.get? 3=some (z3 P)):h.isNs mainGlobals=true:=by
 unfold Heap.isNs;rw[show h.get? mainGlobals=some (z3 P) from e];kernel_rfl
theorem FI{P:Params}{h:Heap}(e:h.get? 0=some (o0 P)):h.isNs builtinsNs=true:=by
 unfold Heap.isNs;rw[show h.get? builtinsNs=some (o0 P) from e];kernel_rfl
theorem blt0{P:Params}{h:Heap}(e:h.get? 0=some (o0 P)):h.bltView=bltViewBooted:=by
 unfold Heap.bltView Heap.nsPairs;rw[show h.get? builtinsNs=some (o0 P) from e];kernel_rfl
theorem yC{P:Params}{h:Heap}(e:h.get? 2=some (o2 P))(key:Str):staticOf h key=none:=by
 unfold staticOf;rw[show h.get? cStatics=some (o2 P) from e];rfl
theorem bound3{P:Params}{h:Heap}(e:h.get? 3=some (o3 P)):namesBound prog2 h=true:=by
 unfold namesBound;rw[Hf e];unfold Heap.nsKeys;rw[show h.get? mainGlobals=some (o3 P) from e];kernel_rfl
def Fw(o:Obj)(x:Str):Option Value:=match o.data with
 |.dict es _=>(es.find? (·.key.isStr x)).map (·.val)
 |_=>none
theorem oe{h:Heap}{o:Obj}(e:h.get? 3=some o)(x:Str):globalOf h x=Fw o x:=by
 unfold globalOf Fw;rw[show h.get? mainNs=some o from e];rfl
theorem EI(P:Params):(laidNames.map fun x=>Fw (o3 P) x)=laidNames.map fun x=>Fw (z3 P) x:=by kernel_rfl
theorem qO{P:Params}:(0,o0 P)∈finL P∧(2,o2 P)∈finL P∧(3,o3 P)∈finL P∧(4,z4 P)∈finL P∧(1992,zX P)∈finL P∧(1993,tH P)∈finL P:=
 ⟨List.mem_of_getElem? (i:=8) (by kernel_rfl),List.mem_of_getElem? (i:=9) (by kernel_rfl),List.mem_of_getElem? (i:=10) (by kernel_rfl),List.mem_of_getElem? (i:=1) (by kernel_rfl),List.mem_of_getElem? (i:=143) (by kernel_rfl),List.mem_of_getElem? (i:=144) (by kernel_rfl)⟩
theorem s0_stay{P:Params}:∀x∈s0L P,x.1=3∨x∈finL P:=
 ab (.inr (List.mem_of_getElem? (i:=8) (by kernel_rfl))) (ab (.inr (List.mem_of_getElem? (i:=0) (by kernel_rfl))) (ab (.inr (List.mem_of_getElem? (i:=9) (by kernel_rfl))) (ab (.inl rfl) (ab (.inr (List.mem_of_getElem? (i:=1) (by kernel_rfl))) (ab (.inr (List.mem_of_getElem? (i:=2) (by kernel_rfl))) (ab (.inr (List.mem_of_getElem? (i:=3) (by kernel_rfl))) (ab (.inr (List.mem_of_getElem? (i:=4) (by kernel_rfl))) (ab (.inr (List.mem_of_getElem? (i:=5) (by kernel_rfl))) (ab (.inr (List.mem_of_getElem? (i:=6) (by kernel_rfl))) (ab (.inr (List.mem_of_getElem? (i:=7) (by kernel_rfl))) (aa)))))))))))
theorem Jk(w:World)(b c:Bool){s₀:Shared}(hz:s₀.asleep)(hn:s₀.heap.objs.size=11)(hp:∀x∈s0L (PP w b c),s₀.heap.get? x.1=some x.2)(ht:s₀.toks=181)(hg:s₀.gens=#[]):
  ∃s₁,TopRan prog2 (W2 w b c) s₀ s₁∧s₁.gens=#[]∧s₁.asleep∧s₁.heap.objs.size=1994∧s₁.toks=5615∧∀x∈finL (PP w b c),s₁.heap.get? x.1=some x.2:=by
 obtain⟨h,gs,d,tk,os⟩:=s₀
 simp only at hn hp ht hg
 subst ht hg
 obtain⟨h',hr,y1,y2,y3,y4⟩:=IQ w b c h #[] d os hn hp
 obtain⟨m0,m2,m3,m4,_,_⟩:=qO (P:=PP w b c)
 have e0:=y4 _ m0
 have e2:=y4 _ m2
 have e3:=y4 _ m3
 have f2:h.get? 2=some (o2 (PP w b c)):=hp (2,o2 (PP w b c)) (by simp[s0L])
 have f3:h.get? 3=some (z3 (PP w b c)):=hp (3,z3 (PP w b c)) (by simp[s0L])
 refine⟨⟨h',#[],d,5615,os⟩,⟨?_,y3,rfl,fun b' o hb hnb=>?_,fun key v hv=>?_,fun key=>?_,Pin.keysAreStrs_of (Hf e3),fun x hx=>(Pin.builtinOf_eq (FI e0) x).trans (Heap.of_bltView (FI e0) (blt0 e0) x hx),⟨4,z4 (PP w b c),?_,y4 _ m4,rfl,rfl⟩,(fun g hgm=>by simp at hgm),names_of_bound (bound3 e3),fun x hx=>?_⟩,rfl,Shared.asleep_of_life y3 hz,y1,rfl,y4⟩
 ·exact(mh hz rfl hr).1
 ·have hlt:b'<11:=hn▸Heap.lt_size hb
  have hm:b'∈(s0L (PP w b c)).map (·.1):=by
   rw[show (s0L (PP w b c)).map (·.1)=List.range 11 from rfl];exact List.mem_range.mpr hlt
  obtain⟨x,hx,rfl⟩:=List.mem_map.mp hm
  have:=hp x hx
  rw[this]at hb
  cases hb
  rcases s0_stay x hx with q|q
  ·exact absurd (.inl q) hnb
  ·exact y4 _ q
 ·have:=yC (P:=PP w b c) e2 key
  rw[show staticOf h' key=none from this]at hv;cases hv
 ·exact .inl ((yC (P:=PP w b c) e2 key).trans (yC (P:=PP w b c) f2 key).symm)
 ·exact(oe e3 _).trans (by kernel_rfl)
 ·exact((oe e3 x).trans (List.map_inj_left.mp (EI (PP w b c)) x hx)).trans (oe f3 x).symm
abbrev law2:OpenLaw:=PySem.Challenge.rw_nz0230_01
abbrev cl2:ClaimW:=law2.row.toRowW.claim
theorem vt(R:WRecords)(cl:Str→Option Addr)(P:Params)(ord:List DictEntry→List DictEntry):∀(xs:List WData) (s:Shared),(∀x∈xs,∃i,x=.int i)→
  ∃l:List (Int×Nat),l.length=xs.length∧layAllW R cl P ord xs s=some (dS l,{s with toks:=s.toks+xs.length})
 |[],s,_=>⟨[],rfl,rfl⟩
 |x::xs,s,h=>by
  obtain⟨i,rfl⟩:=h x List.mem_cons_self
  obtain⟨l,e1,e2⟩:=vt R cl P ord xs {s with toks:=s.toks+1} fun y hy=>h y (List.mem_cons_of_mem _ hy)
  refine⟨(i,s.toks)::l,by rw[List.length_cons,List.length_cons,e1],?_⟩
  unfold layAllW
  simp only[layW,e2]
  congr 1
  simp only[dS,List.map_cons,List.length_cons,Prod.mk.injEq,true_and]
  congr 1
  omega
def kOf:Sem PySem.Fin→Result→Sem PySem.Fin
 |.call _ _ _ _ k=>k
 |_=>fun _=>.unsupported ""
def pP:Sem PySem.Fin→Obj→Sem PySem.Fin
 |.load _ _ k=>k
 |_=>fun _=>.unsupported ""
theorem pY(l:List (Int×Nat)):(dS l).length=l.length:=by simp[dS]
theorem DS(w:World)(b c:Bool){s:Shared}(hz:s.asleep)(hg:s.gens=#[])(hn:s.heap.objs.size=1994)(ht:s.toks=5615)(hf:∀x∈finL (PP w b c),s.heap.get? x.1=some x.2)
  (l:List (Int×Nat)) (hl:l.length≤63):
  ∃(n:Nat) (s':Shared),schedN (denote table) prog2 (W2 w b c) n (.single {s with toks:=s.toks+l.length,heap:=s.heap.push {cls:=.type "list",data:=.seq (dS l).toArray}} (callStub law2.name [.ref s.heap.objs.size]))=.halted (.done (.ret (.bool true))) s'∧
   s'.heap.life=s.heap.life∧s'.os=s.os∧s'.gens=#[]∧∀a o,(s.heap.push {cls:=.type "list",data:=.seq (dS l).toArray}).get? a=some o→s'.heap.get? a=some o:=by
 obtain⟨h,gs,d,tk,os⟩:=s
 simp only at hn hf ht hg
 subst ht hg
 have hsz:(h.push {cls:=.type "list",data:=.seq (dS l).toArray}).objs.size=1995:=by rw[Heap.size_push,hn]
 have hold:∀a o,h.get? a=some o→(h.push {cls:=.type "list",data:=.seq (dS l).toArray}).get? a=some o:=fun a o e=>Heap.get?_push_of_some _ e
 have hscr:(h.push {cls:=.type "list",data:=.seq (dS l).toArray}).get? 1994=some (ah (dS l) 0):=by rw[←hn];exact Heap.get?_push_size _ rfl
 obtain⟨n',t',tri⟩:=law_ok w b c ⟨0,0,0,0⟩ (dS l) (fun j hj=>by rw[pY]at hj;exact⟨l[j].1,l[j].2,by simp[dS,List.getElem?_eq_getElem hj]⟩) (by rw[pY];omega) 0 1 l.length
 obtain⟨m0,m2,m3,m4,_,_⟩:=qO (P:=PP w b c)
 have hΓ:(Lim (caller.enter (.call (.ref 1993) ⟨[.ref 1994],[]⟩) none ⟨0,0,0,0⟩) 140)∧(caller.enter (.call (.ref 1993) ⟨[.ref 1994],[]⟩) none ⟨0,0,0,0⟩).below=[(.builtin "claim.caller" {},⟨0,0,0,0⟩)]:=⟨⟨⟨rfl,rfl,rfl⟩,by decide +kernel⟩,rfl⟩
 obtain⟨h',r1,r2,r3,r4,r5,r6,r7,r8⟩:=tri (by simp) (ab (by show 1994≤Nat.add 0 1994;decide) aa) (by decide) _ ⟨0,0,0,0⟩ (h.push {cls:=.type "list",data:=.seq (dS l).toArray}) #[] d os rfl hΓ hsz
  (fun a o e=>hold a o (hf (a,o) (Di _ a o e))) (ab hscr aa) (fun x hx=>nomatch hx)
 have run:Runs (MM w b c) caller ⟨0,0,0,0⟩ (callStub law2.name [.ref 1994]).cur [] ⟨h.push {cls:=.type "list",data:=.seq (dS l).toArray},#[],d,Nat.add l.length 5615,os⟩ (.ret (.ok (.ret (.bool true)))) ⟨h',#[],d,t',os⟩:=by
  have t1:(callStub law2.name [.ref 1994]).cur=.load 3 (some (.str law2.name 0)) (pP (callStub law2.name [.ref 1994]).cur):=rfl
  rw[t1]
  refine .load (hold _ _ (hf _ m3)) ?_
  have t2:pP (callStub law2.name [.ref 1994]).cur (o3 (PP w b c))=.call (.call (.ref 1993) ⟨[.ref 1994],[]⟩) none false [] (kOf (pP (callStub law2.name [.ref 1994]).cur (o3 (PP w b c)))):=by kernel_rfl
  show Runs _ _ _ (pP (callStub law2.name [.ref 1994]).cur (o3 (PP w b c))) _ _ _ _
  rw[t2]
  refine .call r1 ?_
  have t3:kOf (pP (callStub law2.name [.ref 1994]).cur (o3 (PP w b c))) (.ok (.ret (.bool true)))=.pure (.done (.ret (.bool true))):=by kernel_rfl
  rw[t3]
  exact .done
 have hz':Shared.asleep ⟨h.push {cls:=.type "list",data:=.seq (dS l).toArray},#[],d,Nat.add l.length 5615,os⟩:=Shared.asleep_of_life (s:=⟨h,#[],d,5615,os⟩) (Heap.life_push _ _) hz
 obtain⟨n,hN⟩:=(mh hz' rfl run).2
 refine⟨n,⟨h',#[],d,t',os⟩,?_,r4.trans (Heap.life_push _ _),rfl,rfl,fun a o e=>?_⟩
 ·have e1:(5615:Nat)+l.length=Nat.add l.length 5615:=Nat.add_comm _ _
  show schedN _ _ _ n (.single ⟨h.push _,#[],d,5615+l.length,os⟩ (callStub law2.name [.ref h.objs.size]))=_
  rw[e1,hn]
  exact hN
 ·by_cases q:a=1994
  ·subst q
   have:o=ah (dS l) 0:=Option.some.inj (e.symm.trans hscr)
   subst this
   exact(r6 _ List.mem_cons_self).2
  ·exact r7 a (Nat.lt_of_lt_of_eq (Heap.lt_size e) hsz) (by simpa using q) o e
theorem Jt{args:List WData}(h:cl2.pre args=true):∃ns:List Int,args=[.list (ns.map .int)]∧ns.length≤63:=by
 obtain⟨h1,h2⟩:=pre_splitW (r:=law2.row.toRowW) h
 obtain⟨d,r,rfl,h3,h4⟩:=hasAllW_cons h1
 have hr:r=[]:=by cases r with|nil=>rfl|cons x xs=>simp[WShape.hasAll]at h4
 subst hr
 obtain⟨xs,rfl,h5⟩:=hasW_list h3
 obtain⟨ns,rfl⟩:=items_int h5
 refine⟨ns,rfl,?_⟩
 refine Nat.le_of_not_lt fun z=>?_
 have e:law2.row.pre.value [] {args:=[.list (ns.map .int)]}=some (.bool (!decide ((63:Int)<((ns.map WData.int).length:Nat))&&true)):=by
  show WTm.value [] (WTm.and (.not (.lt (.lit (.int 63)) (.len (.arg 0)))) (.lit (.bool true))) {args:=[.list (ns.map .int)]}=_
  simp only[WTm.value,List.getElem?_cons_zero,List.length_map]
  rw[show less? (WData.int 63) (WData.int (ns.length:Nat))=some (decide ((63:Int)<(ns.length:Nat))) from rfl]
  cases decide ((63:Int)<(ns.length:Nat))<;>rfl
 have h2':(match law2.row.pre.value [] {args:=[.list (ns.map .int)]} with|some (.bool true)=>true|_=>false)=true:=h2
 rw[e,List.length_map]at h2'
 have:decide ((63:Int)<(ns.length:Nat))=true:=decide_eq_true (by exact_mod_cast z)
 rw[this]at h2'
 cases h2'
theorem BR(w:World)(b c:Bool){s₁:Shared}(hf:∀x∈finL (PP w b c),s₁.heap.get? x.1=some x.2):isTheDefsW prog2 s₁.heap law2.name:=by
 obtain⟨m0,m2,m3,m4,m5,m6⟩:=qO (P:=PP w b c)
 refine⟨1993,tH (PP w b c),_,(db aF 153).1,(db aF 153).2.1,(db aF 153).2.2,(oe (hf _ m3) _).trans (by kernel_rfl),hf _ m6,rfl,by kernel_rfl,by kernel_rfl,by kernel_rfl,rfl,rfl,rfl,rfl,rfl,rfl,.inl ⟨by kernel_rfl,rfl⟩,[],by kernel_rfl,.inl ⟨rfl,rfl⟩⟩
theorem said:PySem.Challenge.rw_nz0230_01.wellSaid=true:=by
 unfold OpenLaw.wellSaid OpenRow.wellSaid OpenRow.partSaid looksOpen
 repeat' (with_reducible refine look_both ?_ ?_)
 all_goals decide +kernel
theorem Cr(w:World)(b c:Bool){s:Shared}{free:Addr→Prop}{gens:Prop}{kept:Heap→Prop}(hk:∀h',kept h')(hz:s.asleep)(hg:s.gens=#[])(hn:s.heap.objs.size=1994)(ht:s.toks=5615)(hf:∀x∈finL (PP w b c),s.heap.get? x.1=some x.2):
  cl2.CallFrom (callStub law2.name) (W2 w b c) free gens kept s:=by
 intro args hpre hlay ord hord
 obtain⟨ns,rfl,hl⟩:=Jt hpre
 obtain⟨l,e1,e2⟩:=vt cl2.records (classAt s.heap) (W2 w b c).params ord (ns.map .int) s fun x hx=>by
  obtain⟨i,_,rfl⟩:=List.mem_map.mp hx;exact⟨i,rfl⟩
 have hlaid:layAllW cl2.records (classAt s.heap) (W2 w b c).params ord [.list (ns.map .int)] s=some ([.ref s.heap.objs.size],{s with toks:=s.toks+l.length,heap:=s.heap.push {cls:=.type "list",data:=.seq (dS l).toArray}}):=by
  unfold layAllW
  simp only[layW,e2]
  unfold layAllW
  simp only[e1]
 obtain⟨n,s',hN,q1,q2,q3,q4⟩:=DS w b c hz hg hn ht hf l (by rw[e1,List.length_map];exact hl)
 obtain⟨hsame,hu,ha,hap,hm⟩:=frees_parts (r:=law2.row.toRowW) rfl
 have hi:=ident_freeW hu ha hap
 have G:GoodW cl2 (classAt s.heap) (ExcName.means s.heap) [.list (ns.map .int)] {s with toks:=s.toks+l.length,heap:=s.heap.push {cls:=.type "list",data:=.seq (dS l).toArray}} (.ok (.ret (.bool true))) s':=
  ⟨.inl ⟨_,.bool true,[],rfl,fun _=>rfl,.bool true,by kernel_rfl,fun _=>⟨List.nodup_nil,fun a ha=>nomatch ha⟩⟩,q4,q2,q3⟩
 have E:=G.ends hsame hi hord hlaid hlay
 refine⟨_,_,hlaid,n,_,s',hN,?_,(fun _ i x hx=>by rw[hg]at hx;simp at hx),hk _,by rw[q1],Shared.rest_eq q2⟩
 rcases E.1 with ⟨v,hv,d1,d2,d3,d4,d5⟩|⟨e,ob,cls,hv,_⟩
 ·have:v=.bool true:=by cases hv;rfl
  subst this
  exact .inl ⟨_,rfl,d1,d2,d3,fun b' o y _=>d4 b' o y,d5⟩
 ·cases hv
theorem row_holds(said:law2.row.wellSaid=true):law2.row.Holds:=by
 refine⟨said,⟨[.list []],by decide +kernel,by decide +kernel⟩,⟨⟨rfl,rfl,rfl,rfl,rfl,by decide +kernel⟩,by decide +kernel,rfl⟩,⟨[.list []],by decide +kernel,by decide +kernel⟩,fun w=>?_⟩
 obtain⟨b,c,hw⟩:=HP w
 rw[←hw]
 clear hw
 obtain⟨s0,hs0,n0,p0,t0,g0⟩:=s0_of w b c
 obtain⟨s,h4,h5⟩:=Option.bind_eq_some_iff.mp (show (importEnds treeTable (opening prog2) (W2 w b c) 3000 (start (opening prog2)).1 (start (opening prog2)).2).bind (fenceModules? prog2)=some s0 from hs0)
 rw[←table_eq_tree]at h4
 have A:=AfterImport.of_importEnds h4
 refine⟨⟨s,A⟩,fun s' hs'=>?_⟩
 obtain rfl:s'=s:=AfterImport.unique hs' A
 have z:s0.asleep:=Shared.asleep_of_life (fence_lifeW h5) A.life
 obtain⟨s1,T,g1,z1,n1,t1,f1⟩:=Jk w b c z n0 p0 t0 g0
 refine⟨s0,h5,g0,s1,T,fun n hn=>?_,(fun x hx=>nomatch hx),(fun x hx=>nomatch hx),Cr w b c (fun h' hw=>nomatch hw) z1 g1 n1 t1 f1⟩
 have:n=law2.name:=List.mem_singleton.mp hn
 subst this
 exact BR w b c f1
end
end Mine
end
open PySem PySem.W PyProof.Rows Mine in
theorem PySem.Challenge.cw_nz0230_01_holds : PySem.Challenge.rw_nz0230_01.Holds := by
  exact holds_law Mine.said Mine.row_holds
