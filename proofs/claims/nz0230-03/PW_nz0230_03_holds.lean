import PyProof.Rows.All
import Wide.All
import OpenK.AllK
import Wide.FinOn
import PyProof.Methods
import PyProof.AutoListH
import PyProof.SliceList
import PyProof.SumWalk
import PyProof.DictKinds
import PyProof.EqAt
import PyProof.EqKinds
import PyProof.NeKinds
import PyProof.Rows.StrInSeq
import Lean
import PySem.Challenge.RW_nz0230_03
set_option Elab.async false
set_option maxRecDepth 100000
set_option maxHeartbeats 0
set_option linter.all false
set_option compiler.extract_closed false
noncomputable section
namespace Mine
open Int renaming ofNat → Zo
open PySem.Builtin renaming bitAnd → Za, bitOr → Zb, bitXor → Zc
open Nat renaming add → Zd, beq → Ze, testBit → Zf, mod_lt → Zg, lt_trans → Zh, le_of_lt → Zj, and_or_distrib_right → Zl, le_refl → Zm, ble → Zn, and_assoc → Zq, lt_of_lt_of_le → Zr, eq_of_beq_eq_true → Zs, lt_of_le_of_lt → Zt, le_trans → Zu, testBit_two_pow_mul_add → Zv, ne_of_lt → Zw, le_add_left → Zx, le_add_right → Zy, lt_irrefl → Zz, le_of_not_lt → Z0, and_comm → Z1
open PySem renaming Fin → Z3, Pos → Z4, Params → Z5, Value → Z6, DictEntry → Z7, World → Z8, Addr → Z9, Code → Xo, wpAny_bind → Xa, wpAny_pure → Xb, Result → Xc, Shared → Xd, Setting → Xe, Program → Xf, Runs → Xg, Heap → Xh, Sem → Xj
open BEq renaming beq → Xl
open LT renaming lt → Xm
open LE renaming le → Xn
open Bool renaming rec → Xp, false_ne_true → Xr, and_eq_true → Xs
open Option renaming none → Xt, rec → Xu
open Array renaming mk → Xv, toList_push → Xw
open Prod renaming mk → Xx
open HAppend renaming hAppend → Xy
open PySem.Sem renaming bind → Xz
open PySem.Heap renaming get?_update_ne → X0, get?_push_of_some → Qo, lt_size → Qa
open PySem.Value renaming isInt → Qb, ref → Qc, none → Qd, int → Qe
open List renaming cons → Qf, mem_of_getElem? → Qg, map_append → Qh, mem_append_left → Qj, length_append → Ql, nodup_cons → Qm, perm_append_comm → Qn, mem_cons_of_mem → Qp, mem_map → Qq, mem_append_right → Qr, append_assoc → Qs, mem_cons → Qt, mem_append → Qu
section
open PySem PySem.W
inductive HT where
 |nil
 |node (v:Option Obj) (l r:HT)
def HT.getK(t:HT):Nat→Option Obj:=
 HT.rec (motive:=fun _=>Nat→Option Obj) (fun _=>none)
  (fun v _ _ gl gr k=>@Xp (fun _=>Option Obj) (@Xp (fun _=>Option Obj) (gl (Nat.div k 2)) (gr (Nat.div k 2)) (Ze (Nat.mod k 2) 1)) v (Ze k 1)) t
def HT.chain(n:Nat):Nat→Obj→HT:=
 Nat.rec (motive:=fun _=>Nat→Obj→HT) (fun _ _=>.nil)
  (fun _ c k o=>@Xp (fun _=>HT) (@Xp (fun _=>HT) (.node none (c (Nat.div k 2) o) .nil) (.node none .nil (c (Nat.div k 2) o)) (Ze (Nat.mod k 2) 1)) (.node (some o) .nil .nil) (Ze k 1)) n
def HT.putK(t:HT):Nat→Obj→HT:=
 HT.rec (motive:=fun _=>Nat→Obj→HT) (fun k o=>HT.chain 40 k o)
  (fun v l r pl pr k o=>@Xp (fun _=>HT) (@Xp (fun _=>HT) (.node v (pl (Nat.div k 2) o) r) (.node v l (pr (Nat.div k 2) o)) (Ze (Nat.mod k 2) 1)) (.node (some o) l r) (Ze k 1)) t
theorem qu(a b:Nat):Ze a b=decide (a=b):=BT.beq_eq a b
theorem HT.get_node(v:Option Obj)(l r:HT)(k:Nat):HT.getK (.node v l r) k=if k=1 then v else if k%2=1 then r.getK (k/2) else l.getK (k/2):=by
 show @Xp (fun _=>Option Obj) (@Xp (fun _=>Option Obj) (l.getK (k/2)) (r.getK (k/2)) (Ze (k%2) 1)) v (Ze k 1)=_
 rw[qu,qu]
 by_cases h1:k=1
 ·simp[h1]
 ·by_cases h2:k%2=1<;>simp[h1,h2]
theorem HT.put_node(v:Option Obj)(l r:HT)(k:Nat)(o:Obj):HT.putK (.node v l r) k o=if k=1 then .node (some o) l r else if k%2=1 then .node v l (r.putK (k/2) o) else .node v (l.putK (k/2) o) r:=by
 show @Xp (fun _=>HT) (@Xp (fun _=>HT) (.node v (l.putK (k/2) o) r) (.node v l (r.putK (k/2) o)) (Ze (k%2) 1)) (.node (some o) l r) (Ze k 1)=_
 rw[qu,qu]
 by_cases h1:k=1
 ·simp[h1]
 ·by_cases h2:k%2=1<;>simp[h1,h2]
theorem HT.put_nil(k:Nat)(o:Obj):HT.putK .nil k o=HT.chain 40 k o:=rfl
theorem HT.chain_succ(n k:Nat)(o:Obj):HT.chain (n+1) k o=if k=1 then .node (some o) .nil .nil else if k%2=1 then .node none .nil (HT.chain n (k/2) o) else .node none (HT.chain n (k/2) o) .nil:=by
 show @Xp (fun _=>HT) (@Xp (fun _=>HT) (.node none (HT.chain n (k/2) o) .nil) (.node none .nil (HT.chain n (k/2) o)) (Ze (k%2) 1)) (.node (some o) .nil .nil) (Ze k 1)=_
 rw[qu,qu]
 by_cases h1:k=1
 ·simp[h1]
 ·by_cases h2:k%2=1<;>simp[h1,h2]
theorem HT.chain_ne(o:Obj):∀(n k k':Nat),1≤k→1≤k'→k≠k'→(HT.chain n k o).getK k'=none
 |0,_,_,_,_,_=>rfl
 |n+1,k,k',h1,h2,h3=>by
  rw[chain_succ]
  by_cases a:k=1
  ·rw[if_pos a,get_node,if_neg (by omega)]
   split<;>rfl
  ·rw[if_neg a]
   by_cases b:k%2=1
   ·rw[if_pos b,get_node]
    by_cases c:k'=1
    ·rw[if_pos c]
    ·rw[if_neg c]
     by_cases d:k'%2=1
     ·rw[if_pos d];exact chain_ne o n _ _ (by omega) (by omega) (by omega)
     ·rw[if_neg d];rfl
   ·rw[if_neg b,get_node]
    by_cases c:k'=1
    ·rw[if_pos c]
    ·rw[if_neg c]
     by_cases d:k'%2=1
     ·rw[if_pos d];rfl
     ·rw[if_neg d];exact chain_ne o n _ _ (by omega) (by omega) (by omega)
theorem HT.chain_self(o:Obj):∀(n k:Nat),(HT.chain n k o).getK k=some o∨(HT.chain n k o).getK k=none
 |0,_=>.inr rfl
 |n+1,k=>by
  rw[chain_succ]
  by_cases a:k=1
  ·rw[if_pos a,get_node,if_pos a];exact .inl rfl
  ·rw[if_neg a]
   by_cases b:k%2=1
   ·rw[if_pos b,get_node,if_neg a,if_pos b];exact chain_self o n _
   ·rw[if_neg b,get_node,if_neg a,if_neg b];exact chain_self o n _
theorem HT.put_ne(o:Obj):∀(t:HT) (k k':Nat),1≤k→1≤k'→k≠k'→(t.putK k o).getK k'=t.getK k'
 |.nil,k,k',h1,h2,h3=>by rw[put_nil,chain_ne o 40 k k' h1 h2 h3];rfl
 |.node v l r,k,k',h1,h2,h3=>by
  rw[put_node,get_node v l r]
  by_cases a:k=1
  ·have hk:k'≠1:=by omega
   rw[if_pos a,get_node,if_neg hk,if_neg hk]
  ·rw[if_neg a]
   by_cases b:k%2=1
   ·rw[if_pos b,get_node]
    by_cases c:k'=1
    ·rw[if_pos c,if_pos c]
    ·rw[if_neg c,if_neg c]
     by_cases d:k'%2=1
     ·rw[if_pos d,if_pos d];exact put_ne o r _ _ (by omega) (by omega) (by omega)
     ·rw[if_neg d,if_neg d]
   ·rw[if_neg b,get_node]
    by_cases c:k'=1
    ·rw[if_pos c,if_pos c]
    ·rw[if_neg c,if_neg c]
     by_cases d:k'%2=1
     ·rw[if_pos d,if_pos d]
     ·rw[if_neg d,if_neg d];exact put_ne o l _ _ (by omega) (by omega) (by omega)
theorem HT.put_self(o:Obj):∀(t:HT) (k:Nat),(t.putK k o).getK k=some o∨(t.putK k o).getK k=none
 |.nil,k=>chain_self o 40 k
 |.node v l r,k=>by
  rw[put_node]
  by_cases a:k=1
  ·rw[if_pos a,get_node,if_pos a];exact .inl rfl
  ·rw[if_neg a]
   by_cases b:k%2=1
   ·rw[if_pos b,get_node,if_neg a,if_pos b];exact put_self o r _
   ·rw[if_neg b,get_node,if_neg a,if_neg b];exact put_self o l _
theorem vn(a b:List UInt8):S.codeB (a++b)=S.codeB a+256^a.length*S.codeB b:=by
 induction a with
 |nil=>show S.codeB b=0+256^0*S.codeB b;omega
 |cons x a ih=>
  have e1:S.codeB (x::a++b)=Nat.succ (S.codeB (a++b)*256+x.toBitVec.toFin.val):=rfl
  have e2:S.codeB (x::a)=Nat.succ (S.codeB a*256+x.toBitVec.toFin.val):=rfl
  have e3:256^(x::a).length=256^a.length*256:=Nat.pow_succ _ _
  rw[e1,e2,ih,e3,Nat.add_mul]
  have:256^a.length*256*S.codeB b=256^a.length*S.codeB b*256:=by
   rw[Nat.mul_assoc,Nat.mul_comm 256,←Nat.mul_assoc]
  omega
theorem vK{id:String}(h:id.startsWith "lifetime."=true):S.codeS id%256^9=874377925356117518957:=by
 obtain⟨t,ht⟩:=String.startsWith_string_iff.mp h
 have e:id="lifetime."++String.ofList t:=by
  apply String.toList_inj.mp
  exact ht.symm.trans (by rw[String.toList_append];exact congrArg ("lifetime.".toList++·) (String.toList_ofList (l:=t)).symm)
 have eb:id.toByteArray.data.toList="lifetime.".toByteArray.data.toList++(String.ofList t).toByteArray.data.toList:=by
  rw[e,String.toByteArray_append,ByteArray.data_append,Array.toList_append]
 have e9:"lifetime.".toByteArray.data.toList.length=9:=by decide +kernel
 have eL:S.codeB "lifetime.".toByteArray.data.toList=874377925356117518957:=by decide +kernel
 show S.codeB id.toByteArray.data.toList%256^9=_
 rw[eb,vn,e9,eL,Nat.add_mul_mod_self_left]
def fC(c:Xo):Bool:=match c with
 |.builtin id _=>Bool.not (Ze (Nat.mod (S.codeS id) 4722366482869645213696) 874377925356117518957)
 |_=>true
theorem uO{c:Xo}(h:fC c=true):c.quiet=true:=by
 cases c with
 |builtin id args=>
  refine Code.quiet_builtin args ?_
  cases q:id.startsWith "lifetime." with
  |false=>rfl
  |true=>
   have e:=vK q
   have h':Bool.not (Ze (S.codeS id%256^9) 874377925356117518957)=true:=h
   rw[e]at h'
   exact absurd h' (by decide)
 |_=>rfl
theorem nMm{α:Type u}{p:α→Prop}:∀k∈([]:List α),p k:=fun _ h=>nomatch h
abbrev gHs:=List (Z9×Obj)
noncomputable def LZ(l:List Nat):List Nat:=l
inductive Hn where
 |nil
 |ld (i:Nat) (r:Hn)
 |fork (a b:Hn)
 |orc (i:Nat) (r:Hn)
inductive Claim where
 |eq (a b:Nat)
 |tr (c b:Bool)
 |ask (k:Xe→Xj Z3)
 |code (a b:Xo)
 |obj (a b:Option Obj)
 |gl (a b:gHs)
 |bel (a b:List (Xo×Pos))
inductive Q where
 |ok (r:Xc) (T:HT) (c tk:Nat) (A:List Claim) (H:Hn)
 |fork (b:Bool) (x y:Q)
 |no
abbrev lX:=Ctx→Xo→Pos→HT→Nat→Nat→List Claim→Hn→Q
structure Cfg where
 S:HT
 B:Nat
 rho:Nat→Nat
 tok:Nat→Nat
 G:Nat→gHs
 st:Xe
abbrev fw:=Bool→lX→Cfg→Ctx→Pos→HT→Nat→Nat→List Claim→Hn→Q
def Q.andThen(q:Q)(f:Xc→HT→Nat→Nat→List Claim→Hn→Q):Q:=
 @Q.rec (fun _=>Q) (fun r T c tk A H=>f r T c tk A H) (fun b _ _ x y=>.fork b x y) .no q
def CA(g:Cfg)(a:Z9)(T:HT)(A:List Claim)(H:Hn)(k:Obj→Nat→List Claim→Hn→Q):Q:=
 @Hn.rec (fun _=>Q) .no (fun j H' _=>@Nat.rec (fun _=>Q) .no (fun j' _=>@Xu Obj (fun _=>Q) .no (fun o=>k o j' (.eq a (g.rho j')::A) H') (T.getK (Zd j' 1))) j) (fun _ _ _ _=>.no) (fun _ _ _=>.no) H
def zB(g:Cfg)(a:Z9)(T:HT)(A:List Claim)(H:Hn)(k:Obj→List Claim→Hn→Q):Q:=
 @Hn.rec (fun _=>Q) .no (fun j H' _=>@Nat.rec (fun _=>Q) (@Xu Obj (fun _=>Q) .no (fun o=>k o A H') (g.S.getK (Zd a 1)))
  (fun j' _=>@Xu Obj (fun _=>Q) .no (fun o=>k o (.eq a (g.rho j')::A) H') (T.getK (Zd j' 1))) j) (fun _ _ _ _=>.no) (fun _ _ _=>.no) H
def jH(c:Bool)(A:List Claim)(H:Hn)(k:Bool→List Claim→Hn→Q):Q:=
 @Hn.rec (fun _=>Q) .no (fun j H' _=>@Nat.rec (fun _=>Q) (@Xp (fun _=>Q) (k false A H') (k true A H') c)
   (fun j' _=>@Nat.rec (fun _=>Q) (k true (.tr c true::A) H') (fun j'' _=>@Nat.rec (fun _=>Q) (k false (.tr c false::A) H') (fun _ _=>k c A H') j'') j') j)
  (fun x y _ _=>.fork c (k true A x) (k false A y)) (fun _ _ _=>.no) H
def Um(fin:Z3):fw:=fun _ ih _ Γ p T c tk A H=>
 @PySem.Fin.rec (fun _=>Q) (fun f=>.ok (.ok f) T c tk A H) (fun cd=>@Xp (fun _=>Q) .no (ih (Γ.goto cd) cd p T c tk A H) (fC cd)) fin
def Uk(a:Z9)(kih:Obj→fw):fw:=fun mk ih g Γ p T c tk A H=>zB g a T A H fun o A H=>kih o mk ih g Γ p T c tk A H
def Qx(a:Z9)(kih:Option Obj→fw):fw:=fun mk ih g Γ p T c tk A H=>zB g a T A H fun o A H=>kih (some o) mk ih g Γ p T c tk A H
def ZV(a:Z9)(f:Obj→Obj)(kih:Unit→fw):fw:=fun mk ih g Γ p T c tk A H=>CA g a T A H fun o j A H=>
 @Xp (fun _=>Q) (kih () mk ih g Γ p (T.putK (Zd j 1) (f o)) c tk A H) .no (f o).isFreed
def Qy(o:Obj)(kih:Z9→fw):fw:=fun mk ih g Γ p T c tk A H=>
 @Xp (fun _=>Q) (kih (g.rho c) mk ih g Γ p (T.putK (Zd c 1) o) (Zd c 1) tk (.gl (g.G (Zd c 1)) (g.G c)::.eq (g.rho (Zd c 1)) (Nat.succ (g.rho c))::A) H) .no o.isFreed
noncomputable def Qz(kih:Tok→fw):fw:=fun mk ih g Γ p T c tk A H=>
 kih (g.tok tk) mk ih g Γ p T c (Zd tk 1) (.eq (g.tok (Zd tk 1)) (Nat.succ (g.tok tk))::A) H
def Uj(cd:Xo)(h:Option Z6)(kih:Xc→fw):fw:=fun mk ih g Γ p T c tk A H=>
 Q.andThen (ih (Γ.enter cd h p) cd p T c tk A H) fun r T c tk A H=>kih r mk ih g Γ p T c tk A H
def Ul(a:Z9)(live:List Z6)(kih:Bool→fw):fw:=fun mk ih g Γ p T c tk A H=>
 @Xp (fun _=>Q) .no (@List.rec Z6 (fun _=>Q) .no (fun v _ _=>match v with
  |.int x _=>@Int.rec (fun _=>Q) (fun n=>kih true mk ih g Γ p T c tk (.eq a n::A) H) (fun _=>.no) x
  |.bool b=>jH b A H fun b A H=>kih b mk ih g Γ p T c tk A H
  |_=>.no) live) mk
def dE(t:Xj Z3):fw:=
 Sem.rec (motive:=fun _=>fw)
  (pure:=Um)
  (raise:=fun e _ _ _ _ _ T c tk A H=>.ok (.error e) T c tk A H)
  (unsupported:=fun _ _ _ _ _ _ _ _ _ _ _=>.no)
  (finish:=fun _ _ _ _ _ _ _ _ _ _ _=>.no)
  (rule:=fun _ _ kih=>kih ())
  («at»:=fun q _ kih mk ih g Γ _ T c tk A H=>kih () mk ih g Γ q T c tk A H)
  (load:=fun a _ _ kih=>Uk a kih)
  (update:=fun a _ f _ kih=>ZV a f kih)
  (alloc:=fun o _ kih=>Qy o kih)
  (loadIfAlive:=fun a _ kih=>Qx a kih)
  (point:=fun _ _ kih=>kih ())
  (register:=fun _ _ _ _ _ _ _ _ _ _ _ _ _=>.no)
  (fresh:=fun _ kih=>Qz kih)
  (ask:=fun k kih mk ih g Γ p T c tk A H=>kih g.st mk ih g Γ p T c tk (.ask k::A) H)
  (choose:=fun _ _ _ _ _ _ _ _ _ _ _ _ _ _=>.no)
  (os:=fun _ _ _ _ _ _ _ _ _ _ _ _ _ _=>.no)
  (call:=fun cd h _ _ _ kih=>Uj cd h kih)
  (handled:=fun own _ kih mk ih g Γ=>kih (@Xp (fun _=>Option Z6) Γ.handled Γ.own own) mk ih g Γ)
  (newGen:=fun _ _ _ _ _ _ _ _ _ _ _ _ _=>.no)
  (genState:=fun _ _ _ _ _ _ _ _ _ _ _ _ _=>.no)
  (resume:=fun _ _ _ _ _ _ _ _ _ _ _ _ _ _ _=>.no)
  (yield:=fun _ _ _ _ _ _ _ _ _ _ _ _ _ _ _=>.no)
  (stack:=fun _ kih mk ih g Γ p=>kih ((Γ.code,p)::Γ.below) mk ih g Γ p)
  (fork:=fun _ _ _ _ _ _ _ _ _ _ _ _ _=>.no)
  (thread:=fun _ kih=>kih 0)
  (await:=fun a _ _ live _ kih=>Ul a live kih)
  t
abbrev WT:=Bool×Xj Z3
abbrev i7:=Nat→Cfg→Ctx→Xo→HT→Nat→Nat→List Claim→Hn→Q
def se(W:Xo→WT)(O:i7)(g:Cfg)(N:Nat):lX:=
 @Nat.rec (fun _=>lX) (fun _ _ _ _ _ _ _ _=>.no) (fun _ ih Γ cd p T c tk A H=>
  @Hn.rec (fun _=>Q) (@Prod.rec Bool (Xj Z3) (fun _=>Q) (fun mk t=>dE t mk ih g Γ p T c tk A .nil) (W cd))
   (fun i r _=>@Prod.rec Bool (Xj Z3) (fun _=>Q) (fun mk t=>dE t mk ih g Γ p T c tk A (.ld i r)) (W cd))
   (fun x y _ _=>@Prod.rec Bool (Xj Z3) (fun _=>Q) (fun mk t=>dE t mk ih g Γ p T c tk A (.fork x y)) (W cd))
   (fun i r _=>@Xp (fun _=>Q) (O i g Γ cd T c tk A r) (@Prod.rec Bool (Xj Z3) (fun _=>Q) (fun mk t=>dE t mk ih g Γ p T c tk A (.orc (Nat.sub i 2000) r)) (W cd)) (Zn 2000 i)) H) N
structure Leaf where
 r:Xc
 T:HT
 c:Nat
 tk:Nat
 A:List Claim
 H:Hn
noncomputable def Q.leaf:Q→Option Leaf
 |.ok r T c tk A H=>some ⟨r,T,c,tk,A,H⟩
 |.fork b x y=>bif b then x.leaf else y.leaf
 |.no=>none
noncomputable def Leaf.go(l:Leaf)(f:Xc→HT→Nat→Nat→List Claim→Hn→Q):Q:=f l.r l.T l.c l.tk l.A l.H
theorem Q.leaf_andThen(q:Q)(f):(Q.andThen q f).leaf=q.leaf.bind fun l=>(l.go f).leaf:=by
 induction q with
 |ok=>rfl
 |fork b x y hx hy=>
  show (bif b then (Q.andThen x f).leaf else (Q.andThen y f).leaf)=(bif b then x.leaf else y.leaf).bind _
  cases b<;>assumption
 |no=>rfl
def Claim.So(M:Model)(st:Xe):Claim→Prop
 |.eq a b=>a=b
 |.tr c b=>c=b
 |.ask k=>k ⟨M.prog,M.w.params⟩=k st
 |.code a b=>a=b
 |.obj a b=>a=b
 |.gl a b=>a=b
 |.bel a b=>a=b
def o1(M:Model)(st:Xe)(A:List Claim):Prop:=∀x∈A,x.So M st
structure Rep (g:Cfg) (h:Xh) (T:HT) (c:Nat):Prop where
 size:h.objs.size=g.rho c
 big:g.B≤h.objs.size
 still:∀a o,g.S.getK (a+1)=some o→h.get? a=some o
 under:∀a o,g.S.getK (a+1)=some o→a<g.B
 at_:∀k o,T.getK (k+1)=some o→g.B≤g.rho k∧h.get? (g.rho k)=some o
 inj:∀i j o o',T.getK (i+1)=some o→T.getK (j+1)=some o'→g.rho i=g.rho j→i=j
 ghost:∀x∈g.G c,h.get? x.1=some x.2∧∀k o,T.getK (k+1)=some o→g.rho k≠x.1
def w0(g:Cfg)(T:HT)(b:Z9):Prop:=∀k o,T.getK (k+1)=some o→g.rho k≠b
def Kept2(g:Cfg)(T:HT)(h:Xh)(T':HT)(h':Xh):Prop:=∀b,b<h.objs.size→w0 g T b→w0 g T' b∧∀o,h.get? b=some o→h'.get? b=some o
noncomputable def lA(c:Xo):Bool:=match c with|.builtin "type.__call__" ⟨.ref _::_,_⟩=>true|_=>false
def unitsOf(L:List (Xo×Pos)):Nat:=((L.map (·.1)).map (·.frames)).sum+((L.map (·.1)).filter lA).length
def Mj(L:List (Xo×Pos)):Prop:=unitsOf L<700
def Lim(Γ:Ctx)(N:Nat):Prop:=(Γ.handled=none∧Γ.own=none∧Γ.past=none)∧unitsOf Γ.below+4*N<700
theorem Br(c:Xo):c.frames≤3:=by
 unfold Code.frames
 split<;>first|omega|(split<;>omega)
theorem KB{α:Type}(f:α→Bool)(x:α)(l:List α):(List.filter f (x::l)).length≤(List.filter f l).length+1:=by
 rw[List.filter_cons];cases f x<;>simp
theorem dF(x:Xo×Pos)(L:List (Xo×Pos)):unitsOf (x::L)≤unitsOf L+4:=by
 have h:=Br x.1
 have h2:=KB lA x.1 (L.map (·.1))
 unfold unitsOf
 simp only[List.map_cons,List.sum_cons]
 omega
def LimU(Γ:Ctx)(N:Nat):Prop:=unitsOf Γ.below+4*N<700
theorem Lim.u{Γ:Ctx}{N:Nat}(h:Lim Γ N):LimU Γ N:=h.2
theorem LimU.few{Γ:Ctx}{N:Nat}(h:LimU Γ (N+1))(p:Pos):Mj ((Γ.code,p)::Γ.below):=by
 have:=dF (Γ.code,p) Γ.below
 unfold LimU at h;unfold Mj;omega
theorem LimU.goto{Γ:Ctx}{N:Nat}(h:LimU Γ (N+1))(c:Xo):LimU (Γ.goto c) N:=by
 unfold LimU at h
 show unitsOf Γ.below+_<_
 omega
theorem LimU.enter{Γ:Ctx}{N:Nat}(h:LimU Γ (N+1))(c:Xo)(hd:Option Z6)(p:Pos):LimU (Γ.enter c hd p) N:=by
 have:=dF (Γ.code,p) Γ.below
 unfold LimU at h
 show unitsOf ((Γ.code,p)::Γ.below)+_<_
 omega
def SOut(M:Model)(g:Cfg)(Γ:Ctx)(t:Xj Z3)(p:Pos)(T:HT)(c tk:Nat)(A:List Claim)(l:Leaf):Prop:=
 (∃xs,l.A=xs++A)∧(o1 M g.st l.A→∀h gs d os,Rep g h T c→
  ∃h',Xg M Γ p t [] ⟨h,gs,d,g.tok tk,os⟩ (.ret l.r) ⟨h',gs,d,g.tok l.tk,os⟩∧Rep g h' l.T l.c∧Kept2 g T h l.T h'∧h'.life=h.life∧h.objs.size≤h'.objs.size)
def xK(M:Model)(g:Cfg)(N:Nat)(f:lX):Prop:=
 ∀Γ cd p T c tk A H l,Γ.code=cd→LimU Γ N→(f Γ cd p T c tk A H).leaf=some l→SOut M g Γ (M.den cd) p T c tk A l
inductive Sim:Bool→Xj Z3→Xj Z3→Prop
 |pure {mk} (f):Sim mk (.pure f) (.pure f)
 |raise {mk} (e):Sim mk (.raise e) (.raise e)
 |unsupported {mk t₀} (w):Sim mk t₀ (.unsupported w)
 |finish {mk t₀} (w):Sim mk t₀ (.finish w)
 |rule {mk k k'} (tag tag'):Sim mk (k ()) (k' ())→Sim mk (.rule tag k) (.rule tag' k')
 |ruleL {mk k t} (tag):Sim mk (k ()) t→Sim mk (.rule tag k) t
 |«at» {mk k k'} (q):Sim mk (k ()) (k' ())→Sim mk (.at q k) (.at q k')
 |load {mk k k'} (a part part'):(∀o,Sim mk (k o) (k' o))→Sim mk (.load a part k) (.load a part' k')
 |update {mk k k'} (a part part' f):Sim mk (k ()) (k' ())→Sim mk (.update a part f k) (.update a part' f k')
 |alloc {mk k k'} (o):(∀a,Sim mk (k a) (k' a))→Sim mk (.alloc o k) (.alloc o k')
 |loadIfAlive {mk k k'} (a):(∀o,Sim mk (k o) (k' o))→Sim mk (.loadIfAlive a k) (.loadIfAlive a k')
 |point {mk k k'} (l l'):Sim mk (k ()) (k' ())→Sim mk (.point l k) (.point l' k')
 |pointL {mk k t} (l):Sim mk (k ()) t→Sim mk (.point l k) t
 |register {mk t₀ k} (a):Sim mk t₀ (.register a k)
 |fresh {mk k k'}:(∀a,Sim mk (k a) (k' a))→Sim mk (.fresh k) (.fresh k')
 |ask {mk k k'}:(∀s,Sim mk (k s) (k' s))→Sim mk (.ask k) (.ask k')
 |choose {mk t₀ k} (s n):Sim mk t₀ (.choose s n k)
 |os {mk t₀ k} (s n):Sim mk t₀ (.os s n k)
 |call {mk k k'} (c hd gd gd' l l'):(∀r,Sim mk (k r) (k' r))→Sim mk (.call c hd gd l k) (.call c hd gd' l' k')
 |handled {mk k k'} (own):(∀r,Sim mk (k r) (k' r))→Sim mk (.handled own k) (.handled own k')
 |newGen {mk t₀ k} (s):Sim mk t₀ (.newGen s k)
 |genState {mk t₀ k} (s):Sim mk t₀ (.genState s k)
 |resume {mk t₀ k} (a b c):Sim mk t₀ (.resume a b c k)
 |yield {mk t₀ k} (a b c):Sim mk t₀ (.yield a b c k)
 |stack {mk k k'}:(∀r,Sim mk (k r) (k' r))→Sim mk (.stack k) (.stack k')
 |stackC {t k}:(∀L,Mj L→Sim true (k L) t)→Sim true (.stack k) t
 |fork {mk t₀ k} (s):Sim mk t₀ (.fork s k)
 |thread {mk k k'}:Sim mk (k 0) (k' 0)→Sim mk (.thread k) (.thread k')
 |awaitF {t₀ k} (a take timed live):Sim false t₀ (.await a take timed live k)
 |awaitNo {t₀ k} (a take timed):Sim true t₀ (.await a take timed [] k)
 |claim {t₀ k} (a x take timed u ls):(a=x→Sim true t₀ (k true))→Sim true t₀ (.await a take timed (.int (Zo x) u::ls) k)
 |cond {t₀ k} (a c take timed ls):(∀b,c=b→Sim true t₀ (k b))→Sim true t₀ (.await a take timed (.bool c::ls) k)
theorem Sim.refl(t:Xj Z3):Sim false t t:=by
 induction t with
 |pure f=>exact .pure f
 |raise e=>exact .raise e
 |unsupported=>exact .unsupported _
 |finish=>exact .finish _
 |rule tag k kih=>exact .rule _ _ (kih ())
 |«at» q k kih=>exact .at _ (kih ())
 |load a part k kih=>exact .load _ _ _ kih
 |update a part f k kih=>exact .update _ _ _ _ (kih ())
 |alloc o k kih=>exact .alloc _ kih
 |loadIfAlive a k kih=>exact .loadIfAlive _ kih
 |point l k kih=>exact .point _ _ (kih ())
 |register=>exact .register _
 |fresh k kih=>exact .fresh kih
 |ask k kih=>exact .ask kih
 |choose=>exact .choose _ _
 |os=>exact .os _ _
 |call c hd gd l k kih=>exact .call _ _ _ _ _ _ kih
 |handled own k kih=>exact .handled _ kih
 |newGen=>exact .newGen _
 |genState=>exact .genState _
 |resume=>exact .resume _ _ _
 |yield=>exact .yield _ _ _
 |stack k kih=>exact .stack kih
 |fork=>exact .fork _
 |thread k kih=>exact .thread (kih 0)
 |await=>exact .awaitF _ _ _ _
theorem oF{g:Cfg}{a:Z9}{T:HT}{A:List Claim}{H:Hn}{k:Obj→Nat→List Claim→Hn→Q}{l:Leaf}(e:(CA g a T A H k).leaf=some l):
  ∃j H' o,T.getK (j+1)=some o∧(k o j (.eq a (g.rho j)::A) H').leaf=some l:=by
 cases H with
 |nil=>cases e
 |fork x y=>cases e
 |orc i r=>cases e
 |ld j H'=>
  cases j with
  |zero=>cases e
  |succ j=>
   have e':(@Xu Obj (fun _=>Q) .no (fun o=>k o j (.eq a (g.rho j)::A) H') (T.getK (j+1))).leaf=some l:=e
   cases ho:T.getK (j+1) with
   |none=>rw[ho]at e';cases e'
   |some o=>rw[ho]at e';exact⟨j,H',o,ho,e'⟩
theorem iP{g:Cfg}{a:Z9}{T:HT}{A:List Claim}{H:Hn}{k:Obj→List Claim→Hn→Q}{l:Leaf}(e:(zB g a T A H k).leaf=some l):
  ∃H' o xs,(k o (xs++A) H').leaf=some l∧(∀M st,o1 M st xs→∀h c,Rep g h T c→h.get? a=some o):=by
 cases H with
 |nil=>cases e
 |fork x y=>cases e
 |orc i r=>cases e
 |ld j H'=>
  cases j with
  |zero=>
   have e':(@Xu Obj (fun _=>Q) .no (fun o=>k o A H') (g.S.getK (a+1))).leaf=some l:=e
   cases ho:g.S.getK (a+1) with
   |none=>rw[ho]at e';cases e'
   |some o=>rw[ho]at e';exact⟨H',o,[],e',fun _ _ _ h c R=>R.still a o ho⟩
  |succ j=>
   have e':(@Xu Obj (fun _=>Q) .no (fun o=>k o (.eq a (g.rho j)::A) H') (T.getK (j+1))).leaf=some l:=e
   cases ho:T.getK (j+1) with
   |none=>rw[ho]at e';cases e'
   |some o=>
    rw[ho]at e'
    refine⟨H',o,[.eq a (g.rho j)],e',fun M st S h c R=>?_⟩
    have:a=g.rho j:=S (.eq a (g.rho j)) (by simp)
    rw[this];exact(R.at_ _ _ ho).2
theorem fK{c:Bool}{A:List Claim}{H:Hn}{k:Bool→List Claim→Hn→Q}{l:Leaf}(e:(jH c A H k).leaf=some l):
  ∃b H' xs,(k b (xs++A) H').leaf=some l∧(c=b∨xs=[.tr c b]):=by
 cases H with
 |nil=>cases e
 |orc i r=>cases e
 |fork x y=>
  have e':(bif c then (k true A x).leaf else (k false A y).leaf)=some l:=e
  cases c with
  |true=>exact⟨true,x,[],e',.inl rfl⟩
  |false=>exact⟨false,y,[],e',.inl rfl⟩
 |ld j H'=>
  match j with
  |0=>
   cases c with
   |true=>exact⟨true,H',[],e,.inl rfl⟩
   |false=>exact⟨false,H',[],e,.inl rfl⟩
  |1=>exact⟨true,H',[.tr c true],e,.inr rfl⟩
  |2=>exact⟨false,H',[.tr c false],e,.inr rfl⟩
  |n+3=>exact⟨c,H',[],e,.inl rfl⟩
theorem Rep.put{g:Cfg}{h:Xh}{T:HT}{c:Nat}(H:Rep g h T c){j:Nat}{o:Obj}{f:Obj→Obj}(e:T.getK (j+1)=some o)(hf:(f o).isFreed=false):
  Rep g (h.update (g.rho j) f) (T.putK (j+1) (f o)) c∧Kept2 g T h (T.putK (j+1) (f o)) (h.update (g.rho j) f)∧h.objs.size≤(h.update (g.rho j) f).objs.size:=by
 obtain⟨hB,ho⟩:=H.at_ j o e
 have hs:(h.update (g.rho j) f).objs.size=h.objs.size:=(Heap.SameBut.update (a:=g.rho j) (h:=h) (f:=f) |>.1)
 have key:∀k o',(T.putK (j+1) (f o)).getK (k+1)=some o'→(k=j∧o'=f o)∨(k≠j∧T.getK (k+1)=some o'):=fun k o' hk=>by
  by_cases q:k=j
  ·subst q
   rcases HT.put_self (f o) T (k+1) with z|z
   ·rw[z]at hk;cases hk;exact .inl ⟨rfl,rfl⟩
   ·rw[z]at hk;cases hk
  ·rw[HT.put_ne _ _ _ _ (by omega) (by omega) (by omega)]at hk
   exact .inr ⟨q,hk⟩
 have live:∀k o',(T.putK (j+1) (f o)).getK (k+1)=some o'→∃o'',T.getK (k+1)=some o'':=fun k o' hk=>by
  rcases key k o' hk with ⟨rfl,_⟩|⟨_,hk'⟩
  ·exact⟨o,e⟩
  ·exact⟨o',hk'⟩
 refine⟨⟨hs.trans H.size,hs▸H.big,fun a o' ha=>(X0 _ _ _ _ (Zw (Zr (H.under a o' ha) hB))).trans (H.still a o' ha),H.under,fun k o' hk=>?_,fun i k o' o'' hi hk hr=>?_,fun x hx=>⟨(X0 _ _ _ _ (fun z=>(H.ghost x hx).2 _ _ e z.symm)).trans (H.ghost x hx).1,fun k o' hk=>?_⟩⟩,
  fun b hb hn=>⟨fun k o' hk=>?_,fun o' hb'=>?_⟩,Nat.le_of_eq hs.symm⟩
 ·rcases key k o' hk with ⟨rfl,rfl⟩|⟨q,hk'⟩
  ·exact⟨hB,Heap.get?_update_self _ ho hf⟩
  ·obtain⟨a,b⟩:=H.at_ k o' hk'
   exact⟨a,(X0 _ _ _ _ (fun z=>q (H.inj _ _ _ _ hk' e z))).trans b⟩
 ·obtain⟨x,hx⟩:=live i o' hi
  obtain⟨y,hy⟩:=live k o'' hk
  exact H.inj _ _ _ _ hx hy hr
 ·obtain⟨y,hy⟩:=live k o' hk
  exact(H.ghost x hx).2 _ _ hy
 ·obtain⟨x,hx⟩:=live k o' hk
  exact hn _ _ hx
 ·exact(X0 _ _ _ _ (fun z=>hn _ _ e z.symm)).trans hb'
theorem Rep.push{g:Cfg}{h:Xh}{T:HT}{c:Nat}(hc:g.rho (c+1)=Nat.succ (g.rho c))(hG:g.G (c+1)=g.G c)(H:Rep g h T c){o:Obj}(hf:o.isFreed=false):
  Rep g (h.push o) (T.putK (c+1) o) (c+1)∧Kept2 g T h (T.putK (c+1) o) (h.push o)∧h.objs.size≤(h.push o).objs.size:=by
 have key:∀k o',(T.putK (c+1) o).getK (k+1)=some o'→(k=c∧o'=o)∨(k≠c∧T.getK (k+1)=some o'):=fun k o' hk=>by
  by_cases q:k=c
  ·subst q
   rcases HT.put_self o T (k+1) with z|z
   ·rw[z]at hk;cases hk;exact .inl ⟨rfl,rfl⟩
   ·rw[z]at hk;cases hk
  ·rw[HT.put_ne _ _ _ _ (by omega) (by omega) (by omega)]at hk
   exact .inr ⟨q,hk⟩
 have hs:(h.push o).objs.size=h.objs.size+1:=Heap.size_push _ _
 have old:∀k o',T.getK (k+1)=some o'→g.rho k<g.rho c:=fun k o' hk=>H.size▸Qa (H.at_ k o' hk).2
 refine⟨⟨hs.trans (by rw[H.size,hc]),hs▸Nat.le_succ_of_le H.big,fun a o' ha=>Qo _ (H.still a o' ha),H.under,fun k o' hk=>?_,fun i k o' o'' hi hk hr=>?_,fun x hx=>?_⟩,
  fun b hb hn=>⟨fun k o' hk=>?_,fun o' hb'=>Qo _ hb'⟩,hs▸Nat.le_succ _⟩
 ·rcases key k o' hk with ⟨rfl,rfl⟩|⟨q,hk'⟩
  ·refine⟨H.size▸H.big,?_⟩
   rw[←H.size];exact Heap.get?_push_size _ hf
  ·obtain⟨a,b⟩:=H.at_ k o' hk'
   exact⟨a,Qo _ b⟩
 ·rcases key i o' hi with ⟨rfl,_⟩|⟨_,hi'⟩<;>rcases key k o'' hk with ⟨rfl,_⟩|⟨_,hk'⟩
  ·rfl
  ·have:=old k o'' hk';omega
  ·have:=old i o' hi';omega
  ·exact H.inj _ _ _ _ hi' hk' hr
 ·rw[hG]at hx
  obtain⟨x1,x2⟩:=H.ghost x hx
  refine⟨Qo _ x1,fun k o' hk=>?_⟩
  rcases key k o' hk with ⟨rfl,rfl⟩|⟨q,hk'⟩
  ·intro z;have h1:=Qa x1;rw[H.size,←z]at h1;exact Zz _ h1
  ·exact x2 _ _ hk'
 ·rcases key k o' hk with ⟨rfl,rfl⟩|⟨q,hk'⟩
  ·intro z;rw[H.size,←z]at hb;exact Zz _ hb
  ·exact hn _ _ hk'
theorem Kept2.refl(g:Cfg)(T:HT)(h:Xh):Kept2 g T h T h:=fun _ _ hn=>⟨hn,fun _ x=>x⟩
theorem Kept2.trans{g:Cfg}{T T' T'':HT}{h h' h'':Xh}(a:Kept2 g T h T' h')(hs:h.objs.size≤h'.objs.size)(b:Kept2 g T' h' T'' h''):Kept2 g T h T'' h'':=fun x hx hn=>
 let ⟨p,q⟩:=a x hx hn
 let ⟨r,s⟩:=b x (Zr hx hs) p
 ⟨r,fun o ho=>s o (q o ho)⟩
theorem SOut.mono{M:Model}{g:Cfg}{Γ Γ':Ctx}{t t':Xj Z3}{p p':Pos}{T:HT}{c tk:Nat}{A:List Claim}{xs:List Claim}{l:Leaf}(H:SOut M g Γ' t' p' T c tk (xs++A) l)
  (step:o1 M g.st l.A→o1 M g.st xs→∀h gs d os,Rep g h T c→∀h',Xg M Γ' p' t' [] ⟨h,gs,d,g.tok tk,os⟩ (.ret l.r) ⟨h',gs,d,g.tok l.tk,os⟩→Xg M Γ p t [] ⟨h,gs,d,g.tok tk,os⟩ (.ret l.r) ⟨h',gs,d,g.tok l.tk,os⟩):
  SOut M g Γ t p T c tk A l:=by
 obtain⟨⟨ys,e⟩,K⟩:=H
 refine⟨⟨ys++xs,by rw[e,Qs]⟩,fun S h gs d os R=>?_⟩
 obtain⟨h',a,b⟩:=K S h gs d os R
 exact⟨h',step S (fun x hx=>S x (by rw[e];simp[hx])) h gs d os R h' a,b⟩
def ny(f:lX):Prop:=∀Γ cd p T c tk A H l,(f Γ cd p T c tk A H).leaf=some l→∃xs,l.A=xs++A
theorem iq(g:Cfg)(ih:lX)(hih:ny ih)(t:Xj Z3):∀mk Γ p T c tk A H l,(dE t mk ih g Γ p T c tk A H).leaf=some l→∃xs,l.A=xs++A:=by
 have cut:∀{x:List Claim} {A:List Claim} {l:Leaf},(∃xs,l.A=xs++(x++A))→∃xs,l.A=xs++A:=fun ⟨xs,a⟩=>⟨xs++_,by rw[a,Qs]⟩
 have one:∀{x:Claim} {A:List Claim} {l:Leaf},(∃xs,l.A=xs++(x::A))→∃xs,l.A=xs++A:=fun h=>cut (x:=[_]) h
 induction t with
 |pure fin=>
  intro mk Γ p T c tk A H l e
  cases fin with
  |done f=>
   have e':some (⟨.ok f,T,c,tk,A,H⟩:Leaf)=some l:=e
   cases e'
   exact⟨[],rfl⟩
  |again cd=>
   have e':(@Xp (fun _=>Q) .no (ih (Γ.goto cd) cd p T c tk A H) (fC cd)).leaf=some l:=e
   cases q:fC cd with
   |false=>rw[q]at e';cases e'
   |true=>rw[q]at e';exact hih _ _ _ _ _ _ _ _ _ e'
 |raise v=>
  intro mk Γ p T c tk A H l e
  have e':some (⟨.error v,T,c,tk,A,H⟩:Leaf)=some l:=e
  cases e'
  exact⟨[],rfl⟩
 |unsupported|finish|register|choose|os|newGen|genState|resume|yield|fork=>intro mk Γ p T c tk A H l e;cases e
 |rule tag k kih=>intro mk Γ p T c tk A H l e;exact kih () mk Γ p T c tk A H l e
 |«at» q k kih=>intro mk Γ p T c tk A H l e;exact kih () mk Γ q T c tk A H l e
 |point l k kih=>intro mk Γ p T c tk A H l e;exact kih () mk Γ p T c tk A H l e
 |thread k kih=>intro mk Γ p T c tk A H l e;exact kih 0 mk Γ p T c tk A H l e
 |stack k kih=>intro mk Γ p T c tk A H l e;exact kih _ mk Γ p T c tk A H l e
 |handled own k kih=>intro mk Γ p T c tk A H l e;exact kih _ mk Γ p T c tk A H l e
 |ask k kih=>intro mk Γ p T c tk A H l e;exact one (kih g.st mk Γ p T c tk _ H l e)
 |load a part k kih=>
  intro mk Γ p T c tk A H l e
  obtain⟨H',o,xs,e',_⟩:=iP (k:=fun o A H=>dE (k o) mk ih g Γ p T c tk A H) e
  exact cut (kih o mk Γ p T c tk _ H' l e')
 |loadIfAlive a k kih=>
  intro mk Γ p T c tk A H l e
  obtain⟨H',o,xs,e',_⟩:=iP (k:=fun o A H=>dE (k (some o)) mk ih g Γ p T c tk A H) e
  exact cut (kih (some o) mk Γ p T c tk _ H' l e')
 |update a part f k kih=>
  intro mk Γ p T c tk A H l e
  obtain⟨j,H',o,ho,e'⟩:=oF (k:=fun o j A H=>@Xp (fun _=>Q) (dE (k ()) mk ih g Γ p (T.putK (Zd j 1) (f o)) c tk A H) .no (f o).isFreed) e
  skip
  cases hf:(f o).isFreed with
  |true=>rw[hf]at e';cases e'
  |false=>rw[hf]at e';exact one (kih () mk Γ p _ c tk _ H' l e')
 |alloc o k kih=>
  intro mk Γ p T c tk A H l e
  have e':(@Xp (fun _=>Q) (dE (k (g.rho c)) mk ih g Γ p (T.putK (c+1) o) (c+1) tk (.gl (g.G (c+1)) (g.G c)::.eq (g.rho (c+1)) (Nat.succ (g.rho c))::A) H) .no o.isFreed).leaf=some l:=e
  cases hf:o.isFreed with
  |true=>rw[hf]at e';cases e'
  |false=>rw[hf]at e';exact one (one (kih (g.rho c) mk Γ p _ (c+1) tk _ H l e'))
 |fresh k kih=>intro mk Γ p T c tk A H l e;exact one (kih _ mk Γ p T c (tk+1) _ H l e)
 |call cd hd gd lv k kih=>
  intro mk Γ p T c tk A H l e
  have e':(Q.andThen (ih (Γ.enter cd hd p) cd p T c tk A H) fun r T c tk A H=>dE (k r) mk ih g Γ p T c tk A H).leaf=some l:=e
  rw[Q.leaf_andThen]at e'
  cases hl:(ih (Γ.enter cd hd p) cd p T c tk A H).leaf with
  |none=>rw[hl]at e';cases e'
  |some m=>
   rw[hl]at e'
   obtain⟨ys,ey⟩:=hih _ _ _ _ _ _ _ _ _ hl
   obtain⟨zs,ez⟩:=kih m.r mk Γ p m.T m.c m.tk m.A m.H l e'
   exact⟨zs++ys,by rw[ez,ey,Qs]⟩
 |await a take timed live k kih=>
  intro mk Γ p T c tk A H l e
  cases mk with
  |false=>cases e
  |true=>
   cases live with
   |nil=>cases e
   |cons v ls=>
    cases v with
    |int x u=>
     cases x with
     |ofNat n=>exact one (kih true true Γ p T c tk _ H l e)
     |negSucc n=>cases e
    |bool b=>
     obtain⟨b',H',xs,e',_⟩:=fK (k:=fun b A H=>dE (k b) true ih g Γ p T c tk A H) e
     exact cut (kih b' true Γ p T c tk _ H' l e')
    |_=>cases e
def iB(O:i7):Prop:=∀i g Γ cd T c tk A H l,(O i g Γ cd T c tk A H).leaf=some l→∃xs,l.A=xs++A
theorem ox(W:Xo→WT)(O:i7)(hO:iB O)(g:Cfg):∀N,ny (se W O g N)
 |0=>fun _ _ _ _ _ _ _ _ _ e=>by cases e
 |N+1=>fun Γ cd p T c tk A H l e=>by
  cases H with
  |orc i r=>
   have e':(@Xp (fun _=>Q) (O i g Γ cd T c tk A r) (dE (W cd).2 (W cd).1 (se W O g N) g Γ p T c tk A (.orc (Nat.sub i 2000) r)) (Zn 2000 i)).leaf=some l:=e
   cases hb:Zn 2000 i with
   |false=>rw[hb]at e';exact hO i g Γ cd T c tk A r l e'
   |true=>rw[hb]at e';exact iq g _ (ox W O hO g N) (W cd).2 (W cd).1 Γ p T c tk A _ l e'
  |nil|ld|fork=>exact iq g _ (ox W O hO g N) (W cd).2 (W cd).1 Γ p T c tk A _ l e
theorem pX(M:Model)(g:Cfg)(ih:lX)(him:ny ih)(N:Nat)(hih:xK M g N ih){mk:Bool}{t₀ t:Xj Z3}(hs:Sim mk t₀ t):∀Γ p T c tk A H l,
  LimU Γ (N+1)→(dE t mk ih g Γ p T c tk A H).leaf=some l→SOut M g Γ t₀ p T c tk A l:=by
 induction hs with
 |pure fin=>
  intro Γ p T c tk A H l hL e
  cases fin with
  |done f=>
   have e':some (⟨.ok f,T,c,tk,A,H⟩:Leaf)=some l:=e
   cases e'
   exact⟨⟨[],rfl⟩,fun _ h gs d os R=>⟨h,.done,R,.refl _ _ _,rfl,Zm _⟩⟩
  |again cd=>
   have e':(@Xp (fun _=>Q) .no (ih (Γ.goto cd) cd p T c tk A H) (fC cd)).leaf=some l:=e
   cases q:fC cd with
   |false=>rw[q]at e';cases e'
   |true=>
    rw[q]at e'
    exact SOut.mono (xs:=[]) (hih (Γ.goto cd) cd p T c tk A H l rfl (hL.goto cd) e') fun _ _ h gs d os _ h' r=>.again (uO q) r
 |raise v=>
  intro Γ p T c tk A H l hL e
  have e':some (⟨.error v,T,c,tk,A,H⟩:Leaf)=some l:=e
  cases e'
  exact⟨⟨[],rfl⟩,fun _ h gs d os R=>⟨h,.raise,R,.refl _ _ _,rfl,Zm _⟩⟩
 |unsupported|finish|register|choose|os|newGen|genState|resume|yield|fork|awaitF|awaitNo=>intro Γ p T c tk A H l hL e;cases e
 |rule tag tag' _ kih=>intro Γ p T c tk A H l hL e;exact SOut.mono (xs:=[]) (kih Γ p T c tk A H l hL e) fun _ _ h gs d os _ h' r=>.rule r
 |ruleL tag _ kih=>intro Γ p T c tk A H l hL e;exact SOut.mono (xs:=[]) (kih Γ p T c tk A H l hL e) fun _ _ h gs d os _ h' r=>.rule r
 |«at» q _ kih=>intro Γ p T c tk A H l hL e;exact SOut.mono (xs:=[]) (kih Γ q T c tk A H l hL e) fun _ _ h gs d os _ h' r=>.at r
 |point l l' _ kih=>intro Γ p T c tk A H l hL e;exact SOut.mono (xs:=[]) (kih Γ p T c tk A H l hL e) fun _ _ h gs d os _ h' r=>.point r
 |pointL l _ kih=>intro Γ p T c tk A H l hL e;exact SOut.mono (xs:=[]) (kih Γ p T c tk A H l hL e) fun _ _ h gs d os _ h' r=>.point r
 |thread _ kih=>intro Γ p T c tk A H l hL e;exact SOut.mono (xs:=[]) (kih Γ p T c tk A H l hL e) fun _ _ h gs d os _ h' r=>.thread r
 |stack _ kih=>intro Γ p T c tk A H l hL e;exact SOut.mono (xs:=[]) (kih _ Γ p T c tk A H l hL e) fun _ _ h gs d os _ h' r=>.stack r
 |stackC _ kih=>intro Γ p T c tk A H l hL e;exact SOut.mono (xs:=[]) (kih _ (hL.few p) Γ p T c tk A H l hL e) fun _ _ h gs d os _ h' r=>.stack r
 |handled own _ kih=>
  intro Γ p T c tk A H l hL e
  refine SOut.mono (xs:=[]) (kih _ Γ p T c tk A H l hL e) fun _ _ h gs d os _ h' r=>.handled ?_
  cases own<;>exact r
 |ask _ kih=>
  rename_i mk k k' _
  intro Γ p T c tk A H l hL e
  have e':(dE (k' g.st) mk ih g Γ p T c tk (.ask k'::A) H).leaf=some l:=e
  obtain⟨xs,ex⟩:=iq g ih him (k' g.st) mk Γ p T c tk _ H l e'
  refine⟨⟨xs++[.ask k'],by rw[ex,Qs];rfl⟩,fun S h gs d os R=>?_⟩
  have q:k' ⟨M.prog,M.w.params⟩=k' g.st:=S (.ask k') (by rw[ex];simp)
  rw[←q]at e'
  obtain⟨h',a1,a2⟩:=(kih ⟨M.prog,M.w.params⟩ Γ p T c tk _ H l hL e').2 S h gs d os R
  exact⟨h',.ask a1,a2⟩
 |load a part part' _ kih=>
  rename_i mk _ k' _
  intro Γ p T c tk A H l hL e
  obtain⟨H',o,xs,e',ho⟩:=iP (k:=fun o A H=>dE (k' o) mk ih g Γ p T c tk A H) e
  exact SOut.mono (xs:=xs) (kih o Γ p T c tk _ H' l hL e') fun _ hx h gs d os R h' r=>.load (ho _ _ hx h c R) r
 |loadIfAlive a _ kih=>
  rename_i mk _ k' _
  intro Γ p T c tk A H l hL e
  obtain⟨H',o,xs,e',ho⟩:=iP (k:=fun o A H=>dE (k' (some o)) mk ih g Γ p T c tk A H) e
  refine SOut.mono (xs:=xs) (kih (some o) Γ p T c tk _ H' l hL e') fun _ hx h gs d os R h' r=>.loadIfAlive ?_
  rw[show (Shared.heap ⟨h,gs,d,g.tok tk,os⟩).get? a=some o from ho _ _ hx h c R];exact r
 |update a part part' f _ kih=>
  rename_i mk _ k' _
  intro Γ p T c tk A H l hL e
  obtain⟨j,H',o,ho,e'⟩:=oF (k:=fun o j A H=>@Xp (fun _=>Q) (dE (k' ()) mk ih g Γ p (T.putK (Zd j 1) (f o)) c tk A H) .no (f o).isFreed) e
  skip
  cases hf:(f o).isFreed with
  |true=>rw[hf]at e';cases e'
  |false=>
   rw[hf]at e'
   obtain⟨⟨ys,ey⟩,K⟩:=kih Γ p _ c tk _ H' l hL e'
   refine⟨⟨ys++[.eq a (g.rho j)],by rw[ey,Qs];rfl⟩,fun S h gs d os R=>?_⟩
   obtain⟨R1,R2,R3⟩:=R.put ho hf
   have ea:a=g.rho j:=S (.eq a (g.rho j)) (by rw[ey];simp)
   obtain⟨h',a1,a2,a3,a4,a5⟩:=K S (h.update (g.rho j) f) gs d os R1
   refine⟨h',.update ?_ ?_,a2,R2.trans R3 a3,a4.trans (by cases h;rfl),Zu R3 a5⟩
   ·rw[ea,show (Shared.heap ⟨h,gs,d,g.tok tk,os⟩).get? (g.rho j)=some o from (R.at_ _ _ ho).2];rfl
   ·rw[ea];exact a1
 |alloc o _ kih=>
  rename_i mk k k' _
  intro Γ p T c tk A H l hL e
  have e':(@Xp (fun _=>Q) (dE (k' (g.rho c)) mk ih g Γ p (T.putK (c+1) o) (c+1) tk (.gl (g.G (c+1)) (g.G c)::.eq (g.rho (c+1)) (Nat.succ (g.rho c))::A) H) .no o.isFreed).leaf=some l:=e
  cases hf:o.isFreed with
  |true=>rw[hf]at e';cases e'
  |false=>
   rw[hf]at e'
   obtain⟨⟨ys,ey⟩,K⟩:=kih (g.rho c) Γ p _ (c+1) tk _ H l hL e'
   refine⟨⟨ys++[.gl (g.G (c+1)) (g.G c),.eq (g.rho (c+1)) (Nat.succ (g.rho c))],by rw[ey,Qs];rfl⟩,fun S h gs d os R=>?_⟩
   obtain⟨R1,R2,R3⟩:=R.push (S (.eq (g.rho (c+1)) (Nat.succ (g.rho c))) (by rw[ey];simp)) (S (.gl (g.G (c+1)) (g.G c)) (by rw[ey];simp)) hf
   obtain⟨h',a1,a2,a3,a4,a5⟩:=K S (h.push o) gs d os R1
   refine⟨h',.alloc ?_,a2,R2.trans R3 a3,a4.trans (by cases h;rfl),Zu R3 a5⟩
   rw[show (Shared.heap ⟨h,gs,d,g.tok tk,os⟩).objs.size=g.rho c from R.size];exact a1
 |fresh _ kih=>
  rename_i mk k k' _
  intro Γ p T c tk A H l hL e
  have e':(dE (k' (g.tok tk)) mk ih g Γ p T c (tk+1) (.eq (g.tok (tk+1)) (Nat.succ (g.tok tk))::A) H).leaf=some l:=e
  obtain⟨⟨ys,ey⟩,K⟩:=kih (g.tok tk) Γ p T c (tk+1) _ H l hL e'
  refine⟨⟨ys++[.eq (g.tok (tk+1)) (Nat.succ (g.tok tk))],by rw[ey,Qs];rfl⟩,fun S h gs d os R=>?_⟩
  obtain⟨h',a1,a2⟩:=K S h gs d os R
  have q:g.tok (tk+1)=g.tok tk+1:=S (.eq (g.tok (tk+1)) (Nat.succ (g.tok tk))) (by rw[ey];simp)
  rw[q]at a1
  exact⟨h',.fresh a1,a2⟩
 |call cd hd gd gd' l₁ l₂ _ kih=>
  intro Γ p T c tk A H l hL e
  rename_i mk k k' _
  have e':(Q.andThen (ih (Γ.enter cd hd p) cd p T c tk A H) fun r T c tk A H=>dE (k' r) mk ih g Γ p T c tk A H).leaf=some l:=e
  rw[Q.leaf_andThen]at e'
  cases hl:(ih (Γ.enter cd hd p) cd p T c tk A H).leaf with
  |none=>rw[hl]at e';cases e'
  |some m=>
   rw[hl]at e'
   obtain⟨⟨ys₁,ey₁⟩,K₁⟩:=hih (Γ.enter cd hd p) cd p T c tk A H m rfl (hL.enter cd hd p) hl
   obtain⟨⟨ys,ey⟩,K⟩:=kih m.r Γ p m.T m.c m.tk m.A m.H l hL e'
   refine⟨⟨ys++ys₁,by rw[ey,ey₁,Qs]⟩,fun S h gs d os R=>?_⟩
   obtain⟨h₁,a1,a2,a3,a4,a5⟩:=K₁ (fun x hx=>S x (by rw[ey];exact Qr _ hx)) h gs d os R
   obtain⟨h',b1,b2,b3,b4,b5⟩:=K S h₁ gs d os a2
   exact⟨h',.call a1 b1,b2,a3.trans a5 b3,b4.trans a4,Zu a5 b5⟩
 |claim a x take timed u ls _ kih=>
  rename_i k _
  intro Γ p T c tk A H l hL e
  have e':(dE (k true) true ih g Γ p T c tk (.eq a x::A) H).leaf=some l:=e
  obtain⟨xs,ex⟩:=iq g ih him (k true) true Γ p T c tk _ H l e'
  refine⟨⟨xs++[.eq a x],by rw[ex,Qs];rfl⟩,fun S=>?_⟩
  have:a=x:=S (.eq a x) (by rw[ex];simp)
  exact(kih this Γ p T c tk _ H l hL e').2 S
 |cond a c take timed ls _ kih=>
  rename_i k _
  intro Γ p T c' tk A H l hL e
  obtain⟨b,H',xs,e',hb⟩:=fK (k:=fun b A H=>dE (k b) true ih g Γ p T c' tk A H) e
  obtain⟨ys,ey⟩:=iq g ih him (k b) true Γ p T c' tk _ H' l e'
  refine⟨⟨ys++xs,by rw[ey,Qs]⟩,fun S=>?_⟩
  have:c=b:=hb.elim id fun z=>S (.tr c b) (by rw[ey,z];simp)
  exact(kih b this Γ p T c' tk _ H' l hL e').2 S
def tL(M:Model)(W:Xo→WT):Prop:=∀cd,Sim (W cd).1 (M.den cd) (W cd).2
def kX(M:Model)(g:Cfg)(L:Nat)(O:i7):Prop:=
 ∀i Γ cd p T c tk A H l,Γ.code=cd→LimU Γ L→(O i g Γ cd T c tk A H).leaf=some l→SOut M g Γ (M.den cd) p T c tk A l
theorem oV(M:Model)(g:Cfg)(W:Xo→WT)(hW:tL M W)(O:i7)(hO:iB O)(L:Nat)(hOk:kX M g L O):∀N,xK M g (N+L) (se W O g N)
 |0=>fun _ _ _ _ _ _ _ _ _ _ _ e=>by cases e
 |N+1=>fun Γ cd p T c tk A H l hΓ hL e=>by
  cases H with
  |orc i r=>
   have e':(@Xp (fun _=>Q) (O i g Γ cd T c tk A r) (dE (W cd).2 (W cd).1 (se W O g N) g Γ p T c tk A (.orc (Nat.sub i 2000) r)) (Zn 2000 i)).leaf=some l:=e
   cases hb:Zn 2000 i with
   |false=>rw[hb]at e';exact hOk i Γ cd p T c tk A r l hΓ (by unfold LimU at hL ⊢;omega) e'
   |true=>rw[hb]at e';exact pX M g _ (ox W O hO g N) (N+L) (oV M g W hW O hO L hOk N) (hW cd) Γ p T c tk A _ l (by rwa [Nat.add_right_comm]at hL) e'
  |nil|ld|fork=>exact pX M g _ (ox W O hO g N) (N+L) (oV M g W hW O hO L hOk N) (hW cd) Γ p T c tk A _ l (by rwa [Nat.add_right_comm]at hL) e
noncomputable def Claim.twice:Claim→Claim
 |.eq _ b=>.eq b b
 |.tr c b=>.tr c b
 |.ask k=>.ask k
 |.code _ b=>.code b b
 |.obj _ b=>.obj b b
 |.gl _ b=>.gl b b
 |.bel _ b=>.bel b b
theorem vI{A:List Claim}(e:A=A.map Claim.twice):∀x∈A,x=x.twice:=by
 induction A with
 |nil=>intro x h;cases h
 |cons y xs ih=>
  intro x h
  simp only[List.map_cons,List.cons.injEq]at e
  rcases Qt.mp h with h|h
  ·rw[h];exact e.1
  ·exact ih e.2 x h
noncomputable def condsOf:List Claim→List (Bool×Bool)
 |[]=>[]
 |.tr c b::A=>(c,b)::condsOf A
 |_::A=>condsOf A
theorem AJ{A:List Claim}{c b:Bool}(h:Claim.tr c b∈A):(c,b)∈condsOf A:=by
 induction A with
 |nil=>cases h
 |cons x xs ih=>
  rcases Qt.mp h with h'|h'
  ·subst h';exact List.mem_cons_self
  ·clear h
   cases x<;>first|exact ih h'|exact Qp _ (ih h')
noncomputable def hV(st:Xe):List Claim→List (Xj Z3)
 |[]=>[]
 |.ask k::A=>k st::hV st A
 |_::A=>hV st A
theorem DW{A:List Claim}{s₁ s₂:Xe}(e:hV s₁ A=hV s₂ A){k:Xe→Xj Z3}(h:Claim.ask k∈A):k s₁=k s₂:=by
 induction A with
 |nil=>cases h
 |cons x xs ih=>
  rcases Qt.mp h with h'|h'
  ·subst h';exact(List.cons.inj e).1
  ·clear h
   cases x<;>first|exact ih e h'|exact ih (List.cons.inj e).2 h'
theorem tN{M:Model}{A:List Claim}{st st₂:Xe}(h1:A=A.map Claim.twice)(h2:∀x∈condsOf A,x.1=x.2)(h3:hV st₂ A=hV st A)
  (hst:(⟨M.prog,M.w.params⟩:Xe)=st∨(⟨M.prog,M.w.params⟩:Xe)=st₂):o1 M st A:=by
 intro x hx
 have tw:=vI h1 x hx
 cases x with
 |eq a b=>injection tw
 |tr c b=>exact h2 _ (AJ hx)
 |ask k=>
  rcases hst with e|e
  ·exact congrArg k e
  ·exact(congrArg k e).trans (DW h3 hx)
 |code a b=>injection tw
 |obj a b=>injection tw
 |gl a b=>injection tw
 |bel a b=>injection tw
def sq{α:Type}(m:Xj α)(f:α→Xj Z3):Xj Z3:=
 Sem.rec (motive:=fun _=>Xj Z3) (pure:=f) (raise:=fun _=>.unsupported "") (unsupported:=fun w=>.unsupported w) (finish:=fun _=>.unsupported "")
  (rule:=fun t _ k=>.rule t k) («at»:=fun q _ k=>.at q k) (load:=fun a p _ k=>.load a p k) (update:=fun a p g _ k=>.update a p g k) (alloc:=fun o _ k=>.alloc o k)
  (loadIfAlive:=fun a _ k=>.loadIfAlive a k) (point:=fun l _ k=>.point l k) (register:=fun _ _ _=>.unsupported "") (fresh:=fun _ k=>.fresh k) (ask:=fun _ k=>.ask k)
  (choose:=fun _ _ _ _=>.unsupported "") (os:=fun _ _ _ _=>.unsupported "") (call:=fun c h g l _ k=>.call c h g l k) (handled:=fun o _ k=>.handled o k) (newGen:=fun _ _ _=>.unsupported "")
  (genState:=fun _ _ _=>.unsupported "") (resume:=fun _ _ _ _ _=>.unsupported "") (yield:=fun _ _ _ _ _=>.unsupported "") (stack:=fun _ k=>.stack k) (fork:=fun _ _ _=>.unsupported "")
  (thread:=fun _ k=>.thread k) (await:=fun _ _ _ _ _ _=>.unsupported "") m
theorem p4{α:Type}(h:Z6→Xj Unit)(m:Xj α)(f f':α→Xj Z3)(H:∀a,Sim true ((f a).onRaise h) (f' a)):Sim true ((m.bind f).onRaise h) (sq m f'):=by
 induction m with
 |pure a=>exact H a
 |ask k kih=>exact .ask kih
 |raise|unsupported|finish|register|choose|os|newGen|genState|resume|yield|fork|await=>exact .unsupported _
 |rule t k kih=>exact .rule _ _ (kih ())
 |«at» q k kih=>exact .at _ (kih ())
 |load a p k kih=>exact .load _ _ _ kih
 |update a p g k kih=>exact .update _ _ _ _ (kih ())
 |alloc o k kih=>exact .alloc _ kih
 |loadIfAlive a k kih=>exact .loadIfAlive _ kih
 |point l k kih=>exact .point _ _ (kih ())
 |fresh k kih=>exact .fresh kih
 |call c hd g l k kih=>exact .call _ _ _ _ _ _ kih
 |handled o k kih=>exact .handled _ kih
 |stack k kih=>exact .stack kih
 |thread k kih=>exact .thread (kih 0)
noncomputable def ownNames:List String:=["enumerate","zip","dict_itemiterator","dict_reverseitemiterator","odict_iterator","itertools.zip_longest","itertools.pairwise"]
def PM(it v:Z6)(k:Xj Z3):Xj Z3:=
 match it with
 |.ref r=>match v with
  |.ref a=>.load r Xt fun (o:Obj)=>match o.cls with
   |.type n=>match o.data with
    |.fields vs=>@Xp (fun _=>Xj Z3) k (match (vs[0]?:Option Z6) with
     |Option.some (.int (.ofNat x) 0)=>.await a (fun _=>Xt) false [.int (.ofNat x) 0] fun _=>.rule "for.unpacks-the-owned-tuple" fun _=>sq (Fast.tw12367529300394763782 r 0 .none) fun _=>k
     |Option.some .none=>k
     |_=>.unsupported "") (ownNames.contains n)
    |_=>k
   |_=>k
  |_=>k
 |_=>k
theorem K3(h:Z6→Xj Unit)(es:List Expr)(kk:Nat)(pos:Pos)(it v:Z6)(K₀ K:Xj Z3)(H:Sim true (K₀.onRaise h) K):
  Sim true (((letOwnedTupleGo (.Tuple es kk pos) it v).bind fun _=>K₀).onRaise h) (PM it v K):=by
 rw[letOwnedTupleGo.eq_1]
 cases it<;>try exact H
 rename_i r
 cases v<;>try exact H
 rename_i a
 refine .load _ _ _ fun o=>?_
 obtain⟨cls,dict,data,slots⟩:=o
 cases cls<;>try exact H
 rename_i n
 cases data<;>try exact H
 rename_i vs
 show Sim true ((Xz (if (ownNames.contains n&&(vs[0]?:Option Z6)==Option.some (rawInt a))=true then Xz (PySem.rule "for.unpacks-the-owned-tuple") (fun _=>updateField r 0 .none) else Sem.pure ()) fun _=>K₀).onRaise h) (@Xp (fun _=>Xj Z3) K _ (ownNames.contains n))
 cases hn:ownNames.contains n with
 |false=>exact H
 |true=>
  rw[Bool.true_and]
  generalize (vs[0]?:Option Z6)=q
  cases q with
  |none=>exact .unsupported _
  |some y=>
   cases y with
   |int x u=>
    cases x with
    |negSucc=>exact .unsupported _
    |ofNat x=>
     cases u with
     |succ=>exact .unsupported _
     |zero=>
      refine .claim _ _ _ _ _ _ fun e=>?_
      have:((Option.some (Qe (Zo x) 0):Option Z6)==Option.some (rawInt (a:Int)))=true:=by rw[e];simp[rawInt]
      rw[if_pos this]
      refine .rule _ _ ?_
      show Sim true (((updateField r 0 .none).bind fun _=>K₀).onRaise h) _
      rw[Fast.te12367529300394763782]
      exact p4 h _ (fun _=>K₀) (fun _=>K) fun _=>H
   |none=>
    have:¬((Option.some Qd:Option Z6)==Option.some (rawInt (a:Int)))=true:=by simp[rawInt]
    rw[if_neg this];exact H
   |_=>exact .unsupported _
def Pc(target:Expr)(it:Z6)(body orelse:List Stmt)(env:Env):Xj Z3:=
 .at target.pos fun _=>sq ((Fast.tw9404975358583537561 it).onRaise (fun _=>standAt {target.pos with line:=0})) fun x=>match x with
 |Xt=>again (.block orelse env)
 |Option.some v=>PM it v (sq (Fast.tw17772580674575903948 target env v) fun _=>sq (Fast.tw12563942051412417395 body env) fun f=>match f with
  |.next=>again (.forLoop target it body orelse env)
  |.cont=>again (.forLoop target it body orelse env)
  |.brk=>pure (.done .next)
  |.ret v=>pure (.done (.ret v)))
theorem KD(h:Z6→Xj Unit)(es:List Expr)(kk:Nat)(pos:Pos)(it:Z6)(body orelse:List Stmt)(env:Env):
  Sim true ((forTurn (.Tuple es kk pos) it body orelse env).onRaise h) (Pc (.Tuple es kk pos) it body orelse env):=by
 refine .at _ ?_
 rw[←Fast.te9404975358583537561,←Fast.te17772580674575903948,←Fast.te12563942051412417395]
 refine p4 h _ (fun x=>match x with
  |Xt=>again (.block orelse env)
  |Option.some v=>do
   letOwnedTupleGo (.Tuple es kk pos) it v
   assign (.Tuple es kk pos) env v
   match ←execs body env with
   |.next|.cont=>again (.forLoop (.Tuple es kk pos) it body orelse env)
   |.brk=>pure (.done .next)
   |.ret v=>pure (.done (.ret v))) _ fun x=>?_
 cases x with
 |none=>exact .pure _
 |some v=>
  refine K3 h es kk pos it v _ _ ?_
  refine p4 h _ (fun _=>_) _ fun _=>?_
  refine p4 h _ _ _ fun f=>?_
  cases f<;>exact .pure _
abbrev dR(cd:Xo):Xj Z3:=Fast.tw11892475500146522536 Fast.tw14364793385576792824 cd
theorem jC(cd:Xo):denote table cd=dR cd:=by rw[table_eq_tree,Fast.te11892475500146522536,Fast.te14364793385576792824]
theorem i5{α:Type}(m:Xj α)(f f':α→Xj Z3)(H:∀a,Sim true (f a) (f' a)):Sim true (m.bind f) (sq m f'):=by
 induction m with
 |pure a=>exact H a
 |ask k kih=>exact .ask kih
 |raise|unsupported|finish|register|choose|os|newGen|genState|resume|yield|fork|await=>exact .unsupported _
 |rule t k kih=>exact .rule _ _ (kih ())
 |«at» q k kih=>exact .at _ (kih ())
 |load a p k kih=>exact .load _ _ _ kih
 |update a p g k kih=>exact .update _ _ _ _ (kih ())
 |alloc o k kih=>exact .alloc _ kih
 |loadIfAlive a k kih=>exact .loadIfAlive _ kih
 |point l k kih=>exact .point _ _ (kih ())
 |fresh k kih=>exact .fresh kih
 |call c hd g l k kih=>exact .call _ _ _ _ _ _ kih
 |handled o k kih=>exact .handled _ kih
 |stack k kih=>exact .stack kih
 |thread k kih=>exact .thread (kih 0)
theorem FY(m:Xj Z3):Sim true m (sq m .pure):=by
 have:=i5 m .pure .pure (fun a=>.pure a)
 rwa [show m.bind .pure=m from PySem.Sem.bind_pure m]at this
def BH(self:Z9)(fd:FuncData)(args:Args)(compiled:Str):Xj Z3:=
 sq (Fast.tw9782568553167038054 fd args) fun binds=>
 sq (Fast.tw11113344188204177931 fd.scope fd.globals fd.closure binds (compiled++".<locals>.") (some self) fd.code Xt fd.builtins) fun env=>
 sq Fast.tw2211186353215096513 fun limit=>@Xp (fun _=>Xj Z3) (.unsupported "") (match fd.scope.isGenerator with
  |false=>match fd.scope.isCoroutine with
   |false=>.pure (.again (match fd.body with|.stmts b=>.func b env|.expr e=>.expr e env))
   |true=>.unsupported ""
  |true=>.unsupported "") (Ze limit 1000)
def yN(self:Z9)(fd:FuncData)(args:Args):Xj Z3:=
 match fd.code with
 |.none=>BH self fd args fd.qualname
 |c=>sq (Fast.tw6609576154772507232 c 1) fun v=>match v with
  |.str q _=>BH self fd args q
  |_=>BH self fd args fd.qualname
theorem Bk(f f':Xj Z3)(H:Sim true f f'):Sim true ((enterFrame).bind fun _=>f) (sq currentRecursionLimit fun limit=>@Xp (fun _=>Xj Z3) (.unsupported "") f' (Ze limit 1000)):=by
 refine .stackC fun L hL=>?_
 show Sim true ((Xz currentRecursionLimit _).bind fun _=>f) _
 rw[Sem.bind_assoc]
 refine i5 currentRecursionLimit _ _ fun limit=>?_
 cases hl:Ze limit 1000 with
 |false=>exact .unsupported _
 |true=>
  have e:limit=1000:=Zs hl
  subst e
  have h1:unitsOf L<700:=hL
  unfold unitsOf at h1
  have n1:nearTheLimitUnderAClaim (L.map (·.1)) (((L.map (·.1)).map (·.frames)).sum-0+((L.map (·.1)).filter lA).length) 1000=false:=by
   unfold nearTheLimitUnderAClaim claimMargin
   have:¬(((L.map (·.1)).map (·.frames)).sum-0+((L.map (·.1)).filter lA).length+300≥1000):=by omega
   rw[decide_eq_false this];rfl
  have n2:¬(((L.map (·.1)).map (·.frames)).sum-0≥1000):=by omega
  have n3:¬(((L.map (·.1)).map (·.frames)).sum-0+((L.map (·.1)).filter lA).length≥1000):=by omega
  show Sim true (Xz (if nearTheLimitUnderAClaim (L.map (·.1)) (((L.map (·.1)).map (·.frames)).sum-0+((L.map (·.1)).filter lA).length) 1000=true then _ else
   (if ((L.map (·.1)).map (·.frames)).sum-0≥1000 then _ else (if ((L.map (·.1)).map (·.frames)).sum-0+((L.map (·.1)).filter lA).length≥1000 then _ else Sem.pure ()))) fun _=>f) _
  rw[if_neg (by rw[n1];decide),if_neg n2,if_neg n3]
  exact H
theorem Pq(self:Z9)(fd:FuncData)(args:Args)(compiled:Str):Sim true ((bindArgs fd args).bind fun binds=>(newFunctionEnv fd.scope fd.globals fd.closure binds (compiled++".<locals>.") (some self) fd.code Xt fd.builtins).bind fun env=>
   (enterFrame).bind fun _=>(match fd.scope.isGenerator,fd.scope.isCoroutine with
    |false,false=>again (match fd.body with|.stmts b=>.func b env|.expr e=>.expr e env)
    |true,false=>do ret (←newGenerator (match fd.body with|.stmts b=>.func b env|.expr e=>.expr e env) fd.name fd.qualname)
    |false,true=>do ret (←newCoroutine (match fd.body with|.stmts b=>.func b env|.expr e=>.expr e env) fd.name fd.qualname)
    |true,true=>do ret (←newAsyncGenerator (match fd.body with|.stmts b=>.func b env|.expr e=>.expr e env) fd.name fd.qualname))) (BH self fd args compiled):=by
 unfold BH
 rw[←Fast.te9782568553167038054,←Fast.te11113344188204177931,←Fast.te2211186353215096513]
 refine i5 _ _ _ fun binds=>i5 _ _ _ fun env=>Bk _ _ ?_
 cases fd.scope.isGenerator<;>cases fd.scope.isCoroutine<;>first|exact .pure _|exact .unsupported _
theorem fun_sim(self:Z9)(fd:FuncData)(args:Args):Sim true (callFunction self fd args) (yN self fd args):=by
 obtain⟨name,qualname,params,body,scope,globals,closure,defaults,kwdefaults,doc,pyModule,annotations,code,ct,bi⟩:=fd
 have J:=fun code=>Pq self ⟨name,qualname,params,body,scope,globals,closure,defaults,kwdefaults,doc,pyModule,annotations,code,ct,bi⟩ args
 cases code with
 |none=>exact J .none qualname
 |_=>
  unfold yN
  rw[←Fast.te6609576154772507232]
  refine i5 (field _ 1) _ _ fun v=>?_
  cases v<;>exact J _ _
def xT(cd:Xo)(args:Args):Xj Z3:=
 match dR cd with
 |.load a part k=>.load a part fun o=>match o.data with
  |.func fd=>yN a fd args
  |_=>sq (k o) .pure
 |_=>.unsupported ""
theorem DX(a:Z9)(args:Args):Sim true (denote table (.call (.ref a) args)) (xT (.call (.ref a) args) args):=by
 unfold xT
 rw[←jC]
 refine .load a Xt Xt fun o=>?_
 obtain⟨cls,dict,data,slots⟩:=o
 cases data with
 |func fd=>exact(fun_sim a fd args:Sim true (callFunction a fd args) (yN a fd args))
 |_=>exact FY _
def isCmp(id:String):Bool:=
 let c:=S.codeS id
 or (Ze c 455126531311803185852266) (or (Ze c 455125450447892616933226) (or (Ze c 455126529904428302298986) (or (Ze c 455125449040517733379946)
  (or (Ze c 455126313168696235093866) (or (Ze c 455125451010842570354538) (Ze c 29827134633612522566320484202))))))
noncomputable def uh(fin:Z3):Xj Z3:=match fin with
 |.done f=>match f with
  |.ret v=>match v with
   |.bool c=>.await 0 (fun _=>Xt) false [.bool c] fun b=>.pure (.done (.ret (.bool b)))
   |v=>.pure (.done (.ret v))
  |f=>.pure (.done f)
 |.again c=>.pure (.again c)
theorem Er(fin:Z3):Sim true (.pure fin) (uh fin):=by
 cases fin with
 |again c=>exact .pure _
 |done f=>
  cases f with
  |ret v=>
   cases v with
   |bool c=>exact .cond _ _ _ _ _ fun b e=>by subst e;exact .pure _
   |_=>exact .pure _
  |_=>exact .pure _
theorem Kj(t:Xj Z3):Sim true t (sq t uh):=by
 have:=i5 t .pure uh Er
 rwa [show t.bind .pure=t from PySem.Sem.bind_pure t]at this
noncomputable def aw(x n:Int):Int:=x.fdiv (2^n.toNat)
noncomputable def aO(x n:Int):Int:=x*2^n.toNat
noncomputable def ah(x y:Int):Int:=x*y
noncomputable def an(x y:Int):Int:=x.fdiv y
noncomputable def af(x y:Int):Int:=x.fmod y
noncomputable def lU(n:Int):Bool:=decide (n<0)
noncomputable def aG(x n:Int):Bool:=!(decide (0≤n)&&decide ((Builtin.Int.intBits x:Int)+n≤134217728))
noncomputable def ax(x y:Int):Bool:=Builtin.Int.intBits x>shortFactorBits&&Builtin.Int.intBits y>shortFactorBits&&Builtin.Int.intTooBig (Builtin.Int.intBits x+Builtin.Int.intBits y)
noncomputable def zG(x y:Int):Bool:=y==0||Builtin.divisionGoesByPylong x y
noncomputable def zH(y:Int):Bool:=y==0
def mw(stop:Bool)(val:Int):Xj Z3:=
 .await 0 (fun _=>Xt) false [.bool stop] fun b=>@Xp (fun _=>Xj Z3) (.fresh fun t=>.pure (.done (.ret (.int val t)))) (.unsupported "") b
theorem jV(t:Xj Z3)(stop:Bool)(val:Int)(H:stop=false→Sim true t (.fresh fun tk=>.pure (.done (.ret (.int val tk))))):Sim true t (mw stop val):=by
 refine .cond _ _ _ _ _ fun b e=>?_
 cases b with
 |true=>exact .unsupported _
 |false=>exact H e
theorem tW(id:String)(args:Args):denote table (.builtin id args)=(match entryFor table id with|some b=>b args|none=>PySem.Sem.unsupported ((withoutEnding? id "#data").getD id)):=rfl
theorem eQ{id:String}{args:Args}{b:Builtin}(h:entryFor table id=some b):denote table (.builtin id args)=b args:=by rw[tW,h]
theorem eC(v:Int):Sim true (retInt v) (.fresh fun tk=>.pure (.done (.ret (.int v tk)))):=.fresh fun _=>.pure _
theorem LP(x n:Int)(tx tn:Nat):Sim true (denote table (.builtin "int.__rshift__" ⟨[.int x tx,.int n tn],[]⟩)) (mw (lU n) (aw x n)):=by
 refine jV _ _ _ fun e=>?_
 rw[eQ PyProof.Rows.entry_int_rshift]
 have hn:¬n<0:=by unfold lU at e;simpa using e
 show Sim true (if n<0 then _ else _) _
 rw[if_neg hn]
 show Sim true (if n≥(Builtin.Int.intBits x:Int) then _ else _) _
 by_cases hb:n≥(Builtin.Int.intBits x:Int)
 ·rw[if_pos hb]
  have e:aw x n=(if x<0 then (-1:Int) else 0):=PyProof.Rows.fdiv_pow_of_bits (by omega)
  rw[e]
  exact .ruleL _ (eC _)
 ·rw[if_neg hb];exact eC _
theorem KP(x n:Int)(tx tn:Nat):Sim true (denote table (.builtin "int.__lshift__" ⟨[.int x tx,.int n tn],[]⟩)) (mw (aG x n) (aO x n)):=by
 refine jV _ _ _ fun e=>?_
 rw[eQ PyProof.Rows.entry_int_lshift]
 have hh:0≤n∧(Builtin.Int.intBits x:Int)+n≤134217728:=by
  unfold aG at e
  simpa using e
 obtain⟨hn,hsz⟩:=hh
 show Sim true (if n<0 then _ else _) _
 rw[if_neg (by omega)]
 show Sim true (if (x==0)=true then _ else _) _
 by_cases h0:x=0
 ·rw[if_pos (by simpa using h0)]
  have e:aO x n=0:=by subst h0;exact Int.zero_mul _
  rw[e];exact .ruleL _ (eC _)
 rw[if_neg (by simpa using h0)]
 have h3:¬(((Builtin.Int.intBits x:Int)+29)/30+n/30+(if n%30==0 then 0 else 1)>Builtin.maxDigits):=by
  unfold Builtin.maxDigits
  split<;>omega
 show Sim true (if ((Builtin.Int.intBits x:Int)+29)/30+n/30+(if n%30==0 then 0 else 1)>Builtin.maxDigits then _ else _) _
 rw[if_neg h3]
 have hbig:Builtin.Int.intTooBig ((Builtin.Int.intBits x:Int)+n)=false:=decide_eq_false (Int.not_lt.mpr hsz)
 show Sim true (if Builtin.Int.intTooBig ((Builtin.Int.intBits x:Int)+n)=true then _ else _) _
 rw[if_neg (by rw[hbig];exact Xr)]
 exact eC _
theorem KR(x n:Int)(tx tn:Nat):Sim true (denote table (.builtin "int.__mul__" ⟨[.int x tx,.int n tn],[]⟩)) (mw (ax x n) (ah x n)):=by
 refine jV _ _ _ fun e=>?_
 rw[eQ PyProof.Rows.entry_int_mul]
 show Sim true (if ax x n=true then _ else _) _
 rw[if_neg (by rw[e];exact Xr)]
 exact eC _
theorem KQ(x n:Int)(tx tn:Nat):Sim true (denote table (.builtin "int.__mod__" ⟨[.int x tx,.int n tn],[]⟩)) (mw (zH n) (af x n)):=by
 refine jV _ _ _ fun e=>?_
 rw[eQ PyProof.Rows.entry_int_mod]
 show Sim true (if (n==0)=true then _ else _) _
 rw[if_neg (by unfold zH at e;rw[e];exact Xr)]
 exact eC _
theorem Kr(x n:Int)(tx tn:Nat):Sim true (denote table (.builtin "int.__floordiv__" ⟨[.int x tx,.int n tn],[]⟩)) (mw (zG x n) (an x n)):=by
 refine jV _ _ _ fun e=>?_
 rw[eQ PyProof.Rows.entry_int_floordiv]
 have hh:(n==0)=false∧Builtin.divisionGoesByPylong x n=false:=by unfold zG at e;simpa using e
 show Sim true (if (n==0)=true then _ else _) _
 rw[if_neg (by rw[hh.1];exact Xr)]
 show Sim true (Xz (if Builtin.divisionGoesByPylong x n=true then _ else _) _) _
 rw[if_neg (by rw[hh.2];exact Xr)]
 exact eC _
def Gj(id:String)(x y:Int)(dflt:WT):WT:=
 @Xp (fun _=>WT) (@Xp (fun _=>WT) (@Xp (fun _=>WT) (@Xp (fun _=>WT) (@Xp (fun _=>WT) dflt
  (true,mw (zG x y) (an x y)) (Ze (S.codeS id) 128106770130096871752080967664072486762))
  (true,mw (zH y) (af x y)) (Ze (S.codeS id) 116512097088030077292474218))
  (true,mw (ax x y) (ah x y)) (Ze (S.codeS id) 116512245094328231196454762))
  (true,mw (aG x y) (aO x y)) (Ze (S.codeS id) 1954753560319954399567331122835306))
  (true,mw (lU y) (aw x y)) (Ze (S.codeS id) 1954753560319954401256180983099242)
theorem fJ(id:String)(lit:String)(n:Nat)(hn:S.codeS lit=n)(h:Ze (S.codeS id) n=true):id=lit:=
 PySem.code_inj _ _ (by rw[S.code_S,S.code_S,Zs h,hn])
theorem JX(id:String)(x y:Int)(tx ty:Nat)(dflt:WT)(H:Sim dflt.1 (denote table (.builtin id ⟨[.int x tx,.int y ty],[]⟩)) dflt.2):
  Sim (Gj id x y dflt).1 (denote table (.builtin id ⟨[.int x tx,.int y ty],[]⟩)) (Gj id x y dflt).2:=by
 unfold Gj
 cases h1:Ze (S.codeS id) 1954753560319954401256180983099242 with
 |true=>
  have:=fJ id "int.__rshift__" _ (by decide +kernel) h1
  subst this;exact LP x y tx ty
 |false=>
 cases h2:Ze (S.codeS id) 1954753560319954399567331122835306 with
 |true=>
  have:=fJ id "int.__lshift__" _ (by decide +kernel) h2
  subst this;exact KP x y tx ty
 |false=>
 cases h3:Ze (S.codeS id) 116512245094328231196454762 with
 |true=>
  have:=fJ id "int.__mul__" _ (by decide +kernel) h3
  subst this;exact KR x y tx ty
 |false=>
 cases h4:Ze (S.codeS id) 116512097088030077292474218 with
 |true=>
  have:=fJ id "int.__mod__" _ (by decide +kernel) h4
  subst this;exact KQ x y tx ty
 |false=>
 cases h5:Ze (S.codeS id) 128106770130096871752080967664072486762 with
 |true=>
  have:=fJ id "int.__floordiv__" _ (by decide +kernel) h5
  subst this;exact Kr x y tx ty
 |false=>exact H
def NZ(id:String)(args:Args)(dflt:WT):WT:=
 match args with
 |⟨pos,kw⟩=>match kw with
  |_::_=>dflt
  |[]=>match pos with
   |[]=>dflt
   |a::r=>match a with
    |.int x _=>match r with
     |[]=>dflt
     |b::r'=>match b with
      |.int y _=>match r' with
       |[]=>Gj id x y dflt
       |_::_=>dflt
      |_=>dflt
    |_=>dflt
theorem JZ(id:String)(args:Args)(dflt:WT)(H:Sim dflt.1 (denote table (.builtin id args)) dflt.2):Sim (NZ id args dflt).1 (denote table (.builtin id args)) (NZ id args dflt).2:=by
 obtain⟨pos,kw⟩:=args
 cases kw with
 |cons=>exact H
 |nil=>
  cases pos with
  |nil=>exact H
  |cons a r=>
   cases a with
   |int x tx=>
    cases r with
    |nil=>exact H
    |cons b r'=>
     cases b with
     |int y ty=>
      cases r' with
      |nil=>exact JX id x y tx ty dflt H
      |cons=>exact H
     |_=>exact H
   |_=>exact H
def WS(cd:Xo):WT:=
 match cd with
 |.call f args=>match f with
  |.ref _=>(true,xT cd args)
  |_=>(false,dR cd)
 |.builtin id args=>NZ id args (@Xp (fun _=>WT) (false,dR cd) (true,sq (dR cd) uh) (isCmp id))
 |.forLoop target it body orelse env=>match target with
  |.Tuple ..=>(true,Pc target it body orelse env)
  |_=>(false,dR cd)
 |_=>(false,dR cd)
theorem r9(p:Xf)(w:Z8):tL (model p w) WS:=by
 intro cd
 have pl:Sim false ((model p w).den cd) (dR cd):=by
  show Sim false (denote table cd) _
  rw[jC];exact Sim.refl _
 cases cd with
 |call f args=>
  cases f with
  |ref a=>exact DX a args
  |_=>exact pl
 |builtin id args=>
  refine JZ id args _ ?_
  cases isCmp id with
  |false=>exact pl
  |true=>
   show Sim true (denote table (.builtin id args)) (sq (dR (.builtin id args)) uh)
   rw[jC];exact Kj _
 |forLoop target it body orelse env=>
  cases target with
  |Tuple es k pos=>exact KD _ _ _ _ _ _ _ _
  |_=>exact pl
 |_=>exact pl
noncomputable def fIdx:List Z7→Int→Option Nat
 |[],_=>none
 |e::l,k=>if Qb k e.key=true then some 0 else (fIdx l k).map (·+1)
theorem nG(es:Array Z7)(k:Int):(es.findIdx? fun e=>Qb k e.key)=fIdx es.toList k:=by
 obtain⟨l⟩:=es
 rw[show (Xv l).findIdx? (fun e=>Qb k e.key)=l.findIdx? (fun e=>Qb k e.key) from List.findIdx?_toArray ..]
 show List.findIdx? _ l=fIdx l k
 induction l with
 |nil=>rfl
 |cons e l ih=>
  rw[List.findIdx?_cons,fIdx]
  cases Qb k e.key with
  |true=>rfl
  |false=>simp only[Bool.false_eq_true,if_false];rw[ih]
theorem bo(k:Nat)(h:k≤1000000000000):hashInt (Zo k)=Zo k:=by
 have e:rawHash (Zo k)=Zo k:=by
  unfold rawHash
  have h2:((k:Nat):Int)%((2^61-1:Nat):Int)=k:=Int.emod_eq_of_lt (by omega) (by omega)
  have h3:¬(Zo k<0):=by simp
  have h4:¬(((k:Nat):Int)==-1)=true:=by
   have:((k:Nat):Int)≠-1:=by omega
   simpa using this
  show (if (((if Zo k<0 then -(((k:Nat):Int)%((2^61-1:Nat):Int)) else ((k:Nat):Int)%((2^61-1:Nat):Int)))==-1)=true then (-2:Int) else _)=_
  rw[if_neg h3,h2,if_neg h4,if_neg h3];exact h2
 unfold hashInt
 rw[e,if_neg]
 have:((k:Nat):Int)≠-1:=by omega
 simpa using this
noncomputable def yT(e:Z7):Bool:=match e.hash with
 |.ofNat h=>match e.key with
  |.int x _=>match x with
   |.ofNat k=>Ze h k&&Zn k 1000000000000
   |_=>false
  |_=>false
 |_=>false
def jh:List Z7→Bool
 |[]=>true
 |e::l=>yT e&&jh l
theorem EA{e:Z7}(h:yT e=true):∃k t,e.key=.int k t∧e.hash=hashInt k:=by
 obtain⟨hs,key,v⟩:=e
 unfold yT at h
 cases hs with
 |negSucc=>cases h
 |ofNat hh=>
  cases key with
  |int x t=>
   cases x with
   |negSucc=>cases h
   |ofNat k=>
    simp only[Xs]at h
    refine⟨_,_,rfl,?_⟩
    rw[bo k (Nat.le_of_ble_eq_true h.2)]
    show Zo hh=Zo k
    rw[Zs h.1]
  |_=>cases h
theorem rq{l:List Z7}(h:jh l=true):IntKeys ⟨l⟩:=by
 intro e he
 have he':e∈l:=by simpa using he
 induction l with
 |nil=>cases he'
 |cons x l ih=>
  simp only[jh,Xs]at h
  rcases Qt.mp he' with z|z
  ·subst z;exact EA h.1
  ·exact ih h.2 (by simpa using z) z
section
variable{prog:Xf}{w:Z8}{A:Around}{E:Z6→Xd→Prop}{s:Xd}
theorem lW{d:Z9}{o:Obj}{es ep}{k:Int}{t:Tok}{Q:Option Z6→Xd→Prop}(ho:s.heap.get? d=some o)(hd:o.data=.dict es ep)(hk:IntKeys es)
  (h:Q ((es.findIdx? fun e=>Qb k e.key).bind fun i=>(es[i]?).map (·.val)) {s with toks:=s.toks+1}):wpAny (model prog w) A (dictGet d (.int k t)) Q E s:=by
 unfold dictGet
 try with_reducible refine wpAny_holding ?_
 refine Xa (wpAny_pyHash_int (Xa (wpAny_dictFind_int (s:={s with toks:=s.toks+1}) ho hd hk ?_)))
 cases hi:es.findIdx? fun e=>Qb k e.key with
 |none=>rw[hi]at h;exact Xb h
 |some i=>rw[hi]at h;exact Xa (wpAny_dictEntries (s:={s with toks:=s.toks+1}) ho hd (Xb h))
theorem zP{d:Z9}{o:Obj}{es ep}{k:Int}{t:Tok}{v:Z6}{i:Nat}{Q:Unit→Xd→Prop}(ho:s.heap.get? d=some o)(hd:o.data=.dict es ep)(hk:IntKeys es)
  (hi:(es.findIdx? fun e=>Qb k e.key)=some i) (h:Q () {s with heap:=s.heap.update d (Obj.mapDict (·.modify i fun e=>{e with val:=v})),toks:=s.toks+1}):
  wpAny (model prog w) A (dictSet d (.int k t) v) Q E s:=by
 unfold dictSet
 try with_reducible refine wpAny_holding ?_
 refine Xa (wpAny_pyHash_int ?_)
 unfold dictSetHashed
 try with_reducible refine wpAny_holding ?_
 refine Xa (wpAny_dictFind_int (s:={s with toks:=s.toks+1}) ho hd hk ?_)
 rw[hi]
 exact Xa (wpAny_rule (Xa (wpAny_updateDict (s:={s with toks:=s.toks+1}) ho hd (wpAny_point h))))
theorem cU{id:String}{args:Args}{b:Builtin}(h:entryFor table id=some b):(model prog w).den (.builtin id args)=b args:=eQ h
theorem cm{Γ:Ctx}{p:Pos}{t:Xj Z3}{f:Flow}{s':Xd}(hh:Γ.handled=none)
  (H:∀A,A.handled=none→wpAny (model prog w) A t (fun fin x=>fin=.done f∧x=s') (fun _ _=>False) s):Xg (model prog w) Γ p t [] s (.ret (.ok f)) s':=by
 have hw:=H ⟨none,frameCount Γ.below+Γ.code.weight,none,none,Γ.code.cUnits+PySem.unitsOf Γ.below⟩ rfl Γ p ⟨hh,Zm _,(fun _ h=>nomatch h),(fun _ h=>nomatch h),Zm _⟩
 have hw':Sem.wp (model prog w) Γ t (Sem.finPost (model prog w) Γ fun r x=>r=.ok f∧x=s') (fun e _ x=>(.error e:Xc)=.ok f∧x=s') p s:=
  Sem.wp_mono _ Γ t (fun a p' x hx=>by obtain⟨rfl,rfl⟩:=hx;exact⟨rfl,rfl⟩) (fun e p' x hx=>hx.elim) p s hw
 obtain⟨r,x,hr,rfl,rfl⟩:=(Sem.wp_iff_runs (model prog w) Γ t _ p s).mp hw'
 exact hr
variable{Γ:Ctx}{p:Pos}{d:Z9}{o:Obj}{es:Array Z7}{ep:Nat}{k:Int}{t:Tok}
theorem vF(hh:Γ.handled=none){i:Nat}{e:Z7}(ho:s.heap.get? d=some o)(hd:o.data=.dict es ep)(hk:IntKeys es)(hi:(es.findIdx? fun e=>Qb k e.key)=some i)(he:es[i]?=some e):
  Xg (model prog w) Γ p ((model prog w).den (.builtin "dict.__getitem__" ⟨[.ref d,.int k t],[]⟩)) [] s (.ret (.ok (.ret e.val))) {s with toks:=s.toks+1}:=by
 rw[cU entry_dict_getitem]
 refine cm hh fun A hA=>?_
 show wpAny _ _ (dictGet d (.int k t) >>= _) _ _ s
 refine Xa (lW ho hd hk ?_)
 rw[hi,show ((some i).bind fun i=>(es[i]?).map (·.val))=some e.val by simp[he]]
 exact Xb ⟨rfl,rfl⟩
theorem wR(hh:Γ.handled=none)(hs:(d==sysModules)=false)(ho:s.heap.get? d=some o)(hd:o.data=.dict es ep)(hk:IntKeys es):
  Xg (model prog w) Γ p ((model prog w).den (.builtin "dict.get" ⟨[.ref d,.int k t],[]⟩)) [] s
   (.ret (.ok (.ret (((es.findIdx? fun e=>Qb k e.key).bind fun i=>(es[i]?).map (·.val)).getD .none)))) {s with toks:=s.toks+1}:=by
 rw[cU F.entry_dict_get]
 refine cm hh fun A hA=>?_
 show wpAny _ _ (dictGet d (.int k t) >>= _) _ _ s
 refine Xa (lW ho hd hk ?_)
 cases(es.findIdx? fun e=>Qb k e.key).bind fun i=>(es[i]?).map (·.val) with
 |some v=>exact Xb ⟨rfl,rfl⟩
 |none=>
  show wpAny _ _ (Builtin.Dict.missed d _ >>= _) _ _ _
  exact Xa (wpAny_missed_other hs (Xb ⟨rfl,rfl⟩))
theorem nr(hh:Γ.handled=none)(hs:(d==sysModules)=false)(ho:s.heap.get? d=some o)(hd:o.data=.dict es ep)(hk:IntKeys es):
  Xg (model prog w) Γ p ((model prog w).den (.builtin "dict.__contains__" ⟨[.ref d,.int k t],[]⟩)) [] s
   (.ret (.ok (.ret (.bool ((es.findIdx? fun e=>Qb k e.key).bind fun i=>(es[i]?).map (·.val)).isSome)))) {s with toks:=s.toks+1}:=by
 rw[cU F.entry_dict_contains]
 refine cm hh fun A hA=>?_
 show wpAny _ _ (dictGet d (.int k t) >>= _) _ _ s
 refine Xa (lW ho hd hk ?_)
 cases(es.findIdx? fun e=>Qb k e.key).bind fun i=>(es[i]?).map (·.val) with
 |some v=>exact Xb ⟨rfl,rfl⟩
 |none=>
  show wpAny _ _ (Builtin.Dict.pendingKey? d _ >>= _) _ _ _
  exact Xa (wpAny_pendingKey_other hs (Xb ⟨rfl,rfl⟩))
theorem vG(hh:Γ.handled=none){i:Nat}{v:Z6}(hc:o.cls=.type "dict")(ho:s.heap.get? d=some o)(hd:o.data=.dict es ep)(hk:IntKeys es)(hi:(es.findIdx? fun e=>Qb k e.key)=some i):
  Xg (model prog w) Γ p ((model prog w).den (.builtin "dict.__setitem__" ⟨[.ref d,.int k t,v],[]⟩)) [] s (.ret (.ok (.ret .none)))
   {s with heap:=s.heap.update d (Obj.mapDict (·.modify i fun e=>{e with val:=v})),toks:=s.toks+1}:=by
 rw[cU entry_dict_setitem]
 refine cm hh fun A hA=>?_
 show wpAny _ _ (Builtin.Dict.notOrdered "__setitem__" ⟨[.ref d,.int k t,v],[]⟩ >>= _) _ _ s
 refine Xa (wpAny_notOrdered_dict ⟨o,ho,hc⟩ ?_)
 show wpAny _ _ (dictSet d (.int k t) v >>= _) _ _ s
 exact Xa (zP ho hd hk hi (Xb ⟨rfl,rfl⟩))
theorem dL{t:Xj Z3}{Sp:Spec}{f:Flow}{s':Xd}(g:Meets t Sp)(hh:Γ.handled=none)(H:∀A:Around,A.handled=none→Sp A (fun r x=>r=.ok f∧x=s') s):
  Xg (model prog w) Γ p t [] s (.ret (.ok f)) s':=by
 have hw:=g prog w ⟨none,frameCount Γ.below+Γ.code.weight,none,none,Γ.code.cUnits+PySem.unitsOf Γ.below⟩ _ s (H _ rfl) Γ p
  ⟨hh,Zm _,(fun _ h=>nomatch h),(fun _ h=>nomatch h),by show _≤_+_;simp[Ctx.units]⟩
 have hw':Sem.wp (model prog w) Γ t (Sem.finPost (model prog w) Γ fun r x=>r=.ok f∧x=s') (fun e _ x=>(.error e:Xc)=.ok f∧x=s') p s:=
  Sem.wp_mono _ Γ t (fun a p' x hx=>by
   cases a with
   |done f'=>exact hx
   |again c=>exact⟨hx.1,hx.2 (Γ.goto c) p' rfl ⟨hh,Zy _ _,(fun _ h=>nomatch h),(fun _ h=>nomatch h),Zx _ _⟩⟩) (fun e p' x hx=>hx) p s hw
 obtain⟨r,x,hr,rfl,rfl⟩:=(Sem.wp_iff_runs (model prog w) Γ t _ p s).mp hw'
 exact hr
noncomputable def G6(k:Int)(v:Z6):Bool:=match v with
 |.int x _=>x==k
 |_=>false
noncomputable def dl:List Z6→Bool
 |[]=>true
 |v::l=>(match v with|.int _ _=>true|_=>false)&&dl l
def gV:List Z6→Int→Bool
 |[],_=>false
 |v::l,k=>G6 k v||gV l k
theorem JV(l:List Z6)(k:Int):l.any (G6 k)=gV l k:=by
 induction l with
 |nil=>rfl
 |cons v l ih=>rw[List.any_cons,gV,ih]
theorem mQ{l:List Z6}(h:dl l=true):∀v∈l,∃x t,v=.int x t:=by
 induction l with
 |nil=>intro v hv;cases hv
 |cons y l ih=>
  intro v hv
  simp only[dl,Xs]at h
  rcases Qt.mp hv with z|z
  ·subst z
   cases v with
   |int x t=>exact⟨x,t,rfl⟩
   |_=>exact absurd h.1 (by simp)
  ·exact ih h.2 v z
open SeqAt in
theorem ui{A:Around}{s:Xd}(a b:Int)(t u:Tok):EqAt A s (.int a t) (.int b u) (a==b):=fun _ _ _ _ h=>wpAny_eqBool_int h
open SeqAt in
theorem jn{l:List Z6}{n:Nat}{dd:Option Z9}{sl:Array (Option Z6)}(hh:Γ.handled=none)(ho:s.heap.get? d=some ⟨.type "tuple",dd,.seq ⟨l⟩ n,sl⟩)(hi:dl l=true):
  Xg (model prog w) Γ p ((model prog w).den (.builtin "tuple.__contains__" ⟨[.ref d,.int k t],[]⟩)) [] s (.ret (.ok (.ret (.bool (gV l k))))) s:=by
 rw[cU F.entry_tuple_contains]
 refine dL (tuple_containsAt d ⟨l⟩ n dd sl (.int k t) (G6 k)) hh fun A hA=>⟨ho,fun y hy=>?_,?_⟩
 ·obtain⟨x,u,rfl⟩:=mQ hi y (by simpa using hy)
  exact ui x k u t
 ·refine⟨?_,rfl⟩
  rw[←JV]
  simp
noncomputable def pM:List Nat→List Nat→Bool
 |[],[]=>true
 |a::l,b::r=>Ze a b&&pM l r
 |_,_=>false
theorem EI(l r:List Nat):pM l r=decide (l=r):=by
 induction l generalizing r with
 |nil=>cases r<;>rfl
 |cons a l ih=>
  cases r with
  |nil=>rfl
  |cons b r=>
   rw[pM,ih]
   by_cases h:a=b
   ·subst h;simp
   ·have:Ze a b=false:=Bool.eq_false_iff.mpr fun q=>h (Zs q)
    rw[this];simp[h]
def Pp(k:PySem.Str)(v:Z6):Bool:=match v with
 |.str x _=>pM x.cps.toList k.cps.toList
 |_=>false
noncomputable def ir:List Z6→Bool
 |[]=>true
 |v::l=>(match v with|.str _ _=>true|_=>false)&&ir l
def gG:List Z6→PySem.Str→Bool
 |[],_=>false
 |v::l,k=>Pp k v||gG l k
theorem JW(l:List Z6)(k:PySem.Str):l.any (Pp k)=gG l k:=by
 induction l with
 |nil=>rfl
 |cons v l ih=>rw[List.any_cons,gG,ih]
theorem CD{l:List Z6}(h:ir l=true):∀v∈l,∃x t,v=.str x t:=by
 induction l with
 |nil=>intro v hv;cases hv
 |cons y l ih=>
  intro v hv
  simp only[ir,Xs]at h
  rcases Qt.mp hv with z|z
  ·subst z
   cases v with
   |str x t=>exact⟨x,t,rfl⟩
   |_=>exact absurd h.1 (by simp)
  ·exact ih h.2 v z
theorem LT(x y:PySem.Str):(x==y)=pM x.cps.toList y.cps.toList:=by
 rw[EI]
 obtain⟨⟨x⟩⟩:=x
 obtain⟨⟨y⟩⟩:=y
 by_cases h:x=y
 ·subst h;simp
 ·have:¬(⟨⟨x⟩⟩:PySem.Str)=⟨⟨y⟩⟩:=fun e=>h (by injection e with e;injection e)
  simp[h,this]
open SeqAt in
theorem lS{k:PySem.Str}{l:List Z6}{n:Nat}{dd:Option Z9}{sl:Array (Option Z6)}(hh:Γ.handled=none)(ho:s.heap.get? d=some ⟨.type "tuple",dd,.seq ⟨l⟩ n,sl⟩)(hi:ir l=true):
  Xg (model prog w) Γ p ((model prog w).den (.builtin "tuple.__contains__" ⟨[.ref d,.str k t],[]⟩)) [] s (.ret (.ok (.ret (.bool (gG l k))))) s:=by
 rw[cU F.entry_tuple_contains]
 refine dL (tuple_containsAt d ⟨l⟩ n dd sl (.str k t) (Pp k)) hh fun A hA=>⟨ho,fun y hy=>?_,?_⟩
 ·obtain⟨x,u,rfl⟩:=CD hi y (by simpa using hy)
  exact fun _ _ _ _ h=>PyProof.Rows.eqBool_str (by rw[LT];exact h)
 ·refine⟨?_,rfl⟩
  rw[←JW]
  simp
end
noncomputable def Q.isOk:Q→Bool
  |.ok _ _ _ _ _ _=>true
  |_=>false
noncomputable def Q.val:Q→Xc
  |.ok r _ _ _ _ _=>r
  |_=>.error .none
noncomputable def Q.tree:Q→HT
  |.ok _ T _ _ _ _=>T
  |_=>.nil
noncomputable def Q.cnt:Q→Nat
  |.ok _ _ c _ _ _=>c
  |_=>0
noncomputable def Q.tks:Q→Nat
  |.ok _ _ _ tk _ _=>tk
  |_=>0
noncomputable def Q.claims:Q→List Claim
  |.ok _ _ _ _ A _=>A
  |_=>[]
noncomputable def HT.depth:HT→Nat
  |.nil=>0
  |.node _ l r=>max l.depth r.depth+1
theorem HT.deep:∀(t:HT) (k:Nat),1≤k→2^t.depth≤k→t.getK k=none
  |.nil,_,_,_=>rfl
  |.node v l r,k,h1,h2=>by
    have e:2^(max l.depth r.depth+1)≤k:=h2
    rw[Nat.pow_succ]at e
    have hl:2^l.depth≤2^max l.depth r.depth:=Nat.pow_le_pow_right (by omega) (Nat.le_max_left _ _)
    have hr:2^r.depth≤2^max l.depth r.depth:=Nat.pow_le_pow_right (by omega) (Nat.le_max_right _ _)
    have hp:1≤2^max l.depth r.depth:=Nat.one_le_two_pow
    rw[HT.get_node,if_neg (by omega)]
    split
    · exact HT.deep r (k/2) (by omega) (by omega)
    · exact HT.deep l (k/2) (by omega) (by omega)
def HT.Under(t:HT)(B:Nat):Prop:=∀a o,t.getK (a+1)=some o→a<B
theorem HT.under_of{t:HT}{B d:Nat}(hd:t.depth≤d)(hB:(List.range (2^d-B)).map (fun i=>(t.getK (B+i+1)).isNone)=(List.range (2^d-B)).map fun _=>true):t.Under B:=by
  intro a o h
  by_cases q:a<B
  · exact q
  · exfalso
    by_cases z:a+1<2^d+1
    · have:∀i,i<2^d-B→(t.getK (B+i+1)).isNone=true:=fun i hi=>(List.map_inj_left.mp hB) i (List.mem_range.mpr hi)
      by_cases y:a-B<2^d-B
      · have:=this (a-B) y
        rw[show B+(a-B)+1=a+1 by omega,h]at this;cases this
      · have e:t.getK (a+1)=none:=HT.deep t (a+1) (by omega) (Zu (Nat.pow_le_pow_right (by omega) hd) (by omega))
        rw[e]at h;cases h
    · have e:t.getK (a+1)=none:=HT.deep t (a+1) (by omega) (Zu (Nat.pow_le_pow_right (by omega) hd) (by omega))
      rw[e]at h;cases h
noncomputable def nu:List Z7→Nat→Z6→List Z7
  |[],_,_=>[]
  |e::l,0,v=>⟨e.hash,e.key,v⟩::l
  |e::l,i+1,v=>e::nu l i v
theorem wS(l:List Z7)(i:Nat)(v:Z6):(Xv l).modify i (fun e=>{e with val:=v})=⟨nu l i v⟩:=by
  apply Array.toList_inj.mp
  rw[Array.toList_modify]
  show l.modify i _=nu l i v
  induction l generalizing i with
  |nil=>cases i<;>rfl
  |cons e l ih=>cases i with
    |zero=>rfl
    |succ i=>rw[List.modify_succ_cons,ih];rfl
noncomputable def nthE:List Z7→Nat→Option Z7
  |[],_=>none
  |e::_,0=>some e
  |_::l,i+1=>nthE l i
theorem nW(l:List Z7)(i:Nat):(Xv l)[i]?=nthE l i:=by
  show l.toArray[i]?=_
  rw[List.getElem?_toArray]
  induction l generalizing i with
  |nil=>rfl
  |cons e l ih=>cases i with
    |zero=>rfl
    |succ i=>rw[List.getElem?_cons_succ,ih];rfl
def bC(l:List Z7)(k:Int):Option Z6:=match fIdx l k with
  |some i=>match nthE l i with
    |some e=>some e.val
    |none=>none
  |none=>none
theorem lr(l:List Z7)(k:Int):(((Xv l).findIdx? fun e=>Qb k e.key).bind fun i=>((Xv l)[i]?).map (·.val))=bC l k:=by
  rw[nG]
  unfold bC
  show (fIdx l k).bind _=_
  cases fIdx l k with
  |none=>rfl
  |some i=>
    show ((Xv l)[i]?).map (·.val)=_
    rw[nW]
    show Option.map _ (nthE l i)=(match nthE l i with|some e=>some e.val|none=>none)
    cases nthE l i<;>rfl
def sh(v:Z6):Bool:=match v with
  |.type s=>Ze (S.codeS s) 1969515109
  |_=>false
theorem Ef{v:Z6}(h:sh v=true):v=.type "dict":=by
  cases v with
  |type s=>rw[fJ s "dict" _ (by decide +kernel) h]
  |_=>cases h
def jW(id:String)(k:Int)(rest:List Z6)(o:Obj)(l:List Z7)(n j:Nat)(T:HT)(c tk:Nat)(A:List Claim)(H:Hn):Q:=
  @Xp (fun _=>Q)
   (@Xp (fun _=>Q)
    (@Xp (fun _=>Q)
     (@Xp (fun _=>Q) .no
      (match rest with
        |[]=>.no
        |v::r=>match r with
          |[]=>match fIdx l k with
            |none=>.no
            |some i=>@Xp (fun _=>Q) .no (.ok (.ok (.ret .none)) (T.putK (Zd j 1) ⟨o.cls,o.dict,.dict ⟨nu l i v⟩ n,o.slots⟩) c (Zd tk 1) A H) (sh o.cls)
          |_::_=>.no)
      (Ze (S.codeS id) 128106587276438692082622197436938218085))
     (match rest with|[]=>.ok (.ok (.ret (.bool (bC l k).isSome))) T c (Zd tk 1) A H|_::_=>.no)
     (Ze (S.codeS id) 32795317678217157189674408721764466322021))
    (match rest with|[]=>.ok (.ok (.ret ((bC l k).getD .none))) T c (Zd tk 1) A H|_::_=>.no)
    (Ze (S.codeS id) 8459563503104322149))
   (match rest with|[]=>(match bC l k with|some v=>.ok (.ok (.ret v)) T c (Zd tk 1) A H|none=>.no)|_::_=>.no)
   (Ze (S.codeS id) 128106587276438692081757506308483082853)
def oZ(v:Z6):Bool:=match v with
  |.type s=>Ze (S.codeS s) 439922816629
  |_=>false
theorem wW{v:Z6}(h:oZ v=true):v=.type "tuple":=by
  cases v with
  |type s=>rw[fJ s "tuple" _ (by decide +kernel) h]
  |_=>cases h
def Un(g:Cfg)(id:String)(d:Z9)(k:Int)(rest:List Z6)(o:Obj)(l:List Z6)(j:Nat)(T:HT)(c tk:Nat)(A:List Claim)(H:Hn):Q:=
  match rest with
  |_::_=>.no
  |[]=>@Xp (fun _=>Q) .no (jH (gV l k) (.eq d (g.rho j)::A) H fun b A H=>.ok (.ok (.ret (.bool b))) T c tk A H) (Ze (S.codeS id) 8395601325623592240556648632771639105386101&&(oZ o.cls&&dl l))
def tX(g:Cfg)(id:String)(d:Z9)(k:Int)(rest:List Z6)(j:Nat)(T:HT)(c tk:Nat)(A:List Claim)(H:Hn):Q:=
  match T.getK (Zd j 1) with
  |none=>.no
  |some o=>match o.data with
    |.dict es n=>@Xp (fun _=>Q) .no (jW id k rest o es.toList n j T c tk (.eq d (g.rho j)::.eq (g.tok (Zd tk 1)) (Nat.succ (g.tok tk))::A) H) (jh es.toList&&Zn 2 g.B)
    |.seq xs _=>Un g id d k rest o xs.toList j T c tk A H
    |_=>.no
def zI(g:Cfg)(id:String)(d:Z9)(k:PySem.Str)(rest:List Z6)(j:Nat)(T:HT)(c tk:Nat)(A:List Claim)(H:Hn):Q:=
  match rest with
  |_::_=>.no
  |[]=>match T.getK (Zd j 1) with
    |none=>.no
    |some o=>match o.data with
      |.seq xs _=>@Xp (fun _=>Q) .no (jH (gG xs.toList k) (.eq d (g.rho j)::A) H fun b A H=>.ok (.ok (.ret (.bool b))) T c tk A H) (Ze (S.codeS id) 8395601325623592240556648632771639105386101&&(oZ o.cls&&ir xs.toList))
      |_=>.no
def si(g:Cfg)(cd:Xo)(T:HT)(c tk:Nat)(A:List Claim)(H:Hn):Q:=
  match cd with
  |.builtin id args=>match args with
    |⟨pos,kw⟩=>match kw with
      |_::_=>.no
      |[]=>match pos with
        |[]=>.no
        |a::r=>match a with
          |.ref d=>match r with
            |[]=>.no
            |b::rest=>match b with
              |.int k _=>match H with
                |.ld j H'=>match j with
                  |0=>.no
                  |j+1=>tX g id d k rest j T c tk A H'
                |_=>.no
              |.str k _=>match H with
                |.ld j H'=>match j with
                  |0=>.no
                  |j+1=>zI g id d k rest j T c tk A H'
                |_=>.no
              |_=>.no
          |_=>.no
  |_=>.no
inductive DInv (g:Cfg) (cd:Xo) (T:HT) (c tk:Nat) (A:List Claim) (f:Leaf):Prop where
  |a (id:String) (d:Z9) (k:Int) (t:Nat) (rest:List Z6) (j:Nat) (H':Hn) (o:Obj) (l:List Z7) (n:Nat) (h1:cd=.builtin id ⟨.ref d::.int k t::rest,[]⟩) (h2:T.getK (j+1)=some o) (h3:o.data=.dict ⟨l⟩ n) (h4:jh l=true) (h5:2≤g.B)
      (h6:(jW id k rest o l n j T c tk (.eq d (g.rho j)::.eq (g.tok (tk+1)) (Nat.succ (g.tok tk))::A) H').leaf=some f):DInv g cd T c tk A f
  |b (d:Z9) (k:Int) (t j:Nat) (H':Hn) (o:Obj) (l:List Z6) (n:Nat) (h1:cd=.builtin "tuple.__contains__" ⟨[.ref d,.int k t],[]⟩) (h2:T.getK (j+1)=some o) (h3:o.cls=.type "tuple") (h4:o.data=.seq ⟨l⟩ n) (h5:dl l=true)
      (h6:(jH (gV l k) (.eq d (g.rho j)::A) H' fun b A H=>.ok (.ok (.ret (.bool b))) T c tk A H).leaf=some f):DInv g cd T c tk A f
  |c (d:Z9) (k:Str) (t j:Nat) (H':Hn) (o:Obj) (l:List Z6) (n:Nat) (h1:cd=.builtin "tuple.__contains__" ⟨[.ref d,.str k t],[]⟩) (h2:T.getK (j+1)=some o) (h3:o.cls=.type "tuple") (h4:o.data=.seq ⟨l⟩ n) (h5:ir l=true)
      (h6:(jH (gG l k) (.eq d (g.rho j)::A) H' fun b A H=>.ok (.ok (.ret (.bool b))) T c tk A H).leaf=some f):DInv g cd T c tk A f
theorem dictO_inv{g:Cfg}{cd:Xo}{T:HT}{c tk:Nat}{A:List Claim}{H:Hn}{f:Leaf}(e:(si g cd T c tk A H).leaf=some f):DInv g cd T c tk A f:=by
  cases cd with
  |builtin id args=>
    obtain⟨pos,kw⟩:=args
    cases kw with
    |cons=>cases e
    |nil=>
      cases pos with
      |nil=>cases e
      |cons a r=>
        cases a with
        |ref d=>
          cases r with
          |nil=>cases e
          |cons b rest=>
            cases b with
            |int k t=>
              cases H with
              |ld j H'=>
                cases j with
                |zero=>cases e
                |succ j=>
                  have e':(tX g id d k rest j T c tk A H').leaf=some f:=e
                  unfold tX at e'
                  cases ho:T.getK (j+1) with
                  |none=>rw[show T.getK (Zd j 1)=none from ho]at e';cases e'
                  |some o=>
                    rw[show T.getK (Zd j 1)=some o from ho]at e'
                    obtain⟨cls,dict,data,slots⟩:=o
                    cases data with
                    |dict es n=>
                      obtain⟨l⟩:=es
                      have e'':(@Xp (fun _=>Q) .no (jW id k rest ⟨cls,dict,.dict ⟨l⟩ n,slots⟩ l n j T c tk (.eq d (g.rho j)::.eq (g.tok (Zd tk 1)) (Nat.succ (g.tok tk))::A) H') (jh l&&Zn 2 g.B)).leaf=some f:=e'
                      cases hk:(jh l&&Zn 2 g.B) with
                      |false=>rw[hk]at e'';cases e''
                      |true=>
                        rw[hk]at e''
                        simp only[Xs]at hk
                        exact .a id d k t rest j H' _ l n rfl ho rfl hk.1 (Nat.le_of_ble_eq_true hk.2) e''
                    |seq xs n=>
                      obtain⟨l⟩:=xs
                      cases rest with
                      |cons=>cases e'
                      |nil=>
                        have e'':(@Xp (fun _=>Q) .no (jH (gV l k) (.eq d (g.rho j)::A) H' fun b A H=>.ok (.ok (.ret (.bool b))) T c tk A H) (Ze (S.codeS id) 8395601325623592240556648632771639105386101&&(oZ cls&&dl l))).leaf=some f:=e'
                        cases hk:(Ze (S.codeS id) 8395601325623592240556648632771639105386101&&(oZ cls&&dl l)) with
                        |false=>rw[hk]at e'';cases e''
                        |true=>
                          rw[hk]at e''
                          simp only[Xs]at hk
                          have hid:=fJ id "tuple.__contains__" _ (by decide +kernel) hk.1
                          subst hid
                          exact .b d k t j H' _ l n rfl ho (wW hk.2.1) rfl hk.2.2 e''
                    |_=>cases e'
              |_=>cases e
            |str k t=>
              cases H with
              |ld j H'=>
                cases j with
                |zero=>cases e
                |succ j=>
                  have e':(zI g id d k rest j T c tk A H').leaf=some f:=e
                  unfold zI at e'
                  cases rest with
                  |cons=>cases e'
                  |nil=>
                    cases ho:T.getK (j+1) with
                    |none=>simp only[show T.getK (Zd j 1)=none from ho]at e';cases e'
                    |some o=>
                      simp only[show T.getK (Zd j 1)=some o from ho]at e'
                      obtain⟨cls,dict,data,slots⟩:=o
                      cases data with
                      |seq xs n=>
                        obtain⟨l⟩:=xs
                        have e'':(@Xp (fun _=>Q) .no (jH (gG l k) (.eq d (g.rho j)::A) H' fun b A H=>.ok (.ok (.ret (.bool b))) T c tk A H) (Ze (S.codeS id) 8395601325623592240556648632771639105386101&&(oZ cls&&ir l))).leaf=some f:=e'
                        cases hk:(Ze (S.codeS id) 8395601325623592240556648632771639105386101&&(oZ cls&&ir l)) with
                        |false=>rw[hk]at e'';cases e''
                        |true=>
                          rw[hk]at e''
                          simp only[Xs]at hk
                          have hid:=fJ id "tuple.__contains__" _ (by decide +kernel) hk.1
                          subst hid
                          exact .c d k t j H' _ l n rfl ho (wW hk.2.1) rfl hk.2.2 e''
                      |_=>cases e'
              |_=>cases e
            |_=>cases e
        |_=>cases e
  |_=>cases e
theorem l0{id:String}{k:Int}{rest:List Z6}{o:Obj}{l:List Z7}{n j:Nat}{T:HT}{c tk:Nat}{A:List Claim}{H:Hn}{f:Leaf}(e:(jW id k rest o l n j T c tk A H).leaf=some f):f.A=A:=by
  unfold jW at e
  cases h1:Ze (S.codeS id) 128106587276438692081757506308483082853 with
  |true=>
    rw[h1]at e
    cases rest with
    |cons=>cases e
    |nil=>
      cases hv:bC l k with
      |none=>simp only[hv]at e;cases e
      |some v=>simp only[hv]at e;cases e;rfl
  |false=>
  cases h2:Ze (S.codeS id) 8459563503104322149 with
  |true=>rw[h1,h2]at e;cases rest<;>cases e;rfl
  |false=>
  cases h3:Ze (S.codeS id) 32795317678217157189674408721764466322021 with
  |true=>rw[h1,h2,h3]at e;cases rest<;>cases e;rfl
  |false=>
  cases h4:Ze (S.codeS id) 128106587276438692082622197436938218085 with
  |false=>rw[h1,h2,h3,h4]at e;cases e
  |true=>
    rw[h1,h2,h3,h4]at e
    cases rest with
    |nil=>cases e
    |cons v r=>
      cases r with
      |cons=>cases e
      |nil=>
        cases hi:fIdx l k with
        |none=>simp only[hi]at e;cases e
        |some i=>
          simp only[hi]at e
          cases hd:sh o.cls with
          |false=>rw[hd]at e;cases e
          |true=>rw[hd]at e;cases e;rfl
theorem Eg{p:Xf}{w:Z8}{g:Cfg}{Γ:Ctx}{cd:Xo}{P:Pos}{T:HT}{c tk:Nat}{A:List Claim}{H:Hn}{f:Leaf}(hh:Γ.handled=none)(e:(si g cd T c tk A H).leaf=some f):
    SOut (model p w) g Γ ((model p w).den cd) P T c tk A f:=by
  rcases dictO_inv e with ⟨id,d,k,t,rest,j,H',o,l,n,rfl,ho,hd,hk,hB,e6⟩|⟨d,k,t,j,H',o,l,n,rfl,ho,hc,hd,hi,e6⟩|⟨d,k,t,j,H',o,l,n,rfl,ho,hc,hd,hi,e6⟩
  rotate_left
  · obtain⟨b,H'',xs,e',hb⟩:=fK e6
    cases e'
    refine⟨⟨xs++[.eq d (g.rho j)],by simp⟩,fun Sx h gs dd os R=>?_⟩
    have c1:d=g.rho j:=Sx (.eq d (g.rho j)) (by simp)
    have c2:gV l k=b:=hb.elim (fun z=>z) fun z=>Sx (.tr (gV l k) b) (by simp[z])
    obtain⟨hBr,hg⟩:=R.at_ j o ho
    rw[←c1]at hg
    refine⟨h,?_,R,.refl _ _ _,rfl,Zm _⟩
    obtain⟨cls,dict,data,slots⟩:=o
    simp only at hc hd
    subst hc hd
    rw[←c2]
    exact jn (s:=⟨h,gs,dd,g.tok tk,os⟩) hh hg hi
  · obtain⟨b,H'',xs,e',hb⟩:=fK e6
    cases e'
    refine⟨⟨xs++[.eq d (g.rho j)],by simp⟩,fun Sx h gs dd os R=>?_⟩
    have c1:d=g.rho j:=Sx (.eq d (g.rho j)) (by simp)
    have c2:gG l k=b:=hb.elim (fun z=>z) fun z=>Sx (.tr (gG l k) b) (by simp[z])
    obtain⟨hBr,hg⟩:=R.at_ j o ho
    rw[←c1]at hg
    refine⟨h,?_,R,.refl _ _ _,rfl,Zm _⟩
    obtain⟨cls,dict,data,slots⟩:=o
    simp only at hc hd
    subst hc hd
    rw[←c2]
    exact lS (s:=⟨h,gs,dd,g.tok tk,os⟩) hh hg hi
  have hA:=l0 e6
  refine⟨⟨[.eq d (g.rho j),.eq (g.tok (tk+1)) (Nat.succ (g.tok tk))],hA⟩,fun Sx h gs dd os R=>?_⟩
  have c1:d=g.rho j:=Sx (.eq d (g.rho j)) (by rw[hA];simp)
  have c2:g.tok (tk+1)=g.tok tk+1:=Sx (.eq (g.tok (tk+1)) (Nat.succ (g.tok tk))) (by rw[hA];simp)
  obtain⟨hBr,hg⟩:=R.at_ j o ho
  rw[←c1]at hBr hg
  have hs:(d==sysModules)=false:=by
    have:d≠1:=Nat.ne_of_gt (Zr hB hBr)
    simpa [sysModules] using this
  have hk':=rq hk
  unfold jW at e6
  cases h1:Ze (S.codeS id) 128106587276438692081757506308483082853 with
  |true=>
    have:=fJ id "dict.__getitem__" _ (by decide +kernel) h1
    subst this
    rw[h1]at e6
    cases rest with
    |cons=>cases e6
    |nil=>
      cases hv:bC l k with
      |none=>simp only[hv]at e6;cases e6
      |some v=>
        simp only[hv]at e6
        cases e6
        refine⟨h,?_,R,.refl _ _ _,rfl,Zm _⟩
        unfold bC at hv
        cases hi:fIdx l k with
        |none=>simp only[hi]at hv;cases hv
        |some i=>
          simp only[hi]at hv
          cases hn:nthE l i with
          |none=>simp only[hn]at hv;cases hv
          |some en=>
            simp only[hn,Option.some.injEq]at hv
            subst hv
            have:=vF (prog:=p) (w:=w) (Γ:=Γ) (p:=P) (t:=t) (s:=⟨h,gs,dd,g.tok tk,os⟩) hh hg hd hk' (i:=i) (e:=en) (by rw[nG];exact hi) (by rw[nW];exact hn)
            show Xg _ _ _ _ _ _ _ ⟨h,gs,dd,g.tok (tk+1),os⟩
            rw[c2];exact this
  |false=>
  cases h2:Ze (S.codeS id) 8459563503104322149 with
  |true=>
    have:=fJ id "dict.get" _ (by decide +kernel) h2
    subst this
    rw[h1,h2]at e6
    cases rest with
    |cons=>cases e6
    |nil=>
      cases e6
      refine⟨h,?_,R,.refl _ _ _,rfl,Zm _⟩
      have:=wR (prog:=p) (w:=w) (Γ:=Γ) (p:=P) (k:=k) (t:=t) (s:=⟨h,gs,dd,g.tok tk,os⟩) hh hs hg hd hk'
      rw[lr]at this
      show Xg _ _ _ _ _ _ _ ⟨h,gs,dd,g.tok (tk+1),os⟩
      rw[c2];exact this
  |false=>
  cases h3:Ze (S.codeS id) 32795317678217157189674408721764466322021 with
  |true=>
    have:=fJ id "dict.__contains__" _ (by decide +kernel) h3
    subst this
    rw[h1,h2,h3]at e6
    cases rest with
    |cons=>cases e6
    |nil=>
      cases e6
      refine⟨h,?_,R,.refl _ _ _,rfl,Zm _⟩
      have:=nr (prog:=p) (w:=w) (Γ:=Γ) (p:=P) (k:=k) (t:=t) (s:=⟨h,gs,dd,g.tok tk,os⟩) hh hs hg hd hk'
      rw[lr]at this
      show Xg _ _ _ _ _ _ _ ⟨h,gs,dd,g.tok (tk+1),os⟩
      rw[c2];exact this
  |false=>
  cases h4:Ze (S.codeS id) 128106587276438692082622197436938218085 with
  |false=>rw[h1,h2,h3,h4]at e6;cases e6
  |true=>
    have:=fJ id "dict.__setitem__" _ (by decide +kernel) h4
    subst this
    rw[h1,h2,h3,h4]at e6
    cases rest with
    |nil=>cases e6
    |cons v r=>
      cases r with
      |cons=>cases e6
      |nil=>
        cases hi:fIdx l k with
        |none=>simp only[hi]at e6;cases e6
        |some i=>
          simp only[hi]at e6
          cases hdb:sh o.cls with
          |false=>rw[hdb]at e6;cases e6
          |true=>
            rw[hdb]at e6
            cases e6
            have hfo:Obj.mapDict (fun es=>es.modify i fun e=>{e with val:=v}) o=⟨o.cls,o.dict,.dict ⟨nu l i v⟩ n,o.slots⟩:=by
              obtain⟨cls,dict,data,slots⟩:=o
              simp only at hd
              subst hd
              show (⟨cls,dict,.dict ((Xv l).modify i fun e=>{e with val:=v}) n,slots⟩:Obj)=_
              rw[wS]
            have hfr:(Obj.mapDict (fun es=>es.modify i fun e=>{e with val:=v}) o).isFreed=false:=by rw[hfo];rfl
            obtain⟨R1,R2,R3⟩:=R.put (f:=Obj.mapDict (fun es=>es.modify i fun e=>{e with val:=v})) ho hfr
            rw[hfo]at R1 R2
            refine⟨_,?_,R1,R2,by cases h;rfl,R3⟩
            have:=vG (prog:=p) (w:=w) (Γ:=Γ) (p:=P) (t:=t) (v:=v) (s:=⟨h,gs,dd,g.tok tk,os⟩) hh (Ef hdb) hg hd hk' (i:=i) (by rw[nG];exact hi)
            show Xg _ _ _ _ _ _ _ ⟨h.update (g.rho j) _,gs,dd,g.tok (tk+1),os⟩
            rw[c2,←c1];exact this
structure Call where
  cd:Xo
  c:Nat
  tk:Nat
  pre:List (Nat×Obj)
  r:Xc
  c':Nat
  tk':Nat
  post:List (Nat×Obj)
def putL(l:List (Nat×Obj))(T:HT):HT:=@List.rec (Nat×Obj) (fun _=>HT) T (fun x _ ih=>ih.putK (Zd x.1 1) x.2) l
def mW(T:HT)(l:List (Nat×Obj))(A:List Claim):List Claim:=
  @List.rec (Nat×Obj) (fun _=>List Claim) A (fun x _ ih=>.obj (T.getK (Zd x.1 1)) (some x.2)::ih) l
def Call.go(k:Call)(cd:Xo)(T:HT)(c tk:Nat)(A:List Claim)(H:Hn):Q:=
  .ok k.r (putL k.post T) k.c' k.tk' (.code cd k.cd::.eq c k.c::.eq tk k.tk::mW T k.pre A) H
def mx(Γ:Ctx):Bool:=@Xu Z6 (fun _=>Bool) (@Xu Z6 (fun _=>Bool) (@Xu Z6 (fun _=>Bool) true (fun _=>false) Γ.past) (fun _=>false) Γ.own) (fun _=>false) Γ.handled
theorem my{Γ:Ctx}(h:mx Γ=true):Γ.handled=none∧Γ.own=none∧Γ.past=none:=by
  obtain⟨_,a,b,_,d⟩:=Γ
  cases a<;>cases b<;>cases d<;>first|exact⟨rfl,rfl,rfl⟩|cases h
def oU(l:List Call):i7:=fun i _ _ cd T c tk A H=>
  @List.rec Call (fun _=>Nat→Q) (fun _=>.no) (fun k _ f i=>@Nat.rec (fun _=>Q) (k.go cd T c tk A H) (fun i' _=>f i') i) l i
def zd(l:List Call):i7:=fun i g Γ cd T c tk A H=>@Xp (fun _=>Q) .no (@Nat.rec (fun _=>Q) (si g cd T c tk A H) (fun i' _=>oU l i' g Γ cd T c tk A H) i) (mx Γ)
def Jz(bl:List (List (Xo×Pos)))(lb:List Call):i7:=fun i g Γ cd T c tk A H=>
    (@List.rec Call (fun _=>List (List (Xo×Pos))→Nat→Q) (fun _ _=>.no) (fun k _ f bs i=>match bs with
      |[]=>.no
      |b::bs=>@Nat.rec (fun _=>Q) (k.go cd T c tk (.bel Γ.below b::A) H) (fun i' _=>f bs i') i) lb bl i)
def zc(l:List Call)(bl:List (List (Xo×Pos)))(lb:List Call):i7:=fun i g Γ cd T c tk A H=>
  @Xp (fun _=>Q) (zd l i g Γ cd T c tk A H)
    (@Xp (fun _=>Q) .no (Jz bl lb (Nat.sub i 500) g Γ cd T c tk A H) (mx Γ)) (Zn 500 i)
def lH(l:List Call)(bl:List (List (Xo×Pos)))(lb lu:List Call):i7:=fun i g Γ cd T c tk A H=>
  @Xp (fun _=>Q) (zc l bl lb i g Γ cd T c tk A H) (oU lu (Nat.sub i 900) g Γ cd T c tk A H) (Zn 900 i)
theorem lI{l:List Call}{i:Nat}{g:Cfg}{Γ:Ctx}{cd:Xo}{T:HT}{c tk:Nat}{A:List Claim}{H:Hn}{f:Leaf}(e:(oU l i g Γ cd T c tk A H).leaf=some f):
    ∃k∈l,(k.go cd T c tk A H).leaf=some f:=by
  induction l generalizing i with
  |nil=>cases e
  |cons k l ih=>
    cases i with
    |zero=>exact⟨k,List.mem_cons_self,e⟩
    |succ i=>obtain⟨k',hk,e'⟩:=ih (i:=i) e;exact⟨k',Qp _ hk,e'⟩
theorem uH(T:HT)(l:List (Nat×Obj))(A:List Claim):∃xs,mW T l A=xs++A∧∀x∈l,Claim.obj (T.getK (x.1+1)) (some x.2)∈xs:=by
  induction l with
  |nil=>exact⟨[],rfl,fun _ h=>by cases h⟩
  |cons y l ih=>
    obtain⟨xs,e,h⟩:=ih
    refine⟨.obj (T.getK (y.1+1)) (some y.2)::xs,?_,fun x hx=>?_⟩
    · show _::mW T l A=_;rw[e];rfl
    · rcases Qt.mp hx with q|q
      · subst q;exact List.mem_cons_self
      · exact Qp _ (h x q)
theorem Call.go_mono{k:Call}{cd:Xo}{T:HT}{c tk:Nat}{A:List Claim}{H:Hn}{f:Leaf}(e:(k.go cd T c tk A H).leaf=some f):∃xs,f.A=xs++A:=by
  obtain⟨xs,ex,_⟩:=uH T k.pre A
  have e':some (⟨k.r,putL k.post T,k.c',k.tk',.code cd k.cd::.eq c k.c::.eq tk k.tk::mW T k.pre A,H⟩:Leaf)=some f:=e
  cases e'
  exact⟨.code cd k.cd::.eq c k.c::.eq tk k.tk::xs,by show _::_::_::mW T k.pre A=_;rw[ex];rfl⟩
theorem mZ(l:List Call):iB (oU l):=fun i g Γ cd T c tk A H f e=>by
  obtain⟨k,_,e⟩:=lI e
  exact Call.go_mono e
theorem putL_get(l:List (Nat×Obj))(T:HT)(hl:(l.map (·.1)).Nodup):∀k o,(putL l T).getK (k+1)=some o→(k,o)∈l∨(k∉l.map (·.1)∧T.getK (k+1)=some o):=by
  induction l with
  |nil=>intro k o h;exact .inr ⟨List.not_mem_nil,h⟩
  |cons y l ih=>
    intro k o h
    have h':((putL l T).putK (y.1+1) y.2).getK (k+1)=some o:=h
    rw[List.map_cons,Qm]at hl
    by_cases q:k=y.1
    · subst q
      rcases HT.put_self y.2 (putL l T) (y.1+1) with z|z
      · rw[z]at h';cases h';exact .inl List.mem_cons_self
      · rw[z]at h';cases h'
    · rw[HT.put_ne _ _ _ _ (by omega) (by omega) (by omega)]at h'
      rcases ih hl.2 k o h' with z|⟨z,w⟩
      · exact .inl (Qp _ z)
      · exact .inr ⟨by rw[List.map_cons,Qt];exact fun h=>h.elim q z,w⟩
theorem mP{α β:Type}{f:α→β}{l:List α}(h:(l.map f).Nodup){a b:α}(ha:a∈l)(hb:b∈l)(e:f a=f b):a=b:=by
  induction l with
  |nil=>cases ha
  |cons x l ih=>
    rw[List.map_cons,Qm]at h
    rcases Qt.mp ha with p|p<;>rcases Qt.mp hb with q|q
    · rw[p,q]
    · subst p;exact absurd (Qq.mpr ⟨b,q,e.symm⟩) h.1
    · subst q;exact absurd (Qq.mpr ⟨a,p,e⟩) h.1
    · exact ih h.2 p q
def TriC(M:Model)(S:HT)(B:Nat)(C:Ctx→Prop)(cd:Xo)(gh pre:gHs)(n t:Nat)(r:Xc)(gh' post:gHs)(n' t':Nat):Prop:=
  (pre.map (·.1)).Nodup→(∀x∈pre,B≤x.1)→B≤n→∀Γ p h gs d os,Γ.code=cd→C Γ→h.objs.size=n→
    (∀a o,S.getK (a+1)=some o→h.get? a=some o)→(∀x∈pre,h.get? x.1=some x.2)→(∀x∈gh,h.get? x.1=some x.2∧x.1∉pre.map (·.1))→
    ∃h',Xg M Γ p (M.den cd) [] ⟨h,gs,d,t,os⟩ (.ret r) ⟨h',gs,d,t',os⟩∧h'.objs.size=n'∧n≤n'∧h'.life=h.life∧(post.map (·.1)).Nodup∧
      (∀x∈post,(x.1∈pre.map (·.1)∨n≤x.1)∧h'.get? x.1=some x.2)∧(∀b,b<n→b∉pre.map (·.1)→∀o,h.get? b=some o→h'.get? b=some o)∧
      ∀x∈gh',h'.get? x.1=some x.2∧x.1∉post.map (·.1)∧(x.1∈gh.map (·.1)∨n≤x.1)
abbrev Tri(M:Model)(S:HT)(B L:Nat):=TriC M S B fun Γ=>Lim Γ L
abbrev TriAt(M:Model)(S:HT)(B L:Nat)(bl:List (Xo×Pos)):=TriC M S B fun Γ=>Lim Γ L∧Γ.below=bl
noncomputable def eD(rho:Nat→Nat)(l:List (Nat×Obj)):gHs:=l.map fun x=>(rho x.1,x.2)
theorem eP(rho:Nat→Nat)(l:List (Nat×Obj)):(eD rho l).map (·.1)=(l.map (·.1)).map rho:=by
  simp[eD,List.map_map,Function.comp_def]
noncomputable def Call.okB(k:Call):Bool:=decide (k.pre.map (·.1)).Nodup&&decide (k.post.map (·.1)).Nodup&&(k.pre.map (·.1)).all fun i=>(k.post.map (·.1)).contains i
def d9(M:Model)(g:Cfg)(C:Ctx→Prop)(k:Call):Prop:=
  k.okB=true∧TriC M g.S g.B C k.cd (g.G k.c) (eD g.rho k.pre) (g.rho k.c) (g.tok k.tk) k.r (g.G k.c') (eD g.rho k.post) (g.rho k.c') (g.tok k.tk')
abbrev bE(M:Model)(g:Cfg)(L:Nat)(k:Call):Prop:=d9 M g (fun Γ=>Lim Γ L) k
theorem Call.go_ok{M:Model}{g:Cfg}{C:Ctx→Prop}{k:Call}(H:d9 M g C k){Γ:Ctx}{cd:Xo}{p:Pos}{T:HT}{c tk:Nat}{A:List Claim}{Hn:Hn}{f:Leaf}(hΓ:Γ.code=cd)(hL:C Γ)(e:(k.go cd T c tk A Hn).leaf=some f):
    SOut M g Γ (M.den cd) p T c tk A f:=by
  obtain⟨xs,ex,hx⟩:=uH T k.pre A
  have e':some (⟨k.r,putL k.post T,k.c',k.tk',.code cd k.cd::.eq c k.c::.eq tk k.tk::mW T k.pre A,Hn⟩:Leaf)=some f:=e
  cases e'
  obtain⟨ok,tri⟩:=H
  simp only[Call.okB,Xs,decide_eq_true_eq,List.all_eq_true,List.contains_iff_mem]at ok
  obtain⟨⟨nd1,nd2⟩,sub⟩:=ok
  refine⟨⟨.code cd k.cd::.eq c k.c::.eq tk k.tk::xs,by show _::_::_::mW T k.pre A=_;rw[ex];rfl⟩,fun S h gs d os R=>?_⟩
  have c1:cd=k.cd:=S (.code cd k.cd) (by simp)
  have c2:c=k.c:=S (.eq c k.c) (by simp)
  have c3:tk=k.tk:=S (.eq tk k.tk) (by simp)
  have c4:∀x∈k.pre,T.getK (x.1+1)=some x.2:=fun x hx'=>S (.obj (T.getK (x.1+1)) (some x.2)) (by
    show _∈_::_::_::mW T k.pre A
    rw[ex];simp[hx x hx'])
  subst c1 c2 c3
  have live:∀i∈k.pre.map (·.1),∃o,T.getK (i+1)=some o:=fun i hi=>by
    obtain⟨x,hx',rfl⟩:=Qq.mp hi
    exact⟨_,c4 x hx'⟩
  have pnd:((eD g.rho k.pre).map (·.1)).Nodup:=by
    rw[eP]
    refine List.pairwise_map.mpr (List.Pairwise.imp_of_mem (fun {a b} ha hb hab=>?_) nd1)
    obtain⟨_,l1⟩:=live _ ha
    obtain⟨_,l2⟩:=live _ hb
    exact fun z=>hab (R.inj _ _ _ _ l1 l2 z)
  obtain⟨h',a1,a2,a3,a4,a5,a6,a7,a8⟩:=tri pnd (fun x hx'=>by
      obtain⟨y,hy,rfl⟩:=Qq.mp hx'
      exact(R.at_ _ _ (c4 y hy)).1) (R.size▸R.big) Γ p h gs d os hΓ hL R.size R.still (fun x hx'=>by
      obtain⟨y,hy,rfl⟩:=Qq.mp hx'
      exact(R.at_ _ _ (c4 y hy)).2) (fun x hx'=>⟨(R.ghost x hx').1,fun z=>by
      rw[eP]at z
      obtain⟨i,hi,e⟩:=Qq.mp z
      obtain⟨_,hi'⟩:=live i hi
      exact(R.ghost x hx').2 _ _ hi' e⟩)
  rw[eP]at a5 a7
  have a6':∀x∈k.post,(g.rho x.1∈(k.pre.map (·.1)).map g.rho∨g.rho k.c≤g.rho x.1)∧h'.get? (g.rho x.1)=some x.2:=fun x hx'=>by
    have:=a6 (g.rho x.1,x.2) (Qq.mpr ⟨x,hx',rfl⟩)
    rwa [eP]at this
  have key:=putL_get k.post T nd2
  have kept:∀j o,T.getK (j+1)=some o→j∉k.post.map (·.1)→g.rho j∉(k.pre.map (·.1)).map g.rho:=fun j o hj hn z=>by
    obtain⟨i,hi,e⟩:=Qq.mp z
    obtain⟨_,hi'⟩:=live i hi
    exact hn (R.inj _ _ _ _ hi' hj e▸sub i hi)
  refine⟨h',a1,⟨a2,a2▸Zu (R.size▸R.big) a3,fun a o ha=>?_,R.under,fun j o hj=>?_,fun i j o o' hi hj hr=>?_,fun x hx=>?_⟩,fun b hb hn=>⟨fun j o hj=>?_,fun o hb'=>?_⟩,a4,by rw[R.size,a2];exact a3⟩
  · refine a7 a (R.size▸Qa (R.still a o ha)) (fun z=>?_) o (R.still a o ha)
    obtain⟨i,hi,e⟩:=Qq.mp z
    obtain⟨_,hi'⟩:=live i hi
    have h1:=R.under a o ha
    have h2:=(R.at_ _ _ hi').1
    omega
  · rcases key j o hj with z|⟨z,y⟩
    · obtain⟨q,w⟩:=a6' _ z
      refine⟨q.elim (fun q=>?_) (fun q=>Zu (R.size▸R.big) q),w⟩
      obtain⟨i,hi,e⟩:=Qq.mp q
      obtain⟨_,hi'⟩:=live i hi
      show g.B≤g.rho j
      rw[←e];exact(R.at_ _ _ hi').1
    · obtain⟨x1,x2⟩:=R.at_ j o y
      exact⟨x1,a7 _ (R.size▸Qa x2) (kept j o y z) o x2⟩
  · have lt:∀j o,T.getK (j+1)=some o→g.rho j<g.rho k.c:=fun j o hj=>R.size▸Qa (R.at_ _ _ hj).2
    have mix:∀i j o o',(i,o)∈k.post→j∉k.post.map (·.1)→T.getK (j+1)=some o'→g.rho i≠g.rho j:=fun i j o o' hi hn hj e=>by
      rcases(a6' _ hi).1 with q|q
      · exact kept j o' hj hn (e▸q)
      · have:=lt j o' hj;have q':g.rho k.c≤g.rho i:=q;omega
    rcases key i o hi with z|⟨z,y⟩<;>rcases key j o' hj with z'|⟨z',y'⟩
    · have hi':i∈k.post.map (·.1):=Qq.mpr ⟨_,z,rfl⟩
      have hj':j∈k.post.map (·.1):=Qq.mpr ⟨_,z',rfl⟩
      exact mP a5 hi' hj' hr
    · exact absurd hr (mix i j o o' z z' y')
    · exact absurd hr.symm (mix j i o' o z' z y)
    · exact R.inj _ _ _ _ y y' hr
  · obtain⟨x1,x2,x3⟩:=a8 x hx
    rw[eP]at x2
    refine⟨x1,fun j o hj e=>?_⟩
    rcases key j o hj with z|⟨z,y⟩
    · exact x2 (Qq.mpr ⟨j,Qq.mpr ⟨_,z,rfl⟩,e⟩)
    · rcases x3 with q|q
      · obtain⟨x',hx',e'⟩:=Qq.mp q
        exact(R.ghost x' hx').2 _ _ y (e.trans e'.symm)
      · have h1:=Qa (R.at_ _ _ y).2
        rw[R.size,e]at h1
        exact Zz _ (Zr h1 q)
  · rcases key j o hj with z|⟨z,y⟩
    · rcases(a6' _ z).1 with q|q
      · obtain⟨i,hi,e⟩:=Qq.mp q
        obtain⟨_,hi'⟩:=live i hi
        have e':g.rho i=g.rho j:=e
        exact e'▸hn _ _ hi'
      · have q':g.rho k.c≤g.rho j:=q
        have:=R.size;omega
    · exact hn _ _ y
  · refine a7 b (R.size▸hb) (fun z=>?_) o hb'
    obtain⟨i,hi,e⟩:=Qq.mp z
    obtain⟨_,hi'⟩:=live i hi
    exact hn _ _ hi' e
theorem K0{M:Model}{g:Cfg}{L:Nat}{l:List Call}(H:∀k∈l,d9 M g (fun Γ=>LimU Γ L) k):kX M g L (oU l):=by
  intro i Γ cd p T c tk A Hn f hΓ hL e
  obtain⟨k,hk,e⟩:=lI e
  exact Call.go_ok (H k hk) hΓ hL e
theorem o8{b:Bool}{q:Q}{f:Leaf}(e:(@Xp (fun _=>Q) .no q b).leaf=some f):b=true∧q.leaf=some f:=by
  cases b with
  |false=>cases e
  |true=>exact⟨rfl,e⟩
theorem BX(l:List Call):iB (zd l):=fun i g Γ cd T c tk A H f e=>by
  obtain⟨_,e⟩:=o8 e
  cases i with
  |succ i=>exact mZ l i g Γ cd T c tk A H f e
  |zero=>
    have e':(si g cd T c tk A H).leaf=some f:=e
    rcases dictO_inv e' with ⟨id,d,k,t,rest,j,H',o,l,n,rfl,ho,hd,hk,hB,e6⟩|⟨d,k,t,j,H',o,l,n,rfl,ho,hc,hd,hi,e6⟩|⟨d,k,t,j,H',o,l,n,rfl,ho,hc,hd,hi,e6⟩
    · exact⟨[.eq d (g.rho j),.eq (g.tok (tk+1)) (Nat.succ (g.tok tk))],l0 e6⟩
    · obtain⟨b,H'',xs,e',hb⟩:=fK e6
      cases e'
      exact⟨xs++[.eq d (g.rho j)],by simp⟩
    · obtain⟨b,H'',xs,e',hb⟩:=fK e6
      cases e'
      exact⟨xs++[.eq d (g.rho j)],by simp⟩
theorem KY{p:Xf}{w:Z8}{g:Cfg}{L:Nat}{l:List Call}(H:∀k∈l,bE (model p w) g L k):kX (model p w) g L (zd l):=by
  intro i Γ cd P T c tk A Hn f hΓ hL e
  obtain⟨hc,e⟩:=o8 e
  have hc:=my hc
  cases i with
  |succ i=>
    obtain⟨k,hk,e⟩:=lI e
    exact Call.go_ok (H k hk) hΓ ⟨hc,hL⟩ e
  |zero=>exact Eg hc.1 e
theorem BW{bl:List (List (Xo×Pos))}{lb:List Call}{j:Nat}{g:Cfg}{Γ:Ctx}{cd:Xo}{T:HT}{c tk:Nat}{A:List Claim}{H:Hn}{f:Leaf}(e:(Jz bl lb j g Γ cd T c tk A H).leaf=some f):
    ∃x∈lb.zip bl,(x.1.go cd T c tk (.bel Γ.below x.2::A) H).leaf=some f:=by
  induction lb generalizing bl j with
  |nil=>cases e
  |cons k lb ih=>
    cases bl with
    |nil=>cases e
    |cons b bs=>
      cases j with
      |zero=>exact⟨(k,b),List.mem_cons_self,e⟩
      |succ j=>
        obtain⟨x,hx,e'⟩:=ih (bl:=bs) (j:=j) e
        exact⟨x,Qp _ hx,e'⟩
theorem orcB_inv{l:List Call}{bl:List (List (Xo×Pos))}{lb:List Call}{i:Nat}{g:Cfg}{Γ:Ctx}{cd:Xo}{T:HT}{c tk:Nat}{A:List Claim}{H:Hn}{f:Leaf}(e:(zc l bl lb i g Γ cd T c tk A H).leaf=some f):
    (zd l i g Γ cd T c tk A H).leaf=some f∨(mx Γ=true∧∃x∈lb.zip bl,(x.1.go cd T c tk (.bel Γ.below x.2::A) H).leaf=some f):=by
  unfold zc at e
  cases hb:Zn 500 i with
  |false=>rw[hb]at e;exact .inl e
  |true=>
    rw[hb]at e
    obtain⟨hc,e⟩:=o8 e
    exact .inr ⟨hc,BW e⟩
theorem orcU_inv{l:List Call}{bl:List (List (Xo×Pos))}{lb lu:List Call}{i:Nat}{g:Cfg}{Γ:Ctx}{cd:Xo}{T:HT}{c tk:Nat}{A:List Claim}{H:Hn}{f:Leaf}(e:(lH l bl lb lu i g Γ cd T c tk A H).leaf=some f):
    (zc l bl lb i g Γ cd T c tk A H).leaf=some f∨(oU lu (i-900) g Γ cd T c tk A H).leaf=some f:=by
  unfold lH at e
  cases hb:Zn 900 i with
  |false=>rw[hb]at e;exact .inl e
  |true=>rw[hb]at e;exact .inr e
theorem rx(l:List Call)(bl:List (List (Xo×Pos)))(lb lu:List Call):iB (lH l bl lb lu):=fun i g Γ cd T c tk A H f e=>by
  rcases orcU_inv e with e|e
  · rcases orcB_inv e with e|⟨_,x,_,e⟩
    · exact BX l i g Γ cd T c tk A H f e
    · obtain⟨xs,hx⟩:=Call.go_mono e
      exact⟨xs++[.bel Γ.below x.2],by rw[hx];simp⟩
  · exact mZ lu _ g Γ cd T c tk A H f e
theorem ww{p:Xf}{w:Z8}{g:Cfg}{L:Nat}{l:List Call}{bl:List (List (Xo×Pos))}{lb lu:List Call}(H:∀k∈l,bE (model p w) g L k)
    (HB:∀x∈lb.zip bl,d9 (model p w) g (fun Γ=>Lim Γ L∧Γ.below=x.2) x.1) (HU:∀k∈lu,d9 (model p w) g (fun Γ=>LimU Γ L) k):kX (model p w) g L (lH l bl lb lu):=by
  intro i Γ cd P T c tk A Hn f hΓ hL e
  rcases orcU_inv e with e|e
  · rcases orcB_inv e with e|⟨hc,x,hx,e⟩
    · exact KY H i Γ cd P T c tk A Hn f hΓ hL e
    · obtain⟨xs,hxs⟩:=Call.go_mono e
      refine⟨⟨xs++[.bel Γ.below x.2],by rw[hxs];simp⟩,fun Sx=>?_⟩
      have hb:Γ.below=x.2:=Sx (.bel Γ.below x.2) (by rw[hxs];simp)
      exact(Call.go_ok (HB x hx) hΓ ⟨⟨my hc,hL⟩,hb⟩ e).2 Sx
  · exact K0 HU _ Γ cd P T c tk A Hn f hΓ hL e
def mX(l:List Call):i7:=fun i g Γ cd T c tk A H=>@Xp (fun _=>Q) .no (oU l i g Γ cd T c tk A H) (mx Γ)
theorem mY(l:List Call):iB (mX l):=fun i g Γ cd T c tk A H f e=>mZ l i g Γ cd T c tk A H f (o8 e).2
theorem wu{M:Model}{g:Cfg}{L:Nat}{l:List Call}(H:∀k∈l,bE M g L k):kX M g L (mX l):=by
  intro i Γ cd P T c tk A Hn f hΓ hL e
  obtain⟨hc,e⟩:=o8 e
  obtain⟨k,hk,e⟩:=lI e
  exact Call.go_ok (H k hk) hΓ ⟨my hc,hL⟩ e
def ff(q:Q)(post:List (Nat×Obj))(s:Xe):Bool×Xc×Nat×Nat×List (Option Obj)×List (Bool×Bool)×List Claim×List (Xj Z3):=
  (q.isOk,q.val,q.cnt,q.tks,post.map (fun x=>q.tree.getK (Zd x.1 1)),condsOf q.claims,q.claims,hV s q.claims)
def fa(q:Q)(r:Xc)(c' tk':Nat)(post:List (Nat×Obj))(cs:List (Bool×Bool))(s:Xe):Bool×Xc×Nat×Nat×List (Option Obj)×List (Bool×Bool)×List Claim×List (Xj Z3):=
  (true,r,c',tk',post.map (fun x=>some x.2),cs,q.claims.map Claim.twice,hV s q.claims)
theorem TriC.of_se{W:Xo→WT}(hW:∀p w,tL (model p w) W){C:Ctx→Prop}{O:i7}(hO:iB O){p:Xf}{w:Z8}{S:HT}{B:Nat}{G:Nat→gHs}{st st₂:Xe}(hst:(⟨p,w.params⟩:Xe)=st∨(⟨p,w.params⟩:Xe)=st₂)(hS:S.Under B){rho tok:Nat→Nat}{L N:Nat}{cd:Xo}{pre:List (Nat×Obj)}{c tk:Nat}{H:Hn}
    {r:Xc} {c' tk':Nat} {post:List (Nat×Obj)} {cs:List (Bool×Bool)}
    (hOk:kX (model p w) ⟨S,B,rho,tok,G,st⟩ L O) (hpre:(pre.map (·.1)).Nodup) (hpost:(post.map (·.1)).Nodup)
    (hC:∀Γ,C Γ→Lim Γ (N+L)) (hq:∀bl P,C ⟨cd,none,none,bl,none⟩→ff (se W O ⟨S,B,rho,tok,G,st⟩ N ⟨cd,none,none,bl,none⟩ cd P (putL pre .nil) c tk [] H) post st₂
     =fa (se W O ⟨S,B,rho,tok,G,st⟩ N ⟨cd,none,none,bl,none⟩ cd P (putL pre .nil) c tk [] H) r c' tk' post cs st)
    (hcs:∀x∈cs,x.1=x.2) (hgrow:∀x∈G c',x.1∈(G c).map (·.1)∨rho c≤x.1):TriC (model p w) S B C cd (G c) (eD rho pre) (rho c) (tok tk) r (G c') (eD rho post) (rho c') (tok tk'):=by
  intro nd lo big Γ P h gs d os hΓ hCΓ hn hs hp hgh
  have hL:=hC Γ hCΓ
  have snd:=oV (model p w) ⟨S,B,rho,tok,G,st⟩ W (hW p w) O (hO) L hOk N Γ cd P (putL pre .nil) c tk [] H
  have hG:Γ=⟨cd,none,none,Γ.below,none⟩:=by
    obtain⟨⟨h1,h2,h3⟩,_⟩:=hL
    obtain⟨a1,a2,a3,a4,a5⟩:=Γ
    simp only at hΓ h1 h2 h3
    rw[hΓ,h1,h2,h3]
  have e:=hq Γ.below P (hG▸hCΓ)
  rw[←hG]at e
  revert e snd
  generalize se W O ⟨S,B,rho,tok,G,st⟩ N Γ cd P (putL pre .nil) c tk [] H=q
  intro snd e
  cases q with
  |fork|no=>simp[ff,fa,Q.isOk]at e
  |ok r₁ T' c₁ tk₁ A₁ H₁=>
    simp only[ff,fa,Q.isOk,Q.val,Q.cnt,Q.tks,Q.tree,Q.claims,Prod.mk.injEq,true_and]at e
    obtain⟨rfl,rfl,rfl,e1,e2,e3,e4⟩:=e
    rw[eP]at nd
    have get0:∀k o,(putL pre .nil).getK (k+1)=some o→(k,o)∈pre:=fun k o hk=>by
      rcases putL_get pre .nil hpre k o hk with z|⟨_,z⟩
      · exact z
      · cases z
    have R:Rep ⟨S,B,rho,tok,G,st⟩ h (putL pre .nil) c:=by
      refine⟨hn,hn▸big,hs,hS,fun k o hk=>?_,fun i j o o' hi hj hr=>?_,fun x hx=>⟨(hgh x hx).1,fun k o hk e=>(hgh x hx).2 (by rw[eP];exact Qq.mpr ⟨k,Qq.mpr ⟨_,get0 k o hk,rfl⟩,e⟩)⟩⟩
      · have:=get0 k o hk
        exact⟨lo (rho k,o) (Qq.mpr ⟨_,this,rfl⟩),hp (rho k,o) (Qq.mpr ⟨_,this,rfl⟩)⟩
      · exact mP nd (Qq.mpr ⟨_,get0 i o hi,rfl⟩) (Qq.mpr ⟨_,get0 j o' hj,rfl⟩) hr
    obtain⟨_,K⟩:=snd _ hΓ hL.u rfl
    obtain⟨h',a1,R',a3,a4,a5⟩:=K (tN e3 (by intro x hx;exact hcs x (e2▸hx)) e4 hst) h gs d os R
    have tget:∀x∈post,T'.getK (x.1+1)=some x.2:=fun x hx=>by
      have:=List.map_inj_left.mp e1 x hx
      exact this
    have free:∀b,b∉(eD rho pre).map (·.1)→w0 ⟨S,B,rho,tok,G,st⟩ (putL pre .nil) b:=fun b hb k o hk e=>by
      have:=get0 k o hk
      exact hb (by rw[eP];exact e▸Qq.mpr ⟨k,Qq.mpr ⟨_,this,rfl⟩,rfl⟩)
    refine⟨h',a1,R'.size,by have q:h'.objs.size=rho c₁:=R'.size;rw[←q,←hn];exact a5,a4,?_,fun x hx=>?_,fun b hb hn' o ho=>(a3 b (hn.symm▸hb) (free b hn')).2 o ho,fun x hx=>?_⟩
    · rw[eP]
      refine List.pairwise_map.mpr (List.Pairwise.imp_of_mem (fun {a b} ha hb hab=>?_) hpost)
      obtain⟨x,hx,rfl⟩:=Qq.mp ha
      obtain⟨y,hy,rfl⟩:=Qq.mp hb
      exact fun z=>hab (R'.inj _ _ _ _ (tget x hx) (tget y hy) z)
    · obtain⟨y,hy,rfl⟩:=Qq.mp hx
      have ty:=tget y hy
      refine⟨?_,(R'.at_ _ _ ty).2⟩
      by_cases q:rho y.1∈(eD rho pre).map (·.1)
      · exact .inl q
      · right
        refine Z0 fun z=>?_
        exact(a3 (rho y.1) (hn.symm▸z) (free _ q)).1 _ _ ty rfl
    · obtain⟨x1,x2⟩:=R'.ghost x hx
      refine⟨x1,fun z=>?_,?_⟩
      · rw[eP]at z
        obtain⟨i,hi,e⟩:=Qq.mp z
        obtain⟨y,hy,rfl⟩:=Qq.mp hi
        exact x2 _ _ (tget y hy) e
      · exact hgrow x hx
theorem Tri.of_se{W:Xo→WT}(hW:∀p w,tL (model p w) W){p:Xf}{w:Z8}{S:HT}{B:Nat}{G:Nat→gHs}{st st₂:Xe}(hst:(⟨p,w.params⟩:Xe)=st∨(⟨p,w.params⟩:Xe)=st₂)(hS:S.Under B){rho tok:Nat→Nat}{calls lu:List Call}{L N:Nat}{cd:Xo}{pre:List (Nat×Obj)}{c tk:Nat}{H:Hn}
    {r:Xc} {c' tk':Nat} {post:List (Nat×Obj)} {cs:List (Bool×Bool)}
    (hcalls:∀k∈calls,bE (model p w) ⟨S,B,rho,tok,G,st⟩ L k) (hu:∀k∈lu,d9 (model p w) ⟨S,B,rho,tok,G,st⟩ (fun Γ=>LimU Γ L) k) (hpre:(pre.map (·.1)).Nodup) (hpost:(post.map (·.1)).Nodup)
    (hq:∀bl P,ff (se W (lH calls [] [] lu) ⟨S,B,rho,tok,G,st⟩ N ⟨cd,none,none,bl,none⟩ cd P (putL pre .nil) c tk [] H) post st₂
     =fa (se W (lH calls [] [] lu) ⟨S,B,rho,tok,G,st⟩ N ⟨cd,none,none,bl,none⟩ cd P (putL pre .nil) c tk [] H) r c' tk' post cs st)
    (hcs:∀x∈cs,x.1=x.2) (hgrow:∀x∈G c',x.1∈(G c).map (·.1)∨rho c≤x.1):Tri (model p w) S B (N+L) cd (G c) (eD rho pre) (rho c) (tok tk) r (G c') (eD rho post) (rho c') (tok tk'):=
  TriC.of_se hW (rx calls [] [] lu) hst hS (ww hcalls (fun x hx=>nomatch hx) hu) hpre hpost (fun _ h=>h) (fun bl P _=>hq bl P) hcs hgrow
theorem TriAt.of_se{W:Xo→WT}(hW:∀p w,tL (model p w) W){p:Xf}{w:Z8}{S:HT}{B:Nat}{G:Nat→gHs}{st st₂:Xe}(hst:(⟨p,w.params⟩:Xe)=st∨(⟨p,w.params⟩:Xe)=st₂)(hS:S.Under B){rho tok:Nat→Nat}{calls:List Call}{bls:List (List (Xo×Pos))}{callsB lu:List Call}{L N:Nat}{cd:Xo}{bl:List (Xo×Pos)}{pre:List (Nat×Obj)}{c tk:Nat}{H:Hn}
    {r:Xc} {c' tk':Nat} {post:List (Nat×Obj)} {cs:List (Bool×Bool)}
    (hcalls:∀k∈calls,bE (model p w) ⟨S,B,rho,tok,G,st⟩ L k) (hB:∀x∈callsB.zip bls,d9 (model p w) ⟨S,B,rho,tok,G,st⟩ (fun Γ=>Lim Γ L∧Γ.below=x.2) x.1) (hu:∀k∈lu,d9 (model p w) ⟨S,B,rho,tok,G,st⟩ (fun Γ=>LimU Γ L) k) (hpre:(pre.map (·.1)).Nodup) (hpost:(post.map (·.1)).Nodup)
    (hq:∀P,ff (se W (lH calls bls callsB lu) ⟨S,B,rho,tok,G,st⟩ N ⟨cd,none,none,bl,none⟩ cd P (putL pre .nil) c tk [] H) post st₂
     =fa (se W (lH calls bls callsB lu) ⟨S,B,rho,tok,G,st⟩ N ⟨cd,none,none,bl,none⟩ cd P (putL pre .nil) c tk [] H) r c' tk' post cs st)
    (hcs:∀x∈cs,x.1=x.2) (hgrow:∀x∈G c',x.1∈(G c).map (·.1)∨rho c≤x.1):TriAt (model p w) S B (N+L) bl cd (G c) (eD rho pre) (rho c) (tok tk) r (G c') (eD rho post) (rho c') (tok tk'):=
  TriC.of_se hW (rx calls bls callsB lu) hst hS (ww hcalls hB hu) hpre hpost (fun _ h=>h.1) (fun bl' P h=>by
    have h2:bl'=bl:=h.2
    subst h2;exact hq P) hcs hgrow
theorem bS{g:gHs}{n:Nat}:∀x∈g,x.1∈g.map (·.1)∨n≤x.1:=fun x hx=>.inl (Qq.mpr ⟨x,hx,rfl⟩)
def ca{α:Type}(m:Xj α)(f:α→Xj Z3)(r:Z6→Xj Z3):Xj Z3:=
 Sem.rec (motive:=fun _=>Xj Z3) (pure:=f) (raise:=r) (unsupported:=fun w=>.unsupported w) (finish:=fun _=>.unsupported "")
  (rule:=fun t _ k=>.rule t k) («at»:=fun q _ k=>.at q k) (load:=fun a p _ k=>.load a p k) (update:=fun a p g _ k=>.update a p g k) (alloc:=fun o _ k=>.alloc o k)
  (loadIfAlive:=fun a _ k=>.loadIfAlive a k) (point:=fun l _ k=>.point l k) (register:=fun _ _ _=>.unsupported "") (fresh:=fun _ k=>.fresh k) (ask:=fun _ k=>.ask k)
  (choose:=fun _ _ _ _=>.unsupported "") (os:=fun _ _ _ _=>.unsupported "") (call:=fun c h g l _ k=>.call c h g l k) (handled:=fun o _ k=>.handled o k) (newGen:=fun _ _ _=>.unsupported "")
  (genState:=fun _ _ _=>.unsupported "") (resume:=fun _ _ _ _ _=>.unsupported "") (yield:=fun _ _ _ _ _=>.unsupported "") (stack:=fun _ k=>.stack k) (fork:=fun _ _ _=>.unsupported "")
  (thread:=fun _ k=>.thread k) (await:=fun _ _ _ _ _ _=>.unsupported "") m
noncomputable def aJ{α:Type}:Xj α→(α→Xj Z3)→(Z6→Xj Z3)→Xj Z3
 |.pure a,f,_=>f a
 |.raise e,_,r=>r e
 |.unsupported w,_,_=>.unsupported w
 |.finish e,_,_=>.finish e
 |.rule t k,f,r=>.rule t fun x=>aJ (k x) f r
 |.at p k,f,r=>.at p fun x=>aJ (k x) f r
 |.load a p k,f,r=>.load a p fun x=>aJ (k x) f r
 |.update a p g k,f,r=>.update a p g fun x=>aJ (k x) f r
 |.alloc o k,f,r=>.alloc o fun x=>aJ (k x) f r
 |.register a k,f,r=>.register a fun x=>aJ (k x) f r
 |.loadIfAlive a k,f,r=>.loadIfAlive a fun x=>aJ (k x) f r
 |.point l k,f,r=>.point l fun x=>aJ (k x) f r
 |.fresh k,f,r=>.fresh fun x=>aJ (k x) f r
 |.ask k,f,r=>.ask fun x=>aJ (k x) f r
 |.choose s n k,f,r=>.choose s n fun x=>aJ (k x) f r
 |.os q l k,f,r=>.os q l fun x=>aJ (k x) f r
 |.call c h g l k,f,r=>.call c h g l fun x=>aJ (k x) f r
 |.handled o k,f,r=>.handled o fun x=>aJ (k x) f r
 |.genState g k,f,r=>.genState g fun x=>aJ (k x) f r
 |.newGen c k,f,r=>.newGen c fun x=>aJ (k x) f r
 |.resume g q l k,f,r=>.resume g q l fun x=>aJ (k x) f r
 |.yield v g l k,f,r=>.yield v g l fun x=>aJ (k x) f r
 |.stack k,f,r=>.stack fun x=>aJ (k x) f r
 |.fork c k,f,r=>.fork c fun x=>aJ (k x) f r
 |.thread k,f,r=>.thread fun x=>aJ (k x) f r
 |.await a t d l k,f,r=>.await a t d l fun x=>aJ (k x) f r
theorem l4{α:Type}(h:Z6→Xj Unit)(F:α→Xj Z3)(m:Xj α):(m.onRaise h).bind F=aJ m F fun e=>((h e).bind fun _=>Sem.raise e).bind F:=by
 induction m with
 |pure|raise|unsupported|finish=>rfl
 |rule t k i=>exact congrArg (Sem.rule t) (funext i)
 |«at» p k i=>exact congrArg (Sem.at p) (funext i)
 |load a p k i=>exact congrArg (Sem.load a p) (funext i)
 |update a p g k i=>exact congrArg (Sem.update a p g) (funext i)
 |alloc o k i=>exact congrArg (Sem.alloc o) (funext i)
 |register a k i=>exact congrArg (Sem.register a) (funext i)
 |loadIfAlive a k i=>exact congrArg (Sem.loadIfAlive a) (funext i)
 |point l k i=>exact congrArg (Sem.point l) (funext i)
 |fresh k i=>exact congrArg (Sem.fresh) (funext i)
 |ask k i=>exact congrArg (Sem.ask) (funext i)
 |choose s n k i=>exact congrArg (Sem.choose s n) (funext i)
 |os q l k i=>exact congrArg (Sem.os q l) (funext i)
 |call c h g l k i=>exact congrArg (Sem.call c h g l) (funext i)
 |handled o k i=>exact congrArg (Sem.handled o) (funext i)
 |genState g k i=>exact congrArg (Sem.genState g) (funext i)
 |newGen c k i=>exact congrArg (Sem.newGen c) (funext i)
 |resume g q l k i=>exact congrArg (Sem.resume g q l) (funext i)
 |yield v g l k i=>exact congrArg (Sem.yield v g l) (funext i)
 |stack k i=>exact congrArg (Sem.stack) (funext i)
 |fork c k i=>exact congrArg (Sem.fork c) (funext i)
 |thread k i=>exact congrArg (Sem.thread) (funext i)
 |await a t d l k i=>exact congrArg (Sem.await a t d l) (funext i)
theorem bb{α β:Type}(m:Xj α)(k:α→Xj β)(f:β→Xj Z3)(r:Z6→Xj Z3):aJ (m.bind k) f r=aJ m (fun a=>aJ (k a) f r) r:=by
 induction m with
 |pure|raise|unsupported|finish=>rfl
 |rule t k i=>exact congrArg (Sem.rule t) (funext i)
 |«at» p k i=>exact congrArg (Sem.at p) (funext i)
 |load a p k i=>exact congrArg (Sem.load a p) (funext i)
 |update a p g k i=>exact congrArg (Sem.update a p g) (funext i)
 |alloc o k i=>exact congrArg (Sem.alloc o) (funext i)
 |register a k i=>exact congrArg (Sem.register a) (funext i)
 |loadIfAlive a k i=>exact congrArg (Sem.loadIfAlive a) (funext i)
 |point l k i=>exact congrArg (Sem.point l) (funext i)
 |fresh k i=>exact congrArg (Sem.fresh) (funext i)
 |ask k i=>exact congrArg (Sem.ask) (funext i)
 |choose s n k i=>exact congrArg (Sem.choose s n) (funext i)
 |os q l k i=>exact congrArg (Sem.os q l) (funext i)
 |call c h g l k i=>exact congrArg (Sem.call c h g l) (funext i)
 |handled o k i=>exact congrArg (Sem.handled o) (funext i)
 |genState g k i=>exact congrArg (Sem.genState g) (funext i)
 |newGen c k i=>exact congrArg (Sem.newGen c) (funext i)
 |resume g q l k i=>exact congrArg (Sem.resume g q l) (funext i)
 |yield v g l k i=>exact congrArg (Sem.yield v g l) (funext i)
 |stack k i=>exact congrArg (Sem.stack) (funext i)
 |fork c k i=>exact congrArg (Sem.fork c) (funext i)
 |thread k i=>exact congrArg (Sem.thread) (funext i)
 |await a t d l k i=>exact congrArg (Sem.await a t d l) (funext i)
theorem bY{α:Type}(m:Xj α)(F f:α→Xj Z3)(R r:Z6→Xj Z3)(H:∀a,Sim true (F a) (f a))(HR:∀e,Sim true (R e) (r e)):Sim true (aJ m F R) (ca m f r):=by
 induction m with
 |pure a=>exact H a
 |raise e=>exact HR e
 |ask k kih=>exact .ask kih
 |unsupported|finish|register|choose|os|newGen|genState|resume|yield|fork|await=>exact .unsupported _
 |rule t k kih=>exact .rule _ _ (kih ())
 |«at» q k kih=>exact .at _ (kih ())
 |load a p k kih=>exact .load _ _ _ kih
 |update a p g k kih=>exact .update _ _ _ _ (kih ())
 |alloc o k kih=>exact .alloc _ kih
 |loadIfAlive a k kih=>exact .loadIfAlive _ kih
 |point l k kih=>exact .point _ _ (kih ())
 |fresh k kih=>exact .fresh kih
 |call c hd g l k kih=>exact .call _ _ _ _ _ _ kih
 |handled o k kih=>exact .handled _ kih
 |stack k kih=>exact .stack kih
 |thread k kih=>exact .thread (kih 0)
theorem vJ{α:Type}(m:Xj α)(G:Except Z6 α→Xj Z3)(R:Z6→Xj Z3)(f:α→Xj Z3)(r:Z6→Xj Z3)(H:∀a,Sim true (G (.ok a)) (f a))(HR:∀e,Sim true (G (.error e)) (r e)):
  Sim true (aJ m.attempt G R) (ca m f r):=by
 induction m with
 |pure a=>exact H a
 |raise e=>exact HR e
 |ask k kih=>exact .ask kih
 |unsupported|finish|register|choose|os|newGen|genState|resume|yield|fork|await=>exact .unsupported _
 |rule t k kih=>exact .rule _ _ (kih ())
 |«at» q k kih=>exact .at _ (kih ())
 |load a p k kih=>exact .load _ _ _ kih
 |update a p g k kih=>exact .update _ _ _ _ (kih ())
 |alloc o k kih=>exact .alloc _ kih
 |loadIfAlive a k kih=>exact .loadIfAlive _ kih
 |point l k kih=>exact .point _ _ (kih ())
 |fresh k kih=>exact .fresh kih
 |call c hd g l k kih=>exact .call _ _ _ _ _ _ kih
 |handled o k kih=>exact .handled _ kih
 |stack k kih=>exact .stack kih
 |thread k kih=>exact .thread (kih 0)
theorem Ez{α:Type}(vs:List Z6)(m:Xj α)(F f:α→Xj Z3)(R r:Z6→Xj Z3)(H:∀a,Sim true (F a) (f a))(HR:∀e,Sim true (R e) (r e)):Sim true (aJ (m.keep vs) F R) (ca m f r):=by
 induction m with
 |pure a=>exact H a
 |raise e=>exact HR e
 |ask k kih=>exact .ask kih
 |unsupported|finish|register|choose|os|newGen|genState|resume|yield|fork|await=>exact .unsupported _
 |rule t k kih=>exact .rule _ _ (kih ())
 |«at» q k kih=>exact .at _ (kih ())
 |load a p k kih=>exact .load _ _ _ kih
 |update a p g k kih=>exact .update _ _ _ _ (kih ())
 |alloc o k kih=>exact .alloc _ kih
 |loadIfAlive a k kih=>exact .loadIfAlive _ kih
 |point l k kih=>exact .point _ _ (kih ())
 |fresh k kih=>exact .fresh kih
 |call c hd g l k kih=>exact .call _ _ _ _ _ _ kih
 |handled o k kih=>exact .handled _ kih
 |stack k kih=>exact .stack kih
 |thread k kih=>exact .thread (kih 0)
theorem jg{α:Type}(vs:List Z6)(m:Xj α)(F f:α→Xj Z3)(R r:Z6→Xj Z3)(H:∀a,Sim true (F a) (f a))(HR:∀e,Sim true (R e) (r e)):Sim true (aJ (holding vs m) F R) (ca m f r):=by
 unfold holding
 split
 ·exact bY m F f R r H HR
 ·exact Ez _ m F f R r H HR
noncomputable def fY(f:Z9)(hadNext:Bool)(acts:List (Xo×Pos)):List Z6:=
 match acts.find? fun (c,_)=>c.env?.bind (·.frame)==some f with
 |some (_,pos)=>if pos.line==0 then [] else [rawInt pos.line,rawInt pos.endLine,rawInt pos.col,rawInt pos.endCol]++EntryCells.cells f hadNext acts
 |none=>[]
theorem Fm(f:Z9)(hadNext:Bool):entryPlaceOf f hadNext=Sem.stack fun acts=>.pure (fY f hadNext acts):=by
 unfold entryPlaceOf
 show Sem.stack _=Sem.stack _
 congr 1;funext acts
 unfold fY
 show (match acts.find? fun (c,_)=>c.env?.bind (·.frame)==some f with|some (_,pos)=>_|none=>_)=_
 cases acts.find? fun (c,_)=>c.env?.bind (·.frame)==some f<;>rfl
def oz(f:Z9)(had:Bool)(acts:List (Xo×Pos))(i:Nat):Z6:=(if (fY f had acts).isEmpty then List.replicate 6 Qd else fY f had acts).getD i .none
theorem QH{l:List Z6}(h:l.length=6):l=[l.getD 0 .none,l.getD 1 .none,l.getD 2 .none,l.getD 3 .none,l.getD 4 .none,l.getD 5 .none]:=by
 match l,h with
 |[_,_,_,_,_,_],_=>rfl
theorem F5(f:Z9)(had:Bool)(acts:List (Xo×Pos)):(if (fY f had acts).isEmpty then List.replicate 6 Qd else fY f had acts).length=6:=by
 cases hp:(fY f had acts).isEmpty with
 |true=>rfl
 |false=>
  rw[if_neg Xr]
  revert hp
  unfold fY
  split
  ·split
   ·intro h;cases h
   ·intro _
    unfold EntryCells.cells
    split<;>rfl
  ·intro h;cases h
def uG(head fr:Z6)(f:Z9)(had:Bool)(acts:List (Xo×Pos)):Xj Z6:=
 newFields "traceback" [head,fr,.none,rawInt f,.none,oz f had acts 0,oz f had acts 1,oz f had acts 2,oz f had acts 3,oz f had acts 4,oz f had acts 5]
theorem KS(head fr:Z6)(f:Z9)(had:Bool)(acts:List (Xo×Pos)):EntryCells.newEntry head fr .none (rawInt f) .none (fY f had acts)=uG head fr f had acts:=by
 have:=QH (F5 f had acts)
 unfold EntryCells.newEntry uG
 congr 1
 show [head,fr,.none,rawInt f,.none]++_=[head,fr,.none,rawInt f,.none]++_
 congr 1
noncomputable def oQ(L:List (Xo×Pos)):List Env:=(L.filter (·.1.isFrame)).filterMap (·.1.env?)
def ll(f:Z9)(k:Z6→Xj Z3)(r:Z6→Xj Z3):Xj Z3:=
 .stack fun L=>match oQ L with
  |[]=>.unsupported ""
  |E::rest=>match E.frame with
   |Xt=>.unsupported ""
   |some f0=>.await f0 (fun _=>Xt) false [.int (.ofNat f) 0] fun _=>ca (Fast.tw9112722382718976056 (E::rest)) (fun _=>k (.ref f)) r
theorem vu(env:Env)(f:Z9)(hf:env.frame=some f)(K k:Z6→Xj Z3)(R r:Z6→Xj Z3)(hR:∀e,Sim true (R e) (r e))(H:Sim true (K (.ref f)) (k (.ref f))):
  Sim true (aJ (frameOf env) K R) (ll f k r):=by
 refine .stack fun L=>?_
 show Sim true (aJ (Xz (frameObject ((oQ L).dropWhile (·.frame != env.frame))) _) K R) _
 cases hL:oQ L with
 |nil=>exact .unsupported _
 |cons E rest=>
  show Sim true _ (match E.frame with|Xt=>_|some f0=>_)
  cases hE:E.frame with
  |none=>exact .unsupported _
  |some f0=>
   refine .claim _ _ _ _ _ _ fun e=>?_
   subst e
   rw[List.dropWhile_cons,if_neg (by rw[hE,hf];simp)]
   rw[bb]
   show Sim true (aJ (Xz (readyFrames (E::rest)) fun _=>Sem.pure (E.frame.map Qc)) _ R) _
   rw[bb,←Fast.te9112722382718976056]
   refine bY _ _ _ _ _ (fun _=>?_) hR
   show Sim true (aJ (match E.frame.map Qc with|some f=>Sem.pure f|Xt=>_) K R) _
   rw[hE]
   exact H
def pO(e:Z6)(env:Env)(k:Xj Z3)(r:Z6→Xj Z3):Xj Z3:=
 match env.frame with
 |Xt=>.unsupported ""
 |some f=>
  let rest (head:Z6) (had:Bool):Xj Z3:=ll f (fun fr=>.stack fun acts=>ca (uG head fr f had acts) (fun en=>ca (setField e 1 en) (fun _=>k) r) r) r
  ca (field e 1) (fun head=>match head with
   |.none=>rest .none false
   |.ref a=>ca (field (.ref a) 3) (fun v=>match v with
    |.int (.ofNat x) 0=>.await x (fun _=>Xt) false [.int (.ofNat f) 0] fun _=>k
    |.none=>ca (setField (.ref a) 3 .none) (fun _=>rest (.ref a) true) r
    |_=>.unsupported "") r
   |_=>.unsupported "") r
theorem oT(e:Z6)(env:Env)(K:Unit→Xj Z3)(R:Z6→Xj Z3)(k:Xj Z3)(r:Z6→Xj Z3)(hR:∀e,Sim true (R e) (r e))(H:Sim true (K ()) k):Sim true (aJ (noteFrame e env) K R) (pO e env k r):=by
 unfold noteFrame pO
 cases hf:env.frame with
 |none=>exact .unsupported _
 |some f=>
  have rest:∀head had,Sim true (aJ (Xz (frameOf env) fun fr=>Xz (entryPlaceOf f had) fun pl=>Xz (EntryCells.newEntry head fr .none (rawInt f) .none pl) fun en=>setField e 1 en) K R)
    (ll f (fun fr=>.stack fun acts=>ca (uG head fr f had acts) (fun en=>ca (setField e 1 en) (fun _=>k) r) r) r):=fun head had=>by
   rw[bb]
   refine vu env f hf _ _ R r hR ?_
   show Sim true (aJ (Xz (entryPlaceOf f had) _) K R) _
   rw[Fm]
   refine .stack fun acts=>?_
   show Sim true (aJ (Xz (EntryCells.newEntry head (.ref f) .none (rawInt f) .none (fY f had acts)) fun en=>setField e 1 en) K R) _
   rw[bb,KS]
   refine bY _ _ _ _ _ (fun en=>?_) hR
   exact bY _ _ _ _ _ (fun _=>H) hR
  show Sim true (aJ (Xz (field e 1) _) K R) _
  rw[bb]
  refine bY _ _ _ _ _ (fun head=>?_) hR
  cases head with
  |none=>exact rest .none false
  |ref a=>
   show Sim true (aJ (if (Qc a != Qd)=true then Xz (field (.ref a) 3) _ else _) K R) _
   rw[if_pos (show (Qc a != Qd)=true from rfl),bb]
   refine bY _ _ _ _ _ (fun v=>?_) hR
   have go:(v==rawInt (f:Int))=false→Sim true (aJ (if (v==rawInt (f:Int))=true then Sem.pure () else Xz (setField (.ref a) 3 .none) fun _=>Xz (frameOf env) fun fr=>Xz (entryPlaceOf f (Qc a != Qd)) fun pl=>Xz (EntryCells.newEntry (.ref a) fr .none (rawInt f) .none pl) fun en=>setField e 1 en) K R)
     (ca (setField (.ref a) 3 .none) (fun _=>ll f (fun fr=>.stack fun acts=>ca (uG (.ref a) fr f true acts) (fun en=>ca (setField e 1 en) (fun _=>k) r) r) r) r):=fun hv=>by
    rw[if_neg (by rw[hv];exact Xr),bb]
    exact bY _ _ _ _ _ (fun _=>rest (.ref a) true) hR
   cases v with
   |none=>exact go rfl
   |int x u=>
    cases x with
    |negSucc=>exact .unsupported _
    |ofNat x=>
     cases u with
     |succ=>exact .unsupported _
     |zero=>
      refine .claim _ _ _ _ _ _ fun ex=>?_
      show Sim true (aJ (if (Qe (Zo x) 0==rawInt (f:Int))=true then Sem.pure () else _) K R) _
      rw[if_pos (by rw[ex];simp[rawInt])]
      exact H
   |_=>exact .unsupported _
  |_=>exact .unsupported _
def iZ(e:Z6)(r:Z6→Xj Z3):Xj Z3:=
 .handled false fun hd=>match e with
  |.ref a=>match hd with
   |some h=>.await 0 (fun _=>Xt) false [.bool (h != e)] fun b=>@Xp (fun _=>Xj Z3) (r e)
     (ca (runValue (.builtin "proto.unchain" ⟨[e,h,h,.bool false],[]⟩)) (fun _=>ca (updateField a 2 h) (fun _=>r e) r) r) b
   |Xt=>r e
  |_=>r e
theorem zk{α:Type}(e:Z6)(F:α→Xj Z3)(R r:Z6→Xj Z3)(HR:∀e,Sim true (R e) (r e)):Sim true (aJ (raiseNew (α:=α) e) F R) (iZ e r):=by
 refine .handled _ fun hd=>?_
 cases e with
 |ref a=>
  cases hd with
  |none=>exact HR _
  |some h=>
   refine .cond _ _ _ _ _ fun b hb=>?_
   cases b with
   |false=>
    show Sim true (aJ (if (h != Qc a)=true then _ else _) F R) _
    rw[if_neg (by rw[hb];exact Xr)]
    exact HR _
   |true=>
    show Sim true (aJ (if (h != Qc a)=true then Xz (holding [.ref a] (runValue _)) _ else _) F R) _
    rw[if_pos hb]
    rw[bb]
    refine jg _ _ _ _ _ _ (fun _=>?_) HR
    show Sim true (aJ (Xz (updateField a 2 h) fun _=>Sem.raise (.ref a)) F R) _
    rw[bb]
    exact bY _ _ _ _ _ (fun _=>HR _) HR
 |_=>exact HR _
theorem FX{α β:Type}(m:Xj α)(k:α→Xj β)(f:β→Xj Z3)(r:Z6→Xj Z3):ca (m.bind k) f r=ca m (fun a=>ca (k a) f r) r:=by
 induction m with
 |pure a=>rfl
 |raise e=>rfl
 |ask k kih=>exact congrArg Sem.ask (funext kih)
 |unsupported|finish|register|choose|os|newGen|genState|resume|yield|fork|await=>rfl
 |rule t k kih=>exact congrArg (Sem.rule t) (funext kih)
 |«at» q k kih=>exact congrArg (Sem.at q) (funext kih)
 |load a p k kih=>exact congrArg (Sem.load a p) (funext kih)
 |update a p g k kih=>exact congrArg (Sem.update a p g) (funext kih)
 |alloc o k kih=>exact congrArg (Sem.alloc o) (funext kih)
 |loadIfAlive a k kih=>exact congrArg (Sem.loadIfAlive a) (funext kih)
 |point l k kih=>exact congrArg (Sem.point l) (funext kih)
 |fresh k kih=>exact congrArg Sem.fresh (funext kih)
 |call c hd g l k kih=>exact congrArg (Sem.call c hd g l) (funext kih)
 |handled o k kih=>exact congrArg (Sem.handled o) (funext kih)
 |stack k kih=>exact congrArg Sem.stack (funext kih)
 |thread k kih=>exact congrArg Sem.thread (funext kih)
noncomputable def eu(xv cv:Z6):Xj Flow:=Xz (holding [cv] (excFromValue xv "exceptions must derive from BaseException")) fun e=>
 if (cv==Qd)=true then Xz (Sem.pure Qd) fun c=>Xz (setField e 3 c) fun _=>Xz (setField e 4 (.bool true)) fun _=>Xz (isType xv) fun b=>
   if b=true then Xz (holding [e] (raisedFor xv e)) fun e=>Xz (setFlight e none) fun _=>raiseNew e else Xz (raisedInstance e) fun e=>Xz (setFlight e none) fun _=>raiseNew e
  else Xz (holding [e] (excFromValue cv "exception causes must derive from BaseException")) fun c=>Xz (setField e 3 c) fun _=>Xz (setField e 4 (.bool true)) fun _=>Xz (isType xv) fun b=>
   if b=true then Xz (holding [e] (raisedFor xv e)) fun e=>Xz (setFlight e none) fun _=>raiseNew e else Xz (raisedInstance e) fun e=>Xz (setFlight e none) fun _=>raiseNew e
theorem FC(env:Env)(x c:Xj Z6):raiseStmt env (some x) (some c)=x.bind fun xv=>(Xz (holding [xv] c) fun v=>.pure (some v)).bind fun cv=>match cv with
  |some cv=>eu xv cv
  |Xt=>eu xv .none:=by
 show Xz x _=Xz x _
 congr 1
 funext xv
 show Xz (holding [xv] c) _=_
 rw[Sem.bind_assoc]
 rfl
def ow(xv cv:Z6)(r:Z6→Xj Z3):Xj Z3:=
  ca (Fast.tw13596814643533388497 xv "exceptions must derive from BaseException") (fun e=>
   ca (@Xp (fun _=>Xj Z6) (Fast.tw13596814643533388497 cv "exception causes must derive from BaseException") (Sem.pure Qd) (cv==.none)) (fun c'=>
    ca (setField e 3 c') (fun _=>ca (setField e 4 (.bool true)) (fun _=>ca (isType xv) (fun b=>@Xp (fun _=>Xj Z3) (ca (raisedInstance e) (fun e=>
     ca (Fast.tw5670386056902412789 e .none) (fun _=>iZ e r) r) r) (ca (raisedFor xv e) (fun e=>
     ca (Fast.tw5670386056902412789 e .none) (fun _=>iZ e r) r) r) b) r) r) r) r) r
theorem zl(xv cv:Z6)(F:Flow→Xj Z3)(R r:Z6→Xj Z3)(HR:∀e,Sim true (R e) (r e)):Sim true (aJ (eu xv cv) F R) (ow xv cv r):=by
 unfold eu ow
 rw[bb,←Fast.te13596814643533388497,←Fast.te5670386056902412789]
 refine jg _ _ _ _ _ _ (fun e=>?_) HR
 have fl:∀e,Sim true (aJ (Xz (setFlight e none) fun _=>raiseNew (α:=Flow) e) F R) (ca (setFlight e none) (fun _=>iZ e r) r):=fun e=>by
  rw[bb]
  exact bY _ _ _ _ _ (fun _=>zk e F R r HR) HR
 have fin:∀c',Sim true (aJ (Xz (setField e 3 c') fun _=>Xz (setField e 4 (.bool true)) fun _=>Xz (isType xv) fun b=>
   if b=true then Xz (holding [e] (raisedFor xv e)) fun e=>Xz (setFlight e none) fun _=>raiseNew (α:=Flow) e else Xz (raisedInstance e) fun e=>Xz (setFlight e none) fun _=>raiseNew e) F R)
   (ca (setField e 3 c') (fun _=>ca (setField e 4 (.bool true)) (fun _=>ca (isType xv) (fun b=>@Xp (fun _=>Xj Z3) (ca (raisedInstance e) (fun e=>
     ca (setFlight e none) (fun _=>iZ e r) r) r) (ca (raisedFor xv e) (fun e=>
     ca (setFlight e none) (fun _=>iZ e r) r) r) b) r) r) r):=fun c'=>by
  rw[bb]
  refine bY _ _ _ _ _ (fun _=>?_) HR
  rw[bb]
  refine bY _ _ _ _ _ (fun _=>?_) HR
  rw[bb]
  refine bY _ _ _ _ _ (fun b=>?_) HR
  cases b with
  |true=>
   show Sim true (aJ (if true=true then Xz (holding [e] (raisedFor xv e)) fun e=>Xz (setFlight e none) fun _=>raiseNew (α:=Flow) e else _) F R) _
   rw[if_pos rfl,bb]
   exact jg _ _ _ _ _ _ fl HR
  |false=>
   show Sim true (aJ (if false=true then _ else Xz (raisedInstance e) fun e=>Xz (setFlight e none) fun _=>raiseNew (α:=Flow) e) F R) _
   rw[if_neg Xr,bb]
   exact bY _ _ _ _ _ fl HR
 cases hc:(cv==Qd) with
 |true=>
  rw[if_pos rfl]
  exact fin _
 |false=>
  rw[if_neg Xr,bb]
  exact jg _ _ _ _ _ _ fin HR
def Cs(x c:Expr)(pos:Pos)(env:Env)(r:Z6→Xj Z3):Xj Z3:=
 .at pos fun _=>ca (Fast.tw14044960220447912780 x env) (fun xv=>.at pos fun _=>ca (Fast.tw14044960220447912780 c env) (fun cv=>.at pos fun _=>ow xv cv r) r) r
theorem Ct(x c:Expr)(pos:Pos)(env:Env)(F:Flow→Xj Z3)(R r:Z6→Xj Z3)(HR:∀e,Sim true (R e) (r e)):Sim true (aJ (exec (.Raise (some x) (some c) pos) env) F R) (Cs x c pos env r):=by
 refine .at _ ?_
 show Sim true (aJ (raiseStmt env (some (Xz (eval x env) fun v=>Sem.at pos fun _=>.pure v)) (some (Xz (eval c env) fun v=>Sem.at pos fun _=>.pure v))) F R) _
 rw[FC,bb,bb,←Fast.te14044960220447912780]
 refine bY _ _ _ _ _ (fun xv=>.at _ ?_) HR
 show Sim true (aJ (Xz (Xz (holding [xv] (Xz (eval c env) fun v=>Sem.at pos fun _=>.pure v)) fun v=>.pure (some v)) fun cv=>match cv with
  |some cv=>eu xv cv
  |Xt=>eu xv .none) F R) _
 rw[bb,bb]
 have:=jg [xv] (Xz (eval c env) fun v=>Sem.at pos fun _=>.pure v) (fun v=>aJ (Sem.pure (some v)) (fun cv=>aJ (match cv with|some cv=>eu xv cv|Xt=>eu xv .none) F R) R)
  (fun cv=>ow xv cv r) R r (fun cv=>zl xv cv F R r HR) HR
 rw[FX]at this
 exact this
theorem iG{α:Type}(m:Xj α)(F:α→Xj Z3):m.bind F=aJ m F .raise:=by
 induction m with
 |pure|raise|unsupported|finish=>rfl
 |rule t k i=>exact congrArg (Sem.rule t) (funext i)
 |«at» p k i=>exact congrArg (Sem.at p) (funext i)
 |load a p k i=>exact congrArg (Sem.load a p) (funext i)
 |update a p g k i=>exact congrArg (Sem.update a p g) (funext i)
 |alloc o k i=>exact congrArg (Sem.alloc o) (funext i)
 |register a k i=>exact congrArg (Sem.register a) (funext i)
 |loadIfAlive a k i=>exact congrArg (Sem.loadIfAlive a) (funext i)
 |point l k i=>exact congrArg (Sem.point l) (funext i)
 |fresh k i=>exact congrArg (Sem.fresh) (funext i)
 |ask k i=>exact congrArg (Sem.ask) (funext i)
 |choose s n k i=>exact congrArg (Sem.choose s n) (funext i)
 |os q l k i=>exact congrArg (Sem.os q l) (funext i)
 |call c h g l k i=>exact congrArg (Sem.call c h g l) (funext i)
 |handled o k i=>exact congrArg (Sem.handled o) (funext i)
 |genState g k i=>exact congrArg (Sem.genState g) (funext i)
 |newGen c k i=>exact congrArg (Sem.newGen c) (funext i)
 |resume g q l k i=>exact congrArg (Sem.resume g q l) (funext i)
 |yield v g l k i=>exact congrArg (Sem.yield v g l) (funext i)
 |stack k i=>exact congrArg (Sem.stack) (funext i)
 |fork c k i=>exact congrArg (Sem.fork c) (funext i)
 |thread k i=>exact congrArg (Sem.thread) (funext i)
 |await a t d l k i=>exact congrArg (Sem.await a t d l) (funext i)
def zF(s:Stmt)(env:Env)(f:Flow→Xj Z3)(r:Z6→Xj Z3):Xj Z3:=
 match s with
 |.Try body handlers orelse final pos=>match final with
  |_::_=>.unsupported ""
  |[]=>match handlers with
   |[]=>.unsupported ""
   |_::_=>.at pos fun _=>ca (Fast.tw12563942051412417395 body env) (fun fl=>match fl with
     |.next=>ca (Fast.tw12563942051412417395 orelse env) f r
     |fl=>f fl) fun e=>pO e env (ca (Fast.tw5670386056902412789 e .none) (fun _=>ca (handleBy e env handlers) f r) r) r
 |.Raise exc cause pos=>match exc with
  |Xt=>.unsupported ""
  |some x=>match cause with
   |some c=>Cs x c pos env r
   |Xt=>ca (Fast.tw12563942051412417395 [s] env) f r
 |_=>ca (Fast.tw12563942051412417395 [s] env) f r
theorem wt(s:Stmt)(env:Env)(F f:Flow→Xj Z3)(R r:Z6→Xj Z3)(H:∀a,Sim true (F a) (f a))(HR:∀e,Sim true (R e) (r e)):Sim true (aJ (exec s env) F R) (ca (execs [s] env) f r):=by
 have e:execs [s] env=(exec s env).bind .pure:=by
  show Xz (exec s env) _=_
  congr 1
  funext fl
  cases fl<;>rfl
 rw[e,show (exec s env).bind .pure=exec s env from PySem.Sem.bind_pure _]
 exact bY _ _ _ _ _ H HR
theorem F2(s:Stmt)(env:Env)(F f:Flow→Xj Z3)(R r:Z6→Xj Z3)(H:∀a,Sim true (F a) (f a))(HR:∀e,Sim true (R e) (r e)):Sim true (aJ (exec s env) F R) (zF s env f r):=by
 unfold zF
 rw[←Fast.te12563942051412417395,←Fast.te5670386056902412789]
 cases s with
 |Try body handlers orelse final pos=>
  cases final with
  |cons=>exact .unsupported _
  |nil=>
   cases handlers with
   |nil=>exact .unsupported _
   |cons h hs=>
    refine .at _ ?_
    show Sim true (aJ (Xz (Sem.attempt (execs body env)) _) F R) _
    rw[bb]
    refine vJ _ _ _ _ _ (fun fl=>?_) (fun e=>?_)
    ·cases fl with
     |next=>exact bY _ _ _ _ _ H HR
     |_=>exact H _
    ·show Sim true (aJ (Xz (noteFrame e env) fun _=>Xz (setFlight e none) fun _=>handleBy e env (h::hs)) F R) _
     rw[bb]
     refine oT _ _ _ _ _ _ HR ?_
     rw[bb]
     exact bY _ _ _ _ _ (fun _=>bY _ _ _ _ _ H HR) HR
 |Raise exc cause pos=>
  cases exc with
  |none=>exact .unsupported _
  |some x=>
   cases cause with
   |some c=>exact Ct _ _ _ _ _ _ _ HR
   |none=>exact wt _ _ _ _ _ _ H HR
 |_=>exact wt _ _ _ _ _ _ H HR
def tR(env:Env)(r:Z6→Xj Z3)(l:List Stmt):(Flow→Xj Z3)→Xj Z3:=
 @List.rec Stmt (fun _=>(Flow→Xj Z3)→Xj Z3) (fun f=>f .next) (fun s _ ih f=>zF s env (fun fl=>match fl with
  |.next=>ih f
  |fl=>f fl) r) l
theorem q8(env:Env)(R r:Z6→Xj Z3)(HR:∀e,Sim true (R e) (r e))(l:List Stmt):∀(F f:Flow→Xj Z3),(∀a,Sim true (F a) (f a))→Sim true (aJ (execs l env) F R) (tR env r l f):=by
 induction l with
 |nil=>intro F f H;exact H .next
 |cons s l ih=>
  intro F f H
  show Sim true (aJ (Xz (exec s env) _) F R) _
  rw[bb]
  refine F2 s env _ _ R r (fun fl=>?_) HR
  cases fl with
  |next=>exact ih F f H
  |_=>exact H _
def GJ(body:List Stmt)(env:Env):Xj Z3:=
 tR env (fun e=>pO e env (ca (Fast.tw5670386056902412789 e .none) (fun _=>.raise e) .raise) .raise) body fun fl=>match fl with
  |.ret v=>.pure (.done (.ret v))
  |_=>.pure (.done (.ret .none))
theorem Ev(body:List Stmt)(env:Env):Sim true (denote table (.func body env)) (GJ body env):=by
 show Sim true (Sem.point [] fun _=>Xz (Sem.onRaise (execs body env) (leaving env)) _) _
 refine .pointL _ ?_
 rw[l4]
 refine q8 env _ _ (fun e=>?_) body _ _ (fun fl=>?_)
 ·show Sim true (Xz (Xz (Xz (noteFrame e env) fun _=>setFlight e none) fun _=>Sem.raise e) _) _
  rw[Sem.bind_assoc,Sem.bind_assoc,iG,←Fast.te5670386056902412789]
  refine oT _ _ _ _ _ _ (fun e=>.raise e) ?_
  rw[iG]
  exact bY _ _ _ _ _ (fun _=>.raise e) (fun e=>.raise e)
 ·cases fl<;>exact .pure _
def Fk(env:Env)(x:Z6):Xj Z3:=pO x env (ca (theTreesLotGoes x) (fun _=>.raise x) .raise) .raise
def GR(e:Z6)(body:List Stmt)(pos:Pos)(env:Env):Xj Z3:=
 .at pos fun _=>ca (Fast.tw5670386056902412789 e .none) (fun _=>tR env (Fk env) body fun fl=>.pure (.done fl)) (Fk env)
theorem Ey(e:Z6)(s:Stmt)(body:List Stmt)(pos:Pos)(env:Env)(hs:List ExceptHandler):Sim true (denote table (.handlers e (.ExceptHandler .none .none (s::body) pos::hs) env)) (GR e (s::body) pos env):=by
 show Sim true (Xz (Sem.onRaise (handleWith e env (.ExceptHandler .none .none (s::body) pos::hs)) _) _) _
 rw[l4]
 refine .at _ ?_
 show Sim true (aJ (Xz (setFlight e none) fun _=>execs (s::body) env) _ _) _
 rw[bb,←Fast.te5670386056902412789]
 have RR:∀x,Sim true (Xz (Xz (Xz (noteFrame x env) fun _=>theTreesLotGoes x) fun _=>Sem.raise x) fun fl:Flow=>Sem.pure (PySem.Fin.done fl)) (Fk env x):=fun x=>by
  rw[Sem.bind_assoc,Sem.bind_assoc,iG]
  refine oT _ _ _ _ _ _ (fun e=>.raise e) ?_
  rw[iG]
  exact bY _ _ _ _ _ (fun _=>.raise x) (fun e=>.raise e)
 exact bY _ _ _ _ _ (fun _=>q8 env _ _ RR _ _ _ fun fl=>.pure _) RR
def WR(cd:Xo):WT:=
 match cd with
 |.func body env=>(true,GJ body env)
 |.handlers e hs env=>match hs with
  |[]=>(false,dR cd)
  |.ExceptHandler t n b p::_=>match t with
   |some _=>(false,dR cd)
   |Xt=>match n with
    |some _=>(false,dR cd)
    |Xt=>match b with
     |[]=>(false,dR cd)
     |_::_=>(true,GR e b p env)
 |cd=>WS cd
theorem Te(p:Xf)(w:Z8):tL (model p w) WR:=by
 intro cd
 have pl:Sim false ((model p w).den cd) (dR cd):=by
  show Sim false (denote table cd) _
  rw[jC];exact Sim.refl _
 cases cd with
 |func body env=>exact Ev body env
 |handlers e hs env=>
  cases hs with
  |nil=>exact pl
  |cons h hs=>
   obtain⟨t,n,b,p⟩:=h
   cases t with
   |some=>exact pl
   |none=>
    cases n with
    |some=>exact pl
    |none=>
     cases b with
     |nil=>exact pl
     |cons s b=>exact Ey e s b p env hs
 |_=>exact r9 p w _
section
variable(P:Z5)
noncomputable def cK(b:List Stmt)(i:Nat):Arguments×List Stmt×Scope:=match b[i]? with
 |some (.FunctionDef _ a body _ _ _ sc _ _ _)=>(a,body,sc)
 |_=>(default,[],default)
noncomputable def bK(b:List Stmt)(i j:Nat):Arguments×List Stmt×Scope:=match b[i]? with
 |some (.ClassDef _ _ _ body _ _ _ _ _ _ _)=>cK body j
 |_=>(default,[],default)
noncomputable abbrev prog2:Xf:=PySem.Challenge.rw_nz0230_03.prog
noncomputable def aF:List Stmt:=prog2.main.body
noncomputable def kS(k:Str)(t:Nat)(v:Z6):Z7:=⟨PyData.keyHash P k,.str k t,v⟩
noncomputable def kI(k:Int)(t:Nat)(v:Z6):Z7:=⟨k,.int k t,v⟩
noncomputable def dO(l:List Z7)(n:Nat):Obj:=⟨.type "dict",none,.dict ⟨l⟩ n,#[]⟩
noncomputable def iO(c d:Nat):Obj:=⟨.ref c,some d,.plain,#[]⟩
noncomputable def lO(l:List Z6)(n:Nat):Obj:=⟨.type "list",none,.seq ⟨l⟩ n,#[]⟩
noncomputable def tO(l:List Z6):Obj:=⟨.type "tuple",none,.seq ⟨l⟩ 0,#[]⟩
noncomputable def fO(n q:Str)(r:Arguments×List Stmt×Scope)(d m c:Z6):Obj:=⟨.type "function",none,.func ⟨n,q,r.1,.stmts r.2.1,r.2.2,3,[],d,.none,.none,m,none,c,.none,0⟩,#[]⟩
noncomputable def cO(l:List Z6):Obj:=⟨.type "code",none,.fields ⟨l⟩,#[]⟩
noncomputable def hL(o:Obj):HT:=.node (some o) .nil .nil
noncomputable def hU(a b:HT):HT:=.node none a b
noncomputable def hT(o:Obj)(a b:HT):HT:=.node (some o) a b
noncomputable def sJZ(l:List Nat):Str:=⟨⟨l⟩⟩
def J0:=sJZ [95,95,110,97,109,101,95,95]
def J1:=sJZ [98,117,105,108,116,105,110,115]
def J2:=sJZ [95,95,100,111,99,95,95]
def J3:=sJZ [95,95,112,97,99,107,97,103,101,95,95]
def J4:=sJZ [95,95,108,111,97,100,101,114,95,95]
def J5:=sJZ [95,95,115,112,101,99,95,95]
def J6:=sJZ [95,95,98,117,105,108,100,95,99,108,97,115,115,95,95]
def J7:=sJZ [95,95,105,109,112,111,114,116,95,95]
def J8:=sJZ [97,98,115]
def J9:=sJZ [97,108,108]
def J10:=sJZ [97,110,121]
def J11:=sJZ [97,115,99,105,105]
def J12:=sJZ [98,105,110]
def J13:=sJZ [98,114,101,97,107,112,111,105,110,116]
def J14:=sJZ [99,97,108,108,97,98,108,101]
def J15:=sJZ [99,104,114]
def J16:=sJZ [99,111,109,112,105,108,101]
def J17:=sJZ [100,101,108,97,116,116,114]
def J18:=sJZ [100,105,114]
def J19:=sJZ [100,105,118,109,111,100]
def J20:=sJZ [101,118,97,108]
def J21:=sJZ [101,120,101,99]
def J22:=sJZ [102,111,114,109,97,116]
def J23:=sJZ [103,101,116,97,116,116,114]
def J24:=sJZ [103,108,111,98,97,108,115]
def J25:=sJZ [104,97,115,97,116,116,114]
def J26:=sJZ [104,97,115,104]
def J27:=sJZ [104,101,120]
def J28:=sJZ [105,100]
def J29:=sJZ [105,110,112,117,116]
def J30:=sJZ [105,115,105,110,115,116,97,110,99,101]
def J31:=sJZ [105,115,115,117,98,99,108,97,115,115]
def J32:=sJZ [105,116,101,114]
def J33:=sJZ [97,105,116,101,114]
def J34:=sJZ [108,101,110]
def J35:=sJZ [108,111,99,97,108,115]
def J36:=sJZ [109,97,120]
def J37:=sJZ [109,105,110]
def J38:=sJZ [110,101,120,116]
def J39:=sJZ [97,110,101,120,116]
def J40:=sJZ [111,99,116]
def J41:=sJZ [111,114,100]
def J42:=sJZ [112,111,119]
def J43:=sJZ [112,114,105,110,116]
def J44:=sJZ [114,101,112,114]
def J45:=sJZ [114,111,117,110,100]
def J46:=sJZ [115,101,116,97,116,116,114]
def J47:=sJZ [115,111,114,116,101,100]
def J48:=sJZ [115,117,109]
def J49:=sJZ [118,97,114,115]
def J50:=sJZ [78,111,110,101]
def J51:=sJZ [69,108,108,105,112,115,105,115]
def J52:=sJZ [78,111,116,73,109,112,108,101,109,101,110,116,101,100]
def J53:=sJZ [70,97,108,115,101]
def J54:=sJZ [84,114,117,101]
def J55:=sJZ [98,111,111,108]
def J56:=sJZ [109,101,109,111,114,121,118,105,101,119]
def J57:=sJZ [98,121,116,101,97,114,114,97,121]
def J58:=sJZ [98,121,116,101,115]
def J59:=sJZ [99,108,97,115,115,109,101,116,104,111,100]
def J60:=sJZ [99,111,109,112,108,101,120]
def J61:=sJZ [100,105,99,116]
def J62:=sJZ [101,110,117,109,101,114,97,116,101]
def J63:=sJZ [102,105,108,116,101,114]
def J64:=sJZ [102,108,111,97,116]
def J65:=sJZ [102,114,111,122,101,110,115,101,116]
def J66:=sJZ [112,114,111,112,101,114,116,121]
def J67:=sJZ [105,110,116]
def J68:=sJZ [108,105,115,116]
def J69:=sJZ [109,97,112]
def J70:=sJZ [111,98,106,101,99,116]
def J71:=sJZ [114,97,110,103,101]
def J72:=sJZ [114,101,118,101,114,115,101,100]
def J73:=sJZ [115,101,116]
def J74:=sJZ [115,108,105,99,101]
def J75:=sJZ [115,116,97,116,105,99,109,101,116,104,111,100]
def J76:=sJZ [115,116,114]
def J77:=sJZ [115,117,112,101,114]
def J78:=sJZ [116,117,112,108,101]
def J79:=sJZ [116,121,112,101]
def J80:=sJZ [122,105,112]
def J81:=sJZ [95,95,100,101,98,117,103,95,95]
def J82:=sJZ [66,97,115,101,69,120,99,101,112,116,105,111,110]
def J83:=sJZ [66,97,115,101,69,120,99,101,112,116,105,111,110,71,114,111,117,112]
def J84:=sJZ [69,120,99,101,112,116,105,111,110]
def J85:=sJZ [71,101,110,101,114,97,116,111,114,69,120,105,116]
def J86:=sJZ [75,101,121,98,111,97,114,100,73,110,116,101,114,114,117,112,116]
def J87:=sJZ [83,121,115,116,101,109,69,120,105,116]
def J88:=sJZ [65,114,105,116,104,109,101,116,105,99,69,114,114,111,114]
def J89:=sJZ [65,115,115,101,114,116,105,111,110,69,114,114,111,114]
def J90:=sJZ [65,116,116,114,105,98,117,116,101,69,114,114,111,114]
def J91:=sJZ [66,117,102,102,101,114,69,114,114,111,114]
def J92:=sJZ [69,79,70,69,114,114,111,114]
def J93:=sJZ [73,109,112,111,114,116,69,114,114,111,114]
def J94:=sJZ [76,111,111,107,117,112,69,114,114,111,114]
def J95:=sJZ [77,101,109,111,114,121,69,114,114,111,114]
def J96:=sJZ [78,97,109,101,69,114,114,111,114]
def J97:=sJZ [79,83,69,114,114,111,114]
def J98:=sJZ [82,101,102,101,114,101,110,99,101,69,114,114,111,114]
def J99:=sJZ [82,117,110,116,105,109,101,69,114,114,111,114]
def Vg:=sJZ [83,116,111,112,65,115,121,110,99,73,116,101,114,97,116,105,111,110]
def Vh:=sJZ [83,116,111,112,73,116,101,114,97,116,105,111,110]
def Vi:=sJZ [83,121,110,116,97,120,69,114,114,111,114]
def Vj:=sJZ [83,121,115,116,101,109,69,114,114,111,114]
def Vk:=sJZ [84,121,112,101,69,114,114,111,114]
def Vl:=sJZ [86,97,108,117,101,69,114,114,111,114]
def Vm:=sJZ [87,97,114,110,105,110,103]
def Vn:=sJZ [70,108,111,97,116,105,110,103,80,111,105,110,116,69,114,114,111,114]
def Vo:=sJZ [79,118,101,114,102,108,111,119,69,114,114,111,114]
def Vp:=sJZ [90,101,114,111,68,105,118,105,115,105,111,110,69,114,114,111,114]
def Vq:=sJZ [66,121,116,101,115,87,97,114,110,105,110,103]
def Vr:=sJZ [68,101,112,114,101,99,97,116,105,111,110,87,97,114,110,105,110,103]
def Vs:=sJZ [69,110,99,111,100,105,110,103,87,97,114,110,105,110,103]
def Vt:=sJZ [70,117,116,117,114,101,87,97,114,110,105,110,103]
def Vu:=sJZ [73,109,112,111,114,116,87,97,114,110,105,110,103]
def Vv:=sJZ [80,101,110,100,105,110,103,68,101,112,114,101,99,97,116,105,111,110,87,97,114,110,105,110,103]
def Vw:=sJZ [82,101,115,111,117,114,99,101,87,97,114,110,105,110,103]
def Vx:=sJZ [82,117,110,116,105,109,101,87,97,114,110,105,110,103]
def Vy:=sJZ [83,121,110,116,97,120,87,97,114,110,105,110,103]
def Vz:=sJZ [85,110,105,99,111,100,101,87,97,114,110,105,110,103]
def VA:=sJZ [85,115,101,114,87,97,114,110,105,110,103]
def VB:=sJZ [66,108,111,99,107,105,110,103,73,79,69,114,114,111,114]
def VC:=sJZ [67,104,105,108,100,80,114,111,99,101,115,115,69,114,114,111,114]
def VD:=sJZ [67,111,110,110,101,99,116,105,111,110,69,114,114,111,114]
def VE:=sJZ [70,105,108,101,69,120,105,115,116,115,69,114,114,111,114]
def VF:=sJZ [70,105,108,101,78,111,116,70,111,117,110,100,69,114,114,111,114]
def VG:=sJZ [73,110,116,101,114,114,117,112,116,101,100,69,114,114,111,114]
def VH:=sJZ [73,115,65,68,105,114,101,99,116,111,114,121,69,114,114,111,114]
def VI:=sJZ [78,111,116,65,68,105,114,101,99,116,111,114,121,69,114,114,111,114]
def VJ:=sJZ [80,101,114,109,105,115,115,105,111,110,69,114,114,111,114]
def VK:=sJZ [80,114,111,99,101,115,115,76,111,111,107,117,112,69,114,114,111,114]
def VL:=sJZ [84,105,109,101,111,117,116,69,114,114,111,114]
def VM:=sJZ [73,110,100,101,110,116,97,116,105,111,110,69,114,114,111,114]
def VN:=sJZ [95,73,110,99,111,109,112,108,101,116,101,73,110,112,117,116,69,114,114,111,114]
def VO:=sJZ [73,110,100,101,120,69,114,114,111,114]
def VP:=sJZ [75,101,121,69,114,114,111,114]
def VQ:=sJZ [77,111,100,117,108,101,78,111,116,70,111,117,110,100,69,114,114,111,114]
def VR:=sJZ [78,111,116,73,109,112,108,101,109,101,110,116,101,100,69,114,114,111,114]
def VS:=sJZ [80,121,116,104,111,110,70,105,110,97,108,105,122,97,116,105,111,110,69,114,114,111,114]
def VT:=sJZ [82,101,99,117,114,115,105,111,110,69,114,114,111,114]
def VU:=sJZ [85,110,98,111,117,110,100,76,111,99,97,108,69,114,114,111,114]
def VV:=sJZ [85,110,105,99,111,100,101,69,114,114,111,114]
def VW:=sJZ [66,114,111,107,101,110,80,105,112,101,69,114,114,111,114]
def VX:=sJZ [67,111,110,110,101,99,116,105,111,110,65,98,111,114,116,101,100,69,114,114,111,114]
def VY:=sJZ [67,111,110,110,101,99,116,105,111,110,82,101,102,117,115,101,100,69,114,114,111,114]
def VZ:=sJZ [67,111,110,110,101,99,116,105,111,110,82,101,115,101,116,69,114,114,111,114]
def V0:=sJZ [84,97,98,69,114,114,111,114]
def V1:=sJZ [85,110,105,99,111,100,101,68,101,99,111,100,101,69,114,114,111,114]
def V2:=sJZ [85,110,105,99,111,100,101,69,110,99,111,100,101,69,114,114,111,114]
def V3:=sJZ [85,110,105,99,111,100,101,84,114,97,110,115,108,97,116,101,69,114,114,111,114]
def V4:=sJZ [69,120,99,101,112,116,105,111,110,71,114,111,117,112]
def V5:=sJZ [69,110,118,105,114,111,110,109,101,110,116,69,114,114,111,114]
def V8:=sJZ [73,79,69,114,114,111,114]
def V9:=sJZ [111,112,101,110]
def Wa:=sJZ [113,117,105,116]
def Wb:=sJZ [101,120,105,116]
def Wc:=sJZ [99,111,112,121,114,105,103,104,116]
def Wd:=sJZ [99,114,101,100,105,116,115]
def We:=sJZ [108,105,99,101,110,115,101]
def Wf:=sJZ [104,101,108,112]
def qe:=sJZ [108,97,119,95,110,122,48,50,51,48,95,48,51]
def CU:=sJZ [95,95,97,110,110,111,116,97,116,105,111,110,115,95,95]
def CV:=sJZ [95,95,98,117,105,108,116,105,110,115,95,95]
def CW:=sJZ [95,95,102,105,108,101,95,95]
def ew:=sJZ [47,99,108,97,105,109,47,99,117,116,46,112,121]
def CX:=sJZ [95,95,99,97,99,104,101,100,95,95]
def Mk:=sJZ [95,119,97,108,108]
def qf:=sJZ [66,111,97,114,100,69,114,114,111,114]
def Ml:=sJZ [66,97,100,65,114,103,117,109,101,110,116]
def Mm:=sJZ [66,97,100,73,110,115,116,114,117,99,116,105,111,110]
def qg:=sJZ [84,114,97,112]
def Mn:=sJZ [67,83,82,83]
def Mo:=sJZ [76,79,65,68,95,105,115,97]
def Mp:=sJZ [70,69,78,67,69,83]
def Mq:=sJZ [73,77,77,69,68,73,65,84,69]
def Mr:=sJZ [65,85,73,80,67]
def Ms:=sJZ [83,84,79,82,69,95,105,115,97]
def Mt:=sJZ [82,69,71,73,83,84,69,82]
def Mu:=sJZ [76,85,73]
def Mv:=sJZ [66,82,65,78,67,72]
def Mw:=sJZ [74,65,76,82]
def Mx:=sJZ [74,65,76]
def My:=sJZ [83,89,83,84,69,77]
def qh:=sJZ [73,110,115,116,114,117,99,116,105,111,110]
def qi:=sJZ [83,104,97,112,101]
def qj:=sJZ [110,117,109,98,101,114,101,100]
def qk:=sJZ [115,104,97,112,101,115]
def sP:=sJZ [75,110,111,119,110]
def Wg:=sJZ [85,83,69,68]
def Wh:=sJZ [82,65,78,71,69,83]
def sQ:=sJZ [115,104,97,112,101,95,111,102]
def sR:=sJZ [99,104,101,99,107]
def Wi:=sJZ [115,112,114,101,97,100,95,98,114,97,110,99,104]
def Wj:=sJZ [115,112,114,101,97,100,95,106,117,109,112]
def sS:=sJZ [101,110,99,111,100,101]
def Wk:=sJZ [103,97,116,104,101,114,101,100,95,98,114,97,110,99,104]
def Wl:=sJZ [103,97,116,104,101,114,101,100,95,106,117,109,112]
def sT:=sJZ [102,105,110,100,95,115,104,97,112,101]
def sU:=sJZ [100,101,99,111,100,101]
def Wm:=sJZ [77,65,83,75]
def Wn:=sJZ [83,73,71,78]
def Mz:=sJZ [87,72,79,76,69]
def Wo:=sJZ [115,105,103,110,101,100]
def Wp:=sJZ [115,105,103,110,95,101,120,116,101,110,100]
def gx:=sJZ [97,100,100]
def w1:=sJZ [115,117,98]
def Wq:=sJZ [115,104,105,102,116,95,108,101,102,116]
def Wr:=sJZ [115,104,105,102,116,95,114,105,103,104,116]
def Ws:=sJZ [115,104,105,102,116,95,115,105,103,110,101,100]
def Wt:=sJZ [108,101,115,115,95,115,105,103,110,101,100]
def w2:=sJZ [109,117,108]
def w3:=sJZ [109,117,108,104]
def w4:=sJZ [109,117,108,104,115,117]
def w5:=sJZ [109,117,108,104,117]
def w6:=sJZ [100,105,118,117]
def w7:=sJZ [114,101,109,117]
def w8:=sJZ [100,105,118]
def w9:=sJZ [114,101,109]
def Wu:=sJZ [85,83,69,82,95,99,115,114,115]
def Wv:=sJZ [83,85,80,69,82,86,73,83,79,82]
def Ww:=sJZ [77,65,67,72,73,78,69]
def Wx:=sJZ [73,78,84,69,82,82,85,80,84]
def Wy:=sJZ [83,73,69]
def Wz:=sJZ [77,73,69]
def WA:=sJZ [83,80,73,69]
def WB:=sJZ [77,80,73,69]
def WC:=sJZ [83,80,80]
def WD:=sJZ [77,80,80,95,80,76,65,67,69]
def WE:=sJZ [77,80,80]
def WF:=sJZ [77,80,82,86]
def WG:=sJZ [83,85,77]
def WH:=sJZ [77,88,82]
def WI:=sJZ [77,83,84,65,84,85,83,95,66,73,84,83]
def WJ:=sJZ [83,83,84,65,84,85,83,95,66,73,84,83]
def WK:=sJZ [83,79,70,84,95,83]
def WL:=sJZ [83,79,70,84,95,77]
def WM:=sJZ [84,73,77,69,82,95,83]
def WN:=sJZ [84,73,77,69,82,95,77]
def WO:=sJZ [79,85,84,69,82,95,83]
def WP:=sJZ [79,85,84,69,82,95,77]
def WQ:=sJZ [79,82,68,69,82]
def WU:=sJZ [83,95,76,73,78,69,83]
def WV:=sJZ [65,76,76,95,76,73,78,69,83]
def WW:=sJZ [68,69,76,69,71,65,66,76,69]
def WY:=sJZ [83,65,84,80,95,77,79,68,69]
def WZ:=sJZ [83,65,84,80,95,82,79,79,84]
def W0:=sJZ [83,65,84,80,95,66,73,84,83]
def W1:=sJZ [78,65,77,69,83]
def W3:=sJZ [67,79,85,78,84,69,82,83]
def W4:=sJZ [77,73,83,65]
def sV:=sJZ [108,111,119,101,115,116,95,109,111,100,101]
def sW:=sJZ [105,115,95,114,101,97,100,95,111,110,108,121]
def sY:=sJZ [118,101,99,116,111,114,95,116,111,108,100]
def sZ:=sJZ [115,116,97,116,117,115,95,116,111,108,100]
def s3:=sJZ [67,115,114,115]
def W5:=sJZ [69,78,84,82,89]
def W6:=sJZ [86,65,76,73,68]
def W7:=sJZ [82,69,65,68]
def W8:=sJZ [87,82,73,84,69]
def W9:=sJZ [69,88,69,67,85,84,69]
def Xi:=sJZ [85,83,69,82,95,112,97,103,105,110,103]
def Xk:=sJZ [65,67,67,69,83,83,69,68]
def Xq:=sJZ [68,73,82,84,89]
def XA:=sJZ [76,69,65,70]
def XB:=sJZ [70,76,65,71,95,66,73,84,83]
def XC:=sJZ [70,69,84,67,72,95,112,97,103,105,110,103]
def MA:=sJZ [102,101,116,99,104]
def XD:=sJZ [76,79,65,68,95,112,97,103,105,110,103]
def MB:=sJZ [108,111,97,100]
def XE:=sJZ [83,84,79,82,69,95,112,97,103,105,110,103]
def MC:=sJZ [115,116,111,114,101]
def XF:=sJZ [80,65,71,69,95,70,65,85,76,84,83]
def XG:=sJZ [65,67,67,69,83,83,95,70,65,85,76,84,83]
def XH:=sJZ [85,83,69,82,95,77,79,68,69]
def s4:=sJZ [76,97,121,111,117,116]
def XI:=sJZ [105,115,95,108,101,97,102]
def XJ:=sJZ [105,115,95,115,111,117,110,100]
def XK:=sJZ [109,97,121]
def s5:=sJZ [87,97,108,107,101,114]
def XL:=sJZ [70,69,84,67,72,95,99,111,114,101]
def XM:=sJZ [76,79,65,68,95,99,111,114,101]
def XN:=sJZ [83,84,79,82,69,95,99,111,114,101]
def XO:=sJZ [75,73,78,68,83]
def XP:=sJZ [84,85,82,78,73,78,71]
def XQ:=sJZ [66,89,95,73,77,77,69,68,73,65,84,69]
def XR:=sJZ [66,89,95,82,69,71,73,83,84,69,82]
def XS:=sJZ [66,89,95,76,79,65,68]
def XT:=sJZ [66,89,95,83,84,79,82,69]
def XU:=sJZ [66,89,95,66,82,65,78,67,72]
def MD:=sJZ [66,89,95,78,65,77,69]
def XV:=sJZ [98,111,116,104]
def XW:=sJZ [101,105,116,104,101,114]
def XX:=sJZ [117,110,108,105,107,101,95,98,105,116,115]
def XY:=sJZ [115,101,116,95,108,101,115,115]
def XZ:=sJZ [115,101,116,95,108,101,115,115,95,112,108,97,105,110]
def Ya:=sJZ [105,115,95,101,113,117,97,108]
def Yb:=sJZ [105,115,95,117,110,108,105,107,101]
def Yc:=sJZ [105,115,95,110,111,116,95,108,101,115,115]
def Yd:=sJZ [105,115,95,108,101,115,115,95,112,108,97,105,110]
def Ye:=sJZ [105,115,95,110,111,116,95,108,101,115,115,95,112,108,97,105,110]
def Yf:=sJZ [66,79,84,72,95,87,65,89,83]
def Yg:=sJZ [82,69,71,73,83,84,69,82,83,95,79,78,76,89]
def Yh:=sJZ [73,77,77,69,68,73,65,84,69,83]
def Yi:=sJZ [76,79,65,68,83]
def Yj:=sJZ [83,84,79,82,69,83]
def Yk:=sJZ [66,82,65,78,67,72,69,83]
def s6:=sJZ [114,111,119,95,111,102]
def s7:=sJZ [67,111,114,101]
def s8:=sJZ [95,108,97,119,95,99,111,114,101]
def s9:=sJZ [95,108,97,119,95,109,97,99,104,105,110,101]
def tf:=sJZ [95,108,97,119,95,99,101,108,108,95,111,102]
def tg:=sJZ [95,108,97,119,95,116,111,108,100]
def tj:=sJZ [108,97,119]
noncomputable def CY:Str:=⟨⟨[]⟩⟩
def dn:=sJZ [95,95,105,110,105,116,95,95]
def ME:=sJZ [66,111,97,114,100,69,114,114,111,114,46,95,95,105,110,105,116,95,95]
def xc:=sJZ [112,105,112,101,98,111,97,114,100,46,101,114,114,111,114,115]
def kQ:=sJZ [95,95,109,111,100,117,108,101,95,95]
def kR:=sJZ [95,95,102,105,114,115,116,108,105,110,101,110,111,95,95]
def kT:=sJZ [95,95,115,116,97,116,105,99,95,97,116,116,114,105,98,117,116,101,115,95,95]
def l8:=sJZ [95,95,119,101,97,107,114,101,102,95,95]
def MF:=sJZ [84,114,97,112,46,95,95,105,110,105,116,95,95]
def Yl:=sJZ [70,69,84,67,72,95,77,73,83,65,76,73,71,78,69,68]
def Ym:=sJZ [70,69,84,67,72,95,65,67,67,69,83,83]
def Yn:=sJZ [73,76,76,69,71,65,76]
def Yo:=sJZ [66,82,69,65,75,80,79,73,78,84]
def Yp:=sJZ [76,79,65,68,95,77,73,83,65,76,73,71,78,69,68]
def Yq:=sJZ [76,79,65,68,95,65,67,67,69,83,83]
def Yr:=sJZ [83,84,79,82,69,95,77,73,83,65,76,73,71,78,69,68]
def Ys:=sJZ [83,84,79,82,69,95,65,67,67,69,83,83]
def Yt:=sJZ [67,65,76,76,95,70,82,79,77,95,85,83,69,82]
def Yu:=sJZ [67,65,76,76,95,70,82,79,77,95,83,85,80,69,82,86,73,83,79,82]
def Yv:=sJZ [67,65,76,76,95,70,82,79,77,95,77,65,67,72,73,78,69]
def Yw:=sJZ [70,69,84,67,72,95,80,65,71,69]
def Yx:=sJZ [76,79,65,68,95,80,65,71,69]
def Yy:=sJZ [83,84,79,82,69,95,80,65,71,69]
def MG:=sJZ [73,110,115,116,114,117,99,116,105,111,110,46,95,95,105,110,105,116,95,95]
def gy:=sJZ [112,105,112,101,98,111,97,114,100,46,105,115,97]
def Yz:=sJZ [102,105,101,108,100,115]
def oH:=sJZ [95,95,100,105,99,116,95,95]
def CZ:=sJZ [102,105,120,101,100]
def MH:=sJZ [83,104,97,112,101,46,102,105,120,101,100]
def bW:=sJZ [110,97,109,101]
def l9:=sJZ [97,100,100,105]
def dv:=sJZ [107,105,110,100]
def gz:=sJZ [73]
def f6:=sJZ [111,112,99,111,100,101]
def f7:=sJZ [116,104,105,114,100]
def f8:=sJZ [115,101,118,101,110,116,104]
def eA:=sJZ [82]
def iw:=sJZ [102,101,110,99,101]
def mb:=sJZ [102,101,110,99,101,46,105]
def mc:=sJZ [99,115,114,114,119]
def xe:=sJZ [67,83,82]
def me:=sJZ [99,115,114,114,115]
def mf:=sJZ [99,115,114,114,99]
def mg:=sJZ [99,115,114,114,119,105]
def tl:=sJZ [67,83,82,73]
def mh:=sJZ [99,115,114,114,115,105]
def mi:=sJZ [99,115,114,114,99,105]
def f9:=sJZ [115,102,101,110,99,101,46,118,109,97]
def tp:=sJZ [102,108,117,115,104]
def jJ:=sJZ [115,114,101,116]
def ql:=sJZ [115,121,115,116,101,109]
def mj:=sJZ [119,102,105]
def kU:=sJZ [109,114,101,116]
def qm:=sJZ [108,117,105]
def qn:=sJZ [97,117,105,112,99]
def qo:=sJZ [106,97,108]
def qp:=sJZ [106,97,108,114]
def C0:=sJZ [98,101,113]
def C1:=sJZ [98,110,101]
def C2:=sJZ [98,108,116]
def C3:=sJZ [98,103,101]
def C4:=sJZ [98,108,116,117]
def C5:=sJZ [98,103,101,117]
def C6:=sJZ [108,98]
def C7:=sJZ [108,104]
def C8:=sJZ [108,119]
def C9:=sJZ [108,98,117]
def Da:=sJZ [108,104,117]
def Db:=sJZ [115,98]
def Dc:=sJZ [115,104]
def Dd:=sJZ [115,119]
def De:=sJZ [115,108,116,105]
def Df:=sJZ [115,108,116,105,117]
def Dg:=sJZ [120,111,114,105]
def Dh:=sJZ [111,114,105]
def Di:=sJZ [97,110,100,105]
def Dj:=sJZ [115,108,108,105]
def Dk:=sJZ [115,114,108,105]
def Dl:=sJZ [115,114,97,105]
def xi:=sJZ [115,108,108]
def xj:=sJZ [115,108,116]
def xk:=sJZ [115,108,116,117]
def xl:=sJZ [120,111,114]
def xm:=sJZ [115,114,108]
def xn:=sJZ [111,114]
def xp:=sJZ [97,110,100]
def xq:=sJZ [115,114,97]
def qq:=sJZ [101,99,97,108,108]
def qr:=sJZ [101,98,114,101,97,107]
def YA:=sJZ [83,72,65,80,69,83]
def YB:=sJZ [66,89,95,79,80,67,79,68,69]
def YC:=sJZ [66,89,95,84,72,73,82,68]
def YD:=sJZ [66,89,95,83,69,86,69,78,84,72]
def tq:=sJZ [83]
def mn:=sJZ [66]
def xr:=sJZ [85]
def Dm:=sJZ [74]
def ts:=sJZ [115,104,105,102,116]
def dw:=sJZ [114,100]
def dY:=sJZ [114,115,49]
def eW:=sJZ [114,115,50]
def cP:=sJZ [105,109,109]
def dp:=sJZ [99,115,114]
def YE:=sJZ [112,105,112,101,98,111,97,114,100,46,119,111,114,100,115]
def MI:=sJZ [115,115,116,97,116,117,115]
def MJ:=sJZ [115,105,101]
def MK:=sJZ [115,116,118,101,99]
def ML:=sJZ [115,99,111,117,110,116,101,114,101,110]
def MN:=sJZ [115,115,99,114,97,116,99,104]
def MO:=sJZ [115,101,112,99]
def MP:=sJZ [115,99,97,117,115,101]
def MQ:=sJZ [115,116,118,97,108]
def MR:=sJZ [115,105,112]
def tu:=sJZ [115,97,116,112]
def MS:=sJZ [109,115,116,97,116,117,115]
def MT:=sJZ [109,105,115,97]
def MU:=sJZ [109,101,100,101,108,101,103]
def MV:=sJZ [109,105,100,101,108,101,103]
def MW:=sJZ [109,105,101]
def MX:=sJZ [109,116,118,101,99]
def MY:=sJZ [109,99,111,117,110,116,101,114,101,110]
def MZ:=sJZ [109,115,99,114,97,116,99,104]
def M0:=sJZ [109,101,112,99]
def M1:=sJZ [109,99,97,117,115,101]
def M2:=sJZ [109,116,118,97,108]
def M3:=sJZ [109,105,112]
def M4:=sJZ [109,99,121,99,108,101]
def M5:=sJZ [109,105,110,115,116,114,101,116]
def M8:=sJZ [109,99,121,99,108,101,104]
def M9:=sJZ [109,105,110,115,116,114,101,116,104]
def Na:=sJZ [99,121,99,108,101]
def tz:=sJZ [116,105,109,101]
def Nb:=sJZ [105,110,115,116,114,101,116]
def Nc:=sJZ [99,121,99,108,101,104]
def Nd:=sJZ [116,105,109,101,104]
def Ne:=sJZ [105,110,115,116,114,101,116,104]
def Nf:=sJZ [109,118,101,110,100,111,114,105,100]
def Ng:=sJZ [109,97,114,99,104,105,100]
def Nh:=sJZ [109,105,109,112,105,100]
def xx:=sJZ [109,104,97,114,116,105,100]
def fM:=sJZ [112,105,112,101,98,111,97,114,100,46,99,115,114,115]
def Ni:=sJZ [67,115,114,115,46,95,95,105,110,105,116,95,95]
def Nj:=sJZ [67,115,114,115,46,116,105,109,101]
def Dn:=sJZ [110,101,101,100]
def Nk:=sJZ [67,115,114,115,46,110,101,101,100]
def Do:=sJZ [114,101,97,100]
def Nl:=sJZ [67,115,114,115,46,114,101,97,100]
def Dp:=sJZ [114,101,97,100,95,109,97,99,104,105,110,101]
def Nm:=sJZ [67,115,114,115,46,114,101,97,100,95,109,97,99,104,105,110,101]
def Dq:=sJZ [99,111,117,110,116,101,100]
def Nn:=sJZ [67,115,114,115,46,99,111,117,110,116,101,100]
def Dr:=sJZ [119,114,105,116,101]
def No:=sJZ [67,115,114,115,46,119,114,105,116,101]
def Ds:=sJZ [116,111,108,100]
def Np:=sJZ [67,115,114,115,46,116,111,108,100]
def Dt:=sJZ [119,114,105,116,101,95,109,97,99,104,105,110,101]
def Nq:=sJZ [67,115,114,115,46,119,114,105,116,101,95,109,97,99,104,105,110,101]
def Du:=sJZ [108,105,110,101]
def Nr:=sJZ [67,115,114,115,46,108,105,110,101]
def Dv:=sJZ [108,101,97,118,101,95,115,117,112,101,114,118,105,115,111,114]
def Ns:=sJZ [67,115,114,115,46,108,101,97,118,101,95,115,117,112,101,114,118,105,115,111,114]
def YF:=sJZ [119,114,105,116,101,95,99,111,117,110,116,101,114]
def YG:=sJZ [112,101,110,100,105,110,103]
def YH:=sJZ [105,115,95,104,97,110,100,101,100]
def YI:=sJZ [101,110,116,101,114]
def YJ:=sJZ [112,108,97,99,101,95,111,102]
def YK:=sJZ [108,101,97,118,101,95,109,97,99,104,105,110,101]
def YL:=sJZ [100,97,116,97,95,109,111,100,101]
def YM:=sJZ [105,115,95,112,97,103,101,100]
def YN:=sJZ [114,111,111,116]
def Nt:=sJZ [76,97,121,111,117,116,46,95,95,105,110,105,116,95,95]
def xy:=sJZ [112,105,112,101,98,111,97,114,100,46,112,97,103,105,110,103]
def YO:=sJZ [112,97,114,116,115]
def YP:=sJZ [97,100,100,114,101,115,115]
def YQ:=sJZ [100,111,119,110]
def YR:=sJZ [117,112]
def YS:=sJZ [105,115,95,98,101,103,105,110]
def YT:=sJZ [112,97,103,101,115,95,105,110]
def YU:=sJZ [101,110,116,114,121]
def YV:=sJZ [112,104,121,115,105,99,97,108]
def Nu:=sJZ [87,97,108,107,101,114,46,95,95,105,110,105,116,95,95]
def YW:=sJZ [116,114,97,110,115,108,97,116,101]
def YX:=sJZ [101,110,116,114,121,95,97,116]
def YY:=sJZ [108,97,114,103,101,95,112,97,103,101]
def YZ:=sJZ [109,97,114,107]
def Zi:=sJZ [112,114,111,98,101]
def jK:=sJZ [112,105,112,101,98,111,97,114,100,46,99,111,114,101]
def Nv:=sJZ [67,111,114,101,46,95,95,105,110,105,116,95,95]
def Nw:=sJZ [67,111,114,101,46,102,108,117,115,104]
def Dw:=sJZ [112,117,116]
def Nx:=sJZ [67,111,114,101,46,112,117,116]
def Dx:=sJZ [108,101,97,114,110]
def Ny:=sJZ [67,111,114,101,46,108,101,97,114,110]
def Dy:=sJZ [101,120,101,99,117,116,101]
def Nz:=sJZ [67,111,114,101,46,101,120,101,99,117,116,101]
def Dz:=sJZ [101,120,101,99,117,116,101,95,114,101,115,116]
def NA:=sJZ [67,111,114,101,46,101,120,101,99,117,116,101,95,114,101,115,116]
def DA:=sJZ [99,104,97,110,103,101]
def NB:=sJZ [67,111,114,101,46,99,104,97,110,103,101]
def DB:=sJZ [108,101,97,118,101]
def NC:=sJZ [67,111,114,101,46,108,101,97,118,101]
def Zk:=sJZ [114,101,115,117,109,101]
def ZA:=sJZ [112,108,97,99,101]
def ZB:=sJZ [106,117,109,112]
def ZC:=sJZ [116,114,97,112]
def ZD:=sJZ [115,116,101,112]
def ZE:=sJZ [114,117,110]
def ZF:=sJZ [117,110,116,105,108,95,116,114,97,112]
def ND:=sJZ [83,104,97,112,101,46,95,95,105,110,105,116,95,95]
def tB:=sJZ [115,104,97,112,101]
def jL:=sJZ [75,110,111,119,110,46]
def tC:=sJZ [110,117,109,98,101,114]
def DC:=sJZ [95,95,109,97,105,110,95,95]
def NE:=sJZ [60,109,111,100,117,108,101,62]
def cQ(a b:Str)(n:Nat)(l k:Int)(r e:Nat):Obj:=cO [.str a n,.str b (Zd n 1),.str ew (Zd n 2),.int l 0,.int k 0,.int 0 0,.int 0 0,.int 3 0,.ref r,.bool true,.int 181 0,.ref (Zd r 1),.none,.ref (Zd r 2),.ref (Zd r 3),.ref (Zd r 4),.int (Zo e) 0,.int l 0,.str ew (Zd e 1)]
def o0:Obj:=dO [kS P J0 1 (.str J1 160),kS P J2 2 (.builtin "builtins.__doc__:str#opaque"),kS P J3 3 (.builtin "builtins.__package__:str#opaque"),kS P J4 4 (.builtin "builtins.__loader__:shared#opaque"),kS P J5 5 (.builtin "builtins.__spec__#opaque"),kS P J6 6 (.builtin "__build_class__"),kS P J7 7 (.builtin "__import__"),kS P J8 8 (.builtin "abs"),kS P J9 9 (.builtin "all"),kS P J10 10 (.builtin "any"),kS P J11 11 (.builtin "ascii"),kS P J12 12 (.builtin "bin"),kS P J13 13 (.builtin "breakpoint"),kS P J14 14 (.builtin "callable"),kS P J15 15 (.builtin "chr"),kS P J16 16 (.builtin "compile"),kS P J17 17 (.builtin "delattr"),kS P J18 18 (.builtin "dir"),kS P J19 19 (.builtin "divmod"),kS P J20 20 (.builtin "eval"),kS P J21 21 (.builtin "exec"),kS P J22 22 (.builtin "format"),kS P J23 23 (.builtin "getattr"),kS P J24 24 (.builtin "globals"),kS P J25 25 (.builtin "hasattr"),kS P J26 26 (.builtin "hash"),kS P J27 27 (.builtin "hex"),kS P J28 28 (.builtin "id"),kS P J29 29 (.builtin "input"),kS P J30 30 (.builtin "isinstance"),kS P J31 31 (.builtin "issubclass"),kS P J32 32 (.builtin "iter"),kS P J33 33 (.builtin "aiter"),kS P J34 34 (.builtin "len"),kS P J35 35 (.builtin "locals"),kS P J36 36 (.builtin "max"),kS P J37 37 (.builtin "min"),kS P J38 38 (.builtin "next"),kS P J39 39 (.builtin "anext"),kS P J40 40 (.builtin "oct"),kS P J41 41 (.builtin "ord"),kS P J42 42 (.builtin "pow"),kS P J43 43 (.builtin "print"),kS P J44 44 (.builtin "repr"),kS P J45 45 (.builtin "round"),kS P J46 46 (.builtin "setattr"),kS P J47 47 (.builtin "sorted"),kS P J48 48 (.builtin "sum"),kS P J49 49 (.builtin "vars"),kS P J50 50 .none,kS P J51 51 .ellipsis,kS P J52 52 .notImplemented,kS P J53 53 (.bool false),kS P J54 54 (.bool true),kS P J55 55 (.type "bool"),kS P J56 56 (.type "memoryview"),kS P J57 57 (.type "bytearray"),kS P J58 58 (.type "bytes"),kS P J59 59 (.type "classmethod"),kS P J60 60 (.type "complex"),kS P J61 61 (.type "dict"),kS P J62 62 (.type "enumerate"),kS P J63 63 (.type "filter"),kS P J64 64 (.type "float"),kS P J65 65 (.type "frozenset"),kS P J66 66 (.type "property"),kS P J67 67 (.type "int"),kS P J68 68 (.type "list"),kS P J69 69 (.type "map"),kS P J70 70 (.type "object"),kS P J71 71 (.type "range"),kS P J72 72 (.type "reversed"),kS P J73 73 (.type "set"),kS P J74 74 (.type "slice"),kS P J75 75 (.type "staticmethod"),kS P J76 76 (.type "str"),kS P J77 77 (.type "super"),kS P J78 78 (.type "tuple"),kS P J79 79 (.type "type"),kS P J80 80 (.type "zip"),kS P J81 81 (.bool true),kS P J82 82 (.type "BaseException"),kS P J83 83 (.type "BaseExceptionGroup"),kS P J84 84 (.type "Exception"),kS P J85 85 (.type "GeneratorExit"),kS P J86 86 (.type "KeyboardInterrupt"),kS P J87 87 (.type "SystemExit"),kS P J88 88 (.type "ArithmeticError"),kS P J89 89 (.type "AssertionError"),kS P J90 90 (.type "AttributeError"),kS P J91 91 (.type "BufferError"),kS P J92 92 (.type "EOFError"),kS P J93 93 (.type "ImportError"),kS P J94 94 (.type "LookupError"),kS P J95 95 (.type "MemoryError"),kS P J96 96 (.type "NameError"),kS P J97 97 (.type "OSError"),kS P J98 98 (.type "ReferenceError"),kS P J99 99 (.type "RuntimeError"),kS P Vg 100 (.type "StopAsyncIteration"),kS P Vh 101 (.type "StopIteration"),kS P Vi 102 (.type "SyntaxError"),kS P Vj 103 (.type "SystemError"),kS P Vk 104 (.type "TypeError"),kS P Vl 105 (.type "ValueError"),kS P Vm 106 (.type "Warning"),kS P Vn 107 (.type "FloatingPointError"),kS P Vo 108 (.type "OverflowError"),kS P Vp 109 (.type "ZeroDivisionError"),kS P Vq 110 (.type "BytesWarning"),kS P Vr 111 (.type "DeprecationWarning"),kS P Vs 112 (.type "EncodingWarning"),kS P Vt 113 (.type "FutureWarning"),kS P Vu 114 (.type "ImportWarning"),kS P Vv 115 (.type "PendingDeprecationWarning"),kS P Vw 116 (.type "ResourceWarning"),kS P Vx 117 (.type "RuntimeWarning"),kS P Vy 118 (.type "SyntaxWarning"),kS P Vz 119 (.type "UnicodeWarning"),kS P VA 120 (.type "UserWarning"),kS P VB 121 (.type "BlockingIOError"),kS P VC 122 (.type "ChildProcessError"),kS P VD 123 (.type "ConnectionError"),kS P VE 124 (.type "FileExistsError"),kS P VF 125 (.type "FileNotFoundError"),kS P VG 126 (.type "InterruptedError"),kS P VH 127 (.type "IsADirectoryError"),kS P VI 128 (.type "NotADirectoryError"),kS P VJ 129 (.type "PermissionError"),kS P VK 130 (.type "ProcessLookupError"),kS P VL 131 (.type "TimeoutError"),kS P VM 132 (.type "IndentationError"),kS P VN 133 (.type "_IncompleteInputError"),kS P VO 134 (.type "IndexError"),kS P VP 135 (.type "KeyError"),kS P VQ 136 (.type "ModuleNotFoundError"),kS P VR 137 (.type "NotImplementedError"),kS P VS 138 (.type "PythonFinalizationError"),kS P VT 139 (.type "RecursionError"),kS P VU 140 (.type "UnboundLocalError"),kS P VV 141 (.type "UnicodeError"),kS P VW 142 (.type "BrokenPipeError"),kS P VX 143 (.type "ConnectionAbortedError"),kS P VY 144 (.type "ConnectionRefusedError"),kS P VZ 145 (.type "ConnectionResetError"),kS P V0 146 (.type "TabError"),kS P V1 147 (.type "UnicodeDecodeError"),kS P V2 148 (.type "UnicodeEncodeError"),kS P V3 149 (.type "UnicodeTranslateError"),kS P V4 150 (.type "ExceptionGroup"),kS P V5 151 (.type "OSError"),kS P V8 152 (.type "OSError"),kS P V9 153 (.builtin "open"),kS P Wa 154 (.builtin "builtins.quit#opaque"),kS P Wb 155 (.builtin "builtins.exit#opaque"),kS P Wc 156 (.builtin "builtins.copyright#opaque"),kS P Wd 157 (.builtin "builtins.credits#opaque"),kS P We 158 (.builtin "builtins.license#opaque"),kS P Wf 159 (.builtin "builtins.help#opaque")] 159
noncomputable def o2(P:Z5):Obj:=⟨.none,none,.dict ⟨[]⟩ 0,⟨[]⟩⟩
def o3:Obj:=dO [kS P J0 165 (.str qe 5529),kS P J2 166 .none,kS P J3 167 .none,kS P J4 168 (.builtin "__main__.__loader__#opaque"),kS P J5 169 .none,kS P CU 170 (.ref 6),kS P CV 171 (.ref 4),kS P CW 173 (.str ew 172),kS P CX 174 .none,kS P Mk 193 (.ref 21),kS P qf 223 (.ref 39),kS P Ml 239 (.ref 52),kS P Mm 264 (.ref 71),kS P qg 320 (.ref 91),kS P Mn 431 (.ref 94),kS P Mo 433 (.int 3 432),kS P Mp 435 (.int 15 434),kS P Mq 437 (.int 19 436),kS P Mr 439 (.int 23 438),kS P Ms 441 (.int 35 440),kS P Mt 443 (.int 51 442),kS P Mu 445 (.int 55 444),kS P Mv 447 (.int 99 446),kS P Mw 449 (.int 103 448),kS P Mx 451 (.int 111 450),kS P My 453 (.int 115 452),kS P qh 504 (.ref 121),kS P qi 550 (.ref 150),kS P qj 564 (.ref 162),kS P qk 573 (.ref 169),kS P sP 3994 (.ref 1011),kS P Wg 4049 (.ref 1016),kS P Wh 4094 (.ref 1029),kS P sQ 4101 (.ref 1044),kS P sR 4116 (.ref 1051),kS P Wi 4123 (.ref 1058),kS P Wj 4130 (.ref 1065),kS P sS 4141 (.ref 1072),kS P Wk 4149 (.ref 1079),kS P Wl 4157 (.ref 1086),kS P sT 4168 (.ref 1093),kS P sU 4182 (.ref 1100),kS P Wm 4186 (.int 4294967295 4185),kS P Wn 4188 (.int 2147483648 4187),kS P Mz 4190 (.int 4294967296 4189),kS P Wo 4197 (.ref 1107),kS P Wp 4206 (.ref 1114),kS P gx 4214 (.ref 1121),kS P w1 4222 (.ref 1128),kS P Wq 4230 (.ref 1135),kS P Wr 4238 (.ref 1142),kS P Ws 4246 (.ref 1149),kS P Wt 4254 (.ref 1156),kS P w2 4262 (.ref 1163),kS P w3 4270 (.ref 1170),kS P w4 4278 (.ref 1177),kS P w5 4286 (.ref 1184),kS P w6 4294 (.ref 1191),kS P w7 4302 (.ref 1198),kS P w8 4313 (.ref 1205),kS P w9 4324 (.ref 1212),kS P Wu 4328 (.int 0 4327),kS P Wv 4330 (.int 1 4329),kS P Ww 4332 (.int 3 4331),kS P Wx 4336 (.int 2147483648 4335),kS P Wy 4340 (.int 2 4339),kS P Wz 4344 (.int 8 4343),kS P WA 4348 (.int 32 4347),kS P WB 4352 (.int 128 4351),kS P WC 4356 (.int 256 4355),kS P WD 4358 (.int 11 4357),kS P WE 4361 (.int 6144 4360),kS P WF 4365 (.int 131072 4364),kS P WG 4369 (.int 262144 4368),kS P WH 4373 (.int 524288 4372),kS P WI 4382 (.int 924074 4381),kS P WJ 4387 (.int 786722 4386),kS P WK 4389 (.int 1 4388),kS P WL 4391 (.int 3 4390),kS P WM 4393 (.int 5 4392),kS P WN 4395 (.int 7 4394),kS P WO 4397 (.int 9 4396),kS P WP 4399 (.int 11 4398),kS P WQ 4400 (.ref 1213),kS P WU 4409 (.int 546 4408),kS P WV 4419 (.int 2730 4418),kS P WW 4421 (.int 46079 4420),kS P WY 4425 (.int 2147483648 4424),kS P WZ 4431 (.int 4194303 4430),kS P W0 4433 (.int 2151677951 4432),kS P W1 4542 (.ref 1216),kS P W3 4544 (.int 7 4543),kS P W4 4564 (.int 1075056896 4563),kS P sV 4571 (.ref 1370),kS P sW 4578 (.ref 1377),kS P sY 4585 (.ref 1384),kS P sZ 4594 (.ref 1391),kS P s3 4812 (.ref 1544),kS P W5 4816 (.int 4 4815),kS P W6 4818 (.int 1 4817),kS P W7 4820 (.int 2 4819),kS P W8 4822 (.int 4 4821),kS P W9 4824 (.int 8 4823),kS P Xi 4826 (.int 16 4825),kS P Xk 4828 (.int 64 4827),kS P Xq 4830 (.int 128 4829),kS P XA 4832 (.int 10 4831),kS P XB 4834 (.int 10 4833),kS P XC 4836 (.str MA 4835),kS P XD 4838 (.str MB 4837),kS P XE 4840 (.str MC 4839),kS P XF 4847 (.ref 1549),kS P XG 4854 (.ref 1550),kS P XH 4856 (.int 0 4855),kS P s4 4961 (.ref 1625),kS P XI 4968 (.ref 1636),kS P XJ 4975 (.ref 1643),kS P XK 4986 (.ref 1650),kS P s5 5088 (.ref 1704),kS P XL 5092 (.int 0 5091),kS P XM 5094 (.int 1 5093),kS P XN 5096 (.int 2 5095),kS P XO 5100 (.ref 1709),kS P XP 5104 (.ref 1710),kS P XQ 5106 (.int 0 5105),kS P XR 5108 (.int 1 5107),kS P XS 5110 (.int 2 5109),kS P XT 5112 (.int 3 5111),kS P XU 5114 (.int 4 5113),kS P MD 5116 (.int 5 5115),kS P XV 5124 (.ref 1717),kS P XW 5132 (.ref 1724),kS P XX 5140 (.ref 1731),kS P XY 5148 (.ref 1738),kS P XZ 5156 (.ref 1745),kS P Ya 5164 (.ref 1752),kS P Yb 5172 (.ref 1759),kS P Yc 5180 (.ref 1766),kS P Yd 5188 (.ref 1773),kS P Ye 5196 (.ref 1780),kS P Yf 5215 (.ref 1781),kS P Yg 5234 (.ref 1782),kS P Yh 5262 (.ref 1783),kS P Yi 5278 (.ref 1784),kS P Yj 5288 (.ref 1790),kS P Yk 5301 (.ref 1791),kS P s6 5309 (.ref 1798),kS P s7 5528 (.ref 1937),kS P s8 5536 (.ref 1946),kS P s9 5542 (.ref 1951),kS P tf 5555 (.ref 1958),kS P tg 5564 (.ref 1965),kS P tj 5570 (.ref 1970)] 153
def U1(P:Z5):Obj:=tO [.str CY 208]
def U2(P:Z5):Obj:=cQ dn ME 209 7 2 30 214
def U3(P:Z5):Obj:=fO dn ME (bK aF 2 0) (.ref 29) (.str xc 194) (.ref 35)
def U4:Obj:=dO [kS P kQ 203 (.str xc 194),kS P kR 207 (.int 5 206),kS P dn 216 (.ref 36),kS P kT 218 (.ref 37),kS P l8 220 (.ref 40),kS P J2 221 .none] 3
def U5(P:Z5):Obj:=⟨.type "type",none,.cls ⟨qf,[.type "ValueError"],[.ref 39,.type "ValueError",.type "Exception",.type "BaseException",.type "object"],38,qf,true,[],[.ref 52,.ref 71,.ref 91],false,Xt,false⟩,⟨[some (.ref 22),none,some (.str qf 196),some (.str qf 204),some (.builtin "ValueError.__new__"),some (.bool true)]⟩⟩
def U6(P:Z5):Obj:=tO [.int 0 305]
def U7(P:Z5):Obj:=cQ dn MF 306 33 3 82 312
def U8(P:Z5):Obj:=fO dn MF (bK aF 5 14) (.ref 81) (.str xc 194) (.ref 87)
def U9:Obj:=dO [kS P kQ 272 (.str xc 194),kS P kR 276 (.int 17 275),kS P Yl 278 (.int 0 277),kS P Ym 280 (.int 1 279),kS P Yn 282 (.int 2 281),kS P Yo 284 (.int 3 283),kS P Yp 286 (.int 4 285),kS P Yq 288 (.int 5 287),kS P Yr 290 (.int 6 289),kS P Ys 292 (.int 7 291),kS P Yt 294 (.int 8 293),kS P Yu 296 (.int 9 295),kS P Yv 298 (.int 11 297),kS P Yw 300 (.int 12 299),kS P Yx 302 (.int 13 301),kS P Yy 304 (.int 15 303),kS P dn 314 (.ref 88),kS P kT 317 (.ref 89),kS P J2 318 .none] 2
def Va(P:Z5):Obj:=⟨.type "type",none,.cls ⟨qg,[.ref 39],[.ref 91,.ref 39,.type "ValueError",.type "Exception",.type "BaseException",.type "object"],90,qg,true,[],[],false,Xt,false⟩,⟨[some (.ref 74),none,some (.str qg 265),some (.str qg 273),some (.builtin "ValueError.__new__"),some (.bool true)]⟩⟩
def PG(P:Z5):Obj:=tO [.int 0 466,.int 0 467,.int 0 468,.int 0 469,.int 0 470]
def PH(P:Z5):Obj:=cQ dn MG 471 52 7 105 481
def PI(P:Z5):Obj:=fO dn MG (bK aF 19 0) (.ref 104) (.str gy 321) (.ref 110)
def PJ:Obj:=dO [kS P kQ 461 (.str gy 321),kS P kR 465 (.int 50 464),kS P dn 483 (.ref 111),kS P Yz 490 (.ref 118),kS P kT 497 (.ref 119),kS P oH 499 (.ref 122),kS P l8 501 (.ref 123),kS P J2 502 .none] 4
def PK(P:Z5):Obj:=⟨.type "type",none,.cls ⟨qh,[.type "object"],[.ref 121,.type "object"],120,qh,true,[],[],false,Xt,false⟩,⟨[none,none,some (.str qh 454),some (.str qh 462),some (.builtin "object.__new__"),some (.bool true)]⟩⟩
def qI(P:Z5):Obj:=cQ CZ MH 531 71 1 141 535
def qJ(P:Z5):Obj:=fO CZ MH (bK aF 20 1) .none (.str gy 321) (.ref 146)
def gP:Obj:=dO [kS P kQ 512 (.str gy 321),kS P kR 516 (.int 62 515),kS P dn 530 (.ref 140),kS P CZ 537 (.ref 147),kS P kT 543 (.ref 148),kS P oH 545 (.ref 151),kS P l8 547 (.ref 152),kS P J2 548 .none] 4
def gQ(P:Z5):Obj:=⟨.type "type",none,.cls ⟨qi,[.type "object"],[.ref 150,.type "object"],149,qi,true,[],[],false,Xt,false⟩,⟨[none,none,some (.str qi 505),some (.str qi 513),some (.builtin "object.__new__"),some (.bool true)]⟩⟩
def EK:Obj:=dO [kS P bW 1019 (.str l9 1000),kS P dv 1021 (.str gz 993),kS P f6 1023 (.int 19 436),kS P f7 1025 (.int 0 1008),kS P f8 1027 (.int 0 551)] 5
def EL(P:Z5):Obj:=iO 150 331
def EM:Obj:=dO [kS P bW 1288 (.str gx 1269),kS P dv 1290 (.str eA 1262),kS P f6 1292 (.int 51 442),kS P f7 1294 (.int 0 1277),kS P f8 1296 (.int 0 551)] 5
def EN(P:Z5):Obj:=iO 150 459
def EO:Obj:=dO [kS P bW 1706 (.str iw 1693),kS P dv 1708 (.str iw 1686),kS P f6 1710 (.int 15 434),kS P f7 1712 (.int 0 1695),kS P f8 1714 (.int 0 551)] 5
def EP(P:Z5):Obj:=iO 150 622
def EQ:Obj:=dO [kS P bW 1726 (.str mb 1694),kS P dv 1728 (.str iw 1686),kS P f6 1730 (.int 15 434),kS P f7 1732 (.int 1 1715),kS P f8 1734 (.int 0 551)] 5
def ER(P:Z5):Obj:=iO 150 629
def ES:Obj:=dO [kS P bW 1762 (.str mc 1744),kS P dv 1764 (.str xe 1736),kS P f6 1766 (.int 115 452),kS P f7 1768 (.int 1 1751),kS P f8 1770 (.int 0 551)] 5
def ET(P:Z5):Obj:=iO 150 647
def EU:Obj:=dO [kS P bW 1782 (.str me 1745),kS P dv 1784 (.str xe 1736),kS P f6 1786 (.int 115 452),kS P f7 1788 (.int 2 1771),kS P f8 1790 (.int 0 551)] 5
def EV(P:Z5):Obj:=iO 150 654
def EW:Obj:=dO [kS P bW 1802 (.str mf 1746),kS P dv 1804 (.str xe 1736),kS P f6 1806 (.int 115 452),kS P f7 1808 (.int 3 1791),kS P f8 1810 (.int 0 551)] 5
def EX(P:Z5):Obj:=iO 150 661
def EY:Obj:=dO [kS P bW 1858 (.str mg 1824),kS P dv 1860 (.str tl 1812),kS P f6 1862 (.int 115 452),kS P f7 1864 (.int 5 1847),kS P f8 1866 (.int 0 551)] 5
def EZ(P:Z5):Obj:=iO 150 695
def E0:Obj:=dO [kS P bW 1878 (.str mh 1825),kS P dv 1880 (.str tl 1812),kS P f6 1882 (.int 115 452),kS P f7 1884 (.int 6 1867),kS P f8 1886 (.int 0 551)] 5
def E1(P:Z5):Obj:=iO 150 702
def E2:Obj:=dO [kS P bW 1898 (.str mi 1826),kS P dv 1900 (.str tl 1812),kS P f6 1902 (.int 115 452),kS P f7 1904 (.int 7 1887),kS P f8 1906 (.int 0 551)] 5
def E3(P:Z5):Obj:=iO 150 709
def E4:Obj:=dO [kS P bW 1918 (.str f9 1907),kS P dv 1920 (.str tp 1908),kS P f6 1922 (.int 115 452),kS P f7 1924 (.int 0 1909),kS P f8 1926 (.int 9 1910)] 5
def E5(P:Z5):Obj:=iO 150 714
def E6:Obj:=dO [kS P bW 1994 (.str jJ 1931),kS P dv 1996 (.str ql 1983),kS P f6 1998 (.int 270532723 1986),kS P f7 2000 (.int 0 517),kS P f8 2002 (.int 0 518)] 5
def E7(P:Z5):Obj:=iO 150 739
def Fa:Obj:=dO [kS P bW 2016 (.str mj 1933),kS P dv 2018 (.str ql 2005),kS P f6 2020 (.int 273678451 2008),kS P f7 2022 (.int 0 517),kS P f8 2024 (.int 0 518)] 5
def Fb(P:Z5):Obj:=iO 150 745
def Fc:Obj:=dO [kS P bW 2038 (.str kU 1935),kS P dv 2040 (.str ql 2027),kS P f6 2042 (.int 807403635 2030),kS P f7 2044 (.int 0 517),kS P f8 2046 (.int 0 518)] 5
def Fd(P:Z5):Obj:=iO 150 751
def Fe:Obj:=dO [kS P qm 586 (.ref 179),kS P qn 604 (.ref 182),kS P qo 622 (.ref 185),kS P qp 640 (.ref 188),kS P C0 667 (.ref 201),kS P C1 668 (.ref 208),kS P C2 671 (.ref 223),kS P C3 672 (.ref 230),kS P C4 673 (.ref 237),kS P C5 674 (.ref 244),kS P C6 811 (.ref 258),kS P C7 812 (.ref 265),kS P C8 813 (.ref 272),kS P C9 815 (.ref 283),kS P Da 816 (.ref 290),kS P Db 929 (.ref 304),kS P Dc 930 (.ref 311),kS P Dd 931 (.ref 318),kS P l9 1000 (.ref 332),kS P De 1002 (.ref 343),kS P Df 1003 (.ref 350),kS P Dg 1004 (.ref 357),kS P Dh 1006 (.ref 368),kS P Di 1007 (.ref 375),kS P Dj 1145 (.ref 393),kS P Dk 1149 (.ref 412),kS P Dl 1220 (.ref 446),kS P gx 1269 (.ref 460),kS P xi 1270 (.ref 467),kS P xj 1271 (.ref 474),kS P xk 1272 (.ref 481),kS P xl 1273 (.ref 488),kS P xm 1274 (.ref 495),kS P xn 1275 (.ref 502),kS P xp 1276 (.ref 509),kS P w1 1446 (.ref 523),kS P xq 1451 (.ref 546),kS P w2 1517 (.ref 560),kS P w3 1518 (.ref 567),kS P w4 1519 (.ref 574),kS P w5 1520 (.ref 581),kS P w8 1521 (.ref 588),kS P w6 1522 (.ref 595),kS P w9 1523 (.ref 602),kS P w7 1524 (.ref 609),kS P iw 1693 (.ref 623),kS P mb 1694 (.ref 630),kS P mc 1744 (.ref 648),kS P me 1745 (.ref 655),kS P mf 1746 (.ref 662),kS P mg 1824 (.ref 696),kS P mh 1825 (.ref 703),kS P mi 1826 (.ref 710),kS P f9 1907 (.ref 715),kS P qq 1927 (.ref 728),kS P qr 1929 (.ref 734),kS P jJ 1931 (.ref 740),kS P mj 1933 (.ref 746),kS P kU 1935 (.ref 752)] 59
def Ff(P:Z5):Obj:=dO [kI 55 444 (.ref 179),kI 23 438 (.ref 182),kI 111 450 (.ref 185)] 3
def Fg(P:Z5):Obj:=dO [kI 103 2510 (.ref 188),kI 99 2529 (.ref 201),kI 4195 2548 (.ref 208),kI 16483 2567 (.ref 223),kI 20579 2586 (.ref 230),kI 24675 2605 (.ref 237),kI 28771 2624 (.ref 244),kI 3 2643 (.ref 258),kI 4099 2662 (.ref 265),kI 8195 2681 (.ref 272),kI 16387 2700 (.ref 283),kI 20483 2719 (.ref 290),kI 35 2738 (.ref 304),kI 4131 2757 (.ref 311),kI 8227 2776 (.ref 318),kI 19 2795 (.ref 332),kI 8211 2814 (.ref 343),kI 12307 2833 (.ref 350),kI 16403 2852 (.ref 357),kI 24595 2871 (.ref 368),kI 28691 2890 (.ref 375),kI 15 3077 (.ref 623),kI 4111 3096 (.ref 630),kI 4211 3115 (.ref 648),kI 8307 3134 (.ref 655),kI 12403 3153 (.ref 662),kI 20595 3172 (.ref 696),kI 24691 3191 (.ref 703),kI 28787 3210 (.ref 710)] 29
def Fh(P:Z5):Obj:=dO [kI 4115 3395 (.ref 393),kI 20499 3411 (.ref 412),kI 1073762323 3427 (.ref 446),kI 51 3443 (.ref 460),kI 4147 3459 (.ref 467),kI 8243 3475 (.ref 474),kI 12339 3491 (.ref 481),kI 16435 3507 (.ref 488),kI 20531 3523 (.ref 495),kI 24627 3539 (.ref 502),kI 28723 3555 (.ref 509),kI 1073741875 3571 (.ref 523),kI 1073762355 3587 (.ref 546),kI 33554483 3603 (.ref 560),kI 33558579 3619 (.ref 567),kI 33562675 3635 (.ref 574),kI 33566771 3651 (.ref 581),kI 33570867 3667 (.ref 588),kI 33574963 3683 (.ref 595),kI 33579059 3699 (.ref 602),kI 33583155 3715 (.ref 609),kI 301990003 3771 (.ref 715)] 22
def y7(P:Z5):Obj:=dO [kI 115 1942 (.ref 728),kI 1048691 1964 (.ref 734),kI 270532723 1986 (.ref 740),kI 273678451 2008 (.ref 746),kI 807403635 2030 (.ref 752)] 5
def Hh:Obj:=dO [kS P kQ 581 (.str gy 321),kS P kR 585 (.int 97 584),kS P YA 2047 (.ref 190),kS P MD 2225 (.ref 757),kS P YB 2468 (.ref 762),kS P YC 3260 (.ref 826),kS P YD 3798 (.ref 919),kS P Mz 3986 (.ref 1005),kS P kT 3987 (.ref 1009),kS P oH 3989 (.ref 1012),kS P l8 3991 (.ref 1013),kS P J2 3992 .none] 4
def Hi(P:Z5):Obj:=⟨.type "type",none,.cls ⟨sP,[.type "object"],[.ref 1011,.type "object"],1010,sP,true,[],[],false,Xt,false⟩,⟨[none,none,some (.str sP 574),some (.str sP 582),some (.builtin "object.__new__"),some (.bool true)]⟩⟩
def Hj:Obj:=dO [kS P eA 3995 (.ref 1017),kS P gz 3999 (.ref 1018),kS P tq 4003 (.ref 1019),kS P mn 4007 (.ref 1020),kS P xr 4011 (.ref 1021),kS P Dm 4014 (.ref 1022),kS P ts 4017 (.ref 1023),kS P iw 4021 (.ref 1024),kS P xe 4025 (.ref 1025),kS P tl 4029 (.ref 1026),kS P tp 4033 (.ref 1027),kS P ql 4036 (.ref 1028)] 12
def Hk(P:Z5):Obj:=tO [.str dw 3996,.str dY 3997,.str eW 3998]
def Hl(P:Z5):Obj:=tO [.str dw 4000,.str dY 4001,.str cP 4002]
def Hm(P:Z5):Obj:=tO [.str dw 4022,.str dY 4023,.str cP 4024]
def Ho(P:Z5):Obj:=tO [.str dw 4026,.str dY 4027,.str dp 4028]
def Hp(P:Z5):Obj:=tO [.str dw 4030,.str cP 4031,.str dp 4032]
def Hq(P:Z5):Obj:=tO [.str dY 4034,.str eW 4035]
def Hr(P:Z5):Obj:=tO []
def Hs:Obj:=dO [kS P gz 4050 (.ref 1030),kS P tq 4055 (.ref 1031),kS P mn 4060 (.ref 1032),kS P xr 4065 (.ref 1033),kS P Dm 4069 (.ref 1034),kS P ts 4074 (.ref 1035),kS P iw 4078 (.ref 1036),kS P tl 4082 (.ref 1037)] 8
def Ht(P:Z5):Obj:=tO [.int (-2048) 4052,.int 2047 4053,.int 1 4054]
def Hv(P:Z5):Obj:=tO [.int 0 4079,.int 4095 4080,.int 1 4081]
def Hw(P:Z5):Obj:=tO [.int 0 4083,.int 31 4084,.int 1 4085]
def Hx(P:Z5):Obj:=cQ sQ sQ 4095 106 1 1038 4099
def Hy(P:Z5):Obj:=fO sQ sQ (cK aF 26) .none (.str gy 321) (.ref 1043)
def Hz(P:Z5):Obj:=cQ sR sR 4102 110 2 1045 4114
def HA(P:Z5):Obj:=fO sR sR (cK aF 27) .none (.str gy 321) (.ref 1050)
def HG(P:Z5):Obj:=cQ sS sS 4131 129 1 1066 4139
def HH(P:Z5):Obj:=fO sS sS (cK aF 30) .none (.str gy 321) (.ref 1071)
def HJ(P:Z5):Obj:=cQ sT sT 4158 155 1 1087 4166
def HN(P:Z5):Obj:=fO sT sT (cK aF 33) .none (.str gy 321) (.ref 1092)
def HO(P:Z5):Obj:=cQ sU sU 4169 167 1 1094 4180
def HQ(P:Z5):Obj:=fO sU sU (cK aF 34) .none (.str gy 321) (.ref 1099)
def Ia(P:Z5):Obj:=cQ gx gx 4207 208 2 1115 4212
def Ib(P:Z5):Obj:=fO gx gx (cK aF 41) .none (.str YE 4183) (.ref 1120)
def nX(P:Z5):Obj:=dO [kI 256 324 (.str MI 323),kI 260 327 (.str MJ 326),kI 261 330 (.str MK 329),kI 262 333 (.str ML 332),kI 320 336 (.str MN 335),kI 321 339 (.str MO 338),kI 322 342 (.str MP 341),kI 323 345 (.str MQ 344),kI 324 348 (.str MR 347),kI 384 351 (.str tu 350),kI 768 354 (.str MS 353),kI 769 357 (.str MT 356),kI 770 360 (.str MU 359),kI 771 363 (.str MV 362),kI 772 366 (.str MW 365),kI 773 369 (.str MX 368),kI 774 372 (.str MY 371),kI 832 375 (.str MZ 374),kI 833 378 (.str M0 377),kI 834 381 (.str M1 380),kI 835 384 (.str M2 383),kI 836 387 (.str M3 386),kI 2816 390 (.str M4 389),kI 2818 393 (.str M5 392),kI 2944 396 (.str M8 395),kI 2946 399 (.str M9 398),kI 3072 402 (.str Na 401),kI 3073 405 (.str tz 404),kI 3074 408 (.str Nb 407),kI 3200 411 (.str Nc 410),kI 3201 414 (.str Nd 413),kI 3202 417 (.str Ne 416),kI 3857 420 (.str Nf 419),kI 3858 423 (.str Ng 422),kI 3859 426 (.str Nh 425),kI 3860 428 (.str xx 427)] 36
def Ic(P:Z5):Obj:=cQ sV sV 4565 277 1 1364 4569
def Id(P:Z5):Obj:=fO sV sV (cK aF 88) .none (.str fM 4325) (.ref 1369)
def Ie(P:Z5):Obj:=cQ sW sW 4572 279 1 1371 4576
def If(P:Z5):Obj:=fO sW sW (cK aF 89) .none (.str fM 4325) (.ref 1376)
def Ig(P:Z5):Obj:=cQ sY sY 4579 281 1 1378 4583
def Ih(P:Z5):Obj:=fO sY sY (cK aF 90) .none (.str fM 4325) (.ref 1383)
def Ii(P:Z5):Obj:=cQ sZ sZ 4586 283 2 1385 4592
def Ij(P:Z5):Obj:=fO sZ sZ (cK aF 91) .none (.str fM 4325) (.ref 1390)
def Ik(P:Z5):Obj:=tO [.int 0 4607]
def Il(P:Z5):Obj:=cQ dn Ni 4608 290 2 1400 4613
def Im(P:Z5):Obj:=fO dn Ni (bK aF 92 0) (.ref 1399) (.str fM 4325) (.ref 1405)
def In(P:Z5):Obj:=cQ tz Nj 4616 303 1 1407 4620
def Io(P:Z5):Obj:=fO tz Nj (bK aF 92 1) .none (.str fM 4325) (.ref 1412)
def Ip(P:Z5):Obj:=cQ Dn Nk 4623 306 3 1414 4630
def Iq(P:Z5):Obj:=fO Dn Nk (bK aF 92 2) .none (.str fM 4325) (.ref 1419)
def Ir(P:Z5):Obj:=tO [.int 3 4331]
def Is(P:Z5):Obj:=cQ Do Nl 4633 314 3 1422 4639
def It(P:Z5):Obj:=fO Do Nl (bK aF 92 3) (.ref 1421) (.str fM 4325) (.ref 1427)
def Iu(P:Z5):Obj:=cQ Dp Nm 4642 330 2 1429 4647
def Iv(P:Z5):Obj:=fO Dp Nm (bK aF 92 4) .none (.str fM 4325) (.ref 1434)
def Iw(P:Z5):Obj:=cQ Dq Nn 4650 341 2 1436 4656
def Ix(P:Z5):Obj:=fO Dq Nn (bK aF 92 5) .none (.str fM 4325) (.ref 1441)
def Iz(P:Z5):Obj:=cQ Dr No 4659 347 4 1444 4667
def IA(P:Z5):Obj:=fO Dr No (bK aF 92 6) (.ref 1443) (.str fM 4325) (.ref 1449)
def IB(P:Z5):Obj:=cQ Ds Np 4670 368 3 1451 4676
def IC(P:Z5):Obj:=fO Ds Np (bK aF 92 7) .none (.str fM 4325) (.ref 1456)
def ID(P:Z5):Obj:=cQ Dt Nq 4679 375 3 1458 4685
def IF(P:Z5):Obj:=fO Dt Nq (bK aF 92 8) .none (.str fM 4325) (.ref 1463)
def IG(P:Z5):Obj:=cQ Du Nr 4699 398 3 1472 4705
def IH(P:Z5):Obj:=fO Du Nr (bK aF 92 10) .none (.str fM 4325) (.ref 1477)
def II(P:Z5):Obj:=cQ Dv Ns 4762 450 1 1514 4768
def IJ(P:Z5):Obj:=fO Dv Ns (bK aF 92 16) .none (.str fM 4325) (.ref 1519)
def IK:Obj:=dO [kS P kQ 4602 (.str fM 4325),kS P kR 4606 (.int 288 4605),kS P dn 4615 (.ref 1406),kS P tz 4622 (.ref 1413),kS P Dn 4632 (.ref 1420),kS P Do 4641 (.ref 1428),kS P Dp 4649 (.ref 1435),kS P Dq 4658 (.ref 1442),kS P Dr 4669 (.ref 1450),kS P Ds 4678 (.ref 1457),kS P Dt 4687 (.ref 1464),kS P YF 4698 (.ref 1471),kS P Du 4707 (.ref 1478),kS P YG 4720 (.ref 1485),kS P YH 4730 (.ref 1492),kS P YI 4742 (.ref 1499),kS P YJ 4752 (.ref 1506),kS P YK 4761 (.ref 1513),kS P Dv 4770 (.ref 1520),kS P YL 4778 (.ref 1527),kS P YM 4785 (.ref 1534),kS P YN 4793 (.ref 1541),kS P kT 4805 (.ref 1542),kS P oH 4807 (.ref 1545),kS P l8 4809 (.ref 1546),kS P J2 4810 .none] 4
def IL(P:Z5):Obj:=⟨.type "type",none,.cls ⟨s3,[.type "object"],[.ref 1544,.type "object"],1543,s3,true,[],[],false,Xt,false⟩,⟨[none,none,some (.str s3 4595),some (.str s3 4603),some (.builtin "object.__new__"),some (.bool true)]⟩⟩
def IM(P:Z5):Obj:=tO [.int 12 4869]
def IN(P:Z5):Obj:=cQ dn Nt 4870 483 2 1559 4875
def IO(P:Z5):Obj:=fO dn Nt (bK aF 110 0) (.ref 1558) (.str xy 4813) (.ref 1564)
def IP:Obj:=dO [kS P kQ 4864 (.str xy 4813),kS P kR 4868 (.int 481 4867),kS P dn 4877 (.ref 1565),kS P YO 4886 (.ref 1572),kS P YP 4897 (.ref 1580),kS P YQ 4905 (.ref 1587),kS P YR 4913 (.ref 1594),kS P YS 4921 (.ref 1601),kS P YT 4930 (.ref 1608),kS P YU 4939 (.ref 1615),kS P YV 4947 (.ref 1622),kS P kT 4954 (.ref 1623),kS P oH 4956 (.ref 1626),kS P l8 4958 (.ref 1627),kS P J2 4959 .none] 4
def IQ(P:Z5):Obj:=⟨.type "type",none,.cls ⟨s4,[.type "object"],[.ref 1625,.type "object"],1624,s4,true,[],[],false,Xt,false⟩,⟨[none,none,some (.str s4 4857),some (.str s4 4865),some (.builtin "object.__new__"),some (.bool true)]⟩⟩
def IR(P:Z5):Obj:=cQ dn Nu 4999 535 3 1658 5005
def IT(P:Z5):Obj:=fO dn Nu (bK aF 114 0) .none (.str xy 4813) (.ref 1663)
def IU:Obj:=dO [kS P kQ 4994 (.str xy 4813),kS P kR 4998 (.int 533 4997),kS P dn 5007 (.ref 1664),kS P YW 5025 (.ref 1672),kS P YX 5036 (.ref 1679),kS P YY 5051 (.ref 1686),kS P YZ 5063 (.ref 1693),kS P Zi 5078 (.ref 1701),kS P kT 5081 (.ref 1702),kS P oH 5083 (.ref 1705),kS P l8 5085 (.ref 1706),kS P J2 5086 .none] 4
def IV(P:Z5):Obj:=⟨.type "type",none,.cls ⟨s5,[.type "object"],[.ref 1704,.type "object"],1703,s5,true,[],[],false,Xt,false⟩,⟨[none,none,some (.str s5 4987),some (.str s5 4995),some (.builtin "object.__new__"),some (.bool true)]⟩⟩
def y8(P:Z5):Obj:=tO [.int 256 5101,.int 384 5102,.int 768 5103]
def IW:Obj:=dO [kS P gx 5197 (.ref 1121),kS P xi 5198 (.ref 1135),kS P xj 5199 (.ref 1738),kS P xk 5200 (.ref 1745),kS P xl 5201 (.ref 1731),kS P xm 5202 (.ref 1142),kS P xq 5203 (.ref 1149),kS P xn 5204 (.ref 1724),kS P xp 5205 (.ref 1717)] 9
def IX:Obj:=dO [kS P w1 5216 (.ref 1128),kS P w2 5217 (.ref 1163),kS P w3 5218 (.ref 1170),kS P w4 5219 (.ref 1177),kS P w5 5220 (.ref 1184),kS P w8 5221 (.ref 1205),kS P w6 5222 (.ref 1191),kS P w9 5223 (.ref 1212),kS P w7 5224 (.ref 1198)] 9
def IY:Obj:=dO [kS P l9 5235 (.str gx 5236),kS P Dj 5237 (.str xi 5238),kS P De 5239 (.str xj 5240),kS P Df 5241 (.str xk 5242),kS P Dg 5243 (.str xl 5244),kS P Dk 5245 (.str xm 5246),kS P Dl 5247 (.str xq 5248),kS P Dh 5249 (.str xn 5250),kS P Di 5251 (.str xp 5252)] 9
def IZ:Obj:=dO [kS P C6 5263 (.ref 1785),kS P C7 5265 (.ref 1786),kS P C8 5267 (.ref 1787),kS P C9 5269 (.ref 1788),kS P Da 5271 (.ref 1789)] 5
def I0:Obj:=dO [kS P Db 5279 (.int 1 5280),kS P Dc 5281 (.int 2 5282),kS P Dd 5283 (.int 4 5284)] 3
def I3:Obj:=dO [kS P C0 5289 (.ref 1752),kS P C1 5290 (.ref 1759),kS P C2 5291 (.ref 1156),kS P C3 5292 (.ref 1766),kS P C4 5293 (.ref 1773),kS P C5 5294 (.ref 1780)] 6
def I4(P:Z5):Obj:=cQ s6 s6 5302 618 1 1792 5307
def I5(P:Z5):Obj:=fO s6 s6 (cK aF 143) .none (.str jK 5089) (.ref 1797)
def I6(P:Z5):Obj:=tO [.int 0 5322]
def I7(P:Z5):Obj:=cQ dn Nv 5323 635 4 1807 5330
def I8(P:Z5):Obj:=fO dn Nv (bK aF 144 0) (.ref 1806) (.str jK 5089) (.ref 1812)
def I9(P:Z5):Obj:=cQ tp Nw 5333 646 1 1814 5337
def Ja(P:Z5):Obj:=fO tp Nw (bK aF 144 1) .none (.str jK 5089) (.ref 1819)
def Jb(P:Z5):Obj:=cQ Dw Nx 5351 652 3 1829 5357
def Jc(P:Z5):Obj:=fO Dw Nx (bK aF 144 3) .none (.str jK 5089) (.ref 1834)
def Jd(P:Z5):Obj:=cQ Dx Ny 5407 699 2 1864 5413
def Je(P:Z5):Obj:=fO Dx Ny (bK aF 144 8) .none (.str jK 5089) (.ref 1869)
def Jf(P:Z5):Obj:=cQ Dy Nz 5416 707 2 1871 5427
def Jg(P:Z5):Obj:=fO Dy Nz (bK aF 144 9) .none (.str jK 5089) (.ref 1876)
def Jh(P:Z5):Obj:=cQ Dz NA 5438 734 3 1885 5446
def Ji(P:Z5):Obj:=fO Dz NA (bK aF 144 11) .none (.str jK 5089) (.ref 1890)
def Jj(P:Z5):Obj:=cQ DA NB 5449 765 3 1892 5464
def Jk(P:Z5):Obj:=fO DA NB (bK aF 144 12) .none (.str jK 5089) (.ref 1897)
def Jl(P:Z5):Obj:=cQ DB NC 5467 782 3 1899 5473
def Jm(P:Z5):Obj:=fO DB NC (bK aF 144 13) .none (.str jK 5089) (.ref 1904)
def Jn:Obj:=dO [kS P kQ 5317 (.str jK 5089),kS P kR 5321 (.int 633 5320),kS P dn 5332 (.ref 1813),kS P tp 5339 (.ref 1820),kS P Zk 5350 (.ref 1828),kS P Dw 5359 (.ref 1835),kS P ZA 5375 (.ref 1842),kS P MA 5383 (.ref 1849),kS P MB 5395 (.ref 1856),kS P MC 5406 (.ref 1863),kS P Dx 5415 (.ref 1870),kS P Dy 5429 (.ref 1877),kS P ZB 5437 (.ref 1884),kS P Dz 5448 (.ref 1891),kS P DA 5466 (.ref 1898),kS P DB 5475 (.ref 1905),kS P ZC 5485 (.ref 1913),kS P ZD 5495 (.ref 1920),kS P ZE 5503 (.ref 1927),kS P ZF 5511 (.ref 1934),kS P kT 5521 (.ref 1935),kS P oH 5523 (.ref 1938),kS P l8 5525 (.ref 1939),kS P J2 5526 .none] 4
def Jo(P:Z5):Obj:=⟨.type "type",none,.cls ⟨s7,[.type "object"],[.ref 1937,.type "object"],1936,s7,true,[],[],false,Xt,false⟩,⟨[none,none,some (.str s7 5310),some (.str s7 5318),some (.builtin "object.__new__"),some (.bool true)]⟩⟩
def Jp(P:Z5):Obj:=cO [.str s8 5531,.str s8 5532,.str ew 5533,.int 814 0,.int 2 0,.int 0 0,.int 0 0,.int 3 0,.ref 1942,.bool true,.int 181 0,.ref 1943,.none,.none,.none,.ref 1944,.int 5534 0,.int 814 0,.str ew 5535]
def Jq(P:Z5):Obj:=fO s8 s8 (cK aF 146) .none (.str qe 5529) (.ref 1945)
def Jr(P:Z5):Obj:=cO [.str s9 5537,.str s9 5538,.str ew 5539,.int 830 0,.int 2 0,.int 0 0,.int 0 0,.int 3 0,.ref 1947,.bool true,.int 181 0,.ref 1948,.none,.none,.none,.ref 1949,.int 5540 0,.int 830 0,.str ew 5541]
def Js(P:Z5):Obj:=fO s9 s9 (cK aF 147) .none (.str qe 5529) (.ref 1950)
def Jt(P:Z5):Obj:=cQ tf tf 5543 834 1 1952 5553
def Ju(P:Z5):Obj:=fO tf tf (cK aF 148) .none (.str qe 5529) (.ref 1957)
def Jv(P:Z5):Obj:=cQ tg tg 5556 848 2 1959 5562
def Jw(P:Z5):Obj:=fO tg tg (cK aF 149) .none (.str qe 5529) (.ref 1964)
def y9(P:Z5):Obj:=cO [.str tj 5565,.str tj 5566,.str ew 5567,.int 853 0,.int 1 0,.int 0 0,.int 0 0,.int 3 0,.ref 1966,.bool true,.int 181 0,.ref 1967,.none,.none,.none,.ref 1968,.int 5568 0,.int 853 0,.str ew 5569]
def sF(P:Z5):Obj:=fO tj tj (cK aF 150) .none (.str qe 5529) (.ref 1969)
def cn:HT:=(hT (o0 P) (hU (hT (o3 P) (hU (hU (hU (hU (hU (hU .nil (hU .nil (hL (I3 P)))) (hU (hU .nil (hL (IR P))) .nil)) (hU .nil (hU (hL (E1 P)) .nil))) (hU (hU .nil (hU .nil (hU .nil (hL (Js P))))) .nil)) (hU (hU (hU .nil (hU (hL (EV P)) .nil)) .nil) (hT (PI P) (hU (hU (hU (hL (HG P)) .nil) .nil) .nil) (hU (hU (hL (EP P)) (hU (hL (Ij P)) .nil)) (hU (hL (Fc P)) (hU (hL (II P)) .nil)))))) (hU (hT (U5 P) (hU (hU (hU (hU .nil (hL (IK P))) .nil) (hU (hL (ES P)) .nil)) .nil) (hU (hU .nil (hU (hU .nil (hL (IU P))) .nil)) (hU (hU .nil (hU (hL (Ig P)) .nil)) .nil))) (hU (hT (U7 P) (hU .nil (hU .nil (hL (Fh P)))) .nil) (hU (hU .nil (hU (hL (EY P)) (hU (hL (ID P)) .nil))) (hU (hU .nil (hU (hL (Ik P)) .nil)) (hU (hU .nil (hL (IY P))) .nil)))))) (hU (hU (hT (U2 P) (hU (hU (hU (hU (hL (Hq P)) .nil) .nil) .nil) .nil) (hU (hU .nil (hU .nil (hU (hL (Ir P)) .nil))) (hU (hU .nil (hU .nil (hL (Ji P)))) (hU (hL (E6 P)) .nil)))) (hU (hU (hT (qJ P) (hU (hU (hL (Hx P)) .nil) .nil) (hU .nil (hU (hL (Is P)) .nil))) .nil) (hU .nil (hU .nil (hU .nil (hL (Hi P))))))) (hU (hU (hU (hU .nil (hU .nil (hU (hL (Ip P)) .nil))) (hU (hT (EK P) (hU (hL (HO P)) .nil) .nil) (hT (EM P) (hL (E5 P)) .nil))) (hU (hU (hU .nil (hU .nil (hL (Jc P)))) .nil) .nil)) (hU (hT (Va P) (hU (hU (hU (hL (HA P)) .nil) (hU .nil (hL (I9 P)))) (hU .nil (hU (hL (Iv P)) .nil))) .nil) .nil)))) (hU (hU (hU (hU (hU (hU (hU (hU (hL (Ho P)) .nil) .nil) .nil) .nil) (hU (hU .nil (hU .nil (hU (hL (Iw P)) .nil))) (hU (hU (hU (hL (Ib P)) .nil) (hU (hL (If P)) .nil)) .nil))) (hU (hT (U6 P) (hU .nil (hU .nil (hU .nil (hL (Jo P))))) .nil) (hU (hU .nil (hU .nil (hU (hL (IC P)) (hL (y9 P))))) (hU (hU .nil (hU .nil (hL (Jm P)))) .nil)))) (hU (hU .nil (hU (hU .nil (hU .nil (hU (hL (Iz P)) .nil))) (hU (hU .nil (hU .nil (hL (Jj P)))) (hU (hL (Fa P)) .nil)))) (hU (hU (hU .nil (hU .nil (hU .nil (hL (Jp P))))) (hU (hU (hU .nil (hL (IQ P))) (hU (hL (Ic P)) .nil)) .nil)) (hT (PK P) .nil (hU .nil (hU .nil (hL (Hk P)))))))) (hU (hU (hU (hU (hU (hU (hU (hL (Hs P)) .nil) (hU .nil (hL (I4 P)))) (hU .nil (hU (hL (Io P)) .nil))) (hU (hU (hU (hL (HN P)) .nil) .nil) (hU (hL (E2 P)) (hU (hL (IG P)) .nil)))) (hU (hU .nil (hU .nil (hU .nil (hL (Jt P))))) .nil)) (hU (hU (hT (gP P) (hU .nil (hU .nil (hL (I8 P)))) (hU (hL (EW P)) .nil)) (hU (hU .nil (hU .nil (hL (Jg P)))) .nil)) (hU .nil (hU (hU (hL (EQ P)) .nil) (hU (hT (Fe P) .nil (hL (IW P))) .nil))))) (hT (U1 P) (hU (hU (hU (hU (hU (hL (Hw P)) .nil) .nil) (hU .nil (hU (hL (Ir P)) .nil))) (hU (hU .nil (hU .nil (hL (Jd P)))) .nil)) (hU (hU .nil (hU .nil (hU .nil (hL (Jw P))))) (hU .nil (hU .nil (hL (y7 P)))))) (hU (hU (hU (hU (hU .nil (hL (IO P))) .nil) .nil) .nil) (hU .nil (hU (hU .nil (hU (hL (Il P)) .nil)) .nil))))))) (hT (o2 P) (hU (hU (hU (hU (hU (hU (hU (hU (hL (Hm P)) .nil) .nil) (hU (hU .nil (hL (IT P))) .nil)) (hU .nil (hU (hU (hL (nX P)) .nil) .nil))) (hU .nil (hU (hU (hU (hL (Ia P)) .nil) (hU (hL (Ie P)) .nil)) .nil))) (hU (hU (hU .nil (hU .nil (hU .nil (hL (Jn P))))) .nil) (hU (hU (hU (hU (hL (HH P)) .nil) .nil) (hU .nil (hU (hL (IB P)) .nil))) (hU (hU .nil (hU .nil (hL (Jl P)))) (hU (hL (Fd P)) (hU (hL (IJ P)) .nil)))))) (hU (hU (hU (hU (hU (hU .nil (hL (IL P))) .nil) (hU (hL (ET P)) .nil)) .nil) (hT (PG P) (hU .nil (hU (hU .nil (hL (IV P))) .nil)) (hU (hU .nil (hU (hL (Ih P)) .nil)) .nil))) (hU (hT (U8 P) .nil (hU (hU (hU .nil (hL (IP P))) .nil) .nil)) (hT (PJ P) (hU .nil (hU (hL (EZ P)) (hU (hL (IF P)) .nil))) (hU .nil (hU (hU .nil (hL (IZ P))) (hL (Hj P)))))))) (hU (hU (hT (U3 P) (hU (hU (hU (hU (hL (Hr P)) .nil) .nil) (hU .nil (hU (hL (In P)) .nil))) (hU (hU (hU (hL (HJ P)) .nil) .nil) .nil)) (hU .nil (hU .nil (hU (hL (E7 P)) .nil)))) (hU (hU (hU (hU (hU (hL (Hy P)) .nil) (hU .nil (hL (I7 P)))) (hU .nil (hU (hL (It P)) .nil))) (hU (hU .nil (hU .nil (hL (Jf P)))) .nil)) .nil)) (hU (hU (hU (hU (hU (hU (hL (Hv P)) .nil) .nil) (hU .nil (hU (hL (Iq P)) .nil))) (hU (hT (EL P) (hU (hL (HQ P)) .nil) .nil) (hL (EN P)))) (hU (hU .nil (hU .nil (hU .nil (hL (Jv P))))) .nil)) (hU (hU (hU (hU (hU .nil (hL (IN P))) (hU .nil (hL (Ja P)))) .nil) .nil) .nil)))) (hU (hU (hU (hU (hU (hU (hU (hU (hL (Hp P)) .nil) .nil) .nil) .nil) (hU (hU .nil (hU .nil (hU (hL (Ix P)) .nil))) (hU (hU .nil (hU .nil (hL (Jh P)))) .nil))) (hU (hU (hL (qI P)) .nil) (hU (hU .nil (hU .nil (hU .nil (hL (sF P))))) (hU .nil (hU .nil (hL (Hh P))))))) (hU (hU (hU .nil (hU .nil (hU (hL (E4 P)) .nil))) (hU (hU (hU .nil (hU .nil (hL (Jb P)))) (hU .nil (hU (hL (IA P)) .nil))) (hU (hU .nil (hU .nil (hL (Jk P)))) (hU (hL (Fb P)) .nil)))) (hU (hT (U9 P) (hU (hU (hU (hL (Hz P)) .nil) .nil) (hU .nil (hU (hL (Iu P)) (hL (Jq P))))) (hU (hU .nil (hU (hL (Id P)) .nil)) .nil)) (hU (hU (hU .nil (hL (Fg P))) .nil) (hU .nil (hU (hL (Ff P)) (hL (Hl P)))))))) (hU (hU (hT (U4 P) (hU (hU (hU (hU (hL (Ht P)) .nil) (hU .nil (hL (I5 P)))) .nil) (hU .nil (hU (hL (E3 P)) (hU (hL (IH P)) .nil)))) (hU (hU .nil (hU .nil (hU .nil (hL (Ju P))))) .nil)) (hU (hU (hT (gQ P) (hU (hU .nil (hL (IM P))) .nil) (hU (hL (EX P)) .nil)) .nil) (hU .nil (hU (hU (hL (ER P)) .nil) (hU (hU .nil (hL (IX P))) .nil))))) (hU (hU (hU (hU (hU .nil (hU .nil (hL (I6 P)))) (hU (hL (EU P)) .nil)) (hU (hU .nil (hU .nil (hL (Je P)))) .nil)) (hT (PH P) (hU .nil (hU (hU .nil (hL (y8 P))) .nil)) (hU (hU (hL (EO P)) (hU (hL (Ii P)) .nil)) .nil))) (hU (hU (hU .nil (hU .nil (hU .nil (hL (Jr P))))) .nil) (hU (hU .nil (hU (hL (E0 P)) .nil)) (hU (hU .nil (hU (hL (Im P)) .nil)) (hU (hU .nil (hL (I0 P))) .nil)))))))))
def NF:=sJZ [98,117,115]
def NG:=sJZ [108,97,121,111,117,116]
def NH:=sJZ [119,97,108,107,101,114]
def NK:=sJZ [99,115,114,115]
def NL:=sJZ [114,101,103,105,115,116,101,114,115]
def NN:=sJZ [109,111,100,101]
def NO:=sJZ [107,110,111,119,110]
def NP:=sJZ [115,112,111,116,115]
def q5:=sJZ [115,116,97,116,117,115]
def NQ:=sJZ [100,101,108,101,103,97,116,101,100]
def DD:=sJZ [108,105,110,101,115,95,100,101,108,101,103,97,116,101,100]
def DE:=sJZ [101,110,97,98,108,101,100]
def DF:=sJZ [119,97,105,116,105,110,103]
def DG:=sJZ [99,121,99,108,101,115]
def DH:=sJZ [114,101,116,105,114,101,100]
def DI:=sJZ [116,105,109,101,114]
def DJ:=sJZ [104,97,114,116]
def DK:=sJZ [112,108,97,105,110]
def qs:=sJZ [111,116,104,101,114]
def kV:=sJZ [111,110,101]
def NI:=sJZ [108,97,119,46,60,108,111,99,97,108,115,62,46]
def tD:=sJZ [114,101,97,115,111,110]
def tF:=sJZ [99,97,117,115,101]
def gA:=sJZ [118,97,108,117,101]
def tG:=sJZ [95,108,97,119,95,116,111,108,100,46,60,108,111,99,97,108,115,62,46]
def DL:=sJZ [67,111,114,101,46,101,120,101,99,117,116,101,46,60,108,111,99,97,108,115,62,46]
def DN:=sJZ [67,111,114,101,46,101,120,101,99,117,116,101,95,114,101,115,116,46,60,108,111,99,97,108,115,62,46]
def NJ:=sJZ [67,111,114,101,46,99,104,97,110,103,101,46,60,108,111,99,97,108,115,62,46]
def tH:=sJZ [115,101,101,100]
def tI:=sJZ [117,110,108,105,107,101]
def i6:=sJZ [104,97,110,100,101,100]
def gU:=sJZ [99,111,114,101]
def oI:=sJZ [114,111,119,115]
def qt:=sJZ [97,116]
def xz:=sJZ [115,112,111,116]
def tJ:=sJZ [115,99,114,105,112,116]
def xA:=sJZ [109,97,114,107,115]
def xB:=sJZ [115,97,109,101]
def xC:=sJZ [115,116,105,108,108]
def oJ:=sJZ [110]
def kW:=sJZ [99,101,108,108]
def NM:=sJZ [116,114,97,112,32,50,32,119,105,116,104,32,48]
def tK:=sJZ [115]
def xD:=sJZ [105]
def oK:=sJZ [119]
def xE:=sJZ [120]
def gB:=sJZ [115,101,108,102]
def gC:=sJZ [105,110,115,116,114,117,99,116,105,111,110]
def gD:=sJZ [119,111,114,100]
def xF:=sJZ [98,121,95,110,117,109,98,101,114]
def xG:=sJZ [115,111,117,114,99,101]
def xH:=sJZ [105,115,95,101,120,99,104,97,110,103,101]
def xI:=sJZ [105,115,95,119,114,105,116,116,101,110]
def DQ:=sJZ [111,108,100]
def mq:=sJZ [114,111,119]
def mr:=sJZ [100,101,101,100]
def xJ:=sJZ [98,101,104,105,110,100]
end
end
section
open PySem PySem.W PyProof.Rows
section
variable(P:Z5)
structure AS where
 a:Nat→Nat
 k:Nat→Nat
structure BS where
 z:Nat→Int×Nat
 p:Nat→Int×Nat
 r:Nat→Int×Nat
 pc:Int×Nat
 md:Int×Nat
 sp:Nat
 es:Array Z7
 em:Nat
noncomputable def up(z:Nat→Int×Nat)(i:Nat)(x:Int)(t:Nat):Nat→Int×Nat:=fun j=>@Xp (fun _=>Int×Nat) (z j) (x,t) (Ze i j)
noncomputable def zv(s:BS)(i:Nat):Z6:=.int (s.z i).1 (s.z i).2
noncomputable def pv(s:BS)(i:Nat):Z6:=.int (s.p i).1 (s.p i).2
noncomputable def bh(s:BS)(i:Nat):Z6:=.int (s.r i).1 (s.r i).2
def d0(P:Z5)(A:AS):Obj:=iO 1937 (Zd (A.a 1) 1971)
def d1(A:AS)(s:BS):Obj:=dO [kS P NF (Zd (A.k 0) 5571) .none,kS P NG (Zd (A.k 1) 5571) (.ref (Zd (A.a 100) 1971)),kS P NH (Zd (A.k 2) 5571) (.ref (Zd (A.a 101) 1971)),kS P NK (Zd (A.k 3) 5571) (.ref (Zd (A.a 2) 1971)),kS P NL (Zd (A.k 4) 5571) (.ref (Zd (A.a 5) 1971)),kS P ⟨⟨[112,99]⟩⟩ (Zd (A.k 5) 5571) (.int s.pc.1 s.pc.2),kS P NN (Zd (A.k 6) 5571) (.int s.md.1 s.md.2),kS P NO (Zd (A.k 7) 5571) (.ref (Zd (A.a 6) 1971)),kS P NP (Zd (A.k 8) 5571) (.ref s.sp)] 9
def d2(P:Z5)(A:AS):Obj:=iO 1544 (Zd (A.a 3) 1971)
def d3(A:AS)(s:BS):Obj:=dO [kS P q5 (Zd (A.k 9) 5571) (zv s 768),kS P NQ (Zd (A.k 10) 5571) (zv s 770),kS P DD (Zd (A.k 11) 5571) (zv s 771),kS P DE (Zd (A.k 12) 5571) (zv s 772),kS P DF (Zd (A.k 13) 5571) (zv s 836),kS P tu (Zd (A.k 14) 5571) (zv s 384),kS P DG (Zd (A.k 15) 5571) (zv s 2816),kS P DH (Zd (A.k 16) 5571) (zv s 2818),kS P DI (Zd (A.k 17) 5571) .none,kS P DJ (Zd (A.k 18) 5571) (zv s 3860),kS P DK (Zd (A.k 19) 5571) (.ref (Zd (A.a 4) 1971))] 11
def d4(P:Z5)(A:AS)(s:BS):Obj:=dO [kI 261 (Zd (A.k 20) 5571) (pv s 261),kI 262 (Zd (A.k 21) 5571) (pv s 262),kI 320 (Zd (A.k 22) 5571) (pv s 320),kI 321 (Zd (A.k 23) 5571) (pv s 321),kI 322 (Zd (A.k 24) 5571) (pv s 322),kI 323 (Zd (A.k 25) 5571) (pv s 323),kI 773 (Zd (A.k 26) 5571) (pv s 773),kI 774 (Zd (A.k 27) 5571) (pv s 774),kI 832 (Zd (A.k 28) 5571) (pv s 832),kI 833 (Zd (A.k 29) 5571) (pv s 833),kI 834 (Zd (A.k 30) 5571) (pv s 834),kI 835 (Zd (A.k 31) 5571) (pv s 835)] 12
def d5(P:Z5)(A:AS)(s:BS):Obj:=lO [bh s 0,bh s 1,bh s 2,bh s 3,bh s 4,bh s 5,bh s 6,bh s 7,bh s 8,bh s 9,bh s 10,bh s 11,bh s 12,bh s 13,bh s 14,bh s 15,bh s 16,bh s 17,bh s 18,bh s 19,bh s 20,bh s 21,bh s 22,bh s 23,bh s 24,bh s 25,bh s 26,bh s 27,bh s 28,bh s 29,bh s 30,bh s 31] 0
noncomputable def d6(P:Z5)(A:AS)(s:BS):Obj:=⟨.type "dict",none,.dict s.es s.em,#[]⟩
def B7(A:AS)(s:BS):List (Nat×Obj):=[(0,d0 P A),(1,d1 P A s),(2,d2 P A),(3,d3 P A s),(4,d4 P A s),(5,d5 P A s),(6,d6 P A s)]
noncomputable def bx(A:AS):Nat→Nat:=fun i=>Zd (A.a i) 1971
noncomputable def bz(f:Nat→Nat)(l:List (Nat×Nat))(i:Nat):Nat:=@List.rec (Nat×Nat) (fun _=>Nat) (f i) (fun x _ ih=>@Prod.rec Nat Nat (fun _=>Nat) (fun j b=>@Xp (fun _=>Nat) ih (Zd b (Nat.sub i j)) (Zn j i)) x) l
noncomputable def hl(l:List Nat):Hn:=@List.rec Nat (fun _=>Hn) .nil (fun x _ ih=>@Xp (fun _=>Hn) (.ld x ih) (.orc (Nat.sub x 1000) ih) (Zn 1000 x)) l
noncomputable def FW(g:gHs)(l:List (Nat×gHs))(i:Nat):gHs:=@List.rec (Nat×gHs) (fun _=>gHs) g (fun x _ ih=>@Xp (fun _=>gHs) ih x.2 (Zn x.1 i)) l
noncomputable def W2(w:Z8)(b c:Bool):Z8:=(w.withFollow "special-get-raises" b).withFollow "comprehension-iter-twice" c
def SG(w:Z8)(b c:Bool):Xe:=⟨prog2,(W2 w b c).params⟩
abbrev MM(w:Z8)(b c:Bool):Model:=model prog2 (W2 w b c)
abbrev PP(w:Z8)(b c:Bool):Z5:=(W2 w b c).params
theorem cL(w:Z8)(b c:Bool):(⟨prog2,(W2 w b c).params⟩:Xe)=SG w true c∨(⟨prog2,(W2 w b c).params⟩:Xe)=SG w false c:=by
 cases b
 ·exact .inr rfl
 ·exact .inl rfl
structure IS where
 k:Nat→Nat
 t:Nat→Nat
 nm:Str
 rd:Int
 rs1:Int
 rs2:Int
 im:Int
 cs:Int
def iD(I:IS):Obj:=dO [kS P bW (I.k 0) (.str I.nm (I.t 0)),kS P dw (I.k 1) (.int I.rd (I.t 1)),kS P dY (I.k 2) (.int I.rs1 (I.t 2)),kS P eW (I.k 3) (.int I.rs2 (I.t 3)),kS P cP (I.k 4) (.int I.im (I.t 4)),kS P dp (I.k 5) (.int I.cs (I.t 5))] 6
theorem p5(P:Z5):(cn P).Under 1971:=
 HT.under_of (d:=11) (Nat.le_of_eq (by kernel_rfl)) (by kernel_rfl)
theorem nd_of{l:List (Nat×Obj)}(ks:List Nat)(e:l.map (·.1)=ks)(h:ks.Nodup):(l.map (·.1)).Nodup:=e▸h
abbrev ae(w:Z8)(b c:Bool):=kS (PP w b c)
abbrev aj(w:Z8)(b c:Bool):=B7 (PP w b c)
end
end
section
open PySem PySem.W
section
variable{p:Xf}{w:Z8}{S:HT}{B L:Nat}{gh pre:gHs}{n t t':Nat}{id:String}{args:Args}{b:Builtin}{Sp:Spec}{v:Z6}{C:Ctx→Prop}
theorem q6(hC:∀Γ,C Γ→Γ.handled=none)(entry:entryFor table id=some b)(g:Meets (b args) Sp)
  (H:∀(A:Around) R s,A.handled=none→s.toks=t→(∀x∈pre,s.heap.get? x.1=some x.2)→R (.ok (.ret v)) {s with toks:=t'}→Sp A R s):
  TriC (model p w) S B C (.builtin id args) gh pre n t (.ok (.ret v)) gh pre n t':=by
 intro nd lo big Γ P h gs d os hΓ hL hn hs hp hgh
 refine⟨h,?_,hn,Zm _,rfl,nd,fun x hx=>⟨.inl (Qq.mpr ⟨x,hx,rfl⟩),hp x hx⟩,fun _ _ _ o ho=>ho,fun x hx=>⟨(hgh x hx).1,(hgh x hx).2,.inl (Qq.mpr ⟨x,hx,rfl⟩)⟩⟩
 rw[cU entry]
 exact dL g (hC Γ hL) fun A hA=>H A _ ⟨h,gs,d,t,os⟩ hA rfl hp ⟨rfl,rfl⟩
theorem DS(hC:∀Γ,C Γ→Γ.handled=none){a:Z9}{o:Obj}{f:Obj→Obj}(hf:(f o).isFreed=false)(entry:entryFor table id=some b)(g:Meets (b args) Sp)
  (H:∀(A:Around) R s,A.handled=none→s.toks=t→s.heap.get? a=some o→(∀x∈pre,s.heap.get? x.1=some x.2)→R (.ok (.ret v)) {s with heap:=s.heap.update a f,toks:=t'}→Sp A R s):
  TriC (model p w) S B C (.builtin id args) gh ((a,o)::pre) n t (.ok (.ret v)) gh ((a,f o)::pre) n t':=by
 intro nd lo big Γ P h gs d os hΓ hL hn hs hp hgh
 have ho:h.get? a=some o:=hp (a,o) List.mem_cons_self
 have hsz:(h.update a f).objs.size=h.objs.size:=(Heap.SameBut.update (a:=a) (h:=h) (f:=f) |>.1)
 rw[List.map_cons,Qm]at nd
 have ne:∀x∈pre,x.1≠a:=fun x hx e=>nd.1 (Qq.mpr ⟨x,hx,e⟩)
 refine⟨h.update a f,?_,hsz.trans hn,Zm _,by cases h;rfl,by rw[List.map_cons,Qm];exact nd,fun x hx=>?_,fun x hx hb o' ho'=>?_,fun x hx=>?_⟩
 ·rw[cU entry]
  exact dL g (hC Γ hL) fun A hA=>H A _ ⟨h,gs,d,t,os⟩ hA rfl ho (fun x hx=>hp x (Qp _ hx)) ⟨rfl,rfl⟩
 ·rcases Qt.mp hx with e|e
  ·subst e;exact⟨.inl (Qq.mpr ⟨_,List.mem_cons_self,rfl⟩),Heap.get?_update_self _ ho hf⟩
  ·exact⟨.inl (Qq.mpr ⟨x,Qp _ e,rfl⟩),(X0 _ _ _ _ (ne x e)).trans (hp x (Qp _ e))⟩
 ·exact(X0 _ _ _ _ (fun z=>hb (by rw[z];exact Qq.mpr ⟨(a,o),List.mem_cons_self,rfl⟩))).trans ho'
 ·obtain⟨x1,x2⟩:=hgh x hx
  exact⟨(X0 _ _ _ _ (fun z=>x2 (by rw[z];exact Qq.mpr ⟨(a,o),List.mem_cons_self,rfl⟩))).trans x1,x2,.inl (Qq.mpr ⟨x,hx,rfl⟩)⟩
end
theorem ac{L:Nat}:∀Γ,Lim Γ L→Γ.handled=none:=fun _ h=>h.1.1
noncomputable def pn(a b:Z6):Bool:=match a with
 |.int x _=>match b with
  |.int y _=>x==y
  |_=>false
 |_=>false
def eqLs:List Z6→List Z6→Bool
 |[],[]=>true
 |a::l,b::r=>pn a b&&eqLs l r
 |_,_=>false
theorem pm(l r:List Z6):((List.range (min l.length r.length)).all (fun j=>pn (l.getD j .none) (r.getD j .none))&&l.length==r.length)=eqLs l r:=by
 induction l generalizing r with
 |nil=>cases r<;>simp[eqLs]
 |cons a l ih=>
  cases r with
  |nil=>simp[eqLs]
  |cons b r=>
   rw[eqLs,←ih r]
   have hm:min (a::l).length (b::r).length=min l.length r.length+1:=by simp[Nat.succ_min_succ]
   rw[hm,List.range_succ_eq_map,List.all_cons,List.all_map]
   simp[Function.comp_def,Bool.and_assoc]
open SeqAt in
theorem OV{A:Around}{s:Xd}{a b:Z6}(ha:∃x t,a=.int x t)(hb:∃x t,b=.int x t):EqAt A s a b (pn a b):=by
 obtain⟨x,t,rfl⟩:=ha
 obtain⟨y,u,rfl⟩:=hb
 exact ui x y t u
open SeqAt in
theorem pj{A:Around}{s:Xd}{l r:List Z6}(hl:dl l=true)(hr:dl r=true):
  ∀j (h1:j<(Xv l).size) (h2:j<(Xv r).size),EqAt A s (Xv l)[j] (Xv r)[j] (pn (l.getD j .none) (r.getD j .none)):=by
 intro j h1 h2
 have h1':j<l.length:=h1
 have h2':j<r.length:=h2
 have e1:l.getD j .none=l[j]:=by simp[List.getD,h1']
 have e2:r.getD j .none=r[j]:=by simp[List.getD,h2']
 rw[e1,e2]
 exact OV (mQ hl _ (List.getElem_mem h1')) (mQ hr _ (List.getElem_mem h2'))
section
variable{p:Xf}{w:Z8}{S:HT}{B:Nat}{gh:gHs}{n t:Nat}{C:Ctx→Prop}(hC:∀Γ,C Γ→Γ.handled=none){a b:Z9}{l r:List Z6}{k m:Nat}
include hC
theorem xO(hl:dl l=true)(hr:dl r=true):TriC (model p w) S B C (.builtin "tuple.__ne__" ⟨[.ref a,.ref b],[]⟩) gh [(a,⟨.type "tuple",none,.seq ⟨l⟩ k,#[]⟩),(b,⟨.type "tuple",none,.seq ⟨r⟩ m,#[]⟩)] n t
  (.ok (.ret (.bool (!eqLs l r)))) gh [(a,⟨.type "tuple",none,.seq ⟨l⟩ k,#[]⟩),(b,⟨.type "tuple",none,.seq ⟨r⟩ m,#[]⟩)] n t:=
 q6 hC F.entry_tuple_ne (SeqAt.tuple_neAt a b ⟨l⟩ ⟨r⟩ k m none none #[] #[] (fun j=>pn (l.getD j .none) (r.getD j .none))) fun A R s _ ht hp hR=>
  ⟨hp (a,_) List.mem_cons_self,hp (b,_) (Qp _ List.mem_cons_self),pj hl hr,by subst ht;rw[←pm]at hR;exact hR⟩
theorem lY{x:Z6}(hsz:l.length≤sizeLine):TriC (model p w) S B C (.builtin "list.append" ⟨[.ref a,x],[]⟩) gh [(a,⟨.type "list",none,.seq ⟨l⟩ k,#[]⟩)] n t
  (.ok (.ret .none)) gh [(a,⟨.type "list",none,.seq ⟨l++[x]⟩ (k+1),#[]⟩)] n t:=by
 have e:Obj.mapSeq (fun xs=>xs.push x) ⟨.type "list",none,.seq ⟨l⟩ k,#[]⟩=⟨.type "list",none,.seq ⟨l++[x]⟩ (k+1),#[]⟩:=by
  show (⟨.type "list",none,.seq ((Xv l).push x) _,#[]⟩:Obj)=_
  rw[show (Xv l).push x=⟨l++[x]⟩ by simp,if_neg (by simp)]
 have:=DS (p:=p) (w:=w) (S:=S) (B:=B) (gh:=gh) (pre:=[]) (n:=n) (t:=t) (t':=t) (v:=.none) hC (f:=Obj.mapSeq fun xs=>xs.push x) (o:=⟨.type "list",none,.seq ⟨l⟩ k,#[]⟩) (by rw[e];rfl) F.entry_list_append
  (AutoListH.list_append_list_val_0 a ⟨l⟩ k x hsz) fun A R s _ ht ho _ hR=>⟨ho,by rw[show s.toks=t from ht];exact hR⟩
 rw[e]at this
 exact this
end
theorem zQ{prog:Xf}{w:Z8}{A:Around}{E:Z6→Xd→Prop}{s:Xd}{l:Z9}{o:Obj}{items:Array Z6}{ne:Nat}{k:Int}{t:Tok}{x:Z6}{Q:Z3→Xd→Prop}(ho:s.heap.get? l=some o)(hd:o.data=.seq items ne)
  (h0:0≤k) (hfit:k<2^63) (hx:items[k.toNat]?=some x) (h:Q (.done (.ret x)) s):wpAny (model prog w) A (Builtin.«list.__getitem__» ⟨[.ref l,.int k t],[]⟩) Q E s:=by
 show wpAny _ _ (Builtin.List.listSubscript? (.int k t) >>= _) _ _ s
 refine Xa (wpAny_listSubscript_int (fitsIndex_of h0 hfit) ?_)
 clear hfit
 obtain⟨j,rfl⟩:=Int.eq_ofNat_of_zero_le h0
 have hx':items[j]?=some x:=hx
 show wpAny _ _ ((seqItemAt l j >>= fun r=>pure (r.map (j,·))) >>= _) _ _ s
 refine Xa (Xa (wpAny_seqItemAt ho hd (Xb ?_)))
 rw[hx']
 first
  |exact Xa (Xb (Xb h))
  |exact Xb h
open AutoSeq1 in
theorem zO{prog:Xf}{w:Z8}{A:Around}{E:Z6→Xd→Prop}{s:Xd}{d:Z9}{o:Obj}{es ep}{k:Int}{t:Tok}{v:Z6}{Q:Unit→Xd→Prop}(ho:s.heap.get? d=some o)(hd:o.data=.dict es ep)(hk:IntKeys es)(hz:es.size≤sizeLine)
  (hi:(es.findIdx? fun e=>Qb k e.key)=none) (h:Q () {s with heap:=s.heap.update d (Obj.mapDictKeys (·.push ⟨hashInt k,.int k t,v⟩)),toks:=s.toks+1}):
  wpAny (model prog w) A (dictSet d (.int k t) v) Q E s:=by
 unfold dictSet
 try with_reducible refine wpAny_holding ?_
 refine Xa (wpAny_pyHash_int ?_)
 unfold dictSetHashed
 try with_reducible refine wpAny_holding ?_
 refine Xa (wpAny_dictFind_int (s:={s with toks:=s.toks+1}) ho hd hk ?_)
 rw[hi]
 exact Xa (wpAny_rule (wpAny_updateDictKeys (hz:=hz) (s:={s with toks:=s.toks+1}) ho hd h))
section
variable{p:Xf}{w:Z8}{S:HT}{B:Nat}{gh pre:gHs}{n t t':Nat}{cd:Xo}{f:Flow}{C:Ctx→Prop}(hC:∀Γ,C Γ→Γ.handled=none)
include hC
theorem eo(H:∀Γ P h gs d os,Γ.handled=none→(∀x∈pre,B≤x.1)→(∀x∈pre,h.get? x.1=some x.2)→Xg (model p w) Γ P ((model p w).den cd) [] ⟨h,gs,d,t,os⟩ (.ret (.ok f)) ⟨h,gs,d,t',os⟩):
  TriC (model p w) S B C cd gh pre n t (.ok f) gh pre n t':=by
 intro nd lo big Γ P h gs d os hΓ hL hn hs hp hgh
 exact⟨h,H Γ P h gs d os (hC Γ hL) lo hp,hn,Zm _,rfl,nd,fun x hx=>⟨.inl (Qq.mpr ⟨x,hx,rfl⟩),hp x hx⟩,fun _ _ _ o ho=>ho,fun x hx=>⟨(hgh x hx).1,(hgh x hx).2,.inl (Qq.mpr ⟨x,hx,rfl⟩)⟩⟩
theorem iE{a:Z9}{o:Obj}{g:Obj→Obj}(hf:(g o).isFreed=false)
  (H:∀Γ P h gs d os,Γ.handled=none→(∀x∈(a,o)::pre,B≤x.1)→(∀x∈(a,o)::pre,h.get? x.1=some x.2)→Xg (model p w) Γ P ((model p w).den cd) [] ⟨h,gs,d,t,os⟩ (.ret (.ok f)) ⟨h.update a g,gs,d,t',os⟩):
  TriC (model p w) S B C cd gh ((a,o)::pre) n t (.ok f) gh ((a,g o)::pre) n t':=by
 intro nd lo big Γ P h gs d os hΓ hL hn hs hp hgh
 have ho:h.get? a=some o:=hp (a,o) List.mem_cons_self
 have hsz:(h.update a g).objs.size=h.objs.size:=(Heap.SameBut.update (a:=a) (h:=h) (f:=g) |>.1)
 have nd':=nd
 rw[List.map_cons,Qm]at nd'
 have ne:∀x∈pre,x.1≠a:=fun x hx e=>nd'.1 (Qq.mpr ⟨x,hx,e⟩)
 refine⟨h.update a g,H Γ P h gs d os (hC Γ hL) lo hp,hsz.trans hn,Zm _,by cases h;rfl,by rw[List.map_cons,Qm];exact nd',fun x hx=>?_,fun x hx hb o' ho'=>?_,fun x hx=>?_⟩
 ·rcases Qt.mp hx with e|e
  ·subst e;exact⟨.inl (Qq.mpr ⟨_,List.mem_cons_self,rfl⟩),Heap.get?_update_self _ ho hf⟩
  ·exact⟨.inl (Qq.mpr ⟨x,Qp _ e,rfl⟩),(X0 _ _ _ _ (ne x e)).trans (hp x (Qp _ e))⟩
 ·exact(X0 _ _ _ _ (fun z=>hb (by rw[z];exact Qq.mpr ⟨(a,o),List.mem_cons_self,rfl⟩))).trans ho'
 ·obtain⟨x1,x2⟩:=hgh x hx
  exact⟨(X0 _ _ _ _ (fun z=>x2 (by rw[z];exact Qq.mpr ⟨(a,o),List.mem_cons_self,rfl⟩))).trans x1,x2,.inl (Qq.mpr ⟨x,hx,rfl⟩)⟩
theorem bP(hB:2≤B){d:Z9}{o:Obj}{l:List Z7}{ep:Nat}{k:Int}{u:Tok}(hd:o.data=.dict ⟨l⟩ ep)(hk:IntKeys ⟨l⟩):
  TriC (model p w) S B C (.builtin "dict.get" ⟨[.ref d,.int k u],[]⟩) gh [(d,o)] n t (.ok (.ret ((bC l k).getD .none))) gh [(d,o)] n (t+1):=
 eo hC fun Γ P h gs dd os hh lo hp=>by
  have hs:(d==sysModules)=false:=by
   have h1:B≤d:=lo (d,o) List.mem_cons_self
   have:d≠1:=Nat.ne_of_gt (Zr hB h1)
   simpa [sysModules] using this
  have:=wR (prog:=p) (w:=w) (Γ:=Γ) (p:=P) (k:=k) (t:=u) (s:=⟨h,gs,dd,t,os⟩) hh hs (hp (d,o) List.mem_cons_self) hd hk
  rw[lr]at this
  exact this
theorem b6{d:Z9}{o:Obj}{l:List Z7}{ep:Nat}{k hk':Int}{u:Tok}{v:Z6}(hc:o.cls=.type "dict")(hd:o.data=.dict ⟨l⟩ ep)(hk:IntKeys ⟨l⟩)(hz:l.length≤sizeLine)(hh':hashInt k=hk')(hi:fIdx l k=none):
  TriC (model p w) S B C (.builtin "dict.__setitem__" ⟨[.ref d,.int k u,v],[]⟩) gh [(d,o)] n t (.ok (.ret .none)) gh [(d,⟨o.cls,o.dict,.dict ((Xv l).push ⟨hk',.int k u,v⟩) (ep+1),o.slots⟩)] n (t+1):=by
 subst hh'
 have e:Obj.mapDictKeys (·.push ⟨hashInt k,.int k u,v⟩) o=⟨o.cls,o.dict,.dict ((Xv l).push ⟨hashInt k,.int k u,v⟩) (ep+1),o.slots⟩:=by
  obtain⟨cls,dict,data,slots⟩:=o
  simp only at hd
  subst hd
  rfl
 have key:=iE (p:=p) (w:=w) (S:=S) (B:=B) (gh:=gh) (pre:=[]) (n:=n) (t:=t) (t':=t+1) (f:=.ret .none) (cd:=.builtin "dict.__setitem__" ⟨[.ref d,.int k u,v],[]⟩) hC (a:=d) (o:=o) (g:=Obj.mapDictKeys (·.push ⟨hashInt k,.int k u,v⟩)) (by rw[e];rfl) fun Γ P h gs dd os hh lo hp=>by
  rw[cU entry_dict_setitem]
  refine cm hh fun A hA=>?_
  have ho:h.get? d=some o:=hp (d,o) List.mem_cons_self
  show wpAny _ _ (Builtin.Dict.notOrdered "__setitem__" ⟨[.ref d,.int k u,v],[]⟩ >>= _) _ _ _
  refine Xa (wpAny_notOrdered_dict ⟨o,ho,hc⟩ ?_)
  show wpAny _ _ (dictSet d (.int k u) v >>= _) _ _ _
  exact Xa (zO ho hd hk hz (by rw[nG];exact hi) (Xb ⟨rfl,rfl⟩))
 rw[e]at key
 exact key
theorem ar{a:Z9}{l:List Z6}{m k:Nat}{u:Tok}{x:Z6}(hx:l[k]?=some x)(hk:k≤1000000):TriC (model p w) S B C (.builtin "list.__getitem__" ⟨[.ref a,.int k u],[]⟩) gh [(a,⟨.type "list",none,.seq ⟨l⟩ m,#[]⟩)] n t
  (.ok (.ret x)) gh [(a,⟨.type "list",none,.seq ⟨l⟩ m,#[]⟩)] n t:=
 eo hC fun Γ P h gs dd os hh lo hp=>by
  rw[cU entry_list_getitem]
  refine cm hh fun A hA=>?_
  have ho:h.get? a=some ⟨.type "list",none,.seq ⟨l⟩ m,#[]⟩:=hp (a,_) List.mem_cons_self
  have hx':(Xv l)[((k:Int)).toNat]?=some x:=by rw[Int.toNat_natCast];exact(List.getElem?_toArray (xs:=l) (i:=k)).trans hx
  have h0:(0:Int)≤k:=Int.natCast_nonneg _
  have h2:(k:Int)<2^63:=by omega
  generalize (k:Int)=kk at *
  generalize hs:(⟨h,gs,dd,t,os⟩:Xd)=s
  have ho':s.heap.get? a=some ⟨.type "list",none,.seq ⟨l⟩ m,#[]⟩:=by rw[←hs];exact ho
  have:=zQ (prog:=p) (w:=w) (A:=A) (E:=fun _ _=>False) (t:=u) (Q:=fun fin x_1=>fin=.done (.ret x)∧x_1=s) ho' rfl h0 h2 hx' ⟨rfl,rfl⟩
  exact this
end
variable{prog:Xf}{w:Z8}{A:Around}{E:Z6→Xd→Prop}{s:Xd}
theorem vH{Γ:Ctx}{p:Pos}{t:Xj Z3}{e:Z6}{s':Xd}(hh:Γ.handled=none)
  (H:∀A,A.handled=none→wpAny (model prog w) A t (fun _ _=>False) (fun x y=>x=e∧y=s') s):Xg (model prog w) Γ p t [] s (.ret (.error e)) s':=by
 have hw:=H ⟨none,frameCount Γ.below+Γ.code.weight,none,none,Γ.code.cUnits+PySem.unitsOf Γ.below⟩ rfl Γ p ⟨hh,Zm _,(fun _ h=>nomatch h),(fun _ h=>nomatch h),Zm _⟩
 have hw':Sem.wp (model prog w) Γ t (Sem.finPost (model prog w) Γ fun r x=>r=.error e∧x=s') (fun e' _ x=>(.error e':Xc)=.error e∧x=s') p s:=
  Sem.wp_mono _ Γ t (fun a p' x hx=>hx.elim) (fun e' p' x hx=>by obtain⟨rfl,rfl⟩:=hx;exact⟨rfl,rfl⟩) p s hw
 obtain⟨r,x,hr,rfl,rfl⟩:=(Sem.wp_iff_runs (model prog w) Γ t _ p s).mp hw'
 exact hr
theorem oG{it l:Z9}{i:Nat}{o ol:Obj}{items:Array Z6}{n:Nat}{x:Z6}{Q:Z3→Xd→Prop}(ho:s.heap.get? it=some o)(hd:o.data=.fields #[.ref l,.int i 0])
  (hol:s.heap.get? l=some ol) (hdl:ol.data=.seq items n) (hx:items[i]?=some x) (hQ:Q (.done (.ret x)) {s with heap:=s.heap.update it (Obj.mapFields fun vs=>vs.setIfInBounds 1 (rawInt ((i:Int)+1)))}):
  wpAny (model prog w) A (Builtin.«list_iterator.__next__» ⟨[.ref it],[]⟩) Q E s:=by
 show wpAny _ _ (field (.ref it) 0 >>= _) _ _ s
 refine Xa (wpAny_field ho hd (x:=.ref l) rfl ?_)
 show wpAny _ _ (if (Qc l==Qd)=true then _ else _) _ _ s
 rw[if_neg (show ¬((Qc l==Qd)=true) from Xr)]
 show wpAny _ _ (field (.ref it) 1 >>= _) _ _ s
 refine Xa (wpAny_field ho hd (x:=.int i 0) rfl ?_)
 show wpAny _ _ (seqItems? (.ref l) >>= _) _ _ s
 refine Xa (wpAny_seqItems hol hdl ?_)
 simp only[Int.toNat_natCast,hx]
 exact Xa (wpAny_setField ho hd (by simp) (Xb hQ))
theorem p8(hh:A.handled=none){it l:Z9}{i:Nat}{o ol:Obj}{items:Array Z6}{n:Nat}{Q:Z3→Xd→Prop}(ho:s.heap.get? it=some o)(hd:o.data=.fields #[.ref l,.int i 0])
  (hol:s.heap.get? l=some ol) (hdl:ol.data=.seq items n) (hx:items[i]?=none)
  (hQ:E (.ref (s.heap.objs.size+1)) {s with heap:=((s.heap.update it (Obj.mapFields fun vs=>vs.setIfInBounds 0 .none)).push {cls:=.type "tuple",data:=.seq #[]}).push {cls:=.type "StopIteration",data:=.fields #[.ref s.heap.objs.size,.none,.none,.none,.bool false,.none]}}):
  wpAny (model prog w) A (Builtin.«list_iterator.__next__» ⟨[.ref it],[]⟩) Q E s:=by
 show wpAny _ _ (field (.ref it) 0 >>= _) _ _ s
 refine Xa (wpAny_field ho hd (x:=.ref l) rfl ?_)
 show wpAny _ _ (if (Qc l==Qd)=true then _ else _) _ _ s
 rw[if_neg (show ¬((Qc l==Qd)=true) from Xr)]
 show wpAny _ _ (field (.ref it) 1 >>= _) _ _ s
 refine Xa (wpAny_field ho hd (x:=.int i 0) rfl ?_)
 show wpAny _ _ (seqItems? (.ref l) >>= _) _ _ s
 refine Xa (wpAny_seqItems hol hdl ?_)
 simp only[Int.toNat_natCast,hx]
 refine Xa (wpAny_rule (Xa (wpAny_setField ho hd (by simp) ?_)))
 have hsz:(s.heap.update it (Obj.mapFields fun vs=>vs.setIfInBounds 0 .none)).objs.size=s.heap.objs.size:=(Heap.SameBut.update (a:=it) (h:=s.heap) (f:=Obj.mapFields fun vs=>vs.setIfInBounds 0 .none) |>.1)
 show wpAny _ _ (newExc (.type "StopIteration") [] >>= _) _ _ _
 refine Xa ?_
 simp only[newExc,newTuple]
 refine Xa (wpAny_newObj_type ?_ (by size_fits))
 refine Xa (m:=firstArgMember _ _) (wpAny_of_eq (a:=Qd) (by first|rfl|(simp only[firstArgMember];rfl)) ?_)
 refine wpAny_newObj_type ?_ (by size_fits)
 refine wpAny_raiseNew_none hh ?_
 have ho':ownMembersOf (.type "StopIteration") []=#[]:=by kernel_rfl
 have e2:((s.heap.update it (Obj.mapFields fun vs=>vs.setIfInBounds 0 .none)).push {cls:=.type "tuple",data:=.seq #[]}).objs.size=s.heap.objs.size+1:=by
  show (Array.push _ _).size=_
  rw[Array.size_push]
  exact congrArg (·+1) hsz
 rw[ho']
 show E (.ref ((s.heap.update it (Obj.mapFields fun vs=>vs.setIfInBounds 0 .none)).push {cls:=.type "tuple",data:=.seq #[]}).objs.size) {s with heap:=((s.heap.update it (Obj.mapFields fun vs=>vs.setIfInBounds 0 .none)).push {cls:=.type "tuple",data:=.seq #[]}).push {cls:=.type "StopIteration",data:=.fields #[.ref (s.heap.update it (Obj.mapFields fun vs=>vs.setIfInBounds 0 .none)).objs.size,.none,.none,.none,.bool false,.none]}}
 rw[e2,hsz]
 exact hQ
noncomputable def cI(l:Z9)(i:Nat):Obj:=⟨.type "list_iterator",none,.fields #[.ref l,.int i 0],#[]⟩
noncomputable def fj(i:Nat):Obj:=⟨.type "list_iterator",none,.fields #[.none,.int i 0],#[]⟩
noncomputable def am(l:List Z6)(m:Nat):Obj:=⟨.type "list",none,.seq ⟨l⟩ m,#[]⟩
noncomputable def g6(n:Z9):Obj:=⟨.type "StopIteration",none,.fields #[.ref n,.none,.none,.none,.bool false,.none],#[]⟩
section
variable{p:Xf}{w:Z8}{S:HT}{B:Nat}{gh:gHs}{n t:Nat}{C:Ctx→Prop}(hC:∀Γ,C Γ→Γ.handled=none)
include hC
theorem fT{it l:Z9}{i m:Nat}{xs:List Z6}{x:Z6}(hx:xs[i]?=some x):
  TriC (model p w) S B C (.builtin "list_iterator.__next__" ⟨[.ref it],[]⟩) gh [(it,cI l i),(l,am xs m)] n t (.ok (.ret x)) gh [(it,cI l (i+1)),(l,am xs m)] n t:=by
 have key:=iE (p:=p) (w:=w) (S:=S) (B:=B) (gh:=gh) (pre:=[(l,am xs m)]) (n:=n) (t:=t) (t':=t) (f:=.ret x) (cd:=.builtin "list_iterator.__next__" ⟨[.ref it],[]⟩) hC (a:=it) (o:=cI l i)
  (g:=Obj.mapFields fun vs=>vs.setIfInBounds 1 (rawInt ((i:Int)+1))) rfl fun Γ P h gs dd os hh lo hp=>by
  rw[cU entry_listiter_next]
  refine cm hh fun A hA=>?_
  refine oG (o:=cI l i) (ol:=am xs m) (items:=⟨xs⟩) (n:=m) (x:=x) (hp (it,_) List.mem_cons_self) rfl (hp (l,_) (Qp _ List.mem_cons_self)) rfl ?_ ⟨rfl,rfl⟩
  exact(List.getElem?_toArray (xs:=xs) (i:=i)).trans hx
 exact key
theorem kY{it l:Z9}{i m:Nat}{xs:List Z6}(hx:xs[i]?=none):
  TriC (model p w) S B C (.builtin "list_iterator.__next__" ⟨[.ref it],[]⟩) gh [(it,cI l i),(l,am xs m)] n t (.error (.ref (n+1))) gh [(it,fj i),(l,am xs m),(n+1,g6 n)] (n+2) t:=by
 intro nd lo big Γ P h gs d os hΓ hL hn hs hp hgh
 have ho:h.get? it=some (cI l i):=hp (it,_) List.mem_cons_self
 have hl:h.get? l=some (am xs m):=hp (l,_) (Qp _ List.mem_cons_self)
 have hlt:=Qa ho
 have hlt2:=Qa hl
 rw[hn]at hlt hlt2
 have nil:it≠l:=by
  have:=(List.nodup_cons.mp nd).1
  intro e;exact this (by rw[e];exact List.mem_cons_self)
 let h1:=h.update it (Obj.mapFields fun vs=>vs.setIfInBounds 0 .none)
 let h2:=h1.push {cls:=.type "tuple",data:=.seq #[]}
 let h3:=h2.push (g6 n)
 have z1:h1.objs.size=n:=(Heap.SameBut.update (a:=it) (h:=h) (f:=Obj.mapFields fun vs=>vs.setIfInBounds 0 .none) |>.1).trans hn
 have z2:h2.objs.size=n+1:=by show (Array.push _ _).size=_;rw[Array.size_push];exact congrArg (·+1) z1
 have z3:h3.objs.size=n+2:=by show (Array.push _ _).size=_;rw[Array.size_push];exact congrArg (·+1) z2
 have k:∀b o,b≠it→h.get? b=some o→h3.get? b=some o:=fun b o hb hbo=>Qo _ (Qo _ ((X0 _ _ _ _ hb).trans hbo))
 refine⟨h3,?_,z3,Zy _ _,by cases h;rfl,?_,fun x hx=>?_,fun b hb hnb o hbo=>?_,fun x hx=>?_⟩
 ·rw[cU entry_listiter_next]
  refine vH (hC Γ hL) fun A hA=>?_
  refine p8 hA (o:=cI l i) (ol:=am xs m) (items:=⟨xs⟩) (n:=m) ho rfl hl rfl ((List.getElem?_toArray (xs:=xs) (i:=i)).trans hx) ?_
  show _∧_
  rw[show (⟨h,gs,d,t,os⟩:Xd).heap.objs.size=n from hn]
  exact⟨rfl,rfl⟩
 ·show [it,l,n+1].Nodup
  rw[Qm,Qm]
  refine⟨?_,?_,by simp⟩
  ·simp only[Qt,List.not_mem_nil,or_false,not_or];exact⟨nil,fun e=>Zz n (Nat.lt_of_succ_lt (by rw[e]at hlt;exact hlt))⟩
  ·simp only[Qt,List.not_mem_nil,or_false];exact fun e=>Zz n (Nat.lt_of_succ_lt (by rw[e]at hlt2;exact hlt2))
 ·rcases Qt.mp hx with e|e
  ·subst e
   exact⟨.inl List.mem_cons_self,Qo _ (Qo _ (Heap.get?_update_self _ ho rfl))⟩
  ·rcases Qt.mp e with e|e
   ·subst e
    exact⟨.inl (Qp _ List.mem_cons_self),k l _ nil.symm hl⟩
   ·rcases Qt.mp e with e|e
    ·subst e
     refine⟨.inr (Zy _ _),?_⟩
     have:=Heap.get?_push_size h2 (o:=g6 n) rfl
     rw[z2]at this
     exact this
    ·cases e
 ·exact k b o (fun e=>hnb (by rw[e];exact List.mem_cons_self)) hbo
 ·obtain⟨x1,x2⟩:=hgh x hx
  have xlt:=Qa x1
  rw[hn]at xlt
  refine⟨k _ _ (fun e=>x2 (by rw[e];exact List.mem_cons_self)) x1,fun z=>?_,.inl (Qq.mpr ⟨x,hx,rfl⟩)⟩
  rcases Qt.mp z with e|e
  ·exact x2 (by rw[e];exact List.mem_cons_self)
  ·rcases Qt.mp e with e|e
   ·exact x2 (by rw[e];exact Qp _ List.mem_cons_self)
   ·rcases Qt.mp e with e|e
    ·have e':x.1=n+1:=e
     exact Zz n (Nat.lt_of_succ_lt (by rw[e']at xlt;exact xlt))
    ·cases e
end
variable{prog:Xf}{w:Z8}{A:Around}{E:Z6→Xd→Prop}{s:Xd}
theorem jG{Γ:Ctx}{p:Pos}{cd:Xo}{R:Xc→Xd→Prop}(hh:Γ.handled=none)(hΓ:Γ.code=cd)
  (H:∀A,A.handled=none→codeAny (model prog w) A cd R s):∃r x,Xg (model prog w) Γ p ((model prog w).den cd) [] s (.ret r) x∧R r x:=by
 have hw:=H ⟨none,frameCount Γ.below+Γ.code.weight,none,none,Γ.code.cUnits+PySem.unitsOf Γ.below⟩ rfl Γ p hΓ ⟨hh,Zy _ _,(fun _ h=>nomatch h),(fun _ h=>nomatch h),Zx _ _⟩
 have hw':Sem.wp (model prog w) Γ ((model prog w).den cd) (Sem.finPost (model prog w) Γ R) (fun e _ x=>R (.error e) x) p s:=by
  subst hΓ;exact(wpCode_iff_wp _ _ _ _ _).mp hw
 obtain⟨r,x,hr,hx⟩:=(Sem.wp_iff_runs (model prog w) Γ _ _ p s).mp hw'
 exact⟨r,x,hr,hx⟩
theorem rY{it l:Z9}{i m:Nat}{items:List Z6}{x:Z6}{Q:Option Z6→Xd→Prop}(ho:s.heap.get? it=some (cI l i))
  (hl:s.heap.get? l=some (am items m)) (hx:items[i]?=some x)
  (hQ:Q (some x) {s with heap:=s.heap.update it (Obj.mapFields fun vs=>vs.setIfInBounds 1 (rawInt ((i:Int)+1)))}):
  wpAny (model prog w) A (pyNext (.ref it)) Q E s:=by
 unfold pyNext
 refine Xa (wpAny_attempt (wpAny_callSpecial?_slot (name:=Str.ofString "__next__") ⟨_,ho,rfl⟩ slot_listiter_next
  (wpAny_call_entry slot_listiter_next ⟨_,ho,rfl⟩ entry_listiter_next ?_ (args_listiter_next _))))
 refine oG ho rfl hl rfl ((List.getElem?_toArray (xs:=items) (i:=i)).trans hx) ?_
 exact⟨x,rfl,Xb hQ⟩
theorem vh{it l:Z9}{i m:Nat}{items:List Z6}{Q:Option Z6→Xd→Prop}(hh:A.handled=none)(ho:s.heap.get? it=some (cI l i))
  (hl:s.heap.get? l=some (am items m)) (hx:items[i]?=none)
  (hQ:Q none {s with heap:=((s.heap.update it (Obj.mapFields fun vs=>vs.setIfInBounds 0 .none)).push {cls:=.type "tuple",data:=.seq #[]}).push (g6 s.heap.objs.size)}):
  wpAny (model prog w) A (pyNext (.ref it)) Q E s:=by
 have z1:(s.heap.update it (Obj.mapFields fun vs=>vs.setIfInBounds 0 .none)).objs.size=s.heap.objs.size:=(Heap.SameBut.update (a:=it) (h:=s.heap) (f:=Obj.mapFields fun vs=>vs.setIfInBounds 0 .none) |>.1)
 have z2:((s.heap.update it (Obj.mapFields fun vs=>vs.setIfInBounds 0 .none)).push {cls:=.type "tuple",data:=.seq #[]}).objs.size=s.heap.objs.size+1:=by
  show (Array.push _ _).size=_
  rw[Array.size_push];exact congrArg (·+1) z1
 unfold pyNext
 refine Xa (wpAny_attempt (wpAny_callSpecial?_slot (name:=Str.ofString "__next__") ⟨_,ho,rfl⟩ slot_listiter_next
  (wpAny_call_entry slot_listiter_next ⟨_,ho,rfl⟩ entry_listiter_next ?_ (args_listiter_next _))))
 refine p8 (o:=cI l i) (ol:=am items m) (show A.in1.handled=none from hh) ho rfl hl rfl ((List.getElem?_toArray (xs:=items) (i:=i)).trans hx) ?_
 refine Xa (wpAny_isInstance (T:="StopIteration") (b:=true) ⟨g6 s.heap.objs.size,?_,rfl⟩ isSubtype_stop ?_)
 ·have:=Heap.get?_push_size ((s.heap.update it (Obj.mapFields fun vs=>vs.setIfInBounds 0 .none)).push {cls:=.type "tuple",data:=.seq #[]}) (o:=g6 s.heap.objs.size) rfl
  rw[z2]at this
  exact this
 ·exact Xb hQ
noncomputable def dQ(ps:List (Int×Nat)):List Z6:=ps.map fun p=>.int p.1 p.2
noncomputable def gS:List (Int×Nat)→Int
 |[]=>0
 |p::l=>p.1+gS l
def pZ(ps:List (Int×Nat)):Prop:=∀p∈ps,0≤p.1∧p.1≤1000000000
structure SumPost (I a S:Z9) (ps:List (Int×Nat)) (m c:Nat) (tot:Int) (tr k:Nat) (s:Xd) (r:Xc) (x:Xd):Prop where
 res:r=.ok (.ret (.int tot tr))
 toks:x.toks=s.toks+k
 gens:x.gens=s.gens
 drawn:x.drawn=s.drawn
 os:x.os=s.os
 size:x.heap.objs.size=s.heap.objs.size+2
 life:x.heap.life=s.heap.life
 it:x.heap.get? I=some (fj ps.length)
 li:x.heap.get? a=some (am (dQ ps) m)
 st:x.heap.get? S=some (am [.int tot tr] c)
 frame:∀b o,b≠I→b≠S→s.heap.get? b=some o→x.heap.get? b=some o
theorem jP(h:Xh)(a:Z9)(f:Obj→Obj):(h.update a f).life=h.life:=by cases h;rfl
theorem life_push(h:Xh)(o:Obj):(h.push o).life=h.life:=by cases h;rfl
theorem jR(h:Xh)(a:Z9)(f:Obj→Obj):(h.update a f).objs.size=h.objs.size:=(Heap.SameBut.update (a:=a) (h:=h) (f:=f) |>.1)
theorem size_push(h:Xh)(o:Obj):(h.push o).objs.size=h.objs.size+1:=by show (Array.push _ _).size=_;rw[Array.size_push]
theorem wf(ps:List (Int×Nat))(i:Nat):(dQ ps)[i]?=(ps[i]?).map fun p=>.int p.1 p.2:=by simp[dQ]
theorem Eh{ps:List (Int×Nat)}{i:Nat}{p:Int×Nat}(h:ps[i]?=some p):gS (ps.drop i)=p.1+gS (ps.drop (i+1)):=by
 obtain⟨hi,e⟩:=List.getElem?_eq_some_iff.mp h
 rw[List.drop_eq_getElem_cons hi,e];rfl
theorem pa{I a S:Z9}(hIa:I≠a)(hIS:I≠S)(haS:a≠S)(hh:A.handled=none){ps:List (Int×Nat)}(hp:pZ ps){m c:Nat}:
  ∀(k i:Nat) (s:Xd) (tot:Int) (tA:Nat),ps.length=i+k→0≤tot→tot+1000000000*k<2^62→s.heap.get? I=some (cI a i)→s.heap.get? a=some (am (dQ ps) m)→s.heap.get? S=some (am [.int tot tA] c)→
  codeAny (model prog w) A (.builtin "sum.loop" ⟨[.ref I,.ref S,rawInt 0,rawInt 0],[]⟩) (SumPost I a S ps m c (tot+gS (ps.drop i)) (if k=0 then tA else s.toks+k-1) k s) s:=by
 intro k
 induction k with
 |zero=>
  intro i s tot tA hk h0 hb hI ha hS
  refine codeAny_builtin F.entry_sum_loop ?_
  rw[Around.under_plainId F.plain_sum_loop _]
  show wpAny _ A.in1 (seqItems? (.ref S) >>= _) _ _ s
  refine Xa (wpAny_seqItems hS rfl ?_)
  show wpAny _ A.in1 (tryCatch (pyNext (.ref I)) _ >>= _) _ _ s
  refine Xa (wpAny_tryCatch (vh hh hI ha (by rw[wf,List.getElem?_eq_none (by omega)];rfl) ?_))
  have hlt:=Qa ha
  have hltI:=Qa hI
  have k:∀b o,b≠I→s.heap.get? b=some o→(((s.heap.update I (Obj.mapFields fun vs=>vs.setIfInBounds 0 .none)).push {cls:=.type "tuple",data:=.seq #[]}).push (g6 s.heap.objs.size)).get? b=some o:=fun b o hb hbo=>
   Qo _ (Qo _ ((X0 _ _ _ _ hb).trans hbo))
  have hz:gS (ps.drop i)=0:=by rw[List.drop_eq_nil_of_le (by omega)];rfl
  rw[if_pos rfl,hz,Int.add_zero]
  refine Xb ⟨rfl,rfl,rfl,rfl,rfl,?_,?_,?_,k _ _ hIa.symm ha,k _ _ hIS.symm hS,fun b o hb _=>k b o hb⟩
  ·rw[size_push,size_push,jR]
  ·rw[life_push,life_push,jP]
  ·refine Qo _ (Qo _ ?_)
   rw[Heap.get?_update_self _ hI rfl,hk];rfl
 |succ k ih=>
  intro i s tot tA hk h0 hb hI ha hS
  have hi:i<ps.length:=by omega
  have hx:(dQ ps)[i]?=some (.int ps[i].1 ps[i].2):=by rw[wf,List.getElem?_eq_getElem hi];rfl
  obtain⟨g1,g2⟩:=hp ps[i] (List.getElem_mem hi)
  refine codeAny_builtin F.entry_sum_loop ?_
  rw[Around.under_plainId F.plain_sum_loop _]
  show wpAny _ A.in1 (seqItems? (.ref S) >>= _) _ _ s
  refine Xa (wpAny_seqItems hS rfl ?_)
  show wpAny _ A.in1 (tryCatch (pyNext (.ref I)) _ >>= _) _ _ s
  refine Xa (wpAny_tryCatch (rY hI ha hx ?_))
  have hS':(s.heap.update I (Obj.mapFields fun vs=>vs.setIfInBounds 1 (rawInt ((i:Int)+1)))).get? S=some (am [.int tot tA] c):=(X0 _ _ _ _ hIS.symm).trans hS
  have hc:((decide (-(2^63)≤ps[i].1)&&decide (ps[i].1<2^63))&&(decide (-(2^63)≤tot+ps[i].1)&&decide (tot+ps[i].1<2^63)))=true:=by
   simp only[Xs,decide_eq_true_eq]
   refine⟨⟨?_,?_⟩,?_,?_⟩<;>omega
  show wpAny _ A.in1 (if (_:Bool)=true then (mkInt (tot+ps[i].1) >>= _) else _) _ _ _
  split
  ·refine Xa (wpAny_mkInt ?_)
   show wpAny _ A.in1 (updateSeq S (fun _=>#[.int (tot+ps[i].1) s.toks]) >>= _) _ _ _
   refine Xa ?_
   refine wpAny_updateSeq hS' rfl (Xb ⟨plainId_quiet F.plain_sum_loop _,?_⟩)
   have key:=ih (i+1) {s with heap:=(s.heap.update I (Obj.mapFields fun vs=>vs.setIfInBounds 1 (rawInt ((i:Int)+1)))).update S (Obj.mapSeq fun _=>#[.int (tot+ps[i].1) s.toks]),toks:=s.toks+1} (tot+ps[i].1) s.toks (by omega) (by omega) (by omega)
    ((X0 _ _ _ _ hIS).trans (Heap.get?_update_self _ hI rfl)) ((X0 _ _ _ _ haS).trans ((X0 _ _ _ _ hIa.symm).trans ha)) (Heap.get?_update_self _ hS' rfl)
   refine codeAny_mono key fun r x X=>?_
   have e1:tot+ps[i].1+gS (ps.drop (i+1))=tot+gS (ps.drop i):=by
    rw[Eh (List.getElem?_eq_getElem hi),Int.add_assoc]
   have e2:(if k=0 then s.toks else s.toks+1+k-1)=(if k+1=0 then tA else s.toks+(k+1)-1):=by
    rw[if_neg (by omega:¬k+1=0)]
    split
    ·subst_vars;simp
    ·show s.toks+1+k-1=_;omega
   have X':=X
   rw[e1,show (if k=0 then s.toks else ({s with heap:=(s.heap.update I (Obj.mapFields fun vs=>vs.setIfInBounds 1 (rawInt ((i:Int)+1)))).update S (Obj.mapSeq fun _=>#[.int (tot+ps[i].1) s.toks]),toks:=s.toks+1}:Xd).toks+k-1)=(if k+1=0 then tA else s.toks+(k+1)-1) from e2]at X'
   refine⟨X'.res,X'.toks.trans (by show s.toks+1+k=s.toks+(k+1);omega),X'.gens,X'.drawn,X'.os,X'.size.trans ?_,X'.life.trans ?_,X'.it,X'.li,X'.st,fun b o hb hb' e=>X'.frame b o hb hb' ?_⟩
   ·show (Heap.update _ _ _).objs.size+2=_
    rw[jR,jR]
   ·show (Heap.update _ _ _).life=_
    rw[jP,jP]
   ·exact(X0 _ _ _ _ hb').trans ((X0 _ _ _ _ hb).trans e)
  ·rename_i hneg
   exact absurd hc hneg
section
variable{S:HT}{B:Nat}{gh:gHs}{n t:Nat}{C:Ctx→Prop}(hC:∀Γ,C Γ→Γ.handled=none)
include hC
theorem Af{I a St:Z9}{ps:List (Int×Nat)}(hp:pZ ps)(hl:ps.length≤40){m:Nat}{tA:Nat}:
  TriC (model prog w) S B C (.builtin "sum.loop" ⟨[.ref I,.ref St,.int 0 0,.int 0 0],[]⟩) gh [(I,cI a 0),(a,am (dQ ps) m),(St,am [.int 0 tA] 0)] n t
   (.ok (.ret (.int (gS ps) (if ps.length=0 then tA else t+ps.length-1)))) gh [(I,fj ps.length),(a,am (dQ ps) m),(St,am [.int (gS ps) (if ps.length=0 then tA else t+ps.length-1)] 0)] (n+2) (t+ps.length):=by
 intro nd lo big Γ P h gs d os hΓ hL hn hs hpre hgh
 have hI:h.get? I=some (cI a 0):=hpre (I,_) List.mem_cons_self
 have ha:h.get? a=some (am (dQ ps) m):=hpre (a,_) (Qp _ List.mem_cons_self)
 have hS:h.get? St=some (am [.int 0 tA] 0):=hpre (St,_) (Qp _ (Qp _ List.mem_cons_self))
 simp only[List.map_cons,List.map_nil,Qm,Qt,List.not_mem_nil,or_false,not_or]at nd
 obtain⟨r,x,hr,X⟩:=jG (prog:=prog) (w:=w) (p:=P) (hC Γ hL) hΓ (s:=⟨h,gs,d,t,os⟩) fun A hA=>
  pa (A:=A) (c:=0) (m:=m) nd.1.1 nd.1.2 nd.2.1 hA hp ps.length 0 ⟨h,gs,d,t,os⟩ 0 tA (by omega) (by omega) (by omega) hI ha hS
 obtain⟨X1,X2,X3,X4,X5,X6,X7,X8,X9,X10,X11⟩:=X
 have e0:(0:Int)+gS (ps.drop 0)=gS ps:=by simp
 rw[e0]at X1 X10
 obtain⟨xh,xg,xd,xt,xo⟩:=x
 simp only at X2 X3 X4 X5 X6 X7 X8 X9 X10 X11
 subst X1 X2 X3 X4 X5
 have ndP:[I,a,St].Nodup:=by simp[nd]
 refine⟨xh,hr,X6.trans (congrArg (·+2) hn),Zy _ _,X7,ndP,fun y hy=>?_,fun b hb hnb o ho=>?_,fun y hy=>?_⟩
 ·rcases Qt.mp hy with e|e
  ·subst e;exact⟨.inl List.mem_cons_self,X8⟩
  ·rcases Qt.mp e with e|e
   ·subst e;exact⟨.inl (Qp _ List.mem_cons_self),X9⟩
   ·rcases Qt.mp e with e|e
    ·subst e;exact⟨.inl (Qp _ (Qp _ List.mem_cons_self)),X10⟩
    ·cases e
 ·exact X11 b o (fun e=>hnb (by rw[e];exact List.mem_cons_self)) (fun e=>hnb (by rw[e];exact Qp _ (Qp _ List.mem_cons_self))) ho
 ·obtain⟨x1,x2⟩:=hgh y hy
  refine⟨X11 _ _ (fun e=>x2 (by rw[e];exact List.mem_cons_self)) (fun e=>x2 (by rw[e];exact Qp _ (Qp _ List.mem_cons_self))) x1,x2,.inl (Qq.mpr ⟨y,hy,rfl⟩)⟩
end
variable{prog:Xf}{w:Z8}{A:Around}{E:Z6→Xd→Prop}{s:Xd}
section
variable{S:HT}{B:Nat}{gh:gHs}{n t:Nat}{C:Ctx→Prop}(hC:∀Γ,C Γ→Γ.handled=none)
include hC
theorem xQ{pre:gHs}{t':Nat}{cd:Xo}{f:Flow}(H:∀Γ P h gs d os,Γ.handled=none→Γ.code=cd→(∀x∈pre,B≤x.1)→(∀x∈pre,h.get? x.1=some x.2)→Xg (model prog w) Γ P ((model prog w).den cd) [] ⟨h,gs,d,t,os⟩ (.ret (.ok f)) ⟨h,gs,d,t',os⟩):
  TriC (model prog w) S B C cd gh pre n t (.ok f) gh pre n t':=by
 intro nd lo big Γ P h gs d os hΓ hL hn hs hp hgh
 exact⟨h,H Γ P h gs d os (hC Γ hL) hΓ lo hp,hn,Zm _,rfl,nd,fun x hx=>⟨.inl (Qq.mpr ⟨x,hx,rfl⟩),hp x hx⟩,fun _ _ _ o ho=>ho,fun x hx=>⟨(hgh x hx).1,(hgh x hx).2,.inl (Qq.mpr ⟨x,hx,rfl⟩)⟩⟩
theorem Tc{l:Z9}{m:Nat}{xs:List Z6}(hz:xs.length≤1000):
  TriC (model prog w) S B C (.call (.builtin "len") ⟨[.ref l],[]⟩) gh [(l,am xs m)] n t (.ok (.ret (.int xs.length (t+1)))) gh [(l,am xs m)] n (t+2):=
 xQ hC fun Γ P h gs dd os hh hΓ lo hp=>by
  have ho:h.get? l=some (am xs m):=hp (l,_) List.mem_cons_self
  ·obtain⟨r,x,hr,rfl,rfl⟩:=jG (prog:=prog) (w:=w) (p:=P) hh hΓ (s:=⟨h,gs,dd,t,os⟩) (R:=fun r x=>r=.ok (.ret (.int xs.length (t+1)))∧x=⟨h,gs,dd,t+2,os⟩) fun A hA=>by
    refine codeAny_call_builtin plain_len entry_len ?_
    simp only[checkBuiltinCall,kind_len]
    have ha:=args_len1 (.ref l)
    have body:wpAny (model prog w) A.in1 (Builtin.«len» ⟨[.ref l],[]⟩) (fun fin s'=>match fin with
      |.done f=>(Except.ok f:Xc)=.ok (.ret (.int xs.length (t+1)))∧s'=⟨h,gs,dd,t+2,os⟩
      |.again c'=>c'.quiet=true∧codeAny (model prog w) A c' (fun r x=>r=.ok (.ret (.int xs.length (t+1)))∧x=⟨h,gs,dd,t+2,os⟩) s')
      (fun e s'=>(Except.error e:Xc)=.ok (.ret (.int xs.length (t+1)))∧s'=⟨h,gs,dd,t+2,os⟩) ⟨h,gs,dd,t,os⟩:=by
     unfold Builtin.«len»
     refine Xa (m:=oneArg "len" _) (Xb ?_)
     refine Xa (m:=callSpecial? (.ref l) (Str.ofString "__len__")) (wpAny_callSpecial?_slot (name:=Str.ofString "__len__") ⟨_,ho,rfl⟩ slot_list_len
      (wpAny_call_entry slot_list_len ⟨_,ho,rfl⟩ entry_list_len ?_ (args_list_len _)))
     show wpAny _ _ (do retInt (←seqSize l)) _ _ _
     unfold seqSize
     refine Xa (Xa (wpAny_load ho ?_))
     refine Xb (Xa (wpAny_mkInt (Xb ⟨_,rfl,?_⟩)))
     refine Xa (wpAny_holding (Xb ?_))
     refine Xa (wpAny_letGo ?_)
     show wpAny _ _ (if ((xs.length:Nat):Int)<0 then _ else _) _ _ _
     rw[if_neg (by omega)]
     show wpAny _ _ (if ((xs.length:Nat):Int)≥2^63 then _ else _) _ _ _
     rw[if_neg (by omega)]
     exact Xa (wpAny_mkInt (Xb ⟨rfl,rfl⟩))
    cases hsig:Manifest.signature? "len" with
    |none=>exact Xb body
    |some sig=>
     simp only[argsOk,hsig]at ha
     have h2:Bind.checkArgs "len" sig ⟨[.ref l],[]⟩=pure ():=ha
     show wpAny _ A.in1 (Bind.checkArgs "len" sig ⟨[.ref l],[]⟩) _ _ _
     rw[h2];exact Xb body
   exact hr
end
section
variable{M:Model}{S:HT}{B:Nat}{C:Ctx→Prop}{cd:Xo}{n t n' t':Nat}{r:Xc}{pre post X Y g g0 g0' gh gh' g' gh2:gHs}
theorem TriC.mono{C':Ctx→Prop}(hC:∀Γ,C' Γ→C Γ)(H:TriC M S B C cd gh pre n t r gh' post n' t'):TriC M S B C' cd gh pre n t r gh' post n' t':=
 fun nd lo big Γ P h gs d os hΓ hL=>H nd lo big Γ P h gs d os hΓ (hC Γ hL)
theorem gb{l:gHs}{x:Z9×Obj}(h:x∈l):x.1∈l.map (·.1):=Qq.mpr ⟨x,h,rfl⟩
theorem TriC.take(H:TriC M S B C cd g0 (pre++X) n t r g0' (post++X) n' t')(hX:∀x∈X,x∈gh)(hB:∀x∈X,B≤x.1)(hn:(X.map (·.1)).Nodup)
  (h0:∀y∈g0,y∈gh∧y.1∉X.map (·.1)) (h1:∀y∈gh',y∈g0'∨y∈X):TriC M S B C cd gh pre n t r gh' post n' t':=by
 intro nd lo big Γ P h gs d os hΓ hL hsz hs hp hgh
 have dis:∀x∈X,x.1∉pre.map (·.1):=fun x hx=>(hgh x (hX x hx)).2
 have nd2:((pre++X).map (·.1)).Nodup:=by
  rw[Qh]
  refine List.nodup_append.mpr ⟨nd,hn,fun a ha b hb e=>?_⟩
  subst e
  obtain⟨x,hx,e⟩:=Qq.mp hb
  exact dis x hx (e▸ha)
 obtain⟨h',a1,a2,a3,a4,a5,a6,a7,a8⟩:=H nd2 (fun x hx=>(Qu.mp hx).elim (lo x) (hB x)) big Γ P h gs d os hΓ hL hsz hs
  (fun x hx=>(Qu.mp hx).elim (hp x) fun hx=>(hgh x (hX x hx)).1) (fun y hy=>⟨(hgh y (h0 y hy).1).1,fun z=>by
   rw[Qh]at z
   exact(Qu.mp z).elim (hgh y (h0 y hy).1).2 (h0 y hy).2⟩)
 rw[Qh]at a5
 obtain⟨p1,p2,p3⟩:=List.nodup_append.mp a5
 refine⟨h',a1,a2,a3,a4,p1,fun x hx=>⟨?_,(a6 x (Qj _ hx)).2⟩,fun b hb hnb o ho=>?_,fun y hy=>?_⟩
 ·rcases(a6 x (Qj _ hx)).1 with q|q
  ·rw[Qh]at q
   rcases Qu.mp q with q|q
   ·exact .inl q
   ·exact absurd rfl (p3 _ (gb hx) _ q)
  ·exact .inr q
 ·by_cases q:b∈X.map (·.1)
  ·obtain⟨x,hx,rfl⟩:=Qq.mp q
   have e:=(hgh x (hX x hx)).1
   rw[e]at ho
   cases ho
   exact(a6 x (Qr _ hx)).2
  ·exact a7 b hb (fun z=>by rw[Qh]at z;exact(Qu.mp z).elim hnb q) o ho
 ·rcases h1 y hy with q|q
  ·obtain⟨z1,z2,z3⟩:=a8 y q
   rw[Qh]at z2
   refine⟨z1,fun z=>z2 (Qj _ z),z3.imp (fun z=>?_) id⟩
   obtain⟨y',hy',e⟩:=Qq.mp z
   exact Qq.mpr ⟨y',(h0 y' hy').1,e⟩
  ·exact⟨(a6 y (Qr _ q)).2,fun z=>p3 _ z _ (gb q) rfl,.inl (gb (hX y q))⟩
theorem TriC.give(H:TriC M S B C cd g pre n t r g' post n' t')(h0:∀y∈g,y∈X∨y∈gh)(h1:∀y∈gh',y∈g'∧(y.1∈gh.map (·.1)∨n≤y.1)):
  TriC M S B C cd gh (pre++X) n t r gh' (post++X) n' t':=by
 intro nd lo big Γ P h gs d os hΓ hL hsz hs hp hgh
 have nd':=nd
 rw[Qh]at nd'
 obtain⟨p1,p2,p3⟩:=List.nodup_append.mp nd'
 have live:∀x∈X,x.1<n:=fun x hx=>hsz▸Qa (hp x (Qr _ hx))
 have notpre:∀x∈X,x.1∉pre.map (·.1):=fun x hx z=>p3 _ z _ (gb hx) rfl
 obtain⟨h',a1,a2,a3,a4,a5,a6,a7,a8⟩:=H p1 (fun x hx=>lo x (Qj _ hx)) big Γ P h gs d os hΓ hL hsz hs
  (fun x hx=>hp x (Qj _ hx)) (fun y hy=>(h0 y hy).elim (fun q=>⟨hp y (Qr _ q),notpre y q⟩) fun q=>⟨(hgh y q).1,fun z=>(hgh y q).2 (by rw[Qh];exact Qj _ z)⟩)
 have notpost:∀x∈X,x.1∉post.map (·.1):=fun x hx z=>by
  obtain⟨y,hy,e⟩:=Qq.mp z
  rcases(a6 y hy).1 with q|q
  ·exact notpre x hx (e▸q)
  ·exact Zz _ (Zr (live x hx) (e▸q))
 refine⟨h',a1,a2,a3,a4,?_,fun x hx=>?_,fun b hb hnb o ho=>a7 b hb (fun z=>hnb (by rw[Qh];exact Qj _ z)) o ho,fun y hy=>?_⟩
 ·rw[Qh]
  refine List.nodup_append.mpr ⟨a5,p2,fun a ha b hb e=>?_⟩
  subst e
  obtain⟨x,hx,e⟩:=Qq.mp hb
  exact notpost x hx (e▸ha)
 ·rcases Qu.mp hx with q|q
  ·exact⟨(a6 x q).1.imp (fun z=>by rw[Qh];exact Qj _ z) id,(a6 x q).2⟩
  ·exact⟨.inl (by rw[Qh];exact Qr _ (gb q)),a7 x.1 (live x q) (notpre x q) _ (hp x (Qr _ q))⟩
 ·obtain⟨q1,q2⟩:=h1 y hy
  obtain⟨z1,z2,_⟩:=a8 y q1
  refine⟨z1,fun z=>?_,q2⟩
  rw[Qh]at z
  rcases Qu.mp z with z|z
  ·exact z2 z
  ·rcases q2 with q|q
   ·obtain⟨y',hy',e⟩:=Qq.mp q
    exact(hgh y' hy').2 (by rw[Qh];exact Qr _ (e▸z))
   ·obtain⟨x,hx,e⟩:=Qq.mp z
    exact Zz _ (Zr (live x hx) (e▸q))
theorem TriC.keep(H:TriC M S B C cd gh pre n t r g' (post++Y) n' t')(hY:∀y∈Y,y.1∉pre.map (·.1))(h1:∀y∈gh',y∈g'∨y∈Y):TriC M S B C cd gh pre n t r gh' post n' t':=by
 intro nd lo big Γ P h gs d os hΓ hL hsz hs hp hgh
 obtain⟨h',a1,a2,a3,a4,a5,a6,a7,a8⟩:=H nd lo big Γ P h gs d os hΓ hL hsz hs hp hgh
 rw[Qh]at a5
 obtain⟨p1,p2,p3⟩:=List.nodup_append.mp a5
 refine⟨h',a1,a2,a3,a4,p1,fun x hx=>a6 x (Qj _ hx),a7,fun y hy=>?_⟩
 rcases h1 y hy with q|q
 ·obtain⟨z1,z2,z3⟩:=a8 y q
  exact⟨z1,fun z=>z2 (by rw[Qh];exact Qj _ z),z3⟩
 ·obtain⟨z1,z2⟩:=a6 y (Qr _ q)
  exact⟨z2,fun z=>p3 _ z _ (gb q) rfl,.inr (z1.resolve_left (hY y q))⟩
end
theorem ab{α:Type}{P:α→Prop}{a:α}{l:List α}(h:P a)(t:∀k∈l,P k):∀k∈a::l,P k:=fun k hk=>(Qt.mp hk).elim (fun e=>e▸h) (t k)
theorem aa{α:Type}{P:α→Prop}:∀k∈([]:List α),P k:=fun _ h=>nomatch h
noncomputable def gT(st:Xe):Cfg:=⟨.nil,0,fun i=>i,fun i=>i,fun _=>[],st⟩
abbrev fx:=Bool→lX→Xe→Ctx→Pos→HT→Nat→Nat→List Claim→Hn→Q
def Ut(fin:Z3):fx:=fun _ ih _ Γ p T c tk A H=>
 @PySem.Fin.rec (fun _=>Q) (fun f=>.ok (.ok f) T c tk A H) (fun cd=>@Xp (fun _=>Q) .no (ih (Γ.goto cd) cd p T c tk A H) (fC cd)) fin
def Ur(a:Z9)(kih:Obj→fx):fx:=fun mk ih g Γ p T c tk A H=>@Xu Obj (fun _=>Q) .no (fun o=>kih o mk ih g Γ p T c tk A H) (T.getK (Zd a 1))
def QU(a:Z9)(kih:Option Obj→fx):fx:=fun mk ih g Γ p T c tk A H=>@Xu Obj (fun _=>Q) .no (fun o=>kih (some o) mk ih g Γ p T c tk A H) (T.getK (Zd a 1))
def ZZ(a:Z9)(f:Obj→Obj)(kih:Unit→fx):fx:=fun mk ih g Γ p T c tk A H=>@Xu Obj (fun _=>Q) .no (fun o=>
 @Xp (fun _=>Q) (kih () mk ih g Γ p (T.putK (Zd a 1) (f o)) c tk A H) .no (f o).isFreed) (T.getK (Zd a 1))
def QV(o:Obj)(kih:Z9→fx):fx:=fun mk ih g Γ p T c tk A H=>@Xp (fun _=>Q) (kih c mk ih g Γ p (T.putK (Zd c 1) o) (Zd c 1) tk A H) .no o.isFreed
def QW(kih:Tok→fx):fx:=fun mk ih g Γ p T c tk A H=>@Xp (fun _=>Q) .no (kih tk mk ih g Γ p T c (Zd tk 1) A H) (Zn tk 1000000000)
def Uq(cd:Xo)(h:Option Z6)(kih:Xc→fx):fx:=fun mk ih g Γ p T c tk A H=>
 Q.andThen (ih (Γ.enter cd h p) cd p T c tk A H) fun r T c tk A H=>kih r mk ih g Γ p T c tk A H
def Us(a:Z9)(live:List Z6)(kih:Bool→fx):fx:=fun mk ih g Γ p T c tk A H=>
 @Xp (fun _=>Q) .no (@List.rec Z6 (fun _=>Q) .no (fun v _ _=>match v with
  |.int x _=>@Int.rec (fun _=>Q) (fun n=>kih true mk ih g Γ p T c tk (.eq a n::A) H) (fun _=>.no) x
  |.bool b=>@Xp (fun _=>Q) (kih false mk ih g Γ p T c tk A H) (kih true mk ih g Γ p T c tk A H) b
  |_=>.no) live) mk
def d8(t:Xj Z3):fx:=
 Sem.rec (motive:=fun _=>fx)
  (pure:=Ut)
  (raise:=fun e _ _ _ _ _ T c tk A H=>.ok (.error e) T c tk A H)
  (unsupported:=fun _ _ _ _ _ _ _ _ _ _ _=>.no)
  (finish:=fun _ _ _ _ _ _ _ _ _ _ _=>.no)
  (rule:=fun _ _ kih=>kih ())
  («at»:=fun q _ kih mk ih g Γ _ T c tk A H=>kih () mk ih g Γ q T c tk A H)
  (load:=fun a _ _ kih=>Ur a kih)
  (update:=fun a _ f _ kih=>ZZ a f kih)
  (alloc:=fun o _ kih=>QV o kih)
  (loadIfAlive:=fun a _ kih=>QU a kih)
  (point:=fun _ _ kih=>kih ())
  (register:=fun _ _ _ _ _ _ _ _ _ _ _ _ _=>.no)
  (fresh:=fun _ kih=>QW kih)
  (ask:=fun k kih mk ih g Γ p T c tk A H=>kih g mk ih g Γ p T c tk (.ask k::A) H)
  (choose:=fun _ _ _ _ _ _ _ _ _ _ _ _ _ _=>.no)
  (os:=fun _ _ _ _ _ _ _ _ _ _ _ _ _ _=>.no)
  (call:=fun cd h _ _ _ kih=>Uq cd h kih)
  (handled:=fun own _ kih mk ih g Γ=>kih (@Xp (fun _=>Option Z6) Γ.handled Γ.own own) mk ih g Γ)
  (newGen:=fun _ _ _ _ _ _ _ _ _ _ _ _ _=>.no)
  (genState:=fun _ _ _ _ _ _ _ _ _ _ _ _ _=>.no)
  (resume:=fun _ _ _ _ _ _ _ _ _ _ _ _ _ _ _=>.no)
  (yield:=fun _ _ _ _ _ _ _ _ _ _ _ _ _ _ _=>.no)
  (stack:=fun _ kih mk ih g Γ p=>kih ((Γ.code,p)::Γ.below) mk ih g Γ p)
  (fork:=fun _ _ _ _ _ _ _ _ _ _ _ _ _=>.no)
  (thread:=fun _ kih=>kih 0)
  (await:=fun a _ _ live _ kih=>Us a live kih)
  t
noncomputable def G9(cd:Xo):Nat:=match cd with
 |.call f _=>(match f with|.ref a=>Zd a 3|_=>0)
 |.compLoop ..=>1
 |.compStart ..=>2
 |_=>0
def vf(H:Hn)(cd:Xo)(c tk:Nat):Option (Nat×Hn):=match H with
 |.ld c0 H1=>(match H1 with
  |.ld t0 H2=>(match H2 with
   |.ld kd H3=>(match H3 with
    |.orc i r=>@Xp (fun _=>Option (Nat×Hn)) none (@Xp (fun _=>Option (Nat×Hn)) none (@Xp (fun _=>Option (Nat×Hn)) none (some (i,r)) (Ze kd (G9 cd))) (Ze t0 tk)) (Ze c0 c)
    |_=>none)
   |_=>none)
  |_=>none)
 |_=>none
def te(W:Xo→WT)(O:i7)(st:Xe)(N:Nat):lX:=
 @Nat.rec (fun _=>lX) (fun _ _ _ _ _ _ _ _=>.no) (fun _ ih Γ cd p T c tk A H=>
  @Xu (Nat×Hn) (fun _=>Q) (@Prod.rec Bool (Xj Z3) (fun _=>Q) (fun mk t=>d8 t mk ih st Γ p T c tk A H) (W cd))
   (fun x=>O x.1 (gT st) Γ cd T c tk A x.2) (vf H cd c tk)) N
theorem nw(st:Xe)(ih:lX)(hih:ny ih)(t:Xj Z3):∀mk Γ p T c tk A H l,(d8 t mk ih st Γ p T c tk A H).leaf=some l→∃xs,l.A=xs++A:=by
 have cut:∀{x:List Claim} {A:List Claim} {l:Leaf},(∃xs,l.A=xs++(x++A))→∃xs,l.A=xs++A:=fun ⟨xs,a⟩=>⟨xs++_,by rw[a,Qs]⟩
 have one:∀{x:Claim} {A:List Claim} {l:Leaf},(∃xs,l.A=xs++(x::A))→∃xs,l.A=xs++A:=fun h=>cut (x:=[_]) h
 induction t with
 |pure fin=>
  intro mk Γ p T c tk A H l e
  cases fin with
  |done f=>
   have e':some (⟨.ok f,T,c,tk,A,H⟩:Leaf)=some l:=e
   cases e'
   exact⟨[],rfl⟩
  |again cd=>
   have e':(@Xp (fun _=>Q) .no (ih (Γ.goto cd) cd p T c tk A H) (fC cd)).leaf=some l:=e
   cases q:fC cd with
   |false=>rw[q]at e';cases e'
   |true=>rw[q]at e';exact hih _ _ _ _ _ _ _ _ _ e'
 |raise v=>
  intro mk Γ p T c tk A H l e
  have e':some (⟨.error v,T,c,tk,A,H⟩:Leaf)=some l:=e
  cases e'
  exact⟨[],rfl⟩
 |unsupported|finish|register|choose|os|newGen|genState|resume|yield|fork=>intro mk Γ p T c tk A H l e;cases e
 |rule tag k kih=>intro mk Γ p T c tk A H l e;exact kih () mk Γ p T c tk A H l e
 |«at» q k kih=>intro mk Γ p T c tk A H l e;exact kih () mk Γ q T c tk A H l e
 |point l k kih=>intro mk Γ p T c tk A H l e;exact kih () mk Γ p T c tk A H l e
 |thread k kih=>intro mk Γ p T c tk A H l e;exact kih 0 mk Γ p T c tk A H l e
 |stack k kih=>intro mk Γ p T c tk A H l e;exact kih _ mk Γ p T c tk A H l e
 |handled own k kih=>intro mk Γ p T c tk A H l e;exact kih _ mk Γ p T c tk A H l e
 |ask k kih=>intro mk Γ p T c tk A H l e;exact one (kih st mk Γ p T c tk _ H l e)
 |load a part k kih=>
  intro mk Γ p T c tk A H l e
  have e':(@Xu Obj (fun _=>Q) .no (fun o=>d8 (k o) mk ih st Γ p T c tk A H) (T.getK (a+1))).leaf=some l:=e
  cases ho:T.getK (a+1) with
  |none=>rw[ho]at e';cases e'
  |some o=>rw[ho]at e';exact kih o mk Γ p T c tk A H l e'
 |loadIfAlive a k kih=>
  intro mk Γ p T c tk A H l e
  have e':(@Xu Obj (fun _=>Q) .no (fun o=>d8 (k (some o)) mk ih st Γ p T c tk A H) (T.getK (a+1))).leaf=some l:=e
  cases ho:T.getK (a+1) with
  |none=>rw[ho]at e';cases e'
  |some o=>rw[ho]at e';exact kih (some o) mk Γ p T c tk A H l e'
 |update a part f k kih=>
  intro mk Γ p T c tk A H l e
  have e':(@Xu Obj (fun _=>Q) .no (fun o=>@Xp (fun _=>Q) (d8 (k ()) mk ih st Γ p (T.putK (a+1) (f o)) c tk A H) .no (f o).isFreed) (T.getK (a+1))).leaf=some l:=e
  cases ho:T.getK (a+1) with
  |none=>rw[ho]at e';cases e'
  |some o=>
   rw[ho]at e'
   dsimp only at e'
   cases hf:(f o).isFreed with
   |true=>rw[hf]at e';cases e'
   |false=>rw[hf]at e';exact kih () mk Γ p _ c tk A H l e'
 |alloc o k kih=>
  intro mk Γ p T c tk A H l e
  have e':(@Xp (fun _=>Q) (d8 (k c) mk ih st Γ p (T.putK (c+1) o) (c+1) tk A H) .no o.isFreed).leaf=some l:=e
  cases hf:o.isFreed with
  |true=>rw[hf]at e';cases e'
  |false=>rw[hf]at e';exact kih c mk Γ p _ (c+1) tk A H l e'
 |fresh k kih=>
  intro mk Γ p T c tk A H l e
  have e':(@Xp (fun _=>Q) .no (d8 (k tk) mk ih st Γ p T c (tk+1) A H) (Zn tk 1000000000)).leaf=some l:=e
  cases hf:Zn tk 1000000000 with
  |false=>rw[hf]at e';cases e'
  |true=>rw[hf]at e';exact kih tk mk Γ p T c (tk+1) A H l e'
 |call cd hd gd lv k kih=>
  intro mk Γ p T c tk A H l e
  have e':(Q.andThen (ih (Γ.enter cd hd p) cd p T c tk A H) fun r T c tk A H=>d8 (k r) mk ih st Γ p T c tk A H).leaf=some l:=e
  rw[Q.leaf_andThen]at e'
  cases hl:(ih (Γ.enter cd hd p) cd p T c tk A H).leaf with
  |none=>rw[hl]at e';cases e'
  |some m=>
   rw[hl]at e'
   obtain⟨ys,ey⟩:=hih _ _ _ _ _ _ _ _ _ hl
   obtain⟨zs,ez⟩:=kih m.r mk Γ p m.T m.c m.tk m.A m.H l e'
   exact⟨zs++ys,by rw[ez,ey,Qs]⟩
 |await a take timed live k kih=>
  intro mk Γ p T c tk A H l e
  cases mk with
  |false=>cases e
  |true=>
   cases live with
   |nil=>cases e
   |cons v ls=>
    cases v with
    |int x u=>
     cases x with
     |ofNat n=>exact one (kih true true Γ p T c tk _ H l e)
     |negSucc n=>cases e
    |bool b=>cases b<;>exact kih _ true Γ p T c tk A H l e
    |_=>cases e
theorem p6(M:Model)(st:Xe)(ih:lX)(him:ny ih)(N:Nat)(hih:xK M (gT st) N ih){mk:Bool}{t₀ t:Xj Z3}(hs:Sim mk t₀ t):∀Γ p T c tk A H l,
  LimU Γ (N+1)→(d8 t mk ih st Γ p T c tk A H).leaf=some l→SOut M (gT st) Γ t₀ p T c tk A l:=by
 induction hs with
 |pure fin=>
  intro Γ p T c tk A H l hL e
  cases fin with
  |done f=>
   have e':some (⟨.ok f,T,c,tk,A,H⟩:Leaf)=some l:=e
   cases e'
   exact⟨⟨[],rfl⟩,fun _ h gs d os R=>⟨h,.done,R,.refl _ _ _,rfl,Zm _⟩⟩
  |again cd=>
   have e':(@Xp (fun _=>Q) .no (ih (Γ.goto cd) cd p T c tk A H) (fC cd)).leaf=some l:=e
   cases q:fC cd with
   |false=>rw[q]at e';cases e'
   |true=>
    rw[q]at e'
    exact SOut.mono (xs:=[]) (hih (Γ.goto cd) cd p T c tk A H l rfl (hL.goto cd) e') fun _ _ h gs d os _ h' r=>.again (uO q) r
 |raise v=>
  intro Γ p T c tk A H l hL e
  have e':some (⟨.error v,T,c,tk,A,H⟩:Leaf)=some l:=e
  cases e'
  exact⟨⟨[],rfl⟩,fun _ h gs d os R=>⟨h,.raise,R,.refl _ _ _,rfl,Zm _⟩⟩
 |unsupported|finish|register|choose|os|newGen|genState|resume|yield|fork|awaitF|awaitNo=>intro Γ p T c tk A H l hL e;cases e
 |rule tag tag' _ kih=>intro Γ p T c tk A H l hL e;exact SOut.mono (xs:=[]) (kih Γ p T c tk A H l hL e) fun _ _ h gs d os _ h' r=>.rule r
 |ruleL tag _ kih=>intro Γ p T c tk A H l hL e;exact SOut.mono (xs:=[]) (kih Γ p T c tk A H l hL e) fun _ _ h gs d os _ h' r=>.rule r
 |«at» q _ kih=>intro Γ p T c tk A H l hL e;exact SOut.mono (xs:=[]) (kih Γ q T c tk A H l hL e) fun _ _ h gs d os _ h' r=>.at r
 |point l l' _ kih=>intro Γ p T c tk A H l hL e;exact SOut.mono (xs:=[]) (kih Γ p T c tk A H l hL e) fun _ _ h gs d os _ h' r=>.point r
 |pointL l _ kih=>intro Γ p T c tk A H l hL e;exact SOut.mono (xs:=[]) (kih Γ p T c tk A H l hL e) fun _ _ h gs d os _ h' r=>.point r
 |thread _ kih=>intro Γ p T c tk A H l hL e;exact SOut.mono (xs:=[]) (kih Γ p T c tk A H l hL e) fun _ _ h gs d os _ h' r=>.thread r
 |stack _ kih=>intro Γ p T c tk A H l hL e;exact SOut.mono (xs:=[]) (kih _ Γ p T c tk A H l hL e) fun _ _ h gs d os _ h' r=>.stack r
 |stackC _ kih=>intro Γ p T c tk A H l hL e;exact SOut.mono (xs:=[]) (kih _ (hL.few p) Γ p T c tk A H l hL e) fun _ _ h gs d os _ h' r=>.stack r
 |handled own _ kih=>
  intro Γ p T c tk A H l hL e
  refine SOut.mono (xs:=[]) (kih _ Γ p T c tk A H l hL e) fun _ _ h gs d os _ h' r=>.handled ?_
  cases own<;>exact r
 |ask _ kih=>
  rename_i mk k k' _
  intro Γ p T c tk A H l hL e
  have e':(d8 (k' st) mk ih st Γ p T c tk (.ask k'::A) H).leaf=some l:=e
  obtain⟨xs,ex⟩:=nw st ih him (k' st) mk Γ p T c tk _ H l e'
  refine⟨⟨xs++[.ask k'],by rw[ex,Qs];rfl⟩,fun S h gs d os R=>?_⟩
  have q:k' ⟨M.prog,M.w.params⟩=k' st:=S (.ask k') (by rw[ex];simp)
  rw[←q]at e'
  obtain⟨h',a1,a2⟩:=(kih ⟨M.prog,M.w.params⟩ Γ p T c tk _ H l hL e').2 S h gs d os R
  exact⟨h',.ask a1,a2⟩
 |load a part part' _ kih=>
  rename_i mk _ k' _
  intro Γ p T c tk A H l hL e
  have e':(@Xu Obj (fun _=>Q) .no (fun o=>d8 (k' o) mk ih st Γ p T c tk A H) (T.getK (a+1))).leaf=some l:=e
  cases ho:T.getK (a+1) with
  |none=>rw[ho]at e';cases e'
  |some o=>
   rw[ho]at e'
   exact SOut.mono (xs:=[]) (kih o Γ p T c tk _ H l hL e') fun _ hx h gs d os R h' r=>.load (R.at_ _ _ ho).2 r
 |loadIfAlive a _ kih=>
  rename_i mk _ k' _
  intro Γ p T c tk A H l hL e
  have e':(@Xu Obj (fun _=>Q) .no (fun o=>d8 (k' (some o)) mk ih st Γ p T c tk A H) (T.getK (a+1))).leaf=some l:=e
  cases ho:T.getK (a+1) with
  |none=>rw[ho]at e';cases e'
  |some o=>
   rw[ho]at e'
   refine SOut.mono (xs:=[]) (kih (some o) Γ p T c tk _ H l hL e') fun _ hx h gs d os R h' r=>.loadIfAlive ?_
   rw[show (Shared.heap ⟨h,gs,d,(gT st).tok tk,os⟩).get? a=some o from (R.at_ _ _ ho).2];exact r
 |update a part part' f _ kih=>
  rename_i mk _ k' _
  intro Γ p T c tk A H l hL e
  have e':(@Xu Obj (fun _=>Q) .no (fun o=>@Xp (fun _=>Q) (d8 (k' ()) mk ih st Γ p (T.putK (a+1) (f o)) c tk A H) .no (f o).isFreed) (T.getK (a+1))).leaf=some l:=e
  cases ho:T.getK (a+1) with
  |none=>rw[ho]at e';cases e'
  |some o=>
   rw[ho]at e'
   dsimp only at e'
   cases hf:(f o).isFreed with
   |true=>rw[hf]at e';cases e'
   |false=>
    rw[hf]at e'
    obtain⟨⟨ys,ey⟩,K⟩:=kih Γ p _ c tk _ H l hL e'
    refine⟨⟨ys,ey⟩,fun S h gs d os R=>?_⟩
    obtain⟨R1,R2,R3⟩:=R.put ho hf
    obtain⟨h',a1,a2,a3,a4,a5⟩:=K S (h.update a f) gs d os R1
    refine⟨h',.update ?_ ?_,a2,R2.trans R3 a3,a4.trans (by cases h;rfl),Zu R3 a5⟩
    ·rw[show (Shared.heap ⟨h,gs,d,(gT st).tok tk,os⟩).get? a=some o from (R.at_ _ _ ho).2];rfl
    ·exact a1
 |alloc o _ kih=>
  rename_i mk k k' _
  intro Γ p T c tk A H l hL e
  have e':(@Xp (fun _=>Q) (d8 (k' c) mk ih st Γ p (T.putK (c+1) o) (c+1) tk A H) .no o.isFreed).leaf=some l:=e
  cases hf:o.isFreed with
  |true=>rw[hf]at e';cases e'
  |false=>
   rw[hf]at e'
   obtain⟨⟨ys,ey⟩,K⟩:=kih c Γ p _ (c+1) tk _ H l hL e'
   refine⟨⟨ys,ey⟩,fun S h gs d os R=>?_⟩
   obtain⟨R1,R2,R3⟩:=R.push rfl rfl hf
   obtain⟨h',a1,a2,a3,a4,a5⟩:=K S (h.push o) gs d os R1
   refine⟨h',.alloc ?_,a2,R2.trans R3 a3,a4.trans (by cases h;rfl),Zu R3 a5⟩
   rw[show (Shared.heap ⟨h,gs,d,(gT st).tok tk,os⟩).objs.size=c from R.size];exact a1
 |fresh _ kih=>
  rename_i mk k k' _
  intro Γ p T c tk A H l hL e
  have e':(@Xp (fun _=>Q) .no (d8 (k' tk) mk ih st Γ p T c (tk+1) A H) (Zn tk 1000000000)).leaf=some l:=e
  cases hf:Zn tk 1000000000 with
  |false=>rw[hf]at e';cases e'
  |true=>
   rw[hf]at e'
   obtain⟨⟨ys,ey⟩,K⟩:=kih tk Γ p T c (tk+1) _ H l hL e'
   refine⟨⟨ys,ey⟩,fun S h gs d os R=>?_⟩
   obtain⟨h',a1,a2⟩:=K S h gs d os R
   exact⟨h',.fresh a1,a2⟩
 |call cd hd gd gd' l₁ l₂ _ kih=>
  intro Γ p T c tk A H l hL e
  rename_i mk k k' _
  have e':(Q.andThen (ih (Γ.enter cd hd p) cd p T c tk A H) fun r T c tk A H=>d8 (k' r) mk ih st Γ p T c tk A H).leaf=some l:=e
  rw[Q.leaf_andThen]at e'
  cases hl:(ih (Γ.enter cd hd p) cd p T c tk A H).leaf with
  |none=>rw[hl]at e';cases e'
  |some m=>
   rw[hl]at e'
   obtain⟨⟨ys₁,ey₁⟩,K₁⟩:=hih (Γ.enter cd hd p) cd p T c tk A H m rfl (hL.enter cd hd p) hl
   obtain⟨⟨ys,ey⟩,K⟩:=kih m.r Γ p m.T m.c m.tk m.A m.H l hL e'
   refine⟨⟨ys++ys₁,by rw[ey,ey₁,Qs]⟩,fun S h gs d os R=>?_⟩
   obtain⟨h₁,a1,a2,a3,a4,a5⟩:=K₁ (fun x hx=>S x (by rw[ey];exact Qr _ hx)) h gs d os R
   obtain⟨h',b1,b2,b3,b4,b5⟩:=K S h₁ gs d os a2
   exact⟨h',.call a1 b1,b2,a3.trans a5 b3,b4.trans a4,Zu a5 b5⟩
 |claim a x take timed u ls _ kih=>
  rename_i k _
  intro Γ p T c tk A H l hL e
  have e':(d8 (k true) true ih st Γ p T c tk (.eq a x::A) H).leaf=some l:=e
  obtain⟨xs,ex⟩:=nw st ih him (k true) true Γ p T c tk _ H l e'
  refine⟨⟨xs++[.eq a x],by rw[ex,Qs];rfl⟩,fun S=>?_⟩
  have:a=x:=S (.eq a x) (by rw[ex];simp)
  exact(kih this Γ p T c tk _ H l hL e').2 S
 |cond a c take timed ls _ kih=>
  rename_i k _
  intro Γ p T c' tk A H l hL e
  cases c with
  |true=>exact kih true rfl Γ p T c' tk A H l hL e
  |false=>exact kih false rfl Γ p T c' tk A H l hL e
theorem qV(W:Xo→WT)(O:i7)(hO:iB O)(st:Xe):∀N,ny (te W O st N)
 |0=>fun _ _ _ _ _ _ _ _ _ e=>by cases e
 |N+1=>fun Γ cd p T c tk A H l e=>by
  have e':(@Xu (Nat×Hn) (fun _=>Q) (@Prod.rec Bool (Xj Z3) (fun _=>Q) (fun mk t=>d8 t mk (te W O st N) st Γ p T c tk A H) (W cd))
   (fun x=>O x.1 (gT st) Γ cd T c tk A x.2) (vf H cd c tk)).leaf=some l:=e
  cases h:vf H cd c tk with
  |none=>rw[h]at e';exact nw st _ (qV W O hO st N) (W cd).2 (W cd).1 Γ p T c tk A _ l e'
  |some x=>rw[h]at e';exact hO x.1 (gT st) Γ cd T c tk A x.2 l e'
theorem oX(M:Model)(st:Xe)(W:Xo→WT)(hW:tL M W)(O:i7)(hO:iB O)(L:Nat)(hOk:kX M (gT st) L O):∀N,xK M (gT st) (N+L) (te W O st N)
 |0=>fun _ _ _ _ _ _ _ _ _ _ _ e=>by cases e
 |N+1=>fun Γ cd p T c tk A H l hΓ hL e=>by
  have e':(@Xu (Nat×Hn) (fun _=>Q) (@Prod.rec Bool (Xj Z3) (fun _=>Q) (fun mk t=>d8 t mk (te W O st N) st Γ p T c tk A H) (W cd))
   (fun x=>O x.1 (gT st) Γ cd T c tk A x.2) (vf H cd c tk)).leaf=some l:=e
  cases h:vf H cd c tk with
  |none=>rw[h]at e';exact p6 M st _ (qV W O hO st N) (N+L) (oX M st W hW O hO L hOk N) (hW cd) Γ p T c tk A _ l (by rwa [Nat.add_right_comm]at hL) e'
  |some x=>rw[h]at e';exact hOk x.1 Γ cd p T c tk A x.2 l hΓ (by unfold LimU at hL ⊢;omega) e'
def kg(l:List Call):Nat→Hn:=@List.rec Call (fun _=>Nat→Hn) (fun _=>.nil) (fun k _ ih i=>.ld k.c (.ld k.tk (.ld (G9 k.cd) (.orc i (ih (Zd i 1)))))) l
theorem Ai(l:List (Nat×Obj)):eD (fun i=>i) l=l:=by simp[eD]
theorem wU{p:Xf}{w:Z8}{st st₂:Xe}(hst:(⟨p,w.params⟩:Xe)=st∨(⟨p,w.params⟩:Xe)=st₂){Γ:Ctx}{t:Xj Z3}{P:Pos}{q:Q}{pre:List (Nat×Obj)}{n tk:Nat}{r:Xc}{n' tk':Nat}{post:List (Nat×Obj)}
  (hpre:(pre.map (·.1)).Nodup) (snd:∀l,q.leaf=some l→SOut (model p w) (gT st) Γ t P (putL pre .nil) n tk [] l) (e:ff q post st₂=fa q r n' tk' post [] st) (h:Xh) (gs:Array GenState) (d:Drawn) (os:OsState)
  (hn:h.objs.size=n) (hp:∀x∈pre,h.get? x.1=some x.2):
  ∃h',Xg (model p w) Γ P t [] ⟨h,gs,d,tk,os⟩ (.ret r) ⟨h',gs,d,tk',os⟩∧h'.objs.size=n'∧n≤n'∧h'.life=h.life∧(∀x∈post,(x.1∈pre.map (·.1)∨n≤x.1)∧h'.get? x.1=some x.2)∧
   ∀b,b<n→b∉pre.map (·.1)→∀o,h.get? b=some o→h'.get? b=some o:=by
 cases q with
 |fork|no=>simp[ff,fa,Q.isOk]at e
 |ok r₁ T' c₁ tk₁ A₁ H₁=>
  simp only[ff,fa,Q.isOk,Q.val,Q.cnt,Q.tks,Q.tree,Q.claims,Prod.mk.injEq,true_and]at e
  obtain⟨rfl,rfl,rfl,e1,e2,e3,e4⟩:=e
  have get0:∀k o,(putL pre .nil).getK (k+1)=some o→(k,o)∈pre:=fun k o hk=>by
   rcases putL_get pre .nil hpre k o hk with z|⟨_,z⟩
   ·exact z
   ·cases z
  have R:Rep (gT st) h (putL pre .nil) n:=⟨hn,Nat.zero_le _,(fun a o hs=>nomatch hs),(fun a o hs=>nomatch hs),fun k o hk=>⟨Nat.zero_le _,hp (k,o) (get0 k o hk)⟩,fun i j o o' _ _ hr=>hr,(fun x hx=>nomatch hx)⟩
  obtain⟨_,K⟩:=snd _ rfl
  obtain⟨h',a1,R',a3,a4,a5⟩:=K (tN e3 (by intro x hx;rw[e2]at hx;cases hx) e4 hst) h gs d os R
  have tget:∀x∈post,T'.getK (x.1+1)=some x.2:=fun x hx=>List.map_inj_left.mp e1 x hx
  have free:∀b,b∉pre.map (·.1)→w0 (gT st) (putL pre .nil) b:=fun b hb k o hk ee=>hb (by
   have:=get0 k o hk
   have ee':k=b:=ee
   exact ee'▸Qq.mpr ⟨_,this,rfl⟩)
  refine⟨h',a1,R'.size,by have q:h'.objs.size=c₁:=R'.size;rw[←q,←hn];exact a5,a4,fun x hx=>⟨?_,(R'.at_ _ _ (tget x hx)).2⟩,fun b hb hnb o ho=>(a3 b (hn.symm▸hb) (free b hnb)).2 o ho⟩
  by_cases q:x.1∈pre.map (·.1)
  ·exact .inl q
  ·right
   refine Z0 fun z=>?_
   exact(a3 x.1 (hn.symm▸z) (free _ q)).1 _ _ (tget x hx) rfl
theorem bm{p:Xf}{w:Z8}{st st₂:Xe}(hst:(⟨p,w.params⟩:Xe)=st∨(⟨p,w.params⟩:Xe)=st₂){calls:List Call}{L N:Nat}{k:Call}{H:Hn}(hcalls:∀x∈calls,bE (model p w) (gT st) L x)(hok:k.okB=true)
  (hq:∀bl P,ff (te WS (mX calls) st N ⟨k.cd,none,none,bl,none⟩ k.cd P (putL k.pre .nil) k.c k.tk [] H) k.post st₂=fa (te WS (mX calls) st N ⟨k.cd,none,none,bl,none⟩ k.cd P (putL k.pre .nil) k.c k.tk [] H) k.r k.c' k.tk' k.post [] st):
  bE (model p w) (gT st) (N+L) k:=by
 refine⟨hok,?_⟩
 simp only[Call.okB,Xs,decide_eq_true_eq]at hok
 obtain⟨⟨hpre,hpost⟩,_⟩:=hok
 show TriC (model p w) .nil 0 _ k.cd [] (eD (fun i=>i) k.pre) k.c k.tk k.r [] (eD (fun i=>i) k.post) k.c' k.tk'
 rw[Ai,Ai]
 intro nd lo big Γ P h gs d os hΓ hL hn hs hp hgh
 have hG:Γ=⟨k.cd,none,none,Γ.below,none⟩:=by
  obtain⟨⟨h1,h2,h3⟩,_⟩:=hL
  obtain⟨a1,a2,a3,a4,a5⟩:=Γ
  simp only at hΓ h1 h2 h3
  rw[hΓ,h1,h2,h3]
 have e:=hq Γ.below P
 rw[←hG]at e
 obtain⟨h',a1,a2,a3,a4,a5,a6⟩:=wU hst hpre (fun l hl=>oX (model p w) st WS (r9 p w) (mX calls) (mY calls) L (wu hcalls) N Γ k.cd P (putL k.pre .nil) k.c k.tk [] H l hΓ hL.u hl) e h gs d os hn hp
 exact⟨h',a1,a2,a3,a4,hpost,a5,a6,fun x hx=>nomatch hx⟩
theorem zA{p:Xf}{w:Z8}{st st₂:Xe}(hst:(⟨p,w.params⟩:Xe)=st∨(⟨p,w.params⟩:Xe)=st₂){calls:List Call}{L N:Nat}(hcalls:∀x∈calls,bE (model p w) (gT st) L x){Γ:Ctx}(hL:Lim Γ (N+L+1)){t:Xj Z3}{P:Pos}
  {pre:List (Nat×Obj)} {n tk:Nat} {H:Hn} {r:Xc} {n' tk':Nat} {post:List (Nat×Obj)} (hpre:(pre.map (·.1)).Nodup)
  (hq:ff (d8 t false (te WS (mX calls) st N) st Γ P (putL pre .nil) n tk [] H) post st₂=fa (d8 t false (te WS (mX calls) st N) st Γ P (putL pre .nil) n tk [] H) r n' tk' post [] st) (h:Xh) (gs:Array GenState) (d:Drawn) (os:OsState)
  (hn:h.objs.size=n) (hp:∀x∈pre,h.get? x.1=some x.2):
  ∃h',Xg (model p w) Γ P t [] ⟨h,gs,d,tk,os⟩ (.ret r) ⟨h',gs,d,tk',os⟩∧h'.objs.size=n'∧n≤n'∧h'.life=h.life∧(∀x∈post,(x.1∈pre.map (·.1)∨n≤x.1)∧h'.get? x.1=some x.2)∧
   ∀b,b<n→b∉pre.map (·.1)→∀o,h.get? b=some o→h'.get? b=some o:=
 wU hst hpre (fun l hl=>p6 (model p w) st _ (qV WS _ (mY calls) st N) (N+L) (oX (model p w) st WS (r9 p w) (mX calls) (mY calls) L (wu hcalls) N) (Sim.refl t) Γ P (putL pre .nil) n tk [] H l hL.u hl) hq h gs d os hn hp
end
section
open PySem PySem.W PyProof.Rows
section
variable(P:Z5)
noncomputable def lZ(b:List Stmt)(i:Nat):Expr:=match b[i]? with
 |some (.Assign _ e _)=>e
 |_=>default
noncomputable def jN(b:List Stmt)(i:Nat):List Stmt:=match b[i]? with
 |some (.ClassDef _ _ _ body _ _ _ _ _ _ _)=>body
 |_=>[]
noncomputable def qw(e:Expr)(it acc loc:Nat)(q:Str)(code frame:Nat):Xo:=match e with
 |.DictComp _ _ _ sc _=>.compLoop e 0 (.ref it) (.ref acc) ⟨sc,loc,3,[],q,none,.ref code,some frame,0⟩
 |_=>.builtin "" {}
noncomputable def qx(e:Expr)(it acc loc:Nat)(q:Str)(code frame:Nat):Xo:=match e with
 |.DictComp _ _ _ sc _=>.compStart e 0 (.ref it) (.ref acc) ⟨sc,loc,3,[],q,none,.ref code,some frame,0⟩
 |_=>.builtin "" {}
def cq(t:Nat)(a:Str)(ta:Nat)(b:Str)(tb:Nat)(c:Int)(tc:Nat)(d:Int)(td:Nat)(e:Int)(te:Nat):Obj:=
 dO [kS P bW t (.str a ta),kS P dv (t+2) (.str b tb),kS P f6 (t+4) (.int c tc),kS P f7 (t+6) (.int d td),kS P f8 (t+8) (.int e te)] 5
def RU:Obj:=dO [kS P J0 165 (.str gy 321),kS P J2 166 .none,kS P J3 167 .none,kS P J4 168 (.builtin "__main__.__loader__#opaque"),kS P J5 169 .none,kS P CU 170 (.ref 6),kS P CV 171 (.ref 4),kS P CW 173 (.str ew 172),kS P CX 174 .none,kS P Mk 193 (.ref 21),kS P qf 223 (.ref 39),kS P Ml 239 (.ref 52),kS P Mm 264 (.ref 71),kS P qg 320 (.ref 91),kS P Mn 431 (.ref 94),kS P Mo 433 (.int 3 432),kS P Mp 435 (.int 15 434),kS P Mq 437 (.int 19 436),kS P Mr 439 (.int 23 438),kS P Ms 441 (.int 35 440),kS P Mt 443 (.int 51 442),kS P Mu 445 (.int 55 444),kS P Mv 447 (.int 99 446),kS P Mw 449 (.int 103 448),kS P Mx 451 (.int 111 450),kS P My 453 (.int 115 452),kS P qh 504 (.ref 121),kS P qi 550 (.ref 150),kS P qj 564 (.ref 162),kS P qk 573 (.ref 169)] 30
def CJ(P:Z5):Obj:=tO [.int 0 517,.int 0 518]
def CK(P:Z5):Obj:=cO [.str dn 519,.str ND 520,.str ew 521,.int 64 0,.int 6 0,.int 0 0,.int 0 0,.int 3 0,.ref 134,.bool true,.int 181 0,.ref 135,.none,.ref 136,.ref 137,.ref 138,.int 528 0,.int 64 0,.str ew 529]
def CL(P:Z5):Obj:=fO dn ND (bK aF 20 0) (.ref 133) (.str gy 321) (.ref 139)
def CM(P:Z5):Obj:=tO [.int 0 551]
def CN(P:Z5):Obj:=cO [.str qj 552,.str qj 553,.str ew 554,.int 73 0,.int 4 0,.int 0 0,.int 0 0,.int 3 0,.ref 156,.bool true,.int 181 0,.ref 157,.none,.ref 158,.ref 159,.ref 160,.int 562 0,.int 73 0,.str ew 563]
def CO(P:Z5):Obj:=fO qj qj (cK aF 21) (.ref 155) (.str gy 321) (.ref 161)
def CP(P:Z5):Obj:=cO [.str qk 565,.str qk 566,.str ew 567,.int 79 0,.int 0 0,.int 0 0,.int 0 0,.int 3 0,.ref 163,.bool true,.int 181 0,.ref 164,.none,.ref 165,.ref 166,.ref 167,.int 571 0,.int 79 0,.str ew 572]
def CQ(P:Z5):Obj:=fO qk qk (cK aF 22) .none (.str gy 321) (.ref 168)
def Q0:Obj:=cq P 595 qm 586 xr 587 55 444 0 517 0 518
def Q1(P:Z5):Obj:=iO 150 178
def Q2:Obj:=cq P 613 qn 604 xr 605 23 438 0 517 0 518
def Q3(P:Z5):Obj:=iO 150 181
def Q4:Obj:=cq P 631 qo 622 Dm 623 111 450 0 517 0 518
def Q5(P:Z5):Obj:=iO 150 184
def Q6:Obj:=cq P 649 qp 640 gz 641 103 448 0 517 0 518
def Q7(P:Z5):Obj:=iO 150 187
def Q8(P:Z5):Obj:=lO [.ref 179,.ref 182,.ref 185,.ref 188,.ref 201,.ref 208,.ref 223,.ref 230,.ref 237,.ref 244,.ref 258,.ref 265,.ref 272,.ref 283,.ref 290,.ref 304,.ref 311,.ref 318,.ref 332,.ref 343,.ref 350,.ref 357,.ref 368,.ref 375,.ref 393,.ref 412,.ref 446,.ref 460,.ref 467,.ref 474,.ref 481,.ref 488,.ref 495,.ref 502,.ref 509,.ref 523,.ref 546,.ref 560,.ref 567,.ref 574,.ref 581,.ref 588,.ref 595,.ref 602,.ref 609,.ref 623,.ref 630,.ref 648,.ref 655,.ref 662,.ref 696,.ref 703,.ref 710,.ref 715,.ref 728,.ref 734,.ref 740,.ref 746,.ref 752] 18
def Q9:Obj:=cq P 686 C0 667 mn 660 99 446 0 675 0 551
def Rb(P:Z5):Obj:=iO 150 200
def Rc:Obj:=cq P 706 C1 668 mn 660 99 446 1 695 0 551
def Rd(P:Z5):Obj:=iO 150 207
def Re:Obj:=cq P 734 C2 671 mn 660 99 446 4 723 0 551
def Rf(P:Z5):Obj:=iO 150 222
def Rg:Obj:=cq P 754 C3 672 mn 660 99 446 5 743 0 551
def Rh(P:Z5):Obj:=iO 150 229
def Ri:Obj:=cq P 774 C4 673 mn 660 99 446 6 763 0 551
def Rj(P:Z5):Obj:=iO 150 236
def Rk:Obj:=cq P 794 C5 674 mn 660 99 446 7 783 0 551
def Rl(P:Z5):Obj:=iO 150 243
def Rm:Obj:=cq P 828 C6 811 gz 804 3 432 0 817 0 551
def Rn(P:Z5):Obj:=iO 150 257
def Ro:Obj:=cq P 848 C7 812 gz 804 3 432 1 837 0 551
def Rp(P:Z5):Obj:=iO 150 264
def Rq:Obj:=cq P 868 C8 813 gz 804 3 432 2 857 0 551
def Rr(P:Z5):Obj:=iO 150 271
def Rt:Obj:=cq P 892 C9 815 gz 804 3 432 4 881 0 551
def Ru(P:Z5):Obj:=iO 150 282
def Rv:Obj:=cq P 912 Da 816 gz 804 3 432 5 901 0 551
def Rw(P:Z5):Obj:=iO 150 289
def Rx:Obj:=cq P 943 Db 929 tq 922 35 440 0 932 0 551
def Ry(P:Z5):Obj:=iO 150 303
def Rz:Obj:=cq P 963 Dc 930 tq 922 35 440 1 952 0 551
def RE(P:Z5):Obj:=iO 150 310
def RF:Obj:=cq P 983 Dd 931 tq 922 35 440 2 972 0 551
def RG(P:Z5):Obj:=iO 150 317
def RH:Obj:=cq P 1043 De 1002 gz 993 19 436 2 1032 0 551
def RI(P:Z5):Obj:=iO 150 342
def RJ:Obj:=cq P 1063 Df 1003 gz 993 19 436 3 1052 0 551
def RK(P:Z5):Obj:=iO 150 349
def RL:Obj:=cq P 1083 Dg 1004 gz 993 19 436 4 1072 0 551
def RM(P:Z5):Obj:=iO 150 356
def RN:Obj:=cq P 1107 Dh 1006 gz 993 19 436 6 1096 0 551
def RO(P:Z5):Obj:=iO 150 367
def RP:Obj:=cq P 1127 Di 1007 gz 993 19 436 7 1116 0 551
def RQ(P:Z5):Obj:=iO 150 374
def RS:Obj:=cq P 1165 Dj 1145 ts 1137 19 436 1 1154 0 551
def RT(P:Z5):Obj:=iO 150 392
def RV:Obj:=cq P 1197 Dk 1149 ts 1137 19 436 5 1186 0 551
def RW(P:Z5):Obj:=iO 150 411
def RY:Obj:=cq P 1252 Dl 1220 ts 1207 19 436 5 1241 32 1208
def RZ(P:Z5):Obj:=iO 150 445
def R4:Obj:=cq P 1308 xi 1270 eA 1262 51 442 1 1297 0 551
def R5(P:Z5):Obj:=iO 150 466
def R6:Obj:=cq P 1328 xj 1271 eA 1262 51 442 2 1317 0 551
def R7(P:Z5):Obj:=iO 150 473
def R8:Obj:=cq P 1348 xk 1272 eA 1262 51 442 3 1337 0 551
def R9(P:Z5):Obj:=iO 150 480
def Sa:Obj:=cq P 1368 xl 1273 eA 1262 51 442 4 1357 0 551
def Sb(P:Z5):Obj:=iO 150 487
def Sc:Obj:=cq P 1388 xm 1274 eA 1262 51 442 5 1377 0 551
def Sd(P:Z5):Obj:=iO 150 494
def Se:Obj:=cq P 1408 xn 1275 eA 1262 51 442 6 1397 0 551
def Sf(P:Z5):Obj:=iO 150 501
def Sg:Obj:=cq P 1428 xp 1276 eA 1262 51 442 7 1417 0 551
def Sh(P:Z5):Obj:=iO 150 508
def Si:Obj:=cq P 1463 w1 1446 eA 1438 51 442 0 1452 32 1439
def Sj(P:Z5):Obj:=iO 150 522
def Sk:Obj:=cq P 1499 xq 1451 eA 1438 51 442 5 1488 32 1439
def Sl(P:Z5):Obj:=iO 150 545
def Sm:Obj:=cq P 1536 w2 1517 eA 1509 51 442 0 1525 1 1510
def Sn(P:Z5):Obj:=iO 150 559
def Sq:Obj:=cq P 1556 w3 1518 eA 1509 51 442 1 1545 1 1510
def Sr(P:Z5):Obj:=iO 150 566
def Ss:Obj:=cq P 1576 w4 1519 eA 1509 51 442 2 1565 1 1510
def Su(P:Z5):Obj:=iO 150 573
def Sv:Obj:=cq P 1596 w5 1520 eA 1509 51 442 3 1585 1 1510
def Sw(P:Z5):Obj:=iO 150 580
def Sy:Obj:=cq P 1616 w8 1521 eA 1509 51 442 4 1605 1 1510
def Sz(P:Z5):Obj:=iO 150 587
def SE:Obj:=cq P 1636 w6 1522 eA 1509 51 442 5 1625 1 1510
def SF(P:Z5):Obj:=iO 150 594
def SH:Obj:=cq P 1656 w9 1523 eA 1509 51 442 6 1645 1 1510
def SI(P:Z5):Obj:=iO 150 601
def SJ:Obj:=cq P 1676 w7 1524 eA 1509 51 442 7 1665 1 1510
def SK(P:Z5):Obj:=iO 150 608
def SL:Obj:=cq P 1950 qq 1927 ql 1939 115 1942 0 517 0 518
def SM(P:Z5):Obj:=iO 150 727
def SN:Obj:=cq P 1972 qr 1929 ql 1961 1048691 1964 0 517 0 518
def SO(P:Z5):Obj:=iO 150 733
noncomputable def SP(P:Z5):Obj:=⟨.type "list_iterator",none,.fields ⟨[.ref 190,.int 0 0]⟩,⟨[]⟩⟩
def SS(P:Z5):Obj:=dO [] 0
noncomputable def SQ(P:Z5):Obj:=⟨.type "list_iterator",none,.fields ⟨[.none,.int 59 0]⟩,⟨[]⟩⟩
def SU:Obj:=dO [kS P tB 2048 (.ref 752)] 1
def SZ:Obj:=dO [kS P tB 2226 (.ref 752)] 1
def S4:Obj:=dO [kS P tB 2469 (.ref 752)] 1
def Tb:Obj:=dO [kS P tB 3261 (.ref 752)] 1
def L3:Obj:=dO [kS P tB 3799 (.ref 752)] 1
def JR:Obj:=dO [kS P MI 323 (.int 256 324),kS P MJ 326 (.int 260 327),kS P MK 329 (.int 261 330),kS P ML 332 (.int 262 333),kS P MN 335 (.int 320 336),kS P MO 338 (.int 321 339),kS P MP 341 (.int 322 342),kS P MQ 344 (.int 323 345),kS P MR 347 (.int 324 348),kS P tu 350 (.int 384 351),kS P MS 353 (.int 768 354),kS P MT 356 (.int 769 357),kS P MU 359 (.int 770 360),kS P MV 362 (.int 771 363),kS P MW 365 (.int 772 366),kS P MX 368 (.int 773 369),kS P MY 371 (.int 774 372),kS P MZ 374 (.int 832 375),kS P M0 377 (.int 833 378),kS P M1 380 (.int 834 381),kS P M2 383 (.int 835 384),kS P M3 386 (.int 836 387),kS P M4 389 (.int 2816 390),kS P M5 392 (.int 2818 393),kS P M8 395 (.int 2944 396),kS P M9 398 (.int 2946 399),kS P Na 401 (.int 3072 402),kS P tz 404 (.int 3073 405),kS P Nb 407 (.int 3074 408),kS P Nc 410 (.int 3200 411),kS P Nd 413 (.int 3201 414),kS P Ne 416 (.int 3202 417),kS P Nf 419 (.int 3857 420),kS P Ng 422 (.int 3858 423),kS P Nh 425 (.int 3859 426),kS P xx 427 (.int 3860 428)] 36
noncomputable def L4(P:Z5):Obj:=⟨.type "dict_itemiterator",none,.fields ⟨[.none,.bool false,.ref 94,.int 0 0,.int 36 0,.int 36 0,.none,.none]⟩,⟨[]⟩⟩
def L5(P:Z5):Obj:=⟨.type "dict_itemiterator",none,.fields ⟨[.none,.bool false,.none,.int 36 0,.int 36 0,.int 36 0,.str xx 427,.int 3860 428]⟩,⟨[]⟩⟩
def L8:Obj:=dO [kS P bW 4434 (.str xx 427),kS P tC 4435 (.int 3860 428)] 2
def jo:List (Nat×Obj):=[(178,Q0 P),(179,Q1 P),(181,Q2 P),(182,Q3 P),(184,Q4 P),(185,Q5 P),(187,Q6 P),(188,Q7 P),(190,Q8 P),(200,Q9 P),(201,Rb P),(207,Rc P),(208,Rd P),(222,Re P),(223,Rf P),(229,Rg P),(230,Rh P),(236,Ri P),(237,Rj P),(243,Rk P),(244,Rl P),(257,Rm P),(258,Rn P),(264,Ro P),(265,Rp P),(271,Rq P),(272,Rr P),(282,Rt P),(283,Ru P),(289,Rv P),(290,Rw P),(303,Rx P),(304,Ry P),(310,Rz P),(311,RE P),(317,RF P),(318,RG P),(331,EK P),(332,EL P),(342,RH P),(343,RI P),(349,RJ P),(350,RK P),(356,RL P),(357,RM P),(367,RN P),(368,RO P),(374,RP P),(375,RQ P),(392,RS P),(393,RT P),(411,RV P),(412,RW P),(445,RY P),(446,RZ P),(459,EM P),(460,EN P),(466,R4 P),(467,R5 P),(473,R6 P),(474,R7 P),(480,R8 P),(481,R9 P),(487,Sa P),(488,Sb P),(494,Sc P),(495,Sd P),(501,Se P),(502,Sf P),(508,Sg P),(509,Sh P),(522,Si P),(523,Sj P),(545,Sk P),(546,Sl P),(559,Sm P),(560,Sn P),(566,Sq P),(567,Sr P),(573,Ss P),(574,Su P),(580,Sv P),(581,Sw P),(587,Sy P),(588,Sz P),(594,SE P),(595,SF P),(601,SH P),(602,SI P),(608,SJ P),(609,SK P),(622,EO P),(623,EP P),(629,EQ P),(630,ER P),(647,ES P),(648,ET P),(654,EU P),(655,EV P),(661,EW P),(662,EX P),(695,EY P),(696,EZ P),(702,E0 P),(703,E1 P),(709,E2 P),(710,E3 P),(714,E4 P),(715,E5 P),(727,SL P),(728,SM P),(733,SN P),(734,SO P),(739,E6 P),(740,E7 P),(745,Fa P),(746,Fb P),(751,Fc P),(752,Fd P)]
def UX:Call:=⟨.call (.ref 169) ⟨[],[]⟩,177,586,[(0,o0 P),(2,o2 P),(3,RU P),(133,CJ P),(139,CK P),(140,CL P),(149,gP P),(150,gQ P),(155,CM P),(161,CN P),(162,CO P),(168,CP P),(169,CQ P)],.ok (.ret (.ref 190)),756,2047,jo P++[(0,o0 P),(2,o2 P),(3,RU P),(133,CJ P),(139,CK P),(140,CL P),(149,gP P),(150,gQ P),(155,CM P),(161,CN P),(162,CO P),(168,CP P),(169,CQ P)]⟩
def wg:Call:=⟨qw (lZ (jN aF 23) 1) 756 757 758 jL 175 176,759,2048,jo P++[(149,gP P),(150,gQ P),(756,SP P),(757,SS P),(758,SS P)],.ok .next,761,2225,jo P++[(149,gP P),(150,gQ P),(756,SQ P),(757,Fe P),(758,SU P)]⟩
def wh:Call:=⟨qw (lZ (jN aF 23) 2) 761 762 763 jL 175 176,764,2226,jo P++[(149,gP P),(150,gQ P),(761,SP P),(762,SS P),(763,SS P)],.ok .next,825,2468,jo P++[(149,gP P),(150,gQ P),(761,SQ P),(762,Ff P),(763,SZ P)]⟩
def wi:Call:=⟨qw (lZ (jN aF 23) 3) 825 826 827 jL 175 176,828,2469,jo P++[(2,o2 P),(146,qI P),(147,qJ P),(149,gP P),(150,gQ P),(825,SP P),(826,SS P),(827,SS P)],.ok .next,918,3260,jo P++[(2,o2 P),(146,qI P),(147,qJ P),(149,gP P),(150,gQ P),(825,SQ P),(826,Fg P),(827,S4 P)]⟩
def wj:Call:=⟨qw (lZ (jN aF 23) 4) 918 919 920 jL 175 176,921,3261,jo P++[(2,o2 P),(146,qI P),(147,qJ P),(149,gP P),(150,gQ P),(918,SP P),(919,SS P),(920,SS P)],.ok .next,1004,3798,jo P++[(2,o2 P),(146,qI P),(147,qJ P),(149,gP P),(150,gQ P),(918,SQ P),(919,Fh P),(920,Tb P)]⟩
def wk:Call:=⟨qw (lZ (jN aF 23) 5) 1004 1005 1006 jL 175 176,1007,3799,jo P++[(149,gP P),(150,gQ P),(1004,SP P),(1005,SS P),(1006,SS P)],.ok .next,1009,3986,jo P++[(149,gP P),(150,gQ P),(1004,SQ P),(1005,y7 P),(1006,L3 P)]⟩
def wl:Call:=⟨qw (lZ aF 85) 1215 1216 1217 CY 13 14,1218,4434,[(94,JR P),(1215,L4 P),(1216,SS P),(1217,SS P)],.ok .next,1364,4542,[(94,JR P),(1215,L5 P),(1216,nX P),(1217,L8 P)]⟩
theorem ck0(w:Z8)(b c:Bool):bE (MM w b c) (gT (SG w true c)) (80+10) (UX (PP w b c)):=
 bm (calls:=[]) (H:=.nil) (cL w b c) nMm (by kernel_rfl) (fun bl p=>by kernel_rfl)
theorem UD(w:Z8)(b c:Bool):bE (MM w b c) (gT (SG w true c)) (80+10) (wg (PP w b c)):=
 bm (calls:=[]) (H:=.nil) (cL w b c) nMm (by kernel_rfl) (fun bl p=>by kernel_rfl)
theorem UE(w:Z8)(b c:Bool):bE (MM w b c) (gT (SG w true c)) (80+10) (wh (PP w b c)):=
 bm (calls:=[]) (H:=.nil) (cL w b c) nMm (by kernel_rfl) (fun bl p=>by kernel_rfl)
theorem UF(w:Z8)(b c:Bool):bE (MM w b c) (gT (SG w true c)) (80+10) (wi (PP w b c)):=
 bm (calls:=[]) (H:=.nil) (cL w b c) nMm (by kernel_rfl) (fun bl p=>by kernel_rfl)
theorem UG(w:Z8)(b c:Bool):bE (MM w b c) (gT (SG w true c)) (80+10) (wj (PP w b c)):=
 bm (calls:=[]) (H:=.nil) (cL w b c) nMm (by kernel_rfl) (fun bl p=>by kernel_rfl)
theorem UH(w:Z8)(b c:Bool):bE (MM w b c) (gT (SG w true c)) (80+10) (wk (PP w b c)):=
 bm (calls:=[]) (H:=.nil) (cL w b c) nMm (by kernel_rfl) (fun bl p=>by kernel_rfl)
theorem UI(w:Z8)(b c:Bool):bE (MM w b c) (gT (SG w true c)) (80+10) (wl (PP w b c)):=
 bm (calls:=[]) (H:=.nil) (cL w b c) nMm (by kernel_rfl) (fun bl p=>by kernel_rfl)
def UR:Call:={wg P with cd:=qx (lZ (jN aF 23) 1) 756 757 758 jL 175 176}
theorem cs1(w:Z8)(b c:Bool):bE (MM w b c) (gT (SG w true c)) (5+90) (UR (PP w b c)):=by
 cases c
 ·exact bm (calls:=[wg (PP w b false)]) (H:=kg [wg (PP w b false)] 0) (cL w b false) (ab (UD w b false) aa) (by kernel_rfl) (fun bl p=>by kernel_rfl)
 ·exact bm (calls:=[wg (PP w b true)]) (H:=kg [wg (PP w b true)] 0) (cL w b true) (ab (UD w b true) aa) (by kernel_rfl) (fun bl p=>by kernel_rfl)
def US:Call:={wh P with cd:=qx (lZ (jN aF 23) 2) 761 762 763 jL 175 176}
theorem cs2(w:Z8)(b c:Bool):bE (MM w b c) (gT (SG w true c)) (5+90) (US (PP w b c)):=by
 cases c
 ·exact bm (calls:=[wh (PP w b false)]) (H:=kg [wh (PP w b false)] 0) (cL w b false) (ab (UE w b false) aa) (by kernel_rfl) (fun bl p=>by kernel_rfl)
 ·exact bm (calls:=[wh (PP w b true)]) (H:=kg [wh (PP w b true)] 0) (cL w b true) (ab (UE w b true) aa) (by kernel_rfl) (fun bl p=>by kernel_rfl)
def UT:Call:={wi P with cd:=qx (lZ (jN aF 23) 3) 825 826 827 jL 175 176}
theorem cs3(w:Z8)(b c:Bool):bE (MM w b c) (gT (SG w true c)) (5+90) (UT (PP w b c)):=by
 cases c
 ·exact bm (calls:=[wi (PP w b false)]) (H:=kg [wi (PP w b false)] 0) (cL w b false) (ab (UF w b false) aa) (by kernel_rfl) (fun bl p=>by kernel_rfl)
 ·exact bm (calls:=[wi (PP w b true)]) (H:=kg [wi (PP w b true)] 0) (cL w b true) (ab (UF w b true) aa) (by kernel_rfl) (fun bl p=>by kernel_rfl)
def UU:Call:={wj P with cd:=qx (lZ (jN aF 23) 4) 918 919 920 jL 175 176}
theorem cs4(w:Z8)(b c:Bool):bE (MM w b c) (gT (SG w true c)) (5+90) (UU (PP w b c)):=by
 cases c
 ·exact bm (calls:=[wj (PP w b false)]) (H:=kg [wj (PP w b false)] 0) (cL w b false) (ab (UG w b false) aa) (by kernel_rfl) (fun bl p=>by kernel_rfl)
 ·exact bm (calls:=[wj (PP w b true)]) (H:=kg [wj (PP w b true)] 0) (cL w b true) (ab (UG w b true) aa) (by kernel_rfl) (fun bl p=>by kernel_rfl)
def UV:Call:={wk P with cd:=qx (lZ (jN aF 23) 5) 1004 1005 1006 jL 175 176}
theorem cs5(w:Z8)(b c:Bool):bE (MM w b c) (gT (SG w true c)) (5+90) (UV (PP w b c)):=by
 cases c
 ·exact bm (calls:=[wk (PP w b false)]) (H:=kg [wk (PP w b false)] 0) (cL w b false) (ab (UH w b false) aa) (by kernel_rfl) (fun bl p=>by kernel_rfl)
 ·exact bm (calls:=[wk (PP w b true)]) (H:=kg [wk (PP w b true)] 0) (cL w b true) (ab (UH w b true) aa) (by kernel_rfl) (fun bl p=>by kernel_rfl)
def UW:Call:={wl P with cd:=qx (lZ aF 85) 1215 1216 1217 CY 13 14}
theorem cs6(w:Z8)(b c:Bool):bE (MM w b c) (gT (SG w true c)) (5+90) (UW (PP w b c)):=by
 cases c
 ·exact bm (calls:=[wl (PP w b false)]) (H:=kg [wl (PP w b false)] 0) (cL w b false) (ab (UI w b false) aa) (by kernel_rfl) (fun bl p=>by kernel_rfl)
 ·exact bm (calls:=[wl (PP w b true)]) (H:=kg [wl (PP w b true)] 0) (cL w b true) (ab (UI w b true) aa) (by kernel_rfl) (fun bl p=>by kernel_rfl)
end
section
variable(P:Z5)
def z1:Obj:=dO [kS P J1 162 (.ref 4),kS P DC 163 (.ref 5)] 2
def z3:Obj:=dO [kS P J0 165 (.str DC 164),kS P J2 166 .none,kS P J3 167 .none,kS P J4 168 (.builtin "__main__.__loader__#opaque"),kS P J5 169 .none,kS P CU 170 (.ref 6),kS P CV 171 (.ref 4),kS P CW 173 (.str ew 172),kS P CX 174 .none] 9
noncomputable def z4(P:Z5):Obj:=⟨.type "module",some 0,.plain,⟨[]⟩⟩
noncomputable def z5(P:Z5):Obj:=⟨.type "module",some 3,.plain,⟨[]⟩⟩
noncomputable def z8(P:Z5):Obj:=⟨.none,none,.fields ⟨[]⟩,⟨[]⟩⟩
def z9(P:Z5):Obj:=cO [.str NE 176,.str NE 177,.str ew 178,.int 1 0,.int 0 0,.int 0 0,.int 0 0,.int 0 0,.ref 7,.bool false,.int 175 0,.ref 8,.none,.none,.none,.none,.int 179 0,.int 1 0,.str ew 180]
def Vf(P:Z5):Obj:=⟨.type "frame",none,.plain,⟨[some (.ref 9),some (.ref 3),some (.ref 3),none,some (.str DC 164),none,some (.ref 0)]⟩⟩
def s0L:List (Nat×Obj):=[(0,o0 P),(1,z1 P),(2,o2 P),(3,z3 P),(4,z4 P),(5,z5 P),(6,SS P),(7,Hr P),(8,z8 P),(9,z9 P),(10,Vf P)]
def stLT:List (Nat×Obj):=[(0,o0 P),(2,o2 P),(3,o3 P),(29,U1 P),(35,U2 P),(36,U3 P),(38,U4 P),(39,U5 P),(81,U6 P),(87,U7 P),(88,U8 P),(90,U9 P),(91,Va P),(104,PG P),(110,PH P),(111,PI P),(120,PJ P),(121,PK P),(146,qI P),(147,qJ P),(149,gP P),(150,gQ P),(331,EK P),(332,EL P),(459,EM P),(460,EN P),(622,EO P),(623,EP P),(629,EQ P),(630,ER P),(647,ES P),(648,ET P),(654,EU P),(655,EV P),(661,EW P),(662,EX P),(695,EY P),(696,EZ P),(702,E0 P),(703,E1 P),(709,E2 P),(710,E3 P),(714,E4 P),(715,E5 P),(739,E6 P),(740,E7 P),(745,Fa P),(746,Fb P),(751,Fc P),(752,Fd P),(757,Fe P),(762,Ff P),(826,Fg P),(919,Fh P),(1005,y7 P),(1010,Hh P),(1011,Hi P),(1016,Hj P),(1017,Hk P),(1018,Hl P),(1024,Hm P),(1025,Ho P),(1026,Hp P),(1027,Hq P),(1028,Hr P),(1029,Hs P),(1030,Ht P),(1036,Hv P),(1037,Hw P),(1043,Hx P),(1044,Hy P),(1050,Hz P),(1051,HA P),(1071,HG P),(1072,HH P),(1092,HJ P),(1093,HN P),(1099,HO P),(1100,HQ P),(1120,Ia P),(1121,Ib P),(1216,nX P),(1369,Ic P),(1370,Id P),(1376,Ie P),(1377,If P),(1383,Ig P),(1384,Ih P),(1390,Ii P),(1391,Ij P),(1399,Ik P),(1405,Il P),(1406,Im P),(1412,In P),(1413,Io P),(1419,Ip P),(1420,Iq P),(1421,Ir P),(1427,Is P),(1428,It P),(1434,Iu P),(1435,Iv P),(1441,Iw P),(1442,Ix P),(1443,Ir P),(1449,Iz P),(1450,IA P),(1456,IB P),(1457,IC P),(1463,ID P),(1464,IF P),(1477,IG P),(1478,IH P),(1519,II P),(1520,IJ P),(1543,IK P),(1544,IL P),(1558,IM P),(1564,IN P),(1565,IO P),(1624,IP P),(1625,IQ P),(1663,IR P),(1664,IT P),(1703,IU P),(1704,IV P),(1710,y8 P),(1781,IW P),(1782,IX P),(1783,IY P),(1784,IZ P),(1790,I0 P),(1791,I3 P),(1797,I4 P),(1798,I5 P),(1806,I6 P),(1812,I7 P),(1813,I8 P),(1819,I9 P),(1820,Ja P),(1834,Jb P),(1835,Jc P),(1869,Jd P),(1870,Je P),(1876,Jf P),(1877,Jg P),(1890,Jh P),(1891,Ji P),(1897,Jj P),(1898,Jk P),(1904,Jl P),(1905,Jm P),(1936,Jn P),(1937,Jo P),(1945,Jp P),(1946,Jq P),(1950,Jr P),(1951,Js P),(1957,Jt P),(1958,Ju P),(1964,Jv P),(1965,Jw P),(1969,y9 P),(1970,sF P)]
def finL:List (Nat×Obj):=[(1,z1 P),(4,z4 P),(5,z5 P),(6,SS P),(7,Hr P),(8,z8 P),(9,z9 P),(10,Vf P)]++stLT P
def cks:List Call:=[UX P,UR P,US P,UT P,UU P,UV P,UW P]
theorem lev{M:Model}{g:Cfg}{k:Call}{a b:Nat}(h:a≤b)(H:bE M g a k):bE M g b k:=⟨H.1,TriC.mono (fun Γ hL=>⟨hL.1,by have:=hL.2;omega⟩) H.2⟩
theorem OD(w:Z8)(b c:Bool):∀k∈cks (PP w b c),bE (MM w b c) (gT (SG w true c)) 95 k:=
 ab (lev (by decide) (ck0 w b c)) (ab (cs1 w b c) (ab (cs2 w b c) (ab (cs3 w b c) (ab (cs4 w b c) (ab (cs5 w b c) (ab (cs6 w b c) aa))))))
noncomputable abbrev caller:Ctx:=⟨.builtin "claim.caller" {},none,none,[],none⟩
def Td(w:Z8)(b c:Bool):Prop:=∀(h:Xh) (gs:Array GenState) (d:Drawn) (os:OsState),h.objs.size=11→(∀x∈s0L (PP w b c),h.get? x.1=some x.2)→
 ∃h',Xg (MM w b c) caller (topStub prog2).pos (topStub prog2).cur [] ⟨h,gs,d,181,os⟩ (.ret (.ok (.ret .none))) ⟨h',gs,d,5571,os⟩∧h'.objs.size=1971∧11≤h'.objs.size∧h'.life=h.life∧
  ∀x∈finL (PP w b c),h'.get? x.1=some x.2
theorem LV(w:Z8)(b c:Bool):Td w b c:=by
 intro h gs d os hn hp
 obtain⟨h',a1,a2,a3,a4,a5,_⟩:=zA (calls:=cks (PP w b c)) (N:=50) (H:=kg (cks (PP w b c)) 0) (t:=(topStub prog2).cur) (P:=(topStub prog2).pos) (pre:=s0L (PP w b c)) (n:=11) (tk:=181) (r:=.ok (.ret .none)) (n':=1971) (tk':=5571) (post:=finL (PP w b c))
  (cL w b c) (OD w b c) (Γ:=caller) ⟨⟨rfl,rfl,rfl⟩,by decide⟩ (nd_of [0,1,2,3,4,5,6,7,8,9,10] rfl (by decide)) (by kernel_rfl) h gs d os hn hp
 exact⟨h',a1,a2,a2▸a3,a4,fun x hx=>(a5 x hx).2⟩
theorem CC(P:Z5):cn P=putL (stLT P) .nil:=by kernel_rfl
theorem F1(P:Z5)(a:Nat)(o:Obj)(h:(cn P).getK (a+1)=some o):(a,o)∈finL P:=by
 rw[CC]at h
 rcases putL_get (stLT P) .nil (nd_of [0,2,3,29,35,36,38,39,81,87,88,90,91,104,110,111,120,121,146,147,149,150,331,332,459,460,622,623,629,630,647,648,654,655,661,662,695,696,702,703,709,710,714,715,739,740,745,746,751,752,757,762,826,919,1005,1010,1011,1016,1017,1018,1024,1025,1026,1027,1028,1029,1030,1036,1037,1043,1044,1050,1051,1071,1072,1092,1093,1099,1100,1120,1121,1216,1369,1370,1376,1377,1383,1384,1390,1391,1399,1405,1406,1412,1413,1419,1420,1421,1427,1428,1434,1435,1441,1442,1443,1449,1450,1456,1457,1463,1464,1477,1478,1519,1520,1543,1544,1558,1564,1565,1624,1625,1663,1664,1703,1704,1710,1781,1782,1783,1784,1790,1791,1797,1798,1806,1812,1813,1819,1820,1834,1835,1869,1870,1876,1877,1890,1891,1897,1898,1904,1905,1936,1937,1945,1946,1950,1951,1957,1958,1964,1965,1969,1970] rfl (by decide +kernel)) a o h with z|⟨_,z⟩
 ·exact Qr _ z
 ·cases z
end
theorem JT(w:Z8):∃b c,W2 w b c=w:=⟨w.params.followText "special-get-raises",w.params.followText "comprehension-iter-twice",by unfold W2;rw[World.withFollow_self,World.withFollow_self]⟩
theorem cz{h:Xh}{l:List Obj}(e:h.objs.toList=l){i:Nat}{o:Obj}(hi:l[i]?=some o)(hf:o.isFreed=false):h.get? i=some o:=by
 have:h.objs[i]?=some o:=by rw[←Array.getElem?_toList,e];exact hi
 unfold Heap.get?;rw[this]
 obtain⟨c,d,data,s⟩:=o
 cases data<;>first|rfl|cases hf
theorem Ui(w:Z8)(b c:Bool):∃s,fencedOpening treeTable prog2 (W2 w b c) 3000=some s∧s.heap.objs.size=11∧(∀x∈s0L (PP w b c),s.heap.get? x.1=some x.2)∧s.toks=181∧s.gens=#[]:=by
 have e:(fencedOpening treeTable prog2 (W2 w b c) 3000).map (fun s=>(s.heap.objs.toList,s.toks,s.gens.toList))=some ((s0L (PP w b c)).map (·.2),181,[]):=by kernel_rfl
 obtain⟨s,hs,e⟩:=Option.map_eq_some_iff.mp e
 simp only[Prod.mk.injEq]at e
 obtain⟨e1,e2,e3⟩:=e
 refine⟨s,hs,?_,?_,e2,Array.toList_inj.mp e3⟩
 ·have:=congrArg List.length e1
  rw[Array.length_toList]at this
  exact this
 ·exact ab (cz e1 rfl rfl) (ab (cz e1 rfl rfl) (ab (cz e1 rfl rfl) (ab (cz e1 rfl rfl) (ab (cz e1 rfl rfl) (ab (cz e1 rfl rfl)
   (ab (cz e1 rfl rfl) (ab (cz e1 rfl rfl) (ab (cz e1 rfl rfl) (ab (cz e1 rfl rfl) (ab (cz e1 rfl rfl) aa))))))))))
theorem l6{p:Xf}{w:Z8}{c:Xo}{t:Xj Z3}{P:Pos}{s s':Xd}{f:Flow}(hz:s.asleep)(hg:s'.gens=#[])(H:Xg (model p w) ⟨c,none,none,[],none⟩ P t [] s (.ret (.ok f)) s'):
  (∃n t',schedN (denote table) p w n (.single s ⟨t,c,P,[]⟩)=.running (.single s' t')∧through t'=true)∧∃n,schedN (denote table) p w n (.single s ⟨t,c,P,[]⟩)=.halted (.done f) s':=by
 obtain⟨n,t',c',p',pre',hn,hx⟩:=(runs_reach H [] (Ctx.fits_of c [])).runN
 obtain⟨h1,h2⟩:t'=leafOf (.ok f)∧pre'=[]:=hx
 subst h1 h2
 have hw:=(wp_iff_halts (M:=model p w) (c:=c) t (fun r x=>r=.ok f∧x=s') P s).mp ((Sem.wp_iff_runs (model p w) ⟨c,none,none,[],none⟩ t (fun r x=>(r=.ok f∧x=s')∧leftWithCleanup x.gens=false) P s).mpr ⟨_,_,H,⟨rfl,rfl⟩,by rw[hg];simp[leftWithCleanup]⟩)
 obtain⟨N,r,s₁,hN,rfl,rfl⟩:=hw
 obtain⟨s'',hr,hf,hc⟩:=runNI_real (denote table) p w (show runNI (denote table) p w N s ⟨t,c,P,[]⟩=.halted (outcomeOf (.ok f)) s₁ from hN) (outcomeOf_ends _)
 have hne:∀k s₂,runN (denote table) p w k s ⟨t,c,P,[]⟩≠.halted (.unsupported "lifetime:generator-with-cleanup-left-suspended") s₂:=by
  intro k s₂ hk
  have a:=runN_mono (denote table) p w N k s ⟨t,c,P,[]⟩ _ s'' hr
  have b:=runN_mono (denote table) p w k N s ⟨t,c,P,[]⟩ _ s₂ hk
  rw[Nat.add_comm,b]at a
  cases a
 have hS:s''=s₁:=Shared.eq_of_forget_eq hf hg
 have key:=schedN_eq_runN (denote table) p w s ⟨t,c,P,[]⟩ hz ⟨hc,hne⟩
 constructor
 ·obtain⟨σ,tau,k1,k2,k3⟩:=runNI_running_real (show runNI (denote table) p w n s ⟨t,c,P,[]⟩=.running s₁ ⟨leafOf (.ok f),c',p',[]⟩ from hn)
  have hσ:σ=s₁:=Shared.eq_of_forget_eq k2 hg
  subst hσ
  refine⟨n,tau,by rw[key,k1];rfl,?_⟩
  obtain⟨cur,code,pos,stack⟩:=tau
  simp only[Thread.forget,Thread.mk.injEq,forgetAll]at k3
  obtain⟨rfl,_,_,k5⟩:=k3
  have:stack=[]:=by cases stack with|nil=>rfl|cons x xs=>cases k5
  subst this;rfl
 ·exact⟨N,by rw[key,hr,hS];rfl⟩
noncomputable def dC:List Nat→Bool
 |[]=>true
 |x::l=>l.all (fun y=>!Ze x y)&&dC l
theorem pN{l:List Nat}(h:dC l=true):l.Nodup:=by
 induction l with
 |nil=>exact List.nodup_nil
 |cons x l ih=>
  obtain⟨h1,h2⟩:=Bool.and_eq_true_iff.mp (show (l.all (fun y=>!Ze x y)&&dC l)=true from h)
  refine List.nodup_cons.mpr ⟨fun hm=>?_,ih h2⟩
  have:=List.all_eq_true.mp h1 x hm
  rw[Nat.beq_refl]at this;cases this
abbrev TX(w:Z8)(b c:Bool)(L:Nat)(cd:Xo)(G:Nat→gHs)(R K:Nat→Nat)(i:Nat)(pre:List (Nat×Obj))(r:Xc)(j:Nat)(post:List (Nat×Obj))(k:Nat):Prop:=
 Tri (MM w b c) (cn (PP w b c)) 1971 L cd (G i) (eD R pre) (R i) (K 0) r (G j) (eD R post) (R j) (K k)
abbrev TY(w:Z8)(b c:Bool)(L:Nat)(bl:List (Xo×Z4))(cd:Xo)(G:Nat→gHs)(R K:Nat→Nat)(i:Nat)(pre:List (Nat×Obj))(r:Xc)(j:Nat)(post:List (Nat×Obj))(k:Nat):Prop:=
 TriAt (MM w b c) (cn (PP w b c)) 1971 L bl cd (G i) (eD R pre) (R i) (K 0) r (G j) (eD R post) (R j) (K k)
abbrev gX(w:Z8)(b c:Bool)(R K:Nat→Nat)(G:Nat→gHs):Cfg:=⟨cn (PP w b c),1971,R,K,G,SG w true c⟩
abbrev sX(W:Xo→WT)(w:Z8)(b c:Bool)(R K:Nat→Nat)(G:Nat→gHs)(calls:List Call)(bls:List (List (Xo×Z4)))(cb lu:List Call)(N:Nat)(bl:List (Xo×Z4))(cd:Xo)(P:Z4)(pre:List (Nat×Obj))(i:Nat)(H:Hn):Q:=
 se W (lH calls bls cb lu) (gX w b c R K G) N ⟨cd,none,none,bl,none⟩ cd P (putL pre .nil) i 0 [] H
theorem lF{w:Z8}{b c:Bool}{G:Nat→gHs}{R K:Nat→Nat}{calls lu:List Call}{L N:Nat}{cd:Xo}{pre:List (Nat×Obj)}{i:Nat}{H:Hn}{r:Xc}{j k:Nat}{post:List (Nat×Obj)}{cs:List (Bool×Bool)}
  (hc:∀k∈calls,bE (MM w b c) (gX w b c R K G) L k) (hu:∀k∈lu,d9 (MM w b c) (gX w b c R K G) (fun Γ=>LimU Γ L) k) (h1:dC (pre.map (·.1))=true) (h2:dC (post.map (·.1))=true)
  (hq:∀bl P,ff (sX WS w b c R K G calls [] [] lu N bl cd P pre i H) post (SG w false c)=fa (sX WS w b c R K G calls [] [] lu N bl cd P pre i H) r j k post cs (SG w true c))
  (hcs:∀x∈cs,x.1=x.2) (hg:∀x∈G j,x.1∈(G i).map (·.1)∨R i≤x.1):TX w b c (N+L) cd G R K i pre r j post k:=
 Tri.of_se r9 (cL w b c) (p5 _) hc hu (pN h1) (pN h2) hq hcs hg
theorem lG{w:Z8}{b c:Bool}{G:Nat→gHs}{R K:Nat→Nat}{calls cb lu:List Call}{bls:List (List (Xo×Z4))}{L N:Nat}{bl:List (Xo×Z4)}{cd:Xo}{pre:List (Nat×Obj)}{i:Nat}{H:Hn}{r:Xc}{j k:Nat}{post:List (Nat×Obj)}{cs:List (Bool×Bool)}
  (hc:∀k∈calls,bE (MM w b c) (gX w b c R K G) L k) (hb:∀x∈cb.zip bls,d9 (MM w b c) (gX w b c R K G) (fun Γ=>Lim Γ L∧Γ.below=x.2) x.1) (hu:∀k∈lu,d9 (MM w b c) (gX w b c R K G) (fun Γ=>LimU Γ L) k)
  (h1:dC (pre.map (·.1))=true) (h2:dC (post.map (·.1))=true)
  (hq:∀P,ff (sX WR w b c R K G calls bls cb lu N bl cd P pre i H) post (SG w false c)=fa (sX WR w b c R K G calls bls cb lu N bl cd P pre i H) r j k post cs (SG w true c))
  (hcs:∀x∈cs,x.1=x.2) (hg:∀x∈G j,x.1∈(G i).map (·.1)∨R i≤x.1):TY w b c (N+L) bl cd G R K i pre r j post k:=
 TriAt.of_se Te (cL w b c) (p5 _) hc hb hu (pN h1) (pN h2) hq hcs hg
def aQ(l:List (Nat×Nat)):Nat→Nat:=bz (fun i=>i) l
abbrev Ra(A:AS)(n:Nat):Nat→Nat:=bz (bx A) [(7,Zd n 1971)]
abbrev Ka(t:Nat):Nat→Nat:=aQ [(0,Zd t 5571)]
abbrev Ga(gh:gHs):Nat→gHs:=FW gh []
noncomputable def rp(n a:Nat)(l:List Nat):List Nat:=@Nat.rec (fun _=>List Nat) l (fun _ r=>a::r) n
def tm(t a b:Nat)(l:List Nat):List Nat:=cond (Ze t 2) (a::0::0::0::a::0::0::0::a::a::0::b::l) (cond (Ze t 3) (a::a::a::a::b::b::b::b::b::a::b::b::b::b::b::b::a::b::b::b::b::b::b::a::b::b::l) (cond (Ze t 4) (a::a::a::a::a::b::a::a::a::a::a::a::b::a::a::a::a::a::a::b::a::a::l) (cond (Ze t 5) (a::0::0::0::a::0::a::0::a::0::0::0::a::0::b::b::b::l) (cond (Ze t 6) (a::0::0::0::a::0::0::0::a::0::0::0::0::a::b::l) (cond (Ze t 7) (0::0::0::a::a::0::a::l) (cond (Ze t 8) (0::0::a::0::0::0::0::a::0::0::a::a::0::0::0::0::a::l) (cond (Ze t 9) (a::a::a::b::a::l) (cond (Ze t 10) (0::0::a::a::a::a::0::0::0::a::0::0::0::b::b::0::b::0::b::0::0::0::b::0::0::0::l) (rp a b l)))))))))
def hm(l:List Nat):Hn:=hl (@List.rec Nat (fun _=>List Nat) [] (fun x _ r=>cond (Nat.blt x 1000000) (x::r) (tm (Nat.div x 1000000) (Nat.mod (Nat.div x 1000) 1000) (Nat.mod x 1000) r)) l)
def cj:List Stmt:=(cK aF 150).2.1
def d7(f c1 c2 c3:Nat):Env:=⟨(cK aF 150).2.2,f,3,[(qs,c1),(kV,c2)],NI,some 1970,.ref 1969,some f,0⟩
noncomputable def dq(b:List Stmt)(i:Nat)(it:Nat)(e:Env):Xo:=match b[i]? with
 |some (.For t _ body orelse _)=>.forLoop t (.ref it) body orelse e
 |_=>.builtin "" {}
def fnE(i:Nat)(q:Str)(fn cd f:Nat):Env:=⟨(cK aF i).2.2,f,3,[],q,some fn,.ref cd,some f,0⟩
def Bq(i:Nat)(q:Str)(fn cd f:Nat):Xo:=.func (cK aF i).2.1 (fnE i q fn cd f)
def meE(i j:Nat)(q:Str)(fn cd f:Nat):Env:=⟨(bK aF i j).2.2,f,3,[],q,some fn,.ref cd,some f,0⟩
def rr(i j:Nat)(q:Str)(fn cd f:Nat):Xo:=.func (bK aF i j).2.1 (meE i j q fn cd f)
noncomputable def aY(es:Array Z7)(n:Nat)(sl:Array (Option Z6)):Obj:=⟨.type "frame",none,.dict es n,sl⟩
noncomputable def bH(cd fn:Nat)(back:Z6):Array (Option Z6):=#[some (.ref cd),some (.ref 3),none,some back,none,some (.ref fn),some (.ref 0)]
noncomputable def ck(c1 c2 c3:Nat):Array (Option Z6):=#[some (.ref 1969),some (.ref 3),none,some .notImplemented,none,some (.ref 1970),some (.ref 0),some (.ref c1),some (.ref c2)]
noncomputable def fF(x:Z6)(f:Nat)(fl:Z6)(pl:Nat→Z6):Obj:=⟨.type "traceback",none,.fields ⟨[x,.ref f,.none,fl,.none,pl 0,pl 1,pl 2,pl 3,pl 4,pl 5]⟩,#[]⟩
noncomputable def UL(xa d tb:Nat):Obj:=⟨.ref 91,some d,.fields ⟨[.ref xa,.ref tb,.none,.none,.bool false,.none]⟩,#[]⟩
noncomputable def O8(xa d tb:Nat)(xh:Z6):Obj:=⟨.ref 91,some d,.fields ⟨[.ref xa,.ref tb,xh,.none,.bool true,.none]⟩,#[]⟩
noncomputable def O9(xa d tb:Nat)(xh:Z6)(xb:Bool):Obj:=⟨.ref 91,some d,.fields ⟨[.ref xa,.ref tb,xh,.none,.bool xb,.none]⟩,#[]⟩
def vX(P:Z5)(k:Nat→Nat)(R:Str)(wd:Int)(tw:Nat):Obj:=dO [kS P tD (k 0) (.str R (k 3)),kS P tF (k 1) (.int 2 281),kS P gA (k 2) (.int wd tw)] 3
def l7(it fl c1 c2 c3:Nat)(q:Nat→Z4):List (Xo×Z4):=[(dq cj 5 it (d7 fl c1 c2 c3),q 4),(.func cj (d7 fl c1 c2 c3),q 5),(.builtin "claim.caller" {},q 6)]
def stT(it ft fl c1 c2 c3:Nat)(q:Nat→Z4):List (Xo×Z4):=(Bq 149 tG 1965 1964 ft,q 3)::l7 it fl c1 c2 c3 q
def QP(it fe ft fl c1 c2 c3:Nat)(q:Nat→Z4):List (Xo×Z4):=(rr 144 9 DL 1877 1876 fe,q 2)::stT it ft fl c1 c2 c3 q
def CB(it fr fe ft fl c1 c2 c3:Nat)(q:Nat→Z4):List (Xo×Z4):=(rr 144 11 DN 1891 1890 fr,q 1)::QP it fe ft fl c1 c2 c3 q
def QO(it fc fr fe ft fl c1 c2 c3:Nat)(q:Nat→Z4):List (Xo×Z4):=(rr 144 12 NJ 1898 1897 fc,q 0)::CB it fr fe ft fl c1 c2 c3 q
noncomputable def fR(q:Q)(i j:Nat):Z6:=match q.tree.getK (Zd i 1) with
 |some o=>match o.data with
  |.fields a=>a.toList.getD (Zd j 5) .none
  |_=>.none
 |none=>.none
def xM(r:Nat→Int×Nat)(m:Nat):Obj:=lO [.int (r 0).1 (r 0).2,.int (r 1).1 (r 1).2,.int (r 2).1 (r 2).2,.int (r 3).1 (r 3).2,.int (r 4).1 (r 4).2,.int (r 5).1 (r 5).2,.int (r 6).1 (r 6).2,.int (r 7).1 (r 7).2,.int (r 8).1 (r 8).2,.int (r 9).1 (r 9).2,.int (r 10).1 (r 10).2,.int (r 11).1 (r 11).2,.int (r 12).1 (r 12).2,.int (r 13).1 (r 13).2,.int (r 14).1 (r 14).2,.int (r 15).1 (r 15).2,.int (r 16).1 (r 16).2,.int (r 17).1 (r 17).2,.int (r 18).1 (r 18).2,.int (r 19).1 (r 19).2,.int (r 20).1 (r 20).2,.int (r 21).1 (r 21).2,.int (r 22).1 (r 22).2,.int (r 23).1 (r 23).2,.int (r 24).1 (r 24).2,.int (r 25).1 (r 25).2,.int (r 26).1 (r 26).2,.int (r 27).1 (r 27).2,.int (r 28).1 (r 28).2,.int (r 29).1 (r 29).2,.int (r 30).1 (r 30).2,.int (r 31).1 (r 31).2] m
end
section
open PySem PySem.W
noncomputable def mixIs:Int⊕Str→Z6→Bool
 |.inl k,v=>Qb k v
 |.inr x,v=>Value.isStrOf x v
theorem lC{k:Int}{v:Z6}(h:mixIs (.inl k) v=true):∃t,v=.int k t:=Value.isInt_shape h
theorem lD{x:Str}{v:Z6}(h:mixIs (.inr x) v=true):∃t,v=.str x t:=Value.isStrOf_shape h
noncomputable def qH(w:Z8):Int⊕Str→Int
 |.inl k=>hashInt k
 |.inr x=>hashStr w x
def gp(prog:Xf)(w:Z8):KeyKind prog w (Int⊕Str) where
 is:=mixIs
 hash:=qH w
 inj:=fun v a b ha hb=>by
  cases a with
  |inl a=>
   obtain⟨t,rfl⟩:=lC ha
   cases b with
   |inl b=>
    obtain⟨u,h⟩:=lC hb
    injection h with h1;rw[h1]
   |inr b=>obtain⟨u,h⟩:=lD hb;cases h
  |inr a=>
   obtain⟨t,rfl⟩:=lD ha
   cases b with
   |inl b=>obtain⟨u,h⟩:=lC hb;cases h
   |inr b=>
    obtain⟨u,h⟩:=lD hb
    injection h with h1;rw[h1]
 byValue:=fun k v h=>by
  cases k with
  |inl k=>obtain⟨t,rfl⟩:=lC h;rfl
  |inr x=>obtain⟨t,rfl⟩:=lD h;rfl
 pyHash:=fun {A E s k v Q} hv h=>by
  cases k with
  |inl k=>obtain⟨t,rfl⟩:=lC hv;exact wpAny_pyHash_int h
  |inr x=>obtain⟨t,rfl⟩:=lD hv;exact wpAny_pyHash_str h
 eqBool:=fun {A E s a b u v Q} hu hv h=>by
  cases a with
  |inl a=>
   obtain⟨t,rfl⟩:=lC hu
   cases b with
   |inl b=>
    obtain⟨t',rfl⟩:=lC hv
    refine wpAny_eqBool_int ?_
    have:(a==b)=decide ((Sum.inl a:Int⊕Str)=Sum.inl b):=by
     by_cases hab:a=b
     ·subst hab;simp
     ·simp[hab]
    rw[this];exact h
   |inr b=>
    obtain⟨t',rfl⟩:=lD hv
    refine SeqAt.EqAt.int_str a t b t' prog w E Q ?_
    rwa [decide_eq_false (by intro q;cases q)]at h
  |inr a=>
   obtain⟨t,rfl⟩:=lD hu
   cases b with
   |inl b=>
    obtain⟨t',rfl⟩:=lC hv
    refine SeqAt.EqAt.str_int a t b t' prog w E Q ?_
    rwa [decide_eq_false (by intro q;cases q)]at h
   |inr b=>
    obtain⟨t',rfl⟩:=lD hv
    refine wpAny_eqBool_str ?_
    have:decide (a=b)=decide ((Sum.inr a:Int⊕Str)=Sum.inr b):=by
     by_cases hab:a=b
     ·subst hab;simp
     ·simp[hab]
    rw[this];exact h
 «strs»:=fun k x t v h=>by
  cases k with
  |inl k=>obtain⟨u,h'⟩:=lC h;cases h'
  |inr y=>
   obtain⟨u,hu⟩:=lD h
   injection hu with hx
   subst hx
   cases v<;>rfl
def gf(w:Z8)(l:List Z7):Prop:=∀e∈l,∃k,mixIs k e.key=true∧e.hash=qH w k
section
variable{prog:Xf}{w:Z8}{A:Around}{E:Z6→Xd→Prop}{s:Xd}{Γ:Ctx}{p:Pos}{d:Z9}{o:Obj}{l:List Z7}{ep:Nat}{k:Int⊕Str}{key v:Z6}
theorem pI(h:gf w l):KeysOf (gp prog w) ⟨l⟩:=fun e he=>h e (by simpa using he)
theorem nx{Q:Option Z6→Xd→Prop}(hkey:mixIs k key=true)(ho:s.heap.get? d=some o)(hd:o.data=.dict ⟨l⟩ ep)(hk:gf w l)
  (h:Q (((Xv l).findIdx? fun e=>mixIs k e.key).bind fun i=>((Xv l)[i]?).map (·.val)) {s with toks:=s.toks+1}):wpAny (model prog w) A (dictGet d key) Q E s:=by
 unfold dictGet
 try with_reducible refine wpAny_holding ?_
 refine Xa ((gp prog w).pyHash hkey (Xa (wpAny_dictFind_of (knd:=gp prog w) (s:={s with toks:=s.toks+1}) hkey ho hd (pI hk) ?_)))
 cases hi:(Xv l).findIdx? fun e=>mixIs k e.key with
 |none=>rw[show ((Xv l).findIdx? fun e=>(gp prog w).is k e.key)=none from hi];rw[hi]at h;exact Xb h
 |some i=>rw[show ((Xv l).findIdx? fun e=>(gp prog w).is k e.key)=some i from hi];rw[hi]at h;exact Xa (wpAny_dictEntries (s:={s with toks:=s.toks+1}) ho hd (Xb h))
theorem CR{Q:Unit→Xd→Prop}{i:Nat}(hkey:mixIs k key=true)(ho:s.heap.get? d=some o)(hd:o.data=.dict ⟨l⟩ ep)(hk:gf w l)
  (hi:((Xv l).findIdx? fun e=>mixIs k e.key)=some i) (h:Q () {s with heap:=s.heap.update d (Obj.mapDict (·.modify i fun e=>{e with val:=v})),toks:=s.toks+1}):
  wpAny (model prog w) A (dictSet d key v) Q E s:=by
 unfold dictSet
 try with_reducible refine wpAny_holding ?_
 refine Xa ((gp prog w).pyHash hkey ?_)
 unfold dictSetHashed
 try with_reducible refine wpAny_holding ?_
 refine Xa (wpAny_dictFind_of (knd:=gp prog w) (s:={s with toks:=s.toks+1}) hkey ho hd (pI hk) ?_)
 rw[show ((Xv l).findIdx? fun e=>(gp prog w).is k e.key)=some i from hi]
 exact Xa (wpAny_rule (Xa (wpAny_updateDict (s:={s with toks:=s.toks+1}) ho hd (wpAny_point h))))
end
section
variable{p:Xf}{w:Z8}{S:HT}{B:Nat}{gh:gHs}{n t:Nat}{C:Ctx→Prop}(hC:∀Γ,C Γ→Γ.handled=none)
 {d:Z9} {l:List Z7} {ep:Nat} {k:Int⊕Str} {key v:Z6} {i:Nat} {e:Z7}
include hC
theorem Aa(hkey:mixIs k key=true)(hk:gf w l)(hi:((Xv l).findIdx? fun e=>mixIs k e.key)=some i)(he:nthE l i=some e):
  TriC (model p w) S B C (.builtin "dict.__getitem__" ⟨[.ref d,key],[]⟩) gh [(d,dO l ep)] n t (.ok (.ret e.val)) gh [(d,dO l ep)] n (t+1):=
 eo hC fun Γ P h gs dd os hh lo hp=>by
  rw[cU entry_dict_getitem]
  refine cm hh fun A hA=>?_
  show wpAny _ _ (dictGet d key >>= _) _ _ _
  refine Xa (nx hkey (hp (d,_) List.mem_cons_self) rfl hk ?_)
  rw[hi,show ((some i).bind fun i=>((Xv l)[i]?).map (·.val))=some e.val by rw[Option.bind_some,nW,he];rfl]
  exact Xb ⟨rfl,rfl⟩
theorem Ab(hB:2≤B)(hkey:mixIs k key=true)(hk:gf w l)(hi:((Xv l).findIdx? fun e=>mixIs k e.key)=some i)(he:nthE l i=some e):
  TriC (model p w) S B C (.builtin "dict.__contains__" ⟨[.ref d,key],[]⟩) gh [(d,dO l ep)] n t (.ok (.ret (.bool true))) gh [(d,dO l ep)] n (t+1):=
 eo hC fun Γ P h gs dd os hh lo hp=>by
  rw[cU F.entry_dict_contains]
  refine cm hh fun A hA=>?_
  show wpAny _ _ (dictGet d key >>= _) _ _ _
  refine Xa (nx hkey (hp (d,_) List.mem_cons_self) rfl hk ?_)
  rw[hi,show ((some i).bind fun i=>((Xv l)[i]?).map (·.val))=some e.val by rw[Option.bind_some,nW,he];rfl]
  exact Xb ⟨rfl,rfl⟩
theorem vl(hB:2≤B)(hkey:mixIs k key=true)(hk:gf w l)(hi:((Xv l).findIdx? fun e=>mixIs k e.key)=none):
  TriC (model p w) S B C (.builtin "dict.__contains__" ⟨[.ref d,key],[]⟩) gh [(d,dO l ep)] n t (.ok (.ret (.bool false))) gh [(d,dO l ep)] n (t+1):=
 eo hC fun Γ P h gs dd os hh lo hp=>by
  have hs:(d==sysModules)=false:=by
   have h1:B≤d:=lo (d,_) List.mem_cons_self
   have:d≠1:=Nat.ne_of_gt (Zr hB h1)
   simpa [sysModules] using this
  rw[cU F.entry_dict_contains]
  refine cm hh fun A hA=>?_
  show wpAny _ _ (dictGet d key >>= _) _ _ _
  refine Xa (nx hkey (hp (d,_) List.mem_cons_self) rfl hk ?_)
  rw[hi]
  show wpAny _ _ (Builtin.Dict.pendingKey? d _ >>= _) _ _ _
  exact Xa (wpAny_pendingKey_other hs (Xb ⟨rfl,rfl⟩))
theorem Ac(hkey:mixIs k key=true)(hk:gf w l)(hi:((Xv l).findIdx? fun e=>mixIs k e.key)=some i):
  TriC (model p w) S B C (.builtin "dict.__setitem__" ⟨[.ref d,key,v],[]⟩) gh [(d,dO l ep)] n t (.ok (.ret .none)) gh [(d,dO (nu l i v) ep)] n (t+1):=by
 have e:Obj.mapDict (·.modify i fun e=>{e with val:=v}) (dO l ep)=dO (nu l i v) ep:=by
  show (⟨.type "dict",none,.dict ((Xv l).modify i fun e=>{e with val:=v}) ep,#[]⟩:Obj)=_
  rw[wS];rfl
 have key:=iE (p:=p) (w:=w) (S:=S) (B:=B) (gh:=gh) (pre:=[]) (n:=n) (t:=t) (t':=t+1) (f:=.ret .none) (cd:=.builtin "dict.__setitem__" ⟨[.ref d,key,v],[]⟩) hC (a:=d) (o:=dO l ep) (g:=Obj.mapDict (·.modify i fun e=>{e with val:=v})) (by rw[e];rfl) fun Γ P h gs dd os hh lo hp=>by
  rw[cU entry_dict_setitem]
  refine cm hh fun A hA=>?_
  have ho:h.get? d=some (dO l ep):=hp (d,_) List.mem_cons_self
  show wpAny _ _ (Builtin.Dict.notOrdered "__setitem__" ⟨[.ref d,key,v],[]⟩ >>= _) _ _ _
  refine Xa (wpAny_notOrdered_dict ⟨_,ho,rfl⟩ ?_)
  show wpAny _ _ (dictSet d key v >>= _) _ _ _
  exact Xa (CR hkey ho rfl hk hi (Xb ⟨rfl,rfl⟩))
 rw[e]at key
 exact key
end
end
section
open PySem PySem.W PyProof.Rows
noncomputable def yS:List Nat→Nat→Nat
 |[],_=>0
 |a::l,n=>cond (Ze a n) 0 (yS l n+1)
theorem Pu(w:Z8)(n t:Nat)(v:Z6)(h:n≤1000000):∃k,mixIs k (kI n t v).key=true∧(kI n t v).hash=qH w k:=
 ⟨.inl n,by show Qb _ (.int n t)=true;simp[Qb],(bo n (by omega)).symm⟩
def qG:List Z7→Int⊕Str→Option Nat
 |[],_=>none
 |e::l,k=>if mixIs k e.key=true then some 0 else (qG l k).map (·+1)
theorem wq(l:List Z7)(k:Int⊕Str):((Xv l).findIdx? fun e=>mixIs k e.key)=qG l k:=by
 rw[show (Xv l).findIdx? (fun e=>mixIs k e.key)=l.findIdx? (fun e=>mixIs k e.key) from List.findIdx?_toArray ..]
 induction l with
 |nil=>rfl
 |cons e l ih=>
  rw[List.findIdx?_cons,qG]
  cases mixIs k e.key with
  |true=>rfl
  |false=>simp only[Bool.false_eq_true,if_false];rw[ih]
theorem sD(k:Int)(t:Nat):mixIs (.inl k) (.int k t)=true:=by show Qb k (.int k t)=true;simp[Qb]
section
variable{w:Z8}{b c:Bool}{S:HT}{B:Nat}{gh:gHs}{n t:Nat}{C:Ctx→Prop}(hC:∀Γ,C Γ→Γ.handled=none){d i u:Nat}{k:Nat→Nat}{o:Nat→Int×Nat}
include hC
end
noncomputable def plainL:List Nat:=[261,262,320,321,322,323,773,774,832,833,834,835]
def ry(A:AS)(s:BS):List Z7:=[kI 261 (Zd (A.k 20) 5571) (pv s 261),kI 262 (Zd (A.k 21) 5571) (pv s 262),kI 320 (Zd (A.k 22) 5571) (pv s 320),kI 321 (Zd (A.k 23) 5571) (pv s 321),kI 322 (Zd (A.k 24) 5571) (pv s 322),kI 323 (Zd (A.k 25) 5571) (pv s 323),kI 773 (Zd (A.k 26) 5571) (pv s 773),kI 774 (Zd (A.k 27) 5571) (pv s 774),kI 832 (Zd (A.k 28) 5571) (pv s 832),kI 833 (Zd (A.k 29) 5571) (pv s 833),kI 834 (Zd (A.k 30) 5571) (pv s 834),kI 835 (Zd (A.k 31) 5571) (pv s 835)]
theorem nZ(w:Z8)(A:AS)(s:BS):gf w (ry A s):=by
 intro e he
 simp only[ry,Qt,List.not_mem_nil,or_false]at he
 rcases he with rfl|rfl|rfl|rfl|rfl|rfl|rfl|rfl|rfl|rfl|rfl|rfl
 iterate 12 exact Pu w _ _ _ (by decide)
theorem ze{i:Nat}(hi:i∈plainL)(A:AS)(s:BS):∃t,((Xv (ry A s)).findIdx? fun e=>mixIs (.inl (Zo i)) e.key)=some (yS plainL i)∧nthE (ry A s) (yS plainL i)=some (kI i t (pv s i)):=by
 rw[wq]
 simp only[plainL,Qt,List.not_mem_nil,or_false]at hi
 rcases hi with rfl|rfl|rfl|rfl|rfl|rfl|rfl|rfl|rfl|rfl|rfl|rfl<;>exact⟨_,rfl,rfl⟩
theorem PO{i:Nat}(hi:i∉plainL)(A:AS)(s:BS):((Xv (ry A s)).findIdx? fun e=>mixIs (.inl (Zo i)) e.key)=none:=by
 rw[wq]
 simp only[plainL,Qt,List.not_mem_nil,or_false,not_or]at hi
 have key:∀(a t:Nat) (v:Z6),i≠a→mixIs (.inl (Zo i)) (kI a t v).key=false:=fun a t v h=>by
  show Qb (Zo i) (.int a t)=false
  simp[Qb];omega
 obtain⟨h1,h2,h3,h4,h5,h6,h7,h8,h9,h10,h11,h12⟩:=hi
 have nn:∀{e:Z7} {l:List Z7} {k:Int⊕Str},mixIs k e.key=false→qG l k=none→qG (e::l) k=none:=fun h1 h2=>by
  rw[qG,if_neg (by rw[h1];exact Xr),h2];rfl
 exact nn (key _ _ _ h1) (nn (key _ _ _ h2) (nn (key _ _ _ h3) (nn (key _ _ _ h4) (nn (key _ _ _ h5) (nn (key _ _ _ h6) (nn (key _ _ _ h7) (nn (key _ _ _ h8) (nn (key _ _ _ h9) (nn (key _ _ _ h10) (nn (key _ _ _ h11) (nn (key _ _ _ h12) (rfl))))))))))))
theorem PQ{i:Nat}(hi:i∈plainL)(A:AS)(s:BS)(x:Int)(t:Nat):nu (ry A s) (yS plainL i) (.int x t)=ry A {s with p:=up s.p i x t}:=by
 simp only[plainL,Qt,List.not_mem_nil,or_false]at hi
 rcases hi with rfl|rfl|rfl|rfl|rfl|rfl|rfl|rfl|rfl|rfl|rfl|rfl<;>rfl
section
variable{w:Z8}{b c:Bool}{S:HT}{B:Nat}{gh:gHs}{n t:Nat}{C:Ctx→Prop}(hC:∀Γ,C Γ→Γ.handled=none){d i u:Nat}{A:AS}{s:BS}
include hC
theorem cg(hi:i∈plainL):TriC (MM w b c) S B C (.builtin "dict.__getitem__" ⟨[.ref d,.int (Zo i) u],[]⟩) gh [(d,d4 (PP w b c) A s)] n t (.ok (.ret (pv s i))) gh [(d,d4 (PP w b c) A s)] n (t+1):=by
 obtain⟨t',h1,h2⟩:=ze hi A s
 exact Aa hC (k:=.inl (Zo i)) (sD _ _) (nZ (W2 w b c) A s) h1 h2
theorem ga(hB:2≤B)(hi:i∈plainL):TriC (MM w b c) S B C (.builtin "dict.__contains__" ⟨[.ref d,.int (Zo i) u],[]⟩) gh [(d,d4 (PP w b c) A s)] n t (.ok (.ret (.bool true))) gh [(d,d4 (PP w b c) A s)] n (t+1):=by
 obtain⟨t',h1,h2⟩:=ze hi A s
 exact Ab hC hB (k:=.inl (Zo i)) (sD _ _) (nZ (W2 w b c) A s) h1 h2
theorem bj(hB:2≤B)(hi:i∉plainL):TriC (MM w b c) S B C (.builtin "dict.__contains__" ⟨[.ref d,.int (Zo i) u],[]⟩) gh [(d,d4 (PP w b c) A s)] n t (.ok (.ret (.bool false))) gh [(d,d4 (PP w b c) A s)] n (t+1):=
 vl hC hB (k:=.inl (Zo i)) (sD _ _) (nZ (W2 w b c) A s) (PO hi A s)
theorem kZ(hi:i∈plainL){x:Int}{y:Nat}:TriC (MM w b c) S B C (.builtin "dict.__setitem__" ⟨[.ref d,.int (Zo i) u,.int x y],[]⟩) gh [(d,d4 (PP w b c) A s)] n t (.ok (.ret .none)) gh [(d,d4 (PP w b c) A {s with p:=up s.p i x y})] n (t+1):=by
 obtain⟨t',h1,_⟩:=ze hi A s
 have:=Ac (p:=prog2) (w:=W2 w b c) (S:=S) (B:=B) (gh:=gh) (n:=n) (t:=t) hC (d:=d) (l:=ry A s) (ep:=12) (k:=.inl (Zo i)) (key:=.int (Zo i) u) (v:=.int x y) (sD _ _) (nZ (W2 w b c) A s) h1
 rw[PQ hi]at this
 exact this
end
theorem zR{prog:Xf}{w:Z8}{A:Around}{E:Z6→Xd→Prop}{s:Xd}{l:Z9}{o:Obj}{items:Array Z6}{ne:Nat}{k:Int}{t:Tok}{v:Z6}{Q:Z3→Xd→Prop}(ho:s.heap.get? l=some o)(hd:o.data=.seq items ne)
  (h0:0≤k) (hfit:k<2^63) (hn:k<items.size) (h:Q (.done (.ret .none)) {s with heap:=s.heap.update l (Obj.mapSeq fun xs=>xs.setIfInBounds k.toNat v)}):wpAny (model prog w) A (Builtin.«list.__setitem__» ⟨[.ref l,.int k t,v],[]⟩) Q E s:=by
 show wpAny _ _ (Builtin.List.listSubscript? (.int k t) >>= _) _ _ s
 refine Xa (wpAny_listSubscript_int (fitsIndex_of h0 hfit) ?_)
 clear hfit
 obtain⟨j,rfl⟩:=Int.eq_ofNat_of_zero_le h0
 have hj:j<items.size:=by omega
 have hx':items[j]?=some items[j]:=Array.getElem?_eq_getElem hj
 show wpAny _ _ ((seqItemAt l j >>= fun r=>pure (r.map (j,·))) >>= _) _ _ s
 refine Xa (Xa (wpAny_seqItemAt ho hd (Xb ?_)))
 rw[hx']
 show wpAny _ _ (setSeqItemAt l j v >>= _) _ _ s
 refine Xa (wpAny_setSeqItemAt ho hd ?_)
 first
  |exact Xa (Xb (Xb h))
  |exact Xa (Xb h)
  |exact Xb h
noncomputable def qU:List Z6→Nat→Z6→List Z6
 |[],_,_=>[]
 |_::l,0,v=>v::l
 |a::l,i+1,v=>a::qU l i v
theorem LQ(l:List Z6)(i:Nat)(v:Z6):(Xv l).setIfInBounds i v=⟨qU l i v⟩:=by
 apply Array.toList_inj.mp
 rw[Array.toList_setIfInBounds]
 show l.set i v=qU l i v
 induction l generalizing i with
 |nil=>rfl
 |cons a l ih=>cases i with
  |zero=>rfl
  |succ i=>rw[List.set_cons_succ,ih];rfl
section
variable{p:Xf}{w:Z8}{S:HT}{B:Nat}{gh:gHs}{n t:Nat}{C:Ctx→Prop}(hC:∀Γ,C Γ→Γ.handled=none)
include hC
theorem xN{a:Z9}{l:List Z6}{k u m:Nat}{v:Z6}(hk:k<l.length)(hk2:k≤1000000):TriC (model p w) S B C (.builtin "list.__setitem__" ⟨[.ref a,.int (Zo k) u,v],[]⟩) gh [(a,lO l m)] n t
  (.ok (.ret .none)) gh [(a,lO (qU l k v) m)] n t:=by
 have e:Obj.mapSeq (fun xs=>xs.setIfInBounds k v) (lO l m)=lO (qU l k v) m:=by
  show (⟨.type "list",none,.seq ((Xv l).setIfInBounds k v) _,#[]⟩:Obj)=_
  rw[if_pos (by simp),LQ]
  rfl
 have key:=iE (p:=p) (w:=w) (S:=S) (B:=B) (gh:=gh) (pre:=[]) (n:=n) (t:=t) (t':=t) (f:=.ret .none) (cd:=.builtin "list.__setitem__" ⟨[.ref a,.int (Zo k) u,v],[]⟩) hC (a:=a) (o:=lO l m) (g:=Obj.mapSeq fun xs=>xs.setIfInBounds k v) (by rw[e];rfl) fun Γ P h gs dd os hh lo hp=>by
  rw[cU entry_list_setitem]
  refine cm hh fun A hA=>?_
  have ho:h.get? a=some (lO l m):=hp (a,_) List.mem_cons_self
  have h0:(0:Int)≤(k:Int):=Int.natCast_nonneg _
  have h2:(k:Int)<2^63:=by omega
  have h3:(k:Int)<((Xv l).size:Nat):=by
   have:(Xv l).size=l.length:=rfl
   rw[this];omega
  have h4:(fun xs:Array Z6=>xs.setIfInBounds k v)=fun xs=>xs.setIfInBounds ((k:Int)).toNat v:=by rw[Int.toNat_natCast]
  rw[h4]
  show wpAny _ _ (Builtin.«list.__setitem__» ⟨[.ref a,.int (k:Int) u,v],[]⟩) _ _ _
  generalize (k:Int)=kk at *
  exact zR (s:=⟨h,gs,dd,t,os⟩) ho rfl h0 h2 h3 ⟨rfl,rfl⟩
 rw[e]at key
 exact key
theorem aB{a i u m:Nat}{r:Nat→Int×Nat}(hi:i<32):TriC (model p w) S B C (.builtin "list.__getitem__" ⟨[.ref a,.int (Zo i) u],[]⟩) gh [(a,xM r m)] n t (.ok (.ret (.int (r i).1 (r i).2))) gh [(a,xM r m)] n t:=by
 refine ar hC (k:=i) ?_ (by omega)
 show ((List.range 32).map fun j=>Qe (r j).1 (r j).2)[i]?=_
 rw[List.getElem?_map,List.getElem?_range hi];rfl
theorem bO{a i u m:Nat}{r:Nat→Int×Nat}{x:Int}{y:Nat}(hi:i<32):TriC (model p w) S B C (.builtin "list.__setitem__" ⟨[.ref a,.int (Zo i) u,.int x y],[]⟩) gh [(a,xM r m)] n t (.ok (.ret .none)) gh [(a,xM (up r i x y) m)] n t:=by
 have:=xN (p:=p) (w:=w) (S:=S) (B:=B) (gh:=gh) (n:=n) (t:=t) hC (a:=a) (k:=i) (m:=m) (u:=u) (v:=.int x y) (l:=(List.range 32).map fun j=>.int (r j).1 (r j).2) (by simpa using hi) (by omega)
 have e:∀j,j<32→lO (qU ((List.range 32).map fun j=>Qe (r j).1 (r j).2) j (.int x y)) m=xM (up r j x y) m:=by
  intro j hj
  iterate 32 (rcases j with _|j;· rfl)
  omega
 rw[e i hi]at this
 exact this
end
noncomputable def gg(a:Nat):Obj:=⟨.type "cell",none,.cell (some (.ref a)),#[]⟩
structure FS where
 k:Nat→Nat
 v:Nat→Z6
def ec:List Stmt:=(cK aF 146).2.1
def fh(f c:Nat):Env:=⟨(cK aF 146).2.2,f,3,[(tH,c)],⟨⟨[95,108,97,119,95,99,111,114,101,46,60,108,111,99,97,108,115,62,46]⟩⟩,some 1946,.ref 1945,some f,0⟩
def Pd(P:Z5)(f:FS)(co:Nat)(un:Int)(uq:Nat)(hd:Int)(hh:Nat):List Z7:=[kS P tI (f.k 0) (.int un uq),kS P i6 (f.k 1) (.int hd hh),kS P gU (f.k 2) (.ref co),kS P qs (f.k 3) (f.v 3),kS P oI (f.k 4) (f.v 4),kS P q5 (f.k 5) (f.v 5)]
def GB(P:Z5)(f:FS)(co:Nat)(un:Int)(uq:Nat)(hd:Int)(hh:Nat):List Z7:=Pd P f co un uq hd hh++[kS P qt (f.k 6) (f.v 6),kS P gA (f.k 7) (f.v 7)]
def Et(P:Z5)(f:FS)(co:Nat)(un:Int)(uq:Nat)(hd:Int)(hh:Nat):List Z7:=GB P f co un uq hd hh++[kS P xz (f.k 8) (f.v 8)]
noncomputable def aS(A:AS)(k:Nat→Nat):AS:=⟨fun i=>A.a (Zd 15 i),k⟩
def Eu(P:Z5)(f:FS)(hd:Int)(hh:Nat)(stl:Nat):List Z7:=[kS P tJ (f.k 0) (f.v 0),kS P xA (f.k 1) (f.v 1),kS P tH (f.k 2) (f.v 2),kS P i6 (f.k 3) (.int hd hh),kS P xB (f.k 4) (f.v 4),kS P xC (f.k 5) (.ref stl)]
def um(P:Z5)(f:FS)(hd:Int)(hh:Nat)(stl:Nat):List Z7:=Eu P f hd hh stl++[kS P oJ (f.k 6) (f.v 6),kS P kW (f.k 7) (f.v 7)]
noncomputable def UJ(i:Nat):Expr:=match i with
 |0=>match (cj[0]?:Option Stmt) with
  |some (.Assign _ (.BinOp l _ _ _) _)=>l
  |_=>.Name ⟨⟨[]⟩⟩ ⟨0,0,0,0⟩
 |1=>match (cj[7]?:Option Stmt) with
  |some (.Return (some (.BoolOp _ (.Compare l _ _ _::_) _)) _)=>l
  |_=>.Name ⟨⟨[]⟩⟩ ⟨0,0,0,0⟩
 |_=>match (cj[7]?:Option Stmt) with
  |some (.Return (some (.BoolOp _ (.Compare _ _ [l] _::_) _)) _)=>l
  |_=>.Name ⟨⟨[]⟩⟩ ⟨0,0,0,0⟩
noncomputable def ZS(l:List (Str×NameKind)):List (Str×NameKind):=l.map fun y=>(y.1,match y.2 with|.free=>.cell|k=>k)
noncomputable def cmS(e:Expr):Scope:=match e with
 |.ListComp _ _ s _=>{s with names:=ZS s.names}
 |_=>default
def OE(i it acc loc fr:Nat)(cells:List (Str×Z9)):Xo:=.compLoop (UJ i) 0 (.ref it) (.ref acc) ⟨cmS (UJ i),loc,3,cells,NI,none,.ref 1969,some fr,0⟩
noncomputable abbrev cS(cd:Xo)(c t:Nat)(p:List (Nat×Obj))(r:Xc)(c' t':Nat):Call:=⟨cd,c,t,p,r,c',t',p⟩
noncomputable abbrev cB(s:String)(l:List Z6):Xo:=.builtin s ⟨l,[]⟩
noncomputable abbrev cR(f:Nat)(l:List Z6):Xo:=.call (.ref f) ⟨l,[]⟩
noncomputable abbrev rA(A:AS)(i:Nat):Z6:=.ref (Zd (A.a i) 1971)
noncomputable abbrev rV(v:Z6):Xc:=.ok (.ret v)
section
variable(n:Nat)(gE:gHs)(G:Nat→gHs)(w:Z8)(b c:Bool)(A:AS)(gh:gHs)(L N:Nat)(R K:List (Nat×Nat))(calls cb:List Call)(bls:List (List (Xo×Z4)))(lu:List Call)(es:List (Bool×Bool))(bl:List (Xo×Z4))(cd:Xo)(i:Nat)(pre:List (Nat×Obj))(r:Xc)(j:Nat)(post:List (Nat×Obj))(pos:(Nat→Z6)→List (Nat×Obj))(k:Nat)
abbrev Hc:Prop:=∀x∈calls,bE (MM w b c) (gX w b c (bz (bx A) R) (aQ K) (Ga gh)) L x
abbrev Hb:Prop:=∀x∈cb.zip bls,d9 (MM w b c) (gX w b c (bz (bx A) R) (aQ K) (Ga gh)) (fun Γ=>Lim Γ L∧Γ.below=x.2) x.1
abbrev Hcg:Prop:=∀x∈calls,bE (MM w b c) (gX w b c (bz (bx A) R) (aQ K) (G)) L x
abbrev Hbg:Prop:=∀x∈cb.zip bls,d9 (MM w b c) (gX w b c (bz (bx A) R) (aQ K) (G)) (fun Γ=>Lim Γ L∧Γ.below=x.2) x.1
abbrev Hu:Prop:=∀x∈lu,d9 (MM w b c) (gX w b c (bz (bx A) R) (aQ K) (Ga gh)) (fun Γ=>LimU Γ L) x
abbrev Hg:Prop:=∀x∈gE,x.1∈gh.map (·.1)∨Zd n 1971≤x.1
abbrev He:Prop:=∀x∈es,x.1=x.2
abbrev Ag:Prop:=TX w b c (N+L) cd (Ga gh) (bz (bx A) R) (aQ K) i pre r j post k
abbrev jM:Prop:=Hc w b c A gh L R K calls→TX w b c (N+L) cd (Ga gh) (bz (bx A) R) (aQ K) i pre r j post k
abbrev bk:Prop:=Hc w b c A gh L R K calls→He es→TX w b c (N+L) cd (Ga gh) (bz (bx A) R) (aQ K) i pre r j post k
abbrev fN:Prop:=He es→TX w b c (N+L) cd (Ga gh) (bz (bx A) R) (aQ K) i pre r j post k
abbrev o5:Prop:=Hc w b c A gh L R K calls→Hb w b c A gh L R K cb bls→TY w b c (N+L) bl cd (Ga gh) (bz (bx A) R) (aQ K) i pre r j post k
abbrev DT:Prop:=Hc w b c A gh L R K calls→TY w b c (N+L) bl cd (Ga gh) (bz (bx A) R) (aQ K) i pre r j post k
abbrev jT:Prop:=Hc w b c A gh L R K calls→Hb w b c A gh L R K cb bls→He es→TY w b c (N+L) bl cd (Ga gh) (bz (bx A) R) (aQ K) i pre r j post k
abbrev cT:Prop:=Hc w b c A gh L R K calls→Hb w b c A gh L R K cb bls→Hu w b c A gh L R K lu→He es→∃PL:Nat→Z6,TY w b c (N+L) bl cd (Ga gh) (bz (bx A) R) (aQ K) i pre r j (pos PL) k
abbrev xR:Prop:=Hc w b c A gh L R K calls→He es→∃PL:Nat→Z6,TY w b c (N+L) bl cd (Ga gh) (bz (bx A) R) (aQ K) i pre r j (pos PL) k
abbrev NT:Prop:=He es→∃PL:Nat→Z6,TY w b c (N+L) bl cd (Ga gh) (bz (bx A) R) (aQ K) i pre r j (pos PL) k
end
section
variable{n:Nat}{gE:gHs}{G:Nat→gHs}{w:Z8}{b c:Bool}{A:AS}{gh:gHs}{L N:Nat}{R K:List (Nat×Nat)}{calls cb:List Call}{bls:List (List (Xo×Z4))}{lu:List Call}{es:List (Bool×Bool)}{bl:List (Xo×Z4)}{cd:Xo}{i:Nat}{pre:List (Nat×Obj)}{r:Xc}{j:Nat}{post:List (Nat×Obj)}{pos:(Nat→Z6)→List (Nat×Obj)}{k:Nat}
theorem lx(H:Hn)(h1:dC (pre.map (·.1))=true:=by rfl)(h2:dC (post.map (·.1))=true:=by rfl)(hq:∀bl P,ff (sX WS w b c (bz (bx A) R) (aQ K) (Ga gh) [] [] [] [] N bl cd P pre i H) post (SG w false c)=fa (sX WS w b c (bz (bx A) R) (aQ K) (Ga gh) [] [] [] [] N bl cd P pre i H) r j k post [] (SG w true c):=by intro bl p;kernel_rfl):Ag w b c A gh L N R K  cd i pre r j post k:=lF (calls:=[]) (H:=H) nMm (lu:=[]) nMm h1 h2 hq (cs:=[]) nMm bS
theorem hD(H:Hn)(h1:dC (pre.map (·.1))=true:=by rfl)(h2:dC (post.map (·.1))=true:=by rfl)(hq:∀bl P,ff (sX WS w b c (bz (bx A) R) (aQ K) (Ga gh) calls [] [] [] N bl cd P pre i H) post (SG w false c)=fa (sX WS w b c (bz (bx A) R) (aQ K) (Ga gh) calls [] [] [] N bl cd P pre i H) r j k post [] (SG w true c):=by intro bl p;kernel_rfl):jM w b c A gh L N R K calls cd i pre r j post k:=fun hc=>lF (calls:=calls) (H:=H) hc (lu:=[]) nMm h1 h2 hq (cs:=[]) nMm bS
theorem ap(H:Hn)(h1:dC (pre.map (·.1))=true:=by rfl)(h2:dC (post.map (·.1))=true:=by rfl)(hq:∀bl P,ff (sX WS w b c (bz (bx A) R) (aQ K) (Ga gh) calls [] [] [] N bl cd P pre i H) post (SG w false c)=fa (sX WS w b c (bz (bx A) R) (aQ K) (Ga gh) calls [] [] [] N bl cd P pre i H) r j k post es (SG w true c):=by intro bl p;kernel_rfl):bk w b c A gh L N R K calls es cd i pre r j post k:=fun hc he=>lF (calls:=calls) (H:=H) hc (lu:=[]) nMm h1 h2 hq (cs:=es) he bS
theorem de(H:Hn)(h1:dC (pre.map (·.1))=true:=by rfl)(h2:dC (post.map (·.1))=true:=by rfl)(hq:∀bl P,ff (sX WS w b c (bz (bx A) R) (aQ K) (Ga gh) [] [] [] [] N bl cd P pre i H) post (SG w false c)=fa (sX WS w b c (bz (bx A) R) (aQ K) (Ga gh) [] [] [] [] N bl cd P pre i H) r j k post es (SG w true c):=by intro bl p;kernel_rfl):fN w b c A gh L N R K es cd i pre r j post k:=fun he=>lF (calls:=[]) (H:=H) nMm (lu:=[]) nMm h1 h2 hq (cs:=es) he bS
theorem pL(H:Hn)(h1:dC (pre.map (·.1))=true:=by rfl)(h2:dC (post.map (·.1))=true:=by rfl)(hq:∀P,ff (sX WR w b c (bz (bx A) R) (aQ K) (Ga gh) calls bls cb [] N bl cd P pre i H) post (SG w false c)=fa (sX WR w b c (bz (bx A) R) (aQ K) (Ga gh) calls bls cb [] N bl cd P pre i H) r j k post [] (SG w true c):=by intro p;kernel_rfl):o5 w b c A gh L N R K calls cb bls bl cd i pre r j post k:=fun hc hb=>lG (calls:=calls) (H:=H) hc (cb:=cb) (bls:=bls) hb (lu:=[]) nMm h1 h2 hq (cs:=[]) nMm bS
theorem Ha(H:Hn)(h1:dC (pre.map (·.1))=true:=by rfl)(h2:dC (post.map (·.1))=true:=by rfl)(hq:∀P,ff (sX WR w b c (bz (bx A) R) (aQ K) (Ga gh) calls [] [] [] N bl cd P pre i H) post (SG w false c)=fa (sX WR w b c (bz (bx A) R) (aQ K) (Ga gh) calls [] [] [] N bl cd P pre i H) r j k post [] (SG w true c):=by intro p;kernel_rfl):DT w b c A gh L N R K calls bl cd i pre r j post k:=fun hc=>lG (calls:=calls) (H:=H) hc (cb:=[]) (bls:=[]) nMm (lu:=[]) nMm h1 h2 hq (cs:=[]) nMm bS
theorem cG(H:Hn)(h1:dC (pre.map (·.1))=true:=by rfl)(h2:dC (post.map (·.1))=true:=by rfl)(hq:∀P,ff (sX WR w b c (bz (bx A) R) (aQ K) (Ga gh) calls bls cb [] N bl cd P pre i H) post (SG w false c)=fa (sX WR w b c (bz (bx A) R) (aQ K) (Ga gh) calls bls cb [] N bl cd P pre i H) r j k post es (SG w true c):=by intro p;kernel_rfl):jT w b c A gh L N R K calls cb bls es bl cd i pre r j post k:=fun hc hb he=>lG (calls:=calls) (H:=H) hc (cb:=cb) (bls:=bls) hb (lu:=[]) nMm h1 h2 hq (cs:=es) he bS
theorem cE(H:Hn)(i0:Nat)(h1:dC (pre.map (·.1))=true:=by rfl)(h2:dC ((pos (fR (sX WR w b c (bz (bx A) R) (aQ K) (Ga gh) calls bls cb lu N bl cd default pre i H) i0)).map (·.1))=true:=by rfl)(hq:∀P,ff (sX WR w b c (bz (bx A) R) (aQ K) (Ga gh) calls bls cb lu N bl cd P pre i H) (pos (fR (sX WR w b c (bz (bx A) R) (aQ K) (Ga gh) calls bls cb lu N bl cd default pre i H) i0)) (SG w false c)=fa (sX WR w b c (bz (bx A) R) (aQ K) (Ga gh) calls bls cb lu N bl cd P pre i H) r j k (pos (fR (sX WR w b c (bz (bx A) R) (aQ K) (Ga gh) calls bls cb lu N bl cd default pre i H) i0)) es (SG w true c):=by intro p;kernel_rfl):cT w b c A gh L N R K calls cb bls lu es bl cd i pre r j pos k:=fun hc hb hu he=>⟨fR (sX WR w b c (bz (bx A) R) (aQ K) (Ga gh) calls bls cb lu N bl cd default pre i H) i0,lG (calls:=calls) (H:=H) hc (cb:=cb) (bls:=bls) hb (lu:=lu) hu h1 h2 hq (cs:=es) he bS⟩
theorem ie(H:Hn)(i0:Nat)(h1:dC (pre.map (·.1))=true:=by rfl)(h2:dC ((pos (fR (sX WR w b c (bz (bx A) R) (aQ K) (Ga gh) calls [] [] [] N bl cd default pre i H) i0)).map (·.1))=true:=by rfl)(hq:∀P,ff (sX WR w b c (bz (bx A) R) (aQ K) (Ga gh) calls [] [] [] N bl cd P pre i H) (pos (fR (sX WR w b c (bz (bx A) R) (aQ K) (Ga gh) calls [] [] [] N bl cd default pre i H) i0)) (SG w false c)=fa (sX WR w b c (bz (bx A) R) (aQ K) (Ga gh) calls [] [] [] N bl cd P pre i H) r j k (pos (fR (sX WR w b c (bz (bx A) R) (aQ K) (Ga gh) calls [] [] [] N bl cd default pre i H) i0)) es (SG w true c):=by intro p;kernel_rfl):xR w b c A gh L N R K calls es bl cd i pre r j pos k:=fun hc he=>⟨fR (sX WR w b c (bz (bx A) R) (aQ K) (Ga gh) calls [] [] [] N bl cd default pre i H) i0,lG (calls:=calls) (H:=H) hc (cb:=[]) (bls:=[]) nMm (lu:=[]) nMm h1 h2 hq (cs:=es) he bS⟩
theorem TW(H:Hn)(i0:Nat)(h1:dC (pre.map (·.1))=true:=by rfl)(h2:dC ((pos (fR (sX WR w b c (bz (bx A) R) (aQ K) (Ga gh) [] [] [] [] N bl cd default pre i H) i0)).map (·.1))=true:=by rfl)(hq:∀P,ff (sX WR w b c (bz (bx A) R) (aQ K) (Ga gh) [] [] [] [] N bl cd P pre i H) (pos (fR (sX WR w b c (bz (bx A) R) (aQ K) (Ga gh) [] [] [] [] N bl cd default pre i H) i0)) (SG w false c)=fa (sX WR w b c (bz (bx A) R) (aQ K) (Ga gh) [] [] [] [] N bl cd P pre i H) r j k (pos (fR (sX WR w b c (bz (bx A) R) (aQ K) (Ga gh) [] [] [] [] N bl cd default pre i H) i0)) es (SG w true c):=by intro p;kernel_rfl):NT w b c A gh L N R K es bl cd i pre r j pos k:=fun he=>⟨fR (sX WR w b c (bz (bx A) R) (aQ K) (Ga gh) [] [] [] [] N bl cd default pre i H) i0,lG (calls:=[]) (H:=H) nMm (cb:=[]) (bls:=[]) nMm (lu:=[]) nMm h1 h2 hq (cs:=es) he bS⟩
end
def ic:=LZ [0,0,0,1006008,0,8,8,2003004,5,5,5,1001,8,6003004,8,8,0,0,0,1006009,0,9,0,9,7010000,0,2,9,0,0,0,0,1002,9]
def uw:=LZ [0,0,1008008,0,8,6003004,8,8,0,0,0,1006009,0,9,0,9,7010000,0,2,9,0,0,0,0,1001,9,0,2,0,8,7011000,0,2,8,0,8,8,8,8,2003004,5,5,5,1002]
def mO:=LZ [6003004,8,0,0,0,11,9011000,2,11,2003004,11,6003004,7012000,2003004,12,2003004,11,2003004,11,1004013]
def BC:=LZ [8,6003004,8,8,0,0,0,1006012,0,12]
def BD:=LZ (ic++[0,2,8,2,8,1,8,6003004,8,0,0,0,11,9011000,2])
def ux:=LZ (uw++BC++[13,13,13,1000,13,2,12,14,14,14,1000])
def Pn:=LZ (ic++[0,2,8,1,8,6003004,8,0,0,0,11,9011000])
def BE:=LZ (ic++[0,1,9,0,1,9,0,2,9,2003004,5,5,5,5,1003,9,2003004,5,5,5,5,1004,9,9,9,9,2,2,8,1,8]++mO++[1005])
section
variable(w:Z8)(b c:Bool)(A:AS)(s:BS)(gh:gHs)(n t L:Nat)(i ti tm:Nat)(m:Int)(xw:Int)(tw:Nat)
noncomputable def ua(Y0:Int):Bool×Bool:=(Xl (Zo i) Y0,false)
noncomputable def Ts:List (Nat×Nat):=[(7,Zd n 1971)]
noncomputable def Tt:List (Nat×Nat):=[(0,Zd t 5571)]
def Gw(Y0:Nat):Xc:=rV (.int (Za (aw xw 32) 4294967295) (Zd t Y0))
def Gx(Y0:Nat):Xc:=rV (.int (Za xw 4294967295) (Zd t Y0))
noncomputable def ph:Int:=Za (Zo i) 3
def kp:Xo:=(cR 1428 [.ref (Zd (A.a 2) 1971),.int (Zo i) ti,.int m tm])
def ng:Call:=cS (cB "dict.__contains__" [rA A 4,.int (Zo i) ti]) 8 4 [(4,d4 (PP w b c) A s)] (rV (.bool false)) 8 5
def nh:Call:=cS (cB "dict.__contains__" [.ref 1216,.int (Zo i) ti]) 10 13 [] (rV (.bool true)) 10 14
noncomputable def PR:Bool:=(decide (GE.ge (Zo i) 768))
noncomputable def ni:Bool:=(decide (GE.ge (Zo i) 2816))
def nj:Bool:=(Xl (aw (Zo i) 8) 12)
def nk:Bool:=(decide (Xm m (Za (aw (Zo i) 8) 3)))
def pR(x0 x1:Nat):Call:=cS (cB "list.__getitem__" [.ref (Zd n 1976),.int (ph i) (Zd t x0)]) 13 x1 [(12,lO [zv s 2816,zv s 2816,zv s 2818] 0)] (rV (.int xw tw)) 13 x1
noncomputable def pS:Bool:=(bne (Za (Zo i) 128) 0)
noncomputable def pT:Bool:=(decide (GE.ge (Zo i) 3840))
def oj:Call:=cS (cB "dict.__getitem__" [rA A 4,.int 774 (Zd t 5589)]) 10 19 [(4,d4 (PP w b c) A s)] (rV (pv s 774)) 10 20
def om:Bool:=(lU (ph i))
def wD:Call:=cS (cB "dict.__getitem__" [rA A 4,.int 262 (Zd t 5592)]) 10 22 [(4,d4 (PP w b c) A s)] (rV (pv s 262)) 10 23
def wE:Bool:=(Xl (Za (aw (Za (s.p 774).1 (s.p 262).1) (ph i)) 1) 0)
def uP:List (Bool×Bool):=[(decide (GE.ge m (Za (aw (Zo i) 8) 3)),true)]
def uQ:List (Bool×Bool):=[ua i 324,ua i 260,ua i 256,(PR i,false),(ni i,false),(nj i,false),(nk i m,false)]
def uR:List (Bool×Bool):=[(pS i,false),(pT i,false),(ni i,true),(Xl (Za (aw (s.p 774).1 (ph i)) 1) 0,false),(om i,false),(Xl m 1,true),(decide (Xm m 3),true),(nj i,true),(nk i m,false)]
def uS:List (Bool×Bool):=[(pS i,false),(pT i,false),(ni i,true),(wE s i,false),(om i,false),(Xl m 1,false),(decide (Xm m 3),true),(nj i,true),(nk i m,false)]
def rH:List (Bool×Bool):=[(pS i,true),(pT i,false),(ni i,true),(Xl (Za (aw (s.p 774).1 (ph i)) 1) 0,false),(om i,false),(Xl m 1,true),(decide (Xm m 3),true),(nj i,true),(nk i m,false)]
def rI:List (Bool×Bool):=[(pS i,true),(pT i,false),(ni i,true),(wE s i,false),(om i,false),(Xl m 1,false),(decide (Xm m 3),true),(nj i,true),(nk i m,false)]
abbrev nH:=bk w b c A gh L 40 (Ts n) (Tt t)
include w b c A s gh n t L i ti tm m xw tw
theorem P3:nH w b c A gh n t L [cS (cB "dict.__contains__" [rA A 4,.int (Zo i) ti]) 8 4 [(4,d4 (PP w b c) A s)] (rV (.bool true)) 8 5,cS (cB "dict.__getitem__" [rA A 4,.int (Zo i) ti]) 9 11 [(4,d4 (PP w b c) A s)] (rV (pv s i)) 9 12] (uP i m) (kp A i ti tm m) 7 (aj w b c A s) (rV (pv s i)) 9 (aj w b c A s) 12:=ap (hm [0,0,0,1006008,0,8,8,2003004,5,5,5,1001,8,0,8,7009000,0,1,8,2003004,8,5,5,5,5,1002])
theorem P4:nH w b c A gh n t L [ng w b c A s i ti,nh i ti] (uQ i m) (kp A i ti tm m) 7 (aj w b c A s) (rV (zv s 384)) 10 (aj w b c A s) 23:=ap (hm (ic++[0,2,8,2,8,2,8,2,8,2,8,2,8,2003004]))
theorem P5:nH w b c A gh n t L [ng w b c A s i ti,nh i ti,oj w b c A s t,pR s n t i xw tw 5608 38] (uR s i m) (kp A i ti tm m) 7 (aj w b c A s) (Gx t xw 5612) 13 (aj w b c A s) 42:=ap (hm (ic++[0,1,9,0,1,9,0,1,9,2003004,5,5,5,5,1003,9,9,9,9,2,2,8,1,8]++mO++[1004,9011002,0]))
theorem P7:nH w b c A gh n t L [ng w b c A s i ti,nh i ti,oj w b c A s t,wD w b c A s t,pR s n t i xw tw 5612 42] (uS s i m) (kp A i ti tm m) 7 (aj w b c A s) (Gx t xw 5616) 13 (aj w b c A s) 46:=ap (hm (BE++[9011002,0]))
theorem LC:nH w b c A gh n t L [ng w b c A s i ti,nh i ti,oj w b c A s t,pR s n t i xw tw 5608 38] (rH s i m) (kp A i ti tm m) 7 (aj w b c A s) (Gw t xw 5614) 13 (aj w b c A s) 44:=ap (hm (ic++[0,1,9,0,1,9,0,1,9,2003004,5,5,5,5,1003,9,9,9,9,2,2,8,1,8]++mO++[1004,9011001,0,0]))
theorem LD:nH w b c A gh n t L [ng w b c A s i ti,nh i ti,oj w b c A s t,wD w b c A s t,pR s n t i xw tw 5612 42] (rI s i m) (kp A i ti tm m) 7 (aj w b c A s) (Gw t xw 5618) 13 (aj w b c A s) 48:=ap (hm (BE++[9011001,0,0]))
end
section
variable(w:Z8)(b c:Bool)(A:AS)(s:BS)(gh:gHs)(n t L:Nat)(i ti:Nat)(xw:Int)(tw:Nat)
noncomputable def mJ(Y0:Int):Bool×Bool:=(Xl (Zo i) Y0,false)
noncomputable def Tu:List (Nat×Nat):=[(7,Zd n 1971)]
noncomputable def Tv:List (Nat×Nat):=[(0,Zd t 5571)]
noncomputable def Gy:Bool:=decide (GE.ge (Zo i) 768)
def iY:Xo:=(cR 1428 [.ref (Zd (A.a 2) 1971),.int (Zo i) ti])
def kq:Call:=cS (cB "dict.__contains__" [rA A 4,.int (Zo i) ti]) 8 4 [(4,d4 (PP w b c) A s)] (rV (.bool false)) 8 5
def kr:Call:=cS (cB "dict.__contains__" [.ref 1216,.int (Zo i) ti]) 10 13 [] (rV (.bool true)) 10 14
noncomputable def kt:Bool:=(decide (GE.ge (Zo i) 2816))
def kv:Bool:=(Xl (aw (Zo i) 8) 12)
def kx:Bool:=(decide (Xm 3 (Za (aw (Zo i) 8) 3)))
def wF:Call:=cS (cB "list.__getitem__" [.ref (Zd n 1976),.int (Za (Zo i) 3) (Zd t 5598)]) 13 28 [(12,lO [zv s 2816,zv s 2816,zv s 2818] 0)] (rV (.int xw tw)) 13 28
noncomputable def wG:Bool:=(bne (Za (Zo i) 128) 0)
noncomputable def qL:Bool:=(decide (GE.ge (Zo i) 3840))
def rz:List (Bool×Bool):=[(decide (GE.ge 3 (Za (aw (Zo i) 8) 3)),true)]
def rB:List (Bool×Bool):=[(Xl (Zo i) 770,true),mJ i 769,mJ i 768,(Gy i,true),(kt i,false),(kv i,false),(kx i,false)]
def rC:List (Bool×Bool):=[(Xl (Zo i) 771,true),mJ i 770,mJ i 769,mJ i 768,(Gy i,true),(kt i,false),(kv i,false),(kx i,false)]
def rD:List (Bool×Bool):=[(wG i,false),(qL i,false),(kt i,true),(kv i,false),(kx i,false)]
def rE:List (Bool×Bool):=[(wG i,true),(qL i,false),(kt i,true),(kv i,false),(kx i,false)]
def pU:List (Bool×Bool):=[(Xl (Zo i) 3860,true),(qL i,true),(kt i,true),(kv i,false),(kx i,false)]
abbrev nI:=bk w b c A gh L 40 (Tu n) (Tv t)
include w b c A s gh n t L i ti xw tw
theorem Lr:nI w b c A gh n t L [cS (cB "dict.__contains__" [rA A 4,.int (Zo i) ti]) 8 4 [(4,d4 (PP w b c) A s)] (rV (.bool true)) 8 5,cS (cB "dict.__getitem__" [rA A 4,.int (Zo i) ti]) 9 11 [(4,d4 (PP w b c) A s)] (rV (pv s i)) 9 12] (rz i) (iY A i ti) 7 (aj w b c A s) (rV (pv s i)) 9 (aj w b c A s) 12:=ap (hm [0,0,0,1006008,0,8,8,2003004,5,5,5,1001,8,0,8,7009000,0,1,8,2003004,8,5,5,5,5,1002])
theorem Ls:nI w b c A gh n t L [kq w b c A s i ti,kr i ti] (rB i) (iY A i ti) 7 (aj w b c A s) (rV (zv s 770)) 11 (aj w b c A s) 25:=ap (hm (BD++[11,2,11,1,11,2003004]))
theorem Lt:nI w b c A gh n t L [kq w b c A s i ti,kr i ti] (rC i) (iY A i ti) 7 (aj w b c A s) (rV (zv s 771)) 11 (aj w b c A s) 26:=ap (hm (BD++[11,2,11,2,11,1,11,2003004]))
theorem Lu:nI w b c A gh n t L [kq w b c A s i ti,kr i ti,wF s n t i xw tw] (rD i) (iY A i ti) 7 (aj w b c A s) (rV (.int (Za xw 4294967295) (Zd t 5602))) 13 (aj w b c A s) 32:=ap (hm (ic++[0,2,8,1,8]++mO++[1003,9011002,0]))
theorem Lv:nI w b c A gh n t L [kq w b c A s i ti,kr i ti,wF s n t i xw tw] (rE i) (iY A i ti) 7 (aj w b c A s) (rV (.int (Za (aw xw 32) 4294967295) (Zd t 5604))) 13 (aj w b c A s) 34:=ap (hm (ic++[0,2,8,1,8]++mO++[1003,9011001,0,0]))
theorem FD:nI w b c A gh n t L [kq w b c A s i ti,kr i ti] (pU i) (iY A i ti) 7 (aj w b c A s) (rV (zv s 3860)) 11 (aj w b c A s) 23:=ap (hm (Pn++[1,11,1,11,2003004]))
end
section
variable(w:Z8)(b c:Bool)(A:AS)(s:BS)(gh:gHs)(n t L:Nat)(i ti tm tv:Nat)(m v:Int)(p1:Nat→Int×Nat)
noncomputable def ub(Y0:Int):Bool×Bool:=(Xl (Zo i) Y0,false)
noncomputable def pi:Int:=Za v 4294967295
noncomputable def Tw:List (Nat×Nat):=[(7,Zd n 1971)]
noncomputable def ON:List (Nat×Nat):=[(0,Zd t 5571)]
def pg:Nat×Obj:=(4,d4 (PP w b c) A ⟨s.z,p1,s.r,s.pc,s.md,s.sp,s.es,s.em⟩)
noncomputable def OO:Bool:=decide (GE.ge (Zo i) 768)
noncomputable def ia:Z6:=.int (Zo i) ti
def ky:Call:=cS (cB "dict.__contains__" [.ref 1216,ia i ti]) 10 12 [] (rV (.bool true)) 10 13
def on:Call:=cS (cB "dict.__contains__" [rA A 4,ia i ti]) 11 25 [(4,d4 (PP w b c) A s)] (rV (.bool true)) 11 26
def wH:Bool:=(gV (Xy (Qf (PySem.Value.int 321 (aQ (Qf (Xx 0 (Zd t 5571)) ([])) 33)) ([])) (Xy (Qf (PySem.Value.int 833 (aQ (Qf (Xx 0 (Zd t 5571)) ([])) 34)) ([])) ([]))) (Zo i))
def qM:Bool:=(gV (Xy (Qf (PySem.Value.int 262 (aQ (Qf (Xx 0 (Zd t 5571)) ([])) 31)) ([])) (Xy (Qf (PySem.Value.int 774 (aQ (Qf (Xx 0 (Zd t 5571)) ([])) 32)) ([])) ([]))) (Zo i))
def oo:Bool:=(gV (Xy (Qf (PySem.Value.int 261 (aQ (Qf (Xx 0 (Zd t 5571)) ([])) 29)) ([])) (Xy (Qf (PySem.Value.int 773 (aQ (Qf (Xx 0 (Zd t 5571)) ([])) 30)) ([])) ([]))) (Zo i))
def kz:Bool:=(Xl (Za (aw (Zo i) 10) 3) 3)
def kB:Bool:=(Xl (aw (Zo i) 8) 12)
def kC:Bool:=(decide (Xm m (Za (aw (Zo i) 8) 3)))
def kD:Xo:=(cR 1450 [.ref (Zd (A.a 2) 1971),ia i ti,.int v tv,.int m tm])
def op:List (Nat×Obj):=(aj w b c A ⟨s.z,p1,s.r,s.pc,s.md,s.sp,s.es,s.em⟩)
def K9:Call:=cS (cB "dict.__contains__" [rA A 4,ia i ti]) 11 25 [(4,d4 (PP w b c) A s)] (rV (.bool false)) 11 26
noncomputable def La:Bool:=(decide (GE.ge (Zo i) 2816))
def Lb:Call:=⟨cB "dict.__setitem__" [rA A 4,ia i ti,.int (Za (pi v) 7) (Zd t 5604)],14,35,[(4,d4 (PP w b c) A s)],rV .none,14,36,[pg w b c A s p1]⟩
def rM:List (Bool×Bool):=[ub i 324,ub i 260,ub i 256,(OO i,false),(La i,false),(kz i,false),(kB i,false),(kC i m,false)]
abbrev py:=bk w b c A gh L 40 (Tw n) (ON t)
include w b c A s gh n t L i ti tm tv m v p1
theorem Me:py w b c A gh n t L [ky i ti,on w b c A s i ti,⟨cB "dict.__setitem__" [rA A 4,ia i ti,.int (pi v) (Zd t 5593)],15,36,[(4,d4 (PP w b c) A s)],rV .none,15,37,[pg w b c A s p1]⟩] [(wH t i,false),(qM t i,false),(oo t i,false),(kz i,false),(kB i,false),(kC i m,false)] (kD A i ti tm tv m v) 7 (aj w b c A s) (rV .none) 15 (op w b c A s p1) 37:=ap (hm ([0]++ux++[14,2,12,15,15,15,1000,15,2,12,8,2003004,8,5,5,5,1003]))
theorem Mf:py w b c A gh n t L [ky i ti,on w b c A s i ti,⟨cB "dict.__setitem__" [rA A 4,ia i ti,.int (Za (pi v) 4294967292) (Zd t 5608)],15,39,[(4,d4 (PP w b c) A s)],rV .none,15,40,[pg w b c A s p1]⟩] [(wH t i,true),(qM t i,false),(oo t i,false),(kz i,false),(kB i,false),(kC i m,false)] (kD A i ti tm tv m v) 7 (aj w b c A s) (rV .none) 15 (op w b c A s p1) 40:=ap (hm ([0]++ux++[14,2,12,15,15,15,1000,15,1,12,0,8,2003004,8,5,5,5,1003]))
theorem Mg:py w b c A gh n t L [ky i ti,on w b c A s i ti,⟨cB "dict.__setitem__" [rA A 4,ia i ti,.int (Za (pi v) 4294967293) (Zd t 5605)],14,36,[(4,d4 (PP w b c) A s)],rV .none,14,37,[pg w b c A s p1]⟩] [(oo t i,true),(kz i,false),(kB i,false),(kC i m,false)] (kD A i ti tm tv m v) 7 (aj w b c A s) (rV .none) 14 (op w b c A s p1) 37:=ap (hm ([0]++uw++BC++[13,13,13,1000,13,1,0,12,7014000,0,8,2003004,8,5,5,5,1003]))
theorem Mh:py w b c A gh n t L [ky i ti,K9 w b c A s i ti] (rM i m) (kD A i ti tm tv m v) 7 (aj w b c A s) (rV .none) 11 (aj w b c A ⟨up s.z 384 (Za (pi v) 2151677951) (Zd t 5602),s.p,s.r,s.pc,s.md,s.sp,s.es,s.em⟩) 34:=ap (hm ([0]++uw++[8,2,8,2,8,2,8,2,8,2,8,0,8,5003004]))
theorem Mi:py w b c A gh n t L [ky i ti,on w b c A s i ti,Lb w b c A s t i ti v p1] [(qM t i,true),(oo t i,false),(kz i,false),(kB i,false),(kC i m,false)] (kD A i ti tm tv m v) 7 (aj w b c A s) (rV .none) 14 (op w b c A s p1) 36:=ap (hm ([0]++ux++[14,1,12,0,8,2003004,8,5,5,5,1003]))
end
theorem TriC.cast{M:Model}{S:HT}{B:Nat}{C:Ctx→Prop}{cd:Xo}{n t n' t' n1 t1 n1' t1':Nat}{r r1:Xc}{pre post gh gh' pre1 post1 gh1 gh1':gHs}
  (H:TriC M S B C cd gh pre n t r gh' post n' t') (h1:pre=pre1) (h2:n=n1) (h3:t=t1) (h4:post=post1) (h5:n'=n1') (h6:t'=t1') (h7:gh=gh1) (h8:gh'=gh1') (h9:r=r1):
  TriC M S B C cd gh1 pre1 n1 t1 r1 gh1' post1 n1' t1':=by subst h1 h2 h3 h4 h5 h6 h7 h8 h9;exact H
theorem TriC.code{M:Model}{S:HT}{B:Nat}{C:Ctx→Prop}{cd cd':Xo}{n t n' t':Nat}{r:Xc}{pre post gh gh':gHs}(e:cd'=cd)
  (H:TriC M S B C cd gh pre n t r gh' post n' t'):TriC M S B C cd' gh pre n t r gh' post n' t':=e▸H
theorem cW{M:Model}{S:HT}{B:Nat}{C:Ctx→Prop}{cd:Xo}{n t n' t':Nat}{r:Xc}{pre post pre1 post1 gh gh':gHs}
  (H:TriC M S B C cd gh pre n t r gh' post n' t') (h1:pre.Perm pre1) (h2:post.Perm post1):TriC M S B C cd gh pre1 n t r gh' post1 n' t':=by
 have m1:=h1.map (·.1)
 have m2:=h2.map (·.1)
 intro nd lo big Γ P h gs d os hΓ hL hsz hs hp hgh
 obtain⟨h',a1,a2,a3,a4,a5,a6,a7,a8⟩:=H (m1.nodup_iff.mpr nd) (fun x hx=>lo x (h1.mem_iff.mp hx)) big Γ P h gs d os hΓ hL hsz hs (fun x hx=>hp x (h1.mem_iff.mp hx)) (fun y hy=>⟨(hgh y hy).1,fun z=>(hgh y hy).2 (m1.mem_iff.mp z)⟩)
 exact⟨h',a1,a2,a3,a4,m2.nodup_iff.mp a5,fun x hx=>⟨(a6 x (h2.mem_iff.mpr hx)).1.imp m1.mem_iff.mp id,(a6 x (h2.mem_iff.mpr hx)).2⟩,fun b hb hnb=>a7 b hb fun z=>hnb (m1.mem_iff.mp z),fun y hy=>⟨(a8 y hy).1,fun z=>(a8 y hy).2.1 (m2.mem_iff.mpr z),(a8 y hy).2.2⟩⟩
theorem vS{M:Model}{S:HT}{B:Nat}{C:Ctx→Prop}{cd:Xo}{n t n' t':Nat}{r:Xc}{pre post g g' gh gh':gHs}(H:TriC M S B C cd g pre n t r g' post n' t')(h0:∀y∈g,y∈gh)(h1:∀y∈gh',y∈g'∨y∈gh):TriC M S B C cd gh pre n t r gh' post n' t':=by
 intro nd lo big Γ P h gs d os hΓ hL hsz hs hp hgh
 obtain⟨h',a1,a2,a3,a4,a5,a6,a7,a8⟩:=H nd lo big Γ P h gs d os hΓ hL hsz hs hp (fun y hy=>hgh y (h0 y hy))
 refine⟨h',a1,a2,a3,a4,a5,a6,a7,fun y hy=>(h1 y hy).elim (fun q=>?_) fun q=>?_⟩
 ·obtain⟨z1,z2,z3⟩:=a8 y q
  refine⟨z1,z2,z3.imp (fun z=>?_) id⟩
  obtain⟨x,hx,e⟩:=Qq.mp z
  exact Qq.mpr ⟨x,h0 x hx,e⟩
 ·obtain⟨x1,x2⟩:=hgh y q
  have lt:y.1<n:=hsz▸Qa x1
  refine⟨a7 _ lt x2 _ x1,fun z=>?_,.inl (gb q)⟩
  obtain⟨x,hx,e⟩:=Qq.mp z
  rcases(a6 x hx).1 with w|w
  ·exact x2 (e▸w)
  ·exact Zz _ (Zr lt (e▸w))
theorem nf(a b k:Nat):Zd (Zd a b) k=Zd (Zd a k) b:=Nat.add_right_comm a b k
section
variable{M:Model}{S:HT}{B:Nat}{C:Ctx→Prop}{cd:Xo}{n t n' t' n1 t1 n1' t1':Nat}{r r1:Xc}{pre post gh gh' pre1 post1:gHs}(H:TriC M S B C cd gh pre n t r gh' post n' t')
include H
theorem kc(h1:pre=pre1:=by kernel_rfl)(h4:post=post1:=by kernel_rfl):TriC M S B C cd gh pre1 n t r gh' post1 n' t':=TriC.cast H h1 rfl rfl h4 rfl rfl rfl rfl rfl
theorem kd(h1:pre=pre1:=by kernel_rfl)(h2:n=n1:=by first|exact(nf _ _ _).symm|rfl)(h3:t=t1:=by first|exact(nf _ _ _).symm|rfl)(h4:post=post1:=by kernel_rfl)(h9:r=r1:=by kernel_rfl):TriC M S B C cd gh pre1 n1 t1 r1 gh' post1 n' t':=TriC.cast H h1 h2 h3 h4 rfl rfl rfl rfl h9
theorem kE(h1:pre=pre1:=by kernel_rfl)(h4:post=post1:=by kernel_rfl)(h5:n'=n1':=by first|exact nf _ _ _|rfl)(h6:t'=t1':=by first|exact nf _ _ _|rfl):TriC M S B C cd gh pre1 n t r gh' post1 n1' t1':=TriC.cast H h1 rfl rfl h4 h5 h6 rfl rfl rfl
theorem kF(h1:pre=pre1:=by kernel_rfl)(h4:post=post1:=by kernel_rfl)(h5:n'=n1':=by first|exact nf _ _ _|rfl)(h6:t'=t1':=by first|exact nf _ _ _|rfl)(h9:r=r1:=by kernel_rfl):TriC M S B C cd gh pre1 n t r1 gh' post1 n1' t1':=TriC.cast H h1 rfl rfl h4 h5 h6 rfl rfl h9
theorem kA(h1:pre=pre1:=by kernel_rfl)(h2:n=n1:=by kernel_rfl)(h3:t=t1:=by kernel_rfl)(h4:post=post1:=by kernel_rfl)(h5:n'=n1':=by kernel_rfl)(h6:t'=t1':=by kernel_rfl)(h9:r=r1:=by kernel_rfl):TriC M S B C cd gh pre1 n1 t1 r1 gh' post1 n1' t1':=TriC.cast H h1 h2 h3 h4 h5 h6 rfl rfl h9
theorem kG{cd1:Xo}(h0:cd1=cd:=by kernel_rfl)(h1:pre=pre1:=by kernel_rfl)(h2:n=n1:=by kernel_rfl)(h3:t=t1:=by kernel_rfl)(h4:post=post1:=by kernel_rfl)(h5:n'=n1':=by kernel_rfl)(h6:t'=t1':=by kernel_rfl)(h9:r=r1:=by kernel_rfl):TriC M S B C cd1 gh pre1 n1 t1 r1 gh' post1 n1' t1':=TriC.code h0 (TriC.cast H h1 h2 h3 h4 h5 h6 rfl rfl h9)
end
noncomputable def az(l:List Nat)(i:Nat):Nat:=l.getD i 0
theorem bA{α:Type}(l:List α):l=l++[]:=(List.append_nil l).symm
theorem cA{a b:Nat}(h:a≤b):∀Γ,Lim Γ b→Lim Γ a:=fun Γ H=>⟨H.1,by have:=H.2;omega⟩
abbrev bd(w:Z8)(b c:Bool)(A:AS)(s:BS):gHs:=eD (bx A) (aj w b c A s)
abbrev TB(w:Z8)(b c:Bool)(A:AS)(L:Nat)(cd:Xo)(gh X:gHs)(s:BS)(n t:Nat)(r:Xc)(gh' Y:gHs)(s':BS)(n' t':Nat):Prop:=
 Tri (MM w b c) (cn (PP w b c)) 1971 L cd gh (bd w b c A s++X) (Zd n 1971) (Zd t 5571) r gh' (bd w b c A s'++Y) (Zd n' 1971) (Zd t' 5571)
abbrev TA(w:Z8)(b c:Bool)(A:AS)(L:Nat)(bl:List (Xo×Z4))(cd:Xo)(gh X:gHs)(s:BS)(n t:Nat)(r:Xc)(gh' Y:gHs)(s':BS)(n' t':Nat):Prop:=
 TriAt (MM w b c) (cn (PP w b c)) 1971 L bl cd gh (bd w b c A s++X) (Zd n 1971) (Zd t 5571) r gh' (bd w b c A s'++Y) (Zd n' 1971) (Zd t' 5571)
theorem fk{M:Model}{g:Cfg}{C:Ctx→Prop}{k:Call}{l:List Call}(H:TriC M g.S g.B C k.cd (g.G k.c) (eD g.rho k.pre) (g.rho k.c) (g.tok k.tk) k.r (g.G k.c') (eD g.rho k.post) (g.rho k.c') (g.tok k.tk'))(T:∀x∈l,d9 M g C x)(ok:k.okB=true:=by kernel_rfl):∀x∈k::l,d9 M g C x:=ab ⟨ok,H⟩ T
noncomputable def vz(s:BS):Nat→Int:=fun k=>(s.z k).1
noncomputable def vp(s:BS):Nat→Int:=fun k=>(s.p k).1
noncomputable def vr(s:BS):Nat→Int:=fun k=>(s.r k).1
noncomputable def bc(v:Nat→Int)(i:Nat)(x:Int):Nat→Int:=fun j=>if j=i then x else v j
theorem bB(z:Nat→Int×Nat)(i:Nat)(x:Int)(t j:Nat):(up z i x t j).1=bc (fun j=>(z j).1) i x j:=by
 unfold up bc
 by_cases h:j=i
 ·subst h;rw[if_pos rfl,show Ze j j=true from Nat.beq_refl j]
 ·rw[if_neg h]
  cases e:Ze i j with
  |false=>rfl
  |true=>exact absurd (Zs e).symm h
def bD:List Int→Int→Bool
 |[],_=>false
 |v::l,k=>G6 k (.int v 0)||bD l k
theorem ch:2≤1971:=by decide
theorem bf{l:List (Bool×Bool)}(h:(l.all fun x=>x.1==x.2)=true:=by decide +kernel):∀x∈l,x.1=x.2:=fun x hx=>eq_of_beq (List.all_eq_true.mp h x hx)
section
variable{p:Xf}{w:Z8}{S:HT}{B:Nat}{C:Ctx→Prop}{cd:Xo}{gh pre:gHs}{n t t':Nat}{f:Flow}
theorem o4(hC:∀Γ,C Γ→Γ.handled=none)(H:∀Γ P h gs d os,Γ.handled=none→(∀a o,S.getK (a+1)=some o→h.get? a=some o)→(∀x∈pre,h.get? x.1=some x.2)→Xg (model p w) Γ P ((model p w).den cd) [] ⟨h,gs,d,t,os⟩ (.ret (.ok f)) ⟨h,gs,d,t',os⟩):
  TriC (model p w) S B C cd gh pre n t (.ok f) gh pre n t':=by
 intro nd lo big Γ P h gs d os hΓ hL hn hs hp hgh
 exact⟨h,H Γ P h gs d os (hC Γ hL) hs hp,hn,Zm _,rfl,nd,fun x hx=>⟨.inl (Qq.mpr ⟨x,hx,rfl⟩),hp x hx⟩,fun _ _ _ o ho=>ho,fun x hx=>⟨(hgh x hx).1,(hgh x hx).2,.inl (Qq.mpr ⟨x,hx,rfl⟩)⟩⟩
end
def BQ(P:Z5):List Z7:=match (nX P).data with|.dict es _=>es.toList|_=>[]
def rn(P:Z5)(i:Int):Bool:=(bC (BQ P) i).isSome
section
variable{w:Z8}{b c:Bool}{B:Nat}{C:Ctx→Prop}{gh:gHs}{n t:Nat}(hC:∀Γ,C Γ→Γ.handled=none)
include hC
theorem bt{i:Int}{u:Nat}{v:Bool}(h:rn (PP w b c) i=v):TriC (MM w b c) (cn (PP w b c)) B C (.builtin "dict.__contains__" ⟨[.ref 1216,.int i u],[]⟩) gh [] n t (.ok (.ret (.bool v))) gh [] n (t+1):=by
 refine o4 hC fun Γ P h' gs d os hh hs hp=>?_
 have ho:h'.get? 1216=some (nX (PP w b c)):=hs 1216 _ (by kernel_rfl)
 have e:=nr (prog:=prog2) (w:=W2 w b c) (Γ:=Γ) (p:=P) (d:=1216) (k:=i) (t:=u) (o:=nX (PP w b c)) (es:=⟨BQ (PP w b c)⟩) (ep:=36) (s:=⟨h',gs,d,t,os⟩) hh (by decide) ho (by kernel_rfl) (rq (by kernel_rfl))
 rw[lr]at e
 rw[←h];exact e
theorem br{i:Int}{u:Nat}{v:Bool}(h:gV [.int 256 5101,.int 384 5102,.int 768 5103] i=v):TriC (MM w b c) (cn (PP w b c)) B C (.builtin "tuple.__contains__" ⟨[.ref 1710,.int i u],[]⟩) gh [] n t (.ok (.ret (.bool v))) gh [] n t:=by
 refine o4 hC fun Γ P h' gs d os hh hs hp=>?_
 have ho:h'.get? 1710=some (y8 (PP w b c)):=hs 1710 _ (by kernel_rfl)
 have e:=jn (prog:=prog2) (w:=W2 w b c) (Γ:=Γ) (p:=P) (d:=1710) (k:=i) (t:=u) (s:=⟨h',gs,d,t,os⟩) (l:=[.int 256 5101,.int 384 5102,.int 768 5103]) (n:=0) (dd:=none) (sl:=#[]) hh ho rfl
 rw[←h];exact e
end
inductive ReadOkX (w:Z8) (b c:Bool) (A:AS) (s:BS) (i:Nat) (m v:Int) (gh:gHs) (n t ti tm:Nat):Prop where
 |mk (tv n' t':Nat) (h0_:TB w b c A 40 (.call (.ref 1428) ⟨[.ref (Zd (A.a 2) 1971),.int (Zo i) ti,.int m tm],[]⟩) gh [] s n t (.ok (.ret (.int v tv))) gh [] s n' t'):ReadOkX w b c A s i m v gh n t ti tm
def b0(w:Z8)(b c:Bool)(A:AS)(s:BS)(i:Nat)(m v:Int):Prop:=∀(gh:gHs) (n t ti tm:Nat),ReadOkX w b c A s i m v gh n t ti tm
inductive ReadMOkX (w:Z8) (b c:Bool) (A:AS) (s:BS) (i:Nat) (v:Int) (gh:gHs) (n t ti:Nat):Prop where
 |mk (tv n' t':Nat) (h0_:TB w b c A 40 (.call (.ref 1428) ⟨[.ref (Zd (A.a 2) 1971),.int (Zo i) ti],[]⟩) gh [] s n t (.ok (.ret (.int v tv))) gh [] s n' t'):ReadMOkX w b c A s i v gh n t ti
def eN(w:Z8)(b c:Bool)(A:AS)(s:BS)(i:Nat)(v:Int):Prop:=∀(gh:gHs) (n t ti:Nat),ReadMOkX w b c A s i v gh n t ti
inductive WriteOkX (w:Z8) (b c:Bool) (A:AS) (s:BS) (i:Nat) (m v:Int) (fz fp:Nat→Int) (gh:gHs) (n t ti tv tm:Nat):Prop where
 |mk (z1 p1:Nat→Int×Nat) (n' t':Nat) (h0_:(∀k,(z1 k).1=fz k)) (h1_:(∀k,(p1 k).1=fp k)) (h2_:TB w b c A 40 (.call (.ref 1450) ⟨[.ref (Zd (A.a 2) 1971),.int (Zo i) ti,.int v tv,.int m tm],[]⟩) gh [] s n t (.ok (.ret .none)) gh [] ⟨z1,p1,s.r,s.pc,s.md,s.sp,s.es,s.em⟩ n' t'):WriteOkX w b c A s i m v fz fp gh n t ti tv tm
def ce(w:Z8)(b c:Bool)(A:AS)(s:BS)(i:Nat)(m v:Int)(fz fp:Nat→Int):Prop:=∀(gh:gHs) (n t ti tv tm:Nat),WriteOkX w b c A s i m v fz fp gh n t ti tv tm
section
variable(w:Z8)(b c:Bool)(A:AS)(s:BS)
include w b c A s
section
variable(i:Nat)
include i
section
variable(m:Int)
include m
theorem Cv(hp:i∈plainL)(he:He (uP i m)):b0 w b c A s i m ((s.p i).1):=fun gh n t ti tm=>
 ⟨(s.p i).2,n+2,t+12,kE (P3 w b c A s gh n t 0 i ti tm m 0 0 (fk (ga ac ch hp)<|fk (cg ac hp)<|aa) he)⟩
section
variable(hp:i∉plainL)(hn:rn (PP w b c) (Zo i)=true)
include hp hn
theorem Cw(he:He (uQ i m)):b0 w b c A s i m ((s.z 384).1):=fun gh n t ti tm=>
 ⟨(s.z 384).2,n+3,t+23,kE (P4 w b c A s gh n t 0 i ti tm m 0 0 (fk (bj ac ch hp)<|fk (bt ac hn)<|aa) he)⟩
section
variable(j:Nat)(xw:Int)(tw:Nat)(hj:Za (Zo i) 3=(j:Int))(hx:[zv s 2816,zv s 2816,zv s 2818][j]?=some (.int xw tw))(hk:j≤1000000)
include j xw tw hj hx hk
theorem nl(he:He (uR s i m)):b0 w b c A s i m (Za xw 4294967295):=fun gh n t ti tm=>
 ⟨Zd t 5612,n+6,t+42,kE (P5 w b c A s gh n t 0 i ti tm m xw tw (fk (bj ac ch hp)<|fk (bt ac hn)<|fk (cg ac (i:=774) (by decide))<|fk (TriC.code (congrArg (fun x=>Code.builtin "list.__getitem__" ⟨[.ref _,.int x _],[]⟩) hj) (ar ac (k:=j) hx hk))<|aa) he)⟩
theorem np(he:He (uS s i m)):b0 w b c A s i m (Za xw 4294967295):=fun gh n t ti tm=>
 ⟨Zd t 5616,n+6,t+46,kE (P7 w b c A s gh n t 0 i ti tm m xw tw (fk (bj ac ch hp)<|fk (bt ac hn)<|fk (cg ac (i:=774) (by decide))<|fk (cg ac (i:=262) (by decide))<|fk (TriC.code (congrArg (fun x=>Code.builtin "list.__getitem__" ⟨[.ref _,.int x _],[]⟩) hj) (ar ac (k:=j) hx hk))<|aa) he)⟩
theorem zt(he:He (rH s i m)):b0 w b c A s i m (Za (aw xw 32) 4294967295):=fun gh n t ti tm=>
 ⟨Zd t 5614,n+6,t+44,kE (LC w b c A s gh n t 0 i ti tm m xw tw (fk (bj ac ch hp)<|fk (bt ac hn)<|fk (cg ac (i:=774) (by decide))<|fk (TriC.code (congrArg (fun x=>Code.builtin "list.__getitem__" ⟨[.ref _,.int x _],[]⟩) hj) (ar ac (k:=j) hx hk))<|aa) he)⟩
theorem zu(he:He (rI s i m)):b0 w b c A s i m (Za (aw xw 32) 4294967295):=fun gh n t ti tm=>
 ⟨Zd t 5618,n+6,t+48,kE (LD w b c A s gh n t 0 i ti tm m xw tw (fk (bj ac ch hp)<|fk (bt ac hn)<|fk (cg ac (i:=774) (by decide))<|fk (cg ac (i:=262) (by decide))<|fk (TriC.code (congrArg (fun x=>Code.builtin "list.__getitem__" ⟨[.ref _,.int x _],[]⟩) hj) (ar ac (k:=j) hx hk))<|aa) he)⟩
end
end
section
variable(v:Int)
include v
section
variable(hp:i∈plainL)(hn:rn (PP w b c) (Zo i)=true)
include hp hn
theorem zU(he:He [(bD [321,833] (Zo i),false),(bD [262,774] (Zo i),false),(bD [261,773] (Zo i),false),(Xl (Za (aw (Zo i) 10) 3) 3,false),(Xl (aw (Zo i) 8) 12,false),(decide (Xm m (Za (aw (Zo i) 8) 3)),false)]):ce w b c A s i m v (vz s) (bc (vp s) i (Za v 4294967295)):=fun gh n t ti tv tm=>
 ⟨s.z,up s.p i (Za v 4294967295) (Zd t 5593),n+8,t+37,fun _=>rfl,fun k=>bB _ _ _ _ k,kE (Me w b c A s gh n t 0 i ti tm tv m v (up s.p i (Za v 4294967295) (Zd t 5593)) (fk (bt ac hn)<|fk (ga ac ch hp)<|fk (kZ ac hp)<|aa) he)⟩
theorem zV(he:He [(bD [321,833] (Zo i),true),(bD [262,774] (Zo i),false),(bD [261,773] (Zo i),false),(Xl (Za (aw (Zo i) 10) 3) 3,false),(Xl (aw (Zo i) 8) 12,false),(decide (Xm m (Za (aw (Zo i) 8) 3)),false)]):ce w b c A s i m v (vz s) (bc (vp s) i (Za (Za v 4294967295) 4294967292)):=fun gh n t ti tv tm=>
 ⟨s.z,up s.p i (Za (Za v 4294967295) 4294967292) (Zd t 5608),n+8,t+40,fun _=>rfl,fun k=>bB _ _ _ _ k,kE (Mf w b c A s gh n t 0 i ti tm tv m v (up s.p i (Za (Za v 4294967295) 4294967292) (Zd t 5608)) (fk (bt ac hn)<|fk (ga ac ch hp)<|fk (kZ ac hp)<|aa) he)⟩
theorem zW(he:He [(bD [261,773] (Zo i),true),(Xl (Za (aw (Zo i) 10) 3) 3,false),(Xl (aw (Zo i) 8) 12,false),(decide (Xm m (Za (aw (Zo i) 8) 3)),false)]):ce w b c A s i m v (vz s) (bc (vp s) i (Za (Za v 4294967295) 4294967293)):=fun gh n t ti tv tm=>
 ⟨s.z,up s.p i (Za (Za v 4294967295) 4294967293) (Zd t 5605),n+7,t+37,fun _=>rfl,fun k=>bB _ _ _ _ k,kE (Mg w b c A s gh n t 0 i ti tm tv m v (up s.p i (Za (Za v 4294967295) 4294967293) (Zd t 5605)) (fk (bt ac hn)<|fk (ga ac ch hp)<|fk (kZ ac hp)<|aa) he)⟩
section
variable(he:He [(bD [262,774] (Zo i),true),(bD [261,773] (Zo i),false),(Xl (Za (aw (Zo i) 10) 3) 3,false),(Xl (aw (Zo i) 8) 12,false),(decide (Xm m (Za (aw (Zo i) 8) 3)),false)])
include he
theorem zY:ce w b c A s i m v (vz s) (bc (vp s) i (Za (Za v 4294967295) 7)):=fun gh n t ti tv tm=>
 ⟨s.z,up s.p i (Za (Za v 4294967295) 7) (Zd t 5604),n+7,t+36,fun _=>rfl,fun k=>bB _ _ _ _ k,kE (Mi w b c A s gh n t 0 i ti tm tv m v (up s.p i (Za (Za v 4294967295) 7) (Zd t 5604)) (fk (bt ac hn)<|fk (ga ac ch hp)<|fk (kZ ac hp)<|aa) he)⟩
end
end
section
variable(hp:i∉plainL)(hn:rn (PP w b c) (Zo i)=true)
include hp hn
theorem zX(he:He (rM i m)):ce w b c A s i m v (bc (vz s) 384 (Za (Za v 4294967295) 2151677951)) (vp s):=fun gh n t ti tv tm=>
 ⟨up s.z 384 (Za (Za v 4294967295) 2151677951) (Zd t 5602),s.p,n+4,t+34,fun k=>bB _ _ _ _ k,fun _=>rfl,kE (Mh w b c A s gh n t 0 i ti tm tv m v s.p (fk (bt ac hn)<|fk (bj ac ch hp)<|aa) he)⟩
end
end
end
theorem zn(hp:i∈plainL)(he:He (rz i)):eN w b c A s i ((s.p i).1):=fun gh n t ti=>
 ⟨(s.p i).2,n+2,t+12,kE (Lr w b c A s gh n t 0 i ti 0 0 (fk (ga ac ch hp)<|fk (cg ac hp)<|aa) he)⟩
section
variable(hp:i∉plainL)(hn:rn (PP w b c) (Zo i)=true)
include hp hn
theorem zo(he:He (rB i)):eN w b c A s i ((s.z 770).1):=fun gh n t ti=>
 ⟨(s.z 770).2,n+4,t+25,kE (Ls w b c A s gh n t 0 i ti 0 0 (fk (bj ac ch hp)<|fk (bt ac hn)<|aa) he)⟩
theorem zp(he:He (rC i)):eN w b c A s i ((s.z 771).1):=fun gh n t ti=>
 ⟨(s.z 771).2,n+4,t+26,kE (Lt w b c A s gh n t 0 i ti 0 0 (fk (bj ac ch hp)<|fk (bt ac hn)<|aa) he)⟩
section
variable(j:Nat)(xw:Int)(tw:Nat)(hj:Za (Zo i) 3=(j:Int))(hx:[zv s 2816,zv s 2816,zv s 2818][j]?=some (.int xw tw))(hk:j≤1000000)
include j xw tw hj hx hk
theorem pV(he:He (rD i)):eN w b c A s i (Za xw 4294967295):=fun gh n t ti=>
 ⟨Zd t 5602,n+6,t+32,kE (Lu w b c A s gh n t 0 i ti xw tw (fk (bj ac ch hp)<|fk (bt ac hn)<|fk (TriC.code (congrArg (fun x=>Code.builtin "list.__getitem__" ⟨[.ref _,.int x _],[]⟩) hj) (ar ac (k:=j) hx hk))<|aa) he)⟩
theorem pW(he:He (rE i)):eN w b c A s i (Za (aw xw 32) 4294967295):=fun gh n t ti=>
 ⟨Zd t 5604,n+6,t+34,kE (Lv w b c A s gh n t 0 i ti xw tw (fk (bj ac ch hp)<|fk (bt ac hn)<|fk (TriC.code (congrArg (fun x=>Code.builtin "list.__getitem__" ⟨[.ref _,.int x _],[]⟩) hj) (ar ac (k:=j) hx hk))<|aa) he)⟩
end
theorem vy(he:He (pU i)):eN w b c A s i ((s.z 3860).1):=fun gh n t ti=>
 ⟨(s.z 3860).2,n+4,t+23,kE (FD w b c A s gh n t 0 i ti 0 0 (fk (bj ac ch hp)<|fk (bt ac hn)<|aa) he)⟩
end
end
end
def TG:=LZ [1034000,17,0,17,1007000,1006018,2000018,18,18,0,0,0,0,1004019,0,0,0,19,19,17,0,17,0,17,17,17,19,19,17,0,0,9000017,17,0,17,0,0,9000017,17,21,21,21,18,18,17,0,0,9000017,17,0,17,0,0,9000017,21,21,21,18,18,17,0,0,9000017,17,0,17,0,0,9000017,21,21,21,17,17,0,17,17,0,17,17]
def yR:=LZ [13,6003004,13,13,0,0,0,1006014,0,14,0,14,7015000,0,2,14,0,0,0,0]
def nR:=LZ [12,17,17,17,22,22,17,22,22,22,13,17,17,17,23,23]
def pF:=LZ (TG++[14,14,13,13,8,8,9,9,10,10,11,11])
def TH:=LZ [1006013,0,13,13,2003004,5,5,5,1001,13,0,13,7014000,0,2,13,6003004,13,13,0,0,0,1006015,0,15,0,15,7016000,0,1,1034000,18,0,18,1007000,1006019,2000019,19,19,0,0,0,0,1004020,0,0,0,20,20,18,0,18,0,18,18,18,20,20,18,0,0,9000018,18,0,18,0,0,9000018,18,22,22,22,19,19,18,0,0,9000018,18,0,18,0,0,9000018,22,22,22,19,19,18,0,0,9000018,18,0,18,0,0,9000018,22,22,22,18,18,0,18,18,0,18,18]
def G4:=LZ ([0,0,1006013,0,13,13,2003004,5,5,5,1001]++yR++[1002])
def G5:=LZ ([13,6003004,13,13,0,0,0,1006014,0,14,0,14,7015000,0,1]++pF)
def TI:=LZ ([0,0,0,1008013,0]++yR++[1001,14,0,1,14,0,1,14,0,2,14,2003004,5,5,5,5,1002,14,2003004,5,5,5,5,1003,1004014,2,1]++pF)
def TJ:=LZ ([0,0,1008013,0]++yR++[1001,14,0,1,14,0,1,14,0,1,14,2003004,5,5,5,5,1002,1004014,2,1]++pF)
section
variable(w:Z8)(b c:Bool)(A:AS)(s:BS)(gh:gHs)(n t L:Nat)(i ti tm tv it c1 c2 c3:Nat)(m v:Int)(fe:Nat→Array Z7)(fm:Nat→Nat)(q:Nat→Z4)(y:Bool)
def zj:Bool:=(lU (Za (Zo i) 3))
def uM:Bool:=(Xl (aw (Zo i) 8) 12)
def oq:Bool:=(decide (Xm m (Za (aw (Zo i) 8) 3)))
def OX:List (Bool×Bool):=[(Xl (Za (aw (s.p 774).1 (Za (Zo i) 3)) 1) 0,true),(zj i,false),(Xl m 1,true),(decide (Xm m 3),true),(uM i,true),(oq i m,false)]
noncomputable def oO(Y0:Nat):Xc:=.error (.ref (Zd n Y0))
noncomputable def OY:List (Nat×Nat):=[(12,Zd n 1971)]
noncomputable def OZ:List (Nat×Nat):=[(0,Zd t 5571)]
def lM:List (Xo×Z4):=(QO it (Zd (A.a 7) 1971) (Zd (A.a 8) 1971) (Zd (A.a 9) 1971) (Zd (A.a 10) 1971) (Zd (A.a 11) 1971) c1 c2 c3 q)
def sI:Xo:=(cR 1428 [.ref (Zd (A.a 2) 1971),.int (Zo i) ti,.int m tm])
def lN:List (Nat×Obj):=(aj w b c A s++[(7,aY (fe 0) (fm 0) #[]),(8,aY (fe 1) (fm 1) #[]),(9,aY (fe 2) (fm 2) #[]),(10,aY (fe 3) (fm 3) #[]),(11,aY (fe 4) (fm 4) (cond y (ck c1 c2 c3) #[]))])
def lP(PL:Nat→Z6)(x0 x1 x2 x3 x4 x5 x6 x7 x8 x9 x10:Nat):List (Nat×Obj):=(aj w b c A s++[(7,aY (fe 0) (fm 0) (bH 1897 1898 (rA A 8))),(8,aY (fe 1) (fm 1) (bH 1890 1891 (rA A 9))),(9,aY (fe 2) (fm 2) (bH 1876 1877 (rA A 10))),(10,aY (fe 3) (fm 3) (bH 1964 1965 (rA A 11))),(11,aY (fe 4) (fm 4) (ck c1 c2 c3)),(x0,⟨.ref 91,some (Zd n x1),.fields ⟨[.ref (Zd n x2),.ref (Zd n x3),.none,.none,.bool false,.none]⟩,#[]⟩),(x4,dO [ae w b c tD (Zd t x5) (.str NM (Zd t x6)),ae w b c tF (Zd t x7) (.int 2 281),ae w b c gA (Zd t x8) (.int 0 305)] 3),(x9,fF (.ref (Zd n x10)) (Zd n 1971) .none PL)])
def zi:Call:=cS (cB "dict.__contains__" [rA A 4,.int (Zo i) ti]) 13 4 [(4,d4 (PP w b c) A s)] (rV (.bool false)) 13 5
def sJ(x0 x1:Nat):Call:=cS (cB "dict.__contains__" [.ref 1216,.int (Zo i) ti]) 15 x0 [] (rV (.bool true)) 15 x1
def sK(x0 x1 x2:Nat):Call:=cS (cB "dict.__getitem__" [rA A 4,.int 774 (Zd t x0)]) 15 x1 [(4,d4 (PP w b c) A s)] (rV (pv s 774)) 15 x2
def Co:Bool:=(Xl (Za (aw (Za (s.p 774).1 (s.p 262).1) (Za (Zo i) 3)) 1) 0)
def uN:Xo:=(cR 1450 [.ref (Zd (A.a 2) 1971),.int (Zo i) ti,.int v tv,.int m tm])
abbrev qC:=xR w b c A gh L 40 (OY n) (OZ t)
def rF:List (Bool×Bool):=[(oq i m,true),(decide (GE.ge m (Za (aw (Zo i) 8) 3)),false)]
def rG:List (Bool×Bool):=[(Co s i,true),(zj i,false),(Xl m 1,false),(decide (Xm m 3),true),(uM i,true),(oq i m,false)]
def qb:List (Bool×Bool):=[(Co s i,true),(zj i,false),(Xl m 1,false),(decide (Xm m 3),true),(uM i,true),(oq i m,false)]
include w b c A s gh n t L i ti tm tv it c1 c2 c3 m v fe fm q y
theorem Lw:qC w b c A gh n t L [cS (cB "dict.__contains__" [rA A 4,.int (Zo i) ti]) 13 4 [(4,d4 (PP w b c) A s)] (rV (.bool true)) 13 5] (rF i m) (lM A it c1 c2 c3 q) (sI A i ti tm m) 12 (lN w b c A s c1 c2 c3 fe fm y) (oO n 1976) 24 (fun PL=>lP w b c A s n t c1 c2 c3 fe fm PL 17 1980 1979 1982 21 5606 5601 5608 5610 23 1981) 40:=ie (hm ([0,0,0]++TH++[15,15,13,13,8,8,9,9,10,10,11,11]++cond y [] [12]++[12,18,18,18,23,23,18,23,23,23,13,18,18,18,24,24])) 23 (hq:=by intro p;cases y<;>kernel_rfl)
theorem Lx:qC w b c A gh n t L [zi w b c A s i ti] [(oq i m,true)] (lM A it c1 c2 c3 q) (sI A i ti tm m) 12 (lN w b c A s c1 c2 c3 fe fm y) (oO n 1975) 23 (fun PL=>lP w b c A s n t c1 c2 c3 fe fm PL 16 1979 1978 1981 20 5601 5596 5603 5605 22 1980) 35:=ie (hm ([0,0,0,1006013,0,13,13,2003004,5,5,5,1001]++G5++cond y [] [12]++nR)) 22 (hq:=by intro p;cases y<;>kernel_rfl)
theorem Ly:qC w b c A gh n t L [zi w b c A s i ti,sJ i ti 13 14,sK w b c A s t 5589 19 20] (OX s i m) (lM A it c1 c2 c3 q) (sI A i ti tm m) 12 (lN w b c A s c1 c2 c3 fe fm y) (oO n 1975) 23 (fun PL=>lP w b c A s n t c1 c2 c3 fe fm PL 16 1979 1978 1981 20 5615 5610 5617 5619 22 1980) 49:=ie (hm ([0]++G4++[14,0,1,14,0,1,14,0,1,14,2003004,5,5,5,5,1003,1004014,2,1]++pF++cond y [] [12]++nR)) 22 (hq:=by intro p;cases y<;>kernel_rfl)
theorem LA:qC w b c A gh n t L [zi w b c A s i ti,sJ i ti 13 14,sK w b c A s t 5589 19 20,cS (cB "dict.__getitem__" [rA A 4,.int 262 (Zd t 5592)]) 15 22 [(4,d4 (PP w b c) A s)] (rV (pv s 262)) 15 23] (rG s i m) (lM A it c1 c2 c3 q) (sI A i ti tm m) 12 (lN w b c A s c1 c2 c3 fe fm y) (oO n 1975) 23 (fun PL=>lP w b c A s n t c1 c2 c3 fe fm PL 16 1979 1978 1981 20 5619 5614 5621 5623 22 1980) 53:=ie (hm ([0]++G4++[14,0,1,14,0,1,14,0,2,14,2003004,5,5,5,5,1003,14,2003004,5,5,5,5,1004,1004014,2,1]++pF++cond y [] [12]++nR)) 22 (hq:=by intro p;cases y<;>kernel_rfl)
theorem Gd:NT w b c A gh L 40 (OY n) (OZ t) [(oq i m,true)] (lM A it c1 c2 c3 q) (uN A i ti tm tv m v) 12 (lN w b c A s c1 c2 c3 fe fm y) (oO n 1975) 23 (fun PL=>lP w b c A s n t c1 c2 c3 fe fm PL 16 1979 1978 1981 20 5600 5595 5602 5604 22 1980) 34:=TW (hm ([0,0,0,1008013,0]++G5++cond y [] [12]++nR)) 22 (hq:=by intro p;cases y<;>kernel_rfl)
theorem Ge:qC w b c A gh n t L [sJ i ti 12 13,sK w b c A s t 5588 18 19] (OX s i m) (lM A it c1 c2 c3 q) (uN A i ti tm tv m v) 12 (lN w b c A s c1 c2 c3 fe fm y) (oO n 1975) 23 (fun PL=>lP w b c A s n t c1 c2 c3 fe fm PL 16 1979 1978 1981 20 5614 5609 5616 5618 22 1980) 48:=ie (hm ([0]++TJ++cond y [] [12]++nR)) 22 (hq:=by intro p;cases y<;>kernel_rfl)
theorem Gf:qC w b c A gh n t L [sJ i ti 12 13,sK w b c A s t 5588 18 19,cS (cB "dict.__getitem__" [rA A 4,.int 262 (Zd t 5591)]) 15 21 [(4,d4 (PP w b c) A s)] (rV (pv s 262)) 15 22] (qb s i m) (lM A it c1 c2 c3 q) (uN A i ti tm tv m v) 12 (lN w b c A s c1 c2 c3 fe fm y) (oO n 1975) 23 (fun PL=>lP w b c A s n t c1 c2 c3 fe fm PL 16 1979 1978 1981 20 5618 5613 5620 5622 22 1980) 52:=ie (hm (TI++cond y [] [12]++nR)) 22 (hq:=by intro p;cases y<;>kernel_rfl)
end
def TF:=LZ [13,7016000,0,1,1034000,18,0,18,1007000,1006019,2000019,19,19,0,0,0,0,1004020,0,0,0,20,20,18,0,18,0,18,18,18,20,20,18,0,0,9000018,18,0,18,0,0,9000018,18,22,22,22,19,19,18,0,0,9000018,18,0,18,0,0,9000018,22,22,22,19,19,18,0,0,9000018,18,0,18,0,0,9000018,22,22,22,18,18,0,18]
def G1:=LZ [0,0,1008013,0,13,6003004,13,13,0,0,0,1006014,0,14,0,14,7015000,0,2,14,0,0,0,0,1001,14]
def G2:=LZ (TF++[18,0,18,18,13,13,8,8,9,9,10,10,11,11,12])
section
variable(w:Z8)(b c:Bool)(A:AS)(s:BS)(gh:gHs)(n t L:Nat)(i ti tm tv it c1 c2 c3:Nat)(m v:Int)(fe:Nat→Array Z7)(fm:Nat→Nat)(q:Nat→Z4)(y:Bool)
noncomputable def OW:Xc:=.error (.ref (Zd n 1976))
noncomputable def ZN:List (Nat×Nat):=[(12,Zd n 1971)]
noncomputable def ZO:List (Nat×Nat):=[(0,Zd t 5571)]
def ZP:Bool×Bool:=(Xl (Za (aw (s.p 774).1 (Za (Zo i) 3)) 1) 0,false)
def JB:Call:=cS (cB "dict.__contains__" [.ref 1216,.int (Zo i) ti]) 15 12 [] (rV (.bool true)) 15 13
def JC:Bool:=(Xl (Za (aw (Zo i) 10) 3) 3)
def JD:Bool:=(Xl (aw (Zo i) 8) 12)
def JE:Bool:=(decide (Xm m (Za (aw (Zo i) 8) 3)))
def JF:List (Xo×Z4):=(QO it (Zd (A.a 7) 1971) (Zd (A.a 8) 1971) (Zd (A.a 9) 1971) (Zd (A.a 10) 1971) (Zd (A.a 11) 1971) c1 c2 c3 q)
def JG:Xo:=(cR 1450 [.ref (Zd (A.a 2) 1971),.int (Zo i) ti,.int v tv,.int m tm])
def JH:List (Nat×Obj):=(aj w b c A s++[(7,aY (fe 0) (fm 0) #[]),(8,aY (fe 1) (fm 1) #[]),(9,aY (fe 2) (fm 2) #[]),(10,aY (fe 3) (fm 3) #[]),(11,aY (fe 4) (fm 4) (cond y (ck c1 c2 c3) #[]))])
def JI(PL:Nat→Z6)(x0 x1 x2 x3:Nat):List (Nat×Obj):=(aj w b c A s++[(7,aY (fe 0) (fm 0) (bH 1897 1898 (rA A 8))),(8,aY (fe 1) (fm 1) (bH 1890 1891 (rA A 9))),(9,aY (fe 2) (fm 2) (bH 1876 1877 (rA A 10))),(10,aY (fe 3) (fm 3) (bH 1964 1965 (rA A 11))),(11,aY (fe 4) (fm 4) (ck c1 c2 c3)),(17,⟨.ref 91,some (Zd n 1980),.fields ⟨[.ref (Zd n 1979),.ref (Zd n 1981),.none,.none,.bool false,.none]⟩,#[]⟩),(21,dO [ae w b c tD (Zd t x0) (.str NM (Zd t x1)),ae w b c tF (Zd t x2) (.int 2 281),ae w b c gA (Zd t x3) (.int 0 305)] 3),(22,fF .none (Zd n 1971) .none PL)])
def JJ:Call:=cS (cB "dict.__getitem__" [rA A 4,.int 774 (Zd t 5588)]) 15 18 [(4,d4 (PP w b c) A s)] (rV (pv s 774)) 15 19
def Ua:Call:=cS (cB "dict.__getitem__" [rA A 4,.int 262 (Zd t 5591)]) 15 21 [(4,d4 (PP w b c) A s)] (rV (pv s 262)) 15 22
def PS:Bool:=(Xl (Za (aw (Za (s.p 774).1 (s.p 262).1) (Za (Zo i) 3)) 1) 0)
abbrev Pf:=xR w b c A gh L 40 (ZN n) (ZO t)
def p9:List (Bool×Bool):=[(JC i,true),ZP s i,(Xl m 1,true),(decide (Xm m 3),true),(JD i,true),(JE i m,false)]
def qa:List (Bool×Bool):=[(JC i,true),(PS s i,false),(Xl m 1,false),(decide (Xm m 3),true),(JD i,true),(JE i m,false)]
include w b c A s gh n t L i ti tm tv it c1 c2 c3 m v fe fm q y
theorem Gb:Pf w b c A gh n t L [JB i ti,JJ w b c A s t] (p9 s i m) (JF A it c1 c2 c3 q) (JG A i ti tm tv m v) 12 (JH w b c A s c1 c2 c3 fe fm y) (OW n) 23 (fun PL=>JI w b c A s n t c1 c2 c3 fe fm PL 5620 5615 5622 5624) 54:=ie (hm ([0]++G1++[0,1,14,0,1,14,0,1,14,2003004,5,5,5,5,1002,1004014,0,2,0]++G2++cond y [] [12]++[18,18,18,23,23])) 22 (hq:=by intro p;cases y<;>kernel_rfl)
theorem Gc:Pf w b c A gh n t L [JB i ti,JJ w b c A s t,Ua w b c A s t] (qa s i m) (JF A it c1 c2 c3 q) (JG A i ti tm tv m v) 12 (JH w b c A s c1 c2 c3 fe fm y) (OW n) 23 (fun PL=>JI w b c A s n t c1 c2 c3 fe fm PL 5624 5619 5626 5628) 58:=ie (hm ([0]++G1++[0,1,14,0,1,14,0,2,14,2003004,5,5,5,5,1002,14,2003004,5,5,5,5,1003,1004014,0,2,0]++G2++cond y [] [12]++[18,18,18,23,23])) 22 (hq:=by intro p;cases y<;>kernel_rfl)
end
theorem TriC.sub{M:Model}{S:HT}{B:Nat}{C:Ctx→Prop}{cd:Xo}{n t n' t':Nat}{r:Xc}{pre post post1 gh gh':gHs}(H:TriC M S B C cd gh pre n t r gh' post n' t')(h:post1.Sublist post):TriC M S B C cd gh pre n t r gh' post1 n' t':=by
  intro nd lo big Γ P h1 gs d os hΓ hL hsz hs hp hgh
  obtain⟨h',a1,a2,a3,a4,a5,a6,a7,a8⟩:=H nd lo big Γ P h1 gs d os hΓ hL hsz hs hp hgh
  have hm:=h.map (·.1)
  exact⟨h',a1,a2,a3,a4,a5.sublist hm,fun x hx=>a6 x (h.subset hx),a7,fun y hy=>⟨(a8 y hy).1,fun z=>(a8 y hy).2.1 (hm.subset z),(a8 y hy).2.2⟩⟩
def eZ(l:List (Nat×Nat))(f:Nat→Nat)(i:Nat):Nat:=@List.rec (Nat×Nat) (fun _=>Nat) (f i) (fun x _ ih=>@Xp (fun _=>Nat) ih x.2 (Ze x.1 i)) l
structure RC where
  it:Nat
  c1:Nat
  c2:Nat
  c3:Nat
  fe:Nat→Array Z7
  fm:Nat→Nat
  q:Nat→Z4
  sl:Array (Option Z6)
def RC.ok(R:RC):Prop:=R.sl=#[]∨R.sl=ck R.c1 R.c2 R.c3
theorem pY{α:Type}{x0 x1 x2 x3 x4 x5 x6 x7 x8 x9 x10 x11 x12 x13 x14:α}:[x0,x1,x2,x3,x4,x5,x6,x7,x8,x9,x10,x11,x12,x14].Sublist [x0,x1,x2,x3,x4,x5,x6,x7,x8,x9,x10,x11,x12,x13,x14]:=.cons₂ _ (.cons₂ _ (.cons₂ _ (.cons₂ _ (.cons₂ _ (.cons₂ _ (.cons₂ _ (.cons₂ _ (.cons₂ _ (.cons₂ _ (.cons₂ _ (.cons₂ _ (.cons₂ _ (.cons _ (.cons₂ _ .slnil))))))))))))))
theorem okB{it c1 c2 c3:Nat}{fe:Nat→Array Z7}{fm:Nat→Nat}{q:Nat→Z4}{sl:Array (Option Z6)}(h:RC.ok ⟨it,c1,c2,c3,fe,fm,q,sl⟩):∃y:Bool,sl=cond y (ck c1 c2 c3) #[]:=
  h.elim (fun e=>⟨false,e⟩) fun e=>⟨true,e⟩
def aR(A:AS)(f:Nat→Nat):AS:=⟨eZ [(7,f 0),(8,f 1),(9,f 2),(10,f 3),(11,f 4)] A.a,A.k⟩
noncomputable abbrev ad(x:Nat):Nat:=Zd x 1971
abbrev ZW(R:RC)(f:Nat→Nat):List (Xo×Z4):=QO R.it (ad (f 0)) (ad (f 1)) (ad (f 2)) (ad (f 3)) (ad (f 4)) R.c1 R.c2 R.c3 R.q
inductive RdRX (w:Z8) (b c:Bool) (A:AS) (s:BS) (cd:Xo) (R:RC) (f:Nat→Nat) (gh:gHs) (n t:Nat):Prop where
  |mk (xa xf e xd xb n' t':Nat) (xt:Z6) (pl:Nat→Z6) (h0_:e<n') (h1_:TA w b c A 40 (ZW R f) cd gh [(ad (f 0),aY (R.fe 0) (R.fm 0) #[]),(ad (f 1),aY (R.fe 1) (R.fm 1) #[]),(ad (f 2),aY (R.fe 2) (R.fm 2) #[]),(ad (f 3),aY (R.fe 3) (R.fm 3) #[]),(ad (f 4),aY (R.fe 4) (R.fm 4) R.sl)] s n t (.error (.ref (ad e))) gh
   [(ad (f 0),aY (R.fe 0) (R.fm 0) (bH 1897 1898 (.ref (ad (f 1))))),(ad (f 1),aY (R.fe 1) (R.fm 1) (bH 1890 1891 (.ref (ad (f 2))))),(ad (f 2),aY (R.fe 2) (R.fm 2) (bH 1876 1877 (.ref (ad (f 3))))),(ad (f 3),aY (R.fe 3) (R.fm 3) (bH 1964 1965 (.ref (ad (f 4))))),(ad (f 4),aY (R.fe 4) (R.fm 4) (ck R.c1 R.c2 R.c3)),
    (ad e,UL xa (ad xd) (ad xb)),(ad xb,fF xt xf .none pl)] s n' t'):RdRX w b c A s cd R f gh n t
def Uy(w:Z8)(b c:Bool)(A:AS)(s:BS)(cd:Xo):Prop:=∀(R:RC) (f:Nat→Nat) (gh:gHs) (n t:Nat),R.ok→RdRX w b c A s cd R f gh n t
def fb(w:Z8)(b c:Bool)(A:AS)(s:BS)(i:Nat)(m:Int):Prop:=∀ti tm,Uy w b c A s (.call (.ref 1428) ⟨[.ref (ad (A.a 2)),.int (Zo i) ti,.int m tm],[]⟩)
def cY(w:Z8)(b c:Bool)(A:AS)(s:BS)(i:Nat)(m v:Int):Prop:=∀ti tv tm,Uy w b c A s (.call (.ref 1450) ⟨[.ref (ad (A.a 2)),.int (Zo i) ti,.int v tv,.int m tm],[]⟩)
def uv:=LZ [1006010,0,10,2008009,10,2008009,10,2008009,3011012,12,9012011,12,14,1007010,7001,3002]
def eT:=LZ [2001002,6003004,10,10,2001002,0]
def BA:=LZ (uv++[1004010,2001002,10,2008009,6,6,6,6,1003,10,10,10,3004,3005,1005010,2008009,1,1004010]++eT++[1006])
def jf:=LZ (uv++[1004010,2008009,10,10,10,3003,3004])
def BB:=LZ (jf++[1005010,2008009,1,1004010]++eT++[1005,1005010])
def eH:=LZ [2001002,6003004,10,10,10,2001002]
def mN:=LZ [10,6001002,7017000,5001002,10,6001002,10,10,0,0,0,1006019,0]
def ke:=LZ ([0]++uv++[1004010,2001002,10,2008009,6,6,6,6,1003,10,10,10,3004,3005])
def kb:=LZ [10,6001002,10,10,0,0,0,1006017,0,17]
def kf:=LZ (kb++[1,17,17,2001002,17,6])
def pD:=LZ ([0]++BA++[1005010,3007,3008,1005010]++eH++[0,1009,10,10,0,0,0,0,1010])
def pE:=LZ ([0,0]++BA++[1005010,3007,3008,10,0,1004010]++eH++[0,1009,10,10,0,0])
def nN:=LZ (BB++[3006,3007,10,0,1004010]++eH++[0,1008,10,10,0,0,0,0,1009])
def nO:=LZ ([0,0]++BB++[3006,3007,1005010]++eH++[0,1008,10,10,0,0,0,0,1009])
def iR:=LZ (mN++[19,1,19,19,2001002,19,6,6,6])
def iS:=LZ [6001002,10,10,0,0,0,1006016,0]
section
variable(w:Z8)(b c:Bool)(A:AS)(s:BS)(gh:gHs)(n t L:Nat)(nn tt:Nat→Nat)(vv:Nat→Nat→Nat)(wd old:Int)(tw told j:Nat)(I:IS)(z1 p1 r1:Nat→Int×Nat)(lc fc:Str)
def nB:List (Nat×Obj):=[(7,iO 121 (Zd (A.a 8) 1971)),(8,iD (PP w b c) I)]
noncomputable def gI:Bool×Bool:=(bne I.rd 0,false)
noncomputable def gJ:Bool×Bool:=(bne I.rd 0,true)
def nC:List (Nat×Obj):=aj w b c A ⟨z1,p1,s.r,s.pc,s.md,s.sp,s.es,s.em⟩
noncomputable def ju:Bool×Bool:=(bne I.rs1 0,true)
noncomputable def iH:Z6:=.int I.cs (I.t 5)
noncomputable def jv:Bool×Bool:=(bne I.im 0,true)
def Gm:Xo:=cB "str.__eq__" [.str fc (Zd (tt 0) 5573),.str tK (Zd (tt 0) 5574)]
def sj:List (Bool×Bool):=[gJ I,(Xl I.rd 0,false)]
def Gn:Xo:=cB "str.__eq__" [.str lc (Zd t 5582),.str xD (Zd t 5583)]
noncomputable def ja:Z6:=.int s.md.1 s.md.2
def pe:List (Bool×Bool):=[gI I,(Xl I.rd 0,true)]
noncomputable def ig:List (Nat×Nat):=[(15,Zd (nn 0) 1971),(9,Zd n 1971)]
noncomputable def ii(x0:Nat):List (Nat×Nat):=[(x0,Zd (tt 0) 5571),(0,Zd t 5571)]
def bL:Call:=cS (cB "str.__getitem__" [.str I.nm (I.t 0),.int (Neg.neg 1) (Zd t 5581)]) 14 11 [] (rV (.str lc (Zd t 5582))) 14 12
def dS:Call:=cS (Gn t lc) 14 13 [] (rV (.bool false)) 14 13
def dT:Call:=cS (cB "list.__getitem__" [rA A 5,.int I.rs1 (I.t 2)]) 14 16 [(5,d5 (PP w b c) A s)] (rV (bh s j)) 14 16
def bM(x0 x1 x2 x3:Nat):Call:=cS (cB "str.__getitem__" [.str I.nm (I.t 0),.int 4 (Zd t x0)]) 14 x1 [] (rV (.str fc (Zd t x2))) 14 x3
def ij(x0 x1 x2:Nat):Call:=cS (cB "str.__eq__" [.str fc (Zd t x0),.str oK (Zd t x1)]) 14 x2 [] (rV (.bool true)) 14 x2
def pP(x0 x1 x2 x3:Nat):Call:=⟨cR 1450 [rA A 2,iH I,bh s j,ja s],x0,x1,aj w b c A s,rV .none,x2,x3,nC w b c A s z1 p1⟩
def eJ(x0 x1:Nat):Call:=cS (cB "tuple.__contains__" [.ref 1710,iH I]) x0 x1 [] (rV (.bool false)) x0 x1
def bN:Xo:=(cR 1898 [.ref (Zd (A.a 0) 1971),.ref (Zd (A.a 7) 1971),.int wd tw])
def bu:List (Nat×Obj):=(aj w b c A s++(nB w b c A I))
def iU:List (Nat×Obj):=(aj w b c A ⟨z1,p1,s.r,s.pc,s.md,s.sp,s.es,s.em⟩++(nB w b c A I))
def dJ(x0 x1:Nat):Call:=cS (cB "tuple.__contains__" [.ref 1710,iH I]) x0 x1 [] (rV (.bool true)) x0 x1
def iV(x0:Nat):List (Nat×Obj):=(aj w b c A ⟨z1,p1,s.r,s.pc,s.md,Zd (nn x0) 1972,s.es,s.em⟩++(nB w b c A I))
noncomputable def gq:List (Nat×Nat):=[(16,Zd (nn 1) 1971),(15,Zd (nn 0) 1971),(9,Zd n 1971)]
noncomputable def gt(x0 x1:Nat):List (Nat×Nat):=[(x0,Zd (tt 1) 5571),(x1,Zd (tt 0) 5571),(0,Zd t 5571)]
def bJ(x0 x1:Nat):Call:=cS (cR 1428 [rA A 2,iH I,ja s]) 14 x0 (aj w b c A s) (rV (.int old told)) 15 x1
def df(x0 x1:Nat):Call:=⟨cB "list.__setitem__" [rA A 5,.int I.rd (I.t 1),.int old told],x0,x1,[(5,d5 (PP w b c) A s)],rV .none,x0,x1,[(5,d5 (PP w b c) A ⟨s.z,s.p,r1,s.pc,s.md,s.sp,s.es,s.em⟩)]⟩
def iW:List (Nat×Obj):=(aj w b c A ⟨z1,p1,r1,s.pc,s.md,s.sp,s.es,s.em⟩++(nB w b c A I))
def iX:List (Nat×Obj):=(aj w b c A ⟨z1,p1,r1,s.pc,s.md,Zd (nn 1) 1972,s.es,s.em⟩++(nB w b c A I))
def cf(x0 x1 x2:Nat):Call:=cS (cB "str.__eq__" [.str fc (Zd t x0),.str oK (Zd t x1)]) 14 x2 [] (rV (.bool false)) 14 x2
def cH(x0 x1:Nat):Call:=cS (cB "str.__getitem__" [.str I.nm (I.t 0),.int 4 (Zd (tt 0) 5572)]) 15 x0 [] (rV (.str fc (Zd (tt 0) 5573))) 15 x1
def gu(x0:Nat):Call:=cS (Gm tt fc) 15 x0 [] (rV (.bool true)) 15 x0
def oa:Call:=⟨cR 1450 [rA A 2,iH I,.int (Zb old (s.r j).1) (Zd (tt 0) 5575),ja s],15,35,aj w b c A s,rV .none,16,36,nC w b c A s z1 p1⟩
def wy:List (Nat×Obj):=(aj w b c A ⟨s.z,s.p,r1,s.pc,s.md,s.sp,s.es,s.em⟩++(nB w b c A I))
def gv(x0:Nat):Call:=cS (Gm tt fc) 15 x0 [] (rV (.bool false)) 15 x0
def oc:Call:=⟨cR 1450 [rA A 2,iH I,.int (Za old (Zc 4294967295 (s.r j).1)) (Zd (tt 0) 5576),ja s],15,36,aj w b c A s,rV .none,16,37,nC w b c A s z1 p1⟩
def dg:Call:=cS (Gn t lc) 14 13 [] (rV (.bool true)) 14 13
def od(x0 x1 x2 x3:Nat):Call:=⟨cR 1450 [rA A 2,iH I,.int I.im (I.t 4),ja s],x0,x1,aj w b c A s,rV .none,x2,x3,nC w b c A s z1 p1⟩
def oe:Call:=⟨cR 1450 [rA A 2,iH I,.int (Zb old I.im) (Zd (tt 0) 5575),ja s],15,34,aj w b c A s,rV .none,16,35,nC w b c A s z1 p1⟩
def og:Call:=⟨cR 1450 [rA A 2,iH I,.int (Za old (Zc 4294967295 I.im)) (Zd (tt 0) 5576),ja s],15,35,aj w b c A s,rV .none,16,36,nC w b c A s z1 p1⟩
abbrev su:=bk w b c A gh L 40 (gq n nn) (gt t tt 36 27)
abbrev sv:=bk w b c A gh L 40 (gq n nn) (gt t tt 37 27)
abbrev sw:=bk w b c A gh L 40 (gq n nn) (gt t tt 35 26)
abbrev sx:=bk w b c A gh L 40 (gq n nn) (gt t tt 36 26)
include w b c A s gh n t L nn tt vv wd old tw told j I z1 p1 r1 lc fc
theorem Ti:bk w b c A gh L 40 (ig n nn) (ii t tt 29) [bL t I lc,dS t lc,dT w b c A s j I,bM t I fc 5588 18 5589 19,ij t fc 5589 5590 20,pP w b c A s j I z1 p1 14 28 15 29,eJ I 15 29] (pe I) (bN A wd tw) 9 (bu w b c A s I) (rV .none) 16 (iU w b c A s I z1 p1) 33:=ap (hm ([0]++ke++[1007010,1,1008010]++eH++[0,1006,10,10,0,0,0,0,1007,10]++iS++[16,2]))
theorem Tj:bk w b c A gh L 40 (ig n nn) (ii t tt 29) [bL t I lc,dS t lc,dT w b c A s j I,bM t I fc 5588 18 5589 19,ij t fc 5589 5590 20,pP w b c A s j I z1 p1 14 28 15 29,dJ I 15 29] (pe I) (bN A wd tw) 9 (bu w b c A s I) (rV .none) 18 (iV w b c A s nn I z1 p1 0) 36:=ap (hm ([0]++ke++[1007010,1,1008010]++eH++[0,1006,10,10,0,0,0,0,1007,10,6001002,7016000,5001002,10,6001002,10,10,0,0,0,1006018,0,18,2]))
theorem Tk:bk w b c A gh L 40 (gq n nn) (gt t tt 31 26) [bL t I lc,dS t lc,dT w b c A s j I,bM t I fc 5588 18 5589 19,ij t fc 5589 5590 20,bJ w b c A s old told I 25 26,pP w b c A s j I z1 p1 15 30 16 31,eJ I 16 31,df w b c A s old told I r1 17 36] (sj I) (bN A wd tw) 9 (bu w b c A s I) (rV .none) 17 (iW w b c A s I z1 p1 r1) 36:=ap (hm ([0]++ke++[1007010,2,10]++eT++[1006,1008010]++eH++[0,1007,10,10,0,0,0,0,1008]++kf++[6,6,1009]))
theorem Tl:bk w b c A gh L 40 (gq n nn) (gt t tt 31 26) [bL t I lc,dS t lc,dT w b c A s j I,bM t I fc 5588 18 5589 19,ij t fc 5589 5590 20,bJ w b c A s old told I 25 26,pP w b c A s j I z1 p1 15 30 16 31,dJ I 16 31,df w b c A s old told I r1 19 39] (sj I) (bN A wd tw) 9 (bu w b c A s I) (rV .none) 19 (iX w b c A s nn I z1 p1 r1) 39:=ap (hm ([0]++ke++[1007010,2,10]++eT++[1006,1008010]++eH++[0,1007,10,10,0,0,0,0,1008]++iR++[1009]))
theorem Tm:bk w b c A gh L 40 (ig n nn) (ii t tt 27) [bL t I lc,dS t lc,dT w b c A s j I,bM t I fc 5588 18 5589 19,cf t fc 5589 5590 20,bJ w b c A s old told I 26 27] [gI I,(bne I.rs1 0,false)] (bN A wd tw) 9 (bu w b c A s I) (rV .none) 16 (bu w b c A s I) 32:=ap (hm ([0]++ke++[1005010,2008009,2,1004010]++eT++[1006,1005010]++iS++[16,2]))
theorem Tn:su w b c A gh n t L nn tt [bL t I lc,dS t lc,dT w b c A s j I,bM t I fc 5588 18 5589 19,cf t fc 5589 5590 20,bJ w b c A s old told I 26 27,cH tt I fc 29 30,gu tt fc 31,oa w b c A s tt old j I z1 p1,eJ I 16 36] [gI I,ju I] (bN A wd tw) 9 (bu w b c A s I) (rV .none) 17 (iU w b c A s I z1 p1) 40:=ap (hm ([0]++pD++kb++[2]))
theorem To:su w b c A gh n t L nn tt [bL t I lc,dS t lc,dT w b c A s j I,bM t I fc 5588 18 5589 19,cf t fc 5589 5590 20,bJ w b c A s old told I 26 27,cH tt I fc 29 30,gu tt fc 31,oa w b c A s tt old j I z1 p1,dJ I 16 36] [gI I,ju I] (bN A wd tw) 9 (bu w b c A s I) (rV .none) 19 (iV w b c A s nn I z1 p1 1) 43:=ap (hm ([0]++pD++mN++[19,2]))
theorem Tp:bk w b c A gh L 40 (ig n nn) (ii t tt 27) [bL t I lc,dS t lc,dT w b c A s j I,bM t I fc 5588 18 5589 19,cf t fc 5589 5590 20,bJ w b c A s old told I 26 27,df w b c A s old told I r1 16 33] [gJ I,(bne I.rs1 0,false)] (bN A wd tw) 9 (bu w b c A s I) (rV .none) 16 (wy w b c A s I r1) 33:=ap (hm ([0]++ke++[1005010,2008009,2,1004010]++eT++[1006,1005010]++iS++[16,1,16,16,2001002,16,6,6,6,1007]))
theorem Tq:su w b c A gh n t L nn tt [bL t I lc,dS t lc,dT w b c A s j I,bM t I fc 5588 18 5589 19,cf t fc 5589 5590 20,bJ w b c A s old told I 26 27,cH tt I fc 29 30,gu tt fc 31,oa w b c A s tt old j I z1 p1,eJ I 16 36,df w b c A s old told I r1 17 41] [gJ I,ju I] (bN A wd tw) 9 (bu w b c A s I) (rV .none) 17 (iW w b c A s I z1 p1 r1) 41:=ap (hm ([0]++pD++kf++[6,6,1011]))
theorem Tr:su w b c A gh n t L nn tt [bL t I lc,dS t lc,dT w b c A s j I,bM t I fc 5588 18 5589 19,cf t fc 5589 5590 20,bJ w b c A s old told I 26 27,cH tt I fc 29 30,gu tt fc 31,oa w b c A s tt old j I z1 p1,dJ I 16 36,df w b c A s old told I r1 19 44] [gJ I,ju I] (bN A wd tw) 9 (bu w b c A s I) (rV .none) 19 (iX w b c A s nn I z1 p1 r1) 44:=ap (hm ([0]++pD++iR++[1011]))
theorem Ok:sv w b c A gh n t L nn tt [bL t I lc,dS t lc,dT w b c A s j I,bM t I fc 5588 18 5589 19,cf t fc 5589 5590 20,bJ w b c A s old told I 26 27,cH tt I fc 29 30,gv tt fc 31,oc w b c A s tt old j I z1 p1,eJ I 16 37] [gI I,ju I] (bN A wd tw) 9 (bu w b c A s I) (rV .none) 17 (iU w b c A s I z1 p1) 41:=ap (hm (pE++[0,0,1010]++kb++[2]))
theorem Ol:sv w b c A gh n t L nn tt [bL t I lc,dS t lc,dT w b c A s j I,bM t I fc 5588 18 5589 19,cf t fc 5589 5590 20,bJ w b c A s old told I 26 27,cH tt I fc 29 30,gv tt fc 31,oc w b c A s tt old j I z1 p1,dJ I 16 37] [gI I,ju I] (bN A wd tw) 9 (bu w b c A s I) (rV .none) 19 (iV w b c A s nn I z1 p1 1) 44:=ap (hm (pE++[0,0,1010]++mN++[19,2]))
theorem Om:sv w b c A gh n t L nn tt [bL t I lc,dS t lc,dT w b c A s j I,bM t I fc 5588 18 5589 19,cf t fc 5589 5590 20,bJ w b c A s old told I 26 27,cH tt I fc 29 30,gv tt fc 31,oc w b c A s tt old j I z1 p1,eJ I 16 37,df w b c A s old told I r1 17 42] [gJ I,ju I] (bN A wd tw) 9 (bu w b c A s I) (rV .none) 17 (iW w b c A s I z1 p1 r1) 42:=ap (hm (pE++[0,0,1010]++kf++[6,6,1011]))
theorem On:sv w b c A gh n t L nn tt [bL t I lc,dS t lc,dT w b c A s j I,bM t I fc 5588 18 5589 19,cf t fc 5589 5590 20,bJ w b c A s old told I 26 27,cH tt I fc 29 30,gv tt fc 31,oc w b c A s tt old j I z1 p1,dJ I 16 37,df w b c A s old told I r1 19 45] [gJ I,ju I] (bN A wd tw) 9 (bu w b c A s I) (rV .none) 19 (iX w b c A s nn I z1 p1 r1) 45:=ap (hm (pE++[0,0,1010]++iR++[1011]))
theorem Oo:bk w b c A gh L 40 (ig n nn) (ii t tt 28) [bL t I lc,dg t lc,bM t I fc 5587 17 5588 18,ij t fc 5588 5589 19,od w b c A s I z1 p1 14 27 15 28,eJ I 15 28] (pe I) (bN A wd tw) 9 (bu w b c A s I) (rV .none) 16 (iU w b c A s I z1 p1) 32:=ap (hm ([0,0]++jf++[1007010,1,1008010]++eH++[0,1005,10,10,0,0,0,0,1006,10]++iS++[16,2]))
theorem Op:bk w b c A gh L 40 (ig n nn) (ii t tt 28) [bL t I lc,dg t lc,bM t I fc 5587 17 5588 18,ij t fc 5588 5589 19,od w b c A s I z1 p1 14 27 15 28,dJ I 15 28] (pe I) (bN A wd tw) 9 (bu w b c A s I) (rV .none) 18 (iV w b c A s nn I z1 p1 0) 35:=ap (hm ([0,0]++jf++[1007010,1,1008010]++eH++[0,1005,10,10,0,0,0,0,1006,10,6001002,7016000,5001002,10,6001002,10,10,0,0,0,1006018,0,18,2]))
theorem Oq:bk w b c A gh L 40 (gq n nn) (gt t tt 30 25) [bL t I lc,dg t lc,bM t I fc 5587 17 5588 18,ij t fc 5588 5589 19,bJ w b c A s old told I 24 25,od w b c A s I z1 p1 15 29 16 30,eJ I 16 30,df w b c A s old told I r1 17 35] (sj I) (bN A wd tw) 9 (bu w b c A s I) (rV .none) 17 (iW w b c A s I z1 p1 r1) 35:=ap (hm ([0,0]++jf++[1007010,2,10]++eT++[1005,1008010]++eH++[0,1006,10,10,0,0,0,0,1007]++kf++[6,6,1008]))
theorem Or:bk w b c A gh L 40 (gq n nn) (gt t tt 30 25) [bL t I lc,dg t lc,bM t I fc 5587 17 5588 18,ij t fc 5588 5589 19,bJ w b c A s old told I 24 25,od w b c A s I z1 p1 15 29 16 30,dJ I 16 30,df w b c A s old told I r1 19 38] (sj I) (bN A wd tw) 9 (bu w b c A s I) (rV .none) 19 (iX w b c A s nn I z1 p1 r1) 38:=ap (hm ([0,0]++jf++[1007010,2,10]++eT++[1005,1008010]++eH++[0,1006,10,10,0,0,0,0,1007]++iR++[1008]))
theorem Os:bk w b c A gh L 40 (ig n nn) (ii t tt 26) [bL t I lc,dg t lc,bM t I fc 5587 17 5588 18,cf t fc 5588 5589 19,bJ w b c A s old told I 25 26] [gI I,(bne I.im 0,false)] (bN A wd tw) 9 (bu w b c A s I) (rV .none) 16 (bu w b c A s I) 31:=ap (hm ([0,0]++jf++[1005010,2008009,2,1004010]++eT++[1005,1005010]++iS++[16,2]))
theorem Ot:sw w b c A gh n t L nn tt [bL t I lc,dg t lc,bM t I fc 5587 17 5588 18,cf t fc 5588 5589 19,bJ w b c A s old told I 25 26,cH tt I fc 28 29,gu tt fc 30,oe w b c A s tt old I z1 p1,eJ I 16 35] [gI I,jv I] (bN A wd tw) 9 (bu w b c A s I) (rV .none) 17 (iU w b c A s I z1 p1) 39:=ap (hm (nO++kb++[2]))
theorem Ou:sw w b c A gh n t L nn tt [bL t I lc,dg t lc,bM t I fc 5587 17 5588 18,cf t fc 5588 5589 19,bJ w b c A s old told I 25 26,cH tt I fc 28 29,gu tt fc 30,oe w b c A s tt old I z1 p1,dJ I 16 35] [gI I,jv I] (bN A wd tw) 9 (bu w b c A s I) (rV .none) 19 (iV w b c A s nn I z1 p1 1) 42:=ap (hm (nO++mN++[19,2]))
theorem Ov:bk w b c A gh L 40 (ig n nn) (ii t tt 26) [bL t I lc,dg t lc,bM t I fc 5587 17 5588 18,cf t fc 5588 5589 19,bJ w b c A s old told I 25 26,df w b c A s old told I r1 16 32] [gJ I,(bne I.im 0,false)] (bN A wd tw) 9 (bu w b c A s I) (rV .none) 16 (wy w b c A s I r1) 32:=ap (hm ([0,0]++jf++[1005010,2008009,2,1004010]++eT++[1005,1005010]++iS++[16,1,16,16,2001002,16,6,6,6,1006]))
theorem Ow:sw w b c A gh n t L nn tt [bL t I lc,dg t lc,bM t I fc 5587 17 5588 18,cf t fc 5588 5589 19,bJ w b c A s old told I 25 26,cH tt I fc 28 29,gu tt fc 30,oe w b c A s tt old I z1 p1,eJ I 16 35,df w b c A s old told I r1 17 40] [gJ I,jv I] (bN A wd tw) 9 (bu w b c A s I) (rV .none) 17 (iW w b c A s I z1 p1 r1) 40:=ap (hm (nO++kf++[6,6,1010]))
theorem Ox:sw w b c A gh n t L nn tt [bL t I lc,dg t lc,bM t I fc 5587 17 5588 18,cf t fc 5588 5589 19,bJ w b c A s old told I 25 26,cH tt I fc 28 29,gu tt fc 30,oe w b c A s tt old I z1 p1,dJ I 16 35,df w b c A s old told I r1 19 43] [gJ I,jv I] (bN A wd tw) 9 (bu w b c A s I) (rV .none) 19 (iX w b c A s nn I z1 p1 r1) 43:=ap (hm (nO++iR++[1010]))
theorem Oy:sx w b c A gh n t L nn tt [bL t I lc,dg t lc,bM t I fc 5587 17 5588 18,cf t fc 5588 5589 19,bJ w b c A s old told I 25 26,cH tt I fc 28 29,gv tt fc 30,og w b c A s tt old I z1 p1,eJ I 16 36] [gI I,jv I] (bN A wd tw) 9 (bu w b c A s I) (rV .none) 17 (iU w b c A s I z1 p1) 40:=ap (hm ([0,0]++nN++kb++[2]))
theorem Oz:sx w b c A gh n t L nn tt [bL t I lc,dg t lc,bM t I fc 5587 17 5588 18,cf t fc 5588 5589 19,bJ w b c A s old told I 25 26,cH tt I fc 28 29,gv tt fc 30,og w b c A s tt old I z1 p1,dJ I 16 36] [gI I,jv I] (bN A wd tw) 9 (bu w b c A s I) (rV .none) 19 (iV w b c A s nn I z1 p1 1) 43:=ap (hm ([0,0]++nN++mN++[19,2]))
theorem OA:sx w b c A gh n t L nn tt [bL t I lc,dg t lc,bM t I fc 5587 17 5588 18,cf t fc 5588 5589 19,bJ w b c A s old told I 25 26,cH tt I fc 28 29,gv tt fc 30,og w b c A s tt old I z1 p1,eJ I 16 36,df w b c A s old told I r1 17 41] [gJ I,jv I] (bN A wd tw) 9 (bu w b c A s I) (rV .none) 17 (iW w b c A s I z1 p1 r1) 41:=ap (hm ([0,0]++nN++kf++[6,6,1010]))
theorem OB:sx w b c A gh n t L nn tt [bL t I lc,dg t lc,bM t I fc 5587 17 5588 18,cf t fc 5588 5589 19,bJ w b c A s old told I 25 26,cH tt I fc 28 29,gv tt fc 30,og w b c A s tt old I z1 p1,dJ I 16 36,df w b c A s old told I r1 19 44] [gJ I,jv I] (bN A wd tw) 9 (bu w b c A s I) (rV .none) 19 (iX w b c A s nn I z1 p1 r1) 44:=ap (hm ([0,0]++nN++iR++[1010]))
end
section
variable(w:Z8)(b c:Bool)(A:AS)(s:BS)(gh:gHs)(n t L:Nat)(tn ti:Nat)
noncomputable def Ty:List (Nat×Nat):=[(0,Zd t 5571)]
noncomputable def Tz(Y0:Nat):List (Nat×Nat):=[(Y0,Zd n 1971)]
def nD:Xc:=rV (.str dp (Zd t 5571))
noncomputable def nF:Z6:=.ref (Zd (A.a 0) 1971)
noncomputable def eK:List (Nat×Obj):=[(0,⟨.type "slice",none,.fields ⟨[.none,.int 3 ti,.none]⟩,#[]⟩)]
abbrev nL:=Ag w b c A gh L 20 (Tz n 1) (Ty t)
include w b c A s gh n t L tn ti
theorem QA:nL w b c A gh n t L (cB "str.__getitem__" [.str mc tn,nF A]) 1 (eK ti) (nD t) 1 (eK ti) 1:=lx (hm [1,1,1,1])
theorem QB:nL w b c A gh n t L (cB "str.__getitem__" [.str me tn,nF A]) 1 (eK ti) (nD t) 1 (eK ti) 1:=lx (hm [1,1,1,1])
theorem QC:nL w b c A gh n t L (cB "str.__getitem__" [.str mf tn,nF A]) 1 (eK ti) (nD t) 1 (eK ti) 1:=lx (hm [1,1,1,1])
theorem QD:nL w b c A gh n t L (cB "str.__getitem__" [.str mg tn,nF A]) 1 (eK ti) (nD t) 1 (eK ti) 1:=lx (hm [1,1,1,1])
theorem QE:nL w b c A gh n t L (cB "str.__getitem__" [.str mh tn,nF A]) 1 (eK ti) (nD t) 1 (eK ti) 1:=lx (hm [1,1,1,1])
theorem QF:nL w b c A gh n t L (cB "str.__getitem__" [.str mi tn,nF A]) 1 (eK ti) (nD t) 1 (eK ti) 1:=lx (hm [1,1,1,1])
end
section
variable(w:Z8)(b c:Bool)(A:AS)(s:BS)(gh:gHs)(n t L:Nat)(x y:Str)(tn ti:Nat)
include w b c A s gh n t L x y tn ti
end
def aD:Nat→Str
 |0=>mc
 |1=>me
 |2=>mf
 |3=>mg
 |4=>mh
 |_=>mi
def aW:Nat→Str
 |0=>oK
 |1=>tK
 |2=>⟨⟨[99]⟩⟩
 |_=>xD
def aE:Nat→Str
 |0=>oK
 |1=>tK
 |2=>⟨⟨[99]⟩⟩
 |3=>oK
 |4=>tK
 |_=>⟨⟨[99]⟩⟩
theorem jB{P:Nat→Prop}(h0:P 0)(h1:P 1)(h2:P 2)(h3:P 3)(h4:P 4)(h5:P 5):∀j,j<6→P j
 |0,_=>h0
 |1,_=>h1
 |2,_=>h2
 |3,_=>h3
 |4,_=>h4
 |5,_=>h5
theorem A2(tn ti:Nat):Builtin.«str.__getitem__» ⟨[.str (aD 0) tn,.int (-1) ti],[]⟩=(.fresh fun t=>.pure (.done (.ret (.str (aW 0) t))):Xj Z3):=by kernel_rfl
theorem A3(tn ti:Nat):Builtin.«str.__getitem__» ⟨[.str (aD 1) tn,.int (-1) ti],[]⟩=(.fresh fun t=>.pure (.done (.ret (.str (aW 1) t))):Xj Z3):=by kernel_rfl
theorem A4(tn ti:Nat):Builtin.«str.__getitem__» ⟨[.str (aD 2) tn,.int (-1) ti],[]⟩=(.fresh fun t=>.pure (.done (.ret (.str (aW 2) t))):Xj Z3):=by kernel_rfl
theorem A5(tn ti:Nat):Builtin.«str.__getitem__» ⟨[.str (aD 3) tn,.int (-1) ti],[]⟩=(.fresh fun t=>.pure (.done (.ret (.str (aW 3) t))):Xj Z3):=by kernel_rfl
theorem A6(tn ti:Nat):Builtin.«str.__getitem__» ⟨[.str (aD 4) tn,.int (-1) ti],[]⟩=(.fresh fun t=>.pure (.done (.ret (.str (aW 4) t))):Xj Z3):=by kernel_rfl
theorem A7(tn ti:Nat):Builtin.«str.__getitem__» ⟨[.str (aD 5) tn,.int (-1) ti],[]⟩=(.fresh fun t=>.pure (.done (.ret (.str (aW 5) t))):Xj Z3):=by kernel_rfl
theorem Ee(j tn ti:Nat)(hj:j<6):Builtin.«str.__getitem__» ⟨[.str (aD j) tn,.int (-1) ti],[]⟩=(.fresh fun t=>.pure (.done (.ret (.str (aW j) t))):Xj Z3):=
 jB (P:=fun j=>Builtin.«str.__getitem__» ⟨[.str (aD j) tn,.int (-1) ti],[]⟩=(.fresh fun t=>.pure (.done (.ret (.str (aW j) t))):Xj Z3)) (A2 tn ti) (A3 tn ti) (A4 tn ti) (A5 tn ti) (A6 tn ti) (A7 tn ti) j hj
theorem AW(tn ti:Nat):Builtin.«str.__getitem__» ⟨[.str (aD 0) tn,.int 4 ti],[]⟩=(.fresh fun t=>.pure (.done (.ret (.str (aE 0) t))):Xj Z3):=by kernel_rfl
theorem AX(tn ti:Nat):Builtin.«str.__getitem__» ⟨[.str (aD 1) tn,.int 4 ti],[]⟩=(.fresh fun t=>.pure (.done (.ret (.str (aE 1) t))):Xj Z3):=by kernel_rfl
theorem AY(tn ti:Nat):Builtin.«str.__getitem__» ⟨[.str (aD 2) tn,.int 4 ti],[]⟩=(.fresh fun t=>.pure (.done (.ret (.str (aE 2) t))):Xj Z3):=by kernel_rfl
theorem AZ(tn ti:Nat):Builtin.«str.__getitem__» ⟨[.str (aD 3) tn,.int 4 ti],[]⟩=(.fresh fun t=>.pure (.done (.ret (.str (aE 3) t))):Xj Z3):=by kernel_rfl
theorem A0(tn ti:Nat):Builtin.«str.__getitem__» ⟨[.str (aD 4) tn,.int 4 ti],[]⟩=(.fresh fun t=>.pure (.done (.ret (.str (aE 4) t))):Xj Z3):=by kernel_rfl
theorem A1(tn ti:Nat):Builtin.«str.__getitem__» ⟨[.str (aD 5) tn,.int 4 ti],[]⟩=(.fresh fun t=>.pure (.done (.ret (.str (aE 5) t))):Xj Z3):=by kernel_rfl
theorem Ed(j tn ti:Nat)(hj:j<6):Builtin.«str.__getitem__» ⟨[.str (aD j) tn,.int 4 ti],[]⟩=(.fresh fun t=>.pure (.done (.ret (.str (aE j) t))):Xj Z3):=
 jB (P:=fun j=>Builtin.«str.__getitem__» ⟨[.str (aD j) tn,.int 4 ti],[]⟩=(.fresh fun t=>.pure (.done (.ret (.str (aE j) t))):Xj Z3)) (AW tn ti) (AX tn ti) (AY tn ti) (AZ tn ti) (A0 tn ti) (A1 tn ti) j hj
theorem Kq(x y:Str)(tn ti:Nat):Builtin.«str.__eq__» ⟨[.str x tn,.str y ti],[]⟩=(.pure (.done (.ret (.bool (Xl x.cps.toList y.cps.toList)))):Xj Z3):=by kernel_rfl
section
variable{w:Z8}{b c:Bool}{S:HT}{B:Nat}{gh:gHs}{n t:Nat}{C:Ctx→Prop}(hC:∀Γ,C Γ→Γ.handled=none){j tn ti:Nat}{x y:Str}{v:Bool}
include hC
theorem ba(hj:j<6):TriC (MM w b c) S B C (.builtin "str.__getitem__" ⟨[.str (aD j) tn,.int (-1) ti],[]⟩) gh [] n t (.ok (.ret (.str (aW j) t))) gh [] n (t+1):=
 eo hC fun Γ P h gs dd os hh lo hp=>by rw[cU F.entry_str_getitem,Ee j tn ti hj];exact .fresh .done
theorem aA(hj:j<6):TriC (MM w b c) S B C (.builtin "str.__getitem__" ⟨[.str (aD j) tn,.int 4 ti],[]⟩) gh [] n t (.ok (.ret (.str (aE j) t))) gh [] n (t+1):=
 eo hC fun Γ P h gs dd os hh lo hp=>by rw[cU F.entry_str_getitem,Ed j tn ti hj];exact .fresh .done
theorem ak(hv:Xl x.cps.toList y.cps.toList=v):TriC (MM w b c) S B C (.builtin "str.__eq__" ⟨[.str x tn,.str y ti],[]⟩) gh [] n t (.ok (.ret (.bool v))) gh [] n t:=
 eo hC fun Γ P h gs dd os hh lo hp=>by subst hv;rw[cU F.entry_str_eq,Kq x y tn ti];exact .done
end
inductive ChgOkX (w:Z8) (b c:Bool) (A:AS) (s:BS) (nm:Str) (rd rs im cs:Int) (fz fp fr:Nat→Int) (k u:Nat→Nat) (a7 a8:Nat) (gh:gHs) (n t:Nat) (wd:Int) (tw:Nat):Prop where
 |mk (z1 p1 r1:Nat→Int×Nat) (sp1 n' t':Nat) (h0_:(∀i,(z1 i).1=fz i)) (h1_:(∀i,(p1 i).1=fp i)) (h2_:(∀i,(r1 i).1=fr i)) (h3_:TB w b c A 80 (.call (.ref 1898) ⟨[.ref (ad (A.a 0)),.ref (ad a7),.int wd tw],[]⟩) gh [(ad a7,iO 121 (ad a8)),(ad a8,iD (PP w b c) ⟨k,u,nm,rd,rs,0,im,cs⟩)] s n t (.ok (.ret .none)) gh [(ad a7,iO 121 (ad a8)),(ad a8,iD (PP w b c) ⟨k,u,nm,rd,rs,0,im,cs⟩)] ⟨z1,p1,r1,s.pc,s.md,sp1,s.es,s.em⟩ n' t'):ChgOkX w b c A s nm rd rs im cs fz fp fr k u a7 a8 gh n t wd tw
def bR(w:Z8)(b c:Bool)(A:AS)(s:BS)(nm:Str)(rd rs im cs:Int)(fz fp fr:Nat→Int):Prop:=∀(k u:Nat→Nat) (a7 a8:Nat) (gh:gHs) (n t:Nat) (wd:Int) (tw:Nat),ChgOkX w b c A s nm rd rs im cs fz fp fr k u a7 a8 gh n t wd tw
def aI(A:AS)(a7 a8:Nat):AS:=⟨eZ [(7,a7),(8,a8)] A.a,A.k⟩
section
variable(w:Z8)(b c:Bool)(A:AS)(s:BS)
include w b c A s
section
variable(j:Nat)(hj:j<6)(rd:Nat)
include j hj rd
section
variable(rs at_:Nat)(hrd:rd<32)(hrs:rs<32)(q0:Xl (aW j).cps.toList [105]=false)
include rs at_ hrd hrs q0
section
variable(q1:Xl (aE j).cps.toList [119]=true)
include q1
section
variable(fz fp:Nat→Int)(hW:ce w b c A s at_ s.md.1 (s.r rs).1 fz fp)
include fz fp hW
theorem DY(ht:bD [256,384,768] (Zo at_)=false)(he:He [(bne (Zo rd) 0,false),(Xl (Zo rd) 0,true)]):bR w b c A s (aD j) (Zo rd) (Zo rs) 0 (Zo at_) fz fp (vr s):=by
 intro k u a7 a8 gh n t wd tw
 obtain⟨z1,p1,n0,t0,ez,ep,H0⟩:=hW gh (n+5) (t+28) (u 5) (s.r rs).2 s.md.2
 exact⟨z1,p1,s.r,s.sp,n0+1,t0+4,ez,ep,fun _=>rfl,kE (Ti w b c (aI A a7 a8) s gh n t 40 (az [n0]) (az [t0]) (fun _ _=>0) wd 0 tw 0 rs ⟨k,u,aD j,Zo rd,Zo rs,0,0,Zo at_⟩ z1 p1 s.r (aW j) (aE j) (fk (ba ac hj)<|fk (ak ac q0)<|fk (kc (aB ac (m:=0) (r:=s.r) (i:=rs) hrs))<|fk (aA ac hj)<|fk (ak ac q1)<|fk (kd H0)<|fk (br ac ht)<|aa) he)⟩
theorem DZ(ht:bD [256,384,768] (Zo at_)=true)(he:He [(bne (Zo rd) 0,false),(Xl (Zo rd) 0,true)]):bR w b c A s (aD j) (Zo rd) (Zo rs) 0 (Zo at_) fz fp (vr s):=by
 intro k u a7 a8 gh n t wd tw
 obtain⟨z1,p1,n0,t0,ez,ep,H0⟩:=hW gh (n+5) (t+28) (u 5) (s.r rs).2 s.md.2
 exact⟨z1,p1,s.r,Zd n0 1972,n0+3,t0+7,ez,ep,fun _=>rfl,kE (Tj w b c (aI A a7 a8) s gh n t 40 (az [n0]) (az [t0]) (fun _ _=>0) wd 0 tw 0 rs ⟨k,u,aD j,Zo rd,Zo rs,0,0,Zo at_⟩ z1 p1 s.r (aW j) (aE j) (fk (ba ac hj)<|fk (ak ac q0)<|fk (kc (aB ac (m:=0) (r:=s.r) (i:=rs) hrs))<|fk (aA ac hj)<|fk (ak ac q1)<|fk (kd H0)<|fk (br ac ht)<|aa) he)⟩
end
section
variable(old:Int)(hR:b0 w b c A s at_ s.md.1 old)(fz fp:Nat→Int)(hW:ce w b c A s at_ s.md.1 (s.r rs).1 fz fp)
include old hR fz fp hW
theorem D0(ht:bD [256,384,768] (Zo at_)=false)(he:He [(bne (Zo rd) 0,true),(Xl (Zo rd) 0,false)]):bR w b c A s (aD j) (Zo rd) (Zo rs) 0 (Zo at_) fz fp (bc (vr s) rd old):=by
 intro k u a7 a8 gh n t wd tw
 obtain⟨told,n0,t0,H0⟩:=hR gh (n+5) (t+25) (u 5) s.md.2
 obtain⟨z1,p1,n1,t1,ez,ep,H1⟩:=hW gh (n0+0) (t0+4) (u 5) (s.r rs).2 s.md.2
 exact⟨z1,p1,up s.r rd old told,s.sp,n1+1,t1+5,ez,ep,fun i=>bB _ _ _ _ i,kE (Tk w b c (aI A a7 a8) s gh n t 40 (az [n0,n1]) (az [t0,t1]) (fun _ _=>0) wd old tw told rs ⟨k,u,aD j,Zo rd,Zo rs,0,0,Zo at_⟩ z1 p1 (up s.r rd old told) (aW j) (aE j) (fk (ba ac hj)<|fk (ak ac q0)<|fk (kc (aB ac (m:=0) (r:=s.r) (i:=rs) hrs))<|fk (aA ac hj)<|fk (ak ac q1)<|fk (kd H0)<|fk (kd H1)<|fk (br ac ht)<|fk (kc (bO ac (m:=0) (r:=s.r) (i:=rd) (x:=old) (y:=told) hrd))<|aa) he)⟩
theorem D2(ht:bD [256,384,768] (Zo at_)=true)(he:He [(bne (Zo rd) 0,true),(Xl (Zo rd) 0,false)]):bR w b c A s (aD j) (Zo rd) (Zo rs) 0 (Zo at_) fz fp (bc (vr s) rd old):=by
 intro k u a7 a8 gh n t wd tw
 obtain⟨told,n0,t0,H0⟩:=hR gh (n+5) (t+25) (u 5) s.md.2
 obtain⟨z1,p1,n1,t1,ez,ep,H1⟩:=hW gh (n0+0) (t0+4) (u 5) (s.r rs).2 s.md.2
 exact⟨z1,p1,up s.r rd old told,Zd n1 1972,n1+3,t1+8,ez,ep,fun i=>bB _ _ _ _ i,kE (Tl w b c (aI A a7 a8) s gh n t 40 (az [n0,n1]) (az [t0,t1]) (fun _ _=>0) wd old tw told rs ⟨k,u,aD j,Zo rd,Zo rs,0,0,Zo at_⟩ z1 p1 (up s.r rd old told) (aW j) (aE j) (fk (ba ac hj)<|fk (ak ac q0)<|fk (kc (aB ac (m:=0) (r:=s.r) (i:=rs) hrs))<|fk (aA ac hj)<|fk (ak ac q1)<|fk (kd H0)<|fk (kd H1)<|fk (br ac ht)<|fk (kc (bO ac (m:=0) (r:=s.r) (i:=rd) (x:=old) (y:=told) hrd))<|aa) he)⟩
end
end
section
variable(q1:Xl (aE j).cps.toList [119]=false)(old:Int)(hR:b0 w b c A s at_ s.md.1 old)
include q1 old hR
theorem tS(he:He [(bne (Zo rd) 0,false),(bne (Zo rs) 0,false)]):bR w b c A s (aD j) (Zo rd) (Zo rs) 0 (Zo at_) (vz s) (vp s) (vr s):=by
 intro k u a7 a8 gh n t wd tw
 obtain⟨told,n0,t0,H0⟩:=hR gh (n+5) (t+26) (u 5) s.md.2
 exact⟨s.z,s.p,s.r,s.sp,n0+1,t0+5,fun _=>rfl,fun _=>rfl,fun _=>rfl,kE (Tm w b c (aI A a7 a8) s gh n t 40 (az [n0]) (az [t0]) (fun _ _=>0) wd old tw told rs ⟨k,u,aD j,Zo rd,Zo rs,0,0,Zo at_⟩ s.z s.p s.r (aW j) (aE j) (fk (ba ac hj)<|fk (ak ac q0)<|fk (kc (aB ac (m:=0) (r:=s.r) (i:=rs) hrs))<|fk (aA ac hj)<|fk (ak ac q1)<|fk (kd H0)<|aa) he)⟩
section
variable(q2:Xl (aE j).cps.toList [115]=true)(fz fp:Nat→Int)(hW:ce w b c A s at_ s.md.1 (Zb old (s.r rs).1) fz fp)
include q2 fz fp hW
theorem D5(ht:bD [256,384,768] (Zo at_)=false)(he:He [(bne (Zo rd) 0,false),(bne (Zo rs) 0,true)]):bR w b c A s (aD j) (Zo rd) (Zo rs) 0 (Zo at_) fz fp (vr s):=by
 intro k u a7 a8 gh n t wd tw
 obtain⟨told,n0,t0,H0⟩:=hR gh (n+5) (t+26) (u 5) s.md.2
 obtain⟨z1,p1,n1,t1,ez,ep,H1⟩:=hW gh (n0+0) (t0+8) (u 5) (Zd t0 5575) s.md.2
 exact⟨z1,p1,s.r,s.sp,n1+1,t1+4,ez,ep,fun _=>rfl,kE (Tn w b c (aI A a7 a8) s gh n t 40 (az [n0,n1]) (az [t0,t1]) (fun _ _=>0) wd old tw told rs ⟨k,u,aD j,Zo rd,Zo rs,0,0,Zo at_⟩ z1 p1 s.r (aW j) (aE j) (fk (ba ac hj)<|fk (ak ac q0)<|fk (kc (aB ac (m:=0) (r:=s.r) (i:=rs) hrs))<|fk (aA ac hj)<|fk (ak ac q1)<|fk (kd H0)<|fk (aA ac hj)<|fk (ak ac q2)<|fk (kd H1)<|fk (br ac ht)<|aa) he)⟩
theorem Ea(ht:bD [256,384,768] (Zo at_)=false)(he:He [(bne (Zo rd) 0,true),(bne (Zo rs) 0,true)]):bR w b c A s (aD j) (Zo rd) (Zo rs) 0 (Zo at_) fz fp (bc (vr s) rd old):=by
 intro k u a7 a8 gh n t wd tw
 obtain⟨told,n0,t0,H0⟩:=hR gh (n+5) (t+26) (u 5) s.md.2
 obtain⟨z1,p1,n1,t1,ez,ep,H1⟩:=hW gh (n0+0) (t0+8) (u 5) (Zd t0 5575) s.md.2
 exact⟨z1,p1,up s.r rd old told,s.sp,n1+1,t1+5,ez,ep,fun i=>bB _ _ _ _ i,kE (Tq w b c (aI A a7 a8) s gh n t 40 (az [n0,n1]) (az [t0,t1]) (fun _ _=>0) wd old tw told rs ⟨k,u,aD j,Zo rd,Zo rs,0,0,Zo at_⟩ z1 p1 (up s.r rd old told) (aW j) (aE j) (fk (ba ac hj)<|fk (ak ac q0)<|fk (kc (aB ac (m:=0) (r:=s.r) (i:=rs) hrs))<|fk (aA ac hj)<|fk (ak ac q1)<|fk (kd H0)<|fk (aA ac hj)<|fk (ak ac q2)<|fk (kd H1)<|fk (br ac ht)<|fk (kc (bO ac (m:=0) (r:=s.r) (i:=rd) (x:=old) (y:=told) hrd))<|aa) he)⟩
theorem D9(ht:bD [256,384,768] (Zo at_)=true)(he:He [(bne (Zo rd) 0,false),(bne (Zo rs) 0,true)]):bR w b c A s (aD j) (Zo rd) (Zo rs) 0 (Zo at_) fz fp (vr s):=by
 intro k u a7 a8 gh n t wd tw
 obtain⟨told,n0,t0,H0⟩:=hR gh (n+5) (t+26) (u 5) s.md.2
 obtain⟨z1,p1,n1,t1,ez,ep,H1⟩:=hW gh (n0+0) (t0+8) (u 5) (Zd t0 5575) s.md.2
 exact⟨z1,p1,s.r,Zd n1 1972,n1+3,t1+7,ez,ep,fun _=>rfl,kE (To w b c (aI A a7 a8) s gh n t 40 (az [n0,n1]) (az [t0,t1]) (fun _ _=>0) wd old tw told rs ⟨k,u,aD j,Zo rd,Zo rs,0,0,Zo at_⟩ z1 p1 s.r (aW j) (aE j) (fk (ba ac hj)<|fk (ak ac q0)<|fk (kc (aB ac (m:=0) (r:=s.r) (i:=rs) hrs))<|fk (aA ac hj)<|fk (ak ac q1)<|fk (kd H0)<|fk (aA ac hj)<|fk (ak ac q2)<|fk (kd H1)<|fk (br ac ht)<|aa) he)⟩
theorem Eb(ht:bD [256,384,768] (Zo at_)=true)(he:He [(bne (Zo rd) 0,true),(bne (Zo rs) 0,true)]):bR w b c A s (aD j) (Zo rd) (Zo rs) 0 (Zo at_) fz fp (bc (vr s) rd old):=by
 intro k u a7 a8 gh n t wd tw
 obtain⟨told,n0,t0,H0⟩:=hR gh (n+5) (t+26) (u 5) s.md.2
 obtain⟨z1,p1,n1,t1,ez,ep,H1⟩:=hW gh (n0+0) (t0+8) (u 5) (Zd t0 5575) s.md.2
 exact⟨z1,p1,up s.r rd old told,Zd n1 1972,n1+3,t1+8,ez,ep,fun i=>bB _ _ _ _ i,kE (Tr w b c (aI A a7 a8) s gh n t 40 (az [n0,n1]) (az [t0,t1]) (fun _ _=>0) wd old tw told rs ⟨k,u,aD j,Zo rd,Zo rs,0,0,Zo at_⟩ z1 p1 (up s.r rd old told) (aW j) (aE j) (fk (ba ac hj)<|fk (ak ac q0)<|fk (kc (aB ac (m:=0) (r:=s.r) (i:=rs) hrs))<|fk (aA ac hj)<|fk (ak ac q1)<|fk (kd H0)<|fk (aA ac hj)<|fk (ak ac q2)<|fk (kd H1)<|fk (br ac ht)<|fk (kc (bO ac (m:=0) (r:=s.r) (i:=rd) (x:=old) (y:=told) hrd))<|aa) he)⟩
end
theorem tT(he:He [(bne (Zo rd) 0,true),(bne (Zo rs) 0,false)]):bR w b c A s (aD j) (Zo rd) (Zo rs) 0 (Zo at_) (vz s) (vp s) (bc (vr s) rd old):=by
 intro k u a7 a8 gh n t wd tw
 obtain⟨told,n0,t0,H0⟩:=hR gh (n+5) (t+26) (u 5) s.md.2
 exact⟨s.z,s.p,up s.r rd old told,s.sp,n0+1,t0+6,fun _=>rfl,fun _=>rfl,fun i=>bB _ _ _ _ i,kE (Tp w b c (aI A a7 a8) s gh n t 40 (az [n0]) (az [t0]) (fun _ _=>0) wd old tw told rs ⟨k,u,aD j,Zo rd,Zo rs,0,0,Zo at_⟩ s.z s.p (up s.r rd old told) (aW j) (aE j) (fk (ba ac hj)<|fk (ak ac q0)<|fk (kc (aB ac (m:=0) (r:=s.r) (i:=rs) hrs))<|fk (aA ac hj)<|fk (ak ac q1)<|fk (kd H0)<|fk (kc (bO ac (m:=0) (r:=s.r) (i:=rd) (x:=old) (y:=told) hrd))<|aa) he)⟩
section
variable(q2:Xl (aE j).cps.toList [115]=false)(fz fp:Nat→Int)(hW:ce w b c A s at_ s.md.1 (Za old (Zc 4294967295 (s.r rs).1)) fz fp)
include q2 fz fp hW
theorem As(ht:bD [256,384,768] (Zo at_)=false)(he:He [(bne (Zo rd) 0,false),(bne (Zo rs) 0,true)]):bR w b c A s (aD j) (Zo rd) (Zo rs) 0 (Zo at_) fz fp (vr s):=by
 intro k u a7 a8 gh n t wd tw
 obtain⟨told,n0,t0,H0⟩:=hR gh (n+5) (t+26) (u 5) s.md.2
 obtain⟨z1,p1,n1,t1,ez,ep,H1⟩:=hW gh (n0+0) (t0+9) (u 5) (Zd t0 5576) s.md.2
 exact⟨z1,p1,s.r,s.sp,n1+1,t1+4,ez,ep,fun _=>rfl,kE (Ok w b c (aI A a7 a8) s gh n t 40 (az [n0,n1]) (az [t0,t1]) (fun _ _=>0) wd old tw told rs ⟨k,u,aD j,Zo rd,Zo rs,0,0,Zo at_⟩ z1 p1 s.r (aW j) (aE j) (fk (ba ac hj)<|fk (ak ac q0)<|fk (kc (aB ac (m:=0) (r:=s.r) (i:=rs) hrs))<|fk (aA ac hj)<|fk (ak ac q1)<|fk (kd H0)<|fk (aA ac hj)<|fk (ak ac q2)<|fk (kd H1)<|fk (br ac ht)<|aa) he)⟩
theorem Au(ht:bD [256,384,768] (Zo at_)=false)(he:He [(bne (Zo rd) 0,true),(bne (Zo rs) 0,true)]):bR w b c A s (aD j) (Zo rd) (Zo rs) 0 (Zo at_) fz fp (bc (vr s) rd old):=by
 intro k u a7 a8 gh n t wd tw
 obtain⟨told,n0,t0,H0⟩:=hR gh (n+5) (t+26) (u 5) s.md.2
 obtain⟨z1,p1,n1,t1,ez,ep,H1⟩:=hW gh (n0+0) (t0+9) (u 5) (Zd t0 5576) s.md.2
 exact⟨z1,p1,up s.r rd old told,s.sp,n1+1,t1+5,ez,ep,fun i=>bB _ _ _ _ i,kE (Om w b c (aI A a7 a8) s gh n t 40 (az [n0,n1]) (az [t0,t1]) (fun _ _=>0) wd old tw told rs ⟨k,u,aD j,Zo rd,Zo rs,0,0,Zo at_⟩ z1 p1 (up s.r rd old told) (aW j) (aE j) (fk (ba ac hj)<|fk (ak ac q0)<|fk (kc (aB ac (m:=0) (r:=s.r) (i:=rs) hrs))<|fk (aA ac hj)<|fk (ak ac q1)<|fk (kd H0)<|fk (aA ac hj)<|fk (ak ac q2)<|fk (kd H1)<|fk (br ac ht)<|fk (kc (bO ac (m:=0) (r:=s.r) (i:=rd) (x:=old) (y:=told) hrd))<|aa) he)⟩
theorem At(ht:bD [256,384,768] (Zo at_)=true)(he:He [(bne (Zo rd) 0,false),(bne (Zo rs) 0,true)]):bR w b c A s (aD j) (Zo rd) (Zo rs) 0 (Zo at_) fz fp (vr s):=by
 intro k u a7 a8 gh n t wd tw
 obtain⟨told,n0,t0,H0⟩:=hR gh (n+5) (t+26) (u 5) s.md.2
 obtain⟨z1,p1,n1,t1,ez,ep,H1⟩:=hW gh (n0+0) (t0+9) (u 5) (Zd t0 5576) s.md.2
 exact⟨z1,p1,s.r,Zd n1 1972,n1+3,t1+7,ez,ep,fun _=>rfl,kE (Ol w b c (aI A a7 a8) s gh n t 40 (az [n0,n1]) (az [t0,t1]) (fun _ _=>0) wd old tw told rs ⟨k,u,aD j,Zo rd,Zo rs,0,0,Zo at_⟩ z1 p1 s.r (aW j) (aE j) (fk (ba ac hj)<|fk (ak ac q0)<|fk (kc (aB ac (m:=0) (r:=s.r) (i:=rs) hrs))<|fk (aA ac hj)<|fk (ak ac q1)<|fk (kd H0)<|fk (aA ac hj)<|fk (ak ac q2)<|fk (kd H1)<|fk (br ac ht)<|aa) he)⟩
theorem Av(ht:bD [256,384,768] (Zo at_)=true)(he:He [(bne (Zo rd) 0,true),(bne (Zo rs) 0,true)]):bR w b c A s (aD j) (Zo rd) (Zo rs) 0 (Zo at_) fz fp (bc (vr s) rd old):=by
 intro k u a7 a8 gh n t wd tw
 obtain⟨told,n0,t0,H0⟩:=hR gh (n+5) (t+26) (u 5) s.md.2
 obtain⟨z1,p1,n1,t1,ez,ep,H1⟩:=hW gh (n0+0) (t0+9) (u 5) (Zd t0 5576) s.md.2
 exact⟨z1,p1,up s.r rd old told,Zd n1 1972,n1+3,t1+8,ez,ep,fun i=>bB _ _ _ _ i,kE (On w b c (aI A a7 a8) s gh n t 40 (az [n0,n1]) (az [t0,t1]) (fun _ _=>0) wd old tw told rs ⟨k,u,aD j,Zo rd,Zo rs,0,0,Zo at_⟩ z1 p1 (up s.r rd old told) (aW j) (aE j) (fk (ba ac hj)<|fk (ak ac q0)<|fk (kc (aB ac (m:=0) (r:=s.r) (i:=rs) hrs))<|fk (aA ac hj)<|fk (ak ac q1)<|fk (kd H0)<|fk (aA ac hj)<|fk (ak ac q2)<|fk (kd H1)<|fk (br ac ht)<|fk (kc (bO ac (m:=0) (r:=s.r) (i:=rd) (x:=old) (y:=told) hrd))<|aa) he)⟩
end
end
end
section
variable(at_:Nat)(im:Int)(hrd:rd<32)(q0:Xl (aW j).cps.toList [105]=true)
include at_ im hrd q0
section
variable(q1:Xl (aE j).cps.toList [119]=true)
include q1
section
variable(fz fp:Nat→Int)(hW:ce w b c A s at_ s.md.1 im fz fp)
include fz fp hW
theorem Aw(ht:bD [256,384,768] (Zo at_)=false)(he:He [(bne (Zo rd) 0,false),(Xl (Zo rd) 0,true)]):bR w b c A s (aD j) (Zo rd) 0 im (Zo at_) fz fp (vr s):=by
 intro k u a7 a8 gh n t wd tw
 obtain⟨z1,p1,n0,t0,ez,ep,H0⟩:=hW gh (n+5) (t+27) (u 5) (u 4) s.md.2
 exact⟨z1,p1,s.r,s.sp,n0+1,t0+4,ez,ep,fun _=>rfl,kE (Oo w b c (aI A a7 a8) s gh n t 40 (az [n0]) (az [t0]) (fun _ _=>0) wd 0 tw 0 0 ⟨k,u,aD j,Zo rd,0,0,im,Zo at_⟩ z1 p1 s.r (aW j) (aE j) (fk (ba ac hj)<|fk (ak ac q0)<|fk (aA ac hj)<|fk (ak ac q1)<|fk (kd H0)<|fk (br ac ht)<|aa) he)⟩
theorem Ax(ht:bD [256,384,768] (Zo at_)=true)(he:He [(bne (Zo rd) 0,false),(Xl (Zo rd) 0,true)]):bR w b c A s (aD j) (Zo rd) 0 im (Zo at_) fz fp (vr s):=by
 intro k u a7 a8 gh n t wd tw
 obtain⟨z1,p1,n0,t0,ez,ep,H0⟩:=hW gh (n+5) (t+27) (u 5) (u 4) s.md.2
 exact⟨z1,p1,s.r,Zd n0 1972,n0+3,t0+7,ez,ep,fun _=>rfl,kE (Op w b c (aI A a7 a8) s gh n t 40 (az [n0]) (az [t0]) (fun _ _=>0) wd 0 tw 0 0 ⟨k,u,aD j,Zo rd,0,0,im,Zo at_⟩ z1 p1 s.r (aW j) (aE j) (fk (ba ac hj)<|fk (ak ac q0)<|fk (aA ac hj)<|fk (ak ac q1)<|fk (kd H0)<|fk (br ac ht)<|aa) he)⟩
end
section
variable(old:Int)(hR:b0 w b c A s at_ s.md.1 old)(fz fp:Nat→Int)(hW:ce w b c A s at_ s.md.1 im fz fp)
include old hR fz fp hW
theorem Ay(ht:bD [256,384,768] (Zo at_)=false)(he:He [(bne (Zo rd) 0,true),(Xl (Zo rd) 0,false)]):bR w b c A s (aD j) (Zo rd) 0 im (Zo at_) fz fp (bc (vr s) rd old):=by
 intro k u a7 a8 gh n t wd tw
 obtain⟨told,n0,t0,H0⟩:=hR gh (n+5) (t+24) (u 5) s.md.2
 obtain⟨z1,p1,n1,t1,ez,ep,H1⟩:=hW gh (n0+0) (t0+4) (u 5) (u 4) s.md.2
 exact⟨z1,p1,up s.r rd old told,s.sp,n1+1,t1+5,ez,ep,fun i=>bB _ _ _ _ i,kE (Oq w b c (aI A a7 a8) s gh n t 40 (az [n0,n1]) (az [t0,t1]) (fun _ _=>0) wd old tw told 0 ⟨k,u,aD j,Zo rd,0,0,im,Zo at_⟩ z1 p1 (up s.r rd old told) (aW j) (aE j) (fk (ba ac hj)<|fk (ak ac q0)<|fk (aA ac hj)<|fk (ak ac q1)<|fk (kd H0)<|fk (kd H1)<|fk (br ac ht)<|fk (kc (bO ac (m:=0) (r:=s.r) (i:=rd) (x:=old) (y:=told) hrd))<|aa) he)⟩
theorem Az(ht:bD [256,384,768] (Zo at_)=true)(he:He [(bne (Zo rd) 0,true),(Xl (Zo rd) 0,false)]):bR w b c A s (aD j) (Zo rd) 0 im (Zo at_) fz fp (bc (vr s) rd old):=by
 intro k u a7 a8 gh n t wd tw
 obtain⟨told,n0,t0,H0⟩:=hR gh (n+5) (t+24) (u 5) s.md.2
 obtain⟨z1,p1,n1,t1,ez,ep,H1⟩:=hW gh (n0+0) (t0+4) (u 5) (u 4) s.md.2
 exact⟨z1,p1,up s.r rd old told,Zd n1 1972,n1+3,t1+8,ez,ep,fun i=>bB _ _ _ _ i,kE (Or w b c (aI A a7 a8) s gh n t 40 (az [n0,n1]) (az [t0,t1]) (fun _ _=>0) wd old tw told 0 ⟨k,u,aD j,Zo rd,0,0,im,Zo at_⟩ z1 p1 (up s.r rd old told) (aW j) (aE j) (fk (ba ac hj)<|fk (ak ac q0)<|fk (aA ac hj)<|fk (ak ac q1)<|fk (kd H0)<|fk (kd H1)<|fk (br ac ht)<|fk (kc (bO ac (m:=0) (r:=s.r) (i:=rd) (x:=old) (y:=told) hrd))<|aa) he)⟩
end
end
section
variable(q1:Xl (aE j).cps.toList [119]=false)(old:Int)(hR:b0 w b c A s at_ s.md.1 old)
include q1 old hR
theorem ri(he:He [(bne (Zo rd) 0,false),(bne im 0,false)]):bR w b c A s (aD j) (Zo rd) 0 im (Zo at_) (vz s) (vp s) (vr s):=by
 intro k u a7 a8 gh n t wd tw
 obtain⟨told,n0,t0,H0⟩:=hR gh (n+5) (t+25) (u 5) s.md.2
 exact⟨s.z,s.p,s.r,s.sp,n0+1,t0+5,fun _=>rfl,fun _=>rfl,fun _=>rfl,kE (Os w b c (aI A a7 a8) s gh n t 40 (az [n0]) (az [t0]) (fun _ _=>0) wd old tw told 0 ⟨k,u,aD j,Zo rd,0,0,im,Zo at_⟩ s.z s.p s.r (aW j) (aE j) (fk (ba ac hj)<|fk (ak ac q0)<|fk (aA ac hj)<|fk (ak ac q1)<|fk (kd H0)<|aa) he)⟩
section
variable(q2:Xl (aE j).cps.toList [115]=true)(fz fp:Nat→Int)(hW:ce w b c A s at_ s.md.1 (Zb old im) fz fp)
include q2 fz fp hW
theorem AA(ht:bD [256,384,768] (Zo at_)=false)(he:He [(bne (Zo rd) 0,false),(bne im 0,true)]):bR w b c A s (aD j) (Zo rd) 0 im (Zo at_) fz fp (vr s):=by
 intro k u a7 a8 gh n t wd tw
 obtain⟨told,n0,t0,H0⟩:=hR gh (n+5) (t+25) (u 5) s.md.2
 obtain⟨z1,p1,n1,t1,ez,ep,H1⟩:=hW gh (n0+0) (t0+8) (u 5) (Zd t0 5575) s.md.2
 exact⟨z1,p1,s.r,s.sp,n1+1,t1+4,ez,ep,fun _=>rfl,kE (Ot w b c (aI A a7 a8) s gh n t 40 (az [n0,n1]) (az [t0,t1]) (fun _ _=>0) wd old tw told 0 ⟨k,u,aD j,Zo rd,0,0,im,Zo at_⟩ z1 p1 s.r (aW j) (aE j) (fk (ba ac hj)<|fk (ak ac q0)<|fk (aA ac hj)<|fk (ak ac q1)<|fk (kd H0)<|fk (aA ac hj)<|fk (ak ac q2)<|fk (kd H1)<|fk (br ac ht)<|aa) he)⟩
theorem AC(ht:bD [256,384,768] (Zo at_)=false)(he:He [(bne (Zo rd) 0,true),(bne im 0,true)]):bR w b c A s (aD j) (Zo rd) 0 im (Zo at_) fz fp (bc (vr s) rd old):=by
 intro k u a7 a8 gh n t wd tw
 obtain⟨told,n0,t0,H0⟩:=hR gh (n+5) (t+25) (u 5) s.md.2
 obtain⟨z1,p1,n1,t1,ez,ep,H1⟩:=hW gh (n0+0) (t0+8) (u 5) (Zd t0 5575) s.md.2
 exact⟨z1,p1,up s.r rd old told,s.sp,n1+1,t1+5,ez,ep,fun i=>bB _ _ _ _ i,kE (Ow w b c (aI A a7 a8) s gh n t 40 (az [n0,n1]) (az [t0,t1]) (fun _ _=>0) wd old tw told 0 ⟨k,u,aD j,Zo rd,0,0,im,Zo at_⟩ z1 p1 (up s.r rd old told) (aW j) (aE j) (fk (ba ac hj)<|fk (ak ac q0)<|fk (aA ac hj)<|fk (ak ac q1)<|fk (kd H0)<|fk (aA ac hj)<|fk (ak ac q2)<|fk (kd H1)<|fk (br ac ht)<|fk (kc (bO ac (m:=0) (r:=s.r) (i:=rd) (x:=old) (y:=told) hrd))<|aa) he)⟩
theorem AB(ht:bD [256,384,768] (Zo at_)=true)(he:He [(bne (Zo rd) 0,false),(bne im 0,true)]):bR w b c A s (aD j) (Zo rd) 0 im (Zo at_) fz fp (vr s):=by
 intro k u a7 a8 gh n t wd tw
 obtain⟨told,n0,t0,H0⟩:=hR gh (n+5) (t+25) (u 5) s.md.2
 obtain⟨z1,p1,n1,t1,ez,ep,H1⟩:=hW gh (n0+0) (t0+8) (u 5) (Zd t0 5575) s.md.2
 exact⟨z1,p1,s.r,Zd n1 1972,n1+3,t1+7,ez,ep,fun _=>rfl,kE (Ou w b c (aI A a7 a8) s gh n t 40 (az [n0,n1]) (az [t0,t1]) (fun _ _=>0) wd old tw told 0 ⟨k,u,aD j,Zo rd,0,0,im,Zo at_⟩ z1 p1 s.r (aW j) (aE j) (fk (ba ac hj)<|fk (ak ac q0)<|fk (aA ac hj)<|fk (ak ac q1)<|fk (kd H0)<|fk (aA ac hj)<|fk (ak ac q2)<|fk (kd H1)<|fk (br ac ht)<|aa) he)⟩
theorem AD(ht:bD [256,384,768] (Zo at_)=true)(he:He [(bne (Zo rd) 0,true),(bne im 0,true)]):bR w b c A s (aD j) (Zo rd) 0 im (Zo at_) fz fp (bc (vr s) rd old):=by
 intro k u a7 a8 gh n t wd tw
 obtain⟨told,n0,t0,H0⟩:=hR gh (n+5) (t+25) (u 5) s.md.2
 obtain⟨z1,p1,n1,t1,ez,ep,H1⟩:=hW gh (n0+0) (t0+8) (u 5) (Zd t0 5575) s.md.2
 exact⟨z1,p1,up s.r rd old told,Zd n1 1972,n1+3,t1+8,ez,ep,fun i=>bB _ _ _ _ i,kE (Ox w b c (aI A a7 a8) s gh n t 40 (az [n0,n1]) (az [t0,t1]) (fun _ _=>0) wd old tw told 0 ⟨k,u,aD j,Zo rd,0,0,im,Zo at_⟩ z1 p1 (up s.r rd old told) (aW j) (aE j) (fk (ba ac hj)<|fk (ak ac q0)<|fk (aA ac hj)<|fk (ak ac q1)<|fk (kd H0)<|fk (aA ac hj)<|fk (ak ac q2)<|fk (kd H1)<|fk (br ac ht)<|fk (kc (bO ac (m:=0) (r:=s.r) (i:=rd) (x:=old) (y:=told) hrd))<|aa) he)⟩
end
theorem rj(he:He [(bne (Zo rd) 0,true),(bne im 0,false)]):bR w b c A s (aD j) (Zo rd) 0 im (Zo at_) (vz s) (vp s) (bc (vr s) rd old):=by
 intro k u a7 a8 gh n t wd tw
 obtain⟨told,n0,t0,H0⟩:=hR gh (n+5) (t+25) (u 5) s.md.2
 exact⟨s.z,s.p,up s.r rd old told,s.sp,n0+1,t0+6,fun _=>rfl,fun _=>rfl,fun i=>bB _ _ _ _ i,kE (Ov w b c (aI A a7 a8) s gh n t 40 (az [n0]) (az [t0]) (fun _ _=>0) wd old tw told 0 ⟨k,u,aD j,Zo rd,0,0,im,Zo at_⟩ s.z s.p (up s.r rd old told) (aW j) (aE j) (fk (ba ac hj)<|fk (ak ac q0)<|fk (aA ac hj)<|fk (ak ac q1)<|fk (kd H0)<|fk (kc (bO ac (m:=0) (r:=s.r) (i:=rd) (x:=old) (y:=told) hrd))<|aa) he)⟩
section
variable(q2:Xl (aE j).cps.toList [115]=false)(fz fp:Nat→Int)(hW:ce w b c A s at_ s.md.1 (Za old (Zc 4294967295 im)) fz fp)
include q2 fz fp hW
theorem AE(ht:bD [256,384,768] (Zo at_)=false)(he:He [(bne (Zo rd) 0,false),(bne im 0,true)]):bR w b c A s (aD j) (Zo rd) 0 im (Zo at_) fz fp (vr s):=by
 intro k u a7 a8 gh n t wd tw
 obtain⟨told,n0,t0,H0⟩:=hR gh (n+5) (t+25) (u 5) s.md.2
 obtain⟨z1,p1,n1,t1,ez,ep,H1⟩:=hW gh (n0+0) (t0+9) (u 5) (Zd t0 5576) s.md.2
 exact⟨z1,p1,s.r,s.sp,n1+1,t1+4,ez,ep,fun _=>rfl,kE (Oy w b c (aI A a7 a8) s gh n t 40 (az [n0,n1]) (az [t0,t1]) (fun _ _=>0) wd old tw told 0 ⟨k,u,aD j,Zo rd,0,0,im,Zo at_⟩ z1 p1 s.r (aW j) (aE j) (fk (ba ac hj)<|fk (ak ac q0)<|fk (aA ac hj)<|fk (ak ac q1)<|fk (kd H0)<|fk (aA ac hj)<|fk (ak ac q2)<|fk (kd H1)<|fk (br ac ht)<|aa) he)⟩
theorem AG(ht:bD [256,384,768] (Zo at_)=false)(he:He [(bne (Zo rd) 0,true),(bne im 0,true)]):bR w b c A s (aD j) (Zo rd) 0 im (Zo at_) fz fp (bc (vr s) rd old):=by
 intro k u a7 a8 gh n t wd tw
 obtain⟨told,n0,t0,H0⟩:=hR gh (n+5) (t+25) (u 5) s.md.2
 obtain⟨z1,p1,n1,t1,ez,ep,H1⟩:=hW gh (n0+0) (t0+9) (u 5) (Zd t0 5576) s.md.2
 exact⟨z1,p1,up s.r rd old told,s.sp,n1+1,t1+5,ez,ep,fun i=>bB _ _ _ _ i,kE (OA w b c (aI A a7 a8) s gh n t 40 (az [n0,n1]) (az [t0,t1]) (fun _ _=>0) wd old tw told 0 ⟨k,u,aD j,Zo rd,0,0,im,Zo at_⟩ z1 p1 (up s.r rd old told) (aW j) (aE j) (fk (ba ac hj)<|fk (ak ac q0)<|fk (aA ac hj)<|fk (ak ac q1)<|fk (kd H0)<|fk (aA ac hj)<|fk (ak ac q2)<|fk (kd H1)<|fk (br ac ht)<|fk (kc (bO ac (m:=0) (r:=s.r) (i:=rd) (x:=old) (y:=told) hrd))<|aa) he)⟩
theorem AF(ht:bD [256,384,768] (Zo at_)=true)(he:He [(bne (Zo rd) 0,false),(bne im 0,true)]):bR w b c A s (aD j) (Zo rd) 0 im (Zo at_) fz fp (vr s):=by
 intro k u a7 a8 gh n t wd tw
 obtain⟨told,n0,t0,H0⟩:=hR gh (n+5) (t+25) (u 5) s.md.2
 obtain⟨z1,p1,n1,t1,ez,ep,H1⟩:=hW gh (n0+0) (t0+9) (u 5) (Zd t0 5576) s.md.2
 exact⟨z1,p1,s.r,Zd n1 1972,n1+3,t1+7,ez,ep,fun _=>rfl,kE (Oz w b c (aI A a7 a8) s gh n t 40 (az [n0,n1]) (az [t0,t1]) (fun _ _=>0) wd old tw told 0 ⟨k,u,aD j,Zo rd,0,0,im,Zo at_⟩ z1 p1 s.r (aW j) (aE j) (fk (ba ac hj)<|fk (ak ac q0)<|fk (aA ac hj)<|fk (ak ac q1)<|fk (kd H0)<|fk (aA ac hj)<|fk (ak ac q2)<|fk (kd H1)<|fk (br ac ht)<|aa) he)⟩
theorem AH(ht:bD [256,384,768] (Zo at_)=true)(he:He [(bne (Zo rd) 0,true),(bne im 0,true)]):bR w b c A s (aD j) (Zo rd) 0 im (Zo at_) fz fp (bc (vr s) rd old):=by
 intro k u a7 a8 gh n t wd tw
 obtain⟨told,n0,t0,H0⟩:=hR gh (n+5) (t+25) (u 5) s.md.2
 obtain⟨z1,p1,n1,t1,ez,ep,H1⟩:=hW gh (n0+0) (t0+9) (u 5) (Zd t0 5576) s.md.2
 exact⟨z1,p1,up s.r rd old told,Zd n1 1972,n1+3,t1+8,ez,ep,fun i=>bB _ _ _ _ i,kE (OB w b c (aI A a7 a8) s gh n t 40 (az [n0,n1]) (az [t0,t1]) (fun _ _=>0) wd old tw told 0 ⟨k,u,aD j,Zo rd,0,0,im,Zo at_⟩ z1 p1 (up s.r rd old told) (aW j) (aE j) (fk (ba ac hj)<|fk (ak ac q0)<|fk (aA ac hj)<|fk (ak ac q1)<|fk (kd H0)<|fk (aA ac hj)<|fk (ak ac q2)<|fk (kd H1)<|fk (br ac ht)<|fk (kc (bO ac (m:=0) (r:=s.r) (i:=rd) (x:=old) (y:=told) hrd))<|aa) he)⟩
end
end
end
end
end
theorem k0{p:Xf}{w:Z8}{S:HT}{B:Nat}{C:Ctx→Prop}{cd:Xo}{gh pre:gHs}{n t t':Nat}{f:Flow}
  (H:∀Γ P h gs d os,Xg (model p w) Γ P ((model p w).den cd) [] ⟨h,gs,d,t,os⟩ (.ret (.ok f)) ⟨h,gs,d,t',os⟩):
  TriC (model p w) S B C cd gh pre n t (.ok f) gh pre n t':=by
 intro nd lo big Γ P h gs d os hΓ hL hn hs hp hgh
 exact⟨h,H Γ P h gs d os,hn,Zm _,rfl,nd,fun x hx=>⟨.inl (Qq.mpr ⟨x,hx,rfl⟩),hp x hx⟩,fun _ _ _ o ho=>ho,fun x hx=>⟨(hgh x hx).1,(hgh x hx).2,.inl (Qq.mpr ⟨x,hx,rfl⟩)⟩⟩
noncomputable def cC(m:Nat):List Nat:=(Nat.toDigits 16 m).map fun c=>(if (120:Nat)==88 then c.toUpper else c).toNat
noncomputable def UK(l:List Nat):List Nat:=if l.isEmpty=true then [] else List.replicate ((0:Int).toNat-l.length) 48++l
def Es(m:Nat):Str:=⟨(List.replicate ((-1:Int)-((([]:List Nat).length:Int)+(([]:List Nat).length:Int)+(([]:List Nat).length:Int))-((UK (cC m)).length:Int)).toNat 32++[]++[]++List.replicate 0 32++UK (cC m)++[]++List.replicate 0 32).toArray⟩
theorem Kp(m tn ti:Nat):Builtin.«int.__format__» ⟨[.int (Zo m) tn,.str xE ti],[]⟩=(retStr (Es m):Xj Z3):=by kernel_rfl
theorem ZT(a0 a1 a2 a3 a4 a5 a6 a7:Nat):(retStr ⟨⟨[a0,a1,a2,a3,a4,a5,a6,a7]⟩⟩:Xj Z3)=.fresh fun t=>.pure (.done (.ret (.str ⟨⟨[a0,a1,a2,a3,a4,a5,a6,a7]⟩⟩ t))):=by kernel_rfl
theorem ZM{m:Nat}(h1:2^28≤m)(h2:m<2^32):∃a0 a1 a2 a3 a4 a5 a6 a7,cC m=[a0,a1,a2,a3,a4,a5,a6,a7]:=by
 have key:∃c0 c1 c2 c3 c4 c5 c6 c7,Nat.toDigits 16 m=[c0,c1,c2,c3,c4,c5,c6,c7]:=by
  unfold Nat.toDigits
  obtain⟨f,hf⟩:∃f,m+1=f+8:=⟨m-7,by omega⟩
  rw[hf]
  simp only[Nat.toDigitsCore]
  rw[if_neg (by omega),if_neg (by omega),if_neg (by omega),if_neg (by omega),if_neg (by omega),if_neg (by omega),if_neg (by omega),if_pos (by omega)]
  exact⟨_,_,_,_,_,_,_,_,rfl⟩
 obtain⟨c0,c1,c2,c3,c4,c5,c6,c7,e⟩:=key
 exact⟨_,_,_,_,_,_,_,_,by unfold cC;rw[e];rfl⟩
noncomputable def cc(l:List Nat)(i:Nat):Nat:=l.getD i 0
theorem bQ{w:Z8}{b c:Bool}{S:HT}{B:Nat}{C:Ctx→Prop}{gh:gHs}{n t tn ti m:Nat}(h1:2^28≤m)(h2:m<2^32):
  TriC (MM w b c) S B C (.builtin "int.__format__" ⟨[.int (Zo m) tn,.str xE ti],[]⟩) gh [] n t (.ok (.ret (.str ⟨⟨[cc (cC m) 0,cc (cC m) 1,cc (cC m) 2,cc (cC m) 3,cc (cC m) 4,cc (cC m) 5,cc (cC m) 6,cc (cC m) 7]⟩⟩ t))) gh [] n (t+1):=by
 obtain⟨a0,a1,a2,a3,a4,a5,a6,a7,e⟩:=ZM h1 h2
 refine k0 fun Γ P h gs d os=>?_
 have z:Es m=⟨⟨[a0,a1,a2,a3,a4,a5,a6,a7]⟩⟩:=by
  unfold Es;rw[e];rfl
 rw[cU F.entry_int_format,Kp,z,ZT,e]
 exact .fresh .done
section
variable(w:Z8)(b c:Bool)(A:AS)(s:BS)
include w b c A s
section
variable(i:Nat)(m:Int)
include i m
theorem zq(hp:i∈plainL)(he:He (rF i m)):fb w b c A s i m:=by
 rintro ti tm ⟨it,c1,c2,c3,fe,fm,q,sl⟩ f gh n t hs
 obtain⟨y,rfl⟩:=okB hs
 obtain⟨PL,h⟩:=Lw w b c (aR A f) s gh n t 0 i ti tm 0 it c1 c2 c3 m 0 fe fm q y (fk (ga ac ch hp)<|aa) he
 exact⟨Zd n 1979,Zd n 1971,n+5,n+9,n+11,n+12,t+40,.ref (Zd n 1981),PL,by omega,kF (TriC.sub h pY)⟩
section
variable(hp:i∉plainL)
include hp
theorem zr(he:He [(decide (Xm m (Za (aw (Zo i) 8) 3)),true)]):fb w b c A s i m:=by
 rintro ti tm ⟨it,c1,c2,c3,fe,fm,q,sl⟩ f gh n t hs
 obtain⟨y,rfl⟩:=okB hs
 obtain⟨PL,h⟩:=Lx w b c (aR A f) s gh n t 0 i ti tm 0 it c1 c2 c3 m 0 fe fm q y (fk (bj ac ch hp)<|aa) he
 exact⟨Zd n 1978,Zd n 1971,n+4,n+8,n+10,n+11,t+35,.ref (Zd n 1980),PL,by omega,kF (TriC.sub h pY)⟩
theorem iM(hn:rn (PP w b c) (Zo i)=true)(he:He [(Xl (Za (aw (s.p 774).1 (Za (Zo i) 3)) 1) 0,true),(lU (Za (Zo i) 3),false),(Xl m 1,true),(decide (Xm m 3),true),(Xl (aw (Zo i) 8) 12,true),(decide (Xm m (Za (aw (Zo i) 8) 3)),false)]):fb w b c A s i m:=by
 rintro ti tm ⟨it,c1,c2,c3,fe,fm,q,sl⟩ f gh n t hs
 obtain⟨y,rfl⟩:=okB hs
 obtain⟨PL,h⟩:=Ly w b c (aR A f) s gh n t 0 i ti tm 0 it c1 c2 c3 m 0 fe fm q y (fk (bj ac ch hp)<|fk (bt ac hn)<|fk (cg ac (i:=774) (by decide))<|aa) he
 exact⟨Zd n 1978,Zd n 1971,n+4,n+8,n+10,n+11,t+49,.ref (Zd n 1980),PL,by omega,kF (TriC.sub h pY)⟩
theorem iN(hn:rn (PP w b c) (Zo i)=true)(he:He (rG s i m)):fb w b c A s i m:=by
 rintro ti tm ⟨it,c1,c2,c3,fe,fm,q,sl⟩ f gh n t hs
 obtain⟨y,rfl⟩:=okB hs
 obtain⟨PL,h⟩:=LA w b c (aR A f) s gh n t 0 i ti tm 0 it c1 c2 c3 m 0 fe fm q y (fk (bj ac ch hp)<|fk (bt ac hn)<|fk (cg ac (i:=774) (by decide))<|fk (cg ac (i:=262) (by decide))<|aa) he
 exact⟨Zd n 1978,Zd n 1971,n+4,n+8,n+10,n+11,t+53,.ref (Zd n 1980),PL,by omega,kF (TriC.sub h pY)⟩
end
section
variable(v:Int)
include v
theorem vQ(he:He [(decide (Xm m (Za (aw (Zo i) 8) 3)),true)]):cY w b c A s i m v:=by
 rintro ti tv tm ⟨it,c1,c2,c3,fe,fm,q,sl⟩ f gh n t hs
 obtain⟨y,rfl⟩:=okB hs
 obtain⟨PL,h⟩:=Gd w b c (aR A f) s gh n t 0 i ti tm tv it c1 c2 c3 m v fe fm q y he
 exact⟨Zd n 1978,Zd n 1971,n+4,n+8,n+10,n+11,t+34,.ref (Zd n 1980),PL,by omega,kF (TriC.sub h pY)⟩
section
variable(hn:rn (PP w b c) (Zo i)=true)
include hn
theorem hM(he:He [(Xl (Za (aw (s.p 774).1 (Za (Zo i) 3)) 1) 0,true),(lU (Za (Zo i) 3),false),(Xl m 1,true),(decide (Xm m 3),true),(Xl (aw (Zo i) 8) 12,true),(decide (Xm m (Za (aw (Zo i) 8) 3)),false)]):cY w b c A s i m v:=by
 rintro ti tv tm ⟨it,c1,c2,c3,fe,fm,q,sl⟩ f gh n t hs
 obtain⟨y,rfl⟩:=okB hs
 obtain⟨PL,h⟩:=Ge w b c (aR A f) s gh n t 0 i ti tm tv it c1 c2 c3 m v fe fm q y (fk (bt ac hn)<|fk (cg ac (i:=774) (by decide))<|aa) he
 exact⟨Zd n 1978,Zd n 1971,n+4,n+8,n+10,n+11,t+48,.ref (Zd n 1980),PL,by omega,kF (TriC.sub h pY)⟩
theorem hP(he:He (qb s i m)):cY w b c A s i m v:=by
 rintro ti tv tm ⟨it,c1,c2,c3,fe,fm,q,sl⟩ f gh n t hs
 obtain⟨y,rfl⟩:=okB hs
 obtain⟨PL,h⟩:=Gf w b c (aR A f) s gh n t 0 i ti tm tv it c1 c2 c3 m v fe fm q y (fk (bt ac hn)<|fk (cg ac (i:=774) (by decide))<|fk (cg ac (i:=262) (by decide))<|aa) he
 exact⟨Zd n 1978,Zd n 1971,n+4,n+8,n+10,n+11,t+52,.ref (Zd n 1980),PL,by omega,kF (TriC.sub h pY)⟩
theorem hH(he:He (p9 s i m)):cY w b c A s i m v:=by
 rintro ti tv tm ⟨it,c1,c2,c3,fe,fm,q,sl⟩ f gh n t hs
 obtain⟨y,rfl⟩:=okB hs
 obtain⟨PL,h⟩:=Gb w b c (aR A f) s gh n t 0 i ti tm tv it c1 c2 c3 m v fe fm q y (fk (bt ac hn)<|fk (cg ac (i:=774) (by decide))<|aa) he
 exact⟨Zd n 1979,Zd n 1971,n+5,n+9,n+10,n+11,t+54,.none,PL,by omega,kF (TriC.sub h pY)⟩
theorem hK(he:He (qa s i m)):cY w b c A s i m v:=by
 rintro ti tv tm ⟨it,c1,c2,c3,fe,fm,q,sl⟩ f gh n t hs
 obtain⟨y,rfl⟩:=okB hs
 obtain⟨PL,h⟩:=Gc w b c (aR A f) s gh n t 0 i ti tm tv it c1 c2 c3 m v fe fm q y (fk (bt ac hn)<|fk (cg ac (i:=774) (by decide))<|fk (cg ac (i:=262) (by decide))<|aa) he
 exact⟨Zd n 1979,Zd n 1971,n+5,n+9,n+10,n+11,t+58,.none,PL,by omega,kF (TriC.sub h pY)⟩
end
end
end
end
def jA:=LZ [14,14,2001002,0,1500,20,22,22,22,14,20,20,20,23,23,0,9000020,20,23,23,1009000,14,1025000,25,0,25,1007000,1006026,2000026,26,26,3900,0,0,0,0,1004027,0,0,0,27,27,25,0,25,0,25,25,25,27,27,25,0,0,9000025,25,0,25,0,0,9000025,25,29,29,29,26,26,25,0,0,9000025,25,0,25,0,0,9000025,29,29,29,26,26,25,0,0,9000025,25,0,25,0,0,9000025,29,29,29,25,25,0,1006025,0,25,1,20,9025014,25,25,25,30,30,25]
def TE:=LZ [2001002,6003004,14,14,14,2001002,0,1500,21,23,23,23,14,21,21,21,24,24,0,9000021,21,24,24,1009000,14,1025000,26,0,26,1007000,1006027,2000027,27,27,3900,0,0,0,0,1004028,0,0,0,28,28,26,0,26,0,26,26,26,28,28,26,0,0,9000026,26,0,26,0,0,9000026,26,30,30,30,27,27,26,0,0,9000026,26,0,26,0,0,9000026,30,30,30,27,27,26,0,0,9000026,26,0,26,0,0,9000026,30,30,30,26,26,0,1006026,0,26,1,21,9026014,26,26,26]
def G0:=LZ [1006014,0,14,2008013,14,2008013,14,2008013,3015016,16,9016015,16,18,1007014,7001,3002]
def lm:=LZ ([0]++G0++[1004014,2001002,14,2008013,6,6,6,6,1003,14,14,14,3004,3005])
def lp:=LZ ([0,0]++G0++[1004014,2008013,14,14,14,3003,3004])
def nP:=LZ [1005014,2008013,1,1004014,2001002,6003004]
def nQ:=LZ (TE++[31,31,26,31,26,31,31])
section
variable(w:Z8)(b c:Bool)(A:AS)(s:BS)(gh:gHs)(n t L:Nat)(nn tt:Nat→Nat)(vv:Nat→Nat→Nat)(wd old xf2:Int)(tw told j it c1 c2 c3 xa xf:Nat)(I:IS)(xt:Z6)(pl:Nat→Z6)(hx:Nat→Nat)(fe:Nat→Array Z7)(fm:Nat→Nat)(q:Nat→Z4)(sl:Array (Option Z6))(lc fc:Str)
def yA:Z7:=ae w b c gB (Zd t 5571) (rA A 0)
def yv:Z7:=ae w b c gC (Zd t 5572) (rA A 7)
def yB:Z7:=ae w b c gD (Zd t 5573) (.int wd tw)
def yD:Z7:=ae w b c dw (Zd t 5577) (.int I.rd (I.t 1))
noncomputable def f4:Z6:=.int I.cs (I.t 5)
def yE:Z7:=ae w b c bW (Zd t 5579) (.str I.nm (I.t 0))
def jb(Y0:Z6)(Y1:Nat)(Y2:Z6)(Y3:Nat)(Y4:Z6)(Y5 Y6:Nat)(Y7:Z6):List (Z7):=[yA w b c A t,yv w b c A t,yB w b c t wd tw,yD w b c t I,ae w b c tC (Zd t 5578) (f4 I),yE w b c t I,ae w b c xF (Zd t 5584) Y0,ae w b c xG (Zd t Y1) Y2,ae w b c xH (Zd t Y3) Y4,ae w b c xI (Zd t Y5) (.bool true),ae w b c DQ (Zd (tt 0) 5571) (.int old told),ae w b c gA (Zd (tt 0) Y6) Y7]
def yu(Y0:Z6)(Y1:Nat)(Y2:Z6)(Y3:Nat)(Y4:Z6)(Y5:Nat)(Y6:Z6):List (Z7):=[yA w b c A t,yv w b c A t,yB w b c t wd tw,yD w b c t I,ae w b c tC (Zd t 5578) (f4 I),yE w b c t I,ae w b c xF (Zd t 5584) Y0,ae w b c xG (Zd t Y1) Y2,ae w b c xH (Zd t Y3) Y4,ae w b c xI (Zd t Y5) Y6]
def yy(Y0:Z6)(Y1:Nat)(Y2:Z6)(Y3 Y4 Y5:Nat)(Y6:Z6)(Y7:Nat):List (Z7):=[yA w b c A t,yv w b c A t,yB w b c t wd tw,yD w b c t I,ae w b c tC (Zd t 5578) (f4 I),yE w b c t I,ae w b c xF (Zd t 5584) Y0,ae w b c xG (Zd t Y1) Y2,ae w b c xH (Zd t Y3) (.bool true),ae w b c xI (Zd t Y4) (.bool true),ae w b c DQ (Zd t Y5) Y6,ae w b c gA (Zd t Y7) Y2]
noncomputable def iI:Z6:=.int s.md.1 s.md.2
def pf:Xo:=cR 1428 [rA A 2,f4 I,iI s]
noncomputable def fG:Z6:=.int I.im (I.t 4)
def cw(Y0 Y1:Nat):Nat×Obj:=(Y0,aY (fe Y1) (fm Y1) #[])
def gL:Nat×Obj:=(11,aY (fe 4) (fm 4) sl)
def Gr(Y0:Bool)(Y1:Nat)(Y2:Bool):List (Nat×Obj):=aj w b c A s++[(13,⟨.type "frame",none,.dict ⟨yu w b c A t wd tw I (.bool true) 5586 (fG I) 5590 (.bool Y0) Y1 (.bool Y2)⟩ 10,#[]⟩),cw fe fm 8 1,cw fe fm 9 2,cw fe fm 10 3,gL fe fm sl]
noncomputable def gM(Y0 Y1:Nat):Nat:=Zd (vv Y0 Y1) 1971
def iy(Y0:Nat):Xc:=.error (.ref (gM vv Y0 0))
def cu(Y0 Y1 Y2 Y3 Y4:Nat):Nat×Obj:=(Y0,aY (fe Y1) (fm Y1) (bH Y2 Y3 (rA A Y4)))
def gK:Nat×Obj:=(11,aY (fe 4) (fm 4) (ck c1 c2 c3))
def jO(Y0 Y1:Nat):Nat×Obj:=(Y0,UL xa (gM vv Y1 1) (gM vv Y1 2))
def Go(Y0:Bool)(Y1:Nat)(Y2:Bool):List (Nat×Obj):=aj w b c A s++[(13,⟨.type "frame",none,.dict ⟨yu w b c A t wd tw I (.bool true) 5586 (fG I) 5590 (.bool Y0) Y1 (.bool Y2)⟩ 10,bH 1897 1898 (rA A 8)⟩),cu A fe fm 8 1 1890 1891 9,cu A fe fm 9 2 1876 1877 10,cu A fe fm 10 3 1964 1965 11,gK c1 c2 c3 fe fm,jO vv xa 19 0,(21,fF xt xf .none pl)]
def OL(Y0:Bool):Call:=⟨pf A s I,18,25,Gr w b c A s t wd tw I fe fm sl false 5593 Y0,iy vv 0,22,26,Go w b c A s t vv wd tw c1 c2 c3 xa xf I xt pl fe fm false 5593 Y0⟩
def Gs(Y0:Bool)(Y1:Nat)(Y2:Bool):List (Nat×Obj):=aj w b c A s++[(13,⟨.type "frame",none,.dict ⟨yu w b c A t wd tw I (.bool false) 5587 (bh s j) 5591 (.bool Y0) Y1 (.bool Y2)⟩ 10,#[]⟩),cw fe fm 8 1,cw fe fm 9 2,cw fe fm 10 3,gL fe fm sl]
def Gp(Y0:Bool)(Y1:Nat)(Y2:Bool):List (Nat×Obj):=aj w b c A s++[(13,⟨.type "frame",none,.dict ⟨yu w b c A t wd tw I (.bool false) 5587 (bh s j) 5591 (.bool Y0) Y1 (.bool Y2)⟩ 10,bH 1897 1898 (rA A 8)⟩),cu A fe fm 8 1 1890 1891 9,cu A fe fm 9 2 1876 1877 10,cu A fe fm 10 3 1964 1965 11,gK c1 c2 c3 fe fm,jO vv xa 19 0,(21,fF xt xf .none pl)]
def OM(Y0:Bool):Call:=⟨pf A s I,18,26,Gs w b c A s t wd tw j I fe fm sl false 5594 Y0,iy vv 0,22,27,Gp w b c A s t vv wd tw j c1 c2 c3 xa xf I xt pl fe fm false 5594 Y0⟩
noncomputable def gN(Y0:Nat):Xc:=.error (.ref (Zd (nn Y0) 1973))
noncomputable def ef(Y0:Nat):Nat:=Zd (A.a Y0) 1971
noncomputable def yw:Z6:=.int (Za old (Zc 4294967295 (s.r j).1)) (Zd (tt 0) 5576)
noncomputable def yx:Z6:=.int (Za old (Zc 4294967295 I.im)) (Zd (tt 0) 5576)
def Gq:Xo:=rr 144 12 NJ 1898 1897 (Zd n 1971)
def Gt:Xo:=cB "str.__eq__" [.str fc (Zd (tt 0) 5573),.str tK (Zd (tt 0) 5574)]
noncomputable def yC:Z6:=.int (Zb old (s.r j).1) (Zd (tt 0) 5575)
def Gu:List (Z7):=jb w b c A t tt wd old tw told I (.bool true) 5586 (fG I) 5590 (.bool false) 5593 5576 (.int (Zb old I.im) (Zd (tt 0) 5575))
def Gv:Xo:=cB "str.__eq__" [.str lc (Zd t 5582),.str xD (Zd t 5583)]
def jD:List (Nat×Nat):=[(22,Zd (nn 0) 1971),(21,gM vv 0 2),(20,gM vv 0 1),(19,gM vv 0 0),(13,Zd n 1971)]
noncomputable def jE(x0:Nat):List (Nat×Nat):=[(x0,Zd (tt 0) 5571),(0,Zd t 5571)]
def fq:Call:=cS (cB "str.__getitem__" [.str I.nm (I.t 0),.int (Neg.neg 1) (Zd t 5581)]) 18 11 [] (rV (.str lc (Zd t 5582))) 18 12
def lK:Call:=cS (Gv t lc) 18 13 [] (rV (.bool false)) 18 13
def lL:Call:=cS (cB "list.__getitem__" [rA A 5,.int I.rs1 (I.t 2)]) 18 16 [(5,d5 (PP w b c) A s)] (rV (bh s j)) 18 16
def fs(x0 x1 x2 x3:Nat):Call:=cS (cB "str.__getitem__" [.str I.nm (I.t 0),.int 4 (Zd t x0)]) 18 x1 [] (rV (.str fc (Zd t x2))) 18 x3
def oh(x0 x1 x2:Nat):Call:=cS (cB "str.__eq__" [.str fc (Zd t x0),.str oK (Zd t x1)]) 18 x2 [] (rV (.bool true)) 18 x2
def oi:List (List (Xo×Z4)):=[((Gq n,⟨772,52,772,85⟩)::CB it (ef A 8) (ef A 9) (ef A 10) (ef A 11) c1 c2 c3 q)]
def fu(x0 x1 x2 x3:Nat):Call:=cS (cB "int.__format__" [.int wd tw,.str xE (Zd (tt x0) 5581)]) x1 x2 [] (rV (.str ⟨⟨[hx 0,hx 1,hx 2,hx 3,hx 4,hx 5,hx 6,hx 7]⟩⟩ (Zd (tt x0) 5582))) x1 x3
def fv(x0:Nat):Bool:=(bne (Qc (gM vv x0 0)) (Qc (Zd (nn x0) 1973)))
def dU:List (Xo×Z4):=(CB it (ef A 8) (ef A 9) (ef A 10) (ef A 11) c1 c2 c3 q)
def dV:Xo:=(cR 1898 [.ref (ef A 0),.ref (ef A 7),.int wd tw])
def dW:List (Nat×Obj):=(aj w b c A s++[(7,iO 121 (ef A 12)),cw fe fm 8 1,cw fe fm 9 2,cw fe fm 10 3,gL fe fm sl,(12,iD (PP w b c) I)])
def dX(PL:Nat→Z6)(x0 x1 x2 x3:Nat):List (Nat×Obj):=(aj w b c A s++[(7,iO 121 (ef A 12)),cu A fe fm 8 1 1890 1891 9,cu A fe fm 9 2 1876 1877 10,cu A fe fm 10 3 1964 1965 11,gK c1 c2 c3 fe fm,(12,iD (PP w b c) I),(x0,⟨.ref 91,some (Zd (nn x1) 1977),.fields ⟨[.ref (Zd (nn x1) 1976),.ref (Zd (nn x1) 1978),.ref (gM vv x1 0),.none,.bool true,.none]⟩,#[]⟩),(x2,dO [ae w b c tD (Zd (tt x1) 5588) (.str ⟨⟨[116,114,97,112,32,50,32,119,105,116,104,32,hx 0,hx 1,hx 2,hx 3,hx 4,hx 5,hx 6,hx 7]⟩⟩ (Zd (tt x1) 5583)),ae w b c tF (Zd (tt x1) 5590) (.int 2 281),ae w b c gA (Zd (tt x1) 5592) (.int wd tw)] 3),(x3,fF .none (Zd n 1971) .none PL)])
def il(x0 x1 x2:Nat):Call:=cS (cB "str.__eq__" [.str fc (Zd t x0),.str oK (Zd t x1)]) 18 x2 [] (rV (.bool false)) 18 x2
def ip:List (List (Xo×Z4)):=[((Gq n,⟨775,16,775,57⟩)::CB it (ef A 8) (ef A 9) (ef A 10) (ef A 11) c1 c2 c3 q)]
def km:List (Nat×Nat):=[(23,Zd (nn 1) 1971),(22,gM vv 1 2),(21,gM vv 1 1),(20,gM vv 1 0),(19,Zd (nn 0) 1971),(13,Zd n 1971)]
noncomputable def kn(x0 x1:Nat):List (Nat×Nat):=[(x0,Zd (tt 1) 5571),(x1,Zd (tt 0) 5571),(0,Zd t 5571)]
def ko(x0 x1:Nat):Call:=cS (pf A s I) 18 x0 (aj w b c A s) (rV (.int old told)) 19 x1
def pQ(x0 x1:Nat):Call:=cS (cB "str.__getitem__" [.str I.nm (I.t 0),.int 4 (Zd (tt 0) 5572)]) 19 x0 [] (rV (.str fc (Zd (tt 0) 5573))) 19 x1
def B6(x0:Nat):Call:=cS (Gt tt fc) 19 x0 [] (rV (.bool true)) 19 x0
def B8(x0:Nat):Call:=cS (Gt tt fc) 19 x0 [] (rV (.bool false)) 19 x0
def jm:Call:=cS (Gv t lc) 18 13 [] (rV (.bool true)) 18 13
include w b c A s gh n t L nn tt vv wd old xf2 tw told j it c1 c2 c3 xa xf I xt pl hx fe fm q sl lc fc
theorem Oa:cT w b c A gh L 40 (jD n nn vv) (jE t tt 26) [fq t I lc,lK t lc,lL w b c A s j I,fs t I fc 5588 18 5589 19,oh t fc 5589 5590 20] [⟨pf A s I,18,25,Gs w b c A s t wd tw j I fe fm sl true 5592 true,iy vv 0,22,26,Gp w b c A s t vv wd tw j c1 c2 c3 xa xf I xt pl fe fm true 5592 true⟩] (oi A n it c1 c2 c3 q) [fu tt wd tw hx 0 26 37 38] [(fv nn vv 0,true),(Xl I.rd 0,false)] (dU A it c1 c2 c3 q) (dV A wd tw) 13 (dW w b c A s I fe fm sl) (gN nn 0) 30 (fun PL=>dX w b c A s n nn tt vv wd tw c1 c2 c3 I hx fe fm PL 24 0 28 29) 48:=cE (hm ([0]++lm++[1007014,2,14,2001002,6003004]++jA++[30,25,30,30])) 29
theorem Ob:cT w b c A gh L 40 (jD n nn vv) (jE t tt 27) [fq t I lc,lK t lc,lL w b c A s j I,fs t I fc 5588 18 5589 19,il t fc 5589 5590 20] [OM w b c A s t vv wd tw j c1 c2 c3 xa xf I xt pl fe fm sl true] (oi A n it c1 c2 c3 q) [fu tt wd tw hx 0 26 38 39] [(fv nn vv 0,true),(bne I.rs1 0,true)] (dU A it c1 c2 c3 q) (dV A wd tw) 13 (dW w b c A s I fe fm sl) (gN nn 0) 30 (fun PL=>dX w b c A s n nn tt vv wd tw c1 c2 c3 I hx fe fm PL 24 0 28 29) 49:=cE (hm ([0]++lm++nP++jA++[30,25,30,30])) 29
theorem Oc:cT w b c A gh L 40 (jD n nn vv) (jE t tt 27) [fq t I lc,lK t lc,lL w b c A s j I,fs t I fc 5588 18 5589 19,il t fc 5589 5590 20] [OM w b c A s t vv wd tw j c1 c2 c3 xa xf I xt pl fe fm sl false] (oi A n it c1 c2 c3 q) [fu tt wd tw hx 0 26 38 39] [(fv nn vv 0,true),(bne I.rs1 0,false)] (dU A it c1 c2 c3 q) (dV A wd tw) 13 (dW w b c A s I fe fm sl) (gN nn 0) 30 (fun PL=>dX w b c A s n nn tt vv wd tw c1 c2 c3 I hx fe fm PL 24 0 28 29) 49:=cE (hm ([0]++lm++[1005014,2008013,2,1004014,2001002,6003004]++jA++[30,25,30,30])) 29
theorem Od:cT w b c A gh L 40 (jD n nn vv) (jE t tt 29) [fq t I lc,lK t lc,lL w b c A s j I,fs t I fc 5588 18 5589 19,oh t fc 5589 5590 20] [⟨cR 1450 [rA A 2,f4 I,bh s j,iI s],18,28,aj w b c A s++[(13,⟨.type "frame",none,.dict ⟨yy w b c A t wd tw I (.bool false) 5587 (bh s j) 5591 5592 5595 (.int 0 (Zd t 5594)) 5596⟩ 12,#[]⟩),cw fe fm 8 1,cw fe fm 9 2,cw fe fm 10 3,gL fe fm sl],iy vv 0,22,29,aj w b c A s++[(13,⟨.type "frame",none,.dict ⟨yy w b c A t wd tw I (.bool false) 5587 (bh s j) 5591 5592 5595 (.int 0 (Zd t 5594)) 5596⟩ 12,bH 1897 1898 (rA A 8)⟩),cu A fe fm 8 1 1890 1891 9,cu A fe fm 9 2 1876 1877 10,cu A fe fm 10 3 1964 1965 11,gK c1 c2 c3 fe fm,jO vv xa 19 0,(21,fF xt xf .none pl)]⟩] (ip A n it c1 c2 c3 q) [fu tt wd tw hx 0 26 40 41] [(fv nn vv 0,true),(Xl I.rd 0,true)] (dU A it c1 c2 c3 q) (dV A wd tw) 13 (dW w b c A s I fe fm sl) (gN nn 0) 30 (fun PL=>dX w b c A s n nn tt vv wd tw c1 c2 c3 I hx fe fm PL 24 0 28 29) 51:=cE (hm ([0]++lm++[1007014,1,1008014,2001002,6003004,14]++jA++[30,25,30,30])) 29
theorem Oe:cT w b c A gh L 40 (km n nn vv) (kn t tt 31 26) [fq t I lc,lK t lc,lL w b c A s j I,fs t I fc 5588 18 5589 19,oh t fc 5589 5590 20,ko w b c A s old told I 25 26] [⟨cR 1450 [rA A 2,f4 I,bh s j,iI s],19,30,aj w b c A s++[(13,⟨.type "frame",none,.dict ⟨jb w b c A t tt wd old tw told I (.bool false) 5587 (bh s j) 5591 (.bool true) 5592 5572 (bh s j)⟩ 12,#[]⟩),cw fe fm 8 1,cw fe fm 9 2,cw fe fm 10 3,gL fe fm sl],iy vv 1,23,31,aj w b c A s++[(13,⟨.type "frame",none,.dict ⟨jb w b c A t tt wd old tw told I (.bool false) 5587 (bh s j) 5591 (.bool true) 5592 5572 (bh s j)⟩ 12,bH 1897 1898 (rA A 8)⟩),cu A fe fm 8 1 1890 1891 9,cu A fe fm 9 2 1876 1877 10,cu A fe fm 10 3 1964 1965 11,gK c1 c2 c3 fe fm,jO vv xa 20 1,(22,fF xt xf .none pl)]⟩] (ip A n it c1 c2 c3 q) [fu tt wd tw hx 1 27 42 43] [(fv nn vv 1,true),(Xl I.rd 0,false)] (dU A it c1 c2 c3 q) (dV A wd tw) 13 (dW w b c A s I fe fm sl) (gN nn 1) 31 (fun PL=>dX w b c A s n nn tt vv wd tw c1 c2 c3 I hx fe fm PL 25 1 29 30) 53:=cE (hm ([0]++lm++[1007014,2,14,2001002,6003004,14,14,2001002,0,1006,1008014]++nQ)) 30
theorem Of:cT w b c A gh L 40 (km n nn vv) (kn t tt 36 27) [fq t I lc,lK t lc,lL w b c A s j I,fs t I fc 5588 18 5589 19,il t fc 5589 5590 20,ko w b c A s old told I 26 27,pQ tt I fc 29 30,B6 tt fc 31] [⟨cR 1450 [rA A 2,f4 I,yC s tt old j,iI s],19,35,aj w b c A s++[(13,⟨.type "frame",none,.dict ⟨jb w b c A t tt wd old tw told I (.bool false) 5587 (bh s j) 5591 (.bool false) 5594 5576 (yC s tt old j)⟩ 12,#[]⟩),cw fe fm 8 1,cw fe fm 9 2,cw fe fm 10 3,gL fe fm sl],iy vv 1,23,36,aj w b c A s++[(13,⟨.type "frame",none,.dict ⟨jb w b c A t tt wd old tw told I (.bool false) 5587 (bh s j) 5591 (.bool false) 5594 5576 (yC s tt old j)⟩ 12,bH 1897 1898 (rA A 8)⟩),cu A fe fm 8 1 1890 1891 9,cu A fe fm 9 2 1876 1877 10,cu A fe fm 10 3 1964 1965 11,gK c1 c2 c3 fe fm,jO vv xa 20 1,(22,fF xt xf .none pl)]⟩] (ip A n it c1 c2 c3 q) [fu tt wd tw hx 1 27 47 48] [(fv nn vv 1,true),(bne I.rs1 0,true)] (dU A it c1 c2 c3 q) (dV A wd tw) 13 (dW w b c A s I fe fm sl) (gN nn 1) 31 (fun PL=>dX w b c A s n nn tt vv wd tw c1 c2 c3 I hx fe fm PL 25 1 29 30) 58:=cE (hm ([0]++lm++nP++[14,14,2001002,0,1006,1005014,3007,3008,1005014]++nQ)) 30
theorem Og:cT w b c A gh L 40 (km n nn vv) (kn t tt 37 27) [fq t I lc,lK t lc,lL w b c A s j I,fs t I fc 5588 18 5589 19,il t fc 5589 5590 20,ko w b c A s old told I 26 27,pQ tt I fc 29 30,B8 tt fc 31] [⟨cR 1450 [rA A 2,f4 I,yw s tt old j,iI s],19,36,aj w b c A s++[(13,⟨.type "frame",none,.dict ⟨jb w b c A t tt wd old tw told I (.bool false) 5587 (bh s j) 5591 (.bool false) 5594 5577 (yw s tt old j)⟩ 12,#[]⟩),cw fe fm 8 1,cw fe fm 9 2,cw fe fm 10 3,gL fe fm sl],iy vv 1,23,37,aj w b c A s++[(13,⟨.type "frame",none,.dict ⟨jb w b c A t tt wd old tw told I (.bool false) 5587 (bh s j) 5591 (.bool false) 5594 5577 (yw s tt old j)⟩ 12,bH 1897 1898 (rA A 8)⟩),cu A fe fm 8 1 1890 1891 9,cu A fe fm 9 2 1876 1877 10,cu A fe fm 10 3 1964 1965 11,gK c1 c2 c3 fe fm,jO vv xa 20 1,(22,fF xt xf .none pl)]⟩] (ip A n it c1 c2 c3 q) [fu tt wd tw hx 1 27 48 49] [(fv nn vv 1,true),(bne I.rs1 0,true)] (dU A it c1 c2 c3 q) (dV A wd tw) 13 (dW w b c A s I fe fm sl) (gN nn 1) 31 (fun PL=>dX w b c A s n nn tt vv wd tw c1 c2 c3 I hx fe fm PL 25 1 29 30) 59:=cE (hm ([0]++lm++nP++[14,14,2001002,0,1006,1005014,3007,3008,14,0,1004014]++nQ)) 30
theorem Oh:cT w b c A gh L 40 (jD n nn vv) (jE t tt 25) [fq t I lc,jm t lc,fs t I fc 5587 17 5588 18,oh t fc 5588 5589 19] [⟨pf A s I,18,24,Gr w b c A s t wd tw I fe fm sl true 5591 true,iy vv 0,22,25,Go w b c A s t vv wd tw c1 c2 c3 xa xf I xt pl fe fm true 5591 true⟩] (oi A n it c1 c2 c3 q) [fu tt wd tw hx 0 26 36 37] [(fv nn vv 0,true),(Xl I.rd 0,false)] (dU A it c1 c2 c3 q) (dV A wd tw) 13 (dW w b c A s I fe fm sl) (gN nn 0) 30 (fun PL=>dX w b c A s n nn tt vv wd tw c1 c2 c3 I hx fe fm PL 24 0 28 29) 47:=cE (hm (lp++[1007014,2,14,2001002,6003004]++jA++[30,25,30,30])) 29
theorem Oi:cT w b c A gh L 40 (jD n nn vv) (jE t tt 26) [fq t I lc,jm t lc,fs t I fc 5587 17 5588 18,il t fc 5588 5589 19] [OL w b c A s t vv wd tw c1 c2 c3 xa xf I xt pl fe fm sl true] (oi A n it c1 c2 c3 q) [fu tt wd tw hx 0 26 37 38] [(fv nn vv 0,true),(bne I.im 0,true)] (dU A it c1 c2 c3 q) (dV A wd tw) 13 (dW w b c A s I fe fm sl) (gN nn 0) 30 (fun PL=>dX w b c A s n nn tt vv wd tw c1 c2 c3 I hx fe fm PL 24 0 28 29) 48:=cE (hm (lp++nP++jA++[30,25,30,30])) 29
theorem Oj:cT w b c A gh L 40 (jD n nn vv) (jE t tt 26) [fq t I lc,jm t lc,fs t I fc 5587 17 5588 18,il t fc 5588 5589 19] [OL w b c A s t vv wd tw c1 c2 c3 xa xf I xt pl fe fm sl false] (oi A n it c1 c2 c3 q) [fu tt wd tw hx 0 26 37 38] [(fv nn vv 0,true),(bne I.im 0,false)] (dU A it c1 c2 c3 q) (dV A wd tw) 13 (dW w b c A s I fe fm sl) (gN nn 0) 30 (fun PL=>dX w b c A s n nn tt vv wd tw c1 c2 c3 I hx fe fm PL 24 0 28 29) 48:=cE (hm (lp++[1005014,2008013,2,1004014,2001002,6003004]++jA++[30,25,30,30])) 29
theorem Kd:cT w b c A gh L 40 (jD n nn vv) (jE t tt 28) [fq t I lc,jm t lc,fs t I fc 5587 17 5588 18,oh t fc 5588 5589 19] [⟨cR 1450 [rA A 2,f4 I,fG I,iI s],18,27,aj w b c A s++[(13,⟨.type "frame",none,.dict ⟨yy w b c A t wd tw I (.bool true) 5586 (fG I) 5590 5591 5594 (.int 0 (Zd t 5593)) 5595⟩ 12,#[]⟩),cw fe fm 8 1,cw fe fm 9 2,cw fe fm 10 3,gL fe fm sl],iy vv 0,22,28,aj w b c A s++[(13,⟨.type "frame",none,.dict ⟨yy w b c A t wd tw I (.bool true) 5586 (fG I) 5590 5591 5594 (.int 0 (Zd t 5593)) 5595⟩ 12,bH 1897 1898 (rA A 8)⟩),cu A fe fm 8 1 1890 1891 9,cu A fe fm 9 2 1876 1877 10,cu A fe fm 10 3 1964 1965 11,gK c1 c2 c3 fe fm,jO vv xa 19 0,(21,fF xt xf .none pl)]⟩] (ip A n it c1 c2 c3 q) [fu tt wd tw hx 0 26 39 40] [(fv nn vv 0,true),(Xl I.rd 0,true)] (dU A it c1 c2 c3 q) (dV A wd tw) 13 (dW w b c A s I fe fm sl) (gN nn 0) 30 (fun PL=>dX w b c A s n nn tt vv wd tw c1 c2 c3 I hx fe fm PL 24 0 28 29) 50:=cE (hm (lp++[1007014,1,1008014,2001002,6003004,14]++jA++[30,25,30,30])) 29
theorem Ke:cT w b c A gh L 40 (km n nn vv) (kn t tt 30 25) [fq t I lc,jm t lc,fs t I fc 5587 17 5588 18,oh t fc 5588 5589 19,ko w b c A s old told I 24 25] [⟨cR 1450 [rA A 2,f4 I,fG I,iI s],19,29,aj w b c A s++[(13,⟨.type "frame",none,.dict ⟨jb w b c A t tt wd old tw told I (.bool true) 5586 (fG I) 5590 (.bool true) 5591 5572 (fG I)⟩ 12,#[]⟩),cw fe fm 8 1,cw fe fm 9 2,cw fe fm 10 3,gL fe fm sl],iy vv 1,23,30,aj w b c A s++[(13,⟨.type "frame",none,.dict ⟨jb w b c A t tt wd old tw told I (.bool true) 5586 (fG I) 5590 (.bool true) 5591 5572 (fG I)⟩ 12,bH 1897 1898 (rA A 8)⟩),cu A fe fm 8 1 1890 1891 9,cu A fe fm 9 2 1876 1877 10,cu A fe fm 10 3 1964 1965 11,gK c1 c2 c3 fe fm,jO vv xa 20 1,(22,fF xt xf .none pl)]⟩] (ip A n it c1 c2 c3 q) [fu tt wd tw hx 1 27 41 42] [(fv nn vv 1,true),(Xl I.rd 0,false)] (dU A it c1 c2 c3 q) (dV A wd tw) 13 (dW w b c A s I fe fm sl) (gN nn 1) 31 (fun PL=>dX w b c A s n nn tt vv wd tw c1 c2 c3 I hx fe fm PL 25 1 29 30) 52:=cE (hm (lp++[1007014,2,14,2001002,6003004,14,14,2001002,0,1005,1008014]++nQ)) 30
theorem Kf:cT w b c A gh L 40 (km n nn vv) (kn t tt 35 26) [fq t I lc,jm t lc,fs t I fc 5587 17 5588 18,il t fc 5588 5589 19,ko w b c A s old told I 25 26,pQ tt I fc 28 29,B6 tt fc 30] [⟨cR 1450 [rA A 2,f4 I,.int (Zb old I.im) (Zd (tt 0) 5575),iI s],19,34,aj w b c A s++[(13,⟨.type "frame",none,.dict ⟨Gu w b c A t tt wd old tw told I⟩ 12,#[]⟩),cw fe fm 8 1,cw fe fm 9 2,cw fe fm 10 3,gL fe fm sl],iy vv 1,23,35,aj w b c A s++[(13,⟨.type "frame",none,.dict ⟨Gu w b c A t tt wd old tw told I⟩ 12,bH 1897 1898 (rA A 8)⟩),cu A fe fm 8 1 1890 1891 9,cu A fe fm 9 2 1876 1877 10,cu A fe fm 10 3 1964 1965 11,gK c1 c2 c3 fe fm,jO vv xa 20 1,(22,fF xt xf .none pl)]⟩] (ip A n it c1 c2 c3 q) [fu tt wd tw hx 1 27 46 47] [(fv nn vv 1,true),(bne I.im 0,true)] (dU A it c1 c2 c3 q) (dV A wd tw) 13 (dW w b c A s I fe fm sl) (gN nn 1) 31 (fun PL=>dX w b c A s n nn tt vv wd tw c1 c2 c3 I hx fe fm PL 25 1 29 30) 57:=cE (hm (lp++nP++[14,14,2001002,0,1005,1005014,3006,3007,1005014]++nQ)) 30
theorem Kg:cT w b c A gh L 40 (km n nn vv) (kn t tt 36 26) [fq t I lc,jm t lc,fs t I fc 5587 17 5588 18,il t fc 5588 5589 19,ko w b c A s old told I 25 26,pQ tt I fc 28 29,B8 tt fc 30] [⟨cR 1450 [rA A 2,f4 I,yx tt old I,iI s],19,35,aj w b c A s++[(13,⟨.type "frame",none,.dict ⟨jb w b c A t tt wd old tw told I (.bool true) 5586 (fG I) 5590 (.bool false) 5593 5577 (yx tt old I)⟩ 12,#[]⟩),cw fe fm 8 1,cw fe fm 9 2,cw fe fm 10 3,gL fe fm sl],iy vv 1,23,36,aj w b c A s++[(13,⟨.type "frame",none,.dict ⟨jb w b c A t tt wd old tw told I (.bool true) 5586 (fG I) 5590 (.bool false) 5593 5577 (yx tt old I)⟩ 12,bH 1897 1898 (rA A 8)⟩),cu A fe fm 8 1 1890 1891 9,cu A fe fm 9 2 1876 1877 10,cu A fe fm 10 3 1964 1965 11,gK c1 c2 c3 fe fm,jO vv xa 20 1,(22,fF xt xf .none pl)]⟩] (ip A n it c1 c2 c3 q) [fu tt wd tw hx 1 27 47 48] [(fv nn vv 1,true),(bne I.im 0,true)] (dU A it c1 c2 c3 q) (dV A wd tw) 13 (dW w b c A s I fe fm sl) (gN nn 1) 31 (fun PL=>dX w b c A s n nn tt vv wd tw c1 c2 c3 I hx fe fm PL 25 1 29 30) 58:=cE (hm (lp++nP++[14,14,2001002,0,1005,1005014,3006,3007,14,0,1004014]++nQ)) 30
end
theorem Kc{x y:Nat}(h:x≠y):bne (Qc x) (Qc y)=true:=by
  rw[bne_iff_ne];intro e;injection e;contradiction
abbrev ZX(R:RC)(f:Nat→Nat):List (Xo×Z4):=CB R.it (ad (f 1)) (ad (f 2)) (ad (f 3)) (ad (f 4)) R.c1 R.c2 R.c3 R.q
def aC(A:AS)(a7 a8:Nat)(f:Nat→Nat):AS:=⟨eZ [(7,a7),(8,f 1),(9,f 2),(10,f 3),(11,f 4),(12,a8)] A.a,A.k⟩
inductive ChgRX (w:Z8) (b c:Bool) (A:AS) (s:BS) (nm:Str) (rd rs im cs:Int) (R:RC) (f:Nat→Nat) (k u:Nat→Nat) (a7 a8:Nat) (gh:gHs) (n t m tw:Nat):Prop where
  |mk (xa xf e xd xb n' t':Nat) (xt xh:Z6) (ek:Nat→Nat) (Rs:Str) (pl:Nat→Z6) (h0_:TA w b c A 80 (ZX R f) (.call (.ref 1898) ⟨[.ref (ad (A.a 0)),.ref (ad a7),.int (Zo m) tw],[]⟩) gh
   [(ad a7,iO 121 (ad a8)),(ad (f 1),aY (R.fe 1) (R.fm 1) #[]),(ad (f 2),aY (R.fe 2) (R.fm 2) #[]),(ad (f 3),aY (R.fe 3) (R.fm 3) #[]),(ad (f 4),aY (R.fe 4) (R.fm 4) R.sl),(ad a8,iD (PP w b c) ⟨k,u,nm,rd,rs,0,im,cs⟩)] s n t (.error (.ref (ad e))) gh
   [(ad a7,iO 121 (ad a8)),(ad (f 1),aY (R.fe 1) (R.fm 1) (bH 1890 1891 (.ref (ad (f 2))))),(ad (f 2),aY (R.fe 2) (R.fm 2) (bH 1876 1877 (.ref (ad (f 3))))),(ad (f 3),aY (R.fe 3) (R.fm 3) (bH 1964 1965 (.ref (ad (f 4))))),(ad (f 4),aY (R.fe 4) (R.fm 4) (ck R.c1 R.c2 R.c3)),(ad a8,iD (PP w b c) ⟨k,u,nm,rd,rs,0,im,cs⟩),
    (ad e,O8 xa (ad xd) (ad xb) xh),(ad xd,vX (PP w b c) ek Rs (Zo m) tw),(ad xb,fF xt xf .none pl)] s n' t'):ChgRX w b c A s nm rd rs im cs R f k u a7 a8 gh n t m tw
def eV(w:Z8)(b c:Bool)(A:AS)(s:BS)(nm:Str)(rd rs im cs:Int):Prop:=∀(R:RC) (f:Nat→Nat) (k u:Nat→Nat) (a7 a8:Nat) (gh:gHs) (n t m tw:Nat),2^28≤m→m<2^32→R.ok→
  ChgRX w b c A s nm rd rs im cs R f k u a7 a8 gh n t m tw
noncomputable def vT(q e d x:Nat):Nat→Nat→Nat:=fun i j=>cond (Ze i q) (cond (Ze j 0) e (cond (Ze j 1) d x)) 0
noncomputable def R0(R:RC)(es:List Z7)(m:Nat)(p:Z4):RC:=⟨R.it,R.c1,R.c2,R.c3,fun i=>cond (Ze i 0) ⟨es⟩ (R.fe i),fun i=>cond (Ze i 0) m (R.fm i),fun i=>cond (Ze i 0) p (R.q i),R.sl⟩
noncomputable def gn(a b c d:Nat):Nat→Nat:=fun i=>cond (Ze i 0) a (cond (Ze i 1) b (cond (Ze i 2) c d))
noncomputable def f0(n:Nat)(f:Nat→Nat):Nat→Nat:=fun i=>cond (Ze i 0) n (f i)
theorem bp{M:Model}{S:HT}{B L:Nat}{bl bl':List (Xo×Z4)}{cd:Xo}{gh pre:gHs}{n t:Nat}{r:Xc}{gh' post:gHs}{n' t':Nat}(e:bl'=bl)(H:TriAt M S B L bl cd gh pre n t r gh' post n' t'):TriC M S B (fun Γ=>Lim Γ L∧Γ.below=bl') cd gh pre n t r gh' post n' t':=e▸H
theorem gH{x y:Nat}(h:x<y):bne (Qc (Zd x 1971)) (Qc (Zd y 1973))=true:=Kc (by show x+1971≠y+1973;omega)
def jy(w:Z8)(b c:Bool)(A:AS)(a7 t m tw rd at_ j:Nat)(u:Nat→Nat)(bn:Bool)(k1:Nat)(v1:Z6)(k2:Nat)(ex:Bool)(k3:Nat)(wr:Bool)(l:List Z7):List Z7:=ae w b c gB (Zd t 5571) (.ref (ad (A.a 0)))::ae w b c gC (Zd t 5572) (.ref (ad a7))::ae w b c gD (Zd t 5573) (.int (Zo m) tw)::ae w b c dw (Zd t 5577) (.int (Zo rd) (u 1))::ae w b c tC (Zd t 5578) (.int (Zo at_) (u 5))::ae w b c bW (Zd t 5579) (.str (aD j) (u 0))::ae w b c xF (Zd t 5584) (.bool bn)::ae w b c xG (Zd t k1) v1::ae w b c xH (Zd t k2) (.bool ex)::ae w b c xI (Zd t k3) (.bool wr)::l
def rl(w:Z8)(b c:Bool)(k1:Nat)(v1:Z6)(k2:Nat)(v2:Z6):List Z7:=[ae w b c DQ k1 v1,ae w b c gA k2 v2]
def gk(m:Nat):Str:=⟨⟨[116,114,97,112,32,50,32,119,105,116,104,32,cc (cC m) 0,cc (cC m) 1,cc (cC m) 2,cc (cC m) 3,cc (cC m) 4,cc (cC m) 5,cc (cC m) 6,cc (cC m) 7]⟩⟩
section
variable(w:Z8)(b c:Bool)(A:AS)(s:BS)
include w b c A s
section
variable(j:Nat)(hj:j<6)(rd:Nat)
include j hj rd
section
variable(rs at_:Nat)(hrs:rs<32)(q0:Xl (aW j).cps.toList [105]=false)
include rs at_ hrs q0
section
variable(q1:Xl (aE j).cps.toList [119]=true)
include q1
theorem An(hR:fb w b c A s at_ s.md.1)(he:He [(Xl (Zo rd) 0,false)]):eV w b c A s (aD j) (Zo rd) (Zo rs) 0 (Zo at_):=by
 rintro⟨it,c1,c2,c3,fe,fm,q,sl⟩ f k u a7 a8 gh n t m tw h1 h2 hs
 obtain⟨ya,yf,e0,yd,yb,n0,t0,yt,yl,he0,H0⟩:=hR (u 5) s.md.2 (R0 ⟨it,c1,c2,c3,fe,fm,q,sl⟩ (jy w b c A a7 t m tw rd at_ j u false 5587 (bh s rs) 5591 true 5592 true []) 10 ⟨772,52,772,85⟩) (f0 n f) gh (n+5) (t+25) hs
 obtain⟨PL,h⟩:=Oa w b c (aC A a7 a8 f) s gh n t 40 (az [n0]) (az [t0]) (vT 0 e0 yd yb) (Zo m) 0 0 tw 0 rs it c1 c2 c3 ya yf ⟨k,u,aD j,Zo rd,Zo rs,0,0,Zo at_⟩ yt yl (cc (cC m)) fe fm q sl (aW j) (aE j) (fk (ba ac hj)<|fk (ak ac q0)<|fk (kc (aB ac (m:=0) (r:=s.r) (i:=rs) hrs))<|fk (aA ac hj)<|fk (ak ac q1)<|aa) (ab ⟨by kernel_rfl,bp (by kernel_rfl) (kd H0)⟩ aa) (fk (bQ h1 h2)<|aa) (ab (gH he0) he)
 exact⟨Zd n0 1976,Zd n 1971,n0+2,n0+6,n0+7,n0+8,t0+22,.none,.ref (ad e0),gn (Zd t0 5588) (Zd t0 5590) (Zd t0 5592) (Zd t0 5583),gk m,PL,kF h⟩
theorem rf(hW:cY w b c A s at_ s.md.1 (s.r rs).1)(he:He [(Xl (Zo rd) 0,true)]):eV w b c A s (aD j) (Zo rd) (Zo rs) 0 (Zo at_):=by
 rintro⟨it,c1,c2,c3,fe,fm,q,sl⟩ f k u a7 a8 gh n t m tw h1 h2 hs
 obtain⟨ya,yf,e0,yd,yb,n0,t0,yt,yl,he0,H0⟩:=hW (u 5) (s.r rs).2 s.md.2 (R0 ⟨it,c1,c2,c3,fe,fm,q,sl⟩ (jy w b c A a7 t m tw rd at_ j u false 5587 (bh s rs) 5591 true 5592 true (rl w b c (Zd t 5595) (.int 0 (Zd t 5594)) (Zd t 5596) (bh s rs))) 12 ⟨775,16,775,57⟩) (f0 n f) gh (n+5) (t+28) hs
 obtain⟨PL,h⟩:=Od w b c (aC A a7 a8 f) s gh n t 40 (az [n0]) (az [t0]) (vT 0 e0 yd yb) (Zo m) 0 0 tw 0 rs it c1 c2 c3 ya yf ⟨k,u,aD j,Zo rd,Zo rs,0,0,Zo at_⟩ yt yl (cc (cC m)) fe fm q sl (aW j) (aE j) (fk (ba ac hj)<|fk (ak ac q0)<|fk (kc (aB ac (m:=0) (r:=s.r) (i:=rs) hrs))<|fk (aA ac hj)<|fk (ak ac q1)<|aa) (ab ⟨by kernel_rfl,bp (by kernel_rfl) (kd H0)⟩ aa) (fk (bQ h1 h2)<|aa) (ab (gH he0) he)
 exact⟨Zd n0 1976,Zd n 1971,n0+2,n0+6,n0+7,n0+8,t0+22,.none,.ref (ad e0),gn (Zd t0 5588) (Zd t0 5590) (Zd t0 5592) (Zd t0 5583),gk m,PL,kF h⟩
theorem Ao(old:Int)(hR:b0 w b c A s at_ s.md.1 old)(hW:cY w b c A s at_ s.md.1 (s.r rs).1)(he:He [(Xl (Zo rd) 0,false)]):eV w b c A s (aD j) (Zo rd) (Zo rs) 0 (Zo at_):=by
 rintro⟨it,c1,c2,c3,fe,fm,q,sl⟩ f k u a7 a8 gh n t m tw h1 h2 hs
 obtain⟨told,n0,t0,H0⟩:=hR gh (n+5) (t+25) (u 5) s.md.2
 obtain⟨ya,yf,e0,yd,yb,n1,t1,yt,yl,he0,H1⟩:=hW (u 5) (s.r rs).2 s.md.2 (R0 ⟨it,c1,c2,c3,fe,fm,q,sl⟩ (jy w b c A a7 t m tw rd at_ j u false 5587 (bh s rs) 5591 true 5592 true (rl w b c (Zd t0 5571) (.int old told) (Zd t0 5572) (bh s rs))) 12 ⟨775,16,775,57⟩) (f0 n f) gh (n0+0) (t0+4) hs
 obtain⟨PL,h⟩:=Oe w b c (aC A a7 a8 f) s gh n t 40 (az [n0,n1]) (az [t0,t1]) (vT 1 e0 yd yb) (Zo m) old 0 tw told rs it c1 c2 c3 ya yf ⟨k,u,aD j,Zo rd,Zo rs,0,0,Zo at_⟩ yt yl (cc (cC m)) fe fm q sl (aW j) (aE j) (fk (ba ac hj)<|fk (ak ac q0)<|fk (kc (aB ac (m:=0) (r:=s.r) (i:=rs) hrs))<|fk (aA ac hj)<|fk (ak ac q1)<|fk (kd H0)<|aa) (ab ⟨by kernel_rfl,bp (by kernel_rfl) (kd H1)⟩ aa) (fk (bQ h1 h2)<|aa) (ab (gH he0) he)
 exact⟨Zd n1 1976,Zd n 1971,n1+2,n1+6,n1+7,n1+8,t1+22,.none,.ref (ad e0),gn (Zd t1 5588) (Zd t1 5590) (Zd t1 5592) (Zd t1 5583),gk m,PL,kF h⟩
end
section
variable(q1:Xl (aE j).cps.toList [119]=false)
include q1
theorem q9(hR:fb w b c A s at_ s.md.1)(he:He [(bne (Zo rs) 0,true)]):eV w b c A s (aD j) (Zo rd) (Zo rs) 0 (Zo at_):=by
 rintro⟨it,c1,c2,c3,fe,fm,q,sl⟩ f k u a7 a8 gh n t m tw h1 h2 hs
 obtain⟨ya,yf,e0,yd,yb,n0,t0,yt,yl,he0,H0⟩:=hR (u 5) s.md.2 (R0 ⟨it,c1,c2,c3,fe,fm,q,sl⟩ (jy w b c A a7 t m tw rd at_ j u false 5587 (bh s rs) 5591 false 5594 true []) 10 ⟨772,52,772,85⟩) (f0 n f) gh (n+5) (t+26) hs
 obtain⟨PL,h⟩:=Ob w b c (aC A a7 a8 f) s gh n t 40 (az [n0]) (az [t0]) (vT 0 e0 yd yb) (Zo m) 0 0 tw 0 rs it c1 c2 c3 ya yf ⟨k,u,aD j,Zo rd,Zo rs,0,0,Zo at_⟩ yt yl (cc (cC m)) fe fm q sl (aW j) (aE j) (fk (ba ac hj)<|fk (ak ac q0)<|fk (kc (aB ac (m:=0) (r:=s.r) (i:=rs) hrs))<|fk (aA ac hj)<|fk (ak ac q1)<|aa) (ab ⟨by kernel_rfl,bp (by kernel_rfl) (kd H0)⟩ aa) (fk (bQ h1 h2)<|aa) (ab (gH he0) he)
 exact⟨Zd n0 1976,Zd n 1971,n0+2,n0+6,n0+7,n0+8,t0+22,.none,.ref (ad e0),gn (Zd t0 5588) (Zd t0 5590) (Zd t0 5592) (Zd t0 5583),gk m,PL,kF h⟩
theorem rc(hR:fb w b c A s at_ s.md.1)(he:He [(bne (Zo rs) 0,false)]):eV w b c A s (aD j) (Zo rd) (Zo rs) 0 (Zo at_):=by
 rintro⟨it,c1,c2,c3,fe,fm,q,sl⟩ f k u a7 a8 gh n t m tw h1 h2 hs
 obtain⟨ya,yf,e0,yd,yb,n0,t0,yt,yl,he0,H0⟩:=hR (u 5) s.md.2 (R0 ⟨it,c1,c2,c3,fe,fm,q,sl⟩ (jy w b c A a7 t m tw rd at_ j u false 5587 (bh s rs) 5591 false 5594 false []) 10 ⟨772,52,772,85⟩) (f0 n f) gh (n+5) (t+26) hs
 obtain⟨PL,h⟩:=Oc w b c (aC A a7 a8 f) s gh n t 40 (az [n0]) (az [t0]) (vT 0 e0 yd yb) (Zo m) 0 0 tw 0 rs it c1 c2 c3 ya yf ⟨k,u,aD j,Zo rd,Zo rs,0,0,Zo at_⟩ yt yl (cc (cC m)) fe fm q sl (aW j) (aE j) (fk (ba ac hj)<|fk (ak ac q0)<|fk (kc (aB ac (m:=0) (r:=s.r) (i:=rs) hrs))<|fk (aA ac hj)<|fk (ak ac q1)<|aa) (ab ⟨by kernel_rfl,bp (by kernel_rfl) (kd H0)⟩ aa) (fk (bQ h1 h2)<|aa) (ab (gH he0) he)
 exact⟨Zd n0 1976,Zd n 1971,n0+2,n0+6,n0+7,n0+8,t0+22,.none,.ref (ad e0),gn (Zd t0 5588) (Zd t0 5590) (Zd t0 5592) (Zd t0 5583),gk m,PL,kF h⟩
theorem Ap(old:Int)(hR:b0 w b c A s at_ s.md.1 old)(q2:Xl (aE j).cps.toList [115]=true)(hW:cY w b c A s at_ s.md.1 (Zb old (s.r rs).1))(he:He [(bne (Zo rs) 0,true)]):eV w b c A s (aD j) (Zo rd) (Zo rs) 0 (Zo at_):=by
 rintro⟨it,c1,c2,c3,fe,fm,q,sl⟩ f k u a7 a8 gh n t m tw h1 h2 hs
 obtain⟨told,n0,t0,H0⟩:=hR gh (n+5) (t+26) (u 5) s.md.2
 obtain⟨ya,yf,e0,yd,yb,n1,t1,yt,yl,he0,H1⟩:=hW (u 5) (Zd t0 5575) s.md.2 (R0 ⟨it,c1,c2,c3,fe,fm,q,sl⟩ (jy w b c A a7 t m tw rd at_ j u false 5587 (bh s rs) 5591 false 5594 true (rl w b c (Zd t0 5571) (.int old told) (Zd t0 5576) (.int (Zb old (s.r rs).1) (Zd t0 5575)))) 12 ⟨775,16,775,57⟩) (f0 n f) gh (n0+0) (t0+8) hs
 obtain⟨PL,h⟩:=Of w b c (aC A a7 a8 f) s gh n t 40 (az [n0,n1]) (az [t0,t1]) (vT 1 e0 yd yb) (Zo m) old 0 tw told rs it c1 c2 c3 ya yf ⟨k,u,aD j,Zo rd,Zo rs,0,0,Zo at_⟩ yt yl (cc (cC m)) fe fm q sl (aW j) (aE j) (fk (ba ac hj)<|fk (ak ac q0)<|fk (kc (aB ac (m:=0) (r:=s.r) (i:=rs) hrs))<|fk (aA ac hj)<|fk (ak ac q1)<|fk (kd H0)<|fk (aA ac hj)<|fk (ak ac q2)<|aa) (ab ⟨by kernel_rfl,bp (by kernel_rfl) (kd H1)⟩ aa) (fk (bQ h1 h2)<|aa) (ab (gH he0) he)
 exact⟨Zd n1 1976,Zd n 1971,n1+2,n1+6,n1+7,n1+8,t1+22,.none,.ref (ad e0),gn (Zd t1 5588) (Zd t1 5590) (Zd t1 5592) (Zd t1 5583),gk m,PL,kF h⟩
theorem Aq(old:Int)(hR:b0 w b c A s at_ s.md.1 old)(q2:Xl (aE j).cps.toList [115]=false)(hW:cY w b c A s at_ s.md.1 (Za old (Zc 4294967295 (s.r rs).1)))(he:He [(bne (Zo rs) 0,true)]):eV w b c A s (aD j) (Zo rd) (Zo rs) 0 (Zo at_):=by
 rintro⟨it,c1,c2,c3,fe,fm,q,sl⟩ f k u a7 a8 gh n t m tw h1 h2 hs
 obtain⟨told,n0,t0,H0⟩:=hR gh (n+5) (t+26) (u 5) s.md.2
 obtain⟨ya,yf,e0,yd,yb,n1,t1,yt,yl,he0,H1⟩:=hW (u 5) (Zd t0 5576) s.md.2 (R0 ⟨it,c1,c2,c3,fe,fm,q,sl⟩ (jy w b c A a7 t m tw rd at_ j u false 5587 (bh s rs) 5591 false 5594 true (rl w b c (Zd t0 5571) (.int old told) (Zd t0 5577) (.int (Za old (Zc 4294967295 (s.r rs).1)) (Zd t0 5576)))) 12 ⟨775,16,775,57⟩) (f0 n f) gh (n0+0) (t0+9) hs
 obtain⟨PL,h⟩:=Og w b c (aC A a7 a8 f) s gh n t 40 (az [n0,n1]) (az [t0,t1]) (vT 1 e0 yd yb) (Zo m) old 0 tw told rs it c1 c2 c3 ya yf ⟨k,u,aD j,Zo rd,Zo rs,0,0,Zo at_⟩ yt yl (cc (cC m)) fe fm q sl (aW j) (aE j) (fk (ba ac hj)<|fk (ak ac q0)<|fk (kc (aB ac (m:=0) (r:=s.r) (i:=rs) hrs))<|fk (aA ac hj)<|fk (ak ac q1)<|fk (kd H0)<|fk (aA ac hj)<|fk (ak ac q2)<|aa) (ab ⟨by kernel_rfl,bp (by kernel_rfl) (kd H1)⟩ aa) (fk (bQ h1 h2)<|aa) (ab (gH he0) he)
 exact⟨Zd n1 1976,Zd n 1971,n1+2,n1+6,n1+7,n1+8,t1+22,.none,.ref (ad e0),gn (Zd t1 5588) (Zd t1 5590) (Zd t1 5592) (Zd t1 5583),gk m,PL,kF h⟩
end
end
section
variable(at_:Nat)(im:Int)(q0:Xl (aW j).cps.toList [105]=true)
include at_ im q0
section
variable(q1:Xl (aE j).cps.toList [119]=true)
include q1
theorem Ar(hR:fb w b c A s at_ s.md.1)(he:He [(Xl (Zo rd) 0,false)]):eV w b c A s (aD j) (Zo rd) 0 im (Zo at_):=by
 rintro⟨it,c1,c2,c3,fe,fm,q,sl⟩ f k u a7 a8 gh n t m tw h1 h2 hs
 obtain⟨ya,yf,e0,yd,yb,n0,t0,yt,yl,he0,H0⟩:=hR (u 5) s.md.2 (R0 ⟨it,c1,c2,c3,fe,fm,q,sl⟩ (jy w b c A a7 t m tw rd at_ j u true 5586 (.int im (u 4)) 5590 true 5591 true []) 10 ⟨772,52,772,85⟩) (f0 n f) gh (n+5) (t+24) hs
 obtain⟨PL,h⟩:=Oh w b c (aC A a7 a8 f) s gh n t 40 (az [n0]) (az [t0]) (vT 0 e0 yd yb) (Zo m) 0 0 tw 0 0 it c1 c2 c3 ya yf ⟨k,u,aD j,Zo rd,0,0,im,Zo at_⟩ yt yl (cc (cC m)) fe fm q sl (aW j) (aE j) (fk (ba ac hj)<|fk (ak ac q0)<|fk (aA ac hj)<|fk (ak ac q1)<|aa) (ab ⟨by kernel_rfl,bp (by kernel_rfl) (kd H0)⟩ aa) (fk (bQ h1 h2)<|aa) (ab (gH he0) he)
 exact⟨Zd n0 1976,Zd n 1971,n0+2,n0+6,n0+7,n0+8,t0+22,.none,.ref (ad e0),gn (Zd t0 5588) (Zd t0 5590) (Zd t0 5592) (Zd t0 5583),gk m,PL,kF h⟩
theorem o9(hW:cY w b c A s at_ s.md.1 im)(he:He [(Xl (Zo rd) 0,true)]):eV w b c A s (aD j) (Zo rd) 0 im (Zo at_):=by
 rintro⟨it,c1,c2,c3,fe,fm,q,sl⟩ f k u a7 a8 gh n t m tw h1 h2 hs
 obtain⟨ya,yf,e0,yd,yb,n0,t0,yt,yl,he0,H0⟩:=hW (u 5) (u 4) s.md.2 (R0 ⟨it,c1,c2,c3,fe,fm,q,sl⟩ (jy w b c A a7 t m tw rd at_ j u true 5586 (.int im (u 4)) 5590 true 5591 true (rl w b c (Zd t 5594) (.int 0 (Zd t 5593)) (Zd t 5595) (.int im (u 4)))) 12 ⟨775,16,775,57⟩) (f0 n f) gh (n+5) (t+27) hs
 obtain⟨PL,h⟩:=Kd w b c (aC A a7 a8 f) s gh n t 40 (az [n0]) (az [t0]) (vT 0 e0 yd yb) (Zo m) 0 0 tw 0 0 it c1 c2 c3 ya yf ⟨k,u,aD j,Zo rd,0,0,im,Zo at_⟩ yt yl (cc (cC m)) fe fm q sl (aW j) (aE j) (fk (ba ac hj)<|fk (ak ac q0)<|fk (aA ac hj)<|fk (ak ac q1)<|aa) (ab ⟨by kernel_rfl,bp (by kernel_rfl) (kd H0)⟩ aa) (fk (bQ h1 h2)<|aa) (ab (gH he0) he)
 exact⟨Zd n0 1976,Zd n 1971,n0+2,n0+6,n0+7,n0+8,t0+22,.none,.ref (ad e0),gn (Zd t0 5588) (Zd t0 5590) (Zd t0 5592) (Zd t0 5583),gk m,PL,kF h⟩
theorem xU(old:Int)(hR:b0 w b c A s at_ s.md.1 old)(hW:cY w b c A s at_ s.md.1 im)(he:He [(Xl (Zo rd) 0,false)]):eV w b c A s (aD j) (Zo rd) 0 im (Zo at_):=by
 rintro⟨it,c1,c2,c3,fe,fm,q,sl⟩ f k u a7 a8 gh n t m tw h1 h2 hs
 obtain⟨told,n0,t0,H0⟩:=hR gh (n+5) (t+24) (u 5) s.md.2
 obtain⟨ya,yf,e0,yd,yb,n1,t1,yt,yl,he0,H1⟩:=hW (u 5) (u 4) s.md.2 (R0 ⟨it,c1,c2,c3,fe,fm,q,sl⟩ (jy w b c A a7 t m tw rd at_ j u true 5586 (.int im (u 4)) 5590 true 5591 true (rl w b c (Zd t0 5571) (.int old told) (Zd t0 5572) (.int im (u 4)))) 12 ⟨775,16,775,57⟩) (f0 n f) gh (n0+0) (t0+4) hs
 obtain⟨PL,h⟩:=Ke w b c (aC A a7 a8 f) s gh n t 40 (az [n0,n1]) (az [t0,t1]) (vT 1 e0 yd yb) (Zo m) old 0 tw told 0 it c1 c2 c3 ya yf ⟨k,u,aD j,Zo rd,0,0,im,Zo at_⟩ yt yl (cc (cC m)) fe fm q sl (aW j) (aE j) (fk (ba ac hj)<|fk (ak ac q0)<|fk (aA ac hj)<|fk (ak ac q1)<|fk (kd H0)<|aa) (ab ⟨by kernel_rfl,bp (by kernel_rfl) (kd H1)⟩ aa) (fk (bQ h1 h2)<|aa) (ab (gH he0) he)
 exact⟨Zd n1 1976,Zd n 1971,n1+2,n1+6,n1+7,n1+8,t1+22,.none,.ref (ad e0),gn (Zd t1 5588) (Zd t1 5590) (Zd t1 5592) (Zd t1 5583),gk m,PL,kF h⟩
end
section
variable(q1:Xl (aE j).cps.toList [119]=false)
include q1
theorem rg(hR:fb w b c A s at_ s.md.1)(he:He [(bne im 0,true)]):eV w b c A s (aD j) (Zo rd) 0 im (Zo at_):=by
 rintro⟨it,c1,c2,c3,fe,fm,q,sl⟩ f k u a7 a8 gh n t m tw h1 h2 hs
 obtain⟨ya,yf,e0,yd,yb,n0,t0,yt,yl,he0,H0⟩:=hR (u 5) s.md.2 (R0 ⟨it,c1,c2,c3,fe,fm,q,sl⟩ (jy w b c A a7 t m tw rd at_ j u true 5586 (.int im (u 4)) 5590 false 5593 true []) 10 ⟨772,52,772,85⟩) (f0 n f) gh (n+5) (t+25) hs
 obtain⟨PL,h⟩:=Oi w b c (aC A a7 a8 f) s gh n t 40 (az [n0]) (az [t0]) (vT 0 e0 yd yb) (Zo m) 0 0 tw 0 0 it c1 c2 c3 ya yf ⟨k,u,aD j,Zo rd,0,0,im,Zo at_⟩ yt yl (cc (cC m)) fe fm q sl (aW j) (aE j) (fk (ba ac hj)<|fk (ak ac q0)<|fk (aA ac hj)<|fk (ak ac q1)<|aa) (ab ⟨by kernel_rfl,bp (by kernel_rfl) (kd H0)⟩ aa) (fk (bQ h1 h2)<|aa) (ab (gH he0) he)
 exact⟨Zd n0 1976,Zd n 1971,n0+2,n0+6,n0+7,n0+8,t0+22,.none,.ref (ad e0),gn (Zd t0 5588) (Zd t0 5590) (Zd t0 5592) (Zd t0 5583),gk m,PL,kF h⟩
theorem rh(hR:fb w b c A s at_ s.md.1)(he:He [(bne im 0,false)]):eV w b c A s (aD j) (Zo rd) 0 im (Zo at_):=by
 rintro⟨it,c1,c2,c3,fe,fm,q,sl⟩ f k u a7 a8 gh n t m tw h1 h2 hs
 obtain⟨ya,yf,e0,yd,yb,n0,t0,yt,yl,he0,H0⟩:=hR (u 5) s.md.2 (R0 ⟨it,c1,c2,c3,fe,fm,q,sl⟩ (jy w b c A a7 t m tw rd at_ j u true 5586 (.int im (u 4)) 5590 false 5593 false []) 10 ⟨772,52,772,85⟩) (f0 n f) gh (n+5) (t+25) hs
 obtain⟨PL,h⟩:=Oj w b c (aC A a7 a8 f) s gh n t 40 (az [n0]) (az [t0]) (vT 0 e0 yd yb) (Zo m) 0 0 tw 0 0 it c1 c2 c3 ya yf ⟨k,u,aD j,Zo rd,0,0,im,Zo at_⟩ yt yl (cc (cC m)) fe fm q sl (aW j) (aE j) (fk (ba ac hj)<|fk (ak ac q0)<|fk (aA ac hj)<|fk (ak ac q1)<|aa) (ab ⟨by kernel_rfl,bp (by kernel_rfl) (kd H0)⟩ aa) (fk (bQ h1 h2)<|aa) (ab (gH he0) he)
 exact⟨Zd n0 1976,Zd n 1971,n0+2,n0+6,n0+7,n0+8,t0+22,.none,.ref (ad e0),gn (Zd t0 5588) (Zd t0 5590) (Zd t0 5592) (Zd t0 5583),gk m,PL,kF h⟩
theorem xV(old:Int)(hR:b0 w b c A s at_ s.md.1 old)(q2:Xl (aE j).cps.toList [115]=true)(hW:cY w b c A s at_ s.md.1 (Zb old im))(he:He [(bne im 0,true)]):eV w b c A s (aD j) (Zo rd) 0 im (Zo at_):=by
 rintro⟨it,c1,c2,c3,fe,fm,q,sl⟩ f k u a7 a8 gh n t m tw h1 h2 hs
 obtain⟨told,n0,t0,H0⟩:=hR gh (n+5) (t+25) (u 5) s.md.2
 obtain⟨ya,yf,e0,yd,yb,n1,t1,yt,yl,he0,H1⟩:=hW (u 5) (Zd t0 5575) s.md.2 (R0 ⟨it,c1,c2,c3,fe,fm,q,sl⟩ (jy w b c A a7 t m tw rd at_ j u true 5586 (.int im (u 4)) 5590 false 5593 true (rl w b c (Zd t0 5571) (.int old told) (Zd t0 5576) (.int (Zb old im) (Zd t0 5575)))) 12 ⟨775,16,775,57⟩) (f0 n f) gh (n0+0) (t0+8) hs
 obtain⟨PL,h⟩:=Kf w b c (aC A a7 a8 f) s gh n t 40 (az [n0,n1]) (az [t0,t1]) (vT 1 e0 yd yb) (Zo m) old 0 tw told 0 it c1 c2 c3 ya yf ⟨k,u,aD j,Zo rd,0,0,im,Zo at_⟩ yt yl (cc (cC m)) fe fm q sl (aW j) (aE j) (fk (ba ac hj)<|fk (ak ac q0)<|fk (aA ac hj)<|fk (ak ac q1)<|fk (kd H0)<|fk (aA ac hj)<|fk (ak ac q2)<|aa) (ab ⟨by kernel_rfl,bp (by kernel_rfl) (kd H1)⟩ aa) (fk (bQ h1 h2)<|aa) (ab (gH he0) he)
 exact⟨Zd n1 1976,Zd n 1971,n1+2,n1+6,n1+7,n1+8,t1+22,.none,.ref (ad e0),gn (Zd t1 5588) (Zd t1 5590) (Zd t1 5592) (Zd t1 5583),gk m,PL,kF h⟩
theorem xW(old:Int)(hR:b0 w b c A s at_ s.md.1 old)(q2:Xl (aE j).cps.toList [115]=false)(hW:cY w b c A s at_ s.md.1 (Za old (Zc 4294967295 im)))(he:He [(bne im 0,true)]):eV w b c A s (aD j) (Zo rd) 0 im (Zo at_):=by
 rintro⟨it,c1,c2,c3,fe,fm,q,sl⟩ f k u a7 a8 gh n t m tw h1 h2 hs
 obtain⟨told,n0,t0,H0⟩:=hR gh (n+5) (t+25) (u 5) s.md.2
 obtain⟨ya,yf,e0,yd,yb,n1,t1,yt,yl,he0,H1⟩:=hW (u 5) (Zd t0 5576) s.md.2 (R0 ⟨it,c1,c2,c3,fe,fm,q,sl⟩ (jy w b c A a7 t m tw rd at_ j u true 5586 (.int im (u 4)) 5590 false 5593 true (rl w b c (Zd t0 5571) (.int old told) (Zd t0 5577) (.int (Za old (Zc 4294967295 im)) (Zd t0 5576)))) 12 ⟨775,16,775,57⟩) (f0 n f) gh (n0+0) (t0+9) hs
 obtain⟨PL,h⟩:=Kg w b c (aC A a7 a8 f) s gh n t 40 (az [n0,n1]) (az [t0,t1]) (vT 1 e0 yd yb) (Zo m) old 0 tw told 0 it c1 c2 c3 ya yf ⟨k,u,aD j,Zo rd,0,0,im,Zo at_⟩ yt yl (cc (cC m)) fe fm q sl (aW j) (aE j) (fk (ba ac hj)<|fk (ak ac q0)<|fk (aA ac hj)<|fk (ak ac q1)<|fk (kd H0)<|fk (aA ac hj)<|fk (ak ac q2)<|aa) (ab ⟨by kernel_rfl,bp (by kernel_rfl) (kd H1)⟩ aa) (fk (bQ h1 h2)<|aa) (ab (gH he0) he)
 exact⟨Zd n1 1976,Zd n 1971,n1+2,n1+6,n1+7,n1+8,t1+22,.none,.ref (ad e0),gn (Zd t1 5588) (Zd t1 5590) (Zd t1 5592) (Zd t1 5583),gk m,PL,kF h⟩
end
end
end
end
section
variable(w:Z8)(b c:Bool)(A:AS)(s:BS)(gh:gHs)(n t L:Nat)(nn tt:Nat→Nat)(vv:Nat→Nat→Nat)(wd:Int)(tw j sp1 em1:Nat)(I:IS)(z1 p1 r1:Nat→Int×Nat)(es1:Array Z7)
noncomputable def dk:Z6:=.str I.nm (I.t 0)
def dP:Xc:=rV (.bool false)
noncomputable def fy(Y0:Nat):Nat:=Zd (vv 0 Y0) 1971
def pw:Nat×Obj:=(8,iO 121 (Zd (A.a 9) 1971))
include w b c A s gh n t L nn tt vv wd tw j sp1 em1 I z1 p1 r1 es1
theorem CG:bk w b c A gh L 40 [(28,Zd (nn 1) 1971),(13,Zd (nn 0) 1971),(12,fy vv 2),(11,fy vv 1),(10,fy vv 0),(7,Zd n 1971)] [(40,Zd (tt 1) 5571),(8,Zd (tt 0) 5571),(0,Zd t 5571)] [cS (cB "dict.get" [rA A 6,.int wd tw]) 9 5 [(6,d6 (PP w b c) A s)] (rV .none) 9 6,⟨cR 1870 [rA A 0,.int wd tw],9,7,aj w b c A s,rV (.ref (fy vv 0)),13,8,aj w b c A {s with es:=es1,em:=em1}++[(10,tO [.int 5 5115,.none,.ref (fy vv 1)]),(11,iO 121 (fy vv 2)),(12,iD (PP w b c) I)]⟩,cS (cB "list.__getitem__" [rA A 5,.int I.rs1 (I.t 2)]) 16 14 [(5,d5 (PP w b c) A s)] (rV (bh s j)) 16 14,cS (cB "str.__eq__" [dk I,.str qm (Zd (tt 0) 5590)]) 25 28 [] (dP) 25 28,cS (cB "str.__eq__" [dk I,.str qn (Zd (tt 0) 5591)]) 25 29 [] (dP) 25 29,cS (cB "str.__eq__" [dk I,.str qo (Zd (tt 0) 5592)]) 25 30 [] (dP) 25 30,cS (cB "str.__eq__" [dk I,.str qp (Zd (tt 0) 5593)]) 25 31 [] (dP) 25 31,cS (cB "str.__eq__" [dk I,.str qq (Zd (tt 0) 5594)]) 25 32 [] (dP) 25 32,cS (cB "str.__eq__" [dk I,.str qr (Zd (tt 0) 5595)]) 25 33 [] (dP) 25 33,cS (cB "str.__eq__" [dk I,.str f9 (Zd (tt 0) 5598)]) 26 36 [] (dP) 26 36,cS (cB "str.__getitem__" [dk I,.ref (Zd (nn 0) 1984)]) 27 37 [(26,⟨.type "slice",none,.fields ⟨[.none,.int 3 (Zd (tt 0) 5599),.none]⟩,#[]⟩)] (rV (.str dp (Zd (tt 0) 5600))) 27 38,⟨cR 1898 [rA A 0,.ref (fy vv 1),.int wd tw],27,39,aj w b c A {s with es:=es1,em:=em1}++[(11,iO 121 (fy vv 2)),(12,iD (PP w b c) I)],rV .none,28,40,aj w b c A ⟨z1,p1,r1,s.pc,s.md,sp1,es1,em1⟩++[(11,iO 121 (fy vv 2)),(12,iD (PP w b c) I)]⟩] [(gG (Xy (Qf (PySem.Value.str (PySem.Str.ofString ("mret")) (aQ (Qf (Xx 40 (Zd (tt 1) 5571)) (Qf (Xx 8 (Zd (tt 0) 5571)) (Qf (Xx 0 (Zd t 5571)) ([])))) 33)) ([])) (Xy (Qf (PySem.Value.str (PySem.Str.ofString ("sret")) (aQ (Qf (Xx 40 (Zd (tt 1) 5571)) (Qf (Xx 8 (Zd (tt 0) 5571)) (Qf (Xx 0 (Zd t 5571)) ([])))) 34)) ([])) ([]))) I.nm,false)] (cR 1965 [.ref (Zd (A.a 0) 1971),.int wd tw]) 7 (aj w b c A s) (rV .none) 28 (aj w b c A ⟨z1,p1,r1,(Za (s.pc.1+4) 4294967295,Zd (tt 0) 5587),s.md,sp1,es1,em1⟩++[(10,tO [.int 5 5115,.none,.ref (fy vv 1)]),(11,iO 121 (fy vv 2)),(12,iD (PP w b c) I)]) 42:=ap (hm [0,0,8,9008000,6001002,8,0,0,0,9,9009000,2001002,7,9007009,1001,9,9,9,9,6001002,9,0,1002,9,9,9,3011014,14,9014011,14,16,1007009,2001002,9,2012013,6,6,6,6,1003,9,2012013,3017018,20,1005009,0,0,9,0,0,9,0,0,9,0,0,9,0,0,9,6001002,9,9,0,0,0,1006021,0,21,2012013,21,2001002,0,3022023,25,1005021,3004,21,3005,21,3006,21,3007,21,3008,21,3009,21,26,26,26,1000,26,2,21,3010,21,3011,21,6001002,21,21,0,1012,21,21,5001002])
theorem F7:bk w b c A gh L 40 [(27,Zd (nn 0) 1971),(10,Zd n 1971)] [(38,Zd (tt 0) 5571),(0,Zd t 5571)] [cS (cB "dict.get" [rA A 6,.int wd tw]) 12 5 [(6,d6 (PP w b c) A s)] (rV (rA A 7)) 12 6,cS (cB "list.__getitem__" [rA A 5,.int I.rs1 (I.t 2)]) 15 12 [(5,d5 (PP w b c) A s)] (rV (bh s j)) 15 12,cS (cB "str.__eq__" [dk I,.str qm (Zd t 5596)]) 24 26 [] (dP) 24 26,cS (cB "str.__eq__" [dk I,.str qn (Zd t 5597)]) 24 27 [] (dP) 24 27,cS (cB "str.__eq__" [dk I,.str qo (Zd t 5598)]) 24 28 [] (dP) 24 28,cS (cB "str.__eq__" [dk I,.str qp (Zd t 5599)]) 24 29 [] (dP) 24 29,cS (cB "str.__eq__" [dk I,.str qq (Zd t 5600)]) 24 30 [] (dP) 24 30,cS (cB "str.__eq__" [dk I,.str qr (Zd t 5601)]) 24 31 [] (dP) 24 31,cS (cB "str.__eq__" [dk I,.str f9 (Zd t 5604)]) 25 34 [] (dP) 25 34,cS (cB "str.__getitem__" [dk I,.ref (Zd n 1986)]) 26 35 [(25,⟨.type "slice",none,.fields ⟨[.none,.int 3 (Zd t 5605),.none]⟩,#[]⟩)] (rV (.str dp (Zd t 5606))) 26 36,⟨cR 1898 [rA A 0,rA A 8,.int wd tw],26,37,aj w b c A s++[pw A,(9,iD (PP w b c) I)],rV .none,27,38,aj w b c A ⟨z1,p1,r1,s.pc,s.md,sp1,s.es,s.em⟩++[pw A,(9,iD (PP w b c) I)]⟩] [(gG (Xy (Qf (PySem.Value.str (PySem.Str.ofString ("mret")) (aQ (Qf (Xx 38 (Zd (tt 0) 5571)) (Qf (Xx 0 (Zd t 5571)) ([]))) 31)) ([])) (Xy (Qf (PySem.Value.str (PySem.Str.ofString ("sret")) (aQ (Qf (Xx 38 (Zd (tt 0) 5571)) (Qf (Xx 0 (Zd t 5571)) ([]))) 32)) ([])) ([]))) I.nm,false)] (cR 1965 [.ref (Zd (A.a 0) 1971),.int wd tw]) 10 (aj w b c A s++[(7,tO [.int 5 5115,.none,.ref (Zd (A.a 8) 1971)]),pw A,(9,iD (PP w b c) I)]) (rV .none) 27 (aj w b c A ⟨z1,p1,r1,(Za (s.pc.1+4) 4294967295,Zd t 5593),s.md,sp1,s.es,s.em⟩++[(7,tO [.int 5 5115,.none,rA A 8]),pw A,(9,iD (PP w b c) I)]) 40:=ap (hm [0,0,11,9011000,6001002,11,0,0,0,12,9012000,2001002,7,9007012,1001,1004012,3008013,13,9013008,13,15,1007012,2001002,12,2009010,6,6,6,6,1002,12,2009010,3016017,19,1005012,0,0,12,0,0,12,0,0,12,0,0,12,0,0,12,6001002,12,12,0,0,0,1006020,0,20,2009010,20,2001002,0,3021022,24,1005020,3003,20,3004,20,3005,20,3006,20,3007,20,3008,20,25,25,25,1000,25,2,20,3009,20,3010,20,6001002,20,20,0,1011,20,20,5001002])
end
section
variable(w:Z8)(b c:Bool)(A:AS)(s:BS)(gh:gHs)(n t L:Nat)(nn tt:Nat→Nat)(vv:Nat→Nat→Nat)(wd:Int)(tw j em1 it c1 c2 c3 xa xf:Nat)(xh xt:Z6)(I:IS)(ek:Nat→Nat)(R:Str)(pl:Nat→Z6)(es1:Array Z7)(fe:Nat→Array Z7)(fm:Nat→Nat)(q:Nat→Z4)(sl:Array (Option Z6))
noncomputable def c9(Y0 Y1:Nat):Nat:=Zd (vv Y0 Y1) 1971
noncomputable def b8(Y0 Y1:Nat):Nat:=Zd (tt Y0) Y1
def O3:List (Z7):=[ae w b c gB (Zd t 5573) (rA A 0),ae w b c gD (Zd t 5574) (.int wd tw),ae w b c mq (Zd t 5577) (.ref (c9 vv 0 0)),ae w b c dv (b8 tt 0 5572) (.int 5 5115),ae w b c mr (b8 tt 0 5573) .none,ae w b c gC (b8 tt 0 5574) (.ref (c9 vv 0 1)),ae w b c cP (b8 tt 0 5578) (.int I.im (I.t 4)),ae w b c kV (b8 tt 0 5579) (bh s j)]
def O4:List (Z7):=[ae w b c gB (Zd t 5573) (rA A 0),ae w b c gD (Zd t 5574) (.int wd tw),ae w b c mq (Zd t 5577) (rA A 7),ae w b c dv (Zd t 5578) (.int 5 5115),ae w b c mr (Zd t 5579) .none,ae w b c gC (Zd t 5580) (rA A 8),ae w b c cP (Zd t 5584) (.int I.im (I.t 4)),ae w b c kV (Zd t 5585) (bh s j)]
noncomputable def eY:Z6:=.str I.nm (I.t 0)
def O5:List (Z7):=[ae w b c gB (b8 tt 0 5580) (rA A 0),ae w b c gC (b8 tt 0 5581) (.ref (c9 vv 0 1)),ae w b c gD (b8 tt 0 5582) (.int wd tw),ae w b c xJ (b8 tt 0 5588) (.int (Za (s.pc.1+4) 4294967295) (b8 tt 0 5587)),ae w b c bW (b8 tt 0 5589) (eY I)]
def O6:List (Z7):=[ae w b c gB (Zd t 5586) (rA A 0),ae w b c gC (Zd t 5587) (rA A 8),ae w b c gD (Zd t 5588) (.int wd tw),ae w b c xJ (Zd t 5594) (.int (Za (s.pc.1+4) 4294967295) (Zd t 5593)),ae w b c bW (Zd t 5595) (eY I)]
def yM:List (Z7):=[ae w b c gU (Zd t 5571) (rA A 0),ae w b c kW (Zd t 5572) (.int wd tw)]
def gO:Xc:=rV (.bool false)
def O7:Xo:=rr 144 9 DL 1877 1876 (Zd n 1972)
noncomputable def je(Y0:Nat):Nat:=Zd (A.a Y0) 1971
include w b c A s gh n t L nn tt vv wd tw j em1 it c1 c2 c3 xa xf xh xt I ek R pl es1 fe fm q sl
theorem zJ:jT w b c A gh L 40 [(32,Zd (nn 1) 1971),(31,c9 vv 1 2),(30,c9 vv 1 1),(29,c9 vv 1 0),(14,Zd (nn 0) 1971),(13,c9 vv 0 2),(12,c9 vv 0 1),(11,c9 vv 0 0),(8,Zd n 1971)] [(40,b8 tt 1 5571),(8,b8 tt 0 5571),(0,Zd t 5571)] [cS (cB "dict.get" [rA A 6,.int wd tw]) 10 5 [(6,d6 (PP w b c) A s)] (rV .none) 10 6,⟨cR 1870 [rA A 0,.int wd tw],10,7,aj w b c A s,rV (.ref (c9 vv 0 0)),14,8,aj w b c A {s with es:=es1,em:=em1}++[(11,tO [.int 5 5115,.none,.ref (c9 vv 0 1)]),(12,iO 121 (c9 vv 0 2)),(13,iD (PP w b c) I)]⟩,cS (cB "list.__getitem__" [rA A 5,.int I.rs1 (I.t 2)]) 17 14 [(5,d5 (PP w b c) A s)] (rV (bh s j)) 17 14,cS (cB "str.__eq__" [eY I,.str qm (b8 tt 0 5590)]) 26 28 [] (gO) 26 28,cS (cB "str.__eq__" [eY I,.str qn (b8 tt 0 5591)]) 26 29 [] (gO) 26 29,cS (cB "str.__eq__" [eY I,.str qo (b8 tt 0 5592)]) 26 30 [] (gO) 26 30,cS (cB "str.__eq__" [eY I,.str qp (b8 tt 0 5593)]) 26 31 [] (gO) 26 31,cS (cB "str.__eq__" [eY I,.str qq (b8 tt 0 5594)]) 26 32 [] (gO) 26 32,cS (cB "str.__eq__" [eY I,.str qr (b8 tt 0 5595)]) 26 33 [] (gO) 26 33,cS (cB "str.__eq__" [eY I,.str f9 (b8 tt 0 5598)]) 27 36 [] (gO) 27 36,cS (cB "str.__getitem__" [eY I,.ref (Zd (nn 0) 1984)]) 28 37 [(27,⟨.type "slice",none,.fields ⟨[.none,.int 3 (b8 tt 0 5599),.none]⟩,#[]⟩)] (rV (.str dp (b8 tt 0 5600))) 28 38] [⟨cR 1898 [rA A 0,.ref (c9 vv 0 1),.int wd tw],28,39,aj w b c A {s with es:=es1,em:=em1}++[(12,iO 121 (c9 vv 0 2)),(13,iD (PP w b c) I),(21,⟨.type "frame",none,.dict ⟨O5 w b c A s tt vv wd tw I⟩ 5,#[]⟩),(9,⟨.type "frame",none,.dict ⟨O3 w b c A s t tt vv wd tw j I⟩ 8,#[]⟩),(8,⟨.type "frame",none,.dict ⟨yM w b c A t wd tw⟩ 2,#[]⟩),(7,aY (fe 4) (fm 4) sl)],.error (.ref (c9 vv 1 0)),32,40,aj w b c A {s with es:=es1,em:=em1}++[(12,iO 121 (c9 vv 0 2)),(13,iD (PP w b c) I),(21,⟨.type "frame",none,.dict ⟨O5 w b c A s tt vv wd tw I⟩ 5,bH 1890 1891 (.ref (Zd n 1972))⟩),(9,⟨.type "frame",none,.dict ⟨O3 w b c A s t tt vv wd tw j I⟩ 8,bH 1876 1877 (.ref (Zd n 1971))⟩),(8,⟨.type "frame",none,.dict ⟨yM w b c A t wd tw⟩ 2,bH 1964 1965 (rA A 7)⟩),(7,aY (fe 4) (fm 4) (ck c1 c2 c3)),(29,O8 xa (c9 vv 1 1) (c9 vv 1 2) xh),(30,vX (PP w b c) ek R wd tw),(31,fF xt xf .none pl)]⟩] [((rr 144 11 DN 1891 1890 (Zd (nn 0) 1978),⟨760,12,760,42⟩)::(O7 n,⟨722,12,722,48⟩)::(Bq 149 tG 1965 1964 (Zd n 1971),⟨850,15,850,33⟩)::l7 it (je A 7) c1 c2 c3 q)] [(gG (Xy (Qf (PySem.Value.str (PySem.Str.ofString ("mret")) (aQ (Qf (Xx 40 (b8 tt 1 5571)) (Qf (Xx 8 (b8 tt 0 5571)) (Qf (Xx 0 (Zd t 5571)) ([])))) 33)) ([])) (Xy (Qf (PySem.Value.str (PySem.Str.ofString ("sret")) (aQ (Qf (Xx 40 (b8 tt 1 5571)) (Qf (Xx 8 (b8 tt 0 5571)) (Qf (Xx 0 (Zd t 5571)) ([])))) 34)) ([])) ([]))) I.nm,false)] (l7 it (je A 7) c1 c2 c3 q) (cR 1965 [.ref (je A 0),.int wd tw]) 8 (aj w b c A s++[(7,aY (fe 4) (fm 4) sl)]) (rV (.ref (Zd (nn 1) 1974))) 36 (aj w b c A {s with es:=es1,em:=em1}++[(7,aY (fe 4) (fm 4) (ck c1 c2 c3)),(11,tO [.int 5 5115,.none,.ref (c9 vv 0 1)]),(12,iO 121 (c9 vv 0 2)),(13,iD (PP w b c) I),(35,tO [.int 2 281,.int wd tw])]) 44:=cG (hm [0,0,9,9009000,6001002,9,0,0,0,10,9010000,2001002,7,9007010,1001,1004010,6001002,10,0,1002,10,10,10,3012015,15,9015012,15,17,1007010,2001002,10,2013014,6,6,6,6,1003,10,2013014,3018019,21,1005010,0,0,10,0,0,10,0,0,10,0,0,10,0,0,10,6001002,10,10,0,0,0,1006022,0,22,2013014,22,2001002,0,3023024,26,1005022,3004,22,3005,22,3006,22,3007,22,3008,22,3009,22,27,27,27,1000,27,2,22,3010,22,3011,22,6001002,22,22,0,1500,30,32,32,32,22,30,30,30,33,33,30,33,33,33,10,30,30,30,34,34,30,34,34,34,9,30,30,30,35,35,0,9000030,30,35,35,9,9,9,30,1010000,30,0,30,1005000,30,30,0,31,9,30,1010000,30,0,30,1005000,30,30,0,31,9,9,9,9])
theorem CF:jT w b c A gh L 40 [(31,Zd (nn 0) 1971),(30,c9 vv 0 2),(29,c9 vv 0 1),(28,c9 vv 0 0),(11,Zd n 1971)] [(38,b8 tt 0 5571),(0,Zd t 5571)] [cS (cB "dict.get" [rA A 6,.int wd tw]) 13 5 [(6,d6 (PP w b c) A s)] (rV (rA A 7)) 13 6,cS (cB "list.__getitem__" [rA A 5,.int I.rs1 (I.t 2)]) 16 12 [(5,d5 (PP w b c) A s)] (rV (bh s j)) 16 12,cS (cB "str.__eq__" [eY I,.str qm (Zd t 5596)]) 25 26 [] (gO) 25 26,cS (cB "str.__eq__" [eY I,.str qn (Zd t 5597)]) 25 27 [] (gO) 25 27,cS (cB "str.__eq__" [eY I,.str qo (Zd t 5598)]) 25 28 [] (gO) 25 28,cS (cB "str.__eq__" [eY I,.str qp (Zd t 5599)]) 25 29 [] (gO) 25 29,cS (cB "str.__eq__" [eY I,.str qq (Zd t 5600)]) 25 30 [] (gO) 25 30,cS (cB "str.__eq__" [eY I,.str qr (Zd t 5601)]) 25 31 [] (gO) 25 31,cS (cB "str.__eq__" [eY I,.str f9 (Zd t 5604)]) 26 34 [] (gO) 26 34,cS (cB "str.__getitem__" [eY I,.ref (Zd n 1986)]) 27 35 [(26,⟨.type "slice",none,.fields ⟨[.none,.int 3 (Zd t 5605),.none]⟩,#[]⟩)] (rV (.str dp (Zd t 5606))) 27 36] [⟨cR 1898 [rA A 0,rA A 8,.int wd tw],27,37,aj w b c A s++[(8,iO 121 (je A 9)),(9,iD (PP w b c) I),(20,⟨.type "frame",none,.dict ⟨O6 w b c A s t wd tw I⟩ 5,#[]⟩),(12,⟨.type "frame",none,.dict ⟨O4 w b c A s t wd tw j I⟩ 8,#[]⟩),(11,⟨.type "frame",none,.dict ⟨yM w b c A t wd tw⟩ 2,#[]⟩),(10,aY (fe 4) (fm 4) sl)],.error (.ref (c9 vv 0 0)),31,38,aj w b c A s++[(8,iO 121 (je A 9)),(9,iD (PP w b c) I),(20,⟨.type "frame",none,.dict ⟨O6 w b c A s t wd tw I⟩ 5,bH 1890 1891 (.ref (Zd n 1972))⟩),(12,⟨.type "frame",none,.dict ⟨O4 w b c A s t wd tw j I⟩ 8,bH 1876 1877 (.ref (Zd n 1971))⟩),(11,⟨.type "frame",none,.dict ⟨yM w b c A t wd tw⟩ 2,bH 1964 1965 (rA A 10)⟩),(10,aY (fe 4) (fm 4) (ck c1 c2 c3)),(28,O8 xa (c9 vv 0 1) (c9 vv 0 2) xh),(29,vX (PP w b c) ek R wd tw),(30,fF xt xf .none pl)]⟩] [((rr 144 11 DN 1891 1890 (Zd n 1980),⟨760,12,760,42⟩)::(O7 n,⟨722,12,722,48⟩)::(Bq 149 tG 1965 1964 (Zd n 1971),⟨850,15,850,33⟩)::l7 it (je A 10) c1 c2 c3 q)] [(gG (Xy (Qf (PySem.Value.str (PySem.Str.ofString ("mret")) (aQ (Qf (Xx 38 (b8 tt 0 5571)) (Qf (Xx 0 (Zd t 5571)) ([]))) 31)) ([])) (Xy (Qf (PySem.Value.str (PySem.Str.ofString ("sret")) (aQ (Qf (Xx 38 (b8 tt 0 5571)) (Qf (Xx 0 (Zd t 5571)) ([]))) 32)) ([])) ([]))) I.nm,false)] (l7 it (je A 10) c1 c2 c3 q) (cR 1965 [.ref (je A 0),.int wd tw]) 11 (aj w b c A s++[(7,tO [.int 5 5115,.none,.ref (je A 8)]),(8,iO 121 (je A 9)),(9,iD (PP w b c) I),(10,aY (fe 4) (fm 4) sl)]) (rV (.ref (Zd (nn 0) 1974))) 35 (aj w b c A s++[(7,tO [.int 5 5115,.none,rA A 8]),(8,iO 121 (je A 9)),(9,iD (PP w b c) I),(10,aY (fe 4) (fm 4) (ck c1 c2 c3)),(34,tO [.int 2 281,.int wd tw])]) 42:=cG (hm [0,0,12,9012000,6001002,12,0,0,0,13,9013000,2001002,7,9007013,1001,1004013,3008014,14,9014008,14,16,1007013,2001002,13,2009010,6,6,6,6,1002,13,2009010,3017018,20,1005013,0,0,13,0,0,13,0,0,13,0,0,13,0,0,13,6001002,13,13,0,0,0,1006021,0,21,2009010,21,2001002,0,3022023,25,1005021,3003,21,3004,21,3005,21,3006,21,3007,21,3008,21,26,26,26,1000,26,2,21,3009,21,3010,21,6001002,21,21,0,1500,29,31,31,31,21,29,29,29,32,32,29,32,32,32,13,29,29,29,33,33,29,33,33,33,12,29,29,29,34,34,0,9000029,29,34,34,12,12,12,29,1010000,29,0,29,1005000,29,29,0,30,12,29,1010000,29,0,29,1005000,29,29,0,30,1004012])
end
noncomputable def a1(d:Nat):AS:=⟨fun _=>d,fun _=>0⟩
noncomputable def ej:BS:=⟨fun _=>(0,0),fun _=>(0,0),fun _=>(0,0),(0,0),(0,0),0,#[],0⟩
def aX(A:AS)(a7 a8 a9:Nat):AS:=⟨eZ [(7,a7),(8,a8),(9,a9)] A.a,A.k⟩
def aH(A:AS)(a7 a8 a9 a10:Nat):AS:=⟨eZ [(7,a7),(8,a8),(9,a9),(10,a10)] A.a,A.k⟩
def aM(A:AS)(a7:Nat):AS:=⟨eZ [(7,a7)] A.a,A.k⟩
def nq(P:Z5)(a7 a8 a9:Nat)(I:IS):gHs:=[(ad a7,tO [.int 5 5115,.none,.ref (ad a8)]),(ad a8,iO 121 (ad a9)),(ad a9,iD P I)]
theorem nz:∀j,j<6→∀t1 t2:Nat,gG ([Value.str (PySem.Str.ofString "mret") t1]++([Value.str (PySem.Str.ofString "sret") t2]++[])) (aD j)=false:=
  jB (fun _ _=>by kernel_rfl) (fun _ _=>by kernel_rfl) (fun _ _=>by kernel_rfl) (fun _ _=>by kernel_rfl) (fun _ _=>by kernel_rfl) (fun _ _=>by kernel_rfl)
theorem bw:∀j,j<6→∀x∈([[108,117,105],[97,117,105,112,99],[106,97,108],[106,97,108,114],[101,99,97,108,108],[101,98,114,101,97,107],[115,102,101,110,99,101,46,118,109,97]]:List (List Nat)),Xl (aD j).cps.toList x=false:=
  jB (by decide) (by decide) (by decide) (by decide) (by decide) (by decide)
theorem r0{w:Z8}{b c:Bool}{gh:gHs}{n t a tn ti:Nat}:∀j,j<6→Tri (MM w b c) (cn (PP w b c)) 1971 80 (.builtin "str.__getitem__" ⟨[.str (aD j) tn,.ref (ad a)],[]⟩) gh [(ad a,⟨.type "slice",none,.fields ⟨[.none,.int 3 ti,.none]⟩,#[]⟩)] (Zd n 1971) (Zd t 5571)
   (.ok (.ret (.str dp (Zd t 5571)))) gh [(ad a,⟨.type "slice",none,.fields ⟨[.none,.int 3 ti,.none]⟩,#[]⟩)] (Zd n 1971) (Zd (t+1) 5571):=
  jB (kE (QA w b c (a1 a) ej gh n t 60 tn ti)) (kE (QB w b c (a1 a) ej gh n t 60 tn ti)) (kE (QC w b c (a1 a) ej gh n t 60 tn ti)) (kE (QD w b c (a1 a) ej gh n t 60 tn ti)) (kE (QE w b c (a1 a) ej gh n t 60 tn ti)) (kE (QF w b c (a1 a) ej gh n t 60 tn ti))
abbrev iA(k u:Nat→Nat)(j rd rs:Nat)(im:Int)(at_:Nat):IS:=⟨k,u,aD j,Zo rd,Zo rs,0,im,Zo at_⟩
inductive LearnOkX (w:Z8) (b c:Bool) (A:AS) (j rd rs:Nat) (im:Int) (at_ m:Nat) (s:BS) (gh:gHs) (n t tw:Nat):Prop where
  |mk (a7 a8 a9:Nat) (k u:Nat→Nat) (n' t':Nat) (h0_:n≤a7) (h1_:n≤a8) (h2_:n≤a9) (h3_:(a7≠a8∧a7≠a9∧a8≠a9)) (h4_:TB w b c A 40 (.call (.ref 1870) ⟨[.ref (ad (A.a 0)),.int (Zo m) tw],[]⟩) gh [] s n t (.ok (.ret (.ref (ad a7)))) gh (nq (PP w b c) a7 a8 a9 (iA k u j rd rs im at_)) ⟨s.z,s.p,s.r,s.pc,s.md,s.sp,s.es.push ⟨Zo m,.int (Zo m) tw,.ref (ad a7)⟩,Zd s.em 1⟩ n' t'):LearnOkX w b c A j rd rs im at_ m s gh n t tw
def eM(w:Z8)(b c:Bool)(A:AS)(j rd rs:Nat)(im:Int)(at_ m:Nat):Prop:=∀(s:BS) (gh:gHs) (n t tw:Nat),IntKeys s.es→s.es.toList.length≤sizeLine→fIdx s.es.toList (Zo m)=none→
  LearnOkX w b c A j rd rs im at_ m s gh n t tw
theorem sH{α:Type}(l:List α)(a b x y z v:α)(Z:List α):(l++(a::x::y::z::v::b::Z)).Perm (l++(a::b::x::y::z::v::Z)):=
  List.Perm.append_left l (List.Perm.cons a (List.perm_middle (a:=b) (l₁:=[x,y,z,v]) (l₂:=Z)))
inductive told_miss_kX (w:Z8) (b:Bool) (c:Bool) (A:AS) (s:BS) (j:Nat) (rd:Nat) (rs:Nat) (im:Int) (at_:Nat) (m:Nat) (tw:Nat) (fz:Nat→Int) (fp:Nat→Int) (fr:Nat→Int) (n:Nat) (t:Nat):Prop where
 |mk (a7 a8 a9:Nat) (k u:Nat→Nat) (h0_:n≤a7) (h1_:n≤a8) (h2_:n≤a9) (h3_:(a7≠a8∧a7≠a9∧a8≠a9)) (h4_:∃(z1 p1 r1:Nat→Int×Nat) (sp1 pt n' t':Nat),(∀i,(z1 i).1=fz i)∧(∀i,(p1 i).1=fp i)∧(∀i,(r1 i).1=fr i)∧
 TB w b c A 120 (.call (.ref 1965) ⟨[.ref (ad (A.a 0)),.int (Zo m) tw],[]⟩) [] [] s n t (.ok (.ret .none)) [] (nq (PP w b c) a7 a8 a9 (iA k u j rd rs im at_)) ⟨z1,p1,r1,(Za (s.pc.1+4) 4294967295,pt),s.md,sp1,s.es.push ⟨Zo m,.int (Zo m) tw,.ref (ad a7)⟩,Zd s.em 1⟩ n' t'):told_miss_kX w b c A s j rd rs im at_ m tw fz fp fr n t
inductive told_hit_kX (w:Z8) (b:Bool) (c:Bool) (A:AS) (s:BS) (j:Nat) (rd:Nat) (rs:Nat) (im:Int) (at_:Nat) (m:Nat) (tw:Nat) (k:Nat→Nat) (u:Nat→Nat) (a7:Nat) (a8:Nat) (a9:Nat) (fz:Nat→Int) (fp:Nat→Int) (fr:Nat→Int) (n:Nat) (t:Nat):Prop where
 |mk (z1 p1 r1:Nat→Int×Nat) (sp1 pt n' t':Nat) (h0_:(∀i,(z1 i).1=fz i)) (h1_:(∀i,(p1 i).1=fp i)) (h2_:(∀i,(r1 i).1=fr i)) (h3_:TB w b c A 120 (.call (.ref 1965) ⟨[.ref (ad (A.a 0)),.int (Zo m) tw],[]⟩) [] (nq (PP w b c) a7 a8 a9 (iA k u j rd rs im at_)) s n t (.ok (.ret .none)) [] (nq (PP w b c) a7 a8 a9 (iA k u j rd rs im at_)) ⟨z1,p1,r1,(Za (s.pc.1+4) 4294967295,pt),s.md,sp1,s.es,s.em⟩ n' t'):told_hit_kX w b c A s j rd rs im at_ m tw k u a7 a8 a9 fz fp fr n t
inductive toldR_miss_kX (w:Z8) (b:Bool) (c:Bool) (A:AS) (s:BS) (j:Nat) (rd:Nat) (rs:Nat) (im:Int) (at_:Nat) (m:Nat) (tw:Nat) (R:RC) (f:Nat→Nat) (n:Nat) (t:Nat):Prop where
 |mk (a7 a8 a9:Nat) (k u:Nat→Nat) (h0_:n≤a7) (h1_:n≤a8) (h2_:n≤a9) (h3_:(a7≠a8∧a7≠a9∧a8≠a9)) (h4_:∃(e n' t':Nat),
 TA w b c A 120 (l7 R.it (ad (f 4)) R.c1 R.c2 R.c3 R.q) (.call (.ref 1965) ⟨[.ref (ad (A.a 0)),.int (Zo m) tw],[]⟩) [] [(ad (f 4),aY (R.fe 4) (R.fm 4) R.sl)] s n t (.ok (.ret (.ref (ad e)))) [] ([(ad (f 4),aY (R.fe 4) (R.fm 4) (ck R.c1 R.c2 R.c3))]++(nq (PP w b c) a7 a8 a9 (iA k u j rd rs im at_)++[(ad e,tO [.int 2 281,.int (Zo m) tw])])) ⟨s.z,s.p,s.r,s.pc,s.md,s.sp,s.es.push ⟨Zo m,.int (Zo m) tw,.ref (ad a7)⟩,Zd s.em 1⟩ n' t'):toldR_miss_kX w b c A s j rd rs im at_ m tw R f n t
inductive toldR_hit_kX (w:Z8) (b:Bool) (c:Bool) (A:AS) (s:BS) (j:Nat) (rd:Nat) (rs:Nat) (im:Int) (at_:Nat) (m:Nat) (tw:Nat) (k:Nat→Nat) (u:Nat→Nat) (a7:Nat) (a8:Nat) (a9:Nat) (R:RC) (f:Nat→Nat) (n:Nat) (t:Nat):Prop where
 |mk (e n' t':Nat) (h0_:TA w b c A 120 (l7 R.it (ad (f 4)) R.c1 R.c2 R.c3 R.q) (.call (.ref 1965) ⟨[.ref (ad (A.a 0)),.int (Zo m) tw],[]⟩) [] (nq (PP w b c) a7 a8 a9 (iA k u j rd rs im at_)++[(ad (f 4),aY (R.fe 4) (R.fm 4) R.sl)]) s n t (.ok (.ret (.ref (ad e)))) [] (nq (PP w b c) a7 a8 a9 (iA k u j rd rs im at_)++[(ad (f 4),aY (R.fe 4) (R.fm 4) (ck R.c1 R.c2 R.c3)),(ad e,tO [.int 2 281,.int (Zo m) tw])]) ⟨s.z,s.p,s.r,s.pc,s.md,s.sp,s.es,s.em⟩ n' t'):toldR_hit_kX w b c A s j rd rs im at_ m tw k u a7 a8 a9 R f n t
section
variable(w:Z8)(b c:Bool)(A:AS)(s:BS)
include w b c A s
theorem vO(j:Nat)(hj:j<6)(rd rs:Nat)(im:Int)(at_:Nat)(hrs:rs<32)(m tw:Nat)(hL:eM w b c A j rd rs im at_ m)(hk:IntKeys s.es)(hz:s.es.toList.length≤sizeLine)(hl:fIdx s.es.toList (Zo m)=none)(fz fp fr:Nat→Int)(hC:∀(es:Array Z7) (em:Nat),bR w b c A {s with es:=es,em:=em} (aD j) (Zo rd) (Zo rs) im (Zo at_) fz fp fr)(n t:Nat):told_miss_kX w b c A s j rd rs im at_ m tw fz fp fr n t:=by
 have hl':bC s.es.toList (Zo m)=none:=by unfold bC;rw[hl]
 obtain⟨a7,a8,a9,k,u,n0,t0,g1,g2,g3,ha,H0⟩:=hL s [] (n+2) (t+7) tw hk hz hl
 obtain⟨z1,p1,r1,sp1,n1,t1,ez,ep,er,H1⟩:=hC (s.es.push ⟨Zo m,.int (Zo m) tw,.ref (ad a7)⟩) (Zd s.em 1) k u a8 a9 [] (n0+14) (t0+31) (Zo m) tw
 have key:=CG w b c A s [] n t 80 (az [n0,n1]) (az [t0,t1]) (vT 0 a7 a8 a9) (Zo m) tw rs sp1 (Zd s.em 1) (iA k u j rd rs im at_) z1 p1 r1 (s.es.push ⟨Zo m,.int (Zo m) tw,.ref (ad a7)⟩) (fk (TriC.cast (bP ac ch (d:=ad (A.a 6)) (o:=d6 (PP w b c) A s) (l:=s.es.toList) (ep:=s.em) (k:=Zo m) (u:=tw) rfl hk) (by kernel_rfl) rfl rfl (by kernel_rfl) rfl rfl rfl rfl (by rw[hl'];rfl))<|fk (TriC.mono (cA (by decide)) (kd H0))<|fk (kc (aB ac (m:=0) (r:=s.r) (i:=rs) hrs))<|fk (ak ac (bw j hj _ (by decide)))<|fk (ak ac (bw j hj _ (by decide)))<|fk (ak ac (bw j hj _ (by decide)))<|fk (ak ac (bw j hj _ (by decide)))<|fk (ak ac (bw j hj _ (by decide)))<|fk (ak ac (bw j hj _ (by decide)))<|fk (ak ac (bw j hj _ (by decide)))<|fk (TriC.cast (r0 (gh:=[]) (n:=n0+14) (t:=t0+29) (a:=n0+13) (tn:=u 0) (ti:=(Zd t0 5599)) j hj) (by kernel_rfl) (nf n0 1971 14).symm (nf t0 5571 29).symm (by kernel_rfl) (nf n0 1971 14).symm (nf t0 5571 30).symm rfl rfl (by kernel_rfl))<|fk (kd H1)<|aa) (ab (nz j hj _ _) aa)
 exact⟨a7,a8,a9,k,u,by omega,by omega,by omega,ha,z1,p1,r1,sp1,Zd t0 5587,n1+0,t1+2,ez,ep,er,kE key⟩
theorem zM(j:Nat)(hj:j<6)(rd rs:Nat)(im:Int)(at_:Nat)(hrs:rs<32)(m tw:Nat)(k u:Nat→Nat)(a7 a8 a9:Nat)(hk:IntKeys s.es)(hl:bC s.es.toList (Zo m)=some (.ref (ad a7)))(fz fp fr:Nat→Int)(hC:∀(es:Array Z7) (em:Nat),bR w b c A {s with es:=es,em:=em} (aD j) (Zo rd) (Zo rs) im (Zo at_) fz fp fr)(n t:Nat):told_hit_kX w b c A s j rd rs im at_ m tw k u a7 a8 a9 fz fp fr n t:=by
 obtain⟨z1,p1,r1,sp1,n0,t0,ez,ep,er,H0⟩:=hC s.es s.em k u a8 a9 [] (n+16) (t+37) (Zo m) tw
 have key:=F7 w b c (aX A a7 a8 a9) s [] n t 80 (az [n0]) (az [t0]) (fun _ _=>0) (Zo m) tw rs sp1 s.em (iA k u j rd rs im at_) z1 p1 r1 s.es (fk (TriC.cast (bP ac ch (d:=ad (A.a 6)) (o:=d6 (PP w b c) A s) (l:=s.es.toList) (ep:=s.em) (k:=Zo m) (u:=tw) rfl hk) (by kernel_rfl) rfl rfl (by kernel_rfl) rfl rfl rfl rfl (by rw[hl];rfl))<|fk (kc (aB ac (m:=0) (r:=s.r) (i:=rs) hrs))<|fk (ak ac (bw j hj _ (by decide)))<|fk (ak ac (bw j hj _ (by decide)))<|fk (ak ac (bw j hj _ (by decide)))<|fk (ak ac (bw j hj _ (by decide)))<|fk (ak ac (bw j hj _ (by decide)))<|fk (ak ac (bw j hj _ (by decide)))<|fk (ak ac (bw j hj _ (by decide)))<|fk (TriC.cast (r0 (gh:=[]) (n:=n+16) (t:=t+35) (a:=n+15) (tn:=u 0) (ti:=(Zd t 5605)) j hj) (by kernel_rfl) (nf n 1971 16).symm (nf t 5571 35).symm (by kernel_rfl) (nf n 1971 16).symm (nf t 5571 36).symm rfl rfl (by kernel_rfl))<|fk (kd H0)<|aa) (ab (nz j hj _ _) aa)
 exact⟨z1,p1,r1,sp1,Zd t 5593,n0+0,t0+2,ez,ep,er,kE key⟩
theorem va(j:Nat)(hj:j<6)(rd rs:Nat)(im:Int)(at_:Nat)(hrs:rs<32)(m tw:Nat)(hL:eM w b c A j rd rs im at_ m)(hk:IntKeys s.es)(hz:s.es.toList.length≤sizeLine)(hl:fIdx s.es.toList (Zo m)=none)(hC:∀(es:Array Z7) (em:Nat),eV w b c A {s with es:=es,em:=em} (aD j) (Zo rd) (Zo rs) im (Zo at_))(h1:2^28≤m)(h2:m<2^32)(R:RC)(f:Nat→Nat)(hs:R.ok)(n t:Nat):toldR_miss_kX w b c A s j rd rs im at_ m tw R f n t:=by
 obtain⟨it,c1,c2,c3,fe,fm,q,sl⟩:=R
 have hl':bC s.es.toList (Zo m)=none:=by unfold bC;rw[hl]
 obtain⟨a7,a8,a9,k,u,n0,t0,g1,g2,g3,ha,H0⟩:=hL s [] (n+2) (t+7) tw hk hz hl
 obtain⟨xa,xf,e0,xd,xb,n1,t1,xt,xh,ek,Rs,pl,H1⟩:=hC (s.es.push ⟨Zo m,.int (Zo m) tw,.ref (ad a7)⟩) (Zd s.em 1) (RC.mk (it) (c1) (c2) (c3) (fun i=>cond (Ze i 1) ⟨[ae w b c gB (Zd t0 5580) (.ref (Zd (A.a 0) 1971)),ae w b c gC (Zd t0 5581) (.ref (Zd a8 1971)),ae w b c gD (Zd t0 5582) (.int (Zo m) tw),ae w b c xJ (Zd t0 5588) (.int (Za (s.pc.1+4) 4294967295) (Zd t0 5587)),ae w b c bW (Zd t0 5589) (.str (aD j) (u 0))]⟩ (cond (Ze i 2) ⟨[ae w b c gB (Zd t 5573) (.ref (Zd (A.a 0) 1971)),ae w b c gD (Zd t 5574) (.int (Zo m) tw),ae w b c mq (Zd t 5577) (.ref (Zd a7 1971)),ae w b c dv (Zd t0 5572) (.int 5 5115),ae w b c mr (Zd t0 5573) .none,ae w b c gC (Zd t0 5574) (.ref (Zd a8 1971)),ae w b c cP (Zd t0 5578) (.int im (u 4)),ae w b c kV (Zd t0 5579) (bh s rs)]⟩ (cond (Ze i 3) ⟨[ae w b c gU (Zd t 5571) (.ref (Zd (A.a 0) 1971)),ae w b c kW (Zd t 5572) (.int (Zo m) tw)]⟩ (fe 4)))) (fun i=>cond (Ze i 1) 5 (cond (Ze i 2) 8 (cond (Ze i 3) 2 (fm 4)))) (fun i=>cond (Ze i 1) ⟨760,12,760,42⟩ (cond (Ze i 2) ⟨722,12,722,48⟩ (cond (Ze i 3) ⟨850,15,850,33⟩ (q i)))) (sl)) (fun i=>cond (Ze i 1) (n0+7) (cond (Ze i 2) (n+1) (cond (Ze i 3) (n+0) (f 4)))) k u a8 a9 [] (n0+14) (t0+31) m tw h1 h2 hs
 obtain⟨PL,key⟩:∃PL:Nat→Z6,_:=⟨pl,zJ w b c (aM A (f 4)) s [] n t 80 (az [n0,n1]) (az [t0,t1]) (fun i j=>cond (Ze i 0) (vT 0 a7 a8 a9 0 j) (vT 1 e0 xd xb i j)) (Zo m) tw rs (Zd s.em 1) it c1 c2 c3 xa xf xh xt (iA k u j rd rs im at_) ek Rs pl (s.es.push ⟨Zo m,.int (Zo m) tw,.ref (ad a7)⟩) fe fm q sl (fk (TriC.cast (bP ac ch (d:=ad (A.a 6)) (o:=d6 (PP w b c) A s) (l:=s.es.toList) (ep:=s.em) (k:=Zo m) (u:=tw) rfl hk) (by kernel_rfl) rfl rfl (by kernel_rfl) rfl rfl rfl rfl (by rw[hl'];rfl))<|fk (TriC.mono (cA (by decide)) (kd H0))<|fk (kc (aB ac (m:=0) (r:=s.r) (i:=rs) hrs))<|fk (ak ac (bw j hj _ (by decide)))<|fk (ak ac (bw j hj _ (by decide)))<|fk (ak ac (bw j hj _ (by decide)))<|fk (ak ac (bw j hj _ (by decide)))<|fk (ak ac (bw j hj _ (by decide)))<|fk (ak ac (bw j hj _ (by decide)))<|fk (ak ac (bw j hj _ (by decide)))<|fk (TriC.cast (r0 (gh:=[]) (n:=n0+14) (t:=t0+29) (a:=n0+13) (tn:=u 0) (ti:=(Zd t0 5599)) j hj) (by kernel_rfl) (nf n0 1971 14).symm (nf t0 5571 29).symm (by kernel_rfl) (nf n0 1971 14).symm (nf t0 5571 30).symm rfl rfl (by kernel_rfl))<|aa) (ab ⟨by kernel_rfl,bp (by kernel_rfl) (kd (cW H1 (sH (bd w b c A ⟨s.z,s.p,s.r,s.pc,s.md,s.sp,s.es.push ⟨Zo m,.int (Zo m) tw,.ref (ad a7)⟩,Zd s.em 1⟩) _ _ _ _ _ _ _) (sH (bd w b c A ⟨s.z,s.p,s.r,s.pc,s.md,s.sp,s.es.push ⟨Zo m,.int (Zo m) tw,.ref (ad a7)⟩,Zd s.em 1⟩) _ _ _ _ _ _ _)))⟩ aa) (ab (nz j hj _ _) aa)⟩
 exact⟨a7,a8,a9,k,u,by omega,by omega,by omega,ha,n1+3,n1+4,t1+4,kF key⟩
theorem vL(j:Nat)(hj:j<6)(rd rs:Nat)(im:Int)(at_:Nat)(hrs:rs<32)(m tw:Nat)(k u:Nat→Nat)(a7 a8 a9:Nat)(hk:IntKeys s.es)(hl:bC s.es.toList (Zo m)=some (.ref (ad a7)))(hC:∀(es:Array Z7) (em:Nat),eV w b c A {s with es:=es,em:=em} (aD j) (Zo rd) (Zo rs) im (Zo at_))(h1:2^28≤m)(h2:m<2^32)(R:RC)(f:Nat→Nat)(hs:R.ok)(n t:Nat):toldR_hit_kX w b c A s j rd rs im at_ m tw k u a7 a8 a9 R f n t:=by
 obtain⟨it,c1,c2,c3,fe,fm,q,sl⟩:=R
 obtain⟨xa,xf,e0,xd,xb,n0,t0,xt,xh,ek,Rs,pl,H0⟩:=hC s.es s.em (RC.mk (it) (c1) (c2) (c3) (fun i=>cond (Ze i 1) ⟨[ae w b c gB (Zd t 5586) (.ref (Zd (A.a 0) 1971)),ae w b c gC (Zd t 5587) (.ref (Zd a8 1971)),ae w b c gD (Zd t 5588) (.int (Zo m) tw),ae w b c xJ (Zd t 5594) (.int (Za (s.pc.1+4) 4294967295) (Zd t 5593)),ae w b c bW (Zd t 5595) (.str (aD j) (u 0))]⟩ (cond (Ze i 2) ⟨[ae w b c gB (Zd t 5573) (.ref (Zd (A.a 0) 1971)),ae w b c gD (Zd t 5574) (.int (Zo m) tw),ae w b c mq (Zd t 5577) (.ref (Zd a7 1971)),ae w b c dv (Zd t 5578) (.int 5 5115),ae w b c mr (Zd t 5579) .none,ae w b c gC (Zd t 5580) (.ref (Zd a8 1971)),ae w b c cP (Zd t 5584) (.int im (u 4)),ae w b c kV (Zd t 5585) (bh s rs)]⟩ (cond (Ze i 3) ⟨[ae w b c gU (Zd t 5571) (.ref (Zd (A.a 0) 1971)),ae w b c kW (Zd t 5572) (.int (Zo m) tw)]⟩ (fe 4)))) (fun i=>cond (Ze i 1) 5 (cond (Ze i 2) 8 (cond (Ze i 3) 2 (fm 4)))) (fun i=>cond (Ze i 1) ⟨760,12,760,42⟩ (cond (Ze i 2) ⟨722,12,722,48⟩ (cond (Ze i 3) ⟨850,15,850,33⟩ (q i)))) (sl)) (fun i=>cond (Ze i 1) (n+9) (cond (Ze i 2) (n+1) (cond (Ze i 3) (n+0) (f 4)))) k u a8 a9 [] (n+16) (t+37) m tw h1 h2 hs
 obtain⟨PL,key⟩:∃PL:Nat→Z6,_:=⟨pl,CF w b c (aH A a7 a8 a9 (f 4)) s [] n t 80 (az [n0]) (az [t0]) (vT 0 e0 xd xb) (Zo m) tw rs s.em it c1 c2 c3 xa xf xh xt (iA k u j rd rs im at_) ek Rs pl s.es fe fm q sl (fk (TriC.cast (bP ac ch (d:=ad (A.a 6)) (o:=d6 (PP w b c) A s) (l:=s.es.toList) (ep:=s.em) (k:=Zo m) (u:=tw) rfl hk) (by kernel_rfl) rfl rfl (by kernel_rfl) rfl rfl rfl rfl (by rw[hl];rfl))<|fk (kc (aB ac (m:=0) (r:=s.r) (i:=rs) hrs))<|fk (ak ac (bw j hj _ (by decide)))<|fk (ak ac (bw j hj _ (by decide)))<|fk (ak ac (bw j hj _ (by decide)))<|fk (ak ac (bw j hj _ (by decide)))<|fk (ak ac (bw j hj _ (by decide)))<|fk (ak ac (bw j hj _ (by decide)))<|fk (ak ac (bw j hj _ (by decide)))<|fk (TriC.cast (r0 (gh:=[]) (n:=n+16) (t:=t+35) (a:=n+15) (tn:=u 0) (ti:=(Zd t 5605)) j hj) (by kernel_rfl) (nf n 1971 16).symm (nf t 5571 35).symm (by kernel_rfl) (nf n 1971 16).symm (nf t 5571 36).symm rfl rfl (by kernel_rfl))<|aa) (ab ⟨by kernel_rfl,bp (by kernel_rfl) (kd (cW H0 (sH (bd w b c A s) _ _ _ _ _ _ _) (sH (bd w b c A s) _ _ _ _ _ _ _)))⟩ aa) (ab (nz j hj _ _) aa)⟩
 exact⟨n0+3,n0+4,t0+4,kF key⟩
end
noncomputable def f3:Nat→Nat
 |0=>1
 |1=>2
 |2=>3
 |3=>5
 |4=>6
 |_=>7
def aT(j rd by_ at_:Nat):Nat:=115+f3 j*4096+rd*128+by_*32768+at_*1048576
noncomputable def da(j by_:Nat):Nat:=if j<3 then by_ else 0
noncomputable def dr(j by_:Nat):Int:=if j<3 then 0 else (by_:Int)
theorem px:∀j,j<6→f3 j<8:=jB (by decide) (by decide) (by decide) (by decide) (by decide) (by decide)
theorem Pa:∀j,j<6→∀j',j'<6→f3 j=f3 j'→j=j':=by decide
theorem Kz{j rd by_ at_ j' rd' by' at':Nat}(h:aT j rd by_ at_=aT j' rd' by' at')(hj:j<6)(hr:rd<32)(hb:by_<32)(hj':j'<6)(hr':rd'<32)(hb':by'<32):j=j'∧rd=rd'∧by_=by'∧at_=at':=by
 unfold aT at h
 have h1:=px j hj
 have h2:=px j' hj'
 have e:f3 j=f3 j':=by omega
 exact⟨Pa j hj j' hj' e,by omega,by omega,by omega⟩
theorem dN{j rd by_ at_:Nat}(hj:j<6)(hr:rd<32)(hb:by_<32)(ha:at_<4096):aT j rd by_ at_<2^32:=by
 have h1:=px j hj
 unfold aT;omega
theorem Ky{j rd by_ at_:Nat}(ha:256≤at_):2^28≤aT j rd by_ at_:=by unfold aT;omega
theorem isInt_key{k v:Int}{u:Nat}:Qb k (.int v u)=true ↔ v=k:=by
 show (_==_)=true ↔ _
 first|exact⟨fun h=>(eq_of_beq h),fun h=>by subst h;exact beq_self_eq_true _⟩|exact⟨fun h=>(eq_of_beq h).symm,fun h=>by subst h;exact beq_self_eq_true _⟩
theorem Bp{l:List Z7}{k:Int}{i:Nat}(h:fIdx l k=some i):∃e∈l,Qb k e.key=true∧bC l k=some e.val:=by
 have key:∃e∈l,Qb k e.key=true∧nthE l i=some e:=by
  induction l generalizing i with
  |nil=>cases h
  |cons a l ih=>
   unfold fIdx at h
   by_cases q:Qb k a.key=true
   ·rw[if_pos q]at h;cases h
    exact⟨a,List.mem_cons_self,q,rfl⟩
   ·rw[if_neg q]at h
    cases hf:fIdx l k with
    |none=>rw[hf]at h;cases h
    |some j=>
     rw[hf]at h;cases h
     obtain⟨e,h1,h2,h3⟩:=ih hf
     exact⟨e,Qp _ h1,h2,h3⟩
 obtain⟨e,h1,h2,h3⟩:=key
 exact⟨e,h1,h2,by unfold bC;simp only[h,h3]⟩
theorem qv(a:Nat):1971≤ad a:=Zx _ _
inductive Ins where
 |csr (j rd by_ at_:Nat)
 |nm (k:Nat)
 |ad (rd r1 r2:Nat)
 |ai (rd r1 im:Nat)
noncomputable def mT:Nat→Nat
 |0=>807403635
 |1=>273678451
 |2=>15
 |3=>301990003
 |4=>4111
 |_=>270532723
def jl:Nat→Str
 |0=>kU
 |1=>mj
 |2=>iw
 |3=>f9
 |4=>mb
 |_=>jJ
noncomputable def k7(rd r1 r2:Nat):Nat:=51+rd*128+r1*32768+r2*1048576
noncomputable def iF(rd r1 im:Nat):Nat:=19+rd*128+r1*32768+im*1048576
def Ins.w:Ins→Nat
 |.csr j rd by_ at_=>aT j rd by_ at_
 |.nm k=>mT k
 |.ad rd r1 r2=>k7 rd r1 r2
 |.ai rd r1 im=>iF rd r1 im
def Ins.ok:Ins→Prop
 |.csr j rd by_ at_=>j<6∧rd<32∧by_<32∧at_<4096
 |.nm k=>k<6
 |.ad rd r1 r2=>rd<32∧r1<32∧r2<32
 |.ai rd r1 im=>rd<32∧r1<32∧im<2048
def Ins.is(I:Ins)(k u:Nat→Nat):IS:=match I with
 |.csr j rd by_ at_=>iA k u j rd (da j by_) (dr j by_) at_
 |.nm i=>⟨k,u,jl i,0,0,0,0,0⟩
 |.ad rd r1 r2=>⟨k,u,gx,Zo rd,Zo r1,Zo r2,0,0⟩
 |.ai rd r1 im=>⟨k,u,l9,Zo rd,Zo r1,0,Zo im,0⟩
noncomputable def Ins.hd(I:Ins):List Z6:=match I with
 |.csr ..=>[.int 5 5115,.none]
 |.nm _=>[.int 5 5115,.none]
 |.ad ..=>[.int 1 5107,.ref 1121]
 |.ai ..=>[.int 0 5105,.ref 1121]
def rowI(P:Z5)(a7 a8 a9:Nat)(I:Ins)(k u:Nat→Nat):gHs:=[(ad a7,tO (I.hd++[.ref (ad a8)])),(ad a8,iO 121 (ad a9)),(ad a9,iD P (I.is k u))]
theorem KV:∀k,k<6→(mT k%128=115∧mT k/4096%8=0)∨mT k%128=15:=by decide
theorem KU:∀k,k<6→∀k',k'<6→mT k=mT k'→k=k':=by decide
theorem Bo:∀j,j<6→0<f3 j:=by decide
theorem BR:∀k,k<6→mT k<2^32:=by decide
theorem Ins.small{I:Ins}(h:I.ok):I.w<2^32:=by
 cases I with
 |csr j rd by_ at_=>exact dN h.1 h.2.1 h.2.2.1 h.2.2.2
 |nm k=>exact BR k h
 |ad rd r1 r2=>obtain⟨h1,h2,h3⟩:=h;show k7 rd r1 r2<_;unfold k7;omega
 |ai rd r1 im=>obtain⟨h1,h2,h3⟩:=h;show iF rd r1 im<_;unfold iF;omega
theorem Ins.low{I:Ins}(h:I.ok):match I with
 |.csr j _ _ _=>I.w%128=115∧I.w/4096%8=f3 j
 |.nm _=>(I.w%128=115∧I.w/4096%8=0)∨I.w%128=15
 |.ad ..=>I.w%128=51
 |.ai ..=>I.w%128=19:=by
 cases I with
 |csr j rd by_ at_=>
  have h1:=px j h.1
  obtain⟨_,h2,h3,h4⟩:=h
  show aT j rd by_ at_%128=115∧aT j rd by_ at_/4096%8=f3 j
  unfold aT;omega
 |nm k=>exact KV k h
 |ad rd r1 r2=>show k7 rd r1 r2%128=51;unfold k7;omega
 |ai rd r1 im=>show iF rd r1 im%128=19;unfold iF;omega
theorem Ins.inj{I J:Ins}(h:I.ok)(h':J.ok)(e:I.w=J.w):I=J:=by
 have l1:=Ins.low h
 have l2:=Ins.low h'
 cases I with
 |csr j rd by_ at_=>
  have hp:=Bo j h.1
  cases J with
  |csr j' rd' by' at'=>
   obtain⟨rfl,rfl,rfl,rfl⟩:=Kz e h.1 h.2.1 h.2.2.1 h'.1 h'.2.1 h'.2.2.1
   rfl
  |nm k=>simp only at l1 l2;rw[←e]at l2;omega
  |ad=>simp only at l1 l2;rw[←e]at l2;omega
  |ai=>simp only at l1 l2;rw[←e]at l2;omega
 |nm k=>
  cases J with
  |csr j' rd' by' at'=>have hp:=Bo j' h'.1;simp only at l1 l2;rw[←e]at l2;omega
  |nm k'=>rw[KU k h k' h' e]
  |ad=>simp only at l1 l2;rw[←e]at l2;omega
  |ai=>simp only at l1 l2;rw[←e]at l2;omega
 |ad rd r1 r2=>
  cases J with
  |csr j' rd' by' at'=>simp only at l1 l2;rw[←e]at l2;omega
  |nm k'=>simp only at l1 l2;rw[←e]at l2;omega
  |ad rd' r1' r2'=>
   obtain⟨a1,a2,a3⟩:=h;obtain⟨b1,b2,b3⟩:=h'
   have e':k7 rd r1 r2=k7 rd' r1' r2':=e
   unfold k7 at e'
   have e1:rd=rd':=by omega
   have e2:r1=r1':=by omega
   have e3:r2=r2':=by omega
   rw[e1,e2,e3]
  |ai=>simp only at l1 l2;rw[←e]at l2;omega
 |ai rd r1 im=>
  cases J with
  |csr j' rd' by' at'=>simp only at l1 l2;rw[←e]at l2;omega
  |nm k'=>simp only at l1 l2;rw[←e]at l2;omega
  |ad=>simp only at l1 l2;rw[←e]at l2;omega
  |ai rd' r1' im'=>
   obtain⟨a1,a2,a3⟩:=h;obtain⟨b1,b2,b3⟩:=h'
   have e':iF rd r1 im=iF rd' r1' im':=e
   unfold iF at e'
   have e1:rd=rd':=by omega
   have e2:r1=r1':=by omega
   have e3:im=im':=by omega
   rw[e1,e2,e3]
inductive KRow (P:Z5) (gh:gHs) (e:Z7):Prop where
 |mk (I:Ins) (u0 a7 a8 a9:Nat) (k u:Nat→Nat) (h1:I.ok) (h2:e=⟨Zo I.w,.int (Zo I.w) u0,.ref (ad a7)⟩) (h3:a7≠a8∧a7≠a9∧a8≠a9) (h4:∀y∈rowI P a7 a8 a9 I k u,y∈gh):KRow P gh e
def KInv(P:Z5)(es:Array Z7)(gh:gHs):Prop:=∀e∈es.toList,KRow P gh e
theorem KRow.more{P:Z5}{gh gh':gHs}{e:Z7}(h:KRow P gh e)(hm:∀y∈gh,y∈gh'):KRow P gh' e:=by
 obtain⟨I,u0,a7,a8,a9,k,u,h1,h2,h3,h4⟩:=h
 exact⟨I,u0,a7,a8,a9,k,u,h1,h2,h3,fun y hy=>hm y (h4 y hy)⟩
theorem KInv.more{P:Z5}{gh gh':gHs}{es:Array Z7}(h:KInv P es gh)(hm:∀y∈gh,y∈gh'):KInv P es gh':=fun e he=>(h e he).more hm
theorem KInv.keys{P:Z5}{gh:gHs}{es:Array Z7}(h:KInv P es gh):IntKeys es:=fun e he=>by
 obtain⟨I,u0,a7,a8,a9,k,u,h1,rfl,_,_⟩:=h e (by simpa using he)
 have hs:=Ins.small h1
 exact⟨Zo I.w,u0,rfl,(bo _ (by omega)).symm⟩
theorem gw{P:Z5}{I:Ins}{k u:Nat→Nat}{a7 a8 a9:Nat}(h:a7≠a8∧a7≠a9∧a8≠a9):((rowI P a7 a8 a9 I k u).map (·.1)).Nodup:=by
 show [a7+1971,a8+1971,a9+1971].Nodup
 obtain⟨h1,h2,h3⟩:=h
 simp only[Qm,Qt,List.not_mem_nil,or_false,not_or,List.nodup_nil,and_true,not_false_eq_true]
 exact⟨⟨fun e=>h1 (Nat.add_right_cancel e),fun e=>h2 (Nat.add_right_cancel e)⟩,fun e=>h3 (Nat.add_right_cancel e)⟩
theorem fD{P:Z5}{I:Ins}{k u:Nat→Nat}{a7 a8 a9:Nat}:∀y∈rowI P a7 a8 a9 I k u,1971≤y.1:=
 ab (qv _) (ab (qv _) (ab (qv _) aa))
theorem cx{P:Z5}{I:Ins}{k u:Nat→Nat}{n a7 a8 a9:Nat}(h7:n≤a7)(h8:n≤a8)(h9:n≤a9):∀y∈rowI P a7 a8 a9 I k u,Zd n 1971≤y.1:=
 ab (Nat.add_le_add_right h7 _) (ab (Nat.add_le_add_right h8 _) (ab (Nat.add_le_add_right h9 _) aa))
section
variable{M:Model}{S:HT}{B:Nat}{C:Ctx→Prop}{cd:Xo}{n t n' t':Nat}{r:Xc}{pre post X Y gh:gHs}
theorem cV(H:TriC M S B C cd [] pre n t r [] (post++Y) n' t')(hY:∀y∈Y,n≤y.1):TriC M S B C cd gh pre n t r (Y++gh) post n' t':=by
 intro nd lo big Γ P h gs d os hΓ hL hsz hs hp hgh
 have hY':∀y∈Y,y.1∉pre.map (·.1):=fun y hy z=>by
  obtain⟨x,hx,e⟩:=Qq.mp z
  have h1:x.1<n:=hsz▸Qa (hp x hx)
  have h2:=hY y hy
  rw[←e]at h2;exact Zz _ (Zr h1 h2)
 exact(vS (TriC.keep H (gh':=Y) hY' (fun y hy=>.inr hy)) (gh:=gh) (gh':=Y++gh) (fun y hy=>nomatch hy) (fun y hy=>Qu.mp hy)) nd lo big Γ P h gs d os hΓ hL hsz hs hp hgh
theorem cX(H:TriC M S B C cd [] (pre++X) n t r [] (post++X) n' t')(hX:∀x∈X,x∈gh)(hB:∀x∈X,B≤x.1)(hn:(X.map (·.1)).Nodup):TriC M S B C cd gh pre n t r gh post n' t':=
 vS (TriC.take H (gh:=gh) (gh':=[]) hX hB hn (fun y hy=>nomatch hy) (fun y hy=>nomatch hy)) (fun y hy=>hy) (fun y hy=>.inr hy)
end
theorem KInv.look{P:Z5}{gh:gHs}{es:Array Z7}(h:KInv P es gh){I:Ins}(hI:I.ok):
  fIdx es.toList (Zo I.w)=none∨∃(a7 a8 a9:Nat) (k u:Nat→Nat),bC es.toList (Zo I.w)=some (.ref (ad a7))∧(a7≠a8∧a7≠a9∧a8≠a9)∧∀y∈rowI P a7 a8 a9 I k u,y∈gh:=by
 cases hf:fIdx es.toList (Zo I.w) with
 |none=>exact .inl rfl
 |some i=>
  right
  obtain⟨e,he,hk,hv⟩:=Bp hf
  obtain⟨J,u0,a7,a8,a9,k,u,h1,rfl,h5,h6⟩:=h e he
  have e1:=isInt_key.mp hk
  obtain rfl:=Ins.inj h1 hI (Int.ofNat.inj e1)
  exact⟨a7,a8,a9,k,u,hv,h5,h6⟩
theorem KInv.push{P:Z5}{gh:gHs}{es:Array Z7}(h:KInv P es gh){I:Ins}{tw a7 a8 a9:Nat}{k u:Nat→Nat}(hr:I.ok)(ha:a7≠a8∧a7≠a9∧a8≠a9):
  KInv P (es.push ⟨Zo I.w,.int (Zo I.w) tw,.ref (ad a7)⟩) (rowI P a7 a8 a9 I k u++gh):=by
 intro e he
 rw[Xw]at he
 rcases Qu.mp he with he|he
 ·exact(h e he).more fun y hy=>Qr _ hy
 ·rw[List.mem_singleton.mp he]
  exact⟨I,tw,a7,a8,a9,k,u,hr,rfl,ha,fun y hy=>Qj _ hy⟩
theorem sO{j by_:Nat}(h:by_<32):da j by_<32:=by unfold da;split<;>omega
inductive ToldOkX (w:Z8) (b c:Bool) (A:AS) (s:BS) (I:Ins) (fz fp fr:Nat→Int) (pc md:Int) (gh:gHs) (n t tw:Nat):Prop where
 |mk (z1 p1 r1:Nat→Int×Nat) (pt mt sp1 em1 n' t':Nat) (es1:Array Z7) (gh':gHs) (h0_:(∀i,(z1 i).1=fz i)) (h1_:(∀i,(p1 i).1=fp i)) (h2_:(∀i,(r1 i).1=fr i)) (h3_:KInv (PP w b c) es1 gh') (h4_:es1.toList.length≤s.es.toList.length+1) (h5_:(∀y∈gh,y∈gh')) (h6_:(∀y∈gh',y∈gh∨Zd n 1971≤y.1)) (h7_:TB w b c A 120 (.call (.ref 1965) ⟨[.ref (ad (A.a 0)),.int (Zo I.w) (Zd tw 5571)],[]⟩) gh [] s n t (.ok (.ret .none)) gh' [] ⟨z1,p1,r1,(pc,pt),(md,mt),sp1,es1,em1⟩ n' t'):ToldOkX w b c A s I fz fp fr pc md gh n t tw
def gF(w:Z8)(b c:Bool)(A:AS)(s:BS)(I:Ins)(fz fp fr:Nat→Int)(pc md:Int):Prop:=∀(gh:gHs) (n t tw:Nat),KInv (PP w b c) s.es gh→s.es.toList.length≤sizeLine→ToldOkX w b c A s I fz fp fr pc md gh n t tw
inductive ToldRX (w:Z8) (b c:Bool) (A:AS) (s:BS) (I:Ins) (R:RC) (f:Nat→Nat) (gh:gHs) (n t tw:Nat):Prop where
 |mk (em1 e n' t':Nat) (es1:Array Z7) (gh':gHs) (h0_:KInv (PP w b c) es1 gh') (h1_:es1.toList.length≤s.es.toList.length+1) (h2_:(∀y∈gh,y∈gh')) (h3_:(∀y∈gh',y∈gh∨Zd n 1971≤y.1)) (h4_:TA w b c A 120 (l7 R.it (ad (f 4)) R.c1 R.c2 R.c3 R.q) (.call (.ref 1965) ⟨[.ref (ad (A.a 0)),.int (Zo I.w) (Zd tw 5571)],[]⟩) gh [(ad (f 4),aY (R.fe 4) (R.fm 4) R.sl)] s n t (.ok (.ret (.ref (ad e)))) gh'
   [(ad (f 4),aY (R.fe 4) (R.fm 4) (ck R.c1 R.c2 R.c3)),(ad e,tO [.int 2 281,.int (Zo I.w) (Zd tw 5571)])] {s with es:=es1,em:=em1} n' t'):ToldRX w b c A s I R f gh n t tw
def xP(w:Z8)(b c:Bool)(A:AS)(s:BS)(I:Ins):Prop:=∀(R:RC) (f:Nat→Nat),R.ok→∀(gh:gHs) (n t tw:Nat),KInv (PP w b c) s.es gh→s.es.toList.length≤sizeLine→ToldRX w b c A s I R f gh n t tw
inductive LearnIX (w:Z8) (b c:Bool) (A:AS) (I:Ins) (s:BS) (gh:gHs) (n t tw:Nat):Prop where
 |mk (a7 a8 a9:Nat) (k u:Nat→Nat) (n' t':Nat) (h0_:n≤a7) (h1_:n≤a8) (h2_:n≤a9) (h3_:(a7≠a8∧a7≠a9∧a8≠a9)) (h4_:TB w b c A 40 (.call (.ref 1870) ⟨[.ref (ad (A.a 0)),.int (Zo I.w) (Zd tw 5571)],[]⟩) gh [] s n t (.ok (.ret (.ref (ad a7)))) gh (rowI (PP w b c) a7 a8 a9 I k u) ⟨s.z,s.p,s.r,s.pc,s.md,s.sp,s.es.push ⟨Zo I.w,.int (Zo I.w) (Zd tw 5571),.ref (ad a7)⟩,Zd s.em 1⟩ n' t'):LearnIX w b c A I s gh n t tw
def fS(w:Z8)(b c:Bool)(A:AS)(I:Ins):Prop:=∀(s:BS) (gh:gHs) (n t tw:Nat),IntKeys s.es→s.es.toList.length≤sizeLine→fIdx s.es.toList (Zo I.w)=none→LearnIX w b c A I s gh n t tw
section
variable{w:Z8}{b c:Bool}{A:AS}{s:BS}{j rd by_ at_:Nat}(hr:j<6∧rd<32∧by_<32∧at_<4096)(hL:eM w b c A j rd (da j by_) (dr j by_) at_ (aT j rd by_ at_))
include hr hL
theorem F6{fz fp fr:Nat→Int}(hC:∀(es:Array Z7) (em:Nat),bR w b c A {s with es:=es,em:=em} (aD j) (Zo rd) (Zo (da j by_)) (dr j by_) (Zo at_) fz fp fr):gF w b c A s (.csr j rd by_ at_) fz fp fr (Za (s.pc.1+4) 4294967295) s.md.1:=by
 intro gh n t tw hk hz
 obtain⟨h1,h2,h3,h4⟩:=hr
 rcases hk.look (I:=.csr j rd by_ at_) ⟨h1,h2,h3,h4⟩ with hm|⟨a7,a8,a9,k,u,hl,ha,hx⟩
 ·obtain⟨a7,a8,a9,k,u,g1,g2,g3,ha,z1,p1,r1,sp1,pt,n',t',ez,ep,er,H⟩:=vO w b c A s j h1 rd (da j by_) (dr j by_) at_ (sO h3) _ (Zd tw 5571) hL hk.keys hz hm fz fp fr hC n t
  refine⟨z1,p1,r1,pt,s.md.2,sp1,Zd s.em 1,n',t',_,_,ez,ep,er,hk.push (I:=.csr j rd by_ at_) (tw:=Zd tw 5571) (k:=k) (u:=u) ⟨h1,h2,h3,h4⟩ ha,?_,fun y hy=>Qr _ hy,fun y hy=>?_,?_⟩
  ·rw[Xw,Ql];exact Zm _
  ·exact(Qu.mp hy).elim (fun z=>.inr (cx g1 g2 g3 y z)) .inl
  ·exact TriC.cast (cV H (gh:=gh) (cx (I:=.csr j rd by_ at_) g1 g2 g3)) rfl rfl rfl (bA _) rfl rfl rfl rfl rfl
 ·obtain⟨z1,p1,r1,sp1,pt,n',t',ez,ep,er,H⟩:=zM w b c A s j h1 rd (da j by_) (dr j by_) at_ (sO h3) _ (Zd tw 5571) k u a7 a8 a9 hk.keys hl fz fp fr hC n t
  refine⟨z1,p1,r1,pt,s.md.2,sp1,s.em,n',t',s.es,gh,ez,ep,er,hk,Nat.le_succ _,fun y hy=>hy,fun y hy=>.inl hy,?_⟩
  exact TriC.cast (cX (X:=rowI (PP w b c) a7 a8 a9 (.csr j rd by_ at_) k u) H hx fD (gw ha)) (bA _) rfl rfl (bA _) rfl rfl rfl rfl rfl
theorem CE(h256:256≤at_)(hC:∀(es:Array Z7) (em:Nat),eV w b c A {s with es:=es,em:=em} (aD j) (Zo rd) (Zo (da j by_)) (dr j by_) (Zo at_)):xP w b c A s (.csr j rd by_ at_):=by
 intro R f hs gh n t tw hk hz
 obtain⟨h1,h2,h3,h4⟩:=hr
 have hb:=Ky (j:=j) (rd:=rd) (by_:=by_) h256
 have hsm:=dN h1 h2 h3 h4
 rcases hk.look (I:=.csr j rd by_ at_) ⟨h1,h2,h3,h4⟩ with hm|⟨a7,a8,a9,k,u,hl,ha,hx⟩
 ·obtain⟨a7,a8,a9,k,u,g1,g2,g3,ha,e,n',t',H⟩:=va w b c A s j h1 rd (da j by_) (dr j by_) at_ (sO h3) _ (Zd tw 5571) hL hk.keys hz hm hC hb hsm R f hs n t
  refine⟨Zd s.em 1,e,n',t',_,_,hk.push (I:=.csr j rd by_ at_) (tw:=Zd tw 5571) (k:=k) (u:=u) ⟨h1,h2,h3,h4⟩ ha,?_,fun y hy=>Qr _ hy,fun y hy=>?_,?_⟩
  ·rw[Xw,Ql];exact Zm _
  ·exact(Qu.mp hy).elim (fun z=>.inr (cx g1 g2 g3 y z)) .inl
  ·refine cV (Y:=rowI (PP w b c) a7 a8 a9 (.csr j rd by_ at_) k u) (cW H (List.Perm.refl _) ?_) (cx g1 g2 g3)
   rw[Qs]
   exact List.Perm.append_left _ (List.Perm.cons _ (Qn (l₁:=nq _ _ _ _ _) (l₂:=[_])))
 ·obtain⟨e,n',t',H⟩:=vL w b c A s j h1 rd (da j by_) (dr j by_) at_ (sO h3) _ (Zd tw 5571) k u a7 a8 a9 hk.keys hl hC hb hsm R f hs n t
  refine⟨s.em,e,n',t',s.es,gh,hk,Nat.le_succ _,fun y hy=>hy,fun y hy=>.inl hy,?_⟩
  refine cX (X:=rowI (PP w b c) a7 a8 a9 (.csr j rd by_ at_) k u) (cW H ?_ ?_) hx fD (gw ha)
  ·rw[Qs];exact List.Perm.append_left _ Qn
  ·rw[Qs];exact List.Perm.append_left _ Qn
end
theorem k8(a:Nat):Builtin.bitNot (a:Int)=Int.negSucc a:=by unfold Builtin.bitNot;omega
theorem k9(a:Nat):Builtin.bitNot (Int.negSucc a)=(a:Int):=by unfold Builtin.bitNot;omega
theorem ay(a b:Nat):Za (a:Int) (b:Int)=((a &&& b:Nat):Int):=by
 unfold Za
 have h1:decide ((0:Int)≤a)=true:=by simp
 have h2:decide ((0:Int)≤b)=true:=by simp
 rw[h1,h2];simp
theorem b9(a b:Nat):Zb (a:Int) (b:Int)=((a ||| b:Nat):Int):=by
 unfold Zb
 rw[k8,k8]
 unfold Za
 have h1:decide ((0:Int)≤Int.negSucc a)=false:=by simp
 have h2:decide ((0:Int)≤Int.negSucc b)=false:=by simp
 rw[h1,h2]
 show Builtin.bitNot (Builtin.bitNot _)=_
 rw[k9,k9]
 simp only[Int.toNat_natCast]
 rw[k8,k9]
theorem du(a n:Nat):aO (a:Int) (n:Int)=((a*2^n:Nat):Int):=by unfold aO;simp
theorem fL(a n:Nat):aw (a:Int) (n:Int)=((a/2^n:Nat):Int):=by
 unfold aw
 rw[Int.toNat_natCast,Int.fdiv_eq_ediv_of_nonneg _ (by exact_mod_cast Nat.zero_le _)]
 simp
theorem eU(a b:Nat):ah (a:Int) (b:Int)=((a*b:Nat):Int):=by unfold ah;simp
theorem jX(a b:Nat):an (a:Int) (b:Int)=((a/b:Nat):Int):=by
 unfold an;rw[Int.fdiv_eq_ediv_of_nonneg _ (by exact_mod_cast Nat.zero_le _)];simp
theorem eh(a b:Nat):af (a:Int) (b:Int)=((a%b:Nat):Int):=by
 unfold af;rw[Int.fmod_eq_emod_of_nonneg _ (by exact_mod_cast Nat.zero_le _)];simp
theorem fE(a n:Nat)(ha:a<2^200)(hn:n≤1000):aG (a:Int) (n:Int)=false:=by
 unfold aG
 have h1:decide ((0:Int)≤(n:Int))=true:=by simp
 have h2:Builtin.Int.intBits (a:Int)≤201:=by
  unfold Builtin.Int.intBits
  by_cases h:a=0
  ·subst h;simp
  ·have:((a:Int)==0)=false:=by simpa using h
   rw[this]
   have h3:a.log2<200:=(Nat.log2_lt h).mpr ha
   simp only[Int.natAbs_natCast]
   simp;omega
 have h4:decide ((Builtin.Int.intBits (a:Int):Int)+(n:Int)≤134217728)=true:=by
  apply decide_eq_true;omega
 rw[h1,h4];rfl
theorem Fj(i a b c d:Nat)(hb:b<2^i)(hd:d<2^i):(2^i*a+b) ||| (2^i*c+d)=2^i*(a ||| c)+(b ||| d):=by
 apply Nat.eq_of_testBit_eq
 intro k
 rw[Nat.testBit_or,Zv _ hb,Zv _ hd,Zv _ (Nat.or_lt_two_pow hb hd),Nat.testBit_or,Nat.testBit_or]
 split<;>rfl
theorem q7(i a b c d:Nat)(hb:b<2^i)(hd:d<2^i):(2^i*a+b) &&& (2^i*c+d)=2^i*(a &&& c)+(b &&& d):=by
 apply Nat.eq_of_testBit_eq
 intro k
 rw[Nat.testBit_and,Zv _ hb,Zv _ hd,Zv _ (Nat.and_lt_two_pow _ hd),Nat.testBit_and,Nat.testBit_and]
 split<;>rfl
theorem nY(i a b:Nat)(hb:b<2^i):b ||| a*2^i=b+a*2^i:=by
 rw[Nat.mul_comm,Nat.or_comm,←Nat.two_pow_add_eq_or_of_lt hb];omega
theorem g7(a k:Nat):a &&& (2^k-1)=a%2^k:=Nat.and_two_pow_sub_one_eq_mod a k
theorem mv(a:Nat):a &&& 28799=a%128+a/4096%8*4096:=by
 have h:=q7 12 (a/4096) (a%4096) 7 127 (Zg _ (by decide)) (by decide)
 have e1:2^12*(a/4096)+a%4096=a:=by omega
 have h7:=g7 (a/4096) 3
 have h127:=g7 (a%4096) 7
 rw[e1]at h
 show a &&& (2^12*7+127)=_
 rw[h,show (7:Nat)=2^3-1 from rfl,h7,show (127:Nat)=2^7-1 from rfl,h127]
 omega
theorem Bj{j rd by_ at_:Nat}(hj:j<6)(hr:rd<32)(hb:by_<32):aT j rd by_ at_ &&& 127=115∧aT j rd by_ at_ &&& 28799=115+f3 j*4096∧aT j rd by_ at_/128%32=rd∧aT j rd by_ at_/32768%32=by_∧aT j rd by_ at_/1048576=at_:=by
 have h3:=px j hj
 have h1:=g7 (aT j rd by_ at_) 7
 rw[mv]
 rw[show (127:Nat)=2^7-1 from rfl,h1]
 unfold aT
 refine⟨by omega,by omega,by omega,by omega,by omega⟩
theorem Bi{f rd by_ at_:Nat}(hf:f<8)(hr:rd<32)(hb:by_<32):(((115+f*4096 ||| rd*2^7) ||| by_*2^15) ||| 0) ||| at_*2^20=115+f*4096+rd*128+by_*32768+at_*1048576:=by
 have h1:=Fj 12 f 115 0 (rd*128) (by decide) (by omega)
 have h2:=nY 7 rd 115 (by decide)
 have e1:115+f*4096 ||| rd*2^7=115+f*4096+rd*128:=by
  have a1:2^12*f+115=115+f*4096:=by omega
  have a2:2^12*0+rd*128=rd*2^7:=by omega
  rw[a1,a2]at h1
  rw[h1,Nat.or_zero,show rd*128=rd*2^7 from rfl,h2];omega
 rw[e1,nY 15 by_ _ (by omega),Nat.or_zero,nY 20 at_ _ (by omega)]
theorem KA{f rd by_ at_:Nat}(hf:f<8)(hr:rd<32)(hb:by_<32):((((115+f*4096 ||| rd*2^7) ||| 0) ||| 0) ||| at_*2^20) ||| by_*2^15=115+f*4096+rd*128+by_*32768+at_*1048576:=by
 have h:=Bi (f:=f) (rd:=rd) (by_:=by_) (at_:=at_) hf hr hb
 rw[Nat.or_zero]at h
 rw[Nat.or_zero,Nat.or_zero,Nat.or_assoc,Nat.or_comm (at_*2^20),←Nat.or_assoc,h]
def BF:=LZ [0,0,3,3,0,0,3,2001002,7004000,1027000,4,1008000,3,3,3,0,2000003,2001002,3005006,8,3,9003000,3,0,0,0,9,9,9,9,0,0,9,1008000,9,9,9,2001002,9,2001002,9,2001002,9,2001002,9,2001002,1020010,9,9,9,1006010,1004011,10,10,1005012,10,10,1020012,3013014,16,9,9,9,9,8009000,9,1,9,1,1004012,10,10,1020012,3017018,20,9,9,9,9,8009000]
def kh:=LZ [0,9,0,2000009,9,9,1028000,16,0,16,1007000,1014017,0,17,17,5016015,17,17,5016015,17,17,5016015,17,17,5016015,17,17,5016015,17,17,5016015,7018000,2016015,18,18,18,0,0,9000018,0,9000018,0,9000018,0,9000018,0,9000018,1005000,18,8,8,8,8,2001002,8,7,7,7,1003,8]
def ki:=LZ [0,0,0,8,7009000,2,9,0,2,0,9,7010000,3001,10,10,10,6000010,3002,10,10,10,1028000,10,1009000,9,9,9,9,0,2000009,0,9,0,9,0,3011012,12,9012011,12,12,9012011,12,14,1009009]
def Po:=LZ (BF++[0,1004012,10,10,1020012,3021022,24,9,9,9,9,8009000,0,1004012,10,10,1020012,3025026,28,9,9,9,9,8009000,0,9,0,2000029,29,9029000,4029000,31,1008009,1,9,1,9,9,0,2,1004012,10,10,1020012,3032033,35,9,9,9,9,8009000,9,1,9,1,1004012,10,10,12,12,12,37,3,1015000,7038000,1013000,38,1013000,38,0,2000003,2001002,2,3,2001002,2,3,2001002,2])
def uz:=LZ (BF++[9,1,9,1,1004012,10,10,1020012,3021022,24,9,9,9,9,8009000,0,1004012,10,10,1020012,3025026,28,9,9,9,9,8009000,0,1004012,10,10,1020012,3029030,32,9,9,9,9,8009000,9,1,9,1,1004012,10,10,12,12,12,34,3,1015000,7035000,1013000,35,1013000,35,0,2000003,2001002,2,3,2001002,2,3,2001002,2,3,3,3,36,36,36,1000,36,0,1007003,2001002,2])
def uA:=LZ (Po++[3,3,3,39,39,39,1000,39,0,1008003,2001002,2])
section
variable(w:Z8)(b c:Bool)(A:AS)(s:BS)(gh:gHs)(n t L:Nat)(wd:Int)(tw em1:Nat)(es1:Array Z7)
def kJ:Call:=cS (cB "int.__and__" [.int wd tw,.int 127 (Zd t 5578)]) 10 8 [] (rV (.int 115 (Zd t 5579))) 10 9
def kK(x0 x1:Nat):Call:=⟨cB "dict.__setitem__" [rA A 6,.int wd tw,.ref (Zd n 1982)],19,x0,[(6,d6 (PP w b c) A s)],rV .none,19,x1,[(6,d6 (PP w b c) A {s with es:=es1,em:=em1})]⟩
def kL:Xo:=(cR 1870 [.ref (Zd (A.a 0) 1971),.int wd tw])
abbrev nJ:=bk w b c A gh L 40 [(7,Zd n 1971)] [(0,Zd t 5571)]
include w b c A s gh n t L wd tw em1 es1
theorem KF:nJ w b c A gh n t L [kJ t wd tw,cS (cB "int.__and__" [.int wd tw,.int 28799 (Zd t 5583)]) 10 13 [] (rV (.int 4211 (Zd t 5584))) 10 14,kK w b c A s n wd tw em1 es1 82 83] [(bne (aw wd 32) 0,false),(decide (Xm wd 0),false)] (kL A wd tw) 7 (aj w b c A s) (rV (.ref (Zd n 1982))) 19 (aj w b c A {s with es:=es1,em:=em1}++[(18,tO [.int 5 5115,.none,.ref (Zd n 1979)]),(15,iO 121 (Zd n 1978)),(14,dO [ae w b c bW (Zd t 5631) (.str mc 1744),ae w b c dw (Zd t 5633) (.int (Za (aw wd 7) 31) (Zd t 5595)),ae w b c dY (Zd t 5635) (.int (Za (aw wd 15) 31) (Zd t 5599)),ae w b c eW (Zd t 5637) (.int 0 (Zd t 5621)),ae w b c cP (Zd t 5639) (.int 0 (Zd t 5622)),ae w b c dp (Zd t 5641) (.int (aw wd 20) (Zd t 5609))] 6)]) 83:=ap (hm ([0,0,8,8,8,8]++ki++[0,1011009]++kh))
theorem KG:nJ w b c A gh n t L [kJ t wd tw,cS (cB "int.__and__" [.int wd tw,.int 28799 (Zd t 5583)]) 10 13 [] (rV (.int 8307 (Zd t 5584))) 10 14,kK w b c A s n wd tw em1 es1 82 83] [(bne (aw wd 32) 0,false),(decide (Xm wd 0),false)] (kL A wd tw) 7 (aj w b c A s) (rV (.ref (Zd n 1982))) 19 (aj w b c A {s with es:=es1,em:=em1}++[(18,tO [.int 5 5115,.none,.ref (Zd n 1979)]),(15,iO 121 (Zd n 1978)),(14,dO [ae w b c bW (Zd t 5631) (.str me 1745),ae w b c dw (Zd t 5633) (.int (Za (aw wd 7) 31) (Zd t 5595)),ae w b c dY (Zd t 5635) (.int (Za (aw wd 15) 31) (Zd t 5599)),ae w b c eW (Zd t 5637) (.int 0 (Zd t 5621)),ae w b c cP (Zd t 5639) (.int 0 (Zd t 5622)),ae w b c dp (Zd t 5641) (.int (aw wd 20) (Zd t 5609))] 6)]) 83:=ap (hm ([0,0,8,8,8,8]++ki++[0,1011009]++kh))
theorem KH:nJ w b c A gh n t L [kJ t wd tw,cS (cB "int.__and__" [.int wd tw,.int 28799 (Zd t 5583)]) 10 13 [] (rV (.int 12403 (Zd t 5584))) 10 14,kK w b c A s n wd tw em1 es1 82 83] [(bne (aw wd 32) 0,false),(decide (Xm wd 0),false)] (kL A wd tw) 7 (aj w b c A s) (rV (.ref (Zd n 1982))) 19 (aj w b c A {s with es:=es1,em:=em1}++[(18,tO [.int 5 5115,.none,.ref (Zd n 1979)]),(15,iO 121 (Zd n 1978)),(14,dO [ae w b c bW (Zd t 5631) (.str mf 1746),ae w b c dw (Zd t 5633) (.int (Za (aw wd 7) 31) (Zd t 5595)),ae w b c dY (Zd t 5635) (.int (Za (aw wd 15) 31) (Zd t 5599)),ae w b c eW (Zd t 5637) (.int 0 (Zd t 5621)),ae w b c cP (Zd t 5639) (.int 0 (Zd t 5622)),ae w b c dp (Zd t 5641) (.int (aw wd 20) (Zd t 5609))] 6)]) 83:=ap (hm ([0,0,8,8,8,8]++ki++[0,1011009]++kh))
theorem KI:nJ w b c A gh n t L [kJ t wd tw,cS (cB "int.__and__" [.int wd tw,.int 28799 (Zd t 5583)]) 10 13 [] (rV (.int 20595 (Zd t 5584))) 10 14,kK w b c A s n wd tw em1 es1 83 84] [(bne (aw wd 32) 0,false),(decide (Xm wd 0),false)] (kL A wd tw) 7 (aj w b c A s) (rV (.ref (Zd n 1982))) 19 (aj w b c A {s with es:=es1,em:=em1}++[(18,tO [.int 5 5115,.none,.ref (Zd n 1979)]),(15,iO 121 (Zd n 1978)),(14,dO [ae w b c bW (Zd t 5632) (.str mg 1824),ae w b c dw (Zd t 5634) (.int (Za (aw wd 7) 31) (Zd t 5595)),ae w b c dY (Zd t 5636) (.int 0 (Zd t 5622)),ae w b c eW (Zd t 5638) (.int 0 (Zd t 5623)),ae w b c cP (Zd t 5640) (.int (Za (aw wd 15) 31) (Zd t 5599)),ae w b c dp (Zd t 5642) (.int (aw wd 20) (Zd t 5609))] 6)]) 84:=ap (hm ([0,0,8,8,8,8]++ki++[0,1012009]++kh))
theorem KJ:nJ w b c A gh n t L [kJ t wd tw,cS (cB "int.__and__" [.int wd tw,.int 28799 (Zd t 5583)]) 10 13 [] (rV (.int 24691 (Zd t 5584))) 10 14,kK w b c A s n wd tw em1 es1 83 84] [(bne (aw wd 32) 0,false),(decide (Xm wd 0),false)] (kL A wd tw) 7 (aj w b c A s) (rV (.ref (Zd n 1982))) 19 (aj w b c A {s with es:=es1,em:=em1}++[(18,tO [.int 5 5115,.none,.ref (Zd n 1979)]),(15,iO 121 (Zd n 1978)),(14,dO [ae w b c bW (Zd t 5632) (.str mh 1825),ae w b c dw (Zd t 5634) (.int (Za (aw wd 7) 31) (Zd t 5595)),ae w b c dY (Zd t 5636) (.int 0 (Zd t 5622)),ae w b c eW (Zd t 5638) (.int 0 (Zd t 5623)),ae w b c cP (Zd t 5640) (.int (Za (aw wd 15) 31) (Zd t 5599)),ae w b c dp (Zd t 5642) (.int (aw wd 20) (Zd t 5609))] 6)]) 84:=ap (hm ([0,0,8,8,8,8]++ki++[0,1012009]++kh))
theorem KK:nJ w b c A gh n t L [kJ t wd tw,cS (cB "int.__and__" [.int wd tw,.int 28799 (Zd t 5583)]) 10 13 [] (rV (.int 28787 (Zd t 5584))) 10 14,kK w b c A s n wd tw em1 es1 83 84] [(bne (aw wd 32) 0,false),(decide (Xm wd 0),false)] (kL A wd tw) 7 (aj w b c A s) (rV (.ref (Zd n 1982))) 19 (aj w b c A {s with es:=es1,em:=em1}++[(18,tO [.int 5 5115,.none,.ref (Zd n 1979)]),(15,iO 121 (Zd n 1978)),(14,dO [ae w b c bW (Zd t 5632) (.str mi 1826),ae w b c dw (Zd t 5634) (.int (Za (aw wd 7) 31) (Zd t 5595)),ae w b c dY (Zd t 5636) (.int 0 (Zd t 5622)),ae w b c eW (Zd t 5638) (.int 0 (Zd t 5623)),ae w b c cP (Zd t 5640) (.int (Za (aw wd 15) 31) (Zd t 5599)),ae w b c dp (Zd t 5642) (.int (aw wd 20) (Zd t 5609))] 6)]) 84:=ap (hm ([0,0,8,8,8,8]++ki++[0,1012009]++kh))
end
section
variable(w:Z8)(b c:Bool)(A:AS)(s:BS)(gh:gHs)(n t L:Nat)(k u:Nat→Nat)(tn:Nat)(rd by_ cs:Int)
def kM:Xo:=(cR 1072 [.ref (Zd (A.a 0) 1971)])
def Ci:List (Nat×Obj):=[(0,iO 121 (Zd (A.a 1) 1971)),(1,iD (PP w b c) ⟨k,fun i=>cond (Ze i 0) (Zd tn 5571) (u i),mc,rd,by_,0,0,cs⟩)]
def Cj:List (Nat×Obj):=[(0,iO 121 (Zd (A.a 1) 1971)),(1,iD (PP w b c) ⟨k,fun i=>cond (Ze i 0) (Zd tn 5571) (u i),me,rd,by_,0,0,cs⟩)]
def Ck:List (Nat×Obj):=[(0,iO 121 (Zd (A.a 1) 1971)),(1,iD (PP w b c) ⟨k,fun i=>cond (Ze i 0) (Zd tn 5571) (u i),mf,rd,by_,0,0,cs⟩)]
def Cl:List (Nat×Obj):=[(0,iO 121 (Zd (A.a 1) 1971)),(1,iD (PP w b c) ⟨k,fun i=>cond (Ze i 0) (Zd tn 5571) (u i),mg,rd,0,0,by_,cs⟩)]
def Cm:List (Nat×Obj):=[(0,iO 121 (Zd (A.a 1) 1971)),(1,iD (PP w b c) ⟨k,fun i=>cond (Ze i 0) (Zd tn 5571) (u i),mh,rd,0,0,by_,cs⟩)]
def Cn:List (Nat×Obj):=[(0,iO 121 (Zd (A.a 1) 1971)),(1,iD (PP w b c) ⟨k,fun i=>cond (Ze i 0) (Zd tn 5571) (u i),mi,rd,0,0,by_,cs⟩)]
abbrev nK:=fN w b c A gh L 40 [(2,Zd n 1971)] [(0,Zd t 5571)]
include w b c A s gh n t L k u tn rd by_ cs
theorem uf:nK w b c A gh n t L [(aG cs 20,false),(aG 0 20,false),(aG by_ 15,false),(aG rd 7,false),(decide (Xm cs 4096),true),(decide (Xn 0 cs),true),(decide (Xm by_ 32),true),(decide (Xn 0 by_),true),(decide (Xm rd 32),true),(decide (Xn 0 rd),true)] (kM A) 2 (Ci w b c A k u tn rd by_ cs) (rV (.int (Zb (Zb (Zb (Zb 4211 (aO rd 7)) (aO by_ 15)) (aO 0 20)) (aO cs 20)) (Zd t 5666))) 36 (Ci w b c A k u tn rd by_ cs) 96:=de (hm uz)
theorem ue:nK w b c A gh n t L [(aG cs 20,false),(aG 0 20,false),(aG by_ 15,false),(aG rd 7,false),(decide (Xm cs 4096),true),(decide (Xn 0 cs),true),(decide (Xm by_ 32),true),(decide (Xn 0 by_),true),(decide (Xm rd 32),true),(decide (Xn 0 rd),true)] (kM A) 2 (Cj w b c A k u tn rd by_ cs) (rV (.int (Zb (Zb (Zb (Zb 8307 (aO rd 7)) (aO by_ 15)) (aO 0 20)) (aO cs 20)) (Zd t 5666))) 36 (Cj w b c A k u tn rd by_ cs) 96:=de (hm uz)
theorem ud:nK w b c A gh n t L [(aG cs 20,false),(aG 0 20,false),(aG by_ 15,false),(aG rd 7,false),(decide (Xm cs 4096),true),(decide (Xn 0 cs),true),(decide (Xm by_ 32),true),(decide (Xn 0 by_),true),(decide (Xm rd 32),true),(decide (Xn 0 rd),true)] (kM A) 2 (Ck w b c A k u tn rd by_ cs) (rV (.int (Zb (Zb (Zb (Zb 12403 (aO rd 7)) (aO by_ 15)) (aO 0 20)) (aO cs 20)) (Zd t 5666))) 36 (Ck w b c A k u tn rd by_ cs) 96:=de (hm uz)
theorem rR:nK w b c A gh n t L [(aG by_ 15,false),(aG cs 20,false),(aG 0 20,false),(aG 0 15,false),(aG rd 7,false),(decide (Xm cs 4096),true),(decide (Xn 0 cs),true),(bne (af by_ 1) 0,false),(decide (Xn by_ 31),true),(decide (Xn 0 by_),true),(decide (Xm rd 32),true),(decide (Xn 0 rd),true)] (kM A) 2 (Cl w b c A k u tn rd by_ cs) (rV (.int (Zb (Zb (Zb (Zb (Zb 20595 (aO rd 7)) (aO 0 15)) (aO 0 20)) (aO cs 20)) (aO by_ 15)) (Zd t 5673))) 39 (Cl w b c A k u tn rd by_ cs) 103:=de (hm (uA++[3,2]))
theorem rQ:nK w b c A gh n t L [(aG by_ 15,false),(aG cs 20,false),(aG 0 20,false),(aG 0 15,false),(aG rd 7,false),(decide (Xm cs 4096),true),(decide (Xn 0 cs),true),(bne (af by_ 1) 0,false),(decide (Xn by_ 31),true),(decide (Xn 0 by_),true),(decide (Xm rd 32),true),(decide (Xn 0 rd),true)] (kM A) 2 (Cm w b c A k u tn rd by_ cs) (rV (.int (Zb (Zb (Zb (Zb (Zb 24691 (aO rd 7)) (aO 0 15)) (aO 0 20)) (aO cs 20)) (aO by_ 15)) (Zd t 5673))) 39 (Cm w b c A k u tn rd by_ cs) 103:=de (hm (uA++[3,2]))
theorem rP:nK w b c A gh n t L [(aG by_ 15,false),(aG cs 20,false),(aG 0 20,false),(aG 0 15,false),(aG rd 7,false),(decide (Xm cs 4096),true),(decide (Xn 0 cs),true),(bne (af by_ 1) 0,false),(decide (Xn by_ 31),true),(decide (Xn 0 by_),true),(decide (Xm rd 32),true),(decide (Xn 0 rd),true)] (kM A) 2 (Cn w b c A k u tn rd by_ cs) (rV (.int (Zb (Zb (Zb (Zb (Zb 28787 (aO rd 7)) (aO 0 15)) (aO 0 20)) (aO cs 20)) (aO by_ 15)) (Zd t 5673))) 39 (Cn w b c A k u tn rd by_ cs) 103:=de (hm (uA++[3,2]))
end
theorem Ko(x y:Int)(tx ty:Nat):Builtin.«int.__and__» ⟨[.int x tx,.int y ty],[]⟩=(.fresh fun t=>.pure (.done (.ret (.int (Za x y) t))):Xj Z3):=by kernel_rfl
theorem dM{w:Z8}{b c:Bool}{S:HT}{B:Nat}{gh:gHs}{n t:Nat}{C:Ctx→Prop}{x y v:Int}{tx ty:Nat}(h:Za x y=v):
    TriC (MM w b c) S B C (.builtin "int.__and__" ⟨[.int x tx,.int y ty],[]⟩) gh [] n t (.ok (.ret (.int v t))) gh [] n (t+1):=
  k0 fun Γ P h' gs d os=>by rw[cU F.entry_int_and,Ko,h];exact .fresh .done
theorem fg{a m v:Nat}(h:a &&& m=v):Za (Zo a) (Zo m)=Zo v:=by
  have:=ay a m
  rw[h]at this;exact this
theorem o6(a:Nat):a &&& 31=a%32:=g7 a 5
theorem gc{j rd by_ at_:Nat}(hj:j<6)(hr:rd<32)(hb:by_<32)(ha:at_<4096):
    Za (Zo (aT j rd by_ at_)) 127=115∧Za (Zo (aT j rd by_ at_)) 28799=Zo (115+f3 j*4096)∧Za (aw (Zo (aT j rd by_ at_)) 7) 31=Zo rd∧
    Za (aw (Zo (aT j rd by_ at_)) 15) 31=Zo by_∧aw (Zo (aT j rd by_ at_)) 20=Zo at_∧aw (Zo (aT j rd by_ at_)) 32=0:=by
  obtain⟨h1,h2,h3,h4,h5⟩:=Bj (at_:=at_) hj hr hb
  have hs:=dN hj hr hb ha
  refine⟨fg h1,fg h2,?_,?_,?_,?_⟩
  · have:=fL (aT j rd by_ at_) 7
    rw[show aw (Zo (aT j rd by_ at_)) 7=Zo (aT j rd by_ at_/2^7) from this]
    exact fg (by rw[o6];exact h3)
  · have:=fL (aT j rd by_ at_) 15
    rw[show aw (Zo (aT j rd by_ at_)) 15=Zo (aT j rd by_ at_/2^15) from this]
    exact fg (by rw[o6];exact h4)
  · have:=fL (aT j rd by_ at_) 20
    rw[show aw (Zo (aT j rd by_ at_)) 20=Zo (aT j rd by_ at_/2^20) from this]
    exact congrArg Zo h5
  · have:=fL (aT j rd by_ at_) 32
    rw[show aw (Zo (aT j rd by_ at_)) 32=Zo (aT j rd by_ at_/2^32) from this,Nat.div_eq_of_lt hs];rfl
theorem iT{j rd by_ at_:Nat}(hj:j<6)(hr:rd<32)(hb:by_<32)(ha:at_<4096):(bne (aw (Zo (aT j rd by_ at_)) 32) 0)=false∧(decide (Xm (Zo (aT j rd by_ at_)) 0))=false:=by
  rw[(gc hj hr hb ha).2.2.2.2.2]
  exact⟨rfl,by simp⟩
theorem qA{f rd by_ at_:Nat}(hf:f<8)(hr:rd<32)(hb:by_<32):
    Zb (Zb (Zb (Zb (Zo (115+f*4096)) (aO (Zo rd) 7)) (aO (Zo by_) 15)) (aO 0 20)) (aO (Zo at_) 20)=Zo (115+f*4096+rd*128+by_*32768+at_*1048576):=by
  rw[←Bi hf hr hb]
  have e1:=du rd 7
  have e2:=du by_ 15
  have e3:aO 0 20=((0:Nat):Int):=by decide
  have e4:=du at_ 20
  rw[show aO (Zo rd) 7=((rd*2^7:Nat):Int) from e1,show aO (Zo by_) 15=((by_*2^15:Nat):Int) from e2,e3,show aO (Zo at_) 20=((at_*2^20:Nat):Int) from e4]
  rw[show Zo (115+f*4096)=((115+f*4096:Nat):Int) from rfl,b9,b9,b9,b9];rfl
theorem oN{f rd by_ at_:Nat}(hf:f<8)(hr:rd<32)(hb:by_<32):
    Zb (Zb (Zb (Zb (Zb (Zo (115+f*4096)) (aO (Zo rd) 7)) (aO 0 15)) (aO 0 20)) (aO (Zo at_) 20)) (aO (Zo by_) 15)=Zo (115+f*4096+rd*128+by_*32768+at_*1048576):=by
  rw[←KA hf hr hb]
  have e1:=du rd 7
  have e2:=du by_ 15
  have e3:aO 0 20=((0:Nat):Int):=by decide
  have e5:aO 0 15=((0:Nat):Int):=by decide
  have e4:=du at_ 20
  rw[show aO (Zo rd) 7=((rd*2^7:Nat):Int) from e1,show aO (Zo by_) 15=((by_*2^15:Nat):Int) from e2,e3,e5,show aO (Zo at_) 20=((at_*2^20:Nat):Int) from e4]
  rw[show Zo (115+f*4096)=((115+f*4096:Nat):Int) from rfl,b9,b9,b9,b9,b9];rfl
theorem gj{rd by_ at_:Nat}(hr:rd<32)(hb:by_<32)(ha:at_<4096):aG (Zo at_) 20=false∧aG (Zo by_) 15=false∧aG (Zo rd) 7=false∧(decide (Xm (Zo at_) 4096))=true∧(decide (Xn 0 (Zo at_)))=true∧
    (decide (Xm (Zo by_) 32))=true∧(decide (Xn 0 (Zo by_)))=true∧(decide (Xm (Zo rd) 32))=true∧(decide (Xn 0 (Zo rd)))=true∧(decide (Xn (Zo by_) 31))=true∧(bne (af (Zo by_) 1) 0)=false:=by
  have p:∀x,x<4096→x<2^200:=fun x h=>Zh h (by decide)
  refine⟨fE at_ 20 (p _ ha) (by decide),fE by_ 15 (p _ (by omega)) (by decide),fE rd 7 (p _ (by omega)) (by decide),?_,?_,?_,?_,?_,?_,?_,?_⟩
  iterate 7 (exact decide_eq_true (by simp only[Int.ofNat_eq_natCast];omega))
  have:=eh by_ 1
  rw[show af (Zo by_) 1=((by_%1:Nat):Int) from this,Nat.mod_one];rfl
theorem et(t k m:Nat)(h:k+5571=m):Zd t m=Zd (Zd t k) 5571:=by subst h;exact(Nat.add_assoc t k 5571).symm
theorem gR{x y:Int}{a b:Nat}(h:x=y)(h2:a=b):(Except.ok (Flow.ret (.int x a)):Xc)=.ok (.ret (.int y b)):=by subst h h2;rfl
theorem fc{a b:Bool}{l:List (Bool×Bool)}(h:a=b)(t:∀x∈l,x.1=x.2):∀x∈(a,b)::l,x.1=x.2:=ab h t
theorem stopL0:aG 0 20=false∧aG 0 15=false:=⟨fE 0 20 (by decide) (by decide),fE 0 15 (by decide) (by decide)⟩
noncomputable def cJ(a b c d e f:Nat):Nat→Nat:=fun i=>cond (Ze i 0) a (cond (Ze i 1) b (cond (Ze i 2) c (cond (Ze i 3) d (cond (Ze i 4) e f))))
inductive EncOkX (w:Z8) (b c:Bool) (j rd by_ at_:Nat) (k u:Nat→Nat) (tn a d:Nat) (gh:gHs) (n t:Nat):Prop where
  |mk (tc n' t':Nat) (h0_:Tri (MM w b c) (cn (PP w b c)) 1971 40 (.call (.ref 1072) ⟨[.ref (ad a)],[]⟩) gh [(ad a,iO 121 (ad d)),(ad d,iD (PP w b c) (iA k (fun i=>cond (Ze i 0) (Zd tn 5571) (u i)) j rd (da j by_) (dr j by_) at_))] (Zd n 1971) (Zd t 5571) (.ok (.ret (.int (Zo (aT j rd by_ at_)) (Zd tc 5571)))) gh
   [(ad a,iO 121 (ad d)),(ad d,iD (PP w b c) (iA k (fun i=>cond (Ze i 0) (Zd tn 5571) (u i)) j rd (da j by_) (dr j by_) at_))] (Zd n' 1971) (Zd t' 5571)):EncOkX w b c j rd by_ at_ k u tn a d gh n t
def kP(w:Z8)(b c:Bool)(j rd by_ at_:Nat):Prop:=∀(k u:Nat→Nat) (tn a d:Nat) (gh:gHs) (n t:Nat),EncOkX w b c j rd by_ at_ k u tn a d gh n t
noncomputable def a2(a d:Nat):AS:=⟨fun i=>cond (Ze i 0) a d,fun _=>0⟩
section
variable(w:Z8)(b c:Bool)(A:AS){rd by_ at_:Nat}(hr:rd<32)(hb:by_<32)(ha:at_<4096)
include w b c hr hb ha
theorem yU:eM w b c A 0 rd (da 0 by_) (dr 0 by_) at_ (aT 0 rd by_ at_):=by
 intro s gh n t tw hk hz hi
 obtain⟨v1,v2,v3,v4,v5,_⟩:=gc (j:=0) (by decide) hr hb ha
 obtain⟨c1,c2⟩:=iT (j:=0) (by decide) hr hb ha
 have hs:=dN (j:=0) (by decide) hr hb ha
 have key:=KF w b c A s gh n t 0 (Zo (aT 0 rd by_ at_)) tw (Zd s.em 1) (s.es.push ⟨Zo (aT 0 rd by_ at_),.int (Zo (aT 0 rd by_ at_)) tw,.ref (ad (n+11))⟩)
  (fk (dM v1)<|fk (dM v2)<|fk (kA (b6 (gh:=gh) (n:=Zd n (1971+12)) (t:=Zd t (5571+82)) ac (d:=ad (A.a 6)) (o:=d6 (PP w b c) A s) (l:=s.es.toList) (ep:=s.em) (k:=Zo (aT 0 rd by_ at_)) (u:=tw) (v:=.ref (Zd n 1982)) rfl rfl hk hz (bo _ (by omega)) hi))<|aa) (ab c1 (ab c2 aa))
 rw[v3,v4,v5]at key
 exact⟨n+11,n+8,n+7,cJ (Zd t 5631) (Zd t 5633) (Zd t 5635) (Zd t 5637) (Zd t 5639) (Zd t 5641),cJ 1744 (Zd t 5595) (Zd t 5599) (Zd t 5621) (Zd t 5622) (Zd t 5609),n+12,t+83,by omega,by omega,by omega,⟨by omega,by omega,by omega⟩,kF key⟩
theorem yV:eM w b c A 1 rd (da 1 by_) (dr 1 by_) at_ (aT 1 rd by_ at_):=by
 intro s gh n t tw hk hz hi
 obtain⟨v1,v2,v3,v4,v5,_⟩:=gc (j:=1) (by decide) hr hb ha
 obtain⟨c1,c2⟩:=iT (j:=1) (by decide) hr hb ha
 have hs:=dN (j:=1) (by decide) hr hb ha
 have key:=KG w b c A s gh n t 0 (Zo (aT 1 rd by_ at_)) tw (Zd s.em 1) (s.es.push ⟨Zo (aT 1 rd by_ at_),.int (Zo (aT 1 rd by_ at_)) tw,.ref (ad (n+11))⟩)
  (fk (dM v1)<|fk (dM v2)<|fk (kA (b6 (gh:=gh) (n:=Zd n (1971+12)) (t:=Zd t (5571+82)) ac (d:=ad (A.a 6)) (o:=d6 (PP w b c) A s) (l:=s.es.toList) (ep:=s.em) (k:=Zo (aT 1 rd by_ at_)) (u:=tw) (v:=.ref (Zd n 1982)) rfl rfl hk hz (bo _ (by omega)) hi))<|aa) (ab c1 (ab c2 aa))
 rw[v3,v4,v5]at key
 exact⟨n+11,n+8,n+7,cJ (Zd t 5631) (Zd t 5633) (Zd t 5635) (Zd t 5637) (Zd t 5639) (Zd t 5641),cJ 1745 (Zd t 5595) (Zd t 5599) (Zd t 5621) (Zd t 5622) (Zd t 5609),n+12,t+83,by omega,by omega,by omega,⟨by omega,by omega,by omega⟩,kF key⟩
theorem yW:eM w b c A 2 rd (da 2 by_) (dr 2 by_) at_ (aT 2 rd by_ at_):=by
 intro s gh n t tw hk hz hi
 obtain⟨v1,v2,v3,v4,v5,_⟩:=gc (j:=2) (by decide) hr hb ha
 obtain⟨c1,c2⟩:=iT (j:=2) (by decide) hr hb ha
 have hs:=dN (j:=2) (by decide) hr hb ha
 have key:=KH w b c A s gh n t 0 (Zo (aT 2 rd by_ at_)) tw (Zd s.em 1) (s.es.push ⟨Zo (aT 2 rd by_ at_),.int (Zo (aT 2 rd by_ at_)) tw,.ref (ad (n+11))⟩)
  (fk (dM v1)<|fk (dM v2)<|fk (kA (b6 (gh:=gh) (n:=Zd n (1971+12)) (t:=Zd t (5571+82)) ac (d:=ad (A.a 6)) (o:=d6 (PP w b c) A s) (l:=s.es.toList) (ep:=s.em) (k:=Zo (aT 2 rd by_ at_)) (u:=tw) (v:=.ref (Zd n 1982)) rfl rfl hk hz (bo _ (by omega)) hi))<|aa) (ab c1 (ab c2 aa))
 rw[v3,v4,v5]at key
 exact⟨n+11,n+8,n+7,cJ (Zd t 5631) (Zd t 5633) (Zd t 5635) (Zd t 5637) (Zd t 5639) (Zd t 5641),cJ 1746 (Zd t 5595) (Zd t 5599) (Zd t 5621) (Zd t 5622) (Zd t 5609),n+12,t+83,by omega,by omega,by omega,⟨by omega,by omega,by omega⟩,kF key⟩
theorem yX:eM w b c A 3 rd (da 3 by_) (dr 3 by_) at_ (aT 3 rd by_ at_):=by
 intro s gh n t tw hk hz hi
 obtain⟨v1,v2,v3,v4,v5,_⟩:=gc (j:=3) (by decide) hr hb ha
 obtain⟨c1,c2⟩:=iT (j:=3) (by decide) hr hb ha
 have hs:=dN (j:=3) (by decide) hr hb ha
 have key:=KI w b c A s gh n t 0 (Zo (aT 3 rd by_ at_)) tw (Zd s.em 1) (s.es.push ⟨Zo (aT 3 rd by_ at_),.int (Zo (aT 3 rd by_ at_)) tw,.ref (ad (n+11))⟩)
  (fk (dM v1)<|fk (dM v2)<|fk (kA (b6 (gh:=gh) (n:=Zd n (1971+12)) (t:=Zd t (5571+83)) ac (d:=ad (A.a 6)) (o:=d6 (PP w b c) A s) (l:=s.es.toList) (ep:=s.em) (k:=Zo (aT 3 rd by_ at_)) (u:=tw) (v:=.ref (Zd n 1982)) rfl rfl hk hz (bo _ (by omega)) hi))<|aa) (ab c1 (ab c2 aa))
 rw[v3,v4,v5]at key
 exact⟨n+11,n+8,n+7,cJ (Zd t 5632) (Zd t 5634) (Zd t 5636) (Zd t 5638) (Zd t 5640) (Zd t 5642),cJ 1824 (Zd t 5595) (Zd t 5622) (Zd t 5623) (Zd t 5599) (Zd t 5609),n+12,t+84,by omega,by omega,by omega,⟨by omega,by omega,by omega⟩,kF key⟩
theorem yY:eM w b c A 4 rd (da 4 by_) (dr 4 by_) at_ (aT 4 rd by_ at_):=by
 intro s gh n t tw hk hz hi
 obtain⟨v1,v2,v3,v4,v5,_⟩:=gc (j:=4) (by decide) hr hb ha
 obtain⟨c1,c2⟩:=iT (j:=4) (by decide) hr hb ha
 have hs:=dN (j:=4) (by decide) hr hb ha
 have key:=KJ w b c A s gh n t 0 (Zo (aT 4 rd by_ at_)) tw (Zd s.em 1) (s.es.push ⟨Zo (aT 4 rd by_ at_),.int (Zo (aT 4 rd by_ at_)) tw,.ref (ad (n+11))⟩)
  (fk (dM v1)<|fk (dM v2)<|fk (kA (b6 (gh:=gh) (n:=Zd n (1971+12)) (t:=Zd t (5571+83)) ac (d:=ad (A.a 6)) (o:=d6 (PP w b c) A s) (l:=s.es.toList) (ep:=s.em) (k:=Zo (aT 4 rd by_ at_)) (u:=tw) (v:=.ref (Zd n 1982)) rfl rfl hk hz (bo _ (by omega)) hi))<|aa) (ab c1 (ab c2 aa))
 rw[v3,v4,v5]at key
 exact⟨n+11,n+8,n+7,cJ (Zd t 5632) (Zd t 5634) (Zd t 5636) (Zd t 5638) (Zd t 5640) (Zd t 5642),cJ 1825 (Zd t 5595) (Zd t 5622) (Zd t 5623) (Zd t 5599) (Zd t 5609),n+12,t+84,by omega,by omega,by omega,⟨by omega,by omega,by omega⟩,kF key⟩
theorem yZ:eM w b c A 5 rd (da 5 by_) (dr 5 by_) at_ (aT 5 rd by_ at_):=by
 intro s gh n t tw hk hz hi
 obtain⟨v1,v2,v3,v4,v5,_⟩:=gc (j:=5) (by decide) hr hb ha
 obtain⟨c1,c2⟩:=iT (j:=5) (by decide) hr hb ha
 have hs:=dN (j:=5) (by decide) hr hb ha
 have key:=KK w b c A s gh n t 0 (Zo (aT 5 rd by_ at_)) tw (Zd s.em 1) (s.es.push ⟨Zo (aT 5 rd by_ at_),.int (Zo (aT 5 rd by_ at_)) tw,.ref (ad (n+11))⟩)
  (fk (dM v1)<|fk (dM v2)<|fk (kA (b6 (gh:=gh) (n:=Zd n (1971+12)) (t:=Zd t (5571+83)) ac (d:=ad (A.a 6)) (o:=d6 (PP w b c) A s) (l:=s.es.toList) (ep:=s.em) (k:=Zo (aT 5 rd by_ at_)) (u:=tw) (v:=.ref (Zd n 1982)) rfl rfl hk hz (bo _ (by omega)) hi))<|aa) (ab c1 (ab c2 aa))
 rw[v3,v4,v5]at key
 exact⟨n+11,n+8,n+7,cJ (Zd t 5632) (Zd t 5634) (Zd t 5636) (Zd t 5638) (Zd t 5640) (Zd t 5642),cJ 1826 (Zd t 5595) (Zd t 5622) (Zd t 5623) (Zd t 5599) (Zd t 5609),n+12,t+84,by omega,by omega,by omega,⟨by omega,by omega,by omega⟩,kF key⟩
theorem Ek:kP w b c 0 rd by_ at_:=by
 intro k u tn a d gh n t
 obtain⟨e1,e2,e3,e4,e5,e6,e7,e8,e9,e10,e11⟩:=gj hr hb ha
 have key:=uf w b c (a2 a d) ej gh n t 0 k u tn (Zo rd) (Zo by_) (Zo at_) (fc e1 (fc stopL0.1 (fc e2 (fc e3 (fc e4 (fc e5 (fc e6 (fc e7 (fc e8 (fc e9 aa))))))))))
 have ev:=qA (f:=1) (at_:=at_) (by decide) hr hb
 exact⟨Zd t 95,n+34,t+96,TriC.cast key (by kernel_rfl) rfl rfl (by kernel_rfl) (nf n 1971 34) (nf t 5571 96) rfl rfl (gR ev (et t 95 5666 rfl))⟩
theorem El:kP w b c 1 rd by_ at_:=by
 intro k u tn a d gh n t
 obtain⟨e1,e2,e3,e4,e5,e6,e7,e8,e9,e10,e11⟩:=gj hr hb ha
 have key:=ue w b c (a2 a d) ej gh n t 0 k u tn (Zo rd) (Zo by_) (Zo at_) (fc e1 (fc stopL0.1 (fc e2 (fc e3 (fc e4 (fc e5 (fc e6 (fc e7 (fc e8 (fc e9 aa))))))))))
 have ev:=qA (f:=2) (at_:=at_) (by decide) hr hb
 exact⟨Zd t 95,n+34,t+96,TriC.cast key (by kernel_rfl) rfl rfl (by kernel_rfl) (nf n 1971 34) (nf t 5571 96) rfl rfl (gR ev (et t 95 5666 rfl))⟩
theorem Em:kP w b c 2 rd by_ at_:=by
 intro k u tn a d gh n t
 obtain⟨e1,e2,e3,e4,e5,e6,e7,e8,e9,e10,e11⟩:=gj hr hb ha
 have key:=ud w b c (a2 a d) ej gh n t 0 k u tn (Zo rd) (Zo by_) (Zo at_) (fc e1 (fc stopL0.1 (fc e2 (fc e3 (fc e4 (fc e5 (fc e6 (fc e7 (fc e8 (fc e9 aa))))))))))
 have ev:=qA (f:=3) (at_:=at_) (by decide) hr hb
 exact⟨Zd t 95,n+34,t+96,TriC.cast key (by kernel_rfl) rfl rfl (by kernel_rfl) (nf n 1971 34) (nf t 5571 96) rfl rfl (gR ev (et t 95 5666 rfl))⟩
theorem En:kP w b c 3 rd by_ at_:=by
 intro k u tn a d gh n t
 obtain⟨e1,e2,e3,e4,e5,e6,e7,e8,e9,e10,e11⟩:=gj hr hb ha
 have key:=rR w b c (a2 a d) ej gh n t 0 k u tn (Zo rd) (Zo by_) (Zo at_) (fc e2 (fc e1 (fc stopL0.1 (fc stopL0.2 (fc e3 (fc e4 (fc e5 (fc e11 (fc e10 (fc e7 (fc e8 (fc e9 aa))))))))))))
 have ev:=oN (f:=5) (at_:=at_) (by decide) hr hb
 exact⟨Zd t 102,n+37,t+103,TriC.cast key (by kernel_rfl) rfl rfl (by kernel_rfl) (nf n 1971 37) (nf t 5571 103) rfl rfl (gR ev (et t 102 5673 rfl))⟩
theorem Eo:kP w b c 4 rd by_ at_:=by
 intro k u tn a d gh n t
 obtain⟨e1,e2,e3,e4,e5,e6,e7,e8,e9,e10,e11⟩:=gj hr hb ha
 have key:=rQ w b c (a2 a d) ej gh n t 0 k u tn (Zo rd) (Zo by_) (Zo at_) (fc e2 (fc e1 (fc stopL0.1 (fc stopL0.2 (fc e3 (fc e4 (fc e5 (fc e11 (fc e10 (fc e7 (fc e8 (fc e9 aa))))))))))))
 have ev:=oN (f:=6) (at_:=at_) (by decide) hr hb
 exact⟨Zd t 102,n+37,t+103,TriC.cast key (by kernel_rfl) rfl rfl (by kernel_rfl) (nf n 1971 37) (nf t 5571 103) rfl rfl (gR ev (et t 102 5673 rfl))⟩
theorem Ep:kP w b c 5 rd by_ at_:=by
 intro k u tn a d gh n t
 obtain⟨e1,e2,e3,e4,e5,e6,e7,e8,e9,e10,e11⟩:=gj hr hb ha
 have key:=rP w b c (a2 a d) ej gh n t 0 k u tn (Zo rd) (Zo by_) (Zo at_) (fc e2 (fc e1 (fc stopL0.1 (fc stopL0.2 (fc e3 (fc e4 (fc e5 (fc e11 (fc e10 (fc e7 (fc e8 (fc e9 aa))))))))))))
 have ev:=oN (f:=7) (at_:=at_) (by decide) hr hb
 exact⟨Zd t 102,n+37,t+103,TriC.cast key (by kernel_rfl) rfl rfl (by kernel_rfl) (nf n 1971 37) (nf t 5571 103) rfl rfl (gR ev (et t 102 5673 rfl))⟩
theorem mR:∀j,j<6→eM w b c A j rd (da j by_) (dr j by_) at_ (aT j rd by_ at_):= jB (yU w b c A hr hb ha) (yV w b c A hr hb ha) (yW w b c A hr hb ha) (yX w b c A hr hb ha) (yY w b c A hr hb ha) (yZ w b c A hr hb ha)
theorem Kx:∀j,j<6→kP w b c j rd by_ at_:= jB (Ek w b c hr hb ha) (El w b c hr hb ha) (Em w b c hr hb ha) (En w b c hr hb ha) (Eo w b c hr hb ha) (Ep w b c hr hb ha)
end
def pz:=LZ [0,3,2001002,7004000,1027000,4,1008000,3,3,3,0,2000003,2001002,3005006,8,3,9003000,3,0,0,0,9,9,9,9,0,0,9,1008000,9,9,9,2001002,9,2001002,9,2001002,9,2001002,9,2001002,1020010,9,9,9,1006010,1004011,10,10,1005012,10,10,1020012,3013014,16,9,9,9,9,8009000]
def ut:=LZ [1007000,1014017,0,17,17,5016015,17,17,5016015,17,17,5016015,17,17,5016015,17,17,5016015,17,17,5016015,7018000,2016015,18,18,18]
def uo:=LZ (ut++[0,0,9000018,0,9000018,0,9000018,0,9000018,0,9000018,1005000,18,8,8,8,8,2001002])
def ur:=LZ [1004012,10,10,1020012,3025026,28,9,9,9,9,8009000,0,1004012,10,10,1020012,3029030,32,9,9,9,9,8009000,0,1004012,10,10,12,12,12,34,3,1015000,7035000,1013000,35,1013000,35,0,2000003,2001002,2,3,2001002]
def mL:=LZ [9,9,9,9,0,2000009,0,9,0,9,0,3011012,12,9012011,12,12,9012011,12,14,1009009]
def we:=LZ [1004012,10,10,1020012,3017018,20,9,9,9,9,8009000,9,0,9,0,1004012,10,10,1020012,3021022,24,9,9,9,9,8009000]
def By:=LZ [1004012,10,10,1020012,3032033,35,9,9,9,9,8009000,0,1004012,10,10,12,12,12,37,3,1015000,7038000,1013000,38,1013000,38,0,2000003,2001002,2,3,2001002,2,3,2001002,2,3,3,3,39,39,39,1000,39]
def Bx:=LZ ([0,0,3,3,0]++pz++[9,0,9,0]++we++[0,1004012,10,10,1020012,3025026,28,9,9,9,9,8009000,0,9,0,2000029,29,9029000,4029000,31,1008009,0,9,0,9,9,0,0]++By++[0,3])
def us:=LZ ([3,3,0]++pz++[0,1004012,10,10,1020012,3017018,20,9,9,9,9,8009000,0,1004012,10,10,1020012,3021022,24,9,9,9,9,8009000,0]++ur++[2,3,2001002,2,3,3,3,36,36,36,1000,36,0,1007003])
def uu:=LZ ([10008009,10,10,0,1004010,5000010,10,5000010,10,1028000,10,1006000]++mL++[0,1013009,0,9,1040000,16,0,16]++uo++[8,7,7,7])
def Bz:=LZ ([3,3,0]++pz++[9,1,9,1,1004012,10,10,1020012,3017018,20,9,9,9,9,8009000,9,1,9,1,1004012,10,10,1020012,3021022,24,9,9,9,9,8009000])
def wc:=LZ ([10008009,10,10,0,1004010,5000010,10,1028000,10,1009000]++mL++[0,1010009,0,9,0,2000009,9,9,1028000,16,0,16]++uo++[8,7])
section
variable(w:Z8)(b c:Bool)(A:AS)(s:BS)(gh:gHs)(n t L:Nat)(tw em1:Nat)(es1:Array Z7)
include w b c A s gh n t L tw em1 es1
theorem y5:jM w b c A gh L 40 [(7,Zd n 1971)] [(0,Zd t 5571)] [⟨cB "dict.__setitem__" [rA A 6,.int 807403635 (Zd tw 5571),.ref (Zd n 1982)],19,87,[(6,d6 (PP w b c) A s)],rV .none,19,88,[(6,d6 (PP w b c) A {s with es:=es1,em:=em1})]⟩] (cR 1870 [.ref (Zd (A.a 0) 1971),.int 807403635 (Zd tw 5571)]) 7 (aj w b c A s) (rV (.ref (Zd n 1982))) 19 (aj w b c A {s with es:=es1,em:=em1}++[(18,tO [.int 5 5115,.none,.ref (Zd n 1979)]),(15,iO 121 (Zd n 1978)),(14,dO [ae w b c bW (Zd t 5636) (.str kU 1935),ae w b c dw (Zd t 5638) (.int 0 466),ae w b c dY (Zd t 5640) (.int 0 467),ae w b c eW (Zd t 5642) (.int 0 468),ae w b c cP (Zd t 5644) (.int 0 469),ae w b c dp (Zd t 5646) (.int 0 470)] 6)]) 88:=hD (hm (uu++[1001,8])) rfl rfl fun bl p=>by kernel_rfl
theorem BL:jM w b c A gh L 40 [(7,Zd n 1971)] [(0,Zd t 5571)] [⟨cB "dict.__setitem__" [rA A 6,.int 273678451 (Zd tw 5571),.ref (Zd n 1982)],19,87,[(6,d6 (PP w b c) A s)],rV .none,19,88,[(6,d6 (PP w b c) A {s with es:=es1,em:=em1})]⟩] (cR 1870 [.ref (Zd (A.a 0) 1971),.int 273678451 (Zd tw 5571)]) 7 (aj w b c A s) (rV (.ref (Zd n 1982))) 19 (aj w b c A {s with es:=es1,em:=em1}++[(18,tO [.int 5 5115,.none,.ref (Zd n 1979)]),(15,iO 121 (Zd n 1978)),(14,dO [ae w b c bW (Zd t 5636) (.str mj 1933),ae w b c dw (Zd t 5638) (.int 0 466),ae w b c dY (Zd t 5640) (.int 0 467),ae w b c eW (Zd t 5642) (.int 0 468),ae w b c cP (Zd t 5644) (.int 0 469),ae w b c dp (Zd t 5646) (.int 0 470)] 6)]) 88:=hD (hm (uu++[1001,8])) rfl rfl fun bl p=>by kernel_rfl
theorem vw:jM w b c A gh L 40 [(7,Zd n 1971)] [(0,Zd t 5571)] [⟨cB "dict.__setitem__" [rA A 6,.int 15 (Zd tw 5571),.ref (Zd n 1982)],19,80,[(6,d6 (PP w b c) A s)],rV .none,19,81,[(6,d6 (PP w b c) A {s with es:=es1,em:=em1})]⟩] (cR 1870 [.ref (Zd (A.a 0) 1971),.int 15 (Zd tw 5571)]) 7 (aj w b c A s) (rV (.ref (Zd n 1982))) 19 (aj w b c A {s with es:=es1,em:=em1}++[(18,tO [.int 5 5115,.none,.ref (Zd n 1979)]),(15,iO 121 (Zd n 1978)),(14,dO [ae w b c bW (Zd t 5629) (.str iw 1693),ae w b c dw (Zd t 5631) (.int 0 (Zd t 5595)),ae w b c dY (Zd t 5633) (.int 0 (Zd t 5599)),ae w b c eW (Zd t 5635) (.int 0 (Zd t 5620)),ae w b c cP (Zd t 5637) (.int 0 (Zd t 5609)),ae w b c dp (Zd t 5639) (.int 0 470)] 6)]) 81:=hD (hm (wc++[7,7,1001,8])) rfl rfl fun bl p=>by kernel_rfl
theorem oR:jM w b c A gh L 40 [(7,Zd n 1971)] [(0,Zd t 5571)] [⟨cB "dict.__setitem__" [rA A 6,.int 301990003 (Zd tw 5571),.ref (Zd n 1982)],19,95,[(6,d6 (PP w b c) A s)],rV .none,19,96,[(6,d6 (PP w b c) A {s with es:=es1,em:=em1})]⟩] (cR 1870 [.ref (Zd (A.a 0) 1971),.int 301990003 (Zd tw 5571)]) 7 (aj w b c A s) (rV (.ref (Zd n 1982))) 19 (aj w b c A {s with es:=es1,em:=em1}++[(18,tO [.int 5 5115,.none,.ref (Zd n 1979)]),(15,iO 121 (Zd n 1978)),(14,dO [ae w b c bW (Zd t 5644) (.str f9 1907),ae w b c dw (Zd t 5646) (.int 0 (Zd t 5635)),ae w b c dY (Zd t 5648) (.int 0 (Zd t 5611)),ae w b c eW (Zd t 5650) (.int 0 (Zd t 5615)),ae w b c cP (Zd t 5652) (.int 0 469),ae w b c dp (Zd t 5654) (.int 0 470)] 6)]) 96:=hD (hm ([10008009,10,10,0,1004010,5000010,10,5000010,10,1028000,10,1009000,10,10,10,0,2000010,0,0,10]++mL++[0,1013009,0,9,0,2000009,9,1028000,16,0,16]++uo++[8,7,7,7,1001,8])) rfl rfl fun bl p=>by kernel_rfl
theorem rS:jM w b c A gh L 40 [(7,Zd n 1971)] [(0,Zd t 5571)] [⟨cB "dict.__setitem__" [rA A 6,.int 4111 (Zd tw 5571),.ref (Zd n 1982)],19,80,[(6,d6 (PP w b c) A s)],rV .none,19,81,[(6,d6 (PP w b c) A {s with es:=es1,em:=em1})]⟩] (cR 1870 [.ref (Zd (A.a 0) 1971),.int 4111 (Zd tw 5571)]) 7 (aj w b c A s) (rV (.ref (Zd n 1982))) 19 (aj w b c A {s with es:=es1,em:=em1}++[(18,tO [.int 5 5115,.none,.ref (Zd n 1979)]),(15,iO 121 (Zd n 1978)),(14,dO [ae w b c bW (Zd t 5629) (.str mb 1694),ae w b c dw (Zd t 5631) (.int 0 (Zd t 5595)),ae w b c dY (Zd t 5633) (.int 0 (Zd t 5599)),ae w b c eW (Zd t 5635) (.int 0 (Zd t 5620)),ae w b c cP (Zd t 5637) (.int 0 (Zd t 5609)),ae w b c dp (Zd t 5639) (.int 0 470)] 6)]) 81:=hD (hm (wc++[7,7,1001,8])) rfl rfl fun bl p=>by kernel_rfl
theorem y6:jM w b c A gh L 40 [(7,Zd n 1971)] [(0,Zd t 5571)] [⟨cB "dict.__setitem__" [rA A 6,.int 270532723 (Zd tw 5571),.ref (Zd n 1982)],19,87,[(6,d6 (PP w b c) A s)],rV .none,19,88,[(6,d6 (PP w b c) A {s with es:=es1,em:=em1})]⟩] (cR 1870 [.ref (Zd (A.a 0) 1971),.int 270532723 (Zd tw 5571)]) 7 (aj w b c A s) (rV (.ref (Zd n 1982))) 19 (aj w b c A {s with es:=es1,em:=em1}++[(18,tO [.int 5 5115,.none,.ref (Zd n 1979)]),(15,iO 121 (Zd n 1978)),(14,dO [ae w b c bW (Zd t 5636) (.str jJ 1931),ae w b c dw (Zd t 5638) (.int 0 466),ae w b c dY (Zd t 5640) (.int 0 467),ae w b c eW (Zd t 5642) (.int 0 468),ae w b c cP (Zd t 5644) (.int 0 469),ae w b c dp (Zd t 5646) (.int 0 470)] 6)]) 88:=hD (hm (uu++[1001,8])) rfl rfl fun bl p=>by kernel_rfl
end
section
variable(w:Z8)(b c:Bool)(A:AS)(s:BS)(gh:gHs)(n t L:Nat)(wd:Int)(tw em1:Nat)(es1:Array Z7)
def B9(x0 x1:Nat):Call:=⟨cB "dict.__setitem__" [rA A 6,.int wd (Zd tw 5571),.ref (Zd n 1982)],19,x0,[(6,d6 (PP w b c) A s)],rV .none,19,x1,[(6,d6 (PP w b c) A {s with es:=es1,em:=em1})]⟩
include w b c A s gh n t L wd tw em1 es1
theorem BK:bk w b c A gh L 40 [(7,Zd n 1971)] [(0,Zd t 5571)] [cS (cB "int.__and__" [.int wd (Zd tw 5571),.int 127 (Zd t 5578)]) 10 8 [] (rV (.int 51 (Zd t 5579))) 10 9,cS (cB "int.__and__" [.int wd (Zd tw 5571),.int 28799 (Zd t 5583)]) 10 13 [] (rV (.int 51 (Zd t 5584))) 10 14,cS (cB "int.__and__" [.int wd (Zd tw 5571),.int 4261441663 (Zd t 5588)]) 10 18 [] (rV (.int 51 (Zd t 5589))) 10 19,B9 w b c A s n wd tw em1 es1 78 79] [(bne (aw wd 32) 0,false),(decide (Xm wd 0),false)] (cR 1870 [.ref (Zd (A.a 0) 1971),.int wd (Zd tw 5571)]) 7 (aj w b c A s) (rV (.ref (Zd n 1982))) 19 (aj w b c A {s with es:=es1,em:=em1}++[(18,tO [.int 1 5107,.ref 1121,.ref (Zd n 1979)]),(15,iO 121 (Zd n 1978)),(14,dO [ae w b c bW (Zd t 5630) (.str gx 1269),ae w b c dw (Zd t 5632) (.int (Za (aw wd 7) 31) (Zd t 5603)),ae w b c dY (Zd t 5634) (.int (Za (aw wd 15) 31) (Zd t 5607)),ae w b c eW (Zd t 5636) (.int (Za (aw wd 20) 31) (Zd t 5611)),ae w b c cP (Zd t 5638) (.int 0 469),ae w b c dp (Zd t 5640) (.int 0 470)] 6)]) 79:=ap (hm ([0,0,8,8,8,8,0,0,0,8,7009000,2,9,0,2,0,9,7010000,3001,10,10,10,6000010,3002,10,10,10,6000010,3003,10,10,10,1028000,10,1009000,10,10,10,0,2000010]++mL++[0,9,9009000,0,2000009,9,9,1028000,16,0,16]++ut++[1005000,18,1010000,18,1008000,18,8,8,8,8,2001002,8,7,7,7,1004,8])) rfl rfl fun bl p=>by kernel_rfl
theorem y0:bk w b c A gh L 40 [(7,Zd n 1971)] [(0,Zd t 5571)] [cS (cB "int.__and__" [.int wd (Zd tw 5571),.int 127 (Zd t 5578)]) 10 8 [] (rV (.int 19 (Zd t 5579))) 10 9,cS (cB "int.__and__" [.int wd (Zd tw 5571),.int 28799 (Zd t 5583)]) 10 13 [] (rV (.int 19 (Zd t 5584))) 10 14,B9 w b c A s n wd tw em1 es1 72 73] [(bne (Za (aw wd 20) 2048) 0,false),(bne (aw wd 32) 0,false),(decide (Xm wd 0),false)] (cR 1870 [.ref (Zd (A.a 0) 1971),.int wd (Zd tw 5571)]) 7 (aj w b c A s) (rV (.ref (Zd n 1982))) 19 (aj w b c A {s with es:=es1,em:=em1}++[(18,tO [.int 0 5105,.ref 1121,.ref (Zd n 1979)]),(15,iO 121 (Zd n 1978)),(14,dO [ae w b c bW (Zd t 5624) (.str l9 1000),ae w b c dw (Zd t 5626) (.int (Za (aw wd 7) 31) (Zd t 5595)),ae w b c dY (Zd t 5628) (.int (Za (aw wd 15) 31) (Zd t 5599)),ae w b c eW (Zd t 5630) (.int 0 (Zd t 5613)),ae w b c cP (Zd t 5632) (.int (aw wd 20) (Zd t 5609)),ae w b c dp (Zd t 5634) (.int 0 470)] 6)]) 73:=ap (hm ([0,0,8,8,8,8,0,0,0,8,7009000,2,9,0,2,0,9,7010000,3001,10,10,10,6000010,3002,10,10,10,1028000,10,1009000]++mL++[0,9009000,1012000,9009002,1028000,16,0,16]++ut++[2000018,1016000,18,8,8,8,8,2001002,8,7,7,7,1003,8])) rfl rfl fun bl p=>by kernel_rfl
end
section
variable(w:Z8)(b c:Bool)(A:AS)(s:BS)(gh:gHs)(n t L:Nat)(k u:Nat→Nat)(tn:Nat)
def kH:Xo:=(cR 1072 [.ref (Zd (A.a 0) 1971)])
def Ca:List (Nat×Obj):=[(0,iO 121 (Zd (A.a 1) 1971)),(1,iD (PP w b c) ⟨k,fun i=>cond (Ze i 0) (Zd tn 5571) (u i),kU,0,0,0,0,0⟩)]
def Cb:List (Nat×Obj):=[(0,iO 121 (Zd (A.a 1) 1971)),(1,iD (PP w b c) ⟨k,fun i=>cond (Ze i 0) (Zd tn 5571) (u i),mj,0,0,0,0,0⟩)]
def Cc:List (Nat×Obj):=[(0,iO 121 (Zd (A.a 1) 1971)),(1,iD (PP w b c) ⟨k,fun i=>cond (Ze i 0) (Zd tn 5571) (u i),iw,0,0,0,0,0⟩)]
def Cd:List (Nat×Obj):=[(0,iO 121 (Zd (A.a 1) 1971)),(1,iD (PP w b c) ⟨k,fun i=>cond (Ze i 0) (Zd tn 5571) (u i),f9,0,0,0,0,0⟩)]
def Ce:List (Nat×Obj):=[(0,iO 121 (Zd (A.a 1) 1971)),(1,iD (PP w b c) ⟨k,fun i=>cond (Ze i 0) (Zd tn 5571) (u i),mb,0,0,0,0,0⟩)]
def Cf:List (Nat×Obj):=[(0,iO 121 (Zd (A.a 1) 1971)),(1,iD (PP w b c) ⟨k,fun i=>cond (Ze i 0) (Zd tn 5571) (u i),jJ,0,0,0,0,0⟩)]
include w b c A s gh n t L k u tn
theorem vq:fN w b c A gh L 40 [(2,Zd n 1971)] [(0,Zd t 5571)] [(aG 0 20,false),(aG 0 15,false),(aG 0 7,false)] (kH A) 2 (Ca w b c A k u tn) (rV (.int (Zb (Zb (Zb 807403635 (aO 0 7)) (aO 0 15)) (aO 0 20)) (Zd t 5644))) 36 (Ca w b c A k u tn) 84:=de (hm ([0,0]++us)) rfl rfl fun bl p=>by kernel_rfl
theorem yI:fN w b c A gh L 40 [(2,Zd n 1971)] [(0,Zd t 5571)] [(aG 0 20,false),(aG 0 15,false),(aG 0 7,false)] (kH A) 2 (Cb w b c A k u tn) (rV (.int (Zb (Zb (Zb 273678451 (aO 0 7)) (aO 0 15)) (aO 0 20)) (Zd t 5644))) 36 (Cb w b c A k u tn) 84:=de (hm ([0,0]++us)) rfl rfl fun bl p=>by kernel_rfl
theorem ug:fN w b c A gh L 40 [(2,Zd n 1971)] [(0,Zd t 5571)] [(aG (Za 0 4095) 20,false),(aG 0 20,false),(aG 0 15,false),(aG 0 7,false)] (kH A) 2 (Cc w b c A k u tn) (rV (.int (Zb (Zb (Zb (Zb 15 (aO 0 7)) (aO 0 15)) (aO 0 20)) (aO (Za 0 4095) 20)) (Zd t 5665))) 39 (Cc w b c A k u tn) 95:=de (hm (Bx++[3,2])) rfl rfl fun bl p=>by kernel_rfl
theorem oD:fN w b c A gh L 40 [(2,Zd n 1971)] [(0,Zd t 5571)] [(aG 0 20,false),(aG 0 15,false),(aG 0 7,false)] (kH A) 2 (Cd w b c A k u tn) (rV (.int (Zb (Zb (Zb 301990003 (aO 0 7)) (aO 0 15)) (aO 0 20)) (Zd t 5650))) 36 (Cd w b c A k u tn) 90:=de (hm ([0,0,3,3,0]++pz++[0]++we++[9,0,9,0]++ur++[2,3,2001002,2,3,3,3,36,36,36,1000,36,0,1007003])) rfl rfl fun bl p=>by kernel_rfl
theorem qB:fN w b c A gh L 40 [(2,Zd n 1971)] [(0,Zd t 5571)] [(aG (Za 0 4095) 20,false),(aG 0 20,false),(aG 0 15,false),(aG 0 7,false)] (kH A) 2 (Ce w b c A k u tn) (rV (.int (Zb (Zb (Zb (Zb 4111 (aO 0 7)) (aO 0 15)) (aO 0 20)) (aO (Za 0 4095) 20)) (Zd t 5665))) 39 (Ce w b c A k u tn) 95:=de (hm (Bx++[3,2])) rfl rfl fun bl p=>by kernel_rfl
theorem vt:fN w b c A gh L 40 [(2,Zd n 1971)] [(0,Zd t 5571)] [(aG 0 20,false),(aG 0 15,false),(aG 0 7,false)] (kH A) 2 (Cf w b c A k u tn) (rV (.int (Zb (Zb (Zb 270532723 (aO 0 7)) (aO 0 15)) (aO 0 20)) (Zd t 5644))) 36 (Cf w b c A k u tn) 84:=de (hm ([0,0]++us)) rfl rfl fun bl p=>by kernel_rfl
end
section
variable(w:Z8)(b c:Bool)(A:AS)(s:BS)(gh:gHs)(n t L:Nat)(k u:Nat→Nat)(tn:Nat)(rd r1 r2:Int)
def Cg:List (Nat×Obj):=[(0,iO 121 (Zd (A.a 1) 1971)),(1,iD (PP w b c) ⟨k,fun i=>cond (Ze i 0) (Zd tn 5571) (u i),gx,rd,r1,r2,0,0⟩)]
include w b c A s gh n t L k u tn rd r1 r2
theorem yH:fN w b c A gh L 40 [(2,Zd n 1971)] [(0,Zd t 5571)] [(aG r2 20,false),(aG r1 15,false),(aG rd 7,false),(decide (Xm r2 32),true),(decide (Xn 0 r2),true),(decide (Xm r1 32),true),(decide (Xn 0 r1),true),(decide (Xm rd 32),true),(decide (Xn 0 rd),true)] (cR 1072 [.ref (Zd (A.a 0) 1971)]) 2 (Cg w b c A k u tn rd r1 r2) (rV (.int (Zb (Zb (Zb 51 (aO rd 7)) (aO r1 15)) (aO r2 20)) (Zd t 5653))) 36 (Cg w b c A k u tn rd r1 r2) 93:=de (hm ([0,0]++Bz++[9,1,9,1]++ur++[2,3,2001002,2,3,3,3,36,36,36,1000,36,0,1007003])) rfl rfl fun bl p=>by kernel_rfl
end
section
variable(w:Z8)(b c:Bool)(A:AS)(s:BS)(gh:gHs)(n t L:Nat)(k u:Nat→Nat)(tn:Nat)(rd r1 im:Int)
def Ch:List (Nat×Obj):=[(0,iO 121 (Zd (A.a 1) 1971)),(1,iD (PP w b c) ⟨k,fun i=>cond (Ze i 0) (Zd tn 5571) (u i),l9,rd,r1,0,im,0⟩)]
include w b c A s gh n t L k u tn rd r1 im
theorem vo:fN w b c A gh L 40 [(2,Zd n 1971)] [(0,Zd t 5571)] [(aG (Za im 4095) 20,false),(aG 0 20,false),(aG r1 15,false),(aG rd 7,false),(bne (af im 1) 0,false),(decide (Xn im 2047),true),(decide (Xn (-2048) im),true),(decide (Xm r1 32),true),(decide (Xn 0 r1),true),(decide (Xm rd 32),true),(decide (Xn 0 rd),true)] (cR 1072 [.ref (Zd (A.a 0) 1971)]) 2 (Ch w b c A k u tn rd r1 im) (rV (.int (Zb (Zb (Zb (Zb 19 (aO rd 7)) (aO r1 15)) (aO 0 20)) (aO (Za im 4095) 20)) (Zd t 5665))) 39 (Ch w b c A k u tn rd r1 im) 95:=de (hm ([0,0]++Bz++[0,1004012,10,10,1020012,3025026,28,9,9,9,9,8009000,0,9,0,2000029,29,9029000,4029000,31,1008009,1,9,1,9,9,0,2]++By++[0,3,3,2])) rfl rfl fun bl p=>by kernel_rfl
end
noncomputable def gW(lo rd r1 hi:Nat):Nat:=lo+rd*128+r1*32768+hi*1048576
theorem Ew{lo rd r1 hi:Nat}(hl:lo<128)(hr:rd<32)(hb:r1<32):gW lo rd r1 hi &&& 127=lo∧gW lo rd r1 hi &&& 28799=lo∧gW lo rd r1 hi/128%32=rd∧gW lo rd r1 hi/32768%32=r1∧gW lo rd r1 hi/1048576=hi:=by
  have h1:=g7 (gW lo rd r1 hi) 7
  rw[mv,show (127:Nat)=2^7-1 from rfl,h1]
  unfold gW
  refine⟨by omega,by omega,by omega,by omega,by omega⟩
theorem Pg{lo rd r1 hi:Nat}(hl:lo<128)(hr:rd<32)(hb:r1<32)(hh:hi<32):gW lo rd r1 hi &&& 4261441663=lo:=by
  have h:=q7 25 (gW lo rd r1 hi/33554432) (gW lo rd r1 hi%33554432) 127 28799 (Zg _ (by decide)) (by decide)
  have e1:2^25*(gW lo rd r1 hi/33554432)+gW lo rd r1 hi%33554432=gW lo rd r1 hi:=by omega
  have h7:=g7 (gW lo rd r1 hi/33554432) 7
  rw[e1]at h
  show gW lo rd r1 hi &&& (2^25*127+28799)=_
  rw[h,show (127:Nat)=2^7-1 from rfl,h7,mv]
  unfold gW
  omega
theorem Bs{lo rd r1 hi:Nat}(hl:lo<128)(hr:rd<32)(hb:r1<32):
    Za (Zo (gW lo rd r1 hi)) 127=Zo lo∧Za (Zo (gW lo rd r1 hi)) 28799=Zo lo∧Za (aw (Zo (gW lo rd r1 hi)) 7) 31=Zo rd∧
    Za (aw (Zo (gW lo rd r1 hi)) 15) 31=Zo r1∧aw (Zo (gW lo rd r1 hi)) 20=Zo hi:=by
  obtain⟨h1,h2,h3,h4,h5⟩:=Ew (hi:=hi) hl hr hb
  refine⟨fg h1,fg h2,?_,?_,?_⟩
  · have:=fL (gW lo rd r1 hi) 7
    rw[show aw (Zo (gW lo rd r1 hi)) 7=Zo (gW lo rd r1 hi/2^7) from this]
    exact fg (by rw[o6];exact h3)
  · have:=fL (gW lo rd r1 hi) 15
    rw[show aw (Zo (gW lo rd r1 hi)) 15=Zo (gW lo rd r1 hi/2^15) from this]
    exact fg (by rw[o6];exact h4)
  · have:=fL (gW lo rd r1 hi) 20
    rw[show aw (Zo (gW lo rd r1 hi)) 20=Zo (gW lo rd r1 hi/2^20) from this]
    exact congrArg Zo h5
theorem GK{lo rd r1 hi:Nat}(h:gW lo rd r1 hi<2^32):(bne (aw (Zo (gW lo rd r1 hi)) 32) 0)=false∧(decide (Xm (Zo (gW lo rd r1 hi)) 0))=false:=by
  have:=fL (gW lo rd r1 hi) 32
  rw[show aw (Zo (gW lo rd r1 hi)) 32=Zo (gW lo rd r1 hi/2^32) from this,Nat.div_eq_of_lt h]
  exact⟨rfl,by simp⟩
theorem GO{lo rd r1 hi:Nat}(hl:lo<128)(hr:rd<32)(hb:r1<32):((lo ||| rd*2^7) ||| r1*2^15) ||| hi*2^20=gW lo rd r1 hi:=by
  rw[nY 7 rd lo (by omega),nY 15 r1 _ (by omega),nY 20 hi _ (by omega)];rfl
theorem Ph{lo rd r1 hi:Nat}(hl:lo<128)(hr:rd<32)(hb:r1<32):
    Zb (Zb (Zb (Zo lo) (aO (Zo rd) 7)) (aO (Zo r1) 15)) (aO (Zo hi) 20)=Zo (gW lo rd r1 hi):=by
  rw[←GO hl hr hb]
  have e1:=du rd 7
  have e2:=du r1 15
  have e4:=du hi 20
  rw[show aO (Zo rd) 7=((rd*2^7:Nat):Int) from e1,show aO (Zo r1) 15=((r1*2^15:Nat):Int) from e2,show aO (Zo hi) 20=((hi*2^20:Nat):Int) from e4]
  rw[show Zo lo=((lo:Nat):Int) from rfl,b9,b9,b9];rfl
theorem or_zero(x:Nat):Zb (Zo x) (aO 0 20)=Zo x:=by
  have e3:aO 0 20=((0:Nat):Int):=by decide
  rw[e3,show Zo x=((x:Nat):Int) from rfl,b9,Nat.or_zero]
theorem Pi{lo rd r1 hi:Nat}(hl:lo<128)(hr:rd<32)(hb:r1<32)(hh:hi<2048):
    Zb (Zb (Zb (Zb (Zo lo) (aO (Zo rd) 7)) (aO (Zo r1) 15)) (aO 0 20)) (aO (Za (Zo hi) 4095) 20)=Zo (gW lo rd r1 hi):=by
  rw[←GO hl hr hb]
  have e0:Za (Zo hi) 4095=Zo hi:=fg (by have:=g7 hi 12;rw[Nat.mod_eq_of_lt (by omega)]at this;exact this)
  have e1:=du rd 7
  have e2:=du r1 15
  have e4:=du hi 20
  rw[e0,show aO (Zo rd) 7=((rd*2^7:Nat):Int) from e1,show aO (Zo r1) 15=((r1*2^15:Nat):Int) from e2,show aO (Zo hi) 20=((hi*2^20:Nat):Int) from e4]
  rw[show Zo lo=((lo:Nat):Int) from rfl,b9,b9,show (((lo ||| rd*2^7) ||| r1*2^15:Nat):Int)=Zo ((lo ||| rd*2^7) ||| r1*2^15) from rfl,or_zero,show Zo ((lo ||| rd*2^7) ||| r1*2^15)=(((lo ||| rd*2^7) ||| r1*2^15:Nat):Int) from rfl,b9];rfl
theorem wT{x k:Nat}(h:x<4096)(hk:k≤1000:=by decide):aG (Zo x) (Zo k)=false:=fE x k (Zh h (by decide)) hk
theorem wn{x m:Nat}(h:x<m):(decide (Xm (Zo x) (Zo m)))=true:=decide_eq_true (by simp only[Int.ofNat_eq_natCast];omega)
theorem BJ{x:Nat}:(decide (Xn 0 (Zo x)))=true:=decide_eq_true (by simp only[Int.ofNat_eq_natCast];omega)
inductive EncIX (w:Z8) (b c:Bool) (I:Ins) (k u:Nat→Nat) (tn a d:Nat) (gh:gHs) (n t:Nat):Prop where
  |mk (tc n' t':Nat) (h0_:Tri (MM w b c) (cn (PP w b c)) 1971 40 (.call (.ref 1072) ⟨[.ref (ad a)],[]⟩) gh [(ad a,iO 121 (ad d)),(ad d,iD (PP w b c) (I.is k (fun i=>cond (Ze i 0) (Zd tn 5571) (u i))))] (Zd n 1971) (Zd t 5571) (.ok (.ret (.int (Zo I.w) (Zd tc 5571)))) gh
   [(ad a,iO 121 (ad d)),(ad d,iD (PP w b c) (I.is k (fun i=>cond (Ze i 0) (Zd tn 5571) (u i))))] (Zd n' 1971) (Zd t' 5571)):EncIX w b c I k u tn a d gh n t
def jI(w:Z8)(b c:Bool)(I:Ins):Prop:=∀(k u:Nat→Nat) (tn a d:Nat) (gh:gHs) (n t:Nat),EncIX w b c I k u tn a d gh n t
section
variable(w:Z8)(b c:Bool)(A:AS)
include w b c
include A
theorem EF:fS w b c A (.nm 0):=by
  intro s gh n t tw hk hz hi
  have key:=y5 w b c A s gh n t 0 tw (Zd s.em 1) (s.es.push ⟨Zo 807403635,.int (Zo 807403635) (Zd tw 5571),.ref (ad (n+11))⟩)
    (fk (kA (b6 (gh:=gh) (n:=Zd n (1971+12)) (t:=Zd t (5571+87)) ac (d:=ad (A.a 6)) (o:=d6 (PP w b c) A s) (l:=s.es.toList) (ep:=s.em) (k:=Zo 807403635) (u:=Zd tw 5571) (v:=.ref (Zd n 1982)) rfl rfl hk hz (bo _ (by decide)) hi))<|aa)
  exact⟨n+11,n+8,n+7,cJ (Zd t 5636) (Zd t 5638) (Zd t 5640) (Zd t 5642) (Zd t 5644) (Zd t 5646),cJ 1935 466 467 468 469 470,n+12,t+88,by omega,by omega,by omega,⟨by omega,by omega,by omega⟩,kF key⟩
theorem KO:fS w b c A (.nm 1):=by
  intro s gh n t tw hk hz hi
  have key:=BL w b c A s gh n t 0 tw (Zd s.em 1) (s.es.push ⟨Zo 273678451,.int (Zo 273678451) (Zd tw 5571),.ref (ad (n+11))⟩)
    (fk (kA (b6 (gh:=gh) (n:=Zd n (1971+12)) (t:=Zd t (5571+87)) ac (d:=ad (A.a 6)) (o:=d6 (PP w b c) A s) (l:=s.es.toList) (ep:=s.em) (k:=Zo 273678451) (u:=Zd tw 5571) (v:=.ref (Zd n 1982)) rfl rfl hk hz (bo _ (by decide)) hi))<|aa)
  exact⟨n+11,n+8,n+7,cJ (Zd t 5636) (Zd t 5638) (Zd t 5640) (Zd t 5642) (Zd t 5644) (Zd t 5646),cJ 1933 466 467 468 469 470,n+12,t+88,by omega,by omega,by omega,⟨by omega,by omega,by omega⟩,kF key⟩
theorem BO:fS w b c A (.nm 2):=by
  intro s gh n t tw hk hz hi
  have key:=vw w b c A s gh n t 0 tw (Zd s.em 1) (s.es.push ⟨Zo 15,.int (Zo 15) (Zd tw 5571),.ref (ad (n+11))⟩)
    (fk (kA (b6 (gh:=gh) (n:=Zd n (1971+12)) (t:=Zd t (5571+80)) ac (d:=ad (A.a 6)) (o:=d6 (PP w b c) A s) (l:=s.es.toList) (ep:=s.em) (k:=Zo 15) (u:=Zd tw 5571) (v:=.ref (Zd n 1982)) rfl rfl hk hz (bo _ (by decide)) hi))<|aa)
  exact⟨n+11,n+8,n+7,cJ (Zd t 5629) (Zd t 5631) (Zd t 5633) (Zd t 5635) (Zd t 5637) (Zd t 5639),cJ 1693 (Zd t 5595) (Zd t 5599) (Zd t 5620) (Zd t 5609) 470,n+12,t+81,by omega,by omega,by omega,⟨by omega,by omega,by omega⟩,kF key⟩
theorem qE:fS w b c A (.nm 3):=by
  intro s gh n t tw hk hz hi
  have key:=oR w b c A s gh n t 0 tw (Zd s.em 1) (s.es.push ⟨Zo 301990003,.int (Zo 301990003) (Zd tw 5571),.ref (ad (n+11))⟩)
    (fk (kA (b6 (gh:=gh) (n:=Zd n (1971+12)) (t:=Zd t (5571+95)) ac (d:=ad (A.a 6)) (o:=d6 (PP w b c) A s) (l:=s.es.toList) (ep:=s.em) (k:=Zo 301990003) (u:=Zd tw 5571) (v:=.ref (Zd n 1982)) rfl rfl hk hz (bo _ (by decide)) hi))<|aa)
  exact⟨n+11,n+8,n+7,cJ (Zd t 5644) (Zd t 5646) (Zd t 5648) (Zd t 5650) (Zd t 5652) (Zd t 5654),cJ 1907 (Zd t 5635) (Zd t 5611) (Zd t 5615) 469 470,n+12,t+96,by omega,by omega,by omega,⟨by omega,by omega,by omega⟩,kF key⟩
theorem vx:fS w b c A (.nm 4):=by
  intro s gh n t tw hk hz hi
  have key:=rS w b c A s gh n t 0 tw (Zd s.em 1) (s.es.push ⟨Zo 4111,.int (Zo 4111) (Zd tw 5571),.ref (ad (n+11))⟩)
    (fk (kA (b6 (gh:=gh) (n:=Zd n (1971+12)) (t:=Zd t (5571+80)) ac (d:=ad (A.a 6)) (o:=d6 (PP w b c) A s) (l:=s.es.toList) (ep:=s.em) (k:=Zo 4111) (u:=Zd tw 5571) (v:=.ref (Zd n 1982)) rfl rfl hk hz (bo _ (by decide)) hi))<|aa)
  exact⟨n+11,n+8,n+7,cJ (Zd t 5629) (Zd t 5631) (Zd t 5633) (Zd t 5635) (Zd t 5637) (Zd t 5639),cJ 1694 (Zd t 5595) (Zd t 5599) (Zd t 5620) (Zd t 5609) 470,n+12,t+81,by omega,by omega,by omega,⟨by omega,by omega,by omega⟩,kF key⟩
theorem EG:fS w b c A (.nm 5):=by
  intro s gh n t tw hk hz hi
  have key:=y6 w b c A s gh n t 0 tw (Zd s.em 1) (s.es.push ⟨Zo 270532723,.int (Zo 270532723) (Zd tw 5571),.ref (ad (n+11))⟩)
    (fk (kA (b6 (gh:=gh) (n:=Zd n (1971+12)) (t:=Zd t (5571+87)) ac (d:=ad (A.a 6)) (o:=d6 (PP w b c) A s) (l:=s.es.toList) (ep:=s.em) (k:=Zo 270532723) (u:=Zd tw 5571) (v:=.ref (Zd n 1982)) rfl rfl hk hz (bo _ (by decide)) hi))<|aa)
  exact⟨n+11,n+8,n+7,cJ (Zd t 5636) (Zd t 5638) (Zd t 5640) (Zd t 5642) (Zd t 5644) (Zd t 5646),cJ 1931 466 467 468 469 470,n+12,t+88,by omega,by omega,by omega,⟨by omega,by omega,by omega⟩,kF key⟩
theorem KN{rd r1 r2:Nat}(hr:rd<32)(hb:r1<32)(hh:r2<32):fS w b c A (.ad rd r1 r2):=by
  intro s gh n t tw hk hz hi
  obtain⟨v1,v2,v3,v4,v5⟩:=Bs (lo:=51) (hi:=r2) (by decide) hr hb
  have hs:gW 51 rd r1 r2<2^32:=by unfold gW;omega
  obtain⟨c1,c2⟩:=GK hs
  have v6:Za (Zo (gW 51 rd r1 r2)) 4261441663=51:=fg (Pg (by decide) hr hb hh)
  have v7:Za (aw (Zo (gW 51 rd r1 r2)) 20) 31=Zo r2:=by rw[v5];exact fg (by rw[o6,Nat.mod_eq_of_lt hh])
  have key:=BK w b c A s gh n t 0 (Zo (gW 51 rd r1 r2)) tw (Zd s.em 1) (s.es.push ⟨Zo (gW 51 rd r1 r2),.int (Zo (gW 51 rd r1 r2)) (Zd tw 5571),.ref (ad (n+11))⟩)
    (fk (dM v1)<|fk (dM v2)<|fk (dM v6)<|fk (kA (b6 (gh:=gh) (n:=Zd n (1971+12)) (t:=Zd t (5571+78)) ac (d:=ad (A.a 6)) (o:=d6 (PP w b c) A s) (l:=s.es.toList) (ep:=s.em) (k:=Zo (gW 51 rd r1 r2)) (u:=Zd tw 5571) (v:=.ref (Zd n 1982)) rfl rfl hk hz (bo _ (by omega)) hi))<|aa) (fc c1 (fc c2 aa))
  rw[v3,v4,v7]at key
  exact⟨n+11,n+8,n+7,cJ (Zd t 5630) (Zd t 5632) (Zd t 5634) (Zd t 5636) (Zd t 5638) (Zd t 5640),cJ 1269 (Zd t 5603) (Zd t 5607) (Zd t 5611) 469 470,n+12,t+79,by omega,by omega,by omega,⟨by omega,by omega,by omega⟩,kF key⟩
theorem EE{rd r1 im:Nat}(hr:rd<32)(hb:r1<32)(hh:im<2^11):fS w b c A (.ai rd r1 im):=by
  intro s gh n t tw hk hz hi
  obtain⟨v1,v2,v3,v4,v5⟩:=Bs (lo:=19) (hi:=im) (by decide) hr hb
  have hs:gW 19 rd r1 im<2^32:=by unfold gW;omega
  obtain⟨c1,c2⟩:=GK hs
  have v0:im &&& 2048=0:=by
    apply Nat.eq_of_testBit_eq
    intro i
    rw[Nat.testBit_and,show (2048:Nat)=2^11 from rfl,Nat.testBit_two_pow,Nat.zero_testBit]
    by_cases h:11=i
    · subst h;rw[Nat.testBit_lt_two_pow hh];rfl
    · simp[h]
  have v6:Za (Zo im) 2048=0:=fg v0
  have key:=y0 w b c A s gh n t 0 (Zo (gW 19 rd r1 im)) tw (Zd s.em 1) (s.es.push ⟨Zo (gW 19 rd r1 im),.int (Zo (gW 19 rd r1 im)) (Zd tw 5571),.ref (ad (n+11))⟩)
    (fk (dM v1)<|fk (dM v2)<|fk (kA (b6 (gh:=gh) (n:=Zd n (1971+12)) (t:=Zd t (5571+72)) ac (d:=ad (A.a 6)) (o:=d6 (PP w b c) A s) (l:=s.es.toList) (ep:=s.em) (k:=Zo (gW 19 rd r1 im)) (u:=Zd tw 5571) (v:=.ref (Zd n 1982)) rfl rfl hk hz (bo _ (by omega)) hi))<|aa) (fc (by rw[v5,v6];rfl) (fc c1 (fc c2 aa)))
  rw[v3,v4,v5]at key
  exact⟨n+11,n+8,n+7,cJ (Zd t 5624) (Zd t 5626) (Zd t 5628) (Zd t 5630) (Zd t 5632) (Zd t 5634),cJ 1000 (Zd t 5595) (Zd t 5599) (Zd t 5613) (Zd t 5609) 470,n+12,t+73,by omega,by omega,by omega,⟨by omega,by omega,by omega⟩,kF key⟩
omit A
theorem Kv:jI w b c (.nm 0):=by
  intro k u tn a d gh n t
  have key:=vq w b c (a2 a d) ej gh n t 0 k u tn (bf)
  exact⟨t+73,n+34,t+84,TriC.cast key (by kernel_rfl) rfl rfl (by kernel_rfl) (nf n 1971 34) (nf t 5571 84) rfl rfl (gR (by decide +kernel) (et t 73 5644 rfl))⟩
theorem OT:jI w b c (.nm 1):=by
  intro k u tn a d gh n t
  have key:=yI w b c (a2 a d) ej gh n t 0 k u tn (bf)
  exact⟨t+73,n+34,t+84,TriC.cast key (by kernel_rfl) rfl rfl (by kernel_rfl) (nf n 1971 34) (nf t 5571 84) rfl rfl (gR (by decide +kernel) (et t 73 5644 rfl))⟩
theorem Ej:jI w b c (.nm 2):=by
  intro k u tn a d gh n t
  have key:=ug w b c (a2 a d) ej gh n t 0 k u tn (bf)
  exact⟨t+94,n+37,t+95,TriC.cast key (by kernel_rfl) rfl rfl (by kernel_rfl) (nf n 1971 37) (nf t 5571 95) rfl rfl (gR (by decide +kernel) (et t 94 5665 rfl))⟩
theorem rO:jI w b c (.nm 3):=by
  intro k u tn a d gh n t
  have key:=oD w b c (a2 a d) ej gh n t 0 k u tn (bf)
  exact⟨t+79,n+34,t+90,TriC.cast key (by kernel_rfl) rfl rfl (by kernel_rfl) (nf n 1971 34) (nf t 5571 90) rfl rfl (gR (by decide +kernel) (et t 79 5650 rfl))⟩
theorem yG:jI w b c (.nm 4):=by
  intro k u tn a d gh n t
  have key:=qB w b c (a2 a d) ej gh n t 0 k u tn (bf)
  exact⟨t+94,n+37,t+95,TriC.cast key (by kernel_rfl) rfl rfl (by kernel_rfl) (nf n 1971 37) (nf t 5571 95) rfl rfl (gR (by decide +kernel) (et t 94 5665 rfl))⟩
theorem Kw:jI w b c (.nm 5):=by
  intro k u tn a d gh n t
  have key:=vt w b c (a2 a d) ej gh n t 0 k u tn (bf)
  exact⟨t+73,n+34,t+84,TriC.cast key (by kernel_rfl) rfl rfl (by kernel_rfl) (nf n 1971 34) (nf t 5571 84) rfl rfl (gR (by decide +kernel) (et t 73 5644 rfl))⟩
theorem OR{rd r1 r2:Nat}(hr:rd<32)(hb:r1<32)(hh:r2<32):jI w b c (.ad rd r1 r2):=by
  intro k u tn a d gh n t
  have key:=yH w b c (a2 a d) ej gh n t 0 k u tn (Zo rd) (Zo r1) (Zo r2) (fc (wT (Zh hh (by decide))) (fc (wT (Zh hb (by decide))) (fc (wT (Zh hr (by decide))) (fc (wn hh) (fc BJ (fc (wn hb) (fc BJ (fc (wn hr) (fc BJ aa)))))))))
  exact⟨t+82,n+34,t+93,TriC.cast key (by kernel_rfl) rfl rfl (by kernel_rfl) (nf n 1971 34) (nf t 5571 93) rfl rfl (gR (Ph (lo:=51) (by decide) hr hb) (et t 82 5653 rfl))⟩
theorem Ku{rd r1 im:Nat}(hr:rd<32)(hb:r1<32)(hh:im<2048):jI w b c (.ai rd r1 im):=by
  intro k u tn a d gh n t
  have e0:Za (Zo im) 4095=Zo im:=fg (by have:=g7 im 12;rw[Nat.mod_eq_of_lt (by omega)]at this;exact this)
  have e1:(bne (af (Zo im) 1) 0)=false:=by
    have:=eh im 1
    rw[show af (Zo im) 1=((im%1:Nat):Int) from this,Nat.mod_one];rfl
  have key:=vo w b c (a2 a d) ej gh n t 0 k u tn (Zo rd) (Zo r1) (Zo im) (fc (by rw[e0];exact wT (Zh hh (by decide))) (fc stopL0.1 (fc (wT (Zh hb (by decide))) (fc (wT (Zh hr (by decide))) (fc e1 (fc (decide_eq_true (by simp only[Int.ofNat_eq_natCast];omega)) (fc (decide_eq_true (by simp only[Int.ofNat_eq_natCast];omega)) (fc (wn hb) (fc BJ (fc (wn hr) (fc BJ aa)))))))))))
  exact⟨t+94,n+37,t+95,TriC.cast key (by kernel_rfl) rfl rfl (by kernel_rfl) (nf n 1971 37) (nf t 5571 95) rfl rfl (gR (Pi (lo:=19) (by decide) hr hb hh) (et t 94 5665 rfl))⟩
include A
theorem gm{I:Ins}(h:I.ok):fS w b c A I:=by
  cases I with
  |csr j rd by_ at_=>exact fun s gh n t tw hk hz hi=>(fun H=>match H with|.mk a7 a8 a9 k u n' t' g1 g2 g3 g4 g5=>.mk a7 a8 a9 k u n' t' g1 g2 g3 g4 g5:LearnOkX w b c A j rd (da j by_) (dr j by_) at_ (aT j rd by_ at_) s gh n t (Zd tw 5571)→LearnIX w b c A (.csr j rd by_ at_) s gh n t tw) (mR w b c A h.2.1 h.2.2.1 h.2.2.2 j h.1 s gh n t (Zd tw 5571) hk hz hi)
  |nm k=>exact jB (P:=fun k=>fS w b c A (.nm k)) (EF w b c A) (KO w b c A) (BO w b c A) (qE w b c A) (vx w b c A) (EG w b c A) k h
  |ad rd r1 r2=>exact KN w b c A h.1 h.2.1 h.2.2
  |ai rd r1 im=>exact EE w b c A h.1 h.2.1 h.2.2
omit A
theorem j8{I:Ins}(h:I.ok):jI w b c I:=by
  cases I with
  |csr j rd by_ at_=>exact fun k u tn a d gh n t=>(fun H=>match H with|.mk tc n' t' g=>.mk tc n' t' g:EncOkX w b c j rd by_ at_ k u tn a d gh n t→EncIX w b c (.csr j rd by_ at_) k u tn a d gh n t) (Kx w b c h.2.1 h.2.2.1 h.2.2.2 j h.1 k u tn a d gh n t)
  |nm k=>exact jB (P:=fun k=>jI w b c (.nm k)) (Kv w b c) (OT w b c) (Ej w b c) (rO w b c) (yG w b c) (Kw w b c) k h
  |ad rd r1 r2=>exact OR w b c h.1 h.2.1 h.2.2
  |ai rd r1 im=>exact Ku w b c h.1 h.2.1 h.2.2
end
section
variable(n:Nat)(gE:gHs)(G:Nat→gHs)(w:Z8)(b c:Bool)(A:AS)(gh:gHs)(L N:Nat)(R K:List (Nat×Nat))(calls cb:List Call)(bls:List (List (Xo×Z4)))(lu:List Call)(es:List (Bool×Bool))(bl:List (Xo×Z4))(cd:Xo)(i:Nat)(pre:List (Nat×Obj))(r:Xc)(j:Nat)(post:List (Nat×Obj))(pos:(Nat→Z6)→List (Nat×Obj))(k:Nat)
abbrev k6:Prop:=Hu w b c A gh L R K lu→He es→∃PL:Nat→Z6,TY w b c (N+L) bl cd (Ga gh) (bz (bx A) R) (aQ K) i pre r j (pos PL) k
end
section
variable{n:Nat}{gE:gHs}{G:Nat→gHs}{w:Z8}{b c:Bool}{A:AS}{gh:gHs}{L N:Nat}{R K:List (Nat×Nat)}{calls cb:List Call}{bls:List (List (Xo×Z4))}{lu:List Call}{es:List (Bool×Bool)}{bl:List (Xo×Z4)}{cd:Xo}{i:Nat}{pre:List (Nat×Obj)}{r:Xc}{j:Nat}{post:List (Nat×Obj)}{pos:(Nat→Z6)→List (Nat×Obj)}{k:Nat}
theorem kj(H:Hn)(i0:Nat)(h1:dC (pre.map (·.1))=true:=by rfl)(h2:dC ((pos (fR (sX WR w b c (bz (bx A) R) (aQ K) (Ga gh) [] [] [] lu N bl cd default pre i H) i0)).map (·.1))=true:=by rfl)(hq:∀P,ff (sX WR w b c (bz (bx A) R) (aQ K) (Ga gh) [] [] [] lu N bl cd P pre i H) (pos (fR (sX WR w b c (bz (bx A) R) (aQ K) (Ga gh) [] [] [] lu N bl cd default pre i H) i0)) (SG w false c)=fa (sX WR w b c (bz (bx A) R) (aQ K) (Ga gh) [] [] [] lu N bl cd P pre i H) r j k (pos (fR (sX WR w b c (bz (bx A) R) (aQ K) (Ga gh) [] [] [] lu N bl cd default pre i H) i0)) es (SG w true c):=by intro p;kernel_rfl):k6 w b c A gh L N R K lu es bl cd i pre r j pos k:=fun hu he=>⟨fR (sX WR w b c (bz (bx A) R) (aQ K) (Ga gh) [] [] [] lu N bl cd default pre i H) i0,lG (calls:=[]) (H:=H) nMm (cb:=[]) (bls:=[]) nMm (lu:=lu) hu h1 h2 hq (cs:=es) he bS⟩
end
def TD:=LZ [1006013,0,13,2008012,13,2001002,0,3014015,17,1011013,18,18,18,1000,18,0,13,6001002,13,13,0,0,0,1006019,0,19,2001002,19,0,1,1009000,19,1025000,21,0,21,1007000,1006022,2000022,22,22,3900,0,0,0,0,1004023,0,0,0,23,23,21,0,21,0,21,21,21,23,23,21,0,0,9000021,21,0,21,0,0,9000021,21,25,25,25,22,22,21,0,0,9000021,21,0,21,0,0,9000021,25,25,25,22,22,21,0,0,9000021,21,0,21,0,0,9000021,25,25,25,21,21,0,21,21]
def jz:=LZ [0,1006010,0,10,2008009,10,2001002,0,3011012,14,1011010,15,15,15,1000,15]
def GP:=LZ [1006013,0,13,2008012,13,2001002,0,3014015,17,1011013,18,18,18,1000,18,0,13,13,2001002,0,1,1009000,13,1025000,20,0,20,1007000,1006021,2000021,21,21,3900,0,0,0,0,1004022,0,0,0,22,22,20,0,20,0,20,20,20,22,22,20,0,0,9000020,20,0,20,0,0,9000020,20,24,24,24,21,21,20,0,0,9000020,20,0,20,0,0,9000020,24,24,24,21,21,20,0,0,9000020,20,0,20,0,0,9000020,24,24,24,20,20,0,20,20,0,20,20,13,13,9,9,10,10]
def sy:=LZ [17,17,2003004,0,9000017,17,5003004,17,17,2003004,5,5,5,5,1000,5,3018019,21,16,5001002,16,5001002,16,6001002,7022000,5001002]
def sz:=LZ [10,6001002,10,10,0,0,0,1006016,0,16,2001002,16,0,2,16,16,2001002,6003004,7017000,2003004]
def sA:=LZ [11,21,21,21,26,26,21,26,26,26,13,21,21,21,27,27]
def sB:=LZ ([0]++TD++[0,21,21,19,19,13,13,9,9,10,10])
section
variable(w:Z8)(b c:Bool)(A:AS)(s:BS)(gh:gHs)(n t L:Nat)(wd:Int)(tw:Nat)(ik iu:Nat→Nat)
def iJ:Nat×Obj:=(7,iO 121 (Zd (A.a 8) 1971))
def po:List (Nat×Obj):=[iJ A,(8,iD (PP w b c) ⟨ik,iu,jJ,0,0,0,0,0⟩)]
noncomputable def sr:Int:=Za (s.pc.1+4) 4294967295
noncomputable def ss:Int:=Za (s.z 768).1 4294835965
noncomputable def jw:List (Nat×Nat):=[(9,Zd n 1971)]
noncomputable def jx:List (Nat×Nat):=[(0,Zd t 5571)]
def jF:Xo:=(cR 1891 [.ref (Zd (A.a 0) 1971),.ref (Zd (A.a 7) 1971),.int wd tw])
noncomputable def sL:Bool:=(bne (Za (s.z 768).1 32) 0)
noncomputable def sM:Bool:=(bne (Za (s.z 768).1 256) 0)
def sN:List (Nat×Obj):=(aj w b c A s++(po w b c A ik iu))
include w b c A s gh n t L wd tw ik iu
theorem FF:Ag w b c A gh L 40 (jw n) (jx t) (jF A wd tw) 9 (aj w b c A s++[iJ A,(8,iD (PP w b c) ⟨ik,iu,mj,0,0,0,0,0⟩)]) (rV .none) 16 (aj w b c A ⟨s.z,s.p,s.r,(sr s,Zd t 5578),s.md,s.sp,s.es,s.em⟩++[iJ A,(8,iD (PP w b c) ⟨ik,iu,mj,0,0,0,0,0⟩)]) 23:=lx (hm ([0]++jz++[0,10,10,1004016,10,10,5001002])) rfl rfl fun bl p=>by kernel_rfl
theorem zz:Ag w b c A gh L 40 (jw n) (jx t) (jF A wd tw) 9 (aj w b c A s++[iJ A,(8,iD (PP w b c) ⟨ik,iu,iw,0,0,0,0,0⟩)]) (rV .none) 16 (aj w b c A ⟨s.z,s.p,s.r,(sr s,Zd t 5578),s.md,s.sp,s.es,s.em⟩++[iJ A,(8,iD (PP w b c) ⟨ik,iu,iw,0,0,0,0,0⟩)]) 24:=lx (hm ([0]++jz++[0,10,10,1004016,10,10,5001002])) rfl rfl fun bl p=>by kernel_rfl
theorem vA:Ag w b c A gh L 40 (jw n) (jx t) (jF A wd tw) 9 (aj w b c A s++[iJ A,(8,iD (PP w b c) ⟨ik,iu,mb,0,0,0,0,0⟩)]) (rV .none) 16 (aj w b c A ⟨s.z,s.p,s.r,(sr s,Zd t 5578),s.md,s.sp,s.es,s.em⟩++[iJ A,(8,iD (PP w b c) ⟨ik,iu,mb,0,0,0,0,0⟩)]) 24:=lx (hm ([0]++jz++[0,10,10,1004016,10,10,5001002])) rfl rfl fun bl p=>by kernel_rfl
theorem LF:fN w b c A gh L 40 (jw n) (jx t) [(Xl s.md.1 0,false)] (jF A wd tw) 9 (aj w b c A s++[iJ A,(8,iD (PP w b c) ⟨ik,iu,f9,0,0,0,0,0⟩)]) (rV .none) 17 (aj w b c A ⟨s.z,s.p,s.r,(sr s,Zd t 5578),s.md,Zd n 1978,s.es,s.em⟩++[iJ A,(8,iD (PP w b c) ⟨ik,iu,f9,0,0,0,0,0⟩)]) 25:=de (hm ([0]++jz++[0,10,10,2001002,0,2,10,6001002,7016000,5001002,10,10,5001002])) rfl rfl fun bl p=>by kernel_rfl
theorem vB:fN w b c A gh L 40 (jw n) (jx t) [(sL s,false),(sM s,false),(decide (Xm s.md.1 1),false)] (jF A wd tw) 9 (sN w b c A s ik iu) (rV .none) 23 (aj w b c A ⟨up s.z 768 (Zb (Zb (ss s) 0) 32) (Zd t 5610),s.p,s.r,((s.p 321).1,(s.p 321).2),(0,4327),Zd n 1984,s.es,s.em⟩++(po w b c A ik iu)) 52:=de (hm ([0]++jz++[0]++sz++[0,2,0,17,17,17,2003004,0,2,17]++sy)) rfl rfl fun bl p=>by kernel_rfl
theorem vC:fN w b c A gh L 40 (jw n) (jx t) [(sL s,true),(sM s,false),(decide (Xm s.md.1 1),false)] (jF A wd tw) 9 (sN w b c A s ik iu) (rV .none) 23 (aj w b c A ⟨up s.z 768 (Zb (Zb (ss s) 2) 32) (Zd t 5609),s.p,s.r,((s.p 321).1,(s.p 321).2),(0,4327),Zd n 1984,s.es,s.em⟩++(po w b c A ik iu)) 51:=de (hm ([0]++jz++[0]++sz++[0,2,0,17,17,17,2003004,0,1,0,17]++sy)) rfl rfl fun bl p=>by kernel_rfl
theorem vD:fN w b c A gh L 40 (jw n) (jx t) [(sL s,false),(sM s,true),(decide (Xm s.md.1 1),false)] (jF A wd tw) 9 (sN w b c A s ik iu) (rV .none) 23 (aj w b c A ⟨up s.z 768 (Zb (Zb (ss s) 0) 32) (Zd t 5610),s.p,s.r,((s.p 321).1,(s.p 321).2),(1,4329),Zd n 1984,s.es,s.em⟩++(po w b c A ik iu)) 52:=de (hm ([0]++jz++[0]++sz++[0,1,0,17,17,17,2003004,0,2,17]++sy)) rfl rfl fun bl p=>by kernel_rfl
theorem vE:fN w b c A gh L 40 (jw n) (jx t) [(sL s,true),(sM s,true),(decide (Xm s.md.1 1),false)] (jF A wd tw) 9 (sN w b c A s ik iu) (rV .none) 23 (aj w b c A ⟨up s.z 768 (Zb (Zb (ss s) 2) 32) (Zd t 5609),s.p,s.r,((s.p 321).1,(s.p 321).2),(1,4329),Zd n 1984,s.es,s.em⟩++(po w b c A ik iu)) 51:=de (hm ([0]++jz++[0]++sz++[0,1,0,17,17,17,2003004,0,1,0,17]++sy)) rfl rfl fun bl p=>by kernel_rfl
end
section
variable(w:Z8)(b c:Bool)(A:AS)(s:BS)(gh:gHs)(n t L:Nat)(wd:Int)(tw it c1 c2 c3:Nat)(ik iu hx:Nat→Nat)(fe:Nat→Array Z7)(fm:Nat→Nat)(q:Nat→Z4)
def yJ(Y0 Y1 Y2 Y3:Nat):Obj:=dO [ae w b c tD (Zd t Y0) (.str ⟨⟨[116,114,97,112,32,50,32,119,105,116,104,32,hx 0,hx 1,hx 2,hx 3,hx 4,hx 5,hx 6,hx 7]⟩⟩ (Zd t Y1)),ae w b c tF (Zd t Y2) (.int 2 281),ae w b c gA (Zd t Y3) (.int wd tw)] 3
def iK:Nat×Obj:=(7,iO 121 (Zd (A.a 11) 1971))
noncomputable def fi(Y0:Nat):Z6:=.ref (Zd n Y0)
def eB(Y0 Y1:Nat):Nat×Obj:=(Y0,aY (fe Y1) (fm Y1) #[])
def j9:Nat×Obj:=(10,aY (fe 4) (fm 4) (ck c1 c2 c3))
def ot(x0 x1 x2 x3 x4:Nat):Call:=cS (cB "int.__format__" [.int wd tw,.str xE (Zd t x0)]) x1 x2 [] (rV (.str ⟨⟨[hx 0,hx 1,hx 2,hx 3,hx 4,hx 5,hx 6,hx 7]⟩⟩ (Zd t x3))) x1 x4
def ou:List (Xo×Z4):=(QP it (Zd (A.a 8) 1971) (Zd (A.a 9) 1971) (Zd (A.a 10) 1971) c1 c2 c3 q)
def ov:Xo:=(cR 1891 [.ref (Zd (A.a 0) 1971),.ref (Zd (A.a 7) 1971),.int wd tw])
def JK(PL:Nat→Z6):List (Nat×Obj):=(aj w b c A s++[iK A,(8,aY (fe 2) (fm 2) (bH 1876 1877 (rA A 9))),(9,aY (fe 3) (fm 3) (bH 1964 1965 (rA A 10))),j9 c1 c2 c3 fe fm,(11,iD (PP w b c) ⟨ik,iu,f9,0,0,0,0,0⟩),(19,⟨.ref 91,some (Zd n 1982),.fields ⟨[fi n 1981,fi n 1983,.none,.none,.bool false,.none]⟩,#[]⟩),(23,yJ w b c t wd tw hx 5608 5603 5610 5612),(24,fF .none (Zd n 1971) .none PL)])
def JL(PL:Nat→Z6):List (Nat×Obj):=(aj w b c A s++[iK A,(8,aY (fe 2) (fm 2) (bH 1876 1877 (rA A 9))),(9,aY (fe 3) (fm 3) (bH 1964 1965 (rA A 10))),j9 c1 c2 c3 fe fm,(11,iD (PP w b c) ⟨ik,iu,kU,0,0,0,0,0⟩),(20,⟨.ref 91,some (Zd n 1983),.fields ⟨[fi n 1982,fi n 1985,.none,.none,.bool false,.none]⟩,#[]⟩),(24,yJ w b c t wd tw hx 5611 5606 5613 5615),(26,fF (fi n 1984) (Zd n 1971) .none PL)])
def JM(PL:Nat→Z6):List (Nat×Obj):=(aj w b c A s++[iK A,(8,aY (fe 2) (fm 2) (bH 1876 1877 (rA A 9))),(9,aY (fe 3) (fm 3) (bH 1964 1965 (rA A 10))),j9 c1 c2 c3 fe fm,(11,iD (PP w b c) ⟨ik,iu,jJ,0,0,0,0,0⟩),(20,⟨.ref 91,some (Zd n 1983),.fields ⟨[fi n 1982,fi n 1985,.none,.none,.bool false,.none]⟩,#[]⟩),(24,yJ w b c t wd tw hx 5611 5606 5613 5615),(26,fF (fi n 1984) (Zd n 1971) .none PL)])
include w b c A s gh n t L wd tw it c1 c2 c3 ik iu hx fe fm q
theorem FE:k6 w b c A gh L 40 [(12,Zd n 1971)] [(0,Zd t 5571)] [ot t wd tw hx 5601 21 31 5602 32] [(Xl s.md.1 0,true)] (ou A it c1 c2 c3 q) (ov A wd tw) 12 (aj w b c A s++[iK A,eB fe fm 8 2,eB fe fm 9 3,eB fe fm 10 4,(11,iD (PP w b c) ⟨ik,iu,f9,0,0,0,0,0⟩)]) (.error (fi n 1978)) 25 (fun PL=>JK w b c A s n t wd tw c1 c2 c3 ik iu hx fe fm PL) 42:=kj (hm ([0,0]++GP++[11,11,20,20,20,25,25])) 24 rfl rfl fun p=>by kernel_rfl
theorem zx:k6 w b c A gh L 40 [(12,Zd n 1971)] [(0,Zd t 5571)] [ot t wd tw hx 5601 21 31 5602 32] [(Xl s.md.1 0,true)] (ou A it c1 c2 c3 q) (ov A wd tw) 12 (aj w b c A s++[iK A,eB fe fm 8 2,eB fe fm 9 3,j9 c1 c2 c3 fe fm,(11,iD (PP w b c) ⟨ik,iu,f9,0,0,0,0,0⟩)]) (.error (fi n 1978)) 25 (fun PL=>JK w b c A s n t wd tw c1 c2 c3 ik iu hx fe fm PL) 42:=kj (hm ([0,0]++GP++[11,20,20,20,25,25])) 24 rfl rfl fun p=>by kernel_rfl
theorem zw:k6 w b c A gh L 40 [(12,Zd n 1971)] [(0,Zd t 5571)] [ot t wd tw hx 5604 22 34 5605 35] [(decide (Xm s.md.1 3),true)] (ou A it c1 c2 c3 q) (ov A wd tw) 12 (aj w b c A s++[iK A,eB fe fm 8 2,eB fe fm 9 3,eB fe fm 10 4,(11,iD (PP w b c) ⟨ik,iu,kU,0,0,0,0,0⟩)]) (.error (fi n 1979)) 27 (fun PL=>JL w b c A s n t wd tw c1 c2 c3 ik iu hx fe fm PL) 45:=kj (hm ([0]++sB++[11]++sA)) 26 rfl rfl fun p=>by kernel_rfl
theorem uU:k6 w b c A gh L 40 [(12,Zd n 1971)] [(0,Zd t 5571)] [ot t wd tw hx 5604 22 34 5605 35] [(decide (Xm s.md.1 3),true)] (ou A it c1 c2 c3 q) (ov A wd tw) 12 (aj w b c A s++[iK A,eB fe fm 8 2,eB fe fm 9 3,j9 c1 c2 c3 fe fm,(11,iD (PP w b c) ⟨ik,iu,kU,0,0,0,0,0⟩)]) (.error (fi n 1979)) 27 (fun PL=>JL w b c A s n t wd tw c1 c2 c3 ik iu hx fe fm PL) 45:=kj (hm ([0]++sB++sA)) 26 rfl rfl fun p=>by kernel_rfl
theorem zy:k6 w b c A gh L 40 [(12,Zd n 1971)] [(0,Zd t 5571)] [ot t wd tw hx 5604 22 34 5605 35] [(decide (Xm s.md.1 1),true)] (ou A it c1 c2 c3 q) (ov A wd tw) 12 (aj w b c A s++[iK A,eB fe fm 8 2,eB fe fm 9 3,eB fe fm 10 4,(11,iD (PP w b c) ⟨ik,iu,jJ,0,0,0,0,0⟩)]) (.error (fi n 1979)) 27 (fun PL=>JM w b c A s n t wd tw c1 c2 c3 ik iu hx fe fm PL) 45:=kj (hm ([0]++sB++[11]++sA)) 26 rfl rfl fun p=>by kernel_rfl
theorem uV:k6 w b c A gh L 40 [(12,Zd n 1971)] [(0,Zd t 5571)] [ot t wd tw hx 5604 22 34 5605 35] [(decide (Xm s.md.1 1),true)] (ou A it c1 c2 c3 q) (ov A wd tw) 12 (aj w b c A s++[iK A,eB fe fm 8 2,eB fe fm 9 3,j9 c1 c2 c3 fe fm,(11,iD (PP w b c) ⟨ik,iu,jJ,0,0,0,0,0⟩)]) (.error (fi n 1979)) 27 (fun PL=>JM w b c A s n t wd tw c1 c2 c3 ik iu hx fe fm PL) 45:=kj (hm ([0]++sB++sA)) 26 rfl rfl fun p=>by kernel_rfl
end
def yO:=LZ [0,8,9008000,6001002,8,0,0,0,9,9009000,2001002,7,9007009,1001,9,9,9,9,6001002,9,0,1002,9,9,9,3011014,14,9014011,14,16,1007009,2001002,9,2012013,6,6,6,6,1003,9,2012013,3017018,20,1005009]
def yP:=LZ [0,11,9011000,6001002,11,0,0,0,12,9012000,2001002,7,9007012,1001,1004012,3008013,13,9013008,13,15,1007012,2001002,12,2009010,6,6,6,6,1002,12,2009010,3016017,19,1005012]
def Pj:=LZ (yP++[0,0,12,0,0,12,6001002,12,2009010,12,12,12,2001002,12,2009010,6,6,6,6,1003,0,0,0,20,9020000,20,0,0,0,0,1006021,0,21])
def Pk:=LZ (yO++[0,0,9,0,0,9,6001002,9,2012013,9,9,9,2001002,9,2012013,6,6,6,6,1004,0,0,0,21,9021000,21,0,0,0,0,1006022,0,22])
section
variable(w:Z8)(b c:Bool)(A:AS)(s:BS)(gh:gHs)(n t L:Nat)(nn tt:Nat→Nat)(vv:Nat→Nat→Nat)(wd:Int)(tw j j2 sp1 em1:Nat)(I:IS)(z1 p1 r1:Nat→Int×Nat)(pc1 md1:Int×Nat)(es1:Array Z7)
noncomputable def jc(Y0:Nat):Nat:=Zd (vv 0 Y0) 1971
noncomputable def oP:Z6:=.int wd (Zd tw 5571)
def yK:Nat×Obj:=(8,iO 121 (Zd (A.a 9) 1971))
def P0(x0 x1:Nat):Call:=cS (cB "list.__getitem__" [rA A 5,.int I.rs1 (I.t 2)]) x0 x1 [(5,d5 (PP w b c) A s)] (rV (bh s j)) x0 x1
include w b c A s gh n t L nn tt vv wd tw j j2 sp1 em1 I z1 p1 r1 pc1 md1 es1
theorem vd:jM w b c A gh L 40 [(21,Zd (nn 1) 1971),(13,Zd (nn 0) 1971),(12,jc vv 2),(11,jc vv 1),(10,jc vv 0),(7,Zd n 1971)] [(18,Zd (tt 1) 5571),(8,Zd (tt 0) 5571),(0,Zd t 5571)] [cS (cB "dict.get" [rA A 6,oP wd tw]) 9 5 [(6,d6 (PP w b c) A s)] (rV .none) 9 6,⟨cR 1870 [rA A 0,oP wd tw],9,7,aj w b c A s,rV (.ref (jc vv 0)),13,8,aj w b c A {s with es:=es1,em:=em1}++[(10,tO [.int 5 5115,.none,.ref (jc vv 1)]),(11,iO 121 (jc vv 2)),(12,iD (PP w b c) I)]⟩,P0 w b c A s j I 16 14,⟨cR 1891 [rA A 0,.ref (jc vv 1),oP wd tw],20,17,aj w b c A {s with es:=es1,em:=em1}++[(11,iO 121 (jc vv 2)),(12,iD (PP w b c) I)],rV .none,21,18,aj w b c A ⟨z1,p1,r1,pc1,md1,sp1,es1,em1⟩++[(11,iO 121 (jc vv 2)),(12,iD (PP w b c) I)]⟩] (cR 1965 [.ref (Zd (A.a 0) 1971),oP wd tw]) 7 (aj w b c A s) (rV .none) 21 (aj w b c A ⟨z1,p1,r1,pc1,md1,sp1,es1,em1⟩++[(10,tO [.int 5 5115,.none,.ref (jc vv 1)]),(11,iO 121 (jc vv 2)),(12,iD (PP w b c) I)]) 18:=hD (hm ([0]++yO++[0,0,9,0,0,9,0,0,9,0,0,9,0,0,9,6001002,9,9,0,1004])) rfl rfl fun bl p=>by kernel_rfl
theorem vP:jM w b c A gh L 40 [(20,Zd (nn 0) 1971),(10,Zd n 1971)] [(16,Zd (tt 0) 5571),(0,Zd t 5571)] [cS (cB "dict.get" [rA A 6,oP wd tw]) 12 5 [(6,d6 (PP w b c) A s)] (rV (rA A 7)) 12 6,P0 w b c A s j I 15 12,⟨cR 1891 [rA A 0,rA A 8,oP wd tw],19,15,aj w b c A s++[yK A,(9,iD (PP w b c) I)],rV .none,20,16,aj w b c A ⟨z1,p1,r1,pc1,md1,sp1,s.es,s.em⟩++[yK A,(9,iD (PP w b c) I)]⟩] (cR 1965 [.ref (Zd (A.a 0) 1971),oP wd tw]) 10 (aj w b c A s++[(7,tO [.int 5 5115,.none,.ref (Zd (A.a 8) 1971)]),yK A,(9,iD (PP w b c) I)]) (rV .none) 20 (aj w b c A ⟨z1,p1,r1,pc1,md1,sp1,s.es,s.em⟩++[(7,tO [.int 5 5115,.none,rA A 8]),yK A,(9,iD (PP w b c) I)]) 16:=hD (hm ([0]++yP++[0,0,12,0,0,12,0,0,12,0,0,12,0,0,12,6001002,12,12,0,1003])) rfl rfl fun bl p=>by kernel_rfl
end
section
variable(w:Z8)(b c:Bool)(A:AS)(s:BS)(gh:gHs)(n t L:Nat)(nn tt:Nat→Nat)(vv:Nat→Nat→Nat)(wd:Int)(tw j em1 it c1 c2 c3 xa xf:Nat)(xh xt:Z6)(xb:Bool)(I:IS)(ek:Nat→Nat)(R:Str)(pl:Nat→Z6)(es1:Array Z7)(fe:Nat→Array Z7)(fm:Nat→Nat)(q:Nat→Z4)(sl:Array (Option Z6))
noncomputable def iz:Z6:=.int wd (Zd tw 5571)
noncomputable def di(Y0 Y1:Nat):Nat:=Zd (vv Y0 Y1) 1971
def O0:List (Z7):=[ae w b c gB (Zd t 5573) (rA A 0),ae w b c gD (Zd t 5574) (iz wd tw),ae w b c mq (Zd t 5577) (.ref (di vv 0 0)),ae w b c dv (Zd (tt 0) 5572) (.int 5 5115),ae w b c mr (Zd (tt 0) 5573) .none,ae w b c gC (Zd (tt 0) 5574) (.ref (di vv 0 1)),ae w b c cP (Zd (tt 0) 5578) (.int I.im (I.t 4)),ae w b c kV (Zd (tt 0) 5579) (bh s j)]
def O1:List (Z7):=[ae w b c gB (Zd t 5573) (rA A 0),ae w b c gD (Zd t 5574) (iz wd tw),ae w b c mq (Zd t 5577) (rA A 7),ae w b c dv (Zd t 5578) (.int 5 5115),ae w b c mr (Zd t 5579) .none,ae w b c gC (Zd t 5580) (rA A 8),ae w b c cP (Zd t 5584) (.int I.im (I.t 4)),ae w b c kV (Zd t 5585) (bh s j)]
def yL:List (Z7):=[ae w b c gU (Zd t 5571) (rA A 0),ae w b c kW (Zd t 5572) (iz wd tw)]
def O2:Xo:=rr 144 9 DL 1877 1876 (Zd n 1972)
noncomputable def jd(Y0:Nat):Nat:=Zd (A.a Y0) 1971
def P1(x0 x1:Nat):Call:=cS (cB "list.__getitem__" [rA A 5,.int I.rs1 (I.t 2)]) x0 x1 [(5,d5 (PP w b c) A s)] (rV (bh s j)) x0 x1
include w b c A s gh n t L nn tt vv wd tw j em1 it c1 c2 c3 xa xf xh xt xb I ek R pl es1 fe fm q sl
theorem rX:o5 w b c A gh L 40 [(25,Zd (nn 1) 1971),(24,di vv 1 2),(23,di vv 1 1),(22,di vv 1 0),(14,Zd (nn 0) 1971),(13,di vv 0 2),(12,di vv 0 1),(11,di vv 0 0),(8,Zd n 1971)] [(18,Zd (tt 1) 5571),(8,Zd (tt 0) 5571),(0,Zd t 5571)] [cS (cB "dict.get" [rA A 6,iz wd tw]) 10 5 [(6,d6 (PP w b c) A s)] (rV .none) 10 6,⟨cR 1870 [rA A 0,iz wd tw],10,7,aj w b c A s,rV (.ref (di vv 0 0)),14,8,aj w b c A {s with es:=es1,em:=em1}++[(11,tO [.int 5 5115,.none,.ref (di vv 0 1)]),(12,iO 121 (di vv 0 2)),(13,iD (PP w b c) I)]⟩,P1 w b c A s j I 17 14] [⟨cR 1891 [rA A 0,.ref (di vv 0 1),iz wd tw],21,17,aj w b c A {s with es:=es1,em:=em1}++[(12,iO 121 (di vv 0 2)),(13,iD (PP w b c) I),(9,⟨.type "frame",none,.dict ⟨O0 w b c A s t tt vv wd tw j I⟩ 8,#[]⟩),(8,⟨.type "frame",none,.dict ⟨yL w b c A t wd tw⟩ 2,#[]⟩),(7,aY (fe 4) (fm 4) sl)],.error (.ref (di vv 1 0)),25,18,aj w b c A {s with es:=es1,em:=em1}++[(12,iO 121 (di vv 0 2)),(13,iD (PP w b c) I),(9,⟨.type "frame",none,.dict ⟨O0 w b c A s t tt vv wd tw j I⟩ 8,bH 1876 1877 (.ref (Zd n 1971))⟩),(8,⟨.type "frame",none,.dict ⟨yL w b c A t wd tw⟩ 2,bH 1964 1965 (rA A 7)⟩),(7,aY (fe 4) (fm 4) (ck c1 c2 c3)),(22,O9 xa (di vv 1 1) (di vv 1 2) xh xb),(23,vX (PP w b c) ek R wd (Zd tw 5571)),(24,fF xt xf .none pl)]⟩] [((O2 n,⟨722,12,722,48⟩)::(Bq 149 tG 1965 1964 (Zd n 1971),⟨850,15,850,33⟩)::l7 it (jd A 7) c1 c2 c3 q)] (l7 it (jd A 7) c1 c2 c3 q) (cR 1965 [.ref (jd A 0),iz wd tw]) 8 (aj w b c A s++[(7,aY (fe 4) (fm 4) sl)]) (rV (.ref (Zd (nn 1) 1973))) 28 (aj w b c A {s with es:=es1,em:=em1}++[(7,aY (fe 4) (fm 4) (ck c1 c2 c3)),(11,tO [.int 5 5115,.none,.ref (di vv 0 1)]),(12,iO 121 (di vv 0 2)),(13,iD (PP w b c) I),(27,tO [.int 2 281,iz wd tw])]) 22:=pL (hm [0,0,9,9009000,6001002,9,0,0,0,10,9010000,2001002,7,9007010,1001,1004010,6001002,10,0,1002,10,10,10,3012015,15,9015012,15,17,1007010,2001002,10,2013014,6,6,6,6,1003,10,2013014,3018019,21,1005010,0,0,10,0,0,10,0,0,10,0,0,10,0,0,10,6001002,10,10,0,1500,23,25,25,25,10,23,23,23,26,26,23,26,26,26,9,23,23,23,27,27,0,9000023,23,27,27,9,9,9,23,1010000,23,0,23,1005000,23,23,0,24,9,23,1010000,23,0,23,1005000,23,23,0,24,9,9,9,9]) rfl rfl fun p=>by kernel_rfl
theorem vc:o5 w b c A gh L 40 [(24,Zd (nn 0) 1971),(23,di vv 0 2),(22,di vv 0 1),(21,di vv 0 0),(11,Zd n 1971)] [(16,Zd (tt 0) 5571),(0,Zd t 5571)] [cS (cB "dict.get" [rA A 6,iz wd tw]) 13 5 [(6,d6 (PP w b c) A s)] (rV (rA A 7)) 13 6,P1 w b c A s j I 16 12] [⟨cR 1891 [rA A 0,rA A 8,iz wd tw],20,15,aj w b c A s++[(8,iO 121 (jd A 9)),(9,iD (PP w b c) I),(12,⟨.type "frame",none,.dict ⟨O1 w b c A s t wd tw j I⟩ 8,#[]⟩),(11,⟨.type "frame",none,.dict ⟨yL w b c A t wd tw⟩ 2,#[]⟩),(10,aY (fe 4) (fm 4) sl)],.error (.ref (di vv 0 0)),24,16,aj w b c A s++[(8,iO 121 (jd A 9)),(9,iD (PP w b c) I),(12,⟨.type "frame",none,.dict ⟨O1 w b c A s t wd tw j I⟩ 8,bH 1876 1877 (.ref (Zd n 1971))⟩),(11,⟨.type "frame",none,.dict ⟨yL w b c A t wd tw⟩ 2,bH 1964 1965 (rA A 10)⟩),(10,aY (fe 4) (fm 4) (ck c1 c2 c3)),(21,O9 xa (di vv 0 1) (di vv 0 2) xh xb),(22,vX (PP w b c) ek R wd (Zd tw 5571)),(23,fF xt xf .none pl)]⟩] [((O2 n,⟨722,12,722,48⟩)::(Bq 149 tG 1965 1964 (Zd n 1971),⟨850,15,850,33⟩)::l7 it (jd A 10) c1 c2 c3 q)] (l7 it (jd A 10) c1 c2 c3 q) (cR 1965 [.ref (jd A 0),iz wd tw]) 11 (aj w b c A s++[(7,tO [.int 5 5115,.none,.ref (jd A 8)]),(8,iO 121 (jd A 9)),(9,iD (PP w b c) I),(10,aY (fe 4) (fm 4) sl)]) (rV (.ref (Zd (nn 0) 1973))) 27 (aj w b c A s++[(7,tO [.int 5 5115,.none,rA A 8]),(8,iO 121 (jd A 9)),(9,iD (PP w b c) I),(10,aY (fe 4) (fm 4) (ck c1 c2 c3)),(26,tO [.int 2 281,iz wd tw])]) 20:=pL (hm [0,0,12,9012000,6001002,12,0,0,0,13,9013000,2001002,7,9007013,1001,1004013,3008014,14,9014008,14,16,1007013,2001002,13,2009010,6,6,6,6,1002,13,2009010,3017018,20,1005013,0,0,13,0,0,13,0,0,13,0,0,13,0,0,13,6001002,13,13,0,1500,22,24,24,24,13,22,22,22,25,25,22,25,25,25,12,22,22,22,26,26,0,9000022,22,26,26,12,12,12,22,1010000,22,0,22,1005000,22,22,0,23,12,22,1010000,22,0,22,1005000,22,22,0,23,1004012]) rfl rfl fun p=>by kernel_rfl
end
section
variable(w:Z8)(b c:Bool)(A:AS)(s:BS)(gh:gHs)(n t L:Nat)(nn tt:Nat→Nat)(vv:Nat→Nat→Nat)(wd:Int)(tw j j2 sp1 em1:Nat)(I:IS)(z1 p1 r1:Nat→Int×Nat)(pc1 md1:Int×Nat)(es1:Array Z7)
include w b c A s gh n t L nn tt vv wd tw j j2 sp1 em1 I z1 p1 r1 pc1 md1 es1
theorem rU:bk w b c A gh L 40 [(13,Zd (nn 0) 1971),(12,Zd (vv 0 2) 1971),(11,Zd (vv 0 1) 1971),(10,Zd (vv 0 0) 1971),(7,Zd n 1971)] [(8,Zd (tt 0) 5571),(0,Zd t 5571)] [cS (cB "dict.get" [rA A 6,.int wd (Zd tw 5571)]) 9 5 [(6,d6 (PP w b c) A s)] (rV .none) 9 6,⟨cR 1870 [rA A 0,.int wd (Zd tw 5571)],9,7,aj w b c A s,rV (.ref (Zd (vv 0 0) 1971)),13,8,aj w b c A {s with es:=es1,em:=em1}++[(10,tO [.int 1 5107,.ref 1121,.ref (Zd (vv 0 1) 1971)]),(11,iO 121 (Zd (vv 0 2) 1971)),(12,iD (PP w b c) I)]⟩,cS (cB "list.__getitem__" [rA A 5,.int I.rs1 (I.t 2)]) 16 14 [(5,d5 (PP w b c) A s)] (rV (bh s j)) 16 14,cS (cB "list.__getitem__" [rA A 5,.int I.rs2 (I.t 3)]) 20 20 [(5,d5 (PP w b c) A s)] (rV (bh s j2)) 20 20,⟨cB "list.__setitem__" [rA A 5,.int I.rd (I.t 1),.int (Za ((s.r j).1+(s.r j2).1) 4294967295) (Zd (tt 0) 5586)],22,29,[(5,d5 (PP w b c) A s)],rV .none,22,29,[(5,d5 (PP w b c) A ⟨s.z,s.p,r1,s.pc,s.md,s.sp,es1,em1⟩)]⟩] [(bne I.rd 0,true)] (cR 1965 [.ref (Zd (A.a 0) 1971),.int wd (Zd tw 5571)]) 7 (aj w b c A s) (rV .none) 22 (aj w b c A ⟨s.z,s.p,r1,(Za (s.pc.1+4) 4294967295,Zd (tt 0) 5595),s.md,s.sp,es1,em1⟩++[(10,tO [.int 1 5107,.ref 1121,.ref (Zd (vv 0 1) 1971)]),(11,iO 121 (Zd (vv 0 2) 1971)),(12,iD (PP w b c) I)]) 35:=ap (hm ([0]++Pk++[1,22,22,2001002,22,6,6,6,1005,9,2001002,0,9,5001002])) rfl rfl fun bl p=>by kernel_rfl
end
section
variable(w:Z8)(b c:Bool)(A:AS)(s:BS)(gh:gHs)(n t L:Nat)(wd:Int)(tw j j2 sp1 em1:Nat)(I:IS)(z1 p1 r1:Nat→Int×Nat)(pc1 md1:Int×Nat)(es1:Array Z7)
include w b c A s gh n t L wd tw j j2 sp1 em1 I z1 p1 r1 pc1 md1 es1
theorem vb:bk w b c A gh L 40 [(10,Zd n 1971)] [(0,Zd t 5571)] [cS (cB "dict.get" [rA A 6,.int wd (Zd tw 5571)]) 12 5 [(6,d6 (PP w b c) A s)] (rV (rA A 7)) 12 6,cS (cB "list.__getitem__" [rA A 5,.int I.rs1 (I.t 2)]) 15 12 [(5,d5 (PP w b c) A s)] (rV (bh s j)) 15 12,cS (cB "list.__getitem__" [rA A 5,.int I.rs2 (I.t 3)]) 19 18 [(5,d5 (PP w b c) A s)] (rV (bh s j2)) 19 18,⟨cB "list.__setitem__" [rA A 5,.int I.rd (I.t 1),.int (Za ((s.r j).1+(s.r j2).1) 4294967295) (Zd t 5592)],21,27,[(5,d5 (PP w b c) A s)],rV .none,21,27,[(5,d5 (PP w b c) A ⟨s.z,s.p,r1,s.pc,s.md,s.sp,s.es,s.em⟩)]⟩] [(bne I.rd 0,true)] (cR 1965 [.ref (Zd (A.a 0) 1971),.int wd (Zd tw 5571)]) 10 (aj w b c A s++[(7,tO [.int 1 5107,.ref 1121,.ref (Zd (A.a 8) 1971)]),(8,iO 121 (Zd (A.a 9) 1971)),(9,iD (PP w b c) I)]) (rV .none) 21 (aj w b c A ⟨s.z,s.p,r1,(Za (s.pc.1+4) 4294967295,Zd t 5601),s.md,s.sp,s.es,s.em⟩++[(7,tO [.int 1 5107,.ref 1121,rA A 8]),(8,iO 121 (Zd (A.a 9) 1971)),(9,iD (PP w b c) I)]) 33:=ap (hm ([0]++Pj++[1,21,21,2001002,21,6,6,6,1004,12,2001002,0,12,5001002])) rfl rfl fun bl p=>by kernel_rfl
end
section
variable(w:Z8)(b c:Bool)(A:AS)(s:BS)(gh:gHs)(n t L:Nat)(nn tt:Nat→Nat)(vv:Nat→Nat→Nat)(wd:Int)(tw j j2 sp1 em1:Nat)(I:IS)(z1 p1 r1:Nat→Int×Nat)(pc1 md1:Int×Nat)(es1:Array Z7)
include w b c A s gh n t L nn tt vv wd tw j j2 sp1 em1 I z1 p1 r1 pc1 md1 es1
theorem qW:bk w b c A gh L 40 [(13,Zd (nn 0) 1971),(12,Zd (vv 0 2) 1971),(11,Zd (vv 0 1) 1971),(10,Zd (vv 0 0) 1971),(7,Zd n 1971)] [(8,Zd (tt 0) 5571),(0,Zd t 5571)] [cS (cB "dict.get" [rA A 6,.int wd (Zd tw 5571)]) 9 5 [(6,d6 (PP w b c) A s)] (rV .none) 9 6,⟨cR 1870 [rA A 0,.int wd (Zd tw 5571)],9,7,aj w b c A s,rV (.ref (Zd (vv 0 0) 1971)),13,8,aj w b c A {s with es:=es1,em:=em1}++[(10,tO [.int 1 5107,.ref 1121,.ref (Zd (vv 0 1) 1971)]),(11,iO 121 (Zd (vv 0 2) 1971)),(12,iD (PP w b c) I)]⟩,cS (cB "list.__getitem__" [rA A 5,.int I.rs1 (I.t 2)]) 16 14 [(5,d5 (PP w b c) A s)] (rV (bh s j)) 16 14,cS (cB "list.__getitem__" [rA A 5,.int I.rs2 (I.t 3)]) 20 20 [(5,d5 (PP w b c) A s)] (rV (bh s j2)) 20 20] [(bne I.rd 0,false)] (cR 1965 [.ref (Zd (A.a 0) 1971),.int wd (Zd tw 5571)]) 7 (aj w b c A s) (rV .none) 22 (aj w b c A ⟨s.z,s.p,s.r,(Za (s.pc.1+4) 4294967295,Zd (tt 0) 5594),s.md,s.sp,es1,em1⟩++[(10,tO [.int 1 5107,.ref 1121,.ref (Zd (vv 0 1) 1971)]),(11,iO 121 (Zd (vv 0 2) 1971)),(12,iD (PP w b c) I)]) 34:=ap (hm ([0]++Pk++[2,9,2001002,0,9,5001002])) rfl rfl fun bl p=>by kernel_rfl
end
section
variable(w:Z8)(b c:Bool)(A:AS)(s:BS)(gh:gHs)(n t L:Nat)(wd:Int)(tw j j2 sp1 em1:Nat)(I:IS)(z1 p1 r1:Nat→Int×Nat)(pc1 md1:Int×Nat)(es1:Array Z7)
include w b c A s gh n t L wd tw j j2 sp1 em1 I z1 p1 r1 pc1 md1 es1
theorem rT:bk w b c A gh L 40 [(10,Zd n 1971)] [(0,Zd t 5571)] [cS (cB "dict.get" [rA A 6,.int wd (Zd tw 5571)]) 12 5 [(6,d6 (PP w b c) A s)] (rV (rA A 7)) 12 6,cS (cB "list.__getitem__" [rA A 5,.int I.rs1 (I.t 2)]) 15 12 [(5,d5 (PP w b c) A s)] (rV (bh s j)) 15 12,cS (cB "list.__getitem__" [rA A 5,.int I.rs2 (I.t 3)]) 19 18 [(5,d5 (PP w b c) A s)] (rV (bh s j2)) 19 18] [(bne I.rd 0,false)] (cR 1965 [.ref (Zd (A.a 0) 1971),.int wd (Zd tw 5571)]) 10 (aj w b c A s++[(7,tO [.int 1 5107,.ref 1121,.ref (Zd (A.a 8) 1971)]),(8,iO 121 (Zd (A.a 9) 1971)),(9,iD (PP w b c) I)]) (rV .none) 21 (aj w b c A ⟨s.z,s.p,s.r,(Za (s.pc.1+4) 4294967295,Zd t 5600),s.md,s.sp,s.es,s.em⟩++[(7,tO [.int 1 5107,.ref 1121,rA A 8]),(8,iO 121 (Zd (A.a 9) 1971)),(9,iD (PP w b c) I)]) 32:=ap (hm ([0]++Pj++[2,12,2001002,0,12,5001002])) rfl rfl fun bl p=>by kernel_rfl
end
section
variable(w:Z8)(b c:Bool)(A:AS)(s:BS)(gh:gHs)(n t L:Nat)(nn tt:Nat→Nat)(vv:Nat→Nat→Nat)(wd:Int)(tw j j2 sp1 em1:Nat)(I:IS)(z1 p1 r1:Nat→Int×Nat)(pc1 md1:Int×Nat)(es1:Array Z7)
include w b c A s gh n t L nn tt vv wd tw j j2 sp1 em1 I z1 p1 r1 pc1 md1 es1
theorem qY:bk w b c A gh L 40 [(13,Zd (nn 0) 1971),(12,Zd (vv 0 2) 1971),(11,Zd (vv 0 1) 1971),(10,Zd (vv 0 0) 1971),(7,Zd n 1971)] [(8,Zd (tt 0) 5571),(0,Zd t 5571)] [cS (cB "dict.get" [rA A 6,.int wd (Zd tw 5571)]) 9 5 [(6,d6 (PP w b c) A s)] (rV .none) 9 6,⟨cR 1870 [rA A 0,.int wd (Zd tw 5571)],9,7,aj w b c A s,rV (.ref (Zd (vv 0 0) 1971)),13,8,aj w b c A {s with es:=es1,em:=em1}++[(10,tO [.int 0 5105,.ref 1121,.ref (Zd (vv 0 1) 1971)]),(11,iO 121 (Zd (vv 0 2) 1971)),(12,iD (PP w b c) I)]⟩,cS (cB "list.__getitem__" [rA A 5,.int I.rs1 (I.t 2)]) 16 14 [(5,d5 (PP w b c) A s)] (rV (bh s j)) 16 14,⟨cB "list.__setitem__" [rA A 5,.int I.rd (I.t 1),.int (Za ((s.r j).1+(Za I.im 4294967295)) 4294967295) (Zd (tt 0) 5585)],22,28,[(5,d5 (PP w b c) A s)],rV .none,22,28,[(5,d5 (PP w b c) A ⟨s.z,s.p,r1,s.pc,s.md,s.sp,es1,em1⟩)]⟩] [(bne I.rd 0,true)] (cR 1965 [.ref (Zd (A.a 0) 1971),.int wd (Zd tw 5571)]) 7 (aj w b c A s) (rV .none) 22 (aj w b c A ⟨s.z,s.p,r1,(Za (s.pc.1+4) 4294967295,Zd (tt 0) 5594),s.md,s.sp,es1,em1⟩++[(10,tO [.int 0 5105,.ref 1121,.ref (Zd (vv 0 1) 1971)]),(11,iO 121 (Zd (vv 0 2) 1971)),(12,iD (PP w b c) I)]) 34:=ap (hm ([0]++yO++[0,0,9,6001002,9,2012013,9,9,9,0,0,0,0,21,9021000,21,0,0,0,0,1006022,0,22,1,22,22,2001002,22,6,6,6,1004,9,2001002,0,9,5001002])) rfl rfl fun bl p=>by kernel_rfl
end
section
variable(w:Z8)(b c:Bool)(A:AS)(s:BS)(gh:gHs)(n t L:Nat)(wd:Int)(tw j j2 sp1 em1:Nat)(I:IS)(z1 p1 r1:Nat→Int×Nat)(pc1 md1:Int×Nat)(es1:Array Z7)
include w b c A s gh n t L wd tw j j2 sp1 em1 I z1 p1 r1 pc1 md1 es1
theorem rW:bk w b c A gh L 40 [(10,Zd n 1971)] [(0,Zd t 5571)] [cS (cB "dict.get" [rA A 6,.int wd (Zd tw 5571)]) 12 5 [(6,d6 (PP w b c) A s)] (rV (rA A 7)) 12 6,cS (cB "list.__getitem__" [rA A 5,.int I.rs1 (I.t 2)]) 15 12 [(5,d5 (PP w b c) A s)] (rV (bh s j)) 15 12,⟨cB "list.__setitem__" [rA A 5,.int I.rd (I.t 1),.int (Za ((s.r j).1+(Za I.im 4294967295)) 4294967295) (Zd t 5591)],21,26,[(5,d5 (PP w b c) A s)],rV .none,21,26,[(5,d5 (PP w b c) A ⟨s.z,s.p,r1,s.pc,s.md,s.sp,s.es,s.em⟩)]⟩] [(bne I.rd 0,true)] (cR 1965 [.ref (Zd (A.a 0) 1971),.int wd (Zd tw 5571)]) 10 (aj w b c A s++[(7,tO [.int 0 5105,.ref 1121,.ref (Zd (A.a 8) 1971)]),(8,iO 121 (Zd (A.a 9) 1971)),(9,iD (PP w b c) I)]) (rV .none) 21 (aj w b c A ⟨s.z,s.p,r1,(Za (s.pc.1+4) 4294967295,Zd t 5600),s.md,s.sp,s.es,s.em⟩++[(7,tO [.int 0 5105,.ref 1121,rA A 8]),(8,iO 121 (Zd (A.a 9) 1971)),(9,iD (PP w b c) I)]) 32:=ap (hm ([0]++yP++[0,0,12,6001002,12,2009010,12,12,12,0,0,0,0,20,9020000,20,0,0,0,0,1006021,0,21,1,21,21,2001002,21,6,6,6,1003,12,2001002,0,12,5001002])) rfl rfl fun bl p=>by kernel_rfl
end
section
variable(w:Z8)(b c:Bool)(A:AS)(s:BS)(gh:gHs)(n t L:Nat)(nn tt:Nat→Nat)(vv:Nat→Nat→Nat)(wd:Int)(tw j j2 sp1 em1:Nat)(I:IS)(z1 p1 r1:Nat→Int×Nat)(pc1 md1:Int×Nat)(es1:Array Z7)
include w b c A s gh n t L nn tt vv wd tw j j2 sp1 em1 I z1 p1 r1 pc1 md1 es1
theorem p7:bk w b c A gh L 40 [(13,Zd (nn 0) 1971),(12,Zd (vv 0 2) 1971),(11,Zd (vv 0 1) 1971),(10,Zd (vv 0 0) 1971),(7,Zd n 1971)] [(8,Zd (tt 0) 5571),(0,Zd t 5571)] [cS (cB "dict.get" [rA A 6,.int wd (Zd tw 5571)]) 9 5 [(6,d6 (PP w b c) A s)] (rV .none) 9 6,⟨cR 1870 [rA A 0,.int wd (Zd tw 5571)],9,7,aj w b c A s,rV (.ref (Zd (vv 0 0) 1971)),13,8,aj w b c A {s with es:=es1,em:=em1}++[(10,tO [.int 0 5105,.ref 1121,.ref (Zd (vv 0 1) 1971)]),(11,iO 121 (Zd (vv 0 2) 1971)),(12,iD (PP w b c) I)]⟩,cS (cB "list.__getitem__" [rA A 5,.int I.rs1 (I.t 2)]) 16 14 [(5,d5 (PP w b c) A s)] (rV (bh s j)) 16 14] [(bne I.rd 0,false)] (cR 1965 [.ref (Zd (A.a 0) 1971),.int wd (Zd tw 5571)]) 7 (aj w b c A s) (rV .none) 22 (aj w b c A ⟨s.z,s.p,s.r,(Za (s.pc.1+4) 4294967295,Zd (tt 0) 5593),s.md,s.sp,es1,em1⟩++[(10,tO [.int 0 5105,.ref 1121,.ref (Zd (vv 0 1) 1971)]),(11,iO 121 (Zd (vv 0 2) 1971)),(12,iD (PP w b c) I)]) 33:=ap (hm ([0]++yO++[0,0,9,6001002,9,2012013,9,9,9,0,0,0,0,21,9021000,21,0,0,0,0,1006022,0,22,2,9,2001002,0,9,5001002])) rfl rfl fun bl p=>by kernel_rfl
end
section
variable(w:Z8)(b c:Bool)(A:AS)(s:BS)(gh:gHs)(n t L:Nat)(wd:Int)(tw j j2 sp1 em1:Nat)(I:IS)(z1 p1 r1:Nat→Int×Nat)(pc1 md1:Int×Nat)(es1:Array Z7)
include w b c A s gh n t L wd tw j j2 sp1 em1 I z1 p1 r1 pc1 md1 es1
theorem qX:bk w b c A gh L 40 [(10,Zd n 1971)] [(0,Zd t 5571)] [cS (cB "dict.get" [rA A 6,.int wd (Zd tw 5571)]) 12 5 [(6,d6 (PP w b c) A s)] (rV (rA A 7)) 12 6,cS (cB "list.__getitem__" [rA A 5,.int I.rs1 (I.t 2)]) 15 12 [(5,d5 (PP w b c) A s)] (rV (bh s j)) 15 12] [(bne I.rd 0,false)] (cR 1965 [.ref (Zd (A.a 0) 1971),.int wd (Zd tw 5571)]) 10 (aj w b c A s++[(7,tO [.int 0 5105,.ref 1121,.ref (Zd (A.a 8) 1971)]),(8,iO 121 (Zd (A.a 9) 1971)),(9,iD (PP w b c) I)]) (rV .none) 21 (aj w b c A ⟨s.z,s.p,s.r,(Za (s.pc.1+4) 4294967295,Zd t 5599),s.md,s.sp,s.es,s.em⟩++[(7,tO [.int 0 5105,.ref 1121,rA A 8]),(8,iO 121 (Zd (A.a 9) 1971)),(9,iD (PP w b c) I)]) 31:=ap (hm ([0]++yP++[0,0,12,6001002,12,2009010,12,12,12,0,0,0,0,20,9020000,20,0,0,0,0,1006021,0,21,2,12,2001002,0,12,5001002])) rfl rfl fun bl p=>by kernel_rfl
end
abbrev ru(k u:Nat→Nat)(i:Nat):IS:=⟨k,u,jl i,0,0,0,0,0⟩
abbrev UP(P:Z5)(a8 a9:Nat)(I:IS):gHs:=[(ad a8,iO 121 (ad a9)),(ad a9,iD P I)]
inductive RestX (w:Z8) (b c:Bool) (A:AS) (s:BS) (i:Nat) (fz:Nat→Int) (pc md:Int) (k u:Nat→Nat) (a8 a9:Nat) (gh:gHs) (n t:Nat) (wd:Int) (tw:Nat):Prop where
  |mk (z1:Nat→Int×Nat) (sp1 pt mt n' t':Nat) (h0_:∀j,(z1 j).1=fz j) (h1_:TB w b c A 40 (.call (.ref 1891) ⟨[.ref (ad (A.a 0)),.ref (ad a8),.int wd tw],[]⟩) gh (UP (PP w b c) a8 a9 (ru k u i)) s n t (.ok (.ret .none)) gh (UP (PP w b c) a8 a9 (ru k u i)) ⟨z1,s.p,s.r,(pc,pt),(md,mt),sp1,s.es,s.em⟩ n' t'):RestX w b c A s i fz pc md k u a8 a9 gh n t wd tw
def jS(w:Z8)(b c:Bool)(A:AS)(s:BS)(i:Nat)(fz:Nat→Int)(pc md:Int):Prop:=∀(k u:Nat→Nat) (a8 a9:Nat) (gh:gHs) (n t:Nat) (wd:Int) (tw:Nat),RestX w b c A s i fz pc md k u a8 a9 gh n t wd tw
inductive RestRX (w:Z8) (b c:Bool) (A:AS) (s:BS) (i:Nat) (R:RC) (f:Nat→Nat) (k u:Nat→Nat) (a8 a9:Nat) (gh:gHs) (n t m tw:Nat):Prop where
  |mk (xa xf e xd xb n' t':Nat) (xt xh:Z6) (xbb:Bool) (ek:Nat→Nat) (Rs:Str) (pl:Nat→Z6) (h0_:TA w b c A 40 (QP R.it (ad (f 2)) (ad (f 3)) (ad (f 4)) R.c1 R.c2 R.c3 R.q) (.call (.ref 1891) ⟨[.ref (ad (A.a 0)),.ref (ad a8),.int (Zo m) tw],[]⟩) gh
   [(ad a8,iO 121 (ad a9)),(ad a9,iD (PP w b c) (ru k u i)),(ad (f 2),aY (R.fe 2) (R.fm 2) #[]),(ad (f 3),aY (R.fe 3) (R.fm 3) #[]),(ad (f 4),aY (R.fe 4) (R.fm 4) R.sl)] s n t (.error (.ref (ad e))) gh
   [(ad a8,iO 121 (ad a9)),(ad a9,iD (PP w b c) (ru k u i)),(ad (f 2),aY (R.fe 2) (R.fm 2) (bH 1876 1877 (.ref (ad (f 3))))),(ad (f 3),aY (R.fe 3) (R.fm 3) (bH 1964 1965 (.ref (ad (f 4))))),(ad (f 4),aY (R.fe 4) (R.fm 4) (ck R.c1 R.c2 R.c3)),
    (ad e,O9 xa (ad xd) (ad xb) xh xbb),(ad xd,vX (PP w b c) ek Rs (Zo m) tw),(ad xb,fF xt xf .none pl)] s n' t'):RestRX w b c A s i R f k u a8 a9 gh n t m tw
def rZ(w:Z8)(b c:Bool)(A:AS)(s:BS)(i:Nat):Prop:=∀(R:RC) (f:Nat→Nat) (k u:Nat→Nat) (a8 a9:Nat) (gh:gHs) (n t m tw:Nat),2^28≤m→m<2^32→R.ok→RestRX w b c A s i R f k u a8 a9 gh n t m tw
theorem JA{α:Type}(l:List α)(a b x y z:α)(Z:List α):(l++(a::x::y::z::b::Z)).Perm (l++(a::b::x::y::z::Z)):=
  List.Perm.append_left l (List.Perm.cons a (List.perm_middle (a:=b) (l₁:=[x,y,z]) (l₂:=Z)))
def aN(A:AS)(a8 a9:Nat)(f:Nat→Nat):AS:=⟨eZ [(7,a8),(8,f 2),(9,f 3),(10,f 4),(11,a9)] A.a,A.k⟩
abbrev l5(w:Z8)(b c:Bool)(A:AS)(s:BS)(a8 a9:Nat)(f:Nat→Nat)(n:Nat):gHs:=eD (bz (bx (aN A a8 a9 f)) [(12,Zd n 1971)]) (aj w b c (aN A a8 a9 f) s)
theorem wx{M:Model}{S:HT}{B:Nat}{C:Ctx→Prop}{cd:Xo}{gh gh':gHs}{n t n' t':Nat}{r:Xc}{l l':gHs}{a e x y z a' e' x' y' z':Z9×Obj}{Z Z':gHs}(H:TriC M S B C cd gh (l++(a::x::y::z::e::Z)) n t r gh' (l'++(a'::x'::y'::z'::e'::Z')) n' t'):TriC M S B C cd gh (l++(a::e::x::y::z::Z)) n t r gh' (l'++(a'::e'::x'::y'::z'::Z')) n' t':=
  cW H (JA _ _ _ _ _ _ _) (JA _ _ _ _ _ _ _)
def zD(s:BS):Nat→Int:=bc (vz s) 768 (Zb (Zb (Za (s.z 768).1 4294835965) (cond (bne (Za (s.z 768).1 32) 0) 2 0)) 32)
noncomputable def iQ(s:BS):Int:=cond (bne (Za (s.z 768).1 256) 0) 1 0
noncomputable abbrev fW(s:BS):Int:=Za (s.pc.1+4) 4294967295
section
variable(w:Z8)(b c:Bool)(A:AS)(s:BS)
include w b c A s
theorem Qv:jS w b c A s 1 (vz s) (fW s) s.md.1:=fun k u a8 a9 gh n t wd tw=>
  ⟨s.z,s.sp,Zd t 5578,s.md.2,n+7,t+23,fun _=>rfl,kE (FF w b c (aX A a8 a9 0) s gh n t 0 wd tw k u)⟩
theorem FV:jS w b c A s 2 (vz s) (fW s) s.md.1:=fun k u a8 a9 gh n t wd tw=>
  ⟨s.z,s.sp,Zd t 5578,s.md.2,n+7,t+24,fun _=>rfl,kE (zz w b c (aX A a8 a9 0) s gh n t 0 wd tw k u)⟩
theorem Cz:jS w b c A s 4 (vz s) (fW s) s.md.1:=fun k u a8 a9 gh n t wd tw=>
  ⟨s.z,s.sp,Zd t 5578,s.md.2,n+7,t+24,fun _=>rfl,kE (vA w b c (aX A a8 a9 0) s gh n t 0 wd tw k u)⟩
theorem Uh(h:(Xl s.md.1 0)=false):jS w b c A s 3 (vz s) (fW s) s.md.1:=fun k u a8 a9 gh n t wd tw=>
  ⟨s.z,Zd n 1978,Zd t 5578,s.md.2,n+8,t+25,fun _=>rfl,kE (LF w b c (aX A a8 a9 0) s gh n t 0 wd tw k u (fc h aa))⟩
theorem LO(h:(decide (Xm s.md.1 1))=false):jS w b c A s 5 (zD s) (s.p 321).1 (iQ s):=by
  intro k u a8 a9 gh n t wd tw
  unfold zD iQ
  cases h8:bne (Za (s.z 768).1 256) 0<;>cases h5:bne (Za (s.z 768).1 32) 0
  · exact⟨up s.z 768 (Zb (Zb (Za (s.z 768).1 4294835965) 0) 32) (Zd t 5610),Zd n 1984,(s.p 321).2,4327,n+14,t+52,fun j=>bB _ _ _ _ j,kE (vB w b c (aX A a8 a9 0) s gh n t 0 wd tw k u (fc h5 (fc h8 (fc h aa))))⟩
  · exact⟨up s.z 768 (Zb (Zb (Za (s.z 768).1 4294835965) 2) 32) (Zd t 5609),Zd n 1984,(s.p 321).2,4327,n+14,t+51,fun j=>bB _ _ _ _ j,kE (vC w b c (aX A a8 a9 0) s gh n t 0 wd tw k u (fc h5 (fc h8 (fc h aa))))⟩
  · exact⟨up s.z 768 (Zb (Zb (Za (s.z 768).1 4294835965) 0) 32) (Zd t 5610),Zd n 1984,(s.p 321).2,4329,n+14,t+52,fun j=>bB _ _ _ _ j,kE (vD w b c (aX A a8 a9 0) s gh n t 0 wd tw k u (fc h5 (fc h8 (fc h aa))))⟩
  · exact⟨up s.z 768 (Zb (Zb (Za (s.z 768).1 4294835965) 2) 32) (Zd t 5609),Zd n 1984,(s.p 321).2,4329,n+14,t+51,fun j=>bB _ _ _ _ j,kE (vE w b c (aX A a8 a9 0) s gh n t 0 wd tw k u (fc h5 (fc h8 (fc h aa))))⟩
theorem Qk(h:(Xl s.md.1 0)=true):rZ w b c A s 3:=by
  rintro⟨it,c1,c2,c3,fe,fm,q,sl⟩ f k u a8 a9 gh n t m tw h1 h2 hs
  rcases(show sl=#[]∨sl=ck c1 c2 c3 from hs) with rfl|rfl
  · obtain⟨PL,h9⟩:=FE w b c (aN A a8 a9 f) s gh n t 0 (Zo m) tw it c1 c2 c3 k u (cc (cC m)) fe fm q (fk (bQ h1 h2)<|aa) (fc h aa)
    exact⟨Zd n 1981,Zd n 1971,n+7,n+11,n+12,n+13,t+42,.none,.none,false,gn (Zd t 5608) (Zd t 5610) (Zd t 5612) (Zd t 5603),gk m,PL,kF (wx (l:=l5 w b c A s a8 a9 f n) (l':=l5 w b c A s a8 a9 f n) h9)⟩
  · obtain⟨PL,h9⟩:=zx w b c (aN A a8 a9 f) s gh n t 0 (Zo m) tw it c1 c2 c3 k u (cc (cC m)) fe fm q (fk (bQ h1 h2)<|aa) (fc h aa)
    exact⟨Zd n 1981,Zd n 1971,n+7,n+11,n+12,n+13,t+42,.none,.none,false,gn (Zd t 5608) (Zd t 5610) (Zd t 5612) (Zd t 5603),gk m,PL,kF (wx (l:=l5 w b c A s a8 a9 f n) (l':=l5 w b c A s a8 a9 f n) h9)⟩
theorem FT(h:(decide (Xm s.md.1 3))=true):rZ w b c A s 0:=by
  rintro⟨it,c1,c2,c3,fe,fm,q,sl⟩ f k u a8 a9 gh n t m tw h1 h2 hs
  rcases(show sl=#[]∨sl=ck c1 c2 c3 from hs) with rfl|rfl
  · obtain⟨PL,h9⟩:=zw w b c (aN A a8 a9 f) s gh n t 0 (Zo m) tw it c1 c2 c3 k u (cc (cC m)) fe fm q (fk (bQ h1 h2)<|aa) (fc h aa)
    exact⟨Zd n 1982,Zd n 1971,n+8,n+12,n+14,n+15,t+45,.ref (Zd n 1984),.none,false,gn (Zd t 5611) (Zd t 5613) (Zd t 5615) (Zd t 5606),gk m,PL,kF (wx (l:=l5 w b c A s a8 a9 f n) (l':=l5 w b c A s a8 a9 f n) h9)⟩
  · obtain⟨PL,h9⟩:=uU w b c (aN A a8 a9 f) s gh n t 0 (Zo m) tw it c1 c2 c3 k u (cc (cC m)) fe fm q (fk (bQ h1 h2)<|aa) (fc h aa)
    exact⟨Zd n 1982,Zd n 1971,n+8,n+12,n+14,n+15,t+45,.ref (Zd n 1984),.none,false,gn (Zd t 5611) (Zd t 5613) (Zd t 5615) (Zd t 5606),gk m,PL,kF (wx (l:=l5 w b c A s a8 a9 f n) (l':=l5 w b c A s a8 a9 f n) h9)⟩
theorem FU(h:(decide (Xm s.md.1 1))=true):rZ w b c A s 5:=by
  rintro⟨it,c1,c2,c3,fe,fm,q,sl⟩ f k u a8 a9 gh n t m tw h1 h2 hs
  rcases(show sl=#[]∨sl=ck c1 c2 c3 from hs) with rfl|rfl
  · obtain⟨PL,h9⟩:=zy w b c (aN A a8 a9 f) s gh n t 0 (Zo m) tw it c1 c2 c3 k u (cc (cC m)) fe fm q (fk (bQ h1 h2)<|aa) (fc h aa)
    exact⟨Zd n 1982,Zd n 1971,n+8,n+12,n+14,n+15,t+45,.ref (Zd n 1984),.none,false,gn (Zd t 5611) (Zd t 5613) (Zd t 5615) (Zd t 5606),gk m,PL,kF (wx (l:=l5 w b c A s a8 a9 f n) (l':=l5 w b c A s a8 a9 f n) h9)⟩
  · obtain⟨PL,h9⟩:=uV w b c (aN A a8 a9 f) s gh n t 0 (Zo m) tw it c1 c2 c3 k u (cc (cC m)) fe fm q (fk (bQ h1 h2)<|aa) (fc h aa)
    exact⟨Zd n 1982,Zd n 1971,n+8,n+12,n+14,n+15,t+45,.ref (Zd n 1984),.none,false,gn (Zd t 5611) (Zd t 5613) (Zd t 5615) (Zd t 5606),gk m,PL,kF (wx (l:=l5 w b c A s a8 a9 f n) (l':=l5 w b c A s a8 a9 f n) h9)⟩
theorem kO{i:Nat}(hi:i<6){fz:Nat→Int}{pc md:Int}(hR:∀(es:Array Z7) (em:Nat),jS w b c A {s with es:=es,em:=em} i fz pc md):gF w b c A s (.nm i) fz (vp s) (vr s) pc md:=by
  intro gh n t tw hk hz
  have hI:(Ins.nm i).ok:=hi
  let m:=mT i
  rcases hk.look (I:=.nm i) hI with hm|⟨a7,a8,a9,k,u,hl,ha,hx⟩
  · have hm:fIdx s.es.toList (Zo m)=none:=hm
    have hl':bC s.es.toList (Zo m)=none:=by unfold bC;rw[hm]
    obtain⟨a7,a8,a9,k,u,n0,t0,g1,g2,g3,ha,H0⟩:=gm w b c A (I:=.nm i) hI s [] (n+2) (t+7) tw hk.keys hz hm
    obtain⟨z1,sp1,pt,mt,n1,t1,ez,H1⟩:=hR (s.es.push ⟨Zo m,.int (Zo m) (Zd tw 5571),.ref (ad a7)⟩) (Zd s.em 1) k u a8 a9 [] (n0+7) (t0+9) (Zo m) (Zd tw 5571)
    have key:=vd w b c A s [] n t 40 (az [n0,n1]) (az [t0,t1]) (vT 0 a7 a8 a9) (Zo m) tw 0 0 sp1 (Zd s.em 1) (ru k u i) z1 s.p s.r (pc,pt) (md,mt) (s.es.push ⟨Zo m,.int (Zo m) (Zd tw 5571),.ref (ad a7)⟩) (fk (TriC.cast (bP ac ch (d:=ad (A.a 6)) (o:=d6 (PP w b c) A s) (l:=s.es.toList) (ep:=s.em) (k:=Zo m) (u:=Zd tw 5571) rfl hk.keys) (by kernel_rfl) rfl rfl (by kernel_rfl) rfl rfl rfl rfl (by rw[hl'];rfl))<|fk (kd H0)<|fk (kc (aB ac (m:=0) (r:=s.r) (i:=0) (by decide)))<|fk (kd H1)<|aa)
    refine⟨z1,s.p,s.r,pt,mt,sp1,Zd s.em 1,n1+0,t1+0,_,_,ez,fun _=>rfl,fun _=>rfl,hk.push (I:=.nm i) (tw:=Zd tw 5571) (k:=k) (u:=u) hI ha,?_,fun y hy=>Qr _ hy,fun y hy=>?_,?_⟩
    · rw[Xw,Ql];exact Zm _
    · exact(Qu.mp hy).elim (fun z=>.inr (cx (by omega) (by omega) (by omega) y z)) .inl
    · exact TriC.mono (cA (by decide)) (TriC.cast (cV (kE key (post1:=bd w b c A ⟨z1,s.p,s.r,(pc,pt),(md,mt),sp1,s.es.push ⟨Zo m,.int (Zo m) (Zd tw 5571),.ref (ad a7)⟩,Zd s.em 1⟩++rowI (PP w b c) a7 a8 a9 (.nm i) k u)) (gh:=gh) (cx (by omega) (by omega) (by omega))) (bA _) rfl rfl (bA _) rfl rfl rfl rfl rfl)
  · have hl:bC s.es.toList (Zo m)=some (.ref (ad a7)):=hl
    obtain⟨z1,sp1,pt,mt,n0,t0,ez,H1⟩:=hR s.es s.em k u a8 a9 [] (n+9) (t+15) (Zo m) (Zd tw 5571)
    have key:=vP w b c (aX A a7 a8 a9) s [] n t 40 (az [n0]) (az [t0]) (fun _ _=>0) (Zo m) tw 0 0 sp1 s.em (ru k u i) z1 s.p s.r (pc,pt) (md,mt) s.es (fk (TriC.cast (bP ac ch (d:=ad (A.a 6)) (o:=d6 (PP w b c) A s) (l:=s.es.toList) (ep:=s.em) (k:=Zo m) (u:=Zd tw 5571) rfl hk.keys) (by kernel_rfl) rfl rfl (by kernel_rfl) rfl rfl rfl rfl (by rw[hl];rfl))<|fk (kc (aB ac (m:=0) (r:=s.r) (i:=0) (by decide)))<|fk (kd H1)<|aa)
    refine⟨z1,s.p,s.r,pt,mt,sp1,s.em,n0+0,t0+0,s.es,gh,ez,fun _=>rfl,fun _=>rfl,hk,Nat.le_succ _,fun y hy=>hy,fun y hy=>.inl hy,?_⟩
    exact TriC.mono (cA (by decide)) (TriC.cast (cX (X:=rowI (PP w b c) a7 a8 a9 (.nm i) k u) (kE key (pre1:=bd w b c A s++rowI (PP w b c) a7 a8 a9 (.nm i) k u) (post1:=bd w b c A ⟨z1,s.p,s.r,(pc,pt),(md,mt),sp1,s.es,s.em⟩++rowI (PP w b c) a7 a8 a9 (.nm i) k u)) hx fD (gw ha)) (bA _) rfl rfl (bA _) rfl rfl rfl rfl rfl)
theorem CI{bl:List (Xo×Z4)}{cd:Xo}{gh pre:gHs}{n t:Nat}{r:Xc}{gh' post:gHs}{n' t':Nat}(H:TriAt (MM w b c) (cn (PP w b c)) 1971 80 bl cd gh pre n t r gh' post n' t'):TriAt (MM w b c) (cn (PP w b c)) 1971 120 bl cd gh pre n t r gh' post n' t':=TriC.mono (fun Γ h=>⟨cA (by decide) Γ h.1,h.2⟩) H
theorem oY{i:Nat}(hi:i<6)(hb:2^28≤mT i)(hR:∀(es:Array Z7) (em:Nat),rZ w b c A {s with es:=es,em:=em} i):xP w b c A s (.nm i):=by
  rintro⟨it,c1,c2,c3,fe,fm,q,sl⟩ f hs gh n t tw hk hz
  have hI:(Ins.nm i).ok:=hi
  have hsm:=BR i hi
  let m:=mT i
  rcases hk.look (I:=.nm i) hI with hm|⟨a7,a8,a9,k,u,hl,ha,hx⟩
  · have hm:fIdx s.es.toList (Zo m)=none:=hm
    have hl':bC s.es.toList (Zo m)=none:=by unfold bC;rw[hm]
    obtain⟨a7,a8,a9,k,u,n0,t0,g1,g2,g3,ha,H0⟩:=gm w b c A (I:=.nm i) hI s [] (n+2) (t+7) tw hk.keys hz hm
    obtain⟨xa,xf,e0,xd,xb,n1,t1,xt,xh,xbb,ek,Rs,pl,H1⟩:=hR (s.es.push ⟨Zo m,.int (Zo m) (Zd tw 5571),.ref (ad a7)⟩) (Zd s.em 1) (RC.mk it c1 c2 c3 (fun i=>cond (Ze i 2) ⟨[ae w b c gB (Zd t 5573) (.ref (Zd (A.a 0) 1971)),ae w b c gD (Zd t 5574) (.int (Zo m) (Zd tw 5571)),ae w b c mq (Zd t 5577) (.ref (Zd a7 1971)),ae w b c dv (Zd t0 5572) (.int 5 5115),ae w b c mr (Zd t0 5573) .none,ae w b c gC (Zd t0 5574) (.ref (Zd a8 1971)),ae w b c cP (Zd t0 5578) (.int 0 (u 4)),ae w b c kV (Zd t0 5579) (bh s 0)]⟩ (cond (Ze i 3) ⟨[ae w b c gU (Zd t 5571) (.ref (Zd (A.a 0) 1971)),ae w b c kW (Zd t 5572) (.int (Zo m) (Zd tw 5571))]⟩ (fe i))) (fun i=>cond (Ze i 2) 8 (cond (Ze i 3) 2 (fm i))) (fun i=>cond (Ze i 2) ⟨722,12,722,48⟩ (cond (Ze i 3) ⟨850,15,850,33⟩ (q i))) sl) (fun i=>cond (Ze i 2) (n+1) (cond (Ze i 3) (n+0) (f i))) k u a8 a9 [] (n0+7) (t0+9) m (Zd tw 5571) hb hsm hs
    have key:=rX w b c (aM A (f 4)) s [] n t 40 (az [n0,n1]) (az [t0,t1]) (fun i j=>cond (Ze i 0) (vT 0 a7 a8 a9 0 j) (vT 1 e0 xd xb i j)) (Zo m) tw 0 (Zd s.em 1) it c1 c2 c3 xa xf xh xt xbb (ru k u i) ek Rs pl (s.es.push ⟨Zo m,.int (Zo m) (Zd tw 5571),.ref (ad a7)⟩) fe fm q sl (fk (TriC.cast (bP ac ch (d:=ad (A.a 6)) (o:=d6 (PP w b c) A s) (l:=s.es.toList) (ep:=s.em) (k:=Zo m) (u:=Zd tw 5571) rfl hk.keys) (by kernel_rfl) rfl rfl (by kernel_rfl) rfl rfl rfl rfl (by rw[hl'];rfl))<|fk (kd H0)<|fk (kc (aB ac (m:=0) (r:=s.r) (i:=0) (by decide)))<|aa) (ab ⟨by kernel_rfl,bp (by kernel_rfl) (kd H1)⟩ aa)
    refine⟨Zd s.em 1,n1+2,n1+3,t1+4,_,_,hk.push (I:=.nm i) (tw:=Zd tw 5571) (k:=k) (u:=u) hI ha,?_,fun y hy=>Qr _ hy,fun y hy=>?_,?_⟩
    · rw[Xw,Ql];exact Zm _
    · exact(Qu.mp hy).elim (fun z=>.inr (cx (by omega) (by omega) (by omega) y z)) .inl
    · refine CI w b c A s (cV (Y:=rowI (PP w b c) a7 a8 a9 (.nm i) k u) (cW (kF key (pre1:=bd w b c A s++[(ad (f 4),aY (fe 4) (fm 4) sl)]) (post1:=bd w b c A ⟨s.z,s.p,s.r,s.pc,s.md,s.sp,s.es.push ⟨Zo m,.int (Zo m) (Zd tw 5571),.ref (ad a7)⟩,Zd s.em 1⟩++([(ad (f 4),aY (fe 4) (fm 4) (ck c1 c2 c3))]++(rowI (PP w b c) a7 a8 a9 (.nm i) k u++[(ad (n1+2),tO [.int 2 281,.int (Zo m) (Zd tw 5571)])]))) (r1:=.ok (.ret (.ref (ad (n1+2)))))) (List.Perm.refl _) ?_) (cx (by omega) (by omega) (by omega)))
      rw[Qs]
      exact List.Perm.append_left _ (List.Perm.cons _ (Qn (l₁:=rowI _ _ _ _ _ _ _) (l₂:=[_])))
  · have hl:bC s.es.toList (Zo m)=some (.ref (ad a7)):=hl
    obtain⟨xa,xf,e0,xd,xb,n0,t0,xt,xh,xbb,ek,Rs,pl,H1⟩:=hR s.es s.em (RC.mk it c1 c2 c3 (fun i=>cond (Ze i 2) ⟨[ae w b c gB (Zd t 5573) (.ref (Zd (A.a 0) 1971)),ae w b c gD (Zd t 5574) (.int (Zo m) (Zd tw 5571)),ae w b c mq (Zd t 5577) (.ref (Zd a7 1971)),ae w b c dv (Zd t 5578) (.int 5 5115),ae w b c mr (Zd t 5579) .none,ae w b c gC (Zd t 5580) (.ref (Zd a8 1971)),ae w b c cP (Zd t 5584) (.int 0 (u 4)),ae w b c kV (Zd t 5585) (bh s 0)]⟩ (cond (Ze i 3) ⟨[ae w b c gU (Zd t 5571) (.ref (Zd (A.a 0) 1971)),ae w b c kW (Zd t 5572) (.int (Zo m) (Zd tw 5571))]⟩ (fe i))) (fun i=>cond (Ze i 2) 8 (cond (Ze i 3) 2 (fm i))) (fun i=>cond (Ze i 2) ⟨722,12,722,48⟩ (cond (Ze i 3) ⟨850,15,850,33⟩ (q i))) sl) (fun i=>cond (Ze i 2) (n+1) (cond (Ze i 3) (n+0) (f i))) k u a8 a9 [] (n+9) (t+15) m (Zd tw 5571) hb hsm hs
    have key:=vc w b c (aH A a7 a8 a9 (f 4)) s [] n t 40 (az [n0]) (az [t0]) (vT 0 e0 xd xb) (Zo m) tw 0 s.em it c1 c2 c3 xa xf xh xt xbb (ru k u i) ek Rs pl s.es fe fm q sl (fk (TriC.cast (bP ac ch (d:=ad (A.a 6)) (o:=d6 (PP w b c) A s) (l:=s.es.toList) (ep:=s.em) (k:=Zo m) (u:=Zd tw 5571) rfl hk.keys) (by kernel_rfl) rfl rfl (by kernel_rfl) rfl rfl rfl rfl (by rw[hl];rfl))<|fk (kc (aB ac (m:=0) (r:=s.r) (i:=0) (by decide)))<|aa) (ab ⟨by kernel_rfl,bp (by kernel_rfl) (kd H1)⟩ aa)
    refine⟨s.em,n0+2,n0+3,t0+4,s.es,gh,hk,Nat.le_succ _,fun y hy=>hy,fun y hy=>.inl hy,?_⟩
    refine CI w b c A s (cX (X:=rowI (PP w b c) a7 a8 a9 (.nm i) k u) (cW (kF key (pre1:=bd w b c A s++(rowI (PP w b c) a7 a8 a9 (.nm i) k u++[(ad (f 4),aY (fe 4) (fm 4) sl)])) (post1:=bd w b c A s++(rowI (PP w b c) a7 a8 a9 (.nm i) k u++[(ad (f 4),aY (fe 4) (fm 4) (ck c1 c2 c3)),(ad (n0+2),tO [.int 2 281,.int (Zo m) (Zd tw 5571)])])) (r1:=.ok (.ret (.ref (ad (n0+2)))))) ?_ ?_) hx fD (gw ha))
    · rw[Qs];exact List.Perm.append_left _ Qn
    · rw[Qs];exact List.Perm.append_left _ Qn
theorem zK{rd r1 r2:Nat}(h:(Ins.ad rd r1 r2).ok)(hz0:(bne (Zo rd) 0)=true):gF w b c A s (.ad rd r1 r2) (vz s) (vp s) (bc (vr s) rd (Za ((s.r r1).1+(s.r r2).1) 4294967295)) (fW s) s.md.1:=by
  intro gh n t tw hk hz
  have hI:(Ins.ad rd r1 r2).ok:=h
  let m:=(Ins.ad rd r1 r2).w
  rcases hk.look (I:=.ad rd r1 r2) hI with hm|⟨a7,a8,a9,k,u,hl,ha,hx⟩
  · have hm:fIdx s.es.toList (Zo m)=none:=hm
    have hl':bC s.es.toList (Zo m)=none:=by unfold bC;rw[hm]
    obtain⟨a7,a8,a9,k,u,n0,t0,g1,g2,g3,ha,H0⟩:=gm w b c A (I:=.ad rd r1 r2) hI s [] (n+2) (t+7) tw hk.keys hz hm
    have key:=rU w b c A s [] n t 40 (az [n0]) (az [t0]) (vT 0 a7 a8 a9) (Zo m) tw r1 r2 0 (Zd s.em 1) ((Ins.ad rd r1 r2).is k u) s.z s.p (up s.r rd (Za ((s.r r1).1+(s.r r2).1) 4294967295) (Zd t0 5586)) s.pc s.md (s.es.push ⟨Zo m,.int (Zo m) (Zd tw 5571),.ref (ad a7)⟩) (fk (TriC.cast (bP ac ch (d:=ad (A.a 6)) (o:=d6 (PP w b c) A s) (l:=s.es.toList) (ep:=s.em) (k:=Zo m) (u:=Zd tw 5571) rfl hk.keys) (by kernel_rfl) rfl rfl (by kernel_rfl) rfl rfl rfl rfl (by rw[hl'];rfl))<|fk (kd H0)<|fk (kc (aB ac (m:=0) (r:=s.r) (i:=r1) h.2.1))<|fk (kc (aB ac (m:=0) (r:=s.r) (i:=r2) h.2.2))<|fk (kc (bO ac (m:=0) (r:=s.r) (i:=rd) (x:=(Za ((s.r r1).1+(s.r r2).1) 4294967295)) (y:=(Zd t0 5586)) h.1))<|aa) (fc hz0 aa)
    refine⟨s.z,s.p,up s.r rd (Za ((s.r r1).1+(s.r r2).1) 4294967295) (Zd t0 5586),Zd t0 5595,s.md.2,s.sp,Zd s.em 1,n0+9,t0+27,_,_,fun _=>rfl,fun _=>rfl,fun j=>bB _ _ _ _ j,hk.push (I:=.ad rd r1 r2) (tw:=Zd tw 5571) (k:=k) (u:=u) hI ha,?_,fun y hy=>Qr _ hy,fun y hy=>?_,?_⟩
    · rw[Xw,Ql];exact Zm _
    · exact(Qu.mp hy).elim (fun z=>.inr (cx (by omega) (by omega) (by omega) y z)) .inl
    · exact TriC.mono (cA (by decide)) (TriC.cast (cV (kE key (post1:=bd w b c A ⟨s.z,s.p,up s.r rd (Za ((s.r r1).1+(s.r r2).1) 4294967295) (Zd t0 5586),(fW s,Zd t0 5595),s.md,s.sp,s.es.push ⟨Zo m,.int (Zo m) (Zd tw 5571),.ref (ad a7)⟩,Zd s.em 1⟩++rowI (PP w b c) a7 a8 a9 (.ad rd r1 r2) k u)) (gh:=gh) (cx (by omega) (by omega) (by omega))) (bA _) rfl rfl (bA _) rfl rfl rfl rfl rfl)
  · have hl:bC s.es.toList (Zo m)=some (.ref (ad a7)):=hl
    have key:=vb w b c (aX A a7 a8 a9) s [] n t 40 (Zo m) tw r1 r2 0 s.em ((Ins.ad rd r1 r2).is k u) s.z s.p (up s.r rd (Za ((s.r r1).1+(s.r r2).1) 4294967295) (Zd t 5592)) s.pc s.md s.es (fk (TriC.cast (bP ac ch (d:=ad (A.a 6)) (o:=d6 (PP w b c) A s) (l:=s.es.toList) (ep:=s.em) (k:=Zo m) (u:=Zd tw 5571) rfl hk.keys) (by kernel_rfl) rfl rfl (by kernel_rfl) rfl rfl rfl rfl (by rw[hl];rfl))<|fk (kc (aB ac (m:=0) (r:=s.r) (i:=r1) h.2.1))<|fk (kc (aB ac (m:=0) (r:=s.r) (i:=r2) h.2.2))<|fk (kc (bO ac (m:=0) (r:=s.r) (i:=rd) (x:=(Za ((s.r r1).1+(s.r r2).1) 4294967295)) (y:=(Zd t 5592)) h.1))<|aa) (fc hz0 aa)
    refine⟨s.z,s.p,up s.r rd (Za ((s.r r1).1+(s.r r2).1) 4294967295) (Zd t 5592),Zd t 5601,s.md.2,s.sp,s.em,n+11,t+33,s.es,gh,fun _=>rfl,fun _=>rfl,fun j=>bB _ _ _ _ j,hk,Nat.le_succ _,fun y hy=>hy,fun y hy=>.inl hy,?_⟩
    exact TriC.mono (cA (by decide)) (TriC.cast (cX (X:=rowI (PP w b c) a7 a8 a9 (.ad rd r1 r2) k u) (kE key (pre1:=bd w b c A s++rowI (PP w b c) a7 a8 a9 (.ad rd r1 r2) k u) (post1:=bd w b c A ⟨s.z,s.p,up s.r rd (Za ((s.r r1).1+(s.r r2).1) 4294967295) (Zd t 5592),(fW s,Zd t 5601),s.md,s.sp,s.es,s.em⟩++rowI (PP w b c) a7 a8 a9 (.ad rd r1 r2) k u)) hx fD (gw ha)) (bA _) rfl rfl (bA _) rfl rfl rfl rfl rfl)
theorem zL{rd r1 r2:Nat}(h:(Ins.ad rd r1 r2).ok)(hz0:(bne (Zo rd) 0)=false):gF w b c A s (.ad rd r1 r2) (vz s) (vp s) (vr s) (fW s) s.md.1:=by
  intro gh n t tw hk hz
  have hI:(Ins.ad rd r1 r2).ok:=h
  let m:=(Ins.ad rd r1 r2).w
  rcases hk.look (I:=.ad rd r1 r2) hI with hm|⟨a7,a8,a9,k,u,hl,ha,hx⟩
  · have hm:fIdx s.es.toList (Zo m)=none:=hm
    have hl':bC s.es.toList (Zo m)=none:=by unfold bC;rw[hm]
    obtain⟨a7,a8,a9,k,u,n0,t0,g1,g2,g3,ha,H0⟩:=gm w b c A (I:=.ad rd r1 r2) hI s [] (n+2) (t+7) tw hk.keys hz hm
    have key:=qW w b c A s [] n t 40 (az [n0]) (az [t0]) (vT 0 a7 a8 a9) (Zo m) tw r1 r2 0 (Zd s.em 1) ((Ins.ad rd r1 r2).is k u) s.z s.p s.r s.pc s.md (s.es.push ⟨Zo m,.int (Zo m) (Zd tw 5571),.ref (ad a7)⟩) (fk (TriC.cast (bP ac ch (d:=ad (A.a 6)) (o:=d6 (PP w b c) A s) (l:=s.es.toList) (ep:=s.em) (k:=Zo m) (u:=Zd tw 5571) rfl hk.keys) (by kernel_rfl) rfl rfl (by kernel_rfl) rfl rfl rfl rfl (by rw[hl'];rfl))<|fk (kd H0)<|fk (kc (aB ac (m:=0) (r:=s.r) (i:=r1) h.2.1))<|fk (kc (aB ac (m:=0) (r:=s.r) (i:=r2) h.2.2))<|aa) (fc hz0 aa)
    refine⟨s.z,s.p,s.r,Zd t0 5594,s.md.2,s.sp,Zd s.em 1,n0+9,t0+26,_,_,fun _=>rfl,fun _=>rfl,fun _=>rfl,hk.push (I:=.ad rd r1 r2) (tw:=Zd tw 5571) (k:=k) (u:=u) hI ha,?_,fun y hy=>Qr _ hy,fun y hy=>?_,?_⟩
    · rw[Xw,Ql];exact Zm _
    · exact(Qu.mp hy).elim (fun z=>.inr (cx (by omega) (by omega) (by omega) y z)) .inl
    · exact TriC.mono (cA (by decide)) (TriC.cast (cV (kE key (post1:=bd w b c A ⟨s.z,s.p,s.r,(fW s,Zd t0 5594),s.md,s.sp,s.es.push ⟨Zo m,.int (Zo m) (Zd tw 5571),.ref (ad a7)⟩,Zd s.em 1⟩++rowI (PP w b c) a7 a8 a9 (.ad rd r1 r2) k u)) (gh:=gh) (cx (by omega) (by omega) (by omega))) (bA _) rfl rfl (bA _) rfl rfl rfl rfl rfl)
  · have hl:bC s.es.toList (Zo m)=some (.ref (ad a7)):=hl
    have key:=rT w b c (aX A a7 a8 a9) s [] n t 40 (Zo m) tw r1 r2 0 s.em ((Ins.ad rd r1 r2).is k u) s.z s.p s.r s.pc s.md s.es (fk (TriC.cast (bP ac ch (d:=ad (A.a 6)) (o:=d6 (PP w b c) A s) (l:=s.es.toList) (ep:=s.em) (k:=Zo m) (u:=Zd tw 5571) rfl hk.keys) (by kernel_rfl) rfl rfl (by kernel_rfl) rfl rfl rfl rfl (by rw[hl];rfl))<|fk (kc (aB ac (m:=0) (r:=s.r) (i:=r1) h.2.1))<|fk (kc (aB ac (m:=0) (r:=s.r) (i:=r2) h.2.2))<|aa) (fc hz0 aa)
    refine⟨s.z,s.p,s.r,Zd t 5600,s.md.2,s.sp,s.em,n+11,t+32,s.es,gh,fun _=>rfl,fun _=>rfl,fun _=>rfl,hk,Nat.le_succ _,fun y hy=>hy,fun y hy=>.inl hy,?_⟩
    exact TriC.mono (cA (by decide)) (TriC.cast (cX (X:=rowI (PP w b c) a7 a8 a9 (.ad rd r1 r2) k u) (kE key (pre1:=bd w b c A s++rowI (PP w b c) a7 a8 a9 (.ad rd r1 r2) k u) (post1:=bd w b c A ⟨s.z,s.p,s.r,(fW s,Zd t 5600),s.md,s.sp,s.es,s.em⟩++rowI (PP w b c) a7 a8 a9 (.ad rd r1 r2) k u)) hx fD (gw ha)) (bA _) rfl rfl (bA _) rfl rfl rfl rfl rfl)
theorem vM{rd r1 im:Nat}(h:(Ins.ai rd r1 im).ok)(hz0:(bne (Zo rd) 0)=true):gF w b c A s (.ai rd r1 im) (vz s) (vp s) (bc (vr s) rd (Za ((s.r r1).1+(Za (Zo im) 4294967295)) 4294967295)) (fW s) s.md.1:=by
  intro gh n t tw hk hz
  have hI:(Ins.ai rd r1 im).ok:=h
  let m:=(Ins.ai rd r1 im).w
  rcases hk.look (I:=.ai rd r1 im) hI with hm|⟨a7,a8,a9,k,u,hl,ha,hx⟩
  · have hm:fIdx s.es.toList (Zo m)=none:=hm
    have hl':bC s.es.toList (Zo m)=none:=by unfold bC;rw[hm]
    obtain⟨a7,a8,a9,k,u,n0,t0,g1,g2,g3,ha,H0⟩:=gm w b c A (I:=.ai rd r1 im) hI s [] (n+2) (t+7) tw hk.keys hz hm
    have key:=qY w b c A s [] n t 40 (az [n0]) (az [t0]) (vT 0 a7 a8 a9) (Zo m) tw r1 0 0 (Zd s.em 1) ((Ins.ai rd r1 im).is k u) s.z s.p (up s.r rd (Za ((s.r r1).1+(Za (Zo im) 4294967295)) 4294967295) (Zd t0 5585)) s.pc s.md (s.es.push ⟨Zo m,.int (Zo m) (Zd tw 5571),.ref (ad a7)⟩) (fk (TriC.cast (bP ac ch (d:=ad (A.a 6)) (o:=d6 (PP w b c) A s) (l:=s.es.toList) (ep:=s.em) (k:=Zo m) (u:=Zd tw 5571) rfl hk.keys) (by kernel_rfl) rfl rfl (by kernel_rfl) rfl rfl rfl rfl (by rw[hl'];rfl))<|fk (kd H0)<|fk (kc (aB ac (m:=0) (r:=s.r) (i:=r1) h.2.1))<|fk (kc (bO ac (m:=0) (r:=s.r) (i:=rd) (x:=(Za ((s.r r1).1+(Za (Zo im) 4294967295)) 4294967295)) (y:=(Zd t0 5585)) h.1))<|aa) (fc hz0 aa)
    refine⟨s.z,s.p,up s.r rd (Za ((s.r r1).1+(Za (Zo im) 4294967295)) 4294967295) (Zd t0 5585),Zd t0 5594,s.md.2,s.sp,Zd s.em 1,n0+9,t0+26,_,_,fun _=>rfl,fun _=>rfl,fun j=>bB _ _ _ _ j,hk.push (I:=.ai rd r1 im) (tw:=Zd tw 5571) (k:=k) (u:=u) hI ha,?_,fun y hy=>Qr _ hy,fun y hy=>?_,?_⟩
    · rw[Xw,Ql];exact Zm _
    · exact(Qu.mp hy).elim (fun z=>.inr (cx (by omega) (by omega) (by omega) y z)) .inl
    · exact TriC.mono (cA (by decide)) (TriC.cast (cV (kE key (post1:=bd w b c A ⟨s.z,s.p,up s.r rd (Za ((s.r r1).1+(Za (Zo im) 4294967295)) 4294967295) (Zd t0 5585),(fW s,Zd t0 5594),s.md,s.sp,s.es.push ⟨Zo m,.int (Zo m) (Zd tw 5571),.ref (ad a7)⟩,Zd s.em 1⟩++rowI (PP w b c) a7 a8 a9 (.ai rd r1 im) k u)) (gh:=gh) (cx (by omega) (by omega) (by omega))) (bA _) rfl rfl (bA _) rfl rfl rfl rfl rfl)
  · have hl:bC s.es.toList (Zo m)=some (.ref (ad a7)):=hl
    have key:=rW w b c (aX A a7 a8 a9) s [] n t 40 (Zo m) tw r1 0 0 s.em ((Ins.ai rd r1 im).is k u) s.z s.p (up s.r rd (Za ((s.r r1).1+(Za (Zo im) 4294967295)) 4294967295) (Zd t 5591)) s.pc s.md s.es (fk (TriC.cast (bP ac ch (d:=ad (A.a 6)) (o:=d6 (PP w b c) A s) (l:=s.es.toList) (ep:=s.em) (k:=Zo m) (u:=Zd tw 5571) rfl hk.keys) (by kernel_rfl) rfl rfl (by kernel_rfl) rfl rfl rfl rfl (by rw[hl];rfl))<|fk (kc (aB ac (m:=0) (r:=s.r) (i:=r1) h.2.1))<|fk (kc (bO ac (m:=0) (r:=s.r) (i:=rd) (x:=(Za ((s.r r1).1+(Za (Zo im) 4294967295)) 4294967295)) (y:=(Zd t 5591)) h.1))<|aa) (fc hz0 aa)
    refine⟨s.z,s.p,up s.r rd (Za ((s.r r1).1+(Za (Zo im) 4294967295)) 4294967295) (Zd t 5591),Zd t 5600,s.md.2,s.sp,s.em,n+11,t+32,s.es,gh,fun _=>rfl,fun _=>rfl,fun j=>bB _ _ _ _ j,hk,Nat.le_succ _,fun y hy=>hy,fun y hy=>.inl hy,?_⟩
    exact TriC.mono (cA (by decide)) (TriC.cast (cX (X:=rowI (PP w b c) a7 a8 a9 (.ai rd r1 im) k u) (kE key (pre1:=bd w b c A s++rowI (PP w b c) a7 a8 a9 (.ai rd r1 im) k u) (post1:=bd w b c A ⟨s.z,s.p,up s.r rd (Za ((s.r r1).1+(Za (Zo im) 4294967295)) 4294967295) (Zd t 5591),(fW s,Zd t 5600),s.md,s.sp,s.es,s.em⟩++rowI (PP w b c) a7 a8 a9 (.ai rd r1 im) k u)) hx fD (gw ha)) (bA _) rfl rfl (bA _) rfl rfl rfl rfl rfl)
theorem vN{rd r1 im:Nat}(h:(Ins.ai rd r1 im).ok)(hz0:(bne (Zo rd) 0)=false):gF w b c A s (.ai rd r1 im) (vz s) (vp s) (vr s) (fW s) s.md.1:=by
  intro gh n t tw hk hz
  have hI:(Ins.ai rd r1 im).ok:=h
  let m:=(Ins.ai rd r1 im).w
  rcases hk.look (I:=.ai rd r1 im) hI with hm|⟨a7,a8,a9,k,u,hl,ha,hx⟩
  · have hm:fIdx s.es.toList (Zo m)=none:=hm
    have hl':bC s.es.toList (Zo m)=none:=by unfold bC;rw[hm]
    obtain⟨a7,a8,a9,k,u,n0,t0,g1,g2,g3,ha,H0⟩:=gm w b c A (I:=.ai rd r1 im) hI s [] (n+2) (t+7) tw hk.keys hz hm
    have key:=p7 w b c A s [] n t 40 (az [n0]) (az [t0]) (vT 0 a7 a8 a9) (Zo m) tw r1 0 0 (Zd s.em 1) ((Ins.ai rd r1 im).is k u) s.z s.p s.r s.pc s.md (s.es.push ⟨Zo m,.int (Zo m) (Zd tw 5571),.ref (ad a7)⟩) (fk (TriC.cast (bP ac ch (d:=ad (A.a 6)) (o:=d6 (PP w b c) A s) (l:=s.es.toList) (ep:=s.em) (k:=Zo m) (u:=Zd tw 5571) rfl hk.keys) (by kernel_rfl) rfl rfl (by kernel_rfl) rfl rfl rfl rfl (by rw[hl'];rfl))<|fk (kd H0)<|fk (kc (aB ac (m:=0) (r:=s.r) (i:=r1) h.2.1))<|aa) (fc hz0 aa)
    refine⟨s.z,s.p,s.r,Zd t0 5593,s.md.2,s.sp,Zd s.em 1,n0+9,t0+25,_,_,fun _=>rfl,fun _=>rfl,fun _=>rfl,hk.push (I:=.ai rd r1 im) (tw:=Zd tw 5571) (k:=k) (u:=u) hI ha,?_,fun y hy=>Qr _ hy,fun y hy=>?_,?_⟩
    · rw[Xw,Ql];exact Zm _
    · exact(Qu.mp hy).elim (fun z=>.inr (cx (by omega) (by omega) (by omega) y z)) .inl
    · exact TriC.mono (cA (by decide)) (TriC.cast (cV (kE key (post1:=bd w b c A ⟨s.z,s.p,s.r,(fW s,Zd t0 5593),s.md,s.sp,s.es.push ⟨Zo m,.int (Zo m) (Zd tw 5571),.ref (ad a7)⟩,Zd s.em 1⟩++rowI (PP w b c) a7 a8 a9 (.ai rd r1 im) k u)) (gh:=gh) (cx (by omega) (by omega) (by omega))) (bA _) rfl rfl (bA _) rfl rfl rfl rfl rfl)
  · have hl:bC s.es.toList (Zo m)=some (.ref (ad a7)):=hl
    have key:=qX w b c (aX A a7 a8 a9) s [] n t 40 (Zo m) tw r1 0 0 s.em ((Ins.ai rd r1 im).is k u) s.z s.p s.r s.pc s.md s.es (fk (TriC.cast (bP ac ch (d:=ad (A.a 6)) (o:=d6 (PP w b c) A s) (l:=s.es.toList) (ep:=s.em) (k:=Zo m) (u:=Zd tw 5571) rfl hk.keys) (by kernel_rfl) rfl rfl (by kernel_rfl) rfl rfl rfl rfl (by rw[hl];rfl))<|fk (kc (aB ac (m:=0) (r:=s.r) (i:=r1) h.2.1))<|aa) (fc hz0 aa)
    refine⟨s.z,s.p,s.r,Zd t 5599,s.md.2,s.sp,s.em,n+11,t+31,s.es,gh,fun _=>rfl,fun _=>rfl,fun _=>rfl,hk,Nat.le_succ _,fun y hy=>hy,fun y hy=>.inl hy,?_⟩
    exact TriC.mono (cA (by decide)) (TriC.cast (cX (X:=rowI (PP w b c) a7 a8 a9 (.ai rd r1 im) k u) (kE key (pre1:=bd w b c A s++rowI (PP w b c) a7 a8 a9 (.ai rd r1 im) k u) (post1:=bd w b c A ⟨s.z,s.p,s.r,(fW s,Zd t 5599),s.md,s.sp,s.es,s.em⟩++rowI (PP w b c) a7 a8 a9 (.ai rd r1 im) k u)) hx fD (gw ha)) (bA _) rfl rfl (bA _) rfl rfl rfl rfl rfl)
end
section
variable(w:Z8)(b c:Bool)(A:AS)(s:BS)(gh:gHs)(n t L:Nat)(i ti:Nat)
noncomputable def lg(Y0:Int):Bool×Bool:=(Xl (Zo i) Y0,false)
def Fn:Call:=cS (cB "dict.__contains__" [rA A 4,.int (Zo i) ti]) 8 4 [(4,d4 (PP w b c) A s)] (rV (.bool false)) 8 5
def Fo:Call:=cS (cB "dict.__contains__" [.ref 1216,.int (Zo i) ti]) 10 13 [] (rV (.bool true)) 10 14
def Fp:Bool:=(decide (Xm 3 (Za (aw (Zo i) 8) 3)))
def Fq:Xo:=(cR 1428 [.ref (Zd (A.a 2) 1971),.int (Zo i) ti])
include w b c A s gh n t L i ti
theorem Ub:bk w b c A gh L 40 [(7,Zd n 1971)] [(0,Zd t 5571)] [Fn w b c A s i ti,Fo i ti] [(Xl (Zo i) 768,true),(decide (GE.ge (Zo i) 768),true),(decide (GE.ge (Zo i) 2816),false),(Xl (aw (Zo i) 8) 12,false),(Fp i,false)] (Fq A i ti) 7 (aj w b c A s) (rV (zv s 768)) 11 (aj w b c A s) 23:=ap (hm (ic++[0,2,8,2,8,1,8,6003004,8,0,0,0,11,9011000,1,11,2003004])) rfl rfl fun bl p=>by kernel_rfl
theorem Uc:bk w b c A gh L 40 [(7,Zd n 1971)] [(0,Zd t 5571)] [Fn w b c A s i ti,Fo i ti] [(Xl (Zo i) 772,true),lg i 771,lg i 770,lg i 769,lg i 768,(decide (GE.ge (Zo i) 768),true),(decide (GE.ge (Zo i) 2816),false),(Xl (aw (Zo i) 8) 12,false),(Fp i,false)] (Fq A i ti) 7 (aj w b c A s) (rV (zv s 772)) 11 (aj w b c A s) 27:=ap (hm (ic++[0,2,8,2,8,1,8,6003004,8,0,0,0,11,9011000,2,11,2,11,2,11,2,11,1,11,2003004])) rfl rfl fun bl p=>by kernel_rfl
theorem Ud:bk w b c A gh L 40 [(7,Zd n 1971)] [(0,Zd t 5571)] [Fn w b c A s i ti,Fo i ti] [lg i 772,lg i 771,lg i 770,lg i 769,lg i 768,(decide (GE.ge (Zo i) 768),true),(decide (GE.ge (Zo i) 2816),false),(Xl (aw (Zo i) 8) 12,false),(Fp i,false)] (Fq A i ti) 7 (aj w b c A s) (rV (zv s 836)) 11 (aj w b c A s) 27:=ap (hm (ic++[0,2,8,2,8,1,8,6003004,8,0,0,0,11,9011000,2,11,2,11,2,11,2,11,2,11,2003004])) rfl rfl fun bl p=>by kernel_rfl
end
section
variable(w:Z8)(b c:Bool)(A:AS)(s:BS)(gh:gHs)(n t L:Nat)(i ti tm:Nat)(m:Int)
def Fr:Call:=cS (cB "dict.__contains__" [rA A 4,.int (Zo i) ti]) 8 4 [(4,d4 (PP w b c) A s)] (rV (.bool false)) 8 5
def Fs:Call:=cS (cB "dict.__contains__" [.ref 1216,.int (Zo i) ti]) 10 13 [] (rV (.bool true)) 10 14
def Ft:Bool:=(decide (Xm m (Za (aw (Zo i) 8) 3)))
def Fu:Xo:=(cR 1428 [.ref (Zd (A.a 2) 1971),.int (Zo i) ti,.int m tm])
include w b c A s gh n t L i ti tm m
theorem Ue:bk w b c A gh L 40 [(7,Zd n 1971)] [(0,Zd t 5571)] [Fr w b c A s i ti,Fs i ti] [(Xl (Zo i) 256,true),(decide (GE.ge (Zo i) 768),false),(decide (GE.ge (Zo i) 2816),false),(Xl (aw (Zo i) 8) 12,false),(Ft i m,false)] (Fu A i ti tm m) 7 (aj w b c A s) (rV (.int (Za (s.z 768).1 786722) (Zd t 5592))) 10 (aj w b c A s) 22:=ap (hm (ic++[0,2,8,2,8,2,8,1,8,2003004,0])) rfl rfl fun bl p=>by kernel_rfl
theorem Uf:bk w b c A gh L 40 [(7,Zd n 1971)] [(0,Zd t 5571)] [Fr w b c A s i ti,Fs i ti] [(Xl (Zo i) 260,true),(Xl (Zo i) 256,false),(decide (GE.ge (Zo i) 768),false),(decide (GE.ge (Zo i) 2816),false),(Xl (aw (Zo i) 8) 12,false),(Ft i m,false)] (Fu A i ti tm m) 7 (aj w b c A s) (rV (.int (Za (s.z 772).1 (s.z 771).1) (Zd t 5594))) 10 (aj w b c A s) 24:=ap (hm (ic++[0,2,8,2,8,2,8,2,8,1,8,2003004,8,2003004])) rfl rfl fun bl p=>by kernel_rfl
theorem Ug:bk w b c A gh L 40 [(7,Zd n 1971)] [(0,Zd t 5571)] [Fr w b c A s i ti,Fs i ti] [(Xl (Zo i) 324,true),(Xl (Zo i) 260,false),(Xl (Zo i) 256,false),(decide (GE.ge (Zo i) 768),false),(decide (GE.ge (Zo i) 2816),false),(Xl (aw (Zo i) 8) 12,false),(Ft i m,false)] (Fu A i ti tm m) 7 (aj w b c A s) (rV (.int (Za (s.z 836).1 (s.z 771).1) (Zd t 5595))) 10 (aj w b c A s) 25:=ap (hm (ic++[0,2,8,2,8,2,8,2,8,2,8,1,8,2003004,8,2003004])) rfl rfl fun bl p=>by kernel_rfl
end
section
variable(w:Z8)(b c:Bool)(A:AS)(s:BS)(gh:gHs)(n t L:Nat)(i ti tm tv:Nat)(m v:Int)(p1:Nat→Int×Nat)
def Fv:Call:=cS (cB "dict.__contains__" [.ref 1216,.int (Zo i) ti]) 10 12 [] (rV (.bool true)) 10 13
def Fw:Call:=cS (cB "dict.__contains__" [rA A 4,.int (Zo i) ti]) 11 25 [(4,d4 (PP w b c) A s)] (rV (.bool false)) 11 26
def zf:Bool:=(Xl (Za (aw (Zo i) 10) 3) 3)
def zg:Bool:=(decide (Xm m (Za (aw (Zo i) 8) 3)))
def zh:Xo:=(cR 1450 [.ref (Zd (A.a 2) 1971),.int (Zo i) ti,.int v tv,.int m tm])
include w b c A s gh n t L i ti tm tv m v p1
theorem Uv:bk w b c A gh L 40 [(7,Zd n 1971)] [(0,Zd t 5571)] [Fv i ti,Fw w b c A s i ti] [(Xl (Zo i) 256,true),(decide (GE.ge (Zo i) 768),false),(decide (GE.ge (Zo i) 2816),false),(zf i,false),(Xl (aw (Zo i) 8) 12,false),(zg i m,false)] (zh A i ti tm tv m v) 7 (aj w b c A s) (rV .none) 11 (aj w b c A ⟨up s.z 768 (Zb (Za (s.z 768).1 4294180573) (Za (Za v 4294967295) 786722)) (Zd t 5604),s.p,s.r,s.pc,s.md,s.sp,s.es,s.em⟩) 36:=ap (hm ([0]++uw++[8,2,8,2,8,1,8,2003004,0,0,8,0,8,5003004])) rfl rfl fun bl p=>by kernel_rfl
theorem Uw:bk w b c A gh L 40 [(7,Zd n 1971)] [(0,Zd t 5571)] [Fv i ti,Fw w b c A s i ti] [(Xl (Zo i) 260,true),(Xl (Zo i) 256,false),(decide (GE.ge (Zo i) 768),false),(decide (GE.ge (Zo i) 2816),false),(zf i,false),(Xl (aw (Zo i) 8) 12,false),(zg i m,false)] (zh A i ti tm tv m v) 7 (aj w b c A s) (rV .none) 11 (aj w b c A ⟨up s.z 772 (Zb (Za (s.z 772).1 (Zc 4294967295 (s.z 771).1)) (Za (Za v 4294967295) (s.z 771).1)) (Zd t 5607),s.p,s.r,s.pc,s.md,s.sp,s.es,s.em⟩) 39:=ap (hm ([0]++uw++[8,2,8,2,8,2,8,1,8,2003004,0,8,2003004,8,8,2003004,8,5003004])) rfl rfl fun bl p=>by kernel_rfl
theorem Ux:bk w b c A gh L 40 [(7,Zd n 1971)] [(0,Zd t 5571)] [Fv i ti,Fw w b c A s i ti] [(Xl (Zo i) 324,true),(Xl (Zo i) 260,false),(Xl (Zo i) 256,false),(decide (GE.ge (Zo i) 768),false),(decide (GE.ge (Zo i) 2816),false),(zf i,false),(Xl (aw (Zo i) 8) 12,false),(zg i m,false)] (zh A i ti tm tv m v) 7 (aj w b c A s) (rV .none) 11 (aj w b c A ⟨up s.z 836 (Zb (Za (s.z 836).1 (Zc 4294967295 (Za (s.z 771).1 2))) (Za (Za v 4294967295) (Za (s.z 771).1 2))) (Zd t 5611),s.p,s.r,s.pc,s.md,s.sp,s.es,s.em⟩) 43:=ap (hm ([0]++uw++[8,2,8,2,8,2,8,2,8,1,8,2003004,0,0,8,8,8,2003004,0,8,8,8,8,5003004])) rfl rfl fun bl p=>by kernel_rfl
end
noncomputable def strL:List Nat:=[257,1984,2817,3075,4095]
noncomputable def cnt3:List Nat:=[3072,3073,3074,3200,3201,3202]
noncomputable def dG(i m a d:Nat):Bool:=cond (strL.any (Ze i)) false (cond (Nat.blt m (i/256%4)) false (cond (cnt3.any (Ze i)&&Nat.blt m 3) (Zf a (i%4)&&(Ze m 1||Zf d (i%4))) true))
def JN(s:BS)(i:Nat):Int:=cond (plainL.any (Ze i)) (s.p i).1 (cond (Ze i 769) 1075056896 (cond (Ze i 3857) 0 (cond (Ze i 3860) (s.z 3860).1 (cond (Zn 2816 i)
 (cond (Zn 128 (i%256)) (Za (aw (cond (Ze (i%4) 2) (s.z 2818).1 (s.z 2816).1) 32) 4294967295) (Za (cond (Ze (i%4) 2) (s.z 2818).1 (s.z 2816).1) 4294967295)) (s.z i).1))))
def rK(s:BS)(i v:Nat):Nat→Int:=cond (plainL.any (Ze i)) (bc (vp s) i (cond (Ze i 261||Ze i 773) (Za (Za (Zo v) 4294967295) 4294967293) (cond (Ze i 321||Ze i 833) (Za (Za (Zo v) 4294967295) 4294967292)
 (cond (Ze i 262||Ze i 774) (Za (Za (Zo v) 4294967295) 7) (Za (Zo v) 4294967295))))) (vp s)
noncomputable def E29:List Nat:=[256,260,324,261,262,320,321,322,323,384,3072,3073,3074,768,770,771,772,773,774,832,833,834,835,836,769,2816,3860,3202,1984]
noncomputable def E14:List Nat:=[256,260,324,261,262,320,321,322,323,384,3072,3073,3074,3202]
noncomputable def E10:List Nat:=[256,260,324,261,262,320,321,322,323,384]
noncomputable def Z2:List Nat:=[770,771,773,774,832,833,834,835,3860,2816,2818,2944,2946,768,772,836]
def bv(s:BS)(i:Nat):Int:=cond (Ze i 256) (Za (s.z 768).1 786722) (cond (Ze i 260) (Za (s.z 772).1 (s.z 771).1) (cond (Ze i 324) (Za (s.z 836).1 (s.z 771).1) (JN s i)))
def rL(s:BS)(i v:Nat):Nat→Int:=cond (Ze i 384) (bc (vz s) 384 (Za (Za (Zo v) 4294967295) 2151677951)) (cond (Ze i 256) (bc (vz s) 768 (Zb (Za (s.z 768).1 4294180573) (Za (Za (Zo v) 4294967295) 786722)))
 (cond (Ze i 260) (bc (vz s) 772 (Zb (Za (s.z 772).1 (Zc 4294967295 (s.z 771).1)) (Za (Za (Zo v) 4294967295) (s.z 771).1)))
 (cond (Ze i 324) (bc (vz s) 836 (Zb (Za (s.z 836).1 (Zc 4294967295 (Za (s.z 771).1 2))) (Za (Za (Zo v) 4294967295) (Za (s.z 771).1 2)))) (vz s))))
theorem nA(a k:Nat):Za (aw (a:Int) (k:Int)) 1=((if a.testBit k then 1 else 0:Nat):Int):=by
 rw[fL,show (1:Int)=((1:Nat):Int) from rfl,ay]
 congr 1
 rw[Nat.and_one_is_mod,Nat.testBit_eq_decide_div_mod_eq]
 by_cases h:a/2^k%2=1
 ·rw[decide_eq_true h];exact h
 ·rw[decide_eq_false h];have:=Nat.mod_two_eq_zero_or_one (a/2^k);simp only[Bool.false_eq_true,if_false];omega
theorem fQ{x e:Int}{a k:Nat}(hx:x=a)(he:e=(k:Int))(h:a.testBit k=true):(Xl (Za (aw x e) 1) 0)=false:=by
 subst hx he;rw[nA,h];rfl
theorem fP{x e:Int}{a k:Nat}(hx:x=a)(he:e=(k:Int))(h:a.testBit k=false):(Xl (Za (aw x e) 1) 0)=true:=by
 subst hx he;rw[nA,h];rfl
theorem dj{x y:Int}{a d:Nat}(hx:x=a)(hy:y=d):Za x y=((a &&& d:Nat):Int):=by subst hx hy;exact ay a d
theorem js{p q:Bool}(h:(p&&(true||q))=false):p=false:=by cases p<;>simp_all
theorem sg{p q:Bool}(h:(p&&(true||q))=true):p=true:=by cases p<;>simp_all
theorem jr{a d k:Nat}(h:(Zf a k&&(false||Zf d k))=false):(a &&& d).testBit k=false:=by rw[Nat.testBit_and];simpa using h
theorem sf{a d k:Nat}(h:(Zf a k&&(false||Zf d k))=true):(a &&& d).testBit k=true:=by rw[Nat.testBit_and];simpa using h
theorem DV(v:Nat):Za (Zo v) 4294967295=Zo (v%4294967296):=fg (g7 v 32)
section
variable(w:Z8)(b c:Bool)(A:AS)(s:BS)
include w b c A s
theorem Lo:b0 w b c A s 256 (Zo 1) (Za (s.z 768).1 786722):=fun gh n t ti tm=>
 ⟨Zd t 5592,n+3,t+22,kE (Ue w b c A s gh n t 0 256 ti tm (Zo 1) (fk (bj ac ch (by decide))<|fk (bt ac (by kernel_rfl))<|aa) bf)⟩
theorem Lp:b0 w b c A s 260 (Zo 1) (Za (s.z 772).1 (s.z 771).1):=fun gh n t ti tm=>
 ⟨Zd t 5594,n+3,t+24,kE (Uf w b c A s gh n t 0 260 ti tm (Zo 1) (fk (bj ac ch (by decide))<|fk (bt ac (by kernel_rfl))<|aa) bf)⟩
theorem Lq:b0 w b c A s 324 (Zo 1) (Za (s.z 836).1 (s.z 771).1):=fun gh n t ti tm=>
 ⟨Zd t 5595,n+3,t+25,kE (Ug w b c A s gh n t 0 324 ti tm (Zo 1) (fk (bj ac ch (by decide))<|fk (bt ac (by kernel_rfl))<|aa) bf)⟩
theorem Ll:eN w b c A s 768 (s.z 768).1:=fun gh n t ti=>
 ⟨(s.z 768).2,n+4,t+23,kE (Ub w b c A s gh n t 0 768 ti (fk (bj ac ch (by decide))<|fk (bt ac (by kernel_rfl))<|aa) bf)⟩
theorem Lm:eN w b c A s 772 (s.z 772).1:=fun gh n t ti=>
 ⟨(s.z 772).2,n+4,t+27,kE (Uc w b c A s gh n t 0 772 ti (fk (bj ac ch (by decide))<|fk (bt ac (by kernel_rfl))<|aa) bf)⟩
theorem Ln:eN w b c A s 836 (s.z 836).1:=fun gh n t ti=>
 ⟨(s.z 836).2,n+4,t+27,kE (Ud w b c A s gh n t 0 836 ti (fk (bj ac ch (by decide))<|fk (bt ac (by kernel_rfl))<|aa) bf)⟩
theorem L9(v:Int):ce w b c A s 256 (Zo 1) v (bc (vz s) 768 (Zb (Za (s.z 768).1 4294180573) (Za (Za v 4294967295) 786722))) (vp s):=fun gh n t ti tv tm=>
 ⟨up s.z 768 (Zb (Za (s.z 768).1 4294180573) (Za (Za v 4294967295) 786722)) (Zd t 5604),s.p,n+4,t+36,fun k=>bB _ _ _ _ k,fun _=>rfl,kE (Uv w b c A s gh n t 0 256 ti tm tv (Zo 1) v s.p (fk (bt ac (by kernel_rfl))<|fk (bj ac ch (by decide))<|aa) bf)⟩
theorem Ma(v:Int):ce w b c A s 260 (Zo 1) v (bc (vz s) 772 (Zb (Za (s.z 772).1 (Zc 4294967295 (s.z 771).1)) (Za (Za v 4294967295) (s.z 771).1))) (vp s):=fun gh n t ti tv tm=>
 ⟨up s.z 772 (Zb (Za (s.z 772).1 (Zc 4294967295 (s.z 771).1)) (Za (Za v 4294967295) (s.z 771).1)) (Zd t 5607),s.p,n+4,t+39,fun k=>bB _ _ _ _ k,fun _=>rfl,kE (Uw w b c A s gh n t 0 260 ti tm tv (Zo 1) v s.p (fk (bt ac (by kernel_rfl))<|fk (bj ac ch (by decide))<|aa) bf)⟩
theorem Mb(v:Int):ce w b c A s 324 (Zo 1) v (bc (vz s) 836 (Zb (Za (s.z 836).1 (Zc 4294967295 (Za (s.z 771).1 2))) (Za (Za v 4294967295) (Za (s.z 771).1 2)))) (vp s):=fun gh n t ti tv tm=>
 ⟨up s.z 836 (Zb (Za (s.z 836).1 (Zc 4294967295 (Za (s.z 771).1 2))) (Za (Za v 4294967295) (Za (s.z 771).1 2))) (Zd t 5611),s.p,n+4,t+43,fun k=>bB _ _ _ _ k,fun _=>rfl,kE (Ux w b c A s gh n t 0 324 ti tm tv (Zo 1) v s.p (fk (bt ac (by kernel_rfl))<|fk (bj ac ch (by decide))<|aa) bf)⟩
end
section
variable(w:Z8)(b c:Bool)(A:AS)(s:BS)(a d:Nat)(ha:(s.p 774).1=a)(hd:(s.p 262).1=d)
include w b c A s a d ha hd
theorem lQ{i m:Nat}(hi:i∈E14)(hm:m=0∨m=1)(h:dG i m a d=true):b0 w b c A s i (Zo m) (bv s i):=by
 revert i
 refine @ab _ _ _ _ ?_ ?_
 all_goals repeat' first|exact aa|refine ab ?_ ?_
 all_goals intro h
 all_goals rcases hm with rfl|rfl
 all_goals try first|exact Lo w b c A s|exact Lp w b c A s|exact Lq w b c A s|exact absurd (show false=true from h) Xr|exact Cv w b c A s _ _ (by decide) bf|exact Cw w b c A s _ _ (by decide) (by kernel_rfl!) bf|exact read_1_ok w b c A s _ _ (by decide) (by kernel_rfl!) bf|exact read_2_ok w b c A s _ _ (by decide) (by kernel_rfl!) bf|exact read_4_ok w b c A s _ _ (by decide) (by kernel_rfl!) 0 (s.z 2816).1 (s.z 2816).2 (by decide +kernel) rfl (by decide) bf|exact read_4_ok w b c A s _ _ (by decide) (by kernel_rfl!) 2 (s.z 2818).1 (s.z 2818).2 (by decide +kernel) rfl (by decide) bf|exact read_5_ok w b c A s _ _ (by decide) (by kernel_rfl!) 0 (s.z 2816).1 (s.z 2816).2 (by decide +kernel) rfl (by decide) bf|exact read_5_ok w b c A s _ _ (by decide) (by kernel_rfl!) 2 (s.z 2818).1 (s.z 2818).2 (by decide +kernel) rfl (by decide) bf|exact read_6_ok w b c A s _ _ (by decide) (by kernel_rfl!) 0 (s.z 2816).1 (s.z 2816).2 (by decide +kernel) rfl (by decide) bf|exact read_6_ok w b c A s _ _ (by decide) (by kernel_rfl!) 1 (s.z 2816).1 (s.z 2816).2 (by decide +kernel) rfl (by decide) bf|exact read_6_ok w b c A s _ _ (by decide) (by kernel_rfl!) 2 (s.z 2818).1 (s.z 2818).2 (by decide +kernel) rfl (by decide) bf|exact read_9_ok w b c A s _ _ (by decide) (by kernel_rfl!) 0 (s.z 2816).1 (s.z 2816).2 (by decide +kernel) rfl (by decide) bf|exact read_9_ok w b c A s _ _ (by decide) (by kernel_rfl!) 1 (s.z 2816).1 (s.z 2816).2 (by decide +kernel) rfl (by decide) bf|exact read_9_ok w b c A s _ _ (by decide) (by kernel_rfl!) 2 (s.z 2818).1 (s.z 2818).2 (by decide +kernel) rfl (by decide) bf|exact read_12_ok w b c A s _ _ (by decide) (by kernel_rfl!) bf|exact read_13_ok w b c A s _ _ (by decide) (by kernel_rfl!) bf|exact read_14_ok w b c A s _ _ (by decide) (by kernel_rfl!) bf
 ·obtain⟨h1,h2⟩:=Bool.and_eq_true_iff.mp (show (Zf a 0&&(false||Zf d 0))=true from h)
  exact np w b c A s 3072 (Zo 0) (by decide) (by kernel_rfl!) 0 (s.z 2816).1 (s.z 2816).2 (by decide +kernel) rfl (by decide) (fc (by decide +kernel) (fc (by decide +kernel) (fc (by decide +kernel) (fc (fQ (dj ha hd) (k:=0) (by decide +kernel) (by rw[Nat.testBit_and,h1];exact h2)) bf))))
 ·have h1:=(Bool.and_eq_true_iff.mp (show (Zf a 0&&(true||Zf d 0))=true from h)).1
  exact nl w b c A s 3072 (Zo 1) (by decide) (by kernel_rfl!) 0 (s.z 2816).1 (s.z 2816).2 (by decide +kernel) rfl (by decide) (fc (by decide +kernel) (fc (by decide +kernel) (fc (by decide +kernel) (fc (fQ ha (k:=0) (by decide +kernel) h1) bf))))
 ·obtain⟨h1,h2⟩:=Bool.and_eq_true_iff.mp (show (Zf a 1&&(false||Zf d 1))=true from h)
  exact np w b c A s 3073 (Zo 0) (by decide) (by kernel_rfl!) 1 (s.z 2816).1 (s.z 2816).2 (by decide +kernel) rfl (by decide) (fc (by decide +kernel) (fc (by decide +kernel) (fc (by decide +kernel) (fc (fQ (dj ha hd) (k:=1) (by decide +kernel) (by rw[Nat.testBit_and,h1];exact h2)) bf))))
 ·have h1:=(Bool.and_eq_true_iff.mp (show (Zf a 1&&(true||Zf d 1))=true from h)).1
  exact nl w b c A s 3073 (Zo 1) (by decide) (by kernel_rfl!) 1 (s.z 2816).1 (s.z 2816).2 (by decide +kernel) rfl (by decide) (fc (by decide +kernel) (fc (by decide +kernel) (fc (by decide +kernel) (fc (fQ ha (k:=1) (by decide +kernel) h1) bf))))
 ·obtain⟨h1,h2⟩:=Bool.and_eq_true_iff.mp (show (Zf a 2&&(false||Zf d 2))=true from h)
  exact np w b c A s 3074 (Zo 0) (by decide) (by kernel_rfl!) 2 (s.z 2818).1 (s.z 2818).2 (by decide +kernel) rfl (by decide) (fc (by decide +kernel) (fc (by decide +kernel) (fc (by decide +kernel) (fc (fQ (dj ha hd) (k:=2) (by decide +kernel) (by rw[Nat.testBit_and,h1];exact h2)) bf))))
 ·have h1:=(Bool.and_eq_true_iff.mp (show (Zf a 2&&(true||Zf d 2))=true from h)).1
  exact nl w b c A s 3074 (Zo 1) (by decide) (by kernel_rfl!) 2 (s.z 2818).1 (s.z 2818).2 (by decide +kernel) rfl (by decide) (fc (by decide +kernel) (fc (by decide +kernel) (fc (by decide +kernel) (fc (fQ ha (k:=2) (by decide +kernel) h1) bf))))
 ·obtain⟨h1,h2⟩:=Bool.and_eq_true_iff.mp (show (Zf a 2&&(false||Zf d 2))=true from h)
  exact zu w b c A s 3202 (Zo 0) (by decide) (by kernel_rfl!) 2 (s.z 2818).1 (s.z 2818).2 (by decide +kernel) rfl (by decide) (fc (by decide +kernel) (fc (by decide +kernel) (fc (by decide +kernel) (fc (fQ (dj ha hd) (k:=2) (by decide +kernel) (by rw[Nat.testBit_and,h1];exact h2)) bf))))
 ·have h1:=(Bool.and_eq_true_iff.mp (show (Zf a 2&&(true||Zf d 2))=true from h)).1
  exact zt w b c A s 3202 (Zo 1) (by decide) (by kernel_rfl!) 2 (s.z 2818).1 (s.z 2818).2 (by decide +kernel) rfl (by decide) (fc (by decide +kernel) (fc (by decide +kernel) (fc (by decide +kernel) (fc (fQ ha (k:=2) (by decide +kernel) h1) bf))))
theorem Cu{i m:Nat}(hi:i∈E29)(hm:m=0∨m=1)(h:dG i m a d=false):fb w b c A s i (Zo m):=by
 revert i
 refine @ab _ _ _ _ ?_ ?_
 all_goals repeat' first|exact aa|refine ab ?_ ?_
 all_goals intro h
 all_goals rcases hm with rfl|rfl
 all_goals try first|exact absurd (show true=false from h) (fun z=>nomatch z)|exact zr w b c A s _ _ (by decide) bf|exact zq w b c A s _ _ (by decide) bf|exact readR_2_ok w b c A s _ _ (by decide) (by kernel_rfl!) bf
 ·have h1:=jr (show (Zf a 0&&(false||Zf d 0))=false from h)
  exact iN w b c A s 3072 (Zo 0) (by decide) (by kernel_rfl!) (fc (fP (dj ha hd) (k:=0) (by decide +kernel) h1) bf)
 ·have h1:=js (show (Zf a 0&&(true||Zf d 0))=false from h)
  exact iM w b c A s 3072 (Zo 1) (by decide) (by kernel_rfl!) (fc (fP ha (k:=0) (by decide +kernel) h1) bf)
 ·have h1:=jr (show (Zf a 1&&(false||Zf d 1))=false from h)
  exact iN w b c A s 3073 (Zo 0) (by decide) (by kernel_rfl!) (fc (fP (dj ha hd) (k:=1) (by decide +kernel) h1) bf)
 ·have h1:=js (show (Zf a 1&&(true||Zf d 1))=false from h)
  exact iM w b c A s 3073 (Zo 1) (by decide) (by kernel_rfl!) (fc (fP ha (k:=1) (by decide +kernel) h1) bf)
 ·have h1:=jr (show (Zf a 2&&(false||Zf d 2))=false from h)
  exact iN w b c A s 3074 (Zo 0) (by decide) (by kernel_rfl!) (fc (fP (dj ha hd) (k:=2) (by decide +kernel) h1) bf)
 ·have h1:=js (show (Zf a 2&&(true||Zf d 2))=false from h)
  exact iM w b c A s 3074 (Zo 1) (by decide) (by kernel_rfl!) (fc (fP ha (k:=2) (by decide +kernel) h1) bf)
 ·have h1:=jr (show (Zf a 2&&(false||Zf d 2))=false from h)
  exact iN w b c A s 3202 (Zo 0) (by decide) (by kernel_rfl!) (fc (fP (dj ha hd) (k:=2) (by decide +kernel) h1) bf)
 ·have h1:=js (show (Zf a 2&&(true||Zf d 2))=false from h)
  exact iM w b c A s 3202 (Zo 1) (by decide) (by kernel_rfl!) (fc (fP ha (k:=2) (by decide +kernel) h1) bf)
theorem zT{i m:Nat}(v:Int)(hi:i∈E29)(hm:m=0∨m=1)(h:(dG i m a d&&!(Zn 3072 i))=false):cY w b c A s i (Zo m) v:=by
 revert i
 refine @ab _ _ _ _ ?_ ?_
 all_goals repeat' first|exact aa|refine ab ?_ ?_
 all_goals intro h
 all_goals rcases hm with rfl|rfl
 all_goals try first|exact vQ w b c A s _ _ v bf|exact absurd (show true=false from h) (fun z=>nomatch z)|exact writeR_6_ok w b c A s _ _ v (by kernel_rfl!) bf|exact writeN_1_ok w b c A s _ _ v (by kernel_rfl!) bf|exact writeN_0_ok w b c A s _ _ v (by kernel_rfl!) bf
 ·cases hb:dG 3072 0 a d with
  |false=>
   have h1:=jr (show (Zf a 0&&(false||Zf d 0))=false from hb)
   exact hP w b c A s 3072 (Zo 0) v (by kernel_rfl!) (fc (fP (dj ha hd) (k:=0) (by decide +kernel) h1) bf)
  |true=>
   have h1:=sf (show (Zf a 0&&(false||Zf d 0))=true from hb)
   exact hK w b c A s 3072 (Zo 0) v (by kernel_rfl!) (fc (by decide +kernel) (fc (fQ (dj ha hd) (k:=0) (by decide +kernel) h1) bf))
 ·cases hb:dG 3072 1 a d with
  |false=>
   have h1:=js (show (Zf a 0&&(true||Zf d 0))=false from hb)
   exact hM w b c A s 3072 (Zo 1) v (by kernel_rfl!) (fc (fP ha (k:=0) (by decide +kernel) h1) bf)
  |true=>
   have h1:=sg (show (Zf a 0&&(true||Zf d 0))=true from hb)
   exact hH w b c A s 3072 (Zo 1) v (by kernel_rfl!) (fc (by decide +kernel) (fc (fQ ha (k:=0) (by decide +kernel) h1) bf))
 ·cases hb:dG 3073 0 a d with
  |false=>
   have h1:=jr (show (Zf a 1&&(false||Zf d 1))=false from hb)
   exact hP w b c A s 3073 (Zo 0) v (by kernel_rfl!) (fc (fP (dj ha hd) (k:=1) (by decide +kernel) h1) bf)
  |true=>
   have h1:=sf (show (Zf a 1&&(false||Zf d 1))=true from hb)
   exact hK w b c A s 3073 (Zo 0) v (by kernel_rfl!) (fc (by decide +kernel) (fc (fQ (dj ha hd) (k:=1) (by decide +kernel) h1) bf))
 ·cases hb:dG 3073 1 a d with
  |false=>
   have h1:=js (show (Zf a 1&&(true||Zf d 1))=false from hb)
   exact hM w b c A s 3073 (Zo 1) v (by kernel_rfl!) (fc (fP ha (k:=1) (by decide +kernel) h1) bf)
  |true=>
   have h1:=sg (show (Zf a 1&&(true||Zf d 1))=true from hb)
   exact hH w b c A s 3073 (Zo 1) v (by kernel_rfl!) (fc (by decide +kernel) (fc (fQ ha (k:=1) (by decide +kernel) h1) bf))
 ·cases hb:dG 3074 0 a d with
  |false=>
   have h1:=jr (show (Zf a 2&&(false||Zf d 2))=false from hb)
   exact hP w b c A s 3074 (Zo 0) v (by kernel_rfl!) (fc (fP (dj ha hd) (k:=2) (by decide +kernel) h1) bf)
  |true=>
   have h1:=sf (show (Zf a 2&&(false||Zf d 2))=true from hb)
   exact hK w b c A s 3074 (Zo 0) v (by kernel_rfl!) (fc (by decide +kernel) (fc (fQ (dj ha hd) (k:=2) (by decide +kernel) h1) bf))
 ·cases hb:dG 3074 1 a d with
  |false=>
   have h1:=js (show (Zf a 2&&(true||Zf d 2))=false from hb)
   exact hM w b c A s 3074 (Zo 1) v (by kernel_rfl!) (fc (fP ha (k:=2) (by decide +kernel) h1) bf)
  |true=>
   have h1:=sg (show (Zf a 2&&(true||Zf d 2))=true from hb)
   exact hH w b c A s 3074 (Zo 1) v (by kernel_rfl!) (fc (by decide +kernel) (fc (fQ ha (k:=2) (by decide +kernel) h1) bf))
 ·cases hb:dG 3202 0 a d with
  |false=>
   have h1:=jr (show (Zf a 2&&(false||Zf d 2))=false from hb)
   exact hP w b c A s 3202 (Zo 0) v (by kernel_rfl!) (fc (fP (dj ha hd) (k:=2) (by decide +kernel) h1) bf)
  |true=>
   have h1:=sf (show (Zf a 2&&(false||Zf d 2))=true from hb)
   exact hK w b c A s 3202 (Zo 0) v (by kernel_rfl!) (fc (by decide +kernel) (fc (fQ (dj ha hd) (k:=2) (by decide +kernel) h1) bf))
 ·cases hb:dG 3202 1 a d with
  |false=>
   have h1:=js (show (Zf a 2&&(true||Zf d 2))=false from hb)
   exact hM w b c A s 3202 (Zo 1) v (by kernel_rfl!) (fc (fP ha (k:=2) (by decide +kernel) h1) bf)
  |true=>
   have h1:=sg (show (Zf a 2&&(true||Zf d 2))=true from hb)
   exact hH w b c A s 3202 (Zo 1) v (by kernel_rfl!) (fc (by decide +kernel) (fc (fQ ha (k:=2) (by decide +kernel) h1) bf))
end
theorem CS(w:Z8)(b c:Bool)(A:AS)(s:BS){i:Nat}(v:Nat)(hi:i∈E10):ce w b c A s i (Zo 1) (Zo v) (rL s i v) (rK s i v):=by
 revert i
 refine @ab _ _ _ _ ?_ ?_
 all_goals repeat' first|exact aa|refine ab ?_ ?_
 all_goals first|exact L9 w b c A s (Zo v)|exact Ma w b c A s (Zo v)|exact Mb w b c A s (Zo v)|exact zU w b c A s _ _ (Zo v) (by decide) (by kernel_rfl!) bf|exact zV w b c A s _ _ (Zo v) (by decide) (by kernel_rfl!) bf|exact zW w b c A s _ _ (Zo v) (by decide) (by kernel_rfl!) bf|exact zY w b c A s _ _ (Zo v) (by decide) (by kernel_rfl!) bf|exact write_7_ok w b c A s _ _ (Zo v) (by decide) (by kernel_rfl!) bf|exact zX w b c A s _ _ (Zo v) (by decide) (by kernel_rfl!) bf
def aV(s:BS)(i:Nat):Int:=cond (Ze i 768||(Ze i 772||Ze i 836)) (s.z i).1 (JN s i)
theorem bZ(w:Z8)(b c:Bool)(A:AS)(s:BS){i:Nat}(hi:i∈Z2):eN w b c A s i (aV s i):=by
 revert i
 refine @ab _ _ _ _ ?_ ?_
 all_goals repeat' first|exact aa|refine ab ?_ ?_
 all_goals first|exact Ll w b c A s|exact Lm w b c A s|exact Ln w b c A s|exact zn w b c A s _ (by decide) bf|exact zo w b c A s _ (by decide) (by kernel_rfl!) bf|exact zp w b c A s _ (by decide) (by kernel_rfl!) bf|exact vy w b c A s _ (by decide) (by kernel_rfl!) bf|exact pV w b c A s _ (by decide) (by kernel_rfl!) 0 (s.z 2816).1 (s.z 2816).2 (by decide +kernel) rfl (by decide) bf|exact pV w b c A s _ (by decide) (by kernel_rfl!) 2 (s.z 2818).1 (s.z 2818).2 (by decide +kernel) rfl (by decide) bf|exact pW w b c A s _ (by decide) (by kernel_rfl!) 0 (s.z 2816).1 (s.z 2816).2 (by decide +kernel) rfl (by decide) bf|exact pW w b c A s _ (by decide) (by kernel_rfl!) 2 (s.z 2818).1 (s.z 2818).2 (by decide +kernel) rfl (by decide) bf
theorem cr(v:Nat→Int)(i:Nat)(x:Int):bc v i x i=x:=if_pos rfl
theorem cF{v:Nat→Int}{i j:Nat}{x:Int}(h:j≠i):bc v i x j=v j:=if_neg h
noncomputable def iv(j by_:Nat):Bool:=Ze (j%3) 0||!(Ze by_ 0)
theorem oA{tw:Bool}{i:Nat}(h:tw=true)(hT:(!(tw&&Zn 3072 i))=true):Zn 3072 i=false:=by subst h;simpa using hT
theorem f5{j n:Nat}(h:n≠0):iv j n=true:=by
 unfold iv
 have:Ze n 0=false:=by cases e:Ze n 0 with|false=>rfl|true=>exact absurd (Zs e) h
 rw[this];simp
theorem bX{n:Nat}(h:n=0):(bne (Zo n) 0)=false:=by subst h;rfl
theorem jq{n:Nat}(h:n=0):(Xl (Zo n) 0)=true:=by subst h;rfl
theorem be{n:Nat}(h:n≠0):(bne (Zo n) 0)=true:=by
 rw[bne_iff_ne];intro e;exact h (Int.ofNat.inj e)
theorem hZ{n:Nat}(h:n≠0):(Xl (Zo n) 0)=false:=by
 cases e:(Xl (Zo n) 0) with
 |false=>rfl
 |true=>exact absurd (Int.ofNat.inj (eq_of_beq e)) h
theorem KW(s:Nat)(h:s<2^32):4294967295 ||| s=4294967295:=by
 apply Nat.eq_of_testBit_eq
 intro i
 rw[Nat.testBit_or,show (4294967295:Nat)=2^32-1 from rfl,Nat.testBit_two_pow_sub_one]
 by_cases hi:i<32
 ·rw[decide_eq_true hi];rfl
 ·rw[decide_eq_false hi,Nat.testBit_lt_two_pow (Zr h (Nat.pow_le_pow_right (by decide) (by omega)))];rfl
theorem vj{z:Int}{s:Nat}(hz:z=(s:Int))(h:s<2^32):Zc 4294967295 z=4294967295-(s:Int):=by
 subst hz
 unfold Zc
 rw[show (4294967295:Int)=((4294967295:Nat):Int) from rfl,b9,ay,KW s h,Z1,show (4294967295:Nat)=2^32-1 from rfl,g7,Nat.mod_eq_of_lt h]
noncomputable def dH(j o0 s0:Nat):Nat:=match j with
 |0=>s0
 |1=>o0 ||| s0
 |2=>o0 &&& (4294967295-s0)
 |3=>s0
 |4=>o0 ||| s0
 |_=>o0 &&& (4294967295-s0)
theorem m8{z:Int}{o0 s0:Nat}(hz:z=(s0:Int)):Zb (Zo o0) z=Zo (o0 ||| s0):=by subst hz;exact b9 o0 s0
theorem F3{s0:Nat}(h:s0<2^32):(4294967295:Int)-(s0:Int)=((4294967295-s0:Nat):Int):=by omega
theorem m7{z:Int}{o0 s0:Nat}(hz:z=(s0:Int))(h:s0<2^32):Za (Zo o0) (Zc 4294967295 z)=Zo (o0 &&& (4294967295-s0)):=by
 rw[vj hz h,F3 h];exact ay o0 _
section
variable{w:Z8}{b c:Bool}{A:AS}{s:BS}{i:Nat}{m m' v v':Int}{fz fp f:Nat→Int}
theorem Vc(hm:m=m')(hv:v=v')(H:b0 w b c A s i m' v'):b0 w b c A s i m v:=by subst hm hv;exact H
theorem wOk(hm:m=m')(hv:v=v')(H:ce w b c A s i m' v' fz fp):ce w b c A s i m v fz fp:=by subst hm hv;exact H
theorem rRk(hm:m=m')(H:fb w b c A s i m'):fb w b c A s i m:=by subst hm;exact H
theorem wRk(hm:m=m')(H:cY w b c A s i m' v):cY w b c A s i m v:=by subst hm;exact H
end
theorem nV{i m a d:Nat}(hi:i∈E29)(hm:m=0∨m=1)(h:dG i m a d=true):i∈E14:=by
 have key:∀i∈E29,i∈E14∨(strL.any (Ze i)=true∨1<i/256%4):=by decide
 rcases key i hi with h'|h'|h'
 ·exact h'
 ·unfold dG at h;rw[h']at h;cases h
 ·unfold dG at h
  have:Nat.blt m (i/256%4)=true:=Nat.ble_eq_true_of_le (by omega)
  rw[this]at h
  cases e:strL.any (Ze i)<;>rw[e]at h<;>cases h
theorem ws{i m a d:Nat}(hi:i∈E29)(hm:m=0∨m=1)(h:dG i m a d=true)(h3:Zn 3072 i=false):i∈E10∧m=1:=by
 have h14:=nV hi hm h
 have key:∀i∈E14,Zn 3072 i=false→i∈E10∧0<i/256%4∧strL.any (Ze i)=false:=by decide
 obtain⟨k1,k2,k3⟩:=key i h14 h3
 refine⟨k1,hm.resolve_left ?_⟩
 rintro rfl
 unfold dG at h
 have:Nat.blt 0 (i/256%4)=true:=Nat.ble_eq_true_of_le k2
 rw[k3,this]at h;cases h
structure NInv (s:BS):Prop where
 rb:∀k,k<32→∃n:Nat,(s.r k).1=n∧n<2^32
 pb:∀k∈plainL,∃n:Nat,(s.p k).1=n∧n<2^32
 zb:∀k∈[768,770,771,772,836,384],∃n:Nat,(s.z k).1=n∧n<2^32
 cy:(s.z 2816).1=0
 re:(s.z 2818).1=0
 md:s.md.1=0∨s.md.1=1
 pc:∃n:Nat,s.pc.1=n∧n<2^32
theorem jU{x y:Int}{a:Nat}(hx:x=a)(ha:a<2^32)(b:Nat)(hy:y=b):∃n:Nat,Za x y=n∧n<2^32:=⟨a &&& b,by rw[hx,hy];exact ay a b,Zt Nat.and_le_left ha⟩
theorem NInv.rd{s:BS}(I:NInv s):∀i∈E14,∃n:Nat,bv s i=n∧n<2^32:=by
 obtain⟨a,ha,ha'⟩:=I.zb 768 (by decide)
 obtain⟨b,hb,hb'⟩:=I.zb 771 (by decide)
 obtain⟨d,hd,hd'⟩:=I.zb 772 (by decide)
 obtain⟨e,he,he'⟩:=I.zb 836 (by decide)
 have cy:=I.cy
 have re:=I.re
 refine @ab _ _ _ _ ?_ ?_
 ·exact jU ha ha' 786722 rfl
 refine ab (jU hd hd' b hb) (ab (jU he he' b hb) ?_)
 iterate 6 refine ab (I.pb _ (by decide)) ?_
 refine ab (I.zb 384 (by decide)) ?_
 refine ab ?_ (ab ?_ (ab ?_ (ab ?_ aa)))
 ·exact jU cy (by decide) 4294967295 rfl
 ·exact jU cy (by decide) 4294967295 rfl
 ·exact jU re (by decide) 4294967295 rfl
 ·show ∃n:Nat,Za (aw (s.z 2818).1 32) 4294967295=n∧n<2^32
  rw[re];exact⟨0,by decide,by decide⟩
def bg(s:BS)(i:Nat):Nat:=(bv s i).toNat
noncomputable def lT(s:BS)(j y:Nat):Nat:=cond (Zn 3 j) y (s.r y).1.toNat
def i9(s:BS)(j y i:Nat):Nat→Int:=cond (iv j y) (rL s i (dH j (bg s i) (lT s j y))) (vz s)
def i8(s:BS)(j y i:Nat):Nat→Int:=cond (iv j y) (rK s i (dH j (bg s i) (lT s j y))) (vp s)
def Gl(s:BS)(rd i:Nat):Nat→Int:=cond (Ze rd 0) (vr s) (bc (vr s) rd (bv s i))
def lq(s:BS)(m j y i:Nat):Bool:=dG i m (s.p 774).1.toNat (s.p 262).1.toNat&&!(iv j y&&Zn 3072 i)
theorem nU{z:Int}(h:∃n:Nat,z=n∧n<2^32):z=((z.toNat:Nat):Int)∧z.toNat<2^32:=by
 obtain⟨n,rfl,h⟩:=h
 exact⟨rfl,h⟩
theorem fU{s:BS}{rd i:Nat}(h:rd≠0):Gl s rd i=bc (vr s) rd (bv s i):=by
 unfold Gl
 cases e:Ze rd 0 with
 |false=>rfl
 |true=>exact absurd (Zs e) h
section
variable{w:Z8}{b c:Bool}{A:AS}{s:BS}(I:NInv s){j rd by_ at_ m:Nat}(hj:j<6)(hr:rd<32)(hb:by_<32)(hi:at_∈E29)(hm:m=0∨m=1)
include I hj hr hb hi hm
theorem Kh(h:lq s m j by_ at_=true)(es:Array Z7)(em:Nat)(pc:Int×Nat)(mt:Nat):bR w b c A ⟨s.z,s.p,s.r,pc,(Zo m,mt),s.sp,es,em⟩ (aD j) (Zo rd) (Zo (da j by_)) (dr j by_) (Zo at_) (i9 s j by_ at_) (i8 s j by_ at_) (Gl s rd at_):=by
 obtain⟨a1,_⟩:=nU (I.pb 774 (by decide))
 obtain⟨d1,_⟩:=nU (I.pb 262 (by decide))
 obtain⟨hN,hT⟩:=Bool.and_eq_true_iff.mp h
 have h14:=nV hi hm hN
 obtain⟨eO,hO⟩:=nU (I.rd at_ h14)
 obtain⟨eS,hS⟩:=nU (I.rb by_ hb)
 have eO':bv s at_=Zo (bg s at_):=eO
 have RD:b0 w b c A ⟨s.z,s.p,s.r,pc,(Zo m,mt),s.sp,es,em⟩ at_ (Zo m) (Zo (bg s at_)):=Vc rfl eO'.symm (lQ w b c A ⟨s.z,s.p,s.r,pc,(Zo m,mt),s.sp,es,em⟩ _ _ a1 d1 h14 hm hN)
 have WR:∀(v:Nat) (z:Int),z=Zo v→Zn 3072 at_=false→ce w b c A ⟨s.z,s.p,s.r,pc,(Zo m,mt),s.sp,es,em⟩ at_ (Zo m) z (rL s at_ v) (rK s at_ v):=fun v z hz h3=>by
  obtain⟨h10,hm1⟩:=ws hi hm hN h3
  subst hm1
  exact wOk rfl hz (CS w b c A ⟨s.z,s.p,s.r,pc,(Zo 1,mt),s.sp,es,em⟩ v h10)
 unfold i9 i8
 have six:j=0∨j=1∨j=2∨j=3∨j=4∨j=5:=by omega
 rcases six with rfl|rfl|rfl|rfl|rfl|rfl
 ·have h3:Zn 3072 at_=false:=oA (tw:=iv 0 by_) rfl hT
  by_cases hz:rd=0
  ·subst hz
   cases ht:bD [256,384,768] (Zo at_) with
   |false=>exact DY w b c A _ 0 (by decide) 0 by_ at_ (by decide) hb rfl rfl _ _ (WR (dH 0 (bg s at_) (s.r by_).1.toNat) _ eS h3) ht (fc (bX rfl) (fc (jq rfl) aa))
   |true=>exact DZ w b c A _ 0 (by decide) 0 by_ at_ (by decide) hb rfl rfl _ _ (WR (dH 0 (bg s at_) (s.r by_).1.toNat) _ eS h3) ht (fc (bX rfl) (fc (jq rfl) aa))
  ·
   rw[fU hz,eO']
   cases ht:bD [256,384,768] (Zo at_) with
   |false=>exact D0 w b c A _ 0 (by decide) rd by_ at_ hr hb rfl rfl (Zo (bg s at_)) RD _ _ (WR (dH 0 (bg s at_) (s.r by_).1.toNat) _ eS h3) ht (fc (be hz) (fc (hZ hz) aa))
   |true=>exact D2 w b c A _ 0 (by decide) rd by_ at_ hr hb rfl rfl (Zo (bg s at_)) RD _ _ (WR (dH 0 (bg s at_) (s.r by_).1.toNat) _ eS h3) ht (fc (be hz) (fc (hZ hz) aa))
 ·by_cases hy0:by_=0
  ·subst hy0
   by_cases hz:rd=0
   ·subst hz
    exact tS w b c A _ 1 (by decide) 0 0 at_ (by decide) (by decide) rfl rfl (Zo (bg s at_)) RD (fc (bX rfl) (fc (bX rfl) aa))
   ·
    rw[fU hz,eO']
    exact tT w b c A _ 1 (by decide) rd 0 at_ hr (by decide) rfl rfl (Zo (bg s at_)) RD (fc (be hz) (fc (bX rfl) aa))
  ·have h3:Zn 3072 at_=false:=oA (tw:=iv 1 by_) (f5 hy0) hT
   rw[f5 hy0]
   by_cases hz:rd=0
   ·subst hz
    cases ht:bD [256,384,768] (Zo at_) with
    |false=>exact D5 w b c A _ 1 (by decide) 0 by_ at_ (by decide) hb rfl rfl (Zo (bg s at_)) RD rfl _ _ (WR (dH 1 (bg s at_) (s.r by_).1.toNat) _ (m8 eS) h3) ht (fc (bX rfl) (fc (be hy0) aa))
    |true=>exact D9 w b c A _ 1 (by decide) 0 by_ at_ (by decide) hb rfl rfl (Zo (bg s at_)) RD rfl _ _ (WR (dH 1 (bg s at_) (s.r by_).1.toNat) _ (m8 eS) h3) ht (fc (bX rfl) (fc (be hy0) aa))
   ·
    rw[fU hz,eO']
    cases ht:bD [256,384,768] (Zo at_) with
    |false=>exact Ea w b c A _ 1 (by decide) rd by_ at_ hr hb rfl rfl (Zo (bg s at_)) RD rfl _ _ (WR (dH 1 (bg s at_) (s.r by_).1.toNat) _ (m8 eS) h3) ht (fc (be hz) (fc (be hy0) aa))
    |true=>exact Eb w b c A _ 1 (by decide) rd by_ at_ hr hb rfl rfl (Zo (bg s at_)) RD rfl _ _ (WR (dH 1 (bg s at_) (s.r by_).1.toNat) _ (m8 eS) h3) ht (fc (be hz) (fc (be hy0) aa))
 ·by_cases hy0:by_=0
  ·subst hy0
   by_cases hz:rd=0
   ·subst hz
    exact tS w b c A _ 2 (by decide) 0 0 at_ (by decide) (by decide) rfl rfl (Zo (bg s at_)) RD (fc (bX rfl) (fc (bX rfl) aa))
   ·
    rw[fU hz,eO']
    exact tT w b c A _ 2 (by decide) rd 0 at_ hr (by decide) rfl rfl (Zo (bg s at_)) RD (fc (be hz) (fc (bX rfl) aa))
  ·have h3:Zn 3072 at_=false:=oA (tw:=iv 2 by_) (f5 hy0) hT
   rw[f5 hy0]
   by_cases hz:rd=0
   ·subst hz
    cases ht:bD [256,384,768] (Zo at_) with
    |false=>exact As w b c A _ 2 (by decide) 0 by_ at_ (by decide) hb rfl rfl (Zo (bg s at_)) RD rfl _ _ (WR (dH 2 (bg s at_) (s.r by_).1.toNat) _ (m7 eS hS) h3) ht (fc (bX rfl) (fc (be hy0) aa))
    |true=>exact At w b c A _ 2 (by decide) 0 by_ at_ (by decide) hb rfl rfl (Zo (bg s at_)) RD rfl _ _ (WR (dH 2 (bg s at_) (s.r by_).1.toNat) _ (m7 eS hS) h3) ht (fc (bX rfl) (fc (be hy0) aa))
   ·
    rw[fU hz,eO']
    cases ht:bD [256,384,768] (Zo at_) with
    |false=>exact Au w b c A _ 2 (by decide) rd by_ at_ hr hb rfl rfl (Zo (bg s at_)) RD rfl _ _ (WR (dH 2 (bg s at_) (s.r by_).1.toNat) _ (m7 eS hS) h3) ht (fc (be hz) (fc (be hy0) aa))
    |true=>exact Av w b c A _ 2 (by decide) rd by_ at_ hr hb rfl rfl (Zo (bg s at_)) RD rfl _ _ (WR (dH 2 (bg s at_) (s.r by_).1.toNat) _ (m7 eS hS) h3) ht (fc (be hz) (fc (be hy0) aa))
 ·have h3:Zn 3072 at_=false:=oA (tw:=iv 3 by_) rfl hT
  by_cases hz:rd=0
  ·subst hz
   cases ht:bD [256,384,768] (Zo at_) with
   |false=>exact Aw w b c A _ 3 (by decide) 0 at_ (Zo by_) (by decide) rfl rfl _ _ (WR (dH 3 (bg s at_) by_) _ rfl h3) ht (fc (bX rfl) (fc (jq rfl) aa))
   |true=>exact Ax w b c A _ 3 (by decide) 0 at_ (Zo by_) (by decide) rfl rfl _ _ (WR (dH 3 (bg s at_) by_) _ rfl h3) ht (fc (bX rfl) (fc (jq rfl) aa))
  ·
   rw[fU hz,eO']
   cases ht:bD [256,384,768] (Zo at_) with
   |false=>exact Ay w b c A _ 3 (by decide) rd at_ (Zo by_) hr rfl rfl (Zo (bg s at_)) RD _ _ (WR (dH 3 (bg s at_) by_) _ rfl h3) ht (fc (be hz) (fc (hZ hz) aa))
   |true=>exact Az w b c A _ 3 (by decide) rd at_ (Zo by_) hr rfl rfl (Zo (bg s at_)) RD _ _ (WR (dH 3 (bg s at_) by_) _ rfl h3) ht (fc (be hz) (fc (hZ hz) aa))
 ·by_cases hy0:by_=0
  ·subst hy0
   by_cases hz:rd=0
   ·subst hz
    exact ri w b c A _ 4 (by decide) 0 at_ (Zo 0) (by decide) rfl rfl (Zo (bg s at_)) RD (fc (bX rfl) (fc (bX rfl) aa))
   ·
    rw[fU hz,eO']
    exact rj w b c A _ 4 (by decide) rd at_ (Zo 0) hr rfl rfl (Zo (bg s at_)) RD (fc (be hz) (fc (bX rfl) aa))
  ·have h3:Zn 3072 at_=false:=oA (tw:=iv 4 by_) (f5 hy0) hT
   rw[f5 hy0]
   by_cases hz:rd=0
   ·subst hz
    cases ht:bD [256,384,768] (Zo at_) with
    |false=>exact AA w b c A _ 4 (by decide) 0 at_ (Zo by_) (by decide) rfl rfl (Zo (bg s at_)) RD rfl _ _ (WR (dH 4 (bg s at_) by_) _ (m8 rfl) h3) ht (fc (bX rfl) (fc (be hy0) aa))
    |true=>exact AB w b c A _ 4 (by decide) 0 at_ (Zo by_) (by decide) rfl rfl (Zo (bg s at_)) RD rfl _ _ (WR (dH 4 (bg s at_) by_) _ (m8 rfl) h3) ht (fc (bX rfl) (fc (be hy0) aa))
   ·
    rw[fU hz,eO']
    cases ht:bD [256,384,768] (Zo at_) with
    |false=>exact AC w b c A _ 4 (by decide) rd at_ (Zo by_) hr rfl rfl (Zo (bg s at_)) RD rfl _ _ (WR (dH 4 (bg s at_) by_) _ (m8 rfl) h3) ht (fc (be hz) (fc (be hy0) aa))
    |true=>exact AD w b c A _ 4 (by decide) rd at_ (Zo by_) hr rfl rfl (Zo (bg s at_)) RD rfl _ _ (WR (dH 4 (bg s at_) by_) _ (m8 rfl) h3) ht (fc (be hz) (fc (be hy0) aa))
 ·by_cases hy0:by_=0
  ·subst hy0
   by_cases hz:rd=0
   ·subst hz
    exact ri w b c A _ 5 (by decide) 0 at_ (Zo 0) (by decide) rfl rfl (Zo (bg s at_)) RD (fc (bX rfl) (fc (bX rfl) aa))
   ·
    rw[fU hz,eO']
    exact rj w b c A _ 5 (by decide) rd at_ (Zo 0) hr rfl rfl (Zo (bg s at_)) RD (fc (be hz) (fc (bX rfl) aa))
  ·have h3:Zn 3072 at_=false:=oA (tw:=iv 5 by_) (f5 hy0) hT
   rw[f5 hy0]
   by_cases hz:rd=0
   ·subst hz
    cases ht:bD [256,384,768] (Zo at_) with
    |false=>exact AE w b c A _ 5 (by decide) 0 at_ (Zo by_) (by decide) rfl rfl (Zo (bg s at_)) RD rfl _ _ (WR (dH 5 (bg s at_) by_) _ (m7 rfl (Zh hb (by decide))) h3) ht (fc (bX rfl) (fc (be hy0) aa))
    |true=>exact AF w b c A _ 5 (by decide) 0 at_ (Zo by_) (by decide) rfl rfl (Zo (bg s at_)) RD rfl _ _ (WR (dH 5 (bg s at_) by_) _ (m7 rfl (Zh hb (by decide))) h3) ht (fc (bX rfl) (fc (be hy0) aa))
   ·
    rw[fU hz,eO']
    cases ht:bD [256,384,768] (Zo at_) with
    |false=>exact AG w b c A _ 5 (by decide) rd at_ (Zo by_) hr rfl rfl (Zo (bg s at_)) RD rfl _ _ (WR (dH 5 (bg s at_) by_) _ (m7 rfl (Zh hb (by decide))) h3) ht (fc (be hz) (fc (be hy0) aa))
    |true=>exact AH w b c A _ 5 (by decide) rd at_ (Zo by_) hr rfl rfl (Zo (bg s at_)) RD rfl _ _ (WR (dH 5 (bg s at_) by_) _ (m7 rfl (Zh hb (by decide))) h3) ht (fc (be hz) (fc (be hy0) aa))
theorem OC(h:lq s m j by_ at_=false)(es:Array Z7)(em:Nat)(pc:Int×Nat)(mt:Nat):eV w b c A ⟨s.z,s.p,s.r,pc,(Zo m,mt),s.sp,es,em⟩ (aD j) (Zo rd) (Zo (da j by_)) (dr j by_) (Zo at_):=by
 obtain⟨a1,_⟩:=nU (I.pb 774 (by decide))
 obtain⟨d1,_⟩:=nU (I.pb 262 (by decide))
 unfold lq at h
 have WX:∀(v:Int),iv j by_=true→cY w b c A ⟨s.z,s.p,s.r,pc,(Zo m,mt),s.sp,es,em⟩ at_ (Zo m) v:=fun v e=>wRk rfl (zT w b c A ⟨s.z,s.p,s.r,pc,(Zo m,mt),s.sp,es,em⟩ _ _ a1 d1 v hi hm (by rw[e]at h;exact h))
 cases hN:dG at_ m (s.p 774).1.toNat (s.p 262).1.toNat with
 |false=>
  have RX:fb w b c A ⟨s.z,s.p,s.r,pc,(Zo m,mt),s.sp,es,em⟩ at_ (Zo m):=rRk rfl (Cu w b c A ⟨s.z,s.p,s.r,pc,(Zo m,mt),s.sp,es,em⟩ _ _ a1 d1 hi hm hN)
  have six:j=0∨j=1∨j=2∨j=3∨j=4∨j=5:=by omega
  rcases six with rfl|rfl|rfl|rfl|rfl|rfl
  ·by_cases hz:rd=0
   ·subst hz
    exact rf w b c A _ 0 (by decide) 0 by_ at_ hb rfl rfl (WX _ rfl) (fc (jq rfl) aa)
   ·exact An w b c A _ 0 (by decide) rd by_ at_ hb rfl rfl RX (fc (hZ hz) aa)
  ·by_cases hy0:by_=0
   ·subst hy0
    exact rc w b c A _ 1 (by decide) rd 0 at_ (by decide) rfl rfl RX (fc (bX rfl) aa)
   ·exact q9 w b c A _ 1 (by decide) rd by_ at_ hb rfl rfl RX (fc (be hy0) aa)
  ·by_cases hy0:by_=0
   ·subst hy0
    exact rc w b c A _ 2 (by decide) rd 0 at_ (by decide) rfl rfl RX (fc (bX rfl) aa)
   ·exact q9 w b c A _ 2 (by decide) rd by_ at_ hb rfl rfl RX (fc (be hy0) aa)
  ·by_cases hz:rd=0
   ·subst hz
    exact o9 w b c A _ 3 (by decide) 0 at_ (Zo by_) rfl rfl (WX _ rfl) (fc (jq rfl) aa)
   ·exact Ar w b c A _ 3 (by decide) rd at_ (Zo by_) rfl rfl RX (fc (hZ hz) aa)
  ·by_cases hy0:by_=0
   ·subst hy0
    exact rh w b c A _ 4 (by decide) rd at_ (Zo 0) rfl rfl RX (fc (bX rfl) aa)
   ·exact rg w b c A _ 4 (by decide) rd at_ (Zo by_) rfl rfl RX (fc (be hy0) aa)
  ·by_cases hy0:by_=0
   ·subst hy0
    exact rh w b c A _ 5 (by decide) rd at_ (Zo 0) rfl rfl RX (fc (bX rfl) aa)
   ·exact rg w b c A _ 5 (by decide) rd at_ (Zo by_) rfl rfl RX (fc (be hy0) aa)
 |true=>
  have h14:=nV hi hm hN
  have RD:b0 w b c A ⟨s.z,s.p,s.r,pc,(Zo m,mt),s.sp,es,em⟩ at_ (Zo m) (bv s at_):=Vc rfl rfl (lQ w b c A ⟨s.z,s.p,s.r,pc,(Zo m,mt),s.sp,es,em⟩ _ _ a1 d1 h14 hm hN)
  have hW:iv j by_=true:=by cases e:iv j by_ with|true=>rfl|false=>rw[hN,e]at h;cases h
  have six:j=0∨j=1∨j=2∨j=3∨j=4∨j=5:=by omega
  rcases six with rfl|rfl|rfl|rfl|rfl|rfl
  ·by_cases hz:rd=0
   ·subst hz
    exact rf w b c A _ 0 (by decide) 0 by_ at_ hb rfl rfl (WX _ rfl) (fc (jq rfl) aa)
   ·exact Ao w b c A _ 0 (by decide) rd by_ at_ hb rfl rfl _ RD (WX _ rfl) (fc (hZ hz) aa)
  ·have hy0:by_≠0:=by rintro rfl;cases hW
   exact Ap w b c A _ 1 (by decide) rd by_ at_ hb rfl rfl _ RD rfl (WX _ (f5 hy0)) (fc (be hy0) aa)
  ·have hy0:by_≠0:=by rintro rfl;cases hW
   exact Aq w b c A _ 2 (by decide) rd by_ at_ hb rfl rfl _ RD rfl (WX _ (f5 hy0)) (fc (be hy0) aa)
  ·by_cases hz:rd=0
   ·subst hz
    exact o9 w b c A _ 3 (by decide) 0 at_ (Zo by_) rfl rfl (WX _ rfl) (fc (jq rfl) aa)
   ·exact xU w b c A _ 3 (by decide) rd at_ (Zo by_) rfl rfl _ RD (WX _ rfl) (fc (hZ hz) aa)
  ·have hy0:by_≠0:=by rintro rfl;cases hW
   exact xV w b c A _ 4 (by decide) rd at_ (Zo by_) rfl rfl _ RD rfl (WX _ (f5 hy0)) (fc (be hy0) aa)
  ·have hy0:by_≠0:=by rintro rfl;cases hW
   exact xW w b c A _ 5 (by decide) rd at_ (Zo by_) rfl rfl _ RD rfl (WX _ (f5 hy0)) (fc (be hy0) aa)
end
def Ins.fit(I:Ins):Prop:=I.ok∧match I with
 |.csr _ _ _ at_=>at_∈E29
 |_=>True
def ed(s:BS)(I:Ins):Bool:=match I with
 |.csr j _ by_ at_=>lq s s.md.1.toNat j by_ at_
 |.nm 0=>false
 |.nm 3=>!(Xl s.md.1 0)
 |.nm 5=>!(Xl s.md.1 0)
 |_=>true
def Hf(s:BS)(I:Ins):Nat→Int:=match I with
 |.csr j _ by_ at_=>i9 s j by_ at_
 |.nm 5=>zD s
 |_=>vz s
def U0(s:BS)(I:Ins):Nat→Int:=match I with
 |.csr j _ by_ at_=>i8 s j by_ at_
 |_=>vp s
noncomputable def xS(s:BS)(r1 r2:Nat):Int:=Za ((s.r r1).1+(s.r r2).1) 4294967295
noncomputable def sb(s:BS)(r1 im:Nat):Int:=Za ((s.r r1).1+(Za (Zo im) 4294967295)) 4294967295
def BU(s:BS)(I:Ins):Nat→Int:=match I with
 |.csr _ rd _ at_=>Gl s rd at_
 |.nm _=>vr s
 |.ad rd r1 r2=>cond (Ze rd 0) (vr s) (bc (vr s) rd (xS s r1 r2))
 |.ai rd r1 im=>cond (Ze rd 0) (vr s) (bc (vr s) rd (sb s r1 im))
def mU(s:BS)(I:Ins):Int:=match I with
 |.nm 5=>(s.p 321).1
 |_=>fW s
def mV(s:BS)(I:Ins):Int:=match I with
 |.nm 5=>iQ s
 |_=>s.md.1
theorem lB{s:BS}(h:s.md.1=0∨s.md.1=1):s.md.1.toNat=0∨s.md.1.toNat=1:=by
 rcases h with h|h<;>rw[h]
 ·exact .inl rfl
 ·exact .inr rfl
theorem wo{s:BS}(h:s.md.1=0∨s.md.1=1):s.md=(Zo s.md.1.toNat,s.md.2):=by
 rcases h with h|h
 ·exact Prod.ext (by rw[h];rfl) rfl
 ·exact Prod.ext (by rw[h];rfl) rfl
theorem NX{n:Nat}(h:n=0):Ze n 0=true:=by subst h;rfl
theorem NY{n:Nat}(h:n≠0):Ze n 0=false:=by
 cases e:Ze n 0 with
 |false=>rfl
 |true=>exact absurd (Zs e) h
theorem NW:∀x∈E29,256≤x:=by decide
section
variable(w:Z8)(b c:Bool)(A:AS){s:BS}(N:NInv s){I:Ins}(hI:I.fit)
include N hI
theorem ve(h:ed s I=true):gF w b c A s I (Hf s I) (U0 s I) (BU s I) (mU s I) (mV s I):=by
 obtain⟨hok,hf⟩:=hI
 have hm:=lB N.md
 cases I with
 |csr j rd by_ at_=>
  obtain⟨h1,h2,h3,h4⟩:=hok
  refine F6 (w:=w) (b:=b) (c:=c) (A:=A) ⟨h1,h2,h3,h4⟩ (mR w b c A h2 h3 h4 j h1) fun es em=>?_
  rw[wo N.md]
  exact Kh (w:=w) (b:=b) (c:=c) (A:=A) N h1 h2 h3 hf hm h es em _ _
 |nm k=>
  have six:k=0∨k=1∨k=2∨k=3∨k=4∨k=5:=by have:k<6:=hok;omega
  rcases six with rfl|rfl|rfl|rfl|rfl|rfl
  ·cases h
  ·exact kO w b c A s (by decide) fun es em=>Qv w b c A _
  ·exact kO w b c A s (by decide) fun es em=>FV w b c A _
  ·have h':(Xl s.md.1 0)=false:=by
    have:(!(Xl s.md.1 0))=true:=h
    simpa using this
   exact kO w b c A s (by decide) fun es em=>Uh w b c A _ h'
  ·exact kO w b c A s (by decide) fun es em=>Cz w b c A _
  ·have h':(decide (Xm s.md.1 1))=false:=by
    have:(!(Xl s.md.1 0))=true:=h
    rcases N.md with e|e<;>rw[e]at this ⊢
    ·cases this
    ·rfl
   exact kO w b c A s (by decide) fun es em=>LO w b c A _ h'
 |ad rd r1 r2=>
  show gF w b c A s (.ad rd r1 r2) (vz s) (vp s) (cond (Ze rd 0) (vr s) (bc (vr s) rd (xS s r1 r2))) (fW s) s.md.1
  by_cases hz:rd=0
  ·rw[NX hz];exact zL w b c A s hok (bX hz)
  ·rw[NY hz];exact zK w b c A s hok (be hz)
 |ai rd r1 im=>
  show gF w b c A s (.ai rd r1 im) (vz s) (vp s) (cond (Ze rd 0) (vr s) (bc (vr s) rd (sb s r1 im))) (fW s) s.md.1
  by_cases hz:rd=0
  ·rw[NX hz];exact vN w b c A s hok (bX hz)
  ·rw[NY hz];exact vM w b c A s hok (be hz)
theorem wV(h:ed s I=false):xP w b c A s I:=by
 obtain⟨hok,hf⟩:=hI
 have hm:=lB N.md
 cases I with
 |csr j rd by_ at_=>
  obtain⟨h1,h2,h3,h4⟩:=hok
  refine CE (w:=w) (b:=b) (c:=c) (A:=A) ⟨h1,h2,h3,h4⟩ (mR w b c A h2 h3 h4 j h1) (NW _ hf) fun es em=>?_
  rw[wo N.md]
  exact OC (w:=w) (b:=b) (c:=c) (A:=A) N h1 h2 h3 hf hm h es em _ _
 |nm k=>
  have six:k=0∨k=1∨k=2∨k=3∨k=4∨k=5:=by have:k<6:=hok;omega
  rcases six with rfl|rfl|rfl|rfl|rfl|rfl
  ·refine oY w b c A s (by decide) (by decide) fun es em=>FT w b c A _ ?_
   show (decide (Xm s.md.1 3))=true
   rcases N.md with e|e<;>rw[e]<;>rfl
  ·cases h
  ·cases h
  ·refine oY w b c A s (by decide) (by decide) fun es em=>Qk w b c A _ ?_
   show (Xl s.md.1 0)=true
   have:(!(Xl s.md.1 0))=false:=h
   simpa using this
  ·cases h
  ·refine oY w b c A s (by decide) (by decide) fun es em=>FU w b c A _ ?_
   show (decide (Xm s.md.1 1))=true
   have:(!(Xl s.md.1 0))=false:=h
   rcases N.md with e|e<;>rw[e]at this ⊢
   ·rfl
   ·cases this
 |ad rd r1 r2=>cases h
 |ai rd r1 im=>cases h
end
noncomputable def H8:List Nat:=[0,2,32,34,512,514,544,546]
structure HInv (s:BS) (h:Nat):Prop where
 n:NInv s
 hd:(s.z 771).1=(h:Int)
 pv:Za (s.z 768).1 131072=0
structure Like (s u:BS):Prop where
 r:∀k,k<32→(s.r k).1=(u.r k).1
 p:∀k∈[261,262,320,321,322,323,774],(s.p k).1=(u.p k).1
 sa:(s.z 384).1=(u.z 384).1
 st:Za (s.z 768).1 786722=Za (u.z 768).1 786722
 en:Za (s.z 772).1 (s.z 771).1=Za (u.z 772).1 (u.z 771).1
 wa:Za (s.z 836).1 (s.z 771).1=Za (u.z 836).1 (u.z 771).1
 pc:s.pc.1=u.pc.1
 md:s.md.1=u.md.1
structure Keep (s t:BS) (h:Nat):Prop where
 z:∀k∈[770,771,3860,2816,2818],(t.z k).1=(s.z k).1
 p:∀k∈[773,774,832,833,834,835],(t.p k).1=(s.p k).1
 st:Za (t.z 768).1 137352=Za (s.z 768).1 137352
 en:Za (t.z 772).1 (Zc 2730 (h:Int))=Za (s.z 772).1 (Zc 2730 (h:Int))
 wa:Za (t.z 836).1 (Zc 2730 (h:Int))=Za (s.z 836).1 (Zc 2730 (h:Int))
structure Behind (s t:BS) (I:Ins):Prop where
 z:∀k,(t.z k).1=Hf s I k
 p:∀k,(t.p k).1=U0 s I k
 r:∀k,(t.r k).1=BU s I k
 pc:t.pc.1=mU s I
 md:t.md.1=mV s I
theorem nT{a v p q m:Nat}(h1:p &&& m=m)(h2:q &&& m=0):((a &&& p) ||| (v &&& q)) &&& m=a &&& m:=by
 rw[Zl,Zq,Zq,h1,h2,Nat.and_zero,Nat.or_zero]
theorem lE{a v p q m:Nat}(h1:p &&& m=0)(h2:q &&& m=q):((a &&& p) ||| (v &&& q)) &&& m=v &&& q:=by
 rw[Zl,Zq,Zq,h1,h2,Nat.and_zero,Nat.zero_or]
theorem wZ{x:Nat}(h:x<2^32):Zc 4294967295 (x:Int)=((4294967295-x:Nat):Int):=by
 rw[vj rfl h];omega
theorem JS:∀h∈H8,Zc 2730 (h:Int)=((2730-h:Nat):Int):=by decide
theorem yQ:∀h∈H8,h<2^32:=by decide
theorem Pl:∀h∈H8,(4294967295-h) &&& (2730-h)=2730-h∧h &&& (2730-h)=0∧(4294967295-h) &&& h=0∧h &&& h=h:=by decide
theorem Pm:∀h∈H8,(4294967295-(h &&& 2)) &&& (2730-h)=2730-h∧(h &&& 2) &&& (2730-h)=0∧(4294967295-(h &&& 2)) &&& h=h &&& (4294967295-(h &&& 2))∧(h &&& 2) &&& h=h &&& 2∧h &&& 2<2^32:=by decide
theorem NV{x:Int}{a:Nat}(h:x=a)(m:Nat):Za x (m:Int)=((a &&& m:Nat):Int):=by subst h;exact ay a m
theorem oS(v:Nat):Za (Zo v) 4294967295=((v%4294967296:Nat):Int):=DV v
theorem zS{x:Int}{a:Nat}(h:x=a)(v:Nat):Zb (Za x 4294180573) (Za (Za (Zo v) 4294967295) 786722)=(((a &&& 4294180573) ||| (v%4294967296 &&& 786722):Nat):Int):=by
 rw[oS,show (4294180573:Int)=((4294180573:Nat):Int) from rfl,show (786722:Int)=((786722:Nat):Int) from rfl,NV h,ay,b9]
theorem oB{x y:Int}{a d:Nat}(h:x=a)(hy:y=d)(hd:d<2^32)(v:Nat):Zb (Za x (Zc 4294967295 y)) (Za (Za (Zo v) 4294967295) y)=(((a &&& (4294967295-d)) ||| (v%4294967296 &&& d):Nat):Int):=by
 rw[oS,hy,wZ hd,NV h,ay,b9]
theorem za{a b p q:Nat}(ha:a<2^32)(hb:b<2^32):(a &&& p) ||| (b &&& q)<2^32:=Nat.or_lt_two_pow (Zt Nat.and_le_left ha) (Zt Nat.and_le_left hb)
theorem jk(v:Nat):v%4294967296<2^32:=Zg _ (by decide)
theorem vi(v:Nat):∀i∈[261,262,320,321,322,323],∃X:Nat,X<2^32∧∀s:BS,rK s i v=bc (vp s) i (X:Int)∧rL s i v=vz s:=by
  have m:=oS v
  have l:=jk v
  have a:∀q:Nat,Za (Za (Zo v) 4294967295) (q:Int)=((v%4294967296 &&& q:Nat):Int):=fun q=>by rw[m];exact ay _ _
  have b:∀q:Nat,v%4294967296 &&& q<2^32:=fun q=>Zt Nat.and_le_left l
  refine ab ⟨_,b 4294967293,fun s=>⟨congrArg (bc (vp s) 261) (a 4294967293),rfl⟩⟩ ?_
  refine ab ⟨_,b 7,fun s=>⟨congrArg (bc (vp s) 262) (a 7),rfl⟩⟩ ?_
  refine ab ⟨_,l,fun s=>⟨congrArg (bc (vp s) 320) m,rfl⟩⟩ ?_
  refine ab ⟨_,b 4294967292,fun s=>⟨congrArg (bc (vp s) 321) (a 4294967292),rfl⟩⟩ ?_
  refine ab ⟨_,l,fun s=>⟨congrArg (bc (vp s) 322) m,rfl⟩⟩ ?_
  exact ab ⟨_,l,fun s=>⟨congrArg (bc (vp s) 323) m,rfl⟩⟩ aa
theorem wX(v:Nat):∃X:Nat,X<2^32∧∀s:BS,rK s 384 v=vp s∧rL s 384 v=bc (vz s) 384 (X:Int):=
  ⟨v%4294967296 &&& 2151677951,Zt Nat.and_le_left (jk v),fun s=>⟨rfl,congrArg (bc (vz s) 384) (by rw[oS];exact ay _ _)⟩⟩
structure Zp (s t:BS) (h:Nat):Prop where
  pb:∀k∈plainL,∃n:Nat,(t.p k).1=n∧n<2^32
  zb:∀k∈[768,770,771,772,836,384],∃n:Nat,(t.z k).1=n∧n<2^32
  cy:(t.z 2816).1=0
  re:(t.z 2818).1=0
  hd:(t.z 771).1=(h:Int)
  pv:Za (t.z 768).1 131072=0
  k:Keep s t h
structure Lz (s u:BS):Prop where
  p:∀k∈[261,262,320,321,322,323,774],(s.p k).1=(u.p k).1
  sa:(s.z 384).1=(u.z 384).1
  st:Za (s.z 768).1 786722=Za (u.z 768).1 786722
  en:Za (s.z 772).1 (s.z 771).1=Za (u.z 772).1 (u.z 771).1
  wa:Za (s.z 836).1 (s.z 771).1=Za (u.z 836).1 (u.z 771).1
theorem oC{s t:BS}{h:Nat}(I:HInv s h)(ez:∀k,(t.z k).1=(s.z k).1)(ep:∀k,(t.p k).1=(s.p k).1):Zp s t h:=
  ⟨fun k hk=>by rw[ep];exact I.n.pb k hk,fun k hk=>by rw[ez];exact I.n.zb k hk,(ez _).trans I.n.cy,(ez _).trans I.n.re,(ez _).trans I.hd,by rw[ez];exact I.pv,
   fun k _=>ez k,fun k _=>ep k,by rw[ez],by rw[ez],by rw[ez]⟩
theorem nS{s u t1 t2:BS}(L:Like s u)(ez:∀k,(t1.z k).1=(s.z k).1)(ep:∀k,(t1.p k).1=(s.p k).1)(fz:∀k,(t2.z k).1=(u.z k).1)(fp:∀k,(t2.p k).1=(u.p k).1):Lz t1 t2:=
  ⟨fun k hk=>by rw[ep,fp];exact L.p k hk,by rw[ez,fz];exact L.sa,by rw[ez,fz];exact L.st,by rw[ez,ez,fz,fz];exact L.en,by rw[ez,ez,fz,fz];exact L.wa⟩
theorem QG:∀i∈[261,262,320,321,322,323],∀k∈[773,774,832,833,834,835],k≠i:=by decide
theorem qd{s t:BS}{h:Nat}(I:HInv s h){i:Nat}(hi:i=768∨i=772∨i=836∨i=384){X:Nat}(hX:X<2^32)(ez:∀k,(t.z k).1=bc (vz s) i (X:Int) k)(ep:∀k,(t.p k).1=(s.p k).1)
    (h8:i=768→X &&& 137352=(s.z 768).1.toNat &&& 137352∧X &&& 131072=0) (h2:i=772→Za (X:Int) (Zc 2730 (h:Int))=Za (s.z 772).1 (Zc 2730 (h:Int)))
    (h6:i=836→Za (X:Int) (Zc 2730 (h:Int))=Za (s.z 836).1 (Zc 2730 (h:Int))):Zp s t h:=by
  have e:∀k,k≠i→(t.z k).1=(s.z k).1:=fun k hk=>by rw[ez];exact cF hk
  have ei:(t.z i).1=(X:Int):=by rw[ez];exact cr _ _ _
  have o:∀k∈[770,771,3860,2816,2818],k≠i:=by rintro k hk rfl;rcases hi with rfl|rfl|rfl|rfl<;>exact absurd hk (by decide)
  obtain⟨x,hx,_⟩:=I.n.zb 768 (by decide)
  refine⟨fun k hk=>by rw[ep];exact I.n.pb k hk,fun k hk=>?_,(e _ (o _ (by decide))).trans I.n.cy,(e _ (o _ (by decide))).trans I.n.re,(e _ (o _ (by decide))).trans I.hd,?_,fun k hk=>e k (o k hk),fun k _=>ep k,?_,?_,?_⟩
  · by_cases q:k=i
    · subst q;exact⟨X,ei,hX⟩
    · rw[e k q];exact I.n.zb k hk
  · by_cases q:768=i
    · subst q;rw[ei,show (131072:Int)=((131072:Nat):Int) from rfl,ay,(h8 rfl).2];rfl
    · rw[e _ q];exact I.pv
  · by_cases q:768=i
    · subst q
      have:=(h8 rfl).1
      rw[ei,show (137352:Int)=((137352:Nat):Int) from rfl,ay,this,hx,ay];rfl
    · rw[e _ q]
  · by_cases q:772=i
    · subst q;rw[ei];exact h2 rfl
    · rw[e _ q]
  · by_cases q:836=i
    · subst q;rw[ei];exact h6 rfl
    · rw[e _ q]
theorem B0{x:Int}{a:Nat}(hx:x=a)(h:Za x 131072=0):a &&& 131072=0:=by
  subst hx
  rw[show (131072:Int)=((131072:Nat):Int) from rfl,ay]at h
  exact Int.ofNat.inj h
theorem uX{x y:Int}{a b m:Nat}(hx:x=a)(hy:y=b)(h:Za x (m:Int)=Za y (m:Int)):a &&& m=b &&& m:=by
  subst hx hy
  rw[ay,ay]at h
  exact Int.ofNat.inj h
theorem ten:∀i∈E10,i∈[261,262,320,321,322,323]∨i=384∨i=256∨i=260∨i=324:=by decide
theorem Mc{s t:BS}{h:Nat}(hh:h∈H8)(I:HInv s h){i:Nat}(hi:i∈E10)(v:Nat)(ez:∀k,(t.z k).1=rL s i v k)(ep:∀k,(t.p k).1=rK s i v k):Zp s t h:=by
  obtain⟨a,ha,ha'⟩:=I.n.zb 768 (by decide)
  obtain⟨d,hd,hd'⟩:=I.n.zb 772 (by decide)
  obtain⟨e,he,he'⟩:=I.n.zb 836 (by decide)
  have hl:=yQ h hh
  obtain⟨k1,k2,k3,k4⟩:=Pl h hh
  obtain⟨j1,j2,j3,j4,j5⟩:=Pm h hh
  have x27:=JS h hh
  rcases ten i hi with h6|rfl|rfl|rfl|rfl
  · obtain⟨X,hX,H⟩:=vi v i h6
    obtain⟨H1,H2⟩:=H s
    have ez':∀k,(t.z k).1=(s.z k).1:=fun k=>by rw[ez,H2];rfl
    have ep':∀k,(t.p k).1=bc (vp s) i (X:Int) k:=fun k=>by rw[ep,H1]
    refine⟨fun k hk=>?_,fun k hk=>by rw[ez'];exact I.n.zb k hk,(ez' _).trans I.n.cy,(ez' _).trans I.n.re,(ez' _).trans I.hd,by rw[ez'];exact I.pv,fun k _=>ez' k,fun k hk=>?_,by rw[ez'],by rw[ez'],by rw[ez']⟩
    · rw[ep']
      by_cases q:k=i
      · subst q;exact⟨X,cr _ _ _,hX⟩
      · rw[cF q];exact I.n.pb k hk
    · rw[ep',cF (QG i h6 k hk)];rfl
  · obtain⟨X,hX,H⟩:=wX v
    obtain⟨H1,H2⟩:=H s
    exact qd I (i:=384) (.inr (.inr (.inr rfl))) hX (fun k=>by rw[ez,H2]) (fun k=>by rw[ep,H1];rfl) (fun q=>by cases q) (fun q=>by cases q) (fun q=>by cases q)
  · refine qd I (i:=768) (.inl rfl) (za (p:=4294180573) (q:=786722) ha' (jk v)) (fun k=>by rw[ez];exact congrFun (congrArg (bc (vz s) 768) (zS ha v)) k) (fun k=>by rw[ep];rfl) (fun _=>⟨?_,?_⟩) (fun q=>by cases q) (fun q=>by cases q)
    · rw[ha];exact nT (by decide) (by decide)
    · rw[nT (m:=131072) (by decide) (by decide)];exact B0 ha I.pv
  · refine qd I (i:=772) (.inr (.inl rfl)) (za (p:=4294967295-h) (q:=h) hd' (jk v)) (fun k=>by rw[ez];exact congrFun (congrArg (bc (vz s) 772) (oB hd I.hd hl v)) k) (fun k=>by rw[ep];rfl) (fun q=>by cases q) (fun _=>?_) (fun q=>by cases q)
    rw[x27,ay,hd,ay,nT k1 k2]
  · have eX:Za (s.z 771).1 2=((h &&& 2:Nat):Int):=by rw[I.hd];exact ay h 2
    refine qd I (i:=836) (.inr (.inr (.inl rfl))) (za (p:=4294967295-(h &&& 2)) (q:=h &&& 2) he' (jk v)) (fun k=>by rw[ez];exact congrFun (congrArg (bc (vz s) 836) (oB he eX j5 v)) k) (fun k=>by rw[ep];rfl) (fun q=>by cases q) (fun q=>by cases q) (fun _=>?_)
    rw[x27,ay,he,ay,nT j1 j2]
theorem Md{s u t1 t2:BS}{h:Nat}(hh:h∈H8)(I:HInv s h)(J:HInv u h)(L:Like s u){i:Nat}(hi:i∈E10)(v:Nat)(ez:∀k,(t1.z k).1=rL s i v k)(ep:∀k,(t1.p k).1=rK s i v k)(fz:∀k,(t2.z k).1=rL u i v k)(fp:∀k,(t2.p k).1=rK u i v k):Lz t1 t2:=by
  obtain⟨a,ha,ha'⟩:=I.n.zb 768 (by decide)
  obtain⟨d,hd,hd'⟩:=I.n.zb 772 (by decide)
  obtain⟨e,he,he'⟩:=I.n.zb 836 (by decide)
  obtain⟨a2,ha2,_⟩:=J.n.zb 768 (by decide)
  obtain⟨d2,hd2,_⟩:=J.n.zb 772 (by decide)
  obtain⟨e2,he2,_⟩:=J.n.zb 836 (by decide)
  have hl:=yQ h hh
  obtain⟨k1,k2,k3,k4⟩:=Pl h hh
  obtain⟨j1,j2,j3,j4,j5⟩:=Pm h hh
  have lw:=L.wa
  rw[I.hd,J.hd]at lw
  have lw':=uX he he2 lw
  rcases ten i hi with h6|rfl|rfl|rfl|rfl
  · obtain⟨X,hX,H⟩:=vi v i h6
    have ez':∀k,(t1.z k).1=(s.z k).1:=fun k=>by rw[ez,(H s).2];rfl
    have fz':∀k,(t2.z k).1=(u.z k).1:=fun k=>by rw[fz,(H u).2];rfl
    refine⟨fun k hk=>?_,by rw[ez',fz'];exact L.sa,by rw[ez',fz'];exact L.st,by rw[ez',ez',fz',fz'];exact L.en,by rw[ez',ez',fz',fz'];exact L.wa⟩
    rw[ep,fp,(H s).1,(H u).1]
    by_cases q:k=i
    · subst q;rw[cr,cr]
    · rw[cF q,cF q];exact L.p k hk
  all_goals have pp:∀k∈[261,262,320,321,322,323,774],(t1.p k).1=(t2.p k).1:=fun k hk=>by rw[ep,fp];exact L.p k hk
  · obtain⟨X,hX,H⟩:=wX v
    have ez':∀k,(t1.z k).1=bc (vz s) 384 (X:Int) k:=fun k=>by rw[ez,(H s).2]
    have fz':∀k,(t2.z k).1=bc (vz u) 384 (X:Int) k:=fun k=>by rw[fz,(H u).2]
    exact⟨pp,by rw[ez',fz',cr,cr],by rw[ez',fz'];exact L.st,by rw[ez',ez',fz',fz'];exact L.en,by rw[ez',ez',fz',fz'];exact L.wa⟩
  · have ez':∀k,(t1.z k).1=bc (vz s) 768 (((a &&& 4294180573) ||| (v%4294967296 &&& 786722):Nat):Int) k:=fun k=>by rw[ez];exact congrFun (congrArg (bc (vz s) 768) (zS ha v)) k
    have fz':∀k,(t2.z k).1=bc (vz u) 768 (((a2 &&& 4294180573) ||| (v%4294967296 &&& 786722):Nat):Int) k:=fun k=>by rw[fz];exact congrFun (congrArg (bc (vz u) 768) (zS ha2 v)) k
    refine⟨pp,by rw[ez',fz'];exact L.sa,?_,by rw[ez',ez',fz',fz'];exact L.en,by rw[ez',ez',fz',fz'];exact L.wa⟩
    rw[ez',fz',cr,cr,show (786722:Int)=((786722:Nat):Int) from rfl,ay,ay,lE (by decide) (by decide),lE (by decide) (by decide)]
  · have ez':∀k,(t1.z k).1=bc (vz s) 772 (((d &&& (4294967295-h)) ||| (v%4294967296 &&& h):Nat):Int) k:=fun k=>by rw[ez];exact congrFun (congrArg (bc (vz s) 772) (oB hd I.hd hl v)) k
    have fz':∀k,(t2.z k).1=bc (vz u) 772 (((d2 &&& (4294967295-h)) ||| (v%4294967296 &&& h):Nat):Int) k:=fun k=>by rw[fz];exact congrFun (congrArg (bc (vz u) 772) (oB hd2 J.hd hl v)) k
    refine⟨pp,by rw[ez',fz'];exact L.sa,by rw[ez',fz'];exact L.st,?_,by rw[ez',ez',fz',fz'];exact L.wa⟩
    have e1:(t1.z 771).1=(h:Int):=by rw[ez'];exact I.hd
    have e2:(t2.z 771).1=(h:Int):=by rw[fz'];exact J.hd
    rw[e1,e2,ez',fz',cr,cr,ay,ay,lE k3 k4,lE k3 k4]
  · have eX:Za (s.z 771).1 2=((h &&& 2:Nat):Int):=by rw[I.hd];exact ay h 2
    have fX:Za (u.z 771).1 2=((h &&& 2:Nat):Int):=by rw[J.hd];exact ay h 2
    have ez':∀k,(t1.z k).1=bc (vz s) 836 (((e &&& (4294967295-(h &&& 2))) ||| (v%4294967296 &&& (h &&& 2)):Nat):Int) k:=fun k=>by rw[ez];exact congrFun (congrArg (bc (vz s) 836) (oB he eX j5 v)) k
    have fz':∀k,(t2.z k).1=bc (vz u) 836 (((e2 &&& (4294967295-(h &&& 2))) ||| (v%4294967296 &&& (h &&& 2)):Nat):Int) k:=fun k=>by rw[fz];exact congrFun (congrArg (bc (vz u) 836) (oB he2 fX j5 v)) k
    refine⟨pp,by rw[ez',fz'];exact L.sa,by rw[ez',fz'];exact L.st,by rw[ez',ez',fz',fz'];exact L.en,?_⟩
    have e1:(t1.z 771).1=(h:Int):=by rw[ez'];exact I.hd
    have e2':(t2.z 771).1=(h:Int):=by rw[fz'];exact J.hd
    rw[e1,e2',ez',fz',cr,cr,ay,ay]
    congr 1
    have q1:(e &&& (4294967295-(h &&& 2))) &&& h=(e2 &&& (4294967295-(h &&& 2))) &&& h:=by rw[Zq,Zq,j3,←Zq,←Zq,lw']
    rw[Zl,Zl,q1]
theorem dK{s u:BS}(N:NInv s)(M:NInv u)(L:Like s u):∀i∈E14,bv s i=bv u i:=by
 have c:(s.z 2816).1=(u.z 2816).1:=N.cy.trans M.cy.symm
 have d:(s.z 2818).1=(u.z 2818).1:=N.re.trans M.re.symm
 refine @ab _ _ _ _ L.st ?_
 refine ab L.en (ab L.wa ?_)
 iterate 6 refine ab (L.p _ (by decide)) ?_
 refine ab L.sa ?_
 exact ab (congrArg (fun x=>Za x 4294967295) c) (ab (congrArg (fun x=>Za x 4294967295) c) (ab (congrArg (fun x=>Za x 4294967295) d) (ab (congrArg (fun x=>Za (aw x 32) 4294967295) d) aa)))
theorem ED{s u:BS}(L:Like s u){m j y i:Nat}:lq s m j y i=lq u m j y i:=by
 unfold lq
 rw[L.p 774 (by decide),L.p 262 (by decide)]
theorem rk{s u:BS}(L:Like s u){I:Ins}:ed s I=ed u I:=by
 unfold ed
 cases I with
 |csr j rd by_ at_=>simp only;rw[L.md];exact ED L
 |nm k=>
  rcases k with _|_|_|_|_|_|k<;>first|rfl|(simp only;rw[L.md])
 |ad=>rfl
 |ai=>rfl
theorem FZ{s u:BS}(L:Like s u){j y:Nat}(hy:y<32):lT s j y=lT u j y:=by unfold lT;rw[L.r y hy]
theorem Fi{s u:BS}(N:NInv s)(M:NInv u)(L:Like s u){i:Nat}(hi:i∈E14):bg s i=bg u i:=by unfold bg;rw[dK N M L i hi]
theorem uF(x:Int)(h:∃n:Nat,x=n):∃n:Nat,Za x 4294967295=n∧n<2^32:=by
 obtain⟨n,rfl⟩:=h
 exact⟨n%4294967296,oS n,Zg _ (by decide)⟩
theorem PN{s:BS}(N:NInv s):∃n:Nat,fW s=n∧n<2^32:=by
 obtain⟨n,h,_⟩:=N.pc
 exact uF _ ⟨n+4,by rw[h];rfl⟩
theorem JU{s:BS}(N:NInv s){r1 r2:Nat}(h1:r1<32)(h2:r2<32):∃n:Nat,xS s r1 r2=n∧n<2^32:=by
 obtain⟨a,ha,_⟩:=N.rb r1 h1
 obtain⟨b,hb,_⟩:=N.rb r2 h2
 exact uF _ ⟨a+b,by rw[ha,hb];rfl⟩
theorem DU{s:BS}(N:NInv s){r1 im:Nat}(h1:r1<32):∃n:Nat,sb s r1 im=n∧n<2^32:=by
 obtain⟨a,ha,_⟩:=N.rb r1 h1
 exact uF _ ⟨a+im%4294967296,by rw[ha,oS];rfl⟩
theorem zN{f:Nat→Int}(h:∀k,k<32→∃n:Nat,f k=n∧n<2^32){i:Nat}{x:Int}(hx:∃n:Nat,x=n∧n<2^32):∀k,k<32→∃n:Nat,bc f i x k=n∧n<2^32:=fun k hk=>by
 by_cases q:k=i
 ·subst q;rw[cr];exact hx
 ·rw[cF q];exact h k hk
theorem qy{f g:Nat→Int}{b:Bool}(h:∀k,k<32→∃n:Nat,f k=n∧n<2^32)(h':∀k,k<32→∃n:Nat,g k=n∧n<2^32):∀k,k<32→∃n:Nat,cond b f g k=n∧n<2^32:=by
 cases b
 ·exact h'
 ·exact h
theorem uC{s:BS}{m j y i:Nat}(hi:i∈E29)(hm:m=0∨m=1)(h:lq s m j y i=true):i∈E14:=nV hi hm (Bool.and_eq_true_iff.mp h).1
theorem BM{s:BS}{m j y i:Nat}(hi:i∈E29)(hm:m=0∨m=1)(h:lq s m j y i=true)(ht:iv j y=true):i∈E10:=by
 obtain⟨h1,h2⟩:=Bool.and_eq_true_iff.mp h
 refine(ws hi hm h1 ?_).1
 rw[ht]at h2
 simpa using h2
theorem PF{s:BS}(N:NInv s){I:Ins}(hI:I.fit)(hd:ed s I=true):∀k,k<32→∃n:Nat,BU s I k=n∧n<2^32:=by
 obtain⟨hok,hf⟩:=hI
 cases I with
 |csr j rd by_ at_=>exact qy N.rb (zN N.rb (N.rd at_ (uC hf (lB N.md) hd)))
 |nm k=>exact N.rb
 |ad rd r1 r2=>exact qy N.rb (zN N.rb (JU N hok.2.1 hok.2.2))
 |ai rd r1 im=>exact qy N.rb (zN N.rb (DU N hok.2.1))
theorem EJ{s u:BS}(N:NInv s)(M:NInv u)(L:Like s u){I:Ins}(hI:I.fit)(hd:ed s I=true):∀k,k<32→BU s I k=BU u I k:=by
 obtain⟨hok,hf⟩:=hI
 have key:∀(x y:Int) (rd:Nat),x=y→∀k,k<32→cond (Ze rd 0) (vr s) (bc (vr s) rd x) k=cond (Ze rd 0) (vr u) (bc (vr u) rd y) k:=fun x y rd e k hk=>by
  subst e
  cases Ze rd 0
  ·show bc (vr s) rd x k=bc (vr u) rd x k
   by_cases q:k=rd
   ·subst q;rw[cr,cr]
   ·rw[cF q,cF q];exact L.r k hk
  ·exact L.r k hk
 cases I with
 |csr j rd by_ at_=>exact key _ _ rd (dK N M L at_ (uC hf (lB N.md) hd))
 |nm k=>exact L.r
 |ad rd r1 r2=>exact key _ _ rd (by unfold xS;rw[L.r r1 hok.2.1,L.r r2 hok.2.2])
 |ai rd r1 im=>exact key _ _ rd (by unfold sb;rw[L.r r1 hok.2.1])
theorem oW{x:Int}{a:Nat}(h:x=a):Zb (Zb (Za x 4294835965) (cond (bne (Za x 32) 0) 2 0)) 32=(((a &&& 4294835965 ||| (if a &&& 32=0 then 0 else 2)) ||| 32:Nat):Int):=by
 subst h
 have e:(cond (bne (Za (a:Int) 32) 0) (2:Int) 0)=(((if a &&& 32=0 then 0 else 2:Nat)):Int):=by
  rw[show (32:Int)=((32:Nat):Int) from rfl,ay]
  by_cases q:a &&& 32=0
  ·rw[q];rfl
  ·rw[if_neg q]
   have:bne ((a &&& 32:Nat):Int) 0=true:=by rw[bne_iff_ne];intro z;exact q (Int.ofNat.inj z)
   rw[this];rfl
 rw[e,show (4294835965:Int)=((4294835965:Nat):Int) from rfl,ay,b9,show (32:Int)=((32:Nat):Int) from rfl,b9]
theorem x02(a:Nat):(if a &&& 32=0 then 0 else 2)=0∨(if a &&& 32=0 then 0 else 2)=2:=by split<;>simp
theorem QM{a:Nat}(h:a &&& 131072=0):((a &&& 4294835965 ||| (if a &&& 32=0 then 0 else 2)) ||| 32) &&& 137352=a &&& 137352:=by
 have e:a &&& 137352=a &&& 6280:=by
  rw[show (137352:Nat)=6280 ||| 131072 from by decide,Nat.and_or_distrib_left,h,Nat.or_zero]
 rw[Zl,Zl,Zq,e,show 4294835965 &&& 137352=6280 from by decide,show 32 &&& 137352=0 from by decide,Nat.or_zero]
 rcases x02 a with q|q<;>rw[q]<;>simp
theorem LS(a:Nat):((a &&& 4294835965 ||| (if a &&& 32=0 then 0 else 2)) ||| 32) &&& 131072=0:=by
 rw[Zl,Zl,Zq,show 4294835965 &&& 131072=0 from by decide,show 32 &&& 131072=0 from by decide,Nat.or_zero,Nat.and_zero,Nat.zero_or]
 rcases x02 a with q|q<;>rw[q]<;>decide
theorem oy{a m k:Nat}(h:m &&& k=k):a &&& k=(a &&& m) &&& k:=by rw[Zq,h]
theorem QN{a b:Nat}(h:a &&& 786722=b &&& 786722):((a &&& 4294835965 ||| (if a &&& 32=0 then 0 else 2)) ||| 32) &&& 786722=((b &&& 4294835965 ||| (if b &&& 32=0 then 0 else 2)) ||| 32) &&& 786722:=by
 have e1:a &&& 32=b &&& 32:=by rw[oy (a:=a) (m:=786722) (k:=32) (by decide),h,←oy (by decide)]
 have e2:(a &&& 4294835965) &&& 786722=(b &&& 4294835965) &&& 786722:=by
  rw[Zq,Zq,Z1 4294835965,←Zq,←Zq,h]
 rw[Zl,Zl,Zl,Zl,e2,e1]
theorem LR{a:Nat}(h:a<2^32):((a &&& 4294835965 ||| (if a &&& 32=0 then 0 else 2)) ||| 32)<2^32:=by
 refine Nat.or_lt_two_pow (Nat.or_lt_two_pow (Zt Nat.and_le_left h) ?_) (by decide)
 rcases x02 a with q|q<;>rw[q]<;>decide
theorem zC{s u:BS}{a b:Nat}(ha:(s.z 768).1=a)(hb:(u.z 768).1=b)(h:a &&& 786722=b &&& 786722):iQ s=iQ u:=by
 have e1:a &&& 256=b &&& 256:=by rw[oy (a:=a) (m:=786722) (k:=256) (by decide),h,←oy (by decide)]
 unfold iQ
 rw[ha,hb,show (256:Int)=((256:Nat):Int) from rfl,ay,ay,e1]
theorem F0(s:BS):iQ s=0∨iQ s=1:=by
 unfold iQ
 cases bne (Za (s.z 768).1 256) 0
 ·exact .inl rfl
 ·exact .inr rfl
theorem Ak{s t:BS}{h:Nat}(hh:h∈H8)(I:HInv s h){J:Ins}(hJ:J.fit)(hd:ed s J=true)(B:Behind s t J):Zp s t h:=by
 obtain⟨hok,hf⟩:=hJ
 cases J with
 |csr j rd by_ at_=>
  cases ht:iv j by_ with
  |false=>exact oC I (fun k=>by rw[B.z];show i9 s j by_ at_ k=_;unfold i9;rw[ht];rfl) (fun k=>by rw[B.p];show i8 s j by_ at_ k=_;unfold i8;rw[ht];rfl)
  |true=>exact Mc hh I (BM hf (lB I.n.md) hd ht) (dH j (bg s at_) (lT s j by_)) (fun k=>by rw[B.z];show i9 s j by_ at_ k=_;unfold i9;rw[ht];rfl) (fun k=>by rw[B.p];show i8 s j by_ at_ k=_;unfold i8;rw[ht];rfl)
 |nm k=>
  by_cases q:k=5
  ·subst q
   obtain⟨a,ha,ha'⟩:=I.n.zb 768 (by decide)
   refine qd I (i:=768) (.inl rfl) (LR ha') (fun k=>by rw[B.z];exact congrFun (congrArg (bc (vz s) 768) (oW ha)) k) (fun k=>by rw[B.p];rfl) (fun _=>⟨?_,LS a⟩) (fun q=>by cases q) (fun q=>by cases q)
   rw[ha];exact QM (B0 ha I.pv)
  ·have hk:k<6:=hok
   have e:Hf s (.nm k)=vz s:=by rcases k with _|_|_|_|_|_|k<;>first|rfl|exact absurd rfl q|omega
   exact oC I (fun k=>by rw[B.z,e];rfl) (fun k=>by rw[B.p];rfl)
 |ad rd r1 r2=>exact oC I (fun k=>by rw[B.z];rfl) (fun k=>by rw[B.p];rfl)
 |ai rd r1 im=>exact oC I (fun k=>by rw[B.z];rfl) (fun k=>by rw[B.p];rfl)
theorem Aj{s u t1 t2:BS}{h:Nat}(hh:h∈H8)(I:HInv s h)(I2:HInv u h)(L:Like s u){J:Ins}(hJ:J.fit)(hd:ed s J=true)(B:Behind s t1 J)(B2:Behind u t2 J):Lz t1 t2:=by
 obtain⟨hok,hf⟩:=hJ
 cases J with
 |csr j rd by_ at_=>
  have h14:=uC hf (lB I.n.md) hd
  have e:dH j (bg u at_) (lT u j by_)=dH j (bg s at_) (lT s j by_):=by rw[Fi I.n I2.n L h14,FZ L hok.2.2.1]
  cases ht:iv j by_ with
  |false=>exact nS L (fun k=>by rw[B.z];show i9 s j by_ at_ k=_;unfold i9;rw[ht];rfl) (fun k=>by rw[B.p];show i8 s j by_ at_ k=_;unfold i8;rw[ht];rfl) (fun k=>by rw[B2.z];show i9 u j by_ at_ k=_;unfold i9;rw[ht];rfl) (fun k=>by rw[B2.p];show i8 u j by_ at_ k=_;unfold i8;rw[ht];rfl)
  |true=>exact Md hh I I2 L (BM hf (lB I.n.md) hd ht) (dH j (bg s at_) (lT s j by_)) (fun k=>by rw[B.z];show i9 s j by_ at_ k=_;unfold i9;rw[ht];rfl) (fun k=>by rw[B.p];show i8 s j by_ at_ k=_;unfold i8;rw[ht];rfl) (fun k=>by rw[B2.z];show i9 u j by_ at_ k=_;unfold i9;rw[ht,e];rfl) (fun k=>by rw[B2.p];show i8 u j by_ at_ k=_;unfold i8;rw[ht,e];rfl)
 |nm k=>
  by_cases q:k=5
  ·subst q
   obtain⟨a,ha,ha'⟩:=I.n.zb 768 (by decide)
   obtain⟨b,hb,hb'⟩:=I2.n.zb 768 (by decide)
   have ez:∀k,(t1.z k).1=bc (vz s) 768 _ k:=fun k=>by rw[B.z];exact congrFun (congrArg (bc (vz s) 768) (oW ha)) k
   have fz:∀k,(t2.z k).1=bc (vz u) 768 _ k:=fun k=>by rw[B2.z];exact congrFun (congrArg (bc (vz u) 768) (oW hb)) k
   refine⟨fun k hk=>by rw[B.p,B2.p];exact L.p k hk,by rw[ez,fz];exact L.sa,?_,by rw[ez,ez,fz,fz];exact L.en,by rw[ez,ez,fz,fz];exact L.wa⟩
   rw[ez,fz,cr,cr,show (786722:Int)=((786722:Nat):Int) from rfl,ay,ay,QN (uX ha hb L.st)]
  ·have hk:k<6:=hok
   have e:∀s:BS,Hf s (.nm k)=vz s:=fun s=>by rcases k with _|_|_|_|_|_|k<;>first|rfl|exact absurd rfl q|omega
   exact nS L (fun k=>by rw[B.z,e];rfl) (fun k=>by rw[B.p];rfl) (fun k=>by rw[B2.z,e];rfl) (fun k=>by rw[B2.p];rfl)
 |ad rd r1 r2=>exact nS L (fun k=>by rw[B.z];rfl) (fun k=>by rw[B.p];rfl) (fun k=>by rw[B2.z];rfl) (fun k=>by rw[B2.p];rfl)
 |ai rd r1 im=>exact nS L (fun k=>by rw[B.z];rfl) (fun k=>by rw[B.p];rfl) (fun k=>by rw[B2.z];rfl) (fun k=>by rw[B2.p];rfl)
theorem gZ{s:BS}{J:Ins}(h:J≠.nm 5):mU s J=fW s∧mV s J=s.md.1:=by
 cases J with
 |nm k=>rcases k with _|_|_|_|_|_|k<;>first|exact⟨rfl,rfl⟩|exact absurd rfl h
 |_=>exact⟨rfl,rfl⟩
theorem o7{s t:BS}{h:Nat}(hh:h∈H8)(I:HInv s h){J:Ins}(hJ:J.fit)(hd:ed s J=true)(B:Behind s t J):HInv t h∧Keep s t h:=by
 have Z:=Ak hh I hJ hd B
 have hR:=PF I.n hJ hd
 refine⟨⟨⟨fun k hk=>by rw[B.r];exact hR k hk,Z.pb,Z.zb,Z.cy,Z.re,?_,?_⟩,Z.hd,Z.pv⟩,Z.k⟩
 ·rw[B.md]
  by_cases q:J=.nm 5
  ·subst q;exact F0 s
  ·rw[(gZ q).2];exact I.n.md
 ·rw[B.pc]
  by_cases q:J=.nm 5
  ·subst q;exact I.n.pb 321 (by decide)
  ·rw[(gZ q).1];exact PN I.n
theorem vm{s u t1 t2:BS}{h:Nat}(hh:h∈H8)(I:HInv s h)(I2:HInv u h)(L:Like s u){J:Ins}(hJ:J.fit)(hd:ed s J=true)(B:Behind s t1 J)(B2:Behind u t2 J):Like t1 t2:=by
 have Z:=Aj hh I I2 L hJ hd B B2
 have hR:=EJ I.n I2.n L hJ hd
 refine⟨fun k hk=>by rw[B.r,B2.r];exact hR k hk,Z.p,Z.sa,Z.st,Z.en,Z.wa,?_,?_⟩
 ·rw[B.pc,B2.pc]
  by_cases q:J=.nm 5
  ·subst q;exact L.p 321 (by decide)
  ·rw[(gZ q).1,(gZ q).1];show Za (s.pc.1+4) _=Za (u.pc.1+4) _;rw[L.pc]
 ·rw[B.md,B2.md]
  by_cases q:J=.nm 5
  ·subst q
   obtain⟨a,ha,_⟩:=I.n.zb 768 (by decide)
   obtain⟨b,hb,_⟩:=I2.n.zb 768 (by decide)
   exact zC ha hb (uX ha hb L.st)
  ·rw[(gZ q).2,(gZ q).2];exact L.md
def Bt:=LZ [11,11,11,11,10,11,11,13,13,9,1,0,0,0,1,0,0,0,1,1,0,2,3,0,0,0,3,0,0,0,3,0,0,0]
def eF:=LZ [1004012,11,9011010,11,13,13,9,2001002,6003004,13]
def eG:=LZ ([12,12,12,12]++Bt++[0,3,4,13,0])
def Bu:=LZ [1009001,0,7,7,7,7,1001,1,1,1,0,0,1,1,0,1,0,6,6,6,6,1002,3008009,11,1005001,7003,3004,0,0,1,1,0,0,1,1,1028000,13,0,13,1007000,1014014,0,14,14,5013012,14,14,5013012,14,14,5013012,14,14,5013012,14,14,5013012,14,14,5013012]
def Bv:=LZ [8,0,8,1007000,1014009,0,9,9,5008007,9,9,5008007,9,9,5008007,9,9,5008007,9,9,5008007,9,9,5008007,0,1001]
section
variable(w:Z8)(b c:Bool)(A:AS)(s:BS)(gh:gHs)(n t L:Nat)(nn tt:Nat→Nat)(vv:Nat→Nat→Nat)(nv:Int)(nt tm tc te:Nat)(nm lc:Str)(cs cell:Int)
def mI(Y0 Y1 Y2 Y3 Y4 Y5 Y6:Nat)(Y7:Z6)(Y8:Nat)(Y9:Z6)(Y10:Nat)(Y11:Z6)(Y12:Nat)(Y13:Z6)(Y14:Nat)(Y15:Z6)(Y16:Nat)(Y17:Z6)(Y18 Y19:Nat):Call:=cS (cR 1072 [.ref (Zd n Y0)]) Y1 Y2 [(Y3,iO 121 (Zd n Y4)),(Y5,dO [ae w b c bW (Zd t Y6) Y7,ae w b c dw (Zd t Y8) Y9,ae w b c dY (Zd t Y10) Y11,ae w b c eW (Zd t Y12) Y13,ae w b c cP (Zd t Y14) Y15,ae w b c dp (Zd t Y16) Y17] 6)] (rV (.int cell te)) Y18 Y19
noncomputable def bq(Y0:Int)(Y1:Nat):Z6:=.int Y0 (Zd t Y1)
def A8(Y0:Bool):Call:=cS (cB "str.__eq__" [.str lc (Zd t 5634),.str xD (Zd t 5635)]) 11 65 [] (rV (.bool Y0)) 11 65
noncomputable def na(x0:Nat):List (Nat×Nat):=[(x0,Zd (nn 0) 1971),(0,Zd n 1971)]
noncomputable def nb(x0:Nat):List (Nat×Nat):=[(x0,Zd (tt 0) 5571),(0,Zd t 5571)]
def B3:Call:=cS (cB "list.__getitem__" [.ref (Zd n 1977),.int (af (an nv 12) 6) (Zd t 5619)]) 7 49 [(6,lO [.str mc (Zd t 5612),.str me (Zd t 5613),.str mf (Zd t 5614),.str mg (Zd t 5615),.str mh (Zd t 5616),.str mi (Zd t 5617)] 0)] (rV (.str nm tm)) 7 49
def B4:Call:=cS (cB "list.__getitem__" [.ref (Zd n 1976),.int (af ((an (an nv 12) 11)+nv) 32) (Zd t 5629)]) 7 59 [(5,lO [bq t 256 5578,bq t 260 5579,bq t 324 5580,bq t 261 5581,bq t 262 5582,bq t 320 5583,bq t 321 5584,bq t 322 5585,bq t 323 5586,bq t 384 5587,bq t 3072 5588,bq t 3073 5589,bq t 3074 5590,bq t 768 5591,bq t 770 5592,bq t 771 5593,bq t 772 5594,bq t 773 5595,bq t 774 5596,bq t 832 5597,bq t 833 5598,bq t 834 5599,bq t 835 5600,bq t 836 5601,bq t 769 5602,bq t 2816 5603,bq t 3860 5604,bq t 3202 5605,bq t 1984 5606,bq t 256 5607,bq t 260 5608,bq t 324 5609] 0)] (rV (.int cs tc)) 7 59
def B5:Call:=cS (cB "str.__getitem__" [.str nm tm,.int (Neg.neg 1) (Zd t 5633)]) 11 63 [] (rV (.str lc (Zd t 5634))) 11 64
def nc:Bool:=(decide (Xm (af nv 12) 9))
include w b c A s gh n t L nn tt vv nv nt tm tc te nm lc cs cell
theorem N7:bk w b c A gh L 40 (na n nn 15) (nb t tt 91) [B3 n t nv tm nm,B4 n t nv tc cs,B5 t tm nm lc,A8 t lc false,mI w b c n t te cell 1983 14 90 12 1982 11 5650 (.str nm tm) 5652 (.int (af (an (an nv 12) 7) 32) (Zd t 5639)) 5654 (.int (af (an (an nv 12) 6) 32) (Zd t 5624)) 5656 (bq t 0 5640) 5658 (bq t 0 5641) 5660 (.int cs tc) 15 91] [(nc nv,true)] (cR 1958 [.int nv nt]) 0 [] (rV (.int cell te)) 15 [] 91:=ap (hm ([0,0,1,1,0,1,0,1,0,3002003,5]++Bu++[0,1005])) rfl rfl fun bl p=>by kernel_rfl
theorem N4:bk w b c A gh L 40 (na n nn 15) (nb t tt 91) [B3 n t nv tm nm,B4 n t nv tc cs,B5 t tm nm lc,A8 t lc true,mI w b c n t te cell 1983 14 90 12 1982 11 5650 (.str nm tm) 5652 (.int (af (an (an nv 12) 7) 32) (Zd t 5639)) 5654 (bq t 0 5640) 5656 (bq t 0 5641) 5658 (.int (af (an (an nv 12) 6) 32) (Zd t 5624)) 5660 (.int cs tc) 15 91] [(nc nv,true)] (cR 1958 [.int nv nt]) 0 [] (rV (.int cell te)) 15 [] 91:=ap (hm ([0,0,1,1,0,1,0,1,0,3002003,5]++Bu++[0,1005])) rfl rfl fun bl p=>by kernel_rfl
theorem N6:bk w b c A gh L 40 (na n nn 11) (nb t tt 70) [cS (cB "list.__getitem__" [.ref (Zd n 1977),.int (af (an nv 12) 6) (Zd t 5620)]) 7 50 [(6,lO [.str kU (Zd t 5613),.str mj (Zd t 5614),.str iw (Zd t 5615),.str f9 (Zd t 5616),.str mb (Zd t 5617),.str jJ (Zd t 5618)] 0)] (rV (.str nm tm)) 7 50,mI w b c n t te cell 1979 10 69 8 1978 7 5629 (.str nm tm) 5631 (.int 0 466) 5633 (.int 0 467) 5635 (.int 0 468) 5637 (.int 0 469) 5639 (.int 0 470) 11 70] [(Xl (af nv 12) 9,true),(nc nv,false)] (cR 1958 [.int nv nt]) 0 [] (rV (.int cell te)) 11 [] 70:=ap (hm [0,0,1,1,0,1,0,1,0,3002003,5,1007001,2,1,1,0,0,1,0,7,7,7,7,1001,1028000,9,0,9,1007000,1014010,0,10,10,5009008,10,10,5009008,10,10,5009008,10,10,5009008,10,10,5009008,10,10,5009008,0,1002]) rfl rfl fun bl p=>by kernel_rfl
theorem N2:bk w b c A gh L 40 (na n nn 10) (nb t tt 74) [mI w b c n t te cell 1978 9 73 7 1977 6 5633 (.str gx (Zd t 5614)) 5635 (.int (af (an nv 12) 32) (Zd t 5616)) 5637 (.int (af (an (an nv 12) 32) 32) (Zd t 5620)) 5639 (.int (af (an (an nv 12) 7) 32) (Zd t 5624)) 5641 (.int 0 469) 5643 (.int 0 470) 10 74] [(Xl (af nv 12) 10,true),(Xl (af nv 12) 9,false),(nc nv,false)] (cR 1958 [.int nv nt]) 0 [] (rV (.int cell te)) 10 [] 74:=ap (hm ([0,0,1,1,0,1,0,1,0,3002003,5,1007001,2,1,2,1,1,0,0,1,0,1,0,0,1,1030000]++Bv)) rfl rfl fun bl p=>by kernel_rfl
theorem N3:bk w b c A gh L 40 (na n nn 10) (nb t tt 73) [mI w b c n t te cell 1978 9 72 7 1977 6 5632 (.str l9 (Zd t 5614)) 5634 (.int (af (an nv 12) 32) (Zd t 5616)) 5636 (.int (af (an (an nv 12) 32) 32) (Zd t 5620)) 5638 (bq t 0 5621) 5640 (.int (af (an nv 12) 2048) (Zd t 5623)) 5642 (.int 0 470) 10 73] [(Xl (af nv 12) 10,false),(Xl (af nv 12) 9,false),(nc nv,false)] (cR 1958 [.int nv nt]) 0 [] (rV (.int cell te)) 10 [] 73:=ap (hm ([0,0,1,1,0,1,0,1,0,3002003,5,1007001,2,1,2,1,2,0,0,1,0,1,0,0,1,1029000]++Bv)) rfl rfl fun bl p=>by kernel_rfl
end
section
variable(w:Z8)(b c:Bool)(A:AS)(s:BS)(gh:gHs)(n t L:Nat)(nn tt:Nat→Nat)(vv:Nat→Nat→Nat)(hd:Int)(th:Nat)(y:Nat→Int)(ty:Nat→Nat)(ml:List Z6)
def eg(Y0:Int)(Y1:Nat):Xo:=cR 1428 [rA A 2,.int Y0 (Zd t Y1)]
def A9:Obj:=lO [.int (y 770) (ty 770),.int (y 771) (ty 771),.int (y 773) (ty 773),.int (y 774) (ty 774),.int (y 832) (ty 832),.int (y 833) (ty 833),.int (y 834) (ty 834),.int (y 835) (ty 835),.int (y 3860) (ty 3860),.int (y 2816) (ty 2816),.int (y 2818) (ty 2818),.int (y 2944) (ty 2944),.int (y 2946) (ty 2946)] 13
def Ba:Obj:=lO [.int (Za (y 768) 137352) (Zd (tt 13) 5572),.int (Za (y 772) (Zc 2730 hd)) (Zd (tt 14) 5571),.int (Za (y 836) (Zc 2730 hd)) (Zd (tt 15) 5571)] 0
noncomputable def cZ(Y0 Y1:Nat):Nat×Nat:=(Y0,Zd (nn Y1) 1971)
noncomputable def c8(Y0 Y1:Nat):Nat×Nat:=(Y0,Zd (tt Y1) 5571)
include w b c A s gh n t L nn tt vv hd th y ty ml
theorem BP:jM w b c A gh L 40 [cZ nn 34 16,(33,Zd (vv 16 0) 1971),cZ nn 31 15,cZ nn 30 14,cZ nn 29 13,cZ nn 26 12,cZ nn 25 11,cZ nn 24 10,cZ nn 23 9,cZ nn 22 8,cZ nn 21 7,cZ nn 20 6,cZ nn 19 5,cZ nn 18 4,cZ nn 17 3,cZ nn 16 2,cZ nn 15 1,cZ nn 14 0,(7,Zd n 1971)] [c8 tt 71 16,c8 tt 69 15,c8 tt 65 14,c8 tt 60 13,c8 tt 53 12,c8 tt 50 11,c8 tt 47 10,c8 tt 44 9,c8 tt 41 8,c8 tt 38 7,c8 tt 35 6,c8 tt 32 5,c8 tt 29 4,c8 tt 26 3,c8 tt 23 2,c8 tt 20 1,c8 tt 17 0,(0,Zd t 5571)] [cS (eg A t 770 5572) 13 16 (aj w b c A s) (rV (.int (y 770) (ty 770))) 14 17,cS (eg A t 771 5573) 14 19 (aj w b c A s) (rV (.int (y 771) (ty 771))) 15 20,cS (eg A t 773 5574) 15 22 (aj w b c A s) (rV (.int (y 773) (ty 773))) 16 23,cS (eg A t 774 5575) 16 25 (aj w b c A s) (rV (.int (y 774) (ty 774))) 17 26,cS (eg A t 832 5576) 17 28 (aj w b c A s) (rV (.int (y 832) (ty 832))) 18 29,cS (eg A t 833 5577) 18 31 (aj w b c A s) (rV (.int (y 833) (ty 833))) 19 32,cS (eg A t 834 5578) 19 34 (aj w b c A s) (rV (.int (y 834) (ty 834))) 20 35,cS (eg A t 835 5579) 20 37 (aj w b c A s) (rV (.int (y 835) (ty 835))) 21 38,cS (eg A t 3860 5580) 21 40 (aj w b c A s) (rV (.int (y 3860) (ty 3860))) 22 41,cS (eg A t 2816 5581) 22 43 (aj w b c A s) (rV (.int (y 2816) (ty 2816))) 23 44,cS (eg A t 2818 5582) 23 46 (aj w b c A s) (rV (.int (y 2818) (ty 2818))) 24 47,cS (eg A t 2944 5583) 24 49 (aj w b c A s) (rV (.int (y 2944) (ty 2944))) 25 50,cS (eg A t 2946 5584) 25 52 (aj w b c A s) (rV (.int (y 2946) (ty 2946))) 26 53,cS (cR 1428 [rA A 2,.int 768 (Zd (tt 12) 5576)]) 28 59 (aj w b c A s) (rV (.int (y 768) (ty 768))) 29 60,cS (cR 1428 [rA A 2,.int 772 (Zd (tt 13) 5574)]) 29 64 (aj w b c A s) (rV (.int (y 772) (ty 772))) 30 65,cS (cR 1428 [rA A 2,.int 836 (Zd (tt 14) 5573)]) 30 68 (aj w b c A s) (rV (.int (y 836) (ty 836))) 31 69,⟨cB "list.__add__" [.ref (Zd n 1975),.ref (Zd (nn 15) 1971)],32,70,[(11,A9 y ty),(31,Ba tt hd y)],rV (.ref (Zd (vv 16 0) 1971)),34,71,[(11,A9 y ty),(31,Ba tt hd y),(33,am ml 0)]⟩] (cR 1951 [.ref (Zd (A.a 0) 1971),.int hd th]) 7 (aj w b c A s) (rV (.ref (Zd (vv 16 0) 1971))) 34 (aj w b c A s++[(33,am ml 0)]) 71:=by
 cases c
 ·exact hD (hm ([0,0,9,9,8,8,0,10,10,10,11,11,11,11,11]++Bt++[0,3,4,13,0,1001]++eG++[1002]++eG++[1003]++eG++[1004]++eG++[1005]++eG++[1006]++eG++[1007]++eG++[1008]++eG++[1009]++eG++[1010]++eG++[1011]++eG++[1012]++eG++[1013,12,12,12,12,11,11,11,11,10,11,11,28,8,8,13,13,13,8,8,8,8,9,1,0,0,0,1,0,0,0,1,1,0,2,3,0,0,0,3,0,0,0,3,0,0,0,0,3,4,0,1014,9,1,0,0,0,1,0,0,0,1,1,0,2,3,0,0,0,3,0,0,0,3,0,0,0,0,3,4,0,1015,8,9,1,0,0,0,1,0,0,0,1,1,0,2,3,0,0,0,3,0,0,0,3,0,0,0,0,3,4,0,1016,8,12,32,12,12,1017])) rfl rfl fun bl p=>by kernel_rfl
 ·exact hD (hm ([0,0,9,9,8,8,0,10,10,10,11,11,9011010,11,13,13,9,2001002,6003004,13,0,1001]++eF++[0,1002]++eF++[0,1003]++eF++[0,1004]++eF++[0,1005]++eF++[0,1006]++eF++[0,1007]++eF++[0,1008]++eF++[0,1009]++eF++[0,1010]++eF++[0,1011]++eF++[0,1012]++eF++[0,1013,1004012,11,9011010,11,28,8,8,13,13,13,8,8,8,8,9,2001002,6003004,0,1014,9,2001002,6003004,0,1015,8,9,2001002,6003004,0,1016,8,12,32,12,12,1017])) rfl rfl fun bl p=>by kernel_rfl
end
noncomputable def E32:List Nat:=[256,260,324,261,262,320,321,322,323,384,3072,3073,3074,768,770,771,772,773,774,832,833,834,835,836,769,2816,3860,3202,1984,256,260,324]
noncomputable def bV(v:Nat):Ins:=
 if v%12<9 then .csr (v/12%6) (v/12/7%32) (v/12/6%32) (E32.getD ((v/12/11+v)%32) 0)
 else if v%12=9 then .nm (v/12%6)
 else if v%12=10 then .ad (v/12%32) (v/12/32%32) (v/12/7%32)
 else .ai (v/12%32) (v/12/32%32) (v/12%2048)
theorem Ks:∀k,k<32→E32.getD k 0∈E29:=by decide
theorem OK:∀x∈E29,x<4096:=by decide
theorem fB(v:Nat):(bV v).fit:=by
 unfold bV
 have h32:∀x:Nat,x%32<32:=fun x=>Zg _ (by decide)
 split
 ·have hm:=Ks ((v/12/11+v)%32) (h32 _)
  exact⟨⟨Zg _ (by decide),h32 _,h32 _,OK _ hm⟩,hm⟩
 split
 ·exact⟨Zg _ (by decide),trivial⟩
 split
 ·exact⟨⟨h32 _,h32 _,h32 _⟩,trivial⟩
 ·exact⟨⟨h32 _,h32 _,Zg _ (by decide)⟩,trivial⟩
noncomputable def lV(l:List Z6)(k:Nat):Nat:=match l[k]? with
 |some (.int _ t)=>t
 |some (.str _ t)=>t
 |_=>0
def Pw(t:Nat):List Z6:=[.str mc (Zd t 5612),.str me (Zd t 5613),.str mf (Zd t 5614),.str mg (Zd t 5615),.str mh (Zd t 5616),.str mi (Zd t 5617)]
def Py(t:Nat):List Z6:=[.str (jl 0) (Zd t 5613),.str (jl 1) (Zd t 5614),.str (jl 2) (Zd t 5615),.str (jl 3) (Zd t 5616),.str (jl 4) (Zd t 5617),.str (jl 5) (Zd t 5618)]
noncomputable def v9(t:Nat):List Z6:=[.int 256 (Zd t 5578),.int 260 (Zd t 5579),.int 324 (Zd t 5580),.int 261 (Zd t 5581),.int 262 (Zd t 5582),.int 320 (Zd t 5583),.int 321 (Zd t 5584),.int 322 (Zd t 5585),.int 323 (Zd t 5586),.int 384 (Zd t 5587),.int 3072 (Zd t 5588),.int 3073 (Zd t 5589),.int 3074 (Zd t 5590),.int 768 (Zd t 5591),.int 770 (Zd t 5592),.int 771 (Zd t 5593),.int 772 (Zd t 5594),.int 773 (Zd t 5595),.int 774 (Zd t 5596),.int 832 (Zd t 5597),.int 833 (Zd t 5598),.int 834 (Zd t 5599),.int 835 (Zd t 5600),.int 836 (Zd t 5601),.int 769 (Zd t 5602),.int 2816 (Zd t 5603),.int 3860 (Zd t 5604),.int 3202 (Zd t 5605),.int 1984 (Zd t 5606),.int 256 (Zd t 5607),.int 260 (Zd t 5608),.int 324 (Zd t 5609)]
theorem T0(t:Nat):∀j,j<6→(Pw t)[j]?=some (.str (aD j) (lV (Pw t) j)):=jB rfl rfl rfl rfl rfl rfl
theorem Px(t:Nat):∀j,j<6→∃tn,lV (Pw t) j=Zd tn 5571:=
 jB ⟨_,et t 41 5612 rfl⟩ ⟨_,et t 42 5613 rfl⟩ ⟨_,et t 43 5614 rfl⟩ ⟨_,et t 44 5615 rfl⟩ ⟨_,et t 45 5616 rfl⟩ ⟨_,et t 46 5617 rfl⟩
theorem T6(t:Nat):∀j,j<6→(Py t)[j]?=some (.str (jl j) (lV (Py t) j)):=jB rfl rfl rfl rfl rfl rfl
theorem Pz(t:Nat):∀j,j<6→∃tn,lV (Py t) j=Zd tn 5571:=
 jB ⟨_,et t 42 5613 rfl⟩ ⟨_,et t 43 5614 rfl⟩ ⟨_,et t 44 5615 rfl⟩ ⟨_,et t 45 5616 rfl⟩ ⟨_,et t 46 5617 rfl⟩ ⟨_,et t 47 5618 rfl⟩
theorem TC(t k:Nat)(hk:k<32):(v9 t)[k]?=some (.int (Zo (E32.getD k 0)) (lV (v9 t) k)):=by
 iterate 32 (rcases k with _|k;· rfl)
 omega
theorem mS(a b:Nat):af (Zo a) (Zo b)=Zo (a%b):=eh a b
theorem oM(a b:Nat):an (Zo a) (Zo b)=Zo (a/b):=jX a b
theorem aZ{a:Z9}{x y:Int}{u:Nat}(h:x=y):Code.builtin "list.__getitem__" ⟨[.ref a,.int x u],[]⟩=Code.builtin "list.__getitem__" ⟨[.ref a,.int y u],[]⟩:=by rw[h]
theorem AV(v m:Nat):af (an (Zo v) 12) (Zo m)=Zo (v/12%m):=(congrArg (fun x=>af x (Zo m)) (oM v 12)).trans (mS _ m)
theorem tV(v k m:Nat):af (an (an (Zo v) 12) (Zo k)) (Zo m)=Zo (v/12/k%m):=
 (congrArg (fun x=>af (an x (Zo k)) (Zo m)) (oM v 12)).trans ((congrArg (fun x=>af x (Zo m)) (oM (v/12) k)).trans (mS _ m))
theorem dat(v:Nat):af ((an (an (Zo v) 12) 11)+(Zo v)) 32=Zo ((v/12/11+v)%32):=
 (congrArg (fun x=>af (an x 11+Zo v) 32) (oM v 12)).trans ((congrArg (fun x=>af (x+Zo v) 32) (oM (v/12) 11)).trans (mS (v/12/11+v) 32))
theorem UZ{v:Nat}(h:v%12<9):(decide (Xm (af (Zo v) 12) 9))=true:=by
 have e:af (Zo v) 12=Zo (v%12):=mS v 12
 rw[e];exact wn h
theorem ZR{v:Nat}(h:¬v%12<9):(decide (Xm (af (Zo v) 12) 9))=false:=by
 have e:af (Zo v) 12=Zo (v%12):=mS v 12
 rw[e];exact decide_eq_false (by simp only[Int.ofNat_eq_natCast];omega)
theorem ZH{x y:Nat}:(Xl (Zo x) (Zo y))=decide (x=y):=by
 by_cases h:x=y
 ·subst h;simp
 ·rw[decide_eq_false h]
  cases e:(Xl (Zo x) (Zo y)) with
  |false=>rfl
  |true=>exact absurd (Int.ofNat.inj (eq_of_beq e)) h
theorem eqM{v k:Nat}:(Xl (af (Zo v) 12) (Zo k))=decide (v%12=k):=by
 have e:af (Zo v) 12=Zo (v%12):=mS v 12
 rw[e];exact ZH
theorem BI:∀j,j<6→Xl (aW j).cps.toList [105]=Zn 3 j:=by decide
inductive CellX (w:Z8) (b c:Bool) (v nt:Nat) (gh:gHs) (n t:Nat):Prop where
 |mk (tc n' t':Nat) (h0_:Tri (MM w b c) (cn (PP w b c)) 1971 80 (.call (.ref 1958) ⟨[.int (Zo v) nt],[]⟩) gh [] (Zd n 1971) (Zd t 5571) (.ok (.ret (.int (Zo (bV v).w) (Zd tc 5571)))) gh [] (Zd n' 1971) (Zd t' 5571)):CellX w b c v nt gh n t
theorem vU(w:Z8)(b c:Bool)(v nt:Nat)(gh:gHs)(n t:Nat):CellX w b c v nt gh n t:=by
 have hf:=fB v
 by_cases h9:v%12<9
 ·have eI:bV v=.csr (v/12%6) (v/12/7%32) (v/12/6%32) (E32.getD ((v/12/11+v)%32) 0):=if_pos h9
  rw[eI]at hf
  have hj:v/12%6<6:=Zg _ (by decide)
  obtain⟨tn,htn⟩:=Px t _ hj
  have hn:=T0 t _ hj
  rw[htn]at hn
  have he:=TC t ((v/12/11+v)%32) (Zg _ (by decide))
  have e1:af (an (Zo v) 12) 6=Zo (v/12%6):=AV v 6
  have e2:=dat v
  have e3:af (an (an (Zo v) 12) 7) 32=Zo (v/12/7%32):=tV v 7 32
  have e4:af (an (an (Zo v) 12) 6) 32=Zo (v/12/6%32):=tV v 6 32
  by_cases h3:v/12%6<3
  ·have q:=(BI _ hj).trans (Bool.eq_false_iff.mpr fun e=>absurd (Nat.le_of_ble_eq_true e) (by omega))
   have eIS:∀K U:Nat→Nat,(Ins.csr (v/12%6) (v/12/7%32) (v/12/6%32) (E32.getD ((v/12/11+v)%32) 0)).is K U=⟨K,U,aD (v/12%6),af (an (an (Zo v) 12) 7) 32,af (an (an (Zo v) 12) 6) 32,0,0,Zo (E32.getD ((v/12/11+v)%32) 0)⟩:=fun K U=>by
    rw[e3,e4]
    show iA K U (v/12%6) (v/12/7%32) (da (v/12%6) (v/12/6%32)) (dr (v/12%6) (v/12/6%32)) (E32.getD ((v/12/11+v)%32) 0)=_
    rw[show da (v/12%6) (v/12/6%32)=v/12/6%32 from if_pos h3,show dr (v/12%6) (v/12/6%32)=0 from if_pos h3]
   obtain⟨tc,n0,t0,H0⟩:=j8 w b c hf.1 (cJ (Zd t 5650) (Zd t 5652) (Zd t 5654) (Zd t 5656) (Zd t 5658) (Zd t 5660)) (cJ 0 (Zd t 5639) (Zd t 5624) (Zd t 5640) (Zd t 5641) (lV (v9 t) ((v/12/11+v)%32))) tn (n+12) (n+11) gh (n+14) (t+90)
   rw[eIS]at H0
   have key:=N7 w b c (a1 0) ej gh n t 40 (az [n0]) (az [t0]) (fun _ _=>0) (Zo v) nt (Zd tn 5571) (lV (v9 t) ((v/12/11+v)%32)) (Zd tc 5571) (aD (v/12%6)) (aW (v/12%6)) (Zo (E32.getD ((v/12/11+v)%32) 0)) (Zo (aT (v/12%6) (v/12/7%32) (v/12/6%32) (E32.getD ((v/12/11+v)%32) 0)))
    (fk (TriC.code (aZ e1) (ar ac hn (by omega)))<|fk (TriC.code (aZ e2) (ar ac he (by omega)))<|fk (ba ac hj)<|fk (ak ac q)<|fk (kd H0)<|aa) (fc (UZ h9) aa)
   exact⟨tc,n0,t0,by rw[eI];exact kE key⟩
  ·have q:=(BI _ hj).trans (Nat.ble_eq_true_of_le (by omega))
   have eIS:∀K U:Nat→Nat,(Ins.csr (v/12%6) (v/12/7%32) (v/12/6%32) (E32.getD ((v/12/11+v)%32) 0)).is K U=⟨K,U,aD (v/12%6),af (an (an (Zo v) 12) 7) 32,0,0,af (an (an (Zo v) 12) 6) 32,Zo (E32.getD ((v/12/11+v)%32) 0)⟩:=fun K U=>by
    rw[e3,e4]
    show iA K U (v/12%6) (v/12/7%32) (da (v/12%6) (v/12/6%32)) (dr (v/12%6) (v/12/6%32)) (E32.getD ((v/12/11+v)%32) 0)=_
    rw[show da (v/12%6) (v/12/6%32)=0 from if_neg h3,show dr (v/12%6) (v/12/6%32)=Zo (v/12/6%32) from if_neg h3];rfl
   obtain⟨tc,n0,t0,H0⟩:=j8 w b c hf.1 (cJ (Zd t 5650) (Zd t 5652) (Zd t 5654) (Zd t 5656) (Zd t 5658) (Zd t 5660)) (cJ 0 (Zd t 5639) (Zd t 5640) (Zd t 5641) (Zd t 5624) (lV (v9 t) ((v/12/11+v)%32))) tn (n+12) (n+11) gh (n+14) (t+90)
   rw[eIS]at H0
   have key:=N4 w b c (a1 0) ej gh n t 40 (az [n0]) (az [t0]) (fun _ _=>0) (Zo v) nt (Zd tn 5571) (lV (v9 t) ((v/12/11+v)%32)) (Zd tc 5571) (aD (v/12%6)) (aW (v/12%6)) (Zo (E32.getD ((v/12/11+v)%32) 0)) (Zo (aT (v/12%6) (v/12/7%32) (v/12/6%32) (E32.getD ((v/12/11+v)%32) 0)))
    (fk (TriC.code (aZ e1) (ar ac hn (by omega)))<|fk (TriC.code (aZ e2) (ar ac he (by omega)))<|fk (ba ac hj)<|fk (ak ac q)<|fk (kd H0)<|aa) (fc (UZ h9) aa)
   exact⟨tc,n0,t0,by rw[eI];exact kE key⟩
 ·have m9:=ZR h9
  by_cases h10:v%12=9
  ·have eI:bV v=.nm (v/12%6):=by unfold bV;rw[if_neg h9,if_pos h10]
   rw[eI]at hf
   have hj:v/12%6<6:=Zg _ (by decide)
   obtain⟨tn,htn⟩:=Pz t _ hj
   have hn:=T6 t _ hj
   rw[htn]at hn
   have e1:af (an (Zo v) 12) 6=Zo (v/12%6):=AV v 6
   obtain⟨tc,n0,t0,H0⟩:=j8 w b c hf.1 (cJ (Zd t 5629) (Zd t 5631) (Zd t 5633) (Zd t 5635) (Zd t 5637) (Zd t 5639)) (cJ 0 466 467 468 469 470) tn (n+8) (n+7) gh (n+10) (t+69)
   have key:=N6 w b c (a1 0) ej gh n t 40 (az [n0]) (az [t0]) (fun _ _=>0) (Zo v) nt (Zd tn 5571) 0 (Zd tc 5571) (jl (v/12%6)) (jl 0) 0 (Zo (mT (v/12%6)))
    (fk (TriC.code (aZ e1) (ar ac hn (by omega)))<|fk (kd H0)<|aa) (fc (eqM.trans (decide_eq_true h10)) (fc m9 aa))
   exact⟨tc,n0,t0,by rw[eI];exact kE key⟩
  ·have m10:(Xl (af (Zo v) 12) 9)=false:=(eqM (k:=9)).trans (decide_eq_false h10)
   by_cases h11:v%12=10
   ·have eI:bV v=.ad (v/12%32) (v/12/32%32) (v/12/7%32):=by unfold bV;rw[if_neg h9,if_neg h10,if_pos h11]
    rw[eI]at hf
    have e1:af (an (Zo v) 12) 32=Zo (v/12%32):=AV v 32
    have e2:af (an (an (Zo v) 12) 32) 32=Zo (v/12/32%32):=tV v 32 32
    have e3:af (an (an (Zo v) 12) 7) 32=Zo (v/12/7%32):=tV v 7 32
    have eIS:∀K U:Nat→Nat,(Ins.ad (v/12%32) (v/12/32%32) (v/12/7%32)).is K U=⟨K,U,gx,af (an (Zo v) 12) 32,af (an (an (Zo v) 12) 32) 32,af (an (an (Zo v) 12) 7) 32,0,0⟩:=fun K U=>by
     rw[e1,e2,e3];rfl
    obtain⟨tc,n0,t0,H0⟩:=j8 w b c hf.1 (cJ (Zd t 5633) (Zd t 5635) (Zd t 5637) (Zd t 5639) (Zd t 5641) (Zd t 5643)) (cJ 0 (Zd t 5616) (Zd t 5620) (Zd t 5624) 469 470) (t+43) (n+7) (n+6) gh (n+9) (t+73)
    rw[eIS]at H0
    have key:=N2 w b c (a1 0) ej gh n t 40 (az [n0]) (az [t0]) (fun _ _=>0) (Zo v) nt 0 0 (Zd tc 5571) (jl 0) (jl 0) 0 (Zo (k7 (v/12%32) (v/12/32%32) (v/12/7%32)))
     (fk (kd H0)<|aa) (fc (eqM.trans (decide_eq_true h11)) (fc m10 (fc m9 aa)))
    exact⟨tc,n0,t0,by rw[eI];exact kE key⟩
   ·have m11:(Xl (af (Zo v) 12) 10)=false:=(eqM (k:=10)).trans (decide_eq_false h11)
    have eI:bV v=.ai (v/12%32) (v/12/32%32) (v/12%2048):=by unfold bV;rw[if_neg h9,if_neg h10,if_neg h11]
    rw[eI]at hf
    have e1:af (an (Zo v) 12) 32=Zo (v/12%32):=AV v 32
    have e2:af (an (an (Zo v) 12) 32) 32=Zo (v/12/32%32):=tV v 32 32
    have e3:af (an (Zo v) 12) 2048=Zo (v/12%2048):=AV v 2048
    have eIS:∀K U:Nat→Nat,(Ins.ai (v/12%32) (v/12/32%32) (v/12%2048)).is K U=⟨K,U,l9,af (an (Zo v) 12) 32,af (an (an (Zo v) 12) 32) 32,0,af (an (Zo v) 12) 2048,0⟩:=fun K U=>by
     rw[e1,e2,e3];rfl
    obtain⟨tc,n0,t0,H0⟩:=j8 w b c hf.1 (cJ (Zd t 5632) (Zd t 5634) (Zd t 5636) (Zd t 5638) (Zd t 5640) (Zd t 5642)) (cJ 0 (Zd t 5616) (Zd t 5620) (Zd t 5621) (Zd t 5623) 470) (t+43) (n+7) (n+6) gh (n+9) (t+72)
    rw[eIS]at H0
    have key:=N3 w b c (a1 0) ej gh n t 40 (az [n0]) (az [t0]) (fun _ _=>0) (Zo v) nt 0 0 (Zd tc 5571) (jl 0) (jl 0) 0 (Zo (iF (v/12%32) (v/12/32%32) (v/12%2048)))
     (fk (kd H0)<|aa) (fc m11 (fc m10 (fc m9 aa)))
    exact⟨tc,n0,t0,by rw[eI];exact kE key⟩
section
variable{prog:Xf}{w:Z8}{S:HT}{B:Nat}{gh pre:gHs}{n t t':Nat}{C:Ctx→Prop}(hC:∀Γ,C Γ→Γ.handled=none)
include hC
theorem ms{cd:Xo}{o:Obj}(hf:o.isFreed=false)(H:∀Γ P h gs d os,Γ.handled=none→(∀x∈pre,h.get? x.1=some x.2)→h.objs.size=n→Xg (model prog w) Γ P ((model prog w).den cd) [] ⟨h,gs,d,t,os⟩ (.ret (.ok (.ret (.ref n)))) ⟨h.push o,gs,d,t',os⟩):
  TriC (model prog w) S B C cd gh pre n t (.ok (.ret (.ref n))) gh (pre++[(n,o)]) (n+1) t':=by
 intro nd lo big Γ P h gs dd os hΓ hL hn hs hpre hgh
 have k:∀b' q,h.get? b'=some q→(h.push o).get? b'=some q:=fun b' q hb=>Qo _ hb
 have lt:∀x∈pre,x.1<n:=fun x hx=>hn▸Qa (hpre x hx)
 refine⟨h.push o,H Γ P h gs dd os (hC Γ hL) hpre hn,by rw[size_push,hn],Nat.le_succ _,life_push _ _,?_,fun x hx=>?_,fun b' hb hnb q hq=>k b' q hq,fun x hx=>?_⟩
 ·rw[Qh,List.nodup_append]
  refine⟨nd,by simp,fun a ha b hb=>?_⟩
  obtain⟨x,hx,rfl⟩:=Qq.mp ha
  rw[List.mem_singleton.mp hb]
  exact Zw (lt x hx)
 ·rcases Qu.mp hx with q|q
  ·exact⟨.inl (Qq.mpr ⟨x,q,rfl⟩),k _ _ (hpre x q)⟩
  ·rw[List.mem_singleton.mp q]
   refine⟨.inr (Zm _),?_⟩
   have:=Heap.get?_push_size h (o:=o) hf
   rw[hn]at this
   exact this
 ·obtain⟨x1,x2⟩:=hgh x hx
  have xlt:=Qa x1
  rw[hn]at xlt
  refine⟨k _ _ x1,fun z=>?_,.inl (Qq.mpr ⟨x,hx,rfl⟩)⟩
  rw[Qh]at z
  rcases Qu.mp z with q|q
  ·exact x2 q
  ·exact Zw xlt (List.mem_singleton.mp q)
noncomputable def QI(k:Int)(t:Nat):Obj:=⟨.type "slice",none,.fields #[.none,.int k t,.none],#[]⟩
theorem NS{l sl:Z9}{tk m k:Nat}{xs:List Z6}(hz:xs.length≤sizeLine):
  TriC (model prog w) S B C (.builtin "list.__getitem__" ⟨[.ref l,.ref sl],[]⟩) gh [(l,am xs m),(sl,QI k tk)] n t (.ok (.ret (.ref n))) gh [(l,am xs m),(sl,QI k tk),(n,am (xs.take k) 0)] (n+1) t:=
 ms hC rfl fun Γ P h gs dd os hh hp hn=>by
  have ho:h.get? l=some (am xs m):=hp (l,_) List.mem_cons_self
  have hos:h.get? sl=some (QI k tk):=hp (sl,_) (Qp _ List.mem_cons_self)
  rw[cU entry_list_getitem]
  refine cm hh fun A hA=>?_
  show wpAny _ _ (Builtin.List.listSubscript? (.ref sl) >>= _) _ _ _
  refine Xa ?_
  unfold Builtin.List.listSubscript?
  refine Xa (wpAny_specialOf (T:="slice") ⟨_,hos,rfl⟩ slice_no_index ?_)
  simp only[Option.isNone_none,if_true]
  refine Xb ?_
  show wpAny _ _ (typeOf (.ref sl) >>= _) _ _ _
  refine Xa (wpAny_typeOf (T:="slice") ⟨_,hos,rfl⟩ ?_)
  rw[if_neg (by decide)]
  rw[listSliceParts_eq]
  refine Xa (Xa (wpAny_field hos rfl (x:=.none) rfl (Xa (wpAny_listPart .none ?_))))
  rw[if_neg (show ¬((rawPart none==rawInt 0)=true) from Xr)]
  refine Xa (wpAny_field hos rfl (x:=.none) rfl (Xa (wpAny_listPart .none ?_)))
  refine Xa (wpAny_field hos rfl (x:=.int k tk) rfl (Xa (wpAny_listPart (.int k tk) (Xb ?_))))
  refine Xa (m:=Builtin.List.listItems (.ref l)) ?_
  unfold Builtin.List.listItems
  refine Xa (wpAny_seqItems ho rfl (Xb ?_))
  refine Xa (wpAny_of_eq (sliceIndices_raw none (some (k:Int)) none _ (by simp)) ?_)
  refine Xa (wpAny_newObj_type (Xb ?_) (Zu (slicePick_size_le _ none (some (k:Int)) none) (by simpa using hz)))
  have:=slicePick_upto' ⟨xs⟩ k
  unfold slicePick at this
  refine⟨?_,?_⟩
  ·show PySem.Fin.done (.ret (.ref h.objs.size))=_
   rw[hn]
  ·show (⟨h.push {cls:=.type "list",data:=.seq _},gs,dd,t,os⟩:Xd)=_
   rw[this];simp[am]
theorem iC{a b:Z9}{xs ys:List Z6}{k m:Nat}(hz:xs.length+ys.length≤sizeLine):
  TriC (model prog w) S B C (.builtin "list.__add__" ⟨[.ref a,.ref b],[]⟩) gh [(a,am xs k),(b,am ys m)] n t (.ok (.ret (.ref n))) gh [(a,am xs k),(b,am ys m),(n,am (xs++ys) 0)] (n+1) t:=
 ms hC rfl fun Γ P h gs dd os hh hp hn=>by
  rw[cU F.entry_list_add]
  refine dL (list_addW a b ⟨xs⟩ ⟨ys⟩ k m none none #[] #[] (by simpa using hz)) hh fun A hA=>⟨hp (a,_) List.mem_cons_self,hp (b,_) (Qp _ List.mem_cons_self),?_⟩
  rw[show (⟨xs⟩++⟨ys⟩:Array Z6)=⟨xs++ys⟩ by simp]
  exact⟨by rw[hn],rfl⟩
theorem xL{a:Z9}{xs:List Z6}{m u:Nat}{d:Bool}{x:Int}(hx:x=cond d 1 0)(hz:xs.length≤1000)(h0:xs≠[]):
  TriC (model prog w) S B C (.builtin "list.__mul__" ⟨[.ref a,.int x u],[]⟩) gh [(a,am xs m)] n t (.ok (.ret (.ref n))) gh [(a,am xs m),(n,am (cond d xs []) 0)] (n+1) t:=
 ms hC rfl fun Γ P h gs dd os hh hp hn=>by
  rw[cU F.entry_list_mul]
  have h1:x.toNat≤1:=by subst hx;cases d<;>decide
  have h2:xs.length*x.toNat≤1000:=Zu (Nat.mul_le_mul_left _ h1) (by omega)
  refine dL (lm_list_mul_any a ⟨xs⟩ m none #[] x u (by subst hx;cases d<;>decide) (by show ¬xs.length*x.toNat>_;omega) (by show ¬Builtin.List.listTooLong (xs.length*x.toNat)=true;simp[Builtin.List.listTooLong,sizeLine];omega)) hh fun A hA=>⟨hp (a,_) List.mem_cons_self,?_⟩
  have e:List.foldl (fun x1 x2=>x1++x2) #[] (List.replicate (if (Xv xs).isEmpty=true then 0 else x.toNat) (Xv xs))=Xv (cond d xs []):=by
   cases xs with
   |nil=>exact absurd rfl h0
   |cons y l=>
    subst hx
    rw[if_neg (by simp)]
    cases d<;>simp
  rw[e]
  exact⟨by rw[hn],rfl⟩
theorem z0{a b:Z9}{l r:List Z6}{k m:Nat}(hl:dl l=true)(hr:dl r=true)(hlen:l.length=r.length):TriC (model prog w) S B C (.builtin "list.__eq__" ⟨[.ref a,.ref b],[]⟩) gh [(a,am l k),(b,am r m)] n t
  (.ok (.ret (.bool (eqLs l r)))) gh [(a,am l k),(b,am r m)] n t:=
 q6 hC F.entry_list_eq (SeqAt.list_eqAt a b ⟨l⟩ ⟨r⟩ k m none none #[] #[] hlen (fun j=>pn (l.getD j .none) (r.getD j .none))) fun A R s _ ht hp hR=>
  ⟨hp (a,_) List.mem_cons_self,hp (b,_) (Qp _ List.mem_cons_self),pj hl hr,by
   have e:(List.range (Xv l).size).all (fun j=>pn (l.getD j .none) (r.getD j .none))=eqLs l r:=by
    rw[←pm,hlen,Nat.min_self];simp[hlen]
   subst ht;rw[e];exact hR⟩
end
def jQ(s:BS)(hd:Int):List Int:=[aV s 770,aV s 771,aV s 773,aV s 774,aV s 832,aV s 833,aV s 834,aV s 835,aV s 3860,aV s 2816,aV s 2818,aV s 2944,aV s 2946,Za (aV s 768) 137352,Za (aV s 772) (Zc 2730 hd),Za (aV s 836) (Zc 2730 hd)]
def ValI:List Z6→List Int→Prop
 |[],[]=>True
 |x::l,v::m=>(∃u:Nat,x=.int v u)∧ValI l m
 |_,_=>False
theorem ValI.ints:∀{l:List Z6} {m:List Int},ValI l m→dl l=true
 |[],[],_=>rfl
 |x::l,v::m,⟨⟨u,e⟩,h⟩=>by subst e;have:=ValI.ints h;simpa [dl] using this
 |[],_::_,h=>h.elim
 |_::_,[],h=>h.elim
theorem ValI.eq:∀{l r:List Z6} {m:List Int},ValI l m→ValI r m→eqLs l r=true∧l.length=r.length
 |[],[],[],_,_=>⟨rfl,rfl⟩
 |x::l,y::r,v::m,⟨⟨u,e⟩,h⟩,⟨⟨u',e'⟩,h'⟩=>by
  subst e e'
  obtain⟨a,b⟩:=ValI.eq h h'
  exact⟨by simp[eqLs,pn,a],by rw[List.length_cons,List.length_cons,b]⟩
 |[],_::_,[],_,h=>h.elim
 |_::_,_,[],h,_=>h.elim
 |[],_,_::_,h,_=>h.elim
 |_::_,[],_::_,_,h=>h.elim
theorem qZ{M:Model}{S:HT}{B:Nat}{cd:Xo}{gh pre:gHs}{n t:Nat}{r:Xc}{gh' post:gHs}{n' t':Nat}(H:Tri M S B 80 cd gh pre n t r gh' post n' t'):Tri M S B 120 cd gh pre n t r gh' post n' t':=TriC.mono (cA (by decide)) H
def uZ(l:List (Nat×Nat)):Nat→Nat:=eZ l fun _=>0
inductive MacX (w:Z8) (b c:Bool) (A:AS) (s:BS) (hd:Int) (th:Nat) (gh:gHs) (n t:Nat):Prop where
 |mk (ml:List Z6) (e n' t':Nat) (h0_:ValI ml (jQ s hd)) (h1_:TB w b c A 80 (.call (.ref 1951) ⟨[.ref (ad (A.a 0)),.int hd th],[]⟩) gh [] s n t (.ok (.ret (.ref (ad e)))) gh [(ad e,am ml 0)] s n' t'):MacX w b c A s hd th gh n t
theorem kl(w:Z8)(b c:Bool)(A:AS)(s:BS)(hd:Int)(th:Nat)(gh:gHs)(n t:Nat):MacX w b c A s hd th gh n t:=by
 obtain⟨u0,n0,t0,H0⟩:=bZ w b c A s (i:=770) (by decide) gh (n+6) (t+16) (Zd t 5572)
 obtain⟨u1,n1,t1,H1⟩:=bZ w b c A s (i:=771) (by decide) gh (n0+0) (t0+2) (Zd t 5573)
 obtain⟨u2,n2,t2,H2⟩:=bZ w b c A s (i:=773) (by decide) gh (n1+0) (t1+2) (Zd t 5574)
 obtain⟨u3,n3,t3,H3⟩:=bZ w b c A s (i:=774) (by decide) gh (n2+0) (t2+2) (Zd t 5575)
 obtain⟨u4,n4,t4,H4⟩:=bZ w b c A s (i:=832) (by decide) gh (n3+0) (t3+2) (Zd t 5576)
 obtain⟨u5,n5,t5,H5⟩:=bZ w b c A s (i:=833) (by decide) gh (n4+0) (t4+2) (Zd t 5577)
 obtain⟨u6,n6,t6,H6⟩:=bZ w b c A s (i:=834) (by decide) gh (n5+0) (t5+2) (Zd t 5578)
 obtain⟨u7,n7,t7,H7⟩:=bZ w b c A s (i:=835) (by decide) gh (n6+0) (t6+2) (Zd t 5579)
 obtain⟨u8,n8,t8,H8⟩:=bZ w b c A s (i:=3860) (by decide) gh (n7+0) (t7+2) (Zd t 5580)
 obtain⟨u9,n9,t9,H9⟩:=bZ w b c A s (i:=2816) (by decide) gh (n8+0) (t8+2) (Zd t 5581)
 obtain⟨u10,n10,t10,H10⟩:=bZ w b c A s (i:=2818) (by decide) gh (n9+0) (t9+2) (Zd t 5582)
 obtain⟨u11,n11,t11,H11⟩:=bZ w b c A s (i:=2944) (by decide) gh (n10+0) (t10+2) (Zd t 5583)
 obtain⟨u12,n12,t12,H12⟩:=bZ w b c A s (i:=2946) (by decide) gh (n11+0) (t11+2) (Zd t 5584)
 obtain⟨u13,n13,t13,H13⟩:=bZ w b c A s (i:=768) (by decide) gh (n12+2) (t12+6) (Zd t12 5576)
 obtain⟨u14,n14,t14,H14⟩:=bZ w b c A s (i:=772) (by decide) gh (n13+0) (t13+4) (Zd t13 5574)
 obtain⟨u15,n15,t15,H15⟩:=bZ w b c A s (i:=836) (by decide) gh (n14+0) (t14+3) (Zd t14 5573)
 have key:=BP w b c A s gh n t 40 (az [n0,n1,n2,n3,n4,n5,n6,n7,n8,n9,n10,n11,n12,n13,n14,n15,n15+2]) (az [t0,t1,t2,t3,t4,t5,t6,t7,t8,t9,t10,t11,t12,t13,t14,t15,t15+1]) (fun _ _=>n15+1) hd th (aV s) (uZ [(770,u0),(771,u1),(773,u2),(774,u3),(832,u4),(833,u5),(834,u6),(835,u7),(3860,u8),(2816,u9),(2818,u10),(2944,u11),(2946,u12),(768,u13),(772,u14),(836,u15)]) ([.int (aV s 770) u0,.int (aV s 771) u1,.int (aV s 773) u2,.int (aV s 774) u3,.int (aV s 832) u4,.int (aV s 833) u5,.int (aV s 834) u6,.int (aV s 835) u7,.int (aV s 3860) u8,.int (aV s 2816) u9,.int (aV s 2818) u10,.int (aV s 2944) u11,.int (aV s 2946) u12,.int (Za (aV s 768) 137352) (Zd t13 5572),.int (Za (aV s 772) (Zc 2730 hd)) (Zd t14 5571),.int (Za (aV s 836) (Zc 2730 hd)) (Zd t15 5571)]:List Z6)
  (fk (kd H0)<|fk (kd H1)<|fk (kd H2)<|fk (kd H3)<|fk (kd H4)<|fk (kd H5)<|fk (kd H6)<|fk (kd H7)<|fk (kd H8)<|fk (kd H9)<|fk (kd H10)<|fk (kd H11)<|fk (kd H12)<|fk (kd H13)<|fk (kd H14)<|fk (kd H15)<|fk (kA (iC (w:=W2 w b c) (S:=cn (PP w b c)) (B:=1971) (gh:=gh) (n:=Zd (n15+1) 1971) (t:=Zd (t15+1) 5571) (C:=fun Γ=>Lim Γ 40) ac (a:=Zd n 1975) (b:=Zd n15 1971) (xs:=[.int (aV s 770) u0,.int (aV s 771) u1,.int (aV s 773) u2,.int (aV s 774) u3,.int (aV s 832) u4,.int (aV s 833) u5,.int (aV s 834) u6,.int (aV s 835) u7,.int (aV s 3860) u8,.int (aV s 2816) u9,.int (aV s 2818) u10,.int (aV s 2944) u11,.int (aV s 2946) u12]) (ys:=[.int (Za (aV s 768) 137352) (Zd t13 5572),.int (Za (aV s 772) (Zc 2730 hd)) (Zd t14 5571),.int (Za (aV s 836) (Zc 2730 hd)) (Zd t15 5571)]) (k:=13) (m:=0) (show 16≤sizeLine by decide)))<|aa)
 exact⟨([.int (aV s 770) u0,.int (aV s 771) u1,.int (aV s 773) u2,.int (aV s 774) u3,.int (aV s 832) u4,.int (aV s 833) u5,.int (aV s 834) u6,.int (aV s 835) u7,.int (aV s 3860) u8,.int (aV s 2816) u9,.int (aV s 2818) u10,.int (aV s 2944) u11,.int (aV s 2946) u12,.int (Za (aV s 768) 137352) (Zd t13 5572),.int (Za (aV s 772) (Zc 2730 hd)) (Zd t14 5571),.int (Za (aV s 836) (Zc 2730 hd)) (Zd t15 5571)]:List Z6),n15+1,n15+2+0,t15+1+0,⟨⟨_,rfl⟩,⟨_,rfl⟩,⟨_,rfl⟩,⟨_,rfl⟩,⟨_,rfl⟩,⟨_,rfl⟩,⟨_,rfl⟩,⟨_,rfl⟩,⟨_,rfl⟩,⟨_,rfl⟩,⟨_,rfl⟩,⟨_,rfl⟩,⟨_,rfl⟩,⟨_,rfl⟩,⟨_,rfl⟩,⟨_,rfl⟩,trivial⟩,kE key⟩
section
variable{prog:Xf}{w:Z8}{Γ:Ctx}{p:Pos}{s:Xd}
theorem qT{t:Xj Z3}{Sp:PySem.Spec}{f:Flow}{s':Xd}(g:Meets t Sp)(hh:Γ.handled=none)(H:∀A:Around,A.handled=none→A.units=Γ.code.cUnits+PySem.unitsOf Γ.below→Sp A (fun r x=>r=.ok f∧x=s') s):
  Xg (model prog w) Γ p t [] s (.ret (.ok f)) s':=by
 have hw:=g prog w ⟨none,frameCount Γ.below+Γ.code.weight,none,none,Γ.code.cUnits+PySem.unitsOf Γ.below⟩ _ s (H ⟨none,frameCount Γ.below+Γ.code.weight,none,none,Γ.code.cUnits+PySem.unitsOf Γ.below⟩ rfl rfl) Γ p
  ⟨hh,Zm _,(fun _ h=>nomatch h),(fun _ h=>nomatch h),by show _≤_+_;simp[Ctx.units]⟩
 have hw':Sem.wp (model prog w) Γ t (Sem.finPost (model prog w) Γ fun r x=>r=.ok f∧x=s') (fun e _ x=>(.error e:Xc)=.ok f∧x=s') p s:=
  Sem.wp_mono _ Γ t (fun a p' x hx=>by
   cases a with
   |done f'=>exact hx
   |again c=>exact⟨hx.1,hx.2 (Γ.goto c) p' rfl ⟨hh,Zy _ _,(fun _ h=>nomatch h),(fun _ h=>nomatch h),Zx _ _⟩⟩) (fun e p' x hx=>hx) p s hw
 obtain⟨r,x,hr,rfl,rfl⟩:=(Sem.wp_iff_runs (model prog w) Γ t _ p s).mp hw'
 exact hr
end
noncomputable def dI(m:List Int):List PyData:=m.map .int
theorem pd:∀m:List Int,PyData.canLayAll0 (dI m)=true
 |[]=>rfl
 |x::m=>by
  show (PyData.canLay0 (.int x)&&PyData.canLayAll0 (dI m))=true
  rw[pd m];rfl
theorem lf:∀m:List Int,PyData.depthAll (dI m)=0
 |[]=>rfl
 |x::m=>by
  show max (PyData.depth (.int x)) (PyData.depthAll (dI m))=0
  rw[lf m];rfl
theorem ValI.reads{h:Xh}:∀{l:List Z6} {m:List Int},ValI l m→∃as,ReadsAll h l (dI m) as
 |[],[],_=>⟨[],.nil⟩
 |x::l,v::m,⟨⟨u,e⟩,H⟩=>by
  subst e
  obtain⟨as,ha⟩:=ValI.reads (h:=h) H
  exact⟨_,.cons (.int v u) ha⟩
 |[],_::_,H=>H.elim
 |_::_,[],H=>H.elim
theorem Ad{w:Z8}{b c:Bool}{S:HT}{B L:Nat}{gh:gHs}{n t:Nat}{bl:List (Xo×Z4)}(hbl:PySem.unitsOf bl≤100){x y:Z9}{l r:List Z6}{k m:Nat}{X:gHs}{ds:List PyData}(hlay:PyData.canLayAll0 ds=true)(hdep:PyData.depthAll ds≤10)
  (hl:∀h:Xh,(∀z∈X,h.get? z.1=some z.2)→∃as,ReadsAll h l ds as) (hr:∀h:Xh,(∀z∈X,h.get? z.1=some z.2)→∃as,ReadsAll h r ds as) (e1:l.length=ds.length) (e2:r.length=ds.length):
  TriC (MM w b c) S B (fun Γ=>Lim Γ L∧Γ.below=bl) (.builtin "list.__ne__" ⟨[.ref x,.ref y],[]⟩) gh ((x,am l k)::(y,am r m)::X) n t (.ok (.ret (.bool false))) gh ((x,am l k)::(y,am r m)::X) n t:=by
 intro nd lo big Γ P h gs d os hΓ hL hn hs hp hgh
 refine⟨h,?_,hn,Zm _,rfl,nd,fun z hz=>⟨.inl (Qq.mpr ⟨z,hz,rfl⟩),hp z hz⟩,fun _ _ _ o ho=>ho,fun z hz=>⟨(hgh z hz).1,(hgh z hz).2,.inl (Qq.mpr ⟨z,hz,rfl⟩)⟩⟩
 rw[cU F.entry_list_ne]
 refine qT (SeqAt.list_neAt x y ⟨l⟩ ⟨r⟩ k m none none #[] #[] (show l.length=r.length from e1.trans e2.symm) (fun j=>SeqAt.pairEq ds ds j)) (ac _ hL.1) fun A hA hu=>?_
 have hX:∀z∈X,h.get? z.1=some z.2:=fun z hz=>hp z (Qp _ (Qp _ hz))
 obtain⟨as,ha⟩:=hl h hX
 obtain⟨bs,hb⟩:=hr h hX
 refine⟨hp (x,_) List.mem_cons_self,hp (y,_) (Qp _ List.mem_cons_self),fun j h1 h2=>?_,?_⟩
 ·have hu':A.in1.units+min (PyData.depthAll ds) (PyData.depthAll ds)<cLine:=by
   show A.units+1+_<cLine
   rw[hu,hΓ,hL.2,Nat.min_self]
   have e:(Code.builtin "list.__ne__" ⟨[.ref x,.ref y],[]⟩).cUnits=1:=by kernel_rfl
   rw[e]
   show _<9900
   omega
  exact SeqAt.eqAt_readsAll ds ds A.in1 ⟨h,gs,d,t,os⟩ l r as bs ha hb hlay hlay hu' j h1 h2
 ·have e:((List.range (Xv l).size).all fun j=>SeqAt.pairEq ds ds j)=true:=by
   have h1:=SeqAt.eqvAll_same_length (xs:=ds) (ys:=ds) rfl
   rw[SeqAt.eqvAll_refl ds hlay]at h1
   rw[show (Xv l).size=ds.length from e1]
   exact h1
  rw[e]
  exact⟨rfl,rfl⟩
theorem uT(r:Nat→Int×Nat):ValI ((List.range 32).map fun k=>.int (r k).1 (r k).2) ((List.range 32).map fun k=>(r k).1):=by
 have key:∀l:List Nat,ValI (l.map fun k=>.int (r k).1 (r k).2) (l.map fun k=>(r k).1):=by
  intro l
  induction l with
  |nil=>trivial
  |cons a l ih=>exact⟨⟨_,rfl⟩,ih⟩
 exact key _
theorem Ae{w:Z8}{b c:Bool}{S:HT}{B L:Nat}{gh:gHs}{n t:Nat}{bl:List (Xo×Z4)}(hbl:PySem.unitsOf bl≤100){x y a1 a2:Z9}{s u:Nat→Int×Nat}{p m p' m':Int}{t1 t2 t3 t4 k1 k2 e1 e2:Nat}(h:∀k,k<32→(s k).1=(u k).1)(hp:p=p')(hm:m=m'):
  TriC (MM w b c) S B (fun Γ=>Lim Γ L∧Γ.below=bl) (.builtin "list.__ne__" ⟨[.ref x,.ref y],[]⟩) gh [(x,am [.ref a1,.int p t1,.int m t2] e1),(y,am [.ref a2,.int p' t3,.int m' t4] e2),(a1,xM s k1),(a2,xM u k2)] n t (.ok (.ret (.bool false))) gh
   [(x,am [.ref a1,.int p t1,.int m t2] e1),(y,am [.ref a2,.int p' t3,.int m' t4] e2),(a1,xM s k1),(a2,xM u k2)] n t:=by
 subst hp hm
 have e:((List.range 32).map fun k=>(s k).1)=((List.range 32).map fun k=>(u k).1):=List.map_congr_left fun k hk=>h k (List.mem_range.mp hk)
 refine Ad hbl (ds:=[.list (dI ((List.range 32).map fun k=>(s k).1)),.int p,.int m]) ?_ ?_ (fun h hX=>?_) (fun h hX=>?_) rfl rfl
 ·show (PyData.canLayAll0 (dI _)&&(true&&(true&&true)))=true
  rw[pd];rfl
 ·show max (PyData.depthAll (dI _)+1) (max 0 (max 0 0))≤10
  rw[lf];decide
 ·obtain⟨as,ha⟩:=ValI.reads (h:=h) (uT s)
  exact⟨_,.cons (.list (hX (a1,_) List.mem_cons_self) rfl rfl ha) (.cons (.int p t1) (.cons (.int m t2) .nil))⟩
 ·obtain⟨as,ha⟩:=ValI.reads (h:=h) (uT u)
  rw[e]
  exact⟨_,.cons (.list (hX (a2,_) (Qp _ List.mem_cons_self)) rfl rfl ha) (.cons (.int p t3) (.cons (.int m t4) .nil))⟩
theorem vR{w:Z8}{b c:Bool}{S:HT}{B L:Nat}{gh:gHs}{n t:Nat}{bl:List (Xo×Z4)}(hbl:PySem.unitsOf bl≤100){x y a1 a2 b1 b2:Z9}{m1 m2 k1 k2:List Z6}{v1 v2:List Int}{i1 i2 i3 i4 e1 e2:Nat}(h1:ValI m1 v1)(h2:ValI m2 v2)(h3:ValI k1 v1)(h4:ValI k2 v2):
  TriC (MM w b c) S B (fun Γ=>Lim Γ L∧Γ.below=bl) (.builtin "list.__ne__" ⟨[.ref x,.ref y],[]⟩) gh [(x,am [.ref a1,.ref a2] e1),(y,am [.ref b1,.ref b2] e2),(a1,am m1 i1),(a2,am m2 i2),(b1,am k1 i3),(b2,am k2 i4)] n t (.ok (.ret (.bool false))) gh
   [(x,am [.ref a1,.ref a2] e1),(y,am [.ref b1,.ref b2] e2),(a1,am m1 i1),(a2,am m2 i2),(b1,am k1 i3),(b2,am k2 i4)] n t:=by
 refine Ad hbl (ds:=[.list (dI v1),.list (dI v2)]) ?_ ?_ (fun h hX=>?_) (fun h hX=>?_) rfl rfl
 ·show (PyData.canLayAll0 (dI _)&&(PyData.canLayAll0 (dI _)&&true))=true
  rw[pd,pd];rfl
 ·show max (PyData.depthAll (dI _)+1) (max (PyData.depthAll (dI _)+1) 0)≤10
  rw[lf,lf];decide
 ·obtain⟨as,ha⟩:=ValI.reads (h:=h) h1
  obtain⟨bs,hb⟩:=ValI.reads (h:=h) h2
  exact⟨_,.cons (.list (hX (a1,_) List.mem_cons_self) rfl rfl ha) (.cons (.list (hX (a2,_) (Qp _ List.mem_cons_self)) rfl rfl hb) .nil)⟩
 ·obtain⟨as,ha⟩:=ValI.reads (h:=h) h3
  obtain⟨bs,hb⟩:=ValI.reads (h:=h) h4
  exact⟨_,.cons (.list (hX (b1,_) (Qp _ (Qp _ List.mem_cons_self))) rfl rfl ha) (.cons (.list (hX (b2,_) (Qp _ (Qp _ (Qp _ List.mem_cons_self)))) rfl rfl hb) .nil)⟩
theorem NR{p:Xf}{w:Z8}{S:HT}{B:Nat}{gh:gHs}{n t:Nat}{C:Ctx→Prop}(hC:∀Γ,C Γ→Γ.handled=none){a b:Z9}{x:Int}{t1 t2 t3 t4:Nat}:
  TriC (model p w) S B C (.builtin "tuple.__ne__" ⟨[.ref a,.ref b],[]⟩) gh [(a,tO [.int 2 t1,.int x t2]),(b,tO [.int 2 t3,.int x t4])] n t (.ok (.ret (.bool false))) gh [(a,tO [.int 2 t1,.int x t2]),(b,tO [.int 2 t3,.int x t4])] n t:=by
 have:=xO (p:=p) (w:=w) (S:=S) (B:=B) (gh:=gh) (n:=n) (t:=t) hC (a:=a) (b:=b) (k:=0) (m:=0) (l:=[.int 2 t1,.int x t2]) (r:=[.int 2 t3,.int x t4]) rfl rfl
 rw[show eqLs [.int 2 t1,.int x t2] [.int 2 t3,.int x t4]=true by simp[eqLs,pn]]at this
 exact this
section
variable(n:Nat)(gE:gHs)(G:Nat→gHs)(w:Z8)(b c:Bool)(A:AS)(gh:gHs)(L N:Nat)(R K:List (Nat×Nat))(calls cb:List Call)(bls:List (List (Xo×Z4)))(lu:List Call)(es:List (Bool×Bool))(bl:List (Xo×Z4))(cd:Xo)(i:Nat)(pre:List (Nat×Obj))(r:Xc)(j:Nat)(post:List (Nat×Obj))(pos:(Nat→Z6)→List (Nat×Obj))(k:Nat)
abbrev tM:Prop:=Hcg G w b c A L R K calls→Hbg G w b c A L R K cb bls→Hg n gE gh→TY w b c (N+L) bl cd (G) (bz (bx A) R) (aQ K) i pre r j post k
end
section
variable{n:Nat}{gE:gHs}{G:Nat→gHs}{w:Z8}{b c:Bool}{A:AS}{gh:gHs}{L N:Nat}{R K:List (Nat×Nat)}{calls cb:List Call}{bls:List (List (Xo×Z4))}{lu:List Call}{es:List (Bool×Bool)}{bl:List (Xo×Z4)}{cd:Xo}{i:Nat}{pre:List (Nat×Obj)}{r:Xc}{j:Nat}{post:List (Nat×Obj)}{pos:(Nat→Z6)→List (Nat×Obj)}{k:Nat}
theorem mZY_cbg(H:Hn)(e1:G j=gE)(e2:G i=gh)(e3:bz (bx A) R i=Zd n 1971)(h1:dC (pre.map (·.1))=true:=by rfl)(h2:dC (post.map (·.1))=true:=by rfl)(hq:∀P,ff (sX WR w b c (bz (bx A) R) (aQ K) (G) calls bls cb [] N bl cd P pre i H) post (SG w false c)=fa (sX WR w b c (bz (bx A) R) (aQ K) (G) calls bls cb [] N bl cd P pre i H) r j k post [] (SG w true c):=by intro p;kernel_rfl):tM n gE G w b c A gh L N R K calls cb bls bl cd i pre r j post k:=fun hc hb hg=>lG (calls:=calls) (H:=H) hc (cb:=cb) (bls:=bls) hb (lu:=[]) nMm h1 h2 hq (cs:=[]) nMm (e1▸e2▸e3▸hg)
end
def glturn0:=LZ [10,10,1001,8,8,0,8,0,1002,8,8,0,12,8,0,1500,0,11,8,0,1501,25,27,25,25,1003,12,2001002,12,2001002,12,2001002,11,2016017,11,2016017,11,2016017,28,29,28,28,1502,0,12,8,0,1004,0,11,8,0,1005,8,34,13,34,34,1503,1504]
def KE:=LZ [0,12,8,0,1003,0,11,8,0,1004,12,2001002,12,2001002,12,2001002,11,2016017,11,2016017,11,2016017,26,27,26,26,1500,0,12,8,0,1005,0,11,8,0,1006,8,32,13,32,32,1501,1502]
section
variable(w:Z8)(b c:Bool)(A:AS)(s:BS)(gh:gHs)(n t L:Nat)(nn tt:Nat→Nat)(vv:Nat→Nat→Nat)(nv hd cell:Int)(nt hh tc i mm c3 t1 t2 t3 t4:Nat)(ku:Nat→Nat)(f:FS)(ml m1 m2 k1 k2:List Z6)(s1 sE u u1 uE:BS)(g1 g2 gE:gHs)(fo mo io:Obj)(sl:Array (Option Z6))(q:Nat→Z4)
def vY:List (Z7):=[ae w b c tJ (f.k 0) (f.2 0),ae w b c xA (f.k 1) (f.2 1),ae w b c tH (f.k 2) (f.2 2),ae w b c i6 (f.k 3) (.int hd hh),ae w b c xB (f.k 4) (f.2 4),ae w b c xC (f.k 5) (rA A 12),ae w b c oJ (Zd t 5571) (.int nv nt),ae w b c kW (Zd (tt 0) 5571) (.int cell tc)]
def vZ:List (Z7):=[ae w b c tJ (f.k 0) (f.2 0),ae w b c xA (f.k 1) (f.2 1),ae w b c tH (f.k 2) (f.2 2),ae w b c i6 (f.k 3) (.int hd hh),ae w b c xB (f.k 4) (f.2 4),ae w b c xC (f.k 5) (rA A 12),ae w b c oJ (f.k 6) (.int nv nt),ae w b c kW (f.k 7) (.int cell tc)]
noncomputable def aq(Y0:Nat):Nat:=Zd (A.a Y0) 1971
def lh:Nat×Obj:=(12,lO [rA A 13,rA A 14] 0)
def eR:Nat×Obj:=(15,d0 (PP w b c) (aS A ku))
def dZ:Nat×Obj:=(17,d2 (PP w b c) (aS A ku))
def qz:List (Nat×Obj):=aj w b c A sE++[(7,fo),(8,mo),(9,io),(10,gg (aq A 15)),(11,gg (aq A 0)),lh A,(13,am k1 0),(14,am k2 0),eR w b c A ku,(16,d1 (PP w b c) (aS A ku) uE),dZ w b c A ku,(18,d3 (PP w b c) (aS A ku) uE),(19,d4 (PP w b c) (aS A ku) uE),(20,d5 (PP w b c) (aS A ku) uE),(21,d6 (PP w b c) (aS A ku) uE)]
def fH:Xo:=.func cj (d7 (aq A 7) (aq A 10) (aq A 11) c3)
def gY:Nat×Obj:=(20,d5 (PP w b c) (aS A ku) u1)
def v8:List (Nat×Obj):=[eR w b c A ku,(16,d1 (PP w b c) (aS A ku) u1),dZ w b c A ku,(18,d3 (PP w b c) (aS A ku) u1),(19,d4 (PP w b c) (aS A ku) u1),gY w b c A ku u1,(21,d6 (PP w b c) (aS A ku) u1)]
noncomputable def fI:Xo:=.builtin "claim.caller" {}
noncomputable def dc(Y0:Nat):Nat:=Zd (vv Y0 0) 1971
def Kt:Obj:=⟨.type "frame",none,.dict ⟨vZ w b c A nv hd cell nt hh tc f⟩ 8,⟨[some (.ref 1969),some (.ref 3),none,some (Value.notImplemented),none,some (.ref 1970),some (.ref 0),some (rA A 10),some (rA A 11)]⟩⟩
def Ei:Obj:=⟨.type "frame",none,.dict ⟨vY w b c A t tt nv hd cell nt hh tc f⟩ 8,⟨[some (.ref 1969),some (.ref 3),none,some (Value.notImplemented),none,some (.ref 1970),some (.ref 0),some (rA A 10),some (rA A 11)]⟩⟩
noncomputable def dh(Y0 Y1:Nat):Nat×Nat:=(Y0,Zd (nn Y1) 1971)
def lj(Y0:Nat):Xo:=cR 1965 [rA A Y0,.int cell tc]
def Lc:List (Nat×Nat):=[dh nn 33 5,dh nn 31 4,(30,dc vv 4),dh nn 29 3,(28,dc vv 3),dh nn 25 2,dh nn 24 1,dh nn 23 0,(22,Zd n 1971)]
noncomputable def wI:List (Nat×Nat):=[(14,Zd (tt 5) 5571),(13,Zd (tt 4) 5571),(12,Zd (tt 3) 5571),(5,Zd (tt 2) 5571),(4,Zd (tt 1) 5571),(2,Zd (tt 0) 5571),(0,Zd t 5571)]
def wJ:Call:=⟨cB "list_iterator.__next__" [rA A 9],22,0,[(9,cI (aq A 8) i),(8,am ml mm)],rV (.int nv nt),22,0,[(9,cI (aq A 8) (i+1)),(8,am ml mm)]⟩
def wK:Call:=cS (cR 1958 [.int nv nt]) 22 1 [] (rV (.int cell tc)) 23 2
def Ld:Call:=⟨lj A cell tc 15,24,4,[eR w b c A ku,(16,d1 (PP w b c) (aS A ku) u),dZ w b c A ku,(18,d3 (PP w b c) (aS A ku) u),(19,d4 (PP w b c) (aS A ku) u),(20,d5 (PP w b c) (aS A ku) u),(21,d6 (PP w b c) (aS A ku) u)],rV .none,25,5,v8 w b c A ku u1⟩
def wL(x0 x1 x2:Nat):Call:=⟨cR 1951 [rA A 0,.int hd hh],x0,11,aj w b c A s1,rV (.ref (dc vv 3)),x1,12,aj w b c A s1++[(x2,am m1 0)]⟩
def wM(x0 x1 x2:Nat):Call:=⟨cR 1951 [rA A 15,.int hd hh],x0,12,v8 w b c A ku u1,rV (.ref (dc vv 4)),x1,13,[eR w b c A ku,(16,d1 (PP w b c) (aS A ku) u1),dZ w b c A ku,(18,d3 (PP w b c) (aS A ku) u1),(19,d4 (PP w b c) (aS A ku) u1),gY w b c A ku u1,(21,d6 (PP w b c) (aS A ku) u1),(x2,am m2 0)]⟩
def wN(x0 x1 x2:Nat):Call:=cS (cB "list.__ne__" [.ref (Zd (nn 2) 1971),.ref (Zd (nn 2) 1972)]) x0 11 [(x1,lO [rA A 5,.int s1.pc.1 s1.pc.2,.int s1.md.1 s1.md.2] 0),(x2,lO [.ref (Zd ((aS A ku).a 5) 1971),.int u1.pc.1 u1.pc.2,.int u1.md.1 u1.md.2] 0),(5,d5 (PP w b c) A s1),gY w b c A ku u1] (rV (.bool false)) x0 11
def wO(x0 x1 x2 x3:Nat):Call:=cS (cB "list.__ne__" [.ref (Zd (nn 4) 1971),rA A 12]) x0 13 [(x1,lO [.ref (dc vv 3),.ref (dc vv 4)] 0),lh A,(x2,am m1 0),(x3,am m2 0),(13,am k1 0),(14,am k2 0)] (rV (.bool false)) x0 13
def Le:List (List (Xo×Z4)):=[((dq cj 5 (aq A 9) (d7 (aq A 7) (aq A 10) (aq A 11) c3),⟨861,61,861,137⟩)::(fH A c3,q 5)::[(fI,q 6)]),((dq cj 5 (aq A 9) (d7 (aq A 7) (aq A 10) (aq A 11) c3),⟨863,11,863,76⟩)::(fH A c3,q 5)::[(fI,q 6)]),[(fH A c3,q 5),(fI,q 6)]]
def uJ:List (Xo×Z4):=[(fH A c3,q 5),(fI,q 6)]
def uK:Xo:=(dq cj 5 (aq A 9) (d7 (aq A 7) (aq A 10) (aq A 11) c3))
def Fx:List (Nat×Obj):=(aj w b c A s++[(7,aY ⟨Eu (PP w b c) f hd hh (aq A 12)⟩ 6 sl),(8,am ml mm),(9,cI (aq A 8) i),(10,gg (aq A 15)),(11,gg (aq A 0)),(12,am [.ref (aq A 13),.ref (aq A 14)] 0),(13,am k1 0),(14,am k2 0),eR w b c A ku,(16,d1 (PP w b c) (aS A ku) u),dZ w b c A ku,(18,d3 (PP w b c) (aS A ku) u),(19,d4 (PP w b c) (aS A ku) u),(20,d5 (PP w b c) (aS A ku) u),(21,d6 (PP w b c) (aS A ku) u)])
def uL:List (Nat×Obj):=(qz w b c A ku k1 k2 sE uE fo mo io)
def Fy:List (Nat×Obj):=(aj w b c A s++[(7,aY ⟨um (PP w b c) f hd hh (aq A 12)⟩ 8 sl),(8,am ml mm),(9,cI (aq A 8) i),(10,gg (aq A 15)),(11,gg (aq A 0)),(12,am [.ref (aq A 13),.ref (aq A 14)] 0),(13,am k1 0),(14,am k2 0),eR w b c A ku,(16,d1 (PP w b c) (aS A ku) u),dZ w b c A ku,(18,d3 (PP w b c) (aS A ku) u),(19,d4 (PP w b c) (aS A ku) u),(20,d5 (PP w b c) (aS A ku) u),(21,d6 (PP w b c) (aS A ku) u)])
def Fz:List (Nat×Nat):=[dh nn 35 5,dh nn 33 4,(32,dc vv 4),dh nn 31 3,(30,dc vv 3),dh nn 27 2,(26,dc vv 2),dh nn 25 1,(24,dc vv 1),dh nn 23 0,(22,Zd n 1971)]
def FA:Call:=cS (cB "tuple.__ne__" [.ref (dc vv 1),.ref (dc vv 2)]) 27 5 [(24,tO [.int 2 t1,.int cell t2]),(26,tO [.int 2 t3,.int cell t4])] (rV (.bool false)) 27 5
def FB:List (List (Xo×Z4)):=[((dq cj 5 (aq A 9) (d7 (aq A 7) (aq A 10) (aq A 11) c3),⟨861,11,861,31⟩)::(fH A c3,q 5)::[(fI,q 6)]),((dq cj 5 (aq A 9) (d7 (aq A 7) (aq A 10) (aq A 11) c3),⟨861,35,861,57⟩)::(fH A c3,q 5)::[(fI,q 6)]),((dq cj 5 (aq A 9) (d7 (aq A 7) (aq A 10) (aq A 11) c3),⟨861,61,861,137⟩)::(fH A c3,q 5)::[(fI,q 6)]),((dq cj 5 (aq A 9) (d7 (aq A 7) (aq A 10) (aq A 11) c3),⟨863,11,863,76⟩)::(fH A c3,q 5)::[(fI,q 6)]),[(fH A c3,q 5),(fI,q 6)]]
include w b c A s gh n t L nn tt vv nv hd cell nt hh tc i mm c3 t1 t2 t3 t4 ku f ml m1 m2 k1 k2 s1 sE u u1 uE g1 g2 gE fo mo io sl q
def yF(fl:Bool):List Z7:=cond fl (vZ w b c A nv hd cell nt hh tc f) (vY w b c A t tt nv hd cell nt hh tc f)
def OP(fl:Bool):Obj:=cond fl (Kt w b c A nv hd cell nt hh tc f) (Ei w b c A t tt nv hd cell nt hh tc f)
def OQ(fl:Bool):List (Nat×Obj):=cond fl (Fy w b c A s hd hh i mm ku f ml k1 k2 u sl) (Fx w b c A s hd hh i mm ku f ml k1 k2 u sl)
theorem QX(fl:Bool):tM n gE (FW gh [(33,gE),(25,g2),(24,g1)]) w b c A gh L 40 (Lc n nn vv) (wI t tt) [wJ A nv nt i mm ml,wK nv cell nt tc,⟨lj A cell tc 0,23,3,aj w b c A s,rV .none,24,4,aj w b c A s1⟩,Ld w b c A cell tc ku u u1,wL w b c A vv hd hh m1 s1 27 29 28,wM w b c A vv hd hh ku m2 u1 29 31 30] [wN w b c A nn ku s1 u1 27 25 26,wO A nn vv m1 m2 k1 k2 32 31 28 30,⟨dq cj 5 (aq A 9) (d7 (aq A 7) (aq A 10) (aq A 11) c3),32,13,aj w b c A s1++[(7,⟨.type "frame",none,.dict ⟨yF w b c A t tt nv hd cell nt hh tc f fl⟩ 8,sl⟩),(8,am ml mm),(9,cI (aq A 8) (i+1)),(10,gg (aq A 15)),(11,gg (aq A 0)),lh A,(13,am k1 0),(14,am k2 0),eR w b c A ku,(16,d1 (PP w b c) (aS A ku) u1),dZ w b c A ku,(18,d3 (PP w b c) (aS A ku) u1),(19,d4 (PP w b c) (aS A ku) u1),gY w b c A ku u1,(21,d6 (PP w b c) (aS A ku) u1)],.ok .next,33,14,qz w b c A ku k1 k2 sE uE fo mo io⟩] (Le A c3 q) (uJ A c3 q) (uK A c3) 22 (OQ w b c A s hd hh i mm ku f ml k1 k2 u sl fl) (.ok Flow.next) 33 (uL w b c A ku k1 k2 sE uE fo mo io) 14:=by
 cases fl<;>exact mZY_cbg (hm ([10,10,1001,8,8,0,8,0,1002,8,8]++KE)) rfl rfl rfl rfl rfl fun p=>by kernel_rfl
theorem QY(fl:Bool):tM n gE (FW gh [(35,gE),(27,g2),(25,g1)]) w b c A gh L 40 (Fz n nn vv) (wI t tt) [wJ A nv nt i mm ml,wK nv cell nt tc,FA vv cell t1 t2 t3 t4,wL w b c A vv hd hh m1 s1 29 31 30,wM w b c A vv hd hh ku m2 u1 31 33 32] [⟨lj A cell tc 0,23,3,aj w b c A s++[(7,⟨.type "frame",none,.dict ⟨yF w b c A t tt nv hd cell nt hh tc f fl⟩ 8,sl⟩)],rV (.ref (dc vv 1)),25,4,aj w b c A s1++[(7,⟨.type "frame",none,.dict ⟨yF w b c A t tt nv hd cell nt hh tc f fl⟩ 8,ck (aq A 10) (aq A 11) c3⟩),(24,tO [.int 2 t1,.int cell t2])]⟩,⟨lj A cell tc 15,25,4,[eR w b c A ku,(16,d1 (PP w b c) (aS A ku) u),dZ w b c A ku,(18,d3 (PP w b c) (aS A ku) u),(19,d4 (PP w b c) (aS A ku) u),(20,d5 (PP w b c) (aS A ku) u),(21,d6 (PP w b c) (aS A ku) u),(7,OP w b c A t tt nv hd cell nt hh tc f fl)],rV (.ref (dc vv 2)),27,5,[eR w b c A ku,(16,d1 (PP w b c) (aS A ku) u1),dZ w b c A ku,(18,d3 (PP w b c) (aS A ku) u1),(19,d4 (PP w b c) (aS A ku) u1),gY w b c A ku u1,(21,d6 (PP w b c) (aS A ku) u1),(7,⟨.type "frame",none,.dict ⟨yF w b c A t tt nv hd cell nt hh tc f fl⟩ 8,ck (aq A 10) (aq A 11) c3⟩),(26,tO [.int 2 t3,.int cell t4])]⟩,wN w b c A nn ku s1 u1 29 27 28,wO A nn vv m1 m2 k1 k2 34 33 30 32,⟨dq cj 5 (aq A 9) (d7 (aq A 7) (aq A 10) (aq A 11) c3),34,13,aj w b c A s1++[(7,OP w b c A t tt nv hd cell nt hh tc f fl),(8,am ml mm),(9,cI (aq A 8) (i+1)),(10,gg (aq A 15)),(11,gg (aq A 0)),lh A,(13,am k1 0),(14,am k2 0),eR w b c A ku,(16,d1 (PP w b c) (aS A ku) u1),dZ w b c A ku,(18,d3 (PP w b c) (aS A ku) u1),(19,d4 (PP w b c) (aS A ku) u1),gY w b c A ku u1,(21,d6 (PP w b c) (aS A ku) u1)],.ok .next,35,14,qz w b c A ku k1 k2 sE uE fo mo io⟩] (FB A c3 q) (uJ A c3 q) (uK A c3) 22 (OQ w b c A s hd hh i mm ku f ml k1 k2 u sl fl) (.ok Flow.next) 35 (uL w b c A ku k1 k2 sE uE fo mo io) 14:=by
 cases fl<;>exact mZY_cbg (hm glturn0) rfl rfl rfl rfl rfl fun p=>by kernel_rfl
end
section
variable(w:Z8)(b c:Bool)(A:AS)(s:BS)(gh:gHs)(n t L:Nat)
include w b c A s gh n t L
theorem ZQ(nn tt:Nat→Nat)(vv:Nat→Nat→Nat)(fo co cp:Obj)(ml:List Z6)(mm i c3:Nat)(q:Nat→Z4)(hc:∀k∈([⟨.builtin "list_iterator.__next__" ⟨[.ref (Zd (A.a 2) 1971)],[]⟩,5,0,[(2,cI (Zd (A.a 1) 1971) i),(1,am ml mm)],.error (.ref (Zd (vv 0 0) 1971)),7,1,[(2,fj i),(1,am ml mm),(6,g6 (Zd (vv 0 1) 1971))]⟩]:List Call),bE (MM w b c) (gX w b c (bz (bx A) [(7,Zd (nn 0) 1971),(6,Zd (vv 0 0) 1971),(5,Zd n 1971)]) (aQ [(1,Zd (tt 0) 5571),(0,Zd t 5571)]) (Ga gh)) L k) :
 TY w b c (40+L) [(.func cj (d7 (Zd (A.a 0) 1971) (Zd (A.a 3) 1971) (Zd (A.a 4) 1971) c3),q 5),(.builtin "claim.caller" {},q 6)] (dq cj 5 (Zd (A.a 2) 1971) (d7 (Zd (A.a 0) 1971) (Zd (A.a 3) 1971) (Zd (A.a 4) 1971) c3)) (Ga gh) (bz (bx A) [(7,Zd (nn 0) 1971),(6,Zd (vv 0 0) 1971),(5,Zd n 1971)]) (aQ [(1,Zd (tt 0) 5571),(0,Zd t 5571)]) 5 [(0,fo),(1,am ml mm),(2,cI (Zd (A.a 1) 1971) i),(3,co),(4,cp)] (.ok Flow.next) 7 [(0,fo),(1,am ml mm),(2,fj i),(3,co),(4,cp)] 1:=
 lG (H:=hm [3,3,1001,7]) hc (cb:=[]) (bls:=[]) nMm (lu:=[]) nMm rfl rfl (fun p=>by kernel_rfl) (cs:=[]) nMm bS
end
structure LB where
  fr:Nat
  ma:Nat
  it:Nat
  c1:Nat
  c2:Nat
  st:Nat
  k1:Nat
  k2:Nat
  c3:Nat
  U:Nat→Nat
  ku:Nat→Nat
def aL(A:AS)(B:LB):AS:=⟨eZ [(7,B.fr),(8,B.ma),(9,B.it),(10,B.c1),(11,B.c2),(12,B.st),(13,B.k1),(14,B.k2),(15,B.U 0),(16,B.U 1),(17,B.U 2),(18,B.U 3),(19,B.U 4),(20,B.U 5),(21,B.U 6),(115,B.U 100),(116,B.U 101)] A.a,A.k⟩
noncomputable abbrev aU(B:LB):AS:=⟨B.U,B.ku⟩
abbrev OU(B:LB):Env:=d7 (ad B.fr) (ad B.c1) (ad B.c2) B.c3
abbrev Gk(B:LB):Xo:=dq cj 5 (ad B.it) (OU B)
abbrev Al(B:LB)(q:Nat→Z4):List (Xo×Z4):=[(.func cj (OU B),q 5),(.builtin "claim.caller" {},q 6)]
def wb(P:Z5)(fl:Bool)(f:FS)(hd:Int)(hh st:Nat)(sl:Array (Option Z6)):Obj:=cond fl (aY ⟨um P f hd hh st⟩ 8 sl) (aY ⟨Eu P f hd hh st⟩ 6 sl)
section
variable(w:Z8)(b c:Bool)(A:AS)(B:LB)(k1 k2:List Z6)
def Jy(fl:Bool)(f:FS)(hd:Int)(hh:Nat)(sl:Array (Option Z6))(ml:List Z6)(mm i:Nat)(u:BS):gHs:=
  [(ad B.fr,wb (PP w b c) fl f hd hh (ad B.st) sl),(ad B.ma,am ml mm),(ad B.it,cI (ad B.ma) i),(ad B.c1,gg (ad (B.U 0))),(ad B.c2,gg (ad (A.a 0))),(ad B.st,am [.ref (ad B.k1),.ref (ad B.k2)] 0),(ad B.k1,am k1 0),(ad B.k2,am k2 0)]++bd w b c (aU B) u
def Jx(fo mo io:Obj)(u:BS):gHs:=
  [(ad B.fr,fo),(ad B.ma,mo),(ad B.it,io),(ad B.c1,gg (ad (B.U 0))),(ad B.c2,gg (ad (A.a 0))),(ad B.st,am [.ref (ad B.k1),.ref (ad B.k2)] 0),(ad B.k1,am k1 0),(ad B.k2,am k2 0)]++bd w b c (aU B) u
end
noncomputable def ji(l:List Nat)(i:Nat):Nat:=l.getD i 0
noncomputable def BN(l:List Z6)(i:Nat):Z6:=l.getD i .none
theorem ly{s t:BS}{h:Nat}(K:Keep s t h):jQ t (h:Int)=jQ s (h:Int):=by
  have z770:aV t 770=aV s 770:=K.z 770 (by decide)
  have z771:aV t 771=aV s 771:=K.z 771 (by decide)
  have z3860:aV t 3860=aV s 3860:=K.z 3860 (by decide)
  have p773:aV t 773=aV s 773:=K.p 773 (by decide)
  have p774:aV t 774=aV s 774:=K.p 774 (by decide)
  have p832:aV t 832=aV s 832:=K.p 832 (by decide)
  have p833:aV t 833=aV s 833:=K.p 833 (by decide)
  have p834:aV t 834=aV s 834:=K.p 834 (by decide)
  have p835:aV t 835=aV s 835:=K.p 835 (by decide)
  have c1:aV t 2816=aV s 2816:=congrArg (fun x=>Za x 4294967295) (K.z 2816 (by decide))
  have c2:aV t 2818=aV s 2818:=congrArg (fun x=>Za x 4294967295) (K.z 2818 (by decide))
  have c3:aV t 2944=aV s 2944:=congrArg (fun x=>Za (aw x 32) 4294967295) (K.z 2816 (by decide))
  have c4:aV t 2946=aV s 2946:=congrArg (fun x=>Za (aw x 32) 4294967295) (K.z 2818 (by decide))
  have a:Za (aV t 768) 137352=Za (aV s 768) 137352:=K.st
  have d:Za (aV t 772) (Zc 2730 (h:Int))=Za (aV s 772) (Zc 2730 (h:Int)):=K.en
  have e:Za (aV t 836) (Zc 2730 (h:Int))=Za (aV s 836) (Zc 2730 (h:Int)):=K.wa
  unfold jQ
  rw[z770,z771,z3860,p773,p774,p832,p833,p834,p835,c1,c2,c3,c4,a,d,e]
inductive TurnX (w:Z8) (b c:Bool) (A:AS) (B:LB) (q:Nat→Z4) (h:Nat) (fl:Bool) (f:FS) (hh:Nat) (sl:Array (Option Z6)) (ml:List Z6) (mm i:Nat) (k1 k2:List Z6) (s u:BS) (gh:gHs) (n t:Nat):Prop where
  |mk (s2 u2:BS) (gh1:gHs) (n1 t1:Nat) (f1:FS) (sl1:Array (Option Z6)) (h0_:KInv (PP w b c) s2.es gh1∧KInv (PP w b c) u2.es gh1) (h1_:s2.es.toList.length≤s.es.toList.length+1∧u2.es.toList.length≤u.es.toList.length+1) (h2_:HInv s2 h∧HInv u2 h) (h3_:Like s2 u2) (h4_:Keep s s2 h∧Keep u u2 h) (h5_:sl1=#[]∨sl1=ck (ad B.c1) (ad B.c2) B.c3)
   (h6_:∀(sE uE:BS) (nE tE:Nat) (fo mo io:Obj),TA w b c A 120 (Al B q) (Gk B) gh1 (Jy w b c A B k1 k2 true f1 (h:Int) hh sl1 ml mm (i+1) u2) s2 n1 t1 (.ok .next) [] (Jx w b c A B k1 k2 fo mo io uE) sE nE tE→
    TA w b c A 160 (Al B q) (Gk B) gh (Jy w b c A B k1 k2 fl f (h:Int) hh sl ml mm i u) s n t (.ok .next) [] (Jx w b c A B k1 k2 fo mo io uE) sE nE tE):TurnX w b c A B q h fl f hh sl ml mm i k1 k2 s u gh n t
noncomputable def fsK(fl:Bool)(f:FS)(t t0:Nat):List Nat:=[f.k 0,f.k 1,f.k 2,f.k 3,f.k 4,f.k 5,cond fl (f.k 6) (Zd t 5571),cond fl (f.k 7) (Zd t0 5571)]
noncomputable def fsV(f:FS)(x y:Z6):List Z6:=[f.v 0,f.v 1,f.v 2,f.v 3,f.v 4,f.v 5,x,y]
abbrev GI(fl:Bool)(f:FS)(t t0:Nat)(x y:Z6):FS:=⟨ji (fsK fl f t t0),BN (fsV f x y)⟩
theorem le(e:Env)(it:Nat)(p1 p2 p3:Z4):PySem.unitsOf ((dq cj 5 it e,p1)::(.func cj e,p2)::[(.builtin "claim.caller" {},p3)])≤100:=by
  have h:PySem.unitsOf ((dq cj 5 it e,p1)::(.func cj e,p2)::[(.builtin "claim.caller" {},p3)])=7:=by kernel_rfl
  rw[h];decide
section
variable{w:Z8}{b c:Bool}{A:AS}{B:LB}{q:Nat→Z4}{h:Nat}{f:FS}{hh:Nat}{sl:Array (Option Z6)}{ml:List Z6}{mm i:Nat}{k1 k2:List Z6}{s u:BS}(h8:h∈H8)(I:HInv s h)(J:HInv u h)(Lk:Like s u)(hv1:ValI k1 (jQ s (h:Int)))(hv2:ValI k2 (jQ u (h:Int)))(hsl:sl=#[]∨sl=ck (ad B.c1) (ad B.c2) B.c3){v nt:Nat}(hx:ml[i]?=some (.int (Zo v) nt)){gh:gHs}{n t:Nat}(hk1:KInv (PP w b c) s.es gh)(hk2:KInv (PP w b c) u.es gh)(hz1:s.es.toList.length≤1000)(hz2:u.es.toList.length≤1000)
include h8 I J Lk hv1 hv2 hsl hx hk1 hk2 hz1 hz2
theorem CH(fl:Bool)(hd:ed s (bV v)=true):TurnX w b c A B q h fl f hh sl ml mm i k1 k2 s u gh n t:=by
 have hs:1000≤sizeLine:=by decide
 obtain⟨tc,n0,t0,H0⟩:=vU w b c v nt gh (n+0) (t+1)
 obtain⟨z1,p1,r1,pt,mt,sp1,em1,n1,t1,es1,g1,ez,ep,er,hK1,hl1,hm1,_,H1⟩:=ve w b c A I.n (fB v) hd gh (n0+0) (t0+1) tc hk1 (Zu hz1 hs)
 have hd2:ed u (bV v)=true:=(rk Lk)▸hd
 obtain⟨z2,p2,r2,pt2,mt2,sp2,em2,n2,t2,es2,g2,ez2,ep2,er2,hK2,hl2,hm2,_,H2⟩:=ve w b c (aU B) J.n (fB v) hd2 g1 (n1+0) (t1+0) tc (hk2.more hm1) (Zu hz2 hs)
 have B1:Behind s ⟨z1,p1,r1,(mU s (bV v),pt),(mV s (bV v),mt),sp1,es1,em1⟩ (bV v):=⟨ez,ep,er,rfl,rfl⟩
 have B2:Behind u ⟨z2,p2,r2,(mU u (bV v),pt2),(mV u (bV v),mt2),sp2,es2,em2⟩ (bV v):=⟨ez2,ep2,er2,rfl,rfl⟩
 obtain⟨I1,K1⟩:=o7 h8 I (fB v) hd B1
 obtain⟨J1,K2⟩:=o7 h8 J (fB v) hd2 B2
 have L1:=vm h8 I J Lk (fB v) hd B1 B2
 obtain⟨m1,e1,n3,t3,hv3,H3⟩:=kl w b c A ⟨z1,p1,r1,(mU s (bV v),pt),(mV s (bV v),mt),sp1,es1,em1⟩ (h:Int) hh g2 (n2+2) (t2+6)
 obtain⟨m2,e2,n4,t4,hv4,H4⟩:=kl w b c (aU B) ⟨z2,p2,r2,(mU u (bV v),pt2),(mV u (bV v),mt2),sp2,es2,em2⟩ (h:Int) hh g2 (n3+0) (t3+0)
 rw[ly K1]at hv3
 rw[ly K2]at hv4
 refine⟨⟨z1,p1,r1,(mU s (bV v),pt),(mV s (bV v),mt),sp1,es1,em1⟩,⟨z2,p2,r2,(mU u (bV v),pt2),(mV u (bV v),mt2),sp2,es2,em2⟩,g2,n4+1,t4+0,GI fl f t t0 (.int (Zo v) nt) (.int (Zo (bV v).w) (Zd tc 5571)),sl,⟨hK1.more hm2,hK2⟩,⟨hl1,hl2⟩,⟨I1,J1⟩,L1,⟨K1,K2⟩,hsl,?_⟩
 intro sE uE nE tE fo mo io HR
 have KT:=QX w b c (aL A B) s gh n t 120 (az [n0,n1,n2,n3,n4,nE]) (az [t0,t1,t2,t3,t4,tE]) (fun i _=>cond (Ze i 3) e1 e2) (Zo v) (h:Int) (Zo (bV v).w) nt hh (Zd tc 5571) i mm B.c3 0 0 0 0 B.ku f ml m1 m2 k1 k2 ⟨z1,p1,r1,(mU s (bV v),pt),(mV s (bV v),mt),sp1,es1,em1⟩ sE u ⟨z2,p2,r2,(mU u (bV v),pt2),(mV u (bV v),mt2),sp2,es2,em2⟩ uE g1 g2 [] fo mo io sl q fl
 cases fl<;>exact kc (KT
  (fk (fT ac hx)<|fk (qZ (kd H0))<|fk (kd H1)<|fk (kd H2)<|fk (qZ (kd H3))<|fk (qZ (kd H4))<|aa)
  (ab ⟨by kernel_rfl,kc (Ae (s:=r1) (u:=r2) (k1:=0) (k2:=0) (a1:=ad (A.a 5)) (a2:=ad (B.U 5)) (t1:=pt) (t2:=mt) (t3:=pt2) (t4:=mt2) (e1:=0) (e2:=0) (le _ _ _ _ _) L1.r L1.pc L1.md)⟩<|ab ⟨by kernel_rfl,kc (vR (a1:=ad e1) (a2:=ad e2) (b1:=ad B.k1) (b2:=ad B.k2) (i1:=0) (i2:=0) (i3:=0) (i4:=0) (e1:=0) (e2:=0) (le _ _ _ _ _) hv3 hv4 hv1 hv2)⟩<|ab ⟨by kernel_rfl,bp (by kernel_rfl) (kd HR)⟩ aa) (fun x hx=>nomatch hx))
theorem F9(fl:Bool)(hd:ed s (bV v)=false):TurnX w b c A B q h fl f hh sl ml mm i k1 k2 s u gh n t:=by
 have hs:1000≤sizeLine:=by decide
 obtain⟨tc,n0,t0,H0⟩:=vU w b c v nt gh (n+0) (t+1)
 obtain⟨em1,e1,n1,t1,es1,g1,hK1,hl1,hm1,_,H1⟩:=wV w b c A I.n (fB v) hd (RC.mk (ad B.it) (ad B.c1) (ad B.c2) B.c3 (fun _=>⟨um (PP w b c) (GI fl f t t0 (.int (Zo v) nt) (.int (Zo (bV v).w) (Zd tc 5571))) (h:Int) hh (ad B.st)⟩) (fun _=>8) (fun i=>cond (Ze i 4) ⟨861,11,861,31⟩ (q i)) sl) (fun _=>B.fr) hsl gh (n0+0) (t0+1) tc hk1 (Zu hz1 hs)
 have hd2:ed u (bV v)=false:=(rk Lk)▸hd
 obtain⟨em2,e2,n2,t2,es2,g2,hK2,hl2,hm2,_,H2⟩:=wV w b c (aU B) J.n (fB v) hd2 (RC.mk (ad B.it) (ad B.c1) (ad B.c2) B.c3 (fun _=>⟨um (PP w b c) (GI fl f t t0 (.int (Zo v) nt) (.int (Zo (bV v).w) (Zd tc 5571))) (h:Int) hh (ad B.st)⟩) (fun _=>8) (fun i=>cond (Ze i 4) ⟨861,35,861,57⟩ (q i)) (ck (ad B.c1) (ad B.c2) B.c3)) (fun _=>B.fr) (.inr rfl) g1 (n1+0) (t1+0) tc (hk2.more hm1) (Zu hz2 hs)
 have I1:HInv {s with es:=es1,em:=em1} h:=⟨⟨I.n.rb,I.n.pb,I.n.zb,I.n.cy,I.n.re,I.n.md,I.n.pc⟩,I.hd,I.pv⟩
 have J1:HInv ⟨u.z,u.p,u.r,u.pc,u.md,u.sp,es2,em2⟩ h:=⟨⟨J.n.rb,J.n.pb,J.n.zb,J.n.cy,J.n.re,J.n.md,J.n.pc⟩,J.hd,J.pv⟩
 have L1:Like {s with es:=es1,em:=em1} ⟨u.z,u.p,u.r,u.pc,u.md,u.sp,es2,em2⟩:=⟨Lk.r,Lk.p,Lk.sa,Lk.st,Lk.en,Lk.wa,Lk.pc,Lk.md⟩
 obtain⟨m1,e3,n3,t3,hv3,H3⟩:=kl w b c A {s with es:=es1,em:=em1} (h:Int) hh g2 (n2+2) (t2+6)
 obtain⟨m2,e4,n4,t4,hv4,H4⟩:=kl w b c (aU B) ⟨u.z,u.p,u.r,u.pc,u.md,u.sp,es2,em2⟩ (h:Int) hh g2 (n3+0) (t3+0)
 have hv3:ValI m1 (jQ s (h:Int)):=hv3
 have hv4:ValI m2 (jQ u (h:Int)):=hv4
 refine⟨{s with es:=es1,em:=em1},⟨u.z,u.p,u.r,u.pc,u.md,u.sp,es2,em2⟩,g2,n4+1,t4+0,GI fl f t t0 (.int (Zo v) nt) (.int (Zo (bV v).w) (Zd tc 5571)),ck (ad B.c1) (ad B.c2) B.c3,⟨hK1.more hm2,hK2⟩,⟨hl1,hl2⟩,⟨I1,J1⟩,L1,⟨⟨fun _ _=>rfl,fun _ _=>rfl,rfl,rfl,rfl⟩,⟨fun _ _=>rfl,fun _ _=>rfl,rfl,rfl,rfl⟩⟩,.inr rfl,?_⟩
 intro sE uE nE tE fo mo io HR
 have KT:=QY w b c (aL A B) s gh n t 120 (az [n0,n1,n2,n3,n4,nE]) (az [t0,t1,t2,t3,t4,tE]) (fun i _=>cond (Ze i 1) e1 (cond (Ze i 2) e2 (cond (Ze i 3) e3 e4))) (Zo v) (h:Int) (Zo (bV v).w) nt hh (Zd tc 5571) i mm B.c3 281 (Zd tc 5571) 281 (Zd tc 5571) B.ku f ml m1 m2 k1 k2 {s with es:=es1,em:=em1} sE u ⟨u.z,u.p,u.r,u.pc,u.md,u.sp,es2,em2⟩ uE g1 g2 [] fo mo io sl q fl
 cases fl<;>exact kc (KT
  (fk (fT ac hx)<|fk (qZ (kd H0))<|fk (NR ac)<|fk (qZ (kd H3))<|fk (qZ (kd H4))<|aa)
  (ab ⟨by kernel_rfl,bp (by kernel_rfl) (kd H1)⟩<|ab ⟨by kernel_rfl,bp (by kernel_rfl) (kd H2)⟩<|ab ⟨by kernel_rfl,kc (Ae (s:=s.r) (u:=u.r) (k1:=0) (k2:=0) (a1:=ad (A.a 5)) (a2:=ad (B.U 5)) (t1:=s.pc.2) (t2:=s.md.2) (t3:=u.pc.2) (t4:=u.md.2) (e1:=0) (e2:=0) (le _ _ _ _ _) Lk.r Lk.pc Lk.md)⟩<|ab ⟨by kernel_rfl,kc (vR (a1:=ad e3) (a2:=ad e4) (b1:=ad B.k1) (b2:=ad B.k2) (i1:=0) (i2:=0) (i3:=0) (i4:=0) (e1:=0) (e2:=0) (le _ _ _ _ _) hv3 hv4 hv1 hv2)⟩<|ab ⟨by kernel_rfl,bp (by kernel_rfl) (kd HR)⟩ aa) (fun x hx=>nomatch hx))
theorem F8(fl:Bool):TurnX w b c A B q h fl f hh sl ml mm i k1 k2 s u gh n t:=by
 cases hd:ed s (bV v) with
 |true=>exact CH h8 I J Lk hv1 hv2 hsl hx hk1 hk2 hz1 hz2 fl hd
 |false=>exact F9 h8 I J Lk hv1 hv2 hsl hx hk1 hk2 hz1 hz2 fl hd
end
theorem JP{α:Type}(l1 l2 l3:List α):(l1++(l2++l3)).Perm (l2++(l1++l3)):=by
 rw[←Qs,←Qs]
 exact List.perm_append_comm.append_right _
theorem KC(w:Z8)(b c:Bool)(A:AS)(B:LB)(q:Nat→Z4)(k1 k2:List Z6)(fl:Bool)(f:FS)(hd:Int)(hh:Nat)(sl:Array (Option Z6))(ml:List Z6)(mm i:Nat)(s u:BS)(hx:ml[i]?=none)(gh:gHs)(n t:Nat):
  TA w b c A 120 (Al B q) (Gk B) gh (Jy w b c A B k1 k2 fl f hd hh sl ml mm i u) s n t (.ok .next) [] (Jx w b c A B k1 k2 (wb (PP w b c) fl f hd hh (ad B.st) sl) (am ml mm) (fj i) u) s (n+2) t:=by
 let R:gHs:=[(ad B.st,am [.ref (ad B.k1),.ref (ad B.k2)] 0),(ad B.k1,am k1 0),(ad B.k2,am k2 0)]++bd w b c (aU B) u
 have key:=ZQ w b c ⟨eZ [(0,B.fr),(1,B.ma),(2,B.it),(3,B.c1),(4,B.c2)] (fun _=>0),A.k⟩ s (bd w b c A s++R) n t 80 (fun _=>n+2) (fun _=>t) (fun _ j=>cond (Ze j 0) (n+1) n) (wb (PP w b c) fl f hd hh (ad B.st) sl) (gg (ad (B.U 0))) (gg (ad (A.a 0))) ml mm i B.c3 q
  (ab ⟨by kernel_rfl,TriC.cast (kY (p:=prog2) (w:=W2 w b c) (S:=cn (PP w b c)) (B:=1971) (gh:=bd w b c A s++R) (n:=Zd n 1971) (t:=Zd t 5571) (C:=fun Γ=>Lim Γ 80) ac (it:=ad B.it) (l:=ad B.ma) (i:=i) (m:=mm) (xs:=ml) hx)
   (by kernel_rfl) rfl rfl (post1:=[(ad B.it,fj i),(ad B.ma,am ml mm),(Zd (n+1) 1971,g6 (Zd n 1971))]) (by rw[←nf n 1971 1]) (nf n 1971 2) rfl rfl rfl (by rw[show Zd n 1971+1=Zd (n+1) 1971 from nf n 1971 1];rfl)⟩ aa)
 have k2:=TriC.give key (X:=bd w b c A s++R) (gh:=gh) (gh':=[]) (fun y hy=>.inl hy) (fun y hy=>nomatch hy)
 refine cW k2 ?_ ?_
 ·exact JP [(ad B.fr,wb (PP w b c) fl f hd hh (ad B.st) sl),(ad B.ma,am ml mm),(ad B.it,cI (ad B.ma) i),(ad B.c1,gg (ad (B.U 0))),(ad B.c2,gg (ad (A.a 0)))] (bd w b c A s) R
 ·exact JP [(ad B.fr,wb (PP w b c) fl f hd hh (ad B.st) sl),(ad B.ma,am ml mm),(ad B.it,fj i),(ad B.c1,gg (ad (B.U 0))),(ad B.c2,gg (ad (A.a 0)))] (bd w b c A s) R
theorem KL{w:Z8}{b c:Bool}{A:AS}{bl:List (Xo×Z4)}(hb:unitsOf bl+640<700){cd:Xo}{gh X:gHs}{s:BS}{n t:Nat}{r:Xc}{gh' Y:gHs}{s':BS}{n' t':Nat}
  (H:TA w b c A 160 bl cd gh X s n t r gh' Y s' n' t'):TA w b c A 120 bl cd gh X s n t r gh' Y s' n' t':=
 TriC.mono (fun Γ h=>⟨⟨h.1.1,by rw[h.2];omega⟩,h.2⟩) H
theorem jp(e:Env)(p0 p1:Z4):unitsOf [(.func cj e,p1),(.builtin "claim.caller" {},p0)]+640<700:=by
 have h:=dF ((.func cj e,p1):Xo×Z4) [(.builtin "claim.caller" {},p0)]
 have h2:=dF ((.builtin "claim.caller" {},p0):Xo×Z4) []
 have h3:unitsOf ([]:List (Xo×Z4))=0:=rfl
 omega
theorem tQ(B:LB)(q:Nat→Z4):unitsOf (Al B q)+640<700:=jp _ _ _
inductive ForX (w:Z8) (b c:Bool) (A:AS) (B:LB) (q:Nat→Z4) (h:Nat) (hh:Nat) (ml:List Z6) (mm:Nat) (k1 k2:List Z6) (i:Nat) (fl:Bool) (f:FS) (sl:Array (Option Z6)) (s u:BS) (gh:gHs) (n t:Nat):Prop where
 |mk (sE uE:BS) (f':FS) (sl':Array (Option Z6)) (io:Obj) (nE tE:Nat) (h0_:HInv sE h∧HInv uE h) (h1_:Like sE uE) (h2_:TA w b c A 120 (Al B q) (Gk B) gh (Jy w b c A B k1 k2 fl f (h:Int) hh sl ml mm i u) s n t (.ok .next) [] (Jx w b c A B k1 k2 (wb (PP w b c) true f' (h:Int) hh (ad B.st) sl') (am ml mm) io uE) sE nE tE):ForX w b c A B q h hh ml mm k1 k2 i fl f sl s u gh n t
theorem Pb(w:Z8)(b c:Bool)(A:AS)(B:LB)(q:Nat→Z4){h:Nat}(h8:h∈H8)(hh:Nat)(ml:List Z6)(mm:Nat)(k1 k2:List Z6)(hm:∀i,i<ml.length→∃v nt:Nat,ml[i]?=some (.int (Zo v) nt)):∀(k i:Nat) (fl:Bool) (f:FS) (sl:Array (Option Z6)) (s u:BS) (gh:gHs) (n t:Nat),i+k=ml.length→(k=0→fl=true)→(sl=#[]∨sl=ck (ad B.c1) (ad B.c2) B.c3)→HInv s h→HInv u h→Like s u→ValI k1 (jQ s (h:Int))→ValI k2 (jQ u (h:Int))→
  KInv (PP w b c) s.es gh→KInv (PP w b c) u.es gh→s.es.toList.length+k≤1000→u.es.toList.length+k≤1000→ForX w b c A B q h hh ml mm k1 k2 i fl f sl s u gh n t:=by
 intro k
 induction k with
 |zero=>
  intro i fl f sl s u gh n t hi h0 hsl I J L v1 v2 hk1 hk2 hl1 hl2
  have e:=h0 rfl
  subst e
  exact⟨s,u,f,sl,fj i,n+2,t,⟨I,J⟩,L,KC w b c A B q k1 k2 true f (h:Int) hh sl ml mm i s u (List.getElem?_eq_none (by omega)) gh n t⟩
 |succ k ih=>
  intro i fl f sl s u gh n t hi h0 hsl I J L v1 v2 hk1 hk2 hl1 hl2
  obtain⟨v,nt,hx⟩:=hm i (by omega)
  obtain⟨s2,u2,gh1,n1,t1,f1,sl1,⟨a1,a2⟩,⟨b1,b2⟩,⟨I2,J2⟩,L2,⟨K1,K2⟩,hsl2,hrest⟩:=F8 (mm:=mm) (q:=q) (hh:=hh) h8 I J L v1 v2 hsl hx (n:=n) (t:=t) (f:=f) hk1 hk2 (by omega) (by omega) fl
  obtain⟨sE,uE,f',sl',io,nE,tE,IE,LE,H⟩:=ih (i+1) true f1 sl1 s2 u2 gh1 n1 t1 (by omega) (fun _=>rfl) hsl2 I2 J2 L2 (by rw[ly K1];exact v1) (by rw[ly K2];exact v2) a1 a2 (by omega) (by omega)
  exact⟨sE,uE,f',sl',io,nE,tE,IE,LE,KL (tQ B q) (hrest sE uE nE tE _ _ _ H)⟩
def ib:=LZ [10,10,1001,8,8,8,2001002,6003004,8,8]
def pA:=LZ [0,2,0,0,0,1006012,0,12,12,2003004,0,12,2,12,5003004,1500]
def pB:=LZ [8,0,1,0,0,0,1006012,0,12,12,2003004,12,2,12,5003004,1500]
section
variable(w:Z8)(b c:Bool)(A:AS)(s:BS)(gh:gHs)(n t L:Nat)(nn tt:Nat→Nat)(vv:Nat→Nat→Nat)(sd un hd:Int)(sq uq hh i ix nt mm:Nat)(f:FS)(ml:List Z6)(sE:BS)(fo mo io:Obj)(bl0:List (Xo×Z4))(q:Nat→Z4)
def pq(Y0:Z6):Nat×Obj:=(3,dO [ae w b c q5 (Zd (A.k 9) 5571) (zv s 768),ae w b c NQ (Zd (A.k 10) 5571) (zv s 770),ae w b c DD (Zd (A.k 11) 5571) (zv s 771),ae w b c DE (Zd (A.k 12) 5571) (zv s 772),ae w b c DF (Zd (A.k 13) 5571) Y0,ae w b c tu (Zd (A.k 14) 5571) (zv s 384),ae w b c DG (Zd (A.k 15) 5571) (zv s 2816),ae w b c DH (Zd (A.k 16) 5571) (zv s 2818),ae w b c DI (Zd (A.k 17) 5571) .none,ae w b c DJ (Zd (A.k 18) 5571) (zv s 3860),ae w b c DK (Zd (A.k 19) 5571) (rA A 4)] 11)
def uk:Z7:=ae w b c tI (f.k 0) (.int un uq)
def ul:Z7:=ae w b c qs (f.k 3) (f.2 3)
def uj:Z7:=ae w b c q5 (f.k 5) (f.2 5)
def Bl:Obj:=⟨.type "frame",none,.dict ⟨[uk w b c un uq f,ae w b c i6 (f.k 1) (.int hd hh),ae w b c gU (f.k 2) (rA A 0),ul w b c f,ae w b c oI (f.k 4) (f.2 4),uj w b c f,ae w b c qt (f.k 6) (f.2 6),ae w b c gA (f.k 7) (f.2 7),ae w b c xz (Zd t 5571) (.int (Zo i) nt)]⟩ 9,#[]⟩
def Bm:Obj:=⟨.type "frame",none,.dict ⟨[uk w b c un uq f,ae w b c i6 (f.k 1) (.int hd hh),ae w b c gU (f.k 2) (rA A 0),ul w b c f,ae w b c oI (f.k 4) (f.2 4),uj w b c f,ae w b c qt (f.k 6) (f.2 6),ae w b c gA (f.k 7) (f.2 7),ae w b c xz (f.k 8) (.int (Zo i) nt)]⟩ 9,#[]⟩
noncomputable def fV:Nat×Obj:=(10,⟨.type "cell",none,.cell (some (.int sd sq)),#[]⟩)
noncomputable def b7(Y0:Nat):Nat:=Zd (A.a Y0) 1971
def pu:Nat×Obj:=(9,⟨.type "list_iterator",none,.fields ⟨[rA A 8,.int (Nat.cast (ix+1)) 0]⟩,#[]⟩)
def Bn:Z6:=.int (Za (s.z 836).1 (Zc 4294967295 (aO 1 (Zo i)))) (Zd t 5589)
noncomputable def PT:List (Nat×Nat):=[(13,Zd (nn 0) 1971),(11,Zd n 1971)]
noncomputable def Cp(x0:Nat):List (Nat×Nat):=[(x0,Zd (tt 0) 5571),(0,Zd t 5571)]
def PU:Call:=⟨cB "list_iterator.__next__" [rA A 9],11,0,[(9,⟨.type "list_iterator",none,.fields ⟨[rA A 8,.int (Nat.cast ix) 0]⟩,#[]⟩),(8,am ml mm)],rV (.int (Zo i) nt),11,0,[(9,cI (b7 A 8) (ix+1)),(8,am ml mm)]⟩
def PV:Call:=⟨dq ec 9 (b7 A 9) (fh (b7 A 7) (b7 A 10)),12,21,[(0,d0 (PP w b c) A),(1,d1 (PP w b c) A s),(2,d2 (PP w b c) A),pq w b c A s (Bn s t i),(4,d4 (PP w b c) A s),(5,d5 (PP w b c) A s),(6,d6 (PP w b c) A s),(7,Bl w b c A t un hd uq hh i nt f),fV sd sq,(8,am ml mm),pu A ix],.ok .next,13,22,aj w b c A sE++[(7,fo),fV sd sq,(8,mo),(9,io)]⟩
def PW:List (List (Xo×Z4)):=[((.func ec (fh (b7 A 7) (b7 A 10)),q 0)::bl0)]
def PX:Bool:=(Xl (Za (aw (ah un 3) (Zo i)) 1) 1)
def PY:Bool:=(bne (Za (aw hd (Zo i)) 1) 0)
def Cq:List (Xo×Z4):=((.func ec (fh (b7 A 7) (b7 A 10)),q 0)::bl0)
def Cr:Xo:=(dq ec 9 (b7 A 9) (fh (b7 A 7) (b7 A 10)))
def PZ:List (Nat×Obj):=(aj w b c A s++[(7,aY ⟨GB (PP w b c) f (b7 A 0) un uq hd hh⟩ 8 #[]),(8,am ml mm),(9,cI (b7 A 8) ix),(10,⟨.type "cell",none,.cell (some (.int sd sq)),#[]⟩)])
def Lf:List (Nat×Obj):=(aj w b c A ⟨sE.z,sE.p,sE.r,sE.pc,sE.md,sE.sp,sE.es,sE.em⟩++[(7,fo),(8,mo),(9,io),fV sd sq])
def Lg:Call:=⟨dq ec 9 (b7 A 9) (fh (b7 A 7) (b7 A 10)),12,20,[(0,d0 (PP w b c) A),(1,d1 (PP w b c) A s),(2,d2 (PP w b c) A),pq w b c A s (.int (Zb (s.z 836).1 (aO 1 (Zo i))) (Zd t 5588)),(4,d4 (PP w b c) A s),(5,d5 (PP w b c) A s),(6,d6 (PP w b c) A s),(7,Bl w b c A t un hd uq hh i nt f),fV sd sq,(8,am ml mm),pu A ix],.ok .next,13,21,aj w b c A sE++[(7,fo),fV sd sq,(8,mo),(9,io)]⟩
def Lh:Bool:=(Xl (Za (aw (ah sd 5) (Zo i)) 1) 1)
def Li:Call:=⟨dq ec 9 (b7 A 9) (fh (b7 A 7) (b7 A 10)),12,21,[(0,d0 (PP w b c) A),(1,d1 (PP w b c) A s),(2,d2 (PP w b c) A),pq w b c A s (Bn s t i),(4,d4 (PP w b c) A s),(5,d5 (PP w b c) A s),(6,d6 (PP w b c) A s),(7,Bm w b c A un hd uq hh i nt f),fV sd sq,(8,am ml mm),pu A ix],.ok .next,13,22,aj w b c A sE++[(7,fo),fV sd sq,(8,mo),(9,io)]⟩
def wP:List (Nat×Obj):=(aj w b c A s++[(7,aY ⟨Et (PP w b c) f (b7 A 0) un uq hd hh⟩ 9 #[]),(8,am ml mm),(9,cI (b7 A 8) ix),(10,⟨.type "cell",none,.cell (some (.int sd sq)),#[]⟩)])
def Lj:Call:=⟨dq ec 9 (b7 A 9) (fh (b7 A 7) (b7 A 10)),12,20,[(0,d0 (PP w b c) A),(1,d1 (PP w b c) A s),(2,d2 (PP w b c) A),pq w b c A s (.int (Zb (s.z 836).1 (aO 1 (Zo i))) (Zd t 5588)),(4,d4 (PP w b c) A s),(5,d5 (PP w b c) A s),(6,d6 (PP w b c) A s),(7,Bm w b c A un hd uq hh i nt f),fV sd sq,(8,am ml mm),pu A ix],.ok .next,13,21,aj w b c A sE++[(7,fo),fV sd sq,(8,mo),(9,io)]⟩
include w b c A s gh n t L nn tt vv sd un hd sq uq hh i ix nt mm f ml sE fo mo io bl0 q
theorem QL(fl y z:Bool):jT w b c A gh L 40 (PT n nn) (Cp t tt (cond z 21 22)) [PU A i ix nt mm ml] [cond fl (cond z (Lj w b c A s t sd un hd sq uq hh i ix nt mm f ml sE fo mo io) (Li w b c A s t sd un hd sq uq hh i ix nt mm f ml sE fo mo io)) (cond z (Lg w b c A s t sd un hd sq uq hh i ix nt mm f ml sE fo mo io) (PV w b c A s t sd un hd sq uq hh i ix nt mm f ml sE fo mo io))] (PW A bl0 q) [(aG 1 (Zo i),false),(cond y (Lh sd i) (PX un i),z),(cond y (ax sd 5) (ax un 3),false),(PY hd i,y)] (Cq A bl0 q) (Cr A) 11 (cond fl (wP w b c A s sd un hd sq uq hh ix mm f ml) (PZ w b c A s sd un hd sq uq hh ix mm f ml)) (.ok Flow.next) 13 (Lf w b c A sd sq sE fo mo io) (cond z 21 22):=by
 cases fl<;>cases y<;>cases z
 ·exact cG (hm (ib++[8,0,2,8,2,8]++pA)) rfl rfl fun p=>by kernel_rfl
 ·exact cG (hm (ib++[8,0,2,8,2]++pB)) rfl rfl fun p=>by kernel_rfl
 ·exact cG (hm (ib++[8,0,1,11,2,8]++pA)) rfl rfl fun p=>by kernel_rfl
 ·exact cG (hm (ib++[8,0,1,11,2]++pB)) rfl rfl fun p=>by kernel_rfl
 ·exact cG (hm (ib++[8,0,2,8,2,8]++pA)) rfl rfl fun p=>by kernel_rfl
 ·exact cG (hm (ib++[8,0,2,8,2]++pB)) rfl rfl fun p=>by kernel_rfl
 ·exact cG (hm (ib++[8,0,1,11,2,8]++pA)) rfl rfl fun p=>by kernel_rfl
 ·exact cG (hm (ib++[8,0,1,11,2]++pB)) rfl rfl fun p=>by kernel_rfl
theorem QK:DT w b c A gh L 40 [(13,Zd (nn 0) 1971),(12,Zd (vv 0 0) 1971),(11,Zd n 1971)] (Cp t tt 1) [⟨cB "list_iterator.__next__" [rA A 9],11,0,[(9,⟨.type "list_iterator",none,.fields ⟨[rA A 8,.int (Nat.cast ix) 0]⟩,#[]⟩),(8,am ml mm)],.error (.ref (Zd (vv 0 0) 1971)),13,1,[(9,fj ix),(8,am ml mm),(12,g6 (Zd (vv 0 1) 1971))]⟩] (Cq A bl0 q) (Cr A) 11 (wP w b c A s sd un hd sq uq hh ix mm f ml) (.ok Flow.next) 13 (aj w b c A s++[(7,⟨.type "frame",none,.dict ⟨[uk w b c un uq f,ae w b c i6 (f.k 1) (.int hd hh),ae w b c gU (f.k 2) (rA A 0),ul w b c f,ae w b c oI (f.k 4) (f.2 4),uj w b c f,ae w b c qt (f.k 6) (f.2 6),ae w b c gA (f.k 7) (f.2 7),ae w b c xz (f.k 8) (f.2 8)]⟩ 9,#[]⟩),(8,am ml mm),(9,⟨.type "list_iterator",none,.fields ⟨[.none,.int (Nat.cast ix) 0]⟩,#[]⟩),fV sd sq]) 1:=Ha (hm [10,10,1001,13]) rfl rfl fun p=>by kernel_rfl
end
def Qi(w:Z8)(b c:Bool)(A:AS)(s:BS)(gh:gHs)(n t L:Nat)(un hd:Int)(uq hh rm cl:Nat)(f:FS)(ra rt:Nat→Nat)(rw:Nat→Int):BS:=⟨up (up (up (up s.z 768 (Za (Za (rw 768) 4294967295) 924074) (Zd t 6010)) 770 (Za (Za (rw 770) 4294967295) 46079) (Zd t 5647)) 771 (Za (Za (rw 771) 4294967295) 546) (Zd t 5608)) 772 (Za (Za (rw 772) 4294967295) 2730) (Zd t 5891),up (up (up (up (up (up (up (up (up (up (up s.p 261 (Za (Za (rw 261) 4294967295) 4294967293) (Zd t 6054)) 262 (Za (Za (rw 262) 4294967295) 7) (Zd t 5969)) 320 (Za (rw 320) 4294967295) (Zd t 6082)) 321 (Za (Za (rw 321) 4294967295) 4294967292) (Zd t 6137)) 322 (Za (rw 322) 4294967295) (Zd t 6165)) 773 (Za (Za (rw 773) 4294967295) 4294967293) (Zd t 5687)) 774 (Za (Za (rw 774) 4294967295) 7) (Zd t 5930)) 832 (Za (rw 832) 4294967295) (Zd t 5715)) 833 (Za (Za (rw 833) 4294967295) 4294967292) (Zd t 5770)) 834 (Za (rw 834) 4294967295) (Zd t 5798)) 835 (Za (rw 835) 4294967295) (Zd t 5838),s.r,s.pc,s.md,s.sp,s.es,s.em⟩
def dz:=LZ [1005008,2001002,6003004,8,8,0,0,0]
def fA:=LZ [5,5,5,1000,5,10,9010009,10]
def dA:=LZ [2003004,5,5,5,1000,5]
section
variable(w:Z8)(b c:Bool)(A:AS)(s:BS)(gh:gHs)(n t L:Nat)(un hd:Int)(uq hh rm cl:Nat)(f:FS)(ra rt:Nat→Nat)(rw:Nat→Int)
noncomputable def dy(Y0:Nat):Z6:=.ref (Zd (A.a Y0) 1971)
include w b c A s gh n t L un hd uq hh rm cl f ra rt rw
theorem ZU:fN w b c A gh L 40 [(25,Zd n 1971)] [(0,Zd t 5571)] [(Xl (Za (Za (Za (rw 768) 4294967295) 924074) 6144) 4096,false)] (dq ec 8 (Zd (A.a 9) 1971) (fh (Zd (A.a 7) 1971) cl)) 25 (aj w b c A s++[(7,aY ⟨Pd (PP w b c) f (Zd (A.a 0) 1971) un uq hd hh⟩ 6 #[]),(8,am [dy A 10,dy A 11,dy A 12,dy A 13,dy A 14,dy A 15,dy A 16,dy A 17,dy A 18,dy A 19,dy A 20,dy A 21,dy A 22,dy A 23,dy A 24] rm),(9,cI (Zd (A.a 8) 1971) 0),(10,tO [.int 771 (Zd (ra 771) 5571),.int (rw 771) (rt 771)]),(11,tO [.int 770 (Zd (ra 770) 5571),.int (rw 770) (rt 770)]),(12,tO [.int 773 (Zd (ra 773) 5571),.int (rw 773) (rt 773)]),(13,tO [.int 832 (Zd (ra 832) 5571),.int (rw 832) (rt 832)]),(14,tO [.int 833 (Zd (ra 833) 5571),.int (rw 833) (rt 833)]),(15,tO [.int 834 (Zd (ra 834) 5571),.int (rw 834) (rt 834)]),(16,tO [.int 835 (Zd (ra 835) 5571),.int (rw 835) (rt 835)]),(17,tO [.int 772 (Zd (ra 772) 5571),.int (rw 772) (rt 772)]),(18,tO [.int 774 (Zd (ra 774) 5571),.int (rw 774) (rt 774)]),(19,tO [.int 262 (Zd (ra 262) 5571),.int (rw 262) (rt 262)]),(20,tO [.int 768 (Zd (ra 768) 5571),.int (rw 768) (rt 768)]),(21,tO [.int 261 (Zd (ra 261) 5571),.int (rw 261) (rt 261)]),(22,tO [.int 320 (Zd (ra 320) 5571),.int (rw 320) (rt 320)]),(23,tO [.int 321 (Zd (ra 321) 5571),.int (rw 321) (rt 321)]),(24,tO [.int 322 (Zd (ra 322) 5571),.int (rw 322) (rt 322)])]) (.ok Flow.next) 177 (aj w b c A ⟨up (up (up (up s.z 768 (Za (Za (rw 768) 4294967295) 924074) (Zd t 6010)) 770 (Za (Za (rw 770) 4294967295) 46079) (Zd t 5647)) 771 (Za (Za (rw 771) 4294967295) 546) (Zd t 5608)) 772 (Za (Za (rw 772) 4294967295) 2730) (Zd t 5891),up (up (up (up (up (up (up (up (up (up (up s.p 261 (Za (Za (rw 261) 4294967295) 4294967293) (Zd t 6054)) 262 (Za (Za (rw 262) 4294967295) 7) (Zd t 5969)) 320 (Za (rw 320) 4294967295) (Zd t 6082)) 321 (Za (Za (rw 321) 4294967295) 4294967292) (Zd t 6137)) 322 (Za (rw 322) 4294967295) (Zd t 6165)) 773 (Za (Za (rw 773) 4294967295) 4294967293) (Zd t 5687)) 774 (Za (Za (rw 774) 4294967295) 7) (Zd t 5930)) 832 (Za (rw 832) 4294967295) (Zd t 5715)) 833 (Za (Za (rw 833) 4294967295) 4294967292) (Zd t 5770)) 834 (Za (rw 834) 4294967295) (Zd t 5798)) 835 (Za (rw 835) 4294967295) (Zd t 5838),s.r,s.pc,s.md,s.sp,s.es,s.em⟩++[(7,⟨.type "frame",none,.dict ⟨[ae w b c tI (f.k 0) (.int un uq),ae w b c i6 (f.k 1) (.int hd hh),ae w b c gU (f.k 2) (rA A 0),ae w b c qs (f.k 3) (f.2 3),ae w b c oI (f.k 4) (f.2 4),ae w b c q5 (f.k 5) (f.2 5),ae w b c qt (Zd t 5571) (.int 322 (Zd (ra 322) 5571)),ae w b c gA (Zd t 5572) (.int (rw 322) (rt 322))]⟩ 8,#[]⟩),(8,lO [rA A 10,rA A 11,rA A 12,rA A 13,rA A 14,rA A 15,rA A 16,rA A 17,rA A 18,rA A 19,rA A 20,rA A 21,rA A 22,rA A 23,rA A 24] rm),(9,⟨.type "list_iterator",none,.fields ⟨[.none,.int 15 0]⟩,#[]⟩),(10,tO [.int 771 (Zd (ra 771) 5571),.int (rw 771) (rt 771)]),(11,tO [.int 770 (Zd (ra 770) 5571),.int (rw 770) (rt 770)]),(12,tO [.int 773 (Zd (ra 773) 5571),.int (rw 773) (rt 773)]),(13,tO [.int 832 (Zd (ra 832) 5571),.int (rw 832) (rt 832)]),(14,tO [.int 833 (Zd (ra 833) 5571),.int (rw 833) (rt 833)]),(15,tO [.int 834 (Zd (ra 834) 5571),.int (rw 834) (rt 834)]),(16,tO [.int 835 (Zd (ra 835) 5571),.int (rw 835) (rt 835)]),(17,tO [.int 772 (Zd (ra 772) 5571),.int (rw 772) (rt 772)]),(18,tO [.int 774 (Zd (ra 774) 5571),.int (rw 774) (rt 774)]),(19,tO [.int 262 (Zd (ra 262) 5571),.int (rw 262) (rt 262)]),(20,tO [.int 768 (Zd (ra 768) 5571),.int (rw 768) (rt 768)]),(21,tO [.int 261 (Zd (ra 261) 5571),.int (rw 261) (rt 261)]),(22,tO [.int 320 (Zd (ra 320) 5571),.int (rw 320) (rt 320)]),(23,tO [.int 321 (Zd (ra 321) 5571),.int (rw 321) (rt 321)]),(24,tO [.int 322 (Zd (ra 322) 5571),.int (rw 322) (rt 322)])]) 609:=de (hm ([10,9010009,10,10,3011026,28]++dz++[0,1008029,0,29,6003004,29,29,0,0,0,1006030,0,30,0,30,7031000,0,0,30,1009000,30,0,0,0,29,7032000,0,0,29,0,1004029]++dA++[29,0,29,0,29,6003004,29,29,0,0,0,1006033,0,33,0,33,0,33,0,33,0,33,5003004,10,9010009,10,10,3012034,36]++dz++[0,1008037,0,37,6003004,37,37,0,0,0,1006038,0,38,0,38,7039000,0,0,38,1009000,38,0,0,0,37,7040000,0,0,37,0,1004037]++dA++[37,0,37,0,37,6003004,37,37,0,0,0,1006041,0,41,0,41,0,41,0,41,5003004,10,9010009,10,10,3013042,44]++dz++[0,1008045,0,45,6003004,45,45,0,0,0,1006046,0,46,0,46,7047000,0,0,46,1009000,46,0,0,0,45,7048000,0,0,45,0,1004045]++dA++[45,6003004,45,45,0,0,0,1006049,0,49,50,50,50,1000,50,0,0,49,7051000,0,45,2003004,45]++fA++[10,3014052,54]++dz++[0,1008055,0,55,6003004,55,55,0,0,0,1006056,0,56,0,56,7057000,0,0,56,1009000,56,0,0,0,55,7058000,0,0,55,0,1004055]++dA++[55,6003004,55,55,0,0,0,1006059,0,59,60,60,60,1000,60,0,59,61,61,61,1000,61,0,59,62,62,62,1000,62,0,59,55,2003004,55]++fA++[10,3015063,65]++dz++[0,1008066,0,66,6003004,66,66,0,0,0,1006067,0,67,0,67,7068000,0,0,67,1009000,67,0,0,0,66,7069000,0,0,66,0,1004066]++dA++[66,6003004,66,66,0,0,0,1006070,0,70,71,71,71,1000,71,0,70,72,72,72,1000,72,0,70,73,73,73,1000,73,0,70,0,66,2003004,66]++fA++[10,3016074,76]++dz++[0,1008077,0,77,6003004,77,77,0,0,0,1006078,0,78,0,78,7079000,0,0,78,1009000,78,0,0,0,77,7080000,0,0,77,0,1004077]++dA++[77,6003004,77,77,0,0,0,1006081,0,81,82,82,82,1000,82,0,81,83,83,83,1000,83,0,81,84,84,84,1000,84,0,81,77,2003004,77]++fA++[10,3017085,87]++dz++[0,1008088,0,88,6003004,88,88,0,0,0,1006089,0,89,0,89,7090000,0,0,89,1009000,89,0,0,0,88,7091000,0,0,88,0,1004088]++dA++[88,6003004,88,88,0,0,0,1006092,0,92,93,93,93,1000,93,0,92,94,94,94,1000,94,0,92,95,95,95,1000,95,0,92,88,2003004,88]++fA++[10,3018096,98]++dz++[0,1008099,0,99,6003004,99,99,0,0,0,1006100,0,100,0,100,7101000,0,0,100,1009000,100,0,0,0,99,7102000,0,0,99,0,1004099]++dA++[99,0,99,0,99,6003004,99,99,0,0,0,1006103,0,103,0,103,0,103,0,103,0,103,0,103,5003004,10,9010009,10,10,3019104,106]++dz++[0,1008107,0,107,6003004,107,107,0,0,0,1006108,0,108,0,108,7109000,0,0,108,1009000,108,0,0,0,107,7110000,0,0,107,0,1004107]++dA++[107,6003004,107,107,0,0,0,1006111,0,111,112,112,112,1000,112,0,111,113,113,113,1000,113,0,111,0,107,2003004,107]++fA++[10,3020114,116]++dz++[0,1008117,0,117,6003004,117,117,0,0,0,1006118,0,118,0,118,7119000,0,0,118,1009000,118,0,0,0,117,7120000,0,0,117,0,1004117]++dA++[117,6003004,117,117,0,0,0,1006121,0,121,122,122,122,1000,122,0,121,123,123,123,1000,123,0,121,0,117,2003004,117]++fA++[10,3021124,126]++dz++[0,1008127,0,127,6003004,127,127,0,0,0,1006128,0,128,0,128,7129000,0,0,128,1009000,128,0,0,0,127,7130000,0,0,127,0,1004127]++dA++[127,0,127,0,127,6003004,127,127,0,0,0,1006131,0,131,0,0,131,2003004,131,0,0,0,132,9132000,0,132,132,132,0,0,0,2,132,131,5003004,10,9010009,10,10,3022133,135]++dz++[0,1008136,0,136,6003004,136,136,0,0,0,1006137,0,137,0,137,7138000,0,0,137,1009000,137,0,0,0,136,7139000,0,0,136,0,1004136]++dA++[136,6003004,136,136,0,0,0,1006140,0,140,141,141,141,1000,141,0,0,140,7142000,0,136,2003004,136]++fA++[10,3023143,145]++dz++[0,1008146,0,146,6003004,146,146,0,0,0,1006147,0,147,0,147,7148000,0,0,147,1009000,147,0,0,0,146,7149000,0,0,146,0,1004146]++dA++[146,6003004,146,146,0,0,0,1006150,0,150,151,151,151,1000,151,0,150,152,152,152,1000,152,0,150,153,153,153,1000,153,0,150,146,2003004,146]++fA++[10,3024154,156]++dz++[0,1008157,0,157,6003004,157,157,0,0,0,1006158,0,158,0,158,7159000,0,0,158,1009000,158,0,0,0,157,7160000,0,0,157,0,1004157]++dA++[157,6003004,157,157,0,0,0,1006161,0,161,162,162,162,1000,162,0,161,163,163,163,1000,163,0,161,164,164,164,1000,164,0,161,0,157,2003004,157]++fA++[10,3025165,167]++dz++[0,1008168,0,168,6003004,168,168,0,0,0,1006169,0,169,0,169,7170000,0,0,169,1009000,169,0,0,0,168,7171000,0,0,168,0,1004168]++dA++[168,6003004,168,168,0,0,0,1006172,0,172,173,173,173,1000,173,0,172,174,174,174,1000,174,0,172,175,175,175,1000,175,0,172,168,2003004,168]++fA++[177])) rfl rfl fun bl p=>by kernel_rfl
end
section
variable(w:Z8)(b c:Bool)(A:AS)(s:BS)(gh:gHs)(n t L:Nat)
include w b c A s gh n t L
theorem Ec(la th:Nat)(hv:Int) :
 TX w b c (40+L) (.call (.ref 1937) ⟨[.none,.ref (Zd la 1971),.int hv th],[]⟩) (Ga gh) (bz (bx A) [(0,Zd n 1971)]) (Ka t) 0 [] (.ok (.ret (.ref (Zd n 1972)))) 14 [(1,iO 1937 (Zd n 1971)),(0,dO [ae w b c NF (Zd t 5576) .none,ae w b c NG (Zd t 5578) (.ref (Zd la 1971)),ae w b c NH (Zd t 5587) (.ref (Zd n 1975)),ae w b c NK (Zd t 5655) (.ref (Zd n 1978)),ae w b c NL (Zd t 5659) (.ref (Zd n 1982)),ae w b c ⟨⟨[112,99]⟩⟩ (Zd t 5662) (.int 0 (Zd t 5660)),ae w b c NN (Zd t 5664) (.int 3 4331),ae w b c NO (Zd t 5666) (.ref (Zd n 1983)),ae w b c NP (Zd t 5668) (.ref (Zd n 1984))] 9),(7,iO 1544 (Zd n 1977)),(6,dO [ae w b c q5 (Zd t 5592) (.int 0 (Zd t 5590)),ae w b c NQ (Zd t 5595) (.int 0 (Zd t 5593)),ae w b c DD (Zd t 5598) (.int 0 (Zd t 5596)),ae w b c DE (Zd t 5601) (.int 0 (Zd t 5599)),ae w b c DF (Zd t 5604) (.int 0 (Zd t 5602)),ae w b c tu (Zd t 5607) (.int 0 (Zd t 5605)),ae w b c DG (Zd t 5610) (.int 0 (Zd t 5608)),ae w b c DH (Zd t 5613) (.int 0 (Zd t 5611)),ae w b c DI (Zd t 5615) .none,ae w b c DJ (Zd t 5617) (.int hv th),ae w b c DK (Zd t 5653) (.ref (Zd n 1980))] 11),(9,dO [⟨261,.int 261 (Zd t 5618),.int 0 (Zd t 5619)⟩,⟨262,.int 262 (Zd t 5620),.int 7 4543⟩,⟨320,.int 320 (Zd t 5621),.int 0 (Zd t 5622)⟩,⟨321,.int 321 (Zd t 5623),.int 0 (Zd t 5624)⟩,⟨322,.int 322 (Zd t 5625),.int 0 (Zd t 5626)⟩,⟨323,.int 323 (Zd t 5627),.int 0 (Zd t 5628)⟩,⟨773,.int 773 (Zd t 5629),.int 0 (Zd t 5630)⟩,⟨774,.int 774 (Zd t 5631),.int 7 4543⟩,⟨832,.int 832 (Zd t 5632),.int 0 (Zd t 5633)⟩,⟨833,.int 833 (Zd t 5634),.int 0 (Zd t 5635)⟩,⟨834,.int 834 (Zd t 5636),.int 0 (Zd t 5637)⟩,⟨835,.int 835 (Zd t 5638),.int 0 (Zd t 5639)⟩] 12),(11,lO (List.replicate 32 (.int 0 (Zd t 5656))) 0),(12,dO [] 0)] 98:=
 lF (H:=hm [0,0,0,0,0,0,0,0,0,0,0,0,0,0,0,0,0,0,0,0,0,0,0,0,0,0,2,0,2,0,0,0,0,0,0,0,3,3,3,3,3,3,3,3,0,3,3,2,0,0,0,2,0,2,0,2,0,0,0,2,0,1,1,1,3,3,2,0,0,0,2,0,2,0,2,0,0,0,2,0,1,1,1,0,3,3,0,0,0,0,0,0,0,0,0,0,0,0,0,0,0,0,0,0,0,0,0,0,0,0,0,0,0,0,5,0,5,0,0,0,0,0,0,6,6,6,6,6,6,0,6,6,5,0,0,0,5,0,5,0,5,0,0,0,5,0,4,4,4,6,6,5,0,0,0,5,0,5,0,5,0,0,0,5,0,4,4,4,3,2,0,0,0,2,0,2,0,2,0,0,0,2,0,1,1,1,0,3,0,0,0,0,0,0,0,0,0,0,0,0,0,0,0,0,0,0,0,0,0,0,0,0,0,0,0,0,8,0,8,0,0,0,0,0,0,0,9,9,9,9,0,9,8,0,0,0,8,0,8,0,8,0,0,0,8,0,7,7,7,9,8,0,0,0,8,0,8,0,8,0,0,0,8,0,7,7,7,9,8,0,0,0,8,0,8,0,8,0,0,0,8,0,7,7,7,9,8,0,0,0,8,0,8,0,8,0,0,0,8,0,7,7,7,9,8,0,0,0,8,0,8,0,8,0,0,0,8,0,7,7,7,9,8,0,0,0,8,0,8,0,8,0,0,0,8,0,7,7,7,9,8,0,0,0,8,0,8,0,8,0,0,0,8,0,7,7,7,9,8,0,0,0,8,0,8,0,8,0,0,0,8,0,7,7,7,9,8,0,0,0,8,0,8,0,8,0,0,0,8,0,7,7,7,9,9,8,0,0,0,8,0,8,0,8,0,0,0,8,0,7,7,7,0,0,10,10,10,10,10,10,10,10,10,10,10,10,10,10,10,10,10,10,10,10,10,10,10,10,10,10,10,10,10,10,10,10,10,10,10,10,10,10,10,10,10,10,10,10,10,10,10,10,9,8,0,0,0,8,0,8,0,8,0,0,0,8,0,7,7,7,3,2,0,0,0,2,0,2,0,2,0,0,0,2,0,1,1,1,11,11,11,11,11,3,2,0,0,0,2,0,2,0,2,0,0,0,2,0,1,1,1,3,2,0,0,0,2,0,2,0,2,0,0,0,2,0,1,1,1,0,3,2,0,0,0,2,0,2,0,2,0,0,0,2,0,1,1,1,3,2,0,0,0,2,0,2,0,2,0,0,0,2,0,1,1,1,3,2,0,0,0,2,0,2,0,2,0,0,0,2,0,1,1,1]) (calls:=[]) nMm (lu:=[]) nMm rfl rfl (fun bl p=>by kernel_rfl) (cs:=[]) nMm bS
end
noncomputable def onB(sd un h i:Nat):Bool:=cond (Zf h i) (Zf (sd*5) i) (Zf (un*3) i)
def wstep(sd un h w i:Nat):Nat:=cond (onB sd un h i) (w ||| 2^i) (w &&& (4294967295-2^i))
def wrun(sd un h:Nat):Nat→List Nat→Nat
  |w,[]=>w
  |w,i::l=>wrun sd un h (wstep sd un h w i) l
noncomputable def LN:List Nat:=[1,3,5,7,9,11]
theorem BZ:∀i∈LN,2^i<2^32:=by decide
theorem Gg{sd un h w i:Nat}(hi:i∈LN)(hw:w<2^32):wstep sd un h w i<2^32:=by
  unfold wstep
  cases onB sd un h i
  · exact Zt Nat.and_le_left hw
  · exact Nat.or_lt_two_pow hw (BZ i hi)
theorem wY{sd un h:Nat}:∀(l:List Nat) (w:Nat),(∀i∈l,i∈LN)→w<2^32→wrun sd un h w l<2^32
  |[],w,_,hw=>hw
  |i::l,w,hl,hw=>wY l _ (fun j hj=>hl j (Qp _ hj)) (Gg (hl i List.mem_cons_self) hw)
theorem KM:∀h∈H8,∀i∈LN,Zf h i=false→2^i &&& h=0∧(4294967295-2^i) &&& h=h:=by decide
theorem tP(a b c:Nat):(a &&& b) &&& c=(a &&& c) &&& b:=by rw[Zq,Z1 b c,←Zq]
theorem zZ{sd un un' h w w' i:Nat}(h8:h∈H8)(hi:i∈LN)(e:w &&& h=w' &&& h):wstep sd un h w i &&& h=wstep sd un' h w' i &&& h:=by
  unfold wstep onB
  cases hb:Zf h i with
  |true=>
    cases Zf (sd*5) i
    · show (w &&& _) &&& h=(w' &&& _) &&& h
      rw[tP w,tP w',e]
    · show (w ||| _) &&& h=(w' ||| _) &&& h
      rw[Zl,Zl,e]
  |false=>
    obtain⟨h1,h2⟩:=KM h h8 i hi hb
    have key:∀(x:Nat) (b:Bool),(cond b (x ||| 2^i) (x &&& (4294967295-2^i))) &&& h=x &&& h:=fun x b=>by
      cases b
      · show (x &&& _) &&& h=x &&& h
        rw[Zq,h2]
      · show (x ||| _) &&& h=x &&& h
        rw[Zl,h1,Nat.or_zero]
    exact(key w _).trans (e.trans (key w' _).symm)
theorem rN{sd un un' h:Nat}(h8:h∈H8):∀(l:List Nat) (w w':Nat),(∀i∈l,i∈LN)→w &&& h=w' &&& h→wrun sd un h w l &&& h=wrun sd un' h w' l &&& h
  |[],w,w',_,e=>e
  |i::l,w,w',hl,e=>rN h8 l _ _ (fun j hj=>hl j (Qp _ hj)) (zZ h8 (hl i List.mem_cons_self) e)
theorem Kb{x:Int}{a k:Nat}(hx:x=a):(bne (Za (aw x (Zo k)) 1) 0)=Zf a k:=by
  subst hx
  have:=nA a k
  rw[show aw (a:Int) (Zo k)=aw (a:Int) (k:Int) from rfl,this]
  cases Zf a k<;>rfl
theorem JY{x:Int}{a k:Nat}(hx:x=a):(Xl (Za (aw x (Zo k)) 1) 1)=Zf a k:=by
  subst hx
  have:=nA a k
  rw[show aw (a:Int) (Zo k)=aw (a:Int) (k:Int) from rfl,this]
  cases Zf a k<;>rfl
theorem hF(x:Int){y:Int}(h:decide (Builtin.Int.intBits y>shortFactorBits)=false):ax x y=false:=by
  unfold ax
  rw[h]
  simp
theorem uD:∀i∈LN,aO 1 (Zo i)=((2^i:Nat):Int)∧aG 1 (Zo i)=false:=by
  intro i hi
  refine⟨?_,fE 1 i (by decide) ?_⟩
  · have:=du 1 i
    rw[Nat.one_mul]at this
    exact this
  · have:∀i∈LN,i≤1000:=by decide
    exact this i hi
theorem orL{x:Int}{w i:Nat}(hx:x=w)(hi:i∈LN):Zb x (aO 1 (Zo i))=((w ||| 2^i:Nat):Int):=by
  rw[(uD i hi).1,hx];exact b9 w _
theorem clL{x:Int}{w i:Nat}(hx:x=w)(hi:i∈LN):Za x (Zc 4294967295 (aO 1 (Zo i)))=((w &&& (4294967295-2^i):Nat):Int):=by
  rw[(uD i hi).1,wZ (BZ i hi),hx];exact ay w _
noncomputable abbrev UC(sd:Int)(sq:Nat):Obj:=⟨.type "cell",none,.cell (some (.int sd sq)),#[]⟩
def Pe(P:Z5)(fl:Bool)(f:FS)(co:Nat)(un:Int)(uq:Nat)(hd:Int)(hh:Nat):Obj:=cond fl (aY ⟨Et P f co un uq hd hh⟩ 9 #[]) (aY ⟨GB P f co un uq hd hh⟩ 8 #[])
def aP(A:AS)(fr ls it cl:Nat):AS:=⟨eZ [(7,fr),(8,ls),(9,it),(10,cl)] A.a,A.k⟩
section
variable(w:Z8)(b c:Bool)(A:AS)(fr ls it cl:Nat)(bl0:List (Xo×Z4))(q:Nat→Z4)(sd un h:Nat)(sq uq hh:Nat)(ml:List Z6)(mm:Nat)
abbrev UB:List (Xo×Z4):=(.func ec (fh (ad fr) (ad cl)),q 0)::bl0
abbrev Gi(L:Nat)(fl:Bool)(f:FS)(ix:Nat)(s:BS)(n t:Nat)(f':FS)(io:Obj)(sE:BS)(n' t':Nat):Prop:=
  TA w b c A L (UB fr cl bl0 q) (dq ec 9 (ad it) (fh (ad fr) (ad cl))) [] [(ad fr,Pe (PP w b c) fl f (ad (A.a 0)) (Zo un) uq (Zo h) hh),(ad ls,am ml mm),(ad it,cI (ad ls) ix),(ad cl,UC (Zo sd) sq)] s n t (.ok .next)
   [] [(ad fr,Pe (PP w b c) true f' (ad (A.a 0)) (Zo un) uq (Zo h) hh),(ad ls,am ml mm),(ad it,io),(ad cl,UC (Zo sd) sq)] sE n' t'
inductive SpotX (fl:Bool) (f:FS) (ix:Nat) (es:List Nat) (s:BS) (wv n t:Nat):Prop where
  |mk (z:Nat→Int×Nat) (f':FS) (io:Obj) (n' t':Nat) (h0_:∀k,(z k).1=bc (vz s) 836 ((wrun sd un h wv es:Nat):Int) k) (h1_:Gi w b c A fr ls it cl bl0 q sd un h sq uq hh ml mm 80 fl f ix s n t f' io ⟨z,s.p,s.r,s.pc,s.md,s.sp,s.es,s.em⟩ n' t'):SpotX fl f ix es s wv n t
noncomputable def fK9(fl:Bool)(f:FS)(t:Nat):List Nat:=[f.k 0,f.k 1,f.k 2,f.k 3,f.k 4,f.k 5,f.k 6,f.k 7,cond fl (f.k 8) (Zd t 5571)]
noncomputable def fV9(f:FS)(x:Z6):List Z6:=[f.v 0,f.v 1,f.v 2,f.v 3,f.v 4,f.v 5,f.v 6,f.v 7,x]
theorem TQ{M:Model}{S:HT}{B:Nat}{bl:List (Xo×Z4)}(hb:unitsOf bl+480<700){cd:Xo}{gh X:gHs}{n t:Nat}{r:Xc}{gh' Y:gHs}{n' t':Nat}
    (H:TriAt M S B 120 bl cd gh X n t r gh' Y n' t'):TriAt M S B 80 bl cd gh X n t r gh' Y n' t':=
  TriC.mono (fun Γ h=>⟨⟨h.1.1,by rw[h.2];omega⟩,h.2⟩) H
theorem sG{α:Type}(l:List α)(a b c d:α):(l++[a,b,c,d]).Perm (l++[a,d,b,c]):=
  List.Perm.append_left l (List.Perm.cons a (Qn (l₁:=[b,c]) (l₂:=[d])))
inductive StepX (fl:Bool) (f:FS) (ix i:Nat) (s:BS) (wv n t:Nat):Prop where
  |mk (z:Nat→Int×Nat) (f1:FS) (t1:Nat) (h0_:∀k,(z k).1=bc (vz s) 836 ((wstep sd un h wv i:Nat):Int) k) (h1_:∀(sE:BS) (n' t':Nat) (f':FS) (io:Obj),Gi w b c A fr ls it cl bl0 q sd un h sq uq hh ml mm 80 true f1 (ix+1) ⟨z,s.p,s.r,s.pc,s.md,s.sp,s.es,s.em⟩ (n+1) t1 f' io sE n' t'→
     Gi w b c A fr ls it cl bl0 q sd un h sq uq hh ml mm 120 fl f ix s n t f' io sE n' t'):StepX fl f ix i s wv n t
theorem ZY(fl y z:Bool)(f:FS){ix i nt:Nat}(s:BS){wv n t:Nat}(hi:i∈LN)(hw:(s.z 836).1=(wv:Int))(hx:ml[ix]?=some (.int (Zo i) nt))(hy:Zf h i=y)(hz:Zf (cond y (sd*5) (un*3)) i=z):StepX w b c A fr ls it cl bl0 q sd un h sq uq hh ml mm fl f ix i s wv n t:=by
  have e:wstep sd un h wv i=cond z (wv ||| 2^i) (wv &&& (4294967295-2^i)):=by
    unfold wstep onB
    rw[hy,show cond y ((sd*5).testBit i) ((un*3).testBit i)=z by cases y<;>exact hz]
  have ev:cond z (Zb (s.z 836).1 (aO 1 (Zo i))) (Za (s.z 836).1 (Zc 4294967295 (aO 1 (Zo i))))=((wstep sd un h wv i:Nat):Int):=by
    rw[e]
    cases z
    · exact clL hw hi
    · exact orL hw hi
  refine⟨up s.z 836 (cond z (Zb (s.z 836).1 (aO 1 (Zo i))) (Za (s.z 836).1 (Zc 4294967295 (aO 1 (Zo i))))) (Zd t (cond z 5588 5589)),⟨ji (fK9 fl f t),BN (fV9 f (.int (Zo i) nt))⟩,t+cond z 20 21,fun k=>by rw[←ev];exact bB _ _ _ _ k,fun sE n' t' f' io HR=>?_⟩
  have key:=QL w b c (aP A fr ls it cl) s [] n t 80 (az [n']) (az [t']) (fun _ _=>0) (Zo sd) (Zo un) (Zo h) sq uq hh i ix nt mm f ml sE (Pe (PP w b c) true f' (ad (A.a 0)) (Zo un) uq (Zo h) hh) (am ml mm) io bl0 q fl y z
  have HP:=cW HR (sG _ _ _ _ _) (sG _ _ _ _ _)
  clear HR ev e
  cases fl<;>cases y<;>cases z<;>exact kc (key
    (fk (kc (fT ac (it:=ad it) (l:=ad ls) (i:=ix) (m:=mm) (xs:=ml) hx))<|aa) (ab ⟨by kernel_rfl,bp (by kernel_rfl) (kd HP)⟩ aa)
    (fc (uD i hi).2 (fc ((JY (eU _ _)).trans hz) (fc (hF _ (by decide +kernel)) (fc ((Kb (a:=h) rfl).trans hy) aa)))))
theorem QQ(fl:Bool)(f:FS){ix i nt:Nat}(s:BS){wv n t:Nat}(hi:i∈LN)(hw:(s.z 836).1=(wv:Int))(hx:ml[ix]?=some (.int (Zo i) nt)):StepX w b c A fr ls it cl bl0 q sd un h sq uq hh ml mm fl f ix i s wv n t:=
  ZY w b c A fr ls it cl bl0 q sd un h sq uq hh ml mm fl _ _ f s hi hw hx rfl rfl
theorem QJ(f:FS){ix:Nat}(s:BS)(n t:Nat)(hx:ml[ix]?=none):Gi w b c A fr ls it cl bl0 q sd un h sq uq hh ml mm 80 true f ix s n t f (fj ix) s (n+2) t:=by
  have key:=QK w b c (aP A fr ls it cl) s [] n t 40 (fun _=>n+2) (fun _=>t) (fun _ j=>cond (Ze j 0) (n+1) n) (Zo sd) (Zo un) (Zo h) sq uq hh 0 ix 0 mm f ml s (fj ix) (fj ix) (fj ix) bl0 q
    (ab ⟨by kernel_rfl,TriC.cast (kY (p:=prog2) (w:=W2 w b c) (S:=cn (PP w b c)) (B:=1971) (gh:=[]) (n:=Zd n 1971) (t:=Zd t 5571) (C:=fun Γ=>Lim Γ 40) ac (it:=ad it) (l:=ad ls) (i:=ix) (m:=mm) (xs:=ml) hx)
      (by kernel_rfl) rfl rfl (post1:=[(ad it,fj ix),(ad ls,am ml mm),(Zd (n+1) 1971,g6 (Zd n 1971))]) (by rw[←nf n 1971 1]) (nf n 1971 2) rfl rfl rfl (by rw[show Zd n 1971+1=Zd (n+1) 1971 from nf n 1971 1];rfl)⟩ aa)
  exact kc key
theorem Uo(hb:unitsOf (UB fr cl bl0 q)+480<700):∀(es:List Nat) (fl:Bool) (f:FS) (ix:Nat) (s:BS) (wv n t:Nat),(∀e∈es,e∈LN)→ix+es.length=ml.length→(∀(j e:Nat),(es[j]?:Option Nat)=some e→∃u:Nat,(ml[ix+j]?:Option Z6)=some (.int (Zo e) u))→(s.z 836).1=(wv:Int)→(es=[]→fl=true)→
    SpotX w b c A fr ls it cl bl0 q sd un h sq uq hh ml mm fl f ix es s wv n t:=by
  intro es
  induction es with
  |nil=>
    intro fl f ix s wv n t _ hi _ hw h0
    have e:=h0 rfl
    subst e
    refine⟨s.z,f,fj ix,n+2,t,fun k=>?_,QJ w b c A fr ls it cl bl0 q sd un h sq uq hh ml mm f s n t (List.getElem?_eq_none (by simp at hi;omega))⟩
    by_cases q:k=836
    · subst q;rw[cr];exact hw
    · rw[cF q];rfl
  |cons e es ih=>
    intro fl f ix s wv n t he hi hm hw h0
    obtain⟨u,hx⟩:=hm 0 e rfl
    obtain⟨z,f1,t1,hz,HS⟩:=QQ w b c A fr ls it cl bl0 q sd un h sq uq hh ml mm fl f s (n:=n) (t:=t) (he e List.mem_cons_self) hw hx
    obtain⟨z2,f',io,n',t',hz2,H⟩:=ih true f1 (ix+1) ⟨z,s.p,s.r,s.pc,s.md,s.sp,s.es,s.em⟩ (wstep sd un h wv e) (n+1) t1 (fun e' h=>he e' (Qp _ h)) (by simp at hi;omega) (fun j e' h=>by have:=hm (j+1) e' (by simpa using h);rwa [Nat.add_assoc,Nat.add_comm 1 j]) (by rw[show (z 836).1=_ from hz 836,cr]) (fun _=>rfl)
    refine⟨z2,f',io,n',t',fun k=>?_,TQ hb (HS _ n' t' f' io H)⟩
    rw[hz2 k]
    show bc (vz ⟨z,s.p,s.r,s.pc,s.md,s.sp,s.es,s.em⟩) 836 _ k=bc (vz s) 836 _ k
    by_cases q:k=836
    · subst q;rw[cr,cr];rfl
    · rw[cF q,cF q]
      show (z k).1=_
      rw[hz k,cF q]
end
def bF:=LZ [55,55,55,55,54,54,54,54,54,54,54,54,54,56,56,2,2,56,2,0]
def bG:=LZ [1004055,1009054,56,56,2,2,56,2,0,2,0,56,0]
def ka:=LZ [5,4,0,0,0,4,0,4,0,4,0,0,0,4,0,3]
def Bw:=LZ [1,0,0,1,2,0,1,1,1,1,0,0,1,0,1,2,0,22,26,22,22,1002,1,1,1,2,2,0,1,1,2,0,1,2,0,0,2,0,0,28,32,28,28,1003]
section
variable(w:Z8)(b c:Bool)(A:AS)(s:BS)(gh:gHs)(n t L:Nat)(nn tt:Nat→Nat)(vv:Nat→Nat→Nat)(sd un hd:Int)(sq uq c3 hh:Nat)(kk:Nat→Nat)(s0 s1 s2:BS)(f f2:FS)(ro io ro2 io2:Obj)(lz:Nat→List Z6)(xv:Nat→Int)(xt:Nat→Nat)(q:Nat→Z4)
noncomputable def al(Y0 Y1:Nat):Nat:=Zd (tt Y0) Y1
def ag(Y0:Int)(Y1 Y2:Nat):Z6:=.int Y0 (al tt Y1 Y2)
noncomputable def au(Y0 Y1:Nat):Z6:=.ref (Zd (nn Y0) Y1)
def Bc:Obj:=lO [.int (xv 217) (xt 217),.int (xv 218) (xt 218),.int (xv 219) (xt 219),.int (xv 220) (xt 220),.int (xv 221) (xt 221),.int (xv 222) (xt 222),.int (xv 223) (xt 223),.int (xv 224) (xt 224),.int (xv 225) (xt 225),.int (xv 226) (xt 226),.int (xv 227) (xt 227),.int (xv 228) (xt 228),.int (xv 229) (xt 229),.int (xv 230) (xt 230),.int (xv 231) (xt 231),.int (xv 232) (xt 232),.int (xv 233) (xt 233),.int (xv 234) (xt 234),.int (xv 235) (xt 235),.int (xv 236) (xt 236),.int (xv 237) (xt 237),.int (xv 238) (xt 238),.int (xv 239) (xt 239),.int (xv 240) (xt 240),.int (xv 241) (xt 241),.int (xv 242) (xt 242),.int (xv 243) (xt 243),.int (xv 244) (xt 244),.int (xv 245) (xt 245),.int (xv 246) (xt 246),.int (xv 247) (xt 247)] 31
def jY:Int:=Za (af (ah (an sd 3) 2) 1024) 546
noncomputable def dx(Y0 Y1:Nat):Nat:=Zd (vv Y0 Y1) 1971
def Be:Obj:=tO [ag tt 768 2 5600,.int (((((((ah 2 (af sd 2))+(ah 32 (af (an sd 2) 2)))+(ah 256 (af (an sd 8) 2)))+(ah 262144 (af (an sd 16) 4)))+(ah 8 (af un 2)))+(ah 128 (af (an un 2) 2)))+(ah 2048 (xv 39))) (al tt 2 5622)]
def Bf:Obj:=tO [ag tt 772 1 5572,.int (Zb (Za (af (ah sd 11) 4096) (jY sd)) (Za (af (ah un 31) 4096) (Zc 2730 (jY sd)))) (al tt 1 5583)]
def tZ:Xo:=.func cj (d7 (Zd (A.a 1) 1971) (Zd (A.a 2) 1971) (Zd (A.a 3) 1971) c3)
def cD(Y0 Y1:Nat):Z6:=.ref (dx vv Y0 Y1)
include w b c A s gh n t L nn tt vv sd un hd sq uq c3 hh kk s0 s1 s2 f f2 ro io ro2 io2 lz xv xt q
theorem OH:jT w b c A gh L 60 [(91,Zd (nn 7) 1971),(90,dx vv 7 0),(51,Zd (nn 6) 1971),(48,Zd (nn 5) 1971),(46,Zd (nn 4) 1971),(45,dx vv 4 0),(39,Zd (nn 3) 1971),(38,dx vv 3 0),(34,Zd (nn 2) 1971),(33,dx vv 2 0),(28,Zd (nn 1) 1971),(27,dx vv 1 0),(13,Zd (nn 0) 1971),(12,dx vv 0 6),(11,dx vv 0 5),(10,dx vv 0 4),(9,dx vv 0 3),(8,dx vv 0 2),(7,dx vv 0 1),(6,dx vv 0 0),(0,Zd n 1971)] [(920,al tt 7 5571),(202,al tt 6 5571),(195,al tt 5 5571),(193,al tt 4 5571),(169,al tt 3 5571),(116,al tt 2 5571),(92,al tt 1 5571),(34,al tt 0 5571),(0,Zd t 5571)] [⟨cR 1937 [.none,.ref (Zd n 1974),.int (af un 97) (Zd t 5603)],5,33,[],rV (cD vv 0 0),13,34,[(6,d0 (PP w b c) ⟨vv 0,kk⟩),(7,d1 (PP w b c) ⟨vv 0,kk⟩ s0),(8,d2 (PP w b c) ⟨vv 0,kk⟩),(9,d3 (PP w b c) ⟨vv 0,kk⟩ s0),(10,d4 (PP w b c) ⟨vv 0,kk⟩ s0),(11,d5 (PP w b c) ⟨vv 0,kk⟩ s0),(12,d6 (PP w b c) ⟨vv 0,kk⟩ s0)]⟩,⟨cB "list.__add__" [au nn 0 1979,au nn 0 1983],26,91,[(21,lO [au nn 0 1975,au nn 0 1976,au nn 0 1977,au nn 0 1978] 0),(25,lO [au nn 0 1980,au nn 0 1981,au nn 0 1982] 0)],rV (cD vv 1 0),28,92,[(21,lO [au nn 0 1975,au nn 0 1976,au nn 0 1977,au nn 0 1978] 0),(25,lO [au nn 0 1980,au nn 0 1981,au nn 0 1982] 0),(27,am (lz 1) 0)]⟩,⟨cB "list.__add__" [cD vv 1 0,au nn 1 1974],32,115,[(27,am (lz 1) 0),(31,lO [au nn 1 1971,au nn 1 1972,au nn 1 1973] 0)],rV (cD vv 2 0),34,116,[(27,am (lz 1) 0),(31,lO [au nn 1 1971,au nn 1 1972,au nn 1 1973] 0),(33,am (lz 2) 0)]⟩,cS (cB "list.__getitem__" [au nn 2 1971,.int (af (an un 4) 3) (al tt 2 5620)]) 35 166 [(34,lO [ag tt 0 2 5614,ag tt 1 2 5615,ag tt 3 2 5616] 0)] (rV (.int (xv 39) (xt 39))) 35 166,⟨cB "list.__add__" [cD vv 2 0,au nn 2 1973],37,168,[(33,am (lz 2) 0),(36,lO [au nn 2 1972] 0)],rV (cD vv 3 0),39,169,[(33,am (lz 2) 0),(36,lO [au nn 2 1972] 0),(38,am (lz 3) 0)]⟩,⟨cB "list.__add__" [cD vv 3 0,au nn 3 1975],44,192,[(38,am (lz 3) 0),(43,lO [au nn 3 1971,au nn 3 1972,au nn 3 1973,au nn 3 1974] 0)],rV (cD vv 4 0),46,193,[(38,am (lz 3) 0),(43,lO [au nn 3 1971,au nn 3 1972,au nn 3 1973,au nn 3 1974] 0),(45,am (lz 4) 0)]⟩,cS (cB "list.__getitem__" [au nn 6 1976,.int (af ((an sd 9)+1) 4) (al tt 6 5597)]) 57 229 [(56,lO [.int (af (ah (ah sd 2654435761) 1) 4294967296) (al tt 6 5583),ag tt 4294967295 6 5588,ag tt 2730 6 5589,ag tt 2147483648 6 5592] 0)] (rV (.int (xv 217) (xt 217))) 57 229,cS (cB "list.__getitem__" [au nn 6 1977,.int (af ((an sd 9)+2) 4) (al tt 6 5620)]) 58 252 [(57,lO [.int (af (ah (ah sd 2654435761) 2) 4294967296) (al tt 6 5606),ag tt 4294967295 6 5611,ag tt 2730 6 5612,ag tt 2147483648 6 5615] 0)] (rV (.int (xv 218) (xt 218))) 58 252,cS (cB "list.__getitem__" [au nn 6 1978,.int (af ((an sd 9)+3) 4) (al tt 6 5643)]) 59 275 [(58,lO [.int (af (ah (ah sd 2654435761) 3) 4294967296) (al tt 6 5629),ag tt 4294967295 6 5634,ag tt 2730 6 5635,ag tt 2147483648 6 5638] 0)] (rV (.int (xv 219) (xt 219))) 59 275,cS (cB "list.__getitem__" [au nn 6 1979,.int (af ((an sd 9)+4) 4) (al tt 6 5666)]) 60 298 [(59,lO [.int (af (ah (ah sd 2654435761) 4) 4294967296) (al tt 6 5652),ag tt 4294967295 6 5657,ag tt 2730 6 5658,ag tt 2147483648 6 5661] 0)] (rV (.int (xv 220) (xt 220))) 60 298,cS (cB "list.__getitem__" [au nn 6 1980,.int (af ((an sd 9)+5) 4) (al tt 6 5689)]) 61 321 [(60,lO [.int (af (ah (ah sd 2654435761) 5) 4294967296) (al tt 6 5675),ag tt 4294967295 6 5680,ag tt 2730 6 5681,ag tt 2147483648 6 5684] 0)] (rV (.int (xv 221) (xt 221))) 61 321,cS (cB "list.__getitem__" [au nn 6 1981,.int (af ((an sd 9)+6) 4) (al tt 6 5712)]) 62 344 [(61,lO [.int (af (ah (ah sd 2654435761) 6) 4294967296) (al tt 6 5698),ag tt 4294967295 6 5703,ag tt 2730 6 5704,ag tt 2147483648 6 5707] 0)] (rV (.int (xv 222) (xt 222))) 62 344,cS (cB "list.__getitem__" [au nn 6 1982,.int (af ((an sd 9)+7) 4) (al tt 6 5735)]) 63 367 [(62,lO [.int (af (ah (ah sd 2654435761) 7) 4294967296) (al tt 6 5721),ag tt 4294967295 6 5726,ag tt 2730 6 5727,ag tt 2147483648 6 5730] 0)] (rV (.int (xv 223) (xt 223))) 63 367,cS (cB "list.__getitem__" [au nn 6 1983,.int (af ((an sd 9)+8) 4) (al tt 6 5758)]) 64 390 [(63,lO [.int (af (ah (ah sd 2654435761) 8) 4294967296) (al tt 6 5744),ag tt 4294967295 6 5749,ag tt 2730 6 5750,ag tt 2147483648 6 5753] 0)] (rV (.int (xv 224) (xt 224))) 64 390,cS (cB "list.__getitem__" [au nn 6 1984,.int (af ((an sd 9)+9) 4) (al tt 6 5781)]) 65 413 [(64,lO [.int (af (ah (ah sd 2654435761) 9) 4294967296) (al tt 6 5767),ag tt 4294967295 6 5772,ag tt 2730 6 5773,ag tt 2147483648 6 5776] 0)] (rV (.int (xv 225) (xt 225))) 65 413,cS (cB "list.__getitem__" [au nn 6 1985,.int (af ((an sd 9)+10) 4) (al tt 6 5804)]) 66 436 [(65,lO [.int (af (ah (ah sd 2654435761) 10) 4294967296) (al tt 6 5790),ag tt 4294967295 6 5795,ag tt 2730 6 5796,ag tt 2147483648 6 5799] 0)] (rV (.int (xv 226) (xt 226))) 66 436,cS (cB "list.__getitem__" [au nn 6 1986,.int (af ((an sd 9)+11) 4) (al tt 6 5827)]) 67 459 [(66,lO [.int (af (ah (ah sd 2654435761) 11) 4294967296) (al tt 6 5813),ag tt 4294967295 6 5818,ag tt 2730 6 5819,ag tt 2147483648 6 5822] 0)] (rV (.int (xv 227) (xt 227))) 67 459,cS (cB "list.__getitem__" [au nn 6 1987,.int (af ((an sd 9)+12) 4) (al tt 6 5850)]) 68 482 [(67,lO [.int (af (ah (ah sd 2654435761) 12) 4294967296) (al tt 6 5836),ag tt 4294967295 6 5841,ag tt 2730 6 5842,ag tt 2147483648 6 5845] 0)] (rV (.int (xv 228) (xt 228))) 68 482,cS (cB "list.__getitem__" [au nn 6 1988,.int (af ((an sd 9)+13) 4) (al tt 6 5873)]) 69 505 [(68,lO [.int (af (ah (ah sd 2654435761) 13) 4294967296) (al tt 6 5859),ag tt 4294967295 6 5864,ag tt 2730 6 5865,ag tt 2147483648 6 5868] 0)] (rV (.int (xv 229) (xt 229))) 69 505,cS (cB "list.__getitem__" [au nn 6 1989,.int (af ((an sd 9)+14) 4) (al tt 6 5896)]) 70 528 [(69,lO [.int (af (ah (ah sd 2654435761) 14) 4294967296) (al tt 6 5882),ag tt 4294967295 6 5887,ag tt 2730 6 5888,ag tt 2147483648 6 5891] 0)] (rV (.int (xv 230) (xt 230))) 70 528,cS (cB "list.__getitem__" [au nn 6 1990,.int (af ((an sd 9)+15) 4) (al tt 6 5919)]) 71 551 [(70,lO [.int (af (ah (ah sd 2654435761) 15) 4294967296) (al tt 6 5905),ag tt 4294967295 6 5910,ag tt 2730 6 5911,ag tt 2147483648 6 5914] 0)] (rV (.int (xv 231) (xt 231))) 71 551,cS (cB "list.__getitem__" [au nn 6 1991,.int (af ((an sd 9)+16) 4) (al tt 6 5942)]) 72 574 [(71,lO [.int (af (ah (ah sd 2654435761) 16) 4294967296) (al tt 6 5928),ag tt 4294967295 6 5933,ag tt 2730 6 5934,ag tt 2147483648 6 5937] 0)] (rV (.int (xv 232) (xt 232))) 72 574,cS (cB "list.__getitem__" [au nn 6 1992,.int (af ((an sd 9)+17) 4) (al tt 6 5965)]) 73 597 [(72,lO [.int (af (ah (ah sd 2654435761) 17) 4294967296) (al tt 6 5951),ag tt 4294967295 6 5956,ag tt 2730 6 5957,ag tt 2147483648 6 5960] 0)] (rV (.int (xv 233) (xt 233))) 73 597,cS (cB "list.__getitem__" [au nn 6 1993,.int (af ((an sd 9)+18) 4) (al tt 6 5988)]) 74 620 [(73,lO [.int (af (ah (ah sd 2654435761) 18) 4294967296) (al tt 6 5974),ag tt 4294967295 6 5979,ag tt 2730 6 5980,ag tt 2147483648 6 5983] 0)] (rV (.int (xv 234) (xt 234))) 74 620,cS (cB "list.__getitem__" [au nn 6 1994,.int (af ((an sd 9)+19) 4) (al tt 6 6011)]) 75 643 [(74,lO [.int (af (ah (ah sd 2654435761) 19) 4294967296) (al tt 6 5997),ag tt 4294967295 6 6002,ag tt 2730 6 6003,ag tt 2147483648 6 6006] 0)] (rV (.int (xv 235) (xt 235))) 75 643,cS (cB "list.__getitem__" [au nn 6 1995,.int (af ((an sd 9)+20) 4) (al tt 6 6034)]) 76 666 [(75,lO [.int (af (ah (ah sd 2654435761) 20) 4294967296) (al tt 6 6020),ag tt 4294967295 6 6025,ag tt 2730 6 6026,ag tt 2147483648 6 6029] 0)] (rV (.int (xv 236) (xt 236))) 76 666,cS (cB "list.__getitem__" [au nn 6 1996,.int (af ((an sd 9)+21) 4) (al tt 6 6057)]) 77 689 [(76,lO [.int (af (ah (ah sd 2654435761) 21) 4294967296) (al tt 6 6043),ag tt 4294967295 6 6048,ag tt 2730 6 6049,ag tt 2147483648 6 6052] 0)] (rV (.int (xv 237) (xt 237))) 77 689,cS (cB "list.__getitem__" [au nn 6 1997,.int (af ((an sd 9)+22) 4) (al tt 6 6080)]) 78 712 [(77,lO [.int (af (ah (ah sd 2654435761) 22) 4294967296) (al tt 6 6066),ag tt 4294967295 6 6071,ag tt 2730 6 6072,ag tt 2147483648 6 6075] 0)] (rV (.int (xv 238) (xt 238))) 78 712,cS (cB "list.__getitem__" [au nn 6 1998,.int (af ((an sd 9)+23) 4) (al tt 6 6103)]) 79 735 [(78,lO [.int (af (ah (ah sd 2654435761) 23) 4294967296) (al tt 6 6089),ag tt 4294967295 6 6094,ag tt 2730 6 6095,ag tt 2147483648 6 6098] 0)] (rV (.int (xv 239) (xt 239))) 79 735,cS (cB "list.__getitem__" [au nn 6 1999,.int (af ((an sd 9)+24) 4) (al tt 6 6126)]) 80 758 [(79,lO [.int (af (ah (ah sd 2654435761) 24) 4294967296) (al tt 6 6112),ag tt 4294967295 6 6117,ag tt 2730 6 6118,ag tt 2147483648 6 6121] 0)] (rV (.int (xv 240) (xt 240))) 80 758,cS (cB "list.__getitem__" [au nn 6 2000,.int (af ((an sd 9)+25) 4) (al tt 6 6149)]) 81 781 [(80,lO [.int (af (ah (ah sd 2654435761) 25) 4294967296) (al tt 6 6135),ag tt 4294967295 6 6140,ag tt 2730 6 6141,ag tt 2147483648 6 6144] 0)] (rV (.int (xv 241) (xt 241))) 81 781,cS (cB "list.__getitem__" [au nn 6 2001,.int (af ((an sd 9)+26) 4) (al tt 6 6172)]) 82 804 [(81,lO [.int (af (ah (ah sd 2654435761) 26) 4294967296) (al tt 6 6158),ag tt 4294967295 6 6163,ag tt 2730 6 6164,ag tt 2147483648 6 6167] 0)] (rV (.int (xv 242) (xt 242))) 82 804,cS (cB "list.__getitem__" [au nn 6 2002,.int (af ((an sd 9)+27) 4) (al tt 6 6195)]) 83 827 [(82,lO [.int (af (ah (ah sd 2654435761) 27) 4294967296) (al tt 6 6181),ag tt 4294967295 6 6186,ag tt 2730 6 6187,ag tt 2147483648 6 6190] 0)] (rV (.int (xv 243) (xt 243))) 83 827,cS (cB "list.__getitem__" [au nn 6 2003,.int (af ((an sd 9)+28) 4) (al tt 6 6218)]) 84 850 [(83,lO [.int (af (ah (ah sd 2654435761) 28) 4294967296) (al tt 6 6204),ag tt 4294967295 6 6209,ag tt 2730 6 6210,ag tt 2147483648 6 6213] 0)] (rV (.int (xv 244) (xt 244))) 84 850,cS (cB "list.__getitem__" [au nn 6 2004,.int (af ((an sd 9)+29) 4) (al tt 6 6241)]) 85 873 [(84,lO [.int (af (ah (ah sd 2654435761) 29) 4294967296) (al tt 6 6227),ag tt 4294967295 6 6232,ag tt 2730 6 6233,ag tt 2147483648 6 6236] 0)] (rV (.int (xv 245) (xt 245))) 85 873,cS (cB "list.__getitem__" [au nn 6 2005,.int (af ((an sd 9)+30) 4) (al tt 6 6264)]) 86 896 [(85,lO [.int (af (ah (ah sd 2654435761) 30) 4294967296) (al tt 6 6250),ag tt 4294967295 6 6255,ag tt 2730 6 6256,ag tt 2147483648 6 6259] 0)] (rV (.int (xv 246) (xt 246))) 86 896,cS (cB "list.__getitem__" [au nn 6 2006,.int (af ((an sd 9)+31) 4) (al tt 6 6287)]) 87 919 [(86,lO [.int (af (ah (ah sd 2654435761) 31) 4294967296) (al tt 6 6273),ag tt 4294967295 6 6278,ag tt 2730 6 6279,ag tt 2147483648 6 6282] 0)] (rV (.int (xv 247) (xt 247))) 87 919,⟨cB "list.__add__" [au nn 6 1971,au nn 6 1974],89,919,[(51,lO [ag tt 0 6 5571] 0),(54,Bc xv xt)],rV (cD vv 7 0),91,920,[(51,lO [ag tt 0 6 5571] 0),(54,Bc xv xt),(90,am (lz 7) 0)]⟩,cS (cB "list.__getitem__" [au nn 7 1971,.int (af (an sd 6) 3) (al tt 7 5579)]) 92 929 [(91,lO [ag tt 1 7 5573,ag tt 1 7 5574,ag tt 0 7 5575] 0)] (rV (.int (xv 251) (xt 251))) 92 929] [⟨dq ec 8 (Zd (nn 4) 1971) (fh (Zd n 1971) (Zd n 1972)),47,194,[(6,d0 (PP w b c) ⟨vv 0,kk⟩),(7,d1 (PP w b c) ⟨vv 0,kk⟩ s0),(8,d2 (PP w b c) ⟨vv 0,kk⟩),(9,d3 (PP w b c) ⟨vv 0,kk⟩ s0),(10,d4 (PP w b c) ⟨vv 0,kk⟩ s0),(11,d5 (PP w b c) ⟨vv 0,kk⟩ s0),(12,d6 (PP w b c) ⟨vv 0,kk⟩ s0),(0,⟨.type "frame",none,.dict ⟨[ae w b c tI (Zd t 5571) (.int un uq),ae w b c i6 (al tt 0 5581) (.int (jY sd) (al tt 0 5580)),ae w b c gU (al tt 0 5582) (cD vv 0 0),ae w b c qs (al tt 0 5585) (.int (Zc 2730 (jY sd)) (al tt 0 5584)),ae w b c oI (al tt 0 5608) (cD vv 4 0),ae w b c q5 (al tt 2 5599) (.int ((((ah 2 (af sd 2))+(ah 32 (af (an sd 2) 2)))+(ah 256 (af (an sd 8) 2)))+(ah 262144 (af (an sd 16) 4))) (al tt 2 5598))]⟩ 6,#[]⟩),(45,am (lz 4) 0),(46,⟨.type "list_iterator",none,.fields ⟨[cD vv 4 0,.int 0 0]⟩,#[]⟩),(17,tO [ag tt 771 0 5586,.int (jY sd) (al tt 0 5580)]),(18,tO [ag tt 770 0 5587,.int (af (ah un 40503) 65536) (al tt 0 5593)]),(19,tO [ag tt 773 0 5594,.int (af (ah 4 un) 4294967296) (al tt 0 5600)]),(20,tO [ag tt 832 0 5601,.int (af (ah un 7) 4294967296) (al tt 0 5607)]),(22,tO [ag tt 833 0 5609,.int (af (ah 8 un) 4294967296) (al tt 0 5615)]),(23,tO [ag tt 834 0 5616,.int (af un 4294967296) (al tt 0 5620)]),(24,tO [ag tt 835 0 5621,.int (af (ah un 13) 4294967296) (al tt 0 5627)]),(28,Bf tt sd un),(29,tO [ag tt 774 1 5584,.int (af (an sd 4) 8) (al tt 1 5588)]),(30,tO [ag tt 262 1 5589,.int (af (an sd 5) 8) (al tt 1 5593)]),(35,Be tt sd un xv),(39,tO [ag tt 261 3 5572,.int (af (ah 4 sd) 4294967296) (al tt 3 5578)]),(40,tO [ag tt 320 3 5579,.int (af (ah sd 3) 4294967296) (al tt 3 5585)]),(41,tO [ag tt 321 3 5586,.int (ah 4 (af sd 1000)) (al tt 3 5590)]),(42,tO [ag tt 322 3 5591,.int (af sd 64) (al tt 3 5593)])],.ok .next,48,195,[(6,d0 (PP w b c) ⟨vv 0,kk⟩),(7,d1 (PP w b c) ⟨vv 0,kk⟩ s1),(8,d2 (PP w b c) ⟨vv 0,kk⟩),(9,d3 (PP w b c) ⟨vv 0,kk⟩ s1),(10,d4 (PP w b c) ⟨vv 0,kk⟩ s1),(11,d5 (PP w b c) ⟨vv 0,kk⟩ s1),(12,d6 (PP w b c) ⟨vv 0,kk⟩ s1),(0,aY ⟨GB (PP w b c) f (dx vv 0 0) un uq hd hh⟩ 8 #[]),(45,ro),(46,io),(17,tO [ag tt 771 0 5586,.int (jY sd) (al tt 0 5580)]),(18,tO [ag tt 770 0 5587,.int (af (ah un 40503) 65536) (al tt 0 5593)]),(19,tO [ag tt 773 0 5594,.int (af (ah 4 un) 4294967296) (al tt 0 5600)]),(20,tO [ag tt 832 0 5601,.int (af (ah un 7) 4294967296) (al tt 0 5607)]),(22,tO [ag tt 833 0 5609,.int (af (ah 8 un) 4294967296) (al tt 0 5615)]),(23,tO [ag tt 834 0 5616,.int (af un 4294967296) (al tt 0 5620)]),(24,tO [ag tt 835 0 5621,.int (af (ah un 13) 4294967296) (al tt 0 5627)]),(28,Bf tt sd un),(29,tO [ag tt 774 1 5584,.int (af (an sd 4) 8) (al tt 1 5588)]),(30,tO [ag tt 262 1 5589,.int (af (an sd 5) 8) (al tt 1 5593)]),(35,Be tt sd un xv),(39,tO [ag tt 261 3 5572,.int (af (ah 4 sd) 4294967296) (al tt 3 5578)]),(40,tO [ag tt 320 3 5579,.int (af (ah sd 3) 4294967296) (al tt 3 5585)]),(41,tO [ag tt 321 3 5586,.int (ah 4 (af sd 1000)) (al tt 3 5590)]),(42,tO [ag tt 322 3 5591,.int (af sd 64) (al tt 3 5593)])]⟩,⟨dq ec 9 (Zd (nn 5) 1972) (fh (Zd n 1971) (Zd n 1972)),50,201,[(6,d0 (PP w b c) ⟨vv 0,kk⟩),(7,d1 (PP w b c) ⟨vv 0,kk⟩ s1),(8,d2 (PP w b c) ⟨vv 0,kk⟩),(9,d3 (PP w b c) ⟨vv 0,kk⟩ s1),(10,d4 (PP w b c) ⟨vv 0,kk⟩ s1),(11,d5 (PP w b c) ⟨vv 0,kk⟩ s1),(12,d6 (PP w b c) ⟨vv 0,kk⟩ s1),(0,⟨.type "frame",none,.dict ⟨[ae w b c tI (f.k 0) (.int un uq),ae w b c i6 (f.k 1) (.int hd hh),ae w b c gU (f.k 2) (cD vv 0 0),ae w b c qs (f.k 3) (f.2 3),ae w b c oI (f.k 4) (f.2 4),ae w b c q5 (f.k 5) (f.2 5),ae w b c qt (f.k 6) (f.2 6),ae w b c gA (f.k 7) (f.2 7)]⟩ 8,#[]⟩),(1,⟨.type "cell",none,.cell (some (.int sd sq)),#[]⟩),(48,lO [ag tt 1 5 5571,ag tt 3 5 5572,ag tt 5 5 5573,ag tt 7 5 5574,ag tt 9 5 5575,ag tt 11 5 5576] 0),(49,⟨.type "list_iterator",none,.fields ⟨[au nn 5 1971,.int 0 0]⟩,#[]⟩)],.ok .next,51,202,[(6,d0 (PP w b c) ⟨vv 0,kk⟩),(7,d1 (PP w b c) ⟨vv 0,kk⟩ s2),(8,d2 (PP w b c) ⟨vv 0,kk⟩),(9,d3 (PP w b c) ⟨vv 0,kk⟩ s2),(10,d4 (PP w b c) ⟨vv 0,kk⟩ s2),(11,d5 (PP w b c) ⟨vv 0,kk⟩ s2),(12,d6 (PP w b c) ⟨vv 0,kk⟩ s2),(0,aY ⟨Et (PP w b c) f2 (dx vv 0 0) un uq hd hh⟩ 9 #[]),(1,⟨.type "cell",none,.cell (some (.int sd sq)),#[]⟩),(48,ro2),(49,io2)]⟩] [((.func ec (fh (Zd n 1971) (Zd n 1972)),⟨823,21,823,25⟩)::[(tZ A c3,q 5),(.builtin "claim.caller" {},q 6)]),((.func ec (fh (Zd n 1971) (Zd n 1972)),⟨825,16,825,35⟩)::[(tZ A c3,q 5),(.builtin "claim.caller" {},q 6)])] [(ax (ah sd 2654435761) 31,false),(ax sd 2654435761,false),(ax (ah sd 2654435761) 30,false),(ax sd 2654435761,false),(ax (ah sd 2654435761) 29,false),(ax sd 2654435761,false),(ax (ah sd 2654435761) 28,false),(ax sd 2654435761,false),(ax (ah sd 2654435761) 27,false),(ax sd 2654435761,false),(ax (ah sd 2654435761) 26,false),(ax sd 2654435761,false),(ax (ah sd 2654435761) 25,false),(ax sd 2654435761,false),(ax (ah sd 2654435761) 24,false),(ax sd 2654435761,false),(ax (ah sd 2654435761) 23,false),(ax sd 2654435761,false),(ax (ah sd 2654435761) 22,false),(ax sd 2654435761,false),(ax (ah sd 2654435761) 21,false),(ax sd 2654435761,false),(ax (ah sd 2654435761) 20,false),(ax sd 2654435761,false),(ax (ah sd 2654435761) 19,false),(ax sd 2654435761,false),(ax (ah sd 2654435761) 18,false),(ax sd 2654435761,false),(ax (ah sd 2654435761) 17,false),(ax sd 2654435761,false),(ax (ah sd 2654435761) 16,false),(ax sd 2654435761,false),(ax (ah sd 2654435761) 15,false),(ax sd 2654435761,false),(ax (ah sd 2654435761) 14,false),(ax sd 2654435761,false),(ax (ah sd 2654435761) 13,false),(ax sd 2654435761,false),(ax (ah sd 2654435761) 12,false),(ax sd 2654435761,false),(ax (ah sd 2654435761) 11,false),(ax sd 2654435761,false),(ax (ah sd 2654435761) 10,false),(ax sd 2654435761,false),(ax (ah sd 2654435761) 9,false),(ax sd 2654435761,false),(ax (ah sd 2654435761) 8,false),(ax sd 2654435761,false),(ax (ah sd 2654435761) 7,false),(ax sd 2654435761,false),(ax (ah sd 2654435761) 6,false),(ax sd 2654435761,false),(ax (ah sd 2654435761) 5,false),(ax sd 2654435761,false),(ax (ah sd 2654435761) 4,false),(ax sd 2654435761,false),(ax (ah sd 2654435761) 3,false),(ax sd 2654435761,false),(ax (ah sd 2654435761) 2,false),(ax sd 2654435761,false),(ax (ah sd 2654435761) 1,false),(ax sd 2654435761,false),(ax sd 3,false),(ax un 31,false),(ax sd 11,false),(ax un 13,false),(ax un 7,false),(ax un 40503,false),(ax (an sd 3) 2,false)] [(tZ A c3,q 5),(.builtin "claim.caller" {},q 6)] (cR 1946 [.int sd sq,.int un uq]) 0 [] (rV (au nn 7 1976)) 97 [(96,tO [cD vv 0 0,.int hd hh]),(6,d0 (PP w b c) ⟨vv 0,kk⟩),(7,dO [ae w b c NF (Zd (kk 0) 5571) .none,ae w b c NG (Zd (kk 1) 5571) (cD vv 0 100),ae w b c NH (Zd (kk 2) 5571) (cD vv 0 101),ae w b c NK (Zd (kk 3) 5571) (cD vv 0 2),ae w b c NL (Zd (kk 4) 5571) (cD vv 7 0),ae w b c ⟨⟨[112,99]⟩⟩ (Zd (kk 5) 5571) (ag tt 4096 7 5580),ae w b c NN (Zd (kk 6) 5571) (.int (xv 251) (xt 251)),ae w b c NO (Zd (kk 7) 5571) (cD vv 0 6),ae w b c NP (Zd (kk 8) 5571) (.ref s2.sp)] 9),(8,d2 (PP w b c) ⟨vv 0,kk⟩),(9,d3 (PP w b c) ⟨vv 0,kk⟩ s2),(10,d4 (PP w b c) ⟨vv 0,kk⟩ s2),(90,am (lz 7) 0),(12,d6 (PP w b c) ⟨vv 0,kk⟩ s2)] 934:=by
 cases c
 ·exact cG (hm ([0,0,2,2,1,1,0,0,0,0,0,0,0,0,0,0,0,0,0,0,0,0,0,0,0,0,0,0,0,0,0,0,0,0,0,0,0,4,0,4,0,0,0,0,0,0,0,5,5,5,5,0,5,0,0,5]++ka++[3,3,5]++ka++[3,3,5,0]++ka++[3,3,5,4,0,0,0,4,0,0,0,4,4,0,3,0]++ka++[3,3,5,4,0,0,0,4,0,0,0,4,4,0,3,5,4,0,0,0,4,0,0,0,4,4,0,3,0]++ka++[3,3,5,4,0,0,0,4,0,0,0,4,4,0,3,5,4,0,0,0,4,0,0,0,4,4,0,3,0]++ka++[3,3,1,0,0,0,1001,2,0,2,0,14,14,14,14,15,15,15,15,15,14,15,15,15,15,15,15,14,15,15,15,15,15,15,14,15,15,17,1,1,1,1,1,1,1,1,1,2,0]++Bw++[1,1,2,0,0,2,0,0,0,2,0,0,0,2,0,0,0,1,1,1,1,1,0,0,1,0,0,0,1,0,0,35,35,35,35,1004,0,34,37,34,34,1005,1,1,1,2,0,0,2,2,0,2,0,0,2,0,39,44,39,39,1006,1,1,1,46,46,46,47,1500,49,49,49,50,1501,0,0,53,53,53,53,53,53,53,53,53,53,54,54,54,54,54,54,54,54,54,54,54,54,54,54,56,56,2,2,56,2,0,2,0,56,0,57,57,57,57,1007]++bF++[2,0,56,0,58,58,58,58,1008]++bF++[2,0,56,0,59,59,59,59,1009]++bF++[2,0,56,0,60,60,60,60,1010]++bF++[2,0,56,0,61,61,61,61,1011]++bF++[2,0,56,0,62,62,62,62,1012]++bF++[2,0,56,0,63,63,63,63,1013]++bF++[2,0,56,0,64,64,64,64,1014]++bF++[2,0,56,0,65,65,65,65,1015]++bF++[2,0,56,0,66,66,66,66,1016]++bF++[2,0,56,0,67,67,67,67,1017]++bF++[2,0,56,0,68,68,68,68,1018]++bF++[2,0,56,0,69,69,69,69,1019]++bF++[2,0,56,0,70,70,70,70,1020]++bF++[2,0,56,0,71,71,71,71,1021]++bF++[2,0,56,0,72,72,72,72,1022]++bF++[2,0,56,0,73,73,73,73,1023]++bF++[2,0,56,0,74,74,74,74,1024]++bF++[2,0,56,0,75,75,75,75,1025]++bF++[2,0,56,0,76,76,76,76,1026]++bF++[2,0,56,0,77,77,77,77,1027]++bF++[2,0,56,0,78,78,78,78,1028]++bF++[2,0,56,0,79,79,79,79,1029]++bF++[2,0,56,0,80,80,80,80,1030]++bF++[2,0,56,0,81,81,81,81,1031]++bF++[2,0,56,0,82,82,82,82,1032]++bF++[2,0,56,0,83,83,83,83,1033]++bF++[2,0,56,0,84,84,84,84,1034]++bF++[2,0,56,0,85,85,85,85,1035]++bF++[2,0,56,0,86,86,86,86,1036]++bF++[2,0,56,0,87,87,87,87,1037,55,55,55,55,54,54,54,54,54,89,56,56,56,52,55,52,52,1038,1,7,0,0,0,7,0,7,0,7,0,0,0,7,0,8,8,8,2,0,0,92,92,92,92,1039,93,93,93,93,94,94,94,94,94,93,94,94,94,94,94,94,93,94,94,94,94,94,94,93,94,94,96,1,7,0,0,0,7,0,7,0,7,0,0,0,7,0,8,8,8,1,7,0,0,0,7,0,7,0,7,0,0,0,7,0,8,8,8,1,1])) rfl rfl fun p=>by kernel_rfl
 ·exact cG (hm ([0,0,2,2,1,1,1031000,4,0,4,1007000,5,9005000,0,0,5,5,5004003,5,5,5004003,5,0,5,5004003,5,2004003,0,5,5004003,5,2004003,5,2004003,0,5,5004003,5,2004003,5,2004003,0,5,5004003,1,0,0,0,1001,2,0,2,0,3014015,17,1009001,2,0]++Bw++[1,1,2,0,0,2,0,0,0,2,9000002,0,0,1005001,0,0,1,9000001,0,1004035,1004,0,34,37,34,34,1005,1,1,1,2,0,0,2,2,0,2,0,0,2,0,39,44,39,39,1006,1,1,1,46,46,46,47,1500,49,49,49,50,1501,0,0,1010053,1010054,56,56,2,2,56,2,0,2,0,56,0,1004057,1007]++bG++[1004058,1008]++bG++[1004059,1009]++bG++[1004060,1010]++bG++[1004061,1011]++bG++[1004062,1012]++bG++[1004063,1013]++bG++[1004064,1014]++bG++[1004065,1015]++bG++[1004066,1016]++bG++[1004067,1017]++bG++[1004068,1018]++bG++[1004069,1019]++bG++[1004070,1020]++bG++[1004071,1021]++bG++[1004072,1022]++bG++[1004073,1023]++bG++[1004074,1024]++bG++[1004075,1025]++bG++[1004076,1026]++bG++[1004077,1027]++bG++[1004078,1028]++bG++[1004079,1029]++bG++[1004080,1030]++bG++[1004081,1031]++bG++[1004082,1032]++bG++[1004083,1033]++bG++[1004084,1034]++bG++[1004085,1035]++bG++[1004086,1036]++bG++[1004087,1037,1004055,1005054,89,56,56,56,52,55,52,52,1038,1,5007008,2,0,0,1004092,1039,3093094,96,1,5007008,1,5007008,1,1])) rfl rfl fun p=>by kernel_rfl
end
def F4(d:Int×Nat)(l:List (Nat×Int×Nat))(i:Nat):Int×Nat:=@List.rec (Nat×Int×Nat) (fun _=>Int×Nat) d (fun x _ ih=>@Xp (fun _=>Int×Nat) ih x.2 (Ze x.1 i)) l
noncomputable def uI(a b c d:Int)(j:Nat):Int:=[a,b,c,d].getD j 0
theorem pkA(a b c d:Int)(t0 t1 t2 t3:Nat){j:Nat}(hlt:j<4):([.int a t0,.int b t1,.int c t2,.int d t3]:List Z6)[j]?=some (.int (uI a b c d j) (ji [t0,t1,t2,t3] j)):=by
  rcases j with _|_|_|_|j
  · rfl
  · rfl
  · rfl
  · rfl
  · omega
theorem pkB(a b c d:Nat){j:Nat}(hlt:j<4):uI (a:Int) (b:Int) (c:Int) (d:Int) j=(([a,b,c,d].getD j 0:Nat):Int):=by
  rcases j with _|_|_|_|j
  · rfl
  · rfl
  · rfl
  · rfl
  · omega
def lJ(sd k:Nat):Int:=uI (af (ah (ah (Zo sd) 2654435761) (k:Int)) 4294967296) 4294967295 2730 2147483648 ((sd/9+k)%4)
theorem pk(sd k t0 t1 t2 t3:Nat):([.int (af (ah (ah (Zo sd) 2654435761) (k:Int)) 4294967296) t0,.int 4294967295 t1,.int 2730 t2,.int 2147483648 t3]:List Z6)[(sd/9+k)%4]?=some (.int (lJ sd k) (ji [t0,t1,t2,t3] ((sd/9+k)%4))):=
  pkA _ _ _ _ _ _ _ _ (Zg _ (by decide))
theorem dD(sd k:Nat):af ((an (Zo sd) 9)+(k:Int)) 4=(((sd/9+k)%4:Nat):Int):=by
  have e1:an (Zo sd) 9=((sd/9:Nat):Int):=jX sd 9
  rw[e1];exact eh (sd/9+k) 4
noncomputable def iL(l:List Nat)(j:Nat):Nat:=l.getD j 0
theorem Vb(a b d t0 t1 t2:Nat){j:Nat}(hj:j<3):([.int (Zo a) t0,.int (Zo b) t1,.int (Zo d) t2]:List Z6)[j]?=some (.int (Zo (iL [a,b,d] j)) (ji [t0,t1,t2] j)):=by
  rcases j with _|_|_|j
  · rfl
  · rfl
  · rfl
  · omega
theorem OJ(x k:Nat):af (an (Zo x) (Zo k)) 3=((x/k%3:Nat):Int):=by
  rw[oM];exact eh (x/k) 3
noncomputable def hN(sd:Nat):Nat:=(sd/3*2%1024) &&& 546
theorem pC(sd:Nat):Za (af (ah (an (Zo sd) 3) 2) 1024) 546=Zo (hN sd):=by
  have e1:an (Zo sd) 3=((sd/3:Nat):Int):=jX sd 3
  have e2:ah ((sd/3:Nat):Int) 2=((sd/3*2:Nat):Int):=eU _ 2
  have e3:af ((sd/3*2:Nat):Int) 1024=((sd/3*2%1024:Nat):Int):=eh _ 1024
  rw[e1,e2,e3];exact ay _ 546
def oE(sd:Nat):Int:=Za (af (ah (an (Zo sd) 3) 2) 1024) 546
def bI(sd un:Nat):Nat→Int:=fun i=>(F4 (0,0) [(771,Za (af (ah (an (Zo sd) 3) 2) 1024) 546,0),(770,af (ah (Zo un) 40503) 65536,0),(773,af (ah 4 (Zo un)) 4294967296,0),(832,af (ah (Zo un) 7) 4294967296,0),(833,af (ah 8 (Zo un)) 4294967296,0),(834,af (Zo un) 4294967296,0),(835,af (ah (Zo un) 13) 4294967296,0),(772,Zb (Za (af (ah (Zo sd) 11) 4096) (Za (af (ah (an (Zo sd) 3) 2) 1024) 546)) (Za (af (ah (Zo un) 31) 4096) (Zc 2730 (Za (af (ah (an (Zo sd) 3) 2) 1024) 546))),0),(774,af (an (Zo sd) 4) 8,0),(262,af (an (Zo sd) 5) 8,0),(768,((((((ah 2 (af (Zo sd) 2))+(ah 32 (af (an (Zo sd) 2) 2)))+(ah 256 (af (an (Zo sd) 8) 2)))+(ah 262144 (af (an (Zo sd) 16) 4)))+(ah 8 (af (Zo un) 2)))+(ah 128 (af (an (Zo un) 2) 2)))+(ah 2048 (Zo (iL [0,1,3] (un/4%3)))),0),(261,af (ah 4 (Zo sd)) 4294967296,0),(320,af (ah (Zo sd) 3) 4294967296,0),(321,ah 4 (af (Zo sd) 1000),0),(322,af (Zo sd) 64,0)] i).1
def JO(un n T th:Nat):BS:=⟨F4 (0,0) [(768,0,Zd T 5590),(770,0,Zd T 5593),(771,0,Zd T 5596),(772,0,Zd T 5599),(836,0,Zd T 5602),(384,0,Zd T 5605),(2816,0,Zd T 5608),(2818,0,Zd T 5611),(3860,af (Zo un) 97,th)],
  F4 (0,0) [(261,0,Zd T 5619),(262,7,4543),(320,0,Zd T 5622),(321,0,Zd T 5624),(322,0,Zd T 5626),(323,0,Zd T 5628),(773,0,Zd T 5630),(774,7,4543),(832,0,Zd T 5633),(833,0,Zd T 5635),(834,0,Zd T 5637),(835,0,Zd T 5639)],fun _=>(0,Zd T 5656),(0,Zd T 5660),(3,4331),Zd n 1984,#[],0⟩
def pJ(T:Nat):Nat→Nat:=fun j=>T+ji [5,7,16,84,88,91,93,95,97,21,24,27,30,33,36,39,42,44,46,82,47,49,50,52,54,56,58,60,61,63,65,67] j
def vg(n:Nat):Nat→Nat:=eZ [(0,n+6),(1,n+5),(2,n+12),(3,n+11),(4,n+14),(5,n+16),(6,n+17),(100,n+3),(101,n+9)] fun _=>0
theorem Pv(w:Z8)(b c:Bool)(un n t:Nat):Tri (MM w b c) (cn (PP w b c)) 1971 80 (.call (.ref 1937) ⟨[.none,.ref (Zd n 1974),.int (af (Zo un) 97) (Zd t 5603)],[]⟩) [] [] (Zd (n+5) 1971) (Zd (t+33) 5571) (.ok (.ret (.ref (ad (n+6))))) [] (bd w b c ⟨vg n,pJ (t+33)⟩ (JO un (n+5) (t+33) (Zd t 5603))) (Zd (n+19) 1971) (Zd (t+131) 5571):=
  TriC.cast (Ec w b c (a1 0) ej [] (n+5) (t+33) 40 (n+3) (Zd t 5603) (af (Zo un) 97)) (by kernel_rfl) rfl rfl (by kernel_rfl) (by kernel_rfl) (by kernel_rfl) rfl rfl (by kernel_rfl)
def Uz(n t:Nat):AS:=⟨eZ [(7,n),(8,n+47),(9,n+48),(10,(n+19)+4),(11,(n+19)+5),(12,(n+19)+6),(13,(n+19)+7),(14,(n+19)+9),(15,(n+19)+10),(16,(n+19)+11),(17,n+33),(18,(n+33)+1),(19,(n+33)+2),(20,(n+38)+1),(21,n+42),(22,(n+42)+1),(23,(n+42)+2),(24,(n+42)+3)] (vg n),pJ (t+33)⟩
def P2(n t:Nat):Nat→Nat:=(uZ [(771,(t+131)+15),(770,(t+131)+16),(773,(t+131)+23),(832,(t+131)+30),(833,(t+131)+38),(834,(t+131)+45),(835,(t+131)+50),(772,(t+188)+1),(774,(t+188)+13),(262,(t+188)+18),(768,(t+211)+29),(261,(t+263)+1),(320,(t+263)+8),(321,(t+263)+15),(322,(t+263)+20)])
def Qw(n t:Nat):Nat→Nat:=(uZ [(771,Zd (t+131) 5580),(770,Zd (t+131) 5593),(773,Zd (t+131) 5600),(832,Zd (t+131) 5607),(833,Zd (t+131) 5615),(834,Zd (t+131) 5620),(835,Zd (t+131) 5627),(772,Zd (t+188) 5583),(774,Zd (t+188) 5588),(262,Zd (t+188) 5593),(768,Zd (t+211) 5622),(261,Zd (t+263) 5578),(320,Zd (t+263) 5585),(321,Zd (t+263) 5590),(322,Zd (t+263) 5593)])
def UN(sd un n t:Nat):FS:=⟨ji [Zd t 5571,Zd (t+131) 5581,Zd (t+131) 5582,Zd (t+131) 5585,Zd (t+131) 5608,Zd (t+211) 5599],BN [.none,.none,.none,.int (Zc 2730 (Za (af (ah (an (Zo sd) 3) 2) 1024) 546)) (Zd (t+131) 5584),.ref (Zd (n+47) 1971),.int ((((ah 2 (af (Zo sd) 2))+(ah 32 (af (an (Zo sd) 2) 2)))+(ah 256 (af (an (Zo sd) 8) 2)))+(ah 262144 (af (an (Zo sd) 16) 4))) (Zd (t+211) 5598)]⟩
noncomputable def uy(t:Nat):Nat:=(Zd (t+131) 5580)
def lR(l:List Nat):List Z6:=l.map fun a=>.ref (ad a)
def fZ(w:Z8)(b c:Bool)(sd un uq n t:Nat):BS:=Qi w b c (Uz n t) (JO un (n+5) (t+33) (Zd t 5603)) [] (n+49) (t+287) 40 (Zo un) (oE sd) uq (uy t) 0 (ad (n+1)) (UN sd un n t) (P2 n t) (Qw n t) (bI sd un)
def UM(sd un n t:Nat):FS:=⟨ji [Zd t 5571,Zd (t+131) 5581,Zd (t+131) 5582,Zd (t+131) 5585,Zd (t+131) 5608,Zd (t+211) 5599,Zd (t+287) 5571,Zd (t+287) 5572],BN [.none,.none,.none,.int (Zc 2730 (Za (af (ah (an (Zo sd) 3) 2) 1024) 546)) (Zd (t+131) 5584),.ref (Zd (n+47) 1971),.int ((((ah 2 (af (Zo sd) 2))+(ah 32 (af (an (Zo sd) 2) 2)))+(ah 256 (af (an (Zo sd) 8) 2)))+(ah 262144 (af (an (Zo sd) 16) 4))) (Zd (t+211) 5598),.int 322 (Zd (P2 n t 322) 5571),.int (bI sd un 322) (Qw n t 322)]⟩
def UY(n t:Nat):List Z6:=lR [(n+19)+4,(n+19)+5,(n+19)+6,(n+19)+7,(n+19)+9,(n+19)+10,(n+19)+11,n+33,(n+33)+1,(n+33)+2,(n+38)+1,n+42,(n+42)+1,(n+42)+2,(n+42)+3]
def Ve(w:Z8)(b c:Bool)(sd un uq n t:Nat)(z:Nat→Int×Nat):BS:=⟨z,(fZ w b c sd un uq n t).p,(fZ w b c sd un uq n t).r,(fZ w b c sd un uq n t).pc,(fZ w b c sd un uq n t).md,(fZ w b c sd un uq n t).sp,(fZ w b c sd un uq n t).es,(fZ w b c sd un uq n t).em⟩
def qc(sd un:Nat):Nat→Int:=fun i=>cond (Ze i 39) (Zo (iL [0,1,3] (un/4%3))) (cond (Ze i 251) (Zo (iL [1,1,0] (sd/6%3))) (lJ sd (Nat.sub i 216)))
def CT(sd un t t6 t7:Nat):Nat→Nat:=fun i=>cond (Ze i 39) (ji [Zd (t+211) 5614,Zd (t+211) 5615,Zd (t+211) 5616] (un/4%3)) (cond (Ze i 251) (ji [Zd t7 5573,Zd t7 5574,Zd t7 5575] (sd/6%3))
  (ji [Zd t6 (5560+23*Nat.sub i 216),Zd t6 (5565+23*Nat.sub i 216),Zd t6 (5566+23*Nat.sub i 216),Zd t6 (5569+23*Nat.sub i 216)] ((sd/9+Nat.sub i 216)%4)))
def wQ(sd un t t6 t7:Nat):Nat→Int×Nat:=fun k=>cond (Ze k 0) (0,Zd t6 5571) (qc sd un (Zd k 216),CT sd un t t6 t7 (Zd k 216))
def dt(w:Z8)(b c:Bool)(sd un uq n t t6 t7:Nat)(z:Nat→Int×Nat):BS:=⟨z,(fZ w b c sd un uq n t).p,wQ sd un t t6 t7,(4096,Zd t7 5580),(qc sd un 251,CT sd un t t6 t7 251),(fZ w b c sd un uq n t).sp,#[],0⟩
def QZ(n n6:Nat):Nat→Nat:=fun i=>cond (Ze i 5) (n6+38) (vg n i)
noncomputable def Ps(t:Nat):List Z6:=[.int 1 (Zd (t+896) 5571),.int 3 (Zd (t+896) 5572),.int 5 (Zd (t+896) 5573),.int 7 (Zd (t+896) 5574),.int 9 (Zd (t+896) 5575),.int 11 (Zd (t+896) 5576)]
theorem TU(t:Nat):∀(j e:Nat),(LN[j]?:Option Nat)=some e→∃u:Nat,((Ps t)[0+j]?:Option Z6)=some (.int (Zo e) u):=by
  intro j e h
  iterate 6 (rcases j with _|j;· cases h;exact⟨_,rfl⟩)
  simp[LN]at h
theorem T7{α:Type}(x:α)(l:List α):(x::l).Perm (l++[x]):=(Qn (l₁:=[x]) (l₂:=l))
inductive CoreX (w:Z8) (b c:Bool) (fr c1 c2 c3:Nat) (q:Nat→Z4) (sd un sq uq n t:Nat):Prop where
  |mk (z:Nat→Int×Nat) (n6 t6 e:Nat) (h0_:∀k,(z k).1=bc (vz (fZ w b c sd un uq n t)) 836 ((wrun sd un (hN sd) 0 LN:Nat):Int) k)
    (h1_:TriAt (MM w b c) (cn (PP w b c)) 1971 140 [(.func cj (d7 (ad fr) (ad c1) (ad c2) c3),q 5),(.builtin "claim.caller" {},q 6)] (.call (.ref 1946) ⟨[.int (Zo sd) sq,.int (Zo un) uq],[]⟩) [] [] (Zd n 1971) (Zd t 5571) (.ok (.ret (.ref (ad e)))) []
     (bd w b c ⟨QZ n n6,pJ (t+33)⟩ (dt w b c sd un uq n t t6 (t6+717) z)++[(ad e,tO [.ref (ad (n+6)),.int (oE sd) (uy t)])]) (Zd (n6+45) 1971) (Zd (t6+731) 5571)):CoreX w b c fr c1 c2 c3 q sd un sq uq n t
theorem LW(e:Env)(e2:Env)(p0 p1 p2:Z4):unitsOf ((.func ec e2,p2)::[(.func cj e,p1),(.builtin "claim.caller" {},p0)])+480<700:=by
  have h0:=dF ((.func ec e2,p2):Xo×Z4) [(.func cj e,p1),(.builtin "claim.caller" {},p0)]
  have h:=dF ((.func cj e,p1):Xo×Z4) [(.builtin "claim.caller" {},p0)]
  have h2:=dF ((.builtin "claim.caller" {},p0):Xo×Z4) []
  have h3:unitsOf ([]:List (Xo×Z4))=0:=rfl
  omega
theorem Uu{M:Model}{S:HT}{B L:Nat}{bl:List (Xo×Z4)}{cd:Xo}{gh pre:gHs}{n t:Nat}{r:Xc}{gh' post:gHs}{n' t':Nat}(H:Tri M S B L cd gh pre n t r gh' post n' t'):TriC M S B (fun Γ=>Lim Γ L∧Γ.below=bl) cd gh pre n t r gh' post n' t':=TriC.mono (fun _ h=>h.1) H
def P9(n:Nat):List Z6:=lR [(n+19)+4,(n+19)+5,(n+19)+6,(n+19)+7,(n+19)+9,(n+19)+10,(n+19)+11,n+33,(n+33)+1,(n+33)+2,(n+38)+1]
def P8(n:Nat):List Z6:=lR [(n+19)+4,(n+19)+5,(n+19)+6,(n+19)+7,(n+19)+9,(n+19)+10,(n+19)+11,n+33,(n+33)+1,(n+33)+2]
def Vd(n:Nat):List Z6:=lR [(n+19)+4,(n+19)+5,(n+19)+6,(n+19)+7,(n+19)+9,(n+19)+10,(n+19)+11]
theorem JQ(w:Z8)(b c:Bool)(n t a e:Nat)(xs ys:List Z6)(hz:xs.length+ys.length≤sizeLine):TriC (MM w b c) (cn (PP w b c)) 1971 (fun Γ=>Lim Γ 80) (.builtin "list.__add__" ⟨[.ref a,.ref e],[]⟩) [] [(a,am xs 0),(e,am ys 0)] n t (.ok (.ret (.ref n))) [] [(a,am xs 0),(e,am ys 0),(n,am (xs++ys) 0)] (n+1) t:=
  iC ac hz
theorem dB{x m:Nat}(h:4<m:=by decide):x%4≤m:=Zj (Zh (Zg _ (by decide)) h)
theorem vV(w:Z8)(b c:Bool)(fr c1 c2 c3:Nat)(q:Nat→Z4)(sd un sq uq n t:Nat)(hr:(Xl (Za (Za (Za (bI sd un 768) 4294967295) 924074) 6144) 4096)=false):CoreX w b c fr c1 c2 c3 q sd un sq uq n t:=by
  obtain⟨z,f2,io2,n6,t6,hz,HS⟩:=Uo w b c ⟨vg n,pJ (t+33)⟩ n (n+201) (n+202) (n+1) [(.func cj (d7 (ad fr) (ad c1) (ad c2) c3),q 5),(.builtin "claim.caller" {},q 6)] (fun _=>⟨825,16,825,35⟩) sd un (hN sd) sq uq (uy t) (Ps t) 0 (LW _ _ _ _ _) LN false (UM sd un n t) 0 (fZ w b c sd un uq n t) 0 (n+203) (t+902) (fun _ h=>h) rfl (TU t) rfl (fun h=>absurd h (by decide))
  have HR:=ZU w b c (Uz n t) (JO un (n+5) (t+33) (Zd t 5603)) [] (n+49) (t+287) 40 (Zo un) (oE sd) uq (uy t) 0 (ad (n+1)) (UN sd un n t) (P2 n t) (Qw n t) (bI sd un) (fc hr aa)
  have HS':=cW HS (sG (bd w b c ⟨vg n,pJ (t+33)⟩ (fZ w b c sd un uq n t)) _ _ _ _) (sG (bd w b c ⟨vg n,pJ (t+33)⟩ (Ve w b c sd un uq n t z)) _ _ _ _)
  rw[←pC sd]at HS'
  have key:=OH w b c ⟨eZ [(1,fr),(2,c1),(3,c2)] (fun _=>0),fun _=>0⟩ ej [] n t 80 (az [n+19,n+33,n+38,n+42,n+48,n+201,n6,n6+39]) (az [t+131,t+188,t+211,t+263,t+286,t+896,t6,t6+717]) (fun i j=>cond (Ze i 0) (vg n j) (ji [0,n+32,n+37,n+41,n+47,0,0,n6+38] i)) (Zo sd) (Zo un) (oE sd) sq uq c3 (uy t) (pJ (t+33)) (JO un (n+5) (t+33) (Zd t 5603)) (fZ w b c sd un uq n t) (Ve w b c sd un uq n t z) (UM sd un n t) f2 (am (UY n t) 0) (fj 15) (am (Ps t) 0) io2
    (fun i=>cond (Ze i 1) (Vd n) (cond (Ze i 2) (P8 n) (cond (Ze i 3) (P9 n) (cond (Ze i 4) (UY n t) (.int 0 (Zd t6 5571)::((List.range' 217 31).map fun k=>.int (qc sd un k) (CT sd un t t6 (t6+717) k))))))) (qc sd un) (CT sd un t t6 (t6+717)) q
    (fk (kd (Pv w b c un n t))<|fk (kA (JQ w b c (Zd (n+32) 1971) (Zd (t+188) 5571) (Zd (n+27) 1971) (Zd (n+31) 1971) (lR [(n+19)+4,(n+19)+5,(n+19)+6,(n+19)+7]) (lR [(n+19)+9,(n+19)+10,(n+19)+11]) (show 7≤sizeLine by decide)))<|fk (kA (JQ w b c (Zd (n+37) 1971) (Zd (t+211) 5571) (Zd (n+32) 1971) (Zd (n+36) 1971) (Vd n) (lR [n+33,(n+33)+1,(n+33)+2]) (show 10≤sizeLine by decide)))<|fk (TriC.code (aZ (OJ un 4)) (ar ac (Vb 0 1 3 _ _ _ (Zg _ (by decide))) (Zj (Zh (Zg (un/4) (by decide:0<3)) (by decide)))))<|fk (kA (JQ w b c (Zd (n+41) 1971) (Zd (t+263) 5571) (Zd (n+37) 1971) (Zd (n+40) 1971) (P8 n) (lR [(n+38)+1]) (show 11≤sizeLine by decide)))<|fk (kA (JQ w b c (Zd (n+47) 1971) (Zd (t+286) 5571) (Zd (n+41) 1971) (Zd (n+46) 1971) (P9 n) (lR [n+42,(n+42)+1,(n+42)+2,(n+42)+3]) (show 15≤sizeLine by decide)))<|fk (TriC.code (aZ (dD sd 1)) (ar ac (pk sd 1 _ _ _ _) dB))<|fk (TriC.code (aZ (dD sd 2)) (ar ac (pk sd 2 _ _ _ _) dB))<|fk (TriC.code (aZ (dD sd 3)) (ar ac (pk sd 3 _ _ _ _) dB))<|fk (TriC.code (aZ (dD sd 4)) (ar ac (pk sd 4 _ _ _ _) dB))<|fk (TriC.code (aZ (dD sd 5)) (ar ac (pk sd 5 _ _ _ _) dB))<|fk (TriC.code (aZ (dD sd 6)) (ar ac (pk sd 6 _ _ _ _) dB))<|fk (TriC.code (aZ (dD sd 7)) (ar ac (pk sd 7 _ _ _ _) dB))<|fk (TriC.code (aZ (dD sd 8)) (ar ac (pk sd 8 _ _ _ _) dB))<|fk (TriC.code (aZ (dD sd 9)) (ar ac (pk sd 9 _ _ _ _) dB))<|fk (TriC.code (aZ (dD sd 10)) (ar ac (pk sd 10 _ _ _ _) dB))<|fk (TriC.code (aZ (dD sd 11)) (ar ac (pk sd 11 _ _ _ _) dB))<|fk (TriC.code (aZ (dD sd 12)) (ar ac (pk sd 12 _ _ _ _) dB))<|fk (TriC.code (aZ (dD sd 13)) (ar ac (pk sd 13 _ _ _ _) dB))<|fk (TriC.code (aZ (dD sd 14)) (ar ac (pk sd 14 _ _ _ _) dB))<|fk (TriC.code (aZ (dD sd 15)) (ar ac (pk sd 15 _ _ _ _) dB))<|fk (TriC.code (aZ (dD sd 16)) (ar ac (pk sd 16 _ _ _ _) dB))<|fk (TriC.code (aZ (dD sd 17)) (ar ac (pk sd 17 _ _ _ _) dB))<|fk (TriC.code (aZ (dD sd 18)) (ar ac (pk sd 18 _ _ _ _) dB))<|fk (TriC.code (aZ (dD sd 19)) (ar ac (pk sd 19 _ _ _ _) dB))<|fk (TriC.code (aZ (dD sd 20)) (ar ac (pk sd 20 _ _ _ _) dB))<|fk (TriC.code (aZ (dD sd 21)) (ar ac (pk sd 21 _ _ _ _) dB))<|fk (TriC.code (aZ (dD sd 22)) (ar ac (pk sd 22 _ _ _ _) dB))<|fk (TriC.code (aZ (dD sd 23)) (ar ac (pk sd 23 _ _ _ _) dB))<|fk (TriC.code (aZ (dD sd 24)) (ar ac (pk sd 24 _ _ _ _) dB))<|fk (TriC.code (aZ (dD sd 25)) (ar ac (pk sd 25 _ _ _ _) dB))<|fk (TriC.code (aZ (dD sd 26)) (ar ac (pk sd 26 _ _ _ _) dB))<|fk (TriC.code (aZ (dD sd 27)) (ar ac (pk sd 27 _ _ _ _) dB))<|fk (TriC.code (aZ (dD sd 28)) (ar ac (pk sd 28 _ _ _ _) dB))<|fk (TriC.code (aZ (dD sd 29)) (ar ac (pk sd 29 _ _ _ _) dB))<|fk (TriC.code (aZ (dD sd 30)) (ar ac (pk sd 30 _ _ _ _) dB))<|fk (TriC.code (aZ (dD sd 31)) (ar ac (pk sd 31 _ _ _ _) dB))<|fk (kA (iC (w:=W2 w b c) (S:=cn (PP w b c)) (B:=1971) (gh:=[]) (n:=Zd (n6+38) 1971) (t:=Zd (t6+717) 5571) (C:=fun Γ=>Lim Γ 80) ac (a:=Zd n6 1971) (b:=Zd n6 1974) (xs:=[.int 0 (Zd t6 5571)]) (ys:=((List.range' 217 31).map fun k=>.int (qc sd un k) (CT sd un t t6 (t6+717) k))) (k:=0) (m:=31) (show 32≤sizeLine by decide)))<|fk (TriC.code (aZ (OJ sd 6)) (ar ac (Vb 1 1 0 _ _ _ (Zg _ (by decide))) (Zj (Zh (Zg (sd/6) (by decide:0<3)) (by decide)))))<|aa)
    (ab ⟨by kernel_rfl,Uu (kA HR)⟩<|ab ⟨by kernel_rfl,bp (by kernel_rfl) (kd HS')⟩ aa)
    (by repeat' first|exact aa|refine fc (hF _ (by decide +kernel)) ?_)
  refine⟨z,n6,t6,n6+44,hz,?_⟩
  exact TriC.cast (cW key (List.Perm.refl _) (T7 _ _)) (by kernel_rfl) rfl rfl (by kernel_rfl) (by kernel_rfl) (by kernel_rfl) rfl rfl (by kernel_rfl)
section
variable(w:Z8)(b c:Bool)(A:AS)(s:BS)(gh:gHs)(n t L:Nat)
include w b c A s gh n t L
theorem Up(nn tt:Nat→Nat)(ml:List Z6)(mm:Nat)(q:Int×Nat)(io so:Obj)(hc:∀k∈([⟨.builtin "sum.loop" ⟨[.ref (Zd n 1971),.ref (Zd n 1972),.int 0 0,.int 0 0],[]⟩,10,1,[(8,cI (Zd (A.a 7) 1971) 0),(7,am ml mm),(9,am [.int 0 (Zd t 5571)] 0)],.ok (.ret (.int q.1 q.2)),11,2,[(8,io),(7,am ml mm),(9,so)]⟩]:List Call),bE (MM w b c) (gX w b c (bz (bx A) [(11,Zd (nn 0) 1971),(8,Zd n 1971)]) (aQ [(2,Zd (tt 0) 5571),(0,Zd t 5571)]) (Ga gh)) L k):
 TX w b c (40+L) (.call (.builtin "sum") ⟨[.ref (Zd (A.a 7) 1971)],[]⟩) (Ga gh) (bz (bx A) [(11,Zd (nn 0) 1971),(8,Zd n 1971)]) (aQ [(2,Zd (tt 0) 5571),(0,Zd t 5571)]) 8 [(7,am ml mm)] (.ok (.ret (.int q.1 q.2))) 11 [(7,am ml mm)] 2:=
 lF (H:=hm [8,8,8,9,1001]) hc (lu:=[]) nMm rfl rfl (fun bl p=>by kernel_rfl) (cs:=[]) nMm bS
theorem Th(k tx:Nat):
 TX w b c (40+L) (.call (.builtin "abs") ⟨[.int (Zo k) tx],[]⟩) (Ga gh) (Ra A n) (Ka t) 7 [] (.ok (.ret (.int (Zo k) tx))) 7 [] 0:=
 lF (H:=hm []) aa (lu:=[]) nMm rfl rfl (fun bl p=>by kernel_rfl) (cs:=[]) nMm bS
theorem Tf(tx:Nat):
 TX w b c (40+L) (.call (.builtin "abs") ⟨[.int (Int.negSucc 0) tx],[]⟩) (Ga gh) (Ra A n) (Ka t) 7 [] (.ok (.ret (.int 1 (Ka t 0)))) 7 [] 1:=
 lF (H:=hm []) aa (lu:=[]) nMm rfl rfl (fun bl p=>by kernel_rfl) (cs:=[]) nMm bS
theorem Tg(k tx:Nat):
 TX w b c (40+L) (.call (.builtin "abs") ⟨[.int (Int.negSucc (Nat.succ k)) tx],[]⟩) (Ga gh) (Ra A n) (Ka t) 7 [] (.ok (.ret (.int (Neg.neg (Int.negSucc (Nat.succ k))) (Ka t 0)))) 7 [] 1:=
 lF (H:=hm []) aa (lu:=[]) nMm rfl rfl (fun bl p=>by kernel_rfl) (cs:=[]) nMm bS
end
section
variable(w:Z8)(b c:Bool)(A:AS)(s:BS)(gh:gHs)(n t L:Nat)(nn tt:Nat→Nat)(vv:Nat→Nat→Nat)(bl0:List (Xo×Z4))(fo io ao lo:Obj)(ml ys yz:List Z6)(lv:Z6)(mm ym yn i lk nt at_:Nat)(nv av:Int)
noncomputable def eE(Y0:Nat):Nat:=Zd (A.a Y0) 1971
def tY:Xo:=OE 0 (eE A 0) (eE A 2) (eE A 3) (eE A 4) []
def Bb(Y0:Nat):Xo:=cB "list_iterator.__next__" [rA A Y0]
noncomputable def wz(x0 x1 x2:Nat):List (Nat×Nat):=[(x0,Zd (nn 1) 1971),(x1,Zd (nn 0) 1971),(x2,Zd n 1971)]
noncomputable def wA(x0 x1:Nat):List (Nat×Nat):=[(x0,Zd (tt 1) 5571),(x1,Zd (tt 0) 5571),(0,Zd t 5571)]
def wB(x0:Nat):Call:=⟨Bb A 0,x0,0,[(0,cI (eE A 1) i),(1,am ml mm)],rV (.int nv nt),x0,0,[(0,cI (eE A 1) (i+1)),(1,am ml mm)]⟩
def wC:Call:=⟨cB "list.append" [rA A 2,.int (af av 1000000000) (Zd (tt 0) 5574)],6,6,[(2,am ys ym)],rV .none,6,6,[(2,am yz yn)]⟩
def qK:Xo:=(tY A)
noncomputable def K6(x0 x1 x2:Nat):List (Nat×Nat):=[(x0,Zd (nn 0) 1971),(x1,Zd (vv 0 0) 1971),(x2,Zd n 1971)]
noncomputable def K7:List (Nat×Nat):=[(1,Zd (tt 0) 5571),(0,Zd t 5571)]
def K8(x0 x1 x2:Nat):Call:=⟨Bb A 0,x0,0,[(0,cI (eE A 1) i),(1,am ml mm)],.error (.ref (Zd (vv 0 0) 1971)),x1,1,[(0,fj i),(1,am ml mm),(x2,g6 (Zd (vv 0 1) 1971))]⟩
include w b c A s gh n t L nn tt vv bl0 fo io ao lo ml ys yz lv mm ym yn i lk nt at_ nv av
theorem ZK:o5 w b c A gh L 40 (wz n nn 7 6 5) (wA t tt 7 2) [wB A ml mm i nt nv 5,cS (.call (Value.builtin "abs") ⟨[.int nv nt],[]⟩) 5 1 [] (rV (.int av at_)) 6 2,wC A tt ys yz ym yn av] [⟨tY A,6,6,[(0,cI (eE A 1) (i+1)),(1,am ml mm),(2,am yz yn),(3,dO [ae w b c oJ (Zd t 5571) (.int nv nt)] 1),(4,fo)],.ok .next,7,7,[(0,io),(1,am ml mm),(2,ao),(3,lo),(4,fo)]⟩] [bl0] bl0 (qK A) 5 [(0,cI (eE A 1) i),(1,am ml mm),(2,am ys ym),(3,dO [] 0),(4,fo)] (.ok Flow.next) 7 [(0,io),(1,am ml mm),(2,ao),(3,lo),(4,fo)] 7:=pL (hm [1,1,1001,4,4,0,0,4,1002,0,3,1003,1500])
theorem ZL:o5 w b c A gh L 40 (wz n nn 7 6 5) (wA t tt 7 2) [wB A ml mm i nt nv 5,cS (.call (Value.builtin "abs") ⟨[.int nv nt],[]⟩) 5 1 [] (rV (.int av at_)) 6 2,wC A tt ys yz ym yn av] [⟨tY A,6,6,[(0,cI (eE A 1) (i+1)),(1,am ml mm),(2,am yz yn),(3,dO [ae w b c oJ lk (.int nv nt)] 1),(4,fo)],.ok .next,7,7,[(0,io),(1,am ml mm),(2,ao),(3,lo),(4,fo)]⟩] [bl0] bl0 (qK A) 5 [(0,cI (eE A 1) i),(1,am ml mm),(2,am ys ym),(3,dO [ae w b c oJ lk lv] 1),(4,fo)] (.ok Flow.next) 7 [(0,io),(1,am ml mm),(2,ao),(3,lo),(4,fo)] 7:=pL (hm [1,1,1001,4,4,0,0,4,1002,0,3,1003,1500])
theorem ZJ:DT w b c A gh L 40 (K6 n nn vv 7 6 5) (K7 t tt) [K8 A vv ml mm i 5 7 6] bl0 (qK A) 5 [(0,cI (eE A 1) i),(1,am ml mm),(2,am ys ym),(3,lo),(4,fo)] (.ok Flow.next) 7 [(0,fj i),(1,am ml mm),(2,am ys ym),(3,lo),(4,fo)] 1:=Ha (hm [1,1,1001,7])
end
theorem Ah(w:Z8)(b c:Bool)(v:Int)(u n t:Nat):∃t' u':Nat,Tri (MM w b c) (cn (PP w b c)) 1971 80 (.call (.builtin "abs") ⟨[.int v u],[]⟩) [] [] (Zd n 1971) (Zd t 5571) (.ok (.ret (.int (v.natAbs:Int) u'))) [] [] (Zd n 1971) (Zd t' 5571):=by
 have A:AS:=⟨fun _=>0,fun _=>0⟩
 have s:BS:=⟨fun _=>(0,0),fun _=>(0,0),fun _=>(0,0),(0,0),(0,0),0,#[],0⟩
 cases v with
 |ofNat k=>exact⟨t,u,Th w b c A s [] n t 40 k u⟩
 |negSucc k=>
  cases k with
  |zero=>exact⟨t+1,Zd t 5571,TriC.cast (Tf w b c A s [] n t 40 u) rfl rfl rfl rfl rfl (nf t 5571 1) rfl rfl rfl⟩
  |succ k=>exact⟨t+1,Zd t 5571,TriC.cast (Tg w b c A s [] n t 40 k u) rfl rfl rfl rfl rfl (nf t 5571 1) rfl rfl rfl⟩
theorem pK{M:Model}{S:HT}{B:Nat}{bl:List (Xo×Z4)}(hb:unitsOf bl+640<700){cd:Xo}{gh X:gHs}{n t:Nat}{r:Xc}{gh' Y:gHs}{n' t':Nat}
  (H:TriAt M S B 120 bl cd gh X n t r gh' Y n' t'):TriAt M S B 80 bl cd gh X n t r gh' Y n' t':=
 TriC.mono (fun Γ h=>⟨⟨h.1.1,by rw[h.2];omega⟩,h.2⟩) H
def rv(z:Z6):Prop:=∃v u:Nat,z=.int (Zo v) u∧v<1000000000
theorem BV(v:Int)(u:Nat):rv (.int (af (v.natAbs:Int) 1000000000) u):=⟨v.natAbs%1000000000,u,by rw[show af (v.natAbs:Int) 1000000000=((v.natAbs%1000000000:Nat):Int) from eh _ 1000000000];rfl,Zg _ (by decide)⟩
abbrev vW(P:Z5)(x:List Nat)(k:Nat)(v:Z6):Obj:=dO [kS P ⟨⟨x⟩⟩ k v] 1
section
variable(w:Z8)(b c:Bool)(it ls acc loc fr:Nat)(bl:List (Xo×Z4))(hb:unitsOf bl+640<700)(fo:Obj)(ml:List Z6)(mm:Nat)
abbrev Gh(i:Nat)(ys:List Z6)(ym:Nat)(d:Obj)(n t:Nat)(zs:List Z6)(zm:Nat)(io d':Obj)(n' t':Nat):Prop:=
 TriAt (MM w b c) (cn (PP w b c)) 1971 120 bl (OE 0 (ad it) (ad acc) (ad loc) (ad fr) []) [] [(ad it,cI (ad ls) i),(ad ls,am ml mm),(ad acc,am ys ym),(ad loc,d),(ad fr,fo)] (Zd n 1971) (Zd t 5571) (.ok .next) []
  [(ad it,io),(ad ls,am ml mm),(ad acc,am zs zm),(ad loc,d'),(ad fr,fo)] (Zd n' 1971) (Zd t' 5571)
abbrev aK(it ls acc loc fr:Nat):AS:=⟨eZ [(0,it),(1,ls),(2,acc),(3,loc),(4,fr)] (fun _=>0),fun _=>0⟩
theorem AI(s:BS)(i:Nat)(hx:ml[i]?=none)(ys:List Z6)(ym:Nat)(d:Obj)(n t:Nat):Gh w b c it ls acc loc fr bl fo ml mm i ys ym d n t ys ym (fj i) d (n+2) t:=by
 have key:=ZJ w b c (aK it ls acc loc fr) s [] n t 80 (fun _=>n+2) (fun _=>t) (fun _ j=>cond (Ze j 0) (n+1) n) bl fo fo fo d ml ys ys .none mm ym ym i 0 0 0 0 0
  (ab ⟨by kernel_rfl,TriC.cast (kY (p:=prog2) (w:=W2 w b c) (S:=cn (PP w b c)) (B:=1971) (gh:=[]) (n:=Zd n 1971) (t:=Zd t 5571) (C:=fun Γ=>Lim Γ 80) ac (it:=ad it) (l:=ad ls) (i:=i) (m:=mm) (xs:=ml) hx)
   (by kernel_rfl) rfl rfl (post1:=[(ad it,fj i),(ad ls,am ml mm),(Zd (n+1) 1971,g6 (Zd n 1971))]) (by rw[←nf n 1971 1]) (nf n 1971 2) rfl rfl rfl (by rw[show Zd n 1971+1=Zd (n+1) 1971 from nf n 1971 1];rfl)⟩ aa)
 exact kc key
include hb
theorem OG(s:BS)(hm:∀j,j<ml.length→∃(v:Int) (u:Nat),ml[j]?=some (.int v u)):∀(k i:Nat) (ys:List Z6) (ym lk:Nat) (lv:Z6) (n t:Nat),i+k=ml.length→ys.length+k≤1000→
  ∃(ps:List Z6) (zm lk' n' t':Nat) (lv':Z6) (io:Obj),ps.length=k∧(∀z∈ps,rv z)∧Gh w b c it ls acc loc fr bl fo ml mm i ys ym (vW (PP w b c) [110] lk lv) n t (ys++ps) zm io (vW (PP w b c) [110] lk' lv') n' t':=by
 intro k
 induction k with
 |zero=>
  intro i ys ym lk lv n t hi hl
  exact⟨[],ym,lk,n+2,t,lv,fj i,rfl,aa,by rw[List.append_nil];exact AI w b c it ls acc loc fr bl fo ml mm s i (List.getElem?_eq_none (by omega)) ys ym _ n t⟩
 |succ k ih=>
  intro i ys ym lk lv n t hi hl
  obtain⟨v,u,hx⟩:=hm i (by omega)
  obtain⟨t0,u0,H0⟩:=Ah w b c v u n (t+1)
  obtain⟨ps,zm,lk',n',t',lv',io,h1,h2,H⟩:=ih (i+1) (ys++[.int (af (v.natAbs:Int) 1000000000) (Zd t0 5574)]) (ym+1) lk (.int v u) n (t0+4) (by omega) (by simp;omega)
  rw[Qs]at H
  refine⟨.int (af (v.natAbs:Int) 1000000000) (Zd t0 5574)::ps,zm,lk',n',t',lv',io,by rw[List.length_cons,h1],ab (BV _ _) h2,?_⟩
  have key:=ZL w b c (aK it ls acc loc fr) s [] n t 80 (fun i=>cond (Ze i 0) n n') (fun i=>cond (Ze i 0) t0 t') (fun _ _=>0) bl fo io (am (ys++(.int (af (v.natAbs:Int) 1000000000) (Zd t0 5574)::ps)) zm) (vW (PP w b c) [110] lk' lv') ml ys (ys++[.int (af (v.natAbs:Int) 1000000000) (Zd t0 5574)]) lv mm ym (ym+1) i lk u u0 v (v.natAbs:Int)
   (fk (fT ac hx)<|fk (TriC.cast H0 rfl rfl (nf t 5571 1).symm rfl rfl rfl rfl rfl rfl)<|fk (lY ac (by simp[sizeLine];omega))<|aa)
   (ab ⟨by kernel_rfl,kd (pK hb H)⟩ aa)
  exact kc key
theorem OF(s:BS)(hm:∀j,j<ml.length→∃(v:Int) (u:Nat),ml[j]?=some (.int v u))(hl:ml.length≤900)(h0:ml≠[])(n t:Nat):
  ∃(ps:List Z6) (zm lk' n' t':Nat) (lv':Z6) (io:Obj),ps.length=ml.length∧(∀z∈ps,rv z)∧Gh w b c it ls acc loc fr bl fo ml mm 0 [] 0 (dO [] 0) n t ps zm io (vW (PP w b c) [110] lk' lv') n' t':=by
 obtain⟨k,hk⟩:∃k,ml.length=k+1:=by
  cases ml with
  |nil=>exact absurd rfl h0
  |cons x l=>exact⟨l.length,rfl⟩
 obtain⟨v,u,hx⟩:=hm 0 (by omega)
 obtain⟨t0,u0,H0⟩:=Ah w b c v u n (t+1)
 obtain⟨ps,zm,lk',n',t',lv',io,h1,h2,H⟩:=OG w b c it ls acc loc fr bl hb fo ml mm s hm k 1 [.int (af (v.natAbs:Int) 1000000000) (Zd t0 5574)] 1 (Zd t 5571) (.int v u) n (t0+4) (by omega) (by simp;omega)
 refine⟨.int (af (v.natAbs:Int) 1000000000) (Zd t0 5574)::ps,zm,lk',n',t',lv',io,by rw[List.length_cons,h1,hk],ab (BV _ _) h2,?_⟩
 have key:=ZK w b c (aK it ls acc loc fr) s [] n t 80 (fun i=>cond (Ze i 0) n n') (fun i=>cond (Ze i 0) t0 t') (fun _ _=>0) bl fo io (am (.int (af (v.natAbs:Int) 1000000000) (Zd t0 5574)::ps) zm) (vW (PP w b c) [110] lk' lv') ml [] [.int (af (v.natAbs:Int) 1000000000) (Zd t0 5574)] .none mm 0 1 0 0 u u0 v (v.natAbs:Int)
  (fk (fT ac hx)<|fk (TriC.cast H0 rfl rfl (nf t 5571 1).symm rfl rfl rfl rfl rfl rfl)<|fk (lY ac (by decide))<|aa)
  (ab ⟨by kernel_rfl,kd (pK hb H)⟩ aa)
 exact kc key
end
def isN(x:Int):Prop:=∃n:Nat,x=n
theorem isN.mul{x y:Int}(hx:isN x)(hy:isN y):isN (ah x y):=by obtain⟨a,rfl⟩:=hx;obtain⟨b,rfl⟩:=hy;exact⟨_,eU a b⟩
theorem isN.mod{x y:Int}(hx:isN x)(hy:isN y):isN (af x y):=by obtain⟨a,rfl⟩:=hx;obtain⟨b,rfl⟩:=hy;exact⟨_,eh a b⟩
theorem isN.div{x y:Int}(hx:isN x)(hy:isN y):isN (an x y):=by obtain⟨a,rfl⟩:=hx;obtain⟨b,rfl⟩:=hy;exact⟨_,jX a b⟩
theorem isN.o(n:Nat):isN (Zo n):=⟨n,rfl⟩
theorem isN.l(n:Nat):isN (OfNat.ofNat n):=⟨n,rfl⟩
theorem isN.mask{x:Int}(hx:isN x):∃n:Nat,Za x 4294967295=n∧n<2^32:=by
 obtain⟨a,rfl⟩:=hx
 exact⟨a%4294967296,oS a,Zg _ (by decide)⟩
theorem isN.mask2{x:Int}(hx:isN x)(m:Nat):∃n:Nat,Za (Za x 4294967295) (OfNat.ofNat m)=n∧n<2^32:=by
 obtain⟨n,h,hn⟩:=hx.mask
 exact⟨n &&& m,by rw[h];exact ay n m,Zt Nat.and_le_left hn⟩
theorem NU:∀x,x<1024→(x &&& 546)∈H8:=by decide +kernel
theorem mM(sd:Nat):hN sd∈H8:=NU _ (Zg _ (by decide))
noncomputable def rJ(a b c d e f g:Nat):Nat:=2*a+32*b+256*c+262144*d+8*e+128*f+2048*g
theorem QS:∀a∈[0,1],∀b∈[0,1],∀c∈[0,1],∀d∈[0,1,2,3],∀e∈[0,1],∀f∈[0,1],∀g∈[0,1,3],rJ a b c d e f g &&& 4294967295=rJ a b c d e f g∧(rJ a b c d e f g &&& 924074) &&& 6144≠4096∧(rJ a b c d e f g &&& 924074) &&& 786722=rJ a b c d 0 0 0∧(rJ a b c d e f g &&& 924074) &&& 131072=0:=by decide +kernel
theorem jj(x:Nat):x%2∈[0,1]:=by
 rcases Nat.mod_two_eq_zero_or_one x with h|h<;>rw[h]<;>decide
theorem EH(x:Nat):x%4∈[0,1,2,3]:=by
 have h:x%4<4:=Zg _ (by decide)
 generalize x%4=j at h
 rcases j with _|_|_|_|j<;>first|decide|omega
theorem BY(j:Nat)(hj:j<3):iL [0,1,3] j∈[0,1,3]:=by
 rcases j with _|_|_|j
 ·decide
 ·decide
 ·decide
 ·omega
def stN(sd un:Nat):Nat:=rJ (sd%2) (sd/2%2) (sd/8%2) (sd/16%4) (un%2) (un/2%2) (iL [0,1,3] (un/4%3))
theorem QR(sd un:Nat):bI sd un 768=((stN sd un:Nat):Int):=by
 have m:∀x y:Nat,af (Zo x) (Zo y)=Zo (x%y):=mS
 have dm:∀x k y:Nat,af (an (Zo x) (Zo k)) (Zo y)=Zo (x/k%y):=fun x k y=>by rw[oM,mS]
 have mu:∀x y:Nat,ah (Zo x) (Zo y)=Zo (x*y):=eU
 show ((((((ah (Zo 2) (af (Zo sd) (Zo 2)))+(ah (Zo 32) (af (an (Zo sd) (Zo 2)) (Zo 2))))+(ah (Zo 256) (af (an (Zo sd) (Zo 8)) (Zo 2))))+(ah (Zo 262144) (af (an (Zo sd) (Zo 16)) (Zo 4))))+(ah (Zo 8) (af (Zo un) (Zo 2))))+(ah (Zo 128) (af (an (Zo un) (Zo 2)) (Zo 2))))+(ah (Zo 2048) (Zo (iL [0,1,3] (un/4%3))))=_
 rw[m,m,dm,dm,dm,dm,mu,mu,mu,mu,mu,mu,mu]
 rfl
theorem kN(sd un:Nat):stN sd un &&& 4294967295=stN sd un∧(stN sd un &&& 924074) &&& 6144≠4096∧(stN sd un &&& 924074) &&& 786722=rJ (sd%2) (sd/2%2) (sd/8%2) (sd/16%4) 0 0 0∧(stN sd un &&& 924074) &&& 131072=0:=
 QS _ (jj _) _ (jj _) _ (jj _) _ (EH _) _ (jj _) _ (jj _) _ (BY _ (Zg _ (by decide)))
theorem vk(sd un:Nat):Za (Za (bI sd un 768) 4294967295) 924074=((stN sd un &&& 924074:Nat):Int):=by
 rw[QR,show (4294967295:Int)=((4294967295:Nat):Int) from rfl,ay,(kN sd un).1];exact ay _ 924074
theorem Cx(sd un:Nat):(Xl (Za (Za (Za (bI sd un 768) 4294967295) 924074) 6144) 4096)=false:=by
 rw[vk,show (6144:Int)=((6144:Nat):Int) from rfl,ay]
 have:=(kN sd un).2.1
 cases e:(Xl (((stN sd un &&& 924074) &&& 6144:Nat):Int) 4096) with
 |false=>rfl
 |true=>exact absurd (Int.ofNat.inj (eq_of_beq e)) this
theorem Tx:∀h∈H8,(4294967295 &&& 2730) &&& h=h∧(2730-h) &&& h=0∧h &&& h=h:=by decide
theorem OS(sd un:Nat):∃y:Nat,Za (Za (bI sd un 772) 4294967295) 2730=((((((sd*11%4096) &&& hN sd) ||| (y &&& (2730-hN sd))) &&& 4294967295) &&& 2730:Nat):Int):=by
 refine⟨un*31%4096,?_⟩
 have e1:af (ah (Zo sd) 11) 4096=((sd*11%4096:Nat):Int):=by rw[show ah (Zo sd) 11=((sd*11:Nat):Int) from eU sd 11];exact eh _ 4096
 have e2:af (ah (Zo un) 31) 4096=((un*31%4096:Nat):Int):=by rw[show ah (Zo un) 31=((un*31:Nat):Int) from eU un 31];exact eh _ 4096
 have e3:oE sd=((hN sd:Nat):Int):=pC sd
 show Za (Za (Zb (Za (af (ah (Zo sd) 11) 4096) (oE sd)) (Za (af (ah (Zo un) 31) 4096) (Zc 2730 (oE sd)))) 4294967295) 2730=_
 rw[e1,e2,e3,JS _ (mM sd),ay,ay,b9,show (4294967295:Int)=((4294967295:Nat):Int) from rfl,ay]
 exact ay _ 2730
theorem Bh{h x y:Nat}(h8:h∈H8):((((x &&& h) ||| (y &&& (2730-h))) &&& 4294967295) &&& 2730) &&& h=x &&& h:=by
 obtain⟨h1,h2,h3⟩:=Tx h h8
 rw[Zq,Zq,←Zq 4294967295,h1,Zl,Zq,Zq,h3,h2,Nat.and_zero,Nat.or_zero]
noncomputable def pickV(sd k:Nat):Nat:=[sd*2654435761*k%4294967296,4294967295,2730,2147483648].getD ((sd/9+k)%4) 0
theorem lt4{m j:Nat}(hm:m<2^32)(hj:j<4):[m,4294967295,2730,2147483648].getD j 0<2^32:=by
 rcases j with _|_|_|_|j
 ·exact hm
 ·show 4294967295<2^32
  decide
 ·show 2730<2^32
  decide
 ·show 2147483648<2^32
  decide
 ·omega
theorem K4(sd k:Nat):pickV sd k<2^32:=lt4 (Zg _ (by decide)) (Zg _ (by decide))
theorem Fl(sd k:Nat):lJ sd k=((pickV sd k:Nat):Int):=by
 have e3:ah (Zo sd) 2654435761=((sd*2654435761:Nat):Int):=eU sd 2654435761
 have e4:ah ((sd*2654435761:Nat):Int) (k:Int)=((sd*2654435761*k:Nat):Int):=eU _ k
 have e5:af ((sd*2654435761*k:Nat):Int) 4294967296=((sd*2654435761*k%4294967296:Nat):Int):=eh _ 4294967296
 unfold lJ
 rw[e3,e4,e5]
 exact pkB _ 4294967295 2730 2147483648 (Zg _ (by decide))
theorem uW(sd un t t6 t7 k:Nat)(hk:k<32):(wQ sd un t t6 t7 k).1=cond (Ze k 0) 0 (lJ sd k):=by
 unfold wQ
 cases e:Ze k 0 with
 |true=>rfl
 |false=>
  show qc sd un (k+216)=lJ sd k
  unfold qc
  have b1:Ze (k+216) 39=false:=by
   cases e:Ze (k+216) 39 with
   |false=>rfl
   |true=>have:=Zs e;omega
  have b2:Ze (k+216) 251=false:=by
   cases e:Ze (k+216) 251 with
   |false=>rfl
   |true=>have:=Zs e;omega
  rw[b1,b2]
  show lJ sd (k+216-216)=_
  rw[Nat.add_sub_cancel]
theorem Pt(sd un:Nat):qc sd un 251=0∨qc sd un 251=1:=by
 show Zo (iL [1,1,0] (sd/6%3))=0∨Zo (iL [1,1,0] (sd/6%3))=1
 have h:sd/6%3<3:=Zg _ (by decide)
 generalize sd/6%3=j at h
 rcases j with _|_|_|j
 ·exact .inr rfl
 ·exact .inr rfl
 ·exact .inl rfl
 ·omega
section
variable{w:Z8}{b c:Bool}{sd un uq n t t6 t7:Nat}{z:Nat→Int×Nat}(hz:∀k,(z k).1=bc (vz (fZ w b c sd un uq n t)) 836 ((wrun sd un (hN sd) 0 LN:Nat):Int) k)
include hz
theorem jt:(z 768).1=((stN sd un &&& 924074:Nat):Int):=by rw[hz,cF (by decide)];exact vk sd un
theorem gi:(z 771).1=((hN sd:Nat):Int):=by
 rw[hz,cF (by decide)]
 show Za (Za (oE sd) 4294967295) 546=_
 rw[show oE sd=((hN sd:Nat):Int) from pC sd,show (4294967295:Int)=((4294967295:Nat):Int) from rfl,ay,show (546:Int)=((546:Nat):Int) from rfl,ay]
 have:∀h∈H8,(h &&& 4294967295) &&& 546=h:=by decide
 rw[this _ (mM sd)]
theorem mz:∃y:Nat,(z 772).1=((((((sd*11%4096) &&& hN sd) ||| (y &&& (2730-hN sd))) &&& 4294967295) &&& 2730:Nat):Int):=by
 obtain⟨y,h⟩:=OS sd un
 exact⟨y,by rw[hz,cF (by decide)];exact h⟩
theorem mA:(z 836).1=((wrun sd un (hN sd) 0 LN:Nat):Int):=by rw[hz,cr]
end
section
variable(w:Z8)(b c:Bool)(sd un uq n t t6 t7:Nat)(z:Nat→Int×Nat)
theorem qN:bI sd un 261=af (ah 4 (Zo sd)) 4294967296:=by kernel_rfl
theorem FG:isN (bI sd un 261):=by rw[qN];exact((isN.mul (isN.l 4) (isN.o sd)).mod (isN.l _))
theorem mB:((dt w b c sd un uq n t t6 t7 z).p 261).1=Za (Za (bI sd un 261) 4294967295) 4294967293:=by kernel_rfl
theorem xX:∃m:Nat,((dt w b c sd un uq n t t6 t7 z).p 261).1=m∧m<2^32:=by rw[mB];exact(FG sd un).mask2 4294967293
theorem qO:bI sd un 262=af (an (Zo sd) 5) 8:=by kernel_rfl
theorem FH:isN (bI sd un 262):=by rw[qO];exact(((isN.o sd).div (isN.l 5)).mod (isN.l _))
theorem mC:((dt w b c sd un uq n t t6 t7 z).p 262).1=Za (Za (bI sd un 262) 4294967295) 7:=by kernel_rfl
theorem xY:∃m:Nat,((dt w b c sd un uq n t t6 t7 z).p 262).1=m∧m<2^32:=by rw[mC];exact(FH sd un).mask2 7
theorem qP:bI sd un 320=af (ah (Zo sd) 3) 4294967296:=by kernel_rfl
theorem FI:isN (bI sd un 320):=by rw[qP];exact(((isN.o sd).mul (isN.l 3)).mod (isN.l _))
theorem mD:((dt w b c sd un uq n t t6 t7 z).p 320).1=Za (bI sd un 320) 4294967295:=by kernel_rfl
theorem xZ:∃m:Nat,((dt w b c sd un uq n t t6 t7 z).p 320).1=m∧m<2^32:=by rw[mD];exact(FI sd un).mask
theorem qQ:bI sd un 321=ah 4 (af (Zo sd) 1000):=by kernel_rfl
theorem FJ:isN (bI sd un 321):=by rw[qQ];exact((isN.l 4).mul ((isN.o sd).mod (isN.l _)))
theorem mE:((dt w b c sd un uq n t t6 t7 z).p 321).1=Za (Za (bI sd un 321) 4294967295) 4294967292:=by kernel_rfl
theorem yc:∃m:Nat,((dt w b c sd un uq n t t6 t7 z).p 321).1=m∧m<2^32:=by rw[mE];exact(FJ sd un).mask2 4294967292
theorem qR:bI sd un 322=af (Zo sd) 64:=by kernel_rfl
theorem FK:isN (bI sd un 322):=by rw[qR];exact((isN.o sd).mod (isN.l _))
theorem mF:((dt w b c sd un uq n t t6 t7 z).p 322).1=Za (bI sd un 322) 4294967295:=by kernel_rfl
theorem ye:∃m:Nat,((dt w b c sd un uq n t t6 t7 z).p 322).1=m∧m<2^32:=by rw[mF];exact(FK sd un).mask
theorem LH:bI sd un 773=af (ah 4 (Zo un)) 4294967296:=by kernel_rfl
theorem FM:isN (bI sd un 773):=by rw[LH];exact((isN.mul (isN.l 4) (isN.o un)).mod (isN.l _))
theorem AN:((dt w b c sd un uq n t t6 t7 z).p 773).1=Za (Za (bI sd un 773) 4294967295) 4294967293:=by kernel_rfl
theorem yh:∃m:Nat,((dt w b c sd un uq n t t6 t7 z).p 773).1=m∧m<2^32:=by rw[AN];exact(FM sd un).mask2 4294967293
theorem qS:bI sd un 774=af (an (Zo sd) 4) 8:=by kernel_rfl
theorem FN:isN (bI sd un 774):=by rw[qS];exact(((isN.o sd).div (isN.l 4)).mod (isN.l _))
theorem mH:((dt w b c sd un uq n t t6 t7 z).p 774).1=Za (Za (bI sd un 774) 4294967295) 7:=by kernel_rfl
theorem yi:∃m:Nat,((dt w b c sd un uq n t t6 t7 z).p 774).1=m∧m<2^32:=by rw[mH];exact(FN sd un).mask2 7
theorem LI:bI sd un 832=af (ah (Zo un) 7) 4294967296:=by kernel_rfl
theorem FO:isN (bI sd un 832):=by rw[LI];exact(((isN.o un).mul (isN.l 7)).mod (isN.l _))
theorem AO:((dt w b c sd un uq n t t6 t7 z).p 832).1=Za (bI sd un 832) 4294967295:=by kernel_rfl
theorem yj:∃m:Nat,((dt w b c sd un uq n t t6 t7 z).p 832).1=m∧m<2^32:=by rw[AO];exact(FO sd un).mask
theorem LJ:bI sd un 833=af (ah 8 (Zo un)) 4294967296:=by kernel_rfl
theorem FP:isN (bI sd un 833):=by rw[LJ];exact((isN.mul (isN.l 8) (isN.o un)).mod (isN.l _))
theorem AP:((dt w b c sd un uq n t t6 t7 z).p 833).1=Za (Za (bI sd un 833) 4294967295) 4294967292:=by kernel_rfl
theorem yk:∃m:Nat,((dt w b c sd un uq n t t6 t7 z).p 833).1=m∧m<2^32:=by rw[AP];exact(FP sd un).mask2 4294967292
theorem LK:bI sd un 834=af (Zo un) 4294967296:=by kernel_rfl
theorem FQ:isN (bI sd un 834):=by rw[LK];exact((isN.o un).mod (isN.l _))
theorem AQ:((dt w b c sd un uq n t t6 t7 z).p 834).1=Za (bI sd un 834) 4294967295:=by kernel_rfl
theorem yo:∃m:Nat,((dt w b c sd un uq n t t6 t7 z).p 834).1=m∧m<2^32:=by rw[AQ];exact(FQ sd un).mask
theorem LM:bI sd un 835=af (ah (Zo un) 13) 4294967296:=by kernel_rfl
theorem FR:isN (bI sd un 835):=by rw[LM];exact(((isN.o un).mul (isN.l 13)).mod (isN.l _))
theorem AR:((dt w b c sd un uq n t t6 t7 z).p 835).1=Za (bI sd un 835) 4294967295:=by kernel_rfl
theorem yp:∃m:Nat,((dt w b c sd un uq n t t6 t7 z).p 835).1=m∧m<2^32:=by rw[AR];exact(FR sd un).mask
theorem mG:((dt w b c sd un uq n t t6 t7 z).p 323).1=0:=by kernel_rfl
theorem yg:∃m:Nat,((dt w b c sd un uq n t t6 t7 z).p 323).1=m∧m<2^32:=by rw[mG];exact⟨0,rfl,by decide⟩
theorem LG:bI sd un 770=af (ah (Zo un) 40503) 65536:=by kernel_rfl
theorem FL:isN (bI sd un 770):=by rw[LG];exact((isN.o un).mul (isN.l _)).mod (isN.l _)
theorem AU:vz (fZ w b c sd un uq n t) 770=Za (Za (bI sd un 770) 4294967295) 46079:=by kernel_rfl
theorem AT:vz (fZ w b c sd un uq n t) 384=0:=by kernel_rfl
theorem yq:vz (fZ w b c sd un uq n t) 2816=0:=by kernel_rfl
theorem yr:vz (fZ w b c sd un uq n t) 2818=0:=by kernel_rfl
end
section
variable{w:Z8}{b c:Bool}{sd un uq n t t6 t7:Nat}{z:Nat→Int×Nat}(hz:∀k,(z k).1=bc (vz (fZ w b c sd un uq n t)) 836 ((wrun sd un (hN sd) 0 LN:Nat):Int) k)
include hz
theorem Km(k:Nat)(hk:k<32):∃m:Nat,((dt w b c sd un uq n t t6 t7 z).r k).1=m∧m<2^32:=by
 show ∃m:Nat,(wQ sd un t t6 t7 k).1=m∧m<2^32
 rw[uW _ _ _ _ _ _ hk]
 cases Ze k 0
 ·exact⟨_,Fl sd k,K4 sd k⟩
 ·exact⟨0,rfl,by decide⟩
theorem oL:(z 384).1=0:=by rw[hz,cF (by decide),AT]
theorem AK:(z 2816).1=0:=by rw[hz,cF (by decide),yq]
theorem AL:(z 2818).1=0:=by rw[hz,cF (by decide),yr]
theorem Kn:∀k∈[768,770,771,772,836,384],∃m:Nat,(z k).1=m∧m<2^32:=by
 refine @ab _ _ _ _ ?_ (ab ?_ (ab ?_ (ab ?_ (ab ?_ (ab ?_ aa)))))
 ·exact⟨_,jt hz,Zt Nat.and_le_right (by decide)⟩
 ·rw[hz,cF (by decide),AU]
  exact(FL sd un).mask2 46079
 ·exact⟨_,gi hz,yQ _ (mM sd)⟩
 ·obtain⟨y,h⟩:=mz hz
  exact⟨_,h,Zt Nat.and_le_right (by decide)⟩
 ·exact⟨_,mA hz,wY LN 0 (fun _ h=>h) (by decide)⟩
 ·exact⟨0,oL hz,by decide⟩
theorem Kl:Za (z 768).1 131072=0:=by
 rw[jt hz,show (131072:Int)=((131072:Nat):Int) from rfl,ay,(kN sd un).2.2.2];rfl
omit hz in
theorem Kk:∀k∈plainL,∃m:Nat,((dt w b c sd un uq n t t6 t7 z).p k).1=m∧m<2^32:=by
 exact @ab _ _ _ _ (xX w b c sd un uq n t t6 t7 z)<|ab (xY w b c sd un uq n t t6 t7 z)<|ab (xZ w b c sd un uq n t t6 t7 z)<|ab (yc w b c sd un uq n t t6 t7 z)<|ab (ye w b c sd un uq n t t6 t7 z)<|ab (yg w b c sd un uq n t t6 t7 z)<|ab (yh w b c sd un uq n t t6 t7 z)<|ab (yi w b c sd un uq n t t6 t7 z)<|ab (yj w b c sd un uq n t t6 t7 z)<|ab (yk w b c sd un uq n t t6 t7 z)<|ab (yo w b c sd un uq n t t6 t7 z)<|ab (yp w b c sd un uq n t t6 t7 z)<|aa
theorem tU:HInv (dt w b c sd un uq n t t6 t7 z) (hN sd):=
 ⟨⟨fun k hk=>Km hz k hk,Kk,Kn hz,AK hz,AL hz,Pt sd un,⟨4096,rfl,by decide⟩⟩,gi hz,Kl hz⟩
end
theorem AM{w:Z8}{b c:Bool}{sd un uq n t t6 t7 un' uq' n' t' t6' t7':Nat}{z z':Nat→Int×Nat}(hz:∀k,(z k).1=bc (vz (fZ w b c sd un uq n t)) 836 ((wrun sd un (hN sd) 0 LN:Nat):Int) k)
  (hz':∀k,(z' k).1=bc (vz (fZ w b c sd un' uq' n' t')) 836 ((wrun sd un' (hN sd) 0 LN:Nat):Int) k):Like (dt w b c sd un uq n t t6 t7 z) (dt w b c sd un' uq' n' t' t6' t7' z'):=by
 have h8:=mM sd
 refine⟨fun k hk=>?_,?_,(oL hz).trans (oL hz').symm,?_,?_,?_,rfl,?_⟩
 ·show (wQ sd un t t6 t7 k).1=(wQ sd un' t' t6' t7' k).1
  rw[uW _ _ _ _ _ _ hk,uW _ _ _ _ _ _ hk]
 ·refine @ab _ _ _ _ (by rw[mB,mB,qN,qN])<|ab (by rw[mC,mC,qO,qO])<|ab (by rw[mD,mD,qP,qP])<|ab (by rw[mE,mE,qQ,qQ])<|ab (by rw[mF,mF,qR,qR])<|ab (by rw[mG,mG])<|ab (by rw[mH,mH,qS,qS])<|aa
 ·show Za (z 768).1 786722=Za (z' 768).1 786722
  rw[jt hz,jt hz',show (786722:Int)=((786722:Nat):Int) from rfl,ay,ay,(kN sd un).2.2.1,(kN sd un').2.2.1]
 ·show Za (z 772).1 (z 771).1=Za (z' 772).1 (z' 771).1
  obtain⟨y,e1⟩:=mz hz
  obtain⟨y',e2⟩:=mz hz'
  rw[gi hz,gi hz',e1,e2,ay,ay,Bh h8,Bh h8]
 ·show Za (z 836).1 (z 771).1=Za (z' 836).1 (z' 771).1
  rw[gi hz,gi hz',mA hz,mA hz',ay,ay,rN h8 LN 0 0 (fun _ h=>h) rfl]
 ·rfl
theorem el{M:Model}{S:HT}{B:Nat}{cd:Xo}{gh pre:gHs}{n t:Nat}{r:Xc}{gh' post:gHs}{n' t':Nat}(H:Tri M S B 40 cd gh pre n t r gh' post n' t'):TriC M S B (fun Γ=>Lim Γ 80) cd gh pre n t r gh' post n' t':=TriC.mono (cA (by decide)) H
theorem OI(x y:Int)(tx ty:Nat):Builtin.«int.__lt__» ⟨[.int x tx,.int y ty],[]⟩=(.pure (.done (.ret (.bool (decide (x<y))))):Xj Z3):=by kernel_rfl
theorem ZG{w:Z8}{b c:Bool}{S:HT}{B:Nat}{gh:gHs}{n t:Nat}{C:Ctx→Prop}{x y:Int}{tx ty:Nat}:
  TriC (MM w b c) S B C (.builtin "int.__lt__" ⟨[.int x tx,.int y ty],[]⟩) gh [] n t (.ok (.ret (.bool (decide (x<y))))) gh [] n t:=
 k0 fun Γ P h' gs d os=>by rw[cU F.entry_int_lt,OI];exact .done
theorem BG:∀{l:List Z6},(∀z∈l,rv z)→∃ps,l=dQ ps∧pZ ps
 |[],_=>⟨[],rfl,aa⟩
 |z::l,h=>by
  obtain⟨ps,e,hp⟩:=BG (l:=l) fun y hy=>h y (Qp _ hy)
  obtain⟨v,u,hz,hv⟩:=h z List.mem_cons_self
  have h0:(v:Int)≤1000000000:=by omega
  have h1:(0:Int)≤Zo v∧Zo v≤1000000000:=⟨Int.natCast_nonneg v,h0⟩
  exact⟨(Zo v,u)::ps,by rw[e,hz];rfl,ab h1 hp⟩
theorem uY:∀{ps:List (Int×Nat)},pZ ps→∃p:Nat,gS ps=p
 |[],_=>⟨0,rfl⟩
 |x::ps,h=>by
  obtain⟨p,hp⟩:=uY (ps:=ps) fun y hy=>h y (Qp _ hy)
  have:=(h x List.mem_cons_self).1
  refine⟨x.1.toNat+p,?_⟩
  show x.1+gS ps=_
  rw[hp];push_cast;omega
inductive sum_okX (w:Z8) (b:Bool) (c:Bool) (l:List Z6) (mk:Nat) (n:Nat) (t:Nat):Prop where
 |mk (p n' t' u:Nat) (h0_:Tri (MM w b c) (cn (PP w b c)) 1971 80 (.call (.builtin "sum") ⟨[.ref (Zd mk 1971)],[]⟩) [] [(Zd mk 1971,am l 0)] (Zd n 1971) (Zd t 5571) (.ok (.ret (.int (Zo p) u))) [] [(Zd mk 1971,am l 0)] (Zd n' 1971) (Zd t' 5571)):sum_okX w b c l mk n t
theorem QT(w:Z8)(b c:Bool){l:List Z6}(hl:∀z∈l,rv z)(hlen:l.length≤40)(mk n t:Nat):sum_okX w b c l mk n t:=by
 obtain⟨ps,rfl,hp⟩:=BG hl
 have hl9:ps.length≤40:=by simpa [dQ] using hlen
 obtain⟨p,hpp⟩:=uY hp
 refine⟨p,n+2+2,t+1+ps.length,(if ps.length=0 then Zd t 5571 else Zd (t+1) 5571+ps.length-1),?_⟩
 have key:=Up w b c ⟨fun _=>mk,fun _=>0⟩ ⟨fun _=>(0,0),fun _=>(0,0),fun _=>(0,0),(0,0),(0,0),0,#[],0⟩ [] n t 40 (fun _=>n+2+2) (fun _=>t+1+ps.length) (dQ ps) 0 (Zo p,(if ps.length=0 then Zd t 5571 else Zd (t+1) 5571+ps.length-1))
  (fj ps.length) (am [.int (gS ps) (if ps.length=0 then Zd t 5571 else Zd (t+1) 5571+ps.length-1)] 0)
  (ab ⟨by kernel_rfl,TriC.cast (Af (prog:=prog2) (w:=W2 w b c) (S:=cn (PP w b c)) (B:=1971) (gh:=[]) (n:=Zd (n+2) 1971) (t:=Zd (t+1) 5571) (C:=fun Γ=>Lim Γ 40) ac (I:=Zd n 1971) (a:=Zd mk 1971) (St:=Zd n 1972) (ps:=ps) hp hl9 (m:=0) (tA:=Zd t 5571))
   rfl (nf n 1971 2).symm (nf t 5571 1).symm rfl (nf (n+2) 1971 2) (nf (t+1) 5571 ps.length) rfl rfl (by rw[hpp];rfl)⟩ aa)
 exact TriC.cast key rfl rfl rfl rfl rfl rfl rfl rfl rfl
inductive cm_bothX (w:Z8) (b:Bool) (c:Bool) (it:Nat) (ls:Nat) (acc:Nat) (loc:Nat) (fr:Nat) (bl:List (Xo×Z4)) (fo:Obj) (ml:List Z6) (n:Nat) (t:Nat):Prop where
 |mk (e:Bool) (ps:List Z6) (zm lk' n' t':Nat) (lv':Z6) (io:Obj) (h0_:ps.length=ml.length) (h1_:(∀z∈ps,rv z)) (h2_:Gh w b c it ls acc loc fr bl fo ml 0 0 [] 0 (dO [] 0) n t ps zm io (cond e (dO [] 0) (vW (PP w b c) [110] lk' lv')) n' t'):cm_bothX w b c it ls acc loc fr bl fo ml n t
theorem Ki(w:Z8)(b c:Bool)(it ls acc loc fr:Nat)(bl:List (Xo×Z4))(hb:unitsOf bl+640<700)(fo:Obj)(ml:List Z6)(hm:∀j,j<ml.length→∃(v:Int) (u:Nat),ml[j]?=some (.int v u))(hl:ml.length≤900)(n t:Nat):cm_bothX w b c it ls acc loc fr bl fo ml n t:=by
 have s:BS:=⟨fun _=>(0,0),fun _=>(0,0),fun _=>(0,0),(0,0),(0,0),0,#[],0⟩
 by_cases h:ml=[]
 ·subst h
  exact⟨true,[],0,0,n+2,t,.none,fj 0,rfl,aa,AI w b c it ls acc loc fr bl fo [] 0 s 0 rfl [] 0 (dO [] 0) n t⟩
 ·obtain⟨ps,zm,lk',n',t',lv',io,h1,h2,h3⟩:=OF w b c it ls acc loc fr bl hb fo ml 0 s hm hl h n t
  exact⟨false,ps,zm,lk',n',t',lv',io,h1,h2,h3⟩
noncomputable def UO(f:Nat→List Nat):Nat→Nat→List Nat
 |0,_=>[]
 |n+1,i=>f i++UO f n (i+1)
def G3(n:Nat)(f:Nat→List Nat):List Nat:=UO f n 0
def sC(e c:Bool):=LZ ([0,0,2,2,0,2,1,1,1,1,1001,7,7,7,8]++(cond c [3500] [8,8,8,8,1500])++(cond e [] [10,10])++[10,0,0,0,0,2,1002,3003,12,12,12,12,1004,9,15,9,9,1005,2,2,0,0,2,1006,2,2,0,2,2,2,0,1501,27,27,27,27]++(G3 3 fun i=>[28,28,28,28,28,27,28])++[28,30,3,3,2,2,0,2,2,0,2,0,1502,39,39,39,39]++(G3 3 fun i=>[40,40,40,40,40,39,40])++[40,42,4,4,2,2,0,3,2,0,1007,0,4,2,0,1008,2,2,2,17,17,17,48,1503,2,2,2,50,50,50]++(cond c [] [51,51,51,51])++[51]++(G3 10 fun i=>[51,51,51,51,50,51,51,53,53,3,20,0,0,0,20,0,0,0,20,20,0,21,22,0,0,0,22,0,0,0,22,0,0,0,0,22,23,53,0,1009+i,52,52,52,52])++[51,51,51,51,50,51,51,65,53,53,53,2,50,50,50]++(cond c [] [66,66,66,66])++[66]++(G3 10 fun i=>[66,66,66,66,50,66,66,68,68,4,32,0,0,0,32,0,0,0,32,32,0,33,34,0,0,0,34,0,0,0,34,0,0,0,0,34,35,68,0,1019+i,67,67,67,67])++[66,66,66,66,50,66,66,80,68,68,68,52,67,52,52,1029,3,20,0,0,0,20,0,0,0,20,20,0,21,1])
section
variable(w:Z8)(b c:Bool)(A:AS)(s:BS)(gh:gHs)(n t L:Nat)(e:Bool)(nn tt:Nat→Nat)(vv:Nat→Nat→Nat)(sc m0 m1 ml mt k1 k2:List Z6)(sm y1 lt st c3 hh h2:Nat)(dd:Bool)(ln sd hd:Int)(xv xw:Nat→Int)(xt xu:Nat→Nat)(kk ku:Nat→Nat)(f:FS)(sl:Array (Option Z6))(s0 u0 sE uE:BS)(mo io:Obj)(ci:Nat→Obj)(lk:Nat→Nat)(lv:Nat→Z6)(q:Nat→Z4)
def jZ:Nat×Obj:=(19,d0 (PP w b c) ⟨vv 6,kk⟩)
def j0:Nat×Obj:=(21,d2 (PP w b c) ⟨vv 6,kk⟩)
def g8:List (Nat×Obj):=[jZ w b c vv kk,(20,d1 (PP w b c) ⟨vv 6,kk⟩ sE),j0 w b c vv kk,(22,d3 (PP w b c) ⟨vv 6,kk⟩ sE),(23,d4 (PP w b c) ⟨vv 6,kk⟩ sE),(24,d5 (PP w b c) ⟨vv 6,kk⟩ sE),(25,d6 (PP w b c) ⟨vv 6,kk⟩ sE)]
def j6:Nat×Obj:=(31,d0 (PP w b c) ⟨vv 7,ku⟩)
def j7:Nat×Obj:=(33,d2 (PP w b c) ⟨vv 7,ku⟩)
def g9:List (Nat×Obj):=[j6 w b c vv ku,(32,d1 (PP w b c) ⟨vv 7,ku⟩ uE),j7 w b c vv ku,(34,d3 (PP w b c) ⟨vv 7,ku⟩ uE),(35,d4 (PP w b c) ⟨vv 7,ku⟩ uE),(36,d5 (PP w b c) ⟨vv 7,ku⟩ uE),(37,d6 (PP w b c) ⟨vv 7,ku⟩ uE)]
noncomputable def cM(Y0 Y1:Nat):Nat:=Zd (vv Y0 Y1) 1971
def cN(Y0 Y1:Nat):Z6:=.ref (cM vv Y0 Y1)
def db(Y0:Nat)(Y1:Int)(Y2 Y3 Y4:Nat):Xo:=cR 1428 [cN vv Y0 2,.int Y1 (Zd (tt 10) Y2),.int 1 (Zd (tt Y3) Y4)]
noncomputable def bT(Y0 Y1:Nat):Nat×Nat:=(Y0,Zd (nn Y1) 1971)
noncomputable def bU(Y0 Y1:Nat):Nat×Nat:=(Y0,Zd (tt Y1) 5571)
def sk:Xo:=.func cj (d7 (Zd n 1971) (Zd n 1973) (Zd n 1972) c3)
def sn(Y0:Nat):Obj:=⟨.type "cell",none,.cell (some (cN vv Y0 0)),#[]⟩
def Gz:Obj:=lO [.int 13 (Zd (tt 1) 5571),.int 361 (Zd (tt 1) 5572),.int 109 (Zd (tt 1) 5573)] 0
def uc:Z7:=ae w b c tJ (Zd t 5571) (rA A 0)
noncomputable def mK:Xo:=.builtin "claim.caller" {}
noncomputable def Bg:Obj:=⟨.type "slice",none,.fields ⟨[.none,.int 20 (Zd t 5572),.none]⟩,#[]⟩
def TM:List Call:=[⟨cB "list.__getitem__" [rA A 0,.ref (Zd n 1974)],5,2,[(0,am sc sm),(4,Bg t)],rV (cN vv 0 0),7,3,[(0,am sc sm),(4,Bg t),(6,am m0 0)]⟩,cS (.call (Value.builtin "len") ⟨[rA A 0],[]⟩) 12 7 [(0,am sc sm)] (rV (.int ln lt)) 13 8,cS (cB "int.__lt__" [.int ln lt,.int 2 (Zd (tt 2) 5571)]) 13 9 [] (rV (.bool dd)) 13 9,⟨cB "list.__mul__" [.ref (Zd (nn 1) 1971),.int (ite (Eq dd true) 1 0) (Zd (tt 2) 5572)],13,10,[(11,Gz tt)],rV (cN vv 3 0),15,11,[(11,Gz tt),(14,am mt 0)]⟩,⟨cB "list.__add__" [.ref (Zd (nn 0) 1972),cN vv 3 0],15,11,[(8,am m1 y1),(14,am mt 0)],rV (cN vv 4 0),17,12,[(8,am m1 y1),(14,am mt 0),(16,am ml 0)]⟩,cS (.call (Value.builtin "sum") ⟨[cN vv 4 0],[]⟩) 17 13 [(16,am ml 0)] (rV (.int sd st)) 18 14,⟨cR 1951 [cN vv 6 0,.int hd hh],42,29,[jZ w b c vv kk,(20,d1 (PP w b c) ⟨vv 6,kk⟩ s0),j0 w b c vv kk,(22,d3 (PP w b c) ⟨vv 6,kk⟩ s0),(23,d4 (PP w b c) ⟨vv 6,kk⟩ s0),(24,d5 (PP w b c) ⟨vv 6,kk⟩ s0),(25,d6 (PP w b c) ⟨vv 6,kk⟩ s0)],rV (cN vv 8 0),44,30,[jZ w b c vv kk,(20,d1 (PP w b c) ⟨vv 6,kk⟩ s0),j0 w b c vv kk,(22,d3 (PP w b c) ⟨vv 6,kk⟩ s0),(23,d4 (PP w b c) ⟨vv 6,kk⟩ s0),(24,d5 (PP w b c) ⟨vv 6,kk⟩ s0),(25,d6 (PP w b c) ⟨vv 6,kk⟩ s0),(43,am k1 0)]⟩,⟨cR 1951 [cN vv 7 0,.int hd hh],44,30,[j6 w b c vv ku,(32,d1 (PP w b c) ⟨vv 7,ku⟩ u0),j7 w b c vv ku,(34,d3 (PP w b c) ⟨vv 7,ku⟩ u0),(35,d4 (PP w b c) ⟨vv 7,ku⟩ u0),(36,d5 (PP w b c) ⟨vv 7,ku⟩ u0),(37,d6 (PP w b c) ⟨vv 7,ku⟩ u0)],rV (cN vv 9 0),46,31,[j6 w b c vv ku,(32,d1 (PP w b c) ⟨vv 7,ku⟩ u0),j7 w b c vv ku,(34,d3 (PP w b c) ⟨vv 7,ku⟩ u0),(35,d4 (PP w b c) ⟨vv 7,ku⟩ u0),(36,d5 (PP w b c) ⟨vv 7,ku⟩ u0),(37,d6 (PP w b c) ⟨vv 7,ku⟩ u0),(45,am k2 0)]⟩,cS (db tt vv 6 256 5571 10 5584) 53 47 (g8 w b c vv kk sE) (rV (.int (xv 256) (xt 256))) 54 48,cS (db tt vv 6 260 5572 11 5573) 54 51 (g8 w b c vv kk sE) (rV (.int (xv 260) (xt 260))) 55 52,cS (db tt vv 6 261 5573 12 5573) 55 55 (g8 w b c vv kk sE) (rV (.int (xv 261) (xt 261))) 56 56,cS (db tt vv 6 262 5574 13 5573) 56 59 (g8 w b c vv kk sE) (rV (.int (xv 262) (xt 262))) 57 60,cS (db tt vv 6 320 5575 14 5573) 57 63 (g8 w b c vv kk sE) (rV (.int (xv 320) (xt 320))) 58 64,cS (db tt vv 6 321 5576 15 5573) 58 67 (g8 w b c vv kk sE) (rV (.int (xv 321) (xt 321))) 59 68,cS (db tt vv 6 322 5577 16 5573) 59 71 (g8 w b c vv kk sE) (rV (.int (xv 322) (xt 322))) 60 72,cS (db tt vv 6 323 5578 17 5573) 60 75 (g8 w b c vv kk sE) (rV (.int (xv 323) (xt 323))) 61 76,cS (db tt vv 6 324 5579 18 5573) 61 79 (g8 w b c vv kk sE) (rV (.int (xv 324) (xt 324))) 62 80,cS (db tt vv 6 384 5580 19 5573) 62 83 (g8 w b c vv kk sE) (rV (.int (xv 384) (xt 384))) 63 84,cS (db tt vv 7 256 5571 20 5573) 68 87 (g9 w b c vv ku uE) (rV (.int (xw 256) (xu 256))) 69 88,cS (db tt vv 7 260 5572 21 5573) 69 91 (g9 w b c vv ku uE) (rV (.int (xw 260) (xu 260))) 70 92,cS (db tt vv 7 261 5573 22 5573) 70 95 (g9 w b c vv ku uE) (rV (.int (xw 261) (xu 261))) 71 96,cS (db tt vv 7 262 5574 23 5573) 71 99 (g9 w b c vv ku uE) (rV (.int (xw 262) (xu 262))) 72 100,cS (db tt vv 7 320 5575 24 5573) 72 103 (g9 w b c vv ku uE) (rV (.int (xw 320) (xu 320))) 73 104,cS (db tt vv 7 321 5576 25 5573) 73 107 (g9 w b c vv ku uE) (rV (.int (xw 321) (xu 321))) 74 108,cS (db tt vv 7 322 5577 26 5573) 74 111 (g9 w b c vv ku uE) (rV (.int (xw 322) (xu 322))) 75 112,cS (db tt vv 7 323 5578 27 5573) 75 115 (g9 w b c vv ku uE) (rV (.int (xw 323) (xu 323))) 76 116,cS (db tt vv 7 324 5579 28 5573) 76 119 (g9 w b c vv ku uE) (rV (.int (xw 324) (xu 324))) 77 120,cS (db tt vv 7 384 5580 29 5573) 77 123 (g9 w b c vv ku uE) (rV (.int (xw 384) (xu 384))) 78 124,cS (cB "list.__eq__" [.ref (Zd (nn 10) 1973),.ref (Zd (nn 20) 1974)]) 80 124 [(51,lO [.int (xv 256) (xt 256),.int (xv 260) (xt 260),.int (xv 261) (xt 261),.int (xv 262) (xt 262),.int (xv 320) (xt 320),.int (xv 321) (xt 321),.int (xv 322) (xt 322),.int (xv 323) (xt 323),.int (xv 324) (xt 324),.int (xv 384) (xt 384)] 10),(66,lO [.int (xw 256) (xu 256),.int (xw 260) (xu 260),.int (xw 261) (xu 261),.int (xw 262) (xu 262),.int (xw 320) (xu 320),.int (xw 321) (xu 321),.int (xw 322) (xu 322),.int (xw 323) (xu 323),.int (xw 324) (xu 324),.int (xw 384) (xu 384)] 10)] (rV (.bool true)) 80 124]
def TL:List Call:=[⟨OE 0 (Zd (nn 0) 1971) (Zd (nn 0) 1972) (Zd (nn 0) 1973) (Zd n 1971) [],10,3,[(7,⟨.type "list_iterator",none,.fields ⟨[cN vv 0 0,.int 0 0]⟩,#[]⟩),(6,am m0 0),(8,lO [] 0),(9,dO [] 0),(1,⟨.type "frame",none,.dict ⟨[uc w b c A t]⟩ 1,#[]⟩)],.ok .next,11,4,[(7,ci 0),(6,am m0 0),(8,am m1 y1),(9,cond e (dO [] 0) (dO [ae w b c oJ (lk 0) (lv 0)] 1)),(1,⟨.type "frame",none,.dict ⟨[uc w b c A t]⟩ 1,#[]⟩)]⟩,⟨cR 1946 [.int sd st,.int ((ah sd 31)+5) (Zd (tt 5) 5575)],18,19,[],rV (cN vv 6 7),27,20,[jZ w b c vv kk,(20,d1 (PP w b c) ⟨vv 6,kk⟩ s0),j0 w b c vv kk,(22,d3 (PP w b c) ⟨vv 6,kk⟩ s0),(23,d4 (PP w b c) ⟨vv 6,kk⟩ s0),(24,d5 (PP w b c) ⟨vv 6,kk⟩ s0),(25,d6 (PP w b c) ⟨vv 6,kk⟩ s0),(26,tO [cN vv 6 0,.int hd hh])]⟩,⟨cR 1946 [.int sd st,.int ((ah (an sd 2) 77)+1000003) (Zd (tt 6) 5577)],30,27,[],rV (cN vv 7 7),39,28,[j6 w b c vv ku,(32,d1 (PP w b c) ⟨vv 7,ku⟩ u0),j7 w b c vv ku,(34,d3 (PP w b c) ⟨vv 7,ku⟩ u0),(35,d4 (PP w b c) ⟨vv 7,ku⟩ u0),(36,d5 (PP w b c) ⟨vv 7,ku⟩ u0),(37,d6 (PP w b c) ⟨vv 7,ku⟩ u0),(38,tO [cN vv 7 0,.int hd h2])]⟩,⟨dq cj 5 (Zd (nn 9) 1972) (d7 (Zd n 1971) (Zd n 1973) (Zd n 1972) c3),48,32,[jZ w b c vv kk,(20,d1 (PP w b c) ⟨vv 6,kk⟩ s0),j0 w b c vv kk,(22,d3 (PP w b c) ⟨vv 6,kk⟩ s0),(23,d4 (PP w b c) ⟨vv 6,kk⟩ s0),(24,d5 (PP w b c) ⟨vv 6,kk⟩ s0),(25,d6 (PP w b c) ⟨vv 6,kk⟩ s0),(1,⟨.type "frame",none,.dict ⟨[uc w b c A t,ae w b c xA (Zd (tt 4) 5571) (cN vv 4 0),ae w b c tH (Zd (tt 5) 5571) (.int sd st),ae w b c i6 (Zd (tt 6) 5571) (.int hd hh),ae w b c xB (Zd (tt 7) 5571) (.int hd h2),ae w b c xC (Zd (tt 9) 5571) (.ref (Zd (nn 9) 1971))]⟩ 6,#[]⟩),(16,am ml 0),(47,⟨.type "list_iterator",none,.fields ⟨[cN vv 4 0,.int 0 0]⟩,#[]⟩),(3,sn vv 7),(2,sn vv 6),(46,lO [cN vv 8 0,cN vv 9 0] 0),(43,am k1 0),(45,am k2 0),j6 w b c vv ku,(32,d1 (PP w b c) ⟨vv 7,ku⟩ u0),j7 w b c vv ku,(34,d3 (PP w b c) ⟨vv 7,ku⟩ u0),(35,d4 (PP w b c) ⟨vv 7,ku⟩ u0),(36,d5 (PP w b c) ⟨vv 7,ku⟩ u0),(37,d6 (PP w b c) ⟨vv 7,ku⟩ u0)],.ok .next,49,33,[jZ w b c vv kk,(20,d1 (PP w b c) ⟨vv 6,kk⟩ sE),j0 w b c vv kk,(22,d3 (PP w b c) ⟨vv 6,kk⟩ sE),(23,d4 (PP w b c) ⟨vv 6,kk⟩ sE),(24,d5 (PP w b c) ⟨vv 6,kk⟩ sE),(25,d6 (PP w b c) ⟨vv 6,kk⟩ sE),(1,aY ⟨um (PP w b c) f hd hh (Zd (nn 9) 1971)⟩ 8 sl),(16,mo),(47,io),(3,sn vv 7),(2,sn vv 6),(46,lO [cN vv 8 0,cN vv 9 0] 0),(43,am k1 0),(45,am k2 0),j6 w b c vv ku,(32,d1 (PP w b c) ⟨vv 7,ku⟩ uE),j7 w b c vv ku,(34,d3 (PP w b c) ⟨vv 7,ku⟩ uE),(35,d4 (PP w b c) ⟨vv 7,ku⟩ uE),(36,d5 (PP w b c) ⟨vv 7,ku⟩ uE),(37,d6 (PP w b c) ⟨vv 7,ku⟩ uE)]⟩]
def TP:List (List (Xo×Z4)):=[[(sk n c3,⟨854,39,854,50⟩),(mK,q 6)],[(sk n c3,⟨856,18,856,48⟩),(mK,q 6)],[(sk n c3,⟨857,18,857,59⟩),(mK,q 6)],[(sk n c3,⟨859,13,859,18⟩),(mK,q 6)]]
def TK:List (Bool×Bool):=[(decide (Xm sE.md.1 3),true),(ax (an sd 2) 77,false),(ax sd 31,false)]
include w b c A s gh n t L e nn tt vv sc m0 m1 ml mt k1 k2 sm y1 lt st c3 hh h2 dd ln sd hd xv xw xt xu kk ku f sl s0 u0 sE uE mo io ci lk lv q
theorem TO:jT w b c A gh L 60 [bT nn 78 30,bT nn 77 29,bT nn 76 28,bT nn 75 27,bT nn 74 26,bT nn 73 25,bT nn 72 24,bT nn 71 23,bT nn 70 22,bT nn 69 21,bT nn 63 20,bT nn 62 19,bT nn 61 18,bT nn 60 17,bT nn 59 16,bT nn 58 15,bT nn 57 14,bT nn 56 13,bT nn 55 12,bT nn 54 11,bT nn 49 10,bT nn 46 9,(45,cM vv 9 0),bT nn 44 8,(43,cM vv 8 0),bT nn 39 7,(38,cM vv 7 7),(37,cM vv 7 6),(36,cM vv 7 5),(35,cM vv 7 4),(34,cM vv 7 3),(33,cM vv 7 2),(32,cM vv 7 1),(31,cM vv 7 0),bT nn 27 6,(26,cM vv 6 7),(25,cM vv 6 6),(24,cM vv 6 5),(23,cM vv 6 4),(22,cM vv 6 3),(21,cM vv 6 2),(20,cM vv 6 1),(19,cM vv 6 0),bT nn 18 5,bT nn 17 4,(16,cM vv 4 0),bT nn 15 3,(14,cM vv 3 0),bT nn 13 2,bT nn 11 1,bT nn 7 0,(6,cM vv 0 0),(1,Zd n 1971)] [bU tt 124 30,bU tt 120 29,bU tt 116 28,bU tt 112 27,bU tt 108 26,bU tt 104 25,bU tt 100 24,bU tt 96 23,bU tt 92 22,bU tt 88 21,bU tt 84 20,bU tt 80 19,bU tt 76 18,bU tt 72 17,bU tt 68 16,bU tt 64 15,bU tt 60 14,bU tt 56 13,bU tt 52 12,bU tt 48 11,bU tt 33 10,bU tt 31 9,bU tt 30 8,bU tt 28 7,bU tt 20 6,bU tt 14 5,bU tt 12 4,bU tt 11 3,bU tt 8 2,bU tt 4 1,bU tt 3 0,(0,Zd t 5571)] (TM w b c A n t nn tt vv sc m0 m1 ml mt k1 k2 sm y1 lt st hh dd ln sd hd xv xw xt xu kk ku s0 u0 sE uE) (TL w b c A n t e nn tt vv m0 m1 ml k1 k2 y1 st c3 hh h2 sd hd kk ku f sl s0 u0 sE uE mo io ci lk lv) (TP n c3 q) (TK sd sE) [(mK,q 6)] (.call (.ref 1970) ⟨[.ref (Zd (A.a 0) 1971)],[]⟩) 1 [(0,am sc sm)] (.ok (.ret (.bool true))) 80 [(0,am sc sm)] 126:=by
 cases c<;>cases e
 ·exact cG (hm (sC false false)) rfl rfl fun p=>by kernel_rfl
 ·exact cG (hm (sC true false)) rfl rfl fun p=>by kernel_rfl
 ·exact cG (hm (sC false true)) rfl rfl fun p=>by kernel_rfl
 ·exact cG (hm (sC true true)) rfl rfl fun p=>by kernel_rfl
end
theorem UA(w:Z8)(b c:Bool)(u k:Nat→Nat)(s:BS)(e:Nat):bd w b c ⟨u,k⟩ s=bd w b c ⟨eZ [(7,e)] u,k⟩ s:=by kernel_rfl
theorem wm{M:Model}{S:HT}{B:Nat}{bl:List (Xo×Z4)}(hb:unitsOf bl+640<700){cd:Xo}{gh X:gHs}{n t:Nat}{r:Xc}{gh' Y:gHs}{n' t':Nat}
    (H:TriAt M S B 140 bl cd gh X n t r gh' Y n' t'):TriAt M S B 80 bl cd gh X n t r gh' Y n' t':=
  TriC.mono (fun Γ h=>⟨⟨h.1.1,by rw[h.2];omega⟩,h.2⟩) H
theorem Pr(w:Z8)(b c:Bool)(P6:Z4)(xs:List Z6)(hx:∀j,j<xs.length→∃(v:Int) (u:Nat),xs[j]?=some (.int v u))(hlen:xs.length≤100)(la n t:Nat):∃n' t':Nat,
    TriAt (MM w b c) (cn (PP w b c)) 1971 140 [(.builtin "claim.caller" {},P6)] (.call (.ref 1970) ⟨[.ref (Zd la 1971)],[]⟩) [] [(Zd la 1971,am xs 0)] (Zd n 1971) (Zd t 5571) (.ok (.ret (.bool true))) [] [(Zd la 1971,am xs 0)] n' t':=by
  have hm0:∀j,j<(xs.take 20).length→∃(v:Int) (u:Nat),(xs.take 20)[j]?=some (.int v u):=fun j hj=>by
    have h1:j<20:=by simp at hj;omega
    have h2:j<xs.length:=by simp at hj;omega
    obtain⟨v,u,h⟩:=hx j h2
    exact⟨v,u,by rw[List.getElem?_take,if_pos h1];exact h⟩
  have hl0:(xs.take 20).length=min 20 xs.length:=by simp
  obtain⟨e,m1,y1,lk0,N1,T1,lv0,io0,hl1,hk1,HM⟩:=Ki w b c (n+5) (n+4) (n+6) (n+7) n [(.func cj (d7 (Zd n 1971) (Zd n 1973) (Zd n 1972) 0),⟨854,39,854,50⟩),(.builtin "claim.caller" {},P6)] (jp _ _ _) (aY ⟨[ae w b c tJ (Zd t 5571) (.ref (Zd la 1971))]⟩ 1 #[]) (xs.take 20) hm0 (by rw[hl0];omega) (n+8) (t+2)
  have hl1':m1.length≤20:=by rw[hl1,hl0];omega
  have hmt:∀z∈([.int 13 (Zd T1 5571),.int 361 (Zd T1 5572),.int 109 (Zd T1 5573)]:List Z6),rv z:=ab ⟨13,_,rfl,by decide⟩ (ab ⟨361,_,rfl,by decide⟩ (ab ⟨109,_,rfl,by decide⟩ aa))
  obtain⟨dd,hdd⟩:∃dd:Bool,dd=decide ((xs.length:Int)<2):=⟨_,rfl⟩
  obtain⟨mt,hmtE⟩:∃mt:List Z6,mt=cond dd [.int 13 (Zd T1 5571),.int 361 (Zd T1 5572),.int 109 (Zd T1 5573)] []:=⟨_,rfl⟩
  have hmlK:∀z∈m1++mt,rv z:=fun z hz=>by
    rcases Qu.mp hz with h|h
    · exact hk1 z h
    · rw[hmtE]at h
      cases dd with
      |true=>exact hmt z h
      |false=>cases h
  have hmlL:(m1++mt).length≤40:=by
    rw[Ql,hmtE]
    cases dd<;>simp<;>omega
  have hml0:m1++mt≠[]:=by
    intro h
    have h1:=congrArg List.length h
    rw[Ql,hmtE,hl1,hl0]at h1
    cases hd:dd with
    |true=>rw[hd]at h1;simp at h1
    |false=>
      rw[hd]at hdd h1
      have:¬(xs.length:Int)<2:=of_decide_eq_false hdd.symm
      have h2:min 20 xs.length+0=0:=h1
      omega
  obtain⟨p,N5,T5,st,HS⟩:=QT w b c hmlK hmlL (N1+2) (N1+3) (T1+8)
  have hun1:ah (Zo p) 31+5=Zo (p*31+5):=by rw[show ah (Zo p) 31=((p*31:Nat):Int) from eU p 31];rfl
  have hun2:ah (an (Zo p) 2) 77+1000003=Zo (p/2*77+1000003):=by rw[show an (Zo p) 2=((p/2:Nat):Int) from jX p 2,show ah ((p/2:Nat):Int) 77=((p/2*77:Nat):Int) from eU (p/2) 77];rfl
  have hhd:oE p=((hN p:Nat):Int):=pC p
  obtain⟨z1,M6,S6,e1,hz1,HC1⟩:=vV w b c n (n+2) (n+1) 0 (fun i=>cond (Ze i 5) ⟨856,18,856,48⟩ P6) p (p*31+5) st (Zd T5 5575) N5 (T5+5) (Cx _ _)
  obtain⟨z2,M7,S7,e2,hz2,HC2⟩:=vV w b c n (n+2) (n+1) 0 (fun i=>cond (Ze i 5) ⟨857,18,857,59⟩ P6) p (p/2*77+1000003) st (Zd (S6+731) 5577) (M6+48) (S6+738) (Cx _ _)
  rw[←hun1,hhd,UA (e:=e1)]at HC1
  rw[←hun2,hhd,UA (e:=e2)]at HC2
  have I1:=tU (w:=w) (b:=b) (c:=c) (t6:=S6) (t7:=S6+717) hz1
  have I2:=tU (w:=w) (b:=b) (c:=c) (t6:=S7) (t7:=S7+717) hz2
  have LL:=AM (w:=w) (b:=b) (c:=c) (t6:=S6) (t7:=S6+717) (t6':=S7) (t7':=S7+717) hz1 hz2
  obtain⟨s1,hs1⟩:∃s1,s1=dt w b c p (p*31+5) (Zd T5 5575) N5 (T5+5) S6 (S6+717) z1:=⟨_,rfl⟩
  obtain⟨u1,hu1⟩:∃u1,u1=dt w b c p (p/2*77+1000003) (Zd (S6+731) 5577) (M6+48) (S6+738) S7 (S7+717) z2:=⟨_,rfl⟩
  have hE1:s1.es=#[]:=by rw[hs1];rfl
  have hE2:u1.es=#[]:=by rw[hu1];rfl
  rw[←hs1]at HC1 I1 LL
  rw[←hu1]at HC2 I2 LL
  obtain⟨V6,hV6⟩:∃V:Nat→Nat,V=eZ [(7,e1)] (QZ N5 M6):=⟨_,rfl⟩
  obtain⟨V7,hV7⟩:∃V:Nat→Nat,V=eZ [(7,e2)] (QZ (M6+48) M7):=⟨_,rfl⟩
  have hV60:V6 0=N5+6:=by rw[hV6];rfl
  have hV67:V6 7=e1:=by rw[hV6];rfl
  have hV70:V7 0=M6+48+6:=by rw[hV7];rfl
  have hV77:V7 7=e2:=by rw[hV7];rfl
  rw[←hV6,←hV60,←hV67]at HC1
  rw[←hV7,←hV70,←hV77]at HC2
  clear hz1 hz2 hs1 hu1 hV6 hV7 hV60 hV70 hV67 hV77
  obtain⟨kk,hkk⟩:∃k:Nat→Nat,k=pJ (T5+5+33):=⟨_,rfl⟩
  obtain⟨ku,hku⟩:∃k:Nat→Nat,k=pJ (S6+738+33):=⟨_,rfl⟩
  rw[←hkk]at HC1
  rw[←hku]at HC2
  obtain⟨hh,hhh⟩:∃k:Nat,k=uy (T5+5):=⟨_,rfl⟩
  obtain⟨h2,hh2⟩:∃k:Nat,k=uy (S6+738):=⟨_,rfl⟩
  rw[←hhh]at HC1
  rw[←hh2]at HC2
  have h8:=mM p
  obtain⟨hd,hhN⟩:∃h:Nat,h=hN p:=⟨_,rfl⟩
  rw[←hhN]at HC1 HC2 I1 I2 h8
  obtain⟨k1,E8,N8,T8,hv1,HM1⟩:=kl w b c ⟨V6,kk⟩ s1 (hd:Int) hh [] (M7+48) (S7+732)
  obtain⟨k2,E9,N9,T9,hv2,HM2⟩:=kl w b c ⟨V7,ku⟩ u1 (hd:Int) hh [] N8 T8
  let Bd:LB:=⟨n,N1+2,N9+1,n+2,n+1,N9,E8,E9,0,V7,ku⟩
  let q:Nat→Z4:=fun i=>cond (Ze i 5) ⟨859,13,859,18⟩ P6
  let f0:FS:=⟨ji [Zd t 5571,Zd (T1+7) 5571,Zd T5 5571,Zd (S6+731) 5571,Zd (S7+731) 5571,Zd T9 5571],BN [.ref (Zd la 1971),.ref (Zd (N1+2) 1971),.int (Zo p) st,.none,.int (hd:Int) h2,.none]⟩
  obtain⟨sE,uE,f',sl',ioE,N10,T10,IE,LE,HF⟩:=Pb w b c ⟨V6,kk⟩ Bd q h8 hh (m1++mt) 0 k1 k2 (fun i hi=>by
      obtain⟨v,u,hz,_⟩:=hmlK (m1++mt)[i] (List.getElem_mem hi)
      exact⟨v,u,by rw[List.getElem?_eq_getElem hi,hz]⟩) (m1++mt).length 0 false f0 #[] s1 u1 [] (N9+2) (T9+1)
    (by omega) (fun h=>absurd (List.length_eq_zero_iff.mp h) hml0) (.inl rfl) I1 I2 LL hv1 hv2 (by rw[hE1];exact fun e he=>nomatch he) (by rw[hE2];exact fun e he=>nomatch he) (by rw[hE1];show 0+_≤1000;omega) (by rw[hE2];show 0+_≤1000;omega)
  obtain⟨a1,ha1,_⟩:=IE.1.n.pb 774 (by decide)
  obtain⟨d1,hd1,_⟩:=IE.1.n.pb 262 (by decide)
  obtain⟨a2,ha2,_⟩:=IE.2.n.pb 774 (by decide)
  obtain⟨d2,hd2,_⟩:=IE.2.n.pb 262 (by decide)
  have RA:=fun (i:Nat) (hi:i∈E14) hb=>lQ w b c ⟨V6,kk⟩ sE a1 d1 ha1 hd1 (i:=i) (m:=1) hi (.inr rfl) hb []
  have RB:=fun (i:Nat) (hi:i∈E14) hb=>lQ w b c ⟨V7,ku⟩ uE a2 d2 ha2 hd2 (i:=i) (m:=1) hi (.inr rfl) hb []
  obtain⟨ua0,na0,ta0,Ha0⟩:=RA 256 (by decide) (by kernel_rfl) (N10+4) (T10+14) (Zd T10 5571) (Zd T10 5584)
  obtain⟨ua1,na1,ta1,Ha1⟩:=RA 260 (by decide) (by kernel_rfl) na0 (ta0+3) (Zd T10 5572) (Zd ta0 5573)
  obtain⟨ua2,na2,ta2,Ha2⟩:=RA 261 (by decide) (by kernel_rfl) na1 (ta1+3) (Zd T10 5573) (Zd ta1 5573)
  obtain⟨ua3,na3,ta3,Ha3⟩:=RA 262 (by decide) (by kernel_rfl) na2 (ta2+3) (Zd T10 5574) (Zd ta2 5573)
  obtain⟨ua4,na4,ta4,Ha4⟩:=RA 320 (by decide) (by kernel_rfl) na3 (ta3+3) (Zd T10 5575) (Zd ta3 5573)
  obtain⟨ua5,na5,ta5,Ha5⟩:=RA 321 (by decide) (by kernel_rfl) na4 (ta4+3) (Zd T10 5576) (Zd ta4 5573)
  obtain⟨ua6,na6,ta6,Ha6⟩:=RA 322 (by decide) (by kernel_rfl) na5 (ta5+3) (Zd T10 5577) (Zd ta5 5573)
  obtain⟨ua7,na7,ta7,Ha7⟩:=RA 323 (by decide) (by kernel_rfl) na6 (ta6+3) (Zd T10 5578) (Zd ta6 5573)
  obtain⟨ua8,na8,ta8,Ha8⟩:=RA 324 (by decide) (by kernel_rfl) na7 (ta7+3) (Zd T10 5579) (Zd ta7 5573)
  obtain⟨ua9,na9,ta9,Ha9⟩:=RA 384 (by decide) (by kernel_rfl) na8 (ta8+3) (Zd T10 5580) (Zd ta8 5573)
  obtain⟨ub0,nb0,tb0,Hb0⟩:=RB 256 (by decide) (by kernel_rfl) (na9+5) (ta9+3) (Zd T10 5571) (Zd ta9 5573)
  obtain⟨ub1,nb1,tb1,Hb1⟩:=RB 260 (by decide) (by kernel_rfl) nb0 (tb0+3) (Zd T10 5572) (Zd tb0 5573)
  obtain⟨ub2,nb2,tb2,Hb2⟩:=RB 261 (by decide) (by kernel_rfl) nb1 (tb1+3) (Zd T10 5573) (Zd tb1 5573)
  obtain⟨ub3,nb3,tb3,Hb3⟩:=RB 262 (by decide) (by kernel_rfl) nb2 (tb2+3) (Zd T10 5574) (Zd tb2 5573)
  obtain⟨ub4,nb4,tb4,Hb4⟩:=RB 320 (by decide) (by kernel_rfl) nb3 (tb3+3) (Zd T10 5575) (Zd tb3 5573)
  obtain⟨ub5,nb5,tb5,Hb5⟩:=RB 321 (by decide) (by kernel_rfl) nb4 (tb4+3) (Zd T10 5576) (Zd tb4 5573)
  obtain⟨ub6,nb6,tb6,Hb6⟩:=RB 322 (by decide) (by kernel_rfl) nb5 (tb5+3) (Zd T10 5577) (Zd tb5 5573)
  obtain⟨ub7,nb7,tb7,Hb7⟩:=RB 323 (by decide) (by kernel_rfl) nb6 (tb6+3) (Zd T10 5578) (Zd tb6 5573)
  obtain⟨ub8,nb8,tb8,Hb8⟩:=RB 324 (by decide) (by kernel_rfl) nb7 (tb7+3) (Zd T10 5579) (Zd tb7 5573)
  obtain⟨ub9,nb9,tb9,Hb9⟩:=RB 384 (by decide) (by kernel_rfl) nb8 (tb8+3) (Zd T10 5580) (Zd tb8 5573)
  have hL1:ValI [.int (bv sE 256) ua0,.int (bv sE 260) ua1,.int (bv sE 261) ua2,.int (bv sE 262) ua3,.int (bv sE 320) ua4,.int (bv sE 321) ua5,.int (bv sE 322) ua6,.int (bv sE 323) ua7,.int (bv sE 324) ua8,.int (bv sE 384) ua9] [bv sE 256,bv sE 260,bv sE 261,bv sE 262,bv sE 320,bv sE 321,bv sE 322,bv sE 323,bv sE 324,bv sE 384]:=⟨⟨_,rfl⟩,⟨_,rfl⟩,⟨_,rfl⟩,⟨_,rfl⟩,⟨_,rfl⟩,⟨_,rfl⟩,⟨_,rfl⟩,⟨_,rfl⟩,⟨_,rfl⟩,⟨_,rfl⟩,trivial⟩
  have hL2:ValI [.int (bv uE 256) ub0,.int (bv uE 260) ub1,.int (bv uE 261) ub2,.int (bv uE 262) ub3,.int (bv uE 320) ub4,.int (bv uE 321) ub5,.int (bv uE 322) ub6,.int (bv uE 323) ub7,.int (bv uE 324) ub8,.int (bv uE 384) ub9] [bv sE 256,bv sE 260,bv sE 261,bv sE 262,bv sE 320,bv sE 321,bv sE 322,bv sE 323,bv sE 324,bv sE 384]:=⟨⟨_,by rw[dK IE.1.n IE.2.n LE 256 (by decide)]⟩,⟨_,by rw[dK IE.1.n IE.2.n LE 260 (by decide)]⟩,⟨_,by rw[dK IE.1.n IE.2.n LE 261 (by decide)]⟩,⟨_,by rw[dK IE.1.n IE.2.n LE 262 (by decide)]⟩,⟨_,by rw[dK IE.1.n IE.2.n LE 320 (by decide)]⟩,⟨_,by rw[dK IE.1.n IE.2.n LE 321 (by decide)]⟩,⟨_,by rw[dK IE.1.n IE.2.n LE 322 (by decide)]⟩,⟨_,by rw[dK IE.1.n IE.2.n LE 323 (by decide)]⟩,⟨_,by rw[dK IE.1.n IE.2.n LE 324 (by decide)]⟩,⟨_,by rw[dK IE.1.n IE.2.n LE 384 (by decide)]⟩,trivial⟩
  obtain⟨q1,q4⟩:=ValI.eq hL1 hL2
  have hmd:decide (Xm sE.md.1 3)=true:=by rcases IE.1.n.md with h|h<;>rw[h]<;>rfl
  have key:=TO w b c ⟨fun _=>la,fun _=>0⟩ s1 [] n t 80 e (ji [n+5,N1,N1+1,N1+2,N1+3,N5,M6+45,M7+45,N8,N9,N10,na0,na1,na2,na3,na4,na5,na6,na7,na8,na9,nb0,nb1,nb2,nb3,nb4,nb5,nb6,nb7,nb8,nb9]) (ji [t+2,T1,T1+5,T1+7,T1+7,T5,S6+731,S7+731,T8,T9,T10,ta0,ta1,ta2,ta3,ta4,ta5,ta6,ta7,ta8,ta9,tb0,tb1,tb2,tb3,tb4,tb5,tb6,tb7,tb8,tb9])
    (fun i=>cond (Ze i 0) (fun _=>n+4) (cond (Ze i 3) (fun _=>N1+1) (cond (Ze i 4) (fun _=>N1+2) (cond (Ze i 6) V6 (cond (Ze i 7) V7 (cond (Ze i 8) (fun _=>E8) (fun _=>E9)))))))
    xs (xs.take 20) m1 (m1++mt) mt k1 k2 0 y1 (Zd T1 5575) st 0 hh h2 dd (xs.length:Int) (Zo p) (hd:Int) (bv sE) (bv uE) (uZ [(256,ua0),(260,ua1),(261,ua2),(262,ua3),(320,ua4),(321,ua5),(322,ua6),(323,ua7),(324,ua8),(384,ua9)]) (uZ [(256,ub0),(260,ub1),(261,ub2),(262,ub3),(320,ub4),(321,ub5),(322,ub6),(323,ub7),(324,ub8),(384,ub9)]) kk ku f' sl' s1 u1 sE uE (am (m1++mt) 0) ioE (fun _=>io0) (fun _=>lk0) (fun _=>lv0) (fun _=>P6)
    (fk (kA (NS (prog:=prog2) (w:=W2 w b c) (S:=cn (PP w b c)) (B:=1971) (gh:=[]) (n:=Zd (n+4) 1971) (t:=Zd t 5573) (C:=fun Γ=>Lim Γ 80) ac (l:=Zd la 1971) (sl:=Zd n 1974) (tk:=Zd t 5572) (m:=0) (k:=20) (xs:=xs) (by simp[sizeLine];omega))) <|
     fk (kA (Tc (prog:=prog2) (w:=W2 w b c) (S:=cn (PP w b c)) (B:=1971) (gh:=[]) (n:=Zd (N1+1) 1971) (t:=Zd T1 5574) (C:=fun Γ=>Lim Γ 80) ac (l:=Zd la 1971) (m:=0) (xs:=xs) (by omega))) <|
     fk (TriC.cast ZG rfl rfl rfl rfl rfl rfl rfl rfl (by rw[hdd])) <|
     fk (TriC.cast (xL (prog:=prog2) (w:=W2 w b c) (S:=cn (PP w b c)) (B:=1971) (gh:=[]) (n:=Zd (N1+1) 1971) (t:=Zd (T1+7) 5571) (C:=fun Γ=>Lim Γ 80) ac (a:=Zd N1 1971) (xs:=[.int 13 (Zd T1 5571),.int 361 (Zd T1 5572),.int 109 (Zd T1 5573)]) (m:=0) (u:=Zd (T1+5) 5572) (d:=dd) (x:=ite (Eq dd true) 1 0) (by cases dd<;>rfl) (show 3≤1000 by decide) (fun h=>by cases h)) (by kernel_rfl) (by kernel_rfl) (by kernel_rfl) (by rw[←hmtE];kernel_rfl) (by kernel_rfl) (by kernel_rfl) rfl rfl (by kernel_rfl)) <|
     fk (kG (iC (prog:=prog2) (w:=W2 w b c) (S:=cn (PP w b c)) (B:=1971) (gh:=[]) (n:=Zd (N1+2) 1971) (t:=Zd (T1+7) 5571) (C:=fun Γ=>Lim Γ 80) ac (a:=Zd (n+6) 1971) (b:=Zd (N1+1) 1971) (xs:=m1) (ys:=mt) (k:=y1) (m:=0) (by rw[←Ql];simp only[sizeLine];omega))) <|
     fk (TriC.cast HS (by kernel_rfl) (by kernel_rfl) (by kernel_rfl) (by kernel_rfl) rfl rfl rfl rfl rfl) <|
     fk (kG HM1) <|
     fk (kG HM2) <|
     fk (kG (el Ha0)) <|
     fk (kG (el Ha1)) <|
     fk (kG (el Ha2)) <|
     fk (kG (el Ha3)) <|
     fk (kG (el Ha4)) <|
     fk (kG (el Ha5)) <|
     fk (kG (el Ha6)) <|
     fk (kG (el Ha7)) <|
     fk (kG (el Ha8)) <|
     fk (kG (el Ha9)) <|
     fk (kG (el Hb0)) <|
     fk (kG (el Hb1)) <|
     fk (kG (el Hb2)) <|
     fk (kG (el Hb3)) <|
     fk (kG (el Hb4)) <|
     fk (kG (el Hb5)) <|
     fk (kG (el Hb6)) <|
     fk (kG (el Hb7)) <|
     fk (kG (el Hb8)) <|
     fk (kG (el Hb9)) <|
     fk (TriC.code (by kernel_rfl) (TriC.cast (z0 (prog:=prog2) (w:=W2 w b c) (S:=cn (PP w b c)) (B:=1971) (gh:=[]) (n:=Zd (nb9+2) 1971) (t:=Zd tb9 5571) (C:=fun Γ=>Lim Γ 80) ac (a:=Zd N10 1973) (b:=Zd na9 1974) (l:=[.int (bv sE 256) ua0,.int (bv sE 260) ua1,.int (bv sE 261) ua2,.int (bv sE 262) ua3,.int (bv sE 320) ua4,.int (bv sE 321) ua5,.int (bv sE 322) ua6,.int (bv sE 323) ua7,.int (bv sE 324) ua8,.int (bv sE 384) ua9]) (r:=[.int (bv uE 256) ub0,.int (bv uE 260) ub1,.int (bv uE 261) ub2,.int (bv uE 262) ub3,.int (bv uE 320) ub4,.int (bv uE 321) ub5,.int (bv uE 322) ub6,.int (bv uE 323) ub7,.int (bv uE 324) ub8,.int (bv uE 384) ub9]) (k:=10) (m:=10) hL1.ints hL2.ints q4) (by kernel_rfl) (by kernel_rfl) (by kernel_rfl) (by kernel_rfl) (by kernel_rfl) (by kernel_rfl) rfl rfl (by rw[q1]))) <|
     aa)
    (ab ⟨by kernel_rfl,bp (by kernel_rfl) (kG (pK (jp _ _ _) HM))⟩ <|
     ab ⟨by kernel_rfl,bp (by kernel_rfl) (kG (wm (jp _ _ _) HC1))⟩ <|
     ab ⟨by kernel_rfl,bp (by kernel_rfl) (kG (wm (jp _ _ _) HC2))⟩ <|
     ab ⟨by kernel_rfl,bp (by kernel_rfl) (kG (pK (tQ Bd q) HF))⟩ aa)
    (fc hmd<|fc (hF _ (by decide +kernel))<|fc (hF _ (by decide +kernel))<|aa)
  exact⟨_,_,TriC.cast key rfl rfl rfl rfl rfl rfl rfl rfl rfl⟩
theorem G8{P:Z5}{h:Xh}(e:h.get? 3=some (o3 P)):h.isNs mainGlobals=true:=by
 unfold Heap.isNs;rw[show h.get? mainGlobals=some (o3 P) from e];kernel_rfl
theorem G7{P:Z5}{h:Xh}(e:h.get? 0=some (o0 P)):h.isNs builtinsNs=true:=by
 unfold Heap.isNs;rw[show h.get? builtinsNs=some (o0 P) from e];kernel_rfl
theorem ZI{P:Z5}{h:Xh}(e:h.get? 0=some (o0 P)):h.bltView=bltViewBooted:=by
 unfold Heap.bltView Heap.nsPairs;rw[show h.get? builtinsNs=some (o0 P) from e];kernel_rfl
theorem zE{P:Z5}{h:Xh}(e:h.get? 2=some (o2 P))(key:Str):staticOf h key=none:=by
 unfold staticOf;rw[show h.get? cStatics=some (o2 P) from e];rfl
theorem N0{P:Z5}{h:Xh}(e:h.get? 3=some (o3 P)):namesBound prog2 h=true:=by
 unfold namesBound;rw[G8 e];unfold Heap.nsKeys;rw[show h.get? mainGlobals=some (o3 P) from e];kernel_rfl
noncomputable def Hd(o:Obj)(x:Str):Option Z6:=match o.data with
 |.dict es _=>(es.find? (·.key.isStr x)).map (·.val)
 |_=>none
theorem nM{h:Xh}{o:Obj}(e:h.get? 3=some o)(x:Str):globalOf h x=Hd o x:=by
 unfold globalOf Hd;rw[show h.get? mainNs=some o from e];rfl
theorem EB(P:Z5):(laidNames.map fun x=>Hd (o3 P) x)=laidNames.map fun x=>Hd (z3 P) x:=by kernel_rfl
theorem qF{P:Z5}:(0,o0 P)∈finL P∧(2,o2 P)∈finL P∧(3,o3 P)∈finL P∧(4,z4 P)∈finL P∧(1969,y9 P)∈finL P∧(1970,sF P)∈finL P:=
 ⟨Qg (i:=8) (by kernel_rfl),Qg (i:=9) (by kernel_rfl),Qg (i:=10) (by kernel_rfl),Qg (i:=1) (by kernel_rfl),Qg (i:=170) (by kernel_rfl),Qg (i:=171) (by kernel_rfl)⟩
theorem s0_stay{P:Z5}:∀x∈s0L P,x.1=3∨x∈finL P:=
 ab (.inr (Qg (i:=8) (by kernel_rfl))) (ab (.inr (Qg (i:=0) (by kernel_rfl))) (ab (.inr (Qg (i:=9) (by kernel_rfl))) (ab (.inl rfl) (ab (.inr (Qg (i:=1) (by kernel_rfl))) (ab (.inr (Qg (i:=2) (by kernel_rfl))) (ab (.inr (Qg (i:=3) (by kernel_rfl))) (ab (.inr (Qg (i:=4) (by kernel_rfl))) (ab (.inr (Qg (i:=5) (by kernel_rfl))) (ab (.inr (Qg (i:=6) (by kernel_rfl))) (ab (.inr (Qg (i:=7) (by kernel_rfl))) (aa)))))))))))
theorem LU(w:Z8)(b c:Bool){s₀:Xd}(hz:s₀.asleep)(hn:s₀.heap.objs.size=11)(hp:∀x∈s0L (PP w b c),s₀.heap.get? x.1=some x.2)(ht:s₀.toks=181)(hg:s₀.gens=#[]):
  ∃s₁,TopRan prog2 (W2 w b c) s₀ s₁∧s₁.gens=#[]∧s₁.asleep∧s₁.heap.objs.size=1971∧s₁.toks=5571∧∀x∈finL (PP w b c),s₁.heap.get? x.1=some x.2:=by
 obtain⟨h,gs,d,tk,os⟩:=s₀
 simp only at hn hp ht hg
 subst ht hg
 obtain⟨h',hr,y1,y2,y3,y4⟩:=LV w b c h #[] d os hn hp
 obtain⟨m0,m2,m3,m4,_,_⟩:=qF (P:=PP w b c)
 have e0:=y4 _ m0
 have e2:=y4 _ m2
 have e3:=y4 _ m3
 have f2:h.get? 2=some (o2 (PP w b c)):=hp (2,o2 (PP w b c)) (by simp[s0L])
 have f3:h.get? 3=some (z3 (PP w b c)):=hp (3,z3 (PP w b c)) (by simp[s0L])
 refine⟨⟨h',#[],d,5571,os⟩,⟨?_,y3,rfl,fun b' o hb hnb=>?_,fun key v hv=>?_,fun key=>?_,Pin.keysAreStrs_of (G8 e3),fun x hx=>(Pin.builtinOf_eq (G7 e0) x).trans (Heap.of_bltView (G7 e0) (ZI e0) x hx),⟨4,z4 (PP w b c),?_,y4 _ m4,rfl,rfl⟩,fun g hgm=>by simp at hgm,names_of_bound (N0 e3),fun x hx=>?_⟩,rfl,Shared.asleep_of_life y3 hz,y1,rfl,y4⟩
 ·exact(l6 hz rfl hr).1
 ·have hlt:b'<11:=hn▸Qa hb
  have hm:b'∈(s0L (PP w b c)).map (·.1):=by
   rw[show (s0L (PP w b c)).map (·.1)=List.range 11 from rfl];exact List.mem_range.mpr hlt
  obtain⟨x,hx,rfl⟩:=Qq.mp hm
  have:=hp x hx
  rw[this]at hb
  cases hb
  rcases s0_stay x hx with q|q
  ·exact absurd (.inl q) hnb
  ·exact y4 _ q
 ·have:=zE (P:=PP w b c) e2 key
  rw[show staticOf h' key=none from this]at hv;cases hv
 ·exact .inl ((zE (P:=PP w b c) e2 key).trans (zE (P:=PP w b c) f2 key).symm)
 ·exact(nM e3 _).trans (by kernel_rfl)
 ·exact((nM e3 x).trans (List.map_inj_left.mp (EB (PP w b c)) x hx)).trans (nM f3 x).symm
noncomputable abbrev law2:OpenLaw:=PySem.Challenge.rw_nz0230_03
noncomputable abbrev cl2:ClaimW:=law2.row.toRowW.claim
theorem uB(R:WRecords)(cl:Str→Option Z9)(P:Z5)(ord:List Z7→List Z7):∀(xs:List WData) (s:Xd),(∀x∈xs,∃i,x=.int i)→
  ∃l:List (Int×Nat),l.length=xs.length∧layAllW R cl P ord xs s=some (dQ l,{s with toks:=s.toks+xs.length})
 |[],s,_=>⟨[],rfl,rfl⟩
 |x::xs,s,h=>by
  obtain⟨i,rfl⟩:=h x List.mem_cons_self
  obtain⟨l,e1,e2⟩:=uB R cl P ord xs {s with toks:=s.toks+1} fun y hy=>h y (Qp _ hy)
  refine⟨(i,s.toks)::l,by rw[List.length_cons,List.length_cons,e1],?_⟩
  unfold layAllW
  simp only[layW,e2]
  congr 1
  simp only[dQ,List.map_cons,List.length_cons,Prod.mk.injEq,true_and]
  congr 1
  omega
noncomputable def UQ:Xj Z3→Xc→Xj Z3
 |.call _ _ _ _ k=>k
 |_=>fun _=>.unsupported ""
noncomputable def pH:Xj Z3→Obj→Xj Z3
 |.load _ _ k=>k
 |_=>fun _=>.unsupported ""
theorem pG(l:List (Int×Nat)):(dQ l).length=l.length:=by simp[dQ]
theorem EC(w:Z8)(b c:Bool){s:Xd}(hz:s.asleep)(hg:s.gens=#[])(hn:s.heap.objs.size=1971)(ht:s.toks=5571)(hf:∀x∈finL (PP w b c),s.heap.get? x.1=some x.2)
  (l:List (Int×Nat)) (hl:l.length≤63):
  ∃(n:Nat) (s':Xd),schedN (denote table) prog2 (W2 w b c) n (.single {s with toks:=s.toks+l.length,heap:=s.heap.push {cls:=.type "list",data:=.seq (dQ l).toArray}} (callStub law2.name [.ref s.heap.objs.size]))=.halted (.done (.ret (.bool true))) s'∧
   s'.heap.life=s.heap.life∧s'.os=s.os∧s'.gens=#[]∧∀a o,(s.heap.push {cls:=.type "list",data:=.seq (dQ l).toArray}).get? a=some o→s'.heap.get? a=some o:=by
 obtain⟨h,gs,d,tk,os⟩:=s
 simp only at hn hf ht hg
 subst ht hg
 have hsz:(h.push {cls:=.type "list",data:=.seq (dQ l).toArray}).objs.size=1972:=by rw[Heap.size_push,hn]
 have hold:∀a o,h.get? a=some o→(h.push {cls:=.type "list",data:=.seq (dQ l).toArray}).get? a=some o:=fun a o e=>Qo _ e
 have hscr:(h.push {cls:=.type "list",data:=.seq (dQ l).toArray}).get? 1971=some (am (dQ l) 0):=by rw[←hn];exact Heap.get?_push_size _ rfl
 obtain⟨n',t',tri⟩:=Pr w b c ⟨0,0,0,0⟩ (dQ l) (fun j hj=>by rw[pG]at hj;exact⟨l[j].1,l[j].2,by simp[dQ,List.getElem?_eq_getElem hj]⟩) (by rw[pG];omega) 0 1 l.length
 obtain⟨m0,m2,m3,m4,_,_⟩:=qF (P:=PP w b c)
 have hΓ:(Lim (caller.enter (.call (.ref 1970) ⟨[.ref 1971],[]⟩) none ⟨0,0,0,0⟩) 140)∧(caller.enter (.call (.ref 1970) ⟨[.ref 1971],[]⟩) none ⟨0,0,0,0⟩).below=[(.builtin "claim.caller" {},⟨0,0,0,0⟩)]:=⟨⟨⟨rfl,rfl,rfl⟩,by decide +kernel⟩,rfl⟩
 obtain⟨h',r1,r2,r3,r4,r5,r6,r7,r8⟩:=tri (by simp) (ab (by show 1971≤Zd 0 1971;decide) aa) (by decide) _ ⟨0,0,0,0⟩ (h.push {cls:=.type "list",data:=.seq (dQ l).toArray}) #[] d os rfl hΓ hsz
  (fun a o e=>hold a o (hf (a,o) (F1 _ a o e))) (ab hscr aa) (fun x hx=>nomatch hx)
 have run:Xg (MM w b c) caller ⟨0,0,0,0⟩ (callStub law2.name [.ref 1971]).cur [] ⟨h.push {cls:=.type "list",data:=.seq (dQ l).toArray},#[],d,Zd l.length 5571,os⟩ (.ret (.ok (.ret (.bool true)))) ⟨h',#[],d,t',os⟩:=by
  have t1:(callStub law2.name [.ref 1971]).cur=.load 3 (some (.str law2.name 0)) (pH (callStub law2.name [.ref 1971]).cur):=rfl
  rw[t1]
  refine .load (hold _ _ (hf _ m3)) ?_
  have t2:pH (callStub law2.name [.ref 1971]).cur (o3 (PP w b c))=.call (.call (.ref 1970) ⟨[.ref 1971],[]⟩) none false [] (UQ (pH (callStub law2.name [.ref 1971]).cur (o3 (PP w b c)))):=by kernel_rfl
  show Xg _ _ _ (pH (callStub law2.name [.ref 1971]).cur (o3 (PP w b c))) _ _ _ _
  rw[t2]
  refine .call r1 ?_
  have t3:UQ (pH (callStub law2.name [.ref 1971]).cur (o3 (PP w b c))) (.ok (.ret (.bool true)))=.pure (.done (.ret (.bool true))):=by kernel_rfl
  rw[t3]
  exact .done
 have hz':Shared.asleep ⟨h.push {cls:=.type "list",data:=.seq (dQ l).toArray},#[],d,Zd l.length 5571,os⟩:=Shared.asleep_of_life (s:=⟨h,#[],d,5571,os⟩) (Heap.life_push _ _) hz
 obtain⟨n,hN⟩:=(l6 hz' rfl run).2
 refine⟨n,⟨h',#[],d,t',os⟩,?_,r4.trans (Heap.life_push _ _),rfl,rfl,fun a o e=>?_⟩
 ·have e1:(5571:Nat)+l.length=Zd l.length 5571:=Nat.add_comm _ _
  show schedN _ _ _ n (.single ⟨h.push _,#[],d,5571+l.length,os⟩ (callStub law2.name [.ref h.objs.size]))=_
  rw[e1,hn]
  exact hN
 ·by_cases q:a=1971
  ·subst q
   have:o=am (dQ l) 0:=Option.some.inj (e.symm.trans hscr)
   subst this
   exact(r6 _ List.mem_cons_self).2
  ·exact r7 a (Nat.lt_of_lt_of_eq (Qa e) hsz) (by simpa using q) o e
theorem K5{args:List WData}(h:cl2.pre args=true):∃ns:List Int,args=[.list (ns.map .int)]∧ns.length≤63:=by
 obtain⟨h1,h2⟩:=pre_splitW (r:=law2.row.toRowW) h
 obtain⟨d,r,rfl,h3,h4⟩:=hasAllW_cons h1
 have hr:r=[]:=by cases r with|nil=>rfl|cons x xs=>simp[WShape.hasAll]at h4
 subst hr
 obtain⟨xs,rfl,h5⟩:=hasW_list h3
 obtain⟨ns,rfl⟩:=items_int h5
 refine⟨ns,rfl,?_⟩
 refine Z0 fun z=>?_
 have e:law2.row.pre.value [] {args:=[.list (ns.map .int)]}=some (.bool (!decide ((63:Int)<((ns.map WData.int).length:Nat))&&true)):=by
  show WTm.value [] (WTm.and (.not (.lt (.lit (.int 63)) (.len (.arg 0)))) (.lit (.bool true))) {args:=[.list (ns.map .int)]}=_
  simp only[WTm.value,List.getElem?_cons_zero,List.length_map]
  rw[show less? (WData.int 63) (WData.int (ns.length:Nat))=some (decide ((63:Int)<(ns.length:Nat))) from rfl]
  cases decide ((63:Int)<(ns.length:Nat))<;>rfl
 have h2':(match law2.row.pre.value [] {args:=[.list (ns.map .int)]} with|some (.bool true)=>true|_=>false)=true:=h2
 rw[e,List.length_map]at h2'
 have:decide ((63:Int)<(ns.length:Nat))=true:=decide_eq_true (by exact_mod_cast z)
 rw[this]at h2'
 cases h2'
theorem Cy(w:Z8)(b c:Bool){s₁:Xd}(hf:∀x∈finL (PP w b c),s₁.heap.get? x.1=some x.2):isTheDefsW prog2 s₁.heap law2.name:=by
 obtain⟨m0,m2,m3,m4,m5,m6⟩:=qF (P:=PP w b c)
 refine⟨1970,sF (PP w b c),_,(cK aF 150).1,(cK aF 150).2.1,(cK aF 150).2.2,(nM (hf _ m3) _).trans (by kernel_rfl),hf _ m6,rfl,by kernel_rfl,by kernel_rfl,by kernel_rfl,rfl,rfl,rfl,rfl,rfl,rfl,.inl ⟨by kernel_rfl,rfl⟩,[],by kernel_rfl,.inl ⟨rfl,rfl⟩⟩
theorem said:PySem.Challenge.rw_nz0230_03.wellSaid=true:=by
 unfold OpenLaw.wellSaid OpenRow.wellSaid OpenRow.partSaid looksOpen
 repeat' (with_reducible refine look_both ?_ ?_)
 all_goals decide +kernel
theorem Am(w:Z8)(b c:Bool){s:Xd}{free:Z9→Prop}{gens:Prop}{kept:Xh→Prop}(hk:∀h',kept h')(hz:s.asleep)(hg:s.gens=#[])(hn:s.heap.objs.size=1971)(ht:s.toks=5571)(hf:∀x∈finL (PP w b c),s.heap.get? x.1=some x.2):
  cl2.CallFrom (callStub law2.name) (W2 w b c) free gens kept s:=by
 intro args hpre hlay ord hord
 obtain⟨ns,rfl,hl⟩:=K5 hpre
 obtain⟨l,e1,e2⟩:=uB cl2.records (classAt s.heap) (W2 w b c).params ord (ns.map .int) s fun x hx=>by
  obtain⟨i,_,rfl⟩:=Qq.mp hx;exact⟨i,rfl⟩
 have hlaid:layAllW cl2.records (classAt s.heap) (W2 w b c).params ord [.list (ns.map .int)] s=some ([.ref s.heap.objs.size],{s with toks:=s.toks+l.length,heap:=s.heap.push {cls:=.type "list",data:=.seq (dQ l).toArray}}):=by
  unfold layAllW
  simp only[layW,e2]
  unfold layAllW
  simp only[e1]
 obtain⟨n,s',hN,q1,q2,q3,q4⟩:=EC w b c hz hg hn ht hf l (by rw[e1,List.length_map];exact hl)
 obtain⟨hsame,hu,ha,hap,hm⟩:=frees_parts (r:=law2.row.toRowW) rfl
 have hi:=ident_freeW hu ha hap
 have G:GoodW cl2 (classAt s.heap) (ExcName.means s.heap) [.list (ns.map .int)] {s with toks:=s.toks+l.length,heap:=s.heap.push {cls:=.type "list",data:=.seq (dQ l).toArray}} (.ok (.ret (.bool true))) s':=
  ⟨.inl ⟨_,.bool true,[],rfl,fun _=>rfl,.bool true,by kernel_rfl,fun _=>⟨List.nodup_nil,fun a ha=>nomatch ha⟩⟩,q4,q2,q3⟩
 have E:=G.ends hsame hi hord hlaid hlay
 refine⟨_,_,hlaid,n,_,s',hN,?_,(fun _ i x hx=>by rw[hg]at hx;simp at hx),hk _,by rw[q1],Shared.rest_eq q2⟩
 rcases E.1 with ⟨v,hv,d1,d2,d3,d4,d5⟩|⟨e,ob,cls,hv,_⟩
 ·have:v=.bool true:=by cases hv;rfl
  subst this
  exact .inl ⟨_,rfl,d1,d2,d3,fun b' o y _=>d4 b' o y,d5⟩
 ·cases hv
theorem row_holds(said:law2.row.wellSaid=true):law2.row.Holds:=by
 refine⟨said,⟨[.list []],by decide +kernel,by decide +kernel⟩,⟨⟨rfl,rfl,rfl,rfl,rfl,by decide +kernel⟩,by decide +kernel,rfl⟩,⟨[.list []],by decide +kernel,by decide +kernel⟩,fun w=>?_⟩
 obtain⟨b,c,hw⟩:=JT w
 rw[←hw]
 clear hw
 obtain⟨s0,hs0,n0,p0,t0,g0⟩:=Ui w b c
 obtain⟨s,h4,h5⟩:=Option.bind_eq_some_iff.mp (show (importEnds treeTable (opening prog2) (W2 w b c) 3000 (start (opening prog2)).1 (start (opening prog2)).2).bind (fenceModules? prog2)=some s0 from hs0)
 rw[←table_eq_tree]at h4
 have A:=AfterImport.of_importEnds h4
 refine⟨⟨s,A⟩,fun s' hs'=>?_⟩
 obtain rfl:s'=s:=AfterImport.unique hs' A
 have z:s0.asleep:=Shared.asleep_of_life (fence_lifeW h5) A.life
 obtain⟨s1,T,g1,z1,n1,t1,f1⟩:=LU w b c z n0 p0 t0 g0
 refine⟨s0,h5,g0,s1,T,fun n hn=>?_,(fun x hx=>nomatch hx),(fun x hx=>nomatch hx),Am w b c (fun h' hw=>nomatch hw) z1 g1 n1 t1 f1⟩
 have:n=law2.name:=List.mem_singleton.mp hn
 subst this
 exact Cy w b c f1
end
end Mine
end
open PySem PySem.W PyProof.Rows Mine in
theorem PySem.Challenge.cw_nz0230_03_holds : PySem.Challenge.rw_nz0230_03.Holds := by
  exact holds_law Mine.said Mine.row_holds
