import PyProof.Rows.All
import PyProof.Draws
import PyProof.P3Statements
import KE.BytesMake
import KE.KBytesWalk
import KE.KTryMore
import Wide.FinOn
import OpenK.AllK
import Wide.All
import Lean
import PySem.Challenge.RW_tg0037_01
set_option Elab.async false
set_option linter.all false
set_option genSizeOf false
set_option genInjectivity false
set_option maxRecDepth 100000
set_option maxHeartbeats 1000000
namespace Mine
section
inductive LE where
 |v (i:Nat)
 |n (k:Nat)
 |o (op:Nat) (a b:LE)
 deriving DecidableEq
noncomputable def sU {α:Type u}(d:α)(l:List α)(i:Nat):α:=
 let _:=PySem.treeTable
 List.rec (motive:=fun _=>Nat→α) (fun _=>d) (fun a _ ih i=>Nat.rec a (fun j _=>ih j) i) l i
noncomputable abbrev LO:=Nat→Int→Nat→Int→(α:Type)→(Nat→Int→α)→α
noncomputable def Id:List LO:=[fun x i y j _ k=>k (x+y) (i+j),fun x i y j _ k=>k (x-y) (i-j),fun x i y j _ k=>k (x*y) (i*j),
 fun x i y j _ k=>k (min x y) (min i j),fun x i y j _ k=>k (max x y) (max i j),fun x i y j _ k=>k (x/y) (i/j),fun x i y j _ k=>k (x%y) (i%j),
 fun x i _ _ _ k=>k i.natAbs (x:Int)]
noncomputable def BV:List (Nat→Int→Nat→Int→Prop):=[fun x _ y _=>x≤y,fun x _ y _=>x<y,fun x _ y _=>x=y,fun x _ y _=>x≠y,
 fun _ i _ j=>i≤j,fun _ i _ j=>i<j,fun _ i _ j=>i=j]
noncomputable def Cb:List (Prop→Prop→Prop):=[fun p q=>p→q,fun p q=>p∧q,fun p q=>p∨q,fun p _=>¬p]
inductive LP where
 |r (rel:Nat) (a b:LE)
 |c (op:Nat) (p q:LP)
section
variable (c:List Nat)(d:List Int)
noncomputable def B0 (e:LE):(α:Type)→(Nat→Int→α)→α:=
 let _:=PySem.treeTable
 LE.rec (motive:=fun _=>(α:Type)→(Nat→Int→α)→α) (fun i _ k=>k (sU 0 c i) (sU 0 d i)) (fun j _ k=>k j (Int.ofNat j))
  (fun op _ _ f g=>sU (fun _ i _ _ _ k=>k i.toNat (-i)) Id op (f Nat fun n _=>n) (f Int fun _ i=>i) (g Nat fun n _=>n) (g Int fun _ i=>i)) e
noncomputable abbrev ldN (e:LE):Nat:=B0 c d e Nat fun n _=>n
noncomputable abbrev ldI (e:LE):Int:=B0 c d e Int fun _ i=>i
noncomputable def iV (p:LP):Prop:=
 let _:=PySem.treeTable
 LP.rec (motive:=fun _=>Prop) (fun r a b=>sU (fun _ i _ j=>i≠j) BV r (ldN c d a) (ldI c d a) (ldN c d b) (ldI c d b)) (fun op _ _ p q=>sU (fun _ _=>False) Cb op p q) p
noncomputable abbrev LK:=Bool × LE
noncomputable def cR (k:LK):Int:=bif k.1 then ldI c d k.2 else(ldN c d k.2:Int)
noncomputable abbrev LL:=Int × List (Int × LK)
noncomputable def gn (t:List (Int × LK)):Int:=match t with
 |[]=>0
 |(a,k)::t=>a*cR c d k+gn t
noncomputable def lev (l:LL):Int:=l.1+gn c d l.2
noncomputable def cO (m:Int)(l:LL):LL:=(m*l.1,l.2.map fun p=>(m*p.1,p.2))
noncomputable def s6 (a b:LL):LL:=(a.1+b.1,a.2++b.2)
noncomputable def ck (a b:LL):LL:=s6 a (cO (-1) b)
noncomputable def ot (k:Int)(a:LL):LL:=(a.1+k,a.2)
theorem sR (a b:List (Int × LK)):gn c d (a++b)=gn c d a+gn c d b:=by
 induction a with
 |nil=>simp[gn]
 |cons p a ih=>simp only[List.cons_append,gn,ih];lia
theorem oq (m:Int)(a:List (Int × LK)):gn c d (a.map fun p=>(m*p.1,p.2))=m*gn c d a:=by
 induction a with
 |nil=>simp[gn]
 |cons p a ih=>simp only[List.map_cons,gn,ih,Int.mul_add,Int.mul_assoc]
theorem lr (a b:LL):lev c d (s6 a b)=lev c d a+lev c d b:=by
 simp only[lev,s6,sR];lia
theorem b7 (m:Int)(a:LL):lev c d (cO m a)=m*lev c d a:=by
 simp only[lev,cO,oq,Int.mul_add]
theorem cS (a b:LL):lev c d (ck a b)=lev c d a-lev c d b:=by
 simp only[ck,lr,b7];lia
theorem fS (k:Int)(a:LL):lev c d (ot k a)=lev c d a+k:=by
 simp only[lev,ot];lia
noncomputable def sT {α:Type}(d:α):List α→Nat→α
 |[],_=>d
 |a::_,0=>a
 |_::l,i+1=>sT d l i
noncomputable def lp:LE→Option Nat
 | .n k=>some k
 |_=>none
noncomputable def el (s:Bool)(e:LE):LL:=(0,[(1,s,e)])
noncomputable def BY:List (LE→LE→(Bool→LL)→(Bool→LL)→Bool→LL):=[fun _ _ f g s=>s6 (f s) (g s),
 fun a b f g s=>bif s then ck (f true) (g true)else el s (.o 1 a b),
 fun a b f g s=>match lp a with
  |some k=>cO k (g s)
  |none=>match lp b with
   |some k=>cO k (f s)
   |none=>el s (.o 2 a b),
 fun a b _ _ s=>el s (.o 3 a b),fun a b _ _ s=>el s (.o 4 a b),fun a b _ _ s=>el s (.o 5 a b),fun a b _ _ s=>el s (.o 6 a b),
 fun a b f _ s=>bif s then f false else el s (.o 7 a b),fun a b f _ s=>bif s then cO (-1) (f true)else el s (.o 8 a b)]
noncomputable def bE:LE→Bool→LL
 | .v i,s=>el s (.v i)
 | .n k,_=>(k,[])
 | .o op a b,s=>sT (fun a b _ _ s=>el s (.o op a b)) BY op a b (bE a) (bE b) s
theorem lm:∀{a:LE}{k:Nat},lp a=some k→a= .n k:=by
 intro a k h
 cases a with
 |n j=>exact congrArg LE.n (Option.some.inj h)
 |_=>exact Option.noConfusion rfl (heq_of_eq h)
theorem bM (s:Bool)(e:LE):lev c d (el s e)=cR c d (s,e):=by
 show 0+(1*cR c d (s,e)+0)=_
 rw[Int.zero_add,Int.add_zero,Int.one_mul]
theorem mV (m n:Nat):(m:Int)*(n:Int)=((m*n:Nat):Int):=(Int.natCast_mul m n).symm
theorem ib (e:LE):∀s,lev c d (bE e s)=cR c d (s,e):=by
 induction e with
 |v i=>exact fun s=>bM c d s _
 |n k=>exact fun s=>by cases s<;>exact Int.add_zero _
 |o op a b iha ihb=>
  intro s
  match op with
  |0=>
   refine(lr c d _ _).trans ?_
   rw[iha,ihb]
   cases s
   ·exact(Int.natCast_add _ _).symm
   ·rfl
  |1=>
   cases s
   ·exact bM c d _ _
   ·refine(cS c d _ _).trans ?_
    rw[iha,ihb];rfl
  |2=>
   show lev c d (match lp a with
    |some k=>cO k (bE b s)
    |none=>match lp b with
     |some k=>cO k (bE a s)
     |none=>el s (.o 2 a b))=_
   cases ea:lp a with
   |some k=>
    refine(b7 c d _ _).trans ?_
    rw[ihb,lm ea]
    cases s
    ·exact mV _ _
    ·rfl
   |none=>
    cases eb:lp b with
    |some k=>
     refine(b7 c d _ _).trans ?_
     rw[iha,lm eb,Int.mul_comm]
     cases s
     ·exact mV _ _
     ·rfl
    |none=>exact bM c d _ _
  |3=>exact bM c d _ _
  |4=>exact bM c d _ _
  |5=>exact bM c d _ _
  |6=>exact bM c d _ _
  |7=>
   cases s
   ·exact bM c d _ _
   ·exact iha false
  |8=>
   cases s
   ·exact bM c d _ _
   ·refine(b7 c d _ _).trans ?_
    rw[iha,Int.neg_one_mul];rfl
  |_+9=>exact bM c d _ _
noncomputable def eG (l:List LL):Prop:=∀x∈l,0≤lev c d x
theorem fW:eG c d []:=fun _ h=>nomatch h
theorem bO {x:LL}{l:List LL}(h:0≤lev c d x)(t:eG c d l):eG c d (x::l):=fun y hy=>by
 rcases List.mem_cons.mp hy with rfl|hy
 ·exact h
 ·exact t y hy
theorem jc {l m:List LL}(h:eG c d l)(t:eG c d m):eG c d (l++m):=fun y hy=>(List.mem_append.mp hy).elim (h y) (t y)
noncomputable def dM (l:List (List LL)):Prop:=∃b∈l,eG c d b
noncomputable def pB (a b:List (List LL)):List (List LL):=a.flatMap fun x=>b.map fun y=>x++y
theorem gp {a b:List (List LL)}(h:dM c d a)(t:dM c d b):dM c d (pB a b):=by
 obtain⟨x,hx,h⟩:=h
 obtain⟨y,hy,t⟩:=t
 exact⟨x++y,List.mem_flatMap.mpr ⟨x,hx,List.mem_map_of_mem hy⟩,jc c d h t⟩
noncomputable def ou (r:Nat)(a b:LL):List (List LL):=
 if r=0 then[[ck b a]]else if r=1 then[[ot (-1) (ck b a)]]else if r=2 then[[ck b a,ck a b]]
 else[[ot (-1) (ck b a)],[ot (-1) (ck a b)]]
noncomputable def Af (r:Nat)(a b:LL):List (List LL):=
 if r=0 then ou 1 b a else if r=1 then ou 0 b a else if r=2 then ou 3 a b else ou 2 a b
noncomputable def mU (r:Nat)(x y:Int):Prop:=
 if r=0 then x≤y else if r=1 then x<y else if r=2 then x=y else x≠y
theorem qR {x:LL}(h:0≤lev c d x):eG c d [x]:=bO c d h (fW c d)
theorem fT {r:Nat}{a b:LL}(h:mU r (lev c d a) (lev c d b)):dM c d (ou r a b):=by
 unfold ou
 unfold mU at h
 split
 ·rename_i e;rw[if_pos e]at h
  exact⟨_,.head _,qR c d (by rw[cS];lia)⟩
 rename_i e0;rw[if_neg e0]at h
 split
 ·rename_i e;rw[if_pos e]at h
  exact⟨_,.head _,qR c d (by rw[fS,cS];lia)⟩
 rename_i e1;rw[if_neg e1]at h
 split
 ·rename_i e;rw[if_pos e]at h
  exact⟨_,.head _,bO c d (by rw[cS];lia) (qR c d (by rw[cS];lia))⟩
 ·rename_i e2;rw[if_neg e2]at h
  rcases Int.lt_or_gt_of_ne h with q|q
  ·exact⟨_,.head _,qR c d (by rw[fS,cS];lia)⟩
  ·exact⟨_,.tail _ (.head _),qR c d (by rw[fS,cS];lia)⟩
theorem vI {r:Nat}{a b:LL}(h:¬mU r (lev c d a) (lev c d b)):dM c d (Af r a b):=by
 unfold Af
 unfold mU at h
 split
 ·rename_i e;rw[if_pos e]at h
  exact fT c d (r:=1) (Int.not_le.mp h)
 rename_i e0;rw[if_neg e0]at h
 split
 ·rename_i e;rw[if_pos e]at h
  exact fT c d (r:=0) (Int.not_lt.mp h)
 rename_i e1;rw[if_neg e1]at h
 split
 ·rename_i e;rw[if_pos e]at h
  exact fT c d (r:=3) h
 ·rename_i e;rw[if_neg e]at h
  exact fT c d (r:=2) (Classical.not_not.mp h)
noncomputable def lq (r:Nat):Nat × Bool:=match r with
 |0=>(0,false)|1=>(1,false)|2=>(2,false)|3=>(3,false)|4=>(0,true)|5=>(1,true)|6=>(2,true)|_=>(3,true)
theorem pA {r:Nat}{a b:LE}:iV c d (.r r a b)↔mU (lq r).1 (lev c d (bE a (lq r).2)) (lev c d (bE b (lq r).2)):=by
 rw[ib,ib]
 rcases r with _|_|_|_|_|_|_|r<;>first|exact Iff.rfl|exact Int.ofNat_le.symm|exact Int.ofNat_lt.symm|exact Int.ofNat_inj.symm|exact not_congr Int.ofNat_inj.symm
noncomputable def lbr (t:Bool):LP→List (List LL)
 | .r r a b=>bif t then ou (lq r).1 (bE a (lq r).2) (bE b (lq r).2)else Af (lq r).1 (bE a (lq r).2) (bE b (lq r).2)
 | .c op p q=>if op=0 then(bif t then lbr false p++lbr true q else pB (lbr true p) (lbr false q))
  else if op=1 then(bif t then pB (lbr true p) (lbr true q)else lbr false p++lbr false q)
  else if op=2 then(bif t then lbr true p++lbr true q else pB (lbr false p) (lbr false q))
  else if op=3 then lbr (!t) p
  else bif t then[]else[[]]
noncomputable def BZ (t:Bool)(p:Prop):Prop:=bif t then p else ¬p
theorem oz {a b:List (List LL)}(h:dM c d a):dM c d (a++b):=h.imp fun _ q=>⟨List.mem_append_left _ q.1,q.2⟩
theorem oy {a b:List (List LL)}(h:dM c d b):dM c d (a++b):=h.imp fun _ q=>⟨List.mem_append_right _ q.1,q.2⟩
theorem Ah (p:LP):∀(t:Bool),BZ t (iV c d p)→dM c d (lbr t p):=by
 induction p with
 |r r a b=>
  intro t h
  cases t with
  |true=>exact fT c d ((pA c d).mp h)
  |false=>exact vI c d (fun q=>h ((pA c d).mpr q))
 |c op p q ihp ihq=>
  intro t h
  unfold lbr
  split
  ·rename_i e;subst e
   cases t with
   |true=>
    by_cases hp:iV c d p
    ·exact oy c d (ihq true (h hp))
    ·exact oz c d (ihp false hp)
   |false=>exact gp c d (ihp true (Classical.byContradiction fun k=>h fun hp=>absurd hp k)) (ihq false fun k=>h fun _=>k)
  split
  ·rename_i e;subst e
   cases t with
   |true=>exact gp c d (ihp true h.1) (ihq true h.2)
   |false=>
    by_cases hp:iV c d p
    ·exact oy c d (ihq false fun k=>h ⟨hp,k⟩)
    ·exact oz c d (ihp false hp)
  split
  ·rename_i e;subst e
   cases t with
   |true=>exact Or.elim h (fun k=>oz c d (ihp true k)) fun k=>oy c d (ihq true k)
   |false=>exact gp c d (ihp false fun k=>h (.inl k)) (ihq false fun k=>h (.inr k))
  split
  ·rename_i e;subst e
   cases t with
   |true=>exact ihp false h
   |false=>exact ihp true (Classical.not_not.mp h)
  ·rename_i e0 e1 e2 e3
   have hl:iV c d (.c op p q)=False:=by
    match op,e0,e1,e2,e3 with
    |op+4,_,_,_,_=>rfl
   cases t with
   |true=>exact False.elim (hl▸h:False)
   |false=>exact⟨_,.head _,fW c d⟩
theorem fx {a b:LL}(h:lev c d b≤lev c d a):0≤lev c d (ck a b):=by
 rw[cS];exact Int.sub_nonneg_of_le h
theorem cn {a b:LL}(h:lev c d b≤lev c d a):eG c d [ck a b]:=qR c d (fx c d h)
noncomputable def leq (a b:LL)(t:List LL):List LL:=ck a b::ck b a::t
theorem d9 {a b:LL}{t:List LL}(h:lev c d a=lev c d b)(ht:eG c d t):eG c d (leq a b t):=
 bO c d (fx c d (Int.le_of_eq h.symm)) (bO c d (fx c d (Int.le_of_eq h)) ht)
noncomputable def fQ:LL:=(0,[])
theorem wV {b:List LL}(h:eG c d b):dM c d [b]:=⟨b,.head _,h⟩
theorem jb {b b':List LL}(h:eG c d b):dM c d [b,b']:=⟨b,.head _,h⟩
theorem ja {b b':List LL}(h:eG c d b'):dM c d [b,b']:=⟨b',.tail _ (.head _),h⟩
theorem jL:dM c d [[]]:=wV c d (fW c d)
noncomputable def qV (s:Bool)(a b:LE)(r:LL→Nat→List LL):List (List LL):=match lp b with
 |some (m+1)=>[r (bE a s) m]
 |_=>[[]]
noncomputable def ldq (x y:LL)(m:Nat):List LL:=[ck y (cO (m+1:Nat) x),ck (ot m (cO (m+1:Nat) x)) y]
noncomputable def ldr (q x y:LL)(m:Nat):List LL:=leq (s6 (cO (m+1:Nat) q) x) y [ck x fQ,ck (ot m fQ) x]
noncomputable def Ab:List (Bool→LE→LE→LL→List (List LL)):=[fun _ _ _ _=>[[]],
 fun s a b x=>bif s then[[]]else[leq x (ck (bE a s) (bE b s)) [],[ck fQ x,ck (bE b s) (bE a s)]],
 fun _ _ _ _=>[[]],
 fun s a b x=>[leq x (bE a s) [ck (bE b s) (bE a s)],leq x (bE b s) [ck (bE a s) (bE b s)]],
 fun s a b x=>[leq x (bE a s) [ck (bE a s) (bE b s)],leq x (bE b s) [ck (bE b s) (bE a s)]],
 fun s a b x=>qV s a b (ldq x),
 fun s a b x=>qV s a b (ldr (el s (.o 5 a b)) x),
 fun s a _ x=>bif s then[[]]else[leq x (bE a true) [ck (bE a true) fQ],leq x (cO (-1) (bE a true)) [ck fQ (bE a true)]],
 fun s a _ x=>bif s then[[]]else[leq x (bE a true) [ck (bE a true) fQ],[ck fQ x,ck fQ (bE a true)]]]
noncomputable def Ad:LK→List (List LL)
 |(s,.o op a b)=>sT (fun _ _ _ _=>[[]]) Ab op s a b (el s (.o op a b))
 |_=>[[]]
noncomputable def wS (k:LK):List (List LL):=bif k.1 then Ad k else(Ad k).map (el k.1 k.2::·)
theorem pH {s:Bool}{a b:LE}{r:LL→Nat→List LL}(h:∀m,b= .n (m+1)→eG c d (r (bE a s) m)):dM c d (qV s a b r):=by
 unfold qV
 cases e:lp b with
 |none=>exact jL c d
 |some k=>
  cases k with
  |zero=>exact jL c d
  |succ m=>exact wV c d (h m (lm e))
theorem mS:lev c d fQ=0:=rfl
theorem pC (k:LK):dM c d (Ad k):=by
 obtain⟨s,e⟩:=k
 cases e with
 |v i=>exact jL c d
 |n i=>exact jL c d
 |o op a b=>
  have hx:=bM c d s (.o op a b)
  have ha:=ib c d a
  have hb:=ib c d b
  match op with
  |0=>exact jL c d
  |1=>
   cases s
   ·by_cases q:ldN c d b≤ldN c d a
    ·exact jb c d (d9 c d (by rw[hx,cS,ha,hb];exact Int.ofNat_sub q) (fW c d))
    ·have q:=Nat.le_of_lt (Nat.not_le.mp q)
     exact ja c d (bO c d (fx c d (by rw[hx,mS];exact Int.le_of_eq (congrArg Int.ofNat (Nat.sub_eq_zero_of_le q)))) (cn c d (by rw[ha,hb];exact Int.ofNat_le.mpr q)))
   ·exact jL c d
  |2=>exact jL c d
  |3=>
   rcases Int.le_total (cR c d (s,a)) (cR c d (s,b))with q|q
   ·refine jb c d (d9 c d ?_ (cn c d (by rw[ha,hb];exact q)))
    rw[hx,ha]
    cases s
    ·exact congrArg Int.ofNat (Nat.min_eq_left (Int.ofNat_le.mp q))
    ·exact Int.min_eq_left q
   ·refine ja c d (d9 c d ?_ (cn c d (by rw[ha,hb];exact q)))
    rw[hx,hb]
    cases s
    ·exact congrArg Int.ofNat (Nat.min_eq_right (Int.ofNat_le.mp q))
    ·exact Int.min_eq_right q
  |4=>
   rcases Int.le_total (cR c d (s,b)) (cR c d (s,a))with q|q
   ·refine jb c d (d9 c d ?_ (cn c d (by rw[ha,hb];exact q)))
    rw[hx,ha]
    cases s
    ·exact congrArg Int.ofNat (Nat.max_eq_left (Int.ofNat_le.mp q))
    ·exact Int.max_eq_left q
   ·refine ja c d (d9 c d ?_ (cn c d (by rw[ha,hb];exact q)))
    rw[hx,hb]
    cases s
    ·exact congrArg Int.ofNat (Nat.max_eq_right (Int.ofNat_le.mp q))
    ·exact Int.max_eq_right q
  |5=>
   show dM c d (qV s a b (ldq (el s (.o 5 a b))))
   refine pH c d fun m e=>?_
   subst e
   have hv:cR c d (s,.o 5 a (.n (m+1)))=cR c d (s,a)/((m+1:Nat):Int):=by cases s<;>rfl
   have h1:=Int.mul_ediv_self_le (x:=cR c d (s,a)) (k:=((m+1:Nat):Int)) (Int.ofNat_ne_zero.mpr (Nat.succ_ne_zero m))
   have h2:=Int.lt_mul_ediv_self_add (x:=cR c d (s,a)) (k:=((m+1:Nat):Int)) (Int.natCast_pos.mpr (Nat.succ_pos m))
   rw[← hv]at h1 h2
   refine bO c d (fx c d (by rw[b7,hx,ha];exact h1)) (cn c d ?_)
   rw[fS,b7,hx,ha]
   rw[Int.natCast_succ,← Int.add_assoc,← Int.natCast_succ]at h2
   exact Int.le_of_lt_add_one h2
  |6=>
   show dM c d (qV s a b (ldr (el s (.o 5 a b)) (el s (.o 6 a b))))
   refine pH c d fun m e=>?_
   subst e
   have hq:cR c d (s,.o 5 a (.n (m+1)))=cR c d (s,a)/((m+1:Nat):Int):=by cases s<;>rfl
   have hv:cR c d (s,.o 6 a (.n (m+1)))=cR c d (s,a)%((m+1:Nat):Int):=by cases s<;>rfl
   have hm:0<((m+1:Nat):Int):=Int.natCast_pos.mpr (Nat.succ_pos m)
   refine d9 c d ?_ (bO c d (fx c d ?_) (cn c d ?_))
   ·rw[lr,b7,bM,hx,ha,hq,hv];exact Int.mul_ediv_add_emod _ _
   ·rw[hx,hv];exact Int.emod_nonneg _ (Int.ne_of_gt hm)
   ·rw[hx,hv,fS,mS,Int.zero_add];exact Int.le_of_lt_add_one (Int.emod_lt_of_pos _ hm)
  |7=>
   cases s
   ·rcases Int.le_total 0 (cR c d (true,a))with q|q
    ·exact jb c d (d9 c d (by rw[hx,ha];exact Int.natAbs_of_nonneg q) (cn c d (by rw[ha];exact q)))
    ·exact ja c d (d9 c d (by rw[hx,b7,ha,Int.neg_one_mul];exact Int.ofNat_natAbs_of_nonpos q) (cn c d (by rw[ha];exact q)))
   ·exact jL c d
  |8=>
   cases s
   ·rcases Int.le_total 0 (cR c d (true,a))with q|q
    ·exact jb c d (d9 c d (by rw[hx,ha];exact Int.toNat_of_nonneg q) (cn c d (by rw[ha];exact q)))
    ·exact ja c d (bO c d (fx c d (by rw[hx];exact Int.le_of_eq (congrArg Int.ofNat (Int.toNat_of_nonpos q)))) (cn c d (by rw[ha];exact q)))
   ·exact jL c d
  |_+9=>exact jL c d
theorem sS (k:LK):dM c d (wS k):=by
 obtain⟨s,e⟩:=k
 cases s
 ·obtain⟨y,hy,h⟩:=pC c d (false,e)
  exact⟨_,List.mem_map_of_mem hy,bO c d (by rw[bM];exact Int.natCast_nonneg _) h⟩
 ·exact pC c d (true,e)
end
noncomputable abbrev LV:=Int × List Int
noncomputable def bI:List Int→List Int→Int
 |a::v,x::xs=>a*x+bI v xs
 |_,_=>0
noncomputable def Ac (xs:List Int)(cs:List LV):Prop:=∀p∈cs,0≤p.1+bI p.2 xs
noncomputable def sV (p:LV):LV:=
 let g:Nat:=p.2.foldl (fun g a=>Nat.gcd g a.natAbs) 0
 if 1<g∧p.2.all (fun a=>a%(g:Int)==0)=true then(p.1/(g:Int),p.2.map (·/(g:Int)))else p
noncomputable def lhd:List Int→Int
 |a::_=>a
 |[]=>0
noncomputable def ltl:List Int→List Int
 |_::l=>l
 |[]=>[]
noncomputable def oo (a b:Int):List Int→List Int→List Int
 |x::u,y::w=>(a*x+b*y)::oo a b u w
 |u,[]=>u.map (a*·)
 |[],w=>w.map (b*·)
noncomputable def wU (cs:List LV):List LV:=
 (cs.filter fun p=>lhd p.2==0).map (fun p=>(p.1,ltl p.2))++
 (cs.filter fun p=>decide (0<lhd p.2)).flatMap fun p=>(cs.filter fun q=>decide (lhd q.2<0)).map fun q=>
  sV (-lhd q.2*p.1+lhd p.2*q.1,oo (-lhd q.2) (lhd p.2) (ltl p.2) (ltl q.2))
noncomputable def lfm:Nat→List LV→Bool
 |0,cs=>cs.any fun p=>decide (p.1<0)
 |n+1,cs=>lfm n (wU cs)
theorem i6 (v:List Int):bI v []=0:=by cases v<;>rfl
theorem ke (v:List Int)(x:Int)(xs:List Int):bI v (x::xs)=lhd v*x+bI (ltl v) xs:=by
 cases v with
 |nil=>simp[bI,lhd,ltl]
 |cons a v=>rfl
theorem mT (a:Int):∀(v xs:List Int),bI (v.map (a*·)) xs=a*bI v xs:=by
 intro v
 induction v with
 |nil=>intro xs;simp[bI]
 |cons b v ih=>
  intro xs
  cases xs with
  |nil=>simp[bI]
  |cons x xs=>simp only[List.map_cons,bI,ih,Int.mul_add,Int.mul_assoc]
theorem s0 (a b:Int):∀(u w xs:List Int),bI (oo a b u w) xs=a*bI u xs+b*bI w xs:=by
 intro u
 induction u with
 |nil=>
  intro w xs
  cases w with
  |nil=>simp[oo,bI]
  |cons y w=>
   rw[oo,mT];· simp[bI]
   ·exact fun h=>nomatch h
 |cons x u ih=>
  intro w xs
  cases w with
  |nil=>rw[oo,mT];simp[bI]
  |cons y w=>
   cases xs with
   |nil=>simp[i6]
   |cons z xs=>
    simp only[oo,bI,ih,Int.mul_add,Int.add_mul,Int.mul_assoc];lia
theorem pE {p:LV}{xs:List Int}(h:0≤p.1+bI p.2 xs):0≤(sV p).1+bI (sV p).2 xs:=by
 unfold sV
 dsimp only
 generalize p.2.foldl (fun g a=>Nat.gcd g a.natAbs) 0=g
 split
 ·rename_i e
  obtain⟨e1,e2⟩:=e
  have key:∀(v xs:List Int),v.all (fun a=>a%(g:Int)==0)=true→bI v xs=(g:Int)*bI (v.map (·/(g:Int))) xs:=by
   intro v
   induction v with
   |nil=>intro xs _;simp[bI]
   |cons a v ih=>
    intro xs hv
    cases xs with
    |nil=>simp[i6]
    |cons x xs=>
     rw[List.all_cons,Bool.and_eq_true]at hv
     have ha:a%(g:Int)=0:=by simpa using hv.1
     have hm:=Int.mul_ediv_add_emod a (g:Int)
     rw[ha,Int.add_zero]at hm
     simp only[List.map_cons,bI,ih xs hv.2,Int.mul_add]
     rw[← Int.mul_assoc,hm]
  rw[key _ xs e2]at h
  have hg:(0:Int)<g:=by lia
  have h2: -bI (p.2.map (·/(g:Int))) xs≤p.1/(g:Int):=by
   rw[Int.le_ediv_iff_mul_le hg,Int.neg_mul,Int.mul_comm];lia
  show 0≤p.1/(g:Int)+bI (p.2.map (·/(g:Int))) xs
  lia
 ·exact h
theorem sY {cs:List LV}{x:Int}{xs:List Int}(h:Ac (x::xs) cs):Ac xs (wU cs):=by
 intro r hr
 rcases List.mem_append.mp hr with hr|hr
 ·obtain⟨p,hp,rfl⟩:=List.mem_map.mp hr
  rw[List.mem_filter]at hp
  have:=h p hp.1
  rw[ke,eq_of_beq hp.2]at this
  show 0≤p.1+bI (ltl p.2) xs
  lia
 ·obtain⟨p,hp,hr⟩:=List.mem_flatMap.mp hr
  obtain⟨q,hq,rfl⟩:=List.mem_map.mp hr
  rw[List.mem_filter,decide_eq_true_eq]at hp hq
  refine pE ?_
  have h1:=h p hp.1
  have h2:=h q hq.1
  rw[ke]at h1 h2
  have a1:=Int.mul_nonneg (Int.neg_nonneg_of_nonpos (Int.le_of_lt hq.2)) h1
  have a2:=Int.mul_nonneg (Int.le_of_lt hp.2) h2
  dsimp only
  rw[s0]
  have e1:lhd p.2*(lhd q.2*x)=lhd q.2*(lhd p.2*x):=by rw[← Int.mul_assoc,Int.mul_comm (lhd p.2),Int.mul_assoc]
  rw[Int.mul_add,Int.mul_add,Int.neg_mul,Int.neg_mul,Int.neg_mul]at a1
  rw[Int.mul_add,Int.mul_add,e1]at a2
  rw[Int.neg_mul,Int.neg_mul]
  lia
theorem Ag:∀(xs:List Int) (cs:List LV),lfm xs.length cs=true→¬Ac xs cs:=by
 intro xs
 induction xs with
 |nil=>
  intro cs h hs
  obtain⟨p,hp,hn⟩:=List.any_eq_true.mp h
  have:=hs p hp
  rw[i6]at this
  have hn:p.1<0:=by simpa using hn
  lia
 |cons x xs ih=>exact fun cs h hs=>ih _ h (sY hs)
noncomputable def vH (a:Int)(k:LK):List LK→List Int→Option (List Int)
 |k'::ks,x::xs=>if k=k' then some ((x+a)::xs)else(vH a k ks xs).map (x::·)
 |_,_=>none
noncomputable def Aa (ks:List LK):List (Int × LK)→Option (List Int)
 |[]=>some (ks.map fun _=>0)
 |(a,k)::t=>(Aa ks t).bind (vH a k ks)
noncomputable def pz (ks:List LK)(cs:List LL):List LV:=cs.filterMap fun p=>(Aa ks p.2).map fun v=>sV (p.1,v)
noncomputable def sW (b:List LL):List LK:=b.flatMap fun l=>l.2.map (·.2)
noncomputable def mO:Nat→List LK→List (List (List LL))→List LK→List LL→Bool
 |0,_,_,_,_=>false
 |f+1,[],later,ks,cs=>bif lfm ks.length (pz ks cs)then true else
  match later with
  |[]=>false
  |bs::later=>bs.all fun b=>mO f (sW b) later ks (b++cs)
 |f+1,k::todo,later,ks,cs=>if ks.contains k=true then mO f todo later ks cs else
  match wS k with
  |[b]=>mO f (sW b++todo) later (k::ks) (b++cs)
  |bs=>mO f todo (bs::later) (k::ks) cs
noncomputable def Cc (p:LP):Bool:=(lbr false p).all fun b=>mO 200 (sW b) [] [] b
section
variable (c:List Nat)(d:List Int)
theorem vG {a:Int}{k:LK}:∀{ks:List LK}{v w:List Int},vH a k ks v=some w→bI w (ks.map (cR c d))=bI v (ks.map (cR c d))+a*cR c d k:=by
 intro ks
 induction ks with
 |nil=>intro v w h;cases v<;>cases h
 |cons k' ks ih=>
  intro v w h
  cases v with
  |nil=>cases h
  |cons x v=>
   unfold vH at h
   split at h
   ·rename_i e;subst e;cases h
    simp only[List.map_cons,bI,Int.add_mul];lia
   ·obtain⟨u,hu,rfl⟩:=Option.map_eq_some_iff.mp h
    simp only[List.map_cons,bI,ih hu];lia
theorem vE {ks:List LK}:∀{t:List (Int × LK)}{v:List Int},Aa ks t=some v→bI v (ks.map (cR c d))=gn c d t:=by
 intro t
 induction t with
 |nil=>
  intro v h
  cases h
  have:∀ks:List LK,bI (ks.map fun _=>0) (ks.map (cR c d))=0:=fun ks=>by
   induction ks with
   |nil=>rfl
   |cons k ks ih=>simp only[List.map_cons,bI,ih];lia
  exact this ks
 |cons p t ih=>
  intro v h
  obtain⟨a,k⟩:=p
  obtain⟨u,hu,h⟩:=Option.bind_eq_some_iff.mp h
  rw[vG c d h,ih hu,gn];lia
theorem sX {ks:List LK}{cs:List LL}(h:lfm ks.length (pz ks cs)=true):¬eG c d cs:=fun hs=>by
 refine Ag (ks.map (cR c d)) (pz ks cs) (by rw[List.length_map];exact h) fun r hr=>?_
 obtain⟨p,hp,hr⟩:=List.mem_filterMap.mp hr
 obtain⟨v,hv,rfl⟩:=Option.map_eq_some_iff.mp hr
 refine pE ?_
 show 0≤p.1+bI v _
 rw[vE c d hv]
 exact hs p hp
theorem vF:∀(f:Nat) (todo:List LK) (later:List (List (List LL))) (ks:List LK) (cs:List LL),mO f todo later ks cs=true→(∀bs∈later,dM c d bs)→¬eG c d cs:=by
 intro f
 induction f with
 |zero=>intro _ _ _ _ h;cases h
 |succ f ih=>
  intro todo later ks cs h hl hs
  cases todo with
  |nil=>
   unfold mO at h
   cases e:lfm ks.length (pz ks cs)with
   |true=>exact sX c d e hs
   |false=>
    rw[e]at h
    cases later with
    |nil=>cases h
    |cons bs later=>
     obtain⟨b,hb,hb'⟩:=hl _ (.head _)
     exact ih _ _ _ _ (List.all_eq_true.mp h b hb) (fun x hx=>hl x (.tail _ hx)) (jc c d hb' hs)
  |cons k todo=>
   unfold mO at h
   split at h
   ·exact ih _ _ _ _ h hl hs
   ·have key:=sS c d k
    split at h
    ·rename_i b e
     rw[e]at key
     obtain⟨b',hb,hb'⟩:=key
     rcases List.mem_cons.mp hb with rfl|hb
     ·exact ih _ _ _ _ h hl (jc c d hb' hs)
     ·cases hb
    ·exact ih _ _ _ _ h (fun x hx=>by
      rcases List.mem_cons.mp hx with rfl|hx
      ·exact key
      ·exact hl x hx) hs
theorem vL {p:LP}(h:Cc p=true):iV c d p:=Classical.byContradiction fun k=>by
 obtain⟨b,hb,hl⟩:=Ah c d p false k
 exact vF c d _ _ _ _ _ (List.all_eq_true.mp h b hb) (fun _ hx=>nomatch hx) hl
end
noncomputable def iW:Nat→Nat→List LE→List LP→LP
 |0,_,_,_=>.r 0 (.n 1) (.n 0)
 |f+1,N,es,ps=>
  let t:=N%32
  let M:=N/32
  if t<4 then
   if t=1 then iW f (M/32) (.v (M%32)::es) ps
   else if t=2 then iW f (M/32) (.n (M%32)::es) ps
   else if t=3 then iW f (M/32/32^(M%32)) (.n (M/32%32^(M%32))::es) ps
   else match ps with
    |p::_=>p
    |[]=>.r 0 (.n 1) (.n 0)
  else if t<11 then match es with
   |b::a::es=>iW f M (.o (t-4) a b::es) ps
   |_=>.r 0 (.n 1) (.n 0)
  else if t<16 then match es with
   |a::es=>iW f M (.o (t-4) a a::es) ps
   |_=>.r 0 (.n 1) (.n 0)
  else if t<24 then match es with
   |b::a::es=>iW f M es (.r (t-16) a b::ps)
   |_=>.r 0 (.n 1) (.n 0)
  else if t<27 then match ps with
   |q::p::ps=>iW f M es (.c (t-24) p q::ps)
   |_=>.r 0 (.n 1) (.n 0)
  else if t=28 then iW f M es (.c 4 (.r 0 (.n 0) (.n 0)) (.r 0 (.n 0) (.n 0))::ps)
  else match ps with
   |p::ps=>iW f M es (.c 3 p p::ps)
   |_=>.r 0 (.n 1) (.n 0)
noncomputable def fg (N:Nat):Bool:=Cc (iW 400 N [] [])
noncomputable def jJ (N:Nat)(c:List Nat)(d:List Int):Prop:=iV c d (iW 400 N [] [])
theorem lin (N:Nat)(c:List Nat)(d:List Int)(h:fg N=true):jJ N c d:=vL c d h
theorem lA (N:Nat){a:Nat}(h:fg N=true:=by kernel_rfl):jJ N [a] []:=lin N _ _ h
theorem lB (N:Nat){a b:Nat}(h:fg N=true:=by kernel_rfl):jJ N [a,b] []:=lin N _ _ h
theorem lC (N:Nat){a b c:Nat}(h:fg N=true:=by kernel_rfl):jJ N [a,b,c] []:=lin N _ _ h
theorem lD (N:Nat){a:Nat}{x:Int}(h:fg N=true:=by kernel_rfl):jJ N [a] [x]:=lin N _ _ h
theorem lE (N:Nat){x:Int}(h:fg N=true:=by kernel_rfl):jJ N [] [x]:=lin N _ _ h
theorem lF (N:Nat){a b c d:Nat}(h:fg N=true:=by kernel_rfl):jJ N [a,b,c,d] []:=lin N _ _ h
theorem lG (N:Nat){a b:Nat}{x:Int}(h:fg N=true:=by kernel_rfl):jJ N [a,b] [x]:=lin N _ _ h
theorem lH (N:Nat){a b c d e:Nat}(h:fg N=true:=by kernel_rfl):jJ N [a,b,c,d,e] []:=lin N _ _ h
theorem lI (N:Nat)(h:fg N=true:=by kernel_rfl):jJ N [] []:=lin N _ _ h
end
theorem xa1 {a l c e:Nat}(h:l≤a)(k:c≤l)(g:e=c):a-(l-c)=a-l+e:=by omega
theorem xa2 {e:Int}{c:Nat}(h:e.natAbs=c)(k:1≤c):e≠0:=fun q=>by subst q;exact absurd (h▸k) (by decide)
theorem xa3 {k l d:Nat}(h:(d:Int)<(l:Int)-k):k≤l-(1+d):=by omega
theorem xa4 {a p:Nat}(h:a≤8*p):((8*p-a:Nat):Int)+8=((8*(p+1)-a:Nat):Int):=by omega
theorem xa5 {x a n:Nat}(h:n≤x-a):((x-a:Nat):Int)-n=((x-(a+n):Nat):Int):=by omega
theorem xa6 {a b:Nat}:(if(a:Int)<(b:Int)then(a:Int)else b)=((min b a:Nat):Int):=by split<;>omega
theorem xa7 {l u:Nat}(q:0<l)(h:u≤l+1):(l:Int)-(if(u:Int)-1= -1 then 1 else(u:Int)-1)=((l-((u:Int)-1).natAbs:Nat):Int):=by split<;>omega
theorem xa8 {x p v t m:Nat}(hs:t=2*p)(hw:x+0*p=v)(c2:¬v<2*p-1-m):¬x<t-1-m:=by subst hs;rewrite[Nat.zero_mul]at hw;subst hw;exact c2
theorem xa9 {x p t m:Nat}(hs:t=2*p)(hx:x<p)(h:m<2*p)(l:p≤m):x+1*p-(t-1-m)≤m:=by omega
theorem HT {b d r:Nat}(hr:r=8*((b+7)/8)-b)(hl:d+1=(b+7)/8)(h8:r<8):b-8*d=8-r:=by omega
theorem HS {y i:Nat}(q:8≤y-8*i):((y-8*i:Nat):Int)-8=((y-8*(i+1):Nat):Int):=by omega
theorem HR {w l:Nat}{c:Int}(h:w≤(c+1).toNat+(l+1))(k:c.natAbs≤l)(g:l≤1048576):(w:Int).natAbs<2^64:=by omega
theorem Bp {p m:Nat}{z:Int}(e:(p:Int)=z)(h:m<p):1*z-1-(m:Int)=((p-1-m:Nat):Int):=by subst e;omega
theorem HQ {v s p m:Nat}(q:¬v<p)(hp:p≤m)(hs:s=2*p):(v:Int)-((s-1-m:Nat):Int)=((v-(s-1-m):Nat):Int):=by omega
theorem Bo {b r:Nat}(hr:r=8*((b+7)/8)-b): -(b:Int)%8=(r:Int):=by omega
theorem HP {c:Int}{l:Nat}(f:c.natAbs≤l):(c+1).toNat≤l+1:=by omega
theorem HO {l:Nat}{c:Int}(hz:c= -1)(f:c.natAbs≤l):(l:Int)-1=((l-c.natAbs:Nat):Int):=by omega
theorem HN {l:Nat}{c:Int}(f1: -1≤c)(hz:¬c= -1)(f:c.natAbs≤l):(l:Int)-c=((l-c.natAbs:Nat):Int):=by omega
theorem HM {v s p m:Nat}(h:v<s-1-m)(hs:s=2*p)(hp:p≤m):¬p≤v:=by omega
theorem HL {s m v:Nat}(hv:v≤m)(hp:m<s)(h:s≤2^30):s-1-m+v<2^64:=by omega
theorem Bn {a i m:Nat}(h:i≤m):a+i-a<1+m:=by omega
theorem HK {W B w V:Nat}(e:w*B+1*B≤V*B)(h:W<B):W+B*w<B*V:=by rewrite[Nat.mul_comm B w,Nat.mul_comm B V];omega
theorem HJ {x m:Nat}:1+m≤x+1+m-x:=by omega
theorem HI {t log:Nat}(h1:t%16=(log-5)%16)(h5:5≤log)(h20:log≤20):t%16+5=log:=by omega
theorem HH {c x:Nat}{ms:Int}(h:c+1≤x)(q:(x:Int)≤ms+1):¬ms<(c:Int):=by omega
theorem xr8:∀r:Nat,r<8→r=0∨r=1∨r=2∨r=3∨r=4∨r=5∨r=6∨r=7:=by decide
section
open PySem
theorem Kh {α:Sort u}{a b:α}(h:a=b):b=a:=h.symm
theorem Jh {A B:Prop}{G:Prop}(h:A∧B)(f:A→B→G):G:=f h.1 h.2
theorem Jg {A B:Prop}(hA:A)(hB:B):A∧B:=⟨hA,hB⟩
theorem Jr {A B C:Prop}{G:Prop}(h:A∧B∧C)(f:A→B→C→G):G:=f h.1 h.2.1 h.2.2
theorem Jn {A B C:Prop}(hA:A)(hB:B)(hC:C):A∧B∧C:=⟨hA,hB,hC⟩
theorem JB {A B C D:Prop}{G:Prop}(h:A∧B∧C∧D)(f:A→B→C→D→G):G:=f h.1 h.2.1 h.2.2.1 h.2.2.2
theorem JA {A B C D:Prop}(hA:A)(hB:B)(hC:C)(hD:D):A∧B∧C∧D:=⟨hA,hB,hC,hD⟩
theorem JF {A B C D E:Prop}{G:Prop}(h:A∧B∧C∧D∧E)(f:A→B→C→D→E→G):G:=f h.1 h.2.1 h.2.2.1 h.2.2.2.1 h.2.2.2.2
theorem Ke {A B C D E:Prop}(hA:A)(hB:B)(hC:C)(hD:D)(hE:E):A∧B∧C∧D∧E:=⟨hA,hB,hC,hD,hE⟩
theorem Kd {A B C D E F H I J:Prop}(hA:A)(hB:B)(hC:C)(hD:D)(hE:E)(hF:F)(hH:H)(hI:I)(hJ:J):A∧B∧C∧D∧E∧F∧H∧I∧J:=⟨hA,hB,hC,hD,hE,hF,hH,hI,hJ⟩
theorem Jf.{u0}{a0:Sort u0}{A:a0→Prop}{G:Prop}(h:∃x0,A x0)(f:∀x0,A x0→G):G:=h.elim fun x0 h=>f x0 h
theorem Jo.{u0}{a0:Sort u0}{A:a0→Prop}(x0:a0)(hA:A x0):∃x0,A x0:=⟨x0,hA⟩
theorem tr.{u0}{a0:Sort u0}{A B:a0→Prop}{G:Prop}(h:∃x0,A x0∧B x0)(f:∀x0,A x0→B x0→G):G:=h.elim fun x0 h=>f x0 h.1 h.2
theorem Jl.{u0}{a0:Sort u0}{A B:a0→Prop}(x0:a0)(hA:A x0)(hB:B x0):∃x0,A x0∧B x0:=⟨x0,hA,hB⟩
theorem Jt.{u0}{a0:Sort u0}{A B C:a0→Prop}{G:Prop}(h:∃x0,A x0∧B x0∧C x0)(f:∀x0,A x0→B x0→C x0→G):G:=h.elim fun x0 h=>f x0 h.1 h.2.1 h.2.2
theorem JD.{u0}{a0:Sort u0}{A B C:a0→Prop}(x0:a0)(hA:A x0)(hB:B x0)(hC:C x0):∃x0,A x0∧B x0∧C x0:=⟨x0,hA,hB,hC⟩
theorem J2.{u0}{a0:Sort u0}{A B C D:a0→Prop}{G:Prop}(h:∃x0,A x0∧B x0∧C x0∧D x0)(f:∀x0,A x0→B x0→C x0→D x0→G):G:=h.elim fun x0 h=>f x0 h.1 h.2.1 h.2.2.1 h.2.2.2
theorem J1.{u0}{a0:Sort u0}{A B C D:a0→Prop}(x0:a0)(hA:A x0)(hB:B x0)(hC:C x0)(hD:D x0):∃x0,A x0∧B x0∧C x0∧D x0:=⟨x0,hA,hB,hC,hD⟩
theorem JH.{u0}{a0:Sort u0}{A B C D E:a0→Prop}{G:Prop}(h:∃x0,A x0∧B x0∧C x0∧D x0∧E x0)(f:∀x0,A x0→B x0→C x0→D x0→E x0→G):G:=h.elim fun x0 h=>f x0 h.1 h.2.1 h.2.2.1 h.2.2.2.1 h.2.2.2.2
theorem JP.{u0}{a0:Sort u0}{A B C D E:a0→Prop}(x0:a0)(hA:A x0)(hB:B x0)(hC:C x0)(hD:D x0)(hE:E x0):∃x0,A x0∧B x0∧C x0∧D x0∧E x0:=⟨x0,hA,hB,hC,hD,hE⟩
theorem JZ.{u0}{a0:Sort u0}{A B C D E F H:a0→Prop}{G:Prop}(h:∃x0,A x0∧B x0∧C x0∧D x0∧E x0∧F x0∧H x0)(f:∀x0,A x0→B x0→C x0→D x0→E x0→F x0→H x0→G):G:=h.elim fun x0 h=>f x0 h.1 h.2.1 h.2.2.1 h.2.2.2.1 h.2.2.2.2.1 h.2.2.2.2.2.1 h.2.2.2.2.2.2
theorem J0.{u0}{a0:Sort u0}{A B C D E F H:a0→Prop}(x0:a0)(hA:A x0)(hB:B x0)(hC:C x0)(hD:D x0)(hE:E x0)(hF:F x0)(hH:H x0):∃x0,A x0∧B x0∧C x0∧D x0∧E x0∧F x0∧H x0:=⟨x0,hA,hB,hC,hD,hE,hF,hH⟩
theorem Jm.{u0,u1}{a0:Sort u0}{a1:Sort u1}{A:a0→a1→Prop}{G:Prop}(h:∃x0 x1,A x0 x1)(f:∀x0 x1,A x0 x1→G):G:=h.elim fun x0 h=>h.elim fun x1 h=>f x0 x1 h
theorem JL.{u0,u1}{a0:Sort u0}{a1:Sort u1}{A:a0→a1→Prop}(x0:a0)(x1:a1)(hA:A x0 x1):∃x0 x1,A x0 x1:=⟨x0,x1,hA⟩
theorem Jw.{u0,u1}{a0:Sort u0}{a1:Sort u1}{A B:a0→a1→Prop}{G:Prop}(h:∃x0 x1,A x0 x1∧B x0 x1)(f:∀x0 x1,A x0 x1→B x0 x1→G):G:=h.elim fun x0 h=>h.elim fun x1 h=>f x0 x1 h.1 h.2
theorem JX.{u0,u1}{a0:Sort u0}{a1:Sort u1}{A B:a0→a1→Prop}(x0:a0)(x1:a1)(hA:A x0 x1)(hB:B x0 x1):∃x0 x1,A x0 x1∧B x0 x1:=⟨x0,x1,hA,hB⟩
theorem Jj.{u0,u1}{a0:Sort u0}{a1:Sort u1}{A B C:a0→a1→Prop}{G:Prop}(h:∃x0 x1,A x0 x1∧B x0 x1∧C x0 x1)(f:∀x0 x1,A x0 x1→B x0 x1→C x0 x1→G):G:=h.elim fun x0 h=>h.elim fun x1 h=>f x0 x1 h.1 h.2.1 h.2.2
theorem Jp.{u0,u1}{a0:Sort u0}{a1:Sort u1}{A B C:a0→a1→Prop}(x0:a0)(x1:a1)(hA:A x0 x1)(hB:B x0 x1)(hC:C x0 x1):∃x0 x1,A x0 x1∧B x0 x1∧C x0 x1:=⟨x0,x1,hA,hB,hC⟩
theorem Jx.{u0,u1}{a0:Sort u0}{a1:Sort u1}{A B C D:a0→a1→Prop}{G:Prop}(h:∃x0 x1,A x0 x1∧B x0 x1∧C x0 x1∧D x0 x1)(f:∀x0 x1,A x0 x1→B x0 x1→C x0 x1→D x0 x1→G):G:=h.elim fun x0 h=>h.elim fun x1 h=>f x0 x1 h.1 h.2.1 h.2.2.1 h.2.2.2
theorem JV.{u0,u1}{a0:Sort u0}{a1:Sort u1}{A B C D:a0→a1→Prop}(x0:a0)(x1:a1)(hA:A x0 x1)(hB:B x0 x1)(hC:C x0 x1)(hD:D x0 x1):∃x0 x1,A x0 x1∧B x0 x1∧C x0 x1∧D x0 x1:=⟨x0,x1,hA,hB,hC,hD⟩
theorem JM.{u0,u1}{a0:Sort u0}{a1:Sort u1}{A B C D E:a0→a1→Prop}{G:Prop}(h:∃x0 x1,A x0 x1∧B x0 x1∧C x0 x1∧D x0 x1∧E x0 x1)(f:∀x0 x1,A x0 x1→B x0 x1→C x0 x1→D x0 x1→E x0 x1→G):G:=h.elim fun x0 h=>h.elim fun x1 h=>f x0 x1 h.1 h.2.1 h.2.2.1 h.2.2.2.1 h.2.2.2.2
theorem J5.{u0,u1}{a0:Sort u0}{a1:Sort u1}{A B C D E:a0→a1→Prop}(x0:a0)(x1:a1)(hA:A x0 x1)(hB:B x0 x1)(hC:C x0 x1)(hD:D x0 x1)(hE:E x0 x1):∃x0 x1,A x0 x1∧B x0 x1∧C x0 x1∧D x0 x1∧E x0 x1:=⟨x0,x1,hA,hB,hC,hD,hE⟩
theorem JE.{u0,u1}{a0:Sort u0}{a1:Sort u1}{A B C D E F:a0→a1→Prop}{G:Prop}(h:∃x0 x1,A x0 x1∧B x0 x1∧C x0 x1∧D x0 x1∧E x0 x1∧F x0 x1)(f:∀x0 x1,A x0 x1→B x0 x1→C x0 x1→D x0 x1→E x0 x1→F x0 x1→G):G:=h.elim fun x0 h=>h.elim fun x1 h=>f x0 x1 h.1 h.2.1 h.2.2.1 h.2.2.2.1 h.2.2.2.2.1 h.2.2.2.2.2
theorem J6.{u0,u1}{a0:Sort u0}{a1:Sort u1}{A B C D E F:a0→a1→Prop}(x0:a0)(x1:a1)(hA:A x0 x1)(hB:B x0 x1)(hC:C x0 x1)(hD:D x0 x1)(hE:E x0 x1)(hF:F x0 x1):∃x0 x1,A x0 x1∧B x0 x1∧C x0 x1∧D x0 x1∧E x0 x1∧F x0 x1:=⟨x0,x1,hA,hB,hC,hD,hE,hF⟩
theorem Jy.{u0,u1}{a0:Sort u0}{a1:Sort u1}{A B C D E F H:a0→a1→Prop}{G:Prop}(h:∃x0 x1,A x0 x1∧B x0 x1∧C x0 x1∧D x0 x1∧E x0 x1∧F x0 x1∧H x0 x1)(f:∀x0 x1,A x0 x1→B x0 x1→C x0 x1→D x0 x1→E x0 x1→F x0 x1→H x0 x1→G):G:=h.elim fun x0 h=>h.elim fun x1 h=>f x0 x1 h.1 h.2.1 h.2.2.1 h.2.2.2.1 h.2.2.2.2.1 h.2.2.2.2.2.1 h.2.2.2.2.2.2
theorem JN.{u0,u1}{a0:Sort u0}{a1:Sort u1}{A B C D E F H:a0→a1→Prop}(x0:a0)(x1:a1)(hA:A x0 x1)(hB:B x0 x1)(hC:C x0 x1)(hD:D x0 x1)(hE:E x0 x1)(hF:F x0 x1)(hH:H x0 x1):∃x0 x1,A x0 x1∧B x0 x1∧C x0 x1∧D x0 x1∧E x0 x1∧F x0 x1∧H x0 x1:=⟨x0,x1,hA,hB,hC,hD,hE,hF,hH⟩
theorem J9.{u0,u1,u2}{a0:Sort u0}{a1:Sort u1}{a2:Sort u2}{A:a0→a1→a2→Prop}{G:Prop}(h:∃x0 x1 x2,A x0 x1 x2)(f:∀x0 x1 x2,A x0 x1 x2→G):G:=h.elim fun x0 h=>h.elim fun x1 h=>h.elim fun x2 h=>f x0 x1 x2 h
theorem JK.{u0,u1,u2}{a0:Sort u0}{a1:Sort u1}{a2:Sort u2}{A B:a0→a1→a2→Prop}{G:Prop}(h:∃x0 x1 x2,A x0 x1 x2∧B x0 x1 x2)(f:∀x0 x1 x2,A x0 x1 x2→B x0 x1 x2→G):G:=h.elim fun x0 h=>h.elim fun x1 h=>h.elim fun x2 h=>f x0 x1 x2 h.1 h.2
theorem JY.{u0,u1,u2}{a0:Sort u0}{a1:Sort u1}{a2:Sort u2}{A B:a0→a1→a2→Prop}(x0:a0)(x1:a1)(x2:a2)(hA:A x0 x1 x2)(hB:B x0 x1 x2):∃x0 x1 x2,A x0 x1 x2∧B x0 x1 x2:=⟨x0,x1,x2,hA,hB⟩
theorem JJ.{u0,u1,u2}{a0:Sort u0}{a1:Sort u1}{a2:Sort u2}{A B C:a0→a1→a2→Prop}{G:Prop}(h:∃x0 x1 x2,A x0 x1 x2∧B x0 x1 x2∧C x0 x1 x2)(f:∀x0 x1 x2,A x0 x1 x2→B x0 x1 x2→C x0 x1 x2→G):G:=h.elim fun x0 h=>h.elim fun x1 h=>h.elim fun x2 h=>f x0 x1 x2 h.1 h.2.1 h.2.2
theorem JU.{u0,u1,u2}{a0:Sort u0}{a1:Sort u1}{a2:Sort u2}{A B C:a0→a1→a2→Prop}(x0:a0)(x1:a1)(x2:a2)(hA:A x0 x1 x2)(hB:B x0 x1 x2)(hC:C x0 x1 x2):∃x0 x1 x2,A x0 x1 x2∧B x0 x1 x2∧C x0 x1 x2:=⟨x0,x1,x2,hA,hB,hC⟩
theorem JQ.{u0,u1,u2}{a0:Sort u0}{a1:Sort u1}{a2:Sort u2}{A B C D:a0→a1→a2→Prop}{G:Prop}(h:∃x0 x1 x2,A x0 x1 x2∧B x0 x1 x2∧C x0 x1 x2∧D x0 x1 x2)(f:∀x0 x1 x2,A x0 x1 x2→B x0 x1 x2→C x0 x1 x2→D x0 x1 x2→G):G:=h.elim fun x0 h=>h.elim fun x1 h=>h.elim fun x2 h=>f x0 x1 x2 h.1 h.2.1 h.2.2.1 h.2.2.2
theorem J7.{u0,u1,u2}{a0:Sort u0}{a1:Sort u1}{a2:Sort u2}{A B C D E:a0→a1→a2→Prop}{G:Prop}(h:∃x0 x1 x2,A x0 x1 x2∧B x0 x1 x2∧C x0 x1 x2∧D x0 x1 x2∧E x0 x1 x2)(f:∀x0 x1 x2,A x0 x1 x2→B x0 x1 x2→C x0 x1 x2→D x0 x1 x2→E x0 x1 x2→G):G:=h.elim fun x0 h=>h.elim fun x1 h=>h.elim fun x2 h=>f x0 x1 x2 h.1 h.2.1 h.2.2.1 h.2.2.2.1 h.2.2.2.2
theorem JS.{u0,u1,u2}{a0:Sort u0}{a1:Sort u1}{a2:Sort u2}{A B C D E:a0→a1→a2→Prop}(x0:a0)(x1:a1)(x2:a2)(hA:A x0 x1 x2)(hB:B x0 x1 x2)(hC:C x0 x1 x2)(hD:D x0 x1 x2)(hE:E x0 x1 x2):∃x0 x1 x2,A x0 x1 x2∧B x0 x1 x2∧C x0 x1 x2∧D x0 x1 x2∧E x0 x1 x2:=⟨x0,x1,x2,hA,hB,hC,hD,hE⟩
theorem J4.{u0,u1,u2}{a0:Sort u0}{a1:Sort u1}{a2:Sort u2}{A B C D E F H:a0→a1→a2→Prop}(x0:a0)(x1:a1)(x2:a2)(hA:A x0 x1 x2)(hB:B x0 x1 x2)(hC:C x0 x1 x2)(hD:D x0 x1 x2)(hE:E x0 x1 x2)(hF:F x0 x1 x2)(hH:H x0 x1 x2):∃x0 x1 x2,A x0 x1 x2∧B x0 x1 x2∧C x0 x1 x2∧D x0 x1 x2∧E x0 x1 x2∧F x0 x1 x2∧H x0 x1 x2:=⟨x0,x1,x2,hA,hB,hC,hD,hE,hF,hH⟩
theorem Kf.{u0,u1,u2}{a0:Sort u0}{a1:Sort u1}{a2:Sort u2}{A B C D E F H I:a0→a1→a2→Prop}{G:Prop}(h:∃x0 x1 x2,A x0 x1 x2∧B x0 x1 x2∧C x0 x1 x2∧D x0 x1 x2∧E x0 x1 x2∧F x0 x1 x2∧H x0 x1 x2∧I x0 x1 x2)(f:∀x0 x1 x2,A x0 x1 x2→B x0 x1 x2→C x0 x1 x2→D x0 x1 x2→E x0 x1 x2→F x0 x1 x2→H x0 x1 x2→I x0 x1 x2→G):G:=h.elim fun x0 h=>h.elim fun x1 h=>h.elim fun x2 h=>f x0 x1 x2 h.1 h.2.1 h.2.2.1 h.2.2.2.1 h.2.2.2.2.1 h.2.2.2.2.2.1 h.2.2.2.2.2.2.1 h.2.2.2.2.2.2.2
theorem Kg.{u0,u1,u2}{a0:Sort u0}{a1:Sort u1}{a2:Sort u2}{A B C D E F H I:a0→a1→a2→Prop}(x0:a0)(x1:a1)(x2:a2)(hA:A x0 x1 x2)(hB:B x0 x1 x2)(hC:C x0 x1 x2)(hD:D x0 x1 x2)(hE:E x0 x1 x2)(hF:F x0 x1 x2)(hH:H x0 x1 x2)(hI:I x0 x1 x2):∃x0 x1 x2,A x0 x1 x2∧B x0 x1 x2∧C x0 x1 x2∧D x0 x1 x2∧E x0 x1 x2∧F x0 x1 x2∧H x0 x1 x2∧I x0 x1 x2:=⟨x0,x1,x2,hA,hB,hC,hD,hE,hF,hH,hI⟩
theorem JO.{u0,u1,u2,u3}{a0:Sort u0}{a1:Sort u1}{a2:Sort u2}{a3:Sort u3}{A B:a0→a1→a2→a3→Prop}{G:Prop}(h:∃x0 x1 x2 x3,A x0 x1 x2 x3∧B x0 x1 x2 x3)(f:∀x0 x1 x2 x3,A x0 x1 x2 x3→B x0 x1 x2 x3→G):G:=h.elim fun x0 h=>h.elim fun x1 h=>h.elim fun x2 h=>h.elim fun x3 h=>f x0 x1 x2 x3 h.1 h.2
theorem Jz.{u0,u1,u2,u3}{a0:Sort u0}{a1:Sort u1}{a2:Sort u2}{a3:Sort u3}{A B C:a0→a1→a2→a3→Prop}{G:Prop}(h:∃x0 x1 x2 x3,A x0 x1 x2 x3∧B x0 x1 x2 x3∧C x0 x1 x2 x3)(f:∀x0 x1 x2 x3,A x0 x1 x2 x3→B x0 x1 x2 x3→C x0 x1 x2 x3→G):G:=h.elim fun x0 h=>h.elim fun x1 h=>h.elim fun x2 h=>h.elim fun x3 h=>f x0 x1 x2 x3 h.1 h.2.1 h.2.2
theorem JI.{u0,u1,u2,u3}{a0:Sort u0}{a1:Sort u1}{a2:Sort u2}{a3:Sort u3}{A B C:a0→a1→a2→a3→Prop}(x0:a0)(x1:a1)(x2:a2)(x3:a3)(hA:A x0 x1 x2 x3)(hB:B x0 x1 x2 x3)(hC:C x0 x1 x2 x3):∃x0 x1 x2 x3,A x0 x1 x2 x3∧B x0 x1 x2 x3∧C x0 x1 x2 x3:=⟨x0,x1,x2,x3,hA,hB,hC⟩
theorem Ju.{u0,u1,u2,u3}{a0:Sort u0}{a1:Sort u1}{a2:Sort u2}{a3:Sort u3}{A B C D:a0→a1→a2→a3→Prop}{G:Prop}(h:∃x0 x1 x2 x3,A x0 x1 x2 x3∧B x0 x1 x2 x3∧C x0 x1 x2 x3∧D x0 x1 x2 x3)(f:∀x0 x1 x2 x3,A x0 x1 x2 x3→B x0 x1 x2 x3→C x0 x1 x2 x3→D x0 x1 x2 x3→G):G:=h.elim fun x0 h=>h.elim fun x1 h=>h.elim fun x2 h=>h.elim fun x3 h=>f x0 x1 x2 x3 h.1 h.2.1 h.2.2.1 h.2.2.2
theorem JR.{u0,u1,u2,u3}{a0:Sort u0}{a1:Sort u1}{a2:Sort u2}{a3:Sort u3}{A B C D:a0→a1→a2→a3→Prop}(x0:a0)(x1:a1)(x2:a2)(x3:a3)(hA:A x0 x1 x2 x3)(hB:B x0 x1 x2 x3)(hC:C x0 x1 x2 x3)(hD:D x0 x1 x2 x3):∃x0 x1 x2 x3,A x0 x1 x2 x3∧B x0 x1 x2 x3∧C x0 x1 x2 x3∧D x0 x1 x2 x3:=⟨x0,x1,x2,x3,hA,hB,hC,hD⟩
theorem Kb.{u0,u1,u2,u3}{a0:Sort u0}{a1:Sort u1}{a2:Sort u2}{a3:Sort u3}{A B C D E:a0→a1→a2→a3→Prop}{G:Prop}(h:∃x0 x1 x2 x3,A x0 x1 x2 x3∧B x0 x1 x2 x3∧C x0 x1 x2 x3∧D x0 x1 x2 x3∧E x0 x1 x2 x3)(f:∀x0 x1 x2 x3,A x0 x1 x2 x3→B x0 x1 x2 x3→C x0 x1 x2 x3→D x0 x1 x2 x3→E x0 x1 x2 x3→G):G:=h.elim fun x0 h=>h.elim fun x1 h=>h.elim fun x2 h=>h.elim fun x3 h=>f x0 x1 x2 x3 h.1 h.2.1 h.2.2.1 h.2.2.2.1 h.2.2.2.2
theorem Ka.{u0,u1,u2,u3}{a0:Sort u0}{a1:Sort u1}{a2:Sort u2}{a3:Sort u3}{A B C D E:a0→a1→a2→a3→Prop}(x0:a0)(x1:a1)(x2:a2)(x3:a3)(hA:A x0 x1 x2 x3)(hB:B x0 x1 x2 x3)(hC:C x0 x1 x2 x3)(hD:D x0 x1 x2 x3)(hE:E x0 x1 x2 x3):∃x0 x1 x2 x3,A x0 x1 x2 x3∧B x0 x1 x2 x3∧C x0 x1 x2 x3∧D x0 x1 x2 x3∧E x0 x1 x2 x3:=⟨x0,x1,x2,x3,hA,hB,hC,hD,hE⟩
theorem Jv.{u0,u1,u2,u3}{a0:Sort u0}{a1:Sort u1}{a2:Sort u2}{a3:Sort u3}{A B C D E F:a0→a1→a2→a3→Prop}{G:Prop}(h:∃x0 x1 x2 x3,A x0 x1 x2 x3∧B x0 x1 x2 x3∧C x0 x1 x2 x3∧D x0 x1 x2 x3∧E x0 x1 x2 x3∧F x0 x1 x2 x3)(f:∀x0 x1 x2 x3,A x0 x1 x2 x3→B x0 x1 x2 x3→C x0 x1 x2 x3→D x0 x1 x2 x3→E x0 x1 x2 x3→F x0 x1 x2 x3→G):G:=h.elim fun x0 h=>h.elim fun x1 h=>h.elim fun x2 h=>h.elim fun x3 h=>f x0 x1 x2 x3 h.1 h.2.1 h.2.2.1 h.2.2.2.1 h.2.2.2.2.1 h.2.2.2.2.2
theorem JC.{u0,u1,u2,u3}{a0:Sort u0}{a1:Sort u1}{a2:Sort u2}{a3:Sort u3}{A B C D E F:a0→a1→a2→a3→Prop}(x0:a0)(x1:a1)(x2:a2)(x3:a3)(hA:A x0 x1 x2 x3)(hB:B x0 x1 x2 x3)(hC:C x0 x1 x2 x3)(hD:D x0 x1 x2 x3)(hE:E x0 x1 x2 x3)(hF:F x0 x1 x2 x3):∃x0 x1 x2 x3,A x0 x1 x2 x3∧B x0 x1 x2 x3∧C x0 x1 x2 x3∧D x0 x1 x2 x3∧E x0 x1 x2 x3∧F x0 x1 x2 x3:=⟨x0,x1,x2,x3,hA,hB,hC,hD,hE,hF⟩
theorem JW.{u0,u1,u2,u3,u4}{a0:Sort u0}{a1:Sort u1}{a2:Sort u2}{a3:Sort u3}{a4:Sort u4}{A B C D E F H:a0→a1→a2→a3→a4→Prop}{G:Prop}(h:∃x0 x1 x2 x3 x4,A x0 x1 x2 x3 x4∧B x0 x1 x2 x3 x4∧C x0 x1 x2 x3 x4∧D x0 x1 x2 x3 x4∧E x0 x1 x2 x3 x4∧F x0 x1 x2 x3 x4∧H x0 x1 x2 x3 x4)(f:∀x0 x1 x2 x3 x4,A x0 x1 x2 x3 x4→B x0 x1 x2 x3 x4→C x0 x1 x2 x3 x4→D x0 x1 x2 x3 x4→E x0 x1 x2 x3 x4→F x0 x1 x2 x3 x4→H x0 x1 x2 x3 x4→G):G:=h.elim fun x0 h=>h.elim fun x1 h=>h.elim fun x2 h=>h.elim fun x3 h=>h.elim fun x4 h=>f x0 x1 x2 x3 x4 h.1 h.2.1 h.2.2.1 h.2.2.2.1 h.2.2.2.2.1 h.2.2.2.2.2.1 h.2.2.2.2.2.2
theorem J8.{u0,u1,u2,u3,u4}{a0:Sort u0}{a1:Sort u1}{a2:Sort u2}{a3:Sort u3}{a4:Sort u4}{A B C D E F H:a0→a1→a2→a3→a4→Prop}(x0:a0)(x1:a1)(x2:a2)(x3:a3)(x4:a4)(hA:A x0 x1 x2 x3 x4)(hB:B x0 x1 x2 x3 x4)(hC:C x0 x1 x2 x3 x4)(hD:D x0 x1 x2 x3 x4)(hE:E x0 x1 x2 x3 x4)(hF:F x0 x1 x2 x3 x4)(hH:H x0 x1 x2 x3 x4):∃x0 x1 x2 x3 x4,A x0 x1 x2 x3 x4∧B x0 x1 x2 x3 x4∧C x0 x1 x2 x3 x4∧D x0 x1 x2 x3 x4∧E x0 x1 x2 x3 x4∧F x0 x1 x2 x3 x4∧H x0 x1 x2 x3 x4:=⟨x0,x1,x2,x3,x4,hA,hB,hC,hD,hE,hF,hH⟩
theorem cv {c:Prop}[Decidable c]{P:Prop}{T:Type u}{a b:T}(h:(if c then some a else none)=some b)(f:c→a=b→P):P:=if k:c then f k (Option.some.inj ((if_pos k).symm.trans h))else Option.noConfusion rfl (heq_of_eq ((if_neg k).symm.trans h))
theorem gR {c:Prop}[Decidable c]{P:Prop}{T:Type u}{a:Option T}{b:T}(h:(if c then a else none)=some b)(f:c→a=some b→P):P:=if k:c then f k ((if_pos k).symm.trans h)else Option.noConfusion rfl (heq_of_eq ((if_neg k).symm.trans h))
theorem fh {c:Prop}[Decidable c]{P:Prop}{T:Sort u}{a b r:T}(h:(if c then a else b)=r)(f:c→a=r→P)(g:b=r→P):P:=if k:c then f k ((if_pos k).symm.trans h)else g ((if_neg k).symm.trans h)
theorem Ji {P:Prop}{T:Type u}{a:T}(h:(none:Option T)=some a):P:=Option.noConfusion rfl (heq_of_eq h)
theorem JT {P:Prop}{T:Type u}{a:T}(h:some a=none):P:=Ji h.symm
theorem Js {P:Prop}{T:Type u}{o:Option T}(n:o=none→P)(s:∀y,o=some y→P):P:=match o,n,s with
 |none,n,_=>n rfl
 |some y,_,s=>s y rfl
theorem J3 {P:Prop}{o:Bool}(n:o=false→P)(s:o=true→P):P:=match o,n,s with
 |false,n,_=>n rfl
 |true,_,s=>s rfl
theorem JG {P:Prop}(h:true=false):P:=Bool.noConfusion h
theorem Jq {P:Prop}(h:false=true):P:=Bool.noConfusion h
theorem Jk {P:Prop}{T:Type u}{a b:T}(h:some a=some b)(f:a=b→P):P:=f (Option.some.inj h)
theorem Je {P:Prop}{T:Type u}{U:Type v}{a b:T}{c d:U}(h:some (a,c)=some (b,d))(f:a=b→c=d→P):P:=f (Prod.mk.inj (Option.some.inj h)).1 (Prod.mk.inj (Option.some.inj h)).2
end
open PySem PySem.W PySem.Calls PyProof.Rows
section
open PySem
set_option genInjectivity false in
set_option genSizeOf false in
structure EW (e:PySem.Expr) where
 name:Option {x:Str × Pos//e= .Name x.1 x.2}:=none
 list:Option {x:List PySem.Expr × Pos//e= .List x.1 x.2}:=none
 attr:Option {x:PySem.Expr × Str × Pos//e= .Attribute x.1 x.2.1 x.2.2}:=none
 sub:Option {x:PySem.Expr × PySem.Expr × Pos//e= .Subscript x.1 x.2.1 x.2.2}:=none
 tup:Option {x:List PySem.Expr × Nat × Pos//e= .Tuple x.1 x.2.1 x.2.2}:=none
 const:Option {x:Const × Nat × Pos//e= .Constant x.1 x.2.1 x.2.2}:=none
 un:Option {x:UnaryOp × PySem.Expr × Pos//e= .UnaryOp x.1 x.2.1 x.2.2}:=none
 bool:Option {x:BoolOp × List PySem.Expr × Pos//e= .BoolOp x.1 x.2.1 x.2.2}:=none
 slice:Option {x:Option PySem.Expr × Option PySem.Expr × Option PySem.Expr × Pos//e= .Slice x.1 x.2.1 x.2.2.1 x.2.2.2}:=none
 call:Option {x:PySem.Expr × List PySem.Expr × List Keyword × Pos//e= .Call x.1 x.2.1 x.2.2.1 x.2.2.2}:=none
 cmp:Option {x:PySem.Expr × List CmpOp × List PySem.Expr × Pos//e= .Compare x.1 x.2.1 x.2.2.1 x.2.2.2}:=none
 kind:Nat:=0
noncomputable def view:(e:PySem.Expr)→EW e
 | .Name n p=>{name:=some ⟨(n,p),rfl⟩}
 | .List es p=>{list:=some ⟨(es,p),rfl⟩}
 | .Attribute o n p=>{attr:=some ⟨(o,n,p),rfl⟩}
 | .Subscript o i p=>{sub:=some ⟨(o,i,p),rfl⟩}
 | .Tuple es k p=>{tup:=some ⟨(es,k,p),rfl⟩}
 | .Constant c k p=>{const:=some ⟨(c,k,p),rfl⟩}
 | .UnaryOp o e p=>{un:=some ⟨(o,e,p),rfl⟩}
 | .BoolOp o es p=>{bool:=some ⟨(o,es,p),rfl⟩}
 | .Slice l h s p=>{slice:=some ⟨(l,h,s,p),rfl⟩}
 | .Call f a k p=>{call:=some ⟨(f,a,k,p),rfl⟩}
 | .Compare l o r p=>{cmp:=some ⟨(l,o,r,p),rfl⟩}
 | .Starred .. =>{kind:=1}
 | .Set .. =>{kind:=2}
 | .ListComp .. =>{kind:=3}
 | .SetComp .. =>{kind:=3}
 | .DictComp .. =>{kind:=3}
 |_=>{}
noncomputable def el2 {α β γ:Type}{P:α × β→Prop}(o:Option {x//P x})(n:γ)(s:α→β→γ):γ:=Option.casesOn o n fun x=>Subtype.casesOn x fun v _=>Prod.casesOn v s
noncomputable def el3 {α β δ γ:Type}{P:α × β × δ→Prop}(o:Option {x//P x})(n:γ)(s:α→β→δ→γ):γ:=Option.casesOn o n fun x=>Subtype.casesOn x fun v _=>Prod.casesOn v fun a v=>Prod.casesOn v (s a)
noncomputable def el4 {α β δ ε γ:Type}{P:α × β × δ × ε→Prop}(o:Option {x//P x})(n:γ)(s:α→β→δ→ε→γ):γ:=Option.casesOn o n fun x=>Subtype.casesOn x fun v _=>Prod.casesOn v fun a v=>Prod.casesOn v fun b v=>Prod.casesOn v (s a b)
section
variable {α β δ ε γ:Type}{P2:α × β→Prop}{P3:α × β × δ→Prop}{P4:α × β × δ × ε→Prop}{n y:γ}{G:Prop}
theorem tN {o:Option {x//P2 x}}{s:α→β→γ}(h:el2 o n s=y)(hn:o=none→n=y→G)(hs:∀a b,P2 (a,b)→s a b=y→G):G:=by
 cases o with
 |none=>exact hn rfl h
 |some x=>exact hs x.1.1 x.1.2 x.2 h
theorem A7 {o:Option {x//P3 x}}{s:α→β→δ→γ}(h:el3 o n s=y)(hn:o=none→n=y→G)(hs:∀a b c,P3 (a,b,c)→s a b c=y→G):G:=by
 cases o with
 |none=>exact hn rfl h
 |some x=>exact hs x.1.1 x.1.2.1 x.1.2.2 x.2 h
theorem ng {o:Option {x//P2 x}}{n:Prop}{s:α→β→Prop}(h:el2 o n s)(hn:o=none→n→G)(hs:∀a b,P2 (a,b)→s a b→G):G:=by
 cases o with
 |none=>exact hn rfl h
 |some x=>exact hs x.1.1 x.1.2 x.2 h
theorem lT {o:Option {x//P3 x}}{n:Prop}{s:α→β→δ→Prop}(h:el3 o n s)(hn:o=none→n→G)(hs:∀a b c,P3 (a,b,c)→s a b c→G):G:=by
 cases o with
 |none=>exact hn rfl h
 |some x=>exact hs x.1.1 x.1.2.1 x.1.2.2 x.2 h
theorem A6 {o:Option {x//P4 x}}{n:Prop}{s:α→β→δ→ε→Prop}(h:el4 o n s)(hn:o=none→n→G)(hs:∀a b c d,P4 (a,b,c,d)→s a b c d→G):G:=by
 cases o with
 |none=>exact hn rfl h
 |some x=>exact hs x.1.1 x.1.2.1 x.1.2.2.1 x.1.2.2.2 x.2 h
end
set_option genInjectivity false in
set_option genSizeOf false in
structure SW where
 fn:Arguments × List Stmt × Scope:=(⟨[],[],none,[],[],none,[]⟩,[],{kind:= .function,names:=[],isGenerator:=false,isCoroutine:=false,more:=[]})
 test:PySem.Expr:= .Constant .none 0 default
 body:List Stmt:=[]
 els:List Stmt:=[]
 target:PySem.Expr:= .Constant .none 0 default
 pos:Pos:=default
noncomputable def bf:Stmt→SW
 | .FunctionDef _ args body _ _ _ scope _ _ _=>{fn:=(args,body,scope)}
 | .ClassDef _ _ _ body .. =>{body:=body}
 | .While t b _ p=>{test:=t,body:=b,pos:=p}
 | .If t b e p=>{test:=t,body:=b,els:=e,pos:=p}
 | .For t i b _ p=>{target:=t,test:=i,body:=b,pos:=p}
 | .Return (some e) _=>{test:=e}
 | .Expr e _=>{test:=e}
 |_=>{}
noncomputable abbrev pw:Program:=PySem.Challenge.pw_tg0037_01
noncomputable def ah (i:Nat):Arguments × List Stmt × Scope:=(bf (pw.main.body.getD i (.Pass default))).fn
noncomputable def al (i j:Nat):Arguments × List Stmt × Scope:=(bf ((bf (pw.main.body.getD i (.Pass default))).body.getD j (.Pass default))).fn
end
section
set_option maxHeartbeats 0
noncomputable abbrev VN:Value:= .none
noncomputable abbrev VB (b:Bool):Value:= .bool b
noncomputable abbrev VI (i:Int)(t:Nat):Value:= .int i t
noncomputable abbrev VS (s:String)(t:Nat):Value:= .str (Str.ofString s) t
noncomputable abbrev VT (n:String):Value:= .type n
noncomputable abbrev VX (n:String):Value:= .builtin n
noncomputable abbrev VR (a:Nat):Value:= .ref a
noncomputable abbrev DE (P:Params)(s:String)(t:Nat)(v:Value):DictEntry:=⟨PyData.keyHash P (Str.ofString s),.str (Str.ofString s) t,v⟩
noncomputable abbrev FD (name qual:String)(params:Arguments)(body:FuncBody)(scope:Scope)(globals:Addr)(closure:List (Str × Addr))(dV kV doc pm:Value)(an:Option Addr)(cd ct:Value)(bi:Addr):FuncData:=
 {name:=Str.ofString name,qualname:=Str.ofString qual,params,body,scope,globals,closure,defaults:=dV,kwdefaults:=kV,doc,pyModule:=pm,annotations:=an,code:=cd,closureTuple:=ct,builtins:=bi}
noncomputable abbrev CD (name:String)(bases mro:List Value)(ns:Addr)(qual:String)(hasDict:Bool)(slotNames:List Str)(subs:List Value)(abs:Bool)(coll:Option Bool)(del:Bool):ClassData:=
 {name:=Str.ofString name,bases,mro,ns,qualname:=Str.ofString qual,hasDict,slotNames,subclasses:=subs,abstract:=abs,collection:=coll,hasDel:=del}
noncomputable abbrev VJ (i:Int):Value:= .int i 0
noncomputable abbrev SR (a:Nat):Option Value:=some (.ref a)
noncomputable abbrev SS (s:String)(t:Nat):Option Value:=some (VS s t)
noncomputable abbrev TU (l:List Value):Obj:=⟨VT "tuple",none,.seq ⟨l⟩ 0,⟨[]⟩⟩
noncomputable abbrev OF (c:Value)(l:List Value):Obj:=⟨c,none,.fields ⟨l⟩,⟨[]⟩⟩
noncomputable abbrev DI (l:List DictEntry):Obj:=⟨VT "dict",none,.dict ⟨l⟩,⟨[]⟩⟩
noncomputable def TS1 (n:Nat)(l:List String):List Value:=List.rec (fun _=>[]) (fun s _ f n=>VS s n::f (n+1)) l n
noncomputable abbrev TS (n:Nat)(l:List String):Obj:=TU (TS1 n l)
noncomputable abbrev FL (k:Int)(l:List (Int × Nat)):Obj:=OF VN (l.flatMap fun(a,b)=>[VJ a,VJ k,VR b])
noncomputable abbrev CO (n q:String)(a:Nat)(l p k f:Int)(r:Nat)(b:Bool)(r1:Nat)(x:List Value)(t:Nat):Obj:=
 OF (VT "code") ([VS n a,VS q (a+1),VS "/claim/cut.py" (a+2),VJ l,VJ p,VJ 0,VJ k,VJ f,VR r,VB b,VJ 181,VR r1]++x++[VJ t,VJ l,VS "/claim/cut.py" (t+1)])
noncomputable abbrev GN (n q:String)(x:Arguments × List Stmt × Scope):Obj:=⟨VN,none,.func (FD n q x.1 (.stmts x.2.1) x.2.2 0 [] VN VN VN VN none VN VN 0),⟨[]⟩⟩
noncomputable abbrev FN (n q:String)(x:Arguments × List Stmt × Scope)(g:Nat)(s:String)(t r:Nat):Obj:=⟨VT "function",none,.func (FD n q x.1 (.stmts x.2.1) x.2.2 g [] VN VN VN (VS s t) none (VR r) VN 0),⟨[]⟩⟩
section
variable (P:Params)
noncomputable def hb0:Obj:=TU []
noncomputable def hb1:Obj:=OF VN []
noncomputable def hb2:Obj:=CO "<module>" "<module>" 182 1 0 0 0 11 false 12 [VN,VN,VN,VN] 185
noncomputable def hb3:Obj:=⟨(VT "frame"),none,.plain,⟨[SR 13,SR 3,SR 3,none,SS "__main__" 164,none,SR 0]⟩⟩
noncomputable def pN:List Obj:=[boot_o_0 P,boot_o_1 P,boot_o_2 P,boot_o_3 P,boot_o_4 P,boot_o_5 P,boot_o_6 P,boot_o_7 P,boot_o_8 P,boot_o_9 P,boot_o_10 P,hb0,hb1,hb2,hb3]
noncomputable def pQ:Heap:=⟨⟨pN P⟩,(boot_heap P).life⟩
noncomputable def lQ:Heap:=⟨⟨pN P⟩,(boot_heap P).life⟩
noncomputable def hb4:Obj:=⟨(VT "dict"),none,.dict ⟨[DE P "__name__" 165 (VS "threepress.errors" 194),DE P "__doc__" 166 VN,DE P "__package__" 167 VN,DE P "__loader__" 168 (VX "__main__.__loader__#opaque"),DE P "__spec__" 169 VN,DE P "__annotations__" 170 (VR 6),DE P "__builtins__" 171 (VR 4),DE P "__file__" 173 (VS "/claim/cut.py" 172),DE P "__cached__" 174 VN,DE P "_wall" 193 (VR 21),DE P "PressError" 223 (VR 39),DE P "CutShort" 239 (VR 52)]⟩ 12,⟨[]⟩⟩
noncomputable def hb5:Obj:=FL 0 [(1,20),(5,27),(10,48)]
noncomputable def hb6:Obj:=TU []
noncomputable def hb7:Obj:=OF VN []
noncomputable def hb8:Obj:=TS 190 ["k"]
noncomputable def hb9:Obj:=TU []
noncomputable def oK:Obj:=GN "_wall" "_wall" (ah 0)
noncomputable def AJ:Obj:=CO "_wall" "_wall" 187 1 1 0 3 15 true 16 [VN,VR 17,VR 18,VR 19] 191
noncomputable def AI:Obj:=FN "_wall" "_wall" (ah 0) 3 "__main__" 164 20
noncomputable def G3:Obj:=TU [VT "ValueError"]
noncomputable def GU:Obj:=OF (VT "builtin_function_or_method") [VX "type.__prepare__",VT "type"]
noncomputable def GJ:Obj:=⟨(VT "dict"),none,.dict ⟨[DE P "__module__" 203 (VS "threepress.errors" 194),DE P "__qualname__" 205 (VS "PressError" 204),DE P "__firstlineno__" 207 (VI (5) 206),DE P "__init__" 216 (VR 36),DE P "__static_attributes__" 218 (VR 37)]⟩ 5,⟨[]⟩⟩
noncomputable def GE:Obj:=TU []
noncomputable def Gz:Obj:=FL 4 [(7,35)]
noncomputable def Gn:Obj:=CO "PressError" "PressError" 198 5 0 0 0 25 false 26 [VN,VN,VN,VN] 201
noncomputable def Gf:Obj:=⟨(VT "frame"),none,.plain,⟨[SR 27,SR 3,SR 24,none,SS "threepress.errors" 194,none,SR 0]⟩⟩
noncomputable def AH:Obj:=TS 208 [""]
noncomputable def FX:Obj:=TU []
noncomputable def FP:Obj:=OF VN []
noncomputable def FC:Obj:=TS 212 ["self","reason"]
noncomputable def Fu:Obj:=TU []
noncomputable def Fm:Obj:=GN "__init__" "PressError.__init__" (al 2 0)
noncomputable def AG:Obj:=CO "__init__" "PressError.__init__" 209 7 2 0 3 30 true 31 [VN,VR 32,VR 33,VR 34] 214
noncomputable def AF:Obj:=⟨(VT "function"),none,.func (FD "__init__" "PressError.__init__" ((al 2 0).1) (.stmts (al 2 0).2.1) ((al 2 0).2.2) 3 [] (VR 29) VN VN (VS "threepress.errors" 194) none (VR 35) VN 0),⟨[]⟩⟩
noncomputable def EX:Obj:=TS 217 ["reason"]
noncomputable def AE:Obj:=⟨(VT "dict"),none,.dict ⟨[DE P "__module__" 203 (VS "threepress.errors" 194),DE P "__firstlineno__" 207 (VI (5) 206),DE P "__init__" 216 (VR 36),DE P "__static_attributes__" 218 (VR 37),DE P "__weakref__" 220 (VR 40),DE P "__doc__" 221 VN]⟩ 3,⟨[]⟩⟩
noncomputable def IY:Obj:=⟨(VT "type"),none,.cls (CD "PressError" [(VT "ValueError")] [(VR 39),(VT "ValueError"),(VT "Exception"),(VT "BaseException"),(VT "object")] 38 "PressError" true [] [(VR 52)] false none false),⟨[SR 22,none,SS "PressError" 196,SS "PressError" 204,some (VX "ValueError.__new__"),some (VB true)]⟩⟩
noncomputable def EA:Obj:=OF (VT "getset_descriptor") [VS "__weakref__" 219,VR 39,VX "ExceptionGroup.__weakref__",VN]
noncomputable def Es:Obj:=OF (VT "super") [VR 39,VR 39,VR 39]
noncomputable def Eo:Obj:=OF (VT "builtin_function_or_method") [VX "object.__init_subclass__",VR 39]
noncomputable def Ef:Obj:=TU [VR 39]
noncomputable def D7:Obj:=OF (VT "builtin_function_or_method") [VX "type.__prepare__",VT "type"]
noncomputable def DZ:Obj:=⟨(VT "dict"),none,.dict ⟨[DE P "__module__" 231 (VS "threepress.errors" 194),DE P "__qualname__" 233 (VS "CutShort" 232),DE P "__firstlineno__" 235 (VI (10) 234),DE P "__static_attributes__" 236 (VR 50)]⟩ 4,⟨[]⟩⟩
noncomputable def DQ:Obj:=TU []
noncomputable def DJ:Obj:=OF VN []
noncomputable def Dz:Obj:=CO "CutShort" "CutShort" 226 10 0 0 0 46 false 47 [VN,VN,VN,VN] 229
noncomputable def Dr:Obj:=⟨(VT "frame"),none,.plain,⟨[SR 48,SR 3,SR 45,none,SS "threepress.errors" 194,none,SR 0]⟩⟩
noncomputable def Dk:Obj:=TU []
noncomputable def AD:Obj:=⟨(VT "dict"),none,.dict ⟨[DE P "__module__" 231 (VS "threepress.errors" 194),DE P "__firstlineno__" 235 (VI (10) 234),DE P "__static_attributes__" 236 (VR 50),DE P "__doc__" 237 VN]⟩ 2,⟨[]⟩⟩
noncomputable def AC:Obj:=⟨(VT "type"),none,.cls (CD "CutShort" [(VR 39)] [(VR 52),(VR 39),(VT "ValueError"),(VT "Exception"),(VT "BaseException"),(VT "object")] 51 "CutShort" true [] [] false none false),⟨[SR 43,none,SS "CutShort" 224,SS "CutShort" 232,some (VX "ValueError.__new__"),some (VB true)]⟩⟩
noncomputable def CZ:Obj:=OF (VT "super") [VR 52,VR 52,VR 52]
noncomputable def CS:Obj:=OF (VT "builtin_function_or_method") [VX "object.__init_subclass__",VR 52]
noncomputable def Ax:List Obj:=[boot_o_0 P,boot_o_1 P,boot_o_2 P,hb4 P,boot_o_4 P,boot_o_5 P,boot_o_6 P,boot_o_7 P,boot_o_8 P,boot_o_9 P,boot_o_10 P,hb0,hb5,hb2,hb3,hb6,hb7,hb8,hb9,oK]
noncomputable def Aw:List Obj:=[AJ,AI,G3,GU,GJ P,GE,Gz,Gn,Gf,AH,FX,FP,FC,Fu,Fm,AG,AF,EX,AE P,IY]
noncomputable def Av:List Obj:=[EA,Es,Eo,Ef,D7,DZ P,DQ,DJ,Dz,Dr,Dk,AD P,AC,CZ,CS]
noncomputable def oJ:Heap:=⟨⟨Ax P++(Aw P++(Av P))⟩,(boot_heap P).life⟩
noncomputable def IX:Obj:=⟨(VT "dict"),none,.dict ⟨[DE P "__name__" 165 (VS "threepress.bits" 272),DE P "__doc__" 166 VN,DE P "__package__" 167 VN,DE P "__loader__" 168 (VX "__main__.__loader__#opaque"),DE P "__spec__" 169 VN,DE P "__annotations__" 170 (VR 6),DE P "__builtins__" 171 (VR 4),DE P "__file__" 173 (VS "/claim/cut.py" 172),DE P "__cached__" 174 VN,DE P "_wall" 193 (VR 21),DE P "PressError" 223 (VR 39),DE P "CutShort" 239 (VR 52),DE P "BadTable" 255 (VR 64),DE P "BadArgument" 271 (VR 76),DE P "need_count" 280 (VR 85),DE P "need_value" 288 (VR 92)]⟩ 16,⟨[]⟩⟩
noncomputable def IW:Obj:=FL 0 [(1,20),(5,27),(10,48),(12,60),(14,72),(17,84),(20,91)]
noncomputable def CN:Obj:=⟨(VT "type"),none,.cls (CD "PressError" [(VT "ValueError")] [(VR 39),(VT "ValueError"),(VT "Exception"),(VT "BaseException"),(VT "object")] 38 "PressError" true [] [(VR 52),(VR 64),(VR 76)] false none false),⟨[SR 22,none,SS "PressError" 196,SS "PressError" 204,some (VX "ValueError.__new__"),some (VB true)]⟩⟩
noncomputable def IV:Obj:=TU [VR 39]
noncomputable def IU:Obj:=OF (VT "builtin_function_or_method") [VX "type.__prepare__",VT "type"]
noncomputable def IT:Obj:=⟨(VT "dict"),none,.dict ⟨[DE P "__module__" 247 (VS "threepress.errors" 194),DE P "__qualname__" 249 (VS "BadTable" 248),DE P "__firstlineno__" 251 (VI (12) 250),DE P "__static_attributes__" 252 (VR 62)]⟩ 4,⟨[]⟩⟩
noncomputable def IS:Obj:=TU []
noncomputable def IR:Obj:=OF VN []
noncomputable def IQ:Obj:=CO "BadTable" "BadTable" 242 12 0 0 0 58 false 59 [VN,VN,VN,VN] 245
noncomputable def IP:Obj:=⟨(VT "frame"),none,.plain,⟨[SR 60,SR 3,SR 57,none,SS "threepress.errors" 194,none,SR 0]⟩⟩
noncomputable def IO:Obj:=TU []
noncomputable def CM:Obj:=⟨(VT "dict"),none,.dict ⟨[DE P "__module__" 247 (VS "threepress.errors" 194),DE P "__firstlineno__" 251 (VI (12) 250),DE P "__static_attributes__" 252 (VR 62),DE P "__doc__" 253 VN]⟩ 2,⟨[]⟩⟩
noncomputable def CL:Obj:=⟨(VT "type"),none,.cls (CD "BadTable" [(VR 39)] [(VR 64),(VR 39),(VT "ValueError"),(VT "Exception"),(VT "BaseException"),(VT "object")] 63 "BadTable" true [] [] false none false),⟨[SR 55,none,SS "BadTable" 240,SS "BadTable" 248,some (VX "ValueError.__new__"),some (VB true)]⟩⟩
noncomputable def IN:Obj:=OF (VT "super") [VR 64,VR 64,VR 64]
noncomputable def IM:Obj:=OF (VT "builtin_function_or_method") [VX "object.__init_subclass__",VR 64]
noncomputable def IL:Obj:=TU [VR 39]
noncomputable def IK:Obj:=OF (VT "builtin_function_or_method") [VX "type.__prepare__",VT "type"]
noncomputable def IJ:Obj:=⟨(VT "dict"),none,.dict ⟨[DE P "__module__" 263 (VS "threepress.errors" 194),DE P "__qualname__" 265 (VS "BadArgument" 264),DE P "__firstlineno__" 267 (VI (14) 266),DE P "__static_attributes__" 268 (VR 74)]⟩ 4,⟨[]⟩⟩
noncomputable def II:Obj:=TU []
noncomputable def IH:Obj:=OF VN []
noncomputable def IG:Obj:=CO "BadArgument" "BadArgument" 258 14 0 0 0 70 false 71 [VN,VN,VN,VN] 261
noncomputable def IF:Obj:=⟨(VT "frame"),none,.plain,⟨[SR 72,SR 3,SR 69,none,SS "threepress.errors" 194,none,SR 0]⟩⟩
noncomputable def IE:Obj:=TU []
noncomputable def CK:Obj:=⟨(VT "dict"),none,.dict ⟨[DE P "__module__" 263 (VS "threepress.errors" 194),DE P "__firstlineno__" 267 (VI (14) 266),DE P "__static_attributes__" 268 (VR 74),DE P "__doc__" 269 VN]⟩ 2,⟨[]⟩⟩
noncomputable def CJ:Obj:=⟨(VT "type"),none,.cls (CD "BadArgument" [(VR 39)] [(VR 76),(VR 39),(VT "ValueError"),(VT "Exception"),(VT "BaseException"),(VT "object")] 75 "BadArgument" true [] [] false none false),⟨[SR 67,none,SS "BadArgument" 256,SS "BadArgument" 264,some (VX "ValueError.__new__"),some (VB true)]⟩⟩
noncomputable def ID:Obj:=OF (VT "super") [VR 76,VR 76,VR 76]
noncomputable def IC:Obj:=OF (VT "builtin_function_or_method") [VX "object.__init_subclass__",VR 76]
noncomputable def IB:Obj:=TU []
noncomputable def CI:Obj:=OF VN []
noncomputable def CH:Obj:=TS 277 ["count"]
noncomputable def CG:Obj:=TU []
noncomputable def CE:Obj:=GN "need_count" "need_count" (ah 7)
noncomputable def AB:Obj:=CO "need_count" "need_count" 274 17 1 0 3 79 true 80 [VN,VR 81,VR 82,VR 83] 278
noncomputable def AA:Obj:=FN "need_count" "need_count" (ah 7) 3 "threepress.bits" 272 84
noncomputable def CC:Obj:=TU []
noncomputable def CB:Obj:=OF VN []
noncomputable def CA:Obj:=TS 284 ["value","size"]
noncomputable def Cz:Obj:=TU []
noncomputable def Cy:Obj:=GN "need_value" "need_value" (ah 8)
noncomputable def Az:Obj:=CO "need_value" "need_value" 281 20 2 0 3 86 true 87 [VN,VR 88,VR 89,VR 90] 286
noncomputable def Ay:Obj:=FN "need_value" "need_value" (ah 8) 3 "threepress.bits" 272 91
noncomputable def Au:List Obj:=[boot_o_0 P,boot_o_1 P,boot_o_2 P,IX P,boot_o_4 P,boot_o_5 P,boot_o_6 P,boot_o_7 P,boot_o_8 P,boot_o_9 P,boot_o_10 P,hb0,IW,hb2,hb3,hb6,hb7,hb8,hb9,oK]
noncomputable def fA:List Obj:=[AJ,AI,G3,GU,GJ P,GE,Gz,Gn,Gf,AH,FX,FP,FC,Fu,Fm,AG,AF,EX,AE P,CN]
noncomputable def fz:List Obj:=[EA,Es,Eo,Ef,D7,DZ P,DQ,DJ,Dz,Dr,Dk,AD P,AC,CZ,CS,IV,IU,IT P,IS,IR]
noncomputable def fy:List Obj:=[IQ,IP,IO,CM P,CL,IN,IM,IL,IK,IJ P,II,IH,IG,IF,IE,CK P,CJ,ID,IC,IB]
noncomputable def At:List Obj:=[CI,CH,CG,CE,AB,AA,CC,CB,CA,Cz,Cy,Az,Ay]
noncomputable def oI:Heap:=⟨⟨Au P++(fA P++(fz P++(fy P++(At))))⟩,(boot_heap P).life⟩
noncomputable def IA:Obj:=⟨(VT "dict"),none,.dict ⟨[DE P "__name__" 165 (VS "threepress.bits" 272),DE P "__doc__" 166 VN,DE P "__package__" 167 VN,DE P "__loader__" 168 (VX "__main__.__loader__#opaque"),DE P "__spec__" 169 VN,DE P "__annotations__" 170 (VR 6),DE P "__builtins__" 171 (VR 4),DE P "__file__" 173 (VS "/claim/cut.py" 172),DE P "__cached__" 174 VN,DE P "_wall" 193 (VR 21),DE P "PressError" 223 (VR 39),DE P "CutShort" 239 (VR 52),DE P "BadTable" 255 (VR 64),DE P "BadArgument" 271 (VR 76),DE P "need_count" 280 (VR 85),DE P "need_value" 288 (VR 92),DE P "end_of" 298 (VR 99),DE P "LowWriter" 384 (VR 165)]⟩ 18,⟨[]⟩⟩
noncomputable def Iz:Obj:=FL 0 [(1,20),(5,27),(10,48),(12,60),(14,72),(17,84),(20,91),(24,98),(29,105)]
noncomputable def Iy:Obj:=TU []
noncomputable def Ix:Obj:=OF VN []
noncomputable def Iw:Obj:=TS 292 ["octets","start","end","stop"]
noncomputable def Iv:Obj:=TU []
noncomputable def Iu:Obj:=GN "end_of" "end_of" (ah 9)
noncomputable def Cw:Obj:=CO "end_of" "end_of" 289 24 3 0 3 93 true 94 [VN,VR 95,VR 96,VR 97] 296
noncomputable def Cv:Obj:=FN "end_of" "end_of" (ah 9) 3 "threepress.bits" 272 98
noncomputable def It:Obj:=TU []
noncomputable def Ir:Obj:=OF (VT "builtin_function_or_method") [VX "type.__prepare__",VT "type"]
noncomputable def Iq:Obj:=⟨(VT "dict"),none,.dict ⟨[DE P "__module__" 306 (VS "threepress.bits" 272),DE P "__qualname__" 308 (VS "LowWriter" 307),DE P "__firstlineno__" 310 (VI (29) 309),DE P "__init__" 317 (VR 113),DE P "bits" 326 (VR 120),DE P "bit" 334 (VR 127),DE P "code" 343 (VR 134),DE P "align" 350 (VR 141),DE P "octets" 358 (VR 148),DE P "size" 365 (VR 155),DE P "done" 373 (VR 162),DE P "__static_attributes__" 377 (VR 163)]⟩ 12,⟨[]⟩⟩
noncomputable def Ip:Obj:=TU []
noncomputable def Hq:Obj:=FL 4 [(31,112),(36,119),(45,126),(48,133),(51,140),(55,147),(59,154),(62,161)]
noncomputable def Hp:Obj:=CO "LowWriter" "LowWriter" 301 29 0 0 0 103 false 104 [VN,VN,VN,VN] 304
noncomputable def Ho:Obj:=⟨(VT "frame"),none,.plain,⟨[SR 105,SR 3,SR 102,none,SS "threepress.bits" 272,none,SR 0]⟩⟩
noncomputable def Hn:Obj:=TU []
noncomputable def Hm:Obj:=OF VN []
noncomputable def Hl:Obj:=TS 314 ["self"]
noncomputable def Hk:Obj:=TU []
noncomputable def Hj:Obj:=GN "__init__" "LowWriter.__init__" (al 10 0)
noncomputable def y2:Obj:=CO "__init__" "LowWriter.__init__" 311 31 1 0 3 107 true 108 [VN,VR 109,VR 110,VR 111] 315
noncomputable def y1:Obj:=FN "__init__" "LowWriter.__init__" (al 10 0) 3 "threepress.bits" 272 112
noncomputable def Hi:Obj:=TU []
noncomputable def Hh:Obj:=OF VN []
noncomputable def Hg:Obj:=TS 321 ["self","value","count"]
noncomputable def Hf:Obj:=TU []
noncomputable def He:Obj:=GN "bits" "LowWriter.bits" (al 10 1)
noncomputable def y0:Obj:=CO "bits" "LowWriter.bits" 318 36 3 0 3 114 true 115 [VN,VR 116,VR 117,VR 118] 324
noncomputable def yZ:Obj:=FN "bits" "LowWriter.bits" (al 10 1) 3 "threepress.bits" 272 119
noncomputable def Hd:Obj:=TU []
noncomputable def Hc:Obj:=OF VN []
noncomputable def Hb:Obj:=TS 330 ["self","value"]
noncomputable def Ha:Obj:=TU []
noncomputable def G9:Obj:=GN "bit" "LowWriter.bit" (al 10 2)
noncomputable def yY:Obj:=CO "bit" "LowWriter.bit" 327 45 2 0 3 121 true 122 [VN,VR 123,VR 124,VR 125] 332
noncomputable def yX:Obj:=FN "bit" "LowWriter.bit" (al 10 2) 3 "threepress.bits" 272 126
noncomputable def G8:Obj:=TU []
noncomputable def G7:Obj:=OF VN []
noncomputable def G6:Obj:=TS 338 ["self","code","count"]
noncomputable def G5:Obj:=TU []
noncomputable def G4:Obj:=GN "code" "LowWriter.code" (al 10 3)
noncomputable def yW:Obj:=CO "code" "LowWriter.code" 335 48 3 0 3 128 true 129 [VN,VR 130,VR 131,VR 132] 341
noncomputable def yV:Obj:=FN "code" "LowWriter.code" (al 10 3) 3 "threepress.bits" 272 133
noncomputable def G2:Obj:=TU []
noncomputable def G0:Obj:=OF VN []
noncomputable def GZ:Obj:=TS 347 ["self"]
noncomputable def GY:Obj:=TU []
noncomputable def GX:Obj:=GN "align" "LowWriter.align" (al 10 4)
noncomputable def yU:Obj:=CO "align" "LowWriter.align" 344 51 1 0 3 135 true 136 [VN,VR 137,VR 138,VR 139] 348
noncomputable def yT:Obj:=FN "align" "LowWriter.align" (al 10 4) 3 "threepress.bits" 272 140
noncomputable def GW:Obj:=TU []
noncomputable def GV:Obj:=OF VN []
noncomputable def GT:Obj:=TS 354 ["self","data"]
noncomputable def GS:Obj:=TU []
noncomputable def GR:Obj:=GN "octets" "LowWriter.octets" (al 10 5)
noncomputable def yS:Obj:=CO "octets" "LowWriter.octets" 351 55 2 0 3 142 true 143 [VN,VR 144,VR 145,VR 146] 356
noncomputable def yR:Obj:=FN "octets" "LowWriter.octets" (al 10 5) 3 "threepress.bits" 272 147
noncomputable def GQ:Obj:=TU []
noncomputable def GP:Obj:=OF VN []
noncomputable def GO:Obj:=TS 362 ["self"]
noncomputable def GL:Obj:=TU []
noncomputable def GK:Obj:=GN "size" "LowWriter.size" (al 10 6)
noncomputable def yQ:Obj:=CO "size" "LowWriter.size" 359 59 1 0 3 149 true 150 [VN,VR 151,VR 152,VR 153] 363
noncomputable def yP:Obj:=FN "size" "LowWriter.size" (al 10 6) 3 "threepress.bits" 272 154
noncomputable def GI:Obj:=TU []
noncomputable def GH:Obj:=OF VN []
noncomputable def GG:Obj:=TS 369 ["self","rest"]
noncomputable def GF:Obj:=TU []
noncomputable def yO:Obj:=GN "done" "LowWriter.done" (al 10 7)
noncomputable def tF:Obj:=CO "done" "LowWriter.done" 366 62 1 0 3 156 true 157 [VN,VR 158,VR 159,VR 160] 371
noncomputable def tE:Obj:=FN "done" "LowWriter.done" (al 10 7) 3 "threepress.bits" 272 161
noncomputable def yN:Obj:=TS 374 ["held","held_bits","made"]
noncomputable def tD:Obj:=⟨(VT "dict"),none,.dict ⟨[DE P "__module__" 306 (VS "threepress.bits" 272),DE P "__firstlineno__" 310 (VI (29) 309),DE P "__init__" 317 (VR 113),DE P "bits" 326 (VR 120),DE P "bit" 334 (VR 127),DE P "code" 343 (VR 134),DE P "align" 350 (VR 141),DE P "octets" 358 (VR 148),DE P "size" 365 (VR 155),DE P "done" 373 (VR 162),DE P "__static_attributes__" 377 (VR 163),DE P "__dict__" 379 (VR 166),DE P "__weakref__" 381 (VR 167),DE P "__doc__" 382 VN]⟩ 4,⟨[]⟩⟩
noncomputable def tC:Obj:=⟨(VT "type"),none,.cls (CD "LowWriter" [(VT "object")] [(VR 165),(VT "object")] 164 "LowWriter" true [] [] false none false),⟨[none,none,SS "LowWriter" 299,SS "LowWriter" 307,some (VX "object.__new__"),some (VB true)]⟩⟩
noncomputable def yM:Obj:=OF (VT "getset_descriptor") [VS "__dict__" 378,VR 165,VX "function.__dict__",VX "function.__dict__#set"]
noncomputable def yL:Obj:=OF (VT "getset_descriptor") [VS "__weakref__" 380,VR 165,VX "ExceptionGroup.__weakref__",VN]
noncomputable def yK:Obj:=OF (VT "super") [VR 165,VR 165,VR 165]
noncomputable def yJ:Obj:=OF (VT "builtin_function_or_method") [VX "object.__init_subclass__",VR 165]
noncomputable def As:List Obj:=[boot_o_0 P,boot_o_1 P,boot_o_2 P,IA P,boot_o_4 P,boot_o_5 P,boot_o_6 P,boot_o_7 P,boot_o_8 P,boot_o_9 P,boot_o_10 P,hb0,Iz,hb2,hb3,hb6,hb7,hb8,hb9,oK]
noncomputable def gw:List Obj:=[CI,CH,CG,CE,AB,AA,CC,CB,CA,Cz,Cy,Az,Ay,Iy,Ix,Iw,Iv,Iu,Cw,Cv]
noncomputable def gv:List Obj:=[It,Ir,Iq P,Ip,Hq,Hp,Ho,Hn,Hm,Hl,Hk,Hj,y2,y1,Hi,Hh,Hg,Hf,He,y0]
noncomputable def gu:List Obj:=[yZ,Hd,Hc,Hb,Ha,G9,yY,yX,G8,G7,G6,G5,G4,yW,yV,G2,G0,GZ,GY,GX]
noncomputable def gt:List Obj:=[yU,yT,GW,GV,GT,GS,GR,yS,yR,GQ,GP,GO,GL,GK,yQ,yP,GI,GH,GG,GF]
noncomputable def Ar:List Obj:=[yO,tF,tE,yN,tD P,tC,yM,yL,yK,yJ]
noncomputable def oH:Heap:=⟨⟨As P++(fA P++(fz P++(fy P++(gw++(gv P++(gu++(gt++(Ar P))))))))⟩,(boot_heap P).life⟩
noncomputable def GD:Obj:=⟨(VT "dict"),none,.dict ⟨[DE P "__name__" 165 (VS "threepress.fse" 480),DE P "__doc__" 166 VN,DE P "__package__" 167 VN,DE P "__loader__" 168 (VX "__main__.__loader__#opaque"),DE P "__spec__" 169 VN,DE P "__annotations__" 170 (VR 6),DE P "__builtins__" 171 (VR 4),DE P "__file__" 173 (VS "/claim/cut.py" 172),DE P "__cached__" 174 VN,DE P "_wall" 193 (VR 21),DE P "PressError" 223 (VR 39),DE P "CutShort" 239 (VR 52),DE P "BadTable" 255 (VR 64),DE P "BadArgument" 271 (VR 76),DE P "need_count" 280 (VR 85),DE P "need_value" 288 (VR 92),DE P "end_of" 298 (VR 99),DE P "LowWriter" 384 (VR 165),DE P "Octets" 479 (VR 243),DE P "LEAST_LOG" 483 (VI (5) 482),DE P "MOST_LOG" 485 (VI (20) 484)]⟩ 21,⟨[]⟩⟩
noncomputable def GC:Obj:=FL 0 [(1,20),(5,27),(10,48),(12,60),(14,72),(17,84),(20,91),(24,98),(29,105),(65,175)]
noncomputable def GB:Obj:=TU []
noncomputable def GA:Obj:=OF (VT "builtin_function_or_method") [VX "type.__prepare__",VT "type"]
noncomputable def Gy:Obj:=⟨(VT "dict"),none,.dict ⟨[DE P "__module__" 392 (VS "threepress.bits" 272),DE P "__qualname__" 394 (VS "Octets" 393),DE P "__firstlineno__" 396 (VI (65) 395),DE P "__init__" 407 (VR 184),DE P "left" 414 (VR 191),DE P "ahead" 422 (VR 198),DE P "take" 430 (VR 205),DE P "skip" 438 (VR 212),DE P "octet" 445 (VR 219),DE P "little" 453 (VR 226),DE P "big" 461 (VR 233),DE P "rest" 468 (VR 240),DE P "__static_attributes__" 472 (VR 241)]⟩ 13,⟨[]⟩⟩
noncomputable def Gx:Obj:=TU []
noncomputable def Gw:Obj:=FL 4 [(67,183),(72,190),(75,197),(78,204),(85,211),(88,218),(91,225),(94,232),(97,239)]
noncomputable def Gv:Obj:=CO "Octets" "Octets" 387 65 0 0 0 173 false 174 [VN,VN,VN,VN] 390
noncomputable def Gu:Obj:=⟨(VT "frame"),none,.plain,⟨[SR 175,SR 3,SR 172,none,SS "threepress.bits" 272,none,SR 0]⟩⟩
noncomputable def yI:Obj:=TU [VI 0 397,VN]
noncomputable def Gs:Obj:=TU []
noncomputable def Gq:Obj:=OF VN []
noncomputable def Gp:Obj:=TS 401 ["self","octets","start","end"]
noncomputable def Go:Obj:=TU []
noncomputable def Gm:Obj:=GN "__init__" "Octets.__init__" (al 11 0)
noncomputable def yH:Obj:=CO "__init__" "Octets.__init__" 398 67 4 0 3 178 true 179 [VN,VR 180,VR 181,VR 182] 405
noncomputable def yG:Obj:=⟨(VT "function"),none,.func (FD "__init__" "Octets.__init__" ((al 11 0).1) (.stmts (al 11 0).2.1) ((al 11 0).2.2) 3 [] (VR 177) VN VN (VS "threepress.bits" 272) none (VR 183) VN 0),⟨[]⟩⟩
noncomputable def Gl:Obj:=TU []
noncomputable def Gk:Obj:=OF VN []
noncomputable def Gj:Obj:=TS 411 ["self"]
noncomputable def Gi:Obj:=TU []
noncomputable def Gg:Obj:=GN "left" "Octets.left" (al 11 1)
noncomputable def yF:Obj:=CO "left" "Octets.left" 408 72 1 0 3 185 true 186 [VN,VR 187,VR 188,VR 189] 412
noncomputable def yE:Obj:=FN "left" "Octets.left" (al 11 1) 3 "threepress.bits" 272 190
noncomputable def Ge:Obj:=TU []
noncomputable def Gd:Obj:=OF VN []
noncomputable def Gc:Obj:=TS 418 ["self","count"]
noncomputable def Gb:Obj:=TU []
noncomputable def Ga:Obj:=GN "ahead" "Octets.ahead" (al 11 2)
noncomputable def yD:Obj:=CO "ahead" "Octets.ahead" 415 75 2 0 3 192 true 193 [VN,VR 194,VR 195,VR 196] 420
noncomputable def yC:Obj:=FN "ahead" "Octets.ahead" (al 11 2) 3 "threepress.bits" 272 197
noncomputable def F9:Obj:=TU []
noncomputable def F8:Obj:=OF VN []
noncomputable def F7:Obj:=TS 426 ["self","count"]
noncomputable def F6:Obj:=TU []
noncomputable def F5:Obj:=GN "take" "Octets.take" (al 11 3)
noncomputable def yB:Obj:=CO "take" "Octets.take" 423 78 2 0 3 199 true 200 [VN,VR 201,VR 202,VR 203] 428
noncomputable def yA:Obj:=FN "take" "Octets.take" (al 11 3) 3 "threepress.bits" 272 204
noncomputable def F4:Obj:=TU []
noncomputable def F3:Obj:=OF VN []
noncomputable def F0:Obj:=TS 434 ["self","count"]
noncomputable def FZ:Obj:=TU []
noncomputable def FY:Obj:=GN "skip" "Octets.skip" (al 11 4)
noncomputable def yz:Obj:=CO "skip" "Octets.skip" 431 85 2 0 3 206 true 207 [VN,VR 208,VR 209,VR 210] 436
noncomputable def yy:Obj:=FN "skip" "Octets.skip" (al 11 4) 3 "threepress.bits" 272 211
noncomputable def FW:Obj:=TU []
noncomputable def FV:Obj:=OF VN []
noncomputable def FU:Obj:=TS 442 ["self"]
noncomputable def FT:Obj:=TU []
noncomputable def FS:Obj:=GN "octet" "Octets.octet" (al 11 5)
noncomputable def yx:Obj:=CO "octet" "Octets.octet" 439 88 1 0 3 213 true 214 [VN,VR 215,VR 216,VR 217] 443
noncomputable def yw:Obj:=FN "octet" "Octets.octet" (al 11 5) 3 "threepress.bits" 272 218
noncomputable def FR:Obj:=TU []
noncomputable def FQ:Obj:=OF VN []
noncomputable def FO:Obj:=TS 449 ["self","count"]
noncomputable def FM:Obj:=TU []
noncomputable def FK:Obj:=GN "little" "Octets.little" (al 11 6)
noncomputable def yv:Obj:=CO "little" "Octets.little" 446 91 2 0 3 220 true 221 [VN,VR 222,VR 223,VR 224] 451
noncomputable def yu:Obj:=FN "little" "Octets.little" (al 11 6) 3 "threepress.bits" 272 225
noncomputable def FJ:Obj:=TU []
noncomputable def FI:Obj:=OF VN []
noncomputable def FH:Obj:=TS 457 ["self","count"]
noncomputable def FG:Obj:=TU []
noncomputable def FE:Obj:=GN "big" "Octets.big" (al 11 7)
noncomputable def yt:Obj:=CO "big" "Octets.big" 454 94 2 0 3 227 true 228 [VN,VR 229,VR 230,VR 231] 459
noncomputable def yr:Obj:=FN "big" "Octets.big" (al 11 7) 3 "threepress.bits" 272 232
noncomputable def Fz:Obj:=TU []
noncomputable def Fy:Obj:=OF VN []
noncomputable def Fx:Obj:=TS 465 ["self"]
noncomputable def Fw:Obj:=TU []
noncomputable def Fv:Obj:=GN "rest" "Octets.rest" (al 11 8)
noncomputable def yq:Obj:=CO "rest" "Octets.rest" 462 97 1 0 3 234 true 235 [VN,VR 236,VR 237,VR 238] 466
noncomputable def tB:Obj:=FN "rest" "Octets.rest" (al 11 8) 3 "threepress.bits" 272 239
noncomputable def yp:Obj:=TS 469 ["data","place","stop"]
noncomputable def tA:Obj:=⟨(VT "dict"),none,.dict ⟨[DE P "__module__" 392 (VS "threepress.bits" 272),DE P "__firstlineno__" 396 (VI (65) 395),DE P "__init__" 407 (VR 184),DE P "left" 414 (VR 191),DE P "ahead" 422 (VR 198),DE P "take" 430 (VR 205),DE P "skip" 438 (VR 212),DE P "octet" 445 (VR 219),DE P "little" 453 (VR 226),DE P "big" 461 (VR 233),DE P "rest" 468 (VR 240),DE P "__static_attributes__" 472 (VR 241),DE P "__dict__" 474 (VR 244),DE P "__weakref__" 476 (VR 245),DE P "__doc__" 477 VN]⟩ 4,⟨[]⟩⟩
noncomputable def tz:Obj:=⟨(VT "type"),none,.cls (CD "Octets" [(VT "object")] [(VR 243),(VT "object")] 242 "Octets" true [] [] false none false),⟨[none,none,SS "Octets" 385,SS "Octets" 393,some (VX "object.__new__"),some (VB true)]⟩⟩
noncomputable def yo:Obj:=OF (VT "getset_descriptor") [VS "__dict__" 473,VR 243,VX "function.__dict__",VX "function.__dict__#set"]
noncomputable def yn:Obj:=OF (VT "getset_descriptor") [VS "__weakref__" 475,VR 243,VX "ExceptionGroup.__weakref__",VN]
noncomputable def yl:Obj:=OF (VT "super") [VR 243,VR 243,VR 243]
noncomputable def yk:Obj:=OF (VT "builtin_function_or_method") [VX "object.__init_subclass__",VR 243]
noncomputable def Aq:List Obj:=[boot_o_0 P,boot_o_1 P,boot_o_2 P,GD P,boot_o_4 P,boot_o_5 P,boot_o_6 P,boot_o_7 P,boot_o_8 P,boot_o_9 P,boot_o_10 P,hb0,GC,hb2,hb3,hb6,hb7,hb8,hb9,oK]
noncomputable def jg:List Obj:=[yO,tF,tE,yN,tD P,tC,yM,yL,yK,yJ,GB,GA,Gy P,Gx,Gw,Gv,Gu,yI,Gs,Gq]
noncomputable def jf:List Obj:=[Gp,Go,Gm,yH,yG,Gl,Gk,Gj,Gi,Gg,yF,yE,Ge,Gd,Gc,Gb,Ga,yD,yC,F9]
noncomputable def fZ:List Obj:=[F8,F7,F6,F5,yB,yA,F4,F3,F0,FZ,FY,yz,yy,FW,FV,FU,FT,FS,yx,yw]
noncomputable def fY:List Obj:=[FR,FQ,FO,FM,FK,yv,yu,FJ,FI,FH,FG,FE,yt,yr,Fz,Fy,Fx,Fw,Fv,yq]
noncomputable def vU:List Obj:=[tB,yp,tA P,tz,yo,yn,yl,yk]
noncomputable def oG:Heap:=⟨⟨Aq P++(fA P++(fz P++(fy P++(gw++(gv P++(gu++(gt++(jg P++(jf++(fZ++(fY++(vU P))))))))))))⟩,(boot_heap P).life⟩
noncomputable def Fs:Obj:=⟨(VT "dict"),none,.dict ⟨[DE P "__name__" 165 (VS "law_tg0037_01" 599),DE P "__doc__" 166 VN,DE P "__package__" 167 VN,DE P "__loader__" 168 (VX "__main__.__loader__#opaque"),DE P "__spec__" 169 VN,DE P "__annotations__" 170 (VR 6),DE P "__builtins__" 171 (VR 4),DE P "__file__" 173 (VS "/claim/cut.py" 172),DE P "__cached__" 174 VN,DE P "_wall" 193 (VR 21),DE P "PressError" 223 (VR 39),DE P "CutShort" 239 (VR 52),DE P "BadTable" 255 (VR 64),DE P "BadArgument" 271 (VR 76),DE P "need_count" 280 (VR 85),DE P "need_value" 288 (VR 92),DE P "end_of" 298 (VR 99),DE P "LowWriter" 384 (VR 165),DE P "Octets" 479 (VR 243),DE P "LEAST_LOG" 483 (VI (5) 482),DE P "MOST_LOG" 485 (VI (20) 484),DE P "places_of" 492 (VR 254),DE P "counts_fault" 498 (VR 259),DE P "CountBits" 559 (VR 297),DE P "read_counts" 565 (VR 306),DE P "write_upto" 576 (VR 313),DE P "write_run" 584 (VR 320),DE P "write_counts" 598 (VR 327)]⟩ 28,⟨[]⟩⟩
noncomputable def Fq:Obj:=FL 0 [(1,20),(5,27),(10,48),(12,60),(14,72),(17,84),(20,91),(24,98),(29,105),(65,175),(102,253),(104,258),(112,265),(143,305),(158,312),(165,319),(170,326)]
noncomputable def Fp:Obj:=TU []
noncomputable def Fo:Obj:=OF VN []
noncomputable def Fl:Obj:=TS 489 ["count"]
noncomputable def Fk:Obj:=TU []
noncomputable def Fj:Obj:=GN "places_of" "places_of" (ah 15)
noncomputable def yj:Obj:=CO "places_of" "places_of" 486 102 1 0 3 248 true 249 [VN,VR 250,VR 251,VR 252] 490
noncomputable def yi:Obj:=FN "places_of" "places_of" (ah 15) 3 "threepress.fse" 480 253
noncomputable def Fi:Obj:=TU []
noncomputable def Fh:Obj:=OF VN []
noncomputable def Fg:Obj:=GN "counts_fault" "counts_fault" (ah 16)
noncomputable def yh:Obj:=CO "counts_fault" "counts_fault" 493 104 2 0 3 255 true 256 [VN,VN,VN,VR 257] 496
noncomputable def yg:Obj:=FN "counts_fault" "counts_fault" (ah 16) 3 "threepress.fse" 480 258
noncomputable def Ff:Obj:=TU []
noncomputable def Fe:Obj:=OF (VT "builtin_function_or_method") [VX "type.__prepare__",VT "type"]
noncomputable def Fd:Obj:=⟨(VT "dict"),none,.dict ⟨[DE P "__module__" 506 (VS "threepress.fse" 480),DE P "__qualname__" 508 (VS "CountBits" 507),DE P "__firstlineno__" 510 (VI (112) 509),DE P "__init__" 518 (VR 273),DE P "take" 527 (VR 280),DE P "upto" 538 (VR 287),DE P "run" 548 (VR 294),DE P "__static_attributes__" 552 (VR 295)]⟩ 8,⟨[]⟩⟩
noncomputable def Fc:Obj:=TU []
noncomputable def Fa:Obj:=FL 4 [(114,272),(117,279),(126,286),(135,293)]
noncomputable def E9:Obj:=CO "CountBits" "CountBits" 501 112 0 0 0 263 false 264 [VN,VN,VN,VN] 504
noncomputable def E8:Obj:=⟨(VT "frame"),none,.plain,⟨[SR 265,SR 3,SR 262,none,SS "threepress.fse" 480,none,SR 0]⟩⟩
noncomputable def E7:Obj:=TU []
noncomputable def E6:Obj:=OF VN []
noncomputable def E5:Obj:=TS 514 ["self","cursor"]
noncomputable def E4:Obj:=TU []
noncomputable def E3:Obj:=GN "__init__" "CountBits.__init__" (al 17 0)
noncomputable def yf:Obj:=CO "__init__" "CountBits.__init__" 511 114 2 0 3 267 true 268 [VN,VR 269,VR 270,VR 271] 516
noncomputable def ye:Obj:=FN "__init__" "CountBits.__init__" (al 17 0) 3 "threepress.fse" 480 272
noncomputable def E2:Obj:=TU []
noncomputable def E1:Obj:=OF VN []
noncomputable def E0:Obj:=TS 522 ["self","count","value"]
noncomputable def EZ:Obj:=TU []
noncomputable def EY:Obj:=GN "take" "CountBits.take" (al 17 1)
noncomputable def yd:Obj:=CO "take" "CountBits.take" 519 117 2 0 3 274 true 275 [VN,VR 276,VR 277,VR 278] 525
noncomputable def yb:Obj:=FN "take" "CountBits.take" (al 17 1) 3 "threepress.fse" 480 279
noncomputable def EV:Obj:=TU []
noncomputable def EU:Obj:=OF VN []
noncomputable def ET:Obj:=TS 531 ["self","most","count","spare","value"]
noncomputable def ES:Obj:=TU []
noncomputable def ER:Obj:=GN "upto" "CountBits.upto" (al 17 2)
noncomputable def ya:Obj:=CO "upto" "CountBits.upto" 528 126 2 0 3 281 true 282 [VN,VR 283,VR 284,VR 285] 536
noncomputable def x9:Obj:=FN "upto" "CountBits.upto" (al 17 2) 3 "threepress.fse" 480 286
noncomputable def EQ:Obj:=TU []
noncomputable def EP:Obj:=OF VN []
noncomputable def EO:Obj:=TS 542 ["self","most","found","told"]
noncomputable def EN:Obj:=TU []
noncomputable def EM:Obj:=GN "run" "CountBits.run" (al 17 3)
noncomputable def x8:Obj:=CO "run" "CountBits.run" 539 135 2 0 3 288 true 289 [VN,VR 290,VR 291,VR 292] 546
noncomputable def x7:Obj:=FN "run" "CountBits.run" (al 17 3) 3 "threepress.fse" 480 293
noncomputable def EL:Obj:=TS 549 ["cursor","have","stock"]
noncomputable def x6:Obj:=⟨(VT "dict"),none,.dict ⟨[DE P "__module__" 506 (VS "threepress.fse" 480),DE P "__firstlineno__" 510 (VI (112) 509),DE P "__init__" 518 (VR 273),DE P "take" 527 (VR 280),DE P "upto" 538 (VR 287),DE P "run" 548 (VR 294),DE P "__static_attributes__" 552 (VR 295),DE P "__dict__" 554 (VR 298),DE P "__weakref__" 556 (VR 299),DE P "__doc__" 557 VN]⟩ 4,⟨[]⟩⟩
noncomputable def xZ:Obj:=⟨(VT "type"),none,.cls (CD "CountBits" [(VT "object")] [(VR 297),(VT "object")] 296 "CountBits" true [] [] false none false),⟨[none,none,SS "CountBits" 499,SS "CountBits" 507,some (VX "object.__new__"),some (VB true)]⟩⟩
noncomputable def EK:Obj:=OF (VT "getset_descriptor") [VS "__dict__" 553,VR 297,VX "function.__dict__",VX "function.__dict__#set"]
noncomputable def EJ:Obj:=OF (VT "getset_descriptor") [VS "__weakref__" 555,VR 297,VX "ExceptionGroup.__weakref__",VN]
noncomputable def EI:Obj:=OF (VT "super") [VR 297,VR 297,VR 297]
noncomputable def EH:Obj:=OF (VT "builtin_function_or_method") [VX "object.__init_subclass__",VR 297]
noncomputable def EG:Obj:=TU []
noncomputable def EF:Obj:=OF VN []
noncomputable def EE:Obj:=GN "read_counts" "read_counts" (ah 18)
noncomputable def xY:Obj:=CO "read_counts" "read_counts" 560 143 3 0 3 302 true 303 [VN,VN,VN,VR 304] 563
noncomputable def xX:Obj:=FN "read_counts" "read_counts" (ah 18) 3 "threepress.fse" 480 305
noncomputable def ED:Obj:=TU []
noncomputable def EC:Obj:=OF VN []
noncomputable def EB:Obj:=TS 569 ["out","value","most","count","spare"]
noncomputable def Ez:Obj:=TU []
noncomputable def Ey:Obj:=GN "write_upto" "write_upto" (ah 19)
noncomputable def xW:Obj:=CO "write_upto" "write_upto" 566 158 3 0 3 307 true 308 [VN,VR 309,VR 310,VR 311] 574
noncomputable def xV:Obj:=FN "write_upto" "write_upto" (ah 19) 3 "threepress.fse" 480 312
noncomputable def Ex:Obj:=TU []
noncomputable def Ew:Obj:=OF VN []
noncomputable def Ev:Obj:=TS 580 ["out","count"]
noncomputable def Eu:Obj:=TU []
noncomputable def Et:Obj:=GN "write_run" "write_run" (ah 20)
noncomputable def xU:Obj:=CO "write_run" "write_run" 577 165 2 0 3 314 true 315 [VN,VR 316,VR 317,VR 318] 582
noncomputable def ty:Obj:=FN "write_run" "write_run" (ah 20) 3 "threepress.fse" 480 319
noncomputable def xT:Obj:=TU []
noncomputable def xS:Obj:=OF VN []
noncomputable def xR:Obj:=TS 588 ["counts","log","fault","out","symbol","left","count","end"]
noncomputable def xQ:Obj:=TU []
noncomputable def xP:Obj:=GN "write_counts" "write_counts" (ah 21)
noncomputable def tw:Obj:=CO "write_counts" "write_counts" 585 170 2 0 3 321 true 322 [VN,VR 323,VR 324,VR 325] 596
noncomputable def tu:Obj:=FN "write_counts" "write_counts" (ah 21) 3 "threepress.fse" 480 326
noncomputable def Ap:List Obj:=[boot_o_0 P,boot_o_1 P,boot_o_2 P,Fs P,boot_o_4 P,boot_o_5 P,boot_o_6 P,boot_o_7 P,boot_o_8 P,boot_o_9 P,boot_o_10 P,hb0,Fq,hb2,hb3,hb6,hb7,hb8,hb9,oK]
noncomputable def ik:List Obj:=[tB,yp,tA P,tz,yo,yn,yl,yk,Fp,Fo,Fl,Fk,Fj,yj,yi,Fi,Fh,Fg,yh,yg]
noncomputable def ij:List Obj:=[Ff,Fe,Fd P,Fc,Fa,E9,E8,E7,E6,E5,E4,E3,yf,ye,E2,E1,E0,EZ,EY,yd]
noncomputable def ii:List Obj:=[yb,EV,EU,ET,ES,ER,ya,x9,EQ,EP,EO,EN,EM,x8,x7,EL,x6 P,xZ,EK,EJ]
noncomputable def ig:List Obj:=[EI,EH,EG,EF,EE,xY,xX,ED,EC,EB,Ez,Ey,xW,xV,Ex,Ew,Ev,Eu,Et,xU]
noncomputable def vT:List Obj:=[ty,xT,xS,xR,xQ,xP,tw,tu]
noncomputable def oF:Heap:=⟨⟨Ap P++(fA P++(fz P++(fy P++(gw++(gv P++(gu++(gt++(jg P++(jf++(fZ++(fY++(ik P++(ij P++(ii P++(ig++(vT))))))))))))))))⟩,(boot_heap P).life⟩
noncomputable def Er:Obj:=⟨(VT "dict"),none,.dict ⟨[DE P "__name__" 165 (VS "law_tg0037_01" 599),DE P "__doc__" 166 VN,DE P "__package__" 167 VN,DE P "__loader__" 168 (VX "__main__.__loader__#opaque"),DE P "__spec__" 169 VN,DE P "__annotations__" 170 (VR 6),DE P "__builtins__" 171 (VR 4),DE P "__file__" 173 (VS "/claim/cut.py" 172),DE P "__cached__" 174 VN,DE P "_wall" 193 (VR 21),DE P "PressError" 223 (VR 39),DE P "CutShort" 239 (VR 52),DE P "BadTable" 255 (VR 64),DE P "BadArgument" 271 (VR 76),DE P "need_count" 280 (VR 85),DE P "need_value" 288 (VR 92),DE P "end_of" 298 (VR 99),DE P "LowWriter" 384 (VR 165),DE P "Octets" 479 (VR 243),DE P "LEAST_LOG" 483 (VI (5) 482),DE P "MOST_LOG" 485 (VI (20) 484),DE P "places_of" 492 (VR 254),DE P "counts_fault" 498 (VR 259),DE P "CountBits" 559 (VR 297),DE P "read_counts" 565 (VR 306),DE P "write_upto" 576 (VR 313),DE P "write_run" 584 (VR 320),DE P "write_counts" 598 (VR 327),DE P "_law_box" 607 (VR 334),DE P "_law_take" 617 (VR 341),DE P "_law_drawn" 631 (VR 348),DE P "_law_row" 641 (VR 355),DE P "_law_items" 650 (VR 362),DE P "_law_word" 660 (VR 369),DE P "_law_told" 676 (VR 376),DE P "_law_walked" 693 (VR 383),DE P "_law_whole" 699 (VR 388),DE P "_law_octets" 705 (VR 393),DE P "_law_read" 717 (VR 400),DE P "_law_again_right" 732 (VR 407),DE P "_law_written_right" 738 (VR 412),DE P "_law_bent" 744 (VR 417),DE P "_law_parts_right" 763 (VR 424)]⟩ 43,⟨[]⟩⟩
noncomputable def Ep:Obj:=FL 0 [(1,20),(5,27),(10,48),(12,60),(14,72),(17,84),(20,91),(24,98),(29,105),(65,175),(102,253),(104,258),(112,265),(143,305),(158,312),(165,319),(170,326),(190,333),(192,340),(200,347),(211,354),(216,361),(224,368),(231,375),(239,382),(256,387),(258,392),(260,399),(269,406),(275,411),(287,416),(299,423)]
noncomputable def En:Obj:=TU []
noncomputable def Em:Obj:=OF VN []
noncomputable def El:Obj:=TS 604 ["cell"]
noncomputable def Ek:Obj:=TU []
noncomputable def Ej:Obj:=GN "_law_box" "_law_box" (ah 23)
noncomputable def xO:Obj:=CO "_law_box" "_law_box" 601 190 1 0 3 328 true 329 [VN,VR 330,VR 331,VR 332] 605
noncomputable def xN:Obj:=FN "_law_box" "_law_box" (ah 23) 3 "law_tg0037_01" 599 333
noncomputable def Ei:Obj:=TU []
noncomputable def Eh:Obj:=OF VN []
noncomputable def Eg:Obj:=TS 611 ["box","many","digit","blend"]
noncomputable def Ee:Obj:=TU []
noncomputable def Ed:Obj:=GN "_law_take" "_law_take" (ah 24)
noncomputable def xM:Obj:=CO "_law_take" "_law_take" 608 192 2 0 3 335 true 336 [VN,VR 337,VR 338,VR 339] 615
noncomputable def xL:Obj:=FN "_law_take" "_law_take" (ah 24) 3 "law_tg0037_01" 599 340
noncomputable def Ec:Obj:=TU []
noncomputable def Eb:Obj:=OF VN []
noncomputable def Ea:Obj:=TS 621 ["box","log","many","left","items","later","piece","count"]
noncomputable def D9:Obj:=TU []
noncomputable def D8:Obj:=GN "_law_drawn" "_law_drawn" (ah 25)
noncomputable def xK:Obj:=CO "_law_drawn" "_law_drawn" 618 200 3 0 3 342 true 343 [VN,VR 344,VR 345,VR 346] 629
noncomputable def xJ:Obj:=FN "_law_drawn" "_law_drawn" (ah 25) 3 "law_tg0037_01" 599 347
noncomputable def D6:Obj:=TU []
noncomputable def D5:Obj:=OF VN []
noncomputable def D4:Obj:=TS 635 ["items","row","count","more"]
noncomputable def D3:Obj:=TU []
noncomputable def D2:Obj:=GN "_law_row" "_law_row" (ah 26)
noncomputable def xI:Obj:=CO "_law_row" "_law_row" 632 211 1 0 3 349 true 350 [VN,VR 351,VR 352,VR 353] 639
noncomputable def xH:Obj:=FN "_law_row" "_law_row" (ah 26) 3 "law_tg0037_01" 599 354
noncomputable def D1:Obj:=TU []
noncomputable def D0:Obj:=OF VN []
noncomputable def DY:Obj:=TS 645 ["counts","items","count"]
noncomputable def DX:Obj:=TU []
noncomputable def DW:Obj:=GN "_law_items" "_law_items" (ah 27)
noncomputable def xG:Obj:=CO "_law_items" "_law_items" 642 216 1 0 3 356 true 357 [VN,VR 358,VR 359,VR 360] 648
noncomputable def xF:Obj:=FN "_law_items" "_law_items" (ah 27) 3 "law_tg0037_01" 599 361
noncomputable def DV:Obj:=TU []
noncomputable def DU:Obj:=OF VN []
noncomputable def DT:Obj:=TS 654 ["value","most","half","wide"]
noncomputable def DS:Obj:=TU []
noncomputable def DR:Obj:=GN "_law_word" "_law_word" (ah 28)
noncomputable def xE:Obj:=CO "_law_word" "_law_word" 651 224 2 0 3 363 true 364 [VN,VR 365,VR 366,VR 367] 658
noncomputable def xD:Obj:=FN "_law_word" "_law_word" (ah 28) 3 "law_tg0037_01" 599 368
noncomputable def DP:Obj:=TU []
noncomputable def DO:Obj:=OF VN []
noncomputable def DN:Obj:=TS 664 ["items","log","whole","bits","left","count","more","word","wide","group"]
noncomputable def DM:Obj:=TU []
noncomputable def DL:Obj:=GN "_law_told" "_law_told" (ah 29)
noncomputable def xC:Obj:=CO "_law_told" "_law_told" 661 231 2 0 3 370 true 371 [VN,VR 372,VR 373,VR 374] 674
noncomputable def xB:Obj:=FN "_law_told" "_law_told" (ah 29) 3 "law_tg0037_01" 599 375
noncomputable def DK:Obj:=TU []
noncomputable def DH:Obj:=OF VN []
noncomputable def DG:Obj:=TS 680 ["whole","counts","log","items","at","left","k","word","wide","more","group"]
noncomputable def DF:Obj:=TU []
noncomputable def DD:Obj:=GN "_law_walked" "_law_walked" (ah 30)
noncomputable def xA:Obj:=CO "_law_walked" "_law_walked" 677 239 3 0 3 377 true 378 [VN,VR 379,VR 380,VR 381] 691
noncomputable def xz:Obj:=FN "_law_walked" "_law_walked" (ah 30) 3 "law_tg0037_01" 599 382
noncomputable def DC:Obj:=TU []
noncomputable def DB:Obj:=OF VN []
noncomputable def DA:Obj:=GN "_law_whole" "_law_whole" (ah 31)
noncomputable def xy:Obj:=CO "_law_whole" "_law_whole" 694 256 1 0 3 384 true 385 [VN,VN,VN,VR 386] 697
noncomputable def xx:Obj:=FN "_law_whole" "_law_whole" (ah 31) 3 "law_tg0037_01" 599 387
noncomputable def Dy:Obj:=TU []
noncomputable def Dx:Obj:=OF VN []
noncomputable def Dw:Obj:=GN "_law_octets" "_law_octets" (ah 32)
noncomputable def xw:Obj:=CO "_law_octets" "_law_octets" 700 258 2 0 3 389 true 390 [VN,VN,VN,VR 391] 703
noncomputable def xv:Obj:=FN "_law_octets" "_law_octets" (ah 32) 3 "law_tg0037_01" 599 392
noncomputable def Dv:Obj:=TU []
noncomputable def Du:Obj:=OF VN []
noncomputable def Dt:Obj:=TS 709 ["octets","most_log","most","cursor","counts","log"]
noncomputable def Ds:Obj:=TU []
noncomputable def Dq:Obj:=GN "_law_read" "_law_read" (ah 33)
noncomputable def xu:Obj:=CO "_law_read" "_law_read" 706 260 3 0 3 394 true 395 [VN,VR 396,VR 397,VR 398] 715
noncomputable def xt:Obj:=FN "_law_read" "_law_read" (ah 33) 3 "law_tg0037_01" 599 399
noncomputable def Dp:Obj:=TU []
noncomputable def Do:Obj:=OF VN []
noncomputable def Dn:Obj:=TS 721 ["items","bits","row","log","again","taken","plain","whole","fewest"]
noncomputable def Dm:Obj:=TU []
noncomputable def Dl:Obj:=GN "_law_again_right" "_law_again_right" (ah 34)
noncomputable def xr:Obj:=CO "_law_again_right" "_law_again_right" 718 269 6 0 3 401 true 402 [VN,VR 403,VR 404,VR 405] 730
noncomputable def xq:Obj:=FN "_law_again_right" "_law_again_right" (ah 34) 3 "law_tg0037_01" 599 406
noncomputable def Dj:Obj:=TU []
noncomputable def Di:Obj:=OF VN []
noncomputable def Dh:Obj:=GN "_law_written_right" "_law_written_right" (ah 35)
noncomputable def xo:Obj:=CO "_law_written_right" "_law_written_right" 733 275 4 0 3 408 true 409 [VN,VN,VN,VR 410] 736
noncomputable def xn:Obj:=FN "_law_written_right" "_law_written_right" (ah 35) 3 "law_tg0037_01" 599 411
noncomputable def Dg:Obj:=TU []
noncomputable def Df:Obj:=OF VN []
noncomputable def De:Obj:=GN "_law_bent" "_law_bent" (ah 36)
noncomputable def xl:Obj:=CO "_law_bent" "_law_bent" 739 287 2 0 3 413 true 414 [VN,VN,VN,VR 415] 742
noncomputable def xk:Obj:=FN "_law_bent" "_law_bent" (ah 36) 3 "law_tg0037_01" 599 416
noncomputable def Dd:Obj:=TU []
noncomputable def Dc:Obj:=OF VN []
noncomputable def xj:Obj:=TS 748 ["one","first","other","second","log","items","others","k","whole","bits","shared","both","gap"]
noncomputable def xi:Obj:=TU []
noncomputable def xh:Obj:=GN "_law_parts_right" "_law_parts_right" (ah 37)
noncomputable def tt:Obj:=CO "_law_parts_right" "_law_parts_right" 745 299 5 0 3 418 true 419 [VN,VR 420,VR 421,VR 422] 761
noncomputable def to:Obj:=FN "_law_parts_right" "_law_parts_right" (ah 37) 3 "law_tg0037_01" 599 423
noncomputable def Ao:List Obj:=[boot_o_0 P,boot_o_1 P,boot_o_2 P,Er P,boot_o_4 P,boot_o_5 P,boot_o_6 P,boot_o_7 P,boot_o_8 P,boot_o_9 P,boot_o_10 P,hb0,Ep,hb2,hb3,hb6,hb7,hb8,hb9,oK]
noncomputable def lP:List Obj:=[ty,xT,xS,xR,xQ,xP,tw,tu,En,Em,El,Ek,Ej,xO,xN,Ei,Eh,Eg,Ee,Ed]
noncomputable def lO:List Obj:=[xM,xL,Ec,Eb,Ea,D9,D8,xK,xJ,D6,D5,D4,D3,D2,xI,xH,D1,D0,DY,DX]
noncomputable def lN:List Obj:=[DW,xG,xF,DV,DU,DT,DS,DR,xE,xD,DP,DO,DN,DM,DL,xC,xB,DK,DH,DG]
noncomputable def lM:List Obj:=[DF,DD,xA,xz,DC,DB,DA,xy,xx,Dy,Dx,Dw,xw,xv,Dv,Du,Dt,Ds,Dq,xu]
noncomputable def lL:List Obj:=[xt,Dp,Do,Dn,Dm,Dl,xr,xq,Dj,Di,Dh,xo,xn,Dg,Df,De,xl,xk,Dd,Dc]
noncomputable def vS:List Obj:=[xj,xi,xh,tt,to]
noncomputable def oE:Heap:=⟨⟨Ao P++(fA P++(fz P++(fy P++(gw++(gv P++(gu++(gt++(jg P++(jf++(fZ++(fY++(ik P++(ij P++(ii P++(ig++(lP++(lO++(lN++(lM++(lL++(vS)))))))))))))))))))))⟩,(boot_heap P).life⟩
noncomputable def xg:Obj:=⟨(VT "dict"),none,.dict ⟨[DE P "__name__" 165 (VS "law_tg0037_01" 599),DE P "__doc__" 166 VN,DE P "__package__" 167 VN,DE P "__loader__" 168 (VX "__main__.__loader__#opaque"),DE P "__spec__" 169 VN,DE P "__annotations__" 170 (VR 6),DE P "__builtins__" 171 (VR 4),DE P "__file__" 173 (VS "/claim/cut.py" 172),DE P "__cached__" 174 VN,DE P "_wall" 193 (VR 21),DE P "PressError" 223 (VR 39),DE P "CutShort" 239 (VR 52),DE P "BadTable" 255 (VR 64),DE P "BadArgument" 271 (VR 76),DE P "need_count" 280 (VR 85),DE P "need_value" 288 (VR 92),DE P "end_of" 298 (VR 99),DE P "LowWriter" 384 (VR 165),DE P "Octets" 479 (VR 243),DE P "LEAST_LOG" 483 (VI (5) 482),DE P "MOST_LOG" 485 (VI (20) 484),DE P "places_of" 492 (VR 254),DE P "counts_fault" 498 (VR 259),DE P "CountBits" 559 (VR 297),DE P "read_counts" 565 (VR 306),DE P "write_upto" 576 (VR 313),DE P "write_run" 584 (VR 320),DE P "write_counts" 598 (VR 327),DE P "_law_box" 607 (VR 334),DE P "_law_take" 617 (VR 341),DE P "_law_drawn" 631 (VR 348),DE P "_law_row" 641 (VR 355),DE P "_law_items" 650 (VR 362),DE P "_law_word" 660 (VR 369),DE P "_law_told" 676 (VR 376),DE P "_law_walked" 693 (VR 383),DE P "_law_whole" 699 (VR 388),DE P "_law_octets" 705 (VR 393),DE P "_law_read" 717 (VR 400),DE P "_law_again_right" 732 (VR 407),DE P "_law_written_right" 738 (VR 412),DE P "_law_bent" 744 (VR 417),DE P "_law_parts_right" 763 (VR 424),DE P "_law_built_right" 781 (VR 431),DE P "_law_let_right" 798 (VR 438),DE P "_law_any_right" 804 (VR 443),DE P "law" 815 (VR 450)]⟩ 47,⟨[]⟩⟩
noncomputable def Db:Obj:=FL 0 [(1,20),(5,27),(10,48),(12,60),(14,72),(17,84),(20,91),(24,98),(29,105),(65,175),(102,253),(104,258),(112,265),(143,305),(158,312),(165,319),(170,326),(190,333),(192,340),(200,347),(211,354),(216,361),(224,368),(231,375),(239,382),(256,387),(258,392),(260,399),(269,406),(275,411),(287,416),(299,423),(311,430),(323,437),(330,442),(346,449)]
noncomputable def C9:Obj:=TU []
noncomputable def C8:Obj:=OF VN []
noncomputable def C7:Obj:=TS 767 ["box","items","log","whole","bits","row","spare","octets","most","told","again","other"]
noncomputable def C6:Obj:=TU []
noncomputable def C5:Obj:=GN "_law_built_right" "_law_built_right" (ah 38)
noncomputable def xf:Obj:=CO "_law_built_right" "_law_built_right" 764 311 3 0 3 425 true 426 [VN,VR 427,VR 428,VR 429] 779
noncomputable def xe:Obj:=FN "_law_built_right" "_law_built_right" (ah 38) 3 "law_tg0037_01" 599 430
noncomputable def C4:Obj:=TU []
noncomputable def C3:Obj:=OF VN []
noncomputable def C1:Obj:=TS 785 ["box","octets","told","most_log","most","counts","log","place","items","bits","again"]
noncomputable def C0:Obj:=TU []
noncomputable def CY:Obj:=GN "_law_let_right" "_law_let_right" (ah 39)
noncomputable def xd:Obj:=CO "_law_let_right" "_law_let_right" 782 323 5 0 3 432 true 433 [VN,VR 434,VR 435,VR 436] 796
noncomputable def xb:Obj:=FN "_law_let_right" "_law_let_right" (ah 39) 3 "law_tg0037_01" 599 437
noncomputable def CX:Obj:=TU []
noncomputable def CW:Obj:=OF VN []
noncomputable def CV:Obj:=GN "_law_any_right" "_law_any_right" (ah 40)
noncomputable def xa:Obj:=CO "_law_any_right" "_law_any_right" 799 330 1 0 3 439 true 440 [VN,VN,VN,VR 441] 802
noncomputable def w9:Obj:=FN "_law_any_right" "_law_any_right" (ah 40) 3 "law_tg0037_01" 599 442
noncomputable def CU:Obj:=TU []
noncomputable def CT:Obj:=OF VN []
noncomputable def CR:Obj:=TS 808 ["script","tiny","box","log","items"]
noncomputable def CQ:Obj:=TU []
noncomputable def CP:Obj:=GN "law" "law" (ah 41)
noncomputable def w8:Obj:=CO "law" "law" 805 346 1 0 3 444 true 445 [VN,VR 446,VR 447,VR 448] 813
noncomputable def w7:Obj:=FN "law" "law" (ah 41) 3 "law_tg0037_01" 599 449
noncomputable def tm:List Obj:=[boot_o_0 P,boot_o_1 P,boot_o_2 P,xg P,boot_o_4 P,boot_o_5 P,boot_o_6 P,boot_o_7 P,boot_o_8 P,boot_o_9 P,boot_o_10 P,hb0,Db,hb2,hb3,hb6,hb7,hb8,hb9,oK]
noncomputable def pP:List Obj:=[xj,xi,xh,tt,to,C9,C8,C7,C6,C5,xf,xe,C4,C3,C1,C0,CY,xd,xb,CX]
noncomputable def pO:List Obj:=[CW,CV,xa,w9,CU,CT,CR,CQ,CP,w8,w7]
noncomputable def oC:Heap:=⟨⟨tm P++(fA P++(fz P++(fy P++(gw++(gv P++(gu++(gt++(jg P++(jf++(fZ++(fY++(ik P++(ij P++(ii P++(ig++(lP++(lO++(lN++(lM++(lL++(pP++(pO))))))))))))))))))))))⟩,(boot_heap P).life⟩
noncomputable def bh:Heap:=⟨⟨tm P++(fA P++(fz P++(fy P++(gw++(gv P++(gu++(gt++(jg P++(jf++(fZ++(fY++(ik P++(ij P++(ii P++(ig++(lP++(lO++(lN++(lM++(lL++(pP++(pO))))))))))))))))))))))⟩,(boot_heap P).life⟩
noncomputable def KF (P:Params):Frag:=[(3,xg P),(20,AJ),(21,AI),(29,AH),(35,AG),(36,AF),(38,AE P),(39,CN),(51,AD P),(52,AC),(63,CM P),(64,CL),(75,CK P),(76,CJ),(84,AB),(85,AA),(91,Az),(92,Ay),(98,Cw),(99,Cv),(112,y2),(113,y1),(119,y0),(120,yZ),(126,yY),(127,yX),(133,yW),(134,yV),(140,yU),(141,yT),(147,yS),(148,yR),(154,yQ),(155,yP),(161,tF),(162,tE),(164,tD P),(165,tC),(177,yI),(183,yH),(184,yG),(190,yF),(191,yE),(197,yD),(198,yC),(204,yB),(205,yA),(211,yz),(212,yy),(218,yx),(219,yw),(225,yv),(226,yu),(232,yt),(233,yr),(239,yq),(240,tB),(242,tA P),(243,tz),(253,yj),(254,yi),(258,yh),(259,yg),(272,yf),(273,ye),(279,yd),(280,yb),(286,ya),(287,x9),(293,x8),(294,x7),(296,x6 P),(297,xZ),(305,xY),(306,xX),(312,xW),(313,xV),(319,xU),(320,ty),(326,tw),(327,tu),(333,xO),(334,xN),(340,xM),(341,xL),(347,xK),(348,xJ),(354,xI),(355,xH),(361,xG),(362,xF),(368,xE),(369,xD),(375,xC),(376,xB),(382,xA),(383,xz),(387,xy),(388,xx),(392,xw),(393,xv),(399,xu),(400,xt),(406,xr),(407,xq),(411,xo),(412,xn),(416,xl),(417,xk),(423,tt),(424,to),(430,xf),(431,xe),(437,xd),(438,xb),(442,xa),(443,w9),(449,w8),(450,w7)]
noncomputable def kAs:List Addr:=[3,20,21,29,35,36,38,39,51,52,63,64,75,76,84,85,91,92,98,99,112,113,119,120,126,127,133,134,140,141,147,148,154,155,161,162,164,165,177,183,184,190,191,197,198,204,205,211,212,218,219,225,226,232,233,239,240,242,243,253,254,258,259,272,273,279,280,286,287,293,294,296,297,305,306,312,313,319,320,326,327,333,334,340,341,347,348,354,355,361,362,368,369,375,376,382,383,387,388,392,393,399,400,406,407,411,412,416,417,423,424,430,431,437,438,442,443,449,450]
end
noncomputable def eH:Env:={scope:=pw.main.scope,locals:=mainNs,globals:=mainNs,cells:=[],code:= .ref 13,frame:=some 14}
noncomputable def hB:List Stmt:=behindTheImports pw
noncomputable abbrev hC:Code:= .body hB eH
noncomputable abbrev dO:Option Value:=some (.ref 6)
noncomputable abbrev hS (H:Params→Heap)(k:Nat)(w:World)(os:OsState):Shared:=⟨H w.params,⟨[]⟩,boot_drawn,k,os⟩
theorem Hs (w:World)(os:OsState):topGo treeTable pw w 11 dO 12 (hS boot_heap boot_toks w os) (topStub pw)=
  some (hS pQ 187 w os,⟨denote treeTable hC,hC,⟨0,0,0,0⟩,[topFrame ⟨0,0,0,0⟩]⟩):=by kernel_rfl
theorem Hu (w:World)(os:OsState):segRun treeTable pw w 11 dO 1 1 (hS pQ 187 w os) (blockOf hB eH hC ⟨0,0,0,0⟩ [topFrame ⟨0,0,0,0⟩])=
  some (.next,hS lQ 187 w os,hC,⟨0,0,0,0⟩):=by kernel_rfl
theorem I8 (w:World)(os:OsState):segRun treeTable pw w 11 dO 1 472 (hS lQ 187 w os) (piecesOf ((hB.drop 0).take 4) eH hC ⟨0,0,0,0⟩ [topFrame ⟨0,0,0,0⟩])=
  some (.next,hS oJ 240 w os,hC,⟨10,0,11,8⟩):=by kernel_rfl
theorem I7 (w:World)(os:OsState):segRun treeTable pw w 11 dO 1 495 (hS oJ 240 w os) (piecesOf ((hB.drop 4).take 5) eH hC ⟨10,0,11,8⟩ [topFrame ⟨0,0,0,0⟩])=
  some (.next,hS oI 289 w os,hC,⟨20,0,23,58⟩):=by kernel_rfl
theorem I6 (w:World)(os:OsState):segRun treeTable pw w 11 dO 1 480 (hS oI 289 w os) (piecesOf ((hB.drop 9).take 2) eH hC ⟨20,0,23,58⟩ [topFrame ⟨0,0,0,0⟩])=
  some (.next,hS oH 385 w os,hC,⟨29,0,64,45⟩):=by kernel_rfl
theorem I5 (w:World)(os:OsState):segRun treeTable pw w 11 dO 1 509 (hS oH 385 w os) (piecesOf ((hB.drop 11).take 4) eH hC ⟨29,0,64,45⟩ [topFrame ⟨0,0,0,0⟩])=
  some (.next,hS oG 486 w os,hC,⟨101,0,101,8⟩):=by kernel_rfl
theorem I4 (w:World)(os:OsState):segRun treeTable pw w 11 dO 1 516 (hS oG 486 w os) (piecesOf ((hB.drop 15).take 8) eH hC ⟨101,0,101,8⟩ [topFrame ⟨0,0,0,0⟩])=
  some (.next,hS oF 601 w os,hC,⟨189,0,189,8⟩):=by kernel_rfl
theorem I0 (w:World)(os:OsState):segRun treeTable pw w 11 dO 1 486 (hS oF 601 w os) (piecesOf ((hB.drop 23).take 15) eH hC ⟨189,0,189,8⟩ [topFrame ⟨0,0,0,0⟩])=
  some (.next,hS oE 764 w os,hC,⟨299,0,310,58⟩):=by kernel_rfl
theorem IZ (w:World)(os:OsState):segRun treeTable pw w 11 dO 1 139 (hS oE 764 w os) (piecesOf ((hB.drop 38).take 4) eH hC ⟨299,0,310,58⟩ [topFrame ⟨0,0,0,0⟩])=
  some (.next,hS oC 816 w os,hC,⟨346,0,351,83⟩):=by kernel_rfl
theorem Ht (w:World)(os:OsState):topRun treeTable pw w 11 dO 2 (hS oC 816 w os) ⟨doneF .next,hC,⟨346,0,351,83⟩,[topFrame ⟨0,0,0,0⟩]⟩=
  some (hS bh 816 w os):=by kernel_rfl
theorem db {tb:String→Option Builtin}{p:Program}{w:World}{n₀:Nat}{ann:Option Value}{env:Env}{q:Pos}{n N:Nat}{s s' r:Shared}{l:List Stmt}(a k:Nat){c:Code}{pos p':Pos}
  (h:segRun tb p w n₀ ann 1 n s (piecesOf ((l.drop a).take k) env c pos [topFrame q])=some (.next,s',c,p'))
  (hk:topRun tb p w n₀ ann N s' (restOf (l.drop (a+k)) env c p' [topFrame q])=some r):topRun tb p w n₀ ann (n+N) s (restOf (l.drop a) env c pos [topFrame q])=some r:=by
 have e:l.drop a=(l.drop a).take k++l.drop (a+k):=by rw[← List.drop_drop,List.take_append_drop]
 rw[e]
 exact piece_app h hk
theorem AV:hB.drop 42=[]:=by kernel_rfl
theorem AL (w:World)(os:OsState):topRun treeTable pw w 11 dO 2 (hS oC 816 w os) (restOf (hB.drop 42) eH hC ⟨346,0,351,83⟩ [topFrame ⟨0,0,0,0⟩])=some (hS bh 816 w os):=by
 rw[AV];exact piece_nil (Ht w os)
theorem AM (w:World)(os:OsState):topRun treeTable pw w 11 dO 141 (hS oE 764 w os) (restOf (hB.drop 38) eH hC ⟨299,0,310,58⟩ [topFrame ⟨0,0,0,0⟩])=some (hS bh 816 w os):=
 db 38 4 (n:=139) (N:=2) (IZ w os) (AL w os)
theorem AN (w:World)(os:OsState):topRun treeTable pw w 11 dO 627 (hS oF 601 w os) (restOf (hB.drop 23) eH hC ⟨189,0,189,8⟩ [topFrame ⟨0,0,0,0⟩])=some (hS bh 816 w os):=
 db 23 15 (n:=486) (N:=141) (I0 w os) (AM w os)
theorem AO (w:World)(os:OsState):topRun treeTable pw w 11 dO 1143 (hS oG 486 w os) (restOf (hB.drop 15) eH hC ⟨101,0,101,8⟩ [topFrame ⟨0,0,0,0⟩])=some (hS bh 816 w os):=
 db 15 8 (n:=516) (N:=627) (I4 w os) (AN w os)
theorem AP (w:World)(os:OsState):topRun treeTable pw w 11 dO 1652 (hS oH 385 w os) (restOf (hB.drop 11) eH hC ⟨29,0,64,45⟩ [topFrame ⟨0,0,0,0⟩])=some (hS bh 816 w os):=
 db 11 4 (n:=509) (N:=1143) (I5 w os) (AO w os)
theorem AQ (w:World)(os:OsState):topRun treeTable pw w 11 dO 2132 (hS oI 289 w os) (restOf (hB.drop 9) eH hC ⟨20,0,23,58⟩ [topFrame ⟨0,0,0,0⟩])=some (hS bh 816 w os):=
 db 9 2 (n:=480) (N:=1652) (I6 w os) (AP w os)
theorem AR (w:World)(os:OsState):topRun treeTable pw w 11 dO 2627 (hS oJ 240 w os) (restOf (hB.drop 4) eH hC ⟨10,0,11,8⟩ [topFrame ⟨0,0,0,0⟩])=some (hS bh 816 w os):=
 db 4 5 (n:=495) (N:=2132) (I7 w os) (AQ w os)
theorem AS (w:World)(os:OsState):topRun treeTable pw w 11 dO 3099 (hS lQ 187 w os) (restOf (hB.drop 0) eH hC ⟨0,0,0,0⟩ [topFrame ⟨0,0,0,0⟩])=some (hS bh 816 w os):=
 db 0 4 (n:=472) (N:=2627) (I8 w os) (AR w os)
theorem Hr (w:World)(os:OsState):topRun treeTable pw w 11 dO 3112 (hS boot_heap boot_toks w os) (topStub pw)=some (hS bh 816 w os):=
 go_top (n:=12) (N:=3100) (Hs w os) (piece_block (n:=1) (N:=3099) (Hu w os) (AS w os))
theorem AT:∀w:World,(fencedOpening treeTable pw w 3112).map (fun s=>(s.heap,s.gens,s.drawn,s.toks))=some (boot_heap w.params,⟨[]⟩,boot_drawn,boot_toks):=
 boot_open (by kernel_rfl) (by decide) (fun s=>by kernel_rfl)
theorem AK (w:World):((boot_heap w.params).isNs mainGlobals&&(⟨[]⟩:Array GenState).size==0,(boot_heap w.params).objs.size,(boot_heap w.params).nsMap mainGlobals "__annotations__")=(true,11,dO):=by kernel_rfl
end
section
open PySem
inductive MV where
 |undef
 |none
 |bool (b:Bool)
 |int (i:Int)
 |str (s:Str)
 |bytes (b:List UInt8)
 |tup (l:List MV)
 |list (l:List MV)
 |ref (id:Nat)
 |glob (x:Str)
 deriving Inhabited
inductive MO where
 |list (l:List MV)
 |inst (C:Str) (fields:List (Str × MV))
 |barr (b:List UInt8)
 deriving Inhabited
noncomputable abbrev aa:=List MO
noncomputable abbrev Loc:=List (Str × MV)
noncomputable abbrev aV:=List (Str × NameKind)
inductive R (α:Type) where
 |ok (a:α) (σ:aa)
 |ex (c:Str) (σ:aa)
inductive MF where
 |next
 |ret (v:MV)
noncomputable def ai:Nat:=1048576
noncomputable def kE {α:Type}(a:Option α)(b:Option (List α)):Option (List α):=match a,b with
 |some x,some l=>some (x::l)
 |_,_=>none
mutual
noncomputable def er:MV→Option PyData
 | .none=>some .none
 | .bool b=>some (.bool b)
 | .int i=>some (.int i)
 | .str s=>some (.str s)
 | .list l=>(toPys l).map .list
 | .tup l=>(toPys l).map .tuple
 | .undef| .bytes _| .ref _| .glob _=>none
noncomputable def toPys:List MV→Option (List PyData)
 |[]=>some []
 |a::r=>kE (er a) (toPys r)
end
noncomputable def oj (a b:MV):Option Bool:=match a,b with
 | .bytes x,.bytes y=>some (x==y)
 |_,_=>none
noncomputable def qP (a b:Option PyData):Option Bool:=match a,b with
 |some x,some y=>if x.canLay0=true∧y.canLay0=true∧x.depth≤8 then some (PyData.eqv x y)else none
 |_,_=>none
noncomputable def meq (a b:MV):Option Bool:=(oj a b).elim (qP (er a) (er b)) some
noncomputable def asL (id:Nat):MO→MV
 | .list l=>.list l
 |_=>.ref id
noncomputable def aG (σ:aa):MV→MV
 | .ref id=>(σ[id]?).elim (.ref id) (asL id)
 |v=>v
noncomputable def Jd (σ:aa)(v:MV):Option (List MV):=match aG σ v with
 | .list l=>some l
 |_=>none
noncomputable def bq:List MV→Option (List Int)
 |[]=>some []
 | .int i::r=>(bq r).map (i::·)
 |_=>none
noncomputable def qN (op:Operator)(x y:Int):Option MV:=match op with
 | .Add=>some (.int (x+y))
 | .Sub=>some (.int (x-y))
 | .Mult=>if x.natAbs<2^64∨y.natAbs<2^64 then some (.int (x*y))else none
 | .FloorDiv=>if y≠0∧y.natAbs.log2<9000 then some (.int (x.fdiv y))else none
 | .Mod=>if y≠0 then some (.int (x.fmod y))else none
 | .Pow=>if 0≤y∧y≤1000000∧x.natAbs<2^64 then some (.int (x^y.toNat))else none
 | .LShift=>if 0≤y∧y≤1000000∧x.natAbs<2^64 then some (.int (x*2^y.toNat))else none
 | .RShift=>if 0≤y then some (.int (x.fdiv (2^y.toNat)))else none
 | .BitAnd=>some (.int (Builtin.bitAnd x y))
 | .BitOr=>some (.int (Builtin.bitOr x y))
 |_=>none
noncomputable def BP (n:Int)(o:Option (List Int)):Option MV:=match o with
 |some ns=>some (.list ((List.replicate n.toNat ns).flatten.map .int))
 |none=>none
noncomputable def wO (op:Operator)(a b:MV):Option MV:=match a,b with
 | .int x,.int y=>qN op x y
 | .bytes x,.bytes y=>match op with
  | .Add=>if x.length+y.length≤ai then some (.bytes (x++y))else none
  |_=>none
 | .list x,.list y=>match op with
  | .Add=>if x.length+y.length≤ai then some (.list (x++y))else none
  |_=>none
 | .list x,.int n=>match op with
  | .Mult=>if x.length*n.toNat≤ai∧ -1048577<n∧n<1048577 then BP n (bq x)else none
  |_=>none
 |_,_=>none
noncomputable def gm (σ:aa)(op:Operator)(a b:MV):Option MV:=wO op (aG σ a) (aG σ b)
noncomputable def tU (f:Int→Int→Bool)(a b:MV):Option Bool:=match a,b with
 | .int x,.int y=>some (f x y)
 |_,_=>none
noncomputable def sI:MV→Option Bool
 | .undef=>none
 | .glob _=>none
 | .none=>some true
 |_=>some false
noncomputable def isQ (a b:MV):Option Bool:=match b with
 | .none=>sI a
 |_=>none
noncomputable def de (σ:aa)(op:CmpOp)(a b:MV):Option Bool:=match op with
 | .Lt=>tU (fun x y=>decide (x<y)) a b
 | .LtE=>tU (fun x y=>decide (x≤y)) a b
 | .Gt=>tU (fun x y=>decide (y<x)) a b
 | .GtE=>tU (fun x y=>decide (y≤x)) a b
 | .Is=>isQ a b
 | .IsNot=>(isQ a b).map (!·)
 | .Eq=>meq (aG σ a) (aG σ b)
 | .NotEq=>(meq (aG σ a) (aG σ b)).map (!·)
 |_=>none
noncomputable def mun (op:UnaryOp)(a:MV):Option MV:=match op,a with
 | .USub,.int x=>some (.int (-x))
 | .Not,.bool b=>some (.bool (!b))
 |_,_=>none
noncomputable def cB:MV→Option Bool
 | .bool b=>some b
 | .int i=>some (i != 0)
 |_=>none
noncomputable def bg (n:Nat)(k:Int):Option Nat:=
 if 0≤k then(if k.toNat<n then some k.toNat else none)else(if(-k).toNat≤n then some (n-(-k).toNat)else none)
noncomputable def br (n:Nat)(k:Int):Nat:=if 0≤k then min k.toNat n else n-min (-k).toNat n
noncomputable def th (k:Int):MV→Option MV
 | .list l=>(bg l.length k).bind fun j=>l[j]?
 | .tup l=>(bg l.length k).bind fun j=>l[j]?
 | .bytes b=>(bg b.length k).bind fun j=>(b[j]?).map fun x=>.int (x.toNat:Int)
 |_=>none
noncomputable def eD (σ:aa)(o i:MV):Option MV:=match i with
 | .int k=>th k (aG σ o)
 |_=>none
noncomputable def lU:MV→Option (Option Int)
 | .none=>some none
 | .int k=>some (some k)
 |_=>none
noncomputable def cut {α:Type}(l:List α)(lo hi:Option Int):List α:=
 (l.drop (lo.elim 0 (br l.length))).take (hi.elim l.length (br l.length)-lo.elim 0 (br l.length))
noncomputable def zM (lo hi:Option Int):MV→Option MV
 | .list l=>some (.list (cut l lo hi))
 | .bytes b=>some (.bytes (cut b lo hi))
 |_=>none
noncomputable def H5:MV→Option MV
 | .list l=>some (.list l.reverse)
 |_=>none
noncomputable def isN:MV→Bool
 | .none=>true
 |_=>false
noncomputable def oh (σ:aa)(o lo hi st:MV):Option MV:=match st with
 | .none=>(lU lo).bind fun lo=>(lU hi).bind fun hi=>zM lo hi (aG σ o)
 | .int k=>if k= -1∧isN lo=true∧isN hi=true then H5 (aG σ o)else none
 |_=>none
noncomputable def om:Const→Option MV
 | .none=>some .none
 | .bool b=>some (.bool b)
 | .int i=>some (.int i)
 | .str s=>some (.str s)
 |_=>none
noncomputable def dP (x:Str):Option Int:=if x==("LEAST_LOG":Str)then some 5 else if x==("MOST_LOG":Str)then some 20 else none
noncomputable def py (x:Str):MV:=(dP x).elim (.glob x) .int
noncomputable def cV:List Str:=(["need_count","need_value","end_of","places_of","counts_fault","read_counts","write_upto","write_run","write_counts",
 "_law_box","_law_take","_law_drawn","_law_row","_law_items","_law_word","_law_told","_law_walked","_law_whole","_law_octets","_law_read","_law_again_right",
 "_law_written_right","_law_bent","_law_parts_right","_law_built_right","_law_let_right","_law_any_right","LEAST_LOG","MOST_LOG","LowWriter","Octets","CountBits",
 "len","int","abs","max","min","sum","isinstance","bytearray","bytes","bool","range","enumerate"]:List String).map Str.ofString
noncomputable def mD:MV→Bool
 | .undef=>false
 |_=>true
noncomputable def cP (sc:aV)(ρ:Loc)(x:Str):Option MV:=(ρ.lookup x).elim (if sc.lookup x==some .globalImplicit&&cV.contains x then some (py x)else none)
 fun v=>if mD v&&((sc.lookup x).isSome&&x != ("__debug__":Str))then some v else none
noncomputable def n6 (ρ:Loc)(x:Str)(v:MV):Option Loc:=match ρ with
 |[]=>none
 |(y,w)::r=>if y==x then some ((y,v)::r)else(n6 r x v).map ((y,w)::·)
noncomputable def dZ (sc:aV)(ρ:Loc)(x:Str)(v:MV):Option Loc:=if sc.lookup x==some .local then n6 ρ x v else none
noncomputable def jO (fs:List (Str × MV))(x:Str):Option MV:=fs.lookup x
noncomputable def fO (fs:List (Str × MV))(x:Str)(v:MV):List (Str × MV):=match fs with
 |[]=>[(x,v)]
 |(y,w)::r=>if y==x then(y,v)::r else(y,w)::fO r x v
noncomputable def bw:List (Str × (Arguments × List Stmt × Scope)):=[
 (.ofString "need_count",ah 7),(.ofString "need_value",ah 8),(.ofString "end_of",ah 9),
 (.ofString "places_of",ah 15),(.ofString "counts_fault",ah 16),(.ofString "read_counts",ah 18),
 (.ofString "write_upto",ah 19),(.ofString "write_run",ah 20),(.ofString "write_counts",ah 21),
 (.ofString "_law_box",ah 23),(.ofString "_law_take",ah 24),(.ofString "_law_drawn",ah 25),(.ofString "_law_row",ah 26),
 (.ofString "_law_items",ah 27),(.ofString "_law_word",ah 28),(.ofString "_law_told",ah 29),(.ofString "_law_walked",ah 30),
 (.ofString "_law_whole",ah 31),(.ofString "_law_octets",ah 32),(.ofString "_law_read",ah 33),(.ofString "_law_again_right",ah 34),
 (.ofString "_law_written_right",ah 35),(.ofString "_law_bent",ah 36),(.ofString "_law_parts_right",ah 37),(.ofString "_law_built_right",ah 38),
 (.ofString "_law_let_right",ah 39),(.ofString "_law_any_right",ah 40),(.ofString "law",ah 41)]
noncomputable def aU:List ((Str × Str) × (Arguments × List Stmt × Scope)):=[
 ((.ofString "LowWriter",.ofString "__init__"),al 10 0),((.ofString "LowWriter",.ofString "bits"),al 10 1),((.ofString "LowWriter",.ofString "done"),al 10 7),
 ((.ofString "Octets",.ofString "__init__"),al 11 0),((.ofString "Octets",.ofString "left"),al 11 1),((.ofString "Octets",.ofString "take"),al 11 3),((.ofString "Octets",.ofString "octet"),al 11 5),
 ((.ofString "CountBits",.ofString "__init__"),al 17 0),((.ofString "CountBits",.ofString "take"),al 17 1),((.ofString "CountBits",.ofString "upto"),al 17 2),((.ofString "CountBits",.ofString "run"),al 17 3)]
noncomputable def wb (e:PySem.Expr):Option MV:=el3 (view e).const none fun c _ _=>om c
noncomputable def jn:List PySem.Expr→Option (List MV)
 |[]=>some []
 |e::r=>kE (wb e) (jn r)
noncomputable def d7 (names:aV)(ps:Loc):Loc:=names.filterMap fun(x,k)=>
 if(k== .local||k== .cell)&&(ps.lookup x).isNone then some (x,.undef)else none
noncomputable def pT (sc:Scope)(ps:Loc):Loc:=ps++d7 sc.names ps
noncomputable def aD (A:Arguments)(sc:Scope)(args:List MV):Option Loc:=
 if A.defaults.isEmpty then(if args.length=A.args.length then some (pT sc ((A.args.map (·.arg)).zip args))else none)
 else match args with
  |[x,y]=>match jn A.defaults with
   |some [d2,d3]=>some (pT sc ((A.args.map (·.arg)).zip [x,y,d2,d3]))
   |_=>none
  |_=>none
noncomputable def bd (f:Str):Bool:=f==("_law_box":Str)
mutual
noncomputable def aL:MV→Bool
 | .undef=>false
 | .ref _=>false
 | .tup l=>noRefs l
 | .list _=>true
 | .none| .bool _| .int _| .str _| .bytes _| .glob _=>true
noncomputable def noRefs:List MV→Bool
 |[]=>true
 |v::r=>aL v&&noRefs r
end
noncomputable def dC:MV→Bool
 | .ref _=>true
 |v=>aL v
noncomputable def aW:List MV→Bool
 |[]=>true
 |v::r=>dC v&&aW r
noncomputable def BC:MO→Option MV
 | .list l=>some (.list l)
 |_=>none
noncomputable def qm (σ:aa)(n:Nat)(v:MV):Option MV:=match v with
 | .ref id=>if id<n then some (.ref id)else(σ[id]?).bind BC
 |v=>if aL v=true then some v else none
noncomputable def j0 (σ:aa)(n:Nat):List MV→Option (List MV)
 |[]=>some []
 |v::r=>kE (qm σ n v) (j0 σ n r)
noncomputable def lu (σ:aa)(n:Nat)(v:MV):Option MV:=match v with
 | .tup l=>(j0 σ n l).map .tup
 |v=>qm σ n v
noncomputable def cu (x:Str):Bool:=x==("LowWriter":Str)||x==("Octets":Str)||x==("CountBits":Str)
noncomputable def cG:List Int→Option (List UInt8)
 |[]=>some []
 |i::r=>if 0≤i∧i<256 then(cG r).map (UInt8.ofNat i.toNat::·)else none
noncomputable def eM (x:Int):Nat:=if x=0 then 0 else x.natAbs.log2+1
noncomputable def wT:MV→Option Int
 | .list l=>some l.length
 | .bytes b=>some b.length
 |_=>none
noncomputable def w6:MV→Option Int
 | .int i=>some i
 | .bool b=>some (if b then 1 else 0)
 |_=>none
noncomputable def bQ:MV→Option Int
 | .int i=>some i
 |_=>none
noncomputable def nE:MV→Option (List MV)
 | .list l=>some l
 |_=>none
noncomputable def kD:MV→Option Str
 | .glob x=>some x
 |_=>none
noncomputable def An (f:Int→Int→Int)(a b:MV):Option MV:=(bQ a).bind fun x=>(bQ b).map fun y=>.int (f x y)
noncomputable def Cu (a b:MV):Option MV:=(bQ a).bind fun _=>(kD b).bind fun t=>if t==("int":Str)then some (.bool true)else if t==("bool":Str)then some (.bool false)else none
noncomputable def js (l:List MV):Option MV:=if l.length≤ai then((bq l).bind cG).map .bytes else none
noncomputable def Bf:MO→Option MV
 | .barr b=>some (.bytes b)
 | .list l=>js l
 |_=>none
noncomputable def tZ (σ:aa):MV→Option MV
 | .bytes b=>some (.bytes b)
 | .ref id=>(σ[id]?).bind Bf
 | .list l=>js l
 |_=>none
noncomputable def mb1 (σ:aa)(f:Str)(x:MV):Option MV:=
 if f==("len":Str)then(wT (aG σ x)).map .int
 else if f==("int":Str)then(w6 x).map .int
 else if f==("abs":Str)then(bQ x).map fun i=>.int i.natAbs
 else if f==("sum":Str)then((nE (aG σ x)).bind bq).map fun is=>.int is.sum
 else if f==("bytes":Str)then tZ σ x
 else none
noncomputable def mb2 (f:Str)(x y:MV):Option MV:=
 if f==("max":Str)then An (fun a b=>if a<b then b else a) x y
 else if f==("min":Str)then An (fun a b=>if b<a then b else a) x y
 else if f==("isinstance":Str)then Cu x y
 else none
noncomputable def mbA (σ:aa)(f:Str)(args:List MV):Option MV:=match args with
 |[x]=>mb1 σ f x
 |[x,y]=>mb2 f x y
 |_=>none
noncomputable def bV (σ:aa)(f:Str)(args:List MV):Option (MV × aa):=(mbA σ f args).map fun v=>(v,σ)
noncomputable def di:List (Str × List Str):=[(.ofString "LowWriter",[.ofString "made",.ofString "held",.ofString "held_bits"]),(.ofString "Octets",[.ofString "data",.ofString "stop",.ofString "place"]),(.ofString "CountBits",[.ofString "cursor",.ofString "stock",.ofString "have"])]
noncomputable def eT (C name:Str):Bool:=(di.lookup C).elim false (·.contains name)
noncomputable def jy:MV→Option Nat
 | .ref i=>some i
 |_=>none
noncomputable def fF:MO→Option (Str × List (Str × MV))
 | .inst C fs=>some (C,fs)
 |_=>none
noncomputable def p4:MO→Option (List MV)
 | .list l=>some l
 |_=>none
noncomputable def pK:MV→Bool
 | .glob _=>true
 |_=>false
noncomputable def pv (v:MV):Option MV:=if pK v then none else some v
noncomputable def dL (σ:aa)(o:MV)(name:Str):Option MV:=(jy o).bind fun id=>(σ[id]?).bind fun ob=>(fF ob).bind fun p=>if eT p.1 name then(jO p.2 name).bind pv else none
noncomputable def mN (b id:Nat)(v:MV):Bool:=match v with
 | .ref j=>decide (j<id)||decide (b≤id)
 |v=>aL v
noncomputable def cj (b:Nat)(σ:aa)(o:MV)(name:Str)(v:MV):Option aa:=(jy o).bind fun id=>(σ[id]?).bind fun ob=>(fF ob).bind fun p=>
 if mN b id v&&eT p.1 name&&(fO p.2 name v).length≤1000 then some (σ.set id (.inst p.1 (fO p.2 name v)))else none
noncomputable def dK (σ:aa)(o i v:MV):Option aa:=(jy o).bind fun id=>(bQ i).bind fun k=>(σ[id]?).bind fun ob=>(p4 ob).bind fun l=>
 if aL v then(bg l.length k).map fun j=>σ.set id (.list (l.set j v))else none
noncomputable def zT (n:Int):Option (List MV):=if -1048576≤n∧n≤1048576 then some ((List.range n.toNat).map fun(k:Nat)=>.int (k:Int))else none
noncomputable def zS (a b c:Int):Option (List MV):=if c= -1∧ -1048576≤a∧a≤1048576∧ -1048576≤b∧b≤1048576 then some ((List.range (a-b).toNat).map fun(k:Nat)=>.int (a-(k:Int)))else none
noncomputable def bG (args:List MV):Option (List MV):=match args with
 |[x]=>(bQ x).bind zT
 |[x,y,z]=>(bQ x).bind fun a=>(bQ y).bind fun b=>(bQ z).bind fun c=>zS a b c
 |_=>none
noncomputable def gy (b:List UInt8):List MV:=b.zipIdx.map fun(x,k)=>.tup [.int (k:Int),.int (x.toNat:Int)]
noncomputable def eN:MV→Option (List MV)
 | .tup l=>some l
 |_=>none
noncomputable def au (sc:aV):List PySem.Expr→List MV→Loc→Option Loc
 |[],[],ρ=>some ρ
 |t::ts,v::vs,ρ=>el2 (view t).name none fun x _=>(dZ sc ρ x v).bind (au sc ts vs)
 |_,_,_=>none
noncomputable def eg (sc:aV)(ρ:Loc)(t:PySem.Expr)(v:MV):Option Loc:=el2 (view t).name (el3 (view t).tup none fun ts _ _=>(eN v).bind fun vs=>au sc ts vs ρ)
 fun x _=>(eN v).elim (dZ sc ρ x v) fun _=>none
noncomputable def cD (e:PySem.Expr):Bool:=(view e).kind==1
noncomputable def kg (e:PySem.Expr):Bool:=(view e).kind==2
noncomputable def bT (e:PySem.Expr):Bool:=(view e).kind==3
noncomputable def w5 (e:PySem.Expr):Bool:=el2 (view e).name false fun n _=>n== .ofString "box"
noncomputable def b5 (e:PySem.Expr):Bool:=(view e).call.isNone
noncomputable def eC (sc:aV)(ln:Nat)(t:PySem.Expr):Option Str:=swappedStores.match_8 (fun _=>Option Str) t (fun id pos=>if(sc.lookup id==some .local&&pos.line==ln)=true then some id else none) fun _=>none
noncomputable def eu (sc:aV)(ts vs:List PySem.Expr):Option Bool:=
 if(!(ts.length==2||ts.length==3)||vs.length != ts.length)=true then some false
 else if(vs.any fun x=>swappedStores.match_5 (fun _=>Bool) x (fun _ _=>true) fun _=>false)=true then some false
 else if((ts.filterMap (eC sc ((ts.head?.map (·.pos.line)).getD 0))).length != ts.length||(ts.filterMap (eC sc ((ts.head?.map (·.pos.line)).getD 0))).eraseDups.length != (ts.filterMap (eC sc ((ts.head?.map (·.pos.line)).getD 0))).length)=true then some false
 else if vs.all (foldedForSure 8)=true then some false
 else if vs.all (constantsAlone 8)=true then none else some true
noncomputable def noStar (es:List PySem.Expr):Bool:=es.all fun e=>!cD e
noncomputable def gr (sc:aV)(ρ:Loc)(x:Str):Bool:=sc.lookup x==some .globalImplicit&&(ρ.lookup x).isNone
noncomputable def b9 (sc:Scope):Loc:=sc.names.filterMap fun(x,k)=>if k== .local then some (x,.undef)else none
noncomputable def tI (sc:aV)(ρ:Loc)(x:Str):Bool:=(sc.lookup x==some .cell||sc.lookup x==some .free)&&(x != ("__classdict__":Str)&&(ρ.lookup x).elim false mD)
noncomputable def s7 (sc:aV)(ρ:Loc)(x:Str):NameKind→Bool
 | .local=>true
 | .free=>tI sc ρ x
 | .globalImplicit=>(ρ.lookup x).isNone
 |_=>false
noncomputable def oU (sc:aV)(ρ:Loc)(scope:Scope):Bool:=scope.kind== .function&&scope.names.all fun p=>scope.names.lookup p.1==some p.2&&s7 sc ρ p.1 p.2
noncomputable def bF (sc:aV)(names:aV):aV:=names.map fun(n,k)=>if k== .free&&sc.lookup n==some .cell then(n,.cell)else(n,k)
end
section
noncomputable abbrev Led:=List (Addr × Obj)
noncomputable def bJ (P:Params)(x:Str)(v:Value):Prop:=
 nsIn (KF P) mainGlobals x=some (some v)∨(nsIn (KF P) mainGlobals x=some none∧x≠"__name__"∧bootBuiltins x=some v)
noncomputable def nG (B:Heap)(imm:Led)(a:Addr)(o:Obj):Prop:=(a,o)∈imm∨B.get? a=some o
mutual
noncomputable def Sv (P:Params)(B:Heap)(imm:Led):MV→Value→Prop
 | .undef,_=>False
 | .ref _,_=>False
 | .none,v=>v= .none
 | .bool b,v=>v= .bool b
 | .int i,v=>∃t,v= .int i t
 | .str x,v=>∃t,v= .str x t
 | .bytes b,v=>b.length≤sizeLine∧∃t,v= .bytes b.toArray t
 | .glob x,v=>bJ P x v
 | .tup l,v=>∃a vs o n,v= .ref a∧nG B imm a o∧o.cls= .type "tuple"∧o.data= .seq (List.toArray vs) n∧l.length≤sizeLine∧Svs P B imm l vs
 | .list l,v=>∃a vs o n,v= .ref a∧nG B imm a o∧o.cls= .type "list"∧o.data= .seq (List.toArray vs) n∧l.length≤sizeLine∧Svs P B imm l vs
noncomputable def Svs (P:Params)(B:Heap)(imm:Led):List MV→List Value→Prop
 |[],vs=>vs=[]
 |x::l,vs=>∃v r,vs=v::r∧Sv P B imm x v∧Svs P B imm l r
end
noncomputable def Rv1 (P:Params)(B:Heap)(φ:List Addr)(imm:Led)(x:MV)(v:Value):Prop:=match x with
 | .ref id=>∃a,φ[id]?=some a∧v= .ref a
 |x=>Sv P B imm x v
noncomputable def dk (P:Params)(B:Heap)(φ:List Addr)(imm:Led):List MV→List Value→Prop
 |[],vs=>vs=[]
 |x::l,vs=>∃v r,vs=v::r∧Rv1 P B φ imm x v∧dk P B φ imm l r
noncomputable def Rv (P:Params)(B:Heap)(φ:List Addr)(imm:Led)(x:MV)(v:Value):Prop:=match x with
 | .tup l=>∃a vs o n,v= .ref a∧nG B imm a o∧o.cls= .type "tuple"∧o.data= .seq (List.toArray vs) n∧l.length≤sizeLine∧dk P B φ imm l vs
 |x=>Rv1 P B φ imm x v
noncomputable def Rvl (P:Params)(B:Heap)(φ:List Addr)(imm:Led):List MV→List Value→Prop
 |[],vs=>vs=[]
 |x::l,vs=>∃v r,vs=v::r∧Rv P B φ imm x v∧Rvl P B φ imm l r
theorem bz {a b:Bool}(h:(a&&b)=true):a=true:=((Bool.and_eq_true a b).mp h).1
theorem a9 {a b:Bool}(h:(a&&b)=true):b=true:=((Bool.and_eq_true a b).mp h).2
theorem nG.mono {B:Heap}{imm imm':Led}(h:∀p∈imm,p∈imm'){a:Addr}{o:Obj}(x:nG B imm a o):nG B imm' a o:=x.imp (h _) id
mutual
theorem Sv.mono {P:Params}{B:Heap}{imm imm':Led}(h:∀p∈imm,p∈imm'):∀(x:MV) (v:Value),Sv P B imm x v→Sv P B imm' x v
 | .undef,_,e=>e| .ref _,_,e=>e| .none,_,e=>e| .bool _,_,e=>e| .int _,_,e=>e| .str _,_,e=>e| .bytes _,_,e=>e| .glob _,_,e=>e
 | .tup l,v,e=>by
  refine Jv e ?_;clear e;intro a vs o n e1 e2 e3 e4 ez e5
  exact JC a vs o n e1 (e2.mono h) e3 e4 ez (Svs.mono h l vs e5)
 | .list l,v,e=>by
  refine Jv e ?_;clear e;intro a vs o n e1 e2 e3 e4 ez e5
  exact JC a vs o n e1 (e2.mono h) e3 e4 ez (Svs.mono h l vs e5)
theorem Svs.mono {P:Params}{B:Heap}{imm imm':Led}(h:∀p∈imm,p∈imm'):∀(l:List MV) (vs:List Value),Svs P B imm l vs→Svs P B imm' l vs
 |[],_,e=>e
 |x::l,vs,e=>by
  refine Jj e ?_;clear e;intro v r e1 e2 e3
  exact Jp v r e1 (Sv.mono h x v e2) (Svs.mono h l r e3)
end
theorem Rv1.mono {P:Params}{B:Heap}{φ φ':List Addr}{imm imm':Led}(hφ:φ<+:φ')(h:∀p∈imm,p∈imm'){x:MV}{v:Value}(e:Rv1 P B φ imm x v):Rv1 P B φ' imm' x v:=by
 cases x with
 |ref id=>
  refine tr e ?_;clear e;intro a e1 e2
  refine Jf hφ ?_;clear hφ;intro t κ;subst κ
  refine Jl a ?_ e2
  refine Kh (List.getElem?_append_left (List.getElem?_eq_some_iff.mp e1).1)▸?_;exact e1
 |_=>exact Sv.mono h _ v e
theorem dk.mono {P:Params}{B:Heap}{φ φ':List Addr}{imm imm':Led}(hφ:φ<+:φ')(h:∀p∈imm,p∈imm'):∀{l:List MV}{vs:List Value},dk P B φ imm l vs→dk P B φ' imm' l vs
 |[],_,e=>e
 |_::_,_,e=>by
  refine Jj e ?_;clear e;intro v r e1 e2 e3
  exact Jp v r e1 (e2.mono hφ h) (dk.mono hφ h e3)
theorem Rv.one {P:Params}{B:Heap}{φ:List Addr}{imm:Led}{x:MV}{v:Value}(hx:∀l,x≠.tup l)(e:Rv P B φ imm x v):Rv1 P B φ imm x v:=by
 cases x<;>first|exact e|exact absurd rfl (hx _)
theorem Rv1.up {P:Params}{B:Heap}{φ:List Addr}{imm:Led}{x:MV}{v:Value}(hx:∀l,x≠.tup l)(e:Rv1 P B φ imm x v):Rv P B φ imm x v:=by
 cases x<;>first|exact e|exact absurd rfl (hx _)
theorem Rv.mono {P:Params}{B:Heap}{φ φ':List Addr}{imm imm':Led}(hφ:φ<+:φ')(h:∀p∈imm,p∈imm'){x:MV}{v:Value}(e:Rv P B φ imm x v):Rv P B φ' imm' x v:=by
 cases x with
 |tup l=>
  refine Jv e ?_;clear e;intro a vs o n e1 e2 e3 e4 ez e5
  exact JC a vs o n e1 (e2.mono h) e3 e4 ez (e5.mono hφ h)
 |_=>exact Rv1.up (by intro _ q;cases q) ((Rv.one (by intro _ q;cases q) e).mono hφ h)
theorem Rvl.mono {P:Params}{B:Heap}{φ φ':List Addr}{imm imm':Led}(hφ:φ<+:φ')(h:∀p∈imm,p∈imm'):∀{l:List MV}{vs:List Value},Rvl P B φ imm l vs→Rvl P B φ' imm' l vs
 |[],_,e=>e
 |_::_,_,e=>by
  refine Jj e ?_;clear e;intro v r e1 e2 e3
  exact Jp v r e1 (e2.mono hφ h) (Rvl.mono hφ h e3)
theorem Sv.toRv1 {P:Params}{B:Heap}{φ:List Addr}{imm:Led}{x:MV}{v:Value}(e:Sv P B imm x v):Rv1 P B φ imm x v:=by
 cases x with
 |ref id=>exact False.elim e
 |_=>exact e
theorem Svs.toRv1s {P:Params}{B:Heap}{φ:List Addr}{imm:Led}:∀{l:List MV}{vs:List Value},Svs P B imm l vs→dk P B φ imm l vs
 |[],_,e=>e
 |_::_,_,e=>by
  refine Jj e ?_;clear e;intro v r e1 e2 e3
  exact Jp v r e1 e2.toRv1 e3.toRv1s
theorem Sv.toRv {P:Params}{B:Heap}{φ:List Addr}{imm:Led}{x:MV}{v:Value}(e:Sv P B imm x v):Rv P B φ imm x v:=by
 cases x with
 |tup l=>
  refine Jv e ?_;clear e;intro a vs o n e1 e2 e3 e4 ez e5
  exact JC a vs o n e1 e2 e3 e4 ez e5.toRv1s
 |_=>exact Rv1.up (by intro _ q;cases q) e.toRv1
mutual
theorem Rv1.simple {P:Params}{B:Heap}{φ:List Addr}{imm:Led}{x:MV}{v:Value}(hn:aL x=true)(e:Rv1 P B φ imm x v):Sv P B imm x v:=by
 cases x with
 |ref id=>exact Jq hn
 |_=>exact e
end
theorem dk.simple {P:Params}{B:Heap}{φ:List Addr}{imm:Led}:∀{l:List MV}{vs:List Value},noRefs l=true→dk P B φ imm l vs→Svs P B imm l vs
 |[],_,_,e=>e
 |x::l,_,hn,e=>by
  refine Jj e ?_;clear e;intro v r e1 e2 e3
  exact Jp v r e1 (Rv1.simple (bz hn) e2) (dk.simple (a9 hn) e3)
theorem Rv.simple {P:Params}{B:Heap}{φ:List Addr}{imm:Led}{x:MV}{v:Value}(hn:aL x=true)(e:Rv P B φ imm x v):Sv P B imm x v:=by
 cases x with
 |tup l=>
  refine Jv e ?_;clear e;intro a vs o n e1 e2 e3 e4 ez e5
  exact JC a vs o n e1 e2 e3 e4 ez (e5.simple hn)
 |_=>exact Rv1.simple (φ:=φ) hn (Rv.one (by intro _ q;cases q) e)
theorem Rvl.simple {P:Params}{B:Heap}{φ:List Addr}{imm:Led}:∀{l:List MV}{vs:List Value},noRefs l=true→Rvl P B φ imm l vs→Svs P B imm l vs
 |[],_,_,e=>e
 |x::l,_,hn,e=>by
  refine Jj e ?_;clear e;intro v r e1 e2 e3
  exact Jp v r e1 (Rv.simple (bz hn) e2) (Rvl.simple (a9 hn) e3)
theorem Rv.part {P:Params}{B:Heap}{φ:List Addr}{imm:Led}{x:MV}{v:Value}(hn:dC x=true)(e:Rv P B φ imm x v):Rv1 P B φ imm x v:=by
 cases x with
 |ref id=>exact e
 |tup l=>exact(Rv.simple hn e).toRv1
 |_=>exact e
theorem Rvl.parts {P:Params}{B:Heap}{φ:List Addr}{imm:Led}:∀{l:List MV}{vs:List Value},aW l=true→Rvl P B φ imm l vs→dk P B φ imm l vs
 |[],_,_,e=>e
 |x::l,_,hn,e=>by
  refine Jj e ?_;clear e;intro v r e1 e2 e3
  exact Jp v r e1 (Rv.part (bz hn) e2) (Rvl.parts (a9 hn) e3)
theorem Rv1.toRv {P:Params}{B:Heap}{φ:List Addr}{imm:Led}{x:MV}{v:Value}(e:Rv1 P B φ imm x v):Rv P B φ imm x v:=by
 cases x with
 |tup l=>exact Sv.toRv (by exact e)
 |_=>exact e
theorem Svs.length {P:Params}{B:Heap}{imm:Led}:∀{l:List MV}{vs:List Value},Svs P B imm l vs→vs.length=l.length
 |[],_,e=>by have e:_=[]:=e;subst e;rfl
 |_::_,_,e=>by
  refine Jj e ?_;clear e;intro v r κ;subst κ;intro e2 e3
  exact congrArg (·+1) e3.length
theorem Svs.at_ {P:Params}{B:Heap}{imm:Led}:∀{l:List MV}{vs:List Value}{i:Nat}{x:MV},Svs P B imm l vs→l[i]?=some x→∃v,vs[i]?=some v∧Sv P B imm x v
 |_::_,_,0,x,e,q=>by
  refine Jj e ?_;clear e;intro v r κ;subst κ;intro e2 e3
  refine Jk q fun q=>?_
  subst q;exact Jl v rfl e2
 |_::_,_,i+1,x,e,q=>by
  refine Jj e ?_;clear e;intro v r κ;subst κ;intro e2 e3
  exact e3.at_ (i:=i) q
theorem Svs.append {P:Params}{B:Heap}{imm:Led}:∀{l l':List MV}{vs vs':List Value},Svs P B imm l vs→Svs P B imm l' vs'→Svs P B imm (l++l') (vs++vs')
 |[],_,_,_,e,e'=>by have e:_=[]:=e;subst e;exact e'
 |_::_,_,_,_,e,e'=>by
  refine Jj e ?_;clear e;intro v r κ;subst κ;intro e2 e3
  exact Jp v (r++_) rfl e2 (e3.append e')
noncomputable def aZ (P:Params)(B:Heap)(φ:List Addr)(imm:Led):List (Str × MV)→List DictEntry→Prop
 |[],es=>es=[]
 |(x,mv)::fs,es=>∃hsh t v r,es=⟨hsh,.str x t,v⟩::r∧Rv1 P B φ imm mv v∧aZ P B φ imm fs r
noncomputable def ce (P:Params)(C:Str)(a:Addr):Prop:=nsIn (KF P) mainGlobals C=some (some (.ref a))
noncomputable def cQ (P:Params)(B:Heap)(φ:List Addr)(imm:Led)(a:Addr)(o:MO)(e:Led):Prop:=match o with
 | .list l=>∃vs n,e=[(a,listOf (List.toArray vs) n)]∧l.length≤sizeLine∧Svs P B imm l vs
 | .barr b=>e=[(a,{cls:= .type "bytearray",data:= .bytearray b.toArray})]∧b.length≤sizeLine
 | .inst C fs=>∃Ca dx es n,e=[(a,instObj Ca dx),(dx,dictOf es n)]∧ce P C Ca∧aZ P B φ imm fs es
noncomputable def cM (P:Params)(B:Heap)(Φ:List Addr)(imm:Led):aa→List Addr→Led→Prop
 |[],φ,m=>φ=[]∧m=[]
 |o::σ,φ,m=>∃a φ' e r,φ=a::φ'∧m=e++r∧cQ P B Φ imm a o e∧cM P B Φ imm σ φ' r
noncomputable def bD:Led→Led→Prop
 |[],q=>q=[]
 |(a,o)::p,q=>∃sl r,q=(a,{o with slots:=sl})::r∧((∃vs,o.data= .fields vs)→sl=o.slots)∧bD p r
noncomputable def fq:MO→List Nat
 | .inst _ fs=>fs.filterMap fun p=>jy p.2
 |_=>[]
noncomputable def cy (n:Nat)(σ:aa):Prop:=∀i o,i<n→σ[i]?=some o→∀j∈fq o,j<n
structure TopB (B:Heap):Prop where
 g:∃mg,B.Ns mainGlobals mg
 b:∃mb,B.Ns builtinsNs mb∧∀x:Str,x≠"__name__"→mb x=bootBuiltins x
 lim:B.NoLimit
structure Cx where
 w:World
 B:Heap
 A:Around
 env:Env
 L:Addr
 prot:Led
 frames:List Env
 pts:List Nat
 d:Nat
 b:Nat
structure CxOk (C:Cx):Prop where
 K:(KF C.w.params).In C.B
 T:TopB C.B
 handled:C.A.handled=none
 frames:C.A.frames=some C.frames
 depth:C.A.depth+2*C.d≤600
 units:C.A.units+20*C.d≤9000
 kind:C.env.scope.kind= .function
 locals:C.env.locals=C.L
 globals:C.env.globals=mainGlobals
 builtins:C.env.builtins=builtinsNs
 bOk:∀n∈C.pts,n≤C.b
 framesOk:∀e∈C.frames,e.scope.kind= .function∧∃l,e.frame=some l∧(l=C.L∨∃o,(l,o)∈C.prot∧∀vs,o.data≠.fields vs)
structure SD (C:Cx)(φ:List Addr)(imm:Led)(m:Str→Option Value)(σ:aa)(h:Heap)(mu prot:Led):Prop where
 F:Fr C.B C.L h m
 N:News C.B C.L h (mu++(imm++prot))
 nd:((mu++(imm++prot)).map (·.1)).Nodup
 M:cM C.w.params C.B φ imm σ φ mu
 P:bD C.prot prot
 closed:∀n∈C.pts,n≤σ.length∧cy n σ
 all:cy σ.length σ
noncomputable def SI (C:Cx)(φ:List Addr)(imm:Led)(m:Str→Option Value)(σ:aa)(h:Heap):Prop:=∃mu prot,SD C φ imm m σ h mu prot
noncomputable def LR (C:Cx)(φ:List Addr)(imm:Led)(ρ:Loc)(m:Str→Option Value):Prop:=∀x v k,ρ.lookup x=some v→C.env.scope.names.lookup x=some k→
 (k= .local∧(v≠.undef→∃rv,m x=some rv∧Rv C.w.params C.B φ imm v rv))∨
 ((k= .cell∨k= .free∧x≠"__classdict__")∧(v≠.undef→∃c o rv,C.env.cells.lookup x=some c∧(c,o)∈imm∧o.data= .cell (some rv)∧Rv C.w.params C.B φ imm v rv))
theorem aZ.mono {P:Params}{B:Heap}{φ φ':List Addr}{imm imm':Led}(hφ:φ<+:φ')(h:∀p∈imm,p∈imm'){fs:List (Str × MV)}:∀{es:List DictEntry},aZ P B φ imm fs es→aZ P B φ' imm' fs es:=by
 induction fs with
 |nil=>exact id
 |cons _ _ ih=>
  intro es e
  refine Jz e ?_;clear e;intro hsh t v r e1 e2 e3
  exact JI hsh t v r e1 (e2.mono hφ h) (ih e3)
theorem cQ.mono {P:Params}{B:Heap}{φ φ':List Addr}{imm imm':Led}(hφ:φ<+:φ')(h:∀p∈imm,p∈imm'){a:Addr}{o:MO}{e:Led}(x:cQ P B φ imm a o e):cQ P B φ' imm' a o e:=by
 cases o with
 |list l=>refine Jj x ?_;clear x;intro vs n e1 ez e2;exact Jp vs n e1 ez (Svs.mono h _ _ e2)
 |barr b=>exact x
 |inst C fs=>refine Jz x ?_;clear x;intro Ca dx es n e1 e2 e3;exact JI Ca dx es n e1 e2 (e3.mono hφ h)
theorem cM.mono {P:Params}{B:Heap}{Φ Φ':List Addr}{imm imm':Led}(hφ:Φ<+:Φ')(h:∀p∈imm,p∈imm'){σ:aa}:∀{φ:List Addr}{m:Led},cM P B Φ imm σ φ m→cM P B Φ' imm' σ φ m:=by
 induction σ with
 |nil=>exact id
 |cons _ _ ih=>
  intro φ m x
  refine Ju x ?_;clear x;intro a φ' e r e1 e2 e3 e4
  exact JR a φ' e r e1 e2 (e3.mono hφ h) (ih e4)
theorem cM.length {P:Params}{B:Heap}{Φ:List Addr}{imm:Led}{σ:aa}:∀{φ:List Addr}{m:Led},cM P B Φ imm σ φ m→φ.length=σ.length:=by
 induction σ with
 |nil=>intro φ m x;refine Kh x.1▸?_;rfl
 |cons _ _ ih=>
  intro φ m x
  refine Ju x ?_;clear x;intro a φ' e r e1 e2 e3 e4
  refine Kh e1▸?_
  exact congrArg (·+1) (ih e4)
theorem cM.split {P:Params}{B:Heap}{Φ:List Addr}{imm:Led}{o:MO}{σ:aa}:∀{φ:List Addr}{m:Led}{i:Nat},cM P B Φ imm σ φ m→σ[i]?=some o→
  ∃a e m1 m2,φ[i]?=some a∧m=m1++(e++m2)∧cQ P B Φ imm a o e∧∀o' e',cQ P B Φ imm a o' e'→cM P B Φ imm (σ.set i o') φ (m1++(e'++m2)):=by
 induction σ with
 |nil=>exact fun _ q=>Ji q
 |cons o₀ σ ih=>
  intro φ m i x q
  refine Ju x ?_;clear x;intro a φ' e r e1 e2 e3 e4
  subst e1 e2
  cases i with
  |zero=>
   refine Jk q fun q=>?_
   subst q
   exact JR a e [] r rfl rfl e3 (fun o' e' x=>⟨a,φ',e',r,rfl,rfl,x,e4⟩)
  |succ i=>
   refine Ju (ih (i:=i) e4 q) fun a' e' m1 m2 f1 f2 f3 f4=>?_
   subst f2
   exact JR a' e' (e++m1) m2 f1 ((List.append_assoc ..).symm) f3 (fun o' e'' x=>⟨a,φ',e,m1++(e''++m2),rfl,List.append_assoc ..,e3,f4 o' e'' x⟩)
theorem cM.snoc {P:Params}{B:Heap}{Φ:List Addr}{imm:Led}{a:Addr}{o:MO}{e:Led}(x:cQ P B Φ imm a o e){σ:aa}:∀{φ:List Addr}{m:Led},cM P B Φ imm σ φ m→cM P B Φ imm (σ++[o]) (φ++[a]) (m++e):=by
 induction σ with
 |nil=>
  intro φ m y
  refine Jh y ?_;clear y;intro e1 e2
  subst e1 e2
  exact Ka a [] e [] rfl ((List.append_nil e).symm) x rfl rfl
 |cons _ _ ih=>
  intro φ m y
  refine Ju y ?_;clear y;intro a' φ' e' r e1 e2 e3 e4
  subst e1 e2
  exact JR a' (φ'++[a]) e' (r++e) rfl (List.append_assoc ..) e3 (ih e4)
theorem fP {h₀ h:Heap}{L:Addr}{news news':Led}(N:News h₀ L h news)(hs:∀p∈news',p∈news):News h₀ L h news':=fun p hp=>N p (hs p hp)
section
variable {C:Cx}{φ:List Addr}{imm:Led}{m m':Str→Option Value}{σ:aa}{h h':Heap}{mu prot:Led}
theorem SD.go (S:SD C φ imm m σ h mu prot)(F:Fr C.B C.L h' m')(N:News C.B C.L h' (mu++(imm++prot))):SD C φ imm m' σ h' mu prot:=⟨F,N,S.nd,S.M,S.P,S.closed,S.all⟩
theorem SD.immo {a:Addr}{o:Obj}(S:SD C φ imm m σ h mu prot)(F:Fr C.B C.L h' m)(N:News C.B C.L h' ((a,o)::(mu++(imm++prot))))(hl:∀p∈mu++(imm++prot),p.1<a):
  SD C φ ((a,o)::imm) m σ h' mu prot:=by
 refine⟨F,fP N fun p hp=>?_,?_,S.M.mono (List.prefix_refl _) (fun p hp=>.tail _ hp),S.P,S.closed,S.all⟩
 ·simp only[List.mem_append,List.mem_cons]at hp ⊢
  rcases hp with hp|(hp|hp)|hp
  ·exact .inr (.inl hp)
  ·exact .inl hp
  ·exact .inr (.inr (.inl hp))
  ·exact .inr (.inr (.inr hp))
 ·have nd:=S.nd
  have hx:a ∉ (mu++(imm++prot)).map (·.1):=fun q=>by
   refine tr (List.mem_map.mp q) fun p hp e=>?_
   exact absurd (hl p hp) (by refine Kh e▸?_;exact Nat.lt_irrefl _)
  have:((mu++((a,o)::imm++prot)).map (·.1)).Perm (a::(mu++(imm++prot)).map (·.1)):=by
   simp only[List.map_append,List.map_cons,List.cons_append]
   exact List.perm_middle
  exact this.nodup_iff.mpr (List.nodup_cons.mpr ⟨hx,nd⟩)
theorem cy.snoc {n:Nat}{o:MO}(hn:n≤σ.length)(x:cy n σ):cy n (σ++[o]):=fun i o' hi q=>by
 replace q:=List.getElem?_append_left (by exact (lC 0x18c4421106200883008401) hn hi)▸q
 exact x i o' hi q
theorem SD.newo {a:Addr}{o:MO}{e:Led}(S:SD C φ imm m σ h mu prot)(F:Fr C.B C.L h' m)(N:News C.B C.L h' (e++(mu++(imm++prot))))(hl:∀p∈mu++(imm++prot),∀q∈e,p.1<q.1)(hd:(e.map (·.1)).Nodup)
  (x:cQ C.w.params C.B (φ++[a]) imm a o e) (hc:∀j∈fq o,j<σ.length+1):SD C (φ++[a]) imm m (σ++[o]) h' (mu++e) prot:=by
 refine⟨F,fP N fun p hp=>?_,?_,(S.M.mono (List.prefix_append _ _) (fun _ hp=>hp)).snoc x,S.P,fun n hn=>?_,fun i o' hi q=>?_⟩
 ·simp only[List.mem_append]at hp ⊢
  rcases hp with(hp|hp)|hp
  ·exact .inr (.inl hp)
  ·exact .inl hp
  ·exact .inr (.inr hp)
 ·have nd:=S.nd
  have:((mu++e++(imm++prot)).map (·.1)).Perm (e.map (·.1)++(mu++(imm++prot)).map (·.1)):=by
   simp only[List.map_append,List.append_assoc]
   rewrite[←List.append_assoc];refine List.append_assoc (e.map (·.1)) _ _▸?_
   exact List.Perm.append_right _ List.perm_append_comm
  rewrite[this.nodup_iff];rewrite[List.nodup_append]
  refine Jn hd nd (fun a ha b hb=>?_)
  refine tr (List.mem_map.mp hb) ?_;intro p hp κ;subst κ
  refine tr (List.mem_map.mp ha) ?_;intro q hq κ;subst κ
  exact Ne.symm (Nat.ne_of_lt (hl p hp q hq))
 ·refine Jh (S.closed n hn) fun c1 c2=>?_
  exact Jg (by refine Kh List.length_append▸?_;exact (lC 0x310208210803008401) c1) (c2.snoc c1)
 ·rw[List.length_append,List.length_singleton]at hi ⊢
  by_cases hlt:i<σ.length
  ·replace q:=List.getElem?_append_left hlt▸q
   intro j hj
   have:=S.all i o' hlt q j hj
   exact (lB 0x311204410803108401) this
  ·have:i=σ.length:=by exact (lB 0x18c482100771084018902208401) hi hlt
   subst this
   replace q:=List.getElem?_concat_length▸q
   refine Jk q ?_;clear q;intro κ;subst κ
   exact hc
theorem SD.phiLen (S:SD C φ imm m σ h mu prot):φ.length=σ.length:=S.M.length
end
end
section
theorem j6:ai≤sizeLine:=by unfold ai;refine Kh sizeLine_eq▸?_;exact lI 0x42000000518400000a3
theorem ba {σ:aa}{x z:MV}(h:aG σ x=z)(hz:∀l,z≠.list l)(hr:∀i,z≠.ref i):x=z:=by
 cases x with
 |ref id=>
  replace h:(σ[id]?).elim (MV.ref id) (asL id)=z:=h
  refine Js (o:=σ[id]?) (fun hq=>?_) fun o hq=>?_
  ·try refine Kh hq▸?_
   replace h:=hq▸h;exact absurd h.symm (hr id)
  ·try refine Kh hq▸?_
   replace h:=hq▸h
   cases o with
   |list l=>exact absurd h.symm (hz l)
   |_=>exact absurd h.symm (hr id)
 |_=>exact h
section
variable {C:Cx}{φ:List Addr}{imm:Led}{m:Str→Option Value}{σ:aa}{h:Heap}{mu prot:Led}
theorem SD.immIn (S:SD C φ imm m σ h mu prot){a:Addr}{o:Obj}(x:nG C.B imm a o):h.get? a=some o:=by
 rcases x with x|x
 ·exact(S.N _ (List.mem_append_right _ (List.mem_append_left _ x))).1
 ·exact S.F.keep _ _ x
theorem SD.listAt (S:SD C φ imm m σ h mu prot){x:MV}{l:List MV}{rx:Value}(hx:Rv C.w.params C.B φ imm x rx)(hf:aG σ x= .list l):
  ∃a vs,rx= .ref a∧h.IsList a (List.toArray vs)∧l.length≤sizeLine∧Svs C.w.params C.B imm l vs:=by
 cases x with
 |ref id=>
  refine tr hx ?_;clear hx;intro a e1 e2
  replace hf:(σ[id]?).elim (MV.ref id) (asL id)= .list l:=hf
  refine Js (o:=σ[id]?) (fun q=>?_) fun o q=>?_
  ·try refine Kh q▸?_
   replace hf:=q▸hf;cases hf
  try refine Kh q▸?_
  replace hf:=q▸hf
  cases o with
  |list l'=>
   injection hf with hf
   subst hf
   refine Ju (S.M.split q) fun a' e m1 m2 f1 f2 f3 _=>?_
   refine Jj f3 ?_;clear f3;intro vs n g1 gz g2
   replace f1:=e1▸f1;refine Jk f1 ?_;clear f1;intro κ;subst κ
   refine JV a vs e2 ⟨_,(S.N (a,listOf (List.toArray vs) n) ?_).1,rfl,n,rfl⟩ gz g2
   refine Kh f2▸?_;refine Kh g1▸?_;simp
  |_=>cases hf
 |list l'=>
  injection hf with hf
  subst hf
  have hx:Sv C.w.params C.B imm (.list l') rx:=hx
  refine Jv hx ?_;clear hx;intro a vs o n e1 e2 e3 e4 ez e5
  exact JV a vs e1 ⟨o,S.immIn e2,e3,n,e4⟩ ez e5
 |_=>cases hf
end
theorem oN {σ:aa}{id:Nat}{l:List MV}(h:σ[id]?=some (.list l)):aG σ (.ref id)= .list l:=congrArg (Option.elim · (MV.ref id) (asL id)) h
theorem aK {P:Params}{B:Heap}{φ:List Addr}{imm:Led}{i:Int}{v:Value}(h:Rv P B φ imm (.int i) v):∃t,v= .int i t:=h
theorem ci {P:Params}{B:Heap}{φ:List Addr}{imm:Led}{b:List UInt8}{v:Value}(h:Rv P B φ imm (.bytes b) v):b.length≤sizeLine∧∃t,v= .bytes b.toArray t:=h
theorem aT {P:Params}{B:Heap}{φ:List Addr}{imm:Led}{i:Int}{t:Tok}:Rv P B φ imm (.int i) (.int i t):=⟨t,rfl⟩
theorem je {imm:Led}:∀p∈imm,p∈imm:=fun _ h=>h
theorem du {a:Int}(h:a.natAbs<2^64):Builtin.Int.intBits a≤64:=by
 unfold Builtin.Int.intBits
 split
 ·exact lI 0x404010c02
 ·rename_i hx
  have h0:a.natAbs≠0:=by
   intro q;apply hx;simp[Int.natAbs_eq_zero.mp q]
  have:=(Nat.log2_lt h0).mpr h
  exact (lA 0x31010043204400c44010c01) this
section
variable {C:Cx}{φ:List Addr}{imm:Led}{m:Str→Option Value}{σ:aa}{s:Shared}{E:Value→Shared→Prop}{Q:Value→Shared→Prop}
theorem zX {op:Operator}{x y:Int}{t u:Tok}{v:MV}(hb:qN op x y=some v)
  (hq:∀tk i t',v= .int i→Q (.int i t') {s with toks:=tk}):wpAny (model pw C.w) C.A (binaryOp op (.int x t) (.int y u)) Q E s:=by
 cases op with
 |Add=>refine Jk hb ?_;clear hb;intro κ;subst κ;exact add_int (hq _ _ _ rfl)
 |Sub=>refine Jk hb ?_;clear hb;intro κ;subst κ;exact sub_int (hq _ _ _ rfl)
 |Mult=>
  refine cv hb fun hm e=>?_
  subst e
  exact mul_int (hq _ _ _ rfl) (hm.elim (fun h=>IntMulOk.of_left (du h)) (fun h=>IntMulOk.of_right (du h)))
 |FloorDiv=>refine cv hb fun hm e=>?_;subst e;exact floordiv_int hm.1 (hq _ _ _ rfl) (Or.inl (PyProof.noPylong_of_log2 hm.2))
 |Mod=>refine cv hb fun hm e=>?_;subst e;exact mod_int hm (hq _ _ _ rfl)
 |Pow=>refine cv hb fun hm e=>?_;subst e;exact pow_int_small hm.1 hm.2.1 hm.2.2 (hq _ _ _ rfl)
 |LShift=>refine cv hb fun hm e=>?_;subst e;exact lshift_int_small hm.1 hm.2.1 hm.2.2 (hq _ _ _ rfl)
 |RShift=>refine cv hb fun hm e=>?_;subst e;exact rshift_int hm (hq _ _ _ rfl)
 |BitOr=>refine Jk hb ?_;clear hb;intro κ;subst κ;exact or_int (hq _ _ _ rfl)
 |BitAnd=>refine Jk hb ?_;clear hb;intro κ;subst κ;exact and_int (hq _ _ _ rfl)
 |_=>exact Ji hb
theorem pL {op:Operator}{x y:Int}{t u:Tok}{v:MV}(hb:qN op x y=some v)
  (hq:∀tk i t',v= .int i→Q (.int i t') {s with toks:=tk}):wpAny (model pw C.w) C.A (inplaceOp op (.int x t) (.int y u)) Q E s:=by
 cases op with
 |Add=>refine Jk hb ?_;clear hb;intro κ;subst κ;exact iadd_int (hq _ _ _ rfl)
 |Sub=>refine Jk hb ?_;clear hb;intro κ;subst κ;exact isub_int (hq _ _ _ rfl)
 |Mult=>
  refine cv hb fun hm e=>?_
  subst e
  exact imul_int (hq _ _ _ rfl) (hm.elim (fun h=>IntMulOk.of_left (du h)) (fun h=>IntMulOk.of_right (du h)))
 |FloorDiv=>refine cv hb fun hm e=>?_;subst e;exact ifloordiv_int hm.1 (hq _ _ _ rfl) (Or.inl (PyProof.noPylong_of_log2 hm.2))
 |Mod=>refine cv hb fun hm e=>?_;subst e;exact imod_int hm (hq _ _ _ rfl)
 |Pow=>refine cv hb fun hm e=>?_;subst e;exact ipow_int_small hm.1 hm.2.1 hm.2.2 (hq _ _ _ rfl)
 |LShift=>refine cv hb fun hm e=>?_;subst e;exact ilshift_int_small hm.1 hm.2.1 hm.2.2 (hq _ _ _ rfl)
 |RShift=>refine cv hb fun hm e=>?_;subst e;exact irshift_int hm (hq _ _ _ rfl)
 |BitOr=>refine Jk hb ?_;clear hb;intro κ;subst κ;exact ior_int (hq _ _ _ rfl)
 |BitAnd=>refine Jk hb ?_;clear hb;intro κ;subst κ;exact iand_int (hq _ _ _ rfl)
 |_=>exact Ji hb
end
theorem sK {C:Cx}{h h':Heap}{m:Str→Option Value}{news:Led}{a:Addr}{o:Obj}(_F:Fr C.B C.L h m)(N':News C.B C.L h' news)(hL:C.L<a)(ho:h'.get? a=some o)(hB:C.B.get? a=none):News C.B C.L h' ((a,o)::news):=by
 intro p hp
 rcases List.mem_cons.mp hp with rfl|hp
 ·exact Jn ho (Nat.ne_of_gt hL) hB
 ·exact N' p hp
theorem BN {h:Heap}{L:Addr}{m:Str→Option Value}(n:h.Ns L m):L<h.objs.size:=n.lt
theorem iE {P:Params}{B:Heap}{imm:Led}{l:List MV}:∀{ns:List Int}{vs:List Value},bq l=some ns→Svs P B imm l vs→IntsAre vs ns:=by
 induction l with
 |nil=>intro ns vs e q;refine Jk e fun e=>?_;have q:_=[]:=q;subst e q;exact .nil
 |cons x l ih=>
  intro ns vs e q
  cases x with
  |int i=>
   refine tr (Option.map_eq_some_iff.mp e) ?_;intro r e1 κ;subst κ
   refine Jj q ?_;clear q;intro v vs κ;subst κ;intro e2 e3
   refine Jf e2 ?_;clear e2;intro t κ;subst κ
   exact .cons i t (ih e1 e3)
  |_=>exact Ji e
theorem mZ {P:Params}{B:Heap}{imm:Led}:∀{ns:List Int}{vs:List Value},IntsAre vs ns→Svs P B imm (ns.map .int) vs
 |_,_,.nil=>rfl
 |_,_,.cons n t h=>by
  exact Jp _ _ rfl ⟨t,rfl⟩ (mZ h)
section
variable {C:Cx}{φ:List Addr}{imm:Led}{m:Str→Option Value}{σ:aa}{s:Shared}{E:Value→Shared→Prop}{Q:Value→Shared→Prop}
theorem fR {h':Heap}{mu prot:Led}{l:List MV}{vs:List Value}{a:Addr}{n:Nat}(S:SD C φ imm m σ s.heap mu prot)(F:Fr C.B C.L h' m)(N:News C.B C.L h' ((a,listOf (List.toArray vs) n)::(mu++(imm++prot))))
  (hl:∀p∈mu++(imm++prot),p.1<a) (hz:l.length≤sizeLine) (hv:Svs C.w.params C.B imm l vs):
  SI C φ ((a,listOf (List.toArray vs) n)::imm) m σ h'∧Rv C.w.params C.B φ ((a,listOf (List.toArray vs) n)::imm) (.list l) (.ref a):=by
 refine Jg ⟨mu,prot,S.immo F N hl⟩ ?_
 exact Sv.toRv (x:= .list l) (⟨a,vs,_,n,rfl,.inl (.head _),rfl,rfl,hz,Svs.mono (fun p hp=>.tail _ hp) _ _ hv⟩)
theorem SD.lt (S:SD C φ imm m σ s.heap mu prot):∀p∈mu++(imm++prot),p.1<s.heap.objs.size:=fun p hp=>Heap.lt_size (S.N p hp).1
theorem Bg {op:Operator}{x y v:MV}{rx ry:Value}(S:SI C φ imm m σ s.heap)(hx:Rv C.w.params C.B φ imm x rx)(hy:Rv C.w.params C.B φ imm y ry)(hb:gm σ op x y=some v)
  (hq:∀imm' h' tk rv,(∀p∈imm,p∈imm')→SI C φ imm' m σ h'→Rv C.w.params C.B φ imm' v rv→Q rv {s with heap:=h',toks:=tk}):wpAny (model pw C.w) C.A (binaryOp op rx ry) Q E s:=by
 refine Jm S ?_;clear S;intro mu prot S
 replace hb:wO op (aG σ x) (aG σ y)=some v:=hb
 generalize hfa:aG σ x=x' at hb
 generalize hfb:aG σ y=y' at hb
 cases x' with
 |int a=>
  cases y' with
  |int b=>
   have ex:=ba hfa (fun _ q=>nomatch q) (fun _ q=>nomatch q)
   have ey:=ba hfb (fun _ q=>nomatch q) (fun _ q=>nomatch q)
   subst ex ey
   refine Jf (aK hx) ?_;intro t κ;subst κ
   refine Jf (aK hy) ?_;intro u κ;subst κ
   refine zX hb fun tk i t' hv=>?_
   subst hv
   exact hq imm s.heap tk _ je ⟨mu,prot,S⟩ aT
  |_=>exact Ji hb
 |bytes a=>
  cases y' with
  |bytes b=>
   have ex:=ba hfa (fun _ q=>nomatch q) (fun _ q=>nomatch q)
   have ey:=ba hfb (fun _ q=>nomatch q) (fun _ q=>nomatch q)
   subst ex ey
   rcases ci hx with ⟨hz1,t,rfl⟩
   rcases ci hy with ⟨hz2,u,rfl⟩
   cases op with
   |Add=>
    refine cv hb fun hz e=>?_
    subst e
    have hz':a.length+b.length≤16777216:=by unfold ai at hz;exact (lB 0x62100000028c8108030080000146408401) hz
    refine KBy.add_bytes (by simpa using hz') fun t' k=>?_
    refine Kh (show a.toArray++b.toArray=(a++b).toArray by simp)▸?_
    exact hq imm s.heap k _ je ⟨mu,prot,S⟩ ⟨by refine Kh List.length_append▸?_;refine Kh sizeLine_eq▸?_;exact hz',t',rfl⟩
   |_=>exact Ji hb
  |_=>exact Ji hb
 |list a=>
  cases y' with
  |list b=>
   refine Jx (S.listAt hx hfa) ?_;intro la va κ;subst κ;intro hIa hza hva
   refine Jx (S.listAt hy hfb) ?_;intro lb vb κ;subst κ;intro hIb hzb hvb
   cases op with
   |Add=>
    refine cv hb fun hz e=>?_
    subst e
    have hl:va.length+vb.length≤sizeLine:=by refine Kh hva.length▸?_;refine Kh hvb.length▸?_;exact Nat.le_trans hz j6
    refine add_arrays S.F S.N hIa hIb (fun h' F' N'=>?_) (by simpa using hl)
    replace N':=List.toList_toArray▸(List.toList_toArray▸N')
    refine Jh (fR (l:=a++b) (vs:=va++vb) (n:=0) S F' N' S.lt (by refine Kh List.length_append▸?_;exact Nat.le_trans hz j6) (hva.append hvb)) fun S' R'=>?_
    exact hq _ h' _ _ (fun p hp=>.tail _ hp) S' R'
   |_=>exact Ji hb
  |int n=>
   have ey:=ba hfb (fun _ q=>nomatch q) (fun _ q=>nomatch q)
   subst ey
   refine Jx (S.listAt hx hfa) ?_;intro la va κ;subst κ;intro hIa hza hva
   refine Jf (aK hy) ?_;intro u κ;subst κ
   cases op with
   |Mult=>
    replace hb:(if a.length*n.toNat≤ai∧ -1048577<n∧n<1048577 then BP n (bq a)else none)=some v:=hb
    refine gR hb fun hz hb=>?_
    refine Js (o:=bq a) (fun hns=>?_) fun ns hns=>?_
    ·try refine Kh hns▸?_
     replace hb:=hns▸hb;exact Ji hb
    ·try refine Kh hns▸?_
     replace hb:=hns▸hb
     refine Jk hb ?_;clear hb;intro κ;subst κ
     have hIn:=iE hns hva
     have hlen:va.length*n.toNat≤2^24:=by
      refine Kh hva.length▸?_;unfold ai at hz;exact (lD 0xc42000000518039cd4200002518035005810000128e010000028c01) hz
     refine mul_list_is S.F S.N hIa (lm_carried_ints hIn) (by exact (lG 0xc5001620000000000000001a3ce6a10000128c01a802c080000947008401) hz) (by exact (lG 0x62a800000000000000068c01ce6a10000128c01a802c080000947008401) hz) hlen fun h' F' N' hB hL hC=>?_
     have hI2:IntsAre (List.replicate n.toNat va).flatten (List.replicate n.toNat ns).flatten:=by
      clear hq hL hC N' hlen
      induction n.toNat with
      |zero=>exact .nil
      |succ k ih=>refine Kh List.replicate_succ▸?_;refine Kh List.replicate_succ▸?_;refine Kh List.flatten_cons▸?_;refine Kh List.flatten_cons▸?_;exact hIn.append ih
     rcases hL with ⟨o,ho,hoc,no,hod⟩
     have eo:∃sl dd,o={cls:= .type "list",dict:=dd,data:= .seq ((List.replicate n.toNat va).flatten.toArray) no,slots:=sl}:=by
      rcases o with ⟨c,dd,dt,sl⟩
      simp only at hoc hod
      subst hoc hod
      exact JL sl dd rfl
     have S':=S.immo F' (sK S.F N' (BN S.F.ns) ho hB) S.lt
     refine hq ((s.heap.objs.size,o)::imm) h' s.toks _ (fun p hp=>.tail _ hp) ⟨mu,prot,S'⟩ ?_
     refine Sv.toRv (x:= .list _) ?_
     refine JC _ ((List.replicate n.toNat va).flatten) o no rfl (.inl (.head _)) hoc hod ?_ ?_
     ·refine Kh (List.length_map _)▸?_;refine hI2.length▸?_
      simp only[List.length_flatten,List.map_replicate,List.sum_replicate_nat]
      refine Kh hva.length▸?_;refine Kh sizeLine_eq▸?_;unfold ai at hz;refine Kh (Nat.mul_comm _ _)▸?_;exact (lD 0xc42000000518039cd4200002518035005810000128e010000028c01) hz
     ·exact mZ hI2
   |_=>exact Ji hb
  |_=>exact Ji hb
 |_=>exact Ji hb
end
end
section
theorem ir {α:Type}{a:Option α}{b:Option (List α)}{l:List α}{G:Prop}(h:kE a b=some l)(k:∀x r,a=some x→b=some r→x::r=l→G):G:=by
 cases a with
 |none=>exact Ji h
 |some x=>
  cases b with
  |none=>exact Ji h
  |some r=>exact k x r rfl rfl (Option.some.inj h)
theorem wq {a b:Bool}(ha:a=true)(hb:b=true):(a&&b)=true:=by subst ha hb;rfl
section
variable {C:Cx}{φ:List Addr}{imm:Led}{m:Str→Option Value}{σ:aa}{h:Heap}{mu prot:Led}
mutual
theorem SD.reads (S:SD C φ imm m σ h mu prot):∀{x:MV}{d:PyData}{v:Value},er x=some d→Sv C.w.params C.B imm x v→∃as,Reads h v d as
 | .none,_,_,e,q=>by refine Jk e fun e=>?_;have q:_=_:=q;subst e q;exact Jo _ .none
 | .bool b,_,_,e,q=>by refine Jk e fun e=>?_;have q:_=_:=q;subst e q;exact Jo _ (.bool b)
 | .int i,_,_,e,q=>by refine Jf q ?_;clear q;intro t κ;subst κ;refine Jk e fun e=>?_;subst e;exact Jo _ (.int i t)
 | .str x,_,_,e,q=>by refine Jf q ?_;clear q;intro t κ;subst κ;refine Jk e fun e=>?_;subst e;exact Jo _ (.str x t)
 | .list l,_,_,e,q=>by
  refine tr (Option.map_eq_some_iff.mp e) ?_;intro ds e1 κ;subst κ
  refine Jv q ?_;clear q;intro a vs o n κ;subst κ;intro q1 q2 q3 _ q5
  refine Jf (S.readsAll e1 q5) fun as r=>?_
  exact Jo _ (.list (S.immIn q1) q2 q3 r)
 | .tup l,_,_,e,q=>by
  refine tr (Option.map_eq_some_iff.mp e) ?_;intro ds e1 κ;subst κ
  refine Jv q ?_;clear q;intro a vs o n κ;subst κ;intro q1 q2 q3 _ q5
  refine Jf (S.readsAll e1 q5) fun as r=>?_
  exact Jo _ (.tuple (S.immIn q1) q2 q3 r)
 | .undef,_,_,e,_| .bytes _,_,_,e,_| .ref _,_,_,e,_| .glob _,_,_,e,_=>Ji e
theorem SD.readsAll (S:SD C φ imm m σ h mu prot):∀{l:List MV}{ds:List PyData}{vs:List Value},toPys l=some ds→Svs C.w.params C.B imm l vs→∃as,ReadsAll h vs ds as
 |[],_,_,e,q=>by refine Jk e fun e=>?_;have q:_=_:=q;subst e q;exact Jo _ .nil
 |x::l,_,_,e,q=>by
  refine Jj q ?_;clear q;intro v r κ;subst κ;intro q2 q3
  refine ir e fun d ds e1 e2 e=>?_
  subst e
  refine Jf (S.reads e1 q2) fun as r1=>?_
  refine Jf (S.readsAll e2 q3) fun bs r2=>?_
  exact Jo _ (.cons r1 r2)
end
mutual
theorem iC:∀{y:MV}{d:PyData},er y=some d→aL y=true
 | .none,_,_| .bool _,_,_| .int _,_,_| .str _,_,_| .list _,_,_=>rfl
 | .tup l,_,e=>by
  refine tr (Option.map_eq_some_iff.mp e) fun ds e1 _=>?_
  exact toPys_noRefs e1
 | .undef,_,e| .bytes _,_,e| .ref _,_,e| .glob _,_,e=>Ji e
theorem toPys_noRefs:∀{l:List MV}{ds:List PyData},toPys l=some ds→noRefs l=true
 |[],_,_=>rfl
 |y::l,_,e=>by
  refine ir e fun d' ds' e2 e3 _=>?_
  exact wq (iC e2) (toPys_noRefs e3)
end
theorem SD.readsF (S:SD C φ imm m σ h mu prot){x:MV}{d:PyData}{v:Value}(e:er (aG σ x)=some d)(q:Rv C.w.params C.B φ imm x v):∃as,Reads h v d as:=by
 by_cases hl:∃l,aG σ x= .list l
 ·refine Jf hl ?_;clear hl;intro l hf
  replace e:=hf▸e
  refine tr (Option.map_eq_some_iff.mp e) ?_;intro ds e1 κ;subst κ
  refine Jx (S.listAt q hf) ?_;intro a vs κ;subst κ;intro κ2;rcases κ2 with ⟨o,ho,hc,n,hd⟩;intro _ hv
  refine Jf (S.readsAll e1 hv) fun as r=>?_
  exact Jo _ (.list ho hc hd r)
 ·by_cases hr:∃i,aG σ x= .ref i
  ·refine Jf hr ?_;clear hr;intro i hf
   replace e:=hf▸e;exact Ji e
  ·have ex:=ba (z:=aG σ x) rfl (fun l q=>hl ⟨l,q⟩) (fun i q=>hr ⟨i,q⟩)
   replace e:=Kh ex▸e
   exact S.reads e (Rv.simple (iC e) q)
end
section
variable {C:Cx}{φ:List Addr}{imm:Led}{m:Str→Option Value}{σ:aa}{s:Shared}{E:Value→Shared→Prop}{Q:Value→Shared→Prop}
theorem nZ {P:Params}{B:Heap}{x:MV}{v:Value}(q:Rv P B φ imm x v)(hn:sI x=some false):plainIs v .none=true∧v≠.none:=by
 cases x with
 |undef=>exact Ji hn
 |none=>exact JG (Option.some.inj hn)
 |glob g=>exact Ji hn
 |bool b=>have q:v= .bool b:=q;subst q;exact Jg rfl (fun e=>nomatch e)
 |int i=>refine Jf q ?_;clear q;intro t κ;subst κ;exact Jg rfl (fun e=>nomatch e)
 |str i=>refine Jf q ?_;clear q;intro t κ;subst κ;exact Jg rfl (fun e=>nomatch e)
 |bytes i=>rcases q with ⟨_,t,rfl⟩;exact Jg rfl (fun e=>nomatch e)
 |tup l=>refine JO q ?_;clear q;intro a _ _ _ κ;subst κ;intro _;exact Jg rfl (fun e=>nomatch e)
 |list l=>
  have q:Sv P B imm (.list l) v:=q
  refine JO q ?_;clear q;intro a _ _ _ κ;subst κ;intro _;exact Jg rfl (fun e=>nomatch e)
 |ref i=>refine tr q ?_;clear q;intro a _ κ;subst κ;exact Jg rfl (fun e=>nomatch e)
theorem vA {a b:MV}{r:Bool}{G:Prop}(h:meq a b=some r)(k1:∀x y,a= .bytes x→b= .bytes y→(x==y)=r→G)
  (k2:∀x y,er a=some x→er b=some y→x.canLay0=true∧y.canLay0=true∧x.depth≤8→PyData.eqv x y=r→G):G:=by
 have k3:oj a b=none→G:=fun e=>by
  have h:(oj a b).elim (qP (er a) (er b)) some=some r:=h
  replace h:=e▸h
  refine Js (o:=er a) (fun ea=>?_) fun x ea=>?_
  ·try refine Kh ea▸?_
   replace h:=ea▸h;exact Ji h
  ·try refine Kh ea▸?_
   refine Js (o:=er b) (fun eb=>?_) fun y eb=>?_
   ·try refine Kh eb▸?_
    replace h:=eb▸(ea▸h);exact Ji h
   ·try refine Kh eb▸?_
    replace h:=eb▸(ea▸h);exact cv h (k2 x y ea eb)
 cases a with
 |bytes x=>
  cases b with
  |bytes y=>exact k1 x y rfl rfl (Option.some.inj h)
  |_=>exact k3 rfl
 |_=>exact k3 rfl
theorem f7 {P:Params}{B:Heap}{f:Int→Int→Bool}{a b:MV}{v:Bool}{ra rb:Value}{G:Prop}(ha:Rv P B φ imm a ra)(hb:Rv P B φ imm b rb)(h:tU f a b=some v)
  (k:∀i j t u,ra= .int i t→rb= .int j u→f i j=v→G):G:=by
 cases a with
 |int i=>
  cases b with
  |int j=>refine Jf (aK ha) fun t e1=>?_;refine Jf (aK hb) fun u e2=>?_;exact k i j t u e1 e2 (Option.some.inj h)
  |_=>exact Ji h
 |_=>exact Ji h
theorem vP {a b:MV}{v:Bool}{G:Prop}(h:isQ a b=some v)(k1:a= .none→b= .none→true=v→G)(k2:b= .none→sI a=some false→false=v→G):G:=by
 cases b with
 |none=>
  cases a with
  |undef=>exact Ji h
  |glob g=>exact Ji h
  |none=>exact k1 rfl rfl (Option.some.inj h)
  |_=>exact k2 rfl rfl (Option.some.inj h)
 |_=>exact Ji h
theorem eK (ok:CxOk C){op:CmpOp}{x y:MV}{v:Bool}{rx ry:Value}(S:SI C φ imm m σ s.heap)(hx:Rv C.w.params C.B φ imm x rx)(hy:Rv C.w.params C.B φ imm y ry)(hb:de σ op x y=some v)
  (hq:Q (.bool v) s):wpAny (model pw C.w) C.A (compareOp op rx ry) Q E s:=by
 refine Jm S ?_;clear S;intro mu prot S
 have heq:∀r,meq (aG σ x) (aG σ y)=some r→(r=v→wpAny (model pw C.w) C.A (compareOp .Eq rx ry) Q E s)∧((!r)=v→wpAny (model pw C.w) C.A (compareOp .NotEq rx ry) Q E s):=by
  intro r hr
  refine vA hr (fun a b hfa hfb hr'=>?_) (fun dx dy ex ey hc hr'=>?_)
  ·have ex:=ba hfa (fun _ q=>nomatch q) (fun _ q=>nomatch q)
   have ey:=ba hfb (fun _ q=>nomatch q) (fun _ q=>nomatch q)
   subst ex ey
   rcases ci hx with ⟨_,t,rfl⟩
   rcases ci hy with ⟨_,u,rfl⟩
   subst hr'
   exact Jg (fun e=>eq_bytes (by subst e;exact hq)) (fun e=>ne_bytes (by subst e;exact hq))
  ·subst hr'
   refine Jf (S.readsF ex hx) fun as ra=>?_
   refine Jf (S.readsF ey hy) fun bs rb=>?_
   have hu:C.A.units+min dx.depth dy.depth<cLine:=by
    have:=ok.units
    have:min dx.depth dy.depth≤8:=Nat.le_trans (Nat.min_le_left _ _) hc.2.2
    have e:cLine=9900:=rfl
    exact (lH 0xc6311104870840118608ca06321881a0861926ac18c418204708401) this e (by assumption)
   exact Jg (fun e=>SeqAt.compareEq_reads ra rb hc.1 hc.2.1 hu (by refine Kh e▸?_;exact hq)) (fun e=>SeqAt.compareNe_reads ra rb hc.1 hc.2.1 hu (by refine Kh e▸?_;exact hq))
 have his:∀r,isQ x y=some r→(r=v→wpAny (model pw C.w) C.A (compareOp .Is rx ry) Q E s)∧((!r)=v→wpAny (model pw C.w) C.A (compareOp .IsNot rx ry) Q E s):=by
  intro r hr
  refine vP hr (fun hx' hy' e=>?_) (fun hy' hn e=>?_)
  ·subst hx' hy' e
   have hx:rx= .none:=hx
   have hy:ry= .none:=hy
   subst hx hy
   exact Jg (fun e=>by subst e;exact wpAny_is_self rfl hq) (fun e=>by subst e;exact wpAny_isNot_self rfl hq)
  ·subst hy' e
   have hy:ry= .none:=hy
   subst hy
   refine Jh (nZ hx hn) fun p1 p2=>?_
   exact Jg (fun e=>by subst e;exact wpAny_is_other p1 p2 hq) (fun e=>by subst e;exact wpAny_isNot_other p1 p2 hq)
 cases op with
 |Eq=>exact(heq v hb).1 rfl
 |NotEq=>
  refine tr (Option.map_eq_some_iff.mp hb) fun r hr e=>?_
  exact(heq r hr).2 e
 |Lt=>refine f7 hx hy hb fun i j t u e1 e2 e=>?_;subst e1 e2 e;exact lt_int hq
 |LtE=>refine f7 hx hy hb fun i j t u e1 e2 e=>?_;subst e1 e2 e;exact le_int hq
 |Gt=>refine f7 hx hy hb fun i j t u e1 e2 e=>?_;subst e1 e2 e;exact gt_int hq
 |GtE=>refine f7 hx hy hb fun i j t u e1 e2 e=>?_;subst e1 e2 e;exact ge_int hq
 |Is=>exact(his v hb).1 rfl
 |IsNot=>
  refine tr (Option.map_eq_some_iff.mp hb) fun r hr e=>?_
  exact(his r hr).2 e
 |_=>exact Ji hb
theorem bu {x:MV}{b:Bool}{rx:Value}{Q:Bool→Shared→Prop}(hx:Rv C.w.params C.B φ imm x rx)(hb:cB x=some b)(hq:Q b s):wpAny (model pw C.w) C.A (truthy rx) Q E s:=by
 cases x with
 |bool b'=>
  have hx:rx= .bool b':=hx
  subst hx
  refine Jk hb fun e=>?_
  subst e
  exact wpAny_truthy_bool hq
 |int i=>
  refine Jf (aK hx) ?_;intro t κ;subst κ
  refine Jk hb fun e=>?_
  subst e
  exact truthy_int hq
 |_=>exact Ji hb
theorem BA {op:UnaryOp}{x v:MV}{rx:Value}(hx:Rv C.w.params C.B φ imm x rx)(hb:mun op x=some v)
  (hq:∀tk rv,Rv C.w.params C.B φ imm v rv→Q rv {s with toks:=tk}):wpAny (model pw C.w) C.A (unaryOp op rx) Q E s:=by
 cases op with
 |USub=>
  cases x with
  |int i=>
   refine Jk hb fun e=>?_
   subst e
   refine Jf (aK hx) ?_;intro t κ;subst κ
   exact neg_int (hq _ _ aT)
  |_=>exact Ji hb
 |Not=>
  cases x with
  |bool b=>
   refine Jk hb fun e=>?_
   subst e
   have hx:rx= .bool b:=hx
   subst hx
   exact not_of (wpAny_truthy_bool (hq s.toks _ rfl))
  |_=>exact Ji hb
 |_=>exact Ji hb
end
end
section
theorem ie {n:Nat}{k:Int}{j:Nat}(h:bg n k=some j):seqIndex? k n=some j∧j<n∧ -(n:Int)≤k∧k<n:=by
 unfold bg at h
 unfold seqIndex?
 by_cases h0:0≤k
 ·replace h:=if_pos h0▸h
  refine cv h fun h1 h'=>?_
  clear h
  refine Kh (if_neg (show ¬k<0 by exact (lE 0xc6ea01003400402) h0))▸?_;rewrite[if_pos (by simp only[Bool.and_eq_true,decide_eq_true_eq];exact (lD 0x18c66ab00401a0020144016003400402) h0 h1)]
  exact JA (by refine Kh h'▸?_;rfl) (by exact (lG 0x6311004219042c006200b001) h1 h') (by exact (lD 0xc62800b1600c4016003400402) h0 h1) (by exact (lD 0x6315580200c4016003400402) h0 h1)
 ·replace h:=if_neg h0▸h
  refine cv h fun h1 h'=>?_
  clear h
  refine Kh (if_pos (show k<0 by exact (lE 0xc54020077400402) h0))▸?_;rewrite[if_pos (by simp only[Bool.and_eq_true,decide_eq_true_eq];exact (lD 0x6319aac0122c010068458020080500058c0077400402) h0 h1)]
  exact JA (congrArg some (by exact (lG 0xc631208584580200c8212b180080300058c0077400402) h0 h1 h')) (by exact (lG 0x6318880210c8212b180080300058c0077400402) h0 h1 h') (by exact (lD 0x318a002c580300058c0077400402) h0 h1) (by exact (lD 0x18aac010077400402) h0)
theorem vQ {n:Nat}{k:Int}{j:Nat}(h:bg n k=some j)(h0:0≤k):j=k.toNat:=by
 unfold bg at h
 replace h:=if_pos h0▸h
 exact cv h fun _ e=>e.symm
theorem vR {n:Nat}{k:Int}{j:Nat}(h:bg n k=some j)(h0:¬0≤k):j=(k+(n:Int)).toNat:=by
 unfold bg at h
 replace h:=if_neg h0▸h
 refine cv h fun q e=>?_
 clear h
 exact (lG 0xc631261160080210c8212b180080300058c0077400402) h0 q e
theorem ed (slice:PySem.Expr)(o i:Value):∃ops,subscripted slice false o i=operate ops (getItem o i):=by
 cases slice with
 |Slice a b c p=>
  cases c with
  |none=>exact Jo _ rfl
  |some c=>exact Jo _ rfl
 |_=>exact Jo _ rfl
theorem pr {P:Params}{B:Heap}{φ:List Addr}{imm:Led}:∀{l:List MV}{vs:List Value}{i:Nat}{x:MV},dk P B φ imm l vs→l[i]?=some x→∃v,vs[i]?=some v∧Rv1 P B φ imm x v
 |_::_,_,0,x,⟨v,r,e1,e2,e3⟩,q=>by
  refine Jk q fun q=>?_
  subst q e1;exact Jl v rfl e2
 |_::_,_,i+1,x,⟨v,r,e1,e2,e3⟩,q=>by
  subst e1
  exact pr (i:=i) e3 q
theorem fJ {P:Params}{B:Heap}{φ:List Addr}{imm:Led}:∀{l:List MV}{vs:List Value},dk P B φ imm l vs→vs.length=l.length
 |[],vs,e=>by have e:vs=[]:=e;refine Kh e▸?_;rfl
 |_::_,_,⟨v,r,e1,e2,e3⟩=>by refine Kh e1▸?_;refine Kh List.length_cons▸?_;refine Kh List.length_cons▸?_;refine Kh (fJ e3)▸?_;rfl
theorem iF (n x:Nat):n-x=n-min x n:=by
 rcases Nat.le_total x n with h|h
 ·refine Kh (Nat.min_eq_left h)▸?_;rfl
 ·refine Kh (Nat.min_eq_right h)▸?_;refine Kh (Nat.sub_self _)▸?_;refine Kh (Nat.sub_eq_zero_of_le h)▸?_;rfl
theorem wc (n:Nat)(k:Int):clipAt n k=br n k:=by
 have h:=clipAt_cast n k
 unfold br
 by_cases h0:0≤k
 ·refine Kh (if_pos h0)▸?_
  replace h:=if_neg (show ¬k<0 by exact (lE 0xc6ea01003400402) h0)▸h
  have h1:0≤min k (n:Int):=by exact (lD 0x6287580200805400402) h0
  replace h:=Int.max_eq_right h1▸h
  exact (lG 0x31891c21600200d8eb084015803400402) h0 h
 ·refine Kh (if_neg h0)▸?_
  replace h:=if_pos (show k<0 by exact (lE 0xc54020077400402) h0)▸h
  have h1:min (k+n) (n:Int)=k+n:=by exact (lD 0xc588b004013ac0122c010077400402) h0
  replace h:=h1▸h
  refine iF _ _▸?_
  exact (lG 0x63122b180084200d904584200804b0077400402) h0 h
theorem qW (lo:Option Int)(n:Nat):kms_lo lo n=lo.elim 0 (br n):=by
 cases lo with
 |none=>rfl
 |some k=>
  refine(?_:(if k<0 then n-(-k).toNat else min k.toNat n)=(if 0≤k then min k.toNat n else n-min (-k).toNat n))
  by_cases h0:0≤k
  ·refine Kh (if_pos h0)▸?_;refine Kh (if_neg (show ¬k<0 by exact (lE 0xc6ea01003400402) h0))▸?_;rfl
  ·refine Kh (if_neg h0)▸?_;refine Kh (if_pos (show k<0 by exact (lE 0xc54020077400402) h0))▸?_;exact iF _ _
theorem qX (hi:Option Int)(n:Nat):kms_hi hi n=hi.elim n (br n):=by
 cases hi with
 |none=>rfl
 |some k=>
  refine(?_:(if k<0 then n-(-k).toNat else min k.toNat n)=(if 0≤k then min k.toNat n else n-min (-k).toNat n))
  by_cases h0:0≤k
  ·refine Kh (if_pos h0)▸?_;refine Kh (if_neg (show ¬k<0 by exact (lE 0xc6ea01003400402) h0))▸?_;rfl
  ·refine Kh (if_neg h0)▸?_;refine Kh (if_pos (show k<0 by exact (lE 0xc54020077400402) h0))▸?_;exact iF _ _
theorem kh {x:MV}(h:isN x=true):lU x=some none:=by
 cases x with
 |none=>rfl
 |_=>exact Jq h
theorem lW {α:Type}{vs:List α}{j:Nat}{x:α}(h:vs[j]?=some x):vs.toArray[j]?=some x:=by
 refine Kh List.getElem?_toArray▸?_;exact h
theorem mj {P:Params}{B:Heap}{imm:Led}:∀{l:List MV}{vs:List Value},Svs P B imm l vs→∀n,Svs P B imm (l.take n) (vs.take n)
 |[],vs,e,n=>by have e:vs=[]:=e;subst e;cases n<;>rfl
 |_::_,_,_,0=>rfl
 |x::l,_,e,n+1=>by
  refine Jj e ?_;clear e;intro v r κ;subst κ;intro e2 e3
  exact Jp v _ rfl e2 (mj e3 n)
theorem ml {P:Params}{B:Heap}{imm:Led}:∀{l:List MV}{vs:List Value},Svs P B imm l vs→∀n,Svs P B imm (l.drop n) (vs.drop n)
 |[],vs,e,n=>by have e:vs=[]:=e;subst e;cases n<;>rfl
 |_::_,_,e,0=>e
 |x::l,_,e,n+1=>by
  refine Jj e ?_;clear e;intro v r κ;subst κ;intro e2 e3
  exact ml e3 n
theorem gI {P:Params}{B:Heap}{imm:Led}:∀{l:List MV}{vs:List Value},Svs P B imm l vs→Svs P B imm l.reverse vs.reverse
 |[],vs,e=>by have e:vs=[]:=e;subst e;rfl
 |x::l,_,e=>by
  refine Jj e ?_;clear e;intro v r κ;subst κ;intro e2 e3
  refine Kh List.reverse_cons▸?_;refine Kh List.reverse_cons▸?_
  exact(gI e3).append ⟨v,[],rfl,e2,rfl⟩
section
variable {C:Cx}{φ:List Addr}{imm:Led}{m:Str→Option Value}{σ:aa}{s:Shared}{E:Value→Shared→Prop}{Q:Value→Shared→Prop}
theorem vN {value slice:PySem.Expr}{o i v:MV}{ro ri:Value}(S:SI C φ imm m σ s.heap)(ho:Rv C.w.params C.B φ imm o ro)(hi:Rv C.w.params C.B φ imm i ri)(hb:eD σ o i=some v)
  (hq:∀tk rv,Rv C.w.params C.B φ imm v rv→Q rv {s with toks:=tk}):wpAny (model pw C.w) C.A (subscriptTail value slice ro ri) Q E s:=by
 refine Jm S ?_;clear S;intro mu prot S
 cases i with
 |int k=>
  refine Jf (aK hi) ?_;intro t κ;subst κ
  refine Jf (ed slice ro (.int k t)) fun ops hs=>?_
  replace hb:th k (aG σ o)=some v:=hb
  generalize hf:aG σ o=o' at hb
  cases o' with
  |list l=>
   refine Jx (S.listAt ho hf) ?_;intro a vs κ;subst κ;intro hI hz hv
   refine tr (Option.bind_eq_some_iff.mp hb) fun j hj hb=>?_
   refine JB (ie hj) fun q1 q2 q3 q4=>?_
   refine tr (hv.at_ hb) fun rv e1 e2=>?_
   have hlen:=hv.length
   replace hz:=sizeLine_eq▸hz
   refine tail_any hI.typeIs slot_list_getitem.lookup ?_ hs
   by_cases h0:0≤k
   ·exact wpAny_getItem_list hI h0 (by exact (lD 0xc62a800000000000000068c0184000000a3006ab00401) q4 hz) (by refine vQ hj h0▸?_;exact lW e1) (hq _ _ e2.toRv)
   ·have ej:j=(k+(vs.toArray.size:Int)).toNat:=(vR hj h0).trans (by refine Kh List.size_toArray▸?_;refine Kh hlen▸?_;rfl)
    exact wpAny_getItem_list_neg hI (by exact (lE 0xc54020077400402) h0) (by refine Kh List.size_toArray▸?_;refine Kh hlen▸?_;exact q3) (by exact (lD 0x318a002c4000000000000000347080000014600d00162c01) q3 hz) (by refine ej▸?_;exact lW e1) (hq _ _ e2.toRv)
  |tup l=>
   have ex:=ba hf (fun _ q=>nomatch q) (fun _ q=>nomatch q)
   subst ex
   refine Jv ho ?_;clear ho;intro a vs ob n κ;subst κ;intro e2 e3 e4 ez e5
   refine tr (Option.bind_eq_some_iff.mp hb) fun j hj hb=>?_
   refine JB (ie hj) fun q1 q2 q3 q4=>?_
   refine tr (pr e5 hb) fun rv f1 f2=>?_
   replace ez:=sizeLine_eq▸ez
   have hT:IsTup s.heap a (List.toArray vs):=⟨ob,S.immIn e2,e3,n,e4⟩
   exact tail_any hT.typeIs slot_tuple_getitem.lookup (PyProof.Rows.getItem_tuple hT (by exact (lD 0x318a002c4000000000000000347080000014600d00162c01) q3 ez) (by exact (lD 0xc62a800000000000000068c0184000000a3006ab00401) q4 ez) (by rewrite[List.size_toArray,fJ e5];exact q1) (lW f1) (hq _ _ f2.toRv)) hs
  |bytes b=>
   have ex:=ba hf (fun _ q=>nomatch q) (fun _ q=>nomatch q)
   subst ex
   rcases ci ho with ⟨hz,u,rfl⟩
   refine tr (Option.bind_eq_some_iff.mp hb) fun j hj hb=>?_
   refine JB (ie hj) fun q1 q2 q3 q4=>?_
   replace hz:=sizeLine_eq▸hz
   refine tr (Option.map_eq_some_iff.mp hb) ?_;intro c hc κ;subst κ
   refine tail_any (typeIs_bytes s _ u) FB.slot_bytes_getitem.lookup ?_ hs
   refine getItem_gives (typeIs_bytes s _ u) (by decide) FB.slot_bytes_getitem FB.entry_bytes_getitem (FB.args_bytes_getitem_2 _ _) (gives_bytes_getitem _ k u t c ?_ ?_) (hq _ _ aT)
   ·simp only[Builtin.Bytes.fitsIndex,Bool.and_eq_true,decide_eq_true_eq];exact (lD 0xc6319aa0000000000000001a3006800b10000000000000000d1c2000000518035580200d00162c01) q3 q4 hz
   ·refine Kh List.size_toArray▸?_;refine Kh q1▸?_;exact lW hc
  |_=>exact Ji hb
 |_=>exact Ji hb
theorem sh {value slice:PySem.Expr}{o lo hi st v:MV}{ro rlo rhi rst:Value}{sl:Addr}(S:SI C φ imm m σ s.heap)(ho:Rv C.w.params C.B φ imm o ro)
  (hlo:Rv C.w.params C.B φ imm lo rlo) (hhi:Rv C.w.params C.B φ imm hi rhi) (hst:Rv C.w.params C.B φ imm st rst) (hs:s.heap.IsSliceOf sl rlo rhi rst) (hb:oh σ o lo hi st=some v)
  (hq:∀imm' h' tk rv,(∀p∈imm,p∈imm')→SI C φ imm' m σ h'→Rv C.w.params C.B φ imm' v rv→Q rv {s with heap:=h',toks:=tk}):
  wpAny (model pw C.w) C.A (subscriptTail value slice ro (.ref sl)) Q E s:=by
 refine Jm S ?_;clear S;intro mu prot S
 refine Jf (ed slice ro (.ref sl)) fun ops hsub=>?_
 have part:∀{x:MV}{rx:Value}{b:Option Int},Rv C.w.params C.B φ imm x rx→lU x=some b→IsPart rx b:=by
  intro x rx b hx e
  cases x with
  |none=>
   have hx:rx= .none:=hx
   subst hx
   refine Jk e fun e=>?_
   subst e;exact .none
  |int k=>
   refine Jf (aK hx) ?_;intro t κ;subst κ
   refine Jk e fun e=>?_
   subst e;exact .int _ t
  |_=>exact Ji e
 cases st with
 |none=>
  refine tr (Option.bind_eq_some_iff.mp hb) fun lo' e1 hb=>?_
  refine tr (Option.bind_eq_some_iff.mp hb) fun hi' e2 hb=>?_
  have hst:rst= .none:=hst
  subst hst
  have p1:=part hlo e1
  have p2:=part hhi e2
  generalize hf:aG σ o=o' at hb
  cases o' with
  |list l=>
   refine Jk hb fun hb=>?_
   subst hb
   refine Jx (S.listAt ho hf) ?_;intro a vs κ;subst κ;intro hI hz hv
   refine tail_any hI.typeIs slot_list_getitem.lookup (wpAny_getItem_list_slice hI hs p1 p2 .none (by simp) ?_ (by refine Kh List.size_toArray▸?_;refine Kh hv.length▸?_;exact hz)) hsub
   have hlen:=hv.length
   have ev:slicePick (List.toArray vs) lo' hi' none=(cut vs lo' hi').toArray:=by
    rewrite[kms_pick_eq]
    unfold kms_pick cut
    refine Kh (qW _ _)▸?_;refine Kh (qX _ _)▸?_;rfl
    try rfl
   refine Kh ev▸?_
   have N':=News.push S.F S.N (listOf (cut vs lo' hi').toArray 0)
   have hcv:Svs C.w.params C.B imm (cut l lo' hi') (cut vs lo' hi'):=by
    unfold cut
    refine Kh hlen▸?_
    exact mj (ml hv _) _
   refine Jh (fR S (S.F.push _) N' S.lt (by
    unfold cut
    refine Nat.le_trans (List.length_take_le' ..) ?_
    refine Kh List.length_drop▸?_;exact (lC 0x310084a20803008401) hz) hcv) fun S' R'=>?_
   exact hq _ _ s.toks _ (fun p hp=>.tail _ hp) S' R'
  |bytes b=>
   refine Jk hb fun hb=>?_
   subst hb
   have ex:=ba hf (fun _ q=>nomatch q) (fun _ q=>nomatch q)
   subst ex
   rcases ci ho with ⟨hz,u,rfl⟩
   have ev:KBy.picked b.toArray lo' hi'=(cut b lo' hi').toArray:=by
    rewrite[KBc.picked_eq]
    unfold cut
    cases lo'<;>cases hi'<;>simp only[Option.elim,wc,List.size_toArray]
   have hz2:(cut b lo' hi').length≤sizeLine:=by
    unfold cut
    refine Nat.le_trans (List.length_take_le' ..) ?_
    refine Kh List.length_drop▸?_;exact (lC 0x310084a20803008401) hz
   refine tail_any (typeIs_bytes s _ u) FB.slot_bytes_getitem.lookup (getItem_meets (typeIs_bytes _ _ _) (by decide) FB.slot_bytes_getitem FB.entry_bytes_getitem (FB.args_bytes_getitem_2 _ _) (KBc.meets_slice2 _ u _ p1 p2)
    ⟨hs,by refine Kh ev▸?_;simpa using hz2,fun t' k=>?_⟩) hsub
   refine Kh ev▸?_
   exact hq imm s.heap k _ je ⟨mu,prot,S⟩ ⟨hz2,t',rfl⟩
  |_=>exact Ji hb
 |int k=>
  refine gR hb fun hk hb'=>?_
  clear hb
  refine Jr hk ?_;clear hk;intro κ;subst κ;intro e1 e2
  refine Jf (aK hst) ?_;intro t κ;subst κ
  have p1:=part hlo (kh e1)
  have p2:=part hhi (kh e2)
  generalize hf:aG σ o=o' at hb'
  cases o' with
  |list l=>
   refine Jk hb' fun hb=>?_
   subst hb
   refine Jx (S.listAt ho hf) ?_;intro a vs κ;subst κ;intro hI hz hv
   refine tail_any hI.typeIs slot_list_getitem.lookup (wpAny_getItem_list_slice hI hs p1 p2 (.int (-1) t) (by simp) ?_ (by refine Kh List.size_toArray▸?_;refine Kh hv.length▸?_;exact hz)) hsub
   refine Kh (krv_pick _)▸?_;refine Kh List.toList_toArray▸?_
   have N':=News.push S.F S.N (listOf vs.reverse.toArray 0)
   refine Jh (fR (l:=l.reverse) S (S.F.push _) N' S.lt (by refine Kh List.length_reverse▸?_;exact hz) (gI hv)) fun S' R'=>?_
   exact hq _ _ s.toks _ (fun p hp=>.tail _ hp) S' R'
  |_=>exact Ji hb'
 |_=>exact Ji hb
end
end
section
noncomputable abbrev XP:=Str→aa→Prop
noncomputable def noX:XP:=fun _ _=>False
noncomputable def eA (r:R MV)(Q:MV→aa→Prop)(X:XP):Prop:=match r with
 | .ok v σ=>Q v σ
 | .ex c σ=>X c σ
inductive OptEx {α:Type}(o:Option α)(P:α→Prop):Prop
 |intro(x:α) (h:o=some x) (q:P x)
inductive CmpEx (o:Option Bool)(KT KF:Prop):Prop
 |intro(k:Bool) (h:o=some k) (t:k=true→KT) (f:k=false→KF)
inductive BoolEx (x:MV)(a b:Prop):Prop
 |intro(k:Bool) (h:x= .bool k) (t:k=true→a) (f:k=false→b)
theorem BoolEx.elim {x:MV}{a b G:Prop}(h:BoolEx x a b)(t:x= .bool true→a→G)(f:x= .bool false→b→G):G:=match h with
 |⟨true,h,p,_⟩=>t h (p rfl)
 |⟨false,h,_,p⟩=>f h (p rfl)
theorem OptEx.elim {α:Type}{o:Option α}{P:α→Prop}{G:Prop}(h:OptEx o P)(k:∀x,o=some x→P x→G):G:=match h with|⟨x,h,q⟩=>k x h q
theorem CmpEx.elim {o:Option Bool}{a b G:Prop}(h:CmpEx o a b)(t:o=some true→a→G)(f:o=some false→b→G):G:=match h with
 |⟨true,h,p,_⟩=>t h (p rfl)
 |⟨false,h,_,p⟩=>f h (p rfl)
structure Away (C:Cx)(led:Led)(a:Addr):Prop where
 led:a ∉ led.map (·.1)
 L:a≠C.L
 B:C.B.get? a=none
structure XB (C:Cx)(c:Str)(ea:Addr)(h:Heap)(led:Led)(oe:Obj)(vs:Array Value)(Ca:Addr):Prop where
 cls:ce C.w.params c Ca
 get:h.get? ea=some oe
 ocls:oe.cls= .ref Ca
 data:oe.data= .fields vs
 sz:1<vs.size
 aw:Away C led ea
structure XT (C:Cx)(ea:Addr)(h:Heap)(led:Led)(vs:Array Value)(T:Addr)(oT:Obj)(ts:Array Value)(t3:Value):Prop where
 at1:vs[1]?=some (.ref T)
 ne:T≠ea
 get:h.get? T=some oT
 data:oT.data= .fields ts
 at3:ts[3]?=some t3
 aw:Away C led T
inductive XO (C:Cx)(n:Bool)(c:Str)(ea:Addr)(h:Heap)(led:Led):Prop
 |fresh (oe:Obj) (vs:Array Value) (Ca:Addr) (b:XB C c ea h led oe vs Ca) (hn:n=false) (h1:vs[1]?=some .none)
 |noted (oe:Obj) (vs:Array Value) (Ca:Addr) (b:XB C c ea h led oe vs Ca) (T:Addr) (oT:Obj) (ts:Array Value) (t3:Value) (t:XT C ea h led vs T oT ts t3)
inductive SX (C:Cx)(n:Bool)(φ:List Addr)(imm:Led)(σ:aa)(c:Str)(ea:Addr)(h:Heap):Prop
 |mk (m:Str→Option Value) (mu prot:Led) (S:SD C φ imm m σ h mu prot) (x:XO C n c ea h (mu++(imm++prot)))
theorem XO.away {C C':Cx}{n n':Bool}{c:Str}{ea:Addr}{h:Heap}{led led':Led}(x:XO C n c ea h led)(hw:C'.w=C.w)(ha:∀a,Away C led a→Away C' led' a)(hn:n=false→n'=false):XO C' n' c ea h led':=by
 cases x with
 |fresh oe vs Ca b e h1=>exact .fresh oe vs Ca ⟨hw▸b.cls,b.get,b.ocls,b.data,b.sz,ha _ b.aw⟩ (hn e) h1
 |noted oe vs Ca b T oT ts t3 t=>exact .noted oe vs Ca ⟨hw▸b.cls,b.get,b.ocls,b.data,b.sz,ha _ b.aw⟩ T oT ts t3 ⟨t.at1,t.ne,t.get,t.data,t.at3,ha _ t.aw⟩
theorem XO.cls {C:Cx}{n:Bool}{c:Str}{ea:Addr}{h:Heap}{led:Led}(x:XO C n c ea h led):∃oe Ca,ce C.w.params c Ca∧h.get? ea=some oe∧oe.cls= .ref Ca:=by
 cases x with
 |fresh oe vs Ca b _ _=>exact Jp oe Ca b.cls b.get b.ocls
 |noted oe vs Ca b _ _ _ _ _=>exact Jp oe Ca b.cls b.get b.ocls
theorem SX.weak {C:Cx}{n:Bool}{φ:List Addr}{imm:Led}{σ:aa}{c:Str}{ea:Addr}{h:Heap}(x:SX C n φ imm σ c ea h):SX C false φ imm σ c ea h:=by
 cases x with
 |mk m mu prot S x=>exact .mk m mu prot S (x.away rfl (fun _ h=>h) fun _=>rfl)
theorem LR.mono {C:Cx}{φ φ':List Addr}{imm imm':Led}{ρ:Loc}{m:Str→Option Value}(hφ:φ<+:φ')(hi:∀p∈imm,p∈imm')(x:LR C φ imm ρ m):LR C φ' imm' ρ m:=fun y v k e q=>
 (x y v k e q).imp (fun h=>⟨h.1,fun hu=>(h.2 hu).imp fun _ h=>⟨h.1,h.2.mono hφ hi⟩⟩) fun h=>⟨h.1,fun hu=>(h.2 hu).imp fun _=>Exists.imp fun _=>Exists.imp fun _ h=>⟨h.1,hi _ h.2.1,h.2.2.1,h.2.2.2.mono hφ hi⟩⟩
structure Gh where
 φ:List Addr
 imm:Led
 m:Str→Option Value
 s:Shared
structure St (C:Cx)(ρ:Loc)(σ:aa)(g:Gh):Prop where
 S:SI C g.φ g.imm g.m σ g.s.heap
 L:LR C g.φ g.imm ρ g.m
structure Le (g g':Gh):Prop where
 φ:g.φ<+:g'.φ
 imm:∀p∈g.imm,p∈g'.imm
 like:g'.s={g.s with heap:=g'.s.heap,toks:=g'.s.toks}
noncomputable abbrev Gh.at (g:Gh)(imm:Led)(h:Heap)(tk:Nat):Gh:=⟨g.φ,imm,g.m,{g.s with heap:=h,toks:=tk}⟩
noncomputable abbrev Rg (C:Cx)(g:Gh)(x:MV)(v:Value):Prop:=Rv C.w.params C.B g.φ g.imm x v
noncomputable abbrev Rgl (C:Cx)(g:Gh)(l:List MV)(vs:List Value):Prop:=Rvl C.w.params C.B g.φ g.imm l vs
section
variable {C:Cx}{ρ:Loc}{σ σ':aa}{g g' g'':Gh}{imm:Led}{h:Heap}{tk:Nat}{x:MV}{v:Value}{l:List MV}{vs:List Value}
theorem Le.refl:Le g g:=⟨List.prefix_refl _,fun _ h=>h,rfl⟩
theorem Le.trans (a:Le g g')(b:Le g' g''):Le g g'':=⟨a.φ.trans b.φ,fun p h=>b.imm p (a.imm p h),b.like.trans (congrArg (fun s:Shared=>{s with heap:=g''.s.heap,toks:=g''.s.toks}) a.like)⟩
theorem Le.at (c:∀p∈g.imm,p∈imm):Le g (g.at imm h tk):=⟨List.prefix_refl _,c,rfl⟩
theorem Le.on:Le g (g.at g.imm h tk):=⟨List.prefix_refl _,fun _ h=>h,rfl⟩
theorem St.at (T:St C ρ σ g)(c:∀p∈g.imm,p∈imm)(S:SI C g.φ imm g.m σ' h):St C ρ σ' (g.at imm h tk):=⟨S,T.L.mono (List.prefix_refl _) c⟩
theorem St.on (T:St C ρ σ g)(S:SI C g.φ g.imm g.m σ' h):St C ρ σ' (g.at g.imm h tk):=⟨S,T.L⟩
theorem Rv.le (R:Rg C g x v)(a:Le g g'):Rg C g' x v:=R.mono a.φ a.imm
theorem Rvl.le (R:Rgl C g l vs)(a:Le g g'):Rgl C g' l vs:=R.mono a.φ a.imm
end
noncomputable def dm (C:Cx)(g:Gh)(X:XP)(E:Value→Shared→Prop):Prop:=∀c σ' g' ea,X c σ'→Le g g'→SX C false g'.φ g'.imm σ' c ea g'.s.heap→E (.ref ea) g'.s
noncomputable def gE (C:Cx)(ρ:Loc)(g:Gh)(Q:MV→aa→Prop)(K:Value→Shared→Prop):Prop:=∀x σ' g' v,Q x σ'→Le g g'→St C ρ σ' g'→Rg C g' x v→K v g'.s
noncomputable def ur (C:Cx)(ρ:Loc)(g:Gh)(Q:List MV→aa→Prop)(K:List Value→Shared→Prop):Prop:=∀x σ' g' v,Q x σ'→Le g g'→St C ρ σ' g'→Rgl C g' x v→K v g'.s
structure EndB (C:Cx)(ρ:Loc)(g:Gh)(KT KF:aa→Prop)(K:Bool→Shared→Prop):Prop where
 t:∀σ' g',KT σ'→Le g g'→St C ρ σ' g'→K true g'.s
 f:∀σ' g',KF σ'→Le g g'→St C ρ σ' g'→K false g'.s
noncomputable def WE (C:Cx)(ρ:Loc)(e:PySem.Expr)(σ:aa)(Q:MV→aa→Prop)(X:XP):Prop:=∀g K E,St C ρ σ g→gE C ρ g Q K→dm C g X E→wpAny (model pw C.w) C.A (eval e C.env) K E g.s
noncomputable def WT (C:Cx)(ρ:Loc)(e:PySem.Expr)(σ:aa)(KT KF:aa→Prop):Prop:=∀g K E,St C ρ σ g→EndB C ρ g KT KF K→wpAny (model pw C.w) C.A (isTrue e C.env (eval e C.env)) K E g.s
noncomputable def WL (C:Cx)(ρ:Loc)(es:List PySem.Expr)(σ:aa)(Q:List MV→aa→Prop)(X:XP):Prop:=∀g K E pos,St C ρ σ g→ur C ρ g Q K→dm C g X E→wpAny (model pw C.w) C.A (spliced (backTo pos (starEach es C.env))) K E g.s
section
variable {C:Cx}{ρ:Loc}{g g':Gh}{X X':XP}{E:Value→Shared→Prop}{Q Q':MV→aa→Prop}{K:Value→Shared→Prop}{KT KF:aa→Prop}{KB:Bool→Shared→Prop}{QL:List MV→aa→Prop}{KL:List Value→Shared→Prop}{e:PySem.Expr}{σ:aa}
theorem dm.le (P:dm C g X E)(a:Le g g'):dm C g' X E:=fun c σ' g2 ea q b=>P c σ' g2 ea q (a.trans b)
theorem dm.no:dm C g noX E:=fun _ _ _ _ q=>q.elim
theorem gE.le (P:gE C ρ g Q K)(a:Le g g'):gE C ρ g' Q K:=fun x σ' g2 v q b=>P x σ' g2 v q (a.trans b)
theorem ur.le (P:ur C ρ g QL KL)(a:Le g g'):ur C ρ g' QL KL:=fun x σ' g2 v q b=>P x σ' g2 v q (a.trans b)
theorem EndB.le (P:EndB C ρ g KT KF KB)(a:Le g g'):EndB C ρ g' KT KF KB:=⟨fun σ' g2 q b=>P.t σ' g2 q (a.trans b),fun σ' g2 q b=>P.f σ' g2 q (a.trans b)⟩
theorem WE.mono (h:WE C ρ e σ Q X)(hQ:∀x σ',Q x σ'→Q' x σ')(hX:∀c σ',X c σ'→X' c σ'):WE C ρ e σ Q' X':=fun g K E T P PX=>h g K E T (fun x σ' g' v q=>P x σ' g' v (hQ x σ' q)) fun c σ' g' ea q=>PX c σ' g' ea (hX c σ' q)
end
section
variable {C:Cx}{ρ:Loc}{σ:aa}{e l r:PySem.Expr}{pos:Pos}{Q Q1:MV→aa→Prop}{Q2:MV→MV→aa→Prop}{X:XP}{KT KF KT1 KF1:aa→Prop}
theorem pd (h:WE C ρ e σ Q1 noX)(h1:∀x σ₁,Q1 x σ₁→BoolEx x (KT σ₁) (KF σ₁))(he:isTrue e C.env (eval e C.env)=(do let v ← eval e C.env;standAt e.pos;holding [v] (truthy v)):=by rfl):WT C ρ e σ KT KF:=
 fun g K E T P=>isTrue_plain (h g _ E T (fun x σ₁ g1 v q a T1 R=>(h1 x σ₁ q).elim (fun e p=>bu R (congrArg cB e) (P.t σ₁ g1 p a T1)) fun e p=>bu R (congrArg cB e) (P.f σ₁ g1 p a T1)) .no) he
theorem uM {op:Operator}(h1:WE C ρ l σ Q1 X)(h2:∀x σ₁,Q1 x σ₁→WE C ρ r σ₁ (Q2 x) X)(h3:∀x y σ₂,Q2 x y σ₂→OptEx (gm σ₂ op x y) fun z=>Q z σ₂):WE C ρ (.BinOp l op r pos) σ Q X:=
 fun g K E T P PX=>wpAny_BinOp (h1 g _ E T (fun x σ₁ g1 rx q1 a T1 R1=>h2 x σ₁ q1 g1 _ E T1 (fun y σ₂ g2 ry q2 b T2 R2=>
  (h3 x y σ₂ q2).elim fun z hz q=>Bg T2.S (R1.le b) R2 hz fun imm h tk v c S3 R3=>P z σ₂ (g2.at imm h tk) v q ((a.trans b).trans (.at c)) (T2.at c S3) R3) (PX.le a)) PX)
theorem qi {op:UnaryOp}(h1:WE C ρ l σ Q1 X)(h2:∀x σ₁,Q1 x σ₁→OptEx (mun op x) fun z=>Q z σ₁):WE C ρ (.UnaryOp op l pos) σ Q X:=
 fun g K E T P PX=>UnaryOp_ (h1 g _ E T (fun x σ₁ g1 rx q1 a T1 R1=>(h2 x σ₁ q1).elim fun z hz q=>BA R1 hz fun tk v R2=>P z σ₁ (g1.at g1.imm g1.s.heap tk) v q (a.trans .on) (T1.on T1.S) R2) PX)
theorem pg {t a b:PySem.Expr}(h:WT C ρ t σ KT KF)(h1:∀σ₁,KT σ₁→WE C ρ a σ₁ Q X)(h2:∀σ₁,KF σ₁→WE C ρ b σ₁ Q X):WE C ρ (.IfExp t a b pos) σ Q X:=
 fun g K E T P PX=>IfExp_ (h g _ E T ⟨fun σ₁ g1 q l T1=>h1 σ₁ q g1 K E T1 (P.le l) (PX.le l),fun σ₁ g1 q l T1=>h2 σ₁ q g1 K E T1 (P.le l) (PX.le l)⟩)
end
end
section
noncomputable def eY (P:Params):Prop:=(∀x,cV.contains x=true→∃v,bJ P x v∧∀i,dP x=some i→∃t,v= .int i t)∧(∀x,cV.contains x=true→(x==("__debug__":Str))=false)
theorem vW {P:Params}{B:Heap}{imm:Led}{x:Str}{v:Value}(h:bJ P x v)(hc:∀i,dP x=some i→∃t,v= .int i t):Sv P B imm (py x) v:=by
 unfold py
 refine Js (o:=dP x) (fun e=>?_) fun i e=>?_;rotate_left
 ·try refine Kh e▸?_
  exact hc i e
 ·try refine Kh e▸?_
  exact h
theorem q9 {C:Cx}(ok:CxOk C){x:Str}{v:Value}{φ:List Addr}{imm:Led}{m:Str→Option Value}{σ:aa}{s:Shared}{Q E:Value→Shared→Prop}(S:SI C φ imm m σ s.heap)(h:bJ C.w.params x v)(q:Q v s):
  wpAny (model pw C.w) C.A (loadGlobal C.env x) Q E s:=by
 refine Jm S ?_;clear S;intro mu prot S
 refine Jf ok.T.g fun mg hg=>?_
 refine tr ok.T.b fun mb hb hbb=>?_
 have hg':s.heap.Ns C.env.globals mg:=by refine Kh ok.globals▸?_;exact hg.keeps S.F.keep
 have hb':s.heap.Ns C.env.builtins mb:=by refine Kh ok.builtins▸?_;exact hb.keeps S.F.keep
 rcases h with h|⟨h1,h2,h3⟩
 ·exact loadGlobal_global hg' (mg_of ok.K hg h) q
 ·exact loadGlobal_builtin hg' (mg_none_of ok.K hg h1) hb' ((hbb x h2).trans h3) q
section
variable {C:Cx}{ρ:Loc}{σ σ₁ σ₂:aa}{e l r:PySem.Expr}{pos:Pos}{x y v:MV}{c:Str}{Q Q1:MV→aa→Prop}{X:XP}{KT KF KM:aa→Prop}
theorem mH {sc:aV}{n:Str}{G:Prop}(h:cP sc ρ n=some v)(hl:ρ.lookup n=some v→v≠.undef→(sc.lookup n).isSome=true→(n==("__debug__":Str))=false→G)
  (hg:cV.contains n=true∧sc.lookup n=some .globalImplicit→py n=v→G):G:=by
 have h:(ρ.lookup n).elim _ _=some v:=h
 refine Js (o:=ρ.lookup n) (fun e=>?_) fun w e=>?_
 ·try refine Kh e▸?_
  replace h:=e▸h
  exact cv h (fun hc e=>hg ⟨a9 hc,eq_of_beq (bz hc)⟩ e)
 ·try refine Kh e▸?_
  replace h:=e▸h
  refine cv h fun hc e'=>?_
  subst e'
  exact hl e (fun q=>by subst q;exact Jq (bz hc)) (bz (a9 hc)) ((Bool.not_eq_true' _).mp (a9 (a9 hc)))
theorem dJ (ok:CxOk C)(G:eY C.w.params){n:Str}{φ:List Addr}{imm:Led}{m:Str→Option Value}{s:Shared}{Q E:Value→Shared→Prop}(S:SI C φ imm m σ s.heap)(L:LR C φ imm ρ m)
  (hn:cP C.env.scope.names ρ n=some v) (q:∀rv,Rv C.w.params C.B φ imm v rv→Q rv s):wpAny (model pw C.w) C.A (eval (.Name n pos) C.env) Q E s:=by
 refine Jm S ?_;clear S;intro mu prot S
 have hkind:=ok.kind
 refine mH hn (fun hl hu hs hd=>?_) fun hg hk=>?_
 ·refine Jf (Option.isSome_iff_exists.mp hs) fun k hk=>?_
  rcases L n v k hl hk with h|h
  ·refine tr (h.2 hu) fun rv hm hr=>?_
   exact wpAny_Name (wpAny_loadName_local hkind (h.1▸hk) (ok.locals.symm▸S.F.ns) hm (q rv hr)) hd
  ·refine JQ (h.2 hu) fun c o rv hc hm hd' hr=>?_
   have hcell:s.heap.IsCell c (some rv):=⟨o,S.N.get (List.mem_append_right _ (List.mem_append_left _ hm)),hd'⟩
   rcases h.1 with h1|h1
   ·exact wpAny_Name (wpAny_loadName_cell hkind (h1▸hk) hc hcell (q rv hr)) hd
   ·exact wpAny_Name (wpAny_loadName_free hkind (h1.1▸hk) hc hcell (q rv hr) (beq_false_of_ne h1.2)) hd
 ·refine tr (G.1 n hg.1) fun rv hgl hc=>?_
  exact Name_function_global hkind hg.2 (q9 ok ⟨mu,prot,S⟩ hgl (q rv (hk▸(vW hgl hc).toRv))) (G.2 n hg.1)
theorem nM (ok:CxOk C)(G:eY C.w.params){n:Str}(hn:cP C.env.scope.names ρ n=some v)(q:Q v σ):WE C ρ (.Name n pos) σ Q X:=
 fun g _ _ T P _=>dJ ok G T.S T.L hn fun rv R=>P v σ g rv q .refl T R
theorem ph {k:Const}{n:Nat}(hv:om k=some v)(q:Q v σ):WE C ρ (.Constant k n pos) σ Q X:=by
 intro g K E T P _
 cases k with
 |none=>exact wpAny_Constant_none (P v σ g _ q .refl T (Jk hv fun e=>e▸rfl))
 |bool b=>exact wpAny_Constant_bool (P v σ g _ q .refl T (Jk hv fun e=>e▸rfl))
 |int i=>exact wpAny_Constant_int (P v σ (g.at g.imm g.s.heap _) _ q .on (T.on T.S) (Jk hv fun e=>e▸⟨_,rfl⟩))
 |str x=>exact wpAny_Constant_str (P v σ (g.at g.imm g.s.heap _) _ q .on (T.on T.S) (Jk hv fun e=>e▸⟨_,rfl⟩))
 |_=>exact Ji hv
theorem Bt (h:WT C ρ l σ KF KT):WT C ρ (.UnaryOp .Not l pos) σ KT KF:=fun g _ E T P=>isTrue_not (h g _ E T ⟨P.f,P.t⟩)
theorem uL {op:BoolOp}(h:WE C ρ e σ Q X):WE C ρ (.BoolOp op [e] pos) σ Q X:=h
theorem Bv {e':PySem.Expr}{es:List PySem.Expr}(h:WE C ρ e σ Q1 noX)(h1:∀x σ₁,Q1 x σ₁→BoolEx x (WE C ρ (.BoolOp .And (e'::es) pos) σ₁ Q X) (Q (.bool false) σ₁)):WE C ρ (.BoolOp .And (e::e'::es) pos) σ Q X:=
 fun g K E T P PX=>BoolOp_and (h g _ E T (fun x σ₁ g1 rv q a T1 R1=>(h1 x σ₁ q).elim (fun e w=>bu R1 (congrArg cB e) (w g1 K E T1 (P.le a) (PX.le a)))
  fun e q=>bu R1 (congrArg cB e) (P _ σ₁ g1 rv q a T1 (e▸R1))) .no)
theorem HW {e':PySem.Expr}{es:List PySem.Expr}(h:WE C ρ e σ Q1 noX)(h1:∀x σ₁,Q1 x σ₁→BoolEx x (Q (.bool true) σ₁) (WE C ρ (.BoolOp .Or (e'::es) pos) σ₁ Q X)):WE C ρ (.BoolOp .Or (e::e'::es) pos) σ Q X:=
 fun g K E T P PX=>BoolOp_or (h g _ E T (fun x σ₁ g1 rv q a T1 R1=>(h1 x σ₁ q).elim (fun e q=>bu R1 (congrArg cB e) (P _ σ₁ g1 rv q a T1 (e▸R1)))
  fun e w=>bu R1 (congrArg cB e) (w g1 K E T1 (P.le a) (PX.le a))) .no)
theorem uN (h:WT C ρ e σ KT KF):WT C ρ (.BoolOp .And [e] pos) σ KT KF:=fun g _ E T P=>isTrue_and (h g _ E T ⟨fun σ₁ g1 q l T1=>isTrue_and_nil (P.t σ₁ g1 q l T1),P.f⟩)
theorem zn (h:WT C ρ e σ KT KF):WT C ρ (.BoolOp .Or [e] pos) σ KT KF:=fun g _ E T P=>isTrue_or (h g _ E T ⟨P.t,fun σ₁ g1 q l T1=>isTrue_or_nil (P.f σ₁ g1 q l T1)⟩)
theorem zw {es:List PySem.Expr}(h:WT C ρ e σ KM KF)(h1:∀σ₁,KM σ₁→WT C ρ (.BoolOp .And es pos) σ₁ KT KF):WT C ρ (.BoolOp .And (e::es) pos) σ KT KF:=fun g K E T P=>isTrue_and (h g _ E T ⟨fun σ₁ g1 q l T1=>h1 σ₁ q g1 K E T1 (P.le l),P.f⟩)
theorem Bs {es:List PySem.Expr}(h:WT C ρ e σ KT KM)(h1:∀σ₁,KM σ₁→WT C ρ (.BoolOp .Or es pos) σ₁ KT KF):WT C ρ (.BoolOp .Or (e::es) pos) σ KT KF:=fun g K E T P=>isTrue_or (h g _ E T ⟨P.t,fun σ₁ g1 q l T1=>h1 σ₁ q g1 K E T1 (P.le l)⟩)
end
end
section
structure ClsOk (P:Params)(C:Str)(Ca:Addr):Prop where
 get:plainGet (KF P) Ca ""=true
 dict:hasDictIn (KF P) Ca=true
 set:findIn (KF P) (.ref Ca) "__setattr__"=some (some (.builtin "object.__setattr__"))
 over:plainOver (KF P) Ca=true
 makes:makesIn (KF P) Ca=true
 keep:keepIn (KF P) (.ref Ca)=true
 field:∀n,eT C n=true→findIn (KF P) (.ref Ca) n=some none
structure ClsFacts (P:Params):Prop where
 ok:∀C Ca,cu C=true→ce P C Ca→ClsOk P C Ca
theorem bc {α:Type}{l:List (Str × α)}{x:Str}{v:α}:((x,v)::l).lookup x=some v:=List.lookup_cons_self
theorem aX {α:Type}{l:List (Str × α)}{n x:Str}{v:α}(h:n≠x):((x,v)::l).lookup n=l.lookup n:=by
 rewrite[List.lookup_cons];refine Kh (beq_false_of_ne h)▸?_;rfl
theorem io {α β:Type}{o:Option α}{n y:β}{f:α→β}{G:Prop}(h:o.elim n f=y)(hn:o=none→n=y→G)(hs:∀w,o=some w→f w=y→G):G:=by
 cases o with
 |none=>exact hn rfl h
 |some w=>exact hs w rfl h
theorem gP {C n:Str}(h:eT C n=true):cu C=true:=by
 refine io h (fun _ e=>Jq e) fun l e _=>?_
 have hm:=mem_of_lookup e
 rcases List.mem_cons.mp hm with h|hm
 ·cases h;rfl
 ·rcases List.mem_cons.mp hm with h|hm
  ·cases h;rfl
  ·rcases List.mem_cons.mp hm with h|hm
   ·cases h;rfl
   ·cases hm
theorem aM {x:MV}{i:Int}(h:bQ x=some i):x= .int i:=by
 cases x with
 |int j=>exact congrArg MV.int (Option.some.inj h)
 |_=>exact Ji h
theorem nD {x:MV}{l:List MV}(h:nE x=some l):x= .list l:=by
 cases x with
 |list j=>exact congrArg MV.list (Option.some.inj h)
 |_=>exact Ji h
theorem cL {v:MV}{i:Nat}(h:jy v=some i):v= .ref i:=by
 cases v with
 |ref j=>exact congrArg MV.ref (Option.some.inj h)
 |_=>exact Ji h
theorem ve {P:Params}{B:Heap}{φ:List Addr}{imm:Led}{b:Bool}{rv:Value}(h:Rv P B φ imm (.bool b) rv):rv= .bool b:=h
theorem jx {v:MV}{l:List MV}(h:eN v=some l):v= .tup l:=by
 cases v with
 |tup j=>exact congrArg MV.tup (Option.some.inj h)
 |_=>exact Ji h
theorem cI {n:Nat}(h:n≤ai):n≤sizeLine:=Nat.le_trans h (by rewrite[sizeLine_eq];decide)
theorem eV {o:MO}{p:Str × List (Str × MV)}(h:fF o=some p):o= .inst p.1 p.2:=by
 cases o with
 |inst C fs=>exact Option.some.inj h▸rfl
 |_=>exact Ji h
theorem gb {o:MO}{l:List MV}(h:p4 o=some l):o= .list l:=by
 cases o with
 |list l=>exact congrArg MO.list (Option.some.inj h)
 |_=>exact Ji h
theorem n9 {v w:MV}(h:pv v=some w):v=w∧∀g,w≠.glob g:=by
 by_cases c:pK v=true
 ·exact Ji ((if_pos c).symm.trans h)
 ·have e:=Option.some.inj ((if_neg c).symm.trans h)
  exact Jg e (fun g q=>c (e.trans q▸rfl))
theorem mI {σ:aa}{o v:MV}{n:Str}{G:Prop}(h:dL σ o n=some v)(k:∀id K fs,o= .ref id→σ[id]?=some (.inst K fs)→eT K n=true→jO fs n=some v→(∀g,v≠.glob g)→G):G:=by
 refine tr (Option.bind_eq_some_iff.mp h) fun id h1 h=>?_
 refine tr (Option.bind_eq_some_iff.mp h) fun ob h2 h=>?_
 refine tr (Option.bind_eq_some_iff.mp h) fun p h3 h=>?_
 refine gR h fun h4 h=>?_
 refine tr (Option.bind_eq_some_iff.mp h) fun w h5 h=>?_
 refine Jh (n9 h) fun h6 h7=>?_
 exact k id p.1 p.2 (cL h1) (eV h3▸h2) h4 (h6▸h5) h7
theorem Ai {n x:Str}{t:Tok}{hsh:Int}{v:Value}:(DictEntry.mk hsh (.str x t) v).key.isStr n=(x==n):=rfl
theorem tH {n:Str}{t:Tok}{hsh:Int}{v:Value}{r:List DictEntry}:getL n (⟨hsh,.str n t,v⟩::r)=some (some v):=by
 have:List.find? (fun e:DictEntry=>e.key.isStr n) (⟨hsh,.str n t,v⟩::r)=some ⟨hsh,.str n t,v⟩:=List.find?_cons_of_pos (beq_self_eq_true n)
 unfold getL;refine Kh this▸?_;rfl
theorem kl {n x:Str}{t:Tok}{hsh:Int}{v:Value}{r:List DictEntry}(h:n≠x):getL n (⟨hsh,.str x t,v⟩::r)=getL n r:=by
 have:List.find? (fun e:DictEntry=>e.key.isStr n) (⟨hsh,.str x t,v⟩::r)=r.find? (fun e=>e.key.isStr n):=List.find?_cons_of_neg (fun q=>h (eq_of_beq (Ai.symm.trans q)).symm)
 unfold getL;refine Kh this▸?_;rfl
section
variable {C:Cx}{ρ:Loc}{σ σ₁ σ₂:aa}{e l r:PySem.Expr}{pos:Pos}{x y v:MV}{c:Str}{Q Q1:MV→aa→Prop}{X:XP}{KT KF:aa→Prop}{QL:List MV→aa→Prop}
theorem oQ {P:Params}{B:Heap}{φ:List Addr}{imm:Led}{n:Str}{v:MV}{fs:List (Str × MV)}:∀{es:List DictEntry},aZ P B φ imm fs es→jO fs n=some v→∃rv,getL n es=some (some rv)∧Rv1 P B φ imm v rv:=by
 induction fs with
 |nil=>exact fun _ h=>Ji h
 |cons p fs ih=>
  intro es e h
  refine Jz e ?_;clear e;intro hsh t rv r κ;subst κ;intro e2 e3
  by_cases q:n=p.1
  ·subst q
   exact Jl rv tH (Option.some.inj (bc.symm.trans h)▸e2)
  ·exact(ih e3 ((aX q).symm.trans h)).imp fun _ h=>⟨(kl q).trans h.1,h.2⟩
theorem SD.instAt {φ:List Addr}{imm:Led}{m:Str→Option Value}{h:Heap}{mu prot:Led}(S:SD C φ imm m σ h mu prot){i:Nat}{K:Str}{fs:List (Str × MV)}{rv:Value}(hr:Rv C.w.params C.B φ imm (.ref i) rv)(hi:σ[i]?=some (.inst K fs)):
  ∃a dx Ca es n,rv= .ref a∧φ[i]?=some a∧ce C.w.params K Ca∧aZ C.w.params C.B φ imm fs es∧W.InstAt h a (instObj Ca dx) Ca (some (dictOf es n))∧(a,instObj Ca dx)∈mu∧(dx,dictOf es n)∈mu:=by
 refine tr hr ?_;clear hr;intro a ha e0
 refine Ju (S.M.split hi) fun a' e m1 m2 h1 h2 h3 h4=>?_
 have:=Option.some.inj (ha.symm.trans h1)
 subst this e0
 refine Jz h3 ?_;clear h3;intro Ca dx es n e1 e2 e3
 have hm:∀p∈e,p∈mu:=fun p hp=>h2▸List.mem_append_right _ (List.mem_append_left _ hp)
 have q1:(a,instObj Ca dx)∈mu:=hm _ (e1▸.head _)
 have q2:(dx,dictOf es n)∈mu:=hm _ (e1▸.tail _ (.head _))
 exact J8 a dx Ca es n rfl ha e2 e3 (InstAt.of_news S.N (List.mem_append_left _ q1) (List.mem_append_left _ q2)) q1 q2
theorem n0 {P:Params}{B:Heap}{φ:List Addr}{imm:Led}{v:MV}{rv:Value}(hg:∀g,v≠.glob g)(h:Rv1 P B φ imm v rv):handedIn rv=true:=by
 cases v with
 |undef=>exact h.elim
 |ref i=>refine tr h ?_;clear h;intro a _ κ;subst κ;rfl
 |none=>
  have h:rv= .none:=h
  subst h;rfl
 |bool b=>
  have h:rv= .bool b:=h
  subst h;rfl
 |int i=>
  obtain⟨t,rfl⟩:∃t,rv= .int i t:=h
  rfl
 |str i=>
  obtain⟨t,rfl⟩:∃t,rv= .str i t:=h
  rfl
 |bytes b=>
  have h:b.length≤sizeLine∧∃t,rv= .bytes b.toArray t:=h
  rcases h with ⟨_,t,rfl⟩;rfl
 |tup l=>refine JO h ?_;clear h;intro a _ _ _ κ;subst κ;intro _;rfl
 |list l=>refine JO h ?_;clear h;intro a _ _ _ κ;subst κ;intro _;rfl
 |glob g=>exact absurd rfl (hg g)
theorem pZ (ok:CxOk C)(K:ClsFacts C.w.params){φ:List Addr}{imm:Led}{m:Str→Option Value}{s:Shared}{Q E:Value→Shared→Prop}{n:Str}{ro:Value}{ex:Bool}(S:SI C φ imm m σ s.heap)(ho:Rv C.w.params C.B φ imm x ro)(hb:dL σ x n=some v)
  (hq:∀tk rv,Rv C.w.params C.B φ imm v rv→Q rv {s with toks:=tk}):wpAny (model pw C.w) C.A (getAttr ro n ex) Q E s:=by
 refine Jm S ?_;clear S;intro mu prot S
 refine mI hb fun id cl fs e hi hf hg hn=>?_
 refine JW (S.instAt (e▸ho) hi) ?_;intro a dx Ca es k κ;subst κ;intro ha hc hfs hI q1 q2
 have CO:=K.ok cl Ca (gP hf) hc
 refine tr (oQ hfs hg) fun rv g1 g2=>?_
 exact get_own S.F ok.K hI CO.get CO.dict (CO.field n hf) (by rfl) g1 (n0 hn g2) (hq _ rv g2.toRv)
theorem rj {env:Env}{n:Str}(hp:b5 e=true):eval (.Attribute e n pos) env=(do
  let o ← eval e env
  standAt pos.atName
  let r ← holding [o] (getAttr o n true)
  letTemporaryGo e o r
  pure r):=by cases e<;>first|rfl|exact Jq hp
theorem zv (ok:CxOk C)(K:ClsFacts C.w.params){n:Str}(hp:b5 e=true)(h1:WE C ρ e σ Q1 noX)(h2:∀x σ₁,Q1 x σ₁→OptEx (dL σ₁ x n) fun z=>Q z σ₁):WE C ρ (.Attribute e n pos) σ Q X:=
 fun g _ E T P _=>Attribute_any_ (h1 g _ E T (fun x σ₁ g1 rx q a T1 R1=>(h2 x σ₁ q).elim fun z hz q=>pZ ok K T1.S R1 hz fun tk v R2=>P z σ₁ (g1.at g1.imm g1.s.heap tk) v q (a.trans .on) (T1.on T1.S) R2) .no) (rj hp)
theorem zq {i:PySem.Expr}{Q2:MV→MV→aa→Prop}(h1:WE C ρ e σ Q1 X)(h2:∀x σ₁,Q1 x σ₁→WE C ρ i σ₁ (Q2 x) noX)(h3:∀x y σ₂,Q2 x y σ₂→OptEx (eD σ₂ x y) fun z=>Q z σ₂):WE C ρ (.Subscript e i pos) σ Q X:=
 fun g _ E T P PX=>Subscript_ (h1 g _ E T (fun x σ₁ g1 rx q1 a T1 R1=>h2 x σ₁ q1 g1 _ E T1 (fun y σ₂ g2 ry q2 b T2 R2=>
  (h3 x y σ₂ q2).elim fun z hz q=>vN T2.S (R1.le b) R2 hz fun tk v R3=>P z σ₂ (g2.at g2.imm g2.s.heap tk) v q ((a.trans b).trans .on) (T2.on T2.S) R3) .no) PX)
noncomputable def WO (C:Cx)(ρ:Loc)(e:Option PySem.Expr)(σ:aa)(Q:MV→aa→Prop):Prop:=∀g K E,St C ρ σ g→gE C ρ g Q K→wpAny (model pw C.w) C.A (valueOrNone (evalOpt e C.env)) K E g.s
theorem zi (q:Q .none σ):WO C ρ none σ Q:=fun g _ _ T P=>wpAny_pure (P .none σ g _ q .refl T rfl)
theorem zh (h:WE C ρ e σ Q noX):WO C ρ (some e) σ Q:=fun g K E T P=>h g K E T P .no
theorem uI {lo hi st:Option PySem.Expr}{p:Pos}{A1:MV→MV→aa→Prop}{A2:MV→MV→MV→aa→Prop}{A3:MV→MV→MV→MV→aa→Prop}(h1:WE C ρ e σ Q1 X)(h2:∀x σ₁,Q1 x σ₁→WO C ρ lo σ₁ (A1 x))(h3:∀x y σ₁,A1 x y σ₁→WO C ρ hi σ₁ (A2 x y))(h4:∀x y z σ₁,A2 x y z σ₁→WO C ρ st σ₁ (A3 x y z))
  (h5:∀x y z w σ₁,A3 x y z w σ₁→OptEx (oh σ₁ x y z w) fun z=>Q z σ₁):WE C ρ (.Subscript e (.Slice lo hi st p) pos) σ Q X:=by
 intro g K E T P PX
 refine Subscript_ (h1 g _ E T (fun x σ₁ g1 rx q1 a T1 R1=>?_) PX)
 refine wpAny_bind (h2 x σ₁ q1 g1 _ E T1 fun y σ₂ g2 rl q2 b T2 R2=>?_)
 refine wpAny_bind (wpAny_holding (h3 x y σ₂ q2 g2 _ E T2 fun z σ₃ g3 rh q3 c T3 R3=>?_))
 refine wpAny_bind (wpAny_holding (h4 x y z σ₃ q3 g3 _ E T3 fun w σ₄ g4 rt q4 d T4 R4=>?_))
 refine(?_:wpAny (model pw C.w) C.A (newObj (.type "slice") (.fields #[rl,rh,rt])) _ E _)
 refine(h5 x y z w σ₄ q4).elim fun v hv q=>wpAny_newObj_type ?_ (by size_fits)
 refine Jm T4.S fun mu prot S4=>?_
 exact sh (s:={g4.s with heap:=g4.s.heap.push {cls:= .type "slice",data:= .fields #[rl,rh,rt]}}) ⟨mu,prot,S4.go (S4.F.push _) (S4.N.pushKeep _)⟩ (R1.le (b.trans (c.trans d))) (R2.le (c.trans d)) (R3.le d) R4
  (Heap.IsSliceOf.new _ _ _ _) hv fun imm h tk rv f S5 R5=>P v σ₄ (g4.at imm h tk) rv q ((a.trans (b.trans (c.trans d))).trans (.at f)) (T4.at f S5) R5
theorem sG {e:PySem.Expr}(h:cD e=false):∀x p,e≠.Starred x p:=fun x p q=>by subst q;exact JG h
theorem c8 {e:PySem.Expr}{r:List PySem.Expr}{env:Env}(h:cD e=false):starEach (e::r) env=(false,eval e env)::starEach r env:=by
 cases e<;>first|rfl|exact absurd rfl (sG h _ _)
theorem jX (q:QL [] σ):WL C ρ [] σ QL X:=fun g _ _ _ T P _=>spliced_none (P [] σ g [] q .refl T rfl)
theorem en {es:List PySem.Expr}{A1:MV→List MV→aa→Prop}(hs:cD e=false)(h1:WE C ρ e σ Q1 X)(h2:∀x σ₁,Q1 x σ₁→WL C ρ es σ₁ (A1 x) X)(h3:∀x vs σ₂,A1 x vs σ₂→QL (x::vs) σ₂):WL C ρ (e::es) σ QL X:=
 fun g _ E pos T P PX=>spliced_more (h1 g _ E T (fun x σ₁ g1 rx q1 a T1 R1=>h2 x σ₁ q1 g1 _ E pos T1 (fun vs σ₂ g2 rs q2 b T2 R2=>P (x::vs) σ₂ g2 _ (h3 x vs σ₂ q2) (a.trans b) T2 ⟨rx,rs,rfl,R1.le b,R2⟩) (PX.le a)) PX) (c8 hs)
theorem kS {P:Params}{B:Heap}{φ:List Addr}{imm:Led}{l:List MV}:∀{vs:List Value},Rvl P B φ imm l vs→vs.length=l.length:=by
 induction l with
 |nil=>exact fun e=>congrArg List.length e
 |cons a l ih=>
  intro vs e
  refine Jj e ?_;clear e;intro v r e1 e2 e3
  exact(congrArg List.length e1).trans (congrArg (·+1) (ih e3))
theorem qj {φ:List Addr}{imm:Led}{m:Str→Option Value}{s:Shared}{Q E:Value→Shared→Prop}{l:List MV}{vs:List Value}(S:SI C φ imm m σ s.heap)(hl:l.length≤ai)(hv:Rvl C.w.params C.B φ imm l vs)(hp:aW l=true)
  (hq:∀imm' h' tk rv,(∀p∈imm,p∈imm')→SI C φ imm' m σ h'→Rv C.w.params C.B φ imm' (.tup l) rv→Q rv {s with heap:=h',toks:=tk}):wpAny (model pw C.w) C.A (newTuple vs) Q E s:=by
 refine Jm S ?_;clear S;intro mu prot S
 have hz:=cI hl
 refine newTuple_N S.F S.N (fun h' F N=>?_) (by refine Kh (kS hv)▸?_;exact hz)
 refine hq _ h' s.toks _ (fun p hp=>.tail _ hp) ⟨mu,prot,S.immo F N fun p hp=>S.lt p hp⟩ ⟨_,vs,_,_,rfl,.inl (.head _),rfl,rfl,hz,(Rvl.parts hp hv).mono (List.prefix_refl _) (fun p hp=>.tail _ hp)⟩
theorem vJ {φ:List Addr}{imm:Led}{m:Str→Option Value}{s:Shared}{Q E:Value→Shared→Prop}{l:List MV}{vs:List Value}(S:SI C φ imm m σ s.heap)(hv:Svs C.w.params C.B imm l vs)(hl:l.length≤ai)
  (hq:∀imm' h' tk rv,(∀p∈imm,p∈imm')→SI C φ imm' m σ h'→Rv C.w.params C.B φ imm' (.list l) rv→Q rv {s with heap:=h',toks:=tk}):wpAny (model pw C.w) C.A (newList vs) Q E s:=by
 refine Jm S ?_;clear S;intro mu prot S
 have hz:=cI hl
 refine newList_N S.F S.N (fun h' F N=>?_) (by refine Kh hv.length▸?_;exact hz)
 have:=fR S F N (fun p hp=>S.lt p hp) hz hv
 exact hq _ h' s.toks _ (fun p hp=>.tail _ hp) this.1 this.2
theorem zp {es:List PySem.Expr}{A:List MV→aa→Prop}(h:WL C ρ es σ A X)(h1:∀vs σ₁,A vs σ₁→(noRefs vs=true∧vs.length≤ai)∧Q (.list vs) σ₁):WE C ρ (.List es pos) σ Q X:=
 fun g _ E T P PX=>List_ (h g _ E pos T (fun vs σ₁ g1 rs q a T1 R1=>vJ T1.S (Rvl.simple (h1 vs σ₁ q).1.1 R1) (h1 vs σ₁ q).1.2 fun imm h tk v b S2 R2=>P _ σ₁ (g1.at imm h tk) v (h1 vs σ₁ q).2 (a.trans (.at b)) (T1.at b S2) R2) PX)
theorem kK {es:List PySem.Expr}{A:List MV→aa→Prop}{k:Nat}(h:WL C ρ es σ A X)(h1:∀vs σ₁,A vs σ₁→(aW vs=true∧vs.length≤ai)∧Q (.tup vs) σ₁):WE C ρ (.Tuple es k pos) σ Q X:=
 fun g _ E T P PX=>Tuple_ (h g _ E pos T (fun vs σ₁ g1 rs q a T1 R1=>qj T1.S (h1 vs σ₁ q).1.2 R1 (h1 vs σ₁ q).1.1 fun imm h tk v b S2 R2=>P _ σ₁ (g1.at imm h tk) v (h1 vs σ₁ q).2 (a.trans (.at b)) (T1.at b S2) R2) PX)
structure WC (C:Cx)(ρ:Loc)(x:MV)(ops:List CmpOp)(rs:List PySem.Expr)(σ:aa)(KT KF:aa→Prop):Prop where
 v:∀g K E rx pos,St C ρ σ g→Rg C g x rx→EndB C ρ g KT KF (fun b s=>K (.bool b) s)→wpAny (model pw C.w) C.A (compareChain pos rx ops (evalEach rs C.env)) K E g.s
 t:∀g K E rx pos,St C ρ σ g→Rg C g x rx→EndB C ρ g KT KF K→wpAny (model pw C.w) C.A (testChain pos rx ops (evalEach rs C.env)) K E g.s
theorem Be (ok:CxOk C){op:CmpOp}(h:WE C ρ r σ Q1 noX)(h1:∀y σ₁,Q1 y σ₁→CmpEx (de σ₁ op x y) (KT σ₁) (KF σ₁)):WC C ρ x [op] [r] σ KT KF:=
 ⟨fun g _ E rx pos T R P=>chain_last (h g _ E T (fun y σ₁ g1 ry q a T1 R1=>(h1 y σ₁ q).elim (fun hc q=>eK ok T1.S (R.le a) R1 hc (P.t σ₁ g1 q a T1)) fun hc q=>eK ok T1.S (R.le a) R1 hc (P.f σ₁ g1 q a T1)) .no),
  fun g _ E rx pos T R P=>test_last (h g _ E T (fun y σ₁ g1 ry q a T1 R1=>(h1 y σ₁ q).elim (fun hc q=>eK ok T1.S (R.le a) R1 hc (wpAny_truthy_bool (P.t σ₁ g1 q a T1))) fun hc q=>eK ok T1.S (R.le a) R1 hc (wpAny_truthy_bool (P.f σ₁ g1 q a T1))) .no)⟩
theorem Bd (ok:CxOk C){op op':CmpOp}{ops:List CmpOp}{r':PySem.Expr}{rs:List PySem.Expr}(h:WE C ρ r σ Q1 noX)(h1:∀y σ₁,Q1 y σ₁→CmpEx (de σ₁ op x y) (WC C ρ y (op'::ops) (r'::rs) σ₁ KT KF) (KF σ₁)):WC C ρ x (op::op'::ops) (r::r'::rs) σ KT KF:=
 ⟨fun g K E rx pos T R P=>chain_link (h g _ E T (fun y σ₁ g1 ry q a T1 R1=>(h1 y σ₁ q).elim (fun hc w=>eK ok T1.S (R.le a) R1 hc (wpAny_truthy_bool (w.v g1 K E ry pos T1 R1 (P.le a)))) fun hc q=>eK ok T1.S (R.le a) R1 hc (wpAny_truthy_bool (P.f σ₁ g1 q a T1))) .no),
  fun g K E rx pos T R P=>test_link (h g _ E T (fun y σ₁ g1 ry q a T1 R1=>(h1 y σ₁ q).elim (fun hc w=>eK ok T1.S (R.le a) R1 hc (wpAny_truthy_bool (w.t g1 K E ry pos T1 R1 (P.le a)))) fun hc q=>eK ok T1.S (R.le a) R1 hc (wpAny_truthy_bool (P.f σ₁ g1 q a T1))) .no)⟩
theorem zt {ops:List CmpOp}{rs:List PySem.Expr}(hm:lastMarks ops rs=false)(h:WE C ρ l σ Q1 noX)(h2:∀x σ₁,Q1 x σ₁→WC C ρ x ops rs σ₁ (Q (.bool true)) (Q (.bool false))):WE C ρ (.Compare l ops rs pos) σ Q X:=by
 intro g K E T P _
 refine(?_:wpAny (model pw C.w) C.A (do compareChain pos (← eval l C.env) ops (markedEach ops rs (evalEach rs C.env))) K E g.s)
 refine Kh (markedEach_of_false _ _ _ hm)▸?_
 exact wpAny_bind (h g _ E T (fun x σ₁ g1 rx q a T1 R1=>(h2 x σ₁ q).v g1 K E rx pos T1 R1 ⟨fun σ₂ g2 q b T2=>P _ σ₂ g2 _ q (a.trans b) T2 rfl,fun σ₂ g2 q b T2=>P _ σ₂ g2 _ q (a.trans b) T2 rfl⟩) .no)
theorem zu {ops:List CmpOp}{rs:List PySem.Expr}(hm:lastMarks ops rs=false)(h:WE C ρ l σ Q1 noX)(h2:∀x σ₁,Q1 x σ₁→WC C ρ x ops rs σ₁ KT KF):WT C ρ (.Compare l ops rs pos) σ KT KF:=by
 intro g K E T P
 refine(?_:wpAny (model pw C.w) C.A (do testChain pos (← eval l C.env) ops (markedEach ops rs (evalEach rs C.env))) K E g.s)
 refine Kh (markedEach_of_false _ _ _ hm)▸?_
 exact wpAny_bind (h g _ E T (fun x σ₁ g1 rx q a T1 R1=>(h2 x σ₁ q).t g1 K E rx pos T1 R1 (P.le a)) .no)
end
end
section
section
variable {C:Cx}{φ:List Addr}{imm:Led}{m m':Str→Option Value}{σ:aa}{h h':Heap}{mu prot:Led}
theorem bD.keys {p:Led}:∀{q:Led},bD p q→q.map (·.1)=p.map (·.1):=by
 induction p with
 |nil=>exact fun e=>congrArg _ e
 |cons x p ih=>
  intro q e
  refine Jj e ?_;clear e;intro sl r e1 _ e2
  exact(congrArg _ e1).trans (congrArg (x.1::·) (ih e2))
theorem bD.change {p:Led}:∀{q:Led},bD p q→∀{h':Heap},(∀x∈q,∃sl,h'.get? x.1=some {x.2 with slots:=sl}∧((∃vs,x.2.data= .fields vs)→sl=x.2.slots))→∃q',bD p q'∧∀x∈q',h'.get? x.1=some x.2:=by
 induction p with
 |nil=>exact fun _ _ _=>⟨[],rfl,fun x hx=>nomatch hx⟩
 |cons y p ih=>
  intro q e h' g
  refine Jj e ?_;clear e;intro sl r κ;subst κ;intro ef e2
  refine tr (g _ (.head _)) fun sl' f1 f2=>?_
  refine tr (ih e2 fun x hx=>g x (.tail _ hx)) fun q' k1 k3=>?_
  refine Jl ((y.1,{y.2 with slots:=sl'})::q') ⟨sl',q',rfl,fun hv=>(f2 hv).trans (ef hv),k1⟩ (fun x hx=>?_)
  rcases List.mem_cons.mp hx with e|hx
  ·exact e▸f1
  ·exact k3 x hx
theorem SD.awaySize (S:SD C φ imm m σ h mu prot):Away C (mu++(imm++prot)) h.objs.size:=by
 refine⟨fun q=>?_,Nat.ne_of_gt S.F.ns.lt,?_⟩
 ·refine tr (List.mem_map.mp q) fun p hp e=>?_
  exact absurd (Heap.lt_size (S.N p hp).1) (e▸Nat.lt_irrefl _)
 ·refine Js (o:=C.B.get? h.objs.size) (fun hq=>?_) fun o hq=>?_
  ·try refine Kh hq▸?_
   rfl
  ·try refine Kh hq▸?_
   exact absurd (Heap.lt_size (S.F.keep _ o hq)) (Nat.lt_irrefl _)
theorem iZ {mu imm prot prot':Led}(hk:prot'.map (·.1)=prot.map (·.1)):(mu++(imm++prot')).map (·.1)=(mu++(imm++prot)).map (·.1):=by
 simp only[List.map_append,hk]
theorem Away.keys {prot':Led}{a:Addr}(hk:prot'.map (·.1)=prot.map (·.1))(x:Away C (mu++(imm++prot)) a):Away C (mu++(imm++prot')) a:=⟨iZ hk▸x.led,x.L,x.B⟩
theorem SD.slots (S:SD C φ imm m σ h mu prot){fr:List Addr}(hfr:∀b∈fr,b=C.L∨b∈C.prot.map (·.1))(hnv:∀b∈fr,∀o vs,h.get? b=some o→o.data≠.fields vs)
  (k:∀b o,h.get? b=some o→¬Away C (mu++(imm++prot)) b→(∃sl,h'.get? b=some {o with slots:=sl})∧(b ∉ fr→h'.get? b=some o)):
  ∃prot',SD C φ imm m σ h' mu prot'∧prot'.map (·.1)=prot.map (·.1):=by
 have inL:∀p∈mu++(imm++prot),¬Away C (mu++(imm++prot)) p.1:=fun p hp q=>q.led (List.mem_map_of_mem hp)
 have hB:∀b o,C.B.get? b=some o→¬Away C (mu++(imm++prot)) b:=fun b o e q=>Ji (q.B.symm.trans e)
 refine tr (S.P.change (h':=h') fun x hx=>by
  have hm:x∈mu++(imm++prot):=List.mem_append_right mu (List.mem_append_right imm hx)
  refine Jh (k x.1 x.2 (S.N.get hm) (inL x hm)) fun e e'=>?_
  by_cases hf:x.1∈fr
  ·refine Jf e ?_;clear e;intro sl e
   exact Jl sl e (fun⟨vs,hv⟩=>absurd hv (hnv x.1 hf x.2 vs (S.N.get hm)))
  ·exact Jl x.2.slots (e' hf) (fun _=>rfl)) fun prot' P' hg=>?_
 have hk:prot'.map (·.1)=prot.map (·.1):=P'.keys.trans S.P.keys.symm
 have frP:∀b∈fr,b=C.L∨b∈prot.map (·.1):=fun b hb=>S.P.keys.symm▸hfr b hb
 have frB:∀b o,C.B.get? b=some o→b ∉ fr:=fun b o e hb=>by
  rcases frP b hb with e'|hb
  ·exact absurd (Heap.lt_size (e'▸e)) (Nat.not_lt.mpr S.F.above)
  ·refine tr (List.mem_map.mp hb) fun p hp e'=>?_
   exact Ji ((S.N p (List.mem_append_right _ (List.mem_append_right _ hp))).2.2.symm.trans (e'▸e))
 have frM:∀p∈mu++imm,p.1 ∉ fr:=fun p hp hb=>by
  have nd:=S.nd
  rw[← List.append_assoc,List.map_append]at nd
  rcases frP _ hb with e|hb
  ·exact(S.N p ((List.append_assoc ..)▸List.mem_append_left prot hp)).2.1 e
  ·exact(List.nodup_append.mp nd).2.2 _ (List.mem_map_of_mem hp) _ hb rfl
 refine Jl prot' ⟨⟨?_,fun b o e=>(k b o (S.F.keep b o e) (hB b o e)).2 (frB b o e),S.F.above⟩,fun p hp=>?_,(iZ hk).symm▸S.nd,S.M,P',S.closed,S.all⟩ hk
 ·refine JJ S.F.ns fun o es ep ho hd r=>?_
  refine Jh (k C.L o ho (fun q=>q.L rfl)) ?_;intro κ;refine Jf κ ?_;clear κ;intro sl e;intro _
  exact JU _ es ep e hd r
 ·have hx:p.1∈(mu++(imm++prot)).map (·.1):=iZ hk▸List.mem_map_of_mem hp
  refine tr (List.mem_map.mp hx) fun q hq e=>?_
  have hq:=S.N q hq
  refine Jn ?_ (e▸hq.2.1) (e▸hq.2.2)
  rcases List.mem_append.mp ((List.append_assoc mu imm prot').symm▸hp)with hp|hp
  ·have hp':p∈mu++(imm++prot):=(List.append_assoc ..)▸List.mem_append_left prot hp
   exact(k p.1 p.2 (S.N.get hp') (inL p hp')).2 (frM p hp)
  ·exact hg p hp
structure CxF (C:Cx):Prop where
 top:∃outer,C.frames=C.env::outer
 frame:C.env.frame=some C.L
theorem SD.funFrames (ok:CxOk C)(S:SD C φ imm m σ h mu prot):h.FunFrames C.B C.frames:=by
 have hall:=ok.framesOk
 revert hall
 generalize C.frames=l
 intro hall
 induction l with
 |nil=>trivial
 |cons e r ih=>
  rcases hall e (.head _) with ⟨hk,l,hl,ho⟩
  refine Jn (by refine Kh hk▸?_;decide) ⟨l,?_⟩ (ih fun e' he'=>hall e' (.tail _ he'))
  rcases ho with rfl|ho
  ·refine JJ S.F.ns fun o es ep ho hd r=>?_
   refine J1 o hl ?_ ho (fun vs q=>by replace q:=hd▸q;cases q)
   refine Js (o:=C.B.get? C.L) (fun hq=>?_) fun o hq=>?_
   ·try refine Kh hq▸?_
    rfl
   ·try refine Kh hq▸?_
    exact absurd (Heap.lt_size hq) (Nat.not_lt.mpr S.F.above)
  ·refine tr ho ?_;clear ho;intro o ho hd
   have key:∀{p q:Led},bD p q→∀{a o},(a,o)∈p→∃sl,(a,{o with slots:=sl})∈q:=by
    intro p
    induction p with
    |nil=>intro q e a o h;cases h
    |cons y p ih=>
     intro q e a o h
     refine Jj e ?_;clear e;intro sl r κ;subst κ;intro _ e2
     rcases List.mem_cons.mp h with rfl|h
     ·exact Jo sl (.head _)
     ·refine Jf (ih e2 h) fun sl' h'=>?_
      exact Jo sl' (.tail _ h')
   refine Jf (key S.P ho) fun sl hp=>?_
   have hm:=S.N _ (List.mem_append_right _ (List.mem_append_right _ hp))
   exact J1 _ hl hm.2.2 hm.1 hd
end
section
variable {C:Cx}{φ:List Addr}{imm:Led}{m m':Str→Option Value}{σ:aa}{s:Shared}{A:Around}{E:Value→Shared→Prop}{c:Str}{ea:Addr}{n:Bool}
theorem uU {h:Heap}{oe tb:Obj}{vs:Array Value}(he:h.get? ea=some oe)(hd:oe.data= .fields vs)(ht:tb.isFreed=false):
  ((h.push tb).update ea (Obj.mapFields (·.setIfInBounds 1 (.ref h.objs.size)))).get? ea=some (Obj.mapFields (·.setIfInBounds 1 (.ref h.objs.size)) oe)∧
  ((h.push tb).update ea (Obj.mapFields (·.setIfInBounds 1 (.ref h.objs.size)))).get? h.objs.size=some tb∧
  ∀b o,ea≠b→h.get? b=some o→((h.push tb).update ea (Obj.mapFields (·.setIfInBounds 1 (.ref h.objs.size)))).get? b=some o:=
 ⟨Heap.get?_update_self _ (Heap.get?_push_of_some _ he) (Obj.isFreed_of_fields (Obj.data_mapFields hd _)),(Heap.get?_update_other _ _ (Nat.ne_of_lt (Heap.lt_size he))).trans (Heap.get?_push_size h ht),
  fun b _ hb e=>(Heap.get?_update_other _ _ hb).trans (Heap.get?_push_of_some _ e)⟩
theorem zZ {vs:Array Value}{v:Value}(h:1<vs.size):(vs.setIfInBounds 1 v)[1]?=some v:=by simp[h]
variable {mu prot:Led}{oe:Obj}{vs:Array Value}{Ca:Addr}
theorem rd (ok:CxOk C){outer:List Env}(hfr:C.frames=C.env::outer):∀b∈(C.env::outer).filterMap (·.frame),b=C.L∨b∈C.prot.map (·.1):=fun b hb=>by
 refine tr (List.mem_filterMap.mp hb) fun e he hf=>?_
 rcases ok.framesOk e (hfr▸he) with ⟨_,l,hl,ho⟩
 have:=Option.some.inj (hl.symm.trans hf)
 subst this
 exact ho.imp id fun⟨o,ho,_⟩=>List.mem_map_of_mem (f:=(·.1)) ho
theorem nf (ok:CxOk C){outer:List Env}(hfr:C.frames=C.env::outer)(hf:C.env.frame=some C.L)(hA:A.frames=some (C.env::outer)){Q:Unit→Shared→Prop}{head:Value}{b:Bool}(S:SD C φ imm m σ s.heap mu prot)(B:XB C c ea s.heap (mu++(imm++prot)) oe vs Ca)
  (hq:∀h',SX C true φ imm σ c ea h'→Q () {s with heap:=h'}):
  wpAny (model pw C.w) A (do let a ← frameOf C.env;let pl ← entryPlaceOf C.L b;let b ← EntryCells.newEntry head a .none (rawInt C.L) .none pl;setField (.ref ea) 1 b) Q E s:=by
 have ff:s.heap.FunFrames C.B (C.env::outer):=hfr▸S.funFrames ok
 have hnf:∀b∈(C.env::outer).filterMap (·.frame),∀o vs,s.heap.get? b=some o→o.data≠.fields vs:=fun b hb o vs ho=>by
  rcases ff.mem hb with ⟨_,o',ho',h⟩
  exact Option.some.inj (ho'.symm.trans ho)▸h vs
 refine wpAny_bind (wpAny_frameOf_fun hA ff hf fun h₁ hs₁=>?_)
 refine wpAny_bind (wpAny_entryPlaceOf fun pl hpl=>?_)
 unfold EntryCells.newEntry newFields
 refine wpAny_bind (wpAny_newObj_type ?_ (hpl.sizeOk5 _ _ _ _ _))
 generalize hts:([head,.ref C.L,.none,rawInt C.L,.none]++(if pl.isEmpty then List.replicate 6 Value.none else pl)).toArray=ts
 have t3:ts[3]?=some (rawInt C.L):=by subst hts;simp
 have he₁:h₁.get? ea=some oe:=(hs₁.2.1 ea fun hm=>hnf _ hm _ _ B.get B.data).trans B.get
 refine Jr (uU (tb:={cls:= .type "traceback",dict:=none,data:= .fields ts}) he₁ B.data rfl) fun k1 k2 k3=>?_
 refine wpAny_setField (Heap.get?_push_of_some _ he₁) B.data B.sz (hq _ ?_)
 refine tr (S.slots (rd ok hfr) hnf fun b o hb hnb=>by
  have hbe:ea≠b:=fun q=>hnb (q▸B.aw)
  refine Jf (hs₁.2.2 b o hb) fun sl hsl=>?_
  exact Jg ⟨sl,k3 b _ hbe hsl⟩ (fun hn=>k3 b _ hbe ((hs₁.2.1 b hn).trans hb))) fun prot' S' hk=>?_
 have hd:=Obj.data_mapFields B.data (·.setIfInBounds 1 (Value.ref h₁.objs.size))
 exact .mk m mu prot' S' (.noted _ _ Ca ⟨B.cls,k1,(Obj.cls_mapFields ..).trans B.ocls,hd,Nat.lt_of_lt_of_eq B.sz (Array.size_setIfInBounds ..).symm,B.aw.keys hk⟩ _ _ ts _ ⟨zZ B.sz,Nat.ne_of_gt (Heap.lt_size he₁),k2,rfl,t3,hs₁.1▸S.awaySize.keys hk⟩)
theorem pF {T:Addr}{oT:Obj}{ts:Array Value}{t3 v:Value}(S:SD C φ imm m σ s.heap mu prot)(B:XB C c ea s.heap (mu++(imm++prot)) oe vs Ca)(X:XT C ea s.heap (mu++(imm++prot)) vs T oT ts t3):
  ∃prot',SD C φ imm m σ (s.heap.update T (Obj.mapFields (·.setIfInBounds 3 v))) mu prot'∧XB C c ea (s.heap.update T (Obj.mapFields (·.setIfInBounds 3 v))) (mu++(imm++prot')) oe vs Ca∧
   XT C ea (s.heap.update T (Obj.mapFields (·.setIfInBounds 3 v))) (mu++(imm++prot')) vs T (Obj.mapFields (·.setIfInBounds 3 v) oT) (ts.setIfInBounds 3 v) v:=by
 have other:∀b,b≠T→(s.heap.update T (Obj.mapFields (·.setIfInBounds 3 v))).get? b=s.heap.get? b:=fun b hb=>Heap.get?_update_other _ _ (Ne.symm hb)
 refine tr (S.slots (fr:=[]) (fun _ hb=>nomatch hb) (fun _ hb=>nomatch hb) fun b o hb hnb=>by
  have e:=(other b fun q=>hnb (q▸X.aw)).trans hb
  exact Jg ⟨o.slots,e⟩ (fun _=>e)) fun prot' S' hk=>?_
 have hd:=Obj.data_mapFields X.data (·.setIfInBounds 3 v)
 have h3:=(Array.getElem?_eq_some_iff.mp X.at3).1
 exact⟨prot',S',⟨B.cls,(other ea (Ne.symm X.ne)).trans B.get,B.ocls,B.data,B.sz,B.aw.keys hk⟩,X.at1,X.ne,Heap.get?_update_self _ X.get (Obj.isFreed_of_fields hd),hd,by simp[h3],X.aw.keys hk⟩
theorem kZ (ok:CxOk C)(top:CxF C)(hA:A.frames=C.A.frames){Q:Unit→Shared→Prop}(X:SX C n φ imm σ c ea s.heap)
  (hq:∀h',SX C true φ imm σ c ea h'→Q () {s with heap:=h'}):wpAny (model pw C.w) A (noteFrame (.ref ea) C.env) Q E s:=by
 refine Jf top.top fun outer hfr=>?_
 have hA':A.frames=some (C.env::outer):=(hA.trans ok.frames).trans (congrArg some hfr)
 unfold noteFrame
 simp only[top.frame]
 cases X with
 |mk m mu prot S x=>
  cases x with
  |fresh oe vs Ca B _ h1=>
   refine wpAny_bind (wpAny_field B.get B.data h1 (wpAny_ite_false rfl ?_))
   exact nf ok hfr top.frame hA' S B hq
  |noted oe vs Ca B T oT ts t3 X=>
   refine wpAny_bind (wpAny_field B.get B.data X.at1 (wpAny_ite_true rfl ?_))
   refine wpAny_bind (wpAny_field X.get X.data X.at3 ?_)
   split
   ·exact wpAny_pure (hq s.heap (.mk m mu prot S (.noted oe vs Ca B T oT ts t3 X)))
   ·refine wpAny_bind (wpAny_setField X.get X.data (Array.getElem?_eq_some_iff.mp X.at3).1 ?_)
    refine Jt (pF (v:= .none) S B X) fun prot' S' B' _=>?_
    exact nf (s:={s with heap:=_}) ok hfr top.frame hA' S' B' hq
theorem eS {f:Option Addr}{Q:Unit→Shared→Prop}(X:SX C n φ imm σ c ea s.heap)(hq:∀h',SX C n φ imm σ c ea h'→Q () {s with heap:=h'}):
  wpAny (model pw C.w) A (setFlight (.ref ea) f) Q E s:=by
 unfold setFlight
 cases X with
 |mk m mu prot S x=>
  cases x with
  |fresh oe vs Ca B hn h1=>
   refine wpAny_bind (wpAny_field B.get B.data h1 (wpAny_ite_false rfl ?_))
   exact wpAny_pure (hq s.heap (.mk m mu prot S (.fresh oe vs Ca B hn h1)))
  |noted oe vs Ca B T oT ts t3 X=>
   refine wpAny_bind (wpAny_field B.get B.data X.at1 (wpAny_ite_true rfl ?_))
   refine wpAny_setField X.get X.data (Array.getElem?_eq_some_iff.mp X.at3).1 (hq _ ?_)
   refine Jt (pF (v:=f.elim Value.none fun f=>rawInt f) S B X) fun prot' S' B' X'=>?_
   exact .mk m mu prot' S' (.noted oe vs Ca B' T _ _ _ X')
theorem wh (X:SX C true φ imm σ c ea s.heap)(hq:∀h',SX C true φ imm σ c ea h'→E (.ref ea) {s with heap:=h'}):cameBackBy (model pw C.w) A C.env E (.ref ea) s:=by
 cases X with
 |mk m mu prot S x=>
  cases x with
  |fresh oe vs Ca B hn h1=>exact JG hn
  |noted oe vs Ca B T oT ts t3 X=>
   unfold cameBackBy
   refine wpAny_bind (wpAny_field B.get B.data X.at1 (wpAny_ite_false rfl ?_))
   exact eS (.mk m mu prot S (.noted oe vs Ca B T oT ts t3 X)) hq
theorem sZ (ok:CxOk C)(top:CxF C)(hA:A.frames=C.A.frames){Q:Unit→Shared→Prop}(X:SX C n φ imm σ c ea s.heap)
  (hq:∀h',SX C true φ imm σ c ea h'→Q () {s with heap:=h'}):wpAny (model pw C.w) A (leaving C.env (.ref ea)) Q E s:=
 wpAny_bind (kZ ok top hA X fun h' X'=>eS (s:={s with heap:=h'}) X' fun h'' X''=>hq h'' X'')
end
end
section
structure EndS (C:Cx)(g:Gh)(Q:MF→Loc→aa→Prop)(K:Flow→Shared→Prop):Prop where
 next:∀ρ' σ' g',Q .next ρ' σ'→Le g g'→St C ρ' σ' g'→K .next g'.s
 ret:∀x ρ' σ' g' v,Q (.ret x) ρ' σ'→Le g g'→SI C g'.φ g'.imm g'.m σ' g'.s.heap→Rg C g' x v→K (.ret v) g'.s
noncomputable def WS (C:Cx)(ρ:Loc)(st:Stmt)(σ:aa)(Q:MF→Loc→aa→Prop)(X:XP):Prop:=∀g K E,St C ρ σ g→EndS C g Q K→dm C g X E→wpAny (model pw C.w) C.A (exec st C.env) K E g.s
noncomputable def WB (C:Cx)(ρ:Loc)(l:List Stmt)(σ:aa)(Q:MF→Loc→aa→Prop)(X:XP):Prop:=∀g K E,St C ρ σ g→EndS C g Q K→dm C g X E→wpAny (model pw C.w) C.A (execs l C.env) K E g.s
theorem EndS.le {C:Cx}{g g':Gh}{Q:MF→Loc→aa→Prop}{K:Flow→Shared→Prop}(P:EndS C g Q K)(a:Le g g'):EndS C g' Q K:=
 ⟨fun ρ' σ' g2 q b=>P.next ρ' σ' g2 q (a.trans b),fun x ρ' σ' g2 v q b=>P.ret x ρ' σ' g2 v q (a.trans b)⟩
theorem n5 {x:Str}{v:MV}{ρ:Loc}:∀{ρ':Loc},n6 ρ x v=some ρ'→∀y,ρ'.lookup y=if y=x then some v else ρ.lookup y:=by
 induction ρ with
 |nil=>exact fun h=>Ji h
 |cons p r ih=>
  intro ρ' h y
  by_cases k:(p.1==x)=true
  ·have e:=Option.some.inj ((if_pos k).symm.trans h)
   have k:=eq_of_beq k
   subst e k
   by_cases hy:y=p.1
   ·subst hy
    exact bc.trans (if_pos rfl).symm
   ·exact(aX hy).trans ((if_neg hy).trans (aX (x:=p.1) (v:=p.2) hy)).symm
  ·refine tr (Option.map_eq_some_iff.mp ((if_neg k).symm.trans h)) fun r' hr e=>?_
   subst e
   by_cases hy:y=p.1
   ·subst hy
    exact(bc (x:=p.1)).trans ((if_neg fun q=>k (beq_iff_eq.mpr q)).trans bc).symm
   ·exact(aX hy).trans ((ih hr y).trans (congrArg (fun z=>if y=x then some v else z) (aX (x:=p.1) (v:=p.2) hy).symm))
section
variable {C:Cx}{ρ ρ':Loc}{σ σ₁ σ₂:aa}{e l r:PySem.Expr}{pos:Pos}{x y v:MV}{c:Str}{Q Q1:MF→Loc→aa→Prop}{QE:MV→aa→Prop}{X:XP}{KT KF:aa→Prop}{g:Gh}{E:Value→Shared→Prop}
theorem LR.put {φ:List Addr}{imm:Led}{m:Str→Option Value}{n:Str}{rv:Value}(L:LR C φ imm ρ m)(h:dZ C.env.scope.names ρ n v=some ρ')(hv:Rv C.w.params C.B φ imm v rv):
  C.env.scope.names.lookup n=some .local∧LR C φ imm ρ' (fun y=>if y=n then some rv else m y):=by
 refine gR h fun hk h=>?_
 have hk:=eq_of_beq hk
 refine Jg hk (fun y w k hy hk'=>?_)
 have hy:=(n5 h y).symm.trans hy
 by_cases e:y=n
 ·subst e
  have e1:=Option.some.inj ((if_pos rfl).symm.trans hy)
  have e2:=Option.some.inj (hk.symm.trans hk')
  exact .inl ⟨e2.symm,fun _=>⟨rv,if_pos rfl,e1▸hv⟩⟩
 ·exact(L y w k ((if_neg e).symm.trans hy) hk').imp (fun h=>⟨h.1,fun hu=>(h.2 hu).imp fun _ h=>⟨(if_neg e).trans h.1,h.2⟩⟩) id
theorem dI (ok:CxOk C){n:Str}{rv:Value}{K:Unit→Shared→Prop}(T:St C ρ σ g)(h:dZ C.env.scope.names ρ n v=some ρ')(hv:Rg C g v rv)
  (hq:∀g',Le g g'→St C ρ' σ g'→K () g'.s):wpAny (model pw C.w) C.A (storeName C.env n rv) K E g.s:=by
 refine Jh (T.L.put h hv) fun hk L'=>?_
 refine Jm T.S fun mu prot S=>?_
 refine wpAny_storeName_local hk (ok.locals.symm▸S.F.ns) (fun h' hn hs=>?_) (by refine Kh ok.kind▸?_;rfl)
 rw[ok.locals]at hn hs
 exact hq ⟨g.φ,g.imm,_,{g.s with heap:=h',toks:=g.s.toks+1}⟩ ⟨List.prefix_refl _,fun _ h=>h,rfl⟩ ⟨⟨mu,prot,S.go (S.F.set hn hs) (S.N.set hs)⟩,L'⟩
theorem WB.mono {l:List Stmt}{Q':MF→Loc→aa→Prop}{X':XP}(h:WB C ρ l σ Q X)(hQ:∀f ρ σ,Q f ρ σ→Q' f ρ σ)(hX:∀c σ,X c σ→X' c σ):WB C ρ l σ Q' X':=
 fun g K E T P PX=>h g K E T ⟨fun ρ' σ' g' q=>P.next ρ' σ' g' (hQ _ _ _ q),fun x ρ' σ' g' v q=>P.ret x ρ' σ' g' v (hQ _ _ _ q)⟩ fun c σ' g' ea q=>PX c σ' g' ea (hX c σ' q)
theorem nL (q:Q .next ρ σ):WB C ρ [] σ Q X:=fun g _ _ T P _=>wpAny_execs_nil (P.next ρ σ g q .refl T)
theorem rS {st:Stmt}{rest:List Stmt}(h:WS C ρ st σ Q1 X)(h1:∀ρ' σ',Q1 .next ρ' σ'→WB C ρ' rest σ' Q X)(h2:∀x ρ' σ',Q1 (.ret x) ρ' σ'→Q (.ret x) ρ' σ'):WB C ρ (st::rest) σ Q X:=
 fun g K E T P PX=>wpAny_execs_cons (h g _ E T ⟨fun ρ' σ' g1 q a T1=>h1 ρ' σ' q g1 K E T1 (P.le a) (PX.le a),fun x ρ' σ' g1 v q=>P.ret x ρ' σ' g1 v (h2 x ρ' σ' q)⟩ PX)
theorem zm (q:Q (.ret .none) ρ σ):WS C ρ (.Return none pos) σ Q X:=fun g _ _ T P _=>wpAny_Return_none (P.ret .none ρ σ g .none q .refl T.S rfl)
theorem wu (h:WE C ρ e σ QE X)(h1:∀x σ₁,QE x σ₁→Q (.ret x) ρ σ₁):WS C ρ (.Return (some e) pos) σ Q X:=fun g _ E T P PX=>wpAny_Return_some (h g _ E T (fun x σ₁ g1 v q a T1 R=>P.ret x ρ σ₁ g1 v (h1 x σ₁ q) a T1.S R) PX)
theorem j8 (ok:CxOk C):interactive C.env=false:=by unfold interactive;refine Kh ok.kind▸?_;rfl
theorem cZ {e:PySem.Expr}{t:Option PySem.Expr}{n:Nat}{env:Env}(h:bT e=false):swapsWith e t n env=pure false:=by
 cases e<;>first|rfl|exact JG h
theorem zr (ok:CxOk C)(hc:bT e=false)(h:WE C ρ e σ QE X)(h1:∀x σ₁,QE x σ₁→x= .none∧Q .next ρ σ₁):WS C ρ (.Expr e pos) σ Q X:=by
 intro g K E T P PX
 refine wpAny_Expr (h g _ E T (fun x σ₁ g1 rv q a T1 R1=>?_) PX) (j8 ok) (cZ hc)
 have R1:Rg C g1 .none rv:=(h1 x σ₁ q).1▸R1
 have R1:rv= .none:=R1
 exact R1▸P.next ρ σ₁ g1 (h1 x σ₁ q).2 a T1
theorem Bu {a b:List Stmt}(h:WT C ρ e σ KT KF)(h1:∀σ₁,KT σ₁→WB C ρ a σ₁ Q X)(h2:∀σ₁,KF σ₁→WB C ρ b σ₁ Q X):WS C ρ (.If e a b pos) σ Q X:=
 fun g K E T P PX=>wpAny_If (h g _ E T ⟨fun σ₁ g1 q l T1=>h1 σ₁ q g1 K E T1 (P.le l) (PX.le l),fun σ₁ g1 q l T1=>h2 σ₁ q g1 K E T1 (P.le l) (PX.le l)⟩)
theorem kN (ok:CxOk C){n:Str}{p:Pos}(hc:bT e=false)(h:WE C ρ e σ QE X)(h1:∀x σ₁,QE x σ₁→OptEx (dZ C.env.scope.names ρ n x) fun ρ'=>Q .next ρ' σ₁):WS C ρ (.Assign [.Name n p] e pos) σ Q X:=
 fun g K E T P PX=>wpAny_Assign_Name (h g _ E T (fun x σ₁ g1 rv q a T1 R1=>(h1 x σ₁ q).elim fun ρ' hs q=>dI ok T1 hs R1 fun g2 b T2=>P.next ρ' σ₁ g2 q (a.trans b) T2) PX) (cZ hc)
theorem uJ (ok:CxOk C){n:Str}{p:Pos}{op:Operator}{i:Int}(hk:C.env.scope.names.lookup n=some .local)(hn:cP C.env.scope.names ρ n=some (.int i))(h:WE C ρ e σ QE noX)
  (h1:∀y σ₁,QE y σ₁→OptEx (bQ y) fun j=>OptEx (qN op i j) fun z=>OptEx (dZ C.env.scope.names ρ n z) fun ρ'=>Q .next ρ' σ₁):WS C ρ (.AugAssign (.Name n p) op e pos) σ Q X:=by
 intro g K E T P _
 refine mH hn (fun hl hu _ _=>?_) fun hg _=>nomatch Option.some.inj (hk.symm.trans hg.2)
 have hm:∃t,g.m n=some (.int i t):=(T.L n _ _ hl hk).elim (fun h=>(h.2 hu).elim fun rv h=>(aK h.2).elim fun t e=>⟨t,e▸h.1⟩) fun h=>h.1.elim (fun q=>nomatch q) fun q=>nomatch q.1
 refine Jf hm ?_;clear hm;intro t hm
 refine Jm T.S fun mu prot S=>?_
 refine wpAny_AugAssign_Name (wpAny_loadName_local ok.kind hk (ok.locals.symm▸S.F.ns) hm ?_)
 refine h g _ E T (fun y σ₁ g1 rv q a T1 R=>?_) .no
 refine(h1 y σ₁ q).elim fun j hj q=>q.elim fun z hz q=>q.elim fun ρ' hs q=>?_
 obtain⟨u,R⟩:∃u,rv= .int j u:=by
   have R:Rg C g1 (.int j) rv:=aM hj▸R
   exact R
 subst R
 exact pL hz fun tk i' t' hv=>dI (g:=g1.at g1.imm g1.s.heap tk) ok (T1.on T1.S) hs (hv▸aT) fun g2 b T2=>P.next ρ' σ₁ g2 q ((a.trans .on).trans b) T2
end
end
section
section
variable {prog:Program}{w:World}{A:Around}{E:Value→Shared→Prop}{s:Shared}
theorem nY {l:Addr}{items:Array Value}{n:Nat}{k:Int}{t:Tok}{v:Value}{j:Nat}{Q:Unit→Shared→Prop}(ho:s.heap.get? l=some (listOf items n))
  (hz:items.size≤sizeLine) (hj:bg items.size k=some j)
  (hQ:∀h' n',h'.get? l=some (listOf (items.setIfInBounds j v) n')→Heap.SameBut l s.heap h'→Q () {s with heap:=h'}):
  wpAny (model prog w) A (setItem (.ref l) (.int k t) v) Q E s:=by
 have hl:s.heap.IsList l items:=⟨_,ho,rfl,n,rfl⟩
 have hd:(listOf items n).data= .seq items n:=rfl
 refine JB (ie hj) fun q1 q2 q3 q4=>?_
 replace hz:=sizeLine_eq▸hz
 have hx':items[j]?=some items[j]:=Array.getElem?_eq_getElem q2
 unfold setItem
 try with_reducible refine wpAny_holding ?_
 first|refine wpAny_bind (wpAny_pure ?_)|skip
 refine wpAny_bind (wpAny_sequenceKey hl.typeIs (by decide) ?_)
 refine wpAny_bind (wpAny_callSpecial?_slot (name:=Str.ofString "__setitem__") hl.typeIs slot_list_setitem
  (wpAny_call_entry slot_list_setitem hl.typeIs entry_list_setitem ?_ (args_list_setitem _ _ _)))
 refine(?_:wpAny _ _ (Builtin.List.listSubscript? (.int k t) >>= _) _ _ s)
 refine wpAny_bind (wpAny_listSubscript_int (by unfold Builtin.List.listFitsIndex;simp only[Bool.and_eq_true,decide_eq_true_eq];exact (lD 0xc6319aa0000000000000001a3006800b10000000000000000d1d560080340058b006100000028c01) hz q3 q4) ?_)
 have fin:∃n',(s.heap.update l (Obj.mapSeq (·.setIfInBounds j v))).get? l=some (listOf (items.setIfInBounds j v) n'):=⟨_,Heap.get?_update_self _ ho rfl⟩
 refine Jf fin ?_;clear fin;intro n' hfin
 cases k with
 |ofNat j'=>
  have ej:j=j':=by
   unfold bg at hj
   have h0:(0:Int)≤Int.ofNat j':=Int.natCast_nonneg _
   replace hj:=if_pos h0▸hj
   split at hj
   ·refine Jk hj ?_;clear hj;intro κ;subst κ;rfl
   ·exact Ji hj
  subst ej
  refine(?_:wpAny _ _ ((seqItemAt l j >>= fun r=>pure (r.map (j,·))) >>= _) _ _ s)
  refine wpAny_bind (wpAny_bind (wpAny_seqItemAt ho hd (wpAny_pure ?_)))
  refine Kh hx'▸?_
  refine(?_:wpAny _ _ (setSeqItemAt l j v >>= _) _ _ s)
  refine wpAny_bind (wpAny_setSeqItemAt ho hd ?_)
  first
   |exact wpAny_bind (wpAny_pure (wpAny_pure ⟨.none,rfl,wpAny_pure (hQ _ _ hfin (Heap.SameBut.update ..))⟩))
   |exact wpAny_pure ⟨.none,rfl,wpAny_pure (hQ _ _ hfin (Heap.SameBut.update ..))⟩
 |negSucc i=>
  refine(?_:wpAny _ _ ((Builtin.List.listItems (.ref l) >>= fun xs=>pure ((seqIndex? (Int.negSucc i) xs.size).bind fun i=>xs[i]?.map (i,·))) >>= _) _ _ s)
  refine wpAny_bind (wpAny_bind ?_)
  refine(?_:wpAny _ _ (seqItems? (.ref l) >>= _) _ _ s)
  refine wpAny_bind (wpAny_seqItems ho hd (wpAny_pure (wpAny_pure ?_)))
  refine Kh q1▸?_
  simp only[Option.bind_some,hx',Option.map_some]
  refine wpAny_bind (wpAny_setSeqItemAt ho hd ?_)
  first
   |exact wpAny_bind (wpAny_pure (wpAny_pure ⟨.none,rfl,wpAny_pure (hQ _ _ hfin (Heap.SameBut.update ..))⟩))
   |exact wpAny_pure ⟨.none,rfl,wpAny_pure (hQ _ _ hfin (Heap.SameBut.update ..))⟩
end
theorem Upd.mk {d:Addr}{o o':Obj}{post:Led}(h2:∀p∈post,p.1≠d){pre:Led}:(∀p∈pre,p.1≠d)→Upd d o o' (pre++(d,o)::post) (pre++(d,o')::post):=by
 induction pre with
 |nil=>exact fun _=>.head h2
 |cons x pre ih=>exact fun h1=>.tail (h1 _ (.head _)) (ih fun p hp=>h1 p (.tail _ hp))
section
variable {C:Cx}{φ:List Addr}{imm:Led}{m m':Str→Option Value}{σ:aa}{h h':Heap}{mu prot:Led}{i:Nat}
theorem cy.set {n:Nat}{o':MO}(hn:n≤σ.length)(x:cy n σ)(hr:∀j∈fq o',i<n→j<n):cy n (σ.set i o'):=fun k ok hk q=>by
 by_cases e:i=k
 ·subst e
  have q:=(List.getElem?_set_self (Nat.lt_of_lt_of_le hk hn)).symm.trans q
  exact fun j hj=>hr j (Option.some.inj q▸hj) hk
 ·exact x k ok hk ((List.getElem?_set_ne e).symm.trans q)
theorem SD.upd {o':MO}{mu':Led}(S:SD C φ imm m σ h mu prot)(hM:cM C.w.params C.B φ imm (σ.set i o') φ mu')
  (hk:mu'.map (·.1)=mu.map (·.1)) (F:Fr C.B C.L h' m) (N:News C.B C.L h' (mu'++(imm++prot)))
  (hc:∀j∈fq o',j<σ.length∧∀n∈C.pts,i<n→j<n):SD C φ imm m (σ.set i o') h' mu' prot:=by
 have hl:(σ.set i o').length=σ.length:=List.length_set
 refine⟨F,N,?_,hM,S.P,fun n hn=>⟨hl.symm▸(S.closed n hn).1,(S.closed n hn).2.set (S.closed n hn).1 fun j hj=>(hc j hj).2 n hn⟩,hl.symm▸S.all.set (Nat.le_refl _) fun j hj _=>(hc j hj).1⟩
 have nd:=S.nd
 rw[List.map_append]at nd ⊢
 exact hk.symm▸nd
theorem SD.apart {pre post:Led}{d:Addr}{o:Obj}(S:SD C φ imm m σ h mu prot)(e:mu=pre++(d,o)::post):(∀p∈pre,p.1≠d)∧∀p∈post++(imm++prot),p.1≠d:=by
 have nd:=S.nd
 subst e
 rw[List.append_assoc,List.map_append]at nd
 refine Jr (List.nodup_append.mp nd) fun _ n2 n3=>?_
 exact Jg (fun p hp q=>n3 _ (List.mem_map_of_mem hp) _ (.head _) q) (fun p hp q=>(List.nodup_cons.mp n2).1 (q▸List.mem_map_of_mem (f:=(·.1)) hp))
theorem SD.newsAt {pre post:Led}{d:Addr}{o:Obj}(S:SD C φ imm m σ h mu prot)(e:mu=pre++(d,o)::post):News C.B C.L h (pre++(d,o)::(post++(imm++prot))):=by
 have N:=S.N
 subst e
 rw[List.append_assoc]at N
 exact N
inductive ListAt (C:Cx)(φ:List Addr)(imm:Led)(m:Str→Option Value)(σ:aa)(h:Heap)(prot:Led)(i:Nat)(l:List MV):Prop
 |mk (a:Addr) (rs:List Value) (n:Nat) (m1 m2:Led) (at_:φ[i]?=some a) (hz:l.length≤sizeLine) (hs:Svs C.w.params C.B imm l rs) (get:h.get? a=some (listOf (List.toArray rs) n)) (g1:a≠C.L) (g2:C.B.get? a=none)
   (p1:∀p∈m1,p.1≠a) (p2:∀p∈m2++(imm++prot),p.1≠a) (N:News C.B C.L h (m1++(a,listOf (List.toArray rs) n)::(m2++(imm++prot))))
   (back:∀o rs' n' h',o.length≤sizeLine→Svs C.w.params C.B imm o rs'→Fr C.B C.L h' m→News C.B C.L h' (m1++(a,listOf (List.toArray rs') n')::(m2++(imm++prot)))→SI C φ imm m (σ.set i (.list o)) h')
theorem SD.setList {l:List MV}(S:SD C φ imm m σ h mu prot)(hi:σ[i]?=some (.list l)):ListAt C φ imm m σ h prot i l:=by
 refine Ju (S.M.split hi) fun a e m1 m2 h1 h2 h3 h4=>?_
 refine Jj h3 ?_;clear h3;intro rs n e0 hz hs
 subst e0
 have h2:mu=m1++(a,listOf (List.toArray rs) n)::m2:=h2
 have hN:=S.newsAt h2
 have hm:=hN (a,listOf (List.toArray rs) n) (List.mem_append_right _ (.head _))
 refine .mk a rs n m1 m2 h1 hz hs hm.1 hm.2.1 hm.2.2 (S.apart h2).1 (S.apart h2).2 hN fun o rs' n' h' hz' hs' F' N'=>?_
 exact JL _ prot (S.upd (h4 _ _ ⟨rs',n',rfl,hz',hs'⟩) (by subst h2;simp) F' ((List.append_assoc m1 ((a,listOf (List.toArray rs') n')::m2) (imm++prot)).symm▸N') fun j hj=>nomatch hj)
end
section
variable {C:Cx}{ρ ρ':Loc}{σ σ₁ σ₂ σ':aa}{x y v o:MV}{φ:List Addr}{imm:Led}{m:Str→Option Value}{E:Value→Shared→Prop}{g:Gh}{K:Unit→Shared→Prop}{n:Str}{ro ri rv:Value}
theorem Svs.set {P:Params}{B:Heap}{imm:Led}{x:MV}{rx:Value}(hx:Sv P B imm x rx){l:List MV}:∀{vs:List Value}{j:Nat},Svs P B imm l vs→Svs P B imm (l.set j x) (vs.set j rx):=by
 induction l with
 |nil=>intro vs j h;have h:vs=[]:=h;subst h;rfl
 |cons y l ih=>
  intro vs j h
  refine Jj h ?_;clear h;intro v r e h2 h3
  subst e
  cases j with
  |zero=>exact Jp rx r rfl hx h3
  |succ j=>exact Jp v _ rfl h2 (ih h3)
theorem mE {i:MV}{G:Prop}(h:dK σ o i v=some σ')(k:∀id q l j,o= .ref id→i= .int q→σ[id]?=some (.list l)→aL v=true→bg l.length q=some j→σ.set id (.list (l.set j v))=σ'→G):G:=by
 refine tr (Option.bind_eq_some_iff.mp h) fun id h1 h=>?_
 refine tr (Option.bind_eq_some_iff.mp h) fun q h2 h=>?_
 refine tr (Option.bind_eq_some_iff.mp h) fun ob h3 h=>?_
 refine tr (Option.bind_eq_some_iff.mp h) fun l h4 h=>?_
 refine gR h fun h5 h=>?_
 refine tr (Option.map_eq_some_iff.mp h) fun j h6 h=>?_
 exact k id q l j (cL h1) (aM h2) (gb h4▸h3) h5 h6 h
theorem nX {i:MV}(T:St C ρ σ g)(ho:Rg C g o ro)(hi:Rg C g i ri)(hv:Rg C g v rv)(hb:dK σ o i v=some σ')
  (hq:∀g',Le g g'→St C ρ σ' g'→K () g'.s):wpAny (model pw C.w) C.A (setItem ro ri rv) K E g.s:=by
 refine mE hb fun id q l j e1 e2 hl hr hj e3=>?_
 subst e1 e2 e3
 refine Jm T.S fun mu prot S=>?_
 refine tr ho ?_;clear ho;intro a' ha e
 refine Jf (aK hi) fun t e'=>?_
 subst e e'
 cases S.setList hl with
 |mk a rs n m1 m2 h1 hz hs hg g1 g2 p1 p2 N back=>
  have:=Option.some.inj (ha.symm.trans h1)
  subst this
  have hlen:rs.toArray.size=l.length:=hs.length
  refine nY hg (hlen.symm▸hz) (hlen.symm▸hj) fun h' n' hg' hsb=>?_
  have e1:(rs.toArray.setIfInBounds j rv)=(rs.set j rv).toArray:=by simp
  exact hq (g.at g.imm h' g.s.toks) .on (T.on (back _ _ n' h' (List.length_set.symm▸hz) (hs.set (Rv.simple hr hv)) (S.F.change hsb g1 g2) (News.setAt N p1 p2 hsb (e1▸hg'))))
theorem jl {P:Params}{B:Heap}{mv:MV}{rv:Value}{n:Str}{hsh:Int}{t:Tok}(hv:Rv1 P B φ imm mv rv){fs:List (Str × MV)}:∀{es:List DictEntry},aZ P B φ imm fs es→aZ P B φ imm (fO fs n mv) (W.putL n hsh (Value.str n t) rv es):=by
 induction fs with
 |nil=>intro es e;have e:es=[]:=e;subst e;exact JI hsh t rv [] rfl hv rfl
 |cons p fs ih=>
  intro es e
  refine Jz e ?_;clear e;intro h0 t0 r0 r e1 e2 e3
  subst e1
  by_cases q:(p.1==n)=true
  ·have q1:fO (p::fs) n mv=(p.1,mv)::fs:=if_pos q
   have q2:W.putL n hsh (Value.str n t) rv (⟨h0,.str p.1 t0,r0⟩::r)=⟨h0,.str p.1 t0,rv⟩::r:=if_pos q
   exact q1▸q2▸⟨h0,t0,rv,r,rfl,hv,e3⟩
  ·have q1:fO (p::fs) n mv=p::fO fs n mv:=if_neg q
   have q2:W.putL n hsh (Value.str n t) rv (⟨h0,.str p.1 t0,r0⟩::r)=⟨h0,.str p.1 t0,r0⟩::W.putL n hsh (Value.str n t) rv r:=if_neg q
   exact q1▸q2▸⟨h0,t0,r0,_,rfl,e2,ih e3⟩
theorem oP {P:Params}{B:Heap}{fs:List (Str × MV)}:∀{es:List DictEntry},aZ P B φ imm fs es→es.length=fs.length:=by
 induction fs with
 |nil=>exact fun e=>congrArg List.length e
 |cons _ _ ih=>
  intro es e
  refine Jz e ?_;clear e;intro _ _ _ _ e1 _ e3
  exact(congrArg List.length e1).trans (congrArg (·+1) (ih e3))
theorem nb {P:Params}{B:Heap}{n:Str}{fs:List (Str × MV)}:∀{es:List DictEntry},aZ P B φ imm fs es→es.any (·.refKey)=false:=by
 induction fs with
 |nil=>intro es e;have e:es=[]:=e;subst e;rfl
 |cons _ _ ih=>
  intro es e
  refine Jz e ?_;clear e;intro _ _ _ _ e1 _ e3
  exact(congrArg (·.any (·.refKey)) e1).trans (ih e3)
theorem iT {K:Str}{fs:List (Str × MV)}{j:Nat}:j∈fq (.inst K fs)↔∃p∈fs,p.2= .ref j:=by
 refine List.mem_filterMap.trans ⟨fun⟨p,hp,h⟩=>⟨p,hp,?_⟩,fun⟨p,hp,h⟩=>⟨p,hp,h▸rfl⟩⟩
 exact cL h
theorem vB {n:Str}{mv:MV}{p:Str × MV}{fs:List (Str × MV)}(h:p∈fO fs n mv):p∈fs∨p.2=mv:=by
 induction fs with
 |nil=>exact .inr (List.mem_singleton.mp h▸rfl)
 |cons q fs ih=>
  by_cases c:(q.1==n)=true
  ·have e:fO (q::fs) n mv=(q.1,mv)::fs:=if_pos c
   have h:p∈(q.1,mv)::fs:=e▸h
   exact(List.mem_cons.mp h).elim (fun e=>.inr (e▸rfl)) fun h=>.inl (.tail _ h)
  ·have e:fO (q::fs) n mv=q::fO fs n mv:=if_neg c
   have h:p∈q::fO fs n mv:=e▸h
   exact(List.mem_cons.mp h).elim (fun e=>.inl (e▸.head _)) fun h=>(ih h).imp (.tail _) id
theorem mF {b:Nat}{G:Prop}(h:cj b σ o n v=some σ')(k:∀id K fs,o= .ref id→σ[id]?=some (.inst K fs)→mN b id v=true→eT K n=true→(fO fs n v).length≤1000→σ.set id (.inst K (fO fs n v))=σ'→G):G:=by
 refine tr (Option.bind_eq_some_iff.mp h) fun id h1 h=>?_
 refine tr (Option.bind_eq_some_iff.mp h) fun ob h2 h=>?_
 refine tr (Option.bind_eq_some_iff.mp h) fun p h3 h=>?_
 exact cv h fun h4 h=>k id p.1 p.2 (cL h1) (eV h3▸h2) (bz (bz h4)) (a9 (bz h4)) (of_decide_eq_true (a9 h4)) h
theorem d0 (ok:CxOk C)(CF:ClsFacts C.w.params)(T:St C ρ σ g)(ho:Rg C g o ro)(hv:Rg C g v rv)(hb:cj C.b σ o n v=some σ')
  (hq:∀g',Le g g'→St C ρ σ' g'→K () g'.s):wpAny (model pw C.w) C.A (setAttr ro n rv) K E g.s:=by
 refine mF hb fun id cl fs e0 hi hm1 hm2 hm3 e9=>?_
 subst e0 e9
 refine Jm T.S fun mu prot S=>?_
 refine tr ho ?_;clear ho;intro a' ha e
 refine Ju (S.M.split hi) fun a e m1 m2 h1 h2 h3 h4=>?_
 have:=Option.some.inj (h1.symm.trans ha)
 subst this e
 refine Jz h3 ?_;clear h3;intro Ca dx es k e1 hc hfs
 subst e1
 have h2:mu=(m1++[(a,instObj Ca dx)])++(dx,dictOf es k)::m2:=h2.trans (List.append_assoc m1 [(a,instObj Ca dx)] ((dx,dictOf es k)::m2)).symm
 have CO:=CF.ok cl Ca (gP hm2) hc
 have hv1:Rv1 C.w.params C.B g.φ g.imm v rv:=by
  cases v with
  |ref j=>exact hv
  |_=>exact(Rv.simple (φ:=g.φ) hm1 hv).toRv1
 refine Jh (S.apart h2) fun p1 p2=>?_
 have N:=S.newsAt h2
 have hI:=InstAt.of_news N (List.mem_append_left _ (List.mem_append_right _ (.head _))) (List.mem_append_right _ (.head _))
 refine set_dict (es':=W.putL n (PyData.keyHash C.w.params n) (Value.str n (g.s.toks+1)) rv es) (n':=putN n es k) S.F ok.K N hI rfl CO.set CO.over (by unfold takerIn;refine Kh (CO.field n hm2)▸?_;rfl) CO.dict ?_ rfl (Upd.mk p2 p1) ((oP (jl hv1 hfs)).symm▸hm3) fun h' F' N'=>hq (g.at g.imm h' _) .on (T.on ?_)
 ·unfold getL
  split
  ·rfl
  ·refine Kh (nb (n:=n) hfs)▸?_;rfl
 ·refine JL _ prot (S.upd (h4 _ _ ⟨Ca,dx,_,_,rfl,hc,jl hv1 hfs⟩) (by subst h2;simp) F' (by simpa using N') fun j hj=>?_)
  refine tr (iT.mp hj) fun p hp hj=>?_
  rcases vB hp with hp|hp
  ·have hj:=(iT (K:=cl)).mpr ⟨p,hp,hj⟩
   exact Jg (S.all id _ (List.getElem?_eq_some_iff.mp hi).1 hi j hj) (fun n hn hin=>(S.closed n hn).2 id _ hin hi j hj)
  ·have hj:=hp.symm.trans hj
   subst hj
   refine tr hv1 ?_;clear hv1;intro b hb _
   refine Jg (S.phiLen▸(List.getElem?_eq_some_iff.mp hb).1) (fun n hn hin=>?_)
   rcases Bool.or_eq_true_iff.mp hm1 with hm1|hm1
   ·exact Nat.lt_trans (of_decide_eq_true hm1) hin
   ·exact absurd (Nat.lt_of_lt_of_le hin (ok.bOk n hn)) (Nat.not_lt.mpr (of_decide_eq_true hm1))
end
end
section
section
variable {C:Cx}{ρ ρ':Loc}{σ σ₁ σ₂ σ₃ σ₄:aa}{e l r:PySem.Expr}{pos:Pos}{x y v:MV}{Q:MF→Loc→aa→Prop}{Q1 QE:MV→aa→Prop}{X:XP}
theorem kM {es:List PySem.Expr}{A:List MV→aa→Prop}(h:WL C ρ es σ A X)(h1:∀vs σ₁,A vs σ₁→(noRefs vs=true∧vs.length≤ai)∧QE (.ref σ₁.length) (σ₁++[.list vs])):WE C ρ (.List es pos) σ QE X:=by
 intro g K E T P PX
 refine List_ (h g _ E pos T (fun vs σ₁ g1 rs q a T1 R1=>?_) PX)
 refine Jh (h1 vs σ₁ q) ?_;intro κ;refine Jh κ ?_;clear κ;intro hr hz;intro q
 refine Jm T1.S fun mu prot S=>?_
 have hz':=cI hz
 refine newList_N S.F S.N (fun h' F N=>?_) ((kS R1).symm▸hz')
 have S2:=S.newo (o:= .list vs) (e:=[(g1.s.heap.objs.size,listOf rs.toArray 0)]) F N (fun p hp q hq=>List.mem_singleton.mp hq▸S.lt p hp) (List.nodup_cons.mpr ⟨fun h=>(nomatch h),List.nodup_nil⟩) ⟨rs,0,rfl,hz',Rvl.simple hr R1⟩ (fun j hj=>nomatch hj)
 have b:Le g1 ⟨g1.φ++[g1.s.heap.objs.size],g1.imm,g1.m,{g1.s with heap:=h'}⟩:=⟨List.prefix_append _ _,fun _ h=>h,rfl⟩
 have e:(g1.φ++[g1.s.heap.objs.size])[σ₁.length]?=some g1.s.heap.objs.size:=by rewrite[← S.phiLen];simp
 exact P _ _ _ _ q (a.trans b) ⟨⟨_,_,S2⟩,T1.L.mono b.φ b.imm⟩ ⟨_,e,rfl⟩
theorem fH {e t:PySem.Expr}{n:Nat}{env:Env}(h:bT e=false):swapsWithSole [t] e n env=pure false:=cZ h
theorem dA {o:PySem.Expr}{n:Str}{p:Pos}{env:Env}{v:Value}{M:Model}{A:Around}{s:Shared}{E:Value→Shared→Prop}{Q:Unit→Shared→Prop}(h:wpAny M A (eval o env) (fun ov s₁=>wpAny M A (setAttr ov n v) Q E s₁) E s):wpAny M A (assign (.Attribute o n p) env v) Q E s:=by
 refine(?_:wpAny M A (do
  let ov ← holding [v] (eval o env)
  standAt p.atName
  holding [v,ov] (setAttr ov n v)
  release [v,ov] []) Q E s)
 refine wpAny_bind (wpAny_holding (wpAny_mono h (fun ov s₁ h₁=>?_) fun _ _ x=>x))
 exact wpAny_bind (wpAny_standAt (wpAny_bind (wpAny_holding (wpAny_mono h₁ (fun _ _ x=>wpAny_release x) fun _ _ x=>x))))
theorem uO (ok:CxOk C)(CF:ClsFacts C.w.params){o:PySem.Expr}{n:Str}{p:Pos}{Q2:MV→MV→aa→Prop}(hc:bT e=false)(h:WE C ρ e σ Q1 X)(h2:∀v σ₁,Q1 v σ₁→WE C ρ o σ₁ (Q2 v) noX)(h3:∀v x σ₂,Q2 v x σ₂→OptEx (cj C.b σ₂ x n v) fun σ₃=>Q .next ρ σ₃):
  WS C ρ (.Assign [.Attribute o n p] e pos) σ Q X:=
 fun g K E T P PX=>wpAny_Assign_stores (h g _ E T (fun v σ₁ g1 rv q1 a T1 R1=>dA (h2 v σ₁ q1 g1 _ E T1 (fun x σ₂ g2 ro q2 b T2 R2=>(h3 v x σ₂ q2).elim fun σ₃ hs q=>
  d0 ok CF T2 R2 (R1.le b) hs fun g3 c T3=>P.next ρ σ₃ g3 q (a.trans (b.trans c)) T3) .no)) PX) (fH hc) rfl
theorem zx {o i:PySem.Expr}{p:Pos}{Q2:MV→MV→aa→Prop}{Q3:MV→MV→MV→aa→Prop}(hc:bT e=false)(h:WE C ρ e σ Q1 noX)(h2:∀v σ₁,Q1 v σ₁→WE C ρ o σ₁ (Q2 v) noX)(h3:∀v x σ₂,Q2 v x σ₂→WE C ρ i σ₂ (Q3 v x) noX)
  (h4:∀v x y σ₃,Q3 v x y σ₃→OptEx (dK σ₃ x y v) fun σ₄=>Q .next ρ σ₄):WS C ρ (.Assign [.Subscript o i p] e pos) σ Q X:=
 fun g K E T P _=>wpAny_Assign_Subscript (h g _ E T (fun v σ₁ g1 rv q1 a T1 R1=>h2 v σ₁ q1 g1 _ E T1 (fun x σ₂ g2 ro q2 b T2 R2=>h3 v x σ₂ q2 g2 _ E T2 (fun y σ₃ g3 ri q3 c T3 R3=>(h4 v x y σ₃ q3).elim fun σ₄ hs q=>
  nX T3 (R2.le c) R3 (R1.le (b.trans c)) hs fun g4 d T4=>P.next ρ σ₄ g4 q (a.trans (b.trans (c.trans d))) T4) .no) .no) .no) (cZ hc)
theorem uK (ok:CxOk C)(CF:ClsFacts C.w.params){o:PySem.Expr}{n:Str}{p:Pos}{op:Operator}{Q2:MV→Int→MV→aa→Prop}(h:WE C ρ o σ Q1 noX)(h2:∀x σ₁,Q1 x σ₁→OptEx (dL σ₁ x n) fun z=>OptEx (bQ z) fun i=>WE C ρ e σ₁ (Q2 x i) noX)
  (h3:∀x i y σ₂,Q2 x i y σ₂→OptEx (bQ y) fun j=>OptEx (qN op i j) fun z=>OptEx (cj C.b σ₂ x n z) fun σ₃=>Q .next ρ σ₃):WS C ρ (.AugAssign (.Attribute o n p) op e pos) σ Q X:=by
 intro g K E T P _
 refine wpAny_AugAssign_AttributeAny (h g _ E T (fun x σ₁ g1 ro q1 a T1 R1=>(h2 x σ₁ q1).elim fun z hz q=>q.elim fun i hi w=>?_) .no)
 refine pZ ok CF T1.S R1 hz fun tk r1 G1=>?_
 refine w (g1.at g1.imm g1.s.heap tk) _ E (T1.on T1.S) (fun y σ₂ g2 r2 q2 b T2 R2=>?_) .no
 refine(h3 x i y σ₂ q2).elim fun j hj q=>q.elim fun z' hz' q=>q.elim fun σ₃ hs q=>?_
 have G1:Rg C g1 (.int i) r1:=aM hi▸G1
 have R2:Rg C g2 (.int j) r2:=aM hj▸R2
 refine Jf (aK G1) fun t e1=>?_
 refine Jf (aK R2) fun u e2=>?_
 subst e1 e2
 exact pL hz' fun tk' i' t' hv=>d0 (g:=g2.at g2.imm g2.s.heap tk') ok CF (T2.on T2.S) (R1.le (Le.on.trans (b.trans .on))) (hv▸aT) hs fun g3 c T3=>P.next ρ σ₃ g3 q (a.trans (Le.on.trans (b.trans (Le.on.trans c)))) T3
noncomputable def WM (C:Cx)(ρ:Loc)(ts:List PySem.Expr)(vs:List MV)(σ:aa)(Q:Loc→aa→Prop):Prop:=∀g K E rvs,St C ρ σ g→dk C.w.params C.B g.φ g.imm vs rvs→(∀ρ' σ' g',Q ρ' σ'→Le g g'→St C ρ' σ' g'→K () g'.s)→
 wpAny (model pw C.w) C.A (assignInOrder ((assignEach ts C.env).map (·.2)) rvs) K E g.s
theorem rT {Q:Loc→aa→Prop}(q:Q ρ σ):WM C ρ [] [] σ Q:=fun g K E rvs T R P=>by
 have R:rvs=[]:=R
 subst R
 exact wpAny_pure (P ρ σ g q .refl T)
theorem uG {Q:Loc→aa→Prop}(ok:CxOk C){n:Str}{p:Pos}{ts:List PySem.Expr}{vs:List MV}(hs:dZ C.env.scope.names ρ n v=some ρ')(h:WM C ρ' ts vs σ Q):WM C ρ (.Name n p::ts) (v::vs) σ Q:=by
 intro g K E rvs T R P
 refine Jj R ?_;clear R;intro rv rs e R1 R2
 subst e
 exact wpAny_bind (wpAny_holding (PyProof.Rows.assign_Name (dI ok T hs R1.toRv fun g1 a T1=>h g1 K E rs T1 (R2.mono a.φ a.imm) fun ρ2 σ2 g2 q b=>P ρ2 σ2 g2 q (a.trans b))))
theorem uH {Q:Loc→aa→Prop}(ok:CxOk C)(CF:ClsFacts C.w.params){o:PySem.Expr}{n:Str}{p:Pos}{ts:List PySem.Expr}{vs:List MV}(h1:WE C ρ o σ Q1 noX)(h2:∀x σ₁,Q1 x σ₁→OptEx (cj C.b σ₁ x n v) fun σ₂=>WM C ρ ts vs σ₂ Q):WM C ρ (.Attribute o n p::ts) (v::vs) σ Q:=by
 intro g K E rvs T R P
 refine Jj R ?_;clear R;intro rv rs e R1 R2
 subst e
 refine wpAny_bind (wpAny_holding (dA (h1 g _ E T (fun x σ₁ g1 ro q a T1 Ro=>(h2 x σ₁ q).elim fun σ₂ hs h=>?_) .no)))
 exact d0 ok CF T1 Ro (R1.toRv.le a) hs fun g2 b T2=>h g2 K E rs T2 (R2.mono (a.trans b).φ (a.trans b).imm) fun ρ2 σ2 g3 q c=>P ρ2 σ2 g3 q (a.trans (b.trans c))
theorem fu {sc:aV}{t:PySem.Expr}{ts:List PySem.Expr}{vs:List MV}{G:Prop}(h:au sc (t::ts) vs ρ=some ρ')(k:∀n p v r ρ1,t= .Name n p→vs=v::r→dZ sc ρ n v=some ρ1→au sc ts r ρ1=some ρ'→G):G:=by
 cases vs with
 |nil=>exact Ji h
 |cons v vs=>
  refine tN h (fun _=>Ji) fun n p e h=>?_
  refine tr (Option.bind_eq_some_iff.mp h) fun ρ1 hs h=>?_
  exact k n p v vs ρ1 e rfl hs h
theorem gk {sc:aV}{vs:List MV}{G:Prop}(h:au sc [] vs ρ=some ρ')(k:vs=[]→ρ=ρ'→G):G:=by
 cases vs with
 |nil=>exact k rfl (Option.some.inj h)
 |cons v vs=>exact Ji h
theorem ma {Q:Loc→aa→Prop}(ok:CxOk C){ts:List PySem.Expr}:∀{vs:List MV}{ρ ρ':Loc},au C.env.scope.names ts vs ρ=some ρ'→Q ρ' σ→WM C ρ ts vs σ Q:=by
 induction ts with
 |nil=>
  intro vs ρ ρ' h q
  refine gk h fun e1 e2=>?_
  subst e1 e2
  exact rT q
 |cons t ts ih=>
  intro vs ρ ρ' h q
  refine fu h fun n p v r ρ1 e1 e2 hs h'=>?_
  subst e1 e2
  exact uG ok hs (ih h' q)
theorem iO {sc:aV}(env:Env){ts:List PySem.Expr}:∀{vs:List MV}{ρ ρ':Loc},au sc ts vs ρ=some ρ'→(assignEach ts env).length=vs.length∧(assignEach ts env).findIdx? (·.1)=none:=by
 induction ts with
 |nil=>
  intro vs ρ ρ' h
  refine gk h fun e _=>?_
  subst e
  exact Jg rfl rfl
 |cons t ts ih=>
  intro vs ρ ρ' h
  refine fu h fun n p v r ρ1 e1 e2 _ h'=>?_
  subst e1 e2
  refine Jh (ih h') fun q1 q2=>?_
  refine Jg (congrArg (·+1) q1) ?_
  refine(?_:List.findIdx? _ ((false,_)::assignEach ts env)=none)
  refine Kh List.findIdx?_cons▸?_
  simp[q2]
theorem wy {mu prot:Led}{h:Heap}{φ:List Addr}{imm:Led}{m:Str→Option Value}{l:List MV}{rv:Value}(S:SD C φ imm m σ h mu prot)(hv:Rv C.w.params C.B φ imm (.tup l) rv):∃a vs,rv= .ref a∧IsTup h a (List.toArray vs)∧dk C.w.params C.B φ imm l vs:=by
 refine Jv hv ?_;clear hv;intro a vs o n e1 e2 e3 e4 ez e5
 exact Jp a vs e1 ⟨o,S.immIn e2,e3,n,e4⟩ e5
theorem jY (ok:CxOk C){Q:Loc→aa→Prop}{ts:List PySem.Expr}{vs:List MV}{rv:Value}{g:Gh}{E:Value→Shared→Prop}{K:Unit→Shared→Prop}{p:Pos}{k:Nat}(T:St C ρ σ g)(R:Rg C g (.tup vs) rv)(hl:(assignEach ts C.env).length=vs.length∧(assignEach ts C.env).findIdx? (·.1)=none)(h:WM C ρ ts vs σ Q)
  (P:∀ρ' σ' g',Q ρ' σ'→Le g g'→St C ρ' σ' g'→K () g'.s):wpAny (model pw C.w) C.A (assign (.Tuple ts k p) C.env rv) K E g.s:=by
 refine Jm T.S fun mu prot S=>?_
 refine Jj (wy S R) fun a rvs e hT R2=>?_
 subst e
 refine wpAny_bind (wpAny_standAt (unpack_tuple ok.handled hT (hl.1.trans (fJ R2).symm) hl.2 fun h' he=>?_))
 exact h (g.at g.imm h' g.s.toks) K E _ (T.on ⟨mu,prot,S.go (S.F.extBut he (Nat.le_refl _)) (S.N.extBut he (Nat.le_refl _))⟩) R2 fun ρ' σ' g' q b=>P ρ' σ' g' q (Le.on.trans b)
theorem Bc {T:Type}{c c1 c2 c3 c4 c5:Prop}[Decidable c][Decidable c1][Decidable c2][Decidable c3][Decidable c4][Decidable c5]{a b d:T}(e:c1↔c)(h:(if c then some false else if c2 then some false else if c3 then some false else if c4 then some false else if c5 then none else some true)=some false):
  (if c1 then a else if c2 then a else if c3 then a else if c4 then a else if c5 then d else b)=a:=by
 by_cases h1:c
 ·exact if_pos (e.mpr h1)
 refine(if_neg fun q=>h1 (e.mp q)).trans ?_
 replace h:=(if_neg h1).symm.trans h
 by_cases h2:c2
 ·exact if_pos h2
 refine(if_neg h2).trans ?_
 replace h:=(if_neg h2).symm.trans h
 by_cases h3:c3
 ·exact if_pos h3
 refine(if_neg h3).trans ?_
 replace h:=(if_neg h3).symm.trans h
 by_cases h4:c4
 ·exact if_pos h4
 replace h:=(if_neg h4).symm.trans h
 by_cases h5:c5
 ·exact absurd ((if_pos h5).symm.trans h) (by decide)
 ·exact absurd ((if_neg h5).symm.trans h) (by decide)
theorem Bb {T:Type}{c c1 c2 c3 c4 c5:Prop}[Decidable c][Decidable c1][Decidable c2][Decidable c3][Decidable c4][Decidable c5]{a b d:T}(e:c1↔c)(h:(if c then some false else if c2 then some false else if c3 then some false else if c4 then some false else if c5 then none else some true)=some true):
  (if c1 then a else if c2 then a else if c3 then a else if c4 then a else if c5 then d else b)=b∧¬c3:=by
 by_cases h1:c
 ·exact absurd ((if_pos h1).symm.trans h) (by decide)
 replace h:=(if_neg h1).symm.trans h
 by_cases h2:c2
 ·exact absurd ((if_pos h2).symm.trans h) (by decide)
 replace h:=(if_neg h2).symm.trans h
 by_cases h3:c3
 ·exact absurd ((if_pos h3).symm.trans h) (by decide)
 replace h:=(if_neg h3).symm.trans h
 by_cases h4:c4
 ·exact absurd ((if_pos h4).symm.trans h) (by decide)
 replace h:=(if_neg h4).symm.trans h
 by_cases h5:c5
 ·exact Ji ((if_pos h5).symm.trans h)
 ·exact Jg ((if_neg fun q=>h1 (e.mp q)).trans ((if_neg h2).trans ((if_neg h3).trans ((if_neg h4).trans (if_neg h5))))) h3
theorem kA (ok:CxOk C){b:Bool}:(b||C.env.blockKind != .function)=true↔b=true:=by
 have:(C.env.blockKind != .function)=false:=by unfold Env.blockKind;refine Kh ok.kind▸?_;rfl
 refine Kh this▸?_;refine Kh (Bool.or_false _)▸?_;rfl
theorem nR {ts:List PySem.Expr}{k:Nat}{p:Pos}{env:Env}(h:∀vs k p,e≠.Tuple vs k p):swappedStores [.Tuple ts k p] e env=pure none:=by
 cases e<;>first|rfl|exact absurd rfl (h _ _ _)
theorem rU (h:(view e).tup=none):∀vs k p,e≠.Tuple vs k p:=fun vs k p q=>by subst q;exact JT h
theorem kQ (ok:CxOk C){ts vs:List PySem.Expr}{k k':Nat}{p p':Pos}(h:eu C.env.scope.names ts vs=some false):swappedStores [.Tuple ts k p] (.Tuple vs k' p') C.env=pure none:=Bc (kA ok) h
theorem r6 (ok:CxOk C){ts vs:List PySem.Expr}{k k':Nat}{p p':Pos}(h:eu C.env.scope.names ts vs=some true):
  ∃ln,swappedStores [.Tuple ts k p] (.Tuple vs k' p') C.env=pure (some (ts.filterMap (eC C.env.scope.names ln)))∧(ts.filterMap (eC C.env.scope.names ln)).length=ts.length:=by
 rcases Bb (kA ok) h with ⟨h1,h2⟩
 exact Jl _ h1 (Decidable.byContradiction fun q=>h2 (Bool.or_eq_true_iff.mpr (.inl (bne_iff_ne.mpr q))))
theorem jP {α β:Type}{f:α→Option β}{l:List α}:(l.filterMap f).length=l.length→∀x∈l,∃y,f x=some y:=by
 induction l with
 |nil=>exact fun _ x hx=>nomatch hx
 |cons a l ih=>
  intro h x hx
  refine Js (o:=f a) (fun ha=>?_) fun y ha=>?_
  ·try refine Kh ha▸?_
   exact absurd ((congrArg List.length (List.filterMap_cons_none ha)).symm.trans h) (Nat.ne_of_lt (Nat.lt_succ_of_le (List.length_filterMap_le f l)))
  ·try refine Kh ha▸?_
   have h:=(congrArg List.length (List.filterMap_cons_some ha)).symm.trans h
   exact(List.mem_cons.mp hx).elim (fun e=>⟨y,e▸ha⟩) fun hx=>ih (Nat.succ.inj h) x hx
theorem mq (ok:CxOk C){ln:Nat}{K:Unit→Shared→Prop}{E:Value→Shared→Prop}{ts:List PySem.Expr}:∀{vs:List MV}{ρ ρ':Loc},(∀x∈ts,∃y,eC C.env.scope.names ln x=some y)→au C.env.scope.names ts vs ρ=some ρ'→
  ∀{g rvs},St C ρ σ g→dk C.w.params C.B g.φ g.imm vs rvs→(∀g',Le g g'→St C ρ' σ g'→K () g'.s)→
  wpAny (model pw C.w) C.A (assignInOrder ((ts.filterMap (eC C.env.scope.names ln)).map fun n=>bindName C.env n) rvs) K E g.s:=by
 induction ts with
 |nil=>
  intro vs ρ ρ' hn h g rvs T R q
  refine gk h fun e1 e2=>?_
  subst e1 e2
  have R:rvs=[]:=R
  subst R
  exact wpAny_pure (q g .refl T)
 |cons t ts ih=>
  intro vs ρ ρ' hn h g rvs T R q
  refine fu h fun n p v r ρ1 e1 e2 hs h'=>?_
  subst e1 e2
  refine Jf (hn _ (.head _)) fun y hy=>?_
  have e:n=y:=cv hy fun _ e=>e
  subst e
  refine Jj R ?_;clear R;intro rv rs e R1 R2
  subst e
  refine Kh (List.filterMap_cons_some hy)▸?_
  exact wpAny_bind (wpAny_holding (bindName_ (dI ok T hs R1.toRv fun g1 a T1=>ih (fun x hx=>hn x (.tail _ hx)) h' T1 (R2.mono a.φ a.imm) fun g2 b=>q g2 (a.trans b))))
theorem sm {P:Params}{B:Heap}{φ:List Addr}{imm:Led}{l l':List MV}{vs':List Value}(h':dk P B φ imm l' vs'):∀{vs:List Value},dk P B φ imm l vs→dk P B φ imm (l++l') (vs++vs'):=by
 induction l with
 |nil=>intro vs h;have h:vs=[]:=h;subst h;exact h'
 |cons a l ih=>intro vs h;refine Jj h ?_;clear h;intro v r e h1 h2;subst e;exact Jp v (r++vs') rfl h1 (ih h2)
theorem sk {P:Params}{B:Heap}{φ:List Addr}{imm:Led}{l:List MV}:∀{vs:List Value},dk P B φ imm l vs→dk P B φ imm l.reverse vs.reverse:=by
 induction l with
 |nil=>intro vs h;have h:vs=[]:=h;subst h;rfl
 |cons a l ih=>
  intro vs h
  refine Jj h ?_;clear h;intro v r e h1 h2
  subst e
  rw[List.reverse_cons,List.reverse_cons]
  exact sm (l':=[a]) ⟨v,[],rfl,h1,rfl⟩ (ih h2)
theorem mc (ok:CxOk C){ts:List PySem.Expr}{k:Nat}{p:Pos}(hc:bT e=false)(hw:swappedStores [.Tuple ts k p] e C.env=pure none)(h:WE C ρ e σ Q1 X)
  (h2:∀x σ₁,Q1 x σ₁→OptEx (eN x) fun vs=>((assignEach ts C.env).length=vs.length∧(assignEach ts C.env).findIdx? (·.1)=none)∧WM C ρ ts vs σ₁ (Q .next)):WS C ρ (.Assign [.Tuple ts k p] e pos) σ Q X:=
 fun g K E T P PX=>Assign_Tuple (h g _ E T (fun x σ₁ g1 rv q a T1 R1=>(h2 x σ₁ q).elim fun vs e h=>jY ok T1 (jx e▸R1) h.1 h.2 fun ρ' σ' g' q b=>P.next ρ' σ' g' q (a.trans b)) PX) (fH hc) hw
theorem gd (ok:CxOk C){ts:List PySem.Expr}{k:Nat}{p:Pos}(hc:bT e=false)(hw:swappedStores [.Tuple ts k p] e C.env=pure none)(h:WE C ρ e σ Q1 X)
  (h2:∀x σ₁,Q1 x σ₁→OptEx (eN x) fun vs=>OptEx (au C.env.scope.names ts vs ρ) fun ρ'=>Q .next ρ' σ₁):WS C ρ (.Assign [.Tuple ts k p] e pos) σ Q X:=
 mc ok hc hw h fun x σ₁ q=>(h2 x σ₁ q).elim fun vs e q=>q.elim fun ρ' hb q=>.intro vs e ⟨iO C.env hb,ma ok hb q⟩
theorem pi (ok:CxOk C){ts vs:List PySem.Expr}{k k':Nat}{p p':Pos}(hw:eu C.env.scope.names ts vs=some true)(h:WE C ρ (.Tuple vs k' p') σ Q1 X)
  (h2:∀x σ₁,Q1 x σ₁→OptEx (eN x) fun vs=>ts.length=vs.length∧OptEx (au C.env.scope.names ts.reverse vs.reverse ρ) fun ρ'=>Q .next ρ' σ₁):WS C ρ (.Assign [.Tuple ts k p] (.Tuple vs k' p') pos) σ Q X:=by
 intro g K E T P PX
 refine tr (r6 (k:=k) (p:=p) (k':=k') (p':=p') ok hw) fun ln w1 w2=>?_
 refine Assign_Tuple_swapped (h g _ E T (fun x σ₁ g1 rv q a T1 R1=>?_) PX) (fH rfl) w1
 refine(h2 x σ₁ q).elim fun l e h=>h.2.elim fun ρ' hb q=>?_
 refine Jm T1.S fun mu prot S1=>?_
 refine Jj (wy S1 (jx e▸R1)) fun t rvs e hT R2=>?_
 subst e
 have hlen:(ts.filterMap (eC C.env.scope.names ln)).length=rvs.toArray.size:=w2.trans (h.1.trans (fJ R2).symm)
 refine Kh hlen▸?_
 refine unpackItems_tuple ok.handled hT fun h' he=>?_
 refine List.filterMap_reverse▸?_
 exact mq (g:=g1.at g1.imm h' g1.s.toks) ok (fun x hx=>jP w2 x (List.mem_reverse.mp hx)) hb (T1.on ⟨mu,prot,S1.go (S1.F.extBut he (Nat.le_refl _)) (S1.N.extBut he (Nat.le_refl _))⟩) (sk R2) fun g2 b T2=>P.next ρ' σ₁ g2 q (a.trans (Le.on.trans b)) T2
end
end
section
theorem aZ.shrink {P:Params}{B:Heap}{Φ:List Addr}{imm:Led}{n:Nat}{fs:List (Str × MV)}(h:∀p∈fs,∀j,p.2= .ref j→j<n):∀{es:List DictEntry},aZ P B Φ imm fs es→aZ P B (Φ.take n) imm fs es:=by
 induction fs with
 |nil=>exact fun e=>e
 |cons p fs ih=>
  intro es e
  refine Jz e ?_;clear e;intro hsh t v r e1 e2 e3
  refine JI hsh t v r e1 ?_ (ih (fun q hq=>h q (.tail _ hq)) e3)
  cases hp:p.2 with
  |ref j=>exact(hp▸e2:Rv1 P B Φ imm (.ref j) v).imp fun a h'=>⟨((List.getElem?_take ..).trans (if_pos (h p (.head _) j hp))).trans h'.1,h'.2⟩
  |_=>exact(hp▸e2:Rv1 P B Φ imm _ v)
theorem cQ.shrink {P:Params}{B:Heap}{Φ:List Addr}{imm:Led}{n:Nat}{a:Addr}{o:MO}{e:Led}(h:∀j∈fq o,j<n)(x:cQ P B Φ imm a o e):cQ P B (Φ.take n) imm a o e:=by
 cases o with
 |list l=>exact x
 |barr b=>exact x
 |inst K fs=>
  refine Jz x ?_;clear x;intro Ca dx es k e1 e2 e3
  exact JI Ca dx es k e1 e2 (e3.shrink fun p hp j hj=>h j (iT.mpr ⟨p,hp,hj⟩))
theorem cM.cut {P:Params}{B:Heap}{Φ:List Addr}{imm:Led}{N:Nat}{σ:aa}:∀{φ:List Addr}{m:Led}(n:Nat),cM P B Φ imm σ φ m→(∀i o,i<n→σ[i]?=some o→∀j∈fq o,j<N)→
  ∃m' r,m=m'++r∧cM P B (Φ.take N) imm (σ.take n) (φ.take n) m'∧∀i o,n≤i→σ[i]?=some o→∃a e,φ[i]?=some a∧cQ P B Φ imm a o e∧∀p∈e,p∈r:=by
 induction σ with
 |nil=>
  intro φ m n e _
  refine Jh e ?_;clear e;intro e1 e2
  subst e1 e2
  refine Jp [] [] rfl ?_ (fun i o _ q=>Ji q)
  rewrite[List.take_nil,List.take_nil];exact Jg rfl rfl
 |cons o σ ih=>
  intro φ m n e h
  cases n with
  |zero=>
   refine Jp [] m rfl ⟨rfl,rfl⟩ (fun i o' _ q=>?_)
   refine Ju (e.split q) fun a e' m1 m2 h1 h2 h3 _=>?_
   exact Jp a e' h1 h3 (fun p hp=>h2▸List.mem_append_right _ (List.mem_append_left _ hp))
  |succ n=>
   refine Ju e ?_;clear e;intro a φ' e' r e1 e2 e3 e4
   refine Jj (ih n e4 fun i o' hi q=>h (i+1) o' (Nat.succ_lt_succ hi) q) fun m' r' h1 h2 h3=>?_
   subst e1 e2 h1
   refine Jp (e'++m') r' ((List.append_assoc ..).symm) ⟨a,φ'.take n,e',m',rfl,rfl,e3.shrink (h 0 o (Nat.succ_pos n) rfl),h2⟩ (fun i o' hi q=>?_)
   cases i with
   |zero=>exact absurd hi (Nat.not_succ_le_zero n)
   |succ i=>exact h3 i o' (Nat.le_of_succ_le_succ hi) q
theorem cy.cut {σ:aa}{k n:Nat}(h:cy k σ):cy k (σ.take n):=fun i o hi q=>gR ((List.getElem?_take ..).symm.trans q) fun _ q=>h i o hi q
noncomputable def Cx.cutAt (C:Cx)(n:Nat):Cx:={C with pts:=n::C.pts,b:=n}
section
variable {C:Cx}{ρ ρ':Loc}{σ σ₁ σ₂:aa}{e l r:PySem.Expr}{pos:Pos}{x y v:MV}{c:Str}{φ:List Addr}{imm:Led}{m:Str→Option Value}{s:Shared}{E:Value→Shared→Prop}{h:Heap}{mu prot:Led}
theorem SD.within (S:SD C φ imm m σ h mu prot):SD (C.cutAt σ.length) φ imm m σ h mu prot:=by
 refine⟨S.F,S.N,S.nd,S.M,S.P,fun n hn=>?_,S.all⟩
 rcases List.mem_cons.mp hn with e|hn
 ·exact Jg (Nat.le_of_eq e) (e▸S.all)
 ·exact S.closed n hn
theorem CxOk.within (ok:CxOk C)(S:SD C φ imm m σ h mu prot):CxOk (C.cutAt σ.length):=
 ⟨ok.K,ok.T,ok.handled,ok.frames,ok.depth,ok.units,ok.kind,ok.locals,ok.globals,ok.builtins,fun n hn=>by
  rcases List.mem_cons.mp hn with e|hn
  ·exact Nat.le_of_eq e
  ·exact(S.closed n hn).1,ok.framesOk⟩
theorem SD.without {n:Nat}(S:SD (C.cutAt n) φ imm m σ h mu prot):SD C φ imm m σ h mu prot:=⟨S.F,S.N,S.nd,S.M,S.P,fun k hk=>S.closed k (.tail _ hk),S.all⟩
theorem SD.cut {n:Nat}(S:SD (C.cutAt n) φ imm m σ h mu prot)(hp:∀k∈C.pts,k≤n):∃mu' r,mu=mu'++r∧SD C (φ.take n) (r++imm) m (σ.take n) h mu' prot∧
  ∀i o,n≤i→σ[i]?=some o→∃a e,φ[i]?=some a∧cQ C.w.params C.B φ imm a o e∧∀p∈e,p∈r:=by
 refine Jh (S.closed n (.head _)) fun hn hc=>?_
 refine Jj (S.M.cut n hc) fun m' r h1 h2 h3=>?_
 have hlen:(σ.take n).length=n:=List.length_take_of_le hn
 have e:m'++((r++imm)++prot)=mu++(imm++prot):=by subst h1;simp only[List.append_assoc]
 exact Jp m' r h1 ⟨S.F,e.symm▸S.N,e.symm▸S.nd,h2.mono (List.prefix_refl _) (fun p hp=>List.mem_append_right _ hp),S.P,fun k hk=>⟨hlen.symm▸hp k hk,(S.closed k (.tail _ hk)).2.cut⟩,hlen.symm▸hc.cut⟩ h3
end
section
variable {prog:Program}{w:World}{A:Around}{E:Value→Shared→Prop}{R:Result→Shared→Prop}{s:Shared}
theorem nK {test:PySem.Expr}{body orelse:List Stmt}{env:Env}
  (turn:wpAny (model prog w) A (isTrue test env (eval test env)) (fun b s₂=>
    if b then wpAny (model prog w) A (execs body env) (fun f s₃=>match f with
      | .next| .cont=>codeAny (model prog w) A (.whileLoop test body orelse env) R s₃
      | .brk=>R (.ok .next) s₃
      | .ret v=>R (.ok (.ret v)) s₃) (notedBy (model prog w) A env fun e s'=>R (.error e) s') s₂
    else wpAny (model prog w) A (execs orelse env) (fun f s₃=>R (.ok f) s₃) (notedBy (model prog w) A env fun e s'=>R (.error e) s') s₂)
    (notedBy (model prog w) A env fun e s'=>R (.error e) s') s):codeAny (model prog w) A (.whileLoop test body orelse env) R s:=by
 refine codeAny_of_tree ?_
 refine(?_:wpAny _ A ((whileTurn test body orelse env).onRaise (fun x=>do noteFrame x env;theTreesLotGoes x)) _ _ s)
 refine wpAny_noted ?_
 simp only[whileTurn]
 refine wpAny_bind (wpAny_mono turn (fun b s₂ h₂=>?_) fun _ _ h'=>h')
 cases b with
 |false=>
  exact wpAny_bind (wpAny_mono h₂ (fun f s₃ h₃=>wpAny_pure h₃) fun _ _ h'=>h')
 |true=>
  refine wpAny_bind (wpAny_mono h₂ (fun f s₃ h₃=>?_) fun _ _ h'=>h')
  cases f with
  |next=>exact wpAny_pure ⟨rfl,h₃⟩
  |cont=>exact wpAny_pure ⟨rfl,h₃⟩
  |brk=>exact wpAny_pure h₃
  |ret v=>exact wpAny_pure h₃
end
section
variable {C:Cx}{ρ ρ':Loc}{σ σ₁ σ₂:aa}{t:PySem.Expr}{body:List Stmt}{pos:Pos}{c:Str}{g:Gh}{E:Value→Shared→Prop}{X:XP}{Q Q1:MF→Loc→aa→Prop}{KT KE:aa→Prop}
theorem dm.noted (P:dm C g X E)(ok:CxOk C)(top:CxF C):dm C g X (notedBy (model pw C.w) C.A C.env (cameBackBy (model pw C.w) C.A C.env E)):=by
 intro c σ' g' ea q a X
 refine kZ (s:=g'.s) ok top rfl X fun h'' X2=>?_
 exact wh (s:={g'.s with heap:=h''}) X2 fun h3 X3=>P c σ' (g'.at g'.imm h3 g'.s.toks) ea q (a.trans .on) X3.weak
noncomputable def WW (C:Cx)(ρ:Loc)(t:PySem.Expr)(body:List Stmt)(σ:aa)(Q:MF→Loc→aa→Prop)(X:XP):Prop:=∀g K E,St C ρ σ g→EndS C g Q K→dm C g X E→
 codeAny (model pw C.w) C.A (.whileLoop t body [] C.env) (fun r s'=>match r with| .ok f=>K f s'| .error e=>cameBackBy (model pw C.w) C.A C.env E e s') g.s
theorem zg (ok:CxOk C)(top:CxF C)(h:WT C ρ t σ KT KE)(h1:∀σ₁,KT σ₁→WB C ρ body σ₁ Q1 X)(h2:∀ρ' σ₂,Q1 .next ρ' σ₂→WW C ρ' t body σ₂ Q X)(h3:∀x ρ' σ₂,Q1 (.ret x) ρ' σ₂→Q (.ret x) ρ' σ₂)(h4:∀σ₁,KE σ₁→Q .next ρ σ₁):WW C ρ t body σ Q X:=
 fun g K E T P PX=>nK (h g _ _ T ⟨fun σ₁ g1 q a T1=>h1 σ₁ q g1 _ _ T1 ⟨fun ρ' σ₂ g2 q b T2=>h2 ρ' σ₂ q g2 K E T2 (P.le (a.trans b)) (PX.le (a.trans b)),fun x ρ' σ₂ g2 v q b=>P.ret x ρ' σ₂ g2 v (h3 x ρ' σ₂ q) (a.trans b)⟩ ((PX.noted ok top).le a),
  fun σ₁ g1 q a T1=>wpAny_execs_nil (P.next ρ σ₁ g1 (h4 σ₁ q) a T1)⟩)
noncomputable def fc (I:Nat→Loc→aa→Prop)(m:Nat)(Q:MF→Loc→aa→Prop)(f:MF)(ρ':Loc)(σ':aa):Prop:=match f with
 | .next=>∃m',m'<m∧I m' ρ' σ'
 | .ret x=>Q (.ret x) ρ' σ'
theorem pe {I:Nat→Loc→aa→Prop}(ok:CxOk C)(top:CxF C)(hI:∃m,I m ρ σ)(turn:∀m ρ σ,I m ρ σ→WT C ρ t σ (fun σ₁=>WB C ρ body σ₁ (fc I m Q) X) (fun σ₁=>Q .next ρ σ₁)):WS C ρ (.While t body [] pos) σ Q X:=by
 refine Jf hI ?_;clear hI;intro m hI
 have go:WW C ρ t body σ Q X:=by
  induction m using Nat.strongRecOn generalizing ρ σ with
  |_ m ih=>exact zg ok top (turn m ρ σ hI) (fun _ h=>h) (fun ρ' σ₂ h=>h.elim fun m' h=>ih m' h.1 h.2) (fun _ _ _ h=>h) fun _ h=>h
 exact fun g K E T P PX=>wpAny_While (go g K E T P PX)
structure ExcFacts (P:Params):Prop where
 b:∃a,ce P "BadTable" a
 c:∃a,ce P "CutShort" a
 bb:∀a,ce P "BadTable" a→exmOne (KF P) (.ref a) (.ref a)=some true
 cc:∀a,ce P "CutShort" a→exmOne (KF P) (.ref a) (.ref a)=some true
 cb:∀a b,ce P "BadTable" a→ce P "CutShort" b→exmOne (KF P) (.ref b) (.ref a)=some false
theorem BK {b b':Bool}{x y:Prop}(h:b'=b∧if b then x else y):if b' then x else y:=h.1▸h.2
theorem gO {prog:Program}{w:World}{A:Around}{env:Env}{e:Addr}{b:Bool}{t:PySem.Expr}{b₀:Stmt}{suite:List Stmt}{pos:Pos}{rest:List ExceptHandler}{Q:Flow→Shared→Prop}
  (h:wpAny (model prog w) (A.mark (some (.ref e))) (eval t env) (fun c s₁=>wpAny (model prog w) (A.mark (some (.ref e))) (excMatches (.ref e) c) (fun b' s₂=>b'=b∧
   if b then wpAny (model prog w) (A.mark (some (.ref e))) (setFlight (.ref e) none) (fun _ s₃=>wpAny (model prog w) (A.mark (some (.ref e))) (execs (b₀::suite) env) Q (notedBy (model prog w) (A.mark (some (.ref e))) env (cameBackBy (model prog w) A env E)) s₃) (notedBy (model prog w) (A.mark (some (.ref e))) env (cameBackBy (model prog w) A env E)) s₂
   else wpAny (model prog w) A (handleBy (.ref e) env rest) Q E s₂) (notedBy (model prog w) (A.mark (some (.ref e))) env (cameBackBy (model prog w) A env E)) s₁) (notedBy (model prog w) (A.mark (some (.ref e))) env (cameBackBy (model prog w) A env E)) s):
  wpAny (model prog w) A (handleBy (.ref e) env (.ExceptHandler (some t) none (b₀::suite) pos::rest)) Q E s:=by
 refine wpAny_handleBy_cons (codeAny_handlers_test (wpAny_mono h (fun c s₁ h₁=>?_) fun _ _ x=>x)) (by intro q;cases q)
 refine wpAny_mono h₁ (fun b' s₂ h₂=>?_) fun _ _ x=>x
 replace h₂:=BK h₂
 cases b' with
 |true=>exact codeAny_handlers_suite h₂
 |false=>exact h₂
theorem iP (ok:CxOk C){A:Around}{n:Str}{a:Addr}{Q:Value→Shared→Prop}{φ:List Addr}{imm:Led}{m:Str→Option Value}{s:Shared}{mu prot:Led}(S:SD C φ imm m σ s.heap mu prot)(hk:C.env.scope.names.lookup n=some .globalImplicit)(hn:(n==("__debug__":Str))=false)(hc:ce C.w.params n a)(q:Q (.ref a) s):
  wpAny (model pw C.w) A (eval (.Name n pos) C.env) Q E s:=by
 refine Jf ok.T.g fun mg hg=>?_
 have hg':s.heap.Ns C.env.globals mg:=by refine Kh ok.globals▸?_;exact hg.keeps S.F.keep
 exact Name_function_global ok.kind hk (loadGlobal_global hg' (mg_of ok.K hg hc) q) hn
theorem qE {A:Around}{env:Env}{k:Str}{kk:Nat}{p p':Pos}{Q:Flow→Shared→Prop}{M:Model}(q:Q (.ret (.str k s.toks)) {s with toks:=s.toks+1}):
  wpAny M A (execs [.Return (some (.Constant (.str k) kk p)) p'] env) Q E s:=by
 refine wpAny_execs_cons (wpAny_Return_some (wpAny_Constant_str ?_))
 exact q
theorem jp {P:Params}{M:Model}{h:Heap}{ea:Addr}{oe:Obj}{Ca Da:Addr}{b:Bool}(K:(KF P).In h)(he:h.get? ea=some oe)(hc:oe.cls= .ref Ca)(hx:exmOne (KF P) (.ref Ca) (.ref Da)=some b):Looks M h (excMatches (.ref ea) (.ref Da)) b:=
 exm_one K (hc▸(Looks.ld he).andThen .now) hx
theorem ce.one {P:Params}{n:Str}{a b:Addr}(h:ce P n a)(h':ce P n b):a=b:=by
 have:=h.symm.trans h'
 refine Jk this ?_;clear this;intro κ;cases κ;rfl
theorem kj {ρ:Loc}{sc:aV}{n:Str}(h:gr sc ρ n=true):sc.lookup n=some .globalImplicit:=by
 unfold gr at h
 replace h:=Bool.and_eq_true _ _▸h
 simpa using h.1
theorem gH {φ φ1:List Addr}{n:Nat}(a:φ<+:φ1)(h:φ.length=n):φ1.take n=φ:=by
 refine Jf a ?_;clear a;intro r κ;subst κ
 subst h;simp
theorem tX {A:Around}{n:Nat}{φ:List Addr}{imm:Led}{s:Shared}{k:Str}{kk:Nat}{q2 q3:Pos}{ea:Addr}{Q:Flow→Shared→Prop}{b:Bool}(X:SX (C.cutAt n) b φ imm σ c ea s.heap)
  (q:∀m' h' tk t,SI (C.cutAt n) φ imm m' σ h'→Q (.ret (.str k t)) {s with heap:=h',toks:=tk}):
  wpAny (model pw C.w) A (setFlight (.ref ea) none) (fun _ s₃=>wpAny (model pw C.w) A (execs [.Return (some (.Constant (.str k) kk q2)) q3] C.env) Q E s₃) E s:=by
 refine eS (C:=C.cutAt n) X fun h' X'=>?_
 cases X' with
 |mk m' mu prot S x=>exact qE (q m' h' _ _ ⟨mu,prot,S⟩)
theorem Br (ok:CxOk C)(top:CxF C)(F:ExcFacts C.w.params){n1 n2 k1 k2:Str}{q1 q2 q3 q4 q5 q6 q7 q8:Pos}{kk1 kk2:Nat}(h1:gr C.env.scope.names ρ n1=true)(h2:gr C.env.scope.names ρ n2=true)(e1:n1="BadTable")(e2:n2="CutShort")
  (hb:∀C',CxOk C'→CxF C'→C'=C.cutAt σ.length→WB C' ρ body σ Q (fun c σ₁=>(c=n1∧Q (.ret (.str k1)) ρ (σ₁.take σ.length))∨(c=n2∧Q (.ret (.str k2)) ρ (σ₁.take σ.length)))):
  WS C ρ (.Try body [.ExceptHandler (some (.Name n1 q1)) none [.Return (some (.Constant (.str k1) kk1 q2)) q3] q4,.ExceptHandler (some (.Name n2 q5)) none [.Return (some (.Constant (.str k2) kk2 q6)) q7] q8] [] [] pos) σ Q X:=by
 intro g K E T P PX
 refine Jm T.S fun mu prot S=>?_
 have ok':=ok.within S
 have top':CxF (C.cutAt σ.length):=⟨top.1,top.2⟩
 have back:∀{φ1 imm1 m' σ' h'},SI (C.cutAt σ.length) φ1 imm1 m' σ' h'→SI C φ1 imm1 m' σ' h':=fun⟨mu1,prot1,S1⟩=>⟨mu1,prot1,S1.without⟩
 refine wpAny_Try_except ?_
 refine hb _ ok' top' rfl g _ _ ⟨⟨mu,prot,S.within⟩,T.L⟩ ⟨fun ρ' σ' g' q a T1=>wpAny_execs_nil (P.next ρ' σ' g' q a ⟨back T1.S,T1.L⟩),fun x ρ' σ' g' v q a S1=>P.ret x ρ' σ' g' v q a (back S1)⟩ ?_
 intro c σ₁ g1 ea q a1 X1
 refine kZ (C:=C.cutAt σ.length) (s:=g1.s) ok' top' rfl X1 fun hA XA=>?_
 refine eS (C:=C.cutAt σ.length) (s:={g1.s with heap:=hA}) XA fun hB XB=>?_
 have fin:∀z,Q (.ret (.str z)) ρ (σ₁.take σ.length)→∀m' h' tk t,SI (C.cutAt σ.length) g1.φ g1.imm m' σ₁ h'→K (.ret (.str z t)) {g1.s with heap:=h',toks:=tk}:=by
  intro z q m' h' tk t S'
  refine Jm S' ?_;clear S';intro mu' prot' S'
  refine Jj (S'.cut fun k hk=>(S.closed k hk).1) fun mu2 r2 _ S2 _=>?_
  rw[gH a1.φ S.phiLen]at S2
  exact P.ret _ _ _ ⟨g.φ,r2++g1.imm,m',{g1.s with heap:=h',toks:=tk}⟩ _ q ⟨List.prefix_refl _,fun p hp=>List.mem_append_right _ (a1.imm p hp),congrArg (fun s:Shared=>{s with heap:=h',toks:=tk}) a1.like⟩ ⟨mu2,prot',S2⟩ ⟨t,rfl⟩
 refine Jf F.b fun aB hB1=>?_
 refine Jf F.c fun aC hC1=>?_
 subst e1 e2
 have XB':=XB
 cases XB with
 |mk m2 mu2 prot2 S2 x=>
  refine Jj x.cls fun oe Ca x1 x2 x3=>?_
  have KH:=ok.K.keeps S2.F.keep
  refine gO (s:={g1.s with heap:=hB}) (b:=c==("BadTable":Str)) (iP (C:=C.cutAt σ.length) ok' S2 (kj h1) (by decide) hB1 ?_)
  rcases q with⟨rfl,q⟩|⟨rfl,q⟩
  ·have:=ce.one x1 hB1
   subst this
   exact(jp (M:=model pw C.w) KH x2 x3 (F.bb _ hB1)) _ _ _ _ (fun _ _ e=>e) ⟨by decide,tX (s:={g1.s with heap:=hB}) XB' (fin _ q)⟩
  ·have:=ce.one x1 hC1
   subst this
   refine(jp (M:=model pw C.w) KH x2 x3 (F.cb _ _ hB1 hC1)) _ _ _ _ (fun _ _ e=>e) ⟨by decide,?_⟩
   refine(?_:wpAny _ _ (handleBy (.ref ea) C.env _) _ _ _)
   refine gO (s:={g1.s with heap:=hB}) (b:=true) (iP (C:=C.cutAt σ.length) ok' S2 (kj h2) (by decide) hC1 ?_)
   exact(jp (M:=model pw C.w) KH x2 x3 (F.cc _ hC1)) _ _ _ _ (fun _ _ e=>e) ⟨rfl,tX (s:={g1.s with heap:=hB}) XB' (fin _ q)⟩
end
end
section
theorem nH {ns:List Str}:∀{vals:List Value}{n:Str},vals.length=ns.length→n∈ns→((ns.zip vals).lookup n).isSome=true:=by
 induction ns with
 |nil=>exact fun _ h=>nomatch h
 |cons m ns ih=>
  intro vals n h hm
  cases vals with
  |nil=>exact absurd h (Nat.succ_ne_zero _).symm
  |cons v vals=>
   by_cases e:n=m
   ·exact e▸congrArg Option.isSome bc
   ·exact(congrArg Option.isSome (aX e)).trans (ih (Nat.succ.inj h) ((List.mem_cons.mp hm).resolve_left e))
theorem gx {α β:Type}{f g:α→Option β}{l:List α}(h:∀x∈l,f x=g x):l.filterMap f=l.filterMap g:=by
 induction l with
 |nil=>rfl
 |cons a l ih=>refine Kh List.filterMap_cons▸?_;refine Kh List.filterMap_cons▸?_;refine Kh (h a (.head _))▸?_;refine Kh (ih fun x hx=>h x (.tail _ hx))▸?_;rfl
theorem qf {ns:List Str}:∀{vals:List Value},vals.length=ns.length→ns.Nodup→(ns.filterMap fun n=>((ns.zip vals).lookup n).map (n,·))=ns.zip vals:=by
 induction ns with
 |nil=>exact fun _ _=>rfl
 |cons m ns ih=>
  intro vals h hn
  cases vals with
  |nil=>exact absurd h (Nat.succ_ne_zero _).symm
  |cons v vals=>
   have hn:=List.nodup_cons.mp hn
   have hd:(List.lookup m ((m::ns).zip (v::vals))).map (m,·)=some (m,v):=congrArg (Option.map (m,·)) bc
   refine(List.filterMap_cons_some (f:=fun n=>Option.map (fun x=>(n,x)) (List.lookup n ((m::ns).zip (v::vals)))) hd).trans (congrArg ((m,v)::·) (Eq.trans ?_ (ih (Nat.succ.inj h) hn.2)))
   refine gx fun x hx=>congrArg (Option.map (x,·)) (aX fun e=>hn.1 (e▸hx))
theorem nI {M:Model}{A:Around}{E:Value→Shared→Prop}{s:Shared}{α β:Type}{l:List α}{b:β}{f:α→β→Sem (ForInStep β)}{Q:β→Shared→Prop}(h:l=[])(q:Q b s):wpAny M A (forIn l b f) Q E s:=by
 subst h;exact wpAny_pure q
theorem ua {s:Shared}{fd:FuncData}{vals:List Value}{as:List Arg}{kd:List (Option PySem.Expr)}{df:List PySem.Expr}(hl:vals.length=(as.map (·.arg)).length)(hn:(as.map (·.arg)).Nodup):
  BindsTo s {fd with params:=⟨[],as,none,[],kd,none,df⟩,defaults:= .none} ⟨vals,[]⟩ ((as.map (·.arg)).zip vals):=by
 intro M A E Q q
 refine wpAny_bind (wpAny_pure (wpAny_bind (wpAny_of_eq (a:=none) rfl (wpAny_ite_false (decide_eq_false fun h=>absurd (of_decide_eq_true (bz h)) (Nat.not_lt.mpr (Nat.le_of_eq hl))) (wpAny_ite_false (decide_eq_false fun h=>?_) (wpAny_bind (nI ?_ (wpAny_bind (wpAny_pure (wpAny_of_eq (congrArg pure ((congrArg (List.filterMap _) (List.append_nil _)).trans (qf hl hn))) q))))))))))
 ·refine Jq ((congrArg (!·) (List.isEmpty_iff.mpr (List.filter_eq_nil_iff.mpr fun n hm=>?_))).symm.trans h)
  exact fun q=>absurd (nH hl (List.mem_of_mem_take hm)) (Option.not_isSome_iff_eq_none.mpr (Option.isNone_iff_eq_none.mp q))
 ·exact(congrArg _ List.drop_nil).trans List.zip_nil_right
theorem A0 {fd:FuncData}{d:Value}{po ko:List Arg}{va ka:Option Arg}(hd:fd.defaults=d)(h1:fd.params.posonlyargs=po)(h2:fd.params.kwonlyargs=ko)(h3:fd.params.vararg=va)(h4:fd.params.kwarg=ka):
  {fd with params:=⟨po,fd.params.args,va,ko,fd.params.kw_defaults,ka,fd.params.defaults⟩,defaults:=d}=fd:=by
 subst hd h1 h2 h3 h4;rcases fd with ⟨_,_,⟨_,_,_,_,_,_,_⟩,_,_,_,_,_,_,_,_,_,_,_,_⟩;exact rfl
theorem ju {s:Shared}{fd:FuncData}{vals:List Value}(hd:fd.defaults= .none)(h1:fd.params.posonlyargs=[])(h2:fd.params.kwonlyargs=[])(h3:fd.params.vararg=none)(h4:fd.params.kwarg=none)
  (hl:vals.length=fd.params.args.length) (hn:(fd.params.args.map (·.arg)).Nodup):BindsTo s fd ⟨vals,[]⟩ ((fd.params.args.map (·.arg)).zip vals):=
 A0 hd h1 h2 h3 h4▸ua (fd:=fd) (hl.trans (List.length_map ..).symm) hn
structure FunOk (A:Arguments)(sc:Scope):Prop where
 po:A.posonlyargs=[]
 ko:A.kwonlyargs=[]
 va:A.vararg=none
 ka:A.kwarg=none
 kind:sc.kind= .function
 co:sc.isCoroutine=false
 gen:sc.isGenerator=false
 names:∀p∈sc.names,sc.names.lookup p.1=some p.2
 nd:(A.args.map (·.arg)).Nodup
 par:∀n∈A.args.map (·.arg),sc.names.lookup n=some .local∨(sc.names.lookup n=some .cell∧n∈(cellsFrom 0 sc.names []).map (·.1))
 cells:((cellsFrom 0 sc.names []).map (·.1)).Nodup
inductive FunAt (P:Params)(a:Addr)(A:Arguments)(body:List Stmt)(sc:Scope)(dV:Value):Prop
 |mk (oc:Value) (od:Option Addr) (osl:Array (Option Value)) (name qual:Str) (kV doc pm:Value) (an:Option Addr) (cdv ct:Value)
   (h:(KF P).lookup a=some ⟨oc,od,.func (fnX name qual A body sc [] dV kV doc pm an cdv ct),osl⟩) (c:codeIn (KF P) cdv qual=true)
noncomputable def Cx.callee (C:Cx)(env:Env)(L:Addr)(oL:Obj)(ps:List Nat)(b d:Nat):Cx:=
 {w:=C.w,B:=C.B,A:=C.A.deeper env,env:=env,L:=L,prot:=(C.L,oL)::C.prot,frames:=env::C.frames,pts:=ps,d:=d,b:=b}
theorem ic {mu imm prot:Led}{x:Addr × Obj}:(mu++(imm++x::prot)).Perm (x::(mu++(imm++prot))):=(List.perm_middle.append_left mu).trans List.perm_middle
theorem vK {mu cells imm prot:Led}:(mu++((cells++imm)++prot)).Perm (cells++(mu++(imm++prot))):=(List.append_assoc cells imm prot).symm▸List.perm_append_comm_assoc mu cells (imm++prot)
section
variable {C:Cx}{φ:List Addr}{imm:Led}{m m':Str→Option Value}{σ:aa}{h h':Heap}{mu prot:Led}{env:Env}{L:Addr}{oL:Obj}{ps:List Nat}{b d:Nat}
theorem CxOk.callee (ok:CxOk C)(hd:C.A.depth+1+2*d≤600)(hu:C.A.units+3+20*d≤9000)(hk:env.scope.kind= .function)(h1:env.locals=L)(h2:env.globals=mainGlobals)(h3:env.builtins=builtinsNs)(h4:env.frame=some L)(hb:∀n∈ps,n≤b)(hL:∀vs,oL.data≠.fields vs):
  CxOk (C.callee env L oL ps b d)∧CxF (C.callee env L oL ps b d):=by
 refine⟨⟨ok.K,ok.T,ok.handled,congrArg (Option.map (env::·)) ok.frames,hd,hu,hk,h1,h2,h3,hb,fun e he=>?_⟩,⟨C.frames,rfl⟩,h4⟩
 rcases List.mem_cons.mp he with e'|he
 ·subst e'
  exact⟨hk,L,h4,.inl rfl⟩
 ·rcases ok.framesOk e he with ⟨k1,l,k2,k3⟩
  exact⟨k1,l,k2,.inr (k3.elim (fun q=>⟨oL,q▸.head _,hL⟩) fun⟨o,k3,k4⟩=>⟨o,.tail _ k3,k4⟩)⟩
theorem SD.enter {cells:Led}(S:SD C φ imm m σ h mu prot)(hL:h.get? C.L=some oL)(hsz:h.objs.size≤L)(hns:h'.Ns L m')(keep:∀b o,h.get? b=some o→h'.get? b=some o)
  (N:News h L h' cells) (hab:∀p∈cells,L<p.1) (hnd:(cells.map (·.1)).Nodup) (hps:∀n∈ps,n≤σ.length∧cy n σ):SD (C.callee env L oL ps b d) φ (cells++imm) m' σ h' mu ((C.L,oL)::prot):=by
 have lt:∀p∈mu++(imm++prot),p.1<h.objs.size:=fun p hp=>Heap.lt_size (S.N p hp).1
 have hCL:C.L<h.objs.size:=Heap.lt_size hL
 have new:∀a,h.objs.size≤a→C.B.get? a=none:=fun a ha=>by
  refine Js (o:=C.B.get? a) (fun hq=>?_) fun o hq=>?_
  ·try refine Kh hq▸?_
   rfl
  ·try refine Kh hq▸?_
   exact absurd (Heap.lt_size (S.F.keep _ o hq)) (Nat.not_lt.mpr ha)
 have hBL:C.B.get? C.L=none:=by
  refine Js (o:=C.B.get? C.L) (fun hq=>?_) fun o hq=>?_
  ·try refine Kh hq▸?_
   rfl
  ·try refine Kh hq▸?_
   exact absurd (Heap.lt_size hq) (Nat.not_lt.mpr S.F.above)
 have P:=(ic (mu:=mu) (imm:=cells++imm) (prot:=prot) (x:=(C.L,oL))).trans (vK.cons _)
 refine⟨⟨hns,fun b o e=>keep b o (S.F.keep b o e),Nat.le_trans (Nat.le_trans S.F.above (Nat.le_of_lt hCL)) hsz⟩,fun p hp=>?_,(P.map (·.1)).nodup_iff.mpr ?_,S.M.mono (List.prefix_refl _) (fun p hp=>List.mem_append_right _ hp),⟨oL.slots,prot,rfl,fun _=>rfl,S.P⟩,hps,S.all⟩
 ·rcases List.mem_cons.mp (P.mem_iff.mp hp)with e|hp
  ·exact e▸⟨keep _ _ hL,Nat.ne_of_lt (Nat.lt_of_lt_of_le hCL hsz),hBL⟩
  ·rcases List.mem_append.mp hp with hp|hp
   ·exact Jn ((N p hp).1) ((N p hp).2.1) (new _ (Nat.le_of_lt (Nat.lt_of_le_of_lt hsz (hab p hp))))
   ·exact Jn (keep _ _ (S.N p hp).1) (Nat.ne_of_lt (Nat.lt_of_lt_of_le (lt p hp) hsz)) ((S.N p hp).2.2)
 ·refine List.nodup_cons.mpr ⟨fun q=>?_,List.map_append.symm▸List.nodup_append.mpr ⟨hnd,S.nd,fun a ha b hb=>?_⟩⟩
  ·refine tr (List.mem_map.mp q) fun p hp e=>?_
   rcases List.mem_append.mp hp with hp|hp
   ·exact absurd (Nat.lt_of_le_of_lt hsz (hab p hp)) (Nat.not_lt.mpr (Nat.le_of_lt (e▸hCL)))
   ·exact(S.N p hp).2.1 e
  ·refine tr (List.mem_map.mp ha) fun p hp e=>?_
   refine tr (List.mem_map.mp hb) fun q hq e'=>?_
   exact e▸e'▸Nat.ne_of_gt (Nat.lt_trans (lt q hq) (Nat.lt_of_le_of_lt hsz (hab p hp)))
theorem SD.back {mu' prot':Led}{φ₀:List Addr}{imm₀:Led}{σ₀:aa}{h₀:Heap}{prot₀:Led}{φ':List Addr}{imm':Led}{σ':aa}{h'':Heap}(S:SD C φ₀ imm₀ m σ₀ h₀ mu' prot₀)(hL:h₀.get? C.L=some oL)(S':SD (C.callee env L oL ps b d) φ' imm' m' σ' h'' mu prot')(hps:∀n∈C.pts,n≤σ'.length∧cy n σ'):
  ∃p,SD C φ' imm' m σ' h'' mu p∧∀a,Away (C.callee env L oL ps b d) (mu++(imm'++prot')) a→Away C (mu++(imm'++p)) a:=by
 refine Jj S'.P fun sl p e _ hP=>?_
 subst e
 have P:=ic (mu:=mu) (imm:=imm') (prot:=p) (x:=(C.L,{oL with slots:=sl}))
 have hCL:=S'.N.get (P.mem_iff.mpr (.head _))
 have nd:=List.nodup_cons.mp ((P.map (·.1)).nodup_iff.mp S'.nd)
 refine Jl p ⟨⟨?_,S'.F.keep,S.F.above⟩,fun q hq=>?_,nd.2,S'.M,hP,hps,S'.all⟩ (fun a x=>⟨fun q=>x.led ((P.map (·.1)).mem_iff.mpr (.tail _ q)),fun q=>x.led ((P.map (·.1)).mem_iff.mpr (q▸.head _)),x.B⟩)
 ·refine JJ S.F.ns fun o es ep ho hd r=>?_
  have:=Option.some.inj (hL.symm.trans ho)
  subst this
  exact JU _ es ep hCL hd r
 ·have h:=S'.N q (P.mem_iff.mpr (.tail _ hq))
  exact Jn h.1 (fun e=>nd.1 (e▸List.mem_map_of_mem (f:=(·.1)) hq)) h.2.2
end
end
section
theorem rG {α:Type}{ns:List Str}:∀{vals:List α}{n:Str},n ∉ ns→(ns.zip vals).lookup n=none:=by
 induction ns with
 |nil=>exact fun _=>rfl
 |cons m ns ih=>
  intro vals n h
  cases vals with
  |nil=>rfl
  |cons v vals=>exact(aX fun(e:n=m)=>h (e▸.head _)).trans (ih fun q=>h (.tail _ q))
theorem o0 {k:Str→Option NameKind}{n:Str}{ns:List Str}:∀{vals:List Value}{m:Str→Option Value},n ∉ ns→bindL k (ns.zip vals) m n=m n:=by
 induction ns with
 |nil=>exact fun _=>rfl
 |cons x ns ih=>
  intro vals m h
  cases vals with
  |nil=>rfl
  |cons v vals=>
   refine(ih fun q=>h (.tail _ q)).trans ?_
   by_cases hk:k x=some .local
   ·exact(congrFun (if_pos hk) n).trans (if_neg fun(e:n=x)=>h (e▸.head _))
   ·exact congrFun (if_neg hk) n
theorem ub {k:Str→Option NameKind}{n:Str}{rv:Value}(hk:k n=some .local){ns:List Str}:∀{vals:List Value}{m:Str→Option Value},ns.Nodup→(ns.zip vals).lookup n=some rv→bindL k (ns.zip vals) m n=some rv:=by
 induction ns with
 |nil=>exact fun _ h=>Ji h
 |cons x ns ih=>
  intro vals m hn h
  have hn:=List.nodup_cons.mp hn
  cases vals with
  |nil=>exact Ji h
  |cons v vals=>
   by_cases e:n=x
   ·subst e
    exact(o0 hn.1).trans ((congrFun (if_pos hk) n).trans ((if_pos rfl).trans (bc.symm.trans h)))
   ·exact ih hn.2 ((aX e).symm.trans h)
theorem o3 {k:Str→Option NameKind}{n:Str}{ns:List Str}:∀{vals:List Value}{m:Str→Option Value},n ∉ ns→bindC k (ns.zip vals) m n=m n:=by
 induction ns with
 |nil=>exact fun _=>rfl
 |cons x ns ih=>
  intro vals m h
  cases vals with
  |nil=>rfl
  |cons v vals=>
   refine(ih fun q=>h (.tail _ q)).trans ?_
   by_cases hk:k x=some .local
   ·exact congrFun (if_pos hk) n
   ·exact(congrFun (if_neg hk) n).trans (if_neg fun(e:n=x)=>h (e▸.head _))
theorem uc {k:Str→Option NameKind}{n:Str}{rv:Value}(hk:k n≠some .local){ns:List Str}:∀{vals:List Value}{m:Str→Option Value},ns.Nodup→(ns.zip vals).lookup n=some rv→bindC k (ns.zip vals) m n=some rv:=by
 induction ns with
 |nil=>exact fun _ h=>Ji h
 |cons x ns ih=>
  intro vals m hn h
  have hn:=List.nodup_cons.mp hn
  cases vals with
  |nil=>exact Ji h
  |cons v vals=>
   by_cases e:n=x
   ·subst e
    exact(o3 hn.1).trans ((congrFun (if_neg hk) n).trans ((if_pos rfl).trans (bc.symm.trans h)))
   ·exact ih hn.2 ((aX e).symm.trans h)
theorem vd {P:Params}{B:Heap}{φ:List Addr}{imm:Led}{n:Str}{v:MV}{ns:List Str}:∀{l:List MV}{vs:List Value},Rvl P B φ imm l vs→(ns.zip l).lookup n=some v→∃rv,(ns.zip vs).lookup n=some rv∧Rv P B φ imm v rv:=by
 induction ns with
 |nil=>exact fun _ h=>Ji h
 |cons x ns ih=>
  intro l vs hl h
  cases l with
  |nil=>exact Ji h
  |cons a l=>
   refine Jj hl ?_;clear hl;intro rv r κ;subst κ;intro h1 h2
   by_cases e:n=x
   ·subst e
    refine Jk (bc.symm.trans h) fun e=>?_
    subst e
    exact Jl rv bc h1
   ·refine tr (ih h2 ((aX e).symm.trans h)) fun y q1 q2=>?_
    exact Jl y ((aX e).trans q1) q2
theorem ru {cm:Str→Option Value}{cs:List (Str × Addr)}{cells:Led}{n:Str}{c:Addr}(H:CellsAre cm cs cells)(h:cs.lookup n=some c):∃o,(c,o)∈cells∧o.data= .cell (cm n):=by
 induction H with
 |nil=>exact Ji h
 |@cons x c' o cs cells hd r ih=>
  by_cases e:n=x
  ·subst e
   refine Jk (bc.symm.trans h) fun e=>?_
   subst e
   exact Jl o (.head _) hd
  ·refine tr (ih ((aX e).symm.trans h)) fun o' h1 h2=>?_
   exact Jl o' (.tail _ h1) h2
theorem oX {cm:Str→Option Value}{cs:List (Str × Addr)}{cells:Led}(H:CellsAre cm cs cells):cells.map (·.1)=cs.map (·.2):=by
 induction H with
 |nil=>rfl
 |cons _ _ ih=>exact congrArg (_::·) ih
theorem iX {α:Type}{l l':List (Str × α)}{x:Str}:(l++l').lookup x=(l.lookup x).or (l'.lookup x):=by
 induction l with
 |nil=>rfl
 |cons p l ih=>
  by_cases e:x=p.1
  ·subst e
   exact bc.trans (congrArg (Option.or · (l'.lookup p.1)) bc.symm)
  ·exact(aX e).trans (ih.trans (congrArg (Option.or · (l'.lookup x)) (aX (x:=p.1) (v:=p.2) e).symm))
theorem kc {α:Type}{l:List (Str × α)}{x:Str}(h:x∈l.map (·.1)):(l.lookup x).isSome=true:=by
 induction l with
 |nil=>cases h
 |cons p l ih=>
  by_cases e:x=p.1
  ·subst e
   exact congrArg Option.isSome bc
  ·exact(congrArg Option.isSome (aX e)).trans (ih ((List.mem_cons.mp h).resolve_left e))
theorem gJ {n n':Nat}{names:List (Str × NameKind)}{x:Str}(h:x∈(cellsFrom n names []).map (·.1)):((cellsFrom n' names []).lookup x).isSome=true:=
 kc (cellsFrom_names names n n' [] [] rfl▸h)
theorem LR.enter {C:Cx}{φ:List Addr}{imm:Led}{ns:List Str}{mvs:List MV}{rvs:List Value}{cells:Led}{names:aV}{cs:List (Str × Addr)}(e1:C.env.scope.names=names)(e2:C.env.cells=cs)(hnd:ns.Nodup)(hR:Rvl C.w.params C.B φ imm mvs rvs)(hc:∀p∈cells,p∈imm)
  (hnames:∀p∈names,names.lookup p.1=some p.2) (hpar:∀n∈ns,names.lookup n=some .local∨(names.lookup n=some .cell∧(cs.lookup n).isSome=true))
  (X:CellsAre (bindC C.env.kindOf (ns.zip rvs) fun _=>none) cs cells):LR C φ imm (ns.zip mvs++d7 names (ns.zip mvs)) (bindL C.env.kindOf (ns.zip rvs) fun _=>none):=by
 subst e1 e2
 intro x v k hx hk
 have hx:=iX.symm.trans hx
 refine Js (o:=(ns.zip mvs).lookup x) (fun hp=>?_) fun w hp=>?_;rotate_left
 ·try refine Kh hp▸?_
  have hx:=(congrArg (Option.or · _) hp).symm.trans hx
  have e:=Option.some.inj hx
  subst e
  refine tr (vd hR hp) fun rv h1 h2=>?_
  have hm:x∈ns:=Decidable.byContradiction fun q=>Ji ((rG q).symm.trans hp)
  rcases hpar x hm with hl|⟨hl,hcs⟩
  ·have e:=Option.some.inj (hl.symm.trans hk)
   exact .inl ⟨e.symm,fun _=>⟨rv,ub hl hnd h1,h2⟩⟩
  ·have e:=Option.some.inj (hl.symm.trans hk)
   refine Jf (Option.isSome_iff_exists.mp hcs) fun c hc'=>?_
   refine tr (ru X hc') fun o ho hd=>?_
   exact .inr ⟨.inl e.symm,fun _=>⟨c,o,rv,hc',hc _ ho,hd.trans (congrArg Data.cell (uc (fun(q:C.env.scope.names.lookup x=some .local)=>nomatch Option.some.inj (hl.symm.trans q)) hnd h1)),h2⟩⟩
 ·try refine Kh hp▸?_
  have hx:=(congrArg (Option.or · _) hp).symm.trans hx
  refine tr (List.mem_filterMap.mp (mem_of_lookup hx)) ?_;intro κ;rcases κ with ⟨y,k'⟩;intro hy hf
  refine cv hf fun hcond e=>?_
  refine Jh (Prod.mk.inj e) fun e1 e2=>?_
  subst e1 e2
  have e:=Option.some.inj ((hnames _ hy).symm.trans hk)
  subst e
  exact(Bool.or_eq_true_iff.mp (bz hcond)).elim (fun h=>.inl ⟨eq_of_beq h,fun hu=>absurd rfl hu⟩) fun h=>.inr ⟨.inl (eq_of_beq h),fun hu=>absurd rfl hu⟩
noncomputable def i5 (ka:Bool)(σ₀:aa)(v:MV)(σ:aa):Option (R MV):=
 if ka then some (.ok v σ)else(lu σ σ₀.length v).map fun v=>.ok v (σ.take σ₀.length)
noncomputable def ends (ka:Bool)(σ₀:aa):R (MF × Loc)→Option (R MV)
 | .ex c σ=>some (.ex c σ)
 | .ok (.ret v,_) σ=>i5 ka σ₀ v σ
 | .ok (.next,_) σ=>i5 ka σ₀ .none σ
section
variable {C:Cx}{φ:List Addr}{imm:Led}{m m':Str→Option Value}{σ:aa}{h h':Heap}{mu prot:Led}
theorem pk {P:Params}{B:Heap}{n:Nat}{r:Led}{v v':MV}{rv:Value}(hr:∀i o,n≤i→σ[i]?=some o→∃a e,φ[i]?=some a∧cQ P B φ imm a o e∧∀p∈e,p∈r)(ht:qm σ n v=some v')(hv:Rv P B φ imm v rv):
  Rv P B (φ.take n) (r++imm) v' rv∧Rv1 P B (φ.take n) (r++imm) v' rv:=by
 have im:∀p∈imm,p∈r++imm:=fun p hp=>List.mem_append_right _ hp
 have simple:(if aL v=true then some v else none)=some v'→Rv P B (φ.take n) (r++imm) v' rv∧Rv1 P B (φ.take n) (r++imm) v' rv:=fun h=>by
  refine cv h fun hn e=>?_
  subst e
  have:=Sv.mono im _ _ (Rv.simple hn hv)
  exact Jg this.toRv this.toRv1
 cases v with
 |ref id=>
  refine tr hv ?_;clear hv;intro a h1 κ;subst κ
  by_cases hlt:id<n
  ·refine Jk ((if_pos hlt).symm.trans ht) fun e=>?_
   subst e
   have:Rv1 P B (φ.take n) (r++imm) (.ref id) (.ref a):=⟨a,by refine Kh List.getElem?_take▸?_;refine Kh (if_pos hlt)▸?_;exact h1,rfl⟩
   exact Jg this this
  ·refine tr (Option.bind_eq_some_iff.mp ((if_neg hlt).symm.trans ht)) fun o hl e=>?_
   cases o with
   |list l=>
    refine Jk e fun e=>?_
    subst e
    refine Jj (hr id _ (Nat.not_lt.mp hlt) hl) fun a' e g1 g2 g3=>?_
    replace g1:=h1▸g1;refine Jk g1 ?_;clear g1;intro κ;subst κ
    refine Jj g2 ?_;clear g2;intro vs k κ;subst κ;intro hz hs
    have:Sv P B (r++imm) (.list l) (.ref a):=by
     exact JC a vs _ k rfl (.inl (List.mem_append_left _ (g3 _ (.head _)))) rfl rfl hz (Svs.mono im _ _ hs)
    exact Jg this.toRv this.toRv1
   |_=>exact Ji e
 |_=>exact simple ht
theorem rZ {P:Params}{B:Heap}{n:Nat}{r:Led}(hr:∀i o,n≤i→σ[i]?=some o→∃a e,φ[i]?=some a∧cQ P B φ imm a o e∧∀p∈e,p∈r){l:List MV}:∀{l':List MV}{vs:List Value},j0 σ n l=some l'→dk P B φ imm l vs→dk P B (φ.take n) (r++imm) l' vs∧l'.length=l.length:=by
 induction l with
 |nil=>intro l' vs ht hv;refine Jk ht fun e=>?_;subst e;exact Jg hv rfl
 |cons v l ih=>
  intro l' vs ht hv
  refine Jj hv ?_;clear hv;intro rv rs κ;subst κ;intro h1 h2
  refine ir ht fun x y hx hy e=>?_
  subst e
  refine Jh (ih hy h2) fun q1 q2=>?_
  exact Jg ⟨rv,rs,rfl,(pk hr hx h1.toRv).2,q1⟩ (congrArg (·+1) q2)
theorem qT {P:Params}{B:Heap}{n:Nat}{r:Led}{v v':MV}{rv:Value}(hr:∀i o,n≤i→σ[i]?=some o→∃a e,φ[i]?=some a∧cQ P B φ imm a o e∧∀p∈e,p∈r)(ht:lu σ n v=some v')(hv:Rv P B φ imm v rv):
  Rv P B (φ.take n) (r++imm) v' rv:=by
 have other:qm σ n v=some v'→Rv P B (φ.take n) (r++imm) v' rv:=fun h=>(pk hr h hv).1
 cases v with
 |tup l=>
  refine tr (Option.map_eq_some_iff.mp ht) ?_;intro l' hq κ;subst κ
  refine Jv hv ?_;clear hv;intro a vs o k e1 e2 e3 e4 ez e5
  refine Jh (rZ hr hq e5) fun q1 q2=>?_
  exact JC a vs o k e1 (e2.mono (fun p hp=>List.mem_append_right _ hp)) e3 e4 (by refine Kh q2▸?_;exact ez) q1
 |_=>exact other ht
structure Entered (C:Cx)(ρ0:Loc)(σ:aa)(g:Gh)(sc:Scope)(d:Nat)(ka:Bool)(ρ:Loc)(env:Env)(C':Cx)(g':Gh):Prop where
 ok:CxOk C'
 top:CxF C'
 w:C'.w=C.w
 B:C'.B=C.B
 A:C'.A=C.A.deeper env
 env:C'.env=env
 sc:C'.env.scope=sc
 d:C'.d=d
 b:C'.b=if ka then C.b else σ.length
 T:St C' ρ σ g'
 back:∀v σ2 g2 rv r,Le g' g2→SI C' g2.φ g2.imm g2.m σ2 g2.s.heap→Rg C g2 v rv→i5 ka σ v σ2=some r→∃v' σ3 g3,r= .ok v' σ3∧g3.s=g2.s∧Le g g3∧St C ρ0 σ3 g3∧Rg C g3 v' rv
 backX:∀n σ2 c ea g2,Le g' g2→SX C' n g2.φ g2.imm σ2 c ea g2.s.heap→Le g g2∧SX C false g2.φ g2.imm σ2 c ea g2.s.heap
structure EnvIs (env:Env)(sc:Scope)(L:Addr)(cs:List (Str × Addr)):Prop where
 scope:env.scope=sc
 locals:env.locals=L
 globals:env.globals=mainGlobals
 builtins:env.builtins=builtinsNs
 frame:env.frame=some L
 cells:env.cells=cs
theorem EnvIs.of {env:Env}{sc:Scope}{L:Addr}{cs:List (Str × Addr)}{qual:Str}{f:Option Addr}{cd:Value}(h:env=newEnv sc L mainGlobals cs qual f cd none builtinsNs):EnvIs env sc L cs:=by
 subst h;exact⟨rfl,rfl,rfl,rfl,rfl,rfl⟩
theorem Rv.cx {C C':Cx}{φ:List Addr}{imm:Led}{x:MV}{v:Value}(R:Rv C'.w.params C'.B φ imm x v)(hw:C'.w=C.w)(hB:C'.B=C.B):Rv C.w.params C.B φ imm x v:=by
 rewrite[← hw,← hB];exact R
theorem ky {A:Arguments}{sc:Scope}{a:Addr}{d:Nat}{mvs:List MV}{rvs:List Value}{ka:Bool}{ρ0:Loc}{g:Gh}{qual:Str}{cdv:Value}{K:Env→Shared→Prop}{E:Value→Shared→Prop}
  (ok:CxOk C) (hd:C.A.depth+1+2*d≤600) (hu:C.A.units+3+20*d≤9000) (fo:FunOk A sc) (T:St C ρ0 σ g) (hR:Rgl C g mvs rvs)
  (hq:∀env C' g',Entered C ρ0 σ g sc d ka ((A.args.map (·.arg)).zip mvs++d7 sc.names ((A.args.map (·.arg)).zip mvs)) env C' g'→g'.s.heap.NoLimit→K env g'.s):
  wpAny (model pw C.w) C.A.in1 (newFunctionEnv sc mainGlobals [] ((A.args.map (·.arg)).zip rvs) qual (some a) cdv none builtinsNs) K E g.s:=by
 refine Jm T.S fun mu prot S=>?_
 refine JQ S.F.ns fun oL es ep hL hLd hLk hLf=>?_
 have hLdat:∀vs,oL.data≠.fields vs:=fun vs q=>nomatch hLd.symm.trans q
 have hpar:∀n∈A.args.map (·.arg),sc.names.lookup n=some .local∨(sc.names.lookup n=some .cell∧((cellsFrom (g.s.heap.objs.size+1) sc.names []).lookup n).isSome=true):=fun n hn=>(fo.par n hn).imp id fun h=>⟨h.1,gJ h.2⟩
 refine wpAny_newFunctionEnv_cells fo.kind (fun x hx=>hpar x.1 (List.of_mem_zip hx).1) fun env he s' x=>?_
 have hnl:=ok.T.lim.keeps S.F.keep
 refine Jw x.done fun h₁ tk e hkeep=>?_
 subst e
 have I:=EnvIs.of he
 have hcn:((cellsFrom (g.s.heap.objs.size+1) sc.names []).map (·.1)).Nodup:=cellsFrom_names sc.names (g.s.heap.objs.size+1) 0 [] [] rfl▸fo.cells
 rw[I.locals,I.cells]at x
 refine tr (Cl.news (h₀:=g.s.heap) (Nat.le_refl _) fun n c hm=>⟨x.cell n c (lookup_of_mem_nodup hcn hm),x.above n c hm⟩) fun cells NC Y=>?_
 have hck:=oX Y
 have hps:∀n∈(if ka then C.pts else σ.length::C.pts),n≤σ.length∧cy n σ:=fun n hn=>by
  cases ka with
  |true=>exact S.closed n hn
  |false=>exact(List.mem_cons.mp hn).elim (fun e=>⟨Nat.le_of_eq e,e▸S.all⟩) (S.closed n)
 have hbp:∀n∈(if ka then C.pts else σ.length::C.pts),n≤(if ka then C.b else σ.length):=fun n hn=>by
  cases ka with
  |true=>exact ok.bOk n hn
  |false=>exact(hps n hn).1
 have hpc:∀n∈C.pts,n∈(if ka then C.pts else σ.length::C.pts):=fun n hn=>by
  cases ka with
  |true=>exact hn
  |false=>exact .tail _ hn
 generalize hpt:(if ka then C.pts else σ.length::C.pts)=pts at hps hbp hpc
 generalize hbt:(if ka then C.b else σ.length)=b at hbp
 refine Jh (ok.callee (env:=env) (L:=g.s.heap.objs.size) (oL:=oL) (ps:=pts) (b:=b) (d:=d) hd hu (I.scope▸fo.kind) I.locals I.globals I.builtins I.frame hbp hLdat) fun ok' top'=>?_
 have S':=S.enter (env:=env) (L:=g.s.heap.objs.size) (ps:=pts) (b:=b) (d:=d) hL (Nat.le_refl _) x.toInCall.ns hkeep NC
  (fun p hp=>by
   refine tr (List.mem_map.mp (hck▸List.mem_map_of_mem (f:=(·.1)) hp:p.1∈(cellsFrom (g.s.heap.objs.size+1) sc.names []).map (·.2))) fun q hq e=>?_
   exact e▸x.above q.1 q.2 hq)
  (hck.symm▸List.pairwise_map.mpr (x.apart.imp fun h=>h)) hps
 have a1:Le g ⟨g.φ,cells++g.imm,bindL env.kindOf ((A.args.map (·.arg)).zip rvs) fun _=>none,{g.s with heap:=h₁,toks:=tk}⟩:=⟨List.prefix_refl _,fun p hp=>List.mem_append_right _ hp,rfl⟩
 have L':=LR.enter (C:=C.callee env g.s.heap.objs.size oL pts b d) (φ:=g.φ) (imm:=cells++g.imm) (cells:=cells) (congrArg Scope.names I.scope) I.cells fo.nd (hR.mono a1.φ a1.imm) (fun p hp=>List.mem_append_left _ hp) fo.names hpar Y
 refine hq env _ ⟨g.φ,cells++g.imm,_,{g.s with heap:=h₁,toks:=tk}⟩ ⟨ok',top',rfl,rfl,rfl,rfl,I.scope,rfl,hbt.symm,⟨⟨mu,_,S'⟩,L'⟩,?_,?_⟩ (hnl.keeps x.toInCall.keep)
 ·intro v σ2 g2 rv r a2 S2 R2 hl
  refine Jm S2 ?_;clear S2;intro mu2 prot2 S2
  have a:=a1.trans a2
  cases ka with
  |true=>
   have hl:=Option.some.inj hl
   refine tr (S.back hL S2 fun n hn=>S2.closed n (hpc n hn)) fun p S3 _=>?_
   exact JS v σ2 ⟨g2.φ,g2.imm,g.m,g2.s⟩ hl.symm rfl ⟨a.φ,a.imm,a.like⟩ ⟨⟨mu2,p,S3⟩,T.L.mono a.φ a.imm⟩ R2
  |false=>
   refine tr (Option.map_eq_some_iff.mp hl) fun v' hv e=>?_
   have hpt:σ.length::C.pts=pts:=hpt
   refine tr (S.back hL S2 fun n hn=>S2.closed n (hpc n hn)) fun p S3 _=>?_
   have S4:SD (C.cutAt σ.length) g2.φ g2.imm g.m σ2 g2.s.heap mu2 p:=⟨S3.F,S3.N,S3.nd,S3.M,S3.P,fun n hn=>S2.closed n (hpt▸hn),S3.all⟩
   refine Jj (S4.cut fun k hk=>(S.closed k hk).1) fun mu5 r5 e5 S5 h5=>?_
   have R5:=qT h5 hv R2
   rw[gH a2.φ S.phiLen]at S5 R5
   have im:∀p∈g.imm,p∈r5++g2.imm:=fun p hp=>List.mem_append_right _ (a.imm p hp)
   exact JS v' _ ⟨g.φ,r5++g2.imm,g.m,g2.s⟩ e.symm rfl ⟨List.prefix_refl _,im,a.like⟩ ⟨⟨mu5,p,S5⟩,T.L.mono (List.prefix_refl _) im⟩ R5
 ·intro n σ2 c ea g2 a2 X2
  cases X2 with
  |mk m3 mu3 prot3 S3 x3=>
   refine tr (S.back hL S3 fun n hn=>S3.closed n (hpc n hn)) fun p S4 h4=>?_
   exact Jg (a1.trans a2) (.mk g.m mu3 p S4 (x3.away rfl h4 fun _=>rfl))
theorem jq {A:Arguments}{body:List Stmt}{sc:Scope}{dV:Value}{a:Addr}{d:Nat}{mvs:List MV}{rvs args:List Value}{ka:Bool}{RP:R MV→Prop}{ρ0:Loc}{g:Gh}{K:Value→Shared→Prop}{E:Value→Shared→Prop}
  (ok:CxOk C) (hd:C.A.depth+1+2*d≤600) (hu:C.A.units+3+20*d≤9000) (FA:FunAt C.w.params a A body sc dV) (fo:FunOk A sc) (T:St C ρ0 σ g) (hR:Rgl C g mvs rvs)
  (hbind:∀fd:FuncData,fd.params=A→fd.defaults=dV→BindsTo g.s fd ⟨args,[]⟩ ((A.args.map (·.arg)).zip rvs))
  (hb:∀C',CxOk C'→CxF C'→C'.w=C.w→C'.B=C.B→C'.env.scope=sc→C'.d=d→C'.b=(if ka then C.b else σ.length)→WB C' ((A.args.map (·.arg)).zip mvs++d7 sc.names ((A.args.map (·.arg)).zip mvs)) body σ (fun f ρ' σ'=>OptEx (ends ka σ (.ok (f,ρ') σ')) RP) (fun c σ'=>RP (.ex c σ')))
  (P:gE C ρ0 g (fun v σ'=>RP (.ok v σ')) K) (PX:dm C g (fun c σ'=>RP (.ex c σ')) E):codeAny (model pw C.w) C.A (.call (.ref a) ⟨args,[]⟩) (fun r s'=>match r with| .ok (.ret v)=>K v s'| .ok _=>False| .error e=>E e s') g.s:=by
 cases FA with|mk oc od osl name qual kV doc pm an cdv ct hK hcd=>
 have KH:(KF C.w.params).In g.s.heap:=T.S.elim fun mu h=>h.elim fun prot S=>ok.K.keeps S.F.keep
 have hroom:C.A.depth<recursionLimit:=Nat.lt_of_lt_of_le (Nat.lt_of_lt_of_le (Nat.lt_of_lt_of_le (Nat.lt_succ_self _) (Nat.le_add_right _ (2*d))) hd) (by decide)
 refine codeAny_call_function hroom (KH _ _ hK) rfl fo.co fo.gen rfl (codeRec_of KH hcd) (hbind _ rfl rfl _ _ _ _ ?_)
 refine ky (ka:=ka) ok hd hu fo T hR fun env C' g' N hl=>⟨hl,codeAny_func ?_⟩
 have hsim:=hb C' N.ok N.top N.w N.B N.sc N.d N.b g'
 rw[N.w,N.A,N.env]at hsim
 have key:∀v σ' g2 rv,OptEx (i5 ka σ v σ') RP→Le g' g2→SI C' g2.φ g2.imm g2.m σ' g2.s.heap→Rg C g2 v rv→K rv g2.s:=fun v σ' g2 rv h a S R=>by
  cases h with|intro r h hr=>
  refine J7 (N.back v σ' g2 rv r a S R h) fun v' σ3 g3 e e2 b T3 R3=>?_
  subst e
  exact e2▸P v' σ3 g3 rv hr b T3 R3
 refine hsim _ _ N.T ?_ fun c σ' g2 ea q a X=>?_
 ·exact⟨fun ρ' σ' g2 q a T2=>key .none σ' g2 .none q a T2.S rfl,fun v ρ' σ' g2 rv q a S R=>key v σ' g2 rv q a S (R.cx N.w N.B)⟩
 have lv:=sZ (C:=C') (A:=C'.A) (s:=g2.s) (E:=fun e' s''=>E e' s'') (Q:=fun _ s''=>E (.ref ea) s'') N.ok N.top rfl X fun h3 X3=>by
  refine Jh (N.backX _ _ _ _ (g2.at g2.imm h3 g2.s.toks) (a.trans .on) X3) fun c1 c2=>?_
  exact PX c σ' _ ea q c1 c2
 rw[N.w,N.A,N.env]at lv
 exact lv
end
end
section
noncomputable def cN (P:Params)(fv:Value):Prop:=keepIn (KF P) fv=true∨∀a,fv≠.ref a
theorem cN.look {P:Params}{fv:Value}{M:Model}(k:cN P fv)(h:Heap)(X:(KF P).In h):∃k,(k=Keeper.frame∨k=Keeper.machine∨k=Keeper.boundFrame)∧Looks M h (keeperOf fv) k:=by
 rcases k with k|k
 ·exact keeps_K k h X
 ·refine Jl .machine (.inr (.inl rfl)) ?_
  cases fv with
  |ref a=>exact absurd rfl (k a)
  |_=>exact Looks.now
theorem gf {es:List PySem.Expr}{env:Env}{pos:Pos}(h:noStar es=true):(backTo pos (starEach es env)).any (·.1)=false:=by
 induction es with
 |nil=>rfl
 |cons e es ih=>
  have h:(!cD e&&noStar es)=true:=h
  rw[c8 ((Bool.not_eq_true' _).mp (bz h))]
  exact ih (a9 h)
theorem bW {x:Str}{xp:Pos}{args:List PySem.Expr}{pos:Pos}{env:Env}:eval (.Call (.Name x xp) args [] pos) env=(do
  callWith pos (← eval (.Name x xp) env) [] (backTo pos (starEach args env)) (backToKw pos (keywordEach [] env))):=rfl
section
variable {C:Cx}{ρ:Loc}{σ σ₁ σ₂:aa}{E:Value→Shared→Prop}{K:Value→Shared→Prop}{args:List PySem.Expr}{vs:List MV}{pos:Pos}{fv:Value}{first:List Value}{Q:MV→aa→Prop}{A:List MV→aa→Prop}{X:XP}{g:Gh}
theorem cX (ok:CxOk C)(hk:∀vs σ₁,A vs σ₁→cN C.w.params fv)(hs:noStar args=true)(h:WL C ρ args σ A X)(T:St C ρ σ g)(PX:dm C g X E)
  (hq:∀vs σ₁ g1 rvs,A vs σ₁→Le g g1→St C ρ σ₁ g1→Rgl C g1 vs rvs→wpAny (model pw C.w) C.A (call fv (first++rvs)) K E g1.s):
  wpAny (model pw C.w) C.A (callWith pos fv first (backTo pos (starEach args C.env)) (backToKw pos (keywordEach [] C.env))) K E g.s:=by
 refine callWith_of (P:=fun h=>cN C.w.params fv∧(KF C.w.params).In h) (by rewrite[gf hs];rfl) (fun h X=>X.1.look h X.2) ?_
 have key:=h g (fun rvs s₁=>(cN C.w.params fv∧(KF C.w.params).In s₁.heap)∧wpAny (model pw C.w) C.A (call fv (first++rvs)) K E s₁) E pos T (fun vs σ₁ g1 rvs q a T1 R1=>⟨⟨hk vs σ₁ q,T1.S.elim fun mu h=>h.elim fun prot S1=>ok.K.keeps S1.F.keep⟩,hq vs σ₁ g1 rvs q a T1 R1⟩) PX
 cases args with
 |nil=>
  refine wpAny_bind (wpAny_mono key (fun vs s' h'=>?_) fun _ _ x=>x)
  exact wpAny_bind (wpAny_pure (wpAny_holding (wpAny_bind (wpAny_pure (wpAny_bind (wpAny_pure (wpAny_pure h')))))))
 |cons e es=>
  have hs:(!cD e&&noStar es)=true:=hs
  rw[c8 ((Bool.not_eq_true' _).mp (bz hs))]at key ⊢
  exact evalArgs_plain key
noncomputable def WK (C:Cx)(f:Str)(vs:List MV)(σ:aa)(Q:MV→aa→Prop)(X:XP):Prop:=∀ρ g K E rvs fv,St C ρ σ g→Rgl C g vs rvs→bJ C.w.params f fv→gE C ρ g Q K→dm C g X E→wpAny (model pw C.w) C.A (call fv rvs) K E g.s
noncomputable def Im (r:R MV)(v:MV)(σ:aa):Prop:=r= .ok v σ
noncomputable def Io (r:R MV)(c:Str)(σ:aa):Prop:=r= .ex c σ
noncomputable abbrev gZ (C:Cx)(f:Str)(vs:List MV)(σ:aa)(r:R MV):Prop:=WK C f vs σ (Im r) (Io r)
theorem ix (ok:CxOk C)(G:eY C.w.params){x f:Str}{xp:Pos}(hn:cP C.env.scope.names ρ x=some (.glob f))(hk:∀vs σ₁,A vs σ₁→∀fv,bJ C.w.params f fv→cN C.w.params fv)(hs:noStar args=true)
  (h:WL C ρ args σ A noX) (h2:∀vs σ₁,A vs σ₁→WK C f vs σ₁ Q X):WE C ρ (.Call (.Name x xp) args [] pos) σ Q X:=by
 intro g K E T P PX
 rw[bW]
 refine wpAny_bind (dJ ok G T.S T.L hn fun fv R=>?_)
 have R:bJ C.w.params f fv:=R
 exact cX ok (fun vs σ₁ q=>hk vs σ₁ q fv R) hs h T .no fun vs σ₁ g1 rvs q a T1 R1=>h2 vs σ₁ q ρ g1 K E rvs fv T1 R1 R (P.le a) (PX.le a)
end
theorem ca {P:Params}{f:Str}{a:Addr}{fv:Value}(h:nsIn (KF P) mainGlobals f=some (some (.ref a)))(hg:bJ P f fv):fv= .ref a:=
 hg.elim (fun hg=>Option.some.inj (Option.some.inj (hg.symm.trans h))) fun hg=>nomatch Option.some.inj (hg.1.symm.trans h)
structure FunFacts (P:Params):Prop where
 fn:∀g A body sc,bw.lookup g=some (A,body,sc)→∃a,nsIn (KF P) mainGlobals g=some (some (.ref a))∧keepIn (KF P) (.ref a)=true∧FunAt P a A body sc .none∧FunOk A sc∧A.defaults=[]
theorem eJ {A:Arguments}{sc:Scope}{vs:List MV}{ρ:Loc}(hd:A.defaults=[])(h:aD A sc vs=some ρ):ρ=(A.args.map (·.arg)).zip vs++d7 sc.names ((A.args.map (·.arg)).zip vs)∧vs.length=A.args.length:=
 cv ((if_pos (congrArg List.isEmpty hd)).symm.trans h) fun hl e=>⟨e.symm,hl⟩
theorem dr {C:Cx}{d:Nat}(ok:CxOk C)(hd:C.d=d+1):C.A.depth+1+2*d≤600∧C.A.units+3+20*d≤9000:=by
 have h1:=ok.depth
 have h2:=ok.units
 exact Jg (by lia) (by lia)
theorem ji {P:Params}{A:Arguments}{sc:Scope}{s:Shared}{vs:List MV}{rvs:List Value}{B:Heap}{φ:List Addr}{imm:Led}(fo:FunOk A sc)(R:Rvl P B φ imm vs rvs)(hl:vs.length=A.args.length){fd:FuncData}(e1:fd.params=A)(e2:fd.defaults= .none):BindsTo s fd ⟨rvs,[]⟩ ((A.args.map (·.arg)).zip rvs):=by
 subst e1
 exact ju e2 fo.po fo.ko fo.va fo.ka ((kS R).trans hl) fo.nd
theorem u7 {C:Cx}{σ:aa}{vs:List MV}{RP:R MV→Prop}(ok:CxOk C)(FF:FunFacts C.w.params){f:Str}{A:Arguments}{body:List Stmt}{sc:Scope}{d:Nat}{ρ':Loc}(hd:C.d=d+1)(hf:bw.lookup f=some (A,body,sc))(hen:aD A sc vs=some ρ')
  (hb:∀C',CxOk C'→CxF C'→C'.w=C.w→C'.B=C.B→C'.env.scope=sc→C'.d=d→C'.b=(if bd f then C.b else σ.length)→WB C' ρ' body σ (fun fl ρ'' σ'=>OptEx (ends (bd f) σ (.ok (fl,ρ'') σ')) RP) (fun c σ'=>RP (.ex c σ'))):WK C f vs σ (fun v σ'=>RP (.ok v σ')) (fun c σ'=>RP (.ex c σ')):=by
 intro ρ g K E rvs fv T R hg P PX
 refine JH (FF.fn f A body sc hf) fun a h1 h2 h3 h4 h5=>?_
 have:=ca h1 hg
 subst this
 refine Jh (eJ h5 hen) fun e hlen=>?_
 subst e
 exact wpAny_call (jq ok (dr ok hd).1 (dr ok hd).2 h3 h4 T R (fun fd e1 e2=>ji h4 R hlen e1 e2) hb P PX)
end
section
noncomputable def gF (P:Params)(A:Arguments)(dV:Value):Prop:=∀(vs:List MV) (sc:Scope) (ρ:Loc),aD A sc vs=some ρ→∃mvs,ρ=(A.args.map (·.arg)).zip mvs++d7 sc.names ((A.args.map (·.arg)).zip mvs)∧mvs.length=A.args.length∧
 ∀B φ imm rvs,Rvl P B φ imm vs rvs→∃rvs',Rvl P B φ imm mvs rvs'∧∀(s:Shared) (fd:FuncData),(KF P).In s.heap→fd.params=A→fd.defaults=dV→BindsTo s fd ⟨rvs,[]⟩ ((A.args.map (·.arg)).zip rvs')
theorem gF.plain {P:Params}{A:Arguments}{sc:Scope}(hd:A.defaults=[])(fo:FunOk A sc):gF P A .none:=fun vs sc' ρ h=>
 have e:=eJ hd h
 ⟨vs,e.1,e.2,fun B φ imm rvs R=>⟨rvs,R,fun s fd _ e1 e2=>ji fo R e.2 e1 e2⟩⟩
structure MetFacts (P:Params):Prop where
 met:∀K n A body sc,aU.lookup (K,n)=some (A,body,sc)→∀Ca,ce P K Ca→∃f dV,findIn (KF P) (.ref Ca) n=some (some (.ref f))∧isFn (KF P) (.ref f)=true∧keepIn (KF P) (.ref f)=true∧FunAt P f A body sc dV∧FunOk A sc∧gF P A dV
 cls:∀K,cu K=true→∃Ca,ce P K Ca
section
variable {C:Cx}{ρ:Loc}{φ:List Addr}{imm:Led}{m m':Str→Option Value}{σ σ₁ σ₂:aa}{h h':Heap}{mu prot:Led}{E:Value→Shared→Prop}{K:Value→Shared→Prop}{args:List PySem.Expr}{vs:List MV}{pos:Pos}{n:Str}{Q Q1:MV→aa→Prop}{X:XP}{x:MV}{A1:List MV→aa→Prop}{r:R MV}
noncomputable def Cx.around (C:Cx)(A:Around)(d:Nat):Cx:={C with A:=A,d:=d}
theorem SI.around {A:Around}{d:Nat}(S:SI C φ imm m σ h):SI (C.around A d) φ imm m σ h:=S.imp fun _=>Exists.imp fun _ S=>⟨S.F,S.N,S.nd,S.M,S.P,S.closed,S.all⟩
theorem SI.around' {A:Around}{d:Nat}(S:SI (C.around A d) φ imm m σ h):SI C φ imm m σ h:=S.imp fun _=>Exists.imp fun _ S=>⟨S.F,S.N,S.nd,S.M,S.P,S.closed,S.all⟩
theorem ec {A:Around}{Ca:Value}{rvs:List Value}:(A.under (Code.builtin "type.__call__" {pos:=Ca::rvs,kw:=[]})).units≤A.units+17:=by
 have e:(Code.builtin "type.__call__" {pos:=Ca::rvs,kw:=[]}).cUnits=1:=by kernel_rfl
 exact Nat.add_le_add_left (e▸Nat.le_of_ble_eq_true rfl) _
theorem m7 {K:Str}{mu prot:Led}{g:Gh}{h':Heap}{y dx Ca:Addr}(T:St C ρ σ g)(S:SD C g.φ g.imm g.m σ g.s.heap mu prot)(hC:ce C.w.params K Ca)(F:Fr C.B C.L h' g.m)(N:News C.B C.L h' ([(y,instObj Ca dx),(dx,dictOf [] 0)]++(mu++(g.imm++prot))))(hlt:∀p∈mu++(g.imm++prot),p.1<dx)(hdx:dx<y):
  Le g ⟨g.φ++[y],g.imm,g.m,{g.s with heap:=h'}⟩∧St C ρ (σ++[.inst K []]) ⟨g.φ++[y],g.imm,g.m,{g.s with heap:=h'}⟩∧(g.φ++[y])[σ.length]?=some y:=by
 refine Jn ⟨List.prefix_append _ _,fun _ h=>h,rfl⟩ ⟨⟨_,_,S.newo F N (fun p hp q hq=>?_) ?_ ⟨Ca,dx,[],0,rfl,hC,rfl⟩ (fun j hj=>nomatch hj)⟩,T.L.mono (List.prefix_append _ _) fun _ h=>h⟩ (by rewrite[← S.phiLen];simp)
 ·rcases List.mem_cons.mp hq with e|hq
  ·exact e▸Nat.lt_trans (hlt p hp) hdx
  ·exact List.mem_singleton.mp hq▸hlt p hp
 ·exact List.nodup_cons.mpr ⟨fun h=>Nat.ne_of_gt hdx (List.mem_singleton.mp h),List.nodup_cons.mpr ⟨fun h=>(nomatch h),List.nodup_nil⟩⟩
theorem CxOk.typeCall (ok:CxOk C){d:Nat}(hd:C.d=d+1){A':Around}(a1:A'.depth=C.A.depth+1)(a2:A'.frames=C.A.frames)(a3:A'.handled=C.A.handled)(a4:A'.units≤C.A.units+17):
  CxOk (C.around A' d)∧A'.depth+1+2*d≤600∧A'.units+3+20*d≤9000:=by
 have h1:=ok.depth
 have h2:=ok.units
 exact Jn ⟨ok.K,ok.T,a3.trans ok.handled,a2.trans ok.frames,by refine(?_:A'.depth+2*d≤600);lia,by refine(?_:A'.units+20*d≤9000);lia,ok.kind,ok.locals,ok.globals,ok.builtins,ok.bOk,ok.framesOk⟩ (by lia) (by lia)
theorem u8 (ok:CxOk C)(CF:ClsFacts C.w.params)(MT:MetFacts C.w.params){f:Str}{A:Arguments}{body:List Stmt}{sc:Scope}{d:Nat}{ρ':Loc}(hd:C.d=d+1)(hg:cu f=true)(hf:aU.lookup (f,.ofString "__init__")=some (A,body,sc))
  (hen:aD A sc (.ref σ.length::vs)=some ρ')
  (hb:∀C',CxOk C'→CxF C'→C'.w=C.w→C'.B=C.B→C'.env.scope=sc→C'.d=d→C'.b=C.b→WB C' ρ' body (σ++[.inst f []]) (fun fl _ σ'=>fl= .next∧σ'=σ₁) noX):gZ C f vs σ (.ok (.ref σ.length) σ₁):=by
 intro ρ g K E rvs fv T R hgl P _
 refine Jf (MT.cls f hg) fun Ca hC=>?_
 refine JE (MT.met f _ A body sc hf Ca hC) fun fa dV m1 m2 m3 m4 m5 m6=>?_
 have CO:=CF.ok f Ca hg hC
 have hfv:=ca hC hgl
 subst hfv
 refine Jm T.S fun mu prot S=>?_
 refine call_cls S.F ok.K S.N CO.makes m1 m2 fun y dx h' F N hlt hdx=>?_
 refine Jr (m7 T S hC F N hlt hdx) fun a T2 e0=>?_
 refine Jr (ok.typeCall hd (A':=C.A.under (Code.builtin "type.__call__" {pos:=Value.ref Ca::rvs,kw:=[]})) rfl rfl rfl ec) fun ok2 r1 r2=>?_
 refine Jt (m6 _ _ _ hen) fun mvs e1 e2 e3=>?_
 refine tr (e3 _ (g.φ++[y]) g.imm (.ref y::rvs) ⟨.ref y,rvs,rfl,⟨y,e0,rfl⟩,R.mono a.φ a.imm⟩) fun rvs' e4 e5=>?_
 subst e1
 have KH:(KF C.w.params).In h':=T2.S.elim fun _ h=>h.elim fun _ S=>ok.K.keeps S.F.keep
 have key:=jq (C:=C.around (C.A.under (Code.builtin "type.__call__" {pos:=Value.ref Ca::rvs,kw:=[]})) d) (g:=⟨g.φ++[y],g.imm,g.m,{g.s with heap:=h'}⟩) (ρ0:=ρ) (K:=fun v s'=>v= .none∧K (.ref y) s') (E:=E) (RP:=fun r=>r= .ok .none σ₁) (ka:=true) (args:= .ref y::rvs) ok2 r1 r2 m4 m5 ⟨T2.S.around,T2.L⟩ e4
  (fun fd q1 q2=>e5 _ fd KH q1 q2) (fun C' c1 c2 c3 c4 c5 c6 c7=>(hb C' c1 c2 c3 c4 c5 c6 c7).mono (fun fl _ σ' q=>by refine Jh q ?_;clear q;intro q1 q2;subst q1 q2;exact .intro _ rfl rfl) fun _ _ q=>q.elim) (fun v σ' g' rv q b T3 R3=>?_) fun _ _ _ _ q=>nomatch q
 ·refine codeAny_mono key fun r s' hr=>?_
  cases r with
  |error e=>exact hr
  |ok fl=>cases fl<;>first|exact hr|exact hr.elim
 ·injection q with q1 q2
  subst q1 q2
  have R3:rv= .none:=R3
  refine Jg R3 (P _ _ ⟨g'.φ,g'.imm,g'.m,g'.s⟩ _ rfl (a.trans b) ⟨T3.S.around',T3.L⟩ ⟨y,?_,rfl⟩)
  refine Jf b.φ fun t e=>?_
  exact e▸(List.getElem?_append_left (by simp[S.phiLen])).trans e0
theorem dF {o:PySem.Expr}{n:Str}{ap:Pos}{env:Env}(hb:b5 o=true):eval (.Call (.Attribute o n ap) args [] pos) env=(do
  let ov ← eval o env
  standAt ap.atName
  methodCall o n ap pos env ov (args.length+0) (backTo pos (starEach args env)) (backToKw pos (keywordEach [] env))):=by
 cases o<;>first|rfl|exact Jq hb
theorem mt {es:List PySem.Expr}{env:Env}(h:noStar es=true):(backTo pos (starEach es env)).all (fun x=>!x.1)=true:=
 List.all_eq_true.mpr fun x hx=>(Bool.not_eq_true' _).mpr (Bool.eq_false_iff.mpr (List.any_eq_false.mp (gf (pos:=pos) (env:=env) h) x hx))
noncomputable def MG (C:Cx)(ρ:Loc)(n:Str)(args:List PySem.Expr)(pos:Pos)(x:MV)(σ:aa)(Q:MV→aa→Prop)(X:XP):Prop:=∀g rv pl K E,St C ρ σ g→Rg C g x rv→gE C ρ g Q K→dm C g X E→
 wpAny (model pw C.w) C.A (getMethod rv n pl) (fun q s'=>wpAny (model pw C.w) C.A (callWith pos q.1 q.2 (backTo pos (starEach args C.env)) (backToKw pos (keywordEach [] C.env))) K E s') E g.s
theorem zo {o:PySem.Expr}{ap:Pos}(hb:b5 o=true)(hl:(ap.endLine==pos.line)=true)(hn:args.length<30)(hs:noStar args=true)
  (h1:WE C ρ o σ Q1 X) (h2:∀x σ₁,Q1 x σ₁→MG C ρ n args pos x σ₁ Q X):WE C ρ (.Call (.Attribute o n ap) args [] pos) σ Q X:=by
 intro g K E T P PX
 rw[dF hb]
 refine wpAny_bind (h1 g _ E T (fun x σ₁ g1 rx q a T1 R1=>?_) PX)
 refine wpAny_bind (wpAny_standAt ?_)
 have hform:methodCallForm (args.length+0) (backTo pos (starEach args C.env)) (backToKw pos (keywordEach [] C.env))=true:=(Bool.and_eq_true _ _).mpr ⟨(Bool.and_eq_true _ _).mpr ⟨mt hs,rfl⟩,decide_eq_true hn⟩
 have hpos:methodCallPos true o C.env ap pos=pure pos:=if_pos hl
 unfold methodCall
 rw[hform,hpos]
 refine wpAny_bind (wpAny_holding (wpAny_mono (h2 x σ₁ q g1 rx _ K E T1 R1 (P.le a) (PX.le a)) (fun q s' hq=>?_) fun _ _ x=>x))
 exact wpAny_bind (wpAny_pure hq)
theorem kq {P:Params}{B:Heap}{n:Str}{fs:List (Str × MV)}:∀{es:List DictEntry},aZ P B φ imm fs es→jO fs n=none→getL n es=some none:=by
 induction fs with
 |nil=>intro es e _;have e:es=[]:=e;subst e;rfl
 |cons p fs ih=>
  intro es e h
  refine Jz e ?_;clear e;intro hsh t rv r e1 e2 e3
  subst e1
  by_cases q:n=p.1
  ·subst q
   exact absurd (bc.symm.trans h) (fun q=>nomatch q)
  ·exact(kl q).trans (ih e3 ((aX q).symm.trans h))
theorem vx (ok:CxOk C)(CF:ClsFacts C.w.params)(MT:MetFacts C.w.params){K:Str}{id:Nat}{fs:List (Str × MV)}{A:Arguments}{body:List Stmt}{sc:Scope}(hs:noStar args=true)
  (hi:σ₁[id]?=some (.inst K fs)) (hnf:jO fs n=none) (hf:aU.lookup (K,n)=some (A,body,sc)) (hK:cu K=true) (h2:WL C ρ args σ₁ A1 noX)
  (hbd:∀vs σ₂,A1 vs σ₂→∃d ρ',C.d=d+1∧aD A sc (.ref id::vs)=some ρ'∧∀C',CxOk C'→CxF C'→C'.w=C.w→C'.B=C.B→C'.env.scope=sc→C'.d=d→C'.b=σ₂.length→WB C' ρ' body σ₂ (fun fl ρ'' σ'=>OptEx (ends false σ₂ (.ok (fl,ρ'') σ')) fun r=>eA r Q X) X):MG C ρ n args pos (.ref id) σ₁ Q X:=by
 intro g rv pl Kc E T R P PX
 refine Jm T.S fun mu prot S=>?_
 refine JW (S.instAt R hi) ?_;intro a dx Ca es k κ;subst κ;intro ha hc hfs hI q1 q2
 have CO:=CF.ok K Ca hK hc
 refine JE (MT.met K n A body sc hf Ca hc) fun f dV m1 m2 m3 m4 m5 m6=>?_
 refine method_inst S.F ok.K hI CO.get m1 m2 (kq hfs hnf) ?_
 refine cX ok (fun _ _ _=>.inl m3) hs h2 T .no fun vs σ₂ g2 rvs q b T2 R2=>?_
 refine Jj (hbd vs σ₂ q) fun d ρ' hd hen hbd=>?_
 refine Jt (m6 _ _ _ hen) fun mvs e1 e2 e3=>?_
 refine tr (e3 _ _ _ (.ref a::rvs) ⟨.ref a,rvs,rfl,R.le b,R2⟩) fun rvs' e4 e5=>?_
 subst e1
 have KH:(KF C.w.params).In g2.s.heap:=T2.S.elim fun _ h=>h.elim fun _ S=>ok.K.keeps S.F.keep
 exact wpAny_call (jq (ka:=false) (RP:=fun r=>eA r Q X) ok (dr ok hd).1 (dr ok hd).2 m4 m5 T2 e4 (fun fd q1 q2=>e5 _ fd KH q1 q2) (fun C' c1 c2 c3 c4 c5 c6 c7=>hbd C' c1 c2 c3 c4 c5 c6 c7) (fun v σ' g' w q c=>P v σ' g' w q (b.trans c)) fun c σ' g' ea q l=>PX c σ' g' ea q (b.trans l))
end
end
section
theorem iY:typeLookup (.type "bytes") "__bytes__"=pure (some (.builtin "bytes.__bytes__")):=by refine Kh (typeLookup_type _ _)▸?_;refine Kh builtinLookup_eq_fast▸?_;kernel_rfl
theorem gW (b:Array UInt8)(t:Tok):Gives (Builtin.«bytes.__new__» ⟨[.type "bytes",.bytes b t],[]⟩) (.val (.bytes b t)):=
 .of_wp fun M A E s Q h=>by
  unfold Builtin.«bytes.__new__»
  refine wpAny_bind (wpAny_of_eq (a:=true) rfl ?_)
  refine bm_if_false rfl ?_
  refine wpAny_bind (wpAny_of_eq F.bm_sub ?_)
  refine bm_if_false rfl ?_
  refine wpAny_bind (wpAny_of_eq (F.bm_bind _) ?_)
  refine wpAny_bind (wpAny_of_eq (a:=()) rfl ?_)
  refine wpAny_bind (wpAny_of_eq (a:=()) rfl ?_)
  refine bm_if_false rfl ?_
  refine wpAny_bind (wpAny_specialOf (typeIs_bytes s b t) iY ?_)
  refine wpAny_bind (wpAny_rule ?_)
  refine wpAny_bind (wpAny_of_eq (a:= .type "bytes") rfl ?_)
  first
   |exact wpAny_pure ⟨_,rfl,h⟩
   |(refine wpAny_bind (wpAny_of_eq (a:=true) rfl ?_);exact wpAny_pure ⟨_,rfl,h⟩)
theorem gB {prog:Program}{w:World}{A:Around}{E:Value→Shared→Prop}{s:Shared}{b:Array UInt8}{t:Tok}{Q:Value→Shared→Prop}(h:Q (.bytes b t) s):wpAny (model prog w) A (call (.type "bytes") [.bytes b t]) Q E s:=
 callType_new F.bm_called (by decide) (F.bm_typeCall _) (F.bm_newCall _) (fun obj=>F.args_object_init_2 obj _) F.bm_entry (gW b t).meets ⟨typeIs_bytes _ _ _,h⟩
theorem nA:typeLookup (.type "bytearray") "__bytes__"=pure none:=by refine Kh (typeLookup_type _ _)▸?_;refine Kh builtinLookup_eq_fast▸?_;kernel_rfl
theorem nz:typeLookup (.type "bytearray") "__index__"=pure none:=by refine Kh (typeLookup_type _ _)▸?_;refine Kh builtinLookup_eq_fast▸?_;kernel_rfl
theorem gD:typeLookup (.type "bytearray") "__buffer__"=pure (some (.builtin "bytearray.__buffer__")):=by refine Kh (typeLookup_type _ _)▸?_;refine Kh builtinLookup_eq_fast▸?_;kernel_rfl
theorem o6:typeLookup (.type "bytearray") "__release_buffer__"=pure (some (.builtin "bytearray.__release_buffer__")):=by refine Kh (typeLookup_type _ _)▸?_;refine Kh builtinLookup_eq_fast▸?_;kernel_rfl
theorem o4:isSubtype (.type "bytearray") (.type "bytearray")=pure true:=by refine Kh (isSubtype_type _ _)▸?_;kernel_rfl
theorem wm:("bytearray.__buffer__":String).endsWith ("."++"__buffer__")=true:=by decide+kernel
theorem wl:("bytearray.__release_buffer__":String).endsWith ("."++"__release_buffer__")=true:=by decide+kernel
theorem uh:("bytearray.__buffer__":String).dropRight ("__buffer__".length+1)="bytearray":=by decide+kernel
theorem ug:("bytearray.__release_buffer__":String).dropRight ("__release_buffer__".length+1)="bytearray":=by decide+kernel
section
variable {prog:Program}{w:World}{A:Around}{E:Value→Shared→Prop}{s:Shared}{a:Addr}{o:Obj}{b:Array UInt8}{n:Nat}
theorem wi {M:Model}{Q:Bool→Shared→Prop}(hT:s.TypeIs (.ref a) "bytearray")(h:Q true s):wpAny M A (Builtin.Bytes.slotIsOwn (.ref a) "__buffer__") Q E s:=by
 unfold Builtin.Bytes.slotIsOwn
 refine wpAny_bind (wpAny_specialOf hT gD ?_)
 refine(?_:wpAny M A (if(!("bytearray.__buffer__":String).endsWith ("."++"__buffer__"))=true then _ else _) Q E s)
 refine Kh wm▸?_
 refine bm_if_false rfl ?_
 refine Kh uh▸?_
 exact wpAny_isInstance hT o4 h
theorem pY {M:Model}{Q:Bool→Shared→Prop}(hT:s.TypeIs (.ref a) "bytearray")(h:Q true s):wpAny M A (Builtin.Bytes.slotIsOwn (.ref a) "__release_buffer__") Q E s:=by
 unfold Builtin.Bytes.slotIsOwn
 refine wpAny_bind (wpAny_specialOf hT o6 ?_)
 refine(?_:wpAny M A (if(!("bytearray.__release_buffer__":String).endsWith ("."++"__release_buffer__"))=true then _ else _) Q E s)
 refine Kh wl▸?_
 refine bm_if_false rfl ?_
 refine Kh ug▸?_
 exact wpAny_isInstance hT o4 h
theorem Bi {M:Model}{Q:Option (Array UInt8)→Shared→Prop}(ho:s.heap.get? a=some o)(hc:o.cls= .type "bytearray")(hd:o.data= .bytearray b n)(h:Q (some b) s):
  wpAny M A (Builtin.Bytes.buffer? "bytes.__new__" (.ref a) true) Q E s:=by
 have hT:s.TypeIs (.ref a) "bytearray":=⟨_,ho,hc⟩
 unfold Builtin.Bytes.buffer?
 refine wpAny_bind (wpAny_specialOf hT gD ?_)
 refine wpAny_bind (wi hT ?_)
 refine bm_if_false rfl ?_
 refine wpAny_bind (wpAny_specialOf hT gD ?_)
 dsimp only
 refine wpAny_bind ?_
 unfold Builtin.Bytes.ownRelease
 refine wpAny_bind (pY hT (wpAny_pure ?_))
 refine bm_if_false rfl ?_
 refine wpAny_bind ?_
 unfold Builtin.Bytes.payload Builtin.Bytes.payload?
 refine wpAny_bind (wpAny_bind (wpAny_load ho ?_))
 refine Kh hd▸?_
 exact wpAny_pure (wpAny_pure (wpAny_pure h))
theorem Bh {Q:Value→Shared→Prop}(ho:s.heap.get? a=some o)(hc:o.cls= .type "bytearray")(hd:o.data= .bytearray b n)(hz:b.size≤sizeLine)
  (hQ:∀t k,Q (.bytes b t) {s with toks:=k}):
  codeAny (model prog w) A (.call (.builtin "bytes.__new__") ⟨[.type "bytes",.ref a],[]⟩) (wants Q E) s:=by
 refine codeAny_of_tree ?_
 refine(?_:wpAny _ A.in1 (do checkBuiltinCall "bytes.__new__" ⟨[.type "bytes",.ref a],[]⟩;again (.builtin "bytes.__new__" ⟨[.type "bytes",.ref a],[]⟩)) _ _ s)
 refine wpAny_bind (wpAny_of_eq (F.bm_newCall _) (wpAny_pure ⟨plainId_quiet F.bm_plain _,codeAny_builtin F.bm_entry ?_⟩))
 refine Kh (Around.under_plainId F.bm_plain _)▸?_
 have hT:s.TypeIs (.ref a) "bytearray":=⟨_,ho,hc⟩
 unfold Builtin.«bytes.__new__»
 refine wpAny_bind (wpAny_of_eq (a:=true) rfl ?_)
 refine bm_if_false rfl ?_
 refine wpAny_bind (wpAny_of_eq F.bm_sub ?_)
 refine bm_if_false rfl ?_
 refine wpAny_bind (wpAny_of_eq (F.bm_bind _) ?_)
 refine wpAny_bind (wpAny_of_eq (a:=()) rfl ?_)
 refine wpAny_bind (wpAny_of_eq (a:=()) rfl ?_)
 refine bm_if_false rfl ?_
 refine wpAny_bind (wpAny_specialOf hT nA ?_)
 refine wpAny_bind (wpAny_bind ?_)
 refine(?_:wpAny _ _ (load a >>= _) _ _ _)
 refine wpAny_bind (wpAny_load ho ?_)
 refine Kh hd▸?_
 refine wpAny_pure (wpAny_pure ?_)
 refine bm_if_false rfl ?_
 refine wpAny_bind (wpAny_specialOf hT nz ?_)
 refine bm_if_true rfl ?_
 first
  |refine(?_:wpAny _ _ (Builtin.Bytes.buffer? "bytes.__new__" (.ref a) true >>= _) _ _ _)
  |(refine wpAny_bind ?_;show wpAny _ _ (Builtin.Bytes.buffer? "bytes.__new__" (.ref a) true >>= _) _ _ _)
 refine wpAny_bind (Bi ho hc hd ?_)
 refine wpAny_bind (wpAny_rule ?_)
 refine wpAny_bind (wpAny_mkBytes ?_ hz)
 first
  |exact wpAny_pure (hQ _ _)
  |exact wpAny_bind (wpAny_pure (wpAny_pure (hQ _ _)))
  |exact wpAny_pure (wpAny_pure (hQ _ _))
theorem jS {Q:Value→Shared→Prop}(ho:s.heap.get? a=some o)(hc:o.cls= .type "bytearray")(hd:o.data= .bytearray b n)(hz:b.size≤sizeLine)
  (hQ:∀t k,Q (.bytes b t) {s with toks:=k}):wpAny (model prog w) A (call (.type "bytes") [.ref a]) Q E s:=by
 refine callType_codes (Q₁:=fun obj s₁=>s₁.TypeIs obj "bytes"∧Q obj s₁) F.bm_called (F.bm_typeCall _) F.entry_object_init
  (Bh ho hc hd hz fun t k=>⟨PySem.W.typeIs_bytes _ _ _,hQ t k⟩) fun obj s₁ h₁=>?_
 exact Jn h₁.1 (F.args_object_init_2 obj _) (object_init_meets F.bm_called.init.lookup F.bm_called.made (by decide) prog w A.in1 _ s₁ ⟨h₁.1,rfl,h₁.2⟩)
end
end
section
noncomputable abbrev f8:List (Str × Value):=[("len",.builtin "len"),("int",.type "int"),("abs",.builtin "abs"),("max",.builtin "max"),("min",.builtin "min"),("sum",.builtin "sum"),("isinstance",.builtin "isinstance"),("bytearray",.type "bytearray"),("bytes",.type "bytes"),("bool",.type "bool"),("range",.type "range"),("enumerate",.type "enumerate")]
structure BuiltFacts (P:Params):Prop where
 val:∀g v,(g,v)∈f8→
  nsIn (KF P) mainGlobals g=some none∧bootBuiltins g=some v
theorem BuiltFacts.one {P:Params}(F:BuiltFacts P){g:Str}{v fv:Value}(hm:(g,v)∈f8)(h:bJ P g fv):fv=v:=by
 refine Jh (F.val g v hm) fun h1 h2=>?_
 rcases h with h|⟨_,_,h⟩
 ·replace h:=h1▸h;refine Jk h ?_;clear h;intro κ;cases κ
 ·replace h:=h2▸h;refine Jk h ?_;clear h;intro κ;subst κ;rfl
section
variable {C:Cx}{ρ:Loc}{φ:List Addr}{imm:Led}{m m':Str→Option Value}{σ σ₁ σ₂:aa}{h h':Heap}{mu prot:Led}{s:Shared}{E:Value→Shared→Prop}{Q:Value→Shared→Prop}{vs:List MV}{v:MV}
theorem jd:∀{vs:List Value}{ns:List Int},IntsAre vs ns→∃xs:List (Int × Tok),vs=xs.map (fun p=>Value.int p.1 p.2)∧ns=xs.map (·.1)
 |_,_,.nil=>⟨[],rfl,rfl⟩
 |_,_,.cons n t h=>by
  refine tr (jd h) fun xs h1 h2=>?_
  exact Jl ((n,t)::xs) (by rewrite[h1];rfl) (by rewrite[h2];rfl)
theorem zA (hh:C.A.handled=none){l:Addr}{rvs:List Value}{ns:List Int}(hl:s.heap.IsList l rvs.toArray)(hi:IntsAre rvs ns)(hq:∀h' tk t,(∀b o,s.heap.get? b=some o→h'.get? b=some o)→Q (.int ns.sum t) {s with heap:=h',toks:=tk}):
  wpAny (model pw C.w) C.A (call (.builtin "sum") [.ref l]) Q E s:=by
 refine tr (jd hi) ?_;intro xs κ;subst κ;intro κ2;subst κ2
 have e:(xs.map (fun p=>Value.int p.1 p.2)).toArray=intItems xs.toArray:=by simp[intItems]
 replace hl:=e▸hl
 refine sum_intListG hh hl fun h' tk t' hk=>?_
 have:=hq h' tk t' hk
 refine Kh (preSum_eq _ _)▸?_;rewrite[List.take_of_length_le (by simp)]
 exact this
theorem mz {P:Params}{B:Heap}{a:MV}{rvs:List Value}(h:Rvl P B φ imm [a] rvs):∃x,rvs=[x]∧Rv P B φ imm a x:=by
 refine Jj h ?_;clear h;intro x r κ;subst κ;intro h1 h2
 have h2:r=[]:=h2
 subst h2;exact Jl x rfl h1
theorem BI {P:Params}{B:Heap}{a b:MV}{rvs:List Value}(h:Rvl P B φ imm [a,b] rvs):∃x y,rvs=[x,y]∧Rv P B φ imm a x∧Rv P B φ imm b y:=by
 refine Jj h ?_;clear h;intro x r κ;subst κ;intro h1 h2
 refine tr (mz h2) ?_;intro y κ;subst κ;intro h3
 exact Jp x y rfl h1 h3
theorem SD.grown (S:SD C φ imm m σ h mu prot)(hk:∀b o,h.get? b=some o→h'.get? b=some o):SD C φ imm m σ h' mu prot:=
 S.go ⟨let ⟨o,es,ep,a,r⟩:=S.F.ns;⟨o,es,ep,hk _ _ a,r⟩,fun b o e=>hk b o (S.F.keep b o e),S.F.above⟩ (S.N.grown hk)
theorem oZ:∀{ns:List Int}{b:List UInt8},cG ns=some b→(∀n∈ns,0≤n∧n<256)∧b=ns.map fun n=>n.toNat.toUInt8:=by
 intro ns
 induction ns with
 |nil=>intro b h;refine Jk h fun e=>?_;subst e;exact Jg (fun _ q=>(nomatch q)) rfl
 |cons i r ih=>
  intro b h
  unfold cG at h
  refine gR h fun hi h=>?_
  refine tr (Option.map_eq_some_iff.mp h) ?_;intro c hq κ;subst κ
  refine Jh (ih hq) fun h1 h2=>?_
  refine Jg (fun n hn=>?_) (by refine Kh List.map_cons▸?_;refine h2▸?_;rfl)
  rcases List.mem_cons.mp hn with e|hn
  ·subst e;exact hi
  ·exact h1 n hn
theorem iG (BF:BuiltFacts C.w.params){g:Str}{bv:Value}{x y:MV}(hm:(g,bv)∈f8)(k:∀{φ imm m s Q E rx mu prot},SD C φ imm m σ s.heap mu prot→Rv C.w.params C.B φ imm x rx→
  (∀h' tk rv,SI C φ imm m σ h'→Rv C.w.params C.B φ imm y rv→Q rv {s with heap:=h',toks:=tk})→wpAny (model pw C.w) C.A (call bv [rx]) Q E s):gZ C g [x] σ (.ok y σ):=by
 intro ρ g K E rvs fv T R hgl P _
 have e:=BF.one hm hgl
 subst e
 refine tr (mz R) fun rx e hx=>?_
 subst e
 refine Jm T.S fun mu prot S=>?_
 exact k S hx fun h' tk rv S' R'=>P _ _ (g.at g.imm h' tk) rv rfl .on (T.on S') R'
theorem nW (BF:BuiltFacts C.w.params){g:Str}{bv:Value}{x z y:MV}(hm:(g,bv)∈f8)(k:∀{φ imm m s Q E rx rz mu prot},SD C φ imm m σ s.heap mu prot→Rv C.w.params C.B φ imm x rx→Rv C.w.params C.B φ imm z rz→
  (∀h' tk rv,SI C φ imm m σ h'→Rv C.w.params C.B φ imm y rv→Q rv {s with heap:=h',toks:=tk})→wpAny (model pw C.w) C.A (call bv [rx,rz]) Q E s):gZ C g [x,z] σ (.ok y σ):=by
 intro ρ g K E rvs fv T R hgl P _
 have e:=BF.one hm hgl
 subst e
 refine Jj (BI R) fun rx rz e hx hz=>?_
 subst e
 refine Jm T.S fun mu prot S=>?_
 exact k S hx hz fun h' tk rv S' R'=>P _ _ (g.at g.imm h' tk) rv rfl .on (T.on S') R'
theorem uZ (BF:BuiltFacts C.w.params){x:MV}{n:Int}(h:wT (aG σ x)=some n):gZ C "len" [x] σ (.ok (.int n) σ):=
 iG BF (.head _) fun{φ imm m s Q E rx mu prot} S hx P=>by
  generalize hf:aG σ x=x' at h
  cases x' with
  |list l=>
   refine Jk h fun e=>?_
   subst e
   refine Jx (S.listAt hx hf) ?_;intro a rs κ;subst κ;intro hI hz hs
   have e:rs.toArray.size=l.length:=hs.length
   replace hz:=Kh e▸(sizeLine_eq▸hz)
   refine call_len_list hI (by exact (lB 0xc62a800000000000000068d600c200000051803208401) e hz) ?_
   refine Kh e▸?_
   exact P s.heap _ _ ⟨mu,prot,S⟩ aT
  |bytes b=>
   refine Jk h fun e=>?_
   subst e
   have e:=ba hf (fun _ q=>nomatch q) (fun _ q=>nomatch q)
   subst e
   rcases ci hx with ⟨hz,t,rfl⟩
   have e:b.toArray.size=b.length:=List.size_toArray
   replace hz:=Kh e▸(sizeLine_eq▸hz)
   refine len_bytes (by exact (lB 0x63100800000000024600c200000051803208401) e hz) ?_
   refine Kh e▸?_
   exact P s.heap _ _ ⟨mu,prot,S⟩ aT
  |_=>exact Ji h
theorem u6 (BF:BuiltFacts C.w.params){x:MV}{n:Int}(h:w6 x=some n):gZ C "int" [x] σ (.ok (.int n) σ):=
 iG BF (.tail _ (.head _)) fun{φ imm m s Q E rx mu prot} S hx P=>by
  cases x with
  |int i=>
   refine Jk h fun e=>?_
   subst e
   refine Jf (aK hx) ?_;intro t κ;subst κ
   exact call_int_int (P s.heap _ _ ⟨mu,prot,S⟩ aT)
  |bool b=>
   refine Jk h fun e=>?_
   subst e
   have e:=ve hx
   subst e
   exact call_int_bool (P s.heap _ _ ⟨mu,prot,S⟩ aT)
  |_=>exact Ji h
theorem u9 (BF:BuiltFacts C.w.params){i:Int}:gZ C "abs" [.int i] σ (.ok (.int i.natAbs) σ):=
 iG BF (.tail _ (.tail _ (.head _))) fun{φ imm m s Q E rx mu prot} S hx P=>by
  refine Jf (aK hx) ?_;intro t κ;subst κ
  have e:(if i<0 then -i else i)=(i.natAbs:Int):=by
   by_cases h:i<0
   ·refine Kh (if_pos h)▸?_;exact (lE 0x3165ac016003500801) h
   ·refine Kh (if_neg h)▸?_;exact (lE 0x3165ac010077500801) h
  refine call_abs_int fun u tk=>P s.heap _ _ ⟨mu,prot,S⟩ ?_
  refine Kh e▸?_
  exact aT
theorem uY (ok:CxOk C)(BF:BuiltFacts C.w.params){a b:Int}:gZ C "max" [.int a,.int b] σ (.ok (.int (if a<b then b else a)) σ):=
 nW BF (.tail _ (.tail _ (.tail _ (.head _)))) fun{φ imm m s Q E rx rz mu prot} S hx hz P=>by
  refine Jf (aK hx) ?_;intro t κ;subst κ
  refine Jf (aK hz) ?_;intro u κ;subst κ
  exact max_two_N ok.handled S.F S.N fun h' tk F' N'=>P h' _ _ ⟨mu,prot,S.go F' N'⟩ aT
theorem uX (ok:CxOk C)(BF:BuiltFacts C.w.params){a b:Int}:gZ C "min" [.int a,.int b] σ (.ok (.int (if b<a then b else a)) σ):=
 nW BF (.tail _ (.tail _ (.tail _ (.tail _ (.head _))))) fun{φ imm m s Q E rx rz mu prot} S hx hz P=>by
  refine Jf (aK hx) ?_;intro t κ;subst κ
  refine Jf (aK hz) ?_;intro u κ;subst κ
  exact min_two_N ok.handled S.F S.N fun h' tk F' N'=>P h' _ _ ⟨mu,prot,S.go F' N'⟩ aT
theorem nF {x:MV}{l:Str}(h:kD x=some l):x= .glob l:=by
 cases x with
 |glob j=>exact congrArg MV.glob (Option.some.inj h)
 |_=>exact Ji h
theorem uW (ok:CxOk C)(BF:BuiltFacts C.w.params){x:MV}{l:List MV}{is:List Int}(hf:aG σ x= .list l)(hi:bq l=some is):gZ C "sum" [x] σ (.ok (.int is.sum) σ):=
 iG BF (.tail _ (.tail _ (.tail _ (.tail _ (.tail _ (.head _)))))) fun{φ imm m s Q E rx mu prot} S hx P=>by
  refine Jx (S.listAt hx hf) ?_;intro a rs κ;subst κ;intro hI hz hs
  exact zA ok.handled hI (iE hi hs) fun h' tk t hk=>P h' _ _ ⟨mu,prot,S.grown hk⟩ aT
theorem u5 (BF:BuiltFacts C.w.params){i:Int}{t:Str}{w:MV}(h:(if t==("int":Str)then some (MV.bool true)else if t==("bool":Str)then some (MV.bool false)else none)=some w):gZ C "isinstance" [.int i,.glob t] σ (.ok w σ):=
 nW BF (.tail _ (.tail _ (.tail _ (.tail _ (.tail _ (.tail _ (.head _))))))) fun{φ imm m s Q E rx rz mu prot} S hx hy P=>by
  refine Jf (aK hx) ?_;intro u κ;subst κ
  have hy:bJ C.w.params t rz:=hy
  refine fh h (fun ht e=>?_) fun h=>fh h (fun ht e=>?_) Ji
  ·have ht:=eq_of_beq ht
   subst ht
   refine Jk e fun e=>?_
   subst e
   have e:=BF.one (.tail _ (.head _)) hy
   subst e
   exact IsiPair.int_int (P s.heap _ _ ⟨mu,prot,S⟩ rfl)
  ·have ht:=eq_of_beq ht
   subst ht
   refine Jk e fun e=>?_
   subst e
   have e:=BF.one (.tail _ (.tail _ (.tail _ (.tail _ (.tail _ (.tail _ (.tail _ (.tail _ (.tail _ (.head _)))))))))) hy
   subst e
   exact IsiPair.int_bool (P s.heap _ _ ⟨mu,prot,S⟩ rfl)
theorem kz (ok:CxOk C){φ imm m s rx mu prot}{Q:Value→Shared→Prop}{E:Value→Shared→Prop}{x w:MV}{l:List MV}(S:SD C φ imm m σ s.heap mu prot)(hx:Rv C.w.params C.B φ imm x rx)(hf:aG σ x= .list l)(h:js l=some w)
  (P:∀h' tk rv,SI C φ imm m σ h'→Rv C.w.params C.B φ imm w rv→Q rv {s with heap:=h',toks:=tk}):wpAny (model pw C.w) C.A (call (.type "bytes") [rx]) Q E s:=by
 refine gR h fun hz k0=>?_
 refine tr (Option.map_eq_some_iff.mp k0) ?_;intro b k κ;subst κ
 refine tr (Option.bind_eq_some_iff.mp k) fun is hi kb=>?_
 refine Jx (S.listAt hx hf) ?_;intro a rs κ;subst κ;intro hI hz' hsv
 refine Jh (oZ kb) fun h1 h2=>?_
 have hia:=iE hi hsv
 refine call_bytes_ints hI hia h1 (by rewrite[hsv.length];exact hz') ok.handled fun h' t k hk=>P h' k _ ⟨mu,prot,S.grown hk⟩ ?_
 have hl:b.length≤sizeLine:=by refine Kh h2▸?_;refine Kh (List.length_map _)▸?_;refine hia.length▸?_;refine Kh hsv.length▸?_;exact hz'
 exact⟨hl,t,by rw[h2];rfl⟩
theorem qA (ok:CxOk C)(BF:BuiltFacts C.w.params){x w:MV}(h:tZ σ x=some w):gZ C "bytes" [x] σ (.ok w σ):=
 iG BF (.tail _ (.tail _ (.tail _ (.tail _ (.tail _ (.tail _ (.tail _ (.tail _ (.head _))))))))) fun{φ imm m s Q E rx mu prot} S hx P=>by
  cases x with
  |bytes b=>
   refine Jk h fun e=>?_
   subst e
   rcases ci hx with ⟨hz,t,rfl⟩
   exact gB (P s.heap _ _ ⟨mu,prot,S⟩ ⟨hz,t,rfl⟩)
  |list l=>exact kz ok S hx rfl h P
  |ref id=>
   refine tr (Option.bind_eq_some_iff.mp h) fun o hid h=>?_
   cases o with
   |list l=>exact kz ok S hx (oN hid) h P
   |barr b=>
    refine Jk h fun e=>?_
    subst e
    refine tr hx ?_;clear hx;intro a ha κ;subst κ
    refine Ju (S.M.split hid) fun a' e m1 m2 h1 h2 h3 _=>?_
    replace h1:=ha▸h1;refine Jk h1 ?_;clear h1;intro κ;subst κ
    refine Jh h3 ?_;clear h3;intro h3 hz
    subst h3
    have hget:=S.N.get (a:=a) (List.mem_append_left (imm++prot) (show(a,_)∈mu by rewrite[h2];exact List.mem_append_right _ (.head _)))
    exact jS hget rfl rfl hz fun t k=>P s.heap k _ ⟨mu,prot,S⟩ ⟨hz,t,rfl⟩
   |_=>exact Ji h
  |_=>exact Ji h
theorem pM {f:Int→Int→Int}{x y w:MV}{G:Prop}(h:An f x y=some w)(k:∀i j,x= .int i→y= .int j→.int (f i j)=w→G):G:=by
 refine tr (Option.bind_eq_some_iff.mp h) fun i hi h=>?_
 refine tr (Option.map_eq_some_iff.mp h) fun j hj e=>?_
 exact k i j (aM hi) (aM hj) e
theorem my (ok:CxOk C)(BF:BuiltFacts C.w.params){g:Str}{σ':aa}(hb:bV σ g vs=some (v,σ')):gZ C g vs σ (.ok v σ'):=by
 refine tr (Option.map_eq_some_iff.mp hb) fun w hw e=>?_
 clear hb
 refine Jh (Prod.mk.inj e) ?_;intro κ;subst κ;intro κ2;subst κ2
 cases vs with
 |nil=>exact Ji hw
 |cons x vs=>
  cases vs with
  |nil=>
   have hb:mb1 σ g x=some w:=hw
   refine fh hb (fun hn hb=>?_) fun hb=>fh hb (fun hn hb=>?_) fun hb=>fh hb (fun hn hb=>?_) fun hb=>fh hb (fun hn hb=>?_) fun hb=>fh hb (fun hn hb=>?_) Ji
   ·have hn:=eq_of_beq hn
    subst hn
    refine tr (Option.map_eq_some_iff.mp hb) ?_;intro n h κ;subst κ
    exact uZ BF h
   ·have hn:=eq_of_beq hn
    subst hn
    refine tr (Option.map_eq_some_iff.mp hb) ?_;intro n h κ;subst κ
    exact u6 BF h
   ·have hn:=eq_of_beq hn
    subst hn
    refine tr (Option.map_eq_some_iff.mp hb) ?_;intro n h κ;subst κ
    have h:=aM h
    subst h
    exact u9 BF
   ·have hn:=eq_of_beq hn
    subst hn
    refine tr (Option.map_eq_some_iff.mp hb) ?_;intro n h κ;subst κ
    refine tr (Option.bind_eq_some_iff.mp h) fun l hl h=>?_
    exact uW ok BF (nD hl) h
   ·have hn:=eq_of_beq hn
    subst hn
    exact qA ok BF hb
  |cons y vs=>
   cases vs with
   |nil=>
    have hb:mb2 g x y=some w:=hw
    refine fh hb (fun hn hb=>?_) fun hb=>fh hb (fun hn hb=>?_) fun hb=>fh hb (fun hn hb=>?_) Ji
    ·have hn:=eq_of_beq hn
     subst hn
     refine pM hb fun i j e1 e2 e=>?_
     subst e1 e2 e
     exact uY ok BF
    ·have hn:=eq_of_beq hn
     subst hn
     refine pM hb fun i j e1 e2 e=>?_
     subst e1 e2 e
     exact uX ok BF
    ·have hn:=eq_of_beq hn
     subst hn
     refine tr (Option.bind_eq_some_iff.mp hb) fun i hi h=>?_
     refine tr (Option.bind_eq_some_iff.mp h) fun t ht h=>?_
     have hi:=aM hi
     have ht:=nF ht
     subst hi ht
     exact u5 BF h
   |cons z vs=>exact Ji hw
end
end
section
section
variable {C:Cx}{ρ:Loc}{σ σ₁ σ₂:aa}{args:List PySem.Expr}{vs:List MV}{v x:MV}{pos:Pos}{l l':List MV}{id:Nat}{n:Str}{Q:MV→aa→Prop}{X:XP}{A1:List MV→aa→Prop}{bid:String}
theorem oR {s:Shared}{E:Value→Shared→Prop}{Q:Value→Shared→Prop}{prog:Program}{w:World}{A:Around}{D b:Addr}{ys:List Value}{n n2:Nat}{its2:Array Value}{dc:Option Addr}{sl:Array (Option Value)}(ho:s.heap.get? D=some (listOf ys.toArray n))(hb:s.heap.get? b=some {cls:= .type "list",dict:=dc,data:= .seq its2 n2,slots:=sl})
  (hz:ys.length+its2.size≤sizeLine) (hq:∀h' n',Heap.SameBut D s.heap h'→h'.get? D=some (listOf (ys++its2.toList).toArray n')→Q .none {s with heap:=h'}):wpAny (model prog w) A (call (.builtin "list.extend") [.ref D,.ref b]) Q E s:=by
 refine wpAny_call_entry PySem.F.slot_list_extend ⟨_,ho,rfl⟩ PySem.F.entry_list_extend ?_ (PySem.F.args_list_extend_2 _ _)
 have hc0:=extend_door (a:=ys.toArray) (b:=its2) (by simpa using hz)
 have hc1:ys.toArray.size≤sizeLine:=by simp;exact (lC 0x310104018082408401) hz
 have hz':(ys.toArray++its2).size≤sizeLine+1:=by simp;exact (lC 0xc408110824084018082408401) hz
 have fin:Q .none {s with heap:=s.heap.update D (Obj.mapSeq fun x=>x++its2)}:=by
  have e:ys.toArray++its2=(ys++its2.toList).toArray:=by simp
  refine hq _ (if(ys.toArray++its2).size==ys.toArray.size then n else n+1) (Heap.SameBut.update ..) ?_
  rewrite[Heap.get?_update_self _ ho (by rewrite[mapSeq_app];rfl)];rewrite[mapSeq_app];refine Kh e▸?_;rfl
 rcases s with ⟨hp,g,d,tk,os⟩
 dsimp only at ho hb fin
 have f1:=AutoSeq1.idx_int;have f2:=AutoSeq1.sub_tuple_tuple;have f3:=AutoSeq1.sub_list_list;have f4:=AutoSeq1.sub_tuple_list;have f5:=AutoSeq1.sub_list_tuple
 wp_walk using(wpAny_updateSeq ho rfl (hz:=hc1) (_hz':=hz')),AutoSeq1.wpAny_loadPart' ho,AutoSeq1.wpAny_loadPart' hb
 refine Kh (if_neg hc0)▸?_
 wp_walk using(wpAny_updateSeq ho rfl (hz:=hc1) (_hz':=hz')),AutoSeq1.wpAny_loadPart' ho,AutoSeq1.wpAny_loadPart' hb
 exact Jl _ rfl fin
noncomputable def GM (C:Cx)(ρ:Loc)(n:Str)(bid:String)(x:MV)(σ:aa):Prop:=∀g rv pl (K:Value × List Value→Shared→Prop) E,St C ρ σ g→Rg C g x rv→K (.builtin bid,[rv]) g.s→wpAny (model pw C.w) C.A (getMethod rv n pl) K E g.s
noncomputable def BM (C:Cx)(ρ:Loc)(bid:String)(x:MV)(vs:List MV)(σ:aa)(Q:MV→aa→Prop):Prop:=∀g rv rvs K E,St C ρ σ g→Rg C g x rv→Rgl C g vs rvs→gE C ρ g Q K→wpAny (model pw C.w) C.A (call (.builtin bid) (rv::rvs)) K E g.s
theorem iS (ok:CxOk C)(hs:noStar args=true)(hm:GM C ρ n bid x σ₁)(h:WL C ρ args σ₁ A1 X)(hc:∀vs σ₂,A1 vs σ₂→BM C ρ bid x vs σ₂ Q):MG C ρ n args pos x σ₁ Q X:=
 fun g rv pl K E T R P PX=>hm g rv pl _ E T R (cX ok (fun _ _ _=>.inr fun a q=>nomatch q) hs h T PX fun vs σ₂ g2 rvs q b T2 R2=>hc vs σ₂ q g2 rv rvs K E T2 (R.le b) R2 (P.le b))
theorem m8 (slot:Slot "list" n bid)(hty:typeOf (.builtin bid)=pure (.type "method_descriptor"))(hi:σ[id]?=some (.list l)):GM C ρ n bid (.ref id) σ:=by
 intro g rv pl K E T R q
 refine Jm T.S fun mu prot S=>?_
 refine tr R ?_;clear R;intro a h1 e
 subst e
 cases S.setList hi with
 |mk a' rs k m1 m2 h1' hz hs hg g1 g2 p1 p2 N back=>
  have:=Option.some.inj (h1.symm.trans h1')
  subst this
  exact getMethod_builtin ⟨_,hg,rfl⟩ PySem.F.plainAttrs_list slot hty (fun b e=>by cases e;exact Jl _ hg rfl) q
theorem vX {i:Int}(slot:Slot "int" n bid)(hty:typeOf (.builtin bid)=pure (.type "method_descriptor")):GM C ρ n bid (.int i) σ:=by
 intro g rv pl K E T R q
 refine Jf (aK R) fun t e=>?_
 subst e
 exact getMethod_builtin (typeIs_int _ _ _) PySem.F.plainAttrs_int slot hty (fun b e=>nomatch e) q
theorem iD {n k:Nat}(h:n≤ai)(hk:k≤1000):n+k≤sizeLine:=by rewrite[sizeLine_eq];exact Nat.le_trans (Nat.add_le_add h hk) (by decide)
theorem nu {x:MV}(hi:σ[id]?=some (.list l))(hz:l.length≤ai)(hr:aL x=true)(q:Q .none (σ.set id (.list (l++[x])))):BM C ρ "list.append" (.ref id) [x] σ Q:=by
 intro g rv rvs K E T R R2 P
 refine Jm T.S fun mu prot S=>?_
 refine tr (mz R2) fun y e hy=>?_
 refine tr R ?_;clear R;intro a h1 e'
 subst e e'
 cases S.setList hi with
 |mk a' rs k m1 m2 h1' h3 hs hg g1 g2 p1 p2 N back=>
  have:=Option.some.inj (h1.symm.trans h1')
  subst this
  refine append_K S.F N (Upd.mk p2 p1) (fun h' F' N'=>?_) (Nat.le_trans (Nat.le_of_eq hs.length) h3)
  have e:rs.toArray.push y=(rs++[y]).toArray:=List.push_toArray ..
  rw[e]at N'
  exact P _ _ (g.at g.imm h' g.s.toks) _ q .on (T.on (back _ (rs++[y]) _ h' (by rewrite[List.length_append];exact iD hz (Nat.le_of_ble_eq_true rfl)) (hs.append ⟨y,[],rfl,Rv.simple hr hy,rfl⟩) F' N')) rfl
theorem nq (hi:σ[id]?=some (.list l))(hz:l.length+l'.length≤ai)(q:Q .none (σ.set id (.list (l++l')))):BM C ρ "list.extend" (.ref id) [.list l'] σ Q:=by
 intro g rv rvs K E T R R2 P
 refine Jm T.S fun mu prot S=>?_
 refine tr (mz R2) fun y e hy=>?_
 refine tr R ?_;clear R;intro a h1 e'
 subst e e'
 have hy:Sv C.w.params C.B g.imm (.list l') y:=hy
 refine Jv hy ?_;clear hy;intro b rs2 o n2 e g1' g2' g3' g4' g5'
 subst e
 cases S.setList hi with
 |mk a' rs k m1 m2 h1' h3 hs hg g1 g2 p1 p2 N back=>
  have:=Option.some.inj (h1.symm.trans h1')
  subst this
  have hget:=S.immIn g1'
  rcases o with ⟨oc,od,odt,osl⟩
  have g2':oc=_:=g2'
  have g3':odt=_:=g3'
  subst g2' g3'
  have hsz:=cI hz
  have e1:rs.length+rs2.toArray.size=l.length+l'.length:=by rewrite[hs.length,List.size_toArray,g5'.length];rfl
  refine oR hg hget (e1.symm▸hsz) fun h' n' hsb ho=>?_
  exact P _ _ (g.at g.imm h' g.s.toks) _ q .on (T.on (back _ (rs++rs2) n' h' (by rewrite[List.length_append];exact hsz) (hs.append g5') (S.F.change hsb g1 g2) (News.setAt N p1 p2 hsb ho))) rfl
theorem oB (i:Int):Builtin.Int.intBits i=eM i:=by
 unfold Builtin.Int.intBits eM
 by_cases h:i=0<;>simp[h]
theorem nr {i:Int}(q:Q (.int (eM i)) σ):BM C ρ "int.bit_length" (.int i) [] σ Q:=by
 intro g rv rvs K E T R R2 P
 refine Jf (aK R) fun t e=>?_
 have R2:rvs=[]:=R2
 subst e R2
 refine call_gives PySem.F.slot_int_bit_length (typeIs_int g.s i t) PySem.F.entry_int_bit_length (PySem.F.args_int_bit_length_1 _) (AutoIntG2.int_bit_length_int_0 i t) ?_
 exact P _ _ (g.at g.imm g.s.heap _) _ q .on (T.on T.S) ((oB i).symm▸aT)
end
end
section
noncomputable def Cx.holdIt (C:Cx)(its:Led):Cx:={C with prot:=its++C.prot}
noncomputable def bU (C:Cx)(it:Addr):List MV→Led→List Addr→Led→Prop
 |[],its,φ,imm=>∀C',CxOk C'→C'.w=C.w→C'.B=C.B→∀φ' imm' m σ s mu prot (Q:Option Value→Shared→Prop) E,φ<+:φ'→(∀p∈imm,p∈imm')→SD (C'.holdIt its) φ' imm' m σ s.heap mu prot→
  (∀h' tk prot',SD C' φ' imm' m σ h' mu prot'→Q none {s with heap:=h',toks:=tk})→wpAny (model pw C'.w) C'.A (pyNext (.ref it)) Q E s
 |x::r,its,φ,imm=>∀C',CxOk C'→C'.w=C.w→C'.B=C.B→∀φ' imm' m σ s mu prot (Q:Option Value→Shared→Prop) E,φ<+:φ'→(∀p∈imm,p∈imm')→SD (C'.holdIt its) φ' imm' m σ s.heap mu prot→
  (∀v s₁,(∀target Q' E',(∀l,x= .tup l→∃es k p,target= .Tuple es k p)→(∀h' tk its' imm'' prot',(∀p∈imm',p∈imm'')→SD (C'.holdIt its') φ' imm'' m σ h' mu prot'→Rv C'.w.params C'.B φ' imm'' x v→bU C it r its' φ' imm''→Q' () {s with heap:=h',toks:=tk})→
   wpAny (model pw C'.w) C'.A (letOwnedTupleGo target (.ref it) v) Q' E' s₁)→Q (some v) s₁)→wpAny (model pw C'.w) C'.A (pyNext (.ref it)) Q E s
theorem bU.mono {C:Cx}{it:Addr}{l:List MV}{its:Led}{φ φ':List Addr}{imm imm':Led}(x:bU C it l its φ imm)(a:φ<+:φ')(b:∀p∈imm,p∈imm'):bU C it l its φ' imm':=by
 cases l with
 |nil=>exact fun C' c1 c2 c3 φ2 imm2 m σ s mu prot Q E h1 h2=>x C' c1 c2 c3 φ2 imm2 m σ s mu prot Q E (a.trans h1) fun p hp=>h2 p (b p hp)
 |cons y r=>exact fun C' c1 c2 c3 φ2 imm2 m σ s mu prot Q E h1 h2=>x C' c1 c2 c3 φ2 imm2 m σ s mu prot Q E (a.trans h1) fun p hp=>h2 p (b p hp)
noncomputable def dT (C:Cx)(it:Addr)(its:Led)(φ:List Addr)(imm:Led):Prop:=∀C',CxOk C'→C'.w=C.w→C'.B=C.B→∀φ' imm' m σ s mu prot (Q:Value→Shared→Prop) E,φ<+:φ'→(∀p∈imm,p∈imm')→SD (C'.holdIt its) φ' imm' m σ s.heap mu prot→
 Q (.ref it) s→wpAny (model pw C'.w) C'.A (pyIter (.ref it)) Q E s
theorem bD.split {p p':Led}:∀{q:Led},bD (p++p') q→∃q1 q2,q=q1++q2∧bD p q1∧bD p' q2:=by
 induction p with
 |nil=>exact fun{q} h=>⟨[],q,rfl,rfl,h⟩
 |cons x p ih=>
  intro q h
  refine Jj h ?_;clear h;intro sl r e1 ef e2
  refine Jj (ih e2) fun q1 q2 h1 h2 h3=>?_
  subst e1 h1
  exact Jp _ q2 rfl ⟨sl,q1,rfl,ef,h2⟩ h3
section
variable {C:Cx}{ρ ρ':Loc}{φ:List Addr}{imm:Led}{m m':Str→Option Value}{σ σ₁ σ₂:aa}{h h':Heap}{mu prot its:Led}{E:Value→Shared→Prop}{c:Str}{n:Bool}{ea:Addr}{target:PySem.Expr}{body:List Stmt}{x v:MV}{r:List MV}{pos:Pos}{g:Gh}{X:XP}{Q Q1:MF→Loc→aa→Prop}
theorem CxOk.hold (ok:CxOk C):CxOk (C.holdIt its):=⟨ok.K,ok.T,ok.handled,ok.frames,ok.depth,ok.units,ok.kind,ok.locals,ok.globals,ok.builtins,ok.bOk,fun e he=>by
 rcases ok.framesOk e he with ⟨k1,l,k2,k3⟩
 exact⟨k1,l,k2,k3.imp id fun h=>h.imp fun o h=>⟨List.mem_append_right _ h.1,h.2⟩⟩⟩
theorem CxF.hold (top:CxF C):CxF (C.holdIt its):=⟨top.1,top.2⟩
theorem ls {mu imm p1 p2:Led}:(mu++(imm++p2)).Sublist (mu++(imm++(p1++p2))):=List.Sublist.append_left (List.Sublist.append_left (List.sublist_append_right _ _) _) _
theorem SD.drop (S:SD (C.holdIt its) φ imm m σ h mu prot):∃p1 p2,prot=p1++p2∧bD its p1∧SD C φ imm m σ h mu p2:=by
 refine Jj S.P.split fun p1 p2 e h1 h2=>?_
 subst e
 exact⟨p1,p2,rfl,h1,S.F,fP S.N fun p hp=>ls.subset hp,S.nd.sublist (ls.map _),S.M,h2,S.closed,S.all⟩
theorem SI.drop (S:SI (C.holdIt its) φ imm m σ h):SI C φ imm m σ h:=by
 refine Jm S ?_;clear S;intro mu prot S
 refine Jj S.drop fun p1 p2 _ _ S'=>?_
 exact JL mu p2 S'
theorem St.drop (T:St (C.holdIt its) ρ σ g):St C ρ σ g:=⟨T.S.drop,T.L⟩
theorem SX.drop (X:SX (C.holdIt its) n φ imm σ c ea h):SX C n φ imm σ c ea h:=by
 cases X with
 |mk m mu prot S x=>
  refine Jj S.drop fun p1 p2 e _ S'=>?_
  subst e
  exact .mk m mu p2 S' (x.away rfl (fun a A=>⟨fun q=>A.led ((ls.map _).subset q),A.L,A.B⟩) id)
theorem dm.hold (P:dm C g X E):dm (C.holdIt its) g X E:=fun c σ' g' ea q a x=>P c σ' g' ea q a x.drop
theorem na {target:PySem.Expr}{body:List Stmt}{s:Shared}{prog:Program}{w:World}{A:Around}{R:Result→Shared→Prop}{it:Value}{orelse:List Stmt}{env:Env}
  (turn:wpAny (model prog w) A (pyNext it) (fun r s₁=>match r with
   |none=>wpAny (model prog w) A (execs orelse env) (fun f s₃=>R (.ok f) s₃) (notedBy (model prog w) A env fun e s'=>R (.error e) s') s₁
   |some v=>wpAny (model prog w) A (letOwnedTupleGo target it v) (fun _ s₁'=>
     wpAny (model prog w) A (assign target env v) (fun _ s₂=>wpAny (model prog w) A (execs body env) (fun f s₃=>match f with
      | .next| .cont=>codeAny (model prog w) A (.forLoop target it body orelse env) R s₃
      | .brk=>R (.ok .next) s₃
      | .ret v=>R (.ok (.ret v)) s₃) (notedBy (model prog w) A env fun e s'=>R (.error e) s') s₂) (notedBy (model prog w) A env fun e s'=>R (.error e) s') s₁') (notedBy (model prog w) A env fun e s'=>R (.error e) s') s₁) (notedBy (model prog w) A env fun e s'=>R (.error e) s') s):
  codeAny (model prog w) A (.forLoop target it body orelse env) R s:=by
 refine codeAny_of_tree ?_
 refine(?_:wpAny _ A ((forTurn target it body orelse env).onRaise (fun x=>do noteFrame x env;theTreesLotGoes x)) _ _ s)
 refine wpAny_noted ?_
 simp only[forTurn]
 refine wpAny_bind (wpAny_standAt (wpAny_bind (wpAny_onRaise (wpAny_mono turn (fun r s₁ h₁=>?_) fun _ _ h'=>wpAny_standAt h'))))
 cases r with
 |none=>exact wpAny_pure ⟨rfl,codeAny_block h₁⟩
 |some v=>
  refine wpAny_bind (wpAny_mono h₁ (fun _ s₁' h₁'=>?_) fun _ _ h'=>h')
  refine wpAny_bind (wpAny_mono h₁' (fun _ s₂ h₂=>wpAny_bind (wpAny_mono h₂ (fun f s₃ h₃=>?_) fun _ _ h'=>h')) fun _ _ h'=>h')
  cases f with
  |next=>exact wpAny_pure ⟨rfl,h₃⟩
  |cont=>exact wpAny_pure ⟨rfl,h₃⟩
  |brk=>exact wpAny_pure h₃
  |ret v=>exact wpAny_pure h₃
theorem nw {sc:aV}{G:Prop}(hb:eg sc ρ target x=some ρ')(h1:∀n p,target= .Name n p→eN x=none→dZ sc ρ n x=some ρ'→G)(h2:∀ts k p vs,target= .Tuple ts k p→x= .tup vs→au sc ts vs ρ=some ρ'→G):G:=
 tN hb (fun _ h=>A7 h (fun _=>Ji) fun ts k p e h=>(Option.bind_eq_some_iff.mp h).elim fun vs h=>h2 ts k p vs e (jx h.1) h.2) fun n p e h=>io h (fun e' h=>h1 n p e e' h) fun _ _=>Ji
theorem kB (hb:eg C.env.scope.names ρ target x=some ρ'):∀l,x= .tup l→∃es k p,target= .Tuple es k p:=fun l e=>
 nw hb (fun n p _ h _=>nomatch (congrArg eN e).symm.trans h) fun ts k p _ e _ _=>⟨ts,k,p,e⟩
theorem j5 (ok:CxOk C){rv:Value}{K:Unit→Shared→Prop}(T:St C ρ σ g)(hb:eg C.env.scope.names ρ target x=some ρ')(hv:Rg C g x rv)
  (hq:∀g',Le g g'→St C ρ' σ g'→K () g'.s):wpAny (model pw C.w) C.A (assign target C.env rv) K E g.s:=by
 refine nw hb (fun n p e _ h=>?_) fun ts k p vs e1 e2 h=>?_
 ·subst e
  exact PyProof.Rows.assign_Name (dI ok T h hv hq)
 ·subst e1 e2
  refine jY ok T hv (iO C.env h) (ma (Q:=fun ρ2 σ2=>ρ2=ρ'∧σ2=σ) ok h ⟨rfl,rfl⟩) fun ρ2 σ2 g' q a T'=>?_
  refine Jh q ?_;clear q;intro q1 q2
  subst q1 q2
  exact hq g' a T'
noncomputable def WF (C:Cx)(ρ:Loc)(target:PySem.Expr)(body:List Stmt)(items:List MV)(σ:aa)(Q:MF→Loc→aa→Prop)(X:XP):Prop:=∀it its g K E,St (C.holdIt its) ρ σ g→bU C it items its g.φ g.imm→EndS C g Q K→dm C g X E→
 codeAny (model pw C.w) C.A (.forLoop target (.ref it) body [] C.env) (fun r s'=>match r with| .ok f=>K f s'| .error e=>cameBackBy (model pw C.w) C.A C.env E e s') g.s
theorem HY (ok:CxOk C)(q:Q .next ρ σ):WF C ρ target body [] σ Q X:=by
 intro it its g K E T I P PX
 refine Jm T.S fun mu prot S=>?_
 exact na (I C ok rfl rfl g.φ g.imm g.m σ g.s mu prot _ _ (List.prefix_refl _) (fun _ h=>h) S fun h' tk prot' S'=>wpAny_execs_nil (P.next ρ σ (g.at g.imm h' tk) q .on ⟨⟨mu,prot',S'⟩,T.L⟩))
theorem HX (ok:CxOk C)(top:CxF C)(ht:eg C.env.scope.names ρ target x=some ρ')(hb:∀its,WB (C.holdIt its) ρ' body σ Q1 X)(h1:∀ρ2 σ2,Q1 .next ρ2 σ2→WF C ρ2 target body r σ2 Q X)(h2:∀y ρ2 σ2,Q1 (.ret y) ρ2 σ2→Q (.ret y) ρ2 σ2):WF C ρ target body (x::r) σ Q X:=by
 intro it its g K E T I P PX
 refine Jm T.S fun mu prot S=>?_
 refine na (I C ok rfl rfl g.φ g.imm g.m σ g.s mu prot _ _ (List.prefix_refl _) (fun _ h=>h) S fun v s₁ go=>?_)
 refine go target _ _ (kB ht) fun h' tk its' imm1 prot' b1 S1 R1 I1=>?_
 refine j5 (C:=C.holdIt its') (g:=g.at imm1 h' tk) ok.hold ⟨⟨mu,prot',S1⟩,T.L.mono (List.prefix_refl _) b1⟩ ht R1 fun g2 a T2=>?_
 have a1:Le g g2:=Le.trans (.at b1) a
 exact hb its' g2 _ _ T2 ⟨fun ρ2 σ2 g3 q b T3=>h1 ρ2 σ2 q it its' g3 K E T3 (I1.mono (a.trans b).φ (a.trans b).imm) (P.le (a1.trans b)) (PX.le (a1.trans b)),fun y ρ2 σ2 g3 w q b S3 R3=>P.ret y ρ2 σ2 g3 w (h2 y ρ2 σ2 q) (a1.trans b) S3.drop R3⟩ ((PX.le a1).noted ok top).hold
end
end
section
section
variable {C:Cx}{ρ ρ':Loc}{φ:List Addr}{imm:Led}{m m':Str→Option Value}{σ σ₁ σ₂:aa}{h h':Heap}{mu prot its:Led}{s:Shared}{E:Value→Shared→Prop}{c:Str}{n:Bool}{ea:Addr}{target:PySem.Expr}{body:List Stmt}{x v:MV}{r:List MV}{pos:Pos}{it:Addr}{o o':Obj}
theorem SD.holdNew (S:SD C φ imm m σ h mu prot)(o:Obj)(hf:o.isFreed=false:=by rfl):SD (C.holdIt [(h.objs.size,o)]) φ imm m σ (h.push o) mu ((h.objs.size,o)::prot):=by
 have N:=News.push S.F S.N o hf
 refine⟨S.F.push o,fP N fun p hp=>?_,?_,S.M,⟨o.slots,prot,rfl,fun _=>rfl,S.P⟩,S.closed,S.all⟩
 ·simp only[List.mem_append,List.mem_cons]at hp ⊢
  rcases hp with hp|hp|hp|hp
  ·exact .inr (.inl hp)
  ·exact .inr (.inr (.inl hp))
  ·exact .inl hp
  ·exact .inr (.inr (.inr hp))
 ·have nd:=S.nd
  have aw:=S.awaySize
  have:((mu++(imm++(h.objs.size,o)::prot)).map (·.1)).Perm (h.objs.size::(mu++(imm++prot)).map (·.1)):=by
   have e:=(List.perm_middle (a:=(h.objs.size,o)) (l₁:=mu++imm) (l₂:=prot)).map (·.1)
   simpa using e
  exact this.nodup_iff.mpr (List.nodup_cons.mpr ⟨aw.1,nd⟩)
theorem SD.heldAt (S:SD (C.holdIt [(it,o)]) φ imm m σ h mu prot):∃sl p2,prot=(it,{o with slots:=sl})::p2∧bD C.prot p2∧h.get? it=some {o with slots:=sl}∧it≠C.L∧C.B.get? it=none∧(∀p∈mu++(imm++p2),p.1≠it)∧((∃vs,o.data= .fields vs)→sl=o.slots):=by
 refine Jj S.P fun sl p2 e hf hP=>?_
 subst e
 have hm:=S.N (it,{o with slots:=sl}) (List.mem_append_right mu (List.mem_append_right imm (.head _)))
 refine JN sl p2 rfl hP hm.1 hm.2.1 hm.2.2 (fun p hp q=>?_) hf
 have nd:=S.nd
 have:((mu++(imm++(it,({o with slots:=sl}:Obj))::p2)).map (·.1)).Perm (it::(mu++(imm++p2)).map (·.1)):=by
  have e:=(List.perm_middle (a:=(it,({o with slots:=sl}:Obj))) (l₁:=mu++imm) (l₂:=p2)).map (·.1)
  simpa using e
 have nd2:=this.nodup_iff.mp nd
 exact(List.nodup_cons.mp nd2).1 (q▸List.mem_map_of_mem hp)
theorem SD.heldSet (S:SD (C.holdIt [(it,o)]) φ imm m σ h mu prot)(hs:Heap.SameBut it h h')(ho:h'.get? it=some o'):∃p2,SD (C.holdIt [(it,o')]) φ imm m σ h' mu ((it,o')::p2):=by
 refine Jy S.heldAt fun sl p2 e hP h1 h2 h3 h4 _=>?_
 subst e
 refine⟨p2,S.F.change hs h2 h3,fun p hp=>?_,?_,S.M,⟨o'.slots,p2,rfl,fun _=>rfl,hP⟩,S.closed,S.all⟩
 ·have hp':p=(it,o')∨p∈mu++(imm++p2):=by
   simp only[List.mem_append,List.mem_cons]at hp ⊢
   rcases hp with hp|hp|hp|hp
   ·exact .inr (.inl hp)
   ·exact .inr (.inr (.inl hp))
   ·exact .inl hp
   ·exact .inr (.inr (.inr hp))
  rcases hp' with rfl|hp'
  ·exact Jn ho h2 h3
  ·have hm:=S.N p (by
    simp only[List.mem_append,List.mem_cons]at hp' ⊢
    rcases hp' with hp'|hp'|hp'
    ·exact .inl hp'
    ·exact .inr (.inl hp')
    ·exact .inr (.inr (.inr hp')))
   exact Jg ((hs.2 p.1 (h4 p hp')).trans hm.1) hm.2
 ·have nd:=S.nd
  simpa using nd
theorem SD.heldEnd (S:SD (C.holdIt [(it,o)]) φ imm m σ h mu prot)(hs:Heap.ExtBut it h h'):∃p2,SD C φ imm m σ h' mu p2:=by
 refine Jy S.heldAt fun sl p2 e hP h1 h2 h3 h4 _=>?_
 refine Jj S.drop fun q1 q2 e2 _ S2=>?_
 have:q2=p2:=by
  replace e2:=e▸e2
  refine Jj (show bD [(it,o)] q1 by assumption) fun sl' r' e3 _ e4=>?_
  have e4:r'=[]:=e4
  subst e4 e3
  simp only[List.cons_append,List.nil_append,List.cons.injEq]at e2
  exact e2.2.symm
 subst this
 refine⟨q2,⟨?_,fun b ob eb=>hs b ob (fun q=>by replace eb:=h3▸(q▸eb);exact Ji eb) (S2.F.keep b ob eb),S2.F.above⟩,fun p hp=>⟨hs _ _ (h4 p hp) (S2.N p hp).1,(S2.N p hp).2⟩,S2.nd,S2.M,S2.P,S2.closed,S2.all⟩
 refine JK S2.F.ns fun oL es ep a rr=>?_
 exact JY oL es ep (hs _ _ (Ne.symm h2) a) rr
theorem pJ {a:Addr}{l:List MV}{rs:List Value}{ol:Obj}{k:Nat}(hO:nG C.B imm a ol)(hc:ol.cls= .type "list")(hd:ol.data= .seq (List.toArray rs) k)(hv:Svs C.w.params C.B imm l rs):
  ∀(r:List MV) (i:Nat) (o:Obj),l.drop i=r→o.cls= .type "list_iterator"→o.data= .fields #[.ref a,.int i 0]→bU C it r [(it,o)] φ imm
 |[],i,o,hr,oc,od=>by
  intro C' ok e1 e2 φ' imm' m σ s mu prot Q E h1 h2 S q
  refine Jy S.heldAt fun sl p2 e hP g1 g2 g3 g4 _=>?_
  have hit:s.heap.IsListIter it a i:=⟨_,g1,oc,od⟩
  have hl:s.heap.IsList a (List.toArray rs):=⟨_,S.immIn (e2▸hO.mono h2),hc,k,hd⟩
  have hx:(List.toArray rs)[i]?=none:=by
   have:=hv.length
   refine Kh List.getElem?_toArray▸?_;rewrite[List.getElem?_eq_none_iff];refine Kh this▸?_
   exact List.drop_eq_nil_iff.mp hr
  refine wpAny_pyNext_list_end ok.handled hit hl hx fun h' he=>?_
  refine Jf (S.heldEnd he) fun p3 S3=>?_
  exact q h' s.toks p3 S3
 |x::r,i,o,hr,oc,od=>by
  intro C' ok c1 c2 φ' imm' m σ s mu prot Q E h1 h2 S q
  refine Jy S.heldAt fun sl p2 e hP g1 g2 g3 g4 _=>?_
  have hit:s.heap.IsListIter it a i:=⟨_,g1,oc,od⟩
  have hl:s.heap.IsList a (List.toArray rs):=⟨_,S.immIn (c2▸hO.mono h2),hc,k,hd⟩
  have hi:l[i]?=some x:=by
   have:=congrArg (·[0]?) hr
   simpa using this
  refine tr (hv.at_ hi) fun rv e1 e2=>?_
  refine wpAny_pyNext_list_item hit hl (by rewrite[List.getElem?_toArray];exact e1) fun h' hit' hs=>q rv _ fun target Q' E' _ q'=>?_
  refine letGo_listiter hit' ?_
  refine Jt hit' ?_;clear hit';intro o' ho' oc' od'
  refine Jf (S.heldSet hs ho') fun p3 S3=>?_
  have ih:=pJ hO hc hd hv r (i+1) o' (by
   have:=congrArg List.tail hr
   simpa [List.tail_drop]using this) oc' od'
  exact q' h' s.toks [(it,o')] imm' _ (fun _ h=>h) S3 (by rewrite[c1,c2];exact(Sv.mono h2 _ _ e2).toRv) (ih.mono h1 h2)
theorem qB {a:Addr}{l:List MV}{i:Nat}(oc:o.cls= .type "list_iterator")(od:o.data= .fields #[.ref a,.int i 0]):dT C it [(it,o)] φ imm:=by
 intro C' ok c1 c2 φ' imm' m σ s mu prot Q E h1 h2 S q
 refine Jy S.heldAt fun sl p2 e hP g1 g2 g3 g4 _=>?_
 have hit:s.heap.IsListIter it a i:=⟨_,g1,oc,od⟩
 exact wpAny_pyIter_listiter hit q
noncomputable def rf (I:List MV→Loc→aa→Prop)(r:List MV)(Q:MF→Loc→aa→Prop)(f:MF)(ρ':Loc)(σ':aa):Prop:=match f with
 | .next=>I r ρ' σ'
 | .ret x=>Q (.ret x) ρ' σ'
theorem qY {l:List MV}{rv:Value}{Q:Value→Shared→Prop}(S:SI C φ imm m σ s.heap)(hv:Rv C.w.params C.B φ imm (.list l) rv)
  (q:∀it its h',l.length≤sizeLine→SI (C.holdIt its) φ imm m σ h'→bU C it l its φ imm→dT C it its φ imm→Q (.ref it) {s with heap:=h'}):wpAny (model pw C.w) C.A (pyIter rv) Q E s:=by
 refine Jm S ?_;clear S;intro mu prot S
 have hv:Sv C.w.params C.B imm (.list l) rv:=hv
 refine Jv hv ?_;clear hv;intro a rs o k κ;subst κ;intro hO hc hd hz hs
 refine wpAny_pyIter_list (items:=List.toArray rs) ⟨o,S.immIn hO,hc,k,hd⟩ ?_
 exact q _ _ _ hz ⟨mu,_,S.holdNew _⟩ (pJ hO hc hd hs l 0 _ rfl rfl rfl) (qB (l:=l) (i:=0) rfl rfl)
theorem kp {e:PySem.Expr}{env:Env}(hs:kg e=false)(x:Value):foldedSetIterable e env x=pure x:=by
 cases e<;>first|rfl|exact JG hs
noncomputable def WI (C:Cx)(ρ:Loc)(e:PySem.Expr)(σ:aa)(Q:List MV→aa→Prop)(X:XP):Prop:=∀g K E,St C ρ σ g→
 (∀l σ' g' it its,Q l σ'→l.length≤sizeLine→Le g g'→St (C.holdIt its) ρ σ' g'→bU C it l its g'.φ g'.imm→dT C it its g'.φ g'.imm→K (.ref it) g'.s)→dm C g X E→wpAny (model pw C.w) C.A (eval e C.env) (fun x s₁=>wpAny (model pw C.w) C.A (pyIter x) K E s₁) E g.s
theorem zj {e:PySem.Expr}{QE:MV→aa→Prop}{QL:List MV→aa→Prop}{X:XP}(h:WE C ρ e σ QE X)(h1:∀x σ₁,QE x σ₁→OptEx (nE x) fun l=>QL l σ₁):WI C ρ e σ QL X:=
 fun g K E T P PX=>h g _ E T (fun x σ₁ g1 rv q a T1 R1=>(h1 x σ₁ q).elim fun l e q=>qY T1.S (nD e▸R1) fun it its h' hz S2 I2 I3=>P l σ₁ (g1.at g1.imm h' g1.s.toks) it its q hz (a.trans .on) ⟨S2,T1.L⟩ I2 I3) PX
inductive ForEx (C:Cx)(ρ:Loc)(target:PySem.Expr)(body:List Stmt)(l:List MV)(σ:aa)(Q:MF→Loc→aa→Prop)(X:XP):Prop
 |intro(I:List MV→Loc→aa→Prop) (start:I l ρ σ) (turn:∀x r ρ σ,I (x::r) ρ σ→OptEx (eg C.env.scope.names ρ target x) fun ρ₁=>∀its,WB (C.holdIt its) ρ₁ body σ (rf I r Q) X) (fin:∀ρ σ,I [] ρ σ→Q .next ρ σ)
theorem zk {Q:MF→Loc→aa→Prop}{X:XP}{I:List MV→Loc→aa→Prop}(ok:CxOk C)(top:CxF C)(turn:∀x r ρ σ,I (x::r) ρ σ→OptEx (eg C.env.scope.names ρ target x) fun ρ₁=>∀its,WB (C.holdIt its) ρ₁ body σ (rf I r Q) X)(fin:∀ρ σ,I [] ρ σ→Q .next ρ σ)
  {l:List MV}:∀{ρ:Loc}{σ:aa},I l ρ σ→WF C ρ target body l σ Q X:=by
 induction l with
 |nil=>exact fun q=>HY ok (fin _ _ q)
 |cons x r ih=>exact fun q=>(turn x r _ _ q).elim fun ρ₁ e h=>HX ok top e h (fun _ _ q=>ih q) fun _ _ _ q=>q
theorem wv {e:PySem.Expr}{QL:List MV→aa→Prop}{Q:MF→Loc→aa→Prop}{X:XP}(ok:CxOk C)(top:CxF C)(hs:kg e=false)(h:WI C ρ e σ QL noX)(h1:∀l σ₁,QL l σ₁→ForEx C ρ target body l σ₁ Q X):WS C ρ (.For target e body [] pos) σ Q X:=
 fun g K E T P PX=>wpAny_For (h g _ E T (fun l σ₁ g1 it its q _ a T1 I1 _=>match h1 l σ₁ q with| .intro I start turn fin=>zk ok top turn fin start it its g1 K E T1 I1 (P.le a) (PX.le a)) .no) (kp hs)
end
end
section
section
variable {prog:Program}{w:World}{A:Around}{E:Value→Shared→Prop}{s:Shared}
theorem ss {it:Addr}{o:Obj}{x left step:Int}{Q:Option Value→Shared→Prop}(hit:s.heap.get? it=some o)(hc:o.cls= .type "range_iterator")(hd:o.data= .fields #[rawInt x,rawInt left,rawInt step])(hleft:0<left)
  (hQ:∀h' o',h'.get? it=some o'→o'.cls= .type "range_iterator"→o'.data= .fields #[rawInt (x+step),rawInt (left-1),rawInt step]→Heap.SameBut it s.heap h'→Q (some (.int x s.toks)) {s with heap:=h',toks:=s.toks+1}):
  wpAny (model prog w) A (pyNext (.ref it)) Q E s:=by
 have hT:s.TypeIs (.ref it) "range_iterator":=⟨_,hit,hc⟩
 unfold pyNext
 refine wpAny_bind (wpAny_attempt (wpAny_callSpecial?_slot (name:=Str.ofString "__next__") hT F.slot_range_iterator_next
  (wpAny_call_entry F.slot_range_iterator_next hT F.entry_range_iterator_next ?_ (F.args_range_iterator_next_1 _))))
 refine(?_:wpAny _ _ (field (.ref it) 0 >>= _) _ _ s)
 refine wpAny_bind (wpAny_field hit hd (x:=rawInt x) rfl ?_)
 refine(?_:wpAny _ _ (field (.ref it) 1 >>= _) _ _ s)
 refine wpAny_bind (wpAny_field hit hd (x:=rawInt left) rfl ?_)
 refine(?_:wpAny _ _ (field (.ref it) 2 >>= _) _ _ s)
 refine wpAny_bind (wpAny_field hit hd (x:=rawInt step) rfl ?_)
 refine(?_:wpAny _ _ (if left≤0 then _ else _) _ _ s)
 refine Kh (if_neg (by exact (lE 0xc6e801003500402) hleft))▸?_
 have hd1:=Obj.data_mapFields hd (·.setIfInBounds 0 (rawInt (x+step)))
 have ho1:=Heap.get?_update_self (Obj.mapFields (·.setIfInBounds 0 (rawInt (x+step)))) hit (Obj.isFreed_of_fields hd1)
 refine wpAny_bind (wpAny_setField hit hd (by simp) ?_)
 have hd2:=Obj.data_mapFields hd1 (·.setIfInBounds 1 (rawInt (left-1)))
 refine wpAny_bind (wpAny_setField ho1 hd1 (by simp) ?_)
 have ho2:=Heap.get?_update_self (Obj.mapFields (·.setIfInBounds 1 (rawInt (left-1)))) ho1 (Obj.isFreed_of_fields hd2)
 refine wpAny_bind (wpAny_mkInt (wpAny_pure ⟨_,rfl,wpAny_pure ?_⟩))
 exact hQ _ _ ho2 (by rewrite[Obj.cls_mapFields,Obj.cls_mapFields];exact hc) (by rewrite[hd2];rfl) ((Heap.SameBut.update ..).trans (Heap.SameBut.update ..))
theorem vk {it:Addr}{o:Obj}{x left step:Int}{Q:Option Value→Shared→Prop}(hh:A.handled=none)(hit:s.heap.get? it=some o)(hc:o.cls= .type "range_iterator")(hd:o.data= .fields #[rawInt x,rawInt left,rawInt step])(hleft:left≤0)
  (hQ:∀h',Heap.ExtBut it s.heap h'→Q none {s with heap:=h'}):wpAny (model prog w) A (pyNext (.ref it)) Q E s:=by
 have hT:s.TypeIs (.ref it) "range_iterator":=⟨_,hit,hc⟩
 unfold pyNext
 refine wpAny_bind (wpAny_attempt (wpAny_callSpecial?_slot (name:=Str.ofString "__next__") hT F.slot_range_iterator_next
  (wpAny_call_entry F.slot_range_iterator_next hT F.entry_range_iterator_next ?_ (F.args_range_iterator_next_1 _))))
 refine(?_:wpAny _ _ (field (.ref it) 0 >>= _) _ _ s)
 refine wpAny_bind (wpAny_field hit hd (x:=rawInt x) rfl ?_)
 refine(?_:wpAny _ _ (field (.ref it) 1 >>= _) _ _ s)
 refine wpAny_bind (wpAny_field hit hd (x:=rawInt left) rfl ?_)
 refine(?_:wpAny _ _ (field (.ref it) 2 >>= _) _ _ s)
 refine wpAny_bind (wpAny_field hit hd (x:=rawInt step) rfl ?_)
 refine(?_:wpAny _ _ (if left≤0 then _ else _) _ _ s)
 refine Kh (if_pos hleft)▸?_
 refine wpAny_bind (wpAny_rule ?_)
 refine wpAny_bind ?_
 refine(?_:wpAny _ _ (newExc (.type "StopIteration") [] >>= _) _ _ _)
 refine wpAny_bind ?_
 simp only[newExc,newTuple]
 refine wpAny_bind (wpAny_newObj_type ?_ (by size_fits))
 refine wpAny_bind (m:=firstArgMember _ _) (wpAny_of_eq (a:=Value.none) (by first|rfl|(simp only[firstArgMember];rfl)) ?_)
 refine wpAny_newObj_type ?_ (by size_fits)
 simp only[raiseNew]
 refine wpAny_bind (wpAny_handled ?_)
 first|rw[show A.in1.handled=none from hh]|rw[hh]
 refine wpAny_bind (wpAny_pure (wpAny_throw ?_))
 refine wpAny_bind (wpAny_isInstance (T:="StopIteration") (b:=true) ⟨_,Heap.get?_push_size _ rfl,rfl⟩ isSubtype_stop ?_)
 exact wpAny_pure (hQ _ (((Heap.ExtBut.refl it s.heap).push _).push _))
theorem qS {it:Addr}{o:Obj}{vs:Array Value}{target:PySem.Expr}{v:Value}{Q:Unit→Shared→Prop}(hit:s.heap.get? it=some o)(hc:o.cls= .type "range_iterator")(hd:o.data= .fields vs)(h:Q () s):wpAny (model prog w) A (letOwnedTupleGo target (.ref it) v) Q E s:=by
 unfold letOwnedTupleGo
 cases target<;>first
  |exact wpAny_pure h
  |(cases v<;>first
    |exact wpAny_pure h
    |(refine wpAny_bind (wpAny_load hit ?_)
      refine Kh hc▸?_;refine Kh hd▸?_
      exact wpAny_pure h))
end
section
variable {C:Cx}{ρ ρ':Loc}{φ:List Addr}{imm:Led}{m m':Str→Option Value}{σ σ₁ σ₂:aa}{h h':Heap}{mu prot its:Led}{s:Shared}{E:Value→Shared→Prop}{c:Str}{it:Addr}{o o':Obj}{pos:Pos}
theorem su {step:Int}(hst:step=1∨step= -1):∀(k:Nat) (x:Int) (o:Obj),o.cls= .type "range_iterator"→o.data= .fields #[rawInt x,rawInt k,rawInt step]→bU C it ((List.range k).map fun(i:Nat)=>.int (x+step*(i:Int))) [(it,o)] φ imm
 |0,x,o,oc,od=>by
  intro C' ok c1 c2 φ' imm' m σ s mu prot Q E h1 h2 S q
  refine Jy S.heldAt fun sl p2 e hP g1 g2 g3 g4 _=>?_
  refine vk ok.handled g1 oc od (by simp) fun h' he=>?_
  refine Jf (S.heldEnd he) fun p3 S3=>?_
  exact q h' s.toks p3 S3
 |k+1,x,o,oc,od=>by
  refine Kh List.range_succ_eq_map▸?_;refine Kh List.map_cons▸?_;refine Kh List.map_map▸?_
  intro C' ok c1 c2 φ' imm' m σ s mu prot Q E h1 h2 S q
  refine Jy S.heldAt fun sl p2 e hP g1 g2 g3 g4 _=>?_
  refine ss g1 oc od (by exact lA 0x155902200402) fun h' o' ho' oc' od' hs=>q _ _ fun target Q' E' _ q'=>?_
  refine qS ho' oc' od' ?_
  refine Jf (S.heldSet hs ho') fun p3 S3=>?_
  have e1:((k+1:Nat):Int)-1=(k:Int):=by exact lA 0x16580250896408801
  replace od':=e1▸od'
  have ih:=su hst k (x+step) o' oc' od'
  have e2:((List.range k).map fun(i:Nat)=>MV.int (x+step+step*(i:Int)))=(List.range k).map ((fun(i:Nat)=>MV.int (x+step*(i:Int)))∘Nat.succ):=by
   refine List.map_congr_left fun i _=>?_
   refine congrArg MV.int (?_:x+step+step*(i:Int)=x+step*((i+1:Nat):Int))
   rcases hst with rfl|rfl<;>lia
  replace ih:=e2▸ih
  refine q' h' _ [(it,o')] imm' _ (fun _ h=>h) S3 ?_ (ih.mono h1 h2)
  have:x+step*((0:Nat):Int)=x:=by simp
  refine Kh this▸?_
  exact aT
theorem sj {x left step:Int}(oc:o.cls= .type "range_iterator")(od:o.data= .fields #[rawInt x,rawInt left,rawInt step]):dT C it [(it,o)] φ imm:=by
 intro C' ok c1 c2 φ' imm' m σ s mu prot Q E h1 h2 S q
 refine Jy S.heldAt fun sl p2 e hP g1 g2 g3 g4 _=>?_
 have hT:s.TypeIs (.ref it) "range_iterator":=⟨_,g1,oc⟩
 refine wpAny_pyIter_slot hT PySem.F.slot_range_iterator_iter (wpAny_call_entry PySem.F.slot_range_iterator_iter hT PySem.F.entry_range_iterator_iter ?_ (PySem.F.args_range_iterator_iter_1 _))
 refine(?_:wpAny _ _ (ret (.ref it)) _ _ s)
 exact wpAny_pure ⟨_,rfl,"range_iterator",_,hT,PySem.F.slot_range_iterator_next.lookup,q⟩
theorem bB {i:Int}(h1: -(2^63)≤i)(h2:i<2^63):Builtin.Range.rangeFitsLong i=true:=by unfold Builtin.Range.rangeFitsLong;simp;exact (lE 0x18c66a800000000000000068c01a002c40000000000000003475400000000000000034600d001620000000000000001a3) h1 h2
theorem wM {n:Int}:Builtin.Range.rangeSize 0 n 1=((n.toNat:Nat):Int):=by
 unfold Builtin.Range.rangeSize
 rewrite[if_pos (by decide)]
 split
 ·simp;exact (lE 0x316400400803500402) (by assumption)
 ·simp;exact (lE 0x62c80080100b7500402) (by assumption)
theorem wL {a b:Int}:Builtin.Range.rangeSize a b (-1)=(((a-b).toNat:Nat):Int):=by
 unfold Builtin.Range.rangeSize
 rewrite[if_neg (by decide)]
 split
 ·simp;exact lin 0xc590011401084a00843508401 [] [_,_] (by kernel_rfl) (by assumption)
 ·simp;exact lin 0x316400450042100b7508401 [] [_,_] (by kernel_rfl) (by assumption)
theorem zL {n:Int}(hn: -1048576≤n∧n≤1048576):Builtin.Range.small 0 n 1=true:=by
 unfold Builtin.Range.small
 rw[wM,bB (i:=0) (by decide) (by decide),bB (i:=n) (by lia) (by lia),bB (i:=1) (by decide) (by decide),bB (i:=n.toNat) (by lia) (by lia),if_pos (by decide),bB (i:=n+(1-1)) (by lia) (by lia)]
 exact Bool.or_true _
theorem zK {a b:Int}(ha: -1048576≤a∧a≤1048576)(hb: -1048576≤b∧b≤1048576):Builtin.Range.small a b (-1)=true:=by
 unfold Builtin.Range.small
 rw[wL,bB (i:=a) (by lia) (by lia),bB (i:=b) (by lia) (by lia),bB (i:= -1) (by decide) (by decide),bB (i:=((a-b).toNat:Int)) (by lia) (by lia),if_neg (by decide),bB (i:=b+(-1+1)) (by lia) (by lia)]
 exact Bool.or_true _
theorem sB {vs items:List MV}{G:Prop}(h:bG vs=some items)(k1:∀n,vs=[.int n]→ -1048576≤n∧n≤1048576→(List.range n.toNat).map (fun(k:Nat)=>MV.int (k:Int))=items→G)
  (k3:∀a b,vs=[.int a,.int b,.int (-1)]→ -1048576≤a∧a≤1048576→ -1048576≤b∧b≤1048576→(List.range (a-b).toNat).map (fun(k:Nat)=>MV.int (a-(k:Int)))=items→G):G:=by
 cases vs with
 |nil=>exact Ji h
 |cons x vs=>
  cases vs with
  |nil=>
   refine tr (Option.bind_eq_some_iff.mp h) fun n h1 h=>?_
   exact cv h fun c e=>k1 n (congrArg (fun z=>[z]) (aM h1)) c e
  |cons y vs=>
   cases vs with
   |nil=>exact Ji h
   |cons z vs=>
    cases vs with
    |cons _ _=>exact Ji h
    |nil=>
     refine tr (Option.bind_eq_some_iff.mp h) fun a h1 h=>?_
     refine tr (Option.bind_eq_some_iff.mp h) fun b h2 h=>?_
     refine tr (Option.bind_eq_some_iff.mp h) fun c h3 h=>?_
     refine cv h fun q e=>?_
     have h1:=aM h1
     have h2:=aM h2
     have h3:=aM h3
     refine JF q ?_;clear q;intro q1 q2 q3 q4 q5
     subst h1 h2 h3 q1
     exact k3 a b rfl ⟨q2,q3⟩ ⟨q4,q5⟩ e
theorem iM {g:Gh}{K:Value→Shared→Prop}{a b c:Int}{t u v:Tok}{k tk:Nat}{QL:List MV→aa→Prop}{items:List MV}(T:St C ρ σ g)(hc:c=1∨c= -1)(hsm:Builtin.Range.small a b c=true)(hsz:Builtin.Range.rangeSize a b c=(k:Int))(hit:((List.range k).map fun(i:Nat)=>MV.int (a+c*(i:Int)))=items)(q:QL items σ)(hk:k≤sizeLine)
  (P:∀l σ' g' it its,QL l σ'→l.length≤sizeLine→Le g g'→St (C.holdIt its) ρ σ' g'→bU C it l its g'.φ g'.imm→dT C it its g'.φ g'.imm→K (.ref it) g'.s):
  wpAny (model pw C.w) C.A (pyIter (.ref g.s.heap.objs.size)) K E {g.s with heap:=g.s.heap.push {cls:= .type "range",data:= .fields #[.int a t,.int b u,.int c v]},toks:=tk}:=by
 refine Jm T.S fun mu prot S1=>?_
 have S2:=S1.go (S1.F.push {cls:= .type "range",data:= .fields #[.int a t,.int b u,.int c v]}) (S1.N.pushKeep {cls:= .type "range",data:= .fields #[.int a t,.int b u,.int c v]})
 refine wpAny_pyIter_range (IsRange.new g.s.heap a b c t u v) hsm ?_
 rw[hsz]
 subst hit
 exact P _ σ (g.at g.imm _ tk) _ _ q (by simpa using hk) .on ⟨⟨mu,_,S2.holdNew _⟩,T.L⟩ (su hc k a _ rfl rfl) (sj (x:=a) (left:=k) (step:=c) rfl rfl)
theorem uF (ok:CxOk C)(G:eY C.w.params)(BF:BuiltFacts C.w.params){xp:Pos}{args:List PySem.Expr}{A:List MV→aa→Prop}{QL:List MV→aa→Prop}{X:XP}(hs:noStar args=true)(hn:cP C.env.scope.names ρ (.ofString "range")=some (.glob (.ofString "range")))(h:WL C ρ args σ A X)(h1:∀vs σ₁,A vs σ₁→OptEx (bG vs) fun items=>QL items σ₁):
  WI C ρ (.Call (.Name (.ofString "range") xp) args [] pos) σ QL X:=by
 intro g K E T P PX
 rw[bW]
 refine wpAny_bind (dJ ok G T.S T.L hn fun fv R=>?_)
 have R:bJ C.w.params (.ofString "range") fv:=R
 have:=BF.one (v:= .type "range") (by simp) R
 subst this
 refine cX ok (fun _ _ _=>.inr fun a q=>nomatch q) hs h T PX fun vs σ₁ g1 rvs q a T1 R1=>?_
 refine(h1 vs σ₁ q).elim fun items hi ql=>sB hi (fun n e hn e2=>?_) fun x y e hx hy e2=>?_
 ·subst e
  refine tr (mz R1) fun z e hz=>?_
  refine Jf (aK hz) fun t e'=>?_
  subst e e'
  refine call_range_1 ?_
  exact iM T1 (.inl rfl) (zL hn) wM ((List.map_congr_left fun i _=>by simp).trans e2) ql (cI (by refine(?_:_≤1048576);lia)) fun l σ' g' it its q hz b=>P l σ' g' it its q hz (a.trans b)
 ·subst e
  refine Jj R1 ?_;clear R1;intro z1 rs e h1 R2
  refine Jj (BI R2) fun z2 z3 e' h2 h3=>?_
  refine Jf (aK h1) fun t e1=>?_
  refine Jf (aK h2) fun u e2'=>?_
  refine Jf (aK h3) fun v e3=>?_
  subst e e' e1 e2' e3
  refine call_range_3 (by decide) ?_
  exact iM T1 (.inr rfl) (zK hx hy) wL ((List.map_congr_left fun i _=>congrArg MV.int (by lia)).trans e2) ql (by rewrite[sizeLine_eq];lia) fun l σ' g' it its q hz b=>P l σ' g' it its q hz (a.trans b)
end
end
section
section
variable {prog:Program}{w:World}{A:Around}{E:Value→Shared→Prop}{s:Shared}{b:Array UInt8}{t:Tok}
theorem vv {it:Addr}{i:Nat}{c:UInt8}{Q:Value→Shared→Prop}(hit:KBw.IsBytesIter s.heap it b t i)(hx:b[i]?=some c)
  (hQ:∀h',KBw.IsBytesIter h' it b t (i+1)→Heap.SameBut it s.heap h'→Q (.int (c.toNat:Int) s.toks) {s with heap:=h',toks:=s.toks+1}):wpAny (model prog w) A (Builtin.SmallTypes.nextOf (.ref it)) Q E s:=by
 refine Jt (id hit) fun o ho hc hd=>?_
 unfold Builtin.SmallTypes.nextOf
 refine wpAny_bind (wpAny_callSpecial?_slot (name:=PySem.Str.ofString "__next__") (KBw.iter_typeIs hit) KBw.slot_next
  (wpAny_call_entry KBw.slot_next (KBw.iter_typeIs hit) KBw.entry_next ?_ (KBw.args_next _)))
 refine(?_:wpAny _ _ (field (.ref it) 0 >>= _) _ _ s)
 refine wpAny_bind (wpAny_field ho hd (x:= .bytes b t) rfl ?_)
 refine(?_:wpAny _ _ (if(Value.bytes b t==Value.none)=true then _ else _) _ _ s)
 refine Kh (if_neg (show ¬((Value.bytes b t==Value.none)=true)from Bool.false_ne_true))▸?_
 refine(?_:wpAny _ _ (field (.ref it) 1 >>= _) _ _ s)
 refine wpAny_bind (wpAny_field ho hd (x:= .int i 0) rfl ?_)
 refine wpAny_bind (wpAny_of_eq (a:=b) rfl ?_)
 simp only[Int.toNat_natCast,hx]
 refine wpAny_bind (wpAny_setField ho hd (by simp) (wpAny_bind (wpAny_mkInt (wpAny_pure ⟨_,rfl,wpAny_pure (hQ _ ?_ (Heap.SameBut.update ..))⟩))))
 exact JD _ (Heap.get?_update_self _ ho (Obj.isFreed_of_fields (Obj.data_mapFields hd _))) ((Obj.cls_mapFields ..).trans hc) (by
  rw[Obj.data_mapFields hd];simp[rawInt])
theorem sL {it:Addr}{i:Nat}{Q:Value→Shared→Prop}(hh:A.handled=none)(hit:KBw.IsBytesIter s.heap it b t i)(hx:b[i]?=none)
  (hE:∀h' e,Heap.ExtBut it s.heap h'→(∃o,h'.get? e=some o∧o.cls= .type "StopIteration")→E (.ref e) {s with heap:=h'}):wpAny (model prog w) A (Builtin.SmallTypes.nextOf (.ref it)) Q E s:=by
 refine Jt (id hit) fun o ho hc hd=>?_
 unfold Builtin.SmallTypes.nextOf
 refine wpAny_bind (wpAny_callSpecial?_slot (name:=PySem.Str.ofString "__next__") (KBw.iter_typeIs hit) KBw.slot_next
  (wpAny_call_entry KBw.slot_next (KBw.iter_typeIs hit) KBw.entry_next ?_ (KBw.args_next _)))
 refine(?_:wpAny _ _ (field (.ref it) 0 >>= _) _ _ s)
 refine wpAny_bind (wpAny_field ho hd (x:= .bytes b t) rfl ?_)
 refine(?_:wpAny _ _ (if(Value.bytes b t==Value.none)=true then _ else _) _ _ s)
 refine Kh (if_neg (show ¬((Value.bytes b t==Value.none)=true)from Bool.false_ne_true))▸?_
 refine(?_:wpAny _ _ (field (.ref it) 1 >>= _) _ _ s)
 refine wpAny_bind (wpAny_field ho hd (x:= .int i 0) rfl ?_)
 refine wpAny_bind (wpAny_of_eq (a:=b) rfl ?_)
 simp only[Int.toNat_natCast,hx]
 refine wpAny_bind (wpAny_rule (wpAny_bind (wpAny_setField ho hd (by simp) ?_)))
 refine(?_:wpAny _ _ (newExc (.type "StopIteration") [] >>= _) _ _ _)
 refine wpAny_bind ?_
 simp only[newExc,newTuple]
 refine wpAny_bind (wpAny_newObj_type ?_ (by size_fits))
 refine wpAny_bind (m:=firstArgMember _ _) (wpAny_of_eq (a:=Value.none) (by first|rfl|(simp only[firstArgMember];rfl)) ?_)
 refine wpAny_newObj_type ?_ (by size_fits)
 simp only[raiseNew]
 refine wpAny_bind (wpAny_handled ?_)
 refine Kh (show A.in1.handled=none from hh)▸?_
 refine wpAny_bind (wpAny_pure (wpAny_throw ?_))
 exact hE _ _ (((Heap.SameBut.update ..).extBut.push _).push _) ⟨_,Heap.get?_push_size _ rfl,rfl⟩
theorem nh (hh:A.handled=none)(it:Addr)(b:Array UInt8)(t:Tok):
  Draws prog w A it [it] b.size (fun i v=>∃c u,b[i]?=some c∧v= .int (c.toNat:Int) u) (fun i h=>KBw.IsBytesIter h it b t i) where
 live:=fun _ _ st=>let ⟨o,ho,_⟩:=st;⟨o,ho⟩
 frame:=fun _ _ _ st hk=>let ⟨o,ho,r⟩:=st;⟨o,hk it (by simp) o ho,r⟩
 item:=fun i s Q E hi st hQ=>by
  refine vv st (c:=b[i]) (by simp[hi]) fun h' hit' hs'=>?_
  exact hQ _ h' (s.toks+1) ⟨_,_,by simp[hi],rfl⟩ hit' hs'
 done:=fun s Q E st hE=>sL hh st (by simp) hE
theorem mM (b:Array UInt8)(t:Tok):
  Meets (Builtin.«enumerate.__new__» ⟨[.type "enumerate",.bytes b t],[]⟩) (fun _ R s=>
   R (.ok (.ret (.ref (s.heap.push {cls:= .type "bytes_iterator",data:= .fields #[.bytes b t,.int 0 0]}).objs.size)))
    {s with heap:=(s.heap.push {cls:= .type "bytes_iterator",data:= .fields #[.bytes b t,.int 0 0]}).push {cls:= .type "enumerate",data:= .fields #[.none,.bool false,.ref s.heap.objs.size,rawInt 0,.none,.none]}}):=
 .of_wp fun prog w A R s h=>by
  rcases s with ⟨hp,g,d,tk,os⟩
  have hsub:=sub_enumerate
  wp_walk
  refine wpAny_stack_any fun st=>wpAny_pure ?_
  split
  ·rename_i c _ _ _ _ _
   cases(c==Value.type "enumerate")
   ·wp_walk using KBw.pyIter_bytes
    exact Jl _ rfl h
   ·wp_walk using KBw.pyIter_bytes
    exact Jl _ rfl h
  ·wp_walk using KBw.pyIter_bytes
   exact Jl _ rfl h
theorem oY {Q:Value→Shared→Prop}
  (h:∀h',IsEnum h' (s.heap.objs.size+1) s.heap.objs.size 0 .none→h'=((s.heap.push {cls:= .type "bytes_iterator",data:= .fields #[.bytes b t,.int 0 0]}).push {cls:= .type "enumerate",data:= .fields #[.none,.bool false,.ref s.heap.objs.size,rawInt 0,.none,.none]})→Q (.ref (s.heap.objs.size+1)) {s with heap:=h'}):
  wpAny (model prog w) A (call (.type "enumerate") [.bytes b t]) Q E s:=by
 refine callType_new F.called_enumerate (by decide) (F.typeCall_enumerate_1 _) (F.newCall_enumerate_1 _) (fun obj=>F.args_object_init_2 obj _) F.entry_enumerate_new
  (mM b t) ?_
 have hz:(s.heap.push {cls:= .type "bytes_iterator",data:= .fields #[.bytes b t,.int 0 0]}).objs.size=s.heap.objs.size+1:=Heap.size_push ..
 refine(?_:_∧_)
 refine Kh hz▸?_
 have he:IsEnum ((s.heap.push {cls:= .type "bytes_iterator",data:= .fields #[.bytes b t,.int 0 0]}).push
   {cls:= .type "enumerate",data:= .fields #[.none,.bool false,.ref s.heap.objs.size,rawInt 0,.none,.none]}) (s.heap.objs.size+1) s.heap.objs.size 0 .none:=by
  have:=Heap.get?_push_size (s.heap.push {cls:= .type "bytes_iterator",data:= .fields #[.bytes b t,.int 0 0]})
   (o:={cls:= .type "enumerate",data:= .fields #[.none,.bool false,.ref s.heap.objs.size,rawInt 0,.none,.none]}) rfl
  replace this:=hz▸this;exact this
 exact Jg ⟨_,he,rfl⟩ (h _ he rfl)
end
end
section
noncomputable abbrev il (it:Addr)(i:Int)(old:Value):Obj:={cls:= .type "enumerate",dict:=none,data:= .fields #[.none,.bool false,.ref it,rawInt i,.none,old],slots:=#[]}
section
variable {C:Cx}{ρ ρ':Loc}{φ:List Addr}{imm:Led}{m m':Str→Option Value}{σ σ₁ σ₂:aa}{h h':Heap}{mu prot its:Led}{s:Shared}{E:Value→Shared→Prop}{c:Str}{it e T:Addr}{o o1 o2 o1' o2' oT:Obj}{pos:Pos}
theorem SD.held2 (S:SD (C.holdIt [(e,o1),(it,o2)]) φ imm m σ h mu prot)(he:h'.get? e=some o1')(hi:h'.get? it=some o2')(hT:h'.get? T=some oT)(hTs:T=h.objs.size)
  (hk:∀b o,b≠e→b≠it→h.get? b=some o→h'.get? b=some o):∃p2,SD (C.holdIt [(e,o1'),(it,o2')]) φ ((T,oT)::imm) m σ h' mu p2:=by
 rcases S.P with ⟨sl1,r1,e1,_,sl2,p2,e2,_,hP⟩
 subst e2 e1
 have nd:=S.nd
 have aw:=S.awaySize
 have N:=S.N
 have me:=N (e,{o1 with slots:=sl1}) (by simp)
 have mi:=N (it,{o2 with slots:=sl2}) (by simp)
 have perm:((mu++(imm++(e,({o1 with slots:=sl1}:Obj))::(it,({o2 with slots:=sl2}:Obj))::p2)).map (·.1)).Perm (e::it::(mu++(imm++p2)).map (·.1)):=by
  have a1:=(List.perm_middle (a:=(e,({o1 with slots:=sl1}:Obj))) (l₁:=mu++imm) (l₂:=(it,({o2 with slots:=sl2}:Obj))::p2)).map (·.1)
  have a2:=(List.perm_middle (a:=(it,({o2 with slots:=sl2}:Obj))) (l₁:=mu++imm) (l₂:=p2)).map (·.1)
  simp only[List.append_assoc,List.map_cons]at a1 a2
  exact a1.trans (a2.cons e)
 have nd2:=perm.nodup_iff.mp nd
 rewrite[List.nodup_cons]at nd2;rewrite[List.nodup_cons]at nd2
 refine Jr nd2 ?_;clear nd2;intro n1 n2 n3
 have ne1:∀p∈mu++(imm++p2),p.1≠e:=fun p hp q=>n1 (.tail _ (q▸List.mem_map_of_mem hp))
 have ne2:∀p∈mu++(imm++p2),p.1≠it:=fun p hp q=>n2 (q▸List.mem_map_of_mem hp)
 have hTn:T ∉ e::it::(mu++(imm++p2)).map (·.1):=fun q=>by
  have:=perm.mem_iff.mpr q
  replace this:=hTs▸this
  exact aw.1 (by simpa using this)
 refine⟨(e,o1')::(it,o2')::p2,⟨?_,fun b ob eb=>?_,S.F.above⟩,fun p hp=>?_,?_,S.M.mono (List.prefix_refl _) (fun p hp=>.tail _ hp),⟨o1'.slots,_,rfl,fun _=>rfl,o2'.slots,p2,rfl,fun _=>rfl,hP⟩,S.closed,S.all⟩
 ·refine JK S.F.ns fun oL es ep a rr=>?_
  exact JY oL es ep (hk _ _ (Ne.symm me.2.1) (Ne.symm mi.2.1) a) rr
 ·refine hk b ob (fun q=>?_) (fun q=>?_) (S.F.keep b ob eb)
  ·have h0:C.B.get? e=none:=me.2.2
   have eb:C.B.get? b=some ob:=eb
   replace h0:=eb▸(Kh q▸h0);exact JT h0
  ·have h0:C.B.get? it=none:=mi.2.2
   have eb:C.B.get? b=some ob:=eb
   replace h0:=eb▸(Kh q▸h0);exact JT h0
 ·have hp':p=(T,oT)∨p=(e,o1')∨p=(it,o2')∨p∈mu++(imm++p2):=by
   simp only[List.mem_append,List.mem_cons]at hp ⊢
   rcases hp with hp|(hp|hp)|hp|hp|hp
   ·exact .inr (.inr (.inr (.inl hp)))
   ·exact .inl hp
   ·exact .inr (.inr (.inr (.inr (.inl hp))))
   ·exact .inr (.inl hp)
   ·exact .inr (.inr (.inl hp))
   ·exact .inr (.inr (.inr (.inr (.inr hp))))
  rcases hp' with rfl|rfl|rfl|hp'
  ·exact Jn hT (hTs▸aw.L) (hTs▸aw.B)
  ·exact Jg he me.2
  ·exact Jg hi mi.2
  ·have hm:=N p (by
    simp only[List.mem_append,List.mem_cons]at hp' ⊢
    rcases hp' with hp'|hp'|hp'
    ·exact .inl hp'
    ·exact .inr (.inl hp')
    ·exact .inr (.inr (.inr (.inr hp'))))
   exact Jg (hk _ _ (ne1 p hp') (ne2 p hp') hm.1) hm.2
 ·have perm2:((mu++((T,oT)::imm++(e,o1')::(it,o2')::p2)).map (·.1)).Perm (T::e::it::(mu++(imm++p2)).map (·.1)):=by
   have a1:=(List.perm_middle (a:=(T,oT)) (l₁:=mu) (l₂:=imm++(e,o1')::(it,o2')::p2)).map (·.1)
   have a2:=(List.perm_middle (a:=(e,o1')) (l₁:=mu++imm) (l₂:=(it,o2')::p2)).map (·.1)
   have a3:=(List.perm_middle (a:=(it,o2')) (l₁:=mu++imm) (l₂:=p2)).map (·.1)
   simp only[List.append_assoc,List.map_cons]at a1 a2 a3
   exact a1.trans ((a2.trans (a3.cons e)).cons T)
  exact perm2.nodup_iff.mpr (List.nodup_cons.mpr ⟨hTn,perm.nodup_iff.mp nd⟩)
theorem SD.two (S:SD (C.holdIt [(e,o1),(it,o2)]) φ imm m σ h mu prot)(h1:∃vs,o1.data= .fields vs)(h2:∃vs,o2.data= .fields vs):h.get? e=some o1∧h.get? it=some o2∧e≠it:=by
 rcases S.P with ⟨sl1,r1,e1,f1,sl2,p2,e2,f2,hP⟩
 subst e2 e1
 have me:=S.N (e,{o1 with slots:=sl1}) (by simp)
 have mi:=S.N (it,{o2 with slots:=sl2}) (by simp)
 have k1:=me.1
 have k2:=mi.1
 replace k1:=f1 h1▸k1
 replace k2:=f2 h2▸k2
 refine Jn k1 k2 (fun q=>?_)
 have nd:=S.nd
 simp only[List.map_append,List.map_cons,List.nodup_append,List.nodup_cons]at nd
 exact nd.2.1.2.1.1 (by rewrite[q];exact .head _)
theorem pS {b:List UInt8}{t:Tok}:∀(r:List UInt8) (i:Nat) (old:Value) (o2:Obj),o2.cls= .type "bytes_iterator"→o2.data= .fields #[.bytes b.toArray t,.int i 0]→b.drop i=r→
  bU C e ((r.zipIdx i).map fun(x,k)=>.tup [.int (k:Int),.int (x.toNat:Int)]) [(e,il it i old),(it,o2)] φ imm
 |[],i,old,o2,hc2,hd2,hr=>by
  intro C' ok c1 c2 φ' imm' m σ s mu prot Q E h1 h2 S q
  refine Jr (S.two ⟨_,rfl⟩ ⟨_,hd2⟩) fun g1 g2 g3=>?_
  have hi:b.toArray.size≤i:=by simpa using List.drop_eq_nil_iff.mp hr
  unfold pyNext
  have hT:s.TypeIs (.ref e) "enumerate":=⟨_,g1,rfl⟩
  refine wpAny_bind (wpAny_attempt (wpAny_callSpecial?_slot (name:=Str.ofString "__next__") hT PySem.F.slot_enumerate_next
   (wpAny_call_entry PySem.F.slot_enumerate_next hT PySem.F.entry_enumerate_next ?_ (PySem.F.args_enumerate_next_1 _))))
  refine(?_:wpAny _ _ (field (.ref e) 2 >>= _) _ _ _)
  refine wpAny_bind (wpAny_field g1 rfl (x:= .ref it) rfl ?_)
  refine wpAny_bind (sL (i:=i) (by exact ok.handled) ⟨_,g2,hc2,hd2⟩ (by simpa using hi) fun h' x he' hx'=>?_)
  refine tr hx' ?_;clear hx';intro o ho hc
  refine wpAny_bind (wpAny_isInstance (T:="StopIteration") (b:=true) ⟨o,ho,hc⟩ isSubtype_stop ?_)
  refine Jj (SD.drop (C:=C'.holdIt [(it,_)]) (its:=[(e,_)]) S) fun p1 p2 _ _ S1=>?_
  refine Jf (S1.heldEnd he') fun p3 S2=>?_
  exact wpAny_pure (q h' s.toks p3 S2)
 |x::r,i,old,o2,hc2,hd2,hr=>by
  intro C' ok c1 c2 φ' imm' m σ s mu prot Q E h1 h2 S q
  refine Jr (S.two ⟨_,rfl⟩ ⟨_,hd2⟩) fun g1 g2 g3=>?_
  have hx:b[i]?=some x:=by
   have:=congrArg (·[0]?) hr
   simpa using this
  have hlt:i<b.toArray.size:=by
   have:=(List.getElem?_eq_some_iff.mp hx).1
   simpa using this
  have D:=nh (prog:=pw) (w:=C'.w) (A:=C'.A.in1) ok.handled it b.toArray t
  refine wpAny_pyNext_enum_itemD D g1 ⟨_,g2,hc2,hd2⟩ hlt g3 (by simpa using g3) fun v h' tk hP hO hS hTu hsz hk=>?_
  refine Jw hP ?_;clear hP;intro c u hc κ;subst κ
  have:c=x:=by
   replace hc:=hx▸(List.getElem?_toArray▸hc)
   refine Jk hc ?_;clear hc;intro κ;subst κ;rfl
  subst this
  refine q (.ref s.heap.objs.size) _ fun target Q' E' htar q'=>?_
  refine J9 (htar _ rfl) ?_;intro es k p κ;subst κ
  refine wpAny_letOwnedTupleGo_enum hO fun h'' he'' hs''=>?_
  refine Jt hS ?_;clear hS;intro o2' ho2 hc3 hd3
  have hne:∀b' o',b'≠e→h'.get? b'=some o'→h''.get? b'=some o':=fun b' o' hb hh=>(hs''.2 b' hb).trans hh
  have hTe:s.heap.objs.size≠e:=Nat.ne_of_gt (Heap.lt_size g1)
  have hi2:=hne it _ (Ne.symm g3) ho2
  have ei:((i:Nat):Int)+1=((i+1:Nat):Int):=by exact lA 0x16590220048112c01
  refine Jf (S.held2 (h':=h'') he'' hi2 (hne _ _ hTe hTu) rfl fun b' o' a1 a2 a3=>hne b' o' a1 (hk b' o' a1 a2 a3)) fun p2 S2=>?_
  replace S2:=ei▸S2
  have ih:=pS r (i+1) (.int (c.toNat:Int) u) o2' hc3 hd3 (by
   have:=congrArg List.tail hr
   simpa [List.tail_drop]using this)
  refine q' h'' _ _ ((s.heap.objs.size,{cls:= .type "tuple",data:= .seq #[.int i tk,.int (c.toNat:Int) u]})::imm') p2 (fun _ h=>.tail _ h) S2 ?_ (ih.mono h1 fun p hp=>.tail _ (h2 p hp))
  refine⟨s.heap.objs.size,[.int i tk,.int (c.toNat:Int) u],_,_,rfl,.inl (.head _),rfl,rfl,by refine(?_:2≤sizeLine);refine Kh sizeLine_eq▸?_;exact lI 0x2100000028c42,_,_,rfl,⟨_,rfl⟩,_,_,rfl,⟨_,rfl⟩,rfl⟩
theorem qC {i:Int}{old:Value}:dT C e [(e,il it i old),(it,o2)] φ imm:=by
 intro C' ok c1 c2 φ' imm' m σ s mu prot Q E h1 h2 S q
 refine Jj S.P fun sl1 r1 e1 f1 hP=>?_
 subst e1
 have k1:=(S.N (e,{il it i old with slots:=sl1}) (by simp)).1
 replace k1:=f1 ⟨_,rfl⟩▸k1
 exact wpAny_pyIter_enum k1 q
inductive BytesEx (x:MV)(P:List UInt8→Prop):Prop
 |intro(b:List UInt8) (h:x= .bytes b) (q:P b)
theorem zl (ok:CxOk C)(G:eY C.w.params)(BF:BuiltFacts C.w.params){xp:Pos}{x:PySem.Expr}{QE:MV→aa→Prop}{QL:List MV→aa→Prop}{X:XP}(hs:noStar [x]=true)(hn:cP C.env.scope.names ρ (.ofString "enumerate")=some (.glob (.ofString "enumerate")))(h:WE C ρ x σ QE noX)(h1:∀y σ₁,QE y σ₁→BytesEx y fun l=>QL (gy l) σ₁):
  WI C ρ (.Call (.Name (.ofString "enumerate") xp) [x] [] pos) σ QL X:=by
 intro g K E T P PX
 rw[bW]
 refine wpAny_bind (dJ ok G T.S T.L hn fun fv R=>?_)
 have R:bJ C.w.params (.ofString "enumerate") fv:=R
 have:=BF.one (v:= .type "enumerate") (by simp) R
 subst this
 refine cX (A:=fun vs σ₁=>∃y,vs=[y]∧QE y σ₁) ok (fun _ _ _=>.inr fun a q=>nomatch q) hs (en (A1:=fun y vs σ₁=>vs=[]∧QE y σ₁) ((Bool.not_eq_true' _).mp (bz hs)) h (fun y σ₁ q=>jX ⟨rfl,q⟩) fun y vs σ₁ q=>⟨y,congrArg _ q.1,q.2⟩) T .no fun vs σ₁ g1 rvs q a T1 R1=>?_
 refine tr q ?_;clear q;intro y e q
 subst e
 cases h1 y σ₁ q with
 |intro l e ql=>
  clear q
  subst e
  refine Jm T1.S fun mu prot S1=>?_
  refine tr (mz R1) fun rx e hx=>?_
  rcases ci hx with ⟨hz,t,e'⟩
  subst e e'
  refine oY fun h' he hh=>?_
  subst hh
  have S2:=S1.holdNew {cls:= .type "bytes_iterator",data:= .fields #[.bytes l.toArray t,.int 0 0]}
  have S3:=S2.holdNew {cls:= .type "enumerate",data:= .fields #[.none,.bool false,.ref g1.s.heap.objs.size,rawInt 0,.none,.none]}
  rw[show(g1.s.heap.push {cls:= .type "bytes_iterator",data:= .fields #[.bytes l.toArray t,.int 0 0]}).objs.size=g1.s.heap.objs.size+1 from Heap.size_push ..]at S3
  refine wpAny_pyIter_enum he ?_
  have S4:SD (C.holdIt [(g1.s.heap.objs.size+1,il g1.s.heap.objs.size ((0:Nat):Int) .none),(g1.s.heap.objs.size,{cls:= .type "bytes_iterator",data:= .fields #[.bytes l.toArray t,.int ((0:Nat):Int) 0]})]) g1.φ g1.imm g1.m σ₁ _ mu _:=S3
  exact P (gy l) σ₁ (g1.at g1.imm _ g1.s.toks) _ _ ql (Nat.le_trans (Nat.le_of_eq ((List.length_map ..).trans List.length_zipIdx)) hz) (a.trans .on) ⟨⟨mu,_,S4⟩,T1.L⟩ (pS (t:=t) l 0 .none _ rfl rfl rfl) qC
end
end
section
theorem bD.perm {p p':Led}(hp:p.Perm p'):∀{q:Led},bD p q→∃q',q.Perm q'∧bD p' q':=by
 induction hp with
 |nil=>exact fun{q} h=>⟨q,List.Perm.refl _,h⟩
 |cons x _ ih=>
  rcases x with ⟨a,o⟩
  intro q h
  refine Jj h ?_;clear h;intro sl r e1 ef e2
  refine tr (ih e2) fun r' h1 h2=>?_
  exact⟨_,e1▸h1.cons _,sl,r',rfl,ef,h2⟩
 |swap x y l=>
  rcases x with ⟨a,o⟩
  rcases y with ⟨b,u⟩
  intro q h
  rcases h with ⟨sl,r,e1,ef,sl',r',e2,ef',h2⟩
  subst e2 e1
  exact⟨_,List.Perm.swap ..,sl',_,rfl,ef',sl,r',rfl,ef,h2⟩
 |trans _ _ ih1 ih2=>
  intro q h
  refine tr (ih1 h) fun q1 h1 h2=>?_
  refine tr (ih2 h2) fun q2 h3 h4=>?_
  exact Jl q2 (h1.trans h3) h4
section
variable {C C':Cx}{φ:List Addr}{imm:Led}{m m':Str→Option Value}{σ:aa}{h h':Heap}{mu prot its:Led}
theorem SD.reprot (S:SD C φ imm m σ h mu prot)(hw:C'.w=C.w)(hB:C'.B=C.B)(hL:C'.L=C.L)(hps:C'.pts=C.pts)(hp:C.prot.Perm C'.prot):∃prot',SD C' φ imm m σ h mu prot':=by
 refine tr (S.P.perm hp) fun q h1 h2=>?_
 have pm:(mu++(imm++prot)).Perm (mu++(imm++q)):=(h1.append_left imm).append_left mu
 refine⟨q,by rewrite[hB,hL];exact S.F,fun p hp'=>?_,(pm.map (·.1)).nodup_iff.mp S.nd,by rewrite[hw,hB];exact S.M,h2,by rewrite[hps];exact S.closed,S.all⟩
 refine Kh hB▸?_;refine Kh hL▸?_
 exact S.N p (pm.mem_iff.mpr hp')
end
theorem oW {scope:Scope}{env:Env}(hf:∀x,(x,NameKind.free)∈scope.names→∃c,env.cells.lookup x=some c):∃cl,closureFor scope env=pure cl∧∀x,(x,NameKind.free)∈scope.names→cl.lookup x=env.cells.lookup x:=by
 have key:∀(names:List (Str × NameKind)) (cs:List (Str × Addr)),(∀x,(x,NameKind.free)∈names→∃c,env.cells.lookup x=some c)→
   ∃cl,(forIn names cs (fun(p:Str × NameKind) (r:List (Str × Addr))=>(if(p.2==NameKind.free)=true then do let a ← cellOf env p.1;pure (ForInStep.yield ((p.1,a)::r))else pure (ForInStep.yield r):Sem _))=pure cl)∧
    (∀x,(x,NameKind.free)∈names→cl.lookup x=env.cells.lookup x)∧∀x,(x,NameKind.free) ∉ names→cl.lookup x=cs.lookup x:=by
  intro names
  induction names with
  |nil=>exact fun cs _=>⟨cs,rfl,(fun x hx=>by cases hx),(fun x _=>rfl)⟩
  |cons p names ih=>
   intro cs hf
   rcases p with ⟨n,k⟩
   by_cases hk:k= .free
   ·subst hk
    refine Jf (hf n (.head _)) fun c hc=>?_
    refine Jt (ih ((n,c)::cs) fun x hx=>hf x (.tail _ hx)) fun cl e1 e2 e3=>?_
    refine JD cl ?_ (fun x hx=>?_) (fun x hx=>?_)
    ·rewrite[List.forIn_cons]
     simp only[beq_self_eq_true,if_true]
     have:cellOf env n=pure c:=by unfold cellOf;refine Kh hc▸?_;rfl
     refine Kh this▸?_
     simp only[pure_bind]
     exact e1
    ·by_cases hx':(x,NameKind.free)∈names
     ·exact e2 x hx'
     ·refine Kh (e3 x hx')▸?_
      rcases List.mem_cons.mp hx with q|q
      ·cases q;rewrite[List.lookup_cons];simp[hc]
      ·exact absurd q hx'
    ·have h1:(x,NameKind.free) ∉ names:=fun q=>hx (.tail _ q)
     refine Kh (e3 x h1)▸?_;rewrite[List.lookup_cons]
     have:(x==n)=false:=by simpa using fun e:x=n=>hx (e▸.head _)
     refine Kh this▸?_;rfl
   ·refine Jt (ih cs fun x hx=>hf x (.tail _ hx)) fun cl e1 e2 e3=>?_
    refine JD cl ?_ (fun x hx=>?_) (fun x hx=>e3 x fun q=>hx (.tail _ q))
    ·rewrite[List.forIn_cons]
     have:(k==NameKind.free)=false:=by simpa using hk
     simp only[this,Bool.false_eq_true,if_false,pure_bind]
     exact e1
    ·rcases List.mem_cons.mp hx with q|q
     ·cases q;exact absurd rfl hk
     ·exact e2 x q
 refine Jt (key scope.names [] hf) fun cl e1 e2 _=>?_
 refine Jl cl ?_ e2
 unfold closureFor
 show(forIn scope.names [] _ >>= fun cs=>pure cs)=_
 exact(congrArg (· >>= fun cs=>pure cs) e1).trans (by rfl)
theorem ku {prog:Program}{w:World}{A:Around}{R:Result→Shared→Prop}{s:Shared}{elt target iter:PySem.Expr}{ifs:List PySem.Expr}{scope:Scope}{pos:Pos}{it acc:Value}{env:Env}
  (turn:wpAny (model prog w) A (pyNext it) (fun r s₁=>match r with
   |none=>R (.ok .next) s₁
   |some v=>wpAny (model prog w) A (letOwnedTupleGo target it v) (fun _ s₁'=>wpAny (model prog w) A (assign target env v) (fun _ s₂=>
     wpAny (model prog w) A (forIn ifs true fun c r=>if r=true then do let ok ← isTrue c env (eval c env);pure (ForInStep.yield ok)else pure (ForInStep.yield r)) (fun ok s₃=>
      if ok=true then wpAny (model prog w) A (eval elt env) (fun x s₄=>
       wpAny (model prog w) A (call (.builtin "list.append") [acc,x]) (fun _ s₅=>codeAny (model prog w) A (.compLoop (.ListComp elt [⟨target,iter,ifs,0⟩] scope pos) 0 it acc env) R s₅) (notedBy (model prog w) A env fun e s'=>R (.error e) s') s₄) (notedBy (model prog w) A env fun e s'=>R (.error e) s') s₃
      else codeAny (model prog w) A (.compLoop (.ListComp elt [⟨target,iter,ifs,0⟩] scope pos) 0 it acc env) R s₃) (notedBy (model prog w) A env fun e s'=>R (.error e) s') s₂) (notedBy (model prog w) A env fun e s'=>R (.error e) s') s₁') (notedBy (model prog w) A env fun e s'=>R (.error e) s') s₁) (notedBy (model prog w) A env fun e s'=>R (.error e) s') s):
  codeAny (model prog w) A (.compLoop (.ListComp elt [⟨target,iter,ifs,0⟩] scope pos) 0 it acc env) R s:=by
 refine codeAny_of_tree ?_
 refine(?_:wpAny _ A ((compTurn (.ListComp elt [⟨target,iter,ifs,0⟩] scope pos) 0 it acc env).onRaise (fun x=>do noteFrame x env;theTreesLotGoes x)) _ _ s)
 refine wpAny_noted ?_
 rewrite[compTurn_list]
 refine wpAny_bind (wpAny_standAt (wpAny_bind (wpAny_mono turn (fun r s₁ h₁=>?_) fun _ _ h'=>h')))
 cases r with
 |none=>exact wpAny_pure h₁
 |some v=>
  refine wpAny_bind (wpAny_mono h₁ (fun _ s₁' h₁'=>?_) fun _ _ h'=>h')
  refine wpAny_bind (wpAny_mono h₁' (fun _ s₂ h₂=>wpAny_bind (wpAny_mono h₂ (fun ok s₃ h₃=>?_) fun _ _ h'=>h')) fun _ _ h'=>h')
  cases ok with
  |false=>exact wpAny_pure ⟨rfl,h₃⟩
  |true=>
   exact wpAny_bind (wpAny_bind (wpAny_mono h₃ (fun x s₄ h₄=>wpAny_bind (wpAny_mono h₄ (fun _ s₅ h₅=>wpAny_pure (wpAny_pure ⟨rfl,h₅⟩)) fun _ _ h'=>h')) fun _ _ h'=>h'))
noncomputable def qe (o:Obj)(ys:List Value):Prop:=o.cls= .type "list"∧∃k,o.data= .seq ys.toArray k
section
variable {C:Cx}{ρ ρ':Loc}{σ σ₁ σ₂:aa}{elt target iter:PySem.Expr}{ifs:List PySem.Expr}{scope:Scope}{pos:Pos}{x y v tv:MV}{vs items r acc:List MV}{I:List MV→List MV→aa→Prop}
noncomputable def lZ (C:Cx)(ρ:Loc)(elt:PySem.Expr)(σ:aa)(QY:MV→aa→Prop)(QN:aa→Prop):List PySem.Expr→Prop
 |[]=>WE C ρ elt σ QY noX
 |[t]=>WT C ρ t σ (fun σ₁=>WE C ρ elt σ₁ QY noX) QN
 |_=>False
noncomputable def MC (C:Cx)(ρ:Loc)(target iter:PySem.Expr)(ifs:List PySem.Expr)(elt:PySem.Expr)(scope:Scope)(pos:Pos)(Q:List MV→aa→Prop)(items acc:List MV)(σ:aa):Prop:=
 ∀it its D ys oD g (R:Result→Shared→Prop),qe oD ys→SI ((C.holdIt [(D,oD)]).holdIt its) g.φ g.imm g.m σ g.s.heap→(∀m,LR C g.φ g.imm ρ m)→bU C it items its g.φ g.imm→acc.length+items.length≤sizeLine→Svs C.w.params C.B g.imm acc ys→
 (∀acc' σ' g' zs oD',Q acc' σ'→Le g g'→qe oD' zs→SI (C.holdIt [(D,oD')]) g'.φ g'.imm g'.m σ' g'.s.heap→acc'.length≤sizeLine→Svs C.w.params C.B g'.imm acc' zs→R (.ok .next) g'.s)→
 codeAny (model pw C.w) C.A (.compLoop (.ListComp elt [⟨target,iter,ifs,0⟩] scope pos) 0 (.ref it) (.ref D) C.env) R g.s
theorem z5 (ok:CxOk C){Q:List MV→aa→Prop}(q:Q acc σ):MC C ρ target iter ifs elt scope pos Q [] acc σ:=by
 intro it its D ys oD g R hO S L I hz hv P
 refine Jm S ?_;clear S;intro mu prot S
 exact ku (I (C.holdIt [(D,oD)]) ok.hold rfl rfl g.φ g.imm g.m σ g.s mu prot _ _ (List.prefix_refl _) (fun _ h=>h) S fun h' tk prot' S'=>P acc σ (g.at g.imm h' tk) ys oD q .on hO ⟨mu,prot',S'⟩ hz hv)
theorem nk {D:Addr}{oD:Obj}{ys:List Value}{its:Led}{g:Gh}{rv:Value}{K:Value→Shared→Prop}{E:Value→Shared→Prop}(hO:qe oD ys)
  (S:SI ((C.holdIt [(D,oD)]).holdIt its) g.φ g.imm g.m σ g.s.heap) (hz:ys.length≤sizeLine)
  (hq:∀h' oD',qe oD' (ys++[rv])→SI ((C.holdIt [(D,oD')]).holdIt its) g.φ g.imm g.m σ h'→K .none {g.s with heap:=h'}):wpAny (model pw C.w) C.A (call (.builtin "list.append") [.ref D,rv]) K E g.s:=by
 refine Jm S ?_;clear S;intro mu prot S
 have pm:∀o:Obj,(its++([(D,o)]++C.prot)).Perm ([(D,o)]++(its++C.prot)):=fun o=>List.perm_middle
 refine Jf (S.reprot (C':=(C.holdIt its).holdIt [(D,oD)]) rfl rfl rfl rfl (pm oD)) fun prot2 S2=>?_
 refine Jy S2.heldAt fun sl p2 e hP g1 g2 g3 g4 _=>?_
 rcases hO with ⟨hc,k,hd⟩
 have hl:g.s.heap.IsList D ys.toArray:=⟨_,g1,hc,k,hd⟩
 refine wpAny_list_append hl (fun h' hl' hs=>?_) hz
 rcases hl' with ⟨o',ho',hc',k',hd'⟩
 refine Jf (S2.heldSet hs ho') fun p3 S3=>?_
 refine Jf (S3.reprot (C':=(C.holdIt [(D,o')]).holdIt its) rfl rfl rfl rfl (pm o').symm) fun prot4 S4=>?_
 exact hq h' o' ⟨hc',k',hd'.trans (congrArg (Data.seq · k') (List.push_toArray ..))⟩ ⟨mu,prot4,S4⟩
theorem vC (ok:CxOk C){Q:List MV→aa→Prop}{QY:MV→aa→Prop}{QN:aa→Prop}(ht:eg C.env.scope.names ρ target x=some ρ')
  (h:∀C',CxOk C'→C'.w=C.w→C'.B=C.B→C'.env=C.env→C'.d=C.d→C'.b=C.b→lZ C' ρ' elt σ QY QN ifs)
  (hy:∀y σ₂,QY y σ₂→aL y=true∧MC C ρ target iter ifs elt scope pos Q r (acc++[y]) σ₂) (hn:∀σ₂,QN σ₂→MC C ρ target iter ifs elt scope pos Q r acc σ₂):MC C ρ target iter ifs elt scope pos Q (x::r) acc σ:=by
 intro it its D ys oD g R hO S L I hz hv P
 refine Jm S ?_;clear S;intro mu prot S
 refine ku (I (C.holdIt [(D,oD)]) ok.hold rfl rfl g.φ g.imm g.m σ g.s mu prot _ _ (List.prefix_refl _) (fun _ h=>h) S fun rx s₁ go=>?_)
 refine go target _ _ (kB ht) fun h' tk its' imm1 prot' b1 S1 R1 I1=>?_
 refine j5 (C:=(C.holdIt [(D,oD)]).holdIt its') (g:=g.at imm1 h' tk) ok.hold.hold ⟨⟨mu,prot',S1⟩,(L g.m).mono (List.prefix_refl _) b1⟩ ht R1 fun g2 a T2=>?_
 have a1:Le g g2:=Le.trans (.at b1) a
 have hlen:acc.length+r.length+1≤sizeLine:=hz
 have rest:∀σ₁ g3,WE ((C.holdIt [(D,oD)]).holdIt its') ρ' elt σ₁ QY noX→Le g2 g3→St ((C.holdIt [(D,oD)]).holdIt its') ρ' σ₁ g3→
   wpAny (model pw C.w) C.A (eval elt C.env) (fun x s₄=>wpAny (model pw C.w) C.A (call (.builtin "list.append") [.ref D,x]) (fun _ s₅=>codeAny (model pw C.w) C.A (.compLoop (.ListComp elt [⟨target,iter,ifs,0⟩] scope pos) 0 (.ref it) (.ref D) C.env) R s₅) (notedBy (model pw C.w) C.A C.env fun e s'=>R (.error e) s') s₄)
    (notedBy (model pw C.w) C.A C.env fun e s'=>R (.error e) s') g3.s:=by
  intro σ₁ g3 h3 c T3
  refine h3 g3 _ _ T3 (fun y σ₂ g4 rv q d T4 R4=>?_) .no
  refine Jh (hy y σ₂ q) fun hr hM=>?_
  refine nk (g:=g4) hO T4.S (Nat.le_trans (Nat.le_trans (Nat.le_of_eq hv.length) (Nat.le_trans (Nat.le_add_right _ _) (Nat.le_succ _))) hlen) fun h5 oD5 hO5 S5=>?_
  have e:=(a1.trans c).trans d
  refine hM it its' D (ys++[rv]) oD5 (g4.at g4.imm h5 g4.s.toks) R hO5 S5 (fun m=>(L m).mono e.φ e.imm) (I1.mono ((a.trans c).trans d).φ ((a.trans c).trans d).imm) (by rewrite[List.length_append];refine(?_:acc.length+1+r.length≤_);lia) ((Svs.mono e.imm _ _ hv).append ⟨rv,[],rfl,Rv.simple hr R4,rfl⟩) fun acc' σ' g' zs oD' q f=>P acc' σ' g' zs oD' q (e.trans (Le.on.trans f))
 cases ifs with
 |nil=>exact wpAny_tests_nil (rest σ g2 (h _ ok.hold.hold rfl rfl rfl rfl rfl) .refl T2)
 |cons t ts=>
  cases ts with
  |cons _ _=>exact(h C ok rfl rfl rfl rfl rfl).elim
  |nil=>
   refine wpAny_tests_one ((h ((C.holdIt [(D,oD)]).holdIt its') ok.hold.hold rfl rfl rfl rfl rfl) g2 _ _ T2 ⟨fun σ₁ g3 q c T3=>rest σ₁ g3 q c T3,fun σ₁ g3 q c T3=>?_⟩)
   have e:=a1.trans c
   exact hn σ₁ q it its' D ys oD g3 R hO T3.S (fun m=>(L m).mono e.φ e.imm) (I1.mono (a.trans c).φ (a.trans c).imm) (Nat.le_trans (Nat.le_succ _) hlen) (Svs.mono e.imm _ _ hv) fun acc' σ' g' zs oD' q f=>P acc' σ' g' zs oD' q (e.trans f)
theorem z6 (ok:CxOk C)(turn:∀x r acc σ,I (x::r) acc σ→OptEx (eg C.env.scope.names ρ target x) fun ρ₁=>∀C',CxOk C'→C'.w=C.w→C'.B=C.B→C'.env=C.env→C'.d=C.d→C'.b=C.b→lZ C' ρ₁ elt σ (fun y σ₂=>aL y=true∧I r (acc++[y]) σ₂) (I r acc) ifs):
  ∀items acc σ,I items acc σ→MC C ρ target iter ifs elt scope pos (I []) items acc σ:=by
 intro items
 induction items with
 |nil=>exact fun acc σ q=>z5 ok q
 |cons x r ih=>exact fun acc σ q=>(turn x r acc σ q).elim fun ρ₁ e h=>vC ok e h (fun y σ₂ q=>⟨q.1,ih _ _ q.2⟩) fun σ₂ q=>ih _ _ q
end
end
section
theorem mP {f:Str→NameKind→NameKind}{x:Str}{names:aV}:(names.map fun p=>(p.1,f p.1 p.2)).lookup x=(names.lookup x).map (f x):=by
 induction names with
 |nil=>rfl
 |cons p r ih=>
  by_cases e:x=p.1
  ·subst e
   exact bc.trans (congrArg (Option.map (f p.1)) (bc (l:=r) (v:=p.2)).symm)
  ·exact(aX e).trans (ih.trans (congrArg (Option.map (f x)) (aX (l:=r) (v:=p.2) e).symm))
theorem mA (sc names:aV):bF sc names=names.map fun(n,k)=>(n,if k== .free&&sc.lookup n==some .cell then .cell else k):=by
 unfold bF
 refine List.map_congr_left fun p _=>?_
 rcases p with ⟨n,k⟩
 simp only
 split<;>rfl
theorem jF {scope:Scope}{env:Env}(hk:env.scope.kind= .function):(relabel scope env).names=bF env.scope.names scope.names:=by
 unfold relabel bF Env.kindOf
 simp only[hk,beq_self_eq_true,Bool.and_true]
theorem jo {sc:Scope}{x:Str}{w:MV}(h:(b9 sc).lookup x=some w):w= .undef∧(x,NameKind.local)∈sc.names:=by
 refine tr (List.mem_filterMap.mp (mem_of_lookup h)) fun p hy hf=>?_
 have hf:(if p.2==NameKind.local then some (p.1,MV.undef)else none)=some (x,w):=hf
 refine cv hf fun hk e=>?_
 refine Jh (Prod.mk.inj e) fun e1 e2=>?_
 exact Jg e2.symm (e1▸eq_of_beq hk▸hy)
theorem jR {sc:Scope}{x:Str}(h:(x,NameKind.local)∈sc.names):∃w,(b9 sc).lookup x=some w:=
 Option.isSome_iff_exists.mp (kc (List.mem_map_of_mem (f:=(·.1)) (List.mem_filterMap.mpr ⟨_,h,rfl⟩:(x,MV.undef)∈b9 sc)))
theorem bU.cx {C C':Cx}{it:Addr}(hw:C'.w=C.w)(hB:C'.B=C.B){l:List MV}:∀{its:Led}{φ:List Addr}{imm:Led},bU C it l its φ imm→bU C' it l its φ imm:=by
 induction l with
 |nil=>exact fun I K ok c1 c2=>I K ok (c1.trans hw) (c2.trans hB)
 |cons x r ih=>
  intro its φ imm I K ok c1 c2 φ' imm' m σ s mu prot Q E h1 h2 S q
  exact I K ok (c1.trans hw) (c2.trans hB) φ' imm' m σ s mu prot Q E h1 h2 S fun v s₁ go=>q v s₁ fun target Q' E' ht q'=>go target Q' E' ht fun h' tk its' imm'' prot' b S1 R1 I1=>q' h' tk its' imm'' prot' b S1 R1 (ih I1)
structure CompF (sc:aV)(ρ:Loc)(scope:Scope):Prop where
 kind:scope.kind= .function
 look:∀x k,(x,k)∈scope.names→scope.names.lookup x=some k
 cell:∀p∈scope.names,p.2≠.cell
 free:∀x,(x,NameKind.free)∈scope.names→(sc.lookup x=some .cell∨sc.lookup x=some .free)∧x≠"__classdict__"∧∃v,ρ.lookup x=some v∧v≠.undef
 glob:∀x,(x,NameKind.globalImplicit)∈scope.names→ρ.lookup x=none
 kinds:∀x k,(x,k)∈scope.names→k= .local∨k= .free∨k= .globalImplicit
theorem tS {sc:aV}{ρ:Loc}{scope:Scope}(h:oU sc ρ scope=true):CompF sc ρ scope:=by
 have h2:∀p∈scope.names,(scope.names.lookup p.1==some p.2&&s7 sc ρ p.1 p.2)=true:=List.all_eq_true.mp (a9 h)
 refine⟨eq_of_beq (bz h),fun x k hm=>eq_of_beq (bz (h2 _ hm)),fun p hp q=>?_,fun x hm=>?_,fun x hm=>Option.isNone_iff_eq_none.mp (a9 (h2 _ hm)),fun x k hm=>?_⟩
 ·have h3:=a9 (h2 p hp)
  rw[q]at h3
  exact Jq h3
 ·have h3:tI sc ρ x=true:=a9 (h2 _ hm)
  refine Jn ((Bool.or_eq_true_iff.mp (bz h3)).imp eq_of_beq eq_of_beq) (bne_iff_ne.mp (bz (a9 h3))) (io (a9 (a9 h3)) (fun _ e=>Jq e) fun v e hv=>⟨v,e,fun q=>?_⟩)
  subst q;exact Jq hv
 ·have h3:=a9 (h2 _ hm)
  cases k with
  |«local»=>exact .inl rfl
  |free=>exact .inr (.inl rfl)
  |globalImplicit=>exact .inr (.inr rfl)
  |_=>exact Jq h3
section
variable {C:Cx}{ρ ρ':Loc}{σ σ₁ σ₂:aa}{elt target iter:PySem.Expr}{ifs:List PySem.Expr}{scope:Scope}{pos:Pos}{φ:List Addr}{imm:Led}{m m':Str→Option Value}{h h':Heap}{mu prot:Led}
noncomputable def Cx.inner (C:Cx)(env:Env)(L:Addr)(oL:Obj):Cx:={C with env:=env,L:=L,prot:=(C.L,oL)::C.prot}
theorem SD.outComp {env:Env}{L' D:Addr}{oL oD:Obj}{φ0:List Addr}{imm0:Led}{σ0:aa}{h0 h'':Heap}{mu0 prot0:Led}(S0:SD C φ0 imm0 m σ0 h0 mu0 prot0)(hL:h0.get? C.L=some oL)
  (S:SD ((C.inner env L' oL).holdIt [(D,oD)]) φ imm m' σ h' mu prot) (hs:Heap.SameBut L' h' h''):∃sl p2,SD C φ ((D,{oD with slots:=sl})::imm) m σ h'' mu p2:=by
 rcases S.P with ⟨sl,r1,e1,_,sl',p2,e2,_,hP⟩
 subst e2 e1
 have P:=(ic (mu:=mu) (imm:=imm) (prot:=(C.L,{oL with slots:=sl'})::p2) (x:=(D,{oD with slots:=sl}))).trans (((ic (x:=(C.L,{oL with slots:=sl'}))).cons _).trans (List.Perm.swap ..))
 have P2:(mu++((D,({oD with slots:=sl}:Obj))::imm++p2)).Perm ((D,{oD with slots:=sl})::(mu++(imm++p2))):=List.perm_middle
 have hget:∀p,p∈mu++(imm++(D,({oD with slots:=sl}:Obj))::(C.L,({oL with slots:=sl'}:Obj))::p2)→h''.get? p.1=some p.2:=fun p hp=>(hs.2 p.1 (S.N p hp).2.1).trans (S.N p hp).1
 have nd:=List.nodup_cons.mp ((P.map (·.1)).nodup_iff.mp S.nd)
 have sub:∀p∈mu++((D,({oD with slots:=sl}:Obj))::imm++p2),p∈mu++(imm++(D,({oD with slots:=sl}:Obj))::(C.L,({oL with slots:=sl'}:Obj))::p2):=fun p hp=>P.mem_iff.mpr (.tail _ (P2.mem_iff.mp hp))
 refine⟨sl,p2,⟨?_,fun b o eb=>?_,S0.F.above⟩,fun p hp=>⟨hget p (sub p hp),fun e=>nd.1 (e▸List.mem_map_of_mem (f:=(·.1)) (P2.mem_iff.mp hp)),(S.N p (sub p hp)).2.2⟩,(P2.map (·.1)).nodup_iff.mpr nd.2,S.M.mono (List.prefix_refl _) (fun p hp=>.tail _ hp),hP,S.closed,S.all⟩
 ·refine JJ S0.F.ns fun o es ep ho hd r=>?_
  have:=Option.some.inj (hL.symm.trans ho)
  subst this
  exact JU _ es ep (hget (C.L,{oL with slots:=sl'}) (P.mem_iff.mpr (.head _))) hd r
 ·exact(hs.2 b fun q=>absurd (Heap.lt_size eb) (Nat.not_lt.mpr (q▸S.F.above))).trans (S.F.keep b o eb)
theorem kn (K:CompF C.env.scope.names ρ scope)(L:LR C φ imm ρ m){x:Str}(hx:(x,NameKind.free)∈scope.names){v:MV}(hv:ρ.lookup x=some v)(hu:v≠.undef):∃c o rv,C.env.cells.lookup x=some c∧(c,o)∈imm∧o.data= .cell (some rv)∧Rv C.w.params C.B φ imm v rv:=by
 have key:∀kk,C.env.scope.names.lookup x=some kk→kk≠.local→∃c o rv,C.env.cells.lookup x=some c∧(c,o)∈imm∧o.data= .cell (some rv)∧Rv C.w.params C.B φ imm v rv:=fun kk h1 h2=>
  (L x v kk hv h1).elim (fun h=>absurd h.1 h2) fun h=>h.2 hu
 exact(K.free x hx).1.elim (fun h=>key _ h (fun q=>nomatch q)) fun h=>key _ h (fun q=>nomatch q)
theorem LR.inner {env:Env}{L':Addr}{oL:Obj}(K:CompF C.env.scope.names ρ scope)(L:LR C φ imm ρ m){cl:List (Str × Addr)}(hcl:∀x,(x,NameKind.free)∈scope.names→cl.lookup x=C.env.cells.lookup x)
  (hn:env.scope.names=bF C.env.scope.names scope.names) (hc:env.cells=cl):∀m',LR (C.inner env L' oL) φ imm (b9 scope++ρ) m':=by
 intro m' x v k hx hk
 have hk:(bF C.env.scope.names scope.names).lookup x=some k:=hn▸hk
 rw[mA]at hk
 refine tr (Option.map_eq_some_iff.mp ((mP (f:=fun n k=>if k== .free&&C.env.scope.names.lookup n==some .cell then NameKind.cell else k)).symm.trans hk)) fun k0 h0 hk=>?_
 have hm:=mem_of_lookup h0
 have hx:=iX.symm.trans hx
 have hundef:∀w,(b9 scope).lookup x=some w→v= .undef∧k0= .local:=fun w hw=>by
  refine Jh (jo hw) fun q1 q2=>?_
  exact Jg ((Option.some.inj ((congrArg (Option.or · _) hw).symm.trans hx)).symm.trans q1) (Option.some.inj (h0.symm.trans (K.look x _ q2)))
 have hnone:k0≠.local→ρ.lookup x=some v:=fun hl=>by
  refine Js (o:=(b9 scope).lookup x) (fun hw=>?_) fun w hw=>?_
  ·try refine Kh hw▸?_
   exact(congrArg (Option.or · _) hw).symm.trans hx
  ·try refine Kh hw▸?_
   exact absurd (hundef w hw).2 hl
 rcases K.kinds x k0 hm with e|e|e
 ·subst e
  refine Jf (jR hm) fun w hw=>?_
  exact .inl ⟨hk.symm,fun hu=>absurd (hundef w hw).1 hu⟩
 ·subst e
  have hv:=hnone (fun q=>nomatch q)
  refine Jr (K.free x hm) fun f1 f2 f3=>?_
  refine .inr ⟨?_,fun hu=>?_⟩
  ·rcases f1 with f1|f1
   ·exact .inl (hk.symm.trans (congrArg (fun o:Option NameKind=>if(NameKind.free==NameKind.free&&o==some NameKind.cell)=true then NameKind.cell else NameKind.free) f1))
   ·exact .inr ⟨hk.symm.trans (congrArg (fun o:Option NameKind=>if(NameKind.free==NameKind.free&&o==some NameKind.cell)=true then NameKind.cell else NameKind.free) f1),f2⟩
  ·refine JK (kn K L hm hv hu) fun c o rv a1 a2=>?_
   exact JY c o rv (hc▸(hcl x hm).trans a1) a2
 ·subst e
  exact nomatch (K.glob x hm).symm.trans (hnone (fun q=>nomatch q))
theorem CxOk.inner {cenv:Env}{L':Addr}{oL:Obj}(ok:CxOk C)(h1:cenv.scope.kind= .function)(h2:cenv.locals=L')(h3:cenv.globals=mainGlobals)(h4:cenv.builtins=builtinsNs)(hL:∀vs,oL.data≠.fields vs):CxOk (C.inner cenv L' oL):=
 ⟨ok.K,ok.T,ok.handled,ok.frames,ok.depth,ok.units,h1,h2,h3,h4,ok.bOk,fun e he=>by
  rcases ok.framesOk e he with ⟨k1,l,k2,k3⟩
  exact⟨k1,l,k2,.inr (k3.elim (fun q=>⟨oL,q▸.head _,hL⟩) fun h=>h.imp fun o h=>⟨.tail _ h.1,h.2⟩)⟩⟩
inductive CompEx (C:Cx)(ρ:Loc)(target elt:PySem.Expr)(ifs:List PySem.Expr)(scope:Scope)(l:List MV)(σ:aa)(Q:MV→aa→Prop):Prop
 |intro(I:List MV→List MV→aa→Prop) (start:I l [] σ)
   (turn:∀C',CxOk C'→C'.w=C.w→C'.B=C.B→C'.env.scope.names=bF C.env.scope.names scope.names→C'.d=C.d→C'.b=C.b→∀x r acc σ,I (x::r) acc σ→OptEx (eg C'.env.scope.names (b9 scope++ρ) target x) fun ρ₁=>∀C2,CxOk C2→C2.w=C'.w→C2.B=C'.B→C2.env=C'.env→C2.d=C'.d→C2.b=C'.b→lZ C2 ρ₁ elt σ (fun y σ₂=>aL y=true∧I r (acc++[y]) σ₂) (I r acc) ifs)
   (fin:∀acc σ₂,I [] acc σ₂→(acc.length≤ai∧noRefs acc=true)∧Q (.list acc) σ₂)
theorem nN {QL:List MV→aa→Prop}{Q:MV→aa→Prop}{X:XP}(ok:CxOk C)(hok:oU C.env.scope.names ρ scope=true)(hs:kg iter=false)(h1:WI C ρ iter σ QL X)
  (h2:∀l σ₁,QL l σ₁→CompEx C ρ target elt ifs scope l σ₁ Q):WE C ρ (.ListComp elt [⟨target,iter,ifs,0⟩] scope pos) σ Q X:=by
 intro g Kc E T P PX
 have K:=tS hok
 refine tr (oW (scope:=scope) (env:=C.env) fun x hx=>by
  rcases K.free x hx with ⟨_,_,v,f3,f4⟩
  exact(kn K T.L hx f3 f4).imp fun c h=>h.elim fun _ h=>h.elim fun _ h=>h.1) fun cl hcl1 hcl2=>?_
 rw[eval_ListComp]
 refine wpAny_comprehension_free (use:=none) rfl (kp hs) hcl1 K.kind (fun x hx hl=>hl▸K.look x.1 x.2 hx) ?_
 refine h1 g _ E T (fun l σ₁ g1 it its q hz a T1 I1 I2=>?_) PX
 cases h2 l σ₁ q with
 |intro I start turn fin=>
 refine Jm T1.S fun mu prot S1=>?_
 have S2:=S1.holdNew {cls:= .type "list",data:= .seq ([]:List Value).toArray}
 generalize hH2:g1.s.heap.push {cls:= .type "list",data:= .seq ([]:List Value).toArray}=H2 at S2
 refine Jj S2.drop fun _ _ _ _ S2a=>?_
 refine Jj S2a.drop fun _ p0 _ _ S0=>?_
 refine JQ S0.F.ns fun oL es ep hL hLd hLk hLf=>?_
 have hLdat:∀vs,oL.data≠.fields vs:=fun vs q=>nomatch hLd.symm.trans q
 refine wpAny_newObj_type (wpAny_newFunctionEnv K.cell (fun y hy=>nomatch hy) (fun h3 hns3 hsb3=>?_) K.kind) (by size_fits)
 dsimp only at hns3 hsb3 ⊢
 rw[hH2]at hns3 hsb3 ⊢
 have keep:∀b o,H2.get? b=some o→h3.get? b=some o:=fun b o e=>hsb3.extBut b o (Nat.ne_of_lt (Heap.lt_size e)) (Heap.get?_push_of_some _ e)
 generalize hE:({newEnv scope H2.objs.size C.env.globals cl C.env.qual none Value.none (some C.env) builtinsNs with scope:=relabel scope C.env}:Env)=cenv
 have henv1:cenv.scope.names=bF C.env.scope.names scope.names:=hE▸jF ok.kind
 have henv6:cenv.cells=cl:=hE▸rfl
 have ok':CxOk (C.inner cenv H2.objs.size oL):=ok.inner (hE▸K.kind) (hE▸rfl) (hE▸ok.globals) (hE▸ok.builtins) hLdat
 have S3:=S2.enter (env:=cenv) (L:=H2.objs.size) (ps:=C.pts) (b:=C.b) (d:=C.d) hL (Nat.le_refl _) hns3 keep (cells:=[]) (fun p hp=>nomatch hp) (fun p hp=>nomatch hp) List.nodup_nil (fun n hn=>S2.closed n hn)
 refine Jf (S3.reprot (C':=((C.inner cenv H2.objs.size oL).holdIt [(g1.s.heap.objs.size,{cls:= .type "list",data:= .seq ([]:List Value).toArray})]).holdIt its) rfl rfl rfl rfl (by
  refine List.Perm.trans ?_ List.perm_middle.symm
  exact(List.Perm.swap ..).trans (List.Perm.cons _ (List.perm_middle (a:=(C.L,oL)) (l₁:=its) (l₂:=C.prot)).symm))) fun prot4 S4=>?_
 have L':=LR.inner (env:=cenv) (L':=H2.objs.size) (oL:=oL) K T1.L hcl2 henv1 henv6
 have loop:codeAny (model pw C.w) C.A (.compLoop (.ListComp elt [⟨target,iter,ifs,0⟩] scope pos) 0 (.ref it) (.ref g1.s.heap.objs.size) cenv) (compPost (model pw C.w) C.A E none Kc (.ref g1.s.heap.objs.size) H2.objs.size) {g1.s with heap:=h3}:=by
  refine z6 (I:=I) ok' (turn _ ok' rfl rfl henv1 rfl rfl) l [] σ₁ start it its g1.s.heap.objs.size [] _ ⟨g1.φ,g1.imm,_,{g1.s with heap:=h3}⟩ _ ⟨rfl,0,rfl⟩ ⟨mu,prot4,S4⟩ L' (bU.cx (C:=C) (C':=C.inner cenv H2.objs.size oL) rfl rfl I1) (Nat.le_trans (Nat.le_of_eq (Nat.zero_add _)) hz) rfl fun acc σ5 g5 zs oD q b hO S5 hz5 R5=>?_
  refine Jh (fin acc σ5 q) ?_;intro κ;refine Jh κ ?_;clear κ;intro f1 f2;intro f3
  refine Jm S5 ?_;clear S5;intro mu5 prot5 S5
  refine Jl g5.m S5.F.ns (fun h6 hs6=>?_)
  refine Jm (SD.outComp (C:=C) (m:=g1.m) S0 hL S5 hs6) fun sl p6 S6=>?_
  rcases hO with ⟨hO1,k,hO2⟩
  have bl:Le g1 ⟨g5.φ,(g1.s.heap.objs.size,{oD with slots:=sl})::g5.imm,g1.m,{g5.s with heap:=h6}⟩:=⟨b.φ,fun p hp=>.tail _ (b.imm p hp),congrArg (fun s:Shared=>{s with heap:=h6}) b.like⟩
  exact P _ _ _ _ f3 (a.trans bl) ⟨⟨mu5,p6,S6⟩,T1.L.mono bl.φ bl.imm⟩ (Sv.toRv ⟨_,zs,_,k,rfl,.inl (.head _),hO1,hO2,hz5,Svs.mono (fun p hp=>.tail _ hp) _ _ R5⟩)
 exact codeAny_compStart_list loop (I2 ((C.inner cenv H2.objs.size oL).holdIt [(g1.s.heap.objs.size,{cls:= .type "list",data:= .seq ([]:List Value).toArray})]) ok'.hold rfl rfl g1.φ g1.imm _ _ {g1.s with heap:=h3} mu prot4 _ _ (List.prefix_refl _) (fun _ h=>h) S4 loop)
end
end
theorem fK {α β:Type}{f g:α→β}{l:List α}(h:l.map f=l.foldr (fun x t=>g x::t) []):∀x∈l,f x=g x:=by
 induction l with
 |nil=>exact fun _ q=>nomatch q
 |cons x l ih=>exact List.forall_mem_cons.mpr ⟨(List.cons.inj h).1,ih (List.cons.inj h).2⟩
theorem mQ {α κ β:Type}[BEq κ][LawfulBEq κ]{f:α→κ × β}{l:List α}{x:κ}{v:β}(h:(l.map f).lookup x=some v):∃r∈l,f r=(x,v):=by
 induction l with
 |nil=>exact Ji h
 |cons p l ih=>
  have h:(List.lookup x ((f p)::l.map f))=some v:=h
  rewrite[show f p=((f p).1,(f p).2)from rfl,List.lookup_cons]at h
  refine J3 (o:=x==(f p).1) (fun e=>?_) fun e=>?_;rotate_left
  ·try refine Kh e▸?_
   rewrite[e]at h;exact Jl p (.head _) (Prod.ext (beq_iff_eq.mp e).symm (Option.some.inj h))
  ·try refine Kh e▸?_
   rewrite[e]at h;exact(ih h).elim fun r q=>⟨r,.tail _ q.1,q.2⟩
noncomputable def oM (A:Arguments)(sc:Scope):Bool:=A.posonlyargs.isEmpty&&(A.kwonlyargs.isEmpty&&(A.vararg.isNone&&(A.kwarg.isNone&&(sc.kind== .function&&(!sc.isCoroutine&&(!sc.isGenerator
 &&(sc.names.all (fun p=>sc.names.lookup p.1==some p.2)&&(decide (A.args.map (·.arg)).Nodup
 &&((A.args.map (·.arg)).all (fun n=>sc.names.lookup n==some .local||(sc.names.lookup n==some .cell&&((cellsFrom 0 sc.names []).map (·.1)).contains n))&&decide ((cellsFrom 0 sc.names []).map (·.1)).Nodup)))))))))
theorem cw {a b:Bool}{p G:Prop}(h:(a&&b)=true)(k:b=true→p→G)(e:a=true→p):G:=
 match a,h with
 |true,h=>k h (e rfl)
theorem lf {b:Bool}(h:(!b)=true):b=false:=match b,h with
 |false,_=>rfl
theorem m9 {A:Arguments}{sc:Scope}(h:oM A sc=true):FunOk A sc:=
 cw h (fun h h1=>cw h (fun h h2=>cw h (fun h h3=>cw h (fun h h4=>cw h (fun h h5=>cw h (fun h h6=>cw h (fun h h7=>cw h (fun h h8=>cw h (fun h h9=>cw h (fun h h10=>
  ⟨h1,h2,h3,h4,h5,h6,h7,h8,h9,fun n hn=>(Bool.or_eq_true_iff.mp (h10 n hn)).imp beq_iff_eq.mp fun q=>cw q (fun q p=>⟨p,List.contains_iff_mem.mp q⟩) beq_iff_eq.mp,of_decide_eq_true h⟩)
  List.all_eq_true.mp) of_decide_eq_true) (fun e p hp=>beq_iff_eq.mp (List.all_eq_true.mp e p hp))) lf) lf) beq_iff_eq.mp) Option.isNone_iff_eq_none.mp) Option.isNone_iff_eq_none.mp) List.isEmpty_iff.mp) List.isEmpty_iff.mp
noncomputable def tJ (nm qn:String)(x:Arguments × List Stmt × Scope)(dV pm:Value)(a:Nat):Obj:=⟨VT "function",none,.func (fnX (.ofString nm) (.ofString qn) x.1 x.2.1 x.2.2 [] dV VN VN pm none (VR (a-1)) VN),⟨[]⟩⟩
noncomputable def BR (i:Nat):Value:=if i≤11 then VS "threepress.bits" 272 else if i≤21 then VS "threepress.fse" 480 else VS "law_tg0037_01" 599
noncomputable def fr:List ((Nat × Nat) × String):=[((7,85),"need_count"),((8,92),"need_value"),((9,99),"end_of"),((15,254),"places_of"),((16,259),"counts_fault"),((18,306),"read_counts"),((19,313),"write_upto"),((20,320),"write_run"),((21,327),"write_counts"),
 ((23,334),"_law_box"),((24,341),"_law_take"),((25,348),"_law_drawn"),((26,355),"_law_row"),((27,362),"_law_items"),((28,369),"_law_word"),((29,376),"_law_told"),((30,383),"_law_walked"),((31,388),"_law_whole"),((32,393),"_law_octets"),((33,400),"_law_read"),((34,407),"_law_again_right"),
 ((35,412),"_law_written_right"),((36,417),"_law_bent"),((37,424),"_law_parts_right"),((38,431),"_law_built_right"),((39,438),"_law_let_right"),((40,443),"_law_any_right"),((41,450),"law")]
theorem Hw (P:Params):∀r∈fr,((KF P).lookup r.1.2,nsIn (KF P) mainGlobals (.ofString r.2),keepIn (KF P) (.ref r.1.2),codeIn (KF P) (VR (r.1.2-1)) (.ofString r.2),oM (ah r.1.1).1 (ah r.1.1).2.2,(ah r.1.1).1.defaults.isEmpty)
  =(some (tJ r.2 r.2 (ah r.1.1) VN (BR r.1.1) r.1.2),some (some (.ref r.1.2)),true,true,true,true):=fK (by kernel_rfl)
theorem AZ:bw=fr.map (fun r=>(Str.ofString r.2,ah r.1.1)):=by kernel_rfl
theorem f0 (P:Params):FunFacts P:=⟨fun g A body sc h=>by
 refine tr (mQ (AZ▸h)) fun r hm e=>?_
 have q:=Hw P r hm
 have q2:=(Prod.ext_iff.mp q).2
 have q3:=(Prod.ext_iff.mp q2).2
 have q4:=(Prod.ext_iff.mp q3).2
 have q5:=(Prod.ext_iff.mp q4).2
 have e1:=(Prod.ext_iff.mp e).1
 have e2:ah r.1.1=(A,body,sc):=(Prod.ext_iff.mp e).2
 subst e1
 rewrite[e2]at q q5
 exact JP r.1.2 ((Prod.ext_iff.mp q2).1) ((Prod.ext_iff.mp q3).1) (.mk _ _ _ _ _ _ _ _ _ _ _ (Prod.ext_iff.mp q).1 (Prod.ext_iff.mp q4).1) (m9 (Prod.ext_iff.mp q5).1) (List.isEmpty_iff.mp (Prod.ext_iff.mp q5).2)⟩
theorem ud (P:Params):∀p∈f8,(nsIn (KF P) mainGlobals p.1,bootBuiltins p.1,dP p.1,p.1==("__name__":Str))=(some none,some p.2,none,false):=fK (by kernel_rfl)
theorem dj (P:Params):BuiltFacts P:=⟨fun g v h=>⟨(Prod.ext_iff.mp (ud P _ h)).1,(Prod.ext_iff.mp (Prod.ext_iff.mp (ud P _ h)).2).1⟩⟩
noncomputable def Hy:Option Int→Value→Bool
 |none,_=>true
 |some i,.int j _=>i==j
 |some _,_=>false
theorem vY {o:Option Int}{v:Value}(h:Hy o v=true):∀i,o=some i→∃t,v= .int i t:=fun i e=>by
 subst e
 cases v with
 |int j t=>exact Jo t (congrArg (Value.int · t) (beq_iff_eq.mp h).symm)
 |_=>exact absurd h Bool.false_ne_true
noncomputable def gl:List (String × Value):=fr.map (fun r=>(r.2,.ref r.1.2))++[("LEAST_LOG",.int 5 482),("MOST_LOG",.int 20 484),("LowWriter",.ref 165),("Octets",.ref 243),("CountBits",.ref 297),("BadTable",.ref 64),("CutShort",.ref 52)]
theorem tG (P:Params):∀p∈gl,(nsIn (KF P) mainGlobals (.ofString p.1),Hy (dP (.ofString p.1)) p.2)=(some (some p.2),true):=fK (by kernel_rfl)
theorem AY:(cV.all fun x=>(gl.map fun p=>Str.ofString p.1).contains x||f8.any fun p=>p.1==x)=true:=by kernel_rfl
theorem AX:(cV.all fun x=>!(x==("__debug__":Str)))=true:=by kernel_rfl
theorem dv (P:Params):eY P:=⟨fun x h=>(Bool.or_eq_true_iff.mp (List.all_eq_true.mp AY x (List.contains_iff_mem.mp h))).elim
  (fun q=>(List.mem_map.mp (List.contains_iff_mem.mp q)).elim fun p q=>q.2▸⟨p.2,.inl (Prod.ext_iff.mp (tG P p q.1)).1,vY (Prod.ext_iff.mp (tG P p q.1)).2⟩)
  (fun q=>(List.any_eq_true.mp q).elim fun p q=>(beq_iff_eq.mp q.2)▸have r:=Prod.ext_iff.mp (ud P p q.1);have r2:=Prod.ext_iff.mp r.2;have r3:=Prod.ext_iff.mp r2.2
   ⟨p.2,.inr ⟨r.1,ne_of_beq_false r3.2,r2.1⟩,fun i e=>absurd (r3.1.symm.trans e) nofun⟩),
 fun x h=>lf (List.all_eq_true.mp AX x (List.contains_iff_mem.mp h))⟩
theorem y6 (P:Params){n:String}{a:Nat}(h:(n,Value.ref a)∈gl):ce P (Str.ofString n) a:=(Prod.ext_iff.mp (tG P _ h)).1
theorem dz (P:Params):ce P (Str.ofString "BadTable") 64:=y6 P (List.mem_append_right _ (.tail _ (.tail _ (.tail _ (.tail _ (.tail _ (.head _)))))))
theorem dw (P:Params):ce P (Str.ofString "CutShort") 52:=y6 P (List.mem_append_right _ (.tail _ (.tail _ (.tail _ (.tail _ (.tail _ (.tail _ (.head _))))))))
theorem tK (P:Params):ExcFacts P:=⟨⟨_,dz P⟩,⟨_,dw P⟩,fun a h=>ce.one (dz P) h▸by kernel_rfl,fun a h=>ce.one (dw P) h▸by kernel_rfl,fun a b h h2=>ce.one (dz P) h▸ce.one (dw P) h2▸by kernel_rfl⟩
noncomputable def zY:Option (Option Value)→Bool
 |some none=>true
 |_=>false
theorem vu {o:Option (Option Value)}(h:zY o=true):o=some none:=by
 cases o with
 |none=>exact Jq h
 |some w=>
  cases w with
  |none=>rfl
  |some v=>exact Jq h
noncomputable def cr:List (String × Nat):=[("LowWriter",165),("Octets",243),("CountBits",297)]
theorem y4 (P:Params):∀r∈cr,(nsIn (KF P) mainGlobals (.ofString r.1),findIn (KF P) (.ref r.2) "__setattr__",plainGet (KF P) r.2 ""&&(hasDictIn (KF P) r.2&&(plainOver (KF P) r.2&&(makesIn (KF P) r.2&&keepIn (KF P) (.ref r.2)))),(di.lookup (.ofString r.1)).elim false (·.all fun n=>zY (findIn (KF P) (.ref r.2) n)))
  =(some (some (.ref r.2)),some (some (.builtin "object.__setattr__")),true,true):=fK (by kernel_rfl)
theorem pV {K:Str}(h:cu K=true):∃r∈cr,Str.ofString r.1=K:=
 (Bool.or_eq_true_iff.mp h).elim (fun h=>(Bool.or_eq_true_iff.mp h).elim (fun h=>⟨_,.head _,(beq_iff_eq.mp h).symm⟩) fun h=>⟨_,.tail _ (.head _),(beq_iff_eq.mp h).symm⟩) fun h=>⟨_,.tail _ (.tail _ (.head _)),(beq_iff_eq.mp h).symm⟩
theorem bX (P:Params):ClsFacts P:=⟨fun C Ca h hc=>by
 refine tr (pV h) fun r hm e=>?_
 subst e
 have q:=y4 P r hm
 have e:r.2=Ca:=ce.one (Prod.ext_iff.mp q).1 hc
 subst e
 have q2:=(Prod.ext_iff.mp q).2
 have q3:=(Prod.ext_iff.mp q2).2
 exact cw (Prod.ext_iff.mp q3).1 (fun h k1=>cw h (fun h k2=>cw h (fun h k4=>cw h (fun k6 k5=>⟨k1,k2,(Prod.ext_iff.mp q2).1,k4,k5,k6,fun n hn=>by
  have a:=(Prod.ext_iff.mp q3).2
  have b:(di.lookup (.ofString r.1)).elim false (·.contains n)=true:=hn
  have a:(di.lookup (.ofString r.1)).elim false (·.all fun n=>zY (findIn (KF P) (.ref r.2) n))=true:=a
  refine Js (o:=di.lookup (.ofString r.1)) (fun e=>?_) fun l e=>?_
  ·try refine Kh e▸?_
   rewrite[e]at b;exact Jq b
  ·try refine Kh e▸?_
   rewrite[e]at a b
   exact vu (List.all_eq_true.mp a n (List.contains_iff_mem.mp b))⟩) id) id) id) id⟩
theorem qL:(al 11 0).1.args.map (·.arg)=[Str.ofString "self",Str.ofString "octets",Str.ofString "start",Str.ofString "end"]:=by kernel_rfl
theorem zW:jn (al 11 0).1.defaults=some [.int 0,.none]:=by kernel_rfl
theorem sF (P:Params):(KF P).lookup 177=some ⟨VT "tuple",none,.seq #[.int 0 397,.none] 0,⟨[]⟩⟩:=by kernel_rfl
noncomputable abbrev H7:List Str:=[Str.ofString "self",Str.ofString "octets",Str.ofString "start",Str.ofString "end"]
theorem rB {s:Shared}{fd:FuncData}{o:Obj}{d2 d3:Value}{k:Nat}(hd:fd.defaults= .ref 177)(ho:s.heap.get? 177=some o)(hs:o.data= .seq #[d2,d3] k)(hp:fd.params=(al 11 0).1)(x y:Value):
  BindsTo s fd ⟨[x,y],[]⟩ (H7.zip [x,y,d2,d3]):=by
 intro M A E Q q
 rcases fd with ⟨n,qn,P,b,sc,g,cl,dV,kV⟩
 have hd:dV=_:=hd
 have hp:P=_:=hp
 subst hd hp
 exact wpAny_bind (wpAny_pure (wpAny_bind (wpAny_seqItems ho hs (wpAny_pure q))))
theorem t9 (P:Params):gF P (al 11 0).1 (VR 177):=by
 intro vs sc ρ h
 match vs,h with
 |[],h=>exact nomatch (show(none:Option Loc)=some ρ from h)
 |[x],h=>exact nomatch (show(none:Option Loc)=some ρ from h)
 |x::y::z::r,h=>exact nomatch (show(none:Option Loc)=some ρ from h)
 |[x,y],h=>
  refine JD [x,y,.int 0,.none] ((Option.some.inj h).symm) rfl (fun B φ imm rvs R=>?_)
  rcases R with ⟨rx,r1,rfl,q1,ry,r2,rfl,q2,q3⟩
  have q3:r2=[]:=q3
  subst q3
  refine Jl [rx,ry,.int 0 397,.none] ⟨_,_,rfl,q1,_,_,rfl,q2,_,_,rfl,aT,_,_,rfl,rfl,rfl⟩ (fun s fd hK e1 e2=>?_)
  refine Kh qL▸?_
  exact rB e2 (hK _ _ (sF P)) rfl e1 rx ry
noncomputable def mr:List (((Nat × Nat) × (Nat × Nat)) × (String × String) × String):=[(((10,0),(113,165)),("LowWriter","__init__"),"LowWriter.__init__"),(((10,1),(120,165)),("LowWriter","bits"),"LowWriter.bits"),(((10,7),(162,165)),("LowWriter","done"),"LowWriter.done"),
 (((11,0),(184,243)),("Octets","__init__"),"Octets.__init__"),(((11,1),(191,243)),("Octets","left"),"Octets.left"),(((11,3),(205,243)),("Octets","take"),"Octets.take"),(((11,5),(219,243)),("Octets","octet"),"Octets.octet"),
 (((17,0),(273,297)),("CountBits","__init__"),"CountBits.__init__"),(((17,1),(280,297)),("CountBits","take"),"CountBits.take"),(((17,2),(287,297)),("CountBits","upto"),"CountBits.upto"),(((17,3),(294,297)),("CountBits","run"),"CountBits.run")]
noncomputable abbrev mtR (r:((Nat × Nat) × (Nat × Nat)) × (String × String) × String):Arguments × List Stmt × Scope:=al r.1.1.1 r.1.1.2
noncomputable def dfR (p:Nat × Nat):Value:=if p=(11,0)then VR 177 else VN
theorem BQ (P:Params):∀r∈mr,((KF P).lookup r.1.2.1,nsIn (KF P) mainGlobals (.ofString r.2.1.1),findIn (KF P) (.ref r.1.2.2) (.ofString r.2.1.2),keepIn (KF P) (.ref r.1.2.1)&&(isFn (KF P) (.ref r.1.2.1)&&(oM (mtR r).1 (mtR r).2.2&&(codeIn (KF P) (VR (r.1.2.1-1)) (.ofString r.2.2)&&(decide (r.1.1=(11,0))||(mtR r).1.defaults.isEmpty)))))
  =(some (tJ r.2.1.2 r.2.2 (mtR r) (dfR r.1.1) (BR r.1.1.1) r.1.2.1),some (some (.ref r.1.2.2)),some (some (.ref r.1.2.1)),true):=fK (by kernel_rfl)
theorem z0:aU=mr.map (fun r=>((Str.ofString r.2.1.1,Str.ofString r.2.1.2),mtR r)):=by kernel_rfl
theorem vw (P:Params)(p:Nat × Nat)(fo:FunOk (al p.1 p.2).1 (al p.1 p.2).2.2)(h:(decide (p=(11,0))||(al p.1 p.2).1.defaults.isEmpty)=true):gF P (al p.1 p.2).1 (dfR p):=by
 by_cases e:p=(11,0)
 ·subst e;exact t9 P
 ·rewrite[show dfR p=VN from if_neg e]
  exact gF.plain ((Bool.or_eq_true_iff.mp h).elim (fun q=>absurd (of_decide_eq_true q) e) List.isEmpty_iff.mp) fo
theorem b6 (P:Params):MetFacts P:=⟨fun K n A body sc h Ca hc=>by
  refine tr (mQ (z0▸h)) fun r hm e=>?_
  have q:=BQ P r hm
  have e1:=(Prod.ext_iff.mp e).1
  have e2:mtR r=(A,body,sc):=(Prod.ext_iff.mp e).2
  have e3:=(Prod.ext_iff.mp e1).1
  have e4:=(Prod.ext_iff.mp e1).2
  subst e3 e4
  have q2:=(Prod.ext_iff.mp q).2
  have q3:=(Prod.ext_iff.mp q2).2
  have e:r.1.2.2=Ca:=ce.one (Prod.ext_iff.mp q2).1 hc
  subst e
  exact cw (Prod.ext_iff.mp q3).2 (fun h k1=>cw h (fun h k2=>cw h (fun h k3=>cw h (fun k5 k4=>by
   have b:=vw P r.1.1 k3 k5
   have e2':al r.1.1.1 r.1.1.2=(A,body,sc):=e2
   rewrite[e2']at b
   rewrite[e2]at k3 q
   exact J6 r.1.2.1 _ ((Prod.ext_iff.mp q3).1) k2 k1 (.mk _ _ _ _ _ _ _ _ _ _ _ (Prod.ext_iff.mp q).1 k4) k3 b) id) m9) id) id,
 fun K h=>(pV h).elim fun r q=>⟨r.2,q.2▸(Prod.ext_iff.mp (y4 P r q.1)).1⟩⟩
section
noncomputable abbrev bR:List Value:=[.ref 39,.type "ValueError",.type "Exception",.type "BaseException",.type "object"]
section
variable {M:Model}{A:Around}{E:Value→Shared→Prop}{h:Heap}{g:Array GenState}{d:Drawn}{t:Nat}{os:OsState}
variable {nm q:Str}{C N:Addr}{bs bm:List Value}{hdct:Bool}{sn:List Str}{sub:List Value}{ab:Bool}{col:Option Bool}{dd:Option Addr}{k0 k1 k2 k3 k5:Option Value}
theorem kF {rest:List Value}{Q:Unit→Shared→Prop}(hC:h.get? C=some (excClassObj nm q C N bs bm hdct sn sub ab col dd k0 k1 k2 k3 k5 "ValueError.__new__"))(hcB:(Value.ref C::bm).contains (.type "ValueError")=true)
  (hq:Q () ⟨h,g,d,t,os⟩):wpAny M A (checkBuiltinCall "ValueError.__new__" ⟨.ref C::rest,[]⟩) Q E ⟨h,g,d,t,os⟩:=by
 have F:=PySem.F.excBase_ValueError
 have hstar:=F.noStar
 simp only[checkBuiltinCall,F.newKind,F.newSplit,F.newRow]
 repeat(first|refine wpAny_loadPart_at hC ?_|(refine wpAny_isSubtype_exc hC ?_;rw[hcB])|refine wpAny_staticBase_exc hC ?_|refine wpAny_madeBy_exc hC ?_|simp only[bne_self_eq_false,Bool.false_eq_true,if_false]|wp_step)
 exact hq
end
section
variable {prog:Program}{w:World}{A:Around}{R:Result→Shared→Prop}{h:Heap}{g:Array GenState}{d:Drawn}{t:Nat}{os:OsState}
variable {nm q:Str}{C N:Addr}{bs bm:List Value}{hdct:Bool}{sn:List Str}{sub:List Value}{ab:Bool}{col:Option Bool}{dd:Option Addr}{k0 k1 k2 k3 k5:Option Value}
theorem y9 {rest:List Value}(hC:h.get? C=some (excClassObj nm q C N bs bm hdct sn sub ab col dd k0 k1 k2 k3 k5 "ValueError.__new__"))
  (hcB:(Value.ref C::bm).contains (.type "ValueError")=true) (hcA:(Value.ref C::bm).contains (.type "AttributeError")=false) (hcN:(Value.ref C::bm).contains (.type "NameError")=false)
  (hq:R (.ok (.ret (.ref (h.objs.size+1)))) ⟨(h.push {cls:= .type "tuple",data:= .seq rest.toArray}).push
   {cls:= .ref C,data:= .fields #[.ref h.objs.size,.none,.none,.none,.bool false,.none]},g,d,t,os⟩) (hrest:rest.length≤sizeLine):
  codeAny (model prog w) A (.builtin "ValueError.__new__" ⟨.ref C::rest,[]⟩) R ⟨h,g,d,t,os⟩:=by
 have F:=PySem.F.excBase_ValueError
 have hends:=F.ends
 refine codeAny_builtinAt F.entry ?_
 unfold Builtin.«BaseException.__new__»
 refine PySem.wpAt_bind ?_
 refine(?_:PySem.wpAt _ _ _ (stack >>= _) _ _ _)
 refine PySem.wpAt_bind (PySem.wpAt_stack fun p below=>PySem.wpAt_of_wpAny ?_)
 wp_walk
 refine PySem.wpAt_of_wpAny ?_
 refine Kh F.owner▸?_
 repeat(first|with_reducible refine wpAny_madeHere_exc F.canon hC ?_|with_reducible refine wpAny_loadPart_at hC ?_|(with_reducible refine wpAny_isSubtype_exc hC ?_;first|rw[hcB]|rw[hcA]|rw[hcN])|wp_step)
 refine(?_:R _ _)
 refine Kh (Heap.size_push _ _)▸?_
 exact hq
end
section
variable {M:Model}{A:Around}{E:Value→Shared→Prop}{h:Heap}{g:Array GenState}{d:Drawn}{t:Nat}{os:OsState}
variable {nm q:Str}{C N:Addr}{bs bm:List Value}{hdct:Bool}{sn:List Str}{sub:List Value}{ab:Bool}{col:Option Bool}{dd:Option Addr}{k0 k1 k2 k3 k5:Option Value}
theorem jB {e:Addr}{oe:Obj}{rest:List Value}{Q:Unit→Shared→Prop}
  (hC:h.get? C=some (excClassObj nm q C N bs bm hdct sn sub ab col dd k0 k1 k2 k3 k5 "ValueError.__new__")) (hcB:(Value.ref C::bm).contains (.type "ValueError")=true) (he:h.get? e=some oe) (hcls:oe.cls= .ref C) (hq:Q () ⟨h,g,d,t,os⟩):
  wpAny M A (checkBuiltinCall "ValueError.__init__" ⟨.ref e::rest,[]⟩) Q E ⟨h,g,d,t,os⟩:=by
 have F:=PySem.F.excBase_ValueError
 have hshort:=F.noStar
 simp only[checkBuiltinCall,F.initKind,F.initSplit,F.initRow]
 repeat(first|(with_reducible refine wpAny_loadPart_at he ?_;rw[hcls])|with_reducible refine wpAny_loadPart_at hC ?_|(with_reducible refine wpAny_isSubtype_exc hC ?_;rw[hcB])|wp_step)
 refine wpAny_onRaise ?_
 rewrite[show ∀(a b:String) (n:Nat),Bind.check ⟨.positional,"*","ValueError",.self,[⟨"args",.varPos,false⟩]⟩ a b n (List.map (fun x=>x.fst) ({pos:=Value.ref e::rest}:Args).kw)=pure ()from
  fun a b n=>check_star_args _ _ _ _ _ _]
 exact wpAny_pure hq
end
section
variable {prog:Program}{w:World}{A:Around}{E:Value→Shared→Prop}{h:Heap}{g:Array GenState}{d:Drawn}{t:Nat}{os:OsState}
variable {nm q:Str}{C N:Addr}{bs bm:List Value}{hdct:Bool}{sn:List Str}{sub:List Value}{ab:Bool}{col:Option Bool}{dd:Option Addr}{k0 k1 k2 k3 k5:Option Value}
theorem uv {e T:Addr}{rest:List Value}{Q:Value→Shared→Prop}
  (hC:h.get? C=some (excClassObj nm q C N bs bm hdct sn sub ab col dd k0 k1 k2 k3 k5 "ValueError.__new__")) (hcB:(Value.ref C::bm).contains (.type "ValueError")=true)
  (he:h.get? e=some {cls:= .ref C,data:= .fields #[.ref T,.none,.none,.none,.bool false,.none]}) (hz:rest.length≤sizeLine)
  (hq:∀h' T',(∀b o,b≠e→h.get? b=some o→h'.get? b=some o)→h'.get? e=some {cls:= .ref C,data:= .fields #[.ref T',.none,.none,.none,.bool false,.none]}→Q .none ⟨h',g,d,t,os⟩):
  wpAny (model prog w) A (call (.builtin "ValueError.__init__") (.ref e::rest)) Q E ⟨h,g,d,t,os⟩:=by
 have F:=PySem.F.excBase_ValueError
 refine wpAny_call (codeAny_call_builtin F.init.plain F.initEntry (jB hC hcB he rfl ?_))
 wp_walk
 have he₁:(h.push {cls:= .type "tuple",data:= .seq rest.toArray}).get? e=some {cls:= .ref C,data:= .fields #[.ref T,.none,.none,.none,.bool false,.none]}:=Heap.get?_push_of_some _ he
 refine hq _ h.objs.size (fun b o hb e'=>?_) ?_
 ·refine Kh (Heap.get?_update_other _ _ (Ne.symm hb))▸?_
  exact Heap.get?_push_of_some _ e'
 ·rewrite[Heap.get?_update_self _ he₁ rfl]
  rfl
end
end
section
set_option maxHeartbeats 4000000
section
variable {prog:Program}{w:World}{A:Around}{R:Result→Shared→Prop}{h:Heap}{g:Array GenState}{d:Drawn}{t:Nat}{os:OsState}
variable {nm q:Str}{C N:Addr}{bs bm:List Value}{hdct:Bool}{sn:List Str}{sub:List Value}{ab:Bool}{col:Option Bool}{dd:Option Addr}{k0 k1 k2 k3 k5:Option Value}
noncomputable abbrev cz (h:Heap)(C:Addr)(rest:List Value):Heap:=(h.push {cls:= .type "tuple",data:= .seq rest.toArray}).push {cls:= .ref C,data:= .fields #[.ref h.objs.size,.none,.none,.none,.bool false,.none]}
theorem ut {rest:List Value}{fI:Addr}(hC:h.get? C=some (excClassObj nm q C N bs bm hdct sn sub ab col dd k0 k1 k2 k3 k5 "ValueError.__new__"))
  (hcB:(Value.ref C::bm).contains (.type "ValueError")=true) (hcA:(Value.ref C::bm).contains (.type "AttributeError")=false) (hcN:(Value.ref C::bm).contains (.type "NameError")=false) (hrest:rest.length≤sizeLine)
  (hi:Looks (model prog w) h (typeLookup (.ref C) "__init__") (some (.ref fI))) (hb:∀self,Looks (model prog w) h (bindSpecial (.ref fI) self) (.ref fI,[self]))
  (call:Looks (model prog w) h (specialOf (.ref C) "__call__") (some (.builtin "type.__call__"))) (typ:Looks (model prog w) h (isInstance (.ref C) (.type "type")) true)
  (hq:codeAny (model prog w) (A.under (.builtin "type.__call__" ⟨.ref C::rest,[]⟩)) (.call (.ref fI) ⟨.ref (h.objs.size+1)::rest,[]⟩) (InitBack (h.objs.size+1) R) ⟨cz h C rest,g,d,t,os⟩):
  codeAny (model prog w) A (.call (.ref C) ⟨rest,[]⟩) R ⟨h,g,d,t,os⟩:=by
 refine codeAny_of_tree ?_
 refine(?_:wpAny _ _ (callAny (.ref C) _) _ _ _)
 refine nd_load hC ?_
 refine(?_:wpAny _ _ (callAny.viaDunder (.ref C) _) _ _ _)
 unfold callAny.viaDunder
 refine wpAny_bind (call.at ?_)
 dsimp only
 refine Kh (tc_bind _)▸?_
 refine wpAny_bind (wpAny_pure (wpAny_bind (wpAny_pure ?_)))
 refine wpAny_pure (a:=Fin.again (.call (.builtin "type.__call__") ⟨.ref C::rest,[]⟩)) (And.intro rfl ?_)
 refine codeAny_call_builtin_at (Code.quiet_builtin _ (by decide+kernel)) entry_typeCall (check_slot tc_kind tc_split typ (tc_args _ _ _) ?_)
 unfold Builtin.«type.__call__»
 have made:Looks (model prog w) h (Bind.madeBy (.ref C)) (some "ValueError.__new__"):=by
  intro A Q E s k q
  rcases s with ⟨hp,g,d,t,os⟩
  exact wpAny_madeBy_exc (k _ _ hC) q
 have hm:Looks (model prog w) h (mroOf (.ref C)) (.ref C::bm):=((Looks.ld (part:=none) hC).andThen .now).andThen .now
 repeat(first|simp only[List.isEmpty_cons,Bool.false_eq_true,if_false]|with_reducible refine wpAny_call ?_|lk)
 refine codeAny_call_builtin_code (Code.quiet_builtin _ PySem.F.excBase_ValueError.quiet) (kF hC hcB ?_)
 refine y9 hC hcB hcA hcN ?_ hrest
 refine(?_:wpAny _ _ _ _ _ _)
 have k:∀b o,h.get? b=some o→(cz h C rest).get? b=some o:=fun b o e=>Heap.get?_push_of_some _ (Heap.get?_push_of_some _ e)
 have hx:(cz h C rest).get? (h.objs.size+1)=some {cls:= .ref C,data:= .fields #[.ref h.objs.size,.none,.none,.none,.bool false,.none]}:=by unfold cz;heap_get
 have t1:Looks (model prog w) (cz h C rest) (typeOf (.ref (h.objs.size+1))) (.ref C):=(Looks.ld hx).andThen .now
 have self:Looks (model prog w) h (isSubtype (.ref C) (.ref C)) true:=by
  intro A Q E s k q
  rcases s with ⟨hp,g,d,t,os⟩
  refine wpAny_isSubtype_exc (k _ _ hC) ?_
  rewrite[List.contains_cons]
  simpa using q
 have s1:=self.keeps k
 have i1:=hi.keeps k
 have b1:=(hb (.ref (h.objs.size+1))).keeps k
 unfold isInstance callSpecial? specialOf
 repeat(first|with_reducible refine wpAny_call ?_|lk)
 refine codeAny_mono hq fun r s' z=>?_
 rcases r with e|(v|_|_|_)<;>first|exact z|exact z.elim|skip
 refine Jh z ?_;clear z;intro κ;subst κ;intro z
 exact wpAny_pure (wpAny_pure z)
end
end
section
open PySem PySem.W PySem.Calls PyProof.Rows PySem.Builtin PySem.Builtin.ObjectAttr
set_option maxHeartbeats 4000000
section
variable {prog:Program}{w:World}{A:Around}{E:Value→Shared→Prop}{h:Heap}{g:Array GenState}{d:Drawn}{t:Nat}{os:OsState}
variable {nm q:Str}{C N:Addr}{bs:List Value}{sn:List Str}{sub:List Value}{ab:Bool}{col:Option Bool}{dd:Option Addr}{k0 k1 k2 k3 k5:Option Value}
theorem rI {x:Addr}{o:Obj}{name:Str}{v:Value}{tk:Tok}{Q:PySem.Fin→Shared→Prop}
  (hC:h.get? C=some (excClassObj nm q C N bs bR true sn sub ab col dd k0 k1 k2 k3 k5 "ValueError.__new__")) (hx:h.get? x=some o) (hc:o.cls= .ref C) (hdn:o.dict=none) (hnc:∀c,o.data≠.cls c)
  (hl:Looks (model prog w) h (typeLookup (.ref C) name) none)
  (hq:∀h' tk' dx,(∀b ob,b≠x→h.get? b=some ob→h'.get? b=some ob)→h'.get? x=some {cls:=o.cls,dict:=some dx,data:=o.data,slots:=o.slots}→Q (.done (.ret .none)) ⟨h',g,d,tk',os⟩):
  wpAny (model prog w) A (Builtin.«object.__setattr__» ⟨[.ref x,.str name tk,v],[]⟩) Q E ⟨h,g,d,t,os⟩:=by
 have hpass:=PySem.F.store_ValueError.passes (.ref x)
 have hp2:refuseLoop (.ref x) "__setattr__" (.ref C::bR)=pure ():=by rewrite[refuseLoop_ref,refuseLoop_ref];exact hpass
 unfold Builtin.«object.__setattr__»
 repeat(first|rw[refuse_eq]|rw[hp2]|(with_reducible refine wpAny_loadPart_at hx ?_;rw[hc])|with_reducible refine wpAny_mroOf_exc hC ?_|with_reducible refine hl.at ?_|wp_step)
 refine Kh hdn▸?_;rewrite[if_neg (by simp[typeHasDict])]
 split
 ·rename_i hcd
  exact Ji hcd
 split
 ·rename_i c hcd
  exact absurd hcd (hnc c)
 ·have hx₁:(h.push {cls:= .type "dict",data:= .dict #[]}).get? x=some o:=Heap.get?_push_of_some _ hx
  have hxs:x≠h.objs.size:=Nat.ne_of_lt (Heap.lt_size hx)
  refine wpAny_bind (wpAny_alloc' ?_)
  refine wpAny_bind (wpAny_update' hx₁ ?_)
  refine wpAny_pure ?_
  have hgd:((h.push {cls:= .type "dict",data:= .dict #[]}).update x fun o=>{cls:=o.cls,dict:=some h.objs.size,data:=o.data,slots:=o.slots}).get? h.objs.size
    =some {cls:= .type "dict",data:= .dict #[]}:=
   (Heap.get?_update_ne _ _ _ _ hxs.symm).trans (Heap.get?_push_at rfl rfl)
  have hnd:((h.push {cls:= .type "dict",data:= .dict #[]}).update x fun o=>{cls:=o.cls,dict:=some h.objs.size,data:=o.data,slots:=o.slots}).Ns h.objs.size (fun _=>none):=
   ⟨_,#[],_,hgd,rfl,fun e he=>absurd he (by simp),fun _=>rfl⟩
  refine(?_:wpAny _ _ (storeInDict h.objs.size (.str name tk) name v) _ _ _)
  unfold storeInDict newKeyGuard
  refine wpAny_bind (wpAny_pure (wpAny_bind (wpAny_nsSet1 (Heap.Ns1.of_empty hnd) fun h' hn' hs=>?_)))
  refine JJ (hn'.count (Within.cons name v Within.nil)) fun oD esD epD hoD hdD hcD=>?_
  refine wpAny_bind (wpAny_lookBehind hoD (by rewrite[hdD];exact pastItsLine_dict (Nat.le_trans hcD (by rewrite[List.length_cons,List.length_nil,sizeLine_eq];exact lI 0x81022800000146408802))) ?_)
  wp_walk
  refine hq h' _ h.objs.size (fun b ob hbx hb=>?_) ?_
  ·exact(hs.2 b (Nat.ne_of_lt (Heap.lt_size hb))).trans ((Heap.get?_update_ne _ _ _ _ hbx).trans (Heap.get?_push_of_some _ hb))
  ·refine(hs.2 x hxs).trans (Heap.get?_update_self _ hx₁ ?_)
   have hfr:=(Heap.get?_some_iff.mp hx).2
   rcases o with ⟨oc,od,odt,osl⟩
   cases odt<;>first|rfl|exact hfr
theorem y8 {x:Addr}{o:Obj}{name:Str}{v:Value}{Q:Unit→Shared→Prop}
  (hC:h.get? C=some (excClassObj nm q C N bs bR true sn sub ab col dd k0 k1 k2 k3 k5 "ValueError.__new__")) (hx:h.get? x=some o) (hc:o.cls= .ref C) (hdn:o.dict=none) (hnc:∀c,o.data≠.cls c)
  (hl:Looks (model prog w) h (typeLookup (.ref C) name) none) (hsa:Looks (model prog w) h (typeLookup (.ref C) "__setattr__") (some (.builtin "object.__setattr__")))
  (hq:∀h' tk' dx,(∀b ob,b≠x→h.get? b=some ob→h'.get? b=some ob)→h'.get? x=some {cls:=o.cls,dict:=some dx,data:=o.data,slots:=o.slots}→Q () ⟨h',g,d,tk',os⟩):
  wpAny (model prog w) A (setAttr (.ref x) name v) Q E ⟨h,g,d,t,os⟩:=by
 have SF:=PySem.F.store_object
 have t1:Looks (model prog w) h (typeOf (.ref x)) (.ref C):=hc▸(Looks.ld hx).andThen .now
 have b1:Looks (model prog w) h (bindSpecial (.builtin "object.__setattr__") (.ref x)) (.builtin "object.__setattr__",[.ref x]):=Looks.of_pure (SF.slot.bind (.ref x))
 have sub:Looks (model prog w) h (isInstance (.ref x) (.type "object")) true:=t1.andThen (by
  intro A Q E s k q
  rcases s with ⟨hp,g,d,t,os⟩
  refine wpAny_isSubtype_exc (k _ _ hC) ?_
  have:(Value.ref C::bR).contains (.type "object")=true:=by
   rewrite[List.contains_cons];refine Kh (show bR.contains (.type "object")=true from by decide)▸?_;refine Kh (Bool.or_true _)▸?_;rfl
  refine Kh this▸?_
  exact q)
 unfold setAttr
 refine wpAny_bind (wpAny_mkText ?_)
 unfold callSpecial? specialOf
 refine wpAny_bind (wpAny_bind (wpAny_bind (t1.here (hsa.here ?_))))
 dsimp only
 refine wpAny_holding (wpAny_bind (b1.here ?_))
 dsimp only
 refine wpAny_bind (wpAny_call ?_)
 refine codeAny_call_builtin SF.slot.plain SF.entry (@check_slot (model prog w) _ _ _ "object.__setattr__" "object" "__setattr__" (.ref x) [.str name _,v] [] _ SF.kind SF.split sub (SF.args (.ref x) (.str name _) v) ?_)
 refine rI hC hx hc hdn hnc hl fun h' tk' dx hk he=>?_
 exact wpAny_pure (wpAny_pure (hq h' tk' dx hk he))
end
end
section
set_option maxHeartbeats 4000000
structure PressF (P:Params)(C:Addr):Prop where
 init:findIn (KF P) (.ref C) "__init__"=some (some (.ref 36))
 call:specialIn (KF P) (.ref C) "__call__"=some (some (.builtin "type.__call__"))
 typ:instIn (KF P) (.ref C) (.type "type")=some true
 set:findIn (KF P) (.ref C) "__setattr__"=some (some (.builtin "object.__setattr__"))
 none:findIn (KF P) (.ref C) "reason"=some none
 keep:keepIn (KF P) (.ref C)=true
inductive PressC (P:Params)(C:Addr):Prop
 |mk (nm q:Str) (N:Addr) (k0 k3 k5:Option Value) (obj:(KF P).lookup C=some (excClassObj nm q C N [.ref 39] bR true [] [] false none none k0 none k3 k5 (some (VB true)) "ValueError.__new__")) (f:PressF P C)
theorem qH (P:Params):PressC P 52:= .mk "CutShort" "CutShort" 51 (some (VR 43)) (some (VS "CutShort" 224)) (some (VS "CutShort" 232)) (by kernel_rfl) ⟨by kernel_rfl,by kernel_rfl,by kernel_rfl,by kernel_rfl,by kernel_rfl,by kernel_rfl⟩
theorem qG (P:Params):PressC P 64:= .mk "BadTable" "BadTable" 63 (some (VR 55)) (some (VS "BadTable" 240)) (some (VS "BadTable" 248)) (by kernel_rfl) ⟨by kernel_rfl,by kernel_rfl,by kernel_rfl,by kernel_rfl,by kernel_rfl,by kernel_rfl⟩
theorem BL (P:Params):typeIn (KF P) (.ref 36)=some (.type "function"):=by kernel_rfl
theorem zV (P:Params):findCls (KF P) (.type "ValueError") (.type "type") "__init__"=some (.val (.builtin "ValueError.__init__")):=by kernel_rfl
theorem vo (P:Params):nsIn (KF P) mainGlobals (Str.ofString "ValueError")=some none:=by kernel_rfl
theorem vq:bootBuiltins (Str.ofString "ValueError")=some (.type "ValueError"):=by decide+kernel
theorem vn:typeOf (.type "ValueError")=pure (.type "type"):=by kernel_rfl
theorem vr:(al 2 0).2.1=[.Expr (.Call (.Attribute (.Name (Str.ofString "ValueError") ⟨8,8,8,18⟩) (Str.ofString "__init__") ⟨8,8,8,27⟩) [.Name (Str.ofString "self") ⟨8,28,8,32⟩,.Name (Str.ofString "reason") ⟨8,34,8,40⟩] [] ⟨8,8,8,41⟩) ⟨8,8,8,41⟩,
 .Assign [.Attribute (.Name (Str.ofString "self") ⟨9,8,9,12⟩) (Str.ofString "reason") ⟨9,8,9,19⟩] (.Name (Str.ofString "reason") ⟨9,22,9,28⟩) ⟨9,8,9,28⟩]:=by kernel_rfl
theorem HF:(al 2 0).1.args.map (·.arg)=[Str.ofString "self",Str.ofString "reason"]:=by kernel_rfl
theorem HG:(al 2 0).1.posonlyargs=[]∧(al 2 0).1.kwonlyargs=[]∧(al 2 0).1.vararg=none∧(al 2 0).1.kwarg=none:=by refine JA ?_ ?_ ?_ ?_<;>kernel_rfl
theorem eB:(al 2 0).2.2.names=[(Str.ofString "self",.local),(Str.ofString "reason",.local),(Str.ofString "ValueError",.globalImplicit)]:=by kernel_rfl
theorem hG:(al 2 0).2.2.kind= .function∧(al 2 0).2.2.isCoroutine=false∧(al 2 0).2.2.isGenerator=false:=by refine Jn ?_ ?_ ?_<;>kernel_rfl
theorem By {C:Addr}:(Value.ref C::bR).contains (.type "ValueError")=true:=by rewrite[List.contains_cons];refine Kh (show bR.contains (.type "ValueError")=true from by decide)▸?_;refine Kh (Bool.or_true _)▸?_;rfl
theorem H0 {C:Addr}:(Value.ref C::bR).contains (.type "AttributeError")=false:=by rewrite[List.contains_cons,show bR.contains (.type "AttributeError")=false from by decide];rfl
theorem HZ {C:Addr}:(Value.ref C::bR).contains (.type "NameError")=false:=by rewrite[List.contains_cons,show bR.contains (.type "NameError")=false from by decide];rfl
section
variable {nm q:Str}{N:Addr}{k0 kk2 kk3:Option Value}{w:World}{A:Around}{E:Value→Shared→Prop}{s:Shared}{B:Heap}{L C e T:Addr}{m:Str→Option Value}{env:Env}{v:Value}{t:Tok}{x:Str}
theorem zU {Q:Flow→Shared→Prop}(K:(KF w.params).In B)(T0:TopB B)(F:Fr B L s.heap m)(PC:PressF w.params C)(hK:(KF w.params).lookup C=some (excClassObj nm q C N [.ref 39] bR true [] [] false none none k0 none kk2 kk3 (some (VB true)) "ValueError.__new__"))(hsc:env.scope=(al 2 0).2.2)(hl:env.locals=L)(hg:env.globals=mainGlobals)(hb:env.builtins=builtinsNs)
  (hm1:m (Str.ofString "self")=some (.ref e)) (hm2:m (Str.ofString "reason")=some (.str x t)) (he:s.heap.get? e=some {cls:= .ref C,data:= .fields #[.ref T,.none,.none,.none,.bool false,.none]}) (heL:e≠L) (heB:B.get? e=none)
  (hq:∀h' tk dx T',(∀b o,b≠e→s.heap.get? b=some o→h'.get? b=some o)→h'.get? e=some {cls:= .ref C,dict:=some dx,data:= .fields #[.ref T',.none,.none,.none,.bool false,.none]}→Q .next {s with heap:=h',toks:=tk}):
  wpAny (model pw w) A (execs (al 2 0).2.1 env) Q E s:=by
 have hkind:env.scope.kind= .function:=by rewrite[hsc];exact hG.1
 have k1:env.kindOf (Str.ofString "self")=some .local:=by unfold Env.kindOf;refine Kh hsc▸?_;refine Kh eB▸?_;decide
 have k2:env.kindOf (Str.ofString "reason")=some .local:=by unfold Env.kindOf;refine Kh hsc▸?_;refine Kh eB▸?_;decide
 have k3:env.kindOf (Str.ofString "ValueError")=some .globalImplicit:=by unfold Env.kindOf;refine Kh hsc▸?_;refine Kh eB▸?_;decide
 have hint:interactive env=false:=by unfold interactive;refine Kh hkind▸?_;rfl
 have KH:=K.keeps F.keep
 have ldSelf:∀{s':Shared}{pos:Pos}{Q:Value→Shared→Prop}{E:Value→Shared→Prop},s'.heap.Ns L m→Q (.ref e) s'→wpAny (model pw w) A (eval (.Name (Str.ofString "self") pos) env) Q E s':=fun hn q=>wpAny_Name (wpAny_loadName_local hkind k1 (by rewrite[hl];exact hn) hm1 q) (by decide)
 have ldReason:∀{s':Shared}{pos:Pos}{Q:Value→Shared→Prop}{E:Value→Shared→Prop},s'.heap.Ns L m→Q (.str x t) s'→wpAny (model pw w) A (eval (.Name (Str.ofString "reason") pos) env) Q E s':=fun hn q=>wpAny_Name (wpAny_loadName_local hkind k2 (by rewrite[hl];exact hn) hm2 q) (by decide)
 refine Kh vr▸?_
 refine wpAny_execs_cons (wpAny_Expr ?_ hint (cZ rfl))
 rewrite[dF (by rfl)]
 refine wpAny_bind ?_
 refine Jf T0.g fun mg hmg=>?_
 refine tr T0.b fun mb hmb hbb=>?_
 refine Name_function_global hkind k3 (loadGlobal_builtin (by rewrite[hg];exact hmg.keeps F.keep) (mg_none_of K hmg (vo _)) (by rewrite[hb];exact hmb.keeps F.keep) ((hbb _ (by decide)).trans vq) ?_) (by decide)
 refine wpAny_bind (wpAny_standAt ?_)
 unfold methodCall
 have hform:methodCallForm 2 (backTo ⟨8,8,8,41⟩ (starEach [.Name (Str.ofString "self") ⟨8,28,8,32⟩,.Name (Str.ofString "reason") ⟨8,34,8,40⟩] env)) (backToKw ⟨8,8,8,41⟩ (keywordEach [] env))=true:=by rfl
 simp only[List.length_cons,List.length_nil,Nat.zero_add,Nat.add_zero]
 refine Kh hform▸?_
 have hpos:methodCallPos true (.Name (Str.ofString "ValueError") ⟨8,8,8,18⟩) env ⟨8,8,8,27⟩ ⟨8,8,8,41⟩=pure ⟨8,8,8,41⟩:=by rfl
 refine Kh hpos▸?_
 refine wpAny_bind (wpAny_holding ?_)
 refine(?_:wpAny _ _ (getMethod (.type "ValueError") (Str.ofString "__init__") _) _ _ _)
 refine method_type F K vn (by decide+kernel) (zV _) (by rfl) ?_
 refine wpAny_bind (wpAny_pure ?_)
 refine(?_:wpAny _ _ (callWith ⟨8,8,8,41⟩ (.builtin "ValueError.__init__") [] _ _) _ _ _)
 refine callWith_of (P:=fun _=>True) (by rfl) (fun h _=>⟨.machine,.inr (.inl rfl),Looks.now⟩) ?_
 have F1:Fr B L s.heap m:=F
 refine(?_:wpAny _ _ (evalArgs (.builtin "ValueError.__init__") true (backTo ⟨8,8,8,41⟩ (starEach [.Name (Str.ofString "self") ⟨8,28,8,32⟩,.Name (Str.ofString "reason") ⟨8,34,8,40⟩] env)) []) _ _ _)
 refine evalArgs_plain ?_
 refine(?_:wpAny _ _ (spliced (backTo ⟨8,8,8,41⟩ (starEach [.Name (Str.ofString "self") ⟨8,28,8,32⟩,.Name (Str.ofString "reason") ⟨8,34,8,40⟩] env))) _ _ _)
 refine spliced_more (ldSelf (s':={s with toks:=s.toks+1}) F.ns (spliced_more (ldReason F.ns (spliced_none ?_))))
 refine Jg trivial ?_
 refine(?_:wpAny _ _ (call (.builtin "ValueError.__init__") [.ref e,.str x t]) _ _ _)
 refine uv (KH _ _ hK) By he (by refine(?_:1≤sizeLine);refine Kh sizeLine_eq▸?_;exact lI 0x2100000028c22) fun h1 T1 hk1 he1=>?_
 refine(?_:wpAny _ _ (execs _ env) _ _ _)
 have F2:Fr B L h1 m:=by
  refine JK F.ns fun o es ep a r=>?_
  exact⟨⟨o,es,ep,hk1 _ _ (Ne.symm heL) a,r⟩,fun b o hb=>hk1 b o (fun q=>by replace hb:=heB▸(q▸hb);exact Ji hb) (F.keep b o hb),F.above⟩
 refine wpAny_execs_cons (wpAny_Assign_stores ?_ (fH rfl) (by unfold swappedStores;rfl))
 refine ldReason F2.ns ?_
 refine(?_:wpAny _ _ (assign (.Attribute (.Name (Str.ofString "self") ⟨9,8,9,12⟩) (Str.ofString "reason") ⟨9,8,9,19⟩) env (.str x t)) _ _ _)
 refine dA (ldSelf F2.ns ?_)
 have KH2:=K.keeps F2.keep
 refine y8 (KH2 _ _ hK) he1 rfl rfl (fun c q=>nomatch q) (looks_findIn KH2 PC.none) (looks_findIn KH2 PC.set) fun h2 tk dx hk2 he2=>?_
 refine wpAny_execs_nil (hq h2 tk dx T1 (fun b o hb hh=>hk2 b o hb (hk1 b o hb hh)) he2)
end
end
section
set_option maxHeartbeats 4000000
theorem HB (P:Params):(KF P).lookup 36=some (tJ "__init__" "PressError.__init__" (al 2 0) (VR 29) (VS "threepress.errors" 194) 36)∧codeIn (KF P) (VR 35) "PressError.__init__"=true:=⟨by kernel_rfl,by kernel_rfl⟩
theorem vp (P:Params):(KF P).lookup 29=some ⟨VT "tuple",none,.seq #[.str (Str.ofString "") 208] 0,⟨[]⟩⟩:=by kernel_rfl
theorem t8 {s:Shared}{fd:FuncData}{o:Obj}{d1:Value}{k:Nat}(hd:fd.defaults= .ref 29)(ho:s.heap.get? 29=some o)(hs:o.data= .seq #[d1] k)(hp:fd.params=(al 2 0).1)(x y:Value):
  BindsTo s fd ⟨[x,y],[]⟩ [(Str.ofString "self",x),(Str.ofString "reason",y)]:=by
 intro M A E Q q
 rcases fd with ⟨n,qn,P,b,sc,g,cl,dV,kV⟩
 have hd:dV=_:=hd
 have hp:P=_:=hp
 subst hd hp
 exact wpAny_bind (wpAny_pure (wpAny_bind (wpAny_seqItems ho hs (wpAny_pure q))))
theorem sD:∀x∈(al 2 0).2.2.names,x.2≠.cell:=by rewrite[eB];decide
theorem qI (a b:Value):∀x∈([(Str.ofString "self",a),(Str.ofString "reason",b)]:List (Str × Value)),(al 2 0).2.2.names.lookup x.1=some .local:=by
 refine Kh eB▸?_
 intro y hy
 simp only[List.mem_cons,List.not_mem_nil,or_false]at hy
 rcases hy with rfl|rfl
 ·refine(?_:List.lookup (Str.ofString "self") _=_);decide
 ·refine(?_:List.lookup (Str.ofString "reason") _=_);decide
section
variable {nm q:Str}{N:Addr}{k0 kk2 kk3:Option Value}{C:Cx}{ρ:Loc}{φ:List Addr}{imm:Led}{m:Str→Option Value}{σ:aa}{mu prot:Led}{s:Shared}{E:Value→Shared→Prop}{K:Addr}{x:Str}{t:Tok}{n:Str}{pos:Pos}
theorem n7 (ok:CxOk C)(S:SD C φ imm m σ s.heap mu prot)(PC:PressF C.w.params K)(hK:(KF C.w.params).lookup K=some (excClassObj nm q K N [.ref 39] bR true [] [] false none none k0 none kk2 kk3 (some (VB true)) "ValueError.__new__")){Q:Value→Shared→Prop}
  (hq:∀h' tk e dx T',(∀b o,s.heap.get? b=some o→h'.get? b=some o)→s.heap.get? e=none→h'.get? e=some {cls:= .ref K,dict:=some dx,data:= .fields #[.ref T',.none,.none,.none,.bool false,.none]}→Q (.ref e) {s with heap:=h',toks:=tk}):
  wpAny (model pw C.w) C.A (call (.ref K) [.str x t]) Q E s:=by
 have KH:=ok.K.keeps S.F.keep
 have hC:=KH _ _ hK
 refine Jh (HB C.w.params) fun hF hcd=>?_
 have hdep:=ok.depth
 have hroom:(C.A.under (.builtin "type.__call__" ⟨.ref K::[.str x t],[]⟩)).depth<recursionLimit:=by
  have a1:(C.A.under (.builtin "type.__call__" ⟨.ref K::[.str x t],[]⟩)).depth=C.A.depth+1:=rfl
  refine Kh a1▸?_
  have a2:recursionLimit=1000:=rfl
  refine Kh a2▸?_
  exact (lB 0xc47e810c8110030960432182110801) hdep
 refine wpAny_call (ut (rest:=[.str x t]) (fI:=36) hC By H0 HZ (by refine(?_:1≤sizeLine);refine Kh sizeLine_eq▸?_;exact lI 0x2100000028c22) (looks_findIn KH PC.init) (fun self=>bind_fn KH self (BL _)) (looks_specialIn KH PC.call) (looks_instIn KH PC.typ) ?_)
 have k1:∀b o,s.heap.get? b=some o→(cz s.heap K [.str x t]).get? b=some o:=fun b o e=>Heap.get?_push_of_some _ (Heap.get?_push_of_some _ e)
 have KH1:=KH.keeps k1
 have heNew:s.heap.get? (s.heap.objs.size+1)=none:=by
  refine Js (o:=s.heap.get? (s.heap.objs.size+1)) (fun hq'=>?_) fun o hq'=>?_
  ·try refine Kh hq'▸?_
   rfl
  ·try refine Kh hq'▸?_
   exact absurd (Heap.lt_size hq') (Nat.not_lt.mpr (Nat.le_succ _))
 have hesz:(cz s.heap K [.str x t]).objs.size=s.heap.objs.size+2:=by unfold cz;refine Kh (Heap.size_push _ _)▸?_;refine Kh (Heap.size_push _ _)▸?_;rfl
 have he:(cz s.heap K [.str x t]).get? (s.heap.objs.size+1)=some {cls:= .ref K,data:= .fields #[.ref s.heap.objs.size,.none,.none,.none,.bool false,.none]}:=by unfold cz;heap_get
 have hbd:=t8 (s:={s with heap:=cz s.heap K [.str x t]}) (fd:=fnX "__init__" "PressError.__init__" (al 2 0).1 (al 2 0).2.1 (al 2 0).2.2 [] (VR 29) VN VN (VS "threepress.errors" 194) none (VR 35) VN) rfl (KH1 _ _ (vp _)) rfl rfl (.ref (s.heap.objs.size+1)) (.str x t)
 refine codeAny_call_function hroom (KH1 _ _ hF) rfl hG.2.1 hG.2.2 rfl (codeRec_of KH1 hcd) (hbd _ _ _ _ ?_)
 refine wpAny_newFunctionEnv (binds:=[(Str.ofString "self",Value.ref (s.heap.objs.size+1)),(Str.ofString "reason",.str x t)]) sD (qI _ _) (fun h2 hns hsb=>?_) hG.1
 have hnl:=ok.T.lim.keeps S.F.keep
 have k2:∀b o,(cz s.heap K [.str x t]).get? b=some o→h2.get? b=some o:=fun b o e=>hsb.extBut b o (Nat.ne_of_lt (Heap.lt_size e)) (Heap.get?_push_of_some _ e)
 refine Jg (hnl.keeps fun b o e=>k2 b o (k1 b o e)) (codeAny_func ?_)
 have F2:Fr C.B (cz s.heap K [.str x t]).objs.size h2 (fun y=>([(Str.ofString "self",Value.ref (s.heap.objs.size+1)),(Str.ofString "reason",.str x t)]:List (Str × Value)).reverse.lookup y):=
  ⟨hns,fun b o e=>k2 b o (k1 b o (S.F.keep b o e)),by rewrite[hesz];have b1:=S.F.above;have b2:=S.F.ns.lt;exact Nat.le_trans b1 (Nat.le_trans (Nat.le_of_lt b2) (Nat.le_add_right _ _))⟩
 have heB:C.B.get? (s.heap.objs.size+1)=none:=by
  refine Js (o:=C.B.get? (s.heap.objs.size+1)) (fun hq'=>?_) fun o hq'=>?_
  ·try refine Kh hq'▸?_
   rfl
  ·try refine Kh hq'▸?_
   have:=S.F.keep _ _ hq';replace this:=heNew▸this;exact Ji this
 refine zU ok.K ok.T F2 PC hK rfl rfl rfl rfl (by rfl) (by rfl) (k2 _ _ he) (by rewrite[hesz];exact Nat.ne_of_lt (Nat.lt_succ_self _)) heB fun h3 tk dx T' hk3 he3=>?_
 refine(?_:InitBack _ _ (.ok (.ret .none)) _)
 refine Jg rfl ?_
 exact hq h3 tk _ dx T' (fun b o e=>hk3 b o (fun q=>by replace e:=heNew▸(q▸e);exact Ji e) (k2 b o (k1 b o e))) heNew he3
end
section
variable {M:Model}{A:Around}{E:Value→Shared→Prop}{s:Shared}{env:Env}
variable {nm q:Str}{C N:Addr}{bs bm:List Value}{hdct:Bool}{sn:List Str}{sub:List Value}{ab:Bool}{col:Option Bool}{dd:Option Addr}{k0 k1 k2 k3 k5:Option Value}{newId:String}
theorem rJ {x:Sem Value}{Q:Flow→Shared→Prop}(hcB:(Value.ref C::bm).contains (.type "BaseException")=true)(hh:A.handled=none)
  (h:wpAny M A x (fun v s₁=>∃e T dx,v= .ref e∧s₁.heap.get? C=some (excClassObj nm q C N bs bm hdct sn sub ab col dd k0 k1 k2 k3 k5 newId)∧
   s₁.heap.get? e=some {cls:= .ref C,dict:=some dx,data:= .fields #[.ref T,.none,.none,.none,.bool false,.none]}∧E (.ref e) s₁) E s):
  wpAny M A (raiseStmt env (some x) none) Q E s:=by
 unfold raiseStmt
 refine wpAny_bind (wpAny_mono h (fun v s₁ h₁=>?_) fun _ _ x=>x)
 refine JQ h₁ ?_;clear h₁;intro e T dx κ;subst κ;intro hC he hE
 rcases s₁ with ⟨hp,g,d,tk,os⟩
 repeat(first|with_reducible refine wpAny_loadPart_at he ?_|with_reducible refine wpAny_loadPart_at hC ?_|(with_reducible refine wpAny_isSubtype_exc hC ?_;rw[hcB])|wp_step)
 exact wpAny_raiseNew_none hh hE
end
section
variable {C:Cx}{ρ:Loc}{σ:aa}{x:Str}{n:Str}{pos np cpos p1:Pos}{k:Nat}{Q:MF→Loc→aa→Prop}{X:XP}
theorem rD {led:Led}{e:Addr}{h:Heap}{m:Str→Option Value}(hN:News C.B C.L h led)(F:Fr C.B C.L h m)(he:h.get? e=none):Away C led e:=
 ⟨fun hm=>(List.mem_map.mp hm).elim fun p q=>absurd ((hN p q.1).1.symm.trans ((congrArg h.get? q.2).trans he)) nofun,
  fun hm=>by refine JK F.ns fun o es ep a r=>?_;exact absurd (a.symm.trans ((congrArg h.get? hm.symm).trans he)) nofun,
  by
   refine Js (o:=C.B.get? e) (fun q=>?_) fun o q=>?_
   ·try refine Kh q▸?_
    rfl
   ·try refine Kh q▸?_
    exact absurd ((F.keep _ _ q).symm.trans he) nofun⟩
theorem pf (ok:CxOk C){K:Addr}(PC:PressC C.w.params K)(hK:ce C.w.params n K)(hk:C.env.scope.names.lookup n=some .globalImplicit)(hd:(n==("__debug__":Str))=false)(hx:X n σ):
  WS C ρ (.Raise (some (.Call (.Name n np) [.Constant (.str x) k p1] [] cpos)) none pos) σ Q X:=by
 intro g _ E T P PX
 rcases PC with ⟨nm,q,N,k0,kk2,kk3,hobj,PF⟩
 rewrite[arm_exec_Raise]
 refine wpAny_bind (wpAny_standAt ?_)
 refine(?_:wpAny _ _ (raiseStmt C.env (some (eval (.Call (.Name n np) [.Constant (.str x) k p1] [] cpos) C.env >>= fun v=>standAt pos >>= fun _=>pure v)) none) _ _ _)
 refine rJ (C:=K) (bm:=bR) (nm:=nm) (q:=q) (N:=N) (bs:=[.ref 39]) (hdct:=true) (sn:=[]) (sub:=[]) (ab:=false) (col:=none) (dd:=none) (k0:=k0) (k1:=none) (k2:=kk2) (k3:=kk3) (k5:=some (VB true)) (newId:="ValueError.__new__") (by rewrite[List.contains_cons];refine Kh (show bR.contains (.type "BaseException")=true from by decide)▸?_;refine Kh (Bool.or_true _)▸?_;rfl) ok.handled ?_
 refine wpAny_bind ?_
 refine Kh bW▸?_
 refine wpAny_bind (T.S.elim fun mu h=>h.elim fun prot S=>iP ok S hk hd hK ?_)
 refine cX (A:=fun vs σ₁=>vs=[.str x]∧σ₁=σ) ok (fun _ _ _=>.inl PF.keep) rfl (en (Q1:=fun v σ₁=>v= .str x∧σ₁=σ) (A1:=fun v vs σ₁=>v= .str x∧vs=[]∧σ₁=σ) rfl (ph rfl ⟨rfl,rfl⟩) (fun _ _ q=>jX ⟨q.1,rfl,q.2⟩) fun _ _ _ q=>⟨q.1▸q.2.1▸rfl,q.2.2⟩) T .no fun vs σ₁ g1 rvs e a T1 R1=>?_
 have e1:=e.1
 have e2:=e.2
 subst e1 e2
 refine tr (mz R1) ?_;intro rx κ;subst κ;intro hx'
 obtain⟨tx,rfl⟩:∃t,rx= .str x t:=hx'
 refine Jm T1.S fun mu prot S1=>?_
 refine n7 (s:=g1.s) ok S1 PF hobj fun h2 tk2 e dx T' hk2 heN he=>?_
 refine wpAny_bind (wpAny_standAt (wpAny_pure ⟨e,T',dx,rfl,hk2 _ _ ((ok.K.keeps S1.F.keep) _ _ hobj),he,?_⟩))
 exact PX n _ (g1.at g1.imm h2 tk2) e hx (a.trans .on) (.mk g1.m mu prot (S1.grown hk2) (.fresh _ _ K ⟨hK,he,rfl,rfl,Nat.le_of_ble_eq_true rfl,rD S1.N S1.F heN⟩ rfl rfl))
end
end
section
noncomputable abbrev lc (n:String)(v:MV):Str × MV:=(.ofString n,v)
structure We (C:Cx)(N:aV)(d b:Nat):Prop where
 ok:CxOk C
 names:C.env.scope.names=N
 d:d≤C.d
 b:C.b=b
structure Ws (C:Cx)(N:aV)(d b:Nat):Prop where
 e:We C N d b
 top:CxF C
set_option genInjectivity false in
set_option genSizeOf false in
inductive RS
 |one (r:R MV)
 |all (P:R MV→Prop)
noncomputable def RS.In:RS→R MV→Prop
 | .one r,x=>x=r
 | .all P,x=>P x
noncomputable def kX (s:RS)(Q:MV→aa→Prop)(X:XP):Prop:=match s with
 | .one r=>eA r Q X
 | .all P=>∀r,P r→eA r Q X
theorem kX.at {s:RS}{Q:MV→aa→Prop}{X:XP}(h:kX s Q X){r:R MV}(hr:s.In r):eA r Q X:=match s,hr,h with
 | .one _,hr,h=>hr▸h
 | .all _,hr,h=>h r hr
structure FnS (k:Nat)(g:Str)(vs:List MV)(σ:aa)(s:RS):Prop where
 keep:∀P fv,bJ P g fv→cN P fv
 sim:∀C,CxOk C→k≤C.d→WK C g vs σ (fun v σ'=>s.In (.ok v σ')) (fun c σ'=>s.In (.ex c σ'))
noncomputable abbrev Fn (k:Nat)(g:Str)(vs:List MV)(σ:aa)(r:R MV):Prop:=FnS k g vs σ (.one r)
noncomputable def A5 (ka:Bool)(σ:aa)(s:RS)(f:MF)(ρ:Loc)(σ':aa):Prop:=OptEx (ends ka σ (.ok (f,ρ) σ')) s.In
noncomputable def Hz (s:RS)(c:Str)(σ':aa):Prop:=s.In (.ex c σ')
inductive Mt (k:Nat)(K n:Str)(id:Nat)(vs:List MV)(σ:aa)(r:R MV):Prop
 |mk (A:Arguments) (body:List Stmt) (sc:Scope) (ρ:Loc) (h1:aU.lookup (K,n)=some (A,body,sc)) (h2:cu K=true) (h3:aD A sc (.ref id::vs)=some ρ)
   (h4:∀d,k≤d+1→∀C,Ws C sc.names d σ.length→WB C ρ body σ (A5 false σ (.one r)) (Hz (.one r)))
theorem km {P:Params}{g:Str}{x:Arguments × List Stmt × Scope}(hf:bw.lookup g=some x){fv:Value}(hg:bJ P g fv):cN P fv:=
 ((f0 P).fn g x.1 x.2.1 x.2.2 hf).elim fun _ h=>ca h.1 hg▸.inl h.2.1
theorem kv {P:Params}{g:Str}(hc:cu g=true){fv:Value}(hg:bJ P g fv):cN P fv:=
 ((b6 P).cls g hc).elim fun Ca hC=>ca hC hg▸.inl ((bX P).ok g Ca hc hC).keep
noncomputable def sH:Value→Bool
 | .ref _=>false
 |_=>true
theorem gS {P:Params}{g:Str}{v fv:Value}(h:f8.lookup g=some v)(hv:sH v=true)(hg:bJ P g fv):cN P fv:=
 (dj P).one (mem_of_lookup h) hg▸.inr fun a e=>by subst e;exact Jq hv
theorem cE {k n:Nat}(h:k+1≤n):n=n-1+1∧k≤n-1:=⟨(Nat.sub_add_cancel (Nat.le_trans (Nat.le_add_left 1 k) h)).symm,Nat.le_sub_of_add_le h⟩
section
variable {σ σ₁ σ₂ σ₃ σ₄:aa}{vs:List MV}{v:MV}{s:RS}{k:Nat}{g:Str}{A:Arguments}{body:List Stmt}{sc:Scope}{ρ ρ':Loc}
theorem FnS.mk' (hf:bw.lookup g=some (A,body,sc))(hen:aD A sc vs=some ρ')(ka:Bool)(hka:bd g=ka)(hb:∀d b,k≤d→(ka=false→b=σ.length)→∀C,Ws C sc.names d b→WB C ρ' body σ (A5 ka σ s) (Hz s)):FnS (k+1) g vs σ s:=by
 subst hka
 refine⟨fun P fv hg=>km hf hg,fun C ok hd=>u7 ok (f0 _) (cE hd).1 hf hen fun C' ok' top' w' B' sc' d' b'=>?_⟩
 exact hb (C.d-1) C'.b (cE hd).2 (fun e=>b'.trans (by rewrite[e];rfl)) C' ⟨⟨ok',sc'▸rfl,Nat.le_of_eq d'.symm,rfl⟩,top'⟩
theorem Fn.cls (hg:cu g=true)(hf:aU.lookup (g,.ofString "__init__")=some (A,body,sc))(hen:aD A sc (.ref σ.length::vs)=some ρ')(hb:∀d b,k≤d→∀C,Ws C sc.names d b→WB C ρ' body (σ++[.inst g []]) (fun f _ σ'=>f= .next∧σ'=σ₁) noX):Fn (k+1) g vs σ (.ok (.ref σ.length) σ₁):=by
 refine⟨fun P fv h=>kv hg h,fun C ok hd=>?_⟩
 have:=u8 ok (bX _) (b6 _) (cE hd).1 hg hf hen fun C' ok' top' w' B' sc' d' b'=>hb (C.d-1) C.b (cE hd).2 C' ⟨⟨ok',sc'▸rfl,Nat.le_of_eq d'.symm,b'⟩,top'⟩
 exact fun ρ g K E rvs fv T R G P PX=>this ρ g K E rvs fv T R G (fun x σ' g' v q=>P x σ' g' v q.symm) fun c σ' g' ea q=>PX c σ' g' ea q.symm
theorem Ws.le {C:Cx}{N:aV}{d d' b:Nat}(w:Ws C N d b)(h:d'≤d):Ws C N d' b:=⟨⟨w.e.ok,w.e.names,Nat.le_trans h w.e.d,w.e.b⟩,w.top⟩
theorem Ws.hold {C:Cx}{N:aV}{d b:Nat}{its:Led}(w:Ws C N d b):Ws (C.holdIt its) N d b:=⟨⟨w.e.ok.hold,w.e.names,w.e.d,w.e.b⟩,w.top.hold⟩
end
end
section
section
variable {σ:aa}{x y:Int}{l l':List MV}
theorem wg (h:0<y):gm σ .Mod (.int x) (.int y)=some (.int (x%y)):=by
 refine(?_:(if y≠0 then some (MV.int (x.fmod y))else none)=_)
 refine Kh (if_pos (by exact (lE 0x62e01003500402) h))▸?_;refine Kh (Int.fmod_eq_emod_of_nonneg _ (Int.le_of_lt h))▸?_;rfl
theorem tT:de σ .Eq (.int x) (.int y)=some (decide (x=y)):=by
 exact(if_pos ⟨rfl,rfl,Nat.le_of_ble_eq_true rfl⟩:(if(PyData.int x).canLay0=true∧(PyData.int y).canLay0=true∧(PyData.int x).depth≤8 then some (PyData.eqv (.int x) (.int y))else none)=_)
theorem Ba:de σ .NotEq (.int x) (.int y)=some (decide (x≠y)):=by
 refine(?_:(de σ .Eq (.int x) (.int y)).map _=_)
 refine Kh tT▸?_
 exact congrArg some decide_not.symm
end
theorem pn {σ':aa}{n:Nat}{w:MV}(hw:aL w=true):qm σ' n w=some w:=by
 have k:(if aL w=true then some w else none)=some w:=if_pos hw
 cases w with
 |ref i=>exact Jq hw
 |_=>exact k
theorem r4 {σ':aa}{n:Nat}{l:List MV}:noRefs l=true→j0 σ' n l=some l:=by
 induction l with
 |nil=>intro _;rfl
 |cons a r ih=>
  intro h
  refine(?_:kE (qm σ' n a) (j0 σ' n r)=_)
  refine Kh (pn (bz h))▸?_;refine Kh (ih (a9 h))▸?_;rfl
theorem qU {σ':aa}{n:Nat}{v:MV}(hv:aL v=true):lu σ' n v=some v:=by
 have k:=pn (σ':=σ') (n:=n) hv
 cases v with
 |tup l=>
  refine(?_:(j0 σ' n l).map MV.tup=_)
  refine Kh (r4 hv)▸?_;rfl
 |_=>exact k
theorem f6 {σ σ':aa}{v:MV}{ρ:Loc}(hv:aL v=true):ends false σ (.ok (.ret v,ρ) σ')=some (.ok v (σ'.take σ.length)):=by
 refine(?_:(lu σ' σ.length v).map _=_)
 refine Kh (qU hv)▸?_;rfl
theorem kr {σ σ':aa}{v:MV}{ρ:Loc}(hv:aL v=true)(hl:σ'.length=σ.length):ends false σ (.ok (.ret v,ρ) σ')=some (.ok v σ'):=by
 refine Kh (f6 hv)▸?_;refine hl▸?_;refine Kh List.take_length▸?_;rfl
theorem rk {σ σ':aa}{ρ:Loc}(hl:σ'.length=σ.length):ends false σ (.ok (.next,ρ) σ')=some (.ok .none σ'):=by
 refine(?_:some (R.ok MV.none (σ'.take σ.length))=_)
 refine hl▸?_;refine Kh List.take_length▸?_;rfl
structure Bx where
 a:Int
 b:Int
 c:Int
noncomputable abbrev Bx.mo (B:Bx):MO:= .list [.int B.a,.int B.b,.int B.c]
noncomputable def pX (b c:Int):Int:=(b+40127*c+29)^5%2147483647
noncomputable def Bx.digit (B:Bx)(m:Int):Int:=if 0<B.a then B.a%m else(pX B.b (B.c+1)+92959*(B.c+1))^3%2147483587/16%m
noncomputable def Bx.next (B:Bx)(m:Int):Bx:=if 0<B.a then⟨B.a/m,B.b,B.c⟩else⟨B.a,B.b,B.c+1⟩
structure Bx.Ok (n:Nat)(B:Bx):Prop where
 a:0≤B.a
 b0:0≤B.b
 b1:B.b<2147483629
 c0:0≤B.c
 c1:B.c≤n
theorem Bx.digit_lo {B:Bx}{m:Int}(h:0<m):0≤B.digit m:=by
 unfold Bx.digit
 split<;>exact Int.emod_nonneg _ (by exact (lE 0x62e01003500402) h)
theorem Bx.digit_hi {B:Bx}{m:Int}(h:0<m):B.digit m<m:=by
 unfold Bx.digit
 split<;>exact Int.emod_lt_of_pos _ h
theorem Bx.Ok.next {n:Nat}{B:Bx}{m:Int}(h:B.Ok n)(hm:0<m):(B.next m).Ok (n+1):=by
 rcases h with ⟨a,b0,b1,c0,c1⟩
 unfold Bx.next
 split
 ·exact⟨Int.ediv_nonneg a (by exact (lE 0x62800805500402) hm),b0,b1,c0,by refine(?_:B.c≤_);exact (lD 0xc5164088010068b00401) c1⟩
 ·exact⟨a,b0,b1,by refine(?_:0≤B.c+1);exact (lE 0x314204400805400402) c0,by refine(?_:B.c+1≤_);exact (lD 0x628b20440090220068b00401) c1⟩
theorem Bx.Ok.mono {n n':Nat}{B:Bx}(h:B.Ok n)(hn:n≤n'):B.Ok n':=⟨h.a,h.b0,h.b1,h.c0,by have:=h.c1;exact (lG 0x6314584200d1600803008401) hn this⟩
end
section
set_option genInjectivity false in
set_option genSizeOf false in
structure VC where
 N:aV
 d:Nat
 b:Nat
noncomputable def p5:MV→Option (List UInt8)
 | .bytes b=>some b
 |_=>none
noncomputable def y7:MV→Option Unit
 | .none=>some ()
 |_=>none
noncomputable def qd:MV→Option Bool
 | .bool b=>some b
 |_=>none
set_option genInjectivity false in
set_option genSizeOf false in
inductive Tk where
 |e (v:VC) (e:PySem.Expr) (ρ:Loc) (σ:aa) (Q:MV→aa→Prop) (X:XP)
 |o (v:VC) (e:Option PySem.Expr) (ρ:Loc) (σ:aa) (Q:MV→aa→Prop)
 |c (v:VC) (e:PySem.Expr) (ρ:Loc) (σ:aa) (KT KF:aa→Prop)
 |ch (v:VC) (x:MV) (ops:List CmpOp) (rs:List PySem.Expr) (ρ:Loc) (σ:aa) (KT KF:aa→Prop)
 |l (v:VC) (es:List PySem.Expr) (ρ:Loc) (σ:aa) (Q:List MV→aa→Prop) (X:XP)
 |p (v:VC) (es:List PySem.Expr) (ρ:Loc) (σ:aa) (Q:List MV→aa→Prop)
 |i (v:VC) (e:PySem.Expr) (ρ:Loc) (σ:aa) (Q:List MV→aa→Prop) (X:XP)
 |s (v:VC) (st:Stmt) (ρ:Loc) (σ:aa) (Q:MF→Loc→aa→Prop) (X:XP)
 |b (v:VC) (l:List Stmt) (ρ:Loc) (σ:aa) (Q:MF→Loc→aa→Prop) (X:XP)
noncomputable abbrev aq {α:Type}(o:Option α)(P:α→Prop):Prop:=o.elim False P
inductive CallEx (v:VC)(g:Str)(vs:List MV)(σ:aa)(Q:MV→aa→Prop)(X:XP):Prop
 |intro(k:Nat) (s:RS) (hF:FnS k g vs σ s) (hk:k≤v.d) (q:kX s Q X)
inductive MethEx (v:VC)(K n:Str)(id:Nat)(vs:List MV)(σ:aa)(Q:MV→aa→Prop)(X:XP):Prop
 |intro(k:Nat) (r:R MV) (hM:Mt k K n id vs σ r) (hk:k≤v.d) (h1:1≤v.d) (q:eA r Q X)
inductive AppEx (vs:List MV)(l:List MV)(Q:MV→Prop):Prop
 |intro(x:MV) (h:vs=[x]) (h1:l.length≤ai) (h2:aL x=true) (q:Q x)
inductive ExtEx (vs:List MV)(l:List MV)(Q:List MV→Prop):Prop
 |intro(z:List MV) (h:vs=[.list z]) (h1:l.length+z.length≤ai) (q:Q z)
inductive RaiseEx (v:VC)(e c:Option PySem.Expr)(σ:aa)(X:XP):Prop
 |intro(n:Str) (np:Pos) (x:Str) (k:Nat) (p1 cpos:Pos) (h:e=some (.Call (.Name n np) [.Constant (.str x) k p1] [] cpos)) (h1:c=none) (h2:((n== .ofString "BadTable"||n== .ofString "CutShort")&&v.N.lookup n==some .globalImplicit)=true) (q:X n σ)
noncomputable def uP (op:Operator)(x y:Int)(k:MV→Prop):Prop:=match op with
 | .Add=>k (.int (x+y))
 | .Sub=>k (.int (x-y))
 | .Mult=>(x.natAbs<2^64∨y.natAbs<2^64)∧k (.int (x*y))
 | .FloorDiv=>(0<y∧y.natAbs.log2<9000)∧k (.int (x/y))
 | .Mod=>0<y∧k (.int (x%y))
 | .Pow=>(0≤y∧y≤1000000∧x.natAbs<2^64)∧k (.int (x^y.toNat))
 | .LShift=>(0≤y∧y≤1000000∧x.natAbs<2^64)∧k (.int (x*2^y.toNat))
 | .RShift=>0≤y∧k (.int (x/2^y.toNat))
 | .BitAnd=>k (.int (Builtin.bitAnd x y))
 | .BitOr=>k (.int (Builtin.bitOr x y))
 |_=>False
noncomputable def Bz (σ:aa)(op:Operator)(a b:MV)(k:MV→Prop):Prop:=(bQ a).elim (OptEx (gm σ op a b) k) fun x=>(bQ b).elim (OptEx (gm σ op a b) k) fun y=>uP op x y k
noncomputable def iz (P:Prop)(a b:Prop):Prop:=(P→a)∧(¬P→b)
noncomputable def wx (op:CmpOp)(x y:Int)(KT KF:Prop):Prop:=match op with
 | .Lt=>iz (x<y) KT KF
 | .LtE=>iz (x≤y) KT KF
 | .Gt=>iz (y<x) KT KF
 | .GtE=>iz (y≤x) KT KF
 | .Eq=>iz (x=y) KT KF
 | .NotEq=>iz (x=y) KF KT
 |_=>False
noncomputable def zy (σ:aa)(op:CmpOp)(a b:MV)(KT KF:Prop):Prop:=(bQ a).elim (CmpEx (de σ op a b) KT KF) fun x=>(bQ b).elim (CmpEx (de σ op a b) KT KF) fun y=>wx op x y KT KF
noncomputable def lK (g:Str):Bool:=(["len","int","abs","max","min","sum","isinstance","bytes"]:List String).any fun x=>g==Str.ofString x
noncomputable def vO (g:Str):Bool:=!(g== .ofString "sum"||g== .ofString "bytes")
noncomputable def rV (v:VC)(g:Str)(vs:List MV)(σ:aa)(Q:MV→aa→Prop)(X:XP):Prop:=
 if lK g then(if vO g then(aq (bV σ g vs) fun p=>Q p.1 p.2)else OptEx (bV σ g vs) fun p=>Q p.1 p.2)else CallEx v g vs σ Q X
noncomputable def ww (run:Tk→Prop)(v:VC)(elt:PySem.Expr)(ρ:Loc)(σ:aa)(Q:Option MV→aa→Prop):List PySem.Expr→Prop
 |[]=>run (.e v elt ρ σ (fun y σ₂=>Q (some y) σ₂) noX)
 |[t]=>run (.c v t ρ σ (fun σ₁=>run (.e v elt ρ σ₁ (fun y σ₂=>Q (some y) σ₂) noX)) (fun σ₁=>Q none σ₁))
 |_=>False
noncomputable def Bw (run:Tk→Prop)(v:VC)(target elt:PySem.Expr)(ifs:List PySem.Expr)(ρ:Loc)(x:MV)(σ:aa)(Q:Option MV→aa→Prop):Prop:=∃ρ₁,eg v.N ρ target x=some ρ₁∧ww run v elt ρ₁ σ Q ifs
section
variable {α:Type}(run:Tk→Prop)(v:VC)(ρ:Loc)(Q:MV→aa→Prop)(X:XP)(QL:List MV→aa→Prop)(KT KF:aa→Prop)(QS:MF→Loc→aa→Prop)
noncomputable def kAt (Q:α→aa→Prop)(σ:aa)(z:α):Prop:=Q z σ
noncomputable def kOp (op:Operator)(x y:MV)(σ:aa):Prop:=Bz σ op x y (kAt Q σ)
noncomputable def Il (op:Operator)(r:PySem.Expr)(x:MV)(σ:aa):Prop:=run (.e v r ρ σ (kOp Q op x) X)
noncomputable def kUn (op:UnaryOp)(x:MV)(σ:aa):Prop:=aq (mun op x) (kAt Q σ)
noncomputable def Cq (op:BoolOp)(e:PySem.Expr)(x:MV)(σ:aa):Prop:=aq (qd x) fun k=>if(op== .And)=k then run (.e v e ρ σ Q noX)else Q (.bool k) σ
noncomputable def Ii (ops:List CmpOp)(rs:List PySem.Expr)(x:MV)(σ:aa):Prop:=run (.ch v x ops rs ρ σ (Q (.bool true)) (Q (.bool false)))
noncomputable def kGo (e:PySem.Expr)(σ:aa):Prop:=run (.e v e ρ σ Q X)
noncomputable def Ct (n:Str)(x:MV)(σ:aa):Prop:=aq (dL σ x n) (kAt Q σ)
noncomputable def Ce (x vl vh vt:MV)(σ:aa):Prop:=aq (oh σ x vl vh vt) (kAt Q σ)
noncomputable def Cf (st:Option PySem.Expr)(x vl vh:MV)(σ:aa):Prop:=run (.o v st ρ σ (Ce Q x vl vh))
noncomputable def Cg (hi st:Option PySem.Expr)(x vl:MV)(σ:aa):Prop:=run (.o v hi ρ σ (Cf run v ρ Q st x vl))
noncomputable def wZ (o:PySem.Expr)(x y:MV)(σ:aa):Prop:=if w5 o then aq (eD σ x y) (kAt Q σ)else OptEx (eD σ x y) (kAt Q σ)
noncomputable def Ie (o i:PySem.Expr)(x:MV)(σ:aa):Prop:=el4 (view i).slice (run (.e v i ρ σ (wZ Q o x) noX)) fun lo hi st _=>run (.o v lo ρ σ (Cg run v ρ Q hi st x))
noncomputable def wY (vs:List MV)(σ:aa):Prop:=if noRefs vs then vs.length≤ai∧Q (.list vs) σ else False
noncomputable def Cd (vs:List MV)(σ:aa):Prop:=aW vs=true∧vs.length≤ai∧Q (.tup vs) σ
noncomputable def Ak (acc:List MV)(I:List MV→aa→Prop)(y:Option MV)(σ:aa):Prop:=match y with
 |some y=>if aL y then I (acc++[y]) σ else False
 |none=>I acc σ
noncomputable def Cn (target elt:PySem.Expr)(ifs:List PySem.Expr)(scope:Scope)(items:List MV)(σ:aa):Prop:=
 ∃(I:List MV→List MV→aa→Prop),I items [] σ∧
  (∀x r acc σ₂,I (x::r) acc σ₂→Bw run ⟨bF v.N scope.names,v.d,v.b⟩ target elt ifs (b9 scope++ρ) x σ₂ (Ak acc (I r)))∧
  (∀acc σ₂,I [] acc σ₂→acc.length≤ai∧noRefs acc=true∧Q (.list acc) σ₂)
noncomputable def Cp (g:Str)(vs:List MV)(σ:aa):Prop:=rV v g vs σ Q X
noncomputable def Ck (n K:Str)(fs:List (Str × MV))(id:Nat)(vs:List MV)(σ:aa):Prop:=jO fs n=none∧MethEx v K n id vs σ Q X
noncomputable def Ik (n:Str)(i:Int)(vs:List MV)(σ:aa):Prop:=(n= .ofString "bit_length"∧vs=[])∧Q (.int (eM i)) σ
noncomputable def Ih (n:Str)(id:Nat)(vs:List MV)(σ:aa):Prop:=aq ((σ[id]?).bind p4) fun l=>
 if n== .ofString "append" then AppEx vs l fun x=>Q .none (σ.set id (.list (l++[x])))else n= .ofString "extend"∧ExtEx vs l fun z=>Q .none (σ.set id (.list (l++z)))
noncomputable def Al (n:Str)(args:List PySem.Expr)(id:Nat)(σ:aa)(o:MO):Prop:=(fF o).elim
 (aq (p4 o) fun _=>if n== .ofString "append"||n== .ofString "extend" then run (.l v args ρ σ (Ih Q n id) X)else False)
 fun p=>if cu p.1&&((aU.lookup (p.1,n)).isSome&&(jO p.2 n).isNone)then run (.l v args ρ σ (Ck v Q X n p.1 p.2 id) noX)else False
noncomputable def wX (n:Str)(args:List PySem.Expr)(x:MV)(σ:aa):Prop:=(jy x).elim
 (aq (bQ x) fun i=>if n== .ofString "bit_length" then run (.l v args ρ σ (Ik Q n i) noX)else False) fun id=>aq (σ[id]?) (Al run v ρ Q X n args id σ)
noncomputable def Co (ops:List CmpOp)(rs:List PySem.Expr)(x:MV)(σ:aa):Prop:=run (.ch v x ops rs ρ σ KT KF)
noncomputable def w3 (e:PySem.Expr)(σ:aa):Prop:=run (.c v e ρ σ KT KF)
noncomputable def oA (x:MV)(σ:aa):Prop:=aq (qd x) fun k=>(k=true→KT σ)∧(k=false→KF σ)
noncomputable def kCh (op:CmpOp)(x y:MV)(σ:aa):Prop:=zy σ op x y (KT σ) (KF σ)
noncomputable def Ij (op:CmpOp)(ops:List CmpOp)(rs:List PySem.Expr)(x y:MV)(σ:aa):Prop:=zy σ op x y (run (.ch v y ops rs ρ σ KT KF)) (KF σ)
noncomputable def gN (x:MV)(vs:List MV)(σ:aa):Prop:=QL (x::vs) σ
noncomputable def kL (es:List PySem.Expr)(x:MV)(σ:aa):Prop:=run (.l v es ρ σ (gN QL x) X)
noncomputable def kP (es:List PySem.Expr)(x:MV)(σ:aa):Prop:=run (.p v es ρ σ (gN QL x))
noncomputable def kPL (es:List PySem.Expr)(vs:List MV)(σ:aa):Prop:=if noRefs vs then vs.length≤ai∧run (.p v es ρ (σ++[.list vs]) (gN QL (.ref σ.length)))else False
noncomputable def td (vs:List MV)(σ:aa):Prop:=OptEx (bG vs) (kAt QL σ)
noncomputable def Cm (y:MV)(σ:aa):Prop:=aq (p5 y) fun q=>QL (gy q) σ
noncomputable def lJ (y:MV)(σ:aa):Prop:=aq (nE y) fun l=>QL l σ
noncomputable def w0 (x:MV)(σ:aa):Prop:=aq (y7 x) fun _=>QS .next ρ σ
noncomputable def Ch (x:MV)(σ:aa):Prop:=QS (.ret x) ρ σ
noncomputable def gM (σ:aa)(ρ:Loc):Prop:=QS .next ρ σ
noncomputable def lz (σ:aa):Prop:=QS .next ρ σ
noncomputable def te (n:Str)(x:MV)(σ:aa):Prop:=aq (dZ v.N ρ n x) (gM QS σ)
noncomputable def Am (n:Str)(vs:List MV)(σ:aa):Prop:=if noRefs vs then vs.length≤ai∧aq (dZ v.N ρ n (.ref σ.length)) (gM QS (σ++[.list vs]))else False
noncomputable def tc (n:Str)(x y:MV)(σ:aa):Prop:=aq (cj v.b σ y n x) (lz ρ QS)
noncomputable def ta (o:PySem.Expr)(n:Str)(x:MV)(σ:aa):Prop:=run (.e v o ρ σ (tc v ρ QS n x) noX)
noncomputable def wW (o:PySem.Expr)(x y z:MV)(σ:aa):Prop:=if w5 o then aq (dK σ y z x) (lz ρ QS)else OptEx (dK σ y z x) (lz ρ QS)
noncomputable def s9 (o i:PySem.Expr)(x y:MV)(σ:aa):Prop:=run (.e v i ρ σ (wW ρ QS o x y) noX)
noncomputable def Aj (o i:PySem.Expr)(x:MV)(σ:aa):Prop:=run (.e v o ρ σ (s9 run v ρ QS o i x) noX)
noncomputable def s8 (ts:List PySem.Expr)(b:Bool)(vs:List MV)(σ:aa):Prop:=if aW vs&&(decide (ts.length=vs.length)&&decide (vs.length≤ai))then
 (if b then aq (au v.N ts.reverse vs.reverse ρ) (gM QS σ)else aq (au v.N ts vs ρ) (gM QS σ))else False
noncomputable def vM (ts:List PySem.Expr)(x:MV)(σ:aa):Prop:=aq (eN x) fun vs=>aq (au v.N ts vs ρ) (gM QS σ)
noncomputable def Ci (n:Str)(σ:aa)(z:MV):Prop:=aq (dZ v.N ρ n z) (gM QS σ)
noncomputable def Cr (op:Operator)(n:Str)(a:Int)(y:MV)(σ:aa):Prop:=aq (bQ y) fun b=>uP op a b (Ci v ρ QS n σ)
noncomputable def Cj (n:Str)(x:MV)(σ:aa)(z:MV):Prop:=aq (cj v.b σ x n z) (lz ρ QS)
noncomputable def tf (op:Operator)(n:Str)(x:MV)(a:Int)(y:MV)(σ:aa):Prop:=aq (bQ y) fun b=>uP op a b (Cj v ρ QS n x σ)
noncomputable def Cs (op:Operator)(n:Str)(e:PySem.Expr)(x:MV)(σ:aa):Prop:=aq (dL σ x n) fun z=>aq (bQ z) fun a=>run (.e v e ρ σ (tf v ρ QS op n x a) noX)
noncomputable def w4 (l:List Stmt)(σ:aa):Prop:=run (.b v l ρ σ QS X)
noncomputable def Ig (l:List Stmt)(f:MF)(ρ:Loc)(σ:aa):Prop:=match f with
 | .next=>run (.b v l ρ σ QS X)
 | .ret x=>QS (.ret x) ρ σ
end
noncomputable def isG (v:VC)(ρ:Loc)(x:Str)(g:Str):Bool:=((cP v.N ρ x).bind kD).elim false (·==g)
noncomputable def j7 (run:Tk→Prop)(v:VC)(e:PySem.Expr)(ρ:Loc)(σ:aa)(Q:MV→aa→Prop)(X:XP):Prop:=match e with
 | .Constant c _ _=>aq (om c) (kAt Q σ)
 | .Name n _=>aq (cP v.N ρ n) (kAt Q σ)
 | .BinOp l op r _=>run (.e v l ρ σ (Il run v ρ Q X op r) X)
 | .UnaryOp op x _=>run (.e v x ρ σ (kUn Q op) noX)
 | .BoolOp op es pos=>(match es with
  |[]=>False
  |[a]=>run (.e v a ρ σ Q noX)
  |a::b::rest=>run (.e v a ρ σ (Cq run v ρ Q op (.BoolOp op (b::rest) pos)) noX))
 | .Compare l ops rs _=>if lastMarks ops rs then False else run (.e v l ρ σ (Ii run v ρ Q ops rs) noX)
 | .IfExp t a b _=>run (.c v t ρ σ (kGo run v ρ Q X a) (kGo run v ρ Q X b))
 | .Attribute o n _=>if b5 o then run (.e v o ρ σ (Ct Q n) noX)else False
 | .Subscript o i _=>run (.e v o ρ σ (Ie run v ρ Q o i) X)
 | .List es _=>run (.l v es ρ σ (wY Q) noX)
 | .Tuple es _ _=>run (.l v es ρ σ (Cd Q) noX)
 | .ListComp elt gens scope _=>(match gens with
  |[g]=>if g.is_async==0&&(oU v.N ρ scope&&!kg g.iter)then run (.i v g.iter ρ σ (Cn run v ρ Q g.target elt g.ifs scope) X)else False
  |_=>False)
 | .Call f args kws pos=>if kws.isEmpty&&noStar args then el2 (view f).name
   (el3 (view f).attr False fun o n ap=>if b5 o&&((ap.endLine==pos.line)&&decide (args.length<30))then run (.e v o ρ σ (wX run v ρ Q X n args) X)else False)
   (fun x _=>aq ((cP v.N ρ x).bind kD) fun g=>run (.l v args ρ σ (Cp v Q X g) noX))else False
 |_=>False
noncomputable def wI (run:Tk→Prop)(v:VC)(e:PySem.Expr)(ρ:Loc)(σ:aa)(KT KF:aa→Prop):Prop:=match e with
 | .Compare l ops rs _=>if lastMarks ops rs then False else run (.e v l ρ σ (Co run v ρ KT KF ops rs) noX)
 | .UnaryOp .Not x _=>run (.c v x ρ σ KF KT)
 | .BoolOp op es pos=>(match es with
  |[]=>False
  |[a]=>run (.c v a ρ σ KT KF)
  |a::b::rest=>(match op with
   | .And=>run (.c v a ρ σ (w3 run v ρ KT KF (.BoolOp .And (b::rest) pos)) KF)
   | .Or=>run (.c v a ρ σ KT (w3 run v ρ KT KF (.BoolOp .Or (b::rest) pos)))))
 | .Call f args kws pos=>run (.e v (.Call f args kws pos) ρ σ (oA KT KF) noX)
 | .Name n pos=>run (.e v (.Name n pos) ρ σ (oA KT KF) noX)
 |_=>False
noncomputable def wF (run:Tk→Prop)(v:VC)(ρ:Loc)(σ:aa)(Q:List MV→aa→Prop):List PySem.Expr→Prop
 |[a]=>if isG v ρ (.ofString "enumerate") (.ofString "enumerate")then run (.e v a ρ σ (Cm Q) noX)else False
 |_=>False
noncomputable def wG (run:Tk→Prop)(v:VC)(e:PySem.Expr)(ρ:Loc)(σ:aa)(Q:List MV→aa→Prop)(X:XP):Prop:=el4 (view e).call (run (.e v e ρ σ (lJ Q) X)) fun f args kws _=>el2 (view f).name (run (.e v e ρ σ (lJ Q) X)) fun x _=>
 if kws.isEmpty&&noStar args then(if x== .ofString "range" then(if isG v ρ x (.ofString "range")then run (.l v args ρ σ (td Q) X)else False)
  else if x== .ofString "enumerate" then wF run v ρ σ Q args
  else run (.e v e ρ σ (lJ Q) X))else False
noncomputable def wE (run:Tk→Prop)(v:VC)(e:PySem.Expr)(es:List PySem.Expr)(ρ:Loc)(σ:aa)(Q:List MV→aa→Prop):Prop:=el2 (view e).list (if cD e then False else run (.e v e ρ σ (kP run v ρ Q es) noX)) fun qs _=>run (.l v qs ρ σ (kPL run v ρ Q es) noX)
noncomputable def wJ (run:Tk→Prop)(v:VC)(t e:PySem.Expr)(ρ:Loc)(σ:aa)(Q:MF→Loc→aa→Prop)(X:XP):Prop:=el2 (view t).name
 (el3 (view t).attr (el3 (view t).sub (el3 (view t).tup False fun ts _ _=>el3 (view e).tup (run (.e v e ρ σ (vM v ρ Q ts) X)) fun es _ _=>aq (eu v.N ts es) fun b=>run (.p v es ρ σ (s8 v ρ Q ts b)))
  fun o i _=>run (.e v e ρ σ (Aj run v ρ Q o i) noX)) fun o n _=>run (.e v e ρ σ (ta run v ρ Q o n) X))
 fun n _=>el2 (view e).list (run (.e v e ρ σ (te v ρ Q n) X)) fun es _=>run (.l v es ρ σ (Am v ρ Q n) noX)
noncomputable def wH (run:Tk→Prop)(v:VC)(t:PySem.Expr)(op:Operator)(e:PySem.Expr)(ρ:Loc)(σ:aa)(Q:MF→Loc→aa→Prop):Prop:=el2 (view t).name (el3 (view t).attr False fun o n _=>run (.e v o ρ σ (Cs run v ρ Q op n e) noX))
 fun n _=>if v.N.lookup n==some .local then aq ((cP v.N ρ n).bind bQ) fun a=>run (.e v e ρ σ (Cr v ρ Q op n a) noX)else False
noncomputable def wD (run:Tk→Prop)(v:VC)(st:Stmt)(ρ:Loc)(σ:aa)(Q:MF→Loc→aa→Prop)(X:XP):Prop:=match st with
 | .Expr e _=>if bT e then False else run (.e v e ρ σ (w0 ρ Q) X)
 | .Return e _=>(match e with
  |none=>Q (.ret .none) ρ σ
  |some e=>run (.e v e ρ σ (Ch ρ Q) X))
 | .Assign ts e _=>if bT e then False else(match ts with
  |[t]=>wJ run v t e ρ σ Q X
  |_=>False)
 | .AugAssign t op e _=>wH run v t op e ρ σ Q
 | .If t a b _=>run (.c v t ρ σ (w4 run v ρ X Q a) (w4 run v ρ X Q b))
 | .While t body els _=>(match els with
  |[]=>∃(I:Nat→Loc→aa→Prop),(∃n,I n ρ σ)∧∀n ρ σ,I n ρ σ→run (.c v t ρ σ (fun σ₁=>run (.b v body ρ σ₁ (fc I n Q) X)) (fun σ₁=>Q .next ρ σ₁))
  |_=>False)
 | .For target iter body els _=>(match els with
  |[]=>if kg iter then False else run (.i v iter ρ σ (fun items σ₁=>∃(I:List MV→Loc→aa→Prop),I items ρ σ₁∧
    (∀x r ρ σ,I (x::r) ρ σ→∃ρ₁,eg v.N ρ target x=some ρ₁∧run (.b v body ρ₁ σ (rf I r Q) X))∧
    (∀ρ σ,I [] ρ σ→Q .next ρ σ)) noX)
  |_=>False)
 | .Raise e c _=>RaiseEx v e c σ X
 |_=>False
noncomputable def step (run:Tk→Prop):Tk→Prop
 | .e v e ρ σ Q X=>j7 run v e ρ σ Q X
 | .o v e ρ σ Q=>e.elim (Q .none σ) fun e=>run (.e v e ρ σ Q noX)
 | .c v e ρ σ KT KF=>wI run v e ρ σ KT KF
 | .ch v x ops rs ρ σ KT KF=>(match ops,rs with
  |[op],[r]=>run (.e v r ρ σ (kCh KT KF op x) noX)
  |op::op'::ops,r::r'::rs=>run (.e v r ρ σ (Ij run v ρ KT KF op (op'::ops) (r'::rs) x) noX)
  |_,_=>False)
 | .l v es ρ σ Q X=>(match es with
  |[]=>Q [] σ
  |e::es=>if cD e then False else run (.e v e ρ σ (kL run v ρ X Q es) X))
 | .p v es ρ σ Q=>(match es with
  |[]=>Q [] σ
  |e::es=>wE run v e es ρ σ Q)
 | .i v e ρ σ Q X=>wG run v e ρ σ Q X
 | .s v st ρ σ Q X=>wD run v st ρ σ Q X
 | .b v l ρ σ Q X=>(match l with
  |[]=>Q .next ρ σ
  |st::rest=>run (.s v st ρ σ (Ig run v X Q rest) X))
noncomputable def run:Nat→Tk→Prop
 |0,_=>False
 |n+1,t=>step (run n) t
end
structure SdB (v:VC)(l:List Stmt)(ρ:Loc)(σ:aa)(Q:MF→Loc→aa→Prop)(X:XP):Prop where
 out:∀C,Ws C v.N v.d v.b→WB C ρ l σ Q X
noncomputable def um:Tk→Prop
 | .e v e ρ σ Q X=>∀C,We C v.N v.d v.b→WE C ρ e σ Q X
 | .o v e ρ σ Q=>∀C,We C v.N v.d v.b→WO C ρ e σ Q
 | .c v e ρ σ KT KF=>∀C,We C v.N v.d v.b→WT C ρ e σ KT KF
 | .ch v x ops rs ρ σ KT KF=>∀C,We C v.N v.d v.b→WC C ρ x ops rs σ KT KF
 | .l v es ρ σ Q X=>∀C,We C v.N v.d v.b→WL C ρ es σ Q X
 | .p v es ρ σ Q=>∀C,We C v.N v.d v.b→WL C ρ es σ Q noX
 | .i v e ρ σ Q X=>∀C,We C v.N v.d v.b→WI C ρ e σ Q X
 | .s v st ρ σ Q X=>∀C,Ws C v.N v.d v.b→WS C ρ st σ Q X
 | .b v l ρ σ Q X=>SdB v l ρ σ Q X
theorem elF {α:Type}{o:Option α}{f:α→Prop}(h:o.elim False f):OptEx o f:=match o,h with
 |some x,h=>.intro x rfl h
theorem ifF {b:Bool}{P G:Prop}(h:if b then P else False)(k:b=true→P→G):G:=match b,h with
 |true,h=>k rfl h
theorem ifN {b:Bool}{P G:Prop}(h:if b then False else P)(k:b=false→P→G):G:=match b,h with
 |false,h=>k rfl h
theorem ifB {b:Bool}{P P' G:Prop}(h:if b then P else P')(k:b=true→P→G)(k':b=false→P'→G):G:=match b,h with
 |true,h=>k rfl h
 |false,h=>k' rfl h
theorem elP {α:Type}{o:Option α}{N G:Prop}{f:α→Prop}(h:o.elim N f)(hn:o=none→N→G)(hs:∀x,o=some x→f x→G):G:=match o,h with
 |none,h=>hn rfl h
 |some x,h=>hs x rfl h
theorem OptEx.imp {α:Type}{o:Option α}{P Q:α→Prop}(h:OptEx o P)(k:∀x,P x→Q x):OptEx o Q:=h.elim fun x e q=>.intro x e (k x q)
theorem og {c:Prop}[Decidable c]{α:Type}{a:α}{k:α→Prop}(h:c)(q:k a):OptEx (if c then some a else none) k:= .intro a (if_pos h) q
theorem fi {op:Operator}{x y:Int}{k:MV→Prop}(h:uP op x y k):OptEx (qN op x y) k:=by
 cases op with
 |Add=>exact .intro _ rfl h
 |Sub=>exact .intro _ rfl h
 |Mult=>exact og h.1 h.2
 |FloorDiv=>exact .intro (.int (x/y)) ((if_pos ⟨(Int.ne_of_lt h.1.1).symm,h.1.2⟩).trans (congrArg (fun z=>some (MV.int z)) (Int.fdiv_eq_ediv_of_nonneg x (Int.le_of_lt h.1.1)))) h.2
 |Mod=>exact .intro _ (wg (σ:=[]) h.1) h.2
 |Pow=>exact og h.1 h.2
 |LShift=>exact og h.1 h.2
 |RShift=>exact .intro (.int (x/2^y.toNat)) ((if_pos h.1).trans (congrArg (fun z=>some (MV.int z)) (Int.fdiv_eq_ediv_of_nonneg x (Int.le_of_lt (Int.pow_pos (by decide:(0:Int)<2)))))) h.2
 |BitAnd=>exact .intro _ rfl h
 |BitOr=>exact .intro _ rfl h
 |_=>exact h.elim
theorem nO {σ:aa}{op:Operator}{a b:MV}{k:MV→Prop}(h:Bz σ op a b k):OptEx (gm σ op a b) k:=
 elP h (fun _ h=>h) fun _ e h=>elP h (fun _ h=>h) fun _ e2 h=>aM e▸aM e2▸fi h
theorem b4 {P a b:Prop}[Decidable P](h:iz P a b):CmpEx (some (decide P)) a b:= .intro _ rfl (fun e=>h.1 (of_decide_eq_true e)) fun e=>h.2 (of_decide_eq_false e)
theorem md {σ:aa}{op:CmpOp}{x y:Int}{KT KF:Prop}(h:wx op x y KT KF):CmpEx (de σ op (.int x) (.int y)) KT KF:=by
 cases op with
 |Lt=>exact b4 h
 |LtE=>exact b4 h
 |Gt=>exact b4 h
 |GtE=>exact b4 h
 |Eq=>exact tT▸b4 h
 |NotEq=>exact Ba▸b4 (P:=¬_) ⟨h.2,fun q=>h.1 (Decidable.not_not.mp q)⟩
 |_=>exact h.elim
theorem iy {σ:aa}{op:CmpOp}{a b:MV}{KT KF:Prop}(h:zy σ op a b KT KF):CmpEx (de σ op a b) KT KF:=
 elP h (fun _ h=>h) fun _ e h=>elP h (fun _ h=>h) fun _ e2 h=>aM e▸aM e2▸md h
theorem rA:((["len","int","abs","max","min","sum","isinstance","bytes"]:List String).all fun x=>(f8.lookup (Str.ofString x)).elim false sH)=true:=by kernel_rfl
theorem nv {P:Params}{g:Str}{fv:Value}(h:lK g=true)(hg:bJ P g fv):cN P fv:=by
 refine tr (List.any_eq_true.mp h) fun x hx e=>?_
 have e:=beq_iff_eq.mp e
 subst e
 have q:=List.all_eq_true.mp rA x hx
 refine Js (o:=f8.lookup (Str.ofString x)) (fun e=>?_) fun v e=>?_
 ·try refine Kh e▸?_
  rewrite[e]at q;exact Jq q
 ·try refine Kh e▸?_
  rewrite[e]at q;exact gS e q hg
theorem WK.mono {C:Cx}{f:Str}{vs:List MV}{σ:aa}{Q Q':MV→aa→Prop}{X X':XP}(h:WK C f vs σ Q X)(hQ:∀x σ',Q x σ'→Q' x σ')(hX:∀c σ',X c σ'→X' c σ'):WK C f vs σ Q' X':=
 fun ρ g K E rvs fv T R G P PX=>h ρ g K E rvs fv T R G (fun x σ' g' v q=>P x σ' g' v (hQ x σ' q)) fun c σ' g' ea q=>PX c σ' g' ea (hX c σ' q)
structure CallOk (v:VC)(g:Str)(vs:List MV)(σ:aa)(Q:MV→aa→Prop)(X:XP):Prop where
 keep:∀P fv,bJ P g fv→cN P fv
 sim:∀C,We C v.N v.d v.b→WK C g vs σ Q X
theorem dp {v:VC}{g:Str}{vs:List MV}{σ:aa}{Q:MV→aa→Prop}{X:XP}(h:rV v g vs σ Q X):CallOk v g vs σ Q X:=by
 refine ifB h (fun hb h=>?_) fun _ h=>?_
 ·have h:OptEx (bV σ g vs) fun p=>Q p.1 p.2:=ifB h (fun _ h=>elF h) fun _ h=>h
  exact h.elim fun p e q=>⟨fun P fv hg=>nv hb hg,fun C w=>(my (v:=p.1) (σ':=p.2) w.ok (dj _) e).mono (fun x σ' e=>by cases e;exact q) fun c σ' e=>nomatch e⟩
 ·cases h with|intro k s hF hk q=>
  exact⟨hF.keep,fun C w=>(hF.sim C w.ok (Nat.le_trans hk w.d)).mono (fun x σ' e=>q.at e) fun c σ' e=>q.at e⟩
section
theorem eO {x:MV}{k:Bool}(h:qd x=some k):x= .bool k:=by
 cases x with
 |bool b=>exact congrArg MV.bool (Option.some.inj h)
 |_=>exact Ji h
theorem nC {x:MV}{u:Unit}(h:y7 x=some u):x= .none:=by
 cases x with
 |none=>rfl
 |_=>exact Ji h
theorem o8 {x:MV}{b:List UInt8}(h:p5 x=some b):x= .bytes b:=by
 cases x with
 |bytes c=>exact congrArg MV.bytes (Option.some.inj h)
 |_=>exact Ji h
theorem lS {o:Option MV}{g:Str}(h:o.bind kD=some g):o=some (.glob g):=(Option.bind_eq_some_iff.mp h).elim fun _ h=>h.1.trans (congrArg some (nF h.2))
theorem ti {v:VC}{ρ:Loc}{x g:Str}(h:isG v ρ x g=true):cP v.N ρ x=some (.glob g):=
 io h (fun _ e=>Jq e) fun _ e h=>eq_of_beq h▸lS e
theorem WT.mono {C:Cx}{ρ:Loc}{e:PySem.Expr}{σ:aa}{KT KF KT' KF':aa→Prop}(h:WT C ρ e σ KT KF)(hT:∀σ,KT σ→KT' σ)(hF:∀σ,KF σ→KF' σ):WT C ρ e σ KT' KF':=
 fun g K E T P=>h g K E T ⟨fun σ' g' q=>P.t σ' g' (hT σ' q),fun σ' g' q=>P.f σ' g' (hF σ' q)⟩
theorem WL.mono {C:Cx}{ρ:Loc}{es:List PySem.Expr}{σ:aa}{Q Q':List MV→aa→Prop}{X X':XP}(h:WL C ρ es σ Q X)(hQ:∀x σ,Q x σ→Q' x σ)(hX:∀c σ,X c σ→X' c σ):WL C ρ es σ Q' X':=
 fun g K E pos T P PX=>h g K E pos T (fun x σ' g' v q=>P x σ' g' v (hQ x σ' q)) fun c σ' g' ea q=>PX c σ' g' ea (hX c σ' q)
section
variable {run:Tk→Prop}(ih:∀t,run t→um t){v:VC}{ρ:Loc}{σ:aa}{Q:MV→aa→Prop}{X:XP}
include ih
theorem qv {n:Str}{args:List PySem.Expr}{x:MV}{C:Cx}{pos:Pos}(hs:noStar args=true)(w:We C v.N v.d v.b)(h:wX run v ρ Q X n args x σ):MG C ρ n args pos x σ Q X:=by
 refine elP h (fun e h1=>(elF h1).elim fun i e h2=>ifF h2 fun hn h3=>?_) fun id e h1=>(elF h1).elim fun o ho h2=>elP (show Option.elim (fF o) _ _ from h2) (fun _ h3=>(elF h3).elim fun l e2 h4=>ifF h4 fun hn h5=>?_) fun p e2 h3=>ifF h3 fun hb h4=>?_
 ·have e:=aM e
  have hn:=eq_of_beq hn
  subst e hn
  refine iS w.ok hs (vX PySem.F.slot_int_bit_length PySem.F.type_int_bit_length) (WL.mono (ih _ h3 C w) (fun _ _ q=>q) fun _ _ q=>q.elim) fun vs σ₂ q=>?_
  have e:=q.1.2
  subst e
  exact nr q.2
 ·have e:=cL e
  have e2:=gb e2
  subst e e2
  refine(Bool.or_eq_true_iff.mp hn).elim (fun hn=>?_) fun hn=>?_
  ·have hn:=eq_of_beq hn
   subst hn
   refine iS w.ok hs (m8 PySem.F.slot_list_append PySem.F.type_list_append ho) (ih _ h5 C w) fun vs σ₂ q=>(elF q).elim fun l e q1=>?_
   refine tr (Option.bind_eq_some_iff.mp e) fun o e1 e2=>?_
   have e2:=gb e2
   subst e2
   have q2:AppEx vs l _:=q1
   cases q2 with|intro y e3 hz hr q3=>
   subst e3
   exact nu e1 hz hr q3
  ·have hn:=eq_of_beq hn
   subst hn
   refine iS w.ok hs (m8 PySem.F.slot_list_extend PySem.F.type_list_extend ho) (ih _ h5 C w) fun vs σ₂ q=>(elF q).elim fun l e q1=>?_
   refine tr (Option.bind_eq_some_iff.mp e) fun o e1 e2=>?_
   have e2:=gb e2
   subst e2
   have q2:_∧ExtEx vs l _:=q1
   cases q2.2 with|intro y e3 hz q3=>
   subst e3
   exact nq e1 hz q3
 ·have e:=cL e
  have e2:=eV e2
  subst e e2
  refine Jf (Option.isSome_iff_exists.mp (bz (a9 hb))) fun z hf=>?_
  refine vx (A:=z.1) (body:=z.2.1) (sc:=z.2.2) w.ok (bX _) (b6 _) hs ho (Option.isNone_iff_eq_none.mp (a9 (a9 hb))) hf (bz hb) (ih _ h4 C w) fun vs σ₂ q=>?_
  cases q.2 with|intro k r hM hk hv qr=>
  cases hM with|mk A body sc ρ' m1 m2 m3 m4=>
  have e:z=(A,body,sc):=Option.some.inj (hf.symm.trans m1)
  subst e
  have hd:=cE (k:=0) (Nat.le_trans hv w.d)
  exact Jp (C.d-1) ρ' hd.1 m3 (fun C' ok' top' w' B' sc' d' b'=>(m4 (C.d-1) (hd.1▸Nat.le_trans hk w.d) C' ⟨⟨ok',sc'▸rfl,Nat.le_of_eq d'.symm,b'⟩,top'⟩).mono (fun f ρ σ q'=>q'.imp fun r' e=>(show r'=r from e)▸qr) fun c σ' e=>(show eA (.ex c σ') Q X from(show R.ex c σ'=r from e)▸qr))
theorem qy {f:PySem.Expr}{args:List PySem.Expr}{kws:List Keyword}{pos:Pos}{C:Cx}(w:We C v.N v.d v.b)(h:j7 run v (.Call f args kws pos) ρ σ Q X):WE C ρ (.Call f args kws pos) σ Q X:=by
 refine ifF h fun hb h1=>?_
 have hk:=List.isEmpty_iff.mp (bz hb)
 subst hk
 refine ng h1 (fun _ h2=>lT h2 (fun _ h=>h.elim) fun o n ap e h3=>ifF h3 fun hp h4=>?_) fun x xp e h2=>(elF h2).elim fun g hm h3=>?_
 ·subst e
  exact zo (bz hp) (bz (a9 hp)) (of_decide_eq_true (a9 (a9 hp))) (a9 hb) (ih _ h4 C w) fun x σ₁ q=>qv ih (a9 hb) w q
 ·subst e
  exact ix w.ok (dv _) (w.names.symm▸lS hm) (fun vs σ₁ q fv hg=>(dp q).keep _ fv hg) (a9 hb) (ih _ h3 C w) fun vs σ₁ q=>(dp q).sim C w
theorem qt {elt:PySem.Expr}{ifs:List PySem.Expr}{acc:List MV}{I:List MV→aa→Prop}{C:Cx}(w:We C v.N v.d v.b)(h:ww run v elt ρ σ (Ak acc I) ifs):lZ C ρ elt σ (fun y σ₂=>aL y=true∧I (acc++[y]) σ₂) (I acc) ifs:=by
 have go:∀{σ:aa},run (.e v elt ρ σ (fun y σ₂=>Ak acc I (some y) σ₂) noX)→WE C ρ elt σ (fun y σ₂=>aL y=true∧I (acc++[y]) σ₂) noX:=fun h=>
  WE.mono (ih _ h C w) (fun y σ₂ q=>ifF q fun hr q=>⟨hr,q⟩) fun _ _ q=>q
 match ifs,h with
 |[],h=>exact go h
 |[t],h=>exact WT.mono (ih _ h C w) (fun _ q=>go q) fun _ q=>q
 |_::_::_,h=>exact h.elim
theorem qx {elt:PySem.Expr}{gens:List Comprehension}{scope:Scope}{pos:Pos}{C:Cx}(w:We C v.N v.d v.b)(h:j7 run v (.ListComp elt gens scope pos) ρ σ Q X):WE C ρ (.ListComp elt gens scope pos) σ Q X:=by
 match gens,h with
 |[],h=>exact h.elim
 |_::_::_,h=>exact h.elim
 |[⟨target,iter,ifs,a⟩],h=>
  refine ifF h fun hb h1=>?_
  have ha:a=0:=eq_of_beq (bz hb)
  subst ha
  refine nN w.ok (w.names.symm▸bz (a9 hb)) (lf (a9 (a9 hb))) (ih _ h1 C w) fun l σ₁ q=>?_
  refine Jt q ?_;clear q;intro I i0 turn fin
  refine .intro I i0 (fun C' ok' hw hB hn hd hbb x r acc σ hI=>?_) fun acc σ₂ q=>⟨⟨(fin acc σ₂ q).1,(fin acc σ₂ q).2.1⟩,(fin acc σ₂ q).2.2⟩
  refine tr (turn x r acc σ hI) fun ρ₁ e h=>?_
  have hn:C'.env.scope.names=bF v.N scope.names:=w.names▸hn
  exact .intro ρ₁ (hn.symm▸e) fun C2 ok2 _ _ e2 d2 b2=>qt ih (v:=⟨bF v.N scope.names,v.d,v.b⟩) ⟨ok2,(congrArg (fun z:Env=>z.scope.names) e2).trans hn,(d2.trans hd).symm▸w.d,b2.trans (hbb.trans w.b)⟩ h
theorem sf {o i:PySem.Expr}{pos:Pos}{C:Cx}(w:We C v.N v.d v.b)(h:j7 run v (.Subscript o i pos) ρ σ Q X):WE C ρ (.Subscript o i pos) σ Q X:=by
 refine Js (o:=(view i).slice) (fun e=>?_) fun s e=>?_
 ·try refine Kh e▸?_
  exact zq (ih _ h C w) (fun x σ₁ q=>ih (.e v i ρ σ₁ (wZ Q o x) noX) (by
   have q:el4 (view i).slice _ _:=q
   rewrite[e]at q
   exact q) C w) fun x y σ₂ q=>ifB q (fun _ q=>elF q) fun _ q=>q
 ·try refine Kh e▸?_
  rcases s with ⟨⟨lo,hi,st,p⟩,e2⟩
  have e2:i= .Slice lo hi st p:=e2
  clear e
  subst e2
  exact uI (ih _ h C w) (fun x σ₁ q=>ih (.o v lo ρ σ₁ (Cg run v ρ Q hi st x)) q C w) (fun x y σ₁ q=>ih (.o v hi ρ σ₁ (Cf run v ρ Q st x y)) q C w) (fun x y z σ₁ q=>ih (.o v st ρ σ₁ (Ce Q x y z)) q C w) fun x y z t σ₁ q=>elF q
theorem qz {op:BoolOp}{es:List PySem.Expr}{pos:Pos}{C:Cx}(w:We C v.N v.d v.b)(h:j7 run v (.BoolOp op es pos) ρ σ Q X):WE C ρ (.BoolOp op es pos) σ Q X:=by
 match es,h with
 |[],h=>exact h.elim
 |[a],h=>exact uL (WE.mono (ih _ h C w) (fun _ _ q=>q) fun _ _ q=>q.elim)
 |a::b::rest,h=>
  have go:∀{σ:aa},run (.e v (.BoolOp op (b::rest) pos) ρ σ Q noX)→WE C ρ (.BoolOp op (b::rest) pos) σ Q X:=fun h=>WE.mono (ih _ h C w) (fun _ _ q=>q) fun _ _ q=>q.elim
  cases op with
  |And=>exact Bv (ih _ h C w) fun x σ₁ q=>(elF q).elim fun k e q=>.intro k (eO e) (fun hk=>by subst hk;exact go q) fun hk=>by subst hk;exact q
  |Or=>exact HW (ih _ h C w) fun x σ₁ q=>(elF q).elim fun k e q=>.intro k (eO e) (fun hk=>by subst hk;exact q) fun hk=>by subst hk;exact go q
theorem zH {e:PySem.Expr}{C:Cx}(w:We C v.N v.d v.b)(h:j7 run v e ρ σ Q X):WE C ρ e σ Q X:=by
 cases e with
 |Constant c k pos=>exact(elF h).elim fun x e q=>ph e q
 |Name n pos=>exact(elF h).elim fun x e q=>nM w.ok (dv _) (w.names.symm▸e) q
 |BinOp l op r pos=>exact uM (ih _ h C w) (fun x σ₁ q=>ih (.e v r ρ σ₁ (kOp Q op x) X) q C w) fun x y σ₂ q=>nO q
 |UnaryOp op x pos=>exact qi (WE.mono (ih _ h C w) (fun _ _ q=>q) fun _ _ q=>q.elim) fun x σ₁ q=>elF q
 |BoolOp op es pos=>exact qz ih w h
 |Compare l ops rs pos=>exact ifN h fun hm h=>zt hm (ih _ h C w) fun x σ₁ q=>ih (.ch v x ops rs ρ σ₁ _ _) q C w
 |IfExp t a b pos=>exact pg (ih _ h C w) (fun σ₁ q=>ih (.e v a ρ σ₁ Q X) q C w) fun σ₁ q=>ih (.e v b ρ σ₁ Q X) q C w
 |Attribute o n pos=>exact ifF h fun hp h=>zv w.ok (bX _) hp (ih _ h C w) fun x σ₁ q=>elF q
 |Subscript o i pos=>exact sf ih w h
 |List es pos=>exact zp (X:=X) (A:=wY Q) (WL.mono (ih _ h C w) (fun _ _ q=>q) fun _ _ q=>q.elim) fun vs σ₁ q=>ifF q fun hr q=>⟨⟨hr,q.1⟩,q.2⟩
 |Tuple es k pos=>exact kK (X:=X) (A:=Cd Q) (WL.mono (ih _ h C w) (fun _ _ q=>q) fun _ _ q=>q.elim) fun vs σ₁ q=>⟨⟨q.1,q.2.1⟩,q.2.2⟩
 |ListComp elt gens scope pos=>exact qx ih w h
 |Call f args kws pos=>exact qy ih w h
 |_=>exact h.elim
theorem zG {x:MV}{ops:List CmpOp}{rs:List PySem.Expr}{KT KF:aa→Prop}{C:Cx}(w:We C v.N v.d v.b)(h:step run (.ch v x ops rs ρ σ KT KF)):WC C ρ x ops rs σ KT KF:=by
 match ops,rs,h with
 |[op],[r],h=>exact Be w.ok (ih _ h C w) fun y σ₁ q=>iy q
 |op::op'::ops,r::r'::rs,h=>exact Bd w.ok (ih _ h C w) fun y σ₁ q=>match iy q with| .intro k e t f=>.intro k e (fun hk=>ih (.ch v y (op'::ops) (r'::rs) ρ σ₁ KT KF) (t hk) C w) f
 |[],_,h=>exact h.elim
 |[_],[],h=>exact h.elim
 |[_],_::_::_,h=>exact h.elim
 |_::_::_,[],h=>exact h.elim
 |_::_::_,[_],h=>exact h.elim
theorem zI {e:PySem.Expr}{KT KF:aa→Prop}{C:Cx}(w:We C v.N v.d v.b)(h:wI run v e ρ σ KT KF):WT C ρ e σ KT KF:=by
 have plain:∀x σ₁,oA KT KF x σ₁→BoolEx x (KT σ₁) (KF σ₁):=fun x σ₁ q=>(elF q).elim fun k e q=>.intro k (eO e) q.1 q.2
 cases e with
 |Compare l ops rs pos=>exact ifN h fun hm h=>zu hm (ih _ h C w) fun x σ₁ q=>ih (.ch v x ops rs ρ σ₁ KT KF) q C w
 |UnaryOp op x pos=>
  cases op with
  |Not=>exact Bt (ih _ h C w)
  |_=>exact h.elim
 |BoolOp op es pos=>
  match es,h with
  |[],h=>exact h.elim
  |[a],h=>
   cases op with
   |And=>exact uN (ih _ h C w)
   |Or=>exact zn (ih _ h C w)
  |a::b::rest,h=>
   cases op with
   |And=>exact zw (ih _ h C w) fun σ₁ q=>ih (.c v (.BoolOp .And (b::rest) pos) ρ σ₁ KT KF) q C w
   |Or=>exact Bs (ih _ h C w) fun σ₁ q=>ih (.c v (.BoolOp .Or (b::rest) pos) ρ σ₁ KT KF) q C w
 |Call f args kws pos=>exact pd (ih _ h C w) plain
 |Name n pos=>exact pd (ih _ h C w) plain
 |_=>exact h.elim
theorem zE {es:List PySem.Expr}{Q:List MV→aa→Prop}{C:Cx}(w:We C v.N v.d v.b)(h:step run (.l v es ρ σ Q X)):WL C ρ es σ Q X:=by
 cases es with
 |nil=>exact jX h
 |cons e es=>exact ifN h fun hs h=>en hs (ih _ h C w) (fun x σ₁ q=>ih (.l v es ρ σ₁ (gN Q x) X) q C w) fun x vs σ₂ q=>q
theorem zD {es:List PySem.Expr}{Q:List MV→aa→Prop}{C:Cx}(w:We C v.N v.d v.b)(h:step run (.p v es ρ σ Q)):WL C ρ es σ Q noX:=by
 cases es with
 |nil=>exact jX h
 |cons e es=>
  refine ng (show wE run v e es ρ σ Q from h) (fun _ h=>ifN h fun hs h=>en hs (ih _ h C w) (fun x σ₁ q=>ih (.p v es ρ σ₁ (gN Q x)) q C w) fun x vs σ₂ q=>q) fun qs p e h1=>?_
  subst e
  exact en (Q1:=fun y σ'=>run (.p v es ρ σ' (gN Q y))) rfl (kM (ih _ h1 C w) fun vs σ₁ q=>ifF q fun hr q=>⟨⟨hr,q.1⟩,q.2⟩) (fun x σ₁ q=>ih _ q C w) fun x vs σ₂ q=>q
theorem nU {args:List PySem.Expr}{Q:List MV→aa→Prop}{C:Cx}{xp pos:Pos}(w:We C v.N v.d v.b)(hs:noStar args=true)(h:if isG v ρ (.ofString "range") (.ofString "range")then run (.l v args ρ σ (td Q) X)else False):WI C ρ (.Call (.Name (.ofString "range") xp) args [] pos) σ Q X:=
 ifF h fun hg h=>uF w.ok (dv _) (dj _) hs (w.names.symm▸ti hg) (ih _ h C w) fun vs σ₁ q=>q
theorem qw {args:List PySem.Expr}{Q:List MV→aa→Prop}{C:Cx}{xp pos:Pos}(w:We C v.N v.d v.b)(hs:noStar args=true)(h:wF run v ρ σ Q args):WI C ρ (.Call (.Name (.ofString "enumerate") xp) args [] pos) σ Q X:=by
 cases args with
 |nil=>exact h.elim
 |cons a r=>
  cases r with
  |cons _ _=>exact h.elim
  |nil=>exact ifF h fun hg h=>zl w.ok (dv _) (dj _) hs (w.names.symm▸ti hg) (ih _ h C w) fun y σ₁ q=>(elF q).elim fun b e q=>.intro b (o8 e) q
theorem zF {e:PySem.Expr}{Q:List MV→aa→Prop}{C:Cx}(w:We C v.N v.d v.b)(h:wG run v e ρ σ Q X):WI C ρ e σ Q X:=by
 have plain:run (.e v e ρ σ (lJ Q) X)→WI C ρ e σ Q X:=fun h=>zj (ih _ h C w) fun x σ₁ q=>elF q
 refine A6 h (fun _ h=>plain h) fun f args kws p e1 h1=>ng h1 (fun _ h=>plain h) fun x xp e2 h2=>ifF h2 fun hb h3=>ifB h3 (fun hx h4=>?_) fun _ h4=>ifB h4 (fun hx h5=>?_) fun _ h=>plain h
 ·have hx:=eq_of_beq hx
  have hk:=List.isEmpty_iff.mp (bz hb)
  have hs:=a9 hb
  clear h plain h1 h2 h3 hb
  subst e1 e2 hk hx
  exact nU ih w hs h4
 ·have hx:=eq_of_beq hx
  have hk:=List.isEmpty_iff.mp (bz hb)
  have hs:=a9 hb
  clear h plain h1 h2 h3 h4 hb
  subst e1 e2 hk hx
  exact qw ih w hs h5
end
end
section
section
variable {run:Tk→Prop}(ih:∀t,run t→um t){v:VC}{ρ:Loc}{σ:aa}{Q:MF→Loc→aa→Prop}{X:XP}
include ih
theorem zJ {l:List Stmt}{C:Cx}(w:Ws C v.N v.d v.b)(h:step run (.b v l ρ σ Q X)):WB C ρ l σ Q X:=by
 cases l with
 |nil=>exact nL h
 |cons st rest=>exact rS (ih _ h C w) (fun ρ' σ' q=>(ih (.b v rest ρ' σ' Q X) q).out C w) fun x ρ' σ' q=>q
theorem sg {t e:PySem.Expr}{op:Operator}{pos:Pos}{C:Cx}(w:Ws C v.N v.d v.b)(h:wH run v t op e ρ σ Q):WS C ρ (.AugAssign t op e pos) σ Q X:=by
 refine ng h (fun _ h=>lT h (fun _ h=>h.elim) fun o n p e h1=>?_) fun n p e h1=>ifF h1 fun hk h2=>(elF h2).elim fun a ha h3=>?_
 ·subst e
  exact uK w.e.ok (bX _) (Q2:=tf v ρ Q op n) (ih _ h1 C w.e) (fun x σ₁ q=>(elF q).imp fun z q=>(elF q).imp fun i q=>ih _ q C w.e) fun x i y σ₂ q=>(elF q).imp fun j q=>(fi q).imp fun z q=>(elF (w.e.b.symm▸q)).imp fun _ q=>q
 ·subst e
  refine tr (Option.bind_eq_some_iff.mp ha) fun z hz ha=>?_
  have ha:=aM ha
  subst ha
  exact uJ w.e.ok (w.e.names.symm▸eq_of_beq hk) (w.e.names.symm▸hz) (ih _ h3 C w.e) fun y σ₁ q=>(elF q).imp fun j q=>(fi q).imp fun z q=>w.e.names.symm▸elF q
theorem qu {ts es:List PySem.Expr}{k k2:Nat}{p p2 pos:Pos}{b:Bool}{C:Cx}(w:Ws C v.N v.d v.b)(hw:eu v.N ts es=some b)(h:run (.p v es ρ σ (s8 v ρ Q ts b))):WS C ρ (.Assign [.Tuple ts k p] (.Tuple es k2 p2) pos) σ Q X:=by
 have hT:WL C ρ es σ (s8 v ρ Q ts b) X:=WL.mono (ih _ h C w.e) (fun _ _ q=>q) fun _ _ q=>q.elim
 have hT:WE C ρ (.Tuple es k2 p2) σ (fun x σ₁=>OptEx (eN x) fun vs=>ts.length=vs.length∧(if b then aq (au v.N ts.reverse vs.reverse ρ) (gM Q σ₁)else aq (au v.N ts vs ρ) (gM Q σ₁))) X:=
  kK hT fun vs σ₁ q=>ifF q fun hq q=>⟨⟨bz hq,of_decide_eq_true (a9 (a9 hq))⟩,.intro vs rfl ⟨of_decide_eq_true (bz (a9 hq)),q⟩⟩
 cases b with
 |false=>exact gd w.e.ok rfl (kQ w.e.ok (w.e.names.symm▸hw)) hT fun x σ₁ q=>q.imp fun vs q=>w.e.names.symm▸elF q.2
 |true=>exact pi w.e.ok (w.e.names.symm▸hw) hT fun x σ₁ q=>q.imp fun vs q=>⟨q.1,w.e.names.symm▸elF q.2⟩
theorem mx {t e:PySem.Expr}{pos:Pos}{C:Cx}(w:Ws C v.N v.d v.b)(hc:bT e=false)(h:wJ run v t e ρ σ Q X):WS C ρ (.Assign [t] e pos) σ Q X:=by
 refine ng h (fun _ h1=>lT h1 (fun _ h2=>lT h2 (fun _ h3=>lT h3 (fun _ h4=>h4.elim) fun ts k p et h4=>lT h4 (fun e0 h5=>?_) fun es k2 p2 ee h5=>(elF h5).elim fun b hw h6=>?_) fun o i p et h3=>?_) fun o n p et h2=>?_)
  fun n p et h1=>ng h1 (fun _ h2=>?_) fun es p2 ee h2=>?_
 ·clear h h1 h2 h3 h4
  subst et
  exact gd w.e.ok hc (nR (rU e0)) (ih _ h5 C w.e) fun x σ₁ q=>(elF q).imp fun vs q=>w.e.names.symm▸elF q
 ·clear h h1 h2 h3 h4 h5
  subst et ee
  exact qu ih w hw h6
 ·clear h h1 h2
  subst et
  exact zx hc (ih _ h3 C w.e) (fun x σ₁ q=>ih (.e v o ρ σ₁ (s9 run v ρ Q o i x) noX) q C w.e) (fun x y σ₁ q=>ih (.e v i ρ σ₁ (wW ρ Q o x y) noX) q C w.e) fun x y z σ₁ q=>ifB q (fun _ q=>elF q) fun _ q=>q
 ·clear h h1
  subst et
  exact uO w.e.ok (bX _) hc (ih _ h2 C w.e) (fun x σ₁ q=>ih (.e v o ρ σ₁ (tc v ρ Q n x) noX) q C w.e) fun x y σ₁ q=>elF (w.e.b.symm▸q)
 ·clear h h1
  subst et
  exact kN w.e.ok hc (ih _ h2 C w.e) fun x σ₁ q=>w.e.names.symm▸elF q
 ·clear h h1
  subst et ee
  exact kN (X:=X) (QE:=te v ρ Q n) w.e.ok hc (kM (WL.mono (ih _ h2 C w.e) (fun _ _ q=>q) fun _ _ q=>q.elim) fun vs σ₁ q=>ifF q fun hr q=>⟨⟨hr,q.1⟩,q.2⟩) fun x σ₁ q=>w.e.names.symm▸elF q
theorem nV {e c:Option PySem.Expr}{pos:Pos}{C:Cx}(w:Ws C v.N v.d v.b)(h:RaiseEx v e c σ X):WS C ρ (.Raise e c pos) σ Q X:=by
 cases h with|intro n np x k p1 cpos h h1 h2 q=>
 subst h h1
 have hk:C.env.scope.names.lookup n=some .globalImplicit:=w.e.names.symm▸eq_of_beq (a9 h2)
 exact(Bool.or_eq_true_iff.mp (bz h2)).elim (fun hn=>(eq_of_beq hn)▸pf w.e.ok (qG _) (dz _) ((eq_of_beq hn)▸hk) (by decide) ((eq_of_beq hn)▸q)) fun hn=>(eq_of_beq hn)▸pf w.e.ok (qH _) (dw _) ((eq_of_beq hn)▸hk) (by decide) ((eq_of_beq hn)▸q)
theorem zC {st:Stmt}{C:Cx}(w:Ws C v.N v.d v.b)(h:wD run v st ρ σ Q X):WS C ρ st σ Q X:=by
 cases st with
 |Expr e pos=>exact ifN h fun hc h=>zr w.e.ok hc (ih _ h C w.e) fun x σ₁ q=>(elF q).elim fun u e q=>⟨nC e,q⟩
 |Return e pos=>
  cases e with
  |none=>exact zm h
  |some e=>exact wu (ih _ h C w.e) fun x σ₁ q=>q
 |Assign ts e pos=>
  refine ifN h fun hc h1=>?_
  match ts,h1 with
  |[],h=>exact h.elim
  |_::_::_,h=>exact h.elim
  |[t],h=>exact mx ih w hc h
 |AugAssign t op e pos=>exact sg ih w h
 |If t a b pos=>exact Bu (ih _ h C w.e) (fun σ₁ q=>(ih (.b v a ρ σ₁ Q X) q).out C w) fun σ₁ q=>(ih (.b v b ρ σ₁ Q X) q).out C w
 |While t body els pos=>
  cases els with
  |cons _ _=>exact h.elim
  |nil=>
   refine tr h ?_;clear h;intro I hI turn
   exact pe w.e.ok w.top hI fun m ρ σ hm=>WT.mono (ih _ (turn m ρ σ hm) C w.e) (fun σ₁ q=>(ih (.b v body ρ σ₁ (fc I m Q) X) q).out C w) fun _ q=>q
 |For target iter body els pos=>
  cases els with
  |cons _ _=>exact h.elim
  |nil=>
   exact ifN h fun hs h1=>wv w.e.ok w.top hs (ih _ h1 C w.e) fun l σ₁ q=>q.elim fun I q=>.intro I q.1 (fun x r ρ σ hI=>(q.2.1 x r ρ σ hI).elim fun ρ₁ q=>.intro ρ₁ (w.e.names.symm▸q.1) fun its=>(ih (.b v body ρ₁ σ (rf I r Q) X) q.2).out _ w.hold) q.2.2
 |Raise e c pos=>exact nV ih w h
 |_=>exact h.elim
end
theorem ay (n:Nat):∀t:Tk,run n t→um t:=by
 induction n with
 |zero=>exact fun _ h=>h.elim
 |succ n ih=>
  intro t h
  cases t with
  |e v e ρ σ Q X=>exact fun C w=>zH ih w h
  |o v e ρ σ Q=>
   cases e with
   |none=>exact fun C w=>zi h
   |some e=>exact fun C w=>zh (ih _ h C w)
  |c v e ρ σ KT KF=>exact fun C w=>zI ih w h
  |ch v x ops rs ρ σ KT KF=>exact fun C w=>zG ih w h
  |l v es ρ σ Q X=>exact fun C w=>zE ih w h
  |p v es ρ σ Q=>exact fun C w=>zD ih w h
  |i v e ρ σ Q X=>exact fun C w=>zF ih w h
  |s v st ρ σ Q X=>exact fun C w=>zC ih w h
  |b v l ρ σ Q X=>exact⟨fun C w=>zJ ih w h⟩
end
section
noncomputable def SdS (v:VC)(st:Stmt)(ρ:Loc)(σ:aa)(Q:MF→Loc→aa→Prop)(X:XP):Prop:=∀C,Ws C v.N v.d v.b→WS C ρ st σ Q X
noncomputable def wa (v:VC)(l:List Stmt)(Q:MF→Loc→aa→Prop)(X:XP)(f:MF)(ρ:Loc)(σ:aa):Prop:=match f with
 | .next=>SdB v l ρ σ Q X
 | .ret x=>Q (.ret x) ρ σ
noncomputable def BX (v:VC)(l:List Stmt)(m:Nat)(I:Nat→Loc→aa→Prop)(Q:MF→Loc→aa→Prop)(X:XP)(ρ:Loc)(σ:aa):Prop:=SdB v l ρ σ (fc I m Q) X
noncomputable def Ja (v:VC)(l:List Stmt)(Q:MF→Loc→aa→Prop)(X:XP)(ρ:Loc)(σ:aa):Prop:=SdB v l ρ σ Q X
noncomputable def BB (v:VC)(l:List Stmt)(I:List MV→Loc→aa→Prop)(r:List MV)(Q:MF→Loc→aa→Prop)(X:XP)(ρ:Loc)(σ:aa):Prop:=SdB v l ρ σ (rf I r Q) X
noncomputable def Hx (v:VC)(t:PySem.Expr)(l rest:List Stmt)(Q:MF→Loc→aa→Prop)(X:XP)(ρ:Loc)(items:List MV)(σ:aa):Prop:=∃(I:List MV→Loc→aa→Prop),I items ρ σ∧
 (∀x r ρ σ,I (x::r) ρ σ→∃ρ₁,eg v.N ρ t x=some ρ₁∧BB v l I r Q X ρ₁ σ)∧(∀ρ σ,I [] ρ σ→SdB v rest ρ σ Q X)
noncomputable def ifK (v:VC)(l rest:List Stmt)(Q:MF→Loc→aa→Prop)(X:XP)(ρ:Loc)(σ:aa):Prop:=SdB v l ρ σ (wa v rest Q X) X
noncomputable abbrev kR (s:Stmt):PySem.Expr:=(bf s).test
noncomputable abbrev bj (s:Stmt):List Stmt:=(bf s).body
noncomputable abbrev nT (s:Stmt):List Stmt:=(bf s).els
noncomputable abbrev sb (s:Stmt):PySem.Expr:=(bf s).target
noncomputable abbrev wK (s:Stmt):Pos:=(bf s).pos
noncomputable abbrev hd (l:List Stmt):Stmt:=l.headD (.Pass default)
section
variable {v:VC}{st:Stmt}{l rest:List Stmt}{ρ:Loc}{σ:aa}{Q Q':MF→Loc→aa→Prop}{X X':XP}
theorem SdB.run (n:Nat)(h:Mine.run n (.b v l ρ σ Q X)):SdB v l ρ σ Q X:=ay n _ h
theorem SdB.cons (h:SdS v st ρ σ (wa v rest Q X) X):SdB v (st::rest) ρ σ Q X:=⟨fun C w=>rS (h C w) (fun ρ' σ' (q:SdB v rest ρ' σ' Q X)=>q.out C w) fun x ρ' σ' q=>q⟩
theorem SdB.cut (n:Nat)(hl:l=hd l::l.tail)(h:Mine.run n (.s v (hd l) ρ σ (wa v l.tail Q X) X)):SdB v l ρ σ Q X:=hl▸SdB.cons (ay n _ h)
theorem SdB.if_ (n:Nat)(hl:l= .If (bf (hd l)).test (bf (hd l)).body (bf (hd l)).els (bf (hd l)).pos::l.tail)(h:Mine.run n (.c v (bf (hd l)).test ρ σ (ifK v (bf (hd l)).body l.tail Q X ρ) (ifK v (bf (hd l)).els l.tail Q X ρ))):SdB v l ρ σ Q X:=
 hl▸SdB.cons fun C w=>Bu (ay n _ h C w.e) (fun σ₁ (q:SdB v _ ρ σ₁ _ X)=>q.out C w) fun σ₁ (q:SdB v _ ρ σ₁ _ X)=>q.out C w
theorem SdB.while_ (n:Nat)(hl:l= .While (bf (hd l)).test (bf (hd l)).body [] (bf (hd l)).pos::l.tail)(I:Nat→Loc→aa→Prop)(start:∃m,I m ρ σ)
  (turn:∀m ρ σ,I m ρ σ→Mine.run n (.c v (bf (hd l)).test ρ σ (BX v (bf (hd l)).body m I Q X ρ) (Ja v l.tail Q X ρ))):SdB v l ρ σ Q X:=hl▸SdB.cons fun C w=>pe w.e.ok w.top (I:=I) start fun m ρ σ hm=>
 WT.mono (ay n _ (turn m ρ σ hm) C w.e) (fun σ₁ (q:SdB v _ ρ σ₁ (fc I m Q) X)=>(q.out C w).mono (fun f ρ' σ' q=>match f,q with| .next,q=>q| .ret _,q=>q) fun _ _ q=>q) fun _ q=>q
theorem SdB.for_ (n:Nat)(hl:l= .For (bf (hd l)).target (bf (hd l)).test (bf (hd l)).body [] (bf (hd l)).pos::l.tail)(hs:kg (bf (hd l)).test=false)
  (h:Mine.run n (.i v (bf (hd l)).test ρ σ (Hx v (bf (hd l)).target (bf (hd l)).body l.tail Q X ρ) noX)):SdB v l ρ σ Q X:=hl▸SdB.cons fun C w=>wv w.e.ok w.top hs (ay n _ h C w.e) fun l σ₁ q=>q.elim fun I q=>.intro I q.1
 (fun x r ρ σ hI=>(q.2.1 x r ρ σ hI).elim fun ρ₁ q=>.intro ρ₁ (w.e.names.symm▸q.1) fun its=>((show SdB v _ ρ₁ σ (rf I r Q) X from q.2).out _ w.hold).mono (fun f ρ' σ' q=>match f,q with| .next,q=>q| .ret _,q=>q) fun _ _ q=>q) fun ρ σ hI=>q.2.2 ρ σ hI
theorem SdB.skip (h:Q .next ρ σ):SdB v [] ρ σ Q X:=⟨fun C w=>nL h⟩
theorem SdB.mono (h:SdB v l ρ σ Q X)(hQ:∀f ρ σ,Q f ρ σ→Q' f ρ σ)(hX:∀c σ,X c σ→X' c σ):SdB v l ρ σ Q' X':=⟨fun C w=>(h.out C w).mono hQ hX⟩
end
section
variable {σ σ₂:aa}{vs:List MV}{x:MV}{r:R MV}{k n:Nat}{g K m:Str}{ρ:Loc}{id:Nat}
theorem Fn.sd (i:Nat)(hf:bw.lookup g=some (ah i))(hka:bd g=false)(hen:aD (ah i).1 (ah i).2.2 vs=some ρ)
  (h:∀d,k≤d→SdB ⟨(ah i).2.2.names,d,σ.length⟩ (ah i).2.1 ρ σ (fun f ρ' σ'=>ends false σ (.ok (f,ρ') σ')=some r) (fun c σ'=>r= .ex c σ')):Fn (k+1) g vs σ r:=
 FnS.mk' hf hen false hka fun d b hd hb C w=>((h d hd).out C (hb rfl▸w)).mono (fun f ρ' σ' q=>.intro r q rfl) fun c σ' e=>e.symm
theorem Fn.ex (i:Nat){P:R MV→Prop}(hf:bw.lookup g=some (ah i))(hka:bd g=false)(hen:aD (ah i).1 (ah i).2.2 vs=some ρ)
  (h:SdB ⟨(ah i).2.2.names,k,σ.length⟩ (ah i).2.1 ρ σ (fun f ρ' σ'=>∃r,ends false σ (.ok (f,ρ') σ')=some r∧P r) (fun c σ'=>P (.ex c σ'))):FnS (k+1) g vs σ (.all P):=
 FnS.mk' hf hen false hka fun d b hd hb C w=>(h.out C ((hb rfl▸w).le hd)).mono (fun f ρ' σ' q=>q.elim fun r q=>.intro r q.1 q.2) fun c σ' e=>e
theorem Fn.vc (i n:Nat)(hf:bw.lookup g=some (ah i))(hka:bd g=false)(hen:aD (ah i).1 (ah i).2.2 vs=some ρ)
  (h:∀d,k≤d→Mine.run n (.b ⟨(ah i).2.2.names,d,σ.length⟩ (ah i).2.1 ρ σ (fun f ρ' σ'=>ends false σ (.ok (f,ρ') σ')=some r) (fun c σ'=>r= .ex c σ'))):Fn (k+1) g vs σ r:=
 Fn.sd i hf hka hen fun d hd=>SdB.run n (h d hd)
theorem Mt.sd (i j:Nat)(hf:aU.lookup (K,m)=some (al i j))(hK:cu K=true)(hka:bd m=false)(hen:aD (al i j).1 (al i j).2.2 (.ref id::vs)=some ρ)
  (h:∀d,k≤d+1→SdB ⟨(al i j).2.2.names,d,σ.length⟩ (al i j).2.1 ρ σ (fun f ρ' σ'=>ends false σ (.ok (f,ρ') σ')=some r) (fun c σ'=>r= .ex c σ')):Mt k K m id vs σ r:=
 .mk _ _ _ ρ hf hK hen fun d hd C w=>((h d hd).out C w).mono (fun f ρ' σ' q=>.intro r q rfl) fun c σ' e=>e.symm
theorem Mt.vc (i j n:Nat)(hf:aU.lookup (K,m)=some (al i j))(hK:cu K=true)(hka:bd m=false)(hen:aD (al i j).1 (al i j).2.2 (.ref id::vs)=some ρ)
  (h:∀d,k≤d+1→Mine.run n (.b ⟨(al i j).2.2.names,d,σ.length⟩ (al i j).2.1 ρ σ (fun f ρ' σ'=>ends false σ (.ok (f,ρ') σ')=some r) (fun c σ'=>r= .ex c σ'))):Mt k K m id vs σ r:=
 Mt.sd i j hf hK hka hen fun d hd=>SdB.run n (h d hd)
theorem Fn.clsVc (i j n:Nat)(hg:cu g=true)(hf:aU.lookup (g,.ofString "__init__")=some (al i j))(hen:aD (al i j).1 (al i j).2.2 (.ref σ.length::vs)=some ρ)
  (h:∀d b,k≤d→Mine.run n (.b ⟨(al i j).2.2.names,d,b⟩ (al i j).2.1 ρ (σ++[.inst g []]) (fun f _ σ'=>f= .next∧σ'=σ₂) noX)):Fn (k+1) g vs σ (.ok (.ref σ.length) σ₂):=
 Fn.cls hg hf hen fun d b hd C w=>(SdB.run n (h d b hd)).out C w
theorem aP {f:MF}{ρ':Loc}{σ':aa}(hv:aL x=true)(hf:f= .ret x)(hs:σ'=σ₂)(hl:σ₂.length=σ.length):ends false σ (.ok (f,ρ') σ')=some (.ok x σ₂):=by
 subst hf hs;exact kr hv hl
theorem d8 {ρ':Loc}{σ':aa}(hs:σ'=σ₂)(hl:σ₂.length=σ.length):ends false σ (.ok (.next,ρ') σ')=some (.ok .none σ₂):=by
 subst hs;exact rk hl
end
theorem ax {B:Bx}{n:Nat}{m:Int}{rest:aa}(h:B.Ok n)(hn:n≤1000000000)(hm:0<m)(hm2:m<18446744073709551616):
  Fn 1 (.ofString "_law_take") [.ref 0,.int m] (B.mo::rest) (.ok (.int (B.digit m)) ((B.next m).mo::rest)):=by
 rcases h with ⟨ha,hb0,hb1,hc0,hc1⟩
 have hb2:0≤pX B.b (B.c+1)∧pX B.b (B.c+1)<2147483647:=⟨Int.emod_nonneg _ (by decide),Int.emod_lt_of_pos _ (by decide)⟩
 have hlog:m.natAbs.log2<9000:=by
  have:=(Nat.log2_lt (show m.natAbs≠0 by exact (lE 0xc4c025803500402) hm)).mpr (show m.natAbs<2^64 by exact (lE 0xc623000000000000000068d600d60000000000000000d1803500402) hm hm2)
  exact (lA 0xc451940c600c44010c01) this
 refine Fn.vc 24 60 (ρ:=[lc "box" (.ref 0),lc "many" (.int m),lc "digit" .undef,lc "blend" .undef]) rfl rfl rfl fun d _=>?_
 refine Jg (fun h0=>?_) (fun h0=>?_)
 ·exact Jn hm ⟨hm,hlog⟩ (aP rfl (congrArg (fun x=>MF.ret (.int x)) (show B.a%m=B.digit m from(if_pos h0).symm)) (by unfold Bx.next;refine Kh (if_pos h0)▸?_;rfl) rfl)
 ·refine Kd (.inl (by decide)) ⟨by decide,by decide,?_⟩ (by decide) (.inl (by decide)) ⟨by decide,by decide,?_⟩ (by decide) ⟨by decide,by decide⟩ hm ?_
  ·refine(?_:(B.b+40127*(B.c+1)+29).natAbs<2^64)
   exact lin 0x6318c623000000000000000068d64e888620441084e5f90600d1600843408402a87fffffed38c01a0020143b9aca0030c01 [_] [_,_] (by kernel_rfl) hn hb0 hb1 hc0 hc1
  ·refine(?_:(pX B.b (B.c+1)+92959*(B.c+1)).natAbs<2^64)
   exact lin 0xc63188c0000000000000001a3590c40880116b1f20c21cd43fffffff9c610d02100a8b00401a0020143b9aca0030c01 [_] [_,_] (by kernel_rfl) hn hc0 hc1 hb2
  ·exact aP rfl (congrArg (fun x=>MF.ret (.int x)) (show _=B.digit m from(if_neg h0).symm)) (by unfold Bx.next;refine Kh (if_neg h0)▸?_;rfl) rfl
end
section
set_option maxHeartbeats 4000000
noncomputable def gj:Code→Bool
 | .builtin id _=>!Builtin.Bytes.decodersThatHold.contains id
 |_=>true
noncomputable def Cln (Γ:PySem.Ctx):Prop:=gj Γ.code=true∧∀x∈Γ.below,gj x.1=true
noncomputable def HE (Γ:PySem.Ctx):Prop:=∀x∈Γ.below,gj x.1=true
noncomputable def wpS {α:Type}(M:Model)(A:Around)(t:Sem α)(Q:α→Shared→Prop)(E:Value→Shared→Prop)(s:Shared):Prop:=
 ∀Γ p,PySem.Ctx.In Γ A→Cln Γ→Sem.wp M Γ t (fun a _ s'=>Q a s') (fun e _ s'=>E e s') p s
noncomputable def bP (M:Model)(A:Around)(c:Code)(R:Result→Shared→Prop)(s:Shared):Prop:=
 ∀Γ p,PySem.Ctx.code Γ=c→Γ.Below A→HE Γ→wpCode M Γ R p s
section
variable {α β:Type}{M:Model}{A:Around}{E:Value→Shared→Prop}{s:Shared}
theorem ar {t:Sem α}{Q:α→Shared→Prop}(h:wpAny M A t Q E s):wpS M A t Q E s:=fun Γ p hΓ _=>h Γ p hΓ
theorem aO {t:Sem α}{Q Q':α→Shared→Prop}{E':Value→Shared→Prop}(h:wpS M A t Q E s)(hQ:∀a s,Q a s→Q' a s)(hE:∀e s,E e s→E' e s):wpS M A t Q' E' s:=
 fun Γ p hΓ hc=>Sem.wp_mono M Γ t (fun a _ s=>hQ a s) (fun e _ s=>hE e s) p s (h Γ p hΓ hc)
theorem aj {a:α}{Q:α→Shared→Prop}(h:Q a s):wpS M A (pure a) Q E s:=fun _ _ _ _=>h
theorem ae {m:Sem α}{f:α→Sem β}{Q:β→Shared→Prop}(h:wpS M A m (fun a s'=>wpS M A (f a) Q E s') E s):wpS M A (m >>= f) Q E s:=fun Γ p hΓ hc=>by
 rewrite[Sem.wp_bind']
 exact Sem.wp_mono M Γ m (fun a p' s' h'=>h' Γ p' hΓ hc) (fun _ _ _ h'=>h') p s (h Γ p hΓ hc)
theorem aH {vs:List Value}{m:Sem α}{Q:α→Shared→Prop}(h:wpS M A m Q E s):wpS M A (holding vs m) Q E s:=
 fun Γ p hΓ hc=>by rewrite[Sem.wp_holding];exact h Γ p hΓ hc
theorem rO {vs:List Value}{m:Sem α}{Q:α→Shared→Prop}(h:wpS M A m Q E s):wpS M A (m.keep vs) Q E s:=
 fun Γ p hΓ hc=>by rewrite[Sem.wp_keep];exact h Γ p hΓ hc
theorem em {m:Sem α}{k:Value→Sem Unit}{Q:α→Shared→Prop}
  (h:wpS M A m Q (fun e s'=>wpS M A (k e) (fun _ s''=>E e s'') E s') s):wpS M A (m.onRaise k) Q E s:=fun Γ p hΓ hc=>by
 rewrite[Sem.wp_onRaise]
 exact Sem.wp_mono M Γ m (fun _ _ _ h'=>h') (fun e p' s' h'=>h' Γ p' hΓ hc) p s (h Γ p hΓ hc)
theorem aN {pos:Pos}{Q:Unit→Shared→Prop}(h:Q () s):wpS M A (standAt pos) Q E s:=ar (wpAny_standAt h)
theorem jV {Q:Unit→Shared→Prop}(h:Q () s):wpS M A point Q E s:=ar (wpAny_point h)
theorem cA {t:Sem α}{a:α}{Q:α→Shared→Prop}(e:t=pure a)(h:Q a s):wpS M A t Q E s:=ar (wpAny_of_eq e h)
theorem kx {Γ:PySem.Ctx}(h:Cln Γ)(c:Code)(hd:Option Value)(p:Pos):HE (Γ.enter c hd p):=by
 intro x hx
 rcases List.mem_cons.mp hx with rfl|hx
 ·exact h.1
 ·exact h.2 x hx
theorem kI {c:Code}{Q:Value→Shared→Prop}
  (hc:bP M A c (fun r s'=>match r with| .ok (.ret v)=>Q v s'| .ok _=>False| .error e=>E e s') s):wpS M A (runValue c) Q E s:=
 fun Γ p hΓ h=>by rewrite[Sem.wp_runValue];exact hc _ p rfl (hΓ.enter c none p (by intro x;exact Ji x)) (kx h c none p)
theorem cH {f:Value}{pos:List Value}{kw:List (Str × Value)}{Q:Value→Shared→Prop}
  (hc:bP M A (.call f ⟨pos,kw⟩) (fun r s'=>match r with| .ok (.ret v)=>Q v s'| .ok _=>False| .error e=>E e s') s):
  wpS M A (call f pos kw) Q E s:=kI hc
theorem uA {c:Code}{h:Option Value}{Q:Flow→Shared→Prop}
  (hc:bP M (A.mark h) c (fun r s'=>match r with| .ok f=>Q f s'| .error e=>E e s') s) (hnb:h≠some byPass:=by intro x;cases x):
  wpS M A (PySem.run c h) Q E s:=fun Γ p hΓ hcl=>by rewrite[Sem.wp_run];exact hc _ p rfl (hΓ.enter c h p hnb) (kx hcl c h p)
theorem fC {c:Code}{R R':Result→Shared→Prop}(h:bP M A c R s)(hR:∀r s,R r s→R' r s):bP M A c R' s:=
 fun Γ p hc hΓ hcl=>wpCode_mono hR (h Γ p hc hΓ hcl)
theorem be {c:Code}{R:Result→Shared→Prop}(hok:gj c=true)
  (h:wpS M (A.under c) (M.den c) (fun fin s'=>match fin with| .done f=>R (.ok f) s'| .again c'=>c'.quiet=true∧bP M A c' R s')
   (fun e s'=>R (.error e) s') s):bP M A c R s:=fun Γ p hc hΓ hcl=>by
 rewrite[wpCode_iff_wp];refine Kh hc▸?_
 refine Sem.wp_mono M Γ _ (fun fin p' s' h'=>?_) (fun _ _ _ h'=>h') p s (h Γ p (hc▸hΓ.in) ⟨by rewrite[hc];exact hok,hcl⟩)
 cases fin with
 |done f=>exact h'
 |again c'=>exact Jg h'.1 (h'.2 (Γ.goto c') p' rfl (hΓ.goto c') hcl)
variable {env:Env}
theorem gU {Q:Flow→Shared→Prop}(h:Q .next s):wpS M A (execs [] env) Q E s:=fun _ _ _ _=>h
theorem l4 {st:Stmt}{rest:List Stmt}{Q:Flow→Shared→Prop}
  (h:wpS M A (exec st env) (fun f s'=>match f with| .next=>wpS M A (execs rest env) Q E s'|f=>Q f s') E s):wpS M A (execs (st::rest) env) Q E s:=by
 rewrite[execs_cons]
 refine ae (aO h (fun f s' h'=>?_) fun _ _ x=>x)
 cases f<;>first|exact h'|exact aj h'
theorem Bm {e:PySem.Expr}{pos:Pos}{Q:Flow→Shared→Prop}(h:wpS M A (eval e env) (fun v s'=>match v with| .ref _=>False|_=>Q .next s') E s)
  (hi:interactive env=false) (hs:swapsWith e none pos.line env=pure false):wpS M A (exec (.Expr e pos) env) Q E s:=by
 refine Kh (exec_Expr env e pos hi hs)▸?_
 refine ae (aN (ae (aO h (fun v s' h'=>?_) fun _ _ x=>x)))
 have hv:∀a,v≠.ref a:=fun a hva=>by subst hva;exact h'
 refine Kh (dropValue_plain hv)▸?_
 refine aj ?_
 cases v<;>first|exact h'|exact(hv _ rfl).elim
theorem ws {x:Str}{pos' pos:Pos}{value:PySem.Expr}{Q:Flow→Shared→Prop}
  (h:wpS M A (eval value env) (fun v s₁=>wpAny M A (storeName env x v) (fun _=>Q .next) E s₁) E s)
  (hs:swapsWith value (some (.Name x pos')) pos.line env=pure false):wpS M A (exec (.Assign [.Name x pos'] value pos) env) Q E s:=by
 refine Kh (exec_Assign_Name env x pos' value pos hs)▸?_
 refine ae (aN (ae (aO h (fun v s₁ h₁=>?_) fun _ _ x=>x)))
 exact ae (aN (ae (ar (wpAny_mono (wpAny_bindName h₁) (fun _ _ x=>aj x) fun _ _ x=>x))))
theorem uq {e:PySem.Expr}{pos:Pos}{Q:Flow→Shared→Prop}(h:wpS M A (eval e env) (fun v=>Q (.ret v)) E s):wpS M A (exec (.Return (some e) pos) env) Q E s:=by
 rewrite[exec_Return_some]
 exact ae (aN (ae (aO h (fun v s' h'=>aj h') fun _ _ x=>x)))
theorem Jc {test:PySem.Expr}{body orelse:List Stmt}{pos:Pos}{Q:Flow→Shared→Prop}
  (h:wpAny M A (isTrue test env (eval test env)) (fun b s₂=>if b then wpS M A (execs body env) Q E s₂ else wpS M A (execs orelse env) Q E s₂) E s):wpS M A (exec (.If test body orelse pos) env) Q E s:=by
 rewrite[exec_If]
 refine ae (aN (ae (ar (wpAny_mono h (fun b s₂ h₂=>?_) fun _ _ x=>x))))
 cases b<;>exact h₂
theorem wr {test:PySem.Expr}{body orelse:List Stmt}{pos:Pos}{Q:Flow→Shared→Prop}
  (h:bP M A (.whileLoop test body orelse env) (fun r s'=>∃f,r= .ok f∧Q f s') s):wpS M A (exec (.While test body orelse pos) env) Q E s:=by
 rewrite[exec_While]
 refine ae (aN ?_)
 unfold runOwn
 refine em (uA (fC h fun r s' hr=>?_))
 refine tr hr ?_;clear hr;intro f κ;subst κ;intro hq
 exact hq
theorem l3 {prog:Program}{w:World}{R:Result→Shared→Prop}{test:PySem.Expr}{body orelse:List Stmt}
  (turn:∀E',wpAny (model prog w) A (isTrue test env (eval test env)) (fun b s₂=>
    if b then ∀E',wpS (model prog w) A (execs body env) (fun f s₃=>match f with
      | .next| .cont=>bP (model prog w) A (.whileLoop test body orelse env) R s₃
      | .brk=>R (.ok .next) s₃
      | .ret v=>R (.ok (.ret v)) s₃) E' s₂
    else ∀E',wpS (model prog w) A (execs orelse env) (fun f s₃=>R (.ok f) s₃) E' s₂) E' s):bP (model prog w) A (.whileLoop test body orelse env) R s:=by
 refine be rfl ?_
 refine(?_:wpS _ A ((whileTurn test body orelse env).onRaise (fun x=>do noteFrame x env;theTreesLotGoes x)) _ _ s)
 refine em ?_
 simp only[whileTurn]
 refine ae (ar (wpAny_mono (turn _) (fun b s₂ h₂=>?_) fun _ _ h'=>h'))
 cases b with
 |false=>
  simp only[Bool.false_eq_true,if_false]at h₂ ⊢
  exact ae (aO (h₂ _) (fun f s₃ h₃=>aj h₃) fun _ _ h'=>h')
 |true=>
  simp only[if_true]at h₂ ⊢
  refine ae (aO (h₂ _) (fun f s₃ h₃=>?_) fun _ _ h'=>h')
  cases f with
  |next=>exact aj ⟨rfl,h₃⟩
  |cont=>exact aj ⟨rfl,h₃⟩
  |brk=>exact aj h₃
  |ret v=>exact aj h₃
theorem HD {e₁ e₂:PySem.Expr}{rest:List PySem.Expr}{pos:Pos}{Q:Value→Shared→Prop}
  (h:wpS M A (eval e₁ env) (fun v s₁=>wpAny M A (truthy v) (fun c s₂=>if c then wpS M A (eval (.BoolOp .And (e₂::rest) pos) env) Q E s₂ else Q v s₂) E s₁) E s):wpS M A (eval (.BoolOp .And (e₁::e₂::rest) pos) env) Q E s:=by
 refine(?_:wpS M A (do
  let v ← eval e₁ env
  standAt pos
  let c ← holding [v] (truthy v)
  match BoolOp.And,c with
  | .And,false| .Or,true=>pure v
  |_,_=>boolOp pos .And (eval e₂ env::evalEach rest env)) Q E s)
 refine ae (aO h (fun v s₁ h₁=>ae (aN (ae (aH (ar (wpAny_mono h₁ (fun c s₂ h₂=>?_) fun _ _ x=>x)))))) fun _ _ x=>x)
 cases c with
 |false=>exact aj h₂
 |true=>exact h₂
theorem Jb {e₁ e₂:PySem.Expr}{rest:List PySem.Expr}{pos:Pos}{Q:Value→Shared→Prop}
  (h:wpS M A (eval e₁ env) (fun v s₁=>wpAny M A (truthy v) (fun c s₂=>if c then Q v s₂ else wpS M A (eval (.BoolOp .Or (e₂::rest) pos) env) Q E s₂) E s₁) E s):wpS M A (eval (.BoolOp .Or (e₁::e₂::rest) pos) env) Q E s:=by
 refine(?_:wpS M A (do
  let v ← eval e₁ env
  standAt pos
  let c ← holding [v] (truthy v)
  match BoolOp.Or,c with
  | .And,false| .Or,true=>pure v
  |_,_=>boolOp pos .Or (eval e₂ env::evalEach rest env)) Q E s)
 refine ae (aO h (fun v s₁ h₁=>ae (aN (ae (aH (ar (wpAny_mono h₁ (fun c s₂ h₂=>?_) fun _ _ x=>x)))))) fun _ _ x=>x)
 cases c with
 |false=>exact h₂
 |true=>exact aj h₂
theorem jA {x:Sem Value}{rest:List (Bool × Sem Value)}{Q:List Value→Shared→Prop}
  (h:wpS M A x (fun v s₁=>wpS M A (spliced rest) (fun vs s₂=>Q (v::vs) s₂) E s₁) E s):wpS M A (spliced ((false,x)::rest)) Q E s:=by
 rewrite[spliced]
 refine ae (aO h (fun v s₁ h₁=>?_) fun _ _ x=>x)
 simp only[Bool.false_eq_true,if_false]
 exact ae (aj (ae (aH (aO h₁ (fun vs s₂ h₂=>aj h₂) fun _ _ x=>x))))
theorem pa {f:Value}{args:List (Bool × Sem Value)}{Q:Args→Shared→Prop}(hn:args=[]∨∃x r,args=(false,x)::r)
  (h:wpS M A (spliced args) (fun vs s'=>Q ⟨vs,[]⟩ s') E s):wpS M A (evalArgs f true args []) Q E s:=by
 unfold evalArgs
 rcases hn with rfl|⟨x,r,rfl⟩
 ·refine(?_:wpS M A (spliced [] >>= _) Q E s)
  refine ae (aO h (fun vs s' h'=>?_) fun _ _ x=>x)
  refine ae (aj ?_)
  refine aH ?_
  exact ae (aj (ae (aj (aj h'))))
 ·refine(?_:wpS M A (spliced ((false,x)::r) >>= _) Q E s)
  refine ae (aO h (fun vs s' h'=>?_) fun _ _ x=>x)
  refine aH ?_
  exact ae (aj (ae (aj (aj h'))))
theorem pb {P:Heap→Prop}{f:Value}{first:List Value}{pos:Pos}{args:List (Bool × Sem Value)}{Q:Value→Shared→Prop}(hplain:args.any (·.1)=false)
  (hk:∀h,P h→∃k,(k=Keeper.frame∨k=Keeper.machine∨k=Keeper.boundFrame)∧Looks M h (keeperOf f) k)
  (h:wpS M A (evalArgs f true args []) (fun a s₁=>P s₁.heap∧wpS M A (call f (first++a.pos) a.kw) Q E s₁) E s):wpS M A (callWith pos f first args []) Q E s:=by
 unfold callWith
 refine ae (aH (aO h (fun a s₁ h₁=>ae (aN ?_)) fun _ _ x=>x))
 refine tr (hk _ h₁.1) fun k hk' L=>?_
 simp only[hplain,List.any_nil,Bool.or_false]
 refine ae (ar (L.here ?_))
 have tail:∀{t:Sem Value},wpS M A t Q E s₁→wpS M A (t >>= fun r=>holding [r] point >>= fun _=>pure r) Q E s₁:=
  fun ht=>ae (aO ht (fun r s₂ hr=>ae (aH (jV (aj hr)))) fun _ _ x=>x)
 have marked (mk:Value):wpS M A (callMarked mk f (first++a.pos) a.kw) Q E s₁:=by unfold callMarked;exact rO h₁.2
 rcases hk' with rfl|rfl|rfl<;>dsimp only<;>first|exact tail h₁.2|(split<;>first|exact tail h₁.2|exact tail (marked _))
end
end
section
set_option maxHeartbeats 4000000
section
variable {prog:Program}{w:World}{A:Around}{R:Result→Shared→Prop}{s:Shared}
theorem ek {E':Value→Shared→Prop}{a:Addr}{args:Args}{o:Obj}{fd:FuncData}{body:List Stmt}(hroom:A.depth<recursionLimit)(ho:s.heap.get? a=some o)
  (hd':o.data= .func fd) (hco:fd.scope.isCoroutine=false) (hgen:fd.scope.isGenerator=false) (hbody:fd.body= .stmts body) (hcd:s.heap.CodeRec fd.code fd.qualname) (hE:∀e s',E' e s'→R (.error e) s')
  (h:wpAny (model prog w) A.in1 (bindArgs fd args) (fun binds s₁=>
   wpAny (model prog w) A.in1 (newFunctionEnv fd.scope fd.globals fd.closure binds (fd.qualname++".<locals>.") (some a) fd.code none fd.builtins)
    (fun env s₂=>s₂.heap.NoLimit∧bP (model prog w) A (.func body env) R s₂) E' s₁) E' s):
  bP (model prog w) A (.call (.ref a) args) R s:=by
 refine be rfl ?_
 refine(?_:wpS _ A.in1 (callAny (.ref a) args) _ _ s)
 simp only[callAny]
 refine ae (ar (wpAny_load ho ?_))
 refine Ju hcd ?_;clear hcd;intro c oc vs tq hc hoc hdc hq
 simp only[hd',callFunction,hco,hgen,hbody,hc]
 replace h:=hc▸h
 refine ae (m:=field (.ref c) 1) (ar (wpAny_field hoc hdc hq (ae (aj ?_))))
 refine ae (ar (wpAny_mono h (fun binds s₁ h₁=>ae (ar (wpAny_mono h₁ (fun env s₂ h₂=>ae (ar (wpAny_enterFrame h₂.1 hroom
  (aj (And.intro rfl h₂.2))))) fun e s' x=>hE e s' x))) fun e s' x=>hE e s' x))
theorem uo {body:List Stmt}{env:Env}
  (h:∀E',wpS (model prog w) (A.deeper env) (execs body env) (fun f s'=>R (.ok (.ret (match f with| .ret v=>v|_=>.none))) s') E' s):bP (model prog w) A (.func body env) R s:=by
 refine be rfl ?_
 refine(?_:wpS _ (A.deeper env) (do point;match ← (execs body env).onRaise (leaving env)with| .ret v=>ret v|_=>ret .none) _ _ s)
 refine ae (jV (ae (em (aO (h _) (fun f s' h'=>?_) fun _ _ h'=>h'))))
 cases f<;>exact aj h'
end
structure TOk (C:Cx):Prop where
 ok:CxOk C
 guards:C.A.guards=some []
noncomputable def WtE (C:Cx)(ρ:Loc)(e:PySem.Expr)(σ:aa)(Q:MV→aa→Prop):Prop:=∀g K E,St C ρ σ g→gE C ρ g Q K→wpS (model pw C.w) C.A (eval e C.env) K E g.s
noncomputable def WtL (C:Cx)(ρ:Loc)(es:List PySem.Expr)(σ:aa)(Q:List MV→aa→Prop):Prop:=∀g K E pos,St C ρ σ g→ur C ρ g Q K→wpS (model pw C.w) C.A (spliced (backTo pos (starEach es C.env))) K E g.s
noncomputable def WtS (C:Cx)(ρ:Loc)(st:Stmt)(σ:aa)(Q:MF→Loc→aa→Prop):Prop:=∀g K E,St C ρ σ g→EndS C g Q K→wpS (model pw C.w) C.A (exec st C.env) K E g.s
noncomputable def WtB (C:Cx)(ρ:Loc)(l:List Stmt)(σ:aa)(Q:MF→Loc→aa→Prop):Prop:=∀g K E,St C ρ σ g→EndS C g Q K→wpS (model pw C.w) C.A (execs l C.env) K E g.s
noncomputable def WtW (C:Cx)(ρ:Loc)(t:PySem.Expr)(body:List Stmt)(σ:aa)(Q:MF→Loc→aa→Prop):Prop:=∀g K,St C ρ σ g→EndS C g Q K→bP (model pw C.w) C.A (.whileLoop t body [] C.env) (fun r s'=>∃f,r= .ok f∧K f s') g.s
noncomputable def WtK (C:Cx)(f:Str)(vs:List MV)(σ:aa)(Q:MV→aa→Prop):Prop:=∀ρ g K E rvs fv,St C ρ σ g→Rgl C g vs rvs→bJ C.w.params f fv→gE C ρ g Q K→wpS (model pw C.w) C.A (call fv rvs) K E g.s
section
variable {C:Cx}{σ σ₁ σ₂:aa}{ρ ρ':Loc}{v x:MV}{vs:List MV}{e:PySem.Expr}{pos:Pos}{g:Gh}{Q Q1:MV→aa→Prop}{QL A:List MV→aa→Prop}{QS QS1:MF→Loc→aa→Prop}{KT KF:aa→Prop}{args es:List PySem.Expr}
theorem gA {A:Arguments}{body:List Stmt}{sc:Scope}{dV:Value}{a:Addr}{d:Nat}{mvs:List MV}{rvs args:List Value}{ka:Bool}{ρ0:Loc}{K:Value→Shared→Prop}{E:Value→Shared→Prop}
  (tok:TOk C) (hd:C.A.depth+1+2*d≤600) (hu:C.A.units+3+20*d≤9000) (FA:FunAt C.w.params a A body sc dV) (fo:FunOk A sc) (T:St C ρ0 σ g) (hR:Rgl C g mvs rvs)
  (hbind:∀fd:FuncData,fd.params=A→fd.defaults=dV→BindsTo g.s fd ⟨args,[]⟩ ((A.args.map (·.arg)).zip rvs))
  (hb:∀C',TOk C'→CxF C'→C'.w=C.w→C'.B=C.B→C'.env.scope=sc→C'.d=d→C'.b=(if ka then C.b else σ.length)→WtB C' ((A.args.map (·.arg)).zip mvs++d7 sc.names ((A.args.map (·.arg)).zip mvs)) body σ (fun f ρ' σ'=>OptEx (ends ka σ (.ok (f,ρ') σ')) fun r=>eA r Q noX))
  (P:gE C ρ0 g Q K):bP (model pw C.w) C.A (.call (.ref a) ⟨args,[]⟩) (fun r s'=>match r with| .ok (.ret v)=>K v s'| .ok _=>False| .error e=>E e s') g.s:=by
 cases FA with|mk oc od osl name qual kV doc pm an cdv ct hK hcd=>
 have ok:=tok.ok
 have KH:(KF C.w.params).In g.s.heap:=T.S.elim fun mu h=>h.elim fun prot S=>ok.K.keeps S.F.keep
 have hroom:C.A.depth<recursionLimit:=Nat.lt_of_lt_of_le (Nat.lt_of_lt_of_le (Nat.lt_of_lt_of_le (Nat.lt_succ_self _) (Nat.le_add_right _ (2*d))) hd) (by decide)
 refine ek (E':=fun _ _=>False) hroom (KH _ _ hK) rfl fo.co fo.gen rfl (codeRec_of KH hcd) (fun _ _ x=>x.elim) (hbind _ rfl rfl _ _ _ _ ?_)
 refine ky (ka:=ka) ok hd hu fo T hR fun env C' g' N hl=>⟨hl,uo fun E'=>?_⟩
 have hsim:=hb C' ⟨N.ok,N.A▸tok.guards⟩ N.top N.w N.B N.sc N.d N.b g'
 rw[N.w,N.A,N.env]at hsim
 have key:∀v σ' g2 rv,OptEx (i5 ka σ v σ') (fun r=>eA r Q noX)→Le g' g2→SI C' g2.φ g2.imm g2.m σ' g2.s.heap→Rg C g2 v rv→K rv g2.s:=fun v σ' g2 rv h a S R=>by
  cases h with|intro r h hr=>
  refine J7 (N.back v σ' g2 rv r a S R h) fun v' σ3 g3 e e2 b T3 R3=>?_
  subst e
  exact e2▸P v' σ3 g3 rv hr b T3 R3
 exact hsim _ _ N.T ⟨fun ρ' σ' g2 q a T2=>key .none σ' g2 .none q a T2.S rfl,fun v ρ' σ' g2 rv q a S R=>key v σ' g2 rv q a S (R.cx N.w N.B)⟩
theorem WtE.any (h:WE C ρ e σ Q noX):WtE C ρ e σ Q:=fun g K E T P=>ar (h g K E T P .no)
theorem WtL.any (h:WL C ρ es σ QL noX):WtL C ρ es σ QL:=fun g K E pos T P=>ar (h g K E pos T P .no)
theorem WtS.any {st:Stmt}(h:WS C ρ st σ QS noX):WtS C ρ st σ QS:=fun g K E T P=>ar (h g K E T P .no)
theorem WtK.any {f:Str}(h:WK C f vs σ Q noX):WtK C f vs σ Q:=fun ρ g K E rvs fv T R G P=>ar (h ρ g K E rvs fv T R G P .no)
theorem WtK.mono {f:Str}(h:WtK C f vs σ Q1)(hQ:∀x σ',Q1 x σ'→Q x σ'):WtK C f vs σ Q:=fun ρ g K E rvs fv T R G P=>h ρ g K E rvs fv T R G fun x σ' g' v q=>P x σ' g' v (hQ x σ' q)
theorem WtB.mono {l:List Stmt}(h:WtB C ρ l σ QS1)(hQ:∀f ρ σ,QS1 f ρ σ→QS f ρ σ):WtB C ρ l σ QS:=fun g K E T P=>h g K E T ⟨fun ρ' σ' g' q=>P.next ρ' σ' g' (hQ _ _ _ q),fun x ρ' σ' g' v q=>P.ret x ρ' σ' g' v (hQ _ _ _ q)⟩
theorem za (q:QL [] σ):WtL C ρ [] σ QL:= .any (jX q)
theorem ux {A1:MV→List MV→aa→Prop}(hs:cD e=false)(h1:WtE C ρ e σ Q1)(h2:∀x σ₁,Q1 x σ₁→WtL C ρ es σ₁ (A1 x))(h3:∀x vs σ₂,A1 x vs σ₂→QL (x::vs) σ₂):WtL C ρ (e::es) σ QL:=by
 intro g _ E pos T P
 rw[c8 hs]
 exact jA (h1 g _ E T fun x σ₁ g1 rx q1 a T1 R1=>h2 x σ₁ q1 g1 _ E pos T1 fun vs σ₂ g2 rs q2 b T2 R2=>P (x::vs) σ₂ g2 _ (h3 x vs σ₂ q2) (a.trans b) T2 ⟨rx,rs,rfl,R1.le b,R2⟩)
theorem pc (q:QS .next ρ σ):WtB C ρ [] σ QS:=fun g _ _ T P=>gU (P.next ρ σ g q .refl T)
theorem rK {st:Stmt}{rest:List Stmt}(h:WtS C ρ st σ QS1)(h1:∀ρ' σ',QS1 .next ρ' σ'→WtB C ρ' rest σ' QS)(h2:∀x ρ' σ',QS1 (.ret x) ρ' σ'→QS (.ret x) ρ' σ'):WtB C ρ (st::rest) σ QS:=
 fun g K E T P=>l4 (h g _ E T ⟨fun ρ' σ' g1 q a T1=>h1 ρ' σ' q g1 K E T1 (P.le a),fun x ρ' σ' g1 v q a S R=>P.ret x ρ' σ' g1 v (h2 x ρ' σ' q) a S R⟩)
theorem zd (h:WtE C ρ e σ Q)(h1:∀x σ₁,Q x σ₁→QS (.ret x) ρ σ₁):WtS C ρ (.Return (some e) pos) σ QS:=fun g _ E T P=>uq (h g _ E T fun x σ₁ g1 v q a T1 R=>P.ret x ρ σ₁ g1 v (h1 x σ₁ q) a T1.S R)
theorem uz (ok:CxOk C)(hc:bT e=false)(h:WtE C ρ e σ Q)(h1:∀x σ₁,Q x σ₁→x= .none∧QS .next ρ σ₁):WtS C ρ (.Expr e pos) σ QS:=by
 intro g K E T P
 refine Bm (h g _ E T fun x σ₁ g1 v q a T1 R=>?_) (j8 ok) (cZ hc)
 refine Jh (h1 x σ₁ q) fun e q'=>?_
 subst e
 have R:v= .none:=R
 subst R
 exact P.next ρ σ₁ g1 q' a T1
theorem rL (ok:CxOk C){n:Str}{p:Pos}(hc:bT e=false)(h:WtE C ρ e σ Q)(h1:∀x σ₁,Q x σ₁→OptEx (dZ C.env.scope.names ρ n x) fun ρ'=>QS .next ρ' σ₁):WtS C ρ (.Assign [.Name n p] e pos) σ QS:=
 fun g K E T P=>ws (h g _ E T fun x σ₁ g1 v q a T1 R=>(h1 x σ₁ q).elim fun ρ' hs q=>dI ok T1 hs R fun g2 b T2=>P.next ρ' σ₁ g2 q (a.trans b) T2) (cZ hc)
theorem wt {a b:List Stmt}(h:WT C ρ e σ KT KF)(h1:∀σ₁,KT σ₁→WtB C ρ a σ₁ QS)(h2:∀σ₁,KF σ₁→WtB C ρ b σ₁ QS):WtS C ρ (.If e a b pos) σ QS:=
 fun g K E T P=>Jc (h g _ E T ⟨fun σ₁ g1 q a T1=>h1 σ₁ q g1 K E T1 (P.le a),fun σ₁ g1 q a T1=>h2 σ₁ q g1 K E T1 (P.le a)⟩)
theorem l5 {I:Nat→Loc→aa→Prop}{t:PySem.Expr}{body:List Stmt}(hI:∃m,I m ρ σ)(turn:∀m ρ σ,I m ρ σ→WT C ρ t σ (fun σ₁=>WtB C ρ body σ₁ (fc I m QS)) (fun σ₁=>QS .next ρ σ₁)):WtS C ρ (.While t body [] pos) σ QS:=by
 refine Jf hI ?_;clear hI;intro m hI
 have go:WtW C ρ t body σ QS:=by
  induction m using Nat.strongRecOn generalizing ρ σ with
  |_ m ih=>
   intro g K T P
   exact l3 fun E'=>turn m ρ σ hI g _ E' T ⟨fun σ₁ g1 q a T1 E'=>q g1 _ E' T1 ⟨fun ρ' σ₂ g2 q b T2=>q.elim fun m' h=>ih m' h.1 h.2 g2 K T2 (P.le (a.trans b)),fun x ρ' σ₂ g2 v q b S R=>⟨_,rfl,P.ret x ρ' σ₂ g2 v q (a.trans b) S R⟩⟩,
    fun σ₁ g1 q a T1 E'=>gU ⟨_,rfl,P.next ρ σ₁ g1 q a T1⟩⟩
 exact fun g K E T P=>wr (go g K T P)
theorem ze {e':PySem.Expr}{es:List PySem.Expr}(h:WtE C ρ e σ Q1)(h1:∀x σ₁,Q1 x σ₁→BoolEx x (WtE C ρ (.BoolOp .And (e'::es) pos) σ₁ Q) (Q (.bool false) σ₁)):WtE C ρ (.BoolOp .And (e::e'::es) pos) σ Q:=
 fun g K E T P=>HD (h g _ E T fun x σ₁ g1 v q a T1 R=>(h1 x σ₁ q).elim (fun e w=>bu R (congrArg cB e) (w g1 K E T1 (P.le a))) fun e q=>bu R (congrArg cB e) (P _ σ₁ g1 v q a T1 (e▸R)))
theorem Bq {e':PySem.Expr}{es:List PySem.Expr}(h:WtE C ρ e σ Q1)(h1:∀x σ₁,Q1 x σ₁→BoolEx x (Q (.bool true) σ₁) (WtE C ρ (.BoolOp .Or (e'::es) pos) σ₁ Q)):WtE C ρ (.BoolOp .Or (e::e'::es) pos) σ Q:=
 fun g K E T P=>Jb (h g _ E T fun x σ₁ g1 v q a T1 R=>(h1 x σ₁ q).elim (fun e q=>bu R (congrArg cB e) (P _ σ₁ g1 v q a T1 (e▸R))) fun e w=>bu R (congrArg cB e) (w g1 K E T1 (P.le a)))
theorem jE {es:List PySem.Expr}{env:Env}{pos:Pos}(h:noStar es=true):backTo pos (starEach es env)=[]∨∃x r,backTo pos (starEach es env)=(false,x)::r:=by
 cases es with
 |nil=>exact .inl rfl
 |cons e es=>
  have h:(!cD e&&noStar es)=true:=h
  rw[c8 ((Bool.not_eq_true' _).mp (bz h))]
  exact .inr ⟨_,_,rfl⟩
theorem fD {fv:Value}{first:List Value}{K:Value→Shared→Prop}{E:Value→Shared→Prop}(ok:CxOk C)(hk:∀vs σ₁,A vs σ₁→cN C.w.params fv)(hs:noStar args=true)(h:WtL C ρ args σ A)(T:St C ρ σ g)
  (hq:∀vs σ₁ g1 rvs,A vs σ₁→Le g g1→St C ρ σ₁ g1→Rgl C g1 vs rvs→wpS (model pw C.w) C.A (call fv (first++rvs)) K E g1.s):
  wpS (model pw C.w) C.A (callWith pos fv first (backTo pos (starEach args C.env)) (backToKw pos (keywordEach [] C.env))) K E g.s:=
 pb (P:=fun h=>cN C.w.params fv∧(KF C.w.params).In h) (gf hs) (fun h X=>X.1.look h X.2) (pa (jE hs) (h g _ E pos T fun vs σ₁ g1 rvs q a T1 R1=>⟨⟨hk vs σ₁ q,T1.S.elim fun mu h=>h.elim fun prot S1=>ok.K.keeps S1.F.keep⟩,hq vs σ₁ g1 rvs q a T1 R1⟩))
theorem l6 (ok:CxOk C){y f:Str}{xp:Pos}(hn:cP C.env.scope.names ρ y=some (.glob f))(hk:∀vs σ₁,A vs σ₁→∀fv,bJ C.w.params f fv→cN C.w.params fv)(hs:noStar args=true)(h:WtL C ρ args σ A)(h2:∀vs σ₁,A vs σ₁→WtK C f vs σ₁ Q):WtE C ρ (.Call (.Name y xp) args [] pos) σ Q:=by
 intro g K E T P
 rw[bW]
 refine ae (ar (dJ ok (dv _) T.S T.L hn fun fv R=>?_))
 have R:bJ C.w.params f fv:=R
 exact fD ok (fun vs σ₁ q=>hk vs σ₁ q fv R) hs h T fun vs σ₁ g1 rvs q a T1 R1=>h2 vs σ₁ q ρ g1 K E rvs fv T1 R1 R (P.le a)
theorem zb (tok:TOk C){f:Str}{A:Arguments}{body:List Stmt}{sc:Scope}{d:Nat}(hd:C.d=d+1)(hf:bw.lookup f=some (A,body,sc))(hen:aD A sc vs=some ρ')
  (hb:∀C',TOk C'→CxF C'→C'.w=C.w→C'.B=C.B→C'.env.scope=sc→C'.d=d→C'.b=(if bd f then C.b else σ.length)→WtB C' ρ' body σ (fun fl ρ'' σ'=>OptEx (ends (bd f) σ (.ok (fl,ρ'') σ')) fun r=>eA r Q noX)):WtK C f vs σ Q:=by
 intro ρ g K E rvs fv T R hg P
 refine JH ((f0 C.w.params).fn f A body sc hf) fun a h1 h2 h3 h4 h5=>?_
 have:=ca h1 hg
 subst this
 refine Jh (eJ h5 hen) fun e hlen=>?_
 subst e
 exact cH (gA tok (dr tok.ok hd).1 (dr tok.ok hd).2 h3 h4 T R (fun fd e1 e2=>ji h4 R hlen e1 e2) hb P)
end
end
section
set_option maxHeartbeats 4000000
section
variable {prog:Program}{w:World}{A:Around}{R:Result→Shared→Prop}{s:Shared}
theorem cF {id:String}{args:Args}{b:Builtin}(hok:Builtin.Bytes.decodersThatHold.contains id=false)(hb:entryFor table id=some b)
  (h:wpS (model prog w) (A.under (.builtin id args)) (b args) (fun fin s'=>match fin with| .done f=>R (.ok f) s'| .again c'=>c'.quiet=true∧bP (model prog w) A c' R s') (fun e s'=>R (.error e) s') s):
  bP (model prog w) A (.builtin id args) R s:=by
 refine be (by refine(?_:(!_)=true);refine Kh hok▸?_;rfl) ?_
 refine(?_:wpS _ _ (match entryFor table id with|some b=>b args|none=>unsupported ((withoutEnding? id "#data").getD id)) _ _ s)
 refine Kh hb▸?_;exact h
theorem bZ {id:String}{args:Args}(hq:(Code.builtin id args).quiet=true)
  (h:wpAny (model prog w) A.in1 (checkBuiltinCall id args) (fun _ s₁=>bP (model prog w) A (.builtin id args) R s₁) (fun e s'=>R (.error e) s') s):
  bP (model prog w) A (.call (.builtin id) args) R s:=by
 refine be rfl ?_
 refine(?_:wpS _ A.in1 (do checkBuiltinCall id args;again (.builtin id args)) _ _ s)
 exact ae (ar (wpAny_mono h (fun _ s₁ h₁=>aj (And.intro hq h₁)) fun _ _ h'=>h'))
theorem dG {α:Type}{M:Model}{A:Around}{t:Sem α}{r:α}{Q:α→Shared→Prop}{E:Value→Shared→Prop}{h:Heap}{g d tk os}(x:Looks M h t r)(q:Q r ⟨h,g,d,tk,os⟩):wpS M A t Q E ⟨h,g,d,tk,os⟩:=ar (x.at q)
theorem Bl {C:Addr}{h:Heap}{g:Array GenState}{d:Drawn}{t:Nat}{os:OsState}{rest:List Value}{fI:Addr}(Y:Makes (model prog w) h C)(hi:Looks (model prog w) h (typeLookup (.ref C) "__init__") (some (.ref fI)))
  (hb:∀self,Looks (model prog w) h (bindSpecial (.ref fI) self) (.ref fI,[self]))
  (hq:bP (model prog w) (A.under (.builtin "type.__call__" ⟨.ref C::rest,[]⟩)) (.call (.ref fI) ⟨.ref (h.objs.size+1)::rest,[]⟩) (InitBack (h.objs.size+1) R) ⟨(h.push emptyDict).push (instObj C h.objs.size),g,d,t,os⟩):
  bP (model prog w) A (.call (.ref C) ⟨rest,[]⟩) R ⟨h,g,d,t,os⟩:=by
 have Y':=Y
 rcases Y with ⟨⟨oc,od,cd,sl,hC,e1,e2,e4⟩,made,base,self,top,call,typ⟩
 refine be rfl (ar ?_)
 refine(?_:wpAny _ _ (callAny (.ref C) _) _ _ _)
 refine nd_load hC ?_
 refine(?_:wpAny _ _ (callAny.viaDunder (.ref C) _) _ _ _)
 unfold callAny.viaDunder
 refine wpAny_bind (call.at ?_)
 dsimp only
 refine Kh (tc_bind _)▸?_
 refine wpAny_bind (wpAny_pure (wpAny_bind (wpAny_pure ?_)))
 refine wpAny_pure (a:=Fin.again (.call (.builtin "type.__call__") ⟨.ref C::rest,[]⟩)) (And.intro rfl ?_)
 refine bZ (Code.quiet_builtin _ (by decide+kernel)) (check_slot tc_kind tc_split typ (tc_args _ _ _) ?_)
 refine cF (by decide+kernel) entry_typeCall ?_
 unfold Builtin.«type.__call__»
 have hm:Looks (model prog w) h (mroOf (.ref C)) cd.mro:=((Looks.ld (part:=none) hC).andThen .now).andThen .now
 have nt:(Value.ref C== .type "type")=false:=rfl
 simp only[nt,Bool.false_eq_true,if_false]
 refine ae (dG hm ?_)
 simp only[e4,Bool.false_eq_true,if_false]
 refine ae (dG made ?_)
 dsimp only
 refine ae (aj (ae (aH (ar (wpAny_call (new_K Y' hi (.inl rfl) ?_))))))
 have k:∀b o,h.get? b=some o→((h.push emptyDict).push (instObj C h.objs.size)).get? b=some o:=fun b o e=>Heap.get?_push_of_some _ (Heap.get?_push_of_some _ e)
 have hx:((h.push emptyDict).push (instObj C h.objs.size)).get? (h.objs.size+1)=some (instObj C h.objs.size):=by heap_get
 have t1:Looks (model prog w) ((h.push emptyDict).push (instObj C h.objs.size)) (typeOf (.ref (h.objs.size+1))) (.ref C):=(Looks.ld hx).andThen .now
 have s1:=self.keeps k
 have i1:=hi.keeps k
 have b1:=(hb (.ref (h.objs.size+1))).keeps k
 have is1:Looks (model prog w) ((h.push emptyDict).push (instObj C h.objs.size)) (isInstance (.ref (h.objs.size+1)) (.ref C)) true:=t1.andThen s1
 have sp1:Looks (model prog w) ((h.push emptyDict).push (instObj C h.objs.size)) (specialOf (.ref (h.objs.size+1)) "__init__") (some (.ref fI)):=t1.andThen i1
 refine ae (dG is1 ?_)
 simp only[Bool.not_true,Bool.false_eq_true,if_false]
 unfold callSpecial?
 refine ae (aH (ae (dG sp1 ?_)))
 dsimp only
 refine aH (ae (dG b1 ?_))
 dsimp only
 refine ae (cH (fC hq fun r s' z=>?_))
 rcases r with e|(v|_|_|_)<;>first|exact z|exact z.elim|skip
 refine Jh z ?_;clear z;intro κ;subst κ;intro z
 exact aj (aj z)
end
end
section
set_option maxHeartbeats 400000
theorem gi1:guardIds.contains "bytearray.__contains__"=true:=by decide+kernel
theorem gi2:guardIds.contains "bytearray.__mod__"=true:=by decide+kernel
theorem gi3:guardIds.contains "bytearray.__rmod__"=true:=by decide+kernel
theorem gi4:guardIds.contains "_struct.pack_into.held"=true:=by decide+kernel
theorem gi5:guardIds.contains "bytearray.find.held"=true:=by decide+kernel
theorem mn {P:Prop}[Decidable P]{A:P→Bool}{B:Bool}(n:¬P)(h:dite P A (fun _=>B)=true):B=true:=by rwa [dif_neg n]at h
theorem nc (v:Value):∃f:Code × Pos→Bool,Builtin.Bytes.exported v=(stack >>= fun st=>pure (st.any f))∧∀c p,f (c,p)=true→c.isGuard=true∨gj c=false:=by
 refine Jl _ rfl (fun c p h=>?_)
 cases c with
 |builtin id args=>
  by_cases e1:id="bytearray.__contains__"
  ·subst e1;exact .inl gi1
  by_cases e2:id="bytearray.__mod__"
  ·subst e2;exact .inl gi2
  by_cases e3:id="bytearray.__rmod__"
  ·subst e3;exact .inl gi3
  by_cases e4:id="_struct.pack_into.held"
  ·subst e4;exact .inl gi4
  by_cases e5:id="bytearray.find.held"
  ·subst e5;exact .inl gi5
  right
  rcases args with ⟨l,kw⟩
  delta Builtin.Bytes.exported.match_1 at h
  replace h:=mn e1 h
  replace h:=mn e2 h
  replace h:=mn e3 h
  replace h:=mn e4 h
  replace h:=mn e5 h
  cases l with
  |nil=>exact Jq h
  |cons x r=>
   have h:(Builtin.Bytes.sameRef x v&&Builtin.Bytes.decodersThatHold.contains id)=true:=h
   replace h:=Bool.and_eq_true _ _▸h
   refine(?_:(!_)=false)
   refine Kh h.2▸?_;rfl
 |_=>exact absurd h (by intro q;exact Jq q)
section
variable {prog:Program}{w:World}{A:Around}{s:Shared}{E:Value→Shared→Prop}
theorem qM {l:List (Code × Pos)}(h:guardsOf l=[]):∀x∈l,x.1.isGuard=false:=by
 induction l with
 |nil=>intro x hx;cases hx
 |cons y l ih=>
  rcases y with ⟨c,p⟩
  rewrite[guardsOf_cons]at h;rewrite[List.append_eq_nil_iff]at h
  intro x hx
  rcases List.mem_cons.mp hx with e|hx
  ·have h1:=h.1
   refine Kh e▸?_
   refine J3 (o:=Code.isGuard c) (fun q=>?_) fun q=>?_
   ·try refine Kh q▸?_
    rfl
   ·try refine Kh q▸?_
    unfold Code.guards at h1;replace h1:=q▸h1;simp at h1
  ·exact ih h.2 x hx
theorem gQ {M:Model}{v:Value}{Q:Bool→Shared→Prop}(hg:A.guards=some [])(h:Q false s):wpS M A (Builtin.Bytes.exported v) Q E s:=by
 intro Γ p hΓ hc
 refine tr (nc v) fun f e hf=>?_
 refine Kh e▸?_
 refine(?_:Q (((Γ.code,p)::Γ.below).any f) s)
 rw[List.any_eq_false.mpr fun x hx=>?_]
 ·exact h
 ·intro q
  rcases hf x.1 x.2 q with q|q
  ·replace q:=qM (by rewrite[guardsOf_cons];exact hΓ.2.2.2.1 _ hg) x hx▸q;exact Jq q
  ·have:gj x.1=true:=by
    rcases List.mem_cons.mp hx with rfl|hx
    ·exact hc.1
    ·exact hc.2 x hx
   replace q:=this▸q;exact JG q
noncomputable abbrev bx (b:List UInt8):Obj:={cls:= .type "bytearray",data:= .bytearray b.toArray}
theorem qF {a:Addr}{b:List UInt8}{Q:Unit→Shared→Prop}(hg:A.guards=some [])(ho:s.heap.get? a=some (bx b))(h:Q () s):wpS (model prog w) A (Builtin.Bytes.checkResize (.ref a)) Q E s:=by
 unfold Builtin.Bytes.checkResize
 refine ae (ae (gQ hg ?_))
 refine ae (ar (wpAny_bind (wpAny_bind (wpAny_load ho ?_))))
 refine wpAny_pure (wpAny_pure (aj ?_))
 exact aj h
theorem jI {b:List UInt8}{f:Array UInt8→Array UInt8}{b':List UInt8}(e:f b.toArray=b'.toArray):Obj.mapBytearray f (bx b)=bx b':=by
 refine(?_:({cls:=_,data:= .bytearray (f b.toArray)}:Obj)=_)
 refine Kh e▸?_;rfl
theorem nx {a:Addr}{b b':List UInt8}{f:Array UInt8→Array UInt8}{Q:Unit→Shared→Prop}(e:f b.toArray=b'.toArray)(hz:b'.length≤sizeLine)(ho:s.heap.get? a=some (bx b))
  (h:∀h',Heap.SameBut a s.heap h'→h'.get? a=some (bx b')→Q () {s with heap:=h'}):wpAny (model prog w) A (Builtin.Bytes.write (.ref a) f) Q E s:=by
 refine(?_:wpAny _ _ (updateBytearray a f) _ _ _)
 unfold updateBytearray
 refine wpAny_bind (wpAny_load ho ?_)
 refine(?_:wpAny _ _ (update a (Obj.mapBytearray f) >>= fun _=>lookBehind a) _ _ _)
 refine wpAny_bind (wpAny_update ho ?_)
 have h2:(s.heap.update a (Obj.mapBytearray f)).get? a=some (bx b'):=by
  refine jI e▸?_
  exact Heap.get?_update_self _ ho rfl
 refine wpAny_lookBehind h2 ?_ (h _ (Heap.SameBut.update ..) h2)
 refine(?_:(if b'.toArray.size>sizeLine then some "bytearray:memory" else none)=none)
 rewrite[if_neg];rfl
 simp only[List.size_toArray]
 exact (lB 0xc6e200843008401) hz
theorem cg:Slot "bytearray" "append" "bytearray.append":=
 .of (owner:="bytearray") (n:="append") (by rewrite[typeLookup_type,builtinLookup_eq_fast];kernel_rfl) (by decide+kernel) (by decide+kernel) (by decide+kernel)
  (by first|exact .inl (by decide+kernel)|exact .inr (by decide+kernel)) (by rewrite[isSubtype_type];kernel_rfl)
theorem iB:typeOf (.builtin "bytearray.append")=pure (.type "method_descriptor"):=by refine(?_:builtinType _=_);refine Kh builtinType_eq_fast▸?_;kernel_rfl
theorem gX:entryFor table "bytearray.append"=some Builtin.«bytearray.append»:=entryFor_of_tree (by kernel_rfl)
theorem jG:PlainAttrs "bytearray":=
 ⟨⟨"bytearray.__getattribute__",by rewrite[typeLookup_type,builtinLookup_eq_fast];kernel_rfl,by decide+kernel⟩,by rewrite[typeLookup_type,builtinLookup_eq_fast];kernel_rfl⟩
theorem jQ:Builtin.Bytes.decodersThatHold.contains "bytearray.append"=false:=by decide+kernel
theorem jz (a b:Value):argsOk "bytearray.append" ⟨[a,b],[]⟩:=by unfold argsOk;kernel_rfl
theorem rC {a:Addr}{b:List UInt8}{i:Int}{t:Tok}{Q:Value→Shared→Prop}(hg:A.guards=some [])(h0:0≤i)(h1:i<256)(hz:b.length+1≤sizeLine)(ho:s.heap.get? a=some (bx b))
  (h:∀h',Heap.SameBut a s.heap h'→h'.get? a=some (bx (b++[i.toNat.toUInt8]))→Q .none {s with heap:=h'}):wpS (model prog w) A (call (.builtin "bytearray.append") [.ref a,.int i t]) Q E s:=by
 refine cH (bZ (plainId_quiet cg.plain _) ?_)
 refine cg.check _ _ _ _ _ _ _ _ ⟨_,ho,rfl⟩ (jz _ _) ?_
 refine cF jQ gX ?_
 refine Kh (Around.under_plainId cg.plain _)▸?_
 unfold Builtin.«bytearray.append»
 refine ae ?_
 refine(?_:wpS _ _ (pure (Value.ref a,Value.int i t)) _ _ _)
 refine aj ?_
 dsimp only
 refine ae ?_
 unfold Builtin.Bytes.byteValue
 refine ae (ar (wpAny_of_eq (rfl:asIndex (.int i t)=pure i) ?_))
 rewrite[if_neg (by simp only[Bool.or_eq_true,decide_eq_true_eq];exact (lE 0xc637aa00280087500801aa0021803400402) h0 h1)]
 refine aj ?_
 refine ae (qF hg ho ?_)
 refine ae (ar (nx (b':=b++[i.toNat.toUInt8]) (by simp) (by simpa using hz) ho fun h' hs hn=>?_))
 exact aj (h h' hs hn)
theorem uf:mroOf (.type "bytearray")=pure [.type "bytearray",.type "object"]:=by rewrite[mroOf_type];kernel_rfl
theorem jT:typeLookup (.type "bytearray") "__new__"=pure (some (.builtin "bytearray.__new__")):=by rewrite[typeLookup_type,builtinLookup_eq_fast];kernel_rfl
theorem bL:Slot "bytearray" "__init__" "bytearray.__init__":=
 .of (owner:="bytearray") (n:="__init__") (by rewrite[typeLookup_type,builtinLookup_eq_fast];kernel_rfl) (by decide+kernel) (by decide+kernel) (by decide+kernel)
  (by first|exact .inl (by decide+kernel)|exact .inr (by decide+kernel)) (by rewrite[isSubtype_type];kernel_rfl)
theorem dS:TypeCalled "bytearray" "bytearray.__new__" "bytearray.__init__":=
 ⟨by decide+kernel,by decide+kernel,⟨_,_,uf⟩,madeBy_type uf jT (by decide+kernel),by decide+kernel,by rewrite[isSubtype_type];kernel_rfl,bL⟩
theorem ny:checkTypeCall "bytearray" ⟨[],[]⟩=pure ():=by kernel_rfl
theorem o7:checkBuiltinCall "bytearray.__new__" ⟨[.type "bytearray"],[]⟩=pure ():=by kernel_rfl
theorem lV:entryFor table "bytearray.__new__"=some Builtin.«list.__new__»:=entryFor_alias (id':="list.__new__") (by rewrite[fastTable_eq_tree];kernel_rfl) (by first|rfl|decide+kernel) (by decide+kernel) (by rewrite[fastTable_eq_tree];kernel_rfl)
theorem f9:plainId "bytearray.__new__"=true:=by decide+kernel
theorem o5:isSubtype (.type "bytearray") (.type "bytearray")=pure true:=by rewrite[isSubtype_type];kernel_rfl
set_option maxRecDepth 1000000 in
set_option maxHeartbeats 4000000 in
theorem ue:("bytearray.__new__".splitOn ".__new__").headD ""="bytearray":=by simp+decide [String.splitOn,String.splitOnAux]
theorem nl {Q₁:Value→Shared→Prop}(h:Q₁ (.ref s.heap.objs.size) {s with heap:=s.heap.push (bx [])}):
  codeAny (model prog w) A (.call (.builtin "bytearray.__new__") ⟨[.type "bytearray"],[]⟩) (wants Q₁ E) s:=by
 refine codeAny_of_tree ?_
 refine(?_:wpAny _ A.in1 (do checkBuiltinCall "bytearray.__new__" ⟨[.type "bytearray"],[]⟩;again (.builtin "bytearray.__new__" ⟨[.type "bytearray"],[]⟩)) _ _ s)
 refine wpAny_bind (wpAny_of_eq o7 (wpAny_pure ⟨plainId_quiet f9 _,codeAny_builtin_stack lV rfl fun p st=>?_⟩))
 refine Kh (Around.under_plainId f9 _)▸?_
 have hsub:=o5
 have hown:=ue
 rcases s with ⟨hp,g,d,tk,os⟩
 simp only[hown]
 wp_walk
 exact h
theorem jU:entryFor table "bytearray.__init__"=some Builtin.«bytearray.__init__»:=entryFor_of_tree (by kernel_rfl)
theorem ni:Builtin.Bytes.decodersThatHold.contains "bytearray.__init__"=false:=by decide+kernel
theorem A8:Builtin.Bytes.decodersThatHold.contains "type.__call__"=false:=by decide+kernel
theorem lX (a:Value):argsOk "bytearray.__init__" ⟨[a],[]⟩:=by unfold argsOk;kernel_rfl
theorem wn:Builtin.Bytes.bindOptional "bytearray.__init__" "bytearray" ["source","encoding","errors"] [] []=pure [none,none,none]:=by kernel_rfl
theorem wk {a:Addr}{R:Result→Shared→Prop}(hg:A.guards=some [])(ho:s.heap.get? a=some (bx []))
  (h:∀h',Heap.SameBut a s.heap h'→h'.get? a=some (bx [])→R (.ok (.ret .none)) {s with heap:=h'}):bP (model prog w) A (.call (.builtin "bytearray.__init__") ⟨[.ref a],[]⟩) R s:=by
 refine bZ (plainId_quiet bL.plain _) ?_
 refine bL.check _ _ _ _ _ _ _ _ ⟨_,ho,rfl⟩ (lX _) ?_
 refine cF ni jU ?_
 refine Kh (Around.under_plainId bL.plain _)▸?_
 unfold Builtin.«bytearray.__init__»
 dsimp only
 refine ae ?_
 unfold Builtin.Bytes.ownRelease
 refine ar (wpAny_bind (pY ⟨_,ho,rfl⟩ (wpAny_pure ?_)))
 simp only[Bool.not_true,Bool.false_eq_true,if_false]
 refine ae (cA wn ?_)
 dsimp only
 refine ae (cA (a:=()) rfl ?_)
 refine ae (cA (a:=()) rfl ?_)
 refine ae (ae (gQ hg ?_))
 refine ae (ar (wpAny_bind (wpAny_bind (wpAny_load ho ?_))))
 refine wpAny_pure (wpAny_pure (aj ?_))
 rewrite[if_neg (by simp)]
 refine ae (ar (nx (b':=[]) rfl (by simp) ho fun h' hs hn=>?_))
 simp only[Option.isSome_none,Bool.false_eq_true,if_false]
 refine ae (aj ?_)
 exact aj (h h' hs hn)
theorem wj {Q:Value→Shared→Prop}(hg:A.guards=some [])
  (h:∀h',Heap.SameBut s.heap.objs.size (s.heap.push (bx [])) h'→h'.get? s.heap.objs.size=some (bx [])→Q (.ref s.heap.objs.size) {s with heap:=h'}):wpS (model prog w) A (call (.type "bytearray") []) Q E s:=by
 refine Jm dS.mro fun c tl hmro=>?_
 have hmade:=dS.made
 have hsub:=dS.sub
 have h1:=dS.notType
 have h2:=dS.canCreate
 refine cH (be rfl ?_)
 refine(?_:wpS _ _ (callAny (.type "bytearray") _) _ _ _)
 refine aj (a:=Fin.again (.builtin "type.__call__" ⟨[.type "bytearray"],[]⟩)) ⟨Code.quiet_builtin _ (by decide+kernel),cF A8 entry_typeCall ?_⟩
 refine Kh (Around.under_plain (weight_type_call_type "bytearray" [] []) rfl)▸?_
 unfold Builtin.«type.__call__»
 simp only[h1,h2,Bool.false_eq_true,if_false]
 refine ae (cA ny ?_)
 refine ae (cA hmro ?_)
 simp only[List.isEmpty_cons,Bool.false_eq_true,if_false]
 refine ae (cA hmade ?_)
 dsimp only
 refine ae (aj (ae (aH (ar (wpAny_call (nl ?_))))))
 have hn:(s.heap.push (bx [])).get? s.heap.objs.size=some (bx []):=by heap_get
 have hT:({s with heap:=s.heap.push (bx [])}:Shared).TypeIs (.ref s.heap.objs.size) "bytearray":=⟨_,hn,rfl⟩
 refine ae (ar (wpAny_isInstance hT o4 ?_))
 simp only[Bool.not_true,Bool.false_eq_true,if_false]
 unfold callSpecial?
 refine ae (aH (ae (ar (wpAny_specialOf hT bL.lookup ?_))))
 dsimp only
 refine aH (ae (cA (bL.bind _) ?_))
 dsimp only
 refine ae (cH (wk (s:={s with heap:=s.heap.push (bx [])}) hg hn fun h' hs hn'=>?_))
 exact aj (aj (h h' hs hn'))
end
end
section
section
variable {C:Cx}{φ:List Addr}{imm:Led}{m:Str→Option Value}{σ σ₁ σ₂ σ₃:aa}{ρ ρ':Loc}{v x:MV}{vs:List MV}{e:PySem.Expr}{pos:Pos}{h:Heap}{mu prot:Led}{args:List PySem.Expr}{id:Nat}{b:List UInt8}{Q Q1:MV→aa→Prop}{A1:List MV→aa→Prop}{n:Str}
theorem SD.setBarr (S:SD C φ imm m σ h mu prot)(hi:σ[id]?=some (.barr b)):∃a,φ[id]?=some a∧b.length≤sizeLine∧h.get? a=some (bx b)∧
  ∀b' h',b'.length≤sizeLine→Heap.SameBut a h h'→h'.get? a=some (bx b')→SI C φ imm m (σ.set id (.barr b')) h':=by
 refine Ju (S.M.split hi) fun a e m1 m2 h1 h2 h3 h4=>?_
 refine Jh h3 ?_;clear h3;intro e0 hz
 subst e0
 have h2:mu=m1++(a,bx b)::m2:=h2
 have hN:=S.newsAt h2
 have hm:=hN (a,bx b) (List.mem_append_right _ (.head _))
 refine J1 a h1 hz hm.1 (fun b' h' hz' hs ho=>?_)
 have N':=News.setAt hN (S.apart h2).1 (S.apart h2).2 hs ho
 exact JL _ prot (S.upd (h4 _ _ ⟨rfl,hz'⟩) (by subst h2;simp) (S.F.change hs hm.2.1 hm.2.2) ((List.append_assoc m1 ((a,bx b')::m2) (imm++prot)).symm▸N') fun j hj=>nomatch hj)
noncomputable def MGt (C:Cx)(ρ:Loc)(n:Str)(args:List PySem.Expr)(pos:Pos)(x:MV)(σ:aa)(Q:MV→aa→Prop):Prop:=∀g rv pl K E,St C ρ σ g→Rg C g x rv→gE C ρ g Q K→
 wpAny (model pw C.w) C.A (getMethod rv n pl) (fun q s'=>wpS (model pw C.w) C.A (callWith pos q.1 q.2 (backTo pos (starEach args C.env)) (backToKw pos (keywordEach [] C.env))) K E s') E g.s
theorem uy {o:PySem.Expr}{ap:Pos}(hb:b5 o=true)(hl:(ap.endLine==pos.line)=true)(hn:args.length<30)(hs:noStar args=true)
  (h1:WE C ρ o σ Q1 noX) (h2:∀x σ₁,Q1 x σ₁→MGt C ρ n args pos x σ₁ Q):WtE C ρ (.Call (.Attribute o n ap) args [] pos) σ Q:=by
 intro g K E T P
 rw[dF hb]
 refine ae (ar (h1 g _ E T (fun x σ₁ g1 rx q a T1 R1=>?_) .no))
 refine ae (aN ?_)
 have hform:methodCallForm (args.length+0) (backTo pos (starEach args C.env)) (backToKw pos (keywordEach [] C.env))=true:=(Bool.and_eq_true _ _).mpr ⟨(Bool.and_eq_true _ _).mpr ⟨mt hs,rfl⟩,decide_eq_true hn⟩
 have hpos:methodCallPos true o C.env ap pos=pure pos:=if_pos hl
 unfold methodCall
 rw[hform,hpos]
 refine ae (aH (ar (wpAny_mono (h2 x σ₁ q g1 rx _ K E T1 R1 (P.le a)) (fun q s' hq=>?_) fun _ _ x=>x)))
 exact ae (aj hq)
theorem vy (tok:TOk C)(hs:noStar args=true)(hi:σ₁[id]?=some (.barr b))(h2:WL C ρ args σ₁ A1 noX)
  (hq:∀vs σ₂,A1 vs σ₂→OptEx ((σ₂[id]?)) fun o=>o= .barr b∧∃i:Int,vs=[.int i]∧0≤i∧i<256∧b.length<ai∧Q .none (σ₂.set id (.barr (b++[i.toNat.toUInt8])))):MGt C ρ (.ofString "append") args pos (.ref id) σ₁ Q:=by
 intro g rv pl K E T R P
 refine Jm T.S fun mu prot S1=>?_
 refine J2 (S1.setBarr hi) fun a q1 _ q2 _=>?_
 refine tr R ?_;clear R;intro a' q3 e
 subst e
 have:=Option.some.inj (q1.symm.trans q3)
 subst this
 refine getMethod_builtin ⟨_,q2,rfl⟩ jG cg iB (fun b e=>by cases e;exact Jl _ q2 rfl) ?_
 refine fD tok.ok (fun _ _ _=>.inr fun a q=>nomatch q) hs (.any h2) T fun vs σ₂ g2 rvs q b1 T2 R2=>?_
 refine(hq vs σ₂ q).elim fun o ho q=>?_
 rcases q with ⟨e1,i,e2,i0,i1,hz,q5⟩
 subst e1 e2
 refine tr (mz R2) fun y e hy=>?_
 subst e
 refine Jf (aK hy) fun t e=>?_
 subst e
 refine Jm T2.S fun mu2 prot2 S2=>?_
 refine J2 (S2.setBarr ho) fun a2 r1 hz2 r2 back=>?_
 have:a2=a:=by
  refine Jf b1.φ fun tl e=>?_
  rw[← e,List.getElem?_append_left (List.getElem?_eq_some_iff.mp q1).1,q1]at r1
  exact(Option.some.inj r1).symm
 subst this
 have hz3:b.length+1≤sizeLine:=iD (Nat.le_of_lt hz) (Nat.le_of_ble_eq_true rfl)
 have hz4:(b++[i.toNat.toUInt8]).length≤sizeLine:=(List.length_append).symm▸hz3
 exact rC tok.guards i0 i1 hz3 r2 fun h' hs' hn'=>P _ _ (g2.at g2.imm h' g2.s.toks) .none q5 (b1.trans .on) (T2.on (back _ _ hz4 hs' hn')) rfl
theorem kG (tok:TOk C)(q:Q (.ref σ.length) (σ++[.barr []])):WtK C (.ofString "bytearray") [] σ Q:=by
 intro ρ g K E rvs fv T R hgl P
 have R:rvs=[]:=R
 subst R
 have:=(dj C.w.params).one (v:= .type "bytearray") (by simp) hgl
 subst this
 refine wj tok.guards fun h' hs hn=>?_
 refine Jm T.S fun mu prot S=>?_
 have N1:=News.push S.F S.N (bx [])
 have F1:=S.F.push (bx [])
 have hm:=N1 _ (.head _)
 have F2:=F1.change hs hm.2.1 hm.2.2
 have N2:=News.setAt (own:=[]) N1 (fun p hp=>nomatch hp) (fun p hp=>Nat.ne_of_lt (S.lt p hp)) hs hn
 have S2:=S.newo (o:= .barr []) (e:=[(g.s.heap.objs.size,bx [])]) F2 N2 (fun p hp q hq=>List.mem_singleton.mp hq▸S.lt p hp) (List.nodup_cons.mpr ⟨fun h=>(nomatch h),List.nodup_nil⟩) ⟨rfl,Nat.zero_le _⟩ (fun j hj=>nomatch hj)
 have a:Le g ⟨g.φ++[g.s.heap.objs.size],g.imm,g.m,{g.s with heap:=h'}⟩:=⟨List.prefix_append _ _,fun _ h=>h,rfl⟩
 have e:(g.φ++[g.s.heap.objs.size])[σ.length]?=some g.s.heap.objs.size:=by rewrite[← S.phiLen];simp
 exact P _ _ _ _ q a ⟨⟨_,_,S2⟩,T.L.mono a.φ a.imm⟩ ⟨_,e,rfl⟩
theorem rM (ok:CxOk C){o:PySem.Expr}{p:Pos}{Q2:MV→MV→aa→Prop}{QS:MF→Loc→aa→Prop}(hc:bT e=false)(h:WtE C ρ e σ Q1)(h2:∀v σ₁,Q1 v σ₁→WE C ρ o σ₁ (Q2 v) noX)(h3:∀v x σ₂,Q2 v x σ₂→OptEx (cj C.b σ₂ x n v) fun σ₃=>QS .next ρ σ₃):WtS C ρ (.Assign [.Attribute o n p] e pos) σ QS:=by
 intro g K E T P
 rewrite[exec_Assign_arm]
 refine ae (aN ?_)
 refine Kh (fH hc)▸?_
 refine ae (aj ?_)
 rewrite[if_neg (by decide)]
 refine ae (h g _ E T fun v σ₁ g1 rv q a T1 R1=>?_)
 have hw:swappedStores [.Attribute o n p] e C.env=pure none:=by unfold swappedStores;rfl
 refine Kh hw▸?_
 refine ae (aj ?_)
 refine(?_:wpS _ _ (do assignAll rv ((assignEach [.Attribute o n p] C.env).map (·.2));pure .next) K E _)
 refine ae (ar ?_)
 refine(?_:wpAny _ _ (assign (.Attribute o n p) C.env rv) _ _ _)
 refine dA (h2 v σ₁ q g1 _ _ T1 (fun x σ₂ g2 ro q b T2 R2=>?_) .no)
 exact(h3 v x σ₂ q).elim fun σ₃ hs q=>d0 ok (bX _) T2 R2 (R1.le b) hs fun g3 c T3=>aj (P.next ρ σ₃ g3 q ((a.trans b).trans c) T3)
theorem gi6:guardIds.contains "type.__call__"=false:=by decide+kernel
theorem qo (a:Args):(Code.builtin "type.__call__" a).guards=[]:=by
 unfold Code.guards
 rw[show Code.isGuard (.builtin "type.__call__" a)=false from gi6];rfl
theorem qZ {K:Frag}{f:Addr}(h:isFn K (.ref f)=true):typeIn K (.ref f)=some (.type "function"):=by
 unfold isFn at h
 simpa using h
theorem zc (tok:TOk C){f:Str}{A:Arguments}{body:List Stmt}{sc:Scope}{d:Nat}(hd:C.d=d+1)(hg:cu f=true)(hf:aU.lookup (f,.ofString "__init__")=some (A,body,sc))
  (hen:aD A sc (.ref σ.length::vs)=some ρ')
  (hb:∀C',TOk C'→CxF C'→C'.w=C.w→C'.B=C.B→C'.env.scope=sc→C'.d=d→C'.b=C.b→WtB C' ρ' body (σ++[.inst f []]) (fun fl _ σ'=>fl= .next∧Q (.ref σ.length) σ')):WtK C f vs σ Q:=by
 intro ρ g K E rvs fv T R hgl P
 have ok:=tok.ok
 refine Jf ((b6 C.w.params).cls f hg) fun Ca hC=>?_
 refine JE ((b6 C.w.params).met f _ A body sc hf Ca hC) fun fa dV m1 m2 m3 m4 m5 m6=>?_
 have CO:=(bX C.w.params).ok f Ca hg hC
 have hfv:=ca hC hgl
 subst hfv
 refine Jm T.S fun mu prot S=>?_
 have X:=ok.K.keeps S.F.keep
 refine cH (Bl (makes_of X CO.makes) (looks_findIn X m1) (fun self=>bind_fn X self (qZ m2)) ?_)
 have F:Fr C.B C.L ((g.s.heap.push emptyDict).push (instObj Ca g.s.heap.objs.size)) g.m:=(S.F.push _).push _
 have N:News C.B C.L ((g.s.heap.push emptyDict).push (instObj Ca g.s.heap.objs.size)) ((g.s.heap.objs.size+1,instObj Ca g.s.heap.objs.size)::(g.s.heap.objs.size,emptyDict)::(mu++(g.imm++prot))):=by
  have:=(S.N.push S.F emptyDict).push (S.F.push _) (instObj Ca g.s.heap.objs.size)
  rwa [Heap.size_push]at this
 have hlt:∀p∈mu++(g.imm++prot),p.1<g.s.heap.objs.size:=fun p hp=>Heap.lt_size (S.N p hp).1
 refine Jr (m7 T S hC F N hlt (Nat.lt_succ_self _)) fun a T2 e0=>?_
 refine Jr (ok.typeCall hd (A':=C.A.under (Code.builtin "type.__call__" {pos:=Value.ref Ca::rvs,kw:=[]})) rfl rfl rfl ec) fun ok2 r1 r2=>?_
 have tok2:TOk (C.around (C.A.under (Code.builtin "type.__call__" {pos:=Value.ref Ca::rvs,kw:=[]})) d):=⟨ok2,by
  refine(?_:(C.A.under _).guards=some [])
  unfold Around.under
  simp only[qo,tok.guards,pushGuards]⟩
 refine Jt (m6 _ _ _ hen) fun mvs e1 e2 e3=>?_
 refine tr (e3 _ (g.φ++[g.s.heap.objs.size+1]) g.imm (.ref (g.s.heap.objs.size+1)::rvs) ⟨.ref _,rvs,rfl,⟨_,e0,rfl⟩,R.mono a.φ a.imm⟩) fun rvs' e4 e5=>?_
 subst e1
 have KH:(KF C.w.params).In ((g.s.heap.push emptyDict).push (instObj Ca g.s.heap.objs.size)):=ok.K.keeps F.keep
 have key:=gA (C:=C.around (C.A.under (Code.builtin "type.__call__" {pos:=Value.ref Ca::rvs,kw:=[]})) d) (g:=⟨g.φ++[g.s.heap.objs.size+1],g.imm,g.m,{g.s with heap:=(g.s.heap.push emptyDict).push (instObj Ca g.s.heap.objs.size)}⟩) (ρ0:=ρ) (Q:=fun x σ'=>x= .none∧Q (.ref σ.length) σ') (K:=fun v s'=>v= .none∧K (.ref (g.s.heap.objs.size+1)) s') (E:=E) (ka:=true) (args:= .ref (g.s.heap.objs.size+1)::rvs) tok2 r1 r2 m4 m5 ⟨T2.S.around,T2.L⟩ e4
  (fun fd q1 q2=>e5 _ fd KH q1 q2) (fun C' c1 c2 c3 c4 c5 c6 c7=>(hb C' c1 c2 c3 c4 c5 c6 c7).mono fun fl _ σ' q=>by refine Jh q ?_;clear q;intro q1 q2;subst q1;exact .intro (.ok .none σ') rfl ⟨rfl,q2⟩) fun v σ' g' rv q b T3 R3=>?_
 ·refine fC key fun r s' hr=>?_
  cases r with
  |error e=>exact hr
  |ok fl=>cases fl<;>first|exact hr|exact hr.elim
 ·refine Jh q ?_;clear q;intro q1 q2
  subst q1
  have R3:rv= .none:=R3
  refine Jg R3 (P _ _ ⟨g'.φ,g'.imm,g'.m,g'.s⟩ _ q2 (a.trans b) ⟨T3.S.around',T3.L⟩ ⟨_,?_,rfl⟩)
  refine Jf b.φ fun t e=>?_
  exact e▸(List.getElem?_append_left (by simp[S.phiLen])).trans e0
theorem sN (tok:TOk C){K:Str}{fs:List (Str × MV)}{A:Arguments}{body:List Stmt}{sc:Scope}(hs:noStar args=true)
  (hi:σ₁[id]?=some (.inst K fs)) (hnf:jO fs n=none) (hf:aU.lookup (K,n)=some (A,body,sc)) (hK:cu K=true) (h2:WL C ρ args σ₁ A1 noX)
  (hbd:∀vs σ₂,A1 vs σ₂→∃d ρ',C.d=d+1∧aD A sc (.ref id::vs)=some ρ'∧∀C',TOk C'→CxF C'→C'.w=C.w→C'.B=C.B→C'.env.scope=sc→C'.d=d→C'.b=σ₂.length→WtB C' ρ' body σ₂ (fun fl ρ'' σ'=>OptEx (ends false σ₂ (.ok (fl,ρ'') σ')) fun r=>eA r Q noX)):MGt C ρ n args pos (.ref id) σ₁ Q:=by
 intro g rv pl Kc E T R P
 have ok:=tok.ok
 refine Jm T.S fun mu prot S=>?_
 refine JW (S.instAt R hi) ?_;intro a dx Ca es k κ;subst κ;intro ha hc hfs hI q1 q2
 have CO:=(bX C.w.params).ok K Ca hK hc
 refine JE ((b6 C.w.params).met K n A body sc hf Ca hc) fun f dV m1 m2 m3 m4 m5 m6=>?_
 refine method_inst S.F ok.K hI CO.get m1 m2 (kq hfs hnf) ?_
 refine fD ok (fun _ _ _=>.inl m3) hs (.any h2) T fun vs σ₂ g2 rvs q b T2 R2=>?_
 refine Jj (hbd vs σ₂ q) fun d ρ' hd hen hbd=>?_
 refine Jt (m6 _ _ _ hen) fun mvs e1 e2 e3=>?_
 refine tr (e3 _ _ _ (.ref a::rvs) ⟨.ref a,rvs,rfl,R.le b,R2⟩) fun rvs' e4 e5=>?_
 subst e1
 have KH:(KF C.w.params).In g2.s.heap:=T2.S.elim fun _ h=>h.elim fun _ S=>ok.K.keeps S.F.keep
 exact cH (gA (ka:=false) tok (dr ok hd).1 (dr ok hd).2 m4 m5 T2 e4 (fun fd q1 q2=>e5 _ fd KH q1 q2) (fun C' c1 c2 c3 c4 c5 c6 c7=>hbd C' c1 c2 c3 c4 c5 c6 c7) fun v σ' g' w q c=>P v σ' g' w q (b.trans c))
end
end
section
structure Wt (C:Cx)(N:aV)(d b:Nat):Prop where
 s:Ws C N d b
 guards:C.A.guards=some []
theorem Wt.tok {C:Cx}{N:aV}{d b:Nat}(w:Wt C N d b):TOk C:=⟨w.s.e.ok,w.guards⟩
structure FbS (B:Nat→Prop)(k:Nat)(g:Str)(vs:List MV)(σ:aa)(s:RS):Prop where
 keep:∀P fv,bJ P g fv→cN P fv
 sim:∀C,TOk C→B C.b→k≤C.d→WtK C g vs σ (fun v σ'=>s.In (.ok v σ'))
noncomputable abbrev Ft (k:Nat)(g:Str)(vs:List MV)(σ:aa)(v:MV)(σ':aa):Prop:=FbS (fun _=>True) k g vs σ (.one (.ok v σ'))
noncomputable abbrev Fb (b k:Nat)(g:Str)(vs:List MV)(σ:aa)(v:MV)(σ':aa):Prop:=FbS (·=b) k g vs σ (.one (.ok v σ'))
theorem FbS.fb {b k:Nat}{g:Str}{vs:List MV}{σ:aa}{s:RS}(h:FbS (fun _=>True) k g vs σ s):FbS (·=b) k g vs σ s:=⟨h.keep,fun C tok _ hd=>h.sim C tok trivial hd⟩
inductive Mtt (k:Nat)(K n:Str)(id:Nat)(vs:List MV)(σ:aa)(v:MV)(σ':aa):Prop
 |mk (A:Arguments) (body:List Stmt) (sc:Scope) (ρ:Loc) (h1:aU.lookup (K,n)=some (A,body,sc)) (h2:cu K=true) (h3:aD A sc (.ref id::vs)=some ρ)
   (h4:∀d,k≤d+1→∀C,Wt C sc.names d σ.length→WtB C ρ body σ (A5 false σ (.one (.ok v σ'))))
set_option genInjectivity false in
set_option genSizeOf false in
inductive Tt where
 |e (v:VC) (e:PySem.Expr) (ρ:Loc) (σ:aa) (Q:MV→aa→Prop)
 |l (v:VC) (es:List PySem.Expr) (ρ:Loc) (σ:aa) (Q:List MV→aa→Prop)
 |s (v:VC) (st:Stmt) (ρ:Loc) (σ:aa) (Q:MF→Loc→aa→Prop)
 |b (v:VC) (l:List Stmt) (ρ:Loc) (σ:aa) (Q:MF→Loc→aa→Prop)
inductive FbEx (v:VC)(g:Str)(vs:List MV)(σ:aa)(Q:MV→aa→Prop):Prop
 |intro(k:Nat) (s:RS) (hF:FbS (·=v.b) k g vs σ s) (hk:k≤v.d) (q:kX s Q noX)
inductive MttEx (v:VC)(K n:Str)(id:Nat)(vs:List MV)(σ:aa)(Q:MV→aa→Prop):Prop
 |intro(k:Nat) (x:MV) (σ':aa) (hM:Mtt k K n id vs σ x σ') (hk:k≤v.d) (h1:1≤v.d) (q:Q x σ')
inductive BaEx (vs:List MV)(b:List UInt8)(Q:Int→Prop):Prop
 |intro(i:Int) (h:vs=[.int i]) (h0:0≤i) (h1:i<256) (h2:b.length<ai) (q:Q i)
noncomputable def o9:MO→Option (List UInt8)
 | .barr b=>some b
 |_=>none
theorem kC {o:MO}{b:List UInt8}(h:o9 o=some b):o= .barr b:=by
 cases o with
 |barr c=>exact congrArg MO.barr (Option.some.inj h)
 |_=>exact Ji h
section
variable (runE:Tk→Prop)(run:Tt→Prop)(v:VC)(ρ:Loc)(Q:MV→aa→Prop)(QS:MF→Loc→aa→Prop)
noncomputable def wB (g:Str)(vs:List MV)(σ:aa):Prop:=if lK g then rV v g vs σ Q noX else FbEx v g vs σ Q
noncomputable def BE (op:BoolOp)(e:PySem.Expr)(x:MV)(σ:aa):Prop:=aq (qd x) fun k=>if(op== .And)=k then run (.e v e ρ σ Q)else Q (.bool k) σ
noncomputable def BD (n K:Str)(fs:List (Str × MV))(id:Nat)(vs:List MV)(σ:aa):Prop:=jO fs n=none∧MttEx v K n id vs σ Q
noncomputable def BG (n:Str)(id:Nat)(b₁:List UInt8)(vs:List MV)(σ:aa):Prop:=aq ((σ[id]?).bind o9) fun b=>n= .ofString "append"∧b₁=b∧BaEx vs b fun i=>Q .none (σ.set id (.barr (b++[i.toNat.toUInt8])))
noncomputable def zz (n:Str)(args:List PySem.Expr)(id:Nat)(σ:aa)(o:MO):Prop:=(fF o).elim
 (aq (o9 o) fun b=>if n== .ofString "append" then runE (.l v args ρ σ (BG Q n id b) noX)else False)
 fun p=>if cu p.1&&((aU.lookup (p.1,n)).isSome&&(jO p.2 n).isNone)then runE (.l v args ρ σ (BD v Q n p.1 p.2 id) noX)else False
noncomputable def wA (n:Str)(args:List PySem.Expr)(x:MV)(σ:aa):Prop:=aq (jy x) fun id=>aq (σ[id]?) (zz runE v ρ Q n args id σ)
noncomputable def tL (Q:List MV→aa→Prop)(es:List PySem.Expr)(x:MV)(σ:aa):Prop:=run (.l v es ρ σ (gN Q x))
noncomputable def wC (l:List Stmt)(σ:aa):Prop:=run (.b v l ρ σ QS)
noncomputable def H4 (l:List Stmt)(f:MF)(ρ:Loc)(σ:aa):Prop:=match f with
 | .next=>run (.b v l ρ σ QS)
 | .ret x=>QS (.ret x) ρ σ
noncomputable def r9 (e:PySem.Expr)(σ:aa):Prop:=el3 (view e).bool (el4 (view e).call (runE (.e v e ρ σ Q noX)) fun f args kws pos=>if kws.isEmpty&&noStar args then el2 (view f).name
  (el3 (view f).attr False fun o n ap=>if b5 o&&((ap.endLine==pos.line)&&decide (args.length<30))then(if args.length==1||n== .ofString "bits" then runE (.e v o ρ σ (wA runE v ρ Q n args) noX)else runE (.e v e ρ σ Q noX))else False)
  (fun x _=>aq ((cP v.N ρ x).bind kD) fun g=>run (.l v args ρ σ (wB v Q g)))else False)
 fun op es pos=>match es with
  |[]=>False
  |[a]=>run (.e v a ρ σ Q)
  |a::b::rest=>run (.e v a ρ σ (BE run v ρ Q op (.BoolOp op (b::rest) pos)))
noncomputable def sa (t e:PySem.Expr)(pos:Pos)(σ:aa):Prop:=if bT e then False else el4 (view e).call (runE (.s v (.Assign [t] e pos) ρ σ QS noX)) fun _ _ _ _=>
 el2 (view t).name (el3 (view t).attr (runE (.s v (.Assign [t] e pos) ρ σ QS noX)) fun o n _=>run (.e v e ρ σ (ta runE v ρ QS o n))) fun n _=>run (.e v e ρ σ (te v ρ QS n))
noncomputable def r8 (st:Stmt)(σ:aa):Prop:=match st with
 | .Expr e _=>if bT e then False else run (.e v e ρ σ (w0 ρ QS))
 | .Return (some e) _=>run (.e v e ρ σ (Ch ρ QS))
 | .Assign [t] e pos=>sa runE run v ρ QS t e pos σ
 | .If t a b _=>runE (.c v t ρ σ (wC run v ρ QS a) (wC run v ρ QS b))
 | .While t body [] _=>∃(I:Nat→Loc→aa→Prop),(∃n,I n ρ σ)∧∀n ρ σ,I n ρ σ→runE (.c v t ρ σ (fun σ₁=>run (.b v body ρ σ₁ (fc I n QS))) (fun σ₁=>QS .next ρ σ₁))
 |st=>runE (.s v st ρ σ QS noX)
end
noncomputable def BH (runE:Tk→Prop)(run:Tt→Prop):Tt→Prop
 | .e v e ρ σ Q=>r9 runE run v ρ Q e σ
 | .l v es ρ σ Q=>(match es with
  |[]=>Q [] σ
  |e::es=>if cD e then False else run (.e v e ρ σ (tL run v ρ Q es)))
 | .s v st ρ σ Q=>r8 runE run v ρ Q st σ
 | .b v l ρ σ Q=>(match l with
  |[]=>Q .next ρ σ
  |st::rest=>run (.s v st ρ σ (H4 run v Q rest)))
noncomputable def sq:Nat→Tt→Prop
 |0,_=>False
 |n+1,t=>BH (Mine.run 60) (sq n) t
structure StB (v:VC)(l:List Stmt)(ρ:Loc)(σ:aa)(Q:MF→Loc→aa→Prop):Prop where
 out:∀C,Wt C v.N v.d v.b→WtB C ρ l σ Q
noncomputable def ul:Tt→Prop
 | .e v e ρ σ Q=>∀C,Wt C v.N v.d v.b→WtE C ρ e σ Q
 | .l v es ρ σ Q=>∀C,Wt C v.N v.d v.b→WtL C ρ es σ Q
 | .s v st ρ σ Q=>∀C,Wt C v.N v.d v.b→WtS C ρ st σ Q
 | .b v l ρ σ Q=>StB v l ρ σ Q
structure TcOk (v:VC)(g:Str)(vs:List MV)(σ:aa)(Q:MV→aa→Prop):Prop where
 keep:∀P fv,bJ P g fv→cN P fv
 sim:∀C,Wt C v.N v.d v.b→WtK C g vs σ Q
theorem gG {v:VC}{g:Str}{vs:List MV}{σ:aa}{Q:MV→aa→Prop}(h:wB v Q g vs σ):TcOk v g vs σ Q:=
 ifB h (fun _ h=>⟨(dp h).keep,fun C w=>.any ((dp h).sim C w.s.e)⟩) fun _ h=>match h with
  | .intro _ _ hF hk q=>⟨hF.keep,fun C w=>(hF.sim C w.tok w.s.e.b (Nat.le_trans hk w.s.e.d)).mono fun _ _ e=>q.at e⟩
section
variable {run:Tt→Prop}(ih:∀t,run t→ul t){v:VC}{ρ:Loc}{σ:aa}{Q:MV→aa→Prop}{QS:MF→Loc→aa→Prop}
theorem nP {n:Str}{args:List PySem.Expr}{x:MV}{C:Cx}{pos:Pos}(hs:noStar args=true)(w:Wt C v.N v.d v.b)(h:wA (Mine.run 60) v ρ Q n args x σ):MGt C ρ n args pos x σ Q:=by
 refine(elF h).elim fun id e h1=>(elF h1).elim fun o ho h2=>elP (show Option.elim (fF o) _ _ from h2) (fun _ h3=>(elF h3).elim fun b e2 h4=>ifF h4 fun hn h5=>?_) fun p e2 h3=>ifF h3 fun hb h4=>?_
 ·have e:=cL e
  have e2:=kC e2
  have hn:=eq_of_beq hn
  clear h h1 h2 h3 h4
  subst e e2 hn
  refine vy w.tok hs ho (ay 60 _ h5 C w.s.e) fun vs σ₂ q=>(elF q).elim fun l e q1=>?_
  refine tr (Option.bind_eq_some_iff.mp e) fun o e1 e2=>?_
  have e2:=kC e2
  refine Jr q1 ?_;clear q1;intro _ e3 q2
  subst e2 e3
  cases q2 with|intro i e4 i0 i1 hz q3=>
  exact .intro _ e1 ⟨rfl,i,e4,i0,i1,hz,q3⟩
 ·have e:=cL e
  have e2:=eV e2
  clear h h1 h2 h3
  subst e e2
  refine Jf (Option.isSome_iff_exists.mp (bz (a9 hb))) fun z hf=>?_
  refine sN (A:=z.1) (body:=z.2.1) (sc:=z.2.2) w.tok hs ho (Option.isNone_iff_eq_none.mp (a9 (a9 hb))) hf (bz hb) (ay 60 _ h4 C w.s.e) fun vs σ₂ q=>?_
  cases q.2 with|intro k x σ' hM hk hv qr=>
  cases hM with|mk A body sc ρ' m1 m2 m3 m4=>
  have e:z=(A,body,sc):=Option.some.inj (hf.symm.trans m1)
  subst e
  have hd:=cE (k:=0) (Nat.le_trans hv w.s.e.d)
  exact Jp (C.d-1) ρ' hd.1 m3 (fun C' tok' top' w' B' sc' d' b'=>(m4 (C.d-1) (hd.1▸Nat.le_trans hk w.s.e.d) C' ⟨⟨⟨tok'.ok,sc'▸rfl,Nat.le_of_eq d'.symm,b'⟩,top'⟩,tok'.guards⟩).mono fun f ρ σ q'=>q'.imp fun r' e=>(show r'= .ok x σ' from e)▸qr)
include ih
theorem uR {e:PySem.Expr}{C:Cx}(w:Wt C v.N v.d v.b)(h:r9 (Mine.run 60) run v ρ Q e σ):WtE C ρ e σ Q:=by
 have plain:Mine.run 60 (.e v e ρ σ Q noX)→WtE C ρ e σ Q:=fun h=>.any (ay 60 _ h C w.s.e)
 refine lT h (fun _ h=>A6 h (fun _ h=>plain h) fun f args kws pos e1 h1=>ifF h1 fun hb h2=>ng h2 (fun _ h3=>lT h3 (fun _ h=>h.elim) fun o n ap e2 h4=>ifF h4 fun hp h5=>ifB h5 (fun _ h6=>?_) fun _ h=>plain h) fun x xp e2 h3=>(elF h3).elim fun g hm h4=>?_) fun op es pos e1 h1=>?_
 ·have hk:=List.isEmpty_iff.mp (bz hb)
  have hs:=a9 hb
  clear h1 h2 h3 h4 h5 plain hb
  subst e1 e2 hk
  exact uy (bz hp) (bz (a9 hp)) (of_decide_eq_true (a9 (a9 hp))) hs (ay 60 _ h6 C w.s.e) fun x σ₁ q=>nP hs w q
 ·have hk:=List.isEmpty_iff.mp (bz hb)
  have hs:=a9 hb
  clear h1 h2 h3 plain hb
  subst e1 e2 hk
  exact l6 w.s.e.ok (w.s.e.names.symm▸lS hm) (fun vs σ₁ q fv hg=>(gG q).keep _ fv hg) hs (ih _ h4 C w) fun vs σ₁ q=>(gG q).sim C w
 ·clear plain h
  subst e1
  match es,h1 with
  |[],h=>exact h.elim
  |[a],h=>exact ih _ h C w
  |a::b::rest,h=>
   cases op with
   |And=>exact ze (ih _ h C w) fun x σ₁ q=>(elF q).elim fun k e q=>.intro k (eO e) (fun hk=>by subst hk;exact ih _ q C w) fun hk=>by subst hk;exact q
   |Or=>exact Bq (ih _ h C w) fun x σ₁ q=>(elF q).elim fun k e q=>.intro k (eO e) (fun hk=>by subst hk;exact q) fun hk=>by subst hk;exact ih _ q C w
theorem uS {t e:PySem.Expr}{pos:Pos}{C:Cx}(w:Wt C v.N v.d v.b)(h:sa (Mine.run 60) run v ρ QS t e pos σ):WtS C ρ (.Assign [t] e pos) σ QS:=by
 have plain:Mine.run 60 (.s v (.Assign [t] e pos) ρ σ QS noX)→WtS C ρ (.Assign [t] e pos) σ QS:=fun h=>.any (ay 60 _ h C w.s)
 refine ifN h fun hc h1=>A6 h1 (fun _ h=>plain h) fun _ _ _ _ _ h2=>ng h2 (fun _ h3=>lT h3 (fun _ h=>plain h) fun o n p e1 h4=>?_) fun n p e1 h3=>?_
 ·clear h h1 h2 h3 plain
  subst e1
  exact rM w.s.e.ok hc (ih _ h4 C w) (fun x σ₁ q=>ay 60 (.e v o ρ σ₁ (tc v ρ QS n x) noX) q C w.s.e) fun x y σ₁ q=>elF (w.s.e.b.symm▸q)
 ·clear h h1 h2 plain
  subst e1
  exact rL w.s.e.ok hc (ih _ h3 C w) fun x σ₁ q=>w.s.e.names.symm▸elF q
theorem uQ {st:Stmt}{C:Cx}(w:Wt C v.N v.d v.b)(h:r8 (Mine.run 60) run v ρ QS st σ):WtS C ρ st σ QS:=by
 have plain:Mine.run 60 (.s v st ρ σ QS noX)→WtS C ρ st σ QS:=fun h=>.any (ay 60 _ h C w.s)
 cases st with
 |Expr e pos=>exact ifN h fun hc h=>uz w.s.e.ok hc (ih _ h C w) fun x σ₁ q=>(elF q).elim fun u e q=>⟨nC e,q⟩
 |Return e pos=>
  cases e with
  |none=>exact plain h
  |some e=>exact zd (ih _ h C w) fun x σ₁ q=>q
 |Assign ts e pos=>
  match ts,h with
  |[],h=>exact plain h
  |_::_::_,h=>exact plain h
  |[t],h=>exact uS ih w h
 |If t a b pos=>exact wt (ay 60 _ h C w.s.e) (fun σ₁ q=>(ih (.b v a ρ σ₁ QS) q).out C w) fun σ₁ q=>(ih (.b v b ρ σ₁ QS) q).out C w
 |While t body els pos=>
  cases els with
  |cons _ _=>exact plain h
  |nil=>
   refine tr h ?_;clear h;intro I hI turn
   exact l5 hI fun m ρ σ hm=>WT.mono (ay 60 _ (turn m ρ σ hm) C w.s.e) (fun σ₁ q=>(ih (.b v body ρ σ₁ (fc I m QS)) q).out C w) fun _ q=>q
 |_=>exact plain h
end
theorem fm (n:Nat):∀t:Tt,sq n t→ul t:=by
 induction n with
 |zero=>exact fun _ h=>h.elim
 |succ n ih=>
  intro t h
  cases t with
  |e v e ρ σ Q=>exact fun C w=>uR ih w h
  |l v es ρ σ Q=>
   cases es with
   |nil=>exact fun C w=>za h
   |cons e es=>exact fun C w=>ifN h fun hs h=>ux hs (ih _ h C w) (fun x σ₁ q=>ih (.l v es ρ σ₁ (gN Q x)) q C w) fun x vs σ₂ q=>q
  |s v st ρ σ Q=>exact fun C w=>uQ ih w h
  |b v l ρ σ Q=>
   cases l with
   |nil=>exact⟨fun C w=>pc h⟩
   |cons st rest=>exact⟨fun C w=>rK (ih _ h C w) (fun ρ' σ' q=>(ih (.b v rest ρ' σ' Q) q).out C w) fun x ρ' σ' q=>q⟩
noncomputable def StS (v:VC)(st:Stmt)(ρ:Loc)(σ:aa)(Q:MF→Loc→aa→Prop):Prop:=∀C,Wt C v.N v.d v.b→WtS C ρ st σ Q
noncomputable def v9 (v:VC)(l:List Stmt)(Q:MF→Loc→aa→Prop)(f:MF)(ρ:Loc)(σ:aa):Prop:=match f with
 | .next=>StB v l ρ σ Q
 | .ret x=>Q (.ret x) ρ σ
noncomputable def BW (v:VC)(l:List Stmt)(m:Nat)(I:Nat→Loc→aa→Prop)(Q:MF→Loc→aa→Prop)(ρ:Loc)(σ:aa):Prop:=StB v l ρ σ (fc I m Q)
noncomputable def I9 (v:VC)(l:List Stmt)(Q:MF→Loc→aa→Prop)(ρ:Loc)(σ:aa):Prop:=StB v l ρ σ Q
noncomputable def ifT (v:VC)(l rest:List Stmt)(Q:MF→Loc→aa→Prop)(ρ:Loc)(σ:aa):Prop:=StB v l ρ σ (v9 v rest Q)
section
variable {v:VC}{st:Stmt}{l rest:List Stmt}{ρ:Loc}{σ:aa}{Q:MF→Loc→aa→Prop}
theorem StB.run (n:Nat)(h:sq n (.b v l ρ σ Q)):StB v l ρ σ Q:=fm n _ h
theorem StB.skip (h:Q .next ρ σ):StB v [] ρ σ Q:=⟨fun C w=>pc h⟩
theorem StB.cons (h:StS v st ρ σ (v9 v rest Q)):StB v (st::rest) ρ σ Q:=⟨fun C w=>rK (h C w) (fun ρ' σ' (q:StB v rest ρ' σ' Q)=>q.out C w) fun x ρ' σ' q=>q⟩
theorem StB.cut (n:Nat)(hl:l=hd l::l.tail)(h:sq n (.s v (hd l) ρ σ (v9 v l.tail Q))):StB v l ρ σ Q:=hl▸StB.cons (fm n _ h)
theorem StB.of (n:Nat)(hl:l=hd l::l.tail)(h:Mine.run n (.s v (hd l) ρ σ (v9 v l.tail Q) noX)):StB v l ρ σ Q:=hl▸StB.cons fun C w=>.any (ay n _ h C w.s)
theorem StB.if_ (n:Nat)(hl:l= .If (kR (hd l)) (bj (hd l)) (nT (hd l)) (wK (hd l))::l.tail)(h:Mine.run n (.c v (kR (hd l)) ρ σ (ifT v (bj (hd l)) l.tail Q ρ) (ifT v (nT (hd l)) l.tail Q ρ))):StB v l ρ σ Q:=
 hl▸StB.cons fun C w=>wt (ay n _ h C w.s.e) (fun σ₁ (q:StB v _ ρ σ₁ _)=>q.out C w) fun σ₁ (q:StB v _ ρ σ₁ _)=>q.out C w
theorem StB.while_ (n:Nat)(hl:l= .While (kR (hd l)) (bj (hd l)) [] (wK (hd l))::l.tail)(I:Nat→Loc→aa→Prop)(start:∃m,I m ρ σ)
  (turn:∀m ρ σ,I m ρ σ→Mine.run n (.c v (kR (hd l)) ρ σ (BW v (bj (hd l)) m I Q ρ) (I9 v l.tail Q ρ))):StB v l ρ σ Q:=hl▸StB.cons fun C w=>l5 (I:=I) start fun m ρ σ hm=>
 WT.mono (ay n _ (turn m ρ σ hm) C w.s.e) (fun σ₁ (q:StB v _ ρ σ₁ (fc I m Q))=>(q.out C w).mono fun f ρ' σ' q=>match f,q with| .next,q=>q| .ret _,q=>q) fun _ q=>q
end
section
variable {σ σ₂:aa}{vs:List MV}{x:MV}{r:R MV}{k n:Nat}{g K m:Str}{ρ:Loc}{id:Nat}{s:RS}
theorem FbS.mk' {A:Arguments}{body:List Stmt}{sc:Scope}(hf:bw.lookup g=some (A,body,sc))(hka:bd g=false)(hen:aD A sc vs=some ρ)(h:∀d,k≤d→∀C,Wt C sc.names d σ.length→WtB C ρ body σ (fun f ρ' σ'=>OptEx (ends false σ (.ok (f,ρ') σ')) s.In))(hs:∀r,s.In r→∃v σ',r= .ok v σ'):FbS (fun _=>True) (k+1) g vs σ s:=by
 refine⟨fun P fv hg=>km hf hg,fun C tok _ hd=>zb tok (cE hd).1 hf hen fun C' tok' top' w' B' sc' d' b'=>?_⟩
 rewrite[hka]at b' ⊢
 exact(h (C.d-1) (cE hd).2 C' ⟨⟨⟨tok'.ok,sc'▸rfl,Nat.le_of_eq d'.symm,b'⟩,top'⟩,tok'.guards⟩).mono fun f ρ' σ' q=>q.imp fun r hr=>by
  refine Jm (hs r hr) fun v σ2 e=>?_
  subst e
  exact hr
theorem Ft.sd (i:Nat)(hf:bw.lookup g=some (ah i))(hka:bd g=false)(hen:aD (ah i).1 (ah i).2.2 vs=some ρ)
  (h:∀d,k≤d→StB ⟨(ah i).2.2.names,d,σ.length⟩ (ah i).2.1 ρ σ (fun f ρ' σ'=>ends false σ (.ok (f,ρ') σ')=some (.ok x σ₂))):Ft (k+1) g vs σ x σ₂:=
 FbS.mk' hf hka hen (fun d hd C w=>((h d hd).out C w).mono fun f ρ' σ' q=>.intro _ q rfl) fun r e=>⟨x,σ₂,e⟩
noncomputable def okP (P:MV→aa→Prop)(r:R MV):Prop:=∃v σ,r= .ok v σ∧P v σ
theorem Ft.ex (i:Nat){P:MV→aa→Prop}(hf:bw.lookup g=some (ah i))(hka:bd g=false)(hen:aD (ah i).1 (ah i).2.2 vs=some ρ)
  (h:StB ⟨(ah i).2.2.names,k,σ.length⟩ (ah i).2.1 ρ σ (fun f ρ' σ'=>∃x σ₂,ends false σ (.ok (f,ρ') σ')=some (.ok x σ₂)∧P x σ₂)):FbS (fun _=>True) (k+1) g vs σ (.all (okP P)):=
 FbS.mk' hf hka hen (fun d hd C w=>(h.out C ⟨w.s.le hd,w.guards⟩).mono fun f ρ' σ' q=>by
  refine Jw q ?_;clear q;intro x σ₂ e q
  exact .intro _ e ⟨x,σ₂,rfl,q⟩) fun r e=>e.elim fun v e=>e.elim fun σ e=>⟨v,σ,e.1⟩
theorem Mtt.sd (i j:Nat)(hf:aU.lookup (K,m)=some (al i j))(hK:cu K=true)(hka:bd m=false)(hen:aD (al i j).1 (al i j).2.2 (.ref id::vs)=some ρ)
  (h:∀d,k≤d+1→StB ⟨(al i j).2.2.names,d,σ.length⟩ (al i j).2.1 ρ σ (fun f ρ' σ'=>ends false σ (.ok (f,ρ') σ')=some (.ok x σ₂))):Mtt k K m id vs σ x σ₂:=
 .mk _ _ _ ρ hf hK hen fun d hd C w=>((h d hd).out C w).mono fun f ρ' σ' q=>.intro _ q rfl
theorem Fb.clsVc {b:Nat}(i j n:Nat)(hg:cu g=true)(hf:aU.lookup (g,.ofString "__init__")=some (al i j))(hen:aD (al i j).1 (al i j).2.2 (.ref σ.length::vs)=some ρ)
  (h:∀d,k≤d→sq n (.b ⟨(al i j).2.2.names,d,b⟩ (al i j).2.1 ρ (σ++[.inst g []]) (fun f _ σ'=>f= .next∧σ'=σ₂))):Fb b (k+1) g vs σ (.ref σ.length) σ₂:=
 ⟨fun P fv h=>kv hg h,fun C tok hb hd=>zc tok (cE hd).1 hg hf hen fun C' tok' top' w' B' sc' d' b'=>((fm n _ (h (C.d-1) (cE hd).2)).out C' ⟨⟨⟨tok'.ok,congrArg Scope.names sc',Nat.le_of_eq d'.symm,b'.trans hb⟩,top'⟩,tok'.guards⟩).mono fun f _ σ' q=>⟨q.1,congrArg (R.ok (MV.ref σ.length)) q.2⟩⟩
theorem Ft.bytearray:Ft 0 (.ofString "bytearray") [] σ (.ref σ.length) (σ++[.barr []]):=⟨fun P fv h=>gS (v:= .type "bytearray") rfl rfl h,fun C tok _ _=>kG tok rfl⟩
theorem FnS.timS (h:FnS k g vs σ s)(hs:∀c σ',¬s.In (.ex c σ')):FbS (fun _=>True) k g vs σ s:=⟨h.keep,fun C tok _ hd=>.any ((h.sim C tok.ok hd).mono (fun _ _ e=>e) fun c σ' e=>hs c σ' e)⟩
theorem Fn.tim (h:Fn k g vs σ (.ok x σ₂)):Ft k g vs σ x σ₂:=⟨h.keep,fun C tok _ hd=>.any ((h.sim C tok.ok hd).mono (fun _ _ e=>e) fun c σ' e=>nomatch (show R.ex c σ'=R.ok x σ₂ from e))⟩
end
end
theorem dD {σ:aa}{c:Int}(h:0≤c):Fn 1 (.ofString "need_count") [.int c] σ (.ok .none σ):=by
 refine Fn.vc 7 60 (ρ:=[lc "count" (.int c)]) rfl rfl rfl fun d _=>?_
 exact Jg (fun _=>⟨fun h=>(nomatch h),fun _=>⟨fun h=>absurd h (by exact (lE 0x318dd402006800805500801) h (by assumption)),fun _=>d8 rfl rfl⟩⟩) (fun h=>(nomatch h))
theorem jH {σ:aa}{v:Int}{n:Nat}(h:0≤v)(h2:v<2^n):Fn 2 (.ofString "need_value") [.int v,.int n] σ (.ok .none σ):=by
 refine Fn.vc 8 60 (ρ:=[lc "value" (.int v),lc "size" (.int n)]) rfl rfl rfl fun d hd=>?_
 refine⟨_,_,dD (c:=n) (by exact lA 0x28b00402),hd,?_⟩
 exact Jg (fun _=>⟨fun h=>absurd h (by exact (lE 0x318dd402006800805500801) h (by assumption)),fun _=>⟨Int.natCast_nonneg n,fun _=>d8 rfl rfl,fun q=>absurd (Int.ediv_eq_zero_of_lt h h2) q⟩⟩) (fun h=>(nomatch h))
theorem gi {σ:aa}{c:Int}:Fn 1 (.ofString "places_of") [.int c] σ (.ok (.int (if c= -1 then 1 else c)) σ):=by
 refine Fn.vc 15 60 (ρ:=[lc "count" (.int c)]) rfl rfl rfl fun d _=>?_
 exact Jg (fun h=>aP rfl (by refine Kh (if_pos h)▸?_;rfl) rfl rfl) (fun h=>aP rfl (by refine Kh (if_neg h)▸?_;rfl) rfl rfl)
theorem uk {a b h:Nat}(ha:a<2^h):a &&& (b*2^h)=0:=by
 apply Nat.eq_of_testBit_eq
 intro i
 rewrite[Nat.testBit_and];refine Kh (Nat.zero_testBit _)▸?_;rewrite[Nat.testBit_mul_two_pow]
 by_cases hi:h≤i
 ·rw[Nat.testBit_lt_two_pow (Nat.lt_of_lt_of_le ha (Nat.pow_le_pow_right (by decide) hi))];rfl
 ·simp[hi]
theorem kY {a b h:Nat}(ha:a<2^h):Builtin.bitOr (a:Int) ((b:Int)*2^h)=((a+b*2^h:Nat):Int):=by
 have e:(b:Int)*2^h=((b*2^h:Nat):Int):=by push_cast;rfl
 refine Kh (bitOr_and _ _)▸?_;refine Kh e▸?_;refine Kh (bitAnd_pp (Int.natCast_nonneg _) (Int.natCast_nonneg _))▸?_;refine Kh (Int.toNat_natCast _)▸?_;refine Kh (Int.toNat_natCast _)▸?_;refine Kh (uk ha)▸?_
 push_cast
 exact lD 0xb100158025008800ac01
theorem nB {a n:Nat}:Builtin.bitAnd (a:Int) (1*2^n-1)=((a%2^n:Nat):Int):=by
 have h1:1≤2^n:=Nat.one_le_two_pow
 have e:(1*2^n-1:Int)=((2^n-1:Nat):Int):=by rewrite[Int.one_mul,Int.ofNat_sub h1];push_cast;rfl
 refine Kh e▸?_;refine Kh (bitAnd_pp (Int.natCast_nonneg _) (Int.natCast_nonneg _))▸?_;refine Kh (Int.toNat_natCast _)▸?_;refine Kh (Int.toNat_natCast _)▸?_;refine Kh (Nat.and_two_pow_sub_one_eq_mod _ _)▸?_;rfl
noncomputable def af:List UInt8→Nat
 |[]=>0
 |x::r=>x.toNat+256*af r
theorem jW:∀{D:List UInt8}{p:Nat}{x:UInt8},D[p]?=some x→af D/2^(8*p)%256=x.toNat
 |y::r,0,x,h=>by
  replace h:=List.getElem?_cons_zero▸h
  refine Jk h ?_;clear h;intro κ;subst κ
  have:=y.toNat_lt
  simp only[af,Nat.mul_zero,Nat.pow_zero,Nat.div_one,Nat.add_mul_mod_self_left]
  lia
 |y::r,p+1,x,h=>by
  replace h:=List.getElem?_cons_succ▸h
  have ih:=jW h
  have:=y.toNat_lt
  have e:2^(8*(p+1))=256*2^(8*p):=by rewrite[Nat.mul_add];rewrite[Nat.pow_add];refine Kh (Nat.mul_comm _ _)▸?_;rfl
  refine Kh e▸?_;rewrite[←Nat.div_div_eq_div_mul]
  have:af (y::r)/256=af r:=by simp only[af];exact (lB 0x312085280086430428008600c50010c01) this
  refine Kh this▸?_;exact ih
noncomputable def stk (W p a:Nat):Nat:=W%2^(8*p)/2^a
theorem zB {W p a:Nat}(h:a≤8*p):stk W p a<2^(8*p-a):=by
 unfold stk
 rw[Nat.div_lt_iff_lt_mul (Nat.pow_pos (by decide)),← Nat.pow_add]
 have:8*p-a+a=8*p:=by exact (lB 0x312304281100128026085028182140801) h
 refine Kh this▸?_
 exact Nat.mod_lt _ (Nat.pow_pos (by decide))
theorem r7 {W p a x:Nat}(h:a≤8*p)(hx:W/2^(8*p)%256=x):stk W p a+x*2^(8*p-a)=stk W (p+1) a:=by
 unfold stk
 have e:2^(8*(p+1))=2^(8*p)*256:=by rewrite[Nat.mul_add];rewrite[Nat.pow_add];rfl
 refine Kh e▸?_;refine Kh Nat.mod_mul▸?_;refine Kh hx▸?_
 have e2:2^(8*p)*x=x*2^(8*p-a)*2^a:=by
  rewrite[Nat.mul_assoc];rewrite[←Nat.pow_add]
  have:8*p-a+a=8*p:=by exact (lB 0x312304281100128026085028182140801) h
  refine Kh this▸?_;refine Kh (Nat.mul_comm _ _)▸?_;rfl
 rw[e2,Nat.add_mul_div_right _ _ (Nat.pow_pos (by decide))]
theorem qp {W p a n:Nat}(h:a+n≤8*p):stk W p a%2^n=W/2^a%2^n:=by
 unfold stk
 have e:8*p=a+(8*p-a):=by exact (lC 0x18910a0098414080130828140c20a04408401) h
 refine Kh e▸?_;rewrite[Nat.pow_add];rewrite[Nat.mod_mul_right_div_self]
 exact Nat.mod_mod_of_dvd _ (Nat.pow_dvd_pow 2 (by exact (lC 0x18c40a00984140821910a0098414080130828140c20a04408401) h e))
theorem qq {W p a n:Nat}:stk W p a/2^n=stk W p (a+n):=by
 unfold stk
 rewrite[Nat.div_div_eq_div_mul];rewrite[←Nat.pow_add];rfl
section
noncomputable abbrev oct (D:List UInt8)(p:Nat):MO:= .inst (.ofString "Octets") [lc "data" (.bytes D),lc "stop" (.int D.length),lc "place" (.int p)]
noncomputable abbrev cbt (s h:Nat):MO:= .inst (.ofString "CountBits") [lc "cursor" (.ref 1),lc "stock" (.int s),lc "have" (.int h)]
section
variable {D:List UInt8}{p:Nat}{X:MO}{rest:aa}{σ:aa}
theorem rp:Fn 1 (.ofString "end_of") [.bytes D,.int 0,.none] σ (.ok (.int D.length) σ):=by
 refine Fn.vc 9 60 (ρ:=[lc "octets" (.bytes D),lc "start" (.int 0),lc "end" .none,lc "stop" .undef]) rfl rfl rfl fun d _=>?_
 refine⟨true,rfl,fun _=>?_,fun h=>(nomatch h)⟩
 exact Jg (fun _=>⟨fun _=>⟨fun _=>aP rfl rfl rfl rfl,fun h=>absurd (Int.le_refl _) h⟩,fun h=>absurd (Int.natCast_nonneg _) h⟩) (fun h=>absurd (Int.le_refl _) h)
theorem qJ:Fn 2 (.ofString "Octets") [.bytes D] [X] (.ok (.ref 1) [X,oct D 0]):=by
 refine Fn.clsVc (σ:=[X]) (k:=1) 11 0 60 (ρ:=[lc "self" (.ref 1),lc "octets" (.bytes D),lc "start" (.int 0),lc "end" .none]) rfl rfl rfl fun d b hd=>?_
 exact⟨_,rfl,_,_,rp,hd,rfl,rfl⟩
theorem pG:Mt 1 (.ofString "Octets") (.ofString "left") 1 [] (X::oct D p::rest) (.ok (.int ((D.length:Int)-p)) (X::oct D p::rest)):=
 Mt.vc 11 1 60 (ρ:=[lc "self" (.ref 1)]) rfl rfl rfl rfl fun d _=>aP rfl rfl rfl rfl
theorem v6 {x:UInt8}(h:D[p]?=some x):cut D (some ((p:Int)+1-1)) (some ((p:Int)+1))=[x]:=by
 refine Jf (List.getElem?_eq_some_iff.mp h) fun hlt hx=>?_
 have e1:br D.length ((p:Int)+1-1)=p:=by unfold br;rw[if_pos (by exact lA 0xa14222044b00402)];exact (lB 0x312004e10b0a1110225803108401) hlt
 have e2:br D.length ((p:Int)+1)=p+1:=by unfold br;rw[if_pos (by exact lA 0x142044b00402)];exact (lB 0x3122044009c21610225803108401) hlt
 unfold cut
 simp only[Option.elim_some,Option.elim_none,e1,e2]
 have:p+1-p=1:=by exact lA 0x48222802408801
 refine Kh this▸?_;refine Kh (List.drop_eq_getElem_cons hlt)▸?_;refine Kh hx▸?_
 rfl
theorem n8 {x:UInt8}(h:D[p]?=some x):Mt 2 (.ofString "Octets") (.ofString "take") 1 [.int 1] (X::oct D p::rest) (.ok (.bytes [x]) (X::oct D (p+1)::rest)):=by
 have hlt:=(List.getElem?_eq_some_iff.mp h).1
 refine Mt.vc 11 3 60 (ρ:=[lc "self" (.ref 1),lc "count" (.int 1)]) rfl rfl rfl rfl fun d hd=>?_
 refine⟨_,_,dD (by decide),show _≤d by exact (lA 0x310004228102200442) hd,rfl,_,_,pG,show _≤d by exact (lA 0x310004228102200442) hd,show _≤d by exact (lA 0x310004228102200442) hd,fun q=>absurd q (by exact (lB 0xc6375088ab005610d4222ac015843108401) hlt q),fun _=>?_⟩
 exact aP (x:= .bytes [x]) rfl (congrArg (fun y=>MF.ret (.bytes y)) (v6 h)) rfl rfl
theorem mC (h:D.length≤p)(h2:p≤D.length):Mt 2 (.ofString "Octets") (.ofString "take") 1 [.int 1] (X::oct D p::rest) (.ex (.ofString "CutShort") (X::oct D p::rest)):=by
 refine Mt.vc 11 3 60 (ρ:=[lc "self" (.ref 1),lc "count" (.int 1)]) rfl rfl rfl rfl fun d hd=>?_
 refine⟨_,_,dD (by decide),show _≤d by exact (lA 0x310004228102200442) hd,rfl,_,_,pG,show _≤d by exact (lA 0x310004228102200442) hd,show _≤d by exact (lA 0x310004228102200442) hd,fun _=>?_,fun q=>absurd q (by exact (lB 0xc631bdd4222ac215803ba84455842b006000843008401) h h2 q)⟩
 exact⟨_,_,_,_,_,_,rfl,rfl,rfl,rfl⟩
theorem sE {x:UInt8}(h:D[p]?=some x):Mt 3 (.ofString "Octets") (.ofString "octet") 1 [] (X::oct D p::rest) (.ok (.int x.toNat) (X::oct D (p+1)::rest)):=by
 refine Mt.vc 11 5 60 (ρ:=[lc "self" (.ref 1)]) rfl rfl rfl rfl fun d hd=>?_
 exact⟨rfl,_,_,n8 h,show _≤d by exact (lA 0x310004428102200462) hd,show _≤d by exact (lA 0x310004228102200462) hd,_,rfl,aP rfl rfl rfl rfl⟩
theorem qK (h:D.length≤p)(h2:p≤D.length):Mt 3 (.ofString "Octets") (.ofString "octet") 1 [] (X::oct D p::rest) (.ex (.ofString "CutShort") (X::oct D p::rest)):=by
 refine Mt.vc 11 5 60 (ρ:=[lc "self" (.ref 1)]) rfl rfl rfl rfl fun d hd=>?_
 exact⟨rfl,_,_,mC h h2,show _≤d by exact (lA 0x310004428102200462) hd,show _≤d by exact (lA 0x310004228102200462) hd,rfl⟩
end
end
section
section
variable {D:List UInt8}{X:MO}{rest:aa}{a n:Nat}
theorem tW {o:MO}:Fn 1 (.ofString "CountBits") [.ref 1] [X,o] (.ok (.ref 2) [X,o,cbt 0 0]):=by
 refine Fn.cls (σ:=[X,o]) (k:=0) (A:=(al 17 0).1) (body:=(al 17 0).2.1) (sc:=(al 17 0).2.2) (ρ':=[lc "self" (.ref 2),lc "cursor" (.ref 1)]) rfl rfl rfl fun d b hd C w=>?_
 have self:∀{σ:aa}{pos:Pos},WE C [lc "self" (.ref 2),lc "cursor" (.ref 1)] (.Name (.ofString "self") pos) σ (fun x σ'=>x= .ref 2∧σ'=σ) noX:=nM w.e.ok (dv _) (w.e.names.symm▸rfl) ⟨rfl,rfl⟩
 have set:∀{σ σ₂:aa}{n:Str}{v:MV}{ts:List PySem.Expr}{vs:List MV}{Q:Loc→aa→Prop}{p q:Pos},cj C.b σ (.ref 2) n v=some σ₂→WM C [lc "self" (.ref 2),lc "cursor" (.ref 1)] ts vs σ₂ Q→WM C [lc "self" (.ref 2),lc "cursor" (.ref 1)] (.Attribute (.Name (.ofString "self") p) n q::ts) (v::vs) σ Q:=fun hs h=>
  uH w.e.ok (bX _) self fun x σ₁ q=>by
   refine Jh q ?_;clear q;intro e1 e2
   subst e1 e2
   exact .intro _ hs h
 refine rS (Q1:=fun f _ σ'=>f= .next∧σ'=[X,o,cbt 0 0]) (mc (Q1:=fun x σ'=>x= .tup [.ref 1,.int 0,.int 0]∧σ'=[X,o,.inst (.ofString "CountBits") []]) w.e.ok rfl (kQ w.e.ok (w.e.names.symm▸rfl))
  (ay 20 (.e ⟨(al 17 0).2.2.names,d,b⟩ _ _ _ _ noX) (by exact JA rfl (Nat.le_of_ble_eq_true rfl) rfl rfl) C w.e) fun x σ₁ q=>?_) (fun _ _ q=>nL ⟨rfl,q.2⟩) fun _ _ _ q=>nomatch q.1
 refine Jh q ?_;clear q;intro e1 e2
 subst e1 e2
 exact .intro _ rfl ⟨⟨rfl,rfl⟩,set rfl (set rfl (set rfl (rT ⟨rfl,rfl⟩)))⟩
noncomputable abbrev rdo (D:List UInt8)(a:Nat):MO:=oct D ((a+7)/8)
noncomputable abbrev rdc (D:List UInt8)(a:Nat):MO:=cbt (stk (af D) ((a+7)/8) a) (8*((a+7)/8)-a)
theorem tV {s h:Nat}{x y:Int}(e1:x=s)(e2:y=h):MO.inst (.ofString "CountBits") [lc "cursor" (.ref 1),lc "stock" (.int x),lc "have" (.int y)]=cbt s h:=by subst e1 e2;rfl
theorem pp (ha:a≤8*D.length)(hn:n≤1000):Mt 4 (.ofString "CountBits") (.ofString "take") 2 [.int n] (X::rdo D a::rdc D a::rest)
  (if a+n≤8*D.length then .ok (.int ((af D/2^a%2^n:Nat):Int)) (X::rdo D (a+n)::rdc D (a+n)::rest)
   else .ex (.ofString "CutShort") (X::oct D D.length::cbt (stk (af D) D.length a) (8*D.length-a)::rest)):=by
 refine Mt.vc 17 1 60 (ρ:=[lc "self" (.ref 2),lc "count" (.int n),lc "value" .undef]) rfl rfl rfl rfl fun d hd=>?_
 refine Jl (fun m ρ σ=>∃p:Nat,m=D.length-p∧ρ=[lc "self" (.ref 2),lc "count" (.int n),lc "value" .undef]∧σ=X::oct D p::cbt (stk (af D) p a) (8*p-a)::rest∧(a+7)/8≤p∧p≤D.length∧(p=(a+7)/8∨8*p<a+n+8)) ⟨_,(a+7)/8,rfl,rfl,rfl,Nat.le_refl _,by exact (lB 0xc40214a044388018182140801) ha,.inl rfl⟩ ?_
 rintro m ρ σ ⟨p,rfl,rfl,rfl,h1,h2,h3⟩
 have hap:a≤8*p:=by exact (lB 0xc40c10a0400c0214a04438801) h1
 refine Jg (fun hlt=>?_) (fun hge=>?_)
 ·have hlt:8*p-a<n:=by exact (lC 0x1888825084c00a0555882b2842600502) hlt
  by_cases hp:p<D.length
  ·have hx:D[p]?=some D[p]:=List.getElem?_eq_getElem hp
   refine⟨rfl,_,_,sE hx,show _≤d by exact (lA 0x310004628102200482) hd,show _≤d by exact (lA 0x310004228102200482) hd,⟨Int.natCast_nonneg _,by exact (lC 0x318a7a120106b2882608502aac015944130428143e810c01) hn (by assumption),?_⟩,D.length-(p+1),by exact (lB 0x31889401084a408801086210803008401) h2 hp,p+1,rfl,rfl,?_,by exact (lB 0x310204410a50221c400c0214a04438801) h1,by exact (lB 0xc620109022006210803008401) h2 hp,.inr (by exact (lC 0x62244088208426204400a0555882b2842600502) (by assumption))⟩
   ·have:=D[p].toNat_lt
    refine(?_:(D[p].toNat:Int).natAbs<2^64)
    exact (lC 0x3188c0000000000000001a35ac418a0021883108401) hp this
   ·have e:=r7 (W:=af D) (a:=a) hap (jW hx)
    have e2:=kY (a:=stk (af D) p a) (b:=D[p].toNat) (h:=8*p-a) (zB hap)
    replace e2:=e▸e2
    exact congrArg (fun z=>X::oct D (p+1)::z::rest) (tV e2 (xa4 hap))
  ·have hp:D.length≤p:=by exact (lB 0x318800210ee210803008401) h2 hp
   have:p=D.length:=by exact (lB 0x318904200ee210803008401) h2 (by assumption)
   subst this
   refine⟨rfl,_,_,qK (Nat.le_refl _) (Nat.le_refl _),show _≤d by exact (lA 0x310004628102200482) hd,show _≤d by exact (lA 0x310004228102200482) hd,?_⟩
   show(if _ then _ else _)=_
   rw[if_neg (by exact (lC 0x31b8180140882084355882b2842600502) (by assumption))]
 ·have hge:n≤8*p-a:=by exact (lC 0x3102842600502107755882b2842600502) hge
  have hpe:p=(a+n+7)/8:=by exact (lC 0xc63124a04438882080210eeab10565004c10a05a89102208200982140a4940887100210c0214a04438801) h1 h3 (by assumption)
  refine Jn ⟨Int.natCast_nonneg _,by exact (lA 0x314f424020d600c3e810c01) hn,by decide⟩ (Int.natCast_nonneg _) ?_
  show ends false _ _=some (if _ then _ else _)
  rw[if_pos (by exact (lF 0xc62060850220c220c928110e220c220803008401) h2 hpe)]
  refine aP (x:= .int ((af D/2^a%2^n:Nat):Int)) rfl (congrArg (fun z=>MF.ret (.int z)) ?_) ?_ rfl
  ·have:=nB (a:=stk (af D) p a) (n:=n)
   rw[qp (by exact (lC 0x310300281104108649408871104108401) hpe)]at this
   exact this
  ·subst hpe
   refine congrArg (fun z=>X::oct D ((a+n+7)/8)::z::rest) (tV ?_ ?_)
   ·refine qq▸?_
    refine(?_:(stk _ _ a:Int)/2^n=_)
    push_cast
    rfl
   ·refine(?_:((8*((a+n+7)/8)-a:Nat):Int)-(n:Int)=_)
    exact xa5 hge
end
end
section
noncomputable def av (W most a:Nat):Nat × Nat:=
 if W/2^a%2^most.log2<2^(most.log2+1)-1-most then(W/2^a%2^most.log2,most.log2)
 else(if W/2^a%2^(most.log2+1)<2^most.log2 then W/2^a%2^(most.log2+1)else W/2^a%2^(most.log2+1)-(2^(most.log2+1)-1-most),most.log2+1)
theorem jt {n:Nat}(h:0<n):eM (n:Int)=n.log2+1:=by
 unfold eM
 rw[if_neg (by exact (lA 0x18dd8025803100402) h)]
 rfl
section
variable {D:List UInt8}{X:MO}{rest:aa}{a n most:Nat}
theorem fG {y:Int}(hy:y=n)(h:a+n≤8*D.length)(hn:n≤1000):Mt 4 (.ofString "CountBits") (.ofString "take") 2 [.int y] (X::rdo D a::rdc D a::rest) (.ok (.int ((af D/2^a%2^n:Nat):Int)) (X::rdo D (a+n)::rdc D (a+n)::rest)):=by
 subst hy
 have:=pp (D:=D) (X:=X) (rest:=rest) (a:=a) (n:=n) (by exact (lC 0xc40c20a0400c0c20a04408401) h) hn
 rwa [if_pos h]at this
noncomputable abbrev oS (X:MO)(D:List UInt8)(a:Nat)(rest:aa):aa:=X::oct D D.length::cbt (stk (af D) D.length a) (8*D.length-a)::rest
theorem eP {y:Int}(hy:y=n)(ha:a≤8*D.length)(h:¬a+n≤8*D.length)(hn:n≤1000):Mt 4 (.ofString "CountBits") (.ofString "take") 2 [.int y] (X::rdo D a::rdc D a::rest) (.ex (.ofString "CutShort") (oS X D a rest)):=by
 subst hy
 have:=pp (D:=D) (X:=X) (rest:=rest) (a:=a) (n:=n) ha hn
 rwa [if_neg h]at this
theorem cC (x L:Nat):x%2^(L+1)=x%2^L+(x/2^L%2)*2^L:=by
 refine Kh (Nat.pow_succ _ _)▸?_;refine Kh Nat.mod_mul▸?_;refine Kh (Nat.mul_comm (2^L) _)▸?_;rfl
noncomputable abbrev upρ (most count spare value:MV):Loc:=[lc "self" (.ref 2),lc "most" most,lc "count" count,lc "spare" spare,lc "value" value]
theorem rX (h0:0<most)(hm:most<2^64)(ha:a≤8*D.length):(a+(av (af D) most a).2≤8*D.length→Mt 5 (.ofString "CountBits") (.ofString "upto") 2 [.int most] (X::rdo D a::rdc D a::rest) (.ok (.int (av (af D) most a).1) (X::rdo D (a+(av (af D) most a).2)::rdc D (a+(av (af D) most a).2)::rest)))∧
  (¬a+(av (af D) most a).2≤8*D.length→Mt 5 (.ofString "CountBits") (.ofString "upto") 2 [.int most] (X::rdo D a::rdc D a::rest) (.ex (.ofString "CutShort") (oS X D (if a+most.log2≤8*D.length then a+most.log2 else a) rest))):=by
 have hL:most.log2<64:=(Nat.log2_lt (by exact (lA 0x62601003100402) h0)).mpr hm
 have hp:2^most.log2≤most:=Nat.log2_self_le (by exact (lA 0x62601003100402) h0)
 have hp2:most<2^(most.log2+1):=Nat.lt_log2_self
 have hb:=jt h0
 unfold av
 generalize most.log2=L at *
 have hs:2^(L+1)=2*2^L:=by refine Kh (Nat.pow_succ _ _)▸?_;refine Kh (Nat.mul_comm _ _)▸?_;rfl
 have hc1:((2^(L+1):Nat):Int)=(2:Int)^(L+1):=by push_cast;rfl
 have hc0:((2^L:Nat):Int)=(2:Int)^L:=by push_cast;rfl
 have hsp:((1:Int)*2^((L+1:Nat):Int).toNat-1-(most:Int))=((2^(L+1)-1-most:Nat):Int):=by
  refine Kh (Int.toNat_natCast _)▸?_
  exact Bp hc1 hp2
 have pre:∀r:R MV,(∀d,4≤d→SdB ⟨(al 17 2).2.2.names,d,(X::rdo D a::rdc D a::rest).length⟩ (al 17 2).2.1.tail.tail (upρ (.int most) (.int ((L+1:Nat):Int)) (.int ((2^(L+1)-1-most:Nat):Int)) .undef) (X::rdo D a::rdc D a::rest)
   (fun f ρ' σ'=>ends false (X::rdo D a::rdc D a::rest) (.ok (f,ρ') σ')=some r) (fun c σ'=>r= .ex c σ'))→Mt 5 (.ofString "CountBits") (.ofString "upto") 2 [.int most] (X::rdo D a::rdc D a::rest) r:=fun r h=>by
  refine Mt.sd 17 2 (ρ:=upρ (.int most) .undef .undef .undef) rfl rfl rfl rfl fun d hd=>?_
  refine SdB.cut 40 rfl ⟨⟨rfl,rfl⟩,?_⟩
  refine(?_:SdB _ _ (upρ (.int most) (.int ((eM (most:Int):Nat):Int)) .undef .undef) _ _ _)
  refine Kh hb▸?_
  refine SdB.cut 40 rfl ⟨⟨Int.natCast_nonneg _,by exact (lA 0x18a7a120106b204400c44010c01) hL,by decide⟩,?_⟩
  refine(?_:SdB _ _ (upρ (.int most) (.int ((L+1:Nat):Int)) (.int ((1:Int)*2^((L+1:Nat):Int).toNat-1-(most:Int))) .undef) _ _ _)
  refine Kh hsp▸?_
  exact h d (by exact (lA 0x3100048281022004a2) hd)
 have hy:((L+1:Nat):Int)-1=(L:Int):=by exact lA 0x16580250896408801
 by_cases h1:a+L≤8*D.length
 ·refine Kh (if_pos h1)▸?_
  have t1:=fG (X:=X) (rest:=rest) hy h1 (by exact (lA 0x621f408600c44010c01) hL)
  generalize hv0:af D/2^a%2^L=v0 at *
  have hv0':v0<2^L:=by rewrite[← hv0];exact Nat.mod_lt _ (Nat.pow_pos (by decide))
  by_cases h2:v0<2^(L+1)-1-most
  ·refine Kh (if_pos h2)▸?_
   refine Jg (fun _=>pre _ fun d hd=>?_) (fun q=>absurd h1 q)
   refine SdB.cut 40 rfl ⟨rfl,_,_,t1,show _≤d by exact (lA 0x62000905000482) hd,show _≤d by exact (lA 0x62000845000482) hd,?_⟩
   refine SdB.run 40 ⟨fun _=>aP rfl rfl rfl rfl,fun q=>absurd (show((v0:Nat):Int)<((2^(L+1)-1-most:Nat):Int) by exact (lF 0x6318aaca309422308420ac21dd565184a111842105610c4a309422308420843208401) hv0 h2 q) q⟩
  ·refine Kh (if_neg h2)▸?_
   have ht:(((L+1:Nat):Int)-1).toNat=L:=by exact lA 0x12005850896408801
   have first:∀(r:R MV),(∀d,4≤d→SdB ⟨(al 17 2).2.2.names,d,(X::rdo D a::rdc D a::rest).length⟩ (al 17 2).2.1.tail.tail.tail.tail (upρ (.int most) (.int ((L+1:Nat):Int)) (.int ((2^(L+1)-1-most:Nat):Int)) (.int (v0:Nat))) (X::rdo D (a+L)::rdc D (a+L)::rest)
     (fun f ρ' σ'=>ends false (X::rdo D a::rdc D a::rest) (.ok (f,ρ') σ')=some r) (fun c σ'=>r= .ex c σ'))→Mt 5 (.ofString "CountBits") (.ofString "upto") 2 [.int most] (X::rdo D a::rdc D a::rest) r:=fun r h=>by
    refine pre _ fun d hd=>?_
    refine SdB.cut 40 rfl ⟨rfl,_,_,t1,show _≤d by exact (lA 0x62000905000482) hd,show _≤d by exact (lA 0x62000845000482) hd,?_⟩
    refine SdB.cut 40 rfl ⟨fun q=>absurd (show v0<2^(L+1)-1-most from Int.ofNat_lt.mp q) h2,fun _=>?_⟩
    exact h d hd
   by_cases h3:a+L+1≤8*D.length
   ·have t2:=fG (X:=X) (rest:=rest) (a:=a+L) (n:=1) (y:=1) rfl h3 (by exact lI 0x43e810c22)
    generalize hbt:af D/2^(a+L)%2^1=bt at *
    have hbt':bt<2:=by rewrite[← hbt];exact Nat.mod_lt _ (by decide)
    have hv:af D/2^a%2^(L+1)=v0+bt*2^L:=by
     refine Kh (cC _ _)▸?_;refine Kh hv0▸?_;rewrite[Nat.div_div_eq_div_mul];rewrite[←Nat.pow_add];refine hbt▸?_;rfl
    have hor:=kY (b:=bt) hv0'
    refine Jg (fun _=>first _ fun d hd=>?_) (fun q=>absurd h3 q)
    refine SdB.cut 40 rfl ⟨rfl,_,_,t2,show _≤d by exact (lA 0x62000905000482) hd,show _≤d by exact (lA 0x62000845000482) hd,⟨by exact lA 0xa14225902200402,by exact (lA 0xc53d0900832844b204400c44010c01) hL,by exact (lB 0x188c0000000000000001a35ac219042a10801) hbt⟩,?_⟩
    refine(?_:SdB _ _ (upρ (.int most) (.int ((L+1:Nat):Int)) (.int ((2^(L+1)-1-most:Nat):Int)) (.int (Builtin.bitOr (v0:Int) ((bt:Int)*2^(((L+1:Nat):Int)-1).toNat)))) _ _ _)
    refine Kh ht▸?_;refine Kh hor▸?_;refine hv▸?_
    generalize af D/2^a%2^(L+1)=v at *
    have hr:((1:Int)*2^(((L+1:Nat):Int)-1).toNat)=((2^L:Nat):Int):=by rewrite[ht];exact(Int.one_mul _).trans hc0.symm
    refine SdB.run 40 ⟨⟨by exact lA 0xa14225902200402,by exact (lA 0xc53d0900832844b204400c44010c01) hL,by decide⟩,fun q=>?_,fun q=>?_⟩
    ·replace q:=hr▸q
     refine aP (x:= .int _) rfl (congrArg (fun z:Nat=>MF.ret (.int z)) (if_pos (Int.ofNat_lt.mp q)).symm) rfl rfl
    ·replace q:=hr▸q
     have q:¬v<2^L:=fun w=>q (Int.ofNat_lt.mpr w)
     refine aP (x:= .int _) rfl ?_ rfl rfl
     refine Kh (if_neg q)▸?_
     refine congrArg (fun z:Int=>MF.ret (.int z)) ?_
     refine(?_:(v:Int)-((2^(L+1)-1-most:Nat):Int)=_)
     exact HQ q hp hs
   ·have t2:=eP (X:=X) (rest:=rest) (a:=a+L) (n:=1) (y:=1) rfl h1 h3 (by exact lI 0x43e810c22)
    refine Jg (fun q=>absurd q h3) (fun _=>first _ fun d hd=>?_)
    exact SdB.cut 40 rfl ⟨rfl,_,_,t2,show _≤d by exact (lA 0x62000905000482) hd,show _≤d by exact (lA 0x62000845000482) hd,rfl⟩
 ·refine Kh (if_neg h1)▸?_
  have t1:=eP (X:=X) (rest:=rest) hy ha h1 (by exact (lA 0x621f408600c44010c01) hL)
  have hw:¬a+(if af D/2^a%2^L<2^(L+1)-1-most then(af D/2^a%2^L,L)else(if af D/2^a%2^(L+1)<2^L then af D/2^a%2^(L+1)else af D/2^a%2^(L+1)-(2^(L+1)-1-most),L+1)).2≤8*D.length:=by
   split
   ·exact h1
   ·refine(?_:¬a+(L+1)≤_)
    exact (lC 0xc6e06105022102208401dc0c20a04408401) h1
  refine Jg (fun q=>absurd q hw) (fun _=>pre _ fun d hd=>?_)
  exact SdB.cut 40 rfl ⟨rfl,_,_,t1,show _≤d by exact (lA 0x62000905000482) hd,show _≤d by exact (lA 0x62000845000482) hd,rfl⟩
end
end
section
inductive Out (α:Type) where
 |ok (x:α) (a:Nat)
 |cut (a:Nat)
 |table (a:Nat)
noncomputable def bS (W N most:Nat):Nat→Nat→Nat→Out Nat
 |0,a,_=>.cut a
 |f+1,a,found=>if N<a+2 then .cut a else if most<found+W/2^a%2^2 then .table (a+2)
  else if W/2^a%2^2=3 then bS W N most f (a+2) (found+3)else .ok (found+W/2^a%2^2) (a+2)
section
variable {D:List UInt8}{X:MO}{rest:aa}{a n most:Nat}
noncomputable def H6 (D:List UInt8)(X:MO)(rest:aa):Out Nat→R MV
 | .ok x a=>.ok (.int x) (X::rdo D a::rdc D a::rest)
 | .cut a=>.ex (.ofString "CutShort") (oS X D a rest)
 | .table a=>.ex (.ofString "BadTable") (X::rdo D a::rdc D a::rest)
theorem zN {f:Nat}(ha:a≤8*D.length)(hf:8*D.length<a+2*f):Mt 5 (.ofString "CountBits") (.ofString "run") 2 [.int most] (X::rdo D a::rdc D a::rest) (H6 D X rest (bS (af D) (8*D.length) most f a 0)):=by
 generalize ho:bS (af D) (8*D.length) most f a 0=o
 refine Mt.sd 17 3 (ρ:=[lc "self" (.ref 2),lc "most" (.int most),lc "found" .undef,lc "told" .undef]) rfl rfl rfl rfl fun d hd=>?_
 refine SdB.cut 40 rfl ?_
 refine SdB.run 60 ?_
 refine Jl (fun m ρ σ=>(∃f a' fd:Nat,m=f+1∧ρ=[lc "self" (.ref 2),lc "most" (.int most),lc "found" (.int fd),lc "told" (.int 3)]∧σ=X::rdo D a'::rdc D a'::rest∧a'≤8*D.length∧8*D.length<a'+2*f∧bS (af D) (8*D.length) most f a' fd=o)∨
  (∃fd t a':Nat,m=0∧t≠3∧ρ=[lc "self" (.ref 2),lc "most" (.int most),lc "found" (.int fd),lc "told" (.int t)]∧σ=X::rdo D a'::rdc D a'::rest∧o= .ok fd a')) ⟨f+1,.inl ⟨f,a,0,rfl,rfl,rfl,ha,hf,ho⟩⟩ ?_
 rintro m ρ σ (⟨f,a',fd,rfl,rfl,rfl,ha',hf',ho'⟩|⟨fd,t,a',rfl,ht,rfl,rfl,rfl⟩)
 ·refine Jg (fun _=>?_) (fun q=>absurd rfl q)
  match f,hf',ho' with
  |0,hf',_=>exact((lB 0x18c72243004210026085028182140801) ha' hf').elim
  |f+1,hf',ho'=>
   unfold bS at ho'
   by_cases h1:8*D.length<a'+2
   ·replace ho':=if_pos h1▸ho'
    subst ho'
    exact⟨rfl,_,_,eP (n:=2) (y:=2) rfl ha' (by exact (lB 0xc6e0600502208410c4821042600502) h1) (by decide),show _≤d by exact (lA 0x3100048281022004a2) hd,show _≤d by exact (lA 0x3100042281022004a2) hd,rfl⟩
   ·replace ho':=if_neg h1▸ho'
    refine⟨rfl,_,_,fG (n:=2) (y:=2) rfl (by exact (lB 0xc40c00a04410821dc4821042600502) h1) (by decide),show _≤d by exact (lA 0x3100048281022004a2) hd,show _≤d by exact (lA 0x3100042281022004a2) hd,?_⟩
    generalize hw:af D/2^a'%2^2=w at *
    have hw4:w<4:=by rewrite[← hw];exact Nat.mod_lt _ (by decide)
    refine Jg (fun q=>?_) (fun q=>?_)
    ·have q:(most:Int)<(fd:Int)+(w:Int):=q
     rw[if_pos (by exact (lF 0x18c448108c220d48b085630ac419042a20801) hw (by assumption))]at ho'
     subst ho'
     exact⟨_,_,_,_,_,_,rfl,rfl,rfl,rfl⟩
    ·have q:¬(most:Int)<(fd:Int)+(w:Int):=q
     rw[if_neg (by exact (lF 0x631b8902118441dd48b085630ac419042a20801) hw (by assumption))]at ho'
     by_cases h3:w=3
     ·subst h3
      replace ho':=if_pos rfl▸ho'
      exact Jl (f+1) (by exact lA 0x224088811002408801) (.inl ⟨f,a'+2,fd+3,rfl,rfl,rfl,by exact (lB 0xc40c00a04410821dc4821042600502) h1,by exact (lC 0x62243082211042084c00a05121881108221042600502) hf',ho'⟩)
     ·replace ho':=if_neg h3▸ho'
      exact Jl 0 (by exact lA 0x44811102200402) (.inr ⟨fd+w,w,a'+2,rfl,h3,rfl,rfl,ho'.symm⟩)
 ·refine Jg (fun q=>absurd (Int.ofNat_inj.mp q) ht) (fun _=>aP rfl rfl rfl rfl)
end
end
section
theorem kO {W most a:Nat}(h:2≤most):1≤(av W most a).2:=by
 have:1≤most.log2:=(Nat.le_log2 (by exact (lA 0x62601003000442) h)).mpr (by exact (lA 0x62000885000442) h)
 unfold av
 split
 ·exact this
 ·exact Nat.le_add_left 1 _
theorem rY {W most a:Nat}(h:0<most):(av W most a).1≤most:=by
 have hp:2^most.log2≤most:=Nat.log2_self_le (by exact (lA 0x62601003100402) h)
 have hp2:most<2^(most.log2+1):=Nat.lt_log2_self
 have hs:2^(most.log2+1)=2*2^most.log2:=by refine Kh (Nat.pow_succ _ _)▸?_;refine Kh (Nat.mul_comm _ _)▸?_;rfl
 have m0:W/2^a%2^most.log2<2^most.log2:=Nat.mod_lt _ (Nat.pow_pos (by decide))
 have m1:W/2^a%2^(most.log2+1)<2^(most.log2+1):=Nat.mod_lt _ (Nat.pow_pos (by decide))
 unfold av
 split
 ·refine(?_:W/2^a%2^most.log2≤most)
  exact (lC 0x18c4021106200883008401) hp m0
 ·dsimp only
  split<;>(first|exact (lC 0x18c4021106200883008401) hp (by assumption)|exact (lC 0x310104a5104a111842084018984208401) m1)
theorem vj {W N most:Nat}:∀{f a fd x a2:Nat},bS W N most f a fd= .ok x a2→a+2≤a2∧a2≤N∧x≤most:=by
 intro f
 induction f with
 |zero=>intro a fd x a2 h;cases h
 |succ f ih=>
  intro a fd x a2 h
  unfold bS at h
  split at h
  ·cases h
  ·split at h
   ·cases h
   ·split at h
    ·refine Jr (ih h) fun h1 h2 h3=>?_
     exact (lH 0xc6319cc0811860208430084821003020461808210c0212084410801) h1 h2 h3
    ·cases h
     exact (lH 0x6319cc0412288220461800241082181042084821043b89144110230883b8904208401) (by assumption) (by assumption)
inductive RdO where
 |ok (cs:List Int) (a:Nat)
 |ex (c:Str) (σ:aa)
noncomputable abbrev cst (cs:List Int):MO:= .list (cs.map .int)
noncomputable def rdF (D:List UInt8)(X:MO)(ms:Int):Nat→Nat→Nat→List Int→RdO
 |0,a,_,cs=>.ex (.ofString "CutShort") (oS X D a [cst cs])
 |f+1,a,left,cs=>
  if left=0 then .ok cs a
  else if ms<cs.length then .ex (.ofString "BadTable") [X,rdo D a,rdc D a,cst cs]
  else if 8*D.length<a+(av (af D) (left+1) a).2 then .ex (.ofString "CutShort") (oS X D (if a+(left+1).log2≤8*D.length then a+(left+1).log2 else a) [cst cs])
  else if(av (af D) (left+1) a).1=1 then
   match bS (af D) (8*D.length) ms.toNat (8*D.length+1) (a+(av (af D) (left+1) a).2) 0 with
   | .ok m a2=>rdF D X ms f a2 left (cs++[0]++List.replicate m 0)
   | .cut a2=>.ex (.ofString "CutShort") (oS X D a2 [cst (cs++[0])])
   | .table a2=>.ex (.ofString "BadTable") [X,rdo D a2,rdc D a2,cst (cs++[0])]
  else rdF D X ms f (a+(av (af D) (left+1) a).2) (left-(((av (af D) (left+1) a).1:Int)-1).natAbs) (cs++[((av (af D) (left+1) a).1:Int)-1])
noncomputable def fe (D:List UInt8):Nat:=af D%16+5
noncomputable def fM (D:List UInt8)(X:MO)(lg ms:Int):RdO:=
 if 8*D.length<4 then .ex (.ofString "CutShort") (oS X D 0 [])
 else if lg<fe D then .ex (.ofString "BadTable") [X,rdo D 4,rdc D 4]
 else rdF D X ms (8*D.length+1) 4 (2^fe D) []
noncomputable def rdR (D:List UInt8)(X:MO):RdO→R MV
 | .ok cs a=>.ok (.tup [.list (cs.map .int),.int (fe D)]) [X,rdo D a]
 | .ex c σ=>.ex c σ
noncomputable abbrev rcρ (lg ms:Int)(bits log counts left count:MV):Loc:=[lc "cursor" (.ref 1),lc "most_log" (.int lg),lc "most_symbol" (.int ms),lc "bits" bits,lc "log" log,lc "counts" counts,lc "left" left,lc "count" count]
section
variable {D:List UInt8}{X:MO}{lg ms:Int}
theorem sy:cbt 0 0=rdc D 0:=by
 have:stk (af D) 0 0=0:=by unfold stk;simp[Nat.mod_one]
 refine(?_:cbt 0 0=cbt (stk (af D) 0 0) 0)
 refine Kh this▸?_;rfl
theorem tR {cs:List Int}{c:Int}:MO.list (cs.map .int++[.int c])=cst (cs++[c]):=congrArg MO.list (by simp)
theorem cU {n:Nat}(h:n≤1000000):bG [.int n]=some ((List.range n).map fun(k:Nat)=>.int (k:Int)):=by
 refine(?_:(if -1048576≤(n:Int)∧(n:Int)≤1048576 then some ((List.range (n:Int).toNat).map fun(k:Nat)=>MV.int (k:Int))else none)=_)
 rw[if_pos ⟨by exact lA 0xa2c0160400000a3,by exact (lA 0x18a0400000a358030f424020c01) h⟩,Int.toNat_natCast]
theorem oa {n:Nat}{i:Int}:noRefs (List.replicate n (.int i))=true:=by
 induction n with
 |zero=>rfl
 |succ n ih=>refine Kh List.replicate_succ▸?_;unfold noRefs;refine Kh ih▸?_;rfl
theorem iL (hms:ms≤1000):Fn 6 (.ofString "read_counts") [.ref 1,.int lg,.int ms] [X,oct D 0] (rdR D X (fM D X lg ms)):=by
 refine Fn.sd (k:=5) 18 (ρ:=rcρ lg ms .undef .undef .undef .undef .undef) rfl rfl rfl fun d hd=>?_
 refine SdB.cut 40 rfl ⟨_,_,tW,show _≤d by exact (lA 0x620008450004a2) hd,?_⟩
 refine(?_:SdB _ _ (rcρ lg ms (.ref 2) .undef .undef .undef .undef) [X,rdo D 0,cbt 0 0] _ _)
 refine Kh (sy (D:=D))▸?_
 unfold fM
 by_cases h4:8*D.length<4
 ·refine Kh (if_pos h4)▸?_
  exact SdB.cut 40 rfl ⟨rfl,_,_,eP (n:=4) (y:=4) rfl (Nat.zero_le _) (by exact (lA 0x18dc0c00a044208028904600502) h4) (by decide),show _≤d by exact (lA 0x620009050004a2) hd,show _≤d by exact (lA 0x620008450004a2) hd,rfl⟩
 refine Kh (if_neg h4)▸?_
 have t4:=fG (D:=D) (X:=X) (rest:=[]) (a:=0) (n:=4) (y:=4) rfl (by exact (lA 0x1881801408841005b8904600502) h4) (by decide)
 have hl:af D/2^0%2^4=af D%16:=by simp
 replace t4:=hl▸t4
 refine SdB.cut 40 rfl ⟨rfl,_,_,t4,show _≤d by exact (lA 0x620009050004a2) hd,show _≤d by exact (lA 0x620008450004a2) hd,?_⟩
 refine(?_:SdB _ _ (rcρ lg ms (.ref 2) (.int (fe D)) .undef .undef .undef) [X,rdo D 4,rdc D 4] _ _)
 have hlog:fe D≤20:=by unfold fe;exact lA 0x42822144a80801
 generalize hlg:fe D=log at *
 by_cases h5:lg<log
 ·refine Kh (if_pos h5)▸?_
  exact SdB.cut 40 rfl ⟨fun _=>⟨_,_,_,_,_,_,rfl,rfl,rfl,rfl⟩,fun q=>absurd h5 q⟩
 refine Kh (if_neg h5)▸?_
 refine SdB.cut 40 rfl ⟨fun q=>absurd q h5,fun _=>?_⟩
 refine(?_:SdB _ _ (rcρ lg ms (.ref 2) (.int log) .undef .undef .undef) [X,rdo D 4,rdc D 4] _ _)
 refine SdB.cut 40 rfl ⟨by decide,⟨Int.natCast_nonneg _,by exact (lA 0xc53d09008358030a0801) hlog,by decide⟩,?_⟩
 refine(?_:SdB _ _ (rcρ lg ms (.ref 2) (.int log) (.ref 3) (.int (1*2^((log:Nat):Int).toNat)) .undef) [X,rdo D 4,rdc D 4,cst []] _ _)
 have hp:((1:Int)*2^((log:Nat):Int).toNat)=((2^log:Nat):Int):=by rewrite[Int.toNat_natCast,Int.one_mul];push_cast;rfl
 refine Kh hp▸?_
 have h20:2^log≤1048576:=Nat.pow_le_pow_right (n:=2) (by decide) hlog
 generalize ho:rdF D X ms (8*D.length+1) 4 (2^log) []=o
 refine SdB.while_ 40 rfl (fun m ρ σ=>∃(a left:Nat) (cs:List Int) (cnt:MV),ρ=rcρ lg ms (.ref 2) (.int log) (.ref 3) (.int left) cnt∧σ=[X,rdo D a,rdc D a,cst cs]∧a≤8*D.length∧8*D.length<a+m∧left≤1048576∧cs.length≤5000∧rdF D X ms m a left cs=o)
  ⟨_,4,_,[],_,rfl,rfl,by exact (lA 0x310300281105b8904600502) h4,by exact lA 0x1121022300281104600502,h20,by simp,ho⟩ ?_
 rintro m ρ σ ⟨a,left,cs,cnt,rfl,rfl,ha,hf,hl20,hlen,ho⟩
 match m,hf,ho with
 |0,hf,_=>exact((lB 0x318e448010026085028182140801) ha hf).elim
 |m+1,hf,ho=>
 unfold rdF at ho
 refine Jg (fun q=>?_) (fun q=>?_)
 ·have q:0<left:=Int.ofNat_lt.mp q
  rw[if_neg (by exact (lA 0x18dc802006ab00402) (by assumption))]at ho
  have hcl:((cs.map MV.int).length:Int)=cs.length:=by refine Kh (List.length_map _)▸?_;rfl
  by_cases h6:ms<cs.length
  ·replace ho:=if_pos h6▸ho
   subst ho
   refine SdB.cut 40 rfl ⟨fun _=>⟨_,_,_,_,_,_,rfl,rfl,rfl,rfl⟩,fun q=>absurd (show ms<((cs.map MV.int).length:Int) by rewrite[hcl];exact h6) q⟩
  replace ho:=if_neg h6▸ho
  refine SdB.cut 40 rfl ⟨fun q=>absurd (show ms<(cs.length:Int) by rewrite[← hcl];exact q) h6,fun _=>?_⟩
  have up:=rX (D:=D) (X:=X) (rest:=[cst cs]) (a:=a) (most:=left+1) (by exact lA 0x8902200402) (by exact (lA 0xc460000000000000000d19022006010000028c01) hl20) ha
  have hw1:=kO (W:=af D) (most:=left+1) (a:=a) (by exact (lA 0x62040880110aab00402) (by assumption))
  have hu1:=rY (W:=af D) (most:=left+1) (a:=a) (by exact lA 0x8902200402)
  generalize hu:(av (af D) (left+1) a).1=u at *
  generalize hw:(av (af D) (left+1) a).2=w at *
  by_cases h7:8*D.length<a+w
  ·replace ho:=if_pos h7▸ho
   subst ho
   exact SdB.cut 40 rfl ⟨rfl,_,_,up.2 (by exact (lC 0xc6e0600502208210c4820842600502) h7),show _≤d by exact (lA 0x620009450004a2) hd,show _≤d by exact (lA 0x620008450004a2) hd,rfl⟩
  replace ho:=if_neg h7▸ho
  refine SdB.cut 40 rfl ⟨rfl,_,_,up.1 (by exact (lC 0xc40c00a04410421dc4820842600502) h7),show _≤d by exact (lA 0x620009450004a2) hd,show _≤d by exact (lA 0x620008450004a2) hd,?_⟩
  refine(?_:SdB _ _ (rcρ lg ms (.ref 2) (.int log) (.ref 3) (.int left) (.int ((u:Int)-1))) [X,rdo D (a+w),rdc D (a+w),cst cs] _ _)
  have hsz:(cs.map MV.int).length≤ai:=by rewrite[List.length_map];unfold ai;exact (lD 0x31880400000a300775580200d3e810c01) hms h6
  refine SdB.cut 40 rfl ⟨_,rfl,hsz,rfl,?_⟩
  refine(?_:SdB _ _ (rcρ lg ms (.ref 2) (.int log) (.ref 3) (.int left) (.int ((u:Int)-1))) [X,rdo D (a+w),rdc D (a+w),.list (cs.map .int++[.int ((u:Int)-1)])] _ _)
  refine Kh tR▸?_
  refine SdB.cut 40 rfl ⟨_,_,gi,show _≤d by exact (lA 0x620008450004a2) hd,?_⟩
  refine(?_:SdB _ _ (rcρ lg ms (.ref 2) (.int log) (.ref 3) (.int ((left:Int)-(if(u:Int)-1= -1 then 1 else(u:Int)-1))) (.int ((u:Int)-1))) [X,rdo D (a+w),rdc D (a+w),cst (cs++[(u:Int)-1])] _ _)
  have hleft:(left:Int)-(if(u:Int)-1= -1 then 1 else(u:Int)-1)=((left-((u:Int)-1).natAbs:Nat):Int):=xa7 q hu1
  refine Kh hleft▸?_
  by_cases h8:u=1
  ·subst h8
   replace ho:=if_pos rfl▸ho
   have hms0:0≤ms:=by exact (lD 0x18a002016eab00401) h6
   have t5:=zN (D:=D) (X:=X) (rest:=[cst (cs++[0])]) (a:=a+w) (most:=ms.toNat) (f:=8*D.length+1) (by exact (lC 0xc40c00a04410421dc4820842600502) h7) (by exact lC 0x44862044600502108820842600502)
   replace t5:=Int.toNat_of_nonneg hms0▸t5
   generalize hr:bS (af D) (8*D.length) ms.toNat (8*D.length+1) (a+w) 0=ro at t5 ho
   refine SdB.cut 60 rfl ⟨fun _=>⟨rfl,_,_,t5,show _≤d by exact (lA 0x620009450004a2) hd,show _≤d by exact (lA 0x620008450004a2) hd,?_⟩,fun q=>absurd rfl q⟩
   cases ro with
   |cut a2=>subst ho;rfl
   |table a2=>subst ho;rfl
   |ok k a2=>
    refine Jr (vj hr) fun r1 r2 r3=>?_
    have hk:k≤1000:=by exact (lD 0x31887d0218030600200d3e810c01) hms r3
    refine⟨_,cU (by exact (lA 0x1887a12010600c3e810c01) hk),fun r acc σ=>(∀y∈r,∃i:Int,y= .int i)∧acc=List.replicate acc.length (.int 0)∧acc.length+r.length=k∧σ=[X,rdo D a2,rdc D a2,cst (cs++[0])],
     ⟨fun y hy=>by refine tr (List.mem_map.mp hy) ?_;intro j _ κ;subst κ;exact Jo _ rfl,rfl,by simp,rfl⟩,?_,?_⟩
    ·rintro x r acc σ ⟨g1,g2,g3,rfl⟩
     refine Jf (g1 x (.head _)) ?_;intro i κ;subst κ
     refine JP _ rfl (fun y hy=>g1 y (.tail _ hy)) ?_ ?_ rfl
     ·refine Kh List.length_append▸?_;refine Kh List.length_singleton▸?_;refine Kh List.replicate_succ'▸?_;refine g2▸?_;rfl
     ·refine Kh List.length_append▸?_;refine Kh List.length_singleton▸?_
      replace g3:=List.length_cons▸g3
      exact (lC 0x624209021204400c8412102208401) g3
    ·rintro acc σ ⟨_,g2,g3,rfl⟩
     have g3:acc.length=k:=by simpa using g3
     replace g2:=g3▸g2
     subst g2
     refine⟨by rewrite[List.length_replicate];unfold ai;exact (lA 0x31008000014600c3e810c01) hk,oa,rfl,_,rfl,?_,SdB.skip ⟨m,Nat.lt_succ_self _,a2,left,_,_,rfl,?_,by exact (lB 0x1881821408018182140801) r2,by exact (lH 0xc6311208240980140a040904220c210c06108a24204420842600502) hf hw1 r1,by exact (lA 0x1880400000a3006010000028c01) hl20,?_,ho⟩⟩
     ·refine Kh (List.length_map _)▸?_;refine Kh List.length_append▸?_;refine Kh List.length_replicate▸?_
      unfold ai
      simp only[List.length_singleton]
      exact (lG 0xc631008000014640848110030fa04308775580200d3e810c01) hms h6 hk
     ·refine congrArg (fun z=>[X,rdo D a2,rdc D a2,MO.list z]) ?_
      simp
     ·simp only[List.length_append,List.length_replicate,List.length_singleton]
      exact (lG 0x318c409c40c640848110030fa04308775580200d3e810c01) hms h6 hk
  ·replace ho:=if_neg h8▸ho
   refine SdB.cut 40 rfl ⟨fun q=>absurd (show(u:Int)-1=0 from q) (by exact (lA 0x631bb0045089600d8022844b0077208801) h8 q),fun _=>SdB.skip ⟨m,Nat.lt_succ_self _,a+w,_,_,_,rfl,rfl,by exact (lC 0xc40c00a04410421dc4820842600502) h7,by exact (lF 0x63112082418421300281406108a24204420842600502) hf hw1,Nat.le_trans (Nat.sub_le ..) hl20,by simp;exact (lD 0x18c6204e1c6300775580200c09c40c600d3e810c01) hms hlen h6,ho⟩⟩
 ·have q:¬0<left:=fun w=>q (Int.ofNat_lt.mpr w)
  rw[if_pos (by exact (lA 0xc48020077100402) q)]at ho
  subst ho
  refine SdB.run 40 ⟨rfl,Nat.le_of_ble_eq_true rfl,?_⟩
  refine(?_:some (R.ok (MV.tup [.list (cs.map .int),.int log]) [X,rdo D a])=some (R.ok (MV.tup [.list (cs.map .int),.int (fe D)]) [X,rdo D a]))
  refine Kh hlg▸?_;rfl
end
end
section
theorem Ws.cut {C:Cx}{N:aV}{d b n:Nat}(w:Ws C N d b)(ok:CxOk (C.cutAt n))(top:CxF (C.cutAt n)):Ws (C.cutAt n) N d n:=⟨⟨ok,w.e.names,w.e.d,rfl⟩,top⟩
theorem SdB.try_ {v:VC}{body rest:List Stmt}{ρ:Loc}{σ:aa}{Q:MF→Loc→aa→Prop}{X:XP}{n1 n2 k1 k2:Str}{q1 q2 q3 q4 q5 q6 q7 q8 pos:Pos}{kk1 kk2:Nat}(h1:gr v.N ρ n1=true)(h2:gr v.N ρ n2=true)(e1:n1="BadTable")(e2:n2="CutShort")
  (hb:SdB ⟨v.N,v.d,σ.length⟩ body ρ σ (wa v rest Q X) (fun c σ₁=>(c=n1∧Q (.ret (.str k1)) ρ (σ₁.take σ.length))∨(c=n2∧Q (.ret (.str k2)) ρ (σ₁.take σ.length)))):
  SdB v (.Try body [.ExceptHandler (some (.Name n1 q1)) none [.Return (some (.Constant (.str k1) kk1 q2)) q3] q4,.ExceptHandler (some (.Name n2 q5)) none [.Return (some (.Constant (.str k2) kk2 q6)) q7] q8] [] [] pos::rest) ρ σ Q X:=by
 exact SdB.cons fun C w=>Br w.e.ok w.top (tK _) (w.e.names.symm▸h1) (w.e.names.symm▸h2) e1 e2 fun C' ok' top' hC=>by
  subst hC
  exact hb.out _ (w.cut ok' top')
noncomputable def rdV (D:List UInt8):RdO→MV
 | .ok cs a=>.tup [.list (cs.map .int),.int (fe D),.int (((a+7)/8:Nat):Int)]
 | .ex c _=>if c= .ofString "BadTable" then .str (.ofString "table")else .str (.ofString "cut")
section
variable {D:List UInt8}{X:MO}{lg ms:Int}
theorem zR:∀{f a left:Nat}{cs:List Int}{c:Str}{σ:aa},rdF D X ms f a left cs= .ex c σ→(c= .ofString "BadTable"∨c= .ofString "CutShort")∧∃o r,σ=X::o::r:=by
 intro f
 induction f with
 |zero=>intro a left cs c σ h;cases h;exact⟨.inr rfl,_,_,rfl⟩
 |succ f ih=>
  intro a left cs c σ h
  unfold rdF at h
  split at h
  ·cases h
  ·split at h
   ·cases h;exact⟨.inl rfl,_,_,rfl⟩
   ·split at h
    ·cases h;exact⟨.inr rfl,_,_,rfl⟩
    ·split at h
     ·cases hr:bS (af D) (8*D.length) ms.toNat (8*D.length+1) (a+(av (af D) (left+1) a).2) 0 with
      |ok m a2=>replace h:=hr▸h;exact ih h
      |cut a2=>replace h:=hr▸h;cases h;exact⟨.inr rfl,_,_,rfl⟩
      |table a2=>replace h:=hr▸h;cases h;exact⟨.inl rfl,_,_,rfl⟩
     ·exact ih h
theorem sx {c:Str}{σ:aa}(h:fM D X lg ms= .ex c σ):(c= .ofString "BadTable"∨c= .ofString "CutShort")∧∃o r,σ=X::o::r:=by
 unfold fM at h
 split at h
 ·cases h;exact⟨.inr rfl,_,_,rfl⟩
 ·split at h
  ·cases h;exact⟨.inl rfl,_,_,rfl⟩
  ·exact zR h
theorem mW (hms:ms≤1000):Fn 7 (.ofString "_law_read") [.bytes D,.int lg,.int ms] [X] (.ok (rdV D (fM D X lg ms)) [X]):=by
 refine Fn.sd (k:=6) 33 (ρ:=[lc "octets" (.bytes D),lc "most_log" (.int lg),lc "most" (.int ms),lc "cursor" .undef,lc "counts" .undef,lc "log" .undef]) rfl rfl rfl fun d hd=>?_
 refine SdB.cut 40 rfl ⟨_,_,qJ,show _≤d by exact (lA 0x620008850004c2) hd,?_⟩
 have rc:=iL (D:=D) (X:=X) (lg:=lg) hms
 generalize hR:fM D X lg ms=R at *
 refine SdB.try_ rfl rfl rfl rfl (SdB.run 40 ⟨_,_,rc,show _≤d by exact (lA 0x620009850004c2) hd,?_⟩)
 cases R with
 |ok cs a=>exact SdB.run 40 ⟨rfl,Nat.le_of_ble_eq_true rfl,rfl⟩
 |ex c σ=>
  rcases sx hR with ⟨hc,o,r,rfl⟩
  rcases hc with rfl|rfl
  ·exact .inl ⟨rfl,rfl⟩
  ·exact .inr ⟨rfl,rfl⟩
end
end
noncomputable def am (value most:Nat):Nat × Nat:=
 if 2^most.log2≤value then(2^(most.log2+1)-1-most+value,most.log2+1)
 else(value,if value<2^(most.log2+1)-1-most then most.log2 else most.log2+1)
noncomputable abbrev wdρ (value most:Int)(half wide:MV):Loc:=[lc "value" (.int value),lc "most" (.int most),lc "half" half,lc "wide" wide]
theorem gL {value most:Nat}{σ:aa}(h0:0<most)(hm:most<1000000000)(hv:value<1000000000):Fn 1 (.ofString "_law_word") [.int value,.int most] σ (.ok (.tup [.int (am value most).1,.int (am value most).2]) σ):=by
 refine Fn.sd (k:=0) 28 (ρ:=wdρ value most .undef .undef) rfl rfl rfl fun d hd=>?_
 refine SdB.cut 40 rfl ?_
 refine(?_:SdB _ _ (wdρ value most (.int 1) (.int 1)) σ _ _)
 refine SdB.while_ 40 rfl (fun m ρ σ'=>∃j:Nat,m=most.log2-j∧j≤most.log2∧ρ=wdρ value most (.int ((2^j:Nat):Int)) (.int ((j+1:Nat):Int))∧σ'=σ) ⟨_,0,rfl,Nat.zero_le _,rfl,rfl⟩ ?_
 rintro m ρ σ' ⟨j,rfl,hj,rfl,rfl⟩
 have hpj:2^(j+1)=2*2^j:=by refine Kh (Nat.pow_succ _ _)▸?_;refine Kh (Nat.mul_comm _ _)▸?_;rfl
 refine Jn (.inl (by decide)) (fun q=>?_) (fun q=>?_)
 ·have q:2*2^j≤most:=by have:(2:Int)*((2^j:Nat):Int)≤most:=q;exact (lB 0x62010980110a8b084cb00442) q
  have hj2:j+1≤most.log2:=(Nat.le_log2 (by exact (lA 0x62601003100402) h0)).mpr (by exact (lB 0x6310084c2100345842658022148c00884610801) hpj (by assumption))
  refine SdB.cut 40 rfl ⟨.inl (by decide),?_⟩
  refine(?_:SdB _ _ (wdρ value most (.int (2*((2^j:Nat):Int))) (.int (((j+1:Nat):Int)+1))) _ _ _)
  have e1:2*((2^j:Nat):Int)=((2^(j+1):Nat):Int):=by rewrite[hpj];exact lA 0x1659801108cb00442
  refine Kh e1▸?_
  exact SdB.skip ⟨most.log2-(j+1),by exact (lB 0x18c44a0084252044008430084811003008401) hj hj2,j+1,rfl,hj2,rfl,rfl⟩
 ·have q:¬2*2^j≤most:=fun w=>q (show(2:Int)*((2^j:Nat):Int)≤most by exact (lB 0x63145842658022140213002216e8b084cb00442) q w)
  have hjl:most.log2=j:=by
   have:=(Nat.log2_lt (show most≠0 by exact (lA 0x62601003100402) h0)).mpr (show most<2^(j+1) by exact (lB 0xc622610801087745842658022148c00884610801) hpj (by assumption))
   exact (lB 0xc624008431204400843008401) hj this
  have hp:2^j≤most:=by rewrite[← hjl];exact Nat.log2_self_le (by exact (lA 0x62601003100402) h0)
  unfold am
  refine Kh hjl▸?_
  by_cases h1:2^j≤value
  ·refine Kh (if_pos h1)▸?_
   refine SdB.cut 40 rfl ⟨fun _=>⟨.inl (by decide),rfl,Nat.le_of_ble_eq_true rfl,aP (x:= .tup [_,_]) rfl (congrArg (fun z:Int=>MF.ret (.tup [.int z,.int ((j+1:Nat):Int)])) ?_) rfl rfl⟩,fun q=>absurd (show((2^j:Nat):Int)≤value by exact (lB 0x318a2c215803ba2c215803008401) h1 q) q⟩
   refine(?_:(2:Int)*((2^j:Nat):Int)-1-(most:Int)+(value:Int)=((2^(j+1)-1-most+value:Nat):Int))
   lia
  ·refine Kh (if_neg h1)▸?_
   refine SdB.cut 40 rfl ⟨fun q=>absurd (show 2^j≤value from Int.ofNat_le.mp q) h1,fun _=>?_⟩
   refine SdB.run 40 ⟨.inl (by decide),fun q=>?_,fun q=>?_⟩
   ·have q:(value:Int)+((2^j:Nat):Int)<3*((2^j:Nat):Int)-1-(most:Int):=q
    rw[if_pos (by exact (lC 0xc6225104a11184200421a95620942232c011888b005610c8c00884610801) hpj (by assumption))]
    refine Jn rfl (Nat.le_of_ble_eq_true rfl) (aP (x:= .tup [_,_]) rfl (congrArg (fun z:Int=>MF.ret (.tup [.int value,.int z])) ?_) rfl rfl)
    refine(?_:((j+1:Nat):Int)-1=_)
    exact lA 0x16580250896408801
   ·have q:¬(value:Int)+((2^j:Nat):Int)<3*((2^j:Nat):Int)-1-(most:Int):=q
    rw[if_neg (by exact (lC 0x318dc4a209422308400843ba95620942232c011888b005610c8c00884610801) hpj (by assumption))]
    refine Jn rfl (Nat.le_of_ble_eq_true rfl) (aP (x:= .tup [_,_]) rfl (congrArg (fun z:Int=>MF.ret (.tup [.int value,.int z])) ?_) rfl rfl)
    refine(?_:((j+1:Nat):Int)-0=_)
    lia
theorem nS {σ:aa}{l:List MV}{is:List Int}(h:bq l=some is):bV σ (.ofString "sum") [.list l]=some (.int is.sum,σ):=by
 refine(?_:(((nE (.list l)).bind bq).map fun is=>MV.int is.sum).map (fun v=>(v,σ))=_)
 refine(?_:((bq l).map fun is=>MV.int is.sum).map (fun v=>(v,σ))=_)
 refine Kh h▸?_;rfl
theorem jr {σ:aa}{l:List MV}{is:List Int}{b:List UInt8}(hz:l.length≤ai)(h:bq l=some is)(hb:cG is=some b):bV σ (.ofString "bytes") [.list l]=some (.bytes b,σ):=by
 refine(?_:(js l).map (fun v=>(v,σ))=_)
 unfold js
 refine Kh (if_pos hz)▸?_;refine Kh h▸?_
 refine(?_:((cG is).map MV.bytes).map (fun v=>(v,σ))=_)
 refine Kh hb▸?_;rfl
theorem dN (l:List Int):bq (l.map .int)=some l:=by
 induction l with
 |nil=>rfl
 |cons a r ih=>simp only[List.map_cons];unfold bq;refine Kh ih▸?_;rfl
theorem aI (l:List Int):noRefs (l.map .int)=true:=by
 induction l with
 |nil=>rfl
 |cons a r ih=>refine Kh List.map_cons▸?_;unfold noRefs;refine Kh ih▸?_;rfl
noncomputable def bA:Nat→List UInt8→List Int
 |_,[]=>[]
 |k,x::r=>(x.toNat:Int)*256^k::bA (k+1) r
theorem e8:∀{k:Nat}{D:List UInt8},(bA k D).length=D.length
 |_,[]=>rfl
 |k,x::r=>by rewrite[bA];refine Kh List.length_cons▸?_;refine Kh List.length_cons▸?_;refine Kh e8▸?_;rfl
theorem eZ:∀{k:Nat}{D:List UInt8},(bA k D).sum=(af D:Int)*256^k
 |_,[]=>by simp[bA,af]
 |k,x::r=>by
  rewrite[bA];rewrite[List.sum_cons];refine Kh eZ▸?_;rewrite[af];refine Kh (Int.pow_succ _ _)▸?_
  push_cast
  rewrite[Int.add_mul];refine Kh (Int.mul_comm (256:Int) (af r:Int))▸?_;rewrite[Int.mul_assoc];refine Kh (Int.mul_comm (256^k) 256)▸?_;rfl
theorem bN {D:List UInt8}{σ:aa}(hD:D.length≤1000000):Fn 1 (.ofString "_law_whole") [.bytes D] σ (.ok (.int (af D)) σ):=by
 refine Fn.vc (k:=0) 31 60 (ρ:=[lc "octets" (.bytes D)]) rfl rfl rfl fun d hd=>?_
 refine JD (fun r acc σ'=>∃(j:Nat) (R:List UInt8) (done:List Int),r=(R.zipIdx j).map (fun(x,k)=>.tup [.int (k:Int),.int (x.toNat:Int)])∧acc=done.map .int∧done++bA j R=bA 0 D∧j+R.length≤D.length∧σ'=σ) ⟨0,D,[],rfl,rfl,rfl,by exact lA 0x8002400402,rfl⟩ ?_ ?_
 ·rintro x r acc σ' ⟨j,R,done,h1,rfl,h3,h4,rfl⟩
  cases R with
  |nil=>cases h1
  |cons y R=>
   replace h1:=List.map_cons▸(List.zipIdx_cons▸h1)
   refine Jh (List.cons.inj h1) ?_;intro κ;subst κ;intro κ2;subst κ2
   replace h4:=List.length_cons▸h4
   refine⟨_,rfl,⟨Int.natCast_nonneg _,by exact (lC 0xc629e848041ac21800242044208430f424020c01) hD h4,by decide⟩,.inl ?_,j+1,R,done++[(y.toNat:Int)*256^j],rfl,by simp,by rewrite[List.append_assoc];exact h3,by exact (lC 0x620209021204400c0412102208401) h4,rfl⟩
   have:=y.toNat_lt
   refine(?_:(y.toNat:Int).natAbs<2^64)
   exact (lA 0xc460000000000000000d1ad600c50010c01) this
 ·rintro acc σ' ⟨j,R,done,h1,rfl,h3,h4,rfl⟩
  cases R with
  |cons y R=>replace h1:=List.map_cons▸(List.zipIdx_cons▸h1);cases h1
  |nil=>
   rewrite[bA]at h3;replace h3:=List.append_nil _▸h3
   subst h3
   refine Jn (by rewrite[List.length_map,e8];unfold ai;exact (lA 0xc40200000518030f424020c01) hD) (aI _) ⟨(.int (bA 0 D).sum,_),?_,aP rfl (congrArg (fun z=>MF.ret (.int z)) ?_) rfl rfl⟩
   ·exact nS (dN _)
   ·refine Kh eZ▸?_;simp
noncomputable def ak (W bits:Nat):List UInt8:=(List.range ((bits+7)/8)).map fun k=>UInt8.ofNat (W/256^k%256)
theorem eL (f:Nat→Nat)(hf:∀k,f k<256):∀l:List Nat,cG (l.map fun(k:Nat)=>(f k:Int))=some (l.map fun k=>UInt8.ofNat (f k))
 |[]=>rfl
 |k::l=>by
  refine Kh List.map_cons▸?_
  unfold cG
  have:=hf k
  rw[if_pos ⟨by exact lA 0x28b00402,by exact (lA 0xc550010d600c50010c01) this⟩,eL f hf l]
  rfl
theorem Ae {k:Nat}(h:k≤1100):((256^k:Nat):Int).natAbs.log2<9000:=by
 refine Kh (Int.natAbs_natCast _)▸?_;refine Kh (show(256:Nat)=2^8 from rfl)▸?_;rewrite[←Nat.pow_mul];refine Kh Nat.log2_two_pow▸?_
 exact (lA 0xc451940c66005028044c18c01) h
theorem dE {W bits:Nat}{σ:aa}(hb:bits≤8000):Fn 1 (.ofString "_law_octets") [.int W,.int bits] σ (.ok (.bytes (ak W bits)) σ):=by
 refine Fn.vc (k:=0) 32 60 (ρ:=[lc "whole" (.int W),lc "bits" (.int bits)]) rfl rfl rfl fun d hd=>?_
 have h8:((bits:Int)+7)/8=(((bits+7)/8:Nat):Int):=by exact lA 0x596940887100294088712c01
 generalize hn:(bits+7)/8=n at *
 have hn1:n≤1001:=by exact (lB 0xc621f488610c8214a0443880181f4018c01) hb hn
 refine Jg ⟨by decide,by decide⟩ ?_
 refine⟨(List.range n).map fun(k:Nat)=>.int (k:Int),?_,?_⟩
 ·refine(?_:bG [.int (((bits:Int)+7)/8)]=_)
  refine Kh h8▸?_
  exact cU (by exact (lB 0x31887a12010610c8214a0443880181f4018c01) hb hn)
 refine JD (fun r acc σ'=>∃j:Nat,r=(List.range' j (n-j)).map (fun(k:Nat)=>.int (k:Int))∧acc=((List.range j).map fun(k:Nat)=>((W/256^k%256:Nat):Int)).map .int∧j≤n∧σ'=σ) ⟨0,by rewrite[List.range_eq_range'];rfl,rfl,Nat.zero_le _,rfl⟩ ?_ ?_
 ·rintro x r acc σ' ⟨j,h1,rfl,h3,h4⟩
  obtain⟨m,hm⟩:∃m,n-j=m+1:=by
   cases hq:n-j with
   |zero=>replace h1:=hq▸h1;cases h1
   |succ m=>exact Jo m rfl
  replace h1:=List.map_cons▸(List.range'_succ▸(hm▸h1))
  refine Jh (List.cons.inj h1) ?_;intro κ;subst κ;intro κ2;subst κ2
  have hp:((256:Int)^((j:Nat):Int).toNat)=((256^j:Nat):Int):=by rewrite[Int.toNat_natCast];push_cast;rfl
  refine⟨_,rfl,⟨Int.natCast_nonneg _,by exact (lC 0x18c629e848041ac41804220c8214a0443880181f4018c01) hb hn h3,by decide⟩,⟨?_,?_⟩,by decide,j+1,?_,?_,by exact (lF 0x318c4021204420c88110c2510421804220c8214a04438801) hn h3 hm,h4⟩
  ·refine(?_:0<(256:Int)^((j:Nat):Int).toNat)
   refine Kh hp▸?_
   exact Int.natCast_pos.mpr (Nat.pow_pos (by decide))
  ·refine(?_:((256:Int)^((j:Nat):Int).toNat).natAbs.log2<9000)
   refine Kh hp▸?_
   exact Ae (by exact (lC 0x63188044c18c41804220c8214a0443880181f4018c01) hb hn h3)
  ·rw[show n-(j+1)=m by exact (lF 0x18c624309481108210c88110c2510421804220c8214a04438801) hn h3 hm]
  ·refine Kh List.range_succ▸?_;refine Kh List.map_append▸?_;refine Kh List.map_append▸?_
   refine congrArg (fun z=>_++[MV.int z]) ?_
   refine(?_:(W:Int)/(256:Int)^((j:Nat):Int).toNat%256=_)
   refine Kh hp▸?_
   push_cast
   rfl
 ·rintro acc σ' ⟨j,h1,rfl,h3,rfl⟩
  have hj:j=n:=by
   cases hq:n-j with
   |zero=>exact (lC 0xc6312084419004510421804220c8214a04438801) hn h3 hq
   |succ m=>replace h1:=List.range'_succ▸(hq▸h1);cases h1
  subst hj
  have hl:(((List.range j).map fun(k:Nat)=>((W/256^k%256:Nat):Int)).map MV.int).length≤ai:=by
   refine Kh (List.length_map _)▸?_;refine Kh (List.length_map _)▸?_;refine Kh List.length_range▸?_
   unfold ai
   exact (lB 0x631008000014610c8214a0443880181f4018c01) hb hn
  refine Jn hl (aI _) ⟨(.bytes (ak W bits),_),?_,aP rfl rfl rfl rfl⟩
  refine jr hl (dN _) ?_
  rw[eL (fun k=>W/256^k%256) (fun k=>Nat.mod_lt _ (by decide))]
  unfold ak
  refine Kh hn▸?_;rfl
noncomputable abbrev itM (x:Int × Nat):MV:= .tup [.int x.1,.int x.2]
noncomputable abbrev aJ (l:List (Int × Nat)):MV:= .list (l.map itM)
noncomputable abbrev ag (l:List Int):MV:= .list (l.map .int)
noncomputable def ad:List (Int × Nat)→List Int
 |[]=>[]
 |(c,m)::r=>List.replicate (1+m) c++ad r
theorem aA:∀{a b:List (Int × Nat)},ad (a++b)=ad a++ad b
 |[],b=>rfl
 |(c,m)::a,b=>by refine Kh List.cons_append▸?_;rewrite[ad];rewrite[ad];refine Kh aA▸?_;rewrite[List.append_assoc];rfl
theorem rn {X:MO}{σ:aa}{ρ:Loc}{l:List Int}:ends false [X] (.ok (.ret (ag l),ρ) (X::σ))=some (.ok (ag l) [X]):=by
 exact f6 (by simpa only[aL]using aI l)
theorem ft (l:List (Int × Nat)):noRefs (l.map itM)=true:=by
 induction l with
 |nil=>rfl
 |cons a r ih=>refine Kh List.map_cons▸?_;unfold noRefs;refine Kh ih▸?_;rfl
theorem pu {n:Nat}{c:Int}:(List.replicate n [c]).flatten=List.replicate n c:=by
 induction n with
 |zero=>rfl
 |succ n ih=>refine Kh List.replicate_succ▸?_;refine Kh List.flatten_cons▸?_;refine Kh ih▸?_;refine Kh List.replicate_succ▸?_;rfl
theorem hY {σ:aa}{c:Int}{m:Nat}(h:m≤100000):gm σ .Mult (.list [.int c]) (.int (1+(m:Int)))=some (ag (List.replicate (1+m) c)):=by
 have h1:(1+(m:Int)).toNat=1+m:=by exact lA 0x12200211308b00422
 refine(?_:(if 1*(1+(m:Int)).toNat≤ai∧ -1048577<(1+(m:Int))∧(1+(m:Int))<1048577 then(match bq [.int c]with|some ns=>some (MV.list ((List.replicate (1+(m:Int)).toNat ns).flatten.map .int))|none=>none)else none)=_)
 rw[if_pos ⟨by unfold ai;exact (lA 0x31880400000a33308b0042208a44004226116008450186a020c01) h h1,by exact lA 0x548b0042260400004a3,by exact (lA 0xc5420000251916008450186a020c01) h⟩,h1]
 refine(?_:some (MV.list ((List.replicate (1+m) [c]).flatten.map .int))=_)
 refine Kh pu▸?_;rfl
noncomputable abbrev rwρ (items row count more:MV):Loc:=[lc "items" items,lc "row" row,lc "count" count,lc "more" more]
theorem i7 {X:MO}{its:List (Int × Nat)}(hl:(ad its).length≤100000):Fn 1 (.ofString "_law_row") [aJ its] [X] (.ok (ag (ad its)) [X]):=by
 refine Fn.sd (k:=0) 26 (ρ:=rwρ (aJ its) .undef .undef .undef) rfl rfl rfl fun d hd=>?_
 refine SdB.cut 40 rfl ⟨Nat.zero_le _,?_⟩
 refine(?_:SdB _ _ (rwρ (aJ its) (.ref 1) .undef .undef) [X,.list []] _ _)
 refine SdB.for_ 40 rfl rfl ⟨fun r ρ σ=>∃(todo done:List (Int × Nat)) (rv c m:MV),r=todo.map itM∧its=done++todo∧ρ=rwρ (aJ its) rv c m∧σ=[X,.list []]∧((rv= .ref 1∧ad done=[])∨rv=ag (ad done)),⟨its,[],_,_,_,rfl,rfl,rfl,rfl,.inl ⟨rfl,rfl⟩⟩,?_,?_⟩
 ·rintro x r ρ σ ⟨todo,done,rv,c,m,h1,h2,rfl,rfl,h3⟩
  cases todo with
  |nil=>cases h1
  |cons y todo=>
   rcases y with ⟨yc,ym⟩
   replace h1:=List.map_cons▸h1
   refine Jh (List.cons.inj h1) ?_;intro κ;subst κ;intro κ2;subst κ2
   have e:ad its=ad done++(List.replicate (1+ym) yc++ad todo):=by refine Kh h2▸?_;refine Kh aA▸?_;rewrite[ad];rfl
   have hlen:=hl
   replace hlen:=e▸hlen
   simp only[List.length_append,List.length_replicate]at hlen
   have go:∀l:List Int,l=ad done→(if(l.map MV.int).length+((List.replicate (1+ym) yc).map MV.int).length≤ai then some (MV.list (l.map .int++(List.replicate (1+ym) yc).map .int))else none)=some (ag (ad done++List.replicate (1+ym) yc)):=by
    intro l hl'
    subst hl'
    rw[if_pos (by simp only[List.length_map,List.length_replicate];unfold ai;exact (lC 0x62010000028c8408422006030d404190820902108801) hlen),← List.map_append]
   have fin:∃(todo' done':List (Int × Nat)) (rv c m:MV),todo.map itM=todo'.map itM∧its=done'++todo'∧rwρ (aJ its) (ag (ad done++List.replicate (1+ym) yc)) (.int yc) (.int ym)=rwρ (aJ its) rv c m∧[X,MO.list []]=[X,.list []]∧((rv= .ref 1∧ad done'=[])∨rv=ag (ad done')):=
    ⟨todo,done++[(yc,ym)],_,_,_,rfl,by rewrite[h2,List.append_assoc];rfl,rfl,rfl,.inr (by refine Kh aA▸?_;rewrite[ad];rewrite[ad];refine Kh (List.append_nil _)▸?_;rfl)⟩
   rcases h3 with⟨rfl,h3⟩|rfl
   ·exact Jl _ rfl (SdB.cut 40 rfl ⟨Nat.le_of_ble_eq_true rfl,_,hY (by exact (lC 0xc4061a8083086030d404190820902108801) hlen),_,go [] h3.symm,SdB.skip fin⟩)
   ·exact Jl _ rfl (SdB.cut 40 rfl ⟨Nat.le_of_ble_eq_true rfl,_,hY (by exact (lC 0xc4061a8083086030d404190820902108801) hlen),_,go _ rfl,SdB.skip fin⟩)
 ·rintro ρ σ ⟨todo,done,rv,c,m,h1,h2,rfl,rfl,h3⟩
  cases todo with
  |cons y todo=>cases h1
  |nil=>
   replace h2:=List.append_nil _▸h2
   subst h2
   rcases h3 with⟨rfl,h3⟩|rfl
   ·refine SdB.run 40 ?_
    refine(?_:some (R.ok (MV.list []) [X])=_)
    refine Kh h3▸?_;rfl
   ·exact SdB.run 40 rn
section
noncomputable def bC (W b:Nat):List Nat→Nat × Nat
 |[]=>(W,b)
 |g::gs=>bC (W+g*2^b) (b+2) gs
noncomputable def az (c:Int)(m:Nat):List Nat:=if c=0 then List.replicate (m/3) 3++[m%3]else[]
noncomputable def aF:List (Int × Nat)→Nat→Nat→Nat→Nat × Nat
 |[],W,b,_=>(W,b)
 |(c,m)::r,W,b,left=>aF r (bC (W+(am (c+1).toNat (left+1)).1*2^b) (b+(am (c+1).toNat (left+1)).2) (az c m)).1
   (bC (W+(am (c+1).toNat (left+1)).1*2^b) (b+(am (c+1).toNat (left+1)).2) (az c m)).2 (left-c.natAbs)
noncomputable def Fit:List (Int × Nat)→Nat→Prop
 |[],_=>True
 |(c,m)::r,left=> -1≤c∧c.natAbs≤left∧m≤1000∧Fit r (left-c.natAbs)
theorem eW {gs:List Nat}:∀{W b:Nat},b≤(bC W b gs).2:=by
 induction gs with
 |nil=>intro W b;exact Nat.le_refl _
 |cons g gs ih=>intro W b;exact Nat.le_trans (Nat.le_add_right b 2) ih
theorem fk:∀{r:List (Int × Nat)}{W b left:Nat},b≤(aF r W b left).2
 |[],_,_,_=>Nat.le_refl _
 |(c,m)::r,W,b,left=>Nat.le_trans (Nat.le_trans (Nat.le_add_right b _) eW) (fk (r:=r))
theorem rQ {v most:Nat}(h:0<most):(am v most).1≤v+most:=by
 have hp:2^most.log2≤most:=Nat.log2_self_le (by exact (lA 0x62601003100402) h)
 have hs:2^(most.log2+1)=2*2^most.log2:=by refine Kh (Nat.pow_succ _ _)▸?_;refine Kh (Nat.mul_comm _ _)▸?_;rfl
 unfold am
 split
 ·refine(?_:2^(most.log2+1)-1-most+v≤v+most)
  exact (lC 0x318810211048209421284461080191801108c21003008401) hp hs
 ·exact Nat.le_add_right _ _
theorem BO {σ:aa}{c y:Int}{n:Nat}(hy:y=n)(h:n≤100000):gm σ .Mult (.list [.int c]) (.int y)=some (ag (List.replicate n c)):=by
 subst hy
 refine(?_:(if 1*((n:Int)).toNat≤ai∧ -1048577<(n:Int)∧(n:Int)<1048577 then(match bq [.int c]with|some ns=>some (MV.list ((List.replicate (n:Int).toNat ns).flatten.map .int))|none=>none)else none)=_)
 rw[if_pos ⟨by unfold ai;exact (lA 0x1880400000a33316008450186a020c01) h,by exact lA 0xaac0160400004a3,by exact (lA 0x18a8400004a358030186a020c01) h⟩,Int.toNat_natCast]
 refine(?_:some (MV.list ((List.replicate n [c]).flatten.map .int))=_)
 refine Kh pu▸?_;rfl
noncomputable abbrev tdρ (items log af bits left count more word wide group:MV):Loc:=[lc "items" items,lc "log" log,lc "whole" af,lc "bits" bits,lc "left" left,lc "count" count,lc "more" more,lc "word" word,lc "wide" wide,lc "group" group]
noncomputable abbrev aY (l:List Nat):List MV:=l.map fun(g:Nat)=>.int (g:Int)
theorem ki (l:List Nat):bq (aY l)=some (l.map fun(g:Nat)=>(g:Int)):=by
 have:=dN (l.map fun(g:Nat)=>(g:Int))
 replace this:=List.map_map▸this
 exact this
theorem mul_one {σ:aa}{gs:List Nat}(h:gs.length≤100000):gm σ .Mult (.list (aY gs)) (.int 1)=some (.list (aY gs)):=by
 refine(?_:(if(aY gs).length*1≤ai∧ -1048577<(1:Int)∧(1:Int)<1048577 then(match bq (aY gs)with|some ns=>some (MV.list ((List.replicate 1 ns).flatten.map .int))|none=>none)else none)=_)
 rw[if_pos ⟨by simp only[aY,List.length_map];unfold ai;exact (lA 0x62010000028cc110030186a020c01) h,by decide,by decide⟩,ki]
 refine congrArg (fun l=>some (MV.list l)) (?_:((List.replicate 1 (gs.map fun(g:Nat)=>(g:Int))).flatten.map MV.int)=aY gs)
 simp[aY,Function.comp_def]
theorem mul_zero {σ:aa}{gs:List Nat}:gm σ .Mult (.list (aY gs)) (.int 0)=some (.list (aY [])):=by
 refine(?_:(if(aY gs).length*0≤ai∧ -1048577<(0:Int)∧(0:Int)<1048577 then(match bq (aY gs)with|some ns=>some (MV.list ((List.replicate 0 ns).flatten.map .int))|none=>none)else none)=_)
 rw[if_pos ⟨by unfold ai;exact lA 0x10080000146600801,by decide,by decide⟩,ki]
 rfl
theorem Bk {σ:aa}{m:Nat}(h:m≤1000):gm σ .Add (ag (List.replicate (m/3) 3)) (.list [.int ((m:Int)%3)])=some (.list (aY (List.replicate (m/3) 3++[m%3]))):=by
 refine(?_:(if((List.replicate (m/3) (3:Int)).map MV.int).length+1≤ai then some (MV.list ((List.replicate (m/3) (3:Int)).map .int++[.int ((m:Int)%3)]))else none)=_)
 rw[if_pos (by simp only[List.length_map,List.length_replicate];unfold ai;exact (lA 0xc4020000051902248c400c3e810c01) h)]
 simp[aY]
inductive TdJ (its:List (Int × Nat))(log left m:Nat)(c:Int)(w1 w2:MV)(F:Nat × Nat)(σ:aa):List MV→Loc→aa→Prop
 |mk (r:List MV) (gs:List Nat) (W b:Nat) (x5:MV) (h1:r=aY gs) (h2:∀g∈gs,g≤3) (h3:bC W b gs=F):TdJ its log left m c w1 w2 F σ r (tdρ (aJ its) (.int log) (.int W) (.int b) (.int left) (.int c) (.int m) w1 w2 x5) σ
inductive TdI (its:List (Int × Nat))(log:Nat)(F:Nat × Nat)(σ:aa):List MV→Loc→aa→Prop
 |mk (r:List MV) (todo:List (Int × Nat)) (W b left:Nat) (x1 x2 x3 x4 x5:MV) (h1:r=todo.map itM) (h3:aF todo W b left=F) (h4:Fit todo left) (h5:left≤1048576):TdI its log F σ r (tdρ (aJ its) (.int log) (.int W) (.int b) (.int left) x1 x2 x3 x4 x5) σ
section
variable {its:List (Int × Nat)}{log left m d b0:Nat}{c:Int}{w1 w2:MV}{F:Nat × Nat}{σ:aa}{Q:MF→Loc→aa→Prop}{X:XP}
theorem p8 {W g b:Nat}:(W:Int)+(g:Int)*2^((b:Nat):Int).toNat=((W+g*2^b:Nat):Int):=by rewrite[Int.toNat_natCast];push_cast;rfl
theorem mh (hF:F.2≤8000)(hQ:∀x5,Q .next (tdρ (aJ its) (.int log) (.int F.1) (.int F.2) (.int left) (.int c) (.int m) w1 w2 x5) σ){gs:List Nat}{W b:Nat}{x5:MV}(hg:∀g∈gs,g≤3)(h:bC W b gs=F):
  Hx ⟨(ah 29).2.2.names,d,b0⟩ (sb (Mine.hd ((bj (Mine.hd (ah 29).2.1.tail)).tail.tail))) (bj (Mine.hd ((bj (Mine.hd (ah 29).2.1.tail)).tail.tail))) [] Q X (tdρ (aJ its) (.int log) (.int W) (.int b) (.int left) (.int c) (.int m) w1 w2 x5) (aY gs) σ:=by
 refine JD (TdJ its log left m c w1 w2 F σ) (.mk _ gs W b x5 rfl hg h) ?_ ?_
 ·rintro x r _ _ ⟨gs,W,b,x5,h1,h2,h3⟩
  cases gs with
  |nil=>cases h1
  |cons g gs=>
   refine Jh (List.cons.inj h1) ?_;intro κ;subst κ;intro κ2;subst κ2
   have hg3:=h2 g (.head _)
   have hm3:=eW (gs:=gs) (W:=W+g*2^b) (b:=b+2)
   rewrite[bC]at h3
   replace hm3:=h3▸hm3
   refine Jl _ rfl (SdB.cut 40 rfl ⟨⟨Int.natCast_nonneg _,by exact (lB 0xc629e848041ac21800241082181f4018c01) hF hm3,by decide⟩,.inl (by exact (lA 0x3118000000000000000346b5803018801) hg3),?_⟩)
   refine(?_:SdB _ _ (tdρ (aJ its) (.int log) (.int ((W:Int)+(g:Int)*2^((b:Nat):Int).toNat)) (.int (b+2:Nat)) (.int left) (.int c) (.int m) w1 w2 (.int g)) _ _ _)
   refine Kh p8▸?_
   exact SdB.skip (.mk _ gs _ _ _ rfl (fun g' hg'=>h2 g' (.tail _ hg')) h3)
 ·rintro _ _ ⟨gs,W,b,x5,h1,h2,h3⟩
  cases gs with
  |cons g gs=>cases h1
  |nil=>
   have h3:(W,b)=F:=h3
   subst h3
   exact SdB.skip (hQ x5)
theorem uT {W b:Nat}{todo:List (Int × Nat)}{x3 x4 x5:MV}(hF:F.2≤8000)(h3:aF ((c,m)::todo) W b left=F)(h4:Fit ((c,m)::todo) left)(h5:left≤1048576)(hd:1≤d)(hQ:∀ρ,TdI its log F σ (todo.map itM) ρ σ→Q .next ρ σ):
  SdB ⟨(ah 29).2.2.names,d,b0⟩ (bj (Mine.hd (ah 29).2.1.tail)) (tdρ (aJ its) (.int log) (.int W) (.int b) (.int left) (.int c) (.int m) x3 x4 x5) σ Q X:=by
 refine JB h4 ?_;clear h4;intro f1 f2 f3 f4
 rewrite[aF]at h3
 have hc:c+1=(((c+1).toNat:Nat):Int):=by exact (lE 0xc596c2044009022006800b022) f1
 have hwl:=rQ (v:=(c+1).toNat) (most:=left+1) (by exact lA 0x8902200402)
 have fw:=gL (σ:=σ) (value:=(c+1).toNat) (most:=left+1) (by exact lA 0x8902200402) (by exact (lA 0x188f7359400619022006010000028c01) h5) (by exact (lD 0x318c623dcd6500186c204400d96c2044009022006000ac01a002c08a010000028c01) h5 f1 f2 hc)
 replace fw:=Kh hc▸fw
 generalize am (c+1).toNat (left+1)=w at *
 rcases w with ⟨word,wide⟩
 dsimp only at h3 hwl fw
 have hm1:=fk (r:=todo) (W:=(bC (W+word*2^b) (b+wide) (az c m)).1) (b:=(bC (W+word*2^b) (b+wide) (az c m)).2) (left:=left-c.natAbs)
 replace hm1:=h3▸hm1
 have hm2:=eW (gs:=az c m) (W:=W+word*2^b) (b:=b+wide)
 have hb:b≤8000:=by exact (lF 0xc63103e8031883008483088300042181f4018c01) hF hm1 hm2
 have fin:∀y5,Q .next (tdρ (aJ its) (.int log) (.int (bC (W+word*2^b) (b+wide) (az c m)).1) (.int (bC (W+word*2^b) (b+wide) (az c m)).2) (.int (left-c.natAbs:Nat)) (.int c) (.int m) (.int word) (.int wide) y5) σ:=fun y5=>hQ _ (.mk _ todo _ _ _ _ _ _ _ _ rfl h3 f4 (by exact (lD 0x1880400000a32ac01006010000028c01) h5))
 have hF2:(bC (W+word*2^b) (b+wide) (az c m)).2≤8000:=Nat.le_trans hm1 hF
 have g2:(left:Int)-(c.natAbs:Int)=((left-c.natAbs:Nat):Int):=by exact (lD 0x62cb2ac01004ab5802b006000ac01) f2
 have hm3:(m:Int)/3=((m/3:Nat):Int):=by exact lA 0x165a4620052312c01
 have hm4:m/3≤100000:=by exact (lA 0xc4061a808348c400c3e810c01) f3
 refine SdB.cut 40 rfl ⟨_,_,fw,hd,?_⟩
 refine SdB.cut 40 rfl ⟨⟨Int.natCast_nonneg _,by exact (lA 0x629e848041ac0181f4018c01) hb,by decide⟩,.inl (HR hwl f2 h5),?_⟩
 refine(?_:SdB _ _ (tdρ (aJ its) (.int log) (.int ((W:Int)+(word:Int)*2^((b:Nat):Int).toNat)) (.int (b+wide:Nat)) (.int ((left:Int)-(c.natAbs:Int))) (.int c) (.int m) (.int word) (.int wide) x5) σ _ _)
 refine Kh p8▸?_;refine Kh g2▸?_
 clear hm1 hm2 h3 hQ fw
 refine SdB.for_ 60 rfl rfl ⟨Nat.le_of_ble_eq_true rfl,⟨by decide,by decide⟩,_,BO hm3 hm4,by decide,Nat.le_of_ble_eq_true rfl,_,Bk f3,fun q=>⟨_,mul_one ?_,mh hF2 fin ?_ ?_⟩,fun q=>⟨_,mul_zero,mh hF2 fin (fun g hg=>by cases hg) ?_⟩⟩
 ·simp only[List.length_append,List.length_replicate,List.length_singleton];exact (lA 0xc62030d4041902248c400c061a808348c400c3e810c01) f3 hm4
 ·intro g hg
  rcases List.mem_append.mp hg with hg|hg
  ·refine Kh ((List.mem_replicate.mp hg).2)▸?_;exact Nat.le_refl 3
  ·refine Kh (List.mem_singleton.mp hg)▸?_;exact lA 0x80c4a18801
 ·have q:c=0:=q
  unfold az;refine Kh (if_pos q)▸?_;rfl
 ·have q:¬c=0:=q
  unfold az;refine Kh (if_neg q)▸?_;rfl
end
theorem b8 {σ:aa}{its:List (Int × Nat)}{log:Nat}(h5:5≤log)(h20:log≤20)(hfit:Fit its (2^log))(hb:(aF its (log-5) 4 (2^log)).2≤8000):
  Fn 2 (.ofString "_law_told") [aJ its,.int log] σ (.ok (.tup [.int (aF its (log-5) 4 (2^log)).1,.int (aF its (log-5) 4 (2^log)).2]) σ):=by
 have e1:(log:Int)-5=((log-5:Nat):Int):=by exact (lA 0x62cb29440094a258030004a2) h5
 have e2:(2:Int)^((log:Nat):Int).toNat=((2^log:Nat):Int):=by rewrite[Int.toNat_natCast];push_cast;rfl
 have hp20:2^log≤1048576:=Nat.pow_le_pow_right (n:=2) (by decide) h20
 refine Fn.sd (k:=1) 29 (ρ:=tdρ (aJ its) (.int log) .undef .undef .undef .undef .undef .undef .undef .undef) rfl rfl rfl fun d hd=>?_
 refine SdB.cut 40 rfl ⟨⟨Int.natCast_nonneg _,by exact (lA 0xc53d09008358030a0801) h20,by decide⟩,?_⟩
 refine(?_:SdB _ _ (tdρ (aJ its) (.int log) (.int ((log:Int)-5)) (.int 4) (.int (2^((log:Nat):Int).toNat)) .undef .undef .undef .undef .undef) σ _ _)
 refine Kh e1▸?_;refine Kh e2▸?_
 generalize hfin:aF its (log-5) 4 (2^log)=fin at *
 refine SdB.for_ 40 rfl rfl ⟨TdI its log fin σ,.mk _ its _ _ _ _ _ _ _ _ rfl hfin hfit hp20,?_,?_⟩
 ·rintro x r _ _ ⟨todo,W,b,left,x1,x2,x3,x4,x5,h1,h3,h4,h5'⟩
  cases todo with
  |nil=>cases h1
  |cons y todo=>
   refine Jh (List.cons.inj h1) ?_;intro κ;subst κ;intro κ2;subst κ2
   exact Jl _ rfl (uT hb h3 h4 h5' hd fun ρ h=>h)
 ·rintro _ _ ⟨todo,W,b,left,x1,x2,x3,x4,x5,h1,h3,h4,h5'⟩
  cases todo with
  |cons y todo=>cases h1
  |nil=>
   rewrite[aF]at h3
   subst h3
   exact SdB.run 40 ⟨rfl,Nat.le_of_ble_eq_true rfl,aP rfl rfl rfl rfl⟩
end
section
theorem dX (l:List Int):toPys (l.map .int)=some (l.map .int):=by
 induction l with
 |nil=>rfl
 |cons a r ih=>
  refine(?_:kE (some (PyData.int a)) (toPys (r.map .int))=_)
  rw[ih];rfl
noncomputable abbrev pyI (x:Int × Nat):PyData:= .tuple [.int x.1,.int x.2]
theorem jZ (l:List (Int × Nat)):toPys (l.map itM)=some (l.map pyI):=by
 induction l with
 |nil=>rfl
 |cons a r ih=>
  refine(?_:kE (er (itM a)) (toPys (r.map itM))=_)
  rw[ih];rfl
theorem eE (l:List Int):PyData.canLayAll0 (l.map .int)=true:=by
 induction l with
 |nil=>rfl
 |cons a r ih=>rw[List.map_cons,PyData.canLayAll0,ih];rfl
theorem pI (l:List (Int × Nat)):PyData.canLayAll0 (l.map pyI)=true:=by
 induction l with
 |nil=>rfl
 |cons a r ih=>rw[List.map_cons,PyData.canLayAll0,ih];simp[PyData.canLay0,PyData.canLayAll0]
theorem fB (l:List Int):PyData.depthAll (l.map .int)≤3:=by
 induction l with
 |nil=>simp[PyData.depthAll]
 |cons a r ih=>rw[List.map_cons,PyData.depthAll];exact Nat.max_le.mpr ⟨by simp[PyData.depth],ih⟩
theorem rq (l:List (Int × Nat)):PyData.depthAll (l.map pyI)≤3:=by
 induction l with
 |nil=>simp[PyData.depthAll]
 |cons a r ih=>rw[List.map_cons,PyData.depthAll];exact Nat.max_le.mpr ⟨by simp[PyData.depth,PyData.depthAll],ih⟩
theorem jm:∀(a b:List Int),PyData.eqvAll (a.map .int) (b.map .int)=decide (a=b)
 |[],[]=>by simp[PyData.eqvAll]
 |[],_::_=>by simp[PyData.eqvAll]
 |_::_,[]=>by simp[PyData.eqvAll]
 |x::a,y::b=>by
  rw[List.map_cons,List.map_cons,PyData.eqvAll,jm a b]
  by_cases h:x=y<;>simp[PyData.eqv,h]
theorem pR:∀(a b:List (Int × Nat)),PyData.eqvAll (a.map pyI) (b.map pyI)=decide (a=b)
 |[],[]=>by simp[PyData.eqvAll]
 |[],_::_=>by simp[PyData.eqvAll]
 |_::_,[]=>by simp[PyData.eqvAll]
 |(x,m)::a,(y,n)::b=>by
  rw[List.map_cons,List.map_cons,PyData.eqvAll,pR a b]
  have e:((m:Int)=n)↔m=n:=Int.ofNat_inj
  by_cases h:x=y<;>by_cases h2:m=n<;>simp[PyData.eqv,PyData.eqvAll,h,h2,e]
theorem mK {l l':List MV}{a b:List PyData}(h1:toPys l=some a)(h2:toPys l'=some b)(h3:PyData.canLayAll0 a=true)(h4:PyData.canLayAll0 b=true)(h5:PyData.depthAll a≤3):meq (.list l) (.list l')=some (PyData.eqvAll a b):=by
 unfold meq oj qP
 simp only[Option.elim_none,er,h1,h2,Option.map_some]
 rw[if_pos ⟨by simpa [PyData.canLay0]using h3,by simpa [PyData.canLay0]using h4,by simp only[PyData.depth];exact (lA 0x310408811003018801) h5⟩]
 simp[PyData.eqv]
theorem mL (a b:List Int):meq (ag a) (ag b)=some (decide (a=b)):=by
 refine Kh (mK (dX a) (dX b) (eE a) (eE b) (fB a))▸?_;refine Kh (jm _ _)▸?_;rfl
theorem lj (a b:List (Int × Nat)):meq (aJ a) (aJ b)=some (decide (a=b)):=by
 refine Kh (mK (jZ a) (jZ b) (pI a) (pI b) (rq a))▸?_;refine Kh (pR _ _)▸?_;rfl
noncomputable def a8 (l:List (Int × Nat))(c:Int):List (Int × Nat):=match l.getLast? with
 |some (a,m)=>if c=0∧a=0 then l.dropLast++[(0,m+1)]else l++[(c,0)]
 |none=>l++[(c,0)]
noncomputable def eq (l:List (Int × Nat)):List (Int × Nat):=match l.getLast? with
 |some (a,_)=>if a=0 then l.dropLast else l
 |none=>l
noncomputable def ac (cs:List Int):List (Int × Nat):=eq (cs.foldl a8 [])
section
variable {X:MO}{σ:aa}{l:List (Int × Nat)}{x:Int × Nat}
theorem lh:de [X,.list (l.map itM)] .NotEq (.ref 1) (.list [])=some (!decide (l=[])):=by
 refine(?_:(meq (aJ l) (aJ [])).map (!·)=_)
 refine Kh (lj _ _)▸?_;rfl
theorem s5:(((l++[x]).map itM)[(((l++[x]).map itM).length-1)]?)=some (itM x):=by
 simp
theorem gq:eD [X,.list ((l++[x]).map itM)] (.ref 1) (.int (-1))=some (itM x):=by
 refine(?_:((bg ((l++[x]).map itM).length (-1)).bind fun j=>((l++[x]).map itM)[j]?)=_)
 have:bg ((l++[x]).map itM).length (-1)=some (((l++[x]).map itM).length-1):=by
  unfold bg
  rw[if_neg (by decide),if_pos (by simp)]
  rfl
 refine Kh this▸?_
 exact s5
theorem si {y:Int × Nat}:dK [X,.list ((l++[x]).map itM)] (.ref 1) (.int (-1)) (itM y)=some [X,.list ((l++[y]).map itM)]:=by
 have:bg ((l++[x]).map itM).length (-1)=some (((l++[x]).map itM).length-1):=by
  unfold bg
  rw[if_neg (by decide),if_pos (by simp)]
  rfl
 refine(?_:((bg ((l++[x]).map itM).length (-1)).map fun j=>[X,MO.list (((l++[x]).map itM).set j (itM y))])=_)
 refine Kh this▸?_
 simp
theorem tQ:cut ((l++[x]).map itM) none (some (-1))=l.map itM:=by
 have e:br ((l++[x]).map itM).length (-1)=l.length:=by
  unfold br
  rw[if_neg (by decide)]
  simp
 unfold cut
 simp only[Option.elim_some,Option.elim_none,e]
 simp
end
theorem kU {l:List (Int × Nat)}{c:Int}:(a8 l c).length≤l.length+1:=by
 unfold a8
 split
 ·split<;>simp
 ·simp
noncomputable abbrev imρ (counts items count:MV):Loc:=[lc "counts" counts,lc "items" items,lc "count" count]
theorem cq {X:MO}{cs:List Int}(hl:cs.length≤100000):Fn 1 (.ofString "_law_items") [ag cs] [X] (.ok (aJ (ac cs)) [X]):=by
 refine Fn.sd (k:=0) 27 (ρ:=imρ (ag cs) .undef .undef) rfl rfl rfl fun d hd=>?_
 refine SdB.cut 40 rfl ⟨Nat.zero_le _,?_⟩
 refine(?_:SdB _ _ (imρ (ag cs) (.ref 1) .undef) [X,.list []] _ _)
 refine SdB.for_ 40 rfl rfl ⟨fun r ρ σ=>∃(todo:List Int) (l:List (Int × Nat)) (c:MV),r=todo.map .int∧ρ=imρ (ag cs) (.ref 1) c∧σ=[X,.list (l.map itM)]∧todo.foldl a8 l=cs.foldl a8 []∧l.length+todo.length≤100000,
  ⟨cs,[],_,rfl,rfl,rfl,rfl,by simpa using hl⟩,?_,?_⟩
 ·rintro x r ρ σ ⟨todo,l,c0,h1,rfl,rfl,h3,h4⟩
  cases todo with
  |nil=>cases h1
  |cons c todo=>
   refine Jh (List.cons.inj h1) ?_;intro κ;subst κ;intro κ2;subst κ2
   replace h4:=List.length_cons▸h4
   have back:∀l',l'=a8 l c→∃(todo':List Int) (l:List (Int × Nat)) (c':MV),todo.map MV.int=todo'.map .int∧imρ (ag cs) (.ref 1) (.int c)=imρ (ag cs) (.ref 1) c'∧[X,MO.list (l'.map itM)]=[X,.list (l.map itM)]∧todo'.foldl a8 l=cs.foldl a8 []∧l.length+todo'.length≤100000:=fun l' e=>by
    subst e
    have:=kU (l:=l) (c:=c)
    exact JS todo _ _ rfl rfl rfl h3 (by exact (lC 0x18c4061a8083204220c081100220c061a80832102208401) h4 this)
   have grow:a8 l c=l++[(c,0)]→SdB ⟨(ah 27).2.2.names,d,1⟩ (nT (Mine.hd (bj (Mine.hd (ah 27).2.1.tail)))) (imρ (ag cs) (.ref 1) (.int c)) [X,.list (l.map itM)]
     (fun f ρ' σ'=>f= .next∧ρ'=imρ (ag cs) (.ref 1) (.int c)∧σ'=[X,.list ((a8 l c).map itM)]) noX:=fun e=>by
    refine SdB.run 40 ⟨rfl,Nat.le_of_ble_eq_true rfl,_,rfl,?_,rfl,rfl,rfl,?_⟩
    ·refine Kh (List.length_map _)▸?_;exact Nat.le_trans (Nat.le_add_right ..) (Nat.le_trans h4 (Nat.le_of_ble_eq_true rfl))
    ·refine Kh e▸?_;refine Kh List.map_append▸?_;rfl
   have fin:∀f ρ' σ',(f=MF.next∧ρ'=imρ (ag cs) (.ref 1) (.int c)∧σ'=[X,.list ((a8 l c).map itM)])→(match f with| .next=>SdB ⟨(ah 27).2.2.names,d,1⟩ [] ρ' σ' (fun f ρ' σ'=>match f with| .next=>∃(todo':List Int) (l:List (Int × Nat)) (c':MV),todo.map MV.int=todo'.map .int∧ρ'=imρ (ag cs) (.ref 1) c'∧σ'=[X,.list (l.map itM)]∧todo'.foldl a8 l=cs.foldl a8 []∧l.length+todo'.length≤100000| .ret x=>ends false [X] (.ok (.ret x,ρ') σ')=some (.ok (aJ (ac cs)) [X])) (fun c σ'=>R.ok (aJ (ac cs)) [X]= .ex c σ')| .ret x=>ends false [X] (.ok (.ret x,ρ') σ')=some (.ok (aJ (ac cs)) [X])):=by
    rintro f ρ' σ' ⟨rfl,rfl,rfl⟩
    exact SdB.skip (back _ rfl)
   refine Jl _ rfl (SdB.if_ 40 rfl ?_)
   rcases List.eq_nil_or_concat l with rfl|⟨l',x,hx⟩
   ·have g:=grow rfl
    refine Jg (fun q=>⟨Nat.zero_le _,_,lh (l:=[]),fun w=>(nomatch w),fun _=>g.mono fin fun _ _ h=>h.elim⟩) (fun q=>g.mono fin fun _ _ h=>h.elim)
   ·rcases x with ⟨a,m⟩
    replace hx:=List.concat_eq_append▸hx
    subst hx
    have hp:a8 (l'++[(a,m)]) c=if c=0∧a=0 then l'++[(0,m+1)]else l'++[(a,m)]++[(c,0)]:=by
     unfold a8
     refine Kh List.getLast?_concat▸?_;refine Kh List.dropLast_concat▸?_;rfl
    have nn:(!decide (l'++[(a,m)]=[]))=true:=by simp
    refine Jg (fun q=>⟨Nat.zero_le _,_,lh (l:=l'++[(a,m)]),fun _=>⟨itM (a,m),gq (x:=(a,m)),.int a,rfl,fun qa=>?_,fun qa=>?_⟩,fun w=>absurd (nn.symm.trans w) (by decide)⟩) (fun q=>?_)
    ·have g:SdB ⟨(ah 27).2.2.names,d,1⟩ (bj (Mine.hd (bj (Mine.hd (ah 27).2.1.tail)))) (imρ (ag cs) (.ref 1) (.int c)) [X,.list ((l'++[(a,m)]).map itM)]
       (fun f ρ' σ'=>f= .next∧ρ'=imρ (ag cs) (.ref 1) (.int c)∧σ'=[X,.list ((a8 (l'++[(a,m)]) c).map itM)]) noX:=by
      rw[hp,if_pos ⟨q,qa⟩]
      exact SdB.run 40 ⟨itM (a,m),gq (x:=(a,m)),.int m,rfl,rfl,Nat.le_of_ble_eq_true rfl,_,si (x:=(a,m)) (y:=(0,m+1)),rfl,rfl,rfl⟩
     exact g.mono fin fun _ _ h=>h.elim
    ·have qa:¬a=0:=qa
     exact(grow (hp.trans (if_neg fun w=>qa w.2))).mono fin fun _ _ h=>h.elim
    ·have q:¬c=0:=q
     exact(grow (hp.trans (if_neg fun w=>q w.1))).mono fin fun _ _ h=>h.elim
 ·rintro ρ σ ⟨todo,l,c0,h1,rfl,rfl,h3,h4⟩
  cases todo with
  |cons c todo=>cases h1
  |nil=>
   have h3:l=cs.foldl a8 []:=h3
   have hi:ac cs=eq l:=by unfold ac;refine h3▸?_;rfl
   refine Kh hi▸?_
   have af:eq l=l→ends false [X] (.ok (.ret (.ref 1),imρ (ag cs) (.ref 1) c0) [X,.list (l.map itM)])=some (.ok (aJ (eq l)) [X]):=fun e=>by rewrite[e];rfl
   rcases List.eq_nil_or_concat l with rfl|⟨l',x,hx⟩
   ·exact SdB.run 40 ⟨Nat.zero_le _,_,lh (l:=[]),fun w=>(nomatch w),fun _=>af rfl⟩
   ·rcases x with ⟨a,m⟩
    replace hx:=List.concat_eq_append▸hx
    subst hx
    have ht:eq (l'++[(a,m)])=if a=0 then l' else l'++[(a,m)]:=by
     unfold eq
     refine Kh List.getLast?_concat▸?_;refine Kh List.dropLast_concat▸?_;rfl
    have nn:(!decide (l'++[(a,m)]=[]))=true:=by simp
    refine SdB.run 40 ⟨Nat.zero_le _,_,lh (l:=l'++[(a,m)]),fun _=>⟨itM (a,m),gq (x:=(a,m)),.int a,rfl,fun qa=>?_,fun qa=>?_⟩,fun w=>absurd (nn.symm.trans w) (by decide)⟩
    ·have qa:a=0:=qa
     refine Kh ht▸?_;refine Kh (if_pos qa)▸?_
     refine(?_:ends false [X] (.ok (.ret (.list (cut ((l'++[(a,m)]).map itM) none (some (-1)))),_) _)=_)
     refine Kh tQ▸?_
     exact f6 (by simpa only[aL]using ft l')
    ·have qa:¬a=0:=qa
     exact af (by refine Kh ht▸?_;refine Kh (if_neg qa)▸?_;rfl)
end
noncomputable def pl (c:Int):Int:=if c= -1 then 1 else c
theorem gY {σ:aa}{cs:List Int}{log:Nat}(h5:5≤log)(h20:log≤20)(hl:cs.length≤100000)(hc:∀c∈cs, -1≤c)(hs:(cs.map pl).sum=((2^log:Nat):Int)):
  Fn 2 (.ofString "counts_fault") [ag cs,.int log] σ (.ok .none σ):=by
 refine Fn.sd (k:=1) 16 (ρ:=[lc "counts" (ag cs),lc "log" (.int log)]) rfl rfl rfl fun d hd=>?_
 refine SdB.cut 40 rfl ⟨fun _=>⟨fun _=>?_,fun q=>absurd (show(log:Int)≤20 by exact (lA 0xc629412c01dd28258030a0801) h20 q) q⟩,fun q=>absurd (show(5:Int)≤log by exact (lA 0xc628b004a2dd16009450004a2) h5 q) q⟩
 refine SdB.cut 40 rfl ⟨fun r acc σ'=>(∀y∈r,∃i:Int,y= .int i∧ -1≤i)∧acc=[]∧σ'=σ,⟨fun y hy=>by refine tr (List.mem_map.mp hy) ?_;intro c h κ;subst κ;exact Jl c rfl (hc c h),rfl,rfl⟩,?_,?_⟩
 ·rintro x r acc σ' ⟨g1,rfl,rfl⟩
  refine tr (g1 x (.head _)) ?_;intro i κ;subst κ;intro hi
  exact⟨_,rfl,fun q=>absurd (show i< -1 from q) (by exact (lE 0x18c6eac08801ab022006800b022) hi q),fun _=>⟨fun y hy=>g1 y (.tail _ hy),rfl,rfl⟩⟩
 ·rintro acc σ' ⟨_,rfl,rfl⟩
  refine⟨Nat.zero_le _,rfl,Nat.zero_le _,false,?_,fun q=>(nomatch q),fun _=>?_⟩
  ·refine(?_:(meq (ag []) (ag [])).map (!·)=_)
   refine Kh (mL _ _)▸?_;rfl
  refine SdB.cut 40 rfl ⟨fun r acc σ₂=>∃todo done:List Int,r=todo.map .int∧acc=(done.map pl).map .int∧cs=done++todo∧σ₂=σ',⟨cs,[],rfl,rfl,rfl,rfl⟩,?_,?_⟩
  ·rintro x r acc σ₂ ⟨todo,done,h1,rfl,h3,rfl⟩
   cases todo with
   |nil=>cases h1
   |cons c todo=>
    refine Jh (List.cons.inj h1) ?_;intro κ;subst κ;intro κ2;subst κ2
    refine⟨_,rfl,_,_,gi,show _≤d by exact (lA 0x62000845000422) hd,todo,done++[c],rfl,?_,by rewrite[h3,List.append_assoc];rfl,rfl⟩
    refine Kh List.map_append▸?_;refine Kh List.map_append▸?_;rfl
  ·rintro acc σ₂ ⟨todo,done,h1,rfl,h3,rfl⟩
   cases todo with
   |cons c todo=>cases h1
   |nil=>
    replace h3:=List.append_nil _▸h3
    subst h3
    refine⟨by simp only[List.length_map];unfold ai;exact (lA 0xc40200000518030186a020c01) hl,aI _,(.int (cs.map pl).sum,_),?_,⟨Int.natCast_nonneg _,by exact (lA 0xc53d09008358030a0801) h20,by decide⟩,fun _=>SdB.run 40 (aP rfl rfl rfl rfl),fun q=>absurd ?_ q⟩
    ·exact nS (dN _)
    ·refine(?_:(cs.map pl).sum=1*2^((log:Nat):Int).toNat)
     refine Kh hs▸?_;refine Kh (Int.toNat_natCast _)▸?_;refine Kh (Int.one_mul _)▸?_
     push_cast
     rfl
noncomputable abbrev lw (h n:Nat):MO:= .inst (.ofString "LowWriter") [lc "made" (.ref 2),lc "held" (.int h),lc "held_bits" (.int n)]
noncomputable def aS (W n:Nat):List UInt8:=(List.range n).map fun k=>UInt8.ofNat (W/256^k%256)
noncomputable abbrev wrS (X:MO)(W b:Nat)(rest:aa):aa:=X::lw (W/2^(8*(b/8))) (b%8)::.barr (aS W (b/8))::rest
theorem j9 {W n:Nat}:aS W (n+1)=aS W n++[UInt8.ofNat (W/256^n%256)]:=by
 unfold aS
 refine Kh List.range_succ▸?_;refine Kh List.map_append▸?_;rfl
theorem kW (n:Nat):(256:Nat)^n=2^(8*n):=by refine Kh (show(256:Nat)=2^8 from rfl)▸?_;rewrite[←Nat.pow_mul];rfl
theorem qQ {W v b:Nat}:aS (W+v*2^b) (b/8)=aS W (b/8):=by
 unfold aS
 refine List.map_congr_left fun k hk=>?_
 have hk:=List.mem_range.mp hk
 have e:b=8*k+8+(b-(8*k+8)):=by exact (lB 0xc488522046005020848811801408218a50208401) hk
 have:(W+v*2^b)/256^k%256=W/256^k%256:=by
  refine Kh (kW _)▸?_;refine Kh e▸?_;rewrite[Nat.pow_add];rewrite[Nat.pow_add]
  have:v*(2^(8*k)*2^8*2^(b-(8*k+8)))=v*2^(b-(8*k+8))*256*2^(8*k):=by
   refine Kh (show(256:Nat)=2^8 from rfl)▸?_
   simp only[Nat.mul_comm,Nat.mul_left_comm,Nat.mul_assoc]
  rw[this,Nat.add_mul_div_right _ _ (Nat.pow_pos (by decide)),Nat.add_mul_mod_self_right]
 refine Kh this▸?_;rfl
theorem jK {X:MO}:Fb 1 1 (.ofString "LowWriter") [] [X] (.ref 1) (wrS X 0 0 []):=by
 refine Fb.clsVc (σ:=[X]) (k:=0) 10 0 40 (ρ:=[lc "self" (.ref 1)]) rfl rfl rfl fun d hd=>?_
 exact⟨0,_,Ft.bytearray.fb,Nat.zero_le _,rfl,rfl⟩
theorem wR {h n:Nat}{x y:Int}(e1:x=h)(e2:y=n):MO.inst (.ofString "LowWriter") [lc "made" (.ref 2),lc "held" (.int x),lc "held_bits" (.int y)]=lw h n:=by subst e1 e2;rfl
theorem we {X:MO}{rest:aa}{W b v c:Nat}(hW:W<2^b)(hv:v<2^c)(hv2:v<2^64)(hb:b+c≤8000):Mtt 3 (.ofString "LowWriter") (.ofString "bits") 1 [.int v,.int c] (wrS X W b rest) .none (wrS X (W+v*2^b) (b+c) rest):=by
 refine Mtt.sd 10 1 (ρ:=[lc "self" (.ref 1),lc "value" (.int v),lc "count" (.int c)]) rfl rfl rfl rfl fun d hd=>?_
 have hvi:(v:Int)<2^c:=by
  have:((2^c:Nat):Int)=(2:Int)^c:=by push_cast;rfl
  exact this▸Int.ofNat_lt.mpr hv
 refine StB.of 40 (by rfl) ?_
 refine⟨_,_,jH (Int.natCast_nonneg v) hvi,show _≤d by exact (lA 0x310004428102200462) hd,?_⟩
 have hheld:W/2^(8*(b/8))<2^(b%8):=by
  rw[Nat.div_lt_iff_lt_mul (Nat.pow_pos (by decide)),← Nat.pow_add]
  have:b%8+8*(b/8)=b:=by exact lA 0x12004864a0400a04a40801
  refine Kh this▸?_;exact hW
 have hor:=kY (b:=v) hheld
 have hsum:W/2^(8*(b/8))+v*2^(b%8)=(W+v*2^b)/2^(8*(b/8)):=by
  have e:v*2^b=v*2^(b%8)*2^(8*(b/8)):=by
   rewrite[Nat.mul_assoc];rewrite[←Nat.pow_add]
   have:b%8+8*(b/8)=b:=by exact lA 0x12004864a0400a04a40801
   refine Kh this▸?_;rfl
  rw[e,Nat.add_mul_div_right _ _ (Nat.pow_pos (by decide))]
 replace hor:=hsum▸hor
 have hb8:b%8≤7:=by exact lA 0x81c4a40801
 refine StB.of 40 (by rfl) ?_
 refine Jg ⟨Int.natCast_nonneg _,by exact (lB 0x18a7a120106b520400c0fa00c6408401) hb,by exact (lA 0x623000000000000000068d6b0063000000000000000068c01) hv2⟩ ?_
 refine(?_:StB _ _ _ (X::MO.inst (.ofString "LowWriter") [lc "made" (.ref 2),lc "held" (.int (Builtin.bitOr ((W/2^(8*(b/8)):Nat):Int) ((v:Int)*2^(((b%8:Nat):Int)).toNat))),lc "held_bits" (.int ((b%8:Nat):Int))]::.barr (aS W (b/8))::rest) _)
 refine Kh (Int.toNat_natCast _)▸?_;refine Kh hor▸?_
 refine StB.of 40 (by rfl) ?_
 refine(?_:StB _ _ _ (X::MO.inst (.ofString "LowWriter") [lc "made" (.ref 2),lc "held" (.int (((W+v*2^b)/2^(8*(b/8)):Nat):Int)),lc "held_bits" (.int (((b%8:Nat):Int)+(c:Int)))]::.barr (aS W (b/8))::rest) _)
 rw[← qQ (v:=v),wR (h:=(W+v*2^b)/2^(8*(b/8))) (n:=b%8+c) rfl (by exact lB 0xb2c810a9020048b0856a40801)]
 generalize W+v*2^b=V
 refine StB.while_ 40 (by rfl) (fun m ρ σ=>∃i:Nat,m=(b+c)/8-i∧b/8≤i∧i≤(b+c)/8∧ρ=[lc "self" (.ref 1),lc "value" (.int v),lc "count" (.int c)]∧σ=X::lw (V/2^(8*i)) (b+c-8*i)::.barr (aS V i)::rest)
  ⟨_,b/8,rfl,Nat.le_refl _,by exact lB 0x209408810802940801,rfl,?_⟩ ?_
 ·have:b+c-8*(b/8)=b%8+c:=by exact lB 0x48810a902004a64a0400a04408401
  refine Kh this▸?_;rfl
 rintro m ρ σ ⟨i,rfl,h1,h2,rfl,rfl⟩
 refine Jg (fun q=>?_) (fun q=>?_)
 ·have q:8≤b+c-8*i:=by have:(8:Int)≤((b+c-8*i:Nat):Int):=q;exact (lC 0x31029841408810802815165308281102100502) q
  have hm:=nB (a:=V/2^(8*i)) (n:=8)
  have hm:Builtin.bitAnd ((V/2^(8*i):Nat):Int) 255=((V/2^(8*i)%2^8:Nat):Int):=hm
  have hlen:(aS V i).length<ai:=by unfold aS;refine Kh (List.length_map _)▸?_;refine Kh List.length_range▸?_;unfold ai;exact (lC 0x31888400000a31060940881080220c0fa00c6408401) hb h2
  refine StB.cut 40 (by rfl) ?_
  refine⟨rfl,rfl,_,rfl,?_,?_,hlen,?_⟩
  ·refine Kh hm▸?_;exact Int.natCast_nonneg _
  ·refine Kh hm▸?_
   have:V/2^(8*i)%2^8<2^8:=Nat.mod_lt _ (by decide)
   exact lA 0x15400435a90010c01
  refine(?_:StB _ _ _ (X::lw (V/2^(8*i)) (b+c-8*i)::MO.barr (aS V i++[(Builtin.bitAnd ((V/2^(8*i):Nat):Int) 255).toNat.toUInt8])::rest) _)
  have hmade:aS V i++[(Builtin.bitAnd ((V/2^(8*i):Nat):Int) 255).toNat.toUInt8]=aS V (i+1):=by
   refine Kh hm▸?_;refine Kh (Int.toNat_natCast _)▸?_;refine Kh j9▸?_;refine Kh (kW _)▸?_;rfl
  refine Kh hmade▸?_
  refine StB.of 40 (by rfl) ?_
  refine Jg (by decide) ?_
  refine StB.of 40 (by rfl) ?_
  refine StB.skip ⟨(b+c)/8-(i+1),by exact (lC 0x318894014a044104212902200528110410868b298014088208428141281104108401) h2 (by assumption),i+1,rfl,by exact (lB 0xc408110429408018042940801) h1,by exact (lC 0x3188250220821090220068b298014088208428141281104108401) h2 (by assumption),rfl,?_⟩
  refine congrArg (fun z=>X::z::MO.barr (aS V (i+1))::rest) (wR ?_ ?_)
  ·refine(?_:((V/2^(8*i):Nat):Int)/2^(8:Int).toNat=_)
   have:V/2^(8*(i+1))=V/2^(8*i)/2^8:=by rewrite[Nat.div_div_eq_div_mul];rewrite[←Nat.pow_add];rewrite[Nat.mul_add];rfl
   refine Kh this▸?_
   push_cast
   rfl
  ·refine(?_:((b+c-8*i:Nat):Int)-8=_)
   exact HS q
 ·have q:¬8≤b+c-8*i:=fun w=>q (show(8:Int)≤((b+c-8*i:Nat):Int) by exact (lC 0x6314594c20a0440840140a05308281102100502dd165308281102100502) q w)
  have hi:i=(b+c)/8:=by exact (lC 0xc624940882084200ee8b298014088208428141281104108401) h2 (by assumption)
  subst hi
  have he:b+c-8*((b+c)/8)=(b+c)%8:=by exact lB 0x24a408810802532502204200a04408401
  refine Kh he▸?_
  exact StB.skip (d8 rfl rfl)
theorem gC {σ:aa}{x:Nat}(h:x<256):bV σ (.ofString "bytes") [.list [.int x]]=some (.bytes [UInt8.ofNat x],σ):=by
 exact jr (is:=[(x:Int)]) (Nat.le_of_ble_eq_true rfl) rfl (eL (fun _=>x) (fun _=>h) [0])
theorem v4 {X:MO}{rest:aa}{W b:Nat}(hW:W<2^b)(hb:b≤8000):Mt 1 (.ofString "LowWriter") (.ofString "done") 1 [] (wrS X W b rest) (.ok (.bytes (ak W b)) (wrS X W b rest)):=by
 refine Mt.sd 10 7 (ρ:=[lc "self" (.ref 1),lc "rest" .undef]) rfl rfl rfl rfl fun d hd=>?_
 have hl:(aS W (b/8)).length≤1000:=by unfold aS;refine Kh (List.length_map _)▸?_;refine Kh List.length_range▸?_;exact (lA 0x621f408694080181f4018c01) hb
 have hmade:ak W b=aS W ((b+7)/8):=rfl
 have hheld:W/2^(8*(b/8))<2^(b%8):=by
  rw[Nat.div_lt_iff_lt_mul (Nat.pow_pos (by decide)),← Nat.pow_add]
  have:b%8+8*(b/8)=b:=by exact lA 0x12004864a0400a04a40801
  refine Kh this▸?_;exact hW
 have h256:2^(b%8)≤128:=Nat.pow_le_pow_right (n:=2) (by decide) (show b%8≤7 by exact lA 0x81c4a40801)
 by_cases h0:0<b%8
 ·have e:(b+7)/8=b/8+1:=by exact (lA 0x31220449408014a044388018a90200402) h0
  refine SdB.cut 40 (by rfl) ⟨fun _=>⟨Nat.le_of_ble_eq_true rfl,?_⟩,fun q=>absurd (show(0:Int)<((b%8:Nat):Int) by exact (lA 0x18c556a4080100b755a902004028a90200402) h0 q) q⟩
  refine SdB.run 40 ⟨(.bytes (aS W (b/8)),_),rfl,(.bytes [UInt8.ofNat (W/2^(8*(b/8)))],_),?_,.bytes (ak W b),?_,aP rfl rfl rfl rfl⟩
  ·exact gC (by exact (lB 0x18c450010c01810021843108401) hheld h256)
  ·refine(?_:(if(aS W (b/8)).length+1≤ai then some (MV.bytes (aS W (b/8)++[UInt8.ofNat (W/2^(8*(b/8)))]))else none)=_)
   rw[if_pos (by unfold ai;exact (lA 0x1880400000a3204400c3e810c01) hl),hmade,e,j9,kW]
   have:W/2^(8*(b/8))%256=W/2^(8*(b/8)):=Nat.mod_eq_of_lt (by exact (lB 0x18c450010c01810021843108401) hheld h256)
   refine Kh this▸?_;rfl
 ·have e:(b+7)/8=b/8:=by exact (lA 0xc492810029408871003b8a90200402) h0
  refine SdB.cut 40 (by rfl) ⟨fun q=>absurd (show 0<b%8 by have:(0:Int)<((b%8:Nat):Int):=q;exact (lA 0xc622a4080100aab520400805b8a90200402) h0 q) h0,fun _=>⟨Nat.zero_le _,?_⟩⟩
  refine SdB.run 40 ⟨(.bytes (aS W (b/8)),_),rfl,(.bytes [],_),rfl,.bytes (ak W b),?_,aP rfl rfl rfl rfl⟩
  refine(?_:(if(aS W (b/8)).length+0≤ai then some (MV.bytes (aS W (b/8)++[]))else none)=_)
  rw[if_pos (by unfold ai;exact (lA 0x1880400000a3200400c3e810c01) hl),hmade,e,List.append_nil]
section
section
variable {X:MO}{rest:aa}{W b value most:Nat}
theorem dR {v c:Nat}{y z:Int}(hy:y=v)(hz:z=c)(hW:W<2^b)(hv:v<2^c)(hv2:v<2^64)(hb:b+c≤8000):Mtt 3 (.ofString "LowWriter") (.ofString "bits") 1 [.int y,.int z] (wrS X W b rest) .none (wrS X (W+v*2^b) (b+c) rest):=by
 subst hy hz;exact we hW hv hv2 hb
noncomputable abbrev rW (value most:Int)(count spare:MV):Loc:=[lc "out" (.ref 1),lc "value" (.int value),lc "most" (.int most),lc "count" count,lc "spare" spare]
theorem iu (h:0<most)(hv:value≤most):(am value most).1<2^(am value most).2:=by
 have hp:2^most.log2≤most:=Nat.log2_self_le (by exact (lA 0x62601003100402) h)
 have hp2:most<2^(most.log2+1):=Nat.lt_log2_self
 have hs:2^(most.log2+1)=2*2^most.log2:=by refine Kh (Nat.pow_succ _ _)▸?_;refine Kh (Nat.mul_comm _ _)▸?_;rfl
 unfold am
 split
 ·refine(?_:2^(most.log2+1)-1-most+value<2^(most.log2+1))
  exact (lC 0x6311308420900128425088c210831308420843008401) hv hp2
 ·dsimp only
  split<;>(first|exact (lB 0xc44010877008401) (by assumption)|exact (lC 0x63113084208031308420843008401) hv hp2)
theorem jC (h0:0<most)(hm:most<2^30)(hv:value≤most)(hW:W<2^b)(hb:b+40≤8000):
  Ft 4 (.ofString "write_upto") [.ref 1,.int value,.int most] (wrS X W b rest) .none (wrS X (W+(am value most).1*2^b) (b+(am value most).2) rest):=by
 have hL:most.log2<30:=(Nat.log2_lt (by exact (lA 0x62601003100402) h0)).mpr hm
 have hp:2^most.log2≤most:=Nat.log2_self_le (by exact (lA 0x62601003100402) h0)
 have hp2:most<2^(most.log2+1):=Nat.lt_log2_self
 have hlt:=iu h0 hv
 have hbl:=jt h0
 unfold am at hlt ⊢
 generalize most.log2=L at *
 have hs:2^(L+1)=2*2^L:=by refine Kh (Nat.pow_succ _ _)▸?_;refine Kh (Nat.mul_comm _ _)▸?_;rfl
 have hsp:((1:Int)*2^((L+1:Nat):Int).toNat-1-(most:Int))=((2^(L+1)-1-most:Nat):Int):=by
  refine Kh (Int.toNat_natCast _)▸?_
  have:((2^(L+1):Nat):Int)=(2:Int)^(L+1):=by push_cast;rfl
  exact Bp this hp2
 have h30:2^(L+1)≤2^30:=Nat.pow_le_pow_right (by decide) (by exact (lA 0x310f088110031f0801) hL)
 refine Ft.sd (k:=3) 19 (ρ:=rW value most .undef .undef) rfl rfl rfl fun d hd=>?_
 refine StB.of 40 (by rfl) ⟨⟨rfl,rfl⟩,?_⟩
 refine(?_:StB _ _ (rW value most (.int ((eM (most:Int):Nat):Int)) .undef) (wrS X W b rest) _)
 refine Kh hbl▸?_
 refine StB.of 40 (by rfl) ⟨⟨Int.natCast_nonneg _,by exact (lA 0x629e848041ac8110031f0801) hL,by decide⟩,?_⟩
 refine(?_:StB _ _ (rW value most (.int ((L+1:Nat):Int)) (.int ((1:Int)*2^((L+1:Nat):Int).toNat-1-(most:Int)))) (wrS X W b rest) _)
 refine Kh hsp▸?_
 have hy:((L+1:Nat):Int)-1=(L:Int):=by exact lA 0x16580250896408801
 have ht:(((L+1:Nat):Int)-1).toNat=L:=by exact lA 0x12005850896408801
 have hr:((1:Int)*2^(((L+1:Nat):Int)-1).toNat)=((2^L:Nat):Int):=by rewrite[ht];push_cast;exact lE 0xb002600422
 refine StB.if_ 40 (by rfl) ⟨fun q=>?_,fun q=>?_⟩
 ·have q:value<2^(L+1)-1-most:=Int.ofNat_lt.mp q
  rw[if_neg (HM q hs hp),if_pos q]at hlt ⊢
  exact StB.cut 40 (by rfl) ⟨rfl,_,_,_,dR rfl hy hW hlt (by exact (lB 0x18c460000000000000000d1843000421884000000038c01) hm hv) (by exact (lB 0x63103e803190210063e104303e8031902810c01) hb hL),show _≤d by exact (lA 0x620008c5000462) hd,show _≤d by exact (lA 0x62000845000462) hd,StB.skip (StB.skip (d8 rfl rfl))⟩
 ·have q:¬value<2^(L+1)-1-most:=fun w=>q (Int.ofNat_lt.mpr w)
  by_cases h1:2^L≤value
  ·rw[if_pos h1]at hlt ⊢
   refine StB.cut 40 (by rfl) ⟨⟨by exact lA 0xa14225902200402,by exact (lA 0x314f424020ca112c8110031f0801) hL,by decide⟩,fun w=>absurd w ?_,fun _=>⟨rfl,_,_,_,dR (v:=2^(L+1)-1-most+value) (c:=L+1) ?_ rfl hW hlt (HL hv hp2 h30) (by exact (lB 0x31881f4018c84088210063e104303e8031902810c01) hb hL),show _≤d by exact (lA 0x620008c5000462) hd,show _≤d by exact (lA 0x62000845000462) hd,StB.skip (StB.skip (d8 rfl rfl))⟩⟩
   ·refine(?_:¬(value:Int)<1*2^(((L+1:Nat):Int)-1).toNat)
    refine Kh hr▸?_;exact (lG 0x318c6eab005610d4c00844b08601080365802600422) hr h1 w
   ·refine(?_:(value:Int)+((2^(L+1)-1-most:Nat):Int)=_)
    exact lC 0xb2c8009441284461082122ca209422308410ac01
  ·rw[if_neg h1,if_neg q]at hlt ⊢
   refine StB.cut 40 (by rfl) ⟨⟨by exact lA 0xa14225902200402,by exact (lA 0x314f424020ca112c8110031f0801) hL,by decide⟩,fun _=>⟨rfl,_,_,_,dR (v:=value) (c:=L+1) rfl rfl hW hlt (by exact (lB 0x18c460000000000000000d1843000421884000000038c01) hm hv) (by exact (lB 0x31881f4018c84088210063e104303e8031902810c01) hb hL),show _≤d by exact (lA 0x620008c5000462) hd,show _≤d by exact (lA 0x62000845000462) hd,StB.skip (StB.skip (d8 rfl rfl))⟩,fun w=>absurd ?_ w⟩
   refine(?_:(value:Int)<1*2^(((L+1:Nat):Int)-1).toNat)
   refine Kh hr▸?_;exact (lG 0x6318aac015843ba9801089610ee01080365802600422) hr h1 w
theorem qb {gs:List Nat}:∀{W b:Nat},W<2^b→(∀g∈gs,g<4)→(bC W b gs).1<2^(bC W b gs).2:=by
 induction gs with
 |nil=>intro W b h _;exact h
 |cons g gs ih=>
  intro W b h hg
  refine ih ?_ fun x hx=>hg x (.tail _ hx)
  have:=hg g (.head _)
  have e:2^(b+2)=4*2^b:=by rewrite[Nat.pow_add];refine Kh (Nat.mul_comm _ _)▸?_;rfl
  have e2:g*2^b≤3*2^b:=Nat.mul_le_mul_right _ (by exact (lA 0x62031003120801) this)
  exact (lF 0xc631110483080303042310c32304241083108401) h e e2
theorem kH {m:Nat}(hW:W<2^b)(hb:b+2*m+2≤8000):Ft 4 (.ofString "write_run") [.ref 1,.int m] (wrS X W b rest) .none (wrS X (bC W b (az 0 m)).1 (bC W b (az 0 m)).2 rest):=by
 generalize hfin:bC W b (az 0 m)=fin
 refine Ft.sd (k:=3) 20 (ρ:=[lc "out" (.ref 1),lc "count" (.int m)]) rfl rfl rfl fun d hd=>?_
 refine StB.while_ 40 (by rfl) (fun n ρ σ=>∃m' W' b':Nat,n=m'∧ρ=[lc "out" (.ref 1),lc "count" (.int m')]∧σ=wrS X W' b' rest∧W'<2^b'∧b'+2*m'+2≤8000∧bC W' b' (az 0 m')=fin) ⟨_,m,W,b,rfl,rfl,rfl,hW,hb,hfin⟩ ?_
 rintro n ρ σ ⟨m',W',b',rfl,rfl,rfl,h1,h2,h3⟩
 refine Jg (fun q=>?_) (fun q=>?_)
 ·have q:3≤n:=by have:(3:Int)≤(n:Int):=q;exact (lA 0xc400118a8b00462) q
  obtain⟨j,rfl⟩:∃j,n=j+3:=⟨n-3,by exact (lA 0x31220c45188010068b00462) (by assumption)⟩
  have e:az 0 (j+3)=3::az 0 j:=by
   unfold az
   rw[if_pos rfl,if_pos rfl,show(j+3)/3=j/3+1 by exact lA 0x12204491880148c4418801,Nat.add_mod_right j 3,List.replicate_succ]
   rfl
  replace h3:=e▸h3;rewrite[bC]at h3
  refine StB.cut 40 (by rfl) ⟨rfl,_,_,_,dR (v:=3) (c:=2) rfl rfl h1 (by decide) (by decide) (by exact (lB 0xc40fa00c641080181f4018c82110c41882110801) h2),show _≤d by exact (lA 0x620008c5000462) hd,show _≤d by exact (lA 0x62000845000462) hd,?_⟩
  refine StB.of 40 (by rfl) (StB.skip ⟨j,by exact lA 0x8906200401,j,_,_,rfl,?_,rfl,?_,by exact (lB 0x1881f4018c82110c1088441080181f4018c82110c41882110801) h2,h3⟩)
  ·refine(?_:[lc "out" (.ref 1),lc "count" (.int (((j+3:Nat):Int)-3))]=_)
   rw[show((j+3:Nat):Int)-3=(j:Int) by exact (lA 0x16580251896418801)]
  ·have e:2^(b'+2)=4*2^b':=by rewrite[Nat.pow_add];refine Kh (Nat.mul_comm _ _)▸?_;rfl
   exact (lC 0x318888243042310032304241083108401) h1 e
 ·have q:n<3:=by have:¬(3:Int)≤(n:Int):=q;exact (lA 0x1888c400ee8b00462) q
  have e:az 0 n=[n]:=by
   unfold az
   rw[if_pos rfl,show n/3=0 by exact (lA 0xc480248c400ee8b00462) (by assumption),Nat.mod_eq_of_lt (show n<3 by assumption)]
   rfl
  replace h3:=e▸h3
  subst h3
  exact StB.cut 40 (by rfl) ⟨rfl,_,_,_,dR (v:=n) (c:=2) rfl rfl h1 (by exact (lA 0x18890400ee8b00462) (by assumption)) (by exact (lA 0x311800000000000000034600ee8b00462) (by assumption)) (by exact (lB 0x1881f4018c82100303e803190422182110801) h2),show _≤d by exact (lA 0x620008c5000462) hd,show _≤d by exact (lA 0x62000845000462) hd,StB.skip (d8 rfl rfl)⟩
end
end
section
noncomputable def aR:List (Int × Nat)→Prop
 |[]=>True
 |(c,m)::r=>(c≠0→m=0)∧(c=0→∃x r',r=x::r'∧x.1≠0)∧aR r
noncomputable def tot:List (Int × Nat)→Nat
 |[]=>0
 |(c,_)::r=>c.natAbs+tot r
theorem aR.pos {l:List (Int × Nat)}(h:aR l)(hn:l≠[]):0<tot l:=by
 match l,h with
 |(c,m)::r,h=>
  by_cases hc:c=0
  ·refine Jw (h.2.1 hc) ?_;intro x r' κ;subst κ;intro hx
   rcases x with ⟨c',m'⟩
   have:c'≠0:=hx
   simp only[tot]
   exact lin 0x18c4484005610ac0100ae01043600801 [_] [_,_] (by kernel_rfl) hc hx
  ·simp only[tot];exact (lD 0xc44800ac0100b7600801) hc
noncomputable abbrev wcρ (counts log fault out symbol left count end_:MV):Loc:=[lc "counts" counts,lc "log" log,lc "fault" fault,lc "out" out,lc "symbol" symbol,lc "left" left,lc "count" count,lc "end" end_]
theorem a7 {σ:aa}{cs:List Int}{i:Nat}{c:Int}(h:cs[i]?=some c):eD σ (ag cs) (.int i)=some (.int c):=by
 have hlt:=(List.getElem?_eq_some_iff.mp h).1
 refine(?_:((bg (cs.map MV.int).length (i:Int)).bind fun j=>(cs.map MV.int)[j]?)=_)
 have:bg (cs.map MV.int).length (i:Int)=some i:=by
  unfold bg
  rw[if_pos (by exact lA 0x28b00402),if_pos (by rewrite[List.length_map];exact (lB 0x188842c5803108401) hlt)]
  rfl
 refine Kh this▸?_
 refine(?_:(cs.map MV.int)[i]?=_)
 refine Kh List.getElem?_map▸?_;refine Kh h▸?_;rfl
inductive WcJ (cs:List Int)(log k m left:Nat)(σ:aa):Nat→Loc→aa→Prop
 |mk (i:Nat) (hi:i≤m):WcJ cs log k m left σ (m-i) (wcρ (ag cs) (.int log) .none (.ref 1) (.int (k+1:Nat)) (.int left) (.int 0) (.int (k+1+i:Nat))) σ
inductive WcI (cs:List Int)(items:List (Int × Nat))(log:Nat)(F:Nat × Nat)(X:MO):Nat→Loc→aa→Prop
 |mk (done todo:List (Int × Nat)) (W b left:Nat) (x1 x2:MV) (h1:items=done++todo) (h2:aR todo) (h3:Fit todo left) (h4:tot todo=left) (h6:left≤1048576) (h7:W<2^b) (h8:aF todo W b left=F):
  WcI cs items log F X todo.length (wcρ (ag cs) (.int log) .none (.ref 1) (.int (ad done).length) (.int left) x1 x2) (wrS X W b [])
noncomputable abbrev wcB:List Stmt:=bj (hd (ah 21).2.1.tail.tail.tail.tail.tail)
section
variable {cs:List Int}{items:List (Int × Nat)}{log m left d b0:Nat}{F:Nat × Nat}{Y:MO}{Q:MF→Loc→aa→Prop}
theorem uD {W b k:Nat}{xc:Int}{x2:MV}(hx:xc≠0)(hnext:cs[k+1+m]?=some xc)(hget:∀i<m,cs[k+1+i]?=some 0)(hW:W<2^b)(hb:b+2*m+2≤8000)(hdd:4≤d)
  (hQ:Q .next (wcρ (ag cs) (.int log) .none (.ref 1) (.int (k+1+m:Nat)) (.int left) (.int 0) (.int (k+1+m:Nat))) (wrS Y (bC W b (az 0 m)).1 (bC W b (az 0 m)).2 [])):
  StB ⟨(ah 21).2.2.names,d,b0⟩ (bj (hd wcB.tail.tail.tail.tail)) (wcρ (ag cs) (.int log) .none (.ref 1) (.int (k+1:Nat)) (.int left) (.int 0) x2) (wrS Y W b []) Q:=by
 refine StB.of 40 (by rfl) ?_
 refine StB.while_ 40 (by rfl) (WcJ cs log k m left (wrS Y W b [])) ⟨_,.mk 0 (Nat.zero_le _)⟩ ?_
 rintro _ _ _ ⟨i,hi⟩
 by_cases him:i=m
 ·subst him
  refine⟨_,a7 hnext,fun z=>absurd z hx,fun _=>?_⟩
  have fr:=kH (X:=Y) (rest:=[]) (W:=W) (b:=b) (m:=i) hW hb
  have hd2:((k+1+i:Nat):Int)-((k+1:Nat):Int)=(i:Int):=by exact lB 0xb2c212ac811002b2042408801
  replace fr:=Kh hd2▸fr
  exact StB.cut 40 (by rfl) ⟨_,_,fr.fb,hdd,StB.of 40 (by rfl) (StB.skip hQ)⟩
 ·exact⟨_,a7 (hget i (by exact (lB 0x318884200ee410803008401) hi him)),fun _=>StB.of 40 (by rfl) (StB.skip ⟨m-(i+1),by exact (lB 0x63112802109481100210ee410803008401) hi him,.mk (i+1) (by exact (lB 0x18c4021204400ee410803008401) hi him)⟩),fun z=>absurd rfl z⟩
theorem uE {t W b:Nat}{done todo:List (Int × Nat)}{c:Int}{x1 x2:MV}(hcs:cs=ad items++List.replicate t 0)(hlen:cs.length≤1000)(hF:F.2+2100≤8000)(h1:items=done++(c,m)::todo)(h2:aR ((c,m)::todo))(h3:Fit ((c,m)::todo) left)(h4:tot ((c,m)::todo)=left)(h6:left≤1048576)(h7:W<2^b)(h8:aF ((c,m)::todo) W b left=F)(hd:4≤d)
  (hQ:∀ρ σ,WcI cs items log F Y todo.length ρ σ→Q .next ρ σ):
  StB ⟨(ah 21).2.2.names,d,b0⟩ wcB (wcρ (ag cs) (.int log) .none (.ref 1) (.int (ad done).length) (.int left) x1 x2) (wrS Y W b []) Q:=by
 refine Jr h2 ?_;clear h2;intro p1 p2 p3
 refine JB h3 ?_;clear h3;intro f1 f2 f3 f4
 have hrow:cs=ad done++(List.replicate (1+m) c++(ad todo++List.replicate t 0)):=by
  refine Kh hcs▸?_;refine Kh h1▸?_;refine Kh aA▸?_;rewrite[ad];rewrite[List.append_assoc];rewrite[List.append_assoc];rfl
 have hget:∀i,i≤m→cs[(ad done).length+i]?=some c:=fun i hi=>by
  rw[hrow,List.getElem?_append_right (Nat.le_add_right ..),List.getElem?_append_left (by rewrite[List.length_replicate];exact Bn hi),List.getElem?_replicate,if_pos (Bn hi)]
 have hml:m+1≤cs.length:=by rewrite[hrow];simp only[List.length_append,List.length_replicate];exact lF 0x8108418441200211042408801
 rewrite[aF]at h8
 have hm1:=fk (r:=todo) (W:=(bC (W+(am (c+1).toNat (left+1)).1*2^b) (b+(am (c+1).toNat (left+1)).2) (az c m)).1) (b:=(bC (W+(am (c+1).toNat (left+1)).1*2^b) (b+(am (c+1).toNat (left+1)).2) (az c m)).2) (left:=left-c.natAbs)
 replace hm1:=h8▸hm1
 have hm2:=eW (gs:=az c m) (W:=W+(am (c+1).toNat (left+1)).1*2^b) (b:=b+(am (c+1).toNat (left+1)).2)
 have hc:c+1=(((c+1).toNat:Nat):Int):=by exact (lE 0xc596c2044009022006800b022) f1
 have fw:=jC (X:=Y) (rest:=[]) (W:=W) (b:=b) (value:=(c+1).toNat) (most:=left+1) (by exact lA 0x8902200402) (by exact (lA 0x311080000000719022006010000028c01) h6) (by exact (lD 0xc6310204400b081100365b08110024088018002b006800b022) f1 f2 hc) h7 (by exact (lF 0x631881f4018c81408620c02120c220c00108607d00632083418c01) hF hm1 hm2)
 replace fw:=Kh hc▸fw
 have hlt:=iu (value:=(c+1).toNat) (most:=left+1) (by exact lA 0x8902200402) (HP f2)
 generalize am (c+1).toNat (left+1)=w at *
 rcases w with ⟨word,wide⟩
 dsimp only at *
 have hbw:b+wide+2100≤8000:=by exact (lF 0x631881f4018c820d06320c220c02120c220c00108607d00632083418c01) hF hm1 hm2
 have hW1:W+word*2^b<2^(b+wide):=by
  have e2:(word+1)*2^b≤2^wide*2^b:=Nat.mul_le_mul_right _ hlt
  rewrite[Nat.add_mul]at e2
  rewrite[Nat.pow_add];refine Kh (Nat.mul_comm _ _)▸?_
  exact HK e2 h7
 have hleft:(left:Int)-(if c= -1 then 1 else c)=((left-c.natAbs:Nat):Int):=by
  by_cases hz:c= -1
  ·refine Kh (if_pos hz)▸?_;exact HO hz f2
  ·refine Kh (if_neg hz)▸?_;exact HN f1 hz f2
 have htot:tot todo=left-c.natAbs:=by simp only[tot]at h4;exact (lG 0x62455802108032084800ac01) h4
 have hrl:(ad (done++[(c,m)])).length=(ad done).length+1+m:=by
  refine Kh aA▸?_;refine Kh List.length_append▸?_;rewrite[ad];rewrite[ad];refine Kh (List.append_nil _)▸?_;refine Kh List.length_replicate▸?_;exact lB 0x1220424088012102108801
 have hits:items=(done++[(c,m)])++todo:=by rewrite[h1,List.append_assoc];rfl
 have fin:∀y:MV,(bC (W+word*2^b) (b+wide) (az c m)).1<2^(bC (W+word*2^b) (b+wide) (az c m)).2→Q .next (wcρ (ag cs) (.int log) .none (.ref 1) (.int ((ad done).length+1+m:Nat)) (.int (left-c.natAbs:Nat)) (.int c) y) (wrS Y (bC (W+word*2^b) (b+wide) (az c m)).1 (bC (W+word*2^b) (b+wide) (az c m)).2 []):=fun y hy=>by
  refine hrl▸?_
  exact hQ _ _ (.mk (done++[(c,m)]) todo _ _ _ _ _ hits p3 f4 htot (by exact (lD 0x1880400000a32ac01006010000028c01) h6) hy h8)
 clear hm1 hm2 h8 hQ hc hlt hrl hits htot f4 h4
 refine StB.of 40 (by rfl) ⟨_,a7 (hget 0 (Nat.zero_le _)),?_⟩
 refine StB.cut 40 (by rfl) ⟨_,_,fw.fb,hd,?_⟩
 refine StB.of 40 (by rfl) ⟨_,_,gi,Nat.le_trans (by decide) hd,?_⟩
 refine(?_:StB _ _ (wcρ (ag cs) (.int log) .none (.ref 1) (.int (ad done).length) (.int ((left:Int)-(if c= -1 then 1 else c))) (.int c) x2) (wrS Y (W+word*2^b) (b+wide) []) _)
 refine Kh hleft▸?_
 refine StB.of 40 (by rfl) ?_
 refine StB.if_ 40 (by rfl) ⟨fun q0=>?_,fun q0=>?_⟩
 ·have q0:c=0:=q0
  subst q0
  refine Jw (p2 rfl) ?_;intro κ;rcases κ with ⟨xc,xm⟩;intro r' hx hx0
  have hnext:cs[(ad done).length+1+m]?=some xc:=by
   rw[hrow,List.getElem?_append_right (by exact lB 0x40810902200401),List.getElem?_append_right (by rewrite[List.length_replicate];exact HJ),List.length_replicate,hx,ad,show(ad done).length+1+m-(ad done).length-(1+m)=0 by exact lB 0x9004520421114012042408801,Nat.add_comm 1 xm,List.replicate_succ]
   rfl
  refine uD (k:=(ad done).length) hx0 hnext (fun i hi=>?_) hW1 (by exact (lF 0x631881f4018c82110c1088441844181f4018c820d06320c220c001204410c3e810c01) hlen hml hbw) hd ?_
  ·have:=hget (1+i) (by exact (lB 0x310084800845108401) hi)
   rwa [← Nat.add_assoc]at this
  ·refine StB.skip (fin _ (qb hW1 fun g hg=>?_))
   unfold az at hg
   replace hg:=if_pos rfl▸hg
   rcases List.mem_append.mp hg with hg|hg
   ·refine Kh ((List.mem_replicate.mp hg).2)▸?_;decide
   ·refine Kh (List.mem_singleton.mp hg)▸?_;exact lA 0x8904a18801
 ·have q0:¬c=0:=q0
  have hm0:m=0:=p1 q0
  subst hm0
  have hg:az c 0=[]:=by unfold az;refine Kh (if_neg q0)▸?_;rfl
  replace fin:=hg▸fin
  exact StB.skip (StB.skip (fin _ hW1))
end
theorem gV {X:MO}{cs:List Int}{items:List (Int × Nat)}{t log:Nat}(h5:5≤log)(h20:log≤20)(hcs:cs=ad items++List.replicate t 0)(hp:aR items)(hf:Fit items (2^log))(ht:tot items=2^log)
  (hlen:cs.length≤1000) (hb:(aF items (log-5) 4 (2^log)).2+2100≤8000) (hfault:Fn 2 (.ofString "counts_fault") [ag cs,.int log] [X] (.ok .none [X])):
  Ft 5 (.ofString "write_counts") [ag cs,.int log] [X] (.bytes (ak (aF items (log-5) 4 (2^log)).1 (aF items (log-5) 4 (2^log)).2)) [X]:=by
 have hp20:2^log≤1048576:=Nat.pow_le_pow_right (n:=2) (by decide) h20
 have e1:(log:Int)-5=((log-5:Nat):Int):=by exact (lA 0x62cb29440094a258030004a2) h5
 have e2:(1:Int)*2^((log:Nat):Int).toNat=((2^log:Nat):Int):=by rewrite[Int.toNat_natCast,Int.one_mul];push_cast;rfl
 have h16:log-5<2^4:=by refine(?_:log-5<16);exact (lA 0xc6230114a2006cb29440094a258030a0801) h20 e1
 have hb1:=dR (X:=X) (rest:=[]) (W:=0) (b:=0) (v:=log-5) (c:=4) (y:=(log:Int)-5) (z:=4) e1 rfl (by decide) h16 (by exact (lA 0x18c460000000000000000d194a2006cb29440094a258030a0801) h20 e1) (by decide)
 replace hb1:=(show 0+(log-5)*2^0=log-5 by refine Kh (Nat.zero_add _)▸?_;refine Kh (Nat.pow_zero _)▸?_;refine Kh (Nat.mul_one _)▸?_;rfl)▸hb1
 refine Ft.sd (k:=4) 21 (ρ:=wcρ (ag cs) (.int log) .undef .undef .undef .undef .undef .undef) rfl rfl rfl fun d hd=>?_
 refine StB.of 40 (by rfl) ⟨_,_,hfault,Nat.le_trans (by decide) hd,?_⟩
 refine StB.of 40 (by rfl) ⟨false,rfl,fun q=>(nomatch q),fun _=>?_⟩
 refine StB.cut 40 (by rfl) ⟨_,_,jK,Nat.le_trans (by decide) hd,?_⟩
 refine StB.cut 40 (by rfl) ⟨rfl,_,_,_,hb1,Nat.le_trans (by decide) hd,Nat.le_trans (by decide) hd,?_⟩
 refine StB.of 40 (by rfl) ⟨⟨Int.natCast_nonneg _,by exact (lA 0xc53d09008358030a0801) h20,by decide⟩,?_⟩
 refine(?_:StB _ _ (wcρ (ag cs) (.int log) .none (.ref 1) (.int 0) (.int (1*2^((log:Nat):Int).toNat)) .undef .undef) (wrS X (log-5) 4 []) _)
 refine Kh e2▸?_
 generalize hfin:aF items (log-5) 4 (2^log)=fin at *
 refine StB.while_ 40 (by rfl) (WcI cs items log fin X) ⟨_,.mk [] items (log-5) 4 (2^log) _ _ rfl hp hf ht hp20 h16 hfin⟩ ?_
 rintro _ _ _ ⟨done,todo,W,b,left,x1,x2,h1,h2,h3,h4,h6,h7,h8⟩
 cases todo with
 |cons x todo=>
  rcases x with ⟨c,m⟩
  refine Jg (fun _=>uE hcs hlen hb h1 h2 h3 h4 h6 h7 h8 hd fun ρ σ h=>⟨_,Nat.lt_succ_self _,h⟩) (fun q=>absurd (Int.ofNat_lt.mpr ?_) q)
  have:=h2.pos (fun w=>nomatch w)
  rwa [h4]at this
 |nil=>
  have h4:0=left:=h4
  subst h4
  have h8:(W,b)=fin:=h8
  subst h8
  refine Jg (fun q=>absurd q (Int.lt_irrefl _)) (fun _=>?_)
  exact StB.of 40 (by rfl) ⟨rfl,_,_,v4 h7 (show b≤8000 by have:b+2100≤8000:=hb;exact (lA 0x6207d006300607d00632083418c01) hb),Nat.le_trans (by decide) hd,Nat.le_trans (by decide) hd,f6 rfl⟩
end
noncomputable abbrev agρ (items bits row log again taken plain af fewest:MV):Loc:=[lc "items" items,lc "bits" bits,lc "row" row,lc "log" log,lc "again" again,lc "taken" taken,lc "plain" plain,lc "whole" af,lc "fewest" fewest]
theorem ia {w bits:Nat}:(w:Int)%2^((bits:Nat):Int).toNat=((w%2^bits:Nat):Int):=by rewrite[Int.toNat_natCast];push_cast;rfl
theorem da {bits:Nat}:0<(2:Int)^((bits:Nat):Int).toNat:=Int.pow_pos (by decide)
theorem fV {X:MO}{its:List (Int × Nat)}{row:List Int}{log bits:Nat}{again taken:List UInt8}(hr:row.length≤100000)(h5:5≤log)(h20:log≤20)(hb:bits≤8000)(ha:again.length≤1000000)(ht:taken.length≤1000000)
  (hfit:Fit (ac row) (2^log)) (htl:(aF (ac row) (log-5) 4 (2^log)).2≤8000)
  (h1:its=ac row→again.length=taken.length∧af again=af taken%2^bits)
  (h2:its≠ac row→(aF (ac row) (log-5) 4 (2^log)).2<bits∧af again≠af taken%2^bits%2^(aF (ac row) (log-5) 4 (2^log)).2):
  Fn 3 (.ofString "_law_again_right") [aJ its,.int bits,ag row,.int log,.bytes again,.bytes taken] [X] (.ok (.bool true) [X]):=by
 refine Fn.sd (k:=2) 34 (ρ:=agρ (aJ its) (.int bits) (ag row) (.int log) (.bytes again) (.bytes taken) .undef .undef .undef) rfl rfl rfl fun d hd=>?_
 refine SdB.cut 40 (by rfl) ⟨_,_,cq hr,show _≤d by exact (lA 0x62000845000442) hd,_,_,bN ht,show _≤d by exact (lA 0x62000845000442) hd,⟨Int.natCast_nonneg _,by exact (lA 0x629e848041ac0181f4018c01) hb,by decide⟩,da,?_⟩
 have hok:aW [aJ (ac row),.int ((af taken:Int)%2^((bits:Nat):Int).toNat)]=true:=by
  simp only[aW,dC,aL,ft,Bool.and_self]
 refine(?_:(if aW [aJ (ac row),.int ((af taken:Int)%2^((bits:Nat):Int).toNat)]&&true&&true then _ else False))
 refine Kh hok▸?_
 refine(?_:SdB _ _ (agρ (aJ its) (.int bits) (ag row) (.int log) (.bytes again) (.bytes taken) (aJ (ac row)) (.int ((af taken:Int)%2^((bits:Nat):Int).toNat)) .undef) [X] _ _)
 refine Kh ia▸?_
 generalize ac row=pl at *
 refine SdB.cut 40 (by rfl) ⟨decide (its=pl),lj its pl,fun q=>?_,fun q=>?_⟩
 ·refine Jh (h1 (of_decide_eq_true q)) fun g1 g2=>?_
  refine Jg (fun _=>⟨_,_,bN ha,show _≤d by exact (lA 0x62000845000442) hd,fun _=>aP rfl rfl rfl rfl,fun w=>absurd ?_ w⟩) (fun w=>absurd ?_ w)
  ·refine(?_:(af again:Int)=((af taken%2^bits:Nat):Int))
   refine Kh g2▸?_;rfl
  ·refine(?_:(again.length:Int)=(taken.length:Int))
   refine Kh g1▸?_;rfl
 ·refine Jh (h2 (of_decide_eq_false q)) fun g1 g2=>?_
  refine SdB.cut 40 (by rfl) ⟨_,_,b8 h5 h20 hfit htl,show _≤d by exact (lA 0x62000885000442) hd,_,rfl,?_⟩
  refine(?_:SdB _ _ (agρ (aJ its) (.int bits) (ag row) (.int log) (.bytes again) (.bytes taken) (aJ pl) (.int ((af taken%2^bits:Nat):Int)) (.int ((aF pl (log-5) 4 (2^log)).2:Nat))) [X] _ _)
  generalize (aF pl (log-5) 4 (2^log)).2=fw at *
  refine SdB.run 40 ⟨fun _=>⟨_,_,bN ha,show _≤d by exact (lA 0x62000845000442) hd,⟨Int.natCast_nonneg _,by lia,by decide⟩,da,fun w=>absurd ?_ g2,fun _=>aP rfl rfl rfl rfl⟩,fun w=>absurd ?_ w⟩
  ·have w:(af again:Int)=((af taken%2^bits:Nat):Int)%2^((fw:Nat):Int).toNat:=w
   replace w:=ia▸w
   exact Int.ofNat_inj.mp w
  ·refine(?_:(fw:Int)<(bits:Int))
   lia
noncomputable abbrev paρ (one first other second log items others k af bits shared both gap:MV):Loc:=[lc "one" one,lc "first" first,lc "other" other,lc "second" second,lc "log" log,lc "items" items,lc "others" others,lc "k" k,lc "whole" af,lc "bits" bits,lc "shared" shared,lc "both" both,lc "gap" gap]
theorem tP {l:List Int}{k:Nat}(h:k≤l.length):cut (l.map MV.int) none (some (k:Int))=(l.take k).map .int:=by
 have e:br (l.map MV.int).length (k:Int)=k:=by
  unfold br
  rw[if_pos (by exact lA 0x28b00402),Int.toNat_natCast,List.length_map]
  exact (lB 0x312004e10803008401) h
 unfold cut
 simp only[Option.elim_some,Option.elim_none,e]
 simp[List.map_take]
theorem ne_bytes {σ:aa}{a:List UInt8}:de σ .NotEq (.bytes a) (.bytes a)=some false:=by
 refine(?_:(some (a==a)).map (!·)=_)
 simp
theorem eq_bytes {σ:aa}{a:List UInt8}:de σ .Eq (.bytes a) (.bytes a)=some true:=by
 refine(?_:some (a==a)=_)
 simp
theorem SdS.tup (n:Nat)(sw:Bool){v:VC}{ρ:Loc}{σ:aa}{Q:MF→Loc→aa→Prop}{X:XP}{ts es:List PySem.Expr}{k k2:Nat}{p p2 pos:Pos}(hw:eu v.N ts es=some sw)
  (h:Mine.run n (.p v es ρ σ (fun vs σ₁=>(aW vs=true∧ts.length=vs.length∧vs.length≤ai)∧∃ρ',(if sw then au v.N ts.reverse vs.reverse ρ else au v.N ts vs ρ)=some ρ'∧Q .next ρ' σ₁))):SdS v (.Assign [.Tuple ts k p] (.Tuple es k2 p2) pos) ρ σ Q X:=by
 intro C w
 have hT:WE C ρ (.Tuple es k2 p2) σ (fun x σ₁=>OptEx (eN x) fun vs=>ts.length=vs.length∧OptEx (if sw then au v.N ts.reverse vs.reverse ρ else au v.N ts vs ρ) fun ρ'=>Q .next ρ' σ₁) X:=
  kK (WL.mono (ay n _ h C w.e) (fun _ _ q=>q) fun _ _ q=>q.elim) fun vs σ₁ q=>⟨⟨q.1.1,q.1.2.2⟩,.intro vs rfl ⟨q.1.2.1,q.2.elim fun ρ' q=>.intro ρ' q.1 q.2⟩⟩
 cases sw with
 |false=>exact gd w.e.ok rfl (kQ w.e.ok (w.e.names.symm▸hw)) hT fun x σ₁ q=>q.imp fun vs q=>w.e.names.symm▸q.2
 |true=>exact pi w.e.ok (w.e.names.symm▸hw) hT fun x σ₁ q=>q.imp fun vs q=>⟨q.1,w.e.names.symm▸q.2⟩
theorem SdB.tup (n:Nat)(sw:Bool){v:VC}{l rest:List Stmt}{ρ:Loc}{σ:aa}{Q:MF→Loc→aa→Prop}{X:XP}{ts es:List PySem.Expr}{k k2:Nat}{p p2 pos:Pos}(hl:l= .Assign [.Tuple ts k p] (.Tuple es k2 p2) pos::rest)(hw:eu v.N ts es=some sw)
  (h:Mine.run n (.p v es ρ σ (fun vs σ₁=>(aW vs=true∧ts.length=vs.length∧vs.length≤ai)∧∃ρ',(if sw then au v.N ts.reverse vs.reverse ρ else au v.N ts vs ρ)=some ρ'∧SdB v rest ρ' σ₁ Q X))):SdB v l ρ σ Q X:=hl▸SdB.cons (SdS.tup n sw hw h)
theorem StB.tup (n:Nat)(sw:Bool){v:VC}{l rest:List Stmt}{ρ:Loc}{σ:aa}{Q:MF→Loc→aa→Prop}{ts es:List PySem.Expr}{k k2:Nat}{p p2 pos:Pos}(hl:l= .Assign [.Tuple ts k p] (.Tuple es k2 p2) pos::rest)(hw:eu v.N ts es=some sw)
  (h:Mine.run n (.p v es ρ σ (fun vs σ₁=>(aW vs=true∧ts.length=vs.length∧vs.length≤ai)∧∃ρ',(if sw then au v.N ts.reverse vs.reverse ρ else au v.N ts vs ρ)=some ρ'∧StB v rest ρ' σ₁ Q))):StB v l ρ σ Q:=hl▸StB.cons fun C w=>.any (SdS.tup n sw hw h C w.s)
theorem lx {X:MO}{one other:List Int}{first second:List UInt8}{log:Nat}(hr1:one.length≤100000)(hr2:other.length≤100000)(h5:5≤log)(h20:log≤20)(hf1:first.length≤1000000)(hf2:second.length≤1000000)
  (hfit1:Fit (ac one) (2^log)) (ht1:(aF (ac one) (log-5) 4 (2^log)).2≤8000) (hfit2:Fit (ac other) (2^log)) (ht2:(aF (ac other) (log-5) 4 (2^log)).2≤8000)
  (hsec:second=ak (aF (ac other) (log-5) 4 (2^log)).1 (aF (ac other) (log-5) 4 (2^log)).2)
  (h1:ac one=ac other→first=second)
  (h2:ac one≠ac other→∃(k:Nat) (a b:Int),(∀i<k,∃c,one[i]?=some c∧other[i]?=some c)∧one[k]?=some a∧other[k]?=some b∧a≠b∧Fit (ac (one.take k)) (2^log)∧(aF (ac (one.take k)) (log-5) 4 (2^log)).2≤8000∧
   ((af first:Int)-af second).natAbs%2^(aF (ac (one.take k)) (log-5) 4 (2^log)).2=0∧
   ((af first:Int)-af second).natAbs%2^(min (aF (ac other) (log-5) 4 (2^log)).2 (aF (ac one) (log-5) 4 (2^log)).2)≠0):
  Fn 3 (.ofString "_law_parts_right") [ag one,.bytes first,ag other,.bytes second,.int log] [X] (.ok (.bool true) [X]):=by
 refine Fn.sd (k:=2) 37 (ρ:=paρ (ag one) (.bytes first) (ag other) (.bytes second) (.int log) .undef .undef .undef .undef .undef .undef .undef .undef) rfl rfl rfl fun d hd=>?_
 refine SdB.tup 40 true rfl rfl ⟨_,_,cq hr1,show _≤d by exact (lA 0x62000845000442) hd,_,_,cq hr2,show _≤d by exact (lA 0x62000845000442) hd,⟨?_,rfl,Nat.le_of_ble_eq_true rfl⟩,_,rfl,?_⟩
 ·simp only[aW,dC,aL,ft,Bool.and_self]
 refine(?_:SdB _ _ (paρ (ag one) (.bytes first) (ag other) (.bytes second) (.int log) (aJ (ac one)) (aJ (ac other)) (.int 0) .undef .undef .undef .undef .undef) [X] _ _)
 refine SdB.cut 40 (by rfl) ⟨_,_,b8 h5 h20 hfit2 ht2,show _≤d by exact (lA 0x62000885000442) hd,?_⟩
 refine(?_:SdB _ _ (paρ (ag one) (.bytes first) (ag other) (.bytes second) (.int log) (aJ (ac one)) (aJ (ac other)) (.int 0) (.int ((aF (ac other) (log-5) 4 (2^log)).1:Nat)) (.int ((aF (ac other) (log-5) 4 (2^log)).2:Nat)) .undef .undef .undef) [X] _ _)
 have t1:=b8 (σ:=[X]) h5 h20 hfit1 ht1
 generalize aF (ac other) (log-5) 4 (2^log)=T2 at *
 generalize aF (ac one) (log-5) 4 (2^log)=T1 at *
 subst hsec
 refine SdB.cut 40 (by rfl) ⟨_,_,dE ht2,show _≤d by exact (lA 0x62000845000442) hd,false,ne_bytes,fun q=>(nomatch q),fun _=>?_⟩
 refine SdB.cut 40 (by rfl) ⟨decide (ac one=ac other),lj _ _,fun q=>?_,fun q=>?_⟩
 ·have g:=h1 (of_decide_eq_true q)
  subst g
  exact⟨true,eq_bytes,fun _=>aP rfl rfl rfl rfl,fun w=>(nomatch w)⟩
 ·refine Kf (h2 (of_decide_eq_false q)) fun k a b g1 g2 g3 g4 g5 g6 g7 g8=>?_
  have hk1:=(List.getElem?_eq_some_iff.mp g2).1
  refine SdB.while_ 40 (by rfl) (fun n ρ σ=>∃i:Nat,i≤k∧n=k-i∧ρ=paρ (ag one) (.bytes first) (ag other) (.bytes (ak T2.1 T2.2)) (.int log) (aJ (ac one)) (aJ (ac other)) (.int i) (.int (T2.1:Nat)) (.int (T2.2:Nat)) .undef .undef .undef∧σ=[X]) ⟨_,0,Nat.zero_le _,rfl,rfl,rfl⟩ ?_
  rintro n ρ σ ⟨i,hi,rfl,rfl,rfl⟩
  by_cases hik:i=k
  ·subst hik
   refine⟨_,a7 g2,_,a7 g3,fun w=>absurd w g4,fun _=>?_⟩
   have f1:Fn 1 (.ofString "_law_items") [.list (cut (one.map MV.int) none (some (i:Int)))] [X] (.ok (aJ (ac (one.take i))) [X]):=by
    refine Kh (tP (Nat.le_of_lt hk1))▸?_
    exact cq (by rewrite[List.length_take];exact Nat.le_trans (Nat.min_le_right ..) hr1)
   have f2:=b8 (σ:=[X]) h5 h20 g5 g6
   generalize aF (ac (one.take i)) (log-5) 4 (2^log)=T3 at *
   refine SdB.tup 40 true rfl rfl ⟨_,_,f1,show _≤d by exact (lA 0x62000845000442) hd,_,_,f2,show _≤d by exact (lA 0x62000885000442) hd,_,rfl,_,_,t1,show _≤d by exact (lA 0x62000885000442) hd,_,rfl,⟨rfl,rfl,Nat.le_of_ble_eq_true rfl⟩,_,rfl,?_⟩
   refine SdB.cut 40 (by rfl) ⟨_,_,bN hf1,show _≤d by exact (lA 0x62000845000442) hd,_,_,bN hf2,show _≤d by exact (lA 0x62000845000442) hd,?_⟩
   have hmin:(if(T1.2:Int)<(T2.2:Int)then(T1.2:Int)else(T2.2:Int))=((min T2.2 T1.2:Nat):Int):=xa6
   refine(?_:SdB _ _ (paρ (ag one) (.bytes first) (ag other) (.bytes (ak T2.1 T2.2)) (.int log) (aJ (ac one)) (aJ (ac other)) (.int i) (.int (T2.1:Nat)) (.int (T2.2:Nat)) (.int (T3.2:Nat)) (.int (if(T1.2:Int)<(T2.2:Int)then(T1.2:Int)else(T2.2:Int))) (.int (((af first:Int)-(af (ak T2.1 T2.2):Int)).natAbs:Nat))) [X] _ _)
   refine Kh hmin▸?_
   have hm2:min T2.2 T1.2≤8000:=Nat.le_trans (Nat.min_le_left ..) ht2
   generalize min T2.2 T1.2=bo at *
   generalize ((af first:Int)-(af (ak T2.1 T2.2):Int)).natAbs=G at *
   refine SdB.run 40 ⟨⟨Int.natCast_nonneg _,by exact (lA 0x629e848041ac0181f4018c01) g6,by decide⟩,da,fun _=>⟨⟨Int.natCast_nonneg _,by exact (lA 0x629e848041ac0181f4018c01) hm2,by decide⟩,da,fun w=>absurd ?_ g8,fun _=>aP rfl rfl rfl rfl⟩,fun w=>absurd ?_ w⟩
   ·have w:(G:Int)%2^((bo:Nat):Int).toNat=0:=w
    replace w:=ia▸w
    exact Int.ofNat_inj.mp w
   ·refine(?_:(G:Int)%2^((T3.2:Nat):Int).toNat=0)
    refine Kh ia▸?_;refine Kh g7▸?_
    rfl
  ·refine tr (g1 i (by exact (lB 0x318884200ee410803008401) hi hik)) fun c c1 c2=>?_
   exact⟨_,a7 c1,_,a7 c2,fun _=>SdB.cut 40 (by rfl) (SdB.skip ⟨k-(i+1),Nat.sub_lt_sub_left (Nat.lt_of_le_of_ne hi hik) (Nat.lt_succ_self i),i+1,by exact (lB 0x18c4021204400ee410803008401) hi hik,rfl,rfl,rfl⟩),fun w=>absurd rfl w⟩
theorem mR {most:Nat}(h:0<most):2^most.log2≤most∧most<2*2^most.log2:=by
 have h1:2^most.log2≤most:=Nat.log2_self_le (by exact (lA 0x62601003100402) h)
 have h2:most<2^(most.log2+1):=Nat.lt_log2_self
 replace h2:=Nat.pow_succ _ _▸h2
 exact (lB 0x18c6626004420860108031308400843008401) h1 h2
theorem dW {W most a v:Nat}(h0:0<most)(hv:v≤most)(hw:W/2^a%2^(am v most).2=(am v most).1):av W most a=(v,(am v most).2):=by
 refine Jh (mR h0) fun l1 l2=>?_
 have hs:2^(most.log2+1)=2*2^most.log2:=by refine Kh (Nat.pow_succ _ _)▸?_;refine Kh (Nat.mul_comm _ _)▸?_;rfl
 have hm:=cC (W/2^a) most.log2
 have hx:W/2^a%2^most.log2<2^most.log2:=Nat.mod_lt _ (Nat.pow_pos (by decide))
 have hb:W/2^a/2^most.log2%2=0∨W/2^a/2^most.log2%2=1:=by exact lA 0x1a9044a108019004a10801
 unfold am at hw ⊢
 unfold av
 rw[hs]at hw ⊢
 by_cases c1:2^most.log2≤v
 ·rw[if_pos c1]at hw ⊢
  dsimp only at hw ⊢
  replace hw:=Kh hs▸(hs▸hw)
  refine hs▸?_
  generalize W/2^a%2^most.log2=x at *
  rw[hm]at hw ⊢
  rcases hb with hb|hb
  ·replace hw:=hb▸hw;exact((lF 0x18c6391004419102128c25088c210024300201083008401) c1 hw hx).elim
  ·rw[hb]at hw ⊢
   rw[if_neg (by exact (lF 0x18c6e25184a111842004419102128c25088c210024300211083008401) c1 hw),if_neg (by exact lB 0xdc4212182108801),Prod.mk.injEq]
   exact (lH 0xc6318cc88111024088819082528025088c2104243042110c3220825004a11184208486084221860208431304221003100402) h0 l2 c1 hw
 ·rw[if_neg c1]at hw ⊢
  dsimp only at hw ⊢
  by_cases c2:v<2*2^most.log2-1-most
  ·rw[if_pos c2]at hw ⊢
   refine Kh hw▸?_;refine Kh (if_pos c2)▸?_;rfl
  ·rw[if_neg c2]at hw ⊢
   refine hs▸?_
   generalize W/2^a%2^most.log2=x at *
   rw[hm]at hw ⊢
   rcases hb with hb|hb
   ·rw[hb]at hw ⊢
    rw[if_neg (xa8 hs hw c2),if_pos (by exact (lC 0x31888024300201083208486004021077008401) c1 hw),Prod.mk.injEq]
    exact (lF 0x6332204430902218642090c1080400c8412182100801) hw
   ·replace hw:=hb▸hw;exact((lC 0xc639208486004221077008401) c1 hw).elim
theorem kJ {W most a v w:Nat}(h0:0<most)(h:av W most a=(v,w)):v≤most∧am v most=(W/2^a%2^w,w):=by
 refine Jh (mR h0) fun l1 l2=>?_
 have hs:2^(most.log2+1)=2*2^most.log2:=by refine Kh (Nat.pow_succ _ _)▸?_;refine Kh (Nat.mul_comm _ _)▸?_;rfl
 have hm:=cC (W/2^a) most.log2
 have hx:W/2^a%2^most.log2<2^most.log2:=Nat.mod_lt _ (Nat.pow_pos (by decide))
 have hb:W/2^a/2^most.log2%2=0∨W/2^a/2^most.log2%2=1:=by exact lA 0x1a9044a108019004a10801
 unfold av at h
 by_cases c1:W/2^a%2^most.log2<2^(most.log2+1)-1-most
 ·replace h:=if_pos c1▸h;rewrite[Prod.mk.injEq]at h
  refine Jh h ?_;clear h;intro κ;subst κ;intro κ2;subst κ2
  refine Jg (by exact (lC 0x18c4021106200883008401) l1 hx) ?_
  unfold am
  rw[if_neg (by exact (lB 0xc6e000843108401) hx),if_pos c1]
 ·replace h:=if_neg c1▸h;rewrite[Prod.mk.injEq]at h
  refine Jh h ?_;clear h;intro h1 κ;subst κ
  rw[hm]at h1 ⊢
  generalize W/2^a%2^most.log2=x at *
  rcases hb with hb|hb
  ·rw[hb]at h1 ⊢
   rw[if_pos (by exact (lH 0x631888c2430c20104320094211031184219104108401) hm hx hb)]at h1
   subst h1
   refine Jg (by exact lin 0x18c6310084860040218640128422862008c32210230883008401 [_,_,_,_,_,_] [] (by kernel_rfl) l1 hm hx hb) ?_
   unfold am
   rw[if_neg (by exact (lH 0xc631b810c30804108c320094211031184219104108401) hm hx hb),if_neg (by exact lin 0x6318dc4a40942230843090c3080410c802508450ee25204a111842184219104108401 [_,_,_,_,_,_] [] (by kernel_rfl) hm c1 hb)]
  ·rw[hb]at h1 ⊢
   rw[if_neg (by exact lB 0xdc4212182108801)]at h1
   subst h1
   refine Jg (xa9 hs hx l2 l1) ?_
   unfold am
   rw[if_pos (by exact lin 0xc6318c40a5004a1118420848608422184219044a108a1dc4a0094223084108c322102308831304221003100402 [_,_,_,_,_,_] [] (by kernel_rfl) h0 l2 hm c1 hb),Prod.mk.injEq]
   lia
theorem agr {W W' N a n:Nat}(h:W%2^N=W'%2^N)(hn:a+n≤N):W/2^a%2^n=W'/2^a%2^n:=by
 have e:∀W:Nat,W/2^a%2^n=W%2^N%2^(a+n)/2^a:=fun W=>by
  refine Kh (Nat.mod_mod_of_dvd _ (Nat.pow_dvd_pow 2 hn))▸?_;rewrite[Nat.pow_add];rewrite[Nat.mod_mul_right_div_self];rfl
 refine Kh (e W)▸?_;refine Kh (e W')▸?_;refine Kh h▸?_;rfl
theorem lY {W W' N n:Nat}(h:W%2^N=W'%2^N)(hn:n≤N):W%2^n=W'%2^n:=by
 refine Nat.mod_mod_of_dvd W (Nat.pow_dvd_pow 2 hn)▸?_;refine Kh h▸?_;refine Kh (Nat.mod_mod_of_dvd _ (Nat.pow_dvd_pow 2 hn))▸?_;rfl
theorem iA {W W' N most a:Nat}(h:W%2^N=W'%2^N)(hw:a+(av W most a).2≤N):av W' most a=av W most a:=by
 by_cases c1:W/2^a%2^most.log2<2^(most.log2+1)-1-most
 ·have:(av W most a).2=most.log2:=by unfold av;refine Kh (if_pos c1)▸?_;rfl
  replace hw:=this▸hw
  have e:=agr h hw
  unfold av
  refine Kh (if_pos c1)▸?_;refine Kh (if_pos (e▸c1))▸?_;refine Kh e▸?_;rfl
 ·have:(av W most a).2=most.log2+1:=by unfold av;refine Kh (if_neg c1)▸?_;rfl
  replace hw:=this▸hw
  have e:=agr h hw
  have e2:=agr (a:=a) (n:=most.log2) h (by exact (lC 0xc4041204200c0412102208401) hw)
  unfold av
  refine Kh e▸?_;refine Kh e2▸?_;rfl
noncomputable def tn:List (Int × Nat)→Nat→Nat
 |[],_=>0
 |(c,m)::r,left=>(am (c+1).toNat (left+1)).2+2*(az c m).length+tn r (left-c.natAbs)
theorem bK {c:Int}{m left:Nat}{r:List (Int × Nat)}:tn ((c,m)::r) left=(am (c+1).toNat (left+1)).2+2*(az c m).length+tn r (left-c.natAbs):=rfl
noncomputable def Gr (W:Nat):Nat→List Nat→Prop
 |_,[]=>True
 |a,g::gs=>W/2^a%4=g∧Gr W (a+2) gs
noncomputable def Par (W:Nat):List (Int × Nat)→Nat→Nat→Prop
 |[],_,_=>True
 |(c,m)::r,a,left=>W/2^a%2^(am (c+1).toNat (left+1)).2=(am (c+1).toNat (left+1)).1∧Gr W (a+(am (c+1).toNat (left+1)).2) (az c m)∧Par W r (a+(am (c+1).toNat (left+1)).2+2*(az c m).length) (left-c.natAbs)
noncomputable def Cmp:List (Int × Nat)→Nat→Prop
 |[],left=>left=0
 |(c,m)::r,left=>0<left∧ -1≤c∧c.natAbs≤left∧(c≠0→m=0)∧Cmp r (left-c.natAbs)
theorem Gr.agr {W W' N:Nat}(h:W%2^N=W'%2^N):∀{gs:List Nat}{a:Nat},a+2*gs.length≤N→Gr W a gs→Gr W' a gs
 |[],_,_,_=>trivial
 |g::gs,a,hl,hg=>by
  replace hl:=List.length_cons▸hl
  exact Jg (by rewrite[← hg.1];exact(Mine.agr (n:=2) h (by exact (lC 0x62020904200602090c40882110801) hl)).symm) (Gr.agr h (by exact (lC 0x1880824304221104200602090c40882110801) hl) hg.2)
theorem Par.agr {W W' N:Nat}(h:W%2^N=W'%2^N):∀{its:List (Int × Nat)}{a left:Nat},a+tn its left≤N→Par W its a left→Par W' its a left
 |[],_,_,_,_=>trivial
 |(c,m)::r,a,left,hl,hp=>by
  replace hl:=bK▸hl
  exact Jn (by rewrite[← hp.1];exact(Mine.agr h (by exact (lH 0x310204810803020484184861044208401) hl)).symm) (Gr.agr h (by exact (lH 0xc408121841108810803020484184861044208401) hl) hp.2.1) (Par.agr h (by exact (lH 0x62040906121841108810803020484184861044208401) hl) hp.2.2)
theorem iQ {W a n:Nat}:W%2^a+W/2^a%2^n*2^a=W%2^(a+n):=by
 rewrite[Nat.pow_add];refine Kh Nat.mod_mul▸?_;refine Kh (Nat.mul_comm (2^a) _)▸?_;rfl
theorem p9 {W:Nat}:∀{gs:List Nat}{a:Nat},Gr W a gs→bC (W%2^a) a gs=(W%2^(a+2*gs.length),a+2*gs.length)
 |[],a,_=>rfl
 |g::gs,a,h=>by
  have:=p9 h.2
  rewrite[bC];refine h.1▸?_;refine Kh (show W%2^a+W/2^a%4*2^a=W%2^(a+2)from iQ (n:=2))▸?_;refine Kh this▸?_;refine Kh List.length_cons▸?_
  rw[show a+2+2*gs.length=a+2*(gs.length+1) by exact (lB 0x48862044108840090c10884410801)]
theorem pj {W:Nat}:∀{its:List (Int × Nat)}{a left:Nat},Par W its a left→aF its (W%2^a) a left=(W%2^(a+tn its left),a+tn its left)
 |[],a,left,_=>rfl
 |(c,m)::r,a,left,h=>by
  unfold aF
  have h1:=h.1
  refine Kh (show(am (c+1).toNat (left+1)).1=W/2^a%2^(am (c+1).toNat (left+1)).2 from h1.symm)▸?_;refine Kh iQ▸?_;refine Kh (p9 h.2.1)▸?_;refine Kh (pj h.2.2)▸?_
  rw[bK,show a+(am (c+1).toNat (left+1)).2+2*(az c m).length+tn r (left-c.natAbs)=a+((am (c+1).toNat (left+1)).2+2*(az c m).length+tn r (left-c.natAbs)) by exact (lF 0x1221061218411082100483090c20884408401)]
theorem eX:∀{gs:List Nat}{V b:Nat},(bC V b gs).1%2^b=V%2^b∧(bC V b gs).2=b+2*gs.length
 |[],V,b=>⟨rfl,rfl⟩
 |g::gs,V,b=>by
  refine Jh (eX (gs:=gs) (V:=V+g*2^b) (b:=b+2)) fun h1 h2=>?_
  refine Jg ?_ (by rewrite[bC,h2,List.length_cons];exact lB 0x48862044108840090c10884410801)
  have:=lY h1 (show b≤b+2 by exact lA 0x8104200401)
  rewrite[bC];refine Kh this▸?_;rewrite[Nat.add_mul_mod_self_right];rfl
theorem qc:∀{gs:List Nat}{V b:Nat},V<2^b→(∀g∈gs,g<4)→Gr (bC V b gs).1 b gs
 |[],V,b,_,_=>trivial
 |g::gs,V,b,hV,hg=>by
  have hg0:=hg g (List.mem_cons_self ..)
  have hp:2^(b+2)=2^b*4:=by rewrite[Nat.pow_add];rfl
  have hlt:V+g*2^b<2^(b+2):=by rewrite[hp];have:=Nat.mul_le_mul_right (2^b) (show g≤3 by exact (lA 0x62031003120801) hg0);exact (lC 0x318898820848208030304231083108401) hV this
  have h1:=(eX (gs:=gs) (V:=V+g*2^b) (b:=b+2)).1
  refine Jg ?_ (qc hlt fun x hx=>hg x (List.mem_cons_of_mem _ hx))
  rw[bC,show(4:Nat)=2^2 from rfl,Mine.agr (n:=2) h1 (by exact lA 0x40821002410801),Nat.add_mul_div_right _ _ (Nat.pow_pos (by decide)),Nat.div_eq_of_lt hV,Nat.zero_add]
  exact Nat.mod_eq_of_lt hg0
theorem ge:∀{its:List (Int × Nat)}{V b left:Nat},(aF its V b left).1%2^b=V%2^b∧(aF its V b left).2=b+tn its left
 |[],V,b,left=>⟨rfl,rfl⟩
 |(c,m)::r,V,b,left=>by
  unfold aF
  refine Jh (eX (gs:=az c m) (V:=V+(am (c+1).toNat (left+1)).1*2^b) (b:=b+(am (c+1).toNat (left+1)).2)) fun k1 k2=>?_
  generalize hA:bC (V+(am (c+1).toNat (left+1)).1*2^b) (b+(am (c+1).toNat (left+1)).2) (az c m)=A at *
  refine Jh (ge (its:=r) (V:=A.1) (b:=A.2) (left:=left-c.natAbs)) fun h1 h2=>?_
  refine Jg ?_ (by rewrite[h2,k2,bK];exact lF 0x1221061218411082100483090c20884408401)
  rw[lY h1 (show b≤A.2 by exact (lF 0xc40010864430c221104108401) k2),lY (n:=b) k1 (by exact lB 0x8102100401),Nat.add_mul_mod_self_right]
theorem y3 {c:Int}{m:Nat}:∀g∈az c m,g<4:=by
 intro g hg
 unfold az at hg
 split at hg
 ·rcases List.mem_append.mp hg with h|h
  ·refine Kh ((List.mem_replicate.mp h).2)▸?_;decide
  ·refine Kh (List.mem_singleton.mp h)▸?_;exact lA 0x8904a18801
 ·cases hg
theorem mf:∀{its:List (Int × Nat)}{V b left:Nat},V<2^b→Fit its left→Par (aF its V b left).1 its b left∧(aF its V b left).1<2^(aF its V b left).2
 |[],V,b,left,hV,_=>⟨trivial,hV⟩
 |(c,m)::r,V,b,left,hV,hf=>by
  refine JB hf ?_;clear hf;intro f1 f2 f3 f4
  have hw:(am (c+1).toNat (left+1)).1<2^(am (c+1).toNat (left+1)).2:=iu (by exact lA 0x8902200402) (by exact (lD 0x3188102200584088018002b006800b022) f1 f2)
  have hV2:V+(am (c+1).toNat (left+1)).1*2^b<2^(b+(am (c+1).toNat (left+1)).2):=by
   rewrite[Nat.pow_add]
   have:=Nat.mul_le_mul_right (2^b) (show(am (c+1).toNat (left+1)).1+1≤2^(am (c+1).toNat (left+1)).2 from hw)
   rewrite[Nat.add_mul]at this;replace this:=Nat.one_mul _▸this;replace this:=Nat.mul_comm (2^(am (c+1).toNat (left+1)).2) _▸this
   exact (lF 0x63111848208030184810883108401) hV this
  have g1:=qc hV2 (y3 (c:=c) (m:=m))
  have g2:=qb hV2 (y3 (c:=c) (m:=m))
  refine Jh (eX (gs:=az c m) (V:=V+(am (c+1).toNat (left+1)).1*2^b) (b:=b+(am (c+1).toNat (left+1)).2)) fun k1 k2=>?_
  unfold aF
  generalize hA:bC (V+(am (c+1).toNat (left+1)).1*2^b) (b+(am (c+1).toNat (left+1)).2) (az c m)=A at *
  refine Jh (mf (its:=r) (left:=left-c.natAbs) g2 f4) fun p1 p2=>?_
  have kk:=(ge (its:=r) (V:=A.1) (b:=A.2) (left:=left-c.natAbs)).1
  refine Jg ⟨?_,?_,?_⟩ p2
  ·rw[agr (lY kk (show b+(am (c+1).toNat (left+1)).2≤A.2 by exact (lF 0x6200090410864430c221104108401) k2)) (Nat.le_refl _),agr k1 (Nat.le_refl _),Nat.add_mul_div_right _ _ (Nat.pow_pos (by decide)),Nat.div_eq_of_lt hV,Nat.zero_add,Nat.mod_eq_of_lt hw]
  ·exact Gr.agr kk.symm (by exact (lF 0x188002430c22110410864430c221104108401) k2) g1
  ·rw[show b+(am (c+1).toNat (left+1)).2+2*(az c m).length=A.2 by exact (lF 0x189002430c22110410864430c221104108401) k2]
   exact p1
theorem eI {m:Nat}(h:3≤m):az 0 m=3::az 0 (m-3):=by
 unfold az
 rw[if_pos rfl,if_pos rfl,show m/3=(m-3)/3+1 by exact (lA 0x62440892311462005231003000462) h,List.replicate_succ,show m%3=(m-3)%3 by lia]
 rfl
theorem cK {m:Nat}(h:m<3):az 0 m=[m]:=by
 unfold az
 rw[if_pos rfl,show m/3=0 by exact (lA 0x312009231003118801) h,show m%3=m by lia]
 rfl
theorem eR {c:Int}{m:Nat}(h:c≠0):az c m=[]:=by unfold az;refine Kh (if_neg h)▸?_;rfl
theorem AW {W:Nat}:∀{m m' a:Nat},Gr W a (az 0 m)→Gr W a (az 0 m')→m=m':=by
 intro m
 induction m using Nat.strongRecOn with
 |_ m ih=>
  intro m' a h h'
  by_cases c:3≤m
  ·replace h:=eI c▸h
   by_cases c':3≤m'
   ·replace h':=eI c'▸h'
    have:=ih (m-3) (by exact (lA 0x311004a31003000462) c) h.2 h'.2
    exact (lB 0x18c62410803228c41094620060108c5000462) c c' this
   ·rw[cK (by exact (lA 0xc44620077000462) c')]at h'
    have h1:=h.1
    have h2:=h'.1
    exact (lC 0x318c4801106400a88208643128820877000462) c' h1 h2
  ·rw[cK (by exact (lA 0xc44620077000462) c)]at h
   by_cases c':3≤m'
   ·replace h':=eI c'▸h'
    have h1:=h.1
    have h2:=h'.1
    exact (lC 0x318c48410064312882086400a8820877000462) c h1 h2
   ·rw[cK (by exact (lA 0xc44620077000462) c')]at h'
    have h1:=h.1
    have h2:=h'.1
    exact (lC 0x6312104219082a208019042a20801) h1 h2
theorem hU {W:Nat}:∀{its its':List (Int × Nat)}{a left:Nat},Cmp its left→Cmp its' left→Par W its a left→Par W its' a left→its=its'
 |[],[],_,_,_,_,_,_=>rfl
 |[],(c,m)::r,_,left,h,h',_,_=>absurd h'.1 (by have:left=0:=h;exact (lA 0xc6e200805200801) this)
 |(c,m)::r,[],_,left,h,h',_,_=>absurd h.1 (by have:left=0:=h';exact (lA 0xc6e200805200801) this)
 |(c,m)::r,(c',m')::r',a,left,h,h',p,p'=>by
  refine JF h ?_;clear h;intro l0 c1 c2 c3 c4
  refine JF h' ?_;clear h';intro _ d1 d2 d3 d4
  have u:=dW (show 0<left+1 by exact lA 0x8902200402) (show(c+1).toNat≤left+1 by exact (lD 0xc6310204400b08110030005600d0016045100402) l0 c1 c2) p.1
  have u':=dW (show 0<left+1 by exact lA 0x8902200402) (show(c'+1).toNat≤left+1 by exact (lD 0xc6310204400b08110030005600d0016045100402) l0 d1 d2) p'.1
  replace u:=u'▸u;rewrite[Prod.mk.injEq]at u
  have hc:c=c':=by exact lin 0x6318b04200e64108032610220058408821a042c08a800b022 [_,_] [_,_] (by kernel_rfl) c1 d1 u
  subst hc
  have hm:m=m':=by
   by_cases c0:c=0
   ·subst c0;exact AW p.2.1 p'.2.1
   ·refine Kh (c3 c0)▸?_;refine Kh (d3 c0)▸?_;rfl
  subst hm
  refine Kh (hU c4 d4 p.2.2 p'.2.2)▸?_;rfl
theorem so {W N most:Nat}:∀{m f a fd:Nat},Gr W a (az 0 m)→(az 0 m).length≤f→a+2*(az 0 m).length≤N→
  (fd+m≤most→bS W N most f a fd= .ok (fd+m) (a+2*(az 0 m).length))∧(most<fd+m→∃e,bS W N most f a fd= .table e):=by
 intro m
 induction m using Nat.strongRecOn with
 |_ m ih=>
  intro f a fd hg hf hN
  by_cases c:3≤m
  ·rw[eI c]at hg hf hN ⊢
   rw[List.length_cons]at hf hN ⊢
   refine Jf (Nat.exists_eq_add_of_lt (show 0<f by exact (lB 0x311084028042408801) hf)) ?_;intro f κ;subst κ
   refine Jh (ih (m-3) (by exact (lA 0x311004a31003000462) c) (f:=0+f) (fd:=fd+3) hg.2 (by exact (lB 0x62040840200604088810804408801) hf) (by exact (lC 0x1880824304221104200602090c40882110801) hN)) fun i1 i2=>?_
   have h4:W/2^a%2^2=3:=hg.1
   unfold bS
   rw[if_neg (by exact (lC 0xc6e241080110602090c40882110801) hN),h4]
   refine Jg (fun h=>?_) (fun h=>?_)
   ·rw[if_neg (by exact (lC 0xc637120c4108830104800843000462) c h),if_pos rfl,i1 (by lia),show fd+3+(m-3)=fd+m by exact (lB 0x62440042121462004831043000462) c,show a+2+2*(az 0 (m-3)).length=a+2*((az 0 (m-3)).length+1) by exact (lB 0x48862044108840090c10884410801)]
   ·by_cases h3:most<fd+3
    ·exact Jo _ (if_pos h3)
    ·refine Kh (if_neg h3)▸?_;refine Kh (if_pos rfl)▸?_
     exact i2 (by exact (lC 0x18c44851884120c410803b89062084018904108401) h h3)
  ·rw[cK (by exact (lA 0xc44620077000462) c)]at hg hf hN ⊢
   rw[List.length_singleton]at hf hN ⊢
   refine Jf (Nat.exists_eq_add_of_lt (show 0<f by exact (lA 0x62200805000422) hf)) ?_;intro f κ;subst κ
   have h4:W/2^a%2^2=m:=hg.1
   unfold bS
   rw[if_neg (by exact (lB 0x18dc482100210c0212182210801) hN),h4]
   refine Jg (fun h=>?_) (fun h=>?_)
   ·rw[if_neg (by exact (lC 0x31b89021004418082408401) h),if_neg (by exact (lA 0x18dc8620077000462) c)]
   ·exact Jo _ (if_pos h)
theorem qD {W N most:Nat}:∀{m f a fd:Nat},Gr W a (az 0 m)→N<a+2*(az 0 m).length→fd+m≤most→∃e,bS W N most f a fd= .cut e:=by
 intro m
 induction m using Nat.strongRecOn with
 |_ m ih=>
  intro f a fd hg hN hm
  cases f with
  |zero=>exact Jo _ rfl
  |succ f=>
   unfold bS
   by_cases h2:N<a+2
   ·exact Jo _ (if_pos h2)
   ·refine Kh (if_neg h2)▸?_
    by_cases c:3≤m
    ·rw[eI c]at hg hN
     replace hN:=List.length_cons▸hN
     have h4:W/2^a%2^2=3:=hg.1
     rw[h4,if_neg (by exact (lC 0xc637120c4008830084628082408401) hm c),if_pos rfl]
     exact ih (m-3) (by exact (lA 0x311004a31003000462) c) hg.2 (by exact (lC 0x18890c2088441082100624310221044208401) hN) (by exact (lC 0x18c4041214620848310030084628082408401) hm c)
    ·rw[cK (by exact (lA 0xc44620077000462) c),List.length_singleton]at hN
     exact((lB 0x631cdc482104200c4860884208401) hN h2).elim
theorem vi {W W' N most:Nat}(h:W%2^N=W'%2^N):∀{f a fd:Nat},bS W N most f a fd=bS W' N most f a fd:=by
 intro f
 induction f with
 |zero=>intro a fd;rfl
 |succ f ih=>
  intro a fd
  unfold bS
  by_cases h2:N<a+2
  ·refine Kh (if_pos h2)▸?_;refine Kh (if_pos h2)▸?_;rfl
  ·rw[if_neg h2,if_neg h2,agr (n:=2) h (by exact (lB 0x310004821043b8904208401) h2),ih]
theorem pt {W N most:Nat}:∀{f a fd x e:Nat},bS W N most f a fd= .ok x e→∃m,x=fd+m∧Gr W a (az 0 m)∧e=a+2*(az 0 m).length∧e≤N∧x≤most:=by
 intro f
 induction f with
 |zero=>intro a fd x e h;cases h
 |succ f ih=>
  intro a fd x e h
  unfold bS at h
  by_cases h2:N<a+2
  ·replace h:=if_pos h2▸h;cases h
  ·replace h:=if_neg h2▸h
   by_cases h3:most<fd+W/2^a%2^2
   ·replace h:=if_pos h3▸h;cases h
   ·replace h:=if_neg h3▸h
    by_cases h4:W/2^a%2^2=3
    ·replace h:=if_pos h4▸h
     refine JH (ih h) ?_;intro m κ;subst κ;intro g κ2;subst κ2;intro i1 i2
     refine JP (m+3) (by exact lB 0x1221062084012042418801) ?_ ?_ i1 i2
     ·rw[eI (m:=m+3) (by exact lA 0x8106200462),Nat.add_sub_cancel]
      exact Jg h4 g
     ·rw[eI (m:=m+3) (by exact lA 0x8106200462),Nat.add_sub_cancel,List.length_cons]
      exact lB 0x48862044108840090c10884410801
    ·replace h:=if_neg h4▸h
     cases h
     have hl:W/2^a%2^2<4:=Nat.mod_lt _ (by decide)
     refine JP (W/2^a%2^2) rfl ?_ ?_ (by exact (lB 0x310004821043b8904208401) h2) (by exact (lC 0xc40012288210421dc48a2084108401) h3)
     ·rw[cK (by exact (lA 0x63111894410031209441003b90c4a20801) h4 hl)];exact Jg rfl trivial
     ·rw[cK (by exact (lA 0x63111894410031209441003b90c4a20801) h4 hl)];rfl
theorem vf {W W' N N' most:Nat}(h:W%2^N=W'%2^N)(hN:N≤N'):∀{f f' a fd:Nat},f≤f'→(∀e,bS W N most f a fd≠.cut e)→bS W' N' most f' a fd=bS W N most f a fd:=by
 intro f
 induction f with
 |zero=>intro f' a fd _ hc;exact absurd rfl (hc a)
 |succ f ih=>
  intro f' a fd hf hc
  refine Jf (Nat.exists_eq_add_of_lt (show 0<f' by exact (lB 0x311084028042408801) hf)) ?_;intro f' κ;subst κ
  rw[Nat.zero_add]at hf ⊢
  unfold bS at hc ⊢
  by_cases h2:N<a+2
  ·replace hc:=if_pos h2▸hc;exact absurd rfl (hc a)
  ·rw[if_neg h2]at hc ⊢
   rw[if_neg (by exact (lC 0x18c6e241084108771208420803008401) hN h2),← agr (a:=a) (n:=2) h (by exact (lB 0x310004821043b8904208401) h2)]
   by_cases h3:most<fd+W/2^a%2^2
   ·refine Kh (if_pos h3)▸?_;refine Kh (if_pos h3)▸?_;rfl
   ·rw[if_neg h3]at hc ⊢
    refine Kh (if_neg h3)▸?_
    by_cases h4:W/2^a%2^2=3
    ·rw[if_pos h4]at hc ⊢
     refine Kh (if_pos h4)▸?_
     exact ih (by exact (lB 0x18804200c0811042408801) hf) hc
    ·refine Kh (if_neg h4)▸?_;refine Kh (if_neg h4)▸?_;rfl
theorem vg {W N most:Nat}(hN:2*N≤most):∀{f a fd:Nat},fd≤2*a→∀e,bS W N most f a fd≠.table e:=by
 intro f
 induction f with
 |zero=>intro a fd _ e h;cases h
 |succ f ih=>
  intro a fd hfd e h
  have hl:W/2^a%2^2<4:=Nat.mod_lt _ (by decide)
  unfold bS at h
  by_cases h2:N<a+2
  ·replace h:=if_pos h2▸h;cases h
  ·rw[if_neg h2,if_neg (by exact (lH 0x18c631b89144110220843b89042184018904a2088181861108418042600442) hN hfd hl h2)]at h
   by_cases h4:W/2^a%2^2=3
   ·replace h:=if_pos h4▸h
    exact ih (by exact (lB 0x62062084108844188018182110801) hfd) e h
   ·replace h:=if_neg h4▸h;cases h
inductive Rd where
 |ok (cs:List Int) (e:Nat)
 |table
 |cut
noncomputable def rdG (W N:Nat)(ms:Int):Nat→Nat→Nat→List Int→Rd
 |0,_,_,_=>.cut
 |f+1,a,left,cs=>
  if left=0 then .ok cs a
  else if ms<cs.length then .table
  else if N<a+(av W (left+1) a).2 then .cut
  else if(av W (left+1) a).1=1 then
   match bS W N ms.toNat (N+1) (a+(av W (left+1) a).2) 0 with
   | .ok m a2=>rdG W N ms f a2 left (cs++[0]++List.replicate m 0)
   | .cut _=>.cut
   | .table _=>.table
  else rdG W N ms f (a+(av W (left+1) a).2) (left-(((av W (left+1) a).1:Int)-1).natAbs) (cs++[((av W (left+1) a).1:Int)-1])
noncomputable def rdK:RdO→Rd
 | .ok cs a=>.ok cs a
 | .ex c _=>if c= .ofString "BadTable" then .table else .cut
theorem g9 {σ:aa}:rdK (.ex (.ofString "CutShort") σ)= .cut:=by
 refine(?_:(if Str.ofString "CutShort"=Str.ofString "BadTable" then Rd.table else Rd.cut)=_)
 exact if_neg (by decide)
theorem BJ {D:List UInt8}{X:MO}{ms:Int}:∀{f a left:Nat}{cs:List Int},rdK (rdF D X ms f a left cs)=rdG (af D) (8*D.length) ms f a left cs:=by
 intro f
 induction f with
 |zero=>intro a left cs;exact g9
 |succ f ih=>
  intro a left cs
  unfold rdF rdG
  by_cases h1:left=0
  ·refine Kh (if_pos h1)▸?_;refine Kh (if_pos h1)▸?_;rfl
  ·refine Kh (if_neg h1)▸?_;refine Kh (if_neg h1)▸?_
   by_cases h2:ms<cs.length
   ·refine Kh (if_pos h2)▸?_;refine Kh (if_pos h2)▸?_;rfl
   ·refine Kh (if_neg h2)▸?_;refine Kh (if_neg h2)▸?_
    by_cases h3:8*D.length<a+(av (af D) (left+1) a).2
    ·refine Kh (if_pos h3)▸?_;refine Kh (if_pos h3)▸?_;exact g9
    ·refine Kh (if_neg h3)▸?_;refine Kh (if_neg h3)▸?_
     by_cases h4:(av (af D) (left+1) a).1=1
     ·refine Kh (if_pos h4)▸?_;refine Kh (if_pos h4)▸?_
      cases bS (af D) (8*D.length) ms.toNat (8*D.length+1) (a+(av (af D) (left+1) a).2) 0 with
      |ok m a2=>exact ih
      |cut a2=>exact g9
      |table a2=>rfl
     ·refine Kh (if_neg h4)▸?_;refine Kh (if_neg h4)▸?_;exact ih
noncomputable def aQ (W N:Nat)(lg ms:Int):Rd:=
 if N<4 then .cut else if lg<((W%16+5:Nat):Int)then .table else rdG W N ms (N+1) 4 (2^(W%16+5)) []
theorem sA {D:List UInt8}{X:MO}{lg ms:Int}:rdK (fM D X lg ms)=aQ (af D) (8*D.length) lg ms:=by
 unfold fM aQ fe
 by_cases h:8*D.length<4
 ·refine Kh (if_pos h)▸?_;refine Kh (if_pos h)▸?_;exact g9
 ·refine Kh (if_neg h)▸?_;refine Kh (if_neg h)▸?_
  by_cases h2:lg<((af D%16+5:Nat):Int)
  ·refine Kh (if_pos h2)▸?_;refine Kh (if_pos h2)▸?_;rfl
  ·refine Kh (if_neg h2)▸?_;refine Kh (if_neg h2)▸?_;exact BJ
theorem iI {m:Nat}{r:List (Int × Nat)}{cs:List Int}{c:Int}(h:c=0):cs++ad ((c,m)::r)=cs++[0]++List.replicate m 0++ad r:=by
 subst h
 rewrite[ad];refine Kh (Nat.add_comm _ _)▸?_;refine Kh List.replicate_succ▸?_
 simp
theorem iJ {m:Nat}{r:List (Int × Nat)}{cs:List Int}{c:Int}(h:m=0):cs++ad ((c,m)::r)=cs++[c]++ad r:=by
 subst h
 rewrite[ad]
 simp
theorem gg {x:Int × Nat}{r:List (Int × Nat)}:0<(ad (x::r)).length:=by
 rcases x with ⟨c,m⟩
 rewrite[ad];refine Kh List.length_append▸?_;refine Kh List.length_replicate▸?_
 exact lB 0x44810900108802
theorem fN {W W' N:Nat}{ms:Int}(h:W%2^N=W'%2^N):∀{its:List (Int × Nat)}{f a left:Nat}{cs:List Int},Cmp its left→Par W its a left→a≤N→N-a<f→
  (a+tn its left≤N→((cs++ad its).length:Int)≤ms+1→rdG W' N ms f a left cs= .ok (cs++ad its) (a+tn its left))∧
  (a+tn its left≤N→ms+1<((cs++ad its).length:Int)→its≠[]→rdG W' N ms f a left cs= .table)∧
  (N<a+tn its left→((cs++ad its).length:Int)≤ms+1→rdG W' N ms f a left cs= .cut)
 |[],f,a,left,cs,hc,_,ha,hf=>by
  have hc:left=0:=hc
  subst hc
  refine Jf (Nat.exists_eq_add_of_lt (show 0<f by exact (lC 0x311104028882508401) hf)) ?_;intro f κ;subst κ
  refine Jn (fun _ _=>?_) (fun _ _ q=>absurd rfl q) (fun q=>absurd ha (Nat.not_le.mpr q))
  unfold rdG
  refine Kh (if_pos rfl)▸?_;refine Kh (show ad []=[]from rfl)▸?_;refine Kh (List.append_nil _)▸?_
  rfl
 |(c,m)::r,f,a,left,cs,hc,hp,ha,hf=>by
  refine JF hc ?_;clear hc;intro l0 c1 c2 c3 c4
  refine Jf (Nat.exists_eq_add_of_lt (show 0<f by exact (lC 0x311104028882508401) hf)) ?_;intro f κ;subst κ
  rw[Nat.zero_add]at hf ⊢
  have u:=dW (show 0<left+1 by exact lA 0x8902200402) (show(c+1).toNat≤left+1 by exact (lD 0xc6310204400b08110030005600d0016045100402) l0 c1 c2) hp.1
  have w1:=kO (W:=W) (a:=a) (show 2≤left+1 by exact (lA 0x310204400885100402) l0)
  have uw:(av W (left+1) a).2=(am (c+1).toNat (left+1)).2:=by refine Kh u▸?_;rfl
  refine Kh bK▸?_
  unfold rdG
  rw[if_neg (by exact (lA 0xc6e401003100402) l0)]
  have hlen:cs.length+1≤(cs++ad ((c,m)::r)).length:=by rewrite[List.length_append];have:=gg (x:=(c,m)) (r:=r);exact (lB 0x1881001084811043100402) this
  by_cases h2:ms<cs.length
  ·refine Kh (if_pos h2)▸?_
   exact Jn (fun _ q=>absurd h2 (by exact (lG 0x18c6375580200d0811002b086ab004018042408801) hlen h2 q)) (fun _ _ _=>rfl) (fun _ q=>absurd h2 (HH hlen q))
  refine Kh (if_neg h2)▸?_
  by_cases h3:N<a+(av W (left+1) a).2
  ·have:N<a+(av W' (left+1) a).2:=by
    rcases Nat.lt_or_ge N (a+(av W' (left+1) a).2)with q|q
    ·exact q
    ·have:=iA h.symm q
     replace h3:=this▸h3
     exact h3
   refine Kh (if_pos this)▸?_
   exact Jn (fun q _=>by lia) (fun q _ _=>by lia) (fun _ _=>rfl)
  have uu:=iA h (show a+(av W (left+1) a).2≤N by exact (lC 0x310004820843b8904108401) h3)
  refine Kh uu▸?_;refine Kh (if_neg h3)▸?_;refine Kh u▸?_
  rw[uw]at h3 w1
  dsimp only
  by_cases c0:c=0
  ·rw[if_pos (by exact (lE 0x6241130811003600801) c0),← vi h]
   have hl0:left-c.natAbs=left:=by exact (lD 0x31890025580200d802006000ac01) c2 c0
   replace c4:=hl0▸c4
   have hp2:=hp.2.2
   rw[hl0]at hp2 ⊢
   have hg:=hp.2.1
   have hr:r≠[]:=by
    intro q
    subst q
    have:left=0:=c4
    exact (lA 0x18c72401003100402) l0 this
   rw[iI c0]at hlen ⊢
   subst c0
   have hrl:0<(ad r).length:=by
    cases r with
    |nil=>exact absurd rfl hr
    |cons x r=>exact gg
   have hll:(cs++[0]++List.replicate m 0++ad r).length=cs.length+1+m+(ad r).length:=by simp only[List.length_append,List.length_singleton,List.length_replicate]
   have hgl:1≤(az 0 m).length:=by unfold az;refine Kh (if_pos rfl)▸?_;simp
   have assoc:∀x:Nat,a+((am (0+1:Int).toNat (left+1)).2+2*(az 0 m).length+x)=a+(am (0+1:Int).toNat (left+1)).2+2*(az 0 m).length+x:=fun x=>by exact lF 0x1220c24308221102100484184861044208401
   refine Kh (assoc _)▸?_
   generalize (am (0+1:Int).toNat (left+1)).2=w at *
   by_cases h5:a+w+2*(az 0 m).length≤N
   ·refine Jh (so (most:=ms.toNat) (f:=N+1) (fd:=0) hg (by exact (lF 0x18c408110c220c06121841108800843000422) w1 h5) h5) fun r1 r2=>?_
    by_cases h6:ms.toNat<m
    ·refine Jf (r2 (by exact lin 0x631120820130018882c00644184820902208401 [_,_,_,_] [_] (by kernel_rfl) hll h6)) fun e r2=>?_
     refine Kh r2▸?_
     refine Jn (fun _ q=>?_) (fun _ _ _=>rfl) (fun _ q=>?_)
     ·replace q:=hll▸q;lia
     ·replace q:=hll▸q;lia
    ·rw[r1 (by exact lin 0xc620c004820805b8882c00644184820902208401 [_,_,_,_] [_] (by kernel_rfl) hll h6),Nat.zero_add]
     refine Jr (fN (ms:=ms) h (f:=f) (cs:=cs++[0]++List.replicate m 0) c4 hp2 h5 (by exact (lH 0xc6318888252186110884084200c0012186110884084302042280c21144811082508401) hf hgl w1 h5)) fun i1 i2 i3=>?_
     exact Jn i1 (fun q1 q2 _=>i2 q1 q2 hr) i3
   ·refine Jn (fun q=>by exact((lH 0x631c80c242048610442204200ee03090c20884408401) h5 q).elim) (fun q=>by exact((lH 0x631c80c242048610442204200ee03090c20884408401) h5 q).elim) (fun _ q=>?_)
    replace q:=hll▸q
    refine Jf (qD (most:=ms.toNat) (f:=N+1) (fd:=0) hg (show N<a+w+2*(az 0 m).length by exact (lF 0x3112184110881080230ee03090c20884408401) h5) (by exact lin 0x18c620c0048308054204400ac8009061204420c88009061204420843100402 [_,_,_,_] [_] (by kernel_rfl) hrl hll q)) fun e r3=>?_
    refine Kh r3▸?_;rfl
  ·rw[if_neg (by exact (lE 0x18dc822610220077600801) c0)]
   have hv:(((c+1).toNat:Nat):Int)-1=c:=by exact (lE 0xc58012844b61022006800b022) c1
   refine Kh hv▸?_
   have hp2:=hp.2.2
   rw[eR c0,List.length_nil,Nat.mul_zero,Nat.add_zero]at hp2 ⊢
   rw[iJ (c3 c0)]at hlen ⊢
   refine Jr (fN (ms:=ms) h (f:=f) (cs:=cs++[c]) c4 hp2 (by exact (lC 0x310004820843b8904108401) h3) (by exact (lF 0x63188882520c210803b890610840180c21144811082508401) hf w1 h3)) fun i1 i2 i3=>?_
   rewrite[←Nat.add_assoc]
   refine Jn i1 (fun q1 q2 _=>?_) i3
   cases r with
   |nil=>
    replace q2:=(show ad []=[]from rfl)▸q2;replace q2:=List.append_nil _▸q2;replace q2:=List.length_append▸q2;replace q2:=List.length_singleton▸q2
    exact((lD 0x318e556408801204400eeab00401) h2 q2).elim
   |cons x r=>exact i2 q1 q2 (fun q=>nomatch q)
theorem zO {W N:Nat}{ms:Int}:∀{f a left:Nat}{cs cs':List Int}{e:Nat},a≤N→rdG W N ms f a left cs= .ok cs' e→
  ∃its,Cmp its left∧Par W its a left∧cs'=cs++ad its∧e=a+tn its left∧e≤N∧(∀x∈its,x.2≤ms.toNat)∧(its≠[]→(cs'.length:Int)≤ms+1):=by
 intro f
 induction f with
 |zero=>intro a left cs cs' e _ h;cases h
 |succ f ih=>
  intro a left cs cs' e ha h
  unfold rdG at h
  by_cases h1:left=0
  ·replace h:=if_pos h1▸h
   cases h
   exact J0 [] h1 trivial (by simp[ad]) rfl ha (fun x q=>(nomatch q)) (fun q=>absurd rfl q)
  replace h:=if_neg h1▸h
  by_cases h2:ms<cs.length
  ·replace h:=if_pos h2▸h;cases h
  replace h:=if_neg h2▸h
  by_cases h3:N<a+(av W (left+1) a).2
  ·replace h:=if_pos h3▸h;cases h
  replace h:=if_neg h3▸h
  generalize hu:av W (left+1) a=u at *
  rcases u with ⟨v,w⟩
  refine Jh (kJ (show 0<left+1 by exact lA 0x8902200402) hu) fun v1 v2=>?_
  dsimp only at h h3
  by_cases h4:v=1
  ·replace h:=if_pos h4▸h
   subst h4
   cases hr:bS W N ms.toNat (N+1) (a+w) 0 with
   |cut a2=>replace h:=hr▸h;cases h
   |table a2=>replace h:=hr▸h;cases h
   |ok m a2=>
    replace h:=hr▸h
    refine JH (pt hr) fun m' rm rg re rN rms=>?_
    replace rm:=Nat.zero_add _▸rm
    subst rm re
    refine JZ (ih rN h) fun its t1 t2 t3 t4 t5 t6 t7=>?_
    have hne:its≠[]:=by
     intro q
     subst q
     exact h1 t1
    have hw:am (0+1:Int).toNat (left+1)=(W/2^a%2^w,w):=v2
    refine J0 ((0,m)::its) ⟨by exact (lA 0xc440100b7200801) h1,by exact lI 0x28013022,by exact lA 0x2000ac02,fun q=>absurd rfl q,t1⟩ ⟨by refine Kh hw▸?_;rfl,by rewrite[hw];exact rg,by rewrite[hw];exact t2⟩ ?_ ?_ t5 ?_ (fun _=>t7 hne)
    ·refine Kh t3▸?_;refine Kh (iI rfl)▸?_;rfl
    ·refine Kh t4▸?_;refine Kh bK▸?_;refine Kh hw▸?_
     refine(?_:_=a+(w+2*(az 0 m).length+tn its left))
     exact lF 0x1221061218411082100483090c20884408401
    ·intro x hx
     rcases List.mem_cons.mp hx with rfl|hx
     ·exact rms
     ·exact t6 x hx
  ·replace h:=if_neg h4▸h
   refine JZ (ih (by exact (lC 0x310004820843b8904108401) h3) h) fun its t1 t2 t3 t4 t5 t6 t7=>?_
   have hv:(v:Int)-1+1=v:=by exact lA 0x1658024088a112c01
   have hw:am ((v:Int)-1+1).toNat (left+1)=(W/2^a%2^w,w):=by rewrite[hv,Int.toNat_natCast];exact v2
   have hc0:(v:Int)-1≠0:=by exact (lA 0xc5c022844b0077208801) h4
   refine J0 (((v:Int)-1,0)::its) ⟨by exact (lA 0xc440100b7200801) h1,by exact lA 0x285089600b022,by exact (lB 0x18c62000aca112c21dc82208604088010877200801) h1 v1 h4,fun _=>rfl,t1⟩ ⟨by refine Kh hw▸?_;rfl,by rewrite[eR hc0];trivial,by rewrite[hw,eR hc0];exact t2⟩ ?_ ?_ t5 ?_ (fun _=>?_)
   ·refine Kh t3▸?_;refine Kh (iJ rfl)▸?_;rfl
   ·refine Kh t4▸?_;refine Kh bK▸?_;refine Kh hw▸?_;refine Kh (eR hc0)▸?_
    refine(?_:_=a+(w+2*0+tn its _))
    exact lC 0x48841048600842084012082408401
   ·intro x hx
    rcases List.mem_cons.mp hx with rfl|hx
    ·exact Nat.zero_le _
    ·exact t6 x hx
   ·cases its with
    |nil=>refine Kh t3▸?_;refine Kh (show ad []=[]from rfl)▸?_;refine Kh (List.append_nil _)▸?_;refine Kh List.length_append▸?_;refine Kh List.length_singleton▸?_;exact (lD 0xc50811002b204400eeab00401) h2
    |cons x r=>exact t7 (fun q=>nomatch q)
theorem zP {W W' N N':Nat}{ms:Int}(h:W%2^N=W'%2^N)(hN:N≤N'):∀{f f' a left:Nat}{cs:List Int},f≤f'→rdG W N ms f a left cs≠.cut→rdG W' N' ms f' a left cs=rdG W N ms f a left cs:=by
 intro f
 induction f with
 |zero=>intro f' a left cs _ q;exact absurd rfl q
 |succ f ih=>
  intro f' a left cs hf q
  refine Jf (Nat.exists_eq_add_of_lt (show 0<f' by exact (lB 0x311084028042408801) hf)) ?_;intro f' κ;subst κ
  rw[Nat.zero_add]at hf ⊢
  unfold rdG at q ⊢
  by_cases h1:left=0
  ·refine Kh (if_pos h1)▸?_;refine Kh (if_pos h1)▸?_;rfl
  rw[if_neg h1]at q ⊢
  refine Kh (if_neg h1)▸?_
  by_cases h2:ms<cs.length
  ·refine Kh (if_pos h2)▸?_;refine Kh (if_pos h2)▸?_;rfl
  rw[if_neg h2]at q ⊢
  refine Kh (if_neg h2)▸?_
  by_cases h3:N<a+(av W (left+1) a).2
  ·replace q:=if_pos h3▸q;exact absurd rfl q
  rw[if_neg h3]at q ⊢
  have uu:=iA h (show a+(av W (left+1) a).2≤N by exact (lC 0x310004820843b8904108401) h3)
  rw[uu,if_neg (by exact (lF 0x18c6e24184410877120c220803008401) hN h3)]
  by_cases h4:(av W (left+1) a).1=1
  ·rw[if_pos h4]at q ⊢
   refine Kh (if_pos h4)▸?_
   have hc:∀e,bS W N ms.toNat (N+1) (a+(av W (left+1) a).2) 0≠.cut e:=by
    intro e he
    replace q:=he▸q
    exact q rfl
   rw[vf h hN (show N+1≤N'+1 by exact (lB 0x1881022084811003008401) hN) hc]
   cases hr:bS W N ms.toNat (N+1) (a+(av W (left+1) a).2) 0 with
   |ok m a2=>replace q:=hr▸q;exact ih (by exact (lB 0x18804200c0811042408801) hf) q
   |cut a2=>rfl
   |table a2=>rfl
  ·rw[if_neg h4]at q ⊢
   refine Kh (if_neg h4)▸?_
   exact ih (by exact (lB 0x18804200c0811042408801) hf) q
theorem zQ {W N:Nat}{ms:Int}(hms:((2*N:Nat):Int)≤ms):∀{f a left:Nat}{cs:List Int},a≤N→cs.length≤2*a→rdG W N ms f a left cs≠.table:=by
 intro f
 induction f with
 |zero=>intro a left cs _ _ h;cases h
 |succ f ih=>
  intro a left cs ha hl h
  unfold rdG at h
  by_cases h1:left=0
  ·replace h:=if_pos h1▸h;cases h
  rw[if_neg h1,if_neg (by exact lin 0xc631baac41006060844210600084340056600442 [_,_,_] [_] (by kernel_rfl) hms ha hl)]at h
  by_cases h3:N<a+(av W (left+1) a).2
  ·replace h:=if_pos h3▸h;cases h
  replace h:=if_neg h3▸h
  have w1:=kO (W:=W) (a:=a) (show 2≤left+1 by exact (lA 0x62040880110b7200801) h1)
  by_cases h4:(av W (left+1) a).1=1
  ·replace h:=if_pos h4▸h
   cases hr:bS W N ms.toNat (N+1) (a+(av W (left+1) a).2) 0 with
   |cut a2=>replace h:=hr▸h;cases h
   |table a2=>exact vg (show 2*N≤ms.toNat by exact (lD 0x620c004c0088540056600442) hms) (Nat.zero_le _) _ hr
   |ok m a2=>
    replace h:=hr▸h
    refine JH (pt hr) fun m' rm rg re rN rms=>?_
    replace rm:=Nat.zero_add _▸rm
    subst rm re
    refine ih rN ?_ h
    have:(az 0 m).length=m/3+1:=by unfold az;refine Kh (if_pos rfl)▸?_;simp
    simp only[List.length_append,List.length_singleton,List.length_replicate]
    exact (lH 0x318c40c430c22110410844221024088019102248c4408c30104228182110801) hl w1 this
  ·replace h:=if_neg h4▸h
   refine ih (by exact (lC 0x310004820843b8904108401) h3) ?_ h
   simp only[List.length_append,List.length_singleton]
   exact (lC 0x18c40c4104211088110030104228182110801) hl w1
theorem aR.append:∀{a b:List (Int × Nat)},aR a→aR b→aR (a++b)
 |[],b,_,hb=>hb
 |(c,m)::r,b,ha,hb=>by
  refine Jn ha.1 (fun q=>?_) (aR.append ha.2.2 hb)
  refine Jw (ha.2.1 q) fun x r' h1 h2=>?_
  exact JX x (r'++b) (by rewrite[h1];rfl) h2
theorem aR.last:∀{l r:List (Int × Nat)}{x:Int × Nat},aR (l++[x])→x.1≠0
 |[],_,(c,m),h,q=>by
  refine Jw (h.2.1 q) fun y r' h1 _=>?_
  cases h1
 |y::l,r,x,h,q=>aR.last (r:=r) (l:=l) h.2.2 q
theorem c9 {l:List (Int × Nat)}{a c:Int}{m:Nat}:a8 (l++[(a,m)]) c=if c=0∧a=0 then l++[(0,m+1)]else l++[(a,m)]++[(c,0)]:=by
 unfold a8
 refine Kh List.getLast?_concat▸?_;refine Kh List.dropLast_concat▸?_;rfl
theorem bY {α:Type}(l:List α):l=[]∨∃i x,l=i++[x]:=by
 cases h:l.reverse with
 |nil=>exact .inl (List.reverse_eq_nil_iff.mp h)
 |cons x r=>exact .inr ⟨r.reverse,x,by refine List.reverse_reverse l▸?_;refine Kh h▸?_;refine Kh List.reverse_cons▸?_;rfl⟩
theorem gh {l:List (Int × Nat)}{c:Int}(h:c≠0):a8 l c=l++[(c,0)]:=by
 rcases bY l with rfl|⟨i,⟨a,m⟩,rfl⟩
 ·rfl
 ·rw[c9,if_neg (fun q=>h q.1)]
theorem iN {T:List (Int × Nat)}(hT:aR T):a8 T 0=T++[(0,0)]:=by
 rcases bY T with rfl|⟨i,⟨a,m⟩,rfl⟩
 ·rfl
 ·rw[c9,if_neg (fun q=>aR.last (r:=[]) hT q.2)]
theorem nQ {T:List (Int × Nat)}(hT:aR T):eq T=T:=by
 rcases bY T with rfl|⟨i,⟨a,m⟩,rfl⟩
 ·rfl
 ·unfold eq
  refine Kh List.getLast?_concat▸?_
  exact if_neg (aR.last (r:=[]) hT)
theorem qk {T:List (Int × Nat)}{m:Nat}:eq (T++[(0,m)])=T:=by
 unfold eq
 refine Kh List.getLast?_concat▸?_
 exact(if_pos rfl).trans (List.dropLast_concat ..)
noncomputable def Zs (Z:List (Int × Nat)):Prop:=Z=[]∨∃m,Z=[(0,m)]
theorem g0 {T Z:List (Int × Nat)}(hT:aR T)(hZ:Zs Z):eq (T++Z)=T:=by
 rcases hZ with rfl|⟨m,rfl⟩
 ·refine Kh (List.append_nil _)▸?_;exact nQ hT
 ·exact qk
theorem cW:∀{cs:List Int}{T Z:List (Int × Nat)},aR T→Zs Z→
  ∃T' Z',cs.foldl a8 (T++Z)=T'++Z'∧aR T'∧Zs Z'∧ad (T'++Z')=ad (T++Z)++cs∧∃r,T'=T++r
 |[],T,Z,hT,hZ=>⟨T,Z,rfl,hT,hZ,by refine Kh (List.append_nil _)▸?_;rfl,[],by refine Kh (List.append_nil _)▸?_;rfl⟩
 |c::cs,T,Z,hT,hZ=>by
  refine Kh List.foldl_cons▸?_
  by_cases hc:c=0
  ·subst hc
   rcases hZ with rfl|⟨m,rfl⟩
   ·refine Kh (List.append_nil _)▸?_;refine Kh (iN hT)▸?_
    refine JM (cW (cs:=cs) (Z:=[(0,0)]) hT (.inr ⟨0,rfl⟩)) fun T' Z' h1 h2 h3 h4 h5=>?_
    refine J5 T' Z' h1 h2 h3 ?_ h5
    refine Kh h4▸?_;refine Kh aA▸?_;rewrite[List.append_assoc]
    rfl
   ·rw[c9,if_pos ⟨rfl,rfl⟩]
    refine JM (cW (cs:=cs) (Z:=[(0,m+1)]) hT (.inr ⟨m+1,rfl⟩)) fun T' Z' h1 h2 h3 h4 h5=>?_
    refine J5 T' Z' h1 h2 h3 ?_ h5
    rw[h4,aA,aA,ad,ad,show 1+(m+1)=(1+m)+1 by exact lA 0x1220444004222102200422,List.replicate_succ']
    simp[ad]
  ·refine Kh (gh hc)▸?_
   have hp:aR (T++Z++[(c,0)]):=by
    have h1:aR [(c,0)]:=⟨fun _=>rfl,fun q=>absurd q hc,trivial⟩
    rcases hZ with rfl|⟨m,rfl⟩
    ·refine Kh (List.append_nil _)▸?_;exact hT.append h1
    ·rewrite[List.append_assoc]
     exact hT.append ⟨fun q=>absurd rfl q,fun _=>⟨_,_,rfl,hc⟩,h1⟩
   rcases cW (cs:=cs) (Z:=[]) hp (.inl rfl) with ⟨T',Z',h1,h2,h3,h4,r,h5⟩
   rw[List.append_nil]at h1 h4
   refine⟨T',Z',h1,h2,h3,?_,Z++[(c,0)]++r,by rewrite[h5];simp⟩
   refine Kh h4▸?_;refine Kh aA▸?_
   simp[ad]
theorem dh (cs:List Int):aR (ac cs)∧∃t,cs=ad (ac cs)++List.replicate t 0:=by
 refine JM (cW (cs:=cs) (T:=[]) (Z:=[]) trivial (.inl rfl)) fun T Z h1 h2 h3 h4 _=>?_
 have h1:cs.foldl a8 []=T++Z:=h1
 have h4:ad (T++Z)=cs:=h4
 unfold ac
 refine Kh h1▸?_;refine Kh (g0 h2 h3)▸?_
 refine Jg h2 ?_
 replace h4:=aA▸h4
 rcases h3 with rfl|⟨m,rfl⟩
 ·exact Jo 0 (by rewrite[← h4];rfl)
 ·exact Jo (1+m) (by rw[← h4,show ad [(0,m)]=List.replicate (1+m) 0++[]from rfl,List.append_nil])
theorem fX (p q:List Int):∃r,ac (p++q)=ac p++r:=by
 refine JM (cW (cs:=p) (T:=[]) (Z:=[]) trivial (.inl rfl)) fun T Z h1 h2 h3 h4 _=>?_
 rcases cW (cs:=q) h2 h3 with ⟨T',Z',k1,k2,k3,k4,r,k5⟩
 have h1:p.foldl a8 []=T++Z:=h1
 refine Jo r ?_
 unfold ac
 refine Kh List.foldl_append▸?_;refine Kh h1▸?_;refine Kh k1▸?_;refine Kh (g0 k2 k3)▸?_;refine Kh (g0 h2 h3)▸?_;refine Kh k5▸?_;rfl
theorem jk {T:List (Int × Nat)}:∀{n m:Nat},(List.replicate n (0:Int)).foldl a8 (T++[(0,m)])=T++[(0,m+n)]
 |0,m=>rfl
 |n+1,m=>by
  rw[List.replicate_succ,List.foldl_cons,c9,if_pos ⟨rfl,rfl⟩,jk,show m+1+n=m+(n+1) by exact (lB 0x1221022084012042408801)]
noncomputable def NoZ (T:List (Int × Nat)):Prop:=∀i x,T=i++[x]→x.1≠0
theorem sC {T:List (Int × Nat)}(hT:NoZ T):a8 T 0=T++[(0,0)]:=by
 rcases bY T with rfl|⟨i,⟨a,m⟩,rfl⟩
 ·rfl
 ·rw[c9,if_neg (fun q=>hT _ _ rfl q.2)]
theorem jj:∀{its T:List (Int × Nat)},aR its→NoZ T→(ad its).foldl a8 T=T++its
 |[],T,_,_=>by rewrite[List.append_nil];rfl
 |(c,m)::r,T,h,hT=>by
  rewrite[ad];refine Kh List.foldl_append▸?_
  by_cases hc:c=0
  ·subst hc
   refine Jw (h.2.1 rfl) ?_;intro κ;rcases κ with ⟨c2,m2⟩;intro r' h1 h2
   have h2:c2≠0:=h2
   refine Kh (Nat.add_comm _ _)▸?_;refine Kh List.replicate_succ▸?_;refine Kh List.foldl_cons▸?_;refine Kh (sC hT)▸?_;refine Kh jk▸?_;refine Kh (Nat.zero_add _)▸?_;refine Kh h1▸?_
   have h3:=h.2.2
   replace h3:=h1▸h3
   have hm2:=h3.1 h2
   subst hm2
   have:List.foldl a8 (T++[(0,m)]) (List.replicate (1+0) c2)=T++[(0,m)]++[(c2,0)]:=gh h2
   rewrite[ad];refine Kh List.foldl_append▸?_;refine Kh this▸?_;rewrite[jj h3.2.2];rewrite[List.append_assoc];rewrite[List.append_assoc]
   ·rfl
   ·intro i x q
    refine ((List.append_inj' q rfl).2|>List.singleton_inj.mp)▸?_
    exact h2
  ·have hm:=h.1 hc
   subst hm
   have:List.foldl a8 T (List.replicate (1+0) c)=T++[(c,0)]:=gh hc
   refine Kh this▸?_;rewrite[jj h.2.2];rewrite[List.append_assoc]
   ·rfl
   ·intro i x q
    refine ((List.append_inj' q rfl).2|>List.singleton_inj.mp)▸?_
    exact hc
theorem oO {T:List (Int × Nat)}(hT:aR T):∀t,∃Z,(List.replicate t (0:Int)).foldl a8 T=T++Z∧Zs Z
 |0=>⟨[],by rewrite[List.append_nil];rfl,.inl rfl⟩
 |t+1=>⟨[(0,0+t)],by refine Kh List.replicate_succ▸?_;refine Kh List.foldl_cons▸?_;refine Kh (iN hT)▸?_;refine Kh jk▸?_;rfl,.inr ⟨_,rfl⟩⟩
theorem kf {its:List (Int × Nat)}(h:aR its)(t:Nat):ac (ad its++List.replicate t 0)=its:=by
 unfold ac
 rw[List.foldl_append,jj h (T:=[]) (fun i x q=>absurd q.symm (by simp)),List.nil_append]
 refine tr (oO h t) fun Z h1 h2=>?_
 refine Kh h1▸?_;refine Kh (g0 h h2)▸?_;rfl
theorem mY (cs:List Int)(t:Nat):ac (cs++List.replicate t 0)=ac cs:=by
 rcases dh cs with ⟨h1,t',h2⟩
 generalize ac cs=I at *
 refine Kh h2▸?_;rewrite[List.append_assoc];refine Kh List.replicate_append_replicate▸?_;refine Kh (kf h1 _)▸?_;rfl
noncomputable def cT (cs:List Int):Nat:=(cs.map Int.natAbs).sum
theorem aE {a b:List Int}:cT (a++b)=cT a+cT b:=by unfold cT;refine Kh List.map_append▸?_;rewrite[List.sum_append];rfl
theorem jw {n:Nat}{c:Int}:cT (List.replicate n c)=n*c.natAbs:=by unfold cT;refine Kh List.map_replicate▸?_;refine Kh List.sum_replicate_nat▸?_;rfl
theorem jv:∀{its:List (Int × Nat)},(∀x∈its,x.1≠0→x.2=0)→cT (ad its)=tot its
 |[],_=>rfl
 |(c,m)::r,h=>by
  rewrite[ad];refine Kh aE▸?_;refine Kh jw▸?_;refine Kh (jv fun x hx=>h x (List.mem_cons_of_mem _ hx))▸?_;rewrite[tot]
  by_cases hc:c=0
  ·subst hc;simp
  ·have:=h _ (List.mem_cons_self ..) hc
   have:m=0:=this
   subst this
   simp
theorem fj:∀{a b:List (Int × Nat)},tot (a++b)=tot a+tot b
 |[],b=>by refine Kh (List.nil_append _)▸?_;rewrite[tot];refine Kh (Nat.zero_add _)▸?_;rfl
 |(c,m)::r,b=>by refine Kh List.cons_append▸?_;rewrite[tot];rewrite[tot];refine Kh fj▸?_;rewrite[Nat.add_assoc];rfl
theorem aR.wf:∀{its:List (Int × Nat)},aR its→∀x∈its,x.1≠0→x.2=0
 |[],_,x,hx,_=>nomatch hx
 |(c,m)::r,h,x,hx,q=>by
  rcases List.mem_cons.mp hx with rfl|hx
  ·exact h.1 q
  ·exact aR.wf h.2.2 x hx q
theorem oV:∀{its:List (Int × Nat)}{left:Nat},(∀x∈its, -1≤x.1∧(x.1≠0→x.2=0))→tot its=left→NoZ its→Cmp its left
 |[],left,_,h,_=>h.symm
 |(c,m)::r,left,hx,h,hz=>by
  have h0:=hx _ (List.mem_cons_self ..)
  have ht:c.natAbs+tot r=left:=h
  have hr:NoZ r:=fun i x q=>hz ((c,m)::i) x (by rewrite[q];rfl)
  have hp:0<left:=by
   rcases bY ((c,m)::r)with q|⟨i,⟨a,k⟩,q⟩
   ·cases q
   ·have ha:a≠0:=hz _ _ q
    have:tot ((c,m)::r)=tot i+(a.natAbs+0):=by rewrite[q,fj];rfl
    replace this:=h▸this
    exact lin 0x318c442100a442004b08441086e010432084800ac01 [_,_,_] [_,_] (by kernel_rfl) ht ha this
  exact Ke hp h0.1 (by exact (lG 0xc402158032084800ac01) ht) h0.2 (oV (fun x q=>hx x (List.mem_cons_of_mem _ q)) (by exact (lG 0x62455802108032084800ac01) ht) hr)
theorem Cmp.tot:∀{its:List (Int × Nat)}{left:Nat},Cmp its left→tot its=left
 |[],left,h=>h.symm
 |(c,m)::r,left,h=>by
  have:=Cmp.tot h.2.2.2.2
  have:=h.2.2.1
  rewrite[Mine.tot]
  exact (lG 0x31890024085600c8ab00401086000ac01) this (by assumption)
theorem Cmp.wf:∀{its:List (Int × Nat)}{left:Nat},Cmp its left→∀x∈its, -1≤x.1∧(x.1≠0→x.2=0)
 |[],_,_,x,hx=>nomatch hx
 |(c,m)::r,left,h,x,hx=>by
  rcases List.mem_cons.mp hx with rfl|hx
  ·exact Jg h.2.1 h.2.2.2.1
  ·exact Cmp.wf h.2.2.2.2 x hx
theorem Cmp.noz:∀{its:List (Int × Nat)}{left:Nat},Cmp its left→NoZ its
 |[],_,_=>fun i x q=>absurd q.symm (by simp)
 |[(c,m)],left,h=>fun i x q=>by
  have:x=(c,m):=by
   cases i with
   |nil=>cases q;rfl
   |cons y i=>cases i<;>cases q
  subst this
  have h1:=h.1
  have h2:left-c.natAbs=0:=h.2.2.2.2
  refine(?_:c≠0)
  exact (lD 0x18c5c0200640115600803100402) h1 h2
 |(c,m)::y::r,left,h=>fun i x q=>by
  cases i with
  |nil=>cases q
  |cons z i=>
   replace q:=List.cons_append▸q;rewrite[List.cons.injEq]at q
   exact Cmp.noz h.2.2.2.2 i x q.2
theorem Cmp.fit:∀{its:List (Int × Nat)}{left:Nat},Cmp its left→(∀x∈its,x.2≤1000)→Fit its left
 |[],_,_,_=>trivial
 |(c,m)::r,left,h,hm=>⟨h.2.1,h.2.2.1,hm _ (List.mem_cons_self ..),Cmp.fit h.2.2.2.2 fun x q=>hm x (List.mem_cons_of_mem _ q)⟩
theorem ll:∀{its:List (Int × Nat)}{c:Int},c∈ad its↔∃m,(c,m)∈its
 |[],c=>by simp[ad]
 |(d,k)::r,c=>by
  rewrite[ad];rewrite[List.mem_append];rewrite[List.mem_replicate];rewrite[ll]
  constructor
  ·rintro (⟨_,rfl⟩|⟨m,h⟩)
   ·exact Jo k (List.mem_cons_self ..)
   ·exact Jo m (List.mem_cons_of_mem _ h)
  ·rintro ⟨m,h⟩
   rcases List.mem_cons.mp h with q|h
   ·cases q;exact .inl ⟨by exact lA 0x9804400422,rfl⟩
   ·exact .inr ⟨m,h⟩
theorem wN:∀{its:List (Int × Nat)},∀x∈its,x.2+1≤(ad its).length
 |[],x,hx=>nomatch hx
 |(d,k)::r,x,hx=>by
  rewrite[ad];refine Kh List.length_append▸?_;refine Kh List.length_replicate▸?_
  rcases List.mem_cons.mp hx with rfl|hx
  ·refine(?_:k+1≤_);exact lB 0x204084800844408801
  ·have:=wN x hx;exact (lC 0x62040848208444088018042408801) this
structure Row (cs:List Int)(log:Nat):Prop where
 low:∀c∈cs, -1≤c
 sum:cT cs=2^log
 len:cs.length≤200
theorem Row.cmp {cs:List Int}{log:Nat}(h:Row cs log):Cmp (ac cs) (2^log):=by
 rcases dh cs with ⟨h1,t,h2⟩
 refine oV (fun x hx=>⟨?_,h1.wf x hx⟩) ?_ ?_
 ·apply h.low
  refine Kh h2▸?_
  exact List.mem_append_left _ (ll.mpr ⟨x.2,hx⟩)
 ·refine jv h1.wf▸?_;refine h.sum▸?_
  conv=>rhs;erw[h2,aE,jw,Int.natAbs_zero,Nat.mul_zero,Nat.add_zero]
 ·intro i x q
  replace h1:=q▸h1
  exact aR.last (r:=[]) h1
theorem Row.rowlen {cs:List Int}{log:Nat}(h:Row cs log):(ad (ac cs)).length≤cs.length:=by
 rcases dh cs with ⟨h1,t,h2⟩
 conv=>rhs;erw[h2,List.length_append]
 exact lB 0x8102100401
theorem Row.fit {cs:List Int}{log:Nat}(h:Row cs log):Fit (ac cs) (2^log):=by
 refine h.cmp.fit fun x hx=>?_
 have:=wN x hx
 have:=h.rowlen
 have:=h.len
 exact (lC 0x318c43e810c21800220c041204410c0c810c01) this (by assumption) (by assumption)
noncomputable def mgc (c:Int)(m:Nat):List (Int × Nat)→List (Int × Nat)
 |[]=>[(c,m)]
 |(c',m')::r=>if c=0∧c'=0 then(0,m+m'+1)::r else(c,m)::(c',m')::r
noncomputable def mg:List (Int × Nat)→List (Int × Nat)
 |[]=>[]
 |(c,m)::r=>mgc c m (mg r)
theorem rP {v most:Nat}(h:2≤most):1≤(am v most).2:=by
 have:1≤most.log2:=(Nat.le_log2 (by exact (lA 0x62601003000442) h)).mpr h
 unfold am
 split
 ·dsimp only;exact lA 0x8102200422
 ·dsimp only;split<;>(first|exact (lA 0x62000845000422) this|exact lA 0x8102200422)
theorem qg {v most L:Nat}(h:most<2^(L+1))(h0:0<most):(am v most).2≤L+1:=by
 have:most.log2<L+1:=(Nat.log2_lt (by exact (lA 0x62601003100402) h0)).mpr h
 unfold am
 split
 ·dsimp only;exact (lB 0xc408110424088018902208401) this
 ·dsimp only;split<;>(first|exact (lB 0x1881022084018902208401) this|exact (lB 0xc408110424088018902208401) this)
theorem lR {m:Nat}:(az 0 m).length=m/3+1:=by unfold az;refine Kh (if_pos rfl)▸?_;simp
theorem Hv {c:Int}{m:Nat}:(az c m).length≤m+1:=by
 by_cases h:c=0
 ·subst h;refine Kh lR▸?_;exact lA 0x204088012044918801
 ·refine Kh (eR h)▸?_;exact Nat.zero_le _
theorem wz:∀{its:List (Int × Nat)}{left:Nat},left≤1048576→tn its left≤24*(ad its).length
 |[],_,_=>Nat.zero_le _
 |(c,m)::r,left,h=>by
  have h1:=qg (v:=(c+1).toNat) (most:=left+1) (L:=20) (by exact (lA 0x6226108200000519022006010000028c01) h) (by exact lA 0x8902200402)
  have h2:=Hv (c:=c) (m:=m)
  have h3:=wz (its:=r) (left:=left-c.natAbs) (by exact (lD 0x1880400000a32ac01006010000028c01) h)
  refine Kh bK▸?_;rewrite[ad];refine Kh List.length_append▸?_;refine Kh List.length_replicate▸?_
  exact (lH 0x318c40c4204820845811061218211080181881c0861810221042181022a0801) h1 h2 h3
theorem sO {c:Int}{m left:Nat}{l:List (Int × Nat)}(hp:aR l)(hc:c≠0→m=0)(hl:c=0→l≠[])(h0:0<left):aR (mgc c m l)∧ad (mgc c m l)=ad ((c,m)::l)∧
  (mgc c m l=(c,m)::l∨tn (mgc c m l) left<tn ((c,m)::l) left)∧mgc c m l≠[]:=by
 cases l with
 |nil=>
  refine JA ⟨hc,fun q=>absurd rfl (hl q),trivial⟩ rfl (.inl rfl) (fun q=>(nomatch q))
 |cons x r=>
  rcases x with ⟨c',m'⟩
  refine Kh (show mgc c m ((c',m')::r)=if c=0∧c'=0 then(0,m+m'+1)::r else(c,m)::(c',m')::r from rfl)▸?_
  by_cases h:c=0∧c'=0
  ·refine Kh (if_pos h)▸?_
   refine Jh h ?_;clear h;intro κ;subst κ;intro κ2;subst κ2
   refine JA ⟨fun q=>absurd rfl q,hp.2.1,hp.2.2⟩ ?_ (.inr ?_) (fun q=>(nomatch q))
   ·rw[ad,ad,ad,← List.append_assoc,List.replicate_append_replicate,show 1+(m+m'+1)=1+m+(1+m') by exact (lB 0x48840842220021110811102100422)]
   ·refine Kh bK▸?_;refine Kh bK▸?_;refine Kh bK▸?_;refine Kh lR▸?_;refine Kh lR▸?_;refine Kh lR▸?_
    simp only[Int.natAbs_zero,Nat.sub_zero]
    have:=rP (v:=((0:Int)+1).toNat) (show 2≤left+1 by exact (lA 0x310204400885100402) h0)
    lia
  ·refine Kh (if_neg h)▸?_
   refine JA ⟨hc,fun q=>⟨_,_,rfl,fun q'=>h ⟨q,q'⟩⟩,hp⟩ rfl (.inl rfl) (fun q=>(nomatch q))
theorem li:∀{its:List (Int × Nat)}{left:Nat},Cmp its left→aR (mg its)∧ad (mg its)=ad its∧(mg its=its∨tn (mg its) left<tn its left)∧(its≠[]→mg its≠[])
 |[],_,_=>⟨trivial,rfl,.inl rfl,fun q=>absurd rfl q⟩
 |(c,m)::r,left,h=>by
  refine JB (li h.2.2.2.2) fun i1 i2 i3 i4=>?_
  have hl:c=0→mg r≠[]:=fun q=>i4 fun q'=>by
   subst q q'
   have h1:=h.1
   have h2:left-(0:Int).natAbs=0:=h.2.2.2.2
   simp at h2
   exact (lA 0x18c72401003100402) h1 h2
  refine JB (sO i1 h.2.2.2.1 hl h.1) fun j1 j2 j3 j4=>?_
  refine JA j1 ?_ ?_ (fun _=>j4)
  ·refine(?_:ad (mgc c m (mg r))=_)
   refine Kh j2▸?_;rewrite[ad];rewrite[ad];refine Kh i2▸?_;rfl
  ·refine(?_:mgc c m (mg r)=_∨tn (mgc c m (mg r)) left<_)
   rcases i3 with i3|i3
   ·rw[i3]at j3 ⊢;exact j3
   ·right
    have:tn ((c,m)::mg r) left<tn ((c,m)::r) left:=by rewrite[bK,bK];exact (lF 0x188902121861108412002430c221083108401) i3
    rcases j3 with j3|j3
    ·refine Kh j3▸?_;exact this
    ·exact (lC 0x18c4421106200883108401) this j3
theorem tg {its:List (Int × Nat)}{left:Nat}(h:Cmp its left):ac (ad its)=mg its:=by
 refine JB (li h) fun h1 h2 _ _=>?_
 have:=kf h1 0
 replace this:=h2▸this;replace this:=List.replicate_zero▸this;replace this:=List.append_nil _▸this
 exact this
theorem jN {its:List (Int × Nat)}{left:Nat}(h:Cmp its left)(hne:its≠ac (ad its)):tn (ac (ad its)) left<tn its left:=by
 rw[tg h]at hne ⊢
 rcases(li h).2.2.1 with q|q
 ·exact absurd q.symm hne
 ·exact q
theorem bp:∀{a b:List UInt8},af (a++b)=af a+2^(8*a.length)*af b
 |[],b=>by simp[af]
 |x::a,b=>by
  rw[List.cons_append,af,af,bp,List.length_cons,Nat.mul_add,Nat.mul_add,← Nat.mul_assoc 256,show 8*a.length+8*1=8+8*a.length by exact lA 0x910c00a048110c11204600502,Nat.pow_add,Nat.add_assoc]
theorem l8:∀{a:List UInt8},af a<2^(8*a.length)
 |[]=>by decide
 |x::a=>by
  have:=l8 (a:=a)
  have hx:=x.toNat_lt
  rw[af,List.length_cons,show 8*(a.length+1)=8+8*a.length by exact lA 0x1221801409023102200502,Nat.pow_add]
  exact (lC 0xc62260850010c860050010c418a0021883108401) this hx
theorem iv {D:List UInt8}{n:Nat}(h:n≤D.length):af (D.take n)=af D%2^(8*n):=by
 have h1:=bp (a:=D.take n) (b:=D.drop n)
 replace h1:=List.take_append_drop _ _▸h1;replace h1:=List.length_take▸h1;replace h1:=Nat.min_eq_left h▸h1
 have h2:=l8 (a:=D.take n)
 replace h2:=Nat.min_eq_left h▸(List.length_take▸h2)
 refine Kh h1▸?_;rewrite[Nat.add_mul_mod_self_left];refine Kh (Nat.mod_eq_of_lt h2)▸?_;rfl
theorem bH {W b:Nat}:(ak W b).length=(b+7)/8:=by unfold ak;refine Kh (List.length_map _)▸?_;refine Kh List.length_range▸?_;rfl
theorem iw:∀(n:Nat) {W:Nat},af ((List.range n).map fun k=>UInt8.ofNat (W/256^k%256))=W%2^(8*n)
 |0,W=>by simp[af,Nat.mod_one]
 |n+1,W=>by
  refine Kh List.range_succ▸?_;refine Kh List.map_append▸?_;refine Kh bp▸?_;refine Kh (iw n)▸?_;refine Kh (List.length_map _)▸?_;refine Kh List.length_range▸?_
  have:af [UInt8.ofNat (W/256^n%256)]=W/2^(8*n)%2^8:=by
   rewrite[af];rewrite[af];refine Kh UInt8.toNat_ofNat'▸?_;refine Kh (kW _)▸?_
   exact Nat.mod_mod _ 256
  rw[List.map_cons,List.map_nil,this,Nat.mul_comm (2^(8*n)),iQ,show 8*n+8=8*(n+1) by exact (lA 0x1231022005022204600502)]
theorem dU {W b:Nat}:af (ak W b)=W%2^(8*((b+7)/8)):=iw _
noncomputable abbrev TF (its:List (Int × Nat))(log:Nat):Nat × Nat:=aF its (log-5) 4 (2^log)
theorem cf {its:List (Int × Nat)}{log:Nat}(h5:5≤log)(h20:log≤20):(TF its log).1%16+5=log∧(TF its log).2=4+tn its (2^log):=by
 refine Jh (ge (its:=its) (V:=log-5) (b:=4) (left:=2^log)) fun h1 h2=>?_
 refine Jg ?_ h2
 have h1:(TF its log).1%16=(log-5)%16:=h1
 exact HI h1 h5 h20
theorem dY {its:List (Int × Nat)}{log:Nat}(h5:5≤log)(h20:log≤20)(hf:Fit its (2^log)):Par (TF its log).1 its 4 (2^log)∧(TF its log).1<2^(TF its log).2:=
 mf (show log-5<2^4 by refine(?_:log-5<16);exact (lA 0x311808a510030a0801) h20) hf
theorem dq {its:List (Int × Nat)}{log:Nat}(h5:5≤log)(h20:log≤20)(h:(ad its).length≤200):(TF its log).2≤4804:=by
 refine Kh ((cf h5 h20).2)▸?_
 have hp:2^log≤2^20:=Nat.pow_le_pow_right (by decide) h20
 have:=wz (its:=its) (left:=2^log) hp
 exact (lB 0xc6204b106320424140c00e0410c0c810c01) h this
theorem dH {its:List (Int × Nat)}{log:Nat}(h5:5≤log)(h20:log≤20)(hf:Fit its (2^log)):af (ak (TF its log).1 (TF its log).2)=(TF its log).1:=by
 refine Kh dU▸?_
 apply Nat.mod_eq_of_lt
 exact Nat.lt_of_lt_of_le (dY h5 h20 hf).2 (Nat.pow_le_pow_right (by decide) (by exact lA 0x2064a0443880140801))
theorem mG {W b:Nat}(h:4≤b):W%2^b%16=W%16:=by
 refine Kh (show(16:Nat)=2^4 from rfl)▸?_;refine Kh (Nat.mod_mod_of_dvd _ (Nat.pow_dvd_pow 2 h))▸?_;rfl
theorem k8 {its:List (Int × Nat)}{log:Nat}(h:Cmp its (2^log)):its≠[]:=by
 intro q
 subst q
 have:2^log=0:=h
 have:=Nat.pow_pos (n:=log) (show 0<2 by decide)
 exact (lA 0x18c72401003100402) this (by assumption)
theorem iK {its:List (Int × Nat)}{log W N:Nat}{lg ms:Int}(h5:5≤log)(h20:log≤20)(hc:Cmp its (2^log))(hf:Fit its (2^log))(hW:W%2^(TF its log).2=(TF its log).1)(hN:(TF its log).2≤N)(hlg:(log:Int)≤lg):
  W%16+5=log∧(((ad its).length:Int)≤ms+1→aQ W N lg ms= .ok (ad its) (TF its log).2)∧(ms+1<((ad its).length:Int)→aQ W N lg ms= .table):=by
 refine Jh (cf (its:=its) h5 h20) fun k1 k2=>?_
 refine Jh (dY h5 h20 hf) fun p1 p2=>?_
 have hl:W%16+5=log:=by rw[← mG (b:=(TF its log).2) (by exact (lB 0x310004829102120801) k2),hW];exact k1
 have hp:Par W its 4 (2^log):=Par.agr (N:=(TF its log).2) (by refine Kh hW▸?_;refine Kh (Nat.mod_eq_of_lt p2)▸?_;rfl) (by exact (lB 0x1880024084829102120801) k2) p1
 have hr:=fN (W:=W) (W':=W) (N:=N) (ms:=ms) rfl (f:=N+1) (cs:=[]) hc hp (by exact (lC 0xc620109052208241003008401) hN k2) (by exact (lC 0x31889022084a410432208241003008401) hN k2)
 replace hr:=List.nil_append _▸hr;replace hr:=Kh k2▸hr
 unfold aQ
 rw[if_neg (by exact (lC 0x18c6e2410432208241003008401) hN k2),hl,if_neg (by exact (lD 0x31baac01006800ac01) hlg)]
 exact Jn rfl (fun q=>hr.1 hN q) (fun q=>hr.2.1 hN q (k8 hc))
theorem sv {its:List (Int × Nat)}{log W N:Nat}{lg ms:Int}(h5:5≤log)(h20:log≤20)(hW:W%2^(TF its log).2=(TF its log).1)(hN:(TF its log).2≤N)(hlg:lg<(log:Int)):aQ W N lg ms= .table:=by
 refine Jh (cf (its:=its) h5 h20) fun k1 k2=>?_
 have hl:W%16+5=log:=by rw[← mG (b:=(TF its log).2) (by exact (lB 0x310004829102120801) k2),hW];exact k1
 unfold aQ
 rw[if_neg (by exact (lC 0x18c6e2410432208241003008401) hN k2),hl,if_pos hlg]
theorem n4 {its:List (Int × Nat)}{log W N:Nat}{lg ms:Int}(h5:5≤log)(h20:log≤20)(hc:Cmp its (2^log))(hf:Fit its (2^log))(hW:W=(TF its log).1%2^N)(hN:N<(TF its log).2)(hlg:(log:Int)≤lg)(hms:((ad its).length:Int)≤ms+1):aQ W N lg ms= .cut:=by
 refine Jh (cf (its:=its) h5 h20) fun k1 k2=>?_
 refine Jh (dY h5 h20 hf) fun p1 p2=>?_
 unfold aQ
 by_cases h4:N<4
 ·refine Kh (if_pos h4)▸?_;rfl
 ·have hl:W%16+5=log:=by rw[hW,mG (by exact (lA 0xc400120b7120801) h4)];exact k1
  rw[if_neg h4,hl,if_neg (by exact (lD 0x31baac01006800ac01) hlg)]
  have hr:=fN (W:=(TF its log).1) (W':=W) (N:=N) (ms:=ms) (by refine Kh hW▸?_;refine Kh (Nat.mod_mod _ _)▸?_;rfl) (f:=N+1) (cs:=[]) hc p1 (by exact (lA 0xc400120b7120801) h4) (by exact (lA 0x31120440094820077120801) h4)
  replace hr:=List.nil_append _▸hr;replace hr:=Kh k2▸hr
  exact hr.2.2 hN hms
theorem mw {V b s:Nat}{ex:List UInt8}(hV:V<2^b):af (ak (V+s*2^b) b++ex)%2^b=V:=by
 have hb:b≤8*((b+7)/8):=by exact lA 0x2064a0443880140801
 refine Kh bp▸?_;refine Kh bH▸?_;refine Kh dU▸?_
 have h1:2^(8*((b+7)/8))*af ex=2^b*(2^(8*((b+7)/8)-b)*af ex):=by
  rewrite[←Nat.mul_assoc];rewrite[←Nat.pow_add];refine Kh (Nat.add_sub_cancel' hb)▸?_;rfl
 refine Kh h1▸?_;rewrite[Nat.add_mul_mod_self_left];refine Kh (Nat.mod_mod_of_dvd _ (Nat.pow_dvd_pow 2 hb))▸?_;rewrite[Nat.add_mul_mod_self_right];refine Kh (Nat.mod_eq_of_lt hV)▸?_;rfl
theorem jD {r:Nat}(h:r<8):256/2^r=2^(8-r):=by
 have:r=0∨r=1∨r=2∨r=3∨r=4∨r=5∨r=6∨r=7:=xr8 r h
 rcases this with rfl|rfl|rfl|rfl|rfl|rfl|rfl|rfl<;>rfl
theorem ox {V b:Nat}(hV:V<2^b)(hb:0<b):∃(dl:List UInt8) (x:UInt8),ak V b=dl++[x]∧dl.length+1=(b+7)/8∧V=af dl+2^(8*dl.length)*x.toNat∧x.toNat<2^(b-8*dl.length):=by
 have hl:=bH (W:=V) (b:=b)
 rcases bY (ak V b)with q|⟨dl,x,q⟩
 ·replace hl:=List.length_nil▸(q▸hl);exact((lA 0x631c9250221c400805100402) hb hl).elim
 ·have hw:=dU (W:=V) (b:=b)
  rw[q]at hw hl
  replace hl:=List.length_singleton▸(List.length_append▸hl)
  have hV2:V<2^(8*((b+7)/8)):=Nat.lt_of_lt_of_le hV (Nat.pow_le_pow_right (by decide) (by exact (lB 0x1881928110e20850208649408871042408801) hl))
  replace hw:=(show af [x]=x.toNat by simp[af])▸(Nat.mod_eq_of_lt hV2▸(bp▸hw))
  refine JV dl x q hl hw.symm ?_
  rcases Nat.lt_or_ge x.toNat (2^(b-8*dl.length))with h|h
  ·exact h
  ·have:=Nat.mul_le_mul_left (2^(8*dl.length)) h
   rw[← Nat.pow_add,show 8*dl.length+(b-8*dl.length)=b by exact (lB 0xc4821214c00a0410980140a49408871042408801) hl]at this
   exact lin 0x318c44a12060308432004830883108401 [_,_,_,_,_,_] [] (by kernel_rfl) hV hw this
theorem oi {V b r t:Nat}{dl ex:List UInt8}{x:UInt8}(hr:r=8*((b+7)/8)-b)(hV:V=af dl+2^(8*dl.length)*x.toNat)(hV2:V<2^b)(hl:dl.length+1=(b+7)/8)(hx:x.toNat<2^(b-8*dl.length))(ht:t<2^r):
  x.toNat+256/2^r*t<256∧af (dl++UInt8.ofNat (x.toNat+256/2^r*t)::ex)%2^b=V:=by
 have hr8:r<8:=by exact (lC 0x3188a0400c928110e20848110832284264a0443882140801) hr hl
 have e1:b-8*dl.length=8-r:=HT hr hl hr8
 replace hx:=e1▸hx
 refine Kh (jD hr8)▸?_
 have e2:2^(8-r)*2^r=256:=by rewrite[←Nat.pow_add];refine Kh (Nat.sub_add_cancel (Nat.le_of_lt hr8))▸?_;rfl
 have h1:x.toNat+2^(8-r)*t<256:=by
  have:=Nat.mul_le_mul_left (2^(8-r)) (show t+1≤2^r from ht)
  replace this:=e2▸this;rewrite[Nat.mul_add]at this;replace this:=Nat.mul_one _▸this
  exact (lC 0x631140043208200c10010c810883108401) hx this
 refine Jg h1 ?_
 refine Kh bp▸?_;rewrite[af];refine Kh UInt8.toNat_ofNat'▸?_;refine Kh (Nat.mod_eq_of_lt (show _<2^8 from h1))▸?_
 have e3:af dl+2^(8*dl.length)*(x.toNat+2^(8-r)*t+256*af ex)=V+2^b*(t+2^r*af ex):=by
  rw[hV,show b=8*dl.length+(8-r) by exact (lC 0xc624428828118014082191441408a60050208649408871042408801) hl e1,Nat.pow_add,← e2]
  simp only[Nat.mul_add,Nat.mul_assoc,Nat.add_assoc]
 refine Kh e3▸?_;rewrite[Nat.add_mul_mod_self_left];refine Kh (Nat.mod_eq_of_lt hV2)▸?_;rfl
theorem HA:∀l l':List Int,(∃r,l'=l++r)∨(∃r,l=l'++r)∨∃(k:Nat) (a b:Int),l.take k=l'.take k∧l[k]?=some a∧l'[k]?=some b∧a≠b
 |[],l'=>.inl ⟨l',rfl⟩
 |a::l,[]=>.inr (.inl ⟨a::l,rfl⟩)
 |a::l,b::l'=>by
  by_cases h:a=b
  ·subst h
   rcases HA l l' with⟨r,h⟩|⟨r,h⟩|⟨k,x,y,h1,h2,h3,h4⟩
   ·exact .inl ⟨r,by rewrite[h];rfl⟩
   ·exact .inr (.inl ⟨r,by rewrite[h];rfl⟩)
   ·exact .inr (.inr ⟨k+1,x,y,by refine Kh List.take_succ_cons▸?_;refine Kh List.take_succ_cons▸?_;refine Kh h1▸?_;rfl,h2,h3,h4⟩)
  ·exact .inr (.inr ⟨0,a,b,rfl,rfl,rfl,h⟩)
theorem rH {r:List Int}(h:cT r=0):r=List.replicate r.length 0:=by
 induction r with
 |nil=>rfl
 |cons a r ih=>
  have h:a.natAbs+cT r=0:=by unfold cT at h ⊢;rwa [List.map_cons,List.sum_cons]at h
  rw[List.length_cons,List.replicate_succ,← ih (by exact (lD 0x624010032008800ac01) h),show a=0 by exact (lD 0x62c010032008800ac01) h]
theorem Fit.pre:∀{a b:List (Int × Nat)}{left:Nat},Fit (a++b) left→Fit a left
 |[],_,_,_=>trivial
 |(c,m)::r,b,left,h=>⟨h.1,h.2.1,h.2.2.1,Fit.pre h.2.2.2⟩
theorem Par.pre {W:Nat}:∀{a b:List (Int × Nat)}{p left:Nat},Par W (a++b) p left→Par W a p left
 |[],_,_,_,_=>trivial
 |(c,m)::r,b,p,left,h=>⟨h.1,h.2.1,Par.pre h.2.2⟩
theorem iR {a b m:Nat}:((a:Int)-b).natAbs%m=0↔a%m=b%m:=by
 rewrite[←Nat.dvd_iff_mod_eq_zero];rewrite[←Int.ofNat_dvd_left];rewrite[Int.dvd_iff_emod_eq_zero];rewrite[←Int.emod_eq_emod_iff_emod_sub_eq_zero]
 constructor
 ·intro h
  exact Int.ofNat_inj.mp (by push_cast;exact h)
 ·intro h
  have:=congrArg (fun x:Nat=>(x:Int)) h
  push_cast at this
  exact this
theorem ew {its:List (Int × Nat)}{log W:Nat}(h5:5≤log)(h20:log≤20)(hl:W%16+5=log)(hp:Par W its 4 (2^log)):W%2^(TF its log).2=(TF its log).1:=by
 have h:=pj hp
 have h4:W%2^4=log-5:=by refine(?_:W%16=_);exact (lB 0x18c48a51002a80821900242895010430004a2) h5 hl
 replace h:=h4▸h
 have e:TF its log=(W%2^(4+tn its (2^log)),4+tn its (2^log)):=h
 refine Kh e▸?_;rfl
theorem mB {one other:List Int}{log:Nat}(h5:5≤log)(h20:log≤20)(h1:Row one log)(h2:Row other log)(hne:ac one≠ac other):
  ∃(k:Nat) (a b:Int),(∀i<k,∃c,one[i]?=some c∧other[i]?=some c)∧one[k]?=some a∧other[k]?=some b∧a≠b∧Fit (ac (one.take k)) (2^log)∧(TF (ac (one.take k)) log).2≤8000∧
   ((af (ak (TF (ac one) log).1 (TF (ac one) log).2):Int)-af (ak (TF (ac other) log).1 (TF (ac other) log).2)).natAbs%2^(TF (ac (one.take k)) log).2=0∧
   ((af (ak (TF (ac one) log).1 (TF (ac one) log).2):Int)-af (ak (TF (ac other) log).1 (TF (ac other) log).2)).natAbs%2^(min (TF (ac other) log).2 (TF (ac one) log).2)≠0:=by
 have same:∀{l r:List Int},Row l log→Row (l++r) log→ac (l++r)=ac l:=by
  intro l r ha hb
  have:=hb.sum
  replace this:=ha.sum▸(aE▸this)
  rw[rH (r:=r) (by exact (lB 0x312008219002408401) this),mY]
 rcases HA one other with⟨r,rfl⟩|⟨r,rfl⟩|⟨k,a,b,d1,d2,d3,d4⟩
 ·exact absurd (same h1 h2).symm hne
 ·exact absurd (same h2 h1) hne
 ·refine Jf (fX (one.take k) (one.drop k)) fun r1 i1=>?_
  refine Jf (fX (other.take k) (other.drop k)) fun r2 i2=>?_
  rw[List.take_append_drop]at i1 i2
  replace i2:=Kh d1▸i2
  have hk1:=(List.getElem?_eq_some_iff.mp d2).1
  have hk2:=(List.getElem?_eq_some_iff.mp d3).1
  have f1:=h1.fit
  have f3:Fit (ac (one.take k)) (2^log):=Fit.pre (by rewrite[← i1];exact f1)
  refine Jh (dY h5 h20 f1) fun p1 p2=>?_
  refine Jh (dY h5 h20 h2.fit) fun q1 q2=>?_
  refine Jh (cf (its:=ac one) h5 h20) fun k1 k2=>?_
  refine Jh (cf (its:=ac other) h5 h20) fun l1 l2=>?_
  have s1:Par (TF (ac one) log).1 (ac (one.take k)) 4 (2^log):=Par.pre (b:=r1) (by rewrite[← i1];exact p1)
  have s2:Par (TF (ac other) log).1 (ac (one.take k)) 4 (2^log):=Par.pre (b:=r2) (by rewrite[← i2];exact q1)
  refine Kg k a b (fun i hi=>?_) d2 d3 d4 f3 ?_ ?_ ?_
  ·have e1:(one.take k)[i]?=one[i]?:=List.getElem?_take_of_lt hi
   have e2:(other.take k)[i]?=other[i]?:=List.getElem?_take_of_lt hi
   refine Jl _ (List.getElem?_eq_getElem (show i<one.length by exact (lC 0x18c4421106200883108401) hk1 hi)) ?_
   refine e2▸?_;refine d1▸?_;refine Kh e1▸?_
   exact List.getElem?_eq_getElem _
  ·have hp3:=(dh (one.take k)).2
   refine Jf hp3 ?_;clear hp3;intro t hp3
   have:=congrArg List.length hp3
   replace this:=List.length_take▸(List.length_append▸this)
   have hl:=h1.len
   have:=dq (its:=ac (one.take k)) h5 h20 (by exact (lF 0x18c6206408620c0c810c2191061104e10803108401) hk1 this hl)
   exact (lA 0x1881f4018c01812c418c01) this
  ·refine Kh (dH h5 h20 f1)▸?_;refine Kh (dH h5 h20 h2.fit)▸?_;rewrite[iR];refine Kh (ew h5 h20 k1 s1)▸?_;refine Kh (ew h5 h20 l1 s2)▸?_;rfl
  ·refine Kh (dH h5 h20 f1)▸?_;refine Kh (dH h5 h20 h2.fit)▸?_
   intro w
   rewrite[iR]at w
   apply hne
   rcases Nat.le_total (TF (ac one) log).2 (TF (ac other) log).2 with hm|hm
   ·replace w:=Nat.min_eq_right hm▸w
    exact hU h1.cmp h2.cmp (Par.agr w (by exact (lB 0x1880024084829102120801) k2) p1) q1
   ·replace w:=Nat.min_eq_left hm▸w
    exact hU h1.cmp h2.cmp p1 (Par.agr w.symm (by exact (lB 0x1880024084829102120801) l2) q1)
section
theorem fL {W N e:Nat}{lg ms:Int}{cs:List Int}(h:aQ W N lg ms= .ok cs e):4≤N∧((W%16+5:Nat):Int)≤lg∧
  ∃its,Cmp its (2^(W%16+5))∧Par W its 4 (2^(W%16+5))∧cs=ad its∧e=4+tn its (2^(W%16+5))∧e≤N∧(∀x∈its,x.2≤ms.toNat)∧(cs.length:Int)≤ms+1:=by
 unfold aQ at h
 by_cases h4:N<4
 ·replace h:=if_pos h4▸h;cases h
 replace h:=if_neg h4▸h
 by_cases hl:lg<((W%16+5:Nat):Int)
 ·replace h:=if_pos hl▸h;cases h
 replace h:=if_neg hl▸h
 refine JZ (zO (by exact (lA 0xc400120b7120801) h4) h) fun its t1 t2 t3 t4 t5 t6 t7=>?_
 exact⟨by exact (lA 0xc400120b7120801) h4,by exact (lD 0x31400564289501003baac8512a0200401) hl,its,t1,t2,t3,t4,t5,t6,t7 (k8 t1)⟩
theorem kT {W N:Nat}{lg ms:Int}{its:List (Int × Nat)}(h4:4≤N)(hl:((W%16+5:Nat):Int)≤lg)(hc:Cmp its (2^(W%16+5)))(hp:Par W its 4 (2^(W%16+5)))(hN:4+tn its (2^(W%16+5))≤N)(hm:((ad its).length:Int)≤ms+1):
  aQ W N lg ms= .ok (ad its) (4+tn its (2^(W%16+5))):=by
 unfold aQ
 rw[if_neg (by exact (lA 0xc6e241003000482) h4),if_neg (by exact (lD 0x31baac8512a0200401a002b2144a80801) hl)]
 exact(fN (W:=W) (W':=W) (ms:=ms) rfl (f:=N+1) (cs:=[]) hc hp (by exact (lA 0x62000905000482) h4) (by exact (lA 0x1889022004a41003000482) h4)).1 hN hm
theorem p7 {W N:Nat}{lg ms:Int}(h4:4≤N)(h:lg<((W%16+5:Nat):Int)):aQ W N lg ms= .table:=by
 unfold aQ
 rw[if_neg (by exact (lA 0xc6e241003000482) h4),if_pos h]
section
variable {W W' N N':Nat}{lg ms:Int}(hW:W%2^N=W'%2^N)(hN:N≤N')(h4:4≤N)
include hW hN h4
theorem iq:W'%16=W%16:=by
 refine mG (W:=W) h4▸?_;refine Kh hW▸?_;refine Kh (mG h4)▸?_;rfl
theorem Bj {cs:List Int}{e:Nat}(h:aQ W N lg ms= .ok cs e):aQ W' N' lg ms= .ok cs e:=by
 rcases fL h with ⟨_,h2,its,t1,t2,t3,t4,t5,t6,t7⟩
 have hl:=iq hW hN h4
 subst t3 t4
 have:=kT (W:=W') (N:=N') (lg:=lg) (ms:=ms) (its:=its) (by exact (lB 0x18c402120a000905008401) hN h4) (by rewrite[hl];exact h2) (by rewrite[hl];exact t1) (by rewrite[hl];exact Par.agr hW (by exact (lB 0x1880424004828042400482) t5) t2) (by rewrite[hl];exact (lC 0x63100848209050004820905008401) hN t5) t7
 replace this:=hl▸this
 exact this
theorem rF (h:aQ W N lg ms= .table):aQ W' N' lg ms= .table:=by
 have hl:=iq hW hN h4
 unfold aQ at h ⊢
 rw[if_neg (by lia)]at h ⊢
 refine Kh hl▸?_
 by_cases hlg:lg<((W%16+5:Nat):Int)
 ·refine Kh (if_pos hlg)▸?_;rfl
 ·rw[if_neg hlg]at h ⊢
  rw[zP hW hN (show N+1≤N'+1 by exact (lB 0x1881022084811003008401) hN) (by rewrite[h];exact fun q=>nomatch q),h]
omit hN hW in
theorem ui (h:aQ W N lg ms= .table)(hlg:((W%16+5:Nat):Int)≤lg)(hb:N≤400):aQ W N lg 999= .cut∨∃cs e,aQ W N lg 999= .ok cs e∧ms+1<(cs.length:Int):=by
 cases hr:aQ W N lg 999 with
 |cut=>exact .inl rfl
 |table=>
  unfold aQ at hr
  rw[if_neg (by lia),if_neg (by exact (lD 0x31baac8512a0200401a002b2144a80801) hlg)]at hr
  exact absurd hr (zQ (by exact (lA 0x629f3886b300221419010c01) hb) (by exact (lA 0x62000905000482) h4) (Nat.zero_le _))
 |ok cs e=>
  refine .inr ⟨cs,e,rfl,?_⟩
  rcases fL hr with ⟨_,h2,its,t1,t2,t3,t4,t5,t6,t7⟩
  subst t3 t4
  rcases Int.lt_or_le (ms+1) ((ad its).length:Int)with q|q
  ·exact q
  ·replace h:=kT h4 h2 t1 t2 t5 q▸h
   cases h
theorem wo {n:Nat}(hn:N=8*n)(h:aQ W N lg ms= .cut){cs:List Int}{e:Nat}(hr:aQ W' N' lg ms= .ok cs e):n<(e+7)/8:=by
 rcases fL hr with ⟨_,h2,its,t1,t2,t3,t4,t5,t6,t7⟩
 have hl:=iq hW hN h4
 rcases Nat.lt_or_ge n ((e+7)/8)with q|q
 ·exact q
 ·subst t3 t4
  rw[hl]at t1 t2 t5 h2 q
  have hp:Par W its 4 (2^(W%16+5)):=Par.agr (N:=N) hW.symm (by exact (lC 0xc62000904120a010a50221c44104829182140801) hn q) t2
  rw[kT (by exact (lB 0xc620009052304281003000482) h4 hn) h2 t1 hp (by lia) t7]at h
  cases h
end
end
theorem SdB.fresh (n:Nat){v:VC}{l rest:List Stmt}{ρ:Loc}{σ:aa}{Q:MF→Loc→aa→Prop}{X:XP}{es:List PySem.Expr}{p pos:Pos}(hl:l= .Return (some (.List es p)) pos::rest)
  (h:Mine.run n (.l v es ρ σ (fun vs σ₁=>(noRefs vs=true∧vs.length≤ai)∧Q (.ret (.ref σ₁.length)) ρ (σ₁++[.list vs])) noX)):SdB v l ρ σ Q X:=by
 subst hl
 exact SdB.cons fun C w=>wu (QE:=fun y σ'=>Q (.ret y) ρ σ') (kM (WL.mono (ay n _ h C w.e) (fun _ _ q=>q) fun _ _ q=>q.elim) fun vs σ₁ q=>⟨q.1,q.2⟩) fun x σ₁ q=>q
theorem i9 {cell:Int}{σ:aa}:Fn 1 (.ofString "_law_box") [.int cell] σ (.ok (.ref σ.length) (σ++[.list [.int (if(0:Int)<cell-10^18 then cell-10^18 else 0),.int (cell%2147483629),.int 0]])):=by
 refine FnS.mk' (A:=(ah 23).1) (body:=(ah 23).2.1) (sc:=(ah 23).2.2) rfl (ρ':=[lc "cell" (.int cell)]) rfl true rfl fun d b _ _ C w=>?_
 have:SdB ⟨(ah 23).2.2.names,d,b⟩ (ah 23).2.1 [lc "cell" (.int cell)] σ (fun f ρ' σ'=>ends true σ (.ok (f,ρ') σ')=some (.ok (.ref σ.length) (σ++[.list [.int (if(0:Int)<cell-10^18 then cell-10^18 else 0),.int (cell%2147483629),.int 0]]))) noX:=by
  refine SdB.fresh 40 rfl ?_
  exact JA ⟨by decide,by decide,by decide⟩ (by decide) ⟨rfl,Nat.le_of_ble_eq_true rfl⟩ rfl
 exact(this.out C w).mono (fun f ρ' σ' q=>.intro _ q rfl) fun _ _ q=>q.elim
noncomputable abbrev drρ (log many left items later piece count:MV):Loc:=[lc "box" (.ref 0),lc "log" log,lc "many" many,lc "left" left,lc "items" items,lc "later" later,lc "piece" piece,lc "count" count]
structure Drawn (its:List (Int × Nat))(log:Nat):Prop where
 cmp:Cmp its (2^log)
 m:∀x∈its,x.2≤6
 len:its.length≤12
 two:2≤its.length
noncomputable def dn:Nat→List MV
 |0=>[]
 |k+1=>.int k::dn k
theorem H3 {σ:aa}{x:Int}(h0:0≤x)(h1:x<5):∃t:Nat,t≤2∧eD σ (.list [.int 0,.int 2,.int 1,.int 0,.int 1]) (.int x)=some (.int t):=by
 have:x=0∨x=1∨x=2∨x=3∨x=4:=by exact (lE 0x18c6b5ad5882006c31003610801b04400d802006a51003400402) h0 h1
 rcases this with rfl|rfl|rfl|rfl|rfl
 ·exact Jl 0 (by decide) rfl
 ·exact Jl 2 (by decide) rfl
 ·exact Jl 1 (by decide) rfl
 ·exact Jl 0 (by decide) rfl
 ·exact Jl 1 (by decide) rfl
theorem H1 {σ:aa}{x:Int}(h0:0≤x)(h1:x<8):∃t:Nat,t≤6∧eD σ (.list [.int 0,.int 1,.int 2,.int 3,.int 0,.int 3,.int 4,.int 6]) (.int x)=some (.int t):=by
 refine Jf (Int.eq_ofNat_of_zero_le h0) ?_;intro x κ;subst κ
 have:=xr8 x (Int.ofNat_lt.mp h1)
 rcases this with rfl|rfl|rfl|rfl|rfl|rfl|rfl|rfl
 ·exact Jl 0 (by decide) rfl
 ·exact Jl 1 (by decide) rfl
 ·exact Jl 2 (by decide) rfl
 ·exact Jl 3 (by decide) rfl
 ·exact Jl 0 (by decide) rfl
 ·exact Jl 3 (by decide) rfl
 ·exact Jl 4 (by decide) rfl
 ·exact Jl 6 (by decide) rfl
structure Grow (its:List (Int × Nat))(len:Nat)(sum:Nat):Prop where
 wf:∀x∈its, -1≤x.1∧(x.1≠0→x.2=0)∧x.2≤6
 len:its.length≤len
 sum:tot its=sum
theorem Grow.snoc {its:List (Int × Nat)}{len sum len' sum':Nat}{c:Int}{m:Nat}(h:Grow its len sum)(h1: -1≤c)(h2:c≠0→m=0)(h3:m≤6)(h4:len+1≤len')(h5:sum'=sum+c.natAbs):Grow (its++[(c,m)]) len' sum':=by
 refine⟨fun x hx=>?_,?_,?_⟩
 ·rcases List.mem_append.mp hx with hx|hx
  ·exact h.wf x hx
  ·refine Kh (List.mem_singleton.mp hx)▸?_;exact Jn h1 h2 h3
 ·refine Kh List.length_append▸?_;refine Kh List.length_singleton▸?_;exact Nat.le_trans (Nat.add_le_add_right h.len 1) h4
 ·refine Kh fj▸?_;refine Kh h.sum▸?_;refine Kh h5▸?_;rfl
theorem iU {its:List (Int × Nat)}{x:Int × Nat}:its.map itM++[itM x]=(its++[x]).map itM:=by simp
noncomputable def DrI (n log many:Nat)(todo:List MV)(ρ:Loc)(σ:aa):Prop:=∃(k:Nat) (its:List (Int × Nat)) (B':Bx) (left:Nat) (x1 x2 x3:MV),todo=dn k∧ρ=drρ (.int log) (.int many) (.int left) (.ref 1) x1 x2 x3∧σ=[B'.mo,.list (its.map itM)]∧
  B'.Ok (n+6*(4-k))∧Grow its (12-3*k) (2^log-left)∧left≤2^log∧k≤left∧(k=0→left=0∧NoZ its)∧many+1≤its.length+k∧k≤4
theorem fU {B:Bx}{n log many:Nat}(hB:B.Ok n)(hn:n≤100000)(hl:log≤20)(h5:5≤log)(hm1:1≤many)(hm3:many≤3):
  FnS 2 (.ofString "_law_drawn") [.ref 0,.int log,.int many] [B.mo] (.all fun r=>∃(its:List (Int × Nat)) (B':Bx),Drawn its log∧B'.Ok (n+24)∧r= .ok (aJ its) [B'.mo]):=by
 have hp20:2^log≤1048576:=Nat.pow_le_pow_right (n:=2) (by decide) hl
 have hp5:32≤2^log:=Nat.pow_le_pow_right (n:=2) (by decide) h5
 have hr:bG [.int many,.int (-1),.int (-1)]=some (dn (many+1)):=by
  have:many=1∨many=2∨many=3:=by exact (lA 0x18c6b5218801908400c822006031003000422) hm1 hm3
  rcases this with rfl|rfl|rfl<;>rfl
 refine Fn.ex (k:=1) 25 (ρ:=drρ (.int log) (.int many) .undef .undef .undef .undef .undef) rfl rfl rfl ?_
 refine SdB.tup 40 true rfl rfl ⟨⟨Int.natCast_nonneg _,by exact (lA 0xc53d09008358030a0801) hl,by decide⟩,Nat.zero_le _,⟨rfl,rfl,Nat.le_of_ble_eq_true rfl⟩,_,rfl,?_⟩
 have e2:(2:Int)^((log:Nat):Int).toNat=((2^log:Nat):Int):=by rewrite[Int.toNat_natCast];push_cast;rfl
 refine(?_:SdB _ _ (drρ (.int log) (.int many) (.int ((2:Int)^((log:Nat):Int).toNat)) (.ref 1) .undef .undef .undef) [B.mo,.list ([].map itM)] _ _)
 refine Kh e2▸?_
 refine SdB.for_ 40 (by rfl) (by rfl) ⟨_,hr,DrI n log many,?_,?_,?_⟩
 ·exact⟨many+1,[],B,2^log,_,_,_,rfl,rfl,rfl,hB.mono (by exact lB 0x10218a408821208c200401),⟨fun x hx=>(nomatch hx),Nat.zero_le _,by rewrite[tot];refine Kh (Nat.sub_self _)▸?_;rfl⟩,Nat.le_refl _,by exact (lB 0x3188042408801804210087018801) hm3 hp5,fun q=>by exact((lA 0x31c9004408801) q).elim,by simp,by exact (lA 0x310208811003018801) hm3⟩
 ·rintro x todo ρ σ ⟨k,its,B',left,x1,x2,x3,h1,rfl,rfl,h3,h4,h6,h7,_,h8,h9⟩
  cases k with
  |zero=>cases h1
  |succ k=>
   cases h1
   refine Jl _ rfl ?_
   have hd5:=H3 (σ:=[B'.next 5|>.mo,.list (its.map itM)]) (Bx.digit_lo (B:=B') (m:=5) (by decide)) (Bx.digit_hi (by decide))
   refine tr hd5 ?_;clear hd5;intro t ht hd5
   have hB1:(B'.next 5).Ok (n+6*(4-(k+1))+1):=h3.next (by decide)
   refine SdB.for_ 40 (by rfl) (by rfl) ⟨Nat.le_of_ble_eq_true rfl,_,_,ax h3 (by exact (lB 0x188773594006190c5204410904610030186a020c01) hn) (by decide) (by decide),Nat.le_refl _,_,hd5,_,cU (by exact (lA 0x621e848041803010801) ht),fun todo ρ σ=>∃(B2:Bx) (its2:List (Int × Nat)) (y:MV),ρ=drρ (.int log) (.int many) (.int left) (.ref 1) (.int k) y x3∧σ=[B2.mo,.list (its2.map itM)]∧
    todo.length≤t∧(∀x∈todo,∃i:Int,x= .int i)∧B2.Ok (n+6*(4-(k+1))+1+(t-todo.length))∧Grow its2 (12-3*(k+1)+(t-todo.length)) (2^log-left)∧its.length≤its2.length,?_,?_,?_⟩
   ·refine J4 _ its _ rfl rfl (by simp) (fun x hx=>?_) (by simpa using hB1) (by simpa using h4) (Nat.le_refl _)
    refine tr (List.mem_map.mp hx) ?_;intro i _ κ;subst κ
    exact Jo _ rfl
   ·rintro x todo ρ σ ⟨B2,its2,y,rfl,rfl,g1,g2,g3,g4,g5⟩
    refine Jf (g2 x (List.mem_cons_self ..)) ?_;intro i κ;subst κ
    rw[List.length_cons]at g1 g3 g4
    refine tr (H1 (σ:=[B2.next 8|>.mo,.list (its2.map itM)]) (Bx.digit_lo (B:=B2) (m:=8) (by decide)) (Bx.digit_hi (by decide))) fun m hm hd8=>?_
    have hlen:=g4.len
    refine Jl _ rfl (SdB.run 40 ⟨Nat.le_of_ble_eq_true rfl,_,_,ax g3 (by exact (lF 0xc6310ee6b2800c3214811082109022218a408861208c200601090221060210430186a020c01) hn ht g1) (by decide) (by decide),Nat.le_refl _,_,hd8,rfl,Nat.le_of_ble_eq_true rfl,_,rfl,?_,rfl,?_⟩)
    ·refine Kh (List.length_map _)▸?_;unfold ai;exact (lF 0x18c62010000028c41810a408821004a62044308c4c10830004811043010801) ht g1 hlen
    ·refine J4 (B2.next 8) (its2++[(0,m)]) _ rfl ?_ (by exact (lB 0x310084018042408801) g1) (fun x hx=>g2 x (List.mem_cons_of_mem _ hx)) ((g3.next (by decide)).mono (by exact (lF 0x3102140108481110c5204430904610824088852044008424088862902218482308418042408801) g1)) ?_ (by simp;exact (lB 0x310204410803008401) g5)
     ·refine iU▸?_;rfl
     ·exact g4.snoc (by decide) (fun q=>absurd rfl q) hm (by exact (lC 0x31021401084a62044208c4c110222148110021094c408841189828042408801) g1) (by exact lB 0x488b008a10802508401)
   ·rintro ρ σ ⟨B2,its2,y,rfl,rfl,g1,g2,g3,g4,g5⟩
    rw[List.length_nil,Nat.sub_zero]at g3 g4
    have g3:B2.Ok (n+6*(4-(k+1))+3):=g3.mono (by exact (lC 0xc4083110c520442090461042400481110c520442090461043010801) ht)
    have tailf:∀(c:Nat) (B3:Bx),B3.Ok (n+6*(4-(k+1))+5)→1≤c→SdB ⟨(ah 25).2.2.names,1,1⟩ (bj (hd (ah 25).2.1.tail)).tail.tail.tail (drρ (.int log) (.int many) (.int left) (.ref 1) (.int k) y (.int c)) [B3.mo,.list (its2.map itM)]
      (fun f ρ' σ'=>f= .next∧∃(e:Int) (B4:Bx),e.natAbs=c∧ -1≤e∧B4.Ok (n+6*(4-(k+1))+6)∧ρ'=drρ (.int log) (.int many) (.int ((left:Int)-c)) (.ref 1) (.int k) y (.int c)∧σ'=[B4.mo,.list ((its2++[(e,0)]).map itM)]) noX:=by
     intro c B3 b3 c1
     have hlen:=g4.len
     have app:∀(e:Int) (B4:Bx),e.natAbs=c→ -1≤e→B4.Ok (n+6*(4-(k+1))+6)→SdB ⟨(ah 25).2.2.names,1,1⟩ (bj (hd (ah 25).2.1.tail)).tail.tail.tail.tail (drρ (.int log) (.int many) (.int left) (.ref 1) (.int k) y (.int c)) [B4.mo,.list (its2.map itM++[itM (e,0)])]
      (fun f ρ' σ'=>f= .next∧∃(e:Int) (B4:Bx),e.natAbs=c∧ -1≤e∧B4.Ok (n+6*(4-(k+1))+6)∧ρ'=drρ (.int log) (.int many) (.int ((left:Int)-c)) (.ref 1) (.int k) y (.int c)∧σ'=[B4.mo,.list ((its2++[(e,0)]).map itM)]) noX:=by
      intro e B4 e1 e2 e3
      exact SdB.run 40 ⟨rfl,e,B4,e1,e2,e3,rfl,by refine iU▸?_;rfl⟩
     have hz:(its2.map itM).length≤ai:=by rewrite[List.length_map];unfold ai;exact (lC 0x31880400000a308604004a62044208c4c1043010801) ht hlen
     refine SdB.cut 40 (by rfl) ⟨fun q=>⟨_,_,ax b3 (by exact (lB 0xc43b9aca0030c85110c5204410904610030186a020c01) hn) (by decide) (by decide),Nat.le_refl _,fun q2=>?_,fun q2=>?_⟩,fun q=>?_⟩
     ·have q:(c:Int)=1:=q
      exact⟨rfl,Nat.le_of_ble_eq_true rfl,_,rfl,hz,rfl,app (-1) (B3.next 2) (by exact (lA 0x3120056c08ac112c01) (by assumption)) (by decide) ((b3.next (by decide)).mono (by exact lB 0x204308862902208482308012044428886290220848230801))⟩
     ·exact⟨rfl,Nat.le_of_ble_eq_true rfl,_,rfl,hz,rfl,app c (B3.next 2) (by exact (lA 0x3120056b006c112c01) q) (by exact (lA 0x3145802c08ac112c01) q) ((b3.next (by decide)).mono (by exact lB 0x204308862902208482308012044428886290220848230801))⟩
     ·exact⟨rfl,Nat.le_of_ble_eq_true rfl,_,rfl,hz,rfl,app c B3 (by exact (lA 0x18c48015ac01dd8225803000422) c1 q) (by exact (lA 0x18c51600b022dd8225803000422) c1 q) (b3.mono (by exact lB 0x4086110c520441090461002428886290220848230801))⟩
    have fin:∀(c:Nat),1≤c→c≤left→k≤left-c→(k=0→c=left)→∀ρ' σ',(∃(e:Int) (B4:Bx),e.natAbs=c∧ -1≤e∧B4.Ok (n+6*(4-(k+1))+6)∧ρ'=drρ (.int log) (.int many) (.int ((left:Int)-c)) (.ref 1) (.int k) y (.int c)∧σ'=[B4.mo,.list ((its2++[(e,0)]).map itM)])→DrI n log many (dn k) ρ' σ':=by
     rintro c c1 c2 c3 c4 ρ' σ' ⟨e,B4,e1,e2,e3,rfl,rfl⟩
     refine⟨k,its2++[(e,0)],B4,left-c,.int k,y,.int c,rfl,?_,rfl,e3.mono (by exact (lB 0x310218a00904610424308862902200482308218104408801) h9),g4.snoc e2 (fun _=>rfl) (by decide) (by exact (lB 0x18c40a6004626088111021298811002313050108218104408801) h9 ht) (xa1 h6 c2 e1),by exact (lC 0xc6310004a20843010422800210c00108043) hp5 h6 c1,c3,fun q=>⟨by have:=c4 q;exact (lC 0x3189004508441900400e2420843200801) c4 q,fun i x q=>?_⟩,?_,by exact (lA 0x310208018104408801) h9⟩
     ·rw[show(left:Int)-c=((left-c:Nat):Int) by exact (lC 0x631659441084ab105610e24108832008018144108401) c3 c4]
     ·refine ((List.append_inj' q rfl).2|>List.singleton_inj.mp)▸?_
      exact xa2 e1 c1
     ·refine Kh List.length_append▸?_;refine Kh List.length_singleton▸?_;exact (lF 0x63102082408861204400c06108604204420842408801) h8 g5
    refine SdB.cut 40 (by rfl) (SdB.if_ 40 (by rfl) ⟨fun q=>?_,fun q=>?_⟩)
    ·have q:(0:Int)<k:=q
     have hm:((left:Int)-k)=((left-k:Nat):Int):=by exact (lB 0x62cb28021095600ac218042408801) h7
     have d1:=Bx.digit_lo (B:=B2) (m:=(left:Int)-k) (by exact (lB 0x318a95600ac2100acb28021095600ac218042408801) h7 hm)
     have d2:=Bx.digit_hi (B:=B2) (m:=(left:Int)-k) (by exact (lB 0x318a95600ac2100acb28021095600ac218042408801) h7 hm)
     obtain⟨dg,hdg⟩:∃dg:Nat,B2.digit ((left:Int)-k)=dg:=⟨(B2.digit ((left:Int)-k)).toNat,by exact (lE 0x18b2d800803400402) d1⟩
     have tk:=ax (rest:=[.list (its2.map itM)]) g3 (by exact (lB 0x6310ee6b2800c320c443148110424118400d56108050186a020c01) hn (by assumption)) (show(0:Int)<(left:Int)-k by exact (lB 0x318a95600ac2100acb28021095600ac218042408801) h7 hm) (by exact (lC 0x6318ac0000000000000001a32ac41584355882014001086010000028c01) hp20 h6 (by assumption))
     rw[hdg]at tk d1 d2
     have b2:(B2.next ((left:Int)-k)).Ok (n+6*(4-(k+1))+4):=(g3.next (by exact (lB 0x318a95600ac2100acb28021095600ac218042408801) h7 hm)).mono (by exact lB 0x204208862902208482308012044418886290220848230801)
     generalize B2.next ((left:Int)-k)=B3 at *
     refine SdB.cut 40 (by rfl) ⟨_,_,tk,Nat.le_refl _,_,_,ax b2 (by exact (lB 0x6310ee6b2800c3210443148110424118400d56108050186a020c01) hn (by assumption)) (by decide) (by decide),Nat.le_refl _,fun q2=>⟨.inr (by decide),?_⟩,fun q2=>⟨.inr (by decide),?_⟩⟩
     ·refine(?_:SdB _ _ (drρ (.int log) (.int many) (.int left) (.ref 1) (.int k) y (.int (1+(dg:Int)*1))) [(B3.next 3).mo,.list (its2.map itM)] _ _)
      rw[show(1:Int)+(dg:Int)*1=((1+dg:Nat):Int) by exact (lA 0xb2c80084443044b00422)]
      exact SdB.skip ((tailf (1+dg) (B3.next 3) ((b2.next (by decide)).mono (by exact lB 0x204288862902208482308012044420886290220848230801)) (by exact lA 0x8100108822)).mono (fun f ρ' σ' h=>by refine Jh h ?_;clear h;intro κ;subst κ;intro h;exact fin (1+dg) (by exact lA 0x8100108822) (by exact (lC 0x6310084800845558820154ab105610ac01) d2 (by assumption)) (xa3 d2) (by exact (lC 0x18c48412042114802006ab00402) (by assumption)) _ _ h) (fun _ _ h=>h.elim))
     ·refine(?_:SdB _ _ (drρ (.int log) (.int many) (.int left) (.ref 1) (.int k) y (.int (1+(dg:Int)*0))) [(B3.next 3).mo,.list (its2.map itM)] _ _)
      rw[show(1:Int)+(dg:Int)*0=((1:Nat):Int) by exact (lA 0x16584443004b00422)]
      exact SdB.skip ((tailf 1 (B3.next 3) ((b2.next (by decide)).mono (by exact lB 0x204288862902208482308012044420886290220848230801)) (by exact lI 0x1008822)).mono (fun f ρ' σ' h=>by refine Jh h ?_;clear h;intro κ;subst κ;intro h;exact fin 1 (by exact lI 0x1008822) (by exact (lB 0x631000422aac2100acb28420095610ac01) hm (by assumption)) (Nat.le_sub_of_add_le h7) (by exact (lB 0x3189042114802006ab00402) (by assumption)) _ _ h) (fun _ _ h=>h.elim))
    ·have q:¬(0:Int)<k:=q
     exact SdB.skip ((tailf left B2 (g3.mono (by exact lB 0x4085110c520441090461002418886290220848230801)) (by exact (lB 0x3188042116eab004028042408801) h7 (by assumption))).mono (fun f ρ' σ' h=>by refine Jh h ?_;clear h;intro κ;subst κ;intro h;exact fin left (by exact (lB 0x3188042116eab004028042408801) h7 (by assumption)) (by exact lA 0x1000401) (by exact (lB 0xc40a1084200eeab00402) (by assumption)) (by exact lB 0x62410843200801) _ _ h) (fun _ _ h=>h.elim))
 ·rintro ρ σ ⟨k,its,B',left,x1,x2,x3,h1,rfl,rfl,h3,h4,h6,h7,h10,h8,h9⟩
  cases k with
  |succ k=>cases h1
  |zero=>
   refine Jh (h10 rfl) fun l0 hz=>?_
   subst l0
   refine SdB.run 40 ⟨_,rfl,its,B',⟨oV (fun x hx=>⟨(h4.wf x hx).1,(h4.wf x hx).2.1⟩) h4.sum hz,fun x hx=>(h4.wf x hx).2.2,h4.len,by exact (lB 0x63100844281002084811003000422) hm1 h8⟩,h3,rfl⟩
section
noncomputable abbrev wlρ (af counts log items at_ left k word wide more group:MV):Loc:=[lc "whole" af,lc "counts" counts,lc "log" log,lc "items" items,lc "at" at_,lc "left" left,lc "k" k,lc "word" word,lc "wide" wide,lc "more" more,lc "group" group]
theorem dQ {n k:Nat}(h:k≤n):br n (k:Int)=k:=by
 unfold br
 rw[if_pos (by exact lA 0x28b00402),Int.toNat_natCast]
 exact (lB 0x312004e10803008401) h
theorem v7 {A B C:List Int}{x y:Int}(hx:x=(A.length:Nat))(hy:y=((A.length+B.length:Nat):Int)):cut ((A++(B++C)).map MV.int) (some x) (some y)=B.map .int:=by
 subst hx hy
 unfold cut
 have h1:A.length≤((A++(B++C)).map MV.int).length:=by simp
 have h2:A.length+B.length≤((A++(B++C)).map MV.int).length:=by simp only[List.length_map,List.length_append];exact lC 0x204208210802408401
 simp only[Option.elim_some,dQ h1,dQ h2]
 rw[← List.map_drop,← List.map_take,List.drop_left,show A.length+B.length-A.length=B.length by exact lB 0x48212802408401,List.take_left]
theorem v5 {w a n:Nat}:(w:Int)/2^((a:Nat):Int).toNat%2^((n:Nat):Int).toNat=((w/2^a%2^n:Nat):Int):=by rewrite[Int.toNat_natCast,Int.toNat_natCast];push_cast;rfl
theorem tO {w a:Nat}:(w:Int)/2^((a:Nat):Int).toNat%4=((w/2^a%4:Nat):Int):=by rewrite[Int.toNat_natCast];push_cast;rfl
theorem pD {b:Nat}(h:b≤8000):((2:Int)^((b:Nat):Int).toNat).natAbs.log2<9000:=by
 have:((2:Int)^((b:Nat):Int).toNat).natAbs=2^b:=by
  refine Kh (Int.toNat_natCast _)▸?_
  have:(2:Int)^b=((2^b:Nat):Int):=by push_cast;rfl
  refine Kh this▸?_;refine Kh (Int.natAbs_natCast _)▸?_;rfl
 refine Kh this▸?_;refine Kh Nat.log2_two_pow▸?_
 exact (lA 0x188a32818c0181f4018c01) h
theorem d6:∀{l:List (Int × Nat)},l.length≤(ad l).length
 |[]=>Nat.zero_le _
 |(c,m)::r=>by
  have:=d6 (l:=r)
  rewrite[ad];refine Kh List.length_append▸?_;refine Kh List.length_replicate▸?_;refine Kh List.length_cons▸?_
  exact (lC 0xc408109041088811003008401) this
noncomputable abbrev wlR (W:Nat)(row:List Int)(log a left k:Nat)(x1 x2 x3 x4:MV):Loc:=wlρ (.int W) (ag row) (.int log) (.ref 1) (.int a) (.int left) (.int k) x1 x2 x3 x4
inductive WlI (W log fin:Nat)(its:List (Int × Nat))(X:MO):Nat→Loc→aa→Prop
 |mk (done todo:List (Int × Nat)) (a left:Nat) (x1 x2 x3 x4:MV) (h1:its=done++todo) (h2:Cmp todo left) (h3:left≤1048576) (h4:Par W todo a left) (h6:a+tn todo left=fin):
  WlI W log fin its X todo.length (wlR W (ad its) log a left (ad done).length x1 x2 x3 x4) [X,.list (done.map itM)]
inductive WlJ (W log left k m a2:Nat)(row:List Int)(w1 w2:MV)(σ:aa):Nat→Loc→aa→Prop
 |on (a more m':Nat) (i2:Gr W a (az 0 m')) (i3:more+m'=m) (i4:a+2*(az 0 m').length=a2):WlJ W log left k m a2 row w1 w2 σ (m'+1) (wlR W row log a left k w1 w2 (.int more) (.int (3:Nat))) σ
 |off (g:Nat) (i1:g≠3):WlJ W log left k m a2 row w1 w2 σ 0 (wlR W row log a2 left k w1 w2 (.int m) (.int g)) σ
section
variable {W log left k m a2 d b:Nat}{row:List Int}{w1 w2:MV}{σ:aa}{Q:MF→Loc→aa→Prop}{X:XP}
theorem l7 (ha:a2≤8000)(post:∀g:Nat,SdB ⟨(ah 30).2.2.names,d,b⟩ (bj (Mine.hd (ah 30).2.1.tail.tail)).tail.tail.tail.tail (wlR W row log a2 left k w1 w2 (.int m) (.int g)) σ Q X){n:Nat}{ρ:Loc}(h:WlJ W log left k m a2 row w1 w2 σ n ρ σ):
  SdB ⟨(ah 30).2.2.names,d,b⟩ (bj (Mine.hd (ah 30).2.1.tail.tail)).tail.tail.tail ρ σ Q X:=by
 refine SdB.while_ 40 (by rfl) (WlJ W log left k m a2 row w1 w2 σ) ⟨n,h⟩ ?_
 rintro _ _ _ (⟨a,more,m',i2,i3,i4⟩|⟨g,i1⟩)
 ·refine Jg (fun _=>?_) (fun w=>absurd rfl w)
  refine SdB.cut 40 (by rfl) ⟨⟨Int.natCast_nonneg _,by exact (lC 0x6314f424020d610c801218411082181f4018c01) ha i4,by decide⟩,⟨da,pD (by exact (lC 0x18c40fa00c610c801218411082181f4018c01) ha i4)⟩,by decide,?_⟩
  refine(?_:SdB _ _ (wlR W row log a left k w1 w2 (.int more) (.int ((W:Int)/2^((a:Nat):Int).toNat%4))) σ _ _)
  refine Kh tO▸?_
  by_cases h3:3≤m'
  ·rw[eI h3]at i2 i4
   replace i4:=List.length_cons▸i4
   refine Kh i2.1▸?_
   exact SdB.run 40 ⟨m'-3+1,by exact (lA 0xc448110024088a31003000462) h3,.on (a+2) (more+3) (m'-3) i2.2 (by exact (lC 0x18c4841214620848310030084629082408401) i3 h3) (by exact (lC 0x1890824304221104200642090c40882110801) i4)⟩
  ·rw[cK (by exact (lC 0x18c446208770084629082408401) i3 h3)]at i2 i4
   replace i4:=List.length_singleton▸i4
   refine Kh i2.1▸?_
   have e1:a+2=a2:=by exact (lB 0xc4821208400c8212182210801) i4
   subst e1 i3
   exact SdB.run 40 ⟨0,by exact lA 0x8902200402,.off m' (by exact (lA 0xc4c620077000462) h3)⟩
 ·exact Jg (fun w=>absurd (Int.ofNat_inj.mp w) i1) (fun _=>post g)
theorem uC {done r:List (Int × Nat)}{c:Int}{Y:MO}(hrow:row=ad done++(List.replicate (1+m) c++ad r))(hl:row.length≤200){g:Nat}
  (hQ:Q .next (wlR W row log a2 left (ad (done++[(c,m)])).length w1 w2 (.int m) (.int g)) [Y,.list ((done++[(c,m)]).map itM)]):
  SdB ⟨(ah 30).2.2.names,d,b⟩ (bj (Mine.hd (ah 30).2.1.tail.tail)).tail.tail.tail.tail (wlR W row log a2 left (ad done).length w1 w2 (.int m) (.int g)) [Y,.list (done.map itM)] Q X:=by
 have hlen:row.length=(ad done).length+(1+m+(ad r).length):=by refine Kh hrow▸?_;refine Kh List.length_append▸?_;refine Kh List.length_append▸?_;refine Kh List.length_replicate▸?_;rfl
 have hat:row[(ad done).length]?=some c:=by
  refine Kh hrow▸?_;refine Kh (List.getElem?_append_right (Nat.le_refl _))▸?_;refine Kh (Nat.sub_self _)▸?_;refine Kh (Nat.add_comm _ _)▸?_;refine Kh List.replicate_succ▸?_
  rfl
 have hcut:cut (row.map MV.int) (some ((ad done).length:Int)) (some (((ad done).length:Int)+1+(m:Int)))=(List.replicate (1+m) c).map .int:=by
  refine Kh hrow▸?_
  exact v7 rfl (by rewrite[List.length_replicate];push_cast;exact lB 0x16211610844b0048b0848112c01)
 have hne:de [Y,.list (done.map itM)] .NotEq (.list (cut (row.map MV.int) (some ((ad done).length:Int)) (some (((ad done).length:Int)+1+(m:Int))))) (ag (List.replicate (1+m) c))=some false:=by
  refine Kh hcut▸?_
  refine(?_:(meq (ag (List.replicate (1+m) c)) (ag (List.replicate (1+m) c))).map (!·)=_)
  refine Kh (mL _ _)▸?_
  simp
 have hdl:(done.map itM).length≤ai:=by
  refine Kh (List.length_map _)▸?_
  have:done.length≤(ad done).length:=d6
  unfold ai;exact (lH 0x631880400000a320601090322106120821104200c0c810c01) hl hlen this
 have hk:((ad done).length:Int)+1+(m:Int)=((ad (done++[(c,m)])).length:Nat):=by
  refine Kh aA▸?_;refine Kh List.length_append▸?_;refine Kh (show ad [(c,m)]=List.replicate (1+m) c++[]from rfl)▸?_;refine Kh (List.append_nil _)▸?_;refine Kh List.length_replicate▸?_
  push_cast
  exact lB 0x16211610844b0048b0848112c01
 have hQ:Q .next (wlρ (.int W) (ag row) (.int log) (.ref 1) (.int a2) (.int left) (.int (((ad done).length:Int)+1+(m:Int))) w1 w2 (.int m) (.int g)) [Y,.list (done.map itM++[itM (c,m)])]:=by rewrite[hk,iU];exact hQ
 exact SdB.if_ 40 (by rfl) ⟨_,a7 hat,Nat.le_of_ble_eq_true rfl,_,hY (by exact (lH 0x631880c35010620d9640916209022584322106120821104200c0c810c01) hl hlen hk),false,hne,fun w=>(nomatch w),fun _=>SdB.skip (SdB.cut 40 (by rfl) ⟨_,a7 hat,rfl,Nat.le_of_ble_eq_true rfl,_,rfl,hdl,rfl,SdB.run 40 hQ⟩)⟩
theorem uB {log fin a left:Nat}{its done r:List (Int × Nat)}{c:Int}{m:Nat}{Y:MO}{x1 x2 x3 x4:MV}(hb:fin≤8000)(hl:(ad its).length≤200)(h1:its=done++(c,m)::r)(h2:Cmp ((c,m)::r) left)(h3:left≤1048576)(h4:Par W ((c,m)::r) a left)(h6:a+tn ((c,m)::r) left=fin)
  (hQ:∀ρ σ,WlI W log fin its Y r.length ρ σ→Q .next ρ σ) (hd:1≤d):
  SdB ⟨(ah 30).2.2.names,d,b⟩ (bj (Mine.hd (ah 30).2.1.tail.tail)) (wlR W (ad its) log a left (ad done).length x1 x2 x3 x4) [Y,.list (done.map itM)] Q X:=by
 refine JF h2 ?_;clear h2;intro l0 c1 c2 c3 c4
 refine Jr h4 ?_;clear h4;intro p1 p2 p3
 replace h6:=bK▸h6
 have hrow:ad its=ad done++(List.replicate (1+m) c++ad r):=by refine Kh h1▸?_;refine Kh aA▸?_;rewrite[ad];rfl
 have hlen:(ad its).length=(ad done).length+(1+m+(ad r).length):=by refine Kh hrow▸?_;refine Kh List.length_append▸?_;refine Kh List.length_append▸?_;refine Kh List.length_replicate▸?_;rfl
 have hat:(ad its)[(ad done).length]?=some c:=by
  refine Kh hrow▸?_;refine Kh (List.getElem?_append_right (Nat.le_refl _))▸?_;refine Kh (Nat.sub_self _)▸?_;refine Kh (Nat.add_comm _ _)▸?_;refine Kh List.replicate_succ▸?_
  rfl
 have hcc:c+1=(((c+1).toNat:Nat):Int):=by exact (lE 0xc596c2044009022006800b022) c1
 have fw:=gL (σ:=[Y,.list (done.map itM)]) (value:=(c+1).toNat) (most:=left+1) (by exact lA 0x8902200402) (by exact (lA 0x188f7359400619022006010000028c01) h3) (by exact (lD 0x318c623dcd6500186c204400d96c2044009022006000ac01a002c08a010000028c01) h3 c1 c2 hcc)
 replace fw:=Kh hcc▸fw
 generalize am (c+1).toNat (left+1)=w at *
 rcases w with ⟨word,wide⟩
 dsimp only at p1 p2 p3 fw h6
 have e2:((left:Int)-(c.natAbs:Int))=((left-c.natAbs:Nat):Int):=by exact (lD 0x62cb2ac01004ab5802b006000ac01) c2
 have hpost:∀g:Nat,SdB ⟨(ah 30).2.2.names,d,b⟩ (bj (Mine.hd (ah 30).2.1.tail.tail)).tail.tail.tail.tail (wlR W (ad its) log (a+(wide+2*(az c m).length)) (left-c.natAbs) (ad done).length (.int word) (.int wide) (.int m) (.int g)) [Y,.list (done.map itM)] Q X:=fun g=>
  uC hrow hl (hQ _ _ (.mk (done++[(c,m)]) r _ _ _ _ _ _ (by rewrite[h1,List.append_assoc];rfl) c4 (by exact (lD 0x31880400000a32ac01006cb2ac01004ab5802b006010000028c01) h3 e2) (by rewrite[← Nat.add_assoc];exact p3) (by exact (lH 0x624409061210c2088410803220484184861044208401) h6)))
 refine SdB.cut 40 (by rfl) ⟨_,a7 hat,_,_,fw,hd,?_⟩
 refine SdB.if_ 40 (by rfl) ⟨⟨Int.natCast_nonneg _,by exact (lH 0x18c53d090083584320048420486184421042181f4018c01) hb h6,by decide⟩,⟨da,pD (by exact (lH 0x63103e803184320048420486184421042181f4018c01) hb h6)⟩,⟨Int.natCast_nonneg _,by exact (lH 0x18c53d090083588320048420486184421042181f4018c01) hb h6,by decide⟩,da,fun w=>SdB.skip ?_,fun w=>absurd ?_ w⟩
 ·refine SdB.tup 40 false rfl rfl ⟨_,a7 hat,_,a7 hat,fun w=>⟨.inl (by decide),⟨rfl,rfl,Nat.le_of_ble_eq_true rfl⟩,_,rfl,?_⟩,fun w=>⟨.inl (by decide),⟨rfl,rfl,Nat.le_of_ble_eq_true rfl⟩,_,rfl,?_⟩⟩
  ·have w:c=0:=w
   subst w
   refine(?_:SdB _ _ (wlρ (.int W) (ag (ad its)) (.int log) (.ref 1) (.int (a+wide:Nat)) (.int ((left:Int)-((0:Int).natAbs:Int))) (.int (ad done).length) (.int word) (.int wide) (.int (0:Nat)) (.int (3:Nat))) [Y,.list (done.map itM)] _ _)
   refine Kh e2▸?_
   exact l7 (by exact (lH 0xc6207d0063210c308842084320048420486184421042181f4018c01) hb h6) hpost (.on (a+wide) 0 m p2 (Nat.zero_add _) (Nat.add_assoc ..))
  ·have w:¬c=0:=w
   replace hpost:=eR w▸hpost
   have hm:=c3 w
   subst hm
   refine(?_:SdB _ _ (wlρ (.int W) (ag (ad its)) (.int log) (.ref 1) (.int (a+wide:Nat)) (.int ((left:Int)-(c.natAbs:Int))) (.int (ad done).length) (.int word) (.int wide) (.int (0:Nat)) (.int (0:Nat))) [Y,.list (done.map itM)] _ _)
   refine Kh e2▸?_
   exact l7 (m:=0) (a2:=a+wide) (by exact (lH 0x31881f4018c82084320048420486184421042181f4018c01) hb h6) hpost (.off 0 (by decide))
 ·refine(?_:(W:Int)/2^((a:Nat):Int).toNat%2^((wide:Nat):Int).toNat=(word:Int))
  refine Kh v5▸?_;refine Kh p1▸?_;rfl
end
theorem jM {X:MO}{its:List (Int × Nat)}{log W:Nat}(h5:5≤log)(h20:log≤20)(hc:Cmp its (2^log))(hl:(ad its).length≤200)(hb:4+tn its (2^log)≤8000)(hp:Par W its 4 (2^log))(hW:W%16+5=log):
  Fn 2 (.ofString "_law_walked") [.int W,ag (ad its),.int log] [X] (.ok (.tup [aJ its,.int ((4+tn its (2^log):Nat):Int)]) [X]):=by
 have hp20:2^log≤1048576:=Nat.pow_le_pow_right (n:=2) (by decide) h20
 have e2:(2:Int)^((log:Nat):Int).toNat=((2^log:Nat):Int):=by rewrite[Int.toNat_natCast];push_cast;rfl
 refine Fn.sd (k:=1) 30 (ρ:=wlρ (.int W) (ag (ad its)) (.int log) .undef .undef .undef .undef .undef .undef .undef .undef) rfl rfl rfl fun d hd=>?_
 refine SdB.tup 40 false rfl rfl ⟨Nat.zero_le _,⟨Int.natCast_nonneg _,by exact (lA 0xc53d09008358030a0801) h20,by decide⟩,⟨rfl,rfl,Nat.le_of_ble_eq_true rfl⟩,_,rfl,?_⟩
 refine(?_:SdB _ _ (wlρ (.int W) (ag (ad its)) (.int log) (.ref 1) (.int 4) (.int ((2:Int)^((log:Nat):Int).toNat)) (.int 0) .undef .undef .undef .undef) [X,.list ([].map itM)] _ _)
 refine Kh e2▸?_
 refine SdB.if_ 40 (by rfl) ⟨by decide,fun q=>SdB.skip ?_,fun q=>absurd (show(W:Int)%16=(log:Int)-5 by lia) q⟩
 refine SdB.while_ 40 (by rfl) (WlI W log (4+tn its (2^log)) its X) ⟨_,.mk [] its 4 (2^log) _ _ _ _ rfl hc hp20 hp rfl⟩ ?_
 rintro _ _ _ ⟨done,todo,a,left,x1,x2,x3,x4,h1,h2,h3,h4,h6⟩
 cases todo with
 |nil=>
  replace h1:=List.append_nil _▸h1
  subst h1
  have h6:a=_:=h6
  subst h6
  exact Jg (fun q=>absurd q (by rewrite[show((ad its).map MV.int).length=(ad its).length from List.length_map ..];exact Int.lt_irrefl _)) (fun _=>SdB.run 40 ⟨rfl,Nat.le_of_ble_eq_true rfl,rfl⟩)
 |cons x r=>
  rcases x with ⟨c,m⟩
  refine Jg (fun _=>uB hb hl h1 h2 h3 h4 h6 (fun ρ σ h=>⟨_,Nat.lt_succ_self _,h⟩) hd) (fun q=>absurd ?_ q)
  refine(?_:((ad done).length:Int)<(((ad its).map MV.int).length:Nat))
  have:=gg (x:=(c,m)) (r:=r)
  refine Kh (List.length_map _)▸?_;refine Kh h1▸?_;refine Kh aA▸?_;refine Kh List.length_append▸?_
  exact (lB 0xc5564004215843100402) this
end
noncomputable def rdM (log:Nat):Rd→MV
 | .ok cs e=>.tup [ag cs,.int log,.int (((e+7)/8:Nat):Int)]
 | .table=>.str (.ofString "table")
 | .cut=>.str (.ofString "cut")
theorem bn {X:MO}{D:List UInt8}{lg ms:Int}(hms:ms≤1000):Fn 7 (.ofString "_law_read") [.bytes D,.int lg,.int ms] [X] (.ok (rdM (af D%16+5) (aQ (af D) (8*D.length) lg ms)) [X]):=by
 have h:=mW (X:=X) (D:=D) (lg:=lg) hms
 refine sA (X:=X)▸?_
 cases hr:fM D X lg ms with
 |ok cs a=>replace h:=hr▸h;exact h
 |ex c σ=>
  replace h:=hr▸h
  refine(?_:Fn 7 _ _ _ (.ok (rdM _ (if c= .ofString "BadTable" then Rd.table else Rd.cut)) [X]))
  have h:Fn 7 (.ofString "_law_read") [.bytes D,.int lg,.int ms] [X] (.ok (if c= .ofString "BadTable" then .str (.ofString "table")else .str (.ofString "cut")) [X]):=h
  by_cases hc:c= .ofString "BadTable"
  ·rw[if_pos hc]at h ⊢;exact h
  ·rw[if_neg hc]at h ⊢;exact h
theorem z4 {a b:List Int}{x y u v:Int}:meq (.tup [ag a,.int x,.int y]) (.tup [ag b,.int u,.int v])=some (decide (a=b)&&(x==u&&y==v)):=by
 unfold meq oj qP
 have d1:=fB a
 simp only[Option.elim_none,er,toPys,kE,dX,Option.map_some]
 rw[if_pos ⟨by simp[PyData.canLay0,PyData.canLayAll0,eE],by simp[PyData.canLay0,PyData.canLayAll0,eE],by simp only[PyData.depth,PyData.depthAll];exact (lA 0x310408811210800802008811003018801) d1⟩]
 simp[PyData.eqv,PyData.eqvAll,jm]
theorem vz {a:List Int}{x y:Int}{s:Str}(hs:PyData.strOk s=true):meq (.tup [ag a,.int x,.int y]) (.str s)=some false:=by
 unfold meq oj qP
 have d1:=fB a
 simp only[Option.elim_none,er,toPys,kE,dX,Option.map_some]
 rw[if_pos ⟨by simp[PyData.canLay0,PyData.canLayAll0,eE],by simp[PyData.canLay0,hs],by simp only[PyData.depth,PyData.depthAll];exact (lA 0x310408811210800802008811003018801) d1⟩]
 simp[PyData.eqv]
theorem mJ {a:List Int}{x y:Int}:meq (.tup [ag a,.int x,.int y]) (.tup [ag a,.int x,.int y])=some true:=by
 refine Kh z4▸?_;simp
theorem px {σ:aa}{a:List Int}{x y:Int}:de σ .NotEq (.tup [ag a,.int x,.int y]) (.tup [ag a,.int x,.int y])=some false:=by
 refine(?_:(meq (.tup [ag a,.int x,.int y]) (.tup [ag a,.int x,.int y])).map (!·)=_)
 refine Kh mJ▸?_;rfl
theorem vZ {σ:aa}{a:List Int}{x y:Int}:de σ .Eq (.tup [ag a,.int x,.int y]) (.tup [ag a,.int x,.int y])=some true:=mJ
theorem eU {σ:aa}{a:List Int}{x y:Int}{s:Str}(hs:PyData.strOk s=true):de σ .Eq (.tup [ag a,.int x,.int y]) (.str s)=some false:=vz hs
theorem eQ {s t:Str}(hs:PyData.strOk s=true)(ht:PyData.strOk t=true):meq (.str s) (.str t)=some (s==t):=by
 unfold meq oj qP
 simp only[Option.elim_none,er]
 rw[if_pos ⟨by simp[PyData.canLay0,hs],by simp[PyData.canLay0,ht],by simp[PyData.depth]⟩]
 simp[PyData.eqv]
theorem cJ:PyData.strOk (.ofString "table")=true:=by decide+kernel
theorem dB:PyData.strOk (.ofString "cut")=true:=by decide+kernel
theorem l9 {σ:aa}:de σ .Eq (.str (.ofString "table")) (.str (.ofString "table"))=some true:=(eQ cJ cJ).trans (by decide)
theorem qh {σ:aa}:de σ .Eq (.str (.ofString "cut")) (.str (.ofString "cut"))=some true:=(eQ dB dB).trans (by decide)
theorem HV {σ:aa}:de σ .Eq (.str (.ofString "cut")) (.str (.ofString "table"))=some false:=(eQ dB cJ).trans (by decide)
theorem HU {σ:aa}:de σ .Eq (.str (.ofString "table")) (.str (.ofString "cut"))=some false:=(eQ cJ dB).trans (by decide)
theorem H9 {σ:aa}:de σ .NotEq (.str (.ofString "cut")) (.str (.ofString "cut"))=some false:=by
 refine(?_:(meq (.str (.ofString "cut")) (.str (.ofString "cut"))).map (!·)=_)
 refine Kh (eQ dB dB)▸?_;decide
theorem H8 {σ:aa}:de σ .NotEq (.str (.ofString "table")) (.str (.ofString "table"))=some false:=by
 refine(?_:(meq (.str (.ofString "table")) (.str (.ofString "table"))).map (!·)=_)
 refine Kh (eQ cJ cJ)▸?_;decide
theorem Row.fault {cs:List Int}{log:Nat}{σ:aa}(h:Row cs log)(h5:5≤log)(h20:log≤20):Fn 2 (.ofString "counts_fault") [ag cs,.int log] σ (.ok .none σ):=by
 refine gY h5 h20 (by have:=h.len;exact (lA 0x1880c35010600c0c810c01) this) h.low ?_
 refine h.sum▸?_
 have:∀l:List Int,(∀c∈l, -1≤c)→(l.map pl).sum=((cT l:Nat):Int):=by
  intro l hl
  induction l with
  |nil=>rfl
  |cons a r ih=>
   have ha:=hl a (List.mem_cons_self ..)
   have hr:=ih fun c q=>hl c (List.mem_cons_of_mem _ q)
   unfold cT at hr ⊢
   refine Kh List.map_cons▸?_;rewrite[List.sum_cons];refine Kh List.map_cons▸?_;rewrite[List.sum_cons];refine Kh hr▸?_
   unfold pl
   split<;>push_cast<;>(first|exact (lD 0x31622c015ac0122c0108acc08801) (by assumption)|exact (lD 0x318b11600ad60091600803bb3022006800b022) ha (by assumption))
 exact this cs h.low
theorem tY {l:List Int}(h:∀i∈l,0≤i∧i<256):cG l=some (l.map fun i=>UInt8.ofNat i.toNat):=by
 induction l with
 |nil=>rfl
 |cons a r ih=>
  unfold cG
  refine Kh (if_pos (h a (List.mem_cons_self ..)))▸?_;refine Kh (ih fun i q=>h i (List.mem_cons_of_mem _ q))▸?_
  rfl
theorem fE {σ:aa}{l:List Int}(h:∀i∈l,0≤i∧i<256)(hl:l.length≤1000):bV σ (.ofString "bytes") [.list (l.map .int)]=some (.bytes (l.map fun i=>UInt8.ofNat i.toNat),σ):=by
 exact jr (by rewrite[List.length_map];unfold ai;exact (lA 0x31008000014600c3e810c01) hl) (dN _) (tY h)
noncomputable def gc (n t:Nat)(items acc:List MV)(σ:aa):Prop:=∃(B':Bx) (l:List Int),acc=l.map .int∧(∀i∈l,0≤i∧i<256)∧σ=[B'.mo]∧items.length+l.length=t∧(∀x∈items,∃i:Int,x= .int i)∧B'.Ok (n+l.length)
theorem gc.start {n t:Nat}{B:Bx}(h:B.Ok n):gc n t ((List.range t).map fun(k:Nat)=>.int (k:Int)) [] [B.mo]:=by
 refine J6 B [] rfl (fun i q=>(nomatch q)) rfl (by simp) (fun x hx=>?_) h
 refine tr (List.mem_map.mp hx) ?_;intro i _ κ;subst κ
 exact Jo _ rfl
theorem gc.turn {n t:Nat}{x:MV}{r acc:List MV}{σ:aa}(h:gc n t (x::r) acc σ)(hn:n+t≤1000000):(∃i:Int,x= .int i)∧∃(v:Int) (σ':aa),Fn 1 (.ofString "_law_take") [.ref 0,.int 256] σ (.ok (.int v) σ')∧gc n t r (acc++[.int v]) σ':=by
 refine JE h ?_;clear h;intro B l κ;subst κ;intro h1 κ2;subst κ2;intro h2 h3 h4
 replace h2:=List.length_cons▸h2
 refine⟨h3 x (List.mem_cons_self ..),_,_,ax h4 (by exact (lF 0x6310ee6b2800c320c200c82120c240884187a120106408401) hn h2) (by decide) (by decide),B.next 256,l++[B.digit 256],by simp,fun i q=>?_,rfl,by simp;exact (lC 0x624209081104200c8412042408801) h2,fun x q=>h3 x (List.mem_cons_of_mem _ q),?_⟩
 ·rcases List.mem_append.mp q with q|q
  ·exact h1 i q
  ·refine Kh (List.mem_singleton.mp q)▸?_
   exact Jg (Bx.digit_lo (by decide)) (Bx.digit_hi (by decide))
 ·refine Kh List.length_append▸?_;refine Kh List.length_singleton▸?_;rewrite[←Nat.add_assoc]
  exact h4.next (by decide)
theorem qO {σ:aa}{dl:List UInt8}{x:UInt8}:eD σ (.bytes (dl++[x])) (.int (-1))=some (.int x.toNat):=by
 refine(?_:((bg (dl++[x]).length (-1)).bind fun j=>((dl++[x])[j]?).map fun(x:UInt8)=>MV.int (x.toNat:Int))=_)
 have:bg (dl++[x]).length (-1)=some dl.length:=by
  unfold bg
  rw[if_neg (by decide),if_pos (by simp)]
  simp
 refine Kh this▸?_
 simp
theorem pU {dl:List UInt8}{x:UInt8}:cut (dl++[x]) none (some (-1))=dl:=by
 have e:br (dl++[x]).length (-1)=dl.length:=by
  unfold br
  rw[if_neg (by decide)]
  simp
 unfold cut
 simp only[Option.elim_some,Option.elim_none,e]
 simp
theorem kt {D:List UInt8}{k:Nat}(h:k≤D.length):cut D none (some (k:Int))=D.take k:=by
 unfold cut
 simp only[Option.elim_some,Option.elim_none,dQ h]
 simp
theorem add_bytes {σ:aa}{x y:List UInt8}(h:x.length+y.length≤100000):gm σ .Add (.bytes x) (.bytes y)=some (.bytes (x++y)):=if_pos (by unfold ai;exact (lB 0x31008000014640840180c350106408401) h)
theorem bk {σ:aa}{x y:List MV}(h:x.length+y.length≤100000):gm σ .Add (.list x) (.list y)=some (.list (x++y)):=if_pos (by unfold ai;exact (lB 0x31008000014640840180c350106408401) h)
noncomputable abbrev wrρ (octets counts log items row many af bits room cut last more:MV):Loc:=[lc "box" (.ref 0),lc "octets" octets,lc "counts" counts,lc "log" log,lc "items" items,lc "row" row,lc "many" many,lc "whole" af,lc "bits" bits,lc "room" room,lc "cut" cut,lc "last" last,lc "more" more]
theorem eF {B:Bx}{n log:Nat}{cs:List Int}(hB:B.Ok n)(hn:n≤100000)(h5:5≤log)(h7:log≤7)(hr:Row cs log)(hl:cs.length≤100):
  FnS 8 (.ofString "_law_written_right") [.ref 0,.bytes (ak (TF (ac cs) log).1 (TF (ac cs) log).2),ag cs,.int log] [B.mo] (.all fun r=>∃B':Bx,B'.Ok (n+10)∧r= .ok (.bool true) [B'.mo]):=by
 have hrl:=hr.rowlen
 have hfit:=hr.fit
 have hcmp:=hr.cmp
 have hfault:=hr.fault (σ:=[B.mo]) h5 (by exact (lA 0x62141003038801) h7)
 have h20:log≤20:=by exact (lA 0x62141003038801) h7
 have hbits:=dq (its:=ac cs) h5 h20 (by exact (lB 0x18c40c810c21800210c06410c01) hl hrl)
 refine Jh (cf (its:=ac cs) h5 h20) fun hk1 hk2=>?_
 refine Jh (dY h5 h20 hfit) fun hp1 hp2=>?_
 have hitems:=cq (X:=B.mo) (cs:=cs) (by exact (lA 0x1880c35010600c06410c01) hl)
 have hrow:=i7 (X:=B.mo) (its:=ac cs) (by exact (lB 0x6310186a020c21800210c06410c01) hl hrl)
 have htold:=b8 (σ:=[B.mo]) h5 h20 hfit (show(TF (ac cs) log).2≤8000 by exact (lA 0x1881f4018c01812c418c01) hbits)
 have htold:Fn 2 (.ofString "_law_told") [aJ (ac cs),.int log] [B.mo] (.ok (.tup [.int (TF (ac cs) log).1,.int (TF (ac cs) log).2]) [B.mo]):=htold
 have hread:=fun(W N:Nat) (lg ms:Int) (hW:W%2^(TF (ac cs) log).2=(TF (ac cs) log).1) (hN:(TF (ac cs) log).2≤N)=>iK (lg:=lg) (ms:=ms) h5 h20 hcmp hfit hW hN
 have hlow:=fun(W N:Nat) (lg ms:Int) (hW:W%2^(TF (ac cs) log).2=(TF (ac cs) log).1) (hN:(TF (ac cs) log).2≤N)=>sv (lg:=lg) (ms:=ms) h5 h20 hW hN
 have hshort:=fun(W N:Nat) (lg ms:Int) (hW:W=(TF (ac cs) log).1%2^N) (hN:N<(TF (ac cs) log).2)=>n4 (lg:=lg) (ms:=ms) h5 h20 hcmp hfit hW hN
 have hwh:=dH h5 h20 hfit
 generalize ac cs=its at *
 generalize TF its log=T at *
 rcases T with ⟨V,b⟩
 dsimp only at *
 refine Jx (ox hp2 (by exact (lB 0x311004029102120801) hk2)) fun dl x ho hdl hV hx=>?_
 have hlen:=bH (W:=V) (b:=b)
 refine Fn.ex (k:=7) 35 (ρ:=wrρ (.bytes (ak V b)) (ag cs) (.int log) .undef .undef .undef .undef .undef .undef .undef .undef .undef) rfl rfl rfl ?_
 refine SdB.cut 40 (by rfl) ⟨_,_,hitems,Nat.le_of_ble_eq_true rfl,?_⟩
 refine SdB.tup 40 true rfl rfl ⟨_,_,hrow,Nat.le_of_ble_eq_true rfl,⟨?_,rfl,Nat.le_of_ble_eq_true rfl⟩,_,rfl,?_⟩
 ·simp only[aW,dC,aL,aI,Bool.and_self]
 refine SdB.cut 40 (by rfl) ⟨_,_,htold,Nat.le_of_ble_eq_true rfl,?_⟩
 refine SdB.if_ 40 (by rfl) ⟨_,_,hfault,Nat.le_of_ble_eq_true rfl,false,rfl,fun q=>(nomatch q),fun _=>⟨_,_,dE (by exact (lA 0x1881f4018c01812c418c01) hbits),Nat.le_of_ble_eq_true rfl,false,ne_bytes,fun q=>(nomatch q),fun _=>SdB.skip ?_⟩⟩
 rw[ho]at hlen ⊢
 obtain⟨r,hr⟩:∃r:Nat,r=8*((b+7)/8)-b:=⟨_,rfl⟩
 have hr8:(-(b:Int))%8=(r:Int):=Bo hr
 have tk:=ax (rest:=[]) (m:=((dl++[x]).length:Int)) hB (by exact (lA 0x18877359400618030186a020c01) hn) (by exact (lC 0x18c5562080524a0443882110649408871042408801) hdl hlen) (by exact (lC 0x6318ac0000000000000001a3588324a0443880110649408871002408821812c418c01) hbits hdl hlen)
 have d1:=Bx.digit_lo (B:=B) (m:=((dl++[x]).length:Int)) (by exact (lC 0x18c5562080524a0443882110649408871042408801) hdl hlen)
 have d2:=Bx.digit_hi (B:=B) (m:=((dl++[x]).length:Int)) (by exact (lC 0x18c5562080524a0443882110649408871042408801) hdl hlen)
 have hB1:(B.next ((dl++[x]).length:Int)).Ok (n+1):=hB.next (by exact (lC 0x18c5562080524a0443882110649408871042408801) hdl hlen)
 obtain⟨ct,hct⟩:∃ct:Nat,B.digit ((dl++[x]).length:Int)=ct:=⟨(B.digit ((dl++[x]).length:Int)).toNat,by exact (lE 0x18b2d800803400402) d1⟩
 rw[hct]at tk d1 d2
 generalize B.next ((dl++[x]).length:Int)=B1 at *
 refine SdB.tup 40 true rfl rfl ⟨by decide,⟨?_,?_,by decide⟩,_,_,tk,Nat.le_of_ble_eq_true rfl,⟨rfl,rfl,Nat.le_of_ble_eq_true rfl⟩,_,rfl,?_⟩
 ·refine(?_:0≤(-(b:Int))%8)
  exact (lB 0xc628a4098b08402b2c015204c58432284264a0443882140801) hr hr8
 ·refine(?_:(-(b:Int))%8≤1000000)
  exact (lB 0xc629e848041a90262c21b2c015204c58432284264a0443882140801) hr hr8
 refine(?_:SdB _ _ (wrρ (.bytes (dl++[x])) (ag cs) (.int log) (aJ its) (ag (ad its)) (.int ((dl++[x]).length:Nat)) (.int V) (.int b) (.int (2^((-(b:Int))%8).toNat)) (.int ct) .undef .undef) [B1.mo] _ _)
 have e1:(2:Int)^((-(b:Int))%8).toNat=((2^r:Nat):Int):=by rewrite[hr8,Int.toNat_natCast];push_cast;rfl
 refine Kh e1▸?_
 have hrp:0<2^r:=Nat.pow_pos (by decide)
 have hrl:2^r≤2^8:=Nat.pow_le_pow_right (by decide) (by exact (lB 0x631040801b2c015204c58432284264a0443882140801) hr hr8)
 have tk:=ax (rest:=[]) (m:=((2^r:Nat):Int)) hB1 (by exact (lA 0xc43b9aca0030c8110030186a020c01) hn) (by exact (lD 0x6315580201440100acb00401) e1 hrp) (by exact (lD 0x318ac0000000000000001a35803040043006cb00401) e1 hrl)
 have t1:=Bx.digit_lo (B:=B1) (m:=((2^r:Nat):Int)) (by exact (lD 0x6315580201440100acb00401) e1 hrp)
 have t2:=Bx.digit_hi (B:=B1) (m:=((2^r:Nat):Int)) (by exact (lD 0x6315580201440100acb00401) e1 hrp)
 have hB2:(B1.next ((2^r:Nat):Int)).Ok (n+2):=hB1.next (by exact (lD 0x6315580201440100acb00401) e1 hrp)
 obtain⟨t,ht⟩:∃t:Nat,B1.digit ((2^r:Nat):Int)=t:=⟨(B1.digit ((2^r:Nat):Int)).toNat,by exact (lE 0x18b2d800803400402) t1⟩
 rw[ht]at tk t1 t2
 have t3:t<2^r:=by exact (lG 0xc6220084355802b086cb00401) e1 t2
 generalize B1.next ((2^r:Nat):Int)=B2 at *
 refine SdB.cut 40 (by rfl) ⟨_,qO,⟨by exact (lD 0x6315580201440100acb00401) e1 hrp,?_⟩,_,_,tk,Nat.le_of_ble_eq_true rfl,.inr ?_,?_⟩
 ·refine Kh (Int.natAbs_natCast _)▸?_;refine Kh Nat.log2_two_pow▸?_;exact (lB 0x3188a32818c01b2c015204c58432284264a0443882140801) hr hr8
 ·refine Kh (Int.natAbs_natCast _)▸?_;exact (lG 0x18c623000000000000000068c21aac015843040043006cb00401) e1 hrl t2
 refine(?_:SdB _ _ (wrρ (.bytes (dl++[x])) (ag cs) (.int log) (aJ its) (ag (ad its)) (.int ((dl++[x]).length:Nat)) (.int V) (.int b) (.int (2^r:Nat)) (.int ct) (.int ((x.toNat:Int)+256/((2^r:Nat):Int)*(t:Int))) .undef) [B2.mo] _ _)
 have e3:(x.toNat:Int)+256/((2^r:Nat):Int)*(t:Int)=((x.toNat+256/2^r*t:Nat):Int):=by push_cast;rfl
 refine Kh e3▸?_
 have hmore:=fun ex=>oi (ex:=ex) hr hV hp2 hdl hx t3
 refine Jh (hmore []) fun m1 _=>?_
 have m2:=fun ex=>(hmore ex).2
 clear hmore
 generalize x.toNat+256/2^r*t=q at *
 have u1:=Bx.digit_lo (B:=B2) (m:=3) (by decide)
 have u2:=Bx.digit_hi (B:=B2) (m:=3) (by decide)
 have tk:=ax (rest:=[]) (m:=3) hB2 (by exact (lA 0xc43b9aca0030c8210030186a020c01) hn) (by decide) (by decide)
 have hB3:(B2.next 3).Ok (n+3):=hB2.next (by decide)
 obtain⟨u,hu⟩:∃u:Nat,B2.digit 3=u:=⟨(B2.digit 3).toNat,by exact (lE 0x18b2d800803400402) u1⟩
 rw[hu]at tk u1 u2
 generalize B2.next 3=B3 at *
 refine SdB.cut 40 (by rfl) ⟨Nat.le_of_ble_eq_true rfl,_,_,tk,Nat.le_of_ble_eq_true rfl,_,cU (by exact (lA 0xc43d090083006a312c01) u2),gc (n+3) u,gc.start hB3,fun y rr acc σ h=>?_,fun acc σ h=>?_⟩
 ·rcases h.turn (by exact (lB 0xc621e848041902120c400d46258430186a020c01) hn u2) with ⟨⟨i,rfl⟩,v,σ',f1,f2⟩
  exact⟨_,rfl,_,_,f1,Nat.le_of_ble_eq_true rfl,f2⟩
 ·refine JE h ?_;clear h;intro B4 l κ;subst κ;intro h1 κ2;subst κ2;intro h2 _ h4
  have hll:l.length≤2:=by exact (lC 0x18c40421064009041086a312c01) u2 h2
  refine⟨by rewrite[List.length_map];unfold ai;exact (lC 0x31880400000a31064009041086a312c01) u2 h2,aI _,.list (((q:Int)::l).map .int),bk (by rewrite[List.length_map,List.length_singleton];exact (lC 0xc62030d4041904108a4009041086a312c01) u2 h2),_,fE (fun i hi=>?_) (by rewrite[List.length_cons];exact (lC 0x31887d02190221064009041086a312c01) u2 h2),_,add_bytes (by rewrite[pU,List.length_map,List.length_cons];exact (lH 0x6318c4061a808321022204219082420461a8c4b10649408871002408821812c418c01) hbits hdl u2 h2),?_⟩
  ·rcases List.mem_cons.mp hi with rfl|hi
   ·exact (lA 0x63354004358034580201450010c01) m1
   ·exact h1 i hi
  ·refine(?_:SdB _ _ (wrρ (.bytes (dl++[x])) (ag cs) (.int log) (aJ its) (ag (ad its)) (.int ((dl++[x]).length:Nat)) (.int V) (.int b) (.int (2^r:Nat)) (.int ct) (.int (q:Nat)) (.bytes (cut (dl++[x]) none (some (-1))++(UInt8.ofNat q::l.map fun i=>UInt8.ofNat i.toNat)))) [B4.mo] _ _)
   refine Kh pU▸?_
   have m2:=m2 (l.map fun i=>UInt8.ofNat i.toNat)
   have hDl:b≤8*(dl++UInt8.ofNat q::l.map fun i=>UInt8.ofNat i.toNat).length:=by rewrite[List.length_append,List.length_cons];exact (lC 0x1881884088410050208649408871042408801) hdl
   generalize (dl++UInt8.ofNat q::l.map fun i=>UInt8.ofNat i.toNat)=D at *
   have hrl2:(((ad its).map MV.int).length:Int)=((ad its).length:Nat):=by refine Kh (List.length_map _)▸?_;rfl
   have f1:Fn 7 (.ofString "_law_read") [.bytes D,.int log,.int ((((ad its).map MV.int).length:Int)-1)] [B4.mo] (.ok (.tup [ag (ad its),.int log,.int (((b+7)/8:Nat):Int)]) [B4.mo]):=by
    have f:=bn (X:=B4.mo) (D:=D) (lg:=log) (ms:=(((ad its).map MV.int).length:Int)-1) (by exact (lC 0x18c629f40865089610c001106cb105610c06410c01) hl hrl2 (by assumption))
    refine Jr (hread (af D) (8*D.length) log ((((ad its).map MV.int).length:Int)-1) m2 hDl (Int.le_refl _)) fun g1 g2 _=>?_
    rw[g1,g2 (by exact (lB 0x18a10222844b005610d9610ac01) hrl2)]at f
    exact f
   have f2:Fn 7 (.ofString "_law_read") [.bytes (cut (dl++[x]) none (some (ct:Int))),.int 7,.int 99] [B4.mo] (.ok (.str (.ofString "cut")) [B4.mo]):=by
    have hct:ct<(dl++[x]).length:=by exact (lF 0xc631110461aac4158c324a0443882110649408871042408801) hdl hlen d2
    refine Kh (kt (Nat.le_of_lt hct))▸?_;refine ho▸?_
    have hl8:((ak V b).take ct).length=ct:=by rewrite[List.length_take,ho];exact (lF 0x631890c2710461aac4158c324a0443882110649408871042408801) hdl hlen d2
    have f:=bn (X:=B4.mo) (D:=(ak V b).take ct) (lg:=7) (ms:=99) (by decide)
    rw[hshort _ _ 7 99 (by rw[iv (by rewrite[ho];exact (lF 0xc631010461aac4158c324a0443882110649408871042408801) hdl hlen d2),hwh,hl8]) (by rewrite[hl8];exact (lF 0x63188842618502aac4158c324a0443882110649408871042408801) hdl hlen d2) (by exact (lA 0xc50e25803038801) h7) (by exact (lB 0x18c508110c621ac21800210c06410c01) hl (by assumption))]at f
    exact f
   have f3:Fn 7 (.ofString "_law_read") [.bytes D,.int log,.int ((((ad its).map MV.int).length:Int)-2)] [B4.mo] (.ok (.str (.ofString "table")) [B4.mo]):=by
    have f:=bn (X:=B4.mo) (D:=D) (lg:=log) (ms:=(((ad its).map MV.int).length:Int)-2) (by exact (lC 0x18c629f40865109610c001106cb105610c06410c01) hl hrl2 (by assumption))
    refine Jr (hread (af D) (8*D.length) log ((((ad its).map MV.int).length:Int)-2) m2 hDl (Int.le_refl _)) fun g1 _ g2=>?_
    rw[g2 (by exact (lB 0x18aac2120445109600d9610ac01) hrl2)]at f
    exact f
   have f4:Fn 7 (.ofString "_law_read") [.bytes D,.int ((log:Int)-1),.int 99] [B4.mo] (.ok (.str (.ofString "table")) [B4.mo]):=by
    have f:=bn (X:=B4.mo) (D:=D) (lg:=(log:Int)-1) (ms:=99) (by decide)
    rw[hlow (af D) (8*D.length) ((log:Int)-1) 99 m2 hDl (by exact lA 0x2ab004a112c01)]at f
    exact f
   have hmany:((dl++[x]).length:Int)=(((b+7)/8:Nat):Int):=by exact (lC 0xc62cb4a04438821588324a0443882110649408871042408801) hdl hlen
   refine Kh hmany▸?_
   refine SdB.if_ 40 (by rfl) ⟨_,_,f1,Nat.le_of_ble_eq_true rfl,?_,Nat.le_of_ble_eq_true rfl,false,px,fun w=>(nomatch w),fun _=>⟨_,_,f2,Nat.le_of_ble_eq_true rfl,false,H9,fun w=>(nomatch w),fun _=>SdB.skip ?_⟩⟩
   ·simp only[aW,dC,aL,aI,Bool.and_self]
   ·exact SdB.run 40 ⟨_,_,f3,Nat.le_of_ble_eq_true rfl,true,l9,fun _=>⟨_,_,f4,Nat.le_of_ble_eq_true rfl,true,l9,fun _=>⟨_,rfl,B4,h4.mono (by exact (lF 0x3188114218482090621864009041086a312c01) u2 h2),rfl⟩,fun w=>(nomatch w)⟩,fun w=>(nomatch w)⟩
noncomputable abbrev beρ (row way used spot:MV):Loc:=[lc "box" (.ref 0),lc "row" row,lc "way" way,lc "used" used,lc "spot" spot]
theorem ga:∀l:List Int,cT l.reverse=cT l
 |[]=>rfl
 |a::r=>by refine Kh List.reverse_cons▸?_;refine Kh aE▸?_;refine Kh (ga r)▸?_;refine Kh (show a::r=[a]++r from rfl)▸?_;refine Kh aE▸?_;refine Kh (Nat.add_comm _ _)▸?_;rfl
theorem cY {a:Int}{l:List Int}:cT (a::l)=a.natAbs+cT l:=by unfold cT;refine Kh List.map_cons▸?_;rewrite[List.sum_cons];rfl
theorem rE {l:List Int}(h:∀c∈l,c=0):cT l=0:=by
 induction l with
 |nil=>rfl
 |cons a r ih=>refine Kh cY▸?_;refine Kh (h a (List.mem_cons_self ..))▸?_;refine Kh (ih fun c q=>h c (List.mem_cons_of_mem _ q))▸?_;rfl
theorem A9 {l:List Int}{k:Nat}(h:k≤l.length):cut (l.map MV.int) none (some (k:Int))=(l.take k).map .int:=by
 unfold cut
 simp only[Option.elim_some,Option.elim_none,dQ (n:=(l.map MV.int).length) (k:=k) (by rewrite[List.length_map];exact h)]
 simp[List.map_take]
theorem nj {l:List Int}{k:Nat}{y:Int}(hy:y=k)(h:k≤l.length):cut (l.map MV.int) (some y) none=(l.drop k).map .int:=by
 subst hy
 unfold cut
 simp only[Option.elim_some,Option.elim_none,dQ (n:=(l.map MV.int).length) (k:=k) (by rewrite[List.length_map];exact h)]
 rw[List.take_of_length_le (by rewrite[List.length_drop];exact Nat.le_refl _),List.map_drop]
theorem tM {B B':Bx}{v:MV}{l:List Int}{ρ:Loc}(h:v=ag l):ends false [B.mo] (.ok (.ret v,ρ) [B'.mo])=some (.ok (ag l) [B'.mo]):=by
 subst h
 exact kr (by simpa only[aL]using aI l) rfl
noncomputable def HC (row:List Int)(S:aa)(items acc:List MV)(σ:aa):Prop:=∃(j:Nat) (us:List Nat),items=(List.range' j (row.length-j)).map (fun(k:Nat)=>.int (k:Int))∧acc=aY us∧σ=S∧j≤row.length∧us.length≤j∧
 (∀u∈us,∃c,row[u]?=some c∧c≠0)∧(us=[]→∀i<j,row[i]?=some 0)
theorem gK (us:List Nat):noRefs (aY us)=true:=by
 have:=aI (us.map fun(g:Nat)=>(g:Int))
 rwa [List.map_map]at this
theorem v8 {α:Type}{l:List α}{a b:Option Int}:(cut l a b).length≤l.length:=by
 unfold cut
 refine Kh List.length_take▸?_;refine Kh List.length_drop▸?_
 exact Nat.le_trans (Nat.min_le_right _ _) (Nat.sub_le _ _)
theorem se {row:List Int}{k:Nat}{c:Int}(h:row[k]?=some c):∃A C,row=A++c::C∧A.length=k:=by
 refine Jf (List.getElem?_eq_some_iff.mp h) fun hk e=>?_
 refine JX (row.take k) (row.drop (k+1)) ?_ (by rewrite[List.length_take];exact (lB 0x312004e10803108401) hk)
 refine e▸?_;refine List.drop_eq_getElem_cons hk▸?_;refine Kh (List.take_append_drop _ _)▸?_;rfl
theorem sM {σ:aa}{us:List Nat}{i u:Nat}(h:us[i]?=some u):eD σ (.list (aY us)) (.int i)=some (.int u):=by
 have:=a7 (σ:=σ) (cs:=us.map fun(g:Nat)=>(g:Int)) (i:=i) (c:=u) (by rewrite[List.getElem?_map,h];rfl)
 rwa [show ag (us.map fun(g:Nat)=>(g:Int))= .list (aY us)from congrArg MV.list (List.map_map ..)]at this
theorem mX {B:Bx}{n log:Nat}{row:List Int}(hB:B.Ok n)(hn:n≤100000)(hr:Row row log)(hl:row.length≤90):
  FnS 2 (.ofString "_law_bent") [.ref 0,ag row] [B.mo] (.all fun r=>∃(other:List Int) (B':Bx),Row other log∧B'.Ok (n+2)∧r= .ok (ag other) [B'.mo]):=by
 have d1:=Bx.digit_lo (B:=B) (m:=5) (by decide)
 have d2:=Bx.digit_hi (B:=B) (m:=5) (by decide)
 have tk:=ax (rest:=[]) (m:=5) hB (by exact (lA 0x18877359400618030186a020c01) hn) (by decide) (by decide)
 have hB1:(B.next 5).Ok (n+1):=hB.next (by decide)
 generalize B.digit 5=way at *
 generalize B.next 5=B1 at *
 have hrange:bG [.int ((row.map MV.int).length:Nat)]=some ((List.range row.length).map fun(k:Nat)=>.int (k:Int)):=by rewrite[List.length_map];exact cU (by exact (lA 0x1887a12010600c05a10c01) hl)
 refine Fn.ex (k:=1) 36 (ρ:=beρ (ag row) .undef .undef .undef) rfl rfl rfl ?_
 refine SdB.tup 40 true rfl rfl ⟨_,_,tk,Nat.le_of_ble_eq_true rfl,_,hrange,HC row [B1.mo],?_,fun x r acc σ h=>?_,fun acc σ h=>?_⟩
 ·exact JN 0 [] (by rewrite[List.range_eq_range'];rfl) rfl rfl (Nat.zero_le _) (Nat.zero_le _) (fun u q=>(nomatch q)) (fun _ i q=>absurd q (by exact (lA 0xc6e201003100801) q))
 ·refine Jy h ?_;clear h;intro j us h1 κ;subst κ;intro κ2;subst κ2;intro h2 h3 h4 h5
  obtain⟨m,hm⟩:∃m,row.length-j=m+1:=by
   cases hq:row.length-j with
   |zero=>replace h1:=hq▸h1;cases h1
   |succ m=>exact Jo m rfl
  replace h1:=List.map_cons▸(List.range'_succ▸(hm▸h1))
  refine Jh (List.cons.inj h1) ?_;intro κ;subst κ;intro κ2;subst κ2
  obtain⟨c,hc⟩:∃c,row[j]?=some c:=⟨_,List.getElem?_eq_getElem (show j<row.length by exact (lC 0x63110840191022104a00843008401) h2 hm)⟩
  refine⟨_,rfl,_,a7 hc,fun w=>?_,fun w=>?_⟩
  ·have w:c=0:=w
   subst w
   refine JN (j+1) us (by rw[show row.length-(j+1)=m by exact (lC 0x18c4841290220042191022104a00843008401) h2 hm]) rfl rfl (by exact (lC 0x318804240880191022104a00843008401) h2 hm) (by exact (lB 0x310204410803008401) h3) h4 (fun q i hi=>?_)
   by_cases e:i=j
   ·refine Kh e▸?_;exact hc
   ·exact h5 q i (by exact (lB 0x18c442100772084018902208401) hi e)
  ·have w:¬c=0:=w
   refine JN (j+1) (us++[j]) (by rw[show row.length-(j+1)=m by exact (lC 0x18c4841290220042191022104a00843008401) h2 hm]) (by simp) rfl (by exact (lC 0x318804240880191022104a00843008401) h2 hm) (by simp;exact (lB 0x62010803008401) h3) (fun u hu=>?_) (fun q=>by simp at q)
   rcases List.mem_append.mp hu with hu|hu
   ·exact h4 u hu
   ·refine Kh (List.mem_singleton.mp hu)▸?_;exact Jl c hc w
 ·refine Jy h ?_;clear h;intro j us h1 κ;subst κ;intro κ2;subst κ2;intro h2 h3 h4 h5
  have hj:j=row.length:=by
   cases hq:row.length-j with
   |zero=>exact (lB 0xc624108032008a00843008401) h2 hq
   |succ m=>replace h1:=List.range'_succ▸(hq▸h1);cases h1
  subst hj
  have hus:us≠[]:=by
   intro q
   have:=hr.sum
   rewrite[rE]at this
   ·have:=Nat.pow_pos (n:=log) (show 0<2 by decide)
    exact (lA 0x18c72400805100402) this (by assumption)
   ·intro c hc
    rcases List.getElem_of_mem hc with ⟨i,hi,rfl⟩
    have:=h5 q i hi
    replace this:=List.getElem?_eq_getElem hi▸this
    exact Option.some.inj this
  have hul:0<us.length:=List.length_pos_iff.mpr hus
  refine⟨by rewrite[List.length_map];unfold ai;exact (lB 0xc62010000028c21800210c05a10c01) hl h3,gK us,⟨?_,rfl,Nat.le_of_ble_eq_true rfl⟩,_,rfl,?_⟩
  ·simp only[aW,dC,aL,gK,Bool.and_self]
  have hnl:((aY us).length:Int)=(us.length:Nat):=by refine Kh (List.length_map _)▸?_;rfl
  have g1:=Bx.digit_lo (B:=B1) (m:=((aY us).length:Nat)) (by exact (lB 0xc62ab08402b2c015843100402) hul hnl)
  have g2:=Bx.digit_hi (B:=B1) (m:=((aY us).length:Nat)) (by exact (lB 0xc62ab08402b2c015843100402) hul hnl)
  have tk:=ax (rest:=[]) (m:=((aY us).length:Nat)) hB1 (by exact (lA 0xc43b9aca0030c8110030186a020c01) hn) (by exact (lB 0xc62ab08402b2c015843100402) hul hnl) (by exact (lC 0x18c62b000000000000000068d620d9610ac41800210c05a10c01) hl h3 hnl)
  have hB2:(B1.next ((aY us).length:Nat)).Ok (n+2):=hB1.next (by exact (lB 0xc62ab08402b2c015843100402) hul hnl)
  obtain⟨dg,hdg⟩:∃dg:Nat,B1.digit ((aY us).length:Nat)=dg:=⟨(B1.digit ((aY us).length:Nat)).toNat,by exact (lE 0x18b2d800803400402) g1⟩
  rw[hdg]at g1 g2 tk
  generalize B1.next ((aY us).length:Nat)=B2 at *
  obtain⟨sp,hsp⟩:∃sp,us[dg]?=some sp:=⟨_,List.getElem?_eq_getElem (show dg<us.length by exact (lC 0x18c4421106ab005620d9610ac01) hnl g2)⟩
  refine tr (h4 sp (List.mem_of_getElem? hsp)) fun c hc hc0=>?_
  refine Jw (se hc) fun A C hrow hA=>?_
  have cl:∀a b,(cut (row.map MV.int) a b).length≤90:=fun a b=>Nat.le_trans v8 (by rewrite[List.length_map];exact hl)
  have hlr:row.length=A.length+(1+C.length):=by rewrite[hrow,List.length_append,List.length_cons];exact lB 0x1221021088012102208401
  have c1:cut (row.map MV.int) none (some (sp:Int))=A.map .int:=by rw[A9 (by exact (lF 0x63101042191083084400883208401) hA hlr),hrow,← hA,List.take_left]
  have c2:cut (row.map MV.int) (some (sp:Int)) none=(c::C).map .int:=by rw[nj rfl (by lia),hrow,← hA,List.drop_left]
  have c3:cut (row.map MV.int) (some ((sp:Int)+1)) none=C.map .int:=by
   rw[nj (k:=sp+1) (y:=(sp:Int)+1) (by push_cast;rfl) (by exact (lF 0x318808240882191083084400883208401) hA hlr),hrow,← hA,← List.drop_drop,List.drop_left]
   rfl
  have hsum:=hr.sum
  replace hsum:=cY▸(aE▸(hrow▸hsum))
  have lowA:∀x∈A, -1≤x:=fun x q=>hr.low x (by rewrite[hrow];exact List.mem_append_left _ q)
  have lowC:∀x∈C, -1≤x:=fun x q=>hr.low x (by rewrite[hrow];exact List.mem_append_right _ (List.mem_cons_of_mem _ q))
  have lowc: -1≤c:=hr.low c (by rewrite[hrow];exact List.mem_append_right _ (List.mem_cons_self ..))
  have hrl:(row.map MV.int).length≤90:=by rewrite[List.length_map];exact hl
  refine SdB.cut 40 (by rfl) ⟨_,_,tk,Nat.le_of_ble_eq_true rfl,_,sM hsp,?_⟩
  refine(?_:SdB _ _ (beρ (ag row) (.int way) (.list (aY us)) (.int sp)) [B2.mo] _ _)
  have fin:∀(v:MV) (other:List Int) (ρ:Loc),v=ag other→(∀x∈other, -1≤x)→cT other=2^log→other.length≤200→∃r,ends false [B.mo] (.ok (.ret v,ρ) [B2.mo])=some r∧∃(other:List Int) (B':Bx),Row other log∧B'.Ok (n+2)∧r= .ok (ag other) [B'.mo]:=
   fun v other ρ h1 h2 h3 h4=>⟨_,tM h1,other,B2,⟨h2,h3,h4⟩,hB2,rfl⟩
  have rest4:SdB ⟨(ah 36).2.2.names,1,1⟩ (ah 36).2.1.tail.tail.tail.tail.tail.tail (beρ (ag row) (.int way) (.list (aY us)) (.int sp)) [B2.mo] (fun f ρ' σ'=>∃r,ends false [B.mo] (.ok (f,ρ') σ')=some r∧∃(other:List Int) (B':Bx),Row other log∧B'.Ok (n+2)∧r= .ok (ag other) [B'.mo]) (fun c σ'=>∃(other:List Int) (B':Bx),Row other log∧B'.Ok (n+2)∧R.ex c σ'= .ok (ag other) [B'.mo]):=by
   refine SdB.run 40 ⟨_,bk (by rewrite[List.length_reverse];have:=cl none (some (sp:Int));have:=cl (some (sp:Int)) none;exact (lB 0xc62030d4041900108602d08610c05a10c01) this (by assumption)),fin _ (A++(c::C).reverse) _ ?_ ?_ ?_ ?_⟩
   ·refine(?_:MV.list (cut (row.map MV.int) none (some (sp:Int))++(cut (row.map MV.int) (some (sp:Int)) none).reverse)=_)
    refine Kh c1▸?_;refine Kh c2▸?_;refine List.map_reverse▸?_;refine List.map_append▸?_;rfl
   ·intro x hx
    rcases List.mem_append.mp hx with q|q
    ·exact lowA x q
    ·rcases List.mem_cons.mp (List.mem_reverse.mp q)with rfl|q
     ·exact lowc
     ·exact lowC x q
   ·refine Kh aE▸?_;refine Kh (ga _)▸?_;refine Kh cY▸?_;exact hsum
   ·refine Kh List.length_append▸?_;refine Kh List.length_reverse▸?_;refine Kh List.length_cons▸?_;exact (lC 0x18c40c810c84088410864420821104200c05a10c01) hl hlr
  have rest3:SdB ⟨(ah 36).2.2.names,1,1⟩ (ah 36).2.1.tail.tail.tail.tail.tail (beρ (ag row) (.int way) (.list (aY us)) (.int sp)) [B2.mo] (fun f ρ' σ'=>∃r,ends false [B.mo] (.ok (f,ρ') σ')=some r∧∃(other:List Int) (B':Bx),Row other log∧B'.Ok (n+2)∧r= .ok (ag other) [B'.mo]) (fun c σ'=>∃(other:List Int) (B':Bx),Row other log∧B'.Ok (n+2)∧R.ex c σ'= .ok (ag other) [B'.mo]):=by
   refine SdB.if_ 40 (by rfl) ⟨fun _=>⟨_,a7 hc,fun w=>?_,fun _=>SdB.skip rest4⟩,fun _=>SdB.skip rest4⟩
   have w:1<c:=w
   refine SdB.run 40 ⟨_,a7 hc,Nat.le_of_ble_eq_true rfl,_,bk (by have:=cl none (some (sp:Int));refine Kh List.length_singleton▸?_;exact (lA 0xc4061a8083204400c05a10c01) this),_,bk (by rewrite[List.length_append,List.length_singleton];have:=cl none (some (sp:Int));have:=cl (some ((sp:Int)+1)) none;exact (lB 0x6310186a020c800902208602d08610c05a10c01) this (by assumption)),Nat.le_of_ble_eq_true rfl,_,bk (by rewrite[List.length_append,List.length_append,List.length_singleton,List.length_singleton];have:=cl none (some (sp:Int));have:=cl (some ((sp:Int)+1)) none;exact (lB 0x31880c3501064088800902208602d08610c05a10c01) this (by assumption)),fin _ (A++[c-1]++C++[1]) _ ?_ ?_ ?_ ?_⟩
   ·refine(?_:MV.list (cut (row.map MV.int) none (some (sp:Int))++[MV.int (c-1)]++cut (row.map MV.int) (some ((sp:Int)+1)) none++[MV.int 1])=_)
    refine Kh c1▸?_;refine Kh c3▸?_
    exact congrArg MV.list (by simp)
   ·intro x hx
    simp only[List.mem_append,List.mem_singleton]at hx
    rcases hx with((q|q)|q)|q
    ·exact lowA x q
    ·exact lin 0xc6314085811540108ac508801086800b022 [] [_,_] (by kernel_rfl) lowc q (by assumption)
    ·exact lowC x q
    ·exact (lE 0xc50016045608801) q
   ·refine Kh aE▸?_;refine Kh aE▸?_;refine Kh aE▸?_;refine Kh (show cT [c-1]=(c-1).natAbs+0 from cY)▸?_;refine Kh (show cT [1]=1 from rfl)▸?_;exact lin 0x18c63121048111021210025942200401a8021150016045210484085600803700801 [_,_,_] [_] (by kernel_rfl) hc0 hsum lowc (by assumption)
   ·simp only[List.length_append,List.length_singleton];exact (lC 0xc62064086408882090220864420821104200c05a10c01) hl hlr
  refine SdB.if_ 40 (by rfl) ⟨fun _=>?_,fun _=>SdB.skip ?_⟩
  ·refine SdB.run 40 ⟨Nat.le_of_ble_eq_true rfl,_,hY (by exact (lF 0x631880c35010620c8841842208401908210c05a10c01) hl hA hlr),_,bk (by rewrite[List.length_map,List.length_map,List.length_replicate];exact (lF 0x18c62030d40419082084400c8841842208401908210c05a10c01) hl hA hlr),fin _ (row++List.replicate (1+sp) 0) _ ?_ ?_ ?_ ?_⟩
   ·refine(?_:MV.list (row.map MV.int++(List.replicate (1+sp) (0:Int)).map MV.int)=_)
    refine List.map_append▸?_;rfl
   ·intro x hx
    rcases List.mem_append.mp hx with q|q
    ·exact hr.low x q
    ·refine Kh ((List.mem_replicate.mp q).2)▸?_;decide
   ·refine Kh aE▸?_;refine Kh jw▸?_;refine Kh hr.sum▸?_;simp
   ·refine Kh List.length_append▸?_;refine Kh List.length_replicate▸?_;exact (lF 0x63188190219082084400c8841842208401908210c05a10c01) hl hA hlr
  refine SdB.if_ 40 (by rfl) ⟨fun _=>?_,fun _=>SdB.skip ?_⟩
  ·refine SdB.run 40 ⟨Nat.le_of_ble_eq_true rfl,_,bk (by have:=cl none (some (sp:Int));refine Kh List.length_singleton▸?_;exact (lA 0xc4061a8083204400c05a10c01) this),_,bk (by rewrite[List.length_append,List.length_singleton];have:=cl none (some (sp:Int));have:=cl (some (sp:Int)) none;exact (lB 0x6310186a020c800902208602d08610c05a10c01) this (by assumption)),fin _ (A++[0]++c::C) _ ?_ ?_ ?_ ?_⟩
   ·refine(?_:MV.list (cut (row.map MV.int) none (some (sp:Int))++[MV.int 0]++cut (row.map MV.int) (some (sp:Int)) none)=_)
    refine Kh c1▸?_;refine Kh c2▸?_
    exact congrArg MV.list (by simp)
   ·intro x hx
    simp only[List.mem_append,List.mem_cons,List.not_mem_nil,or_false]at hx
    rcases hx with(q|q)|q|q
    ·exact lowA x q
    ·exact (lE 0xc50016045600801) q
    ·exact lin 0x63140858115801086800b022 [] [_,_] (by kernel_rfl) lowc q
    ·exact lowC x q
   ·refine Kh aE▸?_;refine Kh aE▸?_;refine Kh (show cT [0]=0 from rfl)▸?_;refine Kh cY▸?_;exact lin 0xc4841210215802400801908242042b00401 [_,_,_] [_] (by kernel_rfl) hsum
   ·simp only[List.length_append,List.length_cons,List.length_nil];exact (lC 0x6310320432102210484088020864420821104200c05a10c01) hl hlr
  refine SdB.if_ 40 (by rfl) ⟨fun _=>⟨_,a7 hc,fun w=>?_,fun _=>SdB.skip rest3⟩,fun _=>SdB.skip rest3⟩
  have w:((c.natAbs:Nat):Int)=1:=w
  refine SdB.run 40 ⟨_,a7 hc,Nat.le_of_ble_eq_true rfl,_,bk (by have:=cl none (some (sp:Int));refine Kh List.length_singleton▸?_;exact (lA 0xc4061a8083204400c05a10c01) this),_,bk (by rewrite[List.length_append,List.length_singleton];have:=cl none (some (sp:Int));have:=cl (some ((sp:Int)+1)) none;exact (lB 0x6310186a020c800902208602d08610c05a10c01) this (by assumption)),fin _ (A++[-c]++C) _ ?_ ?_ ?_ ?_⟩
  ·refine(?_:MV.list (cut (row.map MV.int) none (some (sp:Int))++[MV.int (-c)]++cut (row.map MV.int) (some ((sp:Int)+1)) none)=_)
   refine Kh c1▸?_;refine Kh c3▸?_
   exact congrArg MV.list (by simp)
  ·intro x hx
   simp only[List.mem_append,List.mem_singleton]at hx
   rcases hx with(q|q)|q
   ·exact lowA x q
   ·exact lin 0xc631408581158225ac01b3001086800b022 [] [_,_] (by kernel_rfl) lowc q (by assumption)
   ·exact lowC x q
  ·refine Kh aE▸?_;refine Kh aE▸?_;refine Kh (show cT [-c]=(-c).natAbs+0 from cY)▸?_;exact lin 0x318c624209021210025b001006c112d600d0016045210484085600803700801 [_,_,_] [_] (by kernel_rfl) hc0 hsum lowc (by assumption)
  ·simp only[List.length_append,List.length_singleton];exact (lC 0x18c40c810c82090220864420821104200c05a10c01) hl hlr
theorem iH {k:Nat}:∀{its:List (Int × Nat)},(∀x∈its,x.2≤k)→(ad its).length≤(k+1)*its.length
 |[],_=>Nat.zero_le _
 |(c,m)::r,h=>by
  have h1:m≤k:=h _ (List.mem_cons_self ..)
  have h2:=iH (its:=r) fun x q=>h x (List.mem_cons_of_mem _ q)
  rewrite[ad];refine Kh List.length_append▸?_;refine Kh List.length_replicate▸?_;refine Kh List.length_cons▸?_;rewrite[Nat.mul_add]
  exact (lF 0xc62043044408821184820900108a030883008401) h1 h2
theorem Cmp.row {its:List (Int × Nat)}{log:Nat}(h:Cmp its (2^log))(hl:(ad its).length≤200):Row (ad its) log:=by
 refine⟨fun c q=>?_,?_,hl⟩
 ·refine Jf (ll.mp q) fun m hm=>?_
  exact(h.wf _ hm).1
 ·refine Kh (jv fun x q=>(h.wf x q).2)▸?_;refine Kh h.tot▸?_;rfl
theorem Row.write {X:MO}{cs:List Int}{log:Nat}(h:Row cs log)(h5:5≤log)(h20:log≤20):Ft 5 (.ofString "write_counts") [ag cs,.int log] [X] (.bytes (ak (TF (ac cs) log).1 (TF (ac cs) log).2)) [X]:=by
 rcases dh cs with ⟨h1,t,h2⟩
 have hl:=h.rowlen
 have hlen:=h.len
 exact gV h5 h20 h2 h1 h.fit h.cmp.tot (by exact (lA 0x621f408600c0c810c01) hlen) (by have:=dq (its:=ac cs) h5 h20 (by exact (lB 0x18c40c810c01819021843008401) hl hlen);refine(?_:(TF (ac cs) log).2+2100≤8000);exact (lA 0x6207d00632083418c01812c418c01) this) (h.fault h5 h20)
theorem gT {its:List (Int × Nat)}{log:Nat}{taken:List UInt8}(h5:5≤log)(h20:log≤20)(hc:Cmp its (2^log))(hf:Fit its (2^log))(hl:(ad its).length≤200)(ht:taken.length=((TF its log).2+7)/8)(hw:af taken%2^(TF its log).2=(TF its log).1):
  (its=ac (ad its)→(ak (TF (ac (ad its)) log).1 (TF (ac (ad its)) log).2).length=taken.length∧af (ak (TF (ac (ad its)) log).1 (TF (ac (ad its)) log).2)=af taken%2^(TF its log).2)∧
  (its≠ac (ad its)→(TF (ac (ad its)) log).2<(TF its log).2∧af (ak (TF (ac (ad its)) log).1 (TF (ac (ad its)) log).2)≠af taken%2^(TF its log).2%2^(TF (ac (ad its)) log).2):=by
 have hr:=hc.row hl
 have e1:=dH h5 h20 hr.fit
 refine Jg (fun q=>?_) (fun q=>?_)
 ·rw[← q]at e1 ⊢
  refine Kh bH▸?_;refine Kh e1▸?_;refine Kh ht▸?_;refine Kh hw▸?_
  exact Jg rfl rfl
 ·have hs:=jN hc q
  have k1:=(cf (its:=its) h5 h20).2
  have k2:=(cf (its:=ac (ad its)) h5 h20).2
  have hlt:(TF (ac (ad its)) log).2<(TF its log).2:=by rewrite[k1,k2];exact (lC 0x318890212088009052204241083108401) hs k1
  refine Jg hlt (fun w=>q ?_)
  replace w:=hw▸(e1▸w)
  refine Jh (dY h5 h20 hf) fun p1 _=>?_
  refine Jh (dY h5 h20 hr.fit) fun p2 p3=>?_
  have:=Par.agr (N:=(TF (ac (ad its)) log).2) (W':=(TF its log).1) (by refine w▸?_;refine Kh (Nat.mod_eq_of_lt p3)▸?_;rfl) (by exact (lB 0x1880024084829102120801) k2) p2
  exact hU hc hr.cmp p1 this
noncomputable abbrev buρ (items log af bits row spare octets most told again other:MV):Loc:=[lc "box" (.ref 0),lc "items" items,lc "log" log,lc "whole" af,lc "bits" bits,lc "row" row,lc "spare" spare,lc "octets" octets,lc "most" most,lc "told" told,lc "again" again,lc "other" other]
theorem ly {B:Bx}{n log:Nat}{its:List (Int × Nat)}(hB:B.Ok n)(hn:n≤10000)(h5:5≤log)(h7:log≤7)(hd:Drawn its log):
  FbS (fun _=>True) 9 (.ofString "_law_built_right") [.ref 0,aJ its,.int log] [B.mo] (.all (okP fun x σ₂=>x= .bool true∧∃B':Bx,B'.Ok (n+30)∧σ₂=[B'.mo])):=by
 have h20:log≤20:=by exact (lA 0x62141003038801) h7
 have hc:=hd.cmp
 have hrl:=iH hd.m
 have hlen:=hd.len
 have hrl:(ad its).length≤84:=Nat.le_trans hrl (Nat.mul_le_mul_left 7 hlen)
 have htwo:2≤(ad its).length:=Nat.le_trans hd.two d6
 have hf:Fit its (2^log):=hc.fit fun x q=>Nat.le_trans (hd.m x q) (by decide)
 have hR:Row (ad its) log:=hc.row (by exact (lA 0x6206408600c05410c01) hrl)
 have hbits:=dq (its:=its) h5 h20 (by exact (lA 0x6206408600c05410c01) hrl)
 refine Jh (cf (its:=its) h5 h20) fun hk1 hk2=>?_
 refine Jh (dY h5 h20 hf) fun hp1 hp2=>?_
 have hagain:=fun taken=>gT (taken:=taken) h5 h20 hc hf (by exact (lA 0x6206408600c05410c01) hrl)
 have hread:=fun(W N:Nat) (lg ms:Int) (hW:W%2^(TF its log).2=(TF its log).1) (hN:(TF its log).2≤N)=>iK (lg:=lg) (ms:=ms) h5 h20 hc hf hW hN
 have htold:Fn 2 (.ofString "_law_told") [aJ its,.int log] [B.mo] (.ok (.tup [.int (TF its log).1,.int (TF its log).2]) [B.mo]):=b8 h5 h20 hf (show(TF its log).2≤8000 by exact (lA 0x1881f4018c01812c418c01) hbits)
 generalize TF its log=T at *
 rcases T with ⟨V,b⟩
 dsimp only at *
 refine Ft.ex (k:=8) 38 (ρ:=buρ (aJ its) (.int log) .undef .undef .undef .undef .undef .undef .undef .undef .undef) rfl rfl rfl ?_
 refine StB.of 40 (by rfl) ⟨_,_,htold,Nat.le_of_ble_eq_true rfl,?_⟩
 refine(?_:StB _ _ (buρ (aJ its) (.int log) (.int V) (.int b) .undef .undef .undef .undef .undef .undef .undef) [B.mo] _)
 obtain⟨r,hr⟩:∃r:Nat,r=8*((b+7)/8)-b:=⟨_,rfl⟩
 have hr8:(-(b:Int))%8=(r:Int):=Bo hr
 have e1:(2:Int)^((-(b:Int))%8).toNat=((2^r:Nat):Int):=by rewrite[hr8,Int.toNat_natCast];push_cast;rfl
 have hrp:0<2^r:=Nat.pow_pos (by decide)
 have hr256:2^r≤2^8:=Nat.pow_le_pow_right (by decide) (by exact (lB 0x631040801b2c015204c58432284264a0443882140801) hr hr8)
 have tk:=ax (rest:=[]) (m:=((2^r:Nat):Int)) hB (by exact (lA 0xc43b9aca0030c018271018c01) hn) (by exact (lD 0x6315580201440100acb00401) e1 hrp) (by exact (lD 0x318ac0000000000000001a35803040043006cb00401) e1 hr256)
 have t1:=Bx.digit_lo (B:=B) (m:=((2^r:Nat):Int)) (by exact (lD 0x6315580201440100acb00401) e1 hrp)
 have t2:=Bx.digit_hi (B:=B) (m:=((2^r:Nat):Int)) (by exact (lD 0x6315580201440100acb00401) e1 hrp)
 have hB1:(B.next ((2^r:Nat):Int)).Ok (n+1):=hB.next (by exact (lD 0x6315580201440100acb00401) e1 hrp)
 obtain⟨sp,hsp⟩:∃sp:Nat,B.digit ((2^r:Nat):Int)=sp:=⟨(B.digit ((2^r:Nat):Int)).toNat,by exact (lE 0x18b2d800803400402) t1⟩
 rw[hsp]at tk t1 t2
 generalize B.next ((2^r:Nat):Int)=B1 at *
 replace tk:=Kh e1▸tk
 refine StB.tup 40 true rfl rfl ⟨_,_,i7 (X:=B.mo) (its:=its) (by exact (lA 0x1880c35010600c05410c01) hrl),Nat.le_of_ble_eq_true rfl,by decide,⟨?_,?_,by decide⟩,_,_,tk,Nat.le_of_ble_eq_true rfl,⟨?_,rfl,Nat.le_of_ble_eq_true rfl⟩,_,rfl,?_⟩
 ·refine(?_:0≤(-(b:Int))%8)
  exact (lB 0xc628a4098b08402b2c015204c58432284264a0443882140801) hr hr8
 ·refine(?_:(-(b:Int))%8≤1000000)
  exact (lB 0xc629e848041a90262c21b2c015204c58432284264a0443882140801) hr hr8
 ·simp only[aW,dC,aL,aI,Bool.and_self]
 refine(?_:StB _ _ (buρ (aJ its) (.int log) (.int V) (.int b) (ag (ad its)) (.int sp) .undef .undef .undef .undef .undef) [B1.mo] _)
 have foct:Fn 1 (.ofString "_law_octets") [.int ((V:Int)+(sp:Int)*2^((b:Nat):Int).toNat),.int b] [B1.mo] (.ok (.bytes (ak (V+sp*2^b) b)) [B1.mo]):=by
  have e:(V:Int)+(sp:Int)*2^((b:Nat):Int).toNat=((V+sp*2^b:Nat):Int):=by rewrite[Int.toNat_natCast];push_cast;rfl
  refine Kh e▸?_
  exact dE (by exact (lA 0x1881f4018c01812c418c01) hbits)
 have u1:=Bx.digit_lo (B:=B1) (m:=4) (by decide)
 have u2:=Bx.digit_hi (B:=B1) (m:=4) (by decide)
 have tk4:=ax (rest:=[]) (m:=4) hB1 (by exact (lA 0x621dcd65001864088018271018c01) hn) (by decide) (by decide)
 have hB2:(B1.next 4).Ok (n+2):=hB1.next (by decide)
 obtain⟨u,hu⟩:∃u:Nat,B1.digit 4=u:=⟨(B1.digit 4).toNat,by exact (lE 0x18b2d800803400402) u1⟩
 rw[hu]at tk4 u1 u2
 generalize B1.next 4=B2 at *
 refine StB.tup 40 true rfl rfl ⟨⟨Int.natCast_nonneg _,by exact (lA 0x629e848041ac01812c418c01) hbits,by decide⟩,.inl (by exact (lG 0x318c623000000000000000068d6b0868b08402aac015843040043006cb00401) e1 hr256 t2 t1),_,_,foct,Nat.le_of_ble_eq_true rfl,_,_,tk4,Nat.le_of_ble_eq_true rfl,⟨rfl,rfl,Nat.le_of_ble_eq_true rfl⟩,_,rfl,?_⟩
 refine(?_:StB _ _ (buρ (aJ its) (.int log) (.int V) (.int b) (ag (ad its)) (.int sp) (.bytes (ak (V+sp*2^b) b)) (.int ((((ad its).map MV.int).length:Int)-2+(u:Int))) .undef .undef .undef) [B2.mo] _)
 refine Kh (show(((ad its).map MV.int).length:Int)=((ad its).length:Nat) by refine Kh (List.length_map _)▸?_;rfl)▸?_
 have hol:(ak (V+sp*2^b) b).length=(b+7)/8:=bH
 have hwD:=fun ex=>mw (s:=sp) (ex:=ex) hp2
 have hw0:=hwD []
 replace hw0:=List.append_nil _▸hw0
 generalize ak (V+sp*2^b) b=O at *
 have v1:=Bx.digit_lo (B:=B2) (m:=256) (by decide)
 have v2:=Bx.digit_hi (B:=B2) (m:=256) (by decide)
 have tk5:=ax (rest:=[]) (m:=256) hB2 (by exact (lA 0x621dcd65001864108018271018c01) hn) (by decide) (by decide)
 have hB3:(B2.next 256).Ok (n+3):=hB2.next (by decide)
 obtain⟨x,hx⟩:∃x:Nat,B2.digit 256=x:=⟨(B2.digit 256).toNat,by exact (lE 0x18b2d800803400402) v1⟩
 rw[hx]at tk5 v1 v2
 generalize B2.next 256=B3 at *
 have w1:=Bx.digit_lo (B:=B3) (m:=2) (by decide)
 have w2:=Bx.digit_hi (B:=B3) (m:=2) (by decide)
 have tk6:=ax (rest:=[]) (m:=2) hB3 (by exact (lA 0x621dcd65001864188018271018c01) hn) (by decide) (by decide)
 have hB4:(B3.next 2).Ok (n+4):=hB3.next (by decide)
 obtain⟨y,hy⟩:∃y:Nat,B3.digit 2=y:=⟨(B3.digit 2).toNat,by exact (lE 0x63165b001006a21003400402) w1 w2⟩
 rw[hy]at tk6 w1 w2
 generalize B3.next 2=B4 at *
 have hDl:b≤8*(O++[UInt8.ofNat x]).length:=by rewrite[List.length_append,hol,List.length_singleton];exact lA 0x10310224a0443880140801
 have hwx:=hwD [UInt8.ofNat x]
 have fr:=bn (X:=B4.mo) (D:=O++[UInt8.ofNat x]) (lg:=(log:Int)+y) (ms:=((ad its).length:Int)-2+u) (by exact (lB 0x318a7d02191610944258035209610c05410c01) hrl u2)
 refine Jr (hread (af (O++[UInt8.ofNat x])) (8*(O++[UInt8.ofNat x]).length) ((log:Int)+y) (((ad its).length:Int)-2+u) hwx hDl (by exact lB 0x508b085600ac01)) fun g1 g2 g3=>?_
 replace fr:=g1▸fr
 have rest:∀told:MV,StB ⟨(ah 38).2.2.names,8,1⟩ (ah 38).2.1.tail.tail.tail.tail.tail (buρ (aJ its) (.int log) (.int V) (.int b) (ag (ad its)) (.int sp) (.bytes O) (.int (((ad its).length:Int)-2+(u:Int))) told .undef .undef) [B4.mo]
   (fun f ρ' σ'=>∃x σ₂,ends false [B.mo] (.ok (f,ρ') σ')=some (.ok x σ₂)∧x= .bool true∧∃B':Bx,B'.Ok (n+30)∧σ₂=[B'.mo]):=by
  intro told
  have hib:=dq (its:=ac (ad its)) h5 h20 (by have:=hR.rowlen;exact (lB 0x18c40c810c21800210c05410c01) hrl this)
  refine Jh (hagain O hol hw0) fun a1 a2=>?_
  have hal:=bH (W:=(TF (ac (ad its)) log).1) (b:=(TF (ac (ad its)) log).2)
  refine StB.cut 40 (by rfl) ⟨_,_,(hR.write h5 h20).fb,Nat.le_of_ble_eq_true rfl,?_⟩
  have fa:=fV (X:=B4.mo) (its:=its) (row:=ad its) (log:=log) (bits:=b) (again:=ak (TF (ac (ad its)) log).1 (TF (ac (ad its)) log).2) (taken:=O) (by exact (lA 0x1880c35010600c05410c01) hrl) h5 h20 (by exact (lA 0x1881f4018c01812c418c01) hbits) (by exact (lB 0x31887a12010610c928110e200421812c418c01) hib hal) (by exact (lB 0x31887a12010610c928110e200421812c418c01) hbits hol) hR.fit (show(TF (ac (ad its)) log).2≤8000 by exact (lA 0x1881f4018c01812c418c01) hib) a1 a2
  have fw:=eF hB4 (by exact (lA 0x1880c3501064208018271018c01) hn) h5 h7 hR (by exact (lA 0x6203208600c05410c01) hrl)
  refine StB.if_ 40 (by rfl) ⟨_,_,fa,Nat.le_of_ble_eq_true rfl,fun _=>⟨_,_,fw,Nat.le_of_ble_eq_true rfl,fun _ hw=>?_⟩,fun w=>(nomatch w)⟩
  refine tr hw ?_;clear hw;intro B5 hB5 κ;subst κ
  refine Jg (fun _=>StB.skip ?_) (fun w=>(nomatch w))
  have fb:=mX hB5 (by exact (lA 0xc4061a808322844208018271018c01) hn) hR (by exact (lA 0x6202d08600c05410c01) hrl)
  refine StB.of 40 (by rfl) ⟨_,_,fb,Nat.le_of_ble_eq_true rfl,fun _ hw=>?_⟩
  refine Jj hw ?_;clear hw;intro other B6 hO hB6 κ;subst κ
  have hob:=dq (its:=ac other) h5 h20 (by have:=hO.rowlen;have:=hO.len;exact (lB 0x18c40c810c21800210c0c810c01) this (by assumption))
  have hol2:=bH (W:=(TF (ac other) log).1) (b:=(TF (ac other) log).2)
  have fp:=lx (X:=B6.mo) (one:=ad its) (other:=other) (first:=ak (TF (ac (ad its)) log).1 (TF (ac (ad its)) log).2) (second:=ak (TF (ac other) log).1 (TF (ac other) log).2) (log:=log)
   (by exact (lA 0x1880c35010600c05410c01) hrl) (by have:=hO.len;exact (lA 0x1880c35010600c0c810c01) this) h5 h20 (by exact (lB 0x31887a12010610c928110e200421812c418c01) hib hal) (by exact (lB 0x31887a12010610c928110e200421812c418c01) hob hol2) hR.fit (show(TF (ac (ad its)) log).2≤8000 by exact (lA 0x1881f4018c01812c418c01) hib) hO.fit (show(TF (ac other) log).2≤8000 by exact (lA 0x1881f4018c01812c418c01) hob) rfl (fun q=>by refine Kh q▸?_;rfl) (fun q=>mB h5 h20 hR hO q)
  exact StB.run 40 ⟨_,_,(hO.write h5 h20).fb,Nat.le_of_ble_eq_true rfl,_,_,fp.tim.fb,Nat.le_of_ble_eq_true rfl,_,_,rfl,rfl,B6,hB6.mono (by exact lA 0x1027840090422284420801),rfl⟩
 have hrl3:(((ad its).map MV.int).length:Int)=((ad its).length:Nat):=by refine Kh (List.length_map _)▸?_;rfl
 by_cases hu0:u=0
 ·rw[g3 (by exact (lB 0x62ab0848111160094425843200801) hu0)]at fr
  refine StB.of 40 (by rfl) ⟨_,_,tk5,Nat.le_of_ble_eq_true rfl,Nat.le_of_ble_eq_true rfl,_,gC (by exact (lA 0xc450010c01aa0021ac01) v2),_,add_bytes (by rewrite[hol,List.length_singleton];exact (lA 0x62030d404190224a04438801812c418c01) hbits),_,_,tk6,Nat.le_of_ble_eq_true rfl,_,_,fr,Nat.le_of_ble_eq_true rfl,?_⟩
  refine StB.if_ 40 (by rfl) ⟨fun w=>absurd ?_ (show ¬((((ad its).map MV.int).length:Int)-2<((ad its).length:Int)-2+(u:Int)) by exact (lC 0x318c6ea45882510961094425803522c412884b084a212c01900420d9610ac01) hrl3 hu0 w),fun _=>⟨false,H8,fun w=>(nomatch w),fun _=>StB.skip (rest _)⟩⟩
  exact w
 ·rw[g2 (by exact (lB 0xc508111160094425842b0877200801) hu0)]at fr
  have fr:Fn 7 (.ofString "_law_read") [.bytes (O++[UInt8.ofNat x]),.int ((log:Int)+y),.int (((ad its).length:Int)-2+u)] [B4.mo] (.ok (.tup [ag (ad its),.int log,.int (((b+7)/8:Nat):Int)]) [B4.mo]):=fr
  replace fr:=Kh hol▸fr
  refine StB.of 40 (by rfl) ⟨_,_,tk5,Nat.le_of_ble_eq_true rfl,Nat.le_of_ble_eq_true rfl,_,gC (by exact (lA 0xc450010c01aa0021ac01) v2),_,add_bytes (by rewrite[hol,List.length_singleton];exact (lA 0x62030d404190224a04438801812c418c01) hbits),_,_,tk6,Nat.le_of_ble_eq_true rfl,_,_,fr,Nat.le_of_ble_eq_true rfl,?_⟩
  refine StB.if_ 40 (by rfl) ⟨fun _=>⟨?_,Nat.le_of_ble_eq_true rfl,false,px,fun w=>(nomatch w),fun _=>StB.skip (rest _)⟩,fun w=>absurd (show(((ad its).map MV.int).length:Int)-2<((ad its).length:Int)-2+(u:Int) by exact (lC 0x6318a91620944258425109600eea45882510961094425803b900420d9610ac01) hrl3 hu0 w) w⟩
  simp only[aW,dC,aL,aI,Bool.and_self]
noncomputable abbrev leρ (octets told most_log most counts log place items bits again:MV):Loc:=[lc "box" (.ref 0),lc "octets" octets,lc "told" told,lc "most_log" most_log,lc "most" most,lc "counts" counts,lc "log" log,lc "place" place,lc "items" items,lc "bits" bits,lc "again" again]
theorem tj {σ:aa}{l:List Int}{c:Int}:eD σ (ag (l++[c])) (.int (-1))=some (.int c):=by
 refine(?_:((bg ((l++[c]).map MV.int).length (-1)).bind fun j=>((l++[c]).map MV.int)[j]?)=_)
 have:bg ((l++[c]).map MV.int).length (-1)=some l.length:=by
  unfold bg
  rw[if_neg (by decide),if_pos (by simp)]
  simp
 refine Kh this▸?_
 simp
theorem sr {its:List (Int × Nat)}{left:Nat}(h:Cmp its left)(hn:its≠[]):∃l c,ad its=l++[c]∧c≠0:=by
 rcases bY its with rfl|⟨i,⟨c,m⟩,rfl⟩
 ·exact absurd rfl hn
 ·have hc:c≠0:=h.noz _ _ rfl
  have hm:m=0:=(h.wf (c,m) (List.mem_append_right _ (List.mem_cons_self ..))).2 hc
  subst hm
  exact JX (ad i) c aA hc
theorem i8 {B:Bx}{n e:Nat}{D:List UInt8}{lg ms:Int}{cs:List Int}(hB:B.Ok n)(hn:n≤10000)(hlg:lg≤7)(hms:ms≤50)(hD:D.length≤1000)(h:aQ (af D) (8*D.length) lg ms= .ok cs e):
  FbS (fun _=>True) 9 (.ofString "_law_let_right") [.ref 0,.bytes D,.tup [ag cs,.int ((af D%16+5:Nat):Int),.int (((e+7)/8:Nat):Int)],.int lg,.int ms] [B.mo] (.all (okP fun x σ₂=>x= .bool true∧∃B':Bx,B'.Ok (n+10)∧σ₂=[B'.mo])):=by
 rcases fL h with ⟨h4,hl2,its,t1,t2,t3,t4,t5,t6,t7⟩
 have h5:5≤af D%16+5:=by exact lA 0x408512a02004a2
 have h7:af D%16+5≤7:=by exact (lD 0x31881c44289501003400564289501003438801) hlg hl2
 have hlog:af D%16+5=af D%16+5:=rfl
 generalize hL:af D%16+5=log at *
 have h20:log≤20:=by exact (lG 0x318c4282086800ac2190424289501003438801) hlg hL hl2
 have hm:∀x∈its,x.2≤1000:=fun x q=>Nat.le_trans (t6 x q) (by exact (lE 0xc43e810d800d03210c01) hms)
 have hf:=t1.fit hm
 refine Jw (sr t1 (k8 t1)) fun l c hlc hc0=>?_
 subst t3
 have hrl:(ad its).length≤51:=by exact (lD 0x18c403310c01a1022005600d03210c01) hms t7
 have hR:Row (ad its) log:=t1.row (by exact (lD 0x18c40c810c01a1022005600d03210c01) hms t7)
 refine Jh (cf (its:=its) h5 h20) fun k1 k2=>?_
 have hbits:=dq (its:=its) h5 h20 (by exact (lD 0x18c40c810c01a1022005600d03210c01) hms t7)
 have hwT:=ew h5 h20 hL t2
 have fw:=jM (X:=B.mo) h5 h20 t1 (by exact (lD 0x18c40c810c01a1022005600d03210c01) hms t7) (by exact (lC 0x18c6207d00632082414882090410c0c00a0410c3e810c01) hD t5 t4) t2 hL
 have hpl:(e+7)/8≤D.length:=by exact (lB 0xc40214a044388018182140801) t5
 have htl:(D.take ((e+7)/8)).length=(e+7)/8:=by rewrite[List.length_take];exact (lB 0xc4928110e2004e10a50221c400c0214a04438801) hpl
 have htw:af (D.take ((e+7)/8))%2^(TF its log).2=(TF its log).1:=by
  rw[iv hpl,Nat.mod_mod_of_dvd _ (Nat.pow_dvd_pow 2 (by exact (lC 0xc62064a044388014084191021208419102120801) t4 k2)),hwT]
 refine Jh (gT (taken:=D.take ((e+7)/8)) h5 h20 t1 hf (by exact (lD 0x18c40c810c01a1022005600d03210c01) hms t7) (by refine Kh htl▸?_;refine Kh k2▸?_;refine Kh t4▸?_;rfl) htw) fun a1 a2=>?_
 replace fw:=Kh t4▸fw
 have hE:(TF its log).2=e:=by refine Kh k2▸?_;refine Kh t4▸?_;rfl
 rw[hE]at a1 a2 hbits
 have hib:=dq (its:=ac (ad its)) h5 h20 (by have:=hR.rowlen;exact (lG 0x6318819021843000421a1022005600d03210c01) hms t7 this)
 have hal:=bH (W:=(TF (ac (ad its)) log).1) (b:=(TF (ac (ad its)) log).2)
 refine Ft.ex (k:=8) 39 (ρ:=leρ (.bytes D) (.tup [ag (ad its),.int log,.int (((e+7)/8:Nat):Int)]) (.int lg) (.int ms) .undef .undef .undef .undef .undef .undef) rfl rfl rfl ?_
 refine StB.of 40 (by rfl) ?_
 refine(?_:StB _ _ (leρ (.bytes D) (.tup [ag (ad its),.int log,.int (((e+7)/8:Nat):Int)]) (.int lg) (.int ms) (ag (ad its)) (.int log) (.int (((e+7)/8:Nat):Int)) .undef .undef .undef) [B.mo] _)
 refine StB.of 40 (by rfl) ⟨_,_,bN (by exact (lA 0x1887a12010600c3e810c01) hD),Nat.le_of_ble_eq_true rfl,_,_,fw,Nat.le_of_ble_eq_true rfl,?_⟩
 refine(?_:StB _ _ (leρ (.bytes D) (.tup [ag (ad its),.int log,.int (((e+7)/8:Nat):Int)]) (.int lg) (.int ms) (ag (ad its)) (.int log) (.int (((e+7)/8:Nat):Int)) (aJ its) (.int e) .undef) [B.mo] _)
 have hrl3:(((ad its).map MV.int).length:Int)=((ad its).length:Nat):=by refine Kh (List.length_map _)▸?_;rfl
 refine StB.if_ 40 (by rfl) ⟨fun w=>absurd w (show ¬lg<(log:Int) by exact (lG 0x18c6375584200d56108034005610c8212144a80801) hL hl2 w),fun _=>⟨fun w=>absurd w (show ¬ms+1<(((ad its).map MV.int).length:Int) by exact (lG 0x318c6eab08481100355842408801b2c0158434204400ac01) t7 hrl3 w),fun _=>⟨.int c,by rewrite[hlc];exact tj,fun w=>absurd w hc0,fun _=>⟨false,rfl,fun w=>(nomatch w),fun _=>⟨⟨by decide,by decide⟩,fun _=>StB.skip ?_,fun w=>absurd ?_ w⟩⟩⟩⟩⟩
 ·refine StB.cut 40 (by rfl) ⟨_,_,(hR.write h5 h20).fb,Nat.le_of_ble_eq_true rfl,?_⟩
  have fa:=fV (X:=B.mo) (its:=its) (row:=ad its) (log:=log) (bits:=e) (again:=ak (TF (ac (ad its)) log).1 (TF (ac (ad its)) log).2) (taken:=D.take ((e+7)/8)) (by exact (lD 0x6310186a020c01a1022005600d03210c01) hms t7) h5 h20 (by exact (lB 0x18c40fa00c610c0c00a0410c3e810c01) hD t5) (by exact (lB 0x31887a12010610c928110e200421812c418c01) hib hal) (by exact (lC 0x18c621e84804188324a04438821106000a50221c410c3e810c01) hD hpl htl) hR.fit (show(TF (ac (ad its)) log).2≤8000 by exact (lA 0x1881f4018c01812c418c01) hib) a1 a2
  replace fa:=Kh (kt hpl)▸fa
  have fw:=eF hB (by exact (lA 0x310186a020c018271018c01) hn) h5 h7 hR (by exact (lD 0x18c406410c01a1022005600d03210c01) hms t7)
  exact StB.run 40 ⟨_,_,fa.tim.fb,Nat.le_of_ble_eq_true rfl,_,_,(fw.timS fun _ _ h=>h.elim fun _ h=>nomatch h.2).fb,Nat.le_of_ble_eq_true rfl,fun _ hw=>by
   refine tr hw ?_;clear hw;intro B5 hB5 κ;subst κ
   exact⟨_,_,rfl,rfl,B5,hB5,rfl⟩⟩
 ·refine(?_:((e:Int)+7)/8=(((e+7)/8:Nat):Int))
  exact (lA 0xc596940887100294088712c01dd96940887100294088712c01) w
noncomputable abbrev anρ (most_log most low octets longer told more wide:MV):Loc:=[lc "box" (.ref 0),lc "most_log" most_log,lc "most" most,lc "low" low,lc "octets" octets,lc "longer" longer,lc "told" told,lc "more" more,lc "wide" wide]
theorem sJ {log:Nat}{r:Rd}:aL (rdM log r)=true:=by
 cases r with
 |ok cs e=>simp[rdM,aL,noRefs,aI]
 |table=>rfl
 |cut=>rfl
noncomputable abbrev anQ (B:Bx)(n:Nat):MF→Loc→aa→Prop:=fun f ρ' σ'=>∃x σ₂,ends false [B.mo] (.ok (f,ρ') σ')=some (.ok x σ₂)∧x= .bool true∧∃B':Bx,B'.Ok (n+40)∧σ₂=[B'.mo]
theorem uj {B B8:Bx}{n lg ms low:Nat}{D E:List UInt8}(hB:B8.Ok (n+20))(hn:n≤1000)(hlg:lg≤7)(hms:ms≤25)(hD:2≤D.length)(hD2:D.length≤6)(hE:E.length=D.length+2)(hlow:af D%16=low)(hW:af D%2^(8*D.length)=af E%2^(8*D.length)):
  StB ⟨(ah 40).2.2.names,9,1⟩ (ah 40).2.1.tail.tail.tail.tail (anρ (.int lg) (.int ms) (.int low) (.bytes D) (.bytes E) .undef .undef .undef) [B8.mo] (anQ B n):=by
 have hN:8*D.length≤8*E.length:=by exact (lB 0xc40c00a046085029104208401) hE
 have h4:4≤8*D.length:=by exact (lA 0x310300281105000442) hD
 have hl:=iq hW hN h4
 have f1:=bn (X:=B8.mo) (D:=D) (lg:=lg) (ms:=ms) (by exact (lA 0x314fa04358030c8801) hms)
 have f2:=bn (X:=B8.mo) (D:=E) (lg:=lg) (ms:=ms) (by exact (lA 0x314fa04358030c8801) hms)
 have f3:=bn (X:=B8.mo) (D:=D) (lg:=lg) (ms:=999) (by exact lI 0x14fa043f9c43)
 have l1:=fun cs e (h:aQ (af D) (8*D.length) lg ms= .ok cs e)=>i8 hB (by exact (lA 0x6209c4063250400c3e810c01) hn) (show(lg:Int)≤7 by exact (lA 0xc50e25803038801) hlg) (show(ms:Int)≤50 by exact (lA 0x3140c84358030c8801) hms) (by exact (lA 0x1887d021803030801) hD2) h
 have l2:=fun cs e (h:aQ (af E) (8*E.length) lg ms= .ok cs e)=>i8 hB (by exact (lA 0x6209c4063250400c3e810c01) hn) (show(lg:Int)≤7 by exact (lA 0xc50e25803038801) hlg) (show(ms:Int)≤50 by exact (lA 0x3140c84358030c8801) hms) (by exact (lB 0x31887d0218432208400843030801) hD2 hE) h
 have a1:=fun cs e=>Bj (lg:=lg) (ms:=ms) hW hN h4 (cs:=cs) (e:=e)
 have a2:=rF (lg:=lg) (ms:=ms) hW hN h4
 have a3:=ui (W:=af D) (lg:=lg) (ms:=ms) h4
 have a4:=fun cs e h hr=>wo (lg:=lg) (ms:=ms) hW hN h4 rfl h (cs:=cs) (e:=e) hr
 have a5:=p7 (W:=af D) (N:=8*D.length) (lg:=lg) (ms:=ms) h4
 have a6:=p7 (W:=af E) (N:=8*E.length) (lg:=lg) (ms:=ms) (by exact (lB 0x1881801408829104208401) hE)
 rw[hl,hlow]at f2 l2 a6
 rw[hlow]at f1 f3 l1 a3 a5
 clear hlow hl hW
 generalize aQ (af D) (8*D.length) lg ms=R at *
 generalize aQ (af E) (8*E.length) lg ms=R' at *
 generalize aQ (af D) (8*D.length) lg 999=R3 at *
 refine StB.tup 40 true rfl rfl ⟨_,_,f1,Nat.le_of_ble_eq_true rfl,_,_,f2,Nat.le_of_ble_eq_true rfl,⟨?_,rfl,Nat.le_of_ble_eq_true rfl⟩,_,rfl,?_⟩
 ·cases R<;>cases R'<;>simp[aW,dC,sJ,rdM,aL,noRefs,aI]
 refine(?_:StB _ _ (anρ (.int lg) (.int ms) (.int low) (.bytes D) (.bytes E) (rdM (low+5) R) (rdM (low+5) R') .undef) [B8.mo] _)
 have fin:∀{ρ:Loc}{B':Bx},B'.Ok (n+40)→anQ B n (.ret (.bool true)) ρ [B'.mo]:=fun h=>⟨_,_,rfl,rfl,_,h,rfl⟩
 have hB40:B8.Ok (n+40):=hB.mono (by exact lA 0x102050218024a0801)
 refine StB.if_ 40 (by rfl) ⟨fun w=>?_,fun w=>StB.skip ?_⟩
 ·have w:(lg:Int)<(low:Int)+5:=w
  rw[a5 (by push_cast;exact (lB 0x18a90222044408881110225842b006a4289610ac01) (by assumption)),a6 (by push_cast;exact (lB 0x18a90222044408881110225842b006a4289610ac01) (by assumption))]
  exact StB.run 40 ⟨true,l9,fun _=>⟨true,l9,fun _=>fin hB40,fun w=>(nomatch w)⟩,fun w=>(nomatch w)⟩
 ·have w:¬(lg:Int)<(low:Int)+5:=w
  cases R with
  |table=>
   refine Kh (a2 rfl)▸?_
   refine StB.if_ 40 (by rfl) ⟨true,l9,fun _=>?_,fun w=>(nomatch w)⟩
   refine StB.of 40 (by rfl) ⟨_,_,f3,Nat.le_of_ble_eq_true rfl,?_⟩
   rcases a3 rfl (by push_cast;exact (lB 0x31458024088811102220444089610eea4289610ac01) (by assumption)) (by exact (lA 0xc419010cc00a05030801) hD2)with q|⟨cs,e,q,q2⟩
   ·subst q
    exact StB.run 40 ⟨true,l9,fun _=>⟨true,qh,fun _=>fin hB40,fun w=>(nomatch w)⟩,fun w=>(nomatch w)⟩
   ·subst q
    exact StB.run 40 ⟨true,l9,fun _=>⟨false,eU dB,fun w=>(nomatch w),fun _=>⟨_,rfl,fun _=>fin hB40,fun w=>absurd (by rewrite[List.length_map];exact q2) w⟩⟩,fun w=>(nomatch w)⟩
  |ok cs e=>
   refine Kh (a1 cs e rfl)▸?_
   refine StB.if_ 40 (by rfl) ⟨false,eU cJ,fun w=>(nomatch w),fun _=>StB.skip ?_⟩
   refine StB.if_ 40 (by rfl) ⟨false,eU dB,fun w=>(nomatch w),fun _=>StB.skip ?_⟩
   refine StB.if_ 40 (by rfl) ⟨false,eU dB,fun w=>(nomatch w),fun _=>StB.skip ?_⟩
   have fl:=l1 cs e rfl
   exact StB.run 40 ⟨true,vZ,fun _=>⟨_,_,fl.fb,Nat.le_of_ble_eq_true rfl,fun _ hw=>by
    rcases hw with ⟨_,_,rfl,rfl,B9,hB9,rfl⟩
    exact fin (hB9.mono (by exact lA 0x8102810c0122844a0801))⟩,fun w=>(nomatch w)⟩
  |cut=>
   refine StB.if_ 40 (by rfl) ⟨false,HV,fun w=>(nomatch w),fun _=>StB.skip ?_⟩
   cases R' with
   |cut=>exact StB.if_ 40 (by rfl) ⟨true,qh,fun _=>⟨true,qh,fun _=>StB.run 40 (fin hB40),fun w=>(nomatch w)⟩,fun w=>(nomatch w)⟩
   |table=>exact StB.if_ 40 (by rfl) ⟨true,qh,fun _=>⟨false,HU,fun w=>(nomatch w),fun _=>⟨true,l9,fun _=>StB.run 40 (fin hB40),fun w=>(nomatch w)⟩⟩,fun w=>(nomatch w)⟩
   |ok cs e=>
    have hp:=a4 cs e rfl rfl
    refine StB.if_ 40 (by rfl) ⟨true,qh,fun _=>⟨false,eU dB,fun w=>(nomatch w),fun _=>⟨false,eU cJ,fun w=>(nomatch w),fun _=>StB.skip ?_⟩⟩,fun w=>(nomatch w)⟩
    refine StB.if_ 40 (by rfl) ⟨true,qh,fun _=>?_,fun w=>(nomatch w)⟩
    have fl:=l2 cs e rfl
    exact StB.run 40 ⟨_,rfl,fun _=>⟨_,_,fl.fb,Nat.le_of_ble_eq_true rfl,fun _ hw=>by
    rcases hw with ⟨_,_,rfl,rfl,B9,hB9,rfl⟩
    exact fin (hB9.mono (by exact lA 0x8102810c0122844a0801))⟩,fun w=>absurd (show(D.length:Int)<(((e+7)/8:Nat):Int) by lia) w⟩
theorem nJ {q:Nat}{ex:List UInt8}(h:q<256):af (UInt8.ofNat q::ex)%16=q%16:=by
 rewrite[af];refine Kh UInt8.toNat_ofNat'▸?_;refine Kh (Nat.mod_eq_of_lt (show q<2^8 from h))▸?_
 lia
theorem ow {B:Bx}{n:Nat}(hB:B.Ok n)(hn:n≤1000):FbS (fun _=>True) 10 (.ofString "_law_any_right") [.ref 0] [B.mo] (.all (okP fun x σ₂=>x= .bool true∧∃B':Bx,B'.Ok (n+40)∧σ₂=[B'.mo])):=by
 refine Ft.ex (k:=9) 40 (ρ:=anρ .undef .undef .undef .undef .undef .undef .undef .undef) rfl rfl rfl ?_
 have draw:∀{B:Bx}{n:Nat}{m:Int}{k:Nat},B.Ok n→n≤100000→m=k→0<k→k<100000→∃(d:Nat) (B':Bx),d<k∧B'.Ok (n+1)∧Fn 1 (.ofString "_law_take") [.ref 0,.int m] [B.mo] (.ok (.int d) [B'.mo]):=by
  intro B n m k hB hn hm h0 h1
  subst hm
  have d1:=Bx.digit_lo (B:=B) (m:=k) (by exact (lA 0xc55600805100402) h0)
  have d2:=Bx.digit_hi (B:=B) (m:=k) (by exact (lA 0xc55600805100402) h0)
  refine Jp ((B.digit k).toNat) (B.next k) (by exact (lD 0x6311005800d5600803100402) h0 d2) (hB.next (by exact (lA 0xc55600805100402) h0)) ?_
  rw[show(((B.digit k).toNat:Nat):Int)=B.digit k by exact (lE 0x18b002b6003400402) d1]
  exact ax hB (by exact (lA 0x18877359400618030186a020c01) hn) (by exact (lA 0xc55600805100402) h0) (by exact (lA 0x18ac0000000000000001a358031186a020c01) h1)
 have ways:=fun(B8:Bx) (lg ms low:Nat) (D E:List UInt8) (hB:B8.Ok (n+20))=>uj (B:=B) (lg:=lg) (ms:=ms) (low:=low) (D:=D) (E:=E) hB hn
 refine Jj (draw (m:=3) (k:=3) hB (by exact (lA 0x1880c35010600c3e810c01) hn) rfl (by decide) (by decide)) fun t3 B1 e1 hB1 k1=>?_
 refine Jj (draw (m:=6) (k:=6) hB1 (by exact (lA 0xc4061a8083204400c3e810c01) hn) rfl (by decide) (by decide)) fun t6 B2 e2 hB2 k2=>?_
 refine Jj (draw (m:=4) (k:=4) hB2 (by exact (lA 0x62030d40419022204400c3e810c01) hn) rfl (by decide) (by decide)) fun t4 B3 e3 hB3 k3=>?_
 refine Jj (draw (m:=5) (k:=5) hB3 (by exact (lA 0x310186a020c8111022204400c3e810c01) hn) rfl (by decide) (by decide)) fun t5 B4 e4 hB4 k4=>?_
 have rest3:∀(lg ms low:Nat) (B5:Bx),B5.Ok (n+5)→lg≤7→ms≤25→low<16→StB ⟨(ah 40).2.2.names,9,1⟩ (ah 40).2.1.tail.tail (anρ (.int lg) (.int ms) (.int low) .undef .undef .undef .undef .undef) [B5.mo] (anQ B n):=by
  intro lg ms low B5 hB5 hlg hms hlow
  refine Jj (draw (m:=16) (k:=16) hB5 (by exact (lA 0xc4061a8083214400c3e810c01) hn) rfl (by decide) (by decide)) fun t16 B6 e6 hB6 k6=>?_
  refine Jj (draw (m:=5) (k:=5) hB6 (by exact (lA 0x62030d40419022214400c3e810c01) hn) rfl (by decide) (by decide)) fun c B7 e7 hB7 k7=>?_
  have hrange:bG [.int (1+(c:Int))]=some ((List.range (1+c)).map fun(k:Nat)=>.int (k:Int)):=by
   rw[show(1:Int)+(c:Int)=((1+c:Nat):Int) by exact (lA 0x16590010888b00422)]
   exact cU (by exact (lA 0x310f424020c800845128801) e7)
  refine StB.of 40 (by rfl) ⟨_,_,k6,Nat.le_of_ble_eq_true rfl,.inl (by decide),Nat.le_of_ble_eq_true rfl,_,_,k7,Nat.le_of_ble_eq_true rfl,_,hrange,gc (n+5+1+1) (1+c),gc.start hB7,fun y rr acc σ h=>?_,fun acc σ h=>?_⟩
  ·rcases h.turn (by exact (lB 0x31887a120106420421110222044428801894410c3e810c01) hn e7) with ⟨⟨i,rfl⟩,v,σ',f1,f2⟩
   exact⟨_,rfl,_,_,f1,Nat.le_of_ble_eq_true rfl,f2⟩
  ·refine JE h ?_;clear h;intro B8 l κ;subst κ;intro h1 κ2;subst κ2;intro h2 _ h4
   have hll:l.length=1+c:=by simpa using h2
   refine Jj (draw (m:=256) (k:=256) h4 (by exact (lC 0xc6310186a020c820902220444288019102108841894410c3e810c01) hn e7 hll) rfl (by decide) (by decide)) fun x B9 e9 hB9 k9=>?_
   refine⟨by rewrite[List.length_map];unfold ai;exact (lB 0x18c40200000518432200211043128801) e7 hll,aI _,.list ((((low:Int)+16*(t16:Int))::l).map .int),bk (by rewrite[List.length_map,List.length_singleton];exact (lB 0x6310186a020c8108452200211043128801) e7 hll),_,fE (fun i hi=>?_) (by rewrite[List.length_cons];exact (lB 0x18c43e810c8110432200211043128801) e7 hll),?_⟩
   ·rcases List.mem_cons.mp hi with rfl|hi
    ·exact (lB 0x18c66a80086432c21809600d0865843012c0100a301043180801) hlow e6
    ·exact h1 i hi
   have hq:((low:Int)+16*(t16:Int)).toNat=low+16*t16:=by exact lB 0x910c10c0400b0865843012c01
   refine(?_:StB _ _ (anρ (.int lg) (.int ms) (.int low) (.bytes (UInt8.ofNat (((low:Int)+16*(t16:Int)).toNat)::l.map fun i=>UInt8.ofNat i.toNat)) .undef .undef .undef .undef) [B8.mo] _)
   refine Kh hq▸?_
   have hw:=nJ (q:=low+16*t16) (ex:=l.map fun i=>UInt8.ofNat i.toNat) (by exact (lB 0x18c450010c8608602006301043180801) hlow e6)
   have hDl:(UInt8.ofNat (low+16*t16)::l.map fun i=>UInt8.ofNat i.toNat).length=2+c:=by rewrite[List.length_cons,List.length_map];exact (lB 0xc488108844088019102108801) hll
   generalize (UInt8.ofNat (low+16*t16)::l.map fun i=>UInt8.ofNat i.toNat)=D at *
   refine StB.of 40 (by rfl) ⟨_,_,k9,Nat.le_of_ble_eq_true rfl,Nat.le_of_ble_eq_true rfl,_,fE (l:=[(x:Int),255]) (fun i hi=>?_) (Nat.le_of_ble_eq_true rfl),_,add_bytes (by rewrite[List.length_map];simp;exact (lB 0xc62030d3c418432200221043128801) e7 hDl),?_⟩
   ·simp only[List.mem_cons,List.not_mem_nil,or_false]at hi
    rcases hi with rfl|rfl<;>(first|exact (lA 0x63354004358034580201450010c01) e9|exact lI 0x19aa00219fe21d0ff10c02)
   ·refine ways B9 lg ms low D (D++[(x:Int),255].map fun i=>UInt8.ofNat i.toNat) (hB9.mono (by exact (lC 0x318812821048111021204440888510832200211043128801) e7 hll)) hlg hms (by exact (lB 0x310004429102110801) hDl) (by exact (lB 0xc620610432200221043128801) e7 hDl) (by rewrite[List.length_append];rfl) (by rewrite[hw];lia) ?_
    refine Kh bp▸?_;rewrite[Nat.add_mul_mod_self_left];rfl
 have rest2:∀(lg ms:Nat),5≤lg→lg≤7→ms≤25→StB ⟨(ah 40).2.2.names,9,1⟩ (ah 40).2.1.tail (anρ (.int lg) (.int ms) .undef .undef .undef .undef .undef .undef) [B3.mo] (anQ B n):=by
  intro lg ms h5 h7 hms
  refine Jj (draw (m:=16) (k:=16) hB4 (by exact (lA 0x1880c35010640888111022204400c3e810c01) hn) rfl (by decide) (by decide)) fun l1 B5 e5 hB5 k5=>?_
  refine Jj (draw (m:=(lg:Int)-4) (k:=lg-4) hB4 (by exact (lA 0x1880c35010640888111022204400c3e810c01) hn) (by exact (lA 0x62cb290400948258030004a2) h5) (by exact (lA 0x3112904008050004a2) h5) (by exact (lA 0x311186a020ca41003038801) h7)) fun l2 B6 e6 hB6 k6=>?_
  refine StB.of 40 (by rfl) ⟨Nat.le_of_ble_eq_true rfl,_,_,k4,Nat.le_of_ble_eq_true rfl,fun _=>⟨_,rfl,_,_,k5,Nat.le_of_ble_eq_true rfl,?_⟩,fun _=>⟨_,rfl,_,_,k6,Nat.le_of_ble_eq_true rfl,?_⟩⟩
  ·exact rest3 lg ms l1 B5 hB5 h7 hms (by exact (lA 0x62301003180801) e5)
  ·exact rest3 lg ms l2 B6 hB6 h7 hms (by exact (lB 0xc623010431290400843038801) h7 e6)
 refine StB.tup 40 true rfl rfl ⟨_,_,k1,Nat.le_of_ble_eq_true rfl,_,_,k2,Nat.le_of_ble_eq_true rfl,_,_,k3,Nat.le_of_ble_eq_true rfl,fun _=>⟨.inl (by decide),⟨rfl,rfl,Nat.le_of_ble_eq_true rfl⟩,_,rfl,?_⟩,fun _=>⟨.inl (by decide),⟨rfl,rfl,Nat.le_of_ble_eq_true rfl⟩,_,rfl,?_⟩⟩
 ·have:=rest2 (5+t3) (t6+20) (by exact lA 0x81001288a2) (by exact (lA 0x310388800945118801) e1) (by exact (lA 0x310c88941003130801) e2)
  push_cast at this
  exact this
 ·have:=rest2 (5+t3) (t6+0) (by exact lA 0x81001288a2) (by exact (lA 0x310388800945118801) e1) (by exact (lA 0x310c88801003130801) e2)
  push_cast at this
  exact this
theorem rR {C:Cx}{ρ:Loc}{σ:aa}{e:PySem.Expr}{Q1:MV→aa→Prop}{KT KF:aa→Prop}(h:WE C ρ e σ Q1 noX)(h1:∀x σ₁,Q1 x σ₁→CmpEx (cB x) (KT σ₁) (KF σ₁))(he:isTrue e C.env (eval e C.env)=(do let v ← eval e C.env;standAt e.pos;holding [v] (truthy v)):=by rfl):WT C ρ e σ KT KF:=
 fun g K E T P=>isTrue_plain (h g _ E T (fun x σ₁ g1 v q a T1 R=>(h1 x σ₁ q).elim (fun e p=>bu R e (P.t σ₁ g1 p a T1)) fun e p=>bu R e (P.f σ₁ g1 p a T1)) .no) he
theorem pW {v:VC}{g:Str}{vs:List MV}{σ:aa}{Q:MV→aa→Prop}{X:XP}(h:CallEx v g vs σ Q X):CallOk v g vs σ Q X:=match h with
 | .intro _ _ hF hk q=>⟨hF.keep,fun C w=>(hF.sim C w.ok (Nat.le_trans hk w.d)).mono (fun _ _ e=>q.at e) fun _ _ e=>q.at e⟩
theorem StB.callIf (n:Nat){v:VC}{l rest:List Stmt}{ρ:Loc}{σ:aa}{Q:MF→Loc→aa→Prop}{nm f g tn:Str}{a1 a2 x y:PySem.Expr}{p1 fp ip cp pos tp:Pos}{v3:MV}{b:Bool}
  (hl:l= .Assign [.Name nm p1] (.Call (.Name f fp) [a1,a2,.IfExp (.Name tn tp) x y ip] [] cp) pos::rest) (hf:cP v.N ρ f=some (.glob g)) (hs:noStar [a1,a2,.IfExp (.Name tn tp) x y ip]=true) (ht:cP v.N ρ tn=some v3) (hb:cB v3=some b) (s1:cD a1=false) (s2:cD a2=false)
  (h:Mine.run n (.e v a1 ρ σ (fun v1 σ1=>Mine.run n (.e v a2 ρ σ1 (fun v2 σ2=>Mine.run n (.e v (if b then x else y) ρ σ2 (fun v3 σ3=>CallEx v g [v1,v2,v3] σ3 (fun z σ4=>aq (dZ v.N ρ nm z) fun ρ'=>StB v rest ρ' σ4 Q) noX) noX)) noX)) noX)):StB v l ρ σ Q:=by
 subst hl
 refine StB.cons fun C w=>.any ?_
 refine kN w.s.e.ok rfl (ix (A:=fun vs σ=>CallEx v g vs σ (fun z σ4=>aq (dZ v.N ρ nm z) fun ρ'=>StB v rest ρ' σ4 Q) noX) w.s.e.ok (dv _) (w.s.e.names.symm▸hf) (fun vs σ₁ q=>(pW q).keep _) hs ?_ fun vs σ₁ q=>(pW q).sim C w.s.e) fun z σ₁ q=>w.s.e.names.symm▸elF q
 refine en (A1:=fun v1 vs σ=>CallEx v g (v1::vs) σ (fun z σ4=>aq (dZ v.N ρ nm z) fun ρ'=>StB v rest ρ' σ4 Q) noX) s1 (ay n _ h C w.s.e) (fun v1 σ1 q=>?_) fun _ _ _ q=>q
 refine en (A1:=fun v2 vs σ=>CallEx v g (v1::v2::vs) σ (fun z σ4=>aq (dZ v.N ρ nm z) fun ρ'=>StB v rest ρ' σ4 Q) noX) s2 (ay n _ q C w.s.e) (fun v2 σ2 q=>?_) fun _ _ _ q=>q
 refine en (Q1:=fun v3 σ=>CallEx v g [v1,v2,v3] σ (fun z σ4=>aq (dZ v.N ρ nm z) fun ρ'=>StB v rest ρ' σ4 Q) noX) (A1:=fun v3 vs σ=>CallEx v g (v1::v2::v3::vs) σ (fun z σ4=>aq (dZ v.N ρ nm z) fun ρ'=>StB v rest ρ' σ4 Q) noX) rfl ?_ (fun v3 σ3 q=>jX q) fun _ _ _ q=>q
 have hE:=ay n _ q C w.s.e
 refine pg (KT:=fun σ=>b=true∧σ=σ2) (KF:=fun σ=>b=false∧σ=σ2) (rR (Q1:=fun z σ=>z=v3∧σ=σ2) (nM w.s.e.ok (dv _) (w.s.e.names.symm▸ht) ⟨rfl,rfl⟩) fun z σ q=>.intro b (q.1▸hb) (fun e=>⟨e,q.2⟩) fun e=>⟨e,q.2⟩) (fun σ q=>?_) fun σ q=>?_
 ·refine Jh q ?_;clear q;intro e1 e2
  subst e1 e2
  exact hE
 ·refine Jh q ?_;clear q;intro e1 e2
  subst e1 e2
  exact hE
noncomputable abbrev lwρ (script tiny box log items:MV):Loc:=[lc "script" script,lc "tiny" tiny,lc "box" box,lc "log" log,lc "items" items]
theorem mm {σ:aa}{l:List Int}:bV σ (.ofString "sum") [.list (l.map .int)]=some (.int l.sum,σ):=by
 exact nS (dN _)
theorem uV {σ:aa}{l:List Int}{a b:Option Int}:bV σ (.ofString "sum") [.list (cut (l.map MV.int) a b)]=some (.int (cut l a b).sum,σ):=by
 have:cut (l.map MV.int) a b=(cut l a b).map .int:=by
  unfold cut
  refine Kh (List.length_map _)▸?_;refine Kh List.map_take▸?_;refine Kh List.map_drop▸?_;rfl
 refine Kh this▸?_
 exact mm
noncomputable abbrev lwQ:MF→Loc→aa→Prop:=fun f _ _=>f= .ret (.bool true)
theorem s4 {s:List Int}{d:Nat}(hd:10≤d):StB ⟨(ah 41).2.2.names,d,0⟩ (ah 41).2.1 (lwρ (ag s) .undef .undef .undef .undef) [] lwQ:=by
 have rest3:∀(t lg:Nat) (B:Bx),t≤1→5≤lg→lg≤7→B.Ok 1→StB ⟨(ah 41).2.2.names,d,0⟩ (ah 41).2.1.tail.tail.tail (lwρ (ag s) (.int t) (.ref 0) (.int lg) .undef) [B.mo] lwQ:=by
  intro t lg B ht h5 h7 hB
  have last:∀(its:List (Int × Nat)) (B2:Bx),Drawn its lg→B2.Ok 30→StB ⟨(ah 41).2.2.names,d,0⟩ (ah 41).2.1.tail.tail.tail.tail (lwρ (ag s) (.int t) (.ref 0) (.int lg) (aJ its)) [B2.mo] lwQ:=by
   intro its B2 hd2 hB2
   have fb:=ly hB2 (by exact lI 0x8271018fc2) h5 h7 hd2
   refine StB.run 40 ⟨_,_,fb.fb,show _≤d by exact (lA 0x62000a45000542) hd,fun _ hw=>?_⟩
   rcases hw with ⟨_,_,rfl,rfl,B3,hB3,rfl⟩
   have fa:=ow hB3 (by exact lI 0x21f40864f0bc2)
   refine Jg (fun _=>rfl) (fun _=>⟨_,_,fa.fb,show _≤d by exact (lA 0x62000a85000542) hd,fun _ hw=>?_⟩)
   rcases hw with ⟨_,_,rfl,rfl,B4,hB4,rfl⟩
   exact rfl
  have ht:t=0∨t=1:=by exact (lA 0x18d4822006401003008801) ht
  rcases ht with rfl|rfl
  ·have d1:=Bx.digit_lo (B:=B) (m:=3) (by decide)
   have d2:=Bx.digit_hi (B:=B) (m:=3) (by decide)
   have tk:=ax (rest:=[]) (m:=3) hB (by exact lI 0x43b9aca0030c22) (by decide) (by decide)
   have hB1:(B.next 3).Ok 2:=hB.next (by decide)
   obtain⟨u,hu⟩:∃u:Nat,B.digit 3=u:=⟨(B.digit 3).toNat,by exact (lE 0x18b2d800803400402) d1⟩
   rw[hu]at tk d1 d2
   generalize B.next 3=B1 at *
   have fd:=fU (log:=lg) (many:=1+u) hB1 (by exact lI 0x10186a020c42) (by exact (lA 0x62141003038801) h7) h5 (by exact lA 0x8100108822) (by exact (lA 0x62031100108aa312c01) d2)
   rw[show((1+u:Nat):Int)=1+(u:Int) by exact (lA 0x1622c010896400422)]at fd
   exact StB.callIf 40 rfl rfl rfl rfl (b:=false) rfl rfl rfl ⟨_,_,tk,show _≤d by exact (lA 0x62000845000542) hd,_,_,fd,show _≤d by exact (lA 0x62000885000542) hd,fun _ hw=>by
    refine Jj hw ?_;clear hw;intro its B2 hD hB2 κ;subst κ
    exact last its B2 hD (hB2.mono (by exact lI 0x87844c0842))⟩
  ·have fd:=fU (log:=lg) (many:=1) hB (by exact lI 0x10186a020c22) (by exact (lA 0x62141003038801) h7) h5 (by exact lI 0x1008822) (by exact lI 0x1018822)
   exact StB.callIf 40 rfl rfl rfl rfl (b:=true) rfl rfl rfl ⟨_,_,fd,show _≤d by exact (lA 0x62000885000542) hd,fun _ hw=>by
    refine Jj hw ?_;clear hw;intro its B2 hD hB2 κ;subst κ
    exact last its B2 hD (hB2.mono (by exact lI 0x87844c0822))⟩
 have rest2:∀(t:Nat) (cell:Int),t≤1→StB ⟨(ah 41).2.2.names,d,0⟩ (ah 41).2.1.tail.tail (lwρ (ag s) (.int t) (.ref 0) .undef .undef) [.list [.int (if(0:Int)<cell-10^18 then cell-10^18 else 0),.int (cell%2147483629),.int 0]] lwQ:=by
  intro t cell ht
  have hB:Bx.Ok 0 ⟨if(0:Int)<cell-10^18 then cell-10^18 else 0,cell%2147483629,0⟩:=by
   refine⟨?_,Int.emod_nonneg _ (by decide),Int.emod_lt_of_pos _ (by decide),Int.le_refl _,Int.le_refl _⟩
   refine(?_:0≤(if(0:Int)<cell-10^18 then cell-10^18 else 0))
   split<;>(first|exact (lE 0x18a17782dace9d9000018300402a97782dace9d9000018300402) (by assumption)|exact lI 0x1400802)
  refine(?_:StB _ _ _ [Bx.mo ⟨if(0:Int)<cell-10^18 then cell-10^18 else 0,cell%2147483629,0⟩] _)
  generalize (⟨if(0:Int)<cell-10^18 then cell-10^18 else 0,cell%2147483629,0⟩:Bx)=B at *
  have d1:=Bx.digit_lo (B:=B) (m:=3) (by decide)
  have d2:=Bx.digit_hi (B:=B) (m:=3) (by decide)
  have tk:=ax (rest:=[]) (m:=3) hB (by exact lI 0x43b9aca0030c02) (by decide) (by decide)
  have hB1:(B.next 3).Ok 1:=hB.next (by decide)
  obtain⟨u,hu⟩:∃u:Nat,B.digit 3=u:=⟨(B.digit 3).toNat,by exact (lE 0x18b2d800803400402) d1⟩
  rw[hu]at tk d1 d2
  generalize B.next 3=B1 at *
  refine StB.of 40 (by rfl) ⟨_,_,tk,show _≤d by exact (lA 0x62000845000542) hd,.inl (by exact (lA 0x3188c0000000000000001a35ac01a2c0100aa312c01) d2 d1),?_⟩
  refine(?_:StB _ _ (lwρ (ag s) (.int t) (.ref 0) (.int (5+(u:Int)*(1-(t:Int)))) .undef) [B1.mo] _)
  have ht2:t=0∨t=1:=by exact (lA 0x18d4822006401003008801) ht
  rcases ht2 with rfl|rfl
  ·refine Kh (show(5:Int)+(u:Int)*(1-((0:Nat):Int))=((5+u:Nat):Int) by lia)▸?_
   exact rest3 0 (5+u) B1 (by decide) (by exact lA 0x81001288a2) (by exact (lA 0x62071100128aa312c01) d2) hB1
  ·refine Kh (show(5:Int)+(u:Int)*(1-((1:Nat):Int))=((5:Nat):Int) by lia)▸?_
   exact rest3 1 5 B1 (by decide) (by exact lI 0x10288a2) (by exact lI 0x10388a2) hB1
 have rest1:∀(t:Nat),t≤1→StB ⟨(ah 41).2.2.names,d,0⟩ (ah 41).2.1.tail (lwρ (ag s) (.int t) .undef .undef .undef) [] lwQ:=by
  intro t ht
  refine StB.of 40 (by rfl) ⟨fun _=>⟨_,_,i9,show _≤d by exact (lA 0x62000845000542) hd,rest2 t _ ht⟩,fun w=>?_⟩
  cases s with
  |nil=>exact absurd rfl w
  |cons a r=>exact⟨.int a,rfl,_,uV,.inl (by decide),_,_,i9,show _≤d by exact (lA 0x62000845000542) hd,rest2 t _ ht⟩
 exact StB.of 40 (by rfl) ⟨fun _=>⟨_,mm,fun _=>rest1 1 (by decide),fun _=>rest1 0 (by decide)⟩,fun _=>rest1 0 (by decide)⟩
section
set_option maxHeartbeats 0
noncomputable abbrev hQ:Program:=PySem.W.view pw [41]
noncomputable def jh:List Str:=(["_wall","PressError","CutShort","BadTable","BadArgument","need_count","need_value","end_of","LowWriter","Octets","LEAST_LOG","MOST_LOG","places_of","counts_fault","CountBits","read_counts","write_upto","write_run","write_counts","_law_box","_law_take","_law_drawn","_law_row","_law_items","_law_word","_law_told","_law_walked","_law_whole","_law_octets","_law_read","_law_again_right","_law_written_right","_law_bent","_law_parts_right","_law_built_right","_law_let_right","_law_any_right"]:List String).map Str.ofString
noncomputable abbrev hH:Hook:=kHook KF kAs (fun _=>by kernel_rfl)
noncomputable abbrev hXt:Shared→Bool:=fun s=>xlAt hQ [] s&&recOk (RowW.records PySem.Challenge.rw_tg0037_01.row.toRowW) s
theorem vV:∀w:World,(fun os=>((staticsOk (importedModules pw.main.body) (boot_heap w.params) (bh w.params)&&namesBound pw (bh w.params)&&gensDone ⟨bh w.params,⟨[]⟩,boot_drawn,816,os⟩&&laidKept (boot_heap w.params) (bh w.params)),
    openSeen hQ jh (importedModules pw.main.body) hXt true ⟨bh w.params,⟨[]⟩,boot_drawn,816,os⟩,hH.obs ⟨bh w.params,⟨[]⟩,boot_drawn,816,os⟩))=fun _=>(true,openGood hQ jh,hH.val w):=fun w=>funext fun os=>by kernel_rfl
theorem AU:LeftO pw hQ jh hXt hH.obs hH.val 3112:=LeftO.of_pieces AT AK Hr (by decide) vV
noncomputable def hD:DefRec × List (Str × PySem.Expr):=(defOf hQ PySem.Challenge.rw_tg0037_01.row.name).get (by kernel_rfl)
end
theorem pq {P:Params}{B:Heap}{imm:Led}:∀{vs:List Value}{ns:List Int},IntsAre vs ns→Svs P B imm (ns.map .int) vs
 |_,_,.nil=>rfl
 |_,_,.cons n t h=>by
  exact Jp _ _ rfl ⟨t,rfl⟩ (pq h)
theorem wQ (P:Params):nsIn (KF P) mainGlobals (Str.ofString "law")=some (some (.ref 450)):=by kernel_rfl
theorem s3 {w:World}{s₁:Shared}{l:Addr}{vs:List Value}{ns:List Int}(T:TopB s₁.heap)(K:(KF w.params).In s₁.heap)(hL:s₁.heap.IsList l vs.toArray)(hI:IntsAre vs ns)(hl:ns.length≤63):
  wpS (model pw w) callerA (PySem.call (.ref 450) [.ref l]) (fun v s'=>v= .bool true∧(∀b o,s₁.heap.get? b=some o→s'.heap.get? b=some o)∧s'.os=s₁.os∧s'.gens=s₁.gens) (fun _ _=>False) s₁:=by
 refine JH ((f0 w.params).fn (.ofString "law") (ah 41).1 (ah 41).2.1 (ah 41).2.2 rfl) fun a h1 h2 h3 fo h5=>?_
 replace h1:=wQ _▸h1
 refine Jk h1 ?_;clear h1;intro κ;cases κ
 cases h3 with|mk oc od osl name qual kV doc pm an cdv ct hK hcd=>
 rcases hL with ⟨ol,hol,hcl,n,hdl⟩
 have hlen:vs.length=ns.length:=hI.length
 have hR:∀imm,Rvl w.params s₁.heap [] imm [ag ns] [.ref l]:=fun imm=>by
  refine Jp _ _ rfl ?_ rfl
  refine(?_:Sv _ _ _ (.list _) _)
  exact JC l vs ol n rfl (.inr hol) hcl hdl (by rewrite[List.length_map];exact Nat.le_trans hl (by decide)) (pq hI)
 refine cH (ek (E':=fun _ _=>False) (by decide) (K _ _ hK) rfl fo.co fo.gen rfl (codeRec_of K hcd) (fun _ _ x=>x.elim) (ju (vals:=[.ref l]) rfl fo.po fo.ko fo.va fo.ka rfl fo.nd _ _ _ _ ?_))
 have hcl0:∀k,cellsFrom k (ah 41).2.2.names []=[]:=fun k=>by kernel_rfl
 have hpar:∀x∈((ah 41).1.args.map (·.arg)).zip [Value.ref l],(ah 41).2.2.names.lookup x.1=some .local∨((ah 41).2.2.names.lookup x.1=some .cell∧((cellsFrom (s₁.heap.objs.size+1) (ah 41).2.2.names []).lookup x.1).isSome=true):=fun x hx=>by
  rcases fo.par x.1 (List.of_mem_zip hx).1 with h|⟨h1,h2⟩
  ·exact .inl h
  ·exact .inr ⟨h1,gJ h2⟩
 refine wpAny_newFunctionEnv_cells fo.kind hpar fun env he s' x=>?_
 refine Jw x.done ?_;intro h₁ tk κ;subst κ;intro hkeep
 have henv1:env.scope=(ah 41).2.2:=by subst he;rfl
 have henv2:env.locals=s₁.heap.objs.size:=by subst he;rfl
 have henv3:env.globals=mainGlobals:=by subst he;rfl
 have henv4:env.builtins=builtinsNs:=by subst he;rfl
 have henv5:env.frame=some s₁.heap.objs.size:=by subst he;rfl
 have henv6:env.cells=[]:=by subst he;exact hcl0 (s₁.heap.objs.size+1)
 replace x:=henv2▸x
 refine Jg (T.lim.keeps x.toInCall.keep) (uo fun E'=>?_)
 let C':Cx:={w:=w,B:=s₁.heap,A:=callerA.deeper env,env:=env,L:=s₁.heap.objs.size,prot:=[],frames:=[env],pts:=[],d:=10,b:=0}
 have ok:CxOk C':=⟨K,T,rfl,rfl,Nat.le_of_ble_eq_true rfl,Nat.le_of_ble_eq_true rfl,by refine(?_:env.scope.kind=_);refine Kh henv1▸?_;exact fo.kind,henv2,henv3,henv4,fun n hn=>(nomatch hn),fun e he'=>by
  refine Kh (List.mem_singleton.mp he')▸?_
  exact⟨by rewrite[henv1];exact fo.kind,_,henv5,.inl rfl⟩⟩
 have top:CxF C':=⟨⟨[],rfl⟩,henv5⟩
 have S':SI C' [] [] (bindL env.kindOf (((ah 41).1.args.map (·.arg)).zip [Value.ref l]) fun _=>none) [] h₁:=
  ⟨[],[],⟨x.toInCall.ns,hkeep,Nat.le_refl _⟩,fun p hp=>(nomatch hp),List.nodup_nil,⟨rfl,rfl⟩,rfl,fun n hn=>(nomatch hn),fun i o hi=>absurd hi (Nat.not_lt_zero _)⟩
 have L':LR C' [] [] (lwρ (ag ns) .undef .undef .undef .undef) (bindL env.kindOf (((ah 41).1.args.map (·.arg)).zip [Value.ref l]) fun _=>none):=
  LR.enter (C:=C') (φ:=[]) (imm:=[]) (cells:=[]) (congrArg Scope.names henv1) henv6 fo.nd (hR []) (fun p hp=>hp) fo.names (fun n hn=>(fo.par n hn).imp id fun h=>by
   have h2:=h.2
   rewrite[hcl0]at h2
   exact nomatch h2) .nil
 refine(s4 (s:=ns) (d:=10) (Nat.le_refl _)).out C' ⟨⟨⟨ok,congrArg Scope.names henv1,Nat.le_refl _,rfl⟩,top⟩,rfl⟩ ⟨[],[],bindL env.kindOf (((ah 41).1.args.map (·.arg)).zip [Value.ref l]) fun _=>none,{s₁ with heap:=h₁,toks:=tk}⟩ _ _ ⟨S',L'⟩ ⟨fun ρ' σ' g' (q:MF.next= .ret (.bool true))=>(nomatch q),fun x ρ' σ' g' rv q a S R=>?_⟩
 have q:MF.ret x= .ret (.bool true):=q
 cases q
 have hv:rv= .bool true:=R
 refine Jm S ?_;clear S;intro mu prot S
 exact JA hv S.F.keep (by rewrite[a.like];rfl) (by rewrite[a.like];rfl)
section
set_option maxHeartbeats 0
noncomputable abbrev ao:OpenRow:=PySem.Challenge.rw_tg0037_01.row
theorem A4 {prog:Program}{w:World}{t:Sem PySem.Fin}{s:Shared}{R:Result→Shared→Prop}(hz:s.asleep)
  (h:wpS (model prog w) callerA t (fun fin s'=>∃f,fin= .done f∧(R (.ok f) s'∧leftWithCleanup s'.gens=false)) (fun e s'=>R (.error e) s'∧leftWithCleanup s'.gens=false) s):
  ∃n r s' s'',schedN (denote table) prog w n (.single s ⟨t,.builtin "claim.caller" {},default,[]⟩)= .halted (outcomeOf r) s''∧runN (denote table) prog w n s ⟨t,.builtin "claim.caller" {},default,[]⟩= .halted (outcomeOf r) s''∧s''.forget=s'.forget∧R r s':=
 wp_halts_full (M:=model prog w) (R:=R) (p:=default) hz
  (Sem.wp_mono _ _ _ (fun _ _ _ q=>by refine tr q ?_;clear q;intro f κ;subst κ;intro q;exact q) (fun _ _ _ q=>q) default s (h _ default caller_in ⟨by decide+kernel,fun x hx=>(nomatch hx)⟩))
theorem sP {w:World}{s₁:Shared}{l:Addr}{cl:Str→Option Addr}{mean:ExcName→Option Value}{args:List WData}
  (H:wpS (model pw w) callerA (PySem.call (.ref 450) [.ref l])
   (fun v s'=>v= .bool true∧(∀b o,s₁.heap.get? b=some o→s'.heap.get? b=some o)∧s'.os=s₁.os∧s'.gens=s₁.gens) (fun _ _=>False) s₁) (hg:s₁.gens=#[]):
  wpS (model ao.prog w) callerA (PySem.call (.ref 450) [.ref l])
  (fun v s'=>GoodWG ao.claim cl mean args s₁ (Except.ok (Flow.ret v)) s')
  (fun e s'=>GoodWG ao.claim cl mean args s₁ (Except.error e) s') s₁:=by
 refine aO H (fun v s' ⟨hv,hk,hos,hgs⟩=>?_) fun _ _ h=>h.elim
 subst hv
 refine GoodW.toG ⟨.inl ⟨_,.bool true,[],rfl,raisesW_false (fun ct h=>nomatch h),.bool true,postW_of rfl (w_eq_bool (w_res rfl) w_lit) rfl,unshared_nil⟩,hk,hos,hgs.trans hg⟩
theorem vm {ns:List Int}(h:ao.toRowW.claim.pre [ofPy (.list (ns.map .int))]=true):ns.length≤63:=by
 have h2:(ao.toRowW.pre).holds [] {args:=[ofPy (.list (ns.map .int))]}=true:=(Bool.and_eq_true_iff.mp h).2
 have e:(ao.toRowW.pre).value [] {args:=[ofPy (.list (ns.map .int))]}=some (.bool (!(decide ((63:Int)<((ofPys (ns.map .int)).length:Int)))&&true)):=
  w_and (w_not (w_lt w_lit (w_len_list (w_arg rfl)))) w_lit
 have h3:=condW_of h2 e
 replace h3:=Bool.and_true _▸h3;replace h3:=Bool.not_eq_true' _▸h3;rewrite[decide_eq_false_iff_not]at h3;replace h3:=ofPys_eq _▸h3;replace h3:=List.length_map _▸h3;replace h3:=List.length_map _▸h3
 exact Nat.le_of_not_lt fun q=>h3 (Int.ofNat_lt.mpr q)
theorem z7:PySem.Challenge.rw_tg0037_01.wellSaid=true:=by kernel_rfl
theorem BU:defOf hQ ao.name=some (hD.1,hD.2):=by kernel_rfl
theorem BS:ao.prog.theDef ao.name=some (hD.1.params,hD.1.body,hD.1.scope):=by kernel_rfl
theorem Ic:kwWritten? hD.1.params.kwonlyargs hD.1.params.kw_defaults=some hD.2:=by kernel_rfl
theorem Ib:(chainsOk hQ&&opensWell ao.prog&&(frees ao.toRowW&&ao.within.isEmpty))=true:=by kernel_rfl
theorem z9:ao.prog.bare:=⟨rfl,rfl,rfl,rfl,rfl,by decide+kernel⟩
theorem wP:ao.toRowW.promised:=⟨[.list []],by decide+kernel,by decide+kernel⟩
theorem z8:ao.name=Str.ofString "law":=by kernel_rfl
theorem sQ:ao.toRowW.records=[]:=by kernel_rfl
theorem Ia:ao.writes=false:=by kernel_rfl
theorem zf {w:World}{s₀ s₁:Shared}{mg mb:Str→Option Value}(G:Ground hQ jh ao.records (XL hQ []) w s₀ mg mb s₁.heap)(Y:hH.says w s₁.heap)(hg:s₁.gens=#[]){args:List WData}{vals:List Value}{as:List Addr}
  (hpre:ao.toRowW.claim.pre args=true) (hlay:WData.layableAll args=true) (hrd:ReadsAllW ao.toRowW.records (classAt s₀.heap) s₁.heap vals args as) (hwl:WellAll w.params s₁.heap vals args) (hlo:∀a∈as,(a==sysModules)=false):
  mg ao.name=some (.ref 450)∧wpS (model ao.prog w) callerA (PySem.call (.ref 450) vals) (fun v s'=>GoodWG ao.claim (classAt s₀.heap) (ExcName.means s₀.heap) args s₁ (.ok (.ret v)) s')
   (fun e s'=>GoodWG ao.claim (classAt s₀.heap) (ExcName.means s₀.heap) args s₁ (.error e) s') s₁:=by
 have KX:=kIn_of Y
 refine Ground.open G ?_
 intro T B D TE TW
 have hpre':=hpre
 refine Jg (by rewrite[z8];exact mg_of KX T.g (wQ _)) ?_
 wrow_args hpre hlay hrd hwl hlo
 rename_i ns hs hlay0 hL1 hr hl2 a4 a3 l vs a0 hL ra w1 r0 hI hr' hlen htr
 exact sP (s3 ⟨⟨mg,T.g⟩,⟨mb,T.b,T.builtins⟩,T.nolimit⟩ KX hL hI (vm hpre')) hg
end
section
set_option maxHeartbeats 0
theorem wd {w:World}{s:Shared}{free:Addr→Prop}{gens:Prop}{kept:Heap→Prop}(hz:s.asleep)(hgens:s.gens=#[])(hsame:ao.toRowW.claim.same=none)(hwi:ao.toRowW.claim.within=[])(hi:∀a b,ao.toRowW.claim.ident a b=true)
  (G:Ground hQ jh ao.toRowW.records (XL hQ []) w s (s.heap.nsMap mainGlobals) (s.heap.nsMap builtinsNs) s.heap) (Y:hH.says w s.heap) (hk:∀h,kept h):
  ao.toRowW.claim.CallFrom (callStub ao.name) w free gens kept s:=by
 intro args hpre hlay ord hord
 refine Jf (Option.isSome_iff_exists.mp (layAllW_isSome (P:=w.params) (ord:=ord) G.has args ao.toRowW.args s (pre_splitW hpre).1)) ?_;intro κ;rcases κ with ⟨vs,s₁⟩;intro hlaid
 have keeps:=layAllW_keeps _ _ _ hlaid
 have hal:=layAllW_rest _ _ _ hlaid
 refine Jt (reads_layAllW hord _ _ _ hlaid hlay s₁.heap (fun _ _ e=>e)) fun as hrd hin hold=>?_
 have hg1:s₁.gens=#[]:=hal.1.trans hgens
 have L:Laid ao.toRowW.records w s s₁ args vs as:=⟨⟨ord,hord,hlaid⟩,hrd,hin,hold,keeps,hg1,hal.2.2.1⟩
 have G₁:=G.keeps XL.keeps keeps
 refine Jh (zf G₁ (Hook.keeps hH _ _ _ Y keeps) hg1 hpre hlay L.reads L.well (L.low G.low)) fun hf H=>?_
 have ht:wpS (model ao.prog w) callerA (callStub ao.name vs).cur (fun fin s'=>∃f,fin= .done f∧((ao.toRowW.claim.Ends s args vs s₁ (.ok f) s'∧s'.os=s.os)∧leftWithCleanup s'.gens=false))
   (fun e s'=>(ao.toRowW.claim.Ends s args vs s₁ (.error e) s'∧s'.os=s.os)∧leftWithCleanup s'.gens=false) s₁:=by
  refine ae (ar (wpAny_nsGet G₁.T.g ?_))
  refine Kh hf▸?_
  refine ae (aO H (fun v s' g=>aj ?_) fun e s' g=>?_)
  ·have z:=g.laid (c:=ao.toRowW.claim) hsame hwi hi L
   exact JD _ rfl ⟨z.1,z.2.1⟩ (leftWithCleanup_false_of_bare z.2.2)
  ·have z:=g.laid (c:=ao.toRowW.claim) hsame hwi hi L
   exact Jg ⟨z.1,z.2.1⟩ (leftWithCleanup_false_of_bare z.2.2)
 refine Kb (A4 (R:=fun r s'=>ao.toRowW.claim.Ends s args vs s₁ r s'∧s'.os=s.os) (Shared.asleep_of_life hal.2.2.2 hz) ht) fun k r s' s'' hsched hrun hfo hcase hos=>?_
 refine JF (Shared.forget_eq hfo) fun eh _ _ eo _=>?_
 have hcase:=hcase.congr eh
 replace hos:=Kh eo▸hos
 have hlife:s''.heap.life=s.heap.life:=(runN_life _ _ _ hrun).trans hal.2.2.2
 refine⟨vs,s₁,hlaid,k,_,s'',hsched,?_,(fun _ i x hx=>by replace hx:=hgens▸hx;simp at hx),hk _,by rw[hlife],Shared.rest_eq hos⟩
 rcases hcase with⟨v,rfl,d1,d2,d3,d4,d5⟩|⟨e,ob,cls,rfl,d1,d2,d3,d4,d5⟩
 ·exact .inl ⟨v,rfl,d1,d2,d3,fun b o y _=>d4 b o y,d5⟩
 ·exact .inr ⟨e,ob,cls,rfl,d1,d2,d3,d4,fun b o y _=>d5 b o y⟩
theorem BT:ao.toRowW.claim.makers=[]:=by kernel_rfl
theorem vD:ao.toRowW.claim.HoldsOpenBy (callStub ao.name) (if ao.pinned then[ao.name]else[]) ao.keeps ao.writes:=by
 refine Jh (Bool.and_eq_true_iff.mp Ib) fun ok k5=>?_
 refine Jh (Bool.and_eq_true_iff.mp ok) fun hch o1=>?_
 refine Jh (Bool.and_eq_true_iff.mp k5) fun k5 k6=>?_
 refine JF (frees_parts k5) fun hsame hu ha hap hm=>?_
 have beh:=LeftO.behind (XP:=XL hQ []) AU (fun s e=>xl_of s (Bool.and_eq_true_iff.mp e).1) hch
 refine Jn ⟨z9,o1,BT⟩ wP.witness (fun w=>⟨(beh w).1,fun s' hs'=>?_⟩)
 rcases (beh w).2 s' hs' with ⟨s₀,hf,hg0,s,hT,hz,hgens,hg,G,y⟩
 have hgens:s.gens=#[]:=Array.eq_empty_of_size_eq_zero (beq_iff_eq.mp hgens)
 refine⟨s₀,hf,hg0,s,hT,fun n hn=>?_,fun x hx=>?_,fun x hx=>?_,?_⟩
 ·obtain rfl:n=ao.name:=by split at hn<;>simp_all
  exact pinned_of_view hg G BU BS Ic
 ·have hx:x∈ao.toRowW.records:=hx
  replace hx:=sQ▸hx;cases hx
 ·have hx:x∈ao.toRowW.records:=hx
  replace hx:=sQ▸hx;cases hx
 ·exact wd hz hgens hsame (List.isEmpty_iff.mp k6) (ident_freeW hu ha hap) (by rewrite[sQ];exact G) (Hook.of hH w s y) (fun h q=>by replace q:=Ia▸q;exact Jq q)
theorem main_holds:PySem.Challenge.rw_tg0037_01.Holds:=holds_law z7 fun said=>⟨said,wP,vD⟩
end
end Mine
theorem PySem.Challenge.cw_tg0037_01_holds : PySem.Challenge.rw_tg0037_01.Holds :=
  Mine.main_holds
