import PyProof.Rows.All
import Wide.All
import OpenK.ZHead
import KE.KEqDict
import Wide.FinOn
import PyProof.RaisesMany
import PyProof.Comp
import PyProof.Rows.StrInSeq
import PyProof.SliceMore
import Lean
import PySem.Challenge.RW_pf0022_01
set_option maxRecDepth 1000000
set_option maxHeartbeats 1000000
set_option linter.all false
set_option Elab.async false
namespace Mine
open PySem PySem.W
noncomputable section
abbrev qw:Program:=PySem.Challenge.pw_pf0022_01
def L2:= @List.Perm.refl
def L3:= @Nat.le_of_ble_eq_true
def L4:= @List.append_nil
def L5:= @List.mem_cons_self
def L6:= @List.length_cons
def L7:= @List.mem_cons_of_mem
def L8:= @Option.some.inj
def L9:= @List.append_assoc
def fm:= @List.mem_append_right
def fI:= @List.mem_append_left
def bZ:= @List.mem_map
def dQ:= @List.Perm.append_left
def aW:= @wpAny_bind
def cp:= @wpAny_pure
def B7:= @wpAny_mono
def qz:= @List.getElem?_map
def sN:= @Option.map_eq_some_iff
def kx:= @List.length_map
def yh:= @List.mem_singleton
def AC:= @Bool.and_eq_true
def rC:= @List.length_append
def ky:= @Nat.le_trans
def o9:= @Nat.zero_add
def AD:= @List.length_nil
def B8:= @List.drop_zero
def lK:= @List.mem_append
def lI:= @List.mem_cons
def nC:= @beq_eq_false_iff_ne
def y8:= @List.getElem?_eq_getElem
def An:= @Heap.get?_push_size
def kz:= @Heap.lt_size
def jD:= @decide_eq_true
def lL:= @decide_eq_false
def wZ:= @Nat.le_add_left
def AE:= @Nat.not_lt
def pn:= @List.perm_append_comm
def AF:= @List.perm_middle
def B9:= @List.length_take
def AG:= @List.length_drop
def Dy:= @List.take_of_length_le
def Dz:= @List.drop_of_length_le
def pd:= @List.map_map
def nD:= @List.map_append
def DA:= @List.length_pos_iff
def Cz:= @Nat.lt_irrefl
def CA:= @Option.map_some
def qA:= @Sem.bind_assoc
def B':= @wpCode_iff_wp
def sP:= @Nat.le_of_lt
def CB:= @beq_self_eq_true
def sH:= @List.mem_of_getElem?
def Ca:= @List.mem_of_mem_take
def po:= @List.nodup_cons
def f8:= @List.nodup_append
abbrev au(n:Nat)(l:List Value):Code:=.call (.ref n) ⟨l,[]⟩
set_option genInjectivity false
set_option genSizeOfSpec false
section
local macro_rules |`(tactic|omega)=>`(tactic|first |lia |omega (config:={}))
inductive MT where
 |nil
 |node (a:Nat) (o:Obj) (l r:MT)
namespace MT
noncomputable def get:MT->Nat->Option (Nat×Obj)
 | .nil,_=>none
 | .node a o l r,i=>match Nat.beq i 0 with
  |true=>some (a,o)
  |false=>match Nat.beq (i%2) 1 with
   |true=>l.get (i/2)
   |false=>r.get (i/2-1)
noncomputable def set:MT->Nat->(Obj->Obj)->MT
 | .nil,_,_=>.nil
 | .node a o l r,i,f=>match Nat.beq i 0 with
  |true=>.node a (f o) l r
  |false=>match Nat.beq (i%2) 1 with
   |true=>.node a o (l.set (i/2) f) r
   |false=>.node a o l (r.set (i/2-1) f)
noncomputable def ins:MT->Nat->Nat->Obj->MT
 | .nil,_,a,o=>.node a o .nil .nil
 | .node b x l r,i,a,o=>match Nat.beq i 0 with
  |true=>.node a o l r
  |false=>match Nat.beq (i%2) 1 with
   |true=>.node b x (l.ins (i/2) a o) r
   |false=>.node b x l (r.ins (i/2-1) a o)
noncomputable def mapF(f:Nat->Obj->Obj):MT->MT
 | .nil=>.nil
 | .node a o l r=>.node a (f a o) (l.mapF f) (r.mapF f)
theorem get_node(a:Nat)(o:Obj)(l r:MT)(i:Nat):(node a o l r).get i=if i=0 then some (a,o) else if i%2=1 then l.get (i/2) else r.get (i/2-1):=by
 show(match Nat.beq i 0 with |true=>some (a,o) |false=>match Nat.beq (i%2) 1 with |true=>l.get (i/2) |false=>r.get (i/2-1))=_
 rw[BT.beq_eq,BT.beq_eq]
 by_cases h:i=0
 ·simp[h]
 ·by_cases q:i%2=1<;>simp[h,q]
theorem set_node(a:Nat)(o:Obj)(l r:MT)(i:Nat)(f:Obj->Obj):(node a o l r).set i f=if i=0 then node a (f o) l r else if i%2=1 then node a o (l.set (i/2) f) r else node a o l (r.set (i/2-1) f):=by
 show(match Nat.beq i 0 with |true=>node a (f o) l r |false=>match Nat.beq (i%2) 1 with |true=>node a o (l.set (i/2) f) r |false=>node a o l (r.set (i/2-1) f))=_
 rw[BT.beq_eq,BT.beq_eq]
 by_cases h:i=0
 ·simp[h]
 ·by_cases q:i%2=1<;>simp[h,q]
theorem ins_node(b:Nat)(x:Obj)(l r:MT)(i a:Nat)(o:Obj):(node b x l r).ins i a o=if i=0 then node a o l r else if i%2=1 then node b x (l.ins (i/2) a o) r else node b x l (r.ins (i/2-1) a o):=by
 show(match Nat.beq i 0 with |true=>node a o l r |false=>match Nat.beq (i%2) 1 with |true=>node b x (l.ins (i/2) a o) r |false=>node b x l (r.ins (i/2-1) a o))=_
 rw[BT.beq_eq,BT.beq_eq]
 by_cases h:i=0
 ·simp[h]
 ·by_cases q:i%2=1<;>simp[h,q]
theorem get_set(f:Obj->Obj):∀(t:MT) (j i:Nat),(t.set j f).get i=if i=j then(t.get j).map (λ p=>(p.1,f p.2)) else t.get i
 | .nil,j,i=>by show(MT.nil.get i)=_;simp[get]
 | .node a o l r,j,i=>by
  rw[set_node,get_node a o l r j,get_node a o l r i]
  by_cases hj:j=0
  ·subst hj
   rw[if_pos rfl,get_node]
   by_cases hi:i=0
   ·simp[hi]
   ·simp[hi]
  ·rw[if_neg hj]
   by_cases pj:j%2=1
   ·rw[if_pos pj,get_node]
    by_cases hi:i=0
    ·subst hi;simp[Ne.symm hj]
    ·rw[if_neg hi,if_neg hi]
     by_cases pi:i%2=1
     ·rw[if_pos pi,if_pos pi,get_set f l]
      by_cases e:i=j
      ·subst e;simp[hj,pj]
      ·have:i/2≠j/2:=by omega
       simp[e,this]
     ·rw[if_neg pi,if_neg pi]
      have:i≠j:=by rintro rfl;exact pi pj
      simp[this]
   ·rw[if_neg pj,get_node]
    by_cases hi:i=0
    ·subst hi;simp[Ne.symm hj]
    ·rw[if_neg hi,if_neg hi]
     by_cases pi:i%2=1
     ·rw[if_pos pi,if_pos pi]
      have:i≠j:=by rintro rfl;exact pj pi
      simp[this]
     ·rw[if_neg pi,if_neg pi,get_set f r]
      by_cases e:i=j
      ·subst e;simp[hj,pj]
      ·have:i/2-1≠j/2-1:=by omega
       simp[e,this]
theorem get_mapF(f:Nat->Obj->Obj):∀(t:MT) (i:Nat),(t.mapF f).get i=(t.get i).map (λ p=>(p.1,f p.1 p.2))
 | .nil,_=>rfl
 | .node a o l r,i=>by
  show(MT.node a (f a o) (l.mapF f) (r.mapF f)).get i=_
  rw[get_node,get_node]
  by_cases h:i=0
  ·simp[h]
  ·by_cases q:i%2=1
   ·simp only[h,q,if_false,if_true];exact get_mapF f l _
   ·simp only[h,q,if_false];exact get_mapF f r _
theorem get_ins(a:Nat)(o:Obj):∀(t:MT) (j:Nat),((t.ins j a o).get j).isSome=true->∀i,(t.ins j a o).get i=if i=j then some (a,o) else t.get i
 | .nil,j,h,i=>by
  show(MT.node a o .nil .nil).get i=_
  have hj:j=0:=by
   apply Classical.byContradiction
   intro q
   have z:((MT.node a o .nil .nil).get j).isSome=true:=h
   rw[get_node,if_neg q] at z
   by_cases p:j%2=1<;>simp[p,get] at z
  subst hj
  rw[get_node]
  by_cases hi:i=0
  ·simp[hi]
  ·by_cases p:i%2=1<;>simp[hi,get]
 | .node b x l r,j,h,i=>by
  rw[ins_node] at h ⊢
  by_cases hj:j=0
  ·subst hj
   rw[if_pos rfl,get_node,get_node b x l r i]
   by_cases hi:i=0<;>simp[hi]
  ·rw[if_neg hj] at h ⊢
   by_cases pj:j%2=1
   ·rw[if_pos pj] at h ⊢
    rw[get_node,if_neg hj,if_pos pj] at h
    rw[get_node,get_node b x l r i]
    by_cases hi:i=0
    ·subst hi;simp[Ne.symm hj]
    ·rw[if_neg hi,if_neg hi]
     by_cases pi:i%2=1
     ·rw[if_pos pi,if_pos pi,get_ins a o l _ h]
      by_cases e:i=j
      ·subst e;simp
      ·have:i/2≠j/2:=by omega
       simp[e,this]
     ·rw[if_neg pi,if_neg pi]
      have:i≠j:=by rintro rfl;exact pi pj
      simp[this]
   ·rw[if_neg pj] at h ⊢
    rw[get_node,if_neg hj,if_neg pj] at h
    rw[get_node,get_node b x l r i]
    by_cases hi:i=0
    ·subst hi;simp[Ne.symm hj]
    ·rw[if_neg hi,if_neg hi]
     by_cases pi:i%2=1
     ·rw[if_pos pi,if_pos pi]
      have:i≠j:=by rintro rfl;exact pj pi
      simp[this]
     ·rw[if_neg pi,if_neg pi,get_ins a o r _ h]
      by_cases e:i=j
      ·subst e;simp
      ·have:i/2-1≠j/2-1:=by omega
       simp[e,this]
end MT
noncomputable abbrev w0:=Option (Env×Bool)
noncomputable abbrev HL:=List (Nat×Obj)
inductive KF where
 |mk (k:Result->Sem Fin) (hd:Option Value) (c:Code) (p:Pos) (m:w0)
structure Fr where
 c:Code
 p:Pos
 m:w0
 κ:List KF
structure EC where
 den:Code->Sem Fin
 inner:Code->Option (Sem Fin×Env×Bool)
 py:FuncData->Args->Addr->Sem Fin
 set1:Setting
 setF:Setting
 setP:Setting
 setR:Setting
 room:List (Code×Pos)->Sem Unit
 iadd:Addr->Addr->Sem Fin
 own:Addr->Sem Unit
 note:Value->Env->Sem Unit
 tryK:Code->Nat->Value->Option (Sem Fin)
 tf:Option Addr
 top:X.KT
 n1:Nat
 B:Ctx
 nb:Nat
 fr:List (Nat×Nat)
 n0:Nat
structure Gh where
 n:Nat->Nat
 l:HL
 v:Nat->Value
 z:Nat->Int
 sl:Nat->Array (Option Value)
 vl:Nat->List Value
 pos:Nat->Pos
structure SB where
 res:Result
 fin:List Obj
 new:HL
 L:HL
structure SI where
 code:Code
 d:Nat
 idx:List (Nat×Nat×Obj)
 L:HL
 asm:Gh->Prop
 out:Gh->SB
structure SP where
 code:Code
 res:Result
 i:Nat
inductive SX where
 |full (z:SI)
 |pure (z:SP)
 |dict (r:Option Nat) (hsh:Int) (v:Value)
noncomputable abbrev XF:=List Gh->SX
structure ES where
 T:MT
 nid:Nat
 base:Nat
 m:Nat
 tok:Nat
 i:Nat
 L:HL
 orc:List Nat
 xs:List XF
 gs:List Gh
inductive Ob:Type 1 where
 |eq {α:Type} (a b:α)
 |full (z:SI)
 |pure (z:SP)
 |prop (p:Prop)
inductive RT:Type 1 where
 |done (r:Result) (s:ES)
 |no
 |ob (o:Ob) (r:RT)
 |gh (A:Gh->Prop) (f:Gh->RT)
noncomputable def bz(B:Ctx):List KF->Code->Ctx
 |[],c=>{B with code:=c}
 | .mk _ hd c1 p1 _::κ,c=>(bz B κ c1).enter c hd p1
noncomputable abbrev b8:=Fr->Sem Fin->ES->RT
noncomputable def bd(o:Obj):Bool:=match o.cls with
 | .type t=>t == "frame"
 |_=>false
noncomputable def kA(o:Obj):Bool:=match o.data with
 | .dict _ _=>true
 |_=>false
def aE(g:Gh)(a:Nat)(o:Obj):Obj:=match bd o with
 |true=>{o with slots:=g.sl a}
 |false=>o
namespace ES
noncomputable def nx(s:ES):Nat:=s.base+s.m+822
noncomputable def o(s:ES)(r:List Nat):ES:={s with orc:=r}
noncomputable def x(s:ES)(r:List XF):ES:={s with xs:=r}
noncomputable def g(s:ES)(r:Gh):ES:={s with gs:=r::s.gs}
noncomputable def fr(s:ES)(n:Nat):ES:={s with i:=s.i+n}
def up(s:ES)(j:Nat)(f:Obj->Obj):ES:={s with T:=s.T.set j f}
def new(s:ES)(o:Obj):ES:={s with T:=s.T.ins s.nid s.nx o,nid:=s.nid+1,m:=s.m+1}
def sl(s:ES)(r:Gh):ES:={s with T:=s.T.mapF (aE r),gs:=r::s.gs}
def aft(s:ES)(z:SI)(g:Gh)(x:MT×Nat):ES:={s with T:=x.1,nid:=x.2,base:=g.n 0,m:=0,tok:=g.n 1,i:=0,L:=(z.out g).L,gs:=g::s.gs}
end ES
noncomputable def is{α:Type}(a b:α)(r:RT):RT:=.ob (.eq a b) r
def kB{α:Type}(o:Option α)(f:α->RT):RT:= @Option.rec α (λ v=>RT) .no f o
def Ao{α:Type}(o:Option α)(r:RT)(f:α->RT):RT:= @Option.rec α (λ v=>RT) r f o
noncomputable def pp(b:Bool)(r r':RT):RT:= @Bool.rec (λ v=>RT) r' r b
def pop(s:ES)(f:Nat->ES->RT):RT:= @List.rec Nat (λ v=>RT) .no (λ o r v=>f o (s.o r)) s.orc
def w1(s:ES)(f:SX->ES->RT):RT:= @List.rec XF (λ v=>RT) .no (λ x r v=>f (x s.gs) (s.x r)) s.xs
def gl(s:ES)(j:Nat)(f:Addr->Obj->RT):RT:=kB (s.T.get j) λ x=>f x.1 x.2
noncomputable def rD(o:Obj):String:= @Value.rec (λ v=>String) "" "" "" (λ v=>"") (λ v w=>"") (λ v w=>"") (λ v w=>"") (λ v w=>"") (λ v=>v) (λ v=>"") (λ v=>"") o.cls
def AH(o:Value):Nat:= @Value.rec (λ v=>Nat) 0 0 0 (λ v=>0) (λ v w=>0) (λ v w=>0) (λ v w=>0) (λ v w=>0) (λ v=>0) (λ v=>0) (λ v=>v) o
def w2(o:Value):Option (Str×Tok):= @Value.rec (λ v=>Option (Str×Tok)) none none none (λ v=>none) (λ v w=>none) (λ v w=>none) (λ v w=>some (v,w)) (λ v w=>none) (λ v=>none) (λ v=>none) (λ v=>none) o
def hW(o:Obj):Array Value:= @Data.rec (λ v=>Array Value) #[] (λ v=> #[]) (λ v w=> #[]) (λ v w=> #[]) (λ v w x=> #[]) (λ v w=> #[]) (λ v=> #[]) (λ v=> #[]) (λ v=> #[]) (λ v=>v) #[] o.data
def kC(o:Obj):Array DictEntry×Nat:= @Data.rec (λ v=>Array DictEntry×Nat) (#[],0) (λ v=>(#[],0)) (λ v w=>(#[],0)) (λ v w=>(v,w)) (λ v w x=>(#[],0)) (λ v w=>(#[],0)) (λ v=>(#[],0)) (λ v=>(#[],0)) (λ v=>(#[],0)) (λ v=>(#[],0)) (#[],0) o.data
def lM(o:Obj):Array Value×Nat:= @Data.rec (λ v=>Array Value×Nat) (#[],0) (λ v=>(#[],0)) (λ v w=>(v,w)) (λ v w=>(#[],0)) (λ v w x=>(#[],0)) (λ v w=>(#[],0)) (λ v=>(#[],0)) (λ v=>(#[],0)) (λ v=>(#[],0)) (λ v=>(#[],0)) (#[],0) o.data
def D5(o:Obj):Option FuncData:= @Data.rec (λ v=>Option FuncData) none (λ v=>none) (λ v w=>none) (λ v w=>none) (λ v w x=>none) (λ v w=>none) (λ v=>none) (λ v=>some v) (λ v=>none) (λ v=>none) none o.data
noncomputable def cl(c:Code):Value×Args:=match c with
 | .call f a=>(f,a)
 |_=>(.none,⟨[],[]⟩)
def key(c:Code):Value:=((cl c).2.pos.drop 1).headD .none
def Ap(c:Code):List Value:=(cl c).2.pos.drop 2
noncomputable def eC:Code->Bool
 | .builtin id _=>id != "claim.caller"
 |_=>true
inductive EK where
 |lc (x:Expr×Comprehension×List Comprehension×Scope×Pos)
 |cm (l:Expr) (op:CmpOp) (r:Expr) (pos:Pos)
 |or (vs:List Expr)
 |no
noncomputable def ek:Expr->EK
 | .ListComp elt (c::rest) scope pos=>.lc (elt,c,rest,scope,pos)
 | .Compare l [op] [r] pos=>.cm l op r pos
 | .BoolOp .Or vs _=>.or vs
 |_=>.no
def D6(e:Expr):EK->Prop
 | .lc x=>e= .ListComp x.1 (x.2.1::x.2.2.1) x.2.2.2.1 x.2.2.2.2
 | .cm l op r pos=>e= .Compare l [op] [r] pos
 | .or vs=>∃pos,e= .BoolOp .Or vs pos
 | .no=>True
theorem qB(e:Expr):D6 e (ek e):=by
 cases e<;>first |exact trivial |skip
 case ListComp elt gens scope pos=>cases gens<;>first |exact trivial |exact rfl
 case Compare l ops rs pos=>rcases ops with _ |⟨op,_ |⟨_,_⟩⟩<;>rcases rs with _ |⟨r,_ |⟨_,_⟩⟩<;>first |exact trivial |exact rfl
 case BoolOp op vs pos=>cases op<;>first |exact trivial |exact⟨pos,rfl⟩
noncomputable def DB(c:Code):Option (Expr×Nat×Value×Value×Env):=match c with
 | .compStart e d it acc env=>some (e,d,it,acc,env)
 |_=>none
noncomputable def DC(c:Code):Option Args:=match c with
 | .builtin id args=>match id == "list.__iadd__" with
  |true=>some args
  |false=>none
 |_=>none
noncomputable def AI:Code->Bool
 | .call _ _=>true
 | .forLoop .. =>true
 | .compStart .. =>true
 | .compLoop .. =>true
 |_=>false
def pq(E:EC)(ih:b8)(f:Fr)(s:ES):RT:=is (eC f.c) true (Ao (E.inner f.c) (ih ⟨f.c,f.p,none,f.κ⟩ (E.den f.c) s) λ x=>ih ⟨f.c,f.p,some x.2,f.κ⟩ x.1 s)
def DD(k:EK)(f:Expr×Comprehension×List Comprehension×Scope×Pos->RT):RT:=match k with
 | .lc x=>f x
 |_=>.no
noncomputable def AJ:List String:=["list_iterator","tuple_iterator","range_iterator","zip","str_ascii_iterator","enumerate"]
def enter(E:EC)(ih:b8)(f:Fr)(s:ES):RT:=Ao (DB f.c)
 (Ao (DC f.c) (pq E ih f s) λ args=>pop s λ j s=>pop s λ j' s=>gl s j λ a o=>gl s j' λ b o'=>
  is (Nat.beq j j') false (is args ⟨[.ref a,.ref b],[]⟩ (ih ⟨f.c,f.p,none,f.κ⟩ (E.iadd a b) s)))
 λ x=>pop s λ j s=>gl s j λ a o=>is x.2.2.1 (.ref a) (is o.cls (.type (rD o)) (is (AJ.contains (rD o)) true (is x.2.1 0 (DD (ek x.1) λ y=>is y.2.1.is_async 0
  (.gh (λ g=>True) λ g=>pq E ih ⟨.compLoop x.1 0 (.ref a) x.2.2.2.1 x.2.2.2.2,g.pos 0,none,f.κ⟩ (s.g g))))))
noncomputable def nH(ih:b8)(r:Result)(κ:List KF)(s:ES):RT:=match κ with
 |[]=>.done r s
 | .mk k _ c p m::κ'=>ih ⟨c,p,m,κ'⟩ (k r) s
def bQ:List DictEntry->Bool
 |[]=>true
 |e::r=>match e.key with
  | .str _ _=>bQ r
  |_=>false
def cE(x:Str):List DictEntry->Nat->Option Nat
 |[],_=>none
 |e::r,n=>match e.key.isStr x with
  |true=>some n
  |false=>cE x r (n+1)
noncomputable def ae(S:Setting)(x:Str):Int:=if x.cps.isEmpty then 0 else reduceHash (S.params.strHash x.cps)
def sQ:Nat->String
 |0=>"dict.__getitem__"
 |1=>"dict.__contains__"
 |2=>"dict.get"
 |3=>"dict.__setitem__"
 |_=>"dict.pop"
noncomputable def fP(r:Option Nat)(es:List DictEntry):Option Value:=(r.bind λ i=>es[i]?).map (·.val)
def hZ(x:Option Value)(op:Nat)(rest:List Value):Option Value:=match op with
 |0=>match rest with |[]=>x |_=>none
 |1=>match rest with |[]=>some (.bool x.isSome) |_=>none
 |2=>match Nat.ble rest.length 1 with |true=>some (x.getD (rest.headD .none)) |false=>none
 |3=>match rest with |[_]=>some .none |_=>none
 |_=>match Nat.ble rest.length 1 with |true=>x.or rest.head? |false=>none
def gL:List DictEntry->Bool
 |[]=>true
 |e::r=>match e.key with
  | .int k _=>match decide (e.hash=hashInt k) with
   |true=>gL r
   |false=>false
  |_=>false
noncomputable def bI(i:Int):List DictEntry->Nat->Option Nat
 |[],_=>none
 |e::r,n=>match e.key.isInt i with
  |true=>some n
  |false=>bI i r (n+1)
def iB(es:List DictEntry)(i:Int)(r:Option Nat):Prop:=(∀e∈es,∃k t,e.key= .int k t/\e.hash=hashInt k)/\bI i es 0=r
def qC(S:Setting)(key:Value)(es:List DictEntry):Option (Option Nat×Int):=match key with
 | .str x _=>match bQ es with
  |true=>some (cE x es 0,ae S x)
  |false=>none
 | .int i _=>match gL es with
  |true=>some (bI i es 0,hashInt i)
  |false=>none
 |_=>none
def nI(S:Setting)(key:Value)(es:List DictEntry)(r:Option Nat)(hsh:Int):Prop:=match key with
 | .str x _=>bQ es=true/\cE x es 0=r/\hsh=ae S x
 | .int i _=>iB es i r/\hsh=hashInt i
 |_=>False
def DX(S:Setting)(op:Nat)(key:Value)(rest:List Value)(es:Array DictEntry)(r:Option Nat)(hsh:Int)(v:Value):Prop:=
 es.size<=1000/\nI S key es.toList r hsh/\hZ (fP r es.toList) op rest=some v
def aK(r:Option Nat)(hsh:Int)(key v:Value)(es:Array DictEntry):Array DictEntry:=match r with
 |some i=>es.modify i λ e=>{e with val:=v}
 |none=>es.push ⟨hsh,key,v⟩
noncomputable def be(r:Option Nat)(n:Nat):Nat:=match r with
 |some _=>n
 |none=>n+1
noncomputable def lV(r:Option Nat)(es:Array DictEntry):Array DictEntry:=match r with
 |some i=>es.eraseIdxIfInBounds i
 |none=>es
noncomputable def nJ(r:Option Nat)(n:Nat):Nat:=match r with
 |some _=>n+1
 |none=>n
def bR(f:Array DictEntry->Array DictEntry)(g:Nat->Nat):Obj->Obj
 |⟨c,d,.dict es n,s⟩=>⟨c,d,.dict (f es) (g n),s⟩
 |o=>o
def mH(c:Code)(j:Nat)(a:Addr)(o:Obj)(op:Nat)(r:Option Nat)(hsh:Int)(v:Value)(s:ES)(go:Value->ES->RT):RT:=
 is c (.call (.builtin (sQ op)) ⟨.ref a::key c::Ap c,[]⟩) (is o ⟨.type "dict",none,.dict (kC o).1 (kC o).2,o.slots⟩ (go v (match op with
  |0=>s.fr 1
  |1=>s.fr 1
  |2=>s.fr 1
  |3=>(s.fr 1).up j (bR (aK r hsh (key c) ((Ap c).headD .none)) (be r))
  |_=>(s.fr 1).up j (bR (lV r) (nJ r)))))
def sR(S:Setting)(c:Code)(s:ES)(go:Value->ES->RT):RT:=pop s λ op s=>pop s λ j s=>gl s j λ a o=>
 is (Nat.ble (kC o).1.size 1000) true (kB (qC S (key c) (kC o).1.toList) λ x=>kB (hZ (fP x.1 (kC o).1.toList) op (Ap c)) λ v=>mH c j a o op x.1 x.2 v s go)
def AK(S:Setting)(c:Code)(op j:Nat)(a:Addr)(o:Obj)(go:Value->ES->RT)(x:SX)(s:ES):RT:=match x with
 | .dict r hsh v=>.ob (.prop (DX S op (key c) (Ap c) (kC o).1 r hsh v)) (mH c j a o op r hsh v s go)
 |_=>.no
def rE(S:Setting)(c:Code)(s:ES)(go:Value->ES->RT):RT:=pop s λ op s=>pop s λ j s=>gl s j λ a o=>w1 s (AK S c op j a o go)
def nL(l:List Value):Bool:=l.all λ v=>(w2 v).isSome
def sS(x:Str)(l:List Value):Bool:=l.any λ v=>v.isStr x
def lW(c:Code)(s:ES)(go:Value->ES->RT):RT:=pop s λ j s=>gl s j λ a o=>kB (w2 (key c)) λ x=>
 is c (.call (.builtin "tuple.__contains__") ⟨[.ref a,.str x.1 x.2],[]⟩) (is o ⟨.type "tuple",none,.seq (lM o).1 (lM o).2,o.slots⟩ (is (nL (lM o).1.toList) true (go (.bool (sS x.1 (lM o).1.toList)) s)))
noncomputable def jg:Obj:={cls:=.type "list",data:=.seq #[]}
def kD(c:Code)(s:ES)(go:Value->ES->RT):RT:=pop s λ j s=>gl s j λ a o=>
 is c (.call (.type "list") ⟨[.ref a],[]⟩) (is o ⟨.type (rD o),none,.seq (lM o).1 (lM o).2,o.slots⟩ (is ((rD o == "list" || rD o == "tuple")&&Nat.ble (lM o).1.size 1000) true
  (kB ((s.new jg).T.get s.nid) λ x=>go (.ref s.nx) (((s.new jg).up s.nid (Obj.mapSeq λ v=> #[])).up s.nid (Obj.mapSeq (·++(lM o).1))))))
def y9(S:Setting)(o:Nat)(c:Code)(s:ES)(go:Value->ES->RT):RT:=pp (Nat.beq o 3) (sR S c s go) (pp (Nat.beq o 4) (lW c s go) (pp (Nat.beq o 6) (rE S c s go) (kD c s go)))
def y'(T:MT):List (Nat×Nat×Obj)->RT->RT
 |[],r=>r
 |x::l,r=>kB (T.get x.1) λ y=>is y.1 x.2.1 (is y.2 x.2.2 (y' T l r))
def w3(T:MT):List (Nat×Nat×Obj)->List Obj->Option MT
 |[],[]=>some T
 |(j,_,_)::r,o::l=>w3 (T.set j λ _=>o) r l
 |_,_=>none
def ia(T:MT)(nid:Nat):HL->Option (MT×Nat)
 |[]=>some (T,nid)
 |(a,o)::r=>match(T.ins nid a o).get nid with
  |some _=>ia (T.ins nid a o) (nid+1) r
  |none=>none
def gp:List (Nat×Nat×Obj)->Bool
 |[]=>true
 |(j,_,_)::r=>(r.all λ x=> !Nat.beq x.1 j)&&gp r
noncomputable def Cb:List KF->Option (Option Value)
 |[]=>some none
 | .mk _ hd _ _ _::κ=>match hd with
  |some e=>match e == byPass with
   |true=>none
   |false=>some (some e)
  |none=>Cb κ
noncomputable def kE:List KF->List Env
 |[]=>[]
 | .mk _ _ c _ _::κ=>c.envs++kE κ
def w4:List Env->ES->(ES->RT)->RT
 |[],s,go=>go s
 |env::r,s,go=>pop s λ j s=>gl s j λ a o=>is env.frame (some a) (is (decide (env.scope.kind= .module)) false (is (bd o&&kA o) true (w4 r s go)))
def qD(T:MT):List (Nat×Nat)->RT->RT
 |[],r=>r
 |x::l,r=>kB (T.get x.1) λ y=>is x.2 y.1 (is (bd y.2&&kA y.2) true (qD T l r))
noncomputable def jE:Code->Option Addr
 | .forLoop _ _ _ _ env=>env.frame
 |_=>none
noncomputable def pu(tf:Option Addr):List Env->Option Addr
 |env::_=>env.frame
 |[]=>tf
def sT(tf:Option Addr)(l:List Env)(t:Option Addr)(r:RT):RT:=match t with
 |none=>r
 |some f=>is (pu tf l) (some f) r
def full(E:EC)(f:Fr)(z:SI)(s:ES)(go:Result->ES->RT):RT:=
 is (Nat.ble (f.κ.length+z.d) E.nb&&gp z.idx) true (is (Cb f.κ) (some none) (w4 (kE f.κ) s λ s=>y' s.T z.idx (qD s.T E.fr (sT E.tf (kE f.κ) (jE z.code)
  (is f.c z.code (is s.L z.L (.ob (.full z) (.gh z.asm λ g=>kB (w3 (s.T.mapF (aE g)) z.idx (z.out g).fin) λ T1=>kB (ia T1 s.nid (z.out g).new) λ x=>
   go (z.out g).res (s.aft z g x)))))))))
def yi(E:EC)(f:Fr)(go:Result->ES->RT)(x:SX)(s:ES):RT:=match x with
 | .pure z=>is (Nat.ble f.κ.length E.nb) true (is f.c z.code (.ob (.pure z) (go z.res (s.fr z.i))))
 | .full z=>full E f z s go
 | .dict _ _ _=>.no
def plain(E:EC)(ih:b8)(f:Fr)(s:ES):RT:=
 is f.c (.call (.ref (AH (cl f.c).1)) (cl f.c).2) (kB (E.top.get (AH (cl f.c).1)) λ o=>kB (D5 o) λ fd=>is o ⟨o.cls,o.dict,.func fd,o.slots⟩ (is (fd.scope.isCoroutine || fd.scope.isGenerator) false
  (kB (E.top.get (AH fd.code)) λ oc=>kB ((hW oc)[1]?) λ v=>kB (w2 v) λ q=>is fd.code (.ref (AH fd.code)) (is v (.str fd.qualname q.2)
   (ih ⟨f.c,f.p,none,f.κ⟩ (E.py fd (cl f.c).2 (AH (cl f.c).1)) s)))))
def D7(E:EC)(ih:b8)(f:Fr)(b:Bool)(o:Nat)(s:ES):RT:=pp (Nat.beq o 0) (enter E ih f s)
 (pp (Nat.beq o 1) (is (Nat.ble f.κ.length (E.nb+1)) true (plain E ih f s))
 (pp (Nat.beq o 2) (w1 s (yi E f λ r s=>nH ih r f.κ s)) (is b true (y9 E.set1 o f.c s λ v s=>nH ih (.ok (.ret v)) f.κ s))))
def CC(E:EC)(ih:b8)(f:Fr)(b:Bool)(s:ES):RT:=pp (AI f.c) (pop s (D7 E ih f b)) (enter E ih f s)
def AL(E:EC)(ih:b8)(c:Code)(hd:Option Value)(k:Result->Sem Fin)(f:Fr)(s:ES):RT:=CC E ih ⟨c,f.p,none,.mk k hd f.c f.p f.m::f.κ⟩ hd.isNone s
def pv(E:EC)(ih:b8)(f:Fr)(s:ES):RT:=is f.c.quiet true (CC E ih f false s)
def dJ(head:Value)(f:Addr)(x:Value)(pl:List Value):Obj:={cls:=.type "traceback",dict:=none,data:=.fields ([head,.ref f,.none,x,.none]++pl).toArray}
noncomputable def jF:Obj->Obj:=Obj.mapFields (·.setIfInBounds 3 .none)
noncomputable def lX(a:Addr):Obj->Obj:=Obj.mapFields (·.setIfInBounds 1 (.ref a))
def ES.tb0(s:ES)(head:Value)(f:Addr)(g:Gh):ES:=(s.sl g).new (dJ head f (rawInt f) (g.vl 0))
def ES.tb(s:ES)(je:Nat)(head:Value)(f:Addr)(g:Gh):ES:=(s.tb0 head f g).up je (lX s.nx)
def qE(E:EC)(x:Fr)(je:Nat)(head:Value)(f:Addr)(s:ES)(go:Gh->ES->RT):RT:=
 is (pu E.tf (x.c.envs++kE x.κ)) (some f) (w4 (x.c.envs++kE x.κ) s λ s=>qD s.T E.fr (.gh (λ g=>True) λ g=>is ((s.tb0 head f g).T.get s.nid).isSome true (go g (s.tb je head f g))))
def fly(ih:b8)(lv:Bool)(e:Value)(κ:List KF)(j:Nat)(s:ES):RT:=nH ih (.error e) κ (match lv with |true=>s.up j jF |false=>s)
def pw(E:EC)(ih:b8)(env:Env)(lv:Bool)(e:Value)(x:Fr)(s:ES):RT:=kB env.frame λ f=>pop s λ mode s=>pop s λ je s=>gl s je λ a o=>
 is e (.ref a) (pp (Nat.beq mode 1)
  (is ((hW o)[1]?) (some Value.none) (qE E x je .none f s λ g s'=>fly ih lv e x.κ s.nid s'))
  (pop s λ jt s=>gl s jt λ b ot=>is ((hW o)[1]?) (some (.ref b)) (is (Nat.beq jt je) false (pp (Nat.beq mode 2)
   (is ((hW ot)[3]?) (some Value.none) (qE E x je (.ref b) f (s.up jt jF) λ g s'=>fly ih lv e x.κ s.nid s'))
   (is ((hW ot)[3]?) (some (rawInt f)) (fly ih lv e x.κ jt s))))))
def CD(E:EC)(ih:b8)(x:Fr)(a:Addr)(k:Obj->Sem Fin)(j:Nat)(s:ES):RT:=pop s λ jt s=>gl s j λ b o=>gl s jt λ bt ot=>
 is a b (is (hW o)[0]? (some (rawInt bt)) (is (k o) (match((hW o)[0]? == some (rawInt bt)) with
   |true=>R.bindR (E.own a) λ v=>k ⟨o.cls,o.dict,.fields ((hW o).setIfInBounds 0 .none),o.slots⟩
   |false=>k ⟨o.cls,o.dict,.fields ((hW o).setIfInBounds 0 .none),o.slots⟩)
  (ih x (R.bindR (E.own a) λ v=>k ⟨o.cls,o.dict,.fields ((hW o).setIfInBounds 0 .none),o.slots⟩) s)))
def yj(E:EC)(ih:b8)(x:Fr)(a:Addr)(t:Sem Fin)(je:Nat)(s:ES):RT:=pop s λ i s=>pop s λ jt s=>gl s je λ b o=>gl s jt λ t0 ot=>
 kB x.c.env? λ env=>kB env.frame λ f=>kB (E.tryK x.c i (.ref a)) λ K=>is a b (is ((hW o)[1]?) (some (.ref t0)) (is ((hW ot)[3]?) (some Value.none) (is (Nat.beq jt je) false
  (is t (R.bindR (E.note (.ref a) env) λ v=>K) (qE E x je (.ref t0) f (s.up jt jF) λ g s'=>ih {x with p:=g.pos 0} K s')))))
def AM(E:EC)(ih:b8)(x:Fr)(a:Addr)(t:Sem Fin)(k:Obj->Sem Fin)(o:Nat)(s:ES):RT:=pp (Nat.beq o 0) (kB (E.top.get a) λ ob=>ih x (k ob) s)
 (pp (Nat.ble 4001 o) (yj E ih x a t (o-4001) s) (pp (Nat.ble 2001 o) (CD E ih x a k (o-2001) s) (gl s (o-1) λ b ob=>is a b (ih x (k ob) s))))
def nM(c:Code)(x:Addr):Code:=match c with
 | .func body env=>.func body {env with frame:=some x}
 |c=>c
def za(E:EC)(ih:b8)(x:Fr)(k:List (Code×Pos)->Sem Fin)(o:Nat)(s:ES):RT:=pp (Nat.beq o 0) (ih x (k ((x.c,x.p)::(bz E.B x.κ x.c).below)) s)
 (pp (Nat.beq o 2) (kB x.c.env? λ env=>kB env.frame λ f=>is x.c (nM x.c f) (is (λ y=>k ((nM x.c (y+1),x.p)::(bz E.B x.κ x.c).below)) (λ y=>k ((nM x.c y,x.p)::(bz E.B x.κ x.c).below))
  (is (k ((nM x.c 0,x.p)::(bz E.B x.κ x.c).below)) (k []) (ih x (k []) s))))
 (is (Nat.ble x.κ.length E.nb) true (is k (λ st=>R.bindR (E.room st) λ v=>k []) (ih x (k []) s))))
def CE(ih:b8)(x:Fr)(a:Addr)(f:Obj->Obj)(k:Unit->Sem Fin)(o:Nat)(s:ES):RT:=gl s (o-1) λ b ob=>is (f ob).isFreed false (is a b (ih x (k ()) (s.up (o-1) f)))
def yk(E:EC)(ih:b8)(x:Fr)(t:Sem Fin)(s:ES):RT:=match t with
 | .pure (.done f)=>nH ih (.ok f) x.κ s
 | .pure (.again c)=>pv E ih ⟨c,x.p,none,x.κ⟩ s
 | .raise e=>Ao x.m (nH ih (.error e) x.κ s) λ m=>pw E ih m.1 m.2 e x s
 | .rule _ k=>ih x (k ()) s
 | .at q k=>ih {x with p:=q} (k ()) s
 | .point _ k=>ih x (k ()) s
 | .ask k=>is (k E.set1) (k E.setF) (is (k E.setP) (k E.setR) (ih x (k E.set1) s))
 | .load a part k=>pop s (AM E ih x a (.load a part k) k)
 | .alloc o k=>is o.isFreed false (is ((s.new o).T.get s.nid).isSome true (ih x (k s.nx) (s.new o)))
 | .update a _ f k=>pop s (CE ih x a f k)
 | .fresh k=>ih x (k (s.tok+s.i)) (s.fr 1)
 | .handled own k=>is own false (kB (Cb x.κ) λ hd=>ih x (k hd) s)
 | .stack k=>pop s (za E ih x k)
 | .call c hd _ _ k=>AL E ih c hd k x s
 |_=>.no
def ev(E:EC)(fuel:Nat):b8:= @Nat.rec (λ v=>b8) (λ v w x=>.no) (λ v ih=>yk E ih) fuel
def Ob.diag:Ob->Ob
 | .eq a _=>.eq a a
 |o=>o
def RT.diag:RT->RT
 | .ob o r=>.ob o.diag r.diag
 | .gh A f=>.gh A λ g=>(f g).diag
 |r=>r
inductive ST where
 |done (r:Result) (size toks:Nat) (seen:List (Nat×Option (Nat×Obj))) (L:HL)
 |no
 |full (z:SI) (r:ST)
 |pure (z:SP) (r:ST)
 |prop (p:Prop) (r:ST)
 |gh (A:Gh->Prop) (f:Gh->ST)
def RT.strip(js:List Nat):RT->ST
 | .done r s=>.done r (s.base+s.m+822) (s.tok+s.i) (js.map λ j=>(j,s.T.get j)) s.L
 | .no=>.no
 | .ob o r=>match o with
  | .eq _ _=>r.strip js
  | .full z=>.full z (r.strip js)
  | .pure z=>.pure z (r.strip js)
  | .prop p=>.prop p (r.strip js)
 | .gh A f=>.gh A λ g=>(f g).strip js
section
open PySem.Sem (wp wp_bind' wp_onRaise wp_pure' wp_mono finPost wp_cmd_load)
noncomputable def qF(env:Env)(lv:Bool)(e:Value):Sem Unit:=if lv then leaving env e else(do noteFrame e env;theTreesLotGoes e)
noncomputable def gq:Code->Option (Sem Fin×Env×Bool)
 | .func body env=>some ((do point;match <-execs body env with | .ret v=>ret v |_=>ret .none),env,true)
 | .block stmts env=>some ((do return .done (<-execs stmts env)),env,false)
 | .handlers e hs env=>some ((do return .done (<-handleWith e env hs)),env,false)
 | .whileLoop test body orelse env=>some (whileTurn test body orelse env,env,false)
 | .forLoop target it body orelse env=>some (forTurn target it body orelse env,env,false)
 | .compLoop e d it acc env=>match(Code.compLoop e d it acc env).isFrame with
  |true=>none
  |false=>some (compTurn e d it acc env,env,false)
 |_=>none
noncomputable def lY(fd:FuncData)(args:Args)(a:Addr):Sem Fin:=do
 let binds <-bindArgs fd args
 let env <-newFunctionEnv fd.scope fd.globals fd.closure binds (fd.qualname++".<locals>.") (some a) fd.code none fd.builtins
 let limit <-currentRecursionLimit
 if limit=recursionLimit then
  again (match fd.body with | .stmts b=>.func b env | .expr e=>.expr e env)
 else unsupported "limit"
noncomputable def Cc{α:Type}(st:List (Code×Pos))(t:Sem α):Sem α:=match t with
 | .stack k=>k st
 |t=>t
def iC(st:List (Code×Pos)):Sem Unit:=Cc st (cRoom "comparison")
theorem w5{M:Model}{Γ:Ctx}{Q:Unit->Pos->Shared->Prop}{E:Value->Pos->Shared->Prop}{p:Pos}{s:Shared}{st:List (Code×Pos)}(h:unitsOf st<cLine)(q:Q () p s):wp M Γ (iC st) Q E p s:=by
 show wp M Γ (if(st.map (·.1.cUnits)).sum >=cLine then _ else _) Q E p s
 have e:¬(st.map (·.1.cUnits)).sum >=cLine:=Nat.not_le.mpr h
 rw[if_neg e]
 exact q
section
variable {M:Model}{Γ:Ctx}{Q:Fin->Pos->Shared->Prop}{E:Value->Pos->Shared->Prop}{p:Pos}{s:Shared}
theorem kF{Y:Type}{hh:Value->Sem Unit}{m:Sem Y}{f:Y->Sem Fin}(hf:∀x p s E',wp M Γ (f x) Q E' p s->wp M Γ (f x) Q E p s)
  (h:wp M Γ (m.bind f) Q (λ e p' s'=>wp M Γ (hh e) (λ _ p'' s''=>E e p'' s'') E p' s') p s):wp M Γ ((m.onRaise hh).bind f) Q E p s:=by
 rw[Sem.wp_bind] at h ⊢
 rw[wp_onRaise]
 exact wp_mono M Γ _ (λ x p' s' h'=>hf x p' s' _ h') (λ e p' s' h'=>h') _ _ h
def w6(M:Model)(Γ:Ctx)(Q:Fin->Pos->Shared->Prop)(E:Value->Pos->Shared->Prop)(p:Pos)(s:Shared)(x:Sem Fin×Env×Bool):Prop:=
 wp M Γ x.1 Q (λ e p' s'=>wp M Γ (qF x.2.1 x.2.2 e) (λ _ p'' s''=>E e p'' s'') E p' s') p s
theorem no{α:Type}{a:α}{P:Prop}(e:none=some a):P:=nomatch e
theorem w6.of{a b:Sem Fin×Env×Bool}(h:w6 M Γ Q E p s b)(e:some a=some b):w6 M Γ Q E p s a:=by cases e;exact h
theorem nN{c:Code}{x:Sem Fin×Env×Bool}(e:gq c=some x)(h:w6 M Γ Q E p s x):wp M Γ (denote table c) Q E p s:=by
 have on:∀(m:Sem Fin) (hh:Value->Sem Unit),wp M Γ m Q (λ e p' s'=>wp M Γ (hh e) (λ _ p'' s''=>E e p'' s'') E p' s') p s->wp M Γ (m.onRaise hh) Q E p s:=λ m hh h=>by rw[wp_onRaise];exact h
 cases c
 case func body env=>have h:=h.of e;exact kF (m:=execs body env) (f:=λ fl=>match fl with | .ret v=>ret v |_=>ret .none) (λ x p s E' h=>by cases x<;>exact h) h
 case block stmts env=>have h:=h.of e;exact kF (m:=execs stmts env) (f:=λ fl=>.pure (.done fl)) (λ x p s E' h=>h) h
 case handlers x hs env=>have h:=h.of e;exact kF (m:=handleWith x env hs) (f:=λ fl=>.pure (.done fl)) (λ x p s E' h=>h) h
 case whileLoop=>have h:=h.of e;exact on _ _ h
 case forLoop=>have h:=h.of e;exact on _ _ h
 case compLoop y d it acc en=>
  have z:∀b:Bool,(match b with |true=>none |false=>some (compTurn y d it acc en,en,false))=some x->wp M Γ (if b=true then(compTurn y d it acc en).onRaise (leaving en) else(compTurn y d it acc en).onRaise (λ x=>do noteFrame x en;theTreesLotGoes x)) Q E p s:=λ b e=>by
   cases b with
   |true=>exact no e
   |false=>have h:=h.of e;exact on _ _ h
  exact z _ e
 all_goals exact no e
theorem D8{c:Prop}{_:Decidable c}{n:Nat}{f:c->Nat}{g:¬c->Nat}(hf:∀h,f h<=n)(hg:∀h,g h<=n):dite c f g<=n:=by
 by_cases h:c
 ·rw[dif_pos h];exact hf h
 ·rw[dif_neg h];exact hg h
theorem AN(c:Code)(h:c.frames=if c.isFrame=true then 1 else 0):c.frames<=3:=by
 rw[h]
 cases c.isFrame<;>decide
theorem lZ(c:Code):c.frames<=3:=by
 cases c
 case builtin id args=>
  delta Code.frames Code.frames.match_1
  repeat refine D8 (λ h=>by cases h;exact L3 rfl) λ h=>?_
  have y:∀b:Bool,(if b=true then 1 else 0)<=3:=λ b=>by cases b<;>decide
  exact y _
 all_goals exact AN _ rfl
theorem sV{b:Bool}{n:Nat}(h:b=true->1<=n):(if b=true then 1 else 0)<=n:=by
 cases b
 ·exact Nat.zero_le _
 ·exact h rfl
theorem l3(c:Code)(h:eC c=true):c.weight<=5:=by
 have hf:=lZ c
 have hc:c.isCaller=false:=by
  cases c
  case builtin id args=>
   cases q:(Code.builtin id args).isCaller with
   |false=>rfl
   |true=>
    have e:id="claim.caller":=by
     apply Classical.byContradiction
     intro n
     have:(Code.builtin id args).isCaller=false:=by
      delta Code.isCaller Code.isCaller.match_1
      exact dif_neg n
     rw[this] at q
     cases q
    subst e
    cases h
  all_goals rfl
 have h1:(if c.isCreation=true then 1 else 0)<=1:=sV λ _=>Nat.le_refl 1
 have h2:(if c.isGuard=true then 1 else 0)<=1:=sV λ _=>Nat.le_refl 1
 unfold Code.weight
 rw[hc]
 exact Nat.add_le_add (Nat.add_le_add (Nat.add_le_add hf h1) h2) (Nat.le_refl 0)
theorem l5(c:Code):c.cUnits<=10:=by
 have hf:=Nat.mul_le_mul_left 3 (lZ c)
 cases c
 case builtin id args=>exact Nat.add_le_add_left hf 1
 case call=>exact L3 rfl
 all_goals exact ky hf (L3 rfl)
theorem sW{X:Sem Fin}(hroom:frameCount Γ.below+Γ.code.weight<recursionLimit)
  (h:wp M Γ currentRecursionLimit (λ limit p s=>wp M Γ (if limit=recursionLimit then X else unsupported "limit") Q E p s) E p s):
  wp M Γ enterFrame (λ _ p s=>wp M Γ X Q E p s) E p s:=by
 have hge:=frameCount_ge ((Γ.code,p)::Γ.below)
 have hsum:=hge
 rw[frameCount_cons] at hsum
 have hsum:=Nat.lt_of_le_of_lt hsum (Nat.add_comm .. ▸hroom)
 have hlt:=Nat.lt_of_le_of_lt (Nat.le_add_right _ _) hsum
 have hnear:nearTheLimitUnderAClaim (((Γ.code,p)::Γ.below).map (·.1)) (((((Γ.code,p)::Γ.below).map (·.1)).map (·.frames)).sum+((((Γ.code,p)::Γ.below).map (·.1)).filter Code.isCreation).length) recursionLimit=false:=by
  show(decide (((((Γ.code,p)::Γ.below).map (·.1)).map (·.frames)).sum+((((Γ.code,p)::Γ.below).map (·.1)).filter Code.isCreation).length+claimMargin >=recursionLimit)&&(((Γ.code,p)::Γ.below).map (·.1)).any Code.isCaller)=false
  cases hany:(((Γ.code,p)::Γ.below).map (·.1)).any Code.isCaller with
  |false=>exact Bool.and_false _
  |true=>
   have hge:=frameCount_ge_caller ((Γ.code,p)::Γ.below) hany
   rw[frameCount_cons] at hge
   rw[Bool.and_true]
   exact lL (Nat.not_le_of_lt (Nat.lt_of_le_of_lt hge (Nat.add_comm .. ▸hroom)))
 show wp M Γ (currentRecursionLimit.bind _) _ E p s
 rw[Sem.wp_bind]
 refine wp_mono M Γ _ (λ limit p' s' h'=>?_) (λ _ _ _ h=>h) p s h
 by_cases hl:limit=recursionLimit
 ·subst hl
  rw[if_pos rfl] at h'
  show wp M Γ (if nearTheLimitUnderAClaim (((Γ.code,p)::Γ.below).map (·.1)) (((((Γ.code,p)::Γ.below).map (·.1)).map (·.frames)).sum+((((Γ.code,p)::Γ.below).map (·.1)).filter Code.isCreation).length) recursionLimit=true then _ else _) _ _ p' s'
  rw[if_neg (by rw[hnear];exact Bool.false_ne_true)]
  show wp M Γ (if((((Γ.code,p)::Γ.below).map (·.1)).map (·.frames)).sum >=recursionLimit then _ else _) _ _ p' s'
  rw[if_neg (Nat.not_le_of_lt hlt)]
  show wp M Γ (if((((Γ.code,p)::Γ.below).map (·.1)).map (·.frames)).sum+((((Γ.code,p)::Γ.below).map (·.1)).filter Code.isCreation).length >=recursionLimit then _ else _) _ _ p' s'
  rw[if_neg (Nat.not_le_of_lt hsum)]
  exact h'
 ·rw[if_neg hl] at h'
  exact(show False from h').elim
end
theorem sX{prog:Program}{w:World}{Γ:Ctx}{R:Result->Shared->Prop}{p:Pos}{s:Shared}{a:Addr}{fd:FuncData}{args:Args}{od:Option Addr}{cl:Value}{sl:Array (Option Value)}
  (hc:Γ.code= .call (.ref a) args)(ho:s.heap.get? a=some ⟨cl,od,.func fd,sl⟩)(hco:(fd.scope.isCoroutine || fd.scope.isGenerator)=false)
  (hcd:s.heap.CodeRec fd.code fd.qualname)(hroom:frameCount Γ.below+Γ.code.weight<recursionLimit)
  (h:wp (model prog w) Γ (lY fd args a) (finPost (model prog w) Γ R) (λ e _ s'=>R (.error e) s') p s):wpCode (model prog w) Γ R p s:=by
 rw[B',hc]
 obtain⟨c,oc',vs,tq,hcc,hoc,hdc,hq⟩:=hcd
 have g2:=Bool.or_eq_false_iff.mp hco
 refine⟨_,ho,?_⟩
 show wp _ Γ (callFunction a fd args) _ _ p s
 unfold callFunction
 rw[hcc,g2.1,g2.2]
 show wp _ Γ (Sem.bind (field (.ref c) 1) _) _ _ p s
 rw[Sem.wp_bind]
 refine(wp_field_iff _ _ _ _ _ _ _).mpr ⟨c,oc',vs,_,rfl,hoc,hdc,hq,?_⟩
 show wp _ Γ (Sem.bind (bindArgs fd args) _) _ _ p s
 unfold lY at h
 rw[hcc,wp_bind'] at h
 rw[Sem.wp_bind]
 refine wp_mono _ Γ _ (λ binds p1 s1 h1=>?_) (λ _ _ _ h=>h) p s h
 rw[wp_bind'] at h1
 rw[wp_bind']
 refine wp_mono _ Γ _ (λ env p2 s2 h2=>?_) (λ _ _ _ h=>h) p1 s1 h1
 rw[wp_bind'] at h2
 show wp _ Γ (Sem.bind enterFrame _) _ _ p2 s2
 rw[Sem.wp_bind]
 exact sW hroom h2
end
section
open PySem.Sem (wp wp_bind' wp_onRaise wp_pure' wp_mono finPost wp_cmd_load)
structure Rn where
 prog:Program
 w:World
 E:EC
 G:Shared
 R:Result->Shared->Prop
 F:Nat->Prop
 h0:Heap
noncomputable abbrev Rn.M(Z:Rn):Model:=model Z.prog Z.w
noncomputable def aZ(l:List (Nat×Nat×Obj)):List Nat:=l.map (·.2.1)
noncomputable def aH(l:HL):List Nat:=l.map (·.1)
noncomputable def AO:Value:=.type "frame"
def jh(h h':Heap)(b:Addr)(o:Obj):Prop:=∃sl,h'.get? b=some {o with slots:=sl}/\(bd o=false\/b<822->sl=o.slots)
def Aq(h:Heap)(f:Addr):Prop:=∃o,h.get? f=some o/\bd o=true/\kA o=true/\822<=f
def AP(h:Heap)(env:Env):Prop:=env.scope.kind≠.module/\∃f,env.frame=some f/\Aq h f
def FR(Γ:Ctx)(h:Heap):Prop:=∀env∈envsOf Γ.below,AP h env
noncomputable def w7(Γ:Ctx)(t:Option Addr):Prop:=∀f,t=some f->∃env outer,envsOf Γ.below=env::outer/\env.frame=some f
def sY(E:EC)(h:Heap):Prop:=∀a o,E.top.get a=some o->h.get? a=some o
def gV(P:Nat×Nat×Obj->Obj->Prop):List (Nat×Nat×Obj)->List Obj->Prop
 |[],[]=>True
 |x::r,o::l=>P x o/\gV P r l
 |_,_=>False
structure cv(z:SI)(g:Gh)(h h':Heap):Prop where
 size:h'.objs.size=g.n 0+822
 more:h.objs.size<=h'.objs.size
 fin:gV (λ x o=>h'.get? x.2.1=some o) z.idx (z.out g).fin
 new:∀x∈(z.out g).new,h'.get? x.1=some x.2/\h.objs.size<=x.1/\bd x.2=false
 lst:∀x∈(z.out g).L,h'.get? x.1=some x.2/\bd x.2=false/\(x.1∈aH z.L\/h.objs.size<=x.1)
 nodup:(aH (z.out g).new++aH (z.out g).L).Nodup
 frame:∀b o,h.get? b=some o->b∉aZ z.idx->b∉aH z.L->h'.get? b=some (aE g b o)
 low:∀b o,b<822->h.get? b=some o->b∉aZ z.idx->b∉aH z.L->h'.get? b=some o
structure ji(E:EC)(z:SI)(h:Heap):Prop where
 n1:E.n1<=h.objs.size
 top:sY E h
 idx:∀x∈z.idx,h.get? x.2.1=some x.2.2/\E.n1<=x.2.1
 lst:∀x∈z.L,h.get? x.1=some x.2/\E.n1<=x.1/\bd x.2=false
 nodup:(aZ z.idx++aH z.L).Nodup
def SI.Holds(M:Model)(E:EC)(G:Shared)(z:SI):Prop:=∀(Γ:Ctx) (R:Result->Shared->Prop) (p:Pos) (h:Heap) (tok:Nat),Γ.code=z.code->Γ.handled=none->w7 Γ (jE z.code)->FR Γ h->
 frameCount Γ.below+5*z.d+20<recursionLimit->unitsOf Γ.below+10*z.d+40<cLine->ji E z h->
 (∀g h',z.asm g->cv z g h h'->R (z.out g).res {G with heap:=h',toks:=g.n 1})->wpCode M Γ R p {G with heap:=h,toks:=tok}
noncomputable def SP.Holds(M:Model)(G:Shared)(z:SP):Prop:=∀(Γ:Ctx) (R:Result->Shared->Prop) (p:Pos) (h:Heap) (tok:Nat),Γ.code=z.code->
 frameCount Γ.below+10<recursionLimit->unitsOf Γ.below+20<cLine->R z.res {G with heap:=h,toks:=tok+z.i}->wpCode M Γ R p {G with heap:=h,toks:=tok}
def Ob.Holds(M:Model)(E:EC)(G:Shared):Ob->Prop
 | .eq a b=>a=b
 | .full z=>z.Holds M E G
 | .pure z=>z.Holds M G
 | .prop p=>p
structure dR(Z:Rn)(s:ES)(h:Heap):Prop where
 size:h.objs.size=s.base+s.m+822
 low:Z.E.n1<=Z.h0.objs.size
 more:Z.h0.objs.size<=h.objs.size
 own:∀j a o,s.T.get j=some (a,o)->h.get? a=some o/\j<s.nid/\Z.E.n1<=a/\(Z.F a\/Z.h0.objs.size<=a)/\(Z.E.n0<=j->Z.h0.objs.size<=a)
 inj:∀j j' a o o',s.T.get j=some (a,o)->s.T.get j'=some (a,o')->j=j'
 top:sY Z.E h
 lst:∀x∈s.L,h.get? x.1=some x.2/\Z.E.n1<=x.1/\bd x.2=false/\(Z.F x.1\/Z.h0.objs.size<=x.1)/\∀j o,s.T.get j≠some (x.1,o)
 lnd:(aH s.L).Nodup
 frame:∀b o,Z.h0.get? b=some o->¬Z.F b->jh Z.h0 h b o
namespace Rn
variable (Z:Rn)
noncomputable def sh(s:ES)(h:Heap):Shared:={Z.G with heap:=h,toks:=s.tok+s.i}
def tree(Γ:Ctx)(m:w0)(R:Result->Shared->Prop)(t:Sem Fin)(p:Pos)(s:Shared):Prop:=wp Z.M Γ t (finPost Z.M Γ R) (λ e p s=>match m with
 |none=>R (.error e) s
 |some x=>wp Z.M Γ (qF x.1 x.2 e) (λ _ _ s'=>R (.error e) s') (λ e' _ s'=>R (.error e') s') p s) p s
def post:List KF->Result->Shared->Prop
 |[]=>Z.R
 | .mk k _ c p m::κ=>λ r s=>Z.tree (bz Z.E.B κ c) m (post κ) (k r) p s
def T(x:Fr)(t:Sem Fin)(s:Shared):Prop:=Z.tree (bz Z.E.B x.κ x.c) x.m (Z.post x.κ) t x.p s
def W(x:Fr)(s:Shared):Prop:=wpCode Z.M (bz Z.E.B x.κ x.c) (Z.post x.κ) x.p s
def Both:RT->Prop
 | .done r s=>∀h,dR Z s h->Z.R r (Z.sh s h)
 | .no=>False
 | .ob o r=>o.Holds Z.M Z.E Z.G/\Both r
 | .gh A f=>∀g,A g->Both (f g)
variable {Z}{P:Prop}
theorem Both.e{α:Type}{a b:α}{r:RT}(g:Z.Both (is a b r))(k:a=b->Z.Both r->P):P:=k g.1 g.2
theorem Both.t{α:Type}{o:Option α}{f:α->RT}(g:Z.Both (kB o f))(k:∀a,o=some a->Z.Both (f a)->P):P:=by
 cases o with
 |none=>exact g.elim
 |some a=>exact k a rfl g
theorem Both.oe{α:Type}{o:Option α}{r:RT}{f:α->RT}(g:Z.Both (Ao o r f))(k1:o=none->Z.Both r->P)(k:∀a,o=some a->Z.Both (f a)->P):P:=by
 cases o with
 |none=>exact k1 rfl g
 |some a=>exact k a rfl g
theorem Both.c{b:Bool}{r r':RT}(g:Z.Both (pp b r r'))(k:Z.Both r->P)(k':Z.Both r'->P):P:=by
 cases b
 ·exact k' g
 ·exact k g
theorem Both.p{s:ES}{f:Nat->ES->RT}(g:Z.Both (Mine.pop s f))(k:∀o r,Z.Both (f o (s.o r))->P):P:=by
 unfold Mine.pop at g
 cases e:s.orc with
 |nil=>rw[e] at g;exact g.elim
 |cons o r=>rw[e] at g;exact k o r g
theorem Both.px{s:ES}{f:SX->ES->RT}(g:Z.Both (w1 s f))(k:∀o r,Z.Both (f o (s.x r))->P):P:=by
 unfold w1 at g
 cases e:s.xs with
 |nil=>rw[e] at g;exact g.elim
 |cons o r=>rw[e] at g;exact k _ r g
theorem Both.l{s:ES}{j:Nat}{f:Addr->Obj->RT}(g:Z.Both (gl s j f))(k:∀a o,s.T.get j=some (a,o)->Z.Both (f a o)->P):P:=g.t λ x e g=>k x.1 x.2 e g
end Rn
structure rF(E:EC):Prop where
 note:E.note=noteFrame
 tf:w7 E.B E.tf
 den:E.den=denote table
 inner:E.inner=gq
 py:E.py=lY
 iadd:∀a b,a≠b->E.iadd a b=denote table (.builtin "list.__iadd__" ⟨[.ref a,.ref b],[]⟩)
 room:frameCount E.B.below+5*E.nb+20<recursionLimit
 units:unitsOf E.B.below+10*E.nb+40<cLine
 topLt:∀a o,E.top.get a=some o->a<E.n1
 topFr:∀a o,E.top.get a=some o->bd o=false
 hd:E.B.handled=none
 n1:822<=E.n1
structure AQ(prog:Program)(w:World)(E:EC):Prop where
 p:E.setP=⟨prog,w.2⟩
 r:E.setR=E.set1\/E.setR=E.setF
 room:E.room=iC
def NC:KF->Bool
 | .mk _ _ c _ _=>eC c
theorem bP(B:Ctx):∀(κ:List KF) (c:Code),(bz B κ c).code=c
 |[],_=>rfl
 | .mk .. ::_,_=>rfl
theorem l6(B:Ctx):∀(κ:List KF) (c c':Code),(bz B κ c).goto c'=bz B κ c'
 |[],_,_=>rfl
 | .mk .. ::_,_,_=>rfl
theorem iD(B:Ctx):∀(κ:List KF) (c:Code),κ.all NC=true->frameCount (bz B κ c).below<=frameCount B.below+5*κ.length
 |[],_,_=>Nat.le_refl _
 | .mk k hd c1 p1 m1::κ,c,h=>by
  rw[List.all_cons,AC] at h
  have ih:=iD B κ c1 h.2
  have w:=l3 c1 h.1
  show frameCount (((bz B κ c1).code,p1)::(bz B κ c1).below)<=_
  rw[frameCount_cons,bP,L6]
  omega
theorem gM(B:Ctx):∀(κ:List KF) (c:Code),unitsOf (bz B κ c).below<=unitsOf B.below+10*κ.length
 |[],_=>Nat.le_refl _
 | .mk k hd c1 p1 m1::κ,c=>by
  have ih:=gM B κ c1
  have w:=l5 c1
  show unitsOf (((bz B κ c1).code,p1)::(bz B κ c1).below)<=_
  rw[unitsOf_cons,bP,L6]
  omega
theorem iE(B:Ctx):∀(κ:List KF) (c:Code),envsOf (bz B κ c).below=kE κ++envsOf B.below
 |[],_=>rfl
 | .mk k hd c1 p1 m1::κ,c=>by
  show envsOf (((bz B κ c1).code,p1)::(bz B κ c1).below)=(c1.envs++kE κ)++_
  rw[envsOf_cons,bP,iE B κ c1,L9]
theorem pz(B:Ctx)(hb:B.handled=none):∀(κ:List KF) (c:Code) (x:Option Value),Cb κ=some x->(bz B κ c).handled=x
 |[],c,x,h=>by cases h;exact hb
 | .mk k hd c1 p1 m1::κ,c,x,h=>by
  show markOver hd (bz B κ c1).handled (bz B κ c1).past=x
  cases hd with
  |some e=>
   have h:(match e == byPass with |true=>none |false=>some (some e))=some x:=h
   show(if(e == byPass)=true then _ else _)=x
   generalize (e == byPass)=b at h ⊢
   cases b
   ·cases h;rfl
   ·exact no h
  |none=>exact pz B hb κ c1 x h
theorem jh.refl{h0 h:Heap}{b:Addr}{o:Obj}(x:h.get? b=some o):jh h0 h b o:=⟨o.slots,x,λ _=>rfl⟩
theorem zb(o:Obj)(sl:Array (Option Value)):bd {o with slots:=sl}=bd o:=rfl
theorem jh.step{h0 h1 h2:Heap}{b:Addr}{o:Obj}(x:jh h0 h1 b o)(y:∀o1,h1.get? b=some o1->jh h1 h2 b o1):jh h0 h2 b o:=by
 obtain⟨sl,e,n⟩:=x
 obtain⟨sl',e',n'⟩:=y _ e
 exact⟨sl',e',λ q=>by rw[n' q,n q]⟩
section
variable {Z:Rn}{h:Heap}{s s':ES}
theorem dR.same(D:dR Z s h)(h1:s'.T=s.T)(h2:s'.nid=s.nid)(h3:s'.base+s'.m=s.base+s.m)(h5:s'.L=s.L):dR Z s' h:=
 ⟨by rw[h3];exact D.size,D.low,D.more,by rw[h1,h2];exact D.own,by rw[h1];exact D.inj,D.top,by rw[h1,h5];exact D.lst,by rw[h5];exact D.lnd,D.frame⟩
theorem dR.o(D:dR Z s h)(r:List Nat):dR Z (s.o r) h:=D.same rfl rfl rfl rfl
theorem dR.x(D:dR Z s h)(r:List XF):dR Z (s.x r) h:=D.same rfl rfl rfl rfl
theorem dR.g(D:dR Z s h)(r:Gh):dR Z (s.g r) h:=D.same rfl rfl rfl rfl
theorem dR.fr(D:dR Z s h)(r:Nat):dR Z (s.fr r) h:=D.same rfl rfl rfl rfl
theorem dR.up(X:rF Z.E)(D:dR Z s h){j a:Nat}{o:Obj}{f:Obj->Obj}(e:s.T.get j=some (a,o))(hf:(f o).isFreed=false):dR Z (s.up j f) (h.update a f):=by
 have z:=D.own j a o e
 have hs:Heap.SameBut a h (h.update a f):=Heap.SameBut.update ..
 have key:∀i b x,(s.T.set j f).get i=some (b,x)->∃x0,s.T.get i=some (b,x0)/\(h.update a f).get? b=some x:=by
  intro i b x hi
  rw[MT.get_set] at hi
  by_cases q:i=j
  ·rw[if_pos q,e] at hi
   cases hi
   exact⟨o,by rw[q];exact e,Heap.get?_update_self f z.1 hf⟩
  ·rw[if_neg q] at hi
   exact⟨x,hi,(hs.2 b λ hb=>q (D.inj i j b x o hi (by rw[hb];exact e))).trans (D.own i b x hi).1⟩
 refine⟨by rw[hs.1];exact D.size,D.low,by rw[hs.1];exact D.more,λ i b x hi=>?_,λ i i' b x x' hi hi'=>?_,λ b x hx=>?_,λ x hx=>?_,D.lnd,λ b x hx hno=>?_⟩
 ·obtain⟨x0,hx0,q⟩:=key i b x hi
  exact⟨q,(D.own i b x0 hx0).2⟩
 ·obtain⟨x0,hx0,_⟩:=key i b x hi
  obtain⟨x1,hx1,_⟩:=key i' b x' hi'
  exact D.inj _ _ _ _ _ hx0 hx1
 ·exact(hs.2 b (Nat.ne_of_lt (Nat.lt_of_lt_of_le (X.topLt b x hx) z.2.2.1))).trans (D.top b x hx)
 ·obtain⟨y1,y2,y3,y4,y5⟩:=D.lst x hx
  refine⟨(hs.2 _ λ q=>y5 j o (by rw[q];exact e)).trans y1,y2,y3,y4,λ i ob hi=>?_⟩
  obtain⟨x0,hx0,_⟩:=key i _ _ hi
  exact y5 _ _ hx0
 ·have ne:b≠a:=λ q=>by
   subst q
   exact z.2.2.2.1.elim hno (Nat.not_le_of_lt (kz hx))
  exact(D.frame b x hx hno).step λ o1 e1=>jh.refl ((hs.2 b ne).trans e1)
theorem dR.new(D:dR Z s h){o:Obj}(hf:o.isFreed=false)(hg:((s.new o).T.get s.nid).isSome=true):dR Z (s.new o) (h.push o):=by
 have gi:=MT.get_ins s.nx o s.T s.nid hg
 have sz:h.objs.size=s.nx:=D.size
 have lt:∀{c:Addr} {x:Obj},h.get? c=some x->c≠s.nx:=λ q e=>Cz _ (sz▸e▸kz q)
 have hmo:Z.h0.objs.size<=s.nx:=sz▸D.more
 have old:∀i c x,(s.new o).T.get i=some (c,x)->(i=s.nid/\c=s.nx/\x=o)\/(c≠s.nx/\s.T.get i=some (c,x)):=by
  intro i c x hi
  have hi:(s.T.ins s.nid s.nx o).get i=some (c,x):=hi
  rw[gi] at hi
  by_cases q:i=s.nid
  ·rw[if_pos q] at hi;cases hi;exact .inl ⟨q,rfl,rfl⟩
  ·rw[if_neg q] at hi;exact .inr ⟨lt (D.own i c x hi).1,hi⟩
 refine⟨by rw[Heap.size_push,sz];show s.base+s.m+822+1=s.base+(s.m+1)+822;rw[Nat.add_right_comm (s.base+s.m)];rfl,D.low,by rw[Heap.size_push];exact Nat.le_succ_of_le D.more,λ i c x hi=>?_,λ i i' c x x' hi hi'=>?_,λ c x hx=>Heap.get?_push_of_some _ (D.top c x hx),λ x hx=>?_,D.lnd,
  λ c x hx hno=>(D.frame c x hx hno).step λ o1 e1=>jh.refl (Heap.get?_push_of_some _ e1)⟩
 ·rcases old i c x hi with⟨rfl,rfl,rfl⟩ |⟨_,hi⟩
  ·exact⟨by rw[<-sz];exact An _ hf,Nat.lt_succ_self _,ky D.low hmo,.inr hmo,λ _=>hmo⟩
  ·have y:=D.own i c x hi
   exact⟨Heap.get?_push_of_some _ y.1,Nat.lt_succ_of_lt y.2.1,y.2.2⟩
 ·rcases old i c x hi with⟨q,e,_⟩ |⟨q,hi⟩<;>rcases old i' c x' hi' with⟨q',e',_⟩ |⟨q',hi'⟩
  ·rw[q,q']
  ·exact absurd e q'
  ·exact absurd e' q
  ·exact D.inj _ _ _ _ _ hi hi'
 ·obtain⟨y1,y2,y3,y4,y5⟩:=D.lst x hx
  refine⟨Heap.get?_push_of_some _ y1,y2,y3,y4,λ i ob hi=>?_⟩
  rcases old i _ _ hi with⟨_,q,_⟩ |⟨_,hi⟩
  ·exact lt y1 q
  ·exact y5 _ _ hi
end
end
section
open PySem.Sem (wp wp_bind' wp_onRaise wp_pure' wp_mono finPost wp_cmd_load)
def DE(Z:Rn):Prop:=∀env∈envsOf Z.E.B.below,env.scope.kind≠.module/\∃f,env.frame=some f/\(Aq Z.h0 f/\¬Z.F f\/∃x∈Z.E.fr,x.2=f)
section
variable {Z:Rn}{s:ES}{h h':Heap}
theorem all_cons{α:Type}{P:α->Prop}{x:α}{l:List α}(h:P x)(t:∀y∈l,P y):∀y∈x::l,P y:=λ y hy=>(lI.mp hy).elim (λ e=>e▸h) (t y)
theorem cb{α:Type}{P:α->Prop}:∀x∈([]:List α),P x:=λ _ h=>(nomatch h)
theorem rG{T:MT}{r:RT}(idx:List (Nat×Nat×Obj))(g:Z.Both (y' T idx r)):(∀x∈idx,T.get x.1=some (x.2.1,x.2.2))/\Z.Both r:=by
 induction idx with
 |nil=>exact⟨cb,g⟩
 |cons y l ih=>exact g.t λ a e g=>g.e λ e1 g=>g.e λ e2 g=>(ih g).imp_left (all_cons (by rw[e,<-e1,<-e2]))
theorem dR.frA(X:rF Z.E)(D:dR Z s h){j:Nat}{a:Addr}{o:Obj}(e:s.T.get j=some (a,o))(b:(bd o&&kA o)=true):Aq h a:=
 have y:=D.own _ _ _ e
 have b:=Bool.and_eq_true_iff.mp b
 ⟨o,y.1,b.1,b.2,ky X.n1 y.2.2.1⟩
theorem l7(X:rF Z.E){go:ES->RT}(es:List Env):∀{s:ES},dR Z s h->Z.Both (w4 es s go)->(∀env∈es,AP h env)/\∃r,Z.Both (go (s.o r)):=by
 induction es with
 |nil=>exact λ{s} D g=>⟨cb,s.orc,g⟩
 |cons y l ih=>exact λ{s} D g=>g.p λ j r g=>g.l λ a o e g=>g.e λ e1 g=>g.e λ e2 g=>g.e λ e3 g=>(ih (D.o r) g).imp_left (all_cons ⟨of_decide_eq_false e2,a,e1,D.frA X e e3⟩)
theorem kG(X:rF Z.E){r:RT}(D:dR Z s h)(l:List (Nat×Nat))(g:Z.Both (qD s.T l r)):(∀x∈l,Aq h x.2)/\Z.Both r:=by
 induction l with
 |nil=>exact⟨cb,g⟩
 |cons y l ih=>exact g.t λ a e g=>g.e λ e1 g=>g.e λ e3 g=>(ih g).imp_left (all_cons (e1▸D.frA X e e3))
theorem qG(Q:DE Z)(D:dR Z s h)(hF:∀x∈Z.E.fr,Aq h x.2):∀env∈envsOf Z.E.B.below,AP h env:=λ env he=>by
 obtain⟨h1,f,h2,h3⟩:=Q env he
 refine⟨h1,f,h2,?_⟩
 rcases h3 with⟨⟨o,h3,h5⟩,h4⟩ |⟨x,hx,rfl⟩
 ·obtain⟨sl,q,_⟩:=D.frame f o h3 h4
  exact⟨_,q,h5⟩
 ·exact hF x hx
theorem sZ(h':Heap)(T0:MT)(idx:List (Nat×Nat×Obj)):∀(fin:List Obj) (T T1:MT),w3 T idx fin=some T1->
  (∀x∈idx,∃o,T0.get x.1=some (x.2.1,o))->gV (λ x o=>h'.get? x.2.1=some o) idx fin->
  (∀j a o,T.get j=some (a,o)->(∃o0,T0.get j=some (a,o0))/\(h'.get? a=some o\/j∈idx.map (·.1)))->
  ∀j a o,T1.get j=some (a,o)->(∃o0,T0.get j=some (a,o0))/\h'.get? a=some o:=by
 induction idx with
 |nil=>
  intro fin T T1 e h1 h2 h3 j a o hj
  cases fin with
  |cons _ _=>exact no e
  |nil=>
   cases e
   exact(h3 j a o hj).imp_right λ y=>y.elim id λ y=>nomatch y
 |cons x r ih=>
  intro fin T T1 e h1 h2 h3 j a o' hj
  cases fin with
  |nil=>exact no e
  |cons o l=>
   obtain⟨i,b,ob⟩:=x
   refine ih l _ T1 e (λ x hx=>h1 x (L7 _ hx)) h2.2 (λ j a o' hj=>?_) j a o' hj
   rw[MT.get_set] at hj
   by_cases q:j=i
   ·subst q
    rw[if_pos rfl] at hj
    obtain⟨⟨a1,o1⟩,ht,e⟩:=sN.mp hj
    cases e
    obtain⟨o2,h4⟩:=h1 _ (L5 ..)
    obtain⟨o3,h5⟩:=(h3 j _ _ ht).1
    have h6:a1=b:=congrArg Prod.fst (L8 (h5.symm.trans h4))
    exact⟨⟨o3,h5⟩,.inl (h6▸h2.1)⟩
   ·rw[if_neg q] at hj
    exact(h3 j a o' hj).imp_right λ y=>y.imp_right λ y=>(lI.mp y).elim (λ y=>absurd y q) id
structure PT(P:Nat->Nat->Obj->Prop)(T:MT)(nid:Nat)(rest:List Nat):Prop where
 own:∀j a o,T.get j=some (a,o)->P j a o/\j<nid/\a∉rest
 inj:∀j j' a o o',T.get j=some (a,o)->T.get j'=some (a,o')->j=j'
theorem l8(P:Nat->Nat->Obj->Prop)(rest:List Nat)(new:HL):∀(T:MT) (nid:Nat) (x:MT×Nat),ia T nid new=some x->PT P T nid (aH new++rest)->(∀x∈new,∀j,nid<=j->P j x.1 x.2)->
  (aH new++rest).Nodup->PT P x.1 x.2 rest:=by
 induction new with
 |nil=>exact λ T nid x e D H nd=>by cases e;exact D
 |cons y r ih=>
  intro T nid x e D H nd
  obtain⟨a,o⟩:=y
  have e:(match(T.ins nid a o).get nid with |some _=>ia (T.ins nid a o) (nid+1) r |none=>none)=some x:=e
  cases hy:(T.ins nid a o).get nid with
  |none=>rw[hy] at e;exact no e
  |some y=>
   rw[hy] at e
   have gi:=MT.get_ins a o T nid (by rw[hy];rfl)
   have nd':a∉aH r++rest/\(aH r++rest).Nodup:=po.mp nd
   have old:∀i c x,(T.ins nid a o).get i=some (c,x)->(i=nid/\c=a/\x=o)\/(c≠a/\T.get i=some (c,x)):=by
    intro i c x hi
    rw[gi] at hi
    by_cases q:i=nid
    ·rw[if_pos q] at hi;cases hi;exact .inl ⟨q,rfl,rfl⟩
    ·rw[if_neg q] at hi;exact .inr ⟨λ q=>(D.own i c x hi).2.2 (q▸L5 ..),hi⟩
   refine ih _ _ x e ⟨λ j b x hj=>?_,λ j j' b x x' hj hj'=>?_⟩ (λ x hx j hj=>H x (L7 _ hx) j (Nat.le_of_succ_le hj)) nd'.2
   ·rcases old j b x hj with⟨q,rfl,rfl⟩ |⟨_,hj⟩
    ·exact⟨H _ (L5 ..) _ (Nat.le_of_eq q.symm),q▸Nat.lt_succ_self _,nd'.1⟩
    ·obtain⟨y1,y2,y3⟩:=D.own j b x hj
     exact⟨y1,Nat.lt_succ_of_lt y2,λ y=>y3 (L7 _ y)⟩
   ·rcases old j b x hj with⟨q,e,_⟩ |⟨q,hj⟩<;>rcases old j' b x' hj' with⟨q',e',_⟩ |⟨q',hj'⟩
    ·rw[q,q']
    ·exact absurd e q'
    ·exact absurd e' q
    ·exact D.inj _ _ _ _ _ hj hj'
theorem fQ{α:Type}{f:α->Nat}{P:Nat->Prop}{l:List α}{a:Nat}(h:∀x∈l,P (f x))(m:a∈l.map f):P a:=by
 obtain⟨x,hx,rfl⟩:=bZ.mp m
 exact h x hx
theorem dR.behind(X:rF Z.E)(D:dR Z s h){z:SI}{g:Gh}(A:cv z g h h')(hL:s.L=z.L)(hi:∀x∈z.idx,s.T.get x.1=some (x.2.1,x.2.2)){T1:MT}{x:MT×Nat}
  (e1:w3 (s.T.mapF (aE g)) z.idx (z.out g).fin=some T1)(e2:ia T1 s.nid (z.out g).new=some x):dR Z (s.aft z g x) h':=by
 have mo:=A.more
 have map:∀j a o,(s.T.mapF (aE g)).get j=some (a,o)->∃o0,s.T.get j=some (a,o0)/\o=aE g a o0:=by
  intro j a o hj
  rw[MT.get_mapF] at hj
  obtain⟨⟨a1,o1⟩,ht,e⟩:=sN.mp hj
  cases e
  exact⟨_,ht,rfl⟩
 have ls:=D.lst
 rw[hL] at ls
 have notL:∀j a o,s.T.get j=some (a,o)->a∉aH z.L:=λ j a o hj hm=>by
  obtain⟨x,hx,rfl⟩:=bZ.mp hm
  exact(ls x hx).2.2.2.2 j o hj
 have p1:=sZ h' (s.T.mapF (aE g)) z.idx (z.out g).fin _ T1 e1 (λ x hx=>⟨_,by rw[MT.get_mapF,hi x hx];rfl⟩) A.fin (λ j a o hj=>by
  obtain⟨o0,hj0,rfl⟩:=map j a o hj
  refine⟨⟨_,hj⟩,?_⟩
  by_cases q:a∈aZ z.idx
  ·obtain⟨x,hx,rfl⟩:=bZ.mp q
   have:=D.inj _ _ _ _ _ hj0 (hi x hx)
   subst this
   exact .inr (bZ.mpr ⟨x,hx,rfl⟩)
  ·exact .inl (A.frame a o0 (D.own j a o0 hj0).1 q (notL j a o0 hj0)))
 have src:∀j a o,T1.get j=some (a,o)->∃o0,s.T.get j=some (a,o0):=λ j a o hj=>
  have⟨o0,h0⟩:=(p1 j a o hj).1
  have⟨o1,h1,_⟩:=map j a o0 h0
  ⟨o1,h1⟩
 have lo:=D.low
 have dm:=ky D.more mo
 have far:∀{b},h.objs.size<=b->Z.h0.objs.size<=b:=ky D.more
 have p2:=l8 (λ j a o=>h'.get? a=some o/\Z.E.n1<=a/\(Z.F a\/Z.h0.objs.size<=a)/\(Z.E.n0<=j->Z.h0.objs.size<=a)) (aH (z.out g).L) (z.out g).new T1 s.nid x e2 ⟨λ j a o hj=>by
   obtain⟨o0,ho⟩:=src j a o hj
   have y:=D.own j a o0 ho
   have lt:=Nat.not_le_of_lt (kz y.1)
   exact⟨⟨(p1 j a o hj).2,y.2.2⟩,y.2.1,λ hm=>(lK.mp hm).elim (λ hm=>fQ (P:=λ b=>¬b=a) (λ x hx q=>lt (q▸(A.new x hx).2.1)) hm rfl) λ hm=>fQ (P:=λ b=>¬b=a) (λ x hx q=>(A.lst x hx).2.2.elim (λ w=>notL j _ _ ho (q▸w)) λ w=>lt (q▸w)) hm rfl⟩,λ j j' a o o' hj hj'=>by
   obtain⟨o1,ho1⟩:=src j a o hj
   obtain⟨o2,ho2⟩:=src j' a o' hj'
   exact D.inj _ _ _ _ _ ho1 ho2⟩ (λ x hx j hj=>
   have y:=A.new x hx
   have f:=far y.2.1
   ⟨y.1,ky lo f,.inr f,λ _=>f⟩) A.nodup
 refine⟨A.size,lo,dm,λ j a o hj=>?_,p2.inj,λ a o ha=>?_,λ x hx=>?_,(f8.mp A.nodup).2.1,λ b o hb hn=>?_⟩
 ·have y:=p2.own j a o hj
  exact⟨y.1.1,y.2.1,y.1.2⟩
 ·have lt:=Nat.not_le_of_lt (X.topLt a o ha)
  have y:=A.frame a o (D.top a o ha) (λ hm=>fQ (P:=λ b=>¬b=a) (λ x hx q=>lt (q▸(D.own _ _ _ (hi x hx)).2.2.1)) hm rfl) (λ hm=>fQ (P:=λ b=>¬b=a) (λ x hx q=>lt (q▸(ls x hx).2.1)) hm rfl)
  unfold aE at y
  rw[X.topFr a o ha] at y
  exact y
 ·have y:=A.lst x hx
  have w:Z.E.n1<=x.1/\(Z.F x.1\/Z.h0.objs.size<=x.1):=y.2.2.elim (fQ (P:=λ b=>Z.E.n1<=b/\(Z.F b\/Z.h0.objs.size<=b)) λ x hx=>⟨(ls x hx).2.1,(ls x hx).2.2.2.1⟩) λ q=>⟨ky lo (far q),.inr (far q)⟩
  exact⟨y.1,w.1,y.2.1,w.2,λ j o hj=>(p2.own j _ o hj).2.2 (bZ.mpr ⟨x,hx,rfl⟩)⟩
 ·refine(D.frame b o hb hn).step λ o1 e1=>?_
  have nF:¬(Z.F b\/Z.h0.objs.size<=b):=λ q=>q.elim hn (Nat.not_le_of_lt (kz hb))
  have na:b∉aZ z.idx:=λ hm=>fQ (P:=λ c=>¬c=b) (λ x hx q=>nF (q▸(D.own _ _ _ (hi x hx)).2.2.2.1)) hm rfl
  have nl:b∉aH z.L:=λ hm=>fQ (P:=λ c=>¬c=b) (λ x hx q=>nF (q▸(ls x hx).2.2.2.1)) hm rfl
  have y:=A.frame b o1 e1 na nl
  cases q:bd o1 with
  |false=>
   unfold aE at y
   rw[q] at y
   exact jh.refl y
  |true=>
   unfold aE at y
   rw[q] at y
   exact⟨_,y,λ w=>w.elim (λ w=>nomatch q.symm.trans w) λ w=>congrArg Obj.slots (L8 (y.symm.trans (A.low b o1 w e1 na nl)))⟩
end
end
section
open PySem.Sem (wp wp_bind' wp_onRaise wp_pure' wp_mono finPost wp_cmd_load)
def Fr.ok(x:Fr):Prop:=eC x.c=true/\x.κ.all NC=true
def pA(Z:Rn):Prop:=∀(o:Nat) (c:Code) (s:ES) (go:Value->ES->RT),Z.Both (y9 Z.E.set1 o c s go)->∀(Γ:Ctx) (R:Result->Shared->Prop) (p:Pos) (h:Heap),dR Z s h->
 (∀v s',Z.Both (go v s')->∀h',dR Z s' h'->R (.ok (.ret v)) (Z.sh s' h'))->wpCode Z.M (Γ.enter c none p) R p (Z.sh s h)
def Rn.IH(Z:Rn)(ih:b8):Prop:=∀x t s,Z.Both (ih x t s)->x.ok->∀h,dR Z s h->Z.T x t (Z.sh s h)
structure Rn.Ok(Z:Rn):Prop where
 x:rF Z.E
 y:AQ Z.prog Z.w Z.E
 p:pA Z
 q:DE Z
section
variable {Z:Rn}{s:ES}{h:Heap}
theorem kH(X:rF Z.E){l:List Env}{f:Addr}(e:pu Z.E.tf l=some f):∃env outer,l++envsOf Z.E.B.below=env::outer/\env.frame=some f:=by
 cases l with
 |nil=>exact X.tf f e
 |cons env l=>exact⟨env,l++envsOf Z.E.B.below,rfl,e⟩
theorem nO(X:rF Z.E){l:List Env}{t:Option Addr}{r:RT}(g:Z.Both (sT Z.E.tf l t r)):(∀f,t=some f->∃env outer,l++envsOf Z.E.B.below=env::outer/\env.frame=some f)/\Z.Both r:=by
 cases t with
 |none=>exact⟨λ f e=>no e,g⟩
 |some f=>exact g.e λ e g=>⟨λ f' q=>q▸kH X e,g⟩
theorem rH(D:dR Z s h):∀{l:List (Nat×Nat×Obj)},gp l=true->(∀x∈l,s.T.get x.1=some (x.2.1,x.2.2))->(aZ l).Nodup:=by
 intro l
 induction l with
 |nil=>exact λ _ _=>List.nodup_nil
 |cons y r ih=>
  intro q hx
  have q:=Bool.and_eq_true_iff.mp q
  refine po.mpr ⟨λ hm=>?_,ih q.2 λ x hm=>hx x (L7 _ hm)⟩
  obtain⟨z,hz,e⟩:=bZ.mp hm
  have h2:=hx _ (L7 _ hz)
  rw[e] at h2
  have h4:=(List.all_eq_true.mp q.1) z hz
  rw[D.inj _ _ _ _ _ h2 (hx _ (L5 ..)),Nat.beq_refl] at h4
  cases h4
theorem qH{a b k l d n m c:Nat}(hd:a<=b+k*l)(hl:l+d<=n)(hr:b+k*n+c<m):a+k*d+c<m:=
 Nat.lt_of_le_of_lt (Nat.add_le_add_right (ky (Nat.add_le_add_right hd _) (by rw[Nat.add_assoc,<-Nat.mul_add];exact Nat.add_le_add_left (Nat.mul_le_mul_left k hl) b)) c) hr
theorem rI(O:Z.Ok)(D:dR Z s h){z:SI}{x:Fr}(hκ:x.κ.all NC=true){go:Result->ES->RT}(hg:∀r s',Z.Both (go r s')->∀h',dR Z s' h'->Z.post x.κ r (Z.sh s' h'))
  (g:Z.Both (full Z.E x z s go)):Z.W x (Z.sh s h):=by
 refine g.e λ hb g=>g.e λ hhd g=>?_
 have hb:=Bool.and_eq_true_iff.mp hb
 have hlen:=L3 hb.1
 obtain⟨hf,r,g⟩:=l7 O.x _ D g
 have D:=D.o r
 obtain⟨hi,g⟩:=rG _ g
 obtain⟨hc,g⟩:=kG O.x D _ g
 obtain⟨ht,g⟩:=nO O.x g
 refine g.e λ o1 g=>g.e λ o2 g=>?_
 obtain⟨o5,g⟩:=g
 have hd:=iD Z.E.B x.κ x.c hκ
 have hu:=gM Z.E.B x.κ x.c
 have ls:=D.lst
 rw[o2] at ls
 refine o5 (bz Z.E.B x.κ x.c) _ x.p h _ (by rw[bP,o1]) (pz Z.E.B O.x.hd x.κ x.c _ hhd) (by unfold w7;rw[iE];exact ht) (by
   unfold FR
   rw[iE]
   exact λ env he=>(lK.mp he).elim (hf env) (qG O.q D hc env)) (qH hd hlen O.x.room) (qH hu hlen O.x.units)
  ⟨ky D.low D.more,D.top,λ x hx=>?_,λ x hx=>?_,f8.mpr ⟨rH D hb.2 hi,o2▸D.lnd,λ a ha b hb q=>?_⟩⟩ λ gh h' ha hA=>?_
 ·have y:=D.own _ _ _ (hi x hx)
  exact⟨y.1,y.2.2.1⟩
 ·have y:=ls x hx
  exact⟨y.1,y.2.1,y.2.2.1⟩
 ·subst q
  obtain⟨x,hx,rfl⟩:=bZ.mp ha
  obtain⟨y,hy,q⟩:=bZ.mp hb
  exact(ls y hy).2.2.2.2 x.1 x.2.2 (by rw[show y.1=x.2.1 from q];exact hi x hx)
 ·exact(g gh ha).t λ T1 e1 g=>g.t λ y e2 g=>hg _ _ g h' (D.behind O.x hA o2 hi e1 e2)
end
end
section
variable {M:Model}{A:Around}{E:Value->Shared->Prop}{s:Shared}{base:Heap}{env env0:Env}{outer:List Env}{f e:Addr}
theorem pC{Q:Value->Shared->Prop}(hfr:A.frames=some (env0::outer))(hl:s.heap.FunFrames base (env0::outer))(h0:env0.frame=some f)(hf:env.frame=some f)
  (h:∀h',Heap.SlotsOnly ((env0::outer).filterMap (·.frame)) s.heap h'->Q (.ref f) {s with heap:=h'}):wpAny M A (frameOf env) Q E s:=by
 have e:frameOf env=frameOf env0:=by
  unfold frameOf
  rw[hf,h0]
 rw[e]
 exact wpAny_frameOf_fun hfr hl h0 h
theorem jG{oe:Obj}{vs:Array Value}{head:Value}{hadNext:Bool}{Q:Unit->Shared->Prop}(hfr:A.frames=some (env0::outer))(hl:s.heap.FunFrames base (env0::outer))(h0:env0.frame=some f)(hf:env.frame=some f)
  (he:s.heap.get? e=some oe)(hd:oe.data= .fields vs)(hsz:1<vs.size)
  (h:∀h₁ pl,Heap.SlotsOnly ((env0::outer).filterMap (·.frame)) s.heap h₁->
   Q () {s with heap:=(h₁.push (dJ head f (rawInt f) pl)).update e (Obj.mapFields (·.setIfInBounds 1 (.ref h₁.objs.size)))}):
  wpAny M A (do let a <-frameOf env;let pl <-entryPlaceOf f hadNext;let b <-EntryCells.newEntry head a .none (rawInt f) .none pl;setField (.ref e) 1 b) Q E s:=by
 have hene:e∉(env0::outer).filterMap (·.frame):=λ hm=>by
  obtain⟨_,o,ho,hnf⟩:=hl.mem hm
  rw[he] at ho;injection ho with ho;subst ho;exact hnf vs hd
 refine aW (pC hfr hl h0 hf λ h₁ hs₁=>?_)
 refine aW (wpAny_entryPlaceOf λ pl hpl=>?_)
 unfold EntryCells.newEntry newFields
 refine aW (wpAny_newObj_type ?_ (hpl.sizeOk5 _ _ _ _ _))
 have he₁:h₁.get? e=some oe:=(hs₁.2.1 e hene).trans he
 have he₂:=Heap.get?_push_of_some (h:=h₁) {cls:=.type "traceback",dict:=none,data:=.fields ([head,.ref f,.none,rawInt f,.none]++(if pl.isEmpty then List.replicate 6 Value.none else pl)).toArray} he₁
 refine wpAny_setField he₂ hd hsz ?_
 exact h h₁ _ hs₁
theorem pD{oe:Obj}{vs:Array Value}{Q:Unit->Shared->Prop}(hfr:A.frames=some (env0::outer))(hl:s.heap.FunFrames base (env0::outer))(h0:env0.frame=some f)(hf:env.frame=some f)
  (he:s.heap.get? e=some oe)(hd:oe.data= .fields vs)(h1:vs[1]? =some .none)
  (h:∀h₁ pl,Heap.SlotsOnly ((env0::outer).filterMap (·.frame)) s.heap h₁->
   Q () {s with heap:=(h₁.push (dJ .none f (rawInt f) pl)).update e (Obj.mapFields (·.setIfInBounds 1 (.ref h₁.objs.size)))}):
  wpAny M A (noteFrame (.ref e) env) Q E s:=by
 unfold noteFrame
 simp only[hf]
 refine aW (wpAny_field he hd h1 ?_)
 rw[if_neg (by decide)]
 exact jG hfr hl h0 hf he hd (Array.getElem?_eq_some_iff.mp h1).1 h
theorem l9{oe ot:Obj}{vs ts:Array Value}{t0:Addr}{Q:Unit->Shared->Prop}(hfr:A.frames=some (env0::outer))(hl:(s.heap.update t0 (Obj.mapFields (·.setIfInBounds 3 .none))).FunFrames base (env0::outer))(h0:env0.frame=some f)(hf:env.frame=some f)
  (he:s.heap.get? e=some oe)(hd:oe.data= .fields vs)(h1:vs[1]? =some (.ref t0))(ht:s.heap.get? t0=some ot)(hdt:ot.data= .fields ts)(h3:ts[3]? =some .none)(hne:t0≠e)
  (h:∀h₁ pl,Heap.SlotsOnly ((env0::outer).filterMap (·.frame)) (s.heap.update t0 (Obj.mapFields (·.setIfInBounds 3 .none))) h₁->
   Q () {s with heap:=(h₁.push (dJ (.ref t0) f (rawInt f) pl)).update e (Obj.mapFields (·.setIfInBounds 1 (.ref h₁.objs.size)))}):
  wpAny M A (noteFrame (.ref e) env) Q E s:=by
 unfold noteFrame
 simp only[hf]
 refine aW (wpAny_field he hd h1 ?_)
 rw[if_pos (show(Value.ref t0 != Value.none)=true from by simp)]
 refine aW (wpAny_field ht hdt h3 ?_)
 rw[if_neg (show¬((Value.none == rawInt f)=true) from by simp[rawInt])]
 refine aW (wpAny_setField ht hdt (Array.getElem?_eq_some_iff.mp h3).1 ?_)
 have other:∀b,b≠t0->(s.heap.update t0 (Obj.mapFields (·.setIfInBounds 3 Value.none))).get? b=s.heap.get? b:=λ b hb=>Heap.get?_update_other _ _ (Ne.symm hb)
 exact jG (base:=base) hfr hl h0 hf ((other e (Ne.symm hne)).trans he) hd (Array.getElem?_eq_some_iff.mp h1).1 h
theorem rJ{oe ot:Obj}{vs ts:Array Value}{t0:Addr}{Q:Unit->Shared->Prop}(hf:env.frame=some f)
  (he:s.heap.get? e=some oe)(hd:oe.data= .fields vs)(h1:vs[1]? =some (.ref t0))(ht:s.heap.get? t0=some ot)(hdt:ot.data= .fields ts)(h3:ts[3]? =some (rawInt f))(h:Q () s):
  wpAny M A (noteFrame (.ref e) env) Q E s:=by
 unfold noteFrame
 simp only[hf]
 refine aW (wpAny_field he hd h1 ?_)
 rw[if_pos (show(Value.ref t0 != Value.none)=true from by simp)]
 refine aW (wpAny_field ht hdt h3 ?_)
 rw[if_pos (show(rawInt f == rawInt f)=true from by simp)]
 exact cp h
theorem nP{oe ot:Obj}{vs ts:Array Value}{t0:Addr}{Q:Unit->Shared->Prop}(he:s.heap.get? e=some oe)(hd:oe.data= .fields vs)(h1:vs[1]? =some (.ref t0))
  (ht:s.heap.get? t0=some ot)(hdt:ot.data= .fields ts)(hsz:3<ts.size)(h:Q () {s with heap:=s.heap.update t0 (Obj.mapFields (·.setIfInBounds 3 .none))}):
  wpAny M A (setFlight (.ref e) none) Q E s:=by
 unfold setFlight
 refine aW (wpAny_field he hd h1 ?_)
 rw[if_pos (show(Value.ref t0 != Value.none)=true from by simp)]
 exact wpAny_setField ht hdt hsz h
theorem s3{x:Value}{Q:Unit->Shared->Prop}(h:Q () s):wpAny M A (theTreesLotGoes x) Q E s:=wpAny_theTreesLotGoes h
end
section
open PySem.Sem (wp wp_bind' wp_onRaise wp_pure' wp_mono finPost wp_cmd_load)
def bn(h:Heap)(b:Addr):Array (Option Value):=match h.get? b with
 |some o=>o.slots
 |none=> #[]
theorem dR.slots{Z:Rn}{h h₁:Heap}{s:ES}(X:rF Z.E)(D:dR Z s h){S:List Addr}(hs:Heap.SlotsOnly S h h₁)(hS:∀b∈S,Aq h b){g:Gh}(hg:g.sl=bn h₁):dR Z (s.sl g) h₁:=by
 have key:∀b o,h.get? b=some o->h₁.get? b=some (aE g b o)/\(bd o=false\/b<822->aE g b o=o):=by
  intro b o hb
  have out:bd o=false\/b<822->h₁.get? b=some o:=λ w=>(hs.2.1 b λ hm=>by
   obtain⟨o',h1,h2,_,h3⟩:=hS b hm
   cases L8 (hb.symm.trans h1)
   exact w.elim (λ q=>nomatch q.symm.trans h2) (Nat.not_lt_of_le h3)).trans hb
  cases q:bd o with
  |true=>
   obtain⟨sl,e⟩:=hs.2.2 b o hb
   have e2:aE g b o={o with slots:=sl}:=by
    unfold aE
    rw[q,hg]
    unfold bn
    rw[e]
   rw[e2]
   exact⟨e,λ w=>L8 (e.symm.trans (out (.inr (w.elim (λ q'=>nomatch q') id))))⟩
  |false=>
   have e2:aE g b o=o:=by unfold aE;rw[q]
   rw[e2]
   exact⟨out (.inl q),λ _=>rfl⟩
 have same:∀b o,h.get? b=some o->bd o=false->h₁.get? b=some o:=λ b o hb q=>by
  have y:=key b o hb
  rw[y.2 (.inl q)] at y
  exact y.1
 have map:∀j a o,(s.sl g).T.get j=some (a,o)->∃o0,s.T.get j=some (a,o0)/\o=aE g a o0:=by
  intro j a o hj
  have hj:(s.T.mapF (aE g)).get j=some (a,o):=hj
  rw[MT.get_mapF] at hj
  obtain⟨⟨a1,o1⟩,ht,e⟩:=sN.mp hj
  cases e
  exact⟨_,ht,rfl⟩
 refine⟨by rw[hs.1];exact D.size,D.low,by rw[hs.1];exact D.more,λ j a o hj=>?_,λ j j' a o o' hj hj'=>?_,λ a o ha=>same a o (D.top a o ha) (X.topFr a o ha),λ x hx=>?_,D.lnd,λ b o hb hn=>?_⟩
 ·obtain⟨o0,e,rfl⟩:=map j a o hj
  have y:=D.own j a o0 e
  exact⟨(key a o0 y.1).1,y.2⟩
 ·obtain⟨o0,e,_⟩:=map j a o hj
  obtain⟨o1,e1,_⟩:=map j' a o' hj'
  exact D.inj _ _ _ _ _ e e1
 ·obtain⟨y1,y2,y3,y4,y5⟩:=D.lst x hx
  refine⟨same _ _ y1 y3,y2,y3,y4,λ i ob hi=>?_⟩
  obtain⟨o0,e,_⟩:=map _ _ _ hi
  exact y5 _ _ e
 ·refine(D.frame b o hb hn).step λ o1 e1=>?_
  have y:=key b o1 e1
  cases q:bd o1 with
  |false=>rw[y.2 (.inl q)] at y;exact jh.refl y.1
  |true=>
   unfold aE at y
   rw[q] at y
   exact⟨_,y.1,λ w=>congrArg Obj.slots (y.2 (w.imp_left q.symm.trans))⟩
theorem mI{h base:Heap}(hb:∀a,base.get? a=none)(l:List Env)(H:∀env∈l,AP h env):h.FunFrames base l:=by
 induction l with
 |nil=>exact trivial
 |cons env l ih=>
  obtain⟨h1,f,h2,o,h3,_,h4,_⟩:=H env (L5 ..)
  refine⟨h1,⟨f,o,h2,hb f,h3,λ vs q=>?_⟩,ih λ e he=>H e (L7 _ he)⟩
  unfold kA at h4
  rw[q] at h4
  cases h4
noncomputable def eU(Γ:Ctx):Around:={handled:=Γ.handled,depth:=frameCount Γ.below,frames:=some (envsOf Γ.below),guards:=some (guardsOf Γ.below),units:=unitsOf Γ.below}
theorem bG(Γ:Ctx):Γ.Below (eU Γ):=⟨rfl,Nat.le_refl _,λ l h=>by injection h,λ g h=>by injection h,Nat.le_refl _⟩
noncomputable def jj:Heap:={objs:= #[]}
theorem pE(a:Addr):jj.get? a=none:=by
 cases q:jj.get? a with
 |none=>rfl
 |some o=>exact absurd (kz q) (Nat.not_lt_zero _)
end
section
open PySem.Sem (wp wp_bind' wp_onRaise wp_pure' wp_mono finPost wp_cmd_load)
def dy(prog:Program)(w:World)(T:String):Prop:=∀(A:Around) (E:Value->Shared->Prop) (s:Shared) (Q:Value->Shared->Prop) (i:Addr),s.TypeIs (.ref i) T->Q (.ref i) s->wpAny (model prog w) A (pyIter (.ref i)) Q E s
section
variable {prog:Program}{w:World}
theorem gO{T id:String}{B:Builtin}{r:Value}(slot:Slot T "__iter__" id)(mc:entryFor table id=some B)(args:∀i:Addr,argsOk id ⟨[.ref i],[]⟩)(hB:∀i:Addr,B ⟨[.ref i],[]⟩=ret (.ref i))
  (next:typeLookup (.type T) "__next__"=pure (some r)):dy prog w T:=λ A E s Q i hT h=>
 wpAny_pyIter_slot hT slot (wpAny_call_entry slot hT mc (by rw[hB];exact cp ⟨_,rfl,T,r,hT,next,h⟩) (args i))
theorem rK:dy prog w "list_iterator":=gO slot_listiter_iter entry_listiter_iter (λ i=>args_listiter_iter _) (λ _=>rfl) slot_listiter_next.lookup
theorem pF:dy prog w "tuple_iterator":=gO PySem.F.slot_tuple_iterator_iter PySem.F.entry_tuple_iterator_iter (λ i=>PySem.F.args_tuple_iterator_iter_1 _) (λ _=>rfl) PySem.F.slot_tuple_iterator_next.lookup
theorem pG:dy prog w "range_iterator":=gO PySem.F.slot_range_iterator_iter PySem.F.entry_range_iterator_iter (λ i=>PySem.F.args_range_iterator_iter_1 _) (λ _=>rfl) PySem.F.slot_range_iterator_next.lookup
theorem s4:dy prog w "zip":=gO PySem.F.slot_zip_iter PySem.F.entry_zip_iter (λ i=>PySem.F.args_zip_iter_1 _) (λ _=>rfl) PySem.F.slot_zip_next.lookup
theorem s5:dy prog w "str_ascii_iterator":=gO PySem.F.slot_str_ascii_iterator_iter PySem.F.entry_str_ascii_iterator_iter (λ i=>PySem.F.args_str_ascii_iterator_iter_1 _) (λ _=>rfl) PySem.F.slot_str_ascii_iterator_next.lookup
theorem rL:dy prog w "enumerate":=gO PySem.F.slot_enumerate_iter PySem.F.entry_enumerate_iter (λ i=>PySem.F.args_enumerate_iter_1 _) (λ _=>rfl) PySem.F.slot_enumerate_next.lookup
theorem kI{T:String}(hs:dy prog w T){Γ:Ctx}{e:Expr}{x:Expr×Comprehension×List Comprehension×Scope×Pos}{i:Addr}{acc:Value}{env:Env}{R:Result->Shared->Prop}{p:Pos}{s:Shared}{A:Around}
  (hx:e= .ListComp x.1 (x.2.1::x.2.2.1) x.2.2.2.1 x.2.2.2.2)(h0:x.2.1.is_async=0)(hA:Γ.In A)(hc:Γ.code= .compStart e 0 (.ref i) acc env)
  (hT:s.TypeIs (.ref i) T)(h:∀p',wpCode (model prog w) (Γ.goto (.compLoop e 0 (.ref i) acc env)) R p' s):wpCode (model prog w) Γ R p s:=by
 obtain⟨elt,⟨target,iter,ifs,as⟩,rest,scope,pos⟩:=x
 have h0:as=0:=h0
 subst hx h0
 rw[B',hc]
 show wp _ Γ ((compStart (.ListComp elt (⟨target,iter,ifs,0⟩::rest) scope pos) 0 (.ref i) acc env).onRaise (λ x=>do noteFrame x env;standAt theWindowsPlace)) _ _ p s
 have z:wpAny (model prog w) A (compStart (.ListComp elt (⟨target,iter,ifs,0⟩::rest) scope pos) 0 (.ref i) acc env)
   (λ fin s'=>match fin with | .done f=>R (.ok f) s' | .again c'=>c'.quiet=true/\∀p',wpCode (model prog w) (Γ.goto c') R p' s') (λ _ _=>False) s:=by
  unfold compStart
  show wpAny _ _ (ask >>=_) _ _ s
  refine aW (wpAny_askSetting (wpAny_ite ?_))
  split
  ·first
    |exact aW (cp (cp (And.intro rfl h)))
    |exact cp (And.intro rfl h)
  ·first
    |exact aW (wpAny_rule (aW (wpAny_standAt (aW (hs _ _ _ _ i hT (cp (And.intro rfl h)))))))
    |(refine aW (wpAny_rule ?_);show wpAny _ _ (standAt iter.pos >>=_) _ _ s;exact aW (wpAny_standAt (aW (hs _ _ _ _ i hT (cp (And.intro rfl h))))))
 rw[wp_onRaise]
 refine wp_mono _ Γ _ (λ fin p' s' h'=>?_) (λ e p' s' h'=>(show False from h').elim) p s (z Γ p hA)
 cases fin with
 |done f=>exact h'
 |again c'=>exact⟨h'.1,h'.2 p'⟩
end
end
section
open PySem.Sem (wp wp_bind' wp_onRaise wp_pure' wp_mono finPost wp_cmd_load)
def Ar(h:Heap)(l:List Value)(p:Pos):Gh:=⟨λ _=>0,[],λ _=>.none,λ _=>0,bn h,λ _=>l,λ _=>p⟩
theorem ft{P:Prop}(h:false=true):P:=nomatch h
theorem w8{c:Code}{y:Expr×Nat×Value×Value×Env}(e:DB c=some y):c= .compStart y.1 y.2.1 y.2.2.1 y.2.2.2.1 y.2.2.2.2:=by
 cases c<;>first |exact no e |(cases e;rfl)
theorem w9{c:Code}{args:Args}(e:DC c=some args):c= .builtin "list.__iadd__" args:=by
 cases c<;>first |exact no e |skip
 rename_i id a
 have e:(match id == "list.__iadd__" with |true=>some a |false=>none)=some args:=e
 cases q:id == "list.__iadd__" with
 |true=>rw[q] at e;cases e;rw[eq_of_beq q]
 |false=>rw[q] at e;exact no e
theorem w'{Z:Rn}{e:Expr}{f:Expr×Comprehension×List Comprehension×Scope×Pos->RT}{P:Prop}(g:Z.Both (DD (ek e) f))(k:∀x,e= .ListComp x.1 (x.2.1::x.2.2.1) x.2.2.2.1 x.2.2.2.2->Z.Both (f x)->P):P:=by
 have z:=qB e
 generalize ek e=y at z g
 cases y<;>first |exact g.elim |exact k _ z g
theorem xa{i:Nat}{v:Value}{P:Prop}(h:(#[]:Array Value)[i]? =some v):P:=by cases h
theorem dg{o:Obj}{i:Nat}{v:Value}(h:(hW o)[i]? =some v):o.data= .fields (hW o):=by
 obtain⟨c,d,x,sl⟩:=o
 cases x<;>first |exact xa h |rfl
theorem mJ(g:Gh)(a:Nat)(o:Obj):(aE g a o).data=o.data:=by
 unfold aE
 cases bd o<;>rfl
theorem s7(env:Env)(lv:Bool)(e:Value):qF env lv e=(noteFrame e env).bind λ _=>match lv with |true=>setFlight e none |false=>theTreesLotGoes e:=by cases lv<;>rfl
section
variable {Z:Rn}(O:Z.Ok){ih:b8}(H:Z.IH ih){x:Fr}{s:ES}{h:Heap}(hκ:x.κ.all NC=true)(D:dR Z s h)
include H D
theorem eH{κ:List KF}(hκ:κ.all NC=true){r:Result}(g:Z.Both (nH ih r κ s)):Z.post κ r (Z.sh s h):=by
 cases κ with
 |nil=>exact g h D
 |cons f κ=>
  obtain⟨k,hd,c,p,m⟩:=f
  exact H ⟨c,p,m,κ⟩ (k r) s g (Bool.and_eq_true_iff.mp hκ) h D
include O hκ
theorem jH(g:Z.Both (pq Z.E ih x s)):Z.W x (Z.sh s h):=g.e λ q g=>(B' ..).mpr (by
 rw[bP]
 exact g.oe (λ _ g=>by
  have z:=H ⟨x.c,x.p,none,x.κ⟩ _ s g ⟨q,hκ⟩ h D
  rw[O.x.den] at z
  exact z) λ a e g=>nN (O.x.inner▸e) (H ⟨x.c,x.p,some a.2,x.κ⟩ a.1 s g ⟨q,hκ⟩ h D))
theorem kJ(g:Z.Both (enter Z.E ih x s)):Z.W x (Z.sh s h):=by
 refine g.oe (λ _ g=>g.oe (λ _ g=>jH O H hκ D g) λ args e g=>?_) λ y e g=>?_
 ·have e:=w9 e
  refine g.p λ j r g=>g.p λ j' r' g=>g.l λ a o ha g=>g.l λ b o' hb g=>g.e λ hj g=>g.e λ ea g=>(B' ..).mpr ?_
  have z:=H ⟨x.c,x.p,none,x.κ⟩ _ _ g ⟨by rw[e];exact of_decide_eq_true rfl,hκ⟩ h ((D.o r).o r')
  rw[O.x.iadd a b λ q=>ft (hj.symm.trans (D.inj _ _ _ _ _ ha (q▸hb)▸Nat.beq_refl j)),<-ea,<-e] at z
  rw[bP]
  exact z
 ·have e:=w8 e
  refine g.p λ j r g=>g.l λ a o ha g=>g.e λ e1 g=>g.e λ e2 g=>g.e λ e3 g=>g.e λ e4 g=>w' g λ z e5 g=>g.e λ e6 g=>?_
  rw[e1,e4] at e
  refine kI (T:=rD o) (all_cons rK (all_cons pF (all_cons pG (all_cons s4 (all_cons s5 (all_cons rL cb))))) _ (List.elem_iff.mp e3))
   e5 e6 ((bG _).in) ((bP ..).trans e) ⟨o,(D.own _ _ _ ha).1,e2⟩ λ p'=>?_
  rw[l6]
  exact jH (x:=⟨_,p',none,x.κ⟩) (s:=(s.o r).g (Ar jj [] p')) O H hκ ((D.o r).g (Ar jj [] p')) (g (Ar jj [] p') trivial)
omit H hκ in
theorem ib{je:Nat}{a:Addr}{oe:Obj}{vs:Array Value}(hje:s.T.get je=some (a,oe))(hd:oe.data= .fields vs){head:Value}{f:Addr}{go:Gh->ES->RT}{env:Env}{S:Shared}
  (note:∀(A:Around) (env0:Env) (outer:List Env) (Q:Unit->Shared->Prop) (E':Value->Shared->Prop),A.frames=some (env0::outer)->h.FunFrames jj (env0::outer)->env0.frame=some f->
   (∀h₁ pl,Heap.SlotsOnly ((env0::outer).filterMap (·.frame)) h h₁->Q () {S with heap:=(h₁.push (dJ head f (rawInt f) pl)).update a (lX h₁.objs.size)})->wpAny Z.M A (noteFrame (.ref a) env) Q E' S)
  (g:Z.Both (qE Z.E x je head f s go)){W:Pos->Shared->Prop}(p:Pos)
  (k:∀g r h',dR Z ((s.o r).tb je head f g) h'->Z.Both (go g ((s.o r).tb je head f g))->((s.o r).tb je head f g).T.get s.nid=some (s.nx,dJ head f (rawInt f) (g.vl 0))->
   (∃o',h'.get? a=some o'/\o'.data= .fields (vs.setIfInBounds 1 (.ref s.nx)))->W (g.pos 0) {S with heap:=h'}):
  wp Z.M (bz Z.E.B x.κ x.c) (noteFrame (.ref a) env) (λ _ p' s'=>W p' s') (λ _ _ _=>False) p S:=by
 refine g.e λ e1 g=>?_
 obtain⟨env0,outer,hout,hf0⟩:=kH O.x e1
 obtain⟨hf,r,g⟩:=l7 O.x _ D g
 have lt:je<s.nid:=(D.own je a oe hje).2.1
 have D:=D.o r
 obtain⟨hc,g⟩:=kG O.x D _ g
 have fr:∀env∈env0::outer,AP h env:=by
  rw[<-hout]
  exact λ env he=>(lK.mp he).elim (hf env) (qG O.q D hc env)
 have hfr:((eU (bz Z.E.B x.κ x.c)).under (bz Z.E.B x.κ x.c).code).frames=some (env0::outer):=by
  show pushEnvs (bz Z.E.B x.κ x.c).code.envs (some (envsOf (bz Z.E.B x.κ x.c).below))=_
  rw[pushEnvs_eq,bP,iE,<-hout,L9]
  rfl
 refine wp_mono _ _ _ (λ _ p' s' h'=>h' p') (λ _ _ _ h'=>h') p _ (note ((eU (bz Z.E.B x.κ x.c)).under (bz Z.E.B x.κ x.c).code) env0 outer (λ _ s'=>∀p',W p' s') (λ _ _=>False) hfr (mI pE _ fr) hf0 (λ h₁ pl hs p'=>?_) (bz Z.E.B x.κ x.c) p (bG _).in)
 have D1:=D.slots O.x hs (λ b hb=>by
  obtain⟨en,he,q⟩:=List.mem_filterMap.mp hb
  obtain⟨_,f,h2,h3⟩:=fr en he
  cases L8 (q.symm.trans h2)
  exact h3) (g:=Ar h₁ pl p') rfl
 have g:=g (Ar h₁ pl p') trivial
 revert D1 g
 generalize hgh:Ar h₁ pl p'=gh
 intro D1 g
 have egp:pl=gh.vl 0:=by rw[<-hgh];rfl
 have ego:p'=gh.pos 0:=by rw[<-hgh];rfl
 rw[egp,ego]
 refine g.e λ e2 g=>?_
 have D2:=D1.new (o:=dJ head f (rawInt f) (gh.vl 0)) rfl e2
 have gi:=MT.get_ins s.nx (dJ head f (rawInt f) (gh.vl 0)) (s.T.mapF (aE gh)) s.nid e2
 have gje:((s.o r).tb0 head f gh).T.get je=some (a,aE gh a oe):=by
  show((s.T.mapF (aE gh)).ins s.nid s.nx (dJ head f (rawInt f) (gh.vl 0))).get je=_
  rw[gi,if_neg (Nat.ne_of_lt lt),MT.get_mapF,hje]
  rfl
 have gn:((s.o r).tb0 head f gh).T.get s.nid=some (s.nx,dJ head f (rawInt f) (gh.vl 0)):=(gi s.nid).trans (if_pos rfl)
 have fd:(lX s.nx (aE gh a oe)).data= .fields (vs.setIfInBounds 1 (.ref s.nx)):=Obj.data_mapFields ((mJ ..).trans hd) _
 have D3:=D2.up O.x gje (f:=lX s.nx) (Obj.isFreed_of_fields fd)
 have hsz:h₁.objs.size=s.nx:=hs.1.trans D.size
 rw[hsz]
 refine k gh r _ D3 g ?_ ⟨_,(D3.own je a _ ?_).1,fd⟩
 ·show(((s.o r).tb0 head f gh).T.set je (lX s.nx)).get s.nid=_
  rw[MT.get_set,if_neg (Nat.ne_of_gt lt)]
  exact gn
 ·show(((s.o r).tb0 head f gh).T.set je (lX s.nx)).get je=_
  rw[MT.get_set,if_pos rfl,gje]
  rfl
theorem nQ{lv:Bool}{j b a:Addr}{ot oe:Obj}{ts vs:Array Value}(hj:s.T.get j=some (b,ot))(hdt:ot.data= .fields ts)(hsz:3<ts.size)(he:h.get? a=some oe)(hd:oe.data= .fields vs)(h1:vs[1]? =some (.ref b))
  (g:Z.Both (fly ih lv (.ref a) x.κ j s))(p:Pos):wp Z.M (bz Z.E.B x.κ x.c) (match lv with |true=>setFlight (.ref a) none |false=>theTreesLotGoes (.ref a)) (λ _ _ s'=>Z.post x.κ (.error (.ref a)) s') (λ e' _ s'=>Z.post x.κ (.error e') s') p (Z.sh s h):=by
 have inA:=(bG (bz Z.E.B x.κ x.c)).in
 cases lv with
 |true=>exact nP (s:=Z.sh s h) he hd h1 (D.own _ _ _ hj).1 hdt hsz (E:=λ e' s'=>Z.post x.κ (.error e') s') (Q:=λ _ s'=>Z.post x.κ (.error (.ref a)) s') (eH H (D.up O.x hj (f:=jF) (Obj.isFreed_of_fields (Obj.data_mapFields hdt _))) hκ g) _ p inA
 |false=>exact s3 (s:=Z.sh s h) (E:=λ e' s'=>Z.post x.κ (.error e') s') (Q:=λ _ s'=>Z.post x.κ (.error (.ref a)) s') (eH H D hκ g) _ p inA
theorem pH{env:Env}{lv:Bool}{e:Value}(g:Z.Both (pw Z.E ih env lv e x s))(p:Pos):
  wp Z.M (bz Z.E.B x.κ x.c) (qF env lv e) (λ _ _ s'=>Z.post x.κ (.error e) s') (λ e' _ s'=>Z.post x.κ (.error e') s') p (Z.sh s h):=by
 refine g.t λ f ef g=>g.p λ mode r1 g=>g.p λ je r2 g=>g.l λ a o hje g=>g.e λ ee g=>?_
 subst ee
 rw[s7,Sem.wp_bind]
 have D:=(D.o r1).o r2
 have own:=(D.own _ _ _ hje).1
 have after:∀{s:ES} {hT:Heap} {head:Value} (vs:Array Value) (hv:1<vs.size) {go:Gh->ES->RT},(∀g s',go g s'=fly ih lv (.ref a) x.κ s.nid s')->∀g r h',dR Z ((s.o r).tb je head f g) h'->Z.Both (go g ((s.o r).tb je head f g))->((s.o r).tb je head f g).T.get s.nid=some (s.nx,dJ head f (rawInt f) (g.vl 0))->
   (∃o',h'.get? a=some o'/\o'.data= .fields (vs.setIfInBounds 1 (.ref s.nx)))->wp Z.M (bz Z.E.B x.κ x.c) (match lv with |true=>setFlight (.ref a) none |false=>theTreesLotGoes (.ref a)) (λ _ _ s'=>Z.post x.κ (.error (.ref a)) s') (λ e' _ s'=>Z.post x.κ (.error e') s') (g.pos 0) {(Z.sh s hT) with heap:=h'}:=by
  intro s hT head vs hv go eg g r h' D3 g3 gn ho
  obtain⟨o',h1,h2⟩:=ho
  rw[eg] at g3
  exact nQ O H hκ D3 gn rfl (by simp) h1 h2 (by simp[hv]) g3 _
 have big:∀{t:Sem Unit} {Q:Unit->Pos->Shared->Prop} {E':Value->Pos->Shared->Prop} {S:Shared},wp Z.M (bz Z.E.B x.κ x.c) t Q (λ _ _ _=>False) p S->wp Z.M (bz Z.E.B x.κ x.c) t Q E' p S:=λ w=>wp_mono _ _ _ (λ _ _ _ h=>h) (λ _ _ _ h=>h.elim) p _ w
 refine g.c (λ g=>g.e λ hv g=>?_) λ g=>g.p λ jt r3 g=>g.l λ b ot hjt g=>g.e λ hv g=>g.e λ hnj g=>?_
 ·have hd:=dg hv
  exact big (ib O D hje hd (S:=Z.sh s h) (λ A env0 outer Q E' hfr hl h0' hh=>pD hfr hl h0' ef own hd hv hh) g p (after _ (Array.getElem?_eq_some_iff.mp hv).1 λ _ _=>rfl))
 ·have hd:=dg hv
  have own2:=(D.own _ _ _ hjt).1
  have hne:jt≠je:=Nat.ne_of_beq_eq_false hnj
  refine g.c (λ g=>g.e λ h3 g=>?_) λ g=>g.e λ h3 g=>?_
  ·have hd3:=dg h3
   have DT:=(D.o r3).up O.x hjt (f:=jF) (Obj.isFreed_of_fields (Obj.data_mapFields hd3 _))
   exact big (ib O DT (by show(s.T.set jt jF).get je=_;rw[MT.get_set,if_neg (Ne.symm hne)];exact hje) hd (S:=Z.sh s h) (λ A env0 outer Q E' hfr hl h0' hh=>l9 hfr hl h0' ef own hd hv own2 hd3 h3 (λ q=>hne (D.inj _ _ _ _ _ hjt (q▸hje))) hh) g p (after _ (Array.getElem?_eq_some_iff.mp hv).1 λ _ _=>rfl))
  ·have hd3:=dg h3
   exact rJ (s:=Z.sh s h) (Q:=λ _ s'=>∀p,wp Z.M (bz Z.E.B x.κ x.c) _ _ _ p s') ef own hd hv own2 hd3 h3 (λ p=>nQ O H hκ (D.o r3) hjt hd3 (Array.getElem?_eq_some_iff.mp h3).1 own hd hv g p) _ p (bG _).in |> wp_mono _ _ _ (λ _ p' _ h=>h p') (λ _ _ _ h=>h) p _
theorem rM(hc:eC x.c=true){a:Addr}{t:Sem Fin}{je:Nat}(g:Z.Both (yj Z.E ih x a t je s)):Z.T x t (Z.sh s h):=by
 refine g.p λ i r1 g=>g.p λ jt r2 g=>g.l λ b o hje g=>g.l λ t0 ot hjt g=>g.t λ env _ g=>g.t λ f ef g=>g.t λ K _ g=>g.e λ e1 g=>g.e λ hv g=>g.e λ h3 g=>g.e λ hnj g=>g.e λ et g=>?_
 have D:=(D.o r1).o r2
 have hje:s.T.get je=some (a,o):=by rw[e1];exact hje
 have hd:=dg hv
 have hd3:=dg h3
 have hne:jt≠je:=Nat.ne_of_beq_eq_false hnj
 rw[et,<-R.bindR_eq,O.x.note]
 have DT:=D.up O.x hjt (f:=jF) (Obj.isFreed_of_fields (Obj.data_mapFields hd3 _))
 have z:=ib O DT (by show(s.T.set jt jF).get je=_;rw[MT.get_set,if_neg (Ne.symm hne)];exact hje) hd (S:=Z.sh s h) (λ A env0 outer Q E' hfr hl h0' hh=>l9 hfr hl h0' ef (D.own _ _ _ hje).1 hd hv (D.own _ _ _ hjt).1 hd3 h3 (λ q=>hne (D.inj _ _ _ _ _ hjt (q▸hje))) hh) g x.p
  (W:=λ p' s'=>Z.T {x with p:=p'} K s') λ g r h' D3 g3 _ _=>H {x with p:=g.pos 0} K _ g3 ⟨hc,hκ⟩ h' D3
 show wp _ _ (Sem.bind (noteFrame (.ref a) env) λ _=>K) _ _ _ _
 rw[Sem.wp_bind]
 exact wp_mono _ _ _ (λ _ _ _ h=>h) (λ _ _ _ h=>h.elim) _ _ z
theorem pI(hl:x.κ.length<=Z.E.nb+1)(g:Z.Both (plain Z.E ih x s)):Z.W x (Z.sh s h):=by
 refine g.e λ e1 g=>g.t λ o eo g=>g.t λ fd _ g=>g.e λ e2 g=>g.e λ e3 g=>g.t λ oc eoc g=>g.t λ v ev g=>g.t λ q _ g=>g.e λ e4 g=>g.e λ e6 g=>?_
 have hc:eC x.c=true:=by rw[e1];rfl
 have z:=H ⟨x.c,x.p,none,x.κ⟩ _ s g ⟨hc,hκ⟩ h D
 rw[O.x.py] at z
 have hd:=iD Z.E.B x.κ x.c hκ
 have hr:=O.x.room
 have hw:=l3 x.c hc
 exact sX ((bP ..).trans e1) (D.top _ _ (eo.trans (congrArg some e2))) e3 ⟨_,oc,hW oc,q.2,e4,D.top _ _ eoc,dg ev,ev.trans (congrArg some e6)⟩ (by rw[bP];omega) z
theorem rN{y:SX}(g:Z.Both (yi Z.E x (λ r s=>nH ih r x.κ s) y s)):Z.W x (Z.sh s h):=by
 cases y with
 |full z=>exact rI O D hκ (λ r s' g h' D'=>eH H D' hκ g) g
 |dict=>exact g.elim
 |pure z=>
  refine g.e λ hl g=>g.e λ ec g=>?_
  have hl:x.κ.length<=Z.E.nb:=L3 hl
  have hd:=iD Z.E.B x.κ x.c hκ
  have hu:=gM Z.E.B x.κ x.c
  have hr:=O.x.room
  have hv:=O.x.units
  refine g.1 (bz Z.E.B x.κ x.c) _ x.p h _ ((bP ..).trans ec) (by omega) (by omega) ?_
  rw[Nat.add_assoc]
  exact eH H (D.fr z.i) hκ g.2
theorem qI{b:Bool}(hb:b=true->∃Γ:Ctx,bz Z.E.B x.κ x.c=Γ.enter x.c none x.p)(g:Z.Both (CC Z.E ih x b s)):Z.W x (Z.sh s h):=
 g.c (λ g=>g.p λ o r g=>g.c (kJ O H hκ (D.o r)) λ g=>g.c (λ g=>g.e λ hl g=>pI (s:=s.o r) O H hκ (D.o r) (L3 hl) g) λ g=>g.c (λ g=>g.px λ y q g=>rN (s:=(s.o r).x q) O H hκ ((D.o r).x q) g) λ g=>g.e λ e g=>by
  obtain⟨Γ,eΓ⟩:=hb e
  unfold Rn.W
  rw[eΓ]
  exact O.p o x.c _ _ g Γ _ x.p h (D.o r) λ v s' g h' D'=>eH H D' hκ g) (kJ O H hκ D)
theorem kK(g:Z.Both (pv Z.E ih x s)):x.c.quiet=true/\Z.W x (Z.sh s h):=g.e λ q g=>⟨q,qI O H hκ D ft g⟩
omit hκ in
theorem rO(hx:x.ok){t:Sem Fin}(g:Z.Both (yk Z.E ih x t s)):Z.T x t (Z.sh s h):=by
 have hκ:=hx.2
 cases t with
 |pure fin=>
  cases fin with
  |done f=>exact eH H D hκ g
  |again c'=>
   have z:=kK (x:=⟨c',x.p,none,x.κ⟩) O H hκ D g
   show c'.quiet=true/\wpCode _ ((bz Z.E.B x.κ x.c).goto c') _ x.p _
   rw[l6]
   exact z
 |raise e=>
  have z:∀m:w0,Z.Both (Ao m (nH ih (.error e) x.κ s) λ m=>pw Z.E ih m.1 m.2 e x s)->Z.tree (bz Z.E.B x.κ x.c) m (Z.post x.κ) (.raise e) x.p (Z.sh s h):=λ m g=>by
   cases m with
   |none=>exact eH H D hκ g
   |some m=>exact pH O H hκ D g _
  exact z x.m g
 |rule tag k=>exact H x (k ()) s g hx h D
 |«at» q k=>exact H {x with p:=q} (k ()) s g hx h D
 |point l k=>exact H x (k ()) s g hx h D
 |ask k=>
  refine g.e λ o1 g=>g.e λ o2 g=>?_
  have e:k ⟨Z.prog,Z.w.2⟩=k Z.E.set1:=by
   rw[<-O.y.p,o2]
   exact O.y.r.elim (congrArg k) λ q=>(congrArg k q).trans o1.symm
  show Z.T x (k ⟨Z.prog,Z.w.2⟩) _
  rw[e]
  exact H x (k Z.E.set1) s g hx h D
 |load a part k=>
  refine g.p λ o r g=>g.c (λ g=>g.t λ ob e g=>⟨ob,D.top a ob e,H x (k ob) _ g hx h (D.o r)⟩) λ g=>g.c (λ g=>rM O H hκ (D.o r) hx.1 g) λ g=>g.c (λ g=>g.p λ jt r2 g=>g.l λ b o h1 g=>g.l λ bt ot h2 g=>g.e λ e1 g=>g.e λ e2 g=>g.e λ e3 g=>?_)
   λ g=>g.l λ b ob e g=>g.e λ e1 g=>⟨ob,e1▸(D.own _ _ _ e).1,H x (k ob) _ g hx h (D.o r)⟩
  refine⟨o,e1▸(D.own _ _ _ h1).1,?_⟩
  rw[e2,CB] at e3
  show Z.T x (k o) _
  rw[e3]
  exact H x _ _ g hx h ((D.o r).o r2)
 |alloc o k=>
   refine g.e λ hf g=>g.e λ e g=>?_
   show Z.T x (k h.objs.size) _
   rw[show h.objs.size=s.nx from D.size]
   exact H x (k s.nx) _ g hx (h.push o) (D.new hf e)
 |update a part f k=>exact g.p λ o r g=>g.l λ b ob e g=>g.e λ hf g=>g.e λ e1 g=>⟨by show(h.get? a).isSome=true;rw[e1,(D.own _ _ _ e).1];rfl,e1▸H x (k ()) _ g hx (h.update b f) ((D.o r).up O.x e hf)⟩
 |fresh k=>exact H x (k (s.tok+s.i)) (s.fr 1) g hx h (D.fr 1)
 |handled own k=>
   refine g.e λ e g=>g.t λ hd eh g=>?_
   rw[e]
   show Z.T x (k (bz Z.E.B x.κ x.c).handled) _
   rw[pz Z.E.B O.x.hd x.κ x.c _ eh]
   exact H x (k hd) s g hx h D
 |stack k=>
  show Z.T x (k (((bz Z.E.B x.κ x.c).code,x.p)::(bz Z.E.B x.κ x.c).below)) _
  rw[bP]
  refine g.p λ o r g=>g.c (λ g=>H x _ _ g hx h (D.o r)) λ g=>g.c (λ g=>g.t λ env _ g=>g.t λ f _ g=>g.e λ e1 g=>g.e λ e2 g=>g.e λ e3 g=>?_) λ g=>g.e λ hl g=>g.e λ e g=>?_
  ·have all:∀y,k ((nM x.c y,x.p)::(bz Z.E.B x.κ x.c).below)=k []:=λ y=>by
    induction y with
    |zero=>exact e3
    |succ n ih=>exact(congrFun e2 n).trans ih
   have e:=all f
   rw[<-e1] at e
   rw[e]
   exact H x (k []) _ g hx h (D.o r)
  ·have z:=H x (k []) _ g hx h (D.o r)
   have hl:=L3 hl
   rw[e,O.y.room,<-R.bindR_eq]
   show wp _ _ (Sem.bind _ _) _ _ _ _
   rw[Sem.wp_bind]
   refine w5 ?_ z
   rw[unitsOf_cons]
   have h1:=l5 x.c
   have h2:=gM Z.E.B x.κ x.c
   have hu:=O.x.units
   omega
 |call c' hd gd l k=>exact qI (x:=⟨c',x.p,none,.mk k hd x.c x.p x.m::x.κ⟩) O H (Bool.and_eq_true_iff.mpr hx) D (λ e=>⟨bz Z.E.B x.κ x.c,by cases hd with |none=>rfl |some=>exact ft e⟩) g
 |_=>exact g.elim
end
theorem xb{Z:Rn}(O:Z.Ok)(n:Nat):Z.IH (ev Z.E n):=by
 induction n with
 |zero=>exact λ _ _ _ g=>g.elim
 |succ n ih=>exact λ _ _ _ g hx _ D=>rO O ih D hx g
end
noncomputable def s8:Option (Option Addr)->Option (Option Addr)->Bool
 |none,none=>true
 |some none,some none=>true
 |some (some a),some (some b)=>Nat.beq a b
 |_,_=>false
theorem xc(x y:Option (Option Addr)):(x != y)= !s8 x y:=by
 rcases x with _ |_ |a<;>rcases y with _ |_ |b<;>first |rfl |skip
 show(!decide (a=b))= !Nat.beq a b
 by_cases h:a=b
 ·subst h;rw[jD rfl,Nat.beq_refl]
 ·rw[lL h]
  have:Nat.beq a b=false:=by
   cases q:Nat.beq a b with
   |false=>rfl
   |true=>exact absurd (Nat.eq_of_beq_eq_true q) h
  rw[this]
def kL:Sem (List Code):=.stack λ acts=>match s8 (Option.map (λ x=>x.frame) (List.findSome? (λ x=>x.env?) (R.mapR (λ x=>x.1) acts))) (Option.map (λ x=>x.frame) (List.findSome? (λ x=>x.env?) (R.mapR (λ x=>x.1) (Fast.tw10703107870728634244 acts)))) with
 |true=>.pure (R.mapR (λ x=>x.1) (Fast.tw10703107870728634244 acts))
 |false=>.unsupported "caller:past-a-waiting-one"
theorem nR:Fast.tw15412038404767909359=kL:=by
 unfold kL
 delta Fast.tw15412038404767909359
 show Sem.stack _=Sem.stack _
 congr 1
 funext acts
 show(if(_ != _)=true then _ else _)=_
 rw[xc]
 cases s8 _ _<;>rfl
def yl:Sem (List Env):=.stack λ acts=>match s8 (Option.map (λ x=>x.frame) (List.findSome? (λ x=>x.env?) (R.mapR (λ x=>x.1) acts))) (Option.map (λ x=>x.frame) (List.findSome? (λ x=>x.env?) (R.mapR (λ x=>x.1) (Fast.tw10703107870728634244 acts)))) with
 |true=>.pure (List.filterMap (λ x=>x.env?) (List.takeWhile (λ x=>x.isInlined) (R.filterR (λ x=>x.env?.isSome) (R.mapR (λ x=>x.1) (Fast.tw10703107870728634244 acts)))))
 |false=>.unsupported "caller:past-a-waiting-one"
theorem s9:Fast.tw15119167023480647312=yl:=by
 delta Fast.tw15119167023480647312
 rw[nR]
 unfold kL yl
 show Sem.stack _=Sem.stack _
 congr 1
 funext acts
 generalize e:s8 (Option.map (λ x=>x.frame) (List.findSome? (λ x=>x.env?) (R.mapR (λ x=>x.1) acts))) (Option.map (λ x=>x.frame) (List.findSome? (λ x=>x.env?) (R.mapR (λ x=>x.1) (Fast.tw10703107870728634244 acts))))=b
 dsimp only
 rw[e]
 cases b<;>rfl
def D9:{x:Expr->Str->Env->Sem Value->Sem Value // Fast.tw15487144857313948548=x}:=by
 refine⟨?x,?h⟩
 case h=>
  delta Fast.tw15487144857313948548
  rw[s9]
def zc:{x:(x:Expr)->x.below->Env->Sem Value // Fast.tw14157815833373925142=x}:=by
 refine⟨?x,?h⟩
 case h=>
  delta Fast.tw14157815833373925142
  rw[D9.2]
def ta:{x:Expr->Env->Sem Value // Fast.tw14044960220447912780=x}:=by
 refine⟨?x,?h⟩
 case h=>
  delta Fast.tw14044960220447912780
  rw[zc.2]
def zd:{x:(x:Stmt)->x.below->Env->Sem Flow // Fast.tw16923920778897380256=x}:=by
 refine⟨?x,?h⟩
 case h=>
  delta Fast.tw16923920778897380256
  rw[ta.2]
def tc:{x:List Stmt->Env->Sem Flow // Fast.tw12563942051412417395=x}:=by
 refine⟨?x,?h⟩
 case h=>
  delta Fast.tw12563942051412417395
  rw[zd.2]
structure Tw where
 bind:∀{α β:Type},Sem α->(α->Sem β)->Sem β
 ev:Expr->Env->Sem Value
 hold:∀{α:Type},List Value->Sem α->Sem α
 mark:CmpOp->Expr->Sem Value->Sem Value
 truth:Expr->Env->Sem Value->Sem Bool
 tst:CmpOp->Value->Value->Sem Bool
 room:Sem Unit
 exs:List Stmt->Env->Sem Flow
 att:∀{α:Type},Sem α->Sem (Except Value α)
 note:Value->Env->Sem Unit
 fly:Value->Option Addr->Sem Unit
 hby:Value->Env->List ExceptHandler->Sem Flow
 own:Addr->Sem Unit
 again:Code->Sem Fin
 nxt:Value->Sem (Option Value)
 onr:∀{α:Type},Sem α->(Value->Sem Unit)->Sem α
 asg:Expr->Env->Value->Sem Unit
 call:Value->List Value->List (Str×Value)->Sem Value
noncomputable def pJ(op:CmpOp)(a b:Value):Sem Bool:=(operate [a,b] (compareOp op a b)).bind λ c=>holding [c] (truthy c)
theorem xd(x y:Addr):pJ .NotEq (.ref x) (.ref y)=(cRoom "comparison").bind λ _=>Cc [] (pJ .NotEq (.ref x) (.ref y)):=by
 unfold pJ operate compareOp richCompare cRoomFor cRoom
 show Sem.stack _=Sem.stack _
 congr 1
 funext st
 have pb:∀{α:Type} (x:List (Code×Pos)) (f:List (Code×Pos)->Sem α),(Sem.pure x).bind f=f x:=λ _ _=>rfl
 by_cases h:(st.map λ x=>x.1.cUnits).sum >=cLine
 ·simp only[pb,if_pos h]
  rfl
 ·simp only[pb,if_neg h]
  rfl
noncomputable def kM(r:Addr):Sem Unit:=do
 rule "for.unpacks-the-owned-tuple"
 updateField r 0 .none
def jV:Tw:=⟨@Sem.bind,eval,@holding,markedBehindIn,isTrue,pJ,cRoom "comparison",execs,@Sem.attempt,noteFrame,setFlight,handleBy,kM,again,pyNext,@Sem.onRaise,assign,@call⟩
noncomputable def td(op:CmpOp)(a b:Value):Sem Bool:=R.bindR (Fast.tw8004119333741010377 [a,b] (Fast.tw12886488535604756494 op a b)) λ c=>Fast.tw17359229931016689406 [c] (Fast.tw15245631507167962100 c)
noncomputable def xe(r:Addr):Sem Unit:=R.bindR (rule "for.unpacks-the-owned-tuple") λ _=>Fast.tw12367529300394763782 r 0 .none
def fast:Tw:=⟨@R.bindR,ta.1,@Fast.tw17359229931016689406,Fast.tw10513115210890433525,Fast.tw15418851999007992765,td,Fast.tw10648789137845014744 "comparison",tc.1,@Fast.tw3205988728414705400,Fast.tw17872113653443481271,Fast.tw5670386056902412789,Fast.tw14206642085496868694,xe,Fast.tw12377390311714414960,Fast.tw9404975358583537561,@R.onRaiseR,Fast.tw17772580674575903948,@Fast.tw11478286150595567475⟩
theorem qJ:kM=xe:=by
 unfold xe
 rw[<-Fast.te12367529300394763782,<-R.bindR_eq]
 rfl
theorem te:jV=fast:=by
 have e1:pJ=td:=by
  unfold td
  rw[<-Fast.te8004119333741010377,<-Fast.te12886488535604756494,<-Fast.te17359229931016689406,<-Fast.te15245631507167962100,<-R.bindR_eq]
  rfl
 unfold fast
 rw[<-e1,<-qJ,<-ta.2,<-Fast.te14044960220447912780,<-tc.2,<-Fast.te12563942051412417395,<-R.bindR_eq,<-R.onRaiseR_eq,<-Fast.te17359229931016689406,<-Fast.te10513115210890433525,<-Fast.te15418851999007992765,<-Fast.te10648789137845014744,<-Fast.te3205988728414705400,<-Fast.te17872113653443481271,<-Fast.te5670386056902412789,<-Fast.te14206642085496868694,<-Fast.te12377390311714414960,<-Fast.te9404975358583537561,<-Fast.te17772580674575903948,<-Fast.te11478286150595567475]
 rfl
section
variable (T:Tw)
def AR(op:CmpOp)(a b:Value)(K:Bool->Sem Fin):Sem Fin:=match op,a,b with
 | .NotEq,.ref x,.ref y=>T.bind T.room λ _=>T.bind (Cc [] (T.tst .NotEq (.ref x) (.ref y))) K
 |op,a,b=>T.bind (T.tst op a b) K
def tg(e:Expr)(env:Env)(K:Bool->Sem Fin):Sem Fin:=match ek e with
 | .cm l op r pos=>T.bind (T.ev l env) λ a=>T.bind (T.hold [a] (T.mark op r (T.ev r env))) λ b=>T.bind (standAt pos) λ _=>AR T op a b K
 |_=>T.bind (T.truth e env (T.ev e env)) K
def CF(env:Env)(K:Bool->Sem Fin):List Expr->Sem Fin
 |[]=>K false
 |x::r=>tg T x env λ b=>match b with
  |true=>K true
  |false=>CF env K r
def th(e:Expr)(env:Env)(K:Bool->Sem Fin):Sem Fin:=match ek e with
 | .or vs=>CF T env K vs
 |_=>tg T e env K
noncomputable def CG(a:Sem Fin)(K:Flow->Sem Fin)(f:Flow):Sem Fin:=match f with
 | .next=>a
 |f=>K f
def AS(hs:List ExceptHandler)(env:Env)(K:Flow->Sem Fin)(e:Value):Sem Fin:=match hs with
 |[]=>T.bind (throw e:Sem Flow) K
 |h::r=>T.bind (T.fly e none) λ _=>T.bind (T.hby e env (h::r)) K
inductive SK where
 |try (body:List Stmt) (hs:List ExceptHandler) (orelse:List Stmt) (pos:Pos)
 |ite (test:Expr) (body orelse:List Stmt) (pos:Pos)
 |no
noncomputable def sk:Stmt->SK
 | .Try body hs orelse [] pos=>.try body hs orelse pos
 | .If test body orelse pos=>.ite test body orelse pos
 |_=>.no
noncomputable def Ea(s:Stmt):SK->Prop
 | .try body hs orelse pos=>s= .Try body hs orelse [] pos
 | .ite test body orelse pos=>s= .If test body orelse pos
 | .no=>True
theorem AT(s:Stmt):Ea s (sk s):=by
 cases s<;>first |exact trivial |exact rfl |skip
 case Try body hs orelse final pos=>cases final<;>first |exact trivial |exact rfl
def ti(env:Env)(N:Flow->Sem Fin)(K:Flow->Sem Fin)(s:Stmt):Sem Fin:=match sk s with
 | .try body hs orelse pos=>T.bind (standAt pos) λ _=>T.bind (T.att (T.exs body env)) λ r=>match r with
  | .ok f=>CG (T.bind (T.exs orelse env) N) K f
  | .error e=>T.bind (T.note e env) λ _=>AS T hs env N e
 | .ite test body orelse pos=>T.bind (standAt pos) λ _=>th T test env λ b=>T.bind (match b with |true=>T.exs body env |false=>T.exs orelse env) N
 | .no=>T.bind (T.exs [s] env) N
def jk(env:Env)(K:Flow->Sem Fin):List Stmt->Sem Fin
 |[]=>K .next
 |s::rest=>ti T env (CG (jk env K rest) K) K s
noncomputable def jZ(n:String)(vs:Array Value)(a:Addr):Bool:=["enumerate","zip","dict_itemiterator","dict_reverseitemiterator","odict_iterator","itertools.zip_longest","itertools.pairwise"].contains n&&vs[0]? == some (rawInt a)
def AU(r a:Addr)(o:Obj)(K:Sem Fin):Sem Fin:=match o.cls,o.data with
 | .type n,.fields vs=>match jZ n vs a with
  |true=>T.bind (T.own r) λ _=>K
  |false=>K
 |_,_=>K
noncomputable def AW:Expr->Bool
 | .Tuple .. =>true
 | .List .. =>true
 |_=>false
def tj(target:Expr)(it v:Value)(K:Sem Fin):Sem Fin:=match AW target,it,v with
 |true,.ref r,.ref a=>.load r none λ o=>AU T r a o K
 |_,_,_=>K
noncomputable def ze(target:Expr)(it:Value)(body orelse:List Stmt)(env:Env)(fl:Flow):Sem Fin:=match fl with
 | .next | .cont=>T.again (.forLoop target it body orelse env)
 | .brk=>.pure (.done .next)
 | .ret v=>.pure (.done (.ret v))
def AX(target:Expr)(it:Value)(body orelse:List Stmt)(env:Env):Sem Fin:=
 T.bind (standAt target.pos) λ _=>T.bind (T.onr (T.nxt it) λ _=>standAt {target.pos with line:=0}) λ r=>match r with
  |none=>T.again (.block orelse env)
  |some v=>tj T target it v (T.bind (T.asg target env v) λ _=>jk T env (ze T target it body orelse env) body)
def ym(elt target iter:Expr)(scope:Scope)(pos:Pos)(it acc:Value)(env:Env):Sem Fin:=
 T.bind (standAt iter.pos) λ _=>T.bind (T.nxt it) λ r=>match r with
  |none=>.pure (.done .next)
  |some v=>tj T target it v (T.bind (T.asg target env v) λ _=>T.bind (T.ev elt env) λ x=>T.bind (T.call (.builtin "list.append") [acc,x] []) λ _=>T.again (.compLoop (.ListComp elt [⟨target,iter,[],0⟩] scope pos) 0 it acc env))
end
def yn(c:Code)(i:Nat)(e:Value):Option (Sem Fin):=match c with
 | .forLoop target it body orelse env=>match body.drop i with
  |[]=>none
  |s::rest=>match sk s with
   | .try _ hs _ _=>some (AS fast hs env (CG (jk fast env (ze fast target it body orelse env) rest) (ze fast target it body orelse env)) e)
   |_=>none
 |_=>none
theorem xf(op:CmpOp)(a b:Value)(K:Bool->Sem Fin):AR jV op a b K=(pJ op a b).bind K:=by
 cases op<;>first |rfl |(cases a<;>first |rfl |(cases b<;>first |rfl |(show _=Sem.bind (pJ _ _ _) K;rw[xd,qA];rfl)))
theorem qK(e:Expr)(env:Env)(K:Bool->Sem Fin):tg jV e env K=(isTrue e env (eval e env)).bind K:=by
 have z:=qB e
 unfold tg
 generalize ek e=k at z ⊢
 cases k<;>first |rfl |skip
 case cm l op r pos=>
  have z:e= .Compare l [op] [r] pos:=z
  subst z
  rw[isTrue_Compare1]
  show Sem.bind (eval l env) _=Sem.bind (Sem.bind (eval l env) _) K
  rw[qA]
  congr 1
  funext a
  show Sem.bind _ _=Sem.bind (Sem.bind _ _) K
  rw[qA]
  congr 1
  funext b
  show Sem.bind _ _=Sem.bind (Sem.bind _ _) K
  rw[qA]
  congr 1
  funext _
  rw[xf]
  rfl
theorem zf(l:List Expr)(env:Env)(K:Bool->Sem Fin):CF jV env K l=(allTrue .Or l env).bind K:=by
 induction l with
 |nil=>rfl
 |cons x r ih=>
  show tg jV x env _=Sem.bind (Sem.bind (isTrue x env (eval x env)) _) K
  rw[qA,qK]
  congr 1
  funext b
  cases b with
  |true=>rfl
  |false=>exact ih
theorem tm(e:Expr)(env:Env)(K:Bool->Sem Fin):th jV e env K=(isTrue e env (eval e env)).bind K:=by
 have z:=qB e
 unfold th
 generalize ek e=k at z ⊢
 cases k<;>first |exact qK _ _ _ |skip
 obtain⟨pos,rfl⟩:=z
 exact zf _ _ _
theorem tn(body:List Stmt)(hs:List ExceptHandler)(orelse final:List Stmt)(pos:Pos)(env:Env):exec (.Try body hs orelse final pos) env=(standAt pos).bind λ _=>tryStmt false (execs body env) hs (execs orelse env) final env:=by
 kernel_rfl
theorem rP(s:Stmt)(env:Env):execs [s] env=exec s env:=by
 show(exec s env).bind _=_
 conv=>rhs;rw[<-Sem.bind_pure (exec s env)]
 congr 1
 funext fl
 cases fl<;>rfl
theorem to(s:Stmt)(env:Env)(N K:Flow->Sem Fin)(N':Sem Flow)(hN:N=λ f=>(match f with | .next=>N' |f=>Sem.pure f).bind K):ti jV env N K s=((exec s env).bind λ f=>match f with | .next=>N' |f=>.pure f).bind K:=by
 have z:=AT s
 rw[qA,<-hN]
 unfold ti
 generalize sk s=k at z ⊢
 cases k with
 |no=>rw[<-rP];rfl
 |ite test body orelse pos=>
  have z:s= .If test body orelse pos:=z
  rw[z,exec_If]
  show _=Sem.bind (Sem.bind (standAt pos) _) _
  rw[qA]
  show Sem.bind _ _=Sem.bind _ _
  congr 1
  funext _
  rw[tm]
  show _=Sem.bind (Sem.bind (isTrue test env (eval test env)) _) _
  rw[qA]
  congr 1
  funext b
  cases b<;>rfl
 |«try» body hs orelse pos=>
  have z:s= .Try body hs orelse [] pos:=z
  rw[z,tn,qA]
  show Sem.bind _ _=Sem.bind _ _
  congr 1
  funext _
  show Sem.bind ((execs body env).attempt) _=Sem.bind (Sem.bind ((execs body env).attempt) _) _
  rw[qA]
  congr 1
  funext r
  cases r with
  |ok f=>cases f<;>(rw[hN];rfl)
  |error e=>
   show Sem.bind (noteFrame e env) _=Sem.bind (Sem.bind (noteFrame e env) _) _
   rw[qA]
   congr 1
   funext _
   cases hs with
   |nil=>rfl
   |cons h r=>
    show Sem.bind (setFlight e none) _=Sem.bind (Sem.bind (setFlight e none) _) _
    rw[qA]
    rfl
theorem ma(l:List Stmt)(env:Env)(K:Flow->Sem Fin):jk jV env K l=(execs l env).bind K:=by
 induction l with
 |nil=>rfl
 |cons s rest ih=>exact to s env _ K (execs rest env) (funext λ f=>by cases f<;>first |exact ih |rfl)
theorem qL(target:Expr)(it v:Value)(K:Sem Fin):tj jV target it v K=(letOwnedTupleGo target it v).bind λ _=>K:=by
 have tup:∀r a,(Sem.load r none λ o=>AU jV r a o K)=((do
   let o <-load r
   match o.cls,o.data with
   | .type n,.fields vs=>
    if ["enumerate","zip","dict_itemiterator","dict_reverseitemiterator","odict_iterator","itertools.zip_longest","itertools.pairwise"].contains n&&vs[0]? == some (rawInt a) then
     rule "for.unpacks-the-owned-tuple"
     updateField r 0 .none
   |_,_=>pure ()):Sem Unit).bind λ _=>K:=by
  intro r a
  show Sem.load r none _=Sem.load r none _
  congr 1
  funext o
  obtain⟨cls,d,data,sl⟩:=o
  cases cls<;>first
   |rfl
   |(rename_i n
     cases data<;>first
     |rfl
     |(rename_i vs
       show(match jZ n vs a with |true=>(kM r).bind λ _=>K |false=>K)=Sem.bind (if jZ n vs a=true then kM r else pure ()) λ _=>K
       cases jZ n vs a<;>rfl))
 cases target<;>first |rfl |(cases it<;>first |rfl |(cases v<;>first |exact tup _ _ |rfl))
theorem xg(target:Expr)(it:Value)(body orelse:List Stmt)(env:Env):forTurn target it body orelse env=AX fast target it body orelse env:=by
 rw[<-te]
 show Sem.bind _ _=Sem.bind _ _
 congr 1
 funext _
 show Sem.bind _ _=Sem.bind _ _
 congr 1
 funext r
 cases r with
 |none=>rfl
 |some v=>
  show Sem.bind (letOwnedTupleGo target it v) _=tj jV target it v _
  rw[qL]
  congr 1
  funext _
  show Sem.bind (assign target env v) _=Sem.bind (assign target env v) _
  congr 1
  funext _
  rw[ma]
  rfl
theorem tt(elt target iter:Expr)(scope:Scope)(pos:Pos)(it acc:Value)(env:Env):compTurn (.ListComp elt [⟨target,iter,[],0⟩] scope pos) 0 it acc env=ym fast elt target iter scope pos it acc env:=by
 rw[<-te]
 show Sem.bind (standAt iter.pos) _=Sem.bind _ _
 congr 1
 funext _
 show Sem.bind (pyNext it) _=Sem.bind _ _
 congr 1
 funext r
 cases r with
 |none=>rfl
 |some v=>
  show Sem.bind (letOwnedTupleGo target it v) _=tj jV target it v _
  rw[qL]
  congr 1
  funext _
  show Sem.bind (assign target env v) _=Sem.bind _ _
  congr 1
  funext _
  show Sem.bind (Sem.bind (eval elt env) _) _=Sem.bind _ _
  rw[qA]
  congr 1
  funext x
  show Sem.bind (Sem.bind (call (.builtin "list.append") [acc,x]) _) _=Sem.bind _ _
  rw[qA]
  rfl
theorem zg(a b:Addr):Fast.tw5741333931599015106 ⟨[.ref a,.ref b],[]⟩=Fast.tw8938917530802602619 (.ref a) (.ref b) (.ref a):=by kernel_rfl
noncomputable def xh:{f:Addr->Addr->Sem Fin //∀a b,a≠b->Fast.tw8938917530802602619 (.ref a) (.ref b) (.ref a)=f a b}:=by
 refine⟨?f,?h⟩
 case h=>
  intro a b h
  have e:Builtin.List.listSameRef (.ref a) (.ref b)=false:=by
   show(a == b)=false
   simp[h]
  delta Fast.tw8938917530802602619
  simp only[e]
  exact rfl
theorem nS{id:String}{b:Builtin}{args:Args}(hb:entryFor table id=some b):denote table (.builtin id args)=b args:=by
 show(match entryFor table id with |some b=>b args |none=>_)=b args
 rw[hb]
theorem tu(a b:Addr)(h:a≠b):xh.1 a b=denote table (.builtin "list.__iadd__" ⟨[.ref a,.ref b],[]⟩):=by
 rw[nS F.entry_list_iadd,<-xh.2 a b h,<-zg,<-Fast.te5741333931599015106]
section
open PySem.Sem (wp wp_bind' wp_onRaise wp_pure' wp_mono finPost wp_cmd_load)
def fp(z:SI):Nat->Prop:=λ a=>a∈aZ z.idx\/a∈aH z.L
noncomputable abbrev jI:=List (Nat×Option (Nat×Obj))
noncomputable def jJ(l:jI):HL:=l.filterMap (·.2)
def xi(n0:Nat)(h0 h:Heap):jI->Prop
 |[]=>True
 |(j,some x)::r=>(h.get? x.1=some x.2/\(Nat.ble n0 j=true->h0.objs.size<=x.1))/\xi n0 h0 h r
 |(_,none)::r=>xi n0 h0 h r
structure tv(E:EC)(F:Nat->Prop)(h0:Heap)(size:Nat)(seen:jI)(L:HL)(h:Heap):Prop where
 size:h.objs.size=size
 more:h0.objs.size<=h.objs.size
 top:sY E h
 saw:xi E.n0 h0 h seen
 lst:∀x∈L,h.get? x.1=some x.2/\bd x.2=false/\(F x.1\/h0.objs.size<=x.1)
 nodup:(aH (jJ seen)++aH L).Nodup
 frame:∀b o,h0.get? b=some o->¬F b->jh h0 h b o
def iF(Z:Rn):ST->Prop
 | .done r size toks seen L=>∀h,tv Z.E Z.F Z.h0 size seen L h->Z.R r {Z.G with heap:=h,toks:=toks}
 | .no=>False
 | .full z r=>z.Holds Z.M Z.E Z.G/\iF Z r
 | .pure z r=>z.Holds Z.M Z.G/\iF Z r
 | .prop p r=>p/\iF Z r
 | .gh A f=>∀g,A g->iF Z (f g)
def jl(T:MT)(js:List Nat):jI:=js.map λ j=>(j,T.get j)
theorem nT{T:MT}(js:List Nat):∀x,x∈jJ (jl T js)->∃j∈js,T.get j=some x:=λ x h=>by
 obtain⟨y,hy,e⟩:=List.mem_filterMap.mp h
 obtain⟨j,hj,rfl⟩:=bZ.mp hy
 exact⟨j,hj,e⟩
theorem pK{T:MT}(inj:∀j j' a o o',T.get j=some (a,o)->T.get j'=some (a,o')->j=j')(js:List Nat)(nd:js.Nodup):(aH (jJ (jl T js))).Nodup:=by
 induction js with
 |nil=>exact List.nodup_nil
 |cons j js ih=>
  have nd:=po.mp nd
  have ih:=ih nd.2
  unfold jl jJ
  rw[List.map_cons]
  cases e:T.get j with
  |none=>rw[List.filterMap_cons_none (by rfl)];exact ih
  |some x=>
   rw[List.filterMap_cons_some (b:=x) (by rfl)]
   refine po.mpr ⟨λ hm=>?_,ih⟩
   obtain⟨y,hy,q⟩:=bZ.mp hm
   obtain⟨j',hj',e2⟩:=nT js y hy
   have q:y.1=x.1:=q
   have:=inj j' j x.1 y.2 x.2 (by rw[e2,<-q]) (by rw[e])
   exact nd.1 (this▸hj')
theorem zh{Z:Rn}{h:Heap}{s:ES}(D:dR Z s h)(js:List Nat):xi Z.E.n0 Z.h0 h (jl s.T js):=by
 induction js with
 |nil=>exact trivial
 |cons j js ih=>
  unfold jl
  rw[List.map_cons]
  cases e:s.T.get j with
  |none=>exact ih
  |some x=>
   have y:=D.own j x.1 x.2 e
   exact⟨⟨y.1,λ q=>y.2.2.2.2 (L3 q)⟩,ih⟩
theorem dR.end{Z:Rn}{h:Heap}{s:ES}(D:dR Z s h){js:List Nat}(nd:js.Nodup):tv Z.E Z.F Z.h0 (s.base+s.m+822) (jl s.T js) s.L h:=by
 refine⟨D.size,D.more,D.top,zh D js,λ x hx=>?_,f8.mpr ⟨pK D.inj js nd,D.lnd,λ a ha b hb q=>?_⟩,D.frame⟩
 ·have y:=D.lst x hx
  exact⟨y.1,y.2.2.1,y.2.2.2.1⟩
 ·subst q
  obtain⟨x,hx,rfl⟩:=bZ.mp ha
  obtain⟨y,hy,q⟩:=bZ.mp hb
  obtain⟨j,hj,e2⟩:=nT js x hx
  have q:y.1=x.1:=q
  exact(D.lst y hy).2.2.2.2 j x.2 (by rw[q];exact e2)
theorem tv.after{E:EC}{h0 h:Heap}{size:Nat}{seen:jI}{L:HL}{z:SI}{g:Gh}(e:tv E (fp z) h0 size seen L h)(hs:size=g.n 0+822)(hsl:g.sl=bn h)
  (fin:gV (λ x o=>h.get? x.2.1=some o) z.idx (z.out g).fin)(new:∀x∈(z.out g).new,h.get? x.1=some x.2/\h0.objs.size<=x.1/\bd x.2=false)
  (lst:∀x∈(z.out g).L,h.get? x.1=some x.2/\bd x.2=false/\(x.1∈aH z.L\/h0.objs.size<=x.1))(nodup:(aH (z.out g).new++aH (z.out g).L).Nodup):cv z g h0 h:=by
 refine⟨by rw[e.size,hs],e.more,fin,new,lst,nodup,λ b o hb h1 h2=>?_,λ b o hlt hb h1 h2=>by
  obtain⟨sl,q1,q2⟩:=e.frame b o hb (λ q=>q.elim h1 h2)
  rw[q2 (.inr hlt)] at q1
  exact q1⟩
 obtain⟨sl,q1,q2⟩:=e.frame b o hb (λ q=>q.elim h1 h2)
 unfold aE
 cases q:bd o with
 |false=>rw[q1,q2 (.inl q)]
 |true=>
  have:g.sl b=sl:=by rw[hsl];unfold bn;rw[q1]
  rw[this]
  exact q1
theorem xj{Z:Rn}{js:List Nat}(nd:js.Nodup)(r:RT)(e:r=r.diag)(g:iF Z (r.strip js)):Z.Both r:=by
 induction r with
 |done r s=>exact λ h D=>g h (D.end nd)
 |no=>exact g
 |ob o r ih=>
  have e:RT.ob o r=RT.ob o.diag r.diag:=e
  injection e with e1 e2
  have ih:=ih e2
  cases o with
  |eq a b=>injection e1 with _ _ e1;exact⟨e1.symm,ih g⟩
  |full k=>exact g.imp_right ih
  |pure k=>exact g.imp_right ih
  |prop k=>exact g.imp_right ih
 |gh A f ih=>
  have e:RT.gh A f=RT.gh A (λ g=>(f g).diag):=e
  injection e with e1 e2
  exact λ x hx=>ih x (congrFun e2 x) (g x hx)
def mb:MT->Nat->HL->MT
 |T,_,[]=>T
 |T,n,(a,o)::r=>mb (T.ins n a o) (n+1) r
noncomputable def aN(l:List (Nat×Nat×Obj)):HL:=l.map (·.2)
def mc(z:SI)(k base tok:Nat)(orc:List Nat)(xs:List XF):ES:={T:=mb .nil 0 (aN z.idx++z.L.take k),nid:=(aN z.idx++z.L.take k).length,base:=base,m:=0,tok:=tok,i:=0,L:=z.L.drop k,orc:=orc,xs:=xs,gs:=[]}
theorem xk(l:HL):∀(T:MT) (n:Nat),(ia T n l).isSome=true->ia T n l=some (mb T n l,n+l.length):=by
 induction l with
 |nil=>exact λ T n _=>rfl
 |cons x r ih=>
  intro T n h
  obtain⟨a,o⟩:=x
  have h:(match(T.ins n a o).get n with |some _=>ia (T.ins n a o) (n+1) r |none=>none).isSome=true:=h
  show(match(T.ins n a o).get n with |some _=>ia (T.ins n a o) (n+1) r |none=>none)=some (mb (T.ins n a o) (n+1) r,n+(r.length+1))
  cases e:(T.ins n a o).get n with
  |none=>rw[e] at h;exact ft h
  |some x=>
   rw[e] at h
   rw[Nat.add_comm r.length,<-Nat.add_assoc]
   exact ih _ _ h
theorem rQ(P:Nat->Nat->Obj->Prop):∀(l:HL) (T:MT) (n:Nat),PT P T n (aH l)->(∀x∈l,∀j,n<=j->P j x.1 x.2)->(aH l).Nodup->ia T n l=some (mb T n l,n+l.length)->PT P (mb T n l) (n+l.length) []:=by
 intro l T n D H nd e
 exact l8 P [] l T n _ e (by rw[L4];exact D) H (by rw[L4];exact nd)
structure jK where
 prog:Program
 P:Params
 top:X.KT
 n1:Nat
 tf:Option Addr
noncomputable def jK.set1(C:jK):Setting:=⟨C.prog,{C.P with followText:=λ _=>true}⟩
noncomputable def jK.setF(C:jK):Setting:=⟨C.prog,{C.P with followText:=λ _=>false}⟩
def jK.setR(C:jK):Setting:=⟨C.prog,{C.P with followText:=λ _=>C.P.followText "special-get-raises"}⟩
theorem jK.setR_is(C:jK):C.setR=C.set1\/C.setR=C.setF:=by
 unfold jK.setR jK.set1 jK.setF
 cases C.P.followText "special-get-raises" with
 |true=>exact .inl rfl
 |false=>exact .inr rfl
def jK.at(C:jK)(B:Ctx)(nb:Nat)(fr:List (Nat×Nat))(n0:Nat):EC:=⟨denote table,gq,lY,C.set1,C.setF,⟨C.prog,C.P⟩,C.setR,iC,xh.1,kM,noteFrame,yn,C.tf,C.top,C.n1,B,nb,fr,n0⟩
def kN:List (Nat×Nat×Obj)->Nat->List (Nat×Nat)
 |[],_=>[]
 |(_,a,o)::r,n=>match bd o with
  |true=>(n,a)::kN r (n+1)
  |false=>kN r (n+1)
theorem tw(x:Nat×Nat×Obj)(r:List (Nat×Nat×Obj))(n:Nat):kN (x::r) n=if bd x.2.2=true then(n,x.2.1)::kN r (n+1) else kN r (n+1):=by
 obtain⟨j,a,o⟩:=x
 show(match bd o with |true=>(n,a)::kN r (n+1) |false=>kN r (n+1))=if bd o=true then(n,a)::kN r (n+1) else kN r (n+1)
 cases bd o<;>rfl
theorem xl(l:List (Nat×Nat×Obj))(x:Nat×Nat×Obj):∀(n:Nat),x∈l->bd x.2.2=true->∃y∈kN l n,y.2=x.2.1:=by
 induction l with
 |nil=>intro n hx;cases hx
 |cons z r ih=>
  intro n hx q
  rw[tw]
  rcases lI.mp hx with rfl |hx
  ·rw[if_pos q]
   exact⟨_,L5 ..,rfl⟩
  ·obtain⟨y,hy,e⟩:=ih (n+1) hx q
   split
   ·exact⟨y,L7 _ hy,e⟩
   ·exact⟨y,hy,e⟩
structure jK.Ok(C:jK):Prop where
 low:822<=C.n1
 topLt:∀a o,C.top.get a=some o->a<C.n1
 topFr:∀a o,C.top.get a=some o->bd o=false
def qM(E:EC)(n:Nat)(z:SI)(k:Nat)(p:Pos)(base tok:Nat)(orc:List Nat)(xs:List XF):RT:=pv E (ev E n) ⟨z.code,p,none,[]⟩ (mc z k base tok orc xs)
theorem jm(l:List (Nat×Nat×Obj)):aH (aN l)=aZ l:=by
 unfold aH aN aZ;rw[pd];rfl
theorem gt(a b:HL):aH (a++b)=aH a++aH b:=nD ..
theorem SI.of_run{prog:Program}{w:World}{C:jK}{G:Shared}(ok:C.Ok)(hp:C.prog=prog)(hP:C.P=w.2)(z:SI)(ht:C.tf=jE z.code)(n k:Nat)(orc:List Nat)(xs:Nat->Nat->List XF)(js:List Nat)(nd:js.Nodup)
  (hgrow:(ia .nil 0 (aN z.idx++z.L.take k)).isSome=true)
  (PK:∀(B:Ctx) (R:Result->Shared->Prop) (F:Nat->Prop) (h0:Heap),rF (C.at B z.d (kN z.idx 0) (z.idx.length+k))->pA ⟨prog,w,C.at B z.d (kN z.idx 0) (z.idx.length+k),G,R,F,h0⟩)
  (hrun:∀(B:Ctx) (p:Pos) (base tok:Nat),qM (C.at B z.d (kN z.idx 0) (z.idx.length+k)) n z k p base tok orc (xs base tok)=(qM (C.at B z.d (kN z.idx 0) (z.idx.length+k)) n z k p base tok orc (xs base tok)).diag/\
   ∀(h0:Heap) (R:Result->Shared->Prop),h0.objs.size=base+822->ji (C.at B z.d (kN z.idx 0) (z.idx.length+k)) z h0->(∀g h',z.asm g->cv z g h0 h'->R (z.out g).res {G with heap:=h',toks:=g.n 1})->
    iF ⟨prog,w,C.at B z.d (kN z.idx 0) (z.idx.length+k),G,R,fp z,h0⟩ ((qM (C.at B z.d (kN z.idx 0) (z.idx.length+k)) n z k p base tok orc (xs base tok)).strip js)):∀(B:Ctx) (nb:Nat) (fr:List (Nat×Nat)) (n0:Nat),z.Holds (model prog w) (C.at B nb fr n0) G:=by
 intro B0 nb0 fr0 n0 Γ R p h tok hcode hhd htop hfr hroom hunits bef hR
 have hn1:C.n1<=h.objs.size:=bef.n1
 obtain⟨base,hbase⟩:∃base,h.objs.size=base+822:=⟨h.objs.size-822,(Nat.sub_add_cancel (ky ok.low hn1)).symm⟩
 obtain⟨r1,r2⟩:=hrun Γ p base tok
 have sg:=r2 h R hbase ⟨bef.n1,bef.top,bef.idx,bef.lst,bef.nodup⟩ hR
 revert r1 sg
 generalize eZ:(⟨prog,w,C.at Γ z.d (kN z.idx 0) (z.idx.length+k),G,R,fp z,h⟩:Rn)=Z
 intro r1 sg
 have X:rF (C.at Γ z.d (kN z.idx 0) (z.idx.length+k)):=⟨rfl,by show w7 Γ C.tf;rw[ht];exact htop,rfl,rfl,rfl,tu,hroom,hunits,ok.topLt,ok.topFr,hhd,ok.low⟩
 have O:Z.Ok:=by
  subst eZ
  refine⟨X,⟨by show(⟨C.prog,C.P⟩:Setting)=_;rw[hp,hP],C.setR_is,rfl⟩,PK Γ R (fp z) h X,λ env he=>?_⟩
  obtain⟨h1,f,h2,o,h3,h4,h5⟩:=hfr env he
  refine⟨h1,f,h2,?_⟩
  rcases Classical.em (fp z f) with hm |hm
  ·refine .inr (hm.elim (λ hm=>?_) λ hm=>?_)
   ·obtain⟨x,hx,q⟩:=bZ.mp hm
    have y:=(bef.idx x hx).1
    rw[q,h3] at y
    obtain⟨y,hy,e⟩:=xl z.idx x 0 hx (by rw[<-L8 y];exact h4)
    exact⟨y,hy,e.trans q⟩
   ·obtain⟨x,hx,q⟩:=bZ.mp hm
    have y:=bef.lst x hx
    rw[q,h3] at y
    rw[<-L8 y.1,h4] at y
    exact nomatch y.2.2
  ·exact .inl ⟨⟨o,h3,h4,h5⟩,hm⟩
 have nd0:=bef.nodup
 rw[<-List.take_append_drop k z.L,gt,<-L9] at nd0
 have nd1:=f8.mp nd0
 have pt:=rQ (λ j a o=>h.get? a=some o/\C.n1<=a/\fp z a/\a∉aH (z.L.drop k)) (aN z.idx++z.L.take k) .nil 0 ⟨λ j a o hj=>(by cases hj),λ j j' a o o' hj=>(by cases hj)⟩ (λ x hx j _=>by
  have nin:x.1∉aH (z.L.drop k):=λ hm=>by
   refine nd1.2.2 x.1 ?_ x.1 hm rfl
   rw[<-jm,<-gt]
   exact bZ.mpr ⟨x,hx,rfl⟩
  rcases lK.mp hx with hx |hx
  ·obtain⟨y,hy,rfl⟩:=bZ.mp hx
   have t:=bef.idx y hy
   exact⟨t.1,t.2,.inl (bZ.mpr ⟨y,hy,rfl⟩),nin⟩
  ·have hx:=Ca hx
   have t:=bef.lst x hx
   exact⟨t.1,t.2.1,.inr (bZ.mpr ⟨x,hx,rfl⟩),nin⟩) (by rw[gt,jm];exact nd1.1) (xk _ _ _ hgrow)
 have D:dR Z (mc z k base tok orc (xs base tok)) h:=by
  subst eZ
  refine⟨hbase,bef.n1,Nat.le_refl _,λ j a o hj=>?_,pt.inj,bef.top,λ x hx=>?_,nd1.2.1,λ b o hb _=>jh.refl hb⟩
  ·have y:=pt.own j a o hj
   have hj2:j<(aN z.idx++z.L.take k).length:=Nat.lt_of_lt_of_eq y.2.1 (o9 _)
   refine⟨y.1.1,hj2,y.1.2.1,.inl y.1.2.2.1,λ q=>absurd hj2 (Nat.not_lt_of_le (ky ?_ q))⟩
   rw[rC,B9]
   exact Nat.add_le_add (Nat.le_of_eq (kx ..)) (Nat.min_le_left ..)
  ·have hx':=List.mem_of_mem_drop hx
   have t:=bef.lst x hx'
   exact⟨t.1,t.2.1,t.2.2,.inl (.inr (bZ.mpr ⟨x,hx',rfl⟩)),λ j o hj=>(pt.own j _ o hj).1.2.2.2 (bZ.mpr ⟨x,hx,rfl⟩)⟩
 have E:Z.E=C.at Γ z.d (kN z.idx 0) (z.idx.length+k):=by rw[<-eZ]
 have fin:=(kK (x:=⟨z.code,p,none,[]⟩) O (xb O n) rfl D (by rw[E];exact xj nd _ r1 sg)).2
 subst eZ
 have e:bz Γ [] z.code=Γ:=by
  show {Γ with code:=z.code}=Γ
  rw[<-hcode]
 have fin:wpCode (model prog w) (bz Γ [] z.code) R p {G with heap:=h,toks:=tok}:=fin
 rw[e] at fin
 exact fin
end
section
open PySem.Builtin (Dict.missed)
section
variable {prog:Program}{w:World}{A:Around}{E:Value->Shared->Prop}{s:Shared}
theorem bk{R:Result->Shared->Prop}{T:String}{name:Str}{id:String}{b:Builtin}{self:Value}{rest:List Value}(h:Slot T name id)(hT:s.TypeIs self T)
  (hb:entryFor table id=some b)(ha:argsOk id ⟨self::rest,[]⟩)
  (hc:∀E,wpAny (model prog w) A.in1 (b ⟨self::rest,[]⟩) (λ fin s'=>∃v,fin= .done (.ret v)/\R (.ok (.ret v)) s') E s):
  codeAny (model prog w) A (.call (.builtin id) ⟨self::rest,[]⟩) R s:=by
 refine codeAny_call_builtin h.plain hb (h.check _ _ _ _ _ _ _ _ hT ha (B7 (hc _) (λ fin s' h'=>?_) λ _ _ h'=>h'))
 obtain⟨v,rfl,hv⟩:=h';exact hv
def j6(prog:Program)(w:World)(d:Addr)(key:Value)(es:Array DictEntry)(r:Option Nat)(hsh:Int):Prop:=
 (∀(A:Around) (E:Value->Shared->Prop) (Q:Int->Shared->Prop) (s:Shared),Q hsh {s with toks:=s.toks+1}->wpAny (model prog w) A (pyHash key) Q E s)/\
 (keyPart key).isSome=true/\
 ∀(A:Around) (E:Value->Shared->Prop) (Q:Option Nat->Shared->Prop) (s:Shared) (n:Nat) (sl:Array (Option Value)),s.heap.get? d=some ⟨.type "dict",none,.dict es n,sl⟩->Q r s->wpAny (model prog w) A (dictFind d key hsh) Q E s
theorem nU(x:Str)(l:List DictEntry):∀(n:Nat),cE x l n=(l.findIdx? λ e=>e.key.isStr x).map (·+n):=by
 induction l with
 |nil=>exact λ n=>rfl
 |cons e r ih=>
  intro n
  rw[cE,List.findIdx?_cons]
  cases e.key.isStr x with
  |true=>exact(congrArg some (o9 n)).symm
  |false=>
   show cE x r (n+1)=((r.findIdx? λ e=>e.key.isStr x).map (·+1)).map (·+n)
   rw[ih,Option.map_map]
   exact congrArg (λ f=>Option.map f _) (funext λ i=>(Nat.add_right_comm i 1 n).symm)
theorem nV{l:List DictEntry}(h:bQ l=true):∀e∈l,∃x t,e.key= .str x t:=by
 induction l with
 |nil=>exact cb
 |cons a r ih=>
  obtain⟨hs,k,v⟩:=a
  cases k<;>first |exact ft h |exact all_cons ⟨_,_,rfl⟩ (ih h)
theorem rR{d:Addr}{x:Str}{t:Tok}{es:Array DictEntry}(hk:bQ es.toList=true):j6 prog w d (.str x t) es (cE x es.toList 0) (hashStr w x):=by
 refine⟨λ A E Q s h=>wpAny_pyHash_str h,rfl,λ A E Q s n sl ho h=>?_⟩
 have hall:=nV hk
 unfold dictFind
 try with_reducible refine wpAny_holding ?_
 refine aW (wpAny_dictEntries ho rfl ?_)
 dsimp only
 have hex:(es.all λ e=>isExactStrKey e.key)=true:=by
  rw[Array.all_eq_true']
  intro e he
  obtain⟨y,u,q⟩:=hall e (Array.mem_toList_iff.mpr he)
  rw[q];rfl
 have hd:cE x es.toList 0=es.findIdx? λ e=>e.key.isStr x:=by
  rw[nU]
  obtain⟨l⟩:=es
  simp
 rw[hd] at h
 rw[if_pos hex]
 unfold foundByValue
 cases hf:es.findIdx? (λ e=>e.key.isStr x) with
 |none=>
  rw[hf] at h
  exact cp h
 |some i=>
  rw[hf] at h
  obtain⟨hlt,hi,_⟩:=Array.findIdx?_eq_some_iff_getElem.mp hf
  obtain⟨y,u,q⟩:=hall es[i] (Array.mem_toList_iff.mpr (Array.getElem_mem hlt))
  simp only[Array.getElem?_eq_getElem hlt]
  rw[q] at hi ⊢
  have e:y=x:=by simpa [Value.isStr] using hi
  subst e
  refine aW (wpAny_dictEpoch ho rfl (aW (wpAny_eqBool_str (aW (wpAny_dictEpoch ho rfl ?_)))))
  show wpAny _ _ (if(n != n)=true then _ else _) _ E _
  rw[if_neg (by simp),jD rfl]
  exact aW (wpAny_rule (cp h))
theorem me(x:Int)(l:List DictEntry):∀(n:Nat),bI x l n=(l.findIdx? λ e=>e.key.isInt x).map (·+n):=by
 induction l with
 |nil=>exact λ n=>rfl
 |cons e r ih=>
  intro n
  rw[bI,List.findIdx?_cons]
  cases e.key.isInt x with
  |true=>exact(congrArg some (o9 n)).symm
  |false=>
   show bI x r (n+1)=((r.findIdx? λ e=>e.key.isInt x).map (·+1)).map (·+n)
   rw[ih,Option.map_map]
   exact congrArg (λ f=>Option.map f _) (funext λ i=>(Nat.add_right_comm i 1 n).symm)
theorem rS{d:Addr}{i:Int}{t:Tok}{es:Array DictEntry}{r:Option Nat}(hk:iB es.toList i r):j6 prog w d (.int i t) es r (hashInt i):=by
 refine⟨λ A E Q s h=>wpAny_pyHash_int h,rfl,λ A E Q s n sl ho h=>?_⟩
 have hd:r=es.findIdx? λ e=>e.key.isInt i:=by
  rw[<-hk.2,me]
  obtain⟨l⟩:=es
  simp
 rw[hd] at h
 exact wpAny_dictFind_of (knd:=intKind prog w) (k:=i) (intKind_is prog w i t) ho rfl (λ e he=>by
  obtain⟨k,u,h1,h2⟩:=hk.1 e (Array.mem_toList_iff.mpr he)
  exact⟨k,by rw[h1];exact intKind_is prog w k u,h2⟩) h
theorem nW{l:List DictEntry}(h:gL l=true):∀e∈l,∃k t,e.key= .int k t/\e.hash=hashInt k:=by
 induction l with
 |nil=>exact cb
 |cons a r ih=>
  obtain⟨hs,k,v⟩:=a
  cases k<;>first |exact ft h |skip
  rename_i k t
  have h:(match decide (hs=hashInt k) with |true=>gL r |false=>false)=true:=h
  cases q:decide (hs=hashInt k) with
  |true=>rw[q] at h;exact all_cons ⟨k,t,rfl,of_decide_eq_true q⟩ (ih h)
  |false=>rw[q] at h;exact ft h
theorem qN(r:Option Nat)(es:Array DictEntry):fP r es.toList=(r.bind λ i=>es[i]?).map (·.val):=by
 cases r with
 |none=>rfl
 |some i=>show(es.toList[i]?).map _=_;rw[Array.getElem?_toList];rfl
theorem mK(f:Array DictEntry->Array DictEntry):bR f (λ n=>n)=Obj.mapDict f:=by
 funext o;obtain⟨c,d,x,s⟩:=o;cases x<;>rfl
theorem gW(f:Array DictEntry->Array DictEntry):bR f (λ n=>n+1)=Obj.mapDictKeys f:=by
 funext o;obtain⟨c,d,x,s⟩:=o;cases x<;>rfl
theorem AY(h:Heap)(a:Addr):h.update a (bR (λ e=>e) (λ n=>n))=h:=by
 have e:bR (λ e=>e) (λ n=>n)=λ o=>o:=by funext o;obtain⟨c,d,x,s⟩:=o;cases x<;>rfl
 rw[e]
 obtain⟨objs,l⟩:=h
 show(⟨objs.modify a λ o=>o,l⟩:Heap)=_
 have e:objs.modify a (λ o=>o)=objs:=Array.ext (Array.size_modify ..) λ i h1 h2=>by
  rw[Array.getElem_modify]
  exact ite_self _
 rw[e]
variable {d:Addr}{key:Value}{es:Array DictEntry}{r:Option Nat}{hsh:Int}{n:Nat}{sl:Array (Option Value)}(K:j6 prog w d key es r hsh)
 (ho:s.heap.get? d=some ⟨.type "dict",none,.dict es n,sl⟩)
include K ho
theorem fR{Q:Option Value->Shared->Prop}(h:Q (fP r es.toList) {s with toks:=s.toks+1}):wpAny (model prog w) A (dictGet d key) Q E s:=by
 unfold dictGet
 try with_reducible refine wpAny_holding ?_
 refine aW (K.1 _ _ _ _ (aW (K.2.2 _ _ _ _ n sl ho ?_)))
 rw[qN] at h
 cases r with
 |none=>exact cp h
 |some i=>exact aW (wpAny_dictEntries (s:={s with toks:=s.toks+1}) ho rfl (cp h))
theorem kO{Q:Option DictEntry->Shared->Prop}(hz:es.size<=sizeLine)(hb:∀i,r=some i->i<es.size)
  (h:Q (r.bind λ i=>es[i]?) {s with heap:=s.heap.update d (bR (lV r) (nJ r)),toks:=s.toks+1}):wpAny (model prog w) A (Builtin.Dict.takeOut d key) Q E s:=by
 unfold Builtin.Dict.takeOut
 try with_reducible refine wpAny_holding ?_
 refine aW (K.1 _ _ _ _ (aW (K.2.2 _ _ _ _ n sl ho ?_)))
 cases r with
 |none=>
  have h:Q none {s with heap:=s.heap.update d (bR (λ e=>e) (λ n=>n)),toks:=s.toks+1}:=h
  rw[AY] at h
  exact cp h
 |some i=>
  refine aW (wpAny_dictEntries (s:={s with toks:=s.toks+1}) ho rfl ?_)
  have hlt:=hb i rfl
  have he:es[i]? =some es[i]:=Array.getElem?_eq_getElem hlt
  have h:Q (es[i]?) {s with heap:=s.heap.update d (bR (λ es=>es.eraseIdxIfInBounds i) (λ n=>n+1)),toks:=s.toks+1}:=h
  rw[gW] at h
  rw[he] at h ⊢
  exact aW (wpAny_updateDictKeys (hz:=hz) (s:={s with toks:=s.toks+1}) ho rfl (cp h))
theorem pM{v:Value}{Q:Unit->Shared->Prop}(hz:es.size<=sizeLine)(h:Q () {s with heap:=s.heap.update d (bR (aK r hsh key v) (be r)),toks:=s.toks+1}):wpAny (model prog w) A (dictSet d key v) Q E s:=by
 unfold dictSet
 try with_reducible refine wpAny_holding ?_
 refine aW (K.1 _ _ _ _ ?_)
 unfold dictSetHashed
 try with_reducible refine wpAny_holding ?_
 refine aW (K.2.2 _ _ _ _ n sl ho ?_)
 cases r with
 |none=>exact aW (wpAny_rule (wpAny_updateDictKeys (hz:=hz) (s:={s with toks:=s.toks+1}) ho rfl (gW (λ es=>es.push ⟨hsh,key,v⟩)▸h)))
 |some i=>exact aW (wpAny_rule (aW (wpAny_updateDict (s:={s with toks:=s.toks+1}) ho rfl (wpAny_point (mK (λ es=>es.modify i λ e=>{e with val:=v})▸h)))))
theorem mL{R:Result->Shared->Prop}{v:Value}(hv:fP r es.toList=some v)(h:R (.ok (.ret v)) {s with toks:=s.toks+1}):
  codeAny (model prog w) A (.call (.builtin "dict.__getitem__") ⟨[.ref d,key],[]⟩) R s:=by
 refine bk slot_dict_getitem ⟨_,ho,rfl⟩ entry_dict_getitem (args_dict_getitem _ _) λ E=>?_
 show wpAny _ _ (dictGet d key >>=_) _ _ s
 refine aW (fR K ho ?_)
 rw[hv]
 exact cp ⟨v,rfl,h⟩
theorem lN{R:Result->Shared->Prop}(hd:(d == sysModules)=false)(h:R (.ok (.ret (.bool (fP r es.toList).isSome))) {s with toks:=s.toks+1}):
  codeAny (model prog w) A (.call (.builtin "dict.__contains__") ⟨[.ref d,key],[]⟩) R s:=by
 refine bk slot_dict_contains ⟨_,ho,rfl⟩ entry_dict_contains (args_dict_contains _ _) λ E=>?_
 show wpAny _ _ (dictGet d key >>=_) _ _ s
 refine aW (fR K ho ?_)
 generalize fP r es.toList=x at h
 cases x with
 |some v=>exact cp ⟨_,rfl,h⟩
 |none=>
  show wpAny _ _ (Builtin.Dict.pendingKey? d key >>=_) _ _ _
  exact aW (wpAny_pendingKey_other hd (cp ⟨_,rfl,h⟩))
theorem ty{R:Result->Shared->Prop}(hd:(d == sysModules)=false)(rest:List Value)(hr:Nat.ble rest.length 1=true)(h:R (.ok (.ret ((fP r es.toList).getD (rest.headD .none)))) {s with toks:=s.toks+1}):
  codeAny (model prog w) A (.call (.builtin "dict.get") ⟨.ref d::key::rest,[]⟩) R s:=by
 rcases rest with _ |⟨y,_ |⟨_,_⟩⟩
 rotate_right
 ·exact ft hr
 ·refine bk F.slot_dict_get ⟨_,ho,rfl⟩ F.entry_dict_get (F.args_dict_get_2 _ _) λ E=>?_
  show wpAny _ _ (dictGet d key >>=_) _ _ s
  refine aW (fR K ho ?_)
  generalize fP r es.toList=x at h
  cases x with
  |some v=>exact cp ⟨v,rfl,h⟩
  |none=>
   show wpAny _ _ (Builtin.Dict.missed d key >>=_) _ _ _
   exact aW (wpAny_missed_other hd (cp ⟨.none,rfl,h⟩))
 ·refine bk F.slot_dict_get ⟨_,ho,rfl⟩ F.entry_dict_get (F.args_dict_get_3 _ _ _) λ E=>?_
  show wpAny _ _ (dictGet d key >>=_) _ _ s
  refine aW (fR K ho ?_)
  generalize fP r es.toList=x at h
  cases x with
  |some v=>exact cp ⟨v,rfl,h⟩
  |none=>
   show wpAny _ _ (Builtin.Dict.missed d key >>=_) _ _ _
   exact aW (wpAny_missed_other hd (cp ⟨y,rfl,h⟩))
theorem mM{R:Result->Shared->Prop}(v:Value)(hz:es.size<=sizeLine)
  (h:R (.ok (.ret .none)) {s with heap:=s.heap.update d (bR (aK r hsh key v) (be r)),toks:=s.toks+1}):
  codeAny (model prog w) A (.call (.builtin "dict.__setitem__") ⟨[.ref d,key,v],[]⟩) R s:=by
 refine bk slot_dict_setitem ⟨_,ho,rfl⟩ entry_dict_setitem (args_dict_setitem _ _ _) λ E=>?_
 show wpAny _ _ (Builtin.Dict.notOrdered "__setitem__" ⟨[.ref d,key,v],[]⟩ >>=_) _ _ s
 refine aW (wpAny_notOrdered_dict ⟨_,ho,rfl⟩ ?_)
 show wpAny _ _ (dictSet d key v >>=_) _ _ s
 exact aW (pM K ho hz (cp ⟨.none,rfl,h⟩))
omit K ho in
theorem gX{M:Model}{α:Type}{c:Prop}{_:Decidable c}{x y:Sem α}{Q:α->Shared->Prop}(h:c)(g:wpAny M A x Q E s):wpAny M A (if c then x else y) Q E s:=by rw[if_pos h];exact g
theorem tz{R:Result->Shared->Prop}(hd:(d == sysModules)=false)(rest:List Value)(hr:Nat.ble rest.length 1=true)(hz:es.size<=sizeLine)(hb:∀i,r=some i->i<es.size){v:Value}(hv:(fP r es.toList).or rest.head? =some v)
  (h:R (.ok (.ret v)) {s with heap:=s.heap.update d (bR (lV r) (nJ r)),toks:=s.toks+1}):
  codeAny (model prog w) A (.call (.builtin "dict.pop") ⟨.ref d::key::rest,[]⟩) R s:=by
 rw[qN] at hv
 rcases rest with _ |⟨y,_ |⟨_,_⟩⟩
 rotate_right
 ·exact ft hr
 ·refine bk F.slot_dict_pop ⟨_,ho,rfl⟩ F.entry_dict_pop (F.args_dict_pop_2 _ _) λ E=>?_
  unfold Builtin.«dict.pop»
  refine aW ?_
  unfold Builtin.Dict.keyAndDefault
  refine aW (wpAny_notOrdered_dict ⟨_,ho,rfl⟩ ?_)
  show wpAny _ _ (pure (d,key,none)) _ _ s
  refine cp ?_
  refine gX K.2.1 (aW (cp ?_))
  refine aW (kO K ho hz hb ?_)
  generalize (r.bind λ i=>es[i]?)=x at hv
  cases x with
  |none=>exact no hv
  |some e=>
   cases hv
   exact aW (wpAny_letGo (cp ⟨e.val,rfl,h⟩))
 ·refine bk F.slot_dict_pop ⟨_,ho,rfl⟩ F.entry_dict_pop (F.args_dict_pop_3 _ _ _) λ E=>?_
  unfold Builtin.«dict.pop»
  refine aW ?_
  unfold Builtin.Dict.keyAndDefault
  refine aW (wpAny_notOrdered_dict ⟨_,ho,rfl⟩ ?_)
  show wpAny _ _ (pure (d,key,some y)) _ _ s
  refine cp ?_
  refine gX K.2.1 (aW (cp ?_))
  refine aW (kO K ho hz hb ?_)
  generalize (r.bind λ i=>es[i]?)=x at hv
  cases x with
  |none=>
   cases hv
   show wpAny _ _ (Builtin.Dict.missedRemoval _ _ >>=_) _ _ _
   refine aW (wpAny_missedRemoval_other hd ?_)
   exact aW (wpAny_rule (cp ⟨_,rfl,h⟩))
  |some e=>
   cases hv
   exact aW (wpAny_letGo (cp ⟨e.val,rfl,h⟩))
end
end
section
variable {prog:Program}{w:World}{s:Shared}
theorem mN{f:Value}{pos:List Value}{R:Result->Shared->Prop}{Γ:Ctx}{p:Pos}
  (h:∀A E,A=(eU Γ).under Γ.code->wpAny (model prog w) A (call f pos) (λ v s'=>R (.ok (.ret v)) s') E s):wpCode (model prog w) (Γ.enter (.call f ⟨pos,[]⟩) none p) R p s:=by
 have z:=h ((eU Γ).under Γ.code) (λ _ _=>False) rfl Γ p (bG Γ).in
 unfold call runValue run at z
 refine wpCode_mono (λ r s' x=>?_) (show wpCode (model prog w) (Γ.enter (.call f ⟨pos,[]⟩) none p) _ p s from z)
 rcases r with e |(_ |_ |_ |v)<;>first |exact x |exact(show False from x).elim
theorem nX{c:Code}{R:Result->Shared->Prop}{Γ:Ctx}{hd:Option Value}{p:Pos}(h:∀A,codeAny (model prog w) A c R s):wpCode (model prog w) (Γ.enter c hd p) R p s:=
 h (eU (Γ.enter c hd p)) _ p rfl (bG _)
theorem nY{t:Addr}{items:Array Value}{ys:List Str}{x:Str}{u:Tok}{A:Around}{R:Result->Shared->Prop}(ht:PyProof.Rows.IsTup s.heap t items)(hi:PyProof.Rows.StrsAre items.toList ys)
  (h:R (.ok (.ret (.bool (ys.any (·== x))))) s):codeAny (model prog w) A (.call (.builtin "tuple.__contains__") ⟨[.ref t,.str x u],[]⟩) R s:=
 bk PyProof.Rows.slot_tuple_contains ht.typeIs PyProof.Rows.entry_tuple_contains (PyProof.Rows.args_tuple_contains _ _) λ E=>PyProof.Rows.tuple_contains_strs ht hi ⟨_,rfl,h⟩
theorem xm{v:Value}{y:Str×Tok}(h:w2 v=some y):v= .str y.1 y.2:=by
 cases v<;>first |exact no h |(cases h;rfl)
theorem mO(l:List Value)(h:nL l=true):∃ys,PyProof.Rows.StrsAre l ys/\∀x,sS x l=ys.any (·== x):=by
 induction l with
 |nil=>exact⟨[],.nil,λ _=>rfl⟩
 |cons v r ih=>
  have h:=Bool.and_eq_true_iff.mp h
  obtain⟨ys,h1,h2⟩:=ih h.2
  obtain⟨y,e⟩:=Option.isSome_iff_exists.mp h.1
  rw[xm e]
  exact⟨y.1::ys,.cons y.1 y.2 h1,λ x=>congrArg (y.1 == x || ·) (h2 x)⟩
end
theorem iG:1000<=sizeLine:=by decide+kernel
theorem tA{x:Str}{es:Array DictEntry}{i:Nat}(h:cE x es.toList 0=some i):i<es.size:=by
 rw[nU] at h
 obtain⟨j,hj,rfl⟩:=sN.mp h
 exact(List.findIdx?_eq_some_iff_getElem.mp hj).1
theorem rT{x:Int}{es:Array DictEntry}{i:Nat}(h:bI x es.toList 0=some i):i<es.size:=by
 rw[me] at h
 obtain⟨j,hj,rfl⟩:=sN.mp h
 exact(List.findIdx?_eq_some_iff_getElem.mp hj).1
structure jK.OkW(C:jK)(prog:Program)(w:World):Prop where
 sys:sysModules<C.n1
 hash:C.P.strHash=w.2.strHash
structure Eb(Z:Rn):Prop where
 x:rF Z.E
 sys:sysModules<Z.E.n1
 hash:∀x,ae Z.E.set1 x=hashStr Z.w x
section
variable {Z:Rn}(X:Eb Z){s:ES}{Γ:Ctx}{R:Result->Shared->Prop}{p:Pos}{h:Heap}(D:dR Z s h){c:Code}{go:Value->ES->RT}(hR:∀v s',Z.Both (go v s')->∀h',dR Z s' h'->R (.ok (.ret v)) (Z.sh s' h'))
theorem pN{S:Setting}{k:Value}{es:List DictEntry}{x:Option Nat×Int}(h:qC S k es=some x):nI S k es x.1 x.2:=by
 cases k<;>first |exact no h |skip
 ·rename_i i t
  have h:(match gL es with |true=>some (bI i es 0,hashInt i) |false=>none)=some x:=h
  cases q:gL es with
  |true=>rw[q] at h;cases h;exact⟨⟨nW q,rfl⟩,rfl⟩
  |false=>rw[q] at h;exact no h
 ·rename_i y t
  have h:(match bQ es with |true=>some (cE y es 0,ae S y) |false=>none)=some x:=h
  cases q:bQ es with
  |true=>rw[q] at h;cases h;exact⟨q,rfl,rfl⟩
  |false=>rw[q] at h;exact no h
include X in
theorem tB{k:Value}{es:Array DictEntry}{r:Option Nat}{hsh:Int}(hk:nI Z.E.set1 k es.toList r hsh)(d:Addr):j6 Z.prog Z.w d k es r hsh/\∀i,r=some i->i<es.size:=by
 cases k<;>first |exact hk.elim |skip
 ·obtain⟨h1,rfl⟩:=hk
  exact⟨rS h1,λ i q=>rT (h1.2.trans q)⟩
 ·obtain⟨h1,h2,h3⟩:=hk
  exact⟨by rw[h3,X.hash,<-h2];exact rR h1,λ i q=>tA (h2.trans q)⟩
include X D hR
theorem mf{j a op:Nat}{o:Obj}{r:Option Nat}{hsh:Int}{v:Value}(ht:s.T.get j=some (a,o))(hx:DX Z.E.set1 op (key c) (Ap c) (kC o).1 r hsh v)(g:Z.Both (mH c j a o op r hsh v s go)):wpCode Z.M (Γ.enter c none p) R p (Z.sh s h):=by
 refine g.e λ ec g=>g.e λ eo g=>?_
 obtain⟨hz,hk,hv⟩:=hx
 have own:=D.own _ _ _ ht
 have ho:(Z.sh s h).heap.get? a=some ⟨.type "dict",none,.dict (kC o).1 (kC o).2,o.slots⟩:=own.1.trans (congrArg some eo)
 obtain⟨K,hb⟩:=tB X hk a
 have hd:(a == sysModules)=false:=nC.mpr λ q=>Nat.not_le_of_lt X.sys (q▸own.2.2.1)
 have hz:=ky hz iG
 have up:∀f g,dR Z ((s.fr 1).up j (bR f g)) (h.update a (bR f g)):=λ f g=>(D.fr 1).up X.x ht (by rw[eo];rfl)
 have fin:=λ h' D'=>hR v _ g h' D'
 rw[ec]
 generalize key c=k at*
 generalize Ap c=rest at*
 refine nX λ A=>?_
 rcases op with _ |_ |_ |_ |op
 ·rcases rest with _ |⟨y,rest⟩
  ·exact mL K ho hv (fin h (D.fr 1))
  ·exact no hv
 ·rcases rest with _ |⟨y,rest⟩
  ·refine lN K ho hd ?_
   cases hv
   exact fin h (D.fr 1)
  ·exact no hv
 ·have hv:(match Nat.ble rest.length 1 with |true=>some ((fP r (kC o).1.toList).getD (rest.headD .none)) |false=>none)=some v:=hv
  cases q:Nat.ble rest.length 1 with
  |false=>rw[q] at hv;exact no hv
  |true=>
   rw[q] at hv
   refine ty K ho hd rest q ?_
   cases hv
   exact fin h (D.fr 1)
 ·rcases rest with _ |⟨y,_ |⟨_,_⟩⟩
  ·exact no hv
  ·refine mM K ho y hz ?_
   cases hv
   exact fin _ (up _ _)
  ·exact no hv
 ·have hv:(match Nat.ble rest.length 1 with |true=>(fP r (kC o).1.toList).or rest.head? |false=>none)=some v:=hv
  cases q:Nat.ble rest.length 1 with
  |false=>rw[q] at hv;exact no hv
  |true=>
   rw[q] at hv
   exact tz K ho hd rest q hz hb hv (fin _ (up _ _))
theorem tC(g:Z.Both (lW c s go)):wpCode Z.M (Γ.enter c none p) R p (Z.sh s h):=by
 refine g.p λ j r g=>g.l λ a o ht g=>g.t λ x _ g=>g.e λ ec g=>g.e λ eo g=>g.e λ hs g=>?_
 obtain⟨ys,h1,h2⟩:=mO _ hs
 rw[ec]
 refine nX λ A=>nY (items:=(lM o).1) ⟨_,(D.own _ _ _ ht).1.trans (congrArg some eo),rfl,_,rfl⟩ h1 ?_
 rw[<-h2]
 exact hR _ _ g h (D.o r)
theorem rU(g:Z.Both (kD c s go)):wpCode Z.M (Γ.enter c none p) R p (Z.sh s h):=by
 refine g.p λ j r g=>g.l λ a o ht g=>g.e λ ec g=>g.e λ eo g=>g.e λ hc g=>g.t λ y hy g=>?_
 have hc:=Bool.and_eq_true_iff.mp hc
 rw[ec]
 have ho:(Z.sh s h).heap.get? a=some _:=(D.own _ _ _ ht).1.trans (congrArg some eo)
 have sz:(Z.sh s h).heap.objs.size=s.nx:=D.size
 have hy:((s.o r).new jg).T.get s.nid=some y:=hy
 refine mN λ A E hA=>callType_codes (Q₁:=λ obj s₁=>obj= .ref (Z.sh s h).heap.objs.size/\s₁={(Z.sh s h) with heap:=(Z.sh s h).heap.push jg}) PySem.F.called_list (PySem.F.typeCall_list_1 _) PySem.F.entry_list_init
  (code_list_new _ ⟨rfl,rfl⟩) λ obj s₁ h₁=>?_
 obtain⟨rfl,rfl⟩:=h₁
 have hS:((Z.sh s h).heap.push jg).get? (Z.sh s h).heap.objs.size=some jg:=An _ rfl
 refine⟨⟨_,hS,rfl⟩,PySem.F.args_list_init_2 _ _,wpAny_list_init_seq (hsz:=ky (L3 hc.2) iG) _ a ((Bool.or_eq_true_iff.mp hc.1).imp eq_of_beq eq_of_beq) (λ e=>Cz _ (e▸kz ho)) hS (Heap.get?_push_of_some _ ho) rfl rfl ⟨rfl,?_⟩⟩
 have d1:=(D.o r).new (o:=jg) rfl (by rw[show((s.o r).new jg).T.get (s.o r).nid=some y from hy];rfl)
 have gi:=MT.get_ins s.nx jg s.T s.nid (by rw[show(s.T.ins s.nid s.nx jg).get s.nid=some y from hy];rfl) s.nid
 rw[if_pos rfl] at gi
 have d2:=d1.up X.x (j:=s.nid) (a:=s.nx) (o:=jg) gi (f:=Obj.mapSeq λ v=> #[]) rfl
 have d3:=d2.up X.x (j:=s.nid) (a:=s.nx) (o:=Obj.mapSeq (λ v=> #[]) jg) (by show((s.T.ins s.nid s.nx jg).set s.nid _).get s.nid=_;rw[MT.get_set,if_pos rfl,gi];rfl) (f:=Obj.mapSeq (·++(lM o).1)) rfl
 rw[sz]
 exact hR _ _ g _ d3
theorem rV{o:Nat}(g:Z.Both (y9 Z.E.set1 o c s go)):wpCode Z.M (Γ.enter c none p) R p (Z.sh s h):=
 g.c (λ g=>g.p λ op r1 g=>g.p λ j r2 g=>g.l λ a o ht g=>g.e λ hz g=>g.t λ x hk g=>g.t λ v hv g=>mf (s:=(s.o r1).o r2) X ((D.o r1).o r2) hR ht ⟨L3 hz,pN hk,hv⟩ g) λ g=>
 g.c (tC X D hR) λ g=>g.c (λ g=>g.p λ op r1 g=>g.p λ j r2 g=>g.l λ a o ht g=>g.px λ y q g=>by
  cases y with
  |dict r hsh v=>exact mf (s:=((s.o r1).o r2).x q) X (((D.o r1).o r2).x q) hR ht g.1 g.2
  |_=>exact g.elim) (rU X D hR)
end
theorem zj{prog:Program}{w:World}{C:jK}{G:Shared}(okw:C.OkW prog w){B:Ctx}{nb:Nat}{frr:List (Nat×Nat)}{n0:Nat}(X:rF (C.at B nb frr n0)){R:Result->Shared->Prop}{F:Nat->Prop}{h0:Heap}:pA ⟨prog,w,C.at B nb frr n0,G,R,F,h0⟩:=
 λ _ _ _ _ g _ _ _ _ D hR=>rV ⟨X,okw.sys,λ x=>by
  show(if x.cps.isEmpty then 0 else reduceHash (C.P.strHash x.cps))=hashStr w x
  rw[okw.hash]
  rfl⟩ D hR g
noncomputable def aX(id:String)(a b:Int)(t u:Tok)(r:Bool):SP:=⟨.call (.builtin id) ⟨[.int a t,.int b u],[]⟩,.ok (.ret (.bool r)),0⟩
noncomputable def bL(id:String)(a b:Str)(t u:Tok)(r:Bool):SP:=⟨.call (.builtin id) ⟨[.str a t,.str b u],[]⟩,.ok (.ret (.bool r)),0⟩
section
variable {prog:Program}{w:World}{G:Shared}
theorem ic{z:SP}(h:∀(A:Around) (R:Result->Shared->Prop) (s:Shared),R z.res {s with toks:=s.toks+z.i}->codeAny (model prog w) A z.code R s):z.Holds (model prog w) G:=by
 intro Γ R p h0 tok hc _ _ hR
 exact h (eU Γ) R {G with heap:=h0,toks:=tok} hR Γ p hc (bG Γ)
variable {a b:Int}{x y:Str}{t u:Tok}{r:Bool}
theorem eV(h:decide (a<b)=r):(aX "int.__lt__" a b t u r).Holds (model prog w) G:=
 ic λ A R s hR=>bk PySem.F.slot_int_lt (typeIs_int s a t) PySem.F.entry_int_lt (PySem.F.args_int_lt_2 _ _) λ E=>by
  show wpAny _ _ (ret (.bool (decide (a<b)))) _ _ s
  rw[h];exact cp ⟨_,rfl,hR⟩
theorem gY(h:decide (a<=b)=r):(aX "int.__le__" a b t u r).Holds (model prog w) G:=
 ic λ A R s hR=>bk PySem.F.slot_int_le (typeIs_int s a t) PySem.F.entry_int_le (PySem.F.args_int_le_2 _ _) λ E=>by
  show wpAny _ _ (ret (.bool (decide (a<=b)))) _ _ s
  rw[h];exact cp ⟨_,rfl,hR⟩
theorem tD(h:decide (a>b)=r):(aX "int.__gt__" a b t u r).Holds (model prog w) G:=
 ic λ A R s hR=>bk PySem.F.slot_int_gt (typeIs_int s a t) PySem.F.entry_int_gt (PySem.F.args_int_gt_2 _ _) λ E=>by
  show wpAny _ _ (ret (.bool (decide (a>b)))) _ _ s
  rw[h];exact cp ⟨_,rfl,hR⟩
theorem DF(h:decide (a >=b)=r):(aX "int.__ge__" a b t u r).Holds (model prog w) G:=
 ic λ A R s hR=>bk PySem.F.slot_int_ge (typeIs_int s a t) PySem.F.entry_int_ge (PySem.F.args_int_ge_2 _ _) λ E=>by
  show wpAny _ _ (ret (.bool (decide (a >=b)))) _ _ s
  rw[h];exact cp ⟨_,rfl,hR⟩
theorem dK(h:(a == b)=r):(aX "int.__eq__" a b t u r).Holds (model prog w) G:=
 ic λ A R s hR=>bk PySem.F.slot_int_eq (typeIs_int s a t) PySem.F.entry_int_eq (PySem.F.args_int_eq_2 _ _) λ E=>by
  show wpAny _ _ (ret (.bool (a == b))) _ _ s
  rw[h];exact cp ⟨_,rfl,hR⟩
theorem DG(h:(a != b)=r):(aX "int.__ne__" a b t u r).Holds (model prog w) G:=
 ic λ A R s hR=>bk PySem.F.slot_int_ne (typeIs_int s a t) PySem.F.entry_int_ne (PySem.F.args_int_ne_2 _ _) λ E=>by
  show wpAny _ _ (ret (.bool (a != b))) _ _ s
  rw[h];exact cp ⟨_,rfl,hR⟩
end
section
variable {prog:Program}{w:World}{G:Shared}
theorem nZ{T:String}{name:Str}{id:String}{B:Builtin}{self v:Value}{rest:List Value}(slot:Slot T name id)(hT:∀s:Shared,s.TypeIs self T)
  (mc:entryFor table id=some B)(args:argsOk id ⟨self::rest,[]⟩)(g:Gives (B ⟨self::rest,[]⟩) (.val v)):SP.Holds (model prog w) G ⟨.call (.builtin id) ⟨self::rest,[]⟩,.ok (.ret v),0⟩:=
 ic λ A R s hR=>codeAny_call_builtin slot.plain mc (slot.check _ _ _ _ _ _ _ _ (hT s) args (g prog w A R s hR))
variable {x y:Str}{t u:Tok}{r:Bool}
theorem aD(h:(x.cps.toList == y.cps.toList)=r):(bL "str.__eq__" x y t u r).Holds (model prog w) G:=by
 subst h
 exact nZ PySem.F.slot_str_eq (λ s=>typeIs_str s x t) PySem.F.entry_str_eq (PySem.F.args_str_eq_2 _ _) (gives_str_eq x y t u)
theorem cj(h:(x.cps.toList != y.cps.toList)=r):(bL "str.__ne__" x y t u r).Holds (model prog w) G:=by
 subst h
 exact nZ PySem.F.slot_str_ne (λ s=>typeIs_str s x t) PySem.F.entry_str_ne (PySem.F.args_str_ne_2 _ _) (gives_str_ne x y t u)
end
noncomputable def zk:Code->Sem Fin:=Fast.tw11892475500146522536 Fast.tw14364793385576792824
def zl(f g:Sem Fin)(x:Expr×Comprehension×List Comprehension×Scope×Pos)(d:Nat):Sem Fin:=match x.2.2.1,x.2.1.ifs,x.2.1.is_async,d with
 |[],[],.ofNat 0,0=>f
 |_,_,_,_=>g
def pO(e:Expr)(d:Nat)(it acc:Value)(env:Env):Sem Fin:=match ek e with
 | .lc x=>zl (ym fast x.1 x.2.1.target x.2.1.iter x.2.2.2.1 x.2.2.2.2 it acc env) (Fast.tw1180062409338748621 e d it acc env) x d
 |_=>Fast.tw1180062409338748621 e d it acc env
theorem rW(e:Expr)(d:Nat)(it acc:Value)(env:Env):compTurn e d it acc env=pO e d it acc env:=by
 have q:compTurn e d it acc env=Fast.tw1180062409338748621 e d it acc env:=by rw[<-Fast.te1180062409338748621]
 have h:=qB e
 unfold pO
 generalize ek e=k at h ⊢
 cases k<;>first |exact q |skip
 rename_i x
 obtain⟨elt,⟨target,iter,ifs,(as |as)⟩,rest,scope,pos⟩:=x
 rotate_left
 ·cases rest<;>cases ifs<;>exact q
 cases rest<;>first |exact q |skip
 cases ifs<;>first |exact q |skip
 cases as<;>first |exact q |skip
 cases d<;>first |exact q |skip
 have h:e=_:=h
 subst h
 exact tt ..
def pP:Code->Option (Sem Fin×Env×Bool)
 | .func body env=>some (R.bindR point λ _=>jk fast env (λ fl=>match fl with
  | .ret v=>Fast.tw6905046200447255374 v
  |_=>Fast.tw6905046200447255374 .none) body,env,true)
 | .block stmts env=>some (R.bindR (Fast.tw12563942051412417395 stmts env) λ fl=>.pure (.done fl),env,false)
 | .handlers e hs env=>some (R.bindR (Fast.tw11471732733879165300 e env hs) λ fl=>.pure (.done fl),env,false)
 | .whileLoop test body orelse env=>some (Fast.tw12362719219628433562 test body orelse env,env,false)
 | .forLoop target it body orelse env=>some (AX fast target it body orelse env,env,false)
 | .compLoop e d it acc env=>match(Code.compLoop e d it acc env).isFrame with
  |true=>none
  |false=>some (pO e d it acc env,env,false)
 |_=>none
noncomputable def CH(fd:FuncData)(args:Args)(a:Addr):Sem Fin:=
 R.bindR (Fast.tw9782568553167038054 fd args) λ binds=>
 R.bindR (Fast.tw11113344188204177931 fd.scope fd.globals fd.closure binds (fd.qualname++".<locals>.") (some a) fd.code none fd.builtins) λ env=>
 R.bindR Fast.tw2211186353215096513 λ limit=>
  if limit=recursionLimit then .pure (.again (match fd.body with | .stmts b=>.func b env | .expr e=>.expr e env)) else unsupported "limit"
theorem zm:denote table=zk:=by
 unfold zk
 rw[<-Fast.te11892475500146522536,<-Fast.te14364793385576792824,table_eq_tree]
theorem tF:gq=pP:=by
 funext c
 unfold gq pP
 rw[<-Fast.te12563942051412417395,<-Fast.te6905046200447255374,<-Fast.te11471732733879165300,<-Fast.te12362719219628433562,<-R.bindR_eq]
 cases c with
 |func body env=>
  show some (Sem.bind point λ _=>Sem.bind (execs body env) _,_,_)=some (Sem.bind point λ _=>jk fast env _ body,_,_)
  rw[<-te,ma]
  try rfl
 |forLoop target it body orelse env=>show some (_,_,_)=some (_,_,_);rw[xg]
 |compLoop e d it acc env=>simp only[rW];try rfl
 |_=>rfl
theorem AZ:lY=CH:=by
 funext fd args a
 unfold lY CH
 rw[<-Fast.te9782568553167038054,<-Fast.te11113344188204177931,<-Fast.te2211186353215096513,<-R.bindR_eq]
 rfl
def tG(st:List (Code×Pos)):Sem Unit:=Cc st (Fast.tw10648789137845014744 "comparison")
theorem xn:iC=tG:=by
 funext st
 unfold iC tG
 rw[<-Fast.te10648789137845014744]
def jK.fast(C:jK)(B:Ctx)(nb:Nat)(fr:List (Nat×Nat))(n0:Nat):EC:=⟨zk,pP,CH,C.set1,C.setF,⟨C.prog,C.P⟩,C.setR,tG,xh.1,xe,Fast.tw17872113653443481271,yn,C.tf,C.top,C.n1,B,nb,fr,n0⟩
theorem xo(C:jK):C.at=C.fast:=by
 funext B nb fr n0
 unfold jK.at jK.fast
 rw[zm,tF,AZ,xn,qJ,Fast.te17872113653443481271]
noncomputable def bY:List Stmt:=qw.main.body
noncomputable def aq:List Stmt->Nat->Stmt
 |[],_=>default
 |s::_,0=>s
 |_::r,n+1=>aq r n
noncomputable def xp:Stmt->List Stmt
 | .ClassDef _ _ _ body _ _ _ _ _ _ _=>body
 |_=>[]
def CI(s:Stmt)(q:Str)(g:Addr)(cl:List (Str×Addr))(d kd doc pm:Value)(an:Option Addr)(code ct:Value)(bi:Addr):Data:=match s with
 | .FunctionDef name args body _ _ _ scope _ _ _=>.func ⟨name,q,args,.stmts body,scope,g,cl,d,kd,doc,pm,an,code,ct,bi⟩
 |_=>.plain
noncomputable def u(l:List Nat):Str:=⟨⟨l⟩⟩
def kP:Str:=u [95,95,110,97,109,101,95,95]
def eD:Str:=u [95,95,100,111,99,95,95]
def gZ:Str:=u [95,95,112,97,99,107,97,103,101,95,95]
def iH:Str:=u [95,95,108,111,97,100,101,114,95,95]
def kQ:Str:=u [95,95,115,112,101,99,95,95]
def bx:Str:=u [108,97,119,95,112,102,48,48,50,50,95,48,49]
def dG:Str:=u [47,99,108,97,105,109,47,99,117,116,46,112,121]
def cV:Str:=u [66,97,115,105,99,69,114,114,111,114]
def cW:Str:=u [107,105,110,100,95,111,102,95,110,97,109,101]
def dj:Str:=u [102,105,114,115,116,95,118,97,108,117,101]
def dS:Str:=u [119,104,111,108,101,95,110,101,97,114]
def mP:Str:=u [102,105,116,115]
def fS:Str:=u [119,104,111,108,101,95,111,102]
def gP:Str:=u [116,101,120,116,95,111,102]
def cX:Str:=u [99,104,101,99,107,101,100,95,116,101,120,116]
def iI:Str:=u [115,117,105,116,101,100]
def dT:Str:=u [99,104,101,99,107,95,110,97,109,101]
def eW:Str:=u [111,112,101,110,95,102,105,108,101]
def bD:Str:=u [105,115,95,119,114,105,116,116,101,110,95,101,108,115,101,119,104,101,114,101]
def dU:Str:=u [99,104,97,110,110,101,108,95,111,102]
def dV:Str:=u [99,108,111,115,101,95,102,105,108,101]
def dW:Str:=u [115,101,116,95,102,105,101,108,100,115]
def fT:Str:=u [110,111,95,102,105,101,108,100]
def iJ:Str:=u [112,108,97,99,101,100]
def dX:Str:=u [115,101,116,95,112,108,97,99,101,100]
def dq:Str:=u [114,101,99,111,114,100,95,116,111,108,100]
def dY:Str:=u [103,101,116,95,114,101,99,111,114,100]
def dZ:Str:=u [112,117,116,95,114,101,99,111,114,100]
def iK:Str:=u [87,111,114,108,100]
def eX:Str:=u [107,105,110,100,95,104,101,114,101]
def fU:Str:=u [103,101,116,95,110,97,109,101]
def fV:Str:=u [115,101,116,95,110,97,109,101]
def fW:Str:=u [100,111,95,102,105,101,108,100]
def fX:Str:=u [100,111,95,102,105,108,101,115]
def fw:Str:=u [67,111,110,116,114,111,108]
def cL:Str:=u [103,105,118,101,95,118,97,114,105,97,98,108,101]
def cM:Str:=u [112,97,114,116,115,95,111,102,95,116,114,101,101]
def cN:Str:=u [119,111,114,116,104,95,111,102,95,116,114,101,101]
def gQ:Str:=u [119,111,114,116,104]
def fy:Str:=u [87,111,114,107,82,117,110]
def eY:Str:=u [95,108,97,119,95,110,101,120,116]
def cY:Str:=u [95,108,97,119,95,97,110,115,119,101,114,115]
def ed:Str:=u [95,108,97,119,95,111,114,100,101,114]
def fa:Str:=u [95,108,97,119,95,100,111,110,101]
def dt:Str:=u [95,108,97,119,95,115,116,97,110,100,115]
def qO:Str:=u [108,97,119]
def cx:Str:=u [95,95,105,110,105,116,95,95]
def c8:Str:=u [66,97,115,105,99,69,114,114,111,114,46,95,95,105,110,105,116,95,95]
def aG:Str:=u [98,97,115,105,99,112,108,117,115,46,118,97,108,117,101,115]
def ej:Str:=u [95,95,109,111,100,117,108,101,95,95]
def cr:Str:=u [95,95,102,105,114,115,116,108,105,110,101,110,111,95,95]
def bw:Str:=u [95,95,115,116,97,116,105,99,95,97,116,116,114,105,98,117,116,101,115,95,95]
def du:Str:=u [95,95,119,101,97,107,114,101,102,95,95]
def aB:Str:=u [98,97,115,105,99,112,108,117,115,46,102,105,108,101,115]
def fz:Str:=u [87,111,114,108,100,46,95,95,105,110,105,116,95,95]
def bS:Str:=u [98,97,115,105,99,112,108,117,115,46,119,111,114,108,100]
def ie:Str:=u [95,95,100,105,99,116,95,95]
def fb:Str:=u [98,97,115,105,99,112,108,117,115,46,114,117,110,100,111]
def eI:Str:=u [67,111,110,116,114,111,108,46,95,95,105,110,105,116,95,95]
def dL:Str:=u [98,97,115,105,99,112,108,117,115,46,99,111,110,116,114,111,108]
def fc:Str:=u [98,97,115,105,99,112,108,117,115,46,119,111,114,116,104]
def eJ:Str:=u [87,111,114,107,82,117,110,46,95,95,105,110,105,116,95,95]
def a':Str:=u [98,97,115,105,99,112,108,117,115,46,119,111,114,107,114,117,110]
def f9:Str:=u [87,111,114,107,82,117,110,46,119,111,114,116,104]
def qP:Str:=u [119,104,111,108,101]
def ga:Str:=u [87,111,114,107,82,117,110,46,119,104,111,108,101]
def A0:Str:=u [102,110]
def iL:Str:=u [87,111,114,107,82,117,110,46,102,110]
def kR:Str:=u [97,110,115,119,101,114,101,100]
def eK:Str:=u [87,111,114,107,82,117,110,46,97,110,115,119,101,114,101,100]
def qQ:Str:=u [115,116,111,114,101]
def gb:Str:=u [87,111,114,107,82,117,110,46,115,116,111,114,101]
def e(P:Params)(s:Str)(t:Nat)(v:Value):DictEntry:=⟨ae ⟨qw,P⟩ s,.str s t,v⟩
def cO(n q:Str)(t l k a u:Nat)(x y z:Value):Obj:=⟨.type "code",none,.fields ⟨[.str n t,.str q (t+1),.str dG (t+2),.int l 0,.int k 0,.int 0 0,.int 0 0,.int 3 0,.ref a,.bool true,.int 181 0,.ref (a+1),.none,x,y,z,.int u 0,.int l 0,.str dG (u+1)]⟩,⟨[]⟩⟩
def gc(n q:Str)(t l k a u:Nat):Obj:=cO n q t l k a u (.ref (a+2)) (.ref (a+3)) (.ref (a+4))
def As(n q:Str)(t l k a u:Nat):Obj:=cO n q t l k a u .none .none (.ref (a+2))
def fO(s:Stmt)(q m:Str)(t c:Nat):Obj:=⟨.type "function",none,CI s q 3 [] .none .none .none (.str m t) none (.ref c) .none 0,⟨[]⟩⟩
def A1(P:Params):Obj:=⟨.type "dict",none,.dict ⟨[e P kP 1 (.str (u [98,117,105,108,116,105,110,115]) 160),e P eD 2 (.builtin "builtins.__doc__:str#opaque"),e P gZ 3 (.builtin "builtins.__package__:str#opaque"),e P iH 4 (.builtin "builtins.__loader__:shared#opaque"),e P kQ 5 (.builtin "builtins.__spec__#opaque"),e P (u [95,95,98,117,105,108,100,95,99,108,97,115,115,95,95]) 6 (.builtin "__build_class__"),e P (u [95,95,105,109,112,111,114,116,95,95]) 7 (.builtin "__import__"),e P (u [97,98,115]) 8 (.builtin "abs"),e P (u [97,108,108]) 9 (.builtin "all"),e P (u [97,110,121]) 10 (.builtin "any"),e P (u [97,115,99,105,105]) 11 (.builtin "ascii"),e P (u [98,105,110]) 12 (.builtin "bin"),e P (u [98,114,101,97,107,112,111,105,110,116]) 13 (.builtin "breakpoint"),e P (u [99,97,108,108,97,98,108,101]) 14 (.builtin "callable"),e P (u [99,104,114]) 15 (.builtin "chr"),e P (u [99,111,109,112,105,108,101]) 16 (.builtin "compile"),e P (u [100,101,108,97,116,116,114]) 17 (.builtin "delattr"),e P (u [100,105,114]) 18 (.builtin "dir"),e P (u [100,105,118,109,111,100]) 19 (.builtin "divmod"),e P (u [101,118,97,108]) 20 (.builtin "eval"),e P (u [101,120,101,99]) 21 (.builtin "exec"),e P (u [102,111,114,109,97,116]) 22 (.builtin "format"),e P (u [103,101,116,97,116,116,114]) 23 (.builtin "getattr"),e P (u [103,108,111,98,97,108,115]) 24 (.builtin "globals"),e P (u [104,97,115,97,116,116,114]) 25 (.builtin "hasattr"),e P (u [104,97,115,104]) 26 (.builtin "hash"),e P (u [104,101,120]) 27 (.builtin "hex"),e P (u [105,100]) 28 (.builtin "id"),e P (u [105,110,112,117,116]) 29 (.builtin "input"),e P (u [105,115,105,110,115,116,97,110,99,101]) 30 (.builtin "isinstance"),e P (u [105,115,115,117,98,99,108,97,115,115]) 31 (.builtin "issubclass"),e P (u [105,116,101,114]) 32 (.builtin "iter"),e P (u [97,105,116,101,114]) 33 (.builtin "aiter"),e P (u [108,101,110]) 34 (.builtin "len"),e P (u [108,111,99,97,108,115]) 35 (.builtin "locals"),e P (u [109,97,120]) 36 (.builtin "max"),e P (u [109,105,110]) 37 (.builtin "min"),e P (u [110,101,120,116]) 38 (.builtin "next"),e P (u [97,110,101,120,116]) 39 (.builtin "anext"),e P (u [111,99,116]) 40 (.builtin "oct"),e P (u [111,114,100]) 41 (.builtin "ord"),e P (u [112,111,119]) 42 (.builtin "pow"),e P (u [112,114,105,110,116]) 43 (.builtin "print"),e P (u [114,101,112,114]) 44 (.builtin "repr"),e P (u [114,111,117,110,100]) 45 (.builtin "round"),e P (u [115,101,116,97,116,116,114]) 46 (.builtin "setattr"),e P (u [115,111,114,116,101,100]) 47 (.builtin "sorted"),e P (u [115,117,109]) 48 (.builtin "sum"),e P (u [118,97,114,115]) 49 (.builtin "vars"),e P (u [78,111,110,101]) 50 .none,e P (u [69,108,108,105,112,115,105,115]) 51 .ellipsis,e P (u [78,111,116,73,109,112,108,101,109,101,110,116,101,100]) 52 .notImplemented,e P (u [70,97,108,115,101]) 53 (.bool false),e P (u [84,114,117,101]) 54 (.bool true),e P (u [98,111,111,108]) 55 (.type "bool"),e P (u [109,101,109,111,114,121,118,105,101,119]) 56 (.type "memoryview"),e P (u [98,121,116,101,97,114,114,97,121]) 57 (.type "bytearray"),e P (u [98,121,116,101,115]) 58 (.type "bytes"),e P (u [99,108,97,115,115,109,101,116,104,111,100]) 59 (.type "classmethod"),e P (u [99,111,109,112,108,101,120]) 60 (.type "complex"),e P (u [100,105,99,116]) 61 (.type "dict"),e P (u [101,110,117,109,101,114,97,116,101]) 62 (.type "enumerate"),e P (u [102,105,108,116,101,114]) 63 (.type "filter"),e P (u [102,108,111,97,116]) 64 (.type "float"),e P (u [102,114,111,122,101,110,115,101,116]) 65 (.type "frozenset"),e P (u [112,114,111,112,101,114,116,121]) 66 (.type "property"),e P (u [105,110,116]) 67 (.type "int"),e P (u [108,105,115,116]) 68 (.type "list"),e P (u [109,97,112]) 69 (.type "map"),e P (u [111,98,106,101,99,116]) 70 (.type "object"),e P (u [114,97,110,103,101]) 71 (.type "range"),e P (u [114,101,118,101,114,115,101,100]) 72 (.type "reversed"),e P (u [115,101,116]) 73 (.type "set"),e P (u [115,108,105,99,101]) 74 (.type "slice"),e P (u [115,116,97,116,105,99,109,101,116,104,111,100]) 75 (.type "staticmethod"),e P (u [115,116,114]) 76 (.type "str"),e P (u [115,117,112,101,114]) 77 (.type "super"),e P (u [116,117,112,108,101]) 78 (.type "tuple"),e P (u [116,121,112,101]) 79 (.type "type"),e P (u [122,105,112]) 80 (.type "zip"),e P (u [95,95,100,101,98,117,103,95,95]) 81 (.bool true),e P (u [66,97,115,101,69,120,99,101,112,116,105,111,110]) 82 (.type "BaseException"),e P (u [66,97,115,101,69,120,99,101,112,116,105,111,110,71,114,111,117,112]) 83 (.type "BaseExceptionGroup"),e P (u [69,120,99,101,112,116,105,111,110]) 84 (.type "Exception"),e P (u [71,101,110,101,114,97,116,111,114,69,120,105,116]) 85 (.type "GeneratorExit"),e P (u [75,101,121,98,111,97,114,100,73,110,116,101,114,114,117,112,116]) 86 (.type "KeyboardInterrupt"),e P (u [83,121,115,116,101,109,69,120,105,116]) 87 (.type "SystemExit"),e P (u [65,114,105,116,104,109,101,116,105,99,69,114,114,111,114]) 88 (.type "ArithmeticError"),e P (u [65,115,115,101,114,116,105,111,110,69,114,114,111,114]) 89 (.type "AssertionError"),e P (u [65,116,116,114,105,98,117,116,101,69,114,114,111,114]) 90 (.type "AttributeError"),e P (u [66,117,102,102,101,114,69,114,114,111,114]) 91 (.type "BufferError"),e P (u [69,79,70,69,114,114,111,114]) 92 (.type "EOFError"),e P (u [73,109,112,111,114,116,69,114,114,111,114]) 93 (.type "ImportError"),e P (u [76,111,111,107,117,112,69,114,114,111,114]) 94 (.type "LookupError"),e P (u [77,101,109,111,114,121,69,114,114,111,114]) 95 (.type "MemoryError"),e P (u [78,97,109,101,69,114,114,111,114]) 96 (.type "NameError"),e P (u [79,83,69,114,114,111,114]) 97 (.type "OSError"),e P (u [82,101,102,101,114,101,110,99,101,69,114,114,111,114]) 98 (.type "ReferenceError"),e P (u [82,117,110,116,105,109,101,69,114,114,111,114]) 99 (.type "RuntimeError"),e P (u [83,116,111,112,65,115,121,110,99,73,116,101,114,97,116,105,111,110]) 100 (.type "StopAsyncIteration"),e P (u [83,116,111,112,73,116,101,114,97,116,105,111,110]) 101 (.type "StopIteration"),e P (u [83,121,110,116,97,120,69,114,114,111,114]) 102 (.type "SyntaxError"),e P (u [83,121,115,116,101,109,69,114,114,111,114]) 103 (.type "SystemError"),e P (u [84,121,112,101,69,114,114,111,114]) 104 (.type "TypeError"),e P (u [86,97,108,117,101,69,114,114,111,114]) 105 (.type "ValueError"),e P (u [87,97,114,110,105,110,103]) 106 (.type "Warning"),e P (u [70,108,111,97,116,105,110,103,80,111,105,110,116,69,114,114,111,114]) 107 (.type "FloatingPointError"),e P (u [79,118,101,114,102,108,111,119,69,114,114,111,114]) 108 (.type "OverflowError"),e P (u [90,101,114,111,68,105,118,105,115,105,111,110,69,114,114,111,114]) 109 (.type "ZeroDivisionError"),e P (u [66,121,116,101,115,87,97,114,110,105,110,103]) 110 (.type "BytesWarning"),e P (u [68,101,112,114,101,99,97,116,105,111,110,87,97,114,110,105,110,103]) 111 (.type "DeprecationWarning"),e P (u [69,110,99,111,100,105,110,103,87,97,114,110,105,110,103]) 112 (.type "EncodingWarning"),e P (u [70,117,116,117,114,101,87,97,114,110,105,110,103]) 113 (.type "FutureWarning"),e P (u [73,109,112,111,114,116,87,97,114,110,105,110,103]) 114 (.type "ImportWarning"),e P (u [80,101,110,100,105,110,103,68,101,112,114,101,99,97,116,105,111,110,87,97,114,110,105,110,103]) 115 (.type "PendingDeprecationWarning"),e P (u [82,101,115,111,117,114,99,101,87,97,114,110,105,110,103]) 116 (.type "ResourceWarning"),e P (u [82,117,110,116,105,109,101,87,97,114,110,105,110,103]) 117 (.type "RuntimeWarning"),e P (u [83,121,110,116,97,120,87,97,114,110,105,110,103]) 118 (.type "SyntaxWarning"),e P (u [85,110,105,99,111,100,101,87,97,114,110,105,110,103]) 119 (.type "UnicodeWarning"),e P (u [85,115,101,114,87,97,114,110,105,110,103]) 120 (.type "UserWarning"),e P (u [66,108,111,99,107,105,110,103,73,79,69,114,114,111,114]) 121 (.type "BlockingIOError"),e P (u [67,104,105,108,100,80,114,111,99,101,115,115,69,114,114,111,114]) 122 (.type "ChildProcessError"),e P (u [67,111,110,110,101,99,116,105,111,110,69,114,114,111,114]) 123 (.type "ConnectionError"),e P (u [70,105,108,101,69,120,105,115,116,115,69,114,114,111,114]) 124 (.type "FileExistsError"),e P (u [70,105,108,101,78,111,116,70,111,117,110,100,69,114,114,111,114]) 125 (.type "FileNotFoundError"),e P (u [73,110,116,101,114,114,117,112,116,101,100,69,114,114,111,114]) 126 (.type "InterruptedError"),e P (u [73,115,65,68,105,114,101,99,116,111,114,121,69,114,114,111,114]) 127 (.type "IsADirectoryError"),e P (u [78,111,116,65,68,105,114,101,99,116,111,114,121,69,114,114,111,114]) 128 (.type "NotADirectoryError"),e P (u [80,101,114,109,105,115,115,105,111,110,69,114,114,111,114]) 129 (.type "PermissionError"),e P (u [80,114,111,99,101,115,115,76,111,111,107,117,112,69,114,114,111,114]) 130 (.type "ProcessLookupError"),e P (u [84,105,109,101,111,117,116,69,114,114,111,114]) 131 (.type "TimeoutError"),e P (u [73,110,100,101,110,116,97,116,105,111,110,69,114,114,111,114]) 132 (.type "IndentationError"),e P (u [95,73,110,99,111,109,112,108,101,116,101,73,110,112,117,116,69,114,114,111,114]) 133 (.type "_IncompleteInputError"),e P (u [73,110,100,101,120,69,114,114,111,114]) 134 (.type "IndexError"),e P (u [75,101,121,69,114,114,111,114]) 135 (.type "KeyError"),e P (u [77,111,100,117,108,101,78,111,116,70,111,117,110,100,69,114,114,111,114]) 136 (.type "ModuleNotFoundError"),e P (u [78,111,116,73,109,112,108,101,109,101,110,116,101,100,69,114,114,111,114]) 137 (.type "NotImplementedError"),e P (u [80,121,116,104,111,110,70,105,110,97,108,105,122,97,116,105,111,110,69,114,114,111,114]) 138 (.type "PythonFinalizationError"),e P (u [82,101,99,117,114,115,105,111,110,69,114,114,111,114]) 139 (.type "RecursionError"),e P (u [85,110,98,111,117,110,100,76,111,99,97,108,69,114,114,111,114]) 140 (.type "UnboundLocalError"),e P (u [85,110,105,99,111,100,101,69,114,114,111,114]) 141 (.type "UnicodeError"),e P (u [66,114,111,107,101,110,80,105,112,101,69,114,114,111,114]) 142 (.type "BrokenPipeError"),e P (u [67,111,110,110,101,99,116,105,111,110,65,98,111,114,116,101,100,69,114,114,111,114]) 143 (.type "ConnectionAbortedError"),e P (u [67,111,110,110,101,99,116,105,111,110,82,101,102,117,115,101,100,69,114,114,111,114]) 144 (.type "ConnectionRefusedError"),e P (u [67,111,110,110,101,99,116,105,111,110,82,101,115,101,116,69,114,114,111,114]) 145 (.type "ConnectionResetError"),e P (u [84,97,98,69,114,114,111,114]) 146 (.type "TabError"),e P (u [85,110,105,99,111,100,101,68,101,99,111,100,101,69,114,114,111,114]) 147 (.type "UnicodeDecodeError"),e P (u [85,110,105,99,111,100,101,69,110,99,111,100,101,69,114,114,111,114]) 148 (.type "UnicodeEncodeError"),e P (u [85,110,105,99,111,100,101,84,114,97,110,115,108,97,116,101,69,114,114,111,114]) 149 (.type "UnicodeTranslateError"),e P (u [69,120,99,101,112,116,105,111,110,71,114,111,117,112]) 150 (.type "ExceptionGroup"),e P (u [69,110,118,105,114,111,110,109,101,110,116,69,114,114,111,114]) 151 (.type "OSError"),e P (u [73,79,69,114,114,111,114]) 152 (.type "OSError"),e P (u [111,112,101,110]) 153 (.builtin "open"),e P (u [113,117,105,116]) 154 (.builtin "builtins.quit#opaque"),e P (u [101,120,105,116]) 155 (.builtin "builtins.exit#opaque"),e P (u [99,111,112,121,114,105,103,104,116]) 156 (.builtin "builtins.copyright#opaque"),e P (u [99,114,101,100,105,116,115]) 157 (.builtin "builtins.credits#opaque"),e P (u [108,105,99,101,110,115,101]) 158 (.builtin "builtins.license#opaque"),e P (u [104,101,108,112]) 159 (.builtin "builtins.help#opaque")]⟩ 159,⟨[]⟩⟩
def A2(P:Params):Obj:=⟨.none,none,.dict ⟨[e P (u [116,121,112,101,46,95,95,115,117,98,99,108,97,115,115,101,115,95,95,46,69,120,99,101,112,116,105,111,110,46,48]) 230 (.int 41 0),e P (u [116,121,112,101,46,95,95,115,117,98,99,108,97,115,115,101,115,95,95,46,69,120,99,101,112,116,105,111,110,46,110]) 231 (.int 1 0)]⟩ 2,⟨[]⟩⟩
def xq(P:Params):Obj:=⟨.type "dict",none,.dict ⟨[e P kP 165 (.str bx 1325),e P eD 166 .none,e P gZ 167 .none,e P iH 168 (.builtin "__main__.__loader__#opaque"),e P kQ 169 .none,e P (u [95,95,97,110,110,111,116,97,116,105,111,110,115,95,95]) 170 (.ref 6),e P (u [95,95,98,117,105,108,116,105,110,115,95,95]) 171 (.ref 4),e P (u [95,95,102,105,108,101,95,95]) 173 (.str dG 172),e P (u [95,95,99,97,99,104,101,100,95,95]) 174 .none,e P (u [95,119,97,108,108]) 193 (.ref 21),e P (u [77,79,83,84,95,84,69,88,84]) 197 (.int 255 196),e P (u [77,79,83,84,95,69,88,80,79,78,69,78,84]) 199 (.int 99 198),e P cV 233 (.ref 41),e P (u [101,114,114,111,114,95,99,111,100,101,115]) 240 (.ref 51),e P (u [110,117,109,98,101,114,95,111,102,95,101,114,114,111,114]) 250 (.ref 58),e P (u [99,111,100,101,95,111,102,95,101,114,114,111,114]) 258 (.ref 65),e P (u [107,105,110,100,95,111,102]) 265 (.ref 72),e P cW 274 (.ref 79),e P dj 281 (.ref 86),e P (u [102,105,103,117,114,101,115,95,111,102]) 290 (.ref 93),e P (u [114,111,117,110,100,101,100,95,98,121]) 301 (.ref 100),e P (u [109,97,100,101]) 313 (.ref 107),e P dS 323 (.ref 114),e P mP 331 (.ref 121),e P fS 340 (.ref 128),e P (u [100,101,99,105,109,97,108,95,111,102]) 348 (.ref 135),e P gP 355 (.ref 142),e P cX 362 (.ref 149),e P iI 372 (.ref 156),e P (u [116,114,117,116,104]) 379 (.ref 163),e P (u [77,79,83,84,95,67,72,65,78,78,69,76]) 383 (.int 15 382),e P (u [77,79,83,84,95,78,65,77,69]) 385 (.int 30 384),e P (u [77,79,83,84,95,83,73,90,69]) 387 (.int 255 386),e P dT 393 (.ref 168),e P eW 406 (.ref 175),e P bD 417 (.ref 182),e P dU 427 (.ref 189),e P dV 436 (.ref 196),e P (u [99,108,111,115,101,95,97,108,108]) 444 (.ref 203),e P dW 450 (.ref 208),e P (u [102,105,101,108,100,95,116,101,120,116]) 461 (.ref 215),e P fT 469 (.ref 222),e P (u [104,105,100,101,95,102,105,101,108,100,115]) 479 (.ref 229),e P (u [108,97,121,95,102,105,101,108,100,115]) 489 (.ref 236),e P iJ 499 (.ref 243),e P dX 513 (.ref 250),e P dq 521 (.ref 257),e P dY 534 (.ref 264),e P dZ 548 (.ref 271),e P iK 615 (.ref 289),e P eX 623 (.ref 300),e P fU 631 (.ref 307),e P fV 640 (.ref 314),e P (u [85,83,85,65,76,95,83,73,90,69]) 644 (.int 128 643),e P fW 650 (.ref 319),e P fX 666 (.ref 326),e P (u [79,78,69]) 671 (.ref 327),e P (u [77,79,83,84,95,80,79,87,69,82]) 673 (.int 9999 672),e P (u [100,95,110,101,103,97,116,101,100]) 680 (.ref 334),e P (u [97,108,105,107,101]) 689 (.ref 341),e P (u [100,95,97,100,100]) 701 (.ref 348),e P (u [100,95,115,117,98]) 710 (.ref 355),e P (u [100,95,109,117,108]) 719 (.ref 362),e P (u [119,105,116,104,95,114,101,115,116]) 728 (.ref 369),e P (u [100,95,100,105,118]) 742 (.ref 376),e P (u [100,95,99,111,109,112,97,114,101]) 753 (.ref 383),e P (u [100,95,112,111,119,101,114]) 765 (.ref 390),e P (u [115,113,117,97,114,101,95,111,114,95,101,110,100]) 773 (.ref 397),e P (u [105,115,95,119,104,111,108,101]) 782 (.ref 404),e P (u [115,101,116,116,108,101,100]) 791 (.ref 411),e P (u [119,104,111,108,101,95,114,101,99,107,111,110,101,100]) 802 (.ref 418),e P (u [99,117,116,95,113,117,111,116,105,101,110,116]) 811 (.ref 425),e P (u [99,117,116,95,114,101,115,116]) 819 (.ref 432),e P (u [101,120,112,111,110,101,110,116,95,111,102]) 826 (.ref 439),e P (u [119,104,111,108,101,95,112,111,119,101,114]) 836 (.ref 446),e P (u [114,97,105,115,101,100]) 847 (.ref 453),e P (u [114,101,99,107,111,110,101,100]) 863 (.ref 460),e P (u [110,101,103,97,116,101,100]) 872 (.ref 467),e P (u [111,114,100,101,114,95,111,102]) 880 (.ref 474),e P (u [105,110,118,101,114,116,101,100]) 888 (.ref 481),e P (u [108,111,103,105,99]) 900 (.ref 488),e P (u [85,83,85,65,76,95,72,73,71,72]) 904 (.int 10 903),e P (u [71,114,105,100]) 939 (.ref 505),e P (u [99,111,117,110,116,95,111,102]) 949 (.ref 516),e P (u [107,105,110,100,95,105,110]) 957 (.ref 523),e P (u [99,104,101,99,107,95,104,105,103,104,115]) 966 (.ref 530),e P (u [100,105,109]) 975 (.ref 537),e P (u [103,114,105,100,95,111,102]) 984 (.ref 544),e P (u [112,108,97,99,101,95,111,102]) 995 (.ref 551),e P (u [103,101,116,95,105,116,101,109]) 1005 (.ref 558),e P fw 1038 (.ref 575),e P (u [101,114,114,111,114,95,110,117,109,98,101,114]) 1045 (.ref 586),e P (u [118,97,114,105,97,98,108,101,95,118,97,108,117,101]) 1056 (.ref 593),e P cL 1065 (.ref 600),e P (u [102,110,95,99,97,108,108,101,100]) 1071 (.ref 605),e P cM 1080 (.ref 612),e P (u [76,79,71,73,67]) 1088 (.ref 613),e P (u [67,79,77,80,65,82,73,83,79,78,83]) 1095 (.ref 614),e P (u [111,114,100,101,114,95,111,102,95,116,101,120,116,115]) 1103 (.ref 621),e P (u [99,111,109,112,97,114,101,100]) 1111 (.ref 628),e P (u [119,111,114,116,104,95,111,102,95,116,101,120,116,115]) 1120 (.ref 635),e P (u [119,111,114,116,104,95,111,102,95,116,119,111]) 1126 (.ref 640),e P (u [119,111,114,116,104,95,111,102,95,111,110,101]) 1136 (.ref 647),e P (u [119,111,114,116,104,95,111,102,95,108,101,97,102]) 1147 (.ref 654),e P cN 1157 (.ref 661),e P gQ 1163 (.ref 666),e P (u [119,111,114,116,104,95,119,111,114,116,104]) 1164 (.ref 666),e P (u [77,79,83,84,95,80,73,76,69]) 1168 (.int 20 1167),e P fy 1324 (.ref 779),e P eY 1335 (.ref 790),e P cY 1349 (.ref 797),e P ed 1355 (.ref 802),e P fa 1371 (.ref 809),e P dt 1382 (.ref 816),e P qO 1388 (.ref 821)]⟩ 115,⟨[]⟩⟩
noncomputable def yo(P:Params):Obj:=⟨.type "cell",none,.cell (some (.ref 41)),⟨[]⟩⟩
def yp(P:Params):Obj:=⟨.type "tuple",none,.seq ⟨[.str (u []) 212]⟩ 0,⟨[]⟩⟩
def yq(P:Params):Obj:=gc cx c8 213 9 3 32 220
def yr(P:Params):Obj:=⟨.type "function",none,CI (aq (xp (aq bY 4)) 0) c8 3 [(u [95,95,99,108,97,115,115,95,95],25)] (.ref 30) .none .none (.str aG 194) none (.ref 37) (.ref 31) 0,⟨[]⟩⟩
def yt(P:Params):Obj:=⟨.type "dict",none,.dict ⟨[e P ej 207 (.str aG 194),e P cr 211 (.int 7 210),e P cx 222 (.ref 38),e P bw 225 (.ref 39),e P du 228 (.ref 42),e P eD 229 .none]⟩ 4,⟨[]⟩⟩
def yu(P:Params):Obj:=⟨.type "type",none,.cls ⟨cV,[.type "Exception"],[.ref 41,.type "Exception",.type "BaseException",.type "object"],40,cV,true,[],[],false,none,false⟩,⟨[some (.ref 22),none,some (.str cV 200),some (.str cV 208),some (.builtin "Exception.__new__"),some (.bool true)]⟩⟩
def yv(P:Params):Obj:=gc cW cW 266 31 2 73 272
def yw(P:Params):Obj:=fO (aq bY 9) cW aG 194 78
def yx(P:Params):Obj:=gc dj dj 275 38 1 80 279
def yy(P:Params):Obj:=fO (aq bY 10) dj aG 194 85
def tH(P:Params):Obj:=gc dS dS 314 73 1 108 321
def tI(P:Params):Obj:=fO (aq bY 14) dS aG 194 113
def tJ(P:Params):Obj:=gc mP mP 324 79 2 115 329
def tK(P:Params):Obj:=fO (aq bY 15) mP aG 194 120
def tL(P:Params):Obj:=gc fS fS 332 81 2 122 338
def tM(P:Params):Obj:=fO (aq bY 16) fS aG 194 127
def tN(P:Params):Obj:=gc gP gP 349 92 1 136 353
def tP(P:Params):Obj:=fO (aq bY 18) gP aG 194 141
def tQ(P:Params):Obj:=gc cX cX 356 96 1 143 360
def tS(P:Params):Obj:=fO (aq bY 19) cX aG 194 148
def tT(P:Params):Obj:=gc iI iI 363 100 4 150 370
def tU(P:Params):Obj:=fO (aq bY 20) iI aG 194 155
def tV(P:Params):Obj:=As dT dT 388 110 1 164 391
def tW(P:Params):Obj:=fO (aq bY 26) dT aB 380 167
def tX(P:Params):Obj:=gc eW eW 394 114 5 169 404
def tY(P:Params):Obj:=fO (aq bY 27) eW aB 380 174
def tZ(P:Params):Obj:=gc bD bD 407 131 3 176 415
def t5(P:Params):Obj:=fO (aq bY 28) bD aB 380 181
def t6(P:Params):Obj:=gc dU dU 418 137 3 183 425
def t7(P:Params):Obj:=fO (aq bY 29) dU aB 380 188
def t8(P:Params):Obj:=gc dV dV 428 144 2 190 434
def ua(P:Params):Obj:=fO (aq bY 30) dV aB 380 195
def uc(P:Params):Obj:=As dW dW 445 153 3 204 448
def ud(P:Params):Obj:=fO (aq bY 32) dW aB 380 207
def ue(P:Params):Obj:=gc fT fT 462 168 2 216 467
def uf(P:Params):Obj:=fO (aq bY 34) fT aB 380 221
def ug(P:Params):Obj:=gc iJ iJ 490 181 3 237 497
def uh(P:Params):Obj:=fO (aq bY 37) iJ aB 380 242
def ui(P:Params):Obj:=gc dX dX 500 185 4 244 511
def uj(P:Params):Obj:=fO (aq bY 38) dX aB 380 249
def uk(P:Params):Obj:=gc dq dq 514 189 2 251 519
def um(P:Params):Obj:=fO (aq bY 39) dq aB 380 256
def un(P:Params):Obj:=gc dY dY 522 194 3 258 532
def uo(P:Params):Obj:=fO (aq bY 40) dY aB 380 263
def uq(P:Params):Obj:=gc dZ dZ 535 202 4 265 546
def ur(P:Params):Obj:=fO (aq bY 41) dZ aB 380 270
noncomputable def us(P:Params):Obj:=⟨.type "tuple",none,.seq ⟨[.int 16 563,.int 9 564,.int 2000 565,.int 20 566,.int 2000 567]⟩ 0,⟨[]⟩⟩
def uu(P:Params):Obj:=gc cx fz 568 214 6 280 577
def uv(P:Params):Obj:=⟨.type "function",none,CI (aq (xp (aq bY 43)) 0) fz 3 [] (.ref 279) .none .none (.str bS 549) none (.ref 285) .none 0,⟨[]⟩⟩
def uw(P:Params):Obj:=⟨.type "dict",none,.dict ⟨[e P ej 558 (.str bS 549),e P cr 562 (.int 212 561),e P cx 579 (.ref 286),e P bw 608 (.ref 287),e P ie 610 (.ref 290),e P du 612 (.ref 291),e P eD 613 .none]⟩ 4,⟨[]⟩⟩
def ux(P:Params):Obj:=⟨.type "type",none,.cls ⟨iK,[.type "object"],[.ref 289,.type "object"],288,iK,true,[],[],false,none,false⟩,⟨[none,none,some (.str iK 551),some (.str iK 559),some (.builtin "object.__new__"),some (.bool true)]⟩⟩
def uy(P:Params):Obj:=gc eX eX 616 243 2 294 621
def uz(P:Params):Obj:=fO (aq bY 44) eX bS 549 299
def uA(P:Params):Obj:=gc fU fU 624 245 2 301 629
def uB(P:Params):Obj:=fO (aq bY 45) fU bS 549 306
def uC(P:Params):Obj:=gc fV fV 632 247 3 308 638
def uD(P:Params):Obj:=fO (aq bY 46) fV bS 549 313
def uE(P:Params):Obj:=As fW fW 645 251 2 315 648
def uF(P:Params):Obj:=fO (aq bY 49) fW fb 641 318
def uG(P:Params):Obj:=gc fX fX 651 258 2 320 664
def uH(P:Params):Obj:=fO (aq bY 50) fX fb 641 325
def uI(P:Params):Obj:=gc cx eI 1020 447 2 566 1025
def uJ(P:Params):Obj:=fO (aq (xp (aq bY 89)) 0) eI dL 1006 571
def uK(P:Params):Obj:=⟨.type "dict",none,.dict ⟨[e P ej 1015 (.str dL 1006),e P cr 1019 (.int 445 1018),e P cx 1027 (.ref 572),e P bw 1031 (.ref 573),e P ie 1033 (.ref 576),e P du 1035 (.ref 577),e P eD 1036 .none]⟩ 4,⟨[]⟩⟩
def uL(P:Params):Obj:=⟨.type "type",none,.cls ⟨fw,[.type "object"],[.ref 575,.type "object"],574,fw,true,[],[],false,none,false⟩,⟨[none,none,some (.str fw 1008),some (.str fw 1016),some (.builtin "object.__new__"),some (.bool true)]⟩⟩
def uM(P:Params):Obj:=gc cL cL 1057 461 3 594 1063
def uN(P:Params):Obj:=fO (aq bY 93) cL (u [98,97,115,105,99,112,108,117,115,46,97,115,107,101,100]) 1046 599
def uO(P:Params):Obj:=gc cM cM 1074 490 1 606 1078
def uP(P:Params):Obj:=fO (aq bY 96) cM (u [98,97,115,105,99,112,108,117,115,46,101,120,112,114,114,101,97,100]) 1072 611
def uQ(P:Params):Obj:=gc cN cN 1148 533 3 655 1155
def uR(P:Params):Obj:=fO (aq bY 106) cN fc 1081 660
def uS(P:Params):Obj:=As gQ gQ 1158 546 2 662 1161
def uT(P:Params):Obj:=fO (aq bY 107) gQ fc 1081 665
def uU(P:Params):Obj:=gc cx eJ 1181 564 4 674 1188
def uV(P:Params):Obj:=fO (aq (xp (aq bY 111)) 0) eJ a' 1165 679
def uW(P:Params):Obj:=gc gQ f9 1191 573 2 681 1196
def uX(P:Params):Obj:=fO (aq (xp (aq bY 111)) 1) f9 a' 1165 686
def uY(P:Params):Obj:=gc qP ga 1199 576 2 688 1204
def uZ(P:Params):Obj:=fO (aq (xp (aq bY 111)) 2) ga a' 1165 693
def u6(P:Params):Obj:=gc A0 iL 1230 591 3 714 1236
def u8(P:Params):Obj:=fO (aq (xp (aq bY 111)) 6) iL a' 1165 719
def u9(P:Params):Obj:=gc kR eK 1248 599 3 728 1254
def va(P:Params):Obj:=fO (aq (xp (aq bY 111)) 8) eK a' 1165 733
def vb(P:Params):Obj:=gc qQ gb 1266 608 3 742 1272
def vc(P:Params):Obj:=fO (aq (xp (aq bY 111)) 10) gb a' 1165 747
def vd(P:Params):Obj:=⟨.type "dict",none,.dict ⟨[e P ej 1176 (.str a' 1165),e P cr 1180 (.int 562 1179),e P cx 1190 (.ref 680),e P gQ 1198 (.ref 687),e P qP 1206 (.ref 694),e P (u [118,97,108,117,101,95,111,102,95,110,97,109,101]) 1214 (.ref 701),e P (u [105,116,101,109,95,111,102]) 1220 (.ref 706),e P (u [99,97,108,108]) 1229 (.ref 713),e P A0 1238 (.ref 720),e P (u [114,111,119,115,95,119,111,114,116,104]) 1247 (.ref 727),e P kR 1256 (.ref 734),e P (u [97,115,115,105,103,110]) 1265 (.ref 741),e P qQ 1274 (.ref 748),e P (u [112,117,116]) 1284 (.ref 755),e P (u [110,101,120,116,95,100,97,116,97]) 1292 (.ref 762),e P (u [110,117,109,98,101,114,95,116,111,108,100]) 1300 (.ref 769),e P (u [112,108,117,115]) 1309 (.ref 776),e P bw 1317 (.ref 777),e P ie 1319 (.ref 780),e P du 1321 (.ref 781),e P eD 1322 .none]⟩ 4,⟨[]⟩⟩
def ve(P:Params):Obj:=⟨.type "type",none,.cls ⟨fy,[.type "object"],[.ref 779,.type "object"],778,fy,true,[],[],false,none,false⟩,⟨[none,none,some (.str fy 1169),some (.str fy 1177),some (.builtin "object.__new__"),some (.bool true)]⟩⟩
def vf(P:Params):Obj:=gc eY eY 1327 623 2 784 1333
def vg(P:Params):Obj:=fO (aq bY 113) eY bx 1325 789
def vh(P:Params):Obj:=gc cY cY 1336 629 2 791 1347
def bW(P:Params):Obj:=fO (aq bY 114) cY bx 1325 796
def vi(P:Params):Obj:=As ed ed 1350 641 2 798 1353
def vj(P:Params):Obj:=fO (aq bY 115) ed bx 1325 801
def vk(P:Params):Obj:=gc fa fa 1356 657 4 803 1369
def ig(P:Params):Obj:=fO (aq bY 116) fa bx 1325 808
def vm(P:Params):Obj:=gc dt dt 1372 677 2 810 1380
def gu(P:Params):Obj:=fO (aq bY 117) dt bx 1325 815
def vn(P:Params):Obj:=As qO qO 1383 687 1 817 1386
def bh(P:Params):Obj:=fO (aq bY 118) qO bx 1325 820
def pQ(P:Params):HL:=[(0,A1 P),(3,xq P),(127,tL P),(319,uF P),(575,uL P),(79,yw P),(271,ur P),(207,uc P),(719,u6 P),(175,tY P),(815,vm P),(687,uX P),(263,un P),(167,tV P),(679,uU P),(279,us P),(599,uM P),(195,t8 P),(611,uO P),(307,uB P),(243,uh P),(779,ve P),(299,uy P),(747,vb P),(155,tT P),(571,uI P),(257,um P),(289,ux P),(801,vi P),(113,tH P),(25,yo P),(41,yu P),(809,ig P),(665,uS P),(121,tK P),(313,uC P),(249,ui P),(37,yq P),(325,uG P),(85,yx P),(149,tS P),(789,vf P),(661,uR P),(181,tZ P),(821,bh P),(693,uY P),(141,tN P),(285,uu P),(797,bW P),(221,ue P),(733,u9 P),(189,t7 P),(2,A2 P),(128,tM P),(256,uk P),(288,uw P),(208,ud P),(720,u8 P),(816,gu P),(40,yt P),(264,uo P),(168,tW P),(808,vk P),(680,uV P),(600,uN P),(120,tJ P),(196,ua P),(612,uP P),(148,tQ P),(660,uQ P),(820,vn P),(300,uz P),(748,vc P),(156,tU P),(796,vh P),(188,t6 P),(572,uJ P),(802,vj P),(114,tI P),(306,uA P),(242,ug P),(778,vd P),(666,uT P),(314,uD P),(250,uj P),(38,yr P),(326,uH P),(86,yy P),(790,vg P),(182,t5 P),(694,uZ P),(30,yp P),(78,yv P),(142,tP P),(270,uq P),(174,tX P),(686,uW P),(286,uv P),(222,uf P),(734,va P),(318,uE P),(574,uK P)]
noncomputable def vo:List Nat:=[0,3,127,319,575,79,271,207,719,175,815,687,263,167,679,279,599,195,611,307,243,779,299,747,155,571,257,289,801,113,25,41,809,665,121,313,249,37,325,85,149,789,661,181,821,693,141,285,797,221,733,189,2,128,256,288,208,720,816,40,264,168,808,680,600,120,196,612,148,660,820,300,748,156,796,188,572,802,114,306,242,778,666,314,250,38,326,86,790,182,694,30,78,142,270,174,686,286,222,734,318,574]
def iM(P:Params):X.KT:=(.node (some (A1 P)) (.node none (.node (some (xq P)) (.node none (.node none (.node none (.node none (.node (some (tL P)) .nil .nil) (.node none (.node (some (uF P)) (.node (some (uL P)) .nil .nil) .nil) .nil)) .nil) (.node none (.node (some (yw P)) (.node none (.node (some (ur P)) .nil .nil) .nil) (.node (some (uc P)) .nil (.node none (.node (some (u6 P)) .nil .nil) .nil))) (.node none (.node (some (tY P)) (.node none .nil (.node (some (vm P)) .nil .nil)) (.node none (.node (some (uX P)) .nil .nil) .nil)) .nil))) (.node none (.node none (.node none (.node none (.node (some (un P)) .nil .nil) .nil) .nil) (.node none (.node (some (tV P)) .nil (.node none (.node (some (uU P)) .nil .nil) .nil)) .nil)) (.node none (.node none (.node none (.node (some (us P)) .nil .nil) .nil) (.node none (.node none (.node (some (uM P)) .nil .nil) .nil) .nil)) .nil))) (.node none (.node none (.node none (.node none .nil (.node (some (t8 P)) .nil .nil)) (.node none .nil (.node none (.node none (.node (some (uO P)) .nil .nil) .nil) .nil))) (.node none .nil (.node none (.node none (.node (some (uB P)) .nil .nil) .nil) (.node (some (uh P)) .nil .nil)))) (.node none (.node none (.node none (.node none (.node none .nil (.node (some (ve P)) .nil .nil)) .nil) .nil) (.node none (.node none (.node (some (uy P)) .nil .nil) .nil) (.node none .nil (.node none (.node (some (vb P)) .nil .nil) .nil)))) (.node none (.node none (.node (some (tT P)) .nil .nil) .nil) (.node none (.node none (.node none (.node (some (uI P)) .nil .nil) .nil) .nil) .nil))))) (.node none (.node none (.node none (.node none (.node none (.node none (.node (some (um P)) .nil .nil) .nil) .nil) (.node none (.node none (.node (some (ux P)) .nil (.node (some (vi P)) .nil .nil)) .nil) .nil)) (.node none .nil (.node (some (tH P)) .nil .nil))) (.node (some (yo P)) (.node (some (yu P)) .nil (.node none (.node none (.node none .nil (.node (some (ig P)) .nil .nil)) .nil) .nil)) (.node none (.node none (.node none .nil (.node none (.node (some (uS P)) .nil .nil) .nil)) .nil) (.node (some (tK P)) (.node none (.node (some (uC P)) .nil .nil) .nil) (.node (some (ui P)) .nil .nil))))) (.node none (.node none (.node (some (yq P)) (.node none .nil (.node none (.node (some (uG P)) .nil .nil) .nil)) .nil) (.node none (.node (some (yx P)) (.node (some (tS P)) (.node none .nil (.node (some (vf P)) .nil .nil)) (.node none (.node (some (uR P)) .nil .nil) .nil)) .nil) (.node none (.node (some (tZ P)) (.node none .nil (.node (some (bh P)) .nil .nil)) (.node none (.node (some (uY P)) .nil .nil) .nil)) .nil))) (.node none (.node none (.node none (.node (some (tN P)) .nil .nil) .nil) .nil) (.node none (.node none (.node none (.node (some (uu P)) .nil (.node (some (bW P)) .nil .nil)) .nil) (.node (some (ue P)) .nil (.node none (.node (some (u9 P)) .nil .nil) .nil))) (.node none (.node (some (t7 P)) .nil .nil) .nil)))))) (.node (some (A2 P)) (.node none (.node none (.node none (.node none (.node none (.node (some (tM P)) (.node (some (uk P)) .nil .nil) .nil) .nil) (.node none (.node none (.node (some (uw P)) .nil .nil) .nil) .nil)) (.node none (.node none .nil (.node (some (ud P)) .nil (.node none (.node (some (u8 P)) .nil .nil) .nil))) (.node none (.node none (.node none .nil (.node (some (gu P)) .nil .nil)) .nil) .nil))) (.node none (.node (some (yt P)) (.node none (.node none (.node (some (uo P)) .nil .nil) .nil) .nil) (.node none (.node (some (tW P)) (.node none .nil (.node (some (vk P)) .nil .nil)) (.node none (.node (some (uV P)) .nil .nil) .nil)) .nil)) (.node none (.node none .nil (.node none (.node none (.node (some (uN P)) .nil .nil) .nil) .nil)) (.node (some (tJ P)) .nil .nil)))) (.node none (.node none (.node none (.node none .nil (.node (some (ua P)) .nil .nil)) (.node none .nil (.node none (.node none (.node (some (uP P)) .nil .nil) .nil) .nil))) (.node none (.node none (.node (some (tQ P)) .nil (.node none (.node (some (uQ P)) .nil .nil) .nil)) .nil) (.node none (.node none (.node none .nil (.node (some (vn P)) .nil .nil)) .nil) .nil))) (.node none (.node none .nil (.node none (.node none (.node (some (uz P)) .nil .nil) .nil) (.node none .nil (.node none (.node (some (vc P)) .nil .nil) .nil)))) (.node none (.node none (.node (some (tU P)) (.node none .nil (.node (some (vh P)) .nil .nil)) .nil) .nil) (.node none (.node (some (t6 P)) (.node none (.node (some (uJ P)) .nil .nil) .nil) .nil) .nil))))) (.node none (.node none (.node none (.node none .nil (.node none (.node none (.node none .nil (.node (some (vj P)) .nil .nil)) .nil) .nil)) (.node none .nil (.node (some (tI P)) (.node none (.node (some (uA P)) .nil .nil) .nil) (.node (some (ug P)) .nil .nil)))) (.node none (.node none (.node none (.node none (.node none .nil (.node (some (vd P)) .nil .nil)) .nil) .nil) .nil) (.node none (.node none (.node none .nil (.node none (.node (some (uT P)) .nil .nil) .nil)) .nil) (.node none (.node none (.node (some (uD P)) .nil .nil) .nil) (.node (some (uj P)) .nil .nil))))) (.node none (.node none (.node (some (yr P)) (.node none .nil (.node none (.node (some (uH P)) .nil .nil) .nil)) .nil) (.node none (.node (some (yy P)) (.node none (.node none .nil (.node (some (vg P)) .nil .nil)) .nil) .nil) (.node none (.node (some (t5 P)) .nil (.node none (.node (some (uZ P)) .nil .nil) .nil)) .nil))) (.node (some (yp P)) (.node none (.node (some (yv P)) (.node (some (tP P)) (.node (some (uq P)) .nil .nil) .nil) .nil) (.node none (.node (some (tX P)) .nil (.node none (.node (some (uW P)) .nil .nil) .nil)) .nil)) (.node none (.node none (.node none (.node (some (uv P)) .nil .nil) .nil) (.node (some (uf P)) .nil (.node none (.node (some (va P)) .nil .nil) .nil))) (.node none (.node none (.node (some (uE P)) (.node (some (uK P)) .nil .nil) .nil) .nil) .nil)))))))
def wT(P:Params)(t:Option Addr):jK:=⟨qw,P,iM P,822,t⟩
def C0(P:Params):jK:=wT P none
noncomputable def tk(l:List Nat):Nat->Nat:=λ n=>l.getD n 0
noncomputable def Ec:Gh:=⟨λ _=>0,[],λ _=>.none,λ _=>0,λ _=> #[],λ _=>[],λ _=>⟨0,0,0,0⟩⟩
def DH(l:List Gh)(n:Nat):Gh:=l.getD n Ec
def n8(n:List Nat)(L:HL)(h:Heap):Gh:=⟨tk n,L,λ _=>.none,λ _=>0,bn h,λ _=>[],λ _=>⟨0,0,0,0⟩⟩
def EM(n:List Nat)(L:HL)(v:List Value)(h:Heap):Gh:=⟨tk n,L,λ n=>v.getD n .none,λ _=>0,bn h,λ _=>[],λ _=>⟨0,0,0,0⟩⟩
def EN(n:List Nat)(L:HL)(v:List Value)(vl:List Value)(h:Heap):Gh:=⟨tk n,L,λ n=>v.getD n .none,λ _=>0,bn h,λ _=>vl,λ _=>⟨0,0,0,0⟩⟩
def ai(w:World)(G:Shared)(z:SI):Prop:=∀(B:Ctx) (nb:Nat) (fr:List (Nat×Nat)) (n0:Nat),z.Holds (model qw w) ((C0 w.2).at B nb fr n0) G
def xr(w:World)(G:Shared)(z:SP):Prop:=z.Holds (model qw w) G
def xt(P:Params)(z:SI)(k:Nat)(orc:List Nat)(xs:Nat->Nat->List XF)(B:Ctx)(p:Pos)(base tok:Nat):RT:=
 qM ((wT P (jE z.code)).fast B z.d (kN z.idx 0) (z.idx.length+k)) 30000 z k p base tok orc (xs base tok)
def vp(P:Params)(z:SI)(k:Nat)(orc:List Nat)(xs:Nat->Nat->List XF)(js:List Nat)(out:Nat->Nat->ST):Prop:=
 ∀(B:Ctx) (p:Pos) (base tok:Nat),((xt P z k orc xs B p base tok).strip js,xt P z k orc xs B p base tok)=(out base tok,(xt P z k orc xs B p base tok).diag)
def A3:Nat->Nat->X.KT->HL
 |_,_,.nil=>[]
 |s,b,.node v l r=>(match v with |some o=>[(b,o)] |none=>[])++(A3 (2*s) (s+b) l++A3 (2*s) (2*s+b) r)
theorem qR(P:Params):A3 1 0 (iM P)=pQ P:=by kernel_rfl
theorem mQ:∀(t:X.KT) (s b j:Nat) (o:Obj),t.get j=some o->(s*j+b,o)∈A3 s b t
 | .nil,_,_,_,_,e=>by cases e
 | .node v l r,s,b,j,o,e=>by
  rw[X.KT.get_node] at e
  by_cases h0:j=0
  ·subst h0
   rw[if_pos rfl] at e
   subst e
   rw[Nat.mul_zero,o9]
   exact fI _ (yh.mpr rfl)
  ·rw[if_neg h0] at e
   by_cases p:j%2=1
   ·rw[if_pos p] at e
    have y:=mQ l (2*s) (s+b) _ o e
    have q:2*s* (j/2)+(s+b)=s*j+b:=by
     have:j=2* (j/2)+1:=by omega
     conv=>rhs;rw[this]
     rw[Nat.mul_add,Nat.mul_one,Nat.mul_comm 2 s,Nat.mul_assoc];omega
    rw[q] at y
    exact fm _ (fI _ y)
   ·rw[if_neg p] at e
    have y:=mQ r (2*s) (2*s+b) _ o e
    have q:2*s* (j/2-1)+(2*s+b)=s*j+b:=by
     have:j=2* (j/2-1)+2:=by omega
     conv=>rhs;rw[this]
     rw[Nat.mul_add,Nat.mul_comm 2 s,Nat.mul_assoc];omega
    rw[q] at y
    exact fm _ (fm _ y)
theorem vq(P:Params)(t:Option Addr):(wT P t).Ok:=by
 have h:∀x∈pQ P,x.1<822/\bd x.2=false:=by
  have:(pQ P).all (λ x=>Nat.blt x.1 822&& !bd x.2)=true:=by kernel_rfl
  intro x hx
  have y:=List.all_eq_true.mp this x hx
  rw[AC,Bool.not_eq_true'] at y
  exact⟨L3 y.1,y.2⟩
 have g:∀a o,(iM P).get a=some o->(a,o)∈pQ P:=λ a o e=>by
  have y:=mQ (iM P) 1 0 a o e
  rw[qR,Nat.one_mul,Nat.add_zero] at y
  exact y
 exact⟨Nat.le_refl _,λ a o e=>(h _ (g a o e)).1,λ a o e=>(h _ (g a o e)).2⟩
theorem CJ(w:World)(t:Option Addr):(wT w.2 t).OkW qw w:=⟨by show sysModules<822;decide,rfl⟩
theorem ai.of{w:World}{G:Shared}{z:SI}{k:Nat}{orc:List Nat}{xs:Nat->Nat->List XF}{js:List Nat}{out:Nat->Nat->ST}(nd:js.Nodup)(hgrow:(ia .nil 0 (aN z.idx++z.L.take k)).isSome=true)
  (r:vp w.2 z k orc xs js out)
  (good:∀(B:Ctx) (base tok:Nat) (h0:Heap) (R:Result->Shared->Prop),h0.objs.size=base+822->ji ((wT w.2 (jE z.code)).at B z.d (kN z.idx 0) (z.idx.length+k)) z h0->(∀g h',z.asm g->cv z g h0 h'->R (z.out g).res {G with heap:=h',toks:=g.n 1})->
   iF ⟨qw,w,(wT w.2 (jE z.code)).at B z.d (kN z.idx 0) (z.idx.length+k),G,R,fp z,h0⟩ (out base tok)):ai w G z:=by
 intro B nb fr n0
 suffices main:z.Holds (model qw w) ((wT w.2 (jE z.code)).at B nb fr n0) G by
  intro Γ R p h tok h1 h2 h3 h4 h5 h6 bef h8
  exact main Γ R p h tok h1 h2 h3 h4 h5 h6 ⟨bef.n1,bef.top,bef.idx,bef.lst,bef.nodup⟩ h8
 refine SI.of_run (C:=wT w.2 (jE z.code)) (vq _ _) rfl rfl z rfl 30000 k orc xs js nd hgrow (λ B R F h0 X=>zj (CJ w _) X) (λ B p base tok=>?_) B nb fr n0
 have y:=r B p base tok
 unfold xt at y
 rw[<-xo] at y
 rw[Prod.mk.injEq] at y
 refine⟨y.2,λ h0 R h1 h2 h3=>?_⟩
 rw[y.1]
 exact good B base tok h0 R h1 h2 h3
theorem tv.keep{E:EC}{h0 h:Heap}{size:Nat}{seen:jI}{z:SI}(e:tv E (fp z) h0 size seen z.L h):∀x∈z.L,h.get? x.1=some x.2/\bd x.2=false/\(x.1∈aH z.L\/h0.objs.size<=x.1):=
 λ x hx=>⟨(e.lst x hx).1,(e.lst x hx).2.1,.inl (bZ.mpr ⟨x,hx,rfl⟩)⟩
theorem tv.keepL{E:EC}{h0 h:Heap}{size:Nat}{seen:jI}{z:SI}{L:HL}(e:tv E (fp z) h0 size seen L h)(n:Nat)(hn:(aH (jJ seen)).take n=aZ z.idx):∀x∈L,h.get? x.1=some x.2/\bd x.2=false/\(x.1∈aH z.L\/h0.objs.size<=x.1):=λ x hx=>by
 have y:=e.lst x hx
 refine⟨y.1,y.2.1,?_⟩
 rcases y.2.2 with(q |q) |q
 ·rw[<-hn] at q
  exact absurd rfl ((f8.mp e.nodup).2.2 x.1 (Ca q) x.1 (bZ.mpr ⟨x,hx,rfl⟩))
 ·exact .inl q
 ·exact .inr q
theorem DI{n0 j:Nat}{h0 h:Heap}{a:Nat}{o:Obj}{P:Prop}(s:(h.get? a=some o/\(Nat.ble n0 j=true->h0.objs.size<=a))/\P)(hj:Nat.ble n0 j=true)(hf:bd o=false):h.get? a=some o/\h0.objs.size<=a/\bd o=false:=⟨s.1.1,s.1.2 hj,hf⟩
theorem zn(n:Nat){l:List Nat}(h:l.Nodup):(l.drop n).Nodup:=h.sublist (List.drop_sublist n _)
noncomputable def fY(tb:String->Option Builtin)(p:Program)(w:World)(n₀:Nat)(ann:Option Value):Nat->SharedT->Thread->Option SharedT
 |0,_,_=>none
 |n+1,s,t=>match through t with
  |true=>some s
  |false=>match stepOk n₀ ann t with
   |false=>none
   |true=>match stepT (denote tb) p w s t with
    |some (s',t')=>fY tb p w n₀ ann n s' t'
    |none=>none
theorem kT{tb:String->Option Builtin}{p:Program}{w:World}{n₀:Nat}{ann:Option Value}:∀{n:Nat} {s s':SharedT} {t:Thread},fY tb p w n₀ ann n s t=some s'->topRun tb p w n₀ ann n s.abs t=some s'.abs
 |0,_,_,_,h=>by cases h
 |n+1,s,s',t,h=>by
  unfold fY at h
  unfold topRun
  cases he:through t with
  |true=>rw[he] at h;cases h;rfl
  |false=>
   rw[he] at h
   cases hk:stepOk n₀ ann t with
   |false=>rw[hk] at h;cases h
   |true=>
    rw[hk] at h
    cases hs:stepT (denote tb) p w s t with
    |none=>rw[hs] at h;cases h
    |some r=>obtain⟨s₂,t₂⟩:=r;rw[hs] at h;rw[stepT_spec hs];exact kT h
noncomputable def mS(p:Program)(w:World)(n₀:Nat)(ann:Option Value)(n:Nat):SharedT->Thread->Option SharedT:=
 @Nat.rec (λ _=>SharedT->Thread->Option SharedT) (λ _ _=>none) (λ _ ih s t=>match through t with
  |true=>some s
  |false=>match Fast.tw6613529449190102663 n₀ ann t with
   |false=>none
   |true=>match Fast.tw10156331382660048174 (Fast.tw11892475500146522536 Fast.tw14364793385576792824) p w s t with
    |some (s',t')=>ih s' t'
    |none=>none) n
theorem kU{p:Program}{w:World}{n₀:Nat}{ann:Option Value}:∀{n:Nat} {s:SharedT} {t:Thread},fY treeTable p w n₀ ann n s t=mS p w n₀ ann n s t
 |0,_,_=>rfl
 |n+1,s,t=>by
  unfold fY
  show _=match through t with
  |true=>some s
  |false=>match Fast.tw6613529449190102663 n₀ ann t with
   |false=>none
   |true=>match Fast.tw10156331382660048174 (Fast.tw11892475500146522536 Fast.tw14364793385576792824) p w s t with
    |some (s',t')=>mS p w n₀ ann n s' t'
    |none=>none
  rw[<-Fast.te6613529449190102663,<-Fast.te10156331382660048174,<-Fast.te11892475500146522536,<-Fast.te14364793385576792824]
  cases through t with
  |true=>rfl
  |false=>
   cases stepOk n₀ ann t with
   |false=>rfl
   |true=>
    dsimp only
    cases stepT (denote treeTable) p w s t with
    |none=>rfl
    |some r=>obtain⟨s',t'⟩:=r;exact kU
def CK(l:List Obj):BT×Nat:=l.foldl (λ x o=>(x.1.ins x.2 o,x.2+1)) (.nil,0)
noncomputable def qS:Nat:=11
def yz(P:Params):BT:=(CK (boot_heap P).objs.toList).1
theorem vr(P:Params):absHeap (yz P) qS (boot_heap P).life=boot_heap P:=by kernel_rfl
def vt(w:World)(os:OsState):SharedT:=⟨yz w.2,qS,(boot_heap w.2).life,Array.mk [],boot_drawn,boot_toks,os⟩
def qv:Program:={qw with main:={qw.main with body:=[aq bY 118]}}
noncomputable def iN:Str:=Str.ofString "law"
def pR:List Str:=match(xq (aWorld 1).params).data with
 | .dict es _=>(es.toList.filterMap λ e=>match e.key with | .str s _=>some s |_=>none).filter λ s=>s != iN
 |_=>[]
theorem vu(P:Params):(pQ P).map (·.1)=vo:=by kernel_rfl
def Yf(s:Shared):List (Option Obj)×Bool:=(vo.map s.heap.get?,Nat.beq s.heap.objs.size 822)
def Ya(w:World):List (Option Obj)×Bool:=((pQ w.2).map λ(x:Nat×Obj)=>some x.2,true)
noncomputable def CL(P:Params):Option Value:=(boot_heap P).nsMap mainGlobals "__annotations__"
def zq(w:World)(os:OsState):Option SharedT:=mS qw w qS (CL w.2) 9392 (vt w os) (topStub qw)
noncomputable def yA:List Str:=importedModules qw.main.body
def A4(w:World)(s:Shared):Bool:=staticsOk yA (boot_heap w.2) s.heap&&namesBound qw s.heap&&gensDone s&&laidKept (boot_heap w.2) s.heap
set_option maxHeartbeats 0 in
theorem CM(w:World)(os:OsState):(zq w os).map (λ s=>(A4 w s.abs,Yf s.abs))=some (true,Ya w):=by kernel_rfl
set_option maxHeartbeats 0 in
theorem CN(w:World)(os:OsState):(zq w os).map (λ s=>openSeen qv pR yA (λ _=>true) true s.abs)=some (openGood qv pR):=by kernel_rfl
theorem vv{p q:Program}{loose:List Str}{Xt:Shared->Bool}{α:Type}{Yf:Shared->α}{Ya:World->α}{N:Nat}{H₀:Params->Heap}{T:World->OsState->SharedT}{d:Drawn}{k:Nat}{R:World->OsState->Option SharedT}
  (op:∀w,(fencedOpening treeTable p w N).map (λ s=>(s.heap,s.gens,s.drawn,s.toks))=some (H₀ w.2,Array.mk [],d,k))
  (ns:∀P,((H₀ P).isNs mainGlobals&&(Array.size (Array.mk ([]:List GenState))) == 0)=true)
  (ab:∀w os,(T w os).abs=⟨H₀ w.2,Array.mk [],d,k,os⟩)
  (run:∀w os,fY treeTable p w (H₀ w.2).objs.size ((H₀ w.2).nsMap mainGlobals "__annotations__") N (T w os) (topStub p)=R w os)
  (r1:∀w os,(R w os).map (λ s=>(staticsOk (importedModules p.main.body) (H₀ w.2) s.abs.heap&&namesBound p s.abs.heap&&gensDone s.abs&&laidKept (H₀ w.2) s.abs.heap,Yf s.abs))=some (true,Ya w))
  (r2:∀w os,(R w os).map (λ s=>openSeen q loose (importedModules p.main.body) Xt true s.abs)=some (openGood q loose)):LeftO p q loose Xt Yf Ya N:=λ w=>by
 obtain⟨s0,h0,e0⟩:=sN.mp (op w)
 obtain⟨hp,gn,dr,tk,os⟩:=s0
 obtain⟨e1,e0⟩:=Prod.mk.inj e0
 obtain⟨e2,e0⟩:=Prod.mk.inj e0
 obtain⟨e3,e4⟩:=Prod.mk.inj e0
 obtain rfl:hp=H₀ w.2:=e1
 obtain rfl:gn=Array.mk []:=e2
 obtain rfl:d=dr:=(show dr=d from e3).symm
 obtain rfl:k=tk:=(show tk=k from e4).symm
 obtain⟨s1,h1,f1⟩:=sN.mp (r1 w os)
 obtain⟨s2,h2,f2⟩:=sN.mp (r2 w os)
 obtain⟨f1,f3⟩:=Prod.mk.inj f1
 obtain rfl:s1=s2:=L8 (h1.symm.trans h2)
 have r:=kT ((run w os).trans h1)
 rw[ab] at r
 unfold openEnds
 rw[h0,Option.bind_some]
 have t:topFrom treeTable p w N ⟨H₀ w.2,Array.mk [],d,k,os⟩=some s1.abs:=by
  unfold topFrom
  dsimp only
  rw[ns,r,Option.bind_some,f1]
 rw[t,CA,f2,f3]
theorem oh:opening qw=plainProg qw.main.scope.names:=by kernel_rfl
theorem pS(s:Shared):fenceModules? qw s=some s:=by kernel_rfl
theorem xu(P:Params):((boot_heap P).isNs mainGlobals&&(Array.size (Array.mk ([]:List GenState))) == 0)=true:=by kernel_rfl
theorem vw(P:Params):(boot_heap P).objs.size=qS:=by kernel_rfl
theorem vx(w:World)(os:OsState):(vt w os).abs=⟨boot_heap w.2,Array.mk [],boot_drawn,boot_toks,os⟩:=
 congrArg (λ h=>Shared.mk h (Array.mk []) boot_drawn boot_toks os) (vr w.2)
theorem zr:Nat.ble 600 9392=true:=by decide
theorem A5(w:World):(fencedOpening treeTable qw w 9392).map (λ s=>(s.heap,s.gens,s.drawn,s.toks))=some (boot_heap w.2,Array.mk [],boot_drawn,boot_toks):=boot_open oh zr pS w
theorem CO(w:World)(os:OsState):fY treeTable qw w (boot_heap w.2).objs.size ((boot_heap w.2).nsMap mainGlobals "__annotations__") 9392 (vt w os) (topStub qw)=zq w os:=by
 rw[vw,kU];rfl
theorem CP:LeftO qw qv pR (λ _=>true) Yf Ya 9392:=
 vv A5 xu vx CO CM CN
theorem CQ{a b:Bool}(x:a=true)(y:b=true):(a&&b)=true:=by rw[x,y];rfl
set_option maxHeartbeats 0 in
theorem wellSaid:PySem.Challenge.rw_pf0022_01.wellSaid=true:=by
 rw[Fast.te9446332074065402090]
 unfold Fast.tw9446332074065402090 Fast.tw17960256430627541270 Fast.tw2436336058641802641
 repeat refine CQ ?_ ?_
 all_goals as_aux_lemma=>kernel_rfl
def cf:HL->List Nat->List Obj->HL
 |l,i::ix,o::os=>cf (l.modify i λ x=>(x.1,o)) ix os
 |l,[],_=>l
 |l,_::_,[]=>l
def eL(l:HL):List Nat->Option HL
 |[]=>some []
 |i::ix=>match l[i]? with
  |some x=>match eL l ix with
   |some r=>some (x::r)
   |none=>none
  |none=>none
theorem eE{l:HL}{i:Nat}{ix:List Nat}{r:HL}(h:eL l (i::ix)=some r):∃x r',l[i]? =some x/\eL l ix=some r'/\r=x::r':=by
 unfold eL at h
 split at h
 ·rename_i x e
  split at h
  ·rename_i r' e'
   injection h with h
   exact⟨x,r',e,e',h.symm⟩
  ·cases h
 ·cases h
theorem kV{l:HL}:∀{ix:List Nat} {r:HL},eL l ix=some r->∀x∈r,x∈l
 |[],r,h,x,hx=>by unfold eL at h;injection h with h;subst h;cases hx
 |i::ix,r,h,x,hx=>by
  obtain⟨y,r',h1,h2,rfl⟩:=eE h
  rcases lI.mp hx with rfl |hx
  ·exact sH h1
  ·exact kV h2 x hx
theorem qT{l:HL}:∀{ix:List Nat} {r:HL},eL l ix=some r->∀x∈r,∃n∈ix,l[n]? =some x
 |[],r,h,x,hx=>by unfold eL at h;injection h with h;subst h;cases hx
 |i::ix,r,h,x,hx=>by
  obtain⟨y,r',h1,h2,rfl⟩:=eE h
  rcases lI.mp hx with rfl |hx
  ·exact⟨i,L5 ..,h1⟩
  ·obtain⟨n,hn,e⟩:=qT h2 x hx
   exact⟨n,L7 _ hn,e⟩
theorem jL(l:HL)(i:Nat)(o:Obj):aH (l.modify i λ x=>(x.1,o))=aH l:=by
 unfold aH
 apply List.ext_getElem?
 intro n
 rw[qz,qz,List.getElem?_modify]
 cases l[n]? with
 |none=>rfl
 |some y=>by_cases h:i=n<;>simp[h]
theorem fZ:∀(ix:List Nat) (os:List Obj) (l:HL),aH (cf l ix os)=aH l
 |[],_,_=>by unfold cf;rfl
 |_::_,[],_=>by unfold cf;rfl
 |i::ix,o::os,l=>by
  unfold cf
  rw[fZ ix os,jL]
theorem kW{l:HL}(h:(aH l).Nodup){i j:Nat}{x y:Nat×Obj}(hi:l[i]? =some x)(hj:l[j]? =some y)(e:x.1=y.1):i=j:=by
 have h1:(aH l)[i]? =some x.1:=by unfold aH;rw[qz,hi];rfl
 have h2:(aH l)[j]? =some x.1:=by unfold aH;rw[qz,hj,e];rfl
 obtain⟨li,_⟩:=List.getElem?_eq_some_iff.mp h1
 exact(List.getElem?_inj li h).mp (h1.trans h2.symm)
theorem A6{l:HL}(h:(aH l).Nodup){x y:Nat×Obj}(hx:x∈l)(hy:y∈l)(e:x.1=y.1):x=y:=by
 obtain⟨i,hi⟩:=List.getElem?_of_mem hx
 obtain⟨j,hj⟩:=List.getElem?_of_mem hy
 have:=kW h hi hj e
 subst this
 rw[hi] at hj
 exact L8 hj
theorem jM{l:HL}{i:Nat}{o:Obj}:∀{ix:List Nat} {r:HL},i∉ix->eL l ix=some r->eL (l.modify i λ x=>(x.1,o)) ix=some r
 |[],r,_,h=>h
 |j::ix,r,hi,h=>by
  obtain⟨x,r',h1,h2,rfl⟩:=eE h
  have ne:i≠j:=λ q=>hi (by rw[q];exact L5 ..)
  have e:(l.modify i λ x=>(x.1,o))[j]? =some x:=by rw[List.getElem?_modify,h1];show some (if i=j then _ else _)=_;rw[if_neg ne]
  have t:=jM (o:=o) (λ q=>hi (L7 _ q)) h2
  unfold eL
  rw[e,t]
theorem jN:∀(ix:List Nat) (os:List Obj) (l r:HL),(aH l).Nodup->eL l ix=some r->ix.length=os.length->ix.Nodup->∀x∈cf l ix os,x∈List.zip (aH r) os\/(x∈l/\x.1∉aH r)
 |[],_,l,r,nd,h,hl,_,x,hx=>by
  unfold cf at hx;unfold eL at h;injection h with h;subst h
  exact .inr ⟨hx,λ q=>by cases q⟩
 |i::ix,[],l,r,nd,h,hl,_,x,hx=>by cases hl
 |i::ix,o::os,l,r,nd,h,hl,ndx,x,hx=>by
  obtain⟨y,r',h1,h2,rfl⟩:=eE h
  unfold cf at hx
  have nx:=po.mp ndx
  have hl':ix.length=os.length:=by simpa using hl
  rcases jN ix os (l.modify i λ x=>(x.1,o)) r' (by rw[jL];exact nd) (jM nx.1 h2) hl' nx.2 x hx with q |⟨q1,q2⟩
  ·exact .inl (L7 _ q)
  ·obtain⟨n,hn⟩:=List.getElem?_of_mem q1
   rw[List.getElem?_modify] at hn
   by_cases e:i=n
   ·rw[<-e,h1] at hn
    have hn:some (if i=i then(y.1,o) else y)=some x:=hn
    rw[if_pos rfl] at hn
    injection hn with hn
    exact .inl (by subst hn;exact L5 ..)
   ·have hn:l[n]? =some x:=by
     cases hq:l[n]? with
     |none=>rw[hq] at hn;cases hn
     |some v=>
      rw[hq] at hn
      have hn:some (if i=n then(v.1,o) else v)=some x:=hn
      rw[if_neg e] at hn
      exact hn
    refine .inr ⟨sH hn,λ q=>?_⟩
    rcases lI.mp q with q |q
    ·exact e (kW nd h1 hn q.symm)
    ·exact q2 q
theorem kX{l:HL}(nd:(aH l).Nodup):∀{ix:List Nat} {r:HL},eL l ix=some r->ix.Nodup->(aH r).Nodup
 |[],r,h,_=>by unfold eL at h;injection h with h;subst h;exact List.nodup_nil
 |i::ix,r,h,ndx=>by
  obtain⟨y,r',h1,h2,rfl⟩:=eE h
  have nx:=po.mp ndx
  refine po.mpr ⟨λ q=>?_,kX nd h2 nx.2⟩
  obtain⟨v,hv,e⟩:=bZ.mp q
  obtain⟨n,hn,hv⟩:=qT h2 v hv
  have:=kW nd h1 hv e.symm
  exact nx.1 (this▸hn)
theorem bc(a b:HL):aH (a++b)=aH a++aH b:=nD ..
theorem iP(a b:List (Nat×Nat×Obj)):aZ (a++b)=aZ a++aZ b:=nD ..
theorem kY{P:Nat×Nat×Obj->Obj->Prop}:∀{I1 I2:List (Nat×Nat×Obj)} {F1 F2:List Obj},F1.length=I1.length->gV P (I1++I2) (F1++F2)->gV P I1 F1/\gV P I2 F2
 |[],I2,[],F2,_,h=>⟨trivial,h⟩
 |[],I2,f::F1,F2,hl,h=>by cases hl
 |i::I1,I2,[],F2,hl,h=>by cases hl
 |i::I1,I2,f::F1,F2,hl,h=>by
  have:=kY (I1:=I1) (F1:=F1) (by simpa using hl) h.2
  exact⟨⟨h.1,this.1⟩,this.2⟩
theorem oi{h:Heap}:∀{I:List (Nat×Nat×Obj)} {F:List Obj},gV (λ x o=>h.get? x.2.1=some o) I F->∀x∈List.zip (aZ I) F,h.get? x.1=some x.2/\x.1∈aZ I/\x.2∈F
 |[],_,_,x,hx=>by cases hx
 |i::I,[],q,x,hx=>by cases q
 |i::I,f::F,q,x,hx=>by
  rcases lI.mp hx with rfl |hx
  ·exact⟨q.1,L5 ..,L5 ..⟩
  ·have:=oi q.2 x hx
   exact⟨this.1,L7 _ this.2.1,L7 _ this.2.2⟩
structure A7(z z':SI)(P:HL)(ix:List Nat)(g g':Gh):Prop where
 n0:g'.n 0=g.n 0
 n1:g'.n 1=g.n 1
 sl:g'.sl=g.sl
 res:(z'.out g').res=(z.out g).res
 ends:∃F1 F2 N1 N2,(z.out g).fin=F1++F2/\(z.out g).new=N1++N2/\F1.length=z'.idx.length/\F2.length=ix.length/\F2.all (λ o=> !bd o)=true/\(z'.out g').fin=F1/\(z'.out g').new=N1/\(z'.out g').L=(cf P ix F2++(z.out g).L)++N2
theorem ai.lift{w:World}{G:Shared}{z z':SI}(hz:ai w G z)(I2:List (Nat×Nat×Obj))(P:HL)(ix:List Nat)(hc:z'.code=z.code)(hd:z.d<=z'.d)
  (hi:z.idx=z'.idx++I2)(hP:z'.L=P++z.L)(hp:eL P ix=some (aN I2))(nx:ix.Nodup)
  (ho:∀g,z.asm g->∃g',z'.asm g'/\A7 z z' P ix g g'):ai w G z':=by
 intro B nb fr n0 Γ R p h tok hcode hhd htop hfr hroom hunits bef hR
 have nd:=bef.nodup
 rw[hP,bc] at nd
 have nd1:=f8.mp nd
 have nd2:=f8.mp nd1.2.1
 have hI2:aH (aN I2)=aZ I2:=jm I2
 have ndI2:(aZ I2).Nodup:=by rw[<-hI2];exact kX nd2.1 hp nx
 have mG:∀a∈aZ I2,a∈aH P:=λ a ha=>by
  rw[<-hI2] at ha
  obtain⟨y,hy,e⟩:=bZ.mp ha
  exact bZ.mpr ⟨y,kV hp y hy,e⟩
 have hlst:∀x∈P++z.L,h.get? x.1=some x.2/\((C0 w.2).at B nb fr n0).n1<=x.1/\bd x.2=false:=λ x hx=>bef.lst x (by rw[hP];exact hx)
 have bef':ji ((C0 w.2).at B nb fr n0) z h:=by
  refine⟨bef.n1,bef.top,λ x hx=>?_,λ x hx=>hlst x (fm _ hx),?_⟩
  ·rw[hi] at hx
   rcases lK.mp hx with hx |hx
   ·exact bef.idx x hx
   ·have hm:x.2∈P:=kV hp x.2 (bZ.mpr ⟨x,hx,rfl⟩)
    have y:=hlst x.2 (fI _ hm)
    exact⟨y.1,y.2.1⟩
  ·rw[hi,iP,L9]
   refine f8.mpr ⟨nd1.1,f8.mpr ⟨ndI2,nd2.2.1,λ a ha b hb=>nd2.2.2 a (mG a ha) b hb⟩,λ a ha b hb=>?_⟩
   rcases lK.mp hb with hb |hb
   ·exact nd1.2.2 a ha b (fI _ (mG b hb))
   ·exact nd1.2.2 a ha b (fm _ hb)
 refine hz B nb fr n0 Γ R p h tok (hcode.trans hc) hhd (hc▸htop) hfr (by omega) (by omega) bef' λ g h' hg af=>?_
 obtain⟨g',hg',o⟩:=ho g hg
 obtain⟨F1,F2,N1,N2,e1,e2,e3,e4,e5,e6,e7,e8⟩:=o.ends
 rw[<-o.res,<-o.n1]
 have fin:=af.fin
 rw[hi,e1] at fin
 obtain⟨fin1,fin2⟩:=kY e3 fin
 have zp:=oi fin2
 have an:=af.new
 rw[e2] at an
 have nd3:=af.nodup
 rw[e2,bc,L9] at nd3
 have nn1:=f8.mp nd3
 have nn2:=f8.mp nn1.2.1
 have lt:∀a∈aH (P++z.L),a<h.objs.size:=λ a ha=>by
  obtain⟨y,hy,e⟩:=bZ.mp ha
  exact e▸kz (hlst y hy).1
 have ge:∀a∈aH (N1++N2),h.objs.size<=a:=λ a ha=>by
  obtain⟨y,hy,e⟩:=bZ.mp ha
  exact e▸(an y hy).2.1
 have keep:∀x∈P,x.1∉aZ I2->h'.get? x.1=some x.2:=λ x hx hn=>by
  have y:=hlst x (fI _ hx)
  have hm:x.1∈aH P:=bZ.mpr ⟨x,hx,rfl⟩
  have f:=af.frame x.1 x.2 y.1 (by
   rw[hi,iP]
   intro q
   rcases lK.mp q with q |q
   ·exact nd1.2.2 _ q _ (fI _ hm) rfl
   ·exact hn q) (λ q=>nd2.2.2 _ hm _ q rfl)
  rw[f]
  unfold aE
  rw[y.2.2]
 refine hR g' h' hg' ⟨by rw[o.n0];exact af.size,af.more,by rw[e6];exact fin1,λ x hx=>?_,λ x hx=>?_,?_,λ b ob hb h1 h2=>?_,λ b ob hlt hb h1 h2=>?_⟩
 ·rw[e7] at hx
  exact an x (fI _ hx)
 ·rw[e8] at hx
  rcases lK.mp hx with hx |hx
  ·rcases lK.mp hx with hx |hx
   ·have ain:x.1∈aH P:=by rw[<-fZ ix F2 P];exact bZ.mpr ⟨x,hx,rfl⟩
    have ain':x.1∈aH z'.L:=by rw[hP,bc];exact fI _ ain
    rcases jN ix F2 P _ nd2.1 hp e4.symm nx x hx with q |⟨q1,q2⟩
    ·rw[hI2] at q
     have t:=zp x q
     have u:=List.all_eq_true.mp e5 x.2 t.2.2
     exact⟨t.1,by simpa using u,.inl ain'⟩
    ·rw[hI2] at q2
     exact⟨keep x q1 q2,(hlst x (fI _ q1)).2.2,.inl ain'⟩
   ·have t:=af.lst x hx
    refine⟨t.1,t.2.1,?_⟩
    rcases t.2.2 with t |t
    ·exact .inl (by rw[hP,bc];exact fm _ t)
    ·exact .inr t
  ·have t:=an x (fm _ hx)
   exact⟨t.1,t.2.2,.inr t.2.1⟩
 ·rw[e7,e8,bc,bc,fZ]
  have dis:∀a∈aH (z.out g).L,a∉aH P:=λ a ha hb=>by
   obtain⟨y,hy,e⟩:=bZ.mp ha
   rcases(af.lst y hy).2.2 with t |t
   ·exact nd2.2.2 a hb _ (e▸t) rfl
   ·have:=lt a (by rw[bc];exact fI _ hb)
    have t:h.objs.size<=a:=e▸t
    omega
  refine f8.mpr ⟨nn1.1,f8.mpr ⟨f8.mpr ⟨nd2.1,nn2.2.1,λ a ha b hb e=>dis b hb (e▸ha)⟩,?_,λ a ha b hb e=>?_⟩,λ a ha b hb e=>?_⟩
  ·exact nn2.1
  ·have hg:=ge b (by rw[bc];exact fm _ hb)
   rcases lK.mp ha with ha |ha
   ·have:=lt a (by rw[bc];exact fI _ ha)
    omega
   ·exact nn2.2.2 b hb a ha e.symm
  ·have hg:=ge a (by rw[bc];exact fI _ ha)
   rcases lK.mp hb with hb |hb
   ·rcases lK.mp hb with hb |hb
    ·have:=lt b (by rw[bc];exact fI _ hb)
     omega
    ·exact nn1.2.2 a ha b (fm _ hb) e
   ·exact nn1.2.2 a ha b (fI _ hb) e
 ·have f:=af.frame b ob hb (by
   rw[hi,iP]
   intro q
   rcases lK.mp q with q |q
   ·exact h1 q
   ·exact h2 (by rw[hP,bc];exact fI _ (mG b q))) (λ q=>h2 (by rw[hP,bc];exact fm _ q))
  rw[f]
  unfold aE
  rw[o.sl]
 ·exact af.low b ob hlt hb (by
   rw[hi,iP]
   intro q
   rcases lK.mp q with q |q
   ·exact h1 q
   ·exact h2 (by rw[hP,bc];exact fI _ (mG b q))) (λ q=>h2 (by rw[hP,bc];exact fm _ q))
inductive A8(z z':SI)(K:HL)(g:Gh):Prop
 |mk (g':Gh) (h0:z'.asm g') (h1:g'.n 0=g.n 0) (h2:g'.n 1=g.n 1) (h3:g'.sl=g.sl) (h4:(z'.out g').res=(z.out g).res) (h5:(z'.out g').fin=(z.out g).fin) (h6:(z'.out g').new=(z.out g).new) (D:HL) (h7:((z'.out g').L++D).Perm ((z.out g).L++K))
theorem ai.perm{w:World}{G:Shared}{z z':SI}(hz:ai w G z)(K R:HL)(hc:z'.code=z.code)(hd:z.d<=z'.d)(hi:z'.idx=z.idx)(hL:z'.L.Perm (z.L++R))(hK:∀x∈K,x∈R)(nK:(aH z'.L).Nodup->(aH K).Nodup)
  (ho:∀g,z.asm g->A8 z z' K g):ai w G z':=by
 intro B nb fr n0 Γ R' p h tok hcode hhd htop hfr hroom hunits bef hR
 have mG:∀x∈z.L++R,x∈z'.L:=λ x hx=>hL.mem_iff.mpr hx
 have pa:(aH z'.L).Perm (aH (z.L++R)):=hL.map _
 have nd:=bef.nodup
 have nK:=nK (f8.mp nd).2.1
 have nd':(aZ z.idx++aH (z.L++R)).Nodup:=by
  rw[<-hi]
  exact((dQ _ pa).nodup_iff).mp nd
 rw[bc,<-L9] at nd'
 have nd1:=f8.mp nd'
 have nd1':=f8.mp nd1.1
 have bef':ji ((C0 w.2).at B nb fr n0) z h:=⟨bef.n1,bef.top,λ x hx=>bef.idx x (by rw[hi];exact hx),λ x hx=>bef.lst x (mG x (fI _ hx)),nd1.1⟩
 refine hz B nb fr n0 Γ R' p h tok (hcode.trans hc) hhd (hc▸htop) hfr (by omega) (by omega) bef' λ g h' hg af=>?_
 obtain⟨g',hg',e0,e1,e2,e3,e4,e5,D,e6⟩:=ho g hg
 rw[<-e3,<-e1]
 have lt:∀x∈R,x.1<h.objs.size:=λ x hx=>kz (bef.lst x (mG x (fm _ hx))).1
 have keep:∀x∈K,h'.get? x.1=some x.2/\bd x.2=false:=λ x hx=>by
  have hr:=hK x hx
  have y:=bef.lst x (mG x (fm _ hr))
  have hm:x.1∈aH R:=bZ.mpr ⟨x,hr,rfl⟩
  have f:=af.frame x.1 x.2 y.1 (λ q=>nd1.2.2 _ (fI _ q) _ hm rfl) (λ q=>nd1.2.2 _ (fm _ q) _ hm rfl)
  refine⟨?_,y.2.2⟩
  rw[f]
  unfold aE
  rw[y.2.2]
 have kin:∀x∈K,x.1∈aH z'.L:=λ x hx=>bZ.mpr ⟨x,mG x (fm _ (hK x hx)),rfl⟩
 have an:=f8.mp af.nodup
 have big:(aH (z.out g).new++aH ((z.out g).L++K)).Nodup:=by
  rw[bc]
  refine f8.mpr ⟨an.1,f8.mpr ⟨an.2.1,nK,λ a ha b hb e=>?_⟩,λ a ha b hb e=>?_⟩
  ·subst e
   obtain⟨x,hx,q⟩:=bZ.mp hb
   obtain⟨y,hy,q2⟩:=bZ.mp ha
   have hm:x.1∈aH R:=bZ.mpr ⟨x,hK x hx,rfl⟩
   rcases(af.lst y hy).2.2 with t |t
   ·exact nd1.2.2 _ (fm _ t) _ hm (q2.trans q.symm)
   ·have:=lt x (hK x hx)
    rw[q2,<-q] at t
    omega
  ·subst e
   rcases lK.mp hb with hb |hb
   ·exact an.2.2 a ha a hb rfl
   ·obtain⟨x,hx,q⟩:=bZ.mp hb
    obtain⟨y,hy,q2⟩:=bZ.mp ha
    have:=lt x (hK x hx)
    have t:=(af.new y hy).2.1
    rw[q2,<-q] at t
    omega
 have big':(aH (z'.out g').new++aH ((z'.out g').L++D)).Nodup:=by
  rw[e5]
  exact((dQ _ (e6.map _)).nodup_iff).mpr big
 rw[bc,<-L9] at big'
 refine hR g' h' hg' ⟨by rw[e0];exact af.size,af.more,by rw[hi,e4];exact af.fin,by rw[e5];exact af.new,λ x hx=>?_,(f8.mp big').1,λ b ob hb h1 h2=>?_,λ b ob hlt hb h1 h2=>?_⟩
 ·have hm:x∈(z.out g).L++K:=e6.mem_iff.mp (fI _ hx)
  rcases lK.mp hm with hm |hm
  ·have t:=af.lst x hm
   refine⟨t.1,t.2.1,?_⟩
   rcases t.2.2 with t |t
   ·obtain⟨y,hy,q⟩:=bZ.mp t
    exact .inl (bZ.mpr ⟨y,mG y (fI _ hy),q⟩)
   ·exact .inr t
  ·have t:=keep x hm
   exact⟨t.1,t.2,.inl (kin x hm)⟩
 ·have f:=af.frame b ob hb (by rw[<-hi];exact h1) (λ q=>h2 (by
   obtain⟨y,hy,q⟩:=bZ.mp q
   exact bZ.mpr ⟨y,mG y (fI _ hy),q⟩))
  rw[f]
  unfold aE
  rw[e2]
 ·exact af.low b ob hlt hb (by rw[<-hi];exact h1) (λ q=>h2 (by
   obtain⟨y,hy,q⟩:=bZ.mp q
   exact bZ.mpr ⟨y,mG y (fI _ hy),q⟩))
def SI.laid(z:SI)(k m:Nat)(L0:HL)(L1:Gh->HL):SI:=⟨z.code,z.d,z.idx.take k,L0,λ g=>g.l=L1 g,λ g=>⟨(z.out g).res,(z.out g).fin.take k,(z.out g).new.take m,g.l⟩⟩
theorem ai.laid{w:World}{G:Shared}{z:SI}(hz:ai w G z)(ha:∀g,z.asm g)(k m:Nat)(P:HL)(ix:List Nat){L0:HL}{L1:Gh->HL}(hP:L0=P++z.L)(hp:eL P ix=some (aN (z.idx.drop k)))(nx:ix.Nodup)
  (hn:∀g l,z.out {g with l:=l}=z.out g/\L1 {g with l:=l}=L1 g)
  (hl:∀g,((z.out g).fin.take k).length=(z.idx.take k).length/\((z.out g).fin.drop k).length=ix.length/\((z.out g).fin.drop k).all (λ o=> !bd o)=true/\L1 g=(cf P ix ((z.out g).fin.drop k)++(z.out g).L)++(z.out g).new.drop m):ai w G (z.laid k m L0 L1):=by
 refine ai.lift (z':=z.laid k m L0 L1) hz (z.idx.drop k) P ix rfl (Nat.le_refl _) (List.take_append_drop k _).symm hP hp nx λ g _=>?_
 obtain⟨h1,h2⟩:=hn g (L1 g)
 obtain⟨a1,a2,a3,a4⟩:=hl g
 refine⟨{g with l:=L1 g},h2.symm,rfl,rfl,rfl,?_,(z.out g).fin.take k,(z.out g).fin.drop k,(z.out g).new.take m,(z.out g).new.drop m,(List.take_append_drop k _).symm,(List.take_append_drop m _).symm,a1,a2,a3,?_,?_,a4⟩
 ·show(z.out {g with l:=L1 g}).res=_
  rw[h1]
 ·show(z.out {g with l:=L1 g}).fin.take k=_
  rw[h1]
 ·show(z.out {g with l:=L1 g}).new.take m=_
  rw[h1]
noncomputable def rA(a:Nat):Value:=.ref (a+822)
noncomputable def jn:Str:=⟨⟨[109,111,100,101]⟩⟩
noncomputable def jo:Str:=⟨⟨[110,97,109,101]⟩⟩
noncomputable def rX:Str:=⟨⟨[97,116]⟩⟩
noncomputable def jp:Str:=⟨⟨[115,105,122,101]⟩⟩
noncomputable def eM:Str:=⟨⟨[98,117,102,102,101,114]⟩⟩
noncomputable def fA:Str:=⟨⟨[114,101,99,111,114,100]⟩⟩
noncomputable def vy:Str:=⟨⟨[111,112,101,110]⟩⟩
noncomputable def xv:Str:=⟨⟨[112,97,114,116,115]⟩⟩
noncomputable def rY:Str:=⟨⟨[114,101,99,111,114,100,115]⟩⟩
noncomputable def iQ:Str:=⟨⟨[99,101,108,108,115]⟩⟩
noncomputable def iR:Str:=⟨⟨[99,111,117,110,116]⟩⟩
noncomputable def bA:Str:=⟨⟨[82,69,67]⟩⟩
noncomputable def bq:Str:=⟨⟨[70,78,65]⟩⟩
noncomputable def bH:Str:=⟨⟨[70,78,66]⟩⟩
noncomputable def ca:Str:=⟨⟨[70,78,67]⟩⟩
noncomputable def cG:Str:=⟨⟨[70,78,68]⟩⟩
noncomputable def bv:Str:=⟨⟨[79,80,69,78]⟩⟩
noncomputable def aL:Str:=⟨⟨[70,73,69,76,68]⟩⟩
noncomputable def eN:Str:=⟨⟨[71,69,84]⟩⟩
noncomputable def eO:Str:=⟨⟨[80,85,84]⟩⟩
noncomputable def aC:Str:=⟨⟨[67,76,79,83,69]⟩⟩
noncomputable def cq:Str:=⟨⟨[76,83,69,84]⟩⟩
noncomputable def CR:Str:=⟨⟨[102,110]⟩⟩
noncomputable def aF:Str:=⟨⟨[99,111,100,101]⟩⟩
noncomputable def eP:Str:=⟨⟨[116,111,108,100]⟩⟩
noncomputable def b9:Str:=⟨⟨[84,77]⟩⟩
noncomputable def gv:Str:=⟨⟨[79,86]⟩⟩
noncomputable def bK:Str:=⟨⟨[119,111,114,108,100]⟩⟩
noncomputable def pT:Str:=⟨⟨[102,108,97,116]⟩⟩
noncomputable def jq:Str:=⟨⟨[97,110,115,119,101,114,115]⟩⟩
noncomputable def mU:Str:=⟨⟨[98,105,116,115]⟩⟩
noncomputable def iT:Str:=⟨⟨[100,105,103,105,116,115]⟩⟩
noncomputable def jr:Str:=⟨⟨[99,111,110,116,114,111,108]⟩⟩
noncomputable def eu:Str:=⟨⟨[97,115,107,101,100]⟩⟩
noncomputable def CS:Str:=⟨⟨[112,105,108,101]⟩⟩
noncomputable def CT:Str:=⟨⟨[109,111,115,116]⟩⟩
noncomputable def yB:Str:=⟨⟨[102,97,105,108,101,100,95,97,116]⟩⟩
noncomputable def ff:Str:=⟨⟨[82]⟩⟩
noncomputable def fJ:Str:=⟨⟨[79]⟩⟩
noncomputable def fK:Str:=⟨⟨[65]⟩⟩
noncomputable def EO:Str:=⟨⟨[70]⟩⟩
noncomputable def gw:Str:=⟨⟨[112,113]⟩⟩
noncomputable def cy:Str:=⟨⟨[120,121,122,119]⟩⟩
noncomputable def ad:Str:=⟨⟨[83,36]⟩⟩
noncomputable def av:Str:=⟨⟨[84,36]⟩⟩
noncomputable def bb:Str:=⟨⟨[85,36]⟩⟩
noncomputable def aJ:Str:=⟨⟨[99,97,115,101]⟩⟩
noncomputable def ay:Str:=⟨⟨[119,97,110,116,115]⟩⟩
noncomputable def az:Str:=⟨⟨[114,105,103,104,116]⟩⟩
noncomputable def aA:Str:=⟨⟨[103,105,118,101,110]⟩⟩
noncomputable def bE:Str:=⟨⟨[119,97,110,116]⟩⟩
noncomputable def bF:Str:=⟨⟨[102,111,114,109]⟩⟩
noncomputable def aM:Str:=⟨⟨[105,115,95,102,111,114,95,116,101,120,116]⟩⟩
noncomputable def cZ:Str:=⟨⟨[115,99,114,105,112,116]⟩⟩
noncomputable def bN:Str:=⟨⟨[98,111,111,107]⟩⟩
noncomputable def ju:Str:=⟨⟨[116,117,114,110]⟩⟩
noncomputable def cB:Str:=⟨⟨[111,114,100,101,114]⟩⟩
noncomputable def mg:Str:=⟨⟨[100,117,101]⟩⟩
noncomputable def gR:Str:=⟨⟨[119,111,114,100,115]⟩⟩
noncomputable def mh:Str:=⟨⟨[114,117,110]⟩⟩
noncomputable def Cd:Str:=⟨⟨[119,114,111,110,103]⟩⟩
noncomputable def aV:Str:=⟨⟨[119,111,114,100]⟩⟩
noncomputable def de:Str:=⟨⟨[111,110,101]⟩⟩
noncomputable def aa:Str:=⟨⟨[]⟩⟩
def kS(P:Params)(s:Str)(t:Nat)(v:Value):DictEntry:=⟨ae (C0 P).set1 s,.str s t,v⟩
noncomputable def dO(n:Nat)(l:List DictEntry):Obj:=⟨.type "dict",none,.dict ⟨l⟩ n,⟨[]⟩⟩
noncomputable def tO(l:List Value):Obj:=⟨.type "tuple",none,.seq ⟨l⟩ 0,⟨[]⟩⟩
noncomputable def lO(n:Nat)(l:List Value):Obj:=⟨.type "list",none,.seq ⟨l⟩ n,⟨[]⟩⟩
def bm(P:Params)(a u:Nat->Nat):Obj:=⟨.type "dict",none,.dict ⟨[⟨ae (C0 P).set1 ⟨⟨[98,105,116,115]⟩⟩,.str ⟨⟨[98,105,116,115]⟩⟩ (u 0),.int 16 (u 1)⟩,⟨ae (C0 P).set1 ⟨⟨[100,105,103,105,116,115]⟩⟩,.str ⟨⟨[100,105,103,105,116,115]⟩⟩ (u 2),.int 9 (u 3)⟩,⟨ae (C0 P).set1 ⟨⟨[109,111,115,116,95,115,116,101,112,115]⟩⟩,.str ⟨⟨[109,111,115,116,95,115,116,101,112,115]⟩⟩ (u 4),.int 2000 (u 5)⟩,⟨ae (C0 P).set1 ⟨⟨[109,111,115,116,95,100,101,112,116,104]⟩⟩,.str ⟨⟨[109,111,115,116,95,100,101,112,116,104]⟩⟩ (u 6),.int 20 (u 7)⟩,⟨ae (C0 P).set1 ⟨⟨[114,111,111,109]⟩⟩,.str ⟨⟨[114,111,111,109]⟩⟩ (u 8),.int 2000 (u 9)⟩,⟨ae (C0 P).set1 ⟨⟨[110,97,109,101,115]⟩⟩,.str ⟨⟨[110,97,109,101,115]⟩⟩ (u 10),.ref (a 2+822)⟩,⟨ae (C0 P).set1 ⟨⟨[97,114,114,97,121,115]⟩⟩,.str ⟨⟨[97,114,114,97,121,115]⟩⟩ (u 11),.ref (a 15+822)⟩,⟨ae (C0 P).set1 ⟨⟨[107,105,110,100,115]⟩⟩,.str ⟨⟨[107,105,110,100,115]⟩⟩ (u 12),.ref (a 3+822)⟩,⟨ae (C0 P).set1 ⟨⟨[102,110,115]⟩⟩,.str ⟨⟨[102,110,115]⟩⟩ (u 13),.ref (a 4+822)⟩,⟨ae (C0 P).set1 ⟨⟨[111,117,116]⟩⟩,.str ⟨⟨[111,117,116]⟩⟩ (u 14),.ref (a 16+822)⟩,⟨ae (C0 P).set1 ⟨⟨[114,111,119]⟩⟩,.str ⟨⟨[114,111,119]⟩⟩ (u 15),.str ⟨⟨[]⟩⟩ (u 16)⟩,⟨ae (C0 P).set1 ⟨⟨[105,110,112,117,116,115]⟩⟩,.str ⟨⟨[105,110,112,117,116,115]⟩⟩ (u 17),.ref (a 17+822)⟩,⟨ae (C0 P).set1 ⟨⟨[102,105,108,101,115]⟩⟩,.str ⟨⟨[102,105,108,101,115]⟩⟩ (u 18),.ref (a 5+822)⟩,⟨ae (C0 P).set1 ⟨⟨[111,112,101,110]⟩⟩,.str ⟨⟨[111,112,101,110]⟩⟩ (u 19),.ref (a 6+822)⟩,⟨ae (C0 P).set1 ⟨⟨[102,105,101,108,100,115]⟩⟩,.str ⟨⟨[102,105,101,108,100,115]⟩⟩ (u 20),.ref (a 7+822)⟩,⟨ae (C0 P).set1 ⟨⟨[100,97,116,97]⟩⟩,.str ⟨⟨[100,97,116,97]⟩⟩ (u 21),.ref (a 18+822)⟩,⟨ae (C0 P).set1 ⟨⟨[115,112,111,116]⟩⟩,.str ⟨⟨[115,112,111,116]⟩⟩ (u 22),.int 0 (u 23)⟩,⟨ae (C0 P).set1 ⟨⟨[98,97,115,101]⟩⟩,.str ⟨⟨[98,97,115,101]⟩⟩ (u 24),.int 0 (u 25)⟩,⟨ae (C0 P).set1 ⟨⟨[115,101,101,100]⟩⟩,.str ⟨⟨[115,101,101,100]⟩⟩ (u 26),.int 1 (u 27)⟩,⟨ae (C0 P).set1 ⟨⟨[115,116,101,112,115]⟩⟩,.str ⟨⟨[115,116,101,112,115]⟩⟩ (u 28),.int 0 (u 29)⟩,⟨ae (C0 P).set1 ⟨⟨[100,101,112,116,104]⟩⟩,.str ⟨⟨[100,101,112,116,104]⟩⟩ (u 30),.int 0 (u 31)⟩,⟨ae (C0 P).set1 ⟨⟨[104,97,110,100,108,101,114]⟩⟩,.str ⟨⟨[104,97,110,100,108,101,114]⟩⟩ (u 32),.int 0 (u 33)⟩,⟨ae (C0 P).set1 ⟨⟨[105,115,95,104,97,110,100,108,105,110,103]⟩⟩,.str ⟨⟨[105,115,95,104,97,110,100,108,105,110,103]⟩⟩ (u 34),.bool false⟩,⟨ae (C0 P).set1 ⟨⟨[101,114,114,111,114,95,108,105,110,101]⟩⟩,.str ⟨⟨[101,114,114,111,114,95,108,105,110,101]⟩⟩ (u 35),.int 0 (u 36)⟩,⟨ae (C0 P).set1 ⟨⟨[101,114,114,111,114,95,99,111,100,101]⟩⟩,.str ⟨⟨[101,114,114,111,114,95,99,111,100,101]⟩⟩ (u 37),.str ⟨⟨[]⟩⟩ (u 38)⟩,⟨ae (C0 P).set1 ⟨⟨[105,115,95,116,114,97,99,101,100]⟩⟩,.str ⟨⟨[105,115,95,116,114,97,99,101,100]⟩⟩ (u 39),.bool false⟩,⟨ae (C0 P).set1 ⟨⟨[116,114,97,99,101,115]⟩⟩,.str ⟨⟨[116,114,97,99,101,115]⟩⟩ (u 40),.ref (a 19+822)⟩,⟨ae (C0 P).set1 ⟨⟨[99,111,109,109,111,110]⟩⟩,.str ⟨⟨[99,111,109,109,111,110]⟩⟩ (u 41),.ref (a 20+822)⟩]⟩ 28,⟨[]⟩⟩
noncomputable def fB:Stmt->List Stmt
 | .FunctionDef _ _ body _ _ _ _ _ _ _=>body
 |_=>[]
def cg(s:Stmt)(it:Value)(env:Env):Code:=match s with
 | .For t _ b o _=>.forLoop t it b o env
 |_=>.call .none ⟨[],[]⟩
def ci(o:Obj)(a F:Nat):Env:=match o with
 |⟨_,_,.func fd,_⟩=>⟨fd.scope,F,fd.globals,[],fd.qualname++".<locals>.",some a,fd.code,some F,fd.builtins⟩
 |_=>default
noncomputable def A9:Stmt->List Stmt
 | .For _ _ b _ _=>b
 |_=>[]
noncomputable def Ed:Stmt->Expr
 | .Assign _ v _=>v
 |_=>default
def A':List Expr->Nat->Expr
 |e::_,0=>e
 |_::r,n+1=>A' r n
 |[],_=>default
def zs:Expr->Nat->Expr
 | .Call _ a _ _,n=>A' a n
 | .Tuple e _ _,n=>A' e n
 |e,_=>e
def fC(b:Bool)(e:Expr)(it acc:Value)(env:Env):Code:=match b with
 |true=>.compStart e 0 it acc env
 |false=>.compLoop e 0 it acc env
def fD(e:Expr)(o:Obj)(D F:Nat):Env:=match e,o with
 | .ListComp _ _ sc _,⟨_,_,.func fd,_⟩=>⟨sc,D,fd.globals,[],fd.qualname++".<locals>.",none,fd.code,some F,fd.builtins⟩
 |_,_=>default
def mi:Expr:=zs (zs (zs (Ed (aq (A9 (aq (fB (aq bY 118)) 5)) 3)) 0) 2) 0
def EP(es:Array DictEntry)(n:Nat)(sl:Array (Option Value)):Obj:=⟨.type "frame",none,.dict es n,sl⟩
def oj(a b:Nat):Obj:=⟨.type "zip",none,.fields ⟨[.none,.bool false,.bool false,rA a,rA b]⟩,⟨[]⟩⟩
def gg(n:Nat)(sl:Array (Option Value))(l:List DictEntry):Obj:=⟨.type "frame",none,.dict ⟨l⟩ n,sl⟩
noncomputable def aO(n:Nat)(vs:Array Value):Obj:=⟨.type "list",none,.seq vs n,⟨[]⟩⟩
def oW(a:Nat->Nat):Obj:=⟨.ref 289,some (a 1+822),.plain,⟨[]⟩⟩
noncomputable def oD(es:Array DictEntry)(n:Nat):Obj:=⟨.type "dict",none,.dict es n,⟨[]⟩⟩
def dz(P:Params)(u:Nat->Nat)(b:Str)(bt:Nat)(r:Int)(rt:Nat):Obj:=⟨.type "dict",none,.dict ⟨[⟨ae (C0 P).set1 ⟨⟨[109,111,100,101]⟩⟩,.str ⟨⟨[109,111,100,101]⟩⟩ (u 50),.str ⟨⟨[82]⟩⟩ (u 56)⟩,⟨ae (C0 P).set1 ⟨⟨[110,97,109,101]⟩⟩,.str ⟨⟨[110,97,109,101]⟩⟩ (u 51),.str ⟨⟨[82,69,67]⟩⟩ (u 57)⟩,⟨ae (C0 P).set1 ⟨⟨[97,116]⟩⟩,.str ⟨⟨[97,116]⟩⟩ (u 52),.int 0 (u 58)⟩,⟨ae (C0 P).set1 ⟨⟨[115,105,122,101]⟩⟩,.str ⟨⟨[115,105,122,101]⟩⟩ (u 53),.int 6 (u 59)⟩,⟨ae (C0 P).set1 ⟨⟨[98,117,102,102,101,114]⟩⟩,.str ⟨⟨[98,117,102,102,101,114]⟩⟩ (u 54),.str b bt⟩,⟨ae (C0 P).set1 ⟨⟨[114,101,99,111,114,100]⟩⟩,.str ⟨⟨[114,101,99,111,114,100]⟩⟩ (u 55),.int r rt⟩]⟩ 6,⟨[]⟩⟩
def dA(P:Params)(a u:Nat->Nat)(b:Str)(bt:Nat):Obj:=⟨.type "dict",none,.dict ⟨[⟨ae (C0 P).set1 ⟨⟨[111,112,101,110]⟩⟩,.str ⟨⟨[111,112,101,110]⟩⟩ (u 60),.ref (a 10+822)⟩,⟨ae (C0 P).set1 ⟨⟨[112,97,114,116,115]⟩⟩,.str ⟨⟨[112,97,114,116,115]⟩⟩ (u 61),.ref (a 11+822)⟩,⟨ae (C0 P).set1 ⟨⟨[98,117,102,102,101,114]⟩⟩,.str ⟨⟨[98,117,102,102,101,114]⟩⟩ (u 62),.str b bt⟩,⟨ae (C0 P).set1 ⟨⟨[114,101,99,111,114,100,115]⟩⟩,.str ⟨⟨[114,101,99,111,114,100,115]⟩⟩ (u 63),.ref (a 12+822)⟩]⟩ 4,⟨[]⟩⟩
noncomputable def ol(r1:Str)(t1:Nat)(r2:Str)(t2:Nat):Obj:=⟨.type "list",none,.seq ⟨[.str r1 t1,.str r2 t2]⟩ 0,⟨[]⟩⟩
def hC(P:Params)(a u:Nat->Nat)(c:Int)(ct:Nat):Obj:=⟨.type "dict",none,.dict ⟨[⟨ae (C0 P).set1 ⟨⟨[99,101,108,108,115]⟩⟩,.str ⟨⟨[99,101,108,108,115]⟩⟩ (u 64),.ref (a 14+822)⟩,⟨ae (C0 P).set1 ⟨⟨[99,111,117,110,116]⟩⟩,.str ⟨⟨[99,111,117,110,116]⟩⟩ (u 65),.int c ct⟩]⟩ 2,⟨[]⟩⟩
noncomputable def oL(vs:List Value):Obj:=⟨.type "list",none,.seq ⟨vs⟩ 0,⟨[]⟩⟩
structure Ch where
 wa:Nat
 ba:Nat
 k:Int
 kt:Nat
 bkt:Nat
 u:Nat->Nat
 v:Nat->Nat
 md:Str
 nm:Str
 bf:Str
 sz:Int
def cH(P:Params)(x:Ch):Obj:=⟨.type "dict",none,.dict ⟨[⟨ae (C0 P).set1 ⟨⟨[109,111,100,101]⟩⟩,.str ⟨⟨[109,111,100,101]⟩⟩ (x.u 0),.str x.md (x.u 6)⟩,⟨ae (C0 P).set1 ⟨⟨[110,97,109,101]⟩⟩,.str ⟨⟨[110,97,109,101]⟩⟩ (x.u 1),.str x.nm (x.u 7)⟩,⟨ae (C0 P).set1 ⟨⟨[97,116]⟩⟩,.str ⟨⟨[97,116]⟩⟩ (x.u 2),.int 0 (x.u 8)⟩,⟨ae (C0 P).set1 ⟨⟨[115,105,122,101]⟩⟩,.str ⟨⟨[115,105,122,101]⟩⟩ (x.u 3),.int x.sz (x.u 9)⟩,⟨ae (C0 P).set1 ⟨⟨[98,117,102,102,101,114]⟩⟩,.str ⟨⟨[98,117,102,102,101,114]⟩⟩ (x.u 4),.str x.bf (x.u 10)⟩,⟨ae (C0 P).set1 ⟨⟨[114,101,99,111,114,100]⟩⟩,.str ⟨⟨[114,101,99,111,114,100]⟩⟩ (x.u 5),.int 0 (x.u 11)⟩]⟩ 6,⟨[]⟩⟩
noncomputable def sI(x:Ch):Obj:=⟨.type "tuple",none,.seq ⟨[.str x.nm (x.v 0),.str x.md (x.v 1),.int x.sz (x.v 2)]⟩ 0,⟨[]⟩⟩
noncomputable def am(x:Ch):DictEntry:=⟨hashInt x.k,.int x.k x.kt,.ref (x.wa+822)⟩
noncomputable def cC(x:Ch):DictEntry:=⟨hashInt x.k,.int x.k x.bkt,.ref (x.ba+822)⟩
structure Pa where
 wa:Nat
 ba:Nat
 kt:Nat
 bkt:Nat
 u:Nat->Nat
 v:Nat->Nat
 at_:Int
 many:Int
def dE(x:Pa):Obj:=⟨.type "tuple",none,.seq ⟨[.int 9 (x.u 0),.int x.at_ (x.u 1),.int x.many (x.u 2)]⟩ 0,⟨[]⟩⟩
noncomputable def xw(x:Pa):Obj:=⟨.type "tuple",none,.seq ⟨[.int 9 (x.v 0),.int x.at_ (x.v 1),.int x.many (x.v 2)]⟩ 0,⟨[]⟩⟩
def ah(P:Params)(s:Str)(x:Pa):DictEntry:=⟨ae (C0 P).set1 s,.str s x.kt,.ref (x.wa+822)⟩
def dM(P:Params)(s:Str)(x:Pa):DictEntry:=⟨ae (C0 P).set1 s,.str s x.bkt,.ref (x.ba+822)⟩
def CU(a u:Nat->Nat):Obj:=⟨.type "tuple",none,.seq ⟨[.str ⟨⟨[82,69,67]⟩⟩ (u 68),.str ⟨⟨[82]⟩⟩ (u 69),.int 6 (u 70)]⟩ 0,⟨[]⟩⟩
def cU(a u:Nat->Nat):DictEntry:=⟨hashInt 9,.int 9 (u 66),.ref (a 8+822)⟩
def jO(a u:Nat->Nat):DictEntry:=⟨hashInt 9,.int 9 (u 67),.ref (a 21+822)⟩
structure St where
 a:Nat->Nat
 u:Nat->Nat
 nm:Array DictEntry
 nmn:Nat
 fl:Array DictEntry
 fln:Nat
 op:Array DictEntry
 opn:Nat
 fi:Array DictEntry
 fin:Nat
 buf:Str
 bt:Nat
 rcn:Int
 rt:Nat
 bbuf:Str
 bbt:Nat
 bo:Array DictEntry
 bon:Nat
 bp:Array DictEntry
 bpn:Nat
 r1:Str
 t1:Nat
 r2:Str
 t2:Nat
 cnt:Int
 ct:Nat
 cells:List Value
 tail:HL
noncomputable def St.s_bbuf(S:St)(v:Str):St:={S with bbuf:=v}
theorem St.i_bbuf{S:St}{v:Str}(e:S.bbuf=v):S=S.s_bbuf v:=by cases S;cases e;rfl
theorem St.e_bbuf{S:St}{v:Str}(e:S.bbuf=v):∃S0:St,S=S0.s_bbuf v:=⟨S,St.i_bbuf e⟩
noncomputable def St.s_bo(S:St)(v:Array DictEntry):St:={S with bo:=v}
theorem St.i_bo{S:St}{v:Array DictEntry}(e:S.bo=v):S=S.s_bo v:=by cases S;cases e;rfl
theorem St.e_bo{S:St}{v:Array DictEntry}(e:S.bo=v):∃S0:St,S=S0.s_bo v:=⟨S,St.i_bo e⟩
noncomputable def St.s_bp(S:St)(v:Array DictEntry):St:={S with bp:=v}
theorem St.i_bp{S:St}{v:Array DictEntry}(e:S.bp=v):S=S.s_bp v:=by cases S;cases e;rfl
theorem St.e_bp{S:St}{v:Array DictEntry}(e:S.bp=v):∃S0:St,S=S0.s_bp v:=⟨S,St.i_bp e⟩
noncomputable def St.s_buf(S:St)(v:Str):St:={S with buf:=v}
theorem St.i_buf{S:St}{v:Str}(e:S.buf=v):S=S.s_buf v:=by cases S;cases e;rfl
theorem St.e_buf{S:St}{v:Str}(e:S.buf=v):∃S0:St,S=S0.s_buf v:=⟨S,St.i_buf e⟩
noncomputable def St.s_fi(S:St)(v:Array DictEntry):St:={S with fi:=v}
theorem St.i_fi{S:St}{v:Array DictEntry}(e:S.fi=v):S=S.s_fi v:=by cases S;cases e;rfl
theorem St.e_fi{S:St}{v:Array DictEntry}(e:S.fi=v):∃S0:St,S=S0.s_fi v:=⟨S,St.i_fi e⟩
noncomputable def St.s_fin(S:St)(v:Nat):St:={S with fin:=v}
theorem St.i_fin{S:St}{v:Nat}(e:S.fin=v):S=S.s_fin v:=by cases S;cases e;rfl
theorem St.e_fin{S:St}{v:Nat}(e:S.fin=v):∃S0:St,S=S0.s_fin v:=⟨S,St.i_fin e⟩
noncomputable def St.s_op(S:St)(v:Array DictEntry):St:={S with op:=v}
theorem St.i_op{S:St}{v:Array DictEntry}(e:S.op=v):S=S.s_op v:=by cases S;cases e;rfl
theorem St.e_op{S:St}{v:Array DictEntry}(e:S.op=v):∃S0:St,S=S0.s_op v:=⟨S,St.i_op e⟩
noncomputable def St.s_r1(S:St)(v:Str):St:={S with r1:=v}
theorem St.i_r1{S:St}{v:Str}(e:S.r1=v):S=S.s_r1 v:=by cases S;cases e;rfl
theorem St.e_r1{S:St}{v:Str}(e:S.r1=v):∃S0:St,S=S0.s_r1 v:=⟨S,St.i_r1 e⟩
noncomputable def St.s_r2(S:St)(v:Str):St:={S with r2:=v}
theorem St.i_r2{S:St}{v:Str}(e:S.r2=v):S=S.s_r2 v:=by cases S;cases e;rfl
theorem St.e_r2{S:St}{v:Str}(e:S.r2=v):∃S0:St,S=S0.s_r2 v:=⟨S,St.i_r2 e⟩
noncomputable def St.s_nm(S:St)(v:Array DictEntry):St:={S with nm:=v}
theorem St.i_nm{S:St}{v:Array DictEntry}(e:S.nm=v):S=S.s_nm v:=by cases S;cases e;rfl
theorem St.e_nm{S:St}{v:Array DictEntry}(e:S.nm=v):∃S0:St,S=S0.s_nm v:=⟨S,St.i_nm e⟩
theorem St.f_op{S:St}{f:(Nat->Nat)->(Nat->Nat)->Array DictEntry}(e:S.op=f S.a S.u):∃S0:St,S=S0.s_op (f S0.a S0.u):=⟨S,St.i_op e⟩
theorem St.f_bo{S:St}{f:(Nat->Nat)->(Nat->Nat)->Array DictEntry}(e:S.bo=f S.a S.u):∃S0:St,S=S0.s_bo (f S0.a S0.u):=⟨S,St.i_bo e⟩
theorem St.f_bbuf{S:St}(e:S.bbuf=S.buf):∃S0:St,S=S0.s_bbuf S0.buf:=⟨S,St.i_bbuf e⟩
noncomputable def St.tl(S:St)(v:HL):St:={S with tail:=v}
def bj(P:Params)(S:St):HL:=[(S.a 2+822,oD S.nm S.nmn),(S.a 3+822,oD #[] 0),(S.a 4+822,oD #[] 0),(S.a 5+822,oD S.fl S.fln),(S.a 6+822,oD S.op S.opn),(S.a 7+822,oD S.fi S.fin),
 (S.a 8+822,dz P S.u S.buf S.bt S.rcn S.rt),(S.a 9+822,dA P S.a S.u S.bbuf S.bbt),(S.a 10+822,oD S.bo S.bon),(S.a 11+822,oD S.bp S.bpn),(S.a 12+822,ol S.r1 S.t1 S.r2 S.t2),(S.a 13+822,hC P S.a S.u S.cnt S.ct),(S.a 14+822,oL S.cells),(S.a 21+822,CU S.a S.u)]
def aP(P:Params)(S:St):HL:=bj P S++S.tail
theorem Ee{m:Int}(h:0<=m/\m<=9):m=0\/m=1\/m=2\/m=3\/m=4\/m=5\/m=6\/m=7\/m=8\/m=9:=by omega
theorem vz{m:Int}(h:0<=m/\m<=2):m=0\/m=1\/m=2:=by omega
def Ba:List Obj->List (Nat×Obj)->List Obj
 |l,[]=>l
 |l,(i,o)::r=>Ba (l.set i o) r
def bg(l:List (Nat×Nat×Obj))(r:List (Nat×Obj)):List Obj:=Ba (l.map (·.2.2)) r
def gf(d:Nat):Obj:=⟨.ref 779,some d,.plain,⟨[]⟩⟩
def gk(P:Params)(u:Nat->Nat)(k w an co as:Nat):Obj:=dO 7 [kS P bK (u k) (.ref w),kS P pT (u (k+1)) .none,kS P jq (u (k+2)) (.ref an),kS P mU (u (k+3)) (.int 16 (u (k+4))),kS P iT (u (k+5)) (.int 9 (u (k+6))),kS P jr (u (k+7)) (.ref co),kS P eu (u (k+8)) (.ref as)]
def iu(s:Str)(t t' x:Nat):Obj:=tO [.str CR t,.str s t',.ref x]
inductive JX where
 |k (n:Nat)
 |o (j a:Nat) (x:Obj)
def DJ:List (Nat×Nat×Obj)->Nat->Nat×Obj
 |[],_=>(0,default)
 |x::_,0=>x.2
 |_::r,n+1=>DJ r n
def zt(l:List (Nat×Nat×Obj)):List JX->List (Nat×Nat×Obj)
 |[]=>[]
 | .k n::r=>(n,DJ l n)::zt l r
 | .o j a x::r=>(j,a,x)::zt l r
def CV(c:Code)(d:Nat)(i:List (Nat×Nat×Obj))(L:HL)(A:Gh->Prop)(o:Gh->Result×List (Nat×Obj)×HL×HL):SI:=⟨c,d,i,L,A,λ g=>⟨(o g).1,bg i (o g).2.1,(o g).2.2.1,(o g).2.2.2⟩⟩
def aj(c:Code)(d:Nat)(l:List (Nat×Nat×Obj))(i:List JX)(L:HL)(A:Gh->Prop)(o:Gh->Result×List (Nat×Obj)×HL×HL):SI:=CV c d (zt l i) L A o
def ax(b:Nat):Nat->Nat->List Nat
 |0,_=>[]
 |n+1,x=>x%b::ax b n (x/b)
def fE(P:Params)(S:St):HL:=(bj P S).eraseIdx 5
def ew(P:Params)(S:St):HL:=fE P S++S.tail
structure Pr where
 S:St
 a:Nat->Nat
 u:Nat->Nat
 j:Nat->Nat
 c:Nat->Nat
 m:Nat->Int
 s:Nat->Str
 o:Nat->Obj
 v:Nat->Value
 l:Nat->List Value
 e:Nat->Array DictEntry
 en:Nat->Nat
 h:Nat->Ch
 p:Nat->Pa
 r:Nat->Option Nat
 sl:Nat->Array (Option Value)
 L:HL
inductive T2 where |a |b
inductive T3 where |a |b |c
inductive T4 where |a |b |c |d
inductive T5 where |a |b |c |d |e
inductive T6 where |a |b |c |d |e |f
def T2.p{α:Type}:T2->α->α->α
 | .a,x,_=>x
 | .b,_,x=>x
def T3.p{α:Type}:T3->α->α->α->α
 | .a,x,_,_=>x
 | .b,_,x,_=>x
 | .c,_,_,x=>x
def T4.p{α:Type}:T4->α->α->α->α->α
 | .a,x,_,_,_=>x
 | .b,_,x,_,_=>x
 | .c,_,_,x,_=>x
 | .d,_,_,_,x=>x
def T5.p{α:Type}:T5->α->α->α->α->α->α
 | .a,x,_,_,_,_=>x
 | .b,_,x,_,_,_=>x
 | .c,_,_,x,_,_=>x
 | .d,_,_,_,x,_=>x
 | .e,_,_,_,_,x=>x
def T6.p{α:Type}:T6->α->α->α->α->α->α->α
 | .a,x,_,_,_,_,_=>x
 | .b,_,x,_,_,_,_=>x
 | .c,_,_,x,_,_,_=>x
 | .d,_,_,_,x,_,_=>x
 | .e,_,_,_,_,x,_=>x
 | .f,_,_,_,_,_,x=>x
inductive AV where
 |i (m:Int) (t:Nat)
 |s (y:Str) (t:Nat)
 |r (a:Nat)
def AV.v:AV->Value
 | .i m t=>.int m t
 | .s y t=>.str y t
 | .r a=>rA a
inductive OV where
 |n
 |r (a:Nat)
def OV.v:OV->Value
 | .n=>.none
 | .r a=>rA a
noncomputable def Pr.ar(q:Pr)(k:Nat):Array Value:=⟨q.l k⟩
noncomputable def j7(l:List Int):Nat->Int:=λ n=>l.getD n 0
noncomputable def pe(l:List Str):Nat->Str:=λ n=>l.getD n ⟨⟨[]⟩⟩
noncomputable def At(l:List Obj):Nat->Obj:=λ n=>l.getD n default
def gN(n:List Nat)(L:HL)(v vl:List Value):Gh:=⟨tk n,L,λ n=>v.getD n .none,λ _=>0,λ _=> #[],λ _=>vl,λ _=>⟨0,0,0,0⟩⟩
def hG:List Nat->HL->jI
 |j::js,x::r=>(j,some x)::hG js r
 |_,_=>[]
def zu(z:SI)(js:List Nat)(g:Gh)(size toks:Nat)(L:HL):ST:=.done (z.out g).res size toks (hG js (List.zip (aZ z.idx) (z.out g).fin++(z.out g).new)) L
theorem jP:∀(js:List Nat) (l:HL),js.length=l.length->jJ (hG js l)=l
 |[],[],_=>rfl
 |_::_,[],h=>by cases h
 |[],_::_,h=>by cases h
 |j::js,x::l,h=>by
  have ih:=jP js l (by simpa using h)
  show jJ ((j,some x)::hG js l)=x::l
  unfold jJ at ih ⊢
  rw[List.filterMap_cons_some (b:=x) (by exact rfl),ih]
theorem mW{n0:Nat}{h0 h:Heap}:∀(I:List (Nat×Nat×Obj)) (F:List Obj) (js:List Nat) (N:HL),F.length=I.length->js.length=I.length+N.length->xi n0 h0 h (hG js (List.zip (aZ I) F++N))->
  gV (λ x o=>h.get? x.2.1=some o) I F/\xi n0 h0 h (hG (js.drop I.length) N)
 |[],[],js,N,_,_,s=>⟨trivial,s⟩
 |[],_::_,_,_,h,_,_=>by cases h
 |_::_,[],_,_,h,_,_=>by cases h
 |x::I,o::F,[],N,_,h,_=>by simp at h;omega
 |x::I,o::F,j::js,N,h1,h2,s=>by
  have s:(h.get? x.2.1=some o/\_)/\xi n0 h0 h (hG js (List.zip (aZ I) F++N)):=s
  have ih:=mW I F js N (by simpa using h1) (by simp at h2;omega) s.2
  exact⟨⟨s.1.1,ih.1⟩,ih.2⟩
theorem qU{n0:Nat}{h0 h:Heap}:∀(js:List Nat) (N:HL),js.length=N.length->js.all (Nat.ble n0)=true->N.all (λ x=> !bd x.2)=true->xi n0 h0 h (hG js N)->∀x∈N,h.get? x.1=some x.2/\h0.objs.size<=x.1/\bd x.2=false
 |[],[],_,_,_,_,x,hx=>by cases hx
 |[],_::_,h,_,_,_,_,_=>by cases h
 |_::_,[],h,_,_,_,_,_=>by cases h
 |j::js,y::N,hl,h1,h2,s,x,hx=>by
  rw[List.all_cons,AC] at h1 h2
  have s:(h.get? y.1=some y.2/\(Nat.ble n0 j=true->h0.objs.size<=y.1))/\xi n0 h0 h (hG js N):=s
  rcases lI.mp hx with rfl |hx
  ·exact⟨s.1.1,s.1.2 h1.1,by simpa using h2.1⟩
  ·exact qU js N (by simpa using hl) h1.2 h2.2 s.2 x hx
theorem om:∀(I:List (Nat×Nat×Obj)) (F:List Obj),F.length=I.length->aH (List.zip (aZ I) F)=aZ I
 |[],[],_=>rfl
 |[],_::_,h=>by cases h
 |_::_,[],h=>by cases h
 |x::I,o::F,h=>by
  show x.2.1::aH (List.zip (aZ I) F)=x.2.1::aZ I
  rw[om I F (by simpa using h)]
theorem tv.fin{E:EC}{h0 h:Heap}{size:Nat}{z:SI}{g0 g:Gh}{js:List Nat}{L:HL}(e:tv E (fp z) h0 size (hG js (List.zip (aZ z.idx) (z.out g0).fin++(z.out g0).new)) L h)(ho:z.out g0=z.out g)(hs:size=g.n 0+822)(hsl:g.sl=bn h)
  (hl:(z.out g).fin.length=z.idx.length)(hj:js.length=z.idx.length+(z.out g).new.length)(hnew:(js.drop z.idx.length).all (Nat.ble E.n0)=true)(hfr:(z.out g).new.all (λ x=> !bd x.2)=true)(hL:(z.out g).L=L):cv z g h0 h:=by
 rw[ho] at e
 have lz:(List.zip (aZ z.idx) (z.out g).fin).length=z.idx.length:=by
  rw[List.length_zip,hl]
  unfold aZ
  rw[kx,Nat.min_self]
 have sh:=jP js (List.zip (aZ z.idx) (z.out g).fin++(z.out g).new) (by rw[rC,lz,hj])
 obtain⟨s1,s2⟩:=mW z.idx (z.out g).fin js (z.out g).new hl hj e.saw
 have nd:=e.nodup
 rw[sh,bc,om _ _ hl,L9] at nd
 have nd1:=f8.mp nd
 refine e.after hs hsl s1 (qU _ _ (by rw[AG,hj];omega) hnew hfr s2) (λ x hx=>?_) (by rw[hL];exact nd1.2.1)
 rw[hL] at hx
 have y:=e.lst x hx
 refine⟨y.1,y.2.1,?_⟩
 rcases y.2.2 with(q |q) |q
 ·exact absurd rfl (nd1.2.2 x.1 q x.1 (fm _ (bZ.mpr ⟨x,hx,rfl⟩)))
 ·exact .inl q
 ·exact .inr q
noncomputable abbrev AA:=Nat->List Gh->Prop
theorem cP{w:World}{G:Shared}{z:SI}(h:∀(A:Around) (R:Result->Shared->Prop) (s:Shared),822<=s.heap.objs.size->A.handled=none->A.units+10*z.d+40<cLine->(∀x∈z.idx,s.heap.get? x.2.1=some x.2.2/\822<=x.2.1)->(∀x∈z.L,s.heap.get? x.1=some x.2/\bd x.2=false)->
  (∀a o,(iM w.2).get a=some o->s.heap.get? a=some o)->(aZ z.idx++aH z.L).Nodup->(∀g h',z.asm g->cv z g s.heap h'->R (z.out g).res {s with heap:=h',toks:=g.n 1})->codeAny (model qw w) A z.code R s):ai w G z:=by
 intro B nb fr n0 Γ R p h0 tok hcode hhd htop hfr hroom hunits bef hR
 exact h (eU Γ) R {G with heap:=h0,toks:=tok} bef.n1 hhd hunits bef.idx (λ x hx=>⟨(bef.lst x hx).1,(bef.lst x hx).2.2⟩) bef.top bef.nodup hR Γ p hcode (bG Γ)
theorem cv.kept{z:SI}{g:Gh}{h h':Heap}(hs:h'.objs.size=g.n 0+822)(hsl:g.sl=bn h')(hk:∀b o,h.get? b=some o->h'.get? b=some o)(hm:h.objs.size<=h'.objs.size)
  (hi:∀x∈z.idx,h.get? x.2.1=some x.2.2)(hf:(z.out g).fin=z.idx.map (·.2.2))(hn:∀x∈(z.out g).new,h'.get? x.1=some x.2/\h.objs.size<=x.1/\bd x.2=false)(hL:(z.out g).L=z.L)(hl:∀x∈z.L,h.get? x.1=some x.2/\bd x.2=false)
  (hnd:(aH (z.out g).new++aH z.L).Nodup):cv z g h h':=by
 have fin:∀(I:List (Nat×Nat×Obj)),(∀x∈I,h.get? x.2.1=some x.2.2)->gV (λ x o=>h'.get? x.2.1=some o) I (I.map (·.2.2)):=by
  intro I
  induction I with
  |nil=>intro _;trivial
  |cons x r ih=>intro q;exact⟨hk _ _ (q x (L5 ..)),ih λ y hy=>q y (L7 _ hy)⟩
 refine⟨hs,hm,by rw[hf];exact fin _ hi,hn,λ x hx=>?_,by rw[hL];exact hnd,λ b o hb _ _=>?_,λ b o _ hb _ _=>hk b o hb⟩
 ·rw[hL] at hx
  have y:=hl x hx
  exact⟨hk _ _ y.1,y.2,.inl (bZ.mpr ⟨x,hx,rfl⟩)⟩
 ·have e:=hk b o hb
  rw[e]
  unfold aE
  cases q:bd o with
  |false=>rfl
  |true=>
   have:g.sl b=o.slots:=by rw[hsl];unfold bn;rw[e]
   rw[this]
theorem cv.upd{z:SI}{g:Gh}{h h':Heap}{it:Addr}(hs':Heap.SameBut it h h')(hs:h.objs.size=g.n 0+822)(hsl:g.sl=bn h')(fin:gV (λ x o=>h'.get? x.2.1=some o) z.idx (z.out g).fin)
  (hit:it∈aZ z.idx)(hn:(z.out g).new=[])(hL:(z.out g).L=z.L)(hl:∀x∈z.L,h.get? x.1=some x.2/\bd x.2=false)(hd:it∉aH z.L)(hnd:(aH z.L).Nodup):cv z g h h':=by
 refine⟨by rw[hs'.1,hs],by rw[hs'.1];exact Nat.le_refl _,fin,by rw[hn];exact cb,λ x hx=>?_,by rw[hn,hL];exact hnd,λ b o hb h1 _=>?_,λ b o _ hb h1 _=>(hs'.2 b λ q=>h1 (q▸hit)).trans hb⟩
 ·rw[hL] at hx
  have y:=hl x hx
  have ne:x.1≠it:=λ q=>hd (q▸bZ.mpr ⟨x,hx,rfl⟩)
  exact⟨(hs'.2 _ ne).trans y.1,y.2,.inl (bZ.mpr ⟨x,hx,rfl⟩)⟩
 ·have e:=(hs'.2 b λ q=>h1 (q▸hit)).trans hb
  rw[e]
  unfold aE
  cases q:bd o with
  |false=>rfl
  |true=>
   have:g.sl b=o.slots:=by rw[hsl];unfold bn;rw[e]
   rw[this]
section
variable {w:World}{G:Shared}
noncomputable def sJ(d i n ep:Nat):Obj:=⟨.type "dict_keyiterator",none,.fields ⟨[.ref d,.int (Int.ofNat i) 0,.int (Int.ofNat n) 0,.int (Int.ofNat ep) 0]⟩,⟨[]⟩⟩
noncomputable def yC(n ep i:Nat):Obj:=⟨.type "dict_keyiterator",none,.fields ⟨[.none,.int (Int.ofNat i) 0,.int (Int.ofNat n) 0,.int (Int.ofNat ep) 0]⟩,⟨[]⟩⟩
def iU(it d j0 j1:Nat)(es:Array DictEntry)(n ep i:Nat)(key:Value)(L:HL):SI:=⟨.call (.builtin "dict_keyiterator.__next__") ⟨[.ref it],[]⟩,1,[(j0,it,sJ d i n ep),(j1,d,oD es ep)],L,λ _=>True,
 λ g=>⟨.ok (.ret key),[sJ d (i+1) n ep,oD es ep],[],L⟩⟩
theorem bT{A:Around}{s:Shared}{R:Result->Shared->Prop}{T:String}{name:Str}{id:String}{b:Builtin}{self:Value}{rest:List Value}(h:Slot T name id)(hT:s.TypeIs self T)
  (hb:entryFor table id=some b)(ha:argsOk id ⟨self::rest,[]⟩)
  (hc:wpAny (model qw w) A.in1 (b ⟨self::rest,[]⟩) (λ fin s'=>∃v,fin= .done (.ret v)/\R (.ok (.ret v)) s') (λ e s'=>R (.error e) s') s):
  codeAny (model qw w) A (.call (.builtin id) ⟨self::rest,[]⟩) R s:=by
 refine codeAny_call_builtin h.plain hb (h.check _ _ _ _ _ _ _ _ hT ha (B7 hc (λ fin s' h'=>?_) λ _ _ h'=>h'))
 obtain⟨v,rfl,hv⟩:=h';exact hv
theorem aQ{it d j0 j1:Nat}{es:Array DictEntry}{ep i:Nat}{e:DictEntry}{L:HL}(hx:es[i]? =some e):ai w G (iU it d j0 j1 es es.size ep i e.key L):=by
 refine cP λ A R s hn hh hu hi hl _ nd hR=>?_
 have nd1:=f8.mp nd
 have ho:=(hi _ (L5 ..)).1
 have hod:=(hi _ (L7 _ (L5 ..))).1
 have hd:(sJ d i es.size ep).data= .fields #[.ref d,.int (Int.ofNat i) 0,.int (Int.ofNat es.size) 0,.int (Int.ofNat ep) 0]:=rfl
 have hdd:(oD es ep).data= .dict es ep:=rfl
 have hT:s.TypeIs (.ref it) "dict_keyiterator":=⟨_,ho,rfl⟩
 refine bT F.slot_dict_keyiterator_next hT F.entry_dict_keyiterator_next (F.args_dict_keyiterator_next_1 _) ?_
 refine aW (cp ?_)
 refine aW ?_
 refine aW ?_
 first |refine aW (wpAny_typeNameOfWhole_keyiter hT (cp ?_)) |refine aW (wpAny_typeNameOf_keyiter hT (cp ?_))
 refine aW (wpAny_fieldsOf ho hd ?_)
 have hown:Builtin.Dict_items.ownsTuple "dict_keyiterator"=false:=by decide
 simp only[hown,Bool.false_eq_true,if_false]
 show wpAny _ _ (if(Value.ref d == Value.none)=true then _ else _) _ _ s
 rw[if_neg (show¬((Value.ref d == Value.none)=true) from Bool.false_ne_true)]
 refine aW (cp ?_)
 refine aW (wpAny_dictEntries hod hdd ?_)
 rw[if_neg (by simp)]
 refine aW (cp ?_)
 refine aW (wpAny_dictEpoch hod hdd ?_)
 rw[if_neg (by simp)]
 refine cp ?_
 have hlt:i<es.size:=by
  rcases Nat.lt_or_ge i es.size with h |h
  ·exact h
  ·rw[Array.getElem?_eq_none h] at hx;cases hx
 have he:es[i]=e:=by rw[Array.getElem?_eq_getElem hlt] at hx;exact L8 hx
 have hne:d≠it:=λ q=>by
  rw[q,ho] at hod
  have hod:=congrArg (λ o=>o.map Obj.cls) hod
  simp[sJ,oD] at hod
 simp only[show¬((Int.ofNat i:Int)<0) from Int.not_lt.mpr (Int.natCast_nonneg i),if_false,show(Int.ofNat i).toNat=i from rfl,Array.getElem?_eq_getElem hlt]
 refine aW ?_
 first |refine aW (wpAny_typeNameOfWhole_keyiter hT (cp ?_)) |refine aW (wpAny_typeNameOf_keyiter hT (cp ?_))
 refine aW (wpAny_isOneOf_keyiter hT ?_)
 show wpAny _ _ (setField (.ref it) 1 (rawInt (Int.ofNat i+1)) >>=_) _ _ s
 refine aW (wpAny_setField ho hd (by simp) ?_)
 have hs':Heap.SameBut it s.heap (s.heap.update it (Obj.mapFields (·.setIfInBounds 1 (rawInt (Int.ofNat i+1))))):=Heap.SameBut.update ..
 have hg:(s.heap.update it (Obj.mapFields (·.setIfInBounds 1 (rawInt (Int.ofNat i+1))))).get? it=some (sJ d (i+1) es.size ep):=(Heap.get?_update_self _ ho (Obj.isFreed_of_fields (Obj.data_mapFields hd _))).trans rfl
 refine aW (wpAny_holding ?_)
 refine aW (wpAny_isOneOf_keyiter (s:={s with heap:=s.heap.update it (Obj.mapFields (·.setIfInBounds 1 (rawInt (Int.ofNat i+1))))}) ⟨_,hg,rfl⟩ ?_)
 show wpAny _ _ (pure es[i].key) _ _ _
 refine cp (cp ⟨_,rfl,?_⟩)
 rw[he]
 have hsz:822<=s.heap.objs.size:=sP (Nat.lt_of_le_of_lt (hi _ (L5 ..)).2 (kz ho))
 refine hR (n8 [s.heap.objs.size-822,s.toks] L _) _ trivial (cv.upd hs' (by show _=s.heap.objs.size-822+822;omega) rfl ⟨hg,(hs'.2 d hne).trans hod,trivial⟩ (L5 ..) rfl rfl hl (λ q=>nd1.2.2 _ (L5 ..) _ q rfl) nd1.2.1)
noncomputable def jQ(t:Nat):Obj:=⟨.type "StopIteration",none,.fields ⟨[.ref t,.none,.none,.none,.bool false,.none]⟩,⟨[]⟩⟩
def oo(it d j0 j1:Nat)(es:Array DictEntry)(n ep i:Nat)(L:HL):SI:=⟨.call (.builtin "dict_keyiterator.__next__") ⟨[.ref it],[]⟩,1,[(j0,it,sJ d i n ep),(j1,d,oD es ep)],L,λ _=>True,
 λ g=>⟨.error (.ref (g.n 2+822)),[yC n ep i,oD es ep],[(g.n 2+822,jQ (g.n 3+822))],L⟩⟩
theorem cu{it d j0 j1:Nat}{es:Array DictEntry}{ep i:Nat}{L:HL}(hge:es.size<=i):ai w G (oo it d j0 j1 es es.size ep i L):=by
 refine cP λ A R s hn hh hu hi hl _ nd hR=>?_
 have nd1:=f8.mp nd
 have ho:=(hi _ (L5 ..)).1
 have hod:=(hi _ (L7 _ (L5 ..))).1
 have hd:(sJ d i es.size ep).data= .fields #[.ref d,.int (Int.ofNat i) 0,.int (Int.ofNat es.size) 0,.int (Int.ofNat ep) 0]:=rfl
 have hdd:(oD es ep).data= .dict es ep:=rfl
 have hT:s.TypeIs (.ref it) "dict_keyiterator":=⟨_,ho,rfl⟩
 refine bT F.slot_dict_keyiterator_next hT F.entry_dict_keyiterator_next (F.args_dict_keyiterator_next_1 _) ?_
 refine aW (cp ?_)
 refine aW ?_
 refine aW ?_
 first |refine aW (wpAny_typeNameOfWhole_keyiter hT (cp ?_)) |refine aW (wpAny_typeNameOf_keyiter hT (cp ?_))
 refine aW (wpAny_fieldsOf ho hd ?_)
 have hown:Builtin.Dict_items.ownsTuple "dict_keyiterator"=false:=by decide
 simp only[hown,Bool.false_eq_true,if_false]
 show wpAny _ _ (if(Value.ref d == Value.none)=true then _ else _) _ _ s
 rw[if_neg (show¬((Value.ref d == Value.none)=true) from Bool.false_ne_true)]
 refine aW (cp ?_)
 refine aW (wpAny_dictEntries hod hdd ?_)
 rw[if_neg (by simp)]
 refine aW (cp ?_)
 refine aW (wpAny_dictEpoch hod hdd ?_)
 rw[if_neg (by simp)]
 refine cp ?_
 have hne:d≠it:=λ q=>by
  rw[q,ho] at hod
  have hod:=congrArg (λ o=>o.map Obj.cls) hod
  simp[sJ,oD] at hod
 simp only[show¬((Int.ofNat i:Int)<0) from Int.not_lt.mpr (Int.natCast_nonneg i),if_false,show(Int.ofNat i).toNat=i from rfl,Array.getElem?_eq_none hge]
 refine aW ?_
 first |refine aW (wpAny_typeNameOfWhole_keyiter hT (cp ?_)) |refine aW (wpAny_typeNameOf_keyiter hT (cp ?_))
 show wpAny _ _ (setField (.ref it) 0 .none >>=_) _ _ s
 refine aW (wpAny_setField ho hd (by simp) ?_)
 show wpAny _ _ (newExc (.type "StopIteration") [] >>=_) _ _ _
 refine aW ?_
 simp only[newExc,newTuple]
 refine aW (wpAny_newObj_type ?_ (by size_fits))
 refine aW (m:=firstArgMember _ _) (wpAny_of_eq (a:=Value.none) (by first |rfl |(simp only[firstArgMember];rfl)) ?_)
 refine wpAny_newObj_type ?_ (by size_fits)
 simp only[raiseNew]
 refine aW (wpAny_handled ?_)
 rw[show A.in1.handled=none from hh]
 refine aW (cp (wpAny_throw ?_))
 have hs':Heap.SameBut it s.heap (s.heap.update it (Obj.mapFields (·.setIfInBounds 0 .none))):=Heap.SameBut.update ..
 have hg:(s.heap.update it (Obj.mapFields (·.setIfInBounds 0 .none))).get? it=some (yC es.size ep i):=(Heap.get?_update_self _ ho (Obj.isFreed_of_fields (Obj.data_mapFields hd _))).trans rfl
 have hsz:822<=s.heap.objs.size:=sP (Nat.lt_of_le_of_lt (hi _ (L5 ..)).2 (kz ho))
 generalize e1:s.heap.update it (Obj.mapFields (·.setIfInBounds 0 .none))=h1 at hs' hg ⊢
 have z1:=hs'.1
 have tpush:∀{x:Obj} {y:Obj} {b:Addr} {o:Obj},h1.get? b=some o->((h1.push x).push y).get? b=some o:=λ q=>Heap.get?_push_of_some _ (Heap.get?_push_of_some _ q)
 have k0:s.heap.objs.size+2=(s.heap.objs.size+2-822)+822:=by omega
 have k1:(s.heap.objs.size+1)=(s.heap.objs.size+1-822)+822:=by omega
 have k2:s.heap.objs.size=(s.heap.objs.size-822)+822:=by omega
 have fin:∀(T X:Obj),T.isFreed=false->X=jQ s.heap.objs.size->cv (oo it d j0 j1 es es.size ep i L) (n8 [s.heap.objs.size+2-822,s.toks,s.heap.objs.size+1-822,s.heap.objs.size-822] L ((h1.push T).push X)) s.heap ((h1.push T).push X):=by
  intro T X _ hX
  have hfr:X.isFreed=false:=by rw[hX];rfl
  have gx:((h1.push T).push X).get? (s.heap.objs.size+1)=some X:=by
   have:=An (h1.push T) (o:=X) hfr
   rw[Heap.size_push,z1] at this
   exact this
  refine⟨?_,?_,⟨tpush hg,tpush ((hs'.2 d hne).trans hod),trivial⟩,?_,λ x hx=>?_,?_,λ b o hb h1' _=>?_,λ b o _ hb h1' _=>tpush ((hs'.2 b λ q=>h1' (q▸L5 ..)).trans hb)⟩
  ·rw[Heap.size_push,Heap.size_push,z1];exact k0
  ·rw[Heap.size_push,Heap.size_push,z1];omega
  ·refine all_cons ⟨?_,?_,rfl⟩ cb
   ·show((h1.push T).push X).get? (s.heap.objs.size+1-822+822)=some (jQ (s.heap.objs.size-822+822))
    rw[<-k1,<-k2,gx,hX]
   ·show s.heap.objs.size<=s.heap.objs.size+1-822+822
    omega
  ·have y:=hl x hx
   have ne:x.1≠it:=λ q=>nd1.2.2 it (L5 ..) x.1 (bZ.mpr ⟨x,hx,rfl⟩) q.symm
   exact⟨tpush ((hs'.2 _ ne).trans y.1),y.2,.inl (bZ.mpr ⟨x,hx,rfl⟩)⟩
  ·refine po.mpr ⟨λ q=>?_,nd1.2.1⟩
   obtain⟨x,hx,e⟩:=bZ.mp q
   have lt:x.1<s.heap.objs.size:=kz (hl x hx).1
   have e:x.1=s.heap.objs.size+1-822+822:=e
   omega
  ·have e:=tpush (x:=T) (y:=X) ((hs'.2 b λ q=>h1' (q▸L5 ..)).trans hb)
   rw[e]
   unfold aE
   cases q:bd o with
   |false=>rfl
   |true=>
    have:(n8 [s.heap.objs.size+2-822,s.toks,s.heap.objs.size+1-822,s.heap.objs.size-822] L ((h1.push T).push X)).sl b=o.slots:=by
     show bn _ b=_
     unfold bn
     rw[e]
    rw[this]
 rw[Heap.size_push,z1]
 have e5:∀(T X:Obj),T.isFreed=false->X=jQ s.heap.objs.size->R (.error (.ref (s.heap.objs.size+1))) {s with heap:=(h1.push T).push X}:=λ T X hT hX=>by
  have hr:=hR _ _ trivial (fin T X hT hX)
  have e6:((oo it d j0 j1 es es.size ep i L).out (n8 [s.heap.objs.size+2-822,s.toks,s.heap.objs.size+1-822,s.heap.objs.size-822] L ((h1.push T).push X))).res= .error (.ref (s.heap.objs.size+1)):=by
   show(Except.error (Value.ref (s.heap.objs.size+1-822+822)):Result)=_
   rw[<-k1]
  rw[e6] at hr
  exact hr
 exact e5 _ _ rfl rfl
def DK(l j:Nat)(vs:List Value)(k:Int)(u:Tok)(x:Value)(L:HL):SI:=⟨.call (.builtin "list.__getitem__") ⟨[.ref l,.int k u],[]⟩,1,[(j,l,oL vs)],L,λ _=>True,λ g=>⟨.ok (.ret x),[oL vs],[],L⟩⟩
theorem xx{l j:Nat}{vs:List Value}{k:Int}{u:Tok}{x:Value}{L:HL}(h0:0<=k)(hfit:k<2 ^ 63)(hx:vs[k.toNat]? =some x):ai w G (DK l j vs k u x L):=by
 refine cP λ A R s hn hh hu hi hl _ nd hR=>?_
 have nd1:=f8.mp nd
 have ho:=(hi _ (L5 ..)).1
 have hd:(oL vs).data= .seq ⟨vs⟩ 0:=rfl
 have hT:s.TypeIs (.ref l) "list":=⟨_,ho,rfl⟩
 refine bT F.slot_list_getitem hT F.entry_list_getitem (args_list_getitem _ _) ?_
 show wpAny _ _ (Builtin.List.listSubscript? (.int k u) >>=_) _ _ s
 refine aW (wpAny_listSubscript_int (fitsIndex_of h0 hfit) ?_)
 clear hfit
 obtain⟨n,rfl⟩:=Int.eq_ofNat_of_zero_le h0
 have hx':(⟨vs⟩:Array Value)[n]? =some x:=by simpa using hx
 have hsz:822<=s.heap.objs.size:=sP (Nat.lt_of_le_of_lt (hi _ (L5 ..)).2 (kz ho))
 have fin:R (.ok (.ret x)) s:=hR (n8 [s.heap.objs.size-822,s.toks] L s.heap) s.heap trivial (cv.kept (by show _=s.heap.objs.size-822+822;omega) rfl (λ b o e=>e) (Nat.le_refl _) (λ y hy=>(hi y hy).1) rfl cb rfl hl nd1.2.1)
 show wpAny _ _ ((seqItemAt l n >>=λ r=>pure (r.map (n, ·))) >>=_) _ _ s
 refine aW (aW (wpAny_seqItemAt ho hd (cp ?_)))
 rw[hx']
 first
  |exact aW (cp (cp ⟨x,rfl,fin⟩))
  |exact cp ⟨x,rfl,fin⟩
theorem fq{A:Around}{s:Shared}{R:Result->Shared->Prop}{id:String}{b:Builtin}{args:List Value}(hk:builtinKind id=none)(hp:plainId id=true)(hb:entryFor table id=some b)(ha:argsOk id ⟨args,[]⟩)
  (hc:wpAny (model qw w) A.in1 (b ⟨args,[]⟩) (λ fin s'=>∃v,fin= .done (.ret v)/\R (.ok (.ret v)) s') (λ e s'=>R (.error e) s') s):codeAny (model qw w) A (.call (.builtin id) ⟨args,[]⟩) R s:=by
 have hc:wpAny (model qw w) A.in1 (b ⟨args,[]⟩) (λ fin s'=>match fin with | .done f=>R (.ok f) s' | .again c'=>c'.quiet=true/\codeAny (model qw w) A c' R s') (λ e s'=>R (.error e) s') s:=
  B7 hc (λ fin s' h'=>by obtain⟨v,rfl,hv⟩:=h';exact hv) λ _ _ h'=>h'
 refine codeAny_call_builtin hp hb ?_
 simp only[checkBuiltinCall,hk]
 cases hsig:Manifest.signature? id with
 |none=>exact cp hc
 |some sig=>
  simp only[argsOk,hsig] at ha
  have h2:Bind.checkArgs id sig ⟨args,[]⟩=pure ():=ha
  show wpAny _ A.in1 (Bind.checkArgs id sig ⟨args,[]⟩) _ _ s
  rw[h2];exact cp hc
def xy(l j:Nat)(vs:List Value)(L:HL):SI:=⟨.call (.builtin "len") ⟨[.ref l],[]⟩,1,[(j,l,oL vs)],L,λ _=>True,λ g=>⟨.ok (.ret (.int (Int.ofNat vs.length) (g.n 2))),[oL vs],[],L⟩⟩
theorem kZ{l j:Nat}{vs:List Value}{L:HL}(hfit:(Int.ofNat vs.length)<2 ^ 63):ai w G (xy l j vs L):=by
 refine cP λ A R s hn hh hu hi hl _ nd hR=>?_
 have nd1:=f8.mp nd
 have ho:=(hi _ (L5 ..)).1
 have hd:(oL vs).data= .seq ⟨vs⟩ 0:=rfl
 have hsz:822<=s.heap.objs.size:=sP (Nat.lt_of_le_of_lt (hi _ (L5 ..)).2 (kz ho))
 refine fq kind_len plain_len entry_len (args_len1 _) (wpAny_len_body_list (items:=⟨vs⟩) ⟨_,ho,rfl,0,hd⟩ hfit ?_)
 exact hR (n8 [s.heap.objs.size-822,s.toks+1+1,s.toks+1] L s.heap) s.heap trivial (cv.kept (by show _=s.heap.objs.size-822+822;omega) rfl (λ b o e=>e) (Nat.le_refl _) (λ y hy=>(hi y hy).1) rfl cb rfl hl nd1.2.1)
def Bb(a:Int)(u:Tok)(L:HL):SI:=⟨.call (.builtin "abs") ⟨[.int a u],[]⟩,1,[],L,λ _=>True,λ g=>⟨.ok (.ret (.int ((Int.natAbs a:Nat):Int) (g.n 2))),[],[],L⟩⟩
theorem vA{a:Int}{u:Tok}{L:HL}:ai w G (Bb a u L):=by
 refine cP λ A R s hn hh hu hi hl _ nd hR=>?_
 have h:∀v tk,R (.ok (.ret (.int (if a<0 then -a else a) v))) {s with toks:=tk}:=λ v tk=>by
  have e:(if a<0 then -a else a)=((Int.natAbs a:Nat):Int):=by split<;>omega
  rw[e]
  exact hR (n8 [s.heap.objs.size-822,tk,v] L s.heap) s.heap trivial (cv.kept (by show _=s.heap.objs.size-822+822;omega) rfl (λ b o e=>e) (Nat.le_refl _) (λ y hy=>(hi y hy).1) rfl cb rfl hl nd)
 refine fq PyProof.Rows.kind_abs PyProof.Rows.plain_abs PyProof.Rows.entry_abs (PyProof.Rows.args_abs _) ?_
 unfold Builtin.«abs»
 refine aW (m:=oneArg "abs" _) (cp ?_)
 refine aW (m:=callSpecial? (.int a u) (Str.ofString "__abs__")) (wpAny_callSpecial?_slot (name:=Str.ofString "__abs__") (typeIs_int s a u) PyProof.Rows.slot_int_abs
  (wpAny_call_entry PyProof.Rows.slot_int_abs (typeIs_int s a u) PyProof.Rows.entry_int_abs ?_ (PyProof.Rows.args_int_abs _)))
 show wpAny _ _ (if a<0 then _ else _) _ _ s
 by_cases hneg:a<0
 ·have h':=h s.toks (s.toks+1)
  rw[if_pos hneg] at h' ⊢
  exact wpAny_ret_mkInt (cp ⟨_,rfl,h'⟩)
 ·have h':=h u s.toks
  rw[if_neg hneg] at h' ⊢
  exact cp ⟨_,rfl,cp ⟨_,rfl,h'⟩⟩
noncomputable def dB(l i:Nat):Obj:=⟨.type "list_iterator",none,.fields ⟨[.ref l,.int (Int.ofNat i) 0]⟩,⟨[]⟩⟩
noncomputable def eT(i:Nat):Obj:=⟨.type "list_iterator",none,.fields ⟨[.none,.int (Int.ofNat i) 0]⟩,⟨[]⟩⟩
def pf(it l j0 j1 n:Nat)(vs:List Value)(i:Nat)(x:Value)(L:HL):SI:=⟨.call (.builtin "list_iterator.__next__") ⟨[.ref it],[]⟩,1,[(j0,it,dB l i),(j1,l,lO n vs)],L,λ _=>True,
 λ g=>⟨.ok (.ret x),[dB l (i+1),lO n vs],[],L⟩⟩
theorem bl{it l j0 j1 n:Nat}{vs:List Value}{i:Nat}{x:Value}{L:HL}(hx:vs[i]? =some x):ai w G (pf it l j0 j1 n vs i x L):=by
 refine cP λ A R s hn hh hu hi hl _ nd hR=>?_
 have nd1:=f8.mp nd
 have ho:=(hi _ (L5 ..)).1
 have hod:=(hi _ (L7 _ (L5 ..))).1
 have hd:(dB l i).data= .fields #[.ref l,.int (Int.ofNat i) 0]:=rfl
 have hdd:(lO n vs).data= .seq ⟨vs⟩ n:=rfl
 have hT:s.TypeIs (.ref it) "list_iterator":=⟨_,ho,rfl⟩
 have hne:l≠it:=λ q=>by
  rw[q,ho] at hod
  have hod:=congrArg (λ o=>o.map Obj.cls) hod
  simp[dB,lO] at hod
 refine bT slot_listiter_next hT entry_listiter_next (args_listiter_next _) ?_
 show wpAny _ _ (field (.ref it) 0 >>=_) _ _ s
 refine aW (wpAny_field ho hd (x:=.ref l) rfl ?_)
 show wpAny _ _ (if(Value.ref l == Value.none)=true then _ else _) _ _ s
 rw[if_neg (show¬((Value.ref l == Value.none)=true) from Bool.false_ne_true)]
 show wpAny _ _ (field (.ref it) 1 >>=_) _ _ s
 refine aW (wpAny_field ho hd (x:=.int (Int.ofNat i) 0) rfl ?_)
 show wpAny _ _ (seqItems? (.ref l) >>=_) _ _ s
 refine aW (wpAny_seqItems hod hdd ?_)
 have hx':(⟨vs⟩:Array Value)[(Int.ofNat i).toNat]? =some x:=by simpa using hx
 simp only[hx']
 refine aW (wpAny_setField ho hd (by simp) (cp ⟨x,rfl,?_⟩))
 have hs':Heap.SameBut it s.heap (s.heap.update it (Obj.mapFields (·.setIfInBounds 1 (rawInt (Int.ofNat i+1))))):=Heap.SameBut.update ..
 have hg:(s.heap.update it (Obj.mapFields (·.setIfInBounds 1 (rawInt (Int.ofNat i+1))))).get? it=some (dB l (i+1)):=(Heap.get?_update_self _ ho (Obj.isFreed_of_fields (Obj.data_mapFields hd _))).trans rfl
 have hsz:822<=s.heap.objs.size:=sP (Nat.lt_of_le_of_lt (hi _ (L5 ..)).2 (kz ho))
 exact hR (n8 [s.heap.objs.size-822,s.toks] L _) _ trivial (cv.upd hs' (by show _=s.heap.objs.size-822+822;omega) rfl ⟨hg,(hs'.2 l hne).trans hod,trivial⟩ (L5 ..) rfl rfl hl (λ q=>nd1.2.2 _ (L5 ..) _ q rfl) nd1.2.1)
def zv(it l j0 j1 n:Nat)(vs:List Value)(i:Nat)(L:HL):SI:=⟨.call (.builtin "list_iterator.__next__") ⟨[.ref it],[]⟩,1,[(j0,it,dB l i),(j1,l,lO n vs)],L,λ _=>True,
 λ g=>⟨.error (.ref (g.n 2+822)),[eT i,lO n vs],[(g.n 2+822,jQ (g.n 3+822))],L⟩⟩
theorem iV{it l j0 j1 n:Nat}{vs:List Value}{i:Nat}{L:HL}(hge:vs.length<=i):ai w G (zv it l j0 j1 n vs i L):=by
 refine cP λ A R s hn hh hu hi hl _ nd hR=>?_
 have nd1:=f8.mp nd
 have ho:=(hi _ (L5 ..)).1
 have hod:=(hi _ (L7 _ (L5 ..))).1
 have hd:(dB l i).data= .fields #[.ref l,.int (Int.ofNat i) 0]:=rfl
 have hdd:(lO n vs).data= .seq ⟨vs⟩ n:=rfl
 have hT:s.TypeIs (.ref it) "list_iterator":=⟨_,ho,rfl⟩
 have hne:l≠it:=λ q=>by
  rw[q,ho] at hod
  have hod:=congrArg (λ o=>o.map Obj.cls) hod
  simp[dB,lO] at hod
 refine bT slot_listiter_next hT entry_listiter_next (args_listiter_next _) ?_
 show wpAny _ _ (field (.ref it) 0 >>=_) _ _ s
 refine aW (wpAny_field ho hd (x:=.ref l) rfl ?_)
 show wpAny _ _ (if(Value.ref l == Value.none)=true then _ else _) _ _ s
 rw[if_neg (show¬((Value.ref l == Value.none)=true) from Bool.false_ne_true)]
 show wpAny _ _ (field (.ref it) 1 >>=_) _ _ s
 refine aW (wpAny_field ho hd (x:=.int (Int.ofNat i) 0) rfl ?_)
 show wpAny _ _ (seqItems? (.ref l) >>=_) _ _ s
 refine aW (wpAny_seqItems hod hdd ?_)
 have hx':(⟨vs⟩:Array Value)[(Int.ofNat i).toNat]? =none:=by simpa using hge
 simp only[hx']
 refine aW (wpAny_rule (aW (wpAny_setField ho hd (by simp) ?_)))
 show wpAny _ _ (newExc (.type "StopIteration") [] >>=_) _ _ _
 refine aW ?_
 simp only[newExc,newTuple]
 refine aW (wpAny_newObj_type ?_ (by size_fits))
 refine aW (m:=firstArgMember _ _) (wpAny_of_eq (a:=Value.none) (by first |rfl |(simp only[firstArgMember];rfl)) ?_)
 refine wpAny_newObj_type ?_ (by size_fits)
 simp only[raiseNew]
 refine aW (wpAny_handled ?_)
 rw[show A.in1.handled=none from hh]
 refine aW (cp (wpAny_throw ?_))
 have hs':Heap.SameBut it s.heap (s.heap.update it (Obj.mapFields (·.setIfInBounds 0 .none))):=Heap.SameBut.update ..
 have hg:(s.heap.update it (Obj.mapFields (·.setIfInBounds 0 .none))).get? it=some (eT i):=(Heap.get?_update_self _ ho (Obj.isFreed_of_fields (Obj.data_mapFields hd _))).trans rfl
 have hsz:822<=s.heap.objs.size:=sP (Nat.lt_of_le_of_lt (hi _ (L5 ..)).2 (kz ho))
 generalize e1:s.heap.update it (Obj.mapFields (·.setIfInBounds 0 .none))=h1 at hs' hg ⊢
 have z1:=hs'.1
 have tpush:∀{x:Obj} {y:Obj} {b:Addr} {o:Obj},h1.get? b=some o->((h1.push x).push y).get? b=some o:=λ q=>Heap.get?_push_of_some _ (Heap.get?_push_of_some _ q)
 have k0:s.heap.objs.size+2=(s.heap.objs.size+2-822)+822:=by omega
 have k1:(s.heap.objs.size+1)=(s.heap.objs.size+1-822)+822:=by omega
 have k2:s.heap.objs.size=(s.heap.objs.size-822)+822:=by omega
 have fin:∀(T X:Obj),T.isFreed=false->X=jQ s.heap.objs.size->cv (zv it l j0 j1 n vs i L) (n8 [s.heap.objs.size+2-822,s.toks,s.heap.objs.size+1-822,s.heap.objs.size-822] L ((h1.push T).push X)) s.heap ((h1.push T).push X):=by
  intro T X _ hX
  have hfr:X.isFreed=false:=by rw[hX];rfl
  have gx:((h1.push T).push X).get? (s.heap.objs.size+1)=some X:=by
   have:=An (h1.push T) (o:=X) hfr
   rw[Heap.size_push,z1] at this
   exact this
  refine⟨?_,?_,⟨tpush hg,tpush ((hs'.2 l hne).trans hod),trivial⟩,?_,λ x hx=>?_,?_,λ b o hb h1' _=>?_,λ b o _ hb h1' _=>tpush ((hs'.2 b λ q=>h1' (q▸L5 ..)).trans hb)⟩
  ·rw[Heap.size_push,Heap.size_push,z1];exact k0
  ·rw[Heap.size_push,Heap.size_push,z1];omega
  ·refine all_cons ⟨?_,?_,rfl⟩ cb
   ·show((h1.push T).push X).get? (s.heap.objs.size+1-822+822)=some (jQ (s.heap.objs.size-822+822))
    rw[<-k1,<-k2,gx,hX]
   ·show s.heap.objs.size<=s.heap.objs.size+1-822+822
    omega
  ·have y:=hl x hx
   have ne:x.1≠it:=λ q=>nd1.2.2 it (L5 ..) x.1 (bZ.mpr ⟨x,hx,rfl⟩) q.symm
   exact⟨tpush ((hs'.2 _ ne).trans y.1),y.2,.inl (bZ.mpr ⟨x,hx,rfl⟩)⟩
  ·refine po.mpr ⟨λ q=>?_,nd1.2.1⟩
   obtain⟨x,hx,e⟩:=bZ.mp q
   have lt:x.1<s.heap.objs.size:=kz (hl x hx).1
   have e:x.1=s.heap.objs.size+1-822+822:=e
   omega
  ·have e:=tpush (x:=T) (y:=X) ((hs'.2 b λ q=>h1' (q▸L5 ..)).trans hb)
   rw[e]
   unfold aE
   cases q:bd o with
   |false=>rfl
   |true=>
    have:(n8 [s.heap.objs.size+2-822,s.toks,s.heap.objs.size+1-822,s.heap.objs.size-822] L ((h1.push T).push X)).sl b=o.slots:=by
     show bn _ b=_
     unfold bn
     rw[e]
    rw[this]
 rw[Heap.size_push,z1]
 have e5:∀(T X:Obj),T.isFreed=false->X=jQ s.heap.objs.size->R (.error (.ref (s.heap.objs.size+1))) {s with heap:=(h1.push T).push X}:=λ T X hT hX=>by
  have hr:=hR _ _ trivial (fin T X hT hX)
  have e6:((zv it l j0 j1 n vs i L).out (n8 [s.heap.objs.size+2-822,s.toks,s.heap.objs.size+1-822,s.heap.objs.size-822] L ((h1.push T).push X))).res= .error (.ref (s.heap.objs.size+1)):=by
   show(Except.error (Value.ref (s.heap.objs.size+1-822+822)):Result)=_
   rw[<-k1]
  rw[e6] at hr
  exact hr
 exact e5 _ _ rfl rfl
noncomputable def oq(v l:Int):Obj:=⟨.type "range_iterator",none,.fields ⟨[.int v 0,.int l 0,.int 1 0]⟩,⟨[]⟩⟩
def CW(it j:Nat)(v l:Int)(L:HL):SI:=⟨.call (.builtin "range_iterator.__next__") ⟨[.ref it],[]⟩,1,[(j,it,oq v l)],L,λ _=>True,
 λ g=>⟨.ok (.ret (.int v (g.n 2))),[oq (v+1) (l-1)],[],L⟩⟩
theorem qV{it j:Nat}{v l:Int}{L:HL}(h0:0<l):ai w G (CW it j v l L):=by
 refine cP λ A R s hn hh hu hi hl _ nd hR=>?_
 have nd1:=f8.mp nd
 have ho:=(hi _ (L5 ..)).1
 have hd:(oq v l).data= .fields #[.int v 0,.int l 0,.int 1 0]:=rfl
 have hT:s.TypeIs (.ref it) "range_iterator":=⟨_,ho,rfl⟩
 refine bT F.slot_range_iterator_next hT F.entry_range_iterator_next (F.args_range_iterator_next_1 _) ?_
 show wpAny _ _ (field (.ref it) 0 >>=_) _ _ s
 refine aW (wpAny_field ho hd (x:=.int v 0) rfl ?_)
 show wpAny _ _ (field (.ref it) 1 >>=_) _ _ s
 refine aW (wpAny_field ho hd (x:=.int l 0) rfl ?_)
 show wpAny _ _ (field (.ref it) 2 >>=_) _ _ s
 refine aW (wpAny_field ho hd (x:=.int 1 0) rfl ?_)
 show wpAny _ _ (if l<=0 then _ else _) _ _ s
 rw[if_neg (Int.not_le.mpr h0)]
 refine aW (wpAny_setField ho hd (by simp) ?_)
 have hs1:Heap.SameBut it s.heap (s.heap.update it (Obj.mapFields (·.setIfInBounds 0 (rawInt (v+1))))):=Heap.SameBut.update ..
 have hg1:(s.heap.update it (Obj.mapFields (·.setIfInBounds 0 (rawInt (v+1))))).get? it=some ⟨.type "range_iterator",none,.fields ⟨[.int (v+1) 0,.int l 0,.int 1 0]⟩,⟨[]⟩⟩:=(Heap.get?_update_self _ ho (Obj.isFreed_of_fields (Obj.data_mapFields hd _))).trans rfl
 generalize s.heap.update it (Obj.mapFields (·.setIfInBounds 0 (rawInt (v+1))))=h1 at hs1 hg1 ⊢
 have hd1:(⟨.type "range_iterator",none,.fields ⟨[.int (v+1) 0,.int l 0,.int 1 0]⟩,⟨[]⟩⟩:Obj).data= .fields #[.int (v+1) 0,.int l 0,.int 1 0]:=rfl
 refine aW (wpAny_setField (s:={s with heap:=h1}) hg1 hd1 (by simp) ?_)
 have hs2:Heap.SameBut it h1 (h1.update it (Obj.mapFields (·.setIfInBounds 1 (rawInt (l-1))))):=Heap.SameBut.update ..
 have hg2:(h1.update it (Obj.mapFields (·.setIfInBounds 1 (rawInt (l-1))))).get? it=some (oq (v+1) (l-1)):=(Heap.get?_update_self _ hg1 (Obj.isFreed_of_fields (Obj.data_mapFields hd1 _))).trans rfl
 generalize h1.update it (Obj.mapFields (·.setIfInBounds 1 (rawInt (l-1))))=h2 at hs2 hg2 ⊢
 have hs':Heap.SameBut it s.heap h2:=hs1.trans hs2
 have hsz:822<=s.heap.objs.size:=sP (Nat.lt_of_le_of_lt (hi _ (L5 ..)).2 (kz ho))
 have fin:∀tk u,R (.ok (.ret (.int v u))) {s with heap:=h2,toks:=tk}:=λ tk u=>
  hR (n8 [s.heap.objs.size-822,tk,u] L h2) _ trivial (cv.upd hs' (by show _=s.heap.objs.size-822+822;omega) rfl ⟨hg2,trivial⟩ (L5 ..) rfl rfl hl (λ q=>nd1.2.2 _ (L5 ..) _ q rfl) nd1.2.1)
 exact wpAny_ret_mkInt (fin _ _)
def qW(l j n:Nat)(vs:Array Value)(x:Value)(L:HL):SI:=⟨.call (.builtin "list.append") ⟨[.ref l,x],[]⟩,1,[(j,l,aO n vs)],L,λ _=>True,λ g=>⟨.ok (.ret .none),[aO (n+1) (vs.push x)],[],L⟩⟩
theorem br{l j n:Nat}{vs:Array Value}{x:Value}{L:HL}(hsz:vs.size<=1000):ai w G (qW l j n vs x L):=by
 refine cP λ A R s hn hh hu hi hl _ nd hR=>?_
 have nd1:=f8.mp nd
 have ho:=(hi _ (L5 ..)).1
 have hT:s.TypeIs (.ref l) "list":=⟨_,ho,rfl⟩
 have hsz2:vs.size<=sizeLine:=ky hsz (by decide)
 have e0:Obj.mapSeq (·.push x) (aO n vs)=aO (n+1) (vs.push x):=Obj.mapSeq_push_plain vs n x
 refine bT F.slot_list_append hT F.entry_list_append (args_list_append _ _) ?_
 show wpAny _ _ (updateSeq l (·.push x) >>=λ _=>ret .none) _ _ s
 refine aW ?_
 refine wpAny_updateSeq ho rfl (cp ⟨.none,rfl,?_⟩)
 have hs':Heap.SameBut l s.heap (s.heap.update l (Obj.mapSeq (·.push x))):=Heap.SameBut.update ..
 have hg:(s.heap.update l (Obj.mapSeq (·.push x))).get? l=some (aO (n+1) (vs.push x)):=by
  rw[Heap.get?_update_self _ ho (by rw[e0];rfl),e0]
 have hsz:822<=s.heap.objs.size:=sP (Nat.lt_of_le_of_lt (hi _ (L5 ..)).2 (kz ho))
 exact hR (n8 [s.heap.objs.size-822,s.toks] L _) _ trivial (cv.upd hs' (by show _=s.heap.objs.size-822+822;omega) rfl ⟨hg,trivial⟩ (L5 ..) rfl rfl hl (λ q=>nd1.2.2 _ (L5 ..) _ q rfl) nd1.2.1)
def cz(vs:List Value)(c:Int)(many:Int):Int:=match decide (c+1<=Int.ofNat vs.length) with
 |true=>match vs[(c+1-1).toNat]? with
  |some (.int x _)=>Int.fmod ((Int.natAbs x:Nat):Int) many
  |_=>0
 |false=>Int.fmod (3* (c+1)+Int.fdiv (c+1) 3+3) many
end
end
inductive Ev where
 |full (z:SI)
 |pure (z:SP)
 |dict (op:Nat) (key:Value) (rest:List Value) (es:Array DictEntry) (r:Option Nat) (hsh:Int) (v:Value)
noncomputable abbrev mj:=Option (List Gh->Ev)
def Ev.sx:Ev->SX
 | .full z=>.full z
 | .pure z=>.pure z
 | .dict _ _ _ _ r hsh v=>.dict r hsh v
def xz:List mj->List XF
 |[]=>[]
 |none::r=>xz r
 |some f::r=>(λ gs=>(f gs).sx)::xz r
structure sK where
 n:List Nat
 L:HL
 v:List Value
 vl:List Value
 sl:Array (Option Value)
def jR(S:Setting)(k:List Gh->ST):List mj->List Gh->ST
 |[],gs=>k gs
 |none::r,gs=>.gh (λ _=>True) λ g=>jR S k r (g::gs)
 |some f::r,gs=>match f gs with
  | .full z=>.full z (.gh z.asm λ g=>jR S k r (g::gs))
  | .pure z=>.pure z (jR S k r gs)
  | .dict op key rest es x hsh v=>.prop (DX S op key rest es x hsh v) (jR S k r gs)
def hH(w:World)(G:Shared)(k:List Gh->Prop):List mj->List Gh->Prop
 |[],gs=>k gs
 |none::r,gs=>∀g,hH w G k r (g::gs)
 |some f::r,gs=>match f gs with
  | .full z=>ai w G z/\∀g,z.asm g->hH w G k r (g::gs)
  | .pure z=>xr w G z/\hH w G k r gs
  | .dict op key rest es x hsh v=>DX (C0 w.2).set1 op key rest es x hsh v/\hH w G k r gs
def sK.gh(e:sK)(sl:Nat->Array (Option Value)):Gh:=⟨tk e.n,e.L,λ n=>e.v.getD n .none,λ _=>0,sl,λ n=>match n with |0=>e.vl |_=>e.v.drop 1,λ _=>⟨0,0,0,0⟩⟩
def yD(z:SI)(js:List Nat)(e:sK):ST:=zu z js (e.gh λ _=>e.sl) (e.n.getD 0 0+822) (e.n.getD 1 0) e.L
def rZ(sl:Nat->Array (Option Value)):List (Nat×Nat×Obj)->List Obj->Prop
 |x::I,o::F=>(bd o=true->sl x.2.1=o.slots)/\rZ sl I F
 |_,_=>True
theorem qX{h:Heap}:∀{I:List (Nat×Nat×Obj)} {F:List Obj},gV (λ x o=>h.get? x.2.1=some o) I F->rZ (bn h) I F
 |[],_,_=>by unfold rZ;trivial
 |_::_,[],_=>by unfold rZ;trivial
 |x::I,o::F,q=>by
  refine⟨λ _=>?_,qX q.2⟩
  unfold bn
  rw[q.1]
structure DL(z:SI)(js:List Nat)(e:sK):Prop where
 o:∀sl,rZ sl z.idx (z.out (e.gh λ _=>e.sl)).fin->z.out (e.gh λ _=>e.sl)=z.out (e.gh sl)
 l:(z.out (e.gh λ _=>e.sl)).fin.length=z.idx.length
 j:js.length=z.idx.length+(z.out (e.gh λ _=>e.sl)).new.length
 n:(js.drop z.idx.length).all (Nat.ble z.idx.length)=true
 f:(z.out (e.gh λ _=>e.sl)).new.all (λ x=> !bd x.2)=true
 L:(z.out (e.gh λ _=>e.sl)).L=e.L
theorem ai.holds{w:World}{G:Shared}{z:SI}(hz:ai w G z)(t:Option Addr)(B:Ctx)(nb:Nat)(fr:List (Nat×Nat))(n0:Nat):z.Holds (model qw w) ((wT w.2 t).at B nb fr n0) G:=λ Γ R p h tok h1 h2 h3 h4 h5 h6 bef h8=>
 hz B nb fr n0 Γ R p h tok h1 h2 h3 h4 h5 h6 ⟨bef.n1,bef.top,bef.idx,bef.lst,bef.nodup⟩ h8
theorem pU{w:World}{G:Shared}{E:EC}{R:Result->Shared->Prop}{F:Nat->Prop}{h0:Heap}{k:List Gh->ST}{k':List Gh->Prop}(hE:∃t B nb fr n0,E=(wT w.2 t).at B nb fr n0)
  (hk:∀gs,k' gs->iF ⟨qw,w,E,G,R,F,h0⟩ (k gs))(l:List mj):∀(gs:List Gh),hH w G k' l gs->iF ⟨qw,w,E,G,R,F,h0⟩ (jR (C0 w.2).set1 k l gs):=by
 induction l with
 |nil=>exact λ gs c=>hk gs c
 |cons f r ih=>
  intro gs c
  cases f with
  |none=>exact λ g _=>ih (g::gs) (c g)
  |some f=>
   unfold jR
   unfold hH at c
   generalize f gs=y at c ⊢
   cases y with
   |full z=>
    obtain⟨t,B,nb,fr,n0,rfl⟩:=hE
    exact⟨c.1.holds t B nb fr n0,λ g ag=>ih (g::gs) (c.2 g ag)⟩
   |pure z=>exact⟨c.1,ih gs c.2⟩
   |dict op key rest es x hsh v=>exact⟨c.1,ih gs c.2⟩
def xA(z:SI)(e:List Gh->sK):List Gh->Prop:=λ gs=>∀sl,((e gs).gh sl).l=(e gs).L->z.asm ((e gs).gh sl)
theorem ai.run{w:World}{G:Shared}{z:SI}{orc js:List Nat}{v:Nat->Nat->List mj}{e:Nat->Nat->List Gh->sK}(nd:js.Nodup)(hgrow:(ia .nil 0 (aN z.idx++z.L.take 0)).isSome=true)
  (r:vp w.2 z 0 orc (λ b t=>xz (v b t)) js (λ b t=>jR (C0 w.2).set1 (λ gs=>yD z js (e b t gs)) (v b t) []))
  (fit:∀b t gs,DL z js (e b t gs))
  (c:∀b t,hH w G (xA z (e b t)) (v b t) []):ai w G z:=by
 refine ai.of nd hgrow r λ B b t h0 R hs bef hR=>?_
 refine pU ⟨_,B,_,_,_,rfl⟩ (λ gs hg=>?_) (v b t) [] (c b t)
 intro h' en
 have f:=fit b t gs
 have h1:=hg (bn h') rfl
 have fo:=f.o (bn h') (qX (mW z.idx _ js _ f.l f.j en.saw).1)
 have h2:=hR _ h' h1 (tv.fin (g:=(e b t gs).gh (bn h')) en fo rfl rfl (by rw[<-fo];exact f.l) (by rw[<-fo];exact f.j) (by show(js.drop z.idx.length).all (Nat.ble (z.idx.length+0))=true;exact f.n) (by rw[<-fo];exact f.f) (by rw[<-fo];exact f.L))
 rw[<-fo] at h2
 exact h2
noncomputable def zw(V:List mj)(i:Nat)(gs:List Gh):Option Ev:=match V.getD i none with
 |none=>none
 |some f=>some (f gs)
def Ef(e:Option Ev):Nat:=match e with
 |none=>0
 |some (.full _)=>1
 |some (.pure _)=>2
 |some (.dict ..)=>3
def Ce(V:List mj)(i:Nat)(gs:List Gh):SI:=match zw V i gs with
 |some (.full z)=>z
 |_=>⟨.call .none ⟨[],[]⟩,0,[],[],λ _=>True,λ _=>⟨.ok .next,[],[],[]⟩⟩
def Bc(w:World)(G:Shared)(V:List mj)(i:Nat)(gs:List Gh):Prop:=match zw V i gs with
 |some (.pure z)=>xr w G z
 |some (.dict op key rest es x hsh v)=>DX (C0 w.2).set1 op key rest es x hsh v
 |_=>True
structure DM(w:World)(G:Shared)(V:List mj)(i:Nat)(gs:List Gh)(K:List Gh->Prop):Prop where
 a:ai w G (Ce V i gs)
 b:∀g,(Ce V i gs).asm g->K (g::gs)
structure CX(w:World)(G:Shared)(V:List mj)(i:Nat)(gs:List Gh)(K:List Gh->Prop):Prop where
 a:Bc w G V i gs
 b:K gs
def qY(w:World)(G:Shared)(k:List Gh->Prop)(V:List mj):Nat->Nat->List Gh->Prop
 |0,_,gs=>k gs
 |m+1,i,gs=>match Ef (zw V i gs) with
  |0=>∀g,qY w G k V m (i+1) (g::gs)
  |1=>DM w G V i gs (qY w G k V m (i+1))
  |_=>CX w G V i gs (qY w G k V m (i+1))
theorem qY.chain{w:World}{G:Shared}{k:List Gh->Prop}{V:List mj}:∀{m i:Nat} {gs:List Gh},qY w G k V m i gs->(V.drop i).length=m->hH w G k (V.drop i) gs
 |0,i,gs,h,e=>by
  rw[List.eq_nil_of_length_eq_zero e]
  exact h
 |m+1,i,gs,h,e=>by
  have hi:i<V.length:=by rw[AG] at e;omega
  have e2:(V.drop (i+1)).length=m:=by rw[AG] at e ⊢;omega
  rw[List.drop_eq_getElem_cons hi]
  have g1:V.getD i none=V[i]:=by rw[List.getD_eq_getElem?_getD,y8 hi];rfl
  unfold qY at h
  unfold hH
  cases c:V[i] with
  |none=>
   have x:zw V i gs=none:=by unfold zw;rw[g1,c]
   rw[x] at h
   exact λ g=>qY.chain (h g) e2
  |some f=>
   have x:zw V i gs=some (f gs):=by unfold zw;rw[g1,c]
   rw[x] at h
   dsimp only
   cases c2:f gs with
   |full z=>
    rw[c2] at h x
    have h:DM w G V i gs (qY w G k V m (i+1)):=h
    have y:Ce V i gs=z:=by unfold Ce;rw[x]
    have ha:=h.a
    have hb:=h.b
    rw[y] at ha hb
    exact⟨ha,λ g a=>qY.chain (hb g a) e2⟩
   |pure z=>
    rw[c2] at h x
    have h:CX w G V i gs (qY w G k V m (i+1)):=h
    have y:Bc w G V i gs=xr w G z:=by unfold Bc;rw[x]
    have ha:=h.a
    rw[y] at ha
    exact⟨ha,qY.chain h.b e2⟩
   |dict op key rest es r hsh v=>
    rw[c2] at h x
    have h:CX w G V i gs (qY w G k V m (i+1)):=h
    have y:Bc w G V i gs=DX (C0 w.2).set1 op key rest es r hsh v:=by unfold Bc;rw[x]
    have ha:=h.a
    rw[y] at ha
    exact⟨ha,qY.chain h.b e2⟩
def Bd(w:World)(G:Shared)(z:SI)(m:Nat)(v:Nat->Nat->List mj)(n:Nat->Nat->List Gh->sK):Prop:=∀b t,qY w G (xA z (n b t)) (v b t) m 0 []
theorem Bd.go{w:World}{G:Shared}{z:SI}{m:Nat}{v:Nat->Nat->List mj}{n:Nat->Nat->List Gh->sK}(c:Bd w G z m v n)(e:∀b t,(v b t).length=m):∀b t,hH w G (xA z (n b t)) (v b t) []:=λ b t=>(c b t).chain (e b t)
def sO:Value->Str
 | .str s _=>s
 |_=>aa
noncomputable def iO:Value->Int
 | .int i _=>i
 |_=>0
def EQ(P:Params)(q:Pr)(y:T2)(s:Array (Option Value))(g:Gh):Obj:=gg (y.p 7 8) s ([kS P aJ (q.u 0) (rA (q.S.a 13)),kS P ay (q.u 1) (rA (q.a 3)),kS P aF (q.u 2) (.str (sO (g.v 0)) (g.n 2)),kS P az (q.u 4) (.int (iO (g.v 1)) (g.n 3)),kS P aA (q.u 6) (rA (q.a 2))]++kS P bE (g.n 4) (g.v 2)::kS P bF (g.n 5) (g.v 3)::y.p [] [kS P aM (g.n 6) (g.v 4)])
noncomputable def cA(l:HL)(i:Nat):Obj:=(l.getD i (0,default)).2
def yE(P:Params)(q:Pr)(s:Array (Option Value))(g:Gh):Obj:=gg (g.n 2) s [kS P cZ (q.u 0) (rA (q.a 4)),kS P bK (q.u 1) (rA (q.S.a 0)),kS P aJ (q.u 2) (rA (q.S.a 13)),kS P bN (q.u 3) (rA (q.S.a 9)),kS P ju (g.n 3) (g.v 0),kS P cB (g.n 4) (g.v 1),kS P ay (g.n 5) (g.v 2),kS P aA (g.n 6) (g.v 3),kS P az (g.n 7) (g.v 4),kS P mg (g.n 8) (g.v 5),kS P gR (g.n 9) (g.v 6),kS P aF (g.n 10) (g.v 7),kS P mh (g.n 11) (g.v 8),kS P eu (g.n 12) (g.v 9)]
noncomputable abbrev GF:Nat->Type->Type
 |0,α=>α
 |n+1,α=>Gh->GF n α
def ap{α:Type}:(n:Nat)->GF n α->List Gh->α
 |0,f,_=>f
 |n+1,f,gs=>ap n (f (DH gs n)) gs
def c(n:Nat)(f:GF n Ev):mj:=some (ap n f)
def ov(w:World)(G:Shared)(k:List Gh->Prop):List Bool->List mj->List Gh->Prop
 |_,[],gs=>k gs
 |bs,none::r,gs=>∀g,ov w G k bs r (g::gs)
 |[],some _::_,_=>False
 |true::bs,some f::r,gs=>match f gs with
  | .full z=>∀g,z.asm g->ov w G k bs r (g::gs)
  | .pure _=>ov w G k bs r gs
  | .dict .. =>ov w G k bs r gs
 |false::bs,some f::r,gs=>match f gs with
  | .full z=>ai w G z/\∀g,z.asm g->ov w G k bs r (g::gs)
  | .pure z=>xr w G z/\ov w G k bs r gs
  | .dict op key rest es x hsh v=>DX (C0 w.2).set1 op key rest es x hsh v/\ov w G k bs r gs
def Nd(w:World)(G:Shared)(z:SI)(kn:List Bool)(v:Nat->Nat->List mj)(n:Nat->Nat->List Gh->sK):Prop:=∀b t,ov w G (xA z (n b t)) kn (v b t) []
def Be(P:Params)(z:SI)(o js:List Nat)(v:Nat->Nat->List mj)(n:Nat->Nat->List Gh->sK):Prop:=vp P z 0 o (λ b t=>xz (v b t)) js (λ b t=>jR (C0 P).set1 (λ gs=>yD z js (n b t gs)) (v b t) [])
structure RD where
 i:List (Nat×Nat×Obj)
 z:List (Nat×Nat×Obj)->SI
 v:List (Nat×Nat×Obj)->Nat->Nat->List mj
 e:Nat->Nat->List Gh->sK
 o:List Nat
 j:List Nat
 m:Nat
noncomputable def RD.Z(r:RD):SI:=r.z r.i
noncomputable def RD.V(r:RD):Nat->Nat->List mj:=r.v r.i
def RD.N(r:RD)(w:World)(G:Shared):Prop:=Bd w G r.Z r.m r.V r.e
noncomputable def dh:AA:=λ _ _=>True
structure RD.Ok(P:Params)(r:RD):Prop where
 ru:Be P r.Z r.o r.j r.V r.e
 nd:decide r.j.Nodup=true
 gr:(ia .nil 0 (aN r.Z.idx++r.Z.L.take 0)).isSome=true
 f:∀b t gs,DL r.Z r.j (r.e b t gs)
 l:∀b t,(r.V b t).length=r.m
theorem RD.sat{w:World}{G:Shared}{r:RD}(k:r.Ok w.2)(c:r.N w G):ai w G r.Z:=ai.run (of_decide_eq_true k.nd) k.gr k.ru k.f (Bd.go c k.l)
structure CY(z:SI)(js:List Nat)(e:sK):Prop where
 l:(z.out (e.gh λ _=>e.sl)).fin.length=z.idx.length
 j:js.length=z.idx.length+(z.out (e.gh λ _=>e.sl)).new.length
 n:(js.drop z.idx.length).all (Nat.ble z.idx.length)=true
 f:(z.out (e.gh λ _=>e.sl)).new.all (λ x=> !bd x.2)=true
 L:(z.out (e.gh λ _=>e.sl)).L=e.L
structure RD.OkZ(P:Params)(r:RD):Prop where
 ru:Be P r.Z r.o r.j r.V r.e
 nd:decide r.j.Nodup=true
 gr:(ia .nil 0 (aN r.Z.idx++r.Z.L.take 0)).isSome=true
 f:∀b t gs,CY r.Z r.j (r.e b t gs)
 l:∀b t,(r.V b t).length=r.m
theorem RD.satZ{w:World}{G:Shared}{r:RD}(k:r.OkZ w.2)(o:∀b t gs sl,rZ sl r.Z.idx (r.Z.out ((r.e b t gs).gh λ _=>(r.e b t gs).sl)).fin->r.Z.out ((r.e b t gs).gh λ _=>(r.e b t gs).sl)=r.Z.out ((r.e b t gs).gh sl))(c:r.N w G):ai w G r.Z:=
 ai.run (of_decide_eq_true k.nd) k.gr k.ru (λ b t gs=>⟨o b t gs,(k.f b t gs).l,(k.f b t gs).j,(k.f b t gs).n,(k.f b t gs).f,(k.f b t gs).L⟩) (Bd.go c k.l)
section
local macro_rules |`(tactic|omega)=>`(tactic|first |lia |omega (config:={}))
def DN:Expr->Nat->Expr
 | .BoolOp _ e _,n=>A' e n
 | .Compare _ _ e _,n=>A' e n
 |e,_=>e
noncomputable def Eg:Stmt->Expr
 | .If t _ _ _=>t
 |_=>default
def ml:Expr:=DN (DN (Eg (aq (A9 (aq (fB (aq bY 118)) 5)) 7)) 1) 0
def tE:List Value->List DictEntry
 |k::v::r=>⟨hashInt (iO k),k,v⟩::tE r
 |_=>[]
noncomputable def cS:Str:=⟨⟨[99,104,97,110,110,101,108]⟩⟩
def Au(P:Params)(q:Pr)(s:Array (Option Value))(g:Gh):Obj:=gg (g.n 2) s [kS P bK (q.u 0) (rA (q.S.a 0)),kS P bN (q.u 1) (rA (q.a 10)),kS P eP (q.u 2) (rA (q.a 11)),kS P cS (g.n 3) (g.v 0),kS P de (g.n 4) (g.v 1)]
noncomputable def Bf:Stmt->List Stmt
 | .If _ b _ _=>b
 |_=>[]
def Bg(P:Params)(q:Pr)(y:T2)(s:Array (Option Value))(g:Gh):Obj:=gg (g.n 2) s ([kS P bN (q.u 0) (rA (q.S.a 9)),kS P cB (q.u 1) (rA (q.a 10)),kS P ay (q.u 2) (rA (q.a 11)),kS P az (q.u 3) (.int (q.m 1) (q.u 4)),kS P aV (q.u 5) (.str aC (q.u 6))]++y.p [] [kS P cS (g.n 3) (g.v 0)])
def mX(P:Params)(q:Pr)(s:Array (Option Value))(g:Gh):Obj:=gg (g.n 10) s ([kS P aJ (q.u 0) (rA (q.S.a 13)),kS P ay (q.u 1) (rA (q.a 3)),kS P aF (q.u 2) (.str (sO (g.v 0)) (g.n 2)),kS P az (q.u 4) (.int (iO (g.v 1)) (g.n 3)),kS P aA (q.u 6) (rA (q.a 2))]++kS P bE (g.n 4) (g.v 2)::kS P bF (g.n 5) (g.v 3)::(match g.n 9 with |0=>[] |_=>[kS P aM (g.n 6) (g.v 4)]))
def dN(P:Params)(c:Str)(g:Gh):HL:=[(g.n 7+822,⟨.ref 41,some (g.n 6+822),.fields ⟨[rA (g.n 3),rA (g.n 5),.none,.none,.bool false,.none]⟩,⟨[]⟩⟩),(g.n 6+822,dO 2 [kS P aF (g.n 8) (.str c (g.n 9)),kS P eP (g.n 10) (.str aa 212)]),(g.n 5+822,dJ (g.v 0) (g.n 4) .none (g.vl 1))]
section
variable {w:World}{G:Shared}
noncomputable def CZ(m:Int)(t:Nat):Obj:=⟨.type "slice",none,.fields ⟨[.none,.int m t,.none]⟩,⟨[]⟩⟩
noncomputable def bJ(m:Int)(vs:List Value):List Value:=(slicePick ⟨vs⟩ none (some m) none).toList
def zx(l sl j0 j1 t:Nat)(m:Int)(n:Nat)(vs:List Value)(L:HL):SI:=⟨.call (.builtin "list.__getitem__") ⟨[.ref l,.ref sl],[]⟩,1,[(j0,l,lO n vs),(j1,sl,CZ m t)],L,λ _=>True,
 λ g=>⟨.ok (.ret (rA (g.n 2))),[lO n vs,CZ m t],[(g.n 2+822,oL (bJ m vs))],L⟩⟩
theorem iW{l sl j0 j1 t:Nat}{m:Int}{n:Nat}{vs:List Value}{L:HL}(hsz:vs.length<=1000):ai w G (zx l sl j0 j1 t m n vs L):=by
 refine cP λ A R s hn hh hu hi hl _ nd hR=>?_
 have nd1:=f8.mp nd
 have ho:=(hi _ (L5 ..)).1
 have hos:=(hi _ (L7 _ (L5 ..))).1
 have hd:(lO n vs).data= .seq ⟨vs⟩ n:=rfl
 have hds:(CZ m t).data= .fields #[.none,.int m t,.none]:=rfl
 have hT:s.TypeIs (.ref l) "list":=⟨_,ho,rfl⟩
 have hTs:s.TypeIs (.ref sl) "slice":=⟨_,hos,rfl⟩
 have hz:(⟨vs⟩:Array Value).size<=sizeLine:=ky hsz (by decide)
 refine bT slot_list_getitem hT entry_list_getitem (args_list_getitem _ _) ?_
 show wpAny _ _ (Builtin.List.listSubscript? (.ref sl) >>=_) _ _ s
 refine aW ?_
 unfold Builtin.List.listSubscript?
 refine aW (wpAny_specialOf hTs slice_no_index ?_)
 simp only[Option.isNone_none,if_true]
 refine cp ?_
 show wpAny _ _ (typeOf (.ref sl) >>=_) _ _ s
 refine aW (wpAny_typeOf hTs ?_)
 rw[if_neg (by decide)]
 rw[listSliceParts_eq]
 refine aW (aW (wpAny_field hos hds (x:=.none) rfl (aW (wpAny_listPart .none ?_))))
 rw[if_neg (show¬((rawPart none == rawInt 0)=true) from Bool.false_ne_true)]
 refine aW (wpAny_field hos hds (x:=.none) rfl (aW (wpAny_listPart .none ?_)))
 refine aW (wpAny_field hos hds (x:=.int m t) rfl (aW (wpAny_listPart (.int m t) (cp ?_))))
 refine aW (m:=Builtin.List.listItems (.ref l)) ?_
 unfold Builtin.List.listItems
 refine aW (wpAny_seqItems ho hd (cp ?_))
 refine aW (wpAny_of_eq (sliceIndices_raw none (some m) none (⟨vs⟩:Array Value).size (λ x=>nomatch x)) ?_)
 refine aW (wpAny_newObj_type (cp ⟨_,rfl,?_⟩) (ky (slicePick_size_le ⟨vs⟩ none (some m) none) hz))
 have h8:822<=s.heap.objs.size:=sP (Nat.lt_of_le_of_lt (hi _ (L5 ..)).2 (kz ho))
 have k0:s.heap.objs.size=(s.heap.objs.size-822)+822:=by omega
 have k1:s.heap.objs.size+1=(s.heap.objs.size+1-822)+822:=by omega
 have hr:=hR (n8 [s.heap.objs.size+1-822,s.toks,s.heap.objs.size-822] L (s.heap.push (oL (bJ m vs)))) (s.heap.push (oL (bJ m vs))) trivial (cv.kept (by rw[Heap.size_push];exact k1) rfl (λ b o e=>Heap.get?_push_of_some _ e) (by rw[Heap.size_push];omega) (λ y hy=>(hi y hy).1) rfl (all_cons ⟨by
  show(s.heap.push (oL (bJ m vs))).get? (s.heap.objs.size-822+822)=some (oL (bJ m vs))
  rw[<-k0];exact An _ rfl,by show s.heap.objs.size<=s.heap.objs.size-822+822;omega,rfl⟩ cb) rfl hl (po.mpr ⟨λ q=>by
   obtain⟨x,hx,e⟩:=bZ.mp q
   have lt:x.1<s.heap.objs.size:=kz (hl x hx).1
   have e:x.1=s.heap.objs.size-822+822:=e
   omega,nd1.2.1⟩))
 have e6:((zx l sl j0 j1 t m n vs L).out (n8 [s.heap.objs.size+1-822,s.toks,s.heap.objs.size-822] L (s.heap.push (oL (bJ m vs))))).res= .ok (.ret (.ref s.heap.objs.size)):=by
  show(Except.ok (Flow.ret (Value.ref (s.heap.objs.size-822+822))):Result)=_
  rw[<-k0]
 rw[e6] at hr
 have e7:({cls:=.type "list",data:=.seq (slicePick ⟨vs⟩ none (some m) none)}:Obj)=oL (bJ m vs):=rfl
 exact hr
def xB(l j n:Nat)(vs:List Value)(L:HL):SI:=⟨.call (.builtin "len") ⟨[.ref l],[]⟩,1,[(j,l,lO n vs)],L,λ _=>True,λ g=>⟨.ok (.ret (.int (Int.ofNat vs.length) (g.n 2))),[lO n vs],[],L⟩⟩
theorem k5{l j n:Nat}{vs:List Value}{L:HL}(hfit:(Int.ofNat vs.length)<2 ^ 63):ai w G (xB l j n vs L):=by
 refine cP λ A R s hn hh hu hi hl _ nd hR=>?_
 have nd1:=f8.mp nd
 have ho:=(hi _ (L5 ..)).1
 have hd:(lO n vs).data= .seq ⟨vs⟩ n:=rfl
 have hsz:822<=s.heap.objs.size:=sP (Nat.lt_of_le_of_lt (hi _ (L5 ..)).2 (kz ho))
 refine fq kind_len plain_len entry_len (args_len1 _) (wpAny_len_body_list (items:=⟨vs⟩) ⟨_,ho,rfl,n,hd⟩ hfit ?_)
 exact hR (n8 [s.heap.objs.size-822,s.toks+1+1,s.toks+1] L s.heap) s.heap trivial (cv.kept (by show _=s.heap.objs.size-822+822;omega) rfl (λ b o e=>e) (Nat.le_refl _) (λ y hy=>(hi y hy).1) rfl cb rfl hl nd1.2.1)
end
end
section
variable {w:World}{G:Shared}
theorem ow{z:SI}(hd:10<=z.d)(ha:∀g,z.asm g){v:Value}(ho:∀g,z.out g=⟨.ok (.ret v),z.idx.map (·.2.2),[],z.L⟩)
  (h:∀(A:Around) (R:Result->Shared->Prop) (s:Shared),A.units+100<cLine->(∀x∈aN z.idx++z.L,s.heap.get? x.1=some x.2)->R (.ok (.ret v)) s->codeAny (model qw w) A z.code R s):ai w G z:=by
 refine cP λ A R s hn hh hu hi hl _ nd hR=>?_
 have nd1:=f8.mp nd
 refine h A R s (by omega) (λ x hx=>?_) ?_
 ·rcases lK.mp hx with hx |hx
  ·obtain⟨y,hy,rfl⟩:=bZ.mp hx
   exact(hi y hy).1
  ·exact(hl x hx).1
 ·have hr:=hR (n8 [s.heap.objs.size-822,s.toks] z.L s.heap) s.heap (ha _) (cv.kept (by show _=s.heap.objs.size-822+822;omega) rfl (λ b o e=>e) (Nat.le_refl _) (λ y hy=>(hi y hy).1) (by rw[ho]) (by rw[ho];exact cb) (by rw[ho]) hl (by rw[ho];exact nd1.2.1))
  rw[ho] at hr
  exact hr
theorem pV{A:Around}{s:Shared}{R:Result->Shared->Prop}{T:String}{name:Str}{id:String}{b:Builtin}{self:Value}{rest:List Value}{S:Spec}(h:Slot T name id)(hT:s.TypeIs self T)
  (hb:entryFor table id=some b)(ha:argsOk id ⟨self::rest,[]⟩)(m:Meets (b ⟨self::rest,[]⟩) S)(hS:S A R s):codeAny (model qw w) A (.call (.builtin id) ⟨self::rest,[]⟩) R s:=
 codeAny_call_builtin h.plain hb (h.check _ _ _ _ _ _ _ _ hT ha (m qw w A R s hS))
def eQ(h:Heap)(x y:Value):Prop:=∃d as bs,Reads h x d as/\Reads h y d bs/\SeqAt.shaped d=true
theorem eQ.eq{A:Around}{s:Shared}{x y:Value}(e:eQ s.heap x y)(hu:A.in1.units+64<cLine):SeqAt.EqAt A.in1 s x y true:=by
 obtain⟨d,as,bs,h1,h2,h3⟩:=e
 have z:=keq_at (A:=A) h1 h2 h3 h3 hu
 rw[SeqAt.eqv_refl d (SeqAt.canLay_of_shaped h3)] at z
 exact z
theorem xC{z:SI}{x y n n':Nat}{xs ys:Array Value}(hd:10<=z.d)(hc:z.code= .call (.builtin "list.__ne__") ⟨[.ref x,.ref y],[]⟩)(ha:∀g,z.asm g)(ho:∀g,z.out g=⟨.ok (.ret (.bool false)),z.idx.map (·.2.2),[],z.L⟩)
  (hx:(x,aO n xs)∈aN z.idx++z.L)(hy:(y,aO n' ys)∈aN z.idx++z.L)(hs:xs.size=ys.size)
  (he:∀h:Heap,(∀x∈aN z.idx++z.L,h.get? x.1=some x.2)->∀j (h1:j<xs.size) (h2:j<ys.size),eQ h xs[j] ys[j]):ai w G z:=by
 refine ow hd ha ho λ A R s hu hh hR=>?_
 rw[hc]
 have gx:=hh _ hx
 have gy:=hh _ hy
 refine pV F.slot_list_ne ⟨_,gx,rfl⟩ F.entry_list_ne (F.args_list_ne_2 _ _) (SeqAt.list_neAt x y xs ys n n' none none ⟨[]⟩ ⟨[]⟩ hs λ _=>true) ⟨gx,gy,λ j h1 h2=>(he s.heap hh j h1 h2).eq (by show A.units+1+64<cLine;omega),?_⟩
 have e:(List.range xs.size).all (λ _=>true)=true:=by simp
 rw[e]
 exact hR
theorem qZ{K:Type} [DecidableEq K](knd:KeyKind qw w K){z:SI}{x y:Nat}(hd:10<=z.d)(hc:z.code= .call (.builtin "dict.__ne__") ⟨[.ref x,.ref y],[]⟩)(ha:∀g,z.asm g)(ho:∀g,z.out g=⟨.ok (.ret (.bool false)),z.idx.map (·.2.2),[],z.L⟩)
  (hx:(x == sysModules)=false)(hy:(y == sysModules)=false)
  (he:∀h:Heap,(∀x∈aN z.idx++z.L,h.get? x.1=some x.2)->∃ka kb:List (K×Value),h.DictOf knd x ka/\h.DictOf knd y kb/\ka.length=kb.length/\∀p∈ka,∃v,valueAt kb p.1=some v/\eQ h p.2 v):ai w G z:=by
 refine ow hd ha ho λ A R s hu hh hR=>?_
 rw[hc]
 obtain⟨ka,kb,da,db,hl,hv⟩:=he s.heap hh
 refine bT PySem.F.slot_dict_ne da.typeIs PySem.F.entry_dict_ne (PySem.F.args_dict_ne_2 _ _) ?_
 show wpAny _ _ (Builtin.Dict.dictSlotArgs "__ne__" ⟨[.ref x,.ref y],[]⟩ >>=_) _ _ s
 refine aW ?_
 unfold Builtin.Dict.dictSlotArgs
 refine aW (wpAny_notOrdered_dict da.typeIs ?_)
 show wpAny _ _ (pure (Value.ref x,Value.ref y)) _ _ s
 refine cp ?_
 refine aW (wpAny_isInstance (T:="dict") db.typeIs PySem.F.sub_dict_dict ?_)
 simp only[Bool.not_true,Bool.false_eq_true,if_false]
 refine aW (cp (aW (cp ?_)))
 have hits:KeqHits A.in1 s kb ka true:=by
  have:∀l:List (K×Value),(∀p∈l,∃v,valueAt kb p.1=some v/\eQ s.heap p.2 v)->KeqHits A.in1 s kb l true:=by
   intro l
   induction l with
   |nil=>intro _;exact .nil
   |cons p r ih=>
    intro q
    obtain⟨v,h1,h2⟩:=q p (L5 ..)
    obtain⟨k,u⟩:=p
    have z:=KeqHits.hit (A:=A.in1) h1 (h2.eq (by show A.units+1+64<cLine;omega)) (ih λ p hp=>q p (L7 _ hp))
    exact z
  exact this ka hv
 refine aW (keq_samePairs hx hy da db (λ _=>hits) ?_)
 refine cp ⟨_,rfl,?_⟩
 have e:(ka.length == kb.length&&true)=true:=by rw[hl];simp
 rw[e]
 exact hR
end
section
local macro_rules |`(tactic|walk_at "R")=>`(tactic|exact⟨by intro B p b t;kernel_rfl,by kernel_rfl,by kernel_rfl,λ b t gs=>⟨λ _ _=>rfl,rfl,rfl,rfl,rfl,rfl⟩,λ _ _=>rfl⟩)
local macro_rules |`(tactic|walk_at "Z")=>`(tactic|exact⟨by intro B p b t;kernel_rfl,by kernel_rfl,by kernel_rfl,λ b t gs=>⟨rfl,rfl,rfl,rfl,rfl⟩,λ _ _=>rfl⟩)
def get.D(P:Params)(q:Pr)(x:T2):RD:=⟨[(q.j 0,q.S.a 0+822,oW q.S.a),
 (q.j 1,q.S.a 1+822,bm P q.S.a q.S.u),
 (q.j 2,q.S.a 5+822,oD q.S.fl q.S.fln),
 (q.j 3,q.S.a 6+822,oD q.S.op q.S.opn),
 (q.j 4,q.S.a 8+822,dz P q.S.u ⟨⟨[q.c 0,q.c 1,q.c 2,q.c 3,q.c 4,q.c 5]⟩⟩ q.S.bt q.S.rcn q.S.rt)],
 λ i=>⟨au 264 [rA (q.S.a 0),.int 9 (q.u 0),.int (x.p 1 2) (q.u 1)],1,i,q.L,λ _=>True,
 λ g=>⟨.ok (.ret .none),bg i [(4,dz P q.S.u ⟨⟨[q.c (x.p 10 16),q.c (x.p 11 17),q.c (x.p 12 18),q.c (x.p 13 19),q.c (x.p 14 20),q.c (x.p 15 21)]⟩⟩ (g.n 2) (x.p 1 2) (q.u 1))],
  [],q.L⟩⟩,
 λ i b t=>[c 0 (.dict 1 (.int 9 (q.u 0)) [] q.S.op (some 0) (hashInt 9) (.bool true)),
 c 0 (.dict 0 (.int 9 (q.u 0)) [] q.S.op (some 0) (hashInt 9) (rA (q.S.a 8))),
 c 0 (.dict 0 (.str bA (q.S.u 57)) [] q.S.fl (some 0) (ae (C0 P).set1 bA) (.str ⟨⟨[q.c 10,q.c 11,q.c 12,q.c 13,q.c 14,q.c 15,q.c 16,q.c 17,q.c 18,q.c 19,q.c 20,q.c 21]⟩⟩ (q.c 99)))],
 λ b t=>ap 0 (⟨[b+10,t+46,t+41],q.L,[],[],#[]⟩),ax 16 221 33860972858455380727741737567040105317342109486002022271190319369303788635680973138225688419599346173520624863705581476381553283891268097450364240557941914659452096826879408715446969757079163061854426599338554672939294951033747320557932259966486916311912246854182497,[0,1,2,3,4],3⟩
def get.sat(w:World)(G:Shared)(q:Pr)(x:T2):= @RD.sat w G (get.D w.2 q x) (by cases x<;>walk_at "R")
def w3.D(P:Params)(q:Pr)(x:T2):RD:=⟨[(q.j 0,q.S.a 0+822,oW q.S.a),
 (q.j 1,q.S.a 1+822,bm P q.S.a q.S.u),
 (q.j 2,q.S.a 5+822,oD q.S.fl q.S.fln),
 (q.j 3,q.S.a 6+822,oD q.S.op q.S.opn),
 (q.j 4,q.S.a 8+822,dz P q.S.u ⟨⟨[q.c 0,q.c 1,q.c 2,q.c 3,q.c 4,q.c 5]⟩⟩ q.S.bt q.S.rcn q.S.rt)],
 λ i=>⟨au 271 [rA (q.S.a 0),.int 9 (q.u 0),.int (x.p 1 2) (q.u 1),.int 2000 (q.u 2)],1,i,q.L,λ _=>True,
 λ g=>⟨.ok (.ret .none),bg i [(2,oD (q.S.fl.modify 0 λ e=>{e with val:=(.str ⟨⟨[q.c (x.p 0 10),q.c (x.p 1 11),q.c (x.p 2 12),q.c (x.p 3 13),q.c (x.p 4 14),q.c (x.p 5 15),q.c (x.p 16 0),q.c (x.p 17 1),q.c (x.p 18 2),q.c (x.p 19 3),q.c (x.p 20 4),q.c (x.p 21 5)]⟩⟩ (g.n 2))}) q.S.fln),
  (4,dz P q.S.u ⟨⟨[q.c 0,q.c 1,q.c 2,q.c 3,q.c 4,q.c 5]⟩⟩ q.S.bt (x.p 1 2) (q.u 1))],
  [],q.L⟩⟩,
 λ i b t=>[c 0 (.dict 1 (.int 9 (q.u 0)) [] q.S.op (some 0) (hashInt 9) (.bool true)),
 c 0 (.dict 0 (.int 9 (q.u 0)) [] q.S.op (some 0) (hashInt 9) (rA (q.S.a 8))),
 c 0 (.dict 0 (.str bA (q.S.u 57)) [] q.S.fl (some 0) (ae (C0 P).set1 bA) (.str ⟨⟨[q.c 10,q.c 11,q.c 12,q.c 13,q.c 14,q.c 15,q.c 16,q.c 17,q.c 18,q.c 19,q.c 20,q.c 21]⟩⟩ (q.c 99))),
 c 0 (.dict 3 (.str bA (q.S.u 57)) [.str ⟨⟨[q.c (x.p 0 10),q.c (x.p 1 11),q.c (x.p 2 12),q.c (x.p 3 13),q.c (x.p 4 14),q.c (x.p 5 15),q.c (x.p 16 0),q.c (x.p 17 1),q.c (x.p 18 2),q.c (x.p 19 3),q.c (x.p 20 4),q.c (x.p 21 5)]⟩⟩ (t+x.p 47 45)] q.S.fl (some 0) (ae (C0 P).set1 bA) .none)],
 λ b t=>ap 0 (⟨[b+10,t+54,t+x.p 47 45],q.L,[],[],#[]⟩),ax 16 258 12081998824942199074264493765972575922732676204529694644970582860964647965828892149770390744496676636206340801633668216521638958028460367415328101465486397961882495649927481624705969276687628525210282525093155954825128803620232442528905071346199976927245768279367499406605377772786295108590761985836500541400673,[0,1,2,3,4],4⟩
def w3.sat(w:World)(G:Shared)(q:Pr)(x:T2):= @RD.sat w G (w3.D w.2 q x) (by cases x<;>walk_at "R")
def xZ.D(P:Params)(q:Pr)(m0:Int):RD:=⟨[(q.j 0,q.a 0+822,lO 1 [.int m0 (q.u 0)])],
 λ i=>⟨.call (.builtin "sum") ⟨[rA (q.a 0)],[]⟩,1,i,q.L,λ _=>True,
 λ g=>⟨.ok (.ret (.int m0 (g.n 2))),bg i [],
  [],q.L⟩⟩,
 λ i b t=>[],
 λ b t=>ap 0 (⟨[b+4,t+2,t+1],q.L,[],[],#[]⟩),ax 6 28 5522102421138863113146,[0],0⟩
theorem xZ.sat(w:World)(G:Shared)(q:Pr)(m0:Int)(q0:0<=m0/\m0<=2):ai w G (xZ.D w.2 q m0).Z:=RD.sat (by rcases vz q0 with rfl |rfl |rfl<;>walk_at "R") (λ b t=>
 λ _ _=>trivial)
def yb.D(P:Params)(q:Pr)(m0:Int)(m1:Int):RD:=⟨[(q.j 0,q.a 0+822,lO 2 [.int m0 (q.u 0),.int m1 (q.u 1)])],
 λ i=>⟨.call (.builtin "sum") ⟨[rA (q.a 0)],[]⟩,1,i,q.L,λ _=>True,
 λ g=>⟨.ok (.ret (.int (m0+m1) (g.n 2))),bg i [],
  [],q.L⟩⟩,
 λ i b t=>[],
 λ b t=>ap 0 (⟨[b+4,t+3,t+2],q.L,[],[],#[]⟩),ax 6 40 12020415007917910251892085441466,[0],0⟩
theorem yb.sat(w:World)(G:Shared)(q:Pr)(m0:Int)(m1:Int)(q0:0<=m0/\m0<=2)(q1:0<=m1/\m1<=2):ai w G (yb.D w.2 q m0 m1).Z:=RD.sat (by rcases vz q0 with rfl |rfl |rfl<;>rcases vz q1 with rfl |rfl |rfl<;>walk_at "R") (λ b t=>
 λ _ _=>trivial)
def yc.D(P:Params)(q:Pr)(m0:Int)(m1:Int)(m2:Int):RD:=⟨[(q.j 0,q.a 0+822,lO 3 [.int m0 (q.u 0),.int m1 (q.u 1),.int m2 (q.u 2)])],
 λ i=>⟨.call (.builtin "sum") ⟨[rA (q.a 0)],[]⟩,1,i,q.L,λ _=>True,
 λ g=>⟨.ok (.ret (.int (m0+m1+m2) (g.n 2))),bg i [],
  [],q.L⟩⟩,
 λ i b t=>[],
 λ b t=>ap 0 (⟨[b+4,t+4,t+3],q.L,[],[],#[]⟩),ax 6 52 26165827060625007174352002191259853996986,[0],0⟩
theorem yc.sat(w:World)(G:Shared)(q:Pr)(m0:Int)(m1:Int)(m2:Int)(q0:0<=m0/\m0<=2)(q1:0<=m1/\m1<=2)(q2:0<=m2/\m2<=2):ai w G (yc.D w.2 q m0 m1 m2).Z:=RD.sat (by rcases vz q0 with rfl |rfl |rfl<;>rcases vz q1 with rfl |rfl |rfl<;>rcases vz q2 with rfl |rfl |rfl<;>walk_at "R") (λ b t=>
 λ _ _=>trivial)
def lx.D(P:Params)(q:Pr):RD:=⟨[(q.j 0,q.a 0+822,lO 1 [rA (q.a 1)]),
 (q.j 1,q.a 1+822,tO [.int (q.m 0) (q.u 1),.str ad (q.u 2)]),
 (q.j 2,q.S.a 0+822,oW q.S.a),
 (q.j 3,q.S.a 1+822,bm P q.S.a q.S.u),
 (q.j 4,q.S.a 6+822,oD q.S.op q.S.opn),
 (q.j 5,q.S.a 8+822,dz P q.S.u ⟨⟨[q.c 0,q.c 1,q.c 2,q.c 3,q.c 4,q.c 5]⟩⟩ q.S.bt q.S.rcn q.S.rt),
 (q.j 6,q.S.a 7+822,oD q.S.fi q.S.fin)],
 λ i=>⟨au 208 [rA (q.S.a 0),.int 9 (q.u 0),rA (q.a 0)],2,i,q.L,λ _=>True,
 λ g=>⟨.ok (.ret .none),bg i [(6,oD (aK (q.r 0) (ae (C0 P).set1 ad) (.str ad (q.u 2)) (rA (g.n 2)) q.S.fi) (be (q.r 0) q.S.fin))],
  [(g.n 2+822,tO [.int 9 (q.u 0),.int 0 (g.n 3),.int (q.m 0) (q.u 1)])],q.L⟩⟩,
 λ i b t=>[c 0 (.dict 1 (.int 9 (q.u 0)) [] q.S.op (some 0) (hashInt 9) (.bool true)),
 c 0 (.dict 0 (.int 9 (q.u 0)) [] q.S.op (some 0) (hashInt 9) (rA (q.S.a 8))),
 none,
 c 1 λ g0=>.pure (aX "int.__lt__" (q.m 0) 0 (q.u 1) (t+17) false),
 none,
 c 2 λ g0 g1=>.full (xZ.D P ⟨q.S,tk [b+13],tk [q.u 1],tk [20],q.c,j7 [q.m 0],pe [],At [],q.v,q.l,q.e,q.en,q.h,q.p,q.r,q.sl,q.L⟩ (q.m 0)).Z,
 c 3 λ g0 g1 g2=>.pure (aX "int.__gt__" (q.m 0) 6 (g2.n 2) (q.S.u 59) false),
 c 3 λ g0 g1 g2=>.dict 3 (.str ad (q.u 2)) [rA (g2.n 0+4)] q.S.fi (q.r 0) (ae (C0 P).set1 ad) .none],
 λ b t=>ap 3 λ g0 g1 g2=>⟨[g2.n 0+7,g2.n 1+10,g2.n 0+4,g2.n 1+2],q.L,[],[],#[]⟩,ax 35 335 18221819679904322636697837050388153119196145973999323143489389518851752630081320154390207394840361665825266479374231274119331936429538191606458264823767275140029744120634975732356489729441362982120039737633863992472352895981932434140093464856045338938767589250475705278228246873466961666974549224975170742697554498605919792758102902642467002214506082267230842766287376990981326355929253371115161312831601643567378568979488497711777106077236260741250704826214400241336464954655870575292765016806826004051519366097642456,[0,1,2,3,4,5,6,31],8⟩
theorem lx.sat(w:World)(G:Shared)(q:Pr)(q0:0<=q.m 0/\q.m 0<=2)(n:Nd w G (lx.D w.2 q).Z [false,false,true,true,true,false] (lx.D w.2 q).V (lx.D w.2 q).e):ai w G (lx.D w.2 q).Z:=RD.sat (by walk_at "R") (λ b t=>
 ⟨(n b t).1,
 ⟨(n b t).2.1,
 λ g0=>
 ⟨eV (lL (by omega)),
 λ g1=>
 ⟨xZ.sat w G ⟨q.S,tk [b+13],tk [q.u 1],tk [20],q.c,j7 [q.m 0],pe [],At [],q.v,q.l,q.e,q.en,q.h,q.p,q.r,q.sl,q.L⟩ (q.m 0) q0,λ g2 a2=>
 ⟨tD (lL (by omega)),
 ⟨((((n b t).2.2 g0) g1) g2 a2).1,
 ((((n b t).2.2 g0) g1) g2 a2).2⟩⟩⟩⟩⟩⟩)
def ly.D(P:Params)(q:Pr):RD:=⟨[(q.j 0,q.a 0+822,lO 2 [rA (q.a 1),rA (q.a 2)]),
 (q.j 1,q.a 1+822,tO [.int (q.m 0) (q.u 1),.str ad (q.u 2)]),
 (q.j 2,q.a 2+822,tO [.int (q.m 1) (q.u 3),.str av (q.u 4)]),
 (q.j 3,q.S.a 0+822,oW q.S.a),
 (q.j 4,q.S.a 1+822,bm P q.S.a q.S.u),
 (q.j 5,q.S.a 6+822,oD q.S.op q.S.opn),
 (q.j 6,q.S.a 8+822,dz P q.S.u ⟨⟨[q.c 0,q.c 1,q.c 2,q.c 3,q.c 4,q.c 5]⟩⟩ q.S.bt q.S.rcn q.S.rt),
 (q.j 7,q.S.a 7+822,oD q.S.fi q.S.fin)],
 λ i=>⟨au 208 [rA (q.S.a 0),.int 9 (q.u 0),rA (q.a 0)],2,i,q.L,λ _=>True,
 λ g=>⟨.ok (.ret .none),bg i [(7,oD (aK (q.r 1) (ae (C0 P).set1 av) (.str av (q.u 4)) (rA (g.n 3)) (aK (q.r 0) (ae (C0 P).set1 ad) (.str ad (q.u 2)) (rA (g.n 2)) q.S.fi)) (be (q.r 1) (be (q.r 0) q.S.fin)))],
  [(g.n 2+822,tO [.int 9 (q.u 0),.int 0 (g.n 4),.int (q.m 0) (q.u 1)]),
  (g.n 3+822,tO [.int 9 (q.u 0),.int (0+q.m 0) (g.n 5),.int (q.m 1) (q.u 3)])],q.L⟩⟩,
 λ i b t=>[c 0 (.dict 1 (.int 9 (q.u 0)) [] q.S.op (some 0) (hashInt 9) (.bool true)),
 c 0 (.dict 0 (.int 9 (q.u 0)) [] q.S.op (some 0) (hashInt 9) (rA (q.S.a 8))),
 none,
 c 1 λ g0=>.pure (aX "int.__lt__" (q.m 0) 0 (q.u 1) (t+17) false),
 c 1 λ g0=>.pure (aX "int.__lt__" (q.m 1) 0 (q.u 3) (t+20) false),
 none,
 c 2 λ g0 g1=>.full (yb.D P ⟨q.S,tk [b+16],tk [q.u 1,q.u 3],tk [24],q.c,j7 [q.m 0,q.m 1],pe [],At [],q.v,q.l,q.e,q.en,q.h,q.p,q.r,q.sl,q.L⟩ (q.m 0) (q.m 1)).Z,
 c 3 λ g0 g1 g2=>.pure (aX "int.__gt__" (q.m 0+q.m 1) 6 (g2.n 2) (q.S.u 59) false),
 c 3 λ g0 g1 g2=>.dict 3 (.str ad (q.u 2)) [rA (g2.n 0+4)] q.S.fi (q.r 0) (ae (C0 P).set1 ad) .none,
 c 3 λ g0 g1 g2=>.dict 3 (.str av (q.u 4)) [rA (g2.n 0+8)] (aK (q.r 0) (ae (C0 P).set1 ad) (.str ad (q.u 2)) (rA (g2.n 0+4)) q.S.fi) (q.r 1) (ae (C0 P).set1 av) .none],
 λ b t=>ap 3 λ g0 g1 g2=>⟨[g2.n 0+11,g2.n 1+16,g2.n 0+4,g2.n 0+8,g2.n 1+2,g2.n 1+8],q.L,[],[],#[]⟩,ax 46 505 490454315488457209102950429960015790461533005328286705233586341718997203714101236757131494497807952663485089009354341151529772802271553719016937873181800784865847477145928596169047266369218319406942057298100437752850770874475807667908287601923742103224553758360911459903976852515253735475106159510548598993826135341547008742710580471371653533087671402399074152997057262551656979882592208007294089983975317202526224019935125751544774977767913164842647434470335958743222001337313885420391147670793244168160756055499713240288888769926813491570721433987797550925844121069540598517162825899141512613825234821970591304162084857361909417159385549122573242701252874127607064445029019928203316007813126878513180795930574097067537419861245699625209635133580976121817011495050032797411637877239546635432463366689055517494011585798668259970720857219755,[0,1,2,3,4,5,6,7,38,42],10⟩
theorem ly.sat(w:World)(G:Shared)(q:Pr)(q0:0<=q.m 0/\q.m 0<=2)(q1:0<=q.m 1/\q.m 1<=2)(n:Nd w G (ly.D w.2 q).Z [false,false,true,true,true,true,false,false] (ly.D w.2 q).V (ly.D w.2 q).e):ai w G (ly.D w.2 q).Z:=RD.sat (by walk_at "R") (λ b t=>
 ⟨(n b t).1,
 ⟨(n b t).2.1,
 λ g0=>
 ⟨eV (lL (by omega)),
 ⟨eV (lL (by omega)),
 λ g1=>
 ⟨yb.sat w G ⟨q.S,tk [b+16],tk [q.u 1,q.u 3],tk [24],q.c,j7 [q.m 0,q.m 1],pe [],At [],q.v,q.l,q.e,q.en,q.h,q.p,q.r,q.sl,q.L⟩ (q.m 0) (q.m 1) q0 q1,λ g2 a2=>
 ⟨tD (lL (by omega)),
 ⟨((((n b t).2.2 g0) g1) g2 a2).1,
 ⟨((((n b t).2.2 g0) g1) g2 a2).2.1,
 ((((n b t).2.2 g0) g1) g2 a2).2.2⟩⟩⟩⟩⟩⟩⟩⟩)
def lA.D(P:Params)(q:Pr):RD:=⟨[(q.j 0,q.a 0+822,lO 3 [rA (q.a 1),rA (q.a 2),rA (q.a 3)]),
 (q.j 1,q.a 1+822,tO [.int (q.m 0) (q.u 1),.str ad (q.u 2)]),
 (q.j 2,q.a 2+822,tO [.int (q.m 1) (q.u 3),.str av (q.u 4)]),
 (q.j 3,q.a 3+822,tO [.int (q.m 2) (q.u 5),.str bb (q.u 6)]),
 (q.j 4,q.S.a 0+822,oW q.S.a),
 (q.j 5,q.S.a 1+822,bm P q.S.a q.S.u),
 (q.j 6,q.S.a 6+822,oD q.S.op q.S.opn),
 (q.j 7,q.S.a 8+822,dz P q.S.u ⟨⟨[q.c 0,q.c 1,q.c 2,q.c 3,q.c 4,q.c 5]⟩⟩ q.S.bt q.S.rcn q.S.rt),
 (q.j 8,q.S.a 7+822,oD q.S.fi q.S.fin)],
 λ i=>⟨au 208 [rA (q.S.a 0),.int 9 (q.u 0),rA (q.a 0)],2,i,q.L,λ _=>True,
 λ g=>⟨.ok (.ret .none),bg i [(8,oD (aK (q.r 2) (ae (C0 P).set1 bb) (.str bb (q.u 6)) (rA (g.n 4)) (aK (q.r 1) (ae (C0 P).set1 av) (.str av (q.u 4)) (rA (g.n 3)) (aK (q.r 0) (ae (C0 P).set1 ad) (.str ad (q.u 2)) (rA (g.n 2)) q.S.fi))) (be (q.r 2) (be (q.r 1) (be (q.r 0) q.S.fin))))],
  [(g.n 2+822,tO [.int 9 (q.u 0),.int 0 (g.n 5),.int (q.m 0) (q.u 1)]),
  (g.n 3+822,tO [.int 9 (q.u 0),.int (0+q.m 0) (g.n 6),.int (q.m 1) (q.u 3)]),
  (g.n 4+822,tO [.int 9 (q.u 0),.int ((0+q.m 0)+q.m 1) (g.n 7),.int (q.m 2) (q.u 5)])],q.L⟩⟩,
 λ i b t=>[c 0 (.dict 1 (.int 9 (q.u 0)) [] q.S.op (some 0) (hashInt 9) (.bool true)),
 c 0 (.dict 0 (.int 9 (q.u 0)) [] q.S.op (some 0) (hashInt 9) (rA (q.S.a 8))),
 none,
 c 1 λ g0=>.pure (aX "int.__lt__" (q.m 0) 0 (q.u 1) (t+17) false),
 c 1 λ g0=>.pure (aX "int.__lt__" (q.m 1) 0 (q.u 3) (t+20) false),
 c 1 λ g0=>.pure (aX "int.__lt__" (q.m 2) 0 (q.u 5) (t+23) false),
 none,
 c 2 λ g0 g1=>.full (yc.D P ⟨q.S,tk [b+19],tk [q.u 1,q.u 3,q.u 5],tk [28],q.c,j7 [q.m 0,q.m 1,q.m 2],pe [],At [],q.v,q.l,q.e,q.en,q.h,q.p,q.r,q.sl,q.L⟩ (q.m 0) (q.m 1) (q.m 2)).Z,
 c 3 λ g0 g1 g2=>.pure (aX "int.__gt__" (q.m 0+q.m 1+q.m 2) 6 (g2.n 2) (q.S.u 59) false),
 c 3 λ g0 g1 g2=>.dict 3 (.str ad (q.u 2)) [rA (g2.n 0+4)] q.S.fi (q.r 0) (ae (C0 P).set1 ad) .none,
 c 3 λ g0 g1 g2=>.dict 3 (.str av (q.u 4)) [rA (g2.n 0+8)] (aK (q.r 0) (ae (C0 P).set1 ad) (.str ad (q.u 2)) (rA (g2.n 0+4)) q.S.fi) (q.r 1) (ae (C0 P).set1 av) .none,
 c 3 λ g0 g1 g2=>.dict 3 (.str bb (q.u 6)) [rA (g2.n 0+12)] (aK (q.r 1) (ae (C0 P).set1 av) (.str av (q.u 4)) (rA (g2.n 0+8)) (aK (q.r 0) (ae (C0 P).set1 ad) (.str ad (q.u 2)) (rA (g2.n 0+4)) q.S.fi)) (q.r 2) (ae (C0 P).set1 bb) .none],
 λ b t=>ap 3 λ g0 g1 g2=>⟨[g2.n 0+15,g2.n 1+22,g2.n 0+4,g2.n 0+8,g2.n 0+12,g2.n 1+2,g2.n 1+8,g2.n 1+14],q.L,[],[],#[]⟩,ax 57 675 1635373269594814015175785456732189177009066829684364890918752263359876550155481232182103262031082809356156419506302232112629147115734973326343579998773448631405629723404447000142650436690135311473803418197109765729405005880518452998782316592704237966277163637183643603357037723045304287488403158760717603639202035323226395492479728357818866048881760978835980867000582235898400805363790997860811755136470619028941870686119162038369096703299457751830133439098975371305680561471970821642164653331978260055294622580705812673462851164803077644092251966581966332116370796542770013691617615822016604149388614025715861676870106326356171993409241433085370623981695965203085490781421959285802186112866685197043459169973087950441228439521348805905836062208299171795920213408275685872957831951165375313852900007579512571424467158163406069013831065778933384799925908914673654180133931742181099544617107958831445673122738876073408269048922020652008455866953519363914121332508526676392892665089502862467204262832665441554727985038372983598569069356404767577177770724185728663186571239940720429918865520065241122609681541394182521817963411918971628072817085006244789022727648770732083292064887911121889,[0,1,2,3,4,5,6,7,8,45,49,53],12⟩
theorem lA.sat(w:World)(G:Shared)(q:Pr)(q0:0<=q.m 0/\q.m 0<=2)(q1:0<=q.m 1/\q.m 1<=2)(q2:0<=q.m 2/\q.m 2<=2)(n:Nd w G (lA.D w.2 q).Z [false,false,true,true,true,true,true,false,false,false] (lA.D w.2 q).V (lA.D w.2 q).e):ai w G (lA.D w.2 q).Z:=RD.sat (by walk_at "R") (λ b t=>
 ⟨(n b t).1,
 ⟨(n b t).2.1,
 λ g0=>
 ⟨eV (lL (by omega)),
 ⟨eV (lL (by omega)),
 ⟨eV (lL (by omega)),
 λ g1=>
 ⟨yc.sat w G ⟨q.S,tk [b+19],tk [q.u 1,q.u 3,q.u 5],tk [28],q.c,j7 [q.m 0,q.m 1,q.m 2],pe [],At [],q.v,q.l,q.e,q.en,q.h,q.p,q.r,q.sl,q.L⟩ (q.m 0) (q.m 1) (q.m 2) q0 q1 q2,λ g2 a2=>
 ⟨tD (lL (by omega)),
 ⟨((((n b t).2.2 g0) g1) g2 a2).1,
 ⟨((((n b t).2.2 g0) g1) g2 a2).2.1,
 ⟨((((n b t).2.2 g0) g1) g2 a2).2.2.1,
 ((((n b t).2.2 g0) g1) g2 a2).2.2.2⟩⟩⟩⟩⟩⟩⟩⟩⟩⟩)
def qs.D(P:Params)(q:Pr):RD:=⟨[(q.j 0,q.S.a 0+822,oW q.S.a),
 (q.j 1,q.S.a 1+822,bm P q.S.a q.S.u),
 (q.j 2,q.S.a 6+822,oD ⟨[cU q.S.a q.S.u]⟩ q.S.opn),
 (q.j 3,q.S.a 8+822,dz P q.S.u q.S.buf q.S.bt q.S.rcn q.S.rt)],
 λ i=>⟨au 182 [rA (q.S.a 0),.str (q.s 0) (q.u 0),.str (q.s 1) (q.u 1)],3,i,q.L,λ _=>True,
 λ g=>⟨.ok (.ret (.bool false)),bg i [],
  [],q.L⟩⟩,
 λ i b t=>[c 0 (.full (iU ((b+1)+822) (q.S.a 6+822) 5 2 ⟨[cU q.S.a q.S.u]⟩ 1 q.S.opn 0 (.int 9 (q.S.u 66)) q.L)),
 c 1 λ g0=>.dict 0 (.int 9 (q.S.u 66)) [] ⟨[cU q.S.a q.S.u]⟩ (some 0) (hashInt 9) (rA (q.S.a 8)),
 c 1 λ g0=>.pure (bL "str.__eq__" bA (q.s 1) (q.S.u 57) (q.u 1) false),
 c 1 λ g0=>.full (oo ((b+1)+822) (q.S.a 6+822) 5 2 ⟨[cU q.S.a q.S.u]⟩ 1 q.S.opn 1 q.L)],
 λ b t=>ap 2 λ g0 g1=>⟨[g1.n 0+0,g1.n 1+0],q.L,[],[],#[]⟩,ax 8 71 12412123670695021282957663802607465298885617770080502964823710569,[0,1,2,3],4⟩
theorem qs.sat(w:World)(G:Shared)(q:Pr)(n9:(((⟨⟨[82,69,67]⟩⟩:Str).cps.toList ==(q.s 1).cps.toList)=false))(n:Nd w G (qs.D w.2 q).Z [true,false,true,true] (qs.D w.2 q).V (qs.D w.2 q).e):ai w G (qs.D w.2 q).Z:=RD.sat (by walk_at "R") (λ b t=>
 ⟨aQ (e:=cU q.S.a q.S.u) rfl,λ g0 a0=>
 ⟨((n b t) g0 a0).1,
 ⟨aD (by assumption),
 ⟨cu (Nat.le_refl _),λ g1 a1=>
 ((n b t) g0 a0).2 g1 a1⟩⟩⟩⟩)
def qt.D(P:Params)(q:Pr):RD:=⟨[(q.j 0,q.S.a 0+822,oW q.S.a),
 (q.j 1,q.S.a 1+822,bm P q.S.a q.S.u),
 (q.j 2,q.S.a 6+822,oD ⟨[cU q.S.a q.S.u,am (q.h 0)]⟩ q.S.opn),
 (q.j 3,q.S.a 8+822,dz P q.S.u q.S.buf q.S.bt q.S.rcn q.S.rt),
 (q.j 4,(q.h 0).wa+822,cH P (q.h 0))],
 λ i=>⟨au 182 [rA (q.S.a 0),.str (q.s 0) (q.u 0),.str (q.s 1) (q.u 1)],3,i,q.L,λ _=>True,
 λ g=>⟨.ok (.ret (.bool false)),bg i [],
  [],q.L⟩⟩,
 λ i b t=>[c 0 (.full (iU ((b+1)+822) (q.S.a 6+822) 6 2 ⟨[cU q.S.a q.S.u,am (q.h 0)]⟩ 2 q.S.opn 0 (.int 9 (q.S.u 66)) q.L)),
 c 1 λ g0=>.dict 0 (.int 9 (q.S.u 66)) [] ⟨[cU q.S.a q.S.u,am (q.h 0)]⟩ (some 0) (hashInt 9) (rA (q.S.a 8)),
 c 1 λ g0=>.pure (bL "str.__eq__" bA (q.s 1) (q.S.u 57) (q.u 1) false),
 c 1 λ g0=>.full (iU ((b+1)+822) (q.S.a 6+822) 6 2 ⟨[cU q.S.a q.S.u,am (q.h 0)]⟩ 2 q.S.opn 1 (.int (q.h 0).k (q.h 0).kt) q.L),
 c 2 λ g0 g1=>.dict 0 (.int (q.h 0).k (q.h 0).kt) [] ⟨[cU q.S.a q.S.u,am (q.h 0)]⟩ (some 1) (hashInt (q.h 0).k) (rA (q.h 0).wa),
 c 2 λ g0 g1=>.pure (bL "str.__eq__" (q.h 0).nm (q.s 1) ((q.h 0).u 7) (q.u 1) false),
 c 2 λ g0 g1=>.full (oo ((b+1)+822) (q.S.a 6+822) 6 2 ⟨[cU q.S.a q.S.u,am (q.h 0)]⟩ 2 q.S.opn 2 q.L)],
 λ b t=>ap 3 λ g0 g1 g2=>⟨[g2.n 0+0,g2.n 1+0],q.L,[],[],#[]⟩,ax 9 108 10912804398878672695353691587130280275718339297464799991940594096520314166140699022188688999432486528446,[0,1,2,3,4],7⟩
theorem qt.sat(w:World)(G:Shared)(q:Pr)(n9:(((⟨⟨[82,69,67]⟩⟩:Str).cps.toList ==(q.s 1).cps.toList)=false))(n0:((q.h 0).nm.cps.toList ==(q.s 1).cps.toList)=false)(n:Nd w G (qt.D w.2 q).Z [true,false,true,true,false,true,true] (qt.D w.2 q).V (qt.D w.2 q).e):ai w G (qt.D w.2 q).Z:=RD.sat (by walk_at "R") (λ b t=>
 ⟨aQ (e:=cU q.S.a q.S.u) rfl,λ g0 a0=>
 ⟨((n b t) g0 a0).1,
 ⟨aD (by assumption),
 ⟨aQ (e:=am (q.h 0)) rfl,λ g1 a1=>
 ⟨(((n b t) g0 a0).2 g1 a1).1,
 ⟨aD (by assumption),
 ⟨cu (Nat.le_refl _),λ g2 a2=>
 (((n b t) g0 a0).2 g1 a1).2 g2 a2⟩⟩⟩⟩⟩⟩⟩)
def qu.D(P:Params)(q:Pr):RD:=⟨[(q.j 0,q.S.a 0+822,oW q.S.a),
 (q.j 1,q.S.a 1+822,bm P q.S.a q.S.u),
 (q.j 2,q.S.a 6+822,oD ⟨[cU q.S.a q.S.u,am (q.h 0),am (q.h 1)]⟩ q.S.opn),
 (q.j 3,q.S.a 8+822,dz P q.S.u q.S.buf q.S.bt q.S.rcn q.S.rt),
 (q.j 4,(q.h 0).wa+822,cH P (q.h 0)),
 (q.j 5,(q.h 1).wa+822,cH P (q.h 1))],
 λ i=>⟨au 182 [rA (q.S.a 0),.str (q.s 0) (q.u 0),.str (q.s 1) (q.u 1)],3,i,q.L,λ _=>True,
 λ g=>⟨.ok (.ret (.bool false)),bg i [],
  [],q.L⟩⟩,
 λ i b t=>[c 0 (.full (iU ((b+1)+822) (q.S.a 6+822) 7 2 ⟨[cU q.S.a q.S.u,am (q.h 0),am (q.h 1)]⟩ 3 q.S.opn 0 (.int 9 (q.S.u 66)) q.L)),
 c 1 λ g0=>.dict 0 (.int 9 (q.S.u 66)) [] ⟨[cU q.S.a q.S.u,am (q.h 0),am (q.h 1)]⟩ (some 0) (hashInt 9) (rA (q.S.a 8)),
 c 1 λ g0=>.pure (bL "str.__eq__" bA (q.s 1) (q.S.u 57) (q.u 1) false),
 c 1 λ g0=>.full (iU ((b+1)+822) (q.S.a 6+822) 7 2 ⟨[cU q.S.a q.S.u,am (q.h 0),am (q.h 1)]⟩ 3 q.S.opn 1 (.int (q.h 0).k (q.h 0).kt) q.L),
 c 2 λ g0 g1=>.dict 0 (.int (q.h 0).k (q.h 0).kt) [] ⟨[cU q.S.a q.S.u,am (q.h 0),am (q.h 1)]⟩ (some 1) (hashInt (q.h 0).k) (rA (q.h 0).wa),
 c 2 λ g0 g1=>.pure (bL "str.__eq__" (q.h 0).nm (q.s 1) ((q.h 0).u 7) (q.u 1) false),
 c 2 λ g0 g1=>.full (iU ((b+1)+822) (q.S.a 6+822) 7 2 ⟨[cU q.S.a q.S.u,am (q.h 0),am (q.h 1)]⟩ 3 q.S.opn 2 (.int (q.h 1).k (q.h 1).kt) q.L),
 c 3 λ g0 g1 g2=>.dict 0 (.int (q.h 1).k (q.h 1).kt) [] ⟨[cU q.S.a q.S.u,am (q.h 0),am (q.h 1)]⟩ (some 2) (hashInt (q.h 1).k) (rA (q.h 1).wa),
 c 3 λ g0 g1 g2=>.pure (bL "str.__eq__" (q.h 1).nm (q.s 1) ((q.h 1).u 7) (q.u 1) false),
 c 3 λ g0 g1 g2=>.full (oo ((b+1)+822) (q.S.a 6+822) 7 2 ⟨[cU q.S.a q.S.u,am (q.h 0),am (q.h 1)]⟩ 3 q.S.opn 3 q.L)],
 λ b t=>ap 4 λ g0 g1 g2 g3=>⟨[g3.n 0+0,g3.n 1+0],q.L,[],[],#[]⟩,ax 10 145 9628027503666777206333720110001000177762802740355577720633372011000100017776280273034447772063337201100010001777628083333033201100010001707777771,[0,1,2,3,4,5],10⟩
theorem qu.sat(w:World)(G:Shared)(q:Pr)(n9:(((⟨⟨[82,69,67]⟩⟩:Str).cps.toList ==(q.s 1).cps.toList)=false))(n0:((q.h 0).nm.cps.toList ==(q.s 1).cps.toList)=false)(n1:((q.h 1).nm.cps.toList ==(q.s 1).cps.toList)=false)(n:Nd w G (qu.D w.2 q).Z [true,false,true,true,false,true,true,false,true,true] (qu.D w.2 q).V (qu.D w.2 q).e):ai w G (qu.D w.2 q).Z:=RD.sat (by walk_at "R") (λ b t=>
 ⟨aQ (e:=cU q.S.a q.S.u) rfl,λ g0 a0=>
 ⟨((n b t) g0 a0).1,
 ⟨aD (by assumption),
 ⟨aQ (e:=am (q.h 0)) rfl,λ g1 a1=>
 ⟨(((n b t) g0 a0).2 g1 a1).1,
 ⟨aD (by assumption),
 ⟨aQ (e:=am (q.h 1)) rfl,λ g2 a2=>
 ⟨((((n b t) g0 a0).2 g1 a1).2 g2 a2).1,
 ⟨aD (by assumption),
 ⟨cu (Nat.le_refl _),λ g3 a3=>
 ((((n b t) g0 a0).2 g1 a1).2 g2 a2).2 g3 a3⟩⟩⟩⟩⟩⟩⟩⟩⟩⟩)
def qx.D(P:Params)(q:Pr):RD:=⟨[(q.j 0,q.S.a 0+822,oW q.S.a),
 (q.j 1,q.S.a 1+822,bm P q.S.a q.S.u),
 (q.j 2,q.S.a 6+822,oD ⟨[cU q.S.a q.S.u,am (q.h 0),am (q.h 1),am (q.h 2)]⟩ q.S.opn),
 (q.j 3,q.S.a 8+822,dz P q.S.u q.S.buf q.S.bt q.S.rcn q.S.rt),
 (q.j 4,(q.h 0).wa+822,cH P (q.h 0)),
 (q.j 5,(q.h 1).wa+822,cH P (q.h 1)),
 (q.j 6,(q.h 2).wa+822,cH P (q.h 2))],
 λ i=>⟨au 182 [rA (q.S.a 0),.str (q.s 0) (q.u 0),.str (q.s 1) (q.u 1)],3,i,q.L,λ _=>True,
 λ g=>⟨.ok (.ret (.bool false)),bg i [],
  [],q.L⟩⟩,
 λ i b t=>[c 0 (.full (iU ((b+1)+822) (q.S.a 6+822) 8 2 ⟨[cU q.S.a q.S.u,am (q.h 0),am (q.h 1),am (q.h 2)]⟩ 4 q.S.opn 0 (.int 9 (q.S.u 66)) q.L)),
 c 1 λ g0=>.dict 0 (.int 9 (q.S.u 66)) [] ⟨[cU q.S.a q.S.u,am (q.h 0),am (q.h 1),am (q.h 2)]⟩ (some 0) (hashInt 9) (rA (q.S.a 8)),
 c 1 λ g0=>.pure (bL "str.__eq__" bA (q.s 1) (q.S.u 57) (q.u 1) false),
 c 1 λ g0=>.full (iU ((b+1)+822) (q.S.a 6+822) 8 2 ⟨[cU q.S.a q.S.u,am (q.h 0),am (q.h 1),am (q.h 2)]⟩ 4 q.S.opn 1 (.int (q.h 0).k (q.h 0).kt) q.L),
 c 2 λ g0 g1=>.dict 0 (.int (q.h 0).k (q.h 0).kt) [] ⟨[cU q.S.a q.S.u,am (q.h 0),am (q.h 1),am (q.h 2)]⟩ (some 1) (hashInt (q.h 0).k) (rA (q.h 0).wa),
 c 2 λ g0 g1=>.pure (bL "str.__eq__" (q.h 0).nm (q.s 1) ((q.h 0).u 7) (q.u 1) false),
 c 2 λ g0 g1=>.full (iU ((b+1)+822) (q.S.a 6+822) 8 2 ⟨[cU q.S.a q.S.u,am (q.h 0),am (q.h 1),am (q.h 2)]⟩ 4 q.S.opn 2 (.int (q.h 1).k (q.h 1).kt) q.L),
 c 3 λ g0 g1 g2=>.dict 0 (.int (q.h 1).k (q.h 1).kt) [] ⟨[cU q.S.a q.S.u,am (q.h 0),am (q.h 1),am (q.h 2)]⟩ (some 2) (hashInt (q.h 1).k) (rA (q.h 1).wa),
 c 3 λ g0 g1 g2=>.pure (bL "str.__eq__" (q.h 1).nm (q.s 1) ((q.h 1).u 7) (q.u 1) false),
 c 3 λ g0 g1 g2=>.full (iU ((b+1)+822) (q.S.a 6+822) 8 2 ⟨[cU q.S.a q.S.u,am (q.h 0),am (q.h 1),am (q.h 2)]⟩ 4 q.S.opn 3 (.int (q.h 2).k (q.h 2).kt) q.L),
 c 4 λ g0 g1 g2 g3=>.dict 0 (.int (q.h 2).k (q.h 2).kt) [] ⟨[cU q.S.a q.S.u,am (q.h 0),am (q.h 1),am (q.h 2)]⟩ (some 3) (hashInt (q.h 2).k) (rA (q.h 2).wa),
 c 4 λ g0 g1 g2 g3=>.pure (bL "str.__eq__" (q.h 2).nm (q.s 1) ((q.h 2).u 7) (q.u 1) false),
 c 4 λ g0 g1 g2 g3=>.full (oo ((b+1)+822) (q.S.a 6+822) 8 2 ⟨[cU q.S.a q.S.u,am (q.h 0),am (q.h 1),am (q.h 2)]⟩ 4 q.S.opn 4 q.L)],
 λ b t=>ap 5 λ g0 g1 g2 g3 g4=>⟨[g4.n 0+0,g4.n 1+0],q.L,[],[],#[]⟩,ax 11 182 3309937859957993148049065509000595591057941740574401273589809073670903966805365148920180884961023606317479599952433941640853714143049557916532843543060251472338728601333653985320268568594262,[0,1,2,3,4,5,6],13⟩
theorem qx.sat(w:World)(G:Shared)(q:Pr)(n9:(((⟨⟨[82,69,67]⟩⟩:Str).cps.toList ==(q.s 1).cps.toList)=false))(n0:((q.h 0).nm.cps.toList ==(q.s 1).cps.toList)=false)(n1:((q.h 1).nm.cps.toList ==(q.s 1).cps.toList)=false)(n2:((q.h 2).nm.cps.toList ==(q.s 1).cps.toList)=false)(n:Nd w G (qx.D w.2 q).Z [true,false,true,true,false,true,true,false,true,true,false,true,true] (qx.D w.2 q).V (qx.D w.2 q).e):ai w G (qx.D w.2 q).Z:=RD.sat (by walk_at "R") (λ b t=>
 ⟨aQ (e:=cU q.S.a q.S.u) rfl,λ g0 a0=>
 ⟨((n b t) g0 a0).1,
 ⟨aD (by assumption),
 ⟨aQ (e:=am (q.h 0)) rfl,λ g1 a1=>
 ⟨(((n b t) g0 a0).2 g1 a1).1,
 ⟨aD (by assumption),
 ⟨aQ (e:=am (q.h 1)) rfl,λ g2 a2=>
 ⟨((((n b t) g0 a0).2 g1 a1).2 g2 a2).1,
 ⟨aD (by assumption),
 ⟨aQ (e:=am (q.h 2)) rfl,λ g3 a3=>
 ⟨(((((n b t) g0 a0).2 g1 a1).2 g2 a2).2 g3 a3).1,
 ⟨aD (by assumption),
 ⟨cu (Nat.le_refl _),λ g4 a4=>
 (((((n b t) g0 a0).2 g1 a1).2 g2 a2).2 g3 a3).2 g4 a4⟩⟩⟩⟩⟩⟩⟩⟩⟩⟩⟩⟩⟩)
def qy.D(P:Params)(q:Pr):RD:=⟨[(q.j 0,q.S.a 0+822,oW q.S.a),
 (q.j 1,q.S.a 1+822,bm P q.S.a q.S.u),
 (q.j 2,q.S.a 6+822,oD ⟨[cU q.S.a q.S.u,am (q.h 0),am (q.h 1),am (q.h 2),am (q.h 3)]⟩ q.S.opn),
 (q.j 3,q.S.a 8+822,dz P q.S.u q.S.buf q.S.bt q.S.rcn q.S.rt),
 (q.j 4,(q.h 0).wa+822,cH P (q.h 0)),
 (q.j 5,(q.h 1).wa+822,cH P (q.h 1)),
 (q.j 6,(q.h 2).wa+822,cH P (q.h 2)),
 (q.j 7,(q.h 3).wa+822,cH P (q.h 3))],
 λ i=>⟨au 182 [rA (q.S.a 0),.str (q.s 0) (q.u 0),.str (q.s 1) (q.u 1)],3,i,q.L,λ _=>True,
 λ g=>⟨.ok (.ret (.bool false)),bg i [],
  [],q.L⟩⟩,
 λ i b t=>[c 0 (.full (iU ((b+1)+822) (q.S.a 6+822) 9 2 ⟨[cU q.S.a q.S.u,am (q.h 0),am (q.h 1),am (q.h 2),am (q.h 3)]⟩ 5 q.S.opn 0 (.int 9 (q.S.u 66)) q.L)),
 c 1 λ g0=>.dict 0 (.int 9 (q.S.u 66)) [] ⟨[cU q.S.a q.S.u,am (q.h 0),am (q.h 1),am (q.h 2),am (q.h 3)]⟩ (some 0) (hashInt 9) (rA (q.S.a 8)),
 c 1 λ g0=>.pure (bL "str.__eq__" bA (q.s 1) (q.S.u 57) (q.u 1) false),
 c 1 λ g0=>.full (iU ((b+1)+822) (q.S.a 6+822) 9 2 ⟨[cU q.S.a q.S.u,am (q.h 0),am (q.h 1),am (q.h 2),am (q.h 3)]⟩ 5 q.S.opn 1 (.int (q.h 0).k (q.h 0).kt) q.L),
 c 2 λ g0 g1=>.dict 0 (.int (q.h 0).k (q.h 0).kt) [] ⟨[cU q.S.a q.S.u,am (q.h 0),am (q.h 1),am (q.h 2),am (q.h 3)]⟩ (some 1) (hashInt (q.h 0).k) (rA (q.h 0).wa),
 c 2 λ g0 g1=>.pure (bL "str.__eq__" (q.h 0).nm (q.s 1) ((q.h 0).u 7) (q.u 1) false),
 c 2 λ g0 g1=>.full (iU ((b+1)+822) (q.S.a 6+822) 9 2 ⟨[cU q.S.a q.S.u,am (q.h 0),am (q.h 1),am (q.h 2),am (q.h 3)]⟩ 5 q.S.opn 2 (.int (q.h 1).k (q.h 1).kt) q.L),
 c 3 λ g0 g1 g2=>.dict 0 (.int (q.h 1).k (q.h 1).kt) [] ⟨[cU q.S.a q.S.u,am (q.h 0),am (q.h 1),am (q.h 2),am (q.h 3)]⟩ (some 2) (hashInt (q.h 1).k) (rA (q.h 1).wa),
 c 3 λ g0 g1 g2=>.pure (bL "str.__eq__" (q.h 1).nm (q.s 1) ((q.h 1).u 7) (q.u 1) false),
 c 3 λ g0 g1 g2=>.full (iU ((b+1)+822) (q.S.a 6+822) 9 2 ⟨[cU q.S.a q.S.u,am (q.h 0),am (q.h 1),am (q.h 2),am (q.h 3)]⟩ 5 q.S.opn 3 (.int (q.h 2).k (q.h 2).kt) q.L),
 c 4 λ g0 g1 g2 g3=>.dict 0 (.int (q.h 2).k (q.h 2).kt) [] ⟨[cU q.S.a q.S.u,am (q.h 0),am (q.h 1),am (q.h 2),am (q.h 3)]⟩ (some 3) (hashInt (q.h 2).k) (rA (q.h 2).wa),
 c 4 λ g0 g1 g2 g3=>.pure (bL "str.__eq__" (q.h 2).nm (q.s 1) ((q.h 2).u 7) (q.u 1) false),
 c 4 λ g0 g1 g2 g3=>.full (iU ((b+1)+822) (q.S.a 6+822) 9 2 ⟨[cU q.S.a q.S.u,am (q.h 0),am (q.h 1),am (q.h 2),am (q.h 3)]⟩ 5 q.S.opn 4 (.int (q.h 3).k (q.h 3).kt) q.L),
 c 5 λ g0 g1 g2 g3 g4=>.dict 0 (.int (q.h 3).k (q.h 3).kt) [] ⟨[cU q.S.a q.S.u,am (q.h 0),am (q.h 1),am (q.h 2),am (q.h 3)]⟩ (some 4) (hashInt (q.h 3).k) (rA (q.h 3).wa),
 c 5 λ g0 g1 g2 g3 g4=>.pure (bL "str.__eq__" (q.h 3).nm (q.s 1) ((q.h 3).u 7) (q.u 1) false),
 c 5 λ g0 g1 g2 g3 g4=>.full (oo ((b+1)+822) (q.S.a 6+822) 9 2 ⟨[cU q.S.a q.S.u,am (q.h 0),am (q.h 1),am (q.h 2),am (q.h 3)]⟩ 5 q.S.opn 5 q.L)],
 λ b t=>ap 6 λ g0 g1 g2 g3 g4 g5=>⟨[g5.n 0+0,g5.n 1+0],q.L,[],[],#[]⟩,ax 12 219 213398159854609019530805083362491393830082569892522214472653338923848782370063108607675859638828851216864751459631344101510589856167141174228406654929289326882548790419157063192354147548520198201775365705813795294338346461931268700657469,[0,1,2,3,4,5,6,7],16⟩
theorem qy.sat(w:World)(G:Shared)(q:Pr)(n9:(((⟨⟨[82,69,67]⟩⟩:Str).cps.toList ==(q.s 1).cps.toList)=false))(n0:((q.h 0).nm.cps.toList ==(q.s 1).cps.toList)=false)(n1:((q.h 1).nm.cps.toList ==(q.s 1).cps.toList)=false)(n2:((q.h 2).nm.cps.toList ==(q.s 1).cps.toList)=false)(n3:((q.h 3).nm.cps.toList ==(q.s 1).cps.toList)=false)(n:Nd w G (qy.D w.2 q).Z [true,false,true,true,false,true,true,false,true,true,false,true,true,false,true,true] (qy.D w.2 q).V (qy.D w.2 q).e):ai w G (qy.D w.2 q).Z:=RD.sat (by walk_at "R") (λ b t=>
 ⟨aQ (e:=cU q.S.a q.S.u) rfl,λ g0 a0=>
 ⟨((n b t) g0 a0).1,
 ⟨aD (by assumption),
 ⟨aQ (e:=am (q.h 0)) rfl,λ g1 a1=>
 ⟨(((n b t) g0 a0).2 g1 a1).1,
 ⟨aD (by assumption),
 ⟨aQ (e:=am (q.h 1)) rfl,λ g2 a2=>
 ⟨((((n b t) g0 a0).2 g1 a1).2 g2 a2).1,
 ⟨aD (by assumption),
 ⟨aQ (e:=am (q.h 2)) rfl,λ g3 a3=>
 ⟨(((((n b t) g0 a0).2 g1 a1).2 g2 a2).2 g3 a3).1,
 ⟨aD (by assumption),
 ⟨aQ (e:=am (q.h 3)) rfl,λ g4 a4=>
 ⟨((((((n b t) g0 a0).2 g1 a1).2 g2 a2).2 g3 a3).2 g4 a4).1,
 ⟨aD (by assumption),
 ⟨cu (Nat.le_refl _),λ g5 a5=>
 ((((((n b t) g0 a0).2 g1 a1).2 g2 a2).2 g3 a3).2 g4 a4).2 g5 a5⟩⟩⟩⟩⟩⟩⟩⟩⟩⟩⟩⟩⟩⟩⟩⟩)
def lB.D(P:Params)(q:Pr)(A:AA):RD:=⟨[(q.j 0,q.S.a 0+822,oW q.S.a),
 (q.j 1,q.S.a 1+822,bm P q.S.a q.S.u),
 (q.j 2,q.S.a 5+822,oD q.S.fl q.S.fln),
 (q.j 3,q.S.a 6+822,oD q.S.op q.S.opn),
 (q.j 4,q.S.a 8+822,dz P q.S.u q.S.buf q.S.bt q.S.rcn q.S.rt)],
 λ i=>⟨au 175 [rA (q.S.a 0),.str fJ (q.u 0),.int (q.m 0) (q.u 1),.str (q.s 0) (q.u 2),.int (q.m 1) (q.u 3)],13,i,q.L,λ _=>True,
 λ g=>⟨.ok (.ret .none),bg i [(2,oD (q.S.fl.push (kS P (q.s 0) (q.u 2) (.str aa (g.n 3)))) (q.S.fln+1)),
  (3,oD (q.S.op.push ⟨hashInt (q.m 0),.int (q.m 0) (q.u 1),rA (g.n 2)⟩) (q.S.opn+1))],
  [(g.n 2+822,dO 6 [kS P jn (g.n 4) (.str fJ (q.u 0)),kS P jo (g.n 5) (.str (q.s 0) (q.u 2)),kS P rX (g.n 6) (.int 0 (g.n 7)),kS P jp (g.n 8) (.int (q.m 1) (q.u 3)),kS P eM (g.n 9) (.str aa (g.n 10)),kS P fA (g.n 11) (.int 0 (g.n 12))])],q.L⟩⟩,
 λ i b t=>[c 0 (.pure (aX "int.__le__" 1 (q.m 0) (t+5) (q.u 1) true)),
 c 0 (.pure (aX "int.__le__" (q.m 0) 15 (q.u 1) 382 true)),
 c 0 (.dict 1 (.int (q.m 0) (q.u 1)) [] q.S.op none (hashInt (q.m 0)) (.bool false)),
 c 0 (.full (aj (au 182 [rA (q.S.a 0),.str fJ (q.u 0),.str (q.s 0) (q.u 2)]) 12 i [.k 0,.k 1,.k 3,.k 4] q.L (λ g0=>A 3 [g0]) λ g0=>(.ok (.ret (.bool false)),[],[],q.L))),
 c 1 λ g0=>.full (aj (au 168 [.str (q.s 0) (q.u 2)]) 12 i [] q.L (λ g1=>A 4 [g0,g1]) λ g1=>(.ok (.ret (.str (q.s 0) (q.u 2))),[],[],q.L)),
 c 2 λ g0 g1=>.dict 3 (.str (q.s 0) (q.u 2)) [.str aa (g1.n 1+3)] q.S.fl none (ae (C0 P).set1 (q.s 0)) .none,
 c 2 λ g0 g1=>.dict 3 (.int (q.m 0) (q.u 1)) [rA (g1.n 0+0)] q.S.op none (hashInt (q.m 0)) .none],
 λ b t=>ap 2 λ g0 g1=>⟨[g1.n 0+1,g1.n 1+27,g1.n 0+0,g1.n 1+3,g1.n 1+9,g1.n 1+10,g1.n 1+11,g1.n 1+7,g1.n 1+12,g1.n 1+13,g1.n 1+14,g1.n 1+15,g1.n 1+16],q.L,[],[],#[]⟩,ax 8 134 4490183759209294532769780776479799001749388464439819983974708242035135673946223735479764834930442983469051506067787967921,[0,1,2,3,4,6],7⟩
theorem lB.sat(w:World)(G:Shared)(q:Pr)(A:AA)(c0:1<=q.m 0/\q.m 0<=15)(n:Nd w G (lB.D w.2 q A).Z [true,true,false,false,false,false,false] (lB.D w.2 q A).V (lB.D w.2 q A).e):ai w G (lB.D w.2 q A).Z:=RD.sat (by walk_at "R") (λ b t=>
 ⟨gY (jD (by omega)),
 ⟨gY (jD (by omega)),
 ⟨(n b t).1,
 ⟨(n b t).2.1,λ g0 a0=>
 ⟨((n b t).2.2 g0 a0).1,λ g1 a1=>
 ⟨(((n b t).2.2 g0 a0).2 g1 a1).1,
 ⟨(((n b t).2.2 g0 a0).2 g1 a1).2.1,
 (((n b t).2.2 g0 a0).2 g1 a1).2.2⟩⟩⟩⟩⟩⟩⟩)
def lC.D(P:Params)(q:Pr)(A:AA):RD:=⟨[(q.j 0,q.S.a 0+822,oW q.S.a),
 (q.j 1,q.S.a 1+822,bm P q.S.a q.S.u),
 (q.j 2,q.S.a 5+822,oD q.S.fl q.S.fln),
 (q.j 3,q.S.a 6+822,oD q.S.op q.S.opn),
 (q.j 4,q.S.a 8+822,dz P q.S.u q.S.buf q.S.bt q.S.rcn q.S.rt)],
 λ i=>⟨au 175 [rA (q.S.a 0),.str fK (q.u 0),.int (q.m 0) (q.u 1),.str (q.s 0) (q.u 2),.int (q.m 1) (q.u 3)],13,i,q.L,λ _=>True,
 λ g=>⟨.ok (.ret .none),bg i [(2,oD (q.S.fl.push (kS P (q.s 0) (q.u 2) (.str aa (g.n 3)))) (q.S.fln+1)),
  (3,oD (q.S.op.push ⟨hashInt (q.m 0),.int (q.m 0) (q.u 1),rA (g.n 2)⟩) (q.S.opn+1))],
  [(g.n 2+822,dO 6 [kS P jn (g.n 4) (.str fK (q.u 0)),kS P jo (g.n 5) (.str (q.s 0) (q.u 2)),kS P rX (g.n 6) (.int 0 (g.n 7)),kS P jp (g.n 8) (.int (q.m 1) (q.u 3)),kS P eM (g.n 9) (.str aa (g.n 10)),kS P fA (g.n 11) (.int 0 (g.n 12))])],q.L⟩⟩,
 λ i b t=>[c 0 (.pure (aX "int.__le__" 1 (q.m 0) (t+5) (q.u 1) true)),
 c 0 (.pure (aX "int.__le__" (q.m 0) 15 (q.u 1) 382 true)),
 c 0 (.dict 1 (.int (q.m 0) (q.u 1)) [] q.S.op none (hashInt (q.m 0)) (.bool false)),
 c 0 (.full (aj (au 182 [rA (q.S.a 0),.str fK (q.u 0),.str (q.s 0) (q.u 2)]) 12 i [.k 0,.k 1,.k 3,.k 4] q.L (λ g0=>A 3 [g0]) λ g0=>(.ok (.ret (.bool false)),[],[],q.L))),
 c 1 λ g0=>.full (aj (au 168 [.str (q.s 0) (q.u 2)]) 12 i [] q.L (λ g1=>A 4 [g0,g1]) λ g1=>(.ok (.ret (.str (q.s 0) (q.u 2))),[],[],q.L)),
 c 2 λ g0 g1=>.dict 1 (.str (q.s 0) (q.u 2)) [] q.S.fl none (ae (C0 P).set1 (q.s 0)) (.bool false),
 c 2 λ g0 g1=>.dict 3 (.str (q.s 0) (q.u 2)) [.str aa (g1.n 1+5)] q.S.fl none (ae (C0 P).set1 (q.s 0)) .none,
 c 2 λ g0 g1=>.dict 0 (.str (q.s 0) (q.u 2)) [] (q.S.fl.push (kS P (q.s 0) (q.u 2) (.str aa (g1.n 1+5)))) (some (q.c 50)) (ae (C0 P).set1 (q.s 0)) (.str aa (g1.n 1+5)),
 c 2 λ g0 g1=>.dict 3 (.int (q.m 0) (q.u 1)) [rA (g1.n 0+0)] q.S.op none (hashInt (q.m 0)) .none],
 λ b t=>ap 2 λ g0 g1=>⟨[g1.n 0+1,g1.n 1+32,g1.n 0+0,g1.n 1+5,g1.n 1+14,g1.n 1+15,g1.n 1+16,g1.n 1+12,g1.n 1+17,g1.n 1+18,g1.n 1+19,g1.n 1+20,g1.n 1+21],q.L,[],[],#[]⟩,ax 8 177 3055860714987391929352344949930552584699988293831428131431894108286247797662396943124291646122519238058167481013649462373495257268825245664209122675900540480945,[0,1,2,3,4,6],9⟩
theorem lC.sat(w:World)(G:Shared)(q:Pr)(A:AA)(c0:1<=q.m 0/\q.m 0<=15)(n:Nd w G (lC.D w.2 q A).Z [true,true,false,false,false,false,false,false,false] (lC.D w.2 q A).V (lC.D w.2 q A).e):ai w G (lC.D w.2 q A).Z:=RD.sat (by walk_at "R") (λ b t=>
 ⟨gY (jD (by omega)),
 ⟨gY (jD (by omega)),
 ⟨(n b t).1,
 ⟨(n b t).2.1,λ g0 a0=>
 ⟨((n b t).2.2 g0 a0).1,λ g1 a1=>
 ⟨(((n b t).2.2 g0 a0).2 g1 a1).1,
 ⟨(((n b t).2.2 g0 a0).2 g1 a1).2.1,
 ⟨(((n b t).2.2 g0 a0).2 g1 a1).2.2.1,
 ⟨(((n b t).2.2 g0 a0).2 g1 a1).2.2.2.1,
 (((n b t).2.2 g0 a0).2 g1 a1).2.2.2.2⟩⟩⟩⟩⟩⟩⟩⟩⟩)
def lD.D(P:Params)(q:Pr)(x:T4)(A:AA):RD:=⟨[(q.j 0,q.S.a 0+822,oW q.S.a),
 (q.j 1,q.S.a 1+822,bm P q.S.a q.S.u),
 (q.j 2,q.S.a 5+822,oD q.S.fl q.S.fln),
 (q.j 3,q.S.a 6+822,oD q.S.op q.S.opn),
 (q.j 4,q.S.a 8+822,dz P q.S.u q.S.buf q.S.bt q.S.rcn q.S.rt)],
 λ i=>⟨au 175 [rA (q.S.a 0),.str ff (q.u 0),.int (q.m 0) (q.u 1),.str (q.s 0) (q.u 2),.int (x.p 128 3 4 5) (q.u 3)],13,i,q.L,λ _=>True,
 λ g=>⟨.ok (.ret .none),bg i [(2,oD (q.S.fl.push (kS P (q.s 0) (q.u 2) (.str aa (g.n 3)))) (q.S.fln+1)),
  (3,oD (q.S.op.push ⟨hashInt (q.m 0),.int (q.m 0) (q.u 1),rA (g.n 2)⟩) (q.S.opn+1))],
  [(g.n 2+822,dO 6 [kS P jn (g.n 4) (.str ff (q.u 0)),kS P jo (g.n 5) (.str (q.s 0) (q.u 2)),kS P rX (g.n 6) (.int 0 (g.n 7)),kS P jp (g.n 8) (.int (x.p 128 3 4 5) (q.u 3)),kS P eM (g.n 9) (.str ⟨⟨x.p [0,0,0,0,0,0,0,0,0,0,0,0,0,0,0,0,0,0,0,0,0,0,0,0,0,0,0,0,0,0,0,0,0,0,0,0,0,0,0,0,0,0,0,0,0,0,0,0,0,0,0,0,0,0,0,0,0,0,0,0,0,0,0,0,0,0,0,0,0,0,0,0,0,0,0,0,0,0,0,0,0,0,0,0,0,0,0,0,0,0,0,0,0,0,0,0,0,0,0,0,0,0,0,0,0,0,0,0,0,0,0,0,0,0,0,0,0,0,0,0,0,0,0,0,0,0,0,0] [0,0,0] [0,0,0,0] [0,0,0,0,0]⟩⟩ (g.n 10)),kS P fA (g.n 11) (.int 0 (g.n 12))])],q.L⟩⟩,
 λ i b t=>[c 0 (.pure (aX "int.__le__" 1 (q.m 0) (t+5) (q.u 1) true)),
 c 0 (.pure (aX "int.__le__" (q.m 0) 15 (q.u 1) 382 true)),
 c 0 (.dict 1 (.int (q.m 0) (q.u 1)) [] q.S.op none (hashInt (q.m 0)) (.bool false)),
 c 0 (.full (aj (au 182 [rA (q.S.a 0),.str ff (q.u 0),.str (q.s 0) (q.u 2)]) 12 i [.k 0,.k 1,.k 3,.k 4] q.L (λ g0=>A 3 [g0]) λ g0=>(.ok (.ret (.bool false)),[],[],q.L))),
 c 1 λ g0=>.full (aj (au 168 [.str (q.s 0) (q.u 2)]) 12 i [] q.L (λ g1=>A 4 [g0,g1]) λ g1=>(.ok (.ret (.str (q.s 0) (q.u 2))),[],[],q.L)),
 c 2 λ g0 g1=>.dict 1 (.str (q.s 0) (q.u 2)) [] q.S.fl none (ae (C0 P).set1 (q.s 0)) (.bool false),
 c 2 λ g0 g1=>.dict 3 (.str (q.s 0) (q.u 2)) [.str aa (g1.n 1+6)] q.S.fl none (ae (C0 P).set1 (q.s 0)) .none,
 c 2 λ g0 g1=>.dict 3 (.int (q.m 0) (q.u 1)) [rA (g1.n 0+0)] q.S.op none (hashInt (q.m 0)) .none],
 λ b t=>ap 2 λ g0 g1=>⟨[g1.n 0+1,g1.n 1+35,g1.n 0+0,g1.n 1+6,g1.n 1+12,g1.n 1+13,g1.n 1+14,g1.n 1+10,g1.n 1+15,g1.n 1+16,g1.n 1+30,g1.n 1+18,g1.n 1+19],q.L,[],[],#[]⟩,ax 8 169 182143492399894710398026183172939735724708856132136233069201866235267113974761140888484710052980318083298129618431287917639875146275087588102497986375089,[0,1,2,3,4,6],8⟩
theorem lD.sat(w:World)(G:Shared)(q:Pr)(x:T4)(A:AA)(c0:1<=q.m 0/\q.m 0<=15)(n:Nd w G (lD.D w.2 q x A).Z [true,true,false,false,false,false,false,false] (lD.D w.2 q x A).V (lD.D w.2 q x A).e):ai w G (lD.D w.2 q x A).Z:=RD.sat (by cases x<;>walk_at "R") (λ b t=>
 ⟨gY (jD (by omega)),
 ⟨gY (jD (by omega)),
 ⟨(n b t).1,
 ⟨(n b t).2.1,λ g0 a0=>
 ⟨((n b t).2.2 g0 a0).1,λ g1 a1=>
 ⟨(((n b t).2.2 g0 a0).2 g1 a1).1,
 ⟨(((n b t).2.2 g0 a0).2 g1 a1).2.1,
 ⟨(((n b t).2.2 g0 a0).2 g1 a1).2.2.1,
 (((n b t).2.2 g0 a0).2 g1 a1).2.2.2⟩⟩⟩⟩⟩⟩⟩⟩)
def mw.D(P:Params)(q:Pr):RD:=⟨[(q.j 0,q.S.a 0+822,oW q.S.a),
 (q.j 1,q.S.a 1+822,bm P q.S.a q.S.u),
 (q.j 2,q.S.a 6+822,oD q.S.op q.S.opn),
 (q.j 3,q.S.a 7+822,oD ⟨[]⟩ 0)],
 λ i=>⟨au 196 [rA (q.S.a 0),.int (q.m 0) (q.u 0)],4,i,q.L,λ _=>True,
 λ g=>⟨.ok (.ret .none),bg i [],
  [],q.L⟩⟩,
 λ i b t=>[c 0 (.dict 1 (.int (q.m 0) (q.u 0)) [] q.S.op none (hashInt (q.m 0)) (.bool false)),
 c 0 (.full (oo ((b+2)+822) (q.S.a 7+822) 6 3 ⟨[]⟩ 0 0 0 q.L))],
 λ b t=>ap 1 λ g0=>⟨[g0.n 0+6,g0.n 1+0],q.L,[],[],#[]⟩,ax 15 92 1571136387821042285788582502358139824891155800091757167308305974911651893847177320129783186977598011531052451,[0,1,2,3],2⟩
theorem mw.sat(w:World)(G:Shared)(q:Pr)(k9:q.m 0≠9)(n:Nd w G (mw.D w.2 q).Z [false,true] (mw.D w.2 q).V (mw.D w.2 q).e):ai w G (mw.D w.2 q).Z:=RD.sat (by walk_at "R") (λ b t=>
 ⟨(n b t).1,
 ⟨cu (Nat.le_refl _),λ g0 a0=>
 (n b t).2 g0 a0⟩⟩)
def mx.D(P:Params)(q:Pr):RD:=⟨[(q.j 0,q.S.a 0+822,oW q.S.a),
 (q.j 1,q.S.a 1+822,bm P q.S.a q.S.u),
 (q.j 2,q.S.a 6+822,oD q.S.op q.S.opn),
 (q.j 3,q.S.a 7+822,oD ⟨[]⟩ 0)],
 λ i=>⟨au 196 [rA (q.S.a 0),.int (q.m 0) (q.u 0)],4,i,q.L,λ _=>True,
 λ g=>⟨.ok (.ret .none),bg i [(2,oD (q.S.op.eraseIdxIfInBounds (q.c 0)) (q.S.opn+1))],
  [],q.L⟩⟩,
 λ i b t=>[c 0 (.dict 1 (.int (q.m 0) (q.u 0)) [] q.S.op (some (q.c 0)) (hashInt (q.m 0)) (.bool true)),
 c 0 (.dict 4 (.int (q.m 0) (q.u 0)) [] q.S.op (some (q.c 0)) (hashInt (q.m 0)) (rA (q.c 1))),
 c 0 (.full (oo ((b+2)+822) (q.S.a 7+822) 6 3 ⟨[]⟩ 0 0 0 q.L))],
 λ b t=>ap 1 λ g0=>⟨[g0.n 0+6,g0.n 1+0],q.L,[],[],#[]⟩,ax 15 113 7836647771212429935906906299291478619776754712992591752506086966119354023850124983049066685811548715475840586667723124715626277146201,[0,1,2,3],3⟩
theorem mx.sat(w:World)(G:Shared)(q:Pr)(k9:q.m 0≠9)(n:Nd w G (mx.D w.2 q).Z [false,false,true] (mx.D w.2 q).V (mx.D w.2 q).e):ai w G (mx.D w.2 q).Z:=RD.sat (by walk_at "R") (λ b t=>
 ⟨(n b t).1,
 ⟨(n b t).2.1,
 ⟨cu (Nat.le_refl _),λ g0 a0=>
 (n b t).2.2 g0 a0⟩⟩⟩)
def mz.D(P:Params)(q:Pr):RD:=⟨[(q.j 0,q.S.a 0+822,oW q.S.a),
 (q.j 1,q.S.a 1+822,bm P q.S.a q.S.u),
 (q.j 2,q.S.a 6+822,oD q.S.op q.S.opn),
 (q.j 3,q.S.a 7+822,oD ⟨[ah P ad (q.p 0)]⟩ 1),
 (q.j 4,(q.p 0).wa+822,dE (q.p 0))],
 λ i=>⟨au 196 [rA (q.S.a 0),.int (q.m 0) (q.u 0)],4,i,q.L,λ _=>True,
 λ g=>⟨.ok (.ret .none),bg i [],
  [],q.L⟩⟩,
 λ i b t=>[c 0 (.dict 1 (.int (q.m 0) (q.u 0)) [] q.S.op none (hashInt (q.m 0)) (.bool false)),
 c 0 (.full (iU ((b+2)+822) (q.S.a 7+822) 7 3 ⟨[ah P ad (q.p 0)]⟩ 1 1 0 (.str ad (q.p 0).kt) q.L)),
 c 1 λ g0=>.full (oo ((b+2)+822) (q.S.a 7+822) 7 3 ⟨[ah P ad (q.p 0)]⟩ 1 1 1 q.L),
 c 2 λ g0 g1=>.dict 0 (.str ad (q.p 0).kt) [] ⟨[ah P ad (q.p 0)]⟩ (some 0) (ae (C0 P).set1 ad) (rA (q.p 0).wa),
 c 2 λ g0 g1=>.pure (aX "int.__eq__" 9 (q.m 0) ((q.p 0).u 0) (q.u 0) false)],
 λ b t=>ap 2 λ g0 g1=>⟨[g1.n 0+6,g1.n 1+4],q.L,[],[],#[]⟩,ax 16 137 913657218795950381250272057096401059326818404776329294566188974650431451626170794372532476476364132664005737365110280164412668559733495408594988677222401839605376609,[0,1,2,3,4],5⟩
theorem mz.sat(w:World)(G:Shared)(q:Pr)(k9:q.m 0≠9)(n:Nd w G (mz.D w.2 q).Z [false,true,true,false,true] (mz.D w.2 q).V (mz.D w.2 q).e):ai w G (mz.D w.2 q).Z:=RD.sat (by walk_at "R") (λ b t=>
 ⟨(n b t).1,
 ⟨aQ (e:=ah w.2 ad (q.p 0)) rfl,λ g0 a0=>
 ⟨cu (Nat.le_refl _),λ g1 a1=>
 ⟨(((n b t).2 g0 a0) g1 a1).1,
 ⟨dK (nC.mpr (by omega)),
 (((n b t).2 g0 a0) g1 a1).2⟩⟩⟩⟩⟩)
def mA.D(P:Params)(q:Pr):RD:=⟨[(q.j 0,q.S.a 0+822,oW q.S.a),
 (q.j 1,q.S.a 1+822,bm P q.S.a q.S.u),
 (q.j 2,q.S.a 6+822,oD q.S.op q.S.opn),
 (q.j 3,q.S.a 7+822,oD ⟨[ah P ad (q.p 0)]⟩ 1),
 (q.j 4,(q.p 0).wa+822,dE (q.p 0))],
 λ i=>⟨au 196 [rA (q.S.a 0),.int (q.m 0) (q.u 0)],4,i,q.L,λ _=>True,
 λ g=>⟨.ok (.ret .none),bg i [(2,oD (q.S.op.eraseIdxIfInBounds (q.c 0)) (q.S.opn+1))],
  [],q.L⟩⟩,
 λ i b t=>[c 0 (.dict 1 (.int (q.m 0) (q.u 0)) [] q.S.op (some (q.c 0)) (hashInt (q.m 0)) (.bool true)),
 c 0 (.dict 4 (.int (q.m 0) (q.u 0)) [] q.S.op (some (q.c 0)) (hashInt (q.m 0)) (rA (q.c 1))),
 c 0 (.full (iU ((b+2)+822) (q.S.a 7+822) 7 3 ⟨[ah P ad (q.p 0)]⟩ 1 1 0 (.str ad (q.p 0).kt) q.L)),
 c 1 λ g0=>.full (oo ((b+2)+822) (q.S.a 7+822) 7 3 ⟨[ah P ad (q.p 0)]⟩ 1 1 1 q.L),
 c 2 λ g0 g1=>.dict 0 (.str ad (q.p 0).kt) [] ⟨[ah P ad (q.p 0)]⟩ (some 0) (ae (C0 P).set1 ad) (rA (q.p 0).wa),
 c 2 λ g0 g1=>.pure (aX "int.__eq__" 9 (q.m 0) ((q.p 0).u 0) (q.u 0) false)],
 λ b t=>ap 2 λ g0 g1=>⟨[g1.n 0+6,g1.n 1+4],q.L,[],[],#[]⟩,ax 16 158 17672700833275470254227879169781924332118007525077966574303527980329465841558433546240828930239408230635478389687872497747161975975312420063786852909090915754355466441203438337794187331004001,[0,1,2,3,4],6⟩
theorem mA.sat(w:World)(G:Shared)(q:Pr)(k9:q.m 0≠9)(n:Nd w G (mA.D w.2 q).Z [false,false,true,true,false,true] (mA.D w.2 q).V (mA.D w.2 q).e):ai w G (mA.D w.2 q).Z:=RD.sat (by walk_at "R") (λ b t=>
 ⟨(n b t).1,
 ⟨(n b t).2.1,
 ⟨aQ (e:=ah w.2 ad (q.p 0)) rfl,λ g0 a0=>
 ⟨cu (Nat.le_refl _),λ g1 a1=>
 ⟨(((n b t).2.2 g0 a0) g1 a1).1,
 ⟨dK (nC.mpr (by omega)),
 (((n b t).2.2 g0 a0) g1 a1).2⟩⟩⟩⟩⟩⟩)
def mC.D(P:Params)(q:Pr):RD:=⟨[(q.j 0,q.S.a 0+822,oW q.S.a),
 (q.j 1,q.S.a 1+822,bm P q.S.a q.S.u),
 (q.j 2,q.S.a 6+822,oD q.S.op q.S.opn),
 (q.j 3,q.S.a 7+822,oD ⟨[ah P ad (q.p 0),ah P av (q.p 1)]⟩ 2),
 (q.j 4,(q.p 0).wa+822,dE (q.p 0)),
 (q.j 5,(q.p 1).wa+822,dE (q.p 1))],
 λ i=>⟨au 196 [rA (q.S.a 0),.int (q.m 0) (q.u 0)],4,i,q.L,λ _=>True,
 λ g=>⟨.ok (.ret .none),bg i [],
  [],q.L⟩⟩,
 λ i b t=>[c 0 (.dict 1 (.int (q.m 0) (q.u 0)) [] q.S.op none (hashInt (q.m 0)) (.bool false)),
 c 0 (.full (iU ((b+2)+822) (q.S.a 7+822) 8 3 ⟨[ah P ad (q.p 0),ah P av (q.p 1)]⟩ 2 2 0 (.str ad (q.p 0).kt) q.L)),
 c 1 λ g0=>.full (iU ((b+2)+822) (q.S.a 7+822) 8 3 ⟨[ah P ad (q.p 0),ah P av (q.p 1)]⟩ 2 2 1 (.str av (q.p 1).kt) q.L),
 c 2 λ g0 g1=>.full (oo ((b+2)+822) (q.S.a 7+822) 8 3 ⟨[ah P ad (q.p 0),ah P av (q.p 1)]⟩ 2 2 2 q.L),
 c 3 λ g0 g1 g2=>.dict 0 (.str ad (q.p 0).kt) [] ⟨[ah P ad (q.p 0),ah P av (q.p 1)]⟩ (some 0) (ae (C0 P).set1 ad) (rA (q.p 0).wa),
 c 3 λ g0 g1 g2=>.pure (aX "int.__eq__" 9 (q.m 0) ((q.p 0).u 0) (q.u 0) false),
 c 3 λ g0 g1 g2=>.dict 0 (.str av (q.p 1).kt) [] ⟨[ah P ad (q.p 0),ah P av (q.p 1)]⟩ (some 1) (ae (C0 P).set1 av) (rA (q.p 1).wa),
 c 3 λ g0 g1 g2=>.pure (aX "int.__eq__" 9 (q.m 0) ((q.p 1).u 0) (q.u 0) false)],
 λ b t=>ap 3 λ g0 g1 g2=>⟨[g2.n 0+6,g2.n 1+8],q.L,[],[],#[]⟩,ax 17 183 1475474663030676483210112230320616476403038022098362916822785282304341647013609961342387350415518453606301024323980231017843179189539076684294576869826314042134608937524516487089453066836830011686493621302447747702511024865198,[0,1,2,3,4,5],8⟩
theorem mC.sat(w:World)(G:Shared)(q:Pr)(k9:q.m 0≠9)(n:Nd w G (mC.D w.2 q).Z [false,true,true,true,false,true,false,true] (mC.D w.2 q).V (mC.D w.2 q).e):ai w G (mC.D w.2 q).Z:=RD.sat (by walk_at "R") (λ b t=>
 ⟨(n b t).1,
 ⟨aQ (e:=ah w.2 ad (q.p 0)) rfl,λ g0 a0=>
 ⟨aQ (e:=ah w.2 av (q.p 1)) rfl,λ g1 a1=>
 ⟨cu (Nat.le_refl _),λ g2 a2=>
 ⟨((((n b t).2 g0 a0) g1 a1) g2 a2).1,
 ⟨dK (nC.mpr (by omega)),
 ⟨((((n b t).2 g0 a0) g1 a1) g2 a2).2.1,
 ⟨dK (nC.mpr (by omega)),
 ((((n b t).2 g0 a0) g1 a1) g2 a2).2.2⟩⟩⟩⟩⟩⟩⟩⟩)
def mD.D(P:Params)(q:Pr):RD:=⟨[(q.j 0,q.S.a 0+822,oW q.S.a),
 (q.j 1,q.S.a 1+822,bm P q.S.a q.S.u),
 (q.j 2,q.S.a 6+822,oD q.S.op q.S.opn),
 (q.j 3,q.S.a 7+822,oD ⟨[ah P ad (q.p 0),ah P av (q.p 1)]⟩ 2),
 (q.j 4,(q.p 0).wa+822,dE (q.p 0)),
 (q.j 5,(q.p 1).wa+822,dE (q.p 1))],
 λ i=>⟨au 196 [rA (q.S.a 0),.int (q.m 0) (q.u 0)],4,i,q.L,λ _=>True,
 λ g=>⟨.ok (.ret .none),bg i [(2,oD (q.S.op.eraseIdxIfInBounds (q.c 0)) (q.S.opn+1))],
  [],q.L⟩⟩,
 λ i b t=>[c 0 (.dict 1 (.int (q.m 0) (q.u 0)) [] q.S.op (some (q.c 0)) (hashInt (q.m 0)) (.bool true)),
 c 0 (.dict 4 (.int (q.m 0) (q.u 0)) [] q.S.op (some (q.c 0)) (hashInt (q.m 0)) (rA (q.c 1))),
 c 0 (.full (iU ((b+2)+822) (q.S.a 7+822) 8 3 ⟨[ah P ad (q.p 0),ah P av (q.p 1)]⟩ 2 2 0 (.str ad (q.p 0).kt) q.L)),
 c 1 λ g0=>.full (iU ((b+2)+822) (q.S.a 7+822) 8 3 ⟨[ah P ad (q.p 0),ah P av (q.p 1)]⟩ 2 2 1 (.str av (q.p 1).kt) q.L),
 c 2 λ g0 g1=>.full (oo ((b+2)+822) (q.S.a 7+822) 8 3 ⟨[ah P ad (q.p 0),ah P av (q.p 1)]⟩ 2 2 2 q.L),
 c 3 λ g0 g1 g2=>.dict 0 (.str ad (q.p 0).kt) [] ⟨[ah P ad (q.p 0),ah P av (q.p 1)]⟩ (some 0) (ae (C0 P).set1 ad) (rA (q.p 0).wa),
 c 3 λ g0 g1 g2=>.pure (aX "int.__eq__" 9 (q.m 0) ((q.p 0).u 0) (q.u 0) false),
 c 3 λ g0 g1 g2=>.dict 0 (.str av (q.p 1).kt) [] ⟨[ah P ad (q.p 0),ah P av (q.p 1)]⟩ (some 1) (ae (C0 P).set1 av) (rA (q.p 1).wa),
 c 3 λ g0 g1 g2=>.pure (aX "int.__eq__" 9 (q.m 0) ((q.p 1).u 0) (q.u 0) false)],
 λ b t=>ap 3 λ g0 g1 g2=>⟨[g2.n 0+6,g2.n 1+8],q.L,[],[],#[]⟩,ax 17 204 101943397908434329014032153369000011422363168689289904197052910912635826270539437172581034378933039185234969202618450945329435575279511844306887993285965782409555373977442429449954202914217422819661386979571419453778643940676043519206611317225500881754,[0,1,2,3,4,5],9⟩
theorem mD.sat(w:World)(G:Shared)(q:Pr)(k9:q.m 0≠9)(n:Nd w G (mD.D w.2 q).Z [false,false,true,true,true,false,true,false,true] (mD.D w.2 q).V (mD.D w.2 q).e):ai w G (mD.D w.2 q).Z:=RD.sat (by walk_at "R") (λ b t=>
 ⟨(n b t).1,
 ⟨(n b t).2.1,
 ⟨aQ (e:=ah w.2 ad (q.p 0)) rfl,λ g0 a0=>
 ⟨aQ (e:=ah w.2 av (q.p 1)) rfl,λ g1 a1=>
 ⟨cu (Nat.le_refl _),λ g2 a2=>
 ⟨((((n b t).2.2 g0 a0) g1 a1) g2 a2).1,
 ⟨dK (nC.mpr (by omega)),
 ⟨((((n b t).2.2 g0 a0) g1 a1) g2 a2).2.1,
 ⟨dK (nC.mpr (by omega)),
 ((((n b t).2.2 g0 a0) g1 a1) g2 a2).2.2⟩⟩⟩⟩⟩⟩⟩⟩⟩)
def mE.D(P:Params)(q:Pr):RD:=⟨[(q.j 0,q.S.a 0+822,oW q.S.a),
 (q.j 1,q.S.a 1+822,bm P q.S.a q.S.u),
 (q.j 2,q.S.a 6+822,oD q.S.op q.S.opn),
 (q.j 3,q.S.a 7+822,oD ⟨[ah P ad (q.p 0),ah P av (q.p 1),ah P bb (q.p 2)]⟩ 3),
 (q.j 4,(q.p 0).wa+822,dE (q.p 0)),
 (q.j 5,(q.p 1).wa+822,dE (q.p 1)),
 (q.j 6,(q.p 2).wa+822,dE (q.p 2))],
 λ i=>⟨au 196 [rA (q.S.a 0),.int (q.m 0) (q.u 0)],4,i,q.L,λ _=>True,
 λ g=>⟨.ok (.ret .none),bg i [],
  [],q.L⟩⟩,
 λ i b t=>[c 0 (.dict 1 (.int (q.m 0) (q.u 0)) [] q.S.op none (hashInt (q.m 0)) (.bool false)),
 c 0 (.full (iU ((b+2)+822) (q.S.a 7+822) 9 3 ⟨[ah P ad (q.p 0),ah P av (q.p 1),ah P bb (q.p 2)]⟩ 3 3 0 (.str ad (q.p 0).kt) q.L)),
 c 1 λ g0=>.full (iU ((b+2)+822) (q.S.a 7+822) 9 3 ⟨[ah P ad (q.p 0),ah P av (q.p 1),ah P bb (q.p 2)]⟩ 3 3 1 (.str av (q.p 1).kt) q.L),
 c 2 λ g0 g1=>.full (iU ((b+2)+822) (q.S.a 7+822) 9 3 ⟨[ah P ad (q.p 0),ah P av (q.p 1),ah P bb (q.p 2)]⟩ 3 3 2 (.str bb (q.p 2).kt) q.L),
 c 3 λ g0 g1 g2=>.full (oo ((b+2)+822) (q.S.a 7+822) 9 3 ⟨[ah P ad (q.p 0),ah P av (q.p 1),ah P bb (q.p 2)]⟩ 3 3 3 q.L),
 c 4 λ g0 g1 g2 g3=>.dict 0 (.str ad (q.p 0).kt) [] ⟨[ah P ad (q.p 0),ah P av (q.p 1),ah P bb (q.p 2)]⟩ (some 0) (ae (C0 P).set1 ad) (rA (q.p 0).wa),
 c 4 λ g0 g1 g2 g3=>.pure (aX "int.__eq__" 9 (q.m 0) ((q.p 0).u 0) (q.u 0) false),
 c 4 λ g0 g1 g2 g3=>.dict 0 (.str av (q.p 1).kt) [] ⟨[ah P ad (q.p 0),ah P av (q.p 1),ah P bb (q.p 2)]⟩ (some 1) (ae (C0 P).set1 av) (rA (q.p 1).wa),
 c 4 λ g0 g1 g2 g3=>.pure (aX "int.__eq__" 9 (q.m 0) ((q.p 1).u 0) (q.u 0) false),
 c 4 λ g0 g1 g2 g3=>.dict 0 (.str bb (q.p 2).kt) [] ⟨[ah P ad (q.p 0),ah P av (q.p 1),ah P bb (q.p 2)]⟩ (some 2) (ae (C0 P).set1 bb) (rA (q.p 2).wa),
 c 4 λ g0 g1 g2 g3=>.pure (aX "int.__eq__" 9 (q.m 0) ((q.p 2).u 0) (q.u 0) false)],
 λ b t=>ap 4 λ g0 g1 g2 g3=>⟨[g3.n 0+6,g3.n 1+12],q.L,[],[],#[]⟩,ax 18 229 284802194982789160848682162637515213903442493580852105909596653625106003028440804048033118336217616582826071962950502599844388595678629178468312898696375242722381598134863934020051215299592997982688202111038542730537642155587209372616994287991716266127806572013243382337337902163880028273,[0,1,2,3,4,5,6],11⟩
theorem mE.sat(w:World)(G:Shared)(q:Pr)(k9:q.m 0≠9)(n:Nd w G (mE.D w.2 q).Z [false,true,true,true,true,false,true,false,true,false,true] (mE.D w.2 q).V (mE.D w.2 q).e):ai w G (mE.D w.2 q).Z:=RD.sat (by walk_at "R") (λ b t=>
 ⟨(n b t).1,
 ⟨aQ (e:=ah w.2 ad (q.p 0)) rfl,λ g0 a0=>
 ⟨aQ (e:=ah w.2 av (q.p 1)) rfl,λ g1 a1=>
 ⟨aQ (e:=ah w.2 bb (q.p 2)) rfl,λ g2 a2=>
 ⟨cu (Nat.le_refl _),λ g3 a3=>
 ⟨(((((n b t).2 g0 a0) g1 a1) g2 a2) g3 a3).1,
 ⟨dK (nC.mpr (by omega)),
 ⟨(((((n b t).2 g0 a0) g1 a1) g2 a2) g3 a3).2.1,
 ⟨dK (nC.mpr (by omega)),
 ⟨(((((n b t).2 g0 a0) g1 a1) g2 a2) g3 a3).2.2.1,
 ⟨dK (nC.mpr (by omega)),
 (((((n b t).2 g0 a0) g1 a1) g2 a2) g3 a3).2.2.2⟩⟩⟩⟩⟩⟩⟩⟩⟩⟩⟩)
def mF.D(P:Params)(q:Pr):RD:=⟨[(q.j 0,q.S.a 0+822,oW q.S.a),
 (q.j 1,q.S.a 1+822,bm P q.S.a q.S.u),
 (q.j 2,q.S.a 6+822,oD q.S.op q.S.opn),
 (q.j 3,q.S.a 7+822,oD ⟨[ah P ad (q.p 0),ah P av (q.p 1),ah P bb (q.p 2)]⟩ 3),
 (q.j 4,(q.p 0).wa+822,dE (q.p 0)),
 (q.j 5,(q.p 1).wa+822,dE (q.p 1)),
 (q.j 6,(q.p 2).wa+822,dE (q.p 2))],
 λ i=>⟨au 196 [rA (q.S.a 0),.int (q.m 0) (q.u 0)],4,i,q.L,λ _=>True,
 λ g=>⟨.ok (.ret .none),bg i [(2,oD (q.S.op.eraseIdxIfInBounds (q.c 0)) (q.S.opn+1))],
  [],q.L⟩⟩,
 λ i b t=>[c 0 (.dict 1 (.int (q.m 0) (q.u 0)) [] q.S.op (some (q.c 0)) (hashInt (q.m 0)) (.bool true)),
 c 0 (.dict 4 (.int (q.m 0) (q.u 0)) [] q.S.op (some (q.c 0)) (hashInt (q.m 0)) (rA (q.c 1))),
 c 0 (.full (iU ((b+2)+822) (q.S.a 7+822) 9 3 ⟨[ah P ad (q.p 0),ah P av (q.p 1),ah P bb (q.p 2)]⟩ 3 3 0 (.str ad (q.p 0).kt) q.L)),
 c 1 λ g0=>.full (iU ((b+2)+822) (q.S.a 7+822) 9 3 ⟨[ah P ad (q.p 0),ah P av (q.p 1),ah P bb (q.p 2)]⟩ 3 3 1 (.str av (q.p 1).kt) q.L),
 c 2 λ g0 g1=>.full (iU ((b+2)+822) (q.S.a 7+822) 9 3 ⟨[ah P ad (q.p 0),ah P av (q.p 1),ah P bb (q.p 2)]⟩ 3 3 2 (.str bb (q.p 2).kt) q.L),
 c 3 λ g0 g1 g2=>.full (oo ((b+2)+822) (q.S.a 7+822) 9 3 ⟨[ah P ad (q.p 0),ah P av (q.p 1),ah P bb (q.p 2)]⟩ 3 3 3 q.L),
 c 4 λ g0 g1 g2 g3=>.dict 0 (.str ad (q.p 0).kt) [] ⟨[ah P ad (q.p 0),ah P av (q.p 1),ah P bb (q.p 2)]⟩ (some 0) (ae (C0 P).set1 ad) (rA (q.p 0).wa),
 c 4 λ g0 g1 g2 g3=>.pure (aX "int.__eq__" 9 (q.m 0) ((q.p 0).u 0) (q.u 0) false),
 c 4 λ g0 g1 g2 g3=>.dict 0 (.str av (q.p 1).kt) [] ⟨[ah P ad (q.p 0),ah P av (q.p 1),ah P bb (q.p 2)]⟩ (some 1) (ae (C0 P).set1 av) (rA (q.p 1).wa),
 c 4 λ g0 g1 g2 g3=>.pure (aX "int.__eq__" 9 (q.m 0) ((q.p 1).u 0) (q.u 0) false),
 c 4 λ g0 g1 g2 g3=>.dict 0 (.str bb (q.p 2).kt) [] ⟨[ah P ad (q.p 0),ah P av (q.p 1),ah P bb (q.p 2)]⟩ (some 2) (ae (C0 P).set1 bb) (rA (q.p 2).wa),
 c 4 λ g0 g1 g2 g3=>.pure (aX "int.__eq__" 9 (q.m 0) ((q.p 2).u 0) (q.u 0) false)],
 λ b t=>ap 4 λ g0 g1 g2 g3=>⟨[g3.n 0+6,g3.n 1+12],q.L,[],[],#[]⟩,ax 18 250 65353061818596423788783279616555076381812784496278927981157946646340348225366993071005111653811369151652994342635169493295038033790467297219495721025038201925671753376924191394984980273664672474441928628068430716772330853851191553020787571133411209552492913710457494667411235734919523346530297379498674421374888049,[0,1,2,3,4,5,6],12⟩
theorem mF.sat(w:World)(G:Shared)(q:Pr)(k9:q.m 0≠9)(n:Nd w G (mF.D w.2 q).Z [false,false,true,true,true,true,false,true,false,true,false,true] (mF.D w.2 q).V (mF.D w.2 q).e):ai w G (mF.D w.2 q).Z:=RD.sat (by walk_at "R") (λ b t=>
 ⟨(n b t).1,
 ⟨(n b t).2.1,
 ⟨aQ (e:=ah w.2 ad (q.p 0)) rfl,λ g0 a0=>
 ⟨aQ (e:=ah w.2 av (q.p 1)) rfl,λ g1 a1=>
 ⟨aQ (e:=ah w.2 bb (q.p 2)) rfl,λ g2 a2=>
 ⟨cu (Nat.le_refl _),λ g3 a3=>
 ⟨(((((n b t).2.2 g0 a0) g1 a1) g2 a2) g3 a3).1,
 ⟨dK (nC.mpr (by omega)),
 ⟨(((((n b t).2.2 g0 a0) g1 a1) g2 a2) g3 a3).2.1,
 ⟨dK (nC.mpr (by omega)),
 ⟨(((((n b t).2.2 g0 a0) g1 a1) g2 a2) g3 a3).2.2.1,
 ⟨dK (nC.mpr (by omega)),
 (((((n b t).2.2 g0 a0) g1 a1) g2 a2) g3 a3).2.2.2⟩⟩⟩⟩⟩⟩⟩⟩⟩⟩⟩⟩)
def AB.D(P:Params)(q:Pr)(x y:T3):RD:=⟨[(q.j 0,q.S.a 0+822,oW q.S.a),
 (q.j 1,q.S.a 1+822,bm P q.S.a q.S.u),
 (q.j 2,q.S.a 7+822,oD q.S.fi q.S.fin),
 (q.j 3,q.S.a 6+822,oD q.S.op q.S.opn),
 (q.j 4,q.S.a 8+822,dz P q.S.u ⟨⟨[q.c 0,q.c 1,q.c 2,q.c 3,q.c 4,q.c 5]⟩⟩ q.S.bt q.S.rcn q.S.rt),
 (q.j 5,(q.p 0).wa+822,dE {q.p 0 with at_:=0,many:=(y.p 0 1 2)})],
 λ i=>⟨au 250 [rA (q.S.a 0),.str ad (q.u 0),.str (x.p gw aa cy) (q.u 1),.bool false],1,i,q.L,λ _=>True,
 λ g=>⟨.ok (.ret .none),bg i (y.p [] [(4,dz P q.S.u ⟨⟨[x.p 112 32 120,q.c 1,q.c 2,q.c 3,q.c 4,q.c 5]⟩⟩ (g.n 2) q.S.rcn q.S.rt)] [(4,dz P q.S.u ⟨⟨[x.p 112 32 120,x.p 113 32 121,q.c 2,q.c 3,q.c 4,q.c 5]⟩⟩ (g.n 2) q.S.rcn q.S.rt)]),
  [],q.L⟩⟩,
 λ i b t=>[c 0 (.dict 0 (.str ad (q.u 0)) [] q.S.fi (some 0) (ae (C0 P).set1 ad) (rA (q.p 0).wa)),
 c 0 (.dict 0 (.int 9 ((q.p 0).u 0)) [] q.S.op (some 0) (hashInt 9) (rA (q.S.a 8)))],
 λ b t=>ap 0 (⟨y.p [b+8,t+x.p 31 30 31] [b+8,t+x.p 33 31 33,t+x.p 30 28 30] [b+8,t+x.p 32 32 33,t+x.p 29 29 30],q.L,[],[],#[]⟩),ax 15 170 24222134639275026467382687081038667008408209701236001246576311259772288464592654551690948004276122297774069386387111941855406442204290959273656214533815549277826833237418896216297823225134226526367181,[0,1,2,3,4,5],2⟩
def AB.sat(w:World)(G:Shared)(q:Pr)(x y:T3):= @RD.sat w G (AB.D w.2 q x y) (by cases x<;>cases y<;>walk_at "R")
def rz.D(P:Params)(q:Pr):RD:=⟨[(q.j 0,q.a 0+822,gf (q.a 1+822)),
 (q.j 1,q.a 1+822,gk P q.u 2 (q.S.a 0+822) (q.a 6+822) (q.a 7+822) (q.a 8+822)),
 (q.j 2,q.S.a 0+822,oW q.S.a),
 (q.j 3,q.S.a 1+822,bm P q.S.a q.S.u),
 (q.j 4,q.S.a 7+822,oD q.S.fi q.S.fin),
 (q.j 5,q.S.a 2+822,oD q.S.nm q.S.nmn)],
 λ i=>⟨au 748 [rA (q.a 0),.str ad (q.u 0),.str aa (q.u 1)],3,i,q.L,λ _=>True,
 λ g=>⟨.ok (.ret .none),bg i [(5,oD (aK (q.r 0) (ae (C0 P).set1 ad) (.str ad (q.u 0)) (.str aa (q.u 1)) q.S.nm) (be (q.r 0) q.S.nmn))],
  [],q.L⟩⟩,
 λ i b t=>[c 0 (.dict 3 (.str ad (q.u 0)) [.str aa (q.u 1)] q.S.nm (q.r 0) (ae (C0 P).set1 ad) .none),
 c 0 (.dict 1 (.str ad (q.u 0)) [] q.S.fi none (ae (C0 P).set1 ad) (.bool false))],
 λ b t=>ap 0 (⟨[b+9,t+40],q.L,[],[],#[]⟩),ax 16 207 457242287666759842270669397152614918494281654527425957919735556623916610518173084587711790336171850283611662284930261836604665339410727122290801810474557044047611836513705800033908607525403244246623733331600409586872717662726253246744479960487393137,[0,1,2,3,4,5],2⟩
def rz.sat(w:World)(G:Shared)(q:Pr):= @RD.sat w G (rz.D w.2 q) (by walk_at "R")
def Am.D(P:Params)(q:Pr)(x:T5):RD:=⟨[],
 λ i=>⟨au 168 [.str ⟨⟨[70,x.p 48 49 50 51 52]⟩⟩ (q.u 0)],1,i,q.L,λ _=>True,
 λ g=>⟨.ok (.ret (.str ⟨⟨[70,x.p 48 49 50 51 52]⟩⟩ (q.u 0))),bg i [],
  [],q.L⟩⟩,
 λ i b t=>[none],
 λ b t=>ap 1 λ g0=>⟨[b+7,t+16],q.L,[],[],#[]⟩,ax 8 82 27372106170974491293894571452424231428588032456638730870971231691256102985,[],1⟩
theorem Am.sat(w:World)(G:Shared)(q:Pr)(x:T5):ai w G (Am.D w.2 q x).Z:=RD.sat (by cases x<;>walk_at "R") (λ b t=>
 λ g0=>
 λ _ _=>trivial)
def str.D(P:Params)(q:Pr)(x:T5):RD:=⟨[],
 λ i=>⟨.call (.type "str") ⟨[.int (x.p 0 1 2 3 4) (q.u 0)],[]⟩,1,i,q.L,λ _=>True,
 λ g=>⟨.ok (.ret (.str ⟨⟨[x.p 48 49 50 51 52]⟩⟩ (g.n 2))),bg i [],
  [],q.L⟩⟩,
 λ i b t=>[],
 λ b t=>ap 0 (⟨[b+0,t+1,t+0],q.L,[],[],#[]⟩),ax 2 5 0,[],0⟩
theorem str.sat(w:World)(G:Shared)(q:Pr)(x:T5):ai w G (str.D w.2 q x).Z:=RD.sat (by cases x<;>walk_at "R") (λ b t=>
 λ _ _=>trivial)
def fn.D(P:Params)(q:Pr)(x:AV):RD:=⟨[(q.j 0,q.a 0+822,gf (q.a 1+822)),
 (q.j 1,q.a 1+822,gk P q.u 1 (q.S.a 0+822) (q.a 3+822) (q.a 4+822) (q.a 2+822)),
 (q.j 2,q.a 2+822,aO (q.en 1) (q.ar 0)),
 (q.j 3,q.S.a 0+822,oW q.S.a),
 (q.j 4,q.S.a 1+822,bm P q.S.a q.S.u),
 (q.j 5,q.a 5+822,lO 0 []),
 (q.j 6,q.a 6+822,lO 0 [x.v]),
 (q.j 7,q.a 3+822,oD (q.e 0) (q.en 0)),
 (q.j 8,q.S.a 4+822,(oD #[] 0))],
 λ i=>⟨au 720 [rA (q.a 0),.str (q.s 0) (q.u 0),rA (q.a 5)],3,i,q.L,λ _=>True,
 λ g=>⟨.ok (.ret x.v),bg i [(2,aO (q.en 1+1) ((q.ar 0).push (rA (g.n 2)))),
  (6,lO 1 [])],
  [(g.n 2+822,tO [.str (q.s 0) (q.u 0),rA (g.n 3)]),
  (g.n 3+822,lO 0 [])],q.L⟩⟩,
 λ i b t=>[c 0 (.full (qW (q.a 2+822) 2 (q.en 1) (q.ar 0) (rA (b+3)) q.L)),
 c 1 λ g0=>.dict 2 (.str (q.s 0) (q.u 0)) [rA (g0.n 0+0)] (q.e 0) (some (q.c 50)) (ae (C0 P).set1 (q.s 0)) (rA (q.a 6)),
 c 1 λ g0=>.dict 0 (.str (q.s 0) (q.u 0)) [] (q.e 0) (some (q.c 50)) (ae (C0 P).set1 (q.s 0)) (rA (q.a 6))],
 λ b t=>ap 1 λ g0=>⟨[g0.n 0+1,g0.n 1+8,b+3,b+2],q.L,[],[],#[]⟩,ax 12 151 5755352234906891735865888425297483659312417911660477504580342831291617906661188230575382367711930531706779503951683724253594758370973533593214783561072896796461977,[0,1,2,3,4,5,6,7,8,12,11],3⟩
def fn.sat(w:World)(G:Shared)(q:Pr)(x:AV):= @RD.sat w G (fn.D w.2 q x) (by cases x<;>walk_at "R")
def ww.D(P:Params)(q:Pr)(x:AV)(A:AA):RD:=⟨[(q.j 0,q.a 0+822,gf (q.a 1+822)),
 (q.j 1,q.a 1+822,gk P q.u 0 (q.S.a 0+822) (q.a 3+822) (q.a 4+822) (q.a 2+822)),
 (q.j 2,q.a 2+822,aO (q.en 1) (q.ar 0)),
 (q.j 3,q.S.a 0+822,oW q.S.a),
 (q.j 4,q.S.a 1+822,bm P q.S.a q.S.u),
 (q.j 5,q.a 5+822,iu (q.s 0) (q.u 9) (q.u 10) (q.a 6+822)),
 (q.j 6,q.a 6+822,lO 0 [])],
 λ i=>⟨au 666 [rA (q.a 5),rA (q.a 0)],23,i,q.L,λ g=>A 99 [g],
 λ g=>⟨.ok (.ret x.v),bg i [(2,aO (g.n 2) ⟨g.vl 0⟩)],
  [],g.l⟩⟩,
 λ i b t=>[c 0 (.full (aj (au 720 [rA (q.a 0),.str (q.s 0) (q.u 10),rA (b+14)]) 20 i [.k 0,.k 1,.k 2,.k 3,.k 4,.o 21 ((b+14)+822) (lO 0 [])] q.L (λ g0=>A 0 [g0]) λ g0=>(.ok (.ret x.v),[(2,aO (g0.n 2) ⟨g0.vl 0⟩)],[],g0.l)))],
 λ b t=>ap 1 λ g0=>⟨[g0.n 0+4,g0.n 1+6,g0.n 2],g0.l,[],g0.vl 0,#[]⟩,ax 28 271 151109580913383551515808639425317110244480754271375484055032608418886330502654336296498521042512624121430785022229532568993712981412924985985617029589190478633660208166332768213963801019953900732487631120266883239963688164268105159834475110474702862513142258017858808544744957273330118850225211261693702997529857714425613390317943471515976803673818325055668190829231363489895908352468035522401,[0,1,2,3,4,5,6],1⟩
def ww.sat(w:World)(G:Shared)(q:Pr)(x:AV)(A:AA):= @RD.sat w G (ww.D w.2 q x A) (by cases x<;>walk_at "R")
def wo.D(P:Params)(q:Pr)(x:AV)(A:AA):RD:=⟨[(q.j 0,q.a 0+822,gf (q.a 1+822)),
 (q.j 1,q.a 1+822,gk P q.u 0 (q.S.a 0+822) (q.a 3+822) (q.a 4+822) (q.a 2+822)),
 (q.j 2,q.a 2+822,aO (q.en 1) (q.ar 0)),
 (q.j 3,q.S.a 0+822,oW q.S.a),
 (q.j 4,q.S.a 1+822,bm P q.S.a q.S.u)],
 λ i=>⟨au 687 [rA (q.a 0),rA (q.a 5)],31,i,q.L,λ g=>A 99 [g],
 λ g=>⟨.ok (.ret x.v),bg i [(2,aO (g.n 2) ⟨g.vl 0⟩)],
  [],g.l⟩⟩,
 λ i b t=>[c 0 (.full (aj (au 666 [rA (q.a 5),rA (q.a 0)]) 30 i [.k 0,.k 1,.k 2,.k 3,.k 4] q.L (λ g0=>A 0 [g0]) λ g0=>(.ok (.ret x.v),[(2,aO (g0.n 2) ⟨g0.vl 0⟩)],[],g0.l)))],
 λ b t=>ap 1 λ g0=>⟨[g0.n 0+0,g0.n 1+0,g0.n 2],g0.l,[],g0.vl 0,#[]⟩,ax 7 12 10491131078,[0,1,2,3,4],1⟩
def wo.sat(w:World)(G:Shared)(q:Pr)(x:AV)(A:AA):= @RD.sat w G (wo.D w.2 q x A) (by cases x<;>walk_at "R")
def wh.D(P:Params)(q:Pr)(x:AV)(A:AA):RD:=⟨[(q.j 0,q.a 0+822,gf (q.a 1+822)),
 (q.j 1,q.a 1+822,gk P q.u 0 (q.S.a 0+822) (q.a 3+822) (q.a 4+822) (q.a 2+822)),
 (q.j 2,q.a 2+822,aO (q.en 1) (q.ar 0)),
 (q.j 3,q.S.a 0+822,oW q.S.a),
 (q.j 4,q.S.a 1+822,bm P q.S.a q.S.u)],
 λ i=>⟨au 694 [rA (q.a 0),rA (q.a 5)],31,i,q.L,λ g=>A 99 [g],
 λ g=>⟨.ok (.ret (.int (q.m 0) (g.n 3))),bg i [(2,aO (g.n 2) ⟨g.vl 0⟩)],
  [],g.l⟩⟩,
 λ i b t=>[c 0 (.full (aj (au 666 [rA (q.a 5),rA (q.a 0)]) 30 i [.k 0,.k 1,.k 2,.k 3,.k 4] q.L (λ g0=>A 0 [g0]) λ g0=>(.ok (.ret x.v),[(2,aO (g0.n 2) ⟨g0.vl 0⟩)],[],g0.l))),
 c 1 λ g0=>.full (aj (au 128 [x.v,.int 16 (q.u 4)]) 12 i [] g0.l (λ g1=>A 1 [g0,g1]) λ g1=>(.ok (.ret (.int (q.m 0) (g1.n 2))),[],[],g0.l))],
 λ b t=>ap 2 λ g0 g1=>⟨[g1.n 0+0,g1.n 1+0,g0.n 2,g1.n 2],g0.l,[],g0.vl 0,#[]⟩,ax 7 29 2434070824888231551731577,[0,1,2,3,4],2⟩
def wh.sat(w:World)(G:Shared)(q:Pr)(x:AV)(A:AA):= @RD.sat w G (wh.D w.2 q x A) (by cases x<;>walk_at "R")
def Do.D(P:Params)(q:Pr)(x:AV)(A:AA):RD:=⟨[(q.j 0,q.a 0+822,gf (q.a 1+822)),
 (q.j 1,q.a 1+822,gk P q.u 0 (q.S.a 0+822) (q.a 3+822) (q.a 4+822) (q.a 2+822)),
 (q.j 2,q.a 2+822,aO (q.en 1) (q.ar 0)),
 (q.j 3,q.S.a 0+822,oW q.S.a),
 (q.j 4,q.S.a 1+822,bm P q.S.a q.S.u)],
 λ i=>⟨au 694 [rA (q.a 0),rA (q.a 5)],31,i,q.L,λ g=>A 99 [g],
 λ g=>⟨.error (rA (g.n 7)),bg i [(2,aO (g.n 2) ⟨g.vl 0⟩)],
  dN P (q.s 1) g,g.l⟩⟩,
 λ i b t=>[c 0 (.full (aj (au 666 [rA (q.a 5),rA (q.a 0)]) 30 i [.k 0,.k 1,.k 2,.k 3,.k 4] q.L (λ g0=>A 0 [g0]) λ g0=>(.ok (.ret x.v),[(2,aO (g0.n 2) ⟨g0.vl 0⟩)],[],g0.l))),
 c 1 λ g0=>.full (aj (au 128 [x.v,.int 16 (q.u 4)]) 12 i [] g0.l (λ g1=>A 1 [g0,g1]) λ g1=>(.error (rA (g1.n 7)),[],dN P (q.s 1) g1,g0.l)),
 none],
 λ b t=>ap 3 λ g0 g1 g2=>⟨[g1.n 0+1,g1.n 1+0,g0.n 2,g1.n 3,(b+0)+822,g1.n 0+0,g1.n 6,g1.n 7,g1.n 8,g1.n 9,g1.n 10],g0.l,(.ref (g1.n 5+822))::g2.vl 0,g0.vl 0,#[]⟩,ax 9 33 20487084187606896209661569723932,[0,1,2,3,4,6,7,9],3⟩
def Do.sat(w:World)(G:Shared)(q:Pr)(x:AV)(A:AA):= @RD.sat w G (Do.D w.2 q x A) (by cases x<;>walk_at "R")
def Dp.D(P:Params)(q:Pr):RD:=⟨[],
 λ i=>⟨au 128 [.int (q.m 0) (q.u 0),.int 16 (q.u 1)],2,i,q.L,λ _=>True,
 λ g=>⟨.ok (.ret (.int (q.m 0) (q.u 0))),bg i [],
  [],q.L⟩⟩,
 λ i b t=>[c 0 (.pure (aX "int.__le__" (-32768) (q.m 0) (t+11) (q.u 0) true)),
 c 0 (.pure (aX "int.__lt__" (q.m 0) 32768 (q.u 0) (t+15) true))],
 λ b t=>ap 0 (⟨[b+2,t+16],q.L,[],[],#[]⟩),ax 3 46 5029337558483152625200,[],2⟩
theorem Dp.sat(w:World)(G:Shared)(q:Pr)(q0: -32768<=q.m 0/\q.m 0<32768):ai w G (Dp.D w.2 q).Z:=RD.sat (by walk_at "R") (λ b t=>
 ⟨gY (jD (by omega)),
 ⟨eV (jD (by omega)),
 λ _ _=>trivial⟩⟩)
def Cq.D(P:Params)(q:Pr)(m0:Int):RD:=⟨[(q.j 0,q.a 0+822,tO [.int m0 (q.u 1),.int 0 (q.u 2)])],
 λ i=>⟨au 128 [rA (q.a 0),.int 16 (q.u 0)],2,i,q.L,λ _=>True,
 λ g=>⟨.ok (.ret (.int (m0*1) (g.n 2))),bg i [],
  [],q.L⟩⟩,
 λ i b t=>[c 0 (.pure (aX "int.__le__" (-32768) (m0*1) (t+17) (t+9) true)),
 c 0 (.pure (aX "int.__lt__" (m0*1) 32768 (t+9) (t+21) true))],
 λ b t=>ap 0 (⟨[b+6,t+22,t+9],q.L,[],[],#[]⟩),ax 8 100 573373868557825236595625316757638074167967386065333811153129894073714297574564758514836625,[0],2⟩
theorem Cq.sat(w:World)(G:Shared)(q:Pr)(m0:Int)(q0:0<=m0/\m0<=9):ai w G (Cq.D w.2 q m0).Z:=RD.sat (by rcases Ee q0 with rfl |rfl |rfl |rfl |rfl |rfl |rfl |rfl |rfl |rfl<;>walk_at "R") (λ b t=>
 ⟨gY (jD (by omega)),
 ⟨eV (jD (by omega)),
 λ _ _=>trivial⟩⟩)
def Dr.D(P:Params)(q:Pr):RD:=⟨[],
 λ i=>⟨au 128 [.str ⟨⟨[113]⟩⟩ (q.u 0),.int 16 (q.u 1)],2,i,q.L,λ _=>True,
 λ g=>⟨.error (rA (g.n 2)),bg i [],
  [(g.n 2+822,⟨.ref 41,some (g.n 3+822),.fields ⟨[rA (g.n 6),rA (g.n 4),.none,.none,.bool false,.none]⟩,⟨[]⟩⟩),
  (g.n 3+822,dO 2 [kS P aF (g.n 7) (.str b9 (g.n 8)),kS P eP (g.n 9) (.str aa 212)]),
  (g.n 4+822,dJ (g.v 0) (g.n 5) .none (g.vl 0))],q.L⟩⟩,
 λ i b t=>[none],
 λ b t=>ap 1 λ g0=>⟨[b+9,t+11,b+2,b+7,b+8,(b+0)+822,b+6,t+8,t+2,t+10],q.L,[.none],g0.vl 0,#[]⟩,ax 9 155 214422828616832365494229710901637231342661998791690581821077505340968887616837331512094059795181421870759831905151408608733132835550107176493527102,[2,7,8],1⟩
theorem Dr.sat(w:World)(G:Shared)(q:Pr):ai w G (Dr.D w.2 q).Z:=RD.sat (by walk_at "R") (λ b t=>
 λ g0=>
 λ _ _=>trivial)
def Cr.D(P:Params)(q:Pr):RD:=⟨[(q.j 0,q.a 0+822,tO [.int 4 (q.u 1),.int 4 (q.u 2)])],
 λ i=>⟨au 128 [rA (q.a 0),.int 16 (q.u 0)],2,i,q.L,λ _=>True,
 λ g=>⟨.error (rA (g.n 2)),bg i [],
  [(g.n 2+822,⟨.ref 41,some (g.n 3+822),.fields ⟨[rA (g.n 6),rA (g.n 4),.none,.none,.bool false,.none]⟩,⟨[]⟩⟩),
  (g.n 3+822,dO 2 [kS P aF (g.n 7) (.str gv (g.n 8)),kS P eP (g.n 9) (.str aa 212)]),
  (g.n 4+822,dJ (g.v 0) (g.n 5) .none (g.vl 0))],q.L⟩⟩,
 λ i b t=>[none],
 λ b t=>ap 1 λ g0=>⟨[b+14,t+31,b+7,b+12,b+13,(b+0)+822,b+11,t+28,t+22,t+30],q.L,[.none],g0.vl 0,#[]⟩,ax 15 242 42232135057676195570070164895333810946981530486494092079515019320067453493392586918067417213115178191273213994471410459722992933501958617679106673352040399321974834195950703609250333024856762281074881592029972229195990728304353762894308100903941192823317298289820958568414258299717856,[0,8,13,14],1⟩
theorem Cr.sat(w:World)(G:Shared)(q:Pr):ai w G (Cr.D w.2 q).Z:=RD.sat (by walk_at "R") (λ b t=>
 λ g0=>
 λ _ _=>trivial)
def Ds.D(P:Params)(q:Pr):RD:=⟨[],
 λ i=>⟨au 142 [.int 5 (q.u 0)],2,i,q.L,λ _=>True,
 λ g=>⟨.error (rA (g.n 2)),bg i [],
  [(g.n 2+822,⟨.ref 41,some (g.n 3+822),.fields ⟨[rA (g.n 6),rA (g.n 4),.none,.none,.bool false,.none]⟩,⟨[]⟩⟩),
  (g.n 3+822,dO 2 [kS P aF (g.n 7) (.str b9 (g.n 8)),kS P eP (g.n 9) (.str aa 212)]),
  (g.n 4+822,dJ (g.v 0) (g.n 5) .none (g.vl 0))],q.L⟩⟩,
 λ i b t=>[none],
 λ b t=>ap 1 λ g0=>⟨[b+9,t+11,b+2,b+7,b+8,(b+0)+822,b+6,t+8,t+2,t+10],q.L,[.none],g0.vl 0,#[]⟩,ax 9 155 214422828616832365494229710901637231342661998791690581821077505340968887616837331512094059795181421870759831905151408608733132835550107176451004532,[2,7,8],1⟩
theorem Ds.sat(w:World)(G:Shared)(q:Pr):ai w G (Ds.D w.2 q).Z:=RD.sat (by walk_at "R") (λ b t=>
 λ g0=>
 λ _ _=>trivial)
def Cs.D(P:Params)(q:Pr):RD:=⟨[(q.j 0,q.a 0+822,tO [.int 25 (q.u 0),.int 0 (q.u 1)])],
 λ i=>⟨au 142 [rA (q.a 0)],2,i,q.L,λ _=>True,
 λ g=>⟨.error (rA (g.n 2)),bg i [],
  [(g.n 2+822,⟨.ref 41,some (g.n 3+822),.fields ⟨[rA (g.n 6),rA (g.n 4),.none,.none,.bool false,.none]⟩,⟨[]⟩⟩),
  (g.n 3+822,dO 2 [kS P aF (g.n 7) (.str b9 (g.n 8)),kS P eP (g.n 9) (.str aa 212)]),
  (g.n 4+822,dJ (g.v 0) (g.n 5) .none (g.vl 0))],q.L⟩⟩,
 λ i b t=>[none],
 λ b t=>ap 1 λ g0=>⟨[b+9,t+11,b+2,b+7,b+8,(b+0)+822,b+6,t+8,t+2,t+10],q.L,[.none],g0.vl 0,#[]⟩,ax 10 162 131404404499904000404040000455999404000404040000455444047075040006666066666666044060660000520000005555550100004040000000000000000000000000000001101101110002000221,[0,3,8,9],1⟩
theorem Cs.sat(w:World)(G:Shared)(q:Pr):ai w G (Cs.D w.2 q).Z:=RD.sat (by walk_at "R") (λ b t=>
 λ g0=>
 λ _ _=>trivial)
def D4.D(P:Params)(q:Pr):RD:=⟨[],
 λ i=>⟨au 142 [.str (q.s 0) (q.u 0)],1,i,q.L,λ _=>True,
 λ g=>⟨.ok (.ret (.str (q.s 0) (q.u 0))),bg i [],
  [],q.L⟩⟩,
 λ i b t=>[],
 λ b t=>ap 0 (⟨[b+1,t+1],q.L,[],[],#[]⟩),ax 2 11 1095,[],0⟩
theorem D4.sat(w:World)(G:Shared)(q:Pr):ai w G (D4.D w.2 q).Z:=RD.sat (by walk_at "R") (λ b t=>
 λ _ _=>trivial)
def kind.D(P:Params)(q:Pr)(x:T3):RD:=⟨[(q.j 0,q.S.a 0+822,oW q.S.a),
 (q.j 1,q.S.a 1+822,bm P q.S.a q.S.u)],
 λ i=>⟨au 300 [rA (q.S.a 0),.str (x.p ad av bb) (q.u 0)],1,i,q.L,λ _=>True,
 λ g=>⟨.ok (.ret (.str ⟨⟨[116,101,120,116]⟩⟩ (g.n 2))),bg i [],
  [],q.L⟩⟩,
 λ i b t=>[],
 λ b t=>ap 0 (⟨[b+2,t+13,t+12],q.L,[],[],#[]⟩),ax 5 40 1804456271221833039554142966,[0,1],0⟩
theorem kind.sat(w:World)(G:Shared)(q:Pr)(x:T3):ai w G (kind.D w.2 q x).Z:=RD.sat (by cases x<;>walk_at "R") (λ b t=>
 λ _ _=>trivial)
def yd.D(P:Params)(q:Pr):RD:=⟨[(q.j 0,q.S.a 0+822,oW q.S.a),
 (q.j 1,q.S.a 1+822,bm P q.S.a q.S.u),
 (q.j 2,q.S.a 2+822,oD q.S.nm q.S.nmn)],
 λ i=>⟨au 307 [rA (q.S.a 0),.str ad (q.u 0)],1,i,q.L,λ _=>True,
 λ g=>⟨.ok (.ret (.str aa (g.n 2))),bg i [],
  [],q.L⟩⟩,
 λ i b t=>[c 0 (.dict 1 (.str ad (q.u 0)) [] q.S.nm none (ae (C0 P).set1 ad) (.bool false))],
 λ b t=>ap 0 (⟨[b+4,t+20,t+19],q.L,[],[],#[]⟩),ax 8 77 384087267711476181917527574355409719470249812682516453709761037224225,[0,1,2],1⟩
def yd.sat(w:World)(G:Shared)(q:Pr):= @RD.sat w G (yd.D w.2 q) (by walk_at "R")
def ye.D(P:Params)(q:Pr):RD:=⟨[(q.j 0,q.S.a 0+822,oW q.S.a),
 (q.j 1,q.S.a 1+822,bm P q.S.a q.S.u),
 (q.j 2,q.S.a 2+822,oD q.S.nm q.S.nmn)],
 λ i=>⟨au 307 [rA (q.S.a 0),.str ad (q.u 0)],1,i,q.L,λ _=>True,
 λ g=>⟨.ok (.ret (.str aa (q.c 90))),bg i [],
  [],q.L⟩⟩,
 λ i b t=>[c 0 (.dict 1 (.str ad (q.u 0)) [] q.S.nm (some 0) (ae (C0 P).set1 ad) (.bool true)),
 c 0 (.dict 0 (.str ad (q.u 0)) [] q.S.nm (some 0) (ae (C0 P).set1 ad) (.str aa (q.c 90)))],
 λ b t=>ap 0 (⟨[b+1,t+6],q.L,[],[],#[]⟩),ax 7 45 32601331423330446229238298487696240205,[0,1,2],2⟩
def ye.sat(w:World)(G:Shared)(q:Pr):= @RD.sat w G (ye.D w.2 q) (by walk_at "R")
def pl.D(P:Params)(q:Pr)(x:T3):RD:=⟨[],
 λ i=>⟨au 243 [.str (x.p gw aa cy) (q.u 0),.int 0 (q.u 1),.bool false],1,i,q.L,λ _=>True,
 λ g=>⟨.ok (.ret (.str aa (g.n 2))),bg i [],
  [],q.L⟩⟩,
 λ i b t=>[],
 λ b t=>ap 0 (⟨[b+2,t+x.p 11 10 11,t+x.p 9 8 9],q.L,[],[],#[]⟩),ax 3 32 307569452747098,[],0⟩
theorem pl.sat(w:World)(G:Shared)(q:Pr)(x:T3):ai w G (pl.D w.2 q x).Z:=RD.sat (by cases x<;>walk_at "R") (λ b t=>
 λ _ _=>trivial)
def B3.D(P:Params)(q:Pr)(x:T6):RD:=⟨[(q.j 0,q.S.a 13+822,hC P q.S.a q.S.u q.S.cnt q.S.ct),
 (q.j 1,q.S.a 14+822,oL q.S.cells)],
 λ i=>⟨au 790 [rA (q.S.a 13),.int (x.p 2 3 4 5 6 8) (q.u 0)],2,i,q.L,λ _=>True,
 λ g=>⟨.ok (.ret (.int (Int.fmod ((Int.natAbs (q.m 0):Nat):Int) (x.p 2 3 4 5 6 8)) (g.n 2))),bg i [(0,hC P q.S.a q.S.u (q.S.cnt+1) (g.n 3))],
  [],q.L⟩⟩,
 λ i b t=>[c 0 (.full (xy (q.S.a 14+822) 1 q.S.cells q.L)),
 c 1 λ g0=>.pure (aX "int.__le__" (q.S.cnt+1) (Int.ofNat q.S.cells.length) (t+5) (g0.n 2) true),
 c 1 λ g0=>.full (DK (q.S.a 14+822) 1 q.S.cells ((q.S.cnt+1)-1) (g0.n 1+3) (.int (q.m 0) (q.c 90)) q.L),
 c 2 λ g0 g1=>.full (Bb (q.m 0) (q.c 90) q.L)],
 λ b t=>ap 3 λ g0 g1 g2=>⟨[g2.n 0+0,g2.n 1+1,g2.n 1+0,t+5],q.L,[],[],#[]⟩,ax 4 60 304612335909292339150229030923236349,[0,1],4⟩
theorem B3.sat(w:World)(G:Shared)(q:Pr)(x:T6)(c0:0<=q.S.cnt)(c1:q.S.cnt<1000)(cs:Int.ofNat q.S.cells.length<1000)(cl:q.S.cnt+1<=Int.ofNat q.S.cells.length)(hx:q.S.cells[(q.S.cnt+1-1).toNat]? =some (.int (q.m 0) (q.c 90))):ai w G (B3.D w.2 q x).Z:=RD.sat (by cases x<;>walk_at "R") (λ b t=>
 ⟨kZ (by omega),λ g0 a0=>
 ⟨gY (jD (by omega)),
 ⟨xx (by omega) (by omega) (by assumption),λ g1 a1=>
 ⟨vA,λ g2 a2=>
 λ _ _=>trivial⟩⟩⟩⟩)
def B4.D(P:Params)(q:Pr)(x:T6):RD:=⟨[(q.j 0,q.S.a 13+822,hC P q.S.a q.S.u q.S.cnt q.S.ct),
 (q.j 1,q.S.a 14+822,oL q.S.cells)],
 λ i=>⟨au 790 [rA (q.S.a 13),.int (x.p 2 3 4 5 6 8) (q.u 0)],2,i,q.L,λ _=>True,
 λ g=>⟨.ok (.ret (.int (Int.fmod (((3* (q.S.cnt+1))+Int.fdiv (q.S.cnt+1) 3)+3) (x.p 2 3 4 5 6 8)) (g.n 2))),bg i [(0,hC P q.S.a q.S.u (q.S.cnt+1) (g.n 3))],
  [],q.L⟩⟩,
 λ i b t=>[c 0 (.full (xy (q.S.a 14+822) 1 q.S.cells q.L)),
 c 1 λ g0=>.pure (aX "int.__le__" (q.S.cnt+1) (Int.ofNat q.S.cells.length) (t+5) (g0.n 2) false)],
 λ b t=>ap 1 λ g0=>⟨[g0.n 0+0,g0.n 1+8,g0.n 1+7,t+5],q.L,[],[],#[]⟩,ax 4 48 14917730031612908391675819005,[0,1],2⟩
theorem B4.sat(w:World)(G:Shared)(q:Pr)(x:T6)(c0:0<=q.S.cnt)(c1:q.S.cnt<1000)(cs:Int.ofNat q.S.cells.length<1000)(cl:¬q.S.cnt+1<=Int.ofNat q.S.cells.length):ai w G (B4.D w.2 q x).Z:=RD.sat (by cases x<;>walk_at "R") (λ b t=>
 ⟨kZ (by omega),λ g0 a0=>
 ⟨gY (lL (by omega)),
 λ _ _=>trivial⟩⟩)
def jx.D(P:Params)(q:Pr)(x:T3)(A:AA):RD:=⟨[],
 λ i=>⟨au 802 [rA (q.S.a 13),.int (q.m 9) (q.u 0)],13,i,q.L,λ g=>A 99 [g],
 λ g=>⟨.ok (.ret (rA (g.n 2))),bg i [],
  [(g.n 2+822,tO [rA (g.n 4),rA (g.n 3)]),
  (g.n 3+822,lO 0 [.str ⟨⟨[70,q.c 0]⟩⟩ (g.n 9),.int (q.m 9+1) (g.n 10)]),
  (g.n 4+822,tO [.str bv (g.n 11),.str (x.p fJ fK ff) (g.n 12),rA (g.n 5),rA (g.n 7),.none]),
  (g.n 5+822,iu bH (g.n 13) (g.n 14) (g.n 6+822)),
  (g.n 6+822,lO 0 []),
  (g.n 7+822,iu bq (g.n 15) (g.n 16) (g.n 8+822)),
  (g.n 8+822,lO 0 [])],g.l⟩⟩,
 λ i b t=>[c 0 (.full (aj (au 790 [rA (q.S.a 13),.int 6 (t+1)]) 12 i [] q.L (λ g0=>A 0 [g0]) λ g0=>(.ok (.ret (.int 0 (g0.n 2))),[],[],g0.l))),
 none,
 c 2 λ g0 g1=>.full (aj (au 790 [rA (q.S.a 13),.int 3 (g0.n 1+15)]) 12 i [] g0.l (λ g2=>A 2 [g0,g1,g2]) λ g2=>(.ok (.ret (.int (x.p 0 1 2) (g2.n 2))),[],[],g2.l)),
 c 3 λ g0 g1 g2=>.full (aj (au 790 [rA (q.S.a 13),.int 4 (g2.n 1+4)]) 12 i [] g2.l (λ g3=>A 3 [g0,g1,g2,g3]) λ g3=>(.ok (.ret (.int 0 (g3.n 2))),[],[],g3.l)),
 c 4 λ g0 g1 g2 g3=>.full (aj (.call (.type "str") ⟨[.int (q.m 9) (q.u 0)],[]⟩) 12 i [] g3.l (λ g4=>A 4 [g0,g1,g2,g3,g4]) λ g4=>(.ok (.ret (.str ⟨⟨[q.c 0]⟩⟩ (g4.n 2))),[],[],g3.l))],
 λ b t=>ap 5 λ g0 g1 g2 g3 g4=>⟨[g4.n 0+5,g4.n 1+7,g4.n 0+4,g4.n 0+2,g4.n 0+3,g0.n 0+7,g0.n 0+6,g0.n 0+5,g0.n 0+4,g4.n 1+0,g4.n 1+2,g4.n 1+4,g2.n 1+0,g0.n 1+7,g0.n 1+1,g0.n 1+5,g0.n 1+0],g3.l,[],[],#[]⟩,ax 30 223 8680083215921688100697808179964842077721115662106459255802549010137544192389860440428222684412802918239731858957865219901074929549217408527833368000072792167567036236047891336488521086121415081377645604675059728346830418834722948147176270181873457043987513805156818787154314184001285886313987938385534235080103172317909740838861,[31,29,30,11,10,9,8],5⟩
def jx.sat(w:World)(G:Shared)(q:Pr)(x:T3)(A:AA):= @RD.sat w G (jx.D w.2 q x A) (by cases x<;>walk_at "R")
def wP.D(P:Params)(q:Pr)(x y:T3)(A:AA):RD:=⟨[],
 λ i=>⟨au 802 [rA (q.S.a 13),.int (q.m 9) (q.u 0)],13,i,q.L,λ g=>A 99 [g],
 λ g=>⟨.ok (.ret (rA (g.n 2))),bg i [],
  [(g.n 2+822,tO [rA (g.n 4),rA (g.n 3)]),
  (g.n 3+822,lO 0 [.str ⟨⟨[70,q.c 0]⟩⟩ (g.n 11),.int (q.m 9+1) (g.n 12),.int (y.p 3 4 5) (g.n 13)]),
  (g.n 4+822,tO [.str bv (g.n 14),.str (x.p fJ fK ff) (g.n 15),rA (g.n 5),rA (g.n 7),rA (g.n 9)]),
  (g.n 5+822,iu bH (g.n 16) (g.n 17) (g.n 6+822)),
  (g.n 6+822,lO 0 []),
  (g.n 7+822,iu bq (g.n 18) (g.n 19) (g.n 8+822)),
  (g.n 8+822,lO 0 []),
  (g.n 9+822,iu ca (g.n 20) (g.n 21) (g.n 10+822)),
  (g.n 10+822,lO 0 [])],g.l⟩⟩,
 λ i b t=>[c 0 (.full (aj (au 790 [rA (q.S.a 13),.int 6 (t+1)]) 12 i [] q.L (λ g0=>A 0 [g0]) λ g0=>(.ok (.ret (.int 0 (g0.n 2))),[],[],g0.l))),
 none,
 c 2 λ g0 g1=>.full (aj (au 790 [rA (q.S.a 13),.int 3 (g0.n 1+15)]) 12 i [] g0.l (λ g2=>A 2 [g0,g1,g2]) λ g2=>(.ok (.ret (.int (x.p 0 1 2) (g2.n 2))),[],[],g2.l)),
 c 3 λ g0 g1 g2=>.full (aj (au 790 [rA (q.S.a 13),.int 4 (g2.n 1+4)]) 12 i [] g2.l (λ g3=>A 3 [g0,g1,g2,g3]) λ g3=>(.ok (.ret (.int (y.p 1 2 3) (g3.n 2))),[],[],g3.l)),
 c 4 λ g0 g1 g2 g3=>.full (aj (.call (.type "str") ⟨[.int (q.m 9) (q.u 0)],[]⟩) 12 i [] g3.l (λ g4=>A 4 [g0,g1,g2,g3,g4]) λ g4=>(.ok (.ret (.str ⟨⟨[q.c 0]⟩⟩ (g4.n 2))),[],[],g3.l))],
 λ b t=>ap 5 λ g0 g1 g2 g3 g4=>⟨[g4.n 0+5,g4.n 1+8,g4.n 0+4,g4.n 0+2,g4.n 0+3,g0.n 0+7,g0.n 0+6,g0.n 0+5,g0.n 0+4,g0.n 0+9,g0.n 0+8,g4.n 1+0,g4.n 1+2,g2.n 1+y.p 1 2 3,g4.n 1+4,g2.n 1+0,g0.n 1+7,g0.n 1+1,g0.n 1+5,g0.n 1+0,g0.n 1+9,g0.n 1+2],g3.l,[],[],#[]⟩,ax 30 231 6787383329448551516753985324169204918355479263209190821610964284182052597033647426397864754305144398159712995129339511303992728517331770861755247408527833368000072792167567036236047891336488521086121415081377645604675059728346830418834722948147176270181873457043987513805156818787154314184001285886313987938385534235080103172317909740838861,[31,29,30,11,10,9,8,13,12],5⟩
def wP.sat(w:World)(G:Shared)(q:Pr)(x y:T3)(A:AA):= @RD.sat w G (wP.D w.2 q x y A) (by cases x<;>cases y<;>walk_at "R")
def oO.D(P:Params)(q:Pr)(A:AA):RD:=⟨[],
 λ i=>⟨au 802 [rA (q.S.a 13),.int (q.m 9) (q.u 0)],14,i,q.L,λ g=>A 99 [g],
 λ g=>⟨.ok (.ret (rA (g.n 2))),bg i [],
  [(g.n 2+822,tO [rA (g.n 4),rA (g.n 3)]),
  (g.n 3+822,lO 0 [.int 9 (g.n 11),.int (q.m 0) (g.n 12)]),
  (g.n 4+822,tO [.str aL (g.n 13),rA (g.n 5),rA (g.n 7)]),
  (g.n 5+822,iu bq (g.n 14) (g.n 15) (g.n 6+822)),
  (g.n 6+822,lO 0 []),
  (g.n 7+822,lO 1 [rA (g.n 8)]),
  (g.n 8+822,tO [rA (g.n 9),.str ad (g.n 16)]),
  (g.n 9+822,iu bH (g.n 17) (g.n 18) (g.n 10+822)),
  (g.n 10+822,lO 0 [])],g.l⟩⟩,
 λ i b t=>[c 0 (.full (aj (au 790 [rA (q.S.a 13),.int 6 (t+1)]) 12 i [] q.L (λ g0=>A 0 [g0]) λ g0=>(.ok (.ret (.int 1 (g0.n 2))),[],[],g0.l))),
 none,
 c 2 λ g0 g1=>.full (aj (au 790 [rA (q.S.a 13),.int 3 (g0.n 1+16)]) 12 i [] g0.l (λ g2=>A 2 [g0,g1,g2]) λ g2=>(.ok (.ret (.int 0 (g2.n 2))),[],[],g2.l)),
 none,
 c 4 λ g0 g1 g2 g3=>.full (aj (au 790 [rA (q.S.a 13),.int 3 (g2.n 1+5)]) 12 i [] g2.l (λ g4=>A 4 [g0,g1,g2,g3,g4]) λ g4=>(.ok (.ret (.int (q.m 0) (g4.n 2))),[],[],g4.l)),
 none],
 λ b t=>ap 6 λ g0 g1 g2 g3 g4 g5=>⟨[g4.n 0+14,g4.n 1+15,g4.n 0+13,g4.n 0+12,g4.n 0+10,g0.n 0+5,g0.n 0+4,g4.n 0+5,g4.n 0+7,g0.n 0+7,g0.n 0+6,g4.n 1+14,g4.n 2,g4.n 1+4,g0.n 1+5,g0.n 1+0,g4.n 1+1,g0.n 1+7,g0.n 1+1],g4.l,[],[],#[]⟩,ax 39 287 2879439072149855525196201512567866806344326320364179888150256692451900159119066402016412052620734330628539242267489962281611471333411146777482547649487495257568580904454272547162337377750366519940356345648589070154240461280839846469741983772547858416077552832577205961838310243989949670157860936115315995277417512446239761880645737183546217589149335275181707516156516934714654741783838441664468186475939981347981784653825864133702357810129211672029527766315,[39,38,36,9,8,31,33,11,10],6⟩
def oO.sat(w:World)(G:Shared)(q:Pr)(A:AA):= @RD.sat w G (oO.D w.2 q A) (by walk_at "R")
def oP.D(P:Params)(q:Pr)(A:AA):RD:=⟨[],
 λ i=>⟨au 802 [rA (q.S.a 13),.int (q.m 9) (q.u 0)],14,i,q.L,λ g=>A 99 [g],
 λ g=>⟨.ok (.ret (rA (g.n 2))),bg i [],
  [(g.n 2+822,tO [rA (g.n 4),rA (g.n 3)]),
  (g.n 3+822,lO 0 [.int 9 (g.n 14),.int (q.m 0) (g.n 15),.int (q.m 1) (g.n 16)]),
  (g.n 4+822,tO [.str aL (g.n 17),rA (g.n 5),rA (g.n 7)]),
  (g.n 5+822,iu bq (g.n 18) (g.n 19) (g.n 6+822)),
  (g.n 6+822,lO 0 []),
  (g.n 7+822,lO 2 [rA (g.n 8),rA (g.n 11)]),
  (g.n 8+822,tO [rA (g.n 9),.str ad (g.n 20)]),
  (g.n 9+822,iu bH (g.n 21) (g.n 22) (g.n 10+822)),
  (g.n 10+822,lO 0 []),
  (g.n 11+822,tO [rA (g.n 12),.str av (g.n 23)]),
  (g.n 12+822,iu ca (g.n 24) (g.n 25) (g.n 13+822)),
  (g.n 13+822,lO 0 [])],g.l⟩⟩,
 λ i b t=>[c 0 (.full (aj (au 790 [rA (q.S.a 13),.int 6 (t+1)]) 12 i [] q.L (λ g0=>A 0 [g0]) λ g0=>(.ok (.ret (.int 1 (g0.n 2))),[],[],g0.l))),
 none,
 c 2 λ g0 g1=>.full (aj (au 790 [rA (q.S.a 13),.int 3 (g0.n 1+16)]) 12 i [] g0.l (λ g2=>A 2 [g0,g1,g2]) λ g2=>(.ok (.ret (.int 1 (g2.n 2))),[],[],g2.l)),
 none,
 c 4 λ g0 g1 g2 g3=>.full (aj (au 790 [rA (q.S.a 13),.int 3 (g2.n 1+5)]) 12 i [] g2.l (λ g4=>A 4 [g0,g1,g2,g3,g4]) λ g4=>(.ok (.ret (.int (q.m 0) (g4.n 2))),[],[],g4.l)),
 c 5 λ g0 g1 g2 g3 g4=>.full (aj (au 790 [rA (q.S.a 13),.int 3 (g4.n 1+2)]) 12 i [] g4.l (λ g5=>A 5 [g0,g1,g2,g3,g4,g5]) λ g5=>(.ok (.ret (.int (q.m 1) (g5.n 2))),[],[],g5.l)),
 none],
 λ b t=>ap 7 λ g0 g1 g2 g3 g4 g5 g6=>⟨[g5.n 0+15,g5.n 1+19,g5.n 0+14,g5.n 0+13,g5.n 0+11,g0.n 0+5,g0.n 0+4,g5.n 0+5,g5.n 0+7,g0.n 0+7,g0.n 0+6,g5.n 0+8,g0.n 0+9,g0.n 0+8,g5.n 1+18,g4.n 2,g5.n 2,g5.n 1+4,g0.n 1+5,g0.n 1+0,g5.n 1+1,g0.n 1+7,g0.n 1+1,g5.n 1+2,g0.n 1+9,g0.n 1+2],g5.l,[],[],#[]⟩,ax 40 345 3337827810015299904796861737263032753684514055542937255982059882551232543558062947902657392767458703241877951261350901386604797571859435612137678327936823264002442559776806839501008544280004794185044739262488857613290468916294882674425734822794786836987238736654781222629943369174147211946109548117907854426715266455193889399536870095696805674728777397429773673598697224211102188600806872157688745330965510430585443906789168619338289377698232243637633467648175105467825645407755553037030101676835704948610831655695860784521628629621362655756615682627281,[40,39,37,9,8,31,33,11,10,34,13,12],7⟩
def oP.sat(w:World)(G:Shared)(q:Pr)(A:AA):= @RD.sat w G (oP.D w.2 q A) (by walk_at "R")
def oQ.D(P:Params)(q:Pr)(A:AA):RD:=⟨[],
 λ i=>⟨au 802 [rA (q.S.a 13),.int (q.m 9) (q.u 0)],14,i,q.L,λ g=>A 99 [g],
 λ g=>⟨.ok (.ret (rA (g.n 2))),bg i [],
  [(g.n 2+822,tO [rA (g.n 4),rA (g.n 3)]),
  (g.n 3+822,lO 0 [.int 9 (g.n 17),.int (q.m 0) (g.n 18),.int (q.m 1) (g.n 19),.int (q.m 2) (g.n 20)]),
  (g.n 4+822,tO [.str aL (g.n 21),rA (g.n 5),rA (g.n 7)]),
  (g.n 5+822,iu bq (g.n 22) (g.n 23) (g.n 6+822)),
  (g.n 6+822,lO 0 []),
  (g.n 7+822,lO 3 [rA (g.n 8),rA (g.n 11),rA (g.n 14)]),
  (g.n 8+822,tO [rA (g.n 9),.str ad (g.n 24)]),
  (g.n 9+822,iu bH (g.n 25) (g.n 26) (g.n 10+822)),
  (g.n 10+822,lO 0 []),
  (g.n 11+822,tO [rA (g.n 12),.str av (g.n 27)]),
  (g.n 12+822,iu ca (g.n 28) (g.n 29) (g.n 13+822)),
  (g.n 13+822,lO 0 []),
  (g.n 14+822,tO [rA (g.n 15),.str bb (g.n 30)]),
  (g.n 15+822,iu cG (g.n 31) (g.n 32) (g.n 16+822)),
  (g.n 16+822,lO 0 [])],g.l⟩⟩,
 λ i b t=>[c 0 (.full (aj (au 790 [rA (q.S.a 13),.int 6 (t+1)]) 12 i [] q.L (λ g0=>A 0 [g0]) λ g0=>(.ok (.ret (.int 1 (g0.n 2))),[],[],g0.l))),
 none,
 c 2 λ g0 g1=>.full (aj (au 790 [rA (q.S.a 13),.int 3 (g0.n 1+16)]) 12 i [] g0.l (λ g2=>A 2 [g0,g1,g2]) λ g2=>(.ok (.ret (.int 2 (g2.n 2))),[],[],g2.l)),
 none,
 c 4 λ g0 g1 g2 g3=>.full (aj (au 790 [rA (q.S.a 13),.int 3 (g2.n 1+5)]) 12 i [] g2.l (λ g4=>A 4 [g0,g1,g2,g3,g4]) λ g4=>(.ok (.ret (.int (q.m 0) (g4.n 2))),[],[],g4.l)),
 c 5 λ g0 g1 g2 g3 g4=>.full (aj (au 790 [rA (q.S.a 13),.int 3 (g4.n 1+2)]) 12 i [] g4.l (λ g5=>A 5 [g0,g1,g2,g3,g4,g5]) λ g5=>(.ok (.ret (.int (q.m 1) (g5.n 2))),[],[],g5.l)),
 c 6 λ g0 g1 g2 g3 g4 g5=>.full (aj (au 790 [rA (q.S.a 13),.int 3 (g5.n 1+2)]) 12 i [] g5.l (λ g6=>A 6 [g0,g1,g2,g3,g4,g5,g6]) λ g6=>(.ok (.ret (.int (q.m 2) (g6.n 2))),[],[],g6.l)),
 none],
 λ b t=>ap 8 λ g0 g1 g2 g3 g4 g5 g6 g7=>⟨[g6.n 0+16,g6.n 1+23,g6.n 0+15,g6.n 0+14,g6.n 0+12,g0.n 0+5,g0.n 0+4,g6.n 0+5,g6.n 0+7,g0.n 0+7,g0.n 0+6,g6.n 0+8,g0.n 0+9,g0.n 0+8,g6.n 0+9,g0.n 0+11,g0.n 0+10,g6.n 1+22,g4.n 2,g5.n 2,g6.n 2,g6.n 1+4,g0.n 1+5,g0.n 1+0,g6.n 1+1,g0.n 1+7,g0.n 1+1,g6.n 1+2,g0.n 1+9,g0.n 1+2,g6.n 1+3,g0.n 1+11,g0.n 1+3],g6.l,[],[],#[]⟩,ax 41 403 56745893190044298691685857939732082052398231806080796086116581646471345934368310782731198923699755779077049495408072180466332538558371315287427010353178649815023732608436189119087374433302133580245650731352234818988008781379612899005629231516927446565900368199667475027883513169679408623838470305213666996209956744671828321591789577244256311302198112434771792380714280682325210671558132397536146492703012676594336165487455377259423918512434180007192275744540869327673874692383545424163191463619661030907394748408615638025030379533508809860910439731090085072723233730325170576412618229003073490081310970423458271440252020492122889121849186630143570131,[41,40,38,9,8,31,33,11,10,34,13,12,35,15,14],8⟩
def oQ.sat(w:World)(G:Shared)(q:Pr)(A:AA):= @RD.sat w G (oQ.D w.2 q A) (by walk_at "R")
def oR.D(P:Params)(q:Pr)(A:AA):RD:=⟨[],
 λ i=>⟨au 802 [rA (q.S.a 13),.int (q.m 9) (q.u 0)],14,i,q.L,λ g=>A 99 [g],
 λ g=>⟨.ok (.ret (rA (g.n 2))),bg i [],
  [(g.n 2+822,tO [rA (g.n 4),rA (g.n 3)]),
  (g.n 3+822,lO 1 [.int (1+q.m 0) (g.n 8)]),
  (g.n 4+822,tO [.str aC (g.n 9),rA (g.n 5)]),
  (g.n 5+822,lO 0 [rA (g.n 6)]),
  (g.n 6+822,iu bq (g.n 10) (g.n 11) (g.n 7+822)),
  (g.n 7+822,lO 0 [])],g.l⟩⟩,
 λ i b t=>[c 0 (.full (aj (au 790 [rA (q.S.a 13),.int 6 (t+1)]) 12 i [] q.L (λ g0=>A 0 [g0]) λ g0=>(.ok (.ret (.int 4 (g0.n 2))),[],[],g0.l))),
 none,
 c 2 λ g0 g1=>.full (aj (au 790 [rA (q.S.a 13),.int 3 (g0.n 1+18)]) 12 i [] g0.l (λ g2=>A 2 [g0,g1,g2]) λ g2=>(.ok (.ret (.int 0 (g2.n 2))),[],[],g2.l)),
 none,
 c 4 λ g0 g1 g2 g3=>.full (aj (au 790 [rA (q.S.a 13),.int 5 (g2.n 1+6)]) 12 i [] g2.l (λ g4=>A 4 [g0,g1,g2,g3,g4]) λ g4=>(.ok (.ret (.int (q.m 0) (g4.n 2))),[],[],g4.l))],
 λ b t=>ap 5 λ g0 g1 g2 g3 g4=>⟨[g4.n 0+6,g4.n 1+5,g4.n 0+5,g2.n 0+2,g4.n 0+4,g4.n 0+3,g0.n 0+5,g0.n 0+4,g4.n 1+0,g4.n 1+2,g0.n 1+5,g0.n 1+0],g4.l,[],[],#[]⟩,ax 30 223 10557981320574724304138690078594973866436917100340127025650064225411065097340144790356812963103022393220672995850547007878943804487492142276354771324468211726847444638645264458764169107984074668377645604675059728346830418834722948147176270181873457043987513805156818787154314184001285886313987938385534235080103172317909740838861,[31,24,30,29,9,8],5⟩
def oR.sat(w:World)(G:Shared)(q:Pr)(A:AA):= @RD.sat w G (oR.D w.2 q A) (by walk_at "R")
def oS.D(P:Params)(q:Pr)(A:AA):RD:=⟨[],
 λ i=>⟨au 802 [rA (q.S.a 13),.int (q.m 9) (q.u 0)],14,i,q.L,λ g=>A 99 [g],
 λ g=>⟨.ok (.ret (rA (g.n 2))),bg i [],
  [(g.n 2+822,tO [rA (g.n 4),rA (g.n 3)]),
  (g.n 3+822,lO 2 [.int (1+q.m 0) (g.n 10),.int (1+q.m 1) (g.n 11)]),
  (g.n 4+822,tO [.str aC (g.n 12),rA (g.n 5)]),
  (g.n 5+822,lO 0 [rA (g.n 6),rA (g.n 8)]),
  (g.n 6+822,iu bq (g.n 13) (g.n 14) (g.n 7+822)),
  (g.n 7+822,lO 0 []),
  (g.n 8+822,iu bH (g.n 15) (g.n 16) (g.n 9+822)),
  (g.n 9+822,lO 0 [])],g.l⟩⟩,
 λ i b t=>[c 0 (.full (aj (au 790 [rA (q.S.a 13),.int 6 (t+1)]) 12 i [] q.L (λ g0=>A 0 [g0]) λ g0=>(.ok (.ret (.int 4 (g0.n 2))),[],[],g0.l))),
 none,
 c 2 λ g0 g1=>.full (aj (au 790 [rA (q.S.a 13),.int 3 (g0.n 1+18)]) 12 i [] g0.l (λ g2=>A 2 [g0,g1,g2]) λ g2=>(.ok (.ret (.int 1 (g2.n 2))),[],[],g2.l)),
 none,
 c 4 λ g0 g1 g2 g3=>.full (aj (au 790 [rA (q.S.a 13),.int 5 (g2.n 1+6)]) 12 i [] g2.l (λ g4=>A 4 [g0,g1,g2,g3,g4]) λ g4=>(.ok (.ret (.int (q.m 0) (g4.n 2))),[],[],g4.l)),
 c 5 λ g0 g1 g2 g3 g4=>.full (aj (au 790 [rA (q.S.a 13),.int 5 (g4.n 1+4)]) 12 i [] g4.l (λ g5=>A 5 [g0,g1,g2,g3,g4,g5]) λ g5=>(.ok (.ret (.int (q.m 1) (g5.n 2))),[],[],g5.l))],
 λ b t=>ap 6 λ g0 g1 g2 g3 g4 g5=>⟨[g5.n 0+6,g5.n 1+5,g5.n 0+5,g2.n 0+2,g5.n 0+4,g5.n 0+3,g0.n 0+5,g0.n 0+4,g0.n 0+7,g0.n 0+6,g4.n 1+0,g5.n 1+0,g5.n 1+2,g0.n 1+5,g0.n 1+0,g0.n 1+7,g0.n 1+1],g5.l,[],[],#[]⟩,ax 30 247 2981885770544975653742255508836091928834086899675684643299008836890727417130294239100666710965279367622100716528537231857570702481168559762671342944475328461287252876552142276354771324468211726847444638645264458764169107984074668377645604675059728346830418834722948147176270181873457043987513805156818787154314184001285886313987938385534235080103172317909740838861,[31,24,30,29,9,8,11,10],6⟩
def oS.sat(w:World)(G:Shared)(q:Pr)(A:AA):= @RD.sat w G (oS.D w.2 q A) (by walk_at "R")
def oT.D(P:Params)(q:Pr)(A:AA):RD:=⟨[],
 λ i=>⟨au 802 [rA (q.S.a 13),.int (q.m 9) (q.u 0)],14,i,q.L,λ g=>A 99 [g],
 λ g=>⟨.ok (.ret (rA (g.n 2))),bg i [],
  [(g.n 2+822,tO [rA (g.n 4),rA (g.n 3)]),
  (g.n 3+822,lO 3 [.int (1+q.m 0) (g.n 12),.int (1+q.m 1) (g.n 13),.int (1+q.m 2) (g.n 14)]),
  (g.n 4+822,tO [.str aC (g.n 15),rA (g.n 5)]),
  (g.n 5+822,lO 0 [rA (g.n 6),rA (g.n 8),rA (g.n 10)]),
  (g.n 6+822,iu bq (g.n 16) (g.n 17) (g.n 7+822)),
  (g.n 7+822,lO 0 []),
  (g.n 8+822,iu bH (g.n 18) (g.n 19) (g.n 9+822)),
  (g.n 9+822,lO 0 []),
  (g.n 10+822,iu ca (g.n 20) (g.n 21) (g.n 11+822)),
  (g.n 11+822,lO 0 [])],g.l⟩⟩,
 λ i b t=>[c 0 (.full (aj (au 790 [rA (q.S.a 13),.int 6 (t+1)]) 12 i [] q.L (λ g0=>A 0 [g0]) λ g0=>(.ok (.ret (.int 4 (g0.n 2))),[],[],g0.l))),
 none,
 c 2 λ g0 g1=>.full (aj (au 790 [rA (q.S.a 13),.int 3 (g0.n 1+18)]) 12 i [] g0.l (λ g2=>A 2 [g0,g1,g2]) λ g2=>(.ok (.ret (.int 2 (g2.n 2))),[],[],g2.l)),
 none,
 c 4 λ g0 g1 g2 g3=>.full (aj (au 790 [rA (q.S.a 13),.int 5 (g2.n 1+6)]) 12 i [] g2.l (λ g4=>A 4 [g0,g1,g2,g3,g4]) λ g4=>(.ok (.ret (.int (q.m 0) (g4.n 2))),[],[],g4.l)),
 c 5 λ g0 g1 g2 g3 g4=>.full (aj (au 790 [rA (q.S.a 13),.int 5 (g4.n 1+4)]) 12 i [] g4.l (λ g5=>A 5 [g0,g1,g2,g3,g4,g5]) λ g5=>(.ok (.ret (.int (q.m 1) (g5.n 2))),[],[],g5.l)),
 c 6 λ g0 g1 g2 g3 g4 g5=>.full (aj (au 790 [rA (q.S.a 13),.int 5 (g5.n 1+4)]) 12 i [] g5.l (λ g6=>A 6 [g0,g1,g2,g3,g4,g5,g6]) λ g6=>(.ok (.ret (.int (q.m 2) (g6.n 2))),[],[],g6.l))],
 λ b t=>ap 7 λ g0 g1 g2 g3 g4 g5 g6=>⟨[g6.n 0+6,g6.n 1+5,g6.n 0+5,g2.n 0+2,g6.n 0+4,g6.n 0+3,g0.n 0+5,g0.n 0+4,g0.n 0+7,g0.n 0+6,g0.n 0+9,g0.n 0+8,g4.n 1+0,g5.n 1+0,g6.n 1+0,g6.n 1+2,g0.n 1+5,g0.n 1+0,g0.n 1+7,g0.n 1+1,g0.n 1+9,g0.n 1+2],g6.l,[],[],#[]⟩,ax 30 271 842172616014306996649855176404046243264116401828277963033268888489771077667027341132345885475990651882182704540652745769249627308122590619624340317743560809080734602437921713969202944475328461287252876552142276354771324468211726847444638645264458764169107984074668377645604675059728346830418834722948147176270181873457043987513805156818787154314184001285886313987938385534235080103172317909740838861,[31,24,30,29,9,8,11,10,13,12],7⟩
def oT.sat(w:World)(G:Shared)(q:Pr)(A:AA):= @RD.sat w G (oT.D w.2 q A) (by walk_at "R")
def wQ.D(P:Params)(q:Pr)(x:T2)(A:AA):RD:=⟨[],
 λ i=>⟨au 802 [rA (q.S.a 13),.int (q.m 9) (q.u 0)],13,i,q.L,λ g=>A 99 [g],
 λ g=>⟨.ok (.ret (rA (g.n 2))),bg i [],
  [(g.n 2+822,tO [rA (g.n 4),rA (g.n 3)]),
  (g.n 3+822,lO 0 [.int 9 (g.n 9),.int (1+q.m 0) (g.n 10)]),
  (g.n 4+822,tO [.str (x.p eN eO) (g.n 11),rA (g.n 5),rA (g.n 7)]),
  (g.n 5+822,iu bq (g.n 12) (g.n 13) (g.n 6+822)),
  (g.n 6+822,lO 0 []),
  (g.n 7+822,iu bH (g.n 14) (g.n 15) (g.n 8+822)),
  (g.n 8+822,lO 0 [])],g.l⟩⟩,
 λ i b t=>[c 0 (.full (aj (au 790 [rA (q.S.a 13),.int 6 (t+1)]) 12 i [] q.L (λ g0=>A 0 [g0]) λ g0=>(.ok (.ret (.int (x.p 2 3) (g0.n 2))),[],[],g0.l))),
 none,
 c 2 λ g0 g1=>.full (aj (au 790 [rA (q.S.a 13),.int 2 (g0.n 1+24)]) 12 i [] g0.l (λ g2=>A 2 [g0,g1,g2]) λ g2=>(.ok (.ret (.int (q.m 0) (g2.n 2))),[],[],g2.l))],
 λ b t=>ap 3 λ g0 g1 g2=>⟨[g2.n 0+2,g2.n 1+1,g2.n 0+1,g2.n 0+0,g0.n 0+19,g0.n 0+5,g0.n 0+4,g0.n 0+7,g0.n 0+6,g0.n 1+22,g2.n 1+0,g0.n 1+x.p 16 17,g0.n 1+5,g0.n 1+0,g0.n 1+7,g0.n 1+1],g2.l,[],[],#[]⟩,ax 24 167 45334802757215657199764998584582296621705163009901422752364344058485005794181379347308644572716805295986200997798565286847685969506380280075918293314937259200557204478921098955757129739489918543567671580458400334461858860059313,[25,24,23,9,8,11,10],3⟩
def wQ.sat(w:World)(G:Shared)(q:Pr)(x:T2)(A:AA):= @RD.sat w G (wQ.D w.2 q x A) (by cases x<;>walk_at "R")
def wR.D(P:Params)(q:Pr)(x:T3)(A:AA):RD:=⟨[],
 λ i=>⟨au 802 [rA (q.S.a 13),.int (q.m 9) (q.u 0)],13,i,q.L,λ g=>A 99 [g],
 λ g=>⟨.ok (.ret (rA (g.n 2))),bg i [],
  [(g.n 2+822,tO [rA (g.n 4),rA (g.n 3)]),
  (g.n 3+822,lO 0 [.str (x.p gw aa cy) (g.n 7)]),
  (g.n 4+822,tO [.str cq (g.n 8),.str ad (g.n 9),rA (g.n 5)]),
  (g.n 5+822,iu bq (g.n 10) (g.n 11) (g.n 6+822)),
  (g.n 6+822,lO 0 [])],g.l⟩⟩,
 λ i b t=>[c 0 (.full (aj (au 790 [rA (q.S.a 13),.int 6 (t+1)]) 12 i [] q.L (λ g0=>A 0 [g0]) λ g0=>(.ok (.ret (.int 5 (g0.n 2))),[],[],g0.l))),
 none,
 c 2 λ g0 g1=>.full (aj (au 790 [rA (q.S.a 13),.int 3 (g0.n 1+23)]) 12 i [] g0.l (λ g2=>A 2 [g0,g1,g2]) λ g2=>(.ok (.ret (.int (x.p 0 1 2) (g2.n 2))),[],[],g2.l))],
 λ b t=>ap 3 λ g0 g1 g2=>⟨[g2.n 0+2,g2.n 1+0,g2.n 0+1,g2.n 0+0,g0.n 0+18,g0.n 0+5,g0.n 0+4,g0.n 1+x.p 20 21 22,g0.n 1+17,g0.n 1+18,g0.n 1+5,g0.n 1+0],g2.l,[],[],#[]⟩,ax 25 159 1869794112278682873495792495913586480491850930591970338715917799406491958644296216624822432403320168415958467435630737882270215543444043715376777332240636529275623119874596427456975138621797363212044007331442840588379313801,[25,24,22,9,8],3⟩
def wR.sat(w:World)(G:Shared)(q:Pr)(x:T3)(A:AA):= @RD.sat w G (wR.D w.2 q x A) (by cases x<;>walk_at "R")
def ph.zo(i:List (Nat×Nat×Obj))(P:Params)(q:Pr)(x:T2)(s:Array (Option Value))(g:Gh):SB:=⟨.ok .next,bg i [(0,Au P q s g),
  (1,yC q.S.op.size q.S.opn (g.n 5)),
  (5,oD ⟨tE (g.vl 0)⟩ (g.n 6))],
  [(g.n 7+822,tO [.str (q.s 1) (q.u (x.p 6 10)),.str (q.s 0) (q.u (x.p 4 8)),.int (q.m 0) (q.u (x.p 10 14))])],g.l⟩
def ph.D(P:Params)(q:Pr)(x:T2)(A:AA):RD:=⟨[(q.j 0,q.a 0+822,gg (x.p 3 (q.en 4)) (q.sl 0) (x.p [kS P bK (q.u 0) (rA (q.S.a 0)),kS P bN (q.u 1) (rA (q.a 10)),kS P eP (q.u 2) (rA (q.a 11))] [kS P bK (q.u 0) (rA (q.S.a 0)),kS P bN (q.u 1) (rA (q.a 10)),kS P eP (q.u 2) (rA (q.a 11)),kS P cS (q.u 3) (q.v 4),kS P de (q.u 5) (q.v 5)])),
 (q.j 1,q.a 1+822,sJ (q.S.a 6+822) (q.j 9) q.S.op.size q.S.opn),
 (q.j 2,q.S.a 0+822,oW q.S.a),
 (q.j 3,q.S.a 1+822,bm P q.S.a q.S.u),
 (q.j 4,q.S.a 6+822,oD q.S.op q.S.opn),
 (q.j 5,q.a 11+822,oD (q.e 0) (q.en 3)),
 (q.j 6,q.a 12+822,dO 6 [kS P jn (q.u (x.p 3 7)) (.str (q.s 0) (q.u (x.p 4 8))),kS P jo (q.u (x.p 5 9)) (.str (q.s 1) (q.u (x.p 6 10))),kS P rX (q.u (x.p 7 11)) (q.v 1),kS P jp (q.u (x.p 9 13)) (.int (q.m 0) (q.u (x.p 10 14))),kS P eM (q.u (x.p 11 15)) (q.v 2),kS P fA (q.u (x.p 13 17)) (q.v 3)])],
 λ i=>⟨cg (aq (fB (aq bY 117)) 1) (rA (q.a 1)) (ci (gu P) 816 (q.a 0+822)),50,i,q.L,λ g=>A 99 [g],
 λ g=>ph.zo i P q x (g.sl (q.a 0+822)) g⟩,
 λ i b t=>[c 0 (.full (iU (q.a 1+822) (q.S.a 6+822) 1 4 q.S.op q.S.op.size q.S.opn (q.j 9) (.int (q.m 1) (q.c 0)) q.L)),
 c 1 λ g0=>.dict 0 (.int (q.m 1) (q.c 0)) [] q.S.op (some (q.j 9)) (hashInt (q.m 1)) (rA (q.a 12)),
 c 1 λ g0=>.dict 3 (.int (q.m 1) (q.c 0)) [rA (g0.n 0+0)] (q.e 0) none (hashInt (q.m 1)) .none,
 c 1 λ g0=>.full (aj (cg (aq (fB (aq bY 117)) 1) (rA (q.a 1)) (ci (gu P) 816 (q.a 0+822))) 50 i [.o 0 (q.a 0+822) (gg (x.p 5 (q.en 4)) (g0.sl (q.a 0+822)) [kS P bK (q.u 0) (rA (q.S.a 0)),kS P bN (q.u 1) (rA (q.a 10)),kS P eP (q.u 2) (rA (q.a 11)),kS P cS (x.p (g0.n 1+0) (q.u 3)) (.int (q.m 1) (q.c 0)),kS P de (x.p (g0.n 1+3) (q.u 5)) (rA (q.a 12))]),.o 1 (q.a 1+822) (sJ (q.S.a 6+822) (q.j 9+1) q.S.op.size q.S.opn),.k 2,.k 3,.k 4,.o 5 (q.a 11+822) (oD ((q.e 0).push ⟨hashInt (q.m 1),.int (q.m 1) (q.c 0),rA (g0.n 0+0)⟩) (q.en 3+1))] q.L (λ g1=>A 3 [g0,g1]) λ g1=>(.ok .next,[(0,Au P q (g1.sl (q.a 0+822)) g1),(1,yC q.S.op.size q.S.opn (g1.n 5)),(5,oD ⟨tE (g1.vl 0)⟩ (g1.n 6))],[],g1.l))],
 λ b t=>ap 2 λ g0 g1=>⟨[g1.n 0+0,g1.n 1+0,g1.n 2,g1.n 3,g1.n 4,g1.n 5,g1.n 6,g0.n 0+0],g1.l,[g1.v 0,g1.v 1],g1.vl 0,g1.sl (q.a 0+822)⟩,ax 8 56 125583742087621289116723528991944026778263874212496,[0,1,2,3,4,5,6,7],4⟩
def ph.sat(w:World)(G:Shared)(q:Pr)(x:T2)(A:AA):= @RD.satZ w G (ph.D w.2 q x A) (by cases x<;>walk_at "Z") (λ b t gs sl h=>congrArg (λ s=>ph.zo (ph.D w.2 q x A).i w.2 q x s (((ph.D w.2 q x A).e b t gs).gh sl)) (h.1 rfl).symm)
def wY.zo(i:List (Nat×Nat×Obj))(P:Params)(q:Pr)(s:Array (Option Value))(g:Gh):SB:=⟨.ok .next,bg i [(0,Au P q s g),
  (1,yC q.S.op.size q.S.opn (g.n 5)),
  (5,oD ⟨tE (g.vl 0)⟩ (g.n 6))],
  [],g.l⟩
def wY.D(P:Params)(q:Pr)(A:AA):RD:=⟨[(q.j 0,q.a 0+822,gg (q.en 4) (q.sl 0) [kS P bK (q.u 0) (rA (q.S.a 0)),kS P bN (q.u 1) (rA (q.a 10)),kS P eP (q.u 2) (rA (q.a 11)),kS P cS (q.u 3) (q.v 4),kS P de (q.u 5) (q.v 5)]),
 (q.j 1,q.a 1+822,sJ (q.S.a 6+822) (q.j 9) q.S.op.size q.S.opn),
 (q.j 2,q.S.a 0+822,oW q.S.a),
 (q.j 3,q.S.a 1+822,bm P q.S.a q.S.u),
 (q.j 4,q.S.a 6+822,oD q.S.op q.S.opn),
 (q.j 5,q.a 11+822,oD ⟨tE (q.l 0)⟩ (q.en 3))],
 λ i=>⟨cg (aq (fB (aq bY 117)) 1) (rA (q.a 1)) (ci (gu P) 816 (q.a 0+822)),2,i,q.L,λ g=>A 99 [g],
 λ g=>wY.zo i P q (g.sl (q.a 0+822)) g⟩,
 λ i b t=>[c 0 (.full (oo (q.a 1+822) (q.S.a 6+822) 1 4 q.S.op q.S.op.size q.S.opn (q.j 9) q.L))],
 λ b t=>ap 1 λ g0=>⟨[g0.n 0+0,g0.n 1+0,q.en 4,q.u 3,q.u 5,q.j 9,q.en 3],q.L,[q.v 4,q.v 5],q.l 0,g0.sl (q.a 0+822)⟩,ax 8 4 3728,[0,1,2,3,4,5],1⟩
def wY.sat(w:World)(G:Shared)(q:Pr)(A:AA):= @RD.satZ w G (wY.D w.2 q A) (by walk_at "Z") (λ b t gs sl h=>congrArg (λ s=>wY.zo (wY.D w.2 q A).i w.2 q s (((wY.D w.2 q A).e b t gs).gh sl)) (h.1 rfl).symm)
def sd.D(P:Params)(q:Pr)(A:AA):RD:=⟨[(q.j 0,q.S.a 0+822,oW q.S.a),
 (q.j 1,q.S.a 1+822,bm P q.S.a q.S.u),
 (q.j 2,q.S.a 5+822,oD q.S.fl q.S.fln),
 (q.j 3,q.S.a 6+822,oD q.S.op q.S.opn),
 (q.j 4,q.S.a 8+822,dz P q.S.u q.S.buf q.S.bt q.S.rcn q.S.rt),
 (q.j 5,q.S.a 7+822,oD q.S.fi q.S.fin),
 (q.j 6,q.S.a 9+822,dA P q.S.a q.S.u q.S.bbuf q.S.bbt),
 (q.j 7,q.S.a 10+822,oD q.S.bo q.S.bon),
 (q.j 8,q.S.a 11+822,oD q.S.bp q.S.bpn),
 (q.j 9,q.S.a 12+822,ol ⟨⟨[q.c 10,q.c 11,q.c 12,q.c 13,q.c 14,q.c 15]⟩⟩ q.S.t1 ⟨⟨[q.c 16,q.c 17,q.c 18,q.c 19,q.c 20,q.c 21]⟩⟩ q.S.t2)],
 λ i=>⟨au 816 [rA (q.S.a 0),rA (q.S.a 9)],51,i,q.L,λ g=>A 99 [g],
 λ g=>⟨.ok (.ret (.bool true)),bg i [],
  [],g.l⟩⟩,
 λ i b t=>[c 0 (.full (aj (cg (aq (fB (aq bY 117)) 1) (rA (b+2)) (ci (gu P) 816 ((b+0)+822))) 50 i [.o 10 ((b+0)+822) (gg 3 ⟨[]⟩ [kS P bK (t+0) (rA (q.S.a 0)),kS P bN (t+1) (rA (q.S.a 9)),kS P eP (t+2) (rA (b+1))]),.o 12 ((b+2)+822) (sJ (q.S.a 6+822) 0 q.S.op.size q.S.opn),.k 0,.k 1,.k 3,.o 11 ((b+1)+822) (dO 0 []),.k 4] q.L (λ g0=>A 0 [g0]) λ g0=>(.ok .next,[(0,Au P ⟨q.S,tk [0,0,0,0,0,0,0,0,0,0,q.S.a 9,b+1],tk [t+0,t+1,t+2],q.j,q.c,q.m,q.s,q.o,q.v,q.l,q.e,q.en,q.h,q.p,q.r,q.sl,q.L⟩ (g0.sl ((b+0)+822)) g0),(1,yC q.S.op.size q.S.opn (g0.n 5)),(5,oD ⟨tE (g0.vl 0)⟩ (g0.n 6))],[],g0.l))),
 c 1 λ g0=>.full (aj (.call (.builtin "dict.__ne__") ⟨[rA (b+1),rA (q.S.a 10)],[]⟩) 20 i [.o 11 ((b+1)+822) (oD ⟨tE (g0.vl 0)⟩ (g0.n 6)),.k 7] g0.l (λ g1=>A 1 [g0,g1]) λ g1=>(.ok (.ret (.bool false)),[],[],g0.l)),
 c 2 λ g0 g1=>.full (aj (.call (.builtin "dict.__ne__") ⟨[rA (q.S.a 7),rA (q.S.a 11)],[]⟩) 20 i [.k 5,.k 8] g0.l (λ g2=>A 2 [g0,g1,g2]) λ g2=>(.ok (.ret (.bool false)),[],[],g0.l)),
 c 3 λ g0 g1 g2=>.dict 0 (.int 9 (g2.n 1+1)) [] q.S.op (some 0) (hashInt 9) (rA (q.S.a 8)),
 c 3 λ g0 g1 g2=>.pure (bL "str.__ne__" q.S.buf q.S.bbuf q.S.bt q.S.bbt false),
 c 3 λ g0 g1 g2=>.dict 0 (.str bA (g2.n 1+8)) [] q.S.fl (some 0) (ae (C0 P).set1 bA) (.str ⟨⟨[q.c 10,q.c 11,q.c 12,q.c 13,q.c 14,q.c 15,q.c 16,q.c 17,q.c 18,q.c 19,q.c 20,q.c 21]⟩⟩ (q.c 99)),
 c 3 λ g0 g1 g2=>.pure (bL "str.__eq__" ⟨⟨[q.c 10,q.c 11,q.c 12,q.c 13,q.c 14,q.c 15,q.c 16,q.c 17,q.c 18,q.c 19,q.c 20,q.c 21]⟩⟩ ⟨⟨[q.c 10,q.c 11,q.c 12,q.c 13,q.c 14,q.c 15,q.c 16,q.c 17,q.c 18,q.c 19,q.c 20,q.c 21]⟩⟩ (q.c 99) (g2.n 1+13) true)],
 λ b t=>ap 3 λ g0 g1 g2=>⟨[g2.n 0+0,g2.n 1+14],g0.l,[],[],#[]⟩,ax 14 134 753002750436376347571529720997462425422682036123865818402631718088554518277609547569162946489583712809995468513773037061452525259449628585981491902400479,[0,1,2,3,4,5,6,7,8,9],7⟩
def sd.sat(w:World)(G:Shared)(q:Pr)(A:AA):= @RD.sat w G (sd.D w.2 q A) (by walk_at "R")
def Dt.D(P:Params)(q:Pr)(m0:Int):RD:=⟨[(q.j 0,q.a 0+822,lO 0 [.int m0 (q.u 0)])],
 λ i=>⟨.call (.builtin "sum") ⟨[rA (q.a 0)],[]⟩,1,i,q.L,λ _=>True,
 λ g=>⟨.ok (.ret (.int m0 (g.n 2))),bg i [],
  [],q.L⟩⟩,
 λ i b t=>[],
 λ b t=>ap 0 (⟨[b+4,t+2,t+1],q.L,[],[],#[]⟩),ax 6 28 5522102421138863113146,[0],0⟩
theorem Dt.sat(w:World)(G:Shared)(q:Pr)(m0:Int)(q0:0<=m0/\m0<=2):ai w G (Dt.D w.2 q m0).Z:=RD.sat (by rcases vz q0 with rfl |rfl |rfl<;>walk_at "R") (λ b t=>
 λ _ _=>trivial)
def mG.D(P:Params)(q:Pr)(m0:Int)(m1:Int):RD:=⟨[(q.j 0,q.a 0+822,lO 0 [.int m0 (q.u 0),.int m1 (q.u 1)])],
 λ i=>⟨.call (.builtin "sum") ⟨[rA (q.a 0)],[]⟩,1,i,q.L,λ _=>True,
 λ g=>⟨.ok (.ret (.int (m0+m1) (g.n 2))),bg i [],
  [],q.L⟩⟩,
 λ i b t=>[],
 λ b t=>ap 0 (⟨[b+4,t+3,t+2],q.L,[],[],#[]⟩),ax 6 40 12020415007917910251892085441466,[0],0⟩
theorem mG.sat(w:World)(G:Shared)(q:Pr)(m0:Int)(m1:Int)(q0:0<=m0/\m0<=2)(q1:0<=m1/\m1<=2):ai w G (mG.D w.2 q m0 m1).Z:=RD.sat (by rcases vz q0 with rfl |rfl |rfl<;>rcases vz q1 with rfl |rfl |rfl<;>walk_at "R") (λ b t=>
 λ _ _=>trivial)
def i9.D(P:Params)(q:Pr):RD:=⟨[(q.j 0,q.a 0+822,lO 0 [.str (q.s 0) (q.u 1),.int (q.m 0) (q.u 2)]),
 (q.j 1,q.a 1+822,tO [.str bv (q.u 3),.str (q.s 1) (q.u 4),rA (q.a 4),rA (q.a 5),.none]),
 (q.j 2,q.S.a 9+822,dA P q.S.a q.S.u ⟨⟨[q.c 20,q.c 21,q.c 22,q.c 23,q.c 24,q.c 25]⟩⟩ q.S.bbt),
 (q.j 3,q.S.a 10+822,oD q.S.bo q.S.bon)],
 λ i=>⟨au 809 [rA (q.S.a 9),rA (q.a 1),rA (q.a 0),.int 2 (q.u 0)],1,i,q.L,λ _=>True,
 λ g=>⟨.ok (.ret .none),bg i [(3,oD (q.S.bo.push ⟨hashInt (q.m 0),.int (q.m 0) (q.u 2),rA (g.n 2)⟩) (q.S.bon+1))],
  [(g.n 2+822,tO [.str (q.s 0) (q.u 1),.str (q.s 1) (q.u 4),.int 128 (g.n 3)])],q.L⟩⟩,
 λ i b t=>[c 0 (.dict 3 (.int (q.m 0) (q.u 2)) [rA (b+1)] q.S.bo none (hashInt (q.m 0)) .none)],
 λ b t=>ap 0 (⟨[b+2,t+21,b+1,t+16],q.L,[],[],#[]⟩),ax 7 77 60178238787107649470383461052053116917448188414263791476038047384,[0,1,2,3,5],1⟩
def i9.sat(w:World)(G:Shared)(q:Pr):= @RD.sat w G (i9.D w.2 q) (by walk_at "R")
def ja.D(P:Params)(q:Pr):RD:=⟨[(q.j 0,q.a 0+822,lO 0 [.str (q.s 0) (q.u 1),.int (q.m 0) (q.u 2),.int (q.m 1) (q.u 3)]),
 (q.j 1,q.a 1+822,tO [.str bv (q.u 4),.str (q.s 1) (q.u 5),rA (q.a 4),rA (q.a 5),rA (q.a 6)]),
 (q.j 2,q.S.a 9+822,dA P q.S.a q.S.u ⟨⟨[q.c 20,q.c 21,q.c 22,q.c 23,q.c 24,q.c 25]⟩⟩ q.S.bbt),
 (q.j 3,q.S.a 10+822,oD q.S.bo q.S.bon)],
 λ i=>⟨au 809 [rA (q.S.a 9),rA (q.a 1),rA (q.a 0),.int 3 (q.u 0)],1,i,q.L,λ _=>True,
 λ g=>⟨.ok (.ret .none),bg i [(3,oD (q.S.bo.push ⟨hashInt (q.m 0),.int (q.m 0) (q.u 2),rA (g.n 2)⟩) (q.S.bon+1))],
  [(g.n 2+822,tO [.str (q.s 0) (q.u 1),.str (q.s 1) (q.u 5),.int (q.m 1) (q.u 3)])],q.L⟩⟩,
 λ i b t=>[c 0 (.dict 3 (.int (q.m 0) (q.u 2)) [rA (b+1)] q.S.bo none (hashInt (q.m 0)) .none)],
 λ b t=>ap 0 (⟨[b+2,t+21,b+1],q.L,[],[],#[]⟩),ax 7 84 49559367305450996166284323899631651201248074907375844224917028199513674,[0,1,2,3,5],1⟩
def ja.sat(w:World)(G:Shared)(q:Pr):= @RD.sat w G (ja.D w.2 q) (by walk_at "R")
def ip.D(P:Params)(q:Pr):RD:=⟨[(q.j 0,q.a 0+822,lO 0 [.int 9 (q.u 1),.int (q.m 0) (q.u 2)]),
 (q.j 1,q.a 1+822,tO [.str aL (q.u 3),rA (q.a 6),rA (q.a 2)]),
 (q.j 2,q.a 2+822,lO 1 [rA (q.a 3)]),
 (q.j 3,q.a 3+822,tO [rA (q.a 7),.str ad (q.u 4)]),
 (q.j 4,q.S.a 9+822,dA P q.S.a q.S.u ⟨⟨[q.c 20,q.c 21,q.c 22,q.c 23,q.c 24,q.c 25]⟩⟩ q.S.bbt),
 (q.j 5,q.S.a 11+822,oD q.S.bp q.S.bpn)],
 λ i=>⟨au 809 [rA (q.S.a 9),rA (q.a 1),rA (q.a 0),.int 2 (q.u 0)],1,i,q.L,λ _=>True,
 λ g=>⟨.ok (.ret .none),bg i [(5,oD (aK (q.r 0) (ae (C0 P).set1 ad) (.str ad (q.u 4)) (rA (g.n 2)) q.S.bp) (be (q.r 0) q.S.bpn))],
  [(g.n 2+822,tO [.int 9 (g.n 3),.int 0 (g.n 4),.int (q.m 0) (q.u 2)])],q.L⟩⟩,
 λ i b t=>[c 0 (.dict 3 (.str ad (q.u 4)) [rA (b+15)] q.S.bp (q.r 0) (ae (C0 P).set1 ad) .none)],
 λ b t=>ap 0 (⟨[b+18,t+26,b+15,t+16,t+20],q.L,[],[],#[]⟩),ax 2012 214 1129952494559523654599893043371001040385036994245721806166924075797070109185103202390942804553253934367396607771902267838789563241532271584261935627799120553306336167368931770029223086948377918840445345207506756931233875361751318574317732561171703577328303478745583725779311127910157207360485045508504105734204127956745525567918556263628624164326651777886691825485034407937697705186824352987395060357347186102585362576422024509069791858706499373971241505393067417238493211778437066483157431651701344386201401217288801736761079444152255964406384154109849889902300013441171463338559199376486782184016927202727245377980089090844444253901153702339590171837045226136385908231905644296949410251626364825519765941,[0,1,2,3,4,5,21],1⟩
def ip.sat(w:World)(G:Shared)(q:Pr):= @RD.sat w G (ip.D w.2 q) (by walk_at "R")
def iq.D(P:Params)(q:Pr)(A:AA):RD:=⟨[(q.j 0,q.a 0+822,lO 0 [.int 9 (q.u 1),.int (q.m 0) (q.u 2),.int (q.m 1) (q.u 3)]),
 (q.j 1,q.a 1+822,tO [.str aL (q.u 4),rA (q.a 7),rA (q.a 2)]),
 (q.j 2,q.a 2+822,lO 2 [rA (q.a 3),rA (q.a 4)]),
 (q.j 3,q.a 3+822,tO [rA (q.a 8),.str ad (q.u 5)]),
 (q.j 4,q.a 4+822,tO [rA (q.a 9),.str av (q.u 6)]),
 (q.j 5,q.S.a 9+822,dA P q.S.a q.S.u ⟨⟨[q.c 20,q.c 21,q.c 22,q.c 23,q.c 24,q.c 25]⟩⟩ q.S.bbt),
 (q.j 6,q.S.a 11+822,oD q.S.bp q.S.bpn)],
 λ i=>⟨au 809 [rA (q.S.a 9),rA (q.a 1),rA (q.a 0),.int 3 (q.u 0)],14,i,q.L,λ _=>True,
 λ g=>⟨.ok (.ret .none),bg i [(6,oD (aK (q.r 1) (ae (C0 P).set1 av) (.str av (q.u 6)) (rA (g.n 3)) (aK (q.r 0) (ae (C0 P).set1 ad) (.str ad (q.u 5)) (rA (g.n 2)) q.S.bp)) (be (q.r 1) (be (q.r 0) q.S.bpn)))],
  [(g.n 2+822,tO [.int 9 (g.n 4),.int 0 (g.n 5),.int (q.m 0) (q.u 2)]),
  (g.n 3+822,tO [.int 9 (g.n 6),.int (q.m 0) (g.n 7),.int (q.m 1) (q.u 3)])],q.L⟩⟩,
 λ i b t=>[c 0 (.dict 3 (.str ad (q.u 5)) [rA (b+15)] q.S.bp (q.r 0) (ae (C0 P).set1 ad) .none),
 c 0 (.full (aj (.call (.builtin "sum") ⟨[rA (b+21)],[]⟩) 12 i [.o 28 ((b+21)+822) (lO 0 [.int (q.m 0) (q.u 2)])] q.L (λ g0=>A 1 [g0]) λ g0=>(.ok (.ret (.int (q.m 0) (g0.n 2))),[],[],q.L))),
 c 1 λ g0=>.dict 3 (.str av (q.u 6)) [rA (g0.n 0+0)] (aK (q.r 0) (ae (C0 P).set1 ad) (.str ad (q.u 5)) (rA (b+15)) q.S.bp) (q.r 1) (ae (C0 P).set1 av) .none],
 λ b t=>ap 1 λ g0=>⟨[g0.n 0+3,g0.n 1+5,b+15,g0.n 0+0,t+16,t+20,t+29,g0.n 2],q.L,[],[],#[]⟩,ax 2013 331 593840597349573463864923982439316214658815874395560633161926002997104319629049061766981856996252740146338366907577709767807366162093830879888789376551030149469642893160917692446634115960243586467458115280386785408962758309545966621387645973101839360612667230726194961970493512102450535879639447843533129652040504083001795243445851216727558145803124021604631768077883385248937475406104958912062790005747474766317359992836321900957742843020888210576815606779209773298818628042795159061159468593650607431843413802498945894012713851066124786805261079657337574576308514295925628860480467615783231662195591129014605540097445001687599585446836429234580664852699242549957445990740172899524685958996208776609169399497367160997430512407681683123171784598652901996514912642847078127432663328624316051972217047062882665426503612511795266155645244424551253316094542480378550308775376682571246888511227032495912028705342199001923748671571336176480428979194500941290842689403128107961445436278402394546114294271192491401788220286989174889405483297430057373120994210760224462008105860936822212604834538885027,[0,1,2,3,4,5,6,22,29],3⟩
def iq.sat(w:World)(G:Shared)(q:Pr)(A:AA):= @RD.sat w G (iq.D w.2 q A) (by walk_at "R")
def ir.D(P:Params)(q:Pr)(A:AA):RD:=⟨[(q.j 0,q.a 0+822,lO 0 [.int 9 (q.u 1),.int (q.m 0) (q.u 2),.int (q.m 1) (q.u 3),.int (q.m 2) (q.u 4)]),
 (q.j 1,q.a 1+822,tO [.str aL (q.u 5),rA (q.a 8),rA (q.a 2)]),
 (q.j 2,q.a 2+822,lO 3 [rA (q.a 3),rA (q.a 4),rA (q.a 5)]),
 (q.j 3,q.a 3+822,tO [rA (q.a 9),.str ad (q.u 6)]),
 (q.j 4,q.a 4+822,tO [rA (q.a 10),.str av (q.u 7)]),
 (q.j 5,q.a 5+822,tO [rA (q.a 11),.str bb (q.u 8)]),
 (q.j 6,q.S.a 9+822,dA P q.S.a q.S.u ⟨⟨[q.c 20,q.c 21,q.c 22,q.c 23,q.c 24,q.c 25]⟩⟩ q.S.bbt),
 (q.j 7,q.S.a 11+822,oD q.S.bp q.S.bpn)],
 λ i=>⟨au 809 [rA (q.S.a 9),rA (q.a 1),rA (q.a 0),.int 4 (q.u 0)],14,i,q.L,λ _=>True,
 λ g=>⟨.ok (.ret .none),bg i [(7,oD (aK (q.r 2) (ae (C0 P).set1 bb) (.str bb (q.u 8)) (rA (g.n 4)) (aK (q.r 1) (ae (C0 P).set1 av) (.str av (q.u 7)) (rA (g.n 3)) (aK (q.r 0) (ae (C0 P).set1 ad) (.str ad (q.u 6)) (rA (g.n 2)) q.S.bp))) (be (q.r 2) (be (q.r 1) (be (q.r 0) q.S.bpn))))],
  [(g.n 2+822,tO [.int 9 (g.n 5),.int 0 (g.n 6),.int (q.m 0) (q.u 2)]),
  (g.n 3+822,tO [.int 9 (g.n 7),.int (q.m 0) (g.n 8),.int (q.m 1) (q.u 3)]),
  (g.n 4+822,tO [.int 9 (g.n 9),.int (q.m 0+q.m 1) (g.n 10),.int (q.m 2) (q.u 4)])],q.L⟩⟩,
 λ i b t=>[c 0 (.dict 3 (.str ad (q.u 6)) [rA (b+15)] q.S.bp (q.r 0) (ae (C0 P).set1 ad) .none),
 c 0 (.full (aj (.call (.builtin "sum") ⟨[rA (b+21)],[]⟩) 12 i [.o 29 ((b+21)+822) (lO 0 [.int (q.m 0) (q.u 2)])] q.L (λ g0=>A 1 [g0]) λ g0=>(.ok (.ret (.int (q.m 0) (g0.n 2))),[],[],q.L))),
 c 1 λ g0=>.dict 3 (.str av (q.u 7)) [rA (g0.n 0+0)] (aK (q.r 0) (ae (C0 P).set1 ad) (.str ad (q.u 6)) (rA (b+15)) q.S.bp) (q.r 1) (ae (C0 P).set1 av) .none,
 c 1 λ g0=>.full (aj (.call (.builtin "sum") ⟨[rA (g0.n 0+6)],[]⟩) 12 i [.o 36 ((g0.n 0+6)+822) (lO 0 [.int (q.m 0) (q.u 2),.int (q.m 1) (q.u 3)])] q.L (λ g1=>A 3 [g0,g1]) λ g1=>(.ok (.ret (.int (q.m 0+q.m 1) (g1.n 2))),[],[],q.L)),
 c 2 λ g0 g1=>.dict 3 (.str bb (q.u 8)) [rA (g1.n 0+0)] (aK (q.r 1) (ae (C0 P).set1 av) (.str av (q.u 7)) (rA (g0.n 0+0)) (aK (q.r 0) (ae (C0 P).set1 ad) (.str ad (q.u 6)) (rA (b+15)) q.S.bp)) (q.r 2) (ae (C0 P).set1 bb) .none],
 λ b t=>ap 2 λ g0 g1=>⟨[g1.n 0+3,g1.n 1+5,b+15,g0.n 0+0,g1.n 0+0,t+16,t+20,t+29,g0.n 2,g0.n 1+8,g1.n 2],q.L,[],[],#[]⟩,ax 2014 448 328629169467577736141553696951158564562008468518541032549552212306834561251302791455914757063270752552853892078447909233261896778854302864698147631477144457237962289380808811456218399878457309003074788233743660530972035269161818523449893366630587957781343163812098478725864114354730099373253949810585578129963657154646966401551536922540624531424720931070181668633456121075824248232878892236302478020594778773746067635210029148418567190752370786644415981767253316481649425025235236772197812911554201664012269705617605773952007915024288886122140482395460510289663456944789363544093529971996760648871292220053508037080195488537143991387897468200120613214720861195425571593673765853036572899000143544164947980721334411498085765420256828028501940212010973500563397851794020551523205898873103157497866178489571653103592536410911736511066937132792105828661046011078453961407479153638596029988549772770899478300961994538340856890272444889772367957573450151460489272446767518865527189968680902095651891352733513188319169026466319482352013997317282679296251335023415196734175982667293431619256395389751341327167729475294420516255903754921387211752138712998479945084001505580752128784822960405866161632808859587813783267514602784367052817399105803485605043633639642775673591965898444488259514500978297503897167539110457244703531781932152551195359469159646064256610606714891448758118265642324863007886837195757281210226906621174442979190526121558742774320054077450307054294798946397717384667,[0,1,2,3,4,5,6,7,23,30,37],5⟩
def ir.sat(w:World)(G:Shared)(q:Pr)(A:AA):= @RD.sat w G (ir.D w.2 q A) (by walk_at "R")
def lE.D(P:Params)(q:Pr)(x:T2):RD:=⟨[(q.j 0,q.a 0+822,lO 0 [.int 9 (q.u 1),.int (x.p 1 2) (q.u 2)]),
 (q.j 1,q.a 1+822,tO [.str eN (q.u 3),rA (q.a 4),rA (q.a 5)]),
 (q.j 2,q.S.a 9+822,dA P q.S.a q.S.u ⟨⟨[q.c 20,q.c 21,q.c 22,q.c 23,q.c 24,q.c 25]⟩⟩ q.S.bbt),
 (q.j 3,q.S.a 12+822,ol ⟨⟨[q.c 0,q.c 1,q.c 2,q.c 3,q.c 4,q.c 5]⟩⟩ q.S.t1 ⟨⟨[q.c 6,q.c 7,q.c 8,q.c 9,q.c 10,q.c 11]⟩⟩ q.S.t2)],
 λ i=>⟨au 809 [rA (q.S.a 9),rA (q.a 1),rA (q.a 0),.int 2 (q.u 0)],1,i,q.L,λ _=>True,
 λ g=>⟨.ok (.ret .none),bg i [(2,dA P q.S.a q.S.u ⟨⟨[q.c (x.p 0 6),q.c (x.p 1 7),q.c (x.p 2 8),q.c (x.p 3 9),q.c (x.p 4 10),q.c (x.p 5 11)]⟩⟩ (x.p q.S.t1 q.S.t2))],
  [],q.L⟩⟩,
 λ i b t=>[],
 λ b t=>ap 0 (⟨[b+1,t+20],q.L,[],[],#[]⟩),ax 6 66 988215088161915924761197484327156360354468133898747,[0,1,2,3],0⟩
theorem lE.sat(w:World)(G:Shared)(q:Pr)(x:T2):ai w G (lE.D w.2 q x).Z:=RD.sat (by cases x<;>walk_at "R") (λ b t=>
 λ _ _=>trivial)
def lF.D(P:Params)(q:Pr)(x:T2):RD:=⟨[(q.j 0,q.a 0+822,lO 0 [.int 9 (q.u 1),.int (x.p 1 2) (q.u 2)]),
 (q.j 1,q.a 1+822,tO [.str eO (q.u 3),rA (q.a 4),rA (q.a 5)]),
 (q.j 2,q.S.a 9+822,dA P q.S.a q.S.u ⟨⟨[q.c 20,q.c 21,q.c 22,q.c 23,q.c 24,q.c 25]⟩⟩ q.S.bbt),
 (q.j 3,q.S.a 12+822,ol ⟨⟨[q.c 0,q.c 1,q.c 2,q.c 3,q.c 4,q.c 5]⟩⟩ q.S.t1 ⟨⟨[q.c 6,q.c 7,q.c 8,q.c 9,q.c 10,q.c 11]⟩⟩ q.S.t2)],
 λ i=>⟨au 809 [rA (q.S.a 9),rA (q.a 1),rA (q.a 0),.int 2 (q.u 0)],1,i,q.L,λ _=>True,
 λ g=>⟨.ok (.ret .none),bg i [(3,ol ⟨⟨[q.c (x.p 20 0),q.c (x.p 21 1),q.c (x.p 22 2),q.c (x.p 23 3),q.c (x.p 24 4),q.c (x.p 25 5)]⟩⟩ (x.p q.S.bbt q.S.t1) ⟨⟨[q.c (x.p 6 20),q.c (x.p 7 21),q.c (x.p 8 22),q.c (x.p 9 23),q.c (x.p 10 24),q.c (x.p 11 25)]⟩⟩ (x.p q.S.t2 q.S.bbt))],
  [],q.L⟩⟩,
 λ i b t=>[],
 λ b t=>ap 0 (⟨[b+1,t+21],q.L,[],[],#[]⟩),ax 6 70 2362635263157630637567308741030234288812003691311172091,[0,1,2,3],0⟩
theorem lF.sat(w:World)(G:Shared)(q:Pr)(x:T2):ai w G (lF.D w.2 q x).Z:=RD.sat (by cases x<;>walk_at "R") (λ b t=>
 λ _ _=>trivial)
def lG.D(P:Params)(q:Pr):RD:=⟨[(q.j 0,q.a 0+822,lO 0 [.str (q.s 0) (q.u 1)]),
 (q.j 1,q.a 1+822,tO [.str cq (q.u 2),.str ad (q.u 3),rA (q.a 4)]),
 (q.j 2,q.S.a 9+822,dA P q.S.a q.S.u ⟨⟨[q.c 20,q.c 21,q.c 22,q.c 23,q.c 24,q.c 25]⟩⟩ q.S.bbt),
 (q.j 3,q.S.a 11+822,oD q.S.bp q.S.bpn)],
 λ i=>⟨au 809 [rA (q.S.a 9),rA (q.a 1),rA (q.a 0),.int 1 (q.u 0)],1,i,q.L,λ _=>True,
 λ g=>⟨.ok (.ret .none),bg i [],
  [],q.L⟩⟩,
 λ i b t=>[c 0 (.dict 1 (.str ad (t+14)) [] q.S.bp none (ae (C0 P).set1 ad) (.bool false))],
 λ b t=>ap 0 (⟨[b+1,t+18],q.L,[],[],#[]⟩),ax 7 53 288939775878832273684546156407874146442246736,[0,1,2,3],1⟩
def lG.sat(w:World)(G:Shared)(q:Pr):= @RD.sat w G (lG.D w.2 q) (by walk_at "R")
def cK.D(P:Params)(q:Pr)(x y:T3):RD:=⟨[(q.j 0,q.a 0+822,lO 0 [.str (x.p gw aa cy) (q.u 1)]),
 (q.j 1,q.a 1+822,tO [.str cq (q.u 2),.str ad (q.u 3),rA (q.a 5)]),
 (q.j 2,q.S.a 9+822,dA P q.S.a q.S.u ⟨⟨[q.c 20,q.c 21,q.c 22,q.c 23,q.c 24,q.c 25]⟩⟩ q.S.bbt),
 (q.j 3,q.S.a 11+822,oD q.S.bp q.S.bpn),
 (q.j 4,(q.p 0).ba+822,xw {q.p 0 with at_:=0,many:=(y.p 0 1 2)})],
 λ i=>⟨au 809 [rA (q.S.a 9),rA (q.a 1),rA (q.a 0),.int 1 (q.u 0)],1,i,q.L,λ _=>True,
 λ g=>⟨.ok (.ret .none),bg i (y.p [] [(2,dA P q.S.a q.S.u ⟨⟨[x.p 112 32 120,q.c 21,q.c 22,q.c 23,q.c 24,q.c 25]⟩⟩ (g.n 2))] [(2,dA P q.S.a q.S.u ⟨⟨[x.p 112 32 120,x.p 113 32 121,q.c 22,q.c 23,q.c 24,q.c 25]⟩⟩ (g.n 2))]),
  [],q.L⟩⟩,
 λ i b t=>[c 0 (.dict 1 (.str ad (t+14)) [] q.S.bp (some 0) (ae (C0 P).set1 ad) (.bool true)),
 c 0 (.dict 0 (.str ad (t+20)) [] q.S.bp (some 0) (ae (C0 P).set1 ad) (rA (q.p 0).ba))],
 λ b t=>ap 0 (⟨y.p [b+7,t+x.p 38 37 38] [b+7,t+x.p 40 39 40,t+x.p 37 36 37] [b+7,t+x.p 40 38 40,t+x.p 37 35 37],q.L,[],[],#[]⟩),ax 13 164 84129907947111416300992542800971336510538324115267443016497544301850000441811601645863297413465154272238273526688885763347866256128704184621842126569096838968036632647585608732066692,[0,1,2,3,4],2⟩
def cK.sat(w:World)(G:Shared)(q:Pr)(x y:T3):= @RD.sat w G (cK.D w.2 q x y) (by cases x<;>cases y<;>walk_at "R")
def Du.D(P:Params)(q:Pr)(x:T2):RD:=⟨[(q.j 0,q.a 0+822,oL (q.l 1)),
 (q.j 1,q.a 1+822,tO (x.p [.str (q.s 0) (q.u 1),q.v 1,q.v 2] [.str (q.s 0) (q.u 1),q.v 1,q.v 2,q.v 3,q.v 4]))],
 λ i=>⟨au 809 [rA (q.S.a 9),rA (q.a 1),rA (q.a 0),.int (q.m 0) (q.u 0)],2,i,q.L,λ _=>True,
 λ g=>⟨.ok (.ret .none),bg i [],
  [],q.L⟩⟩,
 λ i b t=>[c 0 (.pure (bL "str.__eq__" (q.s 0) aC (q.u 1) (t+6) false)),
 c 0 (.full (xy (q.a 0+822) 0 (q.l 1) q.L)),
 c 1 λ g0=>.pure (aX "int.__lt__" (q.m 0) (Int.ofNat (q.l 1).length) (q.u 0) (g0.n 2) true)],
 λ b t=>ap 1 λ g0=>⟨[g0.n 0+0,g0.n 1+0],q.L,[],[],#[]⟩,ax 4 28 48148707429056509,[0,1],3⟩
def Du.sat(w:World)(G:Shared)(q:Pr)(x:T2):= @RD.sat w G (Du.D w.2 q x) (by cases x<;>walk_at "R")
def wS.zo(i:List (Nat×Nat×Obj))(P:Params)(q:Pr)(x:T2)(y:OV)(s:Array (Option Value))(g:Gh):SB:=⟨.ok .next,bg i [(0,Bg P q .b s g),
  (1,eT (g.n 4)),
  (4,oD ⟨tE (g.vl 0)⟩ (g.n 5))],
  [],g.l⟩
def wS.D(P:Params)(q:Pr)(x:T2)(y:OV)(A:AA):RD:=⟨[(q.j 0,q.a 0+822,gg (x.p 5 (q.en 4)) (q.sl 0) (x.p [kS P bN (q.u 0) (rA (q.S.a 9)),kS P cB (q.u 1) (rA (q.a 10)),kS P ay (q.u 2) (rA (q.a 11)),kS P az (q.u 3) (.int (q.m 1) (q.u 4)),kS P aV (q.u 5) (.str aC (q.u 6))] [kS P bN (q.u 0) (rA (q.S.a 9)),kS P cB (q.u 1) (rA (q.a 10)),kS P ay (q.u 2) (rA (q.a 11)),kS P az (q.u 3) (.int (q.m 1) (q.u 4)),kS P aV (q.u 5) (.str aC (q.u 6)),kS P cS (q.u 7) (q.v 4)])),
 (q.j 1,q.a 1+822,dB (q.a 2+822) (q.j 9)),
 (q.j 2,q.a 2+822,lO (q.en 2) (q.l 1)),
 (q.j 3,q.S.a 9+822,dA P q.S.a q.S.u q.S.bbuf q.S.bbt),
 (q.j 4,q.S.a 10+822,oD q.S.bo q.S.bon)],
 λ i=>⟨cg (aq (Bf (aq (fB (aq bY 116)) 1)) 0) (rA (q.a 1)) (ci (ig P) 809 (q.a 0+822)),50,i,q.L,λ g=>A 99 [g],
 λ g=>wS.zo i P q x y (g.sl (q.a 0+822)) g⟩,
 λ i b t=>[c 0 (.full (pf (q.a 1+822) (q.a 2+822) 1 2 (q.en 2) (q.l 1) (q.j 9) (.int (q.m 0) (q.c 0)) q.L)),
 c 1 λ g0=>.dict 4 (.int (q.m 0) (q.c 0)) [.none] q.S.bo (q.r 0) (hashInt (q.m 0)) y.v,
 c 1 λ g0=>.full (aj (cg (aq (Bf (aq (fB (aq bY 116)) 1)) 0) (rA (q.a 1)) (ci (ig P) 809 (q.a 0+822))) 50 i [.o 0 (q.a 0+822) (gg (x.p 6 (q.en 4)) (g0.sl (q.a 0+822)) [kS P bN (q.u 0) (rA (q.S.a 9)),kS P cB (q.u 1) (rA (q.a 10)),kS P ay (q.u 2) (rA (q.a 11)),kS P az (q.u 3) (.int (q.m 1) (q.u 4)),kS P aV (q.u 5) (.str aC (q.u 6)),kS P cS (x.p (g0.n 1+0) (q.u 7)) (.int (q.m 0) (q.c 0))]),.o 1 (q.a 1+822) (dB (q.a 2+822) (q.j 9+1)),.k 2,.k 3,.o 4 (q.S.a 10+822) (oD (lV (q.r 0) q.S.bo) (nJ (q.r 0) q.S.bon))] q.L (λ g1=>A 2 [g0,g1]) λ g1=>(.ok .next,[(0,Bg P q .b (g1.sl (q.a 0+822)) g1),(1,eT (g1.n 4)),(4,oD ⟨tE (g1.vl 0)⟩ (g1.n 5))],[],g1.l))],
 λ b t=>ap 2 λ g0 g1=>⟨[g1.n 0+0,g1.n 1+0,g1.n 2,g1.n 3,g1.n 4,g1.n 5],g1.l,[g1.v 0],g1.vl 0,g1.sl (q.a 0+822)⟩,ax 7 21 213150472397137898,[0,1,2,3,4],3⟩
def wS.sat(w:World)(G:Shared)(q:Pr)(x:T2)(y:OV)(A:AA):= @RD.satZ w G (wS.D w.2 q x y A) (by cases x<;>cases y<;>walk_at "Z") (λ b t gs sl h=>congrArg (λ s=>wS.zo (wS.D w.2 q x y A).i w.2 q x y s (((wS.D w.2 q x y A).e b t gs).gh sl)) (h.1 rfl).symm)
def yf.zo(i:List (Nat×Nat×Obj))(P:Params)(q:Pr)(y:T2)(s:Array (Option Value))(g:Gh):SB:=⟨.ok .next,bg i [(0,Bg P q y s g),
  (1,eT (g.n 4)),
  (4,oD ⟨tE (g.vl 0)⟩ (g.n 5))],
  [],g.l⟩
def yf.D(P:Params)(q:Pr)(y:T2)(A:AA):RD:=⟨[(q.j 0,q.a 0+822,gg (q.en 4) (q.sl 0) (y.p [kS P bN (q.u 0) (rA (q.S.a 9)),kS P cB (q.u 1) (rA (q.a 10)),kS P ay (q.u 2) (rA (q.a 11)),kS P az (q.u 3) (.int (q.m 1) (q.u 4)),kS P aV (q.u 5) (.str aC (q.u 6))] [kS P bN (q.u 0) (rA (q.S.a 9)),kS P cB (q.u 1) (rA (q.a 10)),kS P ay (q.u 2) (rA (q.a 11)),kS P az (q.u 3) (.int (q.m 1) (q.u 4)),kS P aV (q.u 5) (.str aC (q.u 6)),kS P cS (q.u 7) (q.v 4)])),
 (q.j 1,q.a 1+822,dB (q.a 2+822) (q.j 9)),
 (q.j 2,q.a 2+822,lO (q.en 2) (q.l 1)),
 (q.j 3,q.S.a 9+822,dA P q.S.a q.S.u q.S.bbuf q.S.bbt),
 (q.j 4,q.S.a 10+822,oD ⟨tE (q.l 2)⟩ q.S.bon)],
 λ i=>⟨cg (aq (Bf (aq (fB (aq bY 116)) 1)) 0) (rA (q.a 1)) (ci (ig P) 809 (q.a 0+822)),2,i,q.L,λ g=>A 99 [g],
 λ g=>yf.zo i P q y (g.sl (q.a 0+822)) g⟩,
 λ i b t=>[c 0 (.full (zv (q.a 1+822) (q.a 2+822) 1 2 (q.en 2) (q.l 1) (q.j 9) q.L))],
 λ b t=>ap 1 λ g0=>⟨[g0.n 0+0,g0.n 1+0,q.en 4,q.u 7,q.j 9,q.S.bon],q.L,[q.v 4],q.l 2,g0.sl (q.a 0+822)⟩,ax 7 4 2170,[0,1,2,3,4],1⟩
def yf.sat(w:World)(G:Shared)(q:Pr)(y:T2)(A:AA):= @RD.satZ w G (yf.D w.2 q y A) (by cases y<;>walk_at "Z") (λ b t gs sl h=>congrArg (λ s=>yf.zo (yf.D w.2 q y A).i w.2 q y s (((yf.D w.2 q y A).e b t gs).gh sl)) (h.1 rfl).symm)
def dc.D(P:Params)(q:Pr)(x:T3)(A:AA):RD:=⟨[(q.j 0,q.a 0+822,lO (q.en 2) (q.l 1)),
 (q.j 1,q.a 1+822,tO [.str aC (q.u 1),rA (q.a 4)]),
 (q.j 2,q.S.a 9+822,dA P q.S.a q.S.u q.S.bbuf q.S.bbt),
 (q.j 3,q.S.a 10+822,oD q.S.bo q.S.bon)],
 λ i=>⟨au 809 [rA (q.S.a 9),rA (q.a 1),rA (q.a 0),.int (q.m 1) (q.u 0)],51,i,q.L,λ g=>A 99 [g],
 λ g=>⟨.ok (.ret .none),bg i [(3,oD ⟨tE (g.vl 0)⟩ (g.n 2))],
  [],g.l⟩⟩,
 λ i b t=>[c 0 (.full (zx (q.a 0+822) ((b+1)+822) 0 5 (q.u 0) (q.m 1) (q.en 2) (q.l 1) q.L)),
 c 1 λ g0=>.full (aj (cg (aq (Bf (aq (fB (aq bY 116)) 1)) 0) (rA (g0.n 0+0)) (ci (ig P) 809 ((b+0)+822))) 50 i [.o 4 ((b+0)+822) (gg 5 (g0.sl ((b+0)+822)) [kS P bN (t+0) (rA (q.S.a 9)),kS P cB (t+1) (rA (q.a 1)),kS P ay (t+2) (rA (q.a 0)),kS P az (t+3) (.int (q.m 1) (q.u 0)),kS P aV (t+5) (.str aC (q.u 1))]),.o 7 ((g0.n 0+0)+822) ⟨.type "list_iterator",none,.fields ⟨[rA (g0.n 2),.int 0 0]⟩,⟨[]⟩⟩,.o 6 (g0.n 2+822) (lO 0 (bJ (q.m 1) (q.l 1))),.k 2,.k 3] q.L (λ g1=>A 1 [g0,g1]) λ g1=>(.ok .next,[(0,Bg P ⟨q.S,tk [0,0,0,0,0,0,0,0,0,0,q.a 1,q.a 0],tk [t+0,t+1,t+2,t+3,q.u 0,t+5,q.u 1],q.j,q.c,q.m,q.s,q.o,q.v,q.l,q.e,q.en,q.h,q.p,q.r,q.sl,q.L⟩ (x.p .a .b .b) (g1.sl ((b+0)+822)) g1),(1,eT (g1.n 4)),(4,oD ⟨tE (g1.vl 0)⟩ (g1.n 5))],[],g1.l)),
 c 2 λ g0 g1=>.full (xB (q.a 0+822) 0 (q.en 2) (q.l 1) g1.l),
 c 3 λ g0 g1 g2=>.pure (aX "int.__lt__" (q.m 1) (Int.ofNat (q.l 1).length) (q.u 0) (g2.n 2) (x.p true true false))],
 λ b t=>ap 3 λ g0 g1 g2=>⟨[g2.n 0+0,g2.n 1+x.p 0 0 1,g1.n 5],g1.l,[],g1.vl 0,#[]⟩,ax 9 (x.p 42 42 44) (x.p 3293778375742217702238702286907336958799 3293778375742217702238702286907336958799 63156354288552316645252402420492572487204),[0,1,2,3],4⟩
def dc.sat(w:World)(G:Shared)(q:Pr)(x:T3)(A:AA):= @RD.sat w G (dc.D w.2 q x A) (by cases x<;>walk_at "R")
def rB.D(P:Params)(q:Pr)(x:T2)(A:AA):RD:=⟨[(q.j 0,q.a 0+822,gf (q.a 1+822)),
 (q.j 1,q.a 1+822,gk P q.u 0 (q.S.a 0+822) (q.a 3+822) (q.a 4+822) (q.a 2+822)),
 (q.j 2,q.a 2+822,aO (q.en 1) (q.ar 0)),
 (q.j 3,q.S.a 0+822,oW q.S.a),
 (q.j 4,q.S.a 1+822,bm P q.S.a q.S.u),
 (q.j 5,q.a 5+822,tO [.str (x.p eN eO) (q.u 9),rA (q.a 6),rA (q.a 7)])],
 λ i=>⟨au 326 [rA (q.a 0),rA (q.a 5)],41,i,q.L,λ g=>A 99 [g],
 λ g=>⟨.ok (.ret .none),bg i [(2,aO (g.n 2) ⟨g.vl 0⟩)],
  [],g.l⟩⟩,
 λ i b t=>[c 0 (.full (aj (au 694 [rA (q.a 0),rA (q.a 6)]) 40 i [.k 0,.k 1,.k 2,.k 3,.k 4] q.L (λ g0=>A 0 [g0]) λ g0=>(.ok (.ret (.int (q.m 0) (g0.n 3))),[(2,aO (g0.n 2) ⟨g0.vl 0⟩)],[],g0.l))),
 c 1 λ g0=>.full (aj (au 694 [rA (q.a 0),rA (q.a 7)]) 40 i [.k 0,.k 1,.o 2 (q.a 2+822) (aO (g0.n 2) ⟨g0.vl 0⟩),.k 3,.k 4] g0.l (λ g1=>A 1 [g0,g1]) λ g1=>(.ok (.ret (.int (q.m 1) (g1.n 3))),[(2,aO (g1.n 2) ⟨g1.vl 0⟩)],[],g1.l)),
 c 2 λ g0 g1=>.full (aj (.call (.ref (x.p 264 271)) ⟨x.p [rA (q.S.a 0),.int (q.m 0) (g0.n 3),.int (q.m 1) (g1.n 3)] [rA (q.S.a 0),.int (q.m 0) (g0.n 3),.int (q.m 1) (g1.n 3),.int 2000 (q.S.u 9)],[]⟩) 40 i [.k 3,.k 4] g1.l (λ g2=>A 2 [g0,g1,g2]) λ g2=>(.ok (.ret .none),[],[],g2.l))],
 λ b t=>ap 3 λ g0 g1 g2=>⟨[g2.n 0+0,g2.n 1+0,g1.n 2],g2.l,[],g1.vl 0,#[]⟩,ax 12 (x.p 143 156) (x.p 10816788768753165612277192338956837929331128786336526638668806023229894173967005674411098647296527843890930800875523849299380111276131933686089341433010821 1157040520240128053554269217903849022900103700639873432318652991690813727459907905347430498810643028999055084892149266380715975586421649224697086150788826364312138275461),[0,1,2,3,4,5],3⟩
def rB.sat(w:World)(G:Shared)(q:Pr)(x:T2)(A:AA):= @RD.sat w G (rB.D w.2 q x A) (by cases x<;>walk_at "R")
def ki.D(P:Params)(q:Pr)(x:T2)(A:AA):RD:=⟨[(q.j 0,q.a 0+822,gf (q.a 1+822)),
 (q.j 1,q.a 1+822,gk P q.u 0 (q.S.a 0+822) (q.a 3+822) (q.a 4+822) (q.a 2+822)),
 (q.j 2,q.a 2+822,aO (q.en 1) (q.ar 0)),
 (q.j 3,q.S.a 0+822,oW q.S.a),
 (q.j 4,q.S.a 1+822,bm P q.S.a q.S.u),
 (q.j 5,q.a 5+822,tO [.str (x.p eN eO) (q.u 9),rA (q.a 6),rA (q.a 7)])],
 λ i=>⟨au 326 [rA (q.a 0),rA (q.a 5)],41,i,q.L,λ g=>A 99 [g],
 λ g=>⟨.error (rA (g.n 7)),bg i [(2,aO (g.n 2) ⟨g.vl 0⟩)],
  dN P (q.s 5) g,g.l⟩⟩,
 λ i b t=>[c 0 (.full (aj (au 694 [rA (q.a 0),rA (q.a 6)]) 40 i [.k 0,.k 1,.k 2,.k 3,.k 4] q.L (λ g0=>A 0 [g0]) λ g0=>(.error (rA (g0.n 7)),[(2,aO (g0.n 2) ⟨g0.vl 0⟩)],dN P (q.s 5) g0,g0.l))),
 none],
 λ b t=>ap 2 λ g0 g1=>⟨[g0.n 0+1,g0.n 1+0,g0.n 2,g0.n 3,(b+0)+822,g0.n 0+0,g0.n 6,g0.n 7,g0.n 8,g0.n 9,g0.n 10],g0.l,(.ref (g0.n 5+822))::g1.vl 0,g0.vl 0,#[]⟩,ax 14 101 28642189030138161093622799010247256950709734117880532949125611710906840362430587397625327484028097764692446893471735,[0,1,2,3,4,5,11,12,14],2⟩
def ki.sat(w:World)(G:Shared)(q:Pr)(x:T2)(A:AA):= @RD.sat w G (ki.D w.2 q x A) (by cases x<;>walk_at "R")
def kj.D(P:Params)(q:Pr)(x:T2)(A:AA):RD:=⟨[(q.j 0,q.a 0+822,gf (q.a 1+822)),
 (q.j 1,q.a 1+822,gk P q.u 0 (q.S.a 0+822) (q.a 3+822) (q.a 4+822) (q.a 2+822)),
 (q.j 2,q.a 2+822,aO (q.en 1) (q.ar 0)),
 (q.j 3,q.S.a 0+822,oW q.S.a),
 (q.j 4,q.S.a 1+822,bm P q.S.a q.S.u),
 (q.j 5,q.a 5+822,tO [.str (x.p eN eO) (q.u 9),rA (q.a 6),rA (q.a 7)])],
 λ i=>⟨au 326 [rA (q.a 0),rA (q.a 5)],41,i,q.L,λ g=>A 99 [g],
 λ g=>⟨.error (rA (g.n 7)),bg i [(2,aO (g.n 2) ⟨g.vl 0⟩)],
  dN P (q.s 5) g,g.l⟩⟩,
 λ i b t=>[c 0 (.full (aj (au 694 [rA (q.a 0),rA (q.a 6)]) 40 i [.k 0,.k 1,.k 2,.k 3,.k 4] q.L (λ g0=>A 0 [g0]) λ g0=>(.ok (.ret (.int (q.m 0) (g0.n 3))),[(2,aO (g0.n 2) ⟨g0.vl 0⟩)],[],g0.l))),
 c 1 λ g0=>.full (aj (au 694 [rA (q.a 0),rA (q.a 7)]) 40 i [.k 0,.k 1,.o 2 (q.a 2+822) (aO (g0.n 2) ⟨g0.vl 0⟩),.k 3,.k 4] g0.l (λ g1=>A 1 [g0,g1]) λ g1=>(.error (rA (g1.n 7)),[(2,aO (g1.n 2) ⟨g1.vl 0⟩)],dN P (q.s 5) g1,g1.l)),
 none],
 λ b t=>ap 3 λ g0 g1 g2=>⟨[g1.n 0+1,g1.n 1+0,g1.n 2,g1.n 3,(b+0)+822,g1.n 0+0,g1.n 6,g1.n 7,g1.n 8,g1.n 9,g1.n 10],g1.l,(.ref (g1.n 5+822))::g2.vl 0,g1.vl 0,#[]⟩,ax 14 136 372809916143272343073220100293600089006242306723546764318353694448613581149455003710268765139070779360888621644875567140510306388591617073892605973179561975,[0,1,2,3,4,5,11,12,14],3⟩
def kj.sat(w:World)(G:Shared)(q:Pr)(x:T2)(A:AA):= @RD.sat w G (kj.D w.2 q x A) (by cases x<;>walk_at "R")
def kk.D(P:Params)(q:Pr)(A:AA):RD:=⟨[(q.j 0,q.a 0+822,gf (q.a 1+822)),
 (q.j 1,q.a 1+822,gk P q.u 0 (q.S.a 0+822) (q.a 3+822) (q.a 4+822) (q.a 2+822)),
 (q.j 2,q.a 2+822,aO (q.en 1) (q.ar 0)),
 (q.j 3,q.S.a 0+822,oW q.S.a),
 (q.j 4,q.S.a 1+822,bm P q.S.a q.S.u),
 (q.j 5,q.a 5+822,tO [.str bv (q.u 9),.str (q.s 4) (q.u 10),rA (q.a 7),rA (q.a 6),.none])],
 λ i=>⟨au 326 [rA (q.a 0),rA (q.a 5)],41,i,q.L,λ g=>A 99 [g],
 λ g=>⟨.ok (.ret .none),bg i [(2,aO (g.n 2) ⟨g.vl 0⟩)],
  [],g.l⟩⟩,
 λ i b t=>[c 0 (.full (aj (au 687 [rA (q.a 0),rA (q.a 6)]) 40 i [.k 0,.k 1,.k 2,.k 3,.k 4] q.L (λ g0=>A 0 [g0]) λ g0=>(.ok (.ret (.str (q.s 0) (q.c 0))),[(2,aO (g0.n 2) ⟨g0.vl 0⟩)],[],g0.l))),
 c 1 λ g0=>.full (aj (au 694 [rA (q.a 0),rA (q.a 7)]) 40 i [.k 0,.k 1,.o 2 (q.a 2+822) (aO (g0.n 2) ⟨g0.vl 0⟩),.k 3,.k 4] g0.l (λ g1=>A 1 [g0,g1]) λ g1=>(.ok (.ret (.int (q.m 0) (g1.n 3))),[(2,aO (g1.n 2) ⟨g1.vl 0⟩)],[],g1.l)),
 c 2 λ g0 g1=>.full (aj (au 175 [rA (q.S.a 0),.str (q.s 4) (q.u 10),.int (q.m 0) (g1.n 3),.str (q.s 0) (q.c 0),.int 128 643]) 40 i [.k 3,.k 4] g1.l (λ g2=>A 2 [g0,g1,g2]) λ g2=>(.ok (.ret .none),[],[],g2.l))],
 λ b t=>ap 3 λ g0 g1 g2=>⟨[g2.n 0+0,g2.n 1+0,g1.n 2],g2.l,[],g1.vl 0,#[]⟩,ax 13 157 3669045559800285846546389198236621773996822445559232159823191211116116704995773056495335429354619913598805087023674293956193977555930410004313692254757996270449595636524451777,[0,1,2,3,4,5],3⟩
def kk.sat(w:World)(G:Shared)(q:Pr)(A:AA):= @RD.sat w G (kk.D w.2 q A) (by walk_at "R")
def kl.D(P:Params)(q:Pr)(A:AA):RD:=⟨[(q.j 0,q.a 0+822,gf (q.a 1+822)),
 (q.j 1,q.a 1+822,gk P q.u 0 (q.S.a 0+822) (q.a 3+822) (q.a 4+822) (q.a 2+822)),
 (q.j 2,q.a 2+822,aO (q.en 1) (q.ar 0)),
 (q.j 3,q.S.a 0+822,oW q.S.a),
 (q.j 4,q.S.a 1+822,bm P q.S.a q.S.u),
 (q.j 5,q.a 5+822,tO [.str bv (q.u 9),.str (q.s 4) (q.u 10),rA (q.a 7),rA (q.a 6),rA (q.a 8)])],
 λ i=>⟨au 326 [rA (q.a 0),rA (q.a 5)],41,i,q.L,λ g=>A 99 [g],
 λ g=>⟨.ok (.ret .none),bg i [(2,aO (g.n 2) ⟨g.vl 0⟩)],
  [],g.l⟩⟩,
 λ i b t=>[c 0 (.full (aj (au 687 [rA (q.a 0),rA (q.a 6)]) 40 i [.k 0,.k 1,.k 2,.k 3,.k 4] q.L (λ g0=>A 0 [g0]) λ g0=>(.ok (.ret (.str (q.s 0) (q.c 0))),[(2,aO (g0.n 2) ⟨g0.vl 0⟩)],[],g0.l))),
 c 1 λ g0=>.full (aj (au 694 [rA (q.a 0),rA (q.a 7)]) 40 i [.k 0,.k 1,.o 2 (q.a 2+822) (aO (g0.n 2) ⟨g0.vl 0⟩),.k 3,.k 4] g0.l (λ g1=>A 1 [g0,g1]) λ g1=>(.ok (.ret (.int (q.m 0) (g1.n 3))),[(2,aO (g1.n 2) ⟨g1.vl 0⟩)],[],g1.l)),
 c 2 λ g0 g1=>.full (aj (au 694 [rA (q.a 0),rA (q.a 8)]) 40 i [.k 0,.k 1,.o 2 (q.a 2+822) (aO (g1.n 2) ⟨g1.vl 0⟩),.k 3,.k 4] g1.l (λ g2=>A 2 [g0,g1,g2]) λ g2=>(.ok (.ret (.int (q.m 1) (g2.n 3))),[(2,aO (g2.n 2) ⟨g2.vl 0⟩)],[],g2.l)),
 c 3 λ g0 g1 g2=>.full (aj (au 175 [rA (q.S.a 0),.str (q.s 4) (q.u 10),.int (q.m 0) (g1.n 3),.str (q.s 0) (q.c 0),.int (q.m 1) (g2.n 3)]) 40 i [.k 3,.k 4] g2.l (λ g3=>A 3 [g0,g1,g2,g3]) λ g3=>(.ok (.ret .none),[],[],g3.l))],
 λ b t=>ap 4 λ g0 g1 g2 g3=>⟨[g3.n 0+0,g3.n 1+0,g2.n 2],g3.l,[],g2.vl 0,#[]⟩,ax 13 182 25890289833177362730044372890384921272947203203693923356015921534402819983440262292570789470098159176600428706156665225762978769749960566916646228034276770737631221705592446777043200813337703631695102635,[0,1,2,3,4,5],4⟩
def kl.sat(w:World)(G:Shared)(q:Pr)(A:AA):= @RD.sat w G (kl.D w.2 q A) (by walk_at "R")
def jb.D(P:Params)(q:Pr)(x:AV)(A:AA):RD:=⟨[(q.j 0,q.a 0+822,gf (q.a 1+822)),
 (q.j 1,q.a 1+822,gk P q.u 0 (q.S.a 0+822) (q.a 3+822) (q.a 4+822) (q.a 2+822)),
 (q.j 2,q.a 2+822,aO (q.en 1) (q.ar 0)),
 (q.j 3,q.S.a 0+822,oW q.S.a),
 (q.j 4,q.S.a 1+822,bm P q.S.a q.S.u),
 (q.j 5,q.a 5+822,tO [.str bv (q.u 9),.str (q.s 4) (q.u 10),rA (q.a 7),rA (q.a 6),q.v 0])],
 λ i=>⟨au 326 [rA (q.a 0),rA (q.a 5)],41,i,q.L,λ g=>A 99 [g],
 λ g=>⟨.error (rA (g.n 7)),bg i [(2,aO (g.n 2) ⟨g.vl 0⟩)],
  dN P (q.s 5) g,g.l⟩⟩,
 λ i b t=>[c 0 (.full (aj (au 687 [rA (q.a 0),rA (q.a 6)]) 40 i [.k 0,.k 1,.k 2,.k 3,.k 4] q.L (λ g0=>A 0 [g0]) λ g0=>(.ok (.ret x.v),[(2,aO (g0.n 2) ⟨g0.vl 0⟩)],[],g0.l))),
 c 1 λ g0=>.full (aj (au 142 [x.v]) 40 i [] g0.l (λ g1=>A 1 [g0,g1]) λ g1=>(.error (rA (g1.n 7)),[],dN P (q.s 5) g1,g0.l)),
 none],
 λ b t=>ap 3 λ g0 g1 g2=>⟨[g1.n 0+1,g1.n 1+0,g0.n 2,g1.n 3,(b+0)+822,g1.n 0+0,g1.n 6,g1.n 7,g1.n 8,g1.n 9,g1.n 10],g0.l,(.ref (g1.n 5+822))::g2.vl 0,g0.vl 0,#[]⟩,ax 14 97 745579680836748228572541180785003727732532578665085359894199690356441590678758325333227571937632007411183548407,[0,1,2,3,4,5,11,12,14],3⟩
def jb.sat(w:World)(G:Shared)(q:Pr)(x:AV)(A:AA):= @RD.sat w G (jb.D w.2 q x A) (by cases x<;>walk_at "R")
def jc.D(P:Params)(q:Pr)(A:AA):RD:=⟨[(q.j 0,q.a 0+822,gf (q.a 1+822)),
 (q.j 1,q.a 1+822,gk P q.u 0 (q.S.a 0+822) (q.a 3+822) (q.a 4+822) (q.a 2+822)),
 (q.j 2,q.a 2+822,aO (q.en 1) (q.ar 0)),
 (q.j 3,q.S.a 0+822,oW q.S.a),
 (q.j 4,q.S.a 1+822,bm P q.S.a q.S.u),
 (q.j 5,q.a 5+822,tO [.str bv (q.u 9),.str (q.s 4) (q.u 10),rA (q.a 7),rA (q.a 6),q.v 0])],
 λ i=>⟨au 326 [rA (q.a 0),rA (q.a 5)],41,i,q.L,λ g=>A 99 [g],
 λ g=>⟨.error (rA (g.n 7)),bg i [(2,aO (g.n 2) ⟨g.vl 0⟩)],
  dN P (q.s 5) g,g.l⟩⟩,
 λ i b t=>[c 0 (.full (aj (au 687 [rA (q.a 0),rA (q.a 6)]) 40 i [.k 0,.k 1,.k 2,.k 3,.k 4] q.L (λ g0=>A 0 [g0]) λ g0=>(.ok (.ret (.str (q.s 0) (q.c 0))),[(2,aO (g0.n 2) ⟨g0.vl 0⟩)],[],g0.l))),
 c 1 λ g0=>.full (aj (au 694 [rA (q.a 0),rA (q.a 7)]) 40 i [.k 0,.k 1,.o 2 (q.a 2+822) (aO (g0.n 2) ⟨g0.vl 0⟩),.k 3,.k 4] g0.l (λ g1=>A 1 [g0,g1]) λ g1=>(.error (rA (g1.n 7)),[(2,aO (g1.n 2) ⟨g1.vl 0⟩)],dN P (q.s 5) g1,g1.l)),
 none],
 λ b t=>ap 3 λ g0 g1 g2=>⟨[g1.n 0+1,g1.n 1+0,g1.n 2,g1.n 3,(b+0)+822,g1.n 0+0,g1.n 6,g1.n 7,g1.n 8,g1.n 9,g1.n 10],g1.l,(.ref (g1.n 5+822))::g2.vl 0,g1.vl 0,#[]⟩,ax 15 134 18384500924561078066184112605772520604209887694906776134384051141671051194571821630881739815720435937252433558471824242458165249019055712159002040012133004681,[0,1,2,3,4,5,12,13,15],3⟩
def jc.sat(w:World)(G:Shared)(q:Pr)(A:AA):= @RD.sat w G (jc.D w.2 q A) (by walk_at "R")
def jd.D(P:Params)(q:Pr)(A:AA):RD:=⟨[(q.j 0,q.a 0+822,gf (q.a 1+822)),
 (q.j 1,q.a 1+822,gk P q.u 0 (q.S.a 0+822) (q.a 3+822) (q.a 4+822) (q.a 2+822)),
 (q.j 2,q.a 2+822,aO (q.en 1) (q.ar 0)),
 (q.j 3,q.S.a 0+822,oW q.S.a),
 (q.j 4,q.S.a 1+822,bm P q.S.a q.S.u),
 (q.j 5,q.a 5+822,tO [.str bv (q.u 9),.str (q.s 4) (q.u 10),rA (q.a 7),rA (q.a 6),rA (q.a 8)])],
 λ i=>⟨au 326 [rA (q.a 0),rA (q.a 5)],41,i,q.L,λ g=>A 99 [g],
 λ g=>⟨.error (rA (g.n 7)),bg i [(2,aO (g.n 2) ⟨g.vl 0⟩)],
  dN P (q.s 5) g,g.l⟩⟩,
 λ i b t=>[c 0 (.full (aj (au 687 [rA (q.a 0),rA (q.a 6)]) 40 i [.k 0,.k 1,.k 2,.k 3,.k 4] q.L (λ g0=>A 0 [g0]) λ g0=>(.ok (.ret (.str (q.s 0) (q.c 0))),[(2,aO (g0.n 2) ⟨g0.vl 0⟩)],[],g0.l))),
 c 1 λ g0=>.full (aj (au 694 [rA (q.a 0),rA (q.a 7)]) 40 i [.k 0,.k 1,.o 2 (q.a 2+822) (aO (g0.n 2) ⟨g0.vl 0⟩),.k 3,.k 4] g0.l (λ g1=>A 1 [g0,g1]) λ g1=>(.ok (.ret (.int (q.m 0) (g1.n 3))),[(2,aO (g1.n 2) ⟨g1.vl 0⟩)],[],g1.l)),
 c 2 λ g0 g1=>.full (aj (au 694 [rA (q.a 0),rA (q.a 8)]) 40 i [.k 0,.k 1,.o 2 (q.a 2+822) (aO (g1.n 2) ⟨g1.vl 0⟩),.k 3,.k 4] g1.l (λ g2=>A 2 [g0,g1,g2]) λ g2=>(.error (rA (g2.n 7)),[(2,aO (g2.n 2) ⟨g2.vl 0⟩)],dN P (q.s 5) g2,g2.l)),
 none],
 λ b t=>ap 4 λ g0 g1 g2 g3=>⟨[g2.n 0+1,g2.n 1+0,g2.n 2,g2.n 3,(b+0)+822,g2.n 0+0,g2.n 6,g2.n 7,g2.n 8,g2.n 9,g2.n 10],g2.l,(.ref (g2.n 5+822))::g3.vl 0,g2.vl 0,#[]⟩,ax 15 169 2676984839868322560184109141925375674711138105067944909709686883983100993089947734409801514871101753396880313865581162538719453003816183576222802496363487639863992512706119067236903333876712572457806,[0,1,2,3,4,5,12,13,15],4⟩
def jd.sat(w:World)(G:Shared)(q:Pr)(A:AA):= @RD.sat w G (jd.D w.2 q A) (by walk_at "R")
def ni.D(P:Params)(q:Pr)(A:AA):RD:=⟨[(q.j 0,q.a 0+822,gf (q.a 1+822)),
 (q.j 1,q.a 1+822,gk P q.u 0 (q.S.a 0+822) (q.a 3+822) (q.a 4+822) (q.a 2+822)),
 (q.j 2,q.a 2+822,aO (q.en 1) (q.ar 0)),
 (q.j 3,q.S.a 0+822,oW q.S.a),
 (q.j 4,q.S.a 1+822,bm P q.S.a q.S.u),
 (q.j 5,q.a 5+822,tO [.str aC (q.u 9),rA (q.a 10)]),
 (q.j 6,q.a 10+822,lO 0 [rA (q.a 6)])],
 λ i=>⟨au 326 [rA (q.a 0),rA (q.a 5)],42,i,q.L,λ g=>A 99 [g],
 λ g=>⟨.ok (.ret .none),bg i [(2,aO (g.n 2) ⟨g.vl 0⟩)],
  [],g.l⟩⟩,
 λ i b t=>[c 0 (.full (aj (au 694 [rA (q.a 0),rA (q.a 6)]) 40 i [.k 0,.k 1,.k 2,.k 3,.k 4] q.L (λ g0=>A 0 [g0]) λ g0=>(.ok (.ret (.int (q.m 0) (g0.n 3))),[(2,aO (g0.n 2) ⟨g0.vl 0⟩)],[],g0.l))),
 c 1 λ g0=>.full (aj (au 196 [rA (q.S.a 0),.int (q.m 0) (g0.n 3)]) 40 i [.k 3,.k 4] g0.l (λ g1=>A 1 [g0,g1]) λ g1=>(.ok (.ret .none),[],[],g1.l))],
 λ b t=>ap 2 λ g0 g1=>⟨[g1.n 0+2,g1.n 1+4,g0.n 2],g1.l,[],g0.vl 0,#[]⟩,ax 16 138 428395357170263815581093649481127766892367336747851213796028756580676305528903431637894422960110009167903309372252630312114858861958744740321802972615894014844504193,[0,1,2,3,4,5,6],2⟩
def ni.sat(w:World)(G:Shared)(q:Pr)(A:AA):= @RD.sat w G (ni.D w.2 q A) (by walk_at "R")
def km.D(P:Params)(q:Pr)(A:AA):RD:=⟨[(q.j 0,q.a 0+822,gf (q.a 1+822)),
 (q.j 1,q.a 1+822,gk P q.u 0 (q.S.a 0+822) (q.a 3+822) (q.a 4+822) (q.a 2+822)),
 (q.j 2,q.a 2+822,aO (q.en 1) (q.ar 0)),
 (q.j 3,q.S.a 0+822,oW q.S.a),
 (q.j 4,q.S.a 1+822,bm P q.S.a q.S.u),
 (q.j 5,q.a 5+822,tO [.str aC (q.u 9),rA (q.a 10)]),
 (q.j 6,q.a 10+822,lO (q.en 2) (rA (q.a 6)::q.l 1))],
 λ i=>⟨au 326 [rA (q.a 0),rA (q.a 5)],42,i,q.L,λ g=>A 99 [g],
 λ g=>⟨.error (rA (g.n 7)),bg i [(2,aO (g.n 2) ⟨g.vl 0⟩)],
  dN P (q.s 5) g,g.l⟩⟩,
 λ i b t=>[c 0 (.full (aj (au 694 [rA (q.a 0),rA (q.a 6)]) 40 i [.k 0,.k 1,.k 2,.k 3,.k 4] q.L (λ g0=>A 0 [g0]) λ g0=>(.error (rA (g0.n 7)),[(2,aO (g0.n 2) ⟨g0.vl 0⟩)],dN P (q.s 5) g0,g0.l))),
 none],
 λ b t=>ap 2 λ g0 g1=>⟨[g0.n 0+1,g0.n 1+0,g0.n 2,g0.n 3,(b+0)+822,g0.n 0+0,g0.n 6,g0.n 7,g0.n 8,g0.n 9,g0.n 10],g0.l,(.ref (g0.n 5+822))::g1.vl 0,g0.vl 0,#[]⟩,ax 18 121 71831522487464171201678188766283141373654525176465297998407127694215459272695769910113175968275913716206785484294742468495012289156505754020941241065585,[0,1,2,3,4,5,6,13,14,16],2⟩
def km.sat(w:World)(G:Shared)(q:Pr)(A:AA):= @RD.sat w G (km.D w.2 q A) (by walk_at "R")
def nj.D(P:Params)(q:Pr)(A:AA):RD:=⟨[(q.j 0,q.a 0+822,gf (q.a 1+822)),
 (q.j 1,q.a 1+822,gk P q.u 0 (q.S.a 0+822) (q.a 3+822) (q.a 4+822) (q.a 2+822)),
 (q.j 2,q.a 2+822,aO (q.en 1) (q.ar 0)),
 (q.j 3,q.S.a 0+822,oW q.S.a),
 (q.j 4,q.S.a 1+822,bm P q.S.a q.S.u),
 (q.j 5,q.a 5+822,tO [.str aC (q.u 9),rA (q.a 10)]),
 (q.j 6,q.a 10+822,lO 0 [rA (q.a 6),rA (q.a 7)])],
 λ i=>⟨au 326 [rA (q.a 0),rA (q.a 5)],42,i,q.L,λ g=>A 99 [g],
 λ g=>⟨.ok (.ret .none),bg i [(2,aO (g.n 2) ⟨g.vl 0⟩)],
  [],g.l⟩⟩,
 λ i b t=>[c 0 (.full (aj (au 694 [rA (q.a 0),rA (q.a 6)]) 40 i [.k 0,.k 1,.k 2,.k 3,.k 4] q.L (λ g0=>A 0 [g0]) λ g0=>(.ok (.ret (.int (q.m 0) (g0.n 3))),[(2,aO (g0.n 2) ⟨g0.vl 0⟩)],[],g0.l))),
 c 1 λ g0=>.full (aj (au 196 [rA (q.S.a 0),.int (q.m 0) (g0.n 3)]) 40 i [.k 3,.k 4] g0.l (λ g1=>A 1 [g0,g1]) λ g1=>(.ok (.ret .none),[],[],g1.l)),
 c 2 λ g0 g1=>.full (aj (au 694 [rA (q.a 0),rA (q.a 7)]) 40 i [.k 0,.k 1,.o 2 (q.a 2+822) (aO (g0.n 2) ⟨g0.vl 0⟩),.k 3,.k 4] g1.l (λ g2=>A 2 [g0,g1,g2]) λ g2=>(.ok (.ret (.int (q.m 1) (g2.n 3))),[(2,aO (g2.n 2) ⟨g2.vl 0⟩)],[],g2.l)),
 c 3 λ g0 g1 g2=>.full (aj (au 196 [rA (q.S.a 0),.int (q.m 1) (g2.n 3)]) 40 i [.k 3,.k 4] g2.l (λ g3=>A 3 [g0,g1,g2,g3]) λ g3=>(.ok (.ret .none),[],[],g3.l))],
 λ b t=>ap 4 λ g0 g1 g2 g3=>⟨[g3.n 0+2,g3.n 1+4,g2.n 2],g3.l,[],g2.vl 0,#[]⟩,ax 16 174 9553535704487572143954233261630671491649413920705280819062286999972654099811144885337022866623320023235324035118204613055492951556933794886281572281126698572731262857929113331195637168896673060581048335239297,[0,1,2,3,4,5,6],4⟩
def nj.sat(w:World)(G:Shared)(q:Pr)(A:AA):= @RD.sat w G (nj.D w.2 q A) (by walk_at "R")
def ko.D(P:Params)(q:Pr)(A:AA):RD:=⟨[(q.j 0,q.a 0+822,gf (q.a 1+822)),
 (q.j 1,q.a 1+822,gk P q.u 0 (q.S.a 0+822) (q.a 3+822) (q.a 4+822) (q.a 2+822)),
 (q.j 2,q.a 2+822,aO (q.en 1) (q.ar 0)),
 (q.j 3,q.S.a 0+822,oW q.S.a),
 (q.j 4,q.S.a 1+822,bm P q.S.a q.S.u),
 (q.j 5,q.a 5+822,tO [.str aC (q.u 9),rA (q.a 10)]),
 (q.j 6,q.a 10+822,lO (q.en 2) (rA (q.a 6)::(rA (q.a 7)::q.l 1)))],
 λ i=>⟨au 326 [rA (q.a 0),rA (q.a 5)],42,i,q.L,λ g=>A 99 [g],
 λ g=>⟨.error (rA (g.n 7)),bg i [(2,aO (g.n 2) ⟨g.vl 0⟩)],
  dN P (q.s 5) g,g.l⟩⟩,
 λ i b t=>[c 0 (.full (aj (au 694 [rA (q.a 0),rA (q.a 6)]) 40 i [.k 0,.k 1,.k 2,.k 3,.k 4] q.L (λ g0=>A 0 [g0]) λ g0=>(.ok (.ret (.int (q.m 0) (g0.n 3))),[(2,aO (g0.n 2) ⟨g0.vl 0⟩)],[],g0.l))),
 c 1 λ g0=>.full (aj (au 196 [rA (q.S.a 0),.int (q.m 0) (g0.n 3)]) 40 i [.k 3,.k 4] g0.l (λ g1=>A 1 [g0,g1]) λ g1=>(.ok (.ret .none),[],[],g1.l)),
 c 2 λ g0 g1=>.full (aj (au 694 [rA (q.a 0),rA (q.a 7)]) 40 i [.k 0,.k 1,.o 2 (q.a 2+822) (aO (g0.n 2) ⟨g0.vl 0⟩),.k 3,.k 4] g1.l (λ g2=>A 2 [g0,g1,g2]) λ g2=>(.error (rA (g2.n 7)),[(2,aO (g2.n 2) ⟨g2.vl 0⟩)],dN P (q.s 5) g2,g2.l)),
 none],
 λ b t=>ap 4 λ g0 g1 g2 g3=>⟨[g2.n 0+1,g2.n 1+0,g2.n 2,g2.n 3,(b+0)+822,g2.n 0+0,g2.n 6,g2.n 7,g2.n 8,g2.n 9,g2.n 10],g2.l,(.ref (g2.n 5+822))::g3.vl 0,g2.vl 0,#[]⟩,ax 18 157 111205240899447608063546855744289356685126915009248568778191715499038766485666174594440138747881118326058444044140216262085168525268376843395269512777653228406660065806025373970283034016587658371185,[0,1,2,3,4,5,6,13,14,16],4⟩
def ko.sat(w:World)(G:Shared)(q:Pr)(A:AA):= @RD.sat w G (ko.D w.2 q A) (by walk_at "R")
def np.D(P:Params)(q:Pr)(A:AA):RD:=⟨[(q.j 0,q.a 0+822,gf (q.a 1+822)),
 (q.j 1,q.a 1+822,gk P q.u 0 (q.S.a 0+822) (q.a 3+822) (q.a 4+822) (q.a 2+822)),
 (q.j 2,q.a 2+822,aO (q.en 1) (q.ar 0)),
 (q.j 3,q.S.a 0+822,oW q.S.a),
 (q.j 4,q.S.a 1+822,bm P q.S.a q.S.u),
 (q.j 5,q.a 5+822,tO [.str aC (q.u 9),rA (q.a 10)]),
 (q.j 6,q.a 10+822,lO 0 [rA (q.a 6),rA (q.a 7),rA (q.a 8)])],
 λ i=>⟨au 326 [rA (q.a 0),rA (q.a 5)],42,i,q.L,λ g=>A 99 [g],
 λ g=>⟨.ok (.ret .none),bg i [(2,aO (g.n 2) ⟨g.vl 0⟩)],
  [],g.l⟩⟩,
 λ i b t=>[c 0 (.full (aj (au 694 [rA (q.a 0),rA (q.a 6)]) 40 i [.k 0,.k 1,.k 2,.k 3,.k 4] q.L (λ g0=>A 0 [g0]) λ g0=>(.ok (.ret (.int (q.m 0) (g0.n 3))),[(2,aO (g0.n 2) ⟨g0.vl 0⟩)],[],g0.l))),
 c 1 λ g0=>.full (aj (au 196 [rA (q.S.a 0),.int (q.m 0) (g0.n 3)]) 40 i [.k 3,.k 4] g0.l (λ g1=>A 1 [g0,g1]) λ g1=>(.ok (.ret .none),[],[],g1.l)),
 c 2 λ g0 g1=>.full (aj (au 694 [rA (q.a 0),rA (q.a 7)]) 40 i [.k 0,.k 1,.o 2 (q.a 2+822) (aO (g0.n 2) ⟨g0.vl 0⟩),.k 3,.k 4] g1.l (λ g2=>A 2 [g0,g1,g2]) λ g2=>(.ok (.ret (.int (q.m 1) (g2.n 3))),[(2,aO (g2.n 2) ⟨g2.vl 0⟩)],[],g2.l)),
 c 3 λ g0 g1 g2=>.full (aj (au 196 [rA (q.S.a 0),.int (q.m 1) (g2.n 3)]) 40 i [.k 3,.k 4] g2.l (λ g3=>A 3 [g0,g1,g2,g3]) λ g3=>(.ok (.ret .none),[],[],g3.l)),
 c 4 λ g0 g1 g2 g3=>.full (aj (au 694 [rA (q.a 0),rA (q.a 8)]) 40 i [.k 0,.k 1,.o 2 (q.a 2+822) (aO (g2.n 2) ⟨g2.vl 0⟩),.k 3,.k 4] g3.l (λ g4=>A 4 [g0,g1,g2,g3,g4]) λ g4=>(.ok (.ret (.int (q.m 2) (g4.n 3))),[(2,aO (g4.n 2) ⟨g4.vl 0⟩)],[],g4.l)),
 c 5 λ g0 g1 g2 g3 g4=>.full (aj (au 196 [rA (q.S.a 0),.int (q.m 2) (g4.n 3)]) 40 i [.k 3,.k 4] g4.l (λ g5=>A 5 [g0,g1,g2,g3,g4,g5]) λ g5=>(.ok (.ret .none),[],[],g5.l))],
 λ b t=>ap 6 λ g0 g1 g2 g3 g4 g5=>⟨[g5.n 0+2,g5.n 1+4,g4.n 2],g5.l,[],g4.vl 0,#[]⟩,ax 16 210 213050965490842098668254779112863703921683040160827649377783605656370158875063530024880650499480332606736442817996140400093500508580115231719386709554468081595535014952568005093255070518193544344886268601975664432237592621118242524510046793672402962561,[0,1,2,3,4,5,6],6⟩
def np.sat(w:World)(G:Shared)(q:Pr)(A:AA):= @RD.sat w G (np.D w.2 q A) (by walk_at "R")
def kp.D(P:Params)(q:Pr)(A:AA):RD:=⟨[(q.j 0,q.a 0+822,gf (q.a 1+822)),
 (q.j 1,q.a 1+822,gk P q.u 0 (q.S.a 0+822) (q.a 3+822) (q.a 4+822) (q.a 2+822)),
 (q.j 2,q.a 2+822,aO (q.en 1) (q.ar 0)),
 (q.j 3,q.S.a 0+822,oW q.S.a),
 (q.j 4,q.S.a 1+822,bm P q.S.a q.S.u),
 (q.j 5,q.a 5+822,tO [.str aC (q.u 9),rA (q.a 10)]),
 (q.j 6,q.a 10+822,lO (q.en 2) (rA (q.a 6)::(rA (q.a 7)::(rA (q.a 8)::q.l 1))))],
 λ i=>⟨au 326 [rA (q.a 0),rA (q.a 5)],42,i,q.L,λ g=>A 99 [g],
 λ g=>⟨.error (rA (g.n 7)),bg i [(2,aO (g.n 2) ⟨g.vl 0⟩)],
  dN P (q.s 5) g,g.l⟩⟩,
 λ i b t=>[c 0 (.full (aj (au 694 [rA (q.a 0),rA (q.a 6)]) 40 i [.k 0,.k 1,.k 2,.k 3,.k 4] q.L (λ g0=>A 0 [g0]) λ g0=>(.ok (.ret (.int (q.m 0) (g0.n 3))),[(2,aO (g0.n 2) ⟨g0.vl 0⟩)],[],g0.l))),
 c 1 λ g0=>.full (aj (au 196 [rA (q.S.a 0),.int (q.m 0) (g0.n 3)]) 40 i [.k 3,.k 4] g0.l (λ g1=>A 1 [g0,g1]) λ g1=>(.ok (.ret .none),[],[],g1.l)),
 c 2 λ g0 g1=>.full (aj (au 694 [rA (q.a 0),rA (q.a 7)]) 40 i [.k 0,.k 1,.o 2 (q.a 2+822) (aO (g0.n 2) ⟨g0.vl 0⟩),.k 3,.k 4] g1.l (λ g2=>A 2 [g0,g1,g2]) λ g2=>(.ok (.ret (.int (q.m 1) (g2.n 3))),[(2,aO (g2.n 2) ⟨g2.vl 0⟩)],[],g2.l)),
 c 3 λ g0 g1 g2=>.full (aj (au 196 [rA (q.S.a 0),.int (q.m 1) (g2.n 3)]) 40 i [.k 3,.k 4] g2.l (λ g3=>A 3 [g0,g1,g2,g3]) λ g3=>(.ok (.ret .none),[],[],g3.l)),
 c 4 λ g0 g1 g2 g3=>.full (aj (au 694 [rA (q.a 0),rA (q.a 8)]) 40 i [.k 0,.k 1,.o 2 (q.a 2+822) (aO (g2.n 2) ⟨g2.vl 0⟩),.k 3,.k 4] g3.l (λ g4=>A 4 [g0,g1,g2,g3,g4]) λ g4=>(.error (rA (g4.n 7)),[(2,aO (g4.n 2) ⟨g4.vl 0⟩)],dN P (q.s 5) g4,g4.l)),
 none],
 λ b t=>ap 6 λ g0 g1 g2 g3 g4 g5=>⟨[g4.n 0+1,g4.n 1+0,g4.n 2,g4.n 3,(b+0)+822,g4.n 0+0,g4.n 6,g4.n 7,g4.n 8,g4.n 9,g4.n 10],g4.l,(.ref (g4.n 5+822))::g5.vl 0,g4.vl 0,#[]⟩,ax 18 193 172161262566338603869991432019712935524077431411860856039676972840226954315214262410493375097978845440243173859060206205334554107530505437649268630960742221168885344762316952426977410451426431583516919793978863651929229865484256768821349916785,[0,1,2,3,4,5,6,13,14,16],6⟩
def kp.sat(w:World)(G:Shared)(q:Pr)(A:AA):= @RD.sat w G (kp.D w.2 q A) (by walk_at "R")
def nq.D(P:Params)(q:Pr)(A:AA):RD:=⟨[(q.j 0,q.a 0+822,gf (q.a 1+822)),
 (q.j 1,q.a 1+822,gk P q.u 0 (q.S.a 0+822) (q.a 3+822) (q.a 4+822) (q.a 2+822)),
 (q.j 2,q.a 2+822,aO (q.en 1) (q.ar 0)),
 (q.j 3,q.S.a 0+822,oW q.S.a),
 (q.j 4,q.S.a 1+822,bm P q.S.a q.S.u),
 (q.j 5,q.a 5+822,tO [.str aL (q.u 9),rA (q.a 6),rA (q.a 10)]),
 (q.j 6,q.a 10+822,lO 1 [rA (q.a 11)]),
 (q.j 7,q.a 11+822,tO [rA (q.a 7),.str ad (q.u 10)])],
 λ i=>⟨au 326 [rA (q.a 0),rA (q.a 5)],43,i,q.L,λ g=>A 99 [g],
 λ g=>⟨.ok (.ret .none),bg i [(2,aO (g.n 2) ⟨g.vl 0⟩)],
  [],g.l⟩⟩,
 λ i b t=>[c 0 (.full (aj (au 694 [rA (q.a 0),rA (q.a 6)]) 40 i [.k 0,.k 1,.k 2,.k 3,.k 4] q.L (λ g0=>A 0 [g0]) λ g0=>(.ok (.ret (.int (q.m 0) (g0.n 3))),[(2,aO (g0.n 2) ⟨g0.vl 0⟩)],[],g0.l))),
 none,
 c 2 λ g0 g1=>.full (aj (au 694 [rA (q.a 0),rA (q.a 7)]) 40 i [.k 0,.k 1,.o 2 (q.a 2+822) (aO (g0.n 2) ⟨g0.vl 0⟩),.k 3,.k 4] g0.l (λ g2=>A 2 [g0,g1,g2]) λ g2=>(.ok (.ret (.int (q.m 1) (g2.n 3))),[(2,aO (g2.n 2) ⟨g2.vl 0⟩)],[],g2.l)),
 c 3 λ g0 g1 g2=>.full (aj (au 300 [rA (q.S.a 0),.str ad (q.u 10)]) 40 i [.k 3,.k 4] g2.l (λ g3=>A 3 [g0,g1,g2,g3]) λ g3=>(.ok (.ret (.str ⟨⟨[116,101,120,116]⟩⟩ (g3.n 2))),[],[],g2.l)),
 c 4 λ g0 g1 g2 g3=>.full (aj (au 208 [rA (q.S.a 0),.int (q.m 0) (g0.n 3),rA (g0.n 0+1)]) 40 i [.o 16 ((g0.n 0+1)+822) (lO 1 [rA (g2.n 0+0)]),.o 21 ((g2.n 0+0)+822) (tO [.int (q.m 1) (g2.n 3),.str ad (q.u 10)]),.k 3,.k 4] g2.l (λ g4=>A 4 [g0,g1,g2,g3,g4]) λ g4=>(.ok (.ret .none),[],[],g4.l))],
 λ b t=>ap 5 λ g0 g1 g2 g3 g4=>⟨[g4.n 0+0,g4.n 1+0,g2.n 2],g4.l,[],g2.vl 0,#[]⟩,ax 31 310 570361699779104907304275745605226598158550266718676750372144872386353754327573885516842818747423891143799365786156112382548314115085005673023348514239831774468439018629262681215367410789916730104307378818767198535108384183771508836861437820336364056399921579355795015655748152596721769201896877641045459812886124008176162888894321504251078980586251032313890068471995123432075689138749627669780998143031414649250114088929788597407836356810399318181124496515134796,[0,1,2,3,4,5,6,7],5⟩
def nq.sat(w:World)(G:Shared)(q:Pr)(A:AA):= @RD.sat w G (nq.D w.2 q A) (by walk_at "R")
def nr.D(P:Params)(q:Pr)(A:AA):RD:=⟨[(q.j 0,q.a 0+822,gf (q.a 1+822)),
 (q.j 1,q.a 1+822,gk P q.u 0 (q.S.a 0+822) (q.a 3+822) (q.a 4+822) (q.a 2+822)),
 (q.j 2,q.a 2+822,aO (q.en 1) (q.ar 0)),
 (q.j 3,q.S.a 0+822,oW q.S.a),
 (q.j 4,q.S.a 1+822,bm P q.S.a q.S.u),
 (q.j 5,q.a 5+822,tO [.str aL (q.u 9),rA (q.a 6),rA (q.a 10)]),
 (q.j 6,q.a 10+822,lO 2 [rA (q.a 11),rA (q.a 12)]),
 (q.j 7,q.a 11+822,tO [rA (q.a 7),.str ad (q.u 10)]),
 (q.j 8,q.a 12+822,tO [rA (q.a 8),.str av (q.u 11)])],
 λ i=>⟨au 326 [rA (q.a 0),rA (q.a 5)],43,i,q.L,λ g=>A 99 [g],
 λ g=>⟨.ok (.ret .none),bg i [(2,aO (g.n 2) ⟨g.vl 0⟩)],
  [],g.l⟩⟩,
 λ i b t=>[c 0 (.full (aj (au 694 [rA (q.a 0),rA (q.a 6)]) 40 i [.k 0,.k 1,.k 2,.k 3,.k 4] q.L (λ g0=>A 0 [g0]) λ g0=>(.ok (.ret (.int (q.m 0) (g0.n 3))),[(2,aO (g0.n 2) ⟨g0.vl 0⟩)],[],g0.l))),
 none,
 c 2 λ g0 g1=>.full (aj (au 694 [rA (q.a 0),rA (q.a 7)]) 40 i [.k 0,.k 1,.o 2 (q.a 2+822) (aO (g0.n 2) ⟨g0.vl 0⟩),.k 3,.k 4] g0.l (λ g2=>A 2 [g0,g1,g2]) λ g2=>(.ok (.ret (.int (q.m 1) (g2.n 3))),[(2,aO (g2.n 2) ⟨g2.vl 0⟩)],[],g2.l)),
 c 3 λ g0 g1 g2=>.full (aj (au 694 [rA (q.a 0),rA (q.a 8)]) 40 i [.k 0,.k 1,.o 2 (q.a 2+822) (aO (g2.n 2) ⟨g2.vl 0⟩),.k 3,.k 4] g2.l (λ g3=>A 3 [g0,g1,g2,g3]) λ g3=>(.ok (.ret (.int (q.m 2) (g3.n 3))),[(2,aO (g3.n 2) ⟨g3.vl 0⟩)],[],g3.l)),
 c 4 λ g0 g1 g2 g3=>.full (aj (au 300 [rA (q.S.a 0),.str ad (q.u 10)]) 40 i [.k 3,.k 4] g3.l (λ g4=>A 4 [g0,g1,g2,g3,g4]) λ g4=>(.ok (.ret (.str ⟨⟨[116,101,120,116]⟩⟩ (g4.n 2))),[],[],g3.l)),
 c 5 λ g0 g1 g2 g3 g4=>.full (aj (au 300 [rA (q.S.a 0),.str av (q.u 11)]) 40 i [.k 3,.k 4] g3.l (λ g5=>A 5 [g0,g1,g2,g3,g4,g5]) λ g5=>(.ok (.ret (.str ⟨⟨[116,101,120,116]⟩⟩ (g5.n 2))),[],[],g3.l)),
 c 6 λ g0 g1 g2 g3 g4 g5=>.full (aj (au 208 [rA (q.S.a 0),.int (q.m 0) (g0.n 3),rA (g0.n 0+1)]) 40 i [.o 17 ((g0.n 0+1)+822) (lO 2 [rA (g2.n 0+0),rA (g3.n 0+0)]),.o 22 ((g2.n 0+0)+822) (tO [.int (q.m 1) (g2.n 3),.str ad (q.u 10)]),.o 26 ((g3.n 0+0)+822) (tO [.int (q.m 2) (g3.n 3),.str av (q.u 11)]),.k 3,.k 4] g3.l (λ g6=>A 6 [g0,g1,g2,g3,g4,g5,g6]) λ g6=>(.ok (.ret .none),[],[],g6.l))],
 λ b t=>ap 7 λ g0 g1 g2 g3 g4 g5 g6=>⟨[g6.n 0+0,g6.n 1+0,g3.n 2],g6.l,[],g3.vl 0,#[]⟩,ax 39 447 385570956998230652586213960490143204158765454034287856901831382767127945960185780570166784587391904833079882360672987812749987672025424950422075806639071176815886578387914560732895482696423936203515593898863280833506023912918892856321435962723445687848818758874095887644424213715084753781412847681420902417392585433580333116727925479752258761334845255566842070582318274514754117710136794059848267116891693242696872354564593873216269502110049366686212103249910136651319359505304546112475387175466681512632270949249996959683646990051992719142291849906850090009400557469934006589924171337833607301232254085750615235861853699208365058933698515048936122526370160915679066671455425726402471194716984851710836617094727,[0,1,2,3,4,5,6,7,8],7⟩
def nr.sat(w:World)(G:Shared)(q:Pr)(A:AA):= @RD.sat w G (nr.D w.2 q A) (by walk_at "R")
def nt.D(P:Params)(q:Pr)(A:AA):RD:=⟨[(q.j 0,q.a 0+822,gf (q.a 1+822)),
 (q.j 1,q.a 1+822,gk P q.u 0 (q.S.a 0+822) (q.a 3+822) (q.a 4+822) (q.a 2+822)),
 (q.j 2,q.a 2+822,aO (q.en 1) (q.ar 0)),
 (q.j 3,q.S.a 0+822,oW q.S.a),
 (q.j 4,q.S.a 1+822,bm P q.S.a q.S.u),
 (q.j 5,q.a 5+822,tO [.str aL (q.u 9),rA (q.a 6),rA (q.a 10)]),
 (q.j 6,q.a 10+822,lO 3 [rA (q.a 11),rA (q.a 12),rA (q.a 13)]),
 (q.j 7,q.a 11+822,tO [rA (q.a 7),.str ad (q.u 10)]),
 (q.j 8,q.a 12+822,tO [rA (q.a 8),.str av (q.u 11)]),
 (q.j 9,q.a 13+822,tO [rA (q.a 9),.str bb (q.u 12)])],
 λ i=>⟨au 326 [rA (q.a 0),rA (q.a 5)],43,i,q.L,λ g=>A 99 [g],
 λ g=>⟨.ok (.ret .none),bg i [(2,aO (g.n 2) ⟨g.vl 0⟩)],
  [],g.l⟩⟩,
 λ i b t=>[c 0 (.full (aj (au 694 [rA (q.a 0),rA (q.a 6)]) 40 i [.k 0,.k 1,.k 2,.k 3,.k 4] q.L (λ g0=>A 0 [g0]) λ g0=>(.ok (.ret (.int (q.m 0) (g0.n 3))),[(2,aO (g0.n 2) ⟨g0.vl 0⟩)],[],g0.l))),
 none,
 c 2 λ g0 g1=>.full (aj (au 694 [rA (q.a 0),rA (q.a 7)]) 40 i [.k 0,.k 1,.o 2 (q.a 2+822) (aO (g0.n 2) ⟨g0.vl 0⟩),.k 3,.k 4] g0.l (λ g2=>A 2 [g0,g1,g2]) λ g2=>(.ok (.ret (.int (q.m 1) (g2.n 3))),[(2,aO (g2.n 2) ⟨g2.vl 0⟩)],[],g2.l)),
 c 3 λ g0 g1 g2=>.full (aj (au 694 [rA (q.a 0),rA (q.a 8)]) 40 i [.k 0,.k 1,.o 2 (q.a 2+822) (aO (g2.n 2) ⟨g2.vl 0⟩),.k 3,.k 4] g2.l (λ g3=>A 3 [g0,g1,g2,g3]) λ g3=>(.ok (.ret (.int (q.m 2) (g3.n 3))),[(2,aO (g3.n 2) ⟨g3.vl 0⟩)],[],g3.l)),
 c 4 λ g0 g1 g2 g3=>.full (aj (au 694 [rA (q.a 0),rA (q.a 9)]) 40 i [.k 0,.k 1,.o 2 (q.a 2+822) (aO (g3.n 2) ⟨g3.vl 0⟩),.k 3,.k 4] g3.l (λ g4=>A 4 [g0,g1,g2,g3,g4]) λ g4=>(.ok (.ret (.int (q.m 3) (g4.n 3))),[(2,aO (g4.n 2) ⟨g4.vl 0⟩)],[],g4.l)),
 c 5 λ g0 g1 g2 g3 g4=>.full (aj (au 300 [rA (q.S.a 0),.str ad (q.u 10)]) 40 i [.k 3,.k 4] g4.l (λ g5=>A 5 [g0,g1,g2,g3,g4,g5]) λ g5=>(.ok (.ret (.str ⟨⟨[116,101,120,116]⟩⟩ (g5.n 2))),[],[],g4.l)),
 c 6 λ g0 g1 g2 g3 g4 g5=>.full (aj (au 300 [rA (q.S.a 0),.str av (q.u 11)]) 40 i [.k 3,.k 4] g4.l (λ g6=>A 6 [g0,g1,g2,g3,g4,g5,g6]) λ g6=>(.ok (.ret (.str ⟨⟨[116,101,120,116]⟩⟩ (g6.n 2))),[],[],g4.l)),
 c 7 λ g0 g1 g2 g3 g4 g5 g6=>.full (aj (au 300 [rA (q.S.a 0),.str bb (q.u 12)]) 40 i [.k 3,.k 4] g4.l (λ g7=>A 7 [g0,g1,g2,g3,g4,g5,g6,g7]) λ g7=>(.ok (.ret (.str ⟨⟨[116,101,120,116]⟩⟩ (g7.n 2))),[],[],g4.l)),
 c 8 λ g0 g1 g2 g3 g4 g5 g6 g7=>.full (aj (au 208 [rA (q.S.a 0),.int (q.m 0) (g0.n 3),rA (g0.n 0+1)]) 40 i [.o 18 ((g0.n 0+1)+822) (lO 3 [rA (g2.n 0+0),rA (g3.n 0+0),rA (g4.n 0+0)]),.o 23 ((g2.n 0+0)+822) (tO [.int (q.m 1) (g2.n 3),.str ad (q.u 10)]),.o 27 ((g3.n 0+0)+822) (tO [.int (q.m 2) (g3.n 3),.str av (q.u 11)]),.o 31 ((g4.n 0+0)+822) (tO [.int (q.m 3) (g4.n 3),.str bb (q.u 12)]),.k 3,.k 4] g4.l (λ g8=>A 8 [g0,g1,g2,g3,g4,g5,g6,g7,g8]) λ g8=>(.ok (.ret .none),[],[],g8.l))],
 λ b t=>ap 9 λ g0 g1 g2 g3 g4 g5 g6 g7 g8=>⟨[g8.n 0+0,g8.n 1+0,g4.n 2],g8.l,[],g4.vl 0,#[]⟩,ax 47 584 7026406974169596065553752792036268426937975223140026979740661117373516045311180280746427676351211606874169874398259079950685439644454637682074080410763808504509227467763474697397728310640870997104165014083479614286312870492541523556033229377368178625370937242033349353276859773819887724907728132417467616214326456137118557116049715674845439200063133390344037640660253874005891442080989362074072246161407482175138154246064039606115957655582446620900105841612598353972622669387217997728239934246542333082298625360928307278187215105249887834967278525891962828265489105307887070615142800227233017035076088701729433914663758527188787181753580476567596394155061348803005921820130054622074400779220026718827341886647723276360749149089469859702578613519342568786219017325646370354486713005207866750382924892045746213635082506460016868548752843678644005296061484857245623432077027646568374369604063784230678553367581189114622377457018845302760536946606398329325346554581116549860233991,[0,1,2,3,4,5,6,7,8,9],9⟩
def nt.sat(w:World)(G:Shared)(q:Pr)(A:AA):= @RD.sat w G (nt.D w.2 q A) (by walk_at "R")
def kq.D(P:Params)(q:Pr)(A:AA):RD:=⟨[(q.j 0,q.a 0+822,gf (q.a 1+822)),
 (q.j 1,q.a 1+822,gk P q.u 0 (q.S.a 0+822) (q.a 3+822) (q.a 4+822) (q.a 2+822)),
 (q.j 2,q.a 2+822,aO (q.en 1) (q.ar 0)),
 (q.j 3,q.S.a 0+822,oW q.S.a),
 (q.j 4,q.S.a 1+822,bm P q.S.a q.S.u),
 (q.j 5,q.a 5+822,tO [.str aL (q.u 9),rA (q.a 6),rA (q.a 10)])],
 λ i=>⟨au 326 [rA (q.a 0),rA (q.a 5)],42,i,q.L,λ g=>A 99 [g],
 λ g=>⟨.error (rA (g.n 7)),bg i [(2,aO (g.n 2) ⟨g.vl 0⟩)],
  dN P (q.s 5) g,g.l⟩⟩,
 λ i b t=>[c 0 (.full (aj (au 694 [rA (q.a 0),rA (q.a 6)]) 40 i [.k 0,.k 1,.k 2,.k 3,.k 4] q.L (λ g0=>A 0 [g0]) λ g0=>(.error (rA (g0.n 7)),[(2,aO (g0.n 2) ⟨g0.vl 0⟩)],dN P (q.s 5) g0,g0.l))),
 none,
 none],
 λ b t=>ap 3 λ g0 g1 g2=>⟨[g0.n 0+2,g0.n 1+0,g0.n 2,g0.n 3,(b+0)+822,g0.n 0+1,g0.n 6,g0.n 7,g0.n 8,g0.n 9,g0.n 10],g0.l,(.ref ((g0.n 0+0)+822))::g2.vl 0,g0.vl 0,#[]⟩,ax 17 113 4513858740509621386358931738770879168547557463945072978780005402740322733098819843327231283936700044978771776239451997802970177108982183267,[0,1,2,3,4,5,13,14,17],3⟩
def kq.sat(w:World)(G:Shared)(q:Pr)(A:AA):= @RD.sat w G (kq.D w.2 q A) (by walk_at "R")
def kr.D(P:Params)(q:Pr)(A:AA):RD:=⟨[(q.j 0,q.a 0+822,gf (q.a 1+822)),
 (q.j 1,q.a 1+822,gk P q.u 0 (q.S.a 0+822) (q.a 3+822) (q.a 4+822) (q.a 2+822)),
 (q.j 2,q.a 2+822,aO (q.en 1) (q.ar 0)),
 (q.j 3,q.S.a 0+822,oW q.S.a),
 (q.j 4,q.S.a 1+822,bm P q.S.a q.S.u),
 (q.j 5,q.a 5+822,tO [.str aL (q.u 9),rA (q.a 6),rA (q.a 10)]),
 (q.j 6,q.a 10+822,lO (q.en 2) (rA (q.a 11)::q.l 1)),
 (q.j 7,q.a 11+822,tO [rA (q.a 7),.str ad (q.u 10)])],
 λ i=>⟨au 326 [rA (q.a 0),rA (q.a 5)],43,i,q.L,λ g=>A 99 [g],
 λ g=>⟨.error (rA (g.n 7)),bg i [(2,aO (g.n 2) ⟨g.vl 0⟩)],
  dN P (q.s 5) g,g.l⟩⟩,
 λ i b t=>[c 0 (.full (aj (au 694 [rA (q.a 0),rA (q.a 6)]) 40 i [.k 0,.k 1,.k 2,.k 3,.k 4] q.L (λ g0=>A 0 [g0]) λ g0=>(.ok (.ret (.int (q.m 0) (g0.n 3))),[(2,aO (g0.n 2) ⟨g0.vl 0⟩)],[],g0.l))),
 none,
 c 2 λ g0 g1=>.full (aj (au 694 [rA (q.a 0),rA (q.a 7)]) 40 i [.k 0,.k 1,.o 2 (q.a 2+822) (aO (g0.n 2) ⟨g0.vl 0⟩),.k 3,.k 4] g0.l (λ g2=>A 2 [g0,g1,g2]) λ g2=>(.error (rA (g2.n 7)),[(2,aO (g2.n 2) ⟨g2.vl 0⟩)],dN P (q.s 5) g2,g2.l)),
 none,
 none],
 λ b t=>ap 5 λ g0 g1 g2 g3 g4=>⟨[g2.n 0+2,g2.n 1+0,g2.n 2,g2.n 3,(b+0)+822,g2.n 0+1,g2.n 6,g2.n 7,g2.n 8,g2.n 9,g2.n 10],g2.l,(.ref ((g2.n 0+0)+822))::g4.vl 0,g2.vl 0,#[]⟩,ax 26 207 27323844975109427140894027240328226649448084488806361835647340080868760110034058451623934540967074107836725336424665503810368933157326597141282133256737110132734039056778244887829628906970908138437790221165194030312713795649869588466517023517437165999789901286034746569834822627272796263589223,[0,1,2,3,4,5,6,7,21,22,25],5⟩
def kr.sat(w:World)(G:Shared)(q:Pr)(A:AA):= @RD.sat w G (kr.D w.2 q A) (by walk_at "R")
def ku.D(P:Params)(q:Pr)(A:AA):RD:=⟨[(q.j 0,q.a 0+822,gf (q.a 1+822)),
 (q.j 1,q.a 1+822,gk P q.u 0 (q.S.a 0+822) (q.a 3+822) (q.a 4+822) (q.a 2+822)),
 (q.j 2,q.a 2+822,aO (q.en 1) (q.ar 0)),
 (q.j 3,q.S.a 0+822,oW q.S.a),
 (q.j 4,q.S.a 1+822,bm P q.S.a q.S.u),
 (q.j 5,q.a 5+822,tO [.str aL (q.u 9),rA (q.a 6),rA (q.a 10)]),
 (q.j 6,q.a 10+822,lO (q.en 2) (rA (q.a 11)::(rA (q.a 12)::q.l 1))),
 (q.j 7,q.a 11+822,tO [rA (q.a 7),.str ad (q.u 10)]),
 (q.j 8,q.a 12+822,tO [rA (q.a 8),.str av (q.u 11)])],
 λ i=>⟨au 326 [rA (q.a 0),rA (q.a 5)],43,i,q.L,λ g=>A 99 [g],
 λ g=>⟨.error (rA (g.n 7)),bg i [(2,aO (g.n 2) ⟨g.vl 0⟩)],
  dN P (q.s 5) g,g.l⟩⟩,
 λ i b t=>[c 0 (.full (aj (au 694 [rA (q.a 0),rA (q.a 6)]) 40 i [.k 0,.k 1,.k 2,.k 3,.k 4] q.L (λ g0=>A 0 [g0]) λ g0=>(.ok (.ret (.int (q.m 0) (g0.n 3))),[(2,aO (g0.n 2) ⟨g0.vl 0⟩)],[],g0.l))),
 none,
 c 2 λ g0 g1=>.full (aj (au 694 [rA (q.a 0),rA (q.a 7)]) 40 i [.k 0,.k 1,.o 2 (q.a 2+822) (aO (g0.n 2) ⟨g0.vl 0⟩),.k 3,.k 4] g0.l (λ g2=>A 2 [g0,g1,g2]) λ g2=>(.ok (.ret (.int (q.m 1) (g2.n 3))),[(2,aO (g2.n 2) ⟨g2.vl 0⟩)],[],g2.l)),
 c 3 λ g0 g1 g2=>.full (aj (au 694 [rA (q.a 0),rA (q.a 8)]) 40 i [.k 0,.k 1,.o 2 (q.a 2+822) (aO (g2.n 2) ⟨g2.vl 0⟩),.k 3,.k 4] g2.l (λ g3=>A 3 [g0,g1,g2,g3]) λ g3=>(.error (rA (g3.n 7)),[(2,aO (g3.n 2) ⟨g3.vl 0⟩)],dN P (q.s 5) g3,g3.l)),
 none,
 none],
 λ b t=>ap 6 λ g0 g1 g2 g3 g4 g5=>⟨[g3.n 0+2,g3.n 1+0,g3.n 2,g3.n 3,(b+0)+822,g3.n 0+1,g3.n 6,g3.n 7,g3.n 8,g3.n 9,g3.n 10],g3.l,(.ref ((g3.n 0+0)+822))::g5.vl 0,g3.vl 0,#[]⟩,ax 31 279 39529858214609238724557003551054539316652896136550149683328857661678362406018284542582500797531177223616306561834855600148366330726226911217074138617981659259862922544452948855324876063240437359041412193744491258102375622261403072229231810818440017712673744163418165892984775283059606255443433363373687748986201695353077373264115959639018966435810428218566721699133625451142521567526503665358702273248303331807747621,[0,1,2,3,4,5,6,7,8,26,27,30],6⟩
def ku.sat(w:World)(G:Shared)(q:Pr)(A:AA):= @RD.sat w G (ku.D w.2 q A) (by walk_at "R")
def kw.D(P:Params)(q:Pr)(A:AA):RD:=⟨[(q.j 0,q.a 0+822,gf (q.a 1+822)),
 (q.j 1,q.a 1+822,gk P q.u 0 (q.S.a 0+822) (q.a 3+822) (q.a 4+822) (q.a 2+822)),
 (q.j 2,q.a 2+822,aO (q.en 1) (q.ar 0)),
 (q.j 3,q.S.a 0+822,oW q.S.a),
 (q.j 4,q.S.a 1+822,bm P q.S.a q.S.u),
 (q.j 5,q.a 5+822,tO [.str aL (q.u 9),rA (q.a 6),rA (q.a 10)]),
 (q.j 6,q.a 10+822,lO (q.en 2) (rA (q.a 11)::(rA (q.a 12)::(rA (q.a 13)::q.l 1)))),
 (q.j 7,q.a 11+822,tO [rA (q.a 7),.str ad (q.u 10)]),
 (q.j 8,q.a 12+822,tO [rA (q.a 8),.str av (q.u 11)]),
 (q.j 9,q.a 13+822,tO [rA (q.a 9),.str bb (q.u 12)])],
 λ i=>⟨au 326 [rA (q.a 0),rA (q.a 5)],43,i,q.L,λ g=>A 99 [g],
 λ g=>⟨.error (rA (g.n 7)),bg i [(2,aO (g.n 2) ⟨g.vl 0⟩)],
  dN P (q.s 5) g,g.l⟩⟩,
 λ i b t=>[c 0 (.full (aj (au 694 [rA (q.a 0),rA (q.a 6)]) 40 i [.k 0,.k 1,.k 2,.k 3,.k 4] q.L (λ g0=>A 0 [g0]) λ g0=>(.ok (.ret (.int (q.m 0) (g0.n 3))),[(2,aO (g0.n 2) ⟨g0.vl 0⟩)],[],g0.l))),
 none,
 c 2 λ g0 g1=>.full (aj (au 694 [rA (q.a 0),rA (q.a 7)]) 40 i [.k 0,.k 1,.o 2 (q.a 2+822) (aO (g0.n 2) ⟨g0.vl 0⟩),.k 3,.k 4] g0.l (λ g2=>A 2 [g0,g1,g2]) λ g2=>(.ok (.ret (.int (q.m 1) (g2.n 3))),[(2,aO (g2.n 2) ⟨g2.vl 0⟩)],[],g2.l)),
 c 3 λ g0 g1 g2=>.full (aj (au 694 [rA (q.a 0),rA (q.a 8)]) 40 i [.k 0,.k 1,.o 2 (q.a 2+822) (aO (g2.n 2) ⟨g2.vl 0⟩),.k 3,.k 4] g2.l (λ g3=>A 3 [g0,g1,g2,g3]) λ g3=>(.ok (.ret (.int (q.m 2) (g3.n 3))),[(2,aO (g3.n 2) ⟨g3.vl 0⟩)],[],g3.l)),
 c 4 λ g0 g1 g2 g3=>.full (aj (au 694 [rA (q.a 0),rA (q.a 9)]) 40 i [.k 0,.k 1,.o 2 (q.a 2+822) (aO (g3.n 2) ⟨g3.vl 0⟩),.k 3,.k 4] g3.l (λ g4=>A 4 [g0,g1,g2,g3,g4]) λ g4=>(.error (rA (g4.n 7)),[(2,aO (g4.n 2) ⟨g4.vl 0⟩)],dN P (q.s 5) g4,g4.l)),
 none,
 none],
 λ b t=>ap 7 λ g0 g1 g2 g3 g4 g5 g6=>⟨[g4.n 0+2,g4.n 1+0,g4.n 2,g4.n 3,(b+0)+822,g4.n 0+1,g4.n 6,g4.n 7,g4.n 8,g4.n 9,g4.n 10],g4.l,(.ref ((g4.n 0+0)+822))::g6.vl 0,g4.vl 0,#[]⟩,ax 36 351 557210960132351914522154515606981873154505769136997984199229943368487219883561025556781949854683020684353076203442453186577242874488088523152782353068710800152468665598864007651214022352265563070979400750380278822861980782344792152219043055100097766545927450793334569296162517999869251016587084708057791133264380680567503828982456359124331925386152101028781992812159488120053725716897711664355963025723120395813576569255436892739977056333662437572710370936700776170127092411308079813272590413624587867379378264944206263927907974386809667198855421,[0,1,2,3,4,5,6,7,8,9,31,32,35],7⟩
def kw.sat(w:World)(G:Shared)(q:Pr)(A:AA):= @RD.sat w G (kw.D w.2 q A) (by walk_at "R")
def nu.D(P:Params)(q:Pr)(A:AA):RD:=⟨[(q.j 0,q.a 0+822,gf (q.a 1+822)),
 (q.j 1,q.a 1+822,gk P q.u 0 (q.S.a 0+822) (q.a 3+822) (q.a 4+822) (q.a 2+822)),
 (q.j 2,q.a 2+822,aO (q.en 1) (q.ar 0)),
 (q.j 3,q.S.a 0+822,oW q.S.a),
 (q.j 4,q.S.a 1+822,bm P q.S.a q.S.u),
 (q.j 5,q.S.a 7+822,oD q.S.fi q.S.fin),
 (q.j 6,q.a 5+822,tO [.str cq (q.u 9),.str ad (q.u 10),rA (q.a 6)])],
 λ i=>⟨au 326 [rA (q.a 0),rA (q.a 5)],41,i,q.L,λ g=>A 99 [g],
 λ g=>⟨.ok (.ret .none),bg i [(2,aO (g.n 2) ⟨g.vl 0⟩)],
  [],g.l⟩⟩,
 λ i b t=>[c 0 (.full (aj (au 687 [rA (q.a 0),rA (q.a 6)]) 40 i [.k 0,.k 1,.k 2,.k 3,.k 4] q.L (λ g0=>A 0 [g0]) λ g0=>(.ok (.ret (.str (q.s 0) (q.c 0))),[(2,aO (g0.n 2) ⟨g0.vl 0⟩)],[],g0.l))),
 c 1 λ g0=>.dict 1 (.str ad (q.u 10)) [] q.S.fi none (ae (C0 P).set1 ad) (.bool false),
 c 1 λ g0=>.full (aj (au 307 [rA (q.S.a 0),.str ad (q.u 10)]) 40 i [.k 3,.k 4] g0.l (λ g1=>A 2 [g0,g1]) λ g1=>(.ok (.ret (.str aa (g1.n 2))),[],[],g0.l)),
 c 2 λ g0 g1=>.full (aj (au 243 [.str (q.s 0) (q.c 0),.int 0 (g1.n 1+2),.bool false]) 40 i [] g0.l (λ g2=>A 3 [g0,g1,g2]) λ g2=>(.ok (.ret (.str aa (g2.n 2))),[],[],g0.l)),
 c 3 λ g0 g1 g2=>.full (aj (au 748 [rA (q.a 0),.str ad (q.u 10),.str aa (g2.n 2)]) 40 i [.k 0,.k 1,.k 3,.k 4,.k 5] g0.l (λ g3=>A 4 [g0,g1,g2,g3]) λ g3=>(.ok (.ret .none),[],[],g3.l))],
 λ b t=>ap 4 λ g0 g1 g2 g3=>⟨[g3.n 0+0,g3.n 1+0,g0.n 2],g3.l,[],g0.vl 0,#[]⟩,ax 15 197 2329742687064181510880344824320822969876763824538264845356403575863012585233581232128222747173657274557243536649931888297314432344289671104277145993166980921290846666584690437906674104970094548811179478281095068709578427317823512046,[0,1,2,3,4,5,6],5⟩
def nu.sat(w:World)(G:Shared)(q:Pr)(A:AA):= @RD.sat w G (nu.D w.2 q A) (by walk_at "R")
def nv.D(P:Params)(q:Pr)(A:AA):RD:=⟨[(q.j 0,q.a 0+822,gf (q.a 1+822)),
 (q.j 1,q.a 1+822,gk P q.u 0 (q.S.a 0+822) (q.a 3+822) (q.a 4+822) (q.a 2+822)),
 (q.j 2,q.a 2+822,aO (q.en 1) (q.ar 0)),
 (q.j 3,q.S.a 0+822,oW q.S.a),
 (q.j 4,q.S.a 1+822,bm P q.S.a q.S.u),
 (q.j 5,q.S.a 7+822,oD q.S.fi q.S.fin),
 (q.j 6,q.a 5+822,tO [.str cq (q.u 9),.str ad (q.u 10),rA (q.a 6)])],
 λ i=>⟨au 326 [rA (q.a 0),rA (q.a 5)],41,i,q.L,λ g=>A 99 [g],
 λ g=>⟨.ok (.ret .none),bg i [(2,aO (g.n 2) ⟨g.vl 0⟩)],
  [],g.l⟩⟩,
 λ i b t=>[c 0 (.full (aj (au 687 [rA (q.a 0),rA (q.a 6)]) 40 i [.k 0,.k 1,.k 2,.k 3,.k 4] q.L (λ g0=>A 0 [g0]) λ g0=>(.ok (.ret (.str (q.s 0) (q.c 0))),[(2,aO (g0.n 2) ⟨g0.vl 0⟩)],[],g0.l))),
 c 1 λ g0=>.dict 1 (.str ad (q.u 10)) [] q.S.fi (some 0) (ae (C0 P).set1 ad) (.bool true),
 c 1 λ g0=>.full (aj (au 250 [rA (q.S.a 0),.str ad (q.u 10),.str (q.s 0) (q.c 0),.bool false]) 40 i [.k 3,.k 4,.k 5] g0.l (λ g1=>A 2 [g0,g1]) λ g1=>(.ok (.ret .none),[],[],g1.l))],
 λ b t=>ap 2 λ g0 g1=>⟨[g1.n 0+0,g1.n 1+0,g0.n 2],g1.l,[],g0.vl 0,#[]⟩,ax 14 150 4236067841437329155724325586215131568099167708956246105503081205593825475235201032209364673349994348256736968701100824333925212083745885057228387049522490952037023788789841,[0,1,2,3,4,5,6],3⟩
def nv.sat(w:World)(G:Shared)(q:Pr)(A:AA):= @RD.sat w G (nv.D w.2 q A) (by walk_at "R")
def ny.D(P:Params)(q:Pr)(x:AV)(A:AA):RD:=⟨[(q.j 0,q.a 0+822,gf (q.a 1+822)),
 (q.j 1,q.a 1+822,gk P q.u 0 (q.S.a 0+822) (q.a 3+822) (q.a 4+822) (q.a 2+822)),
 (q.j 2,q.a 2+822,aO (q.en 1) (q.ar 0)),
 (q.j 3,q.S.a 0+822,oW q.S.a),
 (q.j 4,q.S.a 1+822,bm P q.S.a q.S.u),
 (q.j 5,q.a 5+822,tO [.str cq (q.u 9),.str ad (q.u 10),rA (q.a 6)])],
 λ i=>⟨au 326 [rA (q.a 0),rA (q.a 5)],41,i,q.L,λ g=>A 99 [g],
 λ g=>⟨.error (rA (g.n 7)),bg i [(2,aO (g.n 2) ⟨g.vl 0⟩)],
  dN P (q.s 5) g,g.l⟩⟩,
 λ i b t=>[c 0 (.full (aj (au 687 [rA (q.a 0),rA (q.a 6)]) 40 i [.k 0,.k 1,.k 2,.k 3,.k 4] q.L (λ g0=>A 0 [g0]) λ g0=>(.ok (.ret x.v),[(2,aO (g0.n 2) ⟨g0.vl 0⟩)],[],g0.l))),
 c 1 λ g0=>.full (aj (au 142 [x.v]) 40 i [] g0.l (λ g1=>A 1 [g0,g1]) λ g1=>(.error (rA (g1.n 7)),[],dN P (q.s 5) g1,g0.l)),
 none],
 λ b t=>ap 3 λ g0 g1 g2=>⟨[g1.n 0+1,g1.n 1+0,g0.n 2,g1.n 3,(b+0)+822,g1.n 0+0,g1.n 6,g1.n 7,g1.n 8,g1.n 9,g1.n 10],g0.l,(.ref (g1.n 5+822))::g2.vl 0,g0.vl 0,#[]⟩,ax 14 103 5613869047728805909973177432203193828096271392610618551118994680520862166376899629120934636980896343856721007890298871,[0,1,2,3,4,5,11,12,14],3⟩
def ny.sat(w:World)(G:Shared)(q:Pr)(x:AV)(A:AA):= @RD.sat w G (ny.D w.2 q x A) (by cases x<;>walk_at "R")
def B5.D(P:Params)(q:Pr)(x:AV)(A:AA):RD:=⟨[(q.j 0,q.a 0+822,dO 0 []),
 (q.j 1,q.a 1+822,oj (q.a 7) (q.a 8)),
 (q.j 2,q.a 2+822,dB (q.a 4+822) (q.j 9)),
 (q.j 3,q.a 3+822,dB (q.a 5+822) (q.j 9)),
 (q.j 4,q.a 4+822,lO (q.en 4) (q.l 1)),
 (q.j 5,q.a 5+822,lO (q.en 5) (q.l 2)),
 (q.j 6,q.a 6+822,aO (q.en 1) (q.ar 0)),
 (q.j 7,q.a 7+822,tO [rA (q.a 2),rA (q.a 3)]),
 (q.j 8,q.a 8+822,tO [.none,.none])],
 λ i=>⟨fC true mi (rA (q.a 1)) (rA (q.a 6)) (fD mi (bh P) (q.a 0+822) (q.a 20+822)),20,i,q.L,λ g=>A 99 [g],
 λ g=>⟨.ok .next,bg i [(0,dO 2 [kS P aV (g.n 4) (g.v 0),kS P de (g.n 5) (g.v 1)]),
  (2,eT (g.n 2)),
  (3,dB (q.a 5+822) (g.n 2)),
  (6,aO (g.n 3) ⟨g.vl 0⟩),
  (8,tO [g.v 0,g.v 1])],
  [(g.n 6+822,tO [.str (q.s 0) (q.c 0),rA (g.n 7)]),
  (g.n 7+822,lO 0 [x.v])],g.l⟩⟩,
 λ i b t=>[none,
 c 1 λ g0=>.full (pf (q.a 2+822) (q.a 4+822) 2 4 (q.en 4) (q.l 1) (q.j 9) (.str (q.s 0) (q.c 0)) q.L),
 c 2 λ g0 g1=>.full (pf (q.a 3+822) (q.a 5+822) 3 5 (q.en 5) (q.l 2) (q.j 9) x.v q.L),
 c 3 λ g0 g1 g2=>.full (qW (q.a 6+822) 6 (q.en 1) (q.ar 0) (rA (g2.n 0+5)) q.L),
 c 4 λ g0 g1 g2 g3=>.full (aj (fC false mi (rA (q.a 1)) (rA (q.a 6)) (fD mi (bh P) (q.a 0+822) (q.a 20+822))) 20 i [.o 0 (q.a 0+822) (dO 2 [kS P aV (g2.n 1+0) (.str (q.s 0) (q.c 0)),kS P de (g2.n 1+1) x.v]),.k 1,.o 2 (q.a 2+822) (dB (q.a 4+822) (q.j 9+1)),.o 3 (q.a 3+822) (dB (q.a 5+822) (q.j 9+1)),.k 4,.k 5,.o 6 (q.a 6+822) (aO (q.en 1+1) ((q.ar 0).push (rA (g2.n 0+5)))),.k 7,.o 8 (q.a 8+822) (tO [.str (q.s 0) (q.c 0),x.v])] q.L (λ g4=>A 4 [g0,g1,g2,g3,g4]) λ g4=>(.ok .next,[(0,dO 2 [kS P aV (g4.n 4) (g4.v 0),kS P de (g4.n 5) (g4.v 1)]),(2,eT (g4.n 2)),(3,dB (q.a 5+822) (g4.n 2)),(6,aO (g4.n 3) ⟨g4.vl 0⟩),(8,tO [g4.v 0,g4.v 1])],[],g4.l))],
 λ b t=>ap 5 λ g0 g1 g2 g3 g4=>⟨[g4.n 0+0,g4.n 1+0,g4.n 2,g4.n 3,g4.n 4,g4.n 5,g2.n 0+5,g2.n 0+4],g4.l,[g4.v 0,g4.v 1],g4.vl 0,#[]⟩,ax 2003 72 5255260124009961764438721102754026703764477618842342995381930157678133534832128448549531722477090939966433684210733044501947164736352356445096183042291969505468378984330854935566731502756149352084208785758535489844281088422891163019784,[0,1,2,3,4,5,6,7,8,14,13],5⟩
def B5.sat(w:World)(G:Shared)(q:Pr)(x:AV)(A:AA):= @RD.sat w G (B5.D w.2 q x A) (by cases x<;>walk_at "R")
def Dv.D(P:Params)(q:Pr)(x:AV)(A:AA):RD:=⟨[(q.j 0,q.a 0+822,dO 2 [kS P aV (q.u 0) (q.v 8),kS P de (q.u 2) (q.v 9)]),
 (q.j 1,q.a 1+822,oj (q.a 7) (q.a 8)),
 (q.j 2,q.a 2+822,dB (q.a 4+822) (q.j 9)),
 (q.j 3,q.a 3+822,dB (q.a 5+822) (q.j 9)),
 (q.j 4,q.a 4+822,lO (q.en 4) (q.l 1)),
 (q.j 5,q.a 5+822,lO (q.en 5) (q.l 2)),
 (q.j 6,q.a 6+822,aO (q.en 1) (q.ar 0)),
 (q.j 7,q.a 7+822,tO [rA (q.a 2),rA (q.a 3)]),
 (q.j 8,q.a 8+822,tO [q.v 8,q.v 9])],
 λ i=>⟨fC false mi (rA (q.a 1)) (rA (q.a 6)) (fD mi (bh P) (q.a 0+822) (q.a 20+822)),20,i,q.L,λ g=>A 99 [g],
 λ g=>⟨.ok .next,bg i [(0,dO 2 [kS P aV (g.n 4) (g.v 0),kS P de (g.n 5) (g.v 1)]),
  (2,eT (g.n 2)),
  (3,dB (q.a 5+822) (g.n 2)),
  (6,aO (g.n 3) ⟨g.vl 0⟩),
  (8,tO [g.v 0,g.v 1])],
  [(g.n 6+822,tO [.str (q.s 0) (q.c 0),rA (g.n 7)]),
  (g.n 7+822,lO 0 [x.v])],g.l⟩⟩,
 λ i b t=>[c 0 (.full (pf (q.a 2+822) (q.a 4+822) 2 4 (q.en 4) (q.l 1) (q.j 9) (.str (q.s 0) (q.c 0)) q.L)),
 c 1 λ g0=>.full (pf (q.a 3+822) (q.a 5+822) 3 5 (q.en 5) (q.l 2) (q.j 9) x.v q.L),
 c 2 λ g0 g1=>.full (qW (q.a 6+822) 6 (q.en 1) (q.ar 0) (rA (g1.n 0+5)) q.L),
 c 3 λ g0 g1 g2=>.full (aj (fC false mi (rA (q.a 1)) (rA (q.a 6)) (fD mi (bh P) (q.a 0+822) (q.a 20+822))) 20 i [.o 0 (q.a 0+822) (dO 2 [kS P aV (q.u 0) (.str (q.s 0) (q.c 0)),kS P de (q.u 2) x.v]),.k 1,.o 2 (q.a 2+822) (dB (q.a 4+822) (q.j 9+1)),.o 3 (q.a 3+822) (dB (q.a 5+822) (q.j 9+1)),.k 4,.k 5,.o 6 (q.a 6+822) (aO (q.en 1+1) ((q.ar 0).push (rA (g1.n 0+5)))),.k 7,.o 8 (q.a 8+822) (tO [.str (q.s 0) (q.c 0),x.v])] q.L (λ g3=>A 3 [g0,g1,g2,g3]) λ g3=>(.ok .next,[(0,dO 2 [kS P aV (g3.n 4) (g3.v 0),kS P de (g3.n 5) (g3.v 1)]),(2,eT (g3.n 2)),(3,dB (q.a 5+822) (g3.n 2)),(6,aO (g3.n 3) ⟨g3.vl 0⟩),(8,tO [g3.v 0,g3.v 1])],[],g3.l))],
 λ b t=>ap 4 λ g0 g1 g2 g3=>⟨[g3.n 0+0,g3.n 1+0,g3.n 2,g3.n 3,g3.n 4,g3.n 5,g1.n 0+5,g1.n 0+4],g3.l,[g3.v 0,g3.v 1],g3.vl 0,#[]⟩,ax 2003 71 2623694520224643916344843286447342338374676794229826757554633129145348744299614802071658373678028427342203536800166272841711015844409563876732992033096340242370633541852648495040804544561232826801901540568415122238782370655462387927,[0,1,2,3,4,5,6,7,8,14,13],4⟩
def Dv.sat(w:World)(G:Shared)(q:Pr)(x:AV)(A:AA):= @RD.sat w G (Dv.D w.2 q x A) (by cases x<;>walk_at "R")
def Ct.D(P:Params)(q:Pr)(A:AA):RD:=⟨[(q.j 0,q.a 0+822,dO 2 [kS P aV (q.u 0) (q.v 8),kS P de (q.u 2) (q.v 9)]),
 (q.j 1,q.a 1+822,oj (q.a 7) (q.a 8)),
 (q.j 2,q.a 2+822,dB (q.a 4+822) (q.j 9)),
 (q.j 3,q.a 3+822,dB (q.a 5+822) (q.j 9)),
 (q.j 4,q.a 4+822,lO (q.en 4) (q.l 1)),
 (q.j 5,q.a 5+822,lO (q.en 5) (q.l 2)),
 (q.j 6,q.a 6+822,aO (q.en 1) (q.ar 0)),
 (q.j 7,q.a 7+822,tO [rA (q.a 2),rA (q.a 3)]),
 (q.j 8,q.a 8+822,tO [q.v 8,q.v 9])],
 λ i=>⟨fC false mi (rA (q.a 1)) (rA (q.a 6)) (fD mi (bh P) (q.a 0+822) (q.a 20+822)),3,i,q.L,λ g=>A 99 [g],
 λ g=>⟨.ok .next,bg i [(0,dO 2 [kS P aV (g.n 4) (g.v 0),kS P de (g.n 5) (g.v 1)]),
  (2,eT (g.n 2)),
  (3,dB (q.a 5+822) (g.n 2)),
  (6,aO (g.n 3) ⟨g.vl 0⟩),
  (8,tO [g.v 0,g.v 1])],
  [],g.l⟩⟩,
 λ i b t=>[c 0 (.full (zv (q.a 2+822) (q.a 4+822) 2 4 (q.en 4) (q.l 1) (q.j 9) q.L))],
 λ b t=>ap 1 λ g0=>⟨[g0.n 0+0,g0.n 1+0,q.j 9,q.en 1,q.u 0,q.u 2],q.L,[q.v 8,q.v 9],q.l 0,#[]⟩,ax 11 16 42608216650339373,[0,1,2,3,4,5,6,7,8],1⟩
def Ct.sat(w:World)(G:Shared)(q:Pr)(A:AA):= @RD.sat w G (Ct.D w.2 q A) (by walk_at "R")
def B6.D(P:Params)(q:Pr)(A:AA):RD:=⟨[(q.j 0,q.a 0+822,dO 0 []),
 (q.j 1,q.a 1+822,dB (q.a 2+822) (q.j 9)),
 (q.j 2,q.a 2+822,lO (q.en 4) (q.l 1)),
 (q.j 3,q.a 3+822,aO (q.en 1) (q.ar 0))],
 λ i=>⟨fC true ml (rA (q.a 1)) (rA (q.a 3)) (fD ml (bh P) (q.a 0+822) (q.a 20+822)),20,i,q.L,λ g=>A 99 [g],
 λ g=>⟨.ok .next,bg i [(0,dO 1 [kS P aV (g.n 4) (g.v 0)]),
  (1,eT (g.n 2)),
  (3,aO (g.n 3) ⟨g.vl 0⟩)],
  [(g.n 5+822,tO [.str (q.s 0) (q.c 0),rA (g.n 6)]),
  (g.n 6+822,lO 0 [])],g.l⟩⟩,
 λ i b t=>[none,
 c 1 λ g0=>.full (pf (q.a 1+822) (q.a 2+822) 1 2 (q.en 4) (q.l 1) (q.j 9) (.str (q.s 0) (q.c 0)) q.L),
 c 2 λ g0 g1=>.full (qW (q.a 3+822) 3 (q.en 1) (q.ar 0) (rA (g1.n 0+1)) q.L),
 c 3 λ g0 g1 g2=>.full (aj (fC false ml (rA (q.a 1)) (rA (q.a 3)) (fD ml (bh P) (q.a 0+822) (q.a 20+822))) 20 i [.o 0 (q.a 0+822) (dO 1 [kS P aV (g1.n 1+0) (.str (q.s 0) (q.c 0))]),.o 1 (q.a 1+822) (dB (q.a 2+822) (q.j 9+1)),.k 2,.o 3 (q.a 3+822) (aO (q.en 1+1) ((q.ar 0).push (rA (g1.n 0+1))))] q.L (λ g3=>A 3 [g0,g1,g2,g3]) λ g3=>(.ok .next,[(0,dO 1 [kS P aV (g3.n 4) (g3.v 0)]),(1,eT (g3.n 2)),(3,aO (g3.n 3) ⟨g3.vl 0⟩)],[],g3.l))],
 λ b t=>ap 4 λ g0 g1 g2 g3=>⟨[g3.n 0+0,g3.n 1+0,g3.n 2,g3.n 3,g3.n 4,g1.n 0+1,g1.n 0+0],g3.l,[g3.v 0],g3.vl 0,#[]⟩,ax 3 9 18624,[0,1,2,3,5,4],4⟩
def B6.sat(w:World)(G:Shared)(q:Pr)(A:AA):= @RD.sat w G (B6.D w.2 q A) (by walk_at "R")
def Dw.D(P:Params)(q:Pr)(A:AA):RD:=⟨[(q.j 0,q.a 0+822,dO 1 [kS P aV (q.u 0) (q.v 8)]),
 (q.j 1,q.a 1+822,dB (q.a 2+822) (q.j 9)),
 (q.j 2,q.a 2+822,lO (q.en 4) (q.l 1)),
 (q.j 3,q.a 3+822,aO (q.en 1) (q.ar 0))],
 λ i=>⟨fC false ml (rA (q.a 1)) (rA (q.a 3)) (fD ml (bh P) (q.a 0+822) (q.a 20+822)),20,i,q.L,λ g=>A 99 [g],
 λ g=>⟨.ok .next,bg i [(0,dO 1 [kS P aV (g.n 4) (g.v 0)]),
  (1,eT (g.n 2)),
  (3,aO (g.n 3) ⟨g.vl 0⟩)],
  [(g.n 5+822,tO [.str (q.s 0) (q.c 0),rA (g.n 6)]),
  (g.n 6+822,lO 0 [])],g.l⟩⟩,
 λ i b t=>[c 0 (.full (pf (q.a 1+822) (q.a 2+822) 1 2 (q.en 4) (q.l 1) (q.j 9) (.str (q.s 0) (q.c 0)) q.L)),
 c 1 λ g0=>.full (qW (q.a 3+822) 3 (q.en 1) (q.ar 0) (rA (g0.n 0+1)) q.L),
 c 2 λ g0 g1=>.full (aj (fC false ml (rA (q.a 1)) (rA (q.a 3)) (fD ml (bh P) (q.a 0+822) (q.a 20+822))) 20 i [.o 0 (q.a 0+822) (dO 1 [kS P aV (q.u 0) (.str (q.s 0) (q.c 0))]),.o 1 (q.a 1+822) (dB (q.a 2+822) (q.j 9+1)),.k 2,.o 3 (q.a 3+822) (aO (q.en 1+1) ((q.ar 0).push (rA (g0.n 0+1))))] q.L (λ g2=>A 2 [g0,g1,g2]) λ g2=>(.ok .next,[(0,dO 1 [kS P aV (g2.n 4) (g2.v 0)]),(1,eT (g2.n 2)),(3,aO (g2.n 3) ⟨g2.vl 0⟩)],[],g2.l))],
 λ b t=>ap 3 λ g0 g1 g2=>⟨[g2.n 0+0,g2.n 1+0,g2.n 2,g2.n 3,g2.n 4,g0.n 0+1,g0.n 0+0],g2.l,[g2.v 0],g2.vl 0,#[]⟩,ax 3 8 6207,[0,1,2,3,5,4],3⟩
def Dw.sat(w:World)(G:Shared)(q:Pr)(A:AA):= @RD.sat w G (Dw.D w.2 q A) (by walk_at "R")
def Cu.D(P:Params)(q:Pr)(A:AA):RD:=⟨[(q.j 0,q.a 0+822,dO 1 [kS P aV (q.u 0) (q.v 8)]),
 (q.j 1,q.a 1+822,dB (q.a 2+822) (q.j 9)),
 (q.j 2,q.a 2+822,lO (q.en 4) (q.l 1)),
 (q.j 3,q.a 3+822,aO (q.en 1) (q.ar 0))],
 λ i=>⟨fC false ml (rA (q.a 1)) (rA (q.a 3)) (fD ml (bh P) (q.a 0+822) (q.a 20+822)),2,i,q.L,λ g=>A 99 [g],
 λ g=>⟨.ok .next,bg i [(0,dO 1 [kS P aV (g.n 4) (g.v 0)]),
  (1,eT (g.n 2)),
  (3,aO (g.n 3) ⟨g.vl 0⟩)],
  [],g.l⟩⟩,
 λ i b t=>[c 0 (.full (zv (q.a 1+822) (q.a 2+822) 1 2 (q.en 4) (q.l 1) (q.j 9) q.L))],
 λ b t=>ap 1 λ g0=>⟨[g0.n 0+0,g0.n 1+0,q.j 9,q.en 1,q.u 0],q.L,[q.v 8],q.l 0,#[]⟩,ax 6 4 1164,[0,1,2,3],1⟩
def Cu.sat(w:World)(G:Shared)(q:Pr)(A:AA):= @RD.sat w G (Cu.D w.2 q A) (by walk_at "R")
def Cv.D(P:Params)(q:Pr):RD:=⟨[(q.j 0,q.a 0+822,lO 1 [rA (q.a 1)]),
 (q.j 1,q.a 1+822,tO [.str bq (q.u 0),rA (q.a 2)])],
 λ i=>⟨.call (.type "dict") ⟨[rA (q.a 0)],[]⟩,1,i,q.L,λ _=>True,
 λ g=>⟨.ok (.ret (rA (g.n 2))),bg i [],
  [(g.n 2+822,dO 1 [kS P bq (q.u 0) (rA (q.a 2))])],q.L⟩⟩,
 λ i b t=>[],
 λ b t=>ap 0 (⟨[b+6,t+4,b+0],q.L,[],[],#[]⟩),ax 9 51 4506017830153878194395710641825511680548307834769,[0,1,2],0⟩
theorem Cv.sat(w:World)(G:Shared)(q:Pr):ai w G (Cv.D w.2 q).Z:=RD.sat (by walk_at "R") (λ b t=>
 λ _ _=>trivial)
def Cw.D(P:Params)(q:Pr):RD:=⟨[(q.j 0,q.a 0+822,lO 2 [rA (q.a 1),rA (q.a 2)]),
 (q.j 1,q.a 1+822,tO [.str bq (q.u 0),rA (q.a 3)]),
 (q.j 2,q.a 2+822,tO [.str bH (q.u 1),rA (q.a 4)])],
 λ i=>⟨.call (.type "dict") ⟨[rA (q.a 0)],[]⟩,1,i,q.L,λ _=>True,
 λ g=>⟨.ok (.ret (rA (g.n 2))),bg i [],
  [(g.n 2+822,dO 2 [kS P bq (q.u 0) (rA (q.a 3)),kS P bH (q.u 1) (rA (q.a 4))])],q.L⟩⟩,
 λ i b t=>[],
 λ b t=>ap 0 (⟨[b+6,t+5,b+0],q.L,[],[],#[]⟩),ax 10 66 977177707444403377177707444402277177707710116666666111110114404400,[0,1,2,3],0⟩
theorem Cw.sat(w:World)(G:Shared)(q:Pr):ai w G (Cw.D w.2 q).Z:=RD.sat (by walk_at "R") (λ b t=>
 λ _ _=>trivial)
def Cx.D(P:Params)(q:Pr):RD:=⟨[(q.j 0,q.a 0+822,lO 3 [rA (q.a 1),rA (q.a 2),rA (q.a 3)]),
 (q.j 1,q.a 1+822,tO [.str bq (q.u 0),rA (q.a 4)]),
 (q.j 2,q.a 2+822,tO [.str bH (q.u 1),rA (q.a 5)]),
 (q.j 3,q.a 3+822,tO [.str ca (q.u 2),rA (q.a 6)])],
 λ i=>⟨.call (.type "dict") ⟨[rA (q.a 0)],[]⟩,1,i,q.L,λ _=>True,
 λ g=>⟨.ok (.ret (rA (g.n 2))),bg i [],
  [(g.n 2+822,dO 3 [kS P bq (q.u 0) (rA (q.a 4)),kS P bH (q.u 1) (rA (q.a 5)),kS P ca (q.u 2) (rA (q.a 6))])],q.L⟩⟩,
 λ i b t=>[],
 λ b t=>ap 0 (⟨[b+6,t+6,b+0],q.L,[],[],#[]⟩),ax 11 81 2211194851993767203300386968564892503735628305893440869731169598061046709362421378571,[0,1,2,3,4],0⟩
theorem Cx.sat(w:World)(G:Shared)(q:Pr):ai w G (Cx.D w.2 q).Z:=RD.sat (by walk_at "R") (λ b t=>
 λ _ _=>trivial)
def Cy.D(P:Params)(q:Pr):RD:=⟨[(q.j 0,q.a 0+822,lO 4 [rA (q.a 1),rA (q.a 2),rA (q.a 3),rA (q.a 4)]),
 (q.j 1,q.a 1+822,tO [.str bq (q.u 0),rA (q.a 5)]),
 (q.j 2,q.a 2+822,tO [.str bH (q.u 1),rA (q.a 6)]),
 (q.j 3,q.a 3+822,tO [.str ca (q.u 2),rA (q.a 7)]),
 (q.j 4,q.a 4+822,tO [.str cG (q.u 3),rA (q.a 8)])],
 λ i=>⟨.call (.type "dict") ⟨[rA (q.a 0)],[]⟩,1,i,q.L,λ _=>True,
 λ g=>⟨.ok (.ret (rA (g.n 2))),bg i [],
  [(g.n 2+822,dO 4 [kS P bq (q.u 0) (rA (q.a 5)),kS P bH (q.u 1) (rA (q.a 6)),kS P ca (q.u 2) (rA (q.a 7)),kS P cG (q.u 3) (rA (q.a 8))])],q.L⟩⟩,
 λ i b t=>[],
 λ b t=>ap 0 (⟨[b+6,t+7,b+0],q.L,[],[],#[]⟩),ax 12 96 39318674580109917588214731877943421347585867032610471354710156181619107606240673773195395009015566832608,[0,1,2,3,4,5],0⟩
theorem Cy.sat(w:World)(G:Shared)(q:Pr):ai w G (Cy.D w.2 q).Z:=RD.sat (by walk_at "R") (λ b t=>
 λ _ _=>trivial)
def yg.zo(i:List (Nat×Nat×Obj))(P:Params)(q:Pr)(y:T2)(s:Array (Option Value))(g:Gh):SB:=⟨.ok .next,bg i [(0,mX P q s g),
  (1,eT (g.n 7)),
  (2,aO (g.n 8) ⟨g.vl 0⟩)],
  [],g.l⟩
def yg.D(P:Params)(q:Pr)(y:T2)(A:AA):RD:=⟨[(q.j 0,q.a 0+822,gg (y.p 7 8) (q.sl 0) (y.p [kS P aJ (q.u 0) (rA (q.S.a 13)),kS P ay (q.u 1) (rA (q.a 3)),kS P aF (q.u 2) (.str (q.s 0) (q.u 3)),kS P az (q.u 4) (.int (q.m 1) (q.u 5)),kS P aA (q.u 6) (rA (q.a 2)),kS P bE (q.u 7) (q.v 2),kS P bF (q.u 9) (q.v 3)] [kS P aJ (q.u 0) (rA (q.S.a 13)),kS P ay (q.u 1) (rA (q.a 3)),kS P aF (q.u 2) (.str (q.s 0) (q.u 3)),kS P az (q.u 4) (.int (q.m 1) (q.u 5)),kS P aA (q.u 6) (rA (q.a 2)),kS P bE (q.u 7) (q.v 2),kS P bF (q.u 9) (q.v 3),kS P aM (q.u 11) (q.v 4)])),
 (q.j 1,q.a 1+822,dB (q.a 3+822) (q.j 9)),
 (q.j 2,q.a 2+822,aO (q.en 1) (q.ar 0)),
 (q.j 3,q.a 3+822,lO (q.en 2) (q.l 1))],
 λ i=>⟨cg (aq (fB (aq bY 114)) 1) (rA (q.a 1)) (ci (bW P) 797 (q.a 0+822)),2,i,q.L,λ g=>A 99 [g],
 λ g=>yg.zo i P q y (g.sl (q.a 0+822)) g⟩,
 λ i b t=>[c 0 (.full (zv (q.a 1+822) (q.a 3+822) 1 3 (q.en 2) (q.l 1) (q.j 9) q.L))],
 λ b t=>ap 1 λ g0=>⟨[g0.n 0+0,g0.n 1+0,q.u 3,q.u 5,q.u 7,q.u 9,q.u 11,q.j 9,q.en 1,y.p 0 1,y.p 7 8],q.L,[.str (q.s 0) (q.u 3),.int (q.m 1) (q.u 5),q.v 2,q.v 3,q.v 4],q.l 0,g0.sl (q.a 0+822)⟩,ax 6 4 1164,[0,1,2,3],1⟩
def yg.sat(w:World)(G:Shared)(q:Pr)(y:T2)(A:AA):= @RD.satZ w G (yg.D w.2 q y A) (by cases y<;>walk_at "Z") (λ b t gs sl h=>congrArg (λ s=>yg.zo (yg.D w.2 q y A).i w.2 q y s (((yg.D w.2 q y A).e b t gs).gh sl)) (h.1 rfl).symm)
def Dx.D(P:Params)(q:Pr)(A:AA):RD:=⟨[(q.j 0,q.a 0+822,lO (q.en 2) (q.l 1))],
 λ i=>⟨au 797 [rA (q.S.a 13),rA (q.a 0)],51,i,q.L,λ g=>A 99 [g],
 λ g=>⟨.ok (.ret (rA (g.n 3))),bg i [],
  [(g.n 3+822,tO [rA (g.n 4),.int (iO (g.v 1)) (g.n 5),.str (sO (g.v 0)) (g.n 6)]),
  (g.n 4+822,aO (g.n 2) ⟨g.vl 0⟩)],g.l⟩⟩,
 λ i b t=>[c 0 (.full (aj (cg (aq (fB (aq bY 114)) 1) (rA (b+6)) (ci (bW P) 797 ((b+0)+822))) 50 i [.o 1 ((b+0)+822) (gg 5 ⟨[]⟩ [kS P aJ (t+0) (rA (q.S.a 13)),kS P ay (t+1) (rA (q.a 0)),kS P aF (t+4) (.str aa (t+3)),kS P az (t+5) (.int 0 (t+2)),kS P aA (t+6) (rA (b+1))]),.o 7 ((b+6)+822) ⟨.type "list_iterator",none,.fields ⟨[rA (q.a 0),.int 0 0]⟩,⟨[]⟩⟩,.o 2 ((b+1)+822) (lO 0 []),.k 0] q.L (λ g0=>A 0 [g0]) λ g0=>(.ok .next,[(0,mX P ⟨q.S,tk [0,0,b+1,q.a 0],tk [t+0,t+1,t+4,0,t+5,0,t+6],q.j,q.c,q.m,q.s,q.o,q.v,q.l,q.e,q.en,q.h,q.p,q.r,q.sl,q.L⟩ (g0.sl ((b+0)+822)) g0),(1,eT (g0.n 7)),(2,aO (g0.n 8) ⟨g0.vl 0⟩)],[],g0.l)))],
 λ b t=>ap 1 λ g0=>⟨[g0.n 0+1,g0.n 1+0,g0.n 8,g0.n 0+0,b+1,g0.n 3,g0.n 2],g0.l,[g0.v 0,g0.v 1],g0.vl 0,#[]⟩,ax 9 62 36368879004625746116617144414459031910308036850783109168327,[0,8,2],1⟩
def Dx.sat(w:World)(G:Shared)(q:Pr)(A:AA):= @RD.sat w G (Dx.D w.2 q A) (by walk_at "R")
def lH.zo(i:List (Nat×Nat×Obj))(P:Params)(q:Pr)(x:T3)(s:Array (Option Value))(g:Gh):SB:=⟨.ok .next,bg i [(0,mX P q s g),
  (1,eT (g.n 7)),
  (2,aO (g.n 8) ⟨g.vl 0⟩)],
  [],g.l⟩
def lH.D(P:Params)(q:Pr)(x:T3)(A:AA):RD:=⟨[(q.j 0,q.a 0+822,gg (x.p 5 7 8) (q.sl 0) (x.p [kS P aJ (q.u 0) (rA (q.S.a 13)),kS P ay (q.u 1) (rA (q.a 3)),kS P aF (q.u 2) (.str aa (q.u 3)),kS P az (q.u 4) (.int (q.m 1) (q.u 5)),kS P aA (q.u 6) (rA (q.a 2))] [kS P aJ (q.u 0) (rA (q.S.a 13)),kS P ay (q.u 1) (rA (q.a 3)),kS P aF (q.u 2) (.str aa (q.u 3)),kS P az (q.u 4) (.int (q.m 1) (q.u 5)),kS P aA (q.u 6) (rA (q.a 2)),kS P bE (q.u 7) (q.v 2),kS P bF (q.u 9) (q.v 3)] [kS P aJ (q.u 0) (rA (q.S.a 13)),kS P ay (q.u 1) (rA (q.a 3)),kS P aF (q.u 2) (.str (q.s 0) (q.u 3)),kS P az (q.u 4) (.int (q.m 1) (q.u 5)),kS P aA (q.u 6) (rA (q.a 2)),kS P bE (q.u 7) (q.v 2),kS P bF (q.u 9) (q.v 3),kS P aM (q.u 11) (q.v 4)])),
 (q.j 1,q.a 1+822,dB (q.a 3+822) (q.j 9)),
 (q.j 2,q.a 2+822,aO (q.en 1) (q.ar 0)),
 (q.j 3,q.a 3+822,lO (q.en 2) (q.l 1))],
 λ i=>⟨cg (aq (fB (aq bY 114)) 1) (rA (q.a 1)) (ci (bW P) 797 (q.a 0+822)),50,i,q.L,λ g=>A 99 [g],
 λ g=>lH.zo i P q x (g.sl (q.a 0+822)) g⟩,
 λ i b t=>[c 0 (.full (pf (q.a 1+822) (q.a 3+822) 1 3 (q.en 2) (q.l 1) (q.j 9) (.int (q.m 4) (q.c 90)) q.L)),
 c 1 λ g0=>.full (aj (au 790 [rA (q.S.a 13),.int 8 (g0.n 1+1)]) 12 i [] q.L (λ g1=>A 1 [g0,g1]) λ g1=>(.ok (.ret (.int (q.m 5) (g1.n 2))),[],[],g1.l)),
 c 2 λ g0 g1=>.pure (aX "int.__lt__" (q.m 5) 6 (g1.n 2) (g1.n 1+1) true),
 c 2 λ g0 g1=>.pure (aX "int.__eq__" (q.m 5) 5 (g1.n 2) (g1.n 1+2) false),
 c 2 λ g0 g1=>.full (qW (q.a 2+822) 2 (q.en 1) (q.ar 0) (.int (q.m 4) (q.c 90)) g1.l),
 c 3 λ g0 g1 g2=>.pure (bL "str.__eq__" (x.p aa aa (q.s 0)) aa (q.u 3) (g2.n 1+0) (x.p true true false)),
 c 3 λ g0 g1 g2=>.full (aj (cg (aq (fB (aq bY 114)) 1) (rA (q.a 1)) (ci (bW P) 797 (q.a 0+822))) 50 i [.o 0 (q.a 0+822) (gg (x.p 7 7 8) (g2.sl (q.a 0+822)) (x.p [kS P aJ (q.u 0) (rA (q.S.a 13)),kS P ay (q.u 1) (rA (q.a 3)),kS P aF (q.u 2) (.str aa (q.u 3)),kS P az (q.u 4) (.int (q.m 1+1) (g2.n 1+2)),kS P aA (q.u 6) (rA (q.a 2)),kS P bE (g0.n 1+0) (.int (q.m 4) (q.c 90)),kS P bF (g1.n 1+0) (.int (q.m 5) (g1.n 2))] [kS P aJ (q.u 0) (rA (q.S.a 13)),kS P ay (q.u 1) (rA (q.a 3)),kS P aF (q.u 2) (.str aa (q.u 3)),kS P az (q.u 4) (.int (q.m 1+1) (g2.n 1+2)),kS P aA (q.u 6) (rA (q.a 2)),kS P bE (q.u 7) (.int (q.m 4) (q.c 90)),kS P bF (q.u 9) (.int (q.m 5) (g1.n 2))] [kS P aJ (q.u 0) (rA (q.S.a 13)),kS P ay (q.u 1) (rA (q.a 3)),kS P aF (q.u 2) (.str (q.s 0) (q.u 3)),kS P az (q.u 4) (.int (q.m 1+0) (g2.n 1+2)),kS P aA (q.u 6) (rA (q.a 2)),kS P bE (q.u 7) (.int (q.m 4) (q.c 90)),kS P bF (q.u 9) (.int (q.m 5) (g1.n 2)),kS P aM (q.u 11) (q.v 4)])),.o 1 (q.a 1+822) (dB (q.a 3+822) (q.j 9+1)),.o 2 (q.a 2+822) (aO (q.en 1+1) ((q.ar 0).push (.int (q.m 4) (q.c 90)))),.k 3] g1.l (λ g3=>A 6 [g0,g1,g2,g3]) λ g3=>(.ok .next,[(0,mX P q (g3.sl (q.a 0+822)) g3),(1,eT (g3.n 7)),(2,aO (g3.n 8) ⟨g3.vl 0⟩)],[],g3.l))],
 λ b t=>ap 4 λ g0 g1 g2 g3=>⟨[g3.n 0+0,g3.n 1+0,g3.n 2,g3.n 3,g3.n 4,g3.n 5,g3.n 6,g3.n 7,g3.n 8,g3.n 9,g3.n 10],g3.l,[g3.v 0,g3.v 1,g3.v 2,g3.v 3,g3.v 4],g3.vl 0,g3.sl (q.a 0+822)⟩,ax 4 29 167294679733637480,[0,1,2,3],7⟩
def lH.sat(w:World)(G:Shared)(q:Pr)(x:T3)(A:AA):= @RD.satZ w G (lH.D w.2 q x A) (by cases x<;>walk_at "Z") (λ b t gs sl h=>congrArg (λ s=>lH.zo (lH.D w.2 q x A).i w.2 q x s (((lH.D w.2 q x A).e b t gs).gh sl)) (h.1 rfl).symm)
def lR.zo(i:List (Nat×Nat×Obj))(P:Params)(q:Pr)(x:T3)(s:Array (Option Value))(g:Gh):SB:=⟨.ok .next,bg i [(0,mX P q s g),
  (1,eT (g.n 7)),
  (2,aO (g.n 8) ⟨g.vl 0⟩)],
  [(g.n 11+822,tO [.int (q.m 4) (q.c 90),.int 0 (g.n 12)])],g.l⟩
def lR.D(P:Params)(q:Pr)(x:T3)(A:AA):RD:=⟨[(q.j 0,q.a 0+822,gg (x.p 5 7 8) (q.sl 0) (x.p [kS P aJ (q.u 0) (rA (q.S.a 13)),kS P ay (q.u 1) (rA (q.a 3)),kS P aF (q.u 2) (.str aa (q.u 3)),kS P az (q.u 4) (.int (q.m 1) (q.u 5)),kS P aA (q.u 6) (rA (q.a 2))] [kS P aJ (q.u 0) (rA (q.S.a 13)),kS P ay (q.u 1) (rA (q.a 3)),kS P aF (q.u 2) (.str aa (q.u 3)),kS P az (q.u 4) (.int (q.m 1) (q.u 5)),kS P aA (q.u 6) (rA (q.a 2)),kS P bE (q.u 7) (q.v 2),kS P bF (q.u 9) (q.v 3)] [kS P aJ (q.u 0) (rA (q.S.a 13)),kS P ay (q.u 1) (rA (q.a 3)),kS P aF (q.u 2) (.str (q.s 0) (q.u 3)),kS P az (q.u 4) (.int (q.m 1) (q.u 5)),kS P aA (q.u 6) (rA (q.a 2)),kS P bE (q.u 7) (q.v 2),kS P bF (q.u 9) (q.v 3),kS P aM (q.u 11) (q.v 4)])),
 (q.j 1,q.a 1+822,dB (q.a 3+822) (q.j 9)),
 (q.j 2,q.a 2+822,aO (q.en 1) (q.ar 0)),
 (q.j 3,q.a 3+822,lO (q.en 2) (q.l 1))],
 λ i=>⟨cg (aq (fB (aq bY 114)) 1) (rA (q.a 1)) (ci (bW P) 797 (q.a 0+822)),50,i,q.L,λ g=>A 99 [g],
 λ g=>lR.zo i P q x (g.sl (q.a 0+822)) g⟩,
 λ i b t=>[c 0 (.full (pf (q.a 1+822) (q.a 3+822) 1 3 (q.en 2) (q.l 1) (q.j 9) (.int (q.m 4) (q.c 90)) q.L)),
 c 1 λ g0=>.full (aj (au 790 [rA (q.S.a 13),.int 8 (g0.n 1+1)]) 12 i [] q.L (λ g1=>A 1 [g0,g1]) λ g1=>(.ok (.ret (.int 5 (g1.n 2))),[],[],g1.l)),
 c 2 λ g0 g1=>.full (qW (q.a 2+822) 2 (q.en 1) (q.ar 0) (rA (g1.n 0+0)) g1.l),
 c 3 λ g0 g1 g2=>.pure (bL "str.__eq__" (x.p aa aa (q.s 0)) aa (q.u 3) (g2.n 1+0) (x.p true true false)),
 c 3 λ g0 g1 g2=>.full (aj (cg (aq (fB (aq bY 114)) 1) (rA (q.a 1)) (ci (bW P) 797 (q.a 0+822))) 50 i [.o 0 (q.a 0+822) (gg (x.p 7 7 8) (g2.sl (q.a 0+822)) (x.p [kS P aJ (q.u 0) (rA (q.S.a 13)),kS P ay (q.u 1) (rA (q.a 3)),kS P aF (q.u 2) (.str aa (q.u 3)),kS P az (q.u 4) (.int (q.m 1+1) (g2.n 1+2)),kS P aA (q.u 6) (rA (q.a 2)),kS P bE (g0.n 1+0) (.int (q.m 4) (q.c 90)),kS P bF (g1.n 1+0) (.int 5 (g1.n 2))] [kS P aJ (q.u 0) (rA (q.S.a 13)),kS P ay (q.u 1) (rA (q.a 3)),kS P aF (q.u 2) (.str aa (q.u 3)),kS P az (q.u 4) (.int (q.m 1+1) (g2.n 1+2)),kS P aA (q.u 6) (rA (q.a 2)),kS P bE (q.u 7) (.int (q.m 4) (q.c 90)),kS P bF (q.u 9) (.int 5 (g1.n 2))] [kS P aJ (q.u 0) (rA (q.S.a 13)),kS P ay (q.u 1) (rA (q.a 3)),kS P aF (q.u 2) (.str (q.s 0) (q.u 3)),kS P az (q.u 4) (.int (q.m 1+0) (g2.n 1+2)),kS P aA (q.u 6) (rA (q.a 2)),kS P bE (q.u 7) (.int (q.m 4) (q.c 90)),kS P bF (q.u 9) (.int 5 (g1.n 2)),kS P aM (q.u 11) (q.v 4)])),.o 1 (q.a 1+822) (dB (q.a 3+822) (q.j 9+1)),.o 2 (q.a 2+822) (aO (q.en 1+1) ((q.ar 0).push (rA (g1.n 0+0)))),.k 3] g1.l (λ g3=>A 4 [g0,g1,g2,g3]) λ g3=>(.ok .next,[(0,mX P q (g3.sl (q.a 0+822)) g3),(1,eT (g3.n 7)),(2,aO (g3.n 8) ⟨g3.vl 0⟩)],[],g3.l))],
 λ b t=>ap 4 λ g0 g1 g2 g3=>⟨[g3.n 0+0,g3.n 1+0,g3.n 2,g3.n 3,g3.n 4,g3.n 5,g3.n 6,g3.n 7,g3.n 8,g3.n 9,g3.n 10,g1.n 0+0,g1.n 1+4],g3.l,[g3.v 0,g3.v 1,g3.v 2,g3.v 3,g3.v 4],g3.vl 0,g3.sl (q.a 0+822)⟩,ax 4 37 10963779123382278558056,[0,1,2,3,4],5⟩
def lR.sat(w:World)(G:Shared)(q:Pr)(x:T3)(A:AA):= @RD.satZ w G (lR.D w.2 q x A) (by cases x<;>walk_at "Z") (λ b t gs sl h=>congrArg (λ s=>lR.zo (lR.D w.2 q x A).i w.2 q x s (((lR.D w.2 q x A).e b t gs).gh sl)) (h.1 rfl).symm)
def lS.zo(i:List (Nat×Nat×Obj))(P:Params)(q:Pr)(x:T3)(s:Array (Option Value))(g:Gh):SB:=⟨.ok .next,bg i [(0,mX P q s g),
  (1,eT (g.n 7)),
  (2,aO (g.n 8) ⟨g.vl 0⟩)],
  [],g.l⟩
def lS.D(P:Params)(q:Pr)(x:T3)(A:AA):RD:=⟨[(q.j 0,q.a 0+822,gg (x.p 5 7 8) (q.sl 0) (x.p [kS P aJ (q.u 0) (rA (q.S.a 13)),kS P ay (q.u 1) (rA (q.a 3)),kS P aF (q.u 2) (.str aa (q.u 3)),kS P az (q.u 4) (.int (q.m 1) (q.u 5)),kS P aA (q.u 6) (rA (q.a 2))] [kS P aJ (q.u 0) (rA (q.S.a 13)),kS P ay (q.u 1) (rA (q.a 3)),kS P aF (q.u 2) (.str aa (q.u 3)),kS P az (q.u 4) (.int (q.m 1) (q.u 5)),kS P aA (q.u 6) (rA (q.a 2)),kS P bE (q.u 7) (q.v 2),kS P bF (q.u 9) (q.v 3)] [kS P aJ (q.u 0) (rA (q.S.a 13)),kS P ay (q.u 1) (rA (q.a 3)),kS P aF (q.u 2) (.str (q.s 0) (q.u 3)),kS P az (q.u 4) (.int (q.m 1) (q.u 5)),kS P aA (q.u 6) (rA (q.a 2)),kS P bE (q.u 7) (q.v 2),kS P bF (q.u 9) (q.v 3),kS P aM (q.u 11) (q.v 4)])),
 (q.j 1,q.a 1+822,dB (q.a 3+822) (q.j 9)),
 (q.j 2,q.a 2+822,aO (q.en 1) (q.ar 0)),
 (q.j 3,q.a 3+822,lO (q.en 2) (q.l 1))],
 λ i=>⟨cg (aq (fB (aq bY 114)) 1) (rA (q.a 1)) (ci (bW P) 797 (q.a 0+822)),50,i,q.L,λ g=>A 99 [g],
 λ g=>lS.zo i P q x (g.sl (q.a 0+822)) g⟩,
 λ i b t=>[c 0 (.full (pf (q.a 1+822) (q.a 3+822) 1 3 (q.en 2) (q.l 1) (q.j 9) (.int (q.m 4) (q.c 90)) q.L)),
 c 1 λ g0=>.full (aj (au 790 [rA (q.S.a 13),.int 8 (g0.n 1+1)]) 12 i [] q.L (λ g1=>A 1 [g0,g1]) λ g1=>(.ok (.ret (.int 6 (g1.n 2))),[],[],g1.l)),
 c 2 λ g0 g1=>.full (qW (q.a 2+822) 2 (q.en 1) (q.ar 0) (.str ⟨⟨[113]⟩⟩ (g1.n 1+4)) g1.l),
 c 3 λ g0 g1 g2=>.pure (bL "str.__ne__" (x.p aa aa (q.s 0)) aa (q.u 3) (g2.n 1+0) (x.p false false true)),
 c 3 λ g0 g1 g2=>.full (aj (cg (aq (fB (aq bY 114)) 1) (rA (q.a 1)) (ci (bW P) 797 (q.a 0+822))) 50 i [.o 0 (q.a 0+822) (gg 8 (g2.sl (q.a 0+822)) [kS P aJ (q.u 0) (rA (q.S.a 13)),kS P ay (q.u 1) (rA (q.a 3)),kS P aF (q.u 2) (.str (x.p b9 b9 (q.s 0)) (x.p (g2.n 1+2) (g2.n 1+2) (q.u 3))),kS P az (q.u 4) (.int (q.m 1) (q.u 5)),kS P aA (q.u 6) (rA (q.a 2)),kS P bE (x.p (g0.n 1+0) (q.u 7) (q.u 7)) (.int (q.m 4) (q.c 90)),kS P bF (x.p (g1.n 1+0) (q.u 9) (q.u 9)) (.int 6 (g1.n 2)),kS P aM (x.p (g1.n 1+3) (g1.n 1+3) (q.u 11)) (.bool false)]),.o 1 (q.a 1+822) (dB (q.a 3+822) (q.j 9+1)),.o 2 (q.a 2+822) (aO (q.en 1+1) ((q.ar 0).push (.str ⟨⟨[113]⟩⟩ (g1.n 1+4)))),.k 3] g1.l (λ g3=>A 4 [g0,g1,g2,g3]) λ g3=>(.ok .next,[(0,mX P q (g3.sl (q.a 0+822)) g3),(1,eT (g3.n 7)),(2,aO (g3.n 8) ⟨g3.vl 0⟩)],[],g3.l))],
 λ b t=>ap 4 λ g0 g1 g2 g3=>⟨[g3.n 0+0,g3.n 1+0,g3.n 2,g3.n 3,g3.n 4,g3.n 5,g3.n 6,g3.n 7,g3.n 8,g3.n 9,g3.n 10],g3.l,[g3.v 0,g3.v 1,g3.v 2,g3.v 3,g3.v 4],g3.vl 0,g3.sl (q.a 0+822)⟩,ax 7 (x.p 46 46 44) (x.p 231537262684881579839357312996329102541 231537262684881579839357312996329102541 4732541064019275903290169031752514918),[0,1,2,3],5⟩
def lS.sat(w:World)(G:Shared)(q:Pr)(x:T3)(A:AA):= @RD.satZ w G (lS.D w.2 q x A) (by cases x<;>walk_at "Z") (λ b t gs sl h=>congrArg (λ s=>lS.zo (lS.D w.2 q x A).i w.2 q x s (((lS.D w.2 q x A).e b t gs).gh sl)) (h.1 rfl).symm)
def lT.zo(i:List (Nat×Nat×Obj))(P:Params)(q:Pr)(x:T3)(s:Array (Option Value))(g:Gh):SB:=⟨.ok .next,bg i [(0,mX P q s g),
  (1,eT (g.n 7)),
  (2,aO (g.n 8) ⟨g.vl 0⟩)],
  [(g.n 11+822,tO [.int 4 (g.n 12),.int 4 (g.n 13)])],g.l⟩
def lT.D(P:Params)(q:Pr)(x:T3)(A:AA):RD:=⟨[(q.j 0,q.a 0+822,gg (x.p 5 7 8) (q.sl 0) (x.p [kS P aJ (q.u 0) (rA (q.S.a 13)),kS P ay (q.u 1) (rA (q.a 3)),kS P aF (q.u 2) (.str aa (q.u 3)),kS P az (q.u 4) (.int (q.m 1) (q.u 5)),kS P aA (q.u 6) (rA (q.a 2))] [kS P aJ (q.u 0) (rA (q.S.a 13)),kS P ay (q.u 1) (rA (q.a 3)),kS P aF (q.u 2) (.str aa (q.u 3)),kS P az (q.u 4) (.int (q.m 1) (q.u 5)),kS P aA (q.u 6) (rA (q.a 2)),kS P bE (q.u 7) (q.v 2),kS P bF (q.u 9) (q.v 3)] [kS P aJ (q.u 0) (rA (q.S.a 13)),kS P ay (q.u 1) (rA (q.a 3)),kS P aF (q.u 2) (.str (q.s 0) (q.u 3)),kS P az (q.u 4) (.int (q.m 1) (q.u 5)),kS P aA (q.u 6) (rA (q.a 2)),kS P bE (q.u 7) (q.v 2),kS P bF (q.u 9) (q.v 3),kS P aM (q.u 11) (q.v 4)])),
 (q.j 1,q.a 1+822,dB (q.a 3+822) (q.j 9)),
 (q.j 2,q.a 2+822,aO (q.en 1) (q.ar 0)),
 (q.j 3,q.a 3+822,lO (q.en 2) (q.l 1))],
 λ i=>⟨cg (aq (fB (aq bY 114)) 1) (rA (q.a 1)) (ci (bW P) 797 (q.a 0+822)),50,i,q.L,λ g=>A 99 [g],
 λ g=>lT.zo i P q x (g.sl (q.a 0+822)) g⟩,
 λ i b t=>[c 0 (.full (pf (q.a 1+822) (q.a 3+822) 1 3 (q.en 2) (q.l 1) (q.j 9) (.int (q.m 4) (q.c 90)) q.L)),
 c 1 λ g0=>.full (aj (au 790 [rA (q.S.a 13),.int 8 (g0.n 1+1)]) 12 i [] q.L (λ g1=>A 1 [g0,g1]) λ g1=>(.ok (.ret (.int 7 (g1.n 2))),[],[],g1.l)),
 c 2 λ g0 g1=>.full (qW (q.a 2+822) 2 (q.en 1) (q.ar 0) (rA (g1.n 0+0)) g1.l),
 c 3 λ g0 g1 g2=>.pure (bL "str.__ne__" (x.p aa aa (q.s 0)) aa (q.u 3) (g2.n 1+0) (x.p false false true)),
 c 3 λ g0 g1 g2=>.full (aj (cg (aq (fB (aq bY 114)) 1) (rA (q.a 1)) (ci (bW P) 797 (q.a 0+822))) 50 i [.o 0 (q.a 0+822) (gg 8 (g2.sl (q.a 0+822)) [kS P aJ (q.u 0) (rA (q.S.a 13)),kS P ay (q.u 1) (rA (q.a 3)),kS P aF (q.u 2) (.str (x.p gv gv (q.s 0)) (x.p (g2.n 1+2) (g2.n 1+2) (q.u 3))),kS P az (q.u 4) (.int (q.m 1) (q.u 5)),kS P aA (q.u 6) (rA (q.a 2)),kS P bE (x.p (g0.n 1+0) (q.u 7) (q.u 7)) (.int (q.m 4) (q.c 90)),kS P bF (x.p (g1.n 1+0) (q.u 9) (q.u 9)) (.int 7 (g1.n 2)),kS P aM (x.p (g1.n 1+3) (g1.n 1+3) (q.u 11)) (.bool false)]),.o 1 (q.a 1+822) (dB (q.a 3+822) (q.j 9+1)),.o 2 (q.a 2+822) (aO (q.en 1+1) ((q.ar 0).push (rA (g1.n 0+0)))),.k 3] g1.l (λ g3=>A 4 [g0,g1,g2,g3]) λ g3=>(.ok .next,[(0,mX P q (g3.sl (q.a 0+822)) g3),(1,eT (g3.n 7)),(2,aO (g3.n 8) ⟨g3.vl 0⟩)],[],g3.l))],
 λ b t=>ap 4 λ g0 g1 g2 g3=>⟨[g3.n 0+0,g3.n 1+0,g3.n 2,g3.n 3,g3.n 4,g3.n 5,g3.n 6,g3.n 7,g3.n 8,g3.n 9,g3.n 10,g1.n 0+0,g1.n 1+5,g1.n 1+6],g3.l,[g3.v 0,g3.v 1,g3.v 2,g3.v 3,g3.v 4],g3.vl 0,g3.sl (q.a 0+822)⟩,ax 7 (x.p 46 46 44) (x.p 231537262684881579839357312996329102541 231537262684881579839357312996329102541 4732541064019275903290169031752514918),[0,1,2,3,4],5⟩
def lT.sat(w:World)(G:Shared)(q:Pr)(x:T3)(A:AA):= @RD.satZ w G (lT.D w.2 q x A) (by cases x<;>walk_at "Z") (λ b t gs sl h=>congrArg (λ s=>lT.zo (lT.D w.2 q x A).i w.2 q x s (((lT.D w.2 q x A).e b t gs).gh sl)) (h.1 rfl).symm)
def oV.zo(i:List (Nat×Nat×Obj))(P:Params)(q:Pr)(s:Array (Option Value))(g:Gh):SB:=⟨.ok .next,bg i [(0,mX P q s g),
  (1,eT (g.n 7)),
  (2,aO (g.n 8) ⟨g.vl 0⟩)],
  [],g.l⟩
def oV.D(P:Params)(q:Pr)(A:AA):RD:=⟨[(q.j 0,q.a 0+822,gg 5 (q.sl 0) [kS P aJ (q.u 0) (rA (q.S.a 13)),kS P ay (q.u 1) (rA (q.a 3)),kS P aF (q.u 2) (.str aa (q.u 3)),kS P az (q.u 4) (.int (q.m 1) (q.u 5)),kS P aA (q.u 6) (rA (q.a 2))]),
 (q.j 1,q.a 1+822,dB (q.a 3+822) (q.j 9)),
 (q.j 2,q.a 2+822,aO (q.en 1) (q.ar 0)),
 (q.j 3,q.a 3+822,lO (q.en 2) (q.l 1))],
 λ i=>⟨cg (aq (fB (aq bY 114)) 1) (rA (q.a 1)) (ci (bW P) 797 (q.a 0+822)),50,i,q.L,λ g=>A 99 [g],
 λ g=>oV.zo i P q (g.sl (q.a 0+822)) g⟩,
 λ i b t=>[c 0 (.full (pf (q.a 1+822) (q.a 3+822) 1 3 (q.en 2) (q.l 1) (q.j 9) (.str (q.s 1) (q.c 90)) q.L)),
 c 1 λ g0=>.full (aj (au 790 [rA (q.S.a 13),.int 8 (g0.n 1+1)]) 12 i [] q.L (λ g1=>A 1 [g0,g1]) λ g1=>(.ok (.ret (.int (q.m 5) (g1.n 2))),[],[],g1.l)),
 c 2 λ g0 g1=>.pure (aX "int.__lt__" (q.m 5) 6 (g1.n 2) (g1.n 1+1) true),
 c 2 λ g0 g1=>.pure (aX "int.__eq__" (q.m 5) 5 (g1.n 2) (g1.n 1+2) false),
 c 2 λ g0 g1=>.full (qW (q.a 2+822) 2 (q.en 1) (q.ar 0) (.str (q.s 1) (q.c 90)) g1.l),
 c 3 λ g0 g1 g2=>.pure (bL "str.__eq__" aa aa (q.u 3) (g2.n 1+0) true),
 c 3 λ g0 g1 g2=>.full (aj (cg (aq (fB (aq bY 114)) 1) (rA (q.a 1)) (ci (bW P) 797 (q.a 0+822))) 50 i [.o 0 (q.a 0+822) (gg 7 (g2.sl (q.a 0+822)) [kS P aJ (q.u 0) (rA (q.S.a 13)),kS P ay (q.u 1) (rA (q.a 3)),kS P aF (q.u 2) (.str aa (q.u 3)),kS P az (q.u 4) (.int (q.m 1+1) (g2.n 1+2)),kS P aA (q.u 6) (rA (q.a 2)),kS P bE (g0.n 1+0) (.str (q.s 1) (q.c 90)),kS P bF (g1.n 1+0) (.int (q.m 5) (g1.n 2))]),.o 1 (q.a 1+822) (dB (q.a 3+822) (q.j 9+1)),.o 2 (q.a 2+822) (aO (q.en 1+1) ((q.ar 0).push (.str (q.s 1) (q.c 90)))),.k 3] g1.l (λ g3=>A 6 [g0,g1,g2,g3]) λ g3=>(.ok .next,[(0,mX P q (g3.sl (q.a 0+822)) g3),(1,eT (g3.n 7)),(2,aO (g3.n 8) ⟨g3.vl 0⟩)],[],g3.l))],
 λ b t=>ap 4 λ g0 g1 g2 g3=>⟨[g3.n 0+0,g3.n 1+0,g3.n 2,g3.n 3,g3.n 4,g3.n 5,g3.n 6,g3.n 7,g3.n 8,g3.n 9,g3.n 10],g3.l,[g3.v 0,g3.v 1,g3.v 2,g3.v 3,g3.v 4],g3.vl 0,g3.sl (q.a 0+822)⟩,ax 4 29 167294679733637480,[0,1,2,3],7⟩
def oV.sat(w:World)(G:Shared)(q:Pr)(A:AA):= @RD.satZ w G (oV.D w.2 q A) (by walk_at "Z") (λ b t gs sl h=>congrArg (λ s=>oV.zo (oV.D w.2 q A).i w.2 q s (((oV.D w.2 q A).e b t gs).gh sl)) (h.1 rfl).symm)
def oX.zo(i:List (Nat×Nat×Obj))(P:Params)(q:Pr)(s:Array (Option Value))(g:Gh):SB:=⟨.ok .next,bg i [(0,mX P q s g),
  (1,eT (g.n 7)),
  (2,aO (g.n 8) ⟨g.vl 0⟩)],
  [],g.l⟩
def oX.D(P:Params)(q:Pr)(A:AA):RD:=⟨[(q.j 0,q.a 0+822,gg 5 (q.sl 0) [kS P aJ (q.u 0) (rA (q.S.a 13)),kS P ay (q.u 1) (rA (q.a 3)),kS P aF (q.u 2) (.str aa (q.u 3)),kS P az (q.u 4) (.int (q.m 1) (q.u 5)),kS P aA (q.u 6) (rA (q.a 2))]),
 (q.j 1,q.a 1+822,dB (q.a 3+822) (q.j 9)),
 (q.j 2,q.a 2+822,aO (q.en 1) (q.ar 0)),
 (q.j 3,q.a 3+822,lO (q.en 2) (q.l 1))],
 λ i=>⟨cg (aq (fB (aq bY 114)) 1) (rA (q.a 1)) (ci (bW P) 797 (q.a 0+822)),50,i,q.L,λ g=>A 99 [g],
 λ g=>oX.zo i P q (g.sl (q.a 0+822)) g⟩,
 λ i b t=>[c 0 (.full (pf (q.a 1+822) (q.a 3+822) 1 3 (q.en 2) (q.l 1) (q.j 9) (.str (q.s 1) (q.c 90)) q.L)),
 c 1 λ g0=>.full (aj (au 790 [rA (q.S.a 13),.int 8 (g0.n 1+1)]) 12 i [] q.L (λ g1=>A 1 [g0,g1]) λ g1=>(.ok (.ret (.int 5 (g1.n 2))),[],[],g1.l)),
 c 2 λ g0 g1=>.full (qW (q.a 2+822) 2 (q.en 1) (q.ar 0) (.str (q.s 1) (q.c 90)) g1.l),
 c 3 λ g0 g1 g2=>.pure (bL "str.__eq__" aa aa (q.u 3) (g2.n 1+0) true),
 c 3 λ g0 g1 g2=>.full (aj (cg (aq (fB (aq bY 114)) 1) (rA (q.a 1)) (ci (bW P) 797 (q.a 0+822))) 50 i [.o 0 (q.a 0+822) (gg 7 (g2.sl (q.a 0+822)) [kS P aJ (q.u 0) (rA (q.S.a 13)),kS P ay (q.u 1) (rA (q.a 3)),kS P aF (q.u 2) (.str aa (q.u 3)),kS P az (q.u 4) (.int (q.m 1+1) (g2.n 1+2)),kS P aA (q.u 6) (rA (q.a 2)),kS P bE (g0.n 1+0) (.str (q.s 1) (q.c 90)),kS P bF (g1.n 1+0) (.int 5 (g1.n 2))]),.o 1 (q.a 1+822) (dB (q.a 3+822) (q.j 9+1)),.o 2 (q.a 2+822) (aO (q.en 1+1) ((q.ar 0).push (.str (q.s 1) (q.c 90)))),.k 3] g1.l (λ g3=>A 4 [g0,g1,g2,g3]) λ g3=>(.ok .next,[(0,mX P q (g3.sl (q.a 0+822)) g3),(1,eT (g3.n 7)),(2,aO (g3.n 8) ⟨g3.vl 0⟩)],[],g3.l))],
 λ b t=>ap 4 λ g0 g1 g2 g3=>⟨[g3.n 0+0,g3.n 1+0,g3.n 2,g3.n 3,g3.n 4,g3.n 5,g3.n 6,g3.n 7,g3.n 8,g3.n 9,g3.n 10],g3.l,[g3.v 0,g3.v 1,g3.v 2,g3.v 3,g3.v 4],g3.vl 0,g3.sl (q.a 0+822)⟩,ax 4 35 685236211832732389736,[0,1,2,3],5⟩
def oX.sat(w:World)(G:Shared)(q:Pr)(A:AA):= @RD.satZ w G (oX.D w.2 q A) (by walk_at "Z") (λ b t gs sl h=>congrArg (λ s=>oX.zo (oX.D w.2 q A).i w.2 q s (((oX.D w.2 q A).e b t gs).gh sl)) (h.1 rfl).symm)
def oY.zo(i:List (Nat×Nat×Obj))(P:Params)(q:Pr)(s:Array (Option Value))(g:Gh):SB:=⟨.ok .next,bg i [(0,mX P q s g),
  (1,eT (g.n 7)),
  (2,aO (g.n 8) ⟨g.vl 0⟩)],
  [],g.l⟩
def oY.D(P:Params)(q:Pr)(A:AA):RD:=⟨[(q.j 0,q.a 0+822,gg 5 (q.sl 0) [kS P aJ (q.u 0) (rA (q.S.a 13)),kS P ay (q.u 1) (rA (q.a 3)),kS P aF (q.u 2) (.str aa (q.u 3)),kS P az (q.u 4) (.int (q.m 1) (q.u 5)),kS P aA (q.u 6) (rA (q.a 2))]),
 (q.j 1,q.a 1+822,dB (q.a 3+822) (q.j 9)),
 (q.j 2,q.a 2+822,aO (q.en 1) (q.ar 0)),
 (q.j 3,q.a 3+822,lO (q.en 2) (q.l 1))],
 λ i=>⟨cg (aq (fB (aq bY 114)) 1) (rA (q.a 1)) (ci (bW P) 797 (q.a 0+822)),50,i,q.L,λ g=>A 99 [g],
 λ g=>oY.zo i P q (g.sl (q.a 0+822)) g⟩,
 λ i b t=>[c 0 (.full (pf (q.a 1+822) (q.a 3+822) 1 3 (q.en 2) (q.l 1) (q.j 9) (.str (q.s 1) (q.c 90)) q.L)),
 c 1 λ g0=>.full (aj (au 790 [rA (q.S.a 13),.int 8 (g0.n 1+1)]) 12 i [] q.L (λ g1=>A 1 [g0,g1]) λ g1=>(.ok (.ret (.int 6 (g1.n 2))),[],[],g1.l)),
 c 2 λ g0 g1=>.full (qW (q.a 2+822) 2 (q.en 1) (q.ar 0) (.int 5 (g1.n 1+3)) g1.l),
 c 3 λ g0 g1 g2=>.pure (bL "str.__ne__" aa aa (q.u 3) (g2.n 1+0) false),
 c 3 λ g0 g1 g2=>.full (aj (cg (aq (fB (aq bY 114)) 1) (rA (q.a 1)) (ci (bW P) 797 (q.a 0+822))) 50 i [.o 0 (q.a 0+822) (gg 8 (g2.sl (q.a 0+822)) [kS P aJ (q.u 0) (rA (q.S.a 13)),kS P ay (q.u 1) (rA (q.a 3)),kS P aF (q.u 2) (.str b9 (g2.n 1+1)),kS P az (q.u 4) (.int (q.m 1) (q.u 5)),kS P aA (q.u 6) (rA (q.a 2)),kS P bE (g0.n 1+0) (.str (q.s 1) (q.c 90)),kS P bF (g1.n 1+0) (.int 6 (g1.n 2)),kS P aM (g1.n 1+2) (.bool true)]),.o 1 (q.a 1+822) (dB (q.a 3+822) (q.j 9+1)),.o 2 (q.a 2+822) (aO (q.en 1+1) ((q.ar 0).push (.int 5 (g1.n 1+3)))),.k 3] g1.l (λ g3=>A 4 [g0,g1,g2,g3]) λ g3=>(.ok .next,[(0,mX P q (g3.sl (q.a 0+822)) g3),(1,eT (g3.n 7)),(2,aO (g3.n 8) ⟨g3.vl 0⟩)],[],g3.l))],
 λ b t=>ap 4 λ g0 g1 g2 g3=>⟨[g3.n 0+0,g3.n 1+0,g3.n 2,g3.n 3,g3.n 4,g3.n 5,g3.n 6,g3.n 7,g3.n 8,g3.n 9,g3.n 10],g3.l,[g3.v 0,g3.v 1,g3.v 2,g3.v 3,g3.v 4],g3.vl 0,g3.sl (q.a 0+822)⟩,ax 7 42 96582470694270936801844837258605430,[0,1,2,3],5⟩
def oY.sat(w:World)(G:Shared)(q:Pr)(A:AA):= @RD.satZ w G (oY.D w.2 q A) (by walk_at "Z") (λ b t gs sl h=>congrArg (λ s=>oY.zo (oY.D w.2 q A).i w.2 q s (((oY.D w.2 q A).e b t gs).gh sl)) (h.1 rfl).symm)
def oZ.zo(i:List (Nat×Nat×Obj))(P:Params)(q:Pr)(s:Array (Option Value))(g:Gh):SB:=⟨.ok .next,bg i [(0,mX P q s g),
  (1,eT (g.n 7)),
  (2,aO (g.n 8) ⟨g.vl 0⟩)],
  [(g.n 11+822,tO [.int 25 (g.n 12),.int 0 (g.n 13)])],g.l⟩
def oZ.D(P:Params)(q:Pr)(A:AA):RD:=⟨[(q.j 0,q.a 0+822,gg 5 (q.sl 0) [kS P aJ (q.u 0) (rA (q.S.a 13)),kS P ay (q.u 1) (rA (q.a 3)),kS P aF (q.u 2) (.str aa (q.u 3)),kS P az (q.u 4) (.int (q.m 1) (q.u 5)),kS P aA (q.u 6) (rA (q.a 2))]),
 (q.j 1,q.a 1+822,dB (q.a 3+822) (q.j 9)),
 (q.j 2,q.a 2+822,aO (q.en 1) (q.ar 0)),
 (q.j 3,q.a 3+822,lO (q.en 2) (q.l 1))],
 λ i=>⟨cg (aq (fB (aq bY 114)) 1) (rA (q.a 1)) (ci (bW P) 797 (q.a 0+822)),50,i,q.L,λ g=>A 99 [g],
 λ g=>oZ.zo i P q (g.sl (q.a 0+822)) g⟩,
 λ i b t=>[c 0 (.full (pf (q.a 1+822) (q.a 3+822) 1 3 (q.en 2) (q.l 1) (q.j 9) (.str (q.s 1) (q.c 90)) q.L)),
 c 1 λ g0=>.full (aj (au 790 [rA (q.S.a 13),.int 8 (g0.n 1+1)]) 12 i [] q.L (λ g1=>A 1 [g0,g1]) λ g1=>(.ok (.ret (.int 7 (g1.n 2))),[],[],g1.l)),
 c 2 λ g0 g1=>.full (qW (q.a 2+822) 2 (q.en 1) (q.ar 0) (rA (g1.n 0+0)) g1.l),
 c 3 λ g0 g1 g2=>.pure (bL "str.__ne__" aa aa (q.u 3) (g2.n 1+0) false),
 c 3 λ g0 g1 g2=>.full (aj (cg (aq (fB (aq bY 114)) 1) (rA (q.a 1)) (ci (bW P) 797 (q.a 0+822))) 50 i [.o 0 (q.a 0+822) (gg 8 (g2.sl (q.a 0+822)) [kS P aJ (q.u 0) (rA (q.S.a 13)),kS P ay (q.u 1) (rA (q.a 3)),kS P aF (q.u 2) (.str b9 (g2.n 1+1)),kS P az (q.u 4) (.int (q.m 1) (q.u 5)),kS P aA (q.u 6) (rA (q.a 2)),kS P bE (g0.n 1+0) (.str (q.s 1) (q.c 90)),kS P bF (g1.n 1+0) (.int 7 (g1.n 2)),kS P aM (g1.n 1+2) (.bool true)]),.o 1 (q.a 1+822) (dB (q.a 3+822) (q.j 9+1)),.o 2 (q.a 2+822) (aO (q.en 1+1) ((q.ar 0).push (rA (g1.n 0+0)))),.k 3] g1.l (λ g3=>A 4 [g0,g1,g2,g3]) λ g3=>(.ok .next,[(0,mX P q (g3.sl (q.a 0+822)) g3),(1,eT (g3.n 7)),(2,aO (g3.n 8) ⟨g3.vl 0⟩)],[],g3.l))],
 λ b t=>ap 4 λ g0 g1 g2 g3=>⟨[g3.n 0+0,g3.n 1+0,g3.n 2,g3.n 3,g3.n 4,g3.n 5,g3.n 6,g3.n 7,g3.n 8,g3.n 9,g3.n 10,g1.n 0+0,g1.n 1+4,g1.n 1+5],g3.l,[g3.v 0,g3.v 1,g3.v 2,g3.v 3,g3.v 4],g3.vl 0,g3.sl (q.a 0+822)⟩,ax 7 42 96582470694270936801844837258605430,[0,1,2,3,4],5⟩
def oZ.sat(w:World)(G:Shared)(q:Pr)(A:AA):= @RD.satZ w G (oZ.D w.2 q A) (by walk_at "Z") (λ b t gs sl h=>congrArg (λ s=>oZ.zo (oZ.D w.2 q A).i w.2 q s (((oZ.D w.2 q A).e b t gs).gh sl)) (h.1 rfl).symm)
def gK.zo(i:List (Nat×Nat×Obj))(P:Params)(q:Pr)(x:T2)(s:Array (Option Value))(g:Gh):SB:=⟨.ok .next,bg i [(0,yE P q s g),
  (1,oq (iO (g.v 10)) 0)],
  [],g.l⟩
def gK.D(P:Params)(q:Pr)(x:T2)(A:AA):RD:=⟨[(q.j 0,q.a 0+822,gg (x.p 4 (q.en 4)) (q.sl 0) (x.p [kS P cZ (q.u 0) (rA (q.a 4)),kS P bK (q.u 1) (rA (q.S.a 0)),kS P aJ (q.u 2) (rA (q.S.a 13)),kS P bN (q.u 3) (rA (q.S.a 9))] [kS P cZ (q.u 0) (rA (q.a 4)),kS P bK (q.u 1) (rA (q.S.a 0)),kS P aJ (q.u 2) (rA (q.S.a 13)),kS P bN (q.u 3) (rA (q.S.a 9)),kS P ju (q.u 4) (.int (q.m 1) (q.u 5)),kS P cB (q.u 6) (rA (q.a 7)),kS P ay (q.u 7) (rA (q.a 8)),kS P aA (q.u 8) (rA (q.a 9)),kS P az (q.u 9) (.int (q.m 2) (q.u 10)),kS P mg (q.u 11) (.str (q.s 1) (q.u 12)),kS P gR (q.u 13) (rA (q.a 10)),kS P aF (q.u 14) (.str (q.s 2) (q.u 15)),kS P mh (q.u 16) (rA (q.a 11)),kS P eu (q.u 17) (q.v 9)])),
 (q.j 1,q.a 1+822,oq (q.m 7) (q.m 8)),
 (q.j 2,q.S.a 0+822,oW q.S.a),
 (q.j 3,q.S.a 1+822,bm P q.S.a q.S.u)],
 λ i=>⟨cg (aq (fB (aq bY 118)) 5) (rA (q.a 1)) (ci (bh P) 821 (q.a 0+822)),70,i,q.L,λ g=>A 99 [g],
 λ g=>gK.zo i P q x (g.sl (q.a 0+822)) g⟩,
 λ i b t=>[c 0 (.full (CW (q.a 1+822) 1 (q.m 7) (q.m 8) q.L)),
 c 1 λ g0=>.full (aj (au 802 [rA (q.S.a 13),.int (q.m 7) (g0.n 2)]) 60 i [] q.L (λ g1=>A 1 [g0,g1]) λ g1=>(.ok (.ret (rA (g1.n 4))),[],[(g1.n 4+822,tO [rA (g1.n 2),rA (g1.n 3)]),(g1.n 3+822,lO (g1.n 5) (g1.vl 0))],g1.l)),
 c 2 λ g0 g1=>.full (aj (au 797 [rA (q.S.a 13),rA (g1.n 3)]) 60 i [.o 5 (g1.n 3+822) (lO (g1.n 5) (g1.vl 0))] g1.l (λ g2=>A 2 [g0,g1,g2]) λ g2=>(.ok (.ret (rA (g2.n 3))),[],[(g2.n 3+822,tO [rA (g2.n 2),.int (iO (g2.v 0)) (g2.n 5),.str aa (g2.n 6)]),(g2.n 2+822,lO (g2.n 4) (g2.vl 0))],g2.l)),
 c 3 λ g0 g1 g2=>.full (xB (g1.n 3+822) 5 (g1.n 5) (g1.vl 0) g2.l),
 c 4 λ g0 g1 g2 g3=>.full (zx ((g2.n 0+3)+822) ((g3.n 0+0)+822) 14 15 (g3.n 2) (Int.ofNat (g1.vl 0).length) 0 [.str bq (g2.n 1+3),.str bH (g2.n 1+4),.str ca (g2.n 1+5),.str cG (g2.n 1+6)] g2.l),
 c 5 λ g0 g1 g2 g3 g4=>.full (aj (fC true mi (rA (g4.n 0+4)) (rA (g4.n 0+5)) (fD mi (bh P) ((g4.n 0+6)+822) (q.a 0+822))) 60 i [.o 23 ((g4.n 0+6)+822) (dO 0 []),.o 21 ((g4.n 0+4)+822) (oj (g4.n 0+2) (g4.n 0+3)),.o 17 ((g4.n 0+0)+822) ⟨.type "list_iterator",none,.fields ⟨[rA (g4.n 2),.int 0 0]⟩,⟨[]⟩⟩,.o 18 ((g4.n 0+1)+822) ⟨.type "list_iterator",none,.fields ⟨[rA (g2.n 2),.int 0 0]⟩,⟨[]⟩⟩,.o 16 (g4.n 2+822) (lO 0 (bJ (Int.ofNat (g1.vl 0).length) [.str bq (g2.n 1+3),.str bH (g2.n 1+4),.str ca (g2.n 1+5),.str cG (g2.n 1+6)])),.o 10 (g2.n 2+822) (lO (g2.n 4) (g2.vl 0)),.o 22 ((g4.n 0+5)+822) (lO 0 []),.o 19 ((g4.n 0+2)+822) (tO [rA (g4.n 0+0),rA (g4.n 0+1)]),.o 20 ((g4.n 0+3)+822) (tO [.none,.none])] g2.l (λ g5=>A 5 [g0,g1,g2,g3,g4,g5]) λ g5=>(.ok .next,[(0,dO 2 [kS P aV (g5.n 4) (g5.v 0),kS P de (g5.n 5) (g5.v 1)]),(2,eT (g5.n 2)),(3,dB (g2.n 2+822) (g5.n 2)),(6,aO (g5.n 3) ⟨g5.vl 0⟩),(8,tO [g5.v 0,g5.v 1])],[],g5.l)),
 c 6 λ g0 g1 g2 g3 g4 g5=>.full (aj (.call (.type "dict") ⟨[rA (g4.n 0+5)],[]⟩) 60 i [.o 22 ((g4.n 0+5)+822) (aO (g5.n 3) ⟨g5.vl 0⟩)] g5.l (λ g6=>A 6 [g0,g1,g2,g3,g4,g5,g6]) λ g6=>(.ok (.ret (rA (g6.n 2))),[],[],g6.l)),
 c 7 λ g0 g1 g2 g3 g4 g5 g6=>.full (aj (au 326 [rA (g6.n 0+1),rA (g1.n 2)]) 60 i [.o 25 ((g6.n 0+1)+822) (gf ((g6.n 0+0)+822)),.o 24 ((g6.n 0+0)+822) (dO 7 [kS P bK (g6.n 1+5) (rA (q.S.a 0)),kS P pT (g6.n 1+7) .none,kS P jq (g6.n 1+9) (rA (g6.n 2)),kS P mU (g6.n 1+12) (.int 16 (q.S.u 1)),kS P iT (g6.n 1+15) (.int 9 (q.S.u 3)),kS P jr (g6.n 1+27) (rA (g6.n 0+4)),kS P eu (g6.n 1+29) (rA (g6.n 0+7))]),.o 31 ((g6.n 0+7)+822) (lO 0 []),.k 2,.k 3] g6.l (λ g7=>A 7 [g0,g1,g2,g3,g4,g5,g6,g7]) λ g7=>(.ok (.ret .none),[(2,aO (g7.n 2) ⟨g7.vl 0⟩)],[],g7.l)),
 c 8 λ g0 g1 g2 g3 g4 g5 g6 g7=>.full (aj (au 809 [rA (q.S.a 9),rA (g1.n 2),rA (g1.n 3),.int (iO (g2.v 0)) (g2.n 5)]) 60 i [.o 5 (g1.n 3+822) (lO (g1.n 5) (g1.vl 0))] g7.l (λ g8=>A 8 [g0,g1,g2,g3,g4,g5,g6,g7,g8]) λ g8=>(.ok (.ret .none),[],[],g8.l)),
 c 9 λ g0 g1 g2 g3 g4 g5 g6 g7 g8=>.full (aj (fC true ml (rA (g8.n 0+0)) (rA (g8.n 0+1)) (fD ml (bh P) ((g8.n 0+2)+822) (q.a 0+822))) 60 i [.o 38 ((g8.n 0+2)+822) (dO 0 []),.o 36 ((g8.n 0+0)+822) ⟨.type "list_iterator",none,.fields ⟨[rA (g4.n 2),.int 0 0]⟩,⟨[]⟩⟩,.o 16 (g4.n 2+822) (lO 0 (bJ (Int.ofNat (g1.vl 0).length) [.str bq (g2.n 1+3),.str bH (g2.n 1+4),.str ca (g2.n 1+5),.str cG (g2.n 1+6)])),.o 37 ((g8.n 0+1)+822) (lO 0 [])] g8.l (λ g9=>A 9 [g0,g1,g2,g3,g4,g5,g6,g7,g8,g9]) λ g9=>(.ok .next,[(0,dO 1 [kS P aV (g9.n 4) (g9.v 0)]),(1,eT (g9.n 2)),(3,aO (g9.n 3) ⟨g9.vl 0⟩)],[],g9.l)),
 c 10 λ g0 g1 g2 g3 g4 g5 g6 g7 g8 g9=>.full (aj (.call (.builtin "list.__ne__") ⟨[rA (g6.n 0+7),rA (g8.n 0+1)],[]⟩) 60 i [.o 31 ((g6.n 0+7)+822) (aO (g7.n 2) ⟨g7.vl 0⟩),.o 37 ((g8.n 0+1)+822) (aO (g9.n 3) ⟨g9.vl 0⟩)] g9.l (λ g10=>A 10 [g0,g1,g2,g3,g4,g5,g6,g7,g8,g9,g10]) λ g10=>(.ok (.ret (.bool false)),[],[],g9.l)),
 c 11 λ g0 g1 g2 g3 g4 g5 g6 g7 g8 g9 g10=>.full (aj (au 816 [rA (q.S.a 0),rA (q.S.a 9)]) 60 i [.k 2,.k 3] g9.l (λ g11=>A 11 [g0,g1,g2,g3,g4,g5,g6,g7,g8,g9,g10,g11]) λ g11=>(.ok (.ret (.bool true)),[],[],g9.l)),
 c 12 λ g0 g1 g2 g3 g4 g5 g6 g7 g8 g9 g10 g11=>.full (aj (cg (aq (fB (aq bY 118)) 5) (rA (q.a 1)) (ci (bh P) 821 (q.a 0+822))) 70 i [.o 0 (q.a 0+822) (gg (x.p 14 (q.en 4)) (g11.sl (q.a 0+822)) [kS P cZ (q.u 0) (rA (q.a 4)),kS P bK (q.u 1) (rA (q.S.a 0)),kS P aJ (q.u 2) (rA (q.S.a 13)),kS P bN (q.u 3) (rA (q.S.a 9)),kS P ju (x.p (g0.n 1+0) (q.u 4)) (.int (q.m 7) (g0.n 2)),kS P cB (x.p (g1.n 1+0) (q.u 6)) (rA (g1.n 2)),kS P ay (x.p (g1.n 1+1) (q.u 7)) (rA (g1.n 3)),kS P aA (x.p (g2.n 1+0) (q.u 8)) (rA (g2.n 2)),kS P az (x.p (g2.n 1+1) (q.u 9)) (.int (iO (g2.v 0)) (g2.n 5)),kS P mg (x.p (g2.n 1+2) (q.u 11)) (.str aa (g2.n 6)),kS P gR (x.p (g4.n 1+0) (q.u 13)) (rA (g4.n 2)),kS P aF (x.p (g6.n 1+31) (q.u 14)) (.str aa (g6.n 1+30)),kS P mh (x.p (g6.n 1+32) (q.u 16)) (rA (g6.n 0+1)),kS P eu (x.p (g8.n 1+1) (q.u 17)) (rA (g4.n 2))]),.o 1 (q.a 1+822) (oq (q.m 7+1) ((q.m 8)-1)),.k 2,.k 3] g9.l (λ g12=>A 12 [g0,g1,g2,g3,g4,g5,g6,g7,g8,g9,g10,g11,g12]) λ g12=>(.ok .next,[(0,yE P q (g12.sl (q.a 0+822)) g12),(1,oq (iO (g12.v 10)) 0)],[],g12.l))],
 λ b t=>ap 13 λ g0 g1 g2 g3 g4 g5 g6 g7 g8 g9 g10 g11 g12=>⟨[g12.n 0+0,g12.n 1+0,g12.n 2,g12.n 3,g12.n 4,g12.n 5,g12.n 6,g12.n 7,g12.n 8,g12.n 9,g12.n 10,g12.n 11,g12.n 12],g12.l,[g12.v 0,g12.v 1,g12.v 2,g12.v 3,g12.v 4,g12.v 5,g12.v 6,g12.v 7,g12.v 8,g12.v 9,g12.v 10],[],g12.sl (q.a 0+822)⟩,ax 40 547 108770849198737758834405411863670603979745932736258947151132509841943551516993844901796513825480415986730951692344675581734237813280133517314613201500939573628326850808001308933952073726147209010538505524886253647430078038008534069032404692784395484591945283677917790443209500819287415474602955990844920126900723203568378805477830794325055064211775690559724125198481583678374668778384228117014026429996128834246449111184979960129966080830721636040374772557910601999344985723043039935640612918452183869994102501734650290910524994575048415559458734906383427903515051154749098192538514926082576362763101883567723058166266677756236842910260102144358143648389788028003902664335906924429120520015353283988221405167201948943791287635842334137325209047762856973467229870759988069359379995446333899901640994902001743332745599637393269415045125182318586863290759004639252185255938627280,[0,1,2,3],13⟩
def gK.sat(w:World)(G:Shared)(q:Pr)(x:T2)(A:AA):= @RD.satZ w G (gK.D w.2 q x A) (by cases x<;>walk_at "Z") (λ b t gs sl h=>congrArg (λ s=>gK.zo (gK.D w.2 q x A).i w.2 q x s (((gK.D w.2 q x A).e b t gs).gh sl)) (h.1 rfl).symm)
def o8.zo(i:List (Nat×Nat×Obj))(P:Params)(q:Pr)(x:T2)(s:Array (Option Value))(g:Gh):SB:=⟨.ok .next,bg i [(0,yE P q s g),
  (1,oq (iO (g.v 10)) 0)],
  [],g.l⟩
def o8.D(P:Params)(q:Pr)(x:T2)(A:AA):RD:=⟨[(q.j 0,q.a 0+822,gg (x.p 4 (q.en 4)) (q.sl 0) (x.p [kS P cZ (q.u 0) (rA (q.a 4)),kS P bK (q.u 1) (rA (q.S.a 0)),kS P aJ (q.u 2) (rA (q.S.a 13)),kS P bN (q.u 3) (rA (q.S.a 9))] [kS P cZ (q.u 0) (rA (q.a 4)),kS P bK (q.u 1) (rA (q.S.a 0)),kS P aJ (q.u 2) (rA (q.S.a 13)),kS P bN (q.u 3) (rA (q.S.a 9)),kS P ju (q.u 4) (.int (q.m 1) (q.u 5)),kS P cB (q.u 6) (rA (q.a 7)),kS P ay (q.u 7) (rA (q.a 8)),kS P aA (q.u 8) (rA (q.a 9)),kS P az (q.u 9) (.int (q.m 2) (q.u 10)),kS P mg (q.u 11) (.str (q.s 1) (q.u 12)),kS P gR (q.u 13) (rA (q.a 10)),kS P aF (q.u 14) (.str (q.s 2) (q.u 15)),kS P mh (q.u 16) (rA (q.a 11)),kS P eu (q.u 17) (q.v 9)])),
 (q.j 1,q.a 1+822,oq (q.m 7) (q.m 8)),
 (q.j 2,q.S.a 0+822,oW q.S.a),
 (q.j 3,q.S.a 1+822,bm P q.S.a q.S.u)],
 λ i=>⟨cg (aq (fB (aq bY 118)) 5) (rA (q.a 1)) (ci (bh P) 821 (q.a 0+822)),70,i,q.L,λ g=>A 99 [g],
 λ g=>o8.zo i P q x (g.sl (q.a 0+822)) g⟩,
 λ i b t=>[c 0 (.full (CW (q.a 1+822) 1 (q.m 7) (q.m 8) q.L)),
 c 1 λ g0=>.full (aj (au 802 [rA (q.S.a 13),.int (q.m 7) (g0.n 2)]) 60 i [] q.L (λ g1=>A 1 [g0,g1]) λ g1=>(.ok (.ret (rA (g1.n 4))),[],[(g1.n 4+822,tO [rA (g1.n 2),rA (g1.n 3)]),(g1.n 3+822,lO (g1.n 5) (g1.vl 0))],g1.l)),
 c 2 λ g0 g1=>.full (aj (au 797 [rA (q.S.a 13),rA (g1.n 3)]) 60 i [.o 5 (g1.n 3+822) (lO (g1.n 5) (g1.vl 0))] g1.l (λ g2=>A 2 [g0,g1,g2]) λ g2=>(.ok (.ret (rA (g2.n 3))),[],[(g2.n 3+822,tO [rA (g2.n 2),.int (iO (g2.v 0)) (g2.n 5),.str (sO (g2.v 1)) (g2.n 6)]),(g2.n 2+822,lO (g2.n 4) (g2.vl 0))],g2.l)),
 c 3 λ g0 g1 g2=>.full (xB (g1.n 3+822) 5 (g1.n 5) (g1.vl 0) g2.l),
 c 4 λ g0 g1 g2 g3=>.full (zx ((g2.n 0+3)+822) ((g3.n 0+0)+822) 14 15 (g3.n 2) (Int.ofNat (g1.vl 0).length) 0 [.str bq (g2.n 1+3),.str bH (g2.n 1+4),.str ca (g2.n 1+5),.str cG (g2.n 1+6)] g2.l),
 c 5 λ g0 g1 g2 g3 g4=>.full (aj (fC true mi (rA (g4.n 0+4)) (rA (g4.n 0+5)) (fD mi (bh P) ((g4.n 0+6)+822) (q.a 0+822))) 60 i [.o 23 ((g4.n 0+6)+822) (dO 0 []),.o 21 ((g4.n 0+4)+822) (oj (g4.n 0+2) (g4.n 0+3)),.o 17 ((g4.n 0+0)+822) ⟨.type "list_iterator",none,.fields ⟨[rA (g4.n 2),.int 0 0]⟩,⟨[]⟩⟩,.o 18 ((g4.n 0+1)+822) ⟨.type "list_iterator",none,.fields ⟨[rA (g2.n 2),.int 0 0]⟩,⟨[]⟩⟩,.o 16 (g4.n 2+822) (lO 0 (bJ (Int.ofNat (g1.vl 0).length) [.str bq (g2.n 1+3),.str bH (g2.n 1+4),.str ca (g2.n 1+5),.str cG (g2.n 1+6)])),.o 10 (g2.n 2+822) (lO (g2.n 4) (g2.vl 0)),.o 22 ((g4.n 0+5)+822) (lO 0 []),.o 19 ((g4.n 0+2)+822) (tO [rA (g4.n 0+0),rA (g4.n 0+1)]),.o 20 ((g4.n 0+3)+822) (tO [.none,.none])] g2.l (λ g5=>A 5 [g0,g1,g2,g3,g4,g5]) λ g5=>(.ok .next,[(0,dO 2 [kS P aV (g5.n 4) (g5.v 0),kS P de (g5.n 5) (g5.v 1)]),(2,eT (g5.n 2)),(3,dB (g2.n 2+822) (g5.n 2)),(6,aO (g5.n 3) ⟨g5.vl 0⟩),(8,tO [g5.v 0,g5.v 1])],[],g5.l)),
 c 6 λ g0 g1 g2 g3 g4 g5=>.full (aj (.call (.type "dict") ⟨[rA (g4.n 0+5)],[]⟩) 60 i [.o 22 ((g4.n 0+5)+822) (aO (g5.n 3) ⟨g5.vl 0⟩)] g5.l (λ g6=>A 6 [g0,g1,g2,g3,g4,g5,g6]) λ g6=>(.ok (.ret (rA (g6.n 2))),[],[],g6.l)),
 c 7 λ g0 g1 g2 g3 g4 g5 g6=>.full (aj (au 326 [rA (g6.n 0+1),rA (g1.n 2)]) 60 i [.o 25 ((g6.n 0+1)+822) (gf ((g6.n 0+0)+822)),.o 24 ((g6.n 0+0)+822) (dO 7 [kS P bK (g6.n 1+5) (rA (q.S.a 0)),kS P pT (g6.n 1+7) .none,kS P jq (g6.n 1+9) (rA (g6.n 2)),kS P mU (g6.n 1+12) (.int 16 (q.S.u 1)),kS P iT (g6.n 1+15) (.int 9 (q.S.u 3)),kS P jr (g6.n 1+27) (rA (g6.n 0+4)),kS P eu (g6.n 1+29) (rA (g6.n 0+7))]),.o 31 ((g6.n 0+7)+822) (lO 0 []),.k 2,.k 3] g6.l (λ g7=>A 7 [g0,g1,g2,g3,g4,g5,g6,g7]) λ g7=>(.error (rA (g7.n 7)),[(2,aO (g7.n 2) ⟨g7.vl 0⟩)],dN P (sO (g2.v 1)) g7,g7.l)),
 none,
 c 9 λ g0 g1 g2 g3 g4 g5 g6 g7 g8=>.full (aj (au 809 [rA (q.S.a 9),rA (g1.n 2),rA (g1.n 3),.int (iO (g2.v 0)) (g2.n 5)]) 60 i [.o 5 (g1.n 3+822) (lO (g1.n 5) (g1.vl 0))] g7.l (λ g9=>A 9 [g0,g1,g2,g3,g4,g5,g6,g7,g8,g9]) λ g9=>(.ok (.ret .none),[],[],g9.l)),
 c 10 λ g0 g1 g2 g3 g4 g5 g6 g7 g8 g9=>.pure (bL "str.__eq__" (sO (g2.v 1)) aa (g2.n 6) (g9.n 1+0) false),
 c 10 λ g0 g1 g2 g3 g4 g5 g6 g7 g8 g9=>.full (zx (g4.n 2+822) ((g9.n 0+0)+822) 16 40 (g9.n 1+2) (iO (g2.v 0)+1) 0 (bJ (Int.ofNat (g1.vl 0).length) [.str bq (g2.n 1+3),.str bH (g2.n 1+4),.str ca (g2.n 1+5),.str cG (g2.n 1+6)]) g9.l),
 c 11 λ g0 g1 g2 g3 g4 g5 g6 g7 g8 g9 g10=>.pure (bL "str.__ne__" (sO (g2.v 1)) (sO (g2.v 1)) (g7.n 9) (g2.n 6) false),
 c 11 λ g0 g1 g2 g3 g4 g5 g6 g7 g8 g9 g10=>.full (aj (fC true ml (rA (g10.n 0+0)) (rA (g10.n 0+1)) (fD ml (bh P) ((g10.n 0+2)+822) (q.a 0+822))) 60 i [.o 44 ((g10.n 0+2)+822) (dO 0 []),.o 42 ((g10.n 0+0)+822) ⟨.type "list_iterator",none,.fields ⟨[rA (g10.n 2),.int 0 0]⟩,⟨[]⟩⟩,.o 41 (g10.n 2+822) (lO 0 (bJ (iO (g2.v 0)+1) (bJ (Int.ofNat (g1.vl 0).length) [.str bq (g2.n 1+3),.str bH (g2.n 1+4),.str ca (g2.n 1+5),.str cG (g2.n 1+6)]))),.o 43 ((g10.n 0+1)+822) (lO 0 [])] g9.l (λ g11=>A 13 [g0,g1,g2,g3,g4,g5,g6,g7,g8,g9,g10,g11]) λ g11=>(.ok .next,[(0,dO 1 [kS P aV (g11.n 4) (g11.v 0)]),(1,eT (g11.n 2)),(3,aO (g11.n 3) ⟨g11.vl 0⟩)],[],g11.l)),
 c 12 λ g0 g1 g2 g3 g4 g5 g6 g7 g8 g9 g10 g11=>.full (aj (.call (.builtin "list.__ne__") ⟨[rA (g6.n 0+7),rA (g10.n 0+1)],[]⟩) 60 i [.o 31 ((g6.n 0+7)+822) (aO (g7.n 2) ⟨g7.vl 0⟩),.o 43 ((g10.n 0+1)+822) (aO (g11.n 3) ⟨g11.vl 0⟩)] g11.l (λ g12=>A 14 [g0,g1,g2,g3,g4,g5,g6,g7,g8,g9,g10,g11,g12]) λ g12=>(.ok (.ret (.bool false)),[],[],g11.l)),
 c 13 λ g0 g1 g2 g3 g4 g5 g6 g7 g8 g9 g10 g11 g12=>.full (aj (au 816 [rA (q.S.a 0),rA (q.S.a 9)]) 60 i [.k 2,.k 3] g11.l (λ g13=>A 15 [g0,g1,g2,g3,g4,g5,g6,g7,g8,g9,g10,g11,g12,g13]) λ g13=>(.ok (.ret (.bool true)),[],[],g11.l)),
 c 14 λ g0 g1 g2 g3 g4 g5 g6 g7 g8 g9 g10 g11 g12 g13=>.full (aj (cg (aq (fB (aq bY 118)) 5) (rA (q.a 1)) (ci (bh P) 821 (q.a 0+822))) 70 i [.o 0 (q.a 0+822) (gg (x.p 16 (q.en 4+2)) (g13.sl (q.a 0+822)) [kS P cZ (q.u 0) (rA (q.a 4)),kS P bK (q.u 1) (rA (q.S.a 0)),kS P aJ (q.u 2) (rA (q.S.a 13)),kS P bN (q.u 3) (rA (q.S.a 9)),kS P ju (x.p (g0.n 1+0) (q.u 4)) (.int (q.m 7) (g0.n 2)),kS P cB (x.p (g1.n 1+0) (q.u 6)) (rA (g1.n 2)),kS P ay (x.p (g1.n 1+1) (q.u 7)) (rA (g1.n 3)),kS P aA (x.p (g2.n 1+0) (q.u 8)) (rA (g2.n 2)),kS P az (x.p (g2.n 1+1) (q.u 9)) (.int (iO (g2.v 0)) (g2.n 5)),kS P mg (x.p (g2.n 1+2) (q.u 11)) (.str (sO (g2.v 1)) (g2.n 6)),kS P gR (x.p (g4.n 1+0) (q.u 13)) (rA (g4.n 2)),kS P aF (x.p (g6.n 1+31) (q.u 14)) (.str (sO (g2.v 1)) (g7.n 9)),kS P mh (x.p (g6.n 1+32) (q.u 16)) (rA (g6.n 0+1)),kS P eu (x.p (g10.n 1+0) (q.u 17)) (rA (g10.n 2))]),.o 1 (q.a 1+822) (oq (q.m 7+1) ((q.m 8)-1)),.k 2,.k 3] g11.l (λ g14=>A 16 [g0,g1,g2,g3,g4,g5,g6,g7,g8,g9,g10,g11,g12,g13,g14]) λ g14=>(.ok .next,[(0,yE P q (g14.sl (q.a 0+822)) g14),(1,oq (iO (g14.v 10)) 0)],[],g14.l))],
 λ b t=>ap 15 λ g0 g1 g2 g3 g4 g5 g6 g7 g8 g9 g10 g11 g12 g13 g14=>⟨[g14.n 0+0,g14.n 1+0,g14.n 2,g14.n 3,g14.n 4,g14.n 5,g14.n 6,g14.n 7,g14.n 8,g14.n 9,g14.n 10,g14.n 11,g14.n 12],g14.l,[g14.v 0,g14.v 1,g14.v 2,g14.v 3,g14.v 4,g14.v 5,g14.v 6,g14.v 7,g14.v 8,g14.v 9,g14.v 10],[],g14.sl (q.a 0+822)⟩,ax 4038 595 2311683702202362893473922003933599933708984981331014451007091104369019908759885515213235514471173876771820608081130039251386279980593959008510335956544111240878355999702668538312304190141219972175334793181923034426654609362044998604719008847978704154163617176034040996688270585357744492637519872556387782657250660877708769912786598937870267056617654183850460385348818000612110953762853178844782791910805860703271262867536227630539298538477403730549330350178514632995338811707707335656873664988839515548151666050401471379025515179541897258501132452778729059091208499941030247380787378647031813844743617460952879261286662245625136739948524941936137749327609023793106970223462541191640281735343559094018481477739377517292369722166638378123121266066060087739896227972119929815576739077762129558929210873380200895029467236851226185092701533365921019587941141186461981402348385020533085872717726190227854337947646076767478353686766641280751162228647627734549886219614545630889191062602824771686652370340133402831666525096617152815654630390171776874432856255696049455335295573509695640875345939279879851427105356469170462018159547983214344958375521653582045748072440150597353645428424628337910248761564628961029626101895810066122327295576644685431844892094405443961890348351785188065267393831523138292180847867052339689375035771635272562893066484265433138177935959666344565410919852635162799702136997847294920820239327411731241559636372579258819710137770964166404139994062705673628061196411040268140007765896232116026456966546178406882231077951669469064643149569231030662174593680213939702558103027801930708203254251649288871588008301461501228661729173042764787811134092968022492374557447442755647030797569266315107122108142582344420766442896291951523803327696527055182618482958361880650513751194912852976606235666096958418955179746894544909782397383181261344876202142323353364942635986727739005713279833265635918958402664166478337521607592453933402688964406706840530511658034125468062116485351286274848596911979692425702179374259826041565139593323623809095928052020469746499303474767807215148745914147932428383964020751780013202233802124408141328508,[0,1,2,3],17⟩
def o8.sat(w:World)(G:Shared)(q:Pr)(x:T2)(A:AA):= @RD.satZ w G (o8.D w.2 q x A) (by cases x<;>walk_at "Z") (λ b t gs sl h=>congrArg (λ s=>o8.zo (o8.D w.2 q x A).i w.2 q x s (((o8.D w.2 q x A).e b t gs).gh sl)) (h.1 rfl).symm)
def sG.D(P:Params)(q:Pr)(x:T5)(A:AA):RD:=⟨[(q.j 0,q.a 0+822,lO 0 (q.l 1))],
 λ i=>⟨au 821 [rA (q.a 0)],71,i,q.L,λ _=>True,
 λ g=>⟨.ok (.ret (.bool true)),bg i [],
  [],q.L⟩⟩,
 λ i b t=>[c 0 (.full (zx (q.a 0+822) ((b+2)+822) 0 3 (t+2) 60 0 (q.l 1) q.L)),
 none,
 c 2 λ g0 g1=>.full (aj (au 790 [rA (b+1),.int 5 (g0.n 1+175)]) 12 i [.o 2 ((b+1)+822) (dO 2 [kS P iQ (t+1) (rA (g0.n 2)),kS P iR (g0.n 1+0) (.int 0 (g0.n 1+1))]),.o 4 (g0.n 2+822) (oL (bJ 60 (q.l 1)))] q.L (λ g2=>A 2 [g0,g1,g2]) λ g2=>(.ok (.ret (.int (x.p 0 1 2 3 4) (g2.n 2))),[(0,dO 2 [kS P iQ (t+1) (rA (g0.n 2)),kS P iR (g0.n 1+0) (.int 1 (g2.n 3))])],[],q.L)),
 c 3 λ g0 g1 g2=>.full (aj (cg (aq (fB (aq bY 118)) 5) (rA (g2.n 0+1)) (ci (bh P) 821 ((b+0)+822))) 70 i [.o 1 ((b+0)+822) (gg 4 (g2.sl ((b+0)+822)) [kS P cZ (t+0) (rA (q.a 0)),kS P bK (g0.n 1+75) (rA (g0.n 0+1)),kS P aJ (g0.n 1+76) (rA (b+1)),kS P bN (g0.n 1+173) (rA (g0.n 0+32))]),.o 43 ((g2.n 0+1)+822) ⟨.type "range_iterator",none,.fields ⟨[.int 0 0,.int (x.p 1 2 3 4 5) 0,.int 1 0]⟩,⟨[]⟩⟩,.o 6 ((g0.n 0+1)+822) ⟨.ref 289,some ((g0.n 0+0)+822),.plain,⟨[]⟩⟩,.o 5 ((g0.n 0+0)+822) (dO 28 [kS P mU (g0.n 1+11) (.int 16 563),kS P iT (g0.n 1+13) (.int 9 564),kS P ⟨⟨[109,111,115,116,95,115,116,101,112,115]⟩⟩ (g0.n 1+15) (.int 2000 565),kS P ⟨⟨[109,111,115,116,95,100,101,112,116,104]⟩⟩ (g0.n 1+17) (.int 20 566),kS P ⟨⟨[114,111,111,109]⟩⟩ (g0.n 1+19) (.int 2000 567),kS P ⟨⟨[110,97,109,101,115]⟩⟩ (g0.n 1+21) (rA (g0.n 0+3)),kS P ⟨⟨[97,114,114,97,121,115]⟩⟩ (g0.n 1+23) (rA (g0.n 0+4)),kS P ⟨⟨[107,105,110,100,115]⟩⟩ (g0.n 1+25) (rA (g0.n 0+5)),kS P ⟨⟨[102,110,115]⟩⟩ (g0.n 1+27) (rA (g0.n 0+6)),kS P ⟨⟨[111,117,116]⟩⟩ (g0.n 1+29) (rA (g0.n 0+7)),kS P ⟨⟨[114,111,119]⟩⟩ (g0.n 1+32) (.str aa (g0.n 1+30)),kS P ⟨⟨[105,110,112,117,116,115]⟩⟩ (g0.n 1+34) (rA (g0.n 0+8)),kS P ⟨⟨[102,105,108,101,115]⟩⟩ (g0.n 1+36) (rA (g0.n 0+9)),kS P vy (g0.n 1+38) (rA (g0.n 0+10)),kS P ⟨⟨[102,105,101,108,100,115]⟩⟩ (g0.n 1+40) (rA (g0.n 0+11)),kS P ⟨⟨[100,97,116,97]⟩⟩ (g0.n 1+42) (rA (g0.n 0+12)),kS P ⟨⟨[115,112,111,116]⟩⟩ (g0.n 1+45) (.int 0 (g0.n 1+43)),kS P ⟨⟨[98,97,115,101]⟩⟩ (g0.n 1+48) (.int 0 (g0.n 1+46)),kS P ⟨⟨[115,101,101,100]⟩⟩ (g0.n 1+51) (.int 1 (g0.n 1+49)),kS P ⟨⟨[115,116,101,112,115]⟩⟩ (g0.n 1+54) (.int 0 (g0.n 1+52)),kS P ⟨⟨[100,101,112,116,104]⟩⟩ (g0.n 1+57) (.int 0 (g0.n 1+55)),kS P ⟨⟨[104,97,110,100,108,101,114]⟩⟩ (g0.n 1+60) (.int 0 (g0.n 1+58)),kS P ⟨⟨[105,115,95,104,97,110,100,108,105,110,103]⟩⟩ (g0.n 1+62) (.bool false),kS P ⟨⟨[101,114,114,111,114,95,108,105,110,101]⟩⟩ (g0.n 1+65) (.int 0 (g0.n 1+63)),kS P ⟨⟨[101,114,114,111,114,95,99,111,100,101]⟩⟩ (g0.n 1+68) (.str aa (g0.n 1+66)),kS P ⟨⟨[105,115,95,116,114,97,99,101,100]⟩⟩ (g0.n 1+70) (.bool false),kS P ⟨⟨[116,114,97,99,101,115]⟩⟩ (g0.n 1+72) (rA (g0.n 0+13)),kS P ⟨⟨[99,111,109,109,111,110]⟩⟩ (g0.n 1+74) (rA (g0.n 0+14))]),.o 8 ((g0.n 0+3)+822) (dO 0 []),.o 10 ((g0.n 0+5)+822) (dO 0 []),.o 11 ((g0.n 0+6)+822) (dO 0 []),.o 14 ((g0.n 0+9)+822) (dO 1 [kS P bA (g0.n 1+79) (.str ⟨⟨[97,98,99,100,101,102,103,104,105,106,107,108]⟩⟩ (g0.n 1+77))]),.o 15 ((g0.n 0+10)+822) (dO 1 [⟨hashInt 9,.int 9 (g0.n 1+82),rA (g0.n 0+31)⟩]),.o 16 ((g0.n 0+11)+822) (dO 0 []),.o 36 ((g0.n 0+31)+822) (dO 6 [kS P jn (g0.n 1+128) (.str ff (g0.n 1+81)),kS P jo (g0.n 1+129) (.str bA (g0.n 1+83)),kS P rX (g0.n 1+130) (.int 0 (g0.n 1+126)),kS P jp (g0.n 1+131) (.int 6 (g0.n 1+84)),kS P eM (g0.n 1+132) (.str ⟨⟨[109,110,111,112,113,114]⟩⟩ (g0.n 1+151)),kS P fA (g0.n 1+134) (.int 0 (g0.n 1+135))]),.o 37 ((g0.n 0+32)+822) (dO 4 [kS P vy (g0.n 1+157) (rA (g0.n 0+33)),kS P xv (g0.n 1+163) (rA (g0.n 0+35)),kS P eM (g0.n 1+164) (.str ⟨⟨[109,110,111,112,113,114]⟩⟩ (g0.n 1+165)),kS P rY (g0.n 1+166) (rA (g0.n 0+36))]),.o 38 ((g0.n 0+33)+822) (dO 1 [⟨hashInt 9,.int 9 (g0.n 1+158),rA (g0.n 0+34)⟩]),.o 40 ((g0.n 0+35)+822) (dO 0 []),.o 41 ((g0.n 0+36)+822) (lO 0 [.str ⟨⟨[97,98,99,100,101,102]⟩⟩ (g0.n 1+167),.str ⟨⟨[103,104,105,106,107,108]⟩⟩ (g0.n 1+168)]),.o 2 ((b+1)+822) (dO 2 [kS P iQ (t+1) (rA (g0.n 2)),kS P iR (g0.n 1+0) (.int 1 (g2.n 3))]),.o 4 (g0.n 2+822) (oL (bJ 60 (q.l 1))),.o 39 ((g0.n 0+34)+822) (tO [.str bA (g0.n 1+159),.str ff (g0.n 1+160),.int 6 (g0.n 1+161)])] q.L (λ g3=>A 3 [g0,g1,g2,g3]) λ g3=>(.ok .next,[(0,yE P ⟨{q.S with a:=tk [g0.n 0+1,0,0,0,0,0,0,0,0,g0.n 0+32,0,0,0,b+1]},tk [0,0,0,0,q.a 0],tk [t+0,g0.n 1+75,g0.n 1+76,g0.n 1+173],q.j,q.c,q.m,q.s,q.o,q.v,q.l,q.e,q.en,q.h,q.p,q.r,q.sl,q.L⟩ (g3.sl ((b+0)+822)) g3),(1,oq (iO (g3.v 10)) 0),(4,cA g3.l 0),(5,cA g3.l 1),(6,cA g3.l 2),(7,cA g3.l 3),(8,cA g3.l 4),(9,cA g3.l 5),(10,cA g3.l 6),(11,cA g3.l 7),(12,cA g3.l 8),(13,cA g3.l 9),(14,cA g3.l 10),(15,cA g3.l 11),(16,cA g3.l 12),(17,cA g3.l 13)],[],q.L))],
 λ b t=>ap 4 λ g0 g1 g2 g3=>⟨[g3.n 0+0,g3.n 1+0],q.L,[],[],#[]⟩,ax 45 1027 16751869743676412034114338192442635822389651167890825473786169588333009774329298304515805040862785110831777638279380503266953428064793572486585871636121258014098926924296545010457499559404229716858972818639996477784109613063499881763610298113713718533853267467043093831701478429213268349280248654738384661275777338512968212299481276530699615114237961084338416557770043234480463194214992212410182835643929167850679056141445113313299376445140864048068799001448537124238339695193021654286892437477598937919313344288932537948683270754394487695860506492398543948185374213751613077623446203901441202472356553478088026414199488917910248096774572824031214744955590165948898403928686460888129184141066391172663832864966736472000267214627819610530568923383416792525290602583521656142051312394189293112624248710616914280599258744249388204798598024788313581899703823753701973706926137043527696917179826248649187061950091448139526040845901078811515200787616803758970175126560311907937064355038294746653993030747131732440292711766926159377761455497816859687168444869941797530590620428683339349300967889047049783015614751696262856655815301298182304518032147914398533794395054576999611751257033989086205658075963414912596840773286942390074909399282808886784973046439144711904436793369196699480570808984442149821395746525923656916397605950031357866177758603169090769622882874173789003791101751720394831470059177078116295017966383386164643037944726437557681827701010671069399820139594769751282200822459043089303581561782372579299399697575065734847548385335816790407099552374554273023570902793231227550718264070158057556894592745139604535918237822592709552103705693236654015869749413604422235638447661591710735092891,[0],4⟩
theorem sG.sat(w:World)(G:Shared)(q:Pr)(x:T5)(A:AA)(hs:(q.l 1).length<=1000)(n:Nd w G (sG.D w.2 q x A).Z [true,false,false] (sG.D w.2 q x A).V (sG.D w.2 q x A).e):ai w G (sG.D w.2 q x A).Z:=RD.sat (by cases x<;>walk_at "R") (λ b t=>
 ⟨iW hs,λ g0 a0=>
 λ g1=>
 ⟨(((n b t) g0 a0) g1).1,λ g2 a2=>
 ⟨((((n b t) g0 a0) g1).2 g2 a2).1,λ g3 a3=>
 ((((n b t) g0 a0) g1).2 g2 a2).2 g3 a3⟩⟩⟩)
def lU.zo(i:List (Nat×Nat×Obj))(P:Params)(q:Pr)(s:Array (Option Value))(g:Gh):SB:=⟨.ok .next,bg i [(0,yE P q s g),
  (1,oq (iO (g.v 10)) 0)],
  [],q.L⟩
def lU.D(P:Params)(q:Pr):RD:=⟨[(q.j 0,q.a 0+822,gg (q.en 4) (q.sl 0) [kS P cZ (q.u 0) (rA (q.a 4)),kS P bK (q.u 1) (rA (q.S.a 0)),kS P aJ (q.u 2) (rA (q.S.a 13)),kS P bN (q.u 3) (rA (q.S.a 9)),kS P ju (q.u 4) (q.v 0),kS P cB (q.u 6) (q.v 1),kS P ay (q.u 8) (q.v 2),kS P aA (q.u 10) (q.v 3),kS P az (q.u 12) (q.v 4),kS P mg (q.u 14) (q.v 5),kS P gR (q.u 16) (q.v 6),kS P aF (q.u 18) (q.v 7),kS P mh (q.u 20) (q.v 8),kS P eu (q.u 22) (q.v 9)]),
 (q.j 1,q.a 1+822,oq (q.m 7) 0),
 (q.j 2,q.S.a 0+822,oW q.S.a),
 (q.j 3,q.S.a 1+822,bm P q.S.a q.S.u)],
 λ i=>⟨cg (aq (fB (aq bY 118)) 5) (rA (q.a 1)) (ci (bh P) 821 (q.a 0+822)),1,i,q.L,λ _=>True,
 λ g=>lU.zo i P q (g.sl (q.a 0+822)) g⟩,
 λ i b t=>[],
 λ b t=>ap 0 (⟨[b+2,t+0,q.en 4,q.u 4,q.u 6,q.u 8,q.u 10,q.u 12,q.u 14,q.u 16,q.u 18,q.u 20,q.u 22],q.L,[q.v 0,q.v 1,q.v 2,q.v 3,q.v 4,q.v 5,q.v 6,q.v 7,q.v 8,q.v 9,.int (q.m 7) 0],[],q.sl 0⟩),ax 7 8 5215672,[0,1,2,3],0⟩
theorem lU.sat(w:World)(G:Shared)(q:Pr):ai w G (lU.D w.2 q).Z:=RD.satZ (by walk_at "Z") (λ b t gs sl h=>congrArg (λ s=>lU.zo (lU.D w.2 q).i w.2 q s (((lU.D w.2 q).e b t gs).gh sl)) (h.1 rfl).symm) (λ b t=>
 λ _ _=>trivial)
end
section
local macro_rules |`(tactic|omega)=>`(tactic|first |lia |omega (config:={}))
theorem dv{l:List DictEntry}{i:Nat}{e:DictEntry}(h:l[i]? =some e):fP (some i) l=some e.val:=congrArg (Option.map DictEntry.val) h
theorem Eh{l:List DictEntry}{i:Nat}{e:DictEntry}(h:l[i]? =some e):hZ (fP (some i) l) 1 []=some (.bool true):=by rw[dv h];rfl
theorem Ei{l:List DictEntry}{i:Nat}{e:DictEntry}(h:l[i]? =some e):hZ (fP (some i) l) 4 []=some e.val:=by rw[dv h];rfl
section
variable {S:Setting}{op:Nat}{rest:List Value}{es:Array DictEntry}{r:Option Nat}{v:Value}
theorem yF{x:Str}{t:Nat}(h1:es.size<=1000)(h2:bQ es.toList=true)(h3:cE x es.toList 0=r)(h4:hZ (fP r es.toList) op rest=some v):DX S op (.str x t) rest es r (ae S x) v:=⟨h1,⟨h2,h3,rfl⟩,h4⟩
theorem jS{x:Str}{t:Nat}(h1:Nat.ble es.size 1000=true)(h2:bQ es.toList=true)(h3:cE x es.toList 0=r)(h4:hZ (fP r es.toList) op rest=some v):DX S op (.str x t) rest es r (ae S x) v:=yF (L3 h1) h2 h3 h4
theorem wU{x:Int}{t:Nat}(h1:es.size<=1000)(h2:iB es.toList x r)(h3:hZ (fP r es.toList) op rest=some v):DX S op (.int x t) rest es r (hashInt x) v:=⟨h1,⟨h2,rfl⟩,h3⟩
end
def aI:HL->List Nat->HL×HL
 |l,[]=>([],l)
 |l,i::ix=>match l[i]? with
  |some x=>(x::(aI (l.eraseIdx i) ix).1,(aI (l.eraseIdx i) ix).2)
  |none=>([],l)
theorem j8{α:Type}:∀{l:List α} {i:Nat} {x:α},l[i]? =some x->l.Perm (x::l.eraseIdx i)
 |[],_,_,h=>by simp at h
 |a::l,0,x,h=>by
  have h:some a=some x:=by simpa using h
  injection h with h
  subst h
  exact L2 _
 |a::l,i+1,x,h=>by
  have h:l[i]? =some x:=by simpa using h
  exact((j8 h).cons a).trans (List.Perm.swap x a _)
theorem mn{α:Type}(f:α->α)(x:α)(r:List α):∀pre:List α,(pre++x::r).modify pre.length f=pre++f x::r
 |[]=>rfl
 |a::pre=>by
  show a::(pre++x::r).modify pre.length f=a::_
  rw[mn f x r pre]
  rfl
theorem ac:∀(ix:List Nat) (l:HL),l.Perm ((aI l ix).1++(aI l ix).2)
 |[],l=>L2 _
 |i::ix,l=>by
  unfold aI
  cases h:l[i]? with
  |none=>exact L2 _
  |some x=>
   exact(j8 h).trans ((ac ix (l.eraseIdx i)).cons x)
theorem hJ:∀(I:List (Nat×Nat×Obj)) (F:List Obj) (pre:HL),F.length=I.length->cf (pre++aN I) ((List.range I.length).map (·+pre.length)) F=pre++List.zip (aZ I) F
 |[],[],pre,_=>by unfold cf;rfl
 |[],_::_,_,h=>by cases h
 |_::_,[],_,h=>by cases h
 |x::I,o::F,pre,h=>by
  have e:(List.range (x::I).length).map (·+pre.length)=pre.length::(List.range I.length).map (·+(pre++[(x.2.1,o)]).length):=by
   rw[L6,List.range_succ_eq_map,List.map_cons,pd,o9]
   congr 1
   apply List.map_congr_left
   intro a _
   show a+1+pre.length=a+(pre++[(x.2.1,o)]).length
   rw[rC];simp;omega
  rw[e]
  unfold cf
  have m:(pre++aN (x::I)).modify pre.length (λ y=>(y.1,o))=(pre++[(x.2.1,o)])++aN I:=by
   show(pre++(x.2::aN I)).modify pre.length (λ y=>(y.1,o))=_
   rw[mn,L9]
   rfl
  rw[m,hJ I F (pre++[(x.2.1,o)]) (by simpa using h),L9]
  rfl
theorem k6:∀(I:HL) (pre:HL),eL (pre++I) ((List.range I.length).map (·+pre.length))=some I
 |[],pre=>rfl
 |x::I,pre=>by
  have e:(List.range (x::I).length).map (·+pre.length)=pre.length::(List.range I.length).map (·+(pre++[x]).length):=by
   rw[L6,List.range_succ_eq_map,List.map_cons,pd,o9]
   congr 1
   apply List.map_congr_left
   intro a _
   show a+1+pre.length=a+(pre++[x]).length
   rw[rC];simp;omega
  rw[e]
  unfold eL
  have h1:(pre++x::I)[pre.length]? =some x:=by simp
  have h2:=k6 I (pre++[x])
  rw[L9] at h2
  have h2:eL (pre++x::I) ((List.range I.length).map (·+(pre++[x]).length))=some I:=h2
  rw[h1,h2]
theorem pW:∀(l r:HL) (ix:List Nat) (p:HL),eL l ix=some p->eL (l++r) ix=some p
 |_,_,[],_,h=>h
 |l,r,i::ix,p,h=>by
  obtain⟨x,r',h1,h2,rfl⟩:=eE h
  have hi:=(List.getElem?_eq_some_iff.mp h1).1
  unfold eL
  rw[List.getElem?_append_left hi,h1,pW l r ix r' h2]
structure zy(Z z':SI)(N:Gh->HL)(g g':Gh)(l:HL):Prop where
 o1:(Z.out g).new=N g
 o2:(Z.out g).L=g.l
 o3:(z'.out g').res=(Z.out g).res
 o4:(z'.out g').fin=(Z.out g).fin
 o5:(Z.out g).fin.length=z'.idx.length
 o6:(z'.out g').new=[]
 o7:(z'.out g').L=l
inductive k7(z z':SI)(I2:List (Nat×Nat×Obj))(m:Nat)(R:HL)(g:Gh):Prop
 |mk (a1:(z.out g).fin.length=z.idx.length) (a2:((z.out g).fin.drop z'.idx.length).all (λ o=> !bd o)=true) (g':Gh) (h0:z'.asm g') (h1:g'.n 0=g.n 0) (h2:g'.n 1=g.n 1) (h3:g'.sl=g.sl) (h4:(z'.out g').res=(z.out g).res)
  (h5:(z'.out g').fin=(z.out g).fin.take z'.idx.length) (h6:(z'.out g').new=(z.out g).new.take m) (h7:(z'.out g').L.Perm (List.zip (aZ I2) ((z.out g).fin.drop z'.idx.length)++((z.out g).L++((z.out g).new.drop m++R))))
theorem k7.of{z z':SI}{I2:List (Nat×Nat×Obj)}{m:Nat}{R:HL}{g:Gh}{o:SB}{I:List (Nat×Nat×Obj)}(eo:z.out g=o)(ei:z.idx=I)
  (h:o.fin.length=I.length/\(o.fin.drop z'.idx.length).all (λ o=> !bd o)=true/\∃g',z'.asm g'/\g'.n 0=g.n 0/\g'.n 1=g.n 1/\g'.sl=g.sl/\(z'.out g').res=o.res/\
   (z'.out g').fin=o.fin.take z'.idx.length/\(z'.out g').new=o.new.take m/\(z'.out g').L.Perm (List.zip (aZ I2) (o.fin.drop z'.idx.length)++(o.L++(o.new.drop m++R)))):k7 z z' I2 m R g:=by
 subst eo ei
 obtain⟨a1,a2,g',h0,h1,h2,h3,h4,h5,h6,h7⟩:=h
 exact⟨a1,a2,g',h0,h1,h2,h3,h4,h5,h6,h7⟩
theorem ai.fold{w:World}{G:Shared}{z z':SI}(hz:ai w G z)(I2:List (Nat×Nat×Obj))(m:Nat)(R:HL)(hc:z'.code=z.code)(hd:z.d<=z'.d)(hi:z.idx=z'.idx++I2)(hL:z'.L.Perm (aN I2++(z.L++R)))
  (ho:∀g,z.asm g->k7 z z' I2 m R g):ai w G z':=by
 let y:SI:=⟨z.code,z.d,z'.idx,aN I2++z.L,z.asm,λ g=>⟨(z.out g).res,(z.out g).fin.take z'.idx.length,(z.out g).new.take m,(List.zip (aZ I2) ((z.out g).fin.drop z'.idx.length)++(z.out g).L)++(z.out g).new.drop m⟩⟩
 have hy:ai w G y:=by
  refine ai.lift (z:=z) (z':=y) hz I2 (aN I2) ((List.range I2.length).map (·+0)) rfl (Nat.le_refl _) hi rfl (by
   have e:I2.length=(aN I2).length:=(kx ..).symm
   rw[e];exact k6 (aN I2) []) (by simp[List.nodup_range]) λ g hg=>?_
  obtain⟨h1,h2,_⟩:=ho g hg
  have hl1:z.idx.length=z'.idx.length+I2.length:=by rw[hi,rC]
  refine⟨g,hg,rfl,rfl,rfl,rfl,(z.out g).fin.take z'.idx.length,(z.out g).fin.drop z'.idx.length,(z.out g).new.take m,(z.out g).new.drop m,(List.take_append_drop _ _).symm,(List.take_append_drop _ _).symm,?_,?_,h2,rfl,rfl,?_⟩
  ·show((z.out g).fin.take z'.idx.length).length=z'.idx.length
   rw[B9];omega
  ·rw[AG,kx,List.length_range];omega
  ·have e:=hJ I2 ((z.out g).fin.drop z'.idx.length) [] (by rw[AG];omega)
   show _=(cf (aN I2) _ _++(z.out g).L)++_
   have e:cf (aN I2) ((List.range I2.length).map (·+0)) ((z.out g).fin.drop z'.idx.length)=List.zip (aZ I2) ((z.out g).fin.drop z'.idx.length):=e
   rw[e]
 refine ai.perm hy R R hc hd rfl (by show z'.L.Perm ((aN I2++z.L)++R);rw[L9];exact hL) (λ x hx=>hx) (λ nd=>?_) λ g hg=>?_
 ·have p:(aH z'.L).Perm (aH (aN I2++(z.L++R))):=hL.map _
  have nd:=p.nodup_iff.mp nd
  rw[bc,bc] at nd
  exact(f8.mp (f8.mp nd).2.1).2.1
 ·obtain⟨_,_,g',a1,a2,a3,a4,a5,a6,a7,a8⟩:=ho g hg
  refine⟨g',a1,a2,a3,a4,a5,a6,a7,[],?_⟩
  rw[L4]
  refine a8.trans ?_
  show(_++(_++(_++R))).Perm (((_++_)++_)++R)
  simp only[L9]
  exact L2 _
def pr(S:St)(L:HL):Pr:=⟨S,λ _=>0,λ _=>0,λ _=>0,λ _=>0,λ _=>0,λ _=>aa,λ _=>default,λ _=>.none,λ _=>[],λ _=> #[],λ _=>0,λ _=>⟨0,0,0,0,0,λ _=>0,λ _=>0,aa,aa,aa,0⟩,λ _=>⟨0,0,0,0,λ _=>0,λ _=>0,0,0⟩,λ _=>none,λ _=> #[],L⟩
def lJ(P:Params)(c:List Ch):HL:=c.map λ x=>(x.wa+822,cH P x)
def jW(d:List Ch):HL:=d.map λ x=>(x.ba+822,sI x)
def jv(p:List Pa):HL:=p.map λ x=>(x.wa+822,dE x)
def nE(r:List Pa):HL:=r.map λ x=>(x.ba+822,xw x)
def bU(f:Str->Pa->DictEntry)(p:List Pa):List DictEntry:=List.zipWith f [ad,av,bb] p
noncomputable def ak(k:Nat):Str:=⟨⟨[70,48+k]⟩⟩
structure aR(P:Params)(S:St)(c d:List Ch)(p r:List Pa)(T:HL)(k:Nat)(x y:Str):Prop where
 op:S.op=⟨cU S.a S.u::c.map am⟩
 bo:S.bo=⟨jO S.a S.u::d.map cC⟩
 fi:S.fi=⟨bU (ah P) p⟩
 fin:S.fin=p.length
 bp:S.bp=⟨bU (dM P) r⟩
 tl:S.tail.Perm (lJ P c++(jW d++(jv p++(nE r++T))))
 pl:p.length<=3
 rl:r.length<=3
 cl:c.length<=5
 dl:d.length<=5
 ck:∀x∈c,1<=x.k/\x.k<=k/\x.nm=ak (x.k-1).toNat
 cn:(c.map (·.k)).Nodup
 dk:∀x∈d,1<=x.k/\x.k<=k
 dn:(d.map (·.k)).Nodup
 nm:S.nm= #[]\/∃t u,S.nm= #[kS P ad t (.str aa u)]
 fl:∃t u fs,S.fl=⟨kS P bA t (.str ⟨⟨x.cps.toList++y.cps.toList⟩⟩ u)::fs⟩/\fs.length<=k/\∀e∈fs,∃j t v,j<k/\e=kS P (ak j) t v
theorem Cf(a u:Nat->Nat):(cU a u).key= .int 9 (u 66):=rfl
theorem j9{P:Params}{S:St}{c d:List Ch}{p r:List Pa}{T:HL}{k:Nat}{x y:Str}(h:aR P S c d p r T k x y):∀e∈S.op.toList,∃i t,e.key= .int i t/\e.hash=hashInt i:=by
 rw[h.op]
 intro e he
 rcases lI.mp he with rfl |he
 ·exact⟨9,_,rfl,rfl⟩
 ·obtain⟨x,_,rfl⟩:=bZ.mp he
  exact⟨x.k,_,rfl,rfl⟩
theorem iX{P:Params}{S:St}{c d:List Ch}{p r:List Pa}{T:HL}{k:Nat}{x y:Str}(h:aR P S c d p r T k x y):S.op.size<=1000:=by
 rw[h.op]
 show(cU S.a S.u::c.map am).length<=1000
 have:=h.cl
 rw[L6,kx]
 omega
theorem gz{P:Params}{S:St}{c d:List Ch}{p r:List Pa}{T:HL}{k:Nat}{x y:Str}(h:aR P S c d p r T k x y)(t:Nat):DX (C0 P).set1 1 (.int 9 t) [] S.op (some 0) (hashInt 9) (.bool true)/\DX (C0 P).set1 0 (.int 9 t) [] S.op (some 0) (hashInt 9) (rA (S.a 8)):=by
 have e:bI 9 S.op.toList 0=some 0:=by rw[h.op];rfl
 refine⟨wU (iX h) ⟨j9 h,e⟩ ?_,wU (iX h) ⟨j9 h,e⟩ ?_⟩<;>(rw[h.op];rfl)
def s6(a b c d e f:Nat):Str:=⟨⟨[a,b,c,d,e,f]⟩⟩
inductive S6(s:Str):Prop
 |mk (a b c d e f:Nat) (x:s=s6 a b c d e f)
theorem dC{s:Str}(h:s.cps.size=6):S6 s:=by
 obtain⟨⟨l⟩⟩:=s
 rcases l with _ |⟨a,_ |⟨b,_ |⟨c,_ |⟨d,_ |⟨e,_ |⟨f,_ |⟨g,l⟩⟩⟩⟩⟩⟩⟩
 ·exact absurd (show 0=6 from h) (by decide)
 ·exact absurd (show 1=6 from h) (by decide)
 ·exact absurd (show 2=6 from h) (by decide)
 ·exact absurd (show 3=6 from h) (by decide)
 ·exact absurd (show 4=6 from h) (by decide)
 ·exact absurd (show 5=6 from h) (by decide)
 ·exact⟨a,b,c,d,e,f,rfl⟩
 ·exact absurd (Nat.le_of_eq (show l.length+7=6 from h)) (Nat.not_le_of_lt (wZ 7 _))
theorem q4{P:Params}{k:Nat}:∀l:List DictEntry,(∀e∈l,∃j t v,j<k/\e=kS P (ak j) t v)->bQ l=true
 |[],_=>rfl
 |x::l,q=>by
  obtain⟨j,t,v,_,rfl⟩:=q x (L5 ..)
  exact q4 l λ e he=>q e (L7 _ he)
theorem yG{P:Params}{S:St}{c d:List Ch}{p r:List Pa}{T:HL}{k:Nat}{x y:Str}(h:aR P S c d p r T k x y)(hk:k<=9):S.fl.size<=1000/\bQ S.fl.toList=true:=by
 obtain⟨t0,u,fs,e,hl,hf⟩:=h.fl
 rw[e]
 refine⟨?_,q4 fs hf⟩
 show(_::fs).length<=1000
 rw[L6];omega
theorem pX{P:Params}{S:St}{c d:List Ch}{p r:List Pa}{T:HL}{k:Nat}{x y:Str}(h:aR P S c d p r T k x y)(hk:k<=9):(∃u,∀t,DX (C0 P).set1 0 (.str bA t) [] S.fl (some 0) (ae (C0 P).set1 bA) (.str ⟨⟨x.cps.toList++y.cps.toList⟩⟩ u))/\
  ∀t v,DX (C0 P).set1 3 (.str bA t) [v] S.fl (some 0) (ae (C0 P).set1 bA) .none:=by
 have a:=yG h hk
 obtain⟨t0,u,fs,e,hl,hf⟩:=h.fl
 refine⟨⟨u,λ t=>yF a.1 a.2 ?_ ?_⟩,λ t v=>yF a.1 a.2 ?_ rfl⟩
 ·rw[e];rfl
 ·rw[e];rfl
 ·rw[e];rfl
theorem zz{w:World}{G:Shared}{S:St}{c d:List Ch}{p r:List Pa}{T:HL}{k:Nat}{f1 f2:Str}(h:aR w.2 S c d p r T k f1 f2)(hk:k<=9)(hb:S.buf.cps.size=6)(h1:f1.cps.size=6)(h2:f2.cps.size=6)(x:T2)(t1 t2 j0 j1:Nat):
  ai w G ⟨au 264 [rA (S.a 0),.int 9 t1,.int (x.p 1 2) t2],40,[(j0,S.a 0+822,oW S.a),(j1,S.a 1+822,bm w.2 S.a S.u)],aP w.2 S,
   λ g=>∃bt,g.l=aP w.2 {S with buf:=x.p f1 f2,bt:=bt,rcn:=x.p 1 2,rt:=t2},λ g=>⟨.ok (.ret .none),[oW S.a,bm w.2 S.a S.u],[],g.l⟩⟩:=by
 obtain⟨a0,a1,a2,a3,a4,a5,ea⟩:=dC hb
 obtain⟨b0,b1,b2,b3,b4,b5,rfl⟩:=dC h1
 obtain⟨c0,c1,c2,c3,c4,c5,rfl⟩:=dC h2
 have d9:=gz h
 obtain⟨⟨u,dr⟩,_⟩:=pX h hk
 obtain⟨S1,rfl⟩:=St.e_buf ea
 let S:St:=S1.s_buf (s6 a0 a1 a2 a3 a4 a5)
 let q:Pr:={pr S (aI (aP w.2 S) [3,3,4]).2 with u:=tk [t1,t2],j:=tk [j0,j1],c:=λ n=>if n=99 then u else([a0,a1,a2,a3,a4,a5,0,0,0,0,b0,b1,b2,b3,b4,b5,c0,c1,c2,c3,c4,c5]:List Nat).getD n 0}
 have hz:=get.sat w G q x λ b t=>⟨(d9 t1).1,(d9 t1).2,dr _,λ _ _=>trivial⟩
 refine ai.fold hz ((get.D w.2 q x).i.drop 2) 0 [] rfl (show 1<=40 by decide) rfl (by rw[L4];exact ac [3,3,4] (aP w.2 S)) λ g _=>⟨rfl,rfl,{g with l:=aP w.2 {S with buf:=x.p (s6 b0 b1 b2 b3 b4 b5) (s6 c0 c1 c2 c3 c4 c5),bt:=g.n 2,rcn:=x.p 1 2,rt:=t2}},⟨g.n 2,rfl⟩,rfl,rfl,rfl,rfl,rfl,rfl,?_⟩
 cases x
 ·exact(ac [3,3,4] (aP w.2 {S with buf:=s6 b0 b1 b2 b3 b4 b5,bt:=g.n 2,rcn:=1,rt:=t2})).trans (.of_eq (congrArg _ (L4 _).symm))
 ·exact(ac [3,3,4] (aP w.2 {S with buf:=s6 c0 c1 c2 c3 c4 c5,bt:=g.n 2,rcn:=2,rt:=t2})).trans (.of_eq (congrArg _ (L4 _).symm))
theorem zA{w:World}{G:Shared}{S:St}{c d:List Ch}{p r:List Pa}{T:HL}{k:Nat}{f1 f2:Str}(h:aR w.2 S c d p r T k f1 f2)(hk:k<=9)(hb:S.buf.cps.size=6)(h1:f1.cps.size=6)(h2:f2.cps.size=6)(x:T2)(t1 t2 t3 j0 j1:Nat):
  ai w G ⟨au 271 [rA (S.a 0),.int 9 t1,.int (x.p 1 2) t2,.int 2000 t3],40,[(j0,S.a 0+822,oW S.a),(j1,S.a 1+822,bm w.2 S.a S.u)],aP w.2 S,
   λ g=>∃S',g.l=aP w.2 S'/\(∃fl,S'={S with fl:=fl,rcn:=x.p 1 2,rt:=t2})/\aR w.2 S' c d p r T k (x.p S.buf f1) (x.p f2 S.buf),λ g=>⟨.ok (.ret .none),[oW S.a,bm w.2 S.a S.u],[],g.l⟩⟩:=by
 obtain⟨a0,a1,a2,a3,a4,a5,ea⟩:=dC hb
 obtain⟨b0,b1,b2,b3,b4,b5,rfl⟩:=dC h1
 obtain⟨c0,c1,c2,c3,c4,c5,rfl⟩:=dC h2
 have d9:=gz h
 obtain⟨⟨u,dr⟩,dw⟩:=pX h hk
 obtain⟨S1,rfl⟩:=St.e_buf ea
 let S:St:=S1.s_buf (s6 a0 a1 a2 a3 a4 a5)
 let q:Pr:={pr S (aI (aP w.2 S) [3,3,4]).2 with u:=tk [t1,t2,t3],j:=tk [j0,j1],c:=λ n=>if n=99 then u else([a0,a1,a2,a3,a4,a5,0,0,0,0,b0,b1,b2,b3,b4,b5,c0,c1,c2,c3,c4,c5]:List Nat).getD n 0}
 have hz:=w3.sat w G q x λ b t=>⟨(d9 t1).1,(d9 t1).2,dr _,dw _ _,λ _ _=>trivial⟩
 have inv:∀tx fl',(∃t0 u0 fs,S.fl=⟨kS w.2 bA t0 u0::fs⟩/\fl'=⟨kS w.2 bA t0 (.str ⟨⟨(x.p S.buf (s6 b0 b1 b2 b3 b4 b5)).cps.toList++(x.p (s6 c0 c1 c2 c3 c4 c5) S.buf).cps.toList⟩⟩ tx)::fs⟩)->aR w.2 {S with fl:=fl',rcn:=x.p 1 2,rt:=t2} c d p r T k (x.p S.buf (s6 b0 b1 b2 b3 b4 b5)) (x.p (s6 c0 c1 c2 c3 c4 c5) S.buf):=by
  intro tx fl' he
  refine⟨h.op,h.bo,h.fi,h.fin,h.bp,h.tl,h.pl,h.rl,h.cl,h.dl,h.ck,h.cn,h.dk,h.dn,h.nm,?_⟩
  obtain⟨t0,u0,fs,e,rfl⟩:=he
  obtain⟨t1,u1,fs1,e1,q1,q2⟩:=h.fl
  have e:S.fl=_:=e
  have e1:S.fl=_:=e1
  rw[e] at e1
  injection e1 with e1
  injection e1 with e1 e2
  subst e2
  exact⟨t0,tx,fs,rfl,q1,q2⟩
 have mo:∀tx s,S.fl.modify 0 (λ e=>{e with val:=.str s tx})=S.fl.modify 0 (λ e=>{e with val:=.str s tx}):=λ _ _=>rfl
 have fe:∀v,∃t0 u0 fs,S.fl=⟨kS w.2 bA t0 u0::fs⟩/\S.fl.modify 0 (λ e=>{e with val:=v})=⟨kS w.2 bA t0 v::fs⟩:=λ v=>by
  obtain⟨t1,u1,fs1,e1,q1,q2⟩:=h.fl
  have e1:S.fl=_:=e1
  refine⟨t1,_,fs1,e1,?_⟩
  rw[e1]
  simp[Array.modify,Array.modifyM,kS]
 refine ai.fold hz ((w3.D w.2 q x).i.drop 2) 0 [] rfl (show 1<=40 by decide) rfl (by rw[L4];exact ac [3,3,4] (aP w.2 S)) λ g _=>⟨rfl,rfl,{g with l:=aP w.2 {S with fl:=S.fl.modify 0 (λ e=>{e with val:=.str ⟨⟨(x.p S.buf (s6 b0 b1 b2 b3 b4 b5)).cps.toList++(x.p (s6 c0 c1 c2 c3 c4 c5) S.buf).cps.toList⟩⟩ (g.n 2)}),rcn:=x.p 1 2,rt:=t2}},⟨_,rfl,⟨_,rfl⟩,inv (g.n 2) _ (fe _)⟩,rfl,rfl,rfl,rfl,rfl,rfl,?_⟩
 cases x
 ·exact(ac [3,3,4] (aP w.2 {S with fl:=S.fl.modify 0 (λ e=>{e with val:=.str ⟨⟨(s6 a0 a1 a2 a3 a4 a5).cps.toList++(s6 c0 c1 c2 c3 c4 c5).cps.toList⟩⟩ (g.n 2)}),rcn:=1,rt:=t2})).trans (.of_eq (congrArg _ (L4 _).symm))
 ·exact(ac [3,3,4] (aP w.2 {S with fl:=S.fl.modify 0 (λ e=>{e with val:=.str ⟨⟨(s6 b0 b1 b2 b3 b4 b5).cps.toList++(s6 a0 a1 a2 a3 a4 a5).cps.toList⟩⟩ (g.n 2)}),rcn:=2,rt:=t2})).trans (.of_eq (congrArg _ (L4 _).symm))
theorem cD(a b:Int)(t:Nat):(Value.int a t).isInt b=decide (a=b):=by
 unfold Value.isInt
 first |rfl |(show(a == b)=_;exact beq_eq_decide _ _)
theorem fg{k:Int}:∀(c:List Ch) (n:Nat),(∀x∈c,x.k≠k)->bI k (c.map am) n=none
 |[],_,_=>rfl
 |x::c,n,h=>by
  show(match(am x).key.isInt k with |true=>some n |false=>bI k (c.map am) (n+1))=none
  rw[show(am x).key.isInt k=false from(cD _ _ _).trans (lL (h x (L5 ..)))]
  exact fg c (n+1) λ y hy=>h y (L7 _ hy)
theorem fF:∀(c:List Ch) (n i:Nat) (x:Ch),c[i]? =some x->(c.map (·.k)).Nodup->bI x.k (c.map am) n=some (n+i)
 |[],_,_,_,h,_=>by simp at h
 |y::c,n,0,x,h,_=>by
  have h:some y=some x:=by simpa using h
  injection h with h
  subst h
  show(match(am y).key.isInt y.k with |true=>some n |false=>bI y.k (c.map am) (n+1))=_
  rw[show(am y).key.isInt y.k=true from(cD _ _ _).trans (jD rfl)]
  rfl
 |y::c,n,i+1,x,h,nd=>by
  have h:c[i]? =some x:=by simpa using h
  have nd:=po.mp nd
  have ne:y.k≠x.k:=λ e=>nd.1 (bZ.mpr ⟨x,sH h,e.symm⟩)
  show(match(am y).key.isInt x.k with |true=>some n |false=>bI x.k (c.map am) (n+1))=_
  rw[show(am y).key.isInt x.k=false from(cD _ _ _).trans (lL ne)]
  have:=fF c (n+1) i x h nd.2
  show bI x.k (c.map am) (n+1)=_
  rw[this]
  congr 1;omega
theorem vB{P:Params}{S:St}{c d:List Ch}{p r:List Pa}{T:HL}{k:Nat}{f1 f2:Str}(h:aR P S c d p r T k f1 f2)(hk:k<=8){i:Nat}{x:Ch}(hi:c[i]? =some x)(t:Nat):nI (C0 P).set1 (.int x.k t) S.op.toList (some (i+1)) (hashInt x.k)/\S.op.toList[i+1]? =some (am x):=by
 have x9:x.k≠9:=by
  have:=h.ck x (sH hi)
  omega
 have e:bI x.k S.op.toList 0=some (i+1):=by
  rw[h.op]
  show(match(cU S.a S.u).key.isInt x.k with |true=>some 0 |false=>bI x.k (c.map am) 1)=_
  rw[show(cU S.a S.u).key.isInt x.k=false from(cD _ _ _).trans (lL (Ne.symm x9))]
  show bI x.k (c.map am) 1=_
  rw[fF c 1 i x hi h.cn]
  congr 1;omega
 refine⟨⟨⟨j9 h,e⟩,rfl⟩,?_⟩
 rw[h.op]
 show(cU S.a S.u::c.map am)[i+1]? =_
 rw[List.getElem?_cons_succ,qz,hi]
 rfl
theorem vC{P:Params}{S:St}{c d:List Ch}{p r:List Pa}{T:HL}{k:Nat}{f1 f2:Str}(h:aR P S c d p r T k f1 f2){m:Int}(h9:m≠9)(hm:∀x∈c,x.k≠m)(t:Nat):nI (C0 P).set1 (.int m t) S.op.toList none (hashInt m):=by
 have e:bI m S.op.toList 0=none:=by
  rw[h.op]
  show(match(cU S.a S.u).key.isInt m with |true=>some 0 |false=>bI m (c.map am) 1)=_
  rw[show(cU S.a S.u).key.isInt m=false from(cD _ _ _).trans (lL (Ne.symm h9))]
  exact fg c 1 hm
 exact⟨⟨j9 h,e⟩,rfl⟩
end
theorem ox{a b:Nat}(h:a≠b):((ak a).cps.toList ==(ak b).cps.toList)=false:=by
 show([70,48+a] == [70,48+b])=false
 simp[h]
theorem eF(b:Nat):(((⟨⟨[82,69,67]⟩⟩:Str).cps.toList ==(ak b).cps.toList)=false):=by
 show([82,69,67] == [70,48+b])=false
 simp
theorem gA:∀(m:Nat) (l:List Int),(∀y∈l,1<=y/\y<=m)->l.Nodup->l.length<=m
 |0,l,h,_=>by
  cases l with
  |nil=>exact Nat.le_refl _
  |cons y r=>
   have:=h y (L5 ..)
   omega
 |m+1,l,h,nd=>by
  by_cases hm:((m+1:Nat):Int)∈l
  ·have z:=gA m (l.erase ((m+1:Nat):Int)) (λ y hy=>by
    have q:=(List.Nodup.mem_erase_iff nd).mp hy
    have:=h y q.2
    have:=q.1
    omega) (nd.erase _)
   rw[List.length_erase_of_mem hm] at z
   omega
  ·have z:=gA m l (λ y hy=>by
    have:=h y hy
    have ne:y≠((m+1:Nat):Int):=λ e=>hm (e▸hy)
    omega) nd
   omega
theorem iY{w:World}{G:Shared}{S:St}{k t1 t2:Nat}{md:Str}{A:Gh->Prop}{I:List (Nat×Nat×Obj)}{F:List Obj}{L R:HL}{e:Array DictEntry}
  (hz:ai w G ⟨au 182 [rA (S.a 0),.str md t1,.str (ak k) t2],3,I,R,λ _=>True,λ _=>⟨.ok (.ret (.bool false)),F,[],R⟩⟩)
  (hA:∀g,A g)(h1:I=[(0,S.a 0+822,oW S.a),(1,S.a 1+822,bm w.2 S.a S.u),(3,S.a 6+822,oD e S.opn),(4,S.a 8+822,dz w.2 S.u S.buf S.bt S.rcn S.rt)]++I.drop 4)(h2:F=I.map (·.2.2))(h4:(F.drop 4).all (λ o=> !bd o)=true)
  (hL:L.Perm (aN (I.drop 4)++R))(h5:List.zip (aZ (I.drop 4)) (F.drop 4)=aN (I.drop 4)):
  ai w G ⟨au 182 [rA (S.a 0),.str md t1,.str (ak k) t2],12,[(0,S.a 0+822,oW S.a),(1,S.a 1+822,bm w.2 S.a S.u),(3,S.a 6+822,oD e S.opn),(4,S.a 8+822,dz w.2 S.u S.buf S.bt S.rcn S.rt)],L,A,
   λ g=>⟨.ok (.ret (.bool false)),[oW S.a,bm w.2 S.a S.u,oD e S.opn,dz w.2 S.u S.buf S.bt S.rcn S.rt],[],L⟩⟩:=
 ai.fold hz (I.drop 4) 0 [] rfl (show 3<=12 by decide) h1 (by rw[L4];exact hL) λ g _=>⟨by rw[h2];exact kx _,h4,g,hA g,rfl,rfl,rfl,rfl,by rw[h2,h1];rfl,rfl,hL.trans (.of_eq (by
  show _=List.zip (aZ (I.drop 4)) (F.drop 4)++(R++([]++[]))
  rw[h5,L4,L4]))⟩
theorem zB{w:World}{G:Shared}{S:St}{c d:List Ch}{p r:List Pa}{T:HL}{k:Nat}{f1 f2:Str}(h:aR w.2 S c d p r T k f1 f2)(hk:k<=4)(md:Str)(t1 t2:Nat)(L R:HL)(hL:L.Perm (lJ w.2 c++R))(A:Gh->Prop)(hA:∀g,A g):
  ai w G ⟨au 182 [rA (S.a 0),.str md t1,.str (ak k) t2],12,[(0,S.a 0+822,oW S.a),(1,S.a 1+822,bm w.2 S.a S.u),(3,S.a 6+822,oD S.op S.opn),(4,S.a 8+822,dz w.2 S.u S.buf S.bt S.rcn S.rt)],L,A,
   λ g=>⟨.ok (.ret (.bool false)),[oW S.a,bm w.2 S.a S.u,oD S.op S.opn,dz w.2 S.u S.buf S.bt S.rcn S.rt],[],L⟩⟩:=by
 have d9:=gz h
 have sz:=iX h
 have dk:∀(i:Nat) (x:Ch),c[i]? =some x->∀t,DX (C0 w.2).set1 0 (.int x.k t) [] S.op (some (i+1)) (hashInt x.k) (rA x.wa):=λ i x hi t=>by
  obtain⟨a,b⟩:=vB h (by omega) hi t
  exact⟨sz,a,dv b⟩
 have nn:∀(i:Nat) (x:Ch),c[i]? =some x->(x.nm.cps.toList ==(ak k).cps.toList)=false:=λ i x hi=>by
  have:=h.ck x (sH hi)
  rw[this.2.2]
  exact ox (by omega)
 have cl:c.length<=4:=by
  have e:∀(l:List Ch) (m:Nat),(∀x∈l,1<=x.k/\x.k<=m)->(l.map (·.k)).Nodup->l.length<=m:=λ l m q nd=>by
   have z:=gA m (l.map λ x=>x.k) (λ y hy=>by
    obtain⟨x,hx,rfl⟩:=bZ.mp hy
    exact q x hx) nd
   simpa using z
  have:=e c k (λ x hx=>⟨(h.ck x hx).1,(h.ck x hx).2.1⟩) h.cn
  omega
 have eo:=h.op
 rw[eo] at d9 dk ⊢
 clear eo h
 rcases c with _ |⟨x0,_ |⟨x1,_ |⟨x2,_ |⟨x3,_ |⟨x4,c⟩⟩⟩⟩⟩
 ·let q:Pr:={pr S R with h:=λ i=>(pr S R).h i,s:=pe [md,ak k],u:=tk [t1,t2],j:=tk [0,1,3,4]}
  have hz:=qs.sat w G q (eF k) λ b t=>λ _ _=>⟨(d9 _).2,λ _ _=>λ _ _=>trivial⟩
  exact iY (S:=S) (I:=(qs.D w.2 q).i) hz hA rfl rfl rfl hL rfl
 ·let q:Pr:={pr S R with h:=λ i=>[x0].getD i x0,s:=pe [md,ak k],u:=tk [t1,t2],j:=tk [0,1,3,4]}
  have hz:=qt.sat w G q (eF k) (nn 0 x0 rfl) λ b t=>λ _ _=>⟨(d9 _).2,λ _ _=>⟨dk 0 x0 rfl _,λ _ _=>λ _ _=>trivial⟩⟩
  exact iY (S:=S) (I:=(qt.D w.2 q).i) hz hA rfl rfl rfl hL rfl
 ·let q:Pr:={pr S R with h:=λ i=>[x0,x1].getD i x0,s:=pe [md,ak k],u:=tk [t1,t2],j:=tk [0,1,3,4]}
  have hz:=qu.sat w G q (eF k) (nn 0 x0 rfl) (nn 1 x1 rfl) λ b t=>λ _ _=>⟨(d9 _).2,λ _ _=>⟨dk 0 x0 rfl _,λ _ _=>⟨dk 1 x1 rfl _,λ _ _=>λ _ _=>trivial⟩⟩⟩
  exact iY (S:=S) (I:=(qu.D w.2 q).i) hz hA rfl rfl rfl hL rfl
 ·let q:Pr:={pr S R with h:=λ i=>[x0,x1,x2].getD i x0,s:=pe [md,ak k],u:=tk [t1,t2],j:=tk [0,1,3,4]}
  have hz:=qx.sat w G q (eF k) (nn 0 x0 rfl) (nn 1 x1 rfl) (nn 2 x2 rfl) λ b t=>λ _ _=>⟨(d9 _).2,λ _ _=>⟨dk 0 x0 rfl _,λ _ _=>⟨dk 1 x1 rfl _,λ _ _=>⟨dk 2 x2 rfl _,λ _ _=>λ _ _=>trivial⟩⟩⟩⟩
  exact iY (S:=S) (I:=(qx.D w.2 q).i) hz hA rfl rfl rfl hL rfl
 ·let q:Pr:={pr S R with h:=λ i=>[x0,x1,x2,x3].getD i x0,s:=pe [md,ak k],u:=tk [t1,t2],j:=tk [0,1,3,4]}
  have hz:=qy.sat w G q (eF k) (nn 0 x0 rfl) (nn 1 x1 rfl) (nn 2 x2 rfl) (nn 3 x3 rfl) λ b t=>λ _ _=>⟨(d9 _).2,λ _ _=>⟨dk 0 x0 rfl _,λ _ _=>⟨dk 1 x1 rfl _,λ _ _=>⟨dk 2 x2 rfl _,λ _ _=>⟨dk 3 x3 rfl _,λ _ _=>λ _ _=>trivial⟩⟩⟩⟩⟩
  exact iY (S:=S) (I:=(qy.D w.2 q).i) hz hA rfl rfl rfl hL rfl
 ·exact absurd cl (Nat.not_le_of_lt (wZ 5 _))
section
local macro_rules |`(tactic|omega)=>`(tactic|first |lia |omega (config:={}))
structure yH(x y:Ch):Prop where
 wa:x.wa=y.wa
 k:x.k=y.k
 kt:x.kt=y.kt
 u:x.u=y.u
 md:x.md=y.md
 nm:x.nm=y.nm
 bf:x.bf=y.bf
 sz:x.sz=y.sz
theorem yH.o{x y:Ch}(h:yH x y)(P:Params):cH P x=cH P y:=by
 unfold cH;rw[h.md,h.nm,h.u,h.bf,h.sz]
theorem k8(s n:Str)(t:Nat):(Value.str s t).isStr n=(s.cps.toList == n.cps.toList):=by
 obtain⟨⟨s⟩⟩:=s
 obtain⟨⟨n⟩⟩:=n
 show(_ == _)=(_ == _)
 rw[Bool.eq_iff_iff,beq_iff_eq,beq_iff_eq]
 simp
theorem q6{a b:Nat}(h:a≠b)(t:Nat):(Value.str (ak a) t).isStr (ak b)=false:=(k8 _ _ _).trans (ox h)
theorem q7(b t:Nat):(Value.str bA t).isStr (ak b)=false:=(k8 _ _ _).trans (eF b)
theorem xD(s:Str)(t:Nat):(Value.str s t).isStr s=true:=(k8 _ _ _).trans (CB _)
theorem ao{α:Type}(A B C:List α):(A++(B++C)).Perm (B++(A++C)):=by
 rw[<-L9,<-L9]
 exact List.Perm.append_right _ pn
theorem mq{P:Params}{k:Nat}:∀(l:List DictEntry) (n:Nat),(∀e∈l,∃j t v,j<k/\e=kS P (ak j) t v)->cE (ak k) l n=none
 |[],_,_=>rfl
 |e::l,n,q=>by
  obtain⟨j,t,v,hj,rfl⟩:=q e (L5 ..)
  show(match(Value.str (ak j) t).isStr (ak k) with |true=>some n |false=>cE (ak k) l (n+1))=none
  rw[show(Value.str (ak j) t).isStr (ak k)=false from q6 (by omega) _]
  exact mq l (n+1) λ e he=>q e (L7 _ he)
theorem ld{P:Params}{k:Nat}(t:Nat)(v:Value):∀(l:List DictEntry) (n:Nat),(∀e∈l,∃j t v,j<k/\e=kS P (ak j) t v)->cE (ak k) (l++[kS P (ak k) t v]) n=some (n+l.length)
 |[],n,_=>by
  show(match(Value.str (ak k) t).isStr (ak k) with |true=>some n |false=>none)=_
  rw[show(Value.str (ak k) t).isStr (ak k)=true from xD _ _]
  rfl
 |e::l,n,q=>by
  obtain⟨j,t',v',hj,rfl⟩:=q e (L5 ..)
  show(match(Value.str (ak j) t').isStr (ak k) with |true=>some n |false=>cE (ak k) (l++[kS P (ak k) t v]) (n+1))=_
  rw[show(Value.str (ak j) t').isStr (ak k)=false from q6 (by omega) _]
  refine(ld t v l (n+1) λ e he=>q e (L7 _ he)).trans ?_
  congr 1
  rw[L6];omega
theorem iZ{P:Params}(s:Str)(t:Nat)(v:Value):∀l:List DictEntry,bQ l=true->bQ (l++[kS P s t v])=true
 |[],_=>rfl
 |e::l,h=>by
  unfold bQ at h
  show(match e.key with | .str _ _=>bQ (l++[kS P s t v]) |_=>false)=true
  cases he:e.key<;>rw[he] at h<;>first |exact iZ s t v l h |(cases h;done)
theorem zC{P:Params}{S:St}{c d:List Ch}{p r:List Pa}{T:HL}{k:Nat}{f1 f2:Str}(h:aR P S c d p r T k f1 f2)(hk:k<=9):(∀t,DX (C0 P).set1 1 (.str (ak k) t) [] S.fl none (ae (C0 P).set1 (ak k)) (.bool false))/\
  (∀t v,DX (C0 P).set1 3 (.str (ak k) t) [v] S.fl none (ae (C0 P).set1 (ak k)) .none)/\
  (∀t t' v,DX (C0 P).set1 0 (.str (ak k) t) [] (S.fl.push (kS P (ak k) t' v)) (some S.fl.size) (ae (C0 P).set1 (ak k)) v):=by
 have a:=yG h hk
 obtain⟨t0,u,fs,e,hl,hf⟩:=h.fl
 have e1:cE (ak k) S.fl.toList 0=none:=by
  rw[e]
  show(match(Value.str bA t0).isStr (ak k) with |true=>some 0 |false=>cE (ak k) fs 1)=none
  rw[show(Value.str bA t0).isStr (ak k)=false from q7 k _]
  exact mq fs 1 hf
 have e2:∀t' v,cE (ak k) (S.fl.push (kS P (ak k) t' v)).toList 0=some S.fl.size:=λ t' v=>by
  rw[Array.toList_push,e]
  show(match(Value.str bA t0).isStr (ak k) with |true=>some 0 |false=>cE (ak k) (fs++[kS P (ak k) t' v]) 1)=_
  rw[show(Value.str bA t0).isStr (ak k)=false from q7 k _]
  refine(ld t' v fs 1 hf).trans ?_
  congr 1
  show 1+fs.length=(_::fs).length
  rw[L6];omega
 refine⟨λ t=>yF a.1 a.2 e1 rfl,λ t v=>yF a.1 a.2 e1 rfl,λ t t' v=>yF ?_ ?_ (e2 t' v) ?_⟩
 ·rw[Array.size_push,e]
  show(_::fs).length+1<=1000
  rw[L6];omega
 ·rw[Array.toList_push];exact iZ _ _ _ _ a.2
 ·exact dv (e:=kS P (ak k) t' v) (by simp)
def r4(S:St)(P:Params)(fl:Array DictEntry)(X:Ch):St:={S with fl:=fl,fln:=S.fln+1,op:=S.op.push (am X),opn:=S.opn+1,tail:=S.tail++[(X.wa+822,cH P X)]}
theorem vD{P:Params}{S:St}{c d:List Ch}{p r:List Pa}{T:HL}{k:Nat}{f1 f2:Str}(h:aR P S c d p r T k f1 f2)(hk:k<=4)(X:Ch)(t:Nat)(v:Value)(e1:X.k=((k+1:Nat):Int))(e2:X.nm=ak k)(cl:c.length<=k):
  aR P (r4 S P (S.fl.push (kS P (ak k) t v)) X) (c++[X]) d p r T (k+1) f1 f2:=by
 refine⟨?_,h.bo,h.fi,h.fin,h.bp,?_,h.pl,h.rl,?_,h.dl,?_,?_,λ x hx=>?_,h.dn,h.nm,?_⟩
 ·show S.op.push _=_
  rw[h.op]
  apply Array.ext'
  rw[Array.toList_push]
  show(cU S.a S.u::c.map am)++[am X]=cU S.a S.u::(c++[X]).map am
  simp
 ·show(S.tail++_).Perm _
  have q:(S.tail++[(X.wa+822,cH P X)]).Perm ((lJ P c++(jW d++(jv p++(nE r++T))))++[(X.wa+822,cH P X)]):=h.tl.append_right _
  refine q.trans ?_
  have e:lJ P (c++[X])=lJ P c++[(X.wa+822,cH P X)]:=nD
  rw[e]
  have e2:∀A B C:HL,((A++B)++C).Perm ((A++C)++B):=λ A B C=>by
   rw[L9,L9]
   exact dQ _ pn
  exact e2 _ _ _
 ·rw[rC];simp;omega
 ·intro x hx
  rcases lK.mp hx with hx |hx
  ·have:=h.ck x hx
   exact⟨this.1,by have:=this.2.1;omega,this.2.2⟩
  ·rw[yh.mp hx]
   refine⟨by omega,by omega,?_⟩
   rw[e2,e1]
   congr 1
   omega
 ·rw[nD]
  refine f8.mpr ⟨h.cn,by simp,λ a ha b hb=>?_⟩
  obtain⟨x,hx,rfl⟩:=bZ.mp ha
  have:=h.ck x hx
  simp at hb
  omega
 ·have:=h.dk x hx
  omega
 ·obtain⟨t0,u,fs,e,hl,hf⟩:=h.fl
  refine⟨t0,u,fs++[kS P (ak k) t v],?_,?_,?_⟩
  ·show S.fl.push _=_
   rw[e]
   apply Array.ext'
   rw[Array.toList_push]
   rfl
  ·rw[rC];simp;omega
  ·intro x hx
   rcases lK.mp hx with hx |hx
   ·obtain⟨j,t,v,hj,rfl⟩:=hf x hx
    exact⟨j,t,v,by omega,rfl⟩
   ·exact⟨k,t,v,by omega,yh.mp hx⟩
theorem zD{P:Params}{S:St}{c d:List Ch}{p r:List Pa}{T:HL}{k:Nat}{f1 f2:Str}(h:aR P S c d p r T k f1 f2):c.length<=k:=by
 have z:=gA k (c.map λ x=>x.k) (λ y hy=>by
  obtain⟨x,hx,rfl⟩:=bZ.mp hy
  exact⟨(h.ck x hx).1,(h.ck x hx).2.1⟩) h.cn
 simpa using z
noncomputable def Ej(x:T4):Int:=x.p 128 3 4 5
theorem C1{C:Nat->Prop}{i:Nat}(h:i<=1)(h0:C 0)(h1:C 1):C i:=by
 rcases i with _ |_ |i
 ·exact h0
 ·exact h1
 ·exact absurd h (Nat.not_le_of_lt (wZ 2 i))
theorem Cg{C:Nat->Prop}{i:Nat}(h:i<=2)(h0:C 0)(h1:C 1)(h2:C 2):C i:=by
 rcases i with _ |i
 ·exact h0
 ·exact C1 (C:=λ i=>C (i+1)) (Nat.le_of_succ_le_succ h) h1 h2
theorem C2{C:Nat->Prop}{i:Nat}(h:i<=3)(h0:C 0)(h1:C 1)(h2:C 2)(h3:C 3):C i:=by
 rcases i with _ |i
 ·exact h0
 ·exact Cg (C:=λ i=>C (i+1)) (Nat.le_of_succ_le_succ h) h1 h2 h3
theorem Ek{C:Nat->Prop}{i:Nat}(h:i<=4)(h0:C 0)(h1:C 1)(h2:C 2)(h3:C 3)(h4:C 4):C i:=by
 rcases i with _ |i
 ·exact h0
 ·exact C2 (C:=λ i=>C (i+1)) (Nat.le_of_succ_le_succ h) h1 h2 h3 h4
theorem zE{k:Nat}(hk:k<=4):∃y:T5,ak k=⟨⟨[70,y.p 48 49 50 51 52]⟩⟩:=
 Ek (C:=λ k=>∃y:T5,ak k=⟨⟨[70,y.p 48 49 50 51 52]⟩⟩) hk ⟨.a,rfl⟩ ⟨.b,rfl⟩ ⟨.c,rfl⟩ ⟨.d,rfl⟩ ⟨.e,rfl⟩
theorem Bh{w:World}{G:Shared}{k:Nat}(hk:k<=4)(q:Pr){A:Gh->Prop}(hA:∀g,A g):ai w G ⟨au 168 [.str (ak k) (q.u 0)],12,[],q.L,A,λ _=>⟨.ok (.ret (.str (ak k) (q.u 0))),[],[],q.L⟩⟩:=by
 obtain⟨y,e⟩:=zE hk
 rw[e]
 exact ai.fold (Am.sat w G q y) [] 0 [] rfl (show 1<=12 by decide) rfl (by rw[L4];exact L2 _) λ g _=>⟨rfl,rfl,g,hA g,rfl,rfl,rfl,rfl,rfl,rfl,by
  show(q.L).Perm ([]++(q.L++([]++[])))
  rw[L4,L4]
  exact L2 _⟩
theorem xE{w:World}{G:Shared}{S:St}{c d:List Ch}{p r:List Pa}{T:HL}{k:Nat}{f1 f2:Str}(h:aR w.2 S c d p r T k f1 f2)(hk:k<=4)(md:T3)(x:T4)(t1 t2 t3 t4 j0 j1:Nat):
  ai w G ⟨au 175 [rA (S.a 0),.str (md.p fJ fK ff) t1,.int (k+1:Nat) t2,.str (ak k) t3,.int (x.p 128 3 4 5) t4],40,[(j0,S.a 0+822,oW S.a),(j1,S.a 1+822,bm w.2 S.a S.u)],aP w.2 S,
   λ g=>∃fl X,g.l=aP w.2 (r4 S w.2 fl X)/\X.k=(k+1:Nat)/\X.nm=ak k/\X.md=md.p fJ fK ff/\X.sz=x.p 128 3 4 5/\aR w.2 (r4 S w.2 fl X) (c++[X]) d p r T (k+1) f1 f2,
   λ g=>⟨.ok (.ret .none),[oW S.a,bm w.2 S.a S.u],[],g.l⟩⟩:=by
 have cl:=zD h
 have sz:=iX h
 have nk:∀y∈c,y.k≠((k+1:Nat):Int):=λ y hy=>by
  have:=(h.ck y hy).2.1
  omega
 have kn:=vC h (m:=((k+1:Nat):Int)) (by omega) nk
 have d1:∀t,DX (C0 w.2).set1 1 (.int (k+1:Nat) t) [] S.op none (hashInt (k+1:Nat)) (.bool false):=λ t=>⟨sz,kn t,rfl⟩
 have d3:∀t v,DX (C0 w.2).set1 3 (.int (k+1:Nat) t) [v] S.op none (hashInt (k+1:Nat)) .none:=λ t v=>⟨sz,kn t,rfl⟩
 obtain⟨n1,n3,n0⟩:=zC h (by omega)
 let R:HL:=(aI (bj w.2 S) [3,3,4]).2++(jW d++(jv p++(nE r++T)))
 have hL:((aI (aP w.2 S) [3,3,4]).2).Perm (lJ w.2 c++R):=by
  show((aI (bj w.2 S) [3,3,4]).2++S.tail).Perm _
  refine(h.tl.append_left _).trans ?_
  exact ao _ _ _
 have iw:=λ md t1 t2=>zB (G:=G) h hk md t1 t2 _ R hL (λ _=>True) λ _=>trivial
 have ck:∀t A,(∀g,A g)->ai w G ⟨au 168 [.str (ak k) t],12,[],(aI (aP w.2 S) [3,3,4]).2,A,λ _=>⟨.ok (.ret (.str (ak k) t)),[],[],(aI (aP w.2 S) [3,3,4]).2⟩⟩:=λ t A hA=>Bh hk {pr S (aI (aP w.2 S) [3,3,4]).2 with u:=tk [t]} hA
 let q:Pr:={pr S (aI (aP w.2 S) [3,3,4]).2 with u:=tk [t1,t2,t3,t4],j:=tk [j0,j1],m:=j7 [((k+1:Nat):Int),x.p 128 3 4 5],s:=pe [ak k],c:=λ _=>S.fl.size}
 have q0:1<=q.m 0/\q.m 0<=15:=by
  show(1:Int)<=((k+1:Nat):Int)/\((k+1:Nat):Int)<=15
  omega
 let X:Gh->Str->Ch:=λ g bf=>⟨g.n 2,0,(k+1:Nat),t2,0,tk [g.n 4,g.n 5,g.n 6,g.n 8,g.n 9,g.n 11,t1,t3,g.n 7,t4,g.n 10,g.n 12],λ _=>0,md.p fJ fK ff,ak k,bf,x.p 128 3 4 5⟩
 have fin:∀g bf,∃fl Y,aP w.2 (r4 S w.2 (S.fl.push (kS w.2 (ak k) t3 (.str aa (g.n 3)))) (X g bf))=aP w.2 (r4 S w.2 fl Y)/\Y.k=(k+1:Nat)/\Y.nm=ak k/\Y.md=md.p fJ fK ff/\Y.sz=x.p 128 3 4 5/\aR w.2 (r4 S w.2 fl Y) (c++[Y]) d p r T (k+1) f1 f2:=λ g bf=>
  ⟨_,_,rfl,rfl,rfl,rfl,rfl,vD h hk _ _ _ rfl rfl cl⟩
 cases md
 ·have hz:=lB.sat w G q (λ _ _=>True) q0 λ b t=>⟨d1 _,iw _ _ _,λ g0 _=>⟨ck _ _ λ _=>trivial,λ g1 _=>⟨n3 _ _,d3 _ _,λ _ _=>trivial⟩⟩⟩
  exact ai.fold hz ((lB.D w.2 q dh).i.drop 2) 0 [] rfl (show 13<=40 by decide) rfl (by rw[L4];exact ac [3,3,4] (aP w.2 S)) λ g _=>⟨rfl,rfl,{g with l:=aP w.2 (r4 S w.2 (S.fl.push (kS w.2 (ak k) t3 (.str aa (g.n 3)))) (X g aa))},fin g _,rfl,rfl,rfl,rfl,rfl,rfl,ac [3,3,4] (aP w.2 (r4 S w.2 (S.fl.push (kS w.2 (ak k) t3 (.str aa (g.n 3)))) (X g aa)))⟩
 ·have hz:=lC.sat w G q (λ _ _=>True) q0 λ b t=>⟨d1 _,iw _ _ _,λ g0 _=>⟨ck _ _ λ _=>trivial,λ g1 _=>⟨n1 _,n3 _ _,n0 _ _ _,d3 _ _,λ _ _=>trivial⟩⟩⟩
  exact ai.fold hz ((lC.D w.2 q dh).i.drop 2) 0 [] rfl (show 13<=40 by decide) rfl (by rw[L4];exact ac [3,3,4] (aP w.2 S)) λ g _=>⟨rfl,rfl,{g with l:=aP w.2 (r4 S w.2 (S.fl.push (kS w.2 (ak k) t3 (.str aa (g.n 3)))) (X g aa))},fin g _,rfl,rfl,rfl,rfl,rfl,rfl,ac [3,3,4] (aP w.2 (r4 S w.2 (S.fl.push (kS w.2 (ak k) t3 (.str aa (g.n 3)))) (X g aa)))⟩
 ·have hz:=lD.sat w G q x (λ _ _=>True) q0 λ b t=>⟨d1 _,iw _ _ _,λ g0 _=>⟨ck _ _ λ _=>trivial,λ g1 _=>⟨n1 _,n3 _ _,d3 _ _,λ _ _=>trivial⟩⟩⟩
  exact ai.fold hz ((lD.D w.2 q x dh).i.drop 2) 0 [] rfl (show 13<=40 by decide) rfl (by rw[L4];exact ac [3,3,4] (aP w.2 S)) λ g _=>⟨rfl,rfl,{g with l:=aP w.2 (r4 S w.2 (S.fl.push (kS w.2 (ak k) t3 (.str aa (g.n 3)))) (X g ⟨⟨x.p (List.replicate 128 0) [0,0,0] [0,0,0,0] [0,0,0,0,0]⟩⟩))},fin g _,rfl,rfl,rfl,rfl,rfl,rfl,ac [3,3,4] (aP w.2 (r4 S w.2 (S.fl.push (kS w.2 (ak k) t3 (.str aa (g.n 3)))) (X g ⟨⟨x.p (List.replicate 128 0) [0,0,0] [0,0,0,0] [0,0,0,0,0]⟩⟩)))⟩
end
theorem bB{P:Params}{S:St}(ix:List Nat){C D:HL}(ht:S.tail.Perm (C++D)):(aP P S).Perm (((aI (bj P S) ix).1++C)++((aI (bj P S) ix).2++D)):=by
 refine((ac ix (bj P S)).append ht).trans ?_
 rw[L9,L9]
 exact dQ _ (ao _ _ _)
theorem f0{α β:Type}(f:α->β):∀(l:List α) (i:Nat),(l.map f).eraseIdx i=(l.eraseIdx i).map f
 |[],_=>rfl
 |_::_,0=>rfl
 |a::l,i+1=>congrArg (f a:: ·) (f0 f l i)
def i0(m:Int)(c:List Ch):List Ch:=c.filter λ x=> !decide (x.k=m)
theorem le{m:Int}{c:List Ch}(h:∀x∈c,x.k≠m):i0 m c=c:=List.filter_eq_self.mpr λ x hx=>by simp[h x hx]
theorem pY:∀{c:List Ch} {i:Nat} {x:Ch},c[i]? =some x->(c.map (·.k)).Nodup->i0 x.k c=c.eraseIdx i
 |[],_,_,h,_=>by simp at h
 |y::c,0,x,h,nd=>by
  have h:some y=some x:=by simpa using h
  injection h with h
  subst h
  have nd:=po.mp nd
  have e:=le (m:=y.k) (c:=c) λ z hz e=>nd.1 (bZ.mpr ⟨z,hz,e⟩)
  unfold i0 at e ⊢
  rw[List.filter_cons_of_neg (by simp),e]
  rfl
 |y::c,i+1,x,h,nd=>by
  have h:c[i]? =some x:=by simpa using h
  have nd:=po.mp nd
  have ne:y.k≠x.k:=λ e=>nd.1 (bZ.mpr ⟨x,sH h,e.symm⟩)
  have e:=pY h nd.2
  unfold i0 at e ⊢
  rw[List.filter_cons_of_pos (by simp[ne]),e]
  rfl
theorem q8{m:Int}{c:List Ch}{x:Ch}(h:x∈i0 m c):x∈c:=(List.mem_filter.mp h).1
theorem r5{P:Params}{S:St}{c d:List Ch}{p r:List Pa}{T:HL}{k:Nat}{f1 f2:Str}(h:aR P S c d p r T k f1 f2){i:Nat}{x:Ch}(hi:c[i]? =some x)(n:Nat):
  ∃T',aR P {S with op:=S.op.eraseIdxIfInBounds (i+1),opn:=n} (i0 x.k c) d p r (T'++T) k f1 f2:=by
 have e:=pY hi h.cn
 have il:=(List.getElem?_eq_some_iff.mp hi).1
 refine⟨[(x.wa+822,cH P x)],?_,h.bo,h.fi,h.fin,h.bp,?_,h.pl,h.rl,?_,h.dl,λ y hy=>h.ck y (q8 hy),?_,h.dk,h.dn,h.nm,h.fl⟩
 ·show S.op.eraseIdxIfInBounds (i+1)=_
  rw[h.op,e]
  apply Array.ext'
  rw[Array.eraseIdxIfInBounds]
  have:i+1<((⟨cU S.a S.u::c.map am⟩:Array DictEntry)).size:=by
   show i+1<(_::c.map am).length
   rw[L6,kx];omega
  rw[dif_pos this,Array.toList_eraseIdx]
  show(cU S.a S.u::c.map am).eraseIdx (i+1)=cU S.a S.u::(c.eraseIdx i).map am
  rw[List.eraseIdx_cons_succ,f0]
 ·show S.tail.Perm _
  refine h.tl.trans ?_
  rw[e]
  have q:(lJ P c).Perm ((x.wa+822,cH P x)::lJ P (c.eraseIdx i)):=by
   have:=j8 hi
   exact this.map (λ x:Ch=>(x.wa+822,cH P x))
  refine(q.append_right _).trans ?_
  have e5:∀(o:Nat×Obj) (A B C D T:HL),(o::A++(B++(C++(D++T)))).Perm (A++(B++(C++(D++o::T)))):=λ o A B C D T=>by
   have:= @List.perm_middle _ o (A++(B++(C++D))) T
   simp only[L9] at this
   exact this.symm
  exact e5 _ _ _ _ _ _
 ·have:(i0 x.k c).length<=c.length:=List.length_filter_le ..
  have:=h.cl
  omega
 ·exact(List.Sublist.map _ List.filter_sublist).nodup h.cn
theorem ii{P:Params}(s:Str)(l:List DictEntry)(n t:Nat)(v:Value)(h1:l.length<=1000)(h2:bQ l=true)(h3:cE s l 0=some n)(h4:∃e,l[n]? =some e/\e.val=v):DX (C0 P).set1 0 (.str s t) [] ⟨l⟩ (some n) (ae (C0 P).set1 s) v:=by
 obtain⟨e,h5,h6⟩:=h4
 exact yF h1 h2 h3 (h6▸dv h5)
theorem cT{w:World}{G:Shared}{S S':St}{m:Int}{t j0 j1:Nat}{A:Gh->Prop}{I:List (Nat×Nat×Obj)}{F:List Obj}{L:HL}
  (hz:ai w G ⟨au 196 [rA (S.a 0),.int m t],4,I,L,λ _=>True,λ g=>⟨.ok (.ret .none),F,[],L⟩⟩)
  (hA:∀g:Gh,A {g with l:=aP w.2 S'})(h1:I=[(j0,S.a 0+822,oW S.a),(j1,S.a 1+822,bm w.2 S.a S.u)]++I.drop 2)(h2:F.length=I.length)(h3:F.take 2=[oW S.a,bm w.2 S.a S.u])(h4:(F.drop 2).all (λ o=> !bd o)=true)
  (e1:(aP w.2 S).Perm (aN (I.drop 2)++L))(e2:(aP w.2 S').Perm (List.zip (aZ (I.drop 2)) (F.drop 2)++L)):
  ai w G ⟨au 196 [rA (S.a 0),.int m t],40,[(j0,S.a 0+822,oW S.a),(j1,S.a 1+822,bm w.2 S.a S.u)],aP w.2 S,A,λ g=>⟨.ok (.ret .none),[oW S.a,bm w.2 S.a S.u],[],g.l⟩⟩:=
 ai.fold hz (I.drop 2) 0 [] rfl (show 4<=40 by decide) h1 (by rw[L4];exact e1) λ g _=>⟨h2,h4,{g with l:=aP w.2 S'},hA g,rfl,rfl,rfl,rfl,h3.symm,rfl,e2.trans (.of_eq (congrArg _ (L4 _).symm))⟩
inductive El(P:Params)(S:St)(c d:List Ch)(p r:List Pa)(T:HL)(k:Nat)(f1 f2:Str)(l:HL):Prop
 |mk (op n T':_) (h1:l=aP P {S with op:=op,opn:=n}) (h2:aR P {S with op:=op,opn:=n} c d p r (T'++T) k f1 f2)
theorem vE{w:World}{G:Shared}{S:St}{c d:List Ch}{p r:List Pa}{T:HL}{k:Nat}{f1 f2:Str}(h:aR w.2 S c d p r T k f1 f2)(hk:k<=5)(m:Int)(h9:m≠9)(t j0 j1:Nat):
  ai w G ⟨au 196 [rA (S.a 0),.int m t],40,[(j0,S.a 0+822,oW S.a),(j1,S.a 1+822,bm w.2 S.a S.u)],aP w.2 S,
   λ g=>El w.2 S (i0 m c) d p r T k f1 f2 g.l,
   λ g=>⟨.ok (.ret .none),[oW S.a,bm w.2 S.a S.u],[],g.l⟩⟩:=by
 obtain⟨S1,rfl⟩:=St.e_fi (show S.fi=⟨bU (ah w.2) p⟩ from h.fi)
 obtain⟨S2,rfl⟩:=St.e_fin (show S1.fin=p.length from h.fin)
 have sz:S2.op.size<=1000:=iX (S:=(S2.s_fin p.length).s_fi ⟨bU (ah w.2) p⟩) h
 let D:HL:=lJ w.2 c++(jW d++(nE r++T))
 have ht:S2.tail.Perm (jv p++D):=by
  refine h.tl.trans ?_
  show(lJ w.2 c++(jW d++(jv p++(nE r++T)))).Perm (jv p++(lJ w.2 c++(jW d++(nE r++T))))
  refine(dQ _ (ao _ _ _)).trans (ao _ _ _)
 have hp:=h.pl
 by_cases hm:∃(i:Nat) (x:Ch),c[i]? =some x/\x.k=m
 ·obtain⟨i,x,hi,rfl⟩:=hm
  have dk:=vB h (by omega) hi
  have da:∀t,DX (C0 w.2).set1 1 (.int x.k t) [] S2.op (some (i+1)) (hashInt x.k) (.bool true):=λ t=>⟨sz,(dk t).1,Eh (dk t).2⟩
  have db:∀t,DX (C0 w.2).set1 4 (.int x.k t) [] S2.op (some (i+1)) (hashInt x.k) (rA x.wa):=λ t=>⟨sz,(dk t).1,Ei (dk t).2⟩
  obtain⟨T',hT⟩:=r5 h hi (S2.opn+1)
  clear h dk sz
  rcases p with _ |⟨a0,_ |⟨a1,_ |⟨a2,_ |⟨z9,p⟩⟩⟩⟩
  ·let S:St:=(S2.s_fin 0).s_fi ⟨bU (ah w.2) []⟩
   let L:HL:=(aI (bj w.2 S) [4,4]).2++D
   let q:Pr:={pr S L with u:=tk [t],j:=tk [j0,j1],m:=j7 [x.k],c:=λ n=>if n=0 then i+1 else x.wa,p:=(pr S L).p}
   have hz:=mx.sat w G q h9 λ b t=>⟨da _,db _,λ _ _=>λ _ _=>trivial⟩
   exact cT (S:=S) (S':={S with op:=S2.op.eraseIdxIfInBounds (i+1),opn:=S2.opn+1}) hz (λ g=>⟨_,_,T',rfl,hT⟩) rfl rfl rfl rfl (bB [4,4] ht) (bB (S:={S with op:=S2.op.eraseIdxIfInBounds (i+1),opn:=S2.opn+1}) [4,4] ht)
  ·let S:St:=(S2.s_fin 1).s_fi ⟨bU (ah w.2) [a0]⟩
   let L:HL:=(aI (bj w.2 S) [4,4]).2++D
   let q:Pr:={pr S L with u:=tk [t],j:=tk [j0,j1],m:=j7 [x.k],c:=λ n=>if n=0 then i+1 else x.wa,p:=λ n=>[a0].getD n a0}
   have hz:=mA.sat w G q h9 λ b t=>⟨da _,db _,λ _ _=>λ _ _=>⟨ii ad _ _ _ _ (L3 rfl) rfl rfl ⟨_,rfl,rfl⟩,λ _ _=>trivial⟩⟩
   exact cT (S:=S) (S':={S with op:=S2.op.eraseIdxIfInBounds (i+1),opn:=S2.opn+1}) hz (λ g=>⟨_,_,T',rfl,hT⟩) rfl rfl rfl rfl (bB [4,4] ht) (bB (S:={S with op:=S2.op.eraseIdxIfInBounds (i+1),opn:=S2.opn+1}) [4,4] ht)
  ·let S:St:=(S2.s_fin 2).s_fi ⟨bU (ah w.2) [a0,a1]⟩
   let L:HL:=(aI (bj w.2 S) [4,4]).2++D
   let q:Pr:={pr S L with u:=tk [t],j:=tk [j0,j1],m:=j7 [x.k],c:=λ n=>if n=0 then i+1 else x.wa,p:=λ n=>[a0,a1].getD n a0}
   have hz:=mD.sat w G q h9 λ b t=>⟨da _,db _,λ _ _=>λ _ _=>λ _ _=>⟨ii ad _ _ _ _ (L3 rfl) rfl rfl ⟨_,rfl,rfl⟩,ii av _ _ _ _ (L3 rfl) rfl rfl ⟨_,rfl,rfl⟩,λ _ _=>trivial⟩⟩
   exact cT (S:=S) (S':={S with op:=S2.op.eraseIdxIfInBounds (i+1),opn:=S2.opn+1}) hz (λ g=>⟨_,_,T',rfl,hT⟩) rfl rfl rfl rfl (bB [4,4] ht) (bB (S:={S with op:=S2.op.eraseIdxIfInBounds (i+1),opn:=S2.opn+1}) [4,4] ht)
  ·let S:St:=(S2.s_fin 3).s_fi ⟨bU (ah w.2) [a0,a1,a2]⟩
   let L:HL:=(aI (bj w.2 S) [4,4]).2++D
   let q:Pr:={pr S L with u:=tk [t],j:=tk [j0,j1],m:=j7 [x.k],c:=λ n=>if n=0 then i+1 else x.wa,p:=λ n=>[a0,a1,a2].getD n a0}
   have hz:=mF.sat w G q h9 λ b t=>⟨da _,db _,λ _ _=>λ _ _=>λ _ _=>λ _ _=>⟨ii ad _ _ _ _ (L3 rfl) rfl rfl ⟨_,rfl,rfl⟩,ii av _ _ _ _ (L3 rfl) rfl rfl ⟨_,rfl,rfl⟩,ii bb _ _ _ _ (L3 rfl) rfl rfl ⟨_,rfl,rfl⟩,λ _ _=>trivial⟩⟩
   exact cT (S:=S) (S':={S with op:=S2.op.eraseIdxIfInBounds (i+1),opn:=S2.opn+1}) hz (λ g=>⟨_,_,T',rfl,hT⟩) rfl rfl rfl rfl (bB [4,4] ht) (bB (S:={S with op:=S2.op.eraseIdxIfInBounds (i+1),opn:=S2.opn+1}) [4,4] ht)
  ·exact absurd hp (by simp)
 ·have nk:∀y∈c,y.k≠m:=λ y hy e=>by
   obtain⟨i,hi⟩:=List.mem_iff_getElem?.mp hy
   exact hm ⟨i,y,hi,e⟩
  have ec:=le nk
  have kn:=vC h h9 nk
  have da:∀t,DX (C0 w.2).set1 1 (.int m t) [] S2.op none (hashInt m) (.bool false):=λ t=>⟨sz,kn t,rfl⟩
  clear sz kn nk hm
  rcases p with _ |⟨a0,_ |⟨a1,_ |⟨a2,_ |⟨z9,p⟩⟩⟩⟩
  ·let S:St:=(S2.s_fin 0).s_fi ⟨bU (ah w.2) []⟩
   let L:HL:=(aI (bj w.2 S) [4,4]).2++D
   let q:Pr:={pr S L with u:=tk [t],j:=tk [j0,j1],m:=j7 [m],c:=λ _=>0,p:=(pr S L).p}
   have hz:=mw.sat w G q h9 λ b t=>⟨da _,λ _ _=>λ _ _=>trivial⟩
   exact cT (S:=S) (S':=S) hz (λ g=>⟨S2.op,S2.opn,[],rfl,by rw[ec];exact h⟩) rfl rfl rfl rfl (bB [4,4] ht) (bB (S:=S) [4,4] ht)
  ·let S:St:=(S2.s_fin 1).s_fi ⟨bU (ah w.2) [a0]⟩
   let L:HL:=(aI (bj w.2 S) [4,4]).2++D
   let q:Pr:={pr S L with u:=tk [t],j:=tk [j0,j1],m:=j7 [m],c:=λ _=>0,p:=λ n=>[a0].getD n a0}
   have hz:=mz.sat w G q h9 λ b t=>⟨da _,λ _ _=>λ _ _=>⟨ii ad _ _ _ _ (L3 rfl) rfl rfl ⟨_,rfl,rfl⟩,λ _ _=>trivial⟩⟩
   exact cT (S:=S) (S':=S) hz (λ g=>⟨S2.op,S2.opn,[],rfl,by rw[ec];exact h⟩) rfl rfl rfl rfl (bB [4,4] ht) (bB (S:=S) [4,4] ht)
  ·let S:St:=(S2.s_fin 2).s_fi ⟨bU (ah w.2) [a0,a1]⟩
   let L:HL:=(aI (bj w.2 S) [4,4]).2++D
   let q:Pr:={pr S L with u:=tk [t],j:=tk [j0,j1],m:=j7 [m],c:=λ _=>0,p:=λ n=>[a0,a1].getD n a0}
   have hz:=mC.sat w G q h9 λ b t=>⟨da _,λ _ _=>λ _ _=>λ _ _=>⟨ii ad _ _ _ _ (L3 rfl) rfl rfl ⟨_,rfl,rfl⟩,ii av _ _ _ _ (L3 rfl) rfl rfl ⟨_,rfl,rfl⟩,λ _ _=>trivial⟩⟩
   exact cT (S:=S) (S':=S) hz (λ g=>⟨S2.op,S2.opn,[],rfl,by rw[ec];exact h⟩) rfl rfl rfl rfl (bB [4,4] ht) (bB (S:=S) [4,4] ht)
  ·let S:St:=(S2.s_fin 3).s_fi ⟨bU (ah w.2) [a0,a1,a2]⟩
   let L:HL:=(aI (bj w.2 S) [4,4]).2++D
   let q:Pr:={pr S L with u:=tk [t],j:=tk [j0,j1],m:=j7 [m],c:=λ _=>0,p:=λ n=>[a0,a1,a2].getD n a0}
   have hz:=mE.sat w G q h9 λ b t=>⟨da _,λ _ _=>λ _ _=>λ _ _=>λ _ _=>⟨ii ad _ _ _ _ (L3 rfl) rfl rfl ⟨_,rfl,rfl⟩,ii av _ _ _ _ (L3 rfl) rfl rfl ⟨_,rfl,rfl⟩,ii bb _ _ _ _ (L3 rfl) rfl rfl ⟨_,rfl,rfl⟩,λ _ _=>trivial⟩⟩
   exact cT (S:=S) (S':=S) hz (λ g=>⟨S2.op,S2.opn,[],rfl,by rw[ec];exact h⟩) rfl rfl rfl rfl (bB [4,4] ht) (bB (S:=S) [4,4] ht)
  ·exact absurd hp (by simp)
section
local macro_rules |`(tactic|omega)=>`(tactic|first |lia |omega (config:={}))
def setP:Nat->Pa->List Pa->List Pa
 |0,x,[]=>[x]
 |0,x,a::p=>{x with kt:=a.kt}::p
 |i+1,x,a::p=>a::setP i x p
 |_+1,_,[]=>[]
def r6:Nat->List Pa->HL
 |i,p=>match p[i]? with
  |some a=>[(a.wa+822,dE a)]
  |none=>[]
noncomputable def aT(i:Nat)(p:List Pa):Option Nat:=if i<p.length then some i else none
theorem jw:∀(i:Nat) (x:Pa) (p:List Pa),i<=p.length->((x.wa+822,dE x)::jv p).Perm (jv (setP i x p)++r6 i p)
 |0,x,[],_=>L2 _
 |0,x,a::p,_=>by
  show((x.wa+822,dE x)::(a.wa+822,dE a)::jv p).Perm ((x.wa+822,dE x)::(jv p++[(a.wa+822,dE a)]))
  exact List.Perm.cons _ (List.perm_append_singleton _ _).symm
 |i+1,x,[],h=>absurd h (by simp)
 |i+1,x,a::p,h=>by
  have q:=jw i x p (by simpa using h)
  have e:r6 (i+1) (a::p)=r6 i p:=rfl
  rw[e]
  show((x.wa+822,dE x)::(a.wa+822,dE a)::jv p).Perm ((a.wa+822,dE a)::(jv (setP i x p)++r6 i p))
  exact(List.Perm.swap _ _ _).trans (q.cons _)
def yI(i:Nat):Str:=[ad,av,bb].getD i aa
theorem lf(f:DictEntry->DictEntry)(l:List DictEntry)(i:Nat):(⟨l⟩:Array DictEntry).modify i f=⟨l.modify i f⟩:=by
 apply Array.ext'
 rw[Array.toList_modify]
theorem pk{C:Nat->List Pa->Prop}(h0:C 0 [])(h1:∀a,C 0 [a]/\C 1 [a])(h2:∀a b,C 0 [a,b]/\C 1 [a,b]/\C 2 [a,b])(h3:∀a b c,C 0 [a,b,c]/\C 1 [a,b,c]/\C 2 [a,b,c]){i:Nat}{p:List Pa}(hi:i<=p.length)(hp:p.length<=3)(h:i<3):C i p:=by
 rcases p with _ |⟨a,_ |⟨b,_ |⟨c,_ |⟨d,l⟩⟩⟩⟩
 ·exact Nat.le_zero.mp hi▸h0
 ·exact C1 (C:=λ i=>C i [a]) hi (h1 a).1 (h1 a).2
 ·exact Cg (C:=λ i=>C i [a,b]) hi (h2 a b).1 (h2 a b).2.1 (h2 a b).2.2
 ·exact Cg (C:=λ i=>C i [a,b,c]) (Nat.le_of_lt_succ h) (h3 a b c).1 (h3 a b c).2.1 (h3 a b c).2.2
 ·exact absurd (Nat.le_of_succ_le_succ (Nat.le_of_succ_le_succ (Nat.le_of_succ_le_succ hp))) (Nat.not_succ_le_zero _)
inductive Em(P:Params)(x:Pa)(i:Nat)(p:List Pa):Prop
 |mk (h:DX (C0 P).set1 3 (.str (yI i) x.kt) [rA x.wa] ⟨bU (ah P) p⟩ (aT i p) (ae (C0 P).set1 (yI i)) .none) (h1:aK (aT i p) (ae (C0 P).set1 (yI i)) (.str (yI i) x.kt) (rA x.wa) ⟨bU (ah P) p⟩=⟨bU (ah P) (setP i x p)⟩) (h2:be (aT i p) p.length=(setP i x p).length) (h3:(setP i x p).length<=3) (h4:i+1<=(setP i x p).length)
theorem dH(P:Params)(i:Nat)(p:List Pa)(hi:i<=p.length)(hp:p.length<=3)(h3:i<3)(x:Pa)(t:Nat)(ht:x.kt=t):
  DX (C0 P).set1 3 (.str (yI i) t) [rA x.wa] ⟨bU (ah P) p⟩ (aT i p) (ae (C0 P).set1 (yI i)) .none/\
  aK (aT i p) (ae (C0 P).set1 (yI i)) (.str (yI i) t) (rA x.wa) ⟨bU (ah P) p⟩=⟨bU (ah P) (setP i x p)⟩/\be (aT i p) p.length=(setP i x p).length/\(setP i x p).length<=3/\i+1<=(setP i x p).length:=by
 subst ht
 obtain⟨a,b,c,d,e⟩:=pk (C:=Em P x) ⟨jS rfl rfl rfl rfl,rfl,rfl,L3 rfl,L3 rfl⟩
  (λ a=>⟨⟨jS rfl rfl rfl rfl,lf _ _ _,rfl,L3 rfl,L3 rfl⟩,⟨jS rfl rfl rfl rfl,rfl,rfl,L3 rfl,L3 rfl⟩⟩)
  (λ a b=>⟨⟨jS rfl rfl rfl rfl,lf _ _ _,rfl,L3 rfl,L3 rfl⟩,⟨jS rfl rfl rfl rfl,lf _ _ _,rfl,L3 rfl,L3 rfl⟩,⟨jS rfl rfl rfl rfl,rfl,rfl,L3 rfl,L3 rfl⟩⟩)
  (λ a b c=>⟨⟨jS rfl rfl rfl rfl,lf _ _ _,rfl,L3 rfl,L3 rfl⟩,⟨jS rfl rfl rfl rfl,lf _ _ _,rfl,L3 rfl,L3 rfl⟩,⟨jS rfl rfl rfl rfl,lf _ _ _,rfl,L3 rfl,L3 rfl⟩⟩) hi hp h3
 exact⟨a,b,c,d,e⟩
theorem fG{P:Params}{S:St}{c d:List Ch}{p r:List Pa}{T:HL}{k:Nat}{f1 f2:Str}(h:aR P S c d p r T k f1 f2)(i:Nat)(x:Pa)(hi:i<=p.length)(h3:(setP i x p).length<=3):
  aR P {S with fi:=⟨bU (ah P) (setP i x p)⟩,fin:=(setP i x p).length,tail:=S.tail++[(x.wa+822,dE x)]} c d (setP i x p) r (r6 i p++T) k f1 f2:=by
 refine⟨h.op,h.bo,rfl,rfl,h.bp,?_,h3,h.rl,h.cl,h.dl,h.ck,h.cn,h.dk,h.dn,h.nm,h.fl⟩
 show(S.tail++_).Perm _
 refine(h.tl.append_right _).trans ?_
 have q:=jw i x p hi
 have e:∀(C D W R T:HL) (o:Nat×Obj),((C++(D++(W++(R++T))))++[o]).Perm (C++(D++((o::W)++(R++T)))):=λ C D W R T o=>by
  refine(List.perm_append_singleton _ _).trans ?_
  have:= @List.perm_middle _ o (C++D) (W++(R++T))
  simp only[L9] at this
  exact this.symm
 refine(e _ _ _ _ _ _).trans (dQ _ (dQ _ ?_))
 refine(q.append_right _).trans ?_
 rw[L9]
 exact dQ _ (ao _ _ _)
def setF{α:Type}:List α->List α->List α
 |[],l=>l
 |a::r,[]=>a::setF r []
 |a::r,_::l=>a::setF r l
theorem pZ{P:Params}{S:St}{c d:List Ch}{p r:List Pa}{A B T:HL}{k:Nat}{f1 f2:Str}(h:aR P S c d p r (A++(B++T)) k f1 f2):aR P S c d p r ((A++B)++T) k f1 f2:=by rw[L9];exact h
theorem lg:∀(i:Nat) (x:Pa) (p:List Pa),i<=p.length->(setP i x p).length=max (i+1) p.length
 |0,x,[],_=>rfl
 |0,x,a::p,_=>by show p.length+1=max 1 (p.length+1);omega
 |i+1,x,[],h=>absurd h (by simp)
 |i+1,x,a::p,h=>by
  have:=lg i x p (by simpa using h)
  show(setP i x p).length+1=max (i+2) (p.length+1)
  omega
theorem fh(i j:Nat)(x:Pa)(p:List Pa)(hj:i<j)(h:i<=p.length):aT j (setP i x p)=aT j p:=by
 unfold aT
 rw[lg i x p h]
 by_cases z:j<p.length
 ·rw[if_pos z,if_pos (by omega)]
 ·rw[if_neg z,if_neg (by omega)]
abbrev Av(P:Params)(nm:Str)(kt:Nat)(x:Pa)(e:Array DictEntry)(n:Nat)(pl:Option Nat)(q:List Pa)(i:Nat):Prop:=DX (C0 P).set1 3 (.str nm kt) [rA x.wa] e pl (ae (C0 P).set1 nm) .none/\(aK pl (ae (C0 P).set1 nm) (.str nm kt) (rA x.wa) e=⟨bU (ah P) q⟩/\be pl n=q.length)/\q.length<=3/\i<=q.length
inductive C3(P:Params)(S:St)(c d:List Ch)(r:List Pa)(T:HL)(k:Nat)(f1 f2:Str)(q:List (Int×Int))(l:HL):Prop
 |mk (p' T' tl:_) (h1:l=aP P {S with fi:=⟨bU (ah P) p'⟩,fin:=p'.length,tail:=tl}) (h2:p'.map (λ x=>(x.at_,x.many))=q) (h3:aR P {S with fi:=⟨bU (ah P) p'⟩,fin:=p'.length,tail:=tl} c d p' r (T'++T) k f1 f2)
theorem r7{w:World}{G:Shared}{S:St}{c d:List Ch}{p r:List Pa}{T:HL}{k:Nat}{f1 f2:Str}(h:aR w.2 S c d p r T k f1 f2)(hb:S.buf.cps.size=6)(m0:Int)(q0:0<=m0/\m0<=2)(a a0 t9 t0 k0 j0 j1 j2 j3:Nat):
  ai w G ⟨au 208 [rA (S.a 0),.int 9 t9,rA a],40,[(j0,a+822,lO 1 [rA a0]),(j1,a0+822,tO [.int m0 t0,.str ad k0]),(j2,S.a 0+822,oW S.a),(j3,S.a 1+822,bm w.2 S.a S.u)],aP w.2 S,
   λ g=>C3 w.2 S c d r T k f1 f2 (setF [(0,m0)] (p.map λ x=>(x.at_,x.many))) g.l,
   λ g=>⟨.ok (.ret .none),[lO 1 [rA a0],tO [.int m0 t0,.str ad k0],oW S.a,bm w.2 S.a S.u],[],g.l⟩⟩:=by
 obtain⟨b0,b1,b2,b3,b4,b5,eb⟩:=dC hb
 have d9:=gz h
 obtain⟨S1,rfl⟩:=St.e_buf eb
 obtain⟨S2,rfl⟩:=St.e_fi (show S1.fi=⟨bU (ah w.2) p⟩ from h.fi)
 obtain⟨S3,rfl⟩:=St.e_fin (show S2.fin=p.length from h.fin)
 let S:St:=((S3.s_fin p.length).s_fi ⟨bU (ah w.2) p⟩).s_buf (s6 b0 b1 b2 b3 b4 b5)
 let q:Pr:={pr S (aI (aP w.2 S) [4,5,4]).2 with a:=tk [a,a0],u:=tk [t9,t0,k0],j:=tk [j0,j1,j2,j3],m:=j7 [m0],c:=tk [b0,b1,b2,b3,b4,b5],r:=λ i=>aT i p}
 have hp:p.length<=3:=h.pl
 have F0:∀(x0:Pa) (e0:x0.kt=k0),Av w.2 ad k0 x0 ⟨bU (ah w.2) p⟩ p.length (aT 0 p) (setP 0 x0 p) 1:=λ x0 e0=>by
  have z:=dH w.2 0 p (Nat.zero_le _) hp (by decide) x0 k0 e0
  exact⟨z.1,⟨z.2.1,z.2.2.1⟩,z.2.2.2⟩
 have hz:=lx.sat w G q q0 λ b t=>⟨(d9 t9).1,(d9 t9).2,λ _ _ _ _=>⟨(F0 ⟨_,0,k0,0,λ _=>0,λ _=>0,0,0⟩ rfl).1,λ _ _=>trivial⟩⟩
 let X:Gh->Nat->Pa:=λ g i=>[⟨g.n 2,0,k0,0,tk [t9,g.n 3,t0],λ _=>0,0,m0⟩].getD i ⟨0,0,0,0,λ _=>0,λ _=>0,0,0⟩
 let p':Gh->List Pa:=λ g=>(setP 0 (X g 0) p)
 let tl:Gh->HL:=λ g=>(S.tail++[((X g 0).wa+822,dE (X g 0))])
 let S':Gh->St:=λ g=>{S with fi:=aK (aT 0 p) (ae (C0 w.2).set1 ad) (.str ad k0) (rA (X g 0).wa) ⟨bU (ah w.2) p⟩,fin:=be (aT 0 p) p.length,tail:=tl g}
 have eS:∀g,S' g={S with fi:=⟨bU (ah w.2) (p' g)⟩,fin:=(p' g).length,tail:=tl g}:=λ g=>by
  have f:=(F0 (X g 0) rfl).2.1
  show St.mk _ _ _ _ _ _ _ _ _ _ _ _ _ _ _ _ _ _ _ _ _ _ _ _ _ _ _ _=St.mk _ _ _ _ _ _ _ _ _ _ _ _ _ _ _ _ _ _ _ _ _ _ _ _ _ _ _ _
  rw[f.1,f.2]
 have inv:∀g,∃T',aR w.2 {S with fi:=⟨bU (ah w.2) (p' g)⟩,fin:=(p' g).length,tail:=tl g} c d (p' g) r (T'++T) k f1 f2:=λ g=>⟨_,fG h 0 (X g 0) (Nat.zero_le _) (F0 (X g 0) rfl).2.2.1⟩
 have dat:∀g,(p' g).map (λ x=>(x.at_,x.many))=setF [(0,m0)] (p.map λ x=>(x.at_,x.many)):=λ g=>by
  have z:∀l:List Pa,(setP 0 (X g 0) l).map (λ x=>(x.at_,x.many))=setF [(0,m0)] (l.map λ x=>(x.at_,x.many)):=λ l=>match l with
   |[]=>rfl
   |[_]=>rfl
   |[_,_]=>rfl
   |_::_::_::_=>rfl
  exact z p
 refine ai.fold hz ((lx.D w.2 q).i.drop 4) 0 [] rfl (show 2<=40 by decide) rfl (by rw[L4];exact ac [4,5,4] (aP w.2 S)) λ g _=>⟨rfl,rfl,{g with l:=aP w.2 (S' g)},?_,rfl,rfl,rfl,rfl,rfl,rfl,?_⟩
 ·obtain⟨T',hT⟩:=inv g
  exact⟨p' g,T',tl g,congrArg (aP w.2) (eS g),dat g,hT⟩
 ·exact(ac [4,5,4] (aP w.2 (S' g))).trans (.of_eq (by rfl))
theorem r8{w:World}{G:Shared}{S:St}{c d:List Ch}{p r:List Pa}{T:HL}{k:Nat}{f1 f2:Str}(h:aR w.2 S c d p r T k f1 f2)(hb:S.buf.cps.size=6)(m0 m1:Int)(q0:0<=m0/\m0<=2)(q1:0<=m1/\m1<=2)(a a0 a1 t9 t0 t1 k0 k1 j0 j1 j2 j3 j4:Nat):
  ai w G ⟨au 208 [rA (S.a 0),.int 9 t9,rA a],40,[(j0,a+822,lO 2 [rA a0,rA a1]),(j1,a0+822,tO [.int m0 t0,.str ad k0]),(j2,a1+822,tO [.int m1 t1,.str av k1]),(j3,S.a 0+822,oW S.a),(j4,S.a 1+822,bm w.2 S.a S.u)],aP w.2 S,
   λ g=>C3 w.2 S c d r T k f1 f2 (setF [(0,m0),(0+m0,m1)] (p.map λ x=>(x.at_,x.many))) g.l,
   λ g=>⟨.ok (.ret .none),[lO 2 [rA a0,rA a1],tO [.int m0 t0,.str ad k0],tO [.int m1 t1,.str av k1],oW S.a,bm w.2 S.a S.u],[],g.l⟩⟩:=by
 obtain⟨b0,b1,b2,b3,b4,b5,eb⟩:=dC hb
 have d9:=gz h
 obtain⟨S1,rfl⟩:=St.e_buf eb
 obtain⟨S2,rfl⟩:=St.e_fi (show S1.fi=⟨bU (ah w.2) p⟩ from h.fi)
 obtain⟨S3,rfl⟩:=St.e_fin (show S2.fin=p.length from h.fin)
 let S:St:=((S3.s_fin p.length).s_fi ⟨bU (ah w.2) p⟩).s_buf (s6 b0 b1 b2 b3 b4 b5)
 let q:Pr:={pr S (aI (aP w.2 S) [4,5,4]).2 with a:=tk [a,a0,a1],u:=tk [t9,t0,k0,t1,k1],j:=tk [j0,j1,j2,j3,j4],m:=j7 [m0,m1],c:=tk [b0,b1,b2,b3,b4,b5],r:=λ i=>aT i p}
 have hp:p.length<=3:=h.pl
 have F0:∀(x0:Pa) (e0:x0.kt=k0),Av w.2 ad k0 x0 ⟨bU (ah w.2) p⟩ p.length (aT 0 p) (setP 0 x0 p) 1:=λ x0 e0=>by
  have z:=dH w.2 0 p (Nat.zero_le _) hp (by decide) x0 k0 e0
  exact⟨z.1,⟨z.2.1,z.2.2.1⟩,z.2.2.2⟩
 have F1:∀(x0 x1:Pa) (e0:x0.kt=k0) (e1:x1.kt=k1),Av w.2 av k1 x1 (aK (aT 0 p) (ae (C0 w.2).set1 ad) (.str ad k0) (rA x0.wa) ⟨bU (ah w.2) p⟩) (be (aT 0 p) p.length) (aT 1 p) (setP 1 x1 (setP 0 x0 p)) 2:=λ x0 x1 e0 e1=>by
  have y:=F0 x0 e0
  have z:=dH w.2 1 (setP 0 x0 p) y.2.2.2 y.2.2.1 (by decide) x1 k1 e1
  rw[fh 0 1 x0 p (by decide) (Nat.zero_le _)] at z
  rw[y.2.1.1,y.2.1.2]
  exact⟨z.1,⟨z.2.1,z.2.2.1⟩,z.2.2.2⟩
 have hz:=ly.sat w G q q0 q1 λ b t=>⟨(d9 t9).1,(d9 t9).2,λ _ _ _ _=>⟨(F0 ⟨_,0,k0,0,λ _=>0,λ _=>0,0,0⟩ rfl).1,(F1 ⟨_,0,k0,0,λ _=>0,λ _=>0,0,0⟩ ⟨_,0,k1,0,λ _=>0,λ _=>0,0,0⟩ rfl rfl).1,λ _ _=>trivial⟩⟩
 let X:Gh->Nat->Pa:=λ g i=>[⟨g.n 2,0,k0,0,tk [t9,g.n 4,t0],λ _=>0,0,m0⟩,⟨g.n 3,0,k1,0,tk [t9,g.n 5,t1],λ _=>0,0+m0,m1⟩].getD i ⟨0,0,0,0,λ _=>0,λ _=>0,0,0⟩
 let p':Gh->List Pa:=λ g=>(setP 1 (X g 1) (setP 0 (X g 0) p))
 let tl:Gh->HL:=λ g=>((S.tail++[((X g 0).wa+822,dE (X g 0))])++[((X g 1).wa+822,dE (X g 1))])
 let S':Gh->St:=λ g=>{S with fi:=aK (aT 1 p) (ae (C0 w.2).set1 av) (.str av k1) (rA (X g 1).wa) (aK (aT 0 p) (ae (C0 w.2).set1 ad) (.str ad k0) (rA (X g 0).wa) ⟨bU (ah w.2) p⟩),fin:=be (aT 1 p) (be (aT 0 p) p.length),tail:=tl g}
 have eS:∀g,S' g={S with fi:=⟨bU (ah w.2) (p' g)⟩,fin:=(p' g).length,tail:=tl g}:=λ g=>by
  have f:=(F1 (X g 0) (X g 1) rfl rfl).2.1
  show St.mk _ _ _ _ _ _ _ _ _ _ _ _ _ _ _ _ _ _ _ _ _ _ _ _ _ _ _ _=St.mk _ _ _ _ _ _ _ _ _ _ _ _ _ _ _ _ _ _ _ _ _ _ _ _ _ _ _ _
  rw[f.1,f.2]
 have inv:∀g,∃T',aR w.2 {S with fi:=⟨bU (ah w.2) (p' g)⟩,fin:=(p' g).length,tail:=tl g} c d (p' g) r (T'++T) k f1 f2:=λ g=>⟨_,pZ (fG (fG h 0 (X g 0) (Nat.zero_le _) (F0 (X g 0) rfl).2.2.1) 1 (X g 1) (F0 (X g 0) rfl).2.2.2 (F1 (X g 0) (X g 1) rfl rfl).2.2.1)⟩
 have dat:∀g,(p' g).map (λ x=>(x.at_,x.many))=setF [(0,m0),(0+m0,m1)] (p.map λ x=>(x.at_,x.many)):=λ g=>by
  have z:∀l:List Pa,(setP 1 (X g 1) (setP 0 (X g 0) l)).map (λ x=>(x.at_,x.many))=setF [(0,m0),(0+m0,m1)] (l.map λ x=>(x.at_,x.many)):=λ l=>match l with
   |[]=>rfl
   |[_]=>rfl
   |[_,_]=>rfl
   |_::_::_::_=>rfl
  exact z p
 refine ai.fold hz ((ly.D w.2 q).i.drop 5) 0 [] rfl (show 2<=40 by decide) rfl (by rw[L4];exact ac [4,5,4] (aP w.2 S)) λ g _=>⟨rfl,rfl,{g with l:=aP w.2 (S' g)},?_,rfl,rfl,rfl,rfl,rfl,rfl,?_⟩
 ·obtain⟨T',hT⟩:=inv g
  exact⟨p' g,T',tl g,congrArg (aP w.2) (eS g),dat g,hT⟩
 ·exact(ac [4,5,4] (aP w.2 (S' g))).trans (.of_eq (by simp only[S',tl,L9];rfl))
theorem r9{w:World}{G:Shared}{S:St}{c d:List Ch}{p r:List Pa}{T:HL}{k:Nat}{f1 f2:Str}(h:aR w.2 S c d p r T k f1 f2)(hb:S.buf.cps.size=6)(m0 m1 m2:Int)(q0:0<=m0/\m0<=2)(q1:0<=m1/\m1<=2)(q2:0<=m2/\m2<=2)(a a0 a1 a2 t9 t0 t1 t2 k0 k1 k2 j0 j1 j2 j3 j4 j5:Nat):
  ai w G ⟨au 208 [rA (S.a 0),.int 9 t9,rA a],40,[(j0,a+822,lO 3 [rA a0,rA a1,rA a2]),(j1,a0+822,tO [.int m0 t0,.str ad k0]),(j2,a1+822,tO [.int m1 t1,.str av k1]),(j3,a2+822,tO [.int m2 t2,.str bb k2]),(j4,S.a 0+822,oW S.a),(j5,S.a 1+822,bm w.2 S.a S.u)],aP w.2 S,
   λ g=>C3 w.2 S c d r T k f1 f2 (setF [(0,m0),(0+m0,m1),((0+m0)+m1,m2)] (p.map λ x=>(x.at_,x.many))) g.l,
   λ g=>⟨.ok (.ret .none),[lO 3 [rA a0,rA a1,rA a2],tO [.int m0 t0,.str ad k0],tO [.int m1 t1,.str av k1],tO [.int m2 t2,.str bb k2],oW S.a,bm w.2 S.a S.u],[],g.l⟩⟩:=by
 obtain⟨b0,b1,b2,b3,b4,b5,eb⟩:=dC hb
 have d9:=gz h
 obtain⟨S1,rfl⟩:=St.e_buf eb
 obtain⟨S2,rfl⟩:=St.e_fi (show S1.fi=⟨bU (ah w.2) p⟩ from h.fi)
 obtain⟨S3,rfl⟩:=St.e_fin (show S2.fin=p.length from h.fin)
 let S:St:=((S3.s_fin p.length).s_fi ⟨bU (ah w.2) p⟩).s_buf (s6 b0 b1 b2 b3 b4 b5)
 let q:Pr:={pr S (aI (aP w.2 S) [4,5,4]).2 with a:=tk [a,a0,a1,a2],u:=tk [t9,t0,k0,t1,k1,t2,k2],j:=tk [j0,j1,j2,j3,j4,j5],m:=j7 [m0,m1,m2],c:=tk [b0,b1,b2,b3,b4,b5],r:=λ i=>aT i p}
 have hp:p.length<=3:=h.pl
 have F0:∀(x0:Pa) (e0:x0.kt=k0),Av w.2 ad k0 x0 ⟨bU (ah w.2) p⟩ p.length (aT 0 p) (setP 0 x0 p) 1:=λ x0 e0=>by
  have z:=dH w.2 0 p (Nat.zero_le _) hp (by decide) x0 k0 e0
  exact⟨z.1,⟨z.2.1,z.2.2.1⟩,z.2.2.2⟩
 have F1:∀(x0 x1:Pa) (e0:x0.kt=k0) (e1:x1.kt=k1),Av w.2 av k1 x1 (aK (aT 0 p) (ae (C0 w.2).set1 ad) (.str ad k0) (rA x0.wa) ⟨bU (ah w.2) p⟩) (be (aT 0 p) p.length) (aT 1 p) (setP 1 x1 (setP 0 x0 p)) 2:=λ x0 x1 e0 e1=>by
  have y:=F0 x0 e0
  have z:=dH w.2 1 (setP 0 x0 p) y.2.2.2 y.2.2.1 (by decide) x1 k1 e1
  rw[fh 0 1 x0 p (by decide) (Nat.zero_le _)] at z
  rw[y.2.1.1,y.2.1.2]
  exact⟨z.1,⟨z.2.1,z.2.2.1⟩,z.2.2.2⟩
 have F2:∀(x0 x1 x2:Pa) (e0:x0.kt=k0) (e1:x1.kt=k1) (e2:x2.kt=k2),Av w.2 bb k2 x2 (aK (aT 1 p) (ae (C0 w.2).set1 av) (.str av k1) (rA x1.wa) (aK (aT 0 p) (ae (C0 w.2).set1 ad) (.str ad k0) (rA x0.wa) ⟨bU (ah w.2) p⟩)) (be (aT 1 p) (be (aT 0 p) p.length)) (aT 2 p) (setP 2 x2 (setP 1 x1 (setP 0 x0 p))) 3:=λ x0 x1 x2 e0 e1 e2=>by
  have y:=F1 x0 x1 e0 e1
  have z:=dH w.2 2 (setP 1 x1 (setP 0 x0 p)) y.2.2.2 y.2.2.1 (by decide) x2 k2 e2
  rw[(fh 1 2 x1 (setP 0 x0 p) (by decide) (F0 x0 e0).2.2.2).trans (fh 0 2 x0 p (by decide) (Nat.zero_le _))] at z
  rw[y.2.1.1,y.2.1.2]
  exact⟨z.1,⟨z.2.1,z.2.2.1⟩,z.2.2.2⟩
 have hz:=lA.sat w G q q0 q1 q2 λ b t=>⟨(d9 t9).1,(d9 t9).2,λ _ _ _ _=>⟨(F0 ⟨_,0,k0,0,λ _=>0,λ _=>0,0,0⟩ rfl).1,(F1 ⟨_,0,k0,0,λ _=>0,λ _=>0,0,0⟩ ⟨_,0,k1,0,λ _=>0,λ _=>0,0,0⟩ rfl rfl).1,(F2 ⟨_,0,k0,0,λ _=>0,λ _=>0,0,0⟩ ⟨_,0,k1,0,λ _=>0,λ _=>0,0,0⟩ ⟨_,0,k2,0,λ _=>0,λ _=>0,0,0⟩ rfl rfl rfl).1,λ _ _=>trivial⟩⟩
 let X:Gh->Nat->Pa:=λ g i=>[⟨g.n 2,0,k0,0,tk [t9,g.n 5,t0],λ _=>0,0,m0⟩,⟨g.n 3,0,k1,0,tk [t9,g.n 6,t1],λ _=>0,0+m0,m1⟩,⟨g.n 4,0,k2,0,tk [t9,g.n 7,t2],λ _=>0,(0+m0)+m1,m2⟩].getD i ⟨0,0,0,0,λ _=>0,λ _=>0,0,0⟩
 let p':Gh->List Pa:=λ g=>(setP 2 (X g 2) (setP 1 (X g 1) (setP 0 (X g 0) p)))
 let tl:Gh->HL:=λ g=>(((S.tail++[((X g 0).wa+822,dE (X g 0))])++[((X g 1).wa+822,dE (X g 1))])++[((X g 2).wa+822,dE (X g 2))])
 let S':Gh->St:=λ g=>{S with fi:=aK (aT 2 p) (ae (C0 w.2).set1 bb) (.str bb k2) (rA (X g 2).wa) (aK (aT 1 p) (ae (C0 w.2).set1 av) (.str av k1) (rA (X g 1).wa) (aK (aT 0 p) (ae (C0 w.2).set1 ad) (.str ad k0) (rA (X g 0).wa) ⟨bU (ah w.2) p⟩)),fin:=be (aT 2 p) (be (aT 1 p) (be (aT 0 p) p.length)),tail:=tl g}
 have eS:∀g,S' g={S with fi:=⟨bU (ah w.2) (p' g)⟩,fin:=(p' g).length,tail:=tl g}:=λ g=>by
  have f:=(F2 (X g 0) (X g 1) (X g 2) rfl rfl rfl).2.1
  show St.mk _ _ _ _ _ _ _ _ _ _ _ _ _ _ _ _ _ _ _ _ _ _ _ _ _ _ _ _=St.mk _ _ _ _ _ _ _ _ _ _ _ _ _ _ _ _ _ _ _ _ _ _ _ _ _ _ _ _
  rw[f.1,f.2]
 have inv:∀g,∃T',aR w.2 {S with fi:=⟨bU (ah w.2) (p' g)⟩,fin:=(p' g).length,tail:=tl g} c d (p' g) r (T'++T) k f1 f2:=λ g=>⟨_,pZ (pZ (fG (fG (fG h 0 (X g 0) (Nat.zero_le _) (F0 (X g 0) rfl).2.2.1) 1 (X g 1) (F0 (X g 0) rfl).2.2.2 (F1 (X g 0) (X g 1) rfl rfl).2.2.1) 2 (X g 2) (F1 (X g 0) (X g 1) rfl rfl).2.2.2 (F2 (X g 0) (X g 1) (X g 2) rfl rfl rfl).2.2.1))⟩
 have dat:∀g,(p' g).map (λ x=>(x.at_,x.many))=setF [(0,m0),(0+m0,m1),((0+m0)+m1,m2)] (p.map λ x=>(x.at_,x.many)):=λ g=>by
  have z:∀l:List Pa,(setP 2 (X g 2) (setP 1 (X g 1) (setP 0 (X g 0) l))).map (λ x=>(x.at_,x.many))=setF [(0,m0),(0+m0,m1),((0+m0)+m1,m2)] (l.map λ x=>(x.at_,x.many)):=λ l=>match l with
   |[]=>rfl
   |[_]=>rfl
   |[_,_]=>rfl
   |_::_::_::_=>rfl
  exact z p
 refine ai.fold hz ((lA.D w.2 q).i.drop 6) 0 [] rfl (show 2<=40 by decide) rfl (by rw[L4];exact ac [4,5,4] (aP w.2 S)) λ g _=>⟨rfl,rfl,{g with l:=aP w.2 (S' g)},?_,rfl,rfl,rfl,rfl,rfl,rfl,?_⟩
 ·obtain⟨T',hT⟩:=inv g
  exact⟨p' g,T',tl g,congrArg (aP w.2) (eS g),dat g,hT⟩
 ·exact(ac [4,5,4] (aP w.2 (S' g))).trans (.of_eq (by simp only[S',tl,L9];rfl))
structure Cl where
 t:Nat
 r:Nat
 l:Nat
 e:Nat
 u:Nat
 u':Nat
 v:AV
def jf:Nat->Str
 |0=>bq
 |1=>bH
 |2=>ca
 |_=>cG
def DO(a:Nat):Nat->List Cl->HL
 |_,[]=>[]
 |i,c::cs=>(c.t+822,iu (jf i) c.u c.u' (c.r+822))::(c.r+822,lO 0 [])::(c.l+822,match Nat.blt i a with |true=>lO 1 [] |false=>lO 0 [c.v.v])::DO a (i+1) cs
def jX(P:Params):Nat->List Cl->List DictEntry
 |_,[]=>[]
 |i,c::cs=>kS P (jf i) c.e (rA c.l)::jX P (i+1) cs
def Bi:Nat->List Cl->List (Nat×Nat)->HL
 |i,c::cs,(t,l)::ts=>(t+822,tO [.str (jf i) c.u',rA l])::(l+822,lO 0 [])::Bi (i+1) cs ts
 |_,_,_=>[]
def aS(P:Params)(an:Nat)(cs:List Cl)(ts:List (Nat×Nat)):HL:=(an+822,oD ⟨jX P 0 cs⟩ cs.length)::(DO ts.length 0 cs++Bi 0 cs ts)
def bX(ts:List (Nat×Nat)):List Value:=ts.map λ t=>rA t.1
structure Bj(P:Params)(an:Nat)(cs:List Cl)(ts:List (Nat×Nat))(c:Cl)(R:HL):Prop where
 s:bQ (jX P 0 cs)=true
 f:cE (jf ts.length) (jX P 0 cs) 0=some ts.length
 e:∃e,(jX P 0 cs)[ts.length]? =some e/\e.val=rA c.l
 z:(jX P 0 cs).length<=1000
 n:(bX ts).length<=100
 b:(aS P an cs ts).Perm ((an+822,oD ⟨jX P 0 cs⟩ cs.length)::(c.t+822,iu (jf ts.length) c.u c.u' (c.r+822))::(c.r+822,lO 0 [])::(c.l+822,lO 0 [c.v.v])::R)
 a:∀t l,(aS P an cs (ts++[(t,l)])).Perm ((an+822,oD ⟨jX P 0 cs⟩ cs.length)::(c.t+822,iu (jf ts.length) c.u c.u' (c.r+822))::(c.r+822,lO 0 [])::(c.l+822,lO 1 [])::(t+822,tO [.str (jf ts.length) c.u',rA l])::(l+822,lO 0 [])::R)
theorem step{P:Params}{an:Nat}{cs:List Cl}{ts:List (Nat×Nat)}{c:Cl}(hc:cs[ts.length]? =some c)(h4:cs.length<=4):∃R,Bj P an cs ts c R:=by
 match cs,ts,hc,h4 with
 |[a0],[],hc,_=>injection hc with hc;subst hc;exact⟨_,rfl,rfl,⟨_,rfl,rfl⟩,L3 rfl,L3 rfl,ac [0,0,0,0] _,λ t l=>ac [0,0,0,0,0,0] _⟩
 |[a0,a1],[],hc,_=>injection hc with hc;subst hc;exact⟨_,rfl,rfl,⟨_,rfl,rfl⟩,L3 rfl,L3 rfl,ac [0,0,0,0] _,λ t l=>ac [0,0,0,0,3,3] _⟩
 |[a0,a1],[_],hc,_=>injection hc with hc;subst hc;exact⟨_,rfl,rfl,⟨_,rfl,rfl⟩,L3 rfl,L3 rfl,ac [0,3,3,3] _,λ t l=>ac [0,3,3,3,5,5] _⟩
 |[a0,a1,a2],[],hc,_=>injection hc with hc;subst hc;exact⟨_,rfl,rfl,⟨_,rfl,rfl⟩,L3 rfl,L3 rfl,ac [0,0,0,0] _,λ t l=>ac [0,0,0,0,6,6] _⟩
 |[a0,a1,a2],[_],hc,_=>injection hc with hc;subst hc;exact⟨_,rfl,rfl,⟨_,rfl,rfl⟩,L3 rfl,L3 rfl,ac [0,3,3,3] _,λ t l=>ac [0,3,3,3,8,8] _⟩
 |[a0,a1,a2],[_,_],hc,_=>injection hc with hc;subst hc;exact⟨_,rfl,rfl,⟨_,rfl,rfl⟩,L3 rfl,L3 rfl,ac [0,6,6,6] _,λ t l=>ac [0,6,6,6,10,10] _⟩
 |[a0,a1,a2,a3],[],hc,_=>injection hc with hc;subst hc;exact⟨_,rfl,rfl,⟨_,rfl,rfl⟩,L3 rfl,L3 rfl,ac [0,0,0,0] _,λ t l=>ac [0,0,0,0,9,9] _⟩
 |[a0,a1,a2,a3],[_],hc,_=>injection hc with hc;subst hc;exact⟨_,rfl,rfl,⟨_,rfl,rfl⟩,L3 rfl,L3 rfl,ac [0,3,3,3] _,λ t l=>ac [0,3,3,3,11,11] _⟩
 |[a0,a1,a2,a3],[_,_],hc,_=>injection hc with hc;subst hc;exact⟨_,rfl,rfl,⟨_,rfl,rfl⟩,L3 rfl,L3 rfl,ac [0,6,6,6] _,λ t l=>ac [0,6,6,6,13,13] _⟩
 |[a0,a1,a2,a3],[_,_,_],hc,_=>injection hc with hc;subst hc;exact⟨_,rfl,rfl,⟨_,rfl,rfl⟩,L3 rfl,L3 rfl,ac [0,9,9,9] _,λ t l=>ac [0,9,9,9,15,15] _⟩
 |[],_,hc,_=>simp at hc
 |[_],_::_,hc,_=>simp at hc
 |[_,_],_::_::_,hc,_=>simp at hc
 |[_,_,_],_::_::_::_,hc,_=>simp at hc
 |[_,_,_,_],_::_::_::_::_,hc,_=>simp at hc
 |_::_::_::_::_::_,_,_,h4=>simp at h4
def mr:St:=⟨λ _=>0,λ _=>0,#[],0,#[],0,#[],0,#[],0,aa,0,0,0,aa,0,#[],0,#[],0,aa,0,aa,0,0,0,[],[]⟩
structure Rq where
 rn:Nat
 rd:Nat
 as:Nat
 an:Nat
 co:Nat
 u:Nat->Nat
def Rq.i(D:Rq)(P:Params)(S:St)(j:Nat->Nat)(o:Obj):List (Nat×Nat×Obj):=[(j 0,D.rn+822,gf (D.rd+822)),(j 1,D.rd+822,gk P D.u 0 (S.a 0+822) (D.an+822) (D.co+822) (D.as+822)),(j 2,D.as+822,o),(j 3,S.a 0+822,oW S.a),(j 4,S.a 1+822,bm P S.a S.u)]
def Rq.fx(D:Rq)(P:Params)(S:St)(o:Obj):List Obj:=[gf (D.rd+822),gk P D.u 0 (S.a 0+822) (D.an+822) (D.co+822) (D.as+822),o,oW S.a,bm P S.a S.u]
def Rq.f(D:Rq)(P:Params)(S:St)(g:Gh):List Obj:=D.fx P S (aO (g.n 2) ⟨g.vl 0⟩)
def Rq.q(D:Rq)(S:St)(L:HL)(n:Nat)(vs:List Value):Pr:={pr S L with a:=tk [D.rn,D.rd,D.as,D.an,D.co],u:=D.u,j:=λ n=>n,en:=λ i=>if i=1 then n else 0,l:=λ _=>vs}
inductive zF(P:Params)(an:Nat)(cs:List Cl)(ts:List (Nat×Nat))(R:HL)(gvl0_:List Value)(gn2_:Nat)(gl_:HL):Prop
 |mk (t l:_) (x1:gn2_=(ts++[(t,l)]).length) (x2:gvl0_=bX (ts++[(t,l)])) (x3:gl_.Perm (aS P an cs (ts++[(t,l)])++R))
noncomputable def hM(P:Params)(an:Nat)(cs:List Cl)(ts:List (Nat×Nat))(R:HL)(g:Gh):Prop:=zF P an cs ts R (g.vl 0) (g.n 2) (g.l)
theorem Bk(vs:List Value)(v:Value):(⟨vs⟩:Array Value).push v=⟨vs++[v]⟩:=by apply Array.ext';simp
section
variable {w:World}{G:Shared}{S:St}
inductive En(z z':SI)(g:Gh):Prop
 |mk (g':Gh) (h0:z'.asm g') (h1:g'.n 0=g.n 0) (h2:g'.n 1=g.n 1) (h3:g'.sl=g.sl) (h4:(z'.out g').res=(z.out g).res) (h5:(z'.out g').fin=(z.out g).fin) (h6:(z'.out g').new=(z.out g).new) (h7:(z'.out g').L.Perm (z.out g).L)
theorem ai.as{z z':SI}(hz:ai w G z)(hc:z'.code=z.code)(hd:z.d<=z'.d)(hi:z'.idx=z.idx)(hL:z'.L.Perm z.L)
  (ho:∀g,z.asm g->En z z' g):ai w G z':=by
 refine ai.perm hz [] [] hc hd hi (by rw[L4];exact hL) (λ _ h=>h) (λ _=>List.nodup_nil) λ g hg=>?_
 obtain⟨g',h1,h2,h3,h4,h5,h6,h7,h8⟩:=ho g hg
 exact⟨g',h1,h2,h3,h4,h5,h6,h7,[],by rw[L4,L4];exact h8⟩
theorem ai.im{c:Code}{d d':Nat}{i:List (Nat×Nat×Obj)}{L L':HL}{Y Y':Gh->Prop}{o:Gh->SB}(hz:ai w G ⟨c,d,i,L,Y,o⟩)(hd:d<=d')(hL:L'.Perm L)(f:∀g,Y g->Y' g):ai w G ⟨c,d',i,L',Y',o⟩:=
 ai.as hz rfl hd rfl hL λ g hg=>⟨g,f g hg,rfl,rfl,rfl,rfl,rfl,rfl,L2 _⟩
theorem Bl{cs:List Cl}{ts:List (Nat×Nat)}{c:Cl}{R0:HL}(D:Rq)(h:Bj w.2 D.an cs ts c R0){n:Nat}{vs:List Value}(hn:n=ts.length)(hv:vs=bX ts)(F:Nat){L R:HL}
  (hL:L.Perm ((D.an+822,oD ⟨jX w.2 0 cs⟩ cs.length)::(c.l+822,lO 0 [c.v.v])::(S.a 4+822,oD #[] 0)::R)):
  ai w G ⟨au 720 [rA D.rn,.str (jf ts.length) c.u',rA F],20,D.i w.2 S (λ i=>i) (aO n ⟨vs⟩)++[(21,F+822,lO 0 [])],L,
   λ g=>∃t l,g.n 2=(ts++[(t,l)]).length/\g.vl 0=bX (ts++[(t,l)])/\g.l.Perm ((D.an+822,oD ⟨jX w.2 0 cs⟩ cs.length)::(c.l+822,lO 1 [])::(S.a 4+822,oD #[] 0)::(t+822,tO [.str (jf ts.length) c.u',rA l])::(l+822,lO 0 [])::R),
   λ g=>⟨.ok (.ret c.v.v),D.f w.2 S g++[lO 0 []],[],g.l⟩⟩:=by
 subst hn hv
 let q:Pr:={D.q S R ts.length (bX ts) with a:=tk [D.rn,D.rd,D.as,D.an,D.co,F,c.l],u:=λ n=>if n=0 then c.u' else D.u (n-1),j:=λ i=>if i=5 then 21 else i,s:=λ _=>jf ts.length,e:=λ _=>⟨jX w.2 0 cs⟩,en:=λ i=>if i=1 then ts.length else cs.length,c:=λ _=>ts.length}
 obtain⟨e,h5,h6⟩:=h.e
 have dx:∀op rest,op=0/\rest=[]\/op=2/\(∃v,rest=[v])->DX (C0 w.2).set1 op (.str (jf ts.length) c.u') rest ⟨jX w.2 0 cs⟩ (some ts.length) (ae (C0 w.2).set1 (jf ts.length)) (rA c.l):=λ op rest ho=>by
  refine yF h.z h.s h.f ?_
  rcases ho with⟨rfl,rfl⟩ |⟨rfl,v,rfl⟩
  ·exact h6▸dv h5
  ·rw[dv h5,h6];rfl
 have hz:=fn.sat w G q c.v λ b t=>⟨br (ky h.n (by decide)),λ g0 _=>⟨dx 2 _ (.inr ⟨rfl,_,rfl⟩),dx 0 _ (.inl ⟨rfl,rfl⟩),λ _ _=>trivial⟩⟩
 refine ai.fold hz ((fn.D w.2 q c.v).i.drop 6) 0 [] rfl (show 3<=20 by decide) rfl (by
  rw[L4]
  exact hL.trans (ac [1,0,0] _)) λ g _=>⟨rfl,rfl,{g with n:=λ i=>if i=2 then ts.length+1 else g.n i,vl:=λ _=>bX ts++[rA (g.n 2)],l:=(D.an+822,oD ⟨jX w.2 0 cs⟩ cs.length)::(c.l+822,lO 1 [])::(S.a 4+822,oD #[] 0)::(g.n 2+822,tO [.str (jf ts.length) c.u',rA (g.n 3)])::(g.n 3+822,lO 0 [])::R},⟨g.n 2,g.n 3,by simp,by simp[bX],L2 _⟩,rfl,rfl,rfl,rfl,?_,rfl,?_⟩
 ·exact congrArg (λ a:Array Value=>D.fx w.2 S (aO (ts.length+1) a)++[lO 0 []]) (Bk (bX ts) (rA (g.n 2))).symm
 ·rw[L4]
  refine(ac [1,0,0] _).trans ?_
  show List.Perm (_::_::_::_::_::R) (_::_::_::(R++[_,_]))
  exact((pn (l₁:=[(g.n 2+822,tO [.str (jf ts.length) c.u',rA (g.n 3)]),(g.n 3+822,lO 0 [])]) (l₂:=R)).cons _).cons _ |>.cons _
theorem vF{cs:List Cl}{ts:List (Nat×Nat)}{c:Cl}(D:Rq)(hc:cs[ts.length]? =some c)(h4:cs.length<=4){n:Nat}{vs:List Value}(hn:n=ts.length)(hv:vs=bX ts){L R R1:HL}
  (hL:L.Perm (aS w.2 D.an cs ts++R))(hF:R.Perm ((S.a 4+822,oD #[] 0)::R1)):
  ai w G ⟨au 666 [rA c.t,rA D.rn],30,D.i w.2 S (λ i=>i) (aO n ⟨vs⟩),L,hM w.2 D.an cs ts R,λ g=>⟨.ok (.ret c.v.v),D.f w.2 S g,[],g.l⟩⟩:=by
 subst hn hv
 obtain⟨R0,h⟩:=step (P:=w.2) (an:=D.an) hc h4
 let M:HL:=(D.an+822,oD ⟨jX w.2 0 cs⟩ cs.length)::(c.l+822,lO 0 [c.v.v])::(S.a 4+822,oD #[] 0)::(R0++R1)
 let q:Pr:={D.q S M ts.length (bX ts) with a:=tk [D.rn,D.rd,D.as,D.an,D.co,c.t,c.r],u:=λ n=>if n=9 then c.u else if n=10 then c.u' else D.u n,s:=λ _=>jf ts.length}
 let E:Gh->Prop:=λ g=>∃t l,g.n 2=(ts++[(t,l)]).length/\g.vl 0=bX (ts++[(t,l)])/\g.l.Perm ((D.an+822,oD ⟨jX w.2 0 cs⟩ cs.length)::(c.l+822,lO 1 [])::(S.a 4+822,oD #[] 0)::(t+822,tO [.str (jf ts.length) c.u',rA l])::(l+822,lO 0 [])::(R0++R1))
 have hz:=ww.sat w G q c.v (λ _ gs=>match gs with |[g]=>E g |_=>False) λ b t=>⟨Bl D h rfl rfl (b+14) (L2 M),λ g0 a0 sl _=>a0⟩
 have e0:∀(a t r l:Nat×Obj) (X Y Z:HL) (f:Nat×Obj),((a::t::r::l::X)++(f::Y)++Z).Perm (t::r::(a::l::f::(X++Y++Z))):=λ a t r l X Y Z f=>by
  have:= @List.perm_middle _ f (a::t::r::l::X) (Y++Z)
  refine(List.Perm.of_eq (by simp)).trans (this.trans ?_)
  exact((ac [2,2,1,1,0] _).trans (.of_eq (by simp[aI])))
 refine ai.fold hz ((ww.D w.2 q c.v dh).i.drop 5) 0 [] rfl (show 23<=30 by decide) rfl (by
  rw[L4]
  refine hL.trans ((h.b.append hF).trans ?_)
  have:=e0 (D.an+822,oD ⟨jX w.2 0 cs⟩ cs.length) (c.t+822,iu (jf ts.length) c.u c.u' (c.r+822)) (c.r+822,lO 0 []) (c.l+822,lO 0 [c.v.v]) R0 R1 [] (S.a 4+822,oD #[] 0)
  rw[L4,L4] at this
  exact this) λ g hp=>?_
 obtain⟨t,l,h1,h2,h3⟩:=hp
 refine⟨rfl,rfl,{g with l:=aS w.2 D.an cs (ts++[(t,l)])++R},⟨t,l,h1,h2,L2 _⟩,rfl,rfl,rfl,rfl,rfl,rfl,?_⟩
 have:=e0 (D.an+822,oD ⟨jX w.2 0 cs⟩ cs.length) (c.t+822,iu (jf ts.length) c.u c.u' (c.r+822)) (c.r+822,lO 0 []) (c.l+822,lO 1 []) ((t+822,tO [.str (jf ts.length) c.u',rA l])::(l+822,lO 0 [])::R0) R1 [] (S.a 4+822,oD #[] 0)
 rw[L4,L4] at this
 refine((h.a t l).append hF).trans (this.trans ?_)
 show List.Perm _ (_::_::(g.l++([]++[])))
 rw[L4,L4]
 exact((h3.symm).cons _).cons _
theorem Bm{cs:List Cl}{ts:List (Nat×Nat)}{c:Cl}(D:Rq)(hc:cs[ts.length]? =some c)(h4:cs.length<=4){n:Nat}{vs:List Value}(hn:n=ts.length)(hv:vs=bX ts){L R R1:HL}
  (hL:L.Perm (aS w.2 D.an cs ts++R))(hF:R.Perm ((S.a 4+822,oD #[] 0)::R1)):
  ai w G ⟨au 687 [rA D.rn,rA c.t],40,D.i w.2 S (λ i=>i) (aO n ⟨vs⟩),L,hM w.2 D.an cs ts R,λ g=>⟨.ok (.ret c.v.v),D.f w.2 S g,[],g.l⟩⟩:=by
 let q:Pr:={D.q S L n vs with a:=tk [D.rn,D.rd,D.as,D.an,D.co,c.t]}
 have hz:=wo.sat w G q c.v (λ _ gs=>match gs with |[g]=>hM w.2 D.an cs ts R g |_=>False) λ b t=>⟨vF D hc h4 hn hv hL hF,λ g0 a0 sl _=>a0⟩
 exact ai.im hz (show 31<=40 by decide) (L2 _) λ g hg=>hg
def aY(w:World)(G:Shared)(V:HL)(v:AV)(m:Int):Prop:=∀(u:Nat) (L R:HL),L.Perm (V++R)->ai w G ⟨au 128 [v.v,.int 16 u],12,[],L,λ _=>True,λ g=>⟨.ok (.ret (.int m (g.n 2))),[],[],L⟩⟩
def cI(w:World)(G:Shared)(V:HL)(v:AV)(c:Str):Prop:=∀(u:Nat) (L R:HL),L.Perm (V++R)->ai w G ⟨au 128 [v.v,.int 16 u],12,[],L,λ _=>True,λ g=>⟨.error (rA (g.n 7)),[],dN w.2 c g,L⟩⟩
def gB(w:World)(G:Shared)(V:HL)(v:AV):Prop:=∀(L R:HL),L.Perm (V++R)->ai w G ⟨au 142 [v.v],40,[],L,λ _=>True,λ g=>⟨.error (rA (g.n 7)),[],dN w.2 b9 g,L⟩⟩
theorem Bn{cs:List Cl}{ts:List (Nat×Nat)}{c:Cl}{V:HL}{m:Int}(D:Rq)(hc:cs[ts.length]? =some c)(h4:cs.length<=4){n:Nat}{vs:List Value}(hn:n=ts.length)(hv:vs=bX ts){L R R1 R2:HL}
  (hL:L.Perm (aS w.2 D.an cs ts++R))(hF:R.Perm ((S.a 4+822,oD #[] 0)::R1))(hV:R.Perm (V++R2))(e:aY w G V c.v m):
  ai w G ⟨au 694 [rA D.rn,rA c.t],40,D.i w.2 S (λ i=>i) (aO n ⟨vs⟩),L,hM w.2 D.an cs ts R,λ g=>⟨.ok (.ret (.int m (g.n 3))),D.f w.2 S g,[],g.l⟩⟩:=by
 let q:Pr:={D.q S L n vs with a:=tk [D.rn,D.rd,D.as,D.an,D.co,c.t],m:=λ _=>m}
 let A:AA:=λ k gs=>match k,gs with |0,[g]=>hM w.2 D.an cs ts R g |99,[g]=>hM w.2 D.an cs ts R g |_,_=>True
 have hz:=wh.sat w G q c.v A λ b t=>⟨vF D hc h4 hn hv hL hF,λ g0 hp=>by
   obtain⟨t0,l0,h1,h2,h3⟩:=hp
   exact⟨e _ _ _ (h3.trans ((hV.append_left _).trans (ao _ _ _))),λ g1 _ sl _=>⟨t0,l0,h1,h2,h3⟩⟩⟩
 exact ai.im hz (show 31<=40 by decide) (L2 _) λ g hg=>hg
theorem zG{cs:List Cl}{ts:List (Nat×Nat)}{c:Cl}{V:HL}{cd:Str}(D:Rq)(hc:cs[ts.length]? =some c)(h4:cs.length<=4){n:Nat}{vs:List Value}(hn:n=ts.length)(hv:vs=bX ts){L R R1 R2:HL}
  (hL:L.Perm (aS w.2 D.an cs ts++R))(hF:R.Perm ((S.a 4+822,oD #[] 0)::R1))(hV:R.Perm (V++R2))(e:cI w G V c.v cd):
  ai w G ⟨au 694 [rA D.rn,rA c.t],40,D.i w.2 S (λ i=>i) (aO n ⟨vs⟩),L,hM w.2 D.an cs ts R,λ g=>⟨.error (rA (g.n 7)),D.f w.2 S g,dN w.2 cd g,g.l⟩⟩:=by
 let q:Pr:={D.q S L n vs with a:=tk [D.rn,D.rd,D.as,D.an,D.co,c.t],s:=pe [aa,cd]}
 let A:AA:=λ k gs=>match k,gs with |0,[g]=>hM w.2 D.an cs ts R g |99,[g]=>hM w.2 D.an cs ts R g |_,_=>True
 have hz:=Do.sat w G q c.v A λ b t=>⟨vF D hc h4 hn hv hL hF,λ g0 hp=>by
   obtain⟨t0,l0,h1,h2,h3⟩:=hp
   exact⟨e _ _ _ (h3.trans ((hV.append_left _).trans (ao _ _ _))),λ g1 _ _ sl _=>⟨t0,l0,h1,h2,h3⟩⟩⟩
 exact ai.im hz (show 31<=40 by decide) (L2 _) λ g hg=>hg
def Ci(g:Gh):Gh:={g with n:=λ i=>match i with |0=>g.n 0 |1=>g.n 1 |2=>0 |3=>g.n 6 |4=>g.n 5 |5=>g.n 4 |6=>g.n 3 |7=>g.n 2 |8=>g.n 7 |9=>g.n 8 |_=>g.n 9,vl:=λ _=>g.vl 0}
theorem p4(V:HL)(m:Int)(hm: -32768<=m/\m<32768)(t:Nat):aY w G V (.i m t) m:=λ u L R hL=>
 ai.as (Dp.sat w G {pr mr L with m:=λ _=>m,u:=tk [t,u]} hm) rfl (show 2<=12 by decide) rfl (L2 _) λ g _=>⟨{g with n:=λ i=>if i=2 then t else g.n i},trivial,rfl,rfl,rfl,rfl,rfl,rfl,L2 _⟩
theorem p6(V:HL)(t:Nat):cI w G V (.s ⟨⟨[113]⟩⟩ t) b9:=λ u L R hL=>
 ai.as (Dr.sat w G {pr mr L with u:=tk [t,u]}) rfl (show 2<=12 by decide) rfl (L2 _) λ g _=>⟨Ci g,trivial,rfl,rfl,rfl,rfl,rfl,rfl,L2 _⟩
theorem p7{V V':HL}(m:Int)(hm:0<=m/\m<=9)(a t t':Nat)(hV:V.Perm ((a+822,tO [.int m t,.int 0 t'])::V')):aY w G V (.r a) m:=λ u L R hL=>by
 let q:Pr:={pr mr (V'++R) with a:=λ _=>a,u:=tk [u,t,t']}
 have hz:=Cq.sat w G q m hm
 refine ai.fold hz (Cq.D w.2 q m).i 0 [] rfl (show 2<=12 by decide) rfl (by rw[L4];exact hL.trans (hV.append_right R)) λ g _=>⟨rfl,rfl,g,trivial,rfl,rfl,rfl,by show Except.ok (Flow.ret (.int m _))=Except.ok (Flow.ret (.int (m*1) _));rw[Int.mul_one],rfl,rfl,?_⟩
 exact(hL.trans (hV.append_right R)).trans (.of_eq (by show _=_::((V'++R)++([]++[]));rw[L4,L4];rfl))
theorem p8{V V':HL}(a t t':Nat)(hV:V.Perm ((a+822,tO [.int 4 t,.int 4 t'])::V')):cI w G V (.r a) gv:=λ u L R hL=>by
 let q:Pr:={pr mr (V'++R) with a:=λ _=>a,u:=tk [u,t,t']}
 have hz:=Cr.sat w G q
 refine ai.fold hz (Cr.D w.2 q).i 3 [] rfl (show 2<=12 by decide) rfl (by rw[L4];exact hL.trans (hV.append_right R)) λ g _=>⟨rfl,rfl,Ci g,trivial,rfl,rfl,rfl,rfl,rfl,rfl,?_⟩
 exact(hL.trans (hV.append_right R)).trans (.of_eq (by show _=_::((V'++R)++([]++[]));rw[L4,L4];rfl))
theorem zH(V:HL)(t:Nat):gB w G V (.i 5 t):=λ L R hL=>
 ai.as (Ds.sat w G {pr mr L with u:=tk [t]}) rfl (show 2<=40 by decide) rfl (L2 _) λ g _=>⟨Ci g,trivial,rfl,rfl,rfl,rfl,rfl,rfl,L2 _⟩
theorem zI{V V':HL}(a t t':Nat)(hV:V.Perm ((a+822,tO [.int 25 t,.int 0 t'])::V')):gB w G V (.r a):=λ L R hL=>by
 let q:Pr:={pr mr (V'++R) with a:=λ _=>a,u:=tk [t,t']}
 have hz:=Cs.sat w G q
 refine ai.fold hz (Cs.D w.2 q).i 3 [] rfl (show 2<=40 by decide) rfl (by rw[L4];exact hL.trans (hV.append_right R)) λ g _=>⟨rfl,rfl,Ci g,trivial,rfl,rfl,rfl,rfl,rfl,rfl,?_⟩
 exact(hL.trans (hV.append_right R)).trans (.of_eq (by show _=_::((V'++R)++([]++[]));rw[L4,L4];rfl))
end
theorem gS{w:World}{G:Shared}(S:St)(x:T3)(t j0 j1:Nat)(L:HL)(A:Gh->Prop)(hA:∀g,A g):ai w G ⟨au 300 [rA (S.a 0),.str (x.p ad av bb) t],40,[(j0,S.a 0+822,oW S.a),(j1,S.a 1+822,bm w.2 S.a S.u)],L,A,
  λ g=>⟨.ok (.ret (.str ⟨⟨[116,101,120,116]⟩⟩ (g.n 2))),[oW S.a,bm w.2 S.a S.u],[],L⟩⟩:=by
 let q:Pr:={pr S L with u:=tk [t],j:=tk [j0,j1]}
 have hz:=kind.sat w G q x
 exact ai.fold hz [] 0 [] rfl (show 1<=40 by decide) rfl (by rw[L4];exact L2 _) λ g _=>⟨rfl,rfl,g,hA g,rfl,rfl,rfl,rfl,rfl,rfl,.of_eq (L4 _).symm⟩
theorem Bo{w:World}{G:Shared}(S:St)(x:T3)(t t':Nat)(L:HL)(A:Gh->Prop)(hA:∀g,A g):ai w G ⟨au 243 [.str (x.p gw aa cy) t,.int 0 t',.bool false],40,[],L,A,λ g=>⟨.ok (.ret (.str aa (g.n 2))),[],[],L⟩⟩:=by
 let q:Pr:={pr S L with u:=tk [t,t']}
 have hz:=pl.sat w G q x
 exact ai.fold hz [] 0 [] rfl (show 1<=40 by decide) rfl (by rw[L4];exact L2 _) λ g _=>⟨rfl,rfl,g,hA g,rfl,rfl,rfl,rfl,rfl,rfl,.of_eq (L4 _).symm⟩
theorem oy{w:World}{G:Shared}{S:St}{c d:List Ch}{p r:List Pa}{T:HL}{k:Nat}{f1 f2:Str}(h:aR w.2 S c d p r T k f1 f2)(t j0 j1:Nat)(L R:HL)(hL:L.Perm ((S.a 2+822,oD S.nm S.nmn)::R))(A:Gh->Prop)(hA:∀g,A g):
  ai w G ⟨au 307 [rA (S.a 0),.str ad t],40,[(j0,S.a 0+822,oW S.a),(j1,S.a 1+822,bm w.2 S.a S.u)],L,A,λ g=>⟨.ok (.ret (.str aa (g.n 2))),[oW S.a,bm w.2 S.a S.u],[],L⟩⟩:=by
 have fin:∀(a:HL),L.Perm (a++(R++[]))->L.Perm (a++(R++([]++[]))):=λ a h=>h
 have e0:(R++[]:HL)=R:=L4 R
 rcases h.nm with e |⟨t2,u,e⟩
 ·obtain⟨S1,rfl⟩:=St.e_nm e
  let S:St:=S1.s_nm #[]
  let q:Pr:={pr S R with u:=tk [t],j:=tk [j0,j1]}
  have hz:=yd.sat w G q λ b t=>⟨jS rfl rfl rfl rfl,λ _ _=>trivial⟩
  exact ai.fold hz ((yd.D w.2 q).i.drop 2) 0 [] rfl (show 1<=40 by decide) rfl (by rw[L4];exact hL) λ g _=>⟨rfl,rfl,g,hA g,rfl,rfl,rfl,rfl,rfl,rfl,by
   refine hL.trans (.of_eq ?_)
   show _=_++(R++([]++[]))
   rw[L4,L4];rfl⟩
 ·obtain⟨S1,rfl⟩:=St.e_nm e
  let S:St:=S1.s_nm #[kS w.2 ad t2 (.str aa u)]
  let q:Pr:={pr S R with u:=tk [t],j:=tk [j0,j1],c:=λ _=>u}
  have hz:=ye.sat w G q λ b t=>⟨jS rfl rfl rfl rfl,jS rfl rfl rfl rfl,λ _ _=>trivial⟩
  exact ai.fold hz ((ye.D w.2 q).i.drop 2) 0 [] rfl (show 1<=40 by decide) rfl (by rw[L4];exact hL) λ g _=>⟨rfl,rfl,{g with n:=λ i=>if i=2 then u else g.n i},hA _,rfl,rfl,rfl,rfl,rfl,rfl,by
   refine hL.trans (.of_eq ?_)
   show _=_++(R++([]++[]))
   rw[L4,L4];rfl⟩
theorem eG{P:Params}{S:St}(ix:List Nat){C D:HL}(ht:S.tail.Perm (C++D)):(ew P S).Perm (((aI (fE P S) ix).1++C)++((aI (fE P S) ix).2++D)):=by
 refine((ac ix (fE P S)).append ht).trans ?_
 rw[L9,L9]
 exact dQ _ (ao _ _ _)
theorem vG{w:World}{G:Shared}{S:St}{c d:List Ch}{r:List Pa}{T:HL}{k:Nat}{f1 f2:Str}(h:aR w.2 S c d [] r T k f1 f2)(u:Nat->Nat)(a0 a1 a6 a7 a8 t t':Nat)(j:Nat->Nat):
  ai w G ⟨au 748 [rA a0,.str ad t,.str aa t'],40,[(j 0,a0+822,gf (a1+822)),(j 1,a1+822,gk w.2 u 0 (S.a 0+822) (a6+822) (a7+822) (a8+822)),(j 2,S.a 0+822,oW S.a),(j 3,S.a 1+822,bm w.2 S.a S.u),(j 4,S.a 7+822,oD S.fi S.fin)],ew w.2 S,
   λ g=>∃nm n,g.l=ew w.2 {S with nm:=nm,nmn:=n}/\aR w.2 {S with nm:=nm,nmn:=n} c d [] r T k f1 f2,
   λ g=>⟨.ok (.ret .none),[gf (a1+822),gk w.2 u 0 (S.a 0+822) (a6+822) (a7+822) (a8+822),oW S.a,bm w.2 S.a S.u,oD S.fi S.fin],[],g.l⟩⟩:=by
 obtain⟨S1,rfl⟩:=St.e_fi (show S.fi=⟨[]⟩ from h.fi)
 obtain⟨pl,hd,hi⟩:∃pl:Option Nat,(∀t v,DX (C0 w.2).set1 3 (.str ad t) [v] S1.nm pl (ae (C0 w.2).set1 ad) .none)/\
   (∀t u,aK pl (ae (C0 w.2).set1 ad) (.str ad t) (.str aa u) S1.nm= #[]\/∃t' u',aK pl (ae (C0 w.2).set1 ad) (.str ad t) (.str aa u) S1.nm= #[kS w.2 ad t' (.str aa u')]):=by
  rcases h.nm with e |⟨t2,u2,e⟩
  ·have e:S1.nm= #[]:=e
   rw[e]
   exact⟨none,λ t v=>jS rfl rfl rfl rfl,λ t u=>.inr ⟨t,u,rfl⟩⟩
  ·have e:S1.nm= #[kS w.2 ad t2 (.str aa u2)]:=e
   rw[e]
   exact⟨some 0,λ t v=>jS rfl rfl rfl rfl,λ t u=>.inr ⟨t2,u,lf _ _ _⟩⟩
 let S:St:=S1.s_fi ⟨[]⟩
 let q:Pr:={pr S (aI (ew w.2 S) [0]).2 with a:=tk [a0,a1,0,0,0,0,a6,a7,a8],u:=λ n=>if n=0 then t else if n=1 then t' else u (n-2),j:=λ i=>if i=5 then 0 else j i,r:=λ _=>pl}
 let S':St:={S with nm:=aK pl (ae (C0 w.2).set1 ad) (.str ad t) (.str aa t') S1.nm,nmn:=be pl S1.nmn}
 have hz:=rz.sat w G q λ b t=>⟨hd _ _,jS rfl rfl rfl rfl,λ _ _=>trivial⟩
 have inv:aR w.2 S' c d [] r T k f1 f2:=⟨h.op,h.bo,h.fi,h.fin,h.bp,h.tl,h.pl,h.rl,h.cl,h.dl,h.ck,h.cn,h.dk,h.dn,hi _ _,h.fl⟩
 exact ai.fold hz ((rz.D w.2 q).i.drop 5) 0 [] rfl (show 3<=40 by decide) rfl (by rw[L4];exact ac [0] (ew w.2 S)) λ g _=>⟨rfl,rfl,{g with l:=ew w.2 S'},⟨_,_,rfl,inv⟩,rfl,rfl,rfl,rfl,rfl,rfl,
  (ac [0] (ew w.2 S')).trans (.of_eq (congrArg _ (L4 _).symm))⟩
noncomputable def dI(x y:T3)(b:Str):Str:=match b.cps.toList with
 |c0::c1::l=>y.p b ⟨⟨x.p 112 32 120::c1::l⟩⟩ ⟨⟨x.p 112 32 120::x.p 113 32 121::l⟩⟩
 |_=>b
theorem zJ{w:World}{G:Shared}{S:St}{c d:List Ch}{pa:Pa}{p r:List Pa}{T:HL}{k:Nat}{f1 f2:Str}(h:aR w.2 S c d (pa::p) r T k f1 f2)(hb:S.buf.cps.size=6)(x y:T3)(h0:pa.at_=0)(hm:pa.many=y.p 0 1 2)(t t' j0 j1 j2:Nat):
  ai w G ⟨au 250 [rA (S.a 0),.str ad t,.str (x.p gw aa cy) t',.bool false],40,[(j0,S.a 0+822,oW S.a),(j1,S.a 1+822,bm w.2 S.a S.u),(j2,S.a 7+822,oD S.fi S.fin)],ew w.2 S,
   λ g=>∃bt,g.l=ew w.2 {S with buf:=dI x y S.buf,bt:=bt}/\aR w.2 {S with buf:=dI x y S.buf,bt:=bt} c d (pa::p) r T k f1 f2,
   λ g=>⟨.ok (.ret .none),[oW S.a,bm w.2 S.a S.u,oD S.fi S.fin],[],g.l⟩⟩:=by
 obtain⟨b0,b1,b2,b3,b4,b5,eb⟩:=dC hb
 have d9:=gz h
 obtain⟨S1,rfl⟩:=St.e_buf eb
 obtain⟨S2,rfl⟩:=St.e_fi (show S1.fi=⟨bU (ah w.2) (pa::p)⟩ from h.fi)
 let S:St:=(S2.s_fi ⟨bU (ah w.2) (pa::p)⟩).s_buf (s6 b0 b1 b2 b3 b4 b5)
 let D:HL:=lJ w.2 c++(jW d++(jv p++(nE r++T)))
 have ht:S.tail.Perm ([(pa.wa+822,dE pa)]++D):=by
  refine h.tl.trans ?_
  show(lJ w.2 c++(jW d++((pa.wa+822,dE pa)::jv p++(nE r++T)))).Perm ((pa.wa+822,dE pa)::(lJ w.2 c++(jW d++(jv p++(nE r++T)))))
  have:= @List.perm_middle _ (pa.wa+822,dE pa) (lJ w.2 c++jW d) (jv p++(nE r++T))
  simp only[L9] at this
  exact this
 have eo:dE {pa with at_:=0,many:=y.p 0 1 2}=dE pa:=by unfold dE;rw[h0,hm]
 let L:HL:=(aI (fE w.2 S) [4,4]).2++D
 let q:Pr:={pr S L with u:=tk [t,t'],j:=tk [j0,j1,j2],c:=tk [b0,b1,b2,b3,b4,b5],p:=λ _=>pa}
 have pl3:(pa::p).length<=3:=h.pl
 have dp:∀t,DX (C0 w.2).set1 0 (.str ad t) [] ⟨bU (ah w.2) (pa::p)⟩ (some 0) (ae (C0 w.2).set1 ad) (rA pa.wa):=λ t=>by
  rcases p with _ |⟨z0,_ |⟨z1,_ |⟨z9,p⟩⟩⟩
  ·exact ii _ _ _ _ _ (L3 rfl) rfl rfl ⟨_,rfl,rfl⟩
  ·exact ii _ _ _ _ _ (L3 rfl) rfl rfl ⟨_,rfl,rfl⟩
  ·exact ii _ _ _ _ _ (L3 rfl) rfl rfl ⟨_,rfl,rfl⟩
  ·exact absurd pl3 (by simp)
 have hz:=AB.sat w G q x y λ b t=>⟨dp _,(d9 _).2,λ _ _=>trivial⟩
 have inv:∀bt,aR w.2 {S with buf:=dI x y S.buf,bt:=bt} c d (pa::p) r T k f1 f2:=λ bt=>⟨h.op,h.bo,h.fi,h.fin,h.bp,h.tl,h.pl,h.rl,h.cl,h.dl,h.ck,h.cn,h.dk,h.dn,h.nm,h.fl⟩
 have go:∀(g:Gh) (bt':Nat),True:=λ _ _=>trivial
 cases y
 ·refine ai.fold hz ((AB.D w.2 q x .a).i.drop 3) 0 [] rfl (show 1<=40 by decide) rfl (by
   show(ew w.2 S).Perm (([_,_]++[(pa.wa+822,dE {pa with at_:=0,many:=T3.a.p 0 1 2})])++(L++[]))
   rw[L4,eo];exact eG [4,4] ht) λ g _=>⟨rfl,rfl,{g with l:=ew w.2 {S with buf:=dI x .a S.buf,bt:=S2.bt}},⟨_,rfl,inv _⟩,rfl,rfl,rfl,rfl,rfl,rfl,?_⟩
  show(ew w.2 _).Perm (([_,_]++[(pa.wa+822,dE {pa with at_:=0,many:=T3.a.p 0 1 2})])++(L++([]++[])))
  rw[eo]
  exact(eG (S:={S with buf:=dI x .a S.buf,bt:=S2.bt}) [4,4] ht).trans (.of_eq (congrArg _ (L4 _).symm))
 ·refine ai.fold hz ((AB.D w.2 q x .b).i.drop 3) 0 [] rfl (show 1<=40 by decide) rfl (by
   show(ew w.2 S).Perm (([_,_]++[(pa.wa+822,dE {pa with at_:=0,many:=T3.b.p 0 1 2})])++(L++[]))
   rw[L4,eo];exact eG [4,4] ht) λ g _=>⟨rfl,rfl,{g with l:=ew w.2 {S with buf:=dI x .b S.buf,bt:=g.n 2}},⟨_,rfl,inv _⟩,rfl,rfl,rfl,rfl,rfl,rfl,?_⟩
  show(ew w.2 _).Perm (([_,_]++[(pa.wa+822,dE {pa with at_:=0,many:=T3.b.p 0 1 2})])++(L++([]++[])))
  rw[eo]
  exact(eG (S:={S with buf:=dI x .b S.buf,bt:=g.n 2}) [4,4] ht).trans (.of_eq (congrArg _ (L4 _).symm))
 ·refine ai.fold hz ((AB.D w.2 q x .c).i.drop 3) 0 [] rfl (show 1<=40 by decide) rfl (by
   show(ew w.2 S).Perm (([_,_]++[(pa.wa+822,dE {pa with at_:=0,many:=T3.c.p 0 1 2})])++(L++[]))
   rw[L4,eo];exact eG [4,4] ht) λ g _=>⟨rfl,rfl,{g with l:=ew w.2 {S with buf:=dI x .c S.buf,bt:=g.n 2}},⟨_,rfl,inv _⟩,rfl,rfl,rfl,rfl,rfl,rfl,?_⟩
  show(ew w.2 _).Perm (([_,_]++[(pa.wa+822,dE {pa with at_:=0,many:=T3.c.p 0 1 2})])++(L++([]++[])))
  rw[eo]
  exact(eG (S:={S with buf:=dI x .c S.buf,bt:=g.n 2}) [4,4] ht).trans (.of_eq (congrArg _ (L4 _).symm))
def dF(P:Params)(c d:List Ch)(p r:List Pa)(T:HL):HL:=lJ P c++(jW d++(jv p++(nE r++T)))
theorem aU(P:Params)(c d:List Ch)(p r:List Pa)(A B:HL):(dF P c d p r (A++B)).Perm (A++dF P c d p r B):=by
 unfold dF
 refine(dQ _ (dQ _ (dQ _ (ao _ _ _)))).trans ?_
 refine(dQ _ (dQ _ (ao _ _ _))).trans ?_
 exact(dQ _ (ao _ _ _)).trans (ao _ _ _)
section
variable {P:Params}{S:St}{c d:List Ch}{p r:List Pa}{A T T2 X:HL}{k:Nat}{f1 f2:Str}
theorem lh(h:aR P S c d p r T k f1 f2)(tl T2:HL)(ht:tl.Perm (dF P c d p r T2)):aR P {S with tail:=tl} c d p r T2 k f1 f2:=
 ⟨h.op,h.bo,h.fi,h.fin,h.bp,ht,h.pl,h.rl,h.cl,h.dl,h.ck,h.cn,h.dk,h.dn,h.nm,h.fl⟩
theorem dD(h:aR P S c d p r T k f1 f2)(ht:T.Perm T2):aR P S c d p r T2 k f1 f2:=
 ⟨h.op,h.bo,h.fi,h.fin,h.bp,h.tl.trans (dQ _ (dQ _ (dQ _ (dQ _ ht)))),h.pl,h.rl,h.cl,h.dl,h.ck,h.cn,h.dk,h.dn,h.nm,h.fl⟩
theorem gT(h:aR P S c d p r T k f1 f2)(N:HL):aR P {S with tail:=N++S.tail} c d p r (N++T) k f1 f2:=
 lh h _ _ ((h.tl.append_left N).trans (aU P c d p r N T).symm)
def gC(P:Params)(S:St)(c d:List Ch)(p r:List Pa)(T:HL):St:={S with tail:=dF P c d p r T}
theorem kc(h:aR P S c d p r T k f1 f2)(T2:HL):aR P (gC P S c d p r T2) c d p r T2 k f1 f2:=lh h _ _ (L2 _)
theorem xF(A:HL):(aP P (gC P S c d p r (A++T))).Perm (A++(bj P S++dF P c d p r T)):=((aU P c d p r A T).append_left _).trans (ao _ _ _)
theorem vH(A:HL):(ew P (gC P S c d p r (A++T))).Perm (A++(fE P S++dF P c d p r T)):=((aU P c d p r A T).append_left _).trans (ao _ _ _)
theorem q9(h:aR P S c d p r (A++T) k f1 f2):(aP P S).Perm (A++(bj P S++dF P c d p r T)):=by
 refine(h.tl.append_left (bj P S)).trans ?_
 exact((aU P c d p r A T).append_left _).trans (ao _ _ _)
end
def hU(b:T2)(P:Params)(S:St):HL:=b.p (aP P S) (ew P S)
noncomputable abbrev sL:=St->List Ch->List Pa->Str->Str->Prop
inductive aw(b:T2)(P:Params)(S:St)(d:List Ch)(r:List Pa)(an:Nat)(cs:List Cl)(V:HL)(Q:sL)(k N n:Nat)(vs:List Value)(L:HL):Prop
 |mk (S' c' p' f1' f2' T' ts:_) (x1:L.Perm (hU b P S')) (x2:Q S' c' p' f1' f2') (x3:aR P S' c' d p' r (aS P an cs ts++(V++T')) k f1' f2') (x4:ts.length=N) (x5:n=N) (x6:vs=bX ts) (x7:S'.a=S.a) (x8:S'.u=S.u)
section
variable {P:Params}{w:World}{G:Shared}{S:St}{c d:List Ch}{p r:List Pa}{T:HL}{f1 f2:Str}{cs:List Cl}{cl:Cl}{D:Rq}{k N n:Nat}{vs:List Value}{L R R1 R2 V A:HL}{m:Int}{cd:Str}{Q:sL}{b:T2}
theorem ra(b:T2)(A:HL):(hU b P (gC P S c d p r (A++T))).Perm (A++(b.p (bj P S) (fE P S)++dF P c d p r T)):=by
 cases b
 ·exact xF A
 ·exact vH A
theorem c6(b:T2)(h:aR P S c d p r (A++T) k f1 f2):(hU b P S).Perm (A++(b.p (bj P S) (fE P S)++dF P c d p r T)):=by
 cases b
 ·exact(h.tl.append_left (bj P S)).trans (((aU P c d p r A T).append_left _).trans (ao _ _ _))
 ·exact(h.tl.append_left (fE P S)).trans (((aU P c d p r A T).append_left _).trans (ao _ _ _))
theorem zK(b:T2)(X:HL):∃R,(b.p (bj P S) (fE P S)++X).Perm ((S.a 4+822,oD #[] 0)::R):=by
 cases b
 ·exact⟨_,ac [2] (bj P S++X)⟩
 ·exact⟨_,ac [2] (fE P S++X)⟩
theorem Bp(Y:HL):(Y++dF P c d p r (V++T)).Perm (V++(Y++dF P c d p r T)):=((aU P c d p r V T).append_left _).trans (ao _ _ _)
theorem vI{z z':SI}(a:aw b w.2 S d r D.an cs V Q k N n vs L)
  (hz:∀(S':St) (ts:List (Nat×Nat)) (R R1 R2:HL),S'.a=S.a->S'.u=S.u->ts.length=N->n=ts.length->vs=bX ts->L.Perm (aS w.2 D.an cs ts++R)->R.Perm ((S'.a 4+822,oD #[] 0)::R1)->R.Perm (V++R2)->ai w G ⟨z.code,z.d,z.idx,z.L,hM w.2 D.an cs ts R,z.out⟩)
  (h:z'=⟨z.code,z.d,z.idx,z.L,λ g=>aw b w.2 S d r D.an cs V Q k (N+1) (g.n 2) (g.vl 0) g.l,z.out⟩)(hQ:∀S' c' p' f1' f2' tl,Q S' c' p' f1' f2'->Q {S' with tail:=tl} c' p' f1' f2'):ai w G z':=by
 obtain⟨S',c',p',f1',f2',T',ts,pL,q1,hi,t1,t2,t3,sa,su⟩:=a
 subst h
 obtain⟨R1,hF⟩:=zK (P:=w.2) (S:=S') b (dF w.2 c' d p' r (V++T'))
 refine ai.as (hz S' ts _ R1 _ sa su t1 (t2.trans t1.symm) t3 (pL.trans (c6 b hi)) hF (Bp _)) rfl (Nat.le_refl _) rfl (L2 _) λ g hp=>by
   obtain⟨t,l,h1,h2,h3⟩:=hp
   exact⟨g,⟨gC w.2 S' c' d p' r (aS w.2 D.an cs (ts++[(t,l)])++(V++T')),c',p',f1',f2',T',_,h3.trans (ra b _).symm,hQ _ _ _ _ _ _ q1,kc hi _,by simp[t1],by rw[h1];simp[t1],h2,sa,su⟩,rfl,rfl,rfl,rfl,rfl,rfl,L2 _⟩
theorem Rq.i_eq{S S':St}(D:Rq)(P:Params)(j:Nat->Nat)(o:Obj)(h1:S'.a=S.a)(h2:S'.u=S.u):D.i P S' j o=D.i P S j o:=by unfold Rq.i;rw[h1,h2]
theorem Rq.f_eq{S S':St}(D:Rq)(P:Params)(h1:S'.a=S.a)(h2:S'.u=S.u):D.f P S'=D.f P S:=by funext g;unfold Rq.f Rq.fx;rw[h1,h2]
noncomputable def di(Q:sL):Prop:=∀S' c' p' f1' f2' tl,Q S' c' p' f1' f2'->Q {S' with tail:=tl} c' p' f1' f2'
theorem oz{x:Value}(hx:cl.v.v=x)(hQ:di Q)(hc:cs[N]? =some cl)(h4:cs.length<=4)(a:aw b w.2 S d r D.an cs V Q k N n vs L):
  ai w G ⟨au 687 [rA D.rn,rA cl.t],40,D.i w.2 S (λ i=>i) (aO n ⟨vs⟩),L,λ g=>aw b w.2 S d r D.an cs V Q k (N+1) (g.n 2) (g.vl 0) g.l,λ g=>⟨.ok (.ret x),D.f w.2 S g,[],g.l⟩⟩:=
 vI (z:=⟨_,_,_,_,λ _=>True,_⟩) a (λ S' ts R R1 R2 e1 e2 h1 h2 h3 h5 h6 h7=>by
  have q:=Bm (G:=G) (S:=S') D (h1▸hc) h4 h2 h3 h5 h6
  rw[hx,D.i_eq w.2 _ _ e1 e2,D.f_eq w.2 e1 e2] at q
  exact q) rfl hQ
theorem cR(hQ:di Q)(hc:cs[N]? =some cl)(h4:cs.length<=4)(e:aY w G V cl.v m)(a:aw b w.2 S d r D.an cs V Q k N n vs L):
  ai w G ⟨au 694 [rA D.rn,rA cl.t],40,D.i w.2 S (λ i=>i) (aO n ⟨vs⟩),L,λ g=>aw b w.2 S d r D.an cs V Q k (N+1) (g.n 2) (g.vl 0) g.l,λ g=>⟨.ok (.ret (.int m (g.n 3))),D.f w.2 S g,[],g.l⟩⟩:=
 vI (z:=⟨_,_,_,_,λ _=>True,_⟩) a (λ S' ts R R1 R2 e1 e2 h1 h2 h3 h5 h6 h7=>by
  have q:=Bn (S:=S') D (h1▸hc) h4 h2 h3 h5 h6 h7 e
  rw[D.i_eq w.2 _ _ e1 e2,D.f_eq w.2 e1 e2] at q
  exact q) rfl hQ
theorem gD(hQ:di Q)(hc:cs[N]? =some cl)(h4:cs.length<=4)(e:cI w G V cl.v cd)(a:aw b w.2 S d r D.an cs V Q k N n vs L):
  ai w G ⟨au 694 [rA D.rn,rA cl.t],40,D.i w.2 S (λ i=>i) (aO n ⟨vs⟩),L,λ g=>aw b w.2 S d r D.an cs V Q k (N+1) (g.n 2) (g.vl 0) g.l,λ g=>⟨.error (rA (g.n 7)),D.f w.2 S g,dN w.2 cd g,g.l⟩⟩:=
 vI (z:=⟨_,_,_,_,λ _=>True,_⟩) a (λ S' ts R R1 R2 e1 e2 h1 h2 h3 h5 h6 h7=>by
  have q:=zG (S:=S') D (h1▸hc) h4 h2 h3 h5 h6 h7 e
  rw[D.i_eq w.2 _ _ e1 e2,D.f_eq w.2 e1 e2] at q
  exact q) rfl hQ
inductive DP(b:T2)(P:Params)(S':St)(d:List Ch)(r:List Pa)(T':HL)(Q':sL)(k':Nat)(l:HL):Prop
 |mk (S2 c2 p2 g1 g2 T2:_) (h1:l=hU b P S2) (h2:Q' S2 c2 p2 g1 g2) (h3:aR P S2 c2 d p2 r (T2++T') k' g1 g2) (h4:S2.a=S'.a) (h5:S2.u=S'.u)
theorem Bq{z':SI}{Q':sL}{k':Nat}(a:aw b w.2 S d r D.an cs V Q k N n vs L)
  (hz:∀S' c' p' f1' f2' T',Q S' c' p' f1' f2'->aR w.2 S' c' d p' r T' k f1' f2'->S'.a=S.a->S'.u=S.u->ai w G ⟨z'.code,z'.d,z'.idx,hU b w.2 S',λ g=>DP b w.2 S' d r T' Q' k' g.l,z'.out⟩)
  (hQ:di Q)(hL:z'.L=L)(hA:z'.asm=λ g=>aw b w.2 S d r D.an cs V Q' k' N n vs g.l)(ho:∀g,(z'.out g).L=g.l):ai w G z':=by
 obtain⟨S',c',p',f1',f2',T',ts,pL,q1,hi,t1,t2,t3,sa,su⟩:=a
 refine ai.as (hz (gC w.2 S' c' d p' r (aS w.2 D.an cs ts++(V++T'))) c' p' f1' f2' _ (hQ _ _ _ _ _ _ q1) (kc hi _) sa su) rfl (Nat.le_refl _) rfl (by rw[hL];exact(pL.trans (c6 b hi)).trans (ra b _).symm) λ g hp=>?_
 obtain⟨S2,c2,p2,g1,g2,T2,h1,h2,h3,h4,h5⟩:=hp
 refine⟨g,?_,rfl,rfl,rfl,rfl,rfl,rfl,L2 _⟩
 rw[hA]
 refine⟨S2,c2,p2,g1,g2,T2++T',ts,.of_eq h1,h2,dD h3 ?_,t1,t2,t3,h4.trans sa,h5.trans su⟩
 exact(ao _ _ _).trans (dQ _ (ao _ _ _))
end
def fL(D:Rq)(P:Params)(S:St)(j:Nat->Nat)(oa:Nat)(A:Gh->Prop)(r:Gh->Result)(n:Gh->HL):SI:=⟨au 326 [rA D.rn,rA oa],60,D.i P S j (lO 0 []),aP P S,A,λ g=>⟨r g,D.f P S g,n g,g.l⟩⟩
inductive zL(P:Params)(S:St)(d:List Ch)(r:List Pa)(an:Nat)(cs:List Cl)(Q:sL)(k N:Nat)(O:HL)(gvl0_:List Value)(gn2_:Nat)(gl_:HL):Prop
 |mk (S' c' p' f1' f2' T' ts:_) (x1:gl_=aP P S') (x2:Q S' c' p' f1' f2') (x3:aR P S' c' d p' r (aS P an cs ts++(O++T')) k f1' f2') (x4:ts.length=N) (x5:gn2_=N) (x6:gvl0_=bX ts) (x7:S'.a=S.a) (x8:S'.u=S.u)
noncomputable def bM(P:Params)(S:St)(d:List Ch)(r:List Pa)(an:Nat)(cs:List Cl)(Q:sL)(k N:Nat)(O:HL)(g:Gh):Prop:=zL P S d r an cs Q k N O (g.vl 0) (g.n 2) (g.l)
structure Br(D:Rq)(w:World)(S:St)(j:Nat->Nat)(oa:Nat)(I2:List (Nat×Nat×Obj))(L:HL)(Z:SI)(I:List (Nat×Nat×Obj)):Prop where
 c1:Z.code=au 326 [rA D.rn,rA oa]
 c2:Z.d<=60
 c3:Z.idx=D.i w.2 S j (lO 0 [])++I
 c4:Z.L=L
 c5:I2.all (λ x=> !bd x.2.2)=true
structure Bs(Z:SI)(F:Gh->List Obj)(rs:Gh->Result)(nw:Gh->HL)(g:Gh)(l:HL):Prop where
 o1:Z.out g=⟨rs g,F g,nw g,g.l⟩
 o2:rs {g with l:=l}=rs g
 o3:nw {g with l:=l}=nw g
 o4:(nw g).length<=3
theorem bO{w:World}{G:Shared}{S:St}{c d:List Ch}{p r:List Pa}{T V:HL}{k k' N:Nat}{f1 f2:Str}{Z:SI}(D:Rq){cs:List Cl}{j:Nat->Nat}{oa:Nat}{A:Gh->Prop}{rs:Gh->Result}{nw:Gh->HL}(hz:ai w G Z)(I2:List (Nat×Nat×Obj))(Q:sL)(hq:di Q)
  (hA:A=bM w.2 S d r D.an cs Q k' N (aN I2))
  (h:aR w.2 S c d p r (aN I2++T) k f1 f2)
  (hc:Br D w S j oa I2 (aP w.2 (gC w.2 S c d p r T)) Z I2)
  (ho:∀g l,Bs Z (λ g=>D.f w.2 S g++I2.map (·.2.2)) rs nw g l)
  (ha:∀g,Z.asm g->aw .a w.2 S d r D.an cs V Q k' N (g.n 2) (g.vl 0) g.l):ai w G (fL D w.2 S j oa A rs nw):=by
 obtain⟨c1,c2,c3,c4,c5⟩:=hc
 subst hA
 have zi:List.zip (aZ I2) (I2.map (·.2.2))=aN I2:=by
  have:∀l:List (Nat×Nat×Obj),List.zip (aZ l) (l.map (·.2.2))=aN l:=λ l=>by
   induction l with
   |nil=>rfl
   |cons x r ih=>exact congrArg (x.2:: ·) ih
  exact this I2
 refine ai.fold hz I2 3 [] c1.symm c2 c3 ?_ λ g hg=>?_
 ·show(aP w.2 S).Perm _
  rw[c4,L4]
  exact(q9 h).trans (L2 _)
 ·obtain⟨S',c',p',f1',f2',T',ts,el,hQ,hi,h1,h2,h3,sa,su⟩:=ha g hg
  have el:g.l.Perm (aP w.2 S'):=el
  obtain⟨og,o2,o3,o4⟩:=ho g (aP w.2 {S' with tail:=aN I2++S'.tail})
  refine k7.of og c3 ?_
  have t1:(D.f w.2 S g++I2.map (·.2.2)).drop 5=I2.map (·.2.2):=rfl
  refine⟨by simp[Rq.f,Rq.fx,Rq.i],?_,{g with l:=aP w.2 {S' with tail:=aN I2++S'.tail}},⟨_,c',p',f1',f2',V++T',ts,rfl,hq _ _ _ _ _ _ hQ,?_,h1,h2,h3,sa,su⟩,rfl,rfl,rfl,o2,rfl,?_,?_⟩
  ·show(((D.f w.2 S g++I2.map (·.2.2)).drop 5).all _)=true
   rw[t1,List.all_map];exact c5
  ·exact dD (gT hi (aN I2)) (ao _ _ _)
  ·show nw _=(nw g).take 3
   rw[Dy o4]
   exact o3
  ·show(bj w.2 S'++(aN I2++S'.tail)).Perm (List.zip (aZ I2) ((D.f w.2 S g++I2.map (·.2.2)).drop 5)++(g.l++((nw g).drop 3++[])))
   rw[t1,zi,Dz o4,L4,L4]
   exact(ao _ _ _).trans (el.symm.append_left _)
theorem rb{w:World}{G:Shared}{S:St}{c d:List Ch}{p r:List Pa}{T V:HL}{k k' N:Nat}{f1 f2:Str}{Z:SI}(D:Rq){cs:List Cl}{j:Nat->Nat}{oa:Nat}{A:Gh->Prop}{rs:Gh->Result}{nw:Gh->HL}(hz:ai w G Z)(j5:Nat)(I2:List (Nat×Nat×Obj))(Q:sL)(hq:di Q)
  (hf:∀S' c' p' f1' f2',Q S' c' p' f1' f2'->S'.fi=S.fi/\S'.fin=S.fin)
  (hA:A=bM w.2 S d r D.an cs Q k' N (aN I2))
  (h:aR w.2 S c d p r (aN I2++T) k f1 f2)
  (hc:Br D w S j oa I2 (ew w.2 (gC w.2 S c d p r T)) Z ((j5,S.a 7+822,oD S.fi S.fin)::I2))
  (ho:∀g l,Bs Z (λ g=>D.f w.2 S g++(oD S.fi S.fin::I2.map (·.2.2))) rs nw g l)
  (ha:∀g,Z.asm g->aw .b w.2 S d r D.an cs V Q k' N (g.n 2) (g.vl 0) g.l):ai w G (fL D w.2 S j oa A rs nw):=by
 obtain⟨c1,c2,c3,c4,c5⟩:=hc
 subst hA
 have zi:List.zip (aZ I2) (I2.map (·.2.2))=aN I2:=by
  have:∀l:List (Nat×Nat×Obj),List.zip (aZ l) (l.map (·.2.2))=aN l:=λ l=>by
   induction l with
   |nil=>rfl
   |cons x r ih=>exact congrArg (x.2:: ·) ih
  exact this I2
 have p5:∀S:St,(aP w.2 S).Perm ((S.a 7+822,oD S.fi S.fin)::ew w.2 S):=λ S=>(j8 (i:=5) rfl:(bj w.2 S).Perm ((S.a 7+822,oD S.fi S.fin)::fE w.2 S)).append_right _
 refine ai.fold hz ((j5,S.a 7+822,oD S.fi S.fin)::I2) 3 [] c1.symm c2 c3 ?_ λ g hg=>?_
 ·show(aP w.2 S).Perm _
  rw[c4,L4]
  refine(q9 h).trans (((p5 (gC w.2 S c d p r T)).append_left _).trans ?_)
  exact AF
 ·obtain⟨S',c',p',f1',f2',T',ts,el,hQ,hi,h1,h2,h3,sa,su⟩:=ha g hg
  have el:g.l.Perm (ew w.2 S'):=el
  obtain⟨e5,e6⟩:=hf _ _ _ _ _ hQ
  obtain⟨og,o2,o3,o4⟩:=ho g (aP w.2 {S' with tail:=aN I2++S'.tail})
  refine k7.of og c3 ?_
  have t1:(D.f w.2 S g++(oD S.fi S.fin::I2.map (·.2.2))).drop 5=oD S.fi S.fin::I2.map (·.2.2):=rfl
  refine⟨by simp[Rq.f,Rq.fx,Rq.i],?_,{g with l:=aP w.2 {S' with tail:=aN I2++S'.tail}},⟨_,c',p',f1',f2',V++T',ts,rfl,hq _ _ _ _ _ _ hQ,?_,h1,h2,h3,sa,su⟩,rfl,rfl,rfl,o2,rfl,?_,?_⟩
  ·show(((D.f w.2 S g++(oD S.fi S.fin::I2.map (·.2.2))).drop 5).all _)=true
   rw[t1]
   show(_&&(I2.map (·.2.2)).all _)=true
   rw[List.all_map,AC];exact⟨rfl,c5⟩
  ·exact dD (gT hi (aN I2)) (ao _ _ _)
  ·show nw _=(nw g).take 3
   rw[Dy o4]
   exact o3
  ·show(bj w.2 S'++(aN I2++S'.tail)).Perm (List.zip (aZ _) ((D.f w.2 S g++(oD S.fi S.fin::I2.map (·.2.2))).drop 5)++(g.l++((nw g).drop 3++[])))
   rw[t1,Dz o4,L4,L4]
   show List.Perm _ ((S.a 7+822,oD S.fi S.fin)::(List.zip (aZ I2) (I2.map (·.2.2))++g.l))
   rw[zi,<-e5,<-e6,<-sa]
   refine(ao _ _ _).trans (((p5 S').append_left _).trans ?_)
   exact AF.trans ((el.symm.append_left _).cons _)
noncomputable def St.s_tail(S:St)(t:HL):St:={S with tail:=t}
inductive QS(S:St)(c:List Ch)(p:List Pa)(f1 f2:Str)(S':St)(c':List Ch)(p':List Pa)(f1' f2':Str):Prop
 |mk (tl:_) (x1:S'=S.s_tail tl) (x2:c'=c/\p'=p/\f1'=f1/\f2'=f2)
inductive QG(S:St)(c:List Ch)(p:List Pa)(x y:T2)(f1 f2:Str)(S':St)(c':List Ch)(p':List Pa)(f1' f2':Str):Prop
 |mk (fl bt t tl:_) (x1:S'={S with fl:=fl,buf:=x.p (y.p f1 f2) S.buf,bt:=bt,rcn:=y.p 1 2,rt:=t,tail:=tl}) (x2:c'=c/\p'=p/\f1'=x.p f1 (y.p S.buf f1)/\f2'=x.p f2 (y.p f2 S.buf))
inductive QO(P:Params)(S:St)(c:List Ch)(p:List Pa)(k:Nat)(md:T3)(x:T4)(f1 f2:Str)(S':St)(c':List Ch)(p':List Pa)(f1' f2':Str):Prop
 |mk (fl X tl:_) (x1:S'={r4 S P fl X with tail:=tl}) (x2:c'=c++[X]/\p'=p/\f1'=f1/\f2'=f2/\X.k=(k+1:Nat)/\X.nm=ak k/\X.md=md.p fJ fK ff/\X.sz=x.p 128 3 4 5)
inductive QC(S:St)(c:List Ch)(p:List Pa)(f1 f2:Str)(ms:List Int)(S':St)(c':List Ch)(p':List Pa)(f1' f2':Str):Prop
 |mk (op n tl:_) (x1:S'={S with op:=op,opn:=n,tail:=tl}) (x2:c'=ms.foldl (λ c m=>i0 m c) c/\p'=p/\f1'=f1/\f2'=f2)
inductive QF(S:St)(c:List Ch)(p:List Pa)(ms:List (Int×Int))(f1 f2:Str)(S':St)(c':List Ch)(p':List Pa)(f1' f2':Str):Prop
 |mk (fi n tl:_) (x1:S'={S with fi:=fi,fin:=n,tail:=tl}) (x2:c'=c/\p'.map (λ x=>(x.at_,x.many))=setF ms (p.map λ x=>(x.at_,x.many))/\f1'=f1/\f2'=f2)
inductive QN(S:St)(c:List Ch)(p:List Pa)(f1 f2:Str)(S':St)(c':List Ch)(p':List Pa)(f1' f2':Str):Prop
 |mk (nm n tl:_) (x1:S'={S with nm:=nm,nmn:=n,tail:=tl}) (x2:c'=c/\p'=p/\f1'=f1/\f2'=f2)
inductive QP(S:St)(c:List Ch)(p:List Pa)(x y:T3)(f1 f2:Str)(S':St)(c':List Ch)(p':List Pa)(f1' f2':Str):Prop
 |mk (bt tl:_) (x1:S'={S with buf:=dI x y S.buf,bt:=bt,tail:=tl}) (x2:c'=c/\p'=p/\f1'=f1/\f2'=f2)
theorem eA{S:St}{c:List Ch}{p:List Pa}{f1 f2:Str}:di (QS S c p f1 f2):=λ _ _ _ _ _ tl hp=>by
  obtain⟨_,e,z⟩:=hp
  subst e;exact⟨tl,rfl,z⟩
theorem Eo{S:St}{c:List Ch}{p:List Pa}{f1 f2:Str}{x y:T2}:di (QG S c p x y f1 f2):=λ _ _ _ _ _ tl hp=>by
  obtain⟨_,_,_,_,e,z⟩:=hp
  subst e;exact⟨_,_,_,tl,rfl,z⟩
theorem DQ{P:Params}{S:St}{c:List Ch}{p:List Pa}{f1 f2:Str}{k:Nat}{md:T3}{x:T4}:di (QO P S c p k md x f1 f2):=λ _ _ _ _ _ tl hp=>by
  obtain⟨_,_,_,e,z⟩:=hp
  subst e;exact⟨_,_,tl,rfl,z⟩
theorem mY{S:St}{c:List Ch}{p:List Pa}{f1 f2:Str}{ms:List Int}:di (QC S c p f1 f2 ms):=λ _ _ _ _ _ tl hp=>by
  obtain⟨_,_,_,e,z⟩:=hp
  subst e;exact⟨_,_,tl,rfl,z⟩
theorem C4{S:St}{c:List Ch}{p:List Pa}{f1 f2:Str}{ms:List (Int×Int)}:di (QF S c p ms f1 f2):=λ _ _ _ _ _ tl hp=>by
  obtain⟨_,_,_,e,z⟩:=hp
  subst e;exact⟨_,_,tl,rfl,z⟩
theorem Ep{S:St}{c:List Ch}{p:List Pa}{f1 f2:Str}:di (QN S c p f1 f2):=λ _ _ _ _ _ tl hp=>by
  obtain⟨_,_,_,e,z⟩:=hp
  subst e;exact⟨_,_,tl,rfl,z⟩
theorem Eq{S:St}{c:List Ch}{p:List Pa}{f1 f2:Str}{x y:T3}:di (QP S c p x y f1 f2):=λ _ _ _ _ _ tl hp=>by
  obtain⟨_,_,e,z⟩:=hp
  subst e;exact⟨_,tl,rfl,z⟩
noncomputable def C5:Cl:=⟨0,0,0,0,0,0,.r 0⟩
def Rq.qd(D:Rq)(S:St)(L:HL)(j:Nat->Nat)(oa:Nat)(cs:List Cl)(ls:List Nat)(m:List Int)(s:List Str):Pr:={pr S L with a:=tk ([D.rn,D.rd,D.as,D.an,D.co,oa]++([0,1,2,3].map λ i=>(cs.getD i C5).t)++ls),u:=D.u,j:=j,m:=j7 m,s:=pe s}
section
variable {w:World}{G:Shared}{S:St}{c d:List Ch}{p r:List Pa}{V T:HL}{k N n:Nat}{f1 f2:Str}{D:Rq}{cs:List Cl}{j:Nat->Nat}{oa la:Nat}{c0 c1 c2 c3:Cl}{vs:List Value}{L:HL}{cd:Str}
theorem gj{X:HL}(b:T2)(h:aR w.2 S c d p r X k f1 f2):aw b w.2 S d r D.an cs V (QS S c p f1 f2) k 0 0 [] (hU b w.2 (gC w.2 S c d p r (aS w.2 D.an cs []++(V++T)))):=
 ⟨_,c,p,f1,f2,T,[],L2 _,⟨_,rfl,rfl,rfl,rfl,rfl⟩,kc h _,rfl,rfl,rfl,rfl,rfl⟩
theorem xG{P:Params}(h:aR P S c d p r T k f1 f2)(b:Str)(t:Nat)(n:Int)(t':Nat):aR P {S with buf:=b,bt:=t,rcn:=n,rt:=t'} c d p r T k f1 f2:=
 ⟨h.op,h.bo,h.fi,h.fin,h.bp,h.tl,h.pl,h.rl,h.cl,h.dl,h.ck,h.cn,h.dk,h.dn,h.nm,h.fl⟩
theorem p9{b:T2}{z':SI}{Q':sL}{k':Nat}(a:aw b w.2 S d r D.an cs V (QS S c p f1 f2) k N n vs L)
  (hz:∀tl T',aR w.2 (S.s_tail tl) c d p r T' k f1 f2->ai w G ⟨z'.code,z'.d,z'.idx,hU b w.2 (S.s_tail tl),λ g=>DP b w.2 (S.s_tail tl) d r T' Q' k' g.l,z'.out⟩)
  (hL:z'.L=L)(hA:z'.asm=λ g=>aw b w.2 S d r D.an cs V Q' k' N n vs g.l)(ho:∀g,(z'.out g).L=g.l):ai w G z':=
 Bq a (λ S' c' p' f1' f2' T' hp hi _ _=>by
  obtain⟨tl,e,e1,e2,e3,e4⟩:=hp
  subst e e1 e2 e3 e4
  exact hz tl T' hi) eA hL hA ho
theorem Bt(x y:T2)(t1 t2:Nat)(hk:k<=9)(hb:S.buf.cps.size=6)(h1:f1.cps.size=6)(h2:f2.cps.size=6)(a:aw .a w.2 S d r D.an cs V (QS S c p f1 f2) k N n vs L):
  ai w G ⟨.call (.ref (x.p 264 271)) ⟨x.p [rA (S.a 0),.int 9 t1,.int (y.p 1 2) t2] [rA (S.a 0),.int 9 t1,.int (y.p 1 2) t2,.int 2000 (S.u 9)],[]⟩,40,[(3,S.a 0+822,oW S.a),(4,S.a 1+822,bm w.2 S.a S.u)],L,λ g=>aw .a w.2 S d r D.an cs V (QG S c p x y f1 f2) k N n vs g.l,λ g=>⟨.ok (.ret .none),[oW S.a,bm w.2 S.a S.u],[],g.l⟩⟩:=
 p9 a (λ tl T' hi=>by
  cases x
  ·exact ai.im (zz hi hk hb h1 h2 y _ _ 3 4) (Nat.le_refl _) (L2 _) λ g hp=>by
    obtain⟨bt,el⟩:=hp
    exact⟨_,_,_,_,_,[],el,⟨_,_,_,_,rfl,rfl,rfl,rfl,rfl⟩,xG hi _ _ _ _,rfl,rfl⟩
  ·exact ai.as (zA hi hk hb h1 h2 y _ _ (S.u 9) 3 4) rfl (Nat.le_refl _) rfl (L2 _) λ g hp=>by
    obtain⟨S',el,⟨fl,e⟩,hi⟩:=hp
    exact⟨g,by
    subst e
    exact⟨_,_,_,_,_,[],el,⟨_,_,_,_,rfl,rfl,rfl,rfl,rfl⟩,hi,rfl,rfl⟩,rfl,rfl,rfl,rfl,rfl,rfl,L2 _⟩) rfl rfl λ _=>rfl
theorem vJ(md:T3)(x:T4)(t1 t2 t3 t4:Nat)(hk:k<=4)(a:aw .a w.2 S d r D.an cs V (QS S c p f1 f2) k N n vs L):
  ai w G ⟨au 175 [rA (S.a 0),.str (md.p fJ fK ff) t1,.int (k+1:Nat) t2,.str (ak k) t3,.int (x.p 128 3 4 5) t4],40,[(3,S.a 0+822,oW S.a),(4,S.a 1+822,bm w.2 S.a S.u)],L,λ g=>aw .a w.2 S d r D.an cs V (QO w.2 S c p k md x f1 f2) (k+1) N n vs g.l,λ g=>⟨.ok (.ret .none),[oW S.a,bm w.2 S.a S.u],[],g.l⟩⟩:=
 p9 a (λ tl T' hi=>by
  exact ai.im (xE hi hk md x t1 t2 t3 t4 3 4) (Nat.le_refl _) (L2 _) λ g hp=>by
    obtain⟨fl,X,el,x1,x2,x3,x4,hi⟩:=hp
    exact⟨_,_,_,_,_,[],el,⟨fl,X,_,rfl,rfl,rfl,rfl,rfl,x1,x2,x3,x4⟩,hi,rfl,rfl⟩) rfl rfl λ _=>rfl
theorem i3{ms:List Int}(m:Int)(h9:m≠9)(t:Nat)(hk:k<=5)(a:aw .a w.2 S d r D.an cs V (QC S c p f1 f2 ms) k N n vs L):
  ai w G ⟨au 196 [rA (S.a 0),.int m t],40,[(3,S.a 0+822,oW S.a),(4,S.a 1+822,bm w.2 S.a S.u)],L,λ g=>aw .a w.2 S d r D.an cs V (QC S c p f1 f2 (ms++[m])) k N n vs g.l,λ g=>⟨.ok (.ret .none),[oW S.a,bm w.2 S.a S.u],[],g.l⟩⟩:=
 Bq a (λ S' c' p' f1' f2' T' hp hi _ _=>by
  obtain⟨op,no,tl,e,e1,e2,e3,e4⟩:=hp
  subst e e1 e2 e3 e4
  exact ai.im (vE hi hk m h9 t 3 4) (Nat.le_refl _) (L2 _) λ g hp=>by
    obtain⟨op,no,D,el,hi⟩:=hp
    exact⟨_,_,_,_,_,D,el,⟨op,no,_,rfl,by rw[List.foldl_append];rfl,rfl,rfl,rfl⟩,hi,rfl,rfl⟩) mY rfl rfl λ _=>rfl
theorem yJ{c0:Cl}{b:T2}{Q:sL}{Y:Gh->Prop}(e:gB w G V c0.v)(a:aw b w.2 S d r D.an cs V Q k N n vs L)(hY:∀g,Y g):ai w G ⟨au 142 [c0.v.v],40,[],L,Y,λ g=>⟨.error (rA (g.n 7)),[],dN w.2 b9 g,L⟩⟩:=by
 obtain⟨S',c',p',f1',f2',T',ts,pL,q1,hi,z⟩:=a
 have:=(pL.trans (c6 b hi)).trans (((Bp (P:=w.2) (c:=c') (d:=d) (p:=p') (r:=r) (V:=V) (T:=T') (b.p (bj w.2 S') (fE w.2 S'))).append_left _).trans (ao _ _ _))
 exact ai.im (e _ _ this) (Nat.le_refl _) (L2 _) λ g _=>hY g
theorem zM(m0:Int)(q0:0<=m0/\m0<=2)(la a0 t9 t0 k0:Nat)(j:Nat->Nat)(hb:S.buf.cps.size=6)(a:aw .a w.2 S d r D.an cs V (QS S c p f1 f2) k N n vs L):
  ai w G ⟨au 208 [rA (S.a 0),.int 9 t9,rA la],40,[(j 0,la+822,lO 1 [rA a0]),(j 1,a0+822,tO [.int m0 t0,.str ad k0]),(3,S.a 0+822,oW S.a),(4,S.a 1+822,bm w.2 S.a S.u)],L,λ g=>aw .a w.2 S d r D.an cs V (QF S c p [(0,m0)] f1 f2) k N n vs g.l,λ g=>⟨.ok (.ret .none),[lO 1 [rA a0],tO [.int m0 t0,.str ad k0],oW S.a,bm w.2 S.a S.u],[],g.l⟩⟩:=
 p9 a (λ tl T' hi=>by
  exact ai.im (r7 hi hb m0 q0 la a0 t9 t0 k0 (j 0) (j 1) 3 4) (Nat.le_refl _) (L2 _) λ g hp=>by
    obtain⟨p2,D,tl,el,e,hi⟩:=hp
    exact⟨_,_,_,_,_,D,el,⟨_,_,_,rfl,rfl,e,rfl,rfl⟩,hi,rfl,rfl⟩) rfl rfl λ _=>rfl
theorem zN(m0 m1:Int)(q0:0<=m0/\m0<=2)(q1:0<=m1/\m1<=2)(la a0 a1 t9 t0 t1 k0 k1:Nat)(j:Nat->Nat)(hb:S.buf.cps.size=6)(a:aw .a w.2 S d r D.an cs V (QS S c p f1 f2) k N n vs L):
  ai w G ⟨au 208 [rA (S.a 0),.int 9 t9,rA la],40,[(j 0,la+822,lO 2 [rA a0,rA a1]),(j 1,a0+822,tO [.int m0 t0,.str ad k0]),(j 2,a1+822,tO [.int m1 t1,.str av k1]),(3,S.a 0+822,oW S.a),(4,S.a 1+822,bm w.2 S.a S.u)],L,λ g=>aw .a w.2 S d r D.an cs V (QF S c p [(0,m0),(0+m0,m1)] f1 f2) k N n vs g.l,λ g=>⟨.ok (.ret .none),[lO 2 [rA a0,rA a1],tO [.int m0 t0,.str ad k0],tO [.int m1 t1,.str av k1],oW S.a,bm w.2 S.a S.u],[],g.l⟩⟩:=
 p9 a (λ tl T' hi=>by
  exact ai.im (r8 hi hb m0 m1 q0 q1 la a0 a1 t9 t0 t1 k0 k1 (j 0) (j 1) (j 2) 3 4) (Nat.le_refl _) (L2 _) λ g hp=>by
    obtain⟨p2,D,tl,el,e,hi⟩:=hp
    exact⟨_,_,_,_,_,D,el,⟨_,_,_,rfl,rfl,e,rfl,rfl⟩,hi,rfl,rfl⟩) rfl rfl λ _=>rfl
theorem zO(m0 m1 m2:Int)(q0:0<=m0/\m0<=2)(q1:0<=m1/\m1<=2)(q2:0<=m2/\m2<=2)(la a0 a1 a2 t9 t0 t1 t2 k0 k1 k2:Nat)(j:Nat->Nat)(hb:S.buf.cps.size=6)(a:aw .a w.2 S d r D.an cs V (QS S c p f1 f2) k N n vs L):
  ai w G ⟨au 208 [rA (S.a 0),.int 9 t9,rA la],40,[(j 0,la+822,lO 3 [rA a0,rA a1,rA a2]),(j 1,a0+822,tO [.int m0 t0,.str ad k0]),(j 2,a1+822,tO [.int m1 t1,.str av k1]),(j 3,a2+822,tO [.int m2 t2,.str bb k2]),(3,S.a 0+822,oW S.a),(4,S.a 1+822,bm w.2 S.a S.u)],L,λ g=>aw .a w.2 S d r D.an cs V (QF S c p [(0,m0),(0+m0,m1),((0+m0)+m1,m2)] f1 f2) k N n vs g.l,λ g=>⟨.ok (.ret .none),[lO 3 [rA a0,rA a1,rA a2],tO [.int m0 t0,.str ad k0],tO [.int m1 t1,.str av k1],tO [.int m2 t2,.str bb k2],oW S.a,bm w.2 S.a S.u],[],g.l⟩⟩:=
 p9 a (λ tl T' hi=>by
  exact ai.im (r9 hi hb m0 m1 m2 q0 q1 q2 la a0 a1 a2 t9 t0 t1 t2 k0 k1 k2 (j 0) (j 1) (j 2) (j 3) 3 4) (Nat.le_refl _) (L2 _) λ g hp=>by
    obtain⟨p2,D,tl,el,e,hi⟩:=hp
    exact⟨_,_,_,_,_,D,el,⟨_,_,_,rfl,rfl,e,rfl,rfl⟩,hi,rfl,rfl⟩) rfl rfl λ _=>rfl
theorem vK(x y:T2)(hc0:cs[0]? =some c0)(hc1:cs[1]? =some c1)(h4:cs.length<=4)(e0:aY w G V c0.v 9)(e1:aY w G V c1.v (y.p 1 2))(hk:k<=9)(hb:S.buf.cps.size=6)(h1:f1.cps.size=6)(h2:f2.cps.size=6)
  (h:aR w.2 S c d p r ([(oa+822,tO [.str (x.p eN eO) (D.u 9),rA c0.t,rA c1.t])]++(aS w.2 D.an cs []++(V++T))) k f1 f2):
  ai w G (fL D w.2 S j oa (bM w.2 S d r D.an cs (QG S c p x y f1 f2) k 2 [(oa+822,tO [.str (x.p eN eO) (D.u 9),rA c0.t,rA c1.t])]) (λ _=>.ok (.ret .none)) λ _=>[]):=by
 let L:=hU .a w.2 (gC w.2 S c d p r (aS w.2 D.an cs []++(V++T)))
 let q:Pr:={D.qd S L j oa [c0,c1] [] [9,y.p 1 2] [] with c:=λ _=>0}
 let A:AA:=λ n gs=>match n,gs with |0,[g]=>aw .a w.2 S d r D.an cs V (QS S c p f1 f2) k 1 (g.n 2) (g.vl 0) g.l |1,[_,g]=>aw .a w.2 S d r D.an cs V (QS S c p f1 f2) k 2 (g.n 2) (g.vl 0) g.l |2,[_,h,g]=>aw .a w.2 S d r D.an cs V (QG S c p x y f1 f2) k 2 (h.n 2) (h.vl 0) g.l |99,[g]=>aw .a w.2 S d r D.an cs V (QG S c p x y f1 f2) k 2 (g.n 2) (g.vl 0) g.l |_,_=>True
 have hz:=rB.sat w G q x A λ b t=>⟨cR eA hc0 h4 e0 (gj .a h),λ g0 a0=>⟨cR eA hc1 h4 e1 a0,λ g1 a1=>⟨Bt x y _ _ hk hb h1 h2 a1,λ g2 a2=>λ sl _=>a2⟩⟩⟩
 exact bO D hz ((rB.D w.2 q x dh).i.drop 5) (QG S c p x y f1 f2) Eo rfl h ⟨rfl,show 41<=60 by decide,rfl,rfl,rfl⟩ (λ g l=>⟨rfl,rfl,rfl,Nat.zero_le _⟩) λ g hg=>hg
theorem qa(x:T2)(a1:Nat)(hc0:cs[0]? =some c0)(h4:cs.length<=4)(e0:cI w G V c0.v cd)
  (h:aR w.2 S c d p r ([(oa+822,tO [.str (x.p eN eO) (D.u 9),rA c0.t,rA a1])]++(aS w.2 D.an cs []++(V++T))) k f1 f2):
  ai w G (fL D w.2 S j oa (bM w.2 S d r D.an cs (QS S c p f1 f2) k 1 [(oa+822,tO [.str (x.p eN eO) (D.u 9),rA c0.t,rA a1])]) (λ g=>.error (rA (g.n 7))) λ g=>dN w.2 cd g):=by
 let L:=hU .a w.2 (gC w.2 S c d p r (aS w.2 D.an cs []++(V++T)))
 let q:Pr:={D.qd S L j oa [c0,{C5 with t:=a1}] [] [9] [aa,aa,aa,aa,aa,cd] with c:=λ _=>0}
 let A:AA:=λ n gs=>match n,gs with |0,[g]=>aw .a w.2 S d r D.an cs V (QS S c p f1 f2) k 1 (g.n 2) (g.vl 0) g.l |99,[g]=>aw .a w.2 S d r D.an cs V (QS S c p f1 f2) k 1 (g.n 2) (g.vl 0) g.l |_,_=>True
 have hz:=ki.sat w G q x A λ b t=>⟨gD eA hc0 h4 e0 (gj .a h),λ g0 a0=>λ g1=>λ sl _=>a0⟩
 exact bO D hz ((ki.D w.2 q x dh).i.drop 5) (QS S c p f1 f2) eA rfl h ⟨rfl,show 41<=60 by decide,rfl,rfl,rfl⟩ (λ g l=>⟨rfl,rfl,rfl,Nat.le_refl _⟩) λ g hg=>hg
theorem qb(x:T2)(hc0:cs[0]? =some c0)(hc1:cs[1]? =some c1)(h4:cs.length<=4)(e0:aY w G V c0.v 9)(e1:cI w G V c1.v cd)
  (h:aR w.2 S c d p r ([(oa+822,tO [.str (x.p eN eO) (D.u 9),rA c0.t,rA c1.t])]++(aS w.2 D.an cs []++(V++T))) k f1 f2):
  ai w G (fL D w.2 S j oa (bM w.2 S d r D.an cs (QS S c p f1 f2) k 2 [(oa+822,tO [.str (x.p eN eO) (D.u 9),rA c0.t,rA c1.t])]) (λ g=>.error (rA (g.n 7))) λ g=>dN w.2 cd g):=by
 let L:=hU .a w.2 (gC w.2 S c d p r (aS w.2 D.an cs []++(V++T)))
 let q:Pr:={D.qd S L j oa [c0,c1] [] [9] [aa,aa,aa,aa,aa,cd] with c:=λ _=>0}
 let A:AA:=λ n gs=>match n,gs with |0,[g]=>aw .a w.2 S d r D.an cs V (QS S c p f1 f2) k 1 (g.n 2) (g.vl 0) g.l |1,[_,g]=>aw .a w.2 S d r D.an cs V (QS S c p f1 f2) k 2 (g.n 2) (g.vl 0) g.l |99,[g]=>aw .a w.2 S d r D.an cs V (QS S c p f1 f2) k 2 (g.n 2) (g.vl 0) g.l |_,_=>True
 have hz:=kj.sat w G q x A λ b t=>⟨cR eA hc0 h4 e0 (gj .a h),λ g0 a0=>⟨gD eA hc1 h4 e1 a0,λ g1 a1=>λ g2=>λ sl _=>a1⟩⟩
 exact bO D hz ((kj.D w.2 q x dh).i.drop 5) (QS S c p f1 f2) eA rfl h ⟨rfl,show 41<=60 by decide,rfl,rfl,rfl⟩ (λ g l=>⟨rfl,rfl,rfl,Nat.le_refl _⟩) λ g hg=>hg
theorem qc(md:T3)(ub:Nat)(hc0:cs[0]? =some c0)(hc1:cs[1]? =some c1)(h4:cs.length<=4)(hv:c0.v.v= .str (ak k) ub)(e1:aY w G V c1.v (k+1:Nat))(hk:k<=4)
  (h:aR w.2 S c d p r ([(oa+822,tO [.str bv (D.u 9),.str (md.p fJ fK ff) (D.u 10),rA c1.t,rA c0.t,.none])]++(aS w.2 D.an cs []++(V++T))) k f1 f2):
  ai w G (fL D w.2 S j oa (bM w.2 S d r D.an cs (QO w.2 S c p k md .a f1 f2) (k+1) 2 [(oa+822,tO [.str bv (D.u 9),.str (md.p fJ fK ff) (D.u 10),rA c1.t,rA c0.t,.none])]) (λ _=>.ok (.ret .none)) λ _=>[]):=by
 let L:=hU .a w.2 (gC w.2 S c d p r (aS w.2 D.an cs []++(V++T)))
 let q:Pr:={D.qd S L j oa [c0,c1] [] [(k+1:Nat)] [ak k,aa,aa,aa,md.p fJ fK ff] with c:=λ _=>ub}
 let A:AA:=λ n gs=>match n,gs with |0,[g]=>aw .a w.2 S d r D.an cs V (QS S c p f1 f2) k 1 (g.n 2) (g.vl 0) g.l |1,[_,g]=>aw .a w.2 S d r D.an cs V (QS S c p f1 f2) k 2 (g.n 2) (g.vl 0) g.l |2,[_,h,g]=>aw .a w.2 S d r D.an cs V (QO w.2 S c p k md .a f1 f2) (k+1) 2 (h.n 2) (h.vl 0) g.l |99,[g]=>aw .a w.2 S d r D.an cs V (QO w.2 S c p k md .a f1 f2) (k+1) 2 (g.n 2) (g.vl 0) g.l |_,_=>True
 have hz:=kk.sat w G q A λ b t=>⟨oz hv eA hc0 h4 (gj .a h),λ g0 a0=>⟨cR eA hc1 h4 e1 a0,λ g1 a1=>⟨vJ md .a _ _ _ _ hk a1,λ g2 a2=>λ sl _=>a2⟩⟩⟩
 exact bO D hz ((kk.D w.2 q dh).i.drop 5) (QO w.2 S c p k md .a f1 f2) DQ rfl h ⟨rfl,show 41<=60 by decide,rfl,rfl,rfl⟩ (λ g l=>⟨rfl,rfl,rfl,Nat.zero_le _⟩) λ g hg=>hg
theorem qe(md:T3)(x:T4)(ub:Nat)(hc0:cs[0]? =some c0)(hc1:cs[1]? =some c1)(hc2:cs[2]? =some c2)(h4:cs.length<=4)(hv:c0.v.v= .str (ak k) ub)(e1:aY w G V c1.v (k+1:Nat))(e2:aY w G V c2.v (x.p 128 3 4 5))(hk:k<=4)
  (h:aR w.2 S c d p r ([(oa+822,tO [.str bv (D.u 9),.str (md.p fJ fK ff) (D.u 10),rA c1.t,rA c0.t,rA c2.t])]++(aS w.2 D.an cs []++(V++T))) k f1 f2):
  ai w G (fL D w.2 S j oa (bM w.2 S d r D.an cs (QO w.2 S c p k md x f1 f2) (k+1) 3 [(oa+822,tO [.str bv (D.u 9),.str (md.p fJ fK ff) (D.u 10),rA c1.t,rA c0.t,rA c2.t])]) (λ _=>.ok (.ret .none)) λ _=>[]):=by
 let L:=hU .a w.2 (gC w.2 S c d p r (aS w.2 D.an cs []++(V++T)))
 let q:Pr:={D.qd S L j oa [c0,c1,c2] [] [(k+1:Nat),x.p 128 3 4 5] [ak k,aa,aa,aa,md.p fJ fK ff] with c:=λ _=>ub}
 let A:AA:=λ n gs=>match n,gs with |0,[g]=>aw .a w.2 S d r D.an cs V (QS S c p f1 f2) k 1 (g.n 2) (g.vl 0) g.l |1,[_,g]=>aw .a w.2 S d r D.an cs V (QS S c p f1 f2) k 2 (g.n 2) (g.vl 0) g.l |2,[_,_,g]=>aw .a w.2 S d r D.an cs V (QS S c p f1 f2) k 3 (g.n 2) (g.vl 0) g.l |3,[_,_,h,g]=>aw .a w.2 S d r D.an cs V (QO w.2 S c p k md x f1 f2) (k+1) 3 (h.n 2) (h.vl 0) g.l |99,[g]=>aw .a w.2 S d r D.an cs V (QO w.2 S c p k md x f1 f2) (k+1) 3 (g.n 2) (g.vl 0) g.l |_,_=>True
 have hz:=kl.sat w G q A λ b t=>⟨oz hv eA hc0 h4 (gj .a h),λ g0 a0=>⟨cR eA hc1 h4 e1 a0,λ g1 a1=>⟨cR eA hc2 h4 e2 a1,λ g2 a2=>⟨vJ md x _ _ _ _ hk a2,λ g3 a3=>λ sl _=>a3⟩⟩⟩⟩
 exact bO D hz ((kl.D w.2 q dh).i.drop 5) (QO w.2 S c p k md x f1 f2) DQ rfl h ⟨rfl,show 41<=60 by decide,rfl,rfl,rfl⟩ (λ g l=>⟨rfl,rfl,rfl,Nat.zero_le _⟩) λ g hg=>hg
theorem fj(md:T3)(a1:Nat)(v0:Value)(hc0:cs[0]? =some c0)(h4:cs.length<=4)(e0:gB w G V c0.v)
  (h:aR w.2 S c d p r ([(oa+822,tO [.str bv (D.u 9),.str (md.p fJ fK ff) (D.u 10),rA a1,rA c0.t,v0])]++(aS w.2 D.an cs []++(V++T))) k f1 f2):
  ai w G (fL D w.2 S j oa (bM w.2 S d r D.an cs (QS S c p f1 f2) k 1 [(oa+822,tO [.str bv (D.u 9),.str (md.p fJ fK ff) (D.u 10),rA a1,rA c0.t,v0])]) (λ g=>.error (rA (g.n 7))) λ g=>dN w.2 b9 g):=by
 let L:=hU .a w.2 (gC w.2 S c d p r (aS w.2 D.an cs []++(V++T)))
 let q:Pr:={D.qd S L j oa [c0,{C5 with t:=a1}] [] [] [ak k,aa,aa,aa,md.p fJ fK ff,b9] with v:=λ _=>v0}
 let A:AA:=λ n gs=>match n,gs with |0,[g]=>aw .a w.2 S d r D.an cs V (QS S c p f1 f2) k 1 (g.n 2) (g.vl 0) g.l |99,[g]=>aw .a w.2 S d r D.an cs V (QS S c p f1 f2) k 1 (g.n 2) (g.vl 0) g.l |_,_=>True
 have hz:=jb.sat w G q c0.v A λ b t=>⟨oz rfl eA hc0 h4 (gj .a h),λ g0 a0=>⟨yJ e0 a0 (λ _=>trivial),λ g1 _=>λ g2=>λ sl _=>a0⟩⟩
 exact bO D hz ((jb.D w.2 q c0.v dh).i.drop 5) (QS S c p f1 f2) eA rfl h ⟨rfl,show 41<=60 by decide,rfl,rfl,rfl⟩ (λ g l=>⟨rfl,rfl,rfl,Nat.le_refl _⟩) λ g hg=>hg
theorem fk(md:T3)(ub:Nat)(v0:Value)(hc0:cs[0]? =some c0)(hc1:cs[1]? =some c1)(h4:cs.length<=4)(hv:c0.v.v= .str (ak k) ub)(e1:cI w G V c1.v cd)
  (h:aR w.2 S c d p r ([(oa+822,tO [.str bv (D.u 9),.str (md.p fJ fK ff) (D.u 10),rA c1.t,rA c0.t,v0])]++(aS w.2 D.an cs []++(V++T))) k f1 f2):
  ai w G (fL D w.2 S j oa (bM w.2 S d r D.an cs (QS S c p f1 f2) k 2 [(oa+822,tO [.str bv (D.u 9),.str (md.p fJ fK ff) (D.u 10),rA c1.t,rA c0.t,v0])]) (λ g=>.error (rA (g.n 7))) λ g=>dN w.2 cd g):=by
 let L:=hU .a w.2 (gC w.2 S c d p r (aS w.2 D.an cs []++(V++T)))
 let q:Pr:={D.qd S L j oa [c0,c1] [] [] [ak k,aa,aa,aa,md.p fJ fK ff,cd] with v:=λ _=>v0,c:=λ _=>ub}
 let A:AA:=λ n gs=>match n,gs with |0,[g]=>aw .a w.2 S d r D.an cs V (QS S c p f1 f2) k 1 (g.n 2) (g.vl 0) g.l |1,[_,g]=>aw .a w.2 S d r D.an cs V (QS S c p f1 f2) k 2 (g.n 2) (g.vl 0) g.l |99,[g]=>aw .a w.2 S d r D.an cs V (QS S c p f1 f2) k 2 (g.n 2) (g.vl 0) g.l |_,_=>True
 have hz:=jc.sat w G q A λ b t=>⟨oz hv eA hc0 h4 (gj .a h),λ g0 a0=>⟨gD eA hc1 h4 e1 a0,λ g1 a1=>λ g2=>λ sl _=>a1⟩⟩
 exact bO D hz ((jc.D w.2 q dh).i.drop 5) (QS S c p f1 f2) eA rfl h ⟨rfl,show 41<=60 by decide,rfl,rfl,rfl⟩ (λ g l=>⟨rfl,rfl,rfl,Nat.le_refl _⟩) λ g hg=>hg
theorem gE(md:T3)(ub:Nat)(hc0:cs[0]? =some c0)(hc1:cs[1]? =some c1)(hc2:cs[2]? =some c2)(h4:cs.length<=4)(hv:c0.v.v= .str (ak k) ub)(e1:aY w G V c1.v (k+1:Nat))(e2:cI w G V c2.v cd)
  (h:aR w.2 S c d p r ([(oa+822,tO [.str bv (D.u 9),.str (md.p fJ fK ff) (D.u 10),rA c1.t,rA c0.t,rA c2.t])]++(aS w.2 D.an cs []++(V++T))) k f1 f2):
  ai w G (fL D w.2 S j oa (bM w.2 S d r D.an cs (QS S c p f1 f2) k 3 [(oa+822,tO [.str bv (D.u 9),.str (md.p fJ fK ff) (D.u 10),rA c1.t,rA c0.t,rA c2.t])]) (λ g=>.error (rA (g.n 7))) λ g=>dN w.2 cd g):=by
 let L:=hU .a w.2 (gC w.2 S c d p r (aS w.2 D.an cs []++(V++T)))
 let q:Pr:={D.qd S L j oa [c0,c1,c2] [] [(k+1:Nat)] [ak k,aa,aa,aa,md.p fJ fK ff,cd] with c:=λ _=>ub}
 let A:AA:=λ n gs=>match n,gs with |0,[g]=>aw .a w.2 S d r D.an cs V (QS S c p f1 f2) k 1 (g.n 2) (g.vl 0) g.l |1,[_,g]=>aw .a w.2 S d r D.an cs V (QS S c p f1 f2) k 2 (g.n 2) (g.vl 0) g.l |2,[_,_,g]=>aw .a w.2 S d r D.an cs V (QS S c p f1 f2) k 3 (g.n 2) (g.vl 0) g.l |99,[g]=>aw .a w.2 S d r D.an cs V (QS S c p f1 f2) k 3 (g.n 2) (g.vl 0) g.l |_,_=>True
 have hz:=jd.sat w G q A λ b t=>⟨oz hv eA hc0 h4 (gj .a h),λ g0 a0=>⟨cR eA hc1 h4 e1 a0,λ g1 a1=>⟨gD eA hc2 h4 e2 a1,λ g2 a2=>λ g3=>λ sl _=>a2⟩⟩⟩
 exact bO D hz ((jd.D w.2 q dh).i.drop 5) (QS S c p f1 f2) eA rfl h ⟨rfl,show 41<=60 by decide,rfl,rfl,rfl⟩ (λ g l=>⟨rfl,rfl,rfl,Nat.le_refl _⟩) λ g hg=>hg
theorem mt{X:HL}(b:T2)(h:aR w.2 S c d p r X k f1 f2):aw b w.2 S d r D.an cs V (QC S c p f1 f2 []) k 0 0 [] (hU b w.2 (gC w.2 S c d p r (aS w.2 D.an cs []++(V++T)))):=
 ⟨_,c,p,f1,f2,T,[],L2 _,⟨_,_,_,rfl,rfl,rfl,rfl,rfl⟩,kc h _,rfl,rfl,rfl,rfl,rfl⟩
theorem sb(m0:Int)(hc0:cs[0]? =some c0)(h4:cs.length<=4)(q0:m0≠9)(e0:aY w G V c0.v m0)(hk:k<=5)
  (h:aR w.2 S c d p r ([(oa+822,tO [.str aC (D.u 9),rA la]),(la+822,lO 0 [rA c0.t])]++(aS w.2 D.an cs []++(V++T))) k f1 f2):
  ai w G (fL D w.2 S j oa (bM w.2 S d r D.an cs (QC S c p f1 f2 [m0]) k 1 [(oa+822,tO [.str aC (D.u 9),rA la]),(la+822,lO 0 [rA c0.t])]) (λ _=>.ok (.ret .none)) λ _=>[]):=by
 let L:=hU .a w.2 (gC w.2 S c d p r (aS w.2 D.an cs []++(V++T)))
 let q:Pr:={D.qd S L j oa [c0] [la] [m0] [] with c:=λ _=>0}
 let A:AA:=λ n gs=>match n,gs with |0,[g]=>aw .a w.2 S d r D.an cs V (QC S c p f1 f2 []) k 1 (g.n 2) (g.vl 0) g.l |1,[h,g]=>aw .a w.2 S d r D.an cs V (QC S c p f1 f2 [m0]) k 1 (h.n 2) (h.vl 0) g.l |99,[g]=>aw .a w.2 S d r D.an cs V (QC S c p f1 f2 [m0]) k 1 (g.n 2) (g.vl 0) g.l |_,_=>True
 have hz:=ni.sat w G q A λ b t=>⟨cR mY hc0 h4 e0 (mt .a h),λ g0 a0=>⟨i3 m0 q0 _ hk a0,λ g1 a1=>λ sl _=>a1⟩⟩
 exact bO D hz ((ni.D w.2 q dh).i.drop 5) (QC S c p f1 f2 [m0]) mY rfl h ⟨rfl,show 42<=60 by decide,rfl,rfl,rfl⟩ (λ g l=>⟨rfl,rfl,rfl,Nat.zero_le _⟩) λ g hg=>hg
theorem ij(nl:Nat)(lt:List Value)(hc0:cs[0]? =some c0)(h4:cs.length<=4)(e0:cI w G V c0.v cd)(hk:k<=5)
  (h:aR w.2 S c d p r ([(oa+822,tO [.str aC (D.u 9),rA la]),(la+822,lO nl (rA c0.t::lt))]++(aS w.2 D.an cs []++(V++T))) k f1 f2):
  ai w G (fL D w.2 S j oa (bM w.2 S d r D.an cs (QC S c p f1 f2 []) k 1 [(oa+822,tO [.str aC (D.u 9),rA la]),(la+822,lO nl (rA c0.t::lt))]) (λ g=>.error (rA (g.n 7))) λ g=>dN w.2 cd g):=by
 let L:=hU .a w.2 (gC w.2 S c d p r (aS w.2 D.an cs []++(V++T)))
 let q:Pr:={D.qd S L j oa [c0] [la] [] [aa,aa,aa,aa,aa,cd] with l:=λ i=>if i=1 then lt else [],en:=λ i=>if i=2 then nl else 0}
 let A:AA:=λ n gs=>match n,gs with |0,[g]=>aw .a w.2 S d r D.an cs V (QC S c p f1 f2 []) k 1 (g.n 2) (g.vl 0) g.l |99,[g]=>aw .a w.2 S d r D.an cs V (QC S c p f1 f2 []) k 1 (g.n 2) (g.vl 0) g.l |_,_=>True
 have hz:=km.sat w G q A λ b t=>⟨gD mY hc0 h4 e0 (mt .a h),λ g0 a0=>λ g1=>λ sl _=>a0⟩
 exact bO D hz ((km.D w.2 q dh).i.drop 5) (QC S c p f1 f2 []) mY rfl h ⟨rfl,show 42<=60 by decide,rfl,rfl,rfl⟩ (λ g l=>⟨rfl,rfl,rfl,Nat.le_refl _⟩) λ g hg=>hg
theorem sf(m0 m1:Int)(hc0:cs[0]? =some c0)(hc1:cs[1]? =some c1)(h4:cs.length<=4)(q0:m0≠9)(e0:aY w G V c0.v m0)(q1:m1≠9)(e1:aY w G V c1.v m1)(hk:k<=5)
  (h:aR w.2 S c d p r ([(oa+822,tO [.str aC (D.u 9),rA la]),(la+822,lO 0 [rA c0.t,rA c1.t])]++(aS w.2 D.an cs []++(V++T))) k f1 f2):
  ai w G (fL D w.2 S j oa (bM w.2 S d r D.an cs (QC S c p f1 f2 [m0,m1]) k 2 [(oa+822,tO [.str aC (D.u 9),rA la]),(la+822,lO 0 [rA c0.t,rA c1.t])]) (λ _=>.ok (.ret .none)) λ _=>[]):=by
 let L:=hU .a w.2 (gC w.2 S c d p r (aS w.2 D.an cs []++(V++T)))
 let q:Pr:={D.qd S L j oa [c0,c1] [la] [m0,m1] [] with c:=λ _=>0}
 let A:AA:=λ n gs=>match n,gs with |0,[g]=>aw .a w.2 S d r D.an cs V (QC S c p f1 f2 []) k 1 (g.n 2) (g.vl 0) g.l |1,[h,g]=>aw .a w.2 S d r D.an cs V (QC S c p f1 f2 [m0]) k 1 (h.n 2) (h.vl 0) g.l |2,[_,_,g]=>aw .a w.2 S d r D.an cs V (QC S c p f1 f2 [m0]) k 2 (g.n 2) (g.vl 0) g.l |3,[_,_,h,g]=>aw .a w.2 S d r D.an cs V (QC S c p f1 f2 [m0,m1]) k 2 (h.n 2) (h.vl 0) g.l |99,[g]=>aw .a w.2 S d r D.an cs V (QC S c p f1 f2 [m0,m1]) k 2 (g.n 2) (g.vl 0) g.l |_,_=>True
 have hz:=nj.sat w G q A λ b t=>⟨cR mY hc0 h4 e0 (mt .a h),λ g0 a0=>⟨i3 m0 q0 _ hk a0,λ g1 a1=>⟨cR mY hc1 h4 e1 a1,λ g2 a2=>⟨i3 m1 q1 _ hk a2,λ g3 a3=>λ sl _=>a3⟩⟩⟩⟩
 exact bO D hz ((nj.D w.2 q dh).i.drop 5) (QC S c p f1 f2 [m0,m1]) mY rfl h ⟨rfl,show 42<=60 by decide,rfl,rfl,rfl⟩ (λ g l=>⟨rfl,rfl,rfl,Nat.zero_le _⟩) λ g hg=>hg
theorem lj(m0:Int)(nl:Nat)(lt:List Value)(hc0:cs[0]? =some c0)(hc1:cs[1]? =some c1)(h4:cs.length<=4)(q0:m0≠9)(e0:aY w G V c0.v m0)(e1:cI w G V c1.v cd)(hk:k<=5)
  (h:aR w.2 S c d p r ([(oa+822,tO [.str aC (D.u 9),rA la]),(la+822,lO nl (rA c0.t::rA c1.t::lt))]++(aS w.2 D.an cs []++(V++T))) k f1 f2):
  ai w G (fL D w.2 S j oa (bM w.2 S d r D.an cs (QC S c p f1 f2 [m0]) k 2 [(oa+822,tO [.str aC (D.u 9),rA la]),(la+822,lO nl (rA c0.t::rA c1.t::lt))]) (λ g=>.error (rA (g.n 7))) λ g=>dN w.2 cd g):=by
 let L:=hU .a w.2 (gC w.2 S c d p r (aS w.2 D.an cs []++(V++T)))
 let q:Pr:={D.qd S L j oa [c0,c1] [la] [m0] [aa,aa,aa,aa,aa,cd] with l:=λ i=>if i=1 then lt else [],en:=λ i=>if i=2 then nl else 0}
 let A:AA:=λ n gs=>match n,gs with |0,[g]=>aw .a w.2 S d r D.an cs V (QC S c p f1 f2 []) k 1 (g.n 2) (g.vl 0) g.l |1,[h,g]=>aw .a w.2 S d r D.an cs V (QC S c p f1 f2 [m0]) k 1 (h.n 2) (h.vl 0) g.l |2,[_,_,g]=>aw .a w.2 S d r D.an cs V (QC S c p f1 f2 [m0]) k 2 (g.n 2) (g.vl 0) g.l |99,[g]=>aw .a w.2 S d r D.an cs V (QC S c p f1 f2 [m0]) k 2 (g.n 2) (g.vl 0) g.l |_,_=>True
 have hz:=ko.sat w G q A λ b t=>⟨cR mY hc0 h4 e0 (mt .a h),λ g0 a0=>⟨i3 m0 q0 _ hk a0,λ g1 a1=>⟨gD mY hc1 h4 e1 a1,λ g2 a2=>λ g3=>λ sl _=>a2⟩⟩⟩
 exact bO D hz ((ko.D w.2 q dh).i.drop 5) (QC S c p f1 f2 [m0]) mY rfl h ⟨rfl,show 42<=60 by decide,rfl,rfl,rfl⟩ (λ g l=>⟨rfl,rfl,rfl,Nat.le_refl _⟩) λ g hg=>hg
theorem si(m0 m1 m2:Int)(hc0:cs[0]? =some c0)(hc1:cs[1]? =some c1)(hc2:cs[2]? =some c2)(h4:cs.length<=4)(q0:m0≠9)(e0:aY w G V c0.v m0)(q1:m1≠9)(e1:aY w G V c1.v m1)(q2:m2≠9)(e2:aY w G V c2.v m2)(hk:k<=5)
  (h:aR w.2 S c d p r ([(oa+822,tO [.str aC (D.u 9),rA la]),(la+822,lO 0 [rA c0.t,rA c1.t,rA c2.t])]++(aS w.2 D.an cs []++(V++T))) k f1 f2):
  ai w G (fL D w.2 S j oa (bM w.2 S d r D.an cs (QC S c p f1 f2 [m0,m1,m2]) k 3 [(oa+822,tO [.str aC (D.u 9),rA la]),(la+822,lO 0 [rA c0.t,rA c1.t,rA c2.t])]) (λ _=>.ok (.ret .none)) λ _=>[]):=by
 let L:=hU .a w.2 (gC w.2 S c d p r (aS w.2 D.an cs []++(V++T)))
 let q:Pr:={D.qd S L j oa [c0,c1,c2] [la] [m0,m1,m2] [] with c:=λ _=>0}
 let A:AA:=λ n gs=>match n,gs with |0,[g]=>aw .a w.2 S d r D.an cs V (QC S c p f1 f2 []) k 1 (g.n 2) (g.vl 0) g.l |1,[h,g]=>aw .a w.2 S d r D.an cs V (QC S c p f1 f2 [m0]) k 1 (h.n 2) (h.vl 0) g.l |2,[_,_,g]=>aw .a w.2 S d r D.an cs V (QC S c p f1 f2 [m0]) k 2 (g.n 2) (g.vl 0) g.l |3,[_,_,h,g]=>aw .a w.2 S d r D.an cs V (QC S c p f1 f2 [m0,m1]) k 2 (h.n 2) (h.vl 0) g.l |4,[_,_,_,_,g]=>aw .a w.2 S d r D.an cs V (QC S c p f1 f2 [m0,m1]) k 3 (g.n 2) (g.vl 0) g.l |5,[_,_,_,_,h,g]=>aw .a w.2 S d r D.an cs V (QC S c p f1 f2 [m0,m1,m2]) k 3 (h.n 2) (h.vl 0) g.l |99,[g]=>aw .a w.2 S d r D.an cs V (QC S c p f1 f2 [m0,m1,m2]) k 3 (g.n 2) (g.vl 0) g.l |_,_=>True
 have hz:=np.sat w G q A λ b t=>⟨cR mY hc0 h4 e0 (mt .a h),λ g0 a0=>⟨i3 m0 q0 _ hk a0,λ g1 a1=>⟨cR mY hc1 h4 e1 a1,λ g2 a2=>⟨i3 m1 q1 _ hk a2,λ g3 a3=>⟨cR mY hc2 h4 e2 a3,λ g4 a4=>⟨i3 m2 q2 _ hk a4,λ g5 a5=>λ sl _=>a5⟩⟩⟩⟩⟩⟩
 exact bO D hz ((np.D w.2 q dh).i.drop 5) (QC S c p f1 f2 [m0,m1,m2]) mY rfl h ⟨rfl,show 42<=60 by decide,rfl,rfl,rfl⟩ (λ g l=>⟨rfl,rfl,rfl,Nat.zero_le _⟩) λ g hg=>hg
theorem qf(m0 m1:Int)(nl:Nat)(lt:List Value)(hc0:cs[0]? =some c0)(hc1:cs[1]? =some c1)(hc2:cs[2]? =some c2)(h4:cs.length<=4)(q0:m0≠9)(e0:aY w G V c0.v m0)(q1:m1≠9)(e1:aY w G V c1.v m1)(e2:cI w G V c2.v cd)(hk:k<=5)
  (h:aR w.2 S c d p r ([(oa+822,tO [.str aC (D.u 9),rA la]),(la+822,lO nl (rA c0.t::rA c1.t::rA c2.t::lt))]++(aS w.2 D.an cs []++(V++T))) k f1 f2):
  ai w G (fL D w.2 S j oa (bM w.2 S d r D.an cs (QC S c p f1 f2 [m0,m1]) k 3 [(oa+822,tO [.str aC (D.u 9),rA la]),(la+822,lO nl (rA c0.t::rA c1.t::rA c2.t::lt))]) (λ g=>.error (rA (g.n 7))) λ g=>dN w.2 cd g):=by
 let L:=hU .a w.2 (gC w.2 S c d p r (aS w.2 D.an cs []++(V++T)))
 let q:Pr:={D.qd S L j oa [c0,c1,c2] [la] [m0,m1] [aa,aa,aa,aa,aa,cd] with l:=λ i=>if i=1 then lt else [],en:=λ i=>if i=2 then nl else 0}
 let A:AA:=λ n gs=>match n,gs with |0,[g]=>aw .a w.2 S d r D.an cs V (QC S c p f1 f2 []) k 1 (g.n 2) (g.vl 0) g.l |1,[h,g]=>aw .a w.2 S d r D.an cs V (QC S c p f1 f2 [m0]) k 1 (h.n 2) (h.vl 0) g.l |2,[_,_,g]=>aw .a w.2 S d r D.an cs V (QC S c p f1 f2 [m0]) k 2 (g.n 2) (g.vl 0) g.l |3,[_,_,h,g]=>aw .a w.2 S d r D.an cs V (QC S c p f1 f2 [m0,m1]) k 2 (h.n 2) (h.vl 0) g.l |4,[_,_,_,_,g]=>aw .a w.2 S d r D.an cs V (QC S c p f1 f2 [m0,m1]) k 3 (g.n 2) (g.vl 0) g.l |99,[g]=>aw .a w.2 S d r D.an cs V (QC S c p f1 f2 [m0,m1]) k 3 (g.n 2) (g.vl 0) g.l |_,_=>True
 have hz:=kp.sat w G q A λ b t=>⟨cR mY hc0 h4 e0 (mt .a h),λ g0 a0=>⟨i3 m0 q0 _ hk a0,λ g1 a1=>⟨cR mY hc1 h4 e1 a1,λ g2 a2=>⟨i3 m1 q1 _ hk a2,λ g3 a3=>⟨gD mY hc2 h4 e2 a3,λ g4 a4=>λ g5=>λ sl _=>a4⟩⟩⟩⟩⟩
 exact bO D hz ((kp.D w.2 q dh).i.drop 5) (QC S c p f1 f2 [m0,m1]) mY rfl h ⟨rfl,show 42<=60 by decide,rfl,rfl,rfl⟩ (λ g l=>⟨rfl,rfl,rfl,Nat.le_refl _⟩) λ g hg=>hg
theorem sj(m0:Int)(p0:Nat)(hc0:cs[0]? =some c0)(hc1:cs[1]? =some c1)(h4:cs.length<=4)(e0:aY w G V c0.v 9)(q0:0<=m0/\m0<=2)(e1:aY w G V c1.v m0)(hb:S.buf.cps.size=6)
  (h:aR w.2 S c d p r ([(oa+822,tO [.str aL (D.u 9),rA c0.t,rA la]),(la+822,lO 1 [rA p0]),(p0+822,tO [rA c1.t,.str ad (D.u 10)])]++(aS w.2 D.an cs []++(V++T))) k f1 f2):
  ai w G (fL D w.2 S j oa (bM w.2 S d r D.an cs (QF S c p [(0,m0)] f1 f2) k 2 [(oa+822,tO [.str aL (D.u 9),rA c0.t,rA la]),(la+822,lO 1 [rA p0]),(p0+822,tO [rA c1.t,.str ad (D.u 10)])]) (λ _=>.ok (.ret .none)) λ _=>[]):=by
 let L:=hU .a w.2 (gC w.2 S c d p r (aS w.2 D.an cs []++(V++T)))
 let q:Pr:={D.qd S L j oa [c0,c1] [la,p0] [9,m0] [] with c:=λ _=>0}
 let A:AA:=λ n gs=>match n,gs with |0,[g]=>aw .a w.2 S d r D.an cs V (QS S c p f1 f2) k 1 (g.n 2) (g.vl 0) g.l |2,[_,_,g]=>aw .a w.2 S d r D.an cs V (QS S c p f1 f2) k 2 (g.n 2) (g.vl 0) g.l |4,[_,_,h,_,g]=>aw .a w.2 S d r D.an cs V (QF S c p [(0,m0)] f1 f2) k 2 (h.n 2) (h.vl 0) g.l |99,[g]=>aw .a w.2 S d r D.an cs V (QF S c p [(0,m0)] f1 f2) k 2 (g.n 2) (g.vl 0) g.l |_,_=>True
 have hz:=nq.sat w G q A λ b t=>⟨cR eA hc0 h4 e0 (gj .a h),λ g0 a0=>λ g1=>⟨cR eA hc1 h4 e1 a0,λ g2 a2=>⟨gS S .a _ 3 4 _ _ (λ _=>trivial),λ g3 _=>⟨zM m0 q0 _ _ _ _ _ (tk [16,21]) hb a2,λ g4 a4=>λ sl _=>a4⟩⟩⟩⟩
 exact bO D hz ((nq.D w.2 q dh).i.drop 5) (QF S c p [(0,m0)] f1 f2) C4 rfl h ⟨rfl,show 43<=60 by decide,rfl,rfl,rfl⟩ (λ g l=>⟨rfl,rfl,rfl,Nat.zero_le _⟩) λ g hg=>hg
theorem ik(p0 nl:Nat)(lt:List Value)(hc0:cs[0]? =some c0)(hc1:cs[1]? =some c1)(h4:cs.length<=4)(e0:aY w G V c0.v 9)(e1:cI w G V c1.v cd)
  (h:aR w.2 S c d p r ([(oa+822,tO [.str aL (D.u 9),rA c0.t,rA la]),(la+822,lO nl (rA p0::lt)),(p0+822,tO [rA c1.t,.str ad (D.u 10)])]++(aS w.2 D.an cs []++(V++T))) k f1 f2):
  ai w G (fL D w.2 S j oa (bM w.2 S d r D.an cs (QS S c p f1 f2) k 2 [(oa+822,tO [.str aL (D.u 9),rA c0.t,rA la]),(la+822,lO nl (rA p0::lt)),(p0+822,tO [rA c1.t,.str ad (D.u 10)])]) (λ g=>.error (rA (g.n 7))) λ g=>dN w.2 cd g):=by
 let L:=hU .a w.2 (gC w.2 S c d p r (aS w.2 D.an cs []++(V++T)))
 let q:Pr:={D.qd S L j oa [c0,c1] [la,p0] [9] [aa,aa,aa,aa,aa,cd] with l:=λ i=>if i=1 then lt else [],en:=λ i=>if i=2 then nl else 0}
 let A:AA:=λ n gs=>match n,gs with |0,[g]=>aw .a w.2 S d r D.an cs V (QS S c p f1 f2) k 1 (g.n 2) (g.vl 0) g.l |2,[_,_,g]=>aw .a w.2 S d r D.an cs V (QS S c p f1 f2) k 2 (g.n 2) (g.vl 0) g.l |99,[g]=>aw .a w.2 S d r D.an cs V (QS S c p f1 f2) k 2 (g.n 2) (g.vl 0) g.l |_,_=>True
 have hz:=kr.sat w G q A λ b t=>⟨cR eA hc0 h4 e0 (gj .a h),λ g0 a0=>λ g1=>⟨gD eA hc1 h4 e1 a0,λ g2 a2=>λ g3=>λ g4=>λ sl _=>a2⟩⟩
 exact bO D hz ((kr.D w.2 q dh).i.drop 5) (QS S c p f1 f2) eA rfl h ⟨rfl,show 43<=60 by decide,rfl,rfl,rfl⟩ (λ g l=>⟨rfl,rfl,rfl,Nat.le_refl _⟩) λ g hg=>hg
theorem sm(m0 m1:Int)(p0 p1:Nat)(hc0:cs[0]? =some c0)(hc1:cs[1]? =some c1)(hc2:cs[2]? =some c2)(h4:cs.length<=4)(e0:aY w G V c0.v 9)(q0:0<=m0/\m0<=2)(e1:aY w G V c1.v m0)(q1:0<=m1/\m1<=2)(e2:aY w G V c2.v m1)(hb:S.buf.cps.size=6)
  (h:aR w.2 S c d p r ([(oa+822,tO [.str aL (D.u 9),rA c0.t,rA la]),(la+822,lO 2 [rA p0,rA p1]),(p0+822,tO [rA c1.t,.str ad (D.u 10)]),(p1+822,tO [rA c2.t,.str av (D.u 11)])]++(aS w.2 D.an cs []++(V++T))) k f1 f2):
  ai w G (fL D w.2 S j oa (bM w.2 S d r D.an cs (QF S c p [(0,m0),(0+m0,m1)] f1 f2) k 3 [(oa+822,tO [.str aL (D.u 9),rA c0.t,rA la]),(la+822,lO 2 [rA p0,rA p1]),(p0+822,tO [rA c1.t,.str ad (D.u 10)]),(p1+822,tO [rA c2.t,.str av (D.u 11)])]) (λ _=>.ok (.ret .none)) λ _=>[]):=by
 let L:=hU .a w.2 (gC w.2 S c d p r (aS w.2 D.an cs []++(V++T)))
 let q:Pr:={D.qd S L j oa [c0,c1,c2] [la,p0,p1] [9,m0,m1] [] with c:=λ _=>0}
 let A:AA:=λ n gs=>match n,gs with |0,[g]=>aw .a w.2 S d r D.an cs V (QS S c p f1 f2) k 1 (g.n 2) (g.vl 0) g.l |2,[_,_,g]=>aw .a w.2 S d r D.an cs V (QS S c p f1 f2) k 2 (g.n 2) (g.vl 0) g.l |3,[_,_,_,g]=>aw .a w.2 S d r D.an cs V (QS S c p f1 f2) k 3 (g.n 2) (g.vl 0) g.l |6,[_,_,_,h,_,_,g]=>aw .a w.2 S d r D.an cs V (QF S c p [(0,m0),(0+m0,m1)] f1 f2) k 3 (h.n 2) (h.vl 0) g.l |99,[g]=>aw .a w.2 S d r D.an cs V (QF S c p [(0,m0),(0+m0,m1)] f1 f2) k 3 (g.n 2) (g.vl 0) g.l |_,_=>True
 have hz:=nr.sat w G q A λ b t=>⟨cR eA hc0 h4 e0 (gj .a h),λ g0 a0=>λ g1=>⟨cR eA hc1 h4 e1 a0,λ g2 a2=>⟨cR eA hc2 h4 e2 a2,λ g3 a3=>⟨gS S .a _ 3 4 _ _ (λ _=>trivial),λ g4 _=>⟨gS S .b _ 3 4 _ _ (λ _=>trivial),λ g5 _=>⟨zN m0 m1 q0 q1 _ _ _ _ _ _ _ _ (tk [17,22,26]) hb a3,λ g6 a6=>λ sl _=>a6⟩⟩⟩⟩⟩⟩
 exact bO D hz ((nr.D w.2 q dh).i.drop 5) (QF S c p [(0,m0),(0+m0,m1)] f1 f2) C4 rfl h ⟨rfl,show 43<=60 by decide,rfl,rfl,rfl⟩ (λ g l=>⟨rfl,rfl,rfl,Nat.zero_le _⟩) λ g hg=>hg
theorem lk(m0:Int)(p0 p1 nl:Nat)(lt:List Value)(hc0:cs[0]? =some c0)(hc1:cs[1]? =some c1)(hc2:cs[2]? =some c2)(h4:cs.length<=4)(e0:aY w G V c0.v 9)(e1:aY w G V c1.v m0)(e2:cI w G V c2.v cd)
  (h:aR w.2 S c d p r ([(oa+822,tO [.str aL (D.u 9),rA c0.t,rA la]),(la+822,lO nl (rA p0::rA p1::lt)),(p0+822,tO [rA c1.t,.str ad (D.u 10)]),(p1+822,tO [rA c2.t,.str av (D.u 11)])]++(aS w.2 D.an cs []++(V++T))) k f1 f2):
  ai w G (fL D w.2 S j oa (bM w.2 S d r D.an cs (QS S c p f1 f2) k 3 [(oa+822,tO [.str aL (D.u 9),rA c0.t,rA la]),(la+822,lO nl (rA p0::rA p1::lt)),(p0+822,tO [rA c1.t,.str ad (D.u 10)]),(p1+822,tO [rA c2.t,.str av (D.u 11)])]) (λ g=>.error (rA (g.n 7))) λ g=>dN w.2 cd g):=by
 let L:=hU .a w.2 (gC w.2 S c d p r (aS w.2 D.an cs []++(V++T)))
 let q:Pr:={D.qd S L j oa [c0,c1,c2] [la,p0,p1] [9,m0] [aa,aa,aa,aa,aa,cd] with l:=λ i=>if i=1 then lt else [],en:=λ i=>if i=2 then nl else 0}
 let A:AA:=λ n gs=>match n,gs with |0,[g]=>aw .a w.2 S d r D.an cs V (QS S c p f1 f2) k 1 (g.n 2) (g.vl 0) g.l |2,[_,_,g]=>aw .a w.2 S d r D.an cs V (QS S c p f1 f2) k 2 (g.n 2) (g.vl 0) g.l |3,[_,_,_,g]=>aw .a w.2 S d r D.an cs V (QS S c p f1 f2) k 3 (g.n 2) (g.vl 0) g.l |99,[g]=>aw .a w.2 S d r D.an cs V (QS S c p f1 f2) k 3 (g.n 2) (g.vl 0) g.l |_,_=>True
 have hz:=ku.sat w G q A λ b t=>⟨cR eA hc0 h4 e0 (gj .a h),λ g0 a0=>λ g1=>⟨cR eA hc1 h4 e1 a0,λ g2 a2=>⟨gD eA hc2 h4 e2 a2,λ g3 a3=>λ g4=>λ g5=>λ sl _=>a3⟩⟩⟩
 exact bO D hz ((ku.D w.2 q dh).i.drop 5) (QS S c p f1 f2) eA rfl h ⟨rfl,show 43<=60 by decide,rfl,rfl,rfl⟩ (λ g l=>⟨rfl,rfl,rfl,Nat.le_refl _⟩) λ g hg=>hg
theorem sn(m0 m1 m2:Int)(p0 p1 p2:Nat)(hc0:cs[0]? =some c0)(hc1:cs[1]? =some c1)(hc2:cs[2]? =some c2)(hc3:cs[3]? =some c3)(h4:cs.length<=4)(e0:aY w G V c0.v 9)(q0:0<=m0/\m0<=2)(e1:aY w G V c1.v m0)(q1:0<=m1/\m1<=2)(e2:aY w G V c2.v m1)(q2:0<=m2/\m2<=2)(e3:aY w G V c3.v m2)(hb:S.buf.cps.size=6)
  (h:aR w.2 S c d p r ([(oa+822,tO [.str aL (D.u 9),rA c0.t,rA la]),(la+822,lO 3 [rA p0,rA p1,rA p2]),(p0+822,tO [rA c1.t,.str ad (D.u 10)]),(p1+822,tO [rA c2.t,.str av (D.u 11)]),(p2+822,tO [rA c3.t,.str bb (D.u 12)])]++(aS w.2 D.an cs []++(V++T))) k f1 f2):
  ai w G (fL D w.2 S j oa (bM w.2 S d r D.an cs (QF S c p [(0,m0),(0+m0,m1),((0+m0)+m1,m2)] f1 f2) k 4 [(oa+822,tO [.str aL (D.u 9),rA c0.t,rA la]),(la+822,lO 3 [rA p0,rA p1,rA p2]),(p0+822,tO [rA c1.t,.str ad (D.u 10)]),(p1+822,tO [rA c2.t,.str av (D.u 11)]),(p2+822,tO [rA c3.t,.str bb (D.u 12)])]) (λ _=>.ok (.ret .none)) λ _=>[]):=by
 let L:=hU .a w.2 (gC w.2 S c d p r (aS w.2 D.an cs []++(V++T)))
 let q:Pr:={D.qd S L j oa [c0,c1,c2,c3] [la,p0,p1,p2] [9,m0,m1,m2] [] with c:=λ _=>0}
 let A:AA:=λ n gs=>match n,gs with |0,[g]=>aw .a w.2 S d r D.an cs V (QS S c p f1 f2) k 1 (g.n 2) (g.vl 0) g.l |2,[_,_,g]=>aw .a w.2 S d r D.an cs V (QS S c p f1 f2) k 2 (g.n 2) (g.vl 0) g.l |3,[_,_,_,g]=>aw .a w.2 S d r D.an cs V (QS S c p f1 f2) k 3 (g.n 2) (g.vl 0) g.l |4,[_,_,_,_,g]=>aw .a w.2 S d r D.an cs V (QS S c p f1 f2) k 4 (g.n 2) (g.vl 0) g.l |8,[_,_,_,_,h,_,_,_,g]=>aw .a w.2 S d r D.an cs V (QF S c p [(0,m0),(0+m0,m1),((0+m0)+m1,m2)] f1 f2) k 4 (h.n 2) (h.vl 0) g.l |99,[g]=>aw .a w.2 S d r D.an cs V (QF S c p [(0,m0),(0+m0,m1),((0+m0)+m1,m2)] f1 f2) k 4 (g.n 2) (g.vl 0) g.l |_,_=>True
 have hz:=nt.sat w G q A λ b t=>⟨cR eA hc0 h4 e0 (gj .a h),λ g0 a0=>λ g1=>⟨cR eA hc1 h4 e1 a0,λ g2 a2=>⟨cR eA hc2 h4 e2 a2,λ g3 a3=>⟨cR eA hc3 h4 e3 a3,λ g4 a4=>⟨gS S .a _ 3 4 _ _ (λ _=>trivial),λ g5 _=>⟨gS S .b _ 3 4 _ _ (λ _=>trivial),λ g6 _=>⟨gS S .c _ 3 4 _ _ (λ _=>trivial),λ g7 _=>⟨zO m0 m1 m2 q0 q1 q2 _ _ _ _ _ _ _ _ _ _ _ (tk [18,23,27,31]) hb a4,λ g8 a8=>λ sl _=>a8⟩⟩⟩⟩⟩⟩⟩⟩
 exact bO D hz ((nt.D w.2 q dh).i.drop 5) (QF S c p [(0,m0),(0+m0,m1),((0+m0)+m1,m2)] f1 f2) C4 rfl h ⟨rfl,show 43<=60 by decide,rfl,rfl,rfl⟩ (λ g l=>⟨rfl,rfl,rfl,Nat.zero_le _⟩) λ g hg=>hg
theorem qg(m0 m1:Int)(p0 p1 p2 nl:Nat)(lt:List Value)(hc0:cs[0]? =some c0)(hc1:cs[1]? =some c1)(hc2:cs[2]? =some c2)(hc3:cs[3]? =some c3)(h4:cs.length<=4)(e0:aY w G V c0.v 9)(e1:aY w G V c1.v m0)(e2:aY w G V c2.v m1)(e3:cI w G V c3.v cd)
  (h:aR w.2 S c d p r ([(oa+822,tO [.str aL (D.u 9),rA c0.t,rA la]),(la+822,lO nl (rA p0::rA p1::rA p2::lt)),(p0+822,tO [rA c1.t,.str ad (D.u 10)]),(p1+822,tO [rA c2.t,.str av (D.u 11)]),(p2+822,tO [rA c3.t,.str bb (D.u 12)])]++(aS w.2 D.an cs []++(V++T))) k f1 f2):
  ai w G (fL D w.2 S j oa (bM w.2 S d r D.an cs (QS S c p f1 f2) k 4 [(oa+822,tO [.str aL (D.u 9),rA c0.t,rA la]),(la+822,lO nl (rA p0::rA p1::rA p2::lt)),(p0+822,tO [rA c1.t,.str ad (D.u 10)]),(p1+822,tO [rA c2.t,.str av (D.u 11)]),(p2+822,tO [rA c3.t,.str bb (D.u 12)])]) (λ g=>.error (rA (g.n 7))) λ g=>dN w.2 cd g):=by
 let L:=hU .a w.2 (gC w.2 S c d p r (aS w.2 D.an cs []++(V++T)))
 let q:Pr:={D.qd S L j oa [c0,c1,c2,c3] [la,p0,p1,p2] [9,m0,m1] [aa,aa,aa,aa,aa,cd] with l:=λ i=>if i=1 then lt else [],en:=λ i=>if i=2 then nl else 0}
 let A:AA:=λ n gs=>match n,gs with |0,[g]=>aw .a w.2 S d r D.an cs V (QS S c p f1 f2) k 1 (g.n 2) (g.vl 0) g.l |2,[_,_,g]=>aw .a w.2 S d r D.an cs V (QS S c p f1 f2) k 2 (g.n 2) (g.vl 0) g.l |3,[_,_,_,g]=>aw .a w.2 S d r D.an cs V (QS S c p f1 f2) k 3 (g.n 2) (g.vl 0) g.l |4,[_,_,_,_,g]=>aw .a w.2 S d r D.an cs V (QS S c p f1 f2) k 4 (g.n 2) (g.vl 0) g.l |99,[g]=>aw .a w.2 S d r D.an cs V (QS S c p f1 f2) k 4 (g.n 2) (g.vl 0) g.l |_,_=>True
 have hz:=kw.sat w G q A λ b t=>⟨cR eA hc0 h4 e0 (gj .a h),λ g0 a0=>λ g1=>⟨cR eA hc1 h4 e1 a0,λ g2 a2=>⟨cR eA hc2 h4 e2 a2,λ g3 a3=>⟨gD eA hc3 h4 e3 a3,λ g4 a4=>λ g5=>λ g6=>λ sl _=>a4⟩⟩⟩⟩
 exact bO D hz ((kw.D w.2 q dh).i.drop 5) (QS S c p f1 f2) eA rfl h ⟨rfl,show 43<=60 by decide,rfl,rfl,rfl⟩ (λ g l=>⟨rfl,rfl,rfl,Nat.le_refl _⟩) λ g hg=>hg
theorem io(hc0:cs[0]? =some c0)(h4:cs.length<=4)(e0:cI w G V c0.v cd)
  (h:aR w.2 S c d p r ([(oa+822,tO [.str aL (D.u 9),rA c0.t,rA la])]++(aS w.2 D.an cs []++(V++T))) k f1 f2):
  ai w G (fL D w.2 S j oa (bM w.2 S d r D.an cs (QS S c p f1 f2) k 1 [(oa+822,tO [.str aL (D.u 9),rA c0.t,rA la])]) (λ g=>.error (rA (g.n 7))) λ g=>dN w.2 cd g):=by
 let L:=hU .a w.2 (gC w.2 S c d p r (aS w.2 D.an cs []++(V++T)))
 let q:Pr:={D.qd S L j oa [c0] [la] [] [aa,aa,aa,aa,aa,cd] with c:=λ _=>0}
 let A:AA:=λ n gs=>match n,gs with |0,[g]=>aw .a w.2 S d r D.an cs V (QS S c p f1 f2) k 1 (g.n 2) (g.vl 0) g.l |99,[g]=>aw .a w.2 S d r D.an cs V (QS S c p f1 f2) k 1 (g.n 2) (g.vl 0) g.l |_,_=>True
 have hz:=kq.sat w G q A λ b t=>⟨gD eA hc0 h4 e0 (gj .a h),λ g0 a0=>λ g1=>λ g2=>λ sl _=>a0⟩
 exact bO D hz ((kq.D w.2 q dh).i.drop 5) (QS S c p f1 f2) eA rfl h ⟨rfl,show 42<=60 by decide,rfl,rfl,rfl⟩ (λ g l=>⟨rfl,rfl,rfl,Nat.le_refl _⟩) λ g hg=>hg
theorem so(hc0:cs[0]? =some c0)(h4:cs.length<=4)(e0:gB w G V c0.v)
  (h:aR w.2 S c d p r ([(oa+822,tO [.str cq (D.u 9),.str ad (D.u 10),rA c0.t])]++(aS w.2 D.an cs []++(V++T))) k f1 f2):
  ai w G (fL D w.2 S j oa (bM w.2 S d r D.an cs (QS S c p f1 f2) k 1 [(oa+822,tO [.str cq (D.u 9),.str ad (D.u 10),rA c0.t])]) (λ g=>.error (rA (g.n 7))) λ g=>dN w.2 b9 g):=by
 let L:=hU .a w.2 (gC w.2 S c d p r (aS w.2 D.an cs []++(V++T)))
 let q:Pr:={D.qd S L j oa [c0] [] [] [aa,aa,aa,aa,aa,b9] with c:=λ _=>0}
 let A:AA:=λ n gs=>match n,gs with |0,[g]=>aw .a w.2 S d r D.an cs V (QS S c p f1 f2) k 1 (g.n 2) (g.vl 0) g.l |99,[g]=>aw .a w.2 S d r D.an cs V (QS S c p f1 f2) k 1 (g.n 2) (g.vl 0) g.l |_,_=>True
 have hz:=ny.sat w G q c0.v A λ b t=>⟨oz rfl eA hc0 h4 (gj .a h),λ g0 a0=>⟨yJ e0 a0 (λ _=>trivial),λ g1 _=>λ g2=>λ sl _=>a0⟩⟩
 exact bO D hz ((ny.D w.2 q c0.v dh).i.drop 5) (QS S c p f1 f2) eA rfl h ⟨rfl,show 41<=60 by decide,rfl,rfl,rfl⟩ (λ g l=>⟨rfl,rfl,rfl,Nat.le_refl _⟩) λ g hg=>hg
theorem C6{Y:Gh->Prop}(t:Nat)(a:aw .b w.2 S d r D.an cs V (QS S c p f1 f2) k N n vs L)(hY:∀g,Y g):ai w G ⟨au 307 [rA (S.a 0),.str ad t],40,[(3,S.a 0+822,oW S.a),(4,S.a 1+822,bm w.2 S.a S.u)],L,Y,λ g=>⟨.ok (.ret (.str aa (g.n 2))),[oW S.a,bm w.2 S.a S.u],[],L⟩⟩:=by
 obtain⟨S',c',p',f1',f2',T',ts,pL,⟨tl,e,e1,e2,e3,e4⟩,hi,z⟩:=a
 subst e e1 e2 e3 e4
 exact oy hi t 3 4 _ _ (pL.trans (ac [0] (ew w.2 _))) _ hY
theorem xH(t t':Nat)(a:aw .b w.2 S d r D.an cs V (QS S c [] f1 f2) k N n vs L):
  ai w G ⟨au 748 [rA D.rn,.str ad t,.str aa t'],40,[(0,D.rn+822,gf (D.rd+822)),(1,D.rd+822,gk w.2 D.u 0 (S.a 0+822) (D.an+822) (D.co+822) (D.as+822)),(3,S.a 0+822,oW S.a),(4,S.a 1+822,bm w.2 S.a S.u),(5,S.a 7+822,oD S.fi S.fin)],L,λ g=>aw .b w.2 S d r D.an cs V (QN S c [] f1 f2) k N n vs g.l,
   λ g=>⟨.ok (.ret .none),[gf (D.rd+822),gk w.2 D.u 0 (S.a 0+822) (D.an+822) (D.co+822) (D.as+822),oW S.a,bm w.2 S.a S.u,oD S.fi S.fin],[],g.l⟩⟩:=
 p9 a (λ tl T' hi=>by
  exact ai.im (vG hi D.u D.rn D.rd D.an D.co D.as t t' (tk [0,1,3,4,5])) (Nat.le_refl _) (L2 _) λ g hp=>by
    obtain⟨nm,no,el,hi⟩:=hp
    exact⟨_,_,_,_,_,[],el,⟨nm,no,_,rfl,rfl,rfl,rfl,rfl⟩,hi,rfl,rfl⟩) rfl rfl λ _=>rfl
theorem Bu{pa:Pa}(x y:T3)(hb:S.buf.cps.size=6)(a0:pa.at_=0)(gm:pa.many=y.p 0 1 2)(t t':Nat)(a:aw .b w.2 S d r D.an cs V (QS S c (pa::p) f1 f2) k N n vs L):
  ai w G ⟨au 250 [rA (S.a 0),.str ad t,.str (x.p gw aa cy) t',.bool false],40,[(3,S.a 0+822,oW S.a),(4,S.a 1+822,bm w.2 S.a S.u),(5,S.a 7+822,oD S.fi S.fin)],L,λ g=>aw .b w.2 S d r D.an cs V (QP S c (pa::p) x y f1 f2) k N n vs g.l,
   λ g=>⟨.ok (.ret .none),[oW S.a,bm w.2 S.a S.u,oD S.fi S.fin],[],g.l⟩⟩:=
 p9 a (λ tl T' hi=>by
  exact ai.im (zJ hi hb x y a0 gm t t' 3 4 5) (Nat.le_refl _) (L2 _) λ g hp=>by
    obtain⟨bt,el,hi⟩:=hp
    exact⟨_,_,_,_,_,[],el,⟨bt,_,rfl,rfl,rfl,rfl,rfl⟩,hi,rfl,rfl⟩) rfl rfl λ _=>rfl
theorem sp(x:T3)(ub:Nat)(hc0:cs[0]? =some c0)(h4:cs.length<=4)(hv:c0.v.v= .str (x.p gw aa cy) ub)
  (h:aR w.2 S c d [] r ([(oa+822,tO [.str cq (D.u 9),.str ad (D.u 10),rA c0.t])]++(aS w.2 D.an cs []++(V++T))) k f1 f2):
  ai w G (fL D w.2 S j oa (bM w.2 S d r D.an cs (QN S c [] f1 f2) k 1 [(oa+822,tO [.str cq (D.u 9),.str ad (D.u 10),rA c0.t])]) (λ _=>.ok (.ret .none)) λ _=>[]):=by
 let L:=hU .b w.2 (gC w.2 S c d [] r (aS w.2 D.an cs []++(V++T)))
 let q:Pr:={D.qd S L j oa [c0] [] [] [x.p gw aa cy] with c:=λ _=>ub}
 have dd:∀t,DX (C0 w.2).set1 1 (.str ad t) [] S.fi none (ae (C0 w.2).set1 ad) (.bool false):=λ t=>by
  have e:S.fi=⟨[]⟩:=h.fi
  rw[e]
  exact jS rfl rfl rfl rfl
 let A:AA:=λ n gs=>match n,gs with |0,[g]=>aw .b w.2 S d r D.an cs V (QS S c [] f1 f2) k 1 (g.n 2) (g.vl 0) g.l |4,[h,_,_,g]=>aw .b w.2 S d r D.an cs V (QN S c [] f1 f2) k 1 (h.n 2) (h.vl 0) g.l |99,[g]=>aw .b w.2 S d r D.an cs V (QN S c [] f1 f2) k 1 (g.n 2) (g.vl 0) g.l |_,_=>True
 have hz:=nu.sat w G q A λ b t=>⟨oz hv eA hc0 h4 (gj .b h),λ g0 a0=>⟨dd _,⟨C6 _ a0 (λ _=>trivial),λ g1 _=>⟨Bo S x _ _ _ _ (λ _=>trivial),λ g2 _=>⟨xH _ _ a0,λ g3 a3=>λ sl _=>a3⟩⟩⟩⟩⟩
 exact rb D hz (j 5) ((nu.D w.2 q dh).i.drop 6) (QN S c [] f1 f2) Ep (λ S' c' p' f1' f2' hQ=>by
  obtain⟨_,_,_,rfl,_⟩:=hQ
  exact⟨rfl,rfl⟩) rfl h ⟨rfl,show 41<=60 by decide,rfl,rfl,rfl⟩ (λ g l=>⟨rfl,rfl,rfl,Nat.zero_le _⟩) λ g hg=>hg
theorem sq{pa:Pa}(x y:T3)(ub:Nat)(hc0:cs[0]? =some c0)(h4:cs.length<=4)(hv:c0.v.v= .str (x.p gw aa cy) ub)(hb:S.buf.cps.size=6)(pa0:pa.at_=0)(gm:pa.many=y.p 0 1 2)
  (h:aR w.2 S c d (pa::p) r ([(oa+822,tO [.str cq (D.u 9),.str ad (D.u 10),rA c0.t])]++(aS w.2 D.an cs []++(V++T))) k f1 f2):
  ai w G (fL D w.2 S j oa (bM w.2 S d r D.an cs (QP S c (pa::p) x y f1 f2) k 1 [(oa+822,tO [.str cq (D.u 9),.str ad (D.u 10),rA c0.t])]) (λ _=>.ok (.ret .none)) λ _=>[]):=by
 let L:=hU .b w.2 (gC w.2 S c d (pa::p) r (aS w.2 D.an cs []++(V++T)))
 let q:Pr:={D.qd S L j oa [c0] [] [] [x.p gw aa cy] with c:=λ _=>ub}
 have dd:∀t,DX (C0 w.2).set1 1 (.str ad t) [] S.fi (some 0) (ae (C0 w.2).set1 ad) (.bool true):=λ t=>by
  have pl3:(pa::p).length<=3:=h.pl
  have e:S.fi=⟨bU (ah w.2) (pa::p)⟩:=h.fi
  rw[e]
  rcases p with _ |⟨z0,_ |⟨z1,_ |⟨z9,p⟩⟩⟩
  ·exact jS rfl rfl rfl rfl
  ·exact jS rfl rfl rfl rfl
  ·exact jS rfl rfl rfl rfl
  ·exact absurd pl3 (by simp)
 let A:AA:=λ n gs=>match n,gs with |0,[g]=>aw .b w.2 S d r D.an cs V (QS S c (pa::p) f1 f2) k 1 (g.n 2) (g.vl 0) g.l |2,[h,g]=>aw .b w.2 S d r D.an cs V (QP S c (pa::p) x y f1 f2) k 1 (h.n 2) (h.vl 0) g.l |99,[g]=>aw .b w.2 S d r D.an cs V (QP S c (pa::p) x y f1 f2) k 1 (g.n 2) (g.vl 0) g.l |_,_=>True
 have hz:=nv.sat w G q A λ b t=>⟨oz hv eA hc0 h4 (gj .b h),λ g0 a0=>⟨dd _,⟨Bu x y hb pa0 gm _ _ a0,λ g1 a1=>λ sl _=>a1⟩⟩⟩
 exact rb D hz (j 5) ((nv.D w.2 q dh).i.drop 6) (QP S c (pa::p) x y f1 f2) Eq (λ S' c' p' f1' f2' hQ=>by
  obtain⟨_,_,rfl,_⟩:=hQ
  exact⟨rfl,rfl⟩) rfl h ⟨rfl,show 41<=60 by decide,rfl,rfl,rfl⟩ (λ g l=>⟨rfl,rfl,rfl,Nat.zero_le _⟩) λ g hg=>hg
end
end
noncomputable def jT(S:St)(n:Nat)(ct:Nat)(tl:HL):St:={S with cnt:=S.cnt+n,ct:=ct,tail:=tl}
def cQ(P:Params)(S:St)(n:Nat)(L:HL):Prop:=∃ct,L.Perm (aP P (jT S n ct S.tail))
def dP(S:St):Prop:=(∀v∈S.cells,∃x t,v= .int x t)/\S.cells.length<=60/\0<=S.cnt
def dr(S:St)(n:Nat)(m:Int):Int:=cz S.cells (S.cnt+n) m
theorem jU{S:St}{n:Nat}{m:Int}(hm:0<m):0<=dr S n m/\dr S n m<m:=by
 unfold dr cz
 split
 ·split
  ·exact⟨Int.fmod_nonneg_of_pos _ hm,Int.fmod_lt_of_pos _ hm⟩
  ·exact⟨Int.le_refl _,hm⟩
 ·exact⟨Int.fmod_nonneg_of_pos _ hm,Int.fmod_lt_of_pos _ hm⟩
section
variable {w:World}{G:Shared}{S:St}{L:HL}
theorem bC(x:T6)(n t:Nat){v:Int}(hc:dP S)(hn:S.cnt+n<900)(hv:dr S n (x.p 2 3 4 5 6 8)=v)(a:cQ w.2 S n L):
  ai w G ⟨au 790 [rA (S.a 13),.int (x.p 2 3 4 5 6 8) t],12,[],L,λ g=>cQ w.2 S (n+1) g.l,λ g=>⟨.ok (.ret (.int v (g.n 2))),[],[],g.l⟩⟩:=by
 obtain⟨ct,pL⟩:=a
 obtain⟨c1,c2,c3⟩:=hc
 let S1:=jT S n ct S.tail
 have e1:S.cnt+n+1=S.cnt+(n+1:Nat):=by omega
 have lz:∀L':HL,L'++([]++[])=L':=λ L'=>L4 L'
 by_cases hl:S.cnt+n+1<=Int.ofNat S.cells.length
 ·have hi:(S.cnt+n+1-1).toNat<S.cells.length:=by have:=hl;simp at this;omega
  obtain⟨y,u,hy⟩:=c1 _ (List.getElem_mem hi)
  have hx:S.cells[(S.cnt+n+1-1).toNat]? =some (.int y u):=by rw[y8 hi,hy]
  let q:Pr:={pr S1 (aI (aP w.2 S1) [11,11]).2 with u:=tk [t],m:=λ _=>y,c:=λ _=>u}
  have hz:=B3.sat w G q x (show 0<=S.cnt+n by omega) (show S.cnt+n<1000 by omega) (show Int.ofNat S.cells.length<1000 by simp;omega) hl hx
  have ev:Int.fmod ((Int.natAbs y:Nat):Int) (x.p 2 3 4 5 6 8)=v:=by
   rw[<-hv];unfold dr cz;rw[jD hl,hx]
  exact ai.fold hz (B3.D w.2 q x).i 0 [] rfl (show 2<=12 by decide) rfl (by rw[L4];exact pL.trans (ac [11,11] (aP w.2 S1))) λ g _=>⟨rfl,rfl,{g with l:=aP w.2 (jT S (n+1) (g.n 3) S.tail)},⟨g.n 3,L2 _⟩,rfl,rfl,rfl,by show Except.ok (Flow.ret (.int v _))=Except.ok (Flow.ret (.int (Int.fmod _ _) _));(rw[<-ev];try rfl),rfl,rfl,by
   refine(ac [11,11] _).trans (.of_eq ?_)
   show(_,hC _ _ _ (S.cnt+(n+1:Nat)) _)::_::_=(_,hC _ _ _ (S.cnt+n+1) _)::_::(_++([]++[]))
   rw[e1,lz];rfl⟩
 ·let q:Pr:={pr S1 (aI (aP w.2 S1) [11,11]).2 with u:=tk [t]}
  have hz:=B4.sat w G q x (show 0<=S.cnt+n by omega) (show S.cnt+n<1000 by omega) (show Int.ofNat S.cells.length<1000 by simp;omega) hl
  have ev:Int.fmod (3* (S.cnt+n+1)+Int.fdiv (S.cnt+n+1) 3+3) (x.p 2 3 4 5 6 8)=v:=by
   rw[<-hv];unfold dr cz;rw[lL hl]
  exact ai.fold hz (B4.D w.2 q x).i 0 [] rfl (show 2<=12 by decide) rfl (by rw[L4];exact pL.trans (ac [11,11] (aP w.2 S1))) λ g _=>⟨rfl,rfl,{g with l:=aP w.2 (jT S (n+1) (g.n 3) S.tail)},⟨g.n 3,L2 _⟩,rfl,rfl,rfl,by show Except.ok (Flow.ret (.int v _))=Except.ok (Flow.ret (.int (Int.fmod _ _) _));(rw[<-ev];try rfl),rfl,rfl,by
   refine(ac [11,11] _).trans (.of_eq ?_)
   show(_,hC _ _ _ (S.cnt+(n+1:Nat)) _)::_::_=(_,hC _ _ _ (S.cnt+n+1) _)::_::(_++([]++[]))
   rw[e1,lz];rfl⟩
end
structure Tr where
 t:Nat
 r:Nat
 u:Nat
 u':Nat
def yK:Nat->List Tr->HL
 |i,t::ts=>(t.t+822,iu (jf i) t.u t.u' (t.r+822))::(t.r+822,lO 0 [])::yK (i+1) ts
 |_,[]=>[]
inductive gF where
 |opn (md:T3) (x:T4)
 |fld (ms:List Int)
 |get (x y:T2)
 |cls (ms:List Int)
 |lst (x:T3)
inductive Wn where
 |n (m:Int)
 |s (x:Str)
def Wn.v:Wn->Nat->Value
 | .n m,t=>.int m t
 | .s x,t=>.str x t
def gF.wants(k:Nat):gF->List Wn
 | .opn _ x=>[.s (ak k),.n ((k:Int)+1)]++x.p [] [.n 3] [.n 4] [.n 5]
 | .fld ms=>.n 9::ms.map .n
 | .get _ y=>[.n 9,.n (y.p 1 2)]
 | .cls ms=>ms.map .n
 | .lst x=>[.s (x.p gw aa cy)]
noncomputable def gF.num:gF->Nat
 | .cls ms=>ms.length
 |_=>0
noncomputable def gF.ok:gF->Prop
 | .fld ms=>1<=ms.length/\ms.length<=3/\∀m∈ms,0<=m/\m<=2
 | .cls ms=>1<=ms.length/\ms.length<=3/\∀m∈ms,1<=m/\m<=5
 |_=>True
def fN:Nat->Str
 |0=>ad
 |1=>av
 |_=>bb
def DR(ou:Nat->Nat):Nat->List Nat->List Nat->HL
 |i,p::ps,t::ts=>(p+822,tO [rA t,.str (fN i) (ou (i+1))])::DR ou (i+1) ps ts
 |_,_,_=>[]
def jx(o:gF)(oa la:Nat)(ps:List Nat)(ou:Nat->Nat)(tr:List Nat):HL:=match o,tr with
 | .opn md x,t0::t1::r=>[(oa+822,tO [.str bv (ou 0),.str (md.p fJ fK ff) (ou 1),rA t1,rA t0,match r with |[]=>.none |t2::_=>rA t2])]
 | .fld ms,t0::r=>(oa+822,tO [.str aL (ou 0),rA t0,rA la])::(la+822,lO ms.length (ps.map rA))::DR ou 0 ps r
 | .get x _,t0::t1::_=>[(oa+822,tO [.str (x.p eN eO) (ou 0),rA t0,rA t1])]
 | .cls _,r=>[(oa+822,tO [.str aC (ou 0),rA la]),(la+822,lO 0 (r.map rA))]
 | .lst _,t0::_=>[(oa+822,tO [.str cq (ou 0),.str ad (ou 1),rA t0])]
 |_,_=>[]
def sr:List Wn->List Nat->List Value
 |x::xs,t::ts=>x.v t::sr xs ts
 |_,_=>[]
structure yL where
 o:gF
 la:Nat
 ps:List Nat
 ou:Nat->Nat
 tr:List Tr
 ut:List Nat
 n:Nat
structure yL.Ok(D:yL)(k:Nat):Prop where
 ok:D.o.ok
 n:D.n<=5
 tl:D.tr.length=(D.o.wants k).length
 ul:D.ut.length=(D.o.wants k).length
 pl:∀ms,D.o= .fld ms->D.ps.length=ms.length
inductive Bv(P:Params)(S:St)(c d:List Ch)(p r:List Pa)(k:Nat)(f1 f2:Str)(o:gF)(dn:Nat)(gvl0_:List Value)(gn2_:Nat)(gn5_:Nat)(gl_:HL):Prop
 |mk (D T ct tl:_) (x1:D.o=o) (x2:D.n=dn) (x3:yL.Ok D k) (x4:gl_=aP P (jT S D.n ct tl)) (x5:aR P (jT S D.n ct tl) c d p r (jx D.o (gn2_) D.la D.ps D.ou (D.tr.map Tr.t)++(yK 0 D.tr++T)) k f1 f2) (x6:gvl0_=sr (D.o.wants k) D.ut) (x7:gn5_=D.o.num)
def gG(P:Params)(S:St)(c d:List Ch)(p r:List Pa)(k:Nat)(f1 f2:Str)(o:gF)(dn:Nat)(g:Gh):Prop:=Bv P S c d p r k f1 f2 o dn (g.vl 0) (g.n 2) (g.n 5) (g.l)
def i4(P:Params)(S:St)(k t:Nat)(A:Gh->Prop):SI:=⟨au 802 [rA (S.a 13),.int k t],60,[],aP P S,A,λ g=>⟨.ok (.ret (rA (g.n 4))),[],[(g.n 4+822,tO [rA (g.n 2),rA (g.n 3)]),(g.n 3+822,lO (g.n 5) (g.vl 0))],g.l⟩⟩
section
variable {w:World}{G:Shared}{S:St}{c d:List Ch}{p r:List Pa}{T:HL}{k:Nat}{f1 f2:Str}{L:HL}
theorem cJ{Z:SI}(hz:ai w G Z)(t:Nat)(E:Gh->yL){o:gF}{dn:Nat}(he:∀g,(E g).o=o/\(E g).n=dn)(h:aR w.2 S c d p r T k f1 f2)(ok:∀g,(E g).Ok k)
  (hc:Z.code=au 802 [rA (S.a 13),.int k t])(hd:Z.d<=60)(hi:Z.idx=[])(hL:Z.L=aP w.2 S)(ha:∀g,Z.asm g->cQ w.2 S (E g).n g.l)(R:Gh->HL)(vs:Gh->List Value)
  (ho:∀g,Z.out g=⟨.ok (.ret (rA (g.n 2))),[],(g.n 2+822,tO [rA (g.n 4),rA (g.n 3)])::(g.n 3+822,lO (E g).o.num (vs g))::R g,g.l⟩)
  (hv:∀g,vs g=sr ((E g).o.wants k) (E g).ut)(hR:∀g,(R g).Perm (jx (E g).o (g.n 4) (E g).la (E g).ps (E g).ou ((E g).tr.map Tr.t)++yK 0 (E g).tr)):ai w G (i4 w.2 S k t (gG w.2 S c d p r k f1 f2 o dn)):=by
 refine ai.fold hz [] 2 [] hc.symm hd (by rw[hi];rfl) (by rw[hL,L4];exact L2 _) λ g hg=>?_
 obtain⟨ct,pL⟩:=ha g hg
 let S':=jT S (E g).n ct (R g++S.tail)
 have iS:aR w.2 (jT S (E g).n ct S.tail) c d p r T k f1 f2:=⟨h.op,h.bo,h.fi,h.fin,h.bp,h.tl,h.pl,h.rl,h.cl,h.dl,h.ck,h.cn,h.dk,h.dn,h.nm,h.fl⟩
 refine k7.of (ho g) hi ?_
 refine⟨rfl,rfl,{g with n:=tk [g.n 0,g.n 1,g.n 4,g.n 3,g.n 2,(E g).o.num],vl:=λ _=>vs g,l:=aP w.2 S'},⟨E g,T,ct,R g++S.tail,(he g).1,(he g).2,ok g,rfl,?_,hv g,rfl⟩,rfl,rfl,rfl,rfl,rfl,rfl,?_⟩
 ·have:=dD (gT iS (R g)) ((hR g).append_right T)
  rw[L9] at this
  exact this
 ·show(bj w.2 S'++(R g++S.tail)).Perm ([]++(g.l++(R g++[])))
  rw[L4]
  show(bj w.2 (jT S (E g).n ct S.tail)++(R g++S.tail)).Perm (g.l++R g)
  refine(dQ _ pn).trans ?_
  rw[<-L9]
  exact(pL.symm.append_right _)
theorem C7(S:St):jT S 0 S.ct S.tail=S:=by
 obtain⟨Sa,Su,nm,nmn,fl,fln,op,opn,fi,fin,buf,bt,rcn,rt,bbuf,bbt,bo,bon,bp,bpn,r1,t1',r2,t2',cnt,ct,cells,tail⟩:=S
 show St.mk _ _ _ _ _ _ _ _ _ _ _ _ _ _ _ _ _ _ _ _ _ _ _ _ (cnt+((0:Nat):Int)) _ _ _=_
 rw[show cnt+((0:Nat):Int)=cnt from Int.add_zero cnt]
theorem wV:cQ w.2 S 0 (aP w.2 S):=⟨S.ct,.of_eq (by rw[C7])⟩
theorem vL(hk:k<=4)(t:Nat)(Y:Gh->Prop)(hY:∀g,Y g):ai w G ⟨.call (.type "str") ⟨[.int k t],[]⟩,12,[],L,Y,λ g=>⟨.ok (.ret (.str ⟨⟨[48+k]⟩⟩ (g.n 2))),[],[],L⟩⟩:=by
 let q:Pr:={pr mr L with u:=tk [t]}
 match k,hk with
 |0,_=>exact ai.im (str.sat w G q .a) (L3 rfl) (L2 _) λ g _=>hY g
 |1,_=>exact ai.im (str.sat w G q .b) (L3 rfl) (L2 _) λ g _=>hY g
 |2,_=>exact ai.im (str.sat w G q .c) (L3 rfl) (L2 _) λ g _=>hY g
 |3,_=>exact ai.im (str.sat w G q .d) (L3 rfl) (L2 _) λ g _=>hY g
 |4,_=>exact ai.im (str.sat w G q .e) (L3 rfl) (L2 _) λ g _=>hY g
 |_+5,h=>exact absurd h (by omega)
theorem ke(x y:T2)(hc:dP S)(hn:S.cnt<890)(h:aR w.2 S c d p r T k f1 f2)(t:Nat)(h0:dr S 0 6=x.p 2 3)(h1:dr S 1 2=y.p 0 1):ai w G (i4 w.2 S k t (gG w.2 S c d p r k f1 f2 (.get x y) 2)):=by
 let q:Pr:={pr S (aP w.2 S) with m:=λ i=>if i=9 then k else [y.p 0 1].getD i 0,u:=tk [t]}
 let A:AA:=λ n gs=>match n,gs with |0,[g]=>cQ w.2 S 1 g.l |2,[_,_,g]=>cQ w.2 S 2 g.l |99,[g]=>cQ w.2 S 2 g.l |_,_=>True
 have hz:=wQ.sat w G q x A λ b t=>⟨bC .e 0 _ hc (show S.cnt+((0:Nat):Int)<900 by omega) h0 wV,λ g0 a0=>λ g1=>⟨bC .a 1 _ hc (show S.cnt+((1:Nat):Int)<900 by omega) h1 a0,λ g2 a2=>λ sl _=>a2⟩⟩
 exact cJ hz t (λ g=>⟨.get x y,0,[],tk [g.n 11],[⟨g.n 5,g.n 6,g.n 12,g.n 13⟩,⟨g.n 7,g.n 8,g.n 14,g.n 15⟩],[g.n 9,g.n 10],2⟩) (λ _=>⟨rfl,rfl⟩) h (λ g=>⟨trivial,L3 rfl,rfl,rfl,λ _ e=>nomatch e⟩) rfl (L3 rfl) rfl rfl (λ g hg=>hg) (λ g=>((wQ.D w.2 q x (λ _ _=>True)).Z.out g).new.drop 2) (λ g=>[.int 9 (g.n 9),.int (1+y.p 0 1) (g.n 10)]) (λ g=>rfl) (λ g=>by cases y<;>rfl) λ g=>by
  have:=ac [0,0,0,0,0] (((wQ.D w.2 q x (λ _ _=>True)).Z.out g).new.drop 2)
  exact this.trans (.of_eq (L4 _))
theorem mZ(x:T3)(hc:dP S)(hn:S.cnt<890)(h:aR w.2 S c d p r T k f1 f2)(t:Nat)(h0:dr S 0 6=5)(h1:dr S 1 3=x.p 0 1 2):ai w G (i4 w.2 S k t (gG w.2 S c d p r k f1 f2 (.lst x) 2)):=by
 let q:Pr:={pr S (aP w.2 S) with m:=λ i=>if i=9 then k else [].getD i 0,u:=tk [t]}
 let A:AA:=λ n gs=>match n,gs with |0,[g]=>cQ w.2 S 1 g.l |2,[_,_,g]=>cQ w.2 S 2 g.l |99,[g]=>cQ w.2 S 2 g.l |_,_=>True
 have hz:=wR.sat w G q x A λ b t=>⟨bC .e 0 _ hc (show S.cnt+((0:Nat):Int)<900 by omega) h0 wV,λ g0 a0=>λ g1=>⟨bC .b 1 _ hc (show S.cnt+((1:Nat):Int)<900 by omega) h1 a0,λ g2 a2=>λ sl _=>a2⟩⟩
 exact cJ hz t (λ g=>⟨.lst x,0,[],tk [g.n 8,g.n 9],[⟨g.n 5,g.n 6,g.n 10,g.n 11⟩],[g.n 7],2⟩) (λ _=>⟨rfl,rfl⟩) h (λ g=>⟨trivial,L3 rfl,rfl,rfl,λ _ e=>nomatch e⟩) rfl (L3 rfl) rfl rfl (λ g hg=>hg) (λ g=>((wR.D w.2 q x (λ _ _=>True)).Z.out g).new.drop 2) (λ g=>[.str (x.p gw aa cy) (g.n 7)]) (λ g=>rfl) (λ g=>rfl) λ g=>by
  have:=ac [0,0,0] (((wR.D w.2 q x (λ _ _=>True)).Z.out g).new.drop 2)
  exact this.trans (.of_eq (L4 _))
theorem xI(x:T3)(hk:k<=4)(hc:dP S)(hn:S.cnt<890)(h:aR w.2 S c d p r T k f1 f2)(t:Nat)(h0:dr S 0 6=0)(h1:dr S 1 3=x.p 0 1 2)(h2:dr S 2 4=0):ai w G (i4 w.2 S k t (gG w.2 S c d p r k f1 f2 (.opn x .a) 3)):=by
 let q:Pr:={pr S (aP w.2 S) with m:=λ i=>if i=9 then k else [].getD i 0,u:=tk [t],c:=λ _=>48+k}
 let A:AA:=λ n gs=>match n,gs with |0,[g]=>cQ w.2 S 1 g.l |2,[_,_,g]=>cQ w.2 S 2 g.l |3,[_,_,_,g]=>cQ w.2 S 3 g.l |99,[g]=>cQ w.2 S 3 g.l |_,_=>True
 have hz:=jx.sat w G q x A λ b t=>⟨bC .e 0 _ hc (show S.cnt+((0:Nat):Int)<900 by omega) h0 wV,λ g0 a0=>λ g1=>⟨bC .b 1 _ hc (show S.cnt+((1:Nat):Int)<900 by omega) h1 a0,λ g2 a2=>⟨bC .c 2 _ hc (show S.cnt+((2:Nat):Int)<900 by omega) h2 a2,λ g3 a3=>⟨vL hk _ _ λ _=>trivial,λ g4 _=>λ sl _=>a3⟩⟩⟩⟩
 exact cJ hz t (λ g=>⟨.opn x .a,0,[],tk [g.n 11,g.n 12],[⟨g.n 7,g.n 8,g.n 15,g.n 16⟩,⟨g.n 5,g.n 6,g.n 13,g.n 14⟩],[g.n 9,g.n 10],3⟩) (λ _=>⟨rfl,rfl⟩) h (λ g=>⟨trivial,L3 rfl,rfl,rfl,λ _ e=>nomatch e⟩) rfl (L3 rfl) rfl rfl (λ g hg=>hg) (λ g=>((jx.D w.2 q x (λ _ _=>True)).Z.out g).new.drop 2) (λ g=>[.str ⟨⟨[70,48+k]⟩⟩ (g.n 9),.int ((k:Int)+1) (g.n 10)]) (λ g=>rfl) (λ g=>rfl) λ g=>by
  have:=ac [0,2,2,0,0] (((jx.D w.2 q x (λ _ _=>True)).Z.out g).new.drop 2)
  exact this.trans (.of_eq (L4 _))
theorem m4(x y:T3)(hk:k<=4)(hc:dP S)(hn:S.cnt<890)(h:aR w.2 S c d p r T k f1 f2)(t:Nat)(h0:dr S 0 6=0)(h1:dr S 1 3=x.p 0 1 2)(h2:dr S 2 4=y.p 1 2 3):ai w G (i4 w.2 S k t (gG w.2 S c d p r k f1 f2 (.opn x (y.p .b .c .d)) 3)):=by
 let q:Pr:={pr S (aP w.2 S) with m:=λ i=>if i=9 then k else [].getD i 0,u:=tk [t],c:=λ _=>48+k}
 let A:AA:=λ n gs=>match n,gs with |0,[g]=>cQ w.2 S 1 g.l |2,[_,_,g]=>cQ w.2 S 2 g.l |3,[_,_,_,g]=>cQ w.2 S 3 g.l |99,[g]=>cQ w.2 S 3 g.l |_,_=>True
 have hz:=wP.sat w G q x y A λ b t=>⟨bC .e 0 _ hc (show S.cnt+((0:Nat):Int)<900 by omega) h0 wV,λ g0 a0=>λ g1=>⟨bC .b 1 _ hc (show S.cnt+((1:Nat):Int)<900 by omega) h1 a0,λ g2 a2=>⟨bC .c 2 _ hc (show S.cnt+((2:Nat):Int)<900 by omega) h2 a2,λ g3 a3=>⟨vL hk _ _ λ _=>trivial,λ g4 _=>λ sl _=>a3⟩⟩⟩⟩
 exact cJ hz t (λ g=>⟨.opn x (y.p .b .c .d),0,[],tk [g.n 14,g.n 15],[⟨g.n 7,g.n 8,g.n 18,g.n 19⟩,⟨g.n 5,g.n 6,g.n 16,g.n 17⟩,⟨g.n 9,g.n 10,g.n 20,g.n 21⟩],[g.n 11,g.n 12,g.n 13],3⟩) (λ _=>⟨rfl,rfl⟩) h (λ g=>⟨trivial,L3 rfl,by cases y<;>rfl,by cases y<;>rfl,λ _ e=>nomatch e⟩) rfl (L3 rfl) rfl rfl (λ g hg=>hg) (λ g=>((wP.D w.2 q x y (λ _ _=>True)).Z.out g).new.drop 2) (λ g=>[.str ⟨⟨[70,48+k]⟩⟩ (g.n 11),.int ((k:Int)+1) (g.n 12),.int (y.p 3 4 5) (g.n 13)]) (λ g=>by cases y<;>rfl) (λ g=>by cases y<;>rfl) λ g=>by
  have:=ac [0,2,2,0,0,0,0] (((wP.D w.2 q x y (λ _ _=>True)).Z.out g).new.drop 2)
  exact this.trans (.of_eq (L4 _))
theorem vM(m0:Int)(q0:0<=m0/\m0<=2)(hc:dP S)(hn:S.cnt<890)(h:aR w.2 S c d p r T k f1 f2)(t:Nat)(h0:dr S 0 6=1)(h1:dr S 1 3=0)(h2:dr S 2 3=m0):ai w G (i4 w.2 S k t (gG w.2 S c d p r k f1 f2 (.fld [m0]) 3)):=by
 let q:Pr:={pr S (aP w.2 S) with m:=λ i=>if i=9 then k else [m0].getD i 0,u:=tk [t]}
 let A:AA:=λ n gs=>match n,gs with |0,[g]=>cQ w.2 S 1 g.l |2,[_,_,g]=>cQ w.2 S 2 g.l |4,[_,_,_,_,g]=>cQ w.2 S 3 g.l |99,[g]=>cQ w.2 S 3 g.l |_,_=>True
 have hz:=oO.sat w G q A λ b t=>⟨bC .e 0 _ hc (show S.cnt+((0:Nat):Int)<900 by omega) h0 wV,λ g0 a0=>λ g1=>⟨bC .b 1 _ hc (show S.cnt+((1:Nat):Int)<900 by omega) h1 a0,λ g2 a2=>λ g3=>⟨bC .b 2 _ hc (show S.cnt+((2:Nat):Int)<900 by omega) h2 a2,λ g4 a4=>λ g5=>λ sl _=>a4⟩⟩⟩
 exact cJ hz t (λ g=>⟨.fld [m0],g.n 7,[g.n 8],tk [g.n 13,g.n 16],[⟨g.n 5,g.n 6,g.n 14,g.n 15⟩,⟨g.n 9,g.n 10,g.n 17,g.n 18⟩],[g.n 11,g.n 12],3⟩) (λ _=>⟨rfl,rfl⟩) h (λ g=>⟨(⟨L3 rfl,L3 rfl,λ m hm=>by
  simp only[lI,List.not_mem_nil,or_false] at hm
  omega⟩:_/\_/\_),L3 rfl,rfl,rfl,λ ms e=>by injection e with e;subst e;rfl⟩) rfl (L3 rfl) rfl rfl (λ g hg=>hg) (λ g=>((oO.D w.2 q (λ _ _=>True)).Z.out g).new.drop 2) (λ g=>[.int 9 (g.n 11),.int m0 (g.n 12)]) (λ g=>rfl) (λ g=>rfl) λ g=>by
  have:=ac [0,2,2,0,0,0,0] (((oO.D w.2 q (λ _ _=>True)).Z.out g).new.drop 2)
  exact this.trans (.of_eq (L4 _))
theorem vN(m0:Int)(q0:0<=m0/\m0<=4)(hc:dP S)(hn:S.cnt<890)(h:aR w.2 S c d p r T k f1 f2)(t:Nat)(h0:dr S 0 6=4)(h1:dr S 1 3=0)(h2:dr S 2 5=m0):ai w G (i4 w.2 S k t (gG w.2 S c d p r k f1 f2 (.cls [1+m0]) 3)):=by
 let q:Pr:={pr S (aP w.2 S) with m:=λ i=>if i=9 then k else [m0].getD i 0,u:=tk [t]}
 let A:AA:=λ n gs=>match n,gs with |0,[g]=>cQ w.2 S 1 g.l |2,[_,_,g]=>cQ w.2 S 2 g.l |4,[_,_,_,_,g]=>cQ w.2 S 3 g.l |99,[g]=>cQ w.2 S 3 g.l |_,_=>True
 have hz:=oR.sat w G q A λ b t=>⟨bC .e 0 _ hc (show S.cnt+((0:Nat):Int)<900 by omega) h0 wV,λ g0 a0=>λ g1=>⟨bC .b 1 _ hc (show S.cnt+((1:Nat):Int)<900 by omega) h1 a0,λ g2 a2=>λ g3=>⟨bC .d 2 _ hc (show S.cnt+((2:Nat):Int)<900 by omega) h2 a2,λ g4 a4=>λ sl _=>a4⟩⟩⟩
 exact cJ hz t (λ g=>⟨.cls [1+m0],g.n 5,[],tk [g.n 9],[⟨g.n 6,g.n 7,g.n 10,g.n 11⟩],[g.n 8],3⟩) (λ _=>⟨rfl,rfl⟩) h (λ g=>⟨(⟨L3 rfl,L3 rfl,λ m hm=>by
  simp only[lI,List.not_mem_nil,or_false] at hm
  omega⟩:_/\_/\_),L3 rfl,rfl,rfl,λ _ e=>nomatch e⟩) rfl (L3 rfl) rfl rfl (λ g hg=>hg) (λ g=>((oR.D w.2 q (λ _ _=>True)).Z.out g).new.drop 2) (λ g=>[.int (1+m0) (g.n 8)]) (λ g=>rfl) (λ g=>rfl) λ g=>by
  have:=ac [0,0,0,0] (((oR.D w.2 q (λ _ _=>True)).Z.out g).new.drop 2)
  exact this.trans (.of_eq (L4 _))
theorem vO(m0 m1:Int)(q0:0<=m0/\m0<=2)(q1:0<=m1/\m1<=2)(hc:dP S)(hn:S.cnt<890)(h:aR w.2 S c d p r T k f1 f2)(t:Nat)(h0:dr S 0 6=1)(h1:dr S 1 3=1)(h2:dr S 2 3=m0)(h3:dr S 3 3=m1):ai w G (i4 w.2 S k t (gG w.2 S c d p r k f1 f2 (.fld [m0,m1]) 4)):=by
 let q:Pr:={pr S (aP w.2 S) with m:=λ i=>if i=9 then k else [m0,m1].getD i 0,u:=tk [t]}
 let A:AA:=λ n gs=>match n,gs with |0,[g]=>cQ w.2 S 1 g.l |2,[_,_,g]=>cQ w.2 S 2 g.l |4,[_,_,_,_,g]=>cQ w.2 S 3 g.l |5,[_,_,_,_,_,g]=>cQ w.2 S 4 g.l |99,[g]=>cQ w.2 S 4 g.l |_,_=>True
 have hz:=oP.sat w G q A λ b t=>⟨bC .e 0 _ hc (show S.cnt+((0:Nat):Int)<900 by omega) h0 wV,λ g0 a0=>λ g1=>⟨bC .b 1 _ hc (show S.cnt+((1:Nat):Int)<900 by omega) h1 a0,λ g2 a2=>λ g3=>⟨bC .b 2 _ hc (show S.cnt+((2:Nat):Int)<900 by omega) h2 a2,λ g4 a4=>⟨bC .b 3 _ hc (show S.cnt+((3:Nat):Int)<900 by omega) h3 a4,λ g5 a5=>λ g6=>λ sl _=>a5⟩⟩⟩⟩
 exact cJ hz t (λ g=>⟨.fld [m0,m1],g.n 7,[g.n 8,g.n 11],tk [g.n 17,g.n 20,g.n 23],[⟨g.n 5,g.n 6,g.n 18,g.n 19⟩,⟨g.n 9,g.n 10,g.n 21,g.n 22⟩,⟨g.n 12,g.n 13,g.n 24,g.n 25⟩],[g.n 14,g.n 15,g.n 16],4⟩) (λ _=>⟨rfl,rfl⟩) h (λ g=>⟨(⟨L3 rfl,L3 rfl,λ m hm=>by
  simp only[lI,List.not_mem_nil,or_false] at hm
  omega⟩:_/\_/\_),L3 rfl,rfl,rfl,λ ms e=>by injection e with e;subst e;rfl⟩) rfl (L3 rfl) rfl rfl (λ g hg=>hg) (λ g=>((oP.D w.2 q (λ _ _=>True)).Z.out g).new.drop 2) (λ g=>[.int 9 (g.n 14),.int m0 (g.n 15),.int m1 (g.n 16)]) (λ g=>rfl) (λ g=>rfl) λ g=>by
  have:=ac [0,2,2,4,0,0,0,0,0,0] (((oP.D w.2 q (λ _ _=>True)).Z.out g).new.drop 2)
  exact this.trans (.of_eq (L4 _))
theorem vP(m0 m1:Int)(q0:0<=m0/\m0<=4)(q1:0<=m1/\m1<=4)(hc:dP S)(hn:S.cnt<890)(h:aR w.2 S c d p r T k f1 f2)(t:Nat)(h0:dr S 0 6=4)(h1:dr S 1 3=1)(h2:dr S 2 5=m0)(h3:dr S 3 5=m1):ai w G (i4 w.2 S k t (gG w.2 S c d p r k f1 f2 (.cls [1+m0,1+m1]) 4)):=by
 let q:Pr:={pr S (aP w.2 S) with m:=λ i=>if i=9 then k else [m0,m1].getD i 0,u:=tk [t]}
 let A:AA:=λ n gs=>match n,gs with |0,[g]=>cQ w.2 S 1 g.l |2,[_,_,g]=>cQ w.2 S 2 g.l |4,[_,_,_,_,g]=>cQ w.2 S 3 g.l |5,[_,_,_,_,_,g]=>cQ w.2 S 4 g.l |99,[g]=>cQ w.2 S 4 g.l |_,_=>True
 have hz:=oS.sat w G q A λ b t=>⟨bC .e 0 _ hc (show S.cnt+((0:Nat):Int)<900 by omega) h0 wV,λ g0 a0=>λ g1=>⟨bC .b 1 _ hc (show S.cnt+((1:Nat):Int)<900 by omega) h1 a0,λ g2 a2=>λ g3=>⟨bC .d 2 _ hc (show S.cnt+((2:Nat):Int)<900 by omega) h2 a2,λ g4 a4=>⟨bC .d 3 _ hc (show S.cnt+((3:Nat):Int)<900 by omega) h3 a4,λ g5 a5=>λ sl _=>a5⟩⟩⟩⟩
 exact cJ hz t (λ g=>⟨.cls [1+m0,1+m1],g.n 5,[],tk [g.n 12],[⟨g.n 6,g.n 7,g.n 13,g.n 14⟩,⟨g.n 8,g.n 9,g.n 15,g.n 16⟩],[g.n 10,g.n 11],4⟩) (λ _=>⟨rfl,rfl⟩) h (λ g=>⟨(⟨L3 rfl,L3 rfl,λ m hm=>by
  simp only[lI,List.not_mem_nil,or_false] at hm
  omega⟩:_/\_/\_),L3 rfl,rfl,rfl,λ _ e=>nomatch e⟩) rfl (L3 rfl) rfl rfl (λ g hg=>hg) (λ g=>((oS.D w.2 q (λ _ _=>True)).Z.out g).new.drop 2) (λ g=>[.int (1+m0) (g.n 10),.int (1+m1) (g.n 11)]) (λ g=>rfl) (λ g=>rfl) λ g=>by
  have:=ac [0,0,0,0,0,0] (((oS.D w.2 q (λ _ _=>True)).Z.out g).new.drop 2)
  exact this.trans (.of_eq (L4 _))
set_option maxHeartbeats 1000000 in
theorem vQ(m0 m1 m2:Int)(q0:0<=m0/\m0<=2)(q1:0<=m1/\m1<=2)(q2:0<=m2/\m2<=2)(hc:dP S)(hn:S.cnt<890)(h:aR w.2 S c d p r T k f1 f2)(t:Nat)(h0:dr S 0 6=1)(h1:dr S 1 3=2)(h2:dr S 2 3=m0)(h3:dr S 3 3=m1)(h4:dr S 4 3=m2):ai w G (i4 w.2 S k t (gG w.2 S c d p r k f1 f2 (.fld [m0,m1,m2]) 5)):=by
 let q:Pr:={pr S (aP w.2 S) with m:=λ i=>if i=9 then k else [m0,m1,m2].getD i 0,u:=tk [t]}
 let A:AA:=λ n gs=>match n,gs with |0,[g]=>cQ w.2 S 1 g.l |2,[_,_,g]=>cQ w.2 S 2 g.l |4,[_,_,_,_,g]=>cQ w.2 S 3 g.l |5,[_,_,_,_,_,g]=>cQ w.2 S 4 g.l |6,[_,_,_,_,_,_,g]=>cQ w.2 S 5 g.l |99,[g]=>cQ w.2 S 5 g.l |_,_=>True
 have hz:=oQ.sat w G q A λ b t=>⟨bC .e 0 _ hc (show S.cnt+((0:Nat):Int)<900 by omega) h0 wV,λ g0 a0=>λ g1=>⟨bC .b 1 _ hc (show S.cnt+((1:Nat):Int)<900 by omega) h1 a0,λ g2 a2=>λ g3=>⟨bC .b 2 _ hc (show S.cnt+((2:Nat):Int)<900 by omega) h2 a2,λ g4 a4=>⟨bC .b 3 _ hc (show S.cnt+((3:Nat):Int)<900 by omega) h3 a4,λ g5 a5=>⟨bC .b 4 _ hc (show S.cnt+((4:Nat):Int)<900 by omega) h4 a5,λ g6 a6=>λ g7=>λ sl _=>a6⟩⟩⟩⟩⟩
 exact cJ hz t (λ g=>⟨.fld [m0,m1,m2],g.n 7,[g.n 8,g.n 11,g.n 14],tk [g.n 21,g.n 24,g.n 27,g.n 30],[⟨g.n 5,g.n 6,g.n 22,g.n 23⟩,⟨g.n 9,g.n 10,g.n 25,g.n 26⟩,⟨g.n 12,g.n 13,g.n 28,g.n 29⟩,⟨g.n 15,g.n 16,g.n 31,g.n 32⟩],[g.n 17,g.n 18,g.n 19,g.n 20],5⟩) (λ _=>⟨rfl,rfl⟩) h (λ g=>⟨(⟨L3 rfl,L3 rfl,λ m hm=>by
  simp only[lI,List.not_mem_nil,or_false] at hm
  omega⟩:_/\_/\_),L3 rfl,rfl,rfl,λ ms e=>by injection e with e;subst e;rfl⟩) rfl (L3 rfl) rfl rfl (λ g hg=>hg) (λ g=>((oQ.D w.2 q (λ _ _=>True)).Z.out g).new.drop 2) (λ g=>[.int 9 (g.n 17),.int m0 (g.n 18),.int m1 (g.n 19),.int m2 (g.n 20)]) (λ g=>rfl) (λ g=>rfl) λ g=>by
  have:=ac [0,2,2,4,6,0,0,0,0,0,0,0,0] (((oQ.D w.2 q (λ _ _=>True)).Z.out g).new.drop 2)
  exact this.trans (.of_eq (L4 _))
theorem vR(m0 m1 m2:Int)(q0:0<=m0/\m0<=4)(q1:0<=m1/\m1<=4)(q2:0<=m2/\m2<=4)(hc:dP S)(hn:S.cnt<890)(h:aR w.2 S c d p r T k f1 f2)(t:Nat)(h0:dr S 0 6=4)(h1:dr S 1 3=2)(h2:dr S 2 5=m0)(h3:dr S 3 5=m1)(h4:dr S 4 5=m2):ai w G (i4 w.2 S k t (gG w.2 S c d p r k f1 f2 (.cls [1+m0,1+m1,1+m2]) 5)):=by
 let q:Pr:={pr S (aP w.2 S) with m:=λ i=>if i=9 then k else [m0,m1,m2].getD i 0,u:=tk [t]}
 let A:AA:=λ n gs=>match n,gs with |0,[g]=>cQ w.2 S 1 g.l |2,[_,_,g]=>cQ w.2 S 2 g.l |4,[_,_,_,_,g]=>cQ w.2 S 3 g.l |5,[_,_,_,_,_,g]=>cQ w.2 S 4 g.l |6,[_,_,_,_,_,_,g]=>cQ w.2 S 5 g.l |99,[g]=>cQ w.2 S 5 g.l |_,_=>True
 have hz:=oT.sat w G q A λ b t=>⟨bC .e 0 _ hc (show S.cnt+((0:Nat):Int)<900 by omega) h0 wV,λ g0 a0=>λ g1=>⟨bC .b 1 _ hc (show S.cnt+((1:Nat):Int)<900 by omega) h1 a0,λ g2 a2=>λ g3=>⟨bC .d 2 _ hc (show S.cnt+((2:Nat):Int)<900 by omega) h2 a2,λ g4 a4=>⟨bC .d 3 _ hc (show S.cnt+((3:Nat):Int)<900 by omega) h3 a4,λ g5 a5=>⟨bC .d 4 _ hc (show S.cnt+((4:Nat):Int)<900 by omega) h4 a5,λ g6 a6=>λ sl _=>a6⟩⟩⟩⟩⟩
 exact cJ hz t (λ g=>⟨.cls [1+m0,1+m1,1+m2],g.n 5,[],tk [g.n 15],[⟨g.n 6,g.n 7,g.n 16,g.n 17⟩,⟨g.n 8,g.n 9,g.n 18,g.n 19⟩,⟨g.n 10,g.n 11,g.n 20,g.n 21⟩],[g.n 12,g.n 13,g.n 14],5⟩) (λ _=>⟨rfl,rfl⟩) h (λ g=>⟨(⟨L3 rfl,L3 rfl,λ m hm=>by
  simp only[lI,List.not_mem_nil,or_false] at hm
  omega⟩:_/\_/\_),L3 rfl,rfl,rfl,λ _ e=>nomatch e⟩) rfl (L3 rfl) rfl rfl (λ g hg=>hg) (λ g=>((oT.D w.2 q (λ _ _=>True)).Z.out g).new.drop 2) (λ g=>[.int (1+m0) (g.n 12),.int (1+m1) (g.n 13),.int (1+m2) (g.n 14)]) (λ g=>rfl) (λ g=>rfl) λ g=>by
  have:=ac [0,0,0,0,0,0,0,0] (((oT.D w.2 q (λ _ _=>True)).Z.out g).new.drop 2)
  exact this.trans (.of_eq (L4 _))
theorem zP(hk:k<=4)(hc:dP S)(hn:S.cnt<890)(h:aR w.2 S c d p r T k f1 f2):∃o dn,∀t,ai w G (i4 w.2 S k t (gG w.2 S c d p r k f1 f2 o dn)):=by
 have d3:∀n,dr S n 3=0\/dr S n 3=1\/dr S n 3=2:=λ n=>vz (by have:=jU (S:=S) (n:=n) (m:=3) (by decide);omega)
 have q3:∀n,0<=dr S n 3/\dr S n 3<=2:=λ n=>by have:=jU (S:=S) (n:=n) (m:=3) (by decide);omega
 have q5:∀n,0<=dr S n 5/\dr S n 5<=4:=λ n=>by have:=jU (S:=S) (n:=n) (m:=5) (by decide);omega
 have d2:dr S 1 2=0\/dr S 1 2=1:=by have:=jU (S:=S) (n:=1) (m:=2) (by decide);omega
 have d4:dr S 2 4=0\/dr S 2 4=1\/dr S 2 4=2\/dr S 2 4=3:=by have:=jU (S:=S) (n:=2) (m:=4) (by decide);omega
 have d6:dr S 0 6=0\/dr S 0 6=1\/dr S 0 6=2\/dr S 0 6=3\/dr S 0 6=4\/dr S 0 6=5:=by have:=jU (S:=S) (n:=0) (m:=6) (by decide);omega
 rcases d6 with e |e |e |e |e |e
 ·obtain⟨x,hx⟩:∃x:T3,dr S 1 3=x.p 0 1 2:=by
   rcases d3 1 with e |e |e
   ·exact⟨.a,e⟩
   ·exact⟨.b,e⟩
   ·exact⟨.c,e⟩
  rcases d4 with e2 |e2 |e2 |e2
  ·exact⟨_,_,λ t=>xI x hk hc hn h t e hx e2⟩
  ·exact⟨_,_,λ t=>m4 x .a hk hc hn h t e hx e2⟩
  ·exact⟨_,_,λ t=>m4 x .b hk hc hn h t e hx e2⟩
  ·exact⟨_,_,λ t=>m4 x .c hk hc hn h t e hx e2⟩
 ·rcases d3 1 with e1 |e1 |e1
  ·exact⟨_,_,λ t=>vM _ (q3 2) hc hn h t e e1 rfl⟩
  ·exact⟨_,_,λ t=>vO _ _ (q3 2) (q3 3) hc hn h t e e1 rfl rfl⟩
  ·exact⟨_,_,λ t=>vQ _ _ _ (q3 2) (q3 3) (q3 4) hc hn h t e e1 rfl rfl rfl⟩
 ·rcases d2 with e1 |e1
  ·exact⟨_,_,λ t=>ke .a .a hc hn h t e e1⟩
  ·exact⟨_,_,λ t=>ke .a .b hc hn h t e e1⟩
 ·rcases d2 with e1 |e1
  ·exact⟨_,_,λ t=>ke .b .a hc hn h t e e1⟩
  ·exact⟨_,_,λ t=>ke .b .b hc hn h t e e1⟩
 ·rcases d3 1 with e1 |e1 |e1
  ·exact⟨_,_,λ t=>vN _ (q5 2) hc hn h t e e1 rfl⟩
  ·exact⟨_,_,λ t=>vP _ _ (q5 2) (q5 3) hc hn h t e e1 rfl rfl⟩
  ·exact⟨_,_,λ t=>vR _ _ _ (q5 2) (q5 3) (q5 4) hc hn h t e e1 rfl rfl rfl⟩
 ·rcases d3 1 with e1 |e1 |e1
  ·exact⟨_,_,λ t=>mZ .a hc hn h t e e1⟩
  ·exact⟨_,_,λ t=>mZ .b hc hn h t e e1⟩
  ·exact⟨_,_,λ t=>mZ .c hc hn h t e e1⟩
end
def oA(w:World)(G:Shared)(V:HL):Wn->AV->Prop
 | .n m,v=>aY w G V v m
 | .s x,v=>∃t,v= .s x t
def rc(w:World)(G:Shared)(V:HL):Wn->AV->Str->Prop
 | .n _,v,e=>cI w G V v e/\(e=b9\/e=gv)
 | .s _,v,e=>e=b9/\gB w G V v
noncomputable def fu(c:Str):Bool:=c.cps.toList == aa.cps.toList
def f4(w:World)(G:Shared)(V:HL):List Wn->List AV->Str->Nat->Str->Nat->Prop
 |[],[],c,r,c',r'=>c'=c/\r'=r
 |x::ws,v::vs,c,r,c',r'=>(oA w G V x v/\f4 w G V ws vs c (match fu c with |true=>r+1 |false=>r) c' r')\/(∃e,rc w G V x v e/\f4 w G V ws vs (match fu c with |true=>e |false=>c) r c' r')
 |_,_,_,_,_,_=>False
section
variable {w:World}{G:Shared}
theorem aY.mono{V V2 X:HL}{v:AV}{m:Int}(h:aY w G V v m)(p:V2.Perm (V++X)):aY w G V2 v m:=λ u L R hL=>h u L (X++R) (hL.trans ((p.append_right R).trans (.of_eq (L9 ..))))
theorem cI.mono{V V2 X:HL}{v:AV}{e:Str}(h:cI w G V v e)(p:V2.Perm (V++X)):cI w G V2 v e:=λ u L R hL=>h u L (X++R) (hL.trans ((p.append_right R).trans (.of_eq (L9 ..))))
theorem gB.mono{V V2 X:HL}{v:AV}(h:gB w G V v)(p:V2.Perm (V++X)):gB w G V2 v:=λ L R hL=>h L (X++R) (hL.trans ((p.append_right R).trans (.of_eq (L9 ..))))
theorem f4.mono{V V2 X:HL}(p:V2.Perm (V++X)):∀{ws:List Wn} {vs:List AV} {c:Str} {r:Nat} {c':Str} {r':Nat},f4 w G V ws vs c r c' r'->f4 w G V2 ws vs c r c' r'
 |[],[],_,_,_,_,h=>h
 |x::ws,v::vs,c,r,c',r',h=>by
  rcases h with⟨h1,h2⟩ |⟨e,h1,h2⟩
  ·refine .inl ⟨?_,h2.mono p⟩
   cases x with
   |n m=>exact aY.mono h1 p
   |s x=>exact h1
  ·refine .inr ⟨e,?_,h2.mono p⟩
   cases x with
   |n m=>exact⟨cI.mono h1.1 p,h1.2⟩
   |s x=>exact⟨h1.1,gB.mono h1.2 p⟩
 |[],_::_,_,_,_,_,h=>h.elim
 |_::_,[],_,_,_,_,h=>h.elim
def oB(P:Params)(q:Pr)(x:T3)(L:HL)(A:Gh->Prop):SI:=⟨cg (aq (fB (aq bY 114)) 1) (rA (q.a 1)) (ci (bW P) 797 (q.a 0+822)),50,(lH.D P q x dh).i,L,A,λ g=>⟨.ok .next,[mX P q (g.sl (q.a 0+822)) g,eT (g.n 7),aO (g.n 8) ⟨g.vl 0⟩,lO (q.en 2) (q.l 1)],[],g.l⟩⟩
variable {S:St}{c d:List Ch}{p r:List Pa}{T:HL}{k:Nat}{f1 f2:Str}
def Aw(W:Wn)(v:Int):Option Str:=if v=6 then some b9 else if v=7 then some (match W with | .n _=>gv | .s _=>b9) else none
def fM(S:St):List Wn->Nat->Str->Nat->Str×Nat
 |[],_,c,r=>(c,r)
 |W::ws,n,c,r=>match Aw W (dr S n 8) with
  |none=>fM S ws (n+1) c (match fu c with |true=>r+1 |false=>r)
  |some e=>fM S ws (n+1) (match fu c with |true=>e |false=>c) r
theorem gH{W:Wn}{ws:List Wn}{n:Nat}{c:Str}{r:Nat}(h6:dr S n 8≠6)(h7:dr S n 8≠7):fM S (W::ws) n c r=fM S ws (n+1) c (match fu c with |true=>r+1 |false=>r):=by
 have e:Aw W (dr S n 8)=none:=by unfold Aw;rw[if_neg h6,if_neg h7]
 show(match Aw W (dr S n 8) with |none=>_ |some e=>_)=_
 rw[e]
theorem gI{W:Wn}{ws:List Wn}{n:Nat}{c:Str}{r:Nat}{v:Int}{z:Str}(h:dr S n 8=v)(hz:Aw W v=some z):fM S (W::ws) n c r=fM S ws (n+1) (match fu c with |true=>z |false=>c) r:=by
 show(match Aw W (dr S n 8) with |none=>_ |some e=>_)=_
 rw[h,hz]
inductive C8(w:World)(G:Shared)(S:St)(c d:List Ch)(p r:List Pa)(T:HL)(k:Nat)(f1 f2:Str)(ws:List Wn)(vs0:List Value)(c0:Str)(r0 n:Nat)(gvl0_:List Value)(gv1_:Value)(gv0_:Value)(gl_:HL):Prop
 |mk (V vs ct tl:_) (x1:gl_.Perm (aP w.2 (jT S (n+ws.length) ct tl))) (x2:aR w.2 (jT S (n+ws.length) ct tl) c d p r (V++T) k f1 f2) (x3:f4 w G V ws vs c0 r0 (fM S ws n c0 r0).1 (fM S ws n c0 r0).2) (x4:gvl0_=vs0++vs.map AV.v) (x5:(∃t,gv0_= .str (fM S ws n c0 r0).1 t)) (x6:∃t,gv1_= .int (fM S ws n c0 r0).2 t)
def df(w:World)(G:Shared)(S:St)(c d:List Ch)(p r:List Pa)(T:HL)(k:Nat)(f1 f2:Str)(ws:List Wn)(vs0:List Value)(c0:Str)(r0 n:Nat)(g:Gh):Prop:=C8 w G S c d p r T k f1 f2 ws vs0 c0 r0 n (g.vl 0) (g.v 1) (g.v 0) (g.l)
theorem cF{Z z':SI}(hz:ai w G Z){ws:List Wn}{vs0:List Value}{c0 c1:Str}{r0 r1 n:Nat}(W:Wn)(he:fM S (W::ws) n c0 r0=fM S ws (n+1) c1 r1)(v:Gh->Nat->AV)(N:Gh->HL)
  (ha:∀g,Z.asm g->∃u,df w G S c d p r T k f1 f2 ws (vs0++[(v g u).v]) c1 r1 (n+1) g)(hc:z'.code=Z.code)(hd:Z.d<=z'.d)(hi:Z.idx=z'.idx)(hL:z'.L.Perm Z.L)(hA:z'.asm=df w G S c d p r T k f1 f2 (W::ws) vs0 c0 r0 n)
  (ho:∀g l,zy Z z' N g {g with l:=l} l)
  (hr:∀g u V,(oA w G (N g++V) W (v g u)/\c1=c0/\r1=(match fu c0 with |true=>r0+1 |false=>r0))\/(∃e,rc w G (N g++V) W (v g u) e/\c1=(match fu c0 with |true=>e |false=>c0)/\r1=r0)):ai w G z':=by
 refine ai.fold hz [] 0 [] hc hd (by rw[hi,L4]) (by rw[L4];exact hL) λ g hg=>?_
 obtain⟨u,V,vs,ct,tl,h1,h2,h3,h4,h5,h6⟩:=ha g hg
 rw[<-he] at h3 h5 h6
 have e:n+1+ws.length=n+(W::ws).length:=by rw[L6];omega
 rw[e] at h1 h2
 obtain⟨o1,o2,o3,o4,o5,o6,o7⟩:=ho g (aP w.2 (jT S (n+(W::ws).length) ct (N g++tl)))
 have l0:(Z.out g).fin.drop z'.idx.length=[]:=by rw[<-o5];exact List.drop_length ..
 refine⟨by rw[hi];exact o5,by rw[l0];rfl,{g with l:=aP w.2 (jT S (n+(W::ws).length) ct (N g++tl))},?_,rfl,rfl,rfl,o3,by rw[<-o5,List.take_length];exact o4,by rw[List.take_zero];exact o6,?_⟩
 ·rw[hA]
  have m:(N g++V).Perm (V++N g):=pn
  refine⟨N g++V,v g u::vs,ct,N g++tl,L2 _,?_,?_,by rw[h4,L9];rfl,h5,h6⟩
  ·have:=gT h2 (N g)
   rw[<-L9] at this
   exact this
  ·rcases hr g u V with⟨a1,a2,a3⟩ |⟨e,a1,a2,a3⟩
   ·subst a2 a3
    exact .inl ⟨a1,h3.mono m⟩
   ·subst a2 a3
    exact .inr ⟨e,a1,h3.mono m⟩
 ·rw[o7,l0,o1,o2,B8]
  show(bj w.2 (jT S (n+(W::ws).length) ct tl)++(N g++tl)).Perm ([]++(g.l++(N g++[])))
  rw[L4]
  refine(dQ _ pn).trans ?_
  rw[<-L9]
  exact h1.symm.append_right _
theorem re(vs:List Value)(n:Nat)(h:vs.length<=n):(⟨vs⟩:Array Value).size<=n:=h
theorem mu(q:Pr)(v:Value):((q.ar 0).push v).toList=q.l 0++[v]:=by unfold Pr.ar;simp
def oC(q:Pr)(c:Str)(ct:Nat)(r:Int)(rt wt:Nat)(wv:Value)(ft:Nat)(fv:Value)(it:Nat)(iv v:Value)(sl:Array (Option Value)):Pr:={q with u:=λ i=>match i with |3=>ct |5=>rt |7=>wt |9=>ft |11=>it |i=>q.u i,m:=λ _=>r,s:=λ _=>c,v:=λ i=>match i with |2=>wv |3=>fv |_=>iv,l:=λ i=>match i with |0=>((q.ar 0).push v).toList |i=>q.l i,en:=λ i=>match i with |1=>q.en 1+1 |i=>q.en i,j:=λ i=>match i with |9=>q.j 9+1 |i=>i,sl:=λ _=>sl}
structure iy(S:St)(q:Pr)(x:T3)(ws:List Wn)(ts:List Nat)(vs0:List Value)(c0:Str)(r0 n:Nat):Prop where
 v0:q.l 0=vs0
 ce:dP S
 cn:S.cnt+n+ws.length<890
 sa:q.S=S
 lw:ws.length=ts.length
 dl:(q.l 1).drop (q.j 9)=sr ws ts
 sh:(x= .c/\c0=q.s 0/\fu c0=false)\/(x≠.c/\c0=aa)
 m:q.m 1=r0
 sz:(q.l 0).length+ws.length<=50
 ok:∀y∈ws,match y with | .n m=>0<=m/\m<=9 | .s _=>x= .a/\ws.head? =some y
 tl:∀y∈ws.tail,∃m,y= .n m
 nz:x= .a->ws≠ []
def C9(w:World)(G:Shared)(S:St)(c d:List Ch)(p r:List Pa)(T:HL)(k:Nat)(f1 f2:Str)(ws:List Wn):Prop:=∀(ts:List Nat) (q:Pr) (x:T3) (vs0:List Value) (c0:Str) (r0 n ct:Nat) (tl L:HL),iy S q x ws ts vs0 c0 r0 n->aR w.2 (jT S n ct tl) c d p r T k f1 f2->L.Perm (aP w.2 (jT S n ct tl))->ai w G (oB w.2 q x L (df w G S c d p r T k f1 f2 ws vs0 c0 r0 n))
theorem zQ:C9 w G S c d p r T k f1 f2 []:=λ ts q x vs0 c0 r0 n ct tl L h hi hL=>by
 have v0:=h.v0
 subst v0
 have hx:(q.l 1).length<=q.j 9:=by
  have:=h.dl
  cases ts<;>exact List.drop_eq_nil_iff.mp this
 have fin:∀(g:Gh) (t:Nat) (cc:Str) (u:Nat),c0=cc->g.l=L->g.vl 0=q.l 0->g.v 0= .str cc t->g.v 1= .int (q.m 1) u->df w G S c d p r T k f1 f2 [] (q.l 0) c0 r0 n g:=λ g t cc u e h1 h2 h3 h4=>by
  subst e
  exact⟨[],[],ct,tl,h1▸hL,hi,⟨rfl,rfl⟩,by rw[h2];exact(L4 _).symm,⟨t,h3⟩,u,by rw[h4,h.m];rfl⟩
 cases x with
 |a=>exact absurd rfl (h.nz rfl)
 |b=>
  have e:c0=aa:=by
   rcases h.sh with⟨e,_⟩ |⟨_,e⟩
   ·cases e
   ·exact e
  exact ai.im (yg.sat w G {q with L:=L,s:=λ _=>aa} .a (λ n' gs=>match gs with |[g]=>df w G S c d p r T k f1 f2 [] (q.l 0) c0 r0 n g |_=>True) λ b t=>⟨iV hx,λ _ _ sl _=>by refine fin _ (q.u 3) _ (q.u 5) e ?_ ?_ ?_ ?_<;>rfl⟩) (show 2<=50 by decide) (L2 _) λ g hg=>hg
 |c=>
  have e:c0=q.s 0:=by
   rcases h.sh with⟨_,e,_⟩ |⟨e,_⟩
   ·exact e
   ·exact absurd rfl e
  exact ai.im (yg.sat w G {q with L:=L} .b (λ n' gs=>match gs with |[g]=>df w G S c d p r T k f1 f2 [] (q.l 0) c0 r0 n g |_=>True) λ b t=>⟨iV hx,λ _ _ sl _=>by refine fin _ (q.u 3) _ (q.u 5) e ?_ ?_ ?_ ?_<;>rfl⟩) (show 2<=50 by decide) (L2 _) λ g hg=>hg
theorem b7{n n' ct ct':Nat}{tl:HL}(h:aR w.2 (jT S n ct tl) c d p r T k f1 f2):aR w.2 (jT S n' ct' tl) c d p r T k f1 f2:=⟨h.op,h.bo,h.fi,h.fin,h.bp,h.tl,h.pl,h.rl,h.cl,h.dl,h.ck,h.cn,h.dk,h.dn,h.nm,h.fl⟩
theorem iy.hx{q:Pr}{x:T3}{y:Wn}{ws:List Wn}{t:Nat}{ts:List Nat}{vs0:List Value}{c0:Str}{r0 n:Nat}(h:iy S q x (y::ws) (t::ts) vs0 c0 r0 n):(q.l 1)[q.j 9]? =some (y.v t)/\(q.l 1).drop (q.j 9+1)=sr ws ts:=by
 have e:(q.l 1).drop (q.j 9)=y.v t::sr ws ts:=h.dl
 refine⟨?_,?_⟩
 ·have:=congrArg (λ l=>l[0]?) e
  simpa using this
 ·have:=congrArg (List.drop 1) e
  rw[List.drop_drop] at this
  exact this
theorem iy.nx{q:Pr}{x:T3}{W:Wn}{ws:List Wn}{t:Nat}{ts:List Nat}{vs0:List Value}{c0:Str}{r0 n:Nat}(h:iy S q x (W::ws) (t::ts) vs0 c0 r0 n){c c1:Str}{ct rt wt ft it r1:Nat}{r:Int}{wv fv iv v:Value}{sl:Array (Option Value)}{y:T3}(ya:y≠.a)(sh:(y= .c/\c1=c/\fu c1=false)\/(y≠.c/\c1=aa))(m:r=((r1:Nat):Int)):
  iy S (oC q c ct r rt wt wv ft fv it iv v sl) y ws ts (q.l 0++[v]) c1 r1 (n+1):=
 ⟨mu q _,h.ce,by have:=h.cn;rw[L6] at this;simp only[Int.natCast_add,Int.natCast_one] at this ⊢;omega,h.sa,by have:=h.lw;simpa using this,h.hx.2,sh,m,
  by show(((q.ar 0).push _).toList).length+_<=50;have:=h.sz;rw[mu,rC];rw[L6] at this;simp only[L6,AD];omega,λ y hy=>by
   obtain⟨m',e⟩:=h.tl y hy
   have:=h.ok y (L7 _ hy)
   subst e
   exact this,λ y hy=>h.tl y (List.mem_of_mem_tail hy),λ e=>absurd e ya⟩
theorem iy.ab{q:Pr}{x:T3}{ws:List Wn}{ts:List Nat}{vs0:List Value}{c0:Str}{r0 n:Nat}(h:iy S q x ws ts vs0 c0 r0 n)(hx:x≠.c):c0=aa:=by
 rcases h.sh with⟨e,_⟩ |⟨_,e⟩
 ·exact absurd e hx
 ·exact e
theorem iy.cc{q:Pr}{ws:List Wn}{ts:List Nat}{vs0:List Value}{c0:Str}{r0 n:Nat}(h:iy S q .c ws ts vs0 c0 r0 n):c0=q.s 0/\fu (q.s 0)=false:=by
 rcases h.sh with⟨_,e,z⟩ |⟨e,_⟩
 ·exact⟨e,e▸z⟩
 ·exact absurd rfl e
theorem iy.c9{q:Pr}{x:T3}{ws:List Wn}{ts:List Nat}{vs0:List Value}{c0:Str}{r0 n:Nat}(h:iy S q x ws ts vs0 c0 r0 n):S.cnt+n<900:=by have:=h.cn;omega
theorem iy.z9{q:Pr}{x:T3}{ws:List Wn}{ts:List Nat}{vs0:List Value}{c0:Str}{r0 n:Nat}(h:iy S q x ws ts vs0 c0 r0 n):(⟨q.l 0⟩:Array Value).size<=1000:=by have:=h.sz;exact ky (Nat.le_add_right _ _) (ky this (L3 rfl))
variable {ws:List Wn}(ih:C9 w G S c d p r T k f1 f2 ws){t:Nat}{ts:List Nat}{q:Pr}{vs0:List Value}{c0:Str}{r0 n ct:Nat}{tl L:HL}(hi:aR w.2 (jT S n ct tl) c d p r T k f1 f2)(hL:L.Perm (aP w.2 (jT S n ct tl)))
include ih hi hL
theorem vS(m:Int)(hm:0<=m/\m<=9)(h:iy S q .a (.n m::ws) (t::ts) vs0 c0 r0 n)(hf:dr S n 8<5):ai w G (oB w.2 q .a L (df w G S c d p r T k f1 f2 (.n m::ws) vs0 c0 r0 n)):=by
 obtain rfl:=h.v0
 obtain rfl:=h.sa
 obtain rfl:=h.ab (λ e=>by cases e)
 let q1:Pr:={q with L:=L,m:=λ i=>match i with |1=>q.m 1 |4=>m |_=>dr q.S n 8,s:=λ i=>match i with |0=>q.s 0 |_=>aa,c:=λ _=>t}
 let A:AA:=λ n' gs=>match n',gs with |1,[_,g]=>cQ w.2 {q.S with tail:=tl} (n+1) g.l |6,[g0,g1,g2,g]=>df w G q.S c d p r T k f1 f2 ws (q.l 0++[.int m t]) aa (r0+1) (n+1) g |99,[g]=>∃u:Nat,df w G q.S c d p r T k f1 f2 ws (q.l 0++[.int m t]) aa (r0+1) (n+1) g |_,_=>True
 have hz:=lH.sat w G q1 .a A λ b u=>⟨bl h.hx.1,λ g0 _=>⟨bC (S:={q.S with tail:=tl}) .f n _ h.ce h.c9 rfl ⟨ct,hL⟩,λ g1 a1=>⟨eV (jD (show dr q.S n 8<6 by omega)),⟨dK (nC.mpr (show dr q.S n 8≠5 by omega)),⟨br h.z9,λ g2 _=>⟨aD rfl,⟨by
  obtain⟨ct',p1⟩:=a1
  exact ih ts (oC q aa (q.u 3) (q.m 1+1) (g2.n 1+2) (g0.n 1+0) (.int m t) (g1.n 1+0) (.int (dr q.S n 8) (g1.n 2)) (q.u 11) (q.v 4) (.int m t) (g2.sl (q.a 0+822))) .b _ _ _ (n+1) ct' tl _ (h.nx (λ e=>by cases e) (.inr ⟨(λ e=>by cases e),rfl⟩) (by rw[h.m];rfl)) (b7 hi) p1,λ g3 a3 sl _=>⟨0,a3⟩⟩⟩⟩⟩⟩⟩⟩
 exact cF (c1:=aa) (r1:=(r0+1)) hz (.n m) (gH (by omega) (by omega)) (λ _ _=>.i m t) (λ _=>[]) (λ g hg=>hg) rfl (Nat.le_refl _) rfl (L2 _) rfl (λ g l=>⟨rfl,rfl,rfl,rfl,rfl,rfl,rfl⟩) (λ g u V=>.inl ⟨p4 _ m (by omega) t,rfl,rfl⟩)
theorem vT(m:Int)(hm:0<=m/\m<=9)(h:iy S q .b (.n m::ws) (t::ts) vs0 c0 r0 n)(hf:dr S n 8<5):ai w G (oB w.2 q .b L (df w G S c d p r T k f1 f2 (.n m::ws) vs0 c0 r0 n)):=by
 obtain rfl:=h.v0
 obtain rfl:=h.sa
 obtain rfl:=h.ab (λ e=>by cases e)
 let q1:Pr:={q with L:=L,m:=λ i=>match i with |1=>q.m 1 |4=>m |_=>dr q.S n 8,s:=λ i=>match i with |0=>q.s 0 |_=>aa,c:=λ _=>t}
 let A:AA:=λ n' gs=>match n',gs with |1,[_,g]=>cQ w.2 {q.S with tail:=tl} (n+1) g.l |6,[g0,g1,g2,g]=>df w G q.S c d p r T k f1 f2 ws (q.l 0++[.int m t]) aa (r0+1) (n+1) g |99,[g]=>∃u:Nat,df w G q.S c d p r T k f1 f2 ws (q.l 0++[.int m t]) aa (r0+1) (n+1) g |_,_=>True
 have hz:=lH.sat w G q1 .b A λ b u=>⟨bl h.hx.1,λ g0 _=>⟨bC (S:={q.S with tail:=tl}) .f n _ h.ce h.c9 rfl ⟨ct,hL⟩,λ g1 a1=>⟨eV (jD (show dr q.S n 8<6 by omega)),⟨dK (nC.mpr (show dr q.S n 8≠5 by omega)),⟨br h.z9,λ g2 _=>⟨aD rfl,⟨by
  obtain⟨ct',p1⟩:=a1
  exact ih ts (oC q aa (q.u 3) (q.m 1+1) (g2.n 1+2) (q.u 7) (.int m t) (q.u 9) (.int (dr q.S n 8) (g1.n 2)) (q.u 11) (q.v 4) (.int m t) (g2.sl (q.a 0+822))) .b _ _ _ (n+1) ct' tl _ (h.nx (λ e=>by cases e) (.inr ⟨(λ e=>by cases e),rfl⟩) (by rw[h.m];rfl)) (b7 hi) p1,λ g3 a3 sl _=>⟨0,a3⟩⟩⟩⟩⟩⟩⟩⟩
 exact cF (c1:=aa) (r1:=(r0+1)) hz (.n m) (gH (by omega) (by omega)) (λ _ _=>.i m t) (λ _=>[]) (λ g hg=>hg) rfl (Nat.le_refl _) rfl (L2 _) rfl (λ g l=>⟨rfl,rfl,rfl,rfl,rfl,rfl,rfl⟩) (λ g u V=>.inl ⟨p4 _ m (by omega) t,rfl,rfl⟩)
theorem vU(m:Int)(hm:0<=m/\m<=9)(h:iy S q .c (.n m::ws) (t::ts) vs0 c0 r0 n)(hf:dr S n 8<5):ai w G (oB w.2 q .c L (df w G S c d p r T k f1 f2 (.n m::ws) vs0 c0 r0 n)):=by
 obtain rfl:=h.v0
 obtain rfl:=h.sa
 obtain⟨rfl,hs⟩:=h.cc
 let q1:Pr:={q with L:=L,m:=λ i=>match i with |1=>q.m 1 |4=>m |_=>dr q.S n 8,s:=λ i=>match i with |0=>q.s 0 |_=>aa,c:=λ _=>t}
 let A:AA:=λ n' gs=>match n',gs with |1,[_,g]=>cQ w.2 {q.S with tail:=tl} (n+1) g.l |6,[g0,g1,g2,g]=>df w G q.S c d p r T k f1 f2 ws (q.l 0++[.int m t]) (q.s 0) r0 (n+1) g |99,[g]=>∃u:Nat,df w G q.S c d p r T k f1 f2 ws (q.l 0++[.int m t]) (q.s 0) r0 (n+1) g |_,_=>True
 have hz:=lH.sat w G q1 .c A λ b u=>⟨bl h.hx.1,λ g0 _=>⟨bC (S:={q.S with tail:=tl}) .f n _ h.ce h.c9 rfl ⟨ct,hL⟩,λ g1 a1=>⟨eV (jD (show dr q.S n 8<6 by omega)),⟨dK (nC.mpr (show dr q.S n 8≠5 by omega)),⟨br h.z9,λ g2 _=>⟨aD hs,⟨by
  obtain⟨ct',p1⟩:=a1
  exact ih ts (oC q (q.s 0) (q.u 3) (q.m 1+0) (g2.n 1+2) (q.u 7) (.int m t) (q.u 9) (.int (dr q.S n 8) (g1.n 2)) (q.u 11) (q.v 4) (.int m t) (g2.sl (q.a 0+822))) .c _ _ _ (n+1) ct' tl _ (h.nx (λ e=>by cases e) (.inl ⟨rfl,rfl,hs⟩) (by rw[h.m];exact Int.add_zero _)) (b7 hi) p1,λ g3 a3 sl _=>⟨0,a3⟩⟩⟩⟩⟩⟩⟩⟩
 exact cF (c1:=q.s 0) (r1:=r0) hz (.n m) ((gH (by omega) (by omega)).trans (by rw[hs])) (λ _ _=>.i m t) (λ _=>[]) (λ g hg=>hg) rfl (Nat.le_refl _) rfl (L2 _) rfl (λ g l=>⟨rfl,rfl,rfl,rfl,rfl,rfl,rfl⟩) (λ g u V=>.inl ⟨p4 _ m (by omega) t,rfl,by rw[hs]⟩)
theorem vV(m:Int)(hm:0<=m/\m<=9)(h:iy S q .a (.n m::ws) (t::ts) vs0 c0 r0 n)(hf:dr S n 8=5):ai w G (oB w.2 q .a L (df w G S c d p r T k f1 f2 (.n m::ws) vs0 c0 r0 n)):=by
 obtain rfl:=h.v0
 obtain rfl:=h.sa
 obtain rfl:=h.ab (λ e=>by cases e)
 let q1:Pr:={q with L:=L,m:=λ i=>match i with |1=>q.m 1 |4=>m |_=>dr q.S n 8,s:=λ i=>match i with |0=>q.s 0 |_=>aa,c:=λ _=>t}
 let A:AA:=λ n' gs=>match n',gs with |1,[_,g]=>cQ w.2 {q.S with tail:=tl} (n+1) g.l |4,[g0,g1,g2,g]=>df w G q.S c d p r T k f1 f2 ws (q.l 0++[rA (g1.n 0+0)]) aa (r0+1) (n+1) g |99,[g]=>∃u:Nat,df w G q.S c d p r T k f1 f2 ws (q.l 0++[rA (g.n 11)]) aa (r0+1) (n+1) g |_,_=>True
 have hz:=lR.sat w G q1 .a A λ b u=>⟨bl h.hx.1,λ g0 _=>⟨bC (S:={q.S with tail:=tl}) .f n _ h.ce h.c9 hf ⟨ct,hL⟩,λ g1 a1=>⟨br h.z9,λ g2 _=>⟨aD rfl,⟨by
  obtain⟨ct',p1⟩:=a1
  exact ih ts (oC q aa (q.u 3) (q.m 1+1) (g2.n 1+2) (g0.n 1+0) (.int m t) (g1.n 1+0) (.int 5 (g1.n 2)) (q.u 11) (q.v 4) (rA (g1.n 0+0)) (g2.sl (q.a 0+822))) .b _ _ _ (n+1) ct' tl _ (h.nx (λ e=>by cases e) (.inr ⟨(λ e=>by cases e),rfl⟩) (by rw[h.m];rfl)) (b7 hi) p1,λ g3 a3 sl _=>⟨0,a3⟩⟩⟩⟩⟩⟩
 exact cF (c1:=aa) (r1:=(r0+1)) hz (.n m) (gH (by omega) (by omega)) (λ g _=>.r (g.n 11)) (λ g=>[(g.n 11+822,tO [.int m t,.int 0 (g.n 12)])]) (λ g hg=>hg) rfl (Nat.le_refl _) rfl (L2 _) rfl (λ g l=>⟨rfl,rfl,rfl,rfl,rfl,rfl,rfl⟩) (λ g u V=>.inl ⟨p7 m hm _ _ _ (L2 _),rfl,rfl⟩)
theorem vW(m:Int)(hm:0<=m/\m<=9)(h:iy S q .b (.n m::ws) (t::ts) vs0 c0 r0 n)(hf:dr S n 8=5):ai w G (oB w.2 q .b L (df w G S c d p r T k f1 f2 (.n m::ws) vs0 c0 r0 n)):=by
 obtain rfl:=h.v0
 obtain rfl:=h.sa
 obtain rfl:=h.ab (λ e=>by cases e)
 let q1:Pr:={q with L:=L,m:=λ i=>match i with |1=>q.m 1 |4=>m |_=>dr q.S n 8,s:=λ i=>match i with |0=>q.s 0 |_=>aa,c:=λ _=>t}
 let A:AA:=λ n' gs=>match n',gs with |1,[_,g]=>cQ w.2 {q.S with tail:=tl} (n+1) g.l |4,[g0,g1,g2,g]=>df w G q.S c d p r T k f1 f2 ws (q.l 0++[rA (g1.n 0+0)]) aa (r0+1) (n+1) g |99,[g]=>∃u:Nat,df w G q.S c d p r T k f1 f2 ws (q.l 0++[rA (g.n 11)]) aa (r0+1) (n+1) g |_,_=>True
 have hz:=lR.sat w G q1 .b A λ b u=>⟨bl h.hx.1,λ g0 _=>⟨bC (S:={q.S with tail:=tl}) .f n _ h.ce h.c9 hf ⟨ct,hL⟩,λ g1 a1=>⟨br h.z9,λ g2 _=>⟨aD rfl,⟨by
  obtain⟨ct',p1⟩:=a1
  exact ih ts (oC q aa (q.u 3) (q.m 1+1) (g2.n 1+2) (q.u 7) (.int m t) (q.u 9) (.int 5 (g1.n 2)) (q.u 11) (q.v 4) (rA (g1.n 0+0)) (g2.sl (q.a 0+822))) .b _ _ _ (n+1) ct' tl _ (h.nx (λ e=>by cases e) (.inr ⟨(λ e=>by cases e),rfl⟩) (by rw[h.m];rfl)) (b7 hi) p1,λ g3 a3 sl _=>⟨0,a3⟩⟩⟩⟩⟩⟩
 exact cF (c1:=aa) (r1:=(r0+1)) hz (.n m) (gH (by omega) (by omega)) (λ g _=>.r (g.n 11)) (λ g=>[(g.n 11+822,tO [.int m t,.int 0 (g.n 12)])]) (λ g hg=>hg) rfl (Nat.le_refl _) rfl (L2 _) rfl (λ g l=>⟨rfl,rfl,rfl,rfl,rfl,rfl,rfl⟩) (λ g u V=>.inl ⟨p7 m hm _ _ _ (L2 _),rfl,rfl⟩)
theorem vX(m:Int)(hm:0<=m/\m<=9)(h:iy S q .c (.n m::ws) (t::ts) vs0 c0 r0 n)(hf:dr S n 8=5):ai w G (oB w.2 q .c L (df w G S c d p r T k f1 f2 (.n m::ws) vs0 c0 r0 n)):=by
 obtain rfl:=h.v0
 obtain rfl:=h.sa
 obtain⟨rfl,hs⟩:=h.cc
 let q1:Pr:={q with L:=L,m:=λ i=>match i with |1=>q.m 1 |4=>m |_=>dr q.S n 8,s:=λ i=>match i with |0=>q.s 0 |_=>aa,c:=λ _=>t}
 let A:AA:=λ n' gs=>match n',gs with |1,[_,g]=>cQ w.2 {q.S with tail:=tl} (n+1) g.l |4,[g0,g1,g2,g]=>df w G q.S c d p r T k f1 f2 ws (q.l 0++[rA (g1.n 0+0)]) (q.s 0) r0 (n+1) g |99,[g]=>∃u:Nat,df w G q.S c d p r T k f1 f2 ws (q.l 0++[rA (g.n 11)]) (q.s 0) r0 (n+1) g |_,_=>True
 have hz:=lR.sat w G q1 .c A λ b u=>⟨bl h.hx.1,λ g0 _=>⟨bC (S:={q.S with tail:=tl}) .f n _ h.ce h.c9 hf ⟨ct,hL⟩,λ g1 a1=>⟨br h.z9,λ g2 _=>⟨aD hs,⟨by
  obtain⟨ct',p1⟩:=a1
  exact ih ts (oC q (q.s 0) (q.u 3) (q.m 1+0) (g2.n 1+2) (q.u 7) (.int m t) (q.u 9) (.int 5 (g1.n 2)) (q.u 11) (q.v 4) (rA (g1.n 0+0)) (g2.sl (q.a 0+822))) .c _ _ _ (n+1) ct' tl _ (h.nx (λ e=>by cases e) (.inl ⟨rfl,rfl,hs⟩) (by rw[h.m];exact Int.add_zero _)) (b7 hi) p1,λ g3 a3 sl _=>⟨0,a3⟩⟩⟩⟩⟩⟩
 exact cF (c1:=q.s 0) (r1:=r0) hz (.n m) ((gH (by omega) (by omega)).trans (by rw[hs])) (λ g _=>.r (g.n 11)) (λ g=>[(g.n 11+822,tO [.int m t,.int 0 (g.n 12)])]) (λ g hg=>hg) rfl (Nat.le_refl _) rfl (L2 _) rfl (λ g l=>⟨rfl,rfl,rfl,rfl,rfl,rfl,rfl⟩) (λ g u V=>.inl ⟨p7 m hm _ _ _ (L2 _),rfl,by rw[hs]⟩)
theorem vY(m:Int)(hm:0<=m/\m<=9)(h:iy S q .a (.n m::ws) (t::ts) vs0 c0 r0 n)(hf:dr S n 8=6):ai w G (oB w.2 q .a L (df w G S c d p r T k f1 f2 (.n m::ws) vs0 c0 r0 n)):=by
 obtain rfl:=h.v0
 obtain rfl:=h.sa
 obtain rfl:=h.ab (λ e=>by cases e)
 let q1:Pr:={q with L:=L,m:=λ i=>match i with |1=>q.m 1 |4=>m |_=>dr q.S n 8,s:=λ i=>match i with |0=>q.s 0 |_=>aa,c:=λ _=>t}
 let A:AA:=λ n' gs=>match n',gs with |1,[_,g]=>cQ w.2 {q.S with tail:=tl} (n+1) g.l |4,[g0,g1,g2,g]=>df w G q.S c d p r T k f1 f2 ws (q.l 0++[.str ⟨⟨[113]⟩⟩ (g1.n 1+4)]) b9 r0 (n+1) g |99,[g]=>∃u:Nat,df w G q.S c d p r T k f1 f2 ws (q.l 0++[.str ⟨⟨[113]⟩⟩ u]) b9 r0 (n+1) g |_,_=>True
 have hz:=lS.sat w G q1 .a A λ b u=>⟨bl h.hx.1,λ g0 _=>⟨bC (S:={q.S with tail:=tl}) .f n _ h.ce h.c9 hf ⟨ct,hL⟩,λ g1 a1=>⟨br h.z9,λ g2 _=>⟨cj rfl,⟨by
  obtain⟨ct',p1⟩:=a1
  exact ih ts (oC q b9 (g2.n 1+2) (q.m 1) (q.u 5) (g0.n 1+0) (.int m t) (g1.n 1+0) (.int 6 (g1.n 2)) (g1.n 1+3) (.bool false) (.str ⟨⟨[113]⟩⟩ (g1.n 1+4)) (g2.sl (q.a 0+822))) .c _ _ _ (n+1) ct' tl _ (h.nx (λ e=>by cases e) (.inl ⟨rfl,rfl,rfl⟩) h.m) (b7 hi) p1,λ g3 a3 sl _=>⟨g1.n 1+4,a3⟩⟩⟩⟩⟩⟩
 exact cF (c1:=b9) (r1:=r0) hz (.n m) (gI hf rfl) (λ _ u=>.s ⟨⟨[113]⟩⟩ u) (λ _=>[]) (λ g hg=>hg) rfl (Nat.le_refl _) rfl (L2 _) rfl (λ g l=>⟨rfl,rfl,rfl,rfl,rfl,rfl,rfl⟩) (λ g u V=>.inr ⟨b9,⟨p6 _ _,.inl rfl⟩,rfl,rfl⟩)
theorem vZ(m:Int)(hm:0<=m/\m<=9)(h:iy S q .b (.n m::ws) (t::ts) vs0 c0 r0 n)(hf:dr S n 8=6):ai w G (oB w.2 q .b L (df w G S c d p r T k f1 f2 (.n m::ws) vs0 c0 r0 n)):=by
 obtain rfl:=h.v0
 obtain rfl:=h.sa
 obtain rfl:=h.ab (λ e=>by cases e)
 let q1:Pr:={q with L:=L,m:=λ i=>match i with |1=>q.m 1 |4=>m |_=>dr q.S n 8,s:=λ i=>match i with |0=>q.s 0 |_=>aa,c:=λ _=>t}
 let A:AA:=λ n' gs=>match n',gs with |1,[_,g]=>cQ w.2 {q.S with tail:=tl} (n+1) g.l |4,[g0,g1,g2,g]=>df w G q.S c d p r T k f1 f2 ws (q.l 0++[.str ⟨⟨[113]⟩⟩ (g1.n 1+4)]) b9 r0 (n+1) g |99,[g]=>∃u:Nat,df w G q.S c d p r T k f1 f2 ws (q.l 0++[.str ⟨⟨[113]⟩⟩ u]) b9 r0 (n+1) g |_,_=>True
 have hz:=lS.sat w G q1 .b A λ b u=>⟨bl h.hx.1,λ g0 _=>⟨bC (S:={q.S with tail:=tl}) .f n _ h.ce h.c9 hf ⟨ct,hL⟩,λ g1 a1=>⟨br h.z9,λ g2 _=>⟨cj rfl,⟨by
  obtain⟨ct',p1⟩:=a1
  exact ih ts (oC q b9 (g2.n 1+2) (q.m 1) (q.u 5) (q.u 7) (.int m t) (q.u 9) (.int 6 (g1.n 2)) (g1.n 1+3) (.bool false) (.str ⟨⟨[113]⟩⟩ (g1.n 1+4)) (g2.sl (q.a 0+822))) .c _ _ _ (n+1) ct' tl _ (h.nx (λ e=>by cases e) (.inl ⟨rfl,rfl,rfl⟩) h.m) (b7 hi) p1,λ g3 a3 sl _=>⟨g1.n 1+4,a3⟩⟩⟩⟩⟩⟩
 exact cF (c1:=b9) (r1:=r0) hz (.n m) (gI hf rfl) (λ _ u=>.s ⟨⟨[113]⟩⟩ u) (λ _=>[]) (λ g hg=>hg) rfl (Nat.le_refl _) rfl (L2 _) rfl (λ g l=>⟨rfl,rfl,rfl,rfl,rfl,rfl,rfl⟩) (λ g u V=>.inr ⟨b9,⟨p6 _ _,.inl rfl⟩,rfl,rfl⟩)
theorem v5(m:Int)(hm:0<=m/\m<=9)(h:iy S q .c (.n m::ws) (t::ts) vs0 c0 r0 n)(hf:dr S n 8=6):ai w G (oB w.2 q .c L (df w G S c d p r T k f1 f2 (.n m::ws) vs0 c0 r0 n)):=by
 obtain rfl:=h.v0
 obtain rfl:=h.sa
 obtain⟨rfl,hs⟩:=h.cc
 let q1:Pr:={q with L:=L,m:=λ i=>match i with |1=>q.m 1 |4=>m |_=>dr q.S n 8,s:=λ i=>match i with |0=>q.s 0 |_=>aa,c:=λ _=>t}
 let A:AA:=λ n' gs=>match n',gs with |1,[_,g]=>cQ w.2 {q.S with tail:=tl} (n+1) g.l |4,[g0,g1,g2,g]=>df w G q.S c d p r T k f1 f2 ws (q.l 0++[.str ⟨⟨[113]⟩⟩ (g1.n 1+4)]) (q.s 0) r0 (n+1) g |99,[g]=>∃u:Nat,df w G q.S c d p r T k f1 f2 ws (q.l 0++[.str ⟨⟨[113]⟩⟩ u]) (q.s 0) r0 (n+1) g |_,_=>True
 have hz:=lS.sat w G q1 .c A λ b u=>⟨bl h.hx.1,λ g0 _=>⟨bC (S:={q.S with tail:=tl}) .f n _ h.ce h.c9 hf ⟨ct,hL⟩,λ g1 a1=>⟨br h.z9,λ g2 _=>⟨cj (by show(!fu (q.s 0))=true;rw[hs];rfl),⟨by
  obtain⟨ct',p1⟩:=a1
  exact ih ts (oC q (q.s 0) (q.u 3) (q.m 1) (q.u 5) (q.u 7) (.int m t) (q.u 9) (.int 6 (g1.n 2)) (q.u 11) (.bool false) (.str ⟨⟨[113]⟩⟩ (g1.n 1+4)) (g2.sl (q.a 0+822))) .c _ _ _ (n+1) ct' tl _ (h.nx (λ e=>by cases e) (.inl ⟨rfl,rfl,hs⟩) h.m) (b7 hi) p1,λ g3 a3 sl _=>⟨g1.n 1+4,a3⟩⟩⟩⟩⟩⟩
 exact cF (c1:=q.s 0) (r1:=r0) hz (.n m) ((gI hf rfl).trans (by rw[hs])) (λ _ u=>.s ⟨⟨[113]⟩⟩ u) (λ _=>[]) (λ g hg=>hg) rfl (Nat.le_refl _) rfl (L2 _) rfl (λ g l=>⟨rfl,rfl,rfl,rfl,rfl,rfl,rfl⟩) (λ g u V=>.inr ⟨b9,⟨p6 _ _,.inl rfl⟩,by rw[hs],rfl⟩)
theorem v6(m:Int)(hm:0<=m/\m<=9)(h:iy S q .a (.n m::ws) (t::ts) vs0 c0 r0 n)(hf:dr S n 8=7):ai w G (oB w.2 q .a L (df w G S c d p r T k f1 f2 (.n m::ws) vs0 c0 r0 n)):=by
 obtain rfl:=h.v0
 obtain rfl:=h.sa
 obtain rfl:=h.ab (λ e=>by cases e)
 let q1:Pr:={q with L:=L,m:=λ i=>match i with |1=>q.m 1 |4=>m |_=>dr q.S n 8,s:=λ i=>match i with |0=>q.s 0 |_=>aa,c:=λ _=>t}
 let A:AA:=λ n' gs=>match n',gs with |1,[_,g]=>cQ w.2 {q.S with tail:=tl} (n+1) g.l |4,[g0,g1,g2,g]=>df w G q.S c d p r T k f1 f2 ws (q.l 0++[rA (g1.n 0+0)]) gv r0 (n+1) g |99,[g]=>∃u:Nat,df w G q.S c d p r T k f1 f2 ws (q.l 0++[rA (g.n 11)]) gv r0 (n+1) g |_,_=>True
 have hz:=lT.sat w G q1 .a A λ b u=>⟨bl h.hx.1,λ g0 _=>⟨bC (S:={q.S with tail:=tl}) .f n _ h.ce h.c9 hf ⟨ct,hL⟩,λ g1 a1=>⟨br h.z9,λ g2 _=>⟨cj rfl,⟨by
  obtain⟨ct',p1⟩:=a1
  exact ih ts (oC q gv (g2.n 1+2) (q.m 1) (q.u 5) (g0.n 1+0) (.int m t) (g1.n 1+0) (.int 7 (g1.n 2)) (g1.n 1+3) (.bool false) (rA (g1.n 0+0)) (g2.sl (q.a 0+822))) .c _ _ _ (n+1) ct' tl _ (h.nx (λ e=>by cases e) (.inl ⟨rfl,rfl,rfl⟩) h.m) (b7 hi) p1,λ g3 a3 sl _=>⟨0,a3⟩⟩⟩⟩⟩⟩
 exact cF (c1:=gv) (r1:=r0) hz (.n m) (gI hf rfl) (λ g _=>.r (g.n 11)) (λ g=>[(g.n 11+822,tO [.int 4 (g.n 12),.int 4 (g.n 13)])]) (λ g hg=>hg) rfl (Nat.le_refl _) rfl (L2 _) rfl (λ g l=>⟨rfl,rfl,rfl,rfl,rfl,rfl,rfl⟩) (λ g u V=>.inr ⟨gv,⟨p8 _ _ _ (L2 _),.inr rfl⟩,rfl,rfl⟩)
theorem v7(m:Int)(hm:0<=m/\m<=9)(h:iy S q .b (.n m::ws) (t::ts) vs0 c0 r0 n)(hf:dr S n 8=7):ai w G (oB w.2 q .b L (df w G S c d p r T k f1 f2 (.n m::ws) vs0 c0 r0 n)):=by
 obtain rfl:=h.v0
 obtain rfl:=h.sa
 obtain rfl:=h.ab (λ e=>by cases e)
 let q1:Pr:={q with L:=L,m:=λ i=>match i with |1=>q.m 1 |4=>m |_=>dr q.S n 8,s:=λ i=>match i with |0=>q.s 0 |_=>aa,c:=λ _=>t}
 let A:AA:=λ n' gs=>match n',gs with |1,[_,g]=>cQ w.2 {q.S with tail:=tl} (n+1) g.l |4,[g0,g1,g2,g]=>df w G q.S c d p r T k f1 f2 ws (q.l 0++[rA (g1.n 0+0)]) gv r0 (n+1) g |99,[g]=>∃u:Nat,df w G q.S c d p r T k f1 f2 ws (q.l 0++[rA (g.n 11)]) gv r0 (n+1) g |_,_=>True
 have hz:=lT.sat w G q1 .b A λ b u=>⟨bl h.hx.1,λ g0 _=>⟨bC (S:={q.S with tail:=tl}) .f n _ h.ce h.c9 hf ⟨ct,hL⟩,λ g1 a1=>⟨br h.z9,λ g2 _=>⟨cj rfl,⟨by
  obtain⟨ct',p1⟩:=a1
  exact ih ts (oC q gv (g2.n 1+2) (q.m 1) (q.u 5) (q.u 7) (.int m t) (q.u 9) (.int 7 (g1.n 2)) (g1.n 1+3) (.bool false) (rA (g1.n 0+0)) (g2.sl (q.a 0+822))) .c _ _ _ (n+1) ct' tl _ (h.nx (λ e=>by cases e) (.inl ⟨rfl,rfl,rfl⟩) h.m) (b7 hi) p1,λ g3 a3 sl _=>⟨0,a3⟩⟩⟩⟩⟩⟩
 exact cF (c1:=gv) (r1:=r0) hz (.n m) (gI hf rfl) (λ g _=>.r (g.n 11)) (λ g=>[(g.n 11+822,tO [.int 4 (g.n 12),.int 4 (g.n 13)])]) (λ g hg=>hg) rfl (Nat.le_refl _) rfl (L2 _) rfl (λ g l=>⟨rfl,rfl,rfl,rfl,rfl,rfl,rfl⟩) (λ g u V=>.inr ⟨gv,⟨p8 _ _ _ (L2 _),.inr rfl⟩,rfl,rfl⟩)
theorem v8(m:Int)(hm:0<=m/\m<=9)(h:iy S q .c (.n m::ws) (t::ts) vs0 c0 r0 n)(hf:dr S n 8=7):ai w G (oB w.2 q .c L (df w G S c d p r T k f1 f2 (.n m::ws) vs0 c0 r0 n)):=by
 obtain rfl:=h.v0
 obtain rfl:=h.sa
 obtain⟨rfl,hs⟩:=h.cc
 let q1:Pr:={q with L:=L,m:=λ i=>match i with |1=>q.m 1 |4=>m |_=>dr q.S n 8,s:=λ i=>match i with |0=>q.s 0 |_=>aa,c:=λ _=>t}
 let A:AA:=λ n' gs=>match n',gs with |1,[_,g]=>cQ w.2 {q.S with tail:=tl} (n+1) g.l |4,[g0,g1,g2,g]=>df w G q.S c d p r T k f1 f2 ws (q.l 0++[rA (g1.n 0+0)]) (q.s 0) r0 (n+1) g |99,[g]=>∃u:Nat,df w G q.S c d p r T k f1 f2 ws (q.l 0++[rA (g.n 11)]) (q.s 0) r0 (n+1) g |_,_=>True
 have hz:=lT.sat w G q1 .c A λ b u=>⟨bl h.hx.1,λ g0 _=>⟨bC (S:={q.S with tail:=tl}) .f n _ h.ce h.c9 hf ⟨ct,hL⟩,λ g1 a1=>⟨br h.z9,λ g2 _=>⟨cj (by show(!fu (q.s 0))=true;rw[hs];rfl),⟨by
  obtain⟨ct',p1⟩:=a1
  exact ih ts (oC q (q.s 0) (q.u 3) (q.m 1) (q.u 5) (q.u 7) (.int m t) (q.u 9) (.int 7 (g1.n 2)) (q.u 11) (.bool false) (rA (g1.n 0+0)) (g2.sl (q.a 0+822))) .c _ _ _ (n+1) ct' tl _ (h.nx (λ e=>by cases e) (.inl ⟨rfl,rfl,hs⟩) h.m) (b7 hi) p1,λ g3 a3 sl _=>⟨0,a3⟩⟩⟩⟩⟩⟩
 exact cF (c1:=q.s 0) (r1:=r0) hz (.n m) ((gI hf rfl).trans (by rw[hs])) (λ g _=>.r (g.n 11)) (λ g=>[(g.n 11+822,tO [.int 4 (g.n 12),.int 4 (g.n 13)])]) (λ g hg=>hg) rfl (Nat.le_refl _) rfl (L2 _) rfl (λ g l=>⟨rfl,rfl,rfl,rfl,rfl,rfl,rfl⟩) (λ g u V=>.inr ⟨gv,⟨p8 _ _ _ (L2 _),.inr rfl⟩,by rw[hs],rfl⟩)
theorem v9(y:Str)(h:iy S q .a (.s y::ws) (t::ts) vs0 c0 r0 n)(hf:dr S n 8<5):ai w G (oB w.2 q .a L (df w G S c d p r T k f1 f2 (.s y::ws) vs0 c0 r0 n)):=by
 obtain rfl:=h.v0
 obtain rfl:=h.sa
 obtain rfl:=h.ab (λ e=>by cases e)
 let q1:Pr:={q with L:=L,m:=λ i=>match i with |1=>q.m 1 |4=>0 |_=>dr q.S n 8,s:=λ i=>match i with |0=>q.s 0 |_=>y,c:=λ _=>t}
 let A:AA:=λ n' gs=>match n',gs with |1,[_,g]=>cQ w.2 {q.S with tail:=tl} (n+1) g.l |6,[g0,g1,g2,g]=>df w G q.S c d p r T k f1 f2 ws (q.l 0++[.str y t]) aa (r0+1) (n+1) g |99,[g]=>∃u:Nat,df w G q.S c d p r T k f1 f2 ws (q.l 0++[.str y t]) aa (r0+1) (n+1) g |_,_=>True
 have hz:=oV.sat w G q1 A λ b u=>⟨bl h.hx.1,λ g0 _=>⟨bC (S:={q.S with tail:=tl}) .f n _ h.ce h.c9 rfl ⟨ct,hL⟩,λ g1 a1=>⟨eV (jD (show dr q.S n 8<6 by omega)),⟨dK (nC.mpr (show dr q.S n 8≠5 by omega)),⟨br h.z9,λ g2 _=>⟨aD rfl,⟨by
  obtain⟨ct',p1⟩:=a1
  exact ih ts (oC q aa (q.u 3) (q.m 1+1) (g2.n 1+2) (g0.n 1+0) (.str y t) (g1.n 1+0) (.int (dr q.S n 8) (g1.n 2)) (q.u 11) (q.v 4) (.str y t) (g2.sl (q.a 0+822))) .b _ _ _ (n+1) ct' tl _ (h.nx (λ e=>by cases e) (.inr ⟨(λ e=>by cases e),rfl⟩) (by rw[h.m];rfl)) (b7 hi) p1,λ g3 a3 sl _=>⟨0,a3⟩⟩⟩⟩⟩⟩⟩⟩
 exact cF (c1:=aa) (r1:=(r0+1)) hz (.s y) (gH (by omega) (by omega)) (λ _ _=>.s y t) (λ _=>[]) (λ g hg=>hg) rfl (Nat.le_refl _) rfl (L2 _) rfl (λ g l=>⟨rfl,rfl,rfl,rfl,rfl,rfl,rfl⟩) (λ g u V=>.inl ⟨⟨t,rfl⟩,rfl,rfl⟩)
theorem wb(y:Str)(h:iy S q .a (.s y::ws) (t::ts) vs0 c0 r0 n)(hf:dr S n 8=5):ai w G (oB w.2 q .a L (df w G S c d p r T k f1 f2 (.s y::ws) vs0 c0 r0 n)):=by
 obtain rfl:=h.v0
 obtain rfl:=h.sa
 obtain rfl:=h.ab (λ e=>by cases e)
 let q1:Pr:={q with L:=L,m:=λ i=>match i with |1=>q.m 1 |4=>0 |_=>dr q.S n 8,s:=λ i=>match i with |0=>q.s 0 |_=>y,c:=λ _=>t}
 let A:AA:=λ n' gs=>match n',gs with |1,[_,g]=>cQ w.2 {q.S with tail:=tl} (n+1) g.l |4,[g0,g1,g2,g]=>df w G q.S c d p r T k f1 f2 ws (q.l 0++[.str y t]) aa (r0+1) (n+1) g |99,[g]=>∃u:Nat,df w G q.S c d p r T k f1 f2 ws (q.l 0++[.str y t]) aa (r0+1) (n+1) g |_,_=>True
 have hz:=oX.sat w G q1 A λ b u=>⟨bl h.hx.1,λ g0 _=>⟨bC (S:={q.S with tail:=tl}) .f n _ h.ce h.c9 hf ⟨ct,hL⟩,λ g1 a1=>⟨br h.z9,λ g2 _=>⟨aD rfl,⟨by
  obtain⟨ct',p1⟩:=a1
  exact ih ts (oC q aa (q.u 3) (q.m 1+1) (g2.n 1+2) (g0.n 1+0) (.str y t) (g1.n 1+0) (.int 5 (g1.n 2)) (q.u 11) (q.v 4) (.str y t) (g2.sl (q.a 0+822))) .b _ _ _ (n+1) ct' tl _ (h.nx (λ e=>by cases e) (.inr ⟨(λ e=>by cases e),rfl⟩) (by rw[h.m];rfl)) (b7 hi) p1,λ g3 a3 sl _=>⟨0,a3⟩⟩⟩⟩⟩⟩
 exact cF (c1:=aa) (r1:=(r0+1)) hz (.s y) (gH (by omega) (by omega)) (λ _ _=>.s y t) (λ _=>[]) (λ g hg=>hg) rfl (Nat.le_refl _) rfl (L2 _) rfl (λ g l=>⟨rfl,rfl,rfl,rfl,rfl,rfl,rfl⟩) (λ g u V=>.inl ⟨⟨t,rfl⟩,rfl,rfl⟩)
theorem wc(y:Str)(h:iy S q .a (.s y::ws) (t::ts) vs0 c0 r0 n)(hf:dr S n 8=6):ai w G (oB w.2 q .a L (df w G S c d p r T k f1 f2 (.s y::ws) vs0 c0 r0 n)):=by
 obtain rfl:=h.v0
 obtain rfl:=h.sa
 obtain rfl:=h.ab (λ e=>by cases e)
 let q1:Pr:={q with L:=L,m:=λ i=>match i with |1=>q.m 1 |4=>0 |_=>dr q.S n 8,s:=λ i=>match i with |0=>q.s 0 |_=>y,c:=λ _=>t}
 let A:AA:=λ n' gs=>match n',gs with |1,[_,g]=>cQ w.2 {q.S with tail:=tl} (n+1) g.l |4,[g0,g1,g2,g]=>df w G q.S c d p r T k f1 f2 ws (q.l 0++[.int 5 (g1.n 1+3)]) b9 r0 (n+1) g |99,[g]=>∃u:Nat,df w G q.S c d p r T k f1 f2 ws (q.l 0++[.int 5 u]) b9 r0 (n+1) g |_,_=>True
 have hz:=oY.sat w G q1 A λ b u=>⟨bl h.hx.1,λ g0 _=>⟨bC (S:={q.S with tail:=tl}) .f n _ h.ce h.c9 hf ⟨ct,hL⟩,λ g1 a1=>⟨br h.z9,λ g2 _=>⟨cj rfl,⟨by
  obtain⟨ct',p1⟩:=a1
  exact ih ts (oC q b9 (g2.n 1+1) (q.m 1) (q.u 5) (g0.n 1+0) (.str y t) (g1.n 1+0) (.int 6 (g1.n 2)) (g1.n 1+2) (.bool true) (.int 5 (g1.n 1+3)) (g2.sl (q.a 0+822))) .c _ _ _ (n+1) ct' tl _ (h.nx (λ e=>by cases e) (.inl ⟨rfl,rfl,rfl⟩) h.m) (b7 hi) p1,λ g3 a3 sl _=>⟨g1.n 1+3,a3⟩⟩⟩⟩⟩⟩
 exact cF (c1:=b9) (r1:=r0) hz (.s y) (gI hf rfl) (λ _ u=>.i 5 u) (λ _=>[]) (λ g hg=>hg) rfl (Nat.le_refl _) rfl (L2 _) rfl (λ g l=>⟨rfl,rfl,rfl,rfl,rfl,rfl,rfl⟩) (λ g u V=>.inr ⟨b9,⟨rfl,zH _ _⟩,rfl,rfl⟩)
theorem wd(y:Str)(h:iy S q .a (.s y::ws) (t::ts) vs0 c0 r0 n)(hf:dr S n 8=7):ai w G (oB w.2 q .a L (df w G S c d p r T k f1 f2 (.s y::ws) vs0 c0 r0 n)):=by
 obtain rfl:=h.v0
 obtain rfl:=h.sa
 obtain rfl:=h.ab (λ e=>by cases e)
 let q1:Pr:={q with L:=L,m:=λ i=>match i with |1=>q.m 1 |4=>0 |_=>dr q.S n 8,s:=λ i=>match i with |0=>q.s 0 |_=>y,c:=λ _=>t}
 let A:AA:=λ n' gs=>match n',gs with |1,[_,g]=>cQ w.2 {q.S with tail:=tl} (n+1) g.l |4,[g0,g1,g2,g]=>df w G q.S c d p r T k f1 f2 ws (q.l 0++[rA (g1.n 0+0)]) b9 r0 (n+1) g |99,[g]=>∃u:Nat,df w G q.S c d p r T k f1 f2 ws (q.l 0++[rA (g.n 11)]) b9 r0 (n+1) g |_,_=>True
 have hz:=oZ.sat w G q1 A λ b u=>⟨bl h.hx.1,λ g0 _=>⟨bC (S:={q.S with tail:=tl}) .f n _ h.ce h.c9 hf ⟨ct,hL⟩,λ g1 a1=>⟨br h.z9,λ g2 _=>⟨cj rfl,⟨by
  obtain⟨ct',p1⟩:=a1
  exact ih ts (oC q b9 (g2.n 1+1) (q.m 1) (q.u 5) (g0.n 1+0) (.str y t) (g1.n 1+0) (.int 7 (g1.n 2)) (g1.n 1+2) (.bool true) (rA (g1.n 0+0)) (g2.sl (q.a 0+822))) .c _ _ _ (n+1) ct' tl _ (h.nx (λ e=>by cases e) (.inl ⟨rfl,rfl,rfl⟩) h.m) (b7 hi) p1,λ g3 a3 sl _=>⟨0,a3⟩⟩⟩⟩⟩⟩
 exact cF (c1:=b9) (r1:=r0) hz (.s y) (gI hf rfl) (λ g _=>.r (g.n 11)) (λ g=>[(g.n 11+822,tO [.int 25 (g.n 12),.int 0 (g.n 13)])]) (λ g hg=>hg) rfl (Nat.le_refl _) rfl (L2 _) rfl (λ g l=>⟨rfl,rfl,rfl,rfl,rfl,rfl,rfl⟩) (λ g u V=>.inr ⟨b9,⟨rfl,zI _ _ _ (L2 _)⟩,rfl,rfl⟩)
end
section
local macro_rules |`(tactic|omega)=>`(tactic|first |lia |omega (config:={}))
section
variable {w:World}{G:Shared}{S:St}{c d:List Ch}{p r:List Pa}{T:HL}{k:Nat}{f1 f2:Str}
theorem we:∀ws:List Wn,C9 w G S c d p r T k f1 f2 ws
 |[]=>zQ
 |W::ws=>λ ts q x vs0 c0 r0 n ct tl L h hi hL=>by
  have ih:=we ws
  match ts,h with
  |[],h=>have:=h.lw;simp at this
  |t::ts,h=>
   have d8:dr S n 8<5\/dr S n 8=5\/dr S n 8=6\/dr S n 8=7:=by have:=jU (S:=S) (n:=n) (m:=8) (by decide);omega
   match W,h with
   | .n m,h=>
    have hm:0<=m/\m<=9:=h.ok (.n m) (L5 ..)
    rcases d8 with e |e |e |e<;>cases x
    ·exact vS ih hi hL m hm h e
    ·exact vT ih hi hL m hm h e
    ·exact vU ih hi hL m hm h e
    ·exact vV ih hi hL m hm h e
    ·exact vW ih hi hL m hm h e
    ·exact vX ih hi hL m hm h e
    ·exact vY ih hi hL m hm h e
    ·exact vZ ih hi hL m hm h e
    ·exact v5 ih hi hL m hm h e
    ·exact v6 ih hi hL m hm h e
    ·exact v7 ih hi hL m hm h e
    ·exact v8 ih hi hL m hm h e
   | .s y,h=>
    have hx:=(h.ok (.s y) (L5 ..)).1
    subst hx
    rcases d8 with e |e |e |e
    ·exact v9 ih hi hL y h e
    ·exact wb ih hi hL y h e
    ·exact wc ih hi hL y h e
    ·exact wd ih hi hL y h e
structure zR(ws:List Wn):Prop where
 ok:∀y∈ws,match y with | .n m=>0<=m/\m<=9 | .s _=>ws.head? =some y
 tl:∀y∈ws.tail,∃m,y= .n m
 nz:ws≠ []
 l4:ws.length<=4
theorem zS{ws:List Wn}{ts:List Nat}(hw:zR ws)(lt:ws.length=ts.length)(hc:dP S){n ct:Nat}{tl L:HL}(hn:S.cnt+n+ws.length<890)(hi:aR w.2 (jT S n ct tl) c d p r T k f1 f2)(hL:L.Perm (aP w.2 (jT S n ct tl)))(j0 wa wn:Nat):
  ai w G ⟨au 797 [rA (S.a 13),rA wa],60,[(j0,wa+822,lO wn (sr ws ts))],L,λ g=>df w G S c d p r T k f1 f2 ws [] aa 0 n {g with v:=λ i=>match i with |0=>g.v 1 |_=>g.v 0},
   λ g=>⟨.ok (.ret (rA (g.n 3))),[lO wn (sr ws ts)],[(g.n 3+822,tO [rA (g.n 2),.int (iO (g.v 0)) (g.n 5),.str (sO (g.v 1)) (g.n 6)]),(g.n 2+822,lO (g.n 4) (g.vl 0))],g.l⟩⟩:=by
 let q:Pr:={pr S L with a:=tk [wa],j:=tk [j0],l:=λ i=>match i with |1=>sr ws ts |_=>[],en:=λ i=>match i with |2=>wn |_=>0}
 let A:Gh->Prop:=df w G S c d p r T k f1 f2 ws [] aa 0 n
 let A:AA:=λ n' gs=>match gs with |[g]=>A g |_=>False
 have hz:=Dx.sat w G q A λ b t=>⟨by
  refine we ws ts {q with a:=tk [b+0,b+6,b+1,wa],u:=tk [t+0,t+1,t+4,t+3,t+5,t+2,t+6],j:=tk [1,7,2,0]} .a [] aa 0 n ct tl L ⟨rfl,hc,hn,rfl,lt,rfl,.inr ⟨(λ e=>by cases e),rfl⟩,rfl,?_,λ y hy=>?_,hw.tl,λ _=>hw.nz⟩ hi hL
  ·have:=hw.l4
   show 0+ws.length<=50
   omega
  ·have:=hw.ok y hy
   cases y with
   |n m=>exact this
   |s x=>exact⟨rfl,this⟩,λ g0 a0 sl _=>a0⟩
 exact ai.as hz rfl (show 51<=60 by decide) rfl (L2 _) λ g hg=>⟨{g with n:=tk [g.n 0,g.n 1,g.n 4,g.n 3,g.n 2,g.n 5,g.n 6],v:=λ i=>match i with |0=>g.v 1 |_=>g.v 0},hg,rfl,rfl,rfl,rfl,rfl,rfl,L2 _⟩
theorem oE{V:HL}:∀{ws:List Wn} {vs:List AV} {c c':Str} {r r':Nat},f4 w G V ws vs c r c' r'->fu c=false->c'=c/\r'=r/\vs.length=ws.length
 |[],[],_,_,_,_,h,_=>⟨h.1,h.2,rfl⟩
 |x::ws,v::vs,c,c',r,r',h,hn=>by
  rcases h with⟨_,h⟩ |⟨e,_,h⟩<;>(rw[hn] at h;obtain⟨h1,h2,h3⟩:=oE h hn;exact⟨h1,h2,by simp[h3]⟩)
 |[],_::_,_,_,_,_,h,_=>h.elim
 |_::_,[],_,_,_,_,h,_=>h.elim
theorem fH{V:HL}:∀{ws:List Wn} {vs:List AV} {c':Str} {r r':Nat},f4 w G V ws vs aa r c' r'->vs.length=ws.length/\((c'=aa/\r'=r+ws.length/\∀(i:Nat) x v,ws[i]? =some x->vs[i]? =some v->oA w G V x v)\/
  (fu c'=false/\∃i,r'=r+i/\i<ws.length/\(∀(j:Nat) x v,j<i->ws[j]? =some x->vs[j]? =some v->oA w G V x v)/\∃x v,ws[i]? =some x/\vs[i]? =some v/\rc w G V x v c'))
 |[],[],_,r,_,h=>⟨rfl,.inl ⟨h.1,h.2,λ i x v hx=>by simp at hx⟩⟩
 |x::ws,v::vs,c',r,r',h=>by
  rcases h with⟨h1,h2⟩ |⟨e,h1,h2⟩
  ·obtain⟨l,z⟩:=fH (r:=r+1) h2
   refine⟨by simp[l],?_⟩
   rcases z with⟨z1,z2,z3⟩ |⟨z1,i,z2,z3,z4,z5⟩
   ·refine .inl ⟨z1,by rw[z2,L6];omega,λ i y u hy hu=>?_⟩
    cases i with
    |zero=>simp at hy hu;subst hy hu;exact h1
    |succ i=>exact z3 i y u (by simpa using hy) (by simpa using hu)
   ·refine .inr ⟨z1,i+1,by omega,by rw[L6];omega,λ j y u hj hy hu=>?_,?_⟩
    ·cases j with
     |zero=>simp at hy hu;subst hy hu;exact h1
     |succ j=>exact z4 j y u (by omega) (by simpa using hy) (by simpa using hu)
    ·obtain⟨y,u,hy,hu,e⟩:=z5
     exact⟨y,u,by simpa using hy,by simpa using hu,e⟩
  ·have ne:fu e=false:=by
    cases x with
    |n m=>rcases h1.2 with rfl |rfl<;>rfl
    |s y=>rw[h1.1];rfl
   obtain⟨e1,e2,l⟩:=oE h2 ne
   subst e1 e2
   exact⟨by simp[l],.inr ⟨ne,0,rfl,by simp,λ j _ _ hj=>absurd hj (Nat.not_lt_zero j),x,v,rfl,rfl,h1⟩⟩
 |[],_::_,_,_,_,h=>h.elim
 |_::_,[],_,_,_,h=>h.elim
end
end
noncomputable abbrev Wd:=Str×Nat
def Wd.v(x:Wd):Value:=.str x.1 x.2
def m5:List Wd->List AV->List (Nat×Nat)->HL
 |x::xs,v::vs,(t,l)::ps=>(t+822,tO [Wd.v x,rA l])::(l+822,lO 0 [v.v])::m5 xs vs ps
 |_,_,_=>[]
inductive C'(L0:HL)(vs0:List Value)(ws:List Wd)(vs:List AV)(gvl0_:List Value)(gn3_:Nat)(gl_:HL):Prop
 |mk (ps:_) (x1:ps.length=ws.length) (x2:gvl0_=vs0++bX ps) (x3:gn3_=vs0.length+ps.length) (x4:gl_.Perm (m5 ws vs ps++L0))
noncomputable def wW(L0:HL)(vs0:List Value)(ws:List Wd)(vs:List AV)(g:Gh):Prop:=C' L0 vs0 ws vs (g.vl 0) (g.n 3) (g.l)
def Er(P:Params)(q:Pr)(L:HL)(A:Gh->Prop):SI:=⟨fC false mi (rA (q.a 1)) (rA (q.a 6)) (fD mi (bh P) (q.a 0+822) (q.a 20+822)),20,(Ct.D P q dh).i,L,A,λ g=>⟨.ok .next,[dO 2 [kS P aV (g.n 4) (g.v 0),kS P de (g.n 5) (g.v 1)],oj (q.a 7) (q.a 8),eT (g.n 2),dB (q.a 5+822) (g.n 2),lO (q.en 4) (q.l 1),lO (q.en 5) (q.l 2),aO (g.n 3) ⟨g.vl 0⟩,tO [rA (q.a 2),rA (q.a 3)],tO [g.v 0,g.v 1]],[],g.l⟩⟩
structure Da(q:Pr)(vs0:List Value)(ws:List Wd)(vs:List AV):Prop where
 v0:q.l 0=vs0
 lw:vs.length=ws.length
 d1:(q.l 1).drop (q.j 9)=ws.map Wd.v
 d2:(q.l 2).drop (q.j 9)=vs.map AV.v
 en:q.en 1=vs0.length
 sz:vs0.length+ws.length<=50
theorem f5{l r:List Value}{j:Nat}{x:Value}(h:l.drop j=x::r):l[j]? =some x/\l.drop (j+1)=r:=by
 refine⟨?_,?_⟩
 ·have:=congrArg (λ l=>l[0]?) h
  simpa using this
 ·have:=congrArg (List.drop 1) h
  rw[List.drop_drop] at this
  exact this
section
variable {w:World}{G:Shared}
theorem rf{Z z':SI}(hz:ai w G Z){L0:HL}{vs0:List Value}{x:Wd}{xs:List Wd}{v:AV}{vs:List AV}(t l:Gh->Nat)(ha:∀g,Z.asm g->wW L0 (vs0++[rA (t g)]) xs vs g)(hc:z'.code=Z.code)(hd:Z.d<=z'.d)(hi:Z.idx=z'.idx)(hL:z'.L.Perm Z.L)(hA:z'.asm=wW L0 vs0 (x::xs) (v::vs))
  (ho:∀g l',zy Z z' (λ g=>[(t g+822,tO [Wd.v x,rA (l g)]),(l g+822,lO 0 [v.v])]) g {g with l:=l'} l'):ai w G z':=by
 refine ai.fold hz [] 0 [] hc hd (by rw[hi,L4]) (by rw[L4];exact hL) λ g hg=>?_
 obtain⟨ps,h1,h2,h3,h4⟩:=ha g hg
 obtain⟨o1,o2,o3,o4,o5,o6,o7⟩:=ho g (m5 (x::xs) (v::vs) ((t g,l g)::ps)++L0)
 have l0:(Z.out g).fin.drop z'.idx.length=[]:=by rw[<-o5];exact List.drop_length ..
 refine⟨by rw[hi];exact o5,by rw[l0];rfl,{g with l:=m5 (x::xs) (v::vs) ((t g,l g)::ps)++L0},?_,rfl,rfl,rfl,o3,by rw[<-o5,List.take_length];exact o4,by rw[List.take_zero];exact o6,?_⟩
 ·rw[hA]
  exact⟨(t g,l g)::ps,by simp[h1],by rw[h2];simp[bX],by rw[h3];simp;omega,L2 _⟩
 ·rw[o7,l0,o1,o2,B8]
  show List.Perm (_::_::(m5 xs vs ps++L0)) ([]++(g.l++([_,_]++[])))
  refine(((h4.symm).cons _).cons _).trans ?_
  exact(pn (l₁:=[_,_]) (l₂:=g.l))
def Cj(q:Pr)(ut ut':Nat)(x:Value)(v:Value)(t:Value):Pr:={q with u:=λ i=>match i with |0=>ut |2=>ut' |i=>q.u i,v:=λ i=>match i with |8=>x |_=>v,l:=λ i=>match i with |0=>((q.ar 0).push t).toList |i=>q.l i,en:=λ i=>match i with |1=>q.en 1+1 |i=>q.en i,j:=λ i=>match i with |9=>q.j 9+1 |i=>i}
theorem yM:∀(ws:List Wd) (vs:List AV) (q:Pr) (vs0:List Value) (L:HL),Da q vs0 ws vs->ai w G (Er w.2 q L (wW L vs0 ws vs))
 |[],vs,q,vs0,L,h=>by
  have v0:=h.v0
  subst v0
  have hx:(q.l 1).length<=q.j 9:=List.drop_eq_nil_iff.mp h.d1
  exact ai.im (Ct.sat w G {q with L:=L} (λ n' gs=>match gs with |[g]=>wW L (q.l 0) [] vs g |_=>True) λ b t=>⟨iV hx,λ _ _ sl _=>⟨[],rfl,(L4 _).symm,h.en,L2 _⟩⟩) (show 3<=20 by decide) (L2 _) λ g hg=>hg
 |x::xs,[],q,vs0,L,h=>by have:=h.lw;simp at this
 |x::xs,v::vs,q,vs0,L,h=>by
  have v0:=h.v0
  subst v0
  obtain⟨x1,x2⟩:=f5 h.d1
  obtain⟨y1,y2⟩:=f5 h.d2
  have sz:=h.sz
  have lw:=h.lw
  simp only[L6] at sz lw
  let A:AA:=λ n' gs=>match n',gs with |3,[_,g1,_,g]=>wW L (q.l 0++[rA (g1.n 0+5)]) xs vs g |99,[g]=>wW L (q.l 0++[rA (g.n 6)]) xs vs g |_,_=>True
  have hz:=Dv.sat w G {q with L:=L,s:=λ _=>x.1,c:=λ _=>x.2} v A λ b u=>
   ⟨bl x1,λ g0 _=>⟨bl y1,λ g1 _=>⟨br (re (q.l 0) 1000 (by omega)),λ g2 _=>⟨yM xs vs (Cj q (q.u 0) (q.u 2) (Wd.v x) v.v (rA (g1.n 0+5))) _ _ ⟨mu q _,by omega,x2,y2,(by rw[rC];show q.en 1+1=_;rw[h.en];rfl),by rw[rC];simp only[L6,AD];omega⟩,λ g3 a3 sl _=>a3⟩⟩⟩⟩
  exact rf hz (λ g=>g.n 6) (λ g=>g.n 7) (λ g hg=>hg) rfl (Nat.le_refl _) rfl (L2 _) rfl λ g l'=>⟨rfl,rfl,rfl,rfl,rfl,rfl,rfl⟩
theorem Bw(x:Wd)(xs:List Wd)(v:AV)(vs:List AV)(q:Pr)(L:HL)(h:Da q [] (x::xs) (v::vs)):
  ai w G ⟨fC true mi (rA (q.a 1)) (rA (q.a 6)) (fD mi (bh w.2) (q.a 0+822) (q.a 20+822)),60,(B5.D w.2 q v dh).i,L,wW L [] (x::xs) (v::vs),λ g=>⟨.ok .next,[dO 2 [kS w.2 aV (g.n 4) (g.v 0),kS w.2 de (g.n 5) (g.v 1)],oj (q.a 7) (q.a 8),eT (g.n 2),dB (q.a 5+822) (g.n 2),lO (q.en 4) (q.l 1),lO (q.en 5) (q.l 2),aO (g.n 3) ⟨g.vl 0⟩,tO [rA (q.a 2),rA (q.a 3)],tO [g.v 0,g.v 1]],[],g.l⟩⟩:=by
 have v0:=h.v0
 obtain⟨x1,x2⟩:=f5 h.d1
 obtain⟨y1,y2⟩:=f5 h.d2
 have sz:=h.sz
 have lw:=h.lw
 simp only[L6,AD] at sz lw
 let A:AA:=λ n' gs=>match n',gs with |4,[_,_,g1,_,g]=>wW L [rA (g1.n 0+5)] xs vs g |99,[g]=>wW L [rA (g.n 6)] xs vs g |_,_=>True
 have hz:=B5.sat w G {q with L:=L,s:=λ _=>x.1,c:=λ _=>x.2} v A λ b u=>
  λ _=>⟨bl x1,λ g0 _=>⟨bl y1,λ g1 _=>⟨br (re (q.l 0) 1000 (by rw[v0];exact Nat.zero_le _)),λ g2 _=>⟨yM xs vs (Cj q (g1.n 1+0) (g1.n 1+1) (Wd.v x) v.v (rA (g1.n 0+5))) _ _ ⟨(mu q _).trans (by rw[v0];rfl),by omega,x2,y2,(by show q.en 1+1=1;rw[h.en];rfl),by show 1+_<=50;omega⟩,λ g3 a3 sl _=>a3⟩⟩⟩⟩
 exact rf (vs0:=[]) hz (λ g=>g.n 6) (λ g=>g.n 7) (λ g hg=>hg) rfl (show 20<=60 by decide) rfl (L2 _) rfl λ g l'=>⟨rfl,rfl,rfl,rfl,rfl,rfl,rfl⟩
def wf:List Wd->List (Nat×Nat)->HL
 |x::xs,(t,l)::ps=>(t+822,tO [Wd.v x,rA l])::(l+822,lO 0 [])::wf xs ps
 |_,_=>[]
inductive Db(L0:HL)(vs0:List Value)(ws:List Wd)(gvl0_:List Value)(gn3_:Nat)(gl_:HL):Prop
 |mk (ps:_) (x1:ps.length=ws.length) (x2:gvl0_=vs0++bX ps) (x3:gn3_=vs0.length+ps.length) (x4:gl_.Perm (wf ws ps++L0))
noncomputable def wX(L0:HL)(vs0:List Value)(ws:List Wd)(g:Gh):Prop:=Db L0 vs0 ws (g.vl 0) (g.n 3) (g.l)
def Es(P:Params)(q:Pr)(L:HL)(A:Gh->Prop):SI:=⟨fC false ml (rA (q.a 1)) (rA (q.a 3)) (fD ml (bh P) (q.a 0+822) (q.a 20+822)),20,(Cu.D P q dh).i,L,A,λ g=>⟨.ok .next,[dO 1 [kS P aV (g.n 4) (g.v 0)],eT (g.n 2),lO (q.en 4) (q.l 1),aO (g.n 3) ⟨g.vl 0⟩],[],g.l⟩⟩
structure Dc(q:Pr)(vs0:List Value)(ws:List Wd):Prop where
 v0:q.l 0=vs0
 d1:(q.l 1).drop (q.j 9)=ws.map Wd.v
 en:q.en 1=vs0.length
 sz:vs0.length+ws.length<=50
theorem rg{Z z':SI}(hz:ai w G Z){L0:HL}{vs0:List Value}{x:Wd}{xs:List Wd}(t l:Gh->Nat)(ha:∀g,Z.asm g->wX L0 (vs0++[rA (t g)]) xs g)(hc:z'.code=Z.code)(hd:Z.d<=z'.d)(hi:Z.idx=z'.idx)(hL:z'.L.Perm Z.L)(hA:z'.asm=wX L0 vs0 (x::xs))
  (ho:∀g l',zy Z z' (λ g=>[(t g+822,tO [Wd.v x,rA (l g)]),(l g+822,lO 0 [])]) g {g with l:=l'} l'):ai w G z':=by
 refine ai.fold hz [] 0 [] hc hd (by rw[hi,L4]) (by rw[L4];exact hL) λ g hg=>?_
 obtain⟨ps,h1,h2,h3,h4⟩:=ha g hg
 obtain⟨o1,o2,o3,o4,o5,o6,o7⟩:=ho g (wf (x::xs) ((t g,l g)::ps)++L0)
 have l0:(Z.out g).fin.drop z'.idx.length=[]:=by rw[<-o5];exact List.drop_length ..
 refine⟨by rw[hi];exact o5,by rw[l0];rfl,{g with l:=wf (x::xs) ((t g,l g)::ps)++L0},?_,rfl,rfl,rfl,o3,by rw[<-o5,List.take_length];exact o4,by rw[List.take_zero];exact o6,?_⟩
 ·rw[hA]
  exact⟨(t g,l g)::ps,by simp[h1],by rw[h2];simp[bX],by rw[h3];simp;omega,L2 _⟩
 ·rw[o7,l0,o1,o2,B8]
  show List.Perm (_::_::(wf xs ps++L0)) ([]++(g.l++([_,_]++[])))
  refine(((h4.symm).cons _).cons _).trans ?_
  exact(pn (l₁:=[_,_]) (l₂:=g.l))
theorem yN:∀(ws:List Wd) (q:Pr) (vs0:List Value) (L:HL),Dc q vs0 ws->ai w G (Es w.2 q L (wX L vs0 ws))
 |[],q,vs0,L,h=>by
  have v0:=h.v0
  subst v0
  have hx:(q.l 1).length<=q.j 9:=List.drop_eq_nil_iff.mp h.d1
  exact ai.im (Cu.sat w G {q with L:=L} (λ n' gs=>match gs with |[g]=>wX L (q.l 0) [] g |_=>True) λ b t=>⟨iV hx,λ _ _ sl _=>⟨[],rfl,(L4 _).symm,h.en,L2 _⟩⟩) (show 2<=20 by decide) (L2 _) λ g hg=>hg
 |x::xs,q,vs0,L,h=>by
  have v0:=h.v0
  subst v0
  obtain⟨x1,x2⟩:=f5 h.d1
  have sz:=h.sz
  simp only[L6] at sz
  let A:AA:=λ n' gs=>match n',gs with |2,[g0,_,g]=>wX L (q.l 0++[rA (g0.n 0+1)]) xs g |99,[g]=>wX L (q.l 0++[rA (g.n 5)]) xs g |_,_=>True
  have hz:=Dw.sat w G {q with L:=L,s:=λ _=>x.1,c:=λ _=>x.2} A λ b u=>
   ⟨bl x1,λ g0 _=>⟨br (re (q.l 0) 1000 (by omega)),λ g2 _=>⟨yN xs (Cj q (q.u 0) 0 (Wd.v x) .none (rA (g0.n 0+1))) _ _ ⟨mu q _,x2,(by rw[rC];show q.en 1+1=_;rw[h.en];rfl),by rw[rC];simp only[L6,AD];omega⟩,λ g3 a3 sl _=>a3⟩⟩⟩
  exact rg hz (λ g=>g.n 5) (λ g=>g.n 6) (λ g hg=>hg) rfl (Nat.le_refl _) rfl (L2 _) rfl λ g l'=>⟨rfl,rfl,rfl,rfl,rfl,rfl,rfl⟩
theorem Bx(x:Wd)(xs:List Wd)(q:Pr)(L:HL)(h:Dc q [] (x::xs)):
  ai w G ⟨fC true ml (rA (q.a 1)) (rA (q.a 3)) (fD ml (bh w.2) (q.a 0+822) (q.a 20+822)),60,(B6.D w.2 q dh).i,L,wX L [] (x::xs),λ g=>⟨.ok .next,[dO 1 [kS w.2 aV (g.n 4) (g.v 0)],eT (g.n 2),lO (q.en 4) (q.l 1),aO (g.n 3) ⟨g.vl 0⟩],[],g.l⟩⟩:=by
 have v0:=h.v0
 obtain⟨x1,x2⟩:=f5 h.d1
 have sz:=h.sz
 simp only[L6,AD] at sz
 let A:AA:=λ n' gs=>match n',gs with |3,[_,g1,_,g]=>wX L [rA (g1.n 0+1)] xs g |99,[g]=>wX L [rA (g.n 5)] xs g |_,_=>True
 have hz:=B6.sat w G {q with L:=L,s:=λ _=>x.1,c:=λ _=>x.2} A λ b u=>
  λ _=>⟨bl x1,λ g1 _=>⟨br (re (q.l 0) 1000 (by rw[v0];exact Nat.zero_le _)),λ g2 _=>⟨yN xs (Cj q (g1.n 1+0) 0 (Wd.v x) .none (rA (g1.n 0+1))) _ _ ⟨(mu q _).trans (by rw[v0];rfl),x2,(by show q.en 1+1=1;rw[h.en];rfl),by show 1+_<=50;omega⟩,λ g3 a3 sl _=>a3⟩⟩⟩
 exact rg (vs0:=[]) hz (λ g=>g.n 5) (λ g=>g.n 6) (λ g hg=>hg) rfl (show 20<=60 by decide) rfl (L2 _) rfl λ g l'=>⟨rfl,rfl,rfl,rfl,rfl,rfl,rfl⟩
end
def gU:Nat->List Nat->List Wd
 |i,e::es=>(jf i,e)::gU (i+1) es
 |_,[]=>[]
def m6:List Tr->List Nat->List (Nat×Nat)->List AV->List Cl
 |t::ts,e::es,(_,l)::ps,v::vs=>⟨t.t,t.r,l,e,t.u,t.u',v⟩::m6 ts es ps vs
 |_,_,_,_=>[]
inductive jY:List Tr->List Nat->List (Nat×Nat)->List AV->Prop where
 |a (x0 e0 p0 v0):jY [x0] [e0] [p0] [v0]
 |b (x0 x1 e0 e1 p0 p1 v0 v1):jY [x0,x1] [e0,e1] [p0,p1] [v0,v1]
 |c (x0 x1 x2 e0 e1 e2 p0 p1 p2 v0 v1 v2):jY [x0,x1,x2] [e0,e1,e2] [p0,p1,p2] [v0,v1,v2]
 |d (x0 x1 x2 x3 e0 e1 e2 e3 p0 p1 p2 p3 v0 v1 v2 v3):jY [x0,x1,x2,x3] [e0,e1,e2,e3] [p0,p1,p2,p3] [v0,v1,v2,v3]
theorem m9{o:Nat×Obj}{A B:HL}:(o::(A++B)).Perm (A++(B++([o]++[]))):=by
 rw[L4,<-L9]
 exact pn (l₁:=[o])
inductive DS{α:Type}:List α->Prop
 |mk (a:α):DS [a]
inductive DU{α:Type}:List α->Prop
 |mk (a b:α):DU [a,b]
inductive DV{α:Type}:List α->Prop
 |mk (a b c:α):DV [a,b,c]
inductive DW{α:Type}:List α->Prop
 |mk (a b c d:α):DW [a,b,c,d]
theorem Et{α:Type}{l:List α}(h:l.length=0):l=[]:=List.length_eq_zero_iff.mp h
theorem xJ{α:Type}{l:List α}{n:Nat}(h:l.length=n+1):∃a t,l=a::t/\t.length=n:=by
 rcases l with _ |⟨a,t⟩
 ·exact absurd h.symm (Nat.succ_ne_zero n)
 ·exact⟨a,t,rfl,Nat.succ.inj h⟩
theorem qh{α:Type}{l:List α}(h:l.length=1):DS l:=by
 obtain⟨a,t,rfl,e⟩:=xJ h
 rw[Et e];exact .mk a
theorem ll{α:Type}{l:List α}(h:l.length=2):DU l:=by
 obtain⟨a,t,rfl,e⟩:=xJ h
 obtain⟨b⟩:=qh e
 exact .mk a b
theorem jy{α:Type}{l:List α}(h:l.length=3):DV l:=by
 obtain⟨a,t,rfl,e⟩:=xJ h
 obtain⟨b,c⟩:=ll e
 exact .mk a b c
theorem yO{α:Type}{l:List α}(h:l.length=4):DW l:=by
 obtain⟨a,t,rfl,e⟩:=xJ h
 obtain⟨b,c,d⟩:=jy e
 exact .mk a b c d
theorem Dd{tr:List Tr}{es:List Nat}{ps:List (Nat×Nat)}{vs:List AV}{n:Nat}(h1:1<=n)(h4:n<=4)(e1:tr.length=n)(e2:es.length=n)(e3:ps.length=n)(e4:vs.length=n):jY tr es ps vs:=by
 match n,h1,h4 with
 |1,_,_=>obtain⟨_⟩:=qh e1;obtain⟨_⟩:=qh e2;obtain⟨_⟩:=qh e3;obtain⟨_⟩:=qh e4;exact .a ..
 |2,_,_=>obtain⟨_,_⟩:=ll e1;obtain⟨_,_⟩:=ll e2;obtain⟨_,_⟩:=ll e3;obtain⟨_,_⟩:=ll e4;exact .b ..
 |3,_,_=>obtain⟨_,_,_⟩:=jy e1;obtain⟨_,_,_⟩:=jy e2;obtain⟨_,_,_⟩:=jy e3;obtain⟨_,_,_⟩:=jy e4;exact .c ..
 |4,_,_=>obtain⟨_,_,_,_⟩:=yO e1;obtain⟨_,_,_,_⟩:=yO e2;obtain⟨_,_,_,_⟩:=yO e3;obtain⟨_,_,_,_⟩:=yO e4;exact .d ..
section
variable {w:World}{G:Shared}
theorem xK{tr:List Tr}{es:List Nat}{ps:List (Nat×Nat)}{vs:List AV}(h:jY tr es ps vs)(la j0:Nat){L L0:HL}(hL:L.Perm (m5 (gU 0 es) vs ps++L0)):ai w G ⟨.call (.type "dict") ⟨[rA la],[]⟩,60,[(j0,la+822,aO ps.length ⟨bX ps⟩)],L,
  λ g=>g.l.Perm ((g.n 2+822,oD ⟨jX w.2 0 (m6 tr es ps vs)⟩ (m6 tr es ps vs).length)::(m5 (gU 0 es) vs ps++L0)),λ g=>⟨.ok (.ret (rA (g.n 2))),[aO ps.length ⟨bX ps⟩],[],g.l⟩⟩:=by
 cases h with
 |a x0 e0 p0 v0=>
  let q:Pr:={pr mr (aI (m5 (gU 0 [e0]) [v0] [p0]++L0) [0]).2 with a:=tk [la,p0.1,p0.2],u:=tk [e0],j:=tk [j0]}
  exact ai.fold (Cv.sat w G q) ((Cv.D w.2 q).i.drop 1) 0 [] rfl (show 1<=60 by decide) rfl (by rw[L4];exact hL.trans (ac [0] _)) λ g _=>⟨rfl,rfl,{g with l:=(g.n 2+822,oD ⟨jX w.2 0 (m6 [x0] [e0] [p0] [v0])⟩ 1)::(m5 (gU 0 [e0]) [v0] [p0]++L0)},L2 _,rfl,rfl,rfl,rfl,rfl,rfl,by
   exact((ac [0] _).cons _).trans m9⟩
 |b x0 x1 e0 e1 p0 p1 v0 v1=>
  let q:Pr:={pr mr (aI (m5 (gU 0 [e0,e1]) [v0,v1] [p0,p1]++L0) [0,1]).2 with a:=tk [la,p0.1,p1.1,p0.2,p1.2],u:=tk [e0,e1],j:=tk [j0]}
  exact ai.fold (Cw.sat w G q) ((Cw.D w.2 q).i.drop 1) 0 [] rfl (show 1<=60 by decide) rfl (by rw[L4];exact hL.trans (ac [0,1] _)) λ g _=>⟨rfl,rfl,{g with l:=(g.n 2+822,oD ⟨jX w.2 0 (m6 [x0,x1] [e0,e1] [p0,p1] [v0,v1])⟩ 2)::(m5 (gU 0 [e0,e1]) [v0,v1] [p0,p1]++L0)},L2 _,rfl,rfl,rfl,rfl,rfl,rfl,by
   exact((ac [0,1] _).cons _).trans m9⟩
 |c x0 x1 x2 e0 e1 e2 p0 p1 p2 v0 v1 v2=>
  let q:Pr:={pr mr (aI (m5 (gU 0 [e0,e1,e2]) [v0,v1,v2] [p0,p1,p2]++L0) [0,1,2]).2 with a:=tk [la,p0.1,p1.1,p2.1,p0.2,p1.2,p2.2],u:=tk [e0,e1,e2],j:=tk [j0]}
  exact ai.fold (Cx.sat w G q) ((Cx.D w.2 q).i.drop 1) 0 [] rfl (show 1<=60 by decide) rfl (by rw[L4];exact hL.trans (ac [0,1,2] _)) λ g _=>⟨rfl,rfl,{g with l:=(g.n 2+822,oD ⟨jX w.2 0 (m6 [x0,x1,x2] [e0,e1,e2] [p0,p1,p2] [v0,v1,v2])⟩ 3)::(m5 (gU 0 [e0,e1,e2]) [v0,v1,v2] [p0,p1,p2]++L0)},L2 _,rfl,rfl,rfl,rfl,rfl,rfl,by
   exact((ac [0,1,2] _).cons _).trans m9⟩
 |d x0 x1 x2 x3 e0 e1 e2 e3 p0 p1 p2 p3 v0 v1 v2 v3=>
  let q:Pr:={pr mr (aI (m5 (gU 0 [e0,e1,e2,e3]) [v0,v1,v2,v3] [p0,p1,p2,p3]++L0) [0,1,2,3]).2 with a:=tk [la,p0.1,p1.1,p2.1,p3.1,p0.2,p1.2,p2.2,p3.2],u:=tk [e0,e1,e2,e3],j:=tk [j0]}
  exact ai.fold (Cy.sat w G q) ((Cy.D w.2 q).i.drop 1) 0 [] rfl (show 1<=60 by decide) rfl (by rw[L4];exact hL.trans (ac [0,1,2,3] _)) λ g _=>⟨rfl,rfl,{g with l:=(g.n 2+822,oD ⟨jX w.2 0 (m6 [x0,x1,x2,x3] [e0,e1,e2,e3] [p0,p1,p2,p3] [v0,v1,v2,v3])⟩ 4)::(m5 (gU 0 [e0,e1,e2,e3]) [v0,v1,v2,v3] [p0,p1,p2,p3]++L0)},L2 _,rfl,rfl,rfl,rfl,rfl,rfl,by
   exact((ac [0,1,2,3] _).cons _).trans m9⟩
theorem zT{tr:List Tr}{es:List Nat}{ps:List (Nat×Nat)}{vs:List AV}(h:jY tr es ps vs)(P:Params)(an:Nat):∃X,((an+822,oD ⟨jX P 0 (m6 tr es ps vs)⟩ (m6 tr es ps vs).length)::(m5 (gU 0 es) vs ps++yK 0 tr)).Perm (aS P an (m6 tr es ps vs) []++X):=by
 cases h with
 |a x0 e0 p0 v0=>exact⟨_,ac [0,2,2,1] _⟩
 |b x0 x1 e0 e1 p0 p1 v0 v1=>exact⟨_,ac [0,4,4,1,3,3,2] _⟩
 |c x0 x1 x2 e0 e1 e2 p0 p1 p2 v0 v1 v2=>exact⟨_,ac [0,6,6,1,5,5,2,4,4,3] _⟩
 |d x0 x1 x2 x3 e0 e1 e2 e3 p0 p1 p2 p3 v0 v1 v2 v3=>exact⟨_,ac [0,8,8,1,7,7,2,6,6,3,5,5,4] _⟩
end
def nG(P:Params)(S:St)(j0 wa oa num t:Nat)(right:Int)(vals:List Value)(L:HL)(A:Gh->Prop):SI:=⟨au 809 [rA (S.a 9),rA oa,rA wa,.int right t],60,[(j0,wa+822,lO num vals)],L,A,λ g=>⟨.ok (.ret .none),[lO num vals],[],g.l⟩⟩
noncomputable abbrev Ck:=St->List Ch->List Pa->Prop
inductive qi(P:Params)(c:List Ch)(p:List Pa)(k:Nat)(f1 f2:Str)(T:HL)(Q:Ck)(l:HL):Prop
 |mk (S2 d2 r2 X:_) (x1:l=aP P S2) (x2:Q S2 d2 r2) (x3:aR P S2 c d2 p r2 (X++T) k f1 f2)
inductive B0(S:St)(d:List Ch)(r:List Pa)(S':St)(d':List Ch)(r':List Pa):Prop
 |mk (tl:_) (x1:S'={S with tail:=tl}) (x2:d'=d/\r'=r)
inductive BO(S:St)(d:List Ch)(r:List Pa)(k:Nat)(md:T3)(x:T4)(S':St)(d':List Ch)(r':List Pa):Prop
 |mk (bo n Y tl:_) (x1:S'={S with bo:=bo,bon:=n,tail:=tl}) (x2:d'=d++[Y]/\r'=r/\Y.k=(k:Int)+1/\Y.nm=ak k/\Y.md=md.p fJ fK ff/\Y.sz=x.p 128 3 4 5)
inductive BF(S:St)(d:List Ch)(r:List Pa)(ms:List (Int×Int))(S':St)(d':List Ch)(r':List Pa):Prop
 |mk (bp n tl:_) (x1:S'={S with bp:=bp,bpn:=n,tail:=tl}) (x2:d'=d/\r'.map (λ x=>(x.at_,x.many))=setF ms (r.map λ x=>(x.at_,x.many)))
inductive BG(S:St)(d:List Ch)(r:List Pa)(y:T2)(S':St)(d':List Ch)(r':List Pa):Prop
 |mk (t tl:_) (x1:S'={S with bbuf:=y.p S.r1 S.r2,bbt:=t,tail:=tl}) (x2:d'=d/\r'=r)
inductive BP(S:St)(d:List Ch)(r:List Pa)(y:T2)(S':St)(d':List Ch)(r':List Pa):Prop
 |mk (t t' tl:_) (x1:S'={S with r1:=y.p S.bbuf S.r1,t1:=t,r2:=y.p S.r2 S.bbuf,t2:=t',tail:=tl}) (x2:d'=d/\r'=r)
inductive BL(S:St)(d:List Ch)(r:List Pa)(x y:T3)(S':St)(d':List Ch)(r':List Pa):Prop
 |mk (t tl:_) (x1:S'={S with bbuf:=dI x y S.bbuf,bbt:=t,tail:=tl}) (x2:d'=d/\r'=r)
inductive BC(S:St)(d:List Ch)(r:List Pa)(ms:List Int)(S':St)(d':List Ch)(r':List Pa):Prop
 |mk (bo n tl:_) (x1:S'={S with bo:=bo,bon:=n,tail:=tl}) (x2:d'=ms.foldl (λ d m=>i0 m d) d/\r'=r)
section
variable {w:World}{G:Shared}{S:St}{c d:List Ch}{p r:List Pa}{T:HL}{k:Nat}{f1 f2:Str}{L:HL}
structure De(S:St)(Z:SI)(OI BI:List (Nat×Nat×Obj))(R0:HL)(j0 wa oa num t:Nat)(right:Int)(vals:List Value):Prop where
 c1:Z.code=au 809 [rA (S.a 9),rA oa,rA wa,.int right t]
 c2:Z.d<=60
 c3:Z.idx=(j0,wa+822,lO num vals)::(OI++BI)
 c4:Z.L=R0
structure Df(Z:SI)(OI:List (Nat×Nat×Obj))(FB:Gh->List Obj)(R0:HL)(N:Gh->HL)(num:Nat)(vals:List Value)(g:Gh):Prop where
 o1:(Z.out g).res= .ok (.ret .none)
 o2:(Z.out g).fin=lO num vals::(OI.map (·.2.2)++FB g)
 o3:(Z.out g).new=N g
 o4:(Z.out g).L.Perm R0
inductive Dg(P:Params)(c:List Ch)(p:List Pa)(T:HL)(k:Nat)(f1 f2:Str)(Q:Ck)(S:St):Prop
 |mk (d2:List Ch) (r2:List Pa) (Y:HL) (h1:Q S d2 r2) (h2:aR P S c d2 p r2 (Y++T) k f1 f2)
theorem bu{Z:SI}(hz:ai w G Z){OI BI:List (Nat×Nat×Obj)}{R0:HL}(X:HL)(hL:L.Perm (aN OI++(bj w.2 S++X))){j0 wa oa num t:Nat}{right:Int}{vals:List Value}
  (FB:Gh->List Obj)(N:Gh->HL)(S2:Gh->St)(Q:Ck)
  (hc:De S Z OI BI R0 j0 wa oa num t right vals)
  (hB:(bj w.2 S++X).Perm (aN BI++R0))(hB2:∀g,Z.asm g->(bj w.2 (S2 g)++X).Perm (List.zip (aZ BI) (FB g)++R0))
  (ho:∀g,Z.asm g->Df Z OI FB R0 N num vals g)
  (lb:(∀g,(FB g).length=BI.length/\(FB g).all (λ o=> !bd o)=true)/\OI.all (λ x=> !bd x.2.2)=true)
  (hI:∀g,Z.asm g->Dg w.2 c p T k f1 f2 Q ((S2 g).tl (N g++(aN OI++X)))):
  ai w G (nG w.2 S j0 wa oa num t right vals L λ g=>qi w.2 c p k f1 f2 T Q g.l):=by
 obtain⟨c1,c2,c3,c4⟩:=hc
 have zi:∀l:List (Nat×Nat×Obj),List.zip (aZ l) (l.map (·.2.2))=aN l:=λ l=>by
  induction l with
  |nil=>rfl
  |cons x r ih=>exact congrArg (x.2:: ·) ih
 refine ai.fold hz (OI++BI) 0 [] c1.symm c2 c3 ?_ λ g hg=>?_
 ·rw[c4,L4]
  show L.Perm (aN (OI++BI)++R0)
  have e:aN (OI++BI)=aN OI++aN BI:=nD ..
  rw[e,L9]
  exact hL.trans (dQ _ hB)
 ·obtain⟨o1,o2,o3,o4⟩:=ho g hg
  obtain⟨d2,r2,Y,q,hi⟩:=hI g hg
  obtain⟨l1,l2⟩:=lb.1 g
  have og:Z.out g=⟨(Z.out g).res,lO num vals::(OI.map (·.2.2)++FB g),(Z.out g).new,(Z.out g).L⟩:=by rw[<-o2]
  refine k7.of og c3 ?_
  have t1:(lO num vals::(OI.map (·.2.2)++FB g)).drop 1=OI.map (·.2.2)++FB g:=rfl
  refine⟨by simp[l1],?_,{g with l:=aP w.2 {S2 g with tail:=N g++(aN OI++X)}},⟨_,d2,r2,Y,rfl,q,hi⟩,rfl,rfl,rfl,o1.symm,rfl,rfl,?_⟩
  ·show(((lO num vals::(OI.map (·.2.2)++FB g)).drop 1).all _)=true
   rw[t1,List.all_append,List.all_map,AC]
   exact⟨lb.2,l2⟩
  ·show(bj w.2 (S2 g)++(N g++(aN OI++X))).Perm (List.zip (aZ (OI++BI)) ((lO num vals::(OI.map (·.2.2)++FB g)).drop 1)++((Z.out g).L++((Z.out g).new.drop 0++[])))
   have e:aZ (OI++BI)=aZ OI++aZ BI:=nD ..
   rw[t1,e,List.zip_append (by unfold aZ;simp),zi,o3,B8,L4]
   have p1:=hB2 g hg
   have a:∀A B C D E F:HL,(A++F).Perm (B++C)->(A++(D++(E++F))).Perm ((E++B)++(C++D)):=λ A B C D E F h=>by
    have q1:(A++(D++(E++F))).Perm (E++((A++F)++D)):=by
     refine(dQ _ (ao D E F)).trans ((ao _ _ _).trans (dQ _ ?_))
     refine(dQ _ pn).trans (.of_eq (L9 ..).symm)
    refine q1.trans ((dQ E (h.append_right D)).trans (.of_eq ?_))
    simp only[L9]
   exact(a _ _ _ _ _ _ p1).trans (dQ _ (o4.symm.append_right _))
theorem zU(x:T2){O:HL}{oa u:Nat}{s:Str}{v1 v2 v3 v4:Value}(h:aR w.2 S c d p r (((oa+822,tO (x.p [.str s u,v1,v2] [.str s u,v1,v2,v3,v4]))::O)++T) k f1 f2)(hL:L.Perm (aP w.2 S)){vals:List Value}(hl:vals.length<=10){right:Int}(hr:right<Int.ofNat vals.length)(hs:(s.cps.toList == aC.cps.toList)=false)(j0 wa t:Nat):
  ai w G (nG w.2 S j0 wa oa 0 t right vals L λ g=>qi w.2 c p k f1 f2 (((oa+822,tO (x.p [.str s u,v1,v2] [.str s u,v1,v2,v3,v4]))::O)++T) (B0 S d r) g.l):=by
 let q:Pr:={pr S (bj w.2 S++dF w.2 c d p r (O++T)) with a:=tk [wa,oa],u:=tk [t,u],j:=tk [j0],m:=λ _=>right,s:=λ _=>s,l:=λ _=>vals,v:=λ i=>match i with |1=>v1 |2=>v2 |3=>v3 |_=>v4}
 have hz:=Du.sat w G q x λ b t=>⟨aD hs,kZ (show Int.ofNat vals.length<2 ^ 63 by simp;omega),λ g0 _=>⟨eV (jD hr),λ _ _=>trivial⟩⟩
 exact bu hz (OI:=[(0,oa+822,tO (x.p [.str s u,v1,v2] [.str s u,v1,v2,v3,v4]))]) (BI:=[]) (R0:=bj w.2 S++dF w.2 c d p r (O++T)) (dF w.2 c d p r (O++T)) (hL.trans (c6 (A:=[_]) .a h)) (λ _=>[]) (λ _=>[]) (λ _=>S) (B0 S d r) ⟨rfl,show 2<=60 by decide,rfl,rfl⟩ (L2 _) (λ _ _=>L2 _) (λ g _=>⟨rfl,rfl,rfl,L2 _⟩) ⟨λ _=>⟨rfl,rfl⟩,rfl⟩ λ g _=>⟨d,r,[],⟨_,rfl,rfl,rfl⟩,lh h _ _ (aU w.2 c d p r [_] (O++T)).symm⟩
theorem i5{o:Nat×Obj}{O:HL}(h:aR w.2 S c d p r ((o::O)++T) k f1 f2)(hL:L.Perm (aP w.2 S)):L.Perm ([o]++(bj w.2 S++dF w.2 c d p r (O++T))):=hL.trans (c6 (A:=[o]) .a h)
structure Eu(S S':St):Prop where
 e1:S'.op=S.op
 e2:S'.bo=S.bo
 e3:S'.fi=S.fi
 e4:S'.fin=S.fin
 e5:S'.bp=S.bp
 e6:S'.nm=S.nm
 e7:S'.fl=S.fl
 e8:S'.a=S.a
 e9:S'.u=S.u
theorem c7{S':St}(h:aR w.2 S c d p r T k f1 f2)(e:Eu S S')(ht:S'.tail.Perm (dF w.2 c d p r T)):aR w.2 S' c d p r T k f1 f2:=by
 obtain⟨e1,e2,e3,e4,e5,e6,e7,e8,e9⟩:=e
 exact⟨by rw[e1,e8,e9];exact h.op,by rw[e2,e8,e9];exact h.bo,e3▸h.fi,e4▸h.fin,e5▸h.bp,ht,h.pl,h.rl,h.cl,h.dl,h.ck,h.cn,h.dk,h.dn,e6▸h.nm,e7▸h.fl⟩
noncomputable def ER(l:List Nat)(i:Nat):Nat->Nat:=λ n=>l.getD (n-i) 0
theorem wg(y:T2){O:HL}{oa ou a4 a5 u1 u2:Nat}(h:aR w.2 S c d p r (((oa+822,tO [.str eN ou,rA a4,rA a5])::O)++T) k f1 f2)(hL:L.Perm (aP w.2 S))(hb:S.bbuf.cps.size=6)(h1:S.r1.cps.size=6)(h2:S.r2.cps.size=6)(j0 wa t:Nat):
  ai w G (nG w.2 S j0 wa oa 0 t 2 [.int 9 u1,.int (y.p 1 2) u2] L λ g=>qi w.2 c p k f1 f2 (((oa+822,tO [.str eN ou,rA a4,rA a5])::O)++T) (BG S d r y) g.l):=by
 obtain⟨b0,b1,b2,b3,b4,b5,eb⟩:=dC hb
 obtain⟨x0,x1,x2,x3,x4,x5,ex⟩:=dC h1
 obtain⟨y0,y1,y2,y3,y4,y5,ey⟩:=dC h2
 obtain⟨S1,rfl⟩:=St.e_bbuf eb
 obtain⟨S2,rfl⟩:=St.e_r1 (show S1.r1=_ from ex)
 obtain⟨S3,rfl⟩:=St.e_r2 (show S2.r2=_ from ey)
 let S:St:=((S3.s_r2 (s6 y0 y1 y2 y3 y4 y5)).s_r1 (s6 x0 x1 x2 x3 x4 x5)).s_bbuf (s6 b0 b1 b2 b3 b4 b5)
 let q:Pr:={pr S ((aI (bj w.2 S) [7,9]).2++dF w.2 c d p r (O++T)) with a:=tk [wa,oa,0,0,a4,a5],u:=tk [t,u1,u2,ou],j:=tk [j0],c:=λ n=>([x0,x1,x2,x3,x4,x5,y0,y1,y2,y3,y4,y5,0,0,0,0,0,0,0,0,b0,b1,b2,b3,b4,b5]:List Nat).getD n 0}
 have hz:=lE.sat w G q y
 cases y
 ·exact bu hz (OI:=[(0,oa+822,_)]) (BI:=(lE.D w.2 q .a).i.drop 2) (R0:=(aI (bj w.2 S) [7,9]).2++dF w.2 c d p r (O++T)) _ (i5 h hL) (λ g=>((lE.D w.2 q .a).Z.out g).fin.drop 2) (λ _=>[]) (λ _=>{S with bbuf:=S.r1,bbt:=S3.t1}) (BG S d r .a) ⟨rfl,show 1<=60 by decide,rfl,rfl⟩ ((ac [7,9] _).append_right _) (λ _ _=>(ac [7,9] _).append_right _) (λ g _=>⟨rfl,rfl,rfl,L2 _⟩) ⟨λ _=>⟨rfl,rfl⟩,rfl⟩ λ g _=>⟨d,r,[],⟨_,_,rfl,rfl,rfl⟩,c7 h ⟨rfl,rfl,rfl,rfl,rfl,rfl,rfl,rfl,rfl⟩ (aU w.2 c d p r [_] (O++T)).symm⟩
 ·exact bu hz (OI:=[(0,oa+822,_)]) (BI:=(lE.D w.2 q .b).i.drop 2) (R0:=(aI (bj w.2 S) [7,9]).2++dF w.2 c d p r (O++T)) _ (i5 h hL) (λ g=>((lE.D w.2 q .b).Z.out g).fin.drop 2) (λ _=>[]) (λ _=>{S with bbuf:=S.r2,bbt:=S3.t2}) (BG S d r .b) ⟨rfl,show 1<=60 by decide,rfl,rfl⟩ ((ac [7,9] _).append_right _) (λ _ _=>(ac [7,9] _).append_right _) (λ g _=>⟨rfl,rfl,rfl,L2 _⟩) ⟨λ _=>⟨rfl,rfl⟩,rfl⟩ λ g _=>⟨d,r,[],⟨_,_,rfl,rfl,rfl⟩,c7 h ⟨rfl,rfl,rfl,rfl,rfl,rfl,rfl,rfl,rfl⟩ (aU w.2 c d p r [_] (O++T)).symm⟩
end
section
variable {w:World}{G:Shared}{S:St}{c d:List Ch}{p r:List Pa}{T:HL}{k:Nat}{f1 f2:Str}{L:HL}
theorem wi(y:T2){oa ou a4 a5 u1 u2:Nat}{O:HL}(h:aR w.2 S c d p r (((oa+822,tO [.str eO ou,rA a4,rA a5])::O)++T) k f1 f2)(hL:L.Perm (aP w.2 S))(hb:S.bbuf.cps.size=6)(h1:S.r1.cps.size=6)(h2:S.r2.cps.size=6)(j0 wa t:Nat):
  ai w G (nG w.2 S j0 wa oa 0 t 2 [.int 9 u1,.int (y.p 1 2) u2] L λ g=>qi w.2 c p k f1 f2 (((oa+822,tO [.str eO ou,rA a4,rA a5])::O)++T) (BP S d r y) g.l):=by
 obtain⟨b0,b1,b2,b3,b4,b5,eb⟩:=dC hb
 obtain⟨x0,x1,x2,x3,x4,x5,ex⟩:=dC h1
 obtain⟨y0,y1,y2,y3,y4,y5,ey⟩:=dC h2
 obtain⟨S1,rfl⟩:=St.e_bbuf eb
 obtain⟨S2,rfl⟩:=St.e_r1 (show S1.r1=_ from ex)
 obtain⟨S3,rfl⟩:=St.e_r2 (show S2.r2=_ from ey)
 let S:St:=((S3.s_r2 (s6 y0 y1 y2 y3 y4 y5)).s_r1 (s6 x0 x1 x2 x3 x4 x5)).s_bbuf (s6 b0 b1 b2 b3 b4 b5)
 let q:Pr:={pr S ((aI (bj w.2 S) [7,9]).2++dF w.2 c d p r (O++T)) with a:=tk [wa,oa,0,0,a4,a5],u:=tk [t,u1,u2,ou],j:=tk [j0],c:=λ n=>([x0,x1,x2,x3,x4,x5,y0,y1,y2,y3,y4,y5,0,0,0,0,0,0,0,0,b0,b1,b2,b3,b4,b5]:List Nat).getD n 0}
 have hz:=lF.sat w G q y
 cases y
 ·exact bu hz (OI:=[(0,oa+822,_)]) (BI:=(lF.D w.2 q .a).i.drop 2) (R0:=(aI (bj w.2 S) [7,9]).2++dF w.2 c d p r (O++T)) _ (i5 h hL) (λ g=>((lF.D w.2 q .a).Z.out g).fin.drop 2) (λ _=>[]) (λ _=>{S with r1:=S.bbuf,t1:=S3.bbt}) (BP S d r .a) ⟨rfl,show 1<=60 by decide,rfl,rfl⟩ ((ac [7,9] _).append_right _) (λ _ _=>(ac [7,9] _).append_right _) (λ g _=>⟨rfl,rfl,rfl,L2 _⟩) ⟨λ _=>⟨rfl,rfl⟩,rfl⟩ λ g _=>⟨d,r,[],⟨_,_,_,rfl,rfl,rfl⟩,c7 h ⟨rfl,rfl,rfl,rfl,rfl,rfl,rfl,rfl,rfl⟩ (aU w.2 c d p r [_] (O++T)).symm⟩
 ·exact bu hz (OI:=[(0,oa+822,_)]) (BI:=(lF.D w.2 q .b).i.drop 2) (R0:=(aI (bj w.2 S) [7,9]).2++dF w.2 c d p r (O++T)) _ (i5 h hL) (λ g=>((lF.D w.2 q .b).Z.out g).fin.drop 2) (λ _=>[]) (λ _=>{S with r2:=S.bbuf,t2:=S3.bbt}) (BP S d r .b) ⟨rfl,show 1<=60 by decide,rfl,rfl⟩ ((ac [7,9] _).append_right _) (λ _ _=>(ac [7,9] _).append_right _) (λ g _=>⟨rfl,rfl,rfl,L2 _⟩) ⟨λ _=>⟨rfl,rfl⟩,rfl⟩ λ g _=>⟨d,r,[],⟨_,_,_,rfl,rfl,rfl⟩,c7 h ⟨rfl,rfl,rfl,rfl,rfl,rfl,rfl,rfl,rfl⟩ (aU w.2 c d p r [_] (O++T)).symm⟩
theorem ss{oa ou ou2 a4 u1:Nat}{s:Str}{O:HL}(h:aR w.2 S c d p r (((oa+822,tO [.str cq ou,.str ad ou2,rA a4])::O)++T) k f1 f2)(hL:L.Perm (aP w.2 S))(hb:S.bbuf.cps.size=6)(hr:r=[])(j0 wa t:Nat):
  ai w G (nG w.2 S j0 wa oa 0 t 1 [.str s u1] L λ g=>qi w.2 c p k f1 f2 (((oa+822,tO [.str cq ou,.str ad ou2,rA a4])::O)++T) (B0 S d r) g.l):=by
 obtain⟨b0,b1,b2,b3,b4,b5,eb⟩:=dC hb
 obtain⟨S1,rfl⟩:=St.e_bbuf eb
 let S:St:=S1.s_bbuf (s6 b0 b1 b2 b3 b4 b5)
 subst hr
 obtain⟨S2,rfl⟩:=St.e_bp (show S1.bp=⟨[]⟩ from h.bp)
 let S:St:=(S2.s_bp ⟨[]⟩).s_bbuf (s6 b0 b1 b2 b3 b4 b5)
 let q:Pr:={pr S ((aI (bj w.2 S) [7,8]).2++dF w.2 c d p [] (O++T)) with a:=tk [wa,oa,0,0,a4],u:=tk [t,u1,ou,ou2],j:=tk [j0],s:=λ _=>s,c:=λ n=>([b0,b1,b2,b3,b4,b5]:List Nat).getD (n-20) 0}
 have hz:=lG.sat w G q λ b t=>⟨jS rfl rfl rfl rfl,λ _ _=>trivial⟩
 exact bu hz (OI:=[(0,oa+822,_)]) (BI:=(lG.D w.2 q).i.drop 2) (R0:=(aI (bj w.2 S) [7,8]).2++dF w.2 c d p [] (O++T)) _ (i5 h hL) (λ g=>((lG.D w.2 q).Z.out g).fin.drop 2) (λ _=>[]) (λ _=>S) (B0 S d []) ⟨rfl,show 1<=60 by decide,rfl,rfl⟩ ((ac [7,8] _).append_right _) (λ _ _=>(ac [7,8] _).append_right _) (λ g _=>⟨rfl,rfl,rfl,L2 _⟩) ⟨λ _=>⟨rfl,rfl⟩,rfl⟩ λ g _=>⟨d,[],[],⟨_,rfl,rfl,rfl⟩,c7 h ⟨rfl,rfl,rfl,rfl,rfl,rfl,rfl,rfl,rfl⟩ (aU w.2 c d p [] [_] (O++T)).symm⟩
theorem wj(x y:T3){pa:Pa}{oa ou ou2 a4 u1:Nat}{O:HL}(h:aR w.2 S c d p (pa::r) (((oa+822,tO [.str cq ou,.str ad ou2,rA a4])::O)++T) k f1 f2)(hL:L.Perm (aP w.2 S))(hb:S.bbuf.cps.size=6)(pa0:pa.at_=0)(gm:pa.many=y.p 0 1 2)(j0 wa t:Nat):
  ai w G (nG w.2 S j0 wa oa 0 t 1 [.str (x.p gw aa cy) u1] L λ g=>qi w.2 c p k f1 f2 (((oa+822,tO [.str cq ou,.str ad ou2,rA a4])::O)++T) (BL S d (pa::r) x y) g.l):=by
 obtain⟨b0,b1,b2,b3,b4,b5,eb⟩:=dC hb
 obtain⟨S1,rfl⟩:=St.e_bbuf eb
 let S:St:=S1.s_bbuf (s6 b0 b1 b2 b3 b4 b5)
 obtain⟨S2,rfl⟩:=St.e_bp (show S1.bp=⟨bU (dM w.2) (pa::r)⟩ from h.bp)
 have eo:xw {pa with at_:=0,many:=y.p 0 1 2}=xw pa:=by unfold xw;rw[pa0,gm]
 let S:St:=(S2.s_bp ⟨bU (dM w.2) (pa::r)⟩).s_bbuf (s6 b0 b1 b2 b3 b4 b5)
 let X:HL:=dF w.2 c d p r (O++T)
 let R0:HL:=(aI (bj w.2 S) [7,8]).2++X
 let q:Pr:={pr S R0 with a:=tk [wa,oa,0,0,0,a4],u:=tk [t,u1,ou,ou2],j:=tk [j0],p:=λ _=>pa,c:=λ n=>([b0,b1,b2,b3,b4,b5]:List Nat).getD (n-20) 0}
 have dd:∀t,DX (C0 w.2).set1 1 (.str ad t) [] ⟨bU (dM w.2) (pa::r)⟩ (some 0) (ae (C0 w.2).set1 ad) (.bool true)/\DX (C0 w.2).set1 0 (.str ad t) [] ⟨bU (dM w.2) (pa::r)⟩ (some 0) (ae (C0 w.2).set1 ad) (rA pa.ba):=λ t=>by
  have pl3:(pa::r).length<=3:=h.rl
  rcases r with _ |⟨z0,_ |⟨z1,_ |⟨z9,r⟩⟩⟩
  ·exact⟨jS rfl rfl rfl rfl,jS rfl rfl rfl rfl⟩
  ·exact⟨jS rfl rfl rfl rfl,jS rfl rfl rfl rfl⟩
  ·exact⟨jS rfl rfl rfl rfl,jS rfl rfl rfl rfl⟩
  ·exact absurd pl3 (by simp)
 have pm:(dF w.2 c d p (pa::r) (O++T)).Perm ((pa.ba+822,xw {pa with at_:=0,many:=y.p 0 1 2})::X):=by
  rw[eo]
  have:= @List.perm_middle _ (pa.ba+822,xw pa) (lJ w.2 c++(jW d++jv p)) (nE r++(O++T))
  simp only[L9] at this
  exact this
 have pB:∀S':St,(bj w.2 S'++dF w.2 c d p (pa::r) (O++T)).Perm ((aI (bj w.2 S') [7,8]).1++((pa.ba+822,xw {pa with at_:=0,many:=y.p 0 1 2})::((aI (bj w.2 S') [7,8]).2++X))):=λ S'=>by
  refine((ac [7,8] (bj w.2 S')).append pm).trans ?_
  rw[L9]
  exact dQ _ AF
 have hz:=cK.sat w G q x y λ b t=>⟨(dd _).1,(dd _).2,λ _ _=>trivial⟩
 cases x<;>cases y
 ·exact bu hz (OI:=[(0,oa+822,_)]) (BI:=(cK.D w.2 q .a .a).i.drop 2) (R0:=R0) _ (i5 h hL) (λ g=>((cK.D w.2 q .a .a).Z.out g).fin.drop 2) (λ _=>[]) (λ g=>S) (BL S d (pa::r) .a .a) ⟨rfl,show 1<=60 by decide,rfl,rfl⟩ (pB S) (λ g _=>pB S) (λ g _=>⟨rfl,rfl,rfl,L2 _⟩) ⟨λ _=>⟨rfl,rfl⟩,rfl⟩ λ g _=>⟨d,pa::r,[],⟨_,_,rfl,rfl,rfl⟩,c7 h ⟨rfl,rfl,rfl,rfl,rfl,rfl,rfl,rfl,rfl⟩ (aU w.2 c d p (pa::r) [_] (O++T)).symm⟩
 ·exact bu hz (OI:=[(0,oa+822,_)]) (BI:=(cK.D w.2 q .a .b).i.drop 2) (R0:=R0) _ (i5 h hL) (λ g=>((cK.D w.2 q .a .b).Z.out g).fin.drop 2) (λ _=>[]) (λ g=>{S with bbuf:=dI .a .b S.bbuf,bbt:=g.n 2}) (BL S d (pa::r) .a .b) ⟨rfl,show 1<=60 by decide,rfl,rfl⟩ (pB S) (λ g _=>pB {S with bbuf:=dI .a .b S.bbuf,bbt:=g.n 2}) (λ g _=>⟨rfl,rfl,rfl,L2 _⟩) ⟨λ _=>⟨rfl,rfl⟩,rfl⟩ λ g _=>⟨d,pa::r,[],⟨_,_,rfl,rfl,rfl⟩,c7 h ⟨rfl,rfl,rfl,rfl,rfl,rfl,rfl,rfl,rfl⟩ (aU w.2 c d p (pa::r) [_] (O++T)).symm⟩
 ·exact bu hz (OI:=[(0,oa+822,_)]) (BI:=(cK.D w.2 q .a .c).i.drop 2) (R0:=R0) _ (i5 h hL) (λ g=>((cK.D w.2 q .a .c).Z.out g).fin.drop 2) (λ _=>[]) (λ g=>{S with bbuf:=dI .a .c S.bbuf,bbt:=g.n 2}) (BL S d (pa::r) .a .c) ⟨rfl,show 1<=60 by decide,rfl,rfl⟩ (pB S) (λ g _=>pB {S with bbuf:=dI .a .c S.bbuf,bbt:=g.n 2}) (λ g _=>⟨rfl,rfl,rfl,L2 _⟩) ⟨λ _=>⟨rfl,rfl⟩,rfl⟩ λ g _=>⟨d,pa::r,[],⟨_,_,rfl,rfl,rfl⟩,c7 h ⟨rfl,rfl,rfl,rfl,rfl,rfl,rfl,rfl,rfl⟩ (aU w.2 c d p (pa::r) [_] (O++T)).symm⟩
 ·exact bu hz (OI:=[(0,oa+822,_)]) (BI:=(cK.D w.2 q .b .a).i.drop 2) (R0:=R0) _ (i5 h hL) (λ g=>((cK.D w.2 q .b .a).Z.out g).fin.drop 2) (λ _=>[]) (λ g=>S) (BL S d (pa::r) .b .a) ⟨rfl,show 1<=60 by decide,rfl,rfl⟩ (pB S) (λ g _=>pB S) (λ g _=>⟨rfl,rfl,rfl,L2 _⟩) ⟨λ _=>⟨rfl,rfl⟩,rfl⟩ λ g _=>⟨d,pa::r,[],⟨_,_,rfl,rfl,rfl⟩,c7 h ⟨rfl,rfl,rfl,rfl,rfl,rfl,rfl,rfl,rfl⟩ (aU w.2 c d p (pa::r) [_] (O++T)).symm⟩
 ·exact bu hz (OI:=[(0,oa+822,_)]) (BI:=(cK.D w.2 q .b .b).i.drop 2) (R0:=R0) _ (i5 h hL) (λ g=>((cK.D w.2 q .b .b).Z.out g).fin.drop 2) (λ _=>[]) (λ g=>{S with bbuf:=dI .b .b S.bbuf,bbt:=g.n 2}) (BL S d (pa::r) .b .b) ⟨rfl,show 1<=60 by decide,rfl,rfl⟩ (pB S) (λ g _=>pB {S with bbuf:=dI .b .b S.bbuf,bbt:=g.n 2}) (λ g _=>⟨rfl,rfl,rfl,L2 _⟩) ⟨λ _=>⟨rfl,rfl⟩,rfl⟩ λ g _=>⟨d,pa::r,[],⟨_,_,rfl,rfl,rfl⟩,c7 h ⟨rfl,rfl,rfl,rfl,rfl,rfl,rfl,rfl,rfl⟩ (aU w.2 c d p (pa::r) [_] (O++T)).symm⟩
 ·exact bu hz (OI:=[(0,oa+822,_)]) (BI:=(cK.D w.2 q .b .c).i.drop 2) (R0:=R0) _ (i5 h hL) (λ g=>((cK.D w.2 q .b .c).Z.out g).fin.drop 2) (λ _=>[]) (λ g=>{S with bbuf:=dI .b .c S.bbuf,bbt:=g.n 2}) (BL S d (pa::r) .b .c) ⟨rfl,show 1<=60 by decide,rfl,rfl⟩ (pB S) (λ g _=>pB {S with bbuf:=dI .b .c S.bbuf,bbt:=g.n 2}) (λ g _=>⟨rfl,rfl,rfl,L2 _⟩) ⟨λ _=>⟨rfl,rfl⟩,rfl⟩ λ g _=>⟨d,pa::r,[],⟨_,_,rfl,rfl,rfl⟩,c7 h ⟨rfl,rfl,rfl,rfl,rfl,rfl,rfl,rfl,rfl⟩ (aU w.2 c d p (pa::r) [_] (O++T)).symm⟩
 ·exact bu hz (OI:=[(0,oa+822,_)]) (BI:=(cK.D w.2 q .c .a).i.drop 2) (R0:=R0) _ (i5 h hL) (λ g=>((cK.D w.2 q .c .a).Z.out g).fin.drop 2) (λ _=>[]) (λ g=>S) (BL S d (pa::r) .c .a) ⟨rfl,show 1<=60 by decide,rfl,rfl⟩ (pB S) (λ g _=>pB S) (λ g _=>⟨rfl,rfl,rfl,L2 _⟩) ⟨λ _=>⟨rfl,rfl⟩,rfl⟩ λ g _=>⟨d,pa::r,[],⟨_,_,rfl,rfl,rfl⟩,c7 h ⟨rfl,rfl,rfl,rfl,rfl,rfl,rfl,rfl,rfl⟩ (aU w.2 c d p (pa::r) [_] (O++T)).symm⟩
 ·exact bu hz (OI:=[(0,oa+822,_)]) (BI:=(cK.D w.2 q .c .b).i.drop 2) (R0:=R0) _ (i5 h hL) (λ g=>((cK.D w.2 q .c .b).Z.out g).fin.drop 2) (λ _=>[]) (λ g=>{S with bbuf:=dI .c .b S.bbuf,bbt:=g.n 2}) (BL S d (pa::r) .c .b) ⟨rfl,show 1<=60 by decide,rfl,rfl⟩ (pB S) (λ g _=>pB {S with bbuf:=dI .c .b S.bbuf,bbt:=g.n 2}) (λ g _=>⟨rfl,rfl,rfl,L2 _⟩) ⟨λ _=>⟨rfl,rfl⟩,rfl⟩ λ g _=>⟨d,pa::r,[],⟨_,_,rfl,rfl,rfl⟩,c7 h ⟨rfl,rfl,rfl,rfl,rfl,rfl,rfl,rfl,rfl⟩ (aU w.2 c d p (pa::r) [_] (O++T)).symm⟩
 ·exact bu hz (OI:=[(0,oa+822,_)]) (BI:=(cK.D w.2 q .c .c).i.drop 2) (R0:=R0) _ (i5 h hL) (λ g=>((cK.D w.2 q .c .c).Z.out g).fin.drop 2) (λ _=>[]) (λ g=>{S with bbuf:=dI .c .c S.bbuf,bbt:=g.n 2}) (BL S d (pa::r) .c .c) ⟨rfl,show 1<=60 by decide,rfl,rfl⟩ (pB S) (λ g _=>pB {S with bbuf:=dI .c .c S.bbuf,bbt:=g.n 2}) (λ g _=>⟨rfl,rfl,rfl,L2 _⟩) ⟨λ _=>⟨rfl,rfl⟩,rfl⟩ λ g _=>⟨d,pa::r,[],⟨_,_,rfl,rfl,rfl⟩,c7 h ⟨rfl,rfl,rfl,rfl,rfl,rfl,rfl,rfl,rfl⟩ (aU w.2 c d p (pa::r) [_] (O++T)).symm⟩
end
section
local macro_rules |`(tactic|omega)=>`(tactic|first |lia |omega (config:={}))
def zV(x:Ch):Ch:={x with wa:=x.ba,kt:=x.bkt}
def iz(x:Pa):Pa:={x with wa:=x.ba,ba:=x.wa,kt:=x.bkt,bkt:=x.kt,u:=x.v,v:=x.u}
theorem nc(d:List Ch):d.map cC=(d.map zV).map am:=by rw[pd];rfl
theorem By(d:List Ch):(d.map zV).map (·.k)=d.map (·.k):=by rw[pd];rfl
section
variable {w:World}{G:Shared}{S:St}{c d:List Ch}{p r:List Pa}{T:HL}{k:Nat}{f1 f2:Str}{L:HL}{P:Params}
theorem rh(a u:Nat->Nat)(d:List Ch):∀e∈(jO a u::d.map cC),∃i t,e.key= .int i t/\e.hash=hashInt i:=by
 intro e he
 rcases lI.mp he with rfl |he
 ·exact⟨9,_,rfl,rfl⟩
 ·obtain⟨x,_,rfl⟩:=bZ.mp he
  exact⟨x.k,_,rfl,rfl⟩
theorem lp(a u:Nat->Nat){d:List Ch}{m:Int}(h9:m≠9)(hm:∀x∈d,x.k≠m):iB (jO a u::d.map cC) m none:=by
 refine⟨rh a u d,?_⟩
 show(match(jO a u).key.isInt m with |true=>some 0 |false=>bI m (d.map cC) 1)=none
 rw[show(jO a u).key.isInt m=false from(cD _ _ _).trans (lL (Ne.symm h9)),nc]
 exact fg _ 1 λ y hy=>by
  obtain⟨x,hx,rfl⟩:=bZ.mp hy
  exact hm x hx
theorem wk(a u:Nat->Nat){d:List Ch}{i:Nat}{x:Ch}(h9:x.k≠9)(hi:d[i]? =some x)(nd:(d.map (·.k)).Nodup):iB (jO a u::d.map cC) x.k (some (i+1)):=by
 refine⟨rh a u d,?_⟩
 show(match(jO a u).key.isInt x.k with |true=>some 0 |false=>bI x.k (d.map cC) 1)=_
 rw[show(jO a u).key.isInt x.k=false from(cD _ _ _).trans (lL (Ne.symm h9)),nc]
 have:=fF (d.map zV) 1 i (zV x) (by rw[qz,hi];rfl) (by rw[By];exact nd)
 refine(show bI (zV x).k ((d.map zV).map am) 1=_ from this).trans ?_
 congr 1;omega
theorem wm(h:aR P S c d p r T (k+1) f1 f2)(hk:k<=4)(hd:∀x∈d,x.k<=k)(Y:Ch)(e:Y.k=(k:Int)+1)(n:Nat){tl:HL}(ht:tl.Perm (dF P c (d++[Y]) p r T)):aR P {S with bo:=S.bo.push (cC Y),bon:=n,tail:=tl} c (d++[Y]) p r T (k+1) f1 f2:=by
 have dl:d.length<=k:=by
  have z:=gA k (d.map λ x=>x.k) (λ y hy=>by
   obtain⟨x,hx,rfl⟩:=bZ.mp hy
   exact⟨(h.dk x hx).1,hd x hx⟩) h.dn
  simpa using z
 refine⟨h.op,?_,h.fi,h.fin,h.bp,ht,h.pl,h.rl,h.cl,by rw[rC];simp;omega,h.ck,h.cn,λ x hx=>?_,?_,h.nm,h.fl⟩
 ·show S.bo.push _=_
  rw[h.bo]
  apply Array.ext'
  rw[Array.toList_push,nD]
  rfl
 ·rcases lK.mp hx with hx |hx
  ·exact h.dk x hx
  ·rw[yh.mp hx,e];omega
 ·rw[nD]
  refine f8.mpr ⟨h.dn,by simp,λ a ha b hb e'=>?_⟩
  obtain⟨x,hx,rfl⟩:=bZ.mp ha
  have hb:b=Y.k:=by simpa using hb
  have:=hd x hx
  rw[hb,e] at e'
  omega
theorem qj(md:T3){oa ou ou2 a4 a5 u1 u2:Nat}{O:HL}(h:aR w.2 S c d p r (((oa+822,tO [.str bv ou,.str (md.p fJ fK ff) ou2,rA a4,rA a5,.none])::O)++T) (k+1) f1 f2)(hL:L.Perm (aP w.2 S))(hb:S.bbuf.cps.size=6)(hk:k<=4)(hd:∀x∈d,x.k<=k)(j0 wa t:Nat):
  ai w G (nG w.2 S j0 wa oa 0 t 2 [.str (ak k) u1,.int ((k:Int)+1) u2] L λ g=>qi w.2 c p (k+1) f1 f2 (((oa+822,tO [.str bv ou,.str (md.p fJ fK ff) ou2,rA a4,rA a5,.none])::O)++T) (BO S d r k md .a) g.l):=by
 obtain⟨b0,b1,b2,b3,b4,b5,eb⟩:=dC hb
 obtain⟨S1,rfl⟩:=St.e_bbuf eb
 let S:St:=S1.s_bbuf (s6 b0 b1 b2 b3 b4 b5)
 obtain⟨S2,rfl⟩:=St.f_bo (S:=S1) (f:=λ a u=>⟨jO a u::d.map cC⟩) h.bo
 let S:St:=(S2.s_bo ⟨jO S2.a S2.u::d.map cC⟩).s_bbuf (s6 b0 b1 b2 b3 b4 b5)
 let R0:HL:=(aI (bj w.2 S) [7,7]).2++dF w.2 c d p r (O++T)
 let q:Pr:={pr S R0 with a:=tk [wa,oa,0,0,a4,a5],u:=tk [t,u1,u2,ou,ou2],j:=tk [j0],m:=j7 [(k:Int)+1],s:=pe [ak k,md.p fJ fK ff],c:=λ n=>([b0,b1,b2,b3,b4,b5]:List Nat).getD (n-20) 0}
 have dl:d.length<=5:=h.dl
 have hz:=i9.sat w G q λ b t=>⟨wU (by show(_::d.map cC).length<=1000;rw[L6,kx];omega) (lp _ _ (show(k:Int)+1≠9 by omega) (λ x hx=>by show x.k≠(k:Int)+1;have:=hd x hx;omega)) rfl,λ _ _=>trivial⟩
 let Y:Gh->Ch:=λ g=>⟨0,g.n 2,(k:Int)+1,0,u2,λ _=>0,tk [u1,ou2,g.n 3],md.p fJ fK ff,ak k,aa,128⟩
 have tp:∀(g:Gh) (o:Nat×Obj),([((Y g).ba+822,sI (Y g))]++([o]++dF w.2 c d p r (O++T))).Perm (dF w.2 c (d++[Y g]) p r ((o::O)++T)):=λ g o=>by
  have e1:jW (d++[Y g])=jW d++[((Y g).ba+822,sI (Y g))]:=nD ..
  refine List.Perm.trans ?_ (aU w.2 c (d++[Y g]) p r [o] (O++T)).symm
  refine(ao _ _ _).trans (dQ _ ?_)
  have:=(@List.perm_middle _ ((Y g).ba+822,sI (Y g)) (lJ w.2 c++jW d) (jv p++(nE r++(O++T)))).symm
  unfold dF
  rw[e1]
  simp only[L9] at this ⊢
  exact this
 exact bu hz (OI:=[(0,oa+822,_)]) (BI:=(i9.D w.2 q).i.drop 2) (R0:=R0) _ (hL.trans (c6 (A:=[_]) .a h)) (λ g=>((i9.D w.2 q).Z.out g).fin.drop 2) (λ g=>[((Y g).ba+822,sI (Y g))]) (λ g=>{S with bo:=S.bo.push (cC (Y g)),bon:=S2.bon+1}) (BO S d r k md .a) ⟨rfl,show 1<=60 by decide,rfl,rfl⟩ ((ac [7,7] _).append_right _) (λ g _=>(ac [7,7] _).append_right _) (λ g _=>⟨rfl,rfl,rfl,L2 _⟩) ⟨λ _=>⟨rfl,rfl⟩,rfl⟩ λ g _=>⟨d++[Y g],r,[],⟨_,_,Y g,_,rfl,rfl,rfl,rfl,rfl,rfl,rfl⟩,wm h hk hd (Y g) rfl _ (tp g _)⟩
theorem qk(y:T3)(md:T3){oa ou ou2 a4 a5 a6 u1 u2 u3:Nat}{O:HL}(h:aR w.2 S c d p r (((oa+822,tO [.str bv ou,.str (md.p fJ fK ff) ou2,rA a4,rA a5,rA a6])::O)++T) (k+1) f1 f2)(hL:L.Perm (aP w.2 S))(hb:S.bbuf.cps.size=6)(hk:k<=4)(hd:∀x∈d,x.k<=k)(j0 wa t:Nat):
  ai w G (nG w.2 S j0 wa oa 0 t 3 [.str (ak k) u1,.int ((k:Int)+1) u2,.int (y.p 3 4 5) u3] L λ g=>qi w.2 c p (k+1) f1 f2 (((oa+822,tO [.str bv ou,.str (md.p fJ fK ff) ou2,rA a4,rA a5,rA a6])::O)++T) (BO S d r k md (y.p .b .c .d)) g.l):=by
 obtain⟨b0,b1,b2,b3,b4,b5,eb⟩:=dC hb
 obtain⟨S1,rfl⟩:=St.e_bbuf eb
 let S:St:=S1.s_bbuf (s6 b0 b1 b2 b3 b4 b5)
 obtain⟨S2,rfl⟩:=St.f_bo (S:=S1) (f:=λ a u=>⟨jO a u::d.map cC⟩) h.bo
 let S:St:=(S2.s_bo ⟨jO S2.a S2.u::d.map cC⟩).s_bbuf (s6 b0 b1 b2 b3 b4 b5)
 let R0:HL:=(aI (bj w.2 S) [7,7]).2++dF w.2 c d p r (O++T)
 let q:Pr:={pr S R0 with a:=tk [wa,oa,0,0,a4,a5,a6],u:=tk [t,u1,u2,u3,ou,ou2],j:=tk [j0],m:=j7 [(k:Int)+1,y.p 3 4 5],s:=pe [ak k,md.p fJ fK ff],c:=λ n=>([b0,b1,b2,b3,b4,b5]:List Nat).getD (n-20) 0}
 have dl:d.length<=5:=h.dl
 have hz:=ja.sat w G q λ b t=>⟨wU (by show(_::d.map cC).length<=1000;rw[L6,kx];omega) (lp _ _ (show(k:Int)+1≠9 by omega) (λ x hx=>by show x.k≠(k:Int)+1;have:=hd x hx;omega)) rfl,λ _ _=>trivial⟩
 let Y:Gh->Ch:=λ g=>⟨0,g.n 2,(k:Int)+1,0,u2,λ _=>0,tk [u1,ou2,u3],md.p fJ fK ff,ak k,aa,y.p 3 4 5⟩
 have tp:∀(g:Gh) (o:Nat×Obj),([((Y g).ba+822,sI (Y g))]++([o]++dF w.2 c d p r (O++T))).Perm (dF w.2 c (d++[Y g]) p r ((o::O)++T)):=λ g o=>by
  have e1:jW (d++[Y g])=jW d++[((Y g).ba+822,sI (Y g))]:=nD ..
  refine List.Perm.trans ?_ (aU w.2 c (d++[Y g]) p r [o] (O++T)).symm
  refine(ao _ _ _).trans (dQ _ ?_)
  have:=(@List.perm_middle _ ((Y g).ba+822,sI (Y g)) (lJ w.2 c++jW d) (jv p++(nE r++(O++T)))).symm
  unfold dF
  rw[e1]
  simp only[L9] at this ⊢
  exact this
 exact bu hz (OI:=[(0,oa+822,_)]) (BI:=(ja.D w.2 q).i.drop 2) (R0:=R0) _ (hL.trans (c6 (A:=[_]) .a h)) (λ g=>((ja.D w.2 q).Z.out g).fin.drop 2) (λ g=>[((Y g).ba+822,sI (Y g))]) (λ g=>{S with bo:=S.bo.push (cC (Y g)),bon:=S2.bon+1}) (BO S d r k md (y.p .b .c .d)) ⟨rfl,show 1<=60 by decide,rfl,rfl⟩ ((ac [7,7] _).append_right _) (λ g _=>(ac [7,7] _).append_right _) (λ g _=>⟨rfl,rfl,rfl,L2 _⟩) ⟨λ _=>⟨rfl,rfl⟩,rfl⟩ λ g _=>⟨d++[Y g],r,[],⟨_,_,Y g,_,rfl,rfl,rfl,rfl,rfl,rfl,by cases y<;>rfl⟩,wm h hk hd (Y g) rfl _ (tp g _)⟩
end
end
theorem kf(l:List Pa):(l.map iz).map iz=l:=by rw[pd];exact List.map_id _
theorem jz(P:Params)(r:List Pa):bU (dM P) r=bU (ah P) (r.map iz):=by
 unfold bU
 rw[List.zipWith_map_right]
 rfl
theorem wq(r:List Pa):nE r=jv (r.map iz):=by unfold nE jv;rw[pd];rfl
def gJ:Nat->List Pa->List Pa->List Pa
 |_,[],q=>q
 |i,x::xs,q=>gJ (i+1) xs (setP i x q)
theorem lq:∀(xs:List Pa) (i:Nat) (q:List Pa),i<=q.length->∃D,((xs.map λ x:Pa=>(x.wa+822,dE x))++jv q).Perm (D++jv (gJ i xs q))
 |[],i,q,_=>⟨[],L2 _⟩
 |x::xs,i,q,h=>by
  have l:=lg i x q h
  obtain⟨D,hD⟩:=lq xs (i+1) (setP i x q) (by rw[l];omega)
  refine⟨r6 i q++D,?_⟩
  have e:=jw i x q h
  show List.Perm ((x.wa+822,dE x)::((xs.map λ x:Pa=>(x.wa+822,dE x))++jv q)) _
  refine(AF.symm).trans ((dQ _ (e.trans pn)).trans ?_)
  refine(ao _ _ _).trans ?_
  rw[L9]
  exact dQ _ hD
theorem jA:∀(xs:List Pa) (q:List Pa),xs.length<=3->(gJ 0 xs q).map (λ x=>(x.at_,x.many))=setF (xs.map λ x=>(x.at_,x.many)) (q.map λ x=>(x.at_,x.many))
 |[],q,_=>by cases q<;>rfl
 |[a],[],_=>rfl
 |[a],_::_,_=>rfl
 |[a,b],[],_=>rfl
 |[a,b],[_],_=>rfl
 |[a,b],_::_::_,_=>rfl
 |[a,b,c],[],_=>rfl
 |[a,b,c],[_],_=>rfl
 |[a,b,c],[_,_],_=>rfl
 |[a,b,c],_::_::_::_,_=>rfl
 |_::_::_::_::_,_,h=>absurd h (by simp)
theorem jB(l:List Pa):(l.map iz).map (λ x=>(x.at_,x.many))=l.map (λ x=>(x.at_,x.many)):=by rw[pd];rfl
section
variable {w:World}{G:Shared}{S:St}{c d:List Ch}{p r:List Pa}{T:HL}{k:Nat}{f1 f2:Str}{L:HL}{P:Params}
theorem ql{T0:HL}(h:aR P S c d p r T0 k f1 f2)(xs:List Pa)(h3:(gJ 0 xs (r.map iz)).length<=3)(n:Nat){X O:HL}(hX:X=dF P c d p r T):∃D,aR P {S with bp:=⟨bU (dM P) ((gJ 0 xs (r.map iz)).map iz)⟩,bpn:=n,tail:=(xs.map λ x:Pa=>(x.wa+822,dE x))++(O++X)} c d p ((gJ 0 xs (r.map iz)).map iz) (D++(O++T)) k f1 f2:=by
 subst hX
 obtain⟨D,hD⟩:=lq xs 0 (r.map iz) (Nat.zero_le _)
 refine⟨D,h.op,h.bo,h.fi,h.fin,rfl,?_,h.pl,by rw[kx];exact h3,h.cl,h.dl,h.ck,h.cn,h.dk,h.dn,h.nm,h.fl⟩
 show((xs.map λ x:Pa=>(x.wa+822,dE x))++(O++dF P c d p r T)).Perm (dF P c d p ((gJ 0 xs (r.map iz)).map iz) (D++(O++T)))
 refine List.Perm.trans ?_ ((aU P c d p _ D (O++T)).trans (dQ _ (aU P c d p _ O T))).symm
 refine(ao _ _ _).trans (List.Perm.trans (dQ _ ?_) (ao _ _ _))
 unfold dF
 rw[wq r,wq ((gJ 0 xs (r.map iz)).map iz),kf]
 have m:∀A B C E F:HL,(A++(B++(C++(E++F)))).Perm (E++(A++(B++(C++F)))):=λ A B C E F=>(dQ _ (dQ _ (ao _ _ _))).trans ((dQ _ (ao _ _ _)).trans (ao _ _ _))
 refine(dQ _ (m _ _ _ _ _)).trans ?_
 rw[<-L9]
 refine(hD.append_right _).trans ?_
 rw[L9]
 exact dQ _ (m _ _ _ _ _).symm
theorem wr(m:Int)(hm:0<=m/\m<=2)(j0 a u:Nat)(L:HL)(A:Gh->Prop)(hA:∀g,A g):ai w G ⟨.call (.builtin "sum") ⟨[rA a],[]⟩,12,[(j0,a+822,lO 0 [.int m u])],L,A,λ g=>⟨.ok (.ret (.int m (g.n 2))),[lO 0 [.int m u]],[],L⟩⟩:=
 ai.im (Dt.sat w G {pr mr L with a:=tk [a],u:=tk [u],j:=tk [j0]} m hm) (show 1<=12 by decide) (L2 _) λ g _=>hA g
theorem zW(m m':Int)(hm:0<=m/\m<=2)(hm':0<=m'/\m'<=2)(j0 a u u':Nat)(L:HL)(A:Gh->Prop)(hA:∀g,A g):ai w G ⟨.call (.builtin "sum") ⟨[rA a],[]⟩,12,[(j0,a+822,lO 0 [.int m u,.int m' u'])],L,A,λ g=>⟨.ok (.ret (.int (m+m') (g.n 2))),[lO 0 [.int m u,.int m' u']],[],L⟩⟩:=
 ai.im (mG.sat w G {pr mr L with a:=tk [a],u:=tk [u,u'],j:=tk [j0]} m m' hm hm') (show 1<=12 by decide) (L2 _) λ g _=>hA g
theorem sw(m0:Int)(q0:0<=m0/\m0<=2){oa la ou at0 at1 p0 k0 u1 u2:Nat}{O:HL}(hO:O=(oa+822,tO [.str aL ou,rA at0,rA la])::(la+822,lO 1 [rA p0])::(p0+822,tO [rA at1,.str ad k0])::([]:HL))(h:aR w.2 S c d p r (O++T) k f1 f2)(hL:L.Perm (aP w.2 S))(hb:S.bbuf.cps.size=6)(j0 wa t:Nat):
  ai w G (nG w.2 S j0 wa oa 0 t 2 [.int 9 u1,.int m0 u2] L λ g=>qi w.2 c p k f1 f2 (O++T) (BF S d r [(0,m0)]) g.l):=by
 obtain⟨b0,b1,b2,b3,b4,b5,eb⟩:=dC hb
 obtain⟨S1,rfl⟩:=St.e_bbuf eb
 have e:S1.bp=⟨bU (dM w.2) r⟩:=h.bp
 rw[jz] at e
 obtain⟨S2,rfl⟩:=St.e_bp e
 let q0':=r.map iz
 have hq:q0'.length<=3:=by show(r.map iz).length<=3;rw[kx];exact h.rl
 let S:St:=(S2.s_bp ⟨bU (ah w.2) (r.map iz)⟩).s_bbuf (s6 b0 b1 b2 b3 b4 b5)
 let R0:HL:=(aI (bj w.2 S) [7,8]).2++dF w.2 c d p r T
 let q:Pr:={pr S R0 with a:=tk [wa,oa,la,p0,0,0,at0,at1,0,0,0,0,0,0,0,0],u:=tk [t,u1,u2,ou,k0],j:=tk [j0],m:=j7 [m0],r:=λ i=>aT i q0',c:=λ n=>([b0,b1,b2,b3,b4,b5]:List Nat).getD (n-20) 0}
 have F0:∀(x0:Pa) (e0:x0.kt=k0),DX (C0 w.2).set1 3 (.str ad k0) [rA x0.wa] ⟨bU (ah w.2) q0'⟩ (aT 0 q0') (ae (C0 w.2).set1 ad) .none/\(aK (aT 0 q0') (ae (C0 w.2).set1 ad) (.str ad k0) (rA x0.wa) ⟨bU (ah w.2) q0'⟩)=⟨bU (ah w.2) (setP 0 x0 q0')⟩/\(setP 0 x0 q0').length<=3/\1<=(setP 0 x0 q0').length:=λ x0 e0=>by
  have z:=dH w.2 0 q0' (Nat.zero_le _) hq (by decide) x0 k0 e0
  exact⟨z.1,z.2.1,z.2.2.2⟩
 have hz:=ip.sat w G q λ b t=>⟨(F0 ⟨_,0,k0,0,λ _=>0,λ _=>0,0,0⟩ rfl).1,λ _ _=>trivial⟩
 let X:Gh->List Pa:=λ g=>[⟨g.n 2,0,k0,0,tk [g.n 3,g.n 4,u2],λ _=>0,0,m0⟩]
 subst hO
 exact bu hz (OI:=((ip.D w.2 q).i.drop 1).take 3) (BI:=(ip.D w.2 q).i.drop 4) (R0:=R0) (dF w.2 c d p r T) (hL.trans (c6 .a h)) (λ g=>((ip.D w.2 q).Z.out g).fin.drop 4) (λ g=>(X g).map λ x:Pa=>(x.wa+822,dE x)) (λ g=>{S with bp:=⟨bU (dM w.2) ((gJ 0 (X g) (r.map iz)).map iz)⟩,bpn:=be (aT 0 q0') (S2.bpn)}) (BF S d r [(0,m0)]) ⟨rfl,show 1<=60 by decide,rfl,rfl⟩ ((ac [7,8] _).append_right _) (λ g _=>by
  have f:=(F0 ((X g).getD 0 ⟨0,0,0,0,λ _=>0,λ _=>0,0,0⟩) rfl).2.1
  refine((ac [7,8] _).append_right _).trans (.of_eq ?_)
  have e:∀(x y:Nat) (B:Obj) (a1 a2:Array DictEntry) (m:Nat),a1=a2->∀Y:HL,((x,B)::(y,oD a1 m)::Y:HL)=(x,B)::(y,oD a2 m)::Y:=λ x y B a1 a2 m h Y=>by rw[h]
  refine e _ _ _ _ _ _ ?_ _
  rw[jz,kf]
  exact f.symm) (λ g _=>⟨rfl,rfl,rfl,L2 _⟩) ⟨λ _=>⟨rfl,rfl⟩,rfl⟩ λ g _=>by
  obtain⟨D,hi⟩:=ql (O:=aN (((ip.D w.2 q).i.drop 1).take 3)) h (X g) (F0 ((X g).getD 0 ⟨0,0,0,0,λ _=>0,λ _=>0,0,0⟩) rfl).2.2.1 (be (aT 0 q0') (S2.bpn)) rfl
  exact⟨d,_,D,⟨_,_,_,rfl,rfl,by rw[jB,jA _ _ (L3 rfl),jB];rfl⟩,hi⟩
theorem sy(m0 m1:Int)(q0:0<=m0/\m0<=2)(q1:0<=m1/\m1<=2){oa la ou at0 at1 at2 p0 p1 k0 k1 u1 u2 u3:Nat}{O:HL}(hO:O=(oa+822,tO [.str aL ou,rA at0,rA la])::(la+822,lO 2 [rA p0,rA p1])::(p0+822,tO [rA at1,.str ad k0])::(p1+822,tO [rA at2,.str av k1])::([]:HL))(h:aR w.2 S c d p r (O++T) k f1 f2)(hL:L.Perm (aP w.2 S))(hb:S.bbuf.cps.size=6)(j0 wa t:Nat):
  ai w G (nG w.2 S j0 wa oa 0 t 3 [.int 9 u1,.int m0 u2,.int m1 u3] L λ g=>qi w.2 c p k f1 f2 (O++T) (BF S d r [(0,m0),(m0,m1)]) g.l):=by
 obtain⟨b0,b1,b2,b3,b4,b5,eb⟩:=dC hb
 obtain⟨S1,rfl⟩:=St.e_bbuf eb
 have e:S1.bp=⟨bU (dM w.2) r⟩:=h.bp
 rw[jz] at e
 obtain⟨S2,rfl⟩:=St.e_bp e
 let q0':=r.map iz
 have hq:q0'.length<=3:=by show(r.map iz).length<=3;rw[kx];exact h.rl
 let S:St:=(S2.s_bp ⟨bU (ah w.2) (r.map iz)⟩).s_bbuf (s6 b0 b1 b2 b3 b4 b5)
 let R0:HL:=(aI (bj w.2 S) [7,8]).2++dF w.2 c d p r T
 let q:Pr:={pr S R0 with a:=tk [wa,oa,la,p0,p1,0,0,at0,at1,at2,0,0,0,0,0,0],u:=tk [t,u1,u2,u3,ou,k0,k1],j:=tk [j0],m:=j7 [m0,m1],r:=λ i=>aT i q0',c:=λ n=>([b0,b1,b2,b3,b4,b5]:List Nat).getD (n-20) 0}
 have F0:∀(x0:Pa) (e0:x0.kt=k0),DX (C0 w.2).set1 3 (.str ad k0) [rA x0.wa] ⟨bU (ah w.2) q0'⟩ (aT 0 q0') (ae (C0 w.2).set1 ad) .none/\(aK (aT 0 q0') (ae (C0 w.2).set1 ad) (.str ad k0) (rA x0.wa) ⟨bU (ah w.2) q0'⟩)=⟨bU (ah w.2) (setP 0 x0 q0')⟩/\(setP 0 x0 q0').length<=3/\1<=(setP 0 x0 q0').length:=λ x0 e0=>by
  have z:=dH w.2 0 q0' (Nat.zero_le _) hq (by decide) x0 k0 e0
  exact⟨z.1,z.2.1,z.2.2.2⟩
 have F1:∀(x0 x1:Pa) (e0:x0.kt=k0) (e1:x1.kt=k1),DX (C0 w.2).set1 3 (.str av k1) [rA x1.wa] (aK (aT 0 q0') (ae (C0 w.2).set1 ad) (.str ad k0) (rA x0.wa) ⟨bU (ah w.2) q0'⟩) (aT 1 q0') (ae (C0 w.2).set1 av) .none/\(aK (aT 1 q0') (ae (C0 w.2).set1 av) (.str av k1) (rA x1.wa) (aK (aT 0 q0') (ae (C0 w.2).set1 ad) (.str ad k0) (rA x0.wa) ⟨bU (ah w.2) q0'⟩))=⟨bU (ah w.2) (setP 1 x1 (setP 0 x0 q0'))⟩/\(setP 1 x1 (setP 0 x0 q0')).length<=3/\2<=(setP 1 x1 (setP 0 x0 q0')).length:=λ x0 x1 e0 e1=>by
  have y:=F0 x0 e0
  have z:=dH w.2 1 (setP 0 x0 q0') y.2.2.2 y.2.2.1 (by decide) x1 k1 e1
  rw[fh 0 1 x0 q0' (by decide) (Nat.zero_le _)] at z
  rw[y.2.1]
  exact⟨z.1,z.2.1,z.2.2.2⟩
 have hz:=iq.sat w G q (λ _ _=>True) λ b t=>⟨(F0 ⟨_,0,k0,0,λ _=>0,λ _=>0,0,0⟩ rfl).1,⟨wr m0 q0 28 _ u2 _ _ (λ _=>trivial),λ g0 _=>⟨(F1 ⟨_,0,k0,0,λ _=>0,λ _=>0,0,0⟩ ⟨_,0,k1,0,λ _=>0,λ _=>0,0,0⟩ rfl rfl).1,λ _ _=>trivial⟩⟩⟩
 let X:Gh->List Pa:=λ g=>[⟨g.n 2,0,k0,0,tk [g.n 4,g.n 5,u2],λ _=>0,0,m0⟩,⟨g.n 3,0,k1,0,tk [g.n 6,g.n 7,u3],λ _=>0,m0,m1⟩]
 subst hO
 exact bu hz (OI:=((iq.D w.2 q dh).i.drop 1).take 4) (BI:=(iq.D w.2 q dh).i.drop 5) (R0:=R0) (dF w.2 c d p r T) (hL.trans (c6 .a h)) (λ g=>((iq.D w.2 q (λ _ _=>True)).Z.out g).fin.drop 5) (λ g=>(X g).map λ x:Pa=>(x.wa+822,dE x)) (λ g=>{S with bp:=⟨bU (dM w.2) ((gJ 0 (X g) (r.map iz)).map iz)⟩,bpn:=be (aT 1 q0') (be (aT 0 q0') (S2.bpn))}) (BF S d r [(0,m0),(m0,m1)]) ⟨rfl,show 14<=60 by decide,rfl,rfl⟩ ((ac [7,8] _).append_right _) (λ g _=>by
  have f:=(F1 ((X g).getD 0 ⟨0,0,0,0,λ _=>0,λ _=>0,0,0⟩) ((X g).getD 1 ⟨0,0,0,0,λ _=>0,λ _=>0,0,0⟩) rfl rfl).2.1
  refine((ac [7,8] _).append_right _).trans (.of_eq ?_)
  have e:∀(x y:Nat) (B:Obj) (a1 a2:Array DictEntry) (m:Nat),a1=a2->∀Y:HL,((x,B)::(y,oD a1 m)::Y:HL)=(x,B)::(y,oD a2 m)::Y:=λ x y B a1 a2 m h Y=>by rw[h]
  refine e _ _ _ _ _ _ ?_ _
  rw[jz,kf]
  exact f.symm) (λ g _=>⟨rfl,rfl,rfl,L2 _⟩) ⟨λ _=>⟨rfl,rfl⟩,rfl⟩ λ g _=>by
  obtain⟨D,hi⟩:=ql (O:=aN (((iq.D w.2 q dh).i.drop 1).take 4)) h (X g) (F1 ((X g).getD 0 ⟨0,0,0,0,λ _=>0,λ _=>0,0,0⟩) ((X g).getD 1 ⟨0,0,0,0,λ _=>0,λ _=>0,0,0⟩) rfl rfl).2.2.1 (be (aT 1 q0') (be (aT 0 q0') (S2.bpn))) rfl
  exact⟨d,_,D,⟨_,_,_,rfl,rfl,by rw[jB,jA _ _ (L3 rfl),jB];rfl⟩,hi⟩
theorem sB(m0 m1 m2:Int)(q0:0<=m0/\m0<=2)(q1:0<=m1/\m1<=2)(q2:0<=m2/\m2<=2){oa la ou at0 at1 at2 at3 p0 p1 p2 k0 k1 k2 u1 u2 u3 u4:Nat}{O:HL}(hO:O=(oa+822,tO [.str aL ou,rA at0,rA la])::(la+822,lO 3 [rA p0,rA p1,rA p2])::(p0+822,tO [rA at1,.str ad k0])::(p1+822,tO [rA at2,.str av k1])::(p2+822,tO [rA at3,.str bb k2])::([]:HL))(h:aR w.2 S c d p r (O++T) k f1 f2)(hL:L.Perm (aP w.2 S))(hb:S.bbuf.cps.size=6)(j0 wa t:Nat):
  ai w G (nG w.2 S j0 wa oa 0 t 4 [.int 9 u1,.int m0 u2,.int m1 u3,.int m2 u4] L λ g=>qi w.2 c p k f1 f2 (O++T) (BF S d r [(0,m0),(m0,m1),(m0+m1,m2)]) g.l):=by
 obtain⟨b0,b1,b2,b3,b4,b5,eb⟩:=dC hb
 obtain⟨S1,rfl⟩:=St.e_bbuf eb
 have e:S1.bp=⟨bU (dM w.2) r⟩:=h.bp
 rw[jz] at e
 obtain⟨S2,rfl⟩:=St.e_bp e
 let q0':=r.map iz
 have hq:q0'.length<=3:=by show(r.map iz).length<=3;rw[kx];exact h.rl
 let S:St:=(S2.s_bp ⟨bU (ah w.2) (r.map iz)⟩).s_bbuf (s6 b0 b1 b2 b3 b4 b5)
 let R0:HL:=(aI (bj w.2 S) [7,8]).2++dF w.2 c d p r T
 let q:Pr:={pr S R0 with a:=tk [wa,oa,la,p0,p1,p2,0,0,at0,at1,at2,at3,0,0,0,0],u:=tk [t,u1,u2,u3,u4,ou,k0,k1,k2],j:=tk [j0],m:=j7 [m0,m1,m2],r:=λ i=>aT i q0',c:=λ n=>([b0,b1,b2,b3,b4,b5]:List Nat).getD (n-20) 0}
 have F0:∀(x0:Pa) (e0:x0.kt=k0),DX (C0 w.2).set1 3 (.str ad k0) [rA x0.wa] ⟨bU (ah w.2) q0'⟩ (aT 0 q0') (ae (C0 w.2).set1 ad) .none/\(aK (aT 0 q0') (ae (C0 w.2).set1 ad) (.str ad k0) (rA x0.wa) ⟨bU (ah w.2) q0'⟩)=⟨bU (ah w.2) (setP 0 x0 q0')⟩/\(setP 0 x0 q0').length<=3/\1<=(setP 0 x0 q0').length:=λ x0 e0=>by
  have z:=dH w.2 0 q0' (Nat.zero_le _) hq (by decide) x0 k0 e0
  exact⟨z.1,z.2.1,z.2.2.2⟩
 have F1:∀(x0 x1:Pa) (e0:x0.kt=k0) (e1:x1.kt=k1),DX (C0 w.2).set1 3 (.str av k1) [rA x1.wa] (aK (aT 0 q0') (ae (C0 w.2).set1 ad) (.str ad k0) (rA x0.wa) ⟨bU (ah w.2) q0'⟩) (aT 1 q0') (ae (C0 w.2).set1 av) .none/\(aK (aT 1 q0') (ae (C0 w.2).set1 av) (.str av k1) (rA x1.wa) (aK (aT 0 q0') (ae (C0 w.2).set1 ad) (.str ad k0) (rA x0.wa) ⟨bU (ah w.2) q0'⟩))=⟨bU (ah w.2) (setP 1 x1 (setP 0 x0 q0'))⟩/\(setP 1 x1 (setP 0 x0 q0')).length<=3/\2<=(setP 1 x1 (setP 0 x0 q0')).length:=λ x0 x1 e0 e1=>by
  have y:=F0 x0 e0
  have z:=dH w.2 1 (setP 0 x0 q0') y.2.2.2 y.2.2.1 (by decide) x1 k1 e1
  rw[fh 0 1 x0 q0' (by decide) (Nat.zero_le _)] at z
  rw[y.2.1]
  exact⟨z.1,z.2.1,z.2.2.2⟩
 have F2:∀(x0 x1 x2:Pa) (e0:x0.kt=k0) (e1:x1.kt=k1) (e2:x2.kt=k2),DX (C0 w.2).set1 3 (.str bb k2) [rA x2.wa] (aK (aT 1 q0') (ae (C0 w.2).set1 av) (.str av k1) (rA x1.wa) (aK (aT 0 q0') (ae (C0 w.2).set1 ad) (.str ad k0) (rA x0.wa) ⟨bU (ah w.2) q0'⟩)) (aT 2 q0') (ae (C0 w.2).set1 bb) .none/\(aK (aT 2 q0') (ae (C0 w.2).set1 bb) (.str bb k2) (rA x2.wa) (aK (aT 1 q0') (ae (C0 w.2).set1 av) (.str av k1) (rA x1.wa) (aK (aT 0 q0') (ae (C0 w.2).set1 ad) (.str ad k0) (rA x0.wa) ⟨bU (ah w.2) q0'⟩)))=⟨bU (ah w.2) (setP 2 x2 (setP 1 x1 (setP 0 x0 q0')))⟩/\(setP 2 x2 (setP 1 x1 (setP 0 x0 q0'))).length<=3/\3<=(setP 2 x2 (setP 1 x1 (setP 0 x0 q0'))).length:=λ x0 x1 x2 e0 e1 e2=>by
  have y:=F1 x0 x1 e0 e1
  have z:=dH w.2 2 (setP 1 x1 (setP 0 x0 q0')) y.2.2.2 y.2.2.1 (by decide) x2 k2 e2
  rw[fh 1 2 x1 (setP 0 x0 q0') (by decide) (F0 x0 e0).2.2.2,fh 0 2 x0 q0' (by decide) (Nat.zero_le _)] at z
  rw[y.2.1]
  exact⟨z.1,z.2.1,z.2.2.2⟩
 have hz:=ir.sat w G q (λ _ _=>True) λ b t=>⟨(F0 ⟨_,0,k0,0,λ _=>0,λ _=>0,0,0⟩ rfl).1,⟨wr m0 q0 29 _ u2 _ _ (λ _=>trivial),λ g0 _=>⟨(F1 ⟨_,0,k0,0,λ _=>0,λ _=>0,0,0⟩ ⟨_,0,k1,0,λ _=>0,λ _=>0,0,0⟩ rfl rfl).1,⟨zW m0 m1 q0 q1 36 _ u2 u3 _ _ (λ _=>trivial),λ g1 _=>⟨(F2 ⟨_,0,k0,0,λ _=>0,λ _=>0,0,0⟩ ⟨_,0,k1,0,λ _=>0,λ _=>0,0,0⟩ ⟨_,0,k2,0,λ _=>0,λ _=>0,0,0⟩ rfl rfl rfl).1,λ _ _=>trivial⟩⟩⟩⟩⟩
 let X:Gh->List Pa:=λ g=>[⟨g.n 2,0,k0,0,tk [g.n 5,g.n 6,u2],λ _=>0,0,m0⟩,⟨g.n 3,0,k1,0,tk [g.n 7,g.n 8,u3],λ _=>0,m0,m1⟩,⟨g.n 4,0,k2,0,tk [g.n 9,g.n 10,u4],λ _=>0,m0+m1,m2⟩]
 subst hO
 exact bu hz (OI:=((ir.D w.2 q dh).i.drop 1).take 5) (BI:=(ir.D w.2 q dh).i.drop 6) (R0:=R0) (dF w.2 c d p r T) (hL.trans (c6 .a h)) (λ g=>((ir.D w.2 q (λ _ _=>True)).Z.out g).fin.drop 6) (λ g=>(X g).map λ x:Pa=>(x.wa+822,dE x)) (λ g=>{S with bp:=⟨bU (dM w.2) ((gJ 0 (X g) (r.map iz)).map iz)⟩,bpn:=be (aT 2 q0') (be (aT 1 q0') (be (aT 0 q0') (S2.bpn)))}) (BF S d r [(0,m0),(m0,m1),(m0+m1,m2)]) ⟨rfl,show 14<=60 by decide,rfl,rfl⟩ ((ac [7,8] _).append_right _) (λ g _=>by
  have f:=(F2 ((X g).getD 0 ⟨0,0,0,0,λ _=>0,λ _=>0,0,0⟩) ((X g).getD 1 ⟨0,0,0,0,λ _=>0,λ _=>0,0,0⟩) ((X g).getD 2 ⟨0,0,0,0,λ _=>0,λ _=>0,0,0⟩) rfl rfl rfl).2.1
  refine((ac [7,8] _).append_right _).trans (.of_eq ?_)
  have e:∀(x y:Nat) (B:Obj) (a1 a2:Array DictEntry) (m:Nat),a1=a2->∀Y:HL,((x,B)::(y,oD a1 m)::Y:HL)=(x,B)::(y,oD a2 m)::Y:=λ x y B a1 a2 m h Y=>by rw[h]
  refine e _ _ _ _ _ _ ?_ _
  rw[jz,kf]
  exact f.symm) (λ g _=>⟨rfl,rfl,rfl,L2 _⟩) ⟨λ _=>⟨rfl,rfl⟩,rfl⟩ λ g _=>by
  obtain⟨D,hi⟩:=ql (O:=aN (((ir.D w.2 q dh).i.drop 1).take 5)) h (X g) (F2 ((X g).getD 0 ⟨0,0,0,0,λ _=>0,λ _=>0,0,0⟩) ((X g).getD 1 ⟨0,0,0,0,λ _=>0,λ _=>0,0,0⟩) ((X g).getD 2 ⟨0,0,0,0,λ _=>0,λ _=>0,0,0⟩) rfl rfl rfl).2.2.1 (be (aT 2 q0') (be (aT 1 q0') (be (aT 0 q0') (S2.bpn)))) rfl
  exact⟨d,_,D,⟨_,_,_,rfl,rfl,by rw[jB,jA _ _ (L3 rfl),jB];rfl⟩,hi⟩
end
def bV(a u:Nat->Nat)(d:List Ch):List Value:=.int 9 (u 67)::rA (a 21)::d.flatMap λ x=>[.int x.k x.bkt,rA x.ba]
theorem wu:∀d:List Ch,tE (d.flatMap λ x=>[.int x.k x.bkt,rA x.ba])=d.map cC
 |[]=>rfl
 |x::d=>congrArg (cC x:: ·) (wu d)
theorem yP(a u:Nat->Nat)(d:List Ch):tE (bV a u d)=jO a u::d.map cC:=congrArg (jO a u:: ·) (wu d)
theorem zX{P:Params}(a u:Nat->Nat){d:List Ch}{m:Int}(h9:m≠9)(nd:(d.map (·.k)).Nodup)(dl:d.length<=5)(t:Nat):
  ∃pl,∃y:OV,DX (C0 P).set1 4 (.int m t) [.none] ⟨jO a u::d.map cC⟩ pl (hashInt m) y.v/\lV pl ⟨jO a u::d.map cC⟩=⟨jO a u::(i0 m d).map cC⟩:=by
 have sz:(⟨jO a u::d.map cC⟩:Array DictEntry).size<=1000:=by show(_::d.map cC).length<=1000;rw[L6,kx];omega
 by_cases hm:∃(i:Nat) (x:Ch),d[i]? =some x/\x.k=m
 ·obtain⟨i,x,hi,rfl⟩:=hm
  have il:=(List.getElem?_eq_some_iff.mp hi).1
  have g:(jO a u::d.map cC)[i+1]? =some (cC x):=by rw[List.getElem?_cons_succ,qz,hi];rfl
  refine⟨some (i+1),.r x.ba,wU sz (wk a u h9 hi nd) (by rw[dv g];rfl),?_⟩
  show Array.eraseIdxIfInBounds _ (i+1)=_
  apply Array.ext'
  rw[Array.eraseIdxIfInBounds,dif_pos (by show i+1<(_::d.map cC).length;rw[L6,kx];omega),Array.toList_eraseIdx]
  show(jO a u::d.map cC).eraseIdx (i+1)=jO a u::(i0 x.k d).map cC
  rw[List.eraseIdx_cons_succ,f0,pY hi nd]
 ·have hm:∀x∈d,x.k≠m:=λ x hx e=>by
   obtain⟨i,hi⟩:=List.getElem?_of_mem hx
   exact hm ⟨i,x,hi,e⟩
  refine⟨none,.n,wU sz (lp a u h9 hm) rfl,?_⟩
  show _=_
  rw[le hm]
  rfl
theorem zY{m:Int}{d:List Ch}(nd:(d.map (·.k)).Nodup):((i0 m d).map (·.k)).Nodup:=(List.Sublist.map _ List.filter_sublist).nodup nd
theorem xL{m:Int}{d:List Ch}(h:d.length<=5):(i0 m d).length<=5:=ky (List.length_filter_le ..) h
noncomputable def mV(ms:List (Int×Nat)):List Value:=ms.map λ m=>.int m.1 m.2
def sM(ms:List (Int×Nat))(d:List Ch):List Ch:=ms.foldl (λ d m=>i0 m.1 d) d
def zZ(x:T2):List (Int×Nat)->T2
 |[]=>x
 |_=>.b
section
variable {w:World}{G:Shared}
def Ew(q:Pr)(x:T2)(u7:Nat)(m:Int)(t:Nat)(sl:Array (Option Value))(bo:Array DictEntry)(n:Nat):Pr:={q with S:={q.S with bo:=bo,bon:=n},u:=λ i=>match i with |7=>u7 |i=>q.u i,v:=λ _=>.int m t,en:=λ i=>match i with |4=>x.p 6 (q.en 4) |i=>q.en i,j:=λ i=>match i with |9=>q.j 9+1 |i=>i,sl:=λ _=>sl}
theorem rj:∀(ms:List (Int×Nat)) (q:Pr) (x:T2) (d:List Ch),q.S.bo=⟨jO q.S.a q.S.u::d.map cC⟩->(q.l 1).drop (q.j 9)=mV ms->(∀m∈ms,m.1≠9)->(d.map (·.k)).Nodup->d.length<=5->
  ai w G ⟨cg (aq (Bf (aq (fB (aq bY 116)) 1)) 0) (rA (q.a 1)) (ci (ig w.2) 809 (q.a 0+822)),50,(wS.D w.2 q x .n dh).i,q.L,λ g=>g.l=q.L/\g.vl 0=bV q.S.a q.S.u (sM ms d),λ g=>⟨.ok .next,bg (wS.D w.2 q x .n dh).i [(0,Bg w.2 q (zZ x ms) (g.sl (q.a 0+822)) g),(1,eT (g.n 4)),(4,oD ⟨tE (g.vl 0)⟩ (g.n 5))],[],g.l⟩⟩
 |[],q,x,d,hb,hd,_,_,_=>by
  have hx:(q.l 1).length<=q.j 9:=List.drop_eq_nil_iff.mp hd
  have hz:=yf.sat w G {q with l:=λ i=>match i with |2=>bV q.S.a q.S.u d |i=>q.l i,en:=λ i=>match i with |4=>x.p 5 (q.en 4) |i=>q.en i} x (λ n' gs=>match gs with |[g]=>g.l=q.L/\g.vl 0=bV q.S.a q.S.u d |_=>True) λ b t=>⟨iV hx,λ _ _ sl _=>⟨rfl,rfl⟩⟩
  refine ai.as hz rfl (show 2<=50 by decide) ?_ (L2 _) λ g hg=>⟨g,hg,rfl,rfl,rfl,rfl,?_,rfl,L2 _⟩
  ·show _=_
   unfold RD.Z yf.D wS.D
   simp only[yP,hb]
  ·cases x<;>rfl
 |(m,t)::ms,q,x,d,hb,hd,h9,nd,dl=>by
  obtain⟨x1,x2⟩:=f5 hd
  obtain⟨pl,y,hp,he⟩:=zX (P:=w.2) q.S.a q.S.u (h9 _ (L5 ..)) nd dl t
  rw[<-hb] at hp he
  let q1:Pr:={q with m:=λ i=>match i with |0=>m |i=>q.m i,c:=λ _=>t,r:=λ _=>pl}
  have hz:=wS.sat w G q1 x y (λ n' gs=>match n',gs with |2,[_,g]=>g.l=q.L/\g.vl 0=bV q.S.a q.S.u (sM ms (i0 m d)) |99,[g]=>g.l=q.L/\g.vl 0=bV q.S.a q.S.u (sM ms (i0 m d)) |_,_=>True) λ b u=>⟨bl x1,λ g0 _=>⟨hp,?_⟩⟩
  ·exact ai.im hz (Nat.le_refl _) (L2 _) λ g hg=>hg
  ·have ih:=rj ms (Ew q1 x (x.p (g0.n 1+0) (q.u 7)) m t (g0.sl (q.a 0+822)) (lV pl q.S.bo) (nJ pl q.S.bon)) .b (i0 m d) he x2 (λ z hz=>h9 z (L7 _ hz)) (zY nd) (xL dl)
   refine⟨?_,λ g1 a1 sl _=>a1⟩
   cases ms<;>cases x<;>exact ih
end
theorem rk:∀(ms:List (Int×Nat)) (d:List Ch),(sM ms d).Sublist d
 |[],d=>List.Sublist.refl d
 |m::ms,d=>(rk ms (i0 m.1 d)).trans List.filter_sublist
theorem oF:∀(ms:List (Int×Nat)) (d:List Ch),∃Y,(jW d).Perm (Y++jW (sM ms d))
 |[],d=>⟨[],L2 _⟩
 |m::ms,d=>by
  obtain⟨Y,hY⟩:=oF ms (i0 m.1 d)
  refine⟨jW (d.filter λ x=> !(!decide (x.k=m.1)))++Y,?_⟩
  have p:=(List.filter_append_perm (λ x:Ch=> !decide (x.k=m.1)) d).symm.map (λ x:Ch=>(x.ba+822,sI x))
  rw[nD] at p
  refine(p:(jW d).Perm (jW (i0 m.1 d)++_)).trans ?_
  refine pn.trans ?_
  rw[L9]
  exact dQ _ hY
theorem rm:∀(ms:List (Int×Nat)) (d:List Ch),sM ms d=(ms.map (·.1)).foldl (λ d m=>i0 m d) d
 |[],d=>rfl
 |m::ms,d=>rm ms (i0 m.1 d)
theorem z6:∀(ms:List (Int×Nat)) (n:Nat),ms.length<=3->n<=ms.length->bJ n (mV ms)=mV (ms.take n)
 |[],0,_,_=>rfl
 |[_],0,_,_=>rfl
 |[_],1,_,_=>rfl
 |[_,_],0,_,_=>rfl
 |[_,_],1,_,_=>rfl
 |[_,_],2,_,_=>rfl
 |[_,_,_],0,_,_=>rfl
 |[_,_,_],1,_,_=>rfl
 |[_,_,_],2,_,_=>rfl
 |[_,_,_],3,_,_=>rfl
 |_::_::_::_::_,_,h,_=>by simp at h
 |[],n+1,_,h=>by simp at h
 |[_],n+2,_,h=>by simp at h
 |[_,_],n+3,_,h=>by simp at h
 |[_,_,_],n+4,_,h=>by simp at h
section
variable {w:World}{G:Shared}{S:St}{c d:List Ch}{p r:List Pa}{T:HL}{k:Nat}{f1 f2:Str}{L:HL}
theorem wx{oa ou a4:Nat}{O:HL}(h:aR w.2 S c d p r (((oa+822,tO [.str aC ou,rA a4])::O)++T) k f1 f2)(hL:L.Perm (aP w.2 S)){ms:List (Int×Nat)}{n:Nat}(hl:ms.length<=3)(h0:1<=ms.length)(hn:n<=ms.length)(h9:∀m∈ms,m.1≠9)(num j0 wa t:Nat):
  ai w G (nG w.2 S j0 wa oa num t n (mV ms) L λ g=>qi w.2 c p k f1 f2 (((oa+822,tO [.str aC ou,rA a4])::O)++T) (BC S d r ((ms.take n).map (·.1))) g.l):=by
 let S:St:=S
 obtain⟨S1,rfl⟩:=St.f_bo (f:=λ a u=>⟨jO a u::d.map cC⟩) h.bo
 let S:St:=S1.s_bo ⟨jO S1.a S1.u::d.map cC⟩
 let R0:HL:=(aI (bj w.2 S) [7,7]).2++dF w.2 c d p r (O++T)
 let q:Pr:={pr S R0 with a:=tk [wa,oa,0,0,a4],u:=tk [t,ou],j:=λ i=>match i with |0=>j0 |i=>i,m:=λ _=>(n:Int),l:=λ _=>mV ms,en:=λ _=>num}
 have lm:(mV ms).length=ms.length:=kx ..
 have e1:bJ (q.m 1) (q.l 1)=mV (ms.take n):=z6 ms n hl hn
 have main:∀x:T3,x.p .a .b .b=zZ .a (ms.take n)->decide ((n:Int)<Int.ofNat (mV ms).length)=x.p true true false->ai w G (nG w.2 S j0 wa oa num t n (mV ms) L λ g=>qi w.2 c p k f1 f2 (((oa+822,tO [.str aC ou,rA a4])::O)++T) (BC S d r ((ms.take n).map (·.1))) g.l):=by
  intro x hx hlt
  let A:AA:=λ n' gs=>match n',gs with |1,[_,g]=>g.l=R0/\g.vl 0=bV S1.a S1.u (sM (ms.take n) d) |99,[g]=>g.l=R0/\g.vl 0=bV S1.a S1.u (sM (ms.take n) d) |_,_=>True
  have hz:=dc.sat w G q x A λ b t0=>by
   refine⟨iW (show(mV ms).length<=1000 by omega),λ g0 _=>⟨?_,λ g1 a1=>⟨k5 (show Int.ofNat (mV ms).length<2 ^ 63 by rw[lm];simp;omega),λ g2 _=>⟨eV hlt,λ sl _=>a1⟩⟩⟩⟩
   have z:=rj (w:=w) (G:=G) (ms.take n) ⟨S,tk [b+0,g0.n 0+0,g0.n 2,0,0,0,0,0,0,0,oa,wa],tk [t0+0,t0+1,t0+2,t0+3,t,t0+5,ou],λ i=>match i with |0=>4 |1=>7 |2=>6 |3=>2 |4=>3 |_=>0,q.c,q.m,q.s,q.o,q.v,λ _=>mV (ms.take n),q.e,λ _=>0,q.h,q.p,q.r,λ _=>g0.sl ((b+0)+822),R0⟩ .a d rfl rfl (λ m hm=>h9 m (Ca hm)) h.dn h.dl
   rw[<-hx] at z
   show ai w G (aj _ _ _ _ _ _ _)
   dsimp only[ap,DH,List.length] at e1 ⊢
   rw[e1]
   exact z
  obtain⟨Y,hY⟩:=oF (ms.take n) d
  have mG:=rk (ms.take n) d
  have tp:∀o:Nat×Obj,([o]++dF w.2 c d p r (O++T)).Perm (dF w.2 c (sM (ms.take n) d) p r (Y++((o::O)++T))):=λ o=>by
   refine List.Perm.trans ?_ (aU w.2 c (sM (ms.take n) d) p r Y ((o::O)++T)).symm
   refine List.Perm.trans ?_ ((aU w.2 c (sM (ms.take n) d) p r [o] (O++T)).symm.append_left Y)
   refine List.Perm.trans ?_ (ao [o] Y _)
   refine dQ [o] ?_
   unfold dF
   refine List.Perm.trans (dQ _ (hY.append_right _)) ?_
   rw[L9]
   exact ao _ _ _
  exact bu hz (OI:=[(1,oa+822,_)]) (BI:=(dc.D w.2 q x dh).i.drop 2) (R0:=R0) _ (hL.trans (c6 (A:=[_]) .a h)) (λ g=>((dc.D w.2 q x (λ _ _=>True)).Z.out g).fin.drop 2) (λ g=>[]) (λ g=>{S with bo:=⟨tE (g.vl 0)⟩,bon:=g.n 2}) (BC S d r ((ms.take n).map (·.1))) ⟨rfl,show 51<=60 by decide,rfl,rfl⟩ ((ac [7,7] _).append_right _) (λ g _=>(ac [7,7] _).append_right _) (λ g a=>⟨rfl,rfl,rfl,.of_eq a.1⟩) ⟨λ _=>⟨rfl,rfl⟩,rfl⟩ λ g a=>⟨sM (ms.take n) d,r,Y,⟨_,_,_,rfl,rm _ _,rfl⟩,⟨h.op,(congrArg (λ l=>(⟨tE l⟩:Array DictEntry)) a.2).trans (congrArg Array.mk (yP S1.a S1.u _)),h.fi,h.fin,h.bp,tp _,h.pl,h.rl,h.cl,ky mG.length_le h.dl,h.ck,h.cn,λ x hx=>h.dk x (mG.subset hx),(mG.map _).nodup h.dn,h.nm,h.fl⟩⟩
 have e:Int.ofNat (mV ms).length=(ms.length:Int):=by rw[lm];rfl
 rw[e] at main
 by_cases h1:n=0
 ·exact main .a (by rw[h1];rfl) (jD (by omega))
 ·have ex:zZ .a (ms.take n)= .b:=by
   match ms,n,h0,h1 with
   |m::ms,n+1,_,_=>rfl
   |_,0,_,h=>exact absurd rfl h
  by_cases h2:n<ms.length
  ·exact main .b ex.symm (jD (by omega))
  ·exact main .c ex.symm (lL (by omega))
end
noncomputable abbrev It:=Ch×Int
def z7(P:Params)(y:It):Obj:=dO 6 [kS P jn (y.1.u 0) (.str y.1.md (y.1.u 6)),kS P jo (y.1.u 1) (.str y.1.nm (y.1.u 7)),kS P rX (y.1.u 2) (.int 0 (y.1.u 8)),kS P jp (y.1.u 3) (.int y.1.sz (y.1.u 9)),kS P eM (y.1.u 4) (.str y.1.bf (y.1.u 10)),kS P fA (y.1.u 5) (.int y.2 (y.1.u 11))]
def pg(P:Params)(l:List It):HL:=l.map λ y=>(y.1.wa+822,z7 P y)
noncomputable abbrev Tu:=Ch×Nat
def Cm(l:List Tu):List Value:=l.flatMap λ y=>[.int y.1.k y.1.kt,rA y.2]
def wy(l:List Tu):HL:=l.map λ y=>(y.2+822,tO [.str y.1.nm (y.1.u 7),.str y.1.md (y.1.u 6),.int y.1.sz (y.1.u 9)])
noncomputable def Ax(y:Tu):Ch:={y.1 with wa:=y.2}
theorem lr:∀l:List Tu,tE (Cm l)=(l.map Ax).map am
 |[]=>rfl
 |y::l=>congrArg (am (Ax y):: ·) (lr l)
theorem Bz(l:List Tu):(l.map Ax).map (·.k)=(l.map (·.1)).map (·.k):=by rw[pd,pd];rfl
inductive Dh(L:HL)(dn:List Tu)(its:List It)(gvl0_:List Value)(gl_:HL):Prop
 |mk (ts:List Tu) (x1:ts.map (·.1)=its.map (·.1)) (x2:gl_.Perm (wy ts++L)) (x3:gvl0_=Cm (dn++ts))
noncomputable def yQ(L:HL)(dn:List Tu)(its:List It)(g:Gh):Prop:=Dh L dn its (g.vl 0) (g.l)
def Cn(P:Params)(q:Pr)(x:T2):List (Nat×Nat×Obj):=(ph.D P q x dh).i.take 6
def Ex(P:Params)(q:Pr)(x:T2)(g:Gh):SB:=⟨.ok .next,bg (Cn P q x) [(0,Au P q (g.sl (q.a 0+822)) g),(1,yC q.S.op.size q.S.opn (g.n 5)),(5,oD ⟨tE (g.vl 0)⟩ (g.n 6))],[],g.l⟩
theorem qm(c:List Ch):∀e∈c.map am,∃i t,e.key= .int i t/\e.hash=hashInt i:=by
 intro e he
 obtain⟨x,_,rfl⟩:=bZ.mp he
 exact⟨x.k,_,rfl,rfl⟩
def oU(x:T2)(q:Pr)(y:Ch):Nat->Nat:=x.p (λ i=>match i with |3=>y.u 0 |4=>y.u 6 |5=>y.u 1 |6=>y.u 7 |7=>y.u 2 |9=>y.u 3 |10=>y.u 9 |11=>y.u 4 |13=>y.u 5 |i=>q.u i)
 λ i=>match i with |7=>y.u 0 |8=>y.u 6 |9=>y.u 1 |10=>y.u 7 |11=>y.u 2 |13=>y.u 3 |14=>y.u 9 |15=>y.u 4 |17=>y.u 5 |i=>q.u i
def Ay(q:Pr)(x:T2)(y:It)(L:HL):Pr:={q with L:=L,a:=λ i=>match i with |12=>y.1.wa |i=>q.a i,m:=λ i=>match i with |0=>y.1.sz |_=>y.1.k,c:=λ _=>y.1.kt,s:=λ i=>match i with |0=>y.1.md |_=>y.1.nm,v:=λ i=>match i with |1=>.int 0 (y.1.u 8) |2=>.str y.1.bf (y.1.u 10) |3=>.int y.2 (y.1.u 11) |i=>q.v i,u:=oU x q y.1}
def DY(q:Pr)(x:T2)(y:It)(u3 u5 t:Nat)(sl:Array (Option Value)):Pr:={q with u:=λ i=>match i with |3=>u3 |5=>u5 |i=>q.u i,v:=λ i=>match i with |4=>.int y.1.k y.1.kt |_=>rA y.1.wa,en:=λ i=>match i with |4=>x.p 5 (q.en 4) |3=>q.en 3+1 |i=>q.en i,e:=λ _=>(q.e 0).push ⟨hashInt y.1.k,.int y.1.k y.1.kt,rA t⟩,j:=λ i=>match i with |9=>q.j 9+1 |i=>i,sl:=λ _=>sl}
section
variable {w:World}{G:Shared}
theorem ro:∀(its:List It) (q:Pr) (x:T2) (dn:List Tu) (L R:HL),(its=[]->x= .b)->q.S.op=⟨(dn.map (·.1)++its.map (·.1)).map am⟩->q.j 9=dn.length->((dn.map (·.1)++its.map (·.1)).map (·.k)).Nodup->dn.length+its.length<=10->q.e 0=⟨tE (Cm dn)⟩->L.Perm (pg w.2 its++R)->
  ai w G ⟨cg (aq (fB (aq bY 117)) 1) (rA (q.a 1)) (ci (gu w.2) 816 (q.a 0+822)),50,Cn w.2 q x,L,yQ L dn its,Ex w.2 q x⟩
 |[],q,x,dn,L,R,hx,ho,hj,nd,hl,he,hL=>by
  have hx:=hx rfl
  subst hx
  have sz:q.S.op.size=dn.length:=by rw[ho];show(List.map am _).length=_;simp
  have hz:=wY.sat w G {q with L:=L,l:=λ _=>Cm dn} (λ n' gs=>match gs with |[g]=>yQ L dn [] g |_=>True) λ b t=>⟨cu (show q.S.op.size<=q.j 9 by omega),λ _ _ sl _=>⟨[],rfl,L2 _,by rw[L4];rfl⟩⟩
  refine ai.as hz rfl (show 2<=50 by decide) ?_ (L2 _) λ g hg=>⟨g,hg,rfl,rfl,rfl,rfl,rfl,rfl,L2 _⟩
  show(ph.D w.2 q .b dh).i.take 6=(wY.D w.2 _ dh).i
  unfold wY.D ph.D
  simp only[he]
  rfl
 |y::its,q,x,dn,L,R,hx,ho,hj,nd,hl,he,hL=>by
  have hat:(dn.map (·.1)++(y::its).map (·.1))[dn.length]? =some y.1:=by
   rw[List.getElem?_append_right (by simp)];simp
  have sz:q.S.op.size<=1000:=by rw[ho];show(List.map am _).length<=1000;simp at hl ⊢;omega
  have ent:q.S.op[q.j 9]? =some (am y.1):=by
   rw[<-Array.getElem?_toList,ho,hj]
   show((dn.map (·.1)++(y::its).map (·.1)).map am)[dn.length]? =_
   rw[qz,hat];rfl
  have ne:∀z∈dn.map Ax,z.k≠y.1.k:=λ z hz e=>by
   obtain⟨t,ht,rfl⟩:=bZ.mp hz
   rw[nD] at nd
   exact(f8.mp nd).2.2 _ (bZ.mpr ⟨t.1,bZ.mpr ⟨t,ht,rfl⟩,rfl⟩) _ (bZ.mpr ⟨y.1,by simp,rfl⟩) e
  have d0:DX (C0 w.2).set1 0 (.int y.1.k y.1.kt) [] q.S.op (some (q.j 9)) (hashInt y.1.k) (rA y.1.wa):=by
   refine wU sz ⟨by rw[ho];exact qm _,?_⟩ (dv (e:=am y.1) ?_)
   ·rw[ho,hj]
    exact(fF _ 0 dn.length y.1 hat nd).trans (by rw[o9])
   ·rw[Array.getElem?_toList];exact ent
  have d3:∀t,DX (C0 w.2).set1 3 (.int y.1.k y.1.kt) [rA t] (q.e 0) none (hashInt y.1.k) .none:=λ t=>by
   refine wU ?_ ⟨by rw[he,lr];exact qm _,?_⟩ rfl
   ·rw[he,lr];show(List.map am _).length<=1000;simp;omega
   ·rw[he,lr];exact fg _ 0 ne
  have hz:=ph.sat w G (Ay q x y (pg w.2 its++R)) x (λ n' gs=>match n',gs with |3,[g0,g]=>yQ (pg w.2 its++R) (dn++[(y.1,g0.n 0)]) its g |99,[g]=>yQ (pg w.2 its++R) (dn++[(y.1,g.n 7)]) its g |_,_=>True) λ b t=>
   ⟨aQ ent,λ g0 _=>⟨d0,d3 _,?_,λ g1 a1 sl _=>a1⟩⟩
  ·refine ai.fold hz [(q.j 6,y.1.wa+822,z7 w.2 y)] 0 [] rfl (Nat.le_refl _) ?_ ?_ λ g hg=>?_
   ·cases x<;>rfl
   ·rw[L4];exact hL
   ·obtain⟨ts,t1,t2,t3⟩:=hg
    refine⟨by cases x<;>rfl,by cases x<;>rfl,{g with l:=wy ((y.1,g.n 7)::ts)++L},⟨(y.1,g.n 7)::ts,by rw[List.map_cons,t1];rfl,L2 _,t3.trans (by rw[L9];rfl)⟩,rfl,rfl,rfl,rfl,by cases x<;>rfl,by cases x<;>rfl,?_⟩
    have e:List.zip (aZ [(q.j 6,y.1.wa+822,z7 w.2 y)]) (((ph.D w.2 (Ay q x y (pg w.2 its++R)) x (λ _ _=>True)).Z.out g).fin.drop 6)=[(y.1.wa+822,z7 w.2 y)]:=by cases x<;>rfl
    have e2:((ph.D w.2 (Ay q x y (pg w.2 its++R)) x (λ _ _=>True)).Z.out g).new=wy [(y.1,g.n 7)]:=by cases x<;>rfl
    show(wy ((y.1,g.n 7)::ts)++L).Perm (List.zip _ (((ph.D w.2 (Ay q x y (pg w.2 its++R)) x (λ _ _=>True)).Z.out g).fin.drop 6)++(g.l++(((ph.D w.2 (Ay q x y (pg w.2 its++R)) x (λ _ _=>True)).Z.out g).new++[])))
    rw[e,e2,L4]
    refine List.Perm.trans ?_ ((t2.symm.append_right _).append_left _)
    refine(dQ _ hL).trans ?_
    show((_::wy ts)++(_::(pg w.2 its++R))).Perm (_::((wy ts++(pg w.2 its++R))++[_]))
    refine AF.trans (List.Perm.cons _ ?_)
    exact(pn (l₁:=[_]) (l₂:=wy ts++(pg w.2 its++R)))
  ·have ih:=ro its (DY q x y (x.p (g0.n 1+0) (q.u 3)) (x.p (g0.n 1+3) (q.u 5)) (g0.n 0+0) (g0.sl (q.a 0+822))) .b (dn++[(y.1,g0.n 0)]) (pg w.2 its++R) R (λ _=>rfl) (by show q.S.op=_;rw[ho];simp) (by show q.j 9+1=_;simp[hj]) (by simpa using nd) (by simp at hl ⊢;omega) (by
     show(q.e 0).push _=_
     rw[he,lr,lr,nD,nD]
     apply Array.ext'
     rw[Array.toList_push]
     rfl) (L2 _)
   cases x<;>exact ih
end
noncomputable def oG(x:Ch):Int×Str×Str×Int:=(x.k,x.nm,x.md,x.sz)
noncomputable def qn(x:Pa):Int×Int:=(x.at_,x.many)
structure kg(S:St)(c d:List Ch)(p r:List Pa)(a b:Str):Prop where
 ch:c.map oG=d.map oG
 pa:p.map qn=r.map qn
 bf:S.bbuf=S.buf
 e1:S.r1=a
 e2:S.r2=b
 n0:S.buf.cps.size=6
 n1:a.cps.size=6
 n2:b.cps.size=6
 md:∀x∈c,∃y:T3,x.md=y.p fJ fK ff
 hd:∀y,(p.map qn).head? =some y->y.1=0/\0<=y.2/\y.2<=2
section
variable {w:World}{G:Shared}
theorem yR{h:Heap}{a n:Nat}{l:List Ch}(ho:h.get? a=some (oD ⟨l.map am⟩ n))(nd:(l.map (·.k)).Nodup):h.DictOf (intKind qw w) a (l.map λ x=>(x.k,rA x.wa)):=by
 refine⟨_,_,_,ho,⟨rfl,rfl,rfl⟩,rfl,λ e he=>?_,?_,by rw[pd];exact nd⟩
 ·obtain⟨x,_,rfl⟩:=bZ.mp (Array.mem_def.mp he)
  exact⟨x.k,(cD x.k x.k x.kt).trans (jD rfl),rfl⟩
 ·have:∀l:List Ch,Pairs (intKind qw w) (l.map am) (l.map λ x=>(x.k,rA x.wa)):=λ l=>by
   induction l with
   |nil=>exact .nil
   |cons x l ih=>exact .cons ((cD x.k x.k x.kt).trans (jD rfl)) rfl ih
  exact this l
theorem wz{K:Type} [DecidableEq K]:∀(l:List (K×Value)) (i:Nat) (kv:K×Value),l[i]? =some kv->(l.map (·.1)).Nodup->valueAt l kv.1=some kv.2
 |[],_,_,h,_=>by simp at h
 |y::l,0,kv,h,_=>by
  have h:some y=some kv:=by simpa using h
  injection h with h
  subst h
  unfold valueAt
  rw[List.find?_cons_of_pos (by simp)]
  rfl
 |y::l,i+1,kv,h,nd=>by
  have h:l[i]? =some kv:=by simpa using h
  have nd:=po.mp nd
  have ne:y.1≠kv.1:=λ e=>nd.1 (bZ.mpr ⟨kv,sH h,e.symm⟩)
  have:=wz l i kv h nd.2
  unfold valueAt at this ⊢
  rw[List.find?_cons_of_neg (by simp[ne])]
  exact this
theorem wA{h:Heap}{a b:Nat}{x y:List Value}{ds:List PyData}(ha:h.get? a=some (tO x))(hb:h.get? b=some (tO y))(hx:ReadsAll h x ds [])(hy:ReadsAll h y ds [])(hs:SeqAt.shaped (.tuple ds)=true):eQ h (.ref a) (.ref b):=
 ⟨.tuple ds,[],[],.tuple ha rfl rfl hx,.tuple hb rfl rfl hy,hs⟩
theorem BA{k:Nat}(h:k<=9):PyData.strOk (ak k)=true:=by
 simp[PyData.strOk,ak]
 omega
theorem Ey{a b:Str}{m:Int}(h1:PyData.strOk a=true)(h2:PyData.strOk b=true):SeqAt.shaped (.tuple [.str a,.str b,.int m])=true:=by
 unfold SeqAt.shaped
 simp[PyData.canLay0,PyData.canLayAll0,PyData.depth,PyData.depthAll,h1,h2]
theorem ng(x:Nat):(x+822 == sysModules)=false:=by
 have:sysModules<822:=by decide
 refine nC.mpr λ e=>?_
 have e:x+822=sysModules:=e
 exact absurd (Nat.lt_of_le_of_lt (Nat.le_of_eq e) this:x+822<822) (by omega)
theorem z8{z:SI}{x y n n':Nat}(A B:List Ch)(hd:10<=z.d)(hc:z.code= .call (.builtin "dict.__ne__") ⟨[rA x,rA y],[]⟩)(ha:∀g,z.asm g)(ho:∀g,z.out g=⟨.ok (.ret (.bool false)),z.idx.map (·.2.2),[],z.L⟩)
  (hx:(x+822,oD ⟨A.map am⟩ n)∈aN z.idx++z.L)(hy:(y+822,oD ⟨B.map am⟩ n')∈aN z.idx++z.L)(hl:A.length=B.length)(nA:(A.map (·.k)).Nodup)(nB:(B.map (·.k)).Nodup)
  (H:∀h:Heap,(∀x∈aN z.idx++z.L,h.get? x.1=some x.2)->∀(i:Nat) a b,A[i]? =some a->B[i]? =some b->a.k=b.k/\eQ h (rA a.wa) (rA b.wa)):ai w G z:=
 qZ (intKind qw w) hd hc ha ho (ng x) (ng y) λ h hh=>by
  refine⟨_,_,yR (hh _ hx) nA,yR (hh _ hy) nB,by rw[kx,kx];exact hl,λ kv hkv=>?_⟩
  obtain⟨a,hm,rfl⟩:=bZ.mp hkv
  obtain⟨i,hi⟩:=List.getElem?_of_mem hm
  have il:=(List.getElem?_eq_some_iff.mp hi).1
  have hb:B[i]? =some (B[i]'(by omega)):=y8 (by omega)
  obtain⟨e,s⟩:=H h hh i _ _ hi hb
  refine⟨_,?_,s⟩
  have:=wz (B.map λ x=>(x.k,rA x.wa)) i _ (by rw[qz,hb];rfl) (by rw[pd];exact nB)
  show valueAt _ a.k=_
  rw[e]
  exact this
end
def Di(g:Pa->Value)(p:List Pa):List (Str×Value):=List.zipWith (λ s x=>(s,g x)) [ad,av,bb] p
section
variable {w:World}{G:Shared}
theorem oH{α:Type}(g:Str->α->Str×Value)(hg:∀s x,(g s x).1=s):∀(ks:List Str) (p:List α),((List.zipWith g ks p).map (·.1)).Sublist ks
 |[],_=>by simp
 |_::ks,[]=>by simp
 |k::ks,x::p=>by
  rw[List.zipWith_cons_cons,List.map_cons,hg]
  exact(oH g hg ks p).cons₂ k
theorem yS{h:Heap}{a n:Nat}{p:List Pa}{F:Str->Pa->DictEntry}{g:Pa->Value}(hF:∀s x,∃t,F s x=⟨ae (C0 w.2).set1 s,.str s t,g x⟩)(ho:h.get? a=some (oD ⟨bU F p⟩ n)):h.DictOf (strKind qw w) a (Di g p):=by
 have st:∀(s:Str) t,(strKind qw w).is s (.str s t)=true:=λ s t=>by
  show Value.isStrOf s (.str s t)=true
  simp[Value.isStrOf]
 have m:∀(ks:List Str) (p:List Pa),(∀e∈List.zipWith F ks p,∃k,(strKind qw w).is k e.key=true/\e.hash=(strKind qw w).hash k)/\Pairs (strKind qw w) (List.zipWith F ks p) (List.zipWith (λ s x=>(s,g x)) ks p):=λ ks=>by
  induction ks with
  |nil=>exact λ p=>⟨by simp,by simp;exact .nil⟩
  |cons k ks ih=>
   intro p
   cases p with
   |nil=>exact⟨by simp,by simp;exact .nil⟩
   |cons x p=>
    obtain⟨i1,i2⟩:=ih p
    obtain⟨t,e⟩:=hF k x
    rw[List.zipWith_cons_cons,List.zipWith_cons_cons,e]
    refine⟨λ e he=>?_,.cons (st k t) rfl i2⟩
    rcases lI.mp he with rfl |he
    ·exact⟨k,st k t,rfl⟩
    ·exact i1 e he
 exact⟨_,_,_,ho,⟨rfl,rfl,rfl⟩,rfl,λ e he=>(m _ _).1 e (Array.mem_def.mp he),(m _ _).2,(oH _ (λ _ _=>rfl) _ _).nodup (by decide)⟩
theorem Aa{z:SI}{x y n n':Nat}(p r:List Pa)(hd:10<=z.d)(hc:z.code= .call (.builtin "dict.__ne__") ⟨[rA x,rA y],[]⟩)(ha:∀g,z.asm g)(ho:∀g,z.out g=⟨.ok (.ret (.bool false)),z.idx.map (·.2.2),[],z.L⟩)
  (hx:(x+822,oD ⟨bU (ah w.2) p⟩ n)∈aN z.idx++z.L)(hy:(y+822,oD ⟨bU (dM w.2) r⟩ n')∈aN z.idx++z.L)(he:p.map qn=r.map qn)
  (H1:∀a∈p,(a.wa+822,dE a)∈aN z.idx++z.L)(H2:∀a∈r,(a.ba+822,xw a)∈aN z.idx++z.L):ai w G z:=
 qZ (strKind qw w) hd hc ha ho (ng x) (ng y) λ h hh=>by
  have hl:p.length=r.length:=by simpa using congrArg List.length he
  have d2:=yS (g:=λ x=>rA x.ba) (λ s x=>⟨_,rfl⟩) (hh _ hy)
  refine⟨_,_,yS (g:=λ x=>rA x.wa) (λ s x=>⟨_,rfl⟩) (hh _ hx),d2,by unfold Di;rw[List.length_zipWith,List.length_zipWith,hl],λ kv hkv=>?_⟩
  obtain⟨i,hi⟩:=List.getElem?_of_mem hkv
  obtain⟨s,a,h1,h2,rfl⟩:=List.getElem?_zipWith_eq_some.mp hi
  have il:=(List.getElem?_eq_some_iff.mp h2).1
  have hb:r[i]? =some (r[i]'(by omega)):=y8 (by omega)
  have ef:qn a=qn (r[i]'(by omega)):=by
   have:=congrArg (λ l=>l[i]?) he
   simp only[qz,h2,hb,CA] at this
   exact L8 this
  obtain⟨o,es,ep,d3,d4,d5,d6,d7,d8⟩:=d2
  refine⟨_,wz (Di (λ x=>rA x.ba) r) i (s,rA (r[i]'(by omega)).ba) (List.getElem?_zipWith_eq_some.mpr ⟨s,_,h1,hb,rfl⟩) d8,?_⟩
  have g1:=hh _ (H1 a (sH h2))
  have g2:=hh _ (H2 _ (sH hb))
  have e1:a.at_=(r[i]'(by omega)).at_:=congrArg Prod.fst ef
  have e2:a.many=(r[i]'(by omega)).many:=congrArg Prod.snd ef
  refine wA g1 g2 (.cons (.int _ _) (.cons (.int _ _) (.cons (.int _ _) .nil))) (ds:=[.int 9,.int a.at_,.int a.many]) ?_ rfl
  rw[e1,e2]
  exact .cons (.int _ _) (.cons (.int _ _) (.cons (.int _ _) .nil))
def X9(S:St):Ch:=⟨S.a 8,S.a 21,9,S.u 66,S.u 67,λ i=>match i with |10=>S.bt |11=>S.rt |i=>S.u (50+i),λ i=>S.u (68+i),ff,bA,S.buf,6⟩
theorem Dj(P:Params)(S:St):dz P S.u S.buf S.bt S.rcn S.rt=z7 P (X9 S,S.rcn):=rfl
theorem BB(S:St):CU S.a S.u=sI (X9 S):=rfl
theorem BD(P:Params)(c:List Ch):lJ P c=pg P (c.map λ x=>(x,0)):=by unfold lJ pg;rw[pd];rfl
theorem wB(its:List It)(q:Pr)(y:It)(L R:HL)(ho:q.S.op=⟨(y.1::its.map (·.1)).map am⟩)(hj:q.j 9=0)(nd:((y.1::its.map (·.1)).map (·.k)).Nodup)(hl:its.length<=9)(he:q.e 0= #[])(hL:L.Perm (pg w.2 its++R)):
  ai w G ⟨cg (aq (fB (aq bY 117)) 1) (rA (q.a 1)) (ci (gu w.2) 816 (q.a 0+822)),50,Cn w.2 q .a++[(q.j 6,y.1.wa+822,z7 w.2 y)],L,yQ L [] (y::its),λ g=>⟨.ok .next,bg (Cn w.2 q .a++[(q.j 6,y.1.wa+822,z7 w.2 y)]) [(0,Au w.2 q (g.sl (q.a 0+822)) g),(1,yC q.S.op.size q.S.opn (g.n 5)),(5,oD ⟨tE (g.vl 0)⟩ (g.n 6))],[],g.l⟩⟩:=by
 have sz:q.S.op.size<=1000:=by rw[ho];show(List.map am _).length<=1000;simp;omega
 have ent:q.S.op[q.j 9]? =some (am y.1):=by
  rw[<-Array.getElem?_toList,ho,hj]
  rfl
 have d0:DX (C0 w.2).set1 0 (.int y.1.k y.1.kt) [] q.S.op (some (q.j 9)) (hashInt y.1.k) (rA y.1.wa):=by
  refine wU sz ⟨by rw[ho];exact qm _,?_⟩ (dv (e:=am y.1) ?_)
  ·rw[ho,hj]
   exact fF (y.1::its.map (·.1)) 0 0 y.1 rfl nd
  ·rw[Array.getElem?_toList];exact ent
 have d3:∀t,DX (C0 w.2).set1 3 (.int y.1.k y.1.kt) [rA t] (q.e 0) none (hashInt y.1.k) .none:=λ t=>by
  rw[he]
  exact wU (Nat.zero_le _) ⟨λ e h=>(by cases h),rfl⟩ rfl
 have hz:=ph.sat w G (Ay q .a y L) .a (λ n' gs=>match n',gs with |3,[g0,g]=>yQ L [(y.1,g0.n 0)] its g |99,[g]=>yQ L [(y.1,g.n 7)] its g |_,_=>True) λ b t=>
  ⟨aQ ent,λ g0 _=>⟨d0,d3 _,?_,λ g1 a1 sl _=>a1⟩⟩
 ·refine ai.fold hz [] 0 [] rfl (Nat.le_refl _) rfl (by rw[L4];exact L2 _) λ g hg=>?_
  obtain⟨ts,t1,t2,t3⟩:=hg
  refine⟨rfl,rfl,{g with l:=wy ((y.1,g.n 7)::ts)++L},⟨(y.1,g.n 7)::ts,by rw[List.map_cons,t1];rfl,L2 _,t3⟩,rfl,rfl,rfl,rfl,rfl,rfl,?_⟩
  show((_::wy ts)++L).Perm (g.l++([_]++[]))
  refine List.Perm.trans ?_ (t2.symm.append_right _)
  exact(pn (l₁:=[_]) (l₂:=wy ts++L))
 ·exact ro its (DY q .a y (g0.n 1+0) (g0.n 1+3) (g0.n 0+0) (g0.sl (q.a 0+822))) .b [(y.1,g0.n 0)] L R (λ _=>rfl) (by show q.S.op=_;rw[ho];rfl) (by show q.j 9+1=1;rw[hj]) nd (by show 1+_<=10;omega) (by
     show(q.e 0).push _=_
     rw[he]
     rfl) hL
end
section
variable {w:World}{G:Shared}{S:St}{c d:List Ch}{p r:List Pa}{T:HL}{k:Nat}{f1 f2:Str}{L:HL}
theorem xM(h:aR w.2 S c d p r T k f1 f2)(ag:kg S c d p r f1 f2)(hk:k<=5)(j0 j1:Nat):
  ai w G ⟨au 816 [rA (S.a 0),rA (S.a 9)],60,[(j0,S.a 0+822,oW S.a),(j1,S.a 1+822,bm w.2 S.a S.u)],aP w.2 S,λ g=>∃X,g.l.Perm (X++aP w.2 S),λ g=>⟨.ok (.ret (.bool true)),[oW S.a,bm w.2 S.a S.u],[],g.l⟩⟩:=by
 have d9:=gz h
 obtain⟨⟨u,dr⟩,_⟩:=pX h (by omega)
 obtain⟨b0,b1,b2,b3,b4,b5,rfl⟩:=dC ag.n1
 obtain⟨c0,c1,c2,c3,c4,c5,rfl⟩:=dC ag.n2
 obtain⟨Sa,Su,nm,nmn,fl,fln,op,opn,fi,fin,buf,bt,rcn,rt,bbuf,bbt,bo,bon,bp,bpn,r1,t1',r2,t2',cnt,ct,cells,tail⟩:=S
 have e1:r1=s6 b0 b1 b2 b3 b4 b5:=ag.e1
 have e2:r2=s6 c0 c1 c2 c3 c4 c5:=ag.e2
 have e3:bbuf=buf:=ag.bf
 have e4:op=⟨cU Sa Su::c.map am⟩:=h.op
 have e5:bo=⟨jO Sa Su::d.map cC⟩:=h.bo
 have e6:fi=⟨bU (ah w.2) p⟩:=h.fi
 have e7:bp=⟨bU (dM w.2) r⟩:=h.bp
 subst e1 e2 e3 e4 e5 e6 e7
 let S:St:=⟨Sa,Su,nm,nmn,fl,fln,⟨cU Sa Su::c.map am⟩,opn,⟨bU (ah w.2) p⟩,fin,bbuf,bt,rcn,rt,bbuf,bbt,⟨jO Sa Su::d.map cC⟩,bon,⟨bU (dM w.2) r⟩,bpn,s6 b0 b1 b2 b3 b4 b5,t1',s6 c0 c1 c2 c3 c4 c5,t2',cnt,ct,cells,tail⟩
 have h:aR w.2 S c d p r T k _ _:=h
 let R0:HL:=(aI (aP w.2 S) [3,3,4,3,3,3,3,3]).2
 let q:Pr:={pr S R0 with j:=tk [j0,j1],c:=λ n=>if n=99 then u else([0,0,0,0,0,0,0,0,0,0,b0,b1,b2,b3,b4,b5,c0,c1,c2,c3,c4,c5]:List Nat).getD n 0}
 let its:List It:=c.map λ x=>(x,0)
 have hits:its.map (·.1)=c:=by show(c.map λ x=>(x,(0:Int))).map (·.1)=c;rw[pd];exact List.map_id _
 let Y:It:=(X9 S,rcn)
 have nd9:∀l:List Ch,(l.map (·.k)).Nodup->(∀x∈l,1<=x.k/\x.k<=k)->((X9 S::l).map (·.k)).Nodup:=λ l nd hl=>po.mpr ⟨λ q=>by
  obtain⟨x,hx,e⟩:=bZ.mp q
  have e:x.k=9:=e
  have:=hl x hx
  omega,nd⟩
 have ck:∀x∈c,1<=x.k/\x.k<=k:=λ x hx=>⟨(h.ck x hx).1,(h.ck x hx).2.1⟩
 let tR:HL:=[(Sa 2+822,oD nm nmn),(Sa 3+822,oD #[] 0),(Sa 4+822,oD #[] 0),(Sa 13+822,hC w.2 Sa Su cnt ct),(Sa 14+822,oL cells),(Sa 21+822,CU Sa Su)]
 have hR:R0=tR++tail:=rfl
 have ht:tail.Perm (lJ w.2 c++(jW d++(jv p++(nE r++T)))):=h.tl
 have pc:R0.Perm (pg w.2 its++(tR++(jW d++(jv p++(nE r++T))))):=by
  rw[hR,<-BD]
  exact(ht.append_left tR).trans (ao _ _ _)
 let A:AA:=λ n' gs=>match n',gs with |0,[g]=>yQ R0 [] (Y::its) g |99,[g]=>∃X,g.l.Perm (X++R0) |_,_=>True
 have hz:=sd.sat w G q A λ b t=>by
  refine⟨?_,λ g0 a0=>?_⟩
  ·exact wB its ⟨S,tk [b+0,b+2,0,0,0,0,0,0,0,0,Sa 9,b+1],tk [t+0,t+1,t+2],tk [10,12,0,1,3,11,4],q.c,q.m,q.s,q.o,q.v,q.l,λ _=> #[],λ _=>0,q.h,q.p,q.r,λ _=> #[],q.L⟩ Y R0 _ (by show(⟨cU Sa Su::c.map am⟩:Array DictEntry)=⟨(X9 S::its.map (·.1)).map am⟩;rw[hits];rfl) rfl (by rw[hits];exact nd9 c h.cn ck) (by show(c.map _).length<=9;have:=h.cl;rw[kx];omega) rfl pc
  ·obtain⟨ts,t1,t2,t3⟩:=a0
   have t1:ts.map (·.1)=X9 S::c:=by rw[t1];show X9 S::its.map (·.1)=_;rw[hits]
   have mR:∀x∈R0,x∈g0.l:=λ x hx=>t2.mem_iff.mpr (fm _ hx)
   have mT:∀x∈tail,x∈g0.l:=λ x hx=>mR x (by rw[hR];exact fm _ hx)
   have mB:∀x∈X9 S::d,(x.ba+822,sI x)∈g0.l:=λ x hx=>by
    rcases lI.mp hx with rfl |hx
    ·exact mR _ (by rw[hR,<-BB S];simp[tR,X9,S])
    ·exact mT _ (ht.mem_iff.mpr (fm _ (fI _ (bZ.mpr ⟨x,hx,rfl⟩))))
   have ef:ts.map (λ y=>oG y.1)=(X9 S::d).map oG:=by
    have:ts.map (λ y=>oG y.1)=(ts.map (·.1)).map oG:=by rw[pd];rfl
    rw[this,t1,List.map_cons,List.map_cons,ag.ch]
   have e0:tE (g0.vl 0)=(ts.map Ax).map am:=by rw[t3,List.nil_append,lr]
   refine⟨?_,λ g1 _=>⟨?_,λ g2 _=>⟨(d9 _).2,cj (bne_self_eq_false bbuf.cps.toList),dr _,aD (CB _),λ sl _=>⟨wy ts,t2⟩⟩⟩⟩
   ·refine z8 (ts.map Ax) ((X9 S::d).map zV) (show 10<=20 by decide) rfl (λ _=>trivial) (λ _=>rfl) (n:=g0.n 6) (n':=bon) (x:=b+1) (y:=Sa 10) (fI _ (by rw[<-e0];exact L5 ..)) (fI _ (L7 _ (by rw[<-nc];exact L5 ..))) (by have:=congrArg List.length ef;simpa using this) (by rw[Bz,t1];exact nd9 c h.cn ck) (by rw[By];exact nd9 d h.dn h.dk) λ hp hh i a b' ha hb=>?_
    rw[qz] at ha hb
    obtain⟨y,hy,rfl⟩:=sN.mp ha
    obtain⟨x,hx,rfl⟩:=sN.mp hb
    have e:=congrArg (λ l=>l[i]?) ef
    simp only[qz,hy,hx,CA] at e
    have e:(y.1.k,y.1.nm,y.1.md,y.1.sz)=(x.k,x.nm,x.md,x.sz):=L8 e
    simp only[Prod.mk.injEq] at e
    obtain⟨k1,k2,k3,k4⟩:=e
    have g1:=hh _ (fm _ (t2.mem_iff.mpr (fI _ (bZ.mpr ⟨y,sH hy,rfl⟩))))
    have g2:=hh _ (fm _ (mB x (sH hx)))
    have my:y.1∈X9 S::c:=by rw[<-t1];exact bZ.mpr ⟨y,sH hy,rfl⟩
    have ok:PyData.strOk y.1.nm=true/\PyData.strOk y.1.md=true:=by
     rcases lI.mp my with e |hm
     ·rw[e];exact⟨by simp[PyData.strOk,X9,bA],by simp[PyData.strOk,X9,ff]⟩
     ·obtain⟨z,ez⟩:=ag.md _ hm
      have:=h.ck _ hm
      rw[this.2.2,ez]
      exact⟨BA (by omega),by cases z<;>simp[T3.p,PyData.strOk,fJ,fK,ff]⟩
    exact⟨k1,wA g1 g2 (.cons (.str _ _) (.cons (.str _ _) (.cons (.int _ _) .nil))) (by rw[k2,k3,k4];exact .cons (.str _ _) (.cons (.str _ _) (.cons (.int _ _) .nil))) (Ey ok.1 ok.2)⟩
   ·exact Aa p r (show 10<=20 by decide) rfl (λ _=>trivial) (λ _=>rfl) (n:=fin) (n':=bpn) (x:=Sa 7) (y:=Sa 11) (fI _ (L5 ..)) (fI _ (L7 _ (L5 ..))) ag.pa (λ a ha=>fm _ (mT _ (ht.mem_iff.mpr (fm _ (fm _ (fI _ (bZ.mpr ⟨a,ha,rfl⟩))))))) λ a ha=>fm _ (mT _ (ht.mem_iff.mpr (fm _ (fm _ (fm _ (fI _ (bZ.mpr ⟨a,ha,rfl⟩)))))))
 refine ai.fold hz ((sd.D w.2 q dh).i.drop 2) 0 [] rfl (show 51<=60 by decide) rfl (by rw[L4];exact ac [3,3,4,3,3,3,3,3] (aP w.2 S)) λ g hp=>?_
 obtain⟨X,hX⟩:=hp
 refine⟨rfl,rfl,{g with l:=X++aP w.2 S},⟨X,L2 _⟩,rfl,rfl,rfl,rfl,rfl,rfl,?_⟩
 show(X++aP w.2 S).Perm ((aI (aP w.2 S) [3,3,4,3,3,3,3,3]).1++(g.l++([]++[])))
 rw[L4]
 refine((ac [3,3,4,3,3,3,3,3] (aP w.2 S)).append_left X).trans ?_
 exact(ao _ _ _).trans (dQ _ (hX.symm.trans (.of_eq (L4 _).symm)))
theorem mv(h:aR w.2 S c d p r T k f1 f2)(ag:kg S c d p r f1 f2)(hk:k<=5)(hL:L.Perm (aP w.2 S))(j0 j1:Nat){A:Gh->Prop}(hA:∀g,A g):
  ai w G ⟨au 816 [rA (S.a 0),rA (S.a 9)],60,[(j0,S.a 0+822,oW S.a),(j1,S.a 1+822,bm w.2 S.a S.u)],L,A,λ g=>⟨.ok (.ret (.bool true)),[oW S.a,bm w.2 S.a S.u],[],L⟩⟩:=
 ai.perm (xM h ag hk j0 j1) [] [] rfl (Nat.le_refl _) rfl (by rw[L4];exact hL) (λ _ h=>h) (λ _=>List.nodup_nil) λ g hp=>by
   obtain⟨X,hX⟩:=hp
   exact⟨g,hA g,rfl,rfl,rfl,rfl,rfl,rfl,X,by
  rw[L4]
  exact(hL.append_right X).trans (pn.trans hX.symm)⟩
end
section
local macro_rules |`(tactic|omega)=>`(tactic|first |lia |omega (config:={}))
theorem rp:∀(i:Nat) (cs:List Cl) (ts:List (Nat×Nat)) (j t l:Nat),ts[j]? =some (t,l)->ts.length<=cs.length->∃u,(t+822,tO [.str (jf (i+j)) u,rA l])∈Bi i cs ts/\(l+822,lO 0 [])∈Bi i cs ts
 |_,_,[],_,_,_,h,_=>by simp at h
 |_,[],_::_,_,_,_,_,h=>by simp at h
 |i,c::cs,(t',l')::ts,0,t,l,h,hl=>by
  have h:some (t',l')=some (t,l):=by simpa using h
  injection h with h
  injection h with h1 h2
  subst h1 h2
  exact⟨c.u',L5 ..,L7 _ (L5 ..)⟩
 |i,c::cs,_::ts,j+1,t,l,h,hl=>by
  obtain⟨u,h1,h2⟩:=rp (i+1) cs ts j t l (by simpa using h) (by simpa using hl)
  rw[show i+1+j=i+(j+1) by omega] at h1
  exact⟨u,L7 _ (L7 _ h1),L7 _ (L7 _ h2)⟩
theorem rq:∀(i:Nat) (es:List Nat) (ps:List (Nat×Nat)) (j t l:Nat),ps[j]? =some (t,l)->ps.length<=es.length->∃u,(t+822,tO [.str (jf (i+j)) u,rA l])∈wf (gU i es) ps/\(l+822,lO 0 [])∈wf (gU i es) ps
 |_,_,[],_,_,_,h,_=>by simp at h
 |_,[],_::_,_,_,_,_,h=>by simp at h
 |i,e::es,(t',l')::ps,0,t,l,h,hl=>by
  have h:some (t',l')=some (t,l):=by simpa using h
  injection h with h
  injection h with h1 h2
  subst h1 h2
  exact⟨e,L5 ..,L7 _ (L5 ..)⟩
 |i,e::es,_::ps,j+1,t,l,h,hl=>by
  obtain⟨u,h1,h2⟩:=rq (i+1) es ps j t l (by simpa using h) (by simpa using hl)
  rw[show i+1+j=i+(j+1) by omega] at h1
  exact⟨u,L7 _ (L7 _ h1),L7 _ (L7 _ h2)⟩
theorem Ab(j:Nat):SeqAt.shaped (.tuple [.str (jf j),.list []])=true:=by
 have h:PyData.strOk (jf j)=true:=by
  unfold jf
  split<;>simp[PyData.strOk,bq,bH,ca,cG]
 unfold SeqAt.shaped
 simp[PyData.canLay0,PyData.canLayAll0,PyData.depth,PyData.depthAll,h]
section
variable {w:World}{G:Shared}
theorem wC{cs:List Cl}{es:List Nat}{ts ps:List (Nat×Nat)}{L:HL}(la lb j0 j1 n n':Nat)(h1:ts.length<=cs.length)(h2:ps.length<=es.length)(hl:ts.length=ps.length)(m1:∀x∈Bi 0 cs ts,x∈L)(m2:∀x∈wf (gU 0 es) ps,x∈L){A:Gh->Prop}(hA:∀g,A g):
  ai w G ⟨.call (.builtin "list.__ne__") ⟨[rA la,rA lb],[]⟩,60,[(j0,la+822,aO n ⟨bX ts⟩),(j1,lb+822,aO n' ⟨bX ps⟩)],L,A,λ g=>⟨.ok (.ret (.bool false)),[aO n ⟨bX ts⟩,aO n' ⟨bX ps⟩],[],L⟩⟩:=by
 refine xC (show 10<=60 by decide) rfl hA (λ _=>rfl) (x:=la+822) (y:=lb+822) (n:=n) (n':=n') (xs:=⟨bX ts⟩) (ys:=⟨bX ps⟩) (fI _ (L5 ..)) (fI _ (L7 _ (L5 ..))) (by show(bX ts).length=(bX ps).length;unfold bX;rw[kx,kx,hl]) λ h hh j b1 b2=>?_
 have g1:j<ts.length:=by have:j<(bX ts).length:=b1;unfold bX at this;rwa [kx] at this
 have g2:j<ps.length:=by omega
 obtain⟨u,a1,a2⟩:=rp 0 cs ts j ts[j].1 ts[j].2 (y8 g1) h1
 obtain⟨v,a3,a4⟩:=rq 0 es ps j ps[j].1 ps[j].2 (y8 g2) h2
 rw[o9] at a1 a3
 have mm:∀x∈L,h.get? x.1=some x.2:=λ x hx=>hh x (fm _ hx)
 have e1:(⟨bX ts⟩:Array Value)[j]=rA ts[j].1:=by simp[bX]
 have e2:(⟨bX ps⟩:Array Value)[j]=rA ps[j].1:=by simp[bX]
 rw[e1,e2]
 have rd:∀(t l u:Nat),h.get? (t+822)=some (tO [.str (jf j) u,rA l])->h.get? (l+822)=some (lO 0 [])->Reads h (rA t) (.tuple [.str (jf j),.list []]) ([]++([l+822]++[])):=λ t l u q1 q2=>.tuple q1 rfl rfl (.cons (.str _ _) (.cons (.list q2 rfl rfl .nil) .nil))
 exact⟨_,_,_,rd _ _ _ (mm _ (m1 _ a1)) (mm _ (m1 _ a2)),rd _ _ _ (mm _ (m2 _ a3)) (mm _ (m2 _ a4)),Ab j⟩
end
end
theorem wD{P:Params}{S:St}{c d:List Ch}{p r:List Pa}{T:HL}{k:Nat}{x y:Str}(h:aR P S c d p r T k x y):aR P S c d p r T (k+1) x y:=by
 refine⟨h.op,h.bo,h.fi,h.fin,h.bp,h.tl,h.pl,h.rl,h.cl,h.dl,λ z hz=>?_,h.cn,λ z hz=>?_,h.dn,h.nm,?_⟩
 ·have:=h.ck z hz
  exact⟨this.1,by have:=this.2.1;omega,this.2.2⟩
 ·have:=h.dk z hz
  omega
 ·obtain⟨t,u,fs,e,l,q⟩:=h.fl
  exact⟨t,u,fs,e,by omega,λ e he=>by obtain⟨j,t,v,hj,e⟩:=q e he;exact⟨j,t,v,by omega,e⟩⟩
inductive Dk(P:Params)(S:St)(k an:Nat)(cs:List Cl)(ts:List (Nat×Nat))(l:HL):Prop
 |mk (S2 c2 d2 p2 r2 a b T2:_) (x1:l.Perm (aP P S2)) (x2:aR P S2 c2 d2 p2 r2 (aS P an cs ts++T2) (k+1) a b) (x3:kg S2 c2 d2 p2 r2 a b) (x4:S2.a=S.a) (x5:S2.u=S.u) (x6:S2.cells=S.cells) (x7:S2.cnt=S.cnt)
inductive Dl(w:World)(G:Shared)(S:St)(k an:Nat)(cs:List Cl)(N wa oa num:Nat)(right:Int)(vals:List Value)(gvl0_:List Value)(gn2_:Nat)(gl_:HL):Prop
 |mk (ts:_) (x1:ts.length=N) (x2:gn2_=N) (x3:gvl0_=bX ts) (x4:∀j0 t,ai w G (nG w.2 S j0 wa oa num t right vals gl_ λ g'=>Dk w.2 S k an cs ts g'.l))
noncomputable def wE(w:World)(G:Shared)(S:St)(k an:Nat)(cs:List Cl)(N wa oa num:Nat)(right:Int)(vals:List Value)(g:Gh):Prop:=Dl w G S k an cs N wa oa num right vals (g.vl 0) (g.n 2) (g.l)
def xN(S S2:St):Prop:=S2.a=S.a/\S2.u=S.u/\S2.cells=S.cells/\S2.cnt=S.cnt
section
variable {w:World}{G:Shared}{S:St}{c d:List Ch}{p r:List Pa}{V T:HL}{k k' N:Nat}{f1 f2:Str}{D:Rq}{cs:List Cl}{j:Nat->Nat}{oa:Nat}{rs:Gh->Result}{nw:Gh->HL}{O:HL}{Q:sL}
theorem eB(hz:ai w G (fL D w.2 S j oa (bM w.2 S d r D.an cs Q k' N O) rs nw))(B:St->Ck)(wa num:Nat)(right:Int)(vals:List Value)(hk:k'=k\/k'=k+1)
  (hn:∀S' c' p' f1' f2' T',Q S' c' p' f1' f2'->aR w.2 S' c' d p' r (O++T') k' f1' f2'->∀j0 t,ai w G (nG w.2 S' j0 wa oa num t right vals (aP w.2 S') λ g=>qi w.2 c' p' k' f1' f2' (O++T') (B S') g.l))
  (ha:∀S' c' p' f1' f2' S2 d2 r2,Q S' c' p' f1' f2'->B S' S2 d2 r2->kg S2 c' d2 p' r2 f1' f2'/\xN S S2):
  ai w G (fL D w.2 S j oa (wE w G S k D.an cs N wa oa num right vals) rs nw):=by
 refine ai.as hz rfl (Nat.le_refl _) rfl (L2 _) λ g hp=>?_
 obtain⟨S',c',p',f1',f2',T',ts,h1,h2,h3,h4,h5,h6,h7,h8⟩:=hp
 refine⟨g,⟨ts,h4,h5,h6,λ j0 t=>?_⟩,rfl,rfl,rfl,rfl,rfl,rfl,L2 _⟩
 have z:=hn S' c' p' f1' f2' _ h2 (dD h3 (ao _ _ _)) j0 t
 unfold nG at z
 rw[h7] at z
 refine ai.as z rfl (Nat.le_refl _) rfl (.of_eq h1) λ g' hp=>?_
 obtain⟨S2,d2,r2,X,b1,b2,b3⟩:=hp
 refine⟨g',?_,rfl,rfl,rfl,rfl,rfl,rfl,L2 _⟩
 obtain⟨a1,a2,a3,a4,a5⟩:=ha _ _ _ _ _ _ _ _ h2 b2
 refine⟨S2,c',d2,p',r2,f1',f2',X++(O++T'),.of_eq b1,?_,a1,a2,a3,a4,a5⟩
 have b4:=dD b3 (((ao O (aS w.2 D.an cs ts) T').append_left X).trans (ao _ _ _))
 rcases hk with rfl |rfl
 ·exact wD b4
 ·exact b4
variable (ag:kg S c d p r f1 f2)
include ag
theorem Ez{S':St}{c':List Ch}{p':List Pa}{f1' f2':Str}{S2:St}{d2:List Ch}{r2:List Pa}(h1:QS S c p f1 f2 S' c' p' f1' f2')(h2:B0 S' d r S2 d2 r2):kg S2 c' d2 p' r2 f1' f2'/\xN S S2:=by
 obtain⟨tl,rfl,rfl,rfl,rfl,rfl⟩:=h1
 obtain⟨tl,rfl,rfl,rfl⟩:=h2
 exact⟨⟨ag.ch,ag.pa,ag.bf,ag.e1,ag.e2,ag.n0,ag.n1,ag.n2,ag.md,ag.hd⟩,rfl,rfl,rfl,rfl⟩
theorem EA(y:T2){S':St}{c':List Ch}{p':List Pa}{f1' f2':Str}{S2:St}{d2:List Ch}{r2:List Pa}(h1:QG S c p .a y f1 f2 S' c' p' f1' f2')(h2:BG S' d r y S2 d2 r2):kg S2 c' d2 p' r2 f1' f2'/\xN S S2:=by
 obtain⟨fl,bt,t,tl,rfl,rfl,rfl,rfl,rfl⟩:=h1
 obtain⟨t',tl',rfl,rfl,rfl⟩:=h2
 cases y
 ·exact⟨⟨ag.ch,ag.pa,ag.e1,ag.e1,ag.e2,ag.n1,ag.n1,ag.n2,ag.md,ag.hd⟩,rfl,rfl,rfl,rfl⟩
 ·exact⟨⟨ag.ch,ag.pa,ag.e2,ag.e1,ag.e2,ag.n2,ag.n1,ag.n2,ag.md,ag.hd⟩,rfl,rfl,rfl,rfl⟩
theorem EB(y:T2){S':St}{c':List Ch}{p':List Pa}{f1' f2':Str}{S2:St}{d2:List Ch}{r2:List Pa}(h1:QG S c p .b y f1 f2 S' c' p' f1' f2')(h2:BP S' d r y S2 d2 r2):kg S2 c' d2 p' r2 f1' f2'/\xN S S2:=by
 obtain⟨fl,bt,t,tl,rfl,rfl,rfl,rfl,rfl⟩:=h1
 obtain⟨t',t'',tl',rfl,rfl,rfl⟩:=h2
 cases y
 ·exact⟨⟨ag.ch,ag.pa,ag.bf,ag.bf,ag.e2,ag.n0,ag.n0,ag.n2,ag.md,ag.hd⟩,rfl,rfl,rfl,rfl⟩
 ·exact⟨⟨ag.ch,ag.pa,ag.bf,ag.e1,ag.bf,ag.n0,ag.n1,ag.n0,ag.md,ag.hd⟩,rfl,rfl,rfl,rfl⟩
theorem DZ(md:T3)(x:T4){P:Params}{S':St}{c':List Ch}{p':List Pa}{f1' f2':Str}{S2:St}{d2:List Ch}{r2:List Pa}(h1:QO P S c p k md x f1 f2 S' c' p' f1' f2')(h2:BO S' d r k md x S2 d2 r2):kg S2 c' d2 p' r2 f1' f2'/\xN S S2:=by
 obtain⟨fl,X,tl,rfl,rfl,rfl,rfl,rfl,x1,x2,x3,x4⟩:=h1
 obtain⟨bo,n,Y,tl',rfl,rfl,rfl,y1,y2,y3,y4⟩:=h2
 refine⟨⟨?_,ag.pa,ag.bf,ag.e1,ag.e2,ag.n0,ag.n1,ag.n2,λ z hz=>?_,ag.hd⟩,rfl,rfl,rfl,rfl⟩
 ·rw[nD,nD,ag.ch]
  have:oG X=oG Y:=by unfold oG;rw[x1,x2,x3,x4,y1,y2,y3,y4];rfl
  rw[List.map_singleton,List.map_singleton,this]
 ·rcases lK.mp hz with hz |hz
  ·exact ag.md z hz
  ·rw[yh.mp hz];exact⟨md,x3⟩
theorem ED{S':St}{c':List Ch}{p':List Pa}{f1' f2':Str}{S2:St}{d2:List Ch}{r2:List Pa}(h1:QN S c p f1 f2 S' c' p' f1' f2')(h2:B0 S' d r S2 d2 r2):kg S2 c' d2 p' r2 f1' f2'/\xN S S2:=by
 obtain⟨nm,n,tl,rfl,rfl,rfl,rfl,rfl⟩:=h1
 obtain⟨tl,rfl,rfl,rfl⟩:=h2
 exact⟨⟨ag.ch,ag.pa,ag.bf,ag.e1,ag.e2,ag.n0,ag.n1,ag.n2,ag.md,ag.hd⟩,rfl,rfl,rfl,rfl⟩
theorem xO(x y:T3){b:Str}(h:b.cps.size=6):(dI x y b).cps.size=6:=by
 obtain⟨c0,c1,c2,c3,c4,c5,rfl⟩:=dC h
 cases y<;>rfl
theorem EE(x y:T3){S':St}{c':List Ch}{p':List Pa}{f1' f2':Str}{S2:St}{d2:List Ch}{r2:List Pa}(h1:QP S c p x y f1 f2 S' c' p' f1' f2')(h2:BL S' d r x y S2 d2 r2):kg S2 c' d2 p' r2 f1' f2'/\xN S S2:=by
 obtain⟨bt,tl,rfl,rfl,rfl,rfl,rfl⟩:=h1
 obtain⟨t,tl,rfl,rfl,rfl⟩:=h2
 exact⟨⟨ag.ch,ag.pa,congrArg (dI x y) ag.bf,ag.e1,ag.e2,xO ag x y ag.n0,ag.n1,ag.n2,ag.md,ag.hd⟩,rfl,rfl,rfl,rfl⟩
theorem EF(ms ms2:List (Int×Int))(e:ms2=ms)(hh:∀y,ms.head? =some y->y.1=0/\0<=y.2/\y.2<=2){S':St}{c':List Ch}{p':List Pa}{f1' f2':Str}{S2:St}{d2:List Ch}{r2:List Pa}(h1:QF S c p ms f1 f2 S' c' p' f1' f2')(h2:BF S' d r ms2 S2 d2 r2):kg S2 c' d2 p' r2 f1' f2'/\xN S S2:=by
 obtain⟨fi,n,tl,rfl,rfl,ep,rfl,rfl⟩:=h1
 obtain⟨bp,n',tl',rfl,rfl,er⟩:=h2
 subst e
 have ep:p'.map qn=setF ms2 (p.map qn):=ep
 have er:r2.map qn=setF ms2 (r.map qn):=er
 refine⟨⟨ag.ch,by rw[ep,er,ag.pa],ag.bf,ag.e1,ag.e2,ag.n0,ag.n1,ag.n2,ag.md,λ y hy=>?_⟩,rfl,rfl,rfl,rfl⟩
 rw[ep] at hy
 match ms2,p.map qn,hy,hh,ag.hd with
 |[],l,hy,hh,hd=>exact hd y hy
 |a::ms2,[],hy,hh,hd=>exact hh y hy
 |a::ms2,b::l,hy,hh,hd=>exact hh y hy
theorem yT:∀(m:Int) {c d:List Ch},c.map oG=d.map oG->(i0 m c).map oG=(i0 m d).map oG
 |m,[],[],_=>rfl
 |m,[],_::_,h=>by simp at h
 |m,_::_,[],h=>by simp at h
 |m,x::c,y::d,h=>by
  simp only[List.map_cons,List.cons.injEq] at h
  have ih:=yT m h.2
  have e:x.k=y.k:=congrArg Prod.fst h.1
  unfold i0 at ih ⊢
  rw[List.filter_cons,List.filter_cons,e]
  split
  ·rw[List.map_cons,List.map_cons,ih,h.1]
  ·exact ih
theorem yU:∀(ms:List Int) {c d:List Ch},c.map oG=d.map oG->(ms.foldl (λ c m=>i0 m c) c).map oG=(ms.foldl (λ c m=>i0 m c) d).map oG
 |[],_,_,h=>h
 |m::ms,_,_,h=>yU ms (yT ag m h)
theorem wF:∀(ms:List Int) {c:List Ch} {x:Ch},x∈ms.foldl (λ c m=>i0 m c) c->x∈c
 |[],_,_,h=>h
 |m::ms,c,x,h=>q8 (wF ms h)
theorem EG(ms ms2:List Int)(e:ms2=ms){S':St}{c':List Ch}{p':List Pa}{f1' f2':Str}{S2:St}{d2:List Ch}{r2:List Pa}(h1:QC S c p f1 f2 ms S' c' p' f1' f2')(h2:BC S' d r ms2 S2 d2 r2):kg S2 c' d2 p' r2 f1' f2'/\xN S S2:=by
 obtain⟨op,n,tl,rfl,rfl,rfl,rfl,rfl⟩:=h1
 obtain⟨bo,n',tl',rfl,rfl,rfl⟩:=h2
 subst e
 exact⟨⟨yU ag ms2 ag.ch,ag.pa,ag.bf,ag.e1,ag.e2,ag.n0,ag.n1,ag.n2,λ x hx=>ag.md x (wF ag ms2 hx),ag.hd⟩,rfl,rfl,rfl,rfl⟩
end
theorem iA{m:Int}(h:m<=5):m≠9:=λ e=>absurd (e▸h) (by decide)
theorem Ac{m0:Int}{u0:Nat}(h0:m0≠9):∀m∈ [(m0,u0)],m.1≠9:=λ m h=>by
 cases h with
 |head=>exact h0
 |tail _ h=>cases h
theorem xP{m0 m1:Int}{u0 u1:Nat}(h0:m0≠9)(h1:m1≠9):∀m∈ [(m0,u0),(m1,u1)],m.1≠9:=λ m h=>by
 cases h with
 |head=>exact h0
 |tail _ h=>exact Ac h1 m h
theorem xQ{m0 m1 m2:Int}{u0 u1 u2:Nat}(h0:m0≠9)(h1:m1≠9)(h2:m2≠9):∀m∈ [(m0,u0),(m1,u1),(m2,u2)],m.1≠9:=λ m h=>by
 cases h with
 |head=>exact h0
 |tail _ h=>exact xP h1 h2 m h
theorem rr(i:Nat):¬i+1<1:=AE.mpr (wZ ..)
theorem kh(i:Nat):¬i+2<2:=AE.mpr (wZ ..)
theorem i7(i:Nat):¬i+3<3:=AE.mpr (wZ ..)
theorem xR(i:Nat):¬i+4<4:=AE.mpr (wZ ..)
section
variable {w:World}{G:Shared}{S:St}{c d:List Ch}{p r:List Pa}{V T:HL}{k N:Nat}{f1 f2:Str}{D:Rq}{cs:List Cl}{j:Nat->Nat}{oa la wa:Nat}{rs:Gh->Result}{nw:Gh->HL}{O:HL}{c0 c1 c2 c3:Cl}{vals:List Value}{right:Int}
variable (ag:kg S c d p r f1 f2)
include ag
theorem lu(x:T2){s:Str}{u:Nat}{v1 v2 v3 v4:Value}(hz:ai w G (fL D w.2 S j oa (bM w.2 S d r D.an cs (QS S c p f1 f2) k N ((oa+822,tO (x.p [.str s u,v1,v2] [.str s u,v1,v2,v3,v4]))::O)) rs nw))(hl:vals.length<=10)(hr:right<Int.ofNat vals.length)(hs:(s.cps.toList == aC.cps.toList)=false):
  ai w G (fL D w.2 S j oa (wE w G S k D.an cs N wa oa 0 right vals) rs nw):=
 eB hz (λ S'=>B0 S' d r) wa 0 right vals (.inl rfl) (λ S' c' p' f1' f2' T' q hi j0 t=>zU x hi (L2 _) hl hr hs j0 wa t) λ _ _ _ _ _ _ _ _ q b=>Ez ag q b
theorem i8{u:Nat}{m:List Int}(hz:ai w G (fL D w.2 S j oa (bM w.2 S d r D.an cs (QC S c p f1 f2 m) k N ((oa+822,tO [.str aC u,rA la])::O)) rs nw)){ms:List (Int×Nat)}{n num:Nat}(hl:ms.length<=3)(h0:1<=ms.length)(hn:n<=ms.length)(h9:∀m∈ms,m.1≠9)(he:m=(ms.take n).map (·.1)):
  ai w G (fL D w.2 S j oa (wE w G S k D.an cs N wa oa num n (mV ms)) rs nw):=
 eB hz (λ S'=>BC S' d r ((ms.take n).map (·.1))) wa num n (mV ms) (.inl rfl) (λ S' c' p' f1' f2' T' q hi j0 t=>wx hi (L2 _) hl h0 hn h9 num j0 wa t) λ _ _ _ _ _ _ _ _ q b=>EG ag m _ he.symm q b
theorem BE(x y:T2){u0 u1:Nat}(hc0:cs[0]? =some c0)(hc1:cs[1]? =some c1)(h4:cs.length<=4)(e0:aY w G V c0.v 9)(e1:aY w G V c1.v (y.p 1 2))(hk:k<=4)
  (h:aR w.2 S c d p r ([(oa+822,tO [.str (x.p eN eO) (D.u 9),rA c0.t,rA c1.t])]++(aS w.2 D.an cs []++(V++T))) k f1 f2):
  ai w G (fL D w.2 S j oa (wE w G S k D.an cs 2 wa oa 0 2 [.int 9 u0,.int (y.p 1 2) u1]) (λ _=>.ok (.ret .none)) λ _=>[]):=by
 have z:=vK (j:=j) x y hc0 hc1 h4 e0 e1 (by omega) ag.n0 ag.n1 ag.n2 h
 cases x
 ·exact eB z (λ S'=>BG S' d r y) wa 0 2 _ (.inl rfl) (λ S' c' p' f1' f2' T' q hi j0 t=>by
   obtain⟨_,_,_,_,rfl,rfl,rfl,rfl,rfl⟩:=q
   exact wg y (O:=[]) hi (L2 _) (show S.bbuf.cps.size=6 by rw[ag.bf];exact ag.n0) (show S.r1.cps.size=6 by rw[ag.e1];exact ag.n1) (show S.r2.cps.size=6 by rw[ag.e2];exact ag.n2) j0 wa t) λ _ _ _ _ _ _ _ _ q b=>EA ag y q b
 ·exact eB z (λ S'=>BP S' d r y) wa 0 2 _ (.inl rfl) (λ S' c' p' f1' f2' T' q hi j0 t=>by
   obtain⟨_,_,_,_,rfl,rfl,rfl,rfl,rfl⟩:=q
   exact wi y (O:=[]) hi (L2 _) (show S.bbuf.cps.size=6 by rw[ag.bf];exact ag.n0) (show S.r1.cps.size=6 by rw[ag.e1];exact ag.n1) (show S.r2.cps.size=6 by rw[ag.e2];exact ag.n2) j0 wa t) λ _ _ _ _ _ _ _ _ q b=>EB ag y q b
theorem xS(md:T3)(ub:Nat){u0 u1:Nat}(hc0:cs[0]? =some c0)(hc1:cs[1]? =some c1)(h4:cs.length<=4)(hv:c0.v.v= .str (ak k) ub)(e1:aY w G V c1.v (k+1:Nat))(hk:k<=4)
  (h:aR w.2 S c d p r ([(oa+822,tO [.str bv (D.u 9),.str (md.p fJ fK ff) (D.u 10),rA c1.t,rA c0.t,.none])]++(aS w.2 D.an cs []++(V++T))) k f1 f2):
  ai w G (fL D w.2 S j oa (wE w G S k D.an cs 2 wa oa 0 2 [.str (ak k) u0,.int ((k:Int)+1) u1]) (λ _=>.ok (.ret .none)) λ _=>[]):=
 eB (qc md ub hc0 hc1 h4 hv e1 hk h) (λ S'=>BO S' d r k md .a) wa 0 2 _ (.inr rfl) (λ S' c' p' f1' f2' T' q hi j0 t=>by
  obtain⟨_,_,_,rfl,rfl,rfl,rfl,rfl,q2⟩:=q
  exact qj md (O:=[]) hi (L2 _) (show S.bbuf.cps.size=6 by rw[ag.bf];exact ag.n0) hk (λ x hx=>(h.dk x hx).2) j0 wa t) λ _ _ _ _ _ _ _ _ q b=>DZ ag md .a q b
theorem nh(md y:T3)(ub:Nat){u0 u1 u2:Nat}(hc0:cs[0]? =some c0)(hc1:cs[1]? =some c1)(hc2:cs[2]? =some c2)(h4:cs.length<=4)(hv:c0.v.v= .str (ak k) ub)(e1:aY w G V c1.v (k+1:Nat))(e2:aY w G V c2.v (y.p 3 4 5))(hk:k<=4)
  (h:aR w.2 S c d p r ([(oa+822,tO [.str bv (D.u 9),.str (md.p fJ fK ff) (D.u 10),rA c1.t,rA c0.t,rA c2.t])]++(aS w.2 D.an cs []++(V++T))) k f1 f2):
  ai w G (fL D w.2 S j oa (wE w G S k D.an cs 3 wa oa 0 3 [.str (ak k) u0,.int ((k:Int)+1) u1,.int (y.p 3 4 5) u2]) (λ _=>.ok (.ret .none)) λ _=>[]):=
 eB (qe md (y.p .b .c .d) ub hc0 hc1 hc2 h4 hv e1 (by cases y<;>exact e2) hk h) (λ S'=>BO S' d r k md (y.p .b .c .d)) wa 0 3 _ (.inr rfl) (λ S' c' p' f1' f2' T' q hi j0 t=>by
  obtain⟨_,_,_,rfl,rfl,rfl,rfl,rfl,q2⟩:=q
  exact qk y md (O:=[]) hi (L2 _) (show S.bbuf.cps.size=6 by rw[ag.bf];exact ag.n0) hk (λ x hx=>(h.dk x hx).2) j0 wa t) λ _ _ _ _ _ _ _ _ q b=>DZ ag md _ q b
theorem wG{ms ms2:List (Int×Int)}(hz:ai w G (fL D w.2 S j oa (bM w.2 S d r D.an cs (QF S c p ms f1 f2) k N O) rs nw))(e:ms2=ms)(hh:∀y,ms.head? =some y->y.1=0/\0<=y.2/\y.2<=2)
  (hn:∀(S':St) c' p' f1' f2' T',S'.bbuf.cps.size=6->aR w.2 S' c' d p' r (O++T') k f1' f2'->∀j0 t,ai w G (nG w.2 S' j0 wa oa 0 t right vals (aP w.2 S') λ g=>qi w.2 c' p' k f1' f2' (O++T') (BF S' d r ms2) g.l)):
  ai w G (fL D w.2 S j oa (wE w G S k D.an cs N wa oa 0 right vals) rs nw):=
 eB hz (λ S'=>BF S' d r ms2) wa 0 right vals (.inl rfl) (λ S' c' p' f1' f2' T' q hi j0 t=>hn S' c' p' f1' f2' T' (by
  obtain⟨_,_,_,rfl,_⟩:=q
  show S.bbuf.cps.size=6
  rw[ag.bf];exact ag.n0) hi j0 t) λ _ _ _ _ _ _ _ _ q b=>EF ag ms ms2 e hh q b
theorem BH(x:T3)(ub:Nat){u0:Nat}(hc0:cs[0]? =some c0)(h4:cs.length<=4)(hv:c0.v.v= .str (x.p gw aa cy) ub)
  (h:aR w.2 S c d p r ([(oa+822,tO [.str cq (D.u 9),.str ad (D.u 10),rA c0.t])]++(aS w.2 D.an cs []++(V++T))) k f1 f2):
  ai w G (fL D w.2 S j oa (wE w G S k D.an cs 1 wa oa 0 1 [.str (x.p gw aa cy) u0]) (λ _=>.ok (.ret .none)) λ _=>[]):=by
 have hb:S.bbuf.cps.size=6:=by rw[ag.bf];exact ag.n0
 match p,r,ag,h with
 |[],[],ag,h=>
  exact eB (sp x ub hc0 h4 hv h) (λ S'=>B0 S' d []) wa 0 1 _ (.inl rfl) (λ S' c' p' f1' f2' T' q hi j0 t=>by
   obtain⟨_,_,_,rfl,rfl,rfl,rfl,rfl⟩:=q
   exact ss (O:=[]) hi (L2 _) hb rfl j0 wa t) λ _ _ _ _ _ _ _ _ q b=>ED ag q b
 |[],_::_,ag,h=>exact absurd ag.pa (by simp)
 |_::_,[],ag,h=>exact absurd ag.pa (by simp)
 |a::p,b::r,ag,h=>
  have ha:=ag.hd (qn a) rfl
  have eab:qn a=qn b:=by have:=ag.pa;simp only[List.map_cons,List.cons.injEq] at this;exact this.1
  have hb2:=eab▸ha
  obtain⟨y,gm⟩:∃y:T3,a.many=y.p 0 1 2:=by
   rcases vz ha.2 with e |e |e
   ·exact⟨.a,e⟩
   ·exact⟨.b,e⟩
   ·exact⟨.c,e⟩
  have gm2:b.many=y.p 0 1 2:=(congrArg Prod.snd eab).symm.trans gm
  exact eB (sq x y ub hc0 h4 hv ag.n0 ha.1 gm h) (λ S'=>BL S' d (b::r) x y) wa 0 1 _ (.inl rfl) (λ S' c' p' f1' f2' T' q hi j0 t=>by
   obtain⟨_,_,rfl,rfl,rfl,rfl,rfl⟩:=q
   exact wj x y (O:=[]) hi (L2 _) hb hb2.1 gm2 j0 wa t) λ _ _ _ _ _ _ _ _ q b=>EE ag x y q b
end
section
local macro_rules |`(tactic|omega)=>`(tactic|first |lia |omega (config:={}))
def OkW(w:World)(G:Shared)(V:HL)(ws:List Wn)(cs:List Cl)(i:Nat):Prop:=∀(j:Nat) x c,j<i->ws[j]? =some x->cs[j]? =some c->oA w G V x c.v
inductive BJ(w:World)(G:Shared)(V:HL)(ws:List Wn)(cs:List Cl)(i:Nat)(cd:Str):Prop
 |mk (x:Wn) (c:Cl) (h1:ws[i]? =some x) (h2:cs[i]? =some c) (h3:rc w G V x c.v cd)
theorem BJ.n{w:World}{G:Shared}{V:HL}{ws:List Wn}{cs:List Cl}{i:Nat}{cd:Str}{m:Int}{c:Cl}(e:BJ w G V ws cs i cd)(h1:ws[i]? =some (.n m))(h2:cs[i]? =some c):cI w G V c.v cd:=by
 obtain⟨x,c',e1,e2,e3⟩:=e
 cases h1.symm.trans e1
 cases h2.symm.trans e2
 exact e3.1
theorem BJ.s{w:World}{G:Shared}{V:HL}{ws:List Wn}{cs:List Cl}{i:Nat}{cd:Str}{m:Str}{c:Cl}(e:BJ w G V ws cs i cd)(h1:ws[i]? =some (.s m))(h2:cs[i]? =some c):cd=b9/\gB w G V c.v:=by
 obtain⟨x,c',e1,e2,e3⟩:=e
 cases h1.symm.trans e1
 cases h2.symm.trans e2
 exact e3
section
variable {w:World}{G:Shared}{S:St}{c d:List Ch}{p r:List Pa}{V T:HL}{k:Nat}{f1 f2:Str}{D:Rq}{cs:List Cl}{j:Nat->Nat}{oa la wa:Nat}{ut ps:List Nat}{cd:Str}
variable (ag:kg S c d p r f1 f2)
include ag
theorem Ad(o:gF)(ho:o.ok)(lc:cs.length=(o.wants k).length)(ul:ut.length=(o.wants k).length)(pl:∀ms,o= .fld ms->ps.length=ms.length)(h4:cs.length<=4)
  (ok:OkW w G V (o.wants k) cs (o.wants k).length)(hk:k<=4)
  (h:aR w.2 S c d p r (jx o oa la ps (λ i=>D.u (i+9)) (cs.map Cl.t)++(aS w.2 D.an cs []++(V++T))) k f1 f2):
  ai w G (fL D w.2 S j oa (wE w G S k D.an cs (o.wants k).length wa oa o.num (o.wants k).length (sr (o.wants k) ut)) (λ _=>.ok (.ret .none)) λ _=>[]):=by
 cases o with
 |get x y=>
  obtain⟨c0,c1⟩:=ll (lc.trans rfl:cs.length=2)
  obtain⟨u0,u1⟩:=ll (ul.trans rfl:ut.length=2)
  exact BE ag x y rfl rfl h4 (ok 0 _ _ (L3 rfl) rfl rfl) (ok 1 _ _ (L3 rfl) rfl rfl) hk h
 |lst x=>
  obtain⟨c0⟩:=qh (lc.trans rfl:cs.length=1)
  obtain⟨u0⟩:=qh (ul.trans rfl:ut.length=1)
  obtain⟨ub,n0⟩:∃t,c0.v= .s (x.p gw aa cy) t:=ok 0 _ _ (L3 rfl) rfl rfl
  exact BH ag x ub rfl h4 (by rw[n0];rfl) h
 |opn md x=>
  cases x
  ·obtain⟨c0,c1⟩:=ll (lc.trans rfl:cs.length=2)
   obtain⟨u0,u1⟩:=ll (ul.trans rfl:ut.length=2)
   obtain⟨ub,n0⟩:∃t,c0.v= .s (ak k) t:=ok 0 _ _ (L3 rfl) rfl rfl
   exact xS ag md ub rfl rfl h4 (by rw[n0];rfl) (ok 1 _ _ (L3 rfl) rfl rfl) hk h
  ·obtain⟨c0,c1,c2⟩:=jy (lc.trans rfl:cs.length=3)
   obtain⟨u0,u1,u2⟩:=jy (ul.trans rfl:ut.length=3)
   obtain⟨ub,n0⟩:∃t,c0.v= .s (ak k) t:=ok 0 _ _ (L3 rfl) rfl rfl
   exact nh ag md .a ub rfl rfl rfl h4 (by rw[n0];rfl) (ok 1 _ _ (L3 rfl) rfl rfl) (ok 2 _ _ (L3 rfl) rfl rfl) hk h
  ·obtain⟨c0,c1,c2⟩:=jy (lc.trans rfl:cs.length=3)
   obtain⟨u0,u1,u2⟩:=jy (ul.trans rfl:ut.length=3)
   obtain⟨ub,n0⟩:∃t,c0.v= .s (ak k) t:=ok 0 _ _ (L3 rfl) rfl rfl
   exact nh ag md .b ub rfl rfl rfl h4 (by rw[n0];rfl) (ok 1 _ _ (L3 rfl) rfl rfl) (ok 2 _ _ (L3 rfl) rfl rfl) hk h
  ·obtain⟨c0,c1,c2⟩:=jy (lc.trans rfl:cs.length=3)
   obtain⟨u0,u1,u2⟩:=jy (ul.trans rfl:ut.length=3)
   obtain⟨ub,n0⟩:∃t,c0.v= .s (ak k) t:=ok 0 _ _ (L3 rfl) rfl rfl
   exact nh ag md .c ub rfl rfl rfl h4 (by rw[n0];rfl) (ok 1 _ _ (L3 rfl) rfl rfl) (ok 2 _ _ (L3 rfl) rfl rfl) hk h
 |cls ms=>
  rcases ms with _ |⟨m0,_ |⟨m1,_ |⟨m2,_ |⟨m3,ms⟩⟩⟩⟩
  ·exact absurd ho.1 (by simp)
  ·obtain⟨c0⟩:=qh (lc.trans rfl:cs.length=1)
   obtain⟨u0⟩:=qh (ul.trans rfl:ut.length=1)
   have b0:=ho.2.2 m0 (L5)
   exact i8 ag (sb m0 rfl h4 (iA b0.2) (ok 0 _ _ (L3 rfl) rfl rfl) (Nat.le_succ_of_le hk) h) (ms:=[(m0,u0)]) (L3 rfl) (L3 rfl) (Nat.le_refl _) (Ac (iA b0.2)) rfl
  ·obtain⟨c0,c1⟩:=ll (lc.trans rfl:cs.length=2)
   obtain⟨u0,u1⟩:=ll (ul.trans rfl:ut.length=2)
   have b0:=ho.2.2 m0 (L5)
   have b1:=ho.2.2 m1 (L7 _ L5)
   exact i8 ag (sf m0 m1 rfl rfl h4 (iA b0.2) (ok 0 _ _ (L3 rfl) rfl rfl) (iA b1.2) (ok 1 _ _ (L3 rfl) rfl rfl) (Nat.le_succ_of_le hk) h) (ms:=[(m0,u0),(m1,u1)]) (L3 rfl) (L3 rfl) (Nat.le_refl _) (xP (iA b0.2) (iA b1.2)) rfl
  ·obtain⟨c0,c1,c2⟩:=jy (lc.trans rfl:cs.length=3)
   obtain⟨u0,u1,u2⟩:=jy (ul.trans rfl:ut.length=3)
   have b0:=ho.2.2 m0 (L5)
   have b1:=ho.2.2 m1 (L7 _ L5)
   have b2:=ho.2.2 m2 (L7 _ (L7 _ L5))
   exact i8 ag (si m0 m1 m2 rfl rfl rfl h4 (iA b0.2) (ok 0 _ _ (L3 rfl) rfl rfl) (iA b1.2) (ok 1 _ _ (L3 rfl) rfl rfl) (iA b2.2) (ok 2 _ _ (L3 rfl) rfl rfl) (Nat.le_succ_of_le hk) h) (ms:=[(m0,u0),(m1,u1),(m2,u2)]) (L3 rfl) (L3 rfl) (Nat.le_refl _) (xQ (iA b0.2) (iA b1.2) (iA b2.2)) rfl
  ·exact absurd ho.2.1 (by simp)
 |fld ms=>
  rcases ms with _ |⟨m0,_ |⟨m1,_ |⟨m2,_ |⟨m3,ms⟩⟩⟩⟩
  ·exact absurd ho.1 (by simp)
  ·obtain⟨c0,c1⟩:=ll (lc.trans rfl:cs.length=2)
   obtain⟨u0,u1⟩:=ll (ul.trans rfl:ut.length=2)
   obtain⟨p0⟩:=qh (pl _ rfl)
   have b0:=ho.2.2 m0 (L5)
   exact wG ag (sj m0 p0 rfl rfl h4 (ok 0 _ _ (L3 rfl) rfl rfl) b0 (ok 1 _ _ (L3 rfl) rfl rfl) ag.n0 h) (ms2:=[(0,m0)]) rfl (λ y hy=>by cases hy;exact⟨rfl,b0⟩) λ S' c' p' f1' f2' T' hb hi j0 t=>sw m0 b0 rfl hi (L2 _) hb j0 wa t
  ·obtain⟨c0,c1,c2⟩:=jy (lc.trans rfl:cs.length=3)
   obtain⟨u0,u1,u2⟩:=jy (ul.trans rfl:ut.length=3)
   obtain⟨p0,p1⟩:=ll (pl _ rfl)
   have b0:=ho.2.2 m0 (L5)
   have b1:=ho.2.2 m1 (L7 _ L5)
   exact wG ag (sm m0 m1 p0 p1 rfl rfl rfl h4 (ok 0 _ _ (L3 rfl) rfl rfl) b0 (ok 1 _ _ (L3 rfl) rfl rfl) b1 (ok 2 _ _ (L3 rfl) rfl rfl) ag.n0 h) (ms2:=[(0,m0),(m0,m1)]) (by rw[Int.zero_add]) (λ y hy=>by cases hy;exact⟨rfl,b0⟩) λ S' c' p' f1' f2' T' hb hi j0 t=>sy m0 m1 b0 b1 rfl hi (L2 _) hb j0 wa t
  ·obtain⟨c0,c1,c2,c3⟩:=yO (lc.trans rfl:cs.length=4)
   obtain⟨u0,u1,u2,u3⟩:=yO (ul.trans rfl:ut.length=4)
   obtain⟨p0,p1,p2⟩:=jy (pl _ rfl)
   have b0:=ho.2.2 m0 (L5)
   have b1:=ho.2.2 m1 (L7 _ L5)
   have b2:=ho.2.2 m2 (L7 _ (L7 _ L5))
   exact wG ag (sn m0 m1 m2 p0 p1 p2 rfl rfl rfl rfl h4 (ok 0 _ _ (L3 rfl) rfl rfl) b0 (ok 1 _ _ (L3 rfl) rfl rfl) b1 (ok 2 _ _ (L3 rfl) rfl rfl) b2 (ok 3 _ _ (L3 rfl) rfl rfl) ag.n0 h) (ms2:=[(0,m0),(m0,m1),(m0+m1,m2)]) (by rw[Int.zero_add]) (λ y hy=>by cases hy;exact⟨rfl,b0⟩) λ S' c' p' f1' f2' T' hb hi j0 t=>sB m0 m1 m2 b0 b1 b2 rfl hi (L2 _) hb j0 wa t
  ·exact absurd ho.2.1 (by simp)
end
section
variable {w:World}{G:Shared}{S:St}{c d:List Ch}{p r:List Pa}{V T:HL}{k:Nat}{f1 f2:Str}{D:Rq}{cs:List Cl}{j:Nat->Nat}{oa la wa:Nat}{ut ps:List Nat}{cd:Str}
theorem f6{P:Params}{O E A:HL}(h:aR P S c d p r ((O++E)++(A++(V++T))) k f1 f2):aR P S c d p r (O++(A++(V++(E++T)))) k f1 f2:=dD h (by
 rw[L9]
 exact dQ O ((ao E A _).trans (dQ A (ao E V T))))
variable (ag:kg S c d p r f1 f2)
include ag
theorem Ae(o:gF)(ho:o.ok)(lc:cs.length=(o.wants k).length)(ul:ut.length=(o.wants k).length)(pl:∀ms,o= .fld ms->ps.length=ms.length)(h4:cs.length<=4){i:Nat}(hi:i<(o.wants k).length)
  (ok:OkW w G V (o.wants k) cs i)(er:BJ w G V (o.wants k) cs i cd)(hk:k<=4)
  (h:aR w.2 S c d p r (jx o oa la ps (λ i=>D.u (i+9)) (cs.map Cl.t)++(aS w.2 D.an cs []++(V++T))) k f1 f2):
  ai w G (fL D w.2 S j oa (wE w G S k D.an cs (i+1) wa oa o.num i (sr (o.wants k) ut)) (λ g=>.error (rA (g.n 7))) λ g=>dN w.2 cd g):=by
 cases o with
 |get x y=>
  obtain⟨c0,c1⟩:=ll (lc.trans rfl:cs.length=2)
  obtain⟨u0,u1⟩:=ll (ul.trans rfl:ut.length=2)
  rcases i with _ |_ |i
  ·exact lu ag .a (v3:=.none) (v4:=.none) (O:=[]) (qa x c1.t rfl h4 (er.n rfl rfl) h) (L3 rfl) (Int.ofNat_lt.mpr (L3 rfl)) (by cases x<;>rfl)
  ·exact lu ag .a (v3:=.none) (v4:=.none) (O:=[]) (qb x rfl rfl h4 (ok 0 _ _ (L3 rfl) rfl rfl) (er.n rfl rfl) h) (L3 rfl) (Int.ofNat_lt.mpr (L3 rfl)) (by cases x<;>rfl)
  ·exact absurd hi (kh i)
 |lst x=>
  obtain⟨c0⟩:=qh (lc.trans rfl:cs.length=1)
  obtain⟨u0⟩:=qh (ul.trans rfl:ut.length=1)
  rcases i with _ |i
  ·obtain⟨rfl,et⟩:=er.s rfl rfl
   exact lu ag .a (v3:=.none) (v4:=.none) (O:=[]) (so rfl h4 et h) (L3 rfl) (Int.ofNat_lt.mpr (L3 rfl)) rfl
  ·exact absurd hi (rr i)
 |opn md x=>
  cases x
  ·obtain⟨c0,c1⟩:=ll (lc.trans rfl:cs.length=2)
   obtain⟨u0,u1⟩:=ll (ul.trans rfl:ut.length=2)
   rcases i with _ |_ |i
   ·obtain⟨rfl,et⟩:=er.s rfl rfl
    exact lu ag .b (O:=[]) (fj md c1.t .none rfl h4 et h) (L3 rfl) (Int.ofNat_lt.mpr (L3 rfl)) rfl
   ·obtain⟨ub,n0⟩:∃t,c0.v= .s (ak k) t:=ok 0 _ _ (L3 rfl) rfl rfl
    exact lu ag .b (O:=[]) (fk md ub .none rfl rfl h4 (by rw[n0];rfl) (er.n rfl rfl) h) (L3 rfl) (Int.ofNat_lt.mpr (L3 rfl)) rfl
   ·exact absurd hi (kh i)
  ·obtain⟨c0,c1,c2⟩:=jy (lc.trans rfl:cs.length=3)
   obtain⟨u0,u1,u2⟩:=jy (ul.trans rfl:ut.length=3)
   rcases i with _ |_ |_ |i
   ·obtain⟨rfl,et⟩:=er.s rfl rfl
    exact lu ag .b (O:=[]) (fj md c1.t (rA c2.t) rfl h4 et h) (L3 rfl) (Int.ofNat_lt.mpr (L3 rfl)) rfl
   ·obtain⟨ub,n0⟩:∃t,c0.v= .s (ak k) t:=ok 0 _ _ (L3 rfl) rfl rfl
    exact lu ag .b (O:=[]) (fk md ub (rA c2.t) rfl rfl h4 (by rw[n0];rfl) (er.n rfl rfl) h) (L3 rfl) (Int.ofNat_lt.mpr (L3 rfl)) rfl
   ·obtain⟨ub,n0⟩:∃t,c0.v= .s (ak k) t:=ok 0 _ _ (L3 rfl) rfl rfl
    exact lu ag .b (O:=[]) (gE md ub rfl rfl rfl h4 (by rw[n0];rfl) (ok 1 _ _ (L3 rfl) rfl rfl) (er.n rfl rfl) h) (L3 rfl) (Int.ofNat_lt.mpr (L3 rfl)) rfl
   ·exact absurd hi (i7 i)
  ·obtain⟨c0,c1,c2⟩:=jy (lc.trans rfl:cs.length=3)
   obtain⟨u0,u1,u2⟩:=jy (ul.trans rfl:ut.length=3)
   rcases i with _ |_ |_ |i
   ·obtain⟨rfl,et⟩:=er.s rfl rfl
    exact lu ag .b (O:=[]) (fj md c1.t (rA c2.t) rfl h4 et h) (L3 rfl) (Int.ofNat_lt.mpr (L3 rfl)) rfl
   ·obtain⟨ub,n0⟩:∃t,c0.v= .s (ak k) t:=ok 0 _ _ (L3 rfl) rfl rfl
    exact lu ag .b (O:=[]) (fk md ub (rA c2.t) rfl rfl h4 (by rw[n0];rfl) (er.n rfl rfl) h) (L3 rfl) (Int.ofNat_lt.mpr (L3 rfl)) rfl
   ·obtain⟨ub,n0⟩:∃t,c0.v= .s (ak k) t:=ok 0 _ _ (L3 rfl) rfl rfl
    exact lu ag .b (O:=[]) (gE md ub rfl rfl rfl h4 (by rw[n0];rfl) (ok 1 _ _ (L3 rfl) rfl rfl) (er.n rfl rfl) h) (L3 rfl) (Int.ofNat_lt.mpr (L3 rfl)) rfl
   ·exact absurd hi (i7 i)
  ·obtain⟨c0,c1,c2⟩:=jy (lc.trans rfl:cs.length=3)
   obtain⟨u0,u1,u2⟩:=jy (ul.trans rfl:ut.length=3)
   rcases i with _ |_ |_ |i
   ·obtain⟨rfl,et⟩:=er.s rfl rfl
    exact lu ag .b (O:=[]) (fj md c1.t (rA c2.t) rfl h4 et h) (L3 rfl) (Int.ofNat_lt.mpr (L3 rfl)) rfl
   ·obtain⟨ub,n0⟩:∃t,c0.v= .s (ak k) t:=ok 0 _ _ (L3 rfl) rfl rfl
    exact lu ag .b (O:=[]) (fk md ub (rA c2.t) rfl rfl h4 (by rw[n0];rfl) (er.n rfl rfl) h) (L3 rfl) (Int.ofNat_lt.mpr (L3 rfl)) rfl
   ·obtain⟨ub,n0⟩:∃t,c0.v= .s (ak k) t:=ok 0 _ _ (L3 rfl) rfl rfl
    exact lu ag .b (O:=[]) (gE md ub rfl rfl rfl h4 (by rw[n0];rfl) (ok 1 _ _ (L3 rfl) rfl rfl) (er.n rfl rfl) h) (L3 rfl) (Int.ofNat_lt.mpr (L3 rfl)) rfl
   ·exact absurd hi (i7 i)
 |cls ms=>
  rcases ms with _ |⟨m0,_ |⟨m1,_ |⟨m2,_ |⟨m3,ms⟩⟩⟩⟩
  ·exact absurd ho.1 (by simp)
  ·obtain⟨c0⟩:=qh (lc.trans rfl:cs.length=1)
   obtain⟨u0⟩:=qh (ul.trans rfl:ut.length=1)
   have b0:=ho.2.2 m0 (L5)
   rcases i with _ |i
   ·exact i8 ag (ij 0 [] rfl h4 (er.n rfl rfl) (Nat.le_succ_of_le hk) h) (ms:=[(m0,u0)]) (n:=0) (L3 rfl) (L3 rfl) (L3 rfl) (Ac (iA b0.2)) rfl
   ·exact absurd hi (rr i)
  ·obtain⟨c0,c1⟩:=ll (lc.trans rfl:cs.length=2)
   obtain⟨u0,u1⟩:=ll (ul.trans rfl:ut.length=2)
   have b0:=ho.2.2 m0 (L5)
   have b1:=ho.2.2 m1 (L7 _ L5)
   rcases i with _ |_ |i
   ·exact i8 ag (ij 0 [rA c1.t] rfl h4 (er.n rfl rfl) (Nat.le_succ_of_le hk) h) (ms:=[(m0,u0),(m1,u1)]) (n:=0) (L3 rfl) (L3 rfl) (L3 rfl) (xP (iA b0.2) (iA b1.2)) rfl
   ·exact i8 ag (lj m0 0 [] rfl rfl h4 (iA b0.2) (ok 0 _ _ (L3 rfl) rfl rfl) (er.n rfl rfl) (Nat.le_succ_of_le hk) h) (ms:=[(m0,u0),(m1,u1)]) (n:=1) (L3 rfl) (L3 rfl) (L3 rfl) (xP (iA b0.2) (iA b1.2)) rfl
   ·exact absurd hi (kh i)
  ·obtain⟨c0,c1,c2⟩:=jy (lc.trans rfl:cs.length=3)
   obtain⟨u0,u1,u2⟩:=jy (ul.trans rfl:ut.length=3)
   have b0:=ho.2.2 m0 (L5)
   have b1:=ho.2.2 m1 (L7 _ L5)
   have b2:=ho.2.2 m2 (L7 _ (L7 _ L5))
   rcases i with _ |_ |_ |i
   ·exact i8 ag (ij 0 [rA c1.t,rA c2.t] rfl h4 (er.n rfl rfl) (Nat.le_succ_of_le hk) h) (ms:=[(m0,u0),(m1,u1),(m2,u2)]) (n:=0) (L3 rfl) (L3 rfl) (L3 rfl) (xQ (iA b0.2) (iA b1.2) (iA b2.2)) rfl
   ·exact i8 ag (lj m0 0 [rA c2.t] rfl rfl h4 (iA b0.2) (ok 0 _ _ (L3 rfl) rfl rfl) (er.n rfl rfl) (Nat.le_succ_of_le hk) h) (ms:=[(m0,u0),(m1,u1),(m2,u2)]) (n:=1) (L3 rfl) (L3 rfl) (L3 rfl) (xQ (iA b0.2) (iA b1.2) (iA b2.2)) rfl
   ·exact i8 ag (qf m0 m1 0 [] rfl rfl rfl h4 (iA b0.2) (ok 0 _ _ (L3 rfl) rfl rfl) (iA b1.2) (ok 1 _ _ (L3 rfl) rfl rfl) (er.n rfl rfl) (Nat.le_succ_of_le hk) h) (ms:=[(m0,u0),(m1,u1),(m2,u2)]) (n:=2) (L3 rfl) (L3 rfl) (L3 rfl) (xQ (iA b0.2) (iA b1.2) (iA b2.2)) rfl
   ·exact absurd hi (i7 i)
  ·exact absurd ho.2.1 (by simp)
 |fld ms=>
  rcases ms with _ |⟨m0,_ |⟨m1,_ |⟨m2,_ |⟨m3,ms⟩⟩⟩⟩
  ·exact absurd ho.1 (by simp)
  ·obtain⟨c0,c1⟩:=ll (lc.trans rfl:cs.length=2)
   obtain⟨u0,u1⟩:=ll (ul.trans rfl:ut.length=2)
   obtain⟨p0⟩:=qh (pl _ rfl)
   rcases i with _ |_ |i
   ·exact lu ag .a (v3:=.none) (v4:=.none) (io rfl h4 (er.n rfl rfl) (f6 (E:=[(la+822,lO 1 [rA p0]),(p0+822,tO [rA c1.t,.str ad (D.u 10)])]) h)) (L3 rfl) (Int.ofNat_lt.mpr (L3 rfl)) rfl
   ·exact lu ag .a (v3:=.none) (v4:=.none) (ik p0 1 [] rfl rfl h4 (ok 0 _ _ (L3 rfl) rfl rfl) (er.n rfl rfl) (f6 (E:=[]) h)) (L3 rfl) (Int.ofNat_lt.mpr (L3 rfl)) rfl
   ·exact absurd hi (kh i)
  ·obtain⟨c0,c1,c2⟩:=jy (lc.trans rfl:cs.length=3)
   obtain⟨u0,u1,u2⟩:=jy (ul.trans rfl:ut.length=3)
   obtain⟨p0,p1⟩:=ll (pl _ rfl)
   rcases i with _ |_ |_ |i
   ·exact lu ag .a (v3:=.none) (v4:=.none) (io rfl h4 (er.n rfl rfl) (f6 (E:=[(la+822,lO 2 [rA p0,rA p1]),(p0+822,tO [rA c1.t,.str ad (D.u 10)]),(p1+822,tO [rA c2.t,.str av (D.u 11)])]) h)) (L3 rfl) (Int.ofNat_lt.mpr (L3 rfl)) rfl
   ·exact lu ag .a (v3:=.none) (v4:=.none) (ik p0 2 [rA p1] rfl rfl h4 (ok 0 _ _ (L3 rfl) rfl rfl) (er.n rfl rfl) (f6 (E:=[(p1+822,tO [rA c2.t,.str av (D.u 11)])]) h)) (L3 rfl) (Int.ofNat_lt.mpr (L3 rfl)) rfl
   ·exact lu ag .a (v3:=.none) (v4:=.none) (lk m0 p0 p1 2 [] rfl rfl rfl h4 (ok 0 _ _ (L3 rfl) rfl rfl) (ok 1 _ _ (L3 rfl) rfl rfl) (er.n rfl rfl) (f6 (E:=[]) h)) (L3 rfl) (Int.ofNat_lt.mpr (L3 rfl)) rfl
   ·exact absurd hi (i7 i)
  ·obtain⟨c0,c1,c2,c3⟩:=yO (lc.trans rfl:cs.length=4)
   obtain⟨u0,u1,u2,u3⟩:=yO (ul.trans rfl:ut.length=4)
   obtain⟨p0,p1,p2⟩:=jy (pl _ rfl)
   rcases i with _ |_ |_ |_ |i
   ·exact lu ag .a (v3:=.none) (v4:=.none) (io rfl h4 (er.n rfl rfl) (f6 (E:=[(la+822,lO 3 [rA p0,rA p1,rA p2]),(p0+822,tO [rA c1.t,.str ad (D.u 10)]),(p1+822,tO [rA c2.t,.str av (D.u 11)]),(p2+822,tO [rA c3.t,.str bb (D.u 12)])]) h)) (L3 rfl) (Int.ofNat_lt.mpr (L3 rfl)) rfl
   ·exact lu ag .a (v3:=.none) (v4:=.none) (ik p0 3 [rA p1,rA p2] rfl rfl h4 (ok 0 _ _ (L3 rfl) rfl rfl) (er.n rfl rfl) (f6 (E:=[(p1+822,tO [rA c2.t,.str av (D.u 11)]),(p2+822,tO [rA c3.t,.str bb (D.u 12)])]) h)) (L3 rfl) (Int.ofNat_lt.mpr (L3 rfl)) rfl
   ·exact lu ag .a (v3:=.none) (v4:=.none) (lk m0 p0 p1 3 [rA p2] rfl rfl rfl h4 (ok 0 _ _ (L3 rfl) rfl rfl) (ok 1 _ _ (L3 rfl) rfl rfl) (er.n rfl rfl) (f6 (E:=[(p2+822,tO [rA c3.t,.str bb (D.u 12)])]) h)) (L3 rfl) (Int.ofNat_lt.mpr (L3 rfl)) rfl
   ·exact lu ag .a (v3:=.none) (v4:=.none) (qg m0 m1 p0 p1 p2 3 [] rfl rfl rfl rfl h4 (ok 0 _ _ (L3 rfl) rfl rfl) (ok 1 _ _ (L3 rfl) rfl rfl) (ok 2 _ _ (L3 rfl) rfl rfl) (er.n rfl rfl) (f6 (E:=[]) h)) (L3 rfl) (Int.ofNat_lt.mpr (L3 rfl)) rfl
   ·exact absurd hi (xR i)
  ·exact absurd ho.2.1 (by simp)
end
theorem rv:∀(ws:List Wn) (ts:List Nat),ts.length=ws.length->(sr ws ts).length=ws.length
 |[],_,_=>by cases ‹List Nat›<;>rfl
 |_::_,[],h=>by simp at h
 |_::ws,_::ts,h=>congrArg (·+1) (rv ws ts (by simpa using h))
theorem qo{ms:List Int}(h:∀m∈ms,0<=m/\m<=9)(n0:ms≠ [])(l4:ms.length<=4):zR (ms.map .n):=
 ⟨λ y hy=>by
  obtain⟨m,hm,rfl⟩:=bZ.mp hy
  exact h m hm,λ y hy=>by
  obtain⟨m,_,rfl⟩:=bZ.mp (List.mem_of_mem_tail hy)
  exact⟨m,rfl⟩,by simpa using n0,by simpa using l4⟩
theorem oI{o:gF}{k:Nat}(hk:k<=4)(h:o.ok):zR (o.wants k):=by
 cases o with
 |opn md x=>cases x<;>exact⟨λ y hy=>by simp[gF.wants,T4.p] at hy;rcases hy with rfl |rfl |rfl<;>first |rfl |(show(0:Int)<=_/\_<=(9:Int);omega),λ y hy=>by simp[gF.wants,T4.p] at hy;first |exact⟨_,hy⟩ |(rcases hy with rfl |rfl<;>exact⟨_,rfl⟩),by simp[gF.wants],by simp[gF.wants,T4.p]⟩
 |fld ms=>
  obtain⟨h1,h2,h3⟩:=h
  exact qo (ms:=9::ms) (λ m hm=>by
   rcases lI.mp hm with rfl |hm
   ·omega
   ·have:=h3 m hm;omega) (by simp) (by simp;omega)
 |get x y=>cases y<;>exact qo (ms:=[9,_]) (λ m hm=>by simp[T2.p] at hm;omega) (by simp) (by simp)
 |cls ms=>
  obtain⟨h1,h2,h3⟩:=h
  exact qo (λ m hm=>by have:=h3 m hm;omega) (by intro e;rw[e] at h1;simp at h1) (by omega)
 |lst x=>exact⟨λ y hy=>by simp[gF.wants] at hy;subst hy;rfl,λ y hy=>by simp[gF.wants] at hy,by simp[gF.wants],by simp[gF.wants]⟩
theorem BK{n:Nat}(h1:1<=n)(h4:n<=4)(a b c d:Nat):bJ (Int.ofNat n) [.str bq a,.str bH b,.str ca c,.str cG d]=(gU 0 ([a,b,c,d].take n)).map Wd.v:=by
 match n,h1,h4 with
 |1,_,_=>rfl
 |2,_,_=>rfl
 |3,_,_=>rfl
 |4,_,_=>rfl
def wH(a b c d n i:Nat):Prop:=bJ ((i:Int)+1) (bJ (Int.ofNat n) [.str bq a,.str bH b,.str ca c,.str cG d])=(gU 0 ([a,b,c,d].take (i+1))).map Wd.v
theorem Af{n i:Nat}(h1:1<=n)(h4:n<=4)(hi:i<n)(a b c d:Nat):wH a b c d n i:=by
 have hi:=Nat.le_sub_one_of_lt hi
 obtain⟨m,rfl⟩:∃m,n=m+1:=⟨n-1,(Nat.sub_add_cancel h1).symm⟩
 exact C2 (C:=λ m=>i<=m->wH a b c d (m+1) i) (Nat.le_of_succ_le_succ h4) (λ h=>by obtain rfl:=Nat.le_zero.mp h;show _=_;kernel_rfl) (λ h=>C1 (C:=wH a b c d 2) h (by show _=_;kernel_rfl) (by show _=_;kernel_rfl)) (λ h=>Cg (C:=wH a b c d 3) h (by show _=_;kernel_rfl) (by show _=_;kernel_rfl) (by show _=_;kernel_rfl)) (λ h=>C2 (C:=wH a b c d 4) h (by show _=_;kernel_rfl) (by show _=_;kernel_rfl) (by show _=_;kernel_rfl) (by show _=_;kernel_rfl)) hi
theorem f7:∀(i:Nat) (es:List Nat),(gU i es).length=es.length
 |_,[]=>rfl
 |i,_::es=>congrArg (·+1) (f7 (i+1) es)
theorem xT:∀{tr:List Tr} {es:List Nat} {ps:List (Nat×Nat)} {vs:List AV},jY tr es ps vs->(m6 tr es ps vs).length=tr.length
 |_,_,_,_,.a .. =>rfl
 |_,_,_,_,.b .. =>rfl
 |_,_,_,_,.c .. =>rfl
 |_,_,_,_,.d .. =>rfl
theorem BM:∀{tr:List Tr} {es:List Nat} {ps:List (Nat×Nat)} {vs:List AV},jY tr es ps vs->(m6 tr es ps vs).map Cl.t=tr.map Tr.t
 |_,_,_,_,.a .. =>rfl
 |_,_,_,_,.b .. =>rfl
 |_,_,_,_,.c .. =>rfl
 |_,_,_,_,.d .. =>rfl
theorem BN:∀{tr:List Tr} {es:List Nat} {ps:List (Nat×Nat)} {vs:List AV},jY tr es ps vs->vs=(m6 tr es ps vs).map Cl.v
 |_,_,_,_,.a .. =>rfl
 |_,_,_,_,.b .. =>rfl
 |_,_,_,_,.c .. =>rfl
 |_,_,_,_,.d .. =>rfl
theorem BQ{cs:List Cl}{vs:List AV}(e:vs=cs.map Cl.v){i:Nat}{c:Cl}(h:cs[i]? =some c):vs[i]? =some c.v:=by rw[e,qz,h];rfl
section
variable {w:World}{G:Shared}
structure F2(w:World)(G:Shared)(S:St)(c d:List Ch)(p r:List Pa)(k:Nat)(f1 f2:Str)(o:gF)(dn:Nat)(g1 g2:Gh)(D:yL)(T V:HL)(vs:List AV)(ct:Nat)(tl:HL):Prop where
 eo:D.o=o
 en:D.n=dn
 ok:yL.Ok D k
 wl:g1.vl 0=sr (o.wants k) D.ut
 nm:g1.n 5=o.num
 pl:g2.l.Perm (aP w.2 (jT S (dn+(o.wants k).length) ct tl))
 iv:aR w.2 (jT S (dn+(o.wants k).length) ct tl) c d p r (V++(jx o (g1.n 2) D.la D.ps D.ou (D.tr.map Tr.t)++(yK 0 D.tr++T))) k f1 f2
 rl:f4 w G V (o.wants k) vs aa 0 (fM S (o.wants k) dn aa 0).1 (fM S (o.wants k) dn aa 0).2
 vl:g2.vl 0=vs.map AV.v
 v1:∃t,g2.v 1= .str (fM S (o.wants k) dn aa 0).1 t
 v0:∃t,g2.v 0= .int (fM S (o.wants k) dn aa 0).2 t
inductive BR(w:World)(G:Shared)(S:St)(c d:List Ch)(p r:List Pa)(k:Nat)(f1 f2:Str)(o:gF)(dn:Nat)(g1 g2:Gh):Prop
 |mk (D T V vs ct tl:_) (f:F2 w G S c d p r k f1 f2 o dn g1 g2 D T V vs ct tl)
variable {S:St}{c d:List Ch}{p r:List Pa}{T:HL}{k:Nat}{f1 f2:Str}{o:gF}{dn:Nat}{L:HL}
theorem yV(hk:k<=4)(hc:dP S)(hn:S.cnt<=100){g1:Gh}(a1:gG w.2 S c d p r k f1 f2 o dn g1)(j0:Nat):
  ai w G ⟨au 797 [rA (S.a 13),rA (g1.n 3)],60,[(j0,g1.n 3+822,lO (g1.n 5) (g1.vl 0))],g1.l,λ g2=>BR w G S c d p r k f1 f2 o dn g1 g2,
   λ g=>⟨.ok (.ret (rA (g.n 3))),[lO (g1.n 5) (g1.vl 0)],[(g.n 3+822,tO [rA (g.n 2),.int (iO (g.v 0)) (g.n 5),.str (sO (g.v 1)) (g.n 6)]),(g.n 2+822,lO (g.n 4) (g.vl 0))],g.l⟩⟩:=by
 obtain⟨D,T,ct,tl,h1,h2,h3,h4,h5,h6,h7⟩:=a1
 subst h1 h2
 have hw:=oI hk h3.ok
 have l4:=hw.l4
 have n5:=h3.n
 have z:=zS (G:=G) hw (lt:=h3.ul.symm) hc (n:=D.n) (by omega) h5 (L:=g1.l) (.of_eq h4) j0 (g1.n 3) (g1.n 5)
 rw[<-h6] at z
 exact ai.im z (Nat.le_refl _) (L2 _) λ g hp=>by
   obtain⟨V,vs,ct,tl,b1,b2,b3,b4,b5,b6⟩:=hp
   exact⟨D,T,V,vs,ct,tl,rfl,rfl,h3,h6,h7,b1,b2,b3,b4,b5,b6⟩
end
section
variable {w:World}{G:Shared}{S:St}{c d:List Ch}{p r:List Pa}{k:Nat}{f1 f2:Str}{o:gF}{dn:Nat}
theorem wI:∀(ws:List Wd) (vs:List AV) (q:Pr) (L:HL),ws≠ []->Da q [] ws vs->
  ai w G ⟨fC true mi (rA (q.a 1)) (rA (q.a 6)) (fD mi (bh w.2) (q.a 0+822) (q.a 20+822)),60,(B5.D w.2 q (.i 0 0) dh).i,L,wW L [] ws vs,λ g=>⟨.ok .next,[dO 2 [kS w.2 aV (g.n 4) (g.v 0),kS w.2 de (g.n 5) (g.v 1)],oj (q.a 7) (q.a 8),eT (g.n 2),dB (q.a 5+822) (g.n 2),lO (q.en 4) (q.l 1),lO (q.en 5) (q.l 2),aO (g.n 3) ⟨g.vl 0⟩,tO [rA (q.a 2),rA (q.a 3)],tO [g.v 0,g.v 1]],[],g.l⟩⟩
 |[],_,_,_,h,_=>absurd rfl h
 |x::xs,[],_,_,_,h=>by have:=h.lw;simp at this
 |x::xs,v::vs,q,L,_,h=>Bw x xs v vs q L h
theorem wJ:∀(ws:List Wd) (q:Pr) (L:HL),ws≠ []->Dc q [] ws->
  ai w G ⟨fC true ml (rA (q.a 1)) (rA (q.a 3)) (fD ml (bh w.2) (q.a 0+822) (q.a 20+822)),60,(B6.D w.2 q dh).i,L,wX L [] ws,λ g=>⟨.ok .next,[dO 1 [kS w.2 aV (g.n 4) (g.v 0)],eT (g.n 2),lO (q.en 4) (q.l 1),aO (g.n 3) ⟨g.vl 0⟩],[],g.l⟩⟩
 |[],_,_,h,_=>absurd rfl h
 |x::xs,q,L,_,h=>Bx x xs q L h
inductive P5(w:World)(G:Shared)(S:St)(c d:List Ch)(p r:List Pa)(k:Nat)(f1 f2:Str)(o:gF)(dn:Nat)(es:List Nat)(g1 g2 g5:Gh):Prop
 |mk (D T V vs ct tl ps:_) (x1:F2 w G S c d p r k f1 f2 o dn g1 g2 D T V vs ct tl) (x2:ps.length=es.length) (x3:g5.vl 0=bX ps) (x4:g5.n 3=ps.length) (x5:g5.l.Perm (m5 (gU 0 es) vs ps++g2.l))
inductive P6(w:World)(G:Shared)(S:St)(c d:List Ch)(p r:List Pa)(k:Nat)(f1 f2:Str)(o:gF)(dn:Nat)(es:List Nat)(g1 g2 g6:Gh):Prop
 |mk (D T V vs ct tl ps:_) (x1:F2 w G S c d p r k f1 f2 o dn g1 g2 D T V vs ct tl) (x2:jY D.tr es ps vs) (x3:g6.l.Perm ((g6.n 2+822,oD ⟨jX w.2 0 (m6 D.tr es ps vs)⟩ (m6 D.tr es ps vs).length)::(m5 (gU 0 es) vs ps++g2.l)))
def Co(S S6:St)(n:Nat):Prop:=S6.a=S.a/\S6.u=S.u/\S6.cells=S.cells/\S6.cnt=S.cnt+n
inductive P7(w:World)(G:Shared)(S:St)(k:Nat)(o:gF)(dn N:Nat)(right:Int)(g1 g6 g7:Gh):Prop
 |mk (S6 cs:_) (x1:Co S S6 (dn+(o.wants k).length)) (x2:cs.length=(o.wants k).length) (x3:wE w G S6 k (g6.n 2) cs N (g1.n 3) (g1.n 2) (g1.n 5) right (g1.vl 0) g7)
inductive P8(w:World)(S:St)(k:Nat)(o:gF)(dn N:Nat)(g6 g7 g8:Gh):Prop
 |mk (S6 cs ts:_) (x1:Co S S6 (dn+(o.wants k).length)) (x2:cs.length=(o.wants k).length) (x3:ts.length=N) (x4:g7.n 2=N) (x5:g7.vl 0=bX ts) (x6:Dk w.2 S6 k (g6.n 2) cs ts g8.l)
inductive P9(w:World)(S:St)(k:Nat)(o:gF)(dn N:Nat)(es:List Nat)(g6 g7 g8 g9:Gh):Prop
 |mk (S6 cs ts ps:_) (x1:Co S S6 (dn+(o.wants k).length)) (x2:cs.length=(o.wants k).length) (x3:ts.length=N) (x4:g7.n 2=N) (x5:g7.vl 0=bX ts) (x6:Dk w.2 S6 k (g6.n 2) cs ts g8.l) (x7:ps.length=es.length) (x8:g9.vl 0=bX ps) (x9:g9.n 3=ps.length) (x10:g9.l.Perm (wf (gU 0 es) ps++g8.l))
theorem F2.len{g1 g2:Gh}{D:yL}{T V:HL}{vs:List AV}{ct:Nat}{tl:HL}(h:F2 w G S c d p r k f1 f2 o dn g1 g2 D T V vs ct tl):vs.length=(o.wants k).length:=(fH h.rl).1
theorem wK(hk:k<=4){es:List Nat}(he:es.length=(o.wants k).length){g1 g2 g5:Gh}(a5:P5 w G S c d p r k f1 f2 o dn es g1 g2 g5)(la j0:Nat):
  ai w G ⟨.call (.type "dict") ⟨[rA la],[]⟩,60,[(j0,la+822,aO (g5.n 3) ⟨g5.vl 0⟩)],g5.l,P6 w G S c d p r k f1 f2 o dn es g1 g2,λ g=>⟨.ok (.ret (rA (g.n 2))),[aO (g5.n 3) ⟨g5.vl 0⟩],[],g.l⟩⟩:=by
 obtain⟨D,T,V,vs,ct,tl,ps,f,h1,h2,h3,h4⟩:=a5
 have hw:=oI hk (f.eo▸f.ok.ok)
 have h0:1<=(o.wants k).length:=DA.mpr hw.nz
 have fo:jY D.tr es ps vs:=Dd h0 hw.l4 (by have:=f.ok.tl;rw[f.eo] at this;exact this) he (h1.trans he) f.len
 rw[h2,h3]
 exact ai.im (xK fo la j0 h4) (Nat.le_refl _) (L2 _) λ g hg=>⟨D,T,V,vs,ct,tl,ps,f,fo,hg⟩
inductive EH(w:World)(G:Shared)(S:St)(c d:List Ch)(p r:List Pa)(k:Nat)(f1 f2:Str)(o:gF)(dn:Nat)(g1 g2 g6:Gh):Prop
 |mk (S6 cs V T vs D ct tl:_) (f:F2 w G S c d p r k f1 f2 o dn g1 g2 D T V vs ct tl) (x1:Co S S6 (dn+(o.wants k).length)) (x2:vs=cs.map Cl.v) (x3:cs.length=(o.wants k).length) (x4:kg S6 c d p r f1 f2) (x5:g6.l.Perm (aP w.2 S6)) (X:HL) (x6:aR w.2 S6 c d p r (jx o (g1.n 2) D.la D.ps D.ou (cs.map Cl.t)++(aS w.2 (g6.n 2) cs []++(V++X))) k f1 f2)
inductive EI(w:World)(S:St)(k n:Nat)(l:HL):Prop
 |mk (S9 c2 d2 p2 r2 a b T2:_) (x1:S9.a=S.a) (x2:S9.u=S.u) (x3:S9.cells=S.cells) (x4:S9.cnt=S.cnt+(n:Int)) (x5:l.Perm (aP w.2 S9)) (x6:aR w.2 S9 c2 d2 p2 r2 T2 (k+1) a b) (x7:kg S9 c2 d2 p2 r2 a b)
theorem yW(hk:k<=4)(ag:kg S c d p r f1 f2){es:List Nat}{g1 g2 g6:Gh}(a6:P6 w G S c d p r k f1 f2 o dn es g1 g2 g6):EH w G S c d p r k f1 f2 o dn g1 g2 g6:=by
 obtain⟨D,T,V,vs,ct,tl,ps,f,fo,h4⟩:=a6
 obtain⟨X,hX⟩:=zT fo w.2 (g6.n 2)
 let E:HL:=(g6.n 2+822,oD ⟨jX w.2 0 (m6 D.tr es ps vs)⟩ (m6 D.tr es ps vs).length)::m5 (gU 0 es) vs ps
 let S6:St:={jT S (dn+(o.wants k).length) ct tl with tail:=E++tl}
 have hX:(E++yK 0 D.tr).Perm (aS w.2 (g6.n 2) (m6 D.tr es ps vs) []++X):=hX
 refine⟨S6,m6 D.tr es ps vs,V,T,vs,D,ct,tl,f,⟨rfl,rfl,rfl,rfl⟩,BN fo,(xT fo).trans (by have:=f.ok.tl;rw[f.eo] at this;exact this),⟨ag.ch,ag.pa,ag.bf,ag.e1,ag.e2,ag.n0,ag.n1,ag.n2,ag.md,ag.hd⟩,?_,X++T,?_⟩
 ·refine h4.trans ?_
  show(E++g2.l).Perm (bj w.2 S6++(E++tl))
  exact(f.pl.append_left E).trans (ao _ _ _)
 ·have i6:aR w.2 S6 c d p r (E++(V++(jx o (g1.n 2) D.la D.ps D.ou (D.tr.map Tr.t)++(yK 0 D.tr++T)))) k f1 f2:=gT f.iv E
  rw[BM fo]
  refine dD i6 ?_
  refine((ao V _ _).append_left E).trans ((ao E _ _).trans (dQ _ ?_))
  refine((ao V (yK 0 D.tr) T).append_left E).trans ?_
  rw[<-L9 E]
  refine(hX.append_right _).trans ?_
  rw[L9]
  exact dQ _ (ao X V T)
noncomputable def D0(b:Nat->Nat)(ou:Nat->Nat):Nat->Nat
 |i+9=>ou i
 |i=>b i
theorem BS(hk:k<=4)(ag:kg S c d p r f1 f2)(good:(fM S (o.wants k) dn aa 0).1=aa){es:List Nat}{g1 g2 g6:Gh}(a6:P6 w G S c d p r k f1 f2 o dn es g1 g2 g6)(rn rd as co:Nat)(b:Nat->Nat)(j:Nat->Nat):
  ai w G ⟨au 326 [rA rn,rA (g1.n 2)],60,(⟨rn,rd,as,g6.n 2,co,b⟩:Rq).i w.2 S j (lO 0 []),g6.l,P7 w G S k o dn (o.wants k).length (iO (g2.v 0)) g1 g6,λ g=>⟨.ok (.ret .none),(⟨rn,rd,as,g6.n 2,co,b⟩:Rq).f w.2 S g,[],g.l⟩⟩:=by
 obtain⟨S6,cs,V,T,vs,D,ct,tl,f,ls,own,lc,ag6,hL,X,hi⟩:=yW hk ag a6
 have eo:=f.eo
 subst eo
 let Dq:Rq:=⟨rn,rd,as,g6.n 2,co,D0 b D.ou⟩
 rcases(fH f.rl).2 with⟨z1,z2,z3⟩ |⟨z1,_⟩
 ·have hz:=Ad (D:=Dq) (j:=j) (wa:=g1.n 3) ag6 D.o f.ok.ok lc f.ok.ul f.ok.pl (lc▸(oI hk f.ok.ok).l4) (λ q x y _ a b=>z3 q x y.v a (BQ own b)) hk hi
  obtain⟨t,v0⟩:=f.v0
  have er:iO (g2.v 0)=((D.o.wants k).length:Int):=by rw[v0,z2];show(((0:Nat)+(D.o.wants k).length:Nat):Int)=_;rw[o9]
  refine ai.as hz rfl (Nat.le_refl _) ?_ hL λ g hg=>⟨g,⟨S6,cs,ls,lc,?_⟩,rfl,rfl,rfl,rfl,?_,rfl,L2 _⟩
  ·exact(Rq.i_eq (S:=S) Dq w.2 j _ ls.1 ls.2.1).symm
  ·rw[er,f.wl,f.nm];exact hg
  ·exact(congrFun (Rq.f_eq (S:=S) Dq w.2 ls.1 ls.2.1) g).symm
 ·rw[good] at z1
  exact absurd z1 (by decide)
theorem BU(hk:k<=4)(ag:kg S c d p r f1 f2)(bad:fu (fM S (o.wants k) dn aa 0).1=false){es:List Nat}{g1 g2 g6:Gh}(a6:P6 w G S c d p r k f1 f2 o dn es g1 g2 g6)(rn rd as co:Nat)(b:Nat->Nat)(j:Nat->Nat):
  ai w G ⟨au 326 [rA rn,rA (g1.n 2)],60,(⟨rn,rd,as,g6.n 2,co,b⟩:Rq).i w.2 S j (lO 0 []),g6.l,P7 w G S k o dn ((fM S (o.wants k) dn aa 0).2+1) (iO (g2.v 0)) g1 g6,λ g=>⟨.error (rA (g.n 7)),(⟨rn,rd,as,g6.n 2,co,b⟩:Rq).f w.2 S g,dN w.2 (sO (g2.v 1)) g,g.l⟩⟩:=by
 obtain⟨S6,cs,V,T,vs,D,ct,tl,f,ls,own,lc,ag6,hL,X,hi⟩:=yW hk ag a6
 have eo:=f.eo
 subst eo
 let Dq:Rq:=⟨rn,rd,as,g6.n 2,co,D0 b D.ou⟩
 rcases(fH f.rl).2 with⟨z1,_⟩ |⟨z1,i,z2,z3,z4,z5⟩
 ·rw[z1] at bad
  exact absurd bad (by decide)
 ·have hz:=Ae (D:=Dq) (j:=j) (wa:=g1.n 3) ag6 D.o f.ok.ok lc f.ok.ul f.ok.pl (lc▸(oI hk f.ok.ok).l4) z3 (λ q x y l a b=>z4 q x y.v l a (BQ own b)) (by
   obtain⟨x,v,a,b,e⟩:=z5
   rw[own,qz] at b
   obtain⟨y,hy,rfl⟩:=sN.mp b
   exact⟨x,y,a,hy,e⟩) hk hi
  obtain⟨t,v0⟩:=f.v0
  obtain⟨t1,v1⟩:=f.v1
  rw[o9] at z2
  have er:iO (g2.v 0)=(i:Int):=by rw[v0,z2];rfl
  have e1:sO (g2.v 1)=(fM S (D.o.wants k) dn aa 0).1:=by rw[v1];rfl
  refine ai.as hz rfl (Nat.le_refl _) ?_ hL λ g hg=>⟨g,⟨S6,cs,ls,lc,?_⟩,rfl,rfl,rfl,rfl,?_,?_,L2 _⟩
  ·exact(Rq.i_eq (S:=S) Dq w.2 j _ ls.1 ls.2.1).symm
  ·rw[er,f.wl,f.nm,z2];exact hg
  ·exact(congrFun (Rq.f_eq (S:=S) Dq w.2 ls.1 ls.2.1) g).symm
  ·show dN w.2 (sO (g2.v 1)) g=_
   rw[e1]
   rfl
theorem wL{N:Nat}{right:Int}{g1 g6 g7:Gh}(a7:P7 w G S k o dn N right g1 g6 g7)(j0 t:Nat):
  ai w G ⟨au 809 [rA (S.a 9),rA (g1.n 2),rA (g1.n 3),.int right t],60,[(j0,g1.n 3+822,lO (g1.n 5) (g1.vl 0))],g7.l,P8 w S k o dn N g6 g7,λ g=>⟨.ok (.ret .none),[lO (g1.n 5) (g1.vl 0)],[],g.l⟩⟩:=by
 obtain⟨S6,cs,ls,lc,ts,h1,h2,h3,h4⟩:=a7
 have z:=h4 j0 t
 unfold nG at z
 rw[ls.1] at z
 exact ai.im z (Nat.le_refl _) (L2 _) λ g hg=>⟨S6,cs,ts,ls,lc,h1,h2,h3,hg⟩
theorem yX{N:Nat}{es:List Nat}{g6 g7 g8 g9:Gh}(hN:es.length=N)(l4:N<=(o.wants k).length)(a9:P9 w S k o dn N es g6 g7 g8 g9)(la lb j0 j1:Nat){A:Gh->Prop}(hA:∀g,A g):
  ai w G ⟨.call (.builtin "list.__ne__") ⟨[rA la,rA lb],[]⟩,60,[(j0,la+822,aO (g7.n 2) ⟨g7.vl 0⟩),(j1,lb+822,aO (g9.n 3) ⟨g9.vl 0⟩)],g9.l,A,λ g=>⟨.ok (.ret (.bool false)),[aO (g7.n 2) ⟨g7.vl 0⟩,aO (g9.n 3) ⟨g9.vl 0⟩],[],g9.l⟩⟩:=by
 obtain⟨S6,cs,ts,ps,ls,lc,h1,h2,h3,⟨S2,c2,d2,p2,r2,a,b,T2,e1,e2,e3,e4⟩,h4,h5,h6,h7⟩:=a9
 rw[h3,h5]
 refine wC (cs:=cs) (es:=es) la lb j0 j1 _ _ (by omega) (by omega) (by omega) (λ x hx=>?_) (λ x hx=>h7.mem_iff.mpr (fI _ hx)) hA
 refine h7.mem_iff.mpr (fm _ (e1.mem_iff.mpr (fm _ (e2.tl.mem_iff.mpr ?_))))
 exact fm _ (fm _ (fm _ (fm _ (fI _ (L7 _ (fm _ hx))))))
theorem yY{N:Nat}{es:List Nat}{g6 g7 g8 g9:Gh}(a9:P9 w S k o dn N es g6 g7 g8 g9):EI w S k (dn+(o.wants k).length) g9.l:=by
 obtain⟨S6,cs,ts,ps,ls,lc,h1,h2,h3,⟨S2,c2,d2,p2,r2,a,b,T2,e1,e2,e3,e4,e5,e6,e7⟩,h4,h5,h6,h7⟩:=a9
 refine⟨{S2 with tail:=wf (gU 0 es) ps++S2.tail},c2,d2,p2,r2,a,b,_,e4.trans ls.1,e5.trans ls.2.1,e6.trans ls.2.2.1,e7.trans ls.2.2.2,?_,gT e2 (wf (gU 0 es) ps),⟨e3.ch,e3.pa,e3.bf,e3.e1,e3.e2,e3.n0,e3.n1,e3.n2,e3.md,e3.hd⟩⟩
 exact h7.trans ((e1.append_left _).trans (ao _ _ _))
end
end
theorem xU{c:Str}(h:fu c=true):c=aa:=by
 obtain⟨⟨l⟩⟩:=c
 cases l with
 |nil=>rfl
 |cons a l=>exact absurd h (by unfold fu;simp[aa])
theorem BV{S:St}{a u:Nat->Nat}(h:S.a=a)(h':S.u=u):S={S with a:=a,u:=u}:=by subst h h';rfl
structure yZ(w:World)(q:Pr)(k n:Nat)(c d:List Ch)(p r:List Pa)(T:HL)(f1 f2:Str):Prop where
 m7:q.m 7=k
 m8:q.m 8=n
 kn:k+n<=5
 ce:dP q.S
 cn:q.S.cnt<=1+9*k
 iv:aR w.2 q.S c d p r T k f1 f2
 ag:kg q.S c d p r f1 f2
 pl:q.L.Perm (aP w.2 q.S)
inductive Dm(P:Params)(a:Nat->Nat)(gl_:HL):Prop
 |mk (S2:St) (x1:gl_.Perm (aP P S2)) (x2:S2.a=a)
noncomputable def BW(P:Params)(q:Pr)(g:Gh):Prop:=Dm P q.S.a g.l
def Az(P:Params)(q:Pr)(x:T2):SI:=⟨cg (aq (fB (aq bY 118)) 5) (rA (q.a 1)) (ci (bh P) 821 (q.a 0+822)),70,(gK.D P q x dh).i,q.L,BW P q,λ g=>gK.zo (gK.D P q x dh).i P q x (g.sl (q.a 0+822)) g⟩
noncomputable def lP(n:Nat)(g2:Gh):List Nat:=[g2.n 1+3,g2.n 1+4,g2.n 1+5,g2.n 1+6].take n
def Dn(q:Pr)(x:T2)(S9:St)(g0 g1 g2 g4 g6 g8:Gh)(sl:Array (Option Value))(L:HL):Pr:={q with S:={S9 with a:=q.S.a,u:=q.S.u},L:=L,en:=λ _=>x.p 14 (q.en 4),sl:=λ _=>sl,u:=λ i=>match i with |4=>x.p (g0.n 1+0) (q.u 4) |5=>g0.n 2 |6=>x.p (g1.n 1+0) (q.u 6) |7=>x.p (g1.n 1+1) (q.u 7) |8=>x.p (g2.n 1+0) (q.u 8) |9=>x.p (g2.n 1+1) (q.u 9) |10=>g2.n 5 |11=>x.p (g2.n 1+2) (q.u 11) |12=>g2.n 6 |13=>x.p (g4.n 1+0) (q.u 13) |14=>x.p (g6.n 1+31) (q.u 14) |15=>g6.n 1+30 |16=>x.p (g6.n 1+32) (q.u 16) |17=>x.p (g8.n 1+1) (q.u 17) |i=>q.u i,a:=λ i=>match i with |7=>g1.n 2 |8=>g1.n 3 |9=>g2.n 2 |10=>g4.n 2 |11=>g6.n 0+1 |i=>q.a i,m:=λ i=>match i with |1=>q.m 7 |2=>iO (g2.v 0) |7=>q.m 7+1 |8=>q.m 8-1 |i=>q.m i,s:=λ _=>aa,v:=λ _=>rA (g4.n 2),j:=λ i=>i}
section
variable {w:World}{G:Shared}{c d:List Ch}{p r:List Pa}{T:HL}{f1 f2:Str}{k n:Nat}
theorem xV(q:Pr)(hm:q.m 8=0)(pl:q.L.Perm (aP w.2 q.S)):ai w G (Az w.2 q .b):=by
 let q':Pr:={q with u:=λ i=>match i with |4=>q.u 4 |6=>q.u 6 |8=>q.u 7 |10=>q.u 8 |12=>q.u 9 |14=>q.u 11 |16=>q.u 13 |18=>q.u 14 |20=>q.u 16 |22=>q.u 17 |i=>q.u i,v:=λ i=>match i with |0=>.int (q.m 1) (q.u 5) |1=>rA (q.a 7) |2=>rA (q.a 8) |3=>rA (q.a 9) |4=>.int (q.m 2) (q.u 10) |5=>.str (q.s 1) (q.u 12) |6=>rA (q.a 10) |7=>.str (q.s 2) (q.u 15) |8=>rA (q.a 11) |_=>q.v 9}
 refine ai.as (lU.sat w G q') rfl (show 1<=70 by decide) ?_ (L2 _) λ g _=>⟨{g with l:=q.L},⟨q.S,pl,rfl⟩,rfl,rfl,rfl,rfl,rfl,rfl,L2 _⟩
 show(gK.D w.2 q .b dh).i=(lU.D w.2 q').i
 unfold gK.D lU.D
 dsimp only
 rw[hm]
 rfl
inductive EJ(g1 g2:Gh)(n:Nat):Prop
 |mk (h0:1<=n) (h4:n<=4) (ln:(g1.vl 0).length=n) (el:(lP n g2).length=n) (wl:(gU 0 (lP n g2)).length=n) (ne:gU 0 (lP n g2)≠ []) (cw:bJ (Int.ofNat (g1.vl 0).length) [.str bq (g2.n 1+3),.str bH (g2.n 1+4),.str ca (g2.n 1+5),.str cG (g2.n 1+6)]=(gU 0 (lP n g2)).map Wd.v) (fit:Int.ofNat (g1.vl 0).length<2 ^ 63)
theorem rx{n:Nat}(h:n<=4)(g:Gh):(lP n g).length=n:=(B9 ..).trans (Nat.min_eq_left h)
theorem y6{n:Nat}{l:List Wd}(h:l.length=n)(h0:1<=n):l≠ []:=λ e=>absurd (h.symm.trans (congrArg List.length e)) (Nat.ne_of_gt h0)
theorem F2.fct{S:St}{o:gF}{dn:Nat}{g1 g2:Gh}{D:yL}{V:HL}{vs:List AV}{ct:Nat}{tl:HL}(hk:k<=4)(f:F2 w G S c d p r k f1 f2 o dn g1 g2 D T V vs ct tl):EJ g1 g2 (o.wants k).length:=by
 have hw:=oI hk (f.eo▸f.ok.ok)
 have h0:1<=(o.wants k).length:=DA.mpr hw.nz
 have ul:D.ut.length=(o.wants k).length:=by have:=f.ok.ul;rw[f.eo] at this;exact this
 have ln:(g1.vl 0).length=(o.wants k).length:=by rw[f.wl];exact rv _ _ ul
 have el:=rx hw.l4 g2
 have wl:=(f7 0 _).trans el
 exact⟨h0,hw.l4,ln,el,wl,y6 wl h0,by rw[ln];exact BK h0 hw.l4 _ _ _ _,by rw[ln];exact Int.lt_of_le_of_lt (Int.ofNat_le.mpr hw.l4) (by decide)⟩
theorem y7{q q2:Pr}{S9:St}{dn N:Nat}{c2 d2:List Ch}{p2 r2:List Pa}{T2 l:HL}{a b:Str}(h:yZ w q k (n+1) c d p r T f1 f2)(hd:dn<=5)(h4:N<=4)(n1:S9.a=q.S.a)(n2:S9.u=q.S.u)(n3:S9.cells=q.S.cells)(n4:S9.cnt=q.S.cnt+((dn+N:Nat):Int))(n5:l.Perm (aP w.2 S9))(n6:aR w.2 S9 c2 d2 p2 r2 T2 (k+1) a b)(n7:kg S9 c2 d2 p2 r2 a b)
  (e1:q2.S={S9 with a:=q.S.a,u:=q.S.u})(e2:q2.m 7=q.m 7+1)(e3:q2.m 8=q.m 8-1)(e4:q2.L=l):yZ w q2 (k+1) n c2 d2 p2 r2 T2 a b:=by
 have se:q2.S=S9:=e1.trans (BV n1 n2).symm
 have kn:=h.kn
 have cn:=h.cn
 obtain⟨k1,k2,k3⟩:=h.ce
 exact⟨by rw[e2,h.m7];rfl,by rw[e3,h.m8];omega,by omega,by rw[se];exact⟨n3▸k1,n3▸k2,by rw[n4];omega⟩,by rw[se,n4];omega,se▸n6,se▸n7,by rw[se,e4];exact n5⟩
theorem BX(q:Pr)(x:T2)(h:yZ w q k (n+1) c d p r T f1 f2){o:gF}{dn:Nat}(ho:∀t,ai w G (i4 w.2 q.S k t (gG w.2 q.S c d p r k f1 f2 o dn)))(good:(fM q.S (o.wants k) dn aa 0).1=aa)
  (ih:∀(q2:Pr) c2 d2 p2 r2 T2 a b,yZ w q2 (k+1) n c2 d2 p2 r2 T2 a b->ai w G (Az w.2 q2 .b)):ai w G (Az w.2 q x):=by
 have hk:k<=4:=by have:=h.kn;omega
 have cn:=h.cn
 let A:AA:=λ n' gs=>match n',gs with
  |1,[_,g1]=>gG w.2 q.S c d p r k f1 f2 o dn g1
  |2,[_,g1,g2]=>BR w G q.S c d p r k f1 f2 o dn g1 g2
  |5,[_,g1,g2,_,_,g5]=>P5 w G q.S c d p r k f1 f2 o dn (lP (o.wants k).length g2) g1 g2 g5
  |6,[_,g1,g2,_,_,_,g6]=>P6 w G q.S c d p r k f1 f2 o dn (lP (o.wants k).length g2) g1 g2 g6
  |7,[_,g1,g2,_,_,_,g6,g7]=>P7 w G q.S k o dn (o.wants k).length (iO (g2.v 0)) g1 g6 g7
  |8,[_,_,_,_,_,_,g6,g7,g8]=>P8 w q.S k o dn (o.wants k).length g6 g7 g8
  |9,[_,_,g2,_,_,_,g6,g7,g8,g9]=>P9 w q.S k o dn (o.wants k).length (lP (o.wants k).length g2) g6 g7 g8 g9
  |12,[_,_,_,_,_,_,_,_,_,_,_,_,g]=>BW w.2 q g
  |99,[g]=>BW w.2 q g
  |_,_=>True
 have hz:=gK.sat w G q x A λ b t=>by
  refine⟨qV (by rw[h.m8];omega),λ g0 _=>⟨?_,λ g1 a1=>⟨?_,λ g2 a2=>?_⟩⟩⟩
  ·exact ai.as (ho (g0.n 2)) (by show(au 802 [rA (q.S.a 13),.int (q.m 7) _])=_;rw[h.m7];rfl) (Nat.le_refl _) rfl h.pl λ g hg=>⟨g,hg,rfl,rfl,rfl,rfl,rfl,rfl,L2 _⟩
  ·refine ai.as (yV hk h.ce (by omega) a1 5) rfl (Nat.le_refl _) rfl (L2 _) λ g hg=>⟨g,hg,rfl,rfl,rfl,rfl,rfl,?_,L2 _⟩
   obtain⟨D,T,V,vs,ct,tl,f⟩:=hg
   obtain⟨t,v1⟩:=f.v1
   have e:sO (g.v 1)=aa:=by rw[v1,good];rfl
   show [(_,tO [_,_,.str aa _]),_]=[(_,tO [_,_,.str (sO (g.v 1)) _]),_]
   rw[e]
  ·obtain⟨D,T,V,vs,ct,tl,f⟩:BR w G q.S c d p r k f1 f2 o dn g1 g2:=a2
   obtain⟨h0,h4,ln,el,wl,ne,cw,fit⟩:=f.fct hk
   refine⟨k5 fit,λ g3 _=>⟨iW (L3 rfl),λ g4 _=>⟨?_,λ g5 a5=>⟨wK hk el a5 (g4.n 0+5) 22,λ g6 a6=>⟨?_,λ g7 a7=>⟨wL a7 5 (g2.n 5),λ g8 a8=>⟨?_,λ g9 a9=>⟨yX el (Nat.le_refl _) a9 (g6.n 0+7) (g8.n 0+1) 31 37 (λ _=>trivial),λ g10 _=>?_⟩⟩⟩⟩⟩⟩⟩⟩
   ·exact ai.as (wI (gU 0 (lP (o.wants k).length g2)) vs {pr mr g2.l with a:=tk [g4.n 0+6,g4.n 0+4,g4.n 0+0,g4.n 0+1,g4.n 2,g2.n 2,g4.n 0+5,g4.n 0+2,g4.n 0+3,0,0,0,0,0,0,0,0,0,0,0,q.a 0],j:=tk [23,21,17,18,16,10,22,19,20],l:=λ i=>match i with |1=>bJ (Int.ofNat (g1.vl 0).length) [.str bq (g2.n 1+3),.str bH (g2.n 1+4),.str ca (g2.n 1+5),.str cG (g2.n 1+6)] |2=>g2.vl 0 |_=>[],en:=λ i=>match i with |5=>g2.n 4 |_=>0} g2.l ne ⟨rfl,by rw[wl];exact f.len,cw,f.vl,rfl,by rw[wl];show 0+_<=50;omega⟩) rfl (Nat.le_refl _) rfl (L2 _) λ g hp=>by
     obtain⟨ps,h1,h2,h3,h4⟩:=hp
     exact⟨g,⟨D,T,V,vs,ct,tl,ps,f,h1.trans (f7 _ _),h2,by rw[h3];exact o9 _,h4⟩,rfl,rfl,rfl,rfl,rfl,rfl,L2 _⟩
   ·exact BS hk h.ag good a6 (g6.n 0+1) (g6.n 0+0) (g6.n 0+7) (g6.n 0+4) (tk [g6.n 1+5,g6.n 1+7,g6.n 1+9,g6.n 1+12,q.S.u 1,g6.n 1+15,q.S.u 3,g6.n 1+27,g6.n 1+29]) (tk [25,24,31,2,3])
   ·exact ai.as (wJ (gU 0 (lP (o.wants k).length g2)) {pr mr g8.l with a:=tk [g8.n 0+2,g8.n 0+0,g4.n 2,g8.n 0+1,0,0,0,0,0,0,0,0,0,0,0,0,0,0,0,0,q.a 0],j:=tk [38,36,16,37],l:=λ i=>match i with |1=>bJ (Int.ofNat (g1.vl 0).length) [.str bq (g2.n 1+3),.str bH (g2.n 1+4),.str ca (g2.n 1+5),.str cG (g2.n 1+6)] |_=>[]} g8.l ne ⟨rfl,cw,rfl,by rw[wl];show 0+_<=50;omega⟩) rfl (Nat.le_refl _) rfl (L2 _) λ g hp=>by
     obtain⟨ps,h1,h2,h3,h4⟩:=hp
     exact⟨g,by
     obtain⟨S6,cs,ts,b1,b2,b3,b4,b5,b6⟩:P8 w q.S k o dn (o.wants k).length g6 g7 g8:=a8
     exact⟨S6,cs,ts,ps,b1,b2,b3,b4,b5,b6,h1.trans (f7 _ _),h2,by rw[h3];exact o9 _,h4⟩,rfl,rfl,rfl,rfl,rfl,rfl,L2 _⟩
   ·obtain⟨S9,c2,d2,p2,r2,a,b,T2,n1,n2,n3,n4,n5,n6,n7⟩:=yY (show P9 w q.S k o dn (o.wants k).length (lP (o.wants k).length g2) g6 g7 g8 g9 from a9)
    have dn5:dn<=5:=f.en▸f.ok.n
    refine⟨?_,λ g11 _=>⟨?_,λ g12 a12 sl _=>a12⟩⟩
    ·have z:=mv (G:=G) n6 n7 (show k+1<=5 by omega) n5 2 3 (A:=λ _=>True) (λ _=>trivial)
     rw[n1,n2] at z
     exact z
    ·have z:=ih (Dn q x S9 g0 g1 g2 g4 g6 g8 (g11.sl (q.a 0+822)) g9.l) c2 d2 p2 r2 T2 a b (y7 h dn5 h4 n1 n2 n3 n4 n5 n6 n7 rfl rfl rfl rfl)
     cases x<;>exact z
 exact ai.im hz (Nat.le_refl _) (L2 _) λ g hg=>hg
end
def EL(q:Pr)(x:T2)(S9:St)(g0 g1 g2 g4 g6 g7 g10:Gh)(sl:Array (Option Value))(L:HL):Pr:={Dn q x S9 g0 g1 g2 g4 g6 g10 sl L with en:=λ _=>x.p 16 (q.en 4+2),u:=λ i=>match i with |15=>g7.n 9 |17=>x.p (g10.n 1+0) (q.u 17) |i=>(Dn q x S9 g0 g1 g2 g4 g6 g10 sl L).u i,s:=λ _=>sO (g2.v 1),v:=λ _=>rA (g10.n 2)}
section
variable {w:World}{G:Shared}{c d:List Ch}{p r:List Pa}{T:HL}{f1 f2:Str}{k n:Nat}
theorem BY(q:Pr)(x:T2)(h:yZ w q k (n+1) c d p r T f1 f2){o:gF}{dn:Nat}(ho:∀t,ai w G (i4 w.2 q.S k t (gG w.2 q.S c d p r k f1 f2 o dn)))(bad:fu (fM q.S (o.wants k) dn aa 0).1=false)
  (ih:∀(q2:Pr) c2 d2 p2 r2 T2 a b,yZ w q2 (k+1) n c2 d2 p2 r2 T2 a b->ai w G (Az w.2 q2 .b)):ai w G (Az w.2 q x):=by
 have hk:k<=4:=by have:=h.kn;omega
 have cn:=h.cn
 let A:AA:=λ n' gs=>match n',gs with
  |1,[_,g1]=>gG w.2 q.S c d p r k f1 f2 o dn g1
  |2,[_,g1,g2]=>BR w G q.S c d p r k f1 f2 o dn g1 g2
  |5,[_,g1,g2,_,_,g5]=>P5 w G q.S c d p r k f1 f2 o dn (lP (o.wants k).length g2) g1 g2 g5
  |6,[_,g1,g2,_,_,_,g6]=>P6 w G q.S c d p r k f1 f2 o dn (lP (o.wants k).length g2) g1 g2 g6
  |7,[_,g1,g2,_,_,_,g6,g7]=>P7 w G q.S k o dn ((fM q.S (o.wants k) dn aa 0).2+1) (iO (g2.v 0)) g1 g6 g7
  |9,[_,_,_,_,_,_,g6,g7,_,g9]=>P8 w q.S k o dn ((fM q.S (o.wants k) dn aa 0).2+1) g6 g7 g9
  |13,[_,_,g2,_,_,_,g6,g7,_,g9,_,g11]=>P9 w q.S k o dn ((fM q.S (o.wants k) dn aa 0).2+1) (lP ((fM q.S (o.wants k) dn aa 0).2+1) g2) g6 g7 g9 g11
  |16,[_,_,_,_,_,_,_,_,_,_,_,_,_,_,g]=>BW w.2 q g
  |99,[g]=>BW w.2 q g
  |_,_=>True
 have hz:=o8.sat w G q x A λ b t=>by
  refine⟨qV (by rw[h.m8];omega),λ g0 _=>⟨?_,λ g1 a1=>⟨?_,λ g2 a2=>?_⟩⟩⟩
  ·exact ai.as (ho (g0.n 2)) (by show(au 802 [rA (q.S.a 13),.int (q.m 7) _])=_;rw[h.m7];rfl) (Nat.le_refl _) rfl h.pl λ g hg=>⟨g,hg,rfl,rfl,rfl,rfl,rfl,rfl,L2 _⟩
  ·exact ai.im (yV hk h.ce (by omega) a1 5) (Nat.le_refl _) (L2 _) λ g hg=>hg
  ·obtain⟨D,T,V,vs,ct,tl,f⟩:BR w G q.S c d p r k f1 f2 o dn g1 g2:=a2
   obtain⟨h0,h4,ln,el,wl,ne,cw,fit⟩:=f.fct hk
   obtain⟨ri,r1⟩:(fM q.S (o.wants k) dn aa 0).2<(o.wants k).length/\True:=by
    rcases(fH f.rl).2 with⟨z1,_⟩ |⟨_,i,z2,z3,_⟩
    ·rw[z1] at bad;exact absurd bad (by decide)
    ·exact⟨by rw[z2,o9];exact z3,trivial⟩
   obtain⟨t0,v0⟩:=f.v0
   obtain⟨t1,v1⟩:=f.v1
   have iv:iO (g2.v 0)=((fM q.S (o.wants k) dn aa 0).2:Int):=by rw[v0];rfl
   have sv:sO (g2.v 1)=(fM q.S (o.wants k) dn aa 0).1:=by rw[v1];rfl
   have el2:(lP ((fM q.S (o.wants k) dn aa 0).2+1) g2).length=(fM q.S (o.wants k) dn aa 0).2+1:=rx (ky ri h4) g2
   have wl2:(gU 0 (lP ((fM q.S (o.wants k) dn aa 0).2+1) g2)).length=(fM q.S (o.wants k) dn aa 0).2+1:=(f7 _ _).trans el2
   have ne2:gU 0 (lP ((fM q.S (o.wants k) dn aa 0).2+1) g2)≠ []:=y6 wl2 (wZ 1 _)
   have cw2:bJ (iO (g2.v 0)+1) (bJ (Int.ofNat (g1.vl 0).length) [.str bq (g2.n 1+3),.str bH (g2.n 1+4),.str ca (g2.n 1+5),.str cG (g2.n 1+6)])=(gU 0 (lP ((fM q.S (o.wants k) dn aa 0).2+1) g2)).map Wd.v:=by rw[ln,iv];exact Af h0 h4 ri _ _ _ _
   have cl:(bJ (Int.ofNat (g1.vl 0).length) [.str bq (g2.n 1+3),.str bH (g2.n 1+4),.str ca (g2.n 1+5),.str cG (g2.n 1+6)]).length<=1000:=by rw[cw,kx,wl];omega
   have sne:((sO (g2.v 1)).cps.toList == aa.cps.toList)=false:=by rw[sv];exact bad
   refine⟨k5 fit,λ g3 _=>⟨iW (L3 rfl),λ g4 _=>⟨?_,λ g5 a5=>⟨wK hk el a5 (g4.n 0+5) 22,λ g6 a6=>⟨?_,λ g7 a7=>λ g8=>⟨wL a7 5 (g2.n 5),λ g9 a8=>⟨aD sne,⟨iW cl,λ g10 _=>⟨cj (bne_self_eq_false _),⟨?_,λ g11 a9=>⟨yX el2 ri a9 (g6.n 0+7) (g10.n 0+1) 31 43 (λ _=>trivial),λ g12 _=>?_⟩⟩⟩⟩⟩⟩⟩⟩⟩⟩⟩
   ·exact ai.as (wI (gU 0 (lP (o.wants k).length g2)) vs {pr mr g2.l with a:=tk [g4.n 0+6,g4.n 0+4,g4.n 0+0,g4.n 0+1,g4.n 2,g2.n 2,g4.n 0+5,g4.n 0+2,g4.n 0+3,0,0,0,0,0,0,0,0,0,0,0,q.a 0],j:=tk [23,21,17,18,16,10,22,19,20],l:=λ i=>match i with |1=>bJ (Int.ofNat (g1.vl 0).length) [.str bq (g2.n 1+3),.str bH (g2.n 1+4),.str ca (g2.n 1+5),.str cG (g2.n 1+6)] |2=>g2.vl 0 |_=>[],en:=λ i=>match i with |5=>g2.n 4 |_=>0} g2.l ne ⟨rfl,by rw[wl];exact f.len,cw,f.vl,rfl,by rw[wl];show 0+_<=50;omega⟩) rfl (Nat.le_refl _) rfl (L2 _) λ g hp=>by
     obtain⟨ps,h1,h2,h3,h4⟩:=hp
     exact⟨g,⟨D,T,V,vs,ct,tl,ps,f,h1.trans (f7 _ _),h2,by rw[h3];exact o9 _,h4⟩,rfl,rfl,rfl,rfl,rfl,rfl,L2 _⟩
   ·exact BU hk h.ag bad a6 (g6.n 0+1) (g6.n 0+0) (g6.n 0+7) (g6.n 0+4) (tk [g6.n 1+5,g6.n 1+7,g6.n 1+9,g6.n 1+12,q.S.u 1,g6.n 1+15,q.S.u 3,g6.n 1+27,g6.n 1+29]) (tk [25,24,31,2,3])
   ·exact ai.as (wJ (gU 0 (lP ((fM q.S (o.wants k) dn aa 0).2+1) g2)) {pr mr g9.l with a:=tk [g10.n 0+2,g10.n 0+0,g10.n 2,g10.n 0+1,0,0,0,0,0,0,0,0,0,0,0,0,0,0,0,0,q.a 0],j:=tk [44,42,41,43],l:=λ i=>match i with |1=>bJ (iO (g2.v 0)+1) (bJ (Int.ofNat (g1.vl 0).length) [.str bq (g2.n 1+3),.str bH (g2.n 1+4),.str ca (g2.n 1+5),.str cG (g2.n 1+6)]) |_=>[]} g9.l ne2 ⟨rfl,cw2,rfl,by rw[wl2];show 0+_<=50;omega⟩) rfl (Nat.le_refl _) rfl (L2 _) λ g hp=>by
     obtain⟨ps,h1,h2,h3,h4⟩:=hp
     exact⟨g,by
     obtain⟨S6,cs,ts,b1,b2,b3,b4,b5,b6⟩:P8 w q.S k o dn ((fM q.S (o.wants k) dn aa 0).2+1) g6 g7 g9:=a8
     exact⟨S6,cs,ts,ps,b1,b2,b3,b4,b5,b6,h1.trans (f7 _ _),h2,by rw[h3];exact o9 _,h4⟩,rfl,rfl,rfl,rfl,rfl,rfl,L2 _⟩
   ·obtain⟨S9,c2,d2,p2,r2,a,b,T2,n1,n2,n3,n4,n5,n6,n7⟩:=yY (show P9 w q.S k o dn ((fM q.S (o.wants k) dn aa 0).2+1) (lP ((fM q.S (o.wants k) dn aa 0).2+1) g2) g6 g7 g9 g11 from a9)
    have dn5:dn<=5:=f.en▸f.ok.n
    refine⟨?_,λ g13 _=>⟨?_,λ g14 a14 sl _=>a14⟩⟩
    ·have z:=mv (G:=G) n6 n7 (show k+1<=5 by omega) n5 2 3 (A:=λ _=>True) (λ _=>trivial)
     rw[n1,n2] at z
     exact z
    ·have z:=ih (EL q x S9 g0 g1 g2 g4 g6 g7 g10 (g13.sl (q.a 0+822)) g11.l) c2 d2 p2 r2 T2 a b (y7 h dn5 h4 n1 n2 n3 n4 n5 n6 n7 rfl rfl rfl rfl)
     cases x<;>exact z
 exact ai.im hz (Nat.le_refl _) (L2 _) λ g hg=>hg
theorem oJ:∀(n:Nat) (q:Pr) (x:T2) (k:Nat) (c d:List Ch) (p r:List Pa) (T:HL) (f1 f2:Str),(n=0->x= .b)->yZ w q k n c d p r T f1 f2->ai w G (Az w.2 q x)
 |0,q,x,k,c,d,p,r,T,f1,f2,hx,h=>by
  rw[hx rfl]
  exact xV q h.m8 h.pl
 |n+1,q,x,k,c,d,p,r,T,f1,f2,_,h=>by
  have hk:k<=4:=by have:=h.kn;omega
  have cn:=h.cn
  obtain⟨o,dn,ho⟩:=zP (G:=G) hk h.ce (by omega) h.iv
  have ih:=λ(q2:Pr) c2 d2 p2 r2 T2 a b=>oJ n q2 .b (k+1) c2 d2 p2 r2 T2 a b (λ _=>rfl)
  cases e:fu (fM q.S (o.wants k) dn aa 0).1 with
  |true=>exact BX q x h ho (xU e) ih
  |false=>exact BY q x h ho e ih
end
theorem oK{P:Nat×Nat×Obj->Obj->Prop}:∀{I J:List (Nat×Nat×Obj)} {F K:List Obj},gV P I F->gV P J K->gV P (I++J) (F++K)
 |[],_,[],_,_,h=>h
 |[],_,_::_,_,h,_=>h.elim
 |_::_,_,[],_,h,_=>h.elim
 |_::_,_,_::_,_,h,h'=>⟨h.1,oK h.2 h'⟩
theorem ry{h:Heap}:∀{I:List (Nat×Nat×Obj)} {F:List Obj},F.length=I.length->(∀x∈List.zip (aZ I) F,h.get? x.1=some x.2)->gV (λ x o=>h.get? x.2.1=some o) I F
 |[],[],_,_=>trivial
 |[],_::_,h,_=>by simp at h
 |_::_,[],h,_=>by simp at h
 |x::I,o::F,hl,h=>⟨h _ (L5 ..),ry (by simpa using hl) λ y hy=>h y (L7 _ hy)⟩
theorem ai.tell{w:World}{G:Shared}{z z':SI}(hz:ai w G z)(I2:List (Nat×Nat×Obj))(F:Gh->List Obj)(hc:z'.code=z.code)(hd:z.d<=z'.d)(hi:z'.idx=z.idx++I2)(hL:z.L=aN I2)(hL':z'.L=[])(nf:I2.all (λ x=> !bd x.2.2)=true)
  (ho:∀g,z.asm g->∃g',z'.asm g'/\g'.n 0=g.n 0/\g'.n 1=g.n 1/\g'.sl=g.sl/\(F g').length=I2.length/\(z'.out g').res=(z.out g).res/\(z'.out g').fin=(z.out g).fin++F g'/\(z.out g).new=[]/\(z'.out g').new=[]/\(z'.out g').L=[]/\∀x∈List.zip (aZ I2) (F g'),x∈(z.out g).L):ai w G z':=by
 intro B nb fr n0 Γ R' p h tok hcode hhd htop hfr hroom hunits bef hR
 have nd:=bef.nodup
 have ea:aZ (z.idx++I2)=aZ z.idx++aZ I2:=nD ..
 have ei:aH (aN I2)=aZ I2:=by unfold aH aN aZ;rw[pd];rfl
 have bef':ji ((C0 w.2).at B nb fr n0) z h:=by
  refine⟨bef.n1,bef.top,λ x hx=>bef.idx x (by rw[hi];exact fI _ hx),λ x hx=>?_,?_⟩
  ·rw[hL] at hx
   obtain⟨y,hy,rfl⟩:=bZ.mp hx
   have:=bef.idx y (by rw[hi];exact fm _ hy)
   have f:=List.all_eq_true.mp nf y hy
   exact⟨this.1,this.2,by simpa using f⟩
  ·rw[hL,ei,<-ea,<-hi]
   rw[hL'] at nd
   have:aZ z'.idx++aH ([]:HL)=aZ z'.idx:=L4 _
   rw[this] at nd
   exact nd
 refine hz B nb fr n0 Γ R' p h tok (hcode.trans hc) hhd (hc▸htop) hfr (by omega) (by omega) bef' λ g h' hg af=>?_
 obtain⟨g',hg',e0,e1,e2,e3,e4,e5,e6,e6',e7,e8⟩:=ho g hg
 rw[<-e4,<-e1]
 refine hR g' h' hg' ⟨by rw[e0];exact af.size,af.more,?_,by rw[e6'];exact λ x hx=>absurd hx (by simp),by rw[e7];exact λ x hx=>absurd hx (by simp),by rw[e6',e7];exact List.nodup_nil,λ b o hb h1 h2=>?_,λ b o hlt hb h1 h2=>by
  rw[hi,ea] at h1
  exact af.low b o hlt hb (λ q=>h1 (fI _ q)) (by rw[hL,ei];exact λ q=>h1 (fm _ q))⟩
 ·rw[hi,e5]
  exact oK af.fin (ry e3 λ x hx=>(af.lst x (e8 x hx)).1)
 ·rw[hi,ea] at h1
  have:=af.frame b o hb (λ q=>h1 (fI _ q)) (by rw[hL,ei];exact λ q=>h1 (fm _ q))
  rw[this]
  unfold aE
  rw[e2]
theorem sC(m:Nat)(vs:List Value):bJ m vs=vs.take m:=by
 unfold bJ
 rw[slicePick_upto']
def sA(b g n2:Nat):Nat->Nat:=λ i=>match i with |0=>g+1 |1=>g+0 |2=>g+3 |15=>g+4 |3=>g+5 |4=>g+6 |16=>g+7 |17=>g+8 |5=>g+9 |6=>g+10 |7=>g+11 |18=>g+12 |19=>g+13 |20=>g+14 |8=>g+31 |9=>g+32 |10=>g+33 |21=>g+34 |11=>g+35 |12=>g+36 |13=>b+1 |14=>n2 |_=>0
noncomputable def sU(t m:Nat):Nat->Nat:=λ i=>match i with
 |1=>563 |3=>564 |5=>565 |7=>566 |9=>567 |64=>t+1
 |i=>m+([11,0,13,0,15,0,17,0,19,0,21,23,25,27,29,32,30,34,36,38,40,42,45,43,48,46,51,49,54,52,57,55,60,58,62,65,63,68,66,70,72,74,0,0,0,0,0,0,0,0,128,129,130,131,132,134,81,83,126,84,157,163,164,166,0,0,82,158,159,160,161]:List Nat).getD i 0
def S1(P:Params)(b t g m n2:Nat)(ct:Nat)(cells:List Value):St:=⟨sA b g n2,sU t m,#[],0,⟨[kS P bA (m+79) (.str ⟨⟨[97,98,99,100,101,102,103,104,105,106,107,108]⟩⟩ (m+77))]⟩,1,⟨[⟨hashInt 9,.int 9 (m+82),rA (g+31)⟩]⟩,1,#[],0,⟨⟨[109,110,111,112,113,114]⟩⟩,m+151,0,m+135,⟨⟨[109,110,111,112,113,114]⟩⟩,m+165,⟨[⟨hashInt 9,.int 9 (m+158),rA (g+34)⟩]⟩,1,#[],0,⟨⟨[97,98,99,100,101,102]⟩⟩,m+167,⟨⟨[103,104,105,106,107,108]⟩⟩,m+168,1,ct,cells,[]⟩
section
variable {w:World}{G:Shared}
theorem Ag(b t g m n2 ct:Nat)(cells:List Value):aR w.2 (S1 w.2 b t g m n2 ct cells) [] [] [] [] [] 0 ⟨⟨[97,98,99,100,101,102]⟩⟩ ⟨⟨[103,104,105,106,107,108]⟩⟩:=
 ⟨rfl,rfl,rfl,rfl,rfl,L2 _,Nat.zero_le _,Nat.zero_le _,Nat.zero_le _,Nat.zero_le _,λ x h=>absurd h (by simp),List.nodup_nil,λ x h=>absurd h (by simp),List.nodup_nil,.inl rfl,⟨_,_,[],rfl,Nat.zero_le _,λ e h=>absurd h (by simp)⟩⟩
theorem Ah(b t g m n2 ct:Nat)(cells:List Value):kg (S1 w.2 b t g m n2 ct cells) [] [] [] [] ⟨⟨[97,98,99,100,101,102]⟩⟩ ⟨⟨[103,104,105,106,107,108]⟩⟩:=
 ⟨rfl,rfl,rfl,rfl,rfl,rfl,rfl,rfl,λ x h=>absurd h (by simp),λ y h=>absurd h (by simp)⟩
theorem qp{cells:List Value}(hc:∀v∈cells,∃x t,v= .int x t)(hl:cells.length<=60)(x:T5)(hx:cz cells (0+(0:Nat)) 5=x.p 0 1 2 3 4)(a13 a14 u64 u65 ct tk5:Nat)(L:HL){A:Gh->Prop}(hA:∀g,A g):
  ai w G ⟨au 790 [rA a13,.int 5 tk5],12,[(2,a13+822,dO 2 [kS w.2 iQ u64 (rA a14),kS w.2 iR u65 (.int 0 ct)]),(4,a14+822,oL cells)],L,A,λ g=>⟨.ok (.ret (.int (x.p 0 1 2 3 4) (g.n 2))),[dO 2 [kS w.2 iQ u64 (rA a14),kS w.2 iR u65 (.int 1 (g.n 3))],oL cells],[],L⟩⟩:=by
 let S:St:={mr with a:=λ i=>match i with |13=>a13 |_=>a14,u:=λ i=>match i with |64=>u64 |_=>u65,cnt:=0,ct:=ct,cells:=cells}
 by_cases h1:S.cnt+1<=Int.ofNat S.cells.length
 ·have hi:(S.cnt+1-1).toNat<S.cells.length:=by have:=h1;simp at this;show(0:Int).toNat<_;show 0<cells.length;have h2:(0:Int)+1<=(cells.length:Int):=h1;omega
  obtain⟨y,u,hy⟩:=hc _ (List.getElem_mem hi)
  have hx2:S.cells[(S.cnt+1-1).toNat]? =some (.int y u):=by rw[y8 hi,hy]
  let q:Pr:={pr S L with u:=tk [tk5],m:=λ _=>y,c:=λ _=>u,j:=tk [2,4]}
  have hz:=B3.sat w G q .d (show(0:Int)<=0 by omega) (show(0:Int)<1000 by omega) (show(cells.length:Int)<1000 by omega) h1 hx2
  have ev:Int.fmod ((Int.natAbs y:Nat):Int) 5=x.p 0 1 2 3 4:=by
   rw[<-hx]
   have e2:cz S.cells (S.cnt+(0:Nat)) 5=Int.fmod ((Int.natAbs y:Nat):Int) 5:=by
    unfold cz
    rw[show decide (S.cnt+(0:Nat)+1<=Int.ofNat S.cells.length)=true from jD h1]
    have:S.cells[(S.cnt+((0:Nat):Int)+1-1).toNat]? =some (.int y u):=hx2
    rw[this]
   exact e2.symm
  refine ai.as hz rfl (show 2<=12 by decide) rfl (L2 _) λ g _=>⟨g,hA g,rfl,rfl,rfl,?_,rfl,rfl,L2 _⟩
  show Except.ok (Flow.ret (.int _ _))=Except.ok (Flow.ret (.int (Int.fmod ((Int.natAbs y:Nat):Int) 5) _))
  rw[ev]
 ·let q:Pr:={pr S L with u:=tk [tk5],j:=tk [2,4]}
  have hz:=B4.sat w G q .d (show(0:Int)<=0 by omega) (show(0:Int)<1000 by omega) (show(cells.length:Int)<1000 by omega) h1
  have ev:Int.fmod (3* ((0:Int)+1)+Int.fdiv ((0:Int)+1) 3+3) 5=x.p 0 1 2 3 4:=by
   rw[<-hx]
   have e2:cz S.cells (S.cnt+(0:Nat)) 5=Int.fmod (3* ((0:Int)+1)+Int.fdiv ((0:Int)+1) 3+3) 5:=by
    unfold cz
    rw[show decide (S.cnt+(0:Nat)+1<=Int.ofNat S.cells.length)=false from lL h1]
    rfl
   exact e2.symm
  refine ai.as hz rfl (show 2<=12 by decide) rfl (L2 _) λ g _=>⟨g,hA g,rfl,rfl,rfl,?_,rfl,rfl,L2 _⟩
  show Except.ok (Flow.ret (.int _ _))=Except.ok (Flow.ret (.int (Int.fmod (3* ((0:Int)+1)+Int.fdiv ((0:Int)+1) 3+3) 5) _))
  rw[ev]
def Cp(P:Params)(S:St):List (Nat×Nat×Obj):=List.zip [8,10,11,14,15,16,36,37,38,40,41,2,4,39] (bj P S)
theorem sD(k n:Nat)(q:Pr)(x:T2)(c d:List Ch)(p r:List Pa)(T:HL)(f1 f2:Str)(hx:n=0->x= .b)(h:yZ w q k n c d p r T f1 f2)(hq:q.L=bj w.2 q.S)(L:HL)(nd:True):
  ai w G ⟨cg (aq (fB (aq bY 118)) 5) (rA (q.a 1)) (ci (bh w.2) 821 (q.a 0+822)),70,(gK.D w.2 q x dh).i++Cp w.2 q.S,L,λ _=>True,λ g=>⟨.ok .next,bg (gK.D w.2 q x dh).i [(0,yE w.2 q (g.sl (q.a 0+822)) g),(1,oq (iO (g.v 10)) 0)]++[cA g.l 0,cA g.l 1,cA g.l 2,cA g.l 3,cA g.l 4,cA g.l 5,cA g.l 6,cA g.l 7,cA g.l 8,cA g.l 9,cA g.l 10,cA g.l 11,cA g.l 12,cA g.l 13],[],L⟩⟩:=by
 have hz:=oJ (G:=G) n q x k c d p r T f1 f2 hx h
 let z1:SI:=⟨cg (aq (fB (aq bY 118)) 5) (rA (q.a 1)) (ci (bh w.2) 821 (q.a 0+822)),70,(gK.D w.2 q x dh).i++Cp w.2 q.S,[],λ _=>True,λ g=>⟨.ok .next,bg (gK.D w.2 q x dh).i [(0,yE w.2 q (g.sl (q.a 0+822)) g),(1,oq (iO (g.v 10)) 0)]++[cA g.l 0,cA g.l 1,cA g.l 2,cA g.l 3,cA g.l 4,cA g.l 5,cA g.l 6,cA g.l 7,cA g.l 8,cA g.l 9,cA g.l 10,cA g.l 11,cA g.l 12,cA g.l 13],[],[]⟩⟩
 have h1:ai w G z1:=by
  refine ai.tell hz (Cp w.2 q.S) (λ g=>[cA g.l 0,cA g.l 1,cA g.l 2,cA g.l 3,cA g.l 4,cA g.l 5,cA g.l 6,cA g.l 7,cA g.l 8,cA g.l 9,cA g.l 10,cA g.l 11,cA g.l 12,cA g.l 13]) rfl (Nat.le_refl _) rfl hq rfl rfl λ g hp=>?_
  obtain⟨S2,e1,e2⟩:=hp
  refine⟨{g with l:=aP w.2 S2},trivial,rfl,rfl,rfl,rfl,rfl,rfl,rfl,rfl,rfl,λ y hy=>e1.mem_iff.mpr (fI _ ?_)⟩
  have e:List.zip (aZ (Cp w.2 q.S)) [cA (aP w.2 S2) 0,cA (aP w.2 S2) 1,cA (aP w.2 S2) 2,cA (aP w.2 S2) 3,cA (aP w.2 S2) 4,cA (aP w.2 S2) 5,cA (aP w.2 S2) 6,cA (aP w.2 S2) 7,cA (aP w.2 S2) 8,cA (aP w.2 S2) 9,cA (aP w.2 S2) 10,cA (aP w.2 S2) 11,cA (aP w.2 S2) 12,cA (aP w.2 S2) 13]=bj w.2 S2:=by
   obtain⟨Sa,Su,nm,nmn,fl,fln,op,opn,fi,fin,buf,bt,rcn,rt,bbuf,bbt,bo,bon,bp,bpn,r1,t1',r2,t2',cnt,ct,cells,tail⟩:=S2
   have e2:Sa=q.S.a:=e2
   subst e2
   rfl
  exact e▸hy
 refine ai.perm h1 L L rfl (Nat.le_refl _) rfl (L2 _) (λ _ h=>h) (λ nd=>nd) λ g _=>⟨g,trivial,rfl,rfl,rfl,rfl,rfl,rfl,[],?_⟩
 rw[L4]
 exact L2 _
end
section
local macro_rules |`(tactic|omega)=>`(tactic|first |lia |omega (config:={}))
section
variable {w:World}{G:Shared}
theorem wM(vs:List Value)(hv:∀v∈vs,∃x t,v= .int x t)(hs:vs.length<=1000)(a j0:Nat)(L:HL):
  ai w G ⟨au 821 [rA a],71,[(j0,a+822,lO 0 vs)],L,λ _=>True,λ g=>⟨.ok (.ret (.bool true)),[lO 0 vs],[],L⟩⟩:=by
 have hcut:bJ 60 vs=vs.take 60:=sC 60 vs
 have hc:∀v∈bJ 60 vs,∃x t,v= .int x t:=by rw[hcut];exact λ v hm=>hv v (Ca hm)
 have hl:(bJ 60 vs).length<=60:=by rw[hcut,B9];omega
 have hd:=jU (S:={mr with cells:=bJ 60 vs}) (n:=0) (m:=5) (by decide)
 have hd:0<=cz (bJ 60 vs) (0+((0:Nat):Int)) 5/\cz (bJ 60 vs) (0+((0:Nat):Int)) 5<5:=hd
 obtain⟨x,hx⟩:∃x:T5,cz (bJ 60 vs) (0+((0:Nat):Int)) 5=x.p 0 1 2 3 4:=by
  have:cz (bJ 60 vs) (0+((0:Nat):Int)) 5=0\/cz (bJ 60 vs) (0+((0:Nat):Int)) 5=1\/cz (bJ 60 vs) (0+((0:Nat):Int)) 5=2\/cz (bJ 60 vs) (0+((0:Nat):Int)) 5=3\/cz (bJ 60 vs) (0+((0:Nat):Int)) 5=4:=by omega
  rcases this with e |e |e |e |e
  ·exact⟨.a,e⟩
  ·exact⟨.b,e⟩
  ·exact⟨.c,e⟩
  ·exact⟨.d,e⟩
  ·exact⟨.e,e⟩
 let q:Pr:={pr mr L with a:=tk [a],j:=tk [j0],l:=λ _=>vs}
 have hz:=sG.sat w G q x (λ _ _=>True) hs λ b t g0 a0 g1=>⟨qp hc hl x hx (b+1) (g0.n 2) (t+1) (g0.n 1+0) (g0.n 1+1) (g0.n 1+175) L (λ _=>trivial),λ g2 a2=>⟨?_,λ g3 a3 sl _=>trivial⟩⟩
 ·exact ai.im hz (Nat.le_refl _) (L2 _) λ g _=>trivial
 ·let S:=S1 w.2 b t (g0.n 0) (g0.n 1) (g0.n 2) (g2.n 3) (bJ 60 vs)
  let q2:Pr:={pr S (bj w.2 S) with a:=tk [b+0,g2.n 0+1,0,0,a],u:=tk [t+0,g0.n 1+75,g0.n 1+76,g0.n 1+173],j:=tk [1,43,6,5],m:=λ i=>match i with |8=>x.p 1 2 3 4 5 |_=>0,sl:=λ _=>g2.sl ((b+0)+822)}
  have z:=sD (w:=w) (G:=G) 0 (x.p 1 2 3 4 5) q2 .a [] [] [] [] [] _ _ (by cases x<;>(intro e;cases e)) ⟨rfl,by cases x<;>rfl,by cases x<;>decide,⟨hc,hl,show(0:Int)<=1 by decide⟩,show(1:Int)<=1+9* ((0:Nat):Int) by decide,Ag b t (g0.n 0) (g0.n 1) (g0.n 2) (g2.n 3) (bJ 60 vs),Ah b t (g0.n 0) (g0.n 1) (g0.n 2) (g2.n 3) (bJ 60 vs),by show(bj w.2 S).Perm (bj w.2 S++[]);rw[L4]⟩ rfl L trivial
  refine ai.as z ?_ (Nat.le_refl _) ?_ (L2 _) λ g _=>⟨g,trivial,rfl,rfl,rfl,rfl,?_,rfl,L2 _⟩
  ·kernel_rfl
  ·kernel_rfl
  ·kernel_rfl
end
theorem xW{w:World}{s:Shared}(top:∀a o,(iM w.2).get a=some o->s.heap.get? a=some o)(b:Nat)(vs:List Value)(hb:s.heap.get? (b+822)=some (lO 0 vs))(hv:∀v∈vs,∃x t,v= .int x t)(hs:vs.length<=1000)(nf:∀c o,822<=c->s.heap.get? c=some o->bd o=false):
  wpAny (model qw w) callerA (PySem.call (.ref 821) [.ref (b+822)]) (λ v s'=>v= .bool true/\(∀c o,s.heap.get? c=some o->s'.heap.get? c=some o)/\s'.os=s.os/\s'.gens=s.gens) (λ _ _=>False) s:=by
 refine wpAny_call λ Γ p hc hb'=>?_
 obtain⟨b1,b2,b3,b4,b5⟩:=hb'
 have z:=wM (w:=w) (G:=s) vs hv hs b 0 [] Γ 0 [] 0 Γ (λ r s'=>match r with | .ok (.ret v)=>v= .bool true/\(∀c o,s.heap.get? c=some o->s'.heap.get? c=some o)/\s'.os=s.os/\s'.gens=s.gens | .ok _=>False | .error e=>False) p s.heap s.toks hc b1 (λ f h=>by cases h)
  (λ env he=>by rw[b3 [] rfl] at he;cases he) (by
   have:frameCount Γ.below<=1+300:=b2
   show frameCount Γ.below+5*71+20<1000
   omega) (by
   have:unitsOf Γ.below<=4:=b5
   have c9:4+10*71+40<cLine:=by decide
   show unitsOf Γ.below+10*71+40<cLine
   omega) ⟨by
   exact ky (wZ 822 b) (sP (kz hb)),top,λ x hx=>by
   rw[yh.mp hx]
   exact⟨hb,by show 822<=b+822;omega⟩,λ x hx=>absurd hx (by simp),by show [b+822].Nodup;simp⟩ λ g h' _ af=>⟨rfl,λ c o ho=>?_,rfl,rfl⟩
 ·exact z
 ·by_cases e:c=b+822
  ·subst e
   rw[hb] at ho
   injection ho with ho
   subst ho
   exact af.fin.1
  ·have k1:c∉aZ [(0,b+822,lO 0 vs)]:=by show c∉ [b+822];simpa using e
   have k2:c∉aH ([]:HL):=by show c∉ [];simp
   by_cases hc:c<822
   ·exact af.low c o hc ho k1 k2
   ·have:=af.frame c o ho k1 k2
    rw[this]
    unfold aE
    rw[nf c o (AE.mp hc) ho]
end
section
open PyProof.Rows
theorem jC(h:Heap):∀(t:X.KT) (s b:Nat),(∀x∈A3 s b t,h.get? x.1=some x.2)->X.KT.Holds h s b t
 | .nil,_,_,_=>trivial
 | .node v l r,s,b,H=>by
  refine⟨λ o e=>?_,jC h l _ _ λ x hx=>H x ?_,jC h r _ _ λ x hx=>H x ?_⟩
  ·subst e
   exact H (b,o) (fI _ (yh.mpr rfl))
  ·exact fm _ (fI _ hx)
  ·exact fm _ (fm _ hx)
theorem Ai{P:Params}{h:Heap}(e:vo.map h.get? =(pQ P).map λ(x:Nat×Obj)=>some x.2):∀a o,(iM P).get a=some o->h.get? a=some o:=by
 have all:∀l:HL,(l.map (·.1)).map h.get? =l.map (λ(x:Nat×Obj)=>some x.2)->∀x∈l,h.get? x.1=some x.2:=by
  intro l
  induction l with
  |nil=>intro _ x hx;cases hx
  |cons y r ih=>
   intro e x hx
   rw[List.map_cons,List.map_cons,List.map_cons] at e
   injection e with e1 e2
   rcases lI.mp hx with rfl |hx
   ·exact e1
   ·exact ih e2 x hx
 have H:=jC h (iM P) 1 0 (by rw[qR];exact all _ (by rw[vu];exact e))
 intro a o q
 exact X.kt_at H q
noncomputable def eR:OpenRow:=PySem.Challenge.rw_pf0022_01.row
theorem wN:(defOf qv iN).isSome=true:=by kernel_rfl
def dk:DefRec×List (Str×Expr):=(defOf qv iN).get wN
theorem oM:eR.name=iN:=by kernel_rfl
theorem BZ:eR.prog=qw:=by kernel_rfl
theorem B1:eR.args=[.list .int]:=rfl
theorem B2:eR.toRowW.promised:=by
 unfold eR
 first |w_witness2 |exact⟨[.list []],by decide+kernel,by decide+kernel⟩
theorem Aj{args:List WData}(h:eR.toRowW.claim.pre args=true):∃xs:List WData,args=[.list xs]/\(∀x∈xs,∃i,x= .int i)/\xs.length<=1000:=by
 obtain⟨h1,h2⟩:=pre_splitW (r:=eR.toRowW) h
 obtain⟨d,r,rfl,hd,hr⟩:=hasAllW_cons h1
 obtain rfl:=hasAllW_nil hr
 obtain⟨xs,rfl,hx⟩:=hasW_list hd
 refine⟨xs,rfl,λ x hm=>hasW_int (hasItemsW_at hx x hm),?_⟩
 by_cases e:(63:Int)<(xs.length:Int)
 ·exfalso
  have:eR.toRowW.pre= .and (.not (.lt (.lit (.int 63)) (.len (.arg 0)))) (.lit (.bool true)):=rfl
  rw[this] at h2
  have l:less? (WData.int 63) (WData.int (xs.length:Int))=some true:=by show some (decide _)=_;rw[jD e]
  simp[WTm.holds,WTm.value,l] at h2
 ·omega
theorem oN{R:WRecords}{cl:Str->Option Addr}{P:Params}{ord:List DictEntry->List DictEntry}:∀(xs:List WData) (s:Shared),(∀x∈xs,∃i,x= .int i)->∃vs t,layAllW R cl P ord xs s=some (vs,{s with toks:=t})/\(∀v∈vs,∃x k,v= .int x k)/\vs.length=xs.length
 |[],s,_=>⟨[],s.toks,rfl,λ v hv=>(nomatch hv),rfl⟩
 |x::xs,s,h=>by
  obtain⟨i,rfl⟩:=h x L5
  obtain⟨vs,t,e,hv,hl⟩:=oN xs {s with toks:=s.toks+1} λ y hy=>h y (L7 _ hy)
  refine⟨.int i s.toks::vs,t,?_,λ v hm=>?_,by rw[L6,L6,hl]⟩
  ·rw[layAllW]
   show(match layAllW R cl P ord xs {s with toks:=s.toks+1} with
    |some r=>some (Value.int i s.toks::r.1,r.2)
    |none=>none)=_
   rw[e]
  ·rcases lI.mp hm with rfl |hm
   ·exact⟨_,_,rfl⟩
   ·exact hv v hm
theorem Ak{P:Params}{h:Heap}(top:∀a o,(iM P).get a=some o->h.get? a=some o):h.nsMap mainGlobals iN=some (.ref 821):=by
 have t:h.get? mainNs=some (xq P):=top 3 _ (by kernel_rfl)
 unfold Heap.nsMap
 rw[show mainGlobals=mainNs from rfl,t]
 kernel_rfl
theorem lQ{h:Heap}{n:Nat}{o':Obj}(z:h.objs.size=n):∀c o,n<=c->(h.push o').get? c=some o->o=o':=λ c o hc e=>by
 rcases Heap.get?_push_cases e with⟨_,rfl⟩ |q
 ·rfl
 ·have l:c<h.objs.size:=kz q
  exact absurd (Nat.lt_of_lt_of_le l (z▸hc)) (Cz _)
theorem sE:∀a b,eR.toRowW.claim.ident a b=true:=ident_freeW rfl rfl rfl
theorem ends{w:World}{s:Shared}(hz:s.asleep)(hg:s.gens= #[])(hN:s.heap.Ns mainGlobals (s.heap.nsMap mainGlobals))(hc:∀x∈eR.toRowW.claim.records,False)(hY:Yf s=Ya w){free:Addr->Prop}{gens:Prop}{kept:Heap->Prop}(hk:∀h,kept h):
  eR.toRowW.claim.CallFrom (callStub eR.name) w free gens kept s:=by
 refine ClaimW.callFrom_of_specG (c:=eR.toRowW.claim) (tree:=λ vs=>do match <-nsGet mainNs eR.name with
   |some f=>do ret (<-PySem.call f vs)
   |none=>unsupported "claim.caller:no-such-global") hz hg λ args hp hl ord ho=>?_
 obtain⟨xs,rfl,hx,hlen⟩:=Aj hp
 obtain⟨vs,t,e,hv,hvl⟩:=oN (R:=eR.toRowW.claim.records) (cl:=classAt s.heap) (P:=w.2) (ord:=ord) xs s hx
 have z:s.heap.objs.size=822:=Nat.eq_of_beq_eq_true (congrArg Prod.snd hY)
 have top:=Ai (congrArg Prod.fst hY)
 obtain⟨s1,hs1⟩:∃s1:Shared,s1={s with toks:=t,heap:=s.heap.push (lO 0 vs)}:=⟨_,rfl⟩
 have hlaid:layAllW eR.toRowW.claim.records (classAt s.heap) w.2 ord [.list xs] s=some ([.ref (0+822)],s1):=by
  rw[layAllW,layW,e,hs1]
  show some ([Value.ref s.heap.objs.size],_)=_
  rw[z]
  rfl
 have keeps:∀b o,s.heap.get? b=some o->s1.heap.get? b=some o:=layAllW_keeps _ _ _ hlaid
 have al:=layAllW_rest _ _ _ hlaid
 obtain⟨as,hrd,hin,hold⟩:=reads_layAllW ho _ _ _ hlaid hl s1.heap (λ _ _ e=>e)
 have L:Laid eR.toRowW.claim.records w s s1 [.list xs] [.ref (0+822)] as:=⟨⟨ord,ho,hlaid⟩,hrd,hin,hold,keeps,al.1.trans hg,al.2.2.1⟩
 have run:=xW (w:=w) (s:=s1) (λ a o q=>keeps _ _ (top a o q)) 0 vs (by rw[hs1,o9,<-z];exact An _ rfl) hv (by omega) (by
  intro c o hc q
  rw[hs1] at q
  rw[lQ z c o hc q]
  rfl)
 refine⟨_,s1,hlaid,aW (wpAny_nsGet (hN.keeps keeps) ?_)⟩
 rw[oM,Ak top]
 refine aW (B7 run (λ v s' x=>cp ⟨_,rfl,?_⟩) λ _ _ x=>x.elim)
 obtain⟨rfl,k1,k2,k3⟩:=x
 have g:GoodWG eR.toRowW.claim (classAt s.heap) (ExcName.means s.heap) [.list xs] s1 (.ok (.ret (.bool true))) s':=
  ⟨.inl ⟨.bool true,.bool true,[],rfl,λ _=>rfl,.bool true,by kernel_rfl,λ _=>⟨List.nodup_nil,λ a h=>(nomatch h)⟩⟩,.of_keep k1,k2,.of_eq (k3.trans L.gens)⟩
 have q:=g.laid (c:=eR.toRowW.claim) rfl rfl sE L
 exact⟨q.1,q.2.1,q.2.2,hk _⟩
theorem xX:defOf qv eR.name=some (dk.1,dk.2):=by
 rw[oM]
 exact(Option.some_get wN).symm
theorem xY:eR.prog.theDef eR.name=some (dk.1.params,dk.1.body,dk.1.scope):=by kernel_rfl
theorem Al:kwWritten? dk.1.params.kwonlyargs dk.1.params.kw_defaults=some dk.2:=by kernel_rfl
theorem qq:chainsOk qv=true:=by kernel_rfl
theorem sF:opensWell qw=true:=by kernel_rfl
theorem qr:qw.tablesWhole=true:=by
 unfold Program.tablesWhole TablesWhole.wProgram
 rw[Fast.te6116379765354995101]
 kernel_rfl
theorem wO:qw.bare:=⟨rfl,by kernel_rfl,rfl,rfl,rfl,qr⟩
theorem holds_it(ok:PySem.Challenge.rw_pf0022_01.wellSaid=true):PySem.Challenge.rw_pf0022_01.Holds:=by
 refine holds_law ok λ k1=>⟨k1,B2,⟨wO,sF,rfl⟩,B2.witness,λ w=>?_⟩
 obtain⟨h1,h2⟩:=CP.behind (XP:=λ _ _=>True) (λ _ _=>trivial) qq w
 refine⟨h1,λ s hs=>?_⟩
 obtain⟨s0,f,hg,s1,ht,hz,hg1,hn,G,hY⟩:=h2 s hs
 refine⟨s0,f,hg,s1,ht,λ n hm=>?_,λ x hx=>(nomatch hx),λ x hx=>(nomatch hx),ends hz (Array.eq_empty_of_size_eq_zero (beq_iff_eq.mp hg1)) G.T.g (λ x hx=>(nomatch hx)) hY λ h q=>(nomatch q)⟩
 obtain rfl:n=eR.name:=yh.mp hm
 exact pinned_of_view hn G xX xY Al
end
end
end Mine
theorem PySem.Challenge.cw_pf0022_01_holds : PySem.Challenge.rw_pf0022_01.Holds :=
 Mine.holds_it Mine.wellSaid
