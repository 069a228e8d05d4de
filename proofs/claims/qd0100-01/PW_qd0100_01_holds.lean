import PyProof.Rows.All
import Wide.All
import OpenK.AllK
import Wide.FinOn
import PySem.Challenge.RW_qd0100_01
set_option maxRecDepth 100000
set_option Elab.async false
set_option tactic.hygienic false
set_option genCtorIdx false
set_option genInjectivity false
set_option genSizeOf false
set_option bootstrap.genMatcherCode false
set_option backward.match.sparseCases false
set_option linter.all false
set_option hygiene false
local macro_rules | `($a → $b) => `(∀ ξ : $a, $b)
set_option hygiene true
namespace Mine
open PySem PySem.W PySem.Calls PyProof.Rows
theorem bc {P:Prop} (h:¬P→False):P:=Classical.byContradiction h
theorem ff {P:Prop} (h:false=true):P:=Bool.noConfusion h
theorem nn {α:Type} {x:α} {P:Prop} (h:none=some x):P:=Option.noConfusion rfl (heq_of_eq h)
structure Sub (T:BT) (n:Nat) (h:Heap):Prop where
 size:h.objs.size=n
 at_:∀a o o',T.get a=some o→alive o=some o'→h.get? a=some o'
noncomputable def Na (U:List Addr) (n₁:Nat) (t:Thread):Bool:=match t.cur with
 |.update a _ _ _=>Nat.ble n₁ a||U.any (Nat.beq a)
 |.loadIfAlive _ _=>false
 |_=>true
noncomputable def kR (tb:String→Option Builtin) (p:Program) (w:World) (n₀:Nat) (ann:Option Value) (U:List Addr) (n₁ b:Nat):Nat→SharedT→Thread→Option (Flow×SharedT×Code×Pos)
 |0=>fun ξ ξ=>none
 |n+1=>fun s t=>(endAt b t).elim (cond (stepOk n₀ ann t&&Na U n₁ t) ((stepT (denote tb) p w s t).bind fun x=>kR tb p w n₀ ann U n₁ b n x.1 x.2) none) fun f=>some (f,s,t.code,t.pos)
theorem fL {o o':Obj} (h:alive o=some o'):o'=o∧o.isFreed=false:=by
 obtain⟨c,d,dt,sl⟩:=o
 cases dt with
 |freed=>exact nn h
 |_=>exact⟨(Option.some.inj h).symm,rfl⟩
theorem qw {h:Heap} {o:Obj} {a:Addr} (ha:a≠h.objs.size):(h.push o).get? a=h.get? a:=by
 cases e:h.get? a with
 |some o'=>exact Heap.get?_push_of_some o e
 |none=>
  obtain⟨objs,life⟩:=h
  simp only[Heap.push,Heap.get?] at *
  simp only[Array.getElem?_push]
  by_cases q:a=objs.size
  ·exact absurd q ha
  ·rw[if_neg q];exact e
section
variable {den:Code→Sem Fin} {p:Program} {w:World}
noncomputable def NT (s:SharedT):PySem.Step→Option (SharedT×Thread)
 |.go s' t'=>some (⟨s.tree,s.n,s.life,s'.gens,s'.drawn,s'.toks,s'.os⟩,t')
 |.halt _ _=>none
noncomputable def pV (c:Sem Fin):Bool:=match c with
 |.load ..=>true
 |.update ..=>true
 |.alloc ..=>true
 |.loadIfAlive ..=>true
 |_=>false
noncomputable def sh (s:SharedT) (h:Heap):Shared:=⟨h,s.gens,s.drawn,s.toks,s.os⟩
def DX (U:List Addr) (n₁:Nat) (h h':Heap):Prop:=h'.life=h.life∧∀a,a < n₁→U.any (Nat.beq a)=false→h'.get? a=h.get? a
variable {st s':SharedT} {t t':Thread} {h:Heap} {U:List Addr} {n₁:Nat} {cur:Sem Fin} {code:Code} {pos:Pos} {stack:List Frame}
def Ky (den:Code→Sem Fin) (p:Program) (w:World) (U:List Addr) (n₁:Nat) (st:SharedT) (h:Heap) (t:Thread) (s':SharedT) (t':Thread):Prop:=
 ∃h',step den p w (sh st h) t=.go (sh s' h') t'∧Sub s'.tree s'.n h'∧n₁≤s'.n∧DX U n₁ h h'
theorem qd (hi:pV cur=false):stepT den p w st ⟨cur,code,pos,stack⟩=NT st (step den p w ⟨{},st.gens,st.drawn,st.toks,st.os⟩ ⟨cur,code,pos,stack⟩):=by
 cases cur<;>first|exact ff hi.symm|rfl
theorem rh (S:Sub st.tree st.n h) (hn:n₁≤st.n) (hi:pV cur=false) (e:stepT den p w st ⟨cur,code,pos,stack⟩=some (s',t')):Ky den p w U n₁ st h ⟨cur,code,pos,stack⟩ s' t':=by
 have e:=(qd hi).symm.trans e
 cases q:step den p w ⟨{},st.gens,st.drawn,st.toks,st.os⟩ ⟨cur,code,pos,stack⟩ with
 |halt=>rw[q] at e;exact nn e
 |go s₀ t₀=>
  rw[q] at e
  cases e
  have no:∀{c:Sem Fin},pV c=true→cur≠c:=fun h e=>ff (hi.symm.trans ((congrArg pV e).trans h))
  exact⟨h,step_heap (fun ξ ξ ξ=>no rfl) (fun ξ ξ ξ ξ=>no rfl) (fun ξ ξ=>no rfl) (fun ξ ξ=>no rfl) q,S,hn,rfl,fun ξ ξ ξ=>rfl⟩
theorem tG {α:Type} {b:Bool} {o1:Option Obj} {F:Obj→α} {r:α} (e:(match b with|true=>(match o1 with|some o=>(match alive o with|some o'=>some (F o')|none=>none)|none=>none)|false=>none)=some r):∃o o',o1=some o∧alive o=some o'∧F o'=r:=by
 cases b with
 |false=>exact nn e
 |true=>cases o1 with
  |none=>exact nn e
  |some o=>
   revert e
   show(match alive o with|some o'=>some (F o')|none=>none)=some r→_
   cases al:alive o with
   |none=>exact fun e=>nn e
   |some o'=>exact fun e=>⟨o,o',rfl,al,Option.some.inj e⟩
theorem xf {a:Addr} {f:Obj→Obj} {o o':Obj} (S:Sub st.tree st.n h) (g:st.tree.get a=some o) (al:alive o=some o'):Sub (st.tree.set a f) st.n (h.update a f):=by
 have ha:=S.at_ a o o' g al
 obtain⟨rfl,hfr⟩:=fL al
 refine⟨by rw[Heap.size_after_update];exact S.size,fun b x x' gx ax=>?_⟩
 rw[BT.get_set] at gx
 by_cases hb:b=a
 ·subst hb
  rw[if_pos rfl,g] at gx
  obtain⟨rfl,hx⟩:=fL ax
  cases gx
  exact Heap.get?_update_self f ha hx
 ·rw[if_neg hb] at gx
  rw[Heap.get?_update_other h f (Ne.symm hb)]
  exact S.at_ b x x' gx ax
theorem xX {o:Obj} (S:Sub st.tree st.n h) (eb:((st.tree.ins st.n o).get st.n).isSome=true):Sub (st.tree.ins st.n o) (st.n+1) (h.push o):=by
 refine⟨by rw[Heap.size_push,S.size],fun b x x' gx ax=>?_⟩
 rw[BT.get_ins o st.tree st.n eb] at gx
 by_cases hb:b=st.n
 ·subst hb
  rw[if_pos rfl] at gx
  cases gx
  obtain⟨rfl,hx⟩:=fL ax
  rw[← S.size]
  exact Heap.get?_push_size h hx
 ·rw[if_neg hb] at gx
  exact Heap.get?_push_of_some o (S.at_ b x x' gx ax)
theorem q7 (S:Sub st.tree st.n h) (hn:n₁≤st.n) (ok:Na U n₁ t=true) (e:stepT den p w st t=some (s',t')):Ky den p w U n₁ st h t s' t':=by
 obtain⟨cur,code,pos,stack⟩:=t
 cases hi:pV cur with
 |false=>exact rh S hn hi e
 |true=>cases cur with
  |load a q k=>
   have e:(match Nat.blt a st.n with|true=>(match st.tree.get a with|some o=>(match alive o with|some o'=>some (st,(⟨k o',code,pos,stack⟩:Thread))|none=>none)|none=>none)|false=>none)=some (s',t'):=e
   obtain⟨o,o',g,al,e⟩:=tG e
   cases e
   exact⟨h,by show(match h.get? a with|some o=>PySem.Step.go (sh st h) ⟨k o,code,pos,stack⟩|none=>_)=_;rw[S.at_ a o o' g al],S,hn,rfl,fun ξ ξ ξ=>rfl⟩
  |update a q f k=>
   have e:(match Nat.blt a st.n with|true=>(match st.tree.get a with|some o=>(match alive o with|some _=>some (({ st with tree:=st.tree.set a f }:SharedT),(⟨k (),code,pos,stack⟩:Thread))|none=>none)|none=>none)|false=>none)=some (s',t'):=e
   obtain⟨o,o',g,al,e⟩:=tG (F:=fun ξ=>(({ st with tree:=st.tree.set a f }:SharedT),(⟨k (),code,pos,stack⟩:Thread))) e
   cases e
   refine⟨h.update a f,if_pos (congrArg Option.isSome (S.at_ a o o' g al)),xf S g al,hn,by cases h;rfl,fun b hb hu=>Heap.get?_update_other h f fun q=>?_⟩
   subst q
   have ok:(Nat.ble n₁ a||U.any (Nat.beq a))=true:=ok
   rcases Bool.or_eq_true_iff.mp ok with ok|ok
   ·exact absurd hb (Nat.not_lt.mpr (Nat.le_of_ble_eq_true ok))
   ·rw[hu] at ok;exact ff ok
  |alloc o k=>
   have e:(match ((st.tree.ins st.n o).get st.n).isSome with|true=>some (({ st with tree:=st.tree.ins st.n o,n:=st.n+1 }:SharedT),(⟨k st.n,code,pos,stack⟩:Thread))|false=>none)=some (s',t'):=e
   cases eb:((st.tree.ins st.n o).get st.n).isSome with
   |false=>rw[eb] at e;exact nn e
   |true=>
    rw[eb] at e
    cases e
    exact⟨h.push o,by rw[← S.size];rfl,xX S eb,Nat.le_succ_of_le hn,by cases h;rfl,fun b hb ξ=>qw (by rw[S.size];exact Nat.ne_of_lt (Nat.lt_of_lt_of_le hb hn))⟩
  |loadIfAlive a k=>exact ff ok
  |_=>exact ff hi
variable {tb:String→Option Builtin} {n₀:Nat} {ann:Option Value} {b N:Nat} {f:Flow} {c:Code} {q:Pos}
def PU (tb:String→Option Builtin) (p:Program) (w:World) (n₀:Nat) (ann:Option Value) (U:List Addr) (n₁ b N:Nat) (st:SharedT) (h:Heap) (t:Thread) (f:Flow) (s':SharedT) (c:Code) (q:Pos):Prop:=
 ∃h',segRun tb p w n₀ ann b N (sh st h) t=some (f,sh s' h',c,q)∧Sub s'.tree s'.n h'∧DX U n₁ h h'
theorem rp {s:Shared} {x:Flow} (he:endAt b t=some x):segRun tb p w n₀ ann b (N+1) s t=some (x,s,t.code,t.pos):=by
 unfold segRun;rw[he]
theorem uS {s s₂:Shared} {t₂:Thread} (he:endAt b t=none) (hk:stepOk n₀ ann t=true) (hs:step (denote tb) p w s t=.go s₂ t₂):segRun tb p w n₀ ann b (N+1) s t=segRun tb p w n₀ ann b N s₂ t₂:=by
 rw[segRun,he];dsimp only;rw[hk];dsimp only;rw[hs]
theorem GB {α β δ:Type} {o1:Option α} {b1 b2:Bool} {o2:Option β} {g:α→δ} {k:β→Option δ} {r:δ} (e:o1.elim (cond (b1&&b2) (o2.bind k) none) (fun f=>some (g f))=some r):
  (∃f,o1=some f∧g f=r)∨(o1=none∧b1=true∧b2=true∧∃x,o2=some x∧k x=some r):=by
 cases o1 with
 |some f=>exact .inl ⟨f,rfl,Option.some.inj e⟩
 |none=>cases b1 with
  |false=>exact nn e
  |true=>cases b2 with
   |false=>exact nn e
   |true=>cases o2 with
    |none=>exact nn e
    |some x=>exact .inr ⟨rfl,rfl,rfl,x,rfl,e⟩
theorem r7 (e:kR tb p w n₀ ann U n₁ b N st t=some (f,s',c,q)) (S:Sub st.tree st.n h) (hn:n₁≤st.n):PU tb p w n₀ ann U n₁ b N st h t f s' c q:=by
 induction N generalizing st t h with
 |zero=>exact nn e
 |succ N ih=>
  rcases GB (o1:=endAt b t) (b1:=stepOk n₀ ann t) (b2:=Na U n₁ t) (o2:=stepT (denote tb) p w st t) (r:=(f,s',c,q)) (g:=fun f=>(f,st,t.code,t.pos)) (k:=fun x=>kR tb p w n₀ ann U n₁ b N x.1 x.2) e with ⟨x,he,e⟩|⟨he,hk,hp,x,hs,e⟩
  ·cases e;exact⟨h,rp he,S,rfl,fun ξ ξ ξ=>rfl⟩
  ·obtain⟨h₂,a1,a2,a3,a4,a5⟩:=q7 S hn hp hs
   obtain⟨h',b1,b2,b3,b4⟩:=ih e a2 a3
   exact⟨h',(uS he hk a1).trans b1,b2,b3.trans a4,fun a ha hu=>(b4 a ha hu).trans (a5 a ha hu)⟩
end
end Mine
namespace Mine
noncomputable section
open PySem PySem.W PySem.Calls PyProof.Rows
noncomputable def B3:Nat→Nat→List Nat
 |0,_=>[]
 |f+1,n=>match n with
  |0=>[]
  |m+1=>((m+1) % 256)::B3 f ((m+1) / 256)
noncomputable def iW (n:Nat):List Nat:=B3 (nat_lit 60) n
noncomputable def vN:Value:=.none
noncomputable def vT:Value:=.bool true
noncomputable def vF:Value:=.bool false
noncomputable def vI (n t:Nat):Value:=.int (Int.ofNat n) t
noncomputable def vR (a:Nat):Value:=.ref a
noncomputable def vS (c t:Nat):Value:=.str ⟨⟨iW c⟩⟩ t
noncomputable def an:Value:=.type "object"
noncomputable def Jv:Value:=.type "type"
noncomputable def cM:Value:=.type "dict"
noncomputable def bG:Value:=.type "tuple"
noncomputable def aL:Value:=.builtin "object.__new__"
noncomputable def ah (P:Params) (c t:Nat) (v:Value):DictEntry:=⟨PyData.keyHash P ⟨⟨iW c⟩⟩,.str ⟨⟨iW c⟩⟩ t,v⟩
noncomputable def cO (c:Value) (vs:List Value):Obj:=⟨c,none,.seq ⟨vs⟩ 0,⟨[]⟩⟩
noncomputable def Hr (c:Value) (vs:List Value):Obj:=⟨c,none,.fields ⟨vs⟩,⟨[]⟩⟩
noncomputable def dS (c:Value) (es:List DictEntry) (n:Nat):Obj:=⟨c,none,.dict ⟨es⟩ n,⟨[]⟩⟩
noncomputable def OX (c:Nat) (bases mro:List Value) (ns:Nat) (subs:List Value) (sl:Array (Option Value)):Obj:=
 ⟨Jv,none,.cls { name:=⟨⟨iW c⟩⟩,bases:=bases,mro:=mro,ns:=ns,qualname:=⟨⟨iW c⟩⟩,hasDict:=true,slotNames:=[],subclasses:=subs,abstract:=false,collection:=none,hasDel:=false },sl⟩
noncomputable def gF (p:Program):List Stmt:=behindTheImports p
noncomputable def bM (p:Program) (i:Nat):Option Stmt:=(gF p)[i]?
noncomputable def ck (p:Program) (i j:Nat):Option Stmt:=match (gF p)[i]? with
 |some (.ClassDef _ _ _ b _ _ _ _ _ _ _)=>b[j]?
 |_=>none
noncomputable def aN (st:Option Stmt) (c:Nat) (dV pm cd:Value):Obj:=match st with
 |some (.FunctionDef name args body _ _ _ scope _ _ _)=>⟨.type "function",none,.func { name:=name,qualname:=⟨⟨iW c⟩⟩,params:=args,body:=.stmts body,scope:=scope,globals:=nat_lit 3,closure:=[],defaults:=dV,kwdefaults:=.none,pyModule:=pm,code:=cd,builtins:=nat_lit 0 },⟨[]⟩⟩
 |_=>⟨.none,none,.plain,⟨[]⟩⟩
noncomputable def Ln:Nat:=nat_lit 6872323076851130207
noncomputable def aX (nm:Value) (es:List DictEntry) (P:Params) (n:Nat):Obj:=⟨cM,none,.dict ⟨ah P Ln (nat_lit 165) nm::es⟩ n,⟨[]⟩⟩
noncomputable def aG (vs:List Value):Obj:=Hr vN vs
noncomputable def ml (o:Obj):Option (List Nat):=match o.data with
 |.fields vs=>match vs.toList with
  |_::.str q _::_=>some q.cps.toList
  |_=>none
 |_=>none
structure aR where
 i:Nat
 c:Nat
 N:Nat
 need:List Nat
 U:List Nat
 n:Nat
 toks:Nat
 pos:Pos
 n':Nat
 toks':Nat
 pos':Pos
 outs:Program→Params→List (Addr×Obj)
 codes:List (Addr×Nat)
noncomputable def Cn (p:Program):Env:={ scope:=p.main.scope,locals:=mainNs,globals:=mainNs,cells:=[],code:=.ref (nat_lit 13),frame:=some (nat_lit 14) }
noncomputable def Gl (p:Program):Code:=.body (gF p) (Cn p)
noncomputable def q0:Pos:=⟨nat_lit 0,nat_lit 0,nat_lit 0,nat_lit 0⟩
noncomputable def vc:Option Value:=some (.ref (nat_lit 6))
noncomputable def xl:Obj:=⟨.none,none,.freed,⟨[]⟩⟩
noncomputable def lk:List (Addr×Obj)→Nat→Option Obj
 |[],_=>none
 |p::r,a=>match Nat.beq p.1 a with
  |true=>some p.2
  |false=>lk r a
noncomputable def eZ:Nat→Nat→BT
 |0,_=>.nil
 |f+1,n=>match n with
  |0=>.nil
  |m+1=>.node xl (eZ f ((m+1) / 2)) (eZ f (m / 2))
noncomputable def Jd (K:List (Addr×Obj)):List Nat→BT→BT
 |[],T=>T
 |a::r,T=>match lk K a with
  |some o=>match (T.ins a o).get a with
   |some _=>Jd K r (T.ins a o)
   |none=>.nil
  |none=>.nil
noncomputable def y6:Life:={}
noncomputable def DA (p:Program) (x:aR) (K:Program→Params→List (Addr×Obj)) (w:World) (os:OsState):Option (Flow×SharedT×Code×Pos):=
 kR treeTable p w (nat_lit 11) vc x.U x.n (nat_lit 1) x.N ⟨Jd (K p w.params) x.need (eZ (nat_lit 12) x.n),x.n,y6,⟨[]⟩,boot_drawn,x.toks,os⟩ (piecesOf (((gF p).drop x.i).take x.c) (Cn p) (Gl p) x.pos [topFrame q0])
noncomputable def rP (T:BT):List (Addr×Obj)→List (Option Obj)
 |[]=>[]
 |p::r=>T.get p.1::rP T r
noncomputable def xF:List (Addr×Obj)→List (Option Obj)
 |[]=>[]
 |p::r=>some p.2::xF r
noncomputable def GE (T:BT):List (Addr×Nat)→List (Option (List Nat))
 |[]=>[]
 |p::r=>(match T.get p.1 with|some o=>ml o|none=>none)::GE T r
noncomputable def yf:List (Addr×Nat)→List (Option (List Nat))
 |[]=>[]
 |p::r=>some (iW p.2)::yf r
noncomputable def H0 (p:Program) (x:aR) (P:Params):Option (Flow×SharedT×Code×Pos)→Option ((Nat×Nat×Pos)×(Array GenState×Drawn×OsState×Code)×List (Option Obj)×List (Option (List Nat)))
 |some (.next,s,c,q)=>some ((s.n,s.toks,q),(s.gens,s.drawn,s.os,c),rP s.tree (x.outs p P),GE s.tree x.codes)
 |_=>none
noncomputable def aP (p:Program) (x:aR) (K:Program→Params→List (Addr×Obj)) (w:World):Prop:=∀os:OsState,
 H0 p x w.params (DA p x K w os)=some ((x.n',x.toks',x.pos'),(⟨[]⟩,boot_drawn,os,Gl p),xF (x.outs p w.params),yf x.codes)
theorem uq:aP=aP:=rfl
noncomputable def jf:Nat→List Obj→List (Addr×Obj)
 |_,[]=>[]
 |n,o::r=>(n,o)::jf (Nat.succ n) r
end
noncomputable section
open PySem PySem.W PySem.Calls PyProof.Rows
abbrev OP (α:Type):=Program→Params→α
noncomputable def bh (c:Nat) (bases mro:List Value) (ns:Nat) (subs:List Value) (x:Option Value) (a b:Nat) (y:Value):Obj:=OX c bases mro ns subs #[x,none,some (vS c a),some (vS c b),some y,some vT]
noncomputable def b9 (P:Params) (n t1 m t0 t2 l u:Nat) (r:List DictEntry):Obj:=dS cM (ah P (nat_lit 450384564904988244795231) t1 (vS m t0)::ah P (nat_lit 495203858965168609907421719000670047) t2 (vI l u)::r) n
noncomputable def dL (P:Params) (a b c:Nat) (v:Value):List DictEntry:=[ah P (nat_lit 139387583093331537335747288891456728448373227741023) a (vR b),ah P (nat_lit 26845003462762335) c v]
section
local macro_rules (kind := num) | x => `(nat_lit $(⟨x⟩))
noncomputable def fi (p:Program) (P:Params):List Obj:=[boot_o_0 P,
 boot_o_1 P,
 boot_o_2 P,
 boot_o_3 P,
 boot_o_4 P,
 boot_o_5 P,
 boot_o_6 P,
 boot_o_7 P,
 boot_o_8 P,
 boot_o_9 P,
 boot_o_10 P,
 cO bG [],
 Hr vN [],
 Hr (.type "code") [vS 4496119054451305788 182,vS 4496119054451305788 183,vS 9621326145873605890393926034223 184,vI 1 0,vI 0 0,vI 0 0,vI 0 0,vI 0 0,vR 11,vF,vI 181 0,vR 12,vN,vN,vN,vN,vI 185 0,vI 1 0,vS 9621326145873605890393926034223 186],
 ⟨.type "frame",none,.plain,#[some (vR 13),some (vR 3),some (vR 3),none,some (vS 6872332955275845471 164),none,some (vR 0)]⟩]
noncomputable def JC (P:Params):List DictEntry:=[ah P 26845003462762335 166 vN,ah P 115298448249767165785300831 167 vN,ah P 450385499664681318244191 168 (.builtin "__main__.__loader__#opaque"),ah P 6872320843720122207 169 vN,ah P 495204175889884515450050897942503263 170 (vR 6),ah P 29516468994777367089179156319 171 (vR 4),ah P 6872323072689856351 173 (vS 9621326145873605890393926034223 172),ah P 450384490862771188227935 174 vN]
noncomputable def K0:OP (List (Addr×Obj)):=fun p P=>jf 0 (fi p P)
noncomputable def LB (P:Params):List DictEntry:=JC P
noncomputable def JE:List Value:=[]
noncomputable def KM (P:Params):List DictEntry:=[ah P 465674794847 193 (vR 21),ah P 76198110453579 197 (vI 8 196),ah P 25141713367818059 199 (vI 21 198),ah P 6436278621958201163 201 (vI 23 200),ah P 18939394061524811 203 (vI 24 202),ah P 5640557680532741963 205 (vI 25 204),ah P 82752364896075 207 (vI 26 206),ah P 74003717185355 209 (vI 27 208),ah P 1396793163 211 (vI 29 210),ah P 1555529324695511981899 213 (vI 30 212),ah P 100668037995124239761629003 215 (vI 31 214),ah P 76193949179723 217 (vI 40 216),ah P 353283497803 219 (vI 41 218),ah P 83851808628555 221 (vI 42 220),ah P 6076290827284733771 223 (vI 43 222),ah P 21184631114194763 225 (vI 59 224),ah P 25143976797757259 227 (vI 60 226),ah P 23453962984447819 229 (vI 61 228),ah P 83733484213315229543128907 231 (vI 64 230),ah P 23434206134755147 233 (vI 65 232),ah P 85028780728139 235 (vI 66 234),ah P 1425393026266239950667 237 (vI 67 236),ah P 6076006053588852555 239 (vI 68 238),ah P 1278392157807166709579 241 (vI 69 240),ah P 6076006053773139787 243 (vI 70 242),ah P 92716688760651 245 (vI 71 244),ah P 77263547948875 247 (vI 81 246),ah P 5566821054880702283 249 (vI 100 248),ah P 24575537959755590 251 (vI 4 250),ah P 421550706790193164541766 253 (vI 8 252),ah P 83851808628550 255 (vI 16 254),ah P 1278896569731544801094 257 (vI 16384 256),ah P 82534353394988254596456262 259 (vI 32768 258),ah P 4848490321623932742 261 (vI 65536 260),ah P 421698212328905595051846 263 (vI 131072 262),ah P 4848499113405407046 265 (vI 262144 264),ah P 397919423331265864097606 267 (vI 524288 266),ah P 327102949290788382531398 269 (vI 1048576 268),ah P 78401427889990 271 (vI 2097152 270),ah P 1555166496849066549062 273 (vI 4194304 272),ah P 23735493846064966 275 (vI 8388608 274)]
noncomputable def Dt (P:Params):List DictEntry:=LB P++KM P
noncomputable def C7:List Value:=JE++[vI 1 0,vI 0 0,vR 20]
noncomputable def DQ:OP (List (Addr×Obj)):=fun p P=>[(3,aX (vS 2340510232045947870915661136816491 194) (Dt P) P 50),
 (12,aG C7),
 (21,aN (bM p 0) 465674794847 vN (vS 6872332955275845471 164) (vR 20))]
noncomputable def wu:List (Addr×Nat):=[(20,465674794847)]
noncomputable def P6:aR:=⟨0,42,399,[3,4,12,13],[3,12],15,187,⟨0,0,0,0⟩,22,276,⟨44,0,44,7⟩,DQ,wu⟩
noncomputable def K1:OP (List (Addr×Obj)):=fun p P=>DQ p P++K0 p P
noncomputable def Ir (P:Params):List DictEntry:=[ah P 421698212330069866864454 277 (vI 134217728 276),ah P 1313431366 279 (vI 268435456 278),ah P 362208517958 281 (vI 536870912 280),ah P 1701080910 319 (vR 38),ah P 1717658988 328 (vR 49),ah P 1734965108 338 (vR 56),ah P 28258992461540454 349 (vR 63),ah P 28832903390783852 357 (vR 70)]
noncomputable def CU (P:Params):List DictEntry:=Dt P++Ir P
noncomputable def Dv:List Value:=C7++[vI 48 0,vI 0 0,vR 27,vI 57 0,vI 0 0,vR 48,vI 59 0,vI 0 0,vR 55,vI 61 0,vI 0 0,vR 62,vI 63 0,vI 0 0,vR 69]
noncomputable def Qu:OP Obj:=fun p P=>bh 1701080910 [an] [vR 38,an] 37 [] none 282 290 (aL)
noncomputable def Qk:OP Obj:=fun p P=>dS cM [ah P 450384564904988244795231 289 (vS 2340510232045947870915661136816491 194),ah P 495203858965168609907421719000670047 293 (vI 48 292),ah P 6872339552563453791 305 (vR 35),ah P 139387583093331537335747288891456728448373227741023 312 (vR 36),ah P 6872339526709436255 314 (vR 39),ah P 115298466557181117500710751 316 (vR 40),ah P 26845003462762335 317 vN] 4
noncomputable def Qq:OP Obj:=fun p P=>aN (ck p 45 0) 7556217248068430591470237675342 vN (vS 2340510232045947870915661136816491 194) (vR 34)
noncomputable def Ej:OP (List (Addr×Obj)):=fun p P=>[(3,aX (vS 2340667752615168353039170549999979 358) (CU P) P 58),
 (12,aG Dv),
 (35,Qq p P),
 (37,Qk p P),
 (38,Qu p P),
 (49,aN (bM p 46) 1717658988 vN (vS 2340510232045947870915661136816491 194) (vR 48)),
 (56,aN (bM p 47) 1734965108 vN (vS 2340510232045947870915661136816491 194) (vR 55)),
 (63,aN (bM p 48) 28258992461540454 vN (vS 2340510232045947870915661136816491 194) (vR 62)),
 (70,aN (bM p 49) 28832903390783852 vN (vS 2340510232045947870915661136816491 194) (vR 69))]
noncomputable def v3:List (Addr×Nat):=[(34,7556217248068430591470237675342),(48,1717658988),(55,1734965108),(62,28258992461540454),(69,28832903390783852)]
noncomputable def PZ:aR:=⟨42,9,394,[0,2,3,4,12,13],[3,12],22,276,⟨44,0,44,7⟩,71,360,⟨65,0,65,8⟩,Ej,v3⟩
noncomputable def K2:OP (List (Addr×Obj)):=fun p P=>Ej p P++K1 p P
noncomputable def JO (P:Params):List DictEntry:=[ah P 2110959431131007903051 390 (vR 88)]
noncomputable def C2 (P:Params):List DictEntry:=CU P++JO P
noncomputable def EH:List Value:=Dv++[vI 66 0,vI 0 0,vR 76]
noncomputable def Dk:OP (List (Addr×Obj)):=fun p P=>[(2,dS vN [ah P 85129116768494180498695589069698160004955354133340253633475733047347280244 387 (vI 88 0),ah P 194673634784754008932860034115759107986259355739628629037015317527489706356 388 (vI 1 0)] 2),
 (3,aX (vS 2340667752615168353039170549999979 358) (C2 P) P 59),
 (12,aG EH),
 (78,cO bG [vS 0 372]),
 (85,aN (ck p 51 0) 8308148726252807311465356088663682866046283 (vR 78) (vS 2340667752615168353039170549999979 358) (vR 84)),
 (87,dS cM [ah P 450384564904988244795231 367 (vS 2340667752615168353039170549999979 358),ah P 495203858965168609907421719000670047 371 (vI 66 370),ah P 6872339552563453791 380 (vR 85),ah P 139387583093331537335747288891456728448373227741023 383 (vR 86),ah P 115298466557181117500710751 385 (vR 89),ah P 26845003462762335 386 vN] 3),
 (88,bh 2110959431131007903051 [.type "Exception"] [vR 88,.type "Exception",.type "BaseException",an] 87 [] (some (vR 71)) 360 368 (.builtin "Exception.__new__"))]
noncomputable def vJ:List (Addr×Nat):=[(84,8308148726252807311465356088663682866046283)]
noncomputable def Qr:aR:=⟨51,1,232,[0,2,3,4,12,13],[2,3,12],71,360,⟨65,0,65,8⟩,92,391,⟨66,0,70,24⟩,Dk,vJ⟩
noncomputable def K3:OP (List (Addr×Obj)):=fun p P=>Dk p P++K2 p P
noncomputable def JA (P:Params):List DictEntry:=[ah P 31636683005849428 419 (vR 109)]
noncomputable def Es (P:Params):List DictEntry:=C2 P++JA P
noncomputable def En:List Value:=EH++[vI 71 0,vI 0 0,vR 97]
noncomputable def ED:OP (List (Addr×Obj)):=fun p P=>[(3,aX (vS 2340667752615168353039170549999979 358) (Es P) P 60),
 (12,aG En),
 (88,bh 2110959431131007903051 [.type "Exception"] [vR 88,.type "Exception",.type "BaseException",an] 87 [vR 109] (some (vR 71)) 360 368 (.builtin "Exception.__new__")),
 (99,cO bG [vI 2589 403,vS 0 404]),
 (106,aN (ck p 52 0) 126772288913769642814107032331695910740 (vR 99) (vS 2340667752615168353039170549999979 358) (vR 105)),
 (108,b9 P 2 398 2340667752615168353039170549999979 358 402 71 401 (ah P 6872339552563453791 413 (vR 106)::dL P 416 107 417 vN)),
 (109,bh 31636683005849428 [vR 88] [vR 109,vR 88,.type "Exception",.type "BaseException",an] 108 [] (some (vR 92)) 391 399 (.builtin "Exception.__new__"))]
noncomputable def wC:List (Addr×Nat):=[(105,126772288913769642814107032331695910740)]
noncomputable def Qb:aR:=⟨52,1,251,[0,2,3,4,12,13,87,88],[3,12,88],92,391,⟨66,0,70,24⟩,112,420,⟨71,0,75,24⟩,ED,wC⟩
noncomputable def K4:OP (List (Addr×Obj)):=fun p P=>ED p P++K3 p P
noncomputable def Ii (P:Params):List DictEntry:=[ah P 2074066471986171896144 446 (vR 129)]
noncomputable def Di (P:Params):List DictEntry:=Es P++Ii P
noncomputable def EE:List Value:=En++[vI 76 0,vI 0 0,vR 117]
noncomputable def Db:OP (List (Addr×Obj)):=fun p P=>[(3,aX (vS 2340667752615168353039170549999979 358) (Di P) P 61),
 (12,aG EE),
 (88,bh 2110959431131007903051 [.type "Exception"] [vR 88,.type "Exception",.type "BaseException",an] 87 [vR 109,vR 129] (some (vR 71)) 360 368 (.builtin "Exception.__new__")),
 (119,cO bG [vS 0 432]),
 (126,aN (ck p 53 0) 8308148726252807311465319195704538030039376 (vR 119) (vS 2340667752615168353039170549999979 358) (vR 125)),
 (128,b9 P 2 427 2340667752615168353039170549999979 358 431 76 430 (ah P 6872339552563453791 440 (vR 126)::dL P 443 127 444 vN)),
 (129,bh 2074066471986171896144 [vR 88] [vR 129,vR 88,.type "Exception",.type "BaseException",an] 128 [] (some (vR 112)) 420 428 (.builtin "Exception.__new__"))]
noncomputable def z8:List (Addr×Nat):=[(125,8308148726252807311465319195704538030039376)]
noncomputable def Qz:aR:=⟨53,1,249,[0,2,3,4,12,13,87,88],[3,12,88],112,420,⟨71,0,75,24⟩,132,447,⟨76,0,80,24⟩,Db,z8⟩
noncomputable def K5:OP (List (Addr×Obj)):=fun p P=>Db p P++K4 p P
noncomputable def IU (P:Params):List DictEntry:=[ah P 2147637572233908678472 473 (vR 149)]
noncomputable def Dl (P:Params):List DictEntry:=Di P++IU P
noncomputable def CS:List Value:=EE++[vI 81 0,vI 0 0,vR 137]
noncomputable def Ey:OP (List (Addr×Obj)):=fun p P=>[(3,aX (vS 2340667752615168353039170549999979 358) (Dl P) P 62),
 (12,aG CS),
 (88,bh 2110959431131007903051 [.type "Exception"] [vR 88,.type "Exception",.type "BaseException",an] 87 [vR 109,vR 129,vR 149] (some (vR 71)) 360 368 (.builtin "Exception.__new__")),
 (139,cO bG [vS 0 459]),
 (146,aN (ck p 54 0) 8308148726252807311465392766804785766821704 (vR 139) (vS 2340667752615168353039170549999979 358) (vR 145)),
 (148,b9 P 2 454 2340667752615168353039170549999979 358 458 81 457 (ah P 6872339552563453791 467 (vR 146)::dL P 470 147 471 vN)),
 (149,bh 2147637572233908678472 [vR 88] [vR 149,vR 88,.type "Exception",.type "BaseException",an] 148 [] (some (vR 132)) 447 455 (.builtin "Exception.__new__"))]
noncomputable def y4:List (Addr×Nat):=[(145,8308148726252807311465392766804785766821704)]
noncomputable def Qo:aR:=⟨54,1,249,[0,2,3,4,12,13,87,88],[3,12,88],132,447,⟨76,0,80,24⟩,152,474,⟨81,0,85,24⟩,Ey,y4⟩
noncomputable def K6:OP (List (Addr×Obj)):=fun p P=>Ey p P++K5 p P
noncomputable def KX (P:Params):List DictEntry:=[ah P 1734437188 515 (vR 175)]
noncomputable def D5 (P:Params):List DictEntry:=Dl P++KX P
noncomputable def DY:List Value:=CS++[vI 86 0,vI 0 0,vR 157]
noncomputable def C5:OP (List (Addr×Obj)):=fun p P=>[(3,aX (vS 2340667752615168353039170549999979 358) (D5 P) P 63),
 (12,aG DY),
 (165,aN (ck p 55 0) 7556217248068430591470271031620 vN (vS 2340667752615168353039170549999979 358) (vR 164)),
 (172,aN (ck p 55 1) 8606222956556806468 vN (vS 2340667752615168353039170549999979 358) (vR 171)),
 (174,dS cM [ah P 450384564904988244795231 481 (vS 2340667752615168353039170549999979 358),ah P 495203858965168609907421719000670047 485 (vI 86 484),ah P 6872339552563453791 496 (vR 165),ah P 7827314 503 (vR 172),ah P 139387583093331537335747288891456728448373227741023 508 (vR 173),ah P 6872339526709436255 510 (vR 176),ah P 115298466557181117500710751 512 (vR 177),ah P 26845003462762335 513 vN] 4),
 (175,bh 1734437188 [an] [vR 175,an] 174 [] none 474 482 (aL))]
noncomputable def zu:List (Addr×Nat):=[(164,7556217248068430591470271031620),(171,8606222956556806468)]
noncomputable def Qa:aR:=⟨55,1,260,[0,2,3,4,12,13],[3,12],152,474,⟨81,0,85,24⟩,180,516,⟨86,0,95,48⟩,C5,zu⟩
noncomputable def K7:OP (List (Addr×Obj)):=fun p P=>C5 p P++K6 p P
noncomputable def Iw (P:Params):List DictEntry:=[ah P 495655676228 563 (vR 211),ah P 6601399073604148259456893274436 567 (vS 270211885617516653982000 566),ah P 25786715131266204138252091726 569 (vS 1575763309852457134593385028862267338501362197690114523504022167613991250196833837520429685522871747825447405626685894226964865633 568),ah P 100729355981508609916290376 571 (vS 136107713667768957684761770045455085872 570),ah P 19216509410956101 584 (vR 216)]
noncomputable def DK (P:Params):List DictEntry:=D5 P++Iw P
noncomputable def DS:List Value:=DY++[vI 96 0,vI 0 0,vR 185]
noncomputable def HN:OP Obj:=fun p P=>bh 495655676228 [an] [vR 211,an] 210 [] none 516 524 (aL)
noncomputable def MN:OP Obj:=fun p P=>dS cM [ah P 450384564904988244795231 523 (vS 2340667752615168353039170549999979 358),ah P 495203858965168609907421719000670047 527 (vI 96 526),ah P 6872339552563453791 536 (vR 194),ah P 7632240 546 (vR 201),ah P 32495402090329454 553 (vR 208),ah P 139387583093331537335747288891456728448373227741023 556 (vR 209),ah P 6872339526709436255 558 (vR 212),ah P 115298466557181117500710751 560 (vR 213),ah P 26845003462762335 561 vN] 4
noncomputable def Ij:OP Obj:=fun p P=>aN (ck p 56 0) 1934391615505518231416441023850820 (vR 187) (vS 2340667752615168353039170549999979 358) (vR 193)
noncomputable def MX:OP Obj:=fun p P=>aN (ck p 56 1) 2148284627323327703364 vN (vS 2340667752615168353039170549999979 358) (vR 200)
noncomputable def JJ:OP Obj:=fun p P=>aN (ck p 56 2) 9146642546578885415721463015748 vN (vS 2340667752615168353039170549999979 358) (vR 207)
noncomputable def C1:OP (List (Addr×Obj)):=fun p P=>[(3,aX (vS 2262426316083309992419162909819598629237582187 564) (DK P) P 68),
 (12,aG DS),
 (187,cO bG [vS 0 528]),
 (194,Ij p P),
 (201,MX p P),
 (208,JJ p P),
 (210,MN p P),
 (211,HN p P),
 (216,dS cM [ah P 92 572 (vS 23644 573),ah P 10 574 (vS 28252 575),ah P 9 576 (vS 29788 577),ah P 13 578 (vS 29276 579)] 4)]
noncomputable def zv:List (Addr×Nat):=[(193,1934391615505518231416441023850820),(200,2148284627323327703364),(207,9146642546578885415721463015748)]
noncomputable def ID:aR:=⟨56,6,397,[0,2,3,4,12,13],[3,12],180,516,⟨86,0,95,48⟩,217,585,⟨111,0,111,7⟩,C1,zv⟩
noncomputable def K8:OP (List (Addr×Obj)):=fun p P=>C1 p P++K7 p P
noncomputable def Mt (P:Params):List DictEntry:=[ah P 94642280922245506249477965 586 (vI 200 585),ah P 6000006680268460865 587 (vR 217),ah P 1537007983168621662029 596 (vR 226),ah P 9063409297678607870725217022821 604 (vR 233),ah P 435745158513 613 (vR 240),ah P 2320232780205723614626440068166505 620 (vR 247),ah P 122641653982811049716446323 628 (vR 254),ah P 31702112522188972522761121645 638 (vR 261),ah P 521404094973878215932005 645 (vR 268)]
noncomputable def DJ (P:Params):List DictEntry:=DK P++Mt P
noncomputable def Dd:List Value:=DS++[vI 115 0,vI 0 0,vR 232,vI 122 0,vI 0 0,vR 239,vI 131 0,vI 0 0,vR 246,vI 133 0,vI 0 0,vR 253,vI 140 0,vI 0 0,vR 260,vI 146 0,vI 0 0,vR 267]
noncomputable def Eu:OP (List (Addr×Obj)):=fun p P=>[(3,aX (vS 2262426316083309992419162909819598629237582187 564) (DJ P) P 77),
 (12,aG Dd),
 (217,cO bG [vI 29 210,vI 30 212,vI 31 214]),
 (218,cO bG [vI 4194304 272,vS 2334397744617317732 588]),
 (219,cO bG [vI 65536 260,vS 9116503695848816 589]),
 (220,cO bG [vI 32768 258,vS 152967712436582127465072 590]),
 (221,cO bG [vI 16384 256,vS 2334399943808742000 591]),
 (222,cO bG [vI 262144 264,vS 9116503830000755 592]),
 (223,cO bG [vI 524288 266,vS 598682464434007532129 593]),
 (224,cO bG [vI 1048576 268,vS 597601890794473879151 594]),
 (225,cO bG [vI 131072 262,vS 599045299959484212594 595]),
 (226,cO bG [vR 218,vR 219,vR 220,vR 221,vR 222,vR 223,vR 224,vR 225]),
 (233,aN (bM p 65) 9063409297678607870725217022821 vN (vS 2262426316083309992419162909819598629237582187 564) (vR 232)),
 (240,aN (bM p 66) 435745158513 vN (vS 2262426316083309992419162909819598629237582187 564) (vR 239)),
 (247,aN (bM p 67) 2320232780205723614626440068166505 vN (vS 2262426316083309992419162909819598629237582187 564) (vR 246)),
 (254,aN (bM p 68) 122641653982811049716446323 vN (vS 2262426316083309992419162909819598629237582187 564) (vR 253)),
 (261,aN (bM p 69) 31702112522188972522761121645 vN (vS 2262426316083309992419162909819598629237582187 564) (vR 260)),
 (268,aN (bM p 70) 521404094973878215932005 vN (vS 2262426316083309992419162909819598629237582187 564) (vR 267))]
noncomputable def wM:List (Addr×Nat):=[(232,9063409297678607870725217022821),(239,435745158513),(246,2320232780205723614626440068166505),(253,122641653982811049716446323),(260,31702112522188972522761121645),(267,521404094973878215932005)]
noncomputable def Qn:aR:=⟨62,9,257,[3,4,12,13],[3,12],217,585,⟨111,0,111,7⟩,269,646,⟨146,0,159,16⟩,Eu,wM⟩
noncomputable def K9:OP (List (Addr×Obj)):=fun p P=>Eu p P++K8 p P
noncomputable def EN (P:Params):List DictEntry:=[ah P 435677128787 674 (vR 285)]
noncomputable def Ax (P:Params):List DictEntry:=DJ P++EN P
noncomputable def wA:List Value:=Dd++[vI 160 0,vI 0 0,vR 274]
noncomputable def HO:OP Obj:=fun p P=>dS cM [ah P 450384564904988244795231 653 (vS 2262426316083309992419162909819598629237582187 564),ah P 495203858965168609907421719000670047 657 (vI 160 656),ah P 1954047348 666 (vR 282),ah P 139387583093331537335747288891456728448373227741023 667 (vR 283),ah P 6872339526709436255 669 (vR 286),ah P 115298466557181117500710751 671 (vR 287),ah P 26845003462762335 672 vN] 4
noncomputable def KB:OP Obj:=fun p P=>aN (ck p 71 0) 550015431820832332146771 vN (vS 2262426316083309992419162909819598629237582187 564) (vR 281)
noncomputable def CV:OP (List (Addr×Obj)):=fun p P=>[(3,aX (vS 2262426316083309992419162909819598629237582187 564) (Ax P) P 78),
 (12,aG wA),
 (282,KB p P),
 (284,HO p P),
 (285,bh 435677128787 [an] [vR 285,an] 284 [] none 646 654 (aL))]
noncomputable def wB:List (Addr×Nat):=[(281,550015431820832332146771)]
noncomputable def Qc:aR:=⟨71,1,223,[0,2,3,4,12,13],[3,12],269,646,⟨146,0,159,16⟩,290,675,⟨160,0,163,35⟩,CV,wB⟩
noncomputable def Ov:OP (List (Addr×Obj)):=fun p P=>CV p P++K9 p P
noncomputable def GQ (P:Params):List DictEntry:=[ah P 126879447608897 725 (vR 327)]
noncomputable def yd (P:Params):List DictEntry:=Ax P++GQ P
noncomputable def yx:List Value:=wA++[vI 164 0,vI 0 0,vR 295]
noncomputable def Im:OP Obj:=fun p P=>bh 126879447608897 [an] [vR 327,an] 326 [] none 675 683 (aL)
noncomputable def JW:OP Obj:=fun p P=>dS cM [ah P 450384564904988244795231 682 (vS 2262426316083309992419162909819598629237582187 564),ah P 495203858965168609907421719000670047 686 (vI 164 685),ah P 495925030507 693 (vR 303),ah P 111516484658547 701 (vR 310),ah P 495806673527 709 (vR 317),ah P 126905032733282 717 (vR 324),ah P 139387583093331537335747288891456728448373227741023 718 (vR 325),ah P 6872339526709436255 720 (vR 328),ah P 115298466557181117500710751 722 (vR 329),ah P 26845003462762335 723 vN] 4
noncomputable def Ix:OP Obj:=fun p P=>aN (ck p 72 0) 35735164521533507704243842625 vN (vS 2262426316083309992419162909819598629237582187 564) (vR 302)
noncomputable def KJ:OP Obj:=fun p P=>aN (ck p 72 1) 8035609580062411523720728768065 vN (vS 2262426316083309992419162909819598629237582187 564) (vR 309)
noncomputable def Kj:OP Obj:=fun p P=>aN (ck p 72 2) 35726636002317112548281249345 vN (vS 2262426316083309992419162909819598629237582187 564) (vR 316)
noncomputable def HQ:OP Obj:=fun p P=>aN (ck p 72 3) 9144471330064803677822201065025 vN (vS 2262426316083309992419162909819598629237582187 564) (vR 323)
noncomputable def wG:OP (List (Addr×Obj)):=fun p P=>[(3,aX (vS 2262426316083309992419162909819598629237582187 564) (yd P) P 79),
 (12,aG yx),
 (303,Ix p P),
 (310,KJ p P),
 (317,Kj p P),
 (324,HQ p P),
 (326,JW p P),
 (327,Im p P)]
noncomputable def s8:List (Addr×Nat):=[(302,35735164521533507704243842625),(309,8035609580062411523720728768065),(316,35726636002317112548281249345),(323,9144471330064803677822201065025)]
noncomputable def HZ:aR:=⟨72,1,317,[0,2,3,4,12,13],[3,12],290,675,⟨160,0,163,35⟩,332,726,⟨164,0,176,16⟩,wG,s8⟩
noncomputable def Ps:OP (List (Addr×Obj)):=fun p P=>wG p P++Ov p P
noncomputable def F5 (P:Params):List DictEntry:=[ah P 32199698088030800 774 (vR 362),ah P 2148064309382244429682 781 (vR 373),ah P 110386621805154 790 (vR 380),ah P 2148497780760815038322 801 (vR 387)]
noncomputable def xC (P:Params):List DictEntry:=yd P++F5 P
noncomputable def xm:List Value:=yx++[vI 177 0,vI 0 0,vR 337,vI 198 0,vI 0 0,vR 372,vI 200 0,vI 0 0,vR 379,vI 204 0,vI 0 0,vR 386]
noncomputable def IV:OP Obj:=fun p P=>bh 32199698088030800 [an] [vR 362,an] 361 [] none 726 734 (aL)
noncomputable def Jy:OP Obj:=fun p P=>dS cM [ah P 450384564904988244795231 733 (vS 2262426316083309992419162909819598629237582187 564),ah P 495203858965168609907421719000670047 737 (vI 177 736),ah P 6872339552563453791 744 (vR 345),ah P 1954047348 754 (vR 352),ah P 461229747298 762 (vR 359),ah P 139387583093331537335747288891456728448373227741023 767 (vR 360),ah P 6872339526709436255 769 (vR 363),ah P 115298466557181117500710751 771 (vR 364),ah P 26845003462762335 772 vN] 4
noncomputable def IC:OP Obj:=fun p P=>aN (ck p 73 0) 126772288913769642814107595346778092112 vN (vS 2262426316083309992419162909819598629237582187 564) (vR 344)
noncomputable def MM:OP Obj:=fun p P=>aN (ck p 73 1) 36045811339813714881346630224 vN (vS 2262426316083309992419162909819598629237582187 564) (vR 351)
noncomputable def Kt:OP Obj:=fun p P=>aN (ck p 73 2) 8508187107591282426320400249424 vN (vS 2262426316083309992419162909819598629237582187 564) (vR 358)
noncomputable def zd:OP (List (Addr×Obj)):=fun p P=>[(3,aX (vS 2262426316083309992419162909819598629237582187 564) (xC P) P 83),
 (12,aG xm),
 (345,IC p P),
 (352,MM p P),
 (359,Kt p P),
 (361,Jy p P),
 (362,IV p P),
 (373,aN (bM p 74) 2148064309382244429682 vN (vS 2262426316083309992419162909819598629237582187 564) (vR 372)),
 (380,aN (bM p 75) 110386621805154 vN (vS 2262426316083309992419162909819598629237582187 564) (vR 379)),
 (387,aN (bM p 76) 2148497780760815038322 vN (vS 2262426316083309992419162909819598629237582187 564) (vR 386))]
noncomputable def tY:List (Addr×Nat):=[(344,126772288913769642814107595346778092112),(351,36045811339813714881346630224),(358,8508187107591282426320400249424),(372,2148064309382244429682),(379,110386621805154),(386,2148497780760815038322)]
noncomputable def Mn:aR:=⟨73,4,384,[0,2,3,4,12,13],[3,12],332,726,⟨164,0,176,16⟩,388,802,⟨204,0,212,23⟩,zd,tY⟩
noncomputable def Os:OP (List (Addr×Obj)):=fun p P=>zd p P++Ps p P
noncomputable def Hn (P:Params):List DictEntry:=[ah P 474107725451128571654002 812 (vR 394),ah P 110386773192289 820 (vR 401),ah P 28832903255908724 829 (vR 408),ah P 474107007393117197266537 840 (vR 415),ah P 2148497780760696284516 851 (vR 422),ah P 8392569456096862582 862 (vR 429)]
noncomputable def Aj (P:Params):List DictEntry:=xC P++Hn P
noncomputable def vW:List Value:=xm++[vI 213 0,vI 0 0,vR 393,vI 218 0,vI 0 0,vR 400,vI 222 0,vI 0 0,vR 407,vI 227 0,vI 0 0,vR 414,vI 232 0,vI 0 0,vR 421,vI 241 0,vI 0 0,vR 428]
noncomputable def wT:OP (List (Addr×Obj)):=fun p P=>[(3,aX (vS 152058775009438600600734497921932618091 830) (Aj P) P 89),
 (12,aG vW),
 (394,aN (bM p 77) 474107725451128571654002 vN (vS 2262426316083309992419162909819598629237582187 564) (vR 393)),
 (401,aN (bM p 78) 110386773192289 vN (vS 2262426316083309992419162909819598629237582187 564) (vR 400)),
 (408,aN (bM p 79) 28832903255908724 vN (vS 2262426316083309992419162909819598629237582187 564) (vR 407)),
 (415,aN (bM p 81) 474107007393117197266537 vN (vS 152058775009438600600734497921932618091 830) (vR 414)),
 (422,aN (bM p 82) 2148497780760696284516 vN (vS 152058775009438600600734497921932618091 830) (vR 421)),
 (429,aN (bM p 83) 8392569456096862582 vN (vS 152058775009438600600734497921932618091 830) (vR 428))]
noncomputable def tS:List (Addr×Nat):=[(393,474107725451128571654002),(400,110386773192289),(407,28832903255908724),(414,474107007393117197266537),(421,2148497780760696284516),(428,8392569456096862582)]
noncomputable def Lf:aR:=⟨77,7,201,[3,4,12,13],[3,12],388,802,⟨204,0,212,23⟩,430,863,⟨241,0,245,61⟩,wT,tS⟩
noncomputable def Py:OP (List (Addr×Obj)):=fun p P=>wT p P++Os p P
noncomputable def EZ (P:Params):List DictEntry:=[ah P 1871219019757046753606 889 (vR 446)]
noncomputable def zF (P:Params):List DictEntry:=Aj P++EZ P
noncomputable def yj:List Value:=vW++[vI 246 0,vI 0 0,vR 435]
noncomputable def Ko:OP Obj:=fun p P=>bh 1871219019757046753606 [vR 285] [vR 446,vR 285,an] 445 [] (some (vR 430)) 863 871 (aL)
noncomputable def IL:OP Obj:=fun p P=>b9 P 2 870 152058775009438600600734497921932618091 830 874 246 873 (ah P 1954047348 885 (vR 443)::dL P 886 444 887 vN)
noncomputable def LI:OP Obj:=fun p P=>aN (ck p 84 0) 2362298291965792598069792618604870 vN (vS 152058775009438600600734497921932618091 830) (vR 442)
noncomputable def AI:OP (List (Addr×Obj)):=fun p P=>[(3,aX (vS 152058775009438600600734497921932618091 830) (zF P) P 90),
 (12,aG yj),
 (285,bh 435677128787 [an] [vR 285,an] 284 [vR 446] none 646 654 (aL)),
 (443,LI p P),
 (445,IL p P),
 (446,Ko p P)]
noncomputable def ub:List (Addr×Nat):=[(442,2362298291965792598069792618604870)]
noncomputable def LQ:aR:=⟨84,1,248,[0,2,3,4,12,13,284,285],[3,12,285],430,863,⟨241,0,245,61⟩,449,890,⟨246,0,253,27⟩,AI,ub⟩
noncomputable def Nr:OP (List (Addr×Obj)):=fun p P=>AI p P++Py p P
noncomputable def G7 (P:Params):List DictEntry:=[ah P 7309449295926813014 914 (vR 465)]
noncomputable def zL (P:Params):List DictEntry:=zF P++G7 P
noncomputable def AS:List Value:=yj++[vI 254 0,vI 0 0,vR 454]
noncomputable def Jw:OP Obj:=fun p P=>bh 7309449295926813014 [vR 285] [vR 465,vR 285,an] 464 [] (some (vR 449)) 890 898 (aL)
noncomputable def Ku:OP Obj:=fun p P=>b9 P 2 897 152058775009438600600734497921932618091 830 901 254 900 (ah P 1954047348 910 (vR 462)::dL P 911 463 912 vN)
noncomputable def JY:OP Obj:=fun p P=>aN (ck p 85 0) 9227727702991377336210128265558 vN (vS 152058775009438600600734497921932618091 830) (vR 461)
noncomputable def w7:OP (List (Addr×Obj)):=fun p P=>[(3,aX (vS 152058775009438600600734497921932618091 830) (zL P) P 91),
 (12,aG AS),
 (285,bh 435677128787 [an] [vR 285,an] 284 [vR 446,vR 465] none 646 654 (aL)),
 (462,JY p P),
 (464,Ku p P),
 (465,Jw p P)]
noncomputable def s5:List (Addr×Nat):=[(461,9227727702991377336210128265558)]
noncomputable def MF:aR:=⟨85,1,246,[0,2,3,4,12,13,284,285],[3,12,285],449,890,⟨246,0,253,27⟩,468,915,⟨254,0,257,46⟩,w7,s5⟩
noncomputable def Pk:OP (List (Addr×Obj)):=fun p P=>w7 p P++Nr p P
noncomputable def F7 (P:Params):List DictEntry:=[ah P 122632209678814334591987017 939 (vR 484)]
noncomputable def wI (P:Params):List DictEntry:=zL P++F7 P
noncomputable def zB:List Value:=AS++[vI 258 0,vI 0 0,vR 473]
noncomputable def IY:OP Obj:=fun p P=>bh 122632209678814334591987017 [vR 285] [vR 484,vR 285,an] 483 [] (some (vR 468)) 915 923 (aL)
noncomputable def Lu:OP Obj:=fun p P=>b9 P 2 922 152058775009438600600734497921932618091 830 926 258 925 (ah P 1954047348 935 (vR 481)::dL P 936 482 937 vN)
noncomputable def Kx:OP Obj:=fun p P=>aN (ck p 86 0) 154815580862270183707101945571436424521 vN (vS 152058775009438600600734497921932618091 830) (vR 480)
noncomputable def xd:OP (List (Addr×Obj)):=fun p P=>[(3,aX (vS 152058775009438600600734497921932618091 830) (wI P) P 92),
 (12,aG zB),
 (285,bh 435677128787 [an] [vR 285,an] 284 [vR 446,vR 465,vR 484] none 646 654 (aL)),
 (481,Kx p P),
 (483,Lu p P),
 (484,IY p P)]
noncomputable def sb:List (Addr×Nat):=[(480,154815580862270183707101945571436424521)]
noncomputable def IN:aR:=⟨86,1,246,[0,2,3,4,12,13,284,285],[3,12,285],468,915,⟨254,0,257,46⟩,487,940,⟨258,0,265,95⟩,xd,sb⟩
noncomputable def OR:OP (List (Addr×Obj)):=fun p P=>xd p P++Pk p P
noncomputable def GF (P:Params):List DictEntry:=[ah P 31393845677772241972640116041 967 (vR 503)]
noncomputable def yS (P:Params):List DictEntry:=wI P++GF P
noncomputable def yc:List Value:=zB++[vI 266 0,vI 0 0,vR 492]
noncomputable def L3:OP Obj:=fun p P=>bh 31393845677772241972640116041 [vR 285] [vR 503,vR 285,an] 502 [] (some (vR 487)) 940 948 (aL)
noncomputable def I1:OP Obj:=fun p P=>b9 P 2 947 152058775009438600600734497921932618091 830 951 266 950 (ah P 1954047348 963 (vR 500)::dL P 964 501 965 vN)
noncomputable def Ju:OP Obj:=fun p P=>aN (ck p 87 0) 39632788700741167029018093838604816117065 vN (vS 152058775009438600600734497921932618091 830) (vR 499)
noncomputable def xO:OP (List (Addr×Obj)):=fun p P=>[(3,aX (vS 152058775009438600600734497921932618091 830) (yS P) P 93),
 (12,aG yc),
 (285,bh 435677128787 [an] [vR 285,an] 284 [vR 446,vR 465,vR 484,vR 503] none 646 654 (aL)),
 (500,Ju p P),
 (502,I1 p P),
 (503,L3 p P)]
noncomputable def t6:List (Addr×Nat):=[(499,39632788700741167029018093838604816117065)]
noncomputable def LE:aR:=⟨87,1,249,[0,2,3,4,12,13,284,285],[3,12,285],487,940,⟨258,0,265,95⟩,506,968,⟨266,0,273,44⟩,xO,t6⟩
noncomputable def PG:OP (List (Addr×Obj)):=fun p P=>xO p P++OR p P
noncomputable def E7 (P:Params):List DictEntry:=[ah P 122632209678814334591989829 992 (vR 522)]
noncomputable def Ad (P:Params):List DictEntry:=yS P++E7 P
noncomputable def AG:List Value:=yc++[vI 274 0,vI 0 0,vR 511]
noncomputable def KU:OP Obj:=fun p P=>bh 122632209678814334591989829 [vR 285] [vR 522,vR 285,an] 521 [] (some (vR 506)) 968 976 (aL)
noncomputable def L9:OP Obj:=fun p P=>b9 P 2 975 152058775009438600600734497921932618091 830 979 274 978 (ah P 1954047348 988 (vR 519)::dL P 989 520 990 vN)
noncomputable def Jb:OP Obj:=fun p P=>aN (ck p 88 0) 154815580862270183707101945571436427333 vN (vS 152058775009438600600734497921932618091 830) (vR 518)
noncomputable def zt:OP (List (Addr×Obj)):=fun p P=>[(3,aX (vS 152058775009438600600734497921932618091 830) (Ad P) P 94),
 (12,aG AG),
 (285,bh 435677128787 [an] [vR 285,an] 284 [vR 446,vR 465,vR 484,vR 503,vR 522] none 646 654 (aL)),
 (519,Jb p P),
 (521,L9 p P),
 (522,KU p P)]
noncomputable def tM:List (Addr×Nat):=[(518,154815580862270183707101945571436427333)]
noncomputable def JS:aR:=⟨88,1,246,[0,2,3,4,12,13,284,285],[3,12,285],506,968,⟨266,0,273,44⟩,525,993,⟨274,0,277,48⟩,zt,tM⟩
noncomputable def O5:OP (List (Addr×Obj)):=fun p P=>zt p P++PG p P
noncomputable def Hy (P:Params):List DictEntry:=[ah P 2057427070338480929369399003213385 1018 (vR 541)]
noncomputable def yQ (P:Params):List DictEntry:=Ad P++Hy P
noncomputable def xh:List Value:=AG++[vI 278 0,vI 0 0,vR 530]
noncomputable def IH:OP Obj:=fun p P=>bh 2057427070338480929369399003213385 [vR 285] [vR 541,vR 285,an] 540 [] (some (vR 525)) 993 1001 (aL)
noncomputable def H8:OP Obj:=fun p P=>b9 P 2 1000 152058775009438600600734497921932618091 830 1004 278 1003 (ah P 1954047348 1014 (vR 538)::dL P 1015 539 1016 vN)
noncomputable def Ll:OP Obj:=fun p P=>aN (ck p 89 0) 2597374440291773122413729797086255685406322249 vN (vS 152058775009438600600734497921932618091 830) (vR 537)
noncomputable def zI:OP (List (Addr×Obj)):=fun p P=>[(3,aX (vS 152058775009438600600734497921932618091 830) (yQ P) P 95),
 (12,aG xh),
 (285,bh 435677128787 [an] [vR 285,an] 284 [vR 446,vR 465,vR 484,vR 503,vR 522,vR 541] none 646 654 (aL)),
 (538,Ll p P),
 (540,H8 p P),
 (541,IH p P)]
noncomputable def tU:List (Addr×Nat):=[(537,2597374440291773122413729797086255685406322249)]
noncomputable def JL:aR:=⟨89,1,247,[0,2,3,4,12,13,284,285],[3,12,285],525,993,⟨274,0,277,48⟩,544,1019,⟨278,0,284,62⟩,zI,tU⟩
noncomputable def NZ:OP (List (Addr×Obj)):=fun p P=>zI p P++O5 p P
noncomputable def FB (P:Params):List DictEntry:=[ah P 479032069057863913925697 1044 (vR 560)]
noncomputable def zm (P:Params):List DictEntry:=yQ P++FB P
noncomputable def zP:List Value:=xh++[vI 285 0,vI 0 0,vR 549]
noncomputable def Js:OP Obj:=fun p P=>bh 479032069057863913925697 [vR 285] [vR 560,vR 285,an] 559 [] (some (vR 544)) 1019 1027 (aL)
noncomputable def MT:OP Obj:=fun p P=>b9 P 2 1026 152058775009438600600734497921932618091 830 1030 285 1029 (ah P 1954047348 1040 (vR 557)::dL P 1041 558 1042 vN)
noncomputable def LM:OP Obj:=fun p P=>aN (ck p 90 0) 604748362743242905105866970307849281 vN (vS 152058775009438600600734497921932618091 830) (vR 556)
noncomputable def Ap:OP (List (Addr×Obj)):=fun p P=>[(3,aX (vS 152058775009438600600734497921932618091 830) (zm P) P 96),
 (12,aG zP),
 (285,bh 435677128787 [an] [vR 285,an] 284 [vR 446,vR 465,vR 484,vR 503,vR 522,vR 541,vR 560] none 646 654 (aL)),
 (557,LM p P),
 (559,MT p P),
 (560,Js p P)]
noncomputable def t5:List (Addr×Nat):=[(556,604748362743242905105866970307849281)]
noncomputable def IZ:aR:=⟨90,1,247,[0,2,3,4,12,13,284,285],[3,12,285],544,1019,⟨278,0,284,62⟩,563,1045,⟨285,0,289,57⟩,Ap,t5⟩
noncomputable def Ow:OP (List (Addr×Obj)):=fun p P=>Ap p P++NZ p P
noncomputable def FZ (P:Params):List DictEntry:=[ah P 1871219019757181562437 1070 (vR 579)]
noncomputable def zg (P:Params):List DictEntry:=zm P++FZ P
noncomputable def zx:List Value:=zP++[vI 290 0,vI 0 0,vR 568]
noncomputable def MS:OP Obj:=fun p P=>bh 1871219019757181562437 [vR 285] [vR 579,vR 285,an] 578 [] (some (vR 563)) 1045 1053 (aL)
noncomputable def Jh:OP Obj:=fun p P=>b9 P 2 1052 152058775009438600600734497921932618091 830 1056 290 1055 (ah P 1954047348 1066 (vR 576)::dL P 1067 577 1068 vN)
noncomputable def IR:OP Obj:=fun p P=>aN (ck p 91 0) 2362298291965792598069792753413701 vN (vS 152058775009438600600734497921932618091 830) (vR 575)
noncomputable def yi:OP (List (Addr×Obj)):=fun p P=>[(3,aX (vS 152058775009438600600734497921932618091 830) (zg P) P 97),
 (12,aG zx),
 (285,bh 435677128787 [an] [vR 285,an] 284 [vR 446,vR 465,vR 484,vR 503,vR 522,vR 541,vR 560,vR 579] none 646 654 (aL)),
 (576,IR p P),
 (578,Jh p P),
 (579,MS p P)]
noncomputable def sC:List (Addr×Nat):=[(575,2362298291965792598069792753413701)]
noncomputable def Kf:aR:=⟨91,1,247,[0,2,3,4,12,13,284,285],[3,12,285],563,1045,⟨285,0,289,57⟩,582,1071,⟨290,0,296,73⟩,yi,sC⟩
noncomputable def OA:OP (List (Addr×Obj)):=fun p P=>yi p P++Ow p P
noncomputable def Fz (P:Params):List DictEntry:=[ah P 31393845677774484890981854789 1096 (vR 598)]
noncomputable def Am (P:Params):List DictEntry:=zg P++Fz P
noncomputable def yR:List Value:=zx++[vI 297 0,vI 0 0,vR 587]
noncomputable def JI:OP Obj:=fun p P=>bh 31393845677774484890981854789 [vR 285] [vR 598,vR 285,an] 597 [] (some (vR 582)) 1071 1079 (aL)
noncomputable def L0:OP Obj:=fun p P=>b9 P 2 1078 152058775009438600600734497921932618091 830 1082 297 1081 (ah P 1954047348 1092 (vR 595)::dL P 1093 596 1094 vN)
noncomputable def Ie:OP Obj:=fun p P=>aN (ck p 92 0) 39632788700741167029018096081523157855813 vN (vS 152058775009438600600734497921932618091 830) (vR 594)
noncomputable def zR:OP (List (Addr×Obj)):=fun p P=>[(3,aX (vS 152058775009438600600734497921932618091 830) (Am P) P 98),
 (12,aG yR),
 (285,bh 435677128787 [an] [vR 285,an] 284 [vR 446,vR 465,vR 484,vR 503,vR 522,vR 541,vR 560,vR 579,vR 598] none 646 654 (aL)),
 (595,Ie p P),
 (597,L0 p P),
 (598,JI p P)]
noncomputable def sG:List (Addr×Nat):=[(594,39632788700741167029018096081523157855813)]
noncomputable def MU:aR:=⟨92,1,247,[0,2,3,4,12,13,284,285],[3,12,285],582,1071,⟨290,0,296,73⟩,601,1097,⟨297,0,301,54⟩,zR,sG⟩
noncomputable def Nu:OP (List (Addr×Obj)):=fun p P=>zR p P++OA p P
noncomputable def GM (P:Params):List DictEntry:=[ah P 7309449295926027602 1121 (vR 617)]
noncomputable def zw (P:Params):List DictEntry:=Am P++GM P
noncomputable def xD:List Value:=yR++[vI 302 0,vI 0 0,vR 606]
noncomputable def Mm:OP Obj:=fun p P=>bh 7309449295926027602 [vR 285] [vR 617,vR 285,an] 616 [] (some (vR 601)) 1097 1105 (aL)
noncomputable def LL:OP Obj:=fun p P=>b9 P 2 1104 152058775009438600600734497921932618091 830 1108 302 1107 (ah P 1954047348 1117 (vR 614)::dL P 1118 615 1119 vN)
noncomputable def Mq:OP Obj:=fun p P=>aN (ck p 93 0) 9227727702991377336210127480146 vN (vS 152058775009438600600734497921932618091 830) (vR 613)
noncomputable def yh:OP (List (Addr×Obj)):=fun p P=>[(3,aX (vS 152058775009438600600734497921932618091 830) (zw P) P 99),
 (12,aG xD),
 (285,bh 435677128787 [an] [vR 285,an] 284 [vR 446,vR 465,vR 484,vR 503,vR 522,vR 541,vR 560,vR 579,vR 598,vR 617] none 646 654 (aL)),
 (614,Mq p P),
 (616,LL p P),
 (617,Mm p P)]
noncomputable def sB:List (Addr×Nat):=[(613,9227727702991377336210127480146)]
noncomputable def MV:aR:=⟨93,1,246,[0,2,3,4,12,13,284,285],[3,12,285],601,1097,⟨297,0,301,54⟩,620,1122,⟨302,0,307,67⟩,yh,sB⟩
noncomputable def O1:OP (List (Addr×Obj)):=fun p P=>yh p P++Nu p P
noncomputable def Fq (P:Params):List DictEntry:=[ah P 122632209678806565045489748 1147 (vR 636),ah P 293370945364 1151 (vI 0 1150),ah P 76198110453588 1153 (vI 1 1152),ah P 75120309133140 1155 (vI 2 1154),ah P 332143681364 1157 (vI 3 1156),ah P 353602068308 1159 (vI 4 1158),ah P 86068079845204 1161 (vI 5 1160),ah P 83776243911629204220043092 1163 (vI 6 1162)]
noncomputable def yb (P:Params):List DictEntry:=zw P++Fq P
noncomputable def xP:List Value:=xD++[vI 308 0,vI 0 0,vR 625]
noncomputable def JK:OP Obj:=fun p P=>bh 122632209678806565045489748 [vR 285] [vR 636,vR 285,an] 635 [] (some (vR 620)) 1122 1130 (aL)
noncomputable def Ks:OP Obj:=fun p P=>b9 P 2 1129 152058775009438600600734497921932618091 830 1133 308 1132 (ah P 1954047348 1143 (vR 633)::dL P 1144 634 1145 vN)
noncomputable def MD:OP Obj:=fun p P=>aN (ck p 94 0) 154815580862270183707101937801889927252 vN (vS 152058775009438600600734497921932618091 830) (vR 632)
noncomputable def xx:OP (List (Addr×Obj)):=fun p P=>[(3,aX (vS 152058653312486978891946422859941701995 1148) (yb P) P 107),
 (12,aG xP),
 (285,bh 435677128787 [an] [vR 285,an] 284 [vR 446,vR 465,vR 484,vR 503,vR 522,vR 541,vR 560,vR 579,vR 598,vR 617,vR 636] none 646 654 (aL)),
 (633,MD p P),
 (635,Ks p P),
 (636,JK p P)]
noncomputable def se:List (Addr×Nat):=[(632,154815580862270183707101937801889927252)]
noncomputable def I8:aR:=⟨94,9,319,[0,2,3,4,12,13,284,285],[3,12,285],620,1122,⟨302,0,307,67⟩,639,1164,⟨323,0,323,11⟩,xx,se⟩
noncomputable def OI:OP (List (Addr×Obj)):=fun p P=>xx p P++O1 p P
noncomputable def Fe (P:Params):List DictEntry:=[ah P 474147942228 1202 (vR 655),ah P 5784105456386982221 1206 (vI 40 1205),ah P 398012086847384418009421 1208 (vI 160 1207),ah P 75064456859466 1212 (vR 660),ah P 1278615092650333847888 1214 (vI 1 1213),ah P 1518422467640906891600 1216 (vI 2 1215),ah P 1555098672499468157264 1218 (vI 3 1217),ah P 355419132083166361305424 1220 (vI 4 1219),ah P 1241576348021769257296 1222 (vI 5 1221),ah P 393492203046085856477520 1224 (vI 6 1223),ah P 25780651574442722100746797392 1226 (vI 7 1225),ah P 25786714798720408752978280784 1228 (vI 9 1227),ah P 24239290082158357293019840848 1230 (vI 10 1229),ah P 1537155748778621163343 1231 (vR 661)]
noncomputable def zZ (P:Params):List DictEntry:=yb P++Fe P
noncomputable def ws:List Value:=xP++[vI 324 0,vI 0 0,vR 644]
noncomputable def MQ:OP Obj:=fun p P=>bh 474147942228 [an] [vR 655,an] 654 [] none 1164 1172 (aL)
noncomputable def IF:OP Obj:=fun p P=>dS cM [ah P 450384564904988244795231 1171 (vS 152058653312486978891946422859941701995 1148),ah P 495203858965168609907421719000670047 1175 (vI 324 1174),ah P 6872339552563453791 1188 (vR 652),ah P 139387583093331537335747288891456728448373227741023 1195 (vR 653),ah P 6872339526709436255 1197 (vR 656),ah P 115298466557181117500710751 1199 (vR 657),ah P 26845003462762335 1200 vN] 4
noncomputable def Kc:OP Obj:=fun p P=>aN (ck p 103 0) 1934391615505518231416419516116820 vN (vS 152058653312486978891946422859941701995 1148) (vR 651)
noncomputable def wJ:OP (List (Addr×Obj)):=fun p P=>[(3,aX (vS 2057589853544952853755060856711531 1203) (zZ P) P 121),
 (12,aG ws),
 (652,Kc p P),
 (654,IF p P),
 (655,MQ p P),
 (660,cO bG [vS 15933 1209,vS 15677 1210,vS 4013373 1211]),
 (661,cO bG [vI 3 1217,vI 4 1219,vI 5 1221,vI 6 1223])]
noncomputable def tI:List (Addr×Nat):=[(651,1934391615505518231416419516116820)]
noncomputable def KG:aR:=⟨103,15,372,[0,2,3,4,12,13],[3,12],639,1164,⟨323,0,323,11⟩,662,1232,⟨346,0,346,9⟩,wJ,tI⟩
noncomputable def Pl:OP (List (Addr×Obj)):=fun p P=>wJ p P++OI p P
noncomputable def FI (P:Params):List DictEntry:=[ah P 1953653072 1259 (vR 678)]
noncomputable def w0 (P:Params):List DictEntry:=zZ P++FI P
noncomputable def wW:List Value:=ws++[vI 347 0,vI 0 0,vR 667]
noncomputable def IW:OP Obj:=fun p P=>dS cM [ah P 450384564904988244795231 1239 (vS 2057589853544952853755060856711531 1203),ah P 495203858965168609907421719000670047 1243 (vI 347 1242),ah P 435728572784 1251 (vR 675),ah P 139387583093331537335747288891456728448373227741023 1252 (vR 676),ah P 6872339526709436255 1254 (vR 679),ah P 115298466557181117500710751 1256 (vR 680),ah P 26845003462762335 1257 vN] 4
noncomputable def Lp:OP Obj:=fun p P=>aN (ck p 118 0) 479088632330448654197072 vN (vS 2057589853544952853755060856711531 1203) (vR 674)
noncomputable def Ac:OP (List (Addr×Obj)):=fun p P=>[(3,aX (vS 2057589853544952853755060856711531 1203) (w0 P) P 122),
 (12,aG wW),
 (675,Lp p P),
 (677,IW p P),
 (678,bh 1953653072 [an] [vR 678,an] 677 [] none 1232 1240 (aL))]
noncomputable def sE:List (Addr×Nat):=[(674,479088632330448654197072)]
noncomputable def JP:aR:=⟨118,1,222,[0,2,3,4,12,13],[3,12],662,1232,⟨346,0,346,9⟩,683,1260,⟨347,0,350,60⟩,Ac,sE⟩
noncomputable def Oi:OP (List (Addr×Obj)):=fun p P=>Ac p P++Pl p P
noncomputable def Ge (P:Params):List DictEntry:=[ah P 1802658125 1311 (vR 706),ah P 8320241373608703331 1319 (vR 717)]
noncomputable def xb (P:Params):List DictEntry:=w0 P++Ge P
noncomputable def wL:List Value:=wW++[vI 351 0,vI 0 0,vR 688,vI 386 0,vI 0 0,vR 716]
noncomputable def Ak:OP (List (Addr×Obj)):=fun p P=>[(3,aX (vS 2057589853544952853755060856711531 1203) (xb P) P 124),
 (12,aG wL),
 (696,aN (ck p 119 0) 7556217248068430591470339252557 vN (vS 2057589853544952853755060856711531 1203) (vR 695)),
 (703,aN (ck p 119 1) 8508170135355847648395889107277 vN (vS 2057589853544952853755060856711531 1203) (vR 702)),
 (705,dS cM [ah P 450384564904988244795231 1267 (vS 2057589853544952853755060856711531 1203),ah P 495203858965168609907421719000670047 1271 (vI 351 1270),ah P 6872339552563453791 1279 (vR 696),ah P 7738135659888801136 1289 (vR 703),ah P 139387583093331537335747288891456728448373227741023 1304 (vR 704),ah P 6872339526709436255 1306 (vR 707),ah P 115298466557181117500710751 1308 (vR 708),ah P 26845003462762335 1309 vN] 4),
 (706,bh 1802658125 [an] [vR 706,an] 705 [] none 1260 1268 (aL)),
 (717,aN (bM p 120) 8320241373608703331 vN (vS 2057589853544952853755060856711531 1203) (vR 716))]
noncomputable def ti:List (Addr×Nat):=[(695,7556217248068430591470339252557),(702,8508170135355847648395889107277),(716,8320241373608703331)]
noncomputable def Lm:aR:=⟨119,2,300,[0,2,3,4,12,13],[3,12],683,1260,⟨347,0,350,60⟩,718,1320,⟨386,0,388,18⟩,Ak,ti⟩
noncomputable def NB:OP (List (Addr×Obj)):=fun p P=>Ak p P++Oi p P
noncomputable def F3 (P:Params):List DictEntry:=[ah P 125780054139216 1559 (vR 902)]
noncomputable def As (P:Params):List DictEntry:=xb P++F3 P
noncomputable def Az:List Value:=wL++[vI 389 0,vI 0 0,vR 723]
noncomputable def L8:OP Obj:=fun p P=>bh 125780054139216 [an] [vR 902,an] 901 [] none 1320 1328 (aL)
noncomputable def JH:OP Obj:=fun p P=>dS cM [ah P 450384564904988244795231 1327 (vS 2057589853544952853755060856711531 1203),ah P 495203858965168609907421719000670047 1331 (vI 389 1330),ah P 6872339552563453791 1340 (vR 731),ah P 7827310 1347 (vR 738),ah P 431130765409 1356 (vR 745),ah P 1885697139 1364 (vR 752),ah P 31075950043034473 1372 (vR 759),ah P 28273320740746089 1380 (vR 766),ah P 28549237878780777 1388 (vR 773),ah P 7955443211016888677 1396 (vR 780),ah P 7237970109631062373 1404 (vR 787),ah P 7308604896967942501 1412 (vR 794),ah P 2036593462020055328110 1420 (vR 801),ah P 1852920348065283794286 1428 (vR 808),ah P 1871002853623525107054 1435 (vR 815),ah P 1871002853623727092336 1442 (vR 822),ah P 122618043015086734528308589 1449 (vR 829),ah P 500035838310 1458 (vR 836),ah P 8386088934781051238 1468 (vR 843),ah P 28268879342887267 1476 (vR 850),ah P 9224632820852246092213473537637 1483 (vR 857),ah P 1853321060 1490 (vR 864),ah P 28789 1497 (vR 871),ah P 1953653104 1506 (vR 878),ah P 1802658157 1513 (vR 885),ah P 1801675106 1521 (vR 892),ah P 1885693291 1529 (vR 899),ah P 139387583093331537335747288891456728448373227741023 1552 (vR 900),ah P 6872339526709436255 1554 (vR 903),ah P 115298466557181117500710751 1556 (vR 904),ah P 26845003462762335 1557 vN] 4
noncomputable def Mf:OP Obj:=fun p P=>aN (ck p 121 0) 495204253569412667242607794306834768 vN (vS 2057589853544952853755060856711531 1203) (vR 730)
noncomputable def KW:OP Obj:=fun p P=>aN (ck p 121 1) 564017139462642695561552 vN (vS 2057589853544952853755060856711531 1203) (vR 737)
noncomputable def JD:OP Obj:=fun p P=>aN (ck p 121 2) 31066245671115939653046395216 vN (vS 2057589853544952853755060856711531 1203) (vR 744)
noncomputable def Iq:OP Obj:=fun p P=>aN (ck p 121 3) 135878798933617795386204496 vN (vS 2057589853544952853755060856711531 1203) (vR 751)
noncomputable def KO:OP Obj:=fun p P=>aN (ck p 121 4) 2239258192543907240882999720567120 vN (vS 2057589853544952853755060856711531 1203) (vR 758)
noncomputable def LG:OP Obj:=fun p P=>aN (ck p 121 5) 2037307468040809650885985238671696 vN (vS 2057589853544952853755060856711531 1203) (vR 765)
noncomputable def Kz:OP Obj:=fun p P=>aN (ck p 121 6) 2057189393161420124259340050915664 vN (vS 2057589853544952853755060856711531 1203) (vR 772)
noncomputable def Ld:OP Obj:=fun p P=>aN (ck p 121 7) 573250097291244832402619815643210064 vN (vS 2057589853544952853755060856711531 1203) (vR 779)
noncomputable def Lr:OP Obj:=fun p P=>aN (ck p 121 8) 521550711818451849363384108277981520 vN (vS 2057589853544952853755060856711531 1203) (vR 786)
noncomputable def Ik:OP Obj:=fun p P=>aN (ck p 121 9) 526640484649328130546962940212437328 vN (vS 2057589853544952853755060856711531 1203) (vR 793)
noncomputable def Me:OP Obj:=fun p P=>aN (ck p 121 10) 146752024906539353176015330169997910352 vN (vS 2057589853544952853755060856711531 1203) (vR 800)
noncomputable def JM:OP Obj:=fun p P=>aN (ck p 121 11) 133516982225504349517970989084499403088 vN (vS 2057589853544952853755060856711531 1203) (vR 807)
noncomputable def Kn:OP Obj:=fun p P=>aN (ck p 121 12) 134819964070208677500967170059720089936 vN (vS 2057589853544952853755060856711531 1203) (vR 814)
noncomputable def Ip:OP Obj:=fun p P=>aN (ck p 121 13) 134819964070223232074419162452568727888 vN (vS 2057589853544952853755060856711531 1203) (vR 821)
noncomputable def Jj:OP Obj:=fun p P=>aN (ck p 121 14) 8835561165306305079348098527587173334671696 vN (vS 2057589853544952853755060856711531 1203) (vR 828)
noncomputable def ML:OP Obj:=fun p P=>aN (ck p 121 15) 36031379441370027042110857552 vN (vS 2057589853544952853755060856711531 1203) (vR 835)
noncomputable def JV:OP Obj:=fun p P=>aN (ck p 121 16) 604281392028412513422758886350414160 vN (vS 2057589853544952853755060856711531 1203) (vR 842)
noncomputable def Ml:OP Obj:=fun p P=>aN (ck p 121 17) 2036987431596937732837977300820304 vN (vS 2057589853544952853755060856711531 1203) (vR 849)
noncomputable def MP:OP Obj:=fun p P=>aN (ck p 121 18) 664704846953917166153588492746526461680172556624 vN (vS 2057589853544952853755060856711531 1203) (vR 856)
noncomputable def J5:OP Obj:=fun p P=>aN (ck p 121 19) 133545856576495911533961552 vN (vS 2057589853544952853755060856711531 1203) (vR 863)
noncomputable def KY:OP Obj:=fun p P=>aN (ck p 121 20) 2074479148386890178896 vN (vS 2057589853544952853755060856711531 1203) (vR 870)
noncomputable def Jq:OP Obj:=fun p P=>aN (ck p 121 21) 140775542272043434877542736 vN (vS 2057589853544952853755060856711531 1203) (vR 877)
noncomputable def KQ:OP Obj:=fun p P=>aN (ck p 121 22) 129895209679338990191403344 vN (vS 2057589853544952853755060856711531 1203) (vR 884)
noncomputable def Mv:OP Obj:=fun p P=>aN (ck p 121 23) 129824373389462411095990608 vN (vS 2057589853544952853755060856711531 1203) (vR 891)
noncomputable def Jl:OP Obj:=fun p P=>aN (ck p 121 24) 135878521655995937439506768 vN (vS 2057589853544952853755060856711531 1203) (vR 898)
noncomputable def wl:OP (List (Addr×Obj)):=fun p P=>[(3,aX (vS 2057589853544952853755060856711531 1203) (As P) P 125),
 (12,aG Az),
 (731,Mf p P),
 (738,KW p P),
 (745,JD p P),
 (752,Iq p P),
 (759,KO p P),
 (766,LG p P),
 (773,Kz p P),
 (780,Ld p P),
 (787,Lr p P),
 (794,Ik p P),
 (801,Me p P),
 (808,JM p P),
 (815,Kn p P),
 (822,Ip p P),
 (829,Jj p P),
 (836,ML p P),
 (843,JV p P),
 (850,Ml p P),
 (857,MP p P),
 (864,J5 p P),
 (871,KY p P),
 (878,Jq p P),
 (885,KQ p P),
 (892,Mv p P),
 (899,Jl p P),
 (901,JH p P),
 (902,L8 p P)]
noncomputable def s3:List (Addr×Nat):=[(730,495204253569412667242607794306834768),(737,564017139462642695561552),(744,31066245671115939653046395216),(751,135878798933617795386204496),(758,2239258192543907240882999720567120),(765,2037307468040809650885985238671696),(772,2057189393161420124259340050915664),(779,573250097291244832402619815643210064),(786,521550711818451849363384108277981520),(793,526640484649328130546962940212437328),(800,146752024906539353176015330169997910352),(807,133516982225504349517970989084499403088),(814,134819964070208677500967170059720089936),(821,134819964070223232074419162452568727888),(828,8835561165306305079348098527587173334671696),(835,36031379441370027042110857552),(842,604281392028412513422758886350414160),(849,2036987431596937732837977300820304),(856,664704846953917166153588492746526461680172556624),(863,133545856576495911533961552),(870,2074479148386890178896),(877,140775542272043434877542736),(884,129895209679338990191403344),(891,129824373389462411095990608),(898,135878521655995937439506768)]
noncomputable def Kk:aR:=⟨121,1,1010,[0,2,3,4,12,13],[3,12],718,1320,⟨386,0,388,18⟩,907,1560,⟨389,0,513,31⟩,wl,s3⟩
noncomputable def Pm:OP (List (Addr×Obj)):=fun p P=>wl p P++NB p P
noncomputable def F6 (P:Params):List DictEntry:=[ah P 1982043604936477598068 1568 (vR 913),ah P 549904462056163138168178 1582 (vR 920),ah P 7954882443257803625 1591 (vR 927),ah P 36026477772479008029446334563 1603 (vR 934),ah P 2036449905473997791589 1612 (vR 941),ah P 530960880869448967086446 1619 (vR 948),ah P 2574725234261574258840353268082116886705498476 1626 (vR 955),ah P 2057189393161365235510756520322418 1634 (vR 962),ah P 134819964070225602407044960653137765746 1641 (vR 969),ah P 478958716131290477061486 1651 (vR 976)]
noncomputable def xN (P:Params):List DictEntry:=As P++F6 P
noncomputable def Ag:List Value:=Az++[vI 514 0,vI 0 0,vR 912,vI 520 0,vI 0 0,vR 919,vI 538 0,vI 0 0,vR 926,vI 540 0,vI 0 0,vR 933,vI 551 0,vI 0 0,vR 940,vI 556 0,vI 0 0,vR 947,vI 558 0,vI 0 0,vR 954,vI 560 0,vI 0 0,vR 961,vI 571 0,vI 0 0,vR 968,vI 575 0,vI 0 0,vR 975]
noncomputable def yN:OP (List (Addr×Obj)):=fun p P=>[(3,aX (vS 2462128850133860741893067092420971 1652) (xN P) P 135),
 (12,aG Ag),
 (913,aN (bM p 122) 1982043604936477598068 vN (vS 2057589853544952853755060856711531 1203) (vR 912)),
 (920,aN (bM p 123) 549904462056163138168178 vN (vS 2057589853544952853755060856711531 1203) (vR 919)),
 (927,aN (bM p 124) 7954882443257803625 vN (vS 2057589853544952853755060856711531 1203) (vR 926)),
 (934,aN (bM p 125) 36026477772479008029446334563 vN (vS 2057589853544952853755060856711531 1203) (vR 933)),
 (941,aN (bM p 126) 2036449905473997791589 vN (vS 2057589853544952853755060856711531 1203) (vR 940)),
 (948,aN (bM p 127) 530960880869448967086446 vN (vS 2057589853544952853755060856711531 1203) (vR 947)),
 (955,aN (bM p 128) 2574725234261574258840353268082116886705498476 vN (vS 2057589853544952853755060856711531 1203) (vR 954)),
 (962,aN (bM p 129) 2057189393161365235510756520322418 vN (vS 2057589853544952853755060856711531 1203) (vR 961)),
 (969,aN (bM p 130) 134819964070225602407044960653137765746 vN (vS 2057589853544952853755060856711531 1203) (vR 968)),
 (976,aN (bM p 131) 478958716131290477061486 vN (vS 2057589853544952853755060856711531 1203) (vR 975))]
noncomputable def sO:List (Addr×Nat):=[(912,1982043604936477598068),(919,549904462056163138168178),(926,7954882443257803625),(933,36026477772479008029446334563),(940,2036449905473997791589),(947,530960880869448967086446),(954,2574725234261574258840353268082116886705498476),(961,2057189393161365235510756520322418),(968,134819964070225602407044960653137765746),(975,478958716131290477061486)]
noncomputable def IP:aR:=⟨122,11,322,[3,4,12,13],[3,12],907,1560,⟨389,0,513,31⟩,977,1654,⟨590,0,590,8⟩,yN,sO⟩
noncomputable def NH:OP (List (Addr×Obj)):=fun p P=>yN p P++Pm p P
noncomputable def Fy (P:Params):List DictEntry:=[ah P 125779801367890 1689 (vR 1000)]
noncomputable def zp (P:Params):List DictEntry:=xN P++Fy P
noncomputable def v4:List Value:=Ag++[vI 591 0,vI 0 0,vR 982]
noncomputable def Kv:OP Obj:=fun p P=>dS cM [ah P 450384564904988244795231 1661 (vS 2462128850133860741893067092420971 1652),ah P 495203858965168609907421719000670047 1665 (vI 591 1664),ah P 495773380719 1673 (vR 990),ah P 1684104562 1681 (vR 997),ah P 139387583093331537335747288891456728448373227741023 1682 (vR 998),ah P 6872339526709436255 1684 (vR 1001),ah P 115298466557181117500710751 1686 (vR 1002),ah P 26845003462762335 1687 vN] 4
noncomputable def KK:OP Obj:=fun p P=>aN (ck p 133 0) 35724237002673864769143924050 vN (vS 2462128850133860741893067092420971 1652) (vR 989)
noncomputable def HU:OP Obj:=fun p P=>aN (ck p 133 1) 121352522859092066774902098 vN (vS 2462128850133860741893067092420971 1652) (vR 996)
noncomputable def yw:OP (List (Addr×Obj)):=fun p P=>[(3,aX (vS 2462128850133860741893067092420971 1652) (zp P) P 136),
 (12,aG v4),
 (990,KK p P),
 (997,HU p P),
 (999,Kv p P),
 (1000,bh 125779801367890 [an] [vR 1000,an] 999 [] none 1654 1662 (aL))]
noncomputable def tN:List (Addr×Nat):=[(989,35724237002673864769143924050),(996,121352522859092066774902098)]
noncomputable def Iu:aR:=⟨133,1,254,[0,2,3,4,12,13],[3,12],977,1654,⟨590,0,590,8⟩,1005,1690,⟨591,0,597,52⟩,yw,tN⟩
noncomputable def Nw:OP (List (Addr×Obj)):=fun p P=>yw p P++NH p P
noncomputable def Gr (P:Params):List DictEntry:=[ah P 8390876053923263571 1721 (vR 1028)]
noncomputable def yM (P:Params):List DictEntry:=zp P++Gr P
noncomputable def zX:List Value:=v4++[vI 598 0,vI 0 0,vR 1010]
noncomputable def DT:OP Obj:=fun p P=>bh 8390876053923263571 [vR 678] [vR 1028,vR 678,an] 1027 [] (some (vR 1005)) 1690 1698 (aL)
noncomputable def Ei:OP Obj:=fun p P=>b9 P 2 1697 2462128850133860741893067092420971 1652 1701 598 1700 (ah P 6872339552563453791 1708 (vR 1018)::ah P 435728572784 1716 (vR 1025)::dL P 1718 1026 1719 vN)
noncomputable def EM:OP Obj:=fun p P=>aN (ck p 134 0) 32453705961925028560411692162118578959443 vN (vS 2462128850133860741893067092420971 1652) (vR 1017)
noncomputable def Dn:OP Obj:=fun p P=>aN (ck p 134 1) 2057670007744645234783639332287571 vN (vS 2462128850133860741893067092420971 1652) (vR 1024)
noncomputable def vY:OP (List (Addr×Obj)):=fun p P=>[(3,aX (vS 2462128850133860741893067092420971 1652) (yM P) P 137),
 (12,aG zX),
 (678,bh 1953653072 [an] [vR 678,an] 677 [vR 1028] none 1232 1240 (aL)),
 (1018,EM p P),
 (1025,Dn p P),
 (1027,Ei p P),
 (1028,DT p P)]
noncomputable def sf:List (Addr×Nat):=[(1017,32453705961925028560411692162118578959443),(1024,2057670007744645234783639332287571)]
noncomputable def II:aR:=⟨134,1,277,[0,2,3,4,12,13,677,678],[3,12,678],1005,1690,⟨591,0,597,52⟩,1031,1722,⟨598,0,604,44⟩,vY,sf⟩
noncomputable def NJ:OP (List (Addr×Obj)):=fun p P=>vY p P++Nw p P
noncomputable def G0 (P:Params):List DictEntry:=[ah P 2148064269765532675138 1746 (vR 1047),ah P 2361506002138174999606649224783218 1756 (vR 1056),ah P 2129981791643558307186 1764 (vR 1063),ah P 2239892019062372902394246153073513 1771 (vR 1070),ah P 2129330456417063429484 1779 (vR 1077),ah P 1999410601103902991730 1790 (vR 1084)]
noncomputable def z7 (P:Params):List DictEntry:=yM P++G0 P
noncomputable def AT:List Value:=zX++[vI 605 0,vI 0 0,vR 1036,vI 610 0,vI 0 0,vR 1055,vI 626 0,vI 0 0,vR 1062,vI 633 0,vI 0 0,vR 1069,vI 637 0,vI 0 0,vR 1076,vI 642 0,vI 0 0,vR 1083]
noncomputable def EB:OP Obj:=fun p P=>bh 2148064269765532675138 [vR 678] [vR 1047,vR 678,an] 1046 [] (some (vR 1031)) 1722 1730 (aL)
noncomputable def Eg:OP Obj:=fun p P=>b9 P 2 1729 2462128850133860741893067092420971 1652 1733 605 1732 (ah P 435728572784 1742 (vR 1044)::dL P 1743 1045 1744 vN)
noncomputable def C8:OP Obj:=fun p P=>aN (ck p 135 0) 526763521982629180104611630242819138 vN (vS 2462128850133860741893067092420971 1652) (vR 1043)
noncomputable def yB:OP (List (Addr×Obj)):=fun p P=>[(3,aX (vS 2462128850133860741893067092420971 1652) (z7 P) P 143),
 (12,aG AT),
 (678,bh 1953653072 [an] [vR 678,an] 677 [vR 1028,vR 1047] none 1232 1240 (aL)),
 (1044,C8 p P),
 (1046,Eg p P),
 (1047,EB p P),
 (1056,aN (bM p 136) 2361506002138174999606649224783218 vN (vS 2462128850133860741893067092420971 1652) (vR 1055)),
 (1063,aN (bM p 137) 2129981791643558307186 vN (vS 2462128850133860741893067092420971 1652) (vR 1062)),
 (1070,aN (bM p 138) 2239892019062372902394246153073513 vN (vS 2462128850133860741893067092420971 1652) (vR 1069)),
 (1077,aN (bM p 139) 2129330456417063429484 vN (vS 2462128850133860741893067092420971 1652) (vR 1076)),
 (1084,aN (bM p 140) 1999410601103902991730 vN (vS 2462128850133860741893067092420971 1652) (vR 1083))]
noncomputable def tu:List (Addr×Nat):=[(1043,526763521982629180104611630242819138),(1055,2361506002138174999606649224783218),(1062,2129981791643558307186),(1069,2239892019062372902394246153073513),(1076,2129330456417063429484),(1083,1999410601103902991730)]
noncomputable def MH:aR:=⟨135,6,400,[0,2,3,4,12,13,677,678],[3,12,678],1031,1722,⟨598,0,604,44⟩,1085,1791,⟨642,0,654,70⟩,yB,tu⟩
noncomputable def NN:OP (List (Addr×Obj)):=fun p P=>yB p P++NJ p P
noncomputable def GC (P:Params):List DictEntry:=[ah P 8241998945142793586 1800 (vR 1091),ah P 2109951729986653481059 1809 (vR 1098),ah P 9224632801906935502231461783651 1818 (vR 1105),ah P 488439906859765738072163 1826 (vR 1112),ah P 36963447045179020103745889650 1835 (vR 1119),ah P 2110234895986193490262 1859 (vR 1136)]
noncomputable def w8 (P:Params):List DictEntry:=z7 P++GC P
noncomputable def xk:List Value:=AT++[vI 655 0,vI 0 0,vR 1090,vI 661 0,vI 0 0,vR 1097,vI 671 0,vI 0 0,vR 1104,vI 674 0,vI 0 0,vR 1111,vI 681 0,vI 0 0,vR 1118,vI 686 0,vI 0 0,vR 1125]
noncomputable def Ed:OP Obj:=fun p P=>bh 2110234895986193490262 [vR 1000] [vR 1136,vR 1000,an] 1135 [] (some (vR 1120)) 1836 1844 (aL)
noncomputable def Ea:OP Obj:=fun p P=>b9 P 2 1843 2462128850133860741893067092420971 1652 1847 686 1846 (ah P 1684104562 1855 (vR 1133)::dL P 1856 1134 1857 vN)
noncomputable def DD:OP Obj:=fun p P=>aN (ck p 146 0) 2035957488151925168168955884495190 vN (vS 2462128850133860741893067092420971 1652) (vR 1132)
noncomputable def zh:OP (List (Addr×Obj)):=fun p P=>[(3,aX (vS 2462128850133860741893067092420971 1652) (w8 P) P 149),
 (12,aG xk),
 (1000,bh 125779801367890 [an] [vR 1000,an] 999 [vR 1136] none 1654 1662 (aL)),
 (1091,aN (bM p 141) 8241998945142793586 vN (vS 2462128850133860741893067092420971 1652) (vR 1090)),
 (1098,aN (bM p 142) 2109951729986653481059 vN (vS 2462128850133860741893067092420971 1652) (vR 1097)),
 (1105,aN (bM p 143) 9224632801906935502231461783651 vN (vS 2462128850133860741893067092420971 1652) (vR 1104)),
 (1112,aN (bM p 144) 488439906859765738072163 vN (vS 2462128850133860741893067092420971 1652) (vR 1111)),
 (1119,aN (bM p 145) 36963447045179020103745889650 vN (vS 2462128850133860741893067092420971 1652) (vR 1118)),
 (1133,DD p P),
 (1135,Ea p P),
 (1136,Ed p P)]
noncomputable def tr:List (Addr×Nat):=[(1090,8241998945142793586),(1097,2109951729986653481059),(1104,9224632801906935502231461783651),(1111,488439906859765738072163),(1118,36963447045179020103745889650),(1132,2035957488151925168168955884495190)]
noncomputable def IX:aR:=⟨141,6,400,[0,2,3,4,12,13,999,1000],[3,12,1000],1085,1791,⟨642,0,654,70⟩,1139,1860,⟨686,0,689,33⟩,zh,tr⟩
noncomputable def Np:OP (List (Addr×Obj)):=fun p P=>zh p P++NN p P
noncomputable def EW (P:Params):List DictEntry:=[ah P 2110234895986193622348 1891 (vR 1162),ah P 393216727730493751970123 1902 (vR 1165),ah P 1926849750698338183531 1912 (vR 1172),ah P 121371689188580293628487026 1922 (vR 1179),ah P 8035896067037084535151413781874 1931 (vR 1186)]
noncomputable def xS (P:Params):List DictEntry:=w8 P++EW P
noncomputable def wX:List Value:=xk++[vI 690 0,vI 0 0,vR 1144,vI 699 0,vI 0 0,vR 1171,vI 705 0,vI 0 0,vR 1178,vI 715 0,vI 0 0,vR 1185]
noncomputable def Ex:OP Obj:=fun p P=>bh 2110234895986193622348 [vR 1000] [vR 1162,vR 1000,an] 1161 [] (some (vR 1139)) 1860 1868 (aL)
noncomputable def Du:OP Obj:=fun p P=>b9 P 2 1867 2462128850133860741893067092420971 1652 1871 690 1870 (ah P 495773380719 1879 (vR 1152)::ah P 1684104562 1887 (vR 1159)::dL P 1888 1160 1889 vN)
noncomputable def DB:OP Obj:=fun p P=>aN (ck p 147 0) 599353240629052006786717748882072908 vN (vS 2462128850133860741893067092420971 1652) (vR 1151)
noncomputable def DV:OP Obj:=fun p P=>aN (ck p 147 1) 2035957488151925168168955884627276 vN (vS 2462128850133860741893067092420971 1652) (vR 1158)
noncomputable def AF:OP (List (Addr×Obj)):=fun p P=>[(3,aX (vS 599171573244126938752986334846937451 1892) (xS P) P 154),
 (12,aG wX),
 (1000,bh 125779801367890 [an] [vR 1000,an] 999 [vR 1136,vR 1162] none 1654 1662 (aL)),
 (1152,DB p P),
 (1159,DV p P),
 (1161,Du p P),
 (1162,Ex p P),
 (1165,cO bG [vS 7958113 1894,vS 31093567915781749 1895,vS 491328529774 1896,vS 1851983302504732716661 1897,vS 113723913172083 1898,vS 125779768604014 1899,vS 31069335677005666 1900,vS 127970252055151 1901]),
 (1172,aN (bM p 150) 1926849750698338183531 vN (vS 599171573244126938752986334846937451 1892) (vR 1171)),
 (1179,aN (bM p 151) 121371689188580293628487026 vN (vS 599171573244126938752986334846937451 1892) (vR 1178)),
 (1186,aN (bM p 152) 8035896067037084535151413781874 vN (vS 599171573244126938752986334846937451 1892) (vR 1185))]
noncomputable def tV:List (Addr×Nat):=[(1151,599353240629052006786717748882072908),(1158,2035957488151925168168955884627276),(1171,1926849750698338183531),(1178,121371689188580293628487026),(1185,8035896067037084535151413781874)]
noncomputable def L2:aR:=⟨147,6,399,[0,2,3,4,12,13,999,1000],[3,12,1000],1139,1860,⟨686,0,689,33⟩,1187,1932,⟨715,0,720,15⟩,AF,tV⟩
noncomputable def Pt:OP (List (Addr×Obj)):=fun p P=>AF p P++Np p P
noncomputable def G1 (P:Params):List DictEntry:=[ah P 2340673004166331503143951941068146 1939 (vR 1193),ah P 327250014055127840933188 1947 (vR 1194),ah P 6597385350049259782120029703489 1955 (vR 1195),ah P 25778313690307964475105559361 1958 (vI 114688 1957),ah P 1689407566008023192481859602698832 1960 (vI 245760 1959),ah P 1871364260896569123182 1968 (vR 1202),ah P 1871002853623525697899 1978 (vR 1209),ah P 8749578199499005030634059031922 1989 (vR 1216),ah P 545200541193666318919026 1998 (vR 1223),ah P 9221223673929394616299073660274 2006 (vR 1230),ah P 2019156916244597269874 2017 (vR 1237),ah P 35403857438486646339945718126 2026 (vR 1244),ah P 152058409845593508570296564910265558386 2036 (vR 1251),ah P 544869076258892827157874 2048 (vR 1258)]
noncomputable def Aw (P:Params):List DictEntry:=xS P++G1 P
noncomputable def xp:List Value:=wX++[vI 721 0,vI 0 0,vR 1192,vI 733 0,vI 0 0,vR 1201,vI 736 0,vI 0 0,vR 1208,vI 741 0,vI 0 0,vR 1215,vI 752 0,vI 0 0,vR 1222,vI 758 0,vI 0 0,vR 1229,vI 761 0,vI 0 0,vR 1236,vI 772 0,vI 0 0,vR 1243,vI 780 0,vI 0 0,vR 1250,vI 789 0,vI 0 0,vR 1257]
noncomputable def xV:OP (List (Addr×Obj)):=fun p P=>[(3,aX (vS 599312513936196805468829808243665259 1940) (Aw P) P 168),
 (12,aG xp),
 (1193,aN (bM p 153) 2340673004166331503143951941068146 vN (vS 599171573244126938752986334846937451 1892) (vR 1192)),
 (1194,cO bG [vS 500152823651 1942,vS 7496054 1943,vS 7957695015192261990 1944,vS 495857003619 1945,vS 1836412517 1946]),
 (1195,cO bG [vS 7628140 1948,vS 1701869940 1949,vS 1870282268968674946665 1950,vS 8386654075301880417 1951,vS 1870282279968085729646 1952,vS 111516500389741 1953,vS 119165519096935 1954]),
 (1202,aN (bM p 159) 1871364260896569123182 vN (vS 599312513936196805468829808243665259 1940) (vR 1201)),
 (1209,aN (bM p 160) 1871002853623525697899 vN (vS 599312513936196805468829808243665259 1940) (vR 1208)),
 (1216,aN (bM p 161) 8749578199499005030634059031922 vN (vS 599312513936196805468829808243665259 1940) (vR 1215)),
 (1223,aN (bM p 162) 545200541193666318919026 vN (vS 599312513936196805468829808243665259 1940) (vR 1222)),
 (1230,aN (bM p 163) 9221223673929394616299073660274 vN (vS 599312513936196805468829808243665259 1940) (vR 1229)),
 (1237,aN (bM p 164) 2019156916244597269874 vN (vS 599312513936196805468829808243665259 1940) (vR 1236)),
 (1244,aN (bM p 165) 35403857438486646339945718126 vN (vS 599312513936196805468829808243665259 1940) (vR 1243)),
 (1251,aN (bM p 166) 152058409845593508570296564910265558386 vN (vS 599312513936196805468829808243665259 1940) (vR 1250)),
 (1258,aN (bM p 167) 544869076258892827157874 vN (vS 599312513936196805468829808243665259 1940) (vR 1257))]
noncomputable def sw:List (Addr×Nat):=[(1192,2340673004166331503143951941068146),(1201,1871364260896569123182),(1208,1871002853623525697899),(1215,8749578199499005030634059031922),(1222,545200541193666318919026),(1229,9221223673929394616299073660274),(1236,2019156916244597269874),(1243,35403857438486646339945718126),(1250,152058409845593508570296564910265558386),(1257,544869076258892827157874)]
noncomputable def Li:aR:=⟨153,15,399,[3,4,12,13],[3,12],1187,1932,⟨715,0,720,15⟩,1259,2049,⟨789,0,796,61⟩,xV,sw⟩
noncomputable def Px:OP (List (Addr×Obj)):=fun p P=>xV p P++Pt p P
noncomputable def Gm (P:Params):List DictEntry:=[ah P 2056397101954338443361873838564722 2061 (vR 1265),ah P 540220133372465450937925 2085 (vR 1282),ah P 139547800791748664552418401 2092 (vR 1291),ah P 599353240629283162791751343978868329 2099 (vR 1298)]
noncomputable def zo (P:Params):List DictEntry:=Aw P++Gm P
noncomputable def wb:List Value:=xp++[vI 797 0,vI 0 0,vR 1264,vI 806 0,vI 0 0,vR 1271,vI 810 0,vI 0 0,vR 1290,vI 814 0,vI 0 0,vR 1297]
noncomputable def DU:OP Obj:=fun p P=>bh 540220133372465450937925 [vR 1000] [vR 1282,vR 1000,an] 1281 [] (some (vR 1266)) 2062 2070 (aL)
noncomputable def Ek:OP Obj:=fun p P=>b9 P 2 2069 599312513936196805468829808243665259 1940 2073 806 2072 (ah P 1684104562 2081 (vR 1279)::dL P 2082 1280 2083 vN)
noncomputable def Eb:OP Obj:=fun p P=>aN (ck p 169 0) 521205116966892843051252706348199493 vN (vS 599312513936196805468829808243665259 1940) (vR 1278)
noncomputable def xw:OP (List (Addr×Obj)):=fun p P=>[(3,aX (vS 599312513936196805468829808243665259 1940) (zo P) P 172),
 (12,aG wb),
 (1000,bh 125779801367890 [an] [vR 1000,an] 999 [vR 1136,vR 1162,vR 1282] none 1654 1662 (aL)),
 (1265,aN (bM p 168) 2056397101954338443361873838564722 vN (vS 599312513936196805468829808243665259 1940) (vR 1264)),
 (1279,Eb p P),
 (1281,Ek p P),
 (1282,DU p P),
 (1291,aN (bM p 170) 139547800791748664552418401 vN (vS 599312513936196805468829808243665259 1940) (vR 1290)),
 (1298,aN (bM p 171) 599353240629283162791751343978868329 vN (vS 599312513936196805468829808243665259 1940) (vR 1297))]
noncomputable def tP:List (Addr×Nat):=[(1264,2056397101954338443361873838564722),(1278,521205116966892843051252706348199493),(1290,139547800791748664552418401),(1297,599353240629283162791751343978868329)]
noncomputable def IG:aR:=⟨168,4,338,[0,2,3,4,12,13,999,1000],[3,12,1000],1259,2049,⟨789,0,796,61⟩,1299,2100,⟨814,0,819,81⟩,xw,tP⟩
noncomputable def NL:OP (List (Addr×Obj)):=fun p P=>xw p P++Px p P
noncomputable def Fx (P:Params):List DictEntry:=[ah P 138296354143351180874050625 2131 (vR 1322)]
noncomputable def ye (P:Params):List DictEntry:=zo P++Fx P
noncomputable def yI:List Value:=wb++[vI 820 0,vI 0 0,vR 1304]
noncomputable def Dz:OP Obj:=fun p P=>bh 138296354143351180874050625 [vR 1000] [vR 1322,vR 1000,an] 1321 [] (some (vR 1299)) 2100 2108 (aL)
noncomputable def Ew:OP Obj:=fun p P=>b9 P 2 2107 599312513936196805468829808243665259 1940 2111 820 2110 (ah P 495773380719 2119 (vR 1312)::ah P 1684104562 2127 (vR 1319)::dL P 2128 1320 2129 vN)
noncomputable def Dq:OP Obj:=fun p P=>aN (ck p 172 0) 39279213977865552316774334390731169950785 vN (vS 599312513936196805468829808243665259 1940) (vR 1311)
noncomputable def C6:OP Obj:=fun p P=>aN (ck p 172 1) 133428509943524567821120692850573012033 vN (vS 599312513936196805468829808243665259 1940) (vR 1318)
noncomputable def ym:OP (List (Addr×Obj)):=fun p P=>[(3,aX (vS 599312513936196805468829808243665259 1940) (ye P) P 173),
 (12,aG yI),
 (1000,bh 125779801367890 [an] [vR 1000,an] 999 [vR 1136,vR 1162,vR 1282,vR 1322] none 1654 1662 (aL)),
 (1312,Dq p P),
 (1319,C6 p P),
 (1321,Ew p P),
 (1322,Dz p P)]
noncomputable def tq:List (Addr×Nat):=[(1311,39279213977865552316774334390731169950785),(1318,133428509943524567821120692850573012033)]
noncomputable def LF:aR:=⟨172,1,277,[0,2,3,4,12,13,999,1000],[3,12,1000],1299,2100,⟨814,0,819,81⟩,1325,2132,⟨820,0,826,31⟩,ym,tq⟩
noncomputable def Ni:OP (List (Addr×Obj)):=fun p P=>ym p P++NL p P
noncomputable def Ho (P:Params):List DictEntry:=[ah P 593978318201727159584468100837568073 2163 (vR 1348),ah P 9145404672688036558114956469604 2171 (vR 1357)]
noncomputable def zj (P:Params):List DictEntry:=ye P++Ho P
noncomputable def yr:List Value:=yI++[vI 827 0,vI 0 0,vR 1330,vI 834 0,vI 0 0,vR 1356]
noncomputable def EG:OP Obj:=fun p P=>bh 593978318201727159584468100837568073 [vR 1000] [vR 1348,vR 1000,an] 1347 [] (some (vR 1325)) 2132 2140 (aL)
noncomputable def Df:OP Obj:=fun p P=>b9 P 2 2139 599312513936196805468829808243665259 1940 2143 827 2142 (ah P 495773380719 2151 (vR 1338)::ah P 1684104562 2159 (vR 1345)::dL P 2160 1346 2161 vN)
noncomputable def Eo:OP Obj:=fun p P=>aN (ck p 173 0) 168702939447518615085522798420100347906410918735433 vN (vS 599312513936196805468829808243665259 1940) (vR 1337)
noncomputable def D8:OP Obj:=fun p P=>aN (ck p 173 1) 573071086561448825764247353603959541513363680841 vN (vS 599312513936196805468829808243665259 1940) (vR 1344)
noncomputable def xn:OP (List (Addr×Obj)):=fun p P=>[(3,aX (vS 599312513936196805468829808243665259 1940) (zj P) P 175),
 (12,aG yr),
 (1000,bh 125779801367890 [an] [vR 1000,an] 999 [vR 1136,vR 1162,vR 1282,vR 1322,vR 1348] none 1654 1662 (aL)),
 (1338,Eo p P),
 (1345,D8 p P),
 (1347,Df p P),
 (1348,EG p P),
 (1357,aN (bM p 174) 9145404672688036558114956469604 vN (vS 599312513936196805468829808243665259 1940) (vR 1356))]
noncomputable def sA:List (Addr×Nat):=[(1337,168702939447518615085522798420100347906410918735433),(1344,573071086561448825764247353603959541513363680841),(1356,9145404672688036558114956469604)]
noncomputable def Jt:aR:=⟨173,2,307,[0,2,3,4,12,13,999,1000],[3,12,1000],1325,2132,⟨820,0,826,31⟩,1358,2172,⟨834,0,840,65⟩,xn,sA⟩
noncomputable def Pi:OP (List (Addr×Obj)):=fun p P=>xn p P++Ni p P
noncomputable def HE (P:Params):List DictEntry:=[ah P 9063389865138659067769447998788 2203 (vR 1381),ah P 7954212515030785118481003144562 2210 (vR 1390)]
noncomputable def yn (P:Params):List DictEntry:=zj P++HE P
noncomputable def wP:List Value:=yr++[vI 841 0,vI 0 0,vR 1363,vI 849 0,vI 0 0,vR 1389]
noncomputable def D3:OP Obj:=fun p P=>bh 9063389865138659067769447998788 [vR 1000] [vR 1381,vR 1000,an] 1380 [] (some (vR 1358)) 2172 2180 (aL)
noncomputable def DL:OP Obj:=fun p P=>b9 P 2 2179 599312513936196805468829808243665259 1940 2183 841 2182 (ah P 495773380719 2191 (vR 1371)::ah P 1684104562 2199 (vR 1378)::dL P 2200 1379 2201 vN)
noncomputable def EA:OP Obj:=fun p P=>aN (ck p 175 0) 2574202567253396836632122778627035961560884548 vN (vS 599312513936196805468829808243665259 1940) (vR 1370)
noncomputable def DE:OP Obj:=fun p P=>aN (ck p 175 1) 8744370827658826076724965722733160582833476 vN (vS 599312513936196805468829808243665259 1940) (vR 1377)
noncomputable def wU:OP (List (Addr×Obj)):=fun p P=>[(3,aX (vS 599312513936196805468829808243665259 1940) (yn P) P 177),
 (12,aG wP),
 (1000,bh 125779801367890 [an] [vR 1000,an] 999 [vR 1136,vR 1162,vR 1282,vR 1322,vR 1348,vR 1381] none 1654 1662 (aL)),
 (1371,EA p P),
 (1378,DE p P),
 (1380,DL p P),
 (1381,D3 p P),
 (1390,aN (bM p 176) 7954212515030785118481003144562 vN (vS 599312513936196805468829808243665259 1940) (vR 1389))]
noncomputable def su:List (Addr×Nat):=[(1370,2574202567253396836632122778627035961560884548),(1377,8744370827658826076724965722733160582833476),(1389,7954212515030785118481003144562)]
noncomputable def LU:aR:=⟨175,2,306,[0,2,3,4,12,13,999,1000],[3,12,1000],1358,2172,⟨834,0,840,65⟩,1391,2211,⟨849,0,867,47⟩,wU,su⟩
noncomputable def N5:OP (List (Addr×Obj)):=fun p P=>wU p P++Pi p P
noncomputable def GD (P:Params):List DictEntry:=[ah P 138296354143351185471336259 2234 (vR 1407),ah P 168737393140007711524880928109706701378720266024051 2241 (vR 1416),ah P 1888877928616604820850 2251 (vR 1423),ah P 544961023458625804395890 2260 (vR 1430),ah P 39267271776475264420549722148945265059186 2269 (vR 1437)]
noncomputable def yV (P:Params):List DictEntry:=yn P++GD P
noncomputable def xy:List Value:=wP++[vI 868 0,vI 0 0,vR 1396,vI 875 0,vI 0 0,vR 1415,vI 877 0,vI 0 0,vR 1422,vI 884 0,vI 0 0,vR 1429,vI 890 0,vI 0 0,vR 1436]
noncomputable def DW:OP Obj:=fun p P=>bh 125779801367890 [an] [vR 1000,an] 999 [vR 1136,vR 1162,vR 1282,vR 1322,vR 1348,vR 1381,vR 1407] none 1654 1662 (aL)
noncomputable def Dh:OP Obj:=fun p P=>bh 138296354143351185471336259 [vR 1000] [vR 1407,vR 1000,an] 1406 [] (some (vR 1391)) 2211 2219 (aL)
noncomputable def DP:OP Obj:=fun p P=>b9 P 2 2218 599312513936196805468829808243665259 1940 2222 868 2221 (ah P 1684104562 2230 (vR 1404)::dL P 2231 1405 2232 vN)
noncomputable def Ee:OP Obj:=fun p P=>aN (ck p 177 0) 133428509943524567821120692855170297667 vN (vS 599312513936196805468829808243665259 1940) (vR 1403)
noncomputable def wN:OP (List (Addr×Obj)):=fun p P=>[(3,aX (vS 599130848713729606123478169911454059 2270) (yV P) P 182),
 (12,aG xy),
 (1000,DW p P),
 (1404,Ee p P),
 (1406,DP p P),
 (1407,Dh p P),
 (1416,aN (bM p 178) 168737393140007711524880928109706701378720266024051 vN (vS 599312513936196805468829808243665259 1940) (vR 1415)),
 (1423,aN (bM p 179) 1888877928616604820850 vN (vS 599312513936196805468829808243665259 1940) (vR 1422)),
 (1430,aN (bM p 180) 544961023458625804395890 vN (vS 599312513936196805468829808243665259 1940) (vR 1429)),
 (1437,aN (bM p 181) 39267271776475264420549722148945265059186 vN (vS 599312513936196805468829808243665259 1940) (vR 1436))]
noncomputable def tp:List (Addr×Nat):=[(1403,133428509943524567821120692855170297667),(1415,168737393140007711524880928109706701378720266024051),(1422,1888877928616604820850),(1429,544961023458625804395890),(1436,39267271776475264420549722148945265059186)]
noncomputable def J9:aR:=⟨177,6,377,[0,2,3,4,12,13,999,1000],[3,12,1000],1391,2211,⟨849,0,867,47⟩,1438,2272,⟨894,0,894,8⟩,wN,tp⟩
noncomputable def OH:OP (List (Addr×Obj)):=fun p P=>wN p P++N5 p P
noncomputable def FM (P:Params):List DictEntry:=[ah P 8390876053671600462 2296 (vR 1454)]
noncomputable def AD (P:Params):List DictEntry:=yV P++FM P
noncomputable def z9:List Value:=xy++[vI 895 0,vI 0 0,vR 1443]
noncomputable def C9:OP Obj:=fun p P=>bh 8390876053671600462 [vR 678] [vR 1454,vR 678,an] 1453 [] (some (vR 1438)) 2272 2280 (aL)
noncomputable def CZ:OP Obj:=fun p P=>b9 P 2 2279 599130848713729606123478169911454059 2270 2283 895 2282 (ah P 435728572784 2292 (vR 1451)::dL P 2293 1452 2294 vN)
noncomputable def DC:OP Obj:=fun p P=>aN (ck p 183 0) 2057670007744645234783639080624462 vN (vS 599130848713729606123478169911454059 2270) (vR 1450)
noncomputable def xJ:OP (List (Addr×Obj)):=fun p P=>[(3,aX (vS 39284530605753516885976098930510437181803 2297) (AD P) P 183),
 (12,aG z9),
 (678,bh 1953653072 [an] [vR 678,an] 677 [vR 1028,vR 1047,vR 1454] none 1232 1240 (aL)),
 (1451,DC p P),
 (1453,CZ p P),
 (1454,C9 p P)]
noncomputable def tc:List (Addr×Nat):=[(1450,2057670007744645234783639080624462)]
noncomputable def MJ:aR:=⟨183,2,255,[0,2,3,4,12,13,677,678],[3,12,678],1438,2272,⟨894,0,894,8⟩,1457,2299,⟨900,0,900,8⟩,xJ,tc⟩
noncomputable def Nq:OP (List (Addr×Obj)):=fun p P=>xJ p P++OH p P
noncomputable def Fp (P:Params):List DictEntry:=[ah P 140775539985616684300980308 2322 (vR 1473),ah P 35723009223291580013992830322 2331 (vR 1482),ah P 132233093836897110643008882 2343 (vR 1489)]
noncomputable def z0 (P:Params):List DictEntry:=AD P++Fp P
noncomputable def wS:List Value:=z9++[vI 901 0,vI 0 0,vR 1462,vI 905 0,vI 0 0,vR 1481,vI 914 0,vI 0 0,vR 1488]
noncomputable def IK:OP Obj:=fun p P=>bh 1953653072 [an] [vR 678,an] 677 [vR 1028,vR 1047,vR 1454,vR 1473] none 1232 1240 (aL)
noncomputable def Eh:OP Obj:=fun p P=>bh 140775539985616684300980308 [vR 678] [vR 1473,vR 678,an] 1472 [] (some (vR 1457)) 2299 2307 (aL)
noncomputable def D1:OP Obj:=fun p P=>b9 P 2 2306 39284530605753516885976098930510437181803 2297 2310 901 2309 (ah P 435728572784 2318 (vR 1470)::dL P 2319 1471 2320 vN)
noncomputable def D7:OP Obj:=fun p P=>aN (ck p 185 0) 34521974176653585947335830062328298164308 vN (vS 39284530605753516885976098930510437181803 2297) (vR 1469)
noncomputable def yH:OP (List (Addr×Obj)):=fun p P=>[(3,aX (vS 659086021142030081268270140598760674578402273643 2344) (z0 P) P 186),
 (12,aG wS),
 (678,IK p P),
 (1470,D7 p P),
 (1472,D1 p P),
 (1473,Eh p P),
 (1482,aN (bM p 186) 35723009223291580013992830322 vN (vS 39284530605753516885976098930510437181803 2297) (vR 1481)),
 (1489,aN (bM p 187) 132233093836897110643008882 vN (vS 39284530605753516885976098930510437181803 2297) (vR 1488))]
noncomputable def tR:List (Addr×Nat):=[(1469,34521974176653585947335830062328298164308),(1481,35723009223291580013992830322),(1488,132233093836897110643008882)]
noncomputable def LS:aR:=⟨185,4,319,[0,2,3,4,12,13,677,678],[3,12,678],1457,2299,⟨900,0,900,8⟩,1490,2346,⟨932,0,932,8⟩,yH,tR⟩
noncomputable def On:OP (List (Addr×Obj)):=fun p P=>yH p P++Nq p P
noncomputable def E5 (P:Params):List DictEntry:=[ah P 1871219019757046817102 2370 (vR 1506),ah P 100739040160754297990305103 2385 (vR 1509),ah P 293220467022 2391 (vR 1510),ah P 8101822207717631346 2398 (vR 1517),ah P 140775800544183468716811634 2410 (vR 1524),ah P 39267292159978151380177554415012324402546 2419 (vR 1531)]
noncomputable def wv (P:Params):List DictEntry:=z0 P++E5 P
noncomputable def zb:List Value:=wS++[vI 933 0,vI 0 0,vR 1495,vI 940 0,vI 0 0,vR 1516,vI 946 0,vI 0 0,vR 1523,vI 965 0,vI 0 0,vR 1530]
noncomputable def Lw:OP Obj:=fun p P=>bh 435677128787 [an] [vR 285,an] 284 [vR 446,vR 465,vR 484,vR 503,vR 522,vR 541,vR 560,vR 579,vR 598,vR 617,vR 636,vR 1506] none 646 654 (aL)
noncomputable def DO:OP Obj:=fun p P=>bh 1871219019757046817102 [vR 285] [vR 1506,vR 285,an] 1505 [] (some (vR 1490)) 2346 2354 (aL)
noncomputable def DH:OP Obj:=fun p P=>b9 P 2 2353 659086021142030081268270140598760674578402273643 2344 2357 933 2356 (ah P 1954047348 2366 (vR 1503)::dL P 2367 1504 2368 vN)
noncomputable def Dx:OP Obj:=fun p P=>aN (ck p 189 0) 2362298291965792598069792618668366 vN (vS 659086021142030081268270140598760674578402273643 2344) (vR 1502)
noncomputable def xe:OP (List (Addr×Obj)):=fun p P=>[(3,aX (vS 2361431423555018808985712325454187 2371) (wv P) P 192),
 (12,aG zb),
 (285,Lw p P),
 (1503,Dx p P),
 (1505,DH p P),
 (1506,DO p P),
 (1509,cO bG [vS 123 2373,vS 42 2374,vS 61 2375,vS 64 2376,vS 32770348699510116 2377,vS 427055215457 2378,vS 1870282279968085729646 2379,vS 111516500389741 2380,vS 119165519096935 2381,vS 1701869940 2382,vS 29537 2383,vS 128034844732777 2384]),
 (1510,cO bG [vS 7628140 2386,vS 1701869940 2387,vS 1870282268968674946665 2388,vS 8386654075301880417 2389,vS 28554735403623780 2390]),
 (1517,aN (bM p 193) 8101822207717631346 vN (vS 2361431423555018808985712325454187 2371) (vR 1516)),
 (1524,aN (bM p 194) 140775800544183468716811634 vN (vS 2361431423555018808985712325454187 2371) (vR 1523)),
 (1531,aN (bM p 195) 39267292159978151380177554415012324402546 vN (vS 2361431423555018808985712325454187 2371) (vR 1530))]
noncomputable def tH:List (Addr×Nat):=[(1502,2362298291965792598069792618668366),(1516,8101822207717631346),(1523,140775800544183468716811634),(1530,39267292159978151380177554415012324402546)]
noncomputable def LA:aR:=⟨189,7,386,[0,2,3,4,12,13,284,285],[3,12,285],1490,2346,⟨932,0,932,8⟩,1532,2420,⟨965,0,977,16⟩,xe,tH⟩
noncomputable def N8:OP (List (Addr×Obj)):=fun p P=>xe p P++On p P
noncomputable def Gs (P:Params):List DictEntry:=[ah P 134819964070228081889474560358980085106 2430 (vR 1538),ah P 545054189134945677506932 2437 (vR 1545),ah P 33544543527414262006463625317 2445 (vR 1552),ah P 140775800547275295414117746 2454 (vR 1559),ah P 35729072780115062052068879455 2458 (vS 4121833594767475418428665876056645653821259402220702925203232695589270643259311712193062433315643961721641910565303859202972934753 2457),ah P 544925065878074801876063 2467 (vR 1560),ah P 544943148383633043188831 2475 (vR 1561),ah P 2130123084385604430943 2488 (vR 1568),ah P 1870858745032837524575 2496 (vR 1575),ah P 1871002853623843613791 2503 (vR 1582),ah P 478775542081265825049695 2510 (vR 1589),ah P 140775800544183469035580511 2522 (vR 1596),ah P 35723009223291580014311599199 2532 (vR 1603),ah P 544943580716003131223135 2538 (vR 1608)]
noncomputable def yJ (P:Params):List DictEntry:=wv P++Gs P
noncomputable def w6:List Value:=zb++[vI 978 0,vI 0 0,vR 1537,vI 993 0,vI 0 0,vR 1544,vI 999 0,vI 0 0,vR 1551,vI 1008 0,vI 0 0,vR 1558,vI 1023 0,vI 0 0,vR 1574,vI 1025 0,vI 0 0,vR 1581,vI 1027 0,vI 0 0,vR 1588,vI 1029 0,vI 0 0,vR 1595,vI 1037 0,vI 0 0,vR 1602,vI 1043 0,vI 0 0,vR 1607]
noncomputable def wz:OP (List (Addr×Obj)):=fun p P=>[(3,aX (vS 3897150319185819831779905200492 2455) (yJ P) P 206),
 (12,aG w6),
 (1538,aN (bM p 196) 134819964070228081889474560358980085106 vN (vS 2361431423555018808985712325454187 2371) (vR 1537)),
 (1545,aN (bM p 197) 545054189134945677506932 vN (vS 2361431423555018808985712325454187 2371) (vR 1544)),
 (1552,aN (bM p 198) 33544543527414262006463625317 vN (vS 2361431423555018808985712325454187 2371) (vR 1551)),
 (1559,aN (bM p 199) 140775800547275295414117746 vN (vS 2361431423555018808985712325454187 2371) (vR 1558)),
 (1560,cO bG [vS 128034844732777 2459,vS 128034844735589 2460,vS 1836412517 2461,vS 500152823651 2462,vS 7496054 2463,vS 28265 2464,vS 32480047633037413 2465,vS 7824750 2466]),
 (1561,cO bG [vS 102 2468,vS 26223 2469,vS 1701869940 2470,vS 28554735403623780 2471,vS 29537 2472,vS 1836020326 2473,vS 24356 2474]),
 (1562,cO bG [vS 97 2476,vS 97 2477]),
 (1563,cO bG [vS 28265 2478,vS 28265 2479]),
 (1564,cO bG [vS 6434145 2480,vS 147676029218 2481]),
 (1565,cO bG [vS 0 2482,vS 8738 2483]),
 (1566,cO bG [vS 8763744881 2484,vS 2709290372804426965548636336418 2485]),
 (1567,cO bG [vS 7824750 2486,vS 7824750 2487]),
 (1568,cO bG [vR 1562,vR 1563,vR 1564,vR 1565,vR 1566,vR 1567]),
 (1575,aN (bM p 205) 1870858745032837524575 vN (vS 3897150319185819831779905200492 2455) (vR 1574)),
 (1582,aN (bM p 206) 1871002853623843613791 vN (vS 3897150319185819831779905200492 2455) (vR 1581)),
 (1589,aN (bM p 207) 478775542081265825049695 vN (vS 3897150319185819831779905200492 2455) (vR 1588)),
 (1596,aN (bM p 208) 140775800544183469035580511 vN (vS 3897150319185819831779905200492 2455) (vR 1595)),
 (1603,aN (bM p 209) 35723009223291580014311599199 vN (vS 3897150319185819831779905200492 2455) (vR 1602)),
 (1608,aN (bM p 210) 544943580716003131223135 vN (vS 3897150319185819831779905200492 2455) (vR 1607))]
noncomputable def sP:List (Addr×Nat):=[(1537,134819964070228081889474560358980085106),(1544,545054189134945677506932),(1551,33544543527414262006463625317),(1558,140775800547275295414117746),(1574,1870858745032837524575),(1581,1871002853623843613791),(1588,478775542081265825049695),(1595,140775800544183469035580511),(1602,35723009223291580014311599199),(1607,544943580716003131223135)]
noncomputable def Mi:aR:=⟨196,15,391,[3,4,12,13],[3,12],1532,2420,⟨965,0,977,16⟩,1609,2539,⟨1043,0,1048,27⟩,wz,sP⟩
noncomputable def Ph:OP (List (Addr×Obj)):=fun p P=>wz p P++N8 p P
noncomputable def Hm (P:Params):List DictEntry:=[ah P 8241998945461562463 2553 (vR 1615),ah P 2147709368251602529375 2567 (vR 1622),ah P 1870933039033526348895 2576 (vR 1629),ah P 121371689114842646142086239 2582 (vR 1634),ah P 31390219013085780148337339487 2590 (vR 1641),ah P 132233093836897110961777759 2598 (vR 1648),ah P 1888877928616923589727 2605 (vR 1655),ah P 1852920348065602301023 2612 (vR 1662),ah P 1999410601104221760607 2620 (vR 1669),ah P 2148497780760880704607 2632 (vR 1676),ah P 125040764888893876955343967 2641 (vR 1683),ah P 139547800431483698576190559 2654 (vR 1690)]
noncomputable def xM (P:Params):List DictEntry:=yJ P++Hm P
noncomputable def yW:List Value:=w6++[vI 1049 0,vI 0 0,vR 1614,vI 1063 0,vI 0 0,vR 1621,vI 1082 0,vI 0 0,vR 1628,vI 1087 0,vI 0 0,vR 1633,vI 1089 0,vI 0 0,vR 1640,vI 1092 0,vI 0 0,vR 1647,vI 1096 0,vI 0 0,vR 1654,vI 1098 0,vI 0 0,vR 1661,vI 1100 0,vI 0 0,vR 1668,vI 1104 0,vI 0 0,vR 1675,vI 1128 0,vI 0 0,vR 1682,vI 1141 0,vI 0 0,vR 1689]
noncomputable def wO:OP (List (Addr×Obj)):=fun p P=>[(3,aX (vS 3897150319185819831779905200492 2455) (xM P) P 218),
 (12,aG yW),
 (1615,aN (bM p 211) 8241998945461562463 vN (vS 3897150319185819831779905200492 2455) (vR 1614)),
 (1622,aN (bM p 212) 2147709368251602529375 vN (vS 3897150319185819831779905200492 2455) (vR 1621)),
 (1629,aN (bM p 213) 1870933039033526348895 vN (vS 3897150319185819831779905200492 2455) (vR 1628)),
 (1634,aN (bM p 214) 121371689114842646142086239 vN (vS 3897150319185819831779905200492 2455) (vR 1633)),
 (1641,aN (bM p 215) 31390219013085780148337339487 vN (vS 3897150319185819831779905200492 2455) (vR 1640)),
 (1648,aN (bM p 216) 132233093836897110961777759 vN (vS 3897150319185819831779905200492 2455) (vR 1647)),
 (1655,aN (bM p 217) 1888877928616923589727 vN (vS 3897150319185819831779905200492 2455) (vR 1654)),
 (1662,aN (bM p 218) 1852920348065602301023 vN (vS 3897150319185819831779905200492 2455) (vR 1661)),
 (1669,aN (bM p 219) 1999410601104221760607 vN (vS 3897150319185819831779905200492 2455) (vR 1668)),
 (1676,aN (bM p 220) 2148497780760880704607 vN (vS 3897150319185819831779905200492 2455) (vR 1675)),
 (1683,aN (bM p 221) 125040764888893876955343967 vN (vS 3897150319185819831779905200492 2455) (vR 1682)),
 (1690,aN (bM p 222) 139547800431483698576190559 vN (vS 3897150319185819831779905200492 2455) (vR 1689))]
noncomputable def sY:List (Addr×Nat):=[(1614,8241998945461562463),(1621,2147709368251602529375),(1628,1870933039033526348895),(1633,121371689114842646142086239),(1640,31390219013085780148337339487),(1647,132233093836897110961777759),(1654,1888877928616923589727),(1661,1852920348065602301023),(1668,1999410601104221760607),(1675,2148497780760880704607),(1682,125040764888893876955343967),(1689,139547800431483698576190559)]
noncomputable def Je:aR:=⟨211,12,379,[3,4,12,13],[3,12],1609,2539,⟨1043,0,1048,27⟩,1691,2655,⟨1141,0,1164,14⟩,wO,sY⟩
noncomputable def PK:OP (List (Addr×Obj)):=fun p P=>wO p P++Ph p P
noncomputable def Gw (P:Params):List DictEntry:=[ah P 35730281557210328165169327199 2664 (vR 1697),ah P 1851692548719632280671 2675 (vR 1704),ah P 2129763916817763495007 2684 (vR 1711),ah P 7823724 2690 (vR 1716)]
noncomputable def FH (P:Params):List DictEntry:=xM P++Gw P
noncomputable def Fd:List Value:=yW++[vI 1165 0,vI 0 0,vR 1696,vI 1172 0,vI 0 0,vR 1703,vI 1185 0,vI 0 0,vR 1710,vI 1194 0,vI 0 0,vR 1715]
noncomputable def xK:OP (List (Addr×Obj)):=fun p P=>[(3,aX (vS 3897150319185819831779905200492 2455) (FH P) P 222),
 (12,aG Fd),
 (1697,aN (bM p 223) 35730281557210328165169327199 vN (vS 3897150319185819831779905200492 2455) (vR 1696)),
 (1704,aN (bM p 224) 1851692548719632280671 vN (vS 3897150319185819831779905200492 2455) (vR 1703)),
 (1711,aN (bM p 225) 2129763916817763495007 vN (vS 3897150319185819831779905200492 2455) (vR 1710)),
 (1716,aN (bM p 226) 7823724 vN (vS 3897150319185819831779905200492 2455) (vR 1715))]
noncomputable def tA:List (Addr×Nat):=[(1696,35730281557210328165169327199),(1703,1851692548719632280671),(1710,2129763916817763495007),(1715,7823724)]
noncomputable def qY:aR:=⟨223,4,123,[3,4,12,13],[3,12],1691,2655,⟨1141,0,1164,14⟩,1717,2691,⟨1194,0,1215,55⟩,xK,tA⟩
noncomputable def pu:OP (List (Addr×Obj)):=fun p P=>xK p P++PK p P
end
end
end Mine
name_quick mineGoodW for Mine.aP by Mine.uq
namespace Mine
open PySem PySem.W
theorem g0 (w:World):aP PySem.Challenge.pw_qd0100_01 P6 K0 w:=by rw[PySem.W.Fast.mineGoodW_eq];intro os;kernel_rfl
theorem g1 (w:World):aP PySem.Challenge.pw_qd0100_01 PZ K1 w:=by rw[PySem.W.Fast.mineGoodW_eq];intro os;kernel_rfl
theorem g2 (w:World):aP PySem.Challenge.pw_qd0100_01 Qr K2 w:=by rw[PySem.W.Fast.mineGoodW_eq];intro os;kernel_rfl
theorem g3 (w:World):aP PySem.Challenge.pw_qd0100_01 Qb K3 w:=by rw[PySem.W.Fast.mineGoodW_eq];intro os;kernel_rfl
theorem g4 (w:World):aP PySem.Challenge.pw_qd0100_01 Qz K4 w:=by rw[PySem.W.Fast.mineGoodW_eq];intro os;kernel_rfl
theorem g5 (w:World):aP PySem.Challenge.pw_qd0100_01 Qo K5 w:=by rw[PySem.W.Fast.mineGoodW_eq];intro os;kernel_rfl
theorem g6 (w:World):aP PySem.Challenge.pw_qd0100_01 Qa K6 w:=by rw[PySem.W.Fast.mineGoodW_eq];intro os;kernel_rfl
theorem g7 (w:World):aP PySem.Challenge.pw_qd0100_01 ID K7 w:=byRow2 "special-get-raises" (P:=fun w=>aP PySem.Challenge.pw_qd0100_01 ID K7 w)
 (fun w=>by show aP PySem.Challenge.pw_qd0100_01 ID K7 (w.withFollow "special-get-raises" false);rw[PySem.W.Fast.mineGoodW_eq];intro os;kernel_rfl)
 (fun w=>by show aP PySem.Challenge.pw_qd0100_01 ID K7 (w.withFollow "special-get-raises" true);rw[PySem.W.Fast.mineGoodW_eq];intro os;kernel_rfl) w
theorem g8 (w:World):aP PySem.Challenge.pw_qd0100_01 Qn K8 w:=by rw[PySem.W.Fast.mineGoodW_eq];intro os;kernel_rfl
theorem g9 (w:World):aP PySem.Challenge.pw_qd0100_01 Qc K9 w:=by rw[PySem.W.Fast.mineGoodW_eq];intro os;kernel_rfl
theorem QJ (w:World):aP PySem.Challenge.pw_qd0100_01 HZ Ov w:=by rw[PySem.W.Fast.mineGoodW_eq];intro os;kernel_rfl
theorem RN (w:World):aP PySem.Challenge.pw_qd0100_01 Mn Ps w:=by rw[PySem.W.Fast.mineGoodW_eq];intro os;kernel_rfl
theorem QQ (w:World):aP PySem.Challenge.pw_qd0100_01 Lf Os w:=by rw[PySem.W.Fast.mineGoodW_eq];intro os;kernel_rfl
theorem Rl (w:World):aP PySem.Challenge.pw_qd0100_01 LQ Py w:=by rw[PySem.W.Fast.mineGoodW_eq];intro os;kernel_rfl
theorem Q2 (w:World):aP PySem.Challenge.pw_qd0100_01 MF Nr w:=by rw[PySem.W.Fast.mineGoodW_eq];intro os;kernel_rfl
theorem Rs (w:World):aP PySem.Challenge.pw_qd0100_01 IN Pk w:=by rw[PySem.W.Fast.mineGoodW_eq];intro os;kernel_rfl
theorem RH (w:World):aP PySem.Challenge.pw_qd0100_01 LE OR w:=by rw[PySem.W.Fast.mineGoodW_eq];intro os;kernel_rfl
theorem Rr (w:World):aP PySem.Challenge.pw_qd0100_01 JS PG w:=by rw[PySem.W.Fast.mineGoodW_eq];intro os;kernel_rfl
theorem RJ (w:World):aP PySem.Challenge.pw_qd0100_01 JL O5 w:=by rw[PySem.W.Fast.mineGoodW_eq];intro os;kernel_rfl
theorem QH (w:World):aP PySem.Challenge.pw_qd0100_01 IZ NZ w:=by rw[PySem.W.Fast.mineGoodW_eq];intro os;kernel_rfl
theorem RC (w:World):aP PySem.Challenge.pw_qd0100_01 Kf Ow w:=by rw[PySem.W.Fast.mineGoodW_eq];intro os;kernel_rfl
theorem QT (w:World):aP PySem.Challenge.pw_qd0100_01 MU OA w:=by rw[PySem.W.Fast.mineGoodW_eq];intro os;kernel_rfl
theorem Ru (w:World):aP PySem.Challenge.pw_qd0100_01 MV Nu w:=by rw[PySem.W.Fast.mineGoodW_eq];intro os;kernel_rfl
theorem Q9 (w:World):aP PySem.Challenge.pw_qd0100_01 I8 O1 w:=by rw[PySem.W.Fast.mineGoodW_eq];intro os;kernel_rfl
theorem QD (w:World):aP PySem.Challenge.pw_qd0100_01 KG OI w:=by rw[PySem.W.Fast.mineGoodW_eq];intro os;kernel_rfl
theorem QF (w:World):aP PySem.Challenge.pw_qd0100_01 JP Pl w:=by rw[PySem.W.Fast.mineGoodW_eq];intro os;kernel_rfl
theorem RT (w:World):aP PySem.Challenge.pw_qd0100_01 Lm Oi w:=by rw[PySem.W.Fast.mineGoodW_eq];intro os;kernel_rfl
theorem QV (w:World):aP PySem.Challenge.pw_qd0100_01 Kk NB w:=by rw[PySem.W.Fast.mineGoodW_eq];intro os;kernel_rfl
theorem RB (w:World):aP PySem.Challenge.pw_qd0100_01 IP Pm w:=by rw[PySem.W.Fast.mineGoodW_eq];intro os;kernel_rfl
theorem Q5 (w:World):aP PySem.Challenge.pw_qd0100_01 Iu NH w:=by rw[PySem.W.Fast.mineGoodW_eq];intro os;kernel_rfl
theorem RO (w:World):aP PySem.Challenge.pw_qd0100_01 II Nw w:=by rw[PySem.W.Fast.mineGoodW_eq];intro os;kernel_rfl
theorem RA (w:World):aP PySem.Challenge.pw_qd0100_01 MH NJ w:=by rw[PySem.W.Fast.mineGoodW_eq];intro os;kernel_rfl
theorem Rg (w:World):aP PySem.Challenge.pw_qd0100_01 IX NN w:=by rw[PySem.W.Fast.mineGoodW_eq];intro os;kernel_rfl
theorem QX (w:World):aP PySem.Challenge.pw_qd0100_01 L2 Np w:=by rw[PySem.W.Fast.mineGoodW_eq];intro os;kernel_rfl
theorem Q7 (w:World):aP PySem.Challenge.pw_qd0100_01 Li Pt w:=by rw[PySem.W.Fast.mineGoodW_eq];intro os;kernel_rfl
theorem Rq (w:World):aP PySem.Challenge.pw_qd0100_01 IG Px w:=by rw[PySem.W.Fast.mineGoodW_eq];intro os;kernel_rfl
theorem RG (w:World):aP PySem.Challenge.pw_qd0100_01 LF NL w:=by rw[PySem.W.Fast.mineGoodW_eq];intro os;kernel_rfl
theorem RF (w:World):aP PySem.Challenge.pw_qd0100_01 Jt Ni w:=by rw[PySem.W.Fast.mineGoodW_eq];intro os;kernel_rfl
theorem Rt (w:World):aP PySem.Challenge.pw_qd0100_01 LU Pi w:=by rw[PySem.W.Fast.mineGoodW_eq];intro os;kernel_rfl
theorem QS (w:World):aP PySem.Challenge.pw_qd0100_01 J9 N5 w:=by rw[PySem.W.Fast.mineGoodW_eq];intro os;kernel_rfl
theorem Q4 (w:World):aP PySem.Challenge.pw_qd0100_01 MJ OH w:=by rw[PySem.W.Fast.mineGoodW_eq];intro os;kernel_rfl
theorem Q8 (w:World):aP PySem.Challenge.pw_qd0100_01 LS Nq w:=by rw[PySem.W.Fast.mineGoodW_eq];intro os;kernel_rfl
theorem RE (w:World):aP PySem.Challenge.pw_qd0100_01 LA On w:=by rw[PySem.W.Fast.mineGoodW_eq];intro os;kernel_rfl
theorem QL (w:World):aP PySem.Challenge.pw_qd0100_01 Mi N8 w:=by rw[PySem.W.Fast.mineGoodW_eq];intro os;kernel_rfl
theorem Rp (w:World):aP PySem.Challenge.pw_qd0100_01 Je Ph w:=by rw[PySem.W.Fast.mineGoodW_eq];intro os;kernel_rfl
theorem QR (w:World):aP PySem.Challenge.pw_qd0100_01 qY PK w:=by rw[PySem.W.Fast.mineGoodW_eq];intro os;kernel_rfl
end Mine
namespace Mine
open PySem PySem.W PySem.Calls PyProof.Rows
theorem jV:∀(f n i:Nat) (o:Obj),(eZ f n).get i=some o→alive o=none
 |0,_,_,_,h=>by simp [eZ,BT.get] at h
 |f+1,0,_,_,h=>by simp [eZ,BT.get] at h
 |f+1,m+1,i,o,h=>by
  have e:eZ (f+1) (m+1)=.node xl (eZ f ((m+1) / 2)) (eZ f (m / 2)):=rfl
  rw[e,BT.get_node] at h
  by_cases h0:i=0
  ·rw[if_pos h0] at h;cases h;rfl
  ·rw[if_neg h0] at h
   by_cases h1:i % 2=1
   ·rw[if_pos h1] at h;exact jV f _ _ o h
   ·rw[if_neg h1] at h;exact jV f _ _ o h
def re (T:BT) (h:Heap):Prop:=∀a o o',T.get a=some o→alive o=some o'→h.get? a=some o'
theorem nq {K:List (Addr×Obj)} {h:Heap} (X:∀a o,lk K a=some o→h.get? a=some o):∀(l:List Nat) (T:BT),re T h→re (Jd K l T) h
 |[],_,H=>H
 |a::r,T,H=>by
  unfold Jd
  cases e:lk K a with
  |none=>intro b o o' g;simp [BT.get] at g
  |some o=>
   dsimp only
   cases q:(T.ins a o).get a with
   |none=>intro b x x' g;simp [BT.get] at g
   |some y=>
    refine nq X r _ fun b x x' g al=>?_
    rw[BT.get_ins o T a (by rw[q];rfl)] at g
    by_cases hb:b=a
    ·rw[if_pos hb] at g;cases g
     obtain⟨rfl,_⟩:=fL al
     rw[hb];exact X a _ e
    ·rw[if_neg hb] at g;exact H b x x' g al
theorem ux (A B:List (Addr×Obj)) (a:Nat):lk (A++B) a=match lk A a with|some o=>some o|none=>lk B a:=by
 induction A with
 |nil=>rfl
 |cons p r ih=>
  show(match Nat.beq p.1 a with|true=>some p.2|false=>lk (r++B) a)=_
  show _=(match (match Nat.beq p.1 a with|true=>some p.2|false=>lk r a) with|some o=>some o|none=>lk B a)
  cases Nat.beq p.1 a with
  |true=>rfl
  |false=>exact ih
theorem wR {a:Nat} {o:Obj}:∀{A:List (Addr×Obj)},lk A a=some o→(a,o)∈A
 |p::r,h=>by
  have h:(match Nat.beq p.1 a with|true=>some p.2|false=>lk r a)=some o:=h
  cases e:Nat.beq p.1 a with
  |true=>rw[e] at h;cases h;rw[← Nat.eq_of_beq_eq_true e];exact .head _
  |false=>rw[e] at h;exact .tail _ (wR h)
theorem nx {T:BT}:∀{l:List (Addr×Obj)},rP T l=xF l→∀x∈l,T.get x.1=some x.2
 |[],_,_,h=>(by first|exact nn h|exact nn h.symm|exact ff h|exact absurd h List.not_mem_nil|cases h)
 |p::r,e,x,h=>by
  obtain⟨e1,e2⟩:=List.cons.inj e
  rcases List.mem_cons.mp h with rfl|h
  ·exact e1
  ·exact nx e2 x h
theorem tX {T:BT}:∀{l:List (Addr×Nat)},GE T l=yf l→∀x∈l,∃o,T.get x.1=some o∧ml o=some (iW x.2)
 |[],_,_,h=>(by first|exact nn h|exact nn h.symm|exact ff h|exact absurd h List.not_mem_nil|cases h)
 |p::r,e,x,h=>by
  obtain⟨e1,e2⟩:=List.cons.inj e
  rcases List.mem_cons.mp h with rfl|h
  ·cases q:T.get x.1 with
   |none=>rw[q] at e1;cases e1
   |some o=>rw[q] at e1;exact⟨o,rfl,e1⟩
  ·exact tX e2 x h
theorem CN {vs:List Value} {l:List Nat} (q:(match vs with|_::.str q _::_=>some q.cps.toList|_=>none)=some l):∃v x t r,vs=v::.str x t::r∧x.cps.toList=l:=by
 cases vs with
 |nil=>exact nn q
 |cons v r=>cases r with
  |nil=>exact nn q
  |cons y r=>cases y with
   |str x t=>exact⟨v,x,t,r,rfl,Option.some.inj q⟩
   |_=>exact nn q
theorem kL {h:Heap} {T:BT} {a:Addr} {o:Obj} {l:List Nat} (S:re T h) (e:T.get a=some o) (q:ml o=some l):h.CodeRec (.ref a) ⟨⟨l⟩⟩:=by
 obtain⟨c,d,dt,sl⟩:=o
 cases dt with
 |fields vs=>
  obtain⟨vs⟩:=vs
  obtain⟨v,x,t,r,rfl,rfl⟩:=CN q
  exact⟨a,_,_,t,rfl,S a _ _ e rfl,rfl,rfl⟩
 |_=>exact nn q
structure At (p:Program) (w:World) (os:OsState) (i n toks:Nat) (pos:Pos) (K:List (Addr×Obj)) (C:List (Addr×Nat)) (h:Heap):Prop where
 size:h.objs.size=n
 at_:∀a o,lk K a=some o→h.get? a=some o
 life:h.life=(boot_heap w.params).life
 codes:∀x∈C,h.CodeRec (.ref x.1) ⟨⟨iW x.2⟩⟩
 reach:∀N r,topRun treeTable p w 11 vc N ⟨h,⟨[]⟩,boot_drawn,toks,os⟩ (restOf ((gF p).drop i) (Cn p) (Gl p) pos [topFrame q0])=some r→
  ∃M,topRun treeTable p w 11 vc M ⟨boot_heap w.params,⟨[]⟩,boot_drawn,boot_toks,os⟩ (topStub p)=some r
noncomputable def s9 (p:Program) (P:Params) (x:aR) (C:List (Addr×Nat)):Bool:=
 (x.U.all fun a=>(lk (x.outs p P) a).isSome)&&(C.all fun y=>!x.U.any (Nat.beq y.1))&&(x.outs p P).all fun y=>!y.2.isFreed
theorem HF (a b:Nat):Nat.beq a b=Nat.beq b a:=by
 rw[BT.beq_eq,BT.beq_eq];by_cases h:a=b
 ·subst h;rfl
 ·rw[decide_eq_false h,decide_eq_false (Ne.symm h)]
theorem vP {o:Obj} (h:o.isFreed=false):alive o=some o:=by
 obtain⟨c,d,dt,sl⟩:=o
 cases dt<;>first|rfl|cases h
theorem oV {h h':Heap} {cd:Value} {q:Str} (x:h.CodeRec cd q) (k:∀c,cd=.ref c→h'.get? c=h.get? c):h'.CodeRec cd q:=
 by obtain⟨c,o,vs,t,e1,e2,e3,e4⟩:=x;exact⟨c,o,vs,t,e1,(k c e1).trans e2,e3,e4⟩
set_option tactic.hygienic true in
theorem At.step {p:Program} {w:World} {os:OsState} {x:aR} {K:Program→Params→List (Addr×Obj)} {C:List (Addr×Nat)} {h:Heap} (A:At p w os x.i x.n x.toks x.pos (K p w.params) C h)
  (g:aP p x K w) (ok:s9 p w.params x C=true):∃h',At p w os (x.i+x.c) x.n' x.toks' x.pos' (x.outs p w.params++K p w.params) (x.codes++C) h':=by
 have g':=g os
 cases e:DA p x K w os with
 |none=>rw[e] at g';exact nn g'
 |some r=>
  obtain⟨f,s',c,q⟩:=r
  rw[e] at g'
  cases f with
  |next=>
   obtain⟨ga,gb⟩:=Prod.mk.inj (Option.some.inj g')
   obtain⟨g1,ga⟩:=Prod.mk.inj ga
   obtain⟨g2,g3⟩:=Prod.mk.inj ga
   obtain⟨gb,gc⟩:=Prod.mk.inj gb
   obtain⟨g4,gb⟩:=Prod.mk.inj gb
   obtain⟨g5,gb⟩:=Prod.mk.inj gb
   obtain⟨g6,g7⟩:=Prod.mk.inj gb
   obtain⟨g8,g9⟩:=Prod.mk.inj gc
   obtain⟨ok,o3⟩:=Bool.and_eq_true_iff.mp ok
   obtain⟨o1,o2⟩:=Bool.and_eq_true_iff.mp ok
   have o1:=List.all_eq_true.mp o1
   have o2:=List.all_eq_true.mp o2
   have o3:=List.all_eq_true.mp o3
   have S:Sub (Jd (K p w.params) x.need (eZ (nat_lit 12) x.n)) x.n h:=⟨A.size,nq A.at_ _ _ fun a o o' ga al=>by rw[jV _ _ _ _ ga] at al;cases al⟩
   obtain⟨h',r1,r2,r3,r4⟩:=r7 (tb:=treeTable) (p:=p) (w:=w) (st:=⟨_,_,_,_,_,_,_⟩) e S (Nat.le_refl _)
   unfold sh at r1
   rw[g4,g5,g2,g6,g7,g3] at r1
   have same:∀a,lk (x.outs p w.params) a=none→(h.get? a).isSome=true→h'.get? a=h.get? a:=fun a ha hs=>by
    refine r4 a ?_ ?_
    ·obtain⟨o,ho⟩:=Option.isSome_iff_exists.mp hs
     have:=Heap.lt_size ho
     rw[A.size] at this;exact this
    ·cases q:x.U.any (Nat.beq a) with
     |false=>rfl
     |true=>
      obtain⟨b,hb,hab⟩:=List.any_eq_true.mp q
      have:=o1 b hb
      rw[← Nat.eq_of_beq_eq_true hab,ha] at this
      cases this
   refine⟨h',?_,fun a o ho=>?_,r3.trans A.life,fun y hy=>?_,fun N r hr=>?_⟩
   ·rw[r2.size,g1]
   ·rw[ux] at ho
    cases q:lk (x.outs p w.params) a with
    |some o'=>
     rw[q] at ho
     cases ho
     have hm:=wR q
     have hg:=nx g8 _ hm
     exact r2.at_ a _ _ hg (vP ((Bool.not_eq_true' _).mp (o3 _ hm)))
    |none=>
     rw[q] at ho
     have:=A.at_ a o ho
     rw[same a q (by rw[this];rfl)];exact this
   ·rcases List.mem_append.mp hy with hy|hy
    ·obtain⟨o,h1,h2⟩:=tX g9 y hy
     exact kL r2.at_ h1 h2
    ·refine oV (A.codes y hy) fun c hc=>?_
     injection hc with hc
     subst hc
     obtain⟨c',o,vs,t,e1,e2,_⟩:=A.codes y hy
     injection e1 with e1
     subst e1
     refine r4 y.1 ?_ ?_
     ·have:=Heap.lt_size e2
      rw[A.size] at this;exact this
     ·exact(Bool.not_eq_true' _).mp (o2 y hy)
   ·refine A.reach (x.N+N) r ?_
    have:=piece_app r1 hr
    have e2:List.take x.c (List.drop x.i (gF p))++List.drop (x.i+x.c) (gF p)=List.drop x.i (gF p):=by
     rw[← List.drop_drop,List.take_append_drop]
    rw[e2] at this
    exact this
  |brk=>exact nn g'
  |cont=>exact nn g'
  |ret v=>exact nn g'
theorem At.end_ {p:Program} {w:World} {os:OsState} {i n toks:Nat} {pos:Pos} {K:List (Addr×Obj)} {C:List (Addr×Nat)} {h:Heap} (A:At p w os i n toks pos K C h) (hi:(gF p).drop i=[]):
  ∃M,topRun treeTable p w 11 vc M ⟨boot_heap w.params,⟨[]⟩,boot_drawn,boot_toks,os⟩ (topStub p)=some ⟨h,⟨[]⟩,boot_drawn,toks,os⟩:=by
 refine A.reach 2 _ ?_
 rw[hi]
 exact piece_nil rfl
abbrev P0:Program:=PySem.Challenge.pw_qd0100_01
noncomputable def lE (p:Program) (P:Params):Heap:=((fi p P).drop 11).foldl Heap.push (boot_heap P)
theorem A5 (w:World) (os:OsState):topGo treeTable P0 w (nat_lit 11) vc (nat_lit 12) ⟨boot_heap w.params,⟨[]⟩,boot_drawn,boot_toks,os⟩ (topStub P0)=
  some (⟨lE P0 w.params,⟨[]⟩,boot_drawn,nat_lit 187,os⟩,⟨denote treeTable (Gl P0),Gl P0,q0,[topFrame q0]⟩):=by kernel_rfl
theorem vn (w:World) (os:OsState) (h:Heap):segRun treeTable P0 w (nat_lit 11) vc (nat_lit 1) (nat_lit 1) ⟨h,⟨[]⟩,boot_drawn,nat_lit 187,os⟩ (blockOf (gF P0) (Cn P0) (Gl P0) q0 [topFrame q0])=
  some (.next,⟨h,⟨[]⟩,boot_drawn,nat_lit 187,os⟩,Gl P0,q0):=by kernel_rfl
theorem lr (P:Params):(lE P0 P).objs.toList=fi P0 P:=by kernel_rfl
theorem pX (P:Params):((fi P0 P).all fun o=>!o.isFreed)=true:=by kernel_rfl
theorem rC (P:Params):(lE P0 P).life=(boot_heap P).life:=by kernel_rfl
theorem u8 (P:Params):(fi P0 P).length=nat_lit 15:=by kernel_rfl
theorem j6:∀(l:List Obj) (n a:Nat) (o:Obj),lk (jf n l) a=some o→∃i,a=n+i∧l[i]?=some o
 |[],_,_,_,h=>by cases h
 |x::r,n,a,o,h=>by
  have h:(match Nat.beq n a with|true=>some x|false=>lk (jf (Nat.succ n) r) a)=some o:=h
  cases e:Nat.beq n a with
  |true=>rw[e] at h;cases h;exact⟨0,(Nat.eq_of_beq_eq_true e).symm,rfl⟩
  |false=>
   rw[e] at h
   obtain⟨i,h1,h2⟩:=j6 r _ a o h
   exact⟨i+1,h1.trans (Nat.succ_add_eq_add_succ ..),h2⟩
theorem ki {h:Heap} {a:Nat} {o:Obj} (e:h.objs.toList[a]?=some o) (hf:o.isFreed=false):h.get? a=some o:=
 Heap.get?_some_iff.mpr ⟨by rw[← Array.getElem?_toList];exact e,hf⟩
theorem xg (P:Params) (a:Nat) (o:Obj) (h:lk (K0 P0 P) a=some o):(lE P0 P).get? a=some o:=by
 obtain⟨i,h1,h2⟩:=j6 _ _ _ _ h
 have e:a=i:=by simpa using h1
 subst e
 refine ki (by rw[lr];exact h2) ?_
 have:=List.all_eq_true.mp (pX P) o (List.mem_of_getElem? h2)
 simpa using this
theorem zW (w:World) (os:OsState):At P0 w os (nat_lit 0) (nat_lit 15) (nat_lit 187) q0 (K0 P0 w.params) [] (lE P0 w.params) where
 size:=by rw[← Array.length_toList,lr,u8]
 at_:=xg w.params
 life:=rC w.params
 codes:=fun ξ h=>(by first|exact nn h|exact nn h.symm|exact ff h|exact absurd h List.not_mem_nil|cases h)
 reach:=fun N r hr=>⟨_,go_top (A5 w os) (piece_block (vn w os _) (by simpa using hr))⟩
end Mine
namespace Mine
open PySem PySem.W
abbrev ei (w:World) (os:OsState) (x:aR) (K:Program→Params→List (Addr×Obj)) (C:List (Addr×Nat)):Prop:=∃h,At P0 w os x.i x.n x.toks x.pos (K P0 w.params) C h
theorem ei.go {w:World} {os:OsState} {x:aR} {K:Program→Params→List (Addr×Obj)} {C:List (Addr×Nat)} (H:ei w os x K C) (g:aP P0 x K w) (ok:s9 P0 w.params x C=true):
  ∃h',At P0 w os (x.i+x.c) x.n' x.toks' x.pos' (x.outs P0 w.params++K P0 w.params) (x.codes++C) h':=H.elim fun ξ A=>A.step g ok
noncomputable def Qx:List (Addr×Nat):=[]
theorem Re (w:World) (os:OsState):ei w os P6 K0 Qx:=⟨_,zW w os⟩
noncomputable def Qj:List (Addr×Nat):=wu++Qx
theorem QW (w:World) (os:OsState):ei w os PZ K1 Qj:=(Re w os).go (g0 w) (by kernel_rfl)
noncomputable def PX:List (Addr×Nat):=v3++Qj
theorem RS (w:World) (os:OsState):ei w os Qr K2 PX:=(QW w os).go (g1 w) (by kernel_rfl)
noncomputable def Qw:List (Addr×Nat):=vJ++PX
theorem Ry (w:World) (os:OsState):ei w os Qb K3 Qw:=(RS w os).go (g2 w) (by kernel_rfl)
noncomputable def P3:List (Addr×Nat):=wC++Qw
theorem RQ (w:World) (os:OsState):ei w os Qz K4 P3:=(Ry w os).go (g3 w) (by kernel_rfl)
noncomputable def Qs:List (Addr×Nat):=z8++P3
theorem Q1 (w:World) (os:OsState):ei w os Qo K5 Qs:=(RQ w os).go (g4 w) (by kernel_rfl)
noncomputable def QC:List (Addr×Nat):=y4++Qs
theorem Rx (w:World) (os:OsState):ei w os Qa K6 QC:=(Q1 w os).go (g5 w) (by kernel_rfl)
noncomputable def Qf:List (Addr×Nat):=zu++QC
theorem Ri (w:World) (os:OsState):ei w os ID K7 Qf:=(Rx w os).go (g6 w) (by kernel_rfl)
noncomputable def Qi:List (Addr×Nat):=zv++Qf
theorem RK (w:World) (os:OsState):ei w os Qn K8 Qi:=(Ri w os).go (g7 w) (by kernel_rfl)
noncomputable def Qt:List (Addr×Nat):=wM++Qi
theorem QY (w:World) (os:OsState):ei w os Qc K9 Qt:=(RK w os).go (g8 w) (by kernel_rfl)
noncomputable def JU:List (Addr×Nat):=wB++Qt
theorem Pq (w:World) (os:OsState):ei w os HZ Ov JU:=(QY w os).go (g9 w) (by kernel_rfl)
noncomputable def JZ:List (Addr×Nat):=s8++JU
theorem Ox (w:World) (os:OsState):ei w os Mn Ps JZ:=(Pq w os).go (QJ w) (by kernel_rfl)
noncomputable def KP:List (Addr×Nat):=tY++JZ
theorem Pb (w:World) (os:OsState):ei w os Lf Os KP:=(Ox w os).go (RN w) (by kernel_rfl)
noncomputable def KV:List (Addr×Nat):=tS++KP
theorem NG (w:World) (os:OsState):ei w os LQ Py KV:=(Pb w os).go (QQ w) (by kernel_rfl)
noncomputable def JN:List (Addr×Nat):=ub++KV
theorem NK (w:World) (os:OsState):ei w os MF Nr JN:=(NG w os).go (Rl w) (by kernel_rfl)
noncomputable def Lg:List (Addr×Nat):=s5++JN
theorem Pz (w:World) (os:OsState):ei w os IN Pk Lg:=(NK w os).go (Q2 w) (by kernel_rfl)
noncomputable def Mo:List (Addr×Nat):=sb++Lg
theorem NU (w:World) (os:OsState):ei w os LE OR Mo:=(Pz w os).go (Rs w) (by kernel_rfl)
noncomputable def Ly:List (Addr×Nat):=t6++Mo
theorem Oa (w:World) (os:OsState):ei w os JS PG Ly:=(NU w os).go (RH w) (by kernel_rfl)
noncomputable def I2:List (Addr×Nat):=tM++Ly
theorem O3 (w:World) (os:OsState):ei w os JL O5 I2:=(Oa w os).go (Rr w) (by kernel_rfl)
noncomputable def LT:List (Addr×Nat):=tU++I2
theorem OY (w:World) (os:OsState):ei w os IZ NZ LT:=(O3 w os).go (RJ w) (by kernel_rfl)
noncomputable def Kr:List (Addr×Nat):=t5++LT
theorem O4 (w:World) (os:OsState):ei w os Kf Ow Kr:=(OY w os).go (QH w) (by kernel_rfl)
noncomputable def H5:List (Addr×Nat):=sC++Kr
theorem Oh (w:World) (os:OsState):ei w os MU OA H5:=(O4 w os).go (RC w) (by kernel_rfl)
noncomputable def IS:List (Addr×Nat):=sG++H5
theorem ND (w:World) (os:OsState):ei w os MV Nu IS:=(Oh w os).go (QT w) (by kernel_rfl)
noncomputable def KI:List (Addr×Nat):=sB++IS
theorem Nd (w:World) (os:OsState):ei w os I8 O1 KI:=(ND w os).go (Ru w) (by kernel_rfl)
noncomputable def Ib:List (Addr×Nat):=se++KI
theorem PM (w:World) (os:OsState):ei w os KG OI Ib:=(Nd w os).go (Q9 w) (by kernel_rfl)
noncomputable def Lz:List (Addr×Nat):=tI++Ib
theorem Pj (w:World) (os:OsState):ei w os JP Pl Lz:=(PM w os).go (QD w) (by kernel_rfl)
noncomputable def MW:List (Addr×Nat):=sE++Lz
theorem PF (w:World) (os:OsState):ei w os Lm Oi MW:=(Pj w os).go (QF w) (by kernel_rfl)
noncomputable def Lh:List (Addr×Nat):=ti++MW
theorem PP (w:World) (os:OsState):ei w os Kk NB Lh:=(PF w os).go (RT w) (by kernel_rfl)
noncomputable def ME:List (Addr×Nat):=s3++Lh
theorem OG (w:World) (os:OsState):ei w os IP Pm ME:=(PP w os).go (QV w) (by kernel_rfl)
noncomputable def IM:List (Addr×Nat):=sO++ME
theorem Oc (w:World) (os:OsState):ei w os Iu NH IM:=(OG w os).go (RB w) (by kernel_rfl)
noncomputable def Lj:List (Addr×Nat):=tN++IM
theorem OW (w:World) (os:OsState):ei w os II Nw Lj:=(Oc w os).go (Q5 w) (by kernel_rfl)
noncomputable def I4:List (Addr×Nat):=sf++Lj
theorem Pe (w:World) (os:OsState):ei w os MH NJ I4:=(OW w os).go (RO w) (by kernel_rfl)
noncomputable def J3:List (Addr×Nat):=tu++I4
theorem OJ (w:World) (os:OsState):ei w os IX NN J3:=(Pe w os).go (RA w) (by kernel_rfl)
noncomputable def Io:List (Addr×Nat):=tr++J3
theorem Pr (w:World) (os:OsState):ei w os L2 Np Io:=(OJ w os).go (Rg w) (by kernel_rfl)
noncomputable def JT:List (Addr×Nat):=tV++Io
theorem O2 (w:World) (os:OsState):ei w os Li Pt JT:=(Pr w os).go (QX w) (by kernel_rfl)
noncomputable def HJ:List (Addr×Nat):=sw++JT
theorem Ou (w:World) (os:OsState):ei w os IG Px HJ:=(O2 w os).go (Q7 w) (by kernel_rfl)
noncomputable def MB:List (Addr×Nat):=tP++HJ
theorem Ok (w:World) (os:OsState):ei w os LF NL MB:=(Ou w os).go (Rq w) (by kernel_rfl)
noncomputable def Ig:List (Addr×Nat):=tq++MB
theorem Pa (w:World) (os:OsState):ei w os Jt Ni Ig:=(Ok w os).go (RG w) (by kernel_rfl)
noncomputable def H9:List (Addr×Nat):=sA++Ig
theorem O6 (w:World) (os:OsState):ei w os LU Pi H9:=(Pa w os).go (RF w) (by kernel_rfl)
noncomputable def MC:List (Addr×Nat):=su++H9
theorem OF (w:World) (os:OsState):ei w os J9 N5 MC:=(O6 w os).go (Rt w) (by kernel_rfl)
noncomputable def LR:List (Addr×Nat):=tp++MC
theorem OM (w:World) (os:OsState):ei w os MJ OH LR:=(OF w os).go (QS w) (by kernel_rfl)
noncomputable def Mg:List (Addr×Nat):=tc++LR
theorem OD (w:World) (os:OsState):ei w os LS Nq Mg:=(OM w os).go (Q4 w) (by kernel_rfl)
noncomputable def J7:List (Addr×Nat):=tR++Mg
theorem N9 (w:World) (os:OsState):ei w os LA On J7:=(OD w os).go (Q8 w) (by kernel_rfl)
noncomputable def LH:List (Addr×Nat):=tH++J7
theorem NO (w:World) (os:OsState):ei w os Mi N8 LH:=(N9 w os).go (RE w) (by kernel_rfl)
noncomputable def Ls:List (Addr×Nat):=sP++LH
theorem Pu (w:World) (os:OsState):ei w os Je Ph Ls:=(NO w os).go (QL w) (by kernel_rfl)
noncomputable def Mh:List (Addr×Nat):=sY++Ls
theorem Pp (w:World) (os:OsState):ei w os qY PK Mh:=(Pu w os).go (Rp w) (by kernel_rfl)
noncomputable def Ay:List (Addr×Nat):=tA++Mh
theorem OL (w:World) (os:OsState):∃h,At P0 w os (qY.i+qY.c) qY.n' qY.toks' qY.pos' (pu P0 w.params) Ay h:=(Pp w os).go (QR w) (by kernel_rfl)
end Mine
namespace Mine
open PySem PySem.W PySem.Calls PyProof.Rows
theorem dC {h h':Heap} {a:Addr} (e:h.get? a=h'.get? a):h.isNs a=h'.isNs a:=by unfold Heap.isNs;rw[e]
theorem jh {h h':Heap} {a:Addr} (e:h.get? a=h'.get? a):h.nsKeys a=h'.nsKeys a:=by unfold Heap.nsKeys;rw[e]
theorem gu {h h':Heap} {a:Addr} (e:h.get? a=h'.get? a):h.nsMap a=h'.nsMap a:=by funext x;unfold Heap.nsMap;rw[e]
noncomputable def b8 (p:Program) (h₀ h:Heap):Bool:=
 staticsOk (importedModules p.main.body) h₀ h&&namesBound p h&&laidKept h₀ h&&h.accountedOkI (importedModules p.main.body)&&h.isNs mainGlobals&&h.isNs builtinsNs
theorem kE {p:Program} {h₀ h h':Heap} (e2:h.get? cStatics=h'.get? cStatics) (e3:h.get? mainGlobals=h'.get? mainGlobals) (e0:h.get? builtinsNs=h'.get? builtinsNs):
  b8 p h₀ h=b8 p h₀ h':=by
 unfold b8 staticsOk namesBound laidKept Heap.accountedOkI
 rw[dC e2,jh e2,gu e2,dC e3,jh e3,gu e3,dC e0]
theorem mJ:b8=b8:=rfl
noncomputable def jo (P:Params) (a:Nat):Obj:=match lk (pu P0 P) a with
 |some o=>o
 |none=>xl
noncomputable def dQ (P:Params):Heap:=⟨⟨[jo P 0,jo P 1,jo P 2,jo P 3,jo P 4]⟩,y6⟩
end Mine
name_quick mineTopChecks for Mine.b8 by Mine.mJ
namespace Mine
open PySem PySem.W PySem.Calls PyProof.Rows
theorem fQ (P:Params):b8 P0 (boot_heap P) (dQ P)=true:=by rw[PySem.W.Fast.mineTopChecks_eq];kernel_rfl
theorem wQ (P:Params):(boot_heap P).bltView=bltViewBooted:=by kernel_rfl
theorem vg (P:Params):(boot_heap P).objs.size=11:=by kernel_rfl
theorem AL (P:Params):globalOf (boot_heap P) "__annotations__"=some (.ref 6):=by kernel_rfl
theorem NF (P:Params):lk (pu P0 P) 0=some (boot_o_0 P):=by kernel_rfl
theorem My (P:Params):(boot_heap P).get? 0=some (boot_o_0 P):=by kernel_rfl
structure aV (w:World) (h:Heap):Prop where
 at_:∀a o,lk (pu P0 w.params) a=some o→h.get? a=some o
 codes:∀x∈Ay,h.CodeRec (.ref x.1) ⟨⟨iW x.2⟩⟩
theorem aV.keeps {w:World} {h h':Heap} (F:aV w h) (k:∀b o,h.get? b=some o→h'.get? b=some o):aV w h':=
 ⟨fun a o e=>k a o (F.at_ a o e),fun x hx=>(F.codes x hx).keeps k⟩
theorem gl {P:Params} {h:Heap} (X:∀a o,lk (pu P0 P) a=some o→h.get? a=some o) {a:Nat} (ha:(lk (pu P0 P) a).isSome=true) (e:(dQ P).objs.toList[a]?=some (jo P a)) (hf:(jo P a).isFreed=false):h.get? a=(dQ P).get? a:=by
 obtain⟨o,ho⟩:=Option.isSome_iff_exists.mp ha
 have e1:jo P a=o:=by unfold jo;rw[ho]
 rw[X a o ho,ki e hf,e1]
theorem ya:opening P0=plainProg P0.main.scope.names:=by kernel_rfl
theorem uI (s:Shared):fenceModules? P0 s=some s:=by kernel_rfl
theorem k2 (P:Params):(lk (pu P0 P) 2).isSome=true:=by kernel_rfl
theorem k3 (P:Params):(lk (pu P0 P) 3).isSome=true:=by kernel_rfl
theorem k0 (P:Params):(lk (pu P0 P) 0).isSome=true:=by kernel_rfl
theorem f2 (P:Params):(jo P 2).isFreed=false:=by kernel_rfl
theorem f3 (P:Params):(jo P 3).isFreed=false:=by kernel_rfl
theorem f0 (P:Params):(jo P 0).isFreed=false:=by kernel_rfl
theorem k4 (P:Params):∃o,lk (pu P0 P) 4=some o∧o.cls=.type "module"∧o.dict=some builtinsNs:=⟨boot_o_4 P,by kernel_rfl,by kernel_rfl,by kernel_rfl⟩
theorem um (P:Params):globalOf (dQ P) "__builtins__"=some (.ref 4):=by kernel_rfl
theorem dg {h h':Heap} (e:h.get? mainNs=h'.get? mainNs) (x:Str):globalOf h x=globalOf h' x:=by unfold globalOf;rw[e]
theorem AP:(gF P0).drop 227=[]:=by kernel_rfl
theorem td (w:World):(∃s,AfterRun (opening P0) w s)∧∀s,AfterRun (opening P0) w s→∃s₀,fenceModules? P0 s=some s₀∧s₀.gens=#[]∧∃s₁,TopRan P0 w s₀ s₁∧s₁.asleep∧s₁.gens=#[]∧s₁.toks=2691∧s₁.heap.objs.size=1717∧aV w s₁.heap:=by
 have hb:=boot_open (p:=P0) (N:=600) ya (by decide) uI w
 rw[← table_eq_tree] at hb
 obtain⟨s₀,hs₀,hv⟩:=Option.map_eq_some_iff.mp hb
 obtain⟨heap,gens,drawn,toks,os⟩:=s₀
 simp only[Prod.mk.injEq] at hv
 obtain⟨rfl,rfl,rfl,rfl⟩:=hv
 obtain⟨s,h4,h5⟩:=Option.bind_eq_some_iff.mp hs₀
 have A:=AfterImport.of_importEnds h4
 refine⟨⟨s,A⟩,fun s' hs'=>?_⟩
 obtain rfl:s'=s:=AfterImport.unique hs' A
 have z:Shared.asleep ⟨boot_heap w.params,⟨[]⟩,boot_drawn,boot_toks,os⟩:=Shared.asleep_of_life (fence_lifeW h5) A.life
 obtain⟨h,E⟩:=OL w os
 obtain⟨M,hM⟩:=E.end_ AP
 rw[← table_eq_tree] at hM
 obtain⟨a,l,os',fr⟩:=topRun_spec _ _ _ _ z hM
 have X:aV w h:=⟨E.at_,E.codes⟩
 have g2:h.get? cStatics=(dQ w.params).get? cStatics:=gl E.at_ (k2 w.params) rfl (f2 w.params)
 have g3:h.get? mainGlobals=(dQ w.params).get? mainGlobals:=gl E.at_ (k3 w.params) rfl (f3 w.params)
 have g0:h.get? builtinsNs=(dQ w.params).get? builtinsNs:=gl E.at_ (k0 w.params) rfl (f0 w.params)
 have hc:=(kE (p:=P0) (h₀:=boot_heap w.params) g2 g3 g0).trans (fQ w.params)
 simp only[b8,Bool.and_eq_true] at hc
 obtain⟨⟨⟨⟨⟨c1,c2⟩,c3⟩,c4⟩,c5⟩,c6⟩:=hc
 refine⟨_,h5,rfl,⟨h,⟨[]⟩,boot_drawn,_,os⟩,⟨a,l,Shared.rest_eq os',fun b o hb hn=>fr b o (by rw[← vg w.params];exact Heap.lt_size hb) (fun q=>hn (.inl q)) (fun q=>hn (.inr (.inl q))) (fun q=>hn (.inr (.inr ((AL w.params).trans q)))) hb,
  Heap.accountedI_of_ok c4,statics_of_ok c1,Pin.keysAreStrs_of c5,fun x hx=>?_,?_,fun g hg=>by simp at hg,names_of_bound c2,laid_of_kept c3⟩,Shared.asleep_of_life l z,rfl,rfl,E.size,X⟩
 ·refine(Pin.builtinOf_eq c6 x).trans (Heap.of_bltView c6 ?_ x hx)
  have e:h.get? builtinsNs=(boot_heap w.params).get? builtinsNs:=(E.at_ 0 _ (NF w.params)).trans (My w.params).symm
  have:h.bltView=(boot_heap w.params).bltView:=by unfold Heap.bltView Heap.nsPairs;rw[e]
  rw[this];exact wQ w.params
 ·obtain⟨o,e1,e2,e3⟩:=k4 w.params
  exact⟨4,o,(dg g3 _).trans (um w.params),E.at_ 4 o e1,e2,e3⟩
abbrev R0:OpenRow:=PySem.Challenge.rw_qd0100_01.row
theorem qN:Program.tablesWhole=Program.tablesWhole:=rfl
theorem qX:opensWell P0=true:=by kernel_rfl
end Mine
lay_quick PySem.Program.tablesWhole
name_quick mineTables for PySem.Program.tablesWhole by Mine.qN
namespace Mine
open PySem PySem.W PySem.Calls PyProof.Rows
theorem Jn:P0.bare:=⟨rfl,rfl,rfl,rfl,rfl,by show Program.tablesWhole P0=true;rw[PySem.W.Fast.mineTables_eq];kernel_rfl⟩
noncomputable def NM (o:Obj):FuncData:=match o.data with
 |.func f=>f
 |_=>default
noncomputable def sU (f:FuncData):List Stmt:=match f.body with
 |.stmts b=>b
 |_=>[]
noncomputable def dH (P:Params):FuncData:=NM (jo P (nat_lit 1716))
theorem EX (P:Params):lk (pu P0 P) (nat_lit 1716)=some ⟨.type "function",none,.func (dH P),⟨[]⟩⟩:=by kernel_rfl
theorem rH (P:Params):P0.theDef R0.name=some ((dH P).params,sU (dH P),(dH P).scope):=by kernel_rfl
theorem y7 (P:Params):(dH P).body=.stmts (sU (dH P)):=by kernel_rfl
theorem AN (P:Params):(dH P).name=R0.name:=by kernel_rfl
theorem Af (P:Params):(dH P).qualname=R0.name:=by kernel_rfl
theorem p9 (P:Params):(dH P).globals=mainNs:=by kernel_rfl
theorem qt (P:Params):(dH P).closure=[]:=by kernel_rfl
theorem oe (P:Params):(dH P).builtins=builtinsNs:=by kernel_rfl
theorem zA (P:Params):(dH P).defaults=.none:=by kernel_rfl
theorem BN (P:Params):(dH P).kwdefaults=.none:=by kernel_rfl
theorem us (P:Params):(dH P).params.defaults=[]:=by kernel_rfl
theorem Cb (P:Params):kwWritten? (dH P).params.kwonlyargs (dH P).params.kw_defaults=some []:=by kernel_rfl
theorem lU (P:Params):globalOf (dQ P) R0.name=some (.ref (nat_lit 1716)):=by kernel_rfl
theorem rF {w:World} {h:Heap} (F:aV w h):isTheDefsW P0 h R0.name:=by
 have g3:h.get? mainNs=(dQ w.params).get? mainNs:=gl F.at_ (k3 w.params) rfl (f3 w.params)
 exact⟨nat_lit 1716,_,dH w.params,_,_,_,(dg g3 _).trans (lU _),F.at_ _ _ (EX w.params),rfl,rH w.params,AN _,Af _,rfl,y7 _,rfl,p9 _,qt _,oe _,
  .inl ⟨us _,zA _⟩,[],Cb _,.inl ⟨rfl,BN _⟩⟩
theorem FV {w:World} {h:Heap} (F:aV w h):∃mg,h.Ns mainGlobals mg∧mg R0.name=some (.ref (nat_lit 1716)):=by
 have g3:h.get? mainNs=(dQ w.params).get? mainNs:=gl F.at_ (k3 w.params) rfl (f3 w.params)
 have hn:h.isNs mainGlobals=true:=by
  have hc:=fQ w.params
  simp only[b8,Bool.and_eq_true] at hc
  exact(dC g3).trans hc.1.2
 exact⟨_,.of_isNs hn,(Pin.globalOf_eq hn _).symm.trans ((dg g3 _).trans (lU _))⟩
def pK:Prop:=∀(w:World) (s₁:Shared) (a:Addr) (vs:List Value) (ns:List Int),aV w s₁.heap→s₁.gens=#[]→s₁.heap.IsList a vs.toArray→IntsAre vs ns→¬63 < ns.length→a=1717→s₁.heap.objs.size=1718→
 wpAny (model P0 w) callerA (PySem.call (.ref (nat_lit 1716)) [.ref a]) (fun v s'=>v=.bool true∧(∀b o,s₁.heap.get? b=some o→s'.heap.get? b=some o)∧s'.os=s₁.os∧s'.gens=#[]) (fun ξ ξ=>False) s₁
theorem ve (k1:R0.wellSaid=true) (hw:R0.toRowW.promised) (call:pK):R0.Holds:=by
 refine⟨k1,hw,⟨Jn,qX,rfl⟩,hw.witness,fun w=>⟨(td w).1,fun s' hs'=>?_⟩⟩
 obtain⟨s₀,hf,hg0,s,hT,hz,hgens,htoks,hsize,F⟩:=(td w).2 s' hs'
 refine⟨s₀,hf,hg0,s,hT,fun n hn=>?_,(fun x hx=>(by first|exact nn hx|exact nn hx.symm|exact ff hx|exact absurd hx List.not_mem_nil|cases hx)),(fun x hx=>(by first|exact nn hx|exact nn hx.symm|exact ff hx|exact absurd hx List.not_mem_nil|cases hx)),?_⟩
 ·obtain rfl:n=R0.name:=List.mem_singleton.mp hn
  exact rF F
 ·refine ClaimW.callFrom_of_specG (c:=R0.toRowW.claim) hz hgens fun args hpre hlay ord hord=>?_
  refine bc fun G=>?_
  have has:∀c,(WRecords.fields? R0.toRowW.claim.records c).isSome=true→(classAt s.heap c).isSome=true:=fun c hc=>by cases hc
  obtain⟨⟨vals,s₁⟩,hlaid⟩:=Option.isSome_iff_exists.mp (layAllW_isSome (P:=w.params) (ord:=ord) has args R0.toRowW.args s (pre_splitW hpre).1)
  have keeps:=layAllW_keeps _ _ _ hlaid
  have hal:=layAllW_rest _ _ _ hlaid
  obtain⟨as,hrd,hin,hold⟩:=reads_layAllW hord _ _ _ hlaid hlay s₁.heap (fun ξ ξ e=>e)
  have L:Laid R0.toRowW.records w s s₁ args vals as:=⟨⟨ord,hord,hlaid⟩,hrd,hin,hold,keeps,hal.1.trans hgens,hal.2.2.1⟩
  have hwl:=L.well
  have F₁:aV w s₁.heap:=F.keeps keeps
  obtain⟨mg,n1,n2⟩:=FV F₁
  have hlow:∀a∈as,1717≤a:=fun a ha=>by
   have:=hin.2.2 a ha
   rw[hsize] at this
   exact this.1
  have hpre2:=hpre
  have hlo:∀a∈as,(a == sysModules)=false:=fun a ha=>beq_eq_false_iff_ne.mpr fun e=>by have:=hlow a ha;subst e;exact absurd this (by decide)
  wrow_args hpre hlay hrd hwl hlo
  obtain⟨ea,esz⟩:=PySem.W.X.script_at L
  have ea2:=ea.trans hsize
  have fin:=call w s₁ _ _ _ F₁ (hal.1.trans hgens) ‹_› ‹IntsAre _ _› (by have:=‹¬((_:Int) < _)›;exact fun q=>this (by exact_mod_cast q)) ea2 (by rw[esz,hsize])
  refine G ⟨_,s₁,hlaid,wpAny_bind (wpAny_nsGet n1 ?_)⟩
  rw[n2]
  refine wpAny_bind (wpAny_mono fin (fun v s' g=>?_) fun ξ ξ g=>g.elim)
  obtain⟨rfl,g1,g2,g3⟩:=g
  refine wpAny_pure ⟨_,rfl,?_⟩
  have z:=GoodWG.laid (c:=R0.toRowW.claim) (r:=.ok (.ret (.bool true))) (s':=s') rfl rfl (ident_freeW rfl rfl rfl) L
   ⟨.inl ⟨_,_,[],rfl,fun ξ=>rfl,ReadsW.bool true,by first|rfl|wrow_post,fun ξ=>⟨List.nodup_nil,fun ξ hm=>(by first|exact nn hm|exact nn hm.symm|exact ff hm|exact absurd hm List.not_mem_nil|cases hm)⟩⟩,.of_keep g1,g2,.of_eq g3⟩
  exact⟨z.1,z.2.1,z.2.2,fun q=>(by first|exact nn q|exact nn q.symm|exact ff q|exact absurd q List.not_mem_nil|cases q)⟩
end Mine
namespace Mine
section
set_option genCtorIdx true in
inductive V where
 |none|bool (b:Bool)|int (i:Int)|str (s:List Nat)
 |tup (l:List V)|list (l:List V)|inst (c:Nat) (fs:List (Nat×V))|dict (es:List (V×V))|raw (a:Nat)|hole
 deriving Inhabited
set_option genCtorIdx true in
inductive MO where
 |list (l:List V)|inst (c:Nat) (fs:List (Nat×V))
noncomputable def fz:MO→V
 |.list l=>.list l
 |.inst c fs=>.inst c fs
set_option genCtorIdx true in
inductive bB where
 |un|v (x:V)|own (m:MO)|inh (m:MO)
noncomputable abbrev St:=List bB
set_option genCtorIdx true in
inductive Fl where
 |nxt|brk|cnt|ret (v:V)
noncomputable def dO (k:Nat):List (Nat×V)→Option V
 |[]=>.none
 |(j,v)::r=>if Nat.beq k j then some v else dO k r
noncomputable def kM (k:Nat) (x:V):List (Nat×V)→List (Nat×V)
 |[]=>[]
 |(j,v)::r=>if Nat.beq k j then(j,x)::kM k x r else(j,v)::kM k x r
noncomputable def hG (k:Nat) (x:V) (fs:List (Nat×V)):List (Nat×V):=match dO k fs with
 |.none=>fs++[(k,x)]
 |some _=>kM k x fs
noncomputable def aW:List Nat→List Nat→Bool
 |[],[]=>true
 |a::x,b::y=>Nat.beq a b&&aW x y
 |_,_=>false
noncomputable def i5:List Nat→List Nat→Bool
 |[c],t=>t.any (Nat.beq c)
 |_,_=>false
noncomputable abbrev bA:Nat:=1000000
noncomputable def ET:V→Prop
 |.str s=>s.length≤bA
 |.list l=>l.length≤bA
 |_=>True
set_option genCtorIdx true in
inductive pd where
 |add|sub|mul|fdiv|mod|band|bor
set_option genCtorIdx true in
inductive AW where
 |eq|ne|lt|gt|ge|in_|nin|is_|isn
noncomputable def AY (a b:V):Option Bool:=match a with
 |.int i=>(match b with
  |.int j=>some (decide (i=j))
  |_=>.none)
 |.str s=>(match b with
  |.str t=>some (aW s t)
  |_=>.none)
 |_=>.none
noncomputable def G9 (f:Bool→Bool→Bool) (a b:Option Bool):Option Bool:=a.bind fun r=>b.map (f r)
noncomputable def qm:List V→List V→Option Bool
 |[],[]=>some true
 |a::x,b::y=>G9 and (AY a b) (qm x y)
 |_,_=>.none
noncomputable def xW:V→V→Option Bool
 |.tup x,.tup y=>qm x y
 |a,b=>AY a b
noncomputable def Gc (a:V):List V→Option Bool
 |[]=>some false
 |b::y=>G9 or (AY b a) (Gc a y)
noncomputable def Rj:V→V→Option Bool
 |.int a,.int b=>some (decide (b=a))
 |.str a,.str b=>some (aW b a)
 |_,_=>.none
noncomputable def rJ (a:V):List (V×V)→Option (Option V)
 |[]=>some .none
 |(k,v)::y=>match Rj a k with
  |some true=>some (some v)
  |some false=>rJ a y
  |.none=>.none
noncomputable def kj (a:V):List (V×V)→Option (Option V)
 |[]=>.none
 |e::y=>rJ a (e::y)
noncomputable def c9:V→Option Bool
 |.none=>some false
 |.bool b=>some b
 |.int i=>some (decide (i≠0))
 |.str s=>if s.length≤bA then some (!s.isEmpty) else .none
 |.tup l=>if l.length≤bA then some (!l.isEmpty) else .none
 |.list l=>if l.length≤bA then some (!l.isEmpty) else .none
 |_=>.none
noncomputable def I9 (f:Nat→Nat→Nat) (a b:Int):Option Int:=match a with
 |.ofNat a=>(match b with
  |.ofNat b=>some (.ofNat (f a b))
  |_=>.none)
 |_=>.none
noncomputable def FE (o:pd) (a b:Int):Option Int:=match o with
 |.add=>some (a+b)
 |.sub=>some (a - b)
 |.mul=>if a.natAbs < 2 ^ 40∧b.natAbs < 2 ^ 40 then some (a * b) else .none
 |.fdiv=>if 0 < b∧b.natAbs < 2 ^ 40 then some (a / b) else .none
 |.mod=>if 0 < b then some (a % b) else .none
 |.band=>I9 (· &&& ·) a b
 |.bor=>I9 (fun a b=>a+b - (a &&& b)) a b
noncomputable def Nk (o:pd) (a:List Nat) (b:V):Option V:=match b with
 |.str b=>(match o with
  |.add=>some (.str (a++b))
  |_=>.none)
 |.int b=>(match o with
  |.mul=>if 0≤b∧a.length * b.toNat≤bA∧b.toNat≤bA then some (.str (List.replicate b.toNat a).flatten) else .none
  |_=>.none)
 |_=>.none
noncomputable def Oq (o:pd) (a b:List V):Option V:=match o with
 |.add=>some (.list (a++b))
 |_=>.none
noncomputable def Cs (o:pd) (a b:V):Option V:=match a with
 |.int a=>(match b with
  |.int b=>(FE o a b).map .int
  |_=>.none)
 |.str a=>Nk o a b
 |.list a=>(match b with
  |.list b=>Oq o a b
  |_=>.none)
 |_=>.none
noncomputable def N0 (o:pd) (a b:V):Option V:=match o with
 |.add=>(match a with
  |.int a=>(match b with
   |.int b=>some (.int (a+b))
   |_=>.none)
  |.str a=>(match b with
   |.str b=>some (.str (a++b))
   |_=>.none)
  |_=>.none)
 |.sub=>(match a with
  |.int a=>(match b with
   |.int b=>some (.int (a - b))
   |_=>.none)
  |_=>.none)
 |_=>.none
noncomputable def qj (r:Option Bool):Option Bool:=r.map (!·)
noncomputable def HH (a b:V):Option Bool:=match b with
 |.tup l=>Gc a l
 |.str t=>(match a with
  |.str a=>if a.length=1 then some (i5 a t) else .none
  |_=>.none)
 |.dict es=>(kj a es).map (·.isSome)
 |_=>.none
noncomputable def isNone:V→Bool
 |.none=>true
 |_=>false
noncomputable def FG (f:Int→Int→Bool) (a b:V):Option Bool:=match a with
 |.int a=>(match b with
  |.int b=>some (f a b)
  |_=>.none)
 |_=>.none
noncomputable def JQ (f:Bool→Bool) (a b:V):Option Bool:=match b with
 |.none=>some (f (isNone a))
 |_=>.none
noncomputable def Do (o:AW) (a b:V):Option Bool:=match o with
 |.eq=>xW a b
 |.ne=>qj (xW a b)
 |.lt=>FG (fun a b=>decide (a < b)) a b
 |.gt=>FG (fun a b=>decide (b < a)) a b
 |.ge=>FG (fun a b=>decide (b≤a)) a b
 |.in_=>HH a b
 |.nin=>qj (HH a b)
 |.is_=>JQ id a b
 |.isn=>JQ not a b
noncomputable def at_ (n:Nat) (i:Int):Option Nat:=match i with
 |.ofNat k=>if k < n∧k≤bA then some k else .none
 |.negSucc _=>.none
noncomputable def gZ (a b:V):Option V:=match a with
 |.str s=>(match b with
  |.int i=>(at_ s.length i).bind fun k=>(s[k]?).map fun c=>.str [c]
  |_=>.none)
 |.tup l=>(match b with
  |.int i=>(at_ l.length i).bind fun k=>l[k]?
  |_=>.none)
 |.list l=>(match b with
  |.int i=>(at_ l.length i).bind fun k=>l[k]?
  |_=>.none)
 |.dict es=>(kj b es).bind id
 |_=>.none
noncomputable def LJ (i:Int):Option Nat:=match i with
 |.ofNat k=>some k
 |.negSucc _=>.none
noncomputable def oW (a:V):Option Nat:=match a with
 |.none=>some 0
 |.int i=>LJ i
 |_=>.none
noncomputable def jb (n:Nat) (a:V):Option Nat:=match a with
 |.none=>some n
 |.int i=>LJ i
 |_=>.none
noncomputable def oq (a b c:V):Option V:=match a with
 |.str s=>(match oW b,jb s.length c with
  |some i,some j=>if s.length≤bA∧i≤bA∧j≤bA then some (.str ((s.take j).drop i)) else .none
  |_,_=>.none)
 |.list s=>(match oW b,jb s.length c with
  |some i,some j=>if s.length≤bA∧i≤bA∧j≤bA then some (.list ((s.take j).drop i)) else .none
  |_,_=>.none)
 |_=>.none
noncomputable def dJ:V→Option Nat
 |.str s=>if s.length≤bA then some s.length else .none
 |.tup l=>if l.length≤bA then some l.length else .none
 |.list l=>if l.length≤bA then some l.length else .none
 |_=>.none
noncomputable def gg:List V→Option (List (List Nat))
 |[]=>some []
 |v::r=>match v with
  |.str s=>(gg r).map (s::·)
  |_=>.none
noncomputable def aB (cU:List Nat):List (List Nat)→List Nat
 |[]=>[]
 |[a]=>a
 |a::r=>a++cU++aB cU r
noncomputable def Ae (a b:V):Option V:=match a with
 |.str cU=>(match b with
  |.list l=>if cU.length≤bA then(gg l).map fun x=>.str (aB cU x) else .none
  |_=>.none)
 |_=>.none
noncomputable def vD:V→Option (List V)
 |.str s=>some (s.map fun c=>.str [c])
 |.tup l=>some l
 |.list l=>some l
 |_=>.none
noncomputable def eW:V→Option (List V)
 |.int i=>if 0≤i∧i.toNat≤bA then some ((List.range i.toNat).map fun k=>.int (.ofNat k)) else .none
 |_=>.none
noncomputable def CQ (k:Nat):V→Option V
 |.inst _ fs=>dO k fs
 |_=>.none
noncomputable def nP:List V→Option (List (V×V))
 |[]=>some []
 |k::v::r=>(nP r).map ((k,v)::·)
 |_=>.none
noncomputable def Fi:List (V×V)→Option (List Int)
 |[]=>some []
 |(.int i,_)::r=>(Fi r).map (i::·)
 |_=>.none
noncomputable def FU:List (V×V)→Option (List (List Nat))
 |[]=>some []
 |(.str i,_)::r=>(FU r).map (i::·)
 |_=>.none
noncomputable def HB (es:List (V×V)):Prop:=(∃l,Fi es=some l∧l.Nodup)∨(∃l,FU es=some l∧l.Nodup)
noncomputable def isStr:V→Bool
 |.str _=>true
 |_=>false
set_option genCtorIdx true in
inductive Pf where
 |len|ord|chr|int_
noncomputable def P2 (o:Pf) (a:V):Option V:=match o with
 |.len=>(dJ a).map fun n=>.int (.ofNat n)
 |.ord=>(match a with
  |.str l=>(match l with
   |[]=>.none
   |c::r=>(match r with
    |[]=>some (.int (.ofNat c))
    |_::_=>.none))
  |_=>.none)
 |.chr=>(match a with
  |.int i=>(match i with
   |.ofNat c=>if c < 128 then some (.str [c]) else .none
   |.negSucc _=>.none)
  |_=>.none)
 |.int_=>(match a with
  |.str l=>cond (aW l [48,50]) (some (.int 2)) .none
  |_=>.none)
inductive E where
 |lit (v:V)
 |glo (k:Nat) (v:V)
 |loc (i:Nat)
 |attr (a:E) (k:Nat)
 |attrO (i k:Nat)
 |lenO (i:Nat)
 |popO (i:Nat)
 |bin (o:pd) (a b:E)
 |cmp (o:AW) (a b:E)
 |and (a b:E)|or (a b:E)|not (a:E)
 |ite (c a b:E)
 |idx (a b:E)|slc (a lo hi:E)
 |nil|cons (a l:E)
 |tup (l:E)|list (l:E)|dict (l:E)
 |hole (i:Nat)
 |bad
 |call (f:Nat) (o:Option (Nat×Nat)) (l:E)
 |callV (i:Nat) (l:E)
 |new (c:Nat) (l:E)
 |meth (a:E) (k:Nat) (o:Option (Nat×Nat)) (l:E)
 |methO (i k:Nat) (l:E)
 |pf (p:Pf) (a:E)
 |join (a b:E)
 |get (d k:E)
 |comp (k:Nat) (fr:Option Nat) (rng:Bool) (elt iter:E)
inductive S where
 |nil|cons (a l:S)
 |set (i:Nat) (e:E)
 |setC (i k:Nat) (fr:Option Nat) (rng:Bool) (elt iter:E)
 |setList (i:Nat) (l:E)
 |setNew (i c:Nat) (l:E)
 |setAdd (i:Nat) (a b:E)
 |setTup (is:List Nat) (e:E)
 |setAttr (i k:Nat) (e:E)
 |augAttr (i k:Nat) (o:pd) (e:E)
 |aug (i:Nat) (o:pd) (e:E)
 |app (i:Nat) (e:E)
 |expr (e:E)
 |ret (e:E)
 |ite (c:E) (a b:S)
 |whil (c:E) (b:S)
 |whilO (i:Nat) (b:S)
 |forIn (is:List Nat) (e:E) (b:S)
 |forR (i:Nat) (e:E) (b:S)
 |brk|cnt|ret0
 |try_ (b:S)
 |bad
noncomputable abbrev aM:=Nat→List V→Option (Nat×MO)→(V→Option MO→Prop)→Prop
structure fY where
 init:Nat→Option (Option Nat)
 meth:Nat→Nat→Option Nat
noncomputable def mM (st:St) (i:Nat) (x:bB) (K:St→Prop):Prop:=match st with
 |[]=>K []
 |y::st=>match i with
  |0=>K (x::st)
  |i+1=>mM st i x fun st=>K (y::st)
theorem gM {x:bB}:∀{st:St} {i:Nat} {K:St→Prop},mM st i x K=K (st.set i x)
 |[],_,_=>rfl
 |_::_,0,_=>rfl
 |_::st,i+1,_=>gM (st:=st) (i:=i)
noncomputable def bQ (st:St) (i:Nat) (x:bB) (K:St→Prop):Prop:=match st[i]? with
 |some (.inh _)=>False
 |some _=>mM st i x K
 |.none=>False
noncomputable def eM (r:Option α) (K:α→Prop):Prop:=match r with
 |some x=>K x
 |.none=>False
noncomputable def fU (v:V) (K:List V→Prop):Prop:=match v with
 |.tup l=>K l
 |_=>False
noncomputable abbrev EK:=V→St→Prop
noncomputable abbrev NE:=St→EK→Prop
noncomputable abbrev FK:=Fl→St→Prop
noncomputable abbrev NS:=St→FK→Prop
noncomputable def HY (K:EK) (st:St) (v:V) (_:Option MO):Prop:=K v st
noncomputable def MZ (st:St) (i:Nat) (g:MO→bB) (K:EK) (v:V) (m':Option MO):Prop:=eM m' fun m'=>mM st i (g m') (K v)
noncomputable def qE (st:St) (i:Nat) (K:MO→(MO→bB)→Prop):Prop:=match st[i]? with
 |some (.own m)=>K m .own
 |some (.inh m)=>K m .inh
 |_=>False
noncomputable def PW (m:MO) (K:List V→Prop):Prop:=match m with
 |.list l=>K l
 |.inst _ _=>False
noncomputable def QA (m:MO) (K:Nat→List (Nat×V)→Prop):Prop:=match m with
 |.list _=>False
 |.inst c fs=>K c fs
noncomputable def mb (st:St) (i:Nat) (K:Nat→List (Nat×V)→(List (Nat×V)→(St→Prop)→Prop)→Prop):Prop:=qE st i fun m g=>QA m fun c fs=>K c fs fun fs'=>mM st i (g (.inst c fs'))
noncomputable def eV (st:St) (i:Nat) (K:List V→(List V→(St→Prop)→Prop)→Prop):Prop:=qE st i fun m g=>PW m fun l=>K l fun l'=>mM st i (g (.list l'))
noncomputable def t8 (st:St) (i:Nat) (K:V→Prop):Prop:=match st[i]? with
 |some (.v x)=>K x
 |_=>False
noncomputable def DN (v:V) (K:Nat→Prop):Prop:=match v with
 |.raw f=>K f
 |_=>False
noncomputable def L1 (K:MO→Prop) (v:V) (m':Option MO):Prop:=isNone v=true∧eM m' K
noncomputable def tL (call:aM) (f:Nat) (l:List V) (o:Option (Nat×Nat)) (st:St) (K:V→St→Prop):Prop:=match o with
 |.none=>call f l .none (HY K st)
 |some (j,i)=>qE st i fun m g=>call f l (some (j,m)) (MZ st i g K)
noncomputable def Ql:Option (Nat×Nat)→Option (Nat×Nat)
 |.none=>.none
 |some (j,i)=>some (j+1,i)
noncomputable def Cc (T:fY) (call:aM) (c:Nat) (l:List V) (K:MO→Prop):Prop:=match T.init c with
 |some (some f)=>call f (.hole::l) (some (0,.inst c [])) (L1 K)
 |some .none=>match l with
  |[]=>K (.inst c [])
  |_=>False
 |.none=>False
noncomputable def Aq (T:fY) (v:V) (k:Nat) (K:Nat→Prop):Prop:=match v with
 |.inst c fs=>match dO k fs with
  |.none=>eM (T.meth c k) K
  |some _=>False
 |_=>False
noncomputable def cap:bB→bB→Bool
 |.v _,.v _=>true
 |.inh _,.inh _=>true
 |_,_=>false
noncomputable def f6:List bB→List bB→Bool
 |[],[]=>true
 |a::x,b::y=>cap a b&&f6 x y
 |_,_=>false
noncomputable def j5 (B:V→St→(V→St→Prop)→Prop):List V→List V→St→(List V→St→Prop)→Prop
 |[],acc,c,K=>K acc c
 |x::r,acc,c,K=>acc.length < bA∧B x c fun y c'=>j5 B r (acc++[y]) c' K
noncomputable def yU (fr:Option Nat) (st:St):Option St:=match fr with
 |.none=>some []
 |some i=>(st[i]?).map fun c=>[c]
noncomputable def pQ (fr:Option Nat) (st r:St):St:=match fr,r with
 |some i,c::_=>st.set i c
 |_,_=>st
noncomputable def MG (k:Nat) (K:EK) (v:V) (st:St):Prop:=eM (CQ k v) fun x=>K x st
noncomputable def JR (o:pd) (x:V) (K:EK) (y:V) (st:St):Prop:=eM (Cs o x y) fun r=>ET r∧K r st
noncomputable def NX (N:NE) (o:pd) (K:EK) (x:V) (st:St):Prop:=N st (JR o x K)
noncomputable def IQ (o:AW) (x:V) (K:EK) (y:V) (st:St):Prop:=eM (Do o x y) fun r=>K (.bool r) st
noncomputable def NC (N:NE) (o:AW) (K:EK) (x:V) (st:St):Prop:=N st (IQ o x K)
noncomputable def LP (N:NE) (K:EK) (x:V) (st:St):Prop:=eM (c9 x) fun t=>cond t (N st K) (K x st)
noncomputable def Qh (N:NE) (K:EK) (x:V) (st:St):Prop:=eM (c9 x) fun t=>cond t (K x st) (N st K)
noncomputable def Po (K:EK) (x:V) (st:St):Prop:=eM (c9 x) fun t=>K (.bool (!t)) st
noncomputable def L7 {κ:Type} (N N':St→κ→Prop) (K:κ) (x:V) (st:St):Prop:=eM (c9 x) fun t=>cond t (N st K) (N' st K)
noncomputable def Jz (x:V) (K:EK) (y:V) (st:St):Prop:=eM (gZ x y) fun r=>K r st
noncomputable def PJ (N:NE) (K:EK) (x:V) (st:St):Prop:=N st (Jz x K)
noncomputable def Kl (x y:V) (K:EK) (z:V) (st:St):Prop:=eM (oq x y z) fun r=>K r st
noncomputable def LN (N:NE) (x:V) (K:EK) (y:V) (st:St):Prop:=N st (Kl x y K)
noncomputable def N4 (N N':NE) (K:EK) (x:V) (st:St):Prop:=N st (LN N' x K)
noncomputable def GN (x:V) (K:EK) (y:V) (st:St):Prop:=fU y fun y=>K (.tup (x::y)) st
noncomputable def Mj (N:NE) (K:EK) (x:V) (st:St):Prop:=N st (GN x K)
noncomputable def Mr (K:EK) (x:V) (st:St):Prop:=fU x fun x=>K (.list x) st
noncomputable def J0 (K:EK) (y:V) (st:St):Prop:=fU y fun y=>eM (nP y) fun y=>HB y∧K (.dict y) st
noncomputable def CX (call:aM) (f:Nat) (o:Option (Nat×Nat)) (K:EK) (x:V) (st:St):Prop:=fU x fun x=>tL call f x o st K
noncomputable def NQ (T:fY) (call:aM) (c:Nat) (K:EK) (x:V) (st:St):Prop:=fU x fun x=>Cc T call c x fun m=>K (fz m) st
noncomputable def Hg (call:aM) (o:Option (Nat×Nat)) (K:EK) (v:V) (f:Nat) (x:V) (st:St):Prop:=fU x fun x=>tL call f (v::x) (Ql o) st K
noncomputable def Id (T:fY) (call:aM) (N:NE) (k:Nat) (o:Option (Nat×Nat)) (K:EK) (v:V) (st:St):Prop:=Aq T v k fun f=>N st (Hg call o K v f)
noncomputable def Gv (call:aM) (i:Nat) (K:EK) (f:Nat) (x:V) (st:St):Prop:=fU x fun x=>tL call f (.hole::x) (some (0,i)) st K
noncomputable def RI (p:Pf) (K:EK) (x:V) (st:St):Prop:=eM (P2 p x) fun r=>K r st
noncomputable def G2 (x:V) (K:EK) (y:V) (st:St):Prop:=eM (Ae x y) fun r=>ET r∧K r st
noncomputable def HX (N:NE) (K:EK) (x:V) (st:St):Prop:=isStr x=true∧N st (G2 x K)
noncomputable def HR (es:List (V×V)) (K:EK) (y:V) (st:St):Prop:=eM (kj y es) fun r=>K (r.getD .none) st
noncomputable def Iz (N:NE) (K:EK) (x:V) (st:St):Prop:=match x with
 |.dict es=>N st (HR es K)
 |_=>False
noncomputable def ay (T:fY) (call:aM):E→St→(V→St→Prop)→Prop
 |.lit v,st,K=>K v st
 |.glo _ v,st,K=>K v st
 |.loc i,st,K=>match st[i]? with
  |some (.v x)=>K x st
  |some (.own m)=>mM st i (.v (fz m)) (K (fz m))
  |_=>False
 |.attr a k,st,K=>ay T call a st (MG k K)
 |.attrO i k,st,K=>mb st i fun ξ fs ξ=>eM (dO k fs) fun x=>K x st
 |.lenO i,st,K=>eV st i fun l ξ=>l.length≤bA∧K (.int (.ofNat l.length)) st
 |.popO i,st,K=>eV st i fun l up=>l.length≤bA∧eM l.getLast? fun x=>up l.dropLast (K x)
 |.bin o a b,st,K=>ay T call a st (NX (ay T call b) o K)
 |.cmp o a b,st,K=>ay T call a st (NC (ay T call b) o K)
 |.and a b,st,K=>ay T call a st (LP (ay T call b) K)
 |.or a b,st,K=>ay T call a st (Qh (ay T call b) K)
 |.not a,st,K=>ay T call a st (Po K)
 |.ite c a b,st,K=>ay T call c st (L7 (ay T call a) (ay T call b) K)
 |.idx a b,st,K=>ay T call a st (PJ (ay T call b) K)
 |.slc a lo hi,st,K=>ay T call a st (N4 (ay T call lo) (ay T call hi) K)
 |.nil,st,K=>K (.tup []) st
 |.cons a l,st,K=>ay T call a st (Mj (ay T call l) K)
 |.tup l,st,K=>ay T call l st K
 |.list l,st,K=>ay T call l st (Mr K)
 |.dict l,st,K=>ay T call l st (J0 K)
 |.bad,_,_=>False
 |.hole i,st,K=>qE st i fun ξ ξ=>K .hole st
 |.call f o l,st,K=>ay T call l st (CX call f o K)
 |.callV i l,st,K=>t8 st i fun x=>DN x fun f=>ay T call l st (CX call f .none K)
 |.new c l,st,K=>ay T call l st (NQ T call c K)
 |.meth a k o l,st,K=>ay T call a st (Id T call (ay T call l) k o K)
 |.methO i k l,st,K=>qE st i fun m ξ=>Aq T (fz m) k fun f=>ay T call l st (Gv call i K f)
 |.pf p a,st,K=>ay T call a st (RI p K)
 |.join a b,st,K=>ay T call a st (HX (ay T call b) K)
 |.get d k,st,K=>ay T call d st (Iz (ay T call k) K)
 |.comp _ fr rng elt iter,st,K=>ay T call iter st fun x st=>eM (cond rng (eW x) (vD x)) fun xs=>eM (yU fr st) fun r=>f6 r r=true∧
   j5 (fun x r K=>ay T call elt (.v x::r) fun y st'=>f6 (.v x::r) st'=true∧K y st'.tail) xs [] r fun l r'=>K (.list l) (pQ fr st r')
noncomputable def CY (N:NS) (K:FK) (fl:Fl) (st:St):Prop:=match fl with
 |.nxt=>N st K
 |.cnt=>N st K
 |.brk=>K .nxt st
 |.ret v=>K (.ret v) st
noncomputable def O0 (N:NS) (K:FK) (fl:Fl) (st:St):Prop:=match fl with
 |.nxt=>N st K
 |.brk=>K .brk st
 |.cnt=>K .cnt st
 |.ret v=>K (.ret v) st
noncomputable def CW (B:NS) (N:NS) (K:FK) (t:Bool) (st:St):Prop:=cond t (B st (CY N K)) (K .nxt st)
noncomputable def cY (C:St→(Bool→St→Prop)→Prop) (B:St→(Fl→St→Prop)→Prop):Nat→St→(Fl→St→Prop)→Prop
 |0,_,_=>False
 |n+1,st,K=>C st (CW B (cY C B n) K)
noncomputable def cQ (B:V→St→(Fl→St→Prop)→Prop):List V→St→(Fl→St→Prop)→Prop
 |[],st,K=>K .nxt st
 |x::r,st,K=>B x st (CY (cQ B r) K)
noncomputable def gp:List Nat→List V→St→(St→Prop)→Prop
 |[],[],st,K=>K st
 |i::is,x::xs,st,K=>bQ st i (.v x) fun st=>gp is xs st K
 |_,_,_,_=>False
noncomputable def fF (is:List Nat) (x:V) (st:St) (K:St→Prop):Prop:=match is with
 |[i]=>bQ st i (.v x) K
 |_=>fU x fun xs=>gp is xs st K
noncomputable def xU:List (Nat×List Nat):=[(38,[1684957547,97,1935960427,495655677030,29793,6580590]),(211,[1937207154,1701603686]),(362,[126879514323059,448630121828,1885693284,126879447608929]),(655,[1684957547,1954047348,7173486,29793,6581861,122641912527128594339490156]),(902,[126917985136500,29793,495655676260,495874892144,126943990278502,495740084596,495623108980,1885693284,29113321536775536,7955995183301815393,27987473202114153,31647721741839977,1925627852534604328553,126909394608492,28268922358689646,32195222481167730,511813157447760619728489,126935165726563,126862284910435,2203193151619530518382,126943822114931,431198986611]),(1028,[495606460279])]
noncomputable def tQ (c:Nat):List (Nat×List Nat)→List Nat
 |[]=>[]
 |x::r=>cond (Nat.beq c x.1) x.2 (tQ c r)
noncomputable def gz (c:Nat):List Nat:=tQ c xU
noncomputable def dY (c k:Nat):Bool:=(gz c).any (Nat.beq k)
noncomputable def Jr (i:Nat) (K:FK) (v:V) (st:St):Prop:=bQ st i (.v v) (K .nxt)
noncomputable def we (i:Nat) (K:FK) (v:V) (st:St):Prop:=fU v fun v=>bQ st i (.own (.list v)) (K .nxt)
noncomputable def AZ (T:fY) (call:aM) (i c:Nat) (K:FK) (x:V) (st:St):Prop:=fU x fun x=>Cc T call c x fun m=>bQ st i (.own m) (K .nxt)
noncomputable def Of (K:FK) (v:V) (st:St):Prop:=K (.ret v) st
noncomputable def Jo (K:FK) (_:V) (st:St):Prop:=K .nxt st
noncomputable def kf (K:Bool→St→Prop) (v:V) (st:St):Prop:=eM (c9 v) fun t=>K t st
noncomputable def yD (i k:Nat) (K:FK) (v:V) (st:St):Prop:=mb st i fun c fs up=>(dY c k=true∧fs.length≤100)∧up (hG k v fs) (K .nxt)
noncomputable def PO (i:Nat) (o:pd) (old:V) (K:FK) (v:V) (st:St):Prop:=eM (N0 o old v) fun r=>ET r∧bQ st i (.v r) (K .nxt)
noncomputable def Nb (i:Nat) (K:FK) (v:V) (st:St):Prop:=eV st i fun l up=>l.length < bA∧up (l++[v]) (K .nxt)
noncomputable def aq (T:fY) (call:aM) (g:Nat):S→St→(Fl→St→Prop)→Prop
 |.nil,st,K=>K .nxt st
 |.cons a l,st,K=>aq T call g a st (O0 (aq T call g l) K)
 |.set i e,st,K=>ay T call e st (Jr i K)
 |.setC i k fr rng elt iter,st,K=>ay T call (.comp k fr rng elt iter) st (Jr i K)
 |.setList i l,st,K=>ay T call l st (we i K)
 |.setNew i c l,st,K=>ay T call l st (AZ T call i c K)
 |.setAdd i a b,st,K=>ay T call a st fun x st=>ay T call b st fun y st=>match x,y with
  |.list x,.list y=>(x++y).length≤bA∧bQ st i (.own (.list (x++y))) (K .nxt)
  |_,_=>False
 |.setTup is e,st,K=>ay T call e st fun v st=>fU v fun vs=>gp is vs st (K .nxt)
 |.setAttr i k e,st,K=>ay T call e st (yD i k K)
 |.augAttr i k o e,st,K=>mb st i fun ξ fs ξ=>eM (dO k fs) fun old=>ay T call e st fun v st=>eM (N0 o old v) fun r=>ET r∧mb st i fun c fs up=>(dY c k=true∧fs.length≤100)∧up (hG k r fs) (K .nxt)
 |.aug i o e,st,K=>t8 st i fun old=>ay T call e st (PO i o old K)
 |.app i e,st,K=>eV st i fun ξ ξ=>ay T call e st (Nb i K)
 |.expr e,st,K=>ay T call e st (Jo K)
 |.ret e,st,K=>ay T call e st (Of K)
 |.ite c a b,st,K=>ay T call c st (L7 (aq T call g a) (aq T call g b) K)
 |.whil c b,st,K=>cY (fun st K=>ay T call c st (kf K)) (aq T call g b) g st K
 |.whilO i b,st,K=>cY (fun st K=>eV st i fun l ξ=>l.length≤bA∧K (!l.isEmpty) st) (aq T call g b) g st K
 |.forIn is e b,st,K=>ay T call e st fun v st=>eM (vD v) fun xs=>cQ (fun x st K=>fF is x st fun st=>aq T call g b st K) xs st K
 |.forR i e b,st,K=>ay T call e st fun v st=>eM (eW v) fun xs=>cQ (fun x st K=>bQ st i (.v x) fun st=>aq T call g b st K) xs st K
 |.brk,st,K=>K .brk st
 |.cnt,st,K=>K .cnt st
 |.ret0,st,K=>K (.ret .none) st
 |.try_ b,st,K=>aq T call g b st K
 |.bad,_,_=>False
structure Fn where
 ns:List (Nat×Bool)
 np:Nat
 dflt:List V
 body:S
noncomputable def DM (m:MO):List V→Nat→List bB
 |[],_=>[]
 |v::r,j=>match j with
  |0=>.inh m::r.map .v
  |j+1=>.v v::DM m r j
noncomputable def l5:Option (Nat×MO)→List V→List bB
 |.none,l=>l.map .v
 |some p,l=>DM p.2 l p.1
noncomputable def bm (mo:Option (Nat×MO)) (st:St):Option MO:=match mo with
 |.none=>.none
 |some (j,_)=>match st[j]? with
  |some (.inh m)=>some m
  |_=>.none
noncomputable def ik (fn:Fn) (l:List V) (mo:Option (Nat×MO)):St:=l5 mo l++(fn.dflt.map .v++List.replicate (fn.ns.length - (fn.np+fn.dflt.length)) .un)
noncomputable def HS (mo:Option (Nat×MO)) (K:V→Option MO→Prop) (fl:Fl) (st:St):Prop:=match fl with
 |.nxt=>K .none (bm mo st)
 |.ret v=>K v (bm mo st)
 |_=>False
noncomputable def kb (T:fY) (fns:Nat→Option Fn) (g:Nat):Nat→aM
 |0,_,_,_,_=>False
 |n+1,f,l,mo,K=>match fns f with
  |some fn=>l.length=fn.np∧aq T (kb T fns g n) g fn.body (ik fn l mo) (HS mo K)
  |.none=>False
end
end Mine
namespace Mine
open PySem PySem.W PySem.Calls PyProof.Rows
noncomputable abbrev aI:=Addr→Option Obj
noncomputable abbrev sS (s:List Nat):Str:=⟨⟨s⟩⟩
noncomputable abbrev bw (k:Nat):Str:=⟨⟨iW k⟩⟩
noncomputable def kK (o:Obj) (m:Str→Option Value):Prop:=∃es ep,o.data=.dict es ep∧StrKeys es∧∀name,nsFind es name=m name
noncomputable def t7 {prog:Program} {w:World} {K:Type} [DecidableEq K] (knd:PySem.KeyKind prog w K) (o:Obj) (f:K→Option Value):Prop:=
 o.ExactDict∧∃es ep,o.data=.dict es ep∧PySem.KeysOf knd es∧∀k,findBy knd.is es k=f k
noncomputable def zr {α K:Type} [DecidableEq K] (k:K):List (K×α)→Option α
 |[]=>none
 |(j,v)::r=>if j=k then some v else zr k r
mutual
inductive aA (w:World) (Z:aI):V→Value→Prop
 |none:aA w Z .none .none
 |bool (b:Bool):aA w Z (.bool b) (.bool b)
 |int (i:Int) (t:Tok):aA w Z (.int i) (.int i t)
 |str (s:List Nat) (t:Tok):aA w Z (.str s) (.str (sS s) t)
 |raw (a:Nat):aA w Z (.raw a) (.ref a)
 |tup {a o n l xs}:Z a=some o→o.cls=.type "tuple"→o.data=.seq ⟨xs⟩ n→aH w Z l xs→aA w Z (.tup l) (.ref a)
 |list {a o n l xs}:Z a=some o→o.cls=.type "list"→o.data=.seq ⟨xs⟩ n→aH w Z l xs→aA w Z (.list l) (.ref a)
 |inst {c fs a d o m}:(∀p∈fs,dY c p.1=true)→Z a=some (instObj c d)→Z d=some o→kK o m→cS w Z m fs→(∀name,(∀p∈fs,bw p.1≠name)→m name=none)→aA w Z (.inst c fs) (.ref a)
 |dictI {es kvs a o f}:(a == sysModules)=false→Z a=some o→t7 (PySem.intKind P0 w) o f→dK w Z es kvs→(∀k,f k=zr k kvs)→aA w Z (.dict es) (.ref a)
 |dictS {es kvs a o f}:(a == sysModules)=false→Z a=some o→t7 (PySem.strKind P0 w) o f→dP w Z es kvs→(∀k,f k=zr k kvs)→aA w Z (.dict es) (.ref a)
inductive aH (w:World) (Z:aI):List V→List Value→Prop
 |nil:aH w Z [] []
 |cons {v x l xs}:aA w Z v x→aH w Z l xs→aH w Z (v::l) (x::xs)
inductive cS (w:World) (Z:aI):(Str→Option Value)→List (Nat×V)→Prop
 |nil {m}:cS w Z m []
 |cons {m k v x r}:m (bw k)=some x→aA w Z v x→cS w Z m r→cS w Z m ((k,v)::r)
inductive dK (w:World) (Z:aI):List (V×V)→List (Int×Value)→Prop
 |nil:dK w Z [] []
 |cons {i v x l xs}:aA w Z v x→dK w Z l xs→dK w Z ((.int i,v)::l) ((i,x)::xs)
inductive dP (w:World) (Z:aI):List (V×V)→List (Str×Value)→Prop
 |nil:dP w Z [] []
 |cons {s v x l xs}:aA w Z v x→dP w Z l xs→dP w Z ((.str s,v)::l) ((sS s,x)::xs)
end
variable {w:World} {Z Z':aI}
noncomputable abbrev rM (Z Z':aI):Prop:=∀a o,Z a=some o→Z' a=some o
theorem aA.mono (h:rM Z Z') {v:V} {x:Value} (R:aA w Z v x):aA w Z' v x:=
 aA.rec (motive_1:=fun v x ξ=>aA w Z' v x) (motive_2:=fun v x ξ=>aH w Z' v x) (motive_3:=fun v x ξ=>cS w Z' v x) (motive_4:=fun v x ξ=>dK w Z' v x) (motive_5:=fun v x ξ=>dP w Z' v x)
  .none .bool .int .str .raw (fun a b c ξ d=>.tup (h _ _ a) b c d) (fun a b c ξ d=>.list (h _ _ a) b c d) (fun q a b c ξ e d=>.inst q (h _ _ a) (h _ _ b) c d e) (fun n a b ξ d c=>.dictI n (h _ _ a) b c d) (fun n a b ξ d c=>.dictS n (h _ _ a) b c d)
  .nil (fun ξ ξ a b=>.cons a b) .nil (fun a ξ ξ b c=>.cons a b c) .nil (fun ξ ξ a b=>.cons a b) .nil (fun ξ ξ a b=>.cons a b) R
theorem aH.mono (h:rM Z Z') {v:List V} {x:List Value} (R:aH w Z v x):aH w Z' v x:=
 aH.rec (motive_1:=fun v x ξ=>aA w Z' v x) (motive_2:=fun v x ξ=>aH w Z' v x) (motive_3:=fun v x ξ=>cS w Z' v x) (motive_4:=fun v x ξ=>dK w Z' v x) (motive_5:=fun v x ξ=>dP w Z' v x)
  .none .bool .int .str .raw (fun a b c ξ d=>.tup (h _ _ a) b c d) (fun a b c ξ d=>.list (h _ _ a) b c d) (fun q a b c ξ e d=>.inst q (h _ _ a) (h _ _ b) c d e) (fun n a b ξ d c=>.dictI n (h _ _ a) b c d) (fun n a b ξ d c=>.dictS n (h _ _ a) b c d)
  .nil (fun ξ ξ a b=>.cons a b) .nil (fun a ξ ξ b c=>.cons a b c) .nil (fun ξ ξ a b=>.cons a b) .nil (fun ξ ξ a b=>.cons a b) R
theorem cS.mono (h:rM Z Z') {v:Str→Option Value} {x:List (Nat×V)} (R:cS w Z v x):cS w Z' v x:=
 cS.rec (motive_1:=fun v x ξ=>aA w Z' v x) (motive_2:=fun v x ξ=>aH w Z' v x) (motive_3:=fun v x ξ=>cS w Z' v x) (motive_4:=fun v x ξ=>dK w Z' v x) (motive_5:=fun v x ξ=>dP w Z' v x)
  .none .bool .int .str .raw (fun a b c ξ d=>.tup (h _ _ a) b c d) (fun a b c ξ d=>.list (h _ _ a) b c d) (fun q a b c ξ e d=>.inst q (h _ _ a) (h _ _ b) c d e) (fun n a b ξ d c=>.dictI n (h _ _ a) b c d) (fun n a b ξ d c=>.dictS n (h _ _ a) b c d)
  .nil (fun ξ ξ a b=>.cons a b) .nil (fun a ξ ξ b c=>.cons a b c) .nil (fun ξ ξ a b=>.cons a b) .nil (fun ξ ξ a b=>.cons a b) R
theorem dK.mono (h:rM Z Z') {v:List (V×V)} {x:List (Int×Value)} (R:dK w Z v x):dK w Z' v x:=
 dK.rec (motive_1:=fun v x ξ=>aA w Z' v x) (motive_2:=fun v x ξ=>aH w Z' v x) (motive_3:=fun v x ξ=>cS w Z' v x) (motive_4:=fun v x ξ=>dK w Z' v x) (motive_5:=fun v x ξ=>dP w Z' v x)
  .none .bool .int .str .raw (fun a b c ξ d=>.tup (h _ _ a) b c d) (fun a b c ξ d=>.list (h _ _ a) b c d) (fun q a b c ξ e d=>.inst q (h _ _ a) (h _ _ b) c d e) (fun n a b ξ d c=>.dictI n (h _ _ a) b c d) (fun n a b ξ d c=>.dictS n (h _ _ a) b c d)
  .nil (fun ξ ξ a b=>.cons a b) .nil (fun a ξ ξ b c=>.cons a b c) .nil (fun ξ ξ a b=>.cons a b) .nil (fun ξ ξ a b=>.cons a b) R
theorem dP.mono (h:rM Z Z') {v:List (V×V)} {x:List (Str×Value)} (R:dP w Z v x):dP w Z' v x:=
 dP.rec (motive_1:=fun v x ξ=>aA w Z' v x) (motive_2:=fun v x ξ=>aH w Z' v x) (motive_3:=fun v x ξ=>cS w Z' v x) (motive_4:=fun v x ξ=>dK w Z' v x) (motive_5:=fun v x ξ=>dP w Z' v x)
  .none .bool .int .str .raw (fun a b c ξ d=>.tup (h _ _ a) b c d) (fun a b c ξ d=>.list (h _ _ a) b c d) (fun q a b c ξ e d=>.inst q (h _ _ a) (h _ _ b) c d e) (fun n a b ξ d c=>.dictI n (h _ _ a) b c d) (fun n a b ξ d c=>.dictS n (h _ _ a) b c d)
  .nil (fun ξ ξ a b=>.cons a b) .nil (fun a ξ ξ b c=>.cons a b c) .nil (fun ξ ξ a b=>.cons a b) .nil (fun ξ ξ a b=>.cons a b) R
noncomputable abbrev ch:=Addr→Option Nat
inductive bN (w:World) (Z:aI) (own:ch) (h:Heap) (t:Nat):MO→Addr→Prop
 |list {a n l xs}:own a=some t→h.get? a=some { cls:=.type "list",data:=.seq ⟨xs⟩ n }→aH w Z l xs→bN w Z own h t (.list l) a
 |inst {c fs a d o m}:(∀p∈fs,dY c p.1=true)→own a=some t→own d=some t→a≠d→h.get? a=some (instObj c d)→h.get? d=some o→kK o m→(∃es ep,o.data=.dict es ep∧es.size≤fs.length)→
   cS w Z m fs→(∀name,(∀p∈fs,bw p.1≠name)→m name=none)→bN w Z own h t (.inst c fs) a
structure Fm where
 env:Env
 ns:List (Nat×Bool)
 inh:Addr
noncomputable def aU (F:Fm) (h:Heap) (own:ch) (m:Str→Option Value) (x:Nat×Bool) (val:Value):Prop:=
 if x.2 then ∃c o,F.env.cells.lookup (bw x.1)=some c∧own c=some 0∧c≠F.env.locals∧h.get? c=some o∧o.data=.cell (some val) else m (bw x.1)=some val
inductive bI (w:World) (F:Fm) (Z:aI) (own:ch) (h:Heap) (m:Str→Option Value) (i:Nat) (x:Nat×Bool):bB→Prop
 |un:bI w F Z own h m i x .un
 |v {v val}:aU F h own m x val→aA w Z v val→bI w F Z own h m i x (.v v)
 |own {mo a}:aU F h own m x (.ref a)→bN w Z own h (i+2) mo a→bI w F Z own h m i x (.own mo)
 |inh {mo}:aU F h own m x (.ref F.inh)→bN w Z own h 1 mo F.inh→bI w F Z own h m i x (.inh mo)
section
variable {w:World} {Z:aI} {x:Value}
noncomputable def CG (w:World) (Z:aI) (c:String) (l:List V) (x:Value):Prop:=∃a o n xs,x=.ref a∧Z a=some o∧o.cls=.type c∧o.data=.seq ⟨xs⟩ n∧aH w Z l xs
noncomputable def EI (w:World) (Z:aI) (c:Nat) (fs:List (Nat×V)) (x:Value):Prop:=∃a d o m,x=.ref a∧(∀p∈fs,dY c p.1=true)∧Z a=some (instObj c d)∧Z d=some o∧kK o m∧cS w Z m fs∧(∀name,(∀p∈fs,bw p.1≠name)→m name=none)
noncomputable def Od (w:World) (Z:aI) (v:V) (x:Value):Prop:=match v with
 |.none=>x=.none
 |.bool b=>x=.bool b
 |.int i=>∃t,x=.int i t
 |.str s=>∃t,x=.str (sS s) t
 |.raw a=>x=.ref a
 |.tup l=>CG w Z "tuple" l x
 |.list l=>CG w Z "list" l x
 |.inst c fs=>EI w Z c fs x
 |_=>True
theorem aA.inv {v:V} (R:aA w Z v x):Od w Z v x:=by
 cases R with
 |none=>exact rfl
 |bool=>exact rfl
 |int=>exact⟨_,rfl⟩
 |str=>exact⟨_,rfl⟩
 |raw=>exact rfl
 |tup e1 e2 e3 e4=>exact⟨_,_,_,_,rfl,e1,e2,e3,e4⟩
 |list e1 e2 e3 e4=>exact⟨_,_,_,_,rfl,e1,e2,e3,e4⟩
 |inst e0 e1 e2 e3 e4 e5=>exact⟨_,_,_,_,rfl,e0,e1,e2,e3,e4,e5⟩
 |dictI=>exact trivial
 |dictS=>exact trivial
theorem aA.noneE {motive:(x:Value)→aA w Z V.none x→Prop} (none:motive Value.none aA.none) {x:Value} (R:aA w Z V.none x):motive x R:=by obtain rfl:x=.none:=R.inv;exact none
theorem aA.boolE {b:Bool} {motive:(x:Value)→aA w Z (.bool b) x→Prop} (bool:motive (.bool b) (.bool b)) {x:Value} (R:aA w Z (.bool b) x):motive x R:=by obtain rfl:x=.bool b:=R.inv;exact bool
theorem aA.intE {i:Int} {motive:(x:Value)→aA w Z (.int i) x→Prop} (int:∀t,motive (.int i t) (.int i t)) {x:Value} (R:aA w Z (.int i) x):motive x R:=by obtain⟨t,rfl⟩:∃t,x=.int i t:=R.inv;exact int t
theorem aA.strE {s:List Nat} {motive:(x:Value)→aA w Z (.str s) x→Prop} (str:∀t,motive (.str (sS s) t) (.str s t)) {x:Value} (R:aA w Z (.str s) x):motive x R:=by obtain⟨t,rfl⟩:∃t,x=.str (sS s) t:=R.inv;exact str t
theorem aA.rawE {a:Nat} {motive:(x:Value)→aA w Z (.raw a) x→Prop} (raw:motive (.ref a) (.raw a)) {x:Value} (R:aA w Z (.raw a) x):motive x R:=by obtain rfl:x=.ref a:=R.inv;exact raw
theorem aA.tupE {l:List V} {motive:(x:Value)→aA w Z (.tup l) x→Prop} (tup:∀{a o n xs} (e1:Z a=some o) (e2:o.cls=.type "tuple") (e3:o.data=.seq ⟨xs⟩ n) (e4:aH w Z l xs),motive (.ref a) (.tup e1 e2 e3 e4)) {x:Value} (R:aA w Z (.tup l) x):motive x R:=by
 obtain⟨a,o,n,xs,rfl,e1,e2,e3,e4⟩:CG w Z "tuple" l x:=R.inv;exact tup e1 e2 e3 e4
theorem aA.listE {l:List V} {motive:(x:Value)→aA w Z (.list l) x→Prop} (list:∀{a o n xs} (e1:Z a=some o) (e2:o.cls=.type "list") (e3:o.data=.seq ⟨xs⟩ n) (e4:aH w Z l xs),motive (.ref a) (.list e1 e2 e3 e4)) {x:Value} (R:aA w Z (.list l) x):motive x R:=by
 obtain⟨a,o,n,xs,rfl,e1,e2,e3,e4⟩:CG w Z "list" l x:=R.inv;exact list e1 e2 e3 e4
theorem aA.instE {c:Nat} {fs:List (Nat×V)} {motive:(x:Value)→aA w Z (.inst c fs) x→Prop} (inst:∀{a d o m} (e0:∀p∈fs,dY c p.1=true) (e1:Z a=some (instObj c d)) (e2:Z d=some o) (e3:kK o m) (e4:cS w Z m fs) (e5:∀name,(∀p∈fs,bw p.1≠name)→m name=Option.none),motive (.ref a) (.inst e0 e1 e2 e3 e4 e5)) {x:Value} (R:aA w Z (.inst c fs) x):motive x R:=by
 obtain⟨a,d,o,m,rfl,e0,e1,e2,e3,e4,e5⟩:EI w Z c fs x:=R.inv;exact inst e0 e1 e2 e3 e4 e5
theorem bI.vE {F:Fm} {ow:ch} {h:Heap} {m:Str→Option Value} {i:Nat} {y:Nat×Bool} {u:V} {motive:bI w F Z ow h m i y (.v u)→Prop} (v:∀{val} (H:aU F h ow m y val) (R:aA w Z u val),motive (.v H R)) (L:bI w F Z ow h m i y (.v u)):motive L:=by cases L;exact v ‹_› ‹_›
theorem bI.ownE {F:Fm} {ow:ch} {h:Heap} {m:Str→Option Value} {i:Nat} {y:Nat×Bool} {mo:MO} {motive:bI w F Z ow h m i y (.own mo)→Prop} (own:∀{a} (H:aU F h ow m y (.ref a)) (R:bN w Z ow h (i+2) mo a),motive (.own H R)) (L:bI w F Z ow h m i y (.own mo)):motive L:=by cases L;exact own ‹_› ‹_›
theorem bI.inhE {F:Fm} {ow:ch} {h:Heap} {m:Str→Option Value} {i:Nat} {y:Nat×Bool} {mo:MO} {motive:bI w F Z ow h m i y (.inh mo)→Prop} (inh:∀(H:aU F h ow m y (.ref F.inh)) (R:bN w Z ow h 1 mo F.inh),motive (.inh H R)) (L:bI w F Z ow h m i y (.inh mo)):motive L:=by cases L;exact inh ‹_› ‹_›
theorem bN.listE {own:ch} {h:Heap} {t:Nat} {l:List V} {a:Addr} {motive:bN w Z own h t (.list l) a→Prop} (list:∀{n xs} (e1:own a=some t) (e2:h.get? a=some { cls:=.type "list",data:=.seq ⟨xs⟩ n }) (e3:aH w Z l xs),motive (.list e1 e2 e3)) (R:bN w Z own h t (.list l) a):motive R:=by cases R;exact list ‹_› ‹_› ‹_›
theorem bN.instE {own:ch} {h:Heap} {t:Nat} {c:Nat} {fs:List (Nat×V)} {a:Addr} {motive:bN w Z own h t (.inst c fs) a→Prop} (inst:∀{d o m} (e0:∀p∈fs,dY c p.1=true) (e1:own a=some t) (e2:own d=some t) (e3:a≠d) (e4:h.get? a=some (instObj c d)) (e5:h.get? d=some o) (e6:kK o m) (e7:∃es ep,o.data=.dict es ep∧es.size≤fs.length) (e8:cS w Z m fs) (e9:∀name,(∀p∈fs,bw p.1≠name)→m name=none),motive (.inst e0 e1 e2 e3 e4 e5 e6 e7 e8 e9)) (R:bN w Z own h t (.inst c fs) a):motive R:=by
 cases R with|inst a0 a1 a2 a3 a4 a5 a6 a7 a8 a9=>exact inst a0 a1 a2 a3 a4 a5 a6 a7 a8 a9
end
structure bt (w:World) (h₁:Heap) (os:OsState) (F:Fm) (own:ch) (Z:aI) (m:Str→Option Value) (st:St) (s:Shared):Prop where
 zin:∀a o,Z a=some o→s.heap.get? a=some o
 base:∀a o,h₁.get? a=some o→Z a=some o
 ns:s.heap.Ns F.env.locals m
 tagL:own F.env.locals=some 0
 disj:∀a,own a≠none→Z a=none
 len:st.length=F.ns.length
 locs:∀i x l,F.ns[i]?=some x→st[i]?=some l→bI w F Z own s.heap m i x l
 gens:s.gens=#[]
 os:s.os=os
 odom:∀a,own a≠none→∃o,s.heap.get? a=some o
 inh1:∀(i j:Nat) (m m':MO),st[i]?=some (.inh m)→st[j]?=some (.inh m')→i=j
noncomputable def i7 (o:Obj):Bool:=match o.data with
 |.cell _=>true
 |_=>false
structure Step (own:ch) (Z:aI) (h:Heap) (own':ch) (Z':aI) (h':Heap):Prop where
 z:rM Z Z'
 znew:∀a o,Z' a=some o→Z a=some o∨h.get? a=none∨∃t,own a=some (t+2)
 onew:∀a t,own' a=some t→own a=some t∨(h.get? a=none∧∃u,t=u+2)
 o01:∀a t,own a=some t→t < 2→own' a=some t
 keep:∀a o,own a=none→h.get? a=some o→h'.get? a=some o
 dom:∀a o,h.get? a=some o→∃o',h'.get? a=some o'
 cell:∀a o,own a=some 0→i7 o=true→h.get? a=some o→h'.get? a=some o
theorem Step.refl (own:ch) (Z:aI) (h:Heap):Step own Z h own Z h:=
 ⟨fun ξ ξ e=>e,fun ξ ξ e=>.inl e,fun ξ ξ e=>.inl e,fun ξ ξ e ξ=>e,fun ξ ξ ξ e=>e,fun ξ o e=>⟨o,e⟩,fun ξ ξ ξ ξ e=>e⟩
theorem Step.trans {own own' own'':ch} {Z Z' Z'':aI} {h h' h'':Heap} (a:Step own Z h own' Z' h') (b:Step own' Z' h' own'' Z'' h''):Step own Z h own'' Z'' h'' where
 z:=fun x o e=>b.z x o (a.z x o e)
 znew:=fun x o e=>by
  rcases b.znew x o e with e|e|⟨t,e⟩
  ·exact a.znew x o e
  ·cases q:h.get? x with
   |none=>exact .inr (.inl rfl)
   |some o'=>obtain⟨o'',q'⟩:=a.dom x o' q;rw[q'] at e;cases e
  ·rcases a.onew x _ e with e|⟨e,_⟩
   ·exact .inr (.inr ⟨t,e⟩)
   ·exact .inr (.inl e)
 onew:=fun x t e=>by
  rcases b.onew x t e with e|⟨e,u⟩
  ·exact a.onew x t e
  ·refine .inr ⟨?_,u⟩
   cases q:h.get? x with
   |none=>rfl
   |some o'=>obtain⟨o'',q'⟩:=a.dom x o' q;rw[q'] at e;cases e
 o01:=fun x t e l=>b.o01 x t (a.o01 x t e l) l
 keep:=fun x o e f=>by
  refine b.keep x o ?_ (a.keep x o e f)
  cases q:own' x with
  |none=>rfl
  |some t=>
   rcases a.onew x t q with q'|⟨q',_⟩
   ·rw[q'] at e;cases e
   ·rw[q'] at f;cases f
 dom:=fun x o e=>(a.dom x o e).elim fun o' e'=>b.dom x o' e'
 cell:=fun x o e c g=>b.cell x o (a.o01 x 0 e (by decide)) c (a.cell x o e c g)
section
variable {w:World} {h₁:Heap} {os:OsState} {F:Fm} {own own':ch} {Z Z':aI} {m:Str→Option Value} {st:St} {s s':Shared} {A:Around}
set_option tactic.hygienic true in
theorem aU.mono {h h':Heap} {x:Nat×Bool} {val:Value} (H:aU F h own m x val) (o0:∀b,own b=some 0→own' b=some 0) (k0:∀b o,own b=some 0→b≠F.env.locals→h.get? b=some o→h'.get? b=some o):
  aU F h' own' m x val:=by
 unfold aU at H ⊢
 split
 ·rename_i c
  rw[if_pos c] at H
  refine bc fun G=>?_;obtain⟨a,o,e1,e2,e3,e4,e5⟩:=H
  refine G ?_;clear G;exact⟨a,o,e1,o0 _ e2,e3,k0 _ _ e2 e3 e4,e5⟩
 ·rename_i c
  rw[if_neg c] at H
  exact H
theorem bN.mono {h h':Heap} {t:Nat} {mo:MO} {a:Addr} (R:bN w Z own h t mo a) (z:rM Z Z') (ot:∀b,own b=some t→own' b=some t) (kt:∀b o,own b=some t→h.get? b=some o→h'.get? b=some o):
  bN w Z' own' h' t mo a:=by
 cases R with
 |list e1 e2 e5=>exact .list (ot _ e1) (kt _ _ e1 e2) (e5.mono z)
 |inst q e1 e2 e3 e4 e5 e6 e7 e8 e9=>exact .inst q (ot _ e1) (ot _ e2) e3 (kt _ _ e1 e4) (kt _ _ e2 e5) e6 e7 (e8.mono z) e9
theorem bI.mono {h h':Heap} {i:Nat} {x:Nat×Bool} {l:bB} (R:bI w F Z own h m i x l) (z:rM Z Z') (ot:∀b t,own b=some t→t < 2∨t=i+2→own' b=some t)
  (kt:∀b o t,own b=some t→t < 2∨t=i+2→b≠F.env.locals→h.get? b=some o→h'.get? b=some o) (tl:own F.env.locals=some 0):bI w F Z' own' h' m i x l:=by
 have ne:∀{b t},own b=some t→t≠0→b≠F.env.locals:=fun e q r=>q (by rw[r,tl] at e;exact(Option.some.inj e).symm)
 cases R with
 |un=>exact .un
 |v e1 e2=>exact .v (e1.mono (fun b e=>ot b 0 e (.inl (by lia))) fun b o e q=>kt b o 0 e (.inl (by lia)) q) (e2.mono z)
 |own e1 e2=>exact .own (e1.mono (fun b e=>ot b 0 e (.inl (by lia))) fun b o e q=>kt b o 0 e (.inl (by lia)) q) (e2.mono z (fun b e=>ot b _ e (.inr rfl)) fun b o e=>kt b o _ e (.inr rfl) (ne e (by lia)))
 |inh e1 e2=>exact .inh (e1.mono (fun b e=>ot b 0 e (.inl (by lia))) fun b o e q=>kt b o 0 e (.inl (by lia)) q) (e2.mono z (fun b e=>ot b _ e (.inl (by lia))) fun b o e=>kt b o _ e (.inl (by lia)) (ne e (by lia)))
theorem bt.grow (I:bt w h₁ os F own Z m st s) (k:∀b o,s.heap.get? b=some o→s'.heap.get? b=some o) (g:s'.gens=s.gens) (o:s'.os=s.os):bt w h₁ os F own Z m st s' where
 zin:=fun a o e=>k _ _ (I.zin a o e)
 base:=I.base
 ns:=I.ns.keeps k
 tagL:=I.tagL
 disj:=I.disj
 len:=I.len
 locs:=fun i x l e1 e2=>(I.locs i x l e1 e2).mono (fun ξ ξ e=>e) (fun ξ ξ e ξ=>e) (fun ξ ξ ξ ξ ξ ξ e=>k _ _ e) I.tagL
 gens:=g.trans I.gens
 os:=o.trans I.os
 odom:=fun a e=>(I.odom a e).imp fun ξ q=>k _ _ q
 inh1:=I.inh1
theorem Step.grow {h h':Heap} (k:∀b o,h.get? b=some o→h'.get? b=some o):Step own Z h own Z h':=
 ⟨fun ξ ξ e=>e,fun ξ ξ e=>.inl e,fun ξ ξ e=>.inl e,fun ξ ξ e ξ=>e,fun ξ o ξ e=>k _ o e,fun ξ o e=>⟨o,k _ _ e⟩,fun ξ ξ ξ ξ e=>k _ _ e⟩
theorem bt.free (I:bt w h₁ os F own Z m st s) {a:Addr} (e:s.heap.get? a=none):own a=none:=by
 cases q:own a with
 |none=>rfl
 |some t=>obtain⟨o,q'⟩:=I.odom a (by rw[q];exact fun c=>nn c.symm);rw[e] at q';exact nn q'
theorem bt.zfree (I:bt w h₁ os F own Z m st s) {a:Addr} (e:s.heap.get? a=none):Z a=none:=by
 cases q:Z a with
 |none=>rfl
 |some o=>rw[I.zin a o q] at e;cases e
noncomputable def addZ (Z:aI) (a:Addr) (o:Obj):aI:=fun b=>if b=a then some o else Z b
set_option tactic.hygienic true in
theorem bt.addZ (I:bt w h₁ os F own Z m st s) {a:Addr} {o:Obj} (e:s.heap.get? a=some o) (f:own a=none) (z:Z a=none):bt w h₁ os F own (addZ Z a o) m st s where
 zin:=fun b o' q=>by
  unfold Mine.addZ at q
  split at q
  ·rename_i c;subst c;cases q;exact e
  ·exact I.zin b o' q
 base:=fun b o' q=>by
  unfold Mine.addZ
  split
  ·rename_i c;subst c;rw[I.base _ _ q] at z;cases z
  ·exact I.base b o' q
 ns:=I.ns
 tagL:=I.tagL
 disj:=fun b q=>by
  unfold Mine.addZ
  split
  ·rename_i c;subst c;exact absurd f q
  ·exact I.disj b q
 len:=I.len
 locs:=fun i x l e1 e2=>(I.locs i x l e1 e2).mono (fun b o' q=>by
   unfold Mine.addZ
   split
   ·rename_i c;subst c;rw[z] at q;exact nn q
   ·exact q) (fun ξ ξ e ξ=>e) (fun ξ ξ ξ ξ ξ ξ e=>e) I.tagL
 gens:=I.gens
 os:=I.os
 odom:=I.odom
 inh1:=I.inh1
set_option tactic.hygienic true in
theorem Step.addZ {h h':Heap} (S:Step own Z h own' Z' h') {a:Addr} {o:Obj} (f:h.get? a=none) (z:Z' a=none):Step own Z h own' (addZ Z' a o) h' where
 z:=fun b o' e=>by
  unfold Mine.addZ
  split
  ·rename_i c;subst c;rw[S.z _ _ e] at z;cases z
  ·exact S.z b o' e
 znew:=fun b o' e=>by
  unfold Mine.addZ at e
  split at e
  ·rename_i c;subst c;exact .inr (.inl f)
  ·exact S.znew b o' e
 onew:=S.onew
 o01:=S.o01
 keep:=S.keep
 dom:=S.dom
 cell:=S.cell
theorem fO (Z:aI) (a:Addr) (o:Obj):addZ Z a o a=some o:=if_pos rfl
set_option tactic.hygienic true in
theorem gN {Z:aI} {a:Addr} {o:Obj} (z:Z a=none):rM Z (addZ Z a o):=fun b o' e=>by
 unfold addZ
 split
 ·rename_i c;subst c;rw[z] at e;exact nn e
 ·exact e
theorem iM {st:St} {i:Nat} {l:bB} (H:∀(i j:Nat) (m m':MO),st[i]?=some (.inh m)→st[j]?=some (.inh m')→i=j) (hl:∀m,l=.inh m→∃m',st[i]?=some (.inh m')):
  ∀(j k:Nat) (m m':MO),(st.set i l)[j]?=some (.inh m)→(st.set i l)[k]?=some (.inh m')→j=k:=by
 have old:∀(j:Nat) (m:MO),(st.set i l)[j]?=some (.inh m)→∃m',st[j]?=some (.inh m'):=fun j m e=>by
  by_cases c:i=j
  ·subst c
   have hlt:i < st.length:=by
    have:=(List.getElem?_eq_some_iff.mp e).1
    rwa [List.length_set] at this
   rw[List.getElem?_set_self hlt] at e
   exact hl m (Option.some.inj e)
  ·rw[List.getElem?_set_ne c] at e
   exact⟨m,e⟩
 intro j k m m' e1 e2
 obtain⟨_,h1⟩:=old j m e1
 obtain⟨_,h2⟩:=old k m' e2
 exact H j k _ _ h1 h2
noncomputable def Da (own:ch) (t:Nat):ch:=fun b=>if own b=some t then none else own b
noncomputable def nV (own:ch) (Z:aI) (h:Heap) (t:Nat):aI:=fun b=>if own b=some t then h.get? b else Z b
theorem Gk (I:bt w h₁ os F own Z m st s) (t:Nat):rM Z (nV own Z s.heap t):=fun b o e=>by
 unfold nV
 split
 ·exact I.zin b o e
 ·exact e
theorem bN.fz {h:Heap} {t:Nat} {mo:MO} {a:Addr} (R:bN w Z own h t mo a) (z:rM Z (nV own Z h t)):aA w (nV own Z h t) (fz mo) (.ref a):=by
 cases R with
 |list e1 e2 e5=>exact .list (o:=_) (by unfold nV;rw[if_pos e1];exact e2) rfl rfl (e5.mono z)
 |inst q e1 e2 e3 e4 e5 e6 e7 e8 e9=>exact .inst q (by unfold nV;rw[if_pos e1];exact e4) (by unfold nV;rw[if_pos e2];exact e5) e6 (e8.mono z) e9
set_option tactic.hygienic true in
theorem bt.fz (I:bt w h₁ os F own Z m st s) {i:Nat} {mo:MO} (hi:st[i]?=some (.own mo)):
  ∃x a,F.ns[i]?=some x∧aU F s.heap own m x (.ref a)∧bt w h₁ os F (Da own (i+2)) (nV own Z s.heap (i+2)) m (st.set i (.v (fz mo))) s∧Step own Z s.heap (Da own (i+2)) (nV own Z s.heap (i+2)) s.heap∧aA w (nV own Z s.heap (i+2)) (Mine.fz mo) (.ref a):=by
 have z:=Gk I (i+2)
 have hlt:i < st.length:=(List.getElem?_eq_some_iff.mp hi).1
 have hlt':i < F.ns.length:=by rw[← I.len];exact hlt
 have hx:F.ns[i]?=some F.ns[i]:=List.getElem?_eq_getElem hlt'
 have L:=I.locs i _ _ hx hi
 induction L using bI.ownE with
 |own H R=>
  rename_i a
  have o01:∀b t,own b=some t→t≠i+2→Da own (i+2) b=some t:=fun b t e q=>by
   unfold Da;rw[if_neg (by rw[e];exact fun c=>q (Option.some.inj c))];exact e
  have H':aU F s.heap (Da own (i+2)) m F.ns[i] (.ref a):=H.mono (fun b e=>o01 b 0 e (by lia)) fun ξ ξ ξ ξ e=>e
  refine⟨_,a,hx,H,⟨?_,?_,I.ns,o01 _ _ I.tagL (by lia),?_,by rw[List.length_set];exact I.len,?_,I.gens,I.os,?_,iM I.inh1 (fun ξ e=>(by first|exact nn e|exact nn e.symm|exact ff e|exact absurd e List.not_mem_nil|cases e))⟩,⟨z,?_,?_,fun b t e q=>o01 b t e (by lia),fun ξ ξ ξ e=>e,fun ξ o e=>⟨o,e⟩,fun ξ ξ ξ ξ e=>e⟩,R.fz z⟩
  ·intro b o e
   unfold nV at e
   split at e
   ·exact e
   ·exact I.zin b o e
  ·intro b o e;exact z _ _ (I.base b o e)
  ·intro b q
   unfold Da at q;unfold nV
   split
   ·rename_i c;rw[if_pos c] at q;exact absurd rfl q
   ·rename_i c;rw[if_neg c] at q;exact I.disj b q
  ·intro j x l e1 e2
   by_cases c:i=j
   ·subst c
    rw[List.getElem?_set_self hlt] at e2
    cases e2
    rw[hx] at e1;cases e1
    exact .v H' (R.fz z)
   ·rw[List.getElem?_set_ne c] at e2
    exact(I.locs j x l e1 e2).mono z (fun b t e q=>o01 b t e (by lia)) (fun ξ ξ ξ ξ ξ ξ e=>e) I.tagL
  ·intro b q
   unfold Da at q
   split at q
   ·exact absurd rfl q
   ·exact I.odom b q
  ·intro b o e
   unfold nV at e
   split at e
   ·rename_i c;exact .inr (.inr ⟨i,c⟩)
   ·exact .inl e
  ·intro b t e
   unfold Da at e
   split at e
   ·exact nn e
   ·exact .inl e
inductive PE (w:World) (h₁:Heap) (os:OsState) (F:Fm) (own:ch) (Z:aI) (m:Str→Option Value) (h:Heap) (K:V→St→Prop) (val:Value) (s':Shared):Prop
 |mk (own':ch) (Z':aI) (v:V) (st':St) (I:bt w h₁ os F own' Z' m st' s') (S:Step own Z h own' Z' s'.heap) (R:aA w Z' v val) (k:K v st')
theorem PE.after {own':ch} {Z':aI} {h h':Heap} {K:V→St→Prop} {val:Value} (S:Step own Z h own' Z' h') (p:PE w h₁ os F own' Z' m h' K val s'):PE w h₁ os F own Z m h K val s':=
 by cases p with|mk a b c d e1 e2 e3 e4=>exact⟨a,b,c,d,e1,S.trans e2,e3,e4⟩
noncomputable def SE (w:World) (h₁:Heap) (os:OsState) (A:Around) (F:Fm) (T:fY) (call:aM) (c:E) (e:Expr):Prop:=
 ∀own Z m st s K,bt w h₁ os F own Z m st s→ay T call c st K→wpAny (model P0 w) A (eval e F.env) (PE w h₁ os F own Z m s.heap K) (fun ξ ξ=>False) s
theorem SE.use {T:fY} {call:aM} {c:E} {e:Expr} {K:V→St→Prop} {Q:Value→Shared→Prop} (H:SE w h₁ os A F T call c e) (I:bt w h₁ os F own Z m st s) (hc:ay T call c st K)
  (k:∀own' Z' v st' val s',bt w h₁ os F own' Z' m st' s'→Step own Z s.heap own' Z' s'.heap→aA w Z' v val→K v st'→Q val s'):wpAny (model P0 w) A (eval e F.env) Q (fun ξ ξ=>False) s:=
 wpAny_mono (H own Z m st s K I hc) (fun val s' p=>by cases p with|mk a b c d e1 e2 e3 e4=>exact k a b c d val s' e1 e2 e3 e4) fun ξ ξ f=>f
theorem PE.now {K:V→St→Prop} {v:V} {val:Value} {t:Nat} (I:bt w h₁ os F own Z m st s) (R:aA w Z v val) (k:K v st):PE w h₁ os F own Z m s.heap K val { s with toks:=t }:=
 ⟨own,Z,v,st,I.grow (fun ξ ξ e=>e) rfl rfl,Step.refl ..,R,k⟩
theorem PE.here {K:V→St→Prop} {v:V} {val:Value} (I:bt w h₁ os F own Z m st s) (R:aA w Z v val) (k:K v st):PE w h₁ os F own Z m s.heap K val s:=
 ⟨own,Z,v,st,I,Step.refl ..,R,k⟩
theorem PE.made {K:V→St→Prop} {v:V} {o:Obj} (I:bt w h₁ os F own Z m st s) (hf:o.isFreed=false) (k:K v st) (R:aA w (Mine.addZ Z s.heap.objs.size o) v (.ref s.heap.objs.size)):
  PE w h₁ os F own Z m s.heap K (.ref s.heap.objs.size) { s with heap:=s.heap.push o }:=by
 have no:s.heap.get? s.heap.objs.size=none:=by
  cases q:s.heap.get? s.heap.objs.size with
  |none=>rfl
  |some o=>exact absurd (Heap.lt_size q) (Nat.lt_irrefl _)
 have I':bt w h₁ os F own Z m st { s with heap:=s.heap.push o }:=I.grow (fun ξ ξ e=>Heap.get?_push_of_some o e) rfl rfl
 exact⟨own,_,v,st,I'.addZ (Heap.get?_push_size _ hf) (I.free no) (I.zfree no),(Step.grow fun ξ ξ e=>Heap.get?_push_of_some o e).addZ no (I.zfree no),R,k⟩
variable {E:Value→Shared→Prop}
theorem aH.nilE {motive:(xs:List Value)→aH w Z [] xs→Prop} (nil:motive [] .nil) {xs:List Value} (R:aH w Z [] xs):motive xs R:=by cases R;exact nil
theorem aH.consE {v:V} {l:List V} {motive:(xs:List Value)→aH w Z (v::l) xs→Prop} (cons:∀{x xs} (a:aA w Z v x) (b:aH w Z l xs),motive (x::xs) (.cons a b)) {xs:List Value} (R:aH w Z (v::l) xs):motive xs R:=by
 cases R;exact cons ‹_› ‹_›
theorem aH.len {l:List V} {xs:List Value} (R:aH w Z l xs):l.length=xs.length:=by
 induction l generalizing xs with
 |nil=>induction R using aH.nilE with
  |nil=>rfl
 |cons v l ih=>induction R using aH.consE with
  |cons a b=>exact congrArg (·+1) (ih b)
theorem aH.get {l:List V} {xs:List Value} (R:aH w Z l xs) {k:Nat} {v:V} (h:l[k]?=some v):∃x,xs[k]?=some x∧aA w Z v x:=by
 induction l generalizing xs k with
 |nil=>exact nn h
 |cons u l ih=>induction R using aH.consE with
  |cons a b=>cases k with
   |zero=>exact⟨_,rfl,Option.some.inj h▸a⟩
   |succ k=>exact ih b h
theorem aH.app {l:List V} {xs:List Value} {l':List V} {xs':List Value} (R:aH w Z l xs) (h:aH w Z l' xs'):aH w Z (l++l') (xs++xs'):=by
 induction l generalizing xs with
 |nil=>induction R using aH.nilE with
  |nil=>exact h
 |cons v l ih=>induction R using aH.consE with
  |cons a b=>exact .cons a (ih b)
theorem aH.drop {l:List V} {xs:List Value} (R:aH w Z l xs) (n:Nat):aH w Z (l.drop n) (xs.drop n):=by
 induction n generalizing l xs with
 |zero=>exact R
 |succ n ih=>cases l with
  |nil=>induction R using aH.nilE with
   |nil=>exact .nil
  |cons v l=>induction R using aH.consE with
   |cons a b=>exact ih b
theorem aH.take {l:List V} {xs:List Value} (R:aH w Z l xs) (n:Nat):aH w Z (l.take n) (xs.take n):=by
 induction n generalizing l xs with
 |zero=>rw[List.take_zero,List.take_zero];exact .nil
 |succ n ih=>cases l with
  |nil=>induction R using aH.nilE with
   |nil=>exact .nil
  |cons v l=>induction R using aH.consE with
   |cons a b=>exact .cons a (ih b)
theorem aH.back {l:List V} {xs:List Value} (R:aH w Z l xs) {k:Nat} {x:Value} (h:xs[k]?=some x):∃v,l[k]?=some v∧aA w Z v x:=by
 induction l generalizing xs k with
 |nil=>induction R using aH.nilE with
  |nil=>exact nn h
 |cons u l ih=>induction R using aH.consE with
  |cons a b=>cases k with
   |zero=>exact⟨_,rfl,Option.some.inj h▸a⟩
   |succ k=>exact ih b h
noncomputable abbrev pg (Z:aI) (h:Heap):Prop:=∀a o,Z a=some o→h.get? a=some o
theorem aA.ofTup {l x} (R:aA w Z (.tup l) x) (zi:pg Z s.heap):∃a xs,x=.ref a∧s.heap.IsTuple a ⟨xs⟩∧aH w Z l xs:=by
 induction R using aA.tupE with
 |tup a b c d=>exact⟨_,_,rfl,⟨_,zi _ _ a,b,_,c⟩,d⟩
theorem aA.ofList {l x} (R:aA w Z (.list l) x) (zi:pg Z s.heap):∃a xs,x=.ref a∧s.heap.IsList a ⟨xs⟩∧aH w Z l xs:=by
 induction R using aA.listE with
 |list a b c d=>exact⟨_,_,rfl,⟨_,zi _ _ a,b,_,c⟩,d⟩
theorem BA (x y:Nat):Nat.beq x y=(x == y):=by
 rw[Bool.eq_iff_iff,beq_iff_eq]
 exact⟨Nat.eq_of_beq_eq_true,fun e=>by subst e;exact Nat.beq_refl x⟩
theorem ct:∀{a b:List Nat},aW a b=(a == b)
 |[],[]=>rfl
 |[],_::_=>rfl
 |_::_,[]=>rfl
 |x::a,y::b=>by
  show(Nat.beq x y&&aW a b)=((x::a) == (y::b))
  rw[List.cons_beq_cons]
  rw[ct,BA]
theorem gE (a b:List Nat):(sS a == sS b)=(a == b):=by
 rw[← SeqAt.str_beq]
inductive Om:V→V→Bool→Prop
 |int (i j:Int):Om (.int i) (.int j) (decide (i=j))
 |str (s t:List Nat):Om (.str s) (.str t) (aW s t)
theorem kW {a b:V} {r:Bool} (h:AY a b=some r):Om a b r:=by
 unfold AY at h
 cases a<;>first|(exact nn h;done)|skip
 ·cases b<;>first|((first|exact nn h|cases h);done)|(cases h;exact .int _ _)
 ·cases b<;>first|((first|exact nn h|cases h);done)|(cases h;exact .str _ _)
theorem vX {a b:V} {r:Bool} {x y:Value} (h:AY a b=some r) (Ra:aA w Z a x) (Rb:aA w Z b y):SeqAt.EqAt A s x y r:=by
 cases kW h with
 |int i j=>induction Ra using aA.intE;induction Rb using aA.intE;exact SeqAt.EqAt.int_int _ _ _ _
 |str=>induction Ra using aA.strE;induction Rb using aA.strE;rw[ct,← gE];exact SeqAt.EqAt.str_str _ _ _ _
theorem GX {a b:V} {r:Bool} {x y:Value} (h:AY a b=some r) (Ra:aA w Z a x) (Rb:aA w Z b y):SeqAt.RcAt A s x y r:=by
 cases kW h with
 |int i j=>induction Ra using aA.intE;induction Rb using aA.intE;exact SeqAt.RcAt.int_int _ _ _ _
 |str=>induction Ra using aA.strE;induction Rb using aA.strE;rw[ct,← gE];exact SeqAt.RcAt.str_str _ _ _ _
theorem Ha {a b:V} {r:Bool} {x y:Value} (h:AY a b=some r) (Ra:aA w Z a x) (Rb:aA w Z b y):SeqAt.RcNeAt A s x y (!r):=by
 cases kW h with
 |int i j=>induction Ra using aA.intE;induction Rb using aA.intE;exact SeqAt.RcNeAt.int_int _ _ _ _
 |str=>induction Ra using aA.strE;induction Rb using aA.strE;rw[ct,← gE];exact SeqAt.RcNeAt.str_str _ _ _ _
theorem tn {f:Bool→Bool→Bool} {o1 o2:Option Bool} {r:Bool} (h:G9 f o1 o2=some r):∃p q,o1=some p∧o2=some q∧r=f p q:=by
 cases o1 with
 |none=>exact nn h
 |some p=>cases o2 with
  |none=>exact nn h
  |some q=>exact⟨p,q,rfl,rfl,(Option.some.inj h).symm⟩
theorem m4 {a b:V} {x y:List V} {r:Bool} (h:qm (a::x) (b::y)=some r):∃p q,AY a b=some p∧qm x y=some q∧r=(p&&q):=tn h
theorem yY {l l':List V} {r:Bool} (h:qm l l'=some r):l.length=l'.length:=by
 induction l generalizing l' r with
 |nil=>cases l' with
  |nil=>rfl
  |cons=>exact nn h
 |cons a x ih=>cases l' with
  |nil=>exact nn h
  |cons b y=>
   obtain⟨p,q,_,e,_⟩:=m4 h
   exact congrArg (·+1) (ih e)
noncomputable def hN:Value→Value→Bool
 |.none,.none=>true
 |.bool a,.bool b=>a == b
 |.int a _,.int b _=>a == b
 |.str a _,.str b _=>a == b
 |_,_=>false
theorem k7 {a b:V} {r:Bool} {x y:Value} (h:AY a b=some r) (Ra:aA w Z a x) (Rb:aA w Z b y):hN x y=r:=by
 cases kW h with
 |int i j=>induction Ra using aA.intE;induction Rb using aA.intE;rfl
 |str=>induction Ra using aA.strE;induction Rb using aA.strE;show(sS _ == sS _)=_;rw[ct,gE]
theorem BG {l l':List V} {r:Bool} (h:qm l l'=some r) {xs xs':List Value} (R:aH w Z l xs) (R':aH w Z l' xs'):
  (∀(j:Nat) (x y:Value),xs[j]?=some x→xs'[j]?=some y→SeqAt.EqAt A s x y (hN x y))∧r=(List.range xs.length).all fun j=>hN (xs.getD j .none) (xs'.getD j .none):=by
 induction l generalizing l' r xs xs' with
 |nil=>cases l' with
  |cons=>exact nn h
  |nil=>
   induction R using aH.nilE with
   |nil=>
   cases h
   exact⟨fun j x y e=>nn e,rfl⟩
 |cons a x ih=>cases l' with
  |nil=>exact nn h
  |cons b y=>
   obtain⟨p,q,e1,e2,rfl⟩:=m4 h
   induction R using aH.consE with
   |cons Ra ra=>
   induction R' using aH.consE with
   |cons Rb rb=>
   obtain⟨i1,i2⟩:=ih e2 ra rb
   refine⟨fun j u v h1 h2=>?_,?_⟩
   ·cases j with
    |zero=>
     cases h1;cases h2
     rw[k7 e1 Ra Rb]
     exact vX e1 Ra Rb
    |succ j=>exact i1 j u v h1 h2
   ·rw[List.length_cons,List.range_succ_eq_map,List.all_cons,List.all_map,i2]
    rw[← k7 e1 Ra Rb]
    rfl
theorem xi {a b:V} {r:Bool} {x y:Value} (hu:A.units < cLine) (zi:pg Z s.heap) (h:xW a b=some r) (Ra:aA w Z a x) (Rb:aA w Z b y):SeqAt.RcAt A s x y r∧SeqAt.RcNeAt A s x y (!r):=by
 unfold xW at h
 split at h
 ·obtain⟨p,xs,rfl,h1,r1⟩:=Ra.ofTup zi
  obtain⟨q,ys,rfl,h2,r2⟩:=Rb.ofTup zi
  have hl:xs.length=ys.length:=by rw[← r1.len,← r2.len];exact yY h
  obtain⟨i1,i2⟩:=BG (A:=A.in1) (s:=s) h r1 r2
  have e:∀j (g1:j < (Array.mk xs).size) (g2:j < (Array.mk ys).size),SeqAt.EqAt A.in1 s (Array.mk xs)[j] (Array.mk ys)[j] ((fun j=>hN (xs.getD j .none) (ys.getD j .none)) j):=fun j g1 g2=>by
   have:=i1 j _ _ (List.getElem?_eq_getElem g1) (List.getElem?_eq_getElem g2)
   show SeqAt.EqAt A.in1 s xs[j] ys[j] (hN (xs.getD j .none) (ys.getD j .none))
   rw[List.getD_eq_getElem?_getD,List.getElem?_eq_getElem g1,List.getD_eq_getElem?_getD,List.getElem?_eq_getElem g2]
   exact this
  have hs:(Array.mk xs).size=(Array.mk ys).size:=hl
  have A1:=SeqAt.RcAt.tuples h1 h2 hu e
  have A2:=SeqAt.RcNeAt.tuples h1 h2 hu e
  rw[hs,Nat.min_self,beq_self_eq_true,Bool.and_true] at A1 A2
  rw[i2,hl]
  exact⟨A1,A2⟩
 ·exact⟨GX h Ra Rb,Ha h Ra Rb⟩
theorem pE {n:Nat} (q:n≤bA):(n:Int) < 2 ^ 63:=by
 have e:n≤1000000:=q
 lia
theorem m7 {b:Bool} {l:List V} (h:(if l.length≤bA then some (!l.isEmpty) else .none)=some b):l.length≤bA∧b=!l.isEmpty:=by
 by_cases q:l.length≤bA
 ·rw[if_pos q] at h;exact⟨q,(Option.some.inj h).symm⟩
 ·rw[if_neg q] at h;exact nn h
theorem pS {l:List V} {xs:List Value} (R:aH w Z l xs):(Array.mk xs).isEmpty=l.isEmpty:=by
 cases l with
 |nil=>induction R using aH.nilE with
  |nil=>rfl
 |cons=>induction R using aH.consE with
  |cons=>rfl
theorem iJ {v:V} {b:Bool} {x:Value} {Q:Bool→Shared→Prop} (h:c9 v=some b) (R:aA w Z v x) (zi:pg Z s.heap) (k:∀t,Q b { s with toks:=t }):wpAny (model P0 w) A (truthy x) Q E s:=by
 cases v with
 |none=>induction R using aA.noneE with
  |none=>cases h;exact PyProof.Rows.truthy_none (k s.toks)
 |bool b=>induction R using aA.boolE with
  |bool=>cases h;exact wpAny_truthy_bool (k s.toks)
 |int i=>induction R using aA.intE with
  |int t=>
  cases h
  refine PyProof.Rows.truthy_int ?_
  rw[show(i != 0)=decide (i≠0) from by rw[Bool.eq_iff_iff,bne_iff_ne,decide_eq_true_iff]]
  exact k s.toks
 |str l=>induction R using aA.strE with
  |str t=>
  have h:(if l.length≤bA then some (!l.isEmpty) else .none)=some b:=h
  by_cases q:l.length≤bA
  ·rw[if_pos q] at h
   cases h
   refine PySem.P.truthy_str (show ¬(l.length:Int) ≥ 2 ^ 63 by have:=pE q;lia) ?_
   rw[show((((sS l).length:Nat):Int) != 0)=!l.isEmpty from by cases l<;>rfl]
   exact k _
  ·rw[if_neg q] at h;exact nn h
 |tup l=>induction R using aA.tupE with
  |@tup _ _ _ xs a b' c d=>
  obtain⟨q,rfl⟩:=m7 h
  refine PyProof.Rows.truthy_tuple (items:=⟨xs⟩) ⟨_,zi _ _ a,b',_,c⟩ (by have:=pE (d.len▸q);exact this) ?_
  rw[pS d]
  exact k _
 |list l=>induction R using aA.listE with
  |@list _ _ _ xs a b' c d=>
  obtain⟨q,rfl⟩:=m7 h
  refine wpAny_truthy_list (items:=⟨xs⟩) ⟨_,zi _ _ a,b',_,c⟩ (by have:=pE (d.len▸q);exact this) ?_
  rw[pS d]
  exact k _
 |_=>exact nn h
theorem Cg {a:V} {x:Value} (Ra:aA w Z a x) {l:List V} {r:Bool} (h:Gc a l=some r) {xs:List Value} (R:aH w Z l xs):(∀y∈xs,SeqAt.EqAt A s y x (hN y x))∧r=xs.any fun y=>hN y x:=by
 induction l generalizing r xs with
 |nil=>induction R using aH.nilE with
  |nil=>cases h;exact⟨(fun y e=>absurd e List.not_mem_nil),rfl⟩
 |cons b l ih=>induction R using aH.consE with
  |cons Rb rb=>
  obtain⟨p,q,e1,e2,rfl⟩:=tn h
  obtain⟨i1,i2⟩:=ih e2 rb
  refine⟨fun y e=>?_,by rw[List.any_cons,k7 e1 Rb Ra,← i2]⟩
  rcases List.mem_cons.mp e with rfl|e
  ·rw[k7 e1 Rb Ra];exact vX e1 Rb Ra
  ·exact i1 y e
theorem Cu (c:Nat) (t:List Nat):i5 [c] t=decide (c∈t):=by
 show t.any (Nat.beq c)=_
 rw[Bool.eq_iff_iff,List.any_eq_true,decide_eq_true_iff]
 constructor
 ·rintro⟨y,e,q⟩;rw[Nat.eq_of_beq_eq_true q];exact e
 ·intro e;exact⟨c,e,Nat.beq_refl c⟩
noncomputable def l9 (w:World) (Z:aI):Option V→Option Value→Prop
 |.none,.none=>True
 |some v,some y=>aA w Z v y
 |_,_=>False
theorem dK.nilE {motive:(xs:List (Int×Value))→dK w Z [] xs→Prop} (nil:motive [] .nil) {xs:List (Int×Value)} (R:dK w Z [] xs):motive xs R:=by cases R;exact nil
theorem dK.consE {es:List (V×V)} {motive:(e:V×V)→(xs:List (Int×Value))→dK w Z (e::es) xs→Prop} (cons:∀{i v x xs} (a:aA w Z v x) (b:dK w Z es xs),motive (.int i,v) ((i,x)::xs) (.cons a b)) {e:V×V} {xs:List (Int×Value)} (R:dK w Z (e::es) xs):motive e xs R:=by
 cases R;exact cons ‹_› ‹_›
theorem dP.nilE {motive:(xs:List (Str×Value))→dP w Z [] xs→Prop} (nil:motive [] .nil) {xs:List (Str×Value)} (R:dP w Z [] xs):motive xs R:=by cases R;exact nil
theorem dP.consE {es:List (V×V)} {motive:(e:V×V)→(xs:List (Str×Value))→dP w Z (e::es) xs→Prop} (cons:∀{s v x xs} (a:aA w Z v x) (b:dP w Z es xs),motive (.str s,v) ((sS s,x)::xs) (.cons a b)) {e:V×V} {xs:List (Str×Value)} (R:dP w Z (e::es) xs):motive e xs R:=by
 cases R;exact cons ‹_› ‹_›
theorem vd {k:Int} {es:List (V×V)} {kvs:List (Int×Value)} {r:Option V} (R:dK w Z es kvs) (h:rJ (.int k) es=some r):l9 w Z r (zr k kvs):=by
 induction es generalizing kvs with
 |nil=>induction R using dK.nilE with
  |nil=>cases h;trivial
 |cons e es ih=>induction R using dK.consE with
  |@cons i v _ _ Rv rb=>
  have h:(match some (decide (i=k)) with|some true=>some (some v)|some false=>rJ (V.int k) es|.none=>.none)=some r:=h
  show l9 w Z r (if i=k then some _ else zr k _)
  by_cases c:i=k
  ·rw[if_pos c]
   rw[decide_eq_true c] at h
   cases h
   exact Rv
  ·rw[if_neg c]
   rw[decide_eq_false c] at h
   exact ih rb h
theorem vh {k:List Nat} {es:List (V×V)} {kvs:List (Str×Value)} {r:Option V} (R:dP w Z es kvs) (h:rJ (.str k) es=some r):l9 w Z r (zr (sS k) kvs):=by
 induction es generalizing kvs with
 |nil=>induction R using dP.nilE with
  |nil=>cases h;trivial
 |cons e es ih=>induction R using dP.consE with
  |@cons i v _ _ Rv rb=>
  have h:(match some (aW i k) with|some true=>some (some v)|some false=>rJ (V.str k) es|.none=>.none)=some r:=h
  show l9 w Z r (if sS i=sS k then some _ else zr (sS k) _)
  by_cases c:sS i=sS k
  ·rw[if_pos c]
   rw[ct,← gE,c,beq_self_eq_true] at h
   cases h
   exact Rv
  ·rw[if_neg c]
   rw[ct,← gE,beq_eq_false_iff_ne.mpr c] at h
   exact ih rb h
theorem aA.dictE {es:List (V×V)} {motive:(x:Value)→aA w Z (.dict es) x→Prop} (dictI:∀{kvs a o f} (n:(a == sysModules)=false) (a':Z a=some o) (b:t7 (PySem.intKind P0 w) o f) (c:dK w Z es kvs) (d:∀k,f k=zr k kvs),motive (.ref a) (.dictI n a' b c d))
  (dictS:∀{kvs a o f} (n:(a == sysModules)=false) (a':Z a=some o) (b:t7 (PySem.strKind P0 w) o f) (c:dP w Z es kvs) (d:∀k,f k=zr k kvs),motive (.ref a) (.dictS n a' b c d)) {x:Value} (R:aA w Z (.dict es) x):motive x R:=by
 cases R with
 |dictI n a b c d=>exact dictI n a b c d
 |dictS n a b c d=>exact dictS n a b c d
theorem jB {es:List (V×V)} {k:V} {r:Option V} {x y:Value} (h:kj k es=some r) (R:aA w Z (.dict es) x) (Rk:aA w Z k y) (zi:pg Z s.heap):
  ∃(a:Addr) (v:Option Value),x=.ref a∧(a == sysModules)=false∧l9 w Z r v∧
   ∃(K:Type) (_:DecidableEq K) (knd:PySem.KeyKind P0 w K) (f:K→Option Value) (kk:K),knd.is kk y=true∧s.heap.MapOf knd a f∧f kk=v:=by
 cases es with
 |nil=>exact nn h
 |cons e es=>
  have h:rJ k (e::es)=some r:=h
  induction R using aA.dictE with
  |dictI n a b c d=>
   cases k with
   |int i=>
    induction Rk using aA.intE with
    |int t=>
    obtain⟨ed,es',ep,q1,q2,q3⟩:=b
    exact⟨_,_,rfl,n,vd c h,Int,inferInstance,PySem.intKind P0 w,_,i,beq_self_eq_true i,⟨_,es',ep,zi _ _ a,ed,q1,q2,q3⟩,d i⟩
   |_=>induction c using dK.consE with
    |cons=>exact nn h
  |dictS n a b c d=>
   cases k with
   |str i=>
    induction Rk using aA.strE with
    |str t=>
    obtain⟨ed,es',ep,q1,q2,q3⟩:=b
    exact⟨_,_,rfl,n,vh c h,Str,inferInstance,PySem.strKind P0 w,_,sS i,by show(sS i == sS i)=true;exact beq_self_eq_true _,⟨_,es',ep,zi _ _ a,ed,q1,q2,q3⟩,d _⟩
   |_=>induction c using dP.consE with
    |cons=>exact nn h
noncomputable def GI:AW→CmpOp
 |.eq=>.Eq|.ne=>.NotEq|.lt=>.Lt|.gt=>.Gt|.ge=>.GtE|.in_=>.In|.nin=>.NotIn|.is_=>.Is|.isn=>.IsNot
theorem wm {a b:V} {r:Bool} {x y:Value} {Q:Value→Shared→Prop} (h:HH a b=some r) (Ra:aA w Z a x) (Rb:aA w Z b y) (zi:pg Z s.heap):
  ((∀t,Q (.bool r) { s with toks:=t })→wpAny (model P0 w) A (compareOp .In x y) Q E s)∧((∀t,Q (.bool (!r)) { s with toks:=t })→wpAny (model P0 w) A (compareOp .NotIn x y) Q E s):=by
 cases b with
 |tup l=>
  obtain⟨p,xs,rfl,h1,r1⟩:=Rb.ofTup zi
  obtain⟨i1,i2⟩:=Cg (A:=A.in1) (s:=s) Ra h r1
  have hy:∀y,y∈(Array.mk xs)→SeqAt.EqAt A.in1 s y x (hN y x):=fun y e=>i1 y (by rw[Array.mem_def] at e;exact e)
  have e:(Array.mk xs).any (fun y=>hN y x)=xs.any fun y=>hN y x:=by rw[← Array.any_toList]
  exact⟨fun k=>SeqAt.in_tupleAt _ h1 hy (by rw[e,← i2];exact k s.toks),fun k=>SeqAt.notIn_tupleAt _ h1 hy (by rw[e,← i2];exact k s.toks)⟩
 |str t=>cases a with
  |str a=>cases a with
   |nil=>exact nn h
   |cons c a=>cases a with
    |cons=>exact nn h
    |nil=>
     cases h
     induction Ra using aA.strE with
     |str ta=>
     induction Rb using aA.strE with
     |str tb=>
     have e:(!(Builtin.Str.occurrences (sS t) (sS [c]) 0 (sS t).length 1).isEmpty)=i5 [c] t:=by
      rw[Cu];exact PySem.StrLaws.found_one (sS t) c
     exact⟨fun k=>PyProof.Rows.in_str (by rw[e];exact k s.toks),fun k=>PyProof.Rows.notIn_str (by rw[e];exact k s.toks)⟩
  |_=>exact nn h
 |dict es=>
  have h:(kj a es).map (·.isSome)=some r:=h
  cases q:kj a es with
  |none=>rw[q] at h;exact nn h
  |some r'=>
   rw[q] at h
   cases h
   obtain⟨p,v,rfl,hs,hv,K,dk,knd,f,kk,k1,k2,k3⟩:=jB q Rb Ra zi
   have e:r'.isSome=(f kk).isSome:=by
    rw[k3]
    cases r'<;>cases v<;>first|rfl|exact hv.elim
   show((∀t,Q (.bool r'.isSome) { s with toks:=t })→_)∧((∀t,Q (.bool (!r'.isSome)) { s with toks:=t })→_)
   rw[e]
   exact⟨fun k=>wpAny_in_of k1 hs k2 (k _),fun k=>wpAny_notIn_of k1 hs k2 (k _)⟩
 |_=>exact nn h
theorem mi {v:V} {x:Value} (R:aA w Z v x):(x == .none)=isNone v:=by
 cases R<;>rfl
theorem xH {o:AW} {a b:V} {r:Bool} {x y:Value} {Q:Value→Shared→Prop} (hu:A.units < cLine) (h:Do o a b=some r) (Ra:aA w Z a x) (Rb:aA w Z b y) (zi:pg Z s.heap)
  (k:∀t,Q (.bool r) { s with toks:=t }):wpAny (model P0 w) A (compareOp (GI o) x y) Q E s:=by
 cases o with
 |eq=>exact(xi hu zi h Ra Rb).1 _ _ _ _ (k s.toks)
 |ne=>
  cases q:xW a b with
  |none=>rw[show Do .ne a b=qj (xW a b) from rfl,q] at h;exact nn h
  |some r'=>
   rw[show Do .ne a b=qj (xW a b) from rfl,q] at h
   cases h
   exact(xi hu zi q Ra Rb).2 _ _ _ _ (k s.toks)
 |in_=>exact(wm h Ra Rb zi).1 k
 |nin=>
  cases q:HH a b with
  |none=>rw[show Do .nin a b=qj (HH a b) from rfl,q] at h;exact nn h
  |some r'=>
   rw[show Do .nin a b=qj (HH a b) from rfl,q] at h
   cases h
   exact(wm q Ra Rb zi).2 k
 |lt=>cases a with
  |int a=>cases b with
   |int b=>
    induction Ra using aA.intE with
    |int t=>
    induction Rb using aA.intE with
    |int u=>
    cases h
    exact PyProof.Rows.lt_int (k s.toks)
   |_=>exact nn h
  |_=>exact nn h
 |gt=>cases a with
  |int a=>cases b with
   |int b=>
    induction Ra using aA.intE with
    |int t=>
    induction Rb using aA.intE with
    |int u=>
    cases h
    exact PyProof.Rows.gt_int (k s.toks)
   |_=>exact nn h
  |_=>exact nn h
 |ge=>cases a with
  |int a=>cases b with
   |int b=>
    induction Ra using aA.intE with
    |int t=>
    induction Rb using aA.intE with
    |int u=>
    cases h
    exact PySem.P.ge_int (k s.toks)
   |_=>exact nn h
  |_=>exact nn h
 |is_=>cases b with
  |none=>
   induction Rb using aA.noneE with
   |none=>
   cases h
   refine is_none ?_
   rw[mi Ra]
   exact k s.toks
  |_=>exact nn h
 |isn=>cases b with
  |none=>
   induction Rb using aA.noneE with
   |none=>
   cases h
   refine isNot_none ?_
   rw[mi Ra]
   exact k s.toks
  |_=>exact nn h
noncomputable def A7:pd→Operator
 |.add=>.Add|.sub=>.Sub|.mul=>.Mult|.fdiv=>.FloorDiv|.mod=>.Mod|.band=>.BitAnd|.bor=>.BitOr
theorem oX (a b:List Nat):sS a++sS b=sS (a++b):=by
 show(⟨Array.mk a++Array.mk b⟩:Str)=⟨⟨a++b⟩⟩
 rw[List.append_toArray]
set_option tactic.hygienic true in
theorem Ga {a:Int} (h:a.natAbs < 2 ^ 40):Builtin.Int.intBits a≤40:=by
 unfold Builtin.Int.intBits
 split
 ·lia
 ·rename_i c
  have c:a.natAbs≠0:=fun e=>c (beq_iff_eq.mpr (Int.natAbs_eq_zero.mp e))
  have:=(Nat.log2_lt c).mpr h
  lia
theorem FA {a b:Int} (h:a.natAbs < 2 ^ 40):IntMulOk a b:=by
 unfold IntMulOk
 have e:decide (Builtin.Int.intBits a > shortFactorBits)=false:=decide_eq_false (by have:=Ga h;unfold shortFactorBits;lia)
 rw[e]
 exact Bool.false_ne_true
set_option tactic.hygienic true in
theorem FQ {a b:Int} (h:b.natAbs < 2 ^ 40):Builtin.divisionGoesByPylong a b=false:=by
 unfold Builtin.divisionGoesByPylong
 dsimp only
 rw[Bool.and_eq_false_iff]
 left
 rw[decide_eq_false_iff_not]
 split
 ·lia
 ·rename_i c
  have c:b.natAbs≠0:=fun e=>c (beq_iff_eq.mpr (Int.natAbs_eq_zero.mp e))
  have:=(Nat.log2_lt c).mpr h
  lia
theorem m0 (a:List Nat):∀(n:Nat) (acc:List Nat),(List.replicate n (Array.mk a)).foldl (fun x y=>x++y) (Array.mk acc)=Array.mk (acc++(List.replicate n a).flatten)
 |0,acc=>by rw[List.replicate_zero,List.replicate_zero,List.flatten_nil,List.append_nil];rfl
 |n+1,acc=>by
  rw[List.replicate_succ,List.replicate_succ,List.foldl_cons,List.append_toArray,m0 a n,List.flatten_cons,List.append_assoc]
set_option tactic.hygienic true in
theorem CF (a:List Nat) (n:Nat):Txt.mul (sS a) (.ofNat n)=sS (List.replicate n a).flatten:=by
 unfold Txt.mul
 split
 ·rename_i c
  have:n=0:=by(have c:(n:Int) < 1:=c);lia
  subst this;rfl
 ·split
  ·rename_i c
   rw[Bool.or_eq_true,beq_iff_eq,beq_iff_eq] at c
   rcases c with c|c
   ·have:n=1:=by(have c:(n:Int)=1:=c);lia
    subst this;rw[List.replicate_succ,List.replicate_zero,List.flatten_cons,List.flatten_nil,List.append_nil]
   ·have:a=[]:=List.eq_nil_of_length_eq_zero c
    subst this
    show sS []=sS _
    rw[List.flatten_eq_nil_iff.mpr fun l e=>List.eq_of_mem_replicate e]
  ·show(⟨List.foldl (fun x y=>x++y) (Array.mk []) (List.replicate n (Array.mk a))⟩:Str)=_
   rw[m0,List.nil_append]
theorem vm {a:List Nat} {n:Nat} (h:a.length * n≤bA) (hn:n≤bA):MulOk (sS a) (.ofNat n):=by
 have e:a.length * n≤1000000:=h
 have e':n≤1000000:=hn
 refine⟨?_,fun h1 h2=>?_,fun ξ ξ=>?_⟩
 ·rw[Bool.or_eq_false_iff,decide_eq_false_iff_not,decide_eq_false_iff_not]
  show ¬((n:Int) < _)∧¬((n:Int) ≥ _)
  lia
 ·show ¬((a.length:Int) > _ / (n:Int))
  have h1:¬((n:Int) < 1):=h1
  have p:(0:Int) < n:=by lia
  rw[Int.not_lt]
  refine Int.le_ediv_of_mul_le p ?_
  have:((a.length * n:Nat):Int)≤((1000000:Nat):Int):=Int.ofNat_le.mpr e
  rw[Int.natCast_mul] at this
  lia
 ·show Builtin.Str.tooLong (a.length * n)=false
  unfold Builtin.Str.tooLong
  rw[decide_eq_false_iff_not]
  unfold sizeLine at *
  lia
theorem bt.zi (I:bt w h₁ os F own Z m st s):pg Z s.heap:=I.zin
theorem lm {K:V→St→Prop} {l:List V} {xs:List Value} {n:Nat} (I:bt w h₁ os F own Z m st s) (R:aH w Z l xs) (k:K (.list l) st):
  PE w h₁ os F own Z m s.heap K (.ref s.heap.objs.size) { s with heap:=s.heap.push { cls:=.type "list",data:=.seq ⟨xs⟩ n } }:=by
 have no:s.heap.get? s.heap.objs.size=none:=by
  cases q:s.heap.get? s.heap.objs.size with
  |none=>rfl
  |some o=>exact absurd (Heap.lt_size q) (Nat.lt_irrefl _)
 exact PE.made I rfl k (.list (fO _ _ _) rfl rfl (R.mono (gN (I.zfree no))))
theorem Bk {K:V→St→Prop} {l:List V} {xs:List Value} {n:Nat} (I:bt w h₁ os F own Z m st s) (R:aH w Z l xs) (k:K (.tup l) st):
  PE w h₁ os F own Z m s.heap K (.ref s.heap.objs.size) { s with heap:=s.heap.push { cls:=.type "tuple",data:=.seq ⟨xs⟩ n } }:=by
 have no:s.heap.get? s.heap.objs.size=none:=by
  cases q:s.heap.get? s.heap.objs.size with
  |none=>rfl
  |some o=>exact absurd (Heap.lt_size q) (Nat.lt_irrefl _)
 exact PE.made I rfl k (.tup (fO _ _ _) rfl rfl (R.mono (gN (I.zfree no))))
theorem ey {n:Nat} (h:n≤bA):n≤sizeLine:=by
 have h:n≤1000000:=h
 unfold sizeLine
 lia
theorem ke {a b:List V} {x y:Value} {Q:Value→Shared→Prop} (zi:pg Z s.heap) (z:(a++b).length≤bA) (Ra:aA w Z (.list a) x) (Rb:aA w Z (.list b) y)
  (k:∀xs,aH w Z (a++b) xs→Q (.ref s.heap.objs.size) { s with heap:=s.heap.push { cls:=.type "list",data:=.seq ⟨xs⟩ } }):wpAny (model P0 w) A (binaryOp .Add x y) Q E s:=by
 refine bc fun G=>?_;obtain⟨p,xs,rfl,h1,r1⟩:=Ra.ofList zi
 obtain⟨q,ys,rfl,h2,r2⟩:=Rb.ofList zi
 obtain⟨⟨cls,dd,data,sl⟩,ho,hc,n,hd⟩:=h1
 obtain⟨⟨cls2,dd2,data2,sl2⟩,ho2,hc2,n2,hd2⟩:=h2
 dsimp only at hc hd hc2 hd2
 subst hc hd hc2 hd2
 refine G ?_;clear G;refine concat_meets ⟨_,ho,rfl⟩ ⟨_,ho2,rfl⟩ noFill_list_add seq_list_add PySem.F.slot_list_add PySem.F.entry_list_add (PySem.F.args_list_add_2 _ _) (list_addW p q ⟨xs⟩ ⟨ys⟩ n n2 dd dd2 sl sl2 ?_) ⟨ho,ho2,?_⟩
 ·show xs.length+ys.length≤sizeLine
  rw[← r1.len,← r2.len,← List.length_append]
  exact ey z
 ·rw[List.append_toArray]
  exact k _ (r1.app r2)
theorem fa {α:Type} {c:Prop} [Decidable c] {x y:α} (h:(if c then some x else none)=some y):c∧x=y:=by
 by_cases q:c
 ·rw[if_pos q] at h;exact⟨q,Option.some.inj h⟩
 ·rw[if_neg q] at h;exact nn h
theorem uu {x y:Nat}:Builtin.bitOr (.ofNat x) (.ofNat y)=.ofNat (x+y - (x &&& y)):=by
 rw[bitOr_and]
 show(x:Int)+y - ((x &&& y:Nat):Int)=((x+y - (x &&& y):Nat):Int)
 have:=Nat.and_le_left (n:=x) (m:=y)
 lia
theorem Hw {o:pd} {a b r:V} {x y:Value} {K:V→St→Prop} (I:bt w h₁ os F own Z m st s) (h:Cs o a b=some r) (z:ET r) (Ra:aA w Z a x) (Rb:aA w Z b y) (k:K r st):
  wpAny (model P0 w) A (binaryOp (A7 o) x y) (PE w h₁ os F own Z m s.heap K) E s:=by
 cases a with
 |int a=>cases b with
  |int b=>
   induction Ra using aA.intE with
   |int t=>
   induction Rb using aA.intE with
   |int u=>
   refine bc fun G=>?_;obtain⟨i,h2,rfl⟩:=Option.map_eq_some_iff.mp h
   have k:K (.int i) st:=k
   refine G ?_;clear G;cases o with
   |add=>cases h2;exact PyProof.Rows.add_int (PE.now I (.int _ _) k)
   |sub=>cases h2;exact PyProof.Rows.sub_int (PE.now I (.int _ _) k)
   |mul=>
    obtain⟨c,h2⟩:=fa h2
    subst h2
    exact PyProof.Rows.mul_int (PE.now I (.int _ _) k) (FA c.1)
   |fdiv=>
    obtain⟨c,h2⟩:=fa h2
    subst h2
    refine PyProof.Rows.floordiv_int (by lia) ?_ (.inl (FQ c.2))
    rw[Int.fdiv_eq_ediv_of_nonneg _ (by lia)]
    exact PE.now I (.int _ _) k
   |mod=>
    obtain⟨c,h2⟩:=fa h2
    subst h2
    refine PyProof.Rows.mod_int' (by lia) ?_
    rw[Int.fmod_eq_emod_of_nonneg _ (by lia)]
    exact PE.now I (.int _ _) k
   |band=>
    cases a with
    |negSucc=>exact nn h2
    |ofNat a=>cases b with
     |negSucc=>exact nn h2
     |ofNat b=>cases h2;exact PyProof.Rows.and_int (PE.now I (.int _ _) k)
   |bor=>
    cases a with
    |negSucc=>exact nn h2
    |ofNat a=>cases b with
     |negSucc=>exact nn h2
     |ofNat b=>
      cases h2
      refine PyProof.Rows.or_int ?_
      rw[uu]
      exact PE.now I (.int _ _) k
  |_=>exact nn h
 |str a=>cases b with
  |str b=>
   cases o with
   |add=>
    cases h
    have z:(a++b).length≤bA:=z
    induction Ra using aA.strE with
    |str t=>
    induction Rb using aA.strE with
    |str u=>
    refine PyProof.Rows.add_str (fun t' tk=>?_) (by show a.length+b.length≤sizeLine;rw[← List.length_append];exact ey z)
    rw[oX]
    exact PE.now I (.str _ _) k
   |_=>exact nn h
  |int b=>
   cases o with
   |mul=>
    obtain⟨c,h⟩:=fa (c:=0≤b∧a.length * b.toNat≤bA∧b.toNat≤bA) h
    subst h
    induction Ra using aA.strE with
    |str t=>
    induction Rb using aA.intE with
    |int u=>
    obtain⟨n,rfl⟩:=Int.eq_ofNat_of_zero_le c.1
    refine PySem.SB.mul (vm c.2.1 c.2.2) fun t' k'=>?_
    rw[show((n:Nat):Int)=.ofNat n from rfl,CF]
    exact PE.now I (.str _ _) k
   |_=>exact nn h
  |_=>exact nn h
 |list a=>cases b with
  |list b=>
   cases o with
   |add=>cases h;exact ke I.zin z Ra Rb fun xs R=>lm I R k
   |_=>exact nn h
  |_=>exact nn h
 |_=>exact nn h
theorem d0 {α:Type} (l:List α) (j:Nat):(Array.mk l)[j]?=l[j]?:=by rw[← Array.getElem?_toList]
theorem Br (slice:Expr) (o i:Value):∃ops,subscripted slice false o i=operate ops (getItem o i):=by
 cases slice with
 |Slice a b c p=>cases c with
  |none=>exact⟨[i,o],rfl⟩
  |some=>exact⟨[o,i],rfl⟩
 |_=>exact⟨[o,i],rfl⟩
theorem dh {value slice:Expr} {o i:Value} {T id:String} {Q:Value→Shared→Prop} (hT:s.TypeIs o T) (hl:typeLookup (.type T) "__getitem__"=pure (some (.builtin id)))
  (hg:wpAny (model P0 w) A (getItem o i) Q E s):wpAny (model P0 w) A (subscriptTail value slice o i) Q E s:=
 (Br slice o i).elim fun ξ e=>tail_any hT hl hg e
theorem oa {n j:Nat} {i:Int} (h:at_ n i=some j):i=(j:Int)∧j < n∧j≤bA:=by
 cases i with
 |ofNat k=>
  have h:(if k < n∧k≤bA then some k else none)=some j:=h
  by_cases c:k < n∧k≤bA
  ·rw[if_pos c] at h;cases h;exact⟨rfl,c.1,c.2⟩
  ·rw[if_neg c] at h;exact nn h
 |negSucc=>exact nn h
theorem Fr {a b r:V} {x y:Value} {value slice:Expr} {Q:Value→Shared→Prop} (zi:pg Z s.heap) (h:gZ a b=some r) (Ra:aA w Z a x) (Rb:aA w Z b y)
  (k:∀v t,aA w Z r v→Q v { s with toks:=t }):wpAny (model P0 w) A (subscriptTail value slice x y) Q E s:=by
 cases a with
 |str l=>cases b with
  |int i=>
   have h:((at_ l.length i).bind fun k=>(l[k]?).map fun c=>V.str [c])=some r:=h
   refine bc fun G=>?_;obtain⟨j,q,h⟩:=Option.bind_eq_some_iff.mp h
   obtain⟨e,l1,l2⟩:=oa q
   have l2:j≤1000000:=l2
   rw[List.getElem?_eq_getElem l1] at h
   refine G ?_;clear G;cases h
   induction Ra using aA.strE with
   |str t=>
   induction Rb using aA.intE with
   |int u=>
   subst e
   refine dh (typeIs_str _ _ _) PySem.F.slot_str_getitem.lookup (PyProof.Rows.getItem_str (c:=l[j]) ?_ ?_ (k _ _ (.str _ _)))
   ·rw[Bool.or_eq_false_iff,decide_eq_false_iff_not,decide_eq_false_iff_not];lia
   ·rw[seqIndex_of (by lia) (by show(j:Int) < ((l.length:Nat):Int);lia),Option.bind_some]
    show(Array.mk l)[(j:Int).toNat]?=_
    rw[Int.toNat_natCast]
    exact(d0 _ _).trans (List.getElem?_eq_getElem l1)
  |_=>exact nn h
 |tup l=>cases b with
  |int i=>
   have h:((at_ l.length i).bind fun k=>l[k]?)=some r:=h
   refine bc fun G=>?_;obtain⟨j,q,h⟩:=Option.bind_eq_some_iff.mp h
   obtain⟨e,l1,l2⟩:=oa q
   have l2:j≤1000000:=l2
   obtain⟨p,xs,rfl,h1,r1⟩:=Ra.ofTup zi
   obtain⟨v,g1,g2⟩:=r1.get h
   refine G ?_;clear G;induction Rb using aA.intE with
   |int u=>
   subst e
   have g0:j < xs.length:=by rw[← r1.len];exact l1
   refine dh (Heap.IsTuple.typeIs h1) slot_tuple_getitem.lookup (PyProof.Rows.getItem_tuple (items:=⟨xs⟩) (j:=j) h1 (by lia) (by lia) ?_ ((d0 _ _).trans g1) (k _ s.toks g2))
   rw[seqIndex_of (by lia) (by show(j:Int) < ((xs.length:Nat):Int);lia),Int.toNat_natCast]
  |_=>exact nn h
 |list l=>cases b with
  |int i=>
   have h:((at_ l.length i).bind fun k=>l[k]?)=some r:=h
   refine bc fun G=>?_;obtain⟨j,q,h⟩:=Option.bind_eq_some_iff.mp h
   obtain⟨e,l1,l2⟩:=oa q
   have l2:j≤1000000:=l2
   obtain⟨p,xs,rfl,h1,r1⟩:=Ra.ofList zi
   obtain⟨v,g1,g2⟩:=r1.get h
   refine G ?_;clear G;induction Rb using aA.intE with
   |int u=>
   subst e
   refine dh h1.typeIs slot_list_getitem.lookup (wpAny_getItem_list (items:=⟨xs⟩) h1 (by lia) (by lia) (by rw[Int.toNat_natCast];exact(d0 _ _).trans g1) (k _ s.toks g2))
  |_=>exact nn h
 |dict es=>
  have h:(kj b es).bind id=some r:=h
  refine bc fun G=>?_;obtain⟨r',q,h⟩:=Option.bind_eq_some_iff.mp h
  obtain⟨p,v,rfl,hs,hv,K,dk,knd,f,kk,k1,k2,k3⟩:=jB q Ra Rb zi
  have h:r'=some r:=h
  subst h
  refine G ?_;clear G;cases v with
  |none=>exact hv.elim
  |some v=>exact dh k2.typeIs slot_dict_getitem.lookup (wpAny_getItem_of k1 k2 k3 (k _ _ hv))
 |_=>exact nn h
theorem nJ {a b:Nat}:sliceRange (a:Int) (b:Int) 1=List.range' a (b - a):=by
 unfold sliceRange
 dsimp only
 rw[if_pos (by decide)]
 have e:(if (a:Int) < b then((b:Int) - a+1 - 1) / 1 else 0).toNat=b - a:=by
  split
  ·rw[Int.ediv_one];lia
  ·show(0:Nat)=_;lia
 rw[e,List.range'_eq_map_range]
 refine List.map_congr_left fun k ξ=>?_
 lia
theorem fN {α:Type} (l:List α):∀(k a:Nat),(List.range' a k).filterMap (fun x=>l[x]?)=(l.drop a).take k
 |0,a=>by rw[List.take_zero];rfl
 |k+1,a=>by
  rw[List.range'_succ]
  cases q:l[a]? with
  |none=>
   have c:l.length≤a:=List.getElem?_eq_none_iff.mp q
   rw[List.filterMap_cons_none (f:=fun x=>l[x]?) q,fN l k (a+1),List.drop_eq_nil_of_le c,List.drop_eq_nil_of_le (by lia),List.take_nil,List.take_nil]
  |some v=>
   obtain⟨c,e⟩:=List.getElem?_eq_some_iff.mp q
   rw[List.filterMap_cons_some (f:=fun x=>l[x]?) q,fN l k (a+1),List.drop_eq_getElem_cons c,List.take_succ_cons,e]
theorem jC {α:Type} (l:List α) (i j:Nat):(l.drop (min i l.length)).take (min j l.length - min i l.length)=(l.take j).drop i:=by
 rw[List.drop_take]
 by_cases c:i≤l.length
 ·rw[Nat.min_eq_left c]
  by_cases d:j≤l.length
  ·rw[Nat.min_eq_left d]
  ·rw[Nat.min_eq_right (by lia),List.take_of_length_le (by rw[List.length_drop];lia),List.take_of_length_le (by rw[List.length_drop];lia)]
 ·rw[List.drop_eq_nil_of_le (by lia),List.drop_eq_nil_of_le (by lia),List.take_nil,List.take_nil]
theorem zE {a:V} {i:Nat} {x:Value} (h:oW a=some i) (R:aA w Z a x):(a=.none∧x=.none∧i=0)∨∃t,x=.int (i:Int) t:=by
 cases a with
 |none=>induction R using aA.noneE with
  |none=>cases h;exact .inl ⟨rfl,rfl,rfl⟩
 |int k=>induction R using aA.intE with
  |int t=>cases k with
   |ofNat k=>cases h;exact .inr ⟨_,rfl⟩
   |negSucc=>exact nn h
 |_=>exact nn h
theorem sJ {n:Nat} {a:V} {i:Nat} {x:Value} (h:jb n a=some i) (R:aA w Z a x):(a=.none∧x=.none∧i=n)∨∃t,x=.int (i:Int) t:=by
 cases a with
 |none=>induction R using aA.noneE with
  |none=>cases h;exact .inl ⟨rfl,rfl,rfl⟩
 |int k=>induction R using aA.intE with
  |int t=>cases k with
   |ofNat k=>cases h;exact .inr ⟨_,rfl⟩
   |negSucc=>exact nn h
 |_=>exact nn h
noncomputable def QP (x:Value):Option Int:=match x with
 |.int i _=>some i
 |_=>none
theorem nC {lo hi:Option Int} {n i j:Nat} (hl:lo=none∧i=0∨lo=some (i:Int)) (hh:hi=none∧j=n∨hi=some (j:Int)):
  sliceBounds lo hi none n=(((min i n:Nat):Int),((min j n:Nat):Int),1):=by
 have clip:∀(k:Nat),max 0 (min (if (k:Int) < 0 then(k:Int)+n else k) (n:Int))=((min k n:Nat):Int):=fun k=>by
  rw[if_neg (by omega)];omega
 refine Prod.ext ?_ (Prod.ext ?_ rfl)
 ·rcases hl with ⟨e,f⟩|e
  ·subst e;subst f
   show(0:Int)=((min 0 n:Nat):Int)
   omega
  ·subst e
   exact clip i
 ·rcases hh with ⟨e,f⟩|e
  ·subst e;subst f
   show(j:Int)=((min j j:Nat):Int)
   omega
  ·subst e
   exact clip j
set_option tactic.hygienic true in
theorem uV {l:List Nat} {lo hi:Option Int} {i j:Nat} (hl:lo=none∧i=0∨lo=some (i:Int)) (hh:hi=none∧j=l.length∨hi=some (j:Int)):
  Txt.slice (sS l) lo hi=sS ((l.take j).drop i):=by
 have e:Builtin.Str.strSliceIndices lo hi 1 l.length=List.range' (min i l.length) (min j l.length - min i l.length):=by
  rw[← nJ]
  have b:=nC hl hh
  show sliceRange (sliceBounds lo hi none l.length).1 (sliceBounds lo hi none l.length).2.1 1=_
  rw[b]
 show(if (1 == 1&&(Builtin.Str.strSliceIndices lo hi 1 l.length).length == l.length)=true then sS l else⟨(List.filterMap (fun x=>(Array.mk l)[x]?) (Builtin.Str.strSliceIndices lo hi 1 l.length)).toArray⟩)=_
 rw[e]
 have p:List.filterMap (fun x=>(Array.mk l)[x]?) (List.range' (min i l.length) (min j l.length - min i l.length))=(l.take j).drop i:=by
  rw[show(fun x=>(Array.mk l)[x]?)=fun x=>l[x]? from funext fun x=>d0 l x,fN,jC]
 split
 ·rename_i c
  rw[beq_self_eq_true,Bool.true_and,beq_iff_eq,List.length_range'] at c
  have z:(l.take j).drop i=l:=by
   rw[← jC,c]
   by_cases d:l.length=0
   ·rw[List.eq_nil_of_length_eq_zero d,List.drop_nil,List.take_nil]
   ·have:min i l.length=0:=by lia
    rw[this,List.drop_zero,List.take_length]
  rw[z]
 ·rw[p]
theorem Bt {l:List Nat} {b c r:V} (h:oq (.str l) b c=some r):∃i j,oW b=some i∧jb l.length c=some j∧(l.length≤bA∧i≤bA∧j≤bA)∧V.str ((l.take j).drop i)=r:=by
 have h:(match oW b,jb l.length c with
  |some i,some j=>if l.length≤bA∧i≤bA∧j≤bA then some (V.str ((l.take j).drop i)) else none
  |_,_=>none)=some r:=h
 cases e1:oW b with
 |none=>rw[e1] at h;exact nn h
 |some i=>cases e2:jb l.length c with
  |none=>rw[e1,e2] at h;exact nn h
  |some j=>
   rw[e1,e2] at h
   obtain⟨q,h⟩:=fa h
   exact⟨i,j,rfl,rfl,q,h⟩
theorem w5 {l:List V} {b c r:V} (h:oq (.list l) b c=some r):∃i j,oW b=some i∧jb l.length c=some j∧(l.length≤bA∧i≤bA∧j≤bA)∧V.list ((l.take j).drop i)=r:=by
 have h:(match oW b,jb l.length c with
  |some i,some j=>if l.length≤bA∧i≤bA∧j≤bA then some (V.list ((l.take j).drop i)) else none
  |_,_=>none)=some r:=h
 cases e1:oW b with
 |none=>rw[e1] at h;exact nn h
 |some i=>cases e2:jb l.length c with
  |none=>rw[e1,e2] at h;exact nn h
  |some j=>
   rw[e1,e2] at h
   obtain⟨q,h⟩:=fa h
   exact⟨i,j,rfl,rfl,q,h⟩
theorem E1 {a b c r:V} {x vl vu:Value} {value:Expr} {lo hi:Option Expr} {pos:Pos} {K:V→St→Prop} (I:bt w h₁ os F own Z m st s) (h:oq a b c=some r) (Ra:aA w Z a x) (Rb:aA w Z b vl) (Rc:aA w Z c vu)
  (k:K r st):wpAny (model P0 w) A (subscriptTail value (.Slice lo hi none pos) x (.ref s.heap.objs.size)) (PE w h₁ os F own Z m s.heap K) E { s with heap:=s.heap.push { cls:=.type "slice",data:=.fields #[vl,vu,.none] } }:=by
 cases a with
 |str l=>
  obtain⟨i,j,e1,e2,q,rfl⟩:=Bt h
  ···induction Ra using aA.strE with
    |str t=>
     have zl:l.length≤sizeLine:=ey q.1
     have fin:∀(lo' hi':Option Int),(lo'=none∧i=0∨lo'=some (i:Int))→(hi'=none∧j=l.length∨hi'=some (j:Int))→∀(h':Heap) (t':Tok) (k':Nat),(∀b o,s.heap.get? b=some o→h'.get? b=some o)→
       PE w h₁ os F own Z m s.heap K (.str (Txt.slice (sS l) lo' hi') t') { s with heap:=h',toks:=k' }:=fun lo' hi' g1 g2 h' t' k' g3=>by
      rw[uV g1 g2]
      exact⟨own,Z,_,st,I.grow g3 rfl rfl,.grow g3,.str _ _,k⟩
     have kp:PySem.KeptH fun h':Heap=>∀b o,s.heap.get? b=some o→h'.get? b=some o:=by
      intro h' o p b o' e
      exact Heap.get?_push_of_some _ (p b o' e)
     rcases zE e1 Rb with ⟨_,rfl,rfl⟩|⟨t1,rfl⟩<;>rcases sJ e2 Rc with ⟨_,rfl,rfl⟩|⟨t2,rfl⟩
     ·obtain⟨T,id,t1,t2,t3⟩:=SBH.sliceItem_nn (prog:=P0) (w:=w) (A:=A) (E:=E) (s:=s) (x:=sS l) (t:=t) (Q:=PE w h₁ os F own Z m s.heap K) kp (fun ξ ξ e=>e) (fun h' t' k' g=>fin none none (.inl ⟨rfl,rfl⟩) (.inl ⟨rfl,rfl⟩) h' t' k' g) zl
      exact dh t2 t1 t3
     ·obtain⟨T,id,t1,t2,t3⟩:=SBH.sliceItem_ns (prog:=P0) (w:=w) (A:=A) (E:=E) (s:=s) (x:=sS l) (t:=t) (uj:=t2) (Q:=PE w h₁ os F own Z m s.heap K) kp (fun ξ ξ e=>e) (fun h' t' k' g=>fin none (some j) (.inl ⟨rfl,rfl⟩) (.inr rfl) h' t' k' g) zl
      exact dh t2 t1 t3
     ·obtain⟨T,id,t1,t2,t3⟩:=SBH.sliceItem_sn (prog:=P0) (w:=w) (A:=A) (E:=E) (s:=s) (x:=sS l) (t:=t) (ui:=t1) (Q:=PE w h₁ os F own Z m s.heap K) kp (fun ξ ξ e=>e) (fun h' t' k' g=>fin (some i) none (.inr rfl) (.inl ⟨rfl,rfl⟩) h' t' k' g) zl
      exact dh t2 t1 t3
     ·obtain⟨T,id,t1,t2,t3⟩:=SBH.sliceItem_ss (prog:=P0) (w:=w) (A:=A) (E:=E) (s:=s) (x:=sS l) (t:=t) (ui:=t1) (uj:=t2) (Q:=PE w h₁ os F own Z m s.heap K) kp (fun ξ ξ e=>e) (fun h' t' k' g=>fin (some i) (some j) (.inr rfl) (.inr rfl) h' t' k' g) zl
      exact dh t2 t1 t3
 |list l=>
  obtain⟨i,j,e1,e2,q,rfl⟩:=w5 h
  ··
    obtain⟨p,xs,rfl,g1,r1⟩:=Ra.ofList I.zin
    have ps:(s.heap.push { cls:=.type "slice",data:=.fields #[vl,vu,.none] }).IsSliceOf s.heap.objs.size vl vu .none:=⟨_,Heap.get?_push_size _ rfl,rfl,rfl⟩
    have fin:∀(lo' hi':Option Int),(lo'=none∧i=0∨lo'=some (i:Int))→(hi'=none∧j=xs.length∨hi'=some (j:Int))→IsPart vl lo'→IsPart vu hi'→
      wpAny (model P0 w) A (getItem (.ref p) (.ref s.heap.objs.size)) (PE w h₁ os F own Z m s.heap K) E { s with heap:=s.heap.push { cls:=.type "slice",data:=.fields #[vl,vu,.none] } }:=fun lo' hi' g2 g3 p1 p2=>by
     refine wpAny_getItem_list_slice (items:=⟨xs⟩) (g1.push _) ps p1 p2 .none (fun c=>nn c) ?_ (by rw[r1.len] at q;exact ey q.1)
     have e:slicePick ⟨xs⟩ lo' hi' none=⟨(xs.take j).drop i⟩:=by
      unfold slicePick
      rw[show(Array.mk xs).size=xs.length from rfl,nC g2 g3]
      dsimp only
      rw[nJ,show(fun x=>(Array.mk xs)[x]?)=fun x=>xs[x]? from funext fun x=>d0 xs x,fN,jC]
     rw[e]
     have I':bt w h₁ os F own Z m st { s with heap:=s.heap.push { cls:=.type "slice",data:=.fields #[vl,vu,.none] } }:=I.grow (fun ξ ξ e=>Heap.get?_push_of_some _ e) rfl rfl
     exact(lm I' ((r1.take j).drop i) k).after (Step.grow fun ξ ξ e=>Heap.get?_push_of_some _ e)
    refine dh (Heap.IsList.typeIs (g1.push _)) slot_list_getitem.lookup ?_
    rcases zE e1 Rb with ⟨_,rfl,rfl⟩|⟨t1,rfl⟩<;>rcases sJ e2 Rc with ⟨_,rfl,rfl⟩|⟨t2,rfl⟩
    ·exact fin none none (.inl ⟨rfl,rfl⟩) (.inl ⟨rfl,r1.len⟩) .none .none
    ·exact fin none (some _) (.inl ⟨rfl,rfl⟩) (.inr rfl) .none (.int _ _)
    ·exact fin (some _) none (.inr rfl) (.inl ⟨rfl,r1.len⟩) (.int _ _) .none
    ·exact fin (some _) (some _) (.inr rfl) (.inr rfl) (.int _ _) (.int _ _)
 |_=>exact nn h
theorem yl {o:pd} {a b r:V} {x y:Value} {Q:Value→Shared→Prop} (h:N0 o a b=some r) (z:ET r) (Ra:aA w Z a x) (Rb:aA w Z b y) (k:∀v t,aA w Z r v→Q v { s with toks:=t }):
  wpAny (model P0 w) A (inplaceOp (A7 o) x y) Q E s:=by
 cases o with
 |add=>cases a with
  |int a=>cases b with
   |int b=>
    induction Ra using aA.intE with
    |int t=>
    induction Rb using aA.intE with
    |int u=>
    cases h
    exact PySem.P.iadd_int (k _ _ (.int _ _))
   |_=>exact nn h
  |str a=>cases b with
   |str b=>
    induction Ra using aA.strE with
    |str t=>
    induction Rb using aA.strE with
    |str u=>
    cases h
    have z:(a++b).length≤bA:=z
    refine PyProof.Rows.iadd_str (fun t' tk=>?_) (by show a.length+b.length≤sizeLine;rw[← List.length_append];exact ey z)
    rw[oX]
    exact k _ _ (.str _ _)
   |_=>exact nn h
  |_=>exact nn h
 |sub=>cases a with
  |int a=>cases b with
   |int b=>
    induction Ra using aA.intE with
    |int t=>
    induction Rb using aA.intE with
    |int u=>
    cases h
    exact PySem.P.isub_int (k _ _ (.int _ _))
   |_=>exact nn h
  |_=>exact nn h
 |_=>exact nn h
noncomputable def N2:Pf→Value
 |.len=>.builtin "len"|.ord=>.builtin "ord"|.chr=>.builtin "chr"|.int_=>.type "int"
theorem HT {o:Pf} {a r:V} {x:Value} {Q:Value→Shared→Prop} (zi:pg Z s.heap) (h:P2 o a=some r) (Ra:aA w Z a x) (k:∀v t,aA w Z r v→Q v { s with toks:=t }):
  wpAny (model P0 w) A (call (N2 o) [x]) Q E s:=by
 cases o with
 |len=>
  cases q:dJ a with
  |none=>
   have h:(dJ a).map (fun n=>V.int (.ofNat n))=some r:=h
   rw[q] at h;exact nn h
  |some n=>
   have h:(dJ a).map (fun n=>V.int (.ofNat n))=some r:=h
   rw[q] at h;cases h
   cases a with
   |str l=>
    obtain⟨c,rfl⟩:=fa (c:=l.length≤bA) q
    induction Ra using aA.strE with
    |str t=>
    exact PySem.P.len_str (show ¬(l.length:Int) ≥ 2 ^ 63 by have:=pE c;lia) (k _ _ (.int _ _))
   |tup l=>
    obtain⟨c,rfl⟩:=fa (c:=l.length≤bA) q
    obtain⟨p,xs,rfl,g1,r1⟩:=Ra.ofTup zi
    refine PyProof.Rows.len_tuple (items:=⟨xs⟩) g1 (by have:=pE (r1.len▸c);exact this) ?_
    rw[show(Array.mk xs).size=l.length from r1.len.symm]
    exact k _ _ (.int _ _)
   |list l=>
    obtain⟨c,rfl⟩:=fa (c:=l.length≤bA) q
    obtain⟨p,xs,rfl,g1,r1⟩:=Ra.ofList zi
    refine PyProof.Rows.len_list (items:=⟨xs⟩) g1 (by have:=pE (r1.len▸c);exact this) ?_
    rw[show(Array.mk xs).size=l.length from r1.len.symm]
    exact k _ _ (.int _ _)
   |_=>exact nn q
 |ord=>cases a with
  |str l=>cases l with
   |nil=>exact nn h
   |cons c l=>cases l with
    |nil=>
     cases h
     induction Ra using aA.strE with
     |str t=>exact PySem.P.ord_of_char (k _ _ (.int _ _))
    |cons=>exact nn h
  |_=>exact nn h
 |chr=>cases a with
  |int i=>cases i with
   |ofNat c=>
    obtain⟨q,rfl⟩:=fa (c:=c < 128) h
    induction Ra using aA.intE with
    |int t=>
    refine PySem.P.chr_of_int ?_ (k _ _ (.str [c] _))
    show(decide ((c:Int) < 0)||decide ((c:Int) > 1114111))=false
    rw[Bool.or_eq_false_iff,decide_eq_false_iff_not,decide_eq_false_iff_not];lia
   |negSucc=>exact nn h
  |_=>exact nn h
 |int_=>cases a with
  |str l=>
   have h:cond (aW l [48,50]) (some (.int 2)) none=some r:=h
   cases q:aW l [48,50] with
   |false=>rw[q] at h;exact nn h
   |true=>
    rw[q] at h;cases h
    rw[ct,beq_iff_eq] at q
    subst q
    induction Ra using aA.strE with
    |str t=>exact PySem.W.KIN.call_text (n:=2) (by kernel_rfl) (by decide) (k _ _ (.int _ _))
  |_=>exact nn h
theorem pN (cU:List Nat):∀l:List (List Nat),Str.join (sS cU) (l.map sS)=sS (aB cU l)
 |[]=>rfl
 |[a]=>rfl
 |a::b::r=>by
  show sS a++sS cU++Str.join (sS cU) ((b::r).map sS)=sS (a++cU++aB cU (b::r))
  rw[pN cU (b::r),oX,oX]
theorem nf (cU:List Nat):∀l:List (List Nat),(l.map List.length).sum+l.length * cU.length≤(aB cU l).length+cU.length
 |[]=>by simp [aB]
 |[a]=>by simp [aB]
 |a::b::r=>by
  have h:=nf cU (b::r)
  show((a::b::r).map List.length).sum+(b::r).length.succ * cU.length≤(a++cU++aB cU (b::r)).length+cU.length
  rw[List.map_cons,List.sum_cons,Nat.succ_mul,List.length_append,List.length_append]
  lia
theorem vA {l:List V} {ls:List (List Nat)} {xs:List Value} (h:gg l=some ls) (R:aH w Z l xs):∃q:List (Str×Tok),xs=strValues q∧q.map (·.1)=ls.map sS:=by
 induction l generalizing ls xs with
 |nil=>induction R using aH.nilE with
  |nil=>cases h;exact⟨[],rfl,rfl⟩
 |cons v l ih=>cases v with
  |str sv=>
   obtain⟨ls',q,rfl⟩:=Option.map_eq_some_iff.mp h
   induction R using aH.consE with
   |cons R r=>
   induction R using aA.strE with
   |str t=>
   obtain⟨p,e1,e2⟩:=ih q r
   exact⟨(sS sv,t)::p,by rw[e1];rfl,by rw[List.map_cons,List.map_cons,e2]⟩
  |_=>exact nn h
theorem Ct {a b r:V} {x y:Value} {Q:Value→Shared→Prop} (zi:pg Z s.heap) (h:Ae a b=some r) (z:ET r) (Ra:aA w Z a x) (Rb:aA w Z b y) (k:∀v t,aA w Z r v→Q v { s with toks:=t }):
  wpAny (model P0 w) A (call (.builtin "str.join") [x,y]) Q E s:=by
 cases a with
 |str cU=>cases b with
  |list l=>
   by_cases c:cU.length≤bA
   ·have h:(if cU.length≤bA then(gg l).map fun x=>V.str (aB cU x) else none)=some r:=h
    rw[if_pos c] at h
    refine bc fun G=>?_;obtain⟨ls,q,rfl⟩:=Option.map_eq_some_iff.mp h
    refine G ?_;clear G;induction Ra using aA.strE with
    |str t=>
    refine bc fun G=>?_;obtain⟨p,xs,rfl,g1,r1⟩:=Rb.ofList zi
    obtain⟨vs,e1,e2⟩:=vA q r1
    subst e1
    have z:(aB cU ls).length≤bA:=z
    refine G ?_;clear G;refine SC.join (texts:=ls.map sS) g1 e2 ?_ fun t' k'=>?_
    ·unfold JoinOk
     rw[PySem.StrLaws.joinTotal]
     have:=nf cU ls
     have e:((ls.map sS).map (·.length)).sum=(ls.map List.length).sum:=by rw[List.map_map];rfl
     rw[e,List.length_map,Bool.not_eq_true']
     unfold Builtin.Str.tooLong
     rw[decide_eq_false_iff_not]
     have c:cU.length≤1000000:=c
     have z:(aB cU ls).length≤1000000:=z
     show ¬_+_ * cU.length > sizeLine
     unfold sizeLine
     lia
    ·have e:Txt.join (sS cU) (ls.map sS)=sS (aB cU ls):=by
      rw[← pN];exact PySem.StrLaws.glued_eq_join _ _
     rw[e]
     exact k _ _ (.str _ _)
   ·have h:(if cU.length≤bA then(gg l).map fun x=>V.str (aB cU x) else none)=some r:=h
    rw[if_neg c] at h
    exact nn h
  |_=>exact nn h
 |_=>exact nn h
end
end Mine
namespace Mine
section
open PySem PySem.W PySem.Calls PyProof.Rows
noncomputable def iz (k:Nat) (x:Str):Bool:=aW (iW k) x.cps.toList
theorem cC {k:Nat} {x:Str} (h:iz k x=true):x=bw k:=by
 unfold iz at h
 rw[ct,beq_iff_eq] at h
 obtain⟨⟨l⟩⟩:=x
 have h:iW k=l:=h
 rw[← h]
noncomputable def gK (P:Params) (k:Nat):Option Value:=globalOf (dQ P) (bw k)
noncomputable def jD (P:Params) (a:Addr):Option Obj:=lk (pu P0 P) a
noncomputable def wj (o:Obj):Option (List Value):=match o.cls,o.data with
 |.type t,.seq xs _=>if t="tuple" then some xs.toList else none
 |_,_=>none
noncomputable def Oe:V→Option (List Nat)
 |.str s=>some s
 |_=>none
noncomputable def tC:List (V×V)→Option (List (List Nat))
 |[]=>some []
 |e::r=>(Oe e.1).bind fun a=>(Oe e.2).bind fun b=>(tC r).map fun l=>a::b::l
noncomputable abbrev Cj:Nat:=216
noncomputable abbrev FL:List (List Nat):=[[92],[92,92],[10],[92,110],[9],[92,116],[13],[92,114]]
mutual
noncomputable def zO (P:Params):Nat→V→Value→Bool
 |0,_,_=>false
 |n+1,v,x=>match v with
  |.none=>(match x with|.none=>true|_=>false)
  |.bool a=>(match x with|.bool b=>a == b|_=>false)
  |.int i=>(match x with|.int j _=>decide (i=j)|_=>false)
  |.str l=>(match x with|.str y _=>aW l y.cps.toList|_=>false)
  |.raw a=>(match x with|.ref b=>Nat.beq a b|_=>false)
  |.tup l=>(match x with
   |.ref a=>(match (jD P a).bind wj with
    |some xs=>pJ P n l xs
    |none=>false)
   |_=>false)
  |.dict es=>(match x with|.ref a=>Nat.beq a Cj&&decide (tC es=some FL)|_=>false)
  |_=>false
noncomputable def pJ (P:Params):Nat→List V→List Value→Bool
 |n,l,xs=>match l with
  |[]=>xs.isEmpty
  |v::l=>match n,xs with
   |n+1,x::r=>zO P n v x&&pJ P n l r
   |_,_=>false
end
structure Cx where
 P:Params
 sc:Scope
 ns:List (Nat×Bool)
noncomputable def Cx.kind (c:Cx) (k:Nat):Option NameKind:=c.sc.names.lookup (bw k)
noncomputable def Cx.isG (c:Cx) (k:Nat):Bool:=match c.kind k with
 |some .globalImplicit=>!aW (iW k) ((Str.ofString "__debug__").cps.toList)
 |_=>false
noncomputable def eN:Option NameKind→Bool
 |some .local=>true
 |_=>false
noncomputable def oQ:Option NameKind→Bool
 |some .cell=>true
 |_=>false
noncomputable def Cx.isL (c:Cx) (i:Nat) (x:Str):Bool:=match c.ns[i]? with
 |some p=>iz p.1 x&&!aW (iW p.1) ((Str.ofString "__debug__").cps.toList)&&cond p.2 (oQ (c.kind p.1)) (eN (c.kind p.1))
 |none=>false
noncomputable def Cx.isP (c:Cx) (i:Nat) (x:Str):Bool:=match c.ns[i]? with
 |some p=>iz p.1 x&&!aW (iW p.1) ((Str.ofString "__debug__").cps.toList)&&!p.2&&eN (c.kind p.1)
 |none=>false
noncomputable def Cx.isGv (c:Cx) (k:Nat) (x:Str) (v:Value→Bool):Bool:=iz k x&&c.isG k&&(match gK c.P k with
 |some y=>v y
 |none=>false)
noncomputable def sr (a:Nat):Value→Bool
 |.ref b=>Nat.beq a b
 |_=>false
noncomputable def Cx.isB (c:Cx) (k:Nat) (x:Str):Bool:=iz k x&&c.isG k&&(gK c.P k).isNone
noncomputable def E6:V→Const→Bool
 |.none,.none=>true
 |.bool a,.bool b=>a == b
 |.int i,.int j=>decide (i=j)
 |.str l,.str y=>aW l y.cps.toList
 |_,_=>false
noncomputable def iY (o:pd) (op:Operator):Bool:=decide (op=A7 o)
noncomputable def s4 (o:AW) (op:CmpOp):Bool:=decide (op=GI o)
noncomputable def CJ:PySem.Expr→PySem.Expr
 |.BoolOp _ [e] _=>e
 |e=>e
noncomputable def cK:PySem.Expr→Bool
 |.Call (.Name ..) [] [] _=>false
 |_=>true
noncomputable abbrev Bd:Nat:=7234924
noncomputable abbrev le:Nat:=435526984050
noncomputable abbrev H6:Nat:=6582895
noncomputable abbrev Lb:Nat:=7497827
noncomputable abbrev Lx:Nat:=7630441
noncomputable abbrev Kg:Nat:=7368560
noncomputable abbrev CP:Nat:=1852403562
noncomputable abbrev Lo:Nat:=7628135
noncomputable abbrev tt:Nat:=110425311047777
noncomputable def O8:Pf→Nat
 |.len=>Bd|.ord=>H6|.chr=>Lb|.int_=>Lx
noncomputable def aY:Nat→E→List (Nat×Nat)
 |j,.cons (.hole i) l=>(j,i)::aY (j+1) l
 |j,.cons _ l=>aY (j+1) l
 |_,_=>[]
noncomputable def ce (o:Option (Nat×Nat)) (h:List (Nat×Nat)):Bool:=match o with
 |none=>h.isEmpty
 |some p=>match h with
  |[q]=>Nat.beq p.1 q.1&&Nat.beq p.2 q.2
  |_=>false
noncomputable def eO (c:Cx) (a:Nat) (x:Str):Bool:=(match c.sc.names.lookup x with|some .globalImplicit=>true|_=>false)&&!aW x.cps.toList ((Str.ofString "__debug__").cps.toList)&&(match globalOf (dQ c.P) x with|some y=>sr a y|none=>false)
inductive qP where
 |e (x:PySem.Expr)
 |h (x:PySem.Expr)
 |no
 |l (xs:List PySem.Expr)
 |a (xs:List PySem.Expr)
 |d (ks:List (Option PySem.Expr)) (vs:List PySem.Expr)
 |dv (v:PySem.Expr) (ks:List (Option PySem.Expr)) (vs:List PySem.Expr)
noncomputable def qP.isNo:qP→Bool
 |.no=>true
 |_=>false
noncomputable def qP.end_:qP→Bool
 |.l []=>true
 |.a []=>true
 |.d [] []=>true
 |_=>false
noncomputable def qP.parts:qP→Option (qP×qP)
 |.l (x::r)=>some (.e x,.l r)
 |.a (x::r)=>some (.h x,.a r)
 |.d (some k::ks) (v::vs)=>some (.e k,.dv v ks vs)
 |.dv v ks vs=>some (.e v,.d ks vs)
 |_=>none
noncomputable def P9 {α:Type} (r:Option α) (f:α→Bool):Bool:=match r with
 |some x=>f x
 |none=>false
theorem L4 {α:Type} {r:Option α} {f:α→Bool} (h:P9 r f=true):∃x,r=some x∧f x=true:=by
 cases r with
 |none=>exact ff h
 |some x=>exact⟨x,rfl,h⟩
noncomputable def ix (b:Prop) [Decidable b] (f:b→Bool):Bool:=if h:b then f h else false
theorem bq {b:Prop} [Decidable b] {f:b→Bool} {P:Prop} (h:ix b f=true) (k:b→P):P:=by
 unfold ix at h
 by_cases hb:b
 ·exact k hb
 ·rw[dif_neg hb] at h;exact ff h
noncomputable def sL {α:Type} (xs:List α) (f:α→Bool):Bool:=match xs with
 |[]=>false
 |x::r=>r.isEmpty&&f x
theorem jt {α:Type} {xs:List α} {f:α→Bool} {P:List α→Prop} (h:sL xs f=true) (k:∀x,f x=true→P [x]):P xs:=by
 cases xs with
 |nil=>exact ff h
 |cons x r=>cases r with
  |nil=>exact k x h
  |cons=>exact ff h
noncomputable def P7 {α:Type} (xs:List α) (f:α→α→List α→Bool):Bool:=match xs with
 |[]=>false
 |x::r=>match r with
  |[]=>false
  |y::r=>f x y r
theorem Hf {α:Type} {xs:List α} {f:α→α→List α→Bool} {P:List α→Prop} (h:P7 xs f=true) (k:∀x y r,f x y r=true→P (x::y::r)):P xs:=by
 cases xs with
 |nil=>exact ff h
 |cons x r=>cases r with
  |nil=>exact ff h
  |cons y r=>exact k x y r h
theorem Al {a b:Bool} {P:Prop} (h:(a&&b)=true) (k:a=true→b=true→P):P:=k (Bool.and_eq_true_iff.mp h).1 (Bool.and_eq_true_iff.mp h).2
section
variable {e:PySem.Expr} {P:PySem.Expr→Prop}
noncomputable def ba (e:PySem.Expr) (f:Str→Bool):Bool:=ix (e.ctorIdx=23) fun h=>PySem.Expr.Name.elim e h fun x ξ=>f x
theorem aF {f:Str→Bool} (h:ba e f=true) (k:∀x p,f x=true→P (.Name x p)):P e:=
 bq h fun hb=>PySem.Expr.Name.elim (motive_1:=fun e=>ba e f=true→P e) e hb (fun x p h=>k x p h) h
noncomputable def pc (e:PySem.Expr) (f:Const→Bool):Bool:=ix (e.ctorIdx=19) fun h=>PySem.Expr.Constant.elim e h fun k ξ ξ=>f k
theorem lX {f:Const→Bool} (h:pc e f=true) (k:∀c n p,f c=true→P (.Constant c n p)):P e:=
 bq h fun hb=>PySem.Expr.Constant.elim (motive_1:=fun e=>pc e f=true→P e) e hb (fun c n p h=>k c n p h) h
noncomputable def jy (e:PySem.Expr) (f:PySem.Expr→Str→Bool):Bool:=ix (e.ctorIdx=20) fun h=>PySem.Expr.Attribute.elim e h fun o n ξ=>f o n
theorem gT {f:PySem.Expr→Str→Bool} (h:jy e f=true) (k:∀o n p,f o n=true→P (.Attribute o n p)):P e:=
 bq h fun hb=>PySem.Expr.Attribute.elim (motive_1:=fun e=>jy e f=true→P e) e hb (fun o n p h=>k o n p h) h
noncomputable def eB (e:PySem.Expr) (f:PySem.Expr→List PySem.Expr→Bool):Bool:=ix (e.ctorIdx=16) fun h=>PySem.Expr.Call.elim e h fun g as kws ξ=>kws.isEmpty&&f g as
theorem db {f:PySem.Expr→List PySem.Expr→Bool} (h:eB e f=true) (k:∀g as p,f g as=true→P (.Call g as [] p)):P e:=
 bq h fun hb=>PySem.Expr.Call.elim (motive_1:=fun e=>eB e f=true→P e) e hb (fun g as kws p h=>by
  cases kws with
  |nil=>exact k g as p h
  |cons=>exact ff h) h
noncomputable def tD (e:PySem.Expr) (f:Operator→PySem.Expr→PySem.Expr→Bool):Bool:=ix (e.ctorIdx=2) fun h=>PySem.Expr.BinOp.elim e h fun l op r ξ=>f op l r
theorem p5 {f:Operator→PySem.Expr→PySem.Expr→Bool} (h:tD e f=true) (k:∀op l r p,f op l r=true→P (.BinOp l op r p)):P e:=
 bq h fun hb=>PySem.Expr.BinOp.elim (motive_1:=fun e=>tD e f=true→P e) e hb (fun l op r p h=>k op l r p h) h
noncomputable def wk (e:PySem.Expr) (f:CmpOp→PySem.Expr→PySem.Expr→Bool):Bool:=ix (e.ctorIdx=15) fun h=>PySem.Expr.Compare.elim e h fun l ops rs ξ=>sL ops fun op=>sL rs fun r=>f op l r
theorem y2 {f:CmpOp→PySem.Expr→PySem.Expr→Bool} (h:wk e f=true) (k:∀op l r p,f op l r=true→P (.Compare l [op] [r] p)):P e:=
 bq h fun hb=>PySem.Expr.Compare.elim (motive_1:=fun e=>wk e f=true→P e) e hb (fun l ops rs p h=>
  jt (P:=fun ops=>P (.Compare l ops rs p)) h fun op h=>jt (P:=fun rs=>P (.Compare l [op] rs p)) h fun r h=>k op l r p h) h
noncomputable def oH (e:PySem.Expr) (f:BoolOp→PySem.Expr→PySem.Expr→List PySem.Expr→Pos→Bool):Bool:=ix (e.ctorIdx=0) fun h=>PySem.Expr.BoolOp.elim e h fun op vs p=>P7 vs fun a b r=>f op a b r p
theorem nB {f:BoolOp→PySem.Expr→PySem.Expr→List PySem.Expr→Pos→Bool} (h:oH e f=true) (k:∀op a b r p,f op a b r p=true→P (.BoolOp op (a::b::r) p)):P e:=
 bq h fun hb=>PySem.Expr.BoolOp.elim (motive_1:=fun e=>oH e f=true→P e) e hb (fun op vs p h=>
  Hf (P:=fun vs=>P (.BoolOp op vs p)) h fun a b r h=>k op a b r p h) h
noncomputable def D6:BoolOp→Bool
 |.And=>true
 |.Or=>false
noncomputable def J1:UnaryOp→Bool
 |.Not=>true
 |_=>false
noncomputable def AA (e:PySem.Expr) (f:PySem.Expr→Bool):Bool:=ix (e.ctorIdx=3) fun h=>PySem.Expr.UnaryOp.elim e h fun op x ξ=>J1 op&&f x
theorem wV {f:PySem.Expr→Bool} (h:AA e f=true) (k:∀x p,f x=true→P (.UnaryOp .Not x p)):P e:=
 bq h fun hb=>PySem.Expr.UnaryOp.elim (motive_1:=fun e=>AA e f=true→P e) e hb (fun op x p h=>by
  cases op<;>first|exact k x p h|exact ff h) h
noncomputable def FR (e:PySem.Expr) (f:PySem.Expr→PySem.Expr→PySem.Expr→Bool):Bool:=ix (e.ctorIdx=5) fun h=>PySem.Expr.IfExp.elim e h fun a b c ξ=>f a b c
theorem BL {f:PySem.Expr→PySem.Expr→PySem.Expr→Bool} (h:FR e f=true) (k:∀a b c p,f a b c=true→P (.IfExp a b c p)):P e:=
 bq h fun hb=>PySem.Expr.IfExp.elim (motive_1:=fun e=>FR e f=true→P e) e hb (fun a b c p h=>k a b c p h) h
noncomputable def G6:Option PySem.Expr→qP
 |none=>.no
 |some e=>.e e
noncomputable def sq (e:PySem.Expr) (f:PySem.Expr→PySem.Expr→Bool):Bool:=ix (e.ctorIdx=21) fun h=>PySem.Expr.Subscript.elim e h fun a b ξ=>f a b
theorem p6 {f:PySem.Expr→PySem.Expr→Bool} (h:sq e f=true) (k:∀a b p,f a b=true→P (.Subscript a b p)):P e:=
 bq h fun hb=>PySem.Expr.Subscript.elim (motive_1:=fun e=>sq e f=true→P e) e hb (fun a b p h=>k a b p h) h
noncomputable def n9 (e:PySem.Expr) (f:Option PySem.Expr→Option PySem.Expr→Bool):Bool:=ix (e.ctorIdx=26) fun h=>PySem.Expr.Slice.elim e h fun l u s ξ=>s.isNone&&f l u
theorem rz {f:Option PySem.Expr→Option PySem.Expr→Bool} (h:n9 e f=true) (k:∀l u p,f l u=true→P (.Slice l u none p)):P e:=
 bq h fun hb=>PySem.Expr.Slice.elim (motive_1:=fun e=>n9 e f=true→P e) e hb (fun l u s p h=>by
  cases s with
  |none=>exact k l u p h
  |some=>exact ff h) h
noncomputable def j2 (e:PySem.Expr) (f:List PySem.Expr→Bool):Bool:=ix (e.ctorIdx=25) fun h=>PySem.Expr.Tuple.elim e h fun es ξ ξ=>f es
theorem j3 {f:List PySem.Expr→Bool} (h:j2 e f=true) (k:∀es n p,f es=true→P (.Tuple es n p)):P e:=
 bq h fun hb=>PySem.Expr.Tuple.elim (motive_1:=fun e=>j2 e f=true→P e) e hb (fun es n p h=>k es n p h) h
noncomputable def kZ (e:PySem.Expr) (f:List PySem.Expr→Bool):Bool:=ix (e.ctorIdx=24) fun h=>PySem.Expr.List.elim e h fun es ξ=>f es
theorem mD {f:List PySem.Expr→Bool} (h:kZ e f=true) (k:∀es p,f es=true→P (.List es p)):P e:=
 bq h fun hb=>PySem.Expr.List.elim (motive_1:=fun e=>kZ e f=true→P e) e hb (fun es p h=>k es p h) h
noncomputable def oS (e:PySem.Expr) (f:List (Option PySem.Expr)→List PySem.Expr→Bool):Bool:=ix (e.ctorIdx=6) fun h=>PySem.Expr.Dict.elim e h fun ks vs ξ=>f ks vs
theorem qQ {f:List (Option PySem.Expr)→List PySem.Expr→Bool} (h:oS e f=true) (k:∀ks vs p,f ks vs=true→P (.Dict ks vs p)):P e:=
 bq h fun hb=>PySem.Expr.Dict.elim (motive_1:=fun e=>oS e f=true→P e) e hb (fun ks vs p h=>k ks vs p h) h
noncomputable def EF (g:Comprehension) (f:Str→PySem.Expr→Bool):Bool:=g.ifs.isEmpty&&(decide (g.is_async=0)&&ba g.target fun x=>f x g.iter)
theorem xr {g:Comprehension} {f:Str→PySem.Expr→Bool} {Q:Comprehension→Prop} (h:EF g f=true) (k:∀x p it,f x it=true→Q ⟨.Name x p,it,[],0⟩):Q g:=by
 obtain⟨t,it,ifs,a⟩:=g
 refine Al h fun h1 h=>Al h fun h2 h=>?_
 cases ifs with
 |cons=>exact ff h1
 |nil=>
  have h2:=of_decide_eq_true h2
  have h2:a=0:=h2
  subst h2
  exact aF (P:=fun t=>Q ⟨t,it,[],0⟩) h fun x p h=>k x p it h
noncomputable def nT (e:PySem.Expr) (f:PySem.Expr→Str→PySem.Expr→Scope→Bool):Bool:=ix (e.ctorIdx=8) fun h=>PySem.Expr.ListComp.elim e h fun elt gs sc ξ=>sL gs fun g=>EF g fun x it=>f elt x it sc
theorem jr {f:PySem.Expr→Str→PySem.Expr→Scope→Bool} (h:nT e f=true) (k:∀elt x it sc px p,f elt x it sc=true→P (.ListComp elt [⟨.Name x px,it,[],0⟩] sc p)):P e:=
 bq h fun hb=>PySem.Expr.ListComp.elim (motive_1:=fun e=>nT e f=true→P e) e hb (fun elt gs sc p h=>
  jt (P:=fun gs=>P (.ListComp elt gs sc p)) h fun g h=>xr (Q:=fun g=>P (.ListComp elt [g] sc p)) h fun x px it h=>k elt x it sc px p h) h
noncomputable def fM (e:PySem.Expr) (f:PySem.Expr→Str→List PySem.Expr→Bool):Bool:=ix (e.ctorIdx=16) fun h=>PySem.Expr.Call.elim e h fun g as kws pos=>kws.isEmpty&&ix (g.ctorIdx=20) fun h=>PySem.Expr.Attribute.elim g h fun o n apos=>
 (Nat.beq apos.endLine pos.line&&(Nat.blt as.length 30&&cK o))&&f o n as
theorem ej {f:PySem.Expr→Str→List PySem.Expr→Bool} (h:fM e f=true) (k:∀o n as p p',p.endLine=p'.line→as.length < 30→cK o=true→f o n as=true→P (.Call (.Attribute o n p) as [] p')):P e:=
 bq h fun hb=>PySem.Expr.Call.elim (motive_1:=fun e=>fM e f=true→P e) e hb (fun g as kws p' h=>by
  cases kws with
  |cons=>exact ff h
  |nil=>exact bq (b:=g.ctorIdx=20) h fun hg=>PySem.Expr.Attribute.elim (motive_1:=fun g=>fM (.Call g as [] p') f=true→P (.Call g as [] p')) g hg (fun o n p h=>
    Al h fun h1 h=>Al h1 fun h1 h2=>Al h2 fun h2 h3=>k o n as p p' (Nat.eq_of_beq_eq_true h1) (Nat.le_of_ble_eq_true h2) h3 h) h) h
end
noncomputable def bR (x:qP) (f:PySem.Expr→Bool):Bool:=match x with
 |.e a=>f a
 |.h a=>f a
 |_=>false
noncomputable def jO (e:PySem.Expr):Bool:=!Nat.beq e.ctorIdx 7
noncomputable def ek (e:PySem.Expr):Bool:=!Nat.beq e.ctorIdx 22
noncomputable def BY (x:qP):Bool:=match x with
 |.e a=>ek a
 |.h a=>ek a
 |_=>true
noncomputable def fg (sc:Scope) (out:Scope):Scope:=
 { sc with names:=sc.names.map fun (n,k)=>if (k == .free&&out.kind == .function&&out.names.lookup n == some .cell) then(n,.cell) else(n,k) }
noncomputable def bH (c:Cx) (k:Nat) (fr:Option Nat):List (Nat×Bool):=match fr with
 |none=>[(k,false)]
 |some i=>match c.ns[i]? with
  |some y=>[(k,false),y]
  |none=>[(k,false)]
noncomputable def oi:NameKind→Bool
 |.free=>true
 |_=>false
noncomputable def C3:NameKind→Bool
 |.local=>true
 |_=>false
noncomputable def D4:NameKind→Bool
 |.cell=>true
 |_=>false
noncomputable def dw (c:Cx) (sc:Scope) (fr:Option Nat) (k:Nat):Bool:=
 (match sc.kind with|.function=>true|_=>false)&&(sc.names.all fun x=>!D4 x.2)&&(sc.names.all fun x=>!C3 x.2||eN (sc.names.lookup x.1))&&eN (sc.names.lookup (bw k))&&
 (match fr with
  |none=>sc.names.all fun x=>!oi x.2
  |some i=>(match c.ns[i]? with
   |some y=>y.2&&!aW (iW y.1) (iW k)&&sc.names.any (fun x=>oi x.2)&&sc.names.all fun x=>!oi x.2||iz y.1 x.1
   |none=>false))
noncomputable def chk:E→Cx→qP→Bool
 |.lit v,_,x=>cond x.isNo (match v with|.none=>true|_=>false) (bR x fun e=>pc e fun k=>E6 v k)
 |.glo k v,c,x=>bR x fun e=>ba e fun n=>c.isGv k n (zO c.P 40 v)
 |.loc i,c,x=>bR x fun e=>ba e fun n=>c.isL i n
 |.attr a k,c,x=>bR x fun e=>jy e fun o n=>cK o&&(iz k n&&chk a c (.e o))
 |.attrO i k,c,x=>bR x fun e=>jy e fun o n=>iz k n&&ba o fun n=>c.isL i n
 |.lenO i,c,x=>bR x fun e=>eB e fun g as=>ba g (fun f=>c.isB Bd f)&&sL as fun a=>ba a fun n=>c.isL i n
 |.popO i,c,x=>bR x fun e=>fM e fun o n as=>as.isEmpty&&(iz Kg n&&ba o fun n=>c.isL i n)
 |.bin o a b,c,x=>bR x fun e=>tD e fun op l r=>iY o op&&(chk a c (.e l)&&chk b c (.e r))
 |.cmp o a b,c,x=>bR x fun e=>wk e fun op l r=>s4 o op&&(!behindInMarks op r&&(chk a c (.e l)&&chk b c (.e r)))
 |.and a b,c,x=>bR x fun e=>oH e fun op l m r p=>D6 op&&(chk a c (.e l)&&chk b c (.e (CJ (.BoolOp .And (m::r) p))))
 |.or a b,c,x=>bR x fun e=>oH e fun op l m r p=>!D6 op&&(chk a c (.e l)&&chk b c (.e (CJ (.BoolOp .Or (m::r) p))))
 |.not a,c,x=>bR x fun e=>AA e fun y=>chk a c (.e y)
 |.ite t a b,c,x=>bR x fun e=>FR e fun p q r=>chk t c (.e p)&&(chk a c (.e q)&&chk b c (.e r))
 |.slc a lo hi,c,x=>bR x fun e=>sq e fun y z=>chk a c (.e y)&&n9 z fun l u=>chk lo c (G6 l)&&chk hi c (G6 u)
 |.idx a b,c,x=>bR x fun e=>sq e fun y z=>chk a c (.e y)&&chk b c (.e z)
 |.nil,_,x=>x.end_
 |.cons a l,c,x=>P9 x.parts fun p=>BY p.1&&(chk a c p.1&&chk l c p.2)
 |.tup l,c,x=>bR x fun e=>j2 e fun es=>Nat.ble es.length 100&&chk l c (.l es)
 |.list l,c,x=>bR x fun e=>kZ e fun es=>Nat.ble es.length 100&&chk l c (.l es)
 |.dict l,c,x=>bR x fun e=>oS e fun ks vs=>Nat.ble vs.length 15&&chk l c (.d ks vs)
 |.hole i,c,x=>match x with
  |.h e=>ba e fun n=>c.isL i n
  |_=>false
 |.bad,_,x=>bR x fun ξ=>true
 |.call f o l,c,x=>bR x fun e=>eB e fun g as=>ba g (fun n=>eO c f n)&&(ce o (aY 0 l)&&chk l c (.a as))
 |.callV i l,c,x=>bR x fun e=>eB e fun g as=>ba g (fun n=>c.isL i n)&&(ce none (aY 0 l)&&chk l c (.a as))
 |.new k l,c,x=>bR x fun e=>eB e fun g as=>ba g (fun n=>eO c k n)&&(ce none (aY 0 l)&&chk l c (.a as))
 |.meth a k o l,c,x=>bR x fun e=>fM e fun b n as=>iz k n&&(chk a c (.e b)&&(ce o (aY 0 l)&&chk l c (.a as)))
 |.methO i k l,c,x=>bR x fun e=>fM e fun b n as=>iz k n&&(ba b (fun n=>c.isL i n)&&(ce none (aY 0 l)&&chk l c (.a as)))
 |.pf p a,c,x=>bR x fun e=>eB e fun g as=>ba g (fun f=>c.isB (O8 p) f)&&sL as fun r=>ek r&&chk a c (.e r)
 |.join a b,c,x=>bR x fun e=>fM e fun o n as=>iz CP n&&(chk a c (.e o)&&sL as fun r=>ek r&&chk b c (.e r))
 |.get a b,c,x=>bR x fun e=>fM e fun o n as=>iz Lo n&&(chk a c (.e o)&&sL as fun r=>ek r&&chk b c (.e r))
 |.comp k fr rng elt iter,c,x=>bR x fun e=>nT e fun el y it sc=>
   Cx.isP ⟨c.P,fg sc c.sc,bH c k fr⟩ 0 y&&(dw c sc fr k&&(jO it&&(chk elt ⟨c.P,fg sc c.sc,bH c k fr⟩ (.e el)&&
   cond rng (eB it fun g as=>ba g (fun f=>c.isB le f)&&sL as fun r=>ek r&&chk iter c (.e r)) (chk iter c (.e it)))))
end
end Mine
namespace Mine
open PySem PySem.W PySem.Calls PyProof.Rows
structure br (c:Cx) (F:Fm):Prop where
 kind:F.env.scope.kind=.function
 sc:F.env.scope=c.sc
 ns:F.ns=c.ns
 glob:F.env.globals=mainGlobals
 blt:F.env.builtins=builtinsNs
 dist:∀(i j:Nat) (x y:Nat×Bool),c.ns[i]?=some x→c.ns[j]?=some y→bw x.1=bw y.1→i=j
 cells:∀(i k:Nat),c.ns[i]?=some (k,true)→∃a,F.env.cells.lookup (bw k)=some a
section
variable {w:World} {h₁:Heap} {os:OsState} {F:Fm} {own own':ch} {Z Z':aI} {m:Str→Option Value} {st:St} {s s':Shared} {A:Around} {E:Value→Shared→Prop} {c:Cx}
theorem ja {k:Nat} (h:aW (iW k) ((Str.ofString "__debug__").cps.toList)=false):(bw k == Str.ofString "__debug__")=false:=by
 have:=gE (iW k) ((Str.ofString "__debug__").cps.toList)
 rw[ct] at h
 rw[h] at this
 exact this
theorem dx {o:Option NameKind} (h:eN o=true):o=some .local:=by
 cases o with
 |none=>exact ff h
 |some k=>cases k<;>first|rfl|exact ff h
theorem mY {o:Option NameKind} (h:oQ o=true):o=some .cell:=by
 cases o with
 |none=>exact ff h
 |some k=>cases k<;>first|rfl|exact ff h
theorem AR {i:Nat} {x:Str} (h:c.isL i x=true):∃k b,c.ns[i]?=some (k,b)∧x=bw k∧(x == Str.ofString "__debug__")=false∧(b=false∧c.kind k=some .local∨b=true∧c.kind k=some .cell):=by
 unfold Cx.isL at h
 cases e:c.ns[i]? with
 |none=>rw[e] at h;exact ff h
 |some p=>
  obtain⟨k,b⟩:=p
  rw[e] at h
  dsimp only at h
  rw[Bool.and_eq_true,Bool.and_eq_true,Bool.not_eq_true'] at h
  obtain⟨⟨h1,h2⟩,h3⟩:=h
  have hx:=cC h1
  refine⟨k,b,rfl,hx,by rw[hx];exact ja h2,?_⟩
  cases b with
  |false=>exact .inl ⟨rfl,dx h3⟩
  |true=>exact .inr ⟨rfl,mY h3⟩
theorem rQ {i:Nat} {x:Str} (h:c.isP i x=true):∃k,c.ns[i]?=some (k,false)∧x=bw k∧(x == Str.ofString "__debug__")=false∧c.kind k=some .local:=by
 unfold Cx.isP at h
 cases e:c.ns[i]? with
 |none=>rw[e] at h;exact ff h
 |some p=>
  obtain⟨k,b⟩:=p
  rw[e] at h
  dsimp only at h
  rw[Bool.and_eq_true,Bool.and_eq_true,Bool.and_eq_true,Bool.not_eq_true',Bool.not_eq_true'] at h
  obtain⟨⟨⟨h1,h2⟩,h3⟩,h4⟩:=h
  have hx:=cC h1
  subst h3
  exact⟨k,rfl,hx,by rw[hx];exact ja h2,dx h4⟩
theorem ci {i:Nat} {x:Str} {y:Nat×Bool} {pos:Pos} {val:Value} {Q:Value→Shared→Prop} (FO:br c F) (h:c.isL i x=true) (I:bt w h₁ os F own Z m st s) (hy:F.ns[i]?=some y) (H:aU F s.heap own m y val)
  (k:Q val s):wpAny (model P0 w) A (eval (.Name x pos) F.env) Q E s:=by
 obtain⟨n,b,e,hx,hd,hk⟩:=AR h
 rw[FO.ns,e] at hy
 cases hy
 subst hx
 unfold Cx.kind at hk
 rw[← FO.sc] at hk
 refine wpAny_Name ?_ hd
 unfold aU at H
 rcases hk with ⟨rfl,hk⟩|⟨rfl,hk⟩
 ·rw[if_neg (by exact Bool.false_ne_true)] at H
  exact wpAny_loadName_local FO.kind hk I.ns H k
 ·rw[if_pos rfl] at H
  obtain⟨a,o,q1,_,_,q2,q3⟩:=H
  exact wpAny_loadName_cell FO.kind hk q1 ⟨o,q2,q3⟩ k
theorem n0 {i:Nat} {x:Str} {l:bB} (FO:br c F) (h:c.isL i x=true) (I:bt w h₁ os F own Z m st s) (hl:st[i]?=some l):∃y,F.ns[i]?=some y∧bI w F Z own s.heap m i y l:=by
 obtain⟨n,b,e,_⟩:=AR h
 have hy:F.ns[i]?=some (n,b):=by rw[FO.ns];exact e
 exact⟨_,hy,I.locs i _ _ hy hl⟩
theorem aT {α:Type} {r:Option α} {K:α→Prop} (h:eM r K):∃x,r=some x∧K x:=by
 cases r with
 |none=>exact h.elim
 |some x=>exact⟨x,rfl,h⟩
theorem di {v:V} {K:List V→Prop} (h:fU v K):∃l,v=.tup l∧K l:=by
 cases v<;>first|exact False.elim h|exact⟨_,rfl,h⟩
noncomputable def dq (i:Nat):bB→Nat
 |.inh _=>1
 |_=>i+2
noncomputable def fS:bB→MO→bB
 |.inh _,m=>.inh m
 |_,m=>.own m
theorem eh {α:Prop} {i:Nat} {f:MO→(MO→bB)→Prop} (h:qE st i f) (k:∀l mo,st[i]?=some l→(l=.own mo∨l=.inh mo)→f mo (fS l)→α):α:=by
 revert h
 unfold qE
 cases e:st[i]? with
 |none=>exact False.elim
 |some l=>cases l with
  |own mo=>exact k _ mo e (.inl rfl)
  |inh mo=>exact k _ mo e (.inr rfl)
  |_=>exact False.elim
theorem EO {mo:MO} {K:List V→Prop} (h:PW mo K):∃l,mo=.list l∧K l:=by
 cases mo with
 |list l=>exact⟨l,rfl,h⟩
 |inst=>exact False.elim h
theorem AU {mo:MO} {K:Nat→List (Nat×V)→Prop} (h:QA mo K):∃C fs,mo=.inst C fs∧K C fs:=by
 cases mo with
 |list l=>exact False.elim h
 |inst C fs=>exact⟨C,fs,rfl,h⟩
theorem pt {i:Nat} {K:V→Prop} (h:t8 st i K):∃x,st[i]?=some (.v x)∧K x:=by
 revert h
 unfold t8
 cases st[i]? with
 |none=>exact False.elim
 |some l=>cases l with
  |v x=>exact fun h=>⟨x,rfl,h⟩
  |_=>exact False.elim
theorem vM {v:V} {K:Nat→Prop} (h:DN v K):∃l,v=.raw l∧K l:=by
 cases v<;>first|exact False.elim h|exact⟨_,rfl,h⟩
theorem nD {i:Nat} {x:Str} {l:bB} {mo:MO} (FO:br c F) (hx:c.isL i x=true) (I:bt w h₁ os F own Z m st s) (hi:st[i]?=some l) (hl:l=.own mo∨l=.inh mo):
  ∃y a,F.ns[i]?=some y∧aU F s.heap own m y (.ref a)∧bN w Z own s.heap (dq i l) mo a∧(l=.inh mo→a=F.inh):=by
 obtain⟨y,hy,L⟩:=n0 FO hx I hi
 rcases hl with rfl|rfl
 ·induction L using bI.ownE with
  |own H R=>exact⟨y,_,hy,H,R,fun q=>(by first|exact nn q|exact nn q.symm|exact ff q|exact absurd q List.not_mem_nil|cases q)⟩
 ·induction L using bI.inhE with
  |inh H R=>exact⟨y,_,hy,H,R,fun ξ=>rfl⟩
variable {T:fY} {call:aM}
theorem FC {i:Nat} {x:Str} {pos:Pos} (FO:br c F) (h:c.isL i x=true):SE w h₁ os A F T call (.loc i) (.Name x pos):=fun own Z m st s K I hc=>by
 dsimp only[ay] at hc
 revert hc
 cases e:st[i]? with
 |none=>exact False.elim
 |some l=>cases l with
  |v v=>
   intro hc
   obtain⟨y,hy,L⟩:=n0 FO h I e
   induction L using bI.vE with
   |v H R=>exact ci FO h I hy H (PE.here I R hc)
  |own mo=>
   intro hc
   obtain⟨y,a,hy,H,I',S,R⟩:=I.fz e
   exact ci FO h I hy H ⟨_,_,_,_,I',S,R,(gM (K:=K (fz mo))).mp hc⟩
  |_=>exact False.elim
inductive HP:V→Const→Prop
 |none:HP .none .none
 |bool (b:Bool):HP (.bool b) (.bool b)
 |int (i:Int):HP (.int i) (.int i)
 |str (l:List Nat):HP (.str l) (.str (sS l))
theorem Bs {v:V} {k:Const} (h:E6 v k=true):HP v k:=by
 cases v with
 |none=>cases k<;>first|exact .none|exact ff h
 |bool b=>cases k with
  |bool c=>cases beq_iff_eq.mp h;exact .bool b
  |_=>exact ff h
 |int b=>cases k with
  |int c=>cases of_decide_eq_true h;exact .int b
  |_=>exact ff h
 |str l=>cases k with
  |str y=>
   obtain⟨⟨l'⟩⟩:=y
   have h:aW l l'=true:=h
   rw[ct,beq_iff_eq] at h
   cases h;exact .str l
  |_=>exact ff h
 |_=>exact ff h
theorem vH {v:V} {k:Const} {n:Nat} {pos:Pos} (h:E6 v k=true):SE w h₁ os A F T call (.lit v) (.Constant k n pos):=fun own Z m st s K I hc=>by
 dsimp only[ay] at hc
 cases Bs h with
 |none=>exact wpAny_Constant_none (PE.here I .none hc)
 |bool=>exact wpAny_Constant_bool (PE.here I (.bool _) hc)
 |int=>exact wpAny_Constant_int (PE.now I (.int _ _) hc)
 |str=>exact wpAny_Constant_str (PE.now I (.str _ _) hc)
theorem iQ {o:pd} {op:Operator} (h:iY o op=true):op=A7 o:=of_decide_eq_true h
theorem iG {o:AW} {op:CmpOp} (h:s4 o op=true):op=GI o:=of_decide_eq_true h
theorem FT {o:pd} {a b:Mine.E} {l r:PySem.Expr} {op:Operator} {pos:Pos} (h:iY o op=true) (ha:SE w h₁ os A F T call a l) (hb:SE w h₁ os A F T call b r):
  SE w h₁ os A F T call (.bin o a b) (.BinOp l op r pos):=fun own Z m st s K I hc=>by
 dsimp only[ay] at hc
 rw[iQ h]
 refine wpAny_BinOp (ha.use I hc fun own₁ Z₁ v₁ st₁ x₁ s₁ I₁ S₁ R₁ k₁=>hb.use I₁ k₁ fun own₂ Z₂ v₂ st₂ x₂ s₂ I₂ S₂ R₂ k₂=>?_)
 obtain⟨r,e,k₂⟩:=aT k₂
 exact wpAny_mono (Hw I₂ e k₂.1 (R₁.mono S₂.z) R₂ k₂.2) (fun ξ ξ p=>p.after (S₁.trans S₂)) fun ξ ξ f=>f
theorem Fk {o:AW} {a b:Mine.E} {l r:PySem.Expr} {op:CmpOp} {pos:Pos} (hu:A.units < cLine) (h:s4 o op=true) (hm:behindInMarks op r=false) (ha:SE w h₁ os A F T call a l) (hb:SE w h₁ os A F T call b r):
  SE w h₁ os A F T call (.cmp o a b) (.Compare l [op] [r] pos):=fun own Z m st s K I hc=>by
 dsimp only[ay] at hc
 rw[iG h]
 rw[iG h] at hm
 refine wpAny_Compare1 (ha.use I hc fun own₁ Z₁ v₁ st₁ x₁ s₁ I₁ S₁ R₁ k₁=>hb.use I₁ k₁ fun own₂ Z₂ v₂ st₂ x₂ s₂ I₂ S₂ R₂ k₂=>?_) hm
 obtain⟨r,e,k₂⟩:=aT k₂
 exact xH hu e (R₁.mono S₂.z) R₂ I₂.zin fun t=>PE.after (S₁.trans S₂) (PE.now I₂ (.bool _) k₂)
inductive PT (w:World) (h₁:Heap) (os:OsState) (F:Fm) (own:ch) (Z:aI) (m:Str→Option Value) (h:Heap) (K:Bool→St→Prop) (b:Bool) (s':Shared):Prop
 |mk (own':ch) (Z':aI) (st':St) (I:bt w h₁ os F own' Z' m st' s') (S:Step own Z h own' Z' s'.heap) (k:K b st')
theorem PT.after {h h':Heap} {K:Bool→St→Prop} {b:Bool} (S:Step own Z h own' Z' h') (p:PT w h₁ os F own' Z' m h' K b s'):PT w h₁ os F own Z m h K b s':=
 by cases p with|mk a b c e1 e2 e3=>exact⟨a,b,c,e1,S.trans e2,e3⟩
theorem PT.now {K:Bool→St→Prop} {b:Bool} {t:Nat} (I:bt w h₁ os F own Z m st s) (k:K b st):PT w h₁ os F own Z m s.heap K b { s with toks:=t }:=
 ⟨own,Z,st,I.grow (fun ξ ξ e=>e) rfl rfl,Step.refl ..,k⟩
noncomputable def ST (w:World) (h₁:Heap) (os:OsState) (A:Around) (F:Fm) (T:fY) (call:aM) (c:Mine.E) (e:PySem.Expr):Prop:=
 ∀own Z m st s (K:Bool→St→Prop),bt w h₁ os F own Z m st s→ay T call c st (kf K)→
  wpAny (model P0 w) A (isTrue e F.env (eval e F.env)) (PT w h₁ os F own Z m s.heap K) (fun ξ ξ=>False) s
theorem ST.use {a:Mine.E} {e:PySem.Expr} {K:Bool→St→Prop} {Q:Bool→Shared→Prop} (H:ST w h₁ os A F T call a e) (I:bt w h₁ os F own Z m st s) (hc:ay T call a st (kf K))
  (k:∀own' Z' b st' s',bt w h₁ os F own' Z' m st' s'→Step own Z s.heap own' Z' s'.heap→K b st'→Q b s'):wpAny (model P0 w) A (isTrue e F.env (eval e F.env)) Q (fun ξ ξ=>False) s:=
 wpAny_mono (H own Z m st s K I hc) (fun b s' p=>by cases p with|mk a z d e1 e2 e3=>exact k a z b d s' e1 e2 e3) fun ξ ξ f=>f
theorem wH {a:Mine.E} {e:PySem.Expr} (H:SE w h₁ os A F T call a e) (hp:isTrue e F.env (eval e F.env)=(do let v ← eval e F.env;standAt e.pos;holding [v] (truthy v))):ST w h₁ os A F T call a e:=fun own Z m st s K I hc=>
 isTrue_plain (H.use I hc fun own₁ Z₁ v₁ st₁ x₁ s₁ I₁ S₁ R₁ k₁=>by
  obtain⟨t,e,k⟩:=aT k₁
  exact iJ e R₁ I₁.zin fun t=>PT.after S₁ (PT.now I₁ k)) hp
theorem ES {o:AW} {a b:Mine.E} {l r:PySem.Expr} {op:CmpOp} {pos:Pos} (hu:A.units < cLine) (h:s4 o op=true) (hm:behindInMarks op r=false) (ha:SE w h₁ os A F T call a l) (hb:SE w h₁ os A F T call b r):
  ST w h₁ os A F T call (.cmp o a b) (.Compare l [op] [r] pos):=fun own Z m st s K I hc=>by
 dsimp only[ay] at hc
 rw[iG h]
 rw[iG h] at hm
 refine wpAny_isTrue_Compare1 (ha.use I hc fun own₁ Z₁ v₁ st₁ x₁ s₁ I₁ S₁ R₁ k₁=>hb.use I₁ k₁ fun own₂ Z₂ v₂ st₂ x₂ s₂ I₂ S₂ R₂ k₂=>?_) hm
 obtain⟨r,e,k⟩:=aT k₂
 exact xH hu e (R₁.mono S₂.z) R₂ I₂.zin fun t=>wpAny_truthy_bool (PT.after (S₁.trans S₂) (PT.now I₂ k))
theorem mt {op:BoolOp} {e:PySem.Expr} {rest:List PySem.Expr} {pos:Pos} {Q:Bool→Shared→Prop} (h:wpAny (model P0 w) A (isTrue (CJ (.BoolOp op (e::rest) pos)) F.env (eval (CJ (.BoolOp op (e::rest) pos)) F.env)) Q E s):
  wpAny (model P0 w) A (allTrue op (e::rest) F.env) Q E s:=by
 cases rest with
 |nil=>
  have h:wpAny (model P0 w) A (isTrue e F.env (eval e F.env)) Q E s:=h
  cases op with
  |And=>
   refine wpAny_allTrue_And_cons (wpAny_mono h (fun b s' q=>?_) fun ξ ξ x=>x)
   cases b
   ·exact q
   ·exact wpAny_allTrue_And_nil q
  |Or=>
   refine wpAny_allTrue_Or_cons (wpAny_mono h (fun b s' q=>?_) fun ξ ξ x=>x)
   cases b
   ·exact wpAny_allTrue_Or_nil q
   ·exact q
 |cons e' r=>
  have h:wpAny (model P0 w) A (isTrue (.BoolOp op (e::e'::r) pos) F.env (eval (.BoolOp op (e::e'::r) pos) F.env)) Q E s:=h
  rw[arm_isTrue_BoolOp] at h
  exact h
theorem Fo {a b:Mine.E} {e₁ e₂:PySem.Expr} {rest:List PySem.Expr} {pos:Pos} (ha:ST w h₁ os A F T call a e₁) (hb:ST w h₁ os A F T call b (CJ (.BoolOp .And (e₂::rest) pos))):ST w h₁ os A F T call (.and a b) (.BoolOp .And (e₁::e₂::rest) pos):=fun own Z m st s K I hc=>by
 dsimp only[ay] at hc
 refine wpAny_isTrue_BoolOp (wpAny_allTrue_And_cons ?_)
 refine ST.use (K:=fun t st=>cond t (ay T call b st (kf K)) (K false st)) ha I ?_ fun own₁ Z₁ t st₁ s₁ I₁ S₁ k₁=>?_
 ·refine Eq.mp (congrArg (ay T call a st) (funext fun x=>funext fun st=>?_)) hc
  unfold LP kf
  cases q:c9 x with
  |none=>rfl
  |some t=>
   cases t with
   |true=>rfl
   |false=>rfl
 ·cases t with
  |false=>exact PT.after S₁ ⟨_,_,_,I₁,Step.refl ..,k₁⟩
  |true=>exact mt (hb.use I₁ k₁ fun own₂ Z₂ t st₂ s₂ I₂ S₂ k₂=>PT.after (S₁.trans S₂) ⟨_,_,_,I₂,Step.refl ..,k₂⟩)
theorem Kp {a b:Mine.E} {e₁ e₂:PySem.Expr} {rest:List PySem.Expr} {pos:Pos} (ha:ST w h₁ os A F T call a e₁) (hb:ST w h₁ os A F T call b (CJ (.BoolOp .Or (e₂::rest) pos))):ST w h₁ os A F T call (.or a b) (.BoolOp .Or (e₁::e₂::rest) pos):=fun own Z m st s K I hc=>by
 dsimp only[ay] at hc
 refine wpAny_isTrue_BoolOp (wpAny_allTrue_Or_cons ?_)
 refine ST.use (K:=fun t st=>cond t (K true st) (ay T call b st (kf K))) ha I ?_ fun own₁ Z₁ t st₁ s₁ I₁ S₁ k₁=>?_
 ·refine Eq.mp (congrArg (ay T call a st) (funext fun x=>funext fun st=>?_)) hc
  unfold Qh kf
  cases q:c9 x with
  |none=>rfl
  |some t=>
   cases t with
   |false=>rfl
   |true=>rfl
 ·cases t with
  |true=>exact PT.after S₁ ⟨_,_,_,I₁,Step.refl ..,k₁⟩
  |false=>exact mt (hb.use I₁ k₁ fun own₂ Z₂ t st₂ s₂ I₂ S₂ k₂=>PT.after (S₁.trans S₂) ⟨_,_,_,I₂,Step.refl ..,k₂⟩)
theorem Gb {a:Mine.E} {e:PySem.Expr} {pos:Pos} (ha:ST w h₁ os A F T call a e):ST w h₁ os A F T call (.not a) (.UnaryOp .Not e pos):=fun own Z m st s K I hc=>by
 dsimp only[ay] at hc
 refine isTrue_not (ST.use (K:=fun t st=>K (!t) st) ha I hc fun own₁ Z₁ t st₁ s₁ I₁ S₁ k₁=>PT.after S₁ ⟨_,_,_,I₁,Step.refl ..,k₁⟩)
theorem GL {t a b:Mine.E} {e₀ e₁ e₂:PySem.Expr} {pos:Pos} (ht:ST w h₁ os A F T call t e₀) (ha:ST w h₁ os A F T call a e₁) (hb:ST w h₁ os A F T call b e₂):ST w h₁ os A F T call (.ite t a b) (.IfExp e₀ e₁ e₂ pos):=fun own Z m st s K I hc=>by
 dsimp only[ay] at hc
 refine isTrue_IfExp (ht.use I hc fun own₁ Z₁ t st₁ s₁ I₁ S₁ k₁=>?_)
 cases t with
 |true=>exact wpAny_mono (ha _ _ _ _ _ _ I₁ k₁) (fun ξ ξ p=>p.after S₁) fun ξ ξ f=>f
 |false=>exact wpAny_mono (hb _ _ _ _ _ _ I₁ k₁) (fun ξ ξ p=>p.after S₁) fun ξ ξ f=>f
theorem ER {t a b:Mine.E} {e₀ e₁ e₂:PySem.Expr} {pos:Pos} (ht:ST w h₁ os A F T call t e₀) (ha:SE w h₁ os A F T call a e₁) (hb:SE w h₁ os A F T call b e₂):SE w h₁ os A F T call (.ite t a b) (.IfExp e₀ e₁ e₂ pos):=fun own Z m st s K I hc=>by
 dsimp only[ay] at hc
 refine wpAny_IfExp (ht.use I hc fun own₁ Z₁ t st₁ s₁ I₁ S₁ k₁=>?_)
 cases t with
 |true=>exact wpAny_mono (ha _ _ _ _ _ _ I₁ k₁) (fun ξ ξ p=>p.after S₁) fun ξ ξ f=>f
 |false=>exact wpAny_mono (hb _ _ _ _ _ _ I₁ k₁) (fun ξ ξ p=>p.after S₁) fun ξ ξ f=>f
theorem yC {b:Mine.E} {op:BoolOp} {e:PySem.Expr} {rest:List PySem.Expr} {pos:Pos} {Q:Value→Shared→Prop} (h:wpAny (model P0 w) A (eval (CJ (.BoolOp op (e::rest) pos)) F.env) Q E s):wpAny (model P0 w) A (eval (.BoolOp op (e::rest) pos) F.env) Q E s:=by
 cases rest with
 |nil=>exact BoolOp_one h
 |cons e' r=>exact h
theorem Gd {a b:Mine.E} {e₁ e₂:PySem.Expr} {rest:List PySem.Expr} {pos:Pos} (ha:SE w h₁ os A F T call a e₁) (hb:SE w h₁ os A F T call b (CJ (.BoolOp .And (e₂::rest) pos))):SE w h₁ os A F T call (.and a b) (.BoolOp .And (e₁::e₂::rest) pos):=fun own Z m st s K I hc=>by
 dsimp only[ay] at hc
 refine BoolOp_and (ha.use I hc fun own₁ Z₁ v₁ st₁ x₁ s₁ I₁ S₁ R₁ k₁=>?_)
 obtain⟨t,e,k⟩:=aT k₁
 refine iJ e R₁ I₁.zin fun tk=>?_
 have I₂:=I₁.grow (s':={ s₁ with toks:=tk }) (fun ξ ξ e=>e) rfl rfl
 cases t with
 |false=>exact PE.after S₁ (PE.here I₂ R₁ k)
 |true=>exact yC (b:=b) (wpAny_mono (hb _ _ _ _ _ _ I₂ k) (fun ξ ξ p=>p.after S₁) fun ξ ξ f=>f)
theorem Ms {a b:Mine.E} {e₁ e₂:PySem.Expr} {rest:List PySem.Expr} {pos:Pos} (ha:SE w h₁ os A F T call a e₁) (hb:SE w h₁ os A F T call b (CJ (.BoolOp .Or (e₂::rest) pos))):SE w h₁ os A F T call (.or a b) (.BoolOp .Or (e₁::e₂::rest) pos):=fun own Z m st s K I hc=>by
 dsimp only[ay] at hc
 refine BoolOp_or (ha.use I hc fun own₁ Z₁ v₁ st₁ x₁ s₁ I₁ S₁ R₁ k₁=>?_)
 obtain⟨t,e,k⟩:=aT k₁
 refine iJ e R₁ I₁.zin fun tk=>?_
 have I₂:=I₁.grow (s':={ s₁ with toks:=tk }) (fun ξ ξ e=>e) rfl rfl
 cases t with
 |true=>exact PE.after S₁ (PE.here I₂ R₁ k)
 |false=>exact yC (b:=b) (wpAny_mono (hb _ _ _ _ _ _ I₂ k) (fun ξ ξ p=>p.after S₁) fun ξ ξ f=>f)
theorem Gj {a:Mine.E} {e:PySem.Expr} {pos:Pos} (ha:SE w h₁ os A F T call a e):SE w h₁ os A F T call (.not a) (.UnaryOp .Not e pos):=fun own Z m st s K I hc=>by
 dsimp only[ay] at hc
 refine wpAny_UnaryOp (ha.use I hc fun own₁ Z₁ v₁ st₁ x₁ s₁ I₁ S₁ R₁ k₁=>not_of ?_)
 obtain⟨t,e,k⟩:=aT k₁
 exact iJ e R₁ I₁.zin fun tk=>PE.after S₁ (PE.now I₁ (.bool _) k)
theorem Ht {a b:Mine.E} {e i:PySem.Expr} {pos:Pos} (ha:SE w h₁ os A F T call a e) (hb:SE w h₁ os A F T call b i):SE w h₁ os A F T call (.idx a b) (.Subscript e i pos):=fun own Z m st s K I hc=>by
 dsimp only[ay] at hc
 refine Subscript_ (ha.use I hc fun own₁ Z₁ v₁ st₁ x₁ s₁ I₁ S₁ R₁ k₁=>hb.use I₁ k₁ fun own₂ Z₂ v₂ st₂ x₂ s₂ I₂ S₂ R₂ k₂=>?_)
 obtain⟨r,e,k⟩:=aT k₂
 exact Fr I₂.zin e (R₁.mono S₂.z) R₂ fun v t R=>PE.after (S₁.trans S₂) (PE.now I₂ R k)
inductive PL (w:World) (h₁:Heap) (os:OsState) (F:Fm) (own:ch) (Z:aI) (m:Str→Option Value) (h:Heap) (n:Nat) (K:V→St→Prop) (vs:List Value) (s':Shared):Prop
 |mk (e:vs.length=n) (own':ch) (Z':aI) (l:List V) (st':St) (I:bt w h₁ os F own' Z' m st' s') (S:Step own Z h own' Z' s'.heap) (R:aH w Z' l vs) (k:K (.tup l) st')
noncomputable def SL (w:World) (h₁:Heap) (os:OsState) (A:Around) (F:Fm) (T:fY) (call:aM) (c:Mine.E) (es:List PySem.Expr):Prop:=
 ∀own Z m st s K pos,bt w h₁ os F own Z m st s→ay T call c st K→wpAny (model P0 w) A (spliced (backTo pos (starEach es F.env))) (PL w h₁ os F own Z m s.heap es.length K) (fun ξ ξ=>False) s
theorem cH {e:PySem.Expr} {rest:List PySem.Expr} {env:Env} (hs:∀x p,e≠.Starred x p):starEach (e::rest) env=(false,eval e env)::starEach rest env:=by
 cases e<;>first|rfl|exact absurd rfl (hs _ _)
theorem E9:SL w h₁ os A F T call .nil []:=fun own Z m st s K pos I hc=>by
 dsimp only[ay] at hc
 exact wpAny_items_nil ⟨rfl,_,_,_,_,I,Step.refl ..,.nil,hc⟩
theorem Cq {a l:Mine.E} {e:PySem.Expr} {es:List PySem.Expr} (hs:∀x p,e≠.Starred x p) (ha:SE w h₁ os A F T call a e) (hl:SL w h₁ os A F T call l es):SL w h₁ os A F T call (.cons a l) (e::es):=fun own Z m st s K pos I hc=>by
 dsimp only[ay] at hc
 refine wpAny_items_cons (ha.use I hc fun own₁ Z₁ v₁ st₁ x₁ s₁ I₁ S₁ R₁ k₁=>?_) (cH hs)
 refine wpAny_mono (hl _ _ _ _ _ _ pos I₁ k₁) (fun vs s₂ p=>?_) fun ξ ξ f=>f
 obtain⟨hn,own₂,Z₂,l₂,st₂,I₂,S₂,R₂,k₂⟩:=p
 exact⟨by rw[List.length_cons,List.length_cons,hn],own₂,Z₂,v₁::l₂,st₂,I₂,S₁.trans S₂,.cons (R₁.mono S₂.z) R₂,k₂⟩
theorem F9 {l:Mine.E} {es:List PySem.Expr} {k:Nat} {pos:Pos} (hl:SL w h₁ os A F T call l es) (hn:es.length≤bA):SE w h₁ os A F T call (.tup l) (.Tuple es k pos):=fun own Z m st s K I hc=>by
 dsimp only[ay] at hc
 refine wpAny_Tuple (wpAny_mono (hl _ _ _ _ _ _ pos I hc) (fun vs s₁ p=>?_) fun ξ ξ f=>f)
 obtain⟨q,own₁,Z₁,l₁,st₁,I₁,S₁,R₁,k₁⟩:=p
 exact⟨by rw[q];exact ey hn,PE.after S₁ (Bk I₁ R₁ k₁)⟩
theorem Bj {l:Mine.E} {es:List PySem.Expr} {pos:Pos} (hl:SL w h₁ os A F T call l es) (hn:es.length≤bA):SE w h₁ os A F T call (.list l) (.List es pos):=fun own Z m st s K I hc=>by
 dsimp only[ay] at hc
 refine wpAny_List (wpAny_mono (hl _ _ _ _ _ _ pos I hc) (fun vs s₁ p=>?_) fun ξ ξ f=>f)
 obtain⟨q,own₁,Z₁,l₁,st₁,I₁,S₁,R₁,k₁⟩:=p
 exact⟨by rw[q];exact ey hn,PE.after S₁ (lm I₁ R₁ k₁)⟩
theorem SO {a:Mine.E} {o:Option PySem.Expr} (h:(a=.lit .none∧o=none)∨∃e,o=some e∧SE w h₁ os A F T call a e) {K:V→St→Prop} (I:bt w h₁ os F own Z m st s) (hc:ay T call a st K):
  wpAny (model P0 w) A (valueOrNone (evalOpt o F.env)) (PE w h₁ os F own Z m s.heap K) (fun ξ ξ=>False) s:=by
 rcases h with ⟨rfl,rfl⟩|⟨e,rfl,H⟩
 ·dsimp only[ay] at hc
  exact wpAny_pure (PE.here I .none hc)
 ·exact H _ _ _ _ _ _ I hc
theorem Gf {a lo hi:Mine.E} {e:PySem.Expr} {l u:Option PySem.Expr} {p pos:Pos} (ha:SE w h₁ os A F T call a e) (hlo:(lo=.lit .none∧l=none)∨∃e,l=some e∧SE w h₁ os A F T call lo e) (hhi:(hi=.lit .none∧u=none)∨∃e,u=some e∧SE w h₁ os A F T call hi e):
  SE w h₁ os A F T call (.slc a lo hi) (.Subscript e (.Slice l u none p) pos):=fun own Z m st s K I hc=>by
 dsimp only[ay] at hc
 refine Subscript_ (ha.use I hc fun own₁ Z₁ v₁ st₁ x₁ s₁ I₁ S₁ R₁ k₁=>?_)
 rw[arm_eval_Slice]
 refine wpAny_bind (wpAny_mono (SO hlo I₁ k₁) (fun x₂ s₂ p₂=>?_) fun ξ ξ f=>f)
 refine bc fun G=>?_;obtain⟨own₂,Z₂,v₂,st₂,I₂,S₂,R₂,k₂⟩:=p₂
 refine G ?_;clear G;refine wpAny_bind (wpAny_holding (wpAny_mono (SO hhi I₂ k₂) (fun x₃ s₃ p₃=>?_) fun ξ ξ f=>f))
 refine bc fun G=>?_;obtain⟨own₃,Z₃,v₃,st₃,I₃,S₃,R₃,k₃⟩:=p₃
 refine G ?_;clear G;refine wpAny_bind (wpAny_holding (wpAny_pure ?_))
 refine bc fun G=>?_;obtain⟨r,e,k⟩:=aT k₃
 refine G ?_;clear G;unfold newFields
 refine wpAny_newObj_type ?_
 exact wpAny_mono (E1 I₃ e (R₁.mono (S₂.trans S₃).z) (R₂.mono S₃.z) R₃ k) (fun ξ ξ q=>q.after (S₁.trans (S₂.trans S₃))) fun ξ ξ f=>f
set_option tactic.hygienic true in
theorem BF {o:Obj} {xs:List Value} (h:wj o=some xs):∃n,o.cls=.type "tuple"∧o.data=.seq ⟨xs⟩ n:=by
 obtain⟨cl,d,dt,sl⟩:=o
 unfold wj at h
 dsimp only at h
 split at h
 ·split at h
  ·rename_i t ys k ht
   cases h
   subst ht
   obtain⟨ys⟩:=ys
   exact⟨k,rfl,rfl⟩
  ·exact nn h
 ·exact nn h
noncomputable def rt:List (List Nat)→List (V×V)
 |a::b::r=>(.str a,.str b)::rt r
 |_=>[]
theorem xY {v:V} {s:List Nat} (h:Oe v=some s):v=.str s:=by
 cases v<;>(first|exact nn h|cases h)
 rfl
theorem pZ:∀{es:List (V×V)} {l:List (List Nat)},tC es=some l→es=rt l
 |[],_,h=>by cases h;rfl
 |(x,y)::r,l,h=>by
  refine bc fun G=>?_;obtain⟨a,e1,h⟩:=Option.bind_eq_some_iff.mp h
  obtain⟨b,e2,h⟩:=Option.bind_eq_some_iff.mp h
  obtain⟨l',e3,rfl⟩:=Option.map_eq_some_iff.mp h
  have e1:=xY e1
  have e2:=xY e2
  dsimp only at e1 e2
  refine G ?_;clear G;rw[e1,e2,pZ e3]
  rfl
noncomputable def OQ (P:Params):Obj:=dS (cM) [ah P 92 572 (vS 23644 573),ah P 10 574 (vS 28252 575),ah P 9 576 (vS 29788 577),ah P 13 578 (vS 29276 579)] 4
theorem kV {k j:Str} {e:DictEntry} {r:List DictEntry} {t:Tok} (h:e.key=.str j t):
  ((e::r).find? fun e=>(PySem.strKind P0 w).is k e.key).map (·.val)=if j=k then some e.val else(r.find? fun e=>(PySem.strKind P0 w).is k e.key).map (·.val):=by
 have q:(PySem.strKind P0 w).is k e.key=(j == k):=by rw[h];rfl
 rw[List.find?_cons,q]
 by_cases c:j=k
 ·rw[if_pos c,c,beq_self_eq_true];rfl
 ·rw[if_neg c,beq_eq_false_iff_ne.mpr c]
theorem EY (P:Params):jD P Cj=some (OQ P):=by kernel_rfl
theorem Bi (hZ:∀a o,jD w.params a=some o→Z a=some o):aA w Z (.dict (rt FL)) (.ref Cj):=by
 refine .dictS (kvs:=[(sS [92],.str (sS [92,92]) 573),(sS [10],.str (sS [92,110]) 575),(sS [9],.str (sS [92,116]) 577),(sS [13],.str (sS [92,114]) 579)]) (f:=fun k=>findBy (PySem.strKind P0 w).is ⟨[ah w.params 92 572 (vS 23644 573),ah w.params 10 574 (vS 28252 575),ah w.params 9 576 (vS 29788 577),ah w.params 13 578 (vS 29276 579)]⟩ k)
  rfl (hZ _ _ (EY _)) ⟨⟨rfl,rfl,rfl⟩,_,_,rfl,?_,fun ξ=>rfl⟩ (.cons (.str _ _) (.cons (.str _ _) (.cons (.str _ _) (.cons (.str _ _) .nil)))) fun k=>?_
 ·intro e he
  rcases List.mem_cons.mp (Array.mem_def.mp he) with rfl|he
  ·exact⟨sS [92],rfl,rfl⟩
  rcases List.mem_cons.mp he with rfl|he
  ·exact⟨sS [10],rfl,rfl⟩
  rcases List.mem_cons.mp he with rfl|he
  ·exact⟨sS [9],rfl,rfl⟩
  rcases List.mem_cons.mp he with rfl|he
  ·exact⟨sS [13],rfl,rfl⟩
  cases he
 ·unfold findBy
  rw[List.find?_toArray]
  exact(kV rfl).trans (congrArg (ite _ _) ((kV rfl).trans (congrArg (ite _ _) ((kV rfl).trans (congrArg (ite _ _) (kV rfl))))))
mutual
theorem pr (hZ:∀a o,jD w.params a=some o→Z a=some o):∀{n:Nat} {v:V} {x:Value},zO w.params n v x=true→aA w Z v x
 |0,_,_,h=>ff h
 |n+1,v,x,h=>by
  cases v with
  |none=>cases x with
   |none=>exact .none
   |_=>exact ff h
  |bool a=>cases x with
   |bool b=>have h:(a == b)=true:=h;have h:=beq_iff_eq.mp h;subst h;exact .bool _
   |_=>exact ff h
  |int a=>cases x with
   |int b=>have h:=of_decide_eq_true h;subst h;exact .int _ _
   |_=>exact ff h
  |str l=>cases x with
   |str y t=>
    have h:aW l y.cps.toList=true:=h
    rw[ct,beq_iff_eq] at h
    obtain⟨⟨l'⟩⟩:=y
    have h:l=l':=h
    subst h
    exact .str _ _
   |_=>exact ff h
  |raw a=>cases x with
   |ref b=>have h:=Nat.eq_of_beq_eq_true h;subst h;exact .raw _
   |_=>exact ff h
  |tup l=>cases x with
   |ref a=>
    have h:(match (jD w.params a).bind wj with|some xs=>pJ w.params n l xs|none=>false)=true:=h
    cases q:(jD w.params a).bind wj with
    |none=>rw[q] at h;exact ff h
    |some xs=>
     rw[q] at h
     obtain⟨o,e1,e2⟩:=Option.bind_eq_some_iff.mp q
     obtain⟨k,c1,c2⟩:=BF e2
     exact .tup (hZ _ _ e1) c1 c2 (nA hZ h)
   |_=>exact ff h
  |dict es=>cases x with
   |ref a=>
    have h:(Nat.beq a Cj&&decide (tC es=some FL))=true:=h
    rw[Bool.and_eq_true] at h
    have e1:=Nat.eq_of_beq_eq_true h.1
    rw[e1,pZ (of_decide_eq_true h.2)]
    exact Bi hZ
   |_=>exact ff h
  |_=>exact ff h
theorem nA (hZ:∀a o,jD w.params a=some o→Z a=some o):∀{n:Nat} {l:List V} {xs:List Value},pJ w.params n l xs=true→aH w Z l xs
 |n,[],xs,h=>by
  cases n<;>cases xs<;>first|exact .nil|exact ff h
 |0,_::_,_,h=>ff h
 |n+1,v::l,[],h=>ff h
 |n+1,v::l,x::r,h=>by
  have h:(zO w.params n v x&&pJ w.params n l r)=true:=h
  rw[Bool.and_eq_true] at h
  exact .cons (pr hZ h.1) (nA hZ h.2)
end
theorem oj {h:Heap} (Fa:aV w h):∃mg,h.Ns mainGlobals mg∧∀x,mg x=globalOf (dQ w.params) x:=by
 have g3:h.get? mainNs=(dQ w.params).get? mainNs:=gl Fa.at_ (k3 w.params) rfl (f3 w.params)
 have hn:h.isNs mainGlobals=true:=by
  have hc:=fQ w.params
  simp only[b8,Bool.and_eq_true] at hc
  exact(dC g3).trans hc.1.2
 exact⟨_,.of_isNs hn,fun x=>(Pin.globalOf_eq hn _).symm.trans (dg g3 _)⟩
set_option tactic.hygienic true in
theorem E3 {k:Nat} {v:V} {x:Str} {pos:Pos} (FO:br c F) (Fa:aV w h₁) (hP:c.P=w.params) (h:c.isGv k x (zO c.P 40 v)=true):SE w h₁ os A F T call (.glo k v) (.Name x pos):=fun own Z m st s K I hc=>by
 dsimp only[ay] at hc
 unfold Cx.isGv at h
 rw[Bool.and_eq_true,Bool.and_eq_true] at h
 refine bc fun G=>?_;obtain⟨⟨h1,h2⟩,h3⟩:=h
 have hx:=cC h1
 subst hx
 unfold Cx.isG at h2
 refine G ?_;clear G;split at h2
 ·rename_i q
  unfold Cx.kind at q
  rw[← FO.sc] at q
  rw[Bool.not_eq_true'] at h2
  split at h3
  ·rename_i y e
   unfold gK at e
   rw[hP] at h3 e
   have Fs:aV w s.heap:=Fa.keeps fun b o e=>I.zin b o (I.base b o e)
   refine bc fun G=>?_;obtain⟨mg,n1,n2⟩:=oj Fs
   refine G ?_;clear G;refine Calls.Name_function_global FO.kind q (Calls.loadGlobal_global (by rw[FO.glob];exact n1) ((n2 _).trans e) ?_) (ja h2)
   exact PE.here I (pr (fun a o e=>I.base _ _ (Fa.at_ _ _ e)) h3) hc
  ·exact ff h3
 ·exact ff h2
end
noncomputable def KC (p:Program) (P:Params):Frag:=[(nat_lit 38,Qu p P),(nat_lit 37,Qk p P),(nat_lit 35,Qq p P),(nat_lit 211,HN p P),(nat_lit 210,MN p P),(nat_lit 194,Ij p P),(nat_lit 201,MX p P),(nat_lit 208,JJ p P),(nat_lit 285,Lw p P),(nat_lit 284,HO p P),(nat_lit 282,KB p P),(nat_lit 327,Im p P),(nat_lit 326,JW p P),(nat_lit 303,Ix p P),(nat_lit 310,KJ p P),(nat_lit 317,Kj p P),(nat_lit 324,HQ p P),(nat_lit 362,IV p P),(nat_lit 361,Jy p P),(nat_lit 345,IC p P),(nat_lit 352,MM p P),(nat_lit 359,Kt p P),(nat_lit 446,Ko p P),(nat_lit 445,IL p P),(nat_lit 443,LI p P),(nat_lit 465,Jw p P),(nat_lit 464,Ku p P),(nat_lit 462,JY p P),(nat_lit 484,IY p P),(nat_lit 483,Lu p P),(nat_lit 481,Kx p P),(nat_lit 503,L3 p P),(nat_lit 502,I1 p P),(nat_lit 500,Ju p P),(nat_lit 522,KU p P),(nat_lit 521,L9 p P),(nat_lit 519,Jb p P),(nat_lit 541,IH p P),(nat_lit 540,H8 p P),(nat_lit 538,Ll p P),(nat_lit 560,Js p P),(nat_lit 559,MT p P),(nat_lit 557,LM p P),(nat_lit 579,MS p P),(nat_lit 578,Jh p P),(nat_lit 576,IR p P),(nat_lit 598,JI p P),(nat_lit 597,L0 p P),(nat_lit 595,Ie p P),(nat_lit 617,Mm p P),(nat_lit 616,LL p P),(nat_lit 614,Mq p P),(nat_lit 636,JK p P),(nat_lit 635,Ks p P),(nat_lit 633,MD p P),(nat_lit 655,MQ p P),(nat_lit 654,IF p P),(nat_lit 652,Kc p P),(nat_lit 678,IK p P),(nat_lit 677,IW p P),(nat_lit 675,Lp p P),(nat_lit 902,L8 p P),(nat_lit 901,JH p P),(nat_lit 731,Mf p P),(nat_lit 738,KW p P),(nat_lit 745,JD p P),(nat_lit 752,Iq p P),(nat_lit 759,KO p P),(nat_lit 766,LG p P),(nat_lit 773,Kz p P),(nat_lit 780,Ld p P),(nat_lit 787,Lr p P),(nat_lit 794,Ik p P),(nat_lit 801,Me p P),(nat_lit 808,JM p P),(nat_lit 815,Kn p P),(nat_lit 822,Ip p P),(nat_lit 829,Jj p P),(nat_lit 836,ML p P),(nat_lit 843,JV p P),(nat_lit 850,Ml p P),(nat_lit 857,MP p P),(nat_lit 864,J5 p P),(nat_lit 871,KY p P),(nat_lit 878,Jq p P),(nat_lit 885,KQ p P),(nat_lit 892,Mv p P),(nat_lit 899,Jl p P),(nat_lit 1000,DW p P),(nat_lit 999,Kv p P),(nat_lit 990,KK p P),(nat_lit 997,HU p P),(nat_lit 1028,DT p P),(nat_lit 1027,Ei p P),(nat_lit 1018,EM p P),(nat_lit 1025,Dn p P),(nat_lit 1047,EB p P),(nat_lit 1046,Eg p P),(nat_lit 1044,C8 p P),(nat_lit 1136,Ed p P),(nat_lit 1135,Ea p P),(nat_lit 1133,DD p P),(nat_lit 1162,Ex p P),(nat_lit 1161,Du p P),(nat_lit 1152,DB p P),(nat_lit 1159,DV p P),(nat_lit 1282,DU p P),(nat_lit 1281,Ek p P),(nat_lit 1279,Eb p P),(nat_lit 1322,Dz p P),(nat_lit 1321,Ew p P),(nat_lit 1312,Dq p P),(nat_lit 1319,C6 p P),(nat_lit 1348,EG p P),(nat_lit 1347,Df p P),(nat_lit 1338,Eo p P),(nat_lit 1345,D8 p P),(nat_lit 1381,D3 p P),(nat_lit 1380,DL p P),(nat_lit 1371,EA p P),(nat_lit 1378,DE p P),(nat_lit 1407,Dh p P),(nat_lit 1406,DP p P),(nat_lit 1404,Ee p P),(nat_lit 1454,C9 p P),(nat_lit 1453,CZ p P),(nat_lit 1451,DC p P),(nat_lit 1473,Eh p P),(nat_lit 1472,D1 p P),(nat_lit 1470,D7 p P),(nat_lit 1506,DO p P),(nat_lit 1505,DH p P),(nat_lit 1503,Dx p P)]
noncomputable def RV:List Nat:=[nat_lit 38,nat_lit 37,nat_lit 35,nat_lit 211,nat_lit 210,nat_lit 194,nat_lit 201,nat_lit 208,nat_lit 285,nat_lit 284,nat_lit 282,nat_lit 327,nat_lit 326,nat_lit 303,nat_lit 310,nat_lit 317,nat_lit 324,nat_lit 362,nat_lit 361,nat_lit 345,nat_lit 352,nat_lit 359,nat_lit 446,nat_lit 445,nat_lit 443,nat_lit 465,nat_lit 464,nat_lit 462,nat_lit 484,nat_lit 483,nat_lit 481,nat_lit 503,nat_lit 502,nat_lit 500,nat_lit 522,nat_lit 521,nat_lit 519,nat_lit 541,nat_lit 540,nat_lit 538,nat_lit 560,nat_lit 559,nat_lit 557,nat_lit 579,nat_lit 578,nat_lit 576,nat_lit 598,nat_lit 597,nat_lit 595,nat_lit 617,nat_lit 616,nat_lit 614,nat_lit 636,nat_lit 635,nat_lit 633,nat_lit 655,nat_lit 654,nat_lit 652,nat_lit 678,nat_lit 677,nat_lit 675,nat_lit 902,nat_lit 901,nat_lit 731,nat_lit 738,nat_lit 745,nat_lit 752,nat_lit 759,nat_lit 766,nat_lit 773,nat_lit 780,nat_lit 787,nat_lit 794,nat_lit 801,nat_lit 808,nat_lit 815,nat_lit 822,nat_lit 829,nat_lit 836,nat_lit 843,nat_lit 850,nat_lit 857,nat_lit 864,nat_lit 871,nat_lit 878,nat_lit 885,nat_lit 892,nat_lit 899,nat_lit 1000,nat_lit 999,nat_lit 990,nat_lit 997,nat_lit 1028,nat_lit 1027,nat_lit 1018,nat_lit 1025,nat_lit 1047,nat_lit 1046,nat_lit 1044,nat_lit 1136,nat_lit 1135,nat_lit 1133,nat_lit 1162,nat_lit 1161,nat_lit 1152,nat_lit 1159,nat_lit 1282,nat_lit 1281,nat_lit 1279,nat_lit 1322,nat_lit 1321,nat_lit 1312,nat_lit 1319,nat_lit 1348,nat_lit 1347,nat_lit 1338,nat_lit 1345,nat_lit 1381,nat_lit 1380,nat_lit 1371,nat_lit 1378,nat_lit 1407,nat_lit 1406,nat_lit 1404,nat_lit 1454,nat_lit 1453,nat_lit 1451,nat_lit 1473,nat_lit 1472,nat_lit 1470,nat_lit 1506,nat_lit 1505,nat_lit 1503]
noncomputable def Qd:List Nat:=[nat_lit 38,nat_lit 211,nat_lit 285,nat_lit 327,nat_lit 362,nat_lit 446,nat_lit 465,nat_lit 484,nat_lit 503,nat_lit 522,nat_lit 541,nat_lit 560,nat_lit 579,nat_lit 598,nat_lit 617,nat_lit 636,nat_lit 655,nat_lit 678,nat_lit 902,nat_lit 1000,nat_lit 1028,nat_lit 1047,nat_lit 1136,nat_lit 1162,nat_lit 1282,nat_lit 1322,nat_lit 1348,nat_lit 1381,nat_lit 1407,nat_lit 1454,nat_lit 1473,nat_lit 1506]
noncomputable def M3:List Nat:=[38,211,362,655,902,1028]
theorem uo {c:Nat} {l:List (Nat×List Nat)} (h:tQ c l≠[]):c∈l.map (·.1):=by
 induction l with
 |nil=>exact absurd rfl h
 |cons x l ih=>
  have h:cond (Nat.beq c x.1) x.2 (tQ c l)≠[]:=h
  cases q:Nat.beq c x.1 with
  |true=>rw[Nat.eq_of_beq_eq_true q];exact List.mem_cons_self ..
  |false=>rw[q] at h;exact List.mem_cons_of_mem _ (ih h)
theorem oE (c:Nat) (h:gz c≠[]):c∈M3:=uo h
noncomputable def Bg (p:Program) (P:Params) (c k:Nat):Bool:=
 plainGet (KC p P) c (bw k)&&(hasDictIn (KC p P) c&&((findIn (KC p P) (.ref c) (bw k) == some none)&&((findIn (KC p P) (.ref c) (Str.ofString "__setattr__") == some (some (.builtin "object.__setattr__")))&&(plainOver (KC p P) c&&(takerIn (KC p P) c (bw k) == some none)))))
theorem B7 (P:Params):(M3.all fun c=>(gz c).all fun k=>Bg P0 P c k)=true:=by kernel_rfl
theorem pn:(M3.all fun c=>(gz c).all fun k=>decide (k < 256 ^ 60))=true:=by kernel_rfl
theorem ny {c k:Nat} (h:dY c k=true):c∈M3∧k∈gz c:=by
 unfold dY at h
 rw[List.any_eq_true] at h
 obtain⟨j,e,q⟩:=h
 have:=Nat.eq_of_beq_eq_true q
 subst this
 exact⟨oE c (fun z=>by rw[z] at e;cases e),e⟩
theorem yy {c k:Nat} (P:Params) (h:dY c k=true):Bg P0 P c k=true:=by
 obtain⟨h1,h2⟩:=ny h
 exact List.all_eq_true.mp (List.all_eq_true.mp (B7 P) c h1) k h2
theorem rK {c k:Nat} (h:dY c k=true):k < 256 ^ 60:=by
 obtain⟨h1,h2⟩:=ny h
 exact of_decide_eq_true (List.all_eq_true.mp (List.all_eq_true.mp pn c h1) k h2)
set_option tactic.hygienic true in
theorem l6 {K:Frag} {f:Nat→Option Obj}:∀{L:Frag},(∀x∈L,f x.1=some x.2)→∀a o,List.lookup a L=some o→f a=some o
 |[],_,a,o,h=>by cases h
 |(b,p)::L,H,a,o,h=>by
  rw[List.lookup_cons] at h
  split at h
  ·rename_i e
   rw[beq_iff_eq] at e
   cases h;subst e
   exact H _ (List.mem_cons_self ..)
  ·exact l6 (K:=K) (fun x hx=>H x (List.mem_cons_of_mem _ hx)) a o h
theorem Co (P:Params):(KC P0 P).map (fun x=>lk (pu P0 P) x.1)=(KC P0 P).map (fun x=>some x.2):=by kernel_rfl
theorem H3 (P:Params):∀x∈KC P0 P,lk (pu P0 P) x.1=some x.2:=List.map_inj_left.mp (Co P)
theorem nc (P:Params) {h:Heap} (H:∀a o,lk (pu P0 P) a=some o→h.get? a=some o):(KC P0 P).In h:=fun a o e=>H a o (l6 (K:=KC P0 P) (f:=lk (pu P0 P)) (H3 P) a o e)
section
variable {w:World} {h₁:Heap} {os:OsState} {F:Fm} {own own':ch} {Z Z':aI} {m:Str→Option Value} {st:St} {s s':Shared} {A:Around} {E:Value→Shared→Prop} {c:Cx} {T:fY} {call:aM}
theorem qs (es:Array DictEntry) (name:Str):nsFind es name=(es.toList.find? (·.key.isStr name)).map (·.val):=by
 unfold nsFind findBy
 simp
theorem m8 {o:Obj} {m:Str→Option Value} (N:kK o m) (name:Str):lookIn name o=some (m name):=by
 refine bc fun G=>?_;obtain⟨es,ep,hd,hk,hm⟩:=N
 refine G ?_;clear G;unfold lookIn
 rw[hd]
 dsimp only
 rw[← hm,qs]
 cases q:es.toList.find? (·.key.isStr name) with
 |some e=>rfl
 |none=>
  dsimp only
  rw[if_neg]
  ·rfl
  ·rw[List.any_eq_true]
   rintro⟨e,h1,h2⟩
   refine bc fun G=>?_;obtain⟨n,t,h3⟩:=hk e (by rw[Array.mem_def];exact h1)
   unfold DictEntry.refKey at h2
   rw[h3] at h2
   refine G ?_;clear G;exact ff h2
theorem aA.handed {v:V} {x:Value} (R:aA w Z v x):handedIn x=true:=by
 cases R<;>rfl
theorem cS.un {m:Str→Option Value} {j:Nat} {u:V} {l:List (Nat×V)} (R:cS w Z m ((j,u)::l)):∃x,m (bw j)=some x∧aA w Z u x∧cS w Z m l:=by
 cases R;exact⟨_,‹_›,‹_›,‹_›⟩
theorem yq {k:Nat} {v:V} {l:List (Nat×V)} {r:V} (h:dO k ((k,v)::l)=some r):v=r:=by
 have h:(if Nat.beq k k=true then some v else dO k l)=some r:=h
 rw[if_pos (Nat.beq_refl k)] at h
 exact Option.some.inj h
theorem sd {k j:Nat} {v:V} {l:List (Nat×V)} (n:¬Nat.beq k j=true):dO k ((j,v)::l)=dO k l:=if_neg n
theorem cS.get {m:Str→Option Value} {k:Nat} {r:V} {fs:List (Nat×V)} (R:cS w Z m fs) (h:dO k fs=some r):(k,r)∈fs∧∃x,m (bw k)=some x∧aA w Z r x:=by
 induction fs with
 |nil=>exact nn h
 |cons p l ih=>
  refine bc fun G=>?_;obtain⟨x,a,b,c⟩:=cS.un R
  refine G ?_;clear G;by_cases q:Nat.beq k p.1=true
  ·obtain rfl:=Nat.eq_of_beq_eq_true q
   obtain rfl:=yq h
   exact⟨List.mem_cons_self ..,_,a,b⟩
  ·exact(ih c ((sd q).symm.trans h)).imp (List.mem_cons_of_mem _) id
theorem nu {C a d k:Nat} {o:Obj} {m':Str→Option Value} {x:Value} {expr:Bool} {Q:Value→Shared→Prop} (Fa:aV w s.heap) (hk:dY C k=true) (ha:s.heap.get? a=some (instObj C d)) (hd:s.heap.get? d=some o) (N:kK o m')
  (hx:m' (bw k)=some x) (hh:handedIn x=true) (q:∀t,Q x { s with toks:=t }):wpAny (model P0 w) A (getAttr (.ref a) (bw k) expr) Q E s:=by
 have B:=yy w.params hk
 unfold Bg at B
 rw[Bool.and_eq_true,Bool.and_eq_true,Bool.and_eq_true] at B
 obtain⟨b1,b2,b3,b4⟩:=B
 exact get_value (K:=KC P0 w.params) (nc w.params Fa.at_) (C:=C) (od:=some o) ⟨ha,rfl,rfl,hd⟩ (plainGet_of b1).1 (findObj_own b2 (beq_iff_eq.mp b3) rfl (by rw[m8 N,hx])) hh (q _)
theorem lf {e:PySem.Expr} {n:Str} {env:Env} {t:Sem Value} (h:cK e=true):attributeBase e n env t=t:=by
 cases e with
 |Call f a k p=>cases f with
  |Name=>cases a with
   |nil=>cases k with
    |nil=>exact ff h
    |cons=>rfl
   |cons=>rfl
  |_=>rfl
 |_=>rfl
theorem y5 {k:Nat} {v r:V} (h:CQ k v=some r):∃C fs,v=.inst C fs∧dO k fs=some r:=by
 cases v<;>first|exact nn h|exact⟨_,_,rfl,h⟩
theorem BQ {k:Nat} {a:Mine.E} {e:PySem.Expr} {n:Str} {pos:Pos} (Fa:aV w h₁) (hb:cK e=true) (hn:iz k n=true) (ha:SE w h₁ os A F T call a e):SE w h₁ os A F T call (.attr a k) (.Attribute e n pos):=fun own Z m st s K I hc=>by
 dsimp only[ay] at hc
 rw[cC hn]
 refine Attribute_any_ (ha.use I hc fun own₁ Z₁ v₁ st₁ x₁ s₁ I₁ S₁ R₁ k₁=>?_) (by rw[arm_eval_Attribute,lf hb])
 refine bc fun G=>?_;obtain⟨r,e,k⟩:=aT k₁
 have Fs:aV w s₁.heap:=Fa.keeps fun b o e=>I₁.zin b o (I₁.base b o e)
 obtain⟨C,fs,rfl,e⟩:=y5 e
 refine G ?_;clear G;induction R₁ using aA.instE with
 |inst q z1 z2 z3 z4 z5=>
  refine bc fun G=>?_;obtain⟨g1,x,g2,g3⟩:=z4.get e
  refine G ?_;clear G;exact nu Fs (q _ g1) (I₁.zin _ _ z1) (I₁.zin _ _ z2) z3 g2 g3.handed fun t=>PE.after S₁ (PE.now I₁ g3 k)
theorem bN.attr {t:Nat} {C:Nat} {fs:List (Nat×V)} {a:Addr} {k:Nat} {r:V} {expr:Bool} {Q:Value→Shared→Prop} (R:bN w Z own s.heap t (.inst C fs) a) (Fa:aV w s.heap) (h:dO k fs=some r)
  (q:∀x t,aA w Z r x→Q x { s with toks:=t }):wpAny (model P0 w) A (getAttr (.ref a) (bw k) expr) Q E s:=by
 induction R using bN.instE with
 |inst p e1 e2 e3 e4 e5 e6 e7 e8 e9=>
  refine bc fun G=>?_;obtain⟨g1,x,g2,g3⟩:=e8.get h
  refine G ?_;clear G;exact nu Fa (p _ g1) e4 e5 e6 g2 g3.handed fun t=>q x t g3
theorem yF {i k:Nat} {x n:Str} {p pos:Pos} (FO:br c F) (Fa:aV w h₁) (hx:c.isL i x=true) (hn:iz k n=true):SE w h₁ os A F T call (.attrO i k) (.Attribute (.Name x p) n pos):=fun own Z m st s K I hc=>by
 dsimp only[ay] at hc
 rw[cC hn]
 have Fs:aV w s.heap:=Fa.keeps fun b o e=>I.zin b o (I.base b o e)
 refine eh hc fun l mo hi hl hc=>?_
 refine bc fun G=>?_;obtain⟨C,fs,rfl,hc⟩:=AU hc
 obtain⟨y,a,hy,H,R,_⟩:=nD FO hx I hi hl
 obtain⟨r,e',k'⟩:=aT hc
 refine G ?_;clear G;exact Attribute_any_ (ci FO hx I hy H (R.attr Fs e' fun x t R=>PE.now I R k'))
set_option tactic.hygienic true in
theorem aU.step {h h':Heap} {y:Nat×Bool} {val:Value} (H:aU F h own m y val) (S:Step own Z h own' Z' h'):aU F h' own' m y val:=by
 unfold aU at H ⊢
 split
 ·rename_i q
  rw[if_pos q] at H
  refine bc fun G=>?_;obtain⟨b,o,e1,e2,e3,e4,e5⟩:=H
  refine G ?_;clear G;exact⟨b,o,e1,S.o01 _ _ e2 (by decide),e3,S.cell _ _ e2 (by unfold i7;rw[e5]) e4,e5⟩
 ·rename_i q
  rw[if_neg q] at H
  exact H
structure o8 (Z:aI) (h:Heap) (Z':aI) (h':Heap):Prop where
 z:rM Z Z'
 zin:∀b o,Z' b=some o→h'.get? b=some o
 new:∀b o,Z' b=some o→Z b=some o∨h.get? b=none
theorem o8.disj (M:o8 Z s.heap Z' s'.heap) (I:bt w h₁ os F own Z m st s):∀b,own b≠none→Z' b=none:=fun b q=>by
 cases e:Z' b with
 |none=>rfl
 |some o=>
  rcases M.new b o e with e|e
  ·rw[I.disj b q] at e;exact nn e
  ·obtain⟨o',e'⟩:=I.odom b q;rw[e] at e';exact nn e'
theorem bt.more (I:bt w h₁ os F own Z m st s) (M:o8 Z s.heap Z' s'.heap) (k:∀b o,s.heap.get? b=some o→s'.heap.get? b=some o) (g:s'.gens=#[]) (o:s'.os=os):
  bt w h₁ os F own Z' m st s'∧Step own Z s.heap own Z' s'.heap:=
 ⟨⟨M.zin,fun a o e=>M.z _ _ (I.base a o e),I.ns.keeps k,I.tagL,M.disj I,I.len,fun i x l e1 e2=>(I.locs i x l e1 e2).mono M.z (fun ξ ξ e ξ=>e) (fun ξ ξ ξ ξ ξ ξ e=>k _ _ e) I.tagL,g,o,
  fun a e=>(I.odom a e).imp fun ξ q=>k _ _ q,I.inh1⟩,
  ⟨M.z,fun b o e=>(M.new b o e).imp id .inl,fun ξ ξ e=>.inl e,fun ξ ξ e ξ=>e,fun ξ o ξ e=>k _ o e,fun ξ o e=>⟨o,k _ _ e⟩,fun ξ ξ ξ ξ e=>k _ _ e⟩⟩
theorem Ab {i:Nat} {l:bB}:dq i l≠0:=by cases l<;>simp [dq]
theorem xc {i:Nat} {l:bB} {mo mo':MO} (hl:l=.own mo∨l=.inh mo) (hi:st[i]?=some l):∀m,fS l mo'=.inh m→∃m',st[i]?=some (.inh m'):=fun m e=>by
 rcases hl with rfl|rfl
 ·cases e
 ·exact⟨_,hi⟩
theorem bt.updZ (I:bt w h₁ os F own Z m st s) {i:Nat} {l:bB} {mo mo':MO} {a:Addr} {y:Nat×Bool} (hi:st[i]?=some l) (hl:l=.own mo∨l=.inh mo) (hy:F.ns[i]?=some y) (H:aU F s.heap own m y (.ref a))
  (ha:l=.inh mo→a=F.inh) (M:o8 Z s.heap Z' s'.heap) (R:bN w Z' own s'.heap (dq i l) mo' a) (k:∀b o,own b≠some (dq i l)→s.heap.get? b=some o→s'.heap.get? b=some o) (d:∀b o,s.heap.get? b=some o→∃o',s'.heap.get? b=some o')
  (g:s'.gens=#[]) (o:s'.os=os):bt w h₁ os F own Z' m (st.set i (fS l mo')) s'∧Step own Z s.heap own Z' s'.heap:=by
 have t0:dq i l≠0:=Ab
 have hlt:i < st.length:=(List.getElem?_eq_some_iff.mp hi).1
 have k0:∀b o,own b=some 0→s.heap.get? b=some o→s'.heap.get? b=some o:=fun b o e q=>k b o (by rw[e];exact fun c=>t0 (Option.some.inj c).symm) q
 have H':aU F s'.heap own m y (.ref a):=H.mono (fun ξ e=>e) fun b o e ξ q=>k0 b o e q
 refine⟨⟨M.zin,fun a o e=>M.z _ _ (I.base a o e),?_,I.tagL,M.disj I,by rw[List.length_set];exact I.len,?_,g,o,fun b e=>(I.odom b e).elim fun o q=>d b o q,iM I.inh1 (xc hl hi)⟩,
  ⟨M.z,fun b o e=>(M.new b o e).imp id .inl,fun ξ ξ e=>.inl e,fun ξ ξ e ξ=>e,fun b o e q=>k b o (by rw[e];exact fun c=>nn c) q,d,fun b o e ξ q=>k0 b o e q⟩⟩
 ·refine bc fun G=>?_;obtain⟨ob,es,ep,q1,q2⟩:=I.ns
  refine G ?_;clear G;exact⟨ob,es,ep,k0 _ _ I.tagL q1,q2⟩
 ·intro j x l' e1 e2
  by_cases cj:i=j
  ·subst cj
   rw[List.getElem?_set_self hlt] at e2
   cases e2
   rw[hy] at e1;cases e1
   rcases hl with rfl|rfl
   ·exact .own H' R
   ·have:=ha rfl;subst this;exact .inh H' R
  ·rw[List.getElem?_set_ne cj] at e2
   have L:=I.locs j x l' e1 e2
   have q:∀b o t,own b=some t→t≠dq i l→s.heap.get? b=some o→s'.heap.get? b=some o:=fun b o t e q r=>k b o (by rw[e];exact fun c=>q (Option.some.inj c)) r
   cases L with
   |un=>exact .un
   |v h r=>exact .v (h.mono (fun ξ e=>e) fun b o e ξ r=>k0 b o e r) (r.mono M.z)
   |own h r=>
    have ne:j+2≠dq i l:=by rcases hl with rfl|rfl<;>simp [dq]<;>lia
    exact .own (h.mono (fun ξ e=>e) fun b o e ξ r=>k0 b o e r) (r.mono M.z (fun ξ e=>e) fun b o e r=>q b o _ e ne r)
   |inh h r=>
    have ne:(1:Nat)≠dq i l:=by
     rcases hl with rfl|rfl
     ·simp [dq]
     ·exact absurd (I.inh1 _ _ _ _ hi e2) cj
    exact .inh (h.mono (fun ξ e=>e) fun b o e ξ r=>k0 b o e r) (r.mono M.z (fun ξ e=>e) fun b o e r=>q b o _ e ne r)
theorem bt.upd (I:bt w h₁ os F own Z m st s) {i:Nat} {l:bB} {mo mo':MO} {a:Addr} {y:Nat×Bool} (hi:st[i]?=some l) (hl:l=.own mo∨l=.inh mo) (hy:F.ns[i]?=some y) (H:aU F s.heap own m y (.ref a))
  (ha:l=.inh mo→a=F.inh) (R:bN w Z own s'.heap (dq i l) mo' a) (k:∀b o,own b≠some (dq i l)→s.heap.get? b=some o→s'.heap.get? b=some o) (d:∀b o,s.heap.get? b=some o→∃o',s'.heap.get? b=some o')
  (g:s'.gens=s.gens) (o:s'.os=s.os):bt w h₁ os F own Z m (st.set i (fS l mo')) s'∧Step own Z s.heap own Z s'.heap:=
 I.updZ hi hl hy H ha ⟨fun ξ ξ e=>e,fun b o e=>k b o (fun q=>by rw[I.disj b (by rw[q];exact fun c=>nn c.symm)] at e;exact nn e) (I.zin b o e),fun ξ ξ e=>.inl e⟩ R k d (g.trans I.gens) (o.trans I.os)
end
theorem oo (P:Params):(dQ P).nsMap builtinsNs (bw Bd)=some (.builtin "len")∧(dQ P).nsMap builtinsNs (bw H6)=some (.builtin "ord")∧(dQ P).nsMap builtinsNs (bw Lb)=some (.builtin "chr")∧
  (dQ P).nsMap builtinsNs (bw Lx)=some (.type "int")∧(dQ P).nsMap builtinsNs (bw le)=some (.type "range"):=⟨by kernel_rfl,by kernel_rfl,by kernel_rfl,by kernel_rfl,by kernel_rfl⟩
section
variable {w:World} {h₁:Heap} {os:OsState} {F:Fm} {own own':ch} {Z Z':aI} {m:Str→Option Value} {st:St} {s s':Shared} {A:Around} {E:Value→Shared→Prop} {c:Cx} {T:fY} {call:aM}
theorem Go {h:Heap} (Fa:aV w h):h.Ns builtinsNs ((dQ w.params).nsMap builtinsNs):=by
 have g0:h.get? builtinsNs=(dQ w.params).get? builtinsNs:=gl Fa.at_ (k0 w.params) rfl (f0 w.params)
 have hn:h.isNs builtinsNs=true:=by
  have hc:=fQ w.params
  simp only[b8,Bool.and_eq_true] at hc
  exact(dC g0).trans hc.2
 rw[← gu g0]
 exact .of_isNs hn
theorem bt.facts (I:bt w h₁ os F own Z m st s) (Fa:aV w h₁):aV w s.heap:=Fa.keeps fun b o e=>I.zin b o (I.base b o e)
set_option tactic.hygienic true in
theorem mh {k:Nat} {x:Str} {v:Value} {pos:Pos} {Q:Value→Shared→Prop} (FO:br c F) (Fs:aV w s.heap) (hP:c.P=w.params) (h:c.isB k x=true) (hv:(dQ w.params).nsMap builtinsNs (bw k)=some v) (q:Q v s):
  wpAny (model P0 w) A (eval (.Name x pos) F.env) Q E s:=by
 unfold Cx.isB at h
 rw[Bool.and_eq_true,Bool.and_eq_true] at h
 obtain⟨⟨h1,h2⟩,h3⟩:=h
 have hx:=cC h1
 subst hx
 unfold Cx.isG at h2
 split at h2
 ·rename_i e
  unfold Cx.kind at e
  rw[← FO.sc] at e
  rw[Bool.not_eq_true'] at h2
  obtain⟨mg,n1,n2⟩:=oj Fs
  unfold gK at h3
  rw[hP,Option.isNone_iff_eq_none] at h3
  exact Calls.Name_function_global FO.kind e (Calls.loadGlobal_builtin (by rw[FO.glob];exact n1) ((n2 _).trans h3) (by rw[FO.blt];exact Go Fs) hv q) (ja h2)
 ·exact ff h2
theorem gv {i:Nat} {x:Str} {l:bB} {vs:List V} (FO:br c F) (hx:c.isL i x=true) (I:bt w h₁ os F own Z m st s) (hi:st[i]?=some l) (hl:l=.own (.list vs)∨l=.inh (.list vs)):
  ∃y a n xs,F.ns[i]?=some y∧aU F s.heap own m y (.ref a)∧own a=some (dq i l)∧s.heap.get? a=some { cls:=.type "list",data:=.seq ⟨xs⟩ n }∧aH w Z vs xs∧(l=.inh (.list vs)→a=F.inh):=by
 refine bc fun G=>?_;obtain⟨y,hy,L⟩:=n0 FO hx I hi
 refine G ?_;clear G;rcases hl with rfl|rfl
 ·induction L using bI.ownE with
  |own H R=>induction R using bN.listE with
   |list e1 e2 e3=>exact⟨y,_,_,_,hy,H,e1,e2,e3,fun q=>(by first|exact nn q|exact nn q.symm|exact ff q|exact absurd q List.not_mem_nil|cases q)⟩
 ·induction L using bI.inhE with
  |inh H R=>induction R using bN.listE with
   |list e1 e2 e3=>exact⟨y,_,_,_,hy,H,e1,e2,e3,fun ξ=>rfl⟩
theorem pD {i:Nat} {l:bB} {vs vs':List V} {a:Addr} {n n':Nat} {xs xs':List Value} {f:Obj→Obj} {y:Nat×Bool} (I:bt w h₁ os F own Z m st s) (hi:st[i]?=some l) (hl:l=.own (.list vs)∨l=.inh (.list vs)) (hy:F.ns[i]?=some y)
  (H:aU F s.heap own m y (.ref a)) (ht:own a=some (dq i l)) (ho:s.heap.get? a=some { cls:=.type "list",data:=.seq ⟨xs⟩ n }) (ha:l=.inh (.list vs)→a=F.inh)
  (hf:f { cls:=.type "list",data:=.seq ⟨xs⟩ n }={ cls:=.type "list",data:=.seq ⟨xs'⟩ n' }) (R:aH w Z vs' xs') {t:Nat}:
  bt w h₁ os F own Z m (st.set i (fS l (.list vs'))) { s with heap:=s.heap.update a f,toks:=t }∧Step own Z s.heap own Z (s.heap.update a f):=by
 have h2:(s.heap.update a f).get? a=some { cls:=.type "list",data:=.seq ⟨xs'⟩ n' }:=by rw[← hf];exact Heap.get?_update_self f ho (by rw[hf];rfl)
 refine I.upd (s':={ s with heap:=s.heap.update a f,toks:=t }) (mo:=.list vs) (a:=a) hi hl hy H ha (.list ht h2 R) (fun b o q e=>?_) (fun b o e=>?_) rfl rfl
 ·have:a≠b:=fun c=>q (by rw[← c];exact ht)
  show(s.heap.update a f).get? b=some o
  rw[Heap.get?_update_other _ _ this];exact e
 ·by_cases q:a=b
  ·subst q;exact⟨_,h2⟩
  ·exact⟨o,by show(s.heap.update a f).get? b=some o;rw[Heap.get?_update_other _ _ q];exact e⟩
theorem fk {α:Prop} {st:St} {i:Nat} {f:List V→(List V→(St→Prop)→Prop)→Prop} (h:eV st i f) (k:∀l vs,st[i]?=some l→(l=.own (.list vs)∨l=.inh (.list vs))→f vs (fun vs' K=>K (st.set i (fS l (.list vs'))))→α):α:=by
 have e:∀g:List V→bB,(fun vs'=>mM st i (g vs'))=fun vs' K=>K (st.set i (g vs')):=fun g=>funext fun ξ=>funext fun ξ=>gM
 refine eh h fun l mo hi hl h=>?_
 obtain⟨vs,rfl,h⟩:=EO h
 rw[e (fun vs'=>fS l (.list vs'))] at h
 exact k l vs hi hl h
theorem uM:∀{vs:List V} {xs:List Value} {v:V},aH w Z vs xs→vs.getLast?=some v→∃x,xs[xs.length - 1]?=some x∧aA w Z v x∧aH w Z vs.dropLast (xs.take (xs.length - 1)):=by
 intro vs xs v R h
 have hl:=R.len
 rw[List.getLast?_eq_getElem?,hl] at h
 obtain⟨x,e1,e2⟩:=R.get h
 refine⟨x,e1,e2,?_⟩
 rw[List.dropLast_eq_take,hl]
 exact R.take _
theorem rm (xs:List Value) (x:Value) (h:xs[xs.length - 1]?=some x):(Array.mk xs).eraseIdxIfInBounds ((Array.mk xs).size - 1)=⟨xs.take (xs.length - 1)⟩:=by
 have hl:xs.length - 1 < xs.length:=(List.getElem?_eq_some_iff.mp h).1
 rw[show(Array.mk xs).size=xs.length from rfl]
 rw[Array.eraseIdxIfInBounds,dif_pos (show xs.length - 1 < (Array.mk xs).size from hl)]
 apply Array.toList_inj.mp
 rw[Array.toList_eraseIdx]
 show xs.eraseIdx (xs.length - 1)=xs.take (xs.length - 1)
 rw[List.eraseIdx_eq_take_drop_succ,List.drop_eq_nil_of_le (by omega),List.append_nil]
theorem ni {o:PySem.Expr} {name:Str} {apos pos:Pos} {args:List PySem.Expr} {Q:Value→Shared→Prop} {env:Env} {E:Value→Shared→Prop} (hb:cK o=true) (hl:apos.endLine=pos.line) (hn:args.length < 30)
  (hs:(backTo pos (starEach args env)).all (fun x=>!x.1)=true)
  (h:wpAny (model P0 w) A (eval o env) (fun ov s₁=>∀pl,wpAny (model P0 w) A (getMethod ov name pl) (fun fx s₂=>wpAny (model P0 w) A (callWith pos fx.1 fx.2 (backTo pos (starEach args env)) []) Q E s₂) E s₁) E s):
  wpAny (model P0 w) A (eval (.Call (.Attribute o name apos) args [] pos) env) Q E s:=by
 have form:methodCallForm (args.length+([]:List Keyword).length) (backTo pos (starEach args env)) (backToKw pos (keywordEach [] env))=true:=by
  unfold methodCallForm
  rw[hs]
  show(true&&true&&decide (args.length+0+0 < 30))=true
  rw[Bool.true_and,Bool.true_and]
  exact decide_eq_true (by omega)
 have e:eval (.Call (.Attribute o name apos) args [] pos) env=(attributeBase o name env (eval o env) >>= fun ov=>standAt apos.atName >>= fun ξ=>methodCall o name apos pos env ov (args.length+([]:List Keyword).length) (backTo pos (starEach args env)) (backToKw pos (keywordEach [] env))):=rfl
 rw[e,lf hb]
 refine wpAny_bind (wpAny_mono h (fun ov s₁ h₁=>wpAny_bind (wpAny_standAt ?_)) fun ξ ξ x=>x)
 unfold methodCall
 rw[form]
 unfold calleeOf methodCallPos
 simp only[if_true]
 refine wpAny_bind (wpAny_holding (wpAny_mono (h₁ _) (fun fx s₂ h₂=>?_) fun ξ ξ x=>x))
 obtain⟨f,first⟩:=fx
 have c:(!true||apos.endLine == pos.line)=true:=by rw[hl,beq_self_eq_true];rfl
 rw[if_pos c]
 exact wpAny_bind (wpAny_pure h₂)
theorem Cy {i:Nat} {x n:Str} {p q pos:Pos} (FO:br c F) (hx:c.isL i x=true) (hn:iz Kg n=true) (hl':q.endLine=pos.line):SE w h₁ os A F T call (.popO i) (.Call (.Attribute (.Name x p) n q) [] [] pos):=fun own Z m st s K I hc=>by
 have en:n="pop":=(cC hn).trans (by decide+kernel)
 subst en
 refine fk hc fun l vs hi hl hk=>?_
 refine bc fun G=>?_;obtain⟨y,a,n,xs,hy,H,ht,ho,R,ha⟩:=gv FO hx I hi hl
 obtain⟨v,e,k⟩:=aT hk.2
 obtain⟨x',e1,R1,R2⟩:=uM R e
 refine G ?_;clear G;refine ni rfl hl' (by decide) rfl (ci FO hx I hy H fun pl=>?_)
 refine getMethod_builtin (T:="list") (id:="list.pop") ⟨_,ho,rfl⟩ PySem.F.plainAttrs_list PySem.F.slot_list_pop PySem.F.type_list_pop (fun b e=>by cases e;exact⟨_,ho,rfl⟩) ?_
 refine P.pop_list (items:=⟨xs⟩) (n:=n) (y:=x') ho ((d0 _ _).trans e1) ?_ (by show xs.length≤sizeLine;rw[← R.len];exact ey hk.1)
 obtain⟨I',S'⟩:=pD (t:=s.toks) (vs':=vs.dropLast) (f:=Obj.mapSeq fun ys=>ys.eraseIdxIfInBounds ((Array.mk xs).size - 1)) I hi hl hy H ht ho ha (by unfold Obj.mapSeq;dsimp only;rw[rm _ _ e1]) R2
 exact⟨_,_,_,_,I',S',R1.mono S'.z,k⟩
theorem A9 {i:Nat} {x f:Str} {p q pos:Pos} (FO:br c F) (Fa:aV w h₁) (hP:c.P=w.params) (hf:c.isB Bd f=true) (hx:c.isL i x=true):SE w h₁ os A F T call (.lenO i) (.Call (.Name f p) [.Name x q] [] pos):=fun own Z m st s K I hc=>by
 refine fk hc fun l vs hi hl hk=>?_
 refine bc fun G=>?_;obtain⟨y,a,n,xs,hy,H,ht,ho,R,ha⟩:=gv FO hx I hi hl
 refine G ?_;clear G;refine PyProof.Rows.Call_Name1 (mh FO (I.facts Fa) hP hf (oo w.params).1 (callWith_builtin1 (ci FO hx I hy H ?_)))
 refine PyProof.Rows.len_list (items:=⟨xs⟩) ⟨_,ho,rfl,n,rfl⟩ (by have:=pE (R.len▸hk.1);exact this) ?_
 rw[show(Array.mk xs).size=vs.length from R.len.symm]
 exact PE.now I (.int _ _) hk.2
end
inductive mQ (w:World) (Z:aI) (a:Addr):Nat→List V→List Value→Prop
 |z {l xs}:aH w Z l xs→mQ w Z a 0 (.hole::l) (.ref a::xs)
 |s {j v x l xs}:aA w Z v x→mQ w Z a j l xs→mQ w Z a (j+1) (v::l) (x::xs)
noncomputable def lL (w:World) (Z:aI) (own:ch) (h:Heap) (t:Nat) (a:Addr) (mo:Option (Nat×MO)) (l:List V) (vals:List Value):Prop:=match mo with
 |none=>aH w Z l vals∧∀b,own b≠some t
 |some p=>mQ w Z a p.1 l vals∧bN w Z own h t p.2 a
structure Ah (w:World) (os:OsState) (Z:aI) (own:ch) (t:Nat) (a:Addr) (mo:Option (Nat×MO)) (K:V→Option MO→Prop) (s:Shared) (val:Value) (s':Shared) (v:V) (mo':Option MO) (Z':aI):Prop where
 more:o8 Z s.heap Z' s'.heap
 rep:aA w Z' v val
 post:K v mo'
 back:mo≠none→∀m',mo'=some m'→bN w Z' own s'.heap t m' a
 keep:∀b o,own b≠some t→s.heap.get? b=some o→s'.heap.get? b=some o
 dom:∀b o,s.heap.get? b=some o→∃o',s'.heap.get? b=some o'
 gens:s'.gens=#[]
 os:s'.os=os
noncomputable def zJ (f:Addr) (h:Heap):Prop:=∃o fd,h.get? f=some o∧o.data=.func fd
inductive PC (w:World) (os:OsState) (Z:aI) (own:ch) (t:Nat) (a:Addr) (mo:Option (Nat×MO)) (K:V→Option MO→Prop) (s:Shared) (r:Result) (s':Shared):Prop
 |mk (val:Value) (v:V) (mo':Option MO) (Z':aI) (e:r=.ok (.ret val)) (P:Ah w os Z own t a mo K s val s' v mo' Z')
structure gk (w:World) (h₁:Heap) (os:OsState) (A:Around) (call:aM):Prop where
 fn:∀f l mo K,call f l mo K→zJ f h₁
 ok:∀f l mo K vals Z own t a s,pg Z s.heap→(∀b o,h₁.get? b=some o→Z b=some o)→s.gens=#[]→s.os=os→lL w Z own s.heap t a mo l vals→(∀b,own b=some t→Z b=none∧∃o,s.heap.get? b=some o)→call f l mo K→
  codeAny (model P0 w) A (.call (.ref f) ⟨vals,[]⟩) (PC w os Z own t a mo K s) s
structure k8 (w:World) (h₁:Heap) (os:OsState) (A:Around) (call:aM):Prop where
 here:gk w h₁ os A call
 made:∀C rest,gk w h₁ os (A.under (.builtin "type.__call__" ⟨.ref C::rest,[]⟩)) call
section
variable {w:World} {h₁:Heap} {os:OsState} {F:Fm} {own own':ch} {Z Z':aI} {m:Str→Option Value} {st:St} {s s':Shared} {A:Around} {E:Value→Shared→Prop} {c:Cx} {T:fY} {call:aM}
theorem mQ.mono {a:Addr} (h:rM Z Z') {j:Nat} {l:List V} {xs:List Value} (R:mQ w Z a j l xs):mQ w Z' a j l xs:=by
 induction R with
 |z r=>exact .z (r.mono h)
 |s r _ ih=>exact .s (r.mono h) ih
inductive jz (w:World) (F:Fm) (Z:aI) (own:ch) (h:Heap) (m:Str→Option Value):Mine.E→List V→List Value→Prop
 |nil:jz w F Z own h m .nil [] []
 |cons {a l v x lv xs}:(∀i,a≠.hole i)→aA w Z v x→jz w F Z own h m l lv xs→jz w F Z own h m (.cons a l) (v::lv) (x::xs)
 |hole {i l y a lv xs}:F.ns[i]?=some y→aU F h own m y (.ref a)→jz w F Z own h m l lv xs→jz w F Z own h m (.cons (.hole i) l) (.hole::lv) (.ref a::xs)
theorem iq (n i:Nat) (l:Mine.E):aY n (.cons (.hole i) l)=(n,i)::aY (n+1) l:=rfl
theorem ie {n:Nat} {a l:Mine.E} (h:∀i,a≠.hole i):aY n (.cons a l)=aY (n+1) l:=by
 cases a<;>first|rfl|exact absurd rfl (h _)
theorem fm {l:Mine.E} {lv:List V} {xs:List Value} {h:Heap} (R:jz w F Z own h m l lv xs):∀n,aY n l=[]→aH w Z lv xs:=by
 induction R with
 |nil=>exact fun ξ ξ=>.nil
 |cons hn r _ ih=>exact fun n e=>.cons r (ih (n+1) (by rw[ie hn] at e;exact e))
 |hole=>exact fun n e=>by rw[iq] at e;cases e
theorem B2 {l:Mine.E} {lv:List V} {xs:List Value} {h:Heap} (R:jz w F Z own h m l lv xs):∀n,∀p∈aY n l,n≤p.1:=by
 induction R with
 |nil=>exact fun n p hp=>absurd hp List.not_mem_nil
 |cons hn r _ ih=>exact fun n p hp=>Nat.le_of_succ_le (ih (n+1) p (by rw[ie hn] at hp;exact hp))
 |hole _ _ _ ih=>
  intro n p hp
  rw[iq] at hp
  rcases List.mem_cons.mp hp with rfl|hp
  ·exact Nat.le_refl _
  ·exact Nat.le_of_succ_le (ih (n+1) p hp)
theorem ug {l:Mine.E} {lv:List V} {xs:List Value} {h:Heap} {i:Nat} (R:jz w F Z own h m l lv xs):∀n j,aY n l=[(n+j,i)]→∃y a,F.ns[i]?=some y∧aU F h own m y (.ref a)∧mQ w Z a j lv xs:=by
 induction R with
 |nil=>exact fun n j e=>List.noConfusion rfl (heq_of_eq e)
 |cons hn r q ih=>
  intro n j e
  rw[ie hn] at e
  cases j with
  |zero=>exact absurd (B2 q (n+1) (n+0,i) (by rw[e];exact List.mem_singleton.mpr rfl)) (Nat.not_succ_le_self n)
  |succ j=>
   obtain⟨y,a,e1,e2,e3⟩:=ih (n+1) j (by rw[e,Nat.add_succ,Nat.succ_add])
   exact⟨y,a,e1,e2,.s r e3⟩
 |hole e1 e2 q _=>
  intro n j e
  rw[iq] at e
  obtain⟨h1,h2⟩:=List.cons.inj e
  obtain⟨h1,rfl⟩:=Prod.mk.inj h1
  have:j=0:=by lia
  subst this
  exact⟨_,_,e1,e2,.z (fm q (n+1) h2)⟩
theorem d6 {l:Mine.E} (h:ce none (aY 0 l)=true):aY 0 l=[]:=List.isEmpty_iff.mp h
theorem o9 {j i:Nat} {l:Mine.E} (h:ce (some (j,i)) (aY 0 l)=true):aY 0 l=[(0+j,i)]:=by
 revert h
 generalize aY 0 l=z
 intro h
 cases z with
 |nil=>exact ff h
 |cons q z=>cases z with
  |cons=>exact ff h
  |nil=>
   have h:(Nat.beq j q.1&&Nat.beq i q.2)=true:=h
   obtain⟨h1,h2⟩:=Bool.and_eq_true_iff.mp h
   rw[Nat.zero_add,Nat.eq_of_beq_eq_true h1,Nat.eq_of_beq_eq_true h2]
inductive PA (w:World) (h₁:Heap) (os:OsState) (F:Fm) (own:ch) (Z:aI) (m:Str→Option Value) (h:Heap) (l:Mine.E) (K:V→St→Prop) (vs:List Value) (s':Shared):Prop
 |mk (own':ch) (Z':aI) (lv:List V) (st':St) (I:bt w h₁ os F own' Z' m st' s') (S:Step own Z h own' Z' s'.heap) (R:jz w F Z' own' s'.heap m l lv vs) (k:K (.tup lv) st')
noncomputable def SA (w:World) (h₁:Heap) (os:OsState) (A:Around) (F:Fm) (T:fY) (call:aM) (c:Mine.E) (es:List PySem.Expr):Prop:=
 ∀own Z m st s K pos,bt w h₁ os F own Z m st s→ay T call c st K→wpAny (model P0 w) A (spliced (backTo pos (starEach es F.env))) (PA w h₁ os F own Z m s.heap c K) (fun ξ ξ=>False) s
theorem jz.step {h h':Heap} (S:Step own Z h own' Z' h') {l:Mine.E} {lv:List V} {xs:List Value} (R:jz w F Z own h m l lv xs):jz w F Z' own' h' m l lv xs:=by
 induction R with
 |nil=>exact .nil
 |cons hn r _ ih=>exact .cons hn (r.mono S.z) ih
 |hole e1 e2 _ ih=>exact .hole e1 (e2.step S) ih
theorem Ff:SA w h₁ os A F T call .nil []:=fun own Z m st s K pos I hc=>by
 dsimp only[ay] at hc
 exact wpAny_items_nil ⟨_,_,_,_,I,Step.refl ..,.nil,hc⟩
theorem Ck {a l:Mine.E} {e:PySem.Expr} {es:List PySem.Expr} (hn:∀i,a≠.hole i) (hs:∀x p,e≠.Starred x p) (ha:SE w h₁ os A F T call a e) (hl:SA w h₁ os A F T call l es):SA w h₁ os A F T call (.cons a l) (e::es):=fun own Z m st s K pos I hc=>by
 dsimp only[ay] at hc
 refine wpAny_items_cons (ha.use I hc fun own₁ Z₁ v₁ st₁ x₁ s₁ I₁ S₁ R₁ k₁=>?_) (cH hs)
 refine wpAny_mono (hl _ _ _ _ _ _ pos I₁ k₁) (fun vs s₂ p=>?_) fun ξ ξ f=>f
 obtain⟨own₂,Z₂,l₂,st₂,I₂,S₂,R₂,k₂⟩:=p
 exact⟨own₂,Z₂,v₁::l₂,st₂,I₂,S₁.trans S₂,.cons hn (R₁.mono S₂.z) R₂,k₂⟩
theorem Cp {i:Nat} {l:Mine.E} {x:Str} {p:Pos} {es:List PySem.Expr} (FO:br c F) (hx:c.isL i x=true) (hl:SA w h₁ os A F T call l es):SA w h₁ os A F T call (.cons (.hole i) l) (.Name x p::es):=fun own Z m st s K pos I hc=>by
 dsimp only[ay] at hc
 refine eh hc fun l' mo hi hl' k=>?_
 refine bc fun G=>?_;obtain⟨y,a,hy,H,_⟩:=nD FO hx I hi hl'
 refine G ?_;clear G;refine wpAny_items_cons (ci FO hx I hy H ?_) rfl
 refine wpAny_mono (hl _ _ _ _ _ _ pos I k) (fun vs s₂ p=>?_) fun ξ ξ f=>f
 refine bc fun G=>?_;obtain⟨own₂,Z₂,l₂,st₂,I₂,S₂,R₂,k₂⟩:=p
 refine G ?_;clear G;exact⟨own₂,Z₂,.hole::l₂,st₂,I₂,S₂,.hole hy (H.step S₂) R₂,k₂⟩
theorem dA {env:Env} {pos:Pos}:∀{es:List PySem.Expr},(∀e∈es,∀x p,e≠.Starred x p)→(backTo pos (starEach es env)).all (fun x=>!x.1)=true
 |[],_=>rfl
 |e::es,h=>by
  rw[cH (h e (List.mem_cons_self ..))]
  exact dA (pos:=pos) fun e' he=>h e' (List.mem_cons_of_mem _ he)
theorem vy {env:Env} {pos:Pos} {es:List PySem.Expr} (h:∀e∈es,∀x p,e≠.Starred x p):(backTo pos (starEach es env)).any (·.1)=false:=by
 have:=dA (env:=env) (pos:=pos) h
 rw[Bool.eq_false_iff]
 intro q
 obtain⟨x,h1,h2⟩:=List.any_eq_true.mp q
 have:=List.all_eq_true.mp this x h1
 rw[h2] at this;exact ff this
theorem cq {P:Heap→Prop} {f:Value} {first:List Value} {es:List PySem.Expr} {pos:Pos} {env:Env} {Q:Value→Shared→Prop} (hk:∀h,P h→∃k,(k=Keeper.frame∨k=Keeper.machine∨k=Keeper.boundFrame)∧Looks (model P0 w) h (keeperOf f) k)
  (hs:∀e∈es,∀x p,e≠.Starred x p) (h:wpAny (model P0 w) A (spliced (backTo pos (starEach es env))) (fun vs s₁=>P s₁.heap∧wpAny (model P0 w) A (PySem.call f (first++vs)) Q E s₁) E s):
  wpAny (model P0 w) A (callWith pos f first (backTo pos (starEach es env)) []) Q E s:=by
 have a:=vy (env:=env) (pos:=pos) hs
 refine callWith_of (by rw[a];rfl) hk ?_
 cases es with
 |nil=>
  unfold evalArgs
  refine wpAny_bind (wpAny_mono h (fun vs s₁ h₁=>wpAny_holding (wpAny_bind (wpAny_pure (wpAny_bind (wpAny_pure (wpAny_pure h₁)))))) fun ξ ξ x=>x)
 |cons e es=>
  rw[cH (hs e (List.mem_cons_self ..))] at h ⊢
  exact evalArgs_plain h
theorem i6 {f:Addr} (h:Heap) (X:zJ f h):∃k,(k=Keeper.frame∨k=Keeper.machine∨k=Keeper.boundFrame)∧Looks (model P0 w) h (keeperOf (.ref f)) k:=by
 refine bc fun G=>?_;obtain⟨o,fd,e1,e2⟩:=X
 refine G ?_;clear G;refine⟨.frame,.inl rfl,(Looks.ld (part:=none) e1).andThen ?_⟩
 rw[e2]
 exact .now
set_option tactic.hygienic true in
theorem aU.fun {h:Heap} {y:Nat×Bool} {v v':Value} (a:aU F h own m y v) (b:aU F h own m y v'):v=v':=by
 unfold aU at a b
 split at a
 ·rename_i q
  rw[if_pos q] at b
  obtain⟨x,o,e1,e2,e3,e4,e5⟩:=a
  obtain⟨x',o',f1,f2,f3,f4,f5⟩:=b
  rw[e1] at f1;cases f1
  rw[e4] at f4;cases f4
  rw[e5] at f5;cases f5;rfl
 ·rename_i q
  rw[if_neg q] at b
  rw[a] at b;cases b;rfl
theorem bt.fn (I:bt w h₁ os F own Z m st s) {f:Addr} (h:zJ f h₁):zJ f s.heap:=
 by obtain⟨o,fd,e1,e2⟩:=h;exact⟨o,fd,I.zin _ _ (I.base _ _ e1),e2⟩
noncomputable def oF (w:World) (F:Fm) (Z:aI) (own:ch) (h:Heap) (m:Str→Option Value) (o:Option (Nat×Nat)) (lv:List V) (vals:List Value):Prop:=match o with
 |none=>aH w Z lv vals
 |some p=>∃y a,F.ns[p.2]?=some y∧aU F h own m y (.ref a)∧mQ w Z a p.1 lv vals
theorem o4 {l:Mine.E} {lv:List V} {o:Option (Nat×Nat)} {vals:List Value} (h:ce o (aY 0 l)=true) (R:jz w F Z own s.heap m l lv vals):oF w F Z own s.heap m o lv vals:=by
 cases o with
 |none=>exact fm R 0 (d6 h)
 |some p=>exact ug R 0 p.1 (o9 h)
theorem GU {i:Nat} {g:MO→bB} {K:EK}:MZ st i g K=fun v m'=>eM m' fun m'=>K v (st.set i (g m')):=by
 funext v m';unfold MZ;simp only[gM]
theorem jg {f:Nat} {lv:List V} {o:Option (Nat×Nat)} {K:V→St→Prop} {vals:List Value} (C:gk w h₁ os A call) (I:bt w h₁ os F own Z m st s)
  (R:oF w F Z own s.heap m o lv vals) (hc:tL call f lv o st K):
  zJ f s.heap∧wpAny (model P0 w) A (PySem.call (.ref f) vals) (PE w h₁ os F own Z m s.heap K) (fun ξ ξ=>False) s:=by
 cases o with
 |none=>
  have hc:call f lv none (fun v ξ=>K v st):=hc
  refine⟨I.fn (C.fn _ _ _ _ hc),wpAny_call (codeAny_mono (C.ok f lv none _ vals Z (fun ξ=>none) 0 0 s I.zin I.base I.gens I.os ⟨R,fun ξ=>(nn ·)⟩ (fun ξ=>(nn ·)) hc) fun r s' p=>?_)⟩
  refine bc fun G=>?_;obtain⟨val,v,mo',Z',rfl,P⟩:=p
  obtain⟨I',S'⟩:=I.more P.more (fun b o e=>P.keep b o (nn ·) e) P.gens P.os
  refine G ?_;clear G;exact⟨_,_,_,_,I',S',P.rep,P.post⟩
 |some p=>
  refine bc fun G=>?_;obtain⟨j,i⟩:=p
  obtain⟨y,a,hy,H,R⟩:=R
  dsimp only at hy R
  have hc:qE st i fun m g=>call f lv (some (j,m)) (MZ st i g K):=hc
  refine G ?_;clear G;refine eh hc fun l m' hi hl hc=>?_
  rw[GU] at hc
  refine bc fun G=>?_;obtain⟨H2,RM,ha⟩:aU F s.heap own m y (.ref a)∧bN w Z own s.heap (dq i l) m' a∧(l=.inh m'→a=F.inh):=by
   have L:=I.locs i y l hy hi
   rcases hl with rfl|rfl
   ·induction L using bI.ownE with
    |own H2 RM=>have:=H.fun H2;cases this;exact⟨H2,RM,fun q=>(by first|exact nn q|exact nn q.symm|exact ff q|exact absurd q List.not_mem_nil|cases q)⟩
   ·induction L using bI.inhE with
    |inh H2 RM=>have:=H.fun H2;cases this;exact⟨H2,RM,fun ξ=>rfl⟩
  refine G ?_;clear G;refine⟨I.fn (C.fn _ _ _ _ hc),wpAny_call (codeAny_mono (C.ok f lv (some (j,m')) _ vals Z own (dq i l) a s I.zin I.base I.gens I.os ⟨R,RM⟩ (fun b e=>⟨I.disj b (by rw[e];exact(nn ·.symm)),I.odom b (by rw[e];exact(nn ·.symm))⟩) hc) fun r s' p=>?_)⟩
  refine bc fun G=>?_;obtain⟨val,v,mo',Z',rfl,P⟩:=p
  obtain⟨m'',e,k⟩:=aT P.post
  obtain⟨I',S'⟩:=I.updZ hi hl hy H ha P.more (P.back (nn ·.symm) m'' e) P.keep P.dom P.gens P.os
  refine G ?_;clear G;exact⟨_,_,_,_,I',S',P.rep,k⟩
set_option tactic.hygienic true in
theorem l4 {a:Nat} {x:Str} {p:Pos} {Q:Value→Shared→Prop} (FO:br c F) (Fa:aV w h₁) (hP:c.P=w.params) (h:eO c a x=true) (I:bt w h₁ os F own Z m st s) (q:Q (.ref a) s):
  wpAny (model P0 w) A (eval (.Name x p) F.env) Q E s:=by
 unfold eO at h
 rw[Bool.and_eq_true,Bool.and_eq_true,Bool.not_eq_true'] at h
 obtain⟨⟨h1,h2⟩,h3⟩:=h
 split at h1
 ·rename_i e
  rw[← FO.sc] at e
  split at h3
  ·rename_i y e2
   have hy:y=.ref a:=by
    unfold sr at h3
    split at h3
    ·rw[Nat.eq_of_beq_eq_true h3]
    ·exact ff h3
   subst hy
   obtain⟨mg,n1,n2⟩:=oj (I.facts Fa)
   rw[hP] at e2
   refine Calls.Name_function_global FO.kind e (Calls.loadGlobal_global (by rw[FO.glob];exact n1) ((n2 _).trans e2) q) ?_
   have:=gE x.cps.toList ((Str.ofString "__debug__").cps.toList)
   rw[ct] at h2
   rw[h2] at this
   exact this
  ·exact ff h3
 ·exact ff h1
theorem A0 {f:Nat} {o:Option (Nat×Nat)} {l:Mine.E} {x:Str} {p pos:Pos} {es:List PySem.Expr} (C:gk w h₁ os A call) (FO:br c F) (Fa:aV w h₁) (hP:c.P=w.params) (hx:eO c f x=true) (ho:ce o (aY 0 l)=true)
  (hs:∀e∈es,∀x p,e≠.Starred x p) (hl:SA w h₁ os A F T call l es):SE w h₁ os A F T call (.call f o l) (.Call (.Name x p) es [] pos):=fun own Z m st s K I hc=>by
 dsimp only[ay] at hc
 refine PyProof.Rows.Call_Name rfl (l4 FO Fa hP hx I (cq i6 hs (wpAny_mono (hl _ _ _ _ _ _ pos I hc) (fun vs s₁ q=>?_) fun ξ ξ f=>f)))
 refine bc fun G=>?_;obtain⟨own₁,Z₁,lv,st₁,I₁,S₁,R₁,k₁⟩:=q
 obtain⟨lv',e,k₁⟩:=di k₁
 refine G ?_;clear G;cases e
 obtain⟨a,b⟩:=jg C I₁ (o4 ho R₁) k₁
 exact⟨a,wpAny_mono b (fun ξ ξ p=>p.after S₁) fun ξ ξ f=>f⟩
theorem AQ {i:Nat} {l:Mine.E} {x:Str} {p pos:Pos} {es:List PySem.Expr} (C:gk w h₁ os A call) (FO:br c F) (hx:c.isL i x=true) (ho:ce none (aY 0 l)=true)
  (hs:∀e∈es,∀x p,e≠.Starred x p) (hl:SA w h₁ os A F T call l es):SE w h₁ os A F T call (.callV i l) (.Call (.Name x p) es [] pos):=fun own Z m st s K I hc=>by
 dsimp only[ay] at hc
 refine bc fun G=>?_;obtain⟨v,hi,hc⟩:=pt hc
 obtain⟨f,rfl,hc⟩:=vM hc
 obtain⟨y,hy,L⟩:=n0 FO hx I hi
 refine G ?_;clear G;induction L using bI.vE with
 |v H R=>
  induction R using aA.rawE with
  |raw=>
   refine PyProof.Rows.Call_Name rfl (ci FO hx I hy H (cq i6 hs (wpAny_mono (hl _ _ _ _ _ _ pos I hc) (fun vs s₁ q=>?_) fun ξ ξ f=>f)))
   refine bc fun G=>?_;obtain⟨own₁,Z₁,lv,st₁,I₁,S₁,R₁,k₁⟩:=q
   obtain⟨lv',e,k₁⟩:=di k₁
   refine G ?_;clear G;cases e
   obtain⟨a,b⟩:=jg (o:=none) C I₁ (o4 ho R₁) k₁
   exact⟨a,wpAny_mono b (fun ξ ξ p=>p.after S₁) fun ξ ξ f=>f⟩
end
noncomputable def sR:List Nat→Nat
 |[]=>0
 |a::r=>a+256 * sR r
theorem ig:∀(f n:Nat),n < 256 ^ f→sR (B3 f n)=n
 |0,n,h=>by simp at h;subst h;rfl
 |f+1,0,_=>rfl
 |f+1,m+1,h=>by
  show(m+1) % 256+256 * sR (B3 f ((m+1) / 256))=m+1
  rw[ig f _ (Nat.div_lt_of_lt_mul (by rw[Nat.pow_succ,Nat.mul_comm] at h;exact h))]
  exact Nat.mod_add_div _ _
theorem sW {a b:Nat} (ha:a < 256 ^ 60) (hb:b < 256 ^ 60) (h:bw a=bw b):a=b:=by
 have e:iW a=iW b:=by
  have:=congrArg (fun x:Str=>x.cps.toList) h
  exact this
 have:=congrArg sR e
 unfold iW at this
 rwa [ig _ _ ha,ig _ _ hb] at this
noncomputable def yk (p:Program) (P:Params) (C k f:Nat):Bool:=
 (findIn (KC p P) (.ref C) "__getattribute__" == some (some (.builtin "object.__getattribute__")))&&((findIn (KC p P) (.ref C) "__getattr__" == some none)&&((findIn (KC p P) (.ref C) (bw k) == some (some (.ref f)))&&((typeIn (KC p P) (.ref f) == some (.type "function"))&&decide (k < 256 ^ 60))))
noncomputable def me (p:Program) (P:Params) (C:Nat) (v:Value):Bool:=
 makesIn (KC p P) C&&(keepIn (KC p P) (.ref C)&&(findIn (KC p P) (.ref C) "__init__" == some (some v)))
structure iV (T:fY) (P:Params):Prop where
 meth:∀C k f,T.meth C k=some f→yk P0 P C k f=true
 init:∀C f,T.init C=some (some f)→me P0 P C (.ref f)=true∧typeIn (KC P0 P) (.ref f)=some (.type "function")
 init0:∀C,T.init C=some none→me P0 P C (.builtin "object.__init__")=true
section
variable {w:World} {h₁:Heap} {os:OsState} {F:Fm} {own own':ch} {Z Z':aI} {m:Str→Option Value} {st:St} {s s':Shared} {A:Around} {E:Value→Shared→Prop} {c:Cx} {T:fY} {call:aM}
theorem u5 {k:Nat} {fs:List (Nat×V)} (h:dO k fs=none):∀p∈fs,p.1≠k:=by
 induction fs with
 |nil=>exact fun p hp=>absurd hp List.not_mem_nil
 |cons x r ih=>
  have h:(if Nat.beq k x.1=true then some x.2 else dO k r)=none:=h
  by_cases q:Nat.beq k x.1=true
  ·rw[if_pos q] at h;cases h
  ·rw[if_neg q] at h
   exact List.forall_mem_cons.mpr ⟨fun e=>q (by rw[e];exact Nat.beq_refl k),ih h⟩
theorem uh {C k:Nat} {fs:List (Nat×V)} {o:Obj} {m':Str→Option Value} (ha:∀p∈fs,dY C p.1=true) (N:kK o m') (hm:∀name,(∀p∈fs,bw p.1≠name)→m' name=none) (hk:k < 256 ^ 60) (h:dO k fs=none):
  shadowIn (some o) (bw k)=some false:=by
 unfold shadowIn
 dsimp only
 rw[m8 N,hm _ fun p hp e=>u5 h p hp (sW (rK (ha p hp)) hk e)]
 rfl
theorem lW {v:V} {k:Nat} {K:Nat→Prop} (h:Aq T v k K):∃C fs f,v=.inst C fs∧dO k fs=none∧T.meth C k=some f∧K f:=by
 cases v with
 |inst C fs=>
  revert h
  show(match dO k fs with|none=>eM (T.meth C k) K|some _=>False)→_
  cases e:dO k fs with
  |some=>exact False.elim
  |none=>
   intro h
   obtain⟨f,e2,k⟩:=aT h
   exact⟨C,fs,f,rfl,e,e2,k⟩
 |_=>exact False.elim h
theorem nr {C k f a d:Nat} {fs:List (Nat×V)} {o:Obj} {m':Str→Option Value} {pl:Sem Bool} {Q:Value×List Value→Shared→Prop} (TO:iV T w.params) (Fs:aV w s.heap) (ha:∀p∈fs,dY C p.1=true) (e1:s.heap.get? a=some (instObj C d)) (e2:s.heap.get? d=some o)
  (N:kK o m') (hm:∀name,(∀p∈fs,bw p.1≠name)→m' name=none) (hk:dO k fs=none) (ht:T.meth C k=some f) (q:Q (.ref f,[.ref a]) s):wpAny (model P0 w) A (getMethod (.ref a) (bw k) pl) Q E s:=by
 have B:=TO.meth _ _ _ ht
 unfold yk at B
 simp only[Bool.and_eq_true,beq_iff_eq,decide_eq_true_eq] at B
 refine bc fun G=>?_;obtain⟨b1,b2,b3,b4,b5⟩:=B
 refine G ?_;clear G;exact method_fn (K:=KC P0 w.params) (nc w.params Fs.at_) (C:=C) (od:=some o) ⟨e1,rfl,rfl,e2⟩ b1 b2 b3 b4 (uh ha N hm b5 hk) q
set_option tactic.hygienic true in
theorem Ca {k:Nat} {a l:Mine.E} {o:Option (Nat×Nat)} {e:PySem.Expr} {n:Str} {p pos:Pos} {es:List PySem.Expr} (C:gk w h₁ os A call) (TO:iV T w.params) (Fa:aV w h₁) (hb:cK e=true) (hp:p.endLine=pos.line) (hn:iz k n=true)
  (ho:ce o (aY 0 l)=true) (h30:es.length < 30) (hs:∀e∈es,∀x p,e≠.Starred x p) (ha:SE w h₁ os A F T call a e) (hl:SA w h₁ os A F T call l es):SE w h₁ os A F T call (.meth a k o l) (.Call (.Attribute e n p) es [] pos):=fun own Z m st s K I hc=>by
 dsimp only[ay] at hc
 rw[cC hn]
 refine ni hb hp h30 (dA hs) (ha.use I hc fun own₁ Z₁ v₁ st₁ x₁ s₁ I₁ S₁ R₁ k₁=>fun pl=>?_)
 refine bc fun G=>?_;obtain⟨C',fs,f,rfl,g1,g2,k₁⟩:=lW k₁
 have R₁':=R₁
 refine G ?_;clear G;induction R₁ using aA.instE with
 |inst q z1 z2 z3 z4 z5=>
  rename_i ax _ _ _
  refine nr TO (I₁.facts Fa) q (I₁.zin _ _ z1) (I₁.zin _ _ z2) z3 z5 g1 g2 ?_
  refine cq i6 hs (wpAny_mono (hl _ _ _ _ _ _ pos I₁ k₁) (fun vs s₂ q=>?_) fun ξ ξ f=>f)
  refine bc fun G=>?_;obtain⟨own₂,Z₂,lv,st₂,I₂,S₂,R₂,k₂⟩:=q
  obtain⟨lv',e,k₂⟩:=di k₂
  refine G ?_;clear G;cases e
  have R3:oF w F Z₂ own₂ s₂.heap m (Ql o) (.inst C' fs::lv) (.ref ax::vs):=by
   have R4:=o4 ho R₂
   cases o with
   |none=>exact .cons (R₁'.mono S₂.z) R4
   |some p=>
    refine bc fun G=>?_;obtain⟨y,a,e1,e2,e3⟩:=R4
    refine G ?_;clear G;exact⟨y,a,e1,e2,.s (R₁'.mono S₂.z) e3⟩
  obtain⟨a,b⟩:=jg C I₂ R3 k₂
  exact⟨a,wpAny_mono b (fun ξ ξ p=>p.after (S₁.trans S₂)) fun ξ ξ f=>f⟩
theorem xu {i k:Nat} {l:Mine.E} {x n:Str} {q p pos:Pos} {es:List PySem.Expr} (C:gk w h₁ os A call) (TO:iV T w.params) (FO:br c F) (Fa:aV w h₁) (hx:c.isL i x=true) (hp:p.endLine=pos.line) (hn:iz k n=true)
  (ho:ce none (aY 0 l)=true) (h30:es.length < 30) (hs:∀e∈es,∀x p,e≠.Starred x p) (hl:SA w h₁ os A F T call l es):SE w h₁ os A F T call (.methO i k l) (.Call (.Attribute (.Name x q) n p) es [] pos):=fun own Z m st s K I hc=>by
 rw[cC hn]
 refine eh hc fun l' m' hi hl' hc=>?_
 refine bc fun G=>?_;obtain⟨y,a,hy,H,RM,_⟩:=nD FO hx I hi hl'
 obtain⟨C',fs,f,e,g1,g2,k₁⟩:=lW hc
 refine G ?_;clear G;refine ni rfl hp h30 (dA hs) (ci FO hx I hy H fun pl=>?_)
 cases RM with
 |list=>cases e
 |inst q e1 e2 e3 e4 e5 e6 e7 e8 e9=>
  cases e
  refine nr TO (I.facts Fa) q e4 e5 e6 e9 g1 g2 ?_
  refine cq i6 hs (wpAny_mono (hl _ _ _ _ _ _ pos I k₁) (fun vs s₂ q=>?_) fun ξ ξ f=>f)
  refine bc fun G=>?_;obtain⟨own₂,Z₂,lv,st₂,I₂,S₂,R₂,k₂⟩:=q
  obtain⟨lv',e,k₂⟩:=di k₂
  refine G ?_;clear G;cases e
  have R3:oF w F Z₂ own₂ s₂.heap m (some (0,i)) (.hole::lv) (.ref a::vs):=⟨y,a,hy,H.step S₂,.z (fm R₂ 0 (d6 ho))⟩
  obtain⟨a,b⟩:=jg C I₂ R3 k₂
  exact⟨a,wpAny_mono b (fun ξ ξ p=>p.after S₂) fun ξ ξ f=>f⟩
theorem cD (h:Heap) {a:Addr} (ha:h.objs.size≤a):h.get? a=none:=by
 cases q:h.get? a with
 |none=>rfl
 |some o=>exact absurd (Heap.lt_size q) (Nat.not_lt.mpr ha)
structure F4 (w:World) (os:OsState) (Z:aI) (s:Shared) (K:MO→Prop) (x:Addr) (s':Shared) (m':MO) (on:ch) (Z':aI):Prop where
 more:o8 Z s.heap Z' s'.heap
 rep:bN w Z' on s'.heap 0 m' x
 fresh:∀b,on b=some 0→s.heap.get? b=none
 apart:∀b,on b=some 0→Z' b=none
 there:∀b,on b=some 0→∃o,s'.heap.get? b=some o
 post:K m'
 keep:∀b o,s.heap.get? b=some o→s'.heap.get? b=some o
 gens:s'.gens=#[]
 os:s'.os=os
inductive Kq (w:World) (os:OsState) (Z:aI) (s:Shared) (K:MO→Prop) (v:Value) (s':Shared):Prop
 |mk (x:Addr) (m':MO) (on:ch) (Z':aI) (e:v=.ref x) (M:F4 w os Z s K x s' m' on Z')
theorem ww {v:V} {x:Value} (h:isNone v=true) (R:aA w Z v x):x=.none:=by
 cases R<;>first|rfl|exact ff h
theorem zq:kK emptyDict (fun ξ=>none):=⟨#[],0,rfl,fun e h=>absurd h (Array.not_mem_empty e),fun ξ=>rfl⟩
set_option tactic.hygienic true in
theorem tT {C:Nat} {lv:List V} {vals:List Value} {K:MO→Prop} (CO:k8 w h₁ os A call) (TO:iV T w.params) (Fa:aV w h₁) (zi:pg Z s.heap) (hb:∀b o,h₁.get? b=some o→Z b=some o) (hg:s.gens=#[]) (ho:s.os=os)
  (R:aH w Z lv vals) (hc:Cc T call C lv K):
  keepIn (KC P0 w.params) (.ref C)=true∧wpAny (model P0 w) A (PySem.call (.ref C) vals) (Kq w os Z s K) (fun ξ ξ=>False) s:=by
 have Fs:aV w s.heap:=Fa.keeps fun b o e=>zi b o (hb b o e)
 have X:=nc w.params Fs.at_
 have zf:∀b,s.heap.get? b=none→Z b=none:=fun b e=>by
  cases q:Z b with
  |none=>rfl
  |some o=>rw[zi b o q] at e;cases e
 unfold Cc at hc
 have k1:∀(o:Obj) b ob,s.heap.get? b=some ob→((s.heap.push emptyDict).push o).get? b=some ob:=fun o b ob e=>Heap.get?_push_of_some _ (Heap.get?_push_of_some _ e)
 have gx:((s.heap.push emptyDict).push (instObj C s.heap.objs.size)).get? (s.heap.objs.size+1)=some (instObj C s.heap.objs.size):=by
  rw[← Heap.size_push s.heap emptyDict];exact Heap.get?_push_size _ rfl
 have gd:((s.heap.push emptyDict).push (instObj C s.heap.objs.size)).get? s.heap.objs.size=some emptyDict:=Heap.get?_push_of_some _ (Heap.get?_push_size _ rfl)
 have RM:bN w Z (fun b=>if b=s.heap.objs.size∨b=s.heap.objs.size+1 then some 0 else none) ((s.heap.push emptyDict).push (instObj C s.heap.objs.size)) 0 (.inst C []) (s.heap.objs.size+1):=
  .inst (fun p h=>absurd h List.not_mem_nil) (if_pos (.inr rfl)) (if_pos (.inl rfl)) (Nat.succ_ne_self _) gx gd zq ⟨#[],0,rfl,Nat.le_refl _⟩ .nil (fun ξ ξ=>rfl)
 have on0:∀b,(fun b=>if b=s.heap.objs.size∨b=s.heap.objs.size+1 then some 0 else none:ch) b=some 0→b=s.heap.objs.size∨b=s.heap.objs.size+1:=fun b e=>by
  by_cases q:b=s.heap.objs.size∨b=s.heap.objs.size+1
  ·exact q
  ·dsimp only at e;rw[if_neg q] at e;exact nn e
 have fr:∀b,(b=s.heap.objs.size∨b=s.heap.objs.size+1)→s.heap.get? b=none:=fun b e=>cD _ (by lia)
 have thr:∀b,(b=s.heap.objs.size∨b=s.heap.objs.size+1)→∃o,((s.heap.push emptyDict).push (instObj C s.heap.objs.size)).get? b=some o:=fun b e=>by
  rcases e with rfl|rfl
  ·exact⟨_,gd⟩
  ·exact⟨_,gx⟩
 split at hc
 ·rename_i f e
  obtain⟨b1,b2⟩:=TO.init _ _ e
  unfold me at b1
  simp only[Bool.and_eq_true,beq_iff_eq] at b1
  obtain⟨c1,c2,c3⟩:=b1
  refine⟨c2,wpAny_call ?_⟩
  obtain⟨hh,g,d,t,os'⟩:=s
  dsimp only at *
  refine make_core (makes_of X c1) (looks_findIn X c3) (fun self=>bind_fn X self b2) (.inl rfl) ?_
  refine codeAny_mono ((CO.made _ _).ok f (.hole::lv) (some (0,.inst C [])) _ (.ref (hh.objs.size+1)::vals) Z _ 0 (hh.objs.size+1) ⟨(hh.push emptyDict).push (instObj C hh.objs.size),g,d,t,os'⟩ (fun b o e=>k1 _ b o (zi b o e)) hb hg ho ⟨.z R,RM⟩ (fun b e=>⟨zf b (fr b (on0 b e)),thr b (on0 b e)⟩) hc) fun r s' p=>?_
  obtain⟨val,v,mo',Z',rfl,P⟩:=p
  obtain⟨p1,p2⟩:=P.post
  obtain⟨m',e2,k⟩:=aT p2
  have:=ww p1 P.rep
  subst this
  refine⟨rfl,hh.objs.size+1,m',_,Z',rfl,⟨⟨P.more.z,P.more.zin,fun b o e=>?_⟩,P.back (nn ·.symm) m' e2,fun b e=>fr b (on0 b e),fun b e=>?_,fun b e=>?_,k,fun b o e=>P.keep b o (fun q=>by rw[fr b (on0 b q)] at e;exact nn e) (k1 _ b o e),P.gens,P.os⟩⟩
  ·rcases P.more.new b o e with q|q
   ·exact .inl q
   ·cases q':hh.get? b with
    |none=>exact .inr rfl
    |some ob=>rw[k1 _ b ob q'] at q;cases q
  ·cases q:Z' b with
   |none=>rfl
   |some ob=>
    rcases P.more.new b ob q with q|q
    ·rw[zf b (fr b (on0 b e))] at q;exact nn q
    ·rcases on0 b e with rfl|rfl
     ·rw[gd] at q;cases q
     ·rw[gx] at q;cases q
  ·rcases on0 b e with rfl|rfl
   ·exact P.dom _ _ gd
   ·exact P.dom _ _ gx
 ·rename_i e
  have b1:=TO.init0 _ e
  unfold me at b1
  simp only[Bool.and_eq_true,beq_iff_eq] at b1
  obtain⟨c1,c2,c3⟩:=b1
  refine⟨c2,wpAny_call ?_⟩
  split at hc
  ·cases R
   obtain⟨hh,g,d,t,os'⟩:=s
   dsimp only at *
   have Y:=makes_of (M:=model P0 w) X c1
   refine make_core Y (looks_findIn X c3) (fun self=>Looks.of_pure (oi_bind self)) (.inr ⟨rfl,rfl⟩) ?_
   have t1:Looks (model P0 w) ((hh.push emptyDict).push (instObj C hh.objs.size)) (typeOf (.ref (hh.objs.size+1))) (.ref C):=(Looks.ld gx).andThen .now
   have t2:Looks (model P0 w) ((hh.push emptyDict).push (instObj C hh.objs.size)) (isInstance (.ref (hh.objs.size+1)) (.type "object")) true:=t1.andThen (Y.top.keeps fun b o e=>k1 _ b o e)
   refine codeAny_call_builtin oi_plain entry_oi (@check_slot (model P0 w) _ _ _ "object.__init__" "object" "__init__" (.ref (hh.objs.size+1)) [] [] _ oi_kind oi_split t2 (oi_args (.ref (hh.objs.size+1))) ?_)
   rw[oi_run]
   refine wpAny_pure ⟨rfl,hh.objs.size+1,.inst C [],_,Z,rfl,⟨⟨fun ξ ξ e=>e,fun b o e=>k1 _ b o (zi b o e),fun ξ ξ e=>.inl e⟩,RM,fun b e=>fr b (on0 b e),fun b e=>zf b (fr b (on0 b e)),fun b e=>?_,hc,k1 _,hg,ho⟩⟩
   rcases on0 b e with rfl|rfl
   ·exact⟨_,gd⟩
   ·exact⟨_,gx⟩
  ·exact hc.elim
 ·exact hc.elim
set_option tactic.hygienic true in
theorem F4.fz {K:MO→Prop} {x:Addr} {m':MO} {on:ch} (M:F4 w os Z s K x s' m' on Z'):o8 Z s.heap (nV on Z' s'.heap 0) s'.heap∧aA w (nV on Z' s'.heap 0) (Mine.fz m') (.ref x):=by
 have z:rM Z' (nV on Z' s'.heap 0):=fun b o e=>by
  unfold nV
  split
  ·rename_i q;rw[M.apart b q] at e;exact nn e
  ·exact e
 refine⟨⟨fun b o e=>z _ _ (M.more.z b o e),fun b o e=>?_,fun b o e=>?_⟩,M.rep.fz z⟩
 ·unfold nV at e
  split at e
  ·exact e
  ·exact M.more.zin b o e
 ·unfold nV at e
  split at e
  ·rename_i q;exact .inr (M.fresh b q)
  ·exact M.more.new b o e
theorem FY {k:Nat} {l:Mine.E} {x:Str} {p pos:Pos} {es:List PySem.Expr} (CO:k8 w h₁ os A call) (TO:iV T w.params) (FO:br c F) (Fa:aV w h₁) (hP:c.P=w.params) (hx:eO c k x=true) (ho:ce none (aY 0 l)=true)
  (hs:∀e∈es,∀x p,e≠.Starred x p) (hl:SA w h₁ os A F T call l es):SE w h₁ os A F T call (.new k l) (.Call (.Name x p) es [] pos):=fun own Z m st s K I hc=>by
 dsimp only[ay] at hc
 refine PyProof.Rows.Call_Name rfl (l4 FO Fa hP hx I (cq (P:=fun h=>keepIn (KC P0 w.params) (.ref k)=true∧(KC P0 w.params).In h) (fun h q=>keeps_K q.1 h q.2) hs (wpAny_mono (hl _ _ _ _ _ _ pos I hc) (fun vs s₁ q=>?_) fun ξ ξ f=>f)))
 refine bc fun G=>?_;obtain⟨own₁,Z₁,lv,st₁,I₁,S₁,R₁,k₁⟩:=q
 obtain⟨lv',e,k₁⟩:=di k₁
 refine G ?_;clear G;cases e
 obtain⟨a,b⟩:=tT CO TO Fa I₁.zin I₁.base I₁.gens I₁.os (fm R₁ 0 (d6 ho)) k₁
 refine⟨⟨a,nc w.params (I₁.facts Fa).at_⟩,wpAny_mono b (fun v s₂ q=>?_) fun ξ ξ f=>f⟩
 refine bc fun G=>?_;obtain⟨x,m',on,Z',rfl,M⟩:=q
 obtain⟨M1,M2⟩:=M.fz
 obtain⟨I₂,S₂⟩:=I₁.more M1 M.keep M.gens M.os
 refine G ?_;clear G;exact PE.after S₁ ⟨_,_,_,_,I₂,S₂,M2,M.post⟩
theorem MR {p:Pf} {a:Mine.E} {f:Str} {q pos:Pos} {e:PySem.Expr} (FO:br c F) (Fa:aV w h₁) (hP:c.P=w.params) (hf:c.isB (O8 p) f=true) (hs:∀x q,e≠.Starred x q) (ha:SE w h₁ os A F T call a e):
  SE w h₁ os A F T call (.pf p a) (.Call (.Name f q) [e] [] pos):=fun own Z m st s K I hc=>by
 dsimp only[ay] at hc
 have hv:(dQ w.params).nsMap builtinsNs (bw (O8 p))=some (N2 p):=by
  have B:=oo w.params
  cases p
  ·exact B.1
  ·exact B.2.1
  ·exact B.2.2.1
  ·exact B.2.2.2.1
 have fin:wpAny (model P0 w) A (eval e F.env) (fun v s₁=>wpAny (model P0 w) A (PySem.call (N2 p) [v]) (PE w h₁ os F own Z m s.heap K) (fun ξ ξ=>False) s₁) (fun ξ ξ=>False) s:=
  ha.use I hc fun own₁ Z₁ v₁ st₁ x₁ s₁ I₁ S₁ R₁ k₁=>by
   refine bc fun G=>?_;obtain⟨r,e,k⟩:=aT k₁
   refine G ?_;clear G;exact HT I₁.zin e R₁ fun v t R=>PE.after S₁ (PE.now I₁ R k)
 refine PyProof.Rows.Call_Name rfl (mh FO (I.facts Fa) hP hf hv ?_)
 rw[cH hs]
 cases p with
 |int_=>exact PySem.callWith_type1 fin
 |_=>exact PySem.callWith_builtin1 fin
theorem u2 {v:V} {x:Value} (h:isStr v=true) (R:aA w Z v x):∃s t,x=.str s t:=by
 cases R<;>first|exact⟨_,_,rfl⟩|exact ff h
theorem Bf {a b:Mine.E} {e r:PySem.Expr} {n:Str} {p pos:Pos} (hb:cK e=true) (hp:p.endLine=pos.line) (hn:iz CP n=true) (hs:∀x q,r≠.Starred x q) (ha:SE w h₁ os A F T call a e) (hr:SE w h₁ os A F T call b r):
  SE w h₁ os A F T call (.join a b) (.Call (.Attribute e n p) [r] [] pos):=fun own Z m st s K I hc=>by
 have en:n="join":=(cC hn).trans (by decide+kernel)
 subst en
 dsimp only[ay] at hc
 refine ni hb hp (by show 1 < 30;decide) (dA fun x h=>by cases List.mem_singleton.mp h;exact hs) (ha.use I hc fun own₁ Z₁ v₁ st₁ x₁ s₁ I₁ S₁ R₁ k₁=>fun pl=>?_)
 refine bc fun G=>?_;obtain⟨sv,t,rfl⟩:=u2 k₁.1 R₁
 refine G ?_;clear G;refine getMethod_builtin (T:="str") (id:="str.join") (typeIs_str _ _ _) PySem.F.plainAttrs_str PySem.F.slot_str_join PySem.F.type_str_join (fun a e=>(by first|exact nn e|exact nn e.symm|exact ff e|exact absurd e List.not_mem_nil|cases e)) ?_
 rw[cH hs]
 refine Calls.callWith_builtin rfl (Calls.evalArgs_plain (Calls.spliced_cons (hr.use I₁ k₁.2 fun own₂ Z₂ v₂ st₂ x₂ s₂ I₂ S₂ R₂ k₂=>Calls.spliced_nil ?_)))
 refine bc fun G=>?_;obtain⟨r,e,k⟩:=aT k₂
 refine G ?_;clear G;exact Ct I₂.zin e k.1 (R₁.mono S₂.z) R₂ fun v t R=>PE.after (S₁.trans S₂) (PE.now I₂ R k.2)
theorem aA.ofDict {es:List (V×V)} {x:Value} (R:aA w Z (.dict es) x):∃a o,x=.ref a∧Z a=some o∧o.cls=.type "dict"∧o.dict=Option.none:=by
 cases R with
 |dictI n a b c d=>exact⟨_,_,rfl,a,b.1.1,b.1.2.1⟩
 |dictS n a b c d=>exact⟨_,_,rfl,a,b.1.1,b.1.2.1⟩
set_option tactic.hygienic true in
theorem Gh {a b:Mine.E} {e r:PySem.Expr} {n:Str} {p pos:Pos} (hb:cK e=true) (hp:p.endLine=pos.line) (hn:iz Lo n=true) (hs:∀x q,r≠.Starred x q) (ha:SE w h₁ os A F T call a e) (hr:SE w h₁ os A F T call b r):
  SE w h₁ os A F T call (.get a b) (.Call (.Attribute e n p) [r] [] pos):=fun own Z m st s K I hc=>by
 have en:n="get":=(cC hn).trans (by decide+kernel)
 subst en
 dsimp only[ay] at hc
 refine ni hb hp (by show 1 < 30;decide) (dA fun x h=>by cases List.mem_singleton.mp h;exact hs) (ha.use I hc fun own₁ Z₁ v₁ st₁ x₁ s₁ I₁ S₁ R₁ k₁=>fun pl=>?_)
 unfold Iz at k₁
 split at k₁
 ·rename_i es
  refine bc fun G=>?_;obtain⟨ad,od,rfl,z1,z2,z3⟩:=R₁.ofDict
  refine G ?_;clear G;refine getMethod_builtin (T:="dict") (id:="dict.get") ⟨od,I₁.zin _ _ z1,z2⟩ PySem.F.plainAttrs_dict PySem.F.slot_dict_get PySem.F.type_dict_get (fun a e=>by cases e;exact⟨od,I₁.zin _ _ z1,z3⟩) ?_
  rw[cH hs]
  refine Calls.callWith_builtin rfl (Calls.evalArgs_plain (Calls.spliced_cons (hr.use I₁ k₁ fun own₂ Z₂ v₂ st₂ x₂ s₂ I₂ S₂ R₂ k₂=>Calls.spliced_nil ?_)))
  refine bc fun G=>?_;obtain⟨r,e,k⟩:=aT k₂
  obtain⟨d,v,e1,hs,hv,K',dk,knd,f,kk,k1,k2,k3⟩:=jB e (R₁.mono S₂.z) R₂ I₂.zin
  refine G ?_;clear G;cases e1
  refine call_meetsIn PySem.F.slot_dict_get k2.typeIs PySem.F.entry_dict_get (PySem.F.args_dict_get_2 _ _) (meets_dict_get knd ad k1 hs) ⟨f,k2,?_⟩
  rw[k3]
  refine PE.after (S₁.trans S₂) (PE.now I₂ ?_ k)
  cases r<;>cases v<;>first|exact aA.none|exact hv|exact hv.elim
 ·exact k₁.elim
inductive vb (w:World) (Z:aI):List V→List (Value×Value)→Prop
 |nil:vb w Z [] []
 |cons {k v x y l ps}:aA w Z k x→aA w Z v y→vb w Z l ps→vb w Z (k::v::l) ((x,y)::ps)
inductive PD (w:World) (h₁:Heap) (os:OsState) (F:Fm) (own:ch) (Z:aI) (m:Str→Option Value) (h:Heap) (K:V→St→Prop) (ps:List (Value×Value)) (s':Shared):Prop
 |mk (own':ch) (Z':aI) (lv:List V) (st':St) (I:bt w h₁ os F own' Z' m st' s') (S:Step own Z h own' Z' s'.heap) (R:vb w Z' lv ps) (k:K (.tup lv) st')
noncomputable def SD (w:World) (h₁:Heap) (os:OsState) (A:Around) (F:Fm) (T:fY) (call:aM) (c:Mine.E) (ks:List (Option PySem.Expr)) (vs:List PySem.Expr):Prop:=
 (ks.all (·.isSome)=true∧ks.length=vs.length)∧∀own Z m st s K pos,bt w h₁ os F own Z m st s→ay T call c st K→wpAny (model P0 w) A (evalPairs (pairTrees ks vs F.env pos)) (PD w h₁ os F own Z m s.heap K) (fun ξ ξ=>False) s
theorem Ft:SD w h₁ os A F T call .nil [] []:=⟨⟨rfl,rfl⟩,fun own Z m st s K pos I hc=>by
 dsimp only[ay] at hc
 exact pairTrees_nil_walk ⟨_,_,_,_,I,Step.refl ..,.nil,hc⟩⟩
theorem CC {a b l:Mine.E} {k v:PySem.Expr} {ks:List (Option PySem.Expr)} {vs:List PySem.Expr} (ha:SE w h₁ os A F T call a k) (hb:SE w h₁ os A F T call b v) (hl:SD w h₁ os A F T call l ks vs):SD w h₁ os A F T call (.cons a (.cons b l)) (some k::ks) (v::vs):=
 ⟨⟨by rw[List.all_cons,hl.1.1];rfl,by rw[List.length_cons,List.length_cons,hl.1.2]⟩,fun own Z m st s K pos I hc=>by
 dsimp only[ay] at hc
 refine pairTrees_cons_walk (ha.use I hc fun own₁ Z₁ v₁ st₁ x₁ s₁ I₁ S₁ R₁ k₁=>?_)
 refine hb.use I₁ k₁ fun own₂ Z₂ v₂ st₂ x₂ s₂ I₂ S₂ R₂ k₂=>?_
 refine wpAny_mono (hl.2 _ _ _ _ _ _ pos I₂ k₂) (fun ps s₃ q=>?_) fun ξ ξ f=>f
 obtain⟨own₃,Z₃,lv,st₃,I₃,S₃,R₃,k₃⟩:=q
 exact⟨own₃,Z₃,_,st₃,I₃,S₁.trans (S₂.trans S₃),.cons (R₁.mono (S₂.trans S₃).z) (R₂.mono S₃.z) R₃,k₃⟩⟩
theorem wY {lv:List V} {ps:List (Value×Value)} {es:List (V×V)} {l:List Int} (R:vb w Z lv ps) (h1:nP lv=some es) (h2:Fi es=some l):
  ∃kvs:List (Int×Value),Carries (PySem.intKind P0 w) ps kvs∧dK w Z es kvs∧kvs.map (·.1)=l:=by
 induction R generalizing es l with
 |nil=>cases h1;cases h2;exact⟨[],trivial,.nil,rfl⟩
 |@cons k v x y lv ps Rk Rv q ih=>
  refine bc fun G=>?_;obtain⟨es',e,rfl⟩:=Option.map_eq_some_iff.mp h1
  refine G ?_;clear G;cases k with
  |int i=>
   refine bc fun G=>?_;obtain⟨l',e2,rfl⟩:=Option.map_eq_some_iff.mp h2
   obtain⟨kvs,a,b,d⟩:=ih e e2
   refine G ?_;clear G;induction Rk using aA.intE with
   |int t=>exact⟨(i,_)::kvs,⟨beq_self_eq_true i,rfl,a⟩,.cons Rv b,by rw[List.map_cons,d]⟩
  |_=>exact nn h2
theorem xE {lv:List V} {ps:List (Value×Value)} {es:List (V×V)} {l:List (List Nat)} (R:vb w Z lv ps) (h1:nP lv=some es) (h2:FU es=some l):
  ∃kvs:List (Str×Value),Carries (PySem.strKind P0 w) ps kvs∧dP w Z es kvs∧kvs.map (·.1)=l.map sS:=by
 induction R generalizing es l with
 |nil=>cases h1;cases h2;exact⟨[],trivial,.nil,rfl⟩
 |@cons k v x y lv ps Rk Rv q ih=>
  refine bc fun G=>?_;obtain⟨es',e,rfl⟩:=Option.map_eq_some_iff.mp h1
  refine G ?_;clear G;cases k with
  |str i=>
   refine bc fun G=>?_;obtain⟨l',e2,rfl⟩:=Option.map_eq_some_iff.mp h2
   obtain⟨kvs,a,b,d⟩:=ih e e2
   refine G ?_;clear G;induction Rk using aA.strE with
   |str t=>exact⟨(sS i,_)::kvs,⟨by show(sS i == sS i)=true;exact beq_self_eq_true _,rfl,a⟩,.cons Rv b,by rw[List.map_cons,d,List.map_cons]⟩
  |_=>exact nn h2
theorem li {K:Type} [DecidableEq K] (kvs:List (K×Value)) (k:K):valueAt kvs k=zr k kvs:=by
 induction kvs with
 |nil=>rfl
 |cons p r ih=>
  obtain⟨j,v⟩:=p
  unfold valueAt
  show _=(if j=k then some v else zr k r)
  by_cases c:j=k
  ·rw[if_pos c,List.find?_cons_of_pos (by simpa using c)];rfl
  ·rw[if_neg c,List.find?_cons_of_neg (by simpa using c)];exact ih
theorem Step.over {h h' h'':Heap} {o₀:Obj} (S:Step own Z (h.push o₀) own' Z' h') (k:∀b o,b≠h.objs.size→h'.get? b=some o→h''.get? b=some o):Step own Z h own' Z' h'':=by
 have ne:∀b o,h.get? b=some o→b≠h.objs.size:=fun b o e q=>by subst q;exact absurd (Heap.lt_size e) (Nat.lt_irrefl _)
 have f:∀b,(h.push o₀).get? b=none→h.get? b=none:=fun b e=>by
  cases q:h.get? b with
  |none=>rfl
  |some o=>rw[Heap.get?_push_of_some _ q] at e;cases e
 exact⟨S.z,fun b o e=>(S.znew b o e).imp id (Or.imp (f b) id),fun b t e=>(S.onew b t e).imp id (And.imp (f b) id),S.o01,
  fun b o e q=>k b o (ne b o q) (S.keep b o e (Heap.get?_push_of_some _ q)),
  fun b o e=>(S.dom b o (Heap.get?_push_of_some _ e)).imp fun o' e'=>k b o' (ne b o e) e',
  fun b o e c q=>k b o (ne b o q) (S.cell b o e c (Heap.get?_push_of_some _ q))⟩
theorem bt.change (I:bt w h₁ os F own Z m st s) {D:Addr} (f:own D=none) (z:Z D=none) (k:∀b o,b≠D→s.heap.get? b=some o→s'.heap.get? b=some o) (g:s'.gens=s.gens) (o:s'.os=s.os):bt w h₁ os F own Z m st s':=by
 have ne:∀b,own b≠none→b≠D:=fun b q c=>q (by rw[c];exact f)
 refine⟨fun b ob e=>k b ob (fun c=>by rw[c,z] at e;exact nn e) (I.zin b ob e),I.base,?_,I.tagL,I.disj,I.len,fun i x l e1 e2=>(I.locs i x l e1 e2).mono (fun ξ ξ e=>e) (fun ξ ξ e ξ=>e) (fun b ob t e ξ ξ q=>k b ob (ne b (by rw[e];exact(nn ·.symm))) q) I.tagL,g.trans I.gens,o.trans I.os,fun b q=>let ⟨ob,e⟩:=I.odom b q;⟨ob,k b ob (ne b q) e⟩,I.inh1⟩
 obtain⟨ob,es,ep,q1,q2⟩:=I.ns
 exact⟨ob,es,ep,k _ _ (ne _ (by rw[I.tagL];exact(nn ·.symm))) q1,q2⟩
theorem PE.over {K:V→St→Prop} {v:V} {o₀ o:Obj} {s₁ s₂:Shared} {st₁:St} (I:bt w h₁ os F own Z m st s) (I₁:bt w h₁ os F own' Z' m st₁ s₁) (S₁:Step own Z (s.heap.push o₀) own' Z' s₁.heap)
  (k:∀b o,b≠s.heap.objs.size→s₁.heap.get? b=some o→s₂.heap.get? b=some o) (ho:s₂.heap.get? s.heap.objs.size=some o) (hg:s₂.gens=s₁.gens) (hos:s₂.os=s₁.os) (hf:o₀.isFreed=false)
  (R:aA w (Mine.addZ Z' s.heap.objs.size o) v (.ref s.heap.objs.size)) (kk:K v st₁):PE w h₁ os F own Z m s.heap K (.ref s.heap.objs.size) s₂:=by
 have no:s.heap.get? s.heap.objs.size=none:=cD _ (Nat.le_refl _)
 have yes:=Heap.get?_push_size s.heap hf
 have f:own' s.heap.objs.size=none:=by
  cases q:own' s.heap.objs.size with
  |none=>rfl
  |some t=>
   rcases S₁.onew _ t q with e|⟨e,_⟩
   ·rw[I.free no] at e;exact nn e
   ·rw[yes] at e;cases e
 have z:Z' s.heap.objs.size=none:=by
  cases q:Z' s.heap.objs.size with
  |none=>rfl
  |some ob=>
   rcases S₁.znew _ ob q with e|e|⟨t,e⟩
   ·rw[I.zfree no] at e;exact nn e
   ·rw[yes] at e;cases e
   ·rw[I.free no] at e;exact nn e
 exact⟨_,_,_,_,(I₁.change f z k hg hos).addZ ho f z,(S₁.over k).addZ no z,R,kk⟩
theorem mw {o:Obj} (I:bt w h₁ os F own Z m st s):bt w h₁ os F own Z m st { s with heap:=s.heap.push o }:=I.grow (fun ξ ξ e=>Heap.get?_push_of_some o e) rfl rfl
theorem sH {n:Nat} (h:11≤n):((n:Addr) == sysModules)=false:=beq_eq_false_iff_ne.mpr fun e=>by subst e;exact absurd h (by decide)
theorem aV.size {h:Heap} (Fs:aV w h):11≤h.objs.size:=by
 have e:(lk (pu P0 w.params) (nat_lit 13)).isSome=true:=by kernel_rfl
 obtain⟨o,e⟩:=Option.isSome_iff_exists.mp e
 exact Nat.le_of_lt (Nat.lt_of_le_of_lt (by decide) (Heap.lt_size (Fs.at_ _ _ e)))
theorem BS {l:Mine.E} {ks:List (Option PySem.Expr)} {vs:List PySem.Expr} {pos:Pos} (Fa:aV w h₁) (h15:vs.length≤15) (hl:SD w h₁ os A F T call l ks vs) (h0:ks≠[]):SE w h₁ os A F T call (.dict l) (.Dict ks vs pos):=fun own Z m st s K I hc=>by
 dsimp only[ay] at hc
 have I₀:=mw (o:={ cls:=.type "dict",data:=.dict #[] }) I
 have hsys:=sH (I.facts Fa).size
 refine wpAny_Dict_any hl.1.1 hl.1.2 h0 (by rw[hl.1.2];exact h15) (wpAny_mono (wpAny_evalPairs_len (hl.2 _ _ _ _ _ _ pos I₀ hc)) (fun ps s₁ q=>?_) fun ξ ξ f=>f)
 refine bc fun G=>?_;obtain⟨hlen,own₁,Z₁,lv,st₁,I₁,S₁,R₁,k₁⟩:=q
 have hps:ps.length≤15:=by rw[hlen,pairTrees_length _ _ _ _ hl.1.1 hl.1.2,hl.1.2];exact h15
 have hD:=S₁.keep _ _ (I.free (cD _ (Nat.le_refl _))) (Heap.get?_push_size s.heap (o:={ cls:=.type "dict",data:=.dict #[] }) rfl)
 have zz:Z₁ s.heap.objs.size=none:=by
  cases q:Z₁ s.heap.objs.size with
  |none=>rfl
  |some ob=>
   rcases S₁.znew _ ob q with e|e|⟨t,e⟩
   ·rw[I.zfree (cD _ (Nat.le_refl _))] at e;exact nn e
   ·rw[Heap.get?_push_size _ rfl] at e;cases e
   ·rw[I.free (cD _ (Nat.le_refl _))] at e;exact nn e
 obtain⟨es,e,k₁⟩:=aT k₁
 refine G ?_;clear G;rcases k₁.1 with ⟨l,e1,e2⟩|⟨l,e1,e2⟩
 ·refine bc fun G=>?_;obtain⟨kvs,c1,c2,c3⟩:=wY R₁ e e1
  have D0:s₁.heap.DictOf (PySem.intKind P0 w) s.heap.objs.size []:=⟨_,#[],0,hD,⟨rfl,rfl,rfl⟩,rfl,fun e h=>absurd h (Array.not_mem_empty e),.nil,List.nodup_nil⟩
  refine G ?_;clear G;refine wpAny_storeAll ps kvs [] s₁ _ c1 D0 (by rw[c1.length,sizeLine_eq,List.length_nil];lia) fun h' hd hs=>?_
  rw[merged_nil_of_nodup _ (by rw[c3];exact e2)] at hd
  refine bc fun G=>?_;obtain⟨o,es',ep,q1,q2,q3,q4,q5⟩:=hd.mapOf
  refine G ?_;clear G;exact PE.over I I₁ S₁ (fun b o ne e=>hs.extBut b o ne e) q1 rfl rfl rfl (.dictI hsys (fO ..) ⟨q2,es',ep,q3,q4,q5⟩ (c2.mono (gN zz)) fun k=>li kvs k) k₁.2
 ·refine bc fun G=>?_;obtain⟨kvs,c1,c2,c3⟩:=xE R₁ e e1
  have D0:s₁.heap.DictOf (PySem.strKind P0 w) s.heap.objs.size []:=⟨_,#[],0,hD,⟨rfl,rfl,rfl⟩,rfl,fun e h=>absurd h (Array.not_mem_empty e),.nil,List.nodup_nil⟩
  refine G ?_;clear G;refine wpAny_storeAll ps kvs [] s₁ _ c1 D0 (by rw[c1.length,sizeLine_eq,List.length_nil];lia) fun h' hd hs=>?_
  rw[merged_nil_of_nodup _ (by rw[c3];exact List.pairwise_map.mpr (e2.imp fun ne h=>ne (by injection h with h;injection h)))] at hd
  refine bc fun G=>?_;obtain⟨o,es',ep,q1,q2,q3,q4,q5⟩:=hd.mapOf
  refine G ?_;clear G;exact PE.over I I₁ S₁ (fun b o ne e=>hs.extBut b o ne e) q1 rfl rfl rfl (.dictS hsys (fO ..) ⟨q2,es',ep,q3,q4,q5⟩ (c2.mono (gN zz)) fun k=>li kvs k) k₁.2
theorem v5 {pos:Pos} (Fa:aV w h₁):SE w h₁ os A F T call (.dict .nil) (.Dict [] [] pos):=fun own Z m st s K I hc=>by
 dsimp only[ay] at hc
 refine wpAny_Dict_empty (PE.made I rfl hc.2 (.dictS (kvs:=[]) (sH (I.facts Fa).size) (fO ..) ⟨⟨rfl,rfl,rfl⟩,#[],0,rfl,fun e h=>absurd h (Array.not_mem_empty e),fun ξ=>rfl⟩ .nil fun ξ=>rfl))
set_option tactic.hygienic true in
theorem bt.store (I:bt w h₁ os F own Z m st s) (FO:br c F) {i k:Nat} {l l₀:bB} {val:Value} (hy:F.ns[i]?=some (k,false)) (hi:st[i]?=some l₀) (_h0:∀m,l₀≠.inh m) (hl:∀m,l≠.inh m)
  (hn:s'.heap.Ns F.env.locals (fun x=>if x=bw k then some val else m x)) (hs:Heap.SameBut F.env.locals s.heap s'.heap)
  (L:∀m',m' (bw k)=some val→bI w F Z own s'.heap m' i (k,false) l) (g:s'.gens=s.gens) (o:s'.os=s.os):
  bt w h₁ os F own Z (fun x=>if x=bw k then some val else m x) (st.set i l) s'∧Step own Z s.heap own Z s'.heap:=by
 have hlt:i < st.length:=(List.getElem?_eq_some_iff.mp hi).1
 have kk:∀b o,b≠F.env.locals→s.heap.get? b=some o→s'.heap.get? b=some o:=fun b o ne e=>(hs.2 b ne).trans e
 have zne:∀b o,Z b=some o→b≠F.env.locals:=fun b o e q=>by rw[q,I.disj _ (by rw[I.tagL];exact(nn ·.symm))] at e;exact nn e
 have dom:∀b o,s.heap.get? b=some o→∃o',s'.heap.get? b=some o':=fun b o e=>by
  by_cases q:b=F.env.locals
  ·subst q;obtain⟨ob,_,_,e',_⟩:=hn;exact⟨ob,e'⟩
  ·exact⟨o,kk b o q e⟩
 refine⟨⟨fun b o e=>kk b o (zne b o e) (I.zin b o e),I.base,hn,I.tagL,I.disj,by rw[List.length_set];exact I.len,?_,g.trans I.gens,o.trans I.os,fun b q=>let ⟨o,e⟩:=I.odom b q;dom b o e,?_⟩,
  ⟨fun ξ ξ e=>e,fun ξ ξ e=>.inl e,fun ξ ξ e=>.inl e,fun ξ ξ e ξ=>e,fun b o e q=>kk b o (fun c=>by rw[c,I.tagL] at e;cases e) q,dom,fun b o e c q=>?_⟩⟩
 ·intro j x l' e1 e2
  by_cases cj:i=j
  ·subst cj
   rw[List.getElem?_set_self hlt] at e2
   cases e2
   rw[hy] at e1;cases e1
   exact L _ (if_pos rfl)
  ·rw[List.getElem?_set_ne cj] at e2
   have hne:bw x.1≠bw k:=fun q=>cj (FO.dist i j (k,false) x (by rw[← FO.ns];exact hy) (by rw[← FO.ns];exact e1) q.symm)
   have hh:∀v,aU F s.heap own m x v→aU F s'.heap own (fun x=>if x=bw k then some val else m x) x v:=fun v H=>by
    unfold aU at H ⊢
    split
    ·rename_i q
     rw[if_pos q] at H
     refine bc fun G=>?_;obtain⟨b,ob,q1,q2,q3,q4,q5⟩:=H
     refine G ?_;clear G;exact⟨b,ob,q1,q2,q3,kk _ _ q3 q4,q5⟩
    ·rename_i q
     rw[if_neg q] at H
     exact(if_neg hne).trans H
   have rr:∀t mo a,t≠0→bN w Z own s.heap t mo a→bN w Z own s'.heap t mo a:=fun t mo a ht R=>R.mono (fun ξ ξ e=>e) (fun ξ e=>e) fun b o e q=>kk b o (fun c=>by rw[c,I.tagL] at e;exact ht (Option.some.inj e).symm) q
   have L':=I.locs j x l' e1 e2
   cases L' with
   |un=>exact .un
   |v h r=>exact .v (hh _ h) r
   |own h r=>exact .own (hh _ h) (rr _ _ _ (by lia) r)
   |inh h r=>exact .inh (hh _ h) (rr _ _ _ (by lia) r)
 ·exact iM I.inh1 fun m q=>absurd q (hl m)
 ·refine kk b o (fun q=>?_) q
  subst q
  obtain⟨ob,es,ep,e1,e2,_⟩:=I.ns
  rw[e1] at q;cases q
  unfold i7 at c;rw[e2] at c;exact ff c
theorem jX {st:St} {i:Nat} {l:bB} {K:St→Prop} (h:bQ st i l K):∃l₀,st[i]?=some l₀∧(∀m,l₀≠.inh m)∧K (st.set i l):=by
 revert h
 unfold bQ
 cases st[i]? with
 |none=>exact False.elim
 |some l₀=>cases l₀ with
  |inh=>exact False.elim
  |_=>rw[gM];exact fun h=>⟨_,rfl,fun ξ=>(by intro zz;first|exact nn zz|exact nn zz.symm|exact ff zz|exact absurd zz List.not_mem_nil|cases zz),h⟩
inductive PN (w:World) (h₁:Heap) (os:OsState) (F:Fm) (own:ch) (Z:aI) (h:Heap) (K:St→Prop) (s':Shared):Prop
 |mk (own':ch) (Z':aI) (m':Str→Option Value) (st':St) (I:bt w h₁ os F own' Z' m' st' s') (S:Step own Z h own' Z' s'.heap) (k:K st')
theorem PN.after {h h':Heap} {K:St→Prop} (S:Step own Z h own' Z' h') (p:PN w h₁ os F own' Z' h' K s'):PN w h₁ os F own Z h K s':=
 by cases p with|mk a b c d e1 e2 e3=>exact⟨a,b,c,d,e1,S.trans e2,e3⟩
theorem sm (FO:br c F):(F.env.scope.kind == .class||(F.env.scope.kind == .module&&F.env.locals != F.env.globals))=false:=by rw[FO.kind];rfl
theorem gS {i:Nat} {x:Str} {v:V} {val:Value} {K:St→Prop} (FO:br c F) (hx:c.isP i x=true) (I:bt w h₁ os F own Z m st s) (R:aA w Z v val) (hc:bQ st i (.v v) K):
  wpAny (model P0 w) A (storeName F.env x val) (fun ξ s'=>PN w h₁ os F own Z s.heap K s') E s:=by
 refine bc fun G=>?_;obtain⟨k,e1,e2,e3,e4⟩:=rQ hx
 obtain⟨l₀,hi,h0,hk⟩:=jX hc
 subst e2
 unfold Cx.kind at e4
 rw[← FO.sc] at e4
 have hy:F.ns[i]?=some (k,false):=by rw[FO.ns];exact e1
 refine G ?_;clear G;refine wpAny_storeName_local e4 I.ns (fun h' hn hs=>?_) (sm FO)
 obtain⟨I',S'⟩:=I.store (s':={ s with heap:=h',toks:=s.toks+1 }) (l:=.v v) FO hy hi h0 (fun ξ q=>(by first|exact nn q|exact nn q.symm|exact ff q|exact absurd q List.not_mem_nil|cases q)) hn hs (fun m' e=>.v (by unfold aU;rw[if_neg (by exact Bool.false_ne_true)];exact e) R) rfl rfl
 exact⟨_,_,_,_,I',S',hk⟩
theorem m5 {i:Nat} {x:Str} {mo:MO} {a:Addr} {K:St→Prop} (FO:br c F) (hx:c.isP i x=true) (I:bt w h₁ os F own Z m st s) (R:bN w Z own s.heap (i+2) mo a) (hc:bQ st i (.own mo) K):
  wpAny (model P0 w) A (storeName F.env x (.ref a)) (fun ξ s'=>PN w h₁ os F own Z s.heap K s') E s:=by
 refine bc fun G=>?_;obtain⟨k,e1,e2,e3,e4⟩:=rQ hx
 obtain⟨l₀,hi,h0,hk⟩:=jX hc
 subst e2
 unfold Cx.kind at e4
 rw[← FO.sc] at e4
 have hy:F.ns[i]?=some (k,false):=by rw[FO.ns];exact e1
 refine G ?_;clear G;refine wpAny_storeName_local e4 I.ns (fun h' hn hs=>?_) (sm FO)
 obtain⟨I',S'⟩:=I.store (s':={ s with heap:=h',toks:=s.toks+1 }) (l:=.own mo) FO hy hi h0 (fun ξ q=>(by first|exact nn q|exact nn q.symm|exact ff q|exact absurd q List.not_mem_nil|cases q)) hn hs (fun m' e=>.own (by unfold aU;rw[if_neg (by exact Bool.false_ne_true)];exact e)
  (R.mono (fun ξ ξ e=>e) (fun ξ e=>e) fun b o e q=>(hs.2 b (fun c=>by rw[c,I.tagL] at e;cases e)).trans q)) rfl rfl
 exact⟨_,_,_,_,I',S',hk⟩
noncomputable def dF (c:Cx):List Nat→List PySem.Expr→Bool
 |[],es=>es.isEmpty
 |i::is,es=>match es with
  |[]=>false
  |e::r=>ba e (fun x=>c.isP i x)&&dF c is r
theorem jH {e:PySem.Expr} {f:Str→Bool} (h:ba e f=true):∃x p,e=.Name x p∧f x=true:=aF (P:=fun e=>∃x p,e=.Name x p∧f x=true) h fun x p h=>⟨x,p,rfl,h⟩
theorem jc {i:Nat} {is:List Nat} {es:List PySem.Expr} (h:dF c (i::is) es=true):∃x p r,es=.Name x p::r∧c.isP i x=true∧dF c is r=true:=by
 cases es with
 |nil=>exact ff h
 |cons e r=>
  have h:=Bool.and_eq_true_iff.mp h
  refine bc fun G=>?_;obtain⟨x,p,rfl,q⟩:=jH h.1
  refine G ?_;clear G;exact⟨x,p,r,rfl,q,h.2⟩
theorem j9 {es:List PySem.Expr} (h:dF c [] es=true):es=[]:=List.isEmpty_iff.mp h
theorem mX (FO:br c F):∀{is:List Nat} {es:List PySem.Expr} {vs:List V} {xs:List Value} {own:ch} {Z:aI} {m:Str→Option Value} {st:St} {s:Shared} {K:St→Prop},dF c is es=true→bt w h₁ os F own Z m st s→aH w Z vs xs→gp is vs st K→
  wpAny (model P0 w) A (assignInOrder ((assignEach es F.env).map (·.2)) xs) (fun ξ s'=>PN w h₁ os F own Z s.heap K s') E s
 |[],es,[],_,_,_,_,st,_,K,h,I,R,hc=>by
  have:=j9 h;subst this
  have hc:K st:=hc
  exact assignInOrder_nil ⟨_,_,_,_,I,Step.refl ..,hc⟩
 |[],es,v::vs,_,_,_,_,_,_,_,h,I,R,hc=>(show False from hc).elim
 |i::is,es,vs,xs,own,Z,m,st,s,K,h,I,R,hc=>by
  refine bc fun G=>?_;obtain⟨x,p,r,rfl,h1,h2⟩:=jc h
  refine G ?_;clear G;cases R with
  |nil=>exact(show False from hc).elim
  |cons R RL=>
   dsimp only[gp] at hc
   refine assignInOrder_cons ?_
   refine wpAny_mono (wpAny_assign_Name (gS FO h1 I R hc)) (fun ξ s₁ q=>?_) fun ξ ξ e=>e
   refine bc fun G=>?_;obtain⟨own₁,Z₁,m₁,st₁,I₁,S₁,k₁⟩:=q
   refine G ?_;clear G;exact wpAny_mono (mX FO h2 I₁ (RL.mono S₁.z) k₁) (fun ξ ξ p=>p.after S₁) fun ξ ξ e=>e
theorem mB {env:Env}:∀{is:List Nat} {es:List PySem.Expr},dF c is es=true→(assignEach es env).length=is.length∧(assignEach es env).findIdx? (·.1)=none
 |[],es,h=>by have:=j9 h;subst this;exact⟨rfl,rfl⟩
 |i::is,es,h=>by
  refine bc fun G=>?_;obtain⟨x,p,r,rfl,h1,h2⟩:=jc h
  obtain⟨a,b⟩:=mB (env:=env) h2
  refine G ?_;clear G;refine⟨by show(assignEach r env).length+1=_;rw[a];rfl,?_⟩
  show List.findIdx? (·.1) ((false,_)::assignEach r env)=none
  rw[List.findIdx?_cons,if_neg (by exact Bool.false_ne_true),b];rfl
theorem mq:∀{is:List Nat} {vs:List V} {st:St} {K:St→Prop},gp is vs st K→vs.length=is.length
 |[],[],st,K,h=>rfl
 |[],v::vs,st,K,h=>(show False from h).elim
 |i::is,[],st,K,h=>by exact(show False from h).elim
 |i::is,v::vs,st,K,h=>by
  dsimp only[gp] at h
  refine bc fun G=>?_;obtain⟨_,_,_,h⟩:=jX h
  refine G ?_;clear G;rw[List.length_cons,List.length_cons,mq h]
theorem mZ {is:List Nat} {es:List PySem.Expr} {k:Nat} {pos:Pos} {vs:List V} {x:Value} {K:St→Prop} (hh:A.handled=none) (FO:br c F) (hn:dF c is es=true) (I:bt w h₁ os F own Z m st s) (R:aA w Z (.tup vs) x) (hc:gp is vs st K):
  wpAny (model P0 w) A (assign (.Tuple es k pos) F.env x) (fun ξ s'=>PN w h₁ os F own Z s.heap K s') E s:=by
 refine bc fun G=>?_;obtain⟨a,xs,rfl,h1,r1⟩:=R.ofTup I.zin
 obtain⟨n1,n2⟩:=mB (env:=F.env) hn
 obtain⟨o,q1,q2,n,q3⟩:=h1
 refine G ?_;clear G;refine assign_Tuple_tuple (items:=⟨xs⟩) hh ⟨o,q1,q2,n,q3⟩ (by rw[n1,← mq hc,r1.len];rfl) n2 fun h' he=>?_
 have k:∀b o,s.heap.get? b=some o→h'.get? b=some o:=fun b o e=>he b o (Nat.ne_of_lt (Heap.lt_size e)) e
 have I':bt w h₁ os F own Z m st { s with heap:=h' }:=I.grow k rfl rfl
 exact wpAny_mono (mX FO hn I' r1 hc) (fun ξ ξ p=>p.after (Step.grow k)) fun ξ ξ e=>e
structure dR (w:World) (A:Around) (Z:aI) (I:Addr) (xs:List V) (fp wr:List Addr) (P:Nat→Value→Prop) (S:Nat→Heap→Prop):Prop where
 walks:Walks P0 w A I fp wr xs.length P S
 fp:∀b∈fp,b=I∨∃o,Z b=some o
 wr:∀b∈wr,b=I
 val:∀i v,P i v→∃vv,xs[i]?=some vv∧aA w Z vv v
 obj:∀i h,S i h→∃o n,h.get? I=some o∧o.cls=.type n∧["enumerate","zip","dict_itemiterator","dict_reverseitemiterator","odict_iterator","itertools.zip_longest","itertools.pairwise"].contains n=false
theorem dR.mono {I:Addr} {xs:List V} {fp wr:List Addr} {P:Nat→Value→Prop} {S:Nat→Heap→Prop} (X:dR w A Z I xs fp wr P S) (z:rM Z Z'):dR w A Z' I xs fp wr P S:=
 ⟨X.walks,fun b hb=>(X.fp b hb).imp id fun h=>h.imp fun ξ e=>z _ _ e,X.wr,fun i v p=>(X.val i v p).imp fun ξ h=>⟨h.1,h.2.mono z⟩,X.obj⟩
set_option tactic.hygienic true in
theorem zU {v:V} {x:Value} {xs:List V} {Q:Value→Shared→Prop} (hh:A.handled=none) (h:vD v=some xs) (R:aA w Z v x) (zi:pg Z s.heap)
  (q:∀o fp wr P S,dR w A Z s.heap.objs.size xs fp wr P S→S 0 (s.heap.push o)→Q (.ref s.heap.objs.size) { s with heap:=s.heap.push o }):wpAny (model P0 w) A (pyIter x) Q E s:=by
 unfold vD at h
 split at h
 ·rename_i l
  cases h
  cases R with
  |str _ t=>
   have go:∀(ty:String) (_:["enumerate","zip","dict_itemiterator","dict_reverseitemiterator","odict_iterator","itertools.zip_longest","itertools.pairwise"].contains ty=false)
     (_:Walks P0 w A s.heap.objs.size [s.heap.objs.size] [s.heap.objs.size] (sS l).cps.size (SignAt (sS l)) (fun i h=>h.IsStrIter s.heap.objs.size ty (sS l) t i)),
     Q (.ref s.heap.objs.size) { s with heap:=s.heap.push { cls:=.type ty,data:=.fields #[.str (sS l) t,.int 0 0] } }:=fun ty ht W=>by
    refine q _ [s.heap.objs.size] [s.heap.objs.size] (SignAt (sS l)) (fun i h=>h.IsStrIter s.heap.objs.size ty (sS l) t i) ⟨?_,fun b hb=>.inl (List.mem_singleton.mp hb),fun b hb=>List.mem_singleton.mp hb,fun i v p=>?_,fun i h st=>?_⟩ ⟨_,Heap.get?_push_size _ rfl,rfl,rfl⟩
    ·rw[List.length_map];exact W
    ·obtain⟨cc,u,e1,rfl⟩:=p
     refine⟨.str [cc],?_,.str _ _⟩
     rw[List.getElem?_map,← d0 l i]
     rw[show(Array.mk l)[i]?=some cc from e1];rfl
    ·obtain⟨o,e1,e2,_⟩:=st
     exact⟨o,ty,e1,e2,ht⟩
   cases ha:(sS l).cps.all (· < 128)
   ·exact wpAny_pyIter_wide ha (go _ (by decide) (Walks.strWide hh _ _ t))
   ·exact wpAny_pyIter_ascii ha (go _ (by decide) (Walks.strAscii hh _ _ t))
 ·rename_i l
  cases h
  obtain⟨a,vs,rfl,h1,r1⟩:=R.ofTup zi
  have ne:a≠s.heap.objs.size:=by obtain⟨o,e,_⟩:=h1;exact Nat.ne_of_lt (Heap.lt_size e)
  obtain⟨o,z1⟩:∃o,Z a=some o:=by cases R with|tup e _ _ _=>exact⟨_,e⟩
  refine wpAny_pyIter_tuple h1 (q _ [s.heap.objs.size,a] [s.heap.objs.size] (fun i v=>(Array.mk vs)[i]?=some v) (fun i h=>h.IsTupleIter s.heap.objs.size a i∧h.IsTuple a ⟨vs⟩) ⟨?_,fun b hb=>?_,fun b hb=>List.mem_singleton.mp hb,fun i v p=>?_,fun i h st=>?_⟩ ⟨⟨_,Heap.get?_push_size _ rfl,rfl,rfl⟩,h1.at fun o e=>Heap.get?_push_of_some _ e⟩)
  ·rw[r1.len];exact Walks.tuple hh _ a ne ⟨vs⟩
  ·rcases List.mem_cons.mp hb with e|hb
   ·exact .inl e
   ·exact .inr (by rw[List.mem_singleton.mp hb];exact⟨o,z1⟩)
  ·exact r1.back ((d0 vs i).symm.trans p)
  ·obtain⟨⟨o,e1,e2,_⟩,_⟩:=st
   exact⟨o,_,e1,e2,by decide⟩
 ·rename_i l
  cases h
  obtain⟨a,vs,rfl,h1,r1⟩:=R.ofList zi
  have ne:a≠s.heap.objs.size:=by obtain⟨o,e,_⟩:=h1;exact Nat.ne_of_lt (Heap.lt_size e)
  obtain⟨o,z1⟩:∃o,Z a=some o:=by cases R with|list e _ _ _=>exact⟨_,e⟩
  refine wpAny_pyIter_list h1 (q _ [s.heap.objs.size,a] [s.heap.objs.size] (fun i v=>(Array.mk vs)[i]?=some v) (fun i h=>h.IsListIter s.heap.objs.size a i∧h.IsList a ⟨vs⟩) ⟨?_,fun b hb=>?_,fun b hb=>List.mem_singleton.mp hb,fun i v p=>?_,fun i h st=>?_⟩ ⟨⟨_,Heap.get?_push_size _ rfl,rfl,rfl⟩,h1.at fun o e=>Heap.get?_push_of_some _ e⟩)
  ·rw[r1.len];exact Walks.list hh _ a ne ⟨vs⟩
  ·rcases List.mem_cons.mp hb with e|hb
   ·exact .inl e
   ·exact .inr (by rw[List.mem_singleton.mp hb];exact⟨o,z1⟩)
  ·exact r1.back ((d0 vs i).symm.trans p)
  ·obtain⟨⟨o,e1,e2,_⟩,_⟩:=st
   exact⟨o,_,e1,e2,by decide⟩
 ·exact nn h
theorem Step.fresh0 {h h':Heap} {a:Addr} (S:Step own Z h own' Z' h') (e:h'.get? a=Option.none):h.get? a=Option.none:=by
 cases q:h.get? a with
 |none=>rfl
 |some o=>obtain⟨o',e'⟩:=S.dom a o q;rw[e] at e';exact nn e'
inductive PI (w:World) (h₁:Heap) (os:OsState) (A:Around) (F:Fm) (own:ch) (Z:aI) (m:Str→Option Value) (h:Heap) (K:List V→St→Prop) (it:Value) (s₂:Shared):Prop
 |mk (I:Addr) (own':ch) (Z':aI) (st':St) (xs:List V) (fp wr:List Addr) (P:Nat→Value→Prop) (S:Nat→Heap→Prop) (s0:Shared) (e:it=.ref I) (I0:bt w h₁ os F own' Z' m st' s0) (S0:Step own Z h own' Z' s0.heap) (n:s0.heap.get? I=none) (kg:∀b o,s0.heap.get? b=some o→s₂.heap.get? b=some o)
   (he:∃o,s₂.heap.get? I=some o) (Iv:bt w h₁ os F own' Z' m st' s₂) (f:own' I=none) (z:Z' I=none) (X:dR w A Z' I xs fp wr P S) (hS:S 0 s₂.heap) (k:K xs st')
noncomputable def IT (w:World) (h₁:Heap) (os:OsState) (A:Around) (F:Fm) (T:fY) (call:aM) (rng:Bool) (c:Mine.E) (e:PySem.Expr):Prop:=
 ∀own Z m st s (K:List V→St→Prop),bt w h₁ os F own Z m st s→ay T call c st (fun x st=>eM (cond rng (eW x) (vD x)) fun xs=>K xs st)→
  wpAny (model P0 w) A (eval e F.env) (fun x s₁=>wpAny (model P0 w) A (pyIter x) (PI w h₁ os A F own Z m s.heap K) (fun ξ ξ=>False) s₁) (fun ξ ξ=>False) s
theorem yK {c:Mine.E} {e:PySem.Expr} (hh:A.handled=none) (ha:SE w h₁ os A F T call c e):IT w h₁ os A F T call false c e:=fun own Z m st s K I hc=>
 ha.use I hc fun own₁ Z₁ v₁ st₁ x₁ s₁ I₁ S₁ R₁ k₁=>by
  obtain⟨xs,e,k⟩:=aT k₁
  have no:=cD s₁.heap (Nat.le_refl _)
  refine zU hh e R₁ I₁.zin fun o fp wr P S X q=>⟨_,own₁,Z₁,st₁,xs,fp,wr,P,S,s₁,rfl,I₁,S₁,no,(fun ξ ξ e=>Heap.get?_push_of_some _ e),(by obtain⟨o,_,e,_⟩:=X.obj 0 _ q;exact⟨o,e⟩),mw I₁,I₁.free no,I₁.zfree no,X,q,k⟩
theorem AK {i:Int} {n:Nat} (e:i.toNat=n):Builtin.Range.rangeSize 0 i 1=(n:Int):=by
 rw[rangeSize_one]
 split<;>lia
theorem z6 {i:Int} {r:Addr} {t u v:Tok} {Q:Value→Shared→Prop} (hh:A.handled=none) (hr:IsRange s.heap r 0 i 1 t u v) (h0:0≤i) (hi:i.toNat≤bA)
  (q:∀o fp wr P S,dR w A Z s.heap.objs.size ((List.range i.toNat).map fun k=>.int (.ofNat k)) fp wr P S→S 0 (s.heap.push o)→Q (.ref s.heap.objs.size) { s with heap:=s.heap.push o }):wpAny (model P0 w) A (pyIter (.ref r)) Q E s:=by
 have hi':i.toNat≤1000000:=hi
 refine wpAny_pyIter_range hr (small_one (by decide) (by decide) (by lia) (by lia)) ?_
 refine q _ [s.heap.objs.size] [s.heap.objs.size] (fun j v=>j < i.toNat∧∃t,v=.int ((0:Int)+j * 1) t) (fun j h=>IsRangeIter h s.heap.objs.size (0+(j:Nat) * 1) ((i.toNat:Int) - (j:Nat)) 1)
  ⟨?_,fun b hb=>.inl (List.mem_singleton.mp hb),fun b hb=>List.mem_singleton.mp hb,fun j v p=>?_,fun j h st=>?_⟩ ?_
 ·have W:=Walks.range (prog:=P0) (w:=w) hh s.heap.objs.size 0 1 i.toNat
  rw[List.length_map,List.length_range]
  exact⟨W.sub,W.frame,fun j s Q E hj st hQ=>W.item j s Q E hj st fun v h' tk p=>hQ v h' tk ⟨hj,p⟩,W.done,W.self⟩
 ·obtain⟨hj,u,rfl⟩:=p
  refine⟨.int (.ofNat j),?_,?_⟩
  ·rw[List.getElem?_map,List.getElem?_range hj];rfl
  ·rw[show(0:Int)+j * 1=Int.ofNat j from by rw[Int.zero_add,Int.mul_one];rfl]
   exact .int _ _
 ·exact⟨_,_,st,rfl,by decide⟩
 ·rw[AK (n:=i.toNat) rfl]
  show Heap.get? _ _=_
  rw[Heap.get?_push_size _ rfl]
  congr 3
set_option tactic.hygienic true in
theorem E2 {c₀:Cx} {c:Mine.E} {f:Str} {p pos:Pos} {e:PySem.Expr} (hh:A.handled=none) (FO:br c₀ F) (Fa:aV w h₁) (hP:c₀.P=w.params) (hf:c₀.isB le f=true) (hs:∀x q,e≠.Starred x q) (ha:SE w h₁ os A F T call c e):
  IT w h₁ os A F T call true c (.Call (.Name f p) [e] [] pos):=fun own Z m st s K I hc=>by
 refine PyProof.Rows.Call_Name rfl (mh FO (I.facts Fa) hP hf (oo w.params).2.2.2.2 ?_)
 rw[cH hs]
 refine PySem.callWith_type1 (ha.use I hc fun own₁ Z₁ v₁ st₁ x₁ s₁ I₁ S₁ R₁ k₁=>?_)
 refine bc fun G=>?_;obtain⟨xs,e0,k⟩:=aT k₁
 have e:eW v₁=some xs:=e0
 clear e0
 unfold eW at e
 refine G ?_;clear G;split at e
 ·rename_i i
  split at e
  ·rename_i hi
   cases e
   cases R₁ with
   |int _ t=>
    refine call_range_1 ?_
    have I₂:bt w h₁ os F own₁ Z₁ m st₁ { s₁ with heap:=s₁.heap.push { cls:=.type "range",data:=.fields #[.int 0 s₁.toks,.int i t,.int 1 (s₁.toks+1)] },toks:=s₁.toks+1+1 }:=I₁.grow (fun ξ ξ e=>Heap.get?_push_of_some _ e) rfl rfl
    have S₂:Step own₁ Z₁ s₁.heap own₁ Z₁ (s₁.heap.push { cls:=.type "range",data:=.fields #[.int 0 s₁.toks,.int i t,.int 1 (s₁.toks+1)] }):=Step.grow fun ξ ξ e=>Heap.get?_push_of_some _ e
    have hr:=IsRange.new s₁.heap 0 i 1 s₁.toks t (s₁.toks+1)
    revert I₂ S₂ hr
    generalize (s₁.heap.push { cls:=.type "range",data:=.fields #[.int 0 s₁.toks,.int i t,.int 1 (s₁.toks+1)] }:Heap)=h2
    intro I₂ S₂ hr
    refine z6 (Z:=Z₁) (s:={ s₁ with heap:=h2,toks:=s₁.toks+1+1 }) hh hr hi.1 hi.2 fun o fp wr P S X q=>?_
    have no:=cD h2 (Nat.le_refl _)
    exact⟨_,own₁,Z₁,st₁,_,fp,wr,P,S,_,rfl,I₂,S₁.trans S₂,no,(fun ξ ξ e=>Heap.get?_push_of_some _ e),(by obtain⟨o,_,e,_⟩:=X.obj 0 _ q;exact⟨o,e⟩),mw I₂,I₂.free no,I₂.zfree no,X,q,k⟩
  ·exact nn e
 ·exact nn e
end
inductive KE (w:World) (Z:aI):Fl→Flow→Prop
 |nxt:KE w Z .nxt .next
 |brk:KE w Z .brk .brk
 |cnt:KE w Z .cnt .cont
 |ret {v x}:aA w Z v x→KE w Z (.ret v) (.ret x)
inductive PS (w:World) (h₁:Heap) (os:OsState) (F:Fm) (own:ch) (Z:aI) (h:Heap) (K:Fl→St→Prop) (f:Flow) (s':Shared):Prop
 |mk (own':ch) (Z':aI) (m':Str→Option Value) (st':St) (fl:Fl) (I:bt w h₁ os F own' Z' m' st' s') (S:Step own Z h own' Z' s'.heap) (R:KE w Z' fl f) (k:K fl st')
inductive KA (w:World) (h₁:Heap) (os:OsState) (A:Around) (F:Fm) (own:ch) (Z:aI) (h0:Heap) (I:Addr) (xs:List V) (fp wr:List Addr) (P:Nat→Value→Prop) (Sx:Nat→Heap→Prop) (C:List V→St→Prop) (n:Nat) (s:Shared):Prop
 |mk (i:Nat) (own':ch) (Z':aI) (m':Str→Option Value) (st':St) (hi:i≤xs.length) (hn:n=xs.length - i) (Iv:bt w h₁ os F own' Z' m' st' s) (Sv:Step own Z h0 own' Z' s.heap) (f:own' I=none) (z:Z' I=none) (he:∃o,s.heap.get? I=some o)
   (X:dR w A Z' I xs fp wr P Sx) (hS:Sx i s.heap) (hc:C (xs.drop i) st')
inductive O9 (w:World) (h₁:Heap) (os:OsState) (F:Fm) (own:ch) (Z:aI) (h0:Heap) (C:Nat→St→Prop) (n:Nat) (s:Shared):Prop
 |mk (own':ch) (Z':aI) (m':Str→Option Value) (st':St) (Iv:bt w h₁ os F own' Z' m' st' s) (Sv:Step own Z h0 own' Z' s.heap) (hc:C n st')
noncomputable def SS (w:World) (h₁:Heap) (os:OsState) (A:Around) (F:Fm) (awp:St→(Fl→St→Prop)→Prop) (t:Sem Flow):Prop:=
 ∀own Z m st s K,bt w h₁ os F own Z m st s→awp st K→wpAny (model P0 w) A t (PS w h₁ os F own Z s.heap K) (fun ξ ξ=>False) s
section
variable {w:World} {h₁:Heap} {os:OsState} {F:Fm} {own own':ch} {Z Z':aI} {m:Str→Option Value} {st:St} {s s':Shared} {A:Around} {E:Value→Shared→Prop} {c:Cx} {T:fY} {call:aM}
theorem PS.after {h h':Heap} {K:Fl→St→Prop} {f:Flow} (S:Step own Z h own' Z' h') (p:PS w h₁ os F own' Z' h' K f s'):PS w h₁ os F own Z h K f s':=
 by cases p with|mk a b c d e e1 e2 e3 e4=>exact⟨a,b,c,d,e,e1,S.trans e2,e3,e4⟩
theorem PN.next {h:Heap} {K:Fl→St→Prop} (p:PN w h₁ os F own Z h (K .nxt) s'):PS w h₁ os F own Z h K .next s':=
 by cases p with|mk a b c d e1 e2 e3=>exact⟨a,b,c,d,.nxt,e1,e2,.nxt,e3⟩
theorem Step.change {h h' h'':Heap} {D:Addr} (S:Step own Z h own' Z' h') (hD:h.get? D=none) (k:∀b o,b≠D→h'.get? b=some o→h''.get? b=some o):Step own Z h own' Z' h'':=by
 have ne:∀b o,h.get? b=some o→b≠D:=fun b o e q=>by rw[q,hD] at e;exact nn e
 exact⟨S.z,S.znew,S.onew,S.o01,fun b o e q=>k b o (ne b o q) (S.keep b o e q),fun b o e=>(S.dom b o e).imp fun o' e'=>k b o' (ne b o e) e',fun b o e c q=>k b o (ne b o q) (S.cell b o e c q)⟩
theorem Step.beside {h h':Heap} {D:Addr} {o:Obj} (S:Step own Z h own' Z' h') (f:own D=none) (z:Z D=none) (e:h.get? D=some o):own' D=none∧Z' D=none∧h'.get? D=some o:=by
 refine⟨?_,?_,S.keep _ _ f e⟩
 ·cases q:own' D with
  |none=>rfl
  |some t=>
   rcases S.onew _ t q with q'|⟨q',_⟩
   ·rw[f] at q';exact nn q'
   ·rw[e] at q';cases q'
 ·cases q:Z' D with
  |none=>rfl
  |some ob=>
   rcases S.znew _ ob q with q'|q'|⟨t,q'⟩
   ·rw[z] at q';exact nn q'
   ·rw[e] at q';cases q'
   ·rw[f] at q';exact nn q'
theorem dR.frame {I:Addr} {xs:List V} {fp wr:List Addr} {P:Nat→Value→Prop} {S:Nat→Heap→Prop} (X:dR w A Z I xs fp wr P S) {h h':Heap} {i:Nat} (hS:S i h) (kI:∀o,h.get? I=some o→h'.get? I=some o) (zi:pg Z h) (zi':pg Z h'):S i h':=
 X.walks.frame i h h' hS fun b hb o e=>by
  rcases X.fp b hb with rfl|⟨o',z⟩
  ·exact kI o e
  ·rw[zi b o' z] at e;cases e;exact zi' b _ z
noncomputable def kh (c:Cx) (is:List Nat) (e:PySem.Expr):Bool:=match is with
 |[i]=>ba e (fun x=>c.isP i x)
 |_=>j2 e fun es=>dF c is es
theorem sK {e:PySem.Expr} {f:List PySem.Expr→Bool} (h:j2 e f=true):∃es k p,e=.Tuple es k p∧f es=true:=j3 (P:=fun e=>∃es k p,e=.Tuple es k p∧f es=true) h fun es k p h=>⟨es,k,p,rfl,h⟩
set_option tactic.hygienic true in
theorem uU {is:List Nat} {e:PySem.Expr} {v:V} {x:Value} {K:St→Prop} (hh:A.handled=none) (FO:br c F) (ht:kh c is e=true) (I:bt w h₁ os F own Z m st s) (R:aA w Z v x) (hc:fF is v st K):
  wpAny (model P0 w) A (assign e F.env x) (fun ξ s'=>PN w h₁ os F own Z s.heap K s') E s:=by
 unfold kh at ht
 split at ht
 ·refine bc fun G=>?_;obtain⟨x,p,rfl,hx⟩:=jH ht
  refine G ?_;clear G;exact wpAny_assign_Name (gS FO hx I R hc)
 ·rename_i hne
  refine bc fun G=>?_;obtain⟨es,k,p,rfl,e2⟩:=sK ht
  unfold fF at hc
  refine G ?_;clear G;split at hc
  ·rename_i i;exact absurd rfl (hne i)
  ·refine bc fun G=>?_;obtain⟨vs,rfl,hc⟩:=di hc
   refine G ?_;clear G;exact mZ hh FO e2 I R hc
theorem vp {is:List Nat} {e:PySem.Expr} (ht:kh c is e=true):(∃x p,e=.Name x p)∨∃es k p,e=.Tuple es k p:=by
 unfold kh at ht
 split at ht
 ·obtain⟨x,p,rfl,hx⟩:=jH ht;exact .inl ⟨x,p,rfl⟩
 ·obtain⟨es,k,p,rfl,e2⟩:=sK ht
  exact .inr ⟨es,k,p,rfl⟩
theorem yX {e:PySem.Expr} {is:List Nat} {I:Addr} {x:Value} {o:Obj} {n:String} {Q:Unit→Shared→Prop} (ht:kh c is e=true) (h1:s.heap.get? I=some o) (h2:o.cls=.type n)
  (h3:["enumerate","zip","dict_itemiterator","dict_reverseitemiterator","odict_iterator","itertools.zip_longest","itertools.pairwise"].contains n=false) (q:Q () s):wpAny (model P0 w) A (letOwnedTupleGo e (.ref I) x) Q E s:=by
 rcases vp ht with ⟨_,_,rfl⟩|⟨es,k,p,rfl⟩
 ·exact wpAny_pure q
 ·unfold letOwnedTupleGo
  dsimp only
  cases x<;>first|exact wpAny_pure q|skip
  refine wpAny_bind (wpAny_load h1 ?_)
  obtain⟨cl,d,dt,sl⟩:=o
  dsimp only at h2
  subst h2
  cases dt<;>first|exact wpAny_pure q|skip
  dsimp only
  rw[h3]
  exact wpAny_pure q
set_option tactic.hygienic true in
theorem rI {B:V→St→(Fl→St→Prop)→Prop} {is:List Nat} {awp:St→(Fl→St→Prop)→Prop} {target:PySem.Expr} {body:List Stmt} {I:Addr} {h0:Heap} {xs:List V} {fp wr:List Addr} {P:Nat→Value→Prop} {Sx:Nat→Heap→Prop} {K:Fl→St→Prop} {R:Result→Shared→Prop}
  (hh:A.handled=none) (FO:br c F) (ht:kh c is target=true) (hB:∀x st K,B x st K→fF is x st fun st=>awp st K) (Hb:SS w h₁ os A F awp (execs body F.env))
  (hI:h0.get? I=none) (he:∃o,s.heap.get? I=some o) (Iv:bt w h₁ os F own' Z' m st s) (Sv:Step own Z h0 own' Z' s.heap) (f:own' I=none) (z:Z' I=none) (X:dR w A Z' I xs fp wr P Sx) (hS:Sx 0 s.heap) (hc:cQ B xs st K)
  (hR:∀fl s',PS w h₁ os F own Z h0 K fl s'→R (.ok fl) s'):codeAny (model P0 w) A (.forLoop target (.ref I) body [] F.env) R s:=by
 refine codeAny_forLoop_any (KA w h₁ os A F own Z h0 I xs fp wr P Sx fun ys st=>cQ B ys st K) ?_ xs.length
  ⟨0,own',Z',m,st,Nat.zero_le _,rfl,Iv,Sv,f,z,he,X,hS,hc⟩
 rintro n s ⟨i,own',Z',m',st',hi,rfl,Iv,Sv,f,z,⟨o,he⟩,X,hS,hc⟩
 by_cases hlt:i < xs.length
 ·refine X.walks.item i _ _ _ hlt hS fun v h' tk p hS' hk=>?_
  have kk:∀b o,b≠I→s.heap.get? b=some o→h'.get? b=some o:=fun b o ne e=>hk b o (fun hb=>ne (X.wr b hb)) e
  have Iv':bt w h₁ os F own' Z' m' st' { s with heap:=h',toks:=tk }:=Iv.change f z kk rfl rfl
  have Sv':=Sv.change hI kk
  refine bc fun G=>?_;obtain⟨vv,e1,R1⟩:=X.val i v p
  obtain⟨ob,nm,e2,e3,e4⟩:=X.obj _ _ hS'
  rw[List.drop_eq_getElem_cons hlt] at hc
  rw[List.getElem?_eq_getElem hlt] at e1
  refine G ?_;clear G;cases e1
  refine yX ht e2 e3 e4 ?_
  refine wpAny_mono (uU hh FO ht Iv' R1 (hB _ _ _ hc)) (fun ξ s₂ q=>?_) fun ξ ξ e=>e
  refine bc fun G=>?_;obtain⟨own₂,Z₂,m₂,st₂,I₂,S₂,k₂⟩:=q
  obtain⟨f₂,z₂,g₂⟩:=S₂.beside f z e2
  refine G ?_;clear G;refine wpAny_mono (Hb _ _ _ _ _ _ I₂ k₂) (fun fl s₃ q=>?_) fun ξ ξ e=>e.elim
  refine bc fun G=>?_;obtain⟨own₃,Z₃,m₃,st₃,fl',I₃,S₃,R₃,k₃⟩:=q
  obtain⟨f₃,z₃,g₃⟩:=S₃.beside f₂ z₂ g₂
  have S₄:=S₂.trans S₃
  have next:cQ B (xs.drop (i+1)) st₃ K→∃n',n' < xs.length - i∧KA w h₁ os A F own Z h0 I xs fp wr P Sx (fun ys st=>cQ B ys st K) n' s₃:=fun hc=>
   ⟨xs.length - (i+1),by omega,i+1,own₃,Z₃,m₃,st₃,hlt,rfl,I₃,Sv'.trans S₄,f₃,z₃,⟨ob,g₃⟩,X.mono S₄.z,X.frame hS' (fun o e=>by rw[e2] at e;cases e;exact g₃) Iv'.zin (fun b o e=>I₃.zin b o (S₄.z b o e)),hc⟩
  refine G ?_;clear G;cases R₃ with
  |nxt=>exact next k₃
  |cnt=>exact next k₃
  |brk=>exact hR _ _ ⟨_,_,_,_,.nxt,I₃,Sv'.trans S₄,.nxt,k₃⟩
  |ret r=>exact hR _ _ ⟨_,_,_,_,_,I₃,Sv'.trans S₄,.ret r,k₃⟩
 ·have hin:i=xs.length:=by omega
  subst hin
  refine X.walks.done _ _ _ hS fun h' tk hk=>wpAny_execs_nil ?_
  have kk:∀b o,b≠I→s.heap.get? b=some o→h'.get? b=some o:=fun b o ne e=>hk b o (fun hb=>ne (X.wr b hb)) e
  rw[List.drop_length] at hc
  exact hR _ _ ⟨_,_,_,_,.nxt,Iv.change f z kk rfl rfl,Sv.change hI kk,.nxt,hc⟩
theorem vU {rng:Bool} {cI:Mine.E} {is:List Nat} {B:V→St→(Fl→St→Prop)→Prop} {awp:St→(Fl→St→Prop)→Prop} {target iter:PySem.Expr} {body:List Stmt} {pos:Pos} (hh:A.handled=none) (FO:br c F) (ht:kh c is target=true)
  (hs:∀x,foldedSetIterable iter F.env x=pure x) (hB:∀x st K,B x st K→fF is x st fun st=>awp st K) (Hb:SS w h₁ os A F awp (execs body F.env)) (Hi:IT w h₁ os A F T call rng cI iter):
  SS w h₁ os A F (fun st K=>ay T call cI st fun x st=>eM (cond rng (eW x) (vD x)) fun xs=>cQ B xs st K) (exec (.For target iter body [] pos) F.env):=fun own Z m st s K I hc=>by
 refine wpAny_For (wpAny_mono (Hi _ _ _ _ _ _ I hc) (fun x s₁ q=>wpAny_mono q (fun it s₂ p=>?_) fun ξ ξ f=>f) fun ξ ξ f=>f) hs
 obtain⟨Ia,own',Z',st',xs,fp,wr,P,Sx,s0,rfl,_,Sv,hI,kg,he,Iv,f,z,X,hS,k⟩:=p
 exact rI hh FO ht hB Hb (Sv.fresh0 hI) he Iv (Sv.trans (Step.grow kg)) f z X hS k fun fl s' p=>p
theorem qC {C:St→(Bool→St→Prop)→Prop} {awp:St→(Fl→St→Prop)→Prop} {test:PySem.Expr} {body:List Stmt} {pos:Pos} {g:Nat}
  (Hc:∀own Z m st s (K:Bool→St→Prop),bt w h₁ os F own Z m st s→C st K→wpAny (model P0 w) A (isTrue test F.env (eval test F.env)) (PT w h₁ os F own Z m s.heap K) (fun ξ ξ=>False) s)
  (Hb:SS w h₁ os A F awp (execs body F.env)):SS w h₁ os A F (cY C awp g) (exec (.While test body [] pos) F.env):=fun own Z m st s K I hc=>by
 refine wpAny_While (codeAny_whileLoop (O9 w h₁ os F own Z s.heap fun n st=>cY C awp n st K) ?_ g ⟨own,Z,m,st,I,Step.refl ..,hc⟩)
 rintro n s' ⟨own',Z',m',st',I',S',hc⟩
 cases n with
 |zero=>exact(show False from hc).elim
 |succ n=>
  dsimp only[cY] at hc
  refine wpAny_mono (Hc _ _ _ _ _ _ I' hc) (fun b s₂ q=>?_) fun ξ ξ f=>f.elim
  refine bc fun G=>?_;obtain⟨own₂,Z₂,st₂,I₂,S₂,k₂⟩:=q
  refine G ?_;clear G;cases b with
  |false=>
   rw[if_neg (by exact Bool.false_ne_true)]
   exact wpAny_execs_nil ⟨_,_,_,_,.nxt,I₂,S'.trans S₂,.nxt,k₂⟩
  |true=>
   rw[if_pos rfl]
   refine wpAny_mono (Hb _ _ _ _ _ _ I₂ k₂) (fun fl s₃ q=>?_) fun ξ ξ f=>f.elim
   refine bc fun G=>?_;obtain⟨own₃,Z₃,m₃,st₃,fl',I₃,S₃,R₃,k₃⟩:=q
   have S₄:=S'.trans (S₂.trans S₃)
   refine G ?_;clear G;cases R₃ with
   |nxt=>exact⟨n,Nat.lt_succ_self n,_,_,_,_,I₃,S₄,k₃⟩
   |cnt=>exact⟨n,Nat.lt_succ_self n,_,_,_,_,I₃,S₄,k₃⟩
   |brk=>exact⟨_,_,_,_,.nxt,I₃,S₄,.nxt,k₃⟩
   |ret r=>exact⟨_,_,_,_,_,I₃,S₄,.ret r,k₃⟩
noncomputable def nj (F:Fm) (sc:Scope) (cl:List (Str×Addr)) (C:Addr) (ns:List (Nat×Bool)):Fm:=⟨compEnvC sc cl C F.env,ns,F.inh⟩
theorem i4 {α:Type} {a b c:α} {i:Nat} (h:[a,b][i]?=some c):(i=0∧c=a)∨(i=1∧c=b):=by
 cases i with
 |zero=>exact .inl ⟨rfl,(Option.some.inj h).symm⟩
 |succ i=>cases i with
  |zero=>exact .inr ⟨rfl,(Option.some.inj h).symm⟩
  |succ i=>exact nn h
theorem uR {sc:Scope} {cl:List (Str×Addr)} {C:Addr} {k:Nat} {fr:Option Nat} (FO:br c F) (h:dw c sc fr k=true) (hcl:∀i k,fr=some i→c.ns[i]?=some (k,true)→∃a,cl.lookup (bw k)=some a∧F.env.cells.lookup (bw k)=some a):br ⟨c.P,fg sc c.sc,bH c k fr⟩ (nj F sc cl C (bH c k fr)):=by
 unfold dw at h
 rw[Bool.and_eq_true,Bool.and_eq_true,Bool.and_eq_true,Bool.and_eq_true] at h
 refine bc fun G=>?_;obtain⟨⟨⟨⟨h1,h2⟩,h3⟩,h4⟩,h5⟩:=h
 refine G ?_;clear G;refine⟨?_,?_,rfl,FO.glob,FO.blt,?_,?_⟩
 ·show sc.kind=.function
  split at h1
  ·assumption
  ·exact ff h1
 ·show relabel sc F.env=fg sc c.sc
  unfold relabel fg Env.kindOf
  rw[FO.sc]
 ·intro i j x y e1 e2 e3
  unfold bH at e1 e2
  dsimp only at e1 e2
  cases fr with
  |none=>
   cases i with
   |zero=>cases j with
    |zero=>rfl
    |succ j=>exact nn e2
   |succ i=>exact nn e1
  |some f=>
   dsimp only at e1 e2 h5
   cases q:c.ns[f]? with
   |none=>rw[q] at h5;exact ff h5
   |some z=>
    rw[q] at e1 e2 h5
    simp only[Bool.and_eq_true,Bool.not_eq_true'] at h5
    have ne:bw z.1≠bw k:=fun q=>by
     have:=h5.1.1.2
     rw[ct,beq_eq_false_iff_ne] at this
     exact this (congrArg (fun s:Str=>s.cps.toList) q)
    rcases i4 e1 with ⟨rfl,rfl⟩|⟨rfl,rfl⟩<;>rcases i4 e2 with ⟨rfl,rfl⟩|⟨rfl,rfl⟩
    ·rfl
    ·exact absurd e3.symm ne
    ·exact absurd e3 ne
    ·rfl
 ·intro i kk e
  unfold bH at e
  dsimp only at e
  cases fr with
  |none=>
   cases i with
   |zero=>cases e
   |succ i=>exact nn e
  |some f=>
   dsimp only at e
   cases q:c.ns[f]? with
   |none=>
    rw[q] at e
    cases i with
    |zero=>cases e
    |succ i=>exact nn e
   |some z=>
    rw[q] at e
    rcases i4 e with ⟨_,e⟩|⟨_,rfl⟩
    ·cases e
    ·refine bc fun G=>?_;obtain⟨a,h,_⟩:=hcl f kk rfl q
     refine G ?_;clear G;exact⟨a,h⟩
theorem qh {sc:Scope} {env:Env} {n:Str} {a:Addr} (h:∀x∈sc.names,x.2=.free→x.1=n) (hc:env.cells.lookup n=some a):∃cl,closureFor sc env=pure cl∧(∀p∈cl,p=(n,a))∧((∃x∈sc.names,x.2=.free)→cl≠[]):=by
 unfold closureFor
 have main:∀(l:List (Str×NameKind)) (acc:List (Str×Addr)),(∀x∈l,x.2=.free→x.1=n)→(∀p∈acc,p=(n,a))→
   ∃cl,(forIn l acc fun (x:Str×NameKind) (cs:List (Str×Addr))=>(do if (x.2 == .free)=true then do let y ← cellOf env x.1;pure (ForInStep.yield ((x.1,y)::cs)) else pure (ForInStep.yield cs):Sem (ForInStep (List (Str×Addr)))))=pure cl∧(∀p∈cl,p=(n,a))∧(acc≠[]∨(∃x∈l,x.2=.free)→cl≠[]):=by
  intro l
  induction l with
  |nil=>intro acc _ ha;exact⟨acc,rfl,ha,fun q=>q.elim id fun h=>by obtain⟨x,hx,_⟩:=h;cases hx⟩
  |cons x l ih=>
   intro acc hl ha
   rw[List.forIn_cons]
   by_cases q:x.2=.free
   ·have e:(x.2 == NameKind.free)=true:=by rw[q];rfl
    have en:=hl x (List.mem_cons_self ..) q
    have ec:cellOf env x.1=pure a:=by unfold cellOf;rw[en,hc]
    rw[if_pos e,ec,pure_bind,pure_bind]
    refine bc fun G=>?_;obtain⟨cl,h1,h2,h3⟩:=ih ((x.1,a)::acc) (fun y hy=>hl y (List.mem_cons_of_mem _ hy)) (fun p hp=>by
     rcases List.mem_cons.mp hp with rfl|hp
     ·rw[en]
     ·exact ha p hp)
    refine G ?_;clear G;exact⟨cl,h1,h2,fun ξ=>h3 (.inl (List.cons_ne_nil _ _))⟩
   ·have e:¬(x.2 == NameKind.free)=true:=fun c=>q (eq_of_beq c)
    rw[if_neg e,pure_bind]
    refine bc fun G=>?_;obtain⟨cl,h1,h2,h3⟩:=ih acc (fun y hy=>hl y (List.mem_cons_of_mem _ hy)) ha
    refine G ?_;clear G;refine⟨cl,h1,h2,fun hq=>h3 (hq.imp id fun ⟨y,hy,fy⟩=>?_)⟩
    rcases List.mem_cons.mp hy with rfl|hy
    ·exact absurd fy q
    ·exact⟨y,hy,fy⟩
 refine bc fun G=>?_;obtain⟨cl,h1,h2,h3⟩:=main sc.names [] h (fun ξ hp=>absurd hp List.not_mem_nil)
 refine G ?_;clear G;refine⟨cl,?_,h2,fun q=>h3 (.inr q)⟩
 simp only[bind_pure] at h1 ⊢
 exact h1
theorem vf {a b c:bB} (h:cap a b=true) (h':cap b c=true):cap a c=true:=by
 cases a<;>cases b<;>first|((first|exact ff h|cases h);done)|skip
 all_goals cases c<;>first|rfl|(exact ff h';done)
theorem ef {a b:bB} {x y:St} (h:f6 (a::x) (b::y)=true):cap a b=true∧f6 x y=true:=Bool.and_eq_true_iff.mp h
theorem qW {a b c:St} (h:f6 a b=true) (h':f6 b c=true):f6 a c=true:=by
 induction a generalizing b c with
 |nil=>cases b with
  |nil=>exact h'
  |cons=>exact ff h
 |cons a x ih=>cases b with
  |nil=>exact ff h
  |cons b y=>cases c with
   |nil=>exact ff h'
   |cons c z=>exact Bool.and_eq_true_iff.mpr ⟨vf (ef h).1 (ef h').1,ih (ef h).2 (ef h').2⟩
structure sy (w:World) (h₁:Heap) (os:OsState) (Fc:Fm) (ownC:ch) (Z:aI) (h0:Heap) (D:Addr) (K:List V→St→Prop) (r:St) (s':Shared) (own':ch) (Z':aI) (m':Str→Option Value) (l0:bB) (r':St) (l:List V) (ys:List Value):Prop where
 inv:bt w h₁ os Fc own' Z' m' (l0::r') s'
 step:Step ownC Z h0 own' Z' s'.heap
 list:s'.heap.IsList D ⟨ys⟩
 rep:aH w Z' l ys
 own:own' D=none
 zone:Z' D=none
 post:K l r'
 cap:f6 r r'=true
inductive N7 (w:World) (h₁:Heap) (os:OsState) (A:Around) (Fc:Fm) (ownC:ch) (Z:aI) (h0:Heap) (Ia D:Addr) (xs:List V) (fp wr:List Addr) (P:Nat→Value→Prop) (Sx:Nat→Heap→Prop) (C:List V→List V→St→Prop) (r:St) (n:Nat) (s:Shared):Prop
 |mk (i:Nat) (own':ch) (Z':aI) (m':Str→Option Value) (l0:bB) (r':St) (l:List V) (ys:List Value) (hi:i≤xs.length) (hn:n=xs.length - i) (h00:∀m,l0≠.inh m) (f:own' Ia=none) (z:Z' Ia=none) (he:∃o,s.heap.get? Ia=some o)
   (X:dR w A Z' Ia xs fp wr P Sx) (hS:Sx i s.heap) (E:sy w h₁ os Fc ownC Z h0 D (C (xs.drop i)) r s own' Z' m' l0 r' l ys)
theorem qi {elt iter:PySem.Expr} {x:Str} {px pos:Pos} {scope:Scope} {celt:Mine.E} {Fc:Fm} {cc:Cx} {Ia D:Addr} {h0:Heap} {ownC:ch} {xs:List V} {fp wr:List Addr} {P:Nat→Value→Prop} {Sx:Nat→Heap→Prop} {K:List V→St→Prop} {R:Result→Shared→Prop} {l0:bB} {r:St}
  (FO:br cc Fc) (hx:cc.isP 0 x=true) (He:SE w h₁ os A Fc T call celt elt) (hI:h0.get? Ia=none) (hD:h0.get? D=none) (hID:Ia≠D) (eI:∃o,s.heap.get? Ia=some o) (eD:s.heap.IsList D ⟨[]⟩)
  (Iv:bt w h₁ os Fc ownC Z m (l0::r) s) (h00:∀m,l0≠.inh m) (Sv:Step ownC Z h0 ownC Z s.heap) (f:ownC Ia=none) (z:Z Ia=none) (fD:ownC D=none) (zD:Z D=none) (X:dR w A Z Ia xs fp wr P Sx) (hS:Sx 0 s.heap)
  (hr:f6 r r=true) (hc:j5 (fun x r K=>ay T call celt (.v x::r) fun y st'=>f6 (.v x::r) st'=true∧K y st'.tail) xs [] r K)
  (hR:∀s' own' Z' m' l0 r' l ys,sy w h₁ os Fc ownC Z h0 D K r s' own' Z' m' l0 r' l ys→R (.ok .next) s'):
  codeAny (model P0 w) A (.compLoop (.ListComp elt [⟨.Name x px,iter,[],0⟩] scope pos) 0 (.ref Ia) (.ref D) Fc.env) R s:=by
 refine codeAny_compLoop_list (N7 w h₁ os A Fc ownC Z h0 Ia D xs fp wr P Sx (fun zs l r'=>j5 (fun x r K=>ay T call celt (.v x::r) fun y st'=>f6 (.v x::r) st'=true∧K y st'.tail) zs l r' K) r) ?_ xs.length
  ⟨0,ownC,Z,m,l0,r,[],[],Nat.zero_le _,rfl,h00,f,z,eI,X,hS,⟨Iv,Sv,eD,.nil,fD,zD,hc,hr⟩⟩ (fun ξ=>rfl)
 rintro n s ⟨i,own',Z',m',l0,r',l,ys,hi,rfl,h00,f,z,⟨o,he⟩,X,hS,C⟩
 by_cases hlt:i < xs.length
 ·refine X.walks.item i _ _ _ hlt hS fun v h' tk p hS' hk=>?_
  have kk:∀b o,b≠Ia→s.heap.get? b=some o→h'.get? b=some o:=fun b o ne e=>hk b o (fun hb=>ne (X.wr b hb)) e
  have Iv':bt w h₁ os Fc own' Z' m' (l0::r') { s with heap:=h',toks:=tk }:=C.inv.change f z kk rfl rfl
  have Sv':=C.step.change hI kk
  refine bc fun G=>?_;obtain⟨od,q1,q2,q3⟩:=C.list
  have gD:=kk D od (Ne.symm hID) q1
  obtain⟨vv,e1,R1⟩:=X.val i v p
  obtain⟨ob,nm,e2,e3,e4⟩:=X.obj _ _ hS'
  have hc:=C.post
  rw[List.drop_eq_getElem_cons hlt] at hc
  rw[List.getElem?_eq_getElem hlt] at e1
  refine G ?_;clear G;cases e1
  dsimp only[j5] at hc
  obtain⟨hsz,hc⟩:=hc
  refine wpAny_assign_Name (wpAny_mono (gS (K:=fun st=>st=.v xs[i]::r') FO hx Iv' R1 ?_) (fun ξ s₂ q=>?_) fun ξ ξ e=>e)
  ·unfold bQ
   cases l0<;>first|rfl|exact absurd rfl (h00 _)
  refine bc fun G=>?_;obtain⟨own₂,Z₂,m₂,st₂,I₂,S₂,rfl⟩:=q
  obtain⟨f₂,z₂,g₂⟩:=S₂.beside f z e2
  obtain⟨fD₂,zD₂,gD₂⟩:=S₂.beside C.own C.zone gD
  refine G ?_;clear G;refine wpAny_mono (He.use I₂ hc fun own₃ Z₃ v₃ st₃ x₃ s₃ I₃ S₃ R₃ k₃=>?_) (fun ξ ξ q=>q) fun ξ ξ f=>f.elim
  refine bc fun G=>?_;obtain⟨f₃,z₃,g₃⟩:=S₃.beside f₂ z₂ g₂
  obtain⟨fD₃,zD₃,gD₃⟩:=S₃.beside fD₂ zD₂ gD₂
  have S₄:=S₂.trans S₃
  refine G ?_;clear G;refine wpAny_list_append (items:=⟨ys⟩) ⟨od,gD₃,q2,q3⟩ (fun h₄ hl hs=>?_) (by show ys.length≤sizeLine;rw[← C.rep.len];exact ey (Nat.le_of_lt hsz))
  have kD:∀b o,b≠D→s₃.heap.get? b=some o→h₄.get? b=some o:=fun b o ne e=>hs.extBut b o ne e
  obtain⟨kc,kp⟩:=k₃
  cases st₃ with
  |nil=>exact ff kc
  |cons l1 r₃=>
   have hl1:∀m,l1≠.inh m:=fun m q=>by subst q;exact ff kc
   exact⟨xs.length - (i+1),by omega,i+1,own₃,Z₃,m₂,l1,r₃,l++[v₃],ys++[x₃],hlt,rfl,hl1,f₃,z₃,⟨ob,kD _ _ hID g₃⟩,X.mono S₄.z,
    X.frame hS' (fun o e=>by rw[e2] at e;cases e;exact kD _ _ hID g₃) Iv'.zin (fun b o e=>kD b o (fun c=>by have e':=S₄.z b o e;rw[c,zD₃] at e';exact nn e') (I₃.zin b o (S₄.z b o e))),
    ⟨I₃.change fD₃ zD₃ kD rfl rfl,(Sv'.trans S₄).change hD kD,by simpa using hl,(C.rep.mono S₄.z).app (.cons R₃ .nil),fD₃,zD₃,kp,qW C.cap (by unfold f6 at kc;rw[Bool.and_eq_true] at kc;exact kc.2)⟩⟩
 ·have hin:i=xs.length:=by omega
  subst hin
  refine X.walks.done _ _ _ hS fun h' tk hk=>?_
  have kk:∀b o,b≠Ia→s.heap.get? b=some o→h'.get? b=some o:=fun b o ne e=>hk b o (fun hb=>ne (X.wr b hb)) e
  have hc:=C.post
  rw[List.drop_length] at hc
  refine bc fun G=>?_;obtain⟨od,q1,q2⟩:=C.list
  refine G ?_;clear G;exact hR _ own' Z' m' l0 r' l ys ⟨C.inv.change f z kk rfl rfl,C.step.change hI kk,⟨od,kk D od (Ne.symm hID) q1,q2⟩,C.rep,C.own,C.zone,hc,C.cap⟩
end
inductive uX (w:World) (Z:aI) (own:ch) (h:Heap) (a:Addr):bB→Value→Bool→Prop
 |v {v val}:aA w Z v val→uX w Z own h a (.v v) val false
 |inh {mo}:bN w Z own h 1 mo a→uX w Z own h a (.inh mo) (.ref a) true
inductive PV (w:World) (F:Fm) (Z:aI) (own:ch) (h:Heap) (st:St) (cl:List (Str×Addr)) (b1:Bool) (i:Nat) (l:bB) (a:Addr):Prop
 |mk (k:Nat) (o:Obj) (val:Value) (c1:cl.lookup (bw k)=some a) (ns:F.ns[i]?=some (k,true)) (c2:F.env.cells.lookup (bw k)=some a) (o0:own a=some 0) (ne:a≠F.env.locals) (ha:h.get? a=some o) (hd:o.data=.cell (some val)) (L:uX w Z own h F.inh l val b1) (hi:st[i]?=some l)
noncomputable def pL (w:World) (F:Fm) (Z:aI) (own:ch) (h:Heap) (st:St) (fr:Option Nat) (r:St) (cl:List (Str×Addr)) (ac:Option Addr) (b1:Bool):Prop:=match fr with
 |none=>r=[]∧ac=none∧b1=false
 |some i=>∃l a,r=[l]∧ac=some a∧PV w F Z own h st cl b1 i l a
noncomputable def ez (own:ch) (C:Addr) (ac:Option Addr) (b1:Bool):ch:=fun b=>if b=C then some 0 else if ac=some b then some 0 else if b1=true∧own b=some 1 then some 1 else none
section
variable {w:World} {h₁:Heap} {os:OsState} {F:Fm} {own own':ch} {Z Z':aI} {m:Str→Option Value} {st:St} {s s':Shared} {A:Around} {E:Value→Shared→Prop} {c:Cx} {T:fY} {call:aM}
theorem lJ {n:Str} {a:Addr}:∀{cl:List (Str×Addr)},(∀p∈cl,p=(n,a))→cl≠[]→cl.lookup n=some a
 |[],_,h=>absurd rfl h
 |p::r,h,_=>by
  have:=h p (List.mem_cons_self ..)
  subst this
  rw[List.lookup_cons,beq_self_eq_true]
theorem pv {sc:Scope} {k:Nat} {fr:Option Nat} (FO:br c F) (hsc:dw c sc fr k=true):∃cl,closureFor sc F.env=pure cl∧∀i k,fr=some i→c.ns[i]?=some (k,true)→∃a,cl.lookup (bw k)=some a∧F.env.cells.lookup (bw k)=some a:=by
 unfold dw at hsc
 rw[Bool.and_eq_true,Bool.and_eq_true,Bool.and_eq_true,Bool.and_eq_true] at hsc
 obtain⟨_,h5⟩:=hsc
 cases fr with
 |none=>
  refine⟨[],closureFor_none fun x hx q=>?_,fun i k e=>nn e⟩
  have:=List.all_eq_true.mp h5 x hx
  rw[q] at this;exact ff this
 |some i=>
  dsimp only at h5
  cases q:c.ns[i]? with
  |none=>rw[q] at h5;exact ff h5
  |some y=>
   obtain⟨ky,b⟩:=y
   rw[q] at h5
   simp only[Bool.and_eq_true] at h5
   refine bc fun G=>?_;obtain⟨⟨⟨b1,_⟩,b3⟩,b4⟩:=h5
   have b1:b=true:=b1
   subst b1
   obtain⟨a,e1⟩:=FO.cells i ky q
   obtain⟨cl,c1,c2,c3⟩:=qh (sc:=sc) (fun x hx fx=>by
    have:=List.all_eq_true.mp b4 x hx
    rw[fx] at this
    exact cC this) e1
   obtain⟨x,hx,fx⟩:=List.any_eq_true.mp b3
   have fx:x.2=.free:=by
    revert fx;unfold oi;split<;>intro q<;>first|assumption|exact ff q
   refine G ?_;clear G;refine⟨cl,c1,fun i' k' e q'=>?_⟩
   cases e
   rw[q] at q';cases q'
   exact⟨a,lJ c2 (c3 ⟨x,hx,fx⟩),e1⟩
theorem uZ {sc:Scope} {k:Nat} {fr:Option Nat} {r:St} (FO:br c F) (I:bt w h₁ os F own Z m st s) (hsc:dw c sc fr k=true) {cl:List (Str×Addr)} (hcl:∀i k,fr=some i→c.ns[i]?=some (k,true)→∃a,cl.lookup (bw k)=some a∧F.env.cells.lookup (bw k)=some a) (ht:yU fr st=some r) (hc:f6 r r=true):∃ac b1,pL w F Z own s.heap st fr r cl ac b1:=by
 unfold dw at hsc
 rw[Bool.and_eq_true,Bool.and_eq_true,Bool.and_eq_true,Bool.and_eq_true] at hsc
 obtain⟨_,h5⟩:=hsc
 cases fr with
 |none=>
  cases ht
  exact⟨none,false,rfl,rfl,rfl⟩
 |some i=>
  dsimp only at h5
  cases q:c.ns[i]? with
  |none=>rw[q] at h5;exact ff h5
  |some y=>
   obtain⟨ky,b⟩:=y
   rw[q] at h5
   simp only[Bool.and_eq_true] at h5
   refine bc fun G=>?_;obtain⟨⟨⟨b1,_⟩,b3⟩,b4⟩:=h5
   have b1:b=true:=b1
   subst b1
   obtain⟨l,hl,rfl⟩:=Option.map_eq_some_iff.mp ht
   have hy:F.ns[i]?=some (ky,true):=by rw[FO.ns];exact q
   have L:=I.locs i _ _ hy hl
   have fin:∀val,aU F s.heap own m (ky,true) val→∃a o,F.env.cells.lookup (bw ky)=some a∧own a=some 0∧a≠F.env.locals∧s.heap.get? a=some o∧o.data=.cell (some val)∧cl.lookup (bw ky)=some a:=fun val H=>by
    unfold aU at H
    rw[if_pos rfl] at H
    obtain⟨a,o,e1,e2,e3,e4,e5⟩:=H
    obtain⟨a',c1,c2⟩:=hcl i ky rfl q
    have e1:F.env.cells.lookup (bw ky)=some a:=e1
    rw[e1] at c2;cases c2
    exact⟨a,o,e1,e2,e3,e4,e5,c1⟩
   refine G ?_;clear G;cases L with
   |un=>exact ff hc
   |own=>exact ff hc
   |v H R=>
    refine bc fun G=>?_;obtain⟨a,o,e1,e2,e3,e4,e5,e7⟩:=fin _ H
    refine G ?_;clear G;exact⟨some a,false,_,a,rfl,rfl,⟨ky,o,_,e7,hy,e1,e2,e3,e4,e5,.v R,hl⟩⟩
   |inh H R=>
    refine bc fun G=>?_;obtain⟨a,o,e1,e2,e3,e4,e5,e7⟩:=fin _ H
    refine G ?_;clear G;exact⟨some a,true,_,a,rfl,rfl,⟨ky,o,_,e7,hy,e1,e2,e3,e4,e5,.inh R,hl⟩⟩
set_option tactic.hygienic true in
theorem eL {C:Addr} {ac:Option Addr} {b1:Bool} {b:Addr} {t:Nat} (h:ez own C ac b1 b=some t):(b=C∧t=0)∨(ac=some b∧t=0)∨(b1=true∧own b=some 1∧t=1):=by
 unfold ez at h
 split at h
 ·cases h;exact .inl ⟨by assumption,rfl⟩
 ·split at h
  ·cases h;exact .inr (.inl ⟨by assumption,rfl⟩)
  ·split at h
   ·rename_i q;cases h;exact .inr (.inr ⟨q.1,q.2,rfl⟩)
   ·exact nn h
theorem pL.cell {fr:Option Nat} {r:St} {cl:List (Str×Addr)} {ac:Option Addr} {b1:Bool} {h:Heap} (X:pL w F Z own h st fr r cl ac b1):∀a,ac=some a→own a=some 0∧a≠F.env.locals∧∃o,h.get? a=some o∧i7 o=true:=by
 intro a e
 cases fr with
 |none=>obtain⟨_,e',_⟩:=X;exact nn (e'.symm.trans e)
 |some i=>
  refine bc fun G=>?_
  obtain⟨l,a',_,e',Y⟩:=X
  cases Y with
  |mk k o val c1 ns c2 o0 ne ha hd=>
   refine G ?_
   obtain rfl:=Option.some.inj (e'.symm.trans e)
   exact⟨o0,ne,o,ha,by unfold i7;rw[hd]⟩
theorem uX.mono {l:bB} {val:Value} {b:Bool} {a:Addr} {h h':Heap} (L:uX w Z own h a l val b) (o1:b=true→∀x,own x=some 1→own' x=some 1) (k:∀b o,own b=some 1→h.get? b=some o→h'.get? b=some o):uX w Z own' h' a l val b:=by
 cases L with
 |v R=>exact .v R
 |inh R=>exact .inh (R.mono (fun ξ ξ e=>e) (o1 rfl) k)
theorem pL.keeps {fr:Option Nat} {r:St} {cl:List (Str×Addr)} {ac:Option Addr} {b1:Bool} {h h':Heap} (X:pL w F Z own h st fr r cl ac b1) (k:∀b o,h.get? b=some o→h'.get? b=some o):pL w F Z own h' st fr r cl ac b1:=by
 cases fr with
 |none=>exact X
 |some i=>
  obtain⟨l,a',e,e',Y⟩:=X
  cases Y with
  |mk k' o val c1 ns c2 o0 ne ha hd L hi=>exact⟨l,a',e,e',⟨k',o,val,c1,ns,c2,o0,ne,k _ _ ha,hd,L.mono (fun ξ ξ e=>e) (fun b o ξ q=>k b o q),hi⟩⟩
theorem jv {i k ky:Nat} (FO:br c F) (e:F.ns[i]?=some (ky,true)):bH c k (some i)=[(k,false),(ky,true)]:=by
 unfold bH;rw[FO.ns] at e;dsimp only;rw[e]
theorem zk {sc:Scope} {k:Nat} {fr:Option Nat} {r:St} {cl:List (Str×Addr)} {ac:Option Addr} {b1:Bool} {C:Addr} {mc:Str→Option Value} (FO:br c F) (I:bt w h₁ os F own Z m st s) (X:pL w F Z own s.heap st fr r cl ac b1) (hC:own C=none) (zC:Z C=none) (hn:s.heap.Ns C mc):
  bt w h₁ os (nj F sc cl C (bH c k fr)) (ez own C ac b1) Z mc (.un::r) s:=by
 have hCc:∀a,ac=some a→a≠C:=fun a e q=>by have:=(X.cell a e).1;rw[q,hC] at this;exact nn this
 have o1:b1=true→∀b,own b=some 1→ez own C ac b1 b=some 1:=fun hb b e=>by
  unfold ez
  rw[if_neg (fun q=>by rw[q,hC] at e;exact nn e),if_neg (fun q=>by have:=(X.cell b q).1;rw[e] at this;cases this),if_pos ⟨hb,e⟩]
 refine⟨I.zin,I.base,hn,if_pos rfl,fun b q=>?_,?_,?_,I.gens,I.os,fun b q=>?_,?_⟩
 ·cases e:ez own C ac b1 b with
  |none=>exact absurd e q
  |some t=>
   rcases eL e with ⟨rfl,_⟩|⟨e,_⟩|⟨_,e,_⟩
   ·exact zC
   ·exact I.disj b (by rw[(X.cell b e).1];exact(nn ·.symm))
   ·exact I.disj b (by rw[e];exact(nn ·.symm))
 ·cases fr with
  |none=>rw[X.1];rfl
  |some i=>
   obtain⟨l,a,rfl,_,Y⟩:=X
   cases Y with
   |mk ky o val c1 ns=>show 2=(bH c k (some i)).length;rw[jv FO ns];rfl
 ·intro j x l e1 e2
  cases fr with
  |none=>
   rw[X.1] at e2
   cases j with
   |zero=>cases e2;exact .un
   |succ j=>exact nn e2
  |some i=>
   obtain⟨l',a,rfl,rfl,Y⟩:=X
   cases Y with
   |mk ky o val c1 ns c2 o0 ne ha hd L hi=>
    rcases i4 e2 with ⟨rfl,rfl⟩|⟨rfl,rfl⟩
    ·exact .un
    ·have e1:(bH c k (some i))[1]?=some x:=e1
     rw[jv FO ns] at e1
     cases e1
     have H:aU (nj F sc cl C (bH c k (some i))) s.heap (ez own C (some a) b1) mc (ky,true) val:=by
      unfold aU;rw[if_pos rfl];exact⟨a,o,c1,by unfold ez;rw[if_neg (hCc _ rfl),if_pos rfl],hCc _ rfl,ha,hd⟩
     cases L with
     |v R=>exact .v H R
     |inh R=>exact .inh H (R.mono (fun ξ ξ e=>e) (o1 rfl) fun ξ ξ ξ q=>q)
 ·cases e:ez own C ac b1 b with
  |none=>exact absurd e q
  |some t=>
   rcases eL e with ⟨rfl,_⟩|⟨e,_⟩|⟨_,e,_⟩
   ·obtain⟨o,_,_,e,_⟩:=hn;exact⟨o,e⟩
   ·obtain⟨_,_,o,e,_⟩:=X.cell b e;exact⟨o,e⟩
   ·exact I.odom b (by rw[e];exact(nn ·.symm))
 ·intro i j m m' e1 e2
  have one:∀(i:Nat) (m:MO),(bB.un::r)[i]?=some (.inh m)→i=1:=fun i m e=>by
   cases fr with
   |none=>
    rw[X.1] at e
    cases i with
    |zero=>cases e
    |succ i=>exact nn e
   |some _=>
    obtain⟨l',a,rfl,_⟩:=X
    rcases i4 e with ⟨_,e⟩|⟨e,_⟩
    ·cases e
    ·exact e
  rw[one i m e1,one j m' e2]
theorem pW {a:bB} {r:St} (h:f6 [a] r=true):∃c',r=[c']∧cap a c'=true:=by
 cases r with
 |nil=>exact ff h
 |cons c' t=>cases t with
  |nil=>exact⟨c',rfl,(ef h).1⟩
  |cons=>exact ff (ef h).2
theorem vj {fr:Option Nat} {r:St}:(pQ fr st r).length=st.length:=by
 unfold pQ
 split
 ·rw[List.length_set]
 ·rfl
theorem uL {sc:Scope} {k:Nat} {fr:Option Nat} {r r':St} {cl:List (Str×Addr)} {ac:Option Addr} {b1:Bool} {C:Addr} {m':Str→Option Value} {l0:bB} (FO:br c F) (I:bt w h₁ os F own Z m st s) (X:pL w F Z own s.heap st fr r cl ac b1) (hC:s.heap.get? C=none)
  (Ic:bt w h₁ os (nj F sc cl C (bH c k fr)) own' Z' m' (l0::r') s') (S:Step (ez own C ac b1) Z s.heap own' Z' s'.heap) (hr:f6 r r'=true):
  bt w h₁ os F own Z' m (pQ fr st r') s'∧Step own Z s.heap own Z' s'.heap:=by
 have oC:=I.free hC
 have cno:∀b,b≠C→ac≠some b→(b1=true→own b≠some 1)→ez own C ac b1 b=none:=fun b h1 h2 h3=>by
  unfold ez;rw[if_neg h1,if_neg h2,if_neg (fun q=>h3 q.1 q.2)]
 have neC:∀b t,own b=some t→b≠C:=fun b t e q=>by rw[q,oC] at e;exact nn e
 have k0:∀b o,own b=some 0→s.heap.get? b=some o→s'.heap.get? b=some o:=fun b o e q=>by
  by_cases h:ac=some b
  ·refine bc fun G=>?_;obtain⟨_,_,o',e1,e2⟩:=X.cell b h
   rw[q] at e1;cases e1
   refine G ?_;clear G;exact S.cell b o (by unfold ez;rw[if_neg (neC b 0 e),if_pos h]) e2 q
  ·exact S.keep b o (cno b (neC b 0 e) h fun ξ=>by rw[e];decide) q
 have k2:∀b o t,own b=some t→t≠0→(b1=true→t≠1)→s.heap.get? b=some o→s'.heap.get? b=some o:=fun b o t e h1 h2 q=>
  S.keep b o (cno b (neC b t e) (fun h=>by have:=(X.cell b h).1;rw[e] at this;exact h1 (Option.some.inj this)) fun hb=>by rw[e];exact fun h=>h2 hb (Option.some.inj h)) q
 have kn:∀b o,own b=none→s.heap.get? b=some o→s'.heap.get? b=some o:=fun b o e q=>
  S.keep b o (cno b (fun h=>by rw[h,hC] at q;exact nn q) (fun h=>by have:=(X.cell b h).1;rw[e] at this;exact nn this) fun ξ=>by rw[e];exact(nn ·)) q
 have zn:∀b o,Z' b=some o→Z b=some o∨s.heap.get? b=none:=fun b o e=>by
  rcases S.znew b o e with q|q|⟨t,q⟩
  ·exact .inl q
  ·exact .inr q
  ·rcases eL q with ⟨_,q⟩|⟨_,q⟩|⟨_,_,q⟩<;>lia
 have hh:∀y v,aU F s.heap own m y v→aU F s'.heap own m y v:=fun y v H=>H.mono (fun ξ e=>e) fun b o e ξ q=>k0 b o e q
 have other:∀j x l,F.ns[j]?=some x→st[j]?=some l→(∀i,fr=some i→b1=true→j≠i)→bI w F Z' own s'.heap m j x l:=fun j x l e1 e2 hj=>by
  have L:=I.locs j x l e1 e2
  cases L with
  |un=>exact .un
  |v H R=>exact .v (hh _ _ H) (R.mono S.z)
  |own H R=>exact .own (hh _ _ H) (R.mono S.z (fun ξ e=>e) fun b o e q=>k2 b o _ e (by lia) (fun ξ=>by lia) q)
  |inh H R=>
   refine .inh (hh _ _ H) (R.mono S.z (fun ξ e=>e) fun b o e q=>k2 b o _ e (by decide) (fun hb=>?_) q)
   exfalso
   cases fr with
   |none=>exact ff (X.2.2.symm.trans hb)
   |some i=>
    obtain⟨l',a,_,_,Y⟩:=X
    cases Y with
    |mk ky o val c1 ns c2 o0 ne ha hd L hi=>cases L with
     |v=>exact ff hb
     |inh=>exact hj i rfl rfl (I.inh1 _ _ _ _ e2 hi)
 have locs:∀j x l,F.ns[j]?=some x→(pQ fr st r')[j]?=some l→bI w F Z' own s'.heap m j x l:=by
  clear cno k0 k2 kn zn neC oC hh hC
  intro j x l e1 e2
  cases fr with
  |none=>exact other j x l e1 e2 fun ξ q=>nn q
  |some i=>
   obtain⟨l',a,rfl,rfl,Y⟩:=X
   obtain⟨c',rfl,hc'⟩:=pW hr
   have e2:(st.set i c')[j]?=some l:=e2
   by_cases cj:i=j
   ·subst cj
    cases Y with
    |mk ky o val c1 ns c2 o0 ne ha hd L hi=>
     have hlt:i < st.length:=(List.getElem?_eq_some_iff.mp hi).1
     rw[List.getElem?_set_self hlt] at e2
     cases e2
     rw[ns] at e1;cases e1
     have L':=Ic.locs 1 (ky,true) l (by show(bH c k (some i))[1]?=_;rw[jv FO ns];rfl) rfl
     have cv:∀val,aU (nj F sc cl C (bH c k (some i))) s'.heap own' m' (ky,true) val→aU F s'.heap own m (ky,true) val:=fun val H=>by
      unfold aU at H ⊢
      rw[if_pos rfl] at H ⊢
      obtain⟨a',o',q1,q2,q3,q4,q5⟩:=H
      have q1:cl.lookup (bw ky)=some a':=q1
      rw[c1] at q1;cases q1
      exact⟨_,o',c2,o0,ne,q4,q5⟩
     clear L
     cases L' with
     |un=>exact .un
     |v H R'=>exact .v (cv _ H) R'
     |own=>cases l'<;>exact ff hc'
     |inh H R'=>
      refine .inh (cv _ H) (R'.mono (fun ξ ξ e=>e) (fun b' e'=>?_) fun ξ ξ ξ q=>q)
      rcases S.onew _ _ e' with e'|⟨_,u,e'⟩
      ·rcases eL e' with ⟨_,q⟩|⟨_,q⟩|⟨_,q,_⟩
       ·cases q
       ·cases q
       ·exact q
      ·lia
   ·rw[List.getElem?_set_ne cj] at e2
    exact other j x l e1 e2 fun i hi ξ=>by cases hi;exact cj∘Eq.symm
 refine⟨⟨Ic.zin,Ic.base,?_,I.tagL,fun b q=>?_,by rw[vj];exact I.len,locs,Ic.gens,Ic.os,fun b q=>(I.odom b q).elim fun o e=>S.dom b o e,?_⟩,
  ⟨S.z,fun b o e=>(zn b o e).imp id .inl,fun ξ ξ e=>.inl e,fun ξ ξ e ξ=>e,kn,S.dom,fun b o e ξ q=>k0 b o e q⟩⟩
 ·refine bc fun G=>?_;obtain⟨o,es,ep,e1,e2⟩:=I.ns
  refine G ?_;clear G;exact⟨o,es,ep,k0 _ _ I.tagL e1,e2⟩
 ·cases e:Z' b with
  |none=>rfl
  |some o=>
   rcases zn b o e with e|e
   ·rw[I.disj b q] at e;exact nn e
   ·obtain⟨o',e'⟩:=I.odom b q;rw[e] at e';exact nn e'
 ·cases fr with
  |none=>exact I.inh1
  |some i=>
   obtain⟨l',a,rfl,_,Y⟩:=X
   obtain⟨c',rfl,hc'⟩:=pW hr
   refine iM I.inh1 fun mo e=>?_
   subst e
   cases Y with
   |mk ky o val c1 ns c2 o0 ne ha hd L hi=>cases L with
    |v=>exact ff hc'
    |inh=>exact⟨_,hi⟩
theorem iX {e:PySem.Expr} {env:Env} (h:jO e=true):∀x,foldedSetIterable e env x=pure x:=fun x=>by
 unfold foldedSetIterable
 cases e<;>first|rfl|exact ff h
structure lG (w:World) (h₁:Heap) (os:OsState) (F:Fm) (own:ch) (Z:aI) (m:Str→Option Value) (h:Heap) (K:V→St→Prop) (D C:Addr) (s':Shared) (own':ch) (Z':aI) (st':St) (l:List V) (ys:List Value):Prop where
 inv:bt w h₁ os F own' Z' m st' s'
 step:Step own Z h own' Z' s'.heap
 ownD:own' D=none
 zoneD:Z' D=none
 ownC:own' C=none
 zoneC:Z' C=none
 newD:h.get? D=none
 newC:h.get? C=none
 ne:D≠C
 list:s'.heap.IsList D ⟨ys⟩
 rep:aH w Z' l ys
 ns:∃mC,s'.heap.Ns C mC
 post:K (.list l) st'
theorem nG {elt iter:PySem.Expr} {x:Str} {px pos:Pos} {scope:Scope} {k:Nat} {fr:Option Nat} {rng:Bool} {celt citer:Mine.E} {cl:List (Str×Addr)} {RR:Value→Addr→Result→Shared→Prop} {K:V→St→Prop}
  (hh:A.handled=none) (FO:br c F) (hx:Cx.isP ⟨c.P,fg scope c.sc,bH c k fr⟩ 0 x=true) (hsc:dw c scope fr k=true) (hcl:∀i k,fr=some i→c.ns[i]?=some (k,true)→∃a,cl.lookup (bw k)=some a∧F.env.cells.lookup (bw k)=some a)
  (Hi:IT w h₁ os A F T call rng citer iter) (He:∀F',br ⟨c.P,fg scope c.sc,bH c k fr⟩ F'→SE w h₁ os A F' T call celt elt)
  (I:bt w h₁ os F own Z m st s) (hc:ay T call (.comp k fr rng celt citer) st K)
  (hRR:∀D C s' own' Z' st' l ys,lG w h₁ os F own Z m s.heap K D C s' own' Z' st' l ys→RR (.ref D) C (.ok .next) s'):
  wpAny (model P0 w) A (eval iter F.env) (fun xv s₁=>wpAny (model P0 w) A (pyIter xv) (fun it s₂=>wpAny (model P0 w) A (newList []) (fun acc s₃=>wpAny (model P0 w) A (newFunctionEnv scope F.env.globals cl [] F.env.qual none .none (some F.env)) (fun cenv s₄=>
   codeAny (model P0 w) A (.compStart (.ListComp elt [⟨.Name x px,iter,[],0⟩] scope pos) 0 it acc { cenv with scope:=relabel scope F.env }) (RR acc cenv.locals) s₄) E s₃) E s₂) E s₁) E s:=by
 have hsc':=hsc
 unfold dw at hsc'
 rw[Bool.and_eq_true,Bool.and_eq_true,Bool.and_eq_true,Bool.and_eq_true] at hsc'
 refine bc fun G=>?_;obtain⟨⟨⟨⟨h1,h2⟩,h3⟩,h4⟩,_⟩:=hsc'
 have hkind:scope.kind=.function:=by
  split at h1
  ·assumption
  ·exact ff h1
 have hcell:∀x∈scope.names,x.2≠.cell:=fun x hx q=>by
  have:=List.all_eq_true.mp h2 x hx
  rw[q] at this;exact ff this
 dsimp only[ay] at hc
 refine G ?_;clear G;refine wpAny_mono (Hi _ _ _ _ _ _ I hc) (fun xv s₁ q=>wpAny_mono q (fun it s₂ p=>?_) fun ξ ξ f=>f.elim) fun ξ ξ f=>f.elim
 refine bc fun G=>?_;obtain⟨Ia,own₁,Z₁,st₁,xs,fp,wr,P,Sx,s0,rfl,I0,S0,nI,kg,eI,I₂,f,z,X,hS,kk⟩:=p
 obtain⟨r,er,hcap,hloop⟩:=aT kk
 obtain⟨ac,b1,CD⟩:=uZ FO I0 hsc hcl er hcap
 obtain⟨oI,eI⟩:=eI
 refine G ?_;clear G;refine wpAny_newObj_type (wpAny_newFunctionEnv hcell (fun ξ h=>absurd h List.not_mem_nil) (fun h₄ hns hsb=>?_) hkind)
 dsimp only at hns hsb ⊢
 have hDsz:s₂.heap.get? s₂.heap.objs.size=none:=cD _ (Nat.le_refl _)
 have hsz:(s₂.heap.push ({ cls:=.type "list",data:=.seq ([]:List Value).toArray }:Obj)).objs.size=s₂.heap.objs.size+1:=Heap.size_push ..
 have hCsz:s₂.heap.get? (s₂.heap.push ({ cls:=.type "list",data:=.seq ([]:List Value).toArray }:Obj)).objs.size=none:=cD _ (by rw[hsz];exact Nat.le_succ _)
 have hDC:s₂.heap.objs.size≠(s₂.heap.push ({ cls:=.type "list",data:=.seq ([]:List Value).toArray }:Obj)).objs.size:=by rw[hsz];exact Nat.ne_of_lt (Nat.lt_succ_self _)
 have k4:∀b o,(s₂.heap.push ({ cls:=.type "list",data:=.seq ([]:List Value).toArray }:Obj)).get? b=some o→h₄.get? b=some o:=fun b o e=>hsb.extBut b o (Nat.ne_of_lt (Heap.lt_size e)) (Heap.get?_push_of_some _ e)
 have gD:=k4 _ _ (Heap.get?_push_size s₂.heap (o:=({ cls:=.type "list",data:=.seq ([]:List Value).toArray }:Obj)) rfl)
 have k24:∀b o,s₂.heap.get? b=some o→h₄.get? b=some o:=fun b o e=>k4 b o (Heap.get?_push_of_some _ e)
 revert hns hDC hCsz gD
 generalize (s₂.heap.push ({ cls:=.type "list",data:=.seq ([]:List Value).toArray }:Obj)).objs.size=C
 generalize s₂.heap.objs.size=D at hDsz
 intro hns hCsz hDC gD
 clear hsz hsb k4
 have no0:∀b,s₂.heap.get? b=none→s0.heap.get? b=none:=fun b e=>by
  cases q:s0.heap.get? b with
  |none=>rfl
  |some o=>rw[kg b o q] at e;cases e
 have nS:∀b,s₂.heap.get? b=none→s.heap.get? b=none:=fun b e=>S0.fresh0 (no0 b e)
 have hID:Ia≠D:=fun q=>by subst q;rw[eI] at hDsz;cases hDsz
 have I₄:bt w h₁ os F own₁ Z₁ m st₁ { s₂ with heap:=h₄,toks:=s₂.toks+([]:List (Str×Value)).length }:=I₂.grow k24 rfl rfl
 have CD₄:=CD.keeps (h':=h₄) fun b o e=>k24 b o (kg b o e)
 have Ic:=zk (sc:=scope) (k:=k) FO I₄ CD₄ (I₂.free hCsz) (I₂.zfree hCsz) hns
 have FOc:=uR (C:=C) FO hsc hcl
 have oO:∀b,b≠C→own₁ b=none→ez own₁ C ac b1 b=none:=fun b h1 h2=>by
  unfold ez
  rw[if_neg h1,if_neg (fun q=>by have:=(CD.cell b q).1;rw[h2] at this;exact nn this),if_neg (fun q=>by rw[h2] at q;cases q.2)]
 have hIC:Ia≠C:=fun q=>by subst q;rw[eI] at hCsz;cases hCsz
 have loop:codeAny (model P0 w) A (.compLoop (.ListComp elt [⟨.Name x px,iter,[],0⟩] scope pos) 0 (.ref Ia) (.ref D) (nj F scope cl C (bH c k fr)).env) (RR (.ref D) C) { s₂ with heap:=h₄,toks:=s₂.toks+([]:List (Str×Value)).length }:=by
  refine qi (h0:=s0.heap) FOc hx (He _ FOc) nI (no0 _ hDsz) hID ⟨oI,k24 _ _ eI⟩ ⟨_,gD,rfl,_,rfl⟩ Ic (fun ξ q=>(by first|exact nn q|exact nn q.symm|exact ff q|exact absurd q List.not_mem_nil|cases q)) (Step.grow fun b o e=>k24 b o (kg b o e)) (oO Ia hIC f) z (oO D hDC (I₂.free hDsz)) (I₂.zfree hDsz) X
   (X.frame hS (fun o e=>k24 _ _ e) I₂.zin I₄.zin) hcap hloop fun s' own' Z' m' l0 r' l ys CE=>?_
  obtain⟨I5,S5⟩:=uL FO I0 CD (no0 _ hCsz) CE.inv CE.step CE.cap
  have zC:Z' C=none:=CE.inv.disj C (by have tl:own' C=some 0:=CE.inv.tagL;rw[tl];exact(nn ·.symm))
  exact hRR D C s' own₁ Z' _ l ys ⟨I5,S0.trans S5,I₂.free hDsz,CE.zone,I₂.free hCsz,zC,nS _ hDsz,nS _ hCsz,hDC,CE.list,CE.rep,⟨m',CE.inv.ns⟩,CE.post⟩
 exact codeAny_compStart_list loop (X.walks.self 0 _ _ _ (X.frame hS (fun o e=>k24 _ _ e) I₂.zin I₄.zin) loop)
theorem lG.fin {K:V→St→Prop} {D C:Addr} {st':St} {l:List V} {ys:List Value} {h':Heap} {t:Nat} (X:lG w h₁ os F own Z m s.heap K D C s' own' Z' st' l ys) (hs:Heap.SameBut C s'.heap h'):
  PE w h₁ os F own Z m s.heap K (.ref D) { s' with heap:=h',toks:=t }:=by
 refine bc fun G=>?_;obtain⟨od,q1,q2,n,q3⟩:=X.list
 have kk:∀b o,b≠C→s'.heap.get? b=some o→h'.get? b=some o:=fun b o ne e=>hs.extBut b o ne e
 have I':bt w h₁ os F own' Z' m st' { s' with heap:=h',toks:=t }:=X.inv.change X.ownC X.zoneC kk rfl rfl
 have S':=X.step.change X.newC kk
 refine G ?_;clear G;exact⟨own',addZ Z' D od,.list l,st',I'.addZ (kk D od X.ne q1) X.ownD X.zoneD,S'.addZ X.newD X.zoneD,.list (fO ..) q2 q3 (X.rep.mono (gN X.zoneD)),X.post⟩
theorem BD {elt iter:PySem.Expr} {x:Str} {px pos:Pos} {scope:Scope} {k:Nat} {fr:Option Nat} {rng:Bool} {celt citer:Mine.E}
  (hh:A.handled=none) (FO:br c F) (hx:Cx.isP ⟨c.P,fg scope c.sc,bH c k fr⟩ 0 x=true) (hsc:dw c scope fr k=true) (hns:jO iter=true)
  (Hi:IT w h₁ os A F T call rng citer iter) (He:∀F',br ⟨c.P,fg scope c.sc,bH c k fr⟩ F'→SE w h₁ os A F' T call celt elt):SE w h₁ os A F T call (.comp k fr rng celt citer) (.ListComp elt [⟨.Name x px,iter,[],0⟩] scope pos):=fun own Z m st s K I hc=>by
 refine bc fun G=>?_;obtain⟨cl,hclo,hcl⟩:=pv FO hsc
 have hsc':=hsc
 unfold dw at hsc'
 rw[Bool.and_eq_true,Bool.and_eq_true,Bool.and_eq_true,Bool.and_eq_true] at hsc'
 obtain⟨⟨⟨⟨h1,h2⟩,h3⟩,h4⟩,_⟩:=hsc'
 have hkind:scope.kind=.function:=by
  split at h1
  ·assumption
  ·exact ff h1
 refine G ?_;clear G;rw[eval_ListComp]
 refine wpAny_comprehension_free (use:=none) rfl (iX hns) hclo hkind (fun x hx q=>?_) (nG (RR:=fun acc C=>compPost (model P0 w) A (fun ξ ξ=>False) none (PE w h₁ os F own Z m s.heap K) acc C) hh FO hx hsc hcl Hi He I hc fun D C s' own' Z' st' l ys X=>?_)
 ·have:=List.all_eq_true.mp h3 x hx
  rw[q] at this
  exact dx this
 ·obtain⟨mC,hn⟩:=X.ns
  exact⟨mC,hn,fun h' hs=>X.fin (t:=s'.toks) hs⟩
theorem rL {elt iter:PySem.Expr} {x y:Str} {px py pos spos:Pos} {scope:Scope} {k i:Nat} {fr:Option Nat} {rng:Bool} {celt citer:Mine.E}
  (hh:A.handled=none) (FO:br c F) (hsw:swapsWith (.ListComp elt [⟨.Name x px,iter,[],0⟩] scope pos) (some (.Name y py)) spos.line F.env=pure true) (hy:c.isP i y=true) (hx:Cx.isP ⟨c.P,fg scope c.sc,bH c k fr⟩ 0 x=true) (hsc:dw c scope fr k=true) (hns:jO iter=true)
  (Hi:IT w h₁ os A F T call rng citer iter) (He:∀F',br ⟨c.P,fg scope c.sc,bH c k fr⟩ F'→SE w h₁ os A F' T call celt elt):
  SS w h₁ os A F (fun st K=>ay T call (.comp k fr rng celt citer) st fun v st=>bQ st i (.v v) (K .nxt)) (exec (.Assign [.Name y py] (.ListComp elt [⟨.Name x px,iter,[],0⟩] scope pos) spos) F.env):=fun own Z m st s K I hc=>by
 refine bc fun G=>?_;obtain⟨cl,hclo,hcl⟩:=pv FO hsc
 have hsc':=hsc
 unfold dw at hsc'
 rw[Bool.and_eq_true,Bool.and_eq_true,Bool.and_eq_true,Bool.and_eq_true] at hsc'
 obtain⟨⟨⟨⟨h1,h2⟩,h3⟩,h4⟩,_⟩:=hsc'
 have hkind:scope.kind=.function:=by
  split at h1
  ·assumption
  ·exact ff h1
 refine G ?_;clear G;rw[exec_Assign_Name_used _ _ _ _ hsw]
 refine wpAny_bind (wpAny_standAt (wpAny_bind ?_))
 show wpAny _ A (do let _ ← comprehension (.ListComp elt [⟨.Name x px,iter,[],0⟩] scope pos) scope F.env _ (newList []) false (eval iter F.env) (some (assign (.Name y py) F.env))) _ _ s
 refine wpAny_bind (wpAny_mono (wpAny_comprehension_free (use:=some (assign (.Name y py) F.env)) (Q:=fun ξ s'=>PS w h₁ os F own Z s.heap K .next s') rfl (iX hns) hclo hkind (fun x hx q=>?_)
  (nG (RR:=fun acc C=>compPost (model P0 w) A (fun ξ ξ=>False) (some (assign (.Name y py) F.env)) (fun ξ s'=>PS w h₁ os F own Z s.heap K .next s') acc C) hh FO hx hsc hcl Hi He I hc fun D C s' own' Z' st' l ys X=>?_)) (fun ξ s' hq=>wpAny_pure (wpAny_pure hq)) fun ξ ξ e=>e)
 ·have:=List.all_eq_true.mp h3 x hx
  rw[q] at this
  exact dx this
 ·refine bc fun G=>?_;obtain⟨mC,hn⟩:=X.ns
  obtain⟨od,q1,q2,n,q3⟩:=X.list
  obtain⟨oc,esC,epC,c1,c2⟩:=hn
  refine G ?_;clear G;show wpAny _ A (assign (.Name y py) F.env (.ref D)) _ _ _
  have I':bt w h₁ os F own' (addZ Z' D od) m st' s':=X.inv.addZ q1 X.ownD X.zoneD
  have R':aA w (addZ Z' D od) (.list l) (.ref D):=.list (fO ..) q2 q3 (X.rep.mono (gN X.zoneD))
  have zC:addZ Z' D od C=none:=by unfold addZ;rw[if_neg (Ne.symm X.ne)];exact X.zoneC
  refine wpAny_mono (wpAny_assign_Name (gS FO hy I' R' X.post)) (fun ξ s₂ q=>?_) fun ξ ξ e=>e
  refine bc fun G=>?_;obtain⟨own₂,Z₂,m₂,st₂,I₂,S₂,k₂⟩:=q
  obtain⟨f₂,z₂,g₂⟩:=S₂.beside X.ownC zC c1
  refine G ?_;clear G;refine⟨mC,⟨oc,esC,epC,g₂,c2⟩,fun h' hs=>?_⟩
  have kk:∀b o,b≠C→s₂.heap.get? b=some o→h'.get? b=some o:=fun b o ne e=>hs.extBut b o ne e
  have SD:Step own Z s.heap own' (addZ Z' D od) s'.heap:=X.step.addZ X.newD X.zoneD
  exact⟨own₂,Z₂,m₂,st₂,.nxt,I₂.change f₂ z₂ kk rfl rfl,(SD.trans S₂).change X.newC kk,.nxt,k₂⟩
end
end Mine
namespace Mine
open PySem PySem.W PySem.Calls PyProof.Rows Builtin Builtin.ObjectAttr
section
variable {w:World} {h₁:Heap} {os:OsState} {F:Fm} {own own':ch} {Z Z':aI} {m:Str→Option Value} {st:St} {s s':Shared} {A:Around} {E:Value→Shared→Prop} {c:Cx} {T:fY} {call:aM}
theorem rS {es:Array DictEntry} (hk:StrKeys es):es.any (·.refKey)=false:=by
 refine Bool.eq_false_iff.mpr fun q=>?_
 obtain⟨i,hi,q⟩:=Array.any_eq_true.mp q
 obtain⟨n,t,e⟩:=hk es[i] (Array.getElem_mem hi)
 unfold DictEntry.refKey at q
 rw[e] at q
 exact ff q
theorem Gu (a b:Str):(a == b)=decide (b=a):=by
 rw[Bool.eq_iff_iff,beq_iff_eq,decide_eq_true_iff];exact eq_comm
theorem vZ {c:Value} {d:Option Addr} {sl:Array (Option Value)} {es:Array DictEntry} {ep:Nat} {m:Str→Option Value} {name:Str} {hash:Int} {tk:Tok} {v:Value} (hk:StrKeys es) (hm:∀y,nsFind es y=m y):
  ∃es' ep',Obj.putName name hash (.str name tk) v ⟨c,d,.dict es ep,sl⟩=⟨c,d,.dict es' ep',sl⟩∧StrKeys es'∧(∀y,nsFind es' y=if y=name then some v else m y)∧es'.size≤es.size+1∧(m name≠none→es'.size=es.size):=by
 rw[Obj.putName_eq]
 unfold Obj.putNameByArray
 cases q:es.findIdx? (·.key.isStr name) with
 |some i=>
  have sz:(es.modify i fun e=>{ e with val:=v }).size=es.size:=Array.size_modify
  exact⟨_,ep,by dsimp only;rw[q],hk.modify i _,fun y=>hm y▸findBy_modify (fun n v=>v.isStr n) Value.isStr_inj es name y v i q,Nat.le_succ_of_le (Nat.le_of_eq sz),fun ξ=>sz⟩
 |none=>
  refine⟨_,ep+1,by dsimp only;rw[q],hk.push _ _ _ _,fun y=>(findBy_push (fun n v=>v.isStr n) es name y hash (.str name tk) v (Gu name) q).trans (congrArg (fun z=>if y=name then some v else z) (hm y)),Nat.le_of_eq (Array.size_push ..),fun z=>absurd ?_ z⟩
  exact(hm name).symm.trans (by unfold nsFind;rw[findBy_of_findIdx? (fun n v=>v.isStr n) es name,q])
theorem FD {o:Obj} {m:Str→Option Value} {name:Str} {hash:Int} {tk:Tok} {v:Value} (N:kK o m):kK (Obj.putName name hash (.str name tk) v o) (fun x=>if x=name then some v else m x)∧(Obj.putName name hash (.str name tk) v o).isFreed=false∧
  ∃es ep es' ep',o.data=.dict es ep∧(Obj.putName name hash (.str name tk) v o).data=.dict es' ep'∧es'.size≤es.size+1∧(m name≠none→es'.size=es.size):=by
 obtain⟨c,d,dt,sl⟩:=o
 obtain⟨es,ep,hd,hk,hm⟩:=N
 obtain rfl:dt=.dict es ep:=hd
 obtain⟨es',ep',e,k',m',s1,s2⟩:=vZ (c:=c) (d:=d) (sl:=sl) (ep:=ep) (name:=name) (hash:=hash) (tk:=tk) (v:=v) hk hm
 rw[e]
 exact⟨⟨es',ep',rfl,k',m'⟩,rfl,es,ep,es',ep',rfl,rfl,s1,s2⟩
theorem vq {k:Nat} {x:V} {p:Nat×V} {r:List (Nat×V)}:∃y,kM k x (p::r)=(p.1,y)::kM k x r:=by
 show ∃y,(if Nat.beq k p.1=true then(p.1,x)::kM k x r else(p.1,p.2)::kM k x r)=_
 by_cases q:Nat.beq k p.1=true
 ·exact⟨x,if_pos q⟩
 ·exact⟨p.2,if_neg q⟩
theorem gP {k:Nat} {x:V} {fs:List (Nat×V)}:(kM k x fs).map (·.1)=fs.map (·.1):=by
 induction fs with
 |nil=>rfl
 |cons p r ih=>
  obtain⟨y,e⟩:=vq (k:=k) (x:=x) (p:=p) (r:=r)
  rw[e]
  exact congrArg (p.1::·) ih
theorem qG {k:Nat} {x:V} {fs:List (Nat×V)}:(kM k x fs).length=fs.length:=by
 rw[← List.length_map (f:=(·.1)),gP,List.length_map]
theorem Ao {k:Nat} {x:V} {fs:List (Nat×V)} {j:Nat} (h:j∈(hG k x fs).map (·.1)):j=k∨j∈fs.map (·.1):=by
 unfold hG at h
 split at h
 ·rw[List.map_append] at h
  rcases List.mem_append.mp h with h|h
  ·exact .inr h
  ·exact .inl (List.mem_singleton.mp h)
 ·rw[gP] at h;exact .inr h
theorem wg {k:Nat} {x:V} {fs:List (Nat×V)} {j:Nat} (h:j∈fs.map (·.1)):j∈(hG k x fs).map (·.1):=by
 unfold hG
 split
 ·rw[List.map_append];exact List.mem_append_left _ h
 ·rw[gP];exact h
theorem vK {k:Nat} {v:V} {fs:List (Nat×V)} (h:dO k fs=some v):k∈fs.map (·.1):=by
 induction fs with
 |nil=>exact nn h
 |cons p r ih=>
  by_cases q:Nat.beq k p.1=true
  ·rw[Nat.eq_of_beq_eq_true q];exact List.mem_cons_self ..
  ·exact List.mem_cons_of_mem _ (ih ((sd q).symm.trans h))
theorem lO {k j:Nat} (hk:k < 256 ^ 60) (hj:j < 256 ^ 60) (n:¬Nat.beq k j=true):bw j≠bw k:=fun h=>n (by rw[sW hj hk h];exact Nat.beq_refl k)
theorem xj {m:Str→Option Value} {k:Nat} {v:V} {x:Value} (hk:k < 256 ^ 60) (R:aA w Z v x) {fs:List (Nat×V)} (hf:∀p∈fs,p.1 < 256 ^ 60) (H:cS w Z m fs):cS w Z (fun y=>if y=bw k then some x else m y) (kM k v fs):=by
 induction fs with
 |nil=>exact .nil
 |cons p l ih=>
  refine bc fun G=>?_;obtain⟨z,a,b,c⟩:=cS.un H
  have ih:=ih (List.forall_mem_cons.mp hf).2 c
  have hj:=(List.forall_mem_cons.mp hf).1
  refine G ?_;clear G;show cS w Z _ (if Nat.beq k p.1=true then(p.1,v)::kM k v l else p::kM k v l)
  by_cases q:Nat.beq k p.1=true
  ·rw[if_pos q]
   obtain rfl:=Nat.eq_of_beq_eq_true q
   exact .cons (if_pos rfl) R ih
  ·rw[if_neg q]
   exact .cons ((if_neg (lO hk hj q)).trans a) b ih
theorem xZ {m:Str→Option Value} {k:Nat} {v:V} {x:Value} (hk:k < 256 ^ 60) (R:aA w Z v x) {fs:List (Nat×V)} (hf:∀p∈fs,p.1 < 256 ^ 60) (hn:dO k fs=none) (H:cS w Z m fs):cS w Z (fun y=>if y=bw k then some x else m y) (fs++[(k,v)]):=by
 induction fs with
 |nil=>exact .cons (if_pos rfl) R .nil
 |cons p l ih=>
  refine bc fun G=>?_;obtain⟨z,a,b,c⟩:=cS.un H
  have hn:(if Nat.beq k p.1=true then some p.2 else dO k l)=none:=hn
  refine G ?_;clear G;by_cases q:Nat.beq k p.1=true
  ·rw[if_pos q] at hn;cases hn
  ·rw[if_neg q] at hn
   exact .cons ((if_neg (lO hk (List.forall_mem_cons.mp hf).1 q)).trans a) b (ih (List.forall_mem_cons.mp hf).2 hn c)
set_option tactic.hygienic true in
theorem AM {m:Str→Option Value} {k:Nat} {v:V} {x:Value} {fs:List (Nat×V)} (hk:k < 256 ^ 60) (R:aA w Z v x) (hf:∀p∈fs,p.1 < 256 ^ 60) (H:cS w Z m fs):cS w Z (fun y=>if y=bw k then some x else m y) (hG k v fs):=by
 unfold hG
 split
 ·rename_i e;exact xZ hk R hf e H
 ·exact xj hk R hf H
set_option tactic.hygienic true in
theorem oR {C k t:Nat} {fs:List (Nat×V)} {a:Addr} {v:V} {x:Value} {Q:Unit→Shared→Prop} (Fs:aV w s.heap) (R:bN w Z own s.heap t (.inst C fs) a) (Rv:aA w Z v x) (hk:dY C k=true) (hl:fs.length≤100)
  (q:∀h',bN w Z own h' t (.inst C (hG k v fs)) a→(∀b o,own b≠some t→s.heap.get? b=some o→h'.get? b=some o)→(∀b o,s.heap.get? b=some o→∃o',h'.get? b=some o')→Q () { s with heap:=h',toks:=s.toks+1+1 }):
  wpAny (model P0 w) A (setAttr (.ref a) (bw k) x) Q E s:=by
 have B:=yy w.params hk
 unfold Bg at B
 simp only[Bool.and_eq_true,beq_iff_eq] at B
 refine bc fun G=>?_;obtain⟨b1,b2,b3,b4,b5,b6⟩:=B
 refine G ?_;clear G;induction R using bN.instE with
 |inst p e1 e2 e3 e4 e5 e6 e7 e8 e9=>
  rename_i d o m'
  have X:=nc w.params Fs.at_
  have X':(KC P0 w.params).In ({ s with toks:=s.toks+1 }:Shared).heap:=X
  have Ia:InstAt s.heap a (instObj C d) C (some o):=⟨e4,rfl,rfl,e5⟩
  refine set_plain X Ia b4 (osa_open (s:={ s with toks:=s.toks+1 }) X' Ia b5 b6 fun bb=>?_)
  refine bc fun G=>?_;obtain⟨cd,hc,hd'⟩:=any_some b2
  refine G ?_;clear G;unfold storeInOwnDict
  refine wpAny_bind (wpAny_pure (wpAny_bind (wpAny_bind (wpAny_loadPart (s:={ s with toks:=s.toks+1 }) e4 (wpAny_bind ((looks_clsIn X' hc).here ?_))))))
  rw[hd']
  refine wpAny_pure (a:=some d) (wpAny_bind (wpAny_pure (wpAny_bind ?_)))
  unfold nsSet
  refine wpAny_bind (wpAny_bind (wpAny_askSetting (wpAny_pure (wpAny_bind (wpAny_mkText (wpAny_bind (wpAny_loadPart (s:={ s with toks:=s.toks+1+1 }) e5 ?_)))))))
  have hkl:=rK hk
  have hfl:∀p∈fs,p.1 < 256 ^ 60:=fun y hy=>rK (p y hy)
  refine bc fun G=>?_;obtain⟨n1,n2,es,ep,es',ep',n3,n4,n5,n6⟩:=FD (name:=bw k) (hash:=PyData.keyHash w.params (bw k)) (tk:=s.toks+1) (v:=x) e6
  obtain⟨esb,epb,d1,d2⟩:=e7
  rw[n3] at d1
  refine G ?_;clear G;cases d1
  have hnr:es.any (·.refKey)=false:=by
   refine bc fun G=>?_;obtain⟨es2,ep2,d3,d4,_⟩:=e6
   rw[n3] at d3;cases d3
   refine G ?_;clear G;exact rS d4
  rw[n3]
  dsimp only
  rw[aRefKeyMayBeTheName_eq,aRefKeyMayBeTheNameByArray,hnr,Bool.and_false]
  have hsz:es'.size≤(hG k v fs).length:=by
   unfold hG
   cases g:dO k fs with
   |none=>dsimp only;rw[List.length_append];exact Nat.le_trans n5 (Nat.succ_le_succ d2)
   |some u=>
    dsimp only
    rw[qG]
    refine bc fun G=>?_;obtain⟨_,x',h1,_⟩:=e8.get g
    refine G ?_;clear G;rw[n6 (by rw[h1];exact(nn ·.symm))];exact d2
  have h2:(s.heap.update d (Obj.putName (bw k) (PyData.keyHash w.params (bw k)) (.str (bw k) (s.toks+1)) x)).get? d=some (Obj.putName (bw k) (PyData.keyHash w.params (bw k)) (.str (bw k) (s.toks+1)) x o):=Heap.get?_update_self _ e5 n2
  have h1:(s.heap.update d (Obj.putName (bw k) (PyData.keyHash w.params (bw k)) (.str (bw k) (s.toks+1)) x)).get? a=some (instObj C d):=by rw[Heap.get?_update_other _ _ (Ne.symm e3)];exact e4
  have hlen:(hG k v fs).length≤101:=by
   unfold hG
   cases g:dO k fs with
   |none=>dsimp only;rw[List.length_append];exact Nat.succ_le_succ hl
   |some u=>dsimp only;rw[qG];lia
  refine wpAny_updatePart e5 (wpAny_bind (wpAny_lookBehind h2 ?_ (wpAny_pure (q _ (.inst (fun y hy=>?_) e1 e2 e3 h1 h2 n1 ⟨es',ep',n4,hsz⟩ (AM hkl Rv hfl e8) fun name hn=>?_) (fun b ob e g=>?_) fun b ob e=>?_))))
  ·rw[n4]
   unfold Data.pastItsLine
   dsimp only
   rw[if_neg (by rw[sizeLine_eq];lia)]
  ·rcases Ao (List.mem_map.mpr ⟨y,hy,rfl⟩) with g|g
   ·rw[g];exact hk
   ·refine bc fun G=>?_;obtain⟨z,hz,g⟩:=List.mem_map.mp g
    refine G ?_;clear G;rw[← g];exact p z hz
  ·have nk:name≠bw k:=by
    have:k∈(hG k v fs).map (·.1):=by
     unfold hG
     cases g:dO k fs with
     |none=>dsimp only;rw[List.map_append];exact List.mem_append_right _ (List.mem_singleton.mpr rfl)
     |some u=>dsimp only;rw[gP];exact vK g
    refine bc fun G=>?_;obtain⟨z,hz,g⟩:=List.mem_map.mp this
    have:=hn z hz
    rw[g] at this
    refine G ?_;clear G;exact Ne.symm this
   rw[if_neg nk]
   refine e9 name fun y hy=>?_
   refine bc fun G=>?_;obtain⟨z,hz,g⟩:=List.mem_map.mp (wg (k:=k) (x:=v) (List.mem_map.mpr ⟨y,hy,rfl⟩))
   have:=hn z hz
   rw[g] at this
   refine G ?_;clear G;exact this
  ·show(s.heap.update d _).get? b=some ob
   rw[Heap.get?_update_other _ _ (fun c=>e (by rw[← c];exact e2))];exact g
  ·by_cases c:d=b
   ·subst c;exact⟨_,h2⟩
   ·exact⟨ob,by rw[Heap.get?_update_other _ _ c];exact e⟩
end
end Mine
namespace Mine
open PySem PySem.W PySem.Calls PyProof.Rows
section
variable {w:World} {h₁:Heap} {os:OsState} {F:Fm} {own own':ch} {Z Z':aI} {m:Str→Option Value} {st:St} {s s':Shared} {A:Around} {E:Value→Shared→Prop} {c:Cx} {T:fY} {call:aM}
theorem fB {a:PySem.Expr} (h:ek a=true):∀x p,a≠.Starred x p:=fun x p q=>by
 subst q;exact ff h
noncomputable def SB (w:World) (h₁:Heap) (os:OsState) (A:Around) (F:Fm) (T:fY) (call:aM) (e:Mine.E) (a:PySem.Expr):Prop:=SE w h₁ os A F T call e a∧ST w h₁ os A F T call e a
noncomputable def pY (w:World) (h₁:Heap) (os:OsState) (A:Around) (F:Fm) (T:fY) (call:aM) (e:Mine.E) (x:qP):Prop:=match x with
 |.e a=>SE w h₁ os A F T call e a∧ST w h₁ os A F T call e a
 |.h a=>(∀i,e≠.hole i)→SE w h₁ os A F T call e a
 |.no=>e=.lit .none
 |.l es=>SL w h₁ os A F T call e es
 |.a es=>SA w h₁ os A F T call e es
 |.d ks vs=>SD w h₁ os A F T call e ks vs
 |.dv v ks vs=>∃b l,e=.cons b l∧SE w h₁ os A F T call b v∧SD w h₁ os A F T call l ks vs
theorem aO {e:Mine.E} {x:qP} {f:PySem.Expr→Bool} (h:bR x f=true) (k:∀a,f a=true→SB w h₁ os A F T call e a):pY w h₁ os A F T call e x:=by
 cases x with
 |e a=>exact k a h
 |h a=>exact fun ξ=>(k a h).1
 |no=>exact ff h
 |l=>exact ff h
 |a=>exact ff h
 |d=>exact ff h
 |dv=>exact ff h
theorem SB.pl {e:Mine.E} {a:PySem.Expr} (p:SE w h₁ os A F T call e a) (hp:isTrue a F.env (eval a F.env)=(do let v ← eval a F.env;standAt a.pos;holding [v] (truthy v))):SB w h₁ os A F T call e a:=⟨p,wH p hp⟩
theorem IB {a:Bool} (h:(!a)=true):a=false:=by cases a;rfl;exact ff h
theorem aD {a b:Bool} (h:(a&&b)=true):a=true:=(Bool.and_eq_true_iff.mp h).1
theorem am {a b:Bool} (h:(a&&b)=true):b=true:=(Bool.and_eq_true_iff.mp h).2
theorem ew:∀{l:Mine.E} {es:List PySem.Expr},chk l c (.a es)=true→∀e∈es,∀x p,e≠.Starred x p
 |_,[],_,e,h=>absurd h List.not_mem_nil
 |l,a::r,h,e,he=>by
  cases l<;>first|(exact ff h;done)|skip
  rcases List.mem_cons.mp he with rfl|he
  ·exact fB (aD h)
  ·exact ew (am (am h)) e he
end
structure Bc (w:World) (h₁:Heap) (os:OsState) (A:Around) (T:fY) (call:aM):Prop where
 hh:A.handled=none
 hu:A.units < cLine
 calls:k8 w h₁ os A call
 tab:iV T w.params
 facts:aV w h₁
section
variable {w:World} {h₁:Heap} {os:OsState} {F:Fm} {own own':ch} {Z Z':aI} {m:Str→Option Value} {st:St} {s s':Shared} {A:Around} {E:Value→Shared→Prop} {c:Cx} {T:fY} {call:aM}
theorem EP {a:PySem.Expr}:SE w h₁ os A F T call .bad a:=fun ξ ξ ξ ξ ξ ξ ξ hc=>(show False from hc).elim
theorem Gx {a:PySem.Expr}:ST w h₁ os A F T call .bad a:=fun ξ ξ ξ ξ ξ ξ ξ hc=>(show False from hc).elim
theorem sT {e:Mine.E} {o:Option PySem.Expr} (h:pY w h₁ os A F T call e (G6 o)):(e=.lit .none∧o=none)∨∃a,o=some a∧SE w h₁ os A F T call e a:=by
 cases o with
 |none=>exact .inl ⟨h,rfl⟩
 |some a=>exact .inr ⟨a,rfl,h.1⟩
theorem qe {as:List PySem.Expr} {f:PySem.Expr→Bool} {P:List PySem.Expr→Prop} (h:sL as (fun r=>ek r&&f r)=true) (k:∀r,(∀x p,r≠.Starred x p)→f r=true→P [r]):P as:=
 jt h fun r h=>k r (fB (aD h)) (am h)
theorem q9 {rng:Bool} {iter:Mine.E} {it:PySem.Expr} (B:Bc w h₁ os A T call) (hP:c.P=w.params) (FO:br c F) (ih:∀x,chk iter c x=true→pY w h₁ os A F T call iter x)
  (h:cond rng (eB it fun g as=>ba g (fun f=>c.isB le f)&&sL as fun r=>ek r&&chk iter c (.e r)) (chk iter c (.e it))=true):IT w h₁ os A F T call rng iter it:=by
 cases rng with
 |false=>exact yK B.hh (ih _ h).1
 |true=>exact db (P:=fun it=>IT w h₁ os A F T call true iter it) h fun g as p h=>aF (P:=fun g=>IT w h₁ os A F T call true iter (.Call g as [] p)) (aD h) fun y q h2=>qe (P:=fun as=>IT w h₁ os A F T call true iter (.Call (.Name y q) as [] p)) (am h) fun r hs h3=>E2 B.hh FO B.facts hP h2 hs (ih _ h3).1
def CK (w:World) (h₁:Heap) (os:OsState) (A:Around) (T:fY) (call:aM) (e:Mine.E):Prop:=∀(c:Cx) (F:Fm) (x:qP),c.P=w.params→br c F→chk e c x=true→pY w h₁ os A F T call e x
set_option tactic.hygienic true in
theorem sa (B:Bc w h₁ os A T call):∀e:Mine.E,CK w h₁ os A T call e:=by
 intro e
 induction e with
 |lit v=>
  intro c F x hP FO h
  cases x with
  |no=>cases v<;>first|((first|exact ff h|cases h);done)|rfl
  |e a=>exact lX (P:=SB w h₁ os A F T call (.lit v)) h fun k n p h=>.pl (vH h) rfl
  |h a=>exact fun ξ=>(lX (P:=SB w h₁ os A F T call (.lit v)) h fun k n p h=>.pl (vH h) rfl).1
  |l=>exact ff h
  |a=>exact ff h
  |d=>exact ff h
  |dv=>exact ff h
 |glo k v=>
  exact fun c F x hP FO h=>aO h fun a h=>aF (P:=SB w h₁ os A F T call (.glo k v)) h fun n p h=>.pl (E3 FO B.facts hP h) rfl
 |loc i=>
  exact fun c F x hP FO h=>aO h fun a h=>aF (P:=SB w h₁ os A F T call (.loc i)) h fun n p h=>.pl (FC FO h) rfl
 |attr a k iha=>
  exact fun c F x hP FO h=>aO h fun e h=>gT (P:=SB w h₁ os A F T call (.attr a k)) h fun o n p h=>.pl (BQ B.facts (aD h) (aD (am h)) (iha c F _ hP FO (am (am h))).1) rfl
 |attrO i k=>
  exact fun c F x hP FO h=>aO h fun e h=>gT (P:=SB w h₁ os A F T call (.attrO i k)) h fun o n p h=>aF (P:=fun o=>SB w h₁ os A F T call (.attrO i k) (.Attribute o n p)) (am h) fun y q h2=>.pl (yF FO B.facts h2 (aD h)) rfl
 |lenO i=>
  exact fun c F x hP FO h=>aO h fun e h=>db (P:=SB w h₁ os A F T call (.lenO i)) h fun g as p h=>aF (P:=fun g=>SB w h₁ os A F T call (.lenO i) (.Call g as [] p)) (aD h) fun y q h2=>jt (P:=fun as=>SB w h₁ os A F T call (.lenO i) (.Call (.Name y q) as [] p)) (am h) fun a h=>aF (P:=fun a=>SB w h₁ os A F T call (.lenO i) (.Call (.Name y q) [a] [] p)) h fun z q' h4=>.pl (A9 FO B.facts hP h2 h4) rfl
 |popO i=>
  exact fun c F x hP FO h=>aO h fun e h=>ej (P:=SB w h₁ os A F T call (.popO i)) h fun o n as p p' hl ξ ξ h=>by
   have e3:=List.isEmpty_iff.mp (aD h)
   subst e3
   exact aF (P:=fun o=>SB w h₁ os A F T call (.popO i) (.Call (.Attribute o n p) [] [] p')) (am (am h)) fun y q h3=>.pl (Cy FO h3 (aD (am h)) hl) rfl
 |bin o a b iha ihb=>
  exact fun c F x hP FO h=>aO h fun e h=>p5 (P:=SB w h₁ os A F T call (.bin o a b)) h fun op l r p h=>.pl (FT (aD h) (iha c F _ hP FO (aD (am h))).1 (ihb c F _ hP FO (am (am h))).1) rfl
 |cmp o a b iha ihb=>
  exact fun c F x hP FO h=>aO h fun e h=>y2 (P:=SB w h₁ os A F T call (.cmp o a b)) h fun op l r p h=>by
   have h2:=am h
   have h3:=IB (aD h2)
   have ha:=(iha c F _ hP FO (aD (am h2))).1
   have hb:=(ihb c F _ hP FO (am (am h2))).1
   exact⟨Fk B.hu (aD h) h3 ha hb,ES B.hu (aD h) h3 ha hb⟩
 |and a b iha ihb=>
  exact fun c F x hP FO h=>aO h fun e h=>nB (P:=SB w h₁ os A F T call (.and a b)) h fun op l m r p h=>by
   cases op with
   |Or=>exact ff h
   |And=>
    have ha:=iha c F _ hP FO (aD (am h))
    have hb:=ihb c F _ hP FO (am (am h))
    exact⟨Gd ha.1 hb.1,Fo ha.2 hb.2⟩
 |or a b iha ihb=>
  exact fun c F x hP FO h=>aO h fun e h=>nB (P:=SB w h₁ os A F T call (.or a b)) h fun op l m r p h=>by
   cases op with
   |And=>exact ff h
   |Or=>
    have ha:=iha c F _ hP FO (aD (am h))
    have hb:=ihb c F _ hP FO (am (am h))
    exact⟨Ms ha.1 hb.1,Kp ha.2 hb.2⟩
 |not a iha=>
  exact fun c F x hP FO h=>aO h fun e h=>wV (P:=SB w h₁ os A F T call (.not a)) h fun y p h=>by
   have ha:=iha c F _ hP FO h
   exact⟨Gj ha.1,Gb ha.2⟩
 |ite t a b iht iha ihb=>
  exact fun c F x hP FO h=>aO h fun e h=>BL (P:=SB w h₁ os A F T call (.ite t a b)) h fun y z u p h=>by
   have ht:=iht c F _ hP FO (aD h)
   have ha:=iha c F _ hP FO (aD (am h))
   have hb:=ihb c F _ hP FO (am (am h))
   exact⟨ER ht.2 ha.1 hb.1,GL ht.2 ha.2 hb.2⟩
 |idx a b iha ihb=>
  exact fun c F x hP FO h=>aO h fun e h=>p6 (P:=SB w h₁ os A F T call (.idx a b)) h fun y z p h=>.pl (Ht (iha c F _ hP FO (aD h)).1 (ihb c F _ hP FO (am h)).1) rfl
 |slc a lo hi iha ihl ihh=>
  exact fun c F x hP FO h=>aO h fun e h=>p6 (P:=SB w h₁ os A F T call (.slc a lo hi)) h fun y z p h=>rz (P:=fun z=>SB w h₁ os A F T call (.slc a lo hi) (.Subscript y z p)) (am h) fun l u q h2=>.pl (Gf (iha c F _ hP FO (aD h)).1 (sT (ihl c F _ hP FO (aD h2))) (sT (ihh c F _ hP FO (am h2)))) rfl
 |nil=>
  intro c F x hP FO h
  cases x<;>first|(exact ff h;done)|skip
  ·rename_i es;cases es<;>first|((first|exact ff h|cases h);done)|exact E9
  ·rename_i es;cases es<;>first|((first|exact ff h|cases h);done)|exact Ff
  ·rename_i ks vs;cases ks<;>cases vs<;>first|((first|exact ff h|cases h);done)|exact Ft
 |cons a l iha ihl=>
  intro c F x hP FO h
  cases x with
  |e=>exact ff h
  |h=>exact ff h
  |no=>exact ff h
  |l es=>
   cases es with
   |nil=>exact ff h
   |cons y r=>exact Cq (fB (aD h)) (iha c F _ hP FO (aD (am h))).1 (ihl c F _ hP FO (am (am h)))
  |a es=>
   cases es with
   |nil=>exact ff h
   |cons y r=>
    by_cases q:∃i,a=.hole i
    ·obtain⟨i,hi⟩:=q
     have h2:chk (.hole i) c (.h y)=true:=hi▸aD (am h)
     have hl:=ihl c F _ hP FO (am (am h))
     rw[hi]
     clear h iha ihl hi
     exact aF (P:=fun y=>SA w h₁ os A F T call (.cons (.hole i) l) (y::r)) h2 fun z p h2=>Cp FO h2 hl
    ·have q:∀i,a≠.hole i:=fun i e=>q ⟨i,e⟩
     exact Ck q (fB (aD h)) (iha c F _ hP FO (aD (am h)) q) (ihl c F _ hP FO (am (am h)))
  |d ks vs=>
   cases ks with
   |nil=>exact ff h
   |cons k ks=>cases k with
    |none=>exact ff h
    |some k=>cases vs with
     |nil=>exact ff h
     |cons v vs=>
      obtain⟨b,l',e,hb,hl⟩:=ihl c F _ hP FO (am (am h))
      have ha:=(iha c F _ hP FO (aD (am h))).1
      rw[e]
      clear h iha ihl e
      exact CC ha hb hl
  |dv v ks vs=>exact⟨a,l,rfl,(iha c F _ hP FO (aD (am h))).1,ihl c F _ hP FO (am (am h))⟩
 |tup l ihl=>
  exact fun c F x hP FO h=>aO h fun e h=>j3 (P:=SB w h₁ os A F T call (.tup l)) h fun es k p h=>.pl (F9 (ihl c F _ hP FO (am h)) (Nat.le_trans (Nat.le_of_ble_eq_true (aD h)) (by decide))) rfl
 |list l ihl=>
  exact fun c F x hP FO h=>aO h fun e h=>mD (P:=SB w h₁ os A F T call (.list l)) h fun es p h=>.pl (Bj (ihl c F _ hP FO (am h)) (Nat.le_trans (Nat.le_of_ble_eq_true (aD h)) (by decide))) rfl
 |dict l ihl=>
  exact fun c F x hP FO h=>aO h fun e h=>qQ (P:=SB w h₁ os A F T call (.dict l)) h fun ks vs p h=>by
   have hl:=ihl c F _ hP FO (am h)
   have h15:=Nat.le_of_ble_eq_true (aD h)
   cases ks with
   |nil=>
    have:vs=[]:=List.length_eq_zero_iff.mp hl.1.2.symm
    subst this
    have h2:=am h
    cases l<;>first|((first|exact ff h2|cases h2);done)|exact .pl (v5 B.facts) rfl
   |cons k ks=>exact .pl (BS B.facts h15 hl (List.cons_ne_nil _ _)) rfl
 |hole i=>
  intro c F x hP FO h
  cases x with
  |h=>exact fun q=>absurd rfl (q i)
  |e=>exact ff h
  |no=>exact ff h
  |l=>exact ff h
  |a=>exact ff h
  |d=>exact ff h
  |dv=>exact ff h
 |bad=>
  exact fun c F x hP FO h=>aO h fun a ξ=>⟨EP,Gx⟩
 |call f o l ihl=>
  exact fun c F x hP FO h=>aO h fun e h=>db (P:=SB w h₁ os A F T call (.call f o l)) h fun g as p h=>aF (P:=fun g=>SB w h₁ os A F T call (.call f o l) (.Call g as [] p)) (aD h) fun y q h2=>.pl (A0 B.calls.here FO B.facts hP h2 (aD (am h)) (ew (am (am h))) (ihl c F _ hP FO (am (am h)))) rfl
 |callV i l ihl=>
  exact fun c F x hP FO h=>aO h fun e h=>db (P:=SB w h₁ os A F T call (.callV i l)) h fun g as p h=>aF (P:=fun g=>SB w h₁ os A F T call (.callV i l) (.Call g as [] p)) (aD h) fun y q h2=>.pl (AQ B.calls.here FO h2 (aD (am h)) (ew (am (am h))) (ihl c F _ hP FO (am (am h)))) rfl
 |new k l ihl=>
  exact fun c F x hP FO h=>aO h fun e h=>db (P:=SB w h₁ os A F T call (.new k l)) h fun g as p h=>aF (P:=fun g=>SB w h₁ os A F T call (.new k l) (.Call g as [] p)) (aD h) fun y q h2=>.pl (FY B.calls B.tab FO B.facts hP h2 (aD (am h)) (ew (am (am h))) (ihl c F _ hP FO (am (am h)))) rfl
 |meth a k o l iha ihl=>
  exact fun c F x hP FO h=>aO h fun e h=>ej (P:=SB w h₁ os A F T call (.meth a k o l)) h fun g n as p p' hl h30 hb h=>.pl (Ca B.calls.here B.tab B.facts hb hl (aD h) (aD (am (am h))) h30 (ew (am (am (am h)))) (iha c F _ hP FO (aD (am h))).1 (ihl c F _ hP FO (am (am (am h))))) rfl
 |methO i k l ihl=>
  exact fun c F x hP FO h=>aO h fun e h=>ej (P:=SB w h₁ os A F T call (.methO i k l)) h fun g n as p p' hl h30 hb h=>aF (P:=fun g=>SB w h₁ os A F T call (.methO i k l) (.Call (.Attribute g n p) as [] p')) (aD (am h)) fun y q h2=>.pl (xu B.calls.here B.tab FO B.facts h2 hl (aD h) (aD (am (am h))) h30 (ew (am (am (am h)))) (ihl c F _ hP FO (am (am (am h))))) rfl
 |pf f a iha=>
  exact fun c F x hP FO h=>aO h fun e h=>db (P:=SB w h₁ os A F T call (.pf f a)) h fun g as p h=>aF (P:=fun g=>SB w h₁ os A F T call (.pf f a) (.Call g as [] p)) (aD h) fun y q h2=>qe (P:=fun as=>SB w h₁ os A F T call (.pf f a) (.Call (.Name y q) as [] p)) (am h) fun r hs h3=>.pl (MR FO B.facts hP h2 hs (iha c F _ hP FO h3).1) rfl
 |join a b iha ihb=>
  exact fun c F x hP FO h=>aO h fun e h=>ej (P:=SB w h₁ os A F T call (.join a b)) h fun g n as p p' hl h30 hb h=>qe (P:=fun as=>SB w h₁ os A F T call (.join a b) (.Call (.Attribute g n p) as [] p')) (am (am h)) fun r hs h3=>.pl (Bf hb hl (aD h) hs (iha c F _ hP FO (aD (am h))).1 (ihb c F _ hP FO h3).1) rfl
 |get a b iha ihb=>
  exact fun c F x hP FO h=>aO h fun e h=>ej (P:=SB w h₁ os A F T call (.get a b)) h fun g n as p p' hl h30 hb h=>qe (P:=fun as=>SB w h₁ os A F T call (.get a b) (.Call (.Attribute g n p) as [] p')) (am (am h)) fun r hs h3=>.pl (Gh hb hl (aD h) hs (iha c F _ hP FO (aD (am h))).1 (ihb c F _ hP FO h3).1) rfl
 |comp k fr rng elt iter ihe ihi=>
  exact fun c F x hP FO h=>aO h fun e h=>jr (P:=SB w h₁ os A F T call (.comp k fr rng elt iter)) h fun el y it sc px p h=>by
   have h2:=am h
   have h3:=am h2
   have h4:=am h3
   exact .pl (BD B.hh FO (aD h) (aD h2) (aD h3) (q9 B hP FO (fun x h=>ihi c F x hP FO h) (am h4)) fun F' FO'=>(ihe ⟨c.P,fg sc c.sc,bH c k fr⟩ F' _ hP FO' (aD h4)).1) rfl
end
section
inductive qk where
 |s (x:Stmt)
 |l (xs:List Stmt)
noncomputable def cL (x:qk) (f:Stmt→Bool):Bool:=match x with
 |.s b=>f b
 |.l _=>false
noncomputable def qk.end_:qk→Bool
 |.l []=>true
 |_=>false
noncomputable def B5 (x:qk) (f:Stmt→List Stmt→Bool):Bool:=match x with
 |.s _=>false
 |.l bs=>match bs with
  |[]=>false
  |b::r=>f b r
section
variable {b:Stmt} {P:Stmt→Prop}
noncomputable def dn (b:Stmt) (f:PySem.Expr→PySem.Expr→Pos→Bool):Bool:=ix (b.ctorIdx=5) fun h=>PySem.Stmt.Assign.elim b h fun ts v pos=>sL ts fun t=>f t v pos
theorem cF {f:PySem.Expr→PySem.Expr→Pos→Bool} (h:dn b f=true) (k:∀t v pos,f t v pos=true→P (.Assign [t] v pos)):P b:=
 bq h fun hb=>PySem.Stmt.Assign.elim (motive_2:=fun b=>dn b f=true→P b) b hb (fun ts v pos h=>jt (P:=fun ts=>P (.Assign ts v pos)) h fun t h=>k t v pos h) h
noncomputable def sN (b:Stmt) (f:PySem.Expr→Operator→PySem.Expr→Bool):Bool:=ix (b.ctorIdx=7) fun h=>PySem.Stmt.AugAssign.elim b h fun t op v ξ=>f t op v
theorem qB {f:PySem.Expr→Operator→PySem.Expr→Bool} (h:sN b f=true) (k:∀t op v pos,f t op v=true→P (.AugAssign t op v pos)):P b:=
 bq h fun hb=>PySem.Stmt.AugAssign.elim (motive_2:=fun b=>sN b f=true→P b) b hb (fun t op v pos h=>k t op v pos h) h
noncomputable def k5 (b:Stmt) (f:PySem.Expr→Bool):Bool:=ix (b.ctorIdx=24) fun h=>PySem.Stmt.Expr.elim b h fun v ξ=>f v
theorem ma {f:PySem.Expr→Bool} (h:k5 b f=true) (k:∀v pos,f v=true→P (.Expr v pos)):P b:=
 bq h fun hb=>PySem.Stmt.Expr.elim (motive_2:=fun b=>k5 b f=true→P b) b hb (fun v pos h=>k v pos h) h
noncomputable def HV (o:Option PySem.Expr) (f:PySem.Expr→Bool):Bool:=match o with
 |none=>false
 |some v=>f v
noncomputable def xL (b:Stmt) (f:PySem.Expr→Bool):Bool:=ix (b.ctorIdx=3) fun h=>PySem.Stmt.Return.elim b h fun v ξ=>HV v f
theorem yL {f:PySem.Expr→Bool} (h:xL b f=true) (k:∀v pos,f v=true→P (.Return (some v) pos)):P b:=
 bq h fun hb=>PySem.Stmt.Return.elim (motive_2:=fun b=>xL b f=true→P b) b hb (fun v pos h=>by
  cases v with
  |none=>exact ff h
  |some v=>exact k v pos h) h
noncomputable def rg (b:Stmt):Bool:=ix (b.ctorIdx=3) fun h=>PySem.Stmt.Return.elim b h fun v ξ=>v.isNone
theorem uC (h:rg b=true) (k:∀pos,P (.Return none pos)):P b:=
 bq h fun hb=>PySem.Stmt.Return.elim (motive_2:=fun b=>rg b=true→P b) b hb (fun v pos h=>by
  cases v with
  |none=>exact k pos
  |some v=>exact ff h) h
noncomputable def zV (b:Stmt) (f:PySem.Expr→List Stmt→List Stmt→Bool):Bool:=ix (b.ctorIdx=12) fun h=>PySem.Stmt.If.elim b h fun t b o ξ=>f t b o
theorem v6 {f:PySem.Expr→List Stmt→List Stmt→Bool} (h:zV b f=true) (k:∀t b o pos,f t b o=true→P (.If t b o pos)):P b:=
 bq h fun hb=>PySem.Stmt.If.elim (motive_2:=fun b=>zV b f=true→P b) b hb (fun t b o pos h=>k t b o pos h) h
noncomputable def kQ (b:Stmt) (f:PySem.Expr→List Stmt→Bool):Bool:=ix (b.ctorIdx=11) fun h=>PySem.Stmt.While.elim b h fun t b o ξ=>o.isEmpty&&f t b
theorem lY {f:PySem.Expr→List Stmt→Bool} (h:kQ b f=true) (k:∀t b pos,f t b=true→P (.While t b [] pos)):P b:=
 bq h fun hb=>PySem.Stmt.While.elim (motive_2:=fun b=>kQ b f=true→P b) b hb (fun t b o pos h=>by
  cases o with
  |nil=>exact k t b pos h
  |cons=>exact ff h) h
noncomputable def sF (b:Stmt) (f:PySem.Expr→PySem.Expr→List Stmt→Bool):Bool:=ix (b.ctorIdx=9) fun h=>PySem.Stmt.For.elim b h fun t i b o ξ=>o.isEmpty&&f t i b
theorem qr {f:PySem.Expr→PySem.Expr→List Stmt→Bool} (h:sF b f=true) (k:∀t i b pos,f t i b=true→P (.For t i b [] pos)):P b:=
 bq h fun hb=>PySem.Stmt.For.elim (motive_2:=fun b=>sF b f=true→P b) b hb (fun t i b o pos h=>by
  cases o with
  |nil=>exact k t i b pos h
  |cons=>exact ff h) h
noncomputable def za (b:Stmt) (f:List Stmt→Bool):Bool:=ix (b.ctorIdx=17) fun h=>PySem.Stmt.Try.elim b h fun b hs o n ξ=>!hs.isEmpty&&(o.isEmpty&&(n.isEmpty&&f b))
theorem w9 {f:List Stmt→Bool} (h:za b f=true) (k:∀b h₀ hs pos,f b=true→P (.Try b (h₀::hs) [] [] pos)):P b:=
 bq h fun hb=>PySem.Stmt.Try.elim (motive_2:=fun b=>za b f=true→P b) b hb (fun b hs o n pos h=>by
  cases hs with
  |nil=>exact ff h
  |cons h₀ hs=>cases o with
   |cons=>exact ff h
   |nil=>cases n with
    |cons=>exact ff h
    |nil=>exact k b h₀ hs pos h) h
noncomputable def Dy (b:Stmt):Bool:=ix (b.ctorIdx=26) fun ξ=>true
theorem yo (h:Dy b=true) (k:∀pos,P (.Break pos)):P b:=bq h fun hb=>PySem.Stmt.Break.elim (motive_2:=P) b hb k
noncomputable def EL (b:Stmt):Bool:=ix (b.ctorIdx=27) fun ξ=>true
theorem vV (h:EL b=true) (k:∀pos,P (.Continue pos)):P b:=bq h fun hb=>PySem.Stmt.Continue.elim (motive_2:=P) b hb k
end
noncomputable def dE (e:PySem.Expr):Bool:=!(Nat.beq e.ctorIdx 8||(Nat.beq e.ctorIdx 9||Nat.beq e.ctorIdx 10))
noncomputable def qU (e:PySem.Expr):Bool:=!(Nat.beq e.ctorIdx 25||Nat.beq e.ctorIdx 24)
noncomputable def n7 (e:PySem.Expr) (f:Str→Pos→Bool):Bool:=ix (e.ctorIdx=23) fun h=>PySem.Expr.Name.elim e h fun x p=>f x p
theorem q8 {e:PySem.Expr} {P:PySem.Expr→Prop} {f:Str→Pos→Bool} (h:n7 e f=true) (k:∀x p,f x p=true→P (.Name x p)):P e:=
 bq h fun hb=>PySem.Expr.Name.elim (motive_1:=fun e=>n7 e f=true→P e) e hb (fun x p h=>k x p h) h
noncomputable def DG (c:Cx) (t v:PySem.Expr) (sc:Scope):Bool:=n7 t fun x pos=>eN (c.sc.names.lookup x)&&(Nat.beq pos.line v.pos.line&&!(sc.names.any fun y=>aW y.1.cps.toList x.cps.toList&&(C3 y.2||D4 y.2)))
noncomputable def vG (c:Cx) (t v:PySem.Expr):Bool:=nT v fun ξ ξ ξ sc=>DG c t v sc
noncomputable def jq:S→Cx→qk→Bool
 |.nil,_,x=>x.end_
 |.cons a l,c,x=>B5 x fun b r=>jq a c (.s b)&&jq l c (.l r)
 |.set i e,c,x=>cL x fun b=>dn b fun t v ξ=>ba t (fun n=>c.isP i n)&&(dE v&&chk e c (.e v))
 |.setC i k fr rng elt iter,c,x=>cL x fun b=>dn b fun t v ξ=>ba t (fun n=>c.isP i n)&&(vG c t v&&chk (.comp k fr rng elt iter) c (.e v))
 |.setList i l,c,x=>cL x fun b=>dn b fun t v ξ=>ba t (fun n=>c.isP i n)&&kZ v fun es=>Nat.ble es.length 100&&chk l c (.l es)
 |.setNew i k l,c,x=>cL x fun b=>dn b fun t v ξ=>ba t (fun n=>c.isP i n)&&eB v fun g as=>ba g (fun n=>eO c k n)&&(ce none (aY 0 l)&&chk l c (.a as))
 |.setAdd i a b,c,x=>cL x fun y=>dn y fun t v ξ=>ba t (fun n=>c.isP i n)&&tD v fun op l r=>iY .add op&&(chk a c (.e l)&&chk b c (.e r))
 |.setTup is e,c,x=>cL x fun b=>dn b fun t v ξ=>j2 t (fun es=>dF c is es)&&(dE v&&(qU v&&chk e c (.e v)))
 |.setAttr i k e,c,x=>cL x fun b=>dn b fun t v ξ=>jy t (fun o n=>iz k n&&ba o fun n=>c.isL i n)&&(dE v&&chk e c (.e v))
 |.augAttr i k o e,c,x=>cL x fun b=>sN b fun t op v=>jy t (fun o n=>iz k n&&ba o fun n=>c.isL i n)&&(iY o op&&chk e c (.e v))
 |.aug i o e,c,x=>cL x fun b=>sN b fun t op v=>ba t (fun n=>c.isP i n)&&(iY o op&&chk e c (.e v))
 |.app i e,c,x=>cL x fun b=>k5 b fun v=>fM v fun o n as=>iz tt n&&(ba o (fun n=>c.isL i n)&&sL as fun r=>ek r&&chk e c (.e r))
 |.expr e,c,x=>cL x fun b=>k5 b fun v=>dE v&&chk e c (.e v)
 |.ret e,c,x=>cL x fun b=>xL b fun v=>chk e c (.e v)
 |.ite t a b,c,x=>cL x fun y=>zV y fun e l r=>chk t c (.e e)&&(jq a c (.l l)&&jq b c (.l r))
 |.whil t b,c,x=>cL x fun y=>kQ y fun e l=>chk t c (.e e)&&jq b c (.l l)
 |.whilO i b,c,x=>cL x fun y=>kQ y fun e l=>ba e (fun n=>c.isL i n)&&jq b c (.l l)
 |.forIn is e b,c,x=>cL x fun y=>sF y fun t it l=>kh c is t&&(jO it&&(chk e c (.e it)&&jq b c (.l l)))
 |.forR i e b,c,x=>cL x fun y=>sF y fun t it l=>ba t (fun n=>c.isP i n)&&(eB it (fun g as=>ba g (fun f=>c.isB le f)&&sL as fun r=>ek r&&chk e c (.e r))&&jq b c (.l l))
 |.brk,_,x=>cL x fun y=>Dy y
 |.cnt,_,x=>cL x fun y=>EL y
 |.ret0,_,x=>cL x fun y=>rg y
 |.try_ b,c,x=>cL x fun y=>za y fun l=>jq b c (.l l)
 |.bad,_,_=>true
end
section
variable {w:World} {h₁:Heap} {os:OsState} {F:Fm} {own own':ch} {Z Z':aI} {m:Str→Option Value} {st:St} {s s':Shared} {A:Around} {E:Value→Shared→Prop} {c:Cx} {T:fY} {call:aM}
theorem nW {v:PySem.Expr} (h:dE v=true) (t:Option PySem.Expr) (l:Nat) (env:Env):swapsWith v t l env=pure false:=by
 cases v<;>first|rfl|exact ff h
theorem CI {v t:PySem.Expr} (h:dE v=true) (l:Nat) (env:Env):swapsWithSole [t] v l env=pure false:=nW h (some t) l env
theorem Bo {v:PySem.Expr} {es:List PySem.Expr} {k:Nat} {p:Pos} {env:Env} (h:qU v=true):swappedStores [.Tuple es k p] v env=pure none:=by
 cases v<;>first|exact ff h|rfl
theorem BP (FO:br c F) {t v:PySem.Expr} {l:Nat} (h:vG c t v=true):swapsWith v (some t) l F.env=pure true:=by
 unfold vG at h
 obtain⟨elt,y0,it,sc,px,pp,rfl,h⟩:=jr (P:=fun e=>∃elt x it sc px p,e=.ListComp elt [⟨.Name x px,it,[],0⟩] sc p∧DG c t v sc=true) h fun elt x it sc px p h=>⟨elt,x,it,sc,px,p,rfl,h⟩
 refine q8 (P:=fun t=>swapsWith (.ListComp elt [⟨.Name y0 px,it,[],0⟩] sc pp) (some t) l F.env=pure true) h fun x pos h=>?_
 ·have h1:=dx (aD h)
  have h2:=Nat.eq_of_beq_eq_true (aD (am h))
  have h3:=IB (am (am h))
  unfold swapsWith
  dsimp only
  have b1:F.env.blockKind=.function:=by unfold Env.blockKind;rw[FO.kind];rfl
  have b2:F.env.kindOf x=some .local:=by unfold Env.kindOf;rw[FO.sc];exact h1
  have b3:(sc.names.any fun (y:Str×NameKind)=>y.1 == x&&(y.2 == .local||y.2 == .cell))=false:=by
   rw[Bool.eq_false_iff]
   intro q
   obtain⟨y,hy,q⟩:=List.any_eq_true.mp q
   refine Bool.eq_false_iff.mp (Bool.eq_false_iff.mpr (by rw[h3];exact Bool.false_ne_true)) (List.any_eq_true.mpr ⟨y,hy,?_⟩)
   obtain⟨n,k⟩:=y
   dsimp only at q ⊢
   rw[Bool.and_eq_true,Bool.or_eq_true] at q
   obtain⟨q1,q2⟩:=q
   have q1:=eq_of_beq q1
   subst q1
   rw[ct,beq_self_eq_true,Bool.true_and,Bool.or_eq_true]
   rcases q2 with q2|q2
   ·have:=eq_of_beq q2;subst this;exact .inl rfl
   ·have:=eq_of_beq q2;subst this;exact .inr rfl
  rw[b1,b2,h2]
  show pure ((ScopeKind.function == ScopeKind.function&&some NameKind.local == some NameKind.local&&_ == _)&&!(sc.names.any fun (y:Str×NameKind)=>y.1 == x&&(y.2 == .local||y.2 == .cell)))=pure true
  rw[b3]
  simp only[beq_self_eq_true,Bool.and_self,Bool.not_false]
theorem Cd {a l:S} {b:Stmt} {bs:List Stmt} {g:Nat} (ha:SS w h₁ os A F (aq T call g a) (exec b F.env)) (hl:SS w h₁ os A F (aq T call g l) (execs bs F.env)):SS w h₁ os A F (aq T call g (.cons a l)) (execs (b::bs) F.env):=fun own Z m st s K I hc=>by
 dsimp only[aq] at hc
 refine wpAny_execs_cons (wpAny_mono (ha _ _ _ _ _ _ I hc) (fun f s₁ q=>?_) fun ξ ξ f=>f)
 obtain⟨own₁,Z₁,m₁,st₁,fl,I₁,S₁,R₁,k₁⟩:=q
 cases R₁ with
 |nxt=>exact wpAny_mono (hl _ _ _ _ _ _ I₁ k₁) (fun ξ ξ p=>p.after S₁) fun ξ ξ f=>f
 |brk=>exact⟨_,_,_,_,.brk,I₁,S₁,.brk,k₁⟩
 |cnt=>exact⟨_,_,_,_,.cnt,I₁,S₁,.cnt,k₁⟩
 |ret r=>exact⟨_,_,_,_,_,I₁,S₁,.ret r,k₁⟩
theorem EQ {i:Nat} {e:Mine.E} {x:Str} {p pos:Pos} {v:PySem.Expr} {g:Nat} (FO:br c F) (hx:c.isP i x=true) (hn:dE v=true) (he:SE w h₁ os A F T call e v):SS w h₁ os A F (aq T call g (.set i e)) (exec (.Assign [.Name x p] v pos) F.env):=fun own Z m st s K I hc=>by
 dsimp only[aq] at hc
 refine wpAny_Assign_Name (he.use I hc fun own₁ Z₁ v₁ st₁ x₁ s₁ I₁ S₁ R₁ k₁=>?_) (nW hn _ _ _)
 exact wpAny_mono (gS FO hx I₁ R₁ k₁) (fun ξ ξ q=>(q.after S₁).next) fun ξ ξ e=>e
theorem vz {is:List Nat} {e:Mine.E} {es:List PySem.Expr} {k:Nat} {p pos:Pos} {v:PySem.Expr} {g:Nat} (hh:A.handled=none) (FO:br c F) (hx:dF c is es=true) (hn:dE v=true) (ht:qU v=true) (he:SE w h₁ os A F T call e v):
  SS w h₁ os A F (aq T call g (.setTup is e)) (exec (.Assign [.Tuple es k p] v pos) F.env):=fun own Z m st s K I hc=>by
 dsimp only[aq] at hc
 refine PyProof.Rows.Assign_Tuple (he.use I hc fun own₁ Z₁ v₁ st₁ x₁ s₁ I₁ S₁ R₁ k₁=>?_) (CI hn _ _) (Bo ht)
 refine bc fun G=>?_;obtain⟨vs,rfl,k₁⟩:=di k₁
 refine G ?_;clear G;exact wpAny_mono (mZ hh FO hx I₁ R₁ k₁) (fun ξ ξ q=>(q.after S₁).next) fun ξ ξ e=>e
set_option tactic.hygienic true in
theorem bt.adopt (I:bt w h₁ os F own Z m st s) (M:o8 Z s.heap Z' s'.heap) (k:∀b o,s.heap.get? b=some o→s'.heap.get? b=some o) (g:s'.gens=#[]) (o:s'.os=os) {on:ch} {i:Nat} (fr:∀b,on b=some 0→s.heap.get? b=none) (ap:∀b,on b=some 0→Z' b=none) (th:∀b,on b=some 0→∃o,s'.heap.get? b=some o):
  bt w h₁ os F (fun b=>if on b=some 0 then some (i+2) else own b) Z' m st s'∧Step own Z s.heap (fun b=>if on b=some 0 then some (i+2) else own b) Z' s'.heap:=by
 have old:∀b t,own b=some t→(fun b=>if on b=some 0 then some (i+2) else own b:ch) b=some t:=fun b t e=>by
  dsimp only
  rw[if_neg]
  ·exact e
  ·intro q;rw[I.free (fr b q)] at e;exact nn e
 have zz:∀b,own b≠none→Z' b=none:=fun b q=>by
  cases e:Z' b with
  |none=>rfl
  |some o=>
   rcases M.new b o e with e|e
   ·rw[I.disj b q] at e;exact nn e
   ·obtain⟨o',e'⟩:=I.odom b q;rw[e] at e';exact nn e'
 refine⟨⟨M.zin,fun a o e=>M.z _ _ (I.base a o e),I.ns.keeps k,old _ _ I.tagL,fun b q=>?_,I.len,fun j x l e1 e2=>(I.locs j x l e1 e2).mono M.z (fun b t e ξ=>old b t e) (fun ξ ξ ξ ξ ξ ξ e=>k _ _ e) I.tagL,g,o,fun b q=>?_,I.inh1⟩,
  ⟨M.z,fun b o e=>(M.new b o e).imp id .inl,fun b t e=>?_,fun b t e ξ=>old b t e,fun b o ξ e=>k b o e,fun b o e=>⟨o,k b o e⟩,fun b o ξ ξ e=>k b o e⟩⟩
 ·split at q
  ·rename_i c;exact ap b c
  ·exact zz b q
 ·split at q
  ·rename_i c;exact th b c
  ·obtain⟨o,e⟩:=I.odom b q;exact⟨o,k b o e⟩
 ·split at e
  ·rename_i c;exact .inr ⟨fr b c,i,(Option.some.inj e).symm⟩
  ·exact .inl e
theorem ur {i k:Nat} {l:Mine.E} {x y:Str} {p q pos cpos:Pos} {es:List PySem.Expr} {g:Nat} (CO:k8 w h₁ os A call) (TO:iV T w.params) (FO:br c F) (Fa:aV w h₁) (hP:c.P=w.params) (hy:c.isP i y=true) (hx:eO c k x=true) (ho:ce none (aY 0 l)=true)
  (hs:∀e∈es,∀x p,e≠.Starred x p) (hl:SA w h₁ os A F T call l es):SS w h₁ os A F (aq T call g (.setNew i k l)) (exec (.Assign [.Name y p] (.Call (.Name x q) es [] cpos) pos) F.env):=fun own Z m st s K I hc=>by
 dsimp only[aq] at hc
 refine wpAny_Assign_Name ?_ rfl
 refine PyProof.Rows.Call_Name rfl (l4 FO Fa hP hx I (cq (P:=fun h=>keepIn (KC P0 w.params) (.ref k)=true∧(KC P0 w.params).In h) (fun h q=>keeps_K q.1 h q.2) hs (wpAny_mono (hl _ _ _ _ _ _ cpos I hc) (fun vs s₁ q=>?_) fun ξ ξ f=>f)))
 refine bc fun G=>?_;obtain⟨own₁,Z₁,lv,st₁,I₁,S₁,R₁,k₁⟩:=q
 obtain⟨lv',e,k₁⟩:=di k₁
 refine G ?_;clear G;cases e
 obtain⟨a,b⟩:=tT CO TO Fa I₁.zin I₁.base I₁.gens I₁.os (fm R₁ 0 (d6 ho)) k₁
 refine⟨⟨a,nc w.params (I₁.facts Fa).at_⟩,wpAny_mono b (fun v s₂ q=>?_) fun ξ ξ f=>f⟩
 refine bc fun G=>?_;obtain⟨xa,m',on,Z',rfl,M⟩:=q
 obtain⟨I₂,S₂⟩:=I₁.adopt (i:=i) M.more M.keep M.gens M.os M.fresh M.apart M.there
 have R₂:bN w Z' (fun b=>if on b=some 0 then some (i+2) else own₁ b) s₂.heap (i+2) m' xa:=by
  have R:=M.rep
  cases R with
  |list e1 e2 e3=>exact .list (if_pos e1) e2 e3
  |inst p e1 e2 e3 e4 e5 e6 e7 e8 e9=>exact .inst p (if_pos e1) (if_pos e2) e3 e4 e5 e6 e7 e8 e9
 refine G ?_;clear G;exact wpAny_mono (m5 FO hy I₂ R₂ M.post) (fun ξ ξ q=>(q.after (S₁.trans S₂)).next) fun ξ ξ e=>e
theorem s7 {i:Nat} {y:Str} {vs:List V} {xs:List Value} {K:St→Prop} (FO:br c F) (hy:c.isP i y=true) (I:bt w h₁ os F own Z m st s) (R:aH w Z vs xs) (hc:bQ st i (.own (.list vs)) K):
  wpAny (model P0 w) A (storeName F.env y (.ref s.heap.objs.size)) (fun ξ s'=>PN w h₁ os F own Z s.heap K s') E { s with heap:=s.heap.push { cls:=.type "list",data:=.seq ⟨xs⟩ } }:=by
 have no:=cD s.heap (Nat.le_refl _)
 have k:∀b o,s.heap.get? b=some o→(s.heap.push { cls:=.type "list",data:=.seq ⟨xs⟩ }).get? b=some o:=fun b o e=>Heap.get?_push_of_some _ e
 have on0:∀b,(fun b=>if b=s.heap.objs.size then some 0 else none:ch) b=some 0→b=s.heap.objs.size:=fun b e=>by
  by_cases q:b=s.heap.objs.size
  ·exact q
  ·dsimp only at e;rw[if_neg q] at e;exact nn e
 obtain⟨I',S'⟩:=I.adopt (Z':=Z) (s':={ s with heap:=s.heap.push { cls:=.type "list",data:=.seq ⟨xs⟩ } }) (i:=i) (on:=fun b=>if b=s.heap.objs.size then some 0 else none) ⟨fun ξ ξ e=>e,fun b o e=>k b o (I.zin b o e),fun ξ ξ e=>.inl e⟩ k I.gens I.os
  (fun b e=>by rw[on0 b e];exact no) (fun b e=>by rw[on0 b e];exact I.zfree no) (fun b e=>by rw[on0 b e];exact⟨_,Heap.get?_push_size _ rfl⟩)
 refine wpAny_mono (m5 FO hy I' (.list (if_pos (if_pos rfl)) (Heap.get?_push_size _ rfl) R) hc) (fun ξ ξ q=>q.after S') fun ξ ξ e=>e
theorem rV {i:Nat} {l:Mine.E} {y:Str} {p q pos:Pos} {es:List PySem.Expr} {g:Nat} (FO:br c F) (hy:c.isP i y=true) (hn:es.length≤100) (hl:SL w h₁ os A F T call l es):SS w h₁ os A F (aq T call g (.setList i l)) (exec (.Assign [.Name y p] (.List es q) pos) F.env):=fun own Z m st s K I hc=>by
 dsimp only[aq] at hc
 refine wpAny_Assign_Name (wpAny_List (wpAny_mono (hl _ _ _ _ _ _ q I hc) (fun vs s₁ q=>?_) fun ξ ξ f=>f)) rfl
 refine bc fun G=>?_;obtain⟨e,own₁,Z₁,l₁,st₁,I₁,S₁,R₁,k₁⟩:=q
 obtain⟨l',e2,k₁⟩:=di k₁
 refine G ?_;clear G;cases e2
 refine⟨by rw[e];exact ey (Nat.le_trans hn (by decide)),?_⟩
 exact wpAny_mono (s7 FO hy I₁ R₁ k₁) (fun ξ ξ q=>(q.after S₁).next) fun ξ ξ e=>e
set_option tactic.hygienic true in
theorem uE {i:Nat} {a b:Mine.E} {y:Str} {p q pos:Pos} {l r:PySem.Expr} {op:Operator} {g:Nat} (FO:br c F) (hy:c.isP i y=true) (ho:iY .add op=true) (ha:SE w h₁ os A F T call a l) (hb:SE w h₁ os A F T call b r):
  SS w h₁ os A F (aq T call g (.setAdd i a b)) (exec (.Assign [.Name y p] (.BinOp l op r q) pos) F.env):=fun own Z m st s K I hc=>by
 dsimp only[aq] at hc
 rw[iQ ho]
 refine wpAny_Assign_Name (wpAny_BinOp (ha.use I hc fun own₁ Z₁ v₁ st₁ x₁ s₁ I₁ S₁ R₁ k₁=>hb.use I₁ k₁ fun own₂ Z₂ v₂ st₂ x₂ s₂ I₂ S₂ R₂ k₂=>?_)) rfl
 split at k₂
 ·rename_i x y
  refine ke I₂.zin k₂.1 (R₁.mono S₂.z) R₂ fun xs R=>?_
  exact wpAny_mono (s7 FO hy I₂ R k₂.2) (fun ξ ξ q=>(q.after (S₁.trans S₂)).next) fun ξ ξ e=>e
 ·exact k₂.elim
theorem jG {st:St} {i:Nat} {f:Nat→List (Nat×V)→(List (Nat×V)→(St→Prop)→Prop)→Prop} {α:Prop} (h:mb st i f) (k:∀l C fs,st[i]?=some l→(l=.own (.inst C fs)∨l=.inh (.inst C fs))→f C fs (fun fs' K=>K (st.set i (fS l (.inst C fs'))))→α):α:=by
 refine eh h fun l mo hi hl h=>?_
 obtain⟨C,fs,rfl,h⟩:=AU h
 have h:f C fs (fun fs'=>mM st i (fS l (.inst C fs'))):=h
 rw[show(fun fs'=>mM st i (fS l (.inst C fs')))=fun fs' K=>K (st.set i (fS l (.inst C fs'))) from funext fun ξ=>funext fun ξ=>gM] at h
 exact k l C fs hi hl h
theorem qF {i k:Nat} {l:bB} {C:Nat} {fs:List (Nat×V)} {a:Addr} {y:Nat×Bool} {v:V} {val:Value} {K:Fl→St→Prop} {Q:Unit→Shared→Prop} (Fa:aV w h₁) (I:bt w h₁ os F own Z m st s) (hi:st[i]?=some l) (hl:l=.own (.inst C fs)∨l=.inh (.inst C fs)) (hy:F.ns[i]?=some y)
  (H:aU F s.heap own m y (.ref a)) (R:bN w Z own s.heap (dq i l) (.inst C fs) a) (ha:l=.inh (.inst C fs)→a=F.inh) (Rv:aA w Z v val) (hk:dY C k=true) (hn:fs.length≤100) (hc:K .nxt (st.set i (fS l (.inst C (hG k v fs)))))
  (q:∀s',PS w h₁ os F own Z s.heap K .next s'→Q () s'):wpAny (model P0 w) A (setAttr (.ref a) (bw k) val) Q E s:=by
 refine oR (I.facts Fa) R Rv hk hn fun h' R' k' d'=>q _ ?_
 obtain⟨I',S'⟩:=I.upd (s':={ s with heap:=h',toks:=s.toks+1+1 }) hi hl hy H ha R' k' d' rfl rfl
 exact⟨_,_,_,_,.nxt,I',S',.nxt,hc⟩
theorem rB {i k:Nat} {e:Mine.E} {x n:Str} {p q pos:Pos} {v:PySem.Expr} {g:Nat} (FO:br c F) (Fa:aV w h₁) (hx:c.isL i x=true) (hn:iz k n=true) (hv:dE v=true) (he:SE w h₁ os A F T call e v):
  SS w h₁ os A F (aq T call g (.setAttr i k e)) (exec (.Assign [.Attribute (.Name x p) n q] v pos) F.env):=fun own Z m st s K I hc=>by
 dsimp only[aq] at hc
 rw[cC hn]
 refine plainObj_wpAny_Assign_Attribute (he.use I hc fun own₁ Z₁ v₁ st₁ x₁ s₁ I₁ S₁ R₁ k₁=>?_) (nW hv _ _ _)
 refine jG k₁ fun l C fs hi hl hk=>?_
 refine bc fun G=>?_;obtain⟨y,a,hy,H,R,ha⟩:=nD FO hx I₁ hi hl
 refine G ?_;clear G;exact ci FO hx I₁ hy H (qF Fa I₁ hi hl hy H R ha R₁ hk.1.1 hk.1.2 hk.2 fun s' p=>p.after S₁)
theorem rG {i k:Nat} {o:pd} {e:Mine.E} {x n:Str} {p q pos:Pos} {op:Operator} {v:PySem.Expr} {g:Nat} (FO:br c F) (Fa:aV w h₁) (hx:c.isL i x=true) (hn:iz k n=true) (ho:iY o op=true) (he:SE w h₁ os A F T call e v):
  SS w h₁ os A F (aq T call g (.augAttr i k o e)) (exec (.AugAssign (.Attribute (.Name x p) n q) op v pos) F.env):=fun own Z m st s K I hc=>by
 dsimp only[aq] at hc
 rw[cC hn,iQ ho]
 refine jG hc fun l C fs hi hl hk=>?_
 refine bc fun G=>?_;obtain⟨y,a,hy,H,R,ha⟩:=nD FO hx I hi hl
 obtain⟨old,e0,hk⟩:=aT hk
 refine G ?_;clear G;refine wpAny_AugAssign_AttributeAny (ci FO hx I hy H (R.attr (I.facts Fa) e0 fun xo t Ro=>?_))
 have I':bt w h₁ os F own Z m st { s with toks:=t }:=I.grow (fun ξ ξ e=>e) rfl rfl
 refine he.use I' hk fun own₁ Z₁ v₁ st₁ x₁ s₁ I₁ S₁ R₁ k₁=>?_
 refine bc fun G=>?_;obtain⟨r,e1,kz,k₁⟩:=aT k₁
 refine G ?_;clear G;refine yl e1 kz (Ro.mono S₁.z) R₁ fun val t₂ R₂=>?_
 have I₂:bt w h₁ os F own₁ Z₁ m st₁ { s₁ with toks:=t₂ }:=I₁.grow (fun ξ ξ e=>e) rfl rfl
 refine jG k₁ fun l' C' fs' hi' hl' hk'=>?_
 refine bc fun G=>?_;obtain⟨y',a',hy',H',R',ha'⟩:=nD FO hx I₂ hi' hl'
 have:y=y':=by rw[hy] at hy';exact Option.some.inj hy'
 subst this
 have:Value.ref a=.ref a':=(H.step S₁).fun H'
 refine G ?_;clear G;cases this
 exact qF Fa I₂ hi' hl' hy H' R' ha' R₂ hk'.1.1 hk'.1.2 hk'.2 fun s' p=>p.after S₁
theorem Fj {i:Nat} {o:pd} {e:Mine.E} {x:Str} {p pos:Pos} {op:Operator} {v:PySem.Expr} {g:Nat} (FO:br c F) (hx:c.isP i x=true) (ho:iY o op=true) (he:SE w h₁ os A F T call e v):
  SS w h₁ os A F (aq T call g (.aug i o e)) (exec (.AugAssign (.Name x p) op v pos) F.env):=fun own Z m st s K I hc=>by
 dsimp only[aq] at hc
 rw[iQ ho]
 refine bc fun G=>?_;obtain⟨old,hi,hc⟩:=pt hc
 obtain⟨k,e1,e2,e3,e4⟩:=rQ hx
 have hy:F.ns[i]?=some (k,false):=by rw[FO.ns];exact e1
 have L:=I.locs i _ _ hy hi
 subst e2
 unfold Cx.kind at e4
 rw[← FO.sc] at e4
 refine G ?_;clear G;induction L using bI.vE with
 |v H R=>
  unfold aU at H
  rw[if_neg (by exact Bool.false_ne_true)] at H
  refine wpAny_AugAssign_Name (wpAny_loadName_local FO.kind e4 I.ns H (he.use I hc fun own₁ Z₁ v₁ st₁ x₁ s₁ I₁ S₁ R₁ k₁=>?_))
  refine bc fun G=>?_;obtain⟨r,e5,kz,k₁⟩:=aT k₁
  refine G ?_;clear G;refine yl e5 kz (R.mono S₁.z) R₁ fun val t₂ R₂=>?_
  have I₂:bt w h₁ os F own₁ Z₁ m st₁ { s₁ with toks:=t₂ }:=I₁.grow (fun ξ ξ e=>e) rfl rfl
  exact wpAny_mono (gS FO hx I₂ R₂ k₁) (fun ξ ξ q=>(q.after S₁).next) fun ξ ξ e=>e
theorem Fg {i:Nat} {e:Mine.E} {x n:Str} {p q pos cpos:Pos} {v:PySem.Expr} {g:Nat} (FO:br c F) (hx:c.isL i x=true) (hn:iz tt n=true) (hl':q.endLine=cpos.line) (hs:∀y p,v≠.Starred y p) (he:SE w h₁ os A F T call e v):
  SS w h₁ os A F (aq T call g (.app i e)) (exec (.Expr (.Call (.Attribute (.Name x p) n q) [v] [] cpos) pos) F.env):=fun own Z m st s K I hc=>by
 have en:n="append":=(cC hn).trans (by decide+kernel)
 subst en
 dsimp only[aq] at hc
 refine fk hc fun l vs hi hl hc=>?_
 refine bc fun G=>?_;obtain⟨y,a,n,xs,hy,H,ht,ho,R,ha⟩:=gv FO hx I hi hl
 refine G ?_;clear G;refine wpAny_Expr_any (ni rfl hl' (by show 1 < 30;decide) (dA fun y hy=>by cases List.mem_singleton.mp hy;exact hs) (ci FO hx I hy H fun pl=>?_)) (by unfold interactive;rw[FO.kind];rfl) rfl
 refine getMethod_builtin (T:="list") (id:="list.append") ⟨_,ho,rfl⟩ PySem.F.plainAttrs_list PySem.F.slot_list_append PySem.F.type_list_append (fun b e=>by cases e;exact⟨_,ho,rfl⟩) ?_
 rw[cH hs]
 refine P.append_list (he.use I hc fun own₁ Z₁ v₁ st₁ x₁ s₁ I₁ S₁ R₁ k₁=>?_)
 refine fk k₁ fun l' vs' hi' hl'' hk=>?_
 refine bc fun G=>?_;obtain⟨y',a',n',xs',hy',H',ht',ho',R',ha'⟩:=gv FO hx I₁ hi' hl''
 have:y=y':=by rw[hy] at hy';exact Option.some.inj hy'
 subst this
 have:Value.ref a=.ref a':=(H.step S₁).fun H'
 refine G ?_;clear G;cases this
 refine⟨⟨xs'⟩,n',by show xs'.length≤sizeLine;rw[← R'.len];exact ey (Nat.le_of_lt hk.1),ho',?_⟩
 obtain⟨I₂,S₂⟩:=pD (t:=s₁.toks) (vs':=vs'++[v₁]) (xs':=xs'++[x₁]) (f:=Obj.mapSeq fun ys=>ys.push x₁) I₁ hi' hl'' hy H' ht' ho' ha' (by unfold Obj.mapSeq;dsimp only;rw[show(Array.mk xs').push x₁=⟨xs'++[x₁]⟩ from Array.toList_inj.mp (Array.toList_push ..)]) (R'.app (.cons R₁ .nil))
 exact⟨_,_,_,_,.nxt,I₂,S₁.trans S₂,.nxt,hk.2⟩
theorem Cz {e:Mine.E} {v:PySem.Expr} {pos:Pos} {g:Nat} (FO:br c F) (hv:dE v=true) (he:SE w h₁ os A F T call e v):SS w h₁ os A F (aq T call g (.expr e)) (exec (.Expr v pos) F.env):=fun own Z m st s K I hc=>by
 dsimp only[aq] at hc
 exact wpAny_Expr_any (he.use I hc fun own₁ Z₁ v₁ st₁ x₁ s₁ I₁ S₁ R₁ k₁=>⟨_,_,_,_,.nxt,I₁,S₁,.nxt,k₁⟩) (by unfold interactive;rw[FO.kind];rfl) (nW hv _ _ _)
theorem Fv {e:Mine.E} {v:PySem.Expr} {pos:Pos} {g:Nat} (he:SE w h₁ os A F T call e v):SS w h₁ os A F (aq T call g (.ret e)) (exec (.Return (some v) pos) F.env):=fun own Z m st s K I hc=>by
 dsimp only[aq] at hc
 exact wpAny_Return_some (he.use I hc fun own₁ Z₁ v₁ st₁ x₁ s₁ I₁ S₁ R₁ k₁=>⟨_,_,_,_,_,I₁,S₁,.ret R₁,k₁⟩)
theorem GV {t:Mine.E} {a b:S} {e:PySem.Expr} {l r:List Stmt} {pos:Pos} {g:Nat} (ht:ST w h₁ os A F T call t e) (ha:SS w h₁ os A F (aq T call g a) (execs l F.env)) (hb:SS w h₁ os A F (aq T call g b) (execs r F.env)):
  SS w h₁ os A F (aq T call g (.ite t a b)) (exec (.If e l r pos) F.env):=fun own Z m st s K I hc=>by
 dsimp only[aq] at hc
 refine wpAny_If (ht.use (K:=fun t st=>cond t (aq T call g a st K) (aq T call g b st K)) I hc fun own₁ Z₁ t st₁ s₁ I₁ S₁ k₁=>?_)
 cases t with
 |true=>exact wpAny_mono (ha _ _ _ _ _ _ I₁ k₁) (fun ξ ξ p=>p.after S₁) fun ξ ξ f=>f
 |false=>exact wpAny_mono (hb _ _ _ _ _ _ I₁ k₁) (fun ξ ξ p=>p.after S₁) fun ξ ξ f=>f
theorem vw {i:Nat} {x:Str} {p:Pos} {K:Bool→St→Prop} (FO:br c F) (hx:c.isL i x=true) (I:bt w h₁ os F own Z m st s) (hc:eV st i fun l ξ=>l.length≤bA∧K (!l.isEmpty) st):
  wpAny (model P0 w) A (isTrue (.Name x p) F.env (eval (.Name x p) F.env)) (PT w h₁ os F own Z m s.heap K) (fun ξ ξ=>False) s:=by
 refine fk hc fun l vs hi hl hk=>?_
 refine bc fun G=>?_;obtain⟨y,a,n,xs,hy,H,ht,ho,R,ha⟩:=gv FO hx I hi hl
 refine G ?_;clear G;refine isTrue_plain (ci FO hx I hy H ?_) rfl
 refine wpAny_truthy_list (items:=⟨xs⟩) ⟨_,ho,rfl,n,rfl⟩ (by have:=pE (R.len▸hk.1);exact this) ?_
 rw[show(Array.mk xs).isEmpty=vs.isEmpty from by cases R<;>rfl]
 exact PT.now I hk.2
noncomputable def wq (w:World) (h₁:Heap) (os:OsState) (A:Around) (F:Fm) (T:fY) (call:aM) (g:Nat) (e:S) (x:qk):Prop:=match x with
 |.s b=>SS w h₁ os A F (aq T call g e) (exec b F.env)
 |.l bs=>SS w h₁ os A F (aq T call g e) (execs bs F.env)
theorem bT {g:Nat} {e:S} {x:qk} {f:Stmt→Bool} (h:cL x f=true) (k:∀b,f b=true→SS w h₁ os A F (aq T call g e) (exec b F.env)):wq w h₁ os A F T call g e x:=by
 cases x with
 |s b=>exact k b h
 |l=>exact ff h
noncomputable abbrev XS (w:World) (h₁:Heap) (os:OsState) (A:Around) (F:Fm) (T:fY) (call:aM) (g:Nat) (e:S) (b:Stmt):Prop:=SS w h₁ os A F (aq T call g e) (exec b F.env)
def QU (w:World) (h₁:Heap) (os:OsState) (A:Around) (F:Fm) (T:fY) (call:aM) (c:Cx) (g:Nat) (e:S):Prop:=∀x:qk,jq e c x=true→wq w h₁ os A F T call g e x
def QG (w:World) (h₁:Heap) (os:OsState) (A:Around) (F:Fm) (T:fY) (call:aM) (c:Cx):Prop:=∀(e:Mine.E) (x:qP),chk e c x=true→pY w h₁ os A F T call e x
theorem CH (B:Bc w h₁ os A T call) {g:Nat} (hP:c.P=w.params) (FO:br c F):∀e:S,QU w h₁ os A F T call c g e:=by
 have OK:QG w h₁ os A F T call c:=fun e x h=>sa B e c F x hP FO h
 intro e
 induction e with
 |nil=>
  intro x h
  cases x with
  |s=>exact ff h
  |l xs=>cases xs<;>first|((first|exact ff h|cases h);done)|exact fun own Z m st s K I hc=>wpAny_execs_nil ⟨_,_,_,_,.nxt,I,Step.refl ..,.nxt,hc⟩
 |cons a l iha ihl=>
  intro x h
  cases x with
  |s=>exact ff h
  |l xs=>cases xs<;>first|(exact ff h;done)|exact Cd (iha _ (aD h)) (ihl _ (am h))
 |bad=>exact fun x ξ=>by cases x<;>exact fun own Z m st s K I hc=>(show False from hc).elim
 |set i e=>
  exact fun x h=>bT h fun b h=>cF (P:=XS w h₁ os A F T call g (.set i e)) h fun t v pos h=>aF (P:=fun t=>XS w h₁ os A F T call g (.set i e) (.Assign [t] v pos)) (aD h) fun y p h1=>EQ FO h1 (aD (am h)) (OK _ _ (am (am h))).1
 |setC i k fr rng elt iter=>
  intro x h
  refine bT h fun b h=>cF (P:=XS w h₁ os A F T call g (.setC i k fr rng elt iter)) h fun t v pos h=>?_
  have hs:=BP (l:=pos.line) FO (aD (am h))
  revert hs
  refine jr (P:=fun v=>swapsWith v (some t) pos.line F.env=pure true→XS w h₁ os A F T call g (.setC i k fr rng elt iter) (.Assign [t] v pos)) (am (am h)) fun el y' it sc px pp hk=>?_
  refine aF (P:=fun t=>swapsWith (.ListComp el [⟨.Name y' px,it,[],0⟩] sc pp) (some t) pos.line F.env=pure true→XS w h₁ os A F T call g (.setC i k fr rng elt iter) (.Assign [t] (.ListComp el [⟨.Name y' px,it,[],0⟩] sc pp) pos)) (aD h) fun y p h1 hs=>?_
  have k2:=am hk
  have k3:=am k2
  have k4:=am k3
  exact rL B.hh FO hs h1 (aD hk) (aD k2) (aD k3) (q9 B hP FO (fun x h=>sa B iter c F x hP FO h) (am k4)) fun F' FO'=>(sa B elt ⟨c.P,fg sc c.sc,bH c k fr⟩ F' _ hP FO' (aD k4)).1
 |setList i l=>
  exact fun x h=>bT h fun b h=>cF (P:=XS w h₁ os A F T call g (.setList i l)) h fun t v pos h=>aF (P:=fun t=>XS w h₁ os A F T call g (.setList i l) (.Assign [t] v pos)) (aD h) fun y p h1=>mD (P:=fun v=>XS w h₁ os A F T call g (.setList i l) (.Assign [.Name y p] v pos)) (am h) fun es q h=>rV FO h1 (Nat.le_of_ble_eq_true (aD h)) (OK _ _ (am h))
 |setNew i k l=>
  exact fun x h=>bT h fun b h=>cF (P:=XS w h₁ os A F T call g (.setNew i k l)) h fun t v pos h=>aF (P:=fun t=>XS w h₁ os A F T call g (.setNew i k l) (.Assign [t] v pos)) (aD h) fun y p h1=>db (P:=fun v=>XS w h₁ os A F T call g (.setNew i k l) (.Assign [.Name y p] v pos)) (am h) fun q as p' h=>aF (P:=fun q=>XS w h₁ os A F T call g (.setNew i k l) (.Assign [.Name y p] (.Call q as [] p') pos)) (aD h) fun z pz h2=>ur B.calls B.tab FO B.facts hP h1 h2 (aD (am h)) (ew (am (am h))) (OK _ _ (am (am h)))
 |setAdd i a b=>
  exact fun x h=>bT h fun y h=>cF (P:=XS w h₁ os A F T call g (.setAdd i a b)) h fun t v pos h=>aF (P:=fun t=>XS w h₁ os A F T call g (.setAdd i a b) (.Assign [t] v pos)) (aD h) fun y p h1=>p5 (P:=fun v=>XS w h₁ os A F T call g (.setAdd i a b) (.Assign [.Name y p] v pos)) (am h) fun op l r q h=>uE FO h1 (aD h) (OK _ _ (aD (am h))).1 (OK _ _ (am (am h))).1
 |setTup is e=>
  exact fun x h=>bT h fun b h=>cF (P:=XS w h₁ os A F T call g (.setTup is e)) h fun t v pos h=>j3 (P:=fun t=>XS w h₁ os A F T call g (.setTup is e) (.Assign [t] v pos)) (aD h) fun es k p h1=>vz B.hh FO h1 (aD (am h)) (aD (am (am h))) (OK _ _ (am (am (am h)))).1
 |setAttr i k e=>
  exact fun x h=>bT h fun b h=>cF (P:=XS w h₁ os A F T call g (.setAttr i k e)) h fun t v pos h=>gT (P:=fun t=>XS w h₁ os A F T call g (.setAttr i k e) (.Assign [t] v pos)) (aD h) fun o n p h1=>aF (P:=fun o=>XS w h₁ os A F T call g (.setAttr i k e) (.Assign [.Attribute o n p] v pos)) (am h1) fun y q h5=>rB FO B.facts h5 (aD h1) (aD (am h)) (OK _ _ (am (am h))).1
 |augAttr i k o e=>
  exact fun x h=>bT h fun b h=>qB (P:=XS w h₁ os A F T call g (.augAttr i k o e)) h fun t op v pos h=>gT (P:=fun t=>XS w h₁ os A F T call g (.augAttr i k o e) (.AugAssign t op v pos)) (aD h) fun o' n p h1=>aF (P:=fun o'=>XS w h₁ os A F T call g (.augAttr i k o e) (.AugAssign (.Attribute o' n p) op v pos)) (am h1) fun y q h5=>rG FO B.facts h5 (aD h1) (aD (am h)) (OK _ _ (am (am h))).1
 |aug i o e=>
  exact fun x h=>bT h fun b h=>qB (P:=XS w h₁ os A F T call g (.aug i o e)) h fun t op v pos h=>aF (P:=fun t=>XS w h₁ os A F T call g (.aug i o e) (.AugAssign t op v pos)) (aD h) fun y p h1=>Fj FO h1 (aD (am h)) (OK _ _ (am (am h))).1
 |app i e=>
  exact fun x h=>bT h fun b h=>ma (P:=XS w h₁ os A F T call g (.app i e)) h fun v pos h=>ej (P:=fun v=>XS w h₁ os A F T call g (.app i e) (.Expr v pos)) h fun o n as p p' hl ξ ξ h=>aF (P:=fun o=>XS w h₁ os A F T call g (.app i e) (.Expr (.Call (.Attribute o n p) as [] p') pos)) (aD (am h)) fun y q h5=>qe (P:=fun as=>XS w h₁ os A F T call g (.app i e) (.Expr (.Call (.Attribute (.Name y q) n p) as [] p') pos)) (am (am h)) fun r hs h3=>Fg FO h5 (aD h) hl hs (OK _ _ h3).1
 |expr e=>
  exact fun x h=>bT h fun b h=>ma (P:=XS w h₁ os A F T call g (.expr e)) h fun v pos h=>Cz FO (aD h) (OK _ _ (am h)).1
 |ret e=>
  exact fun x h=>bT h fun b h=>yL (P:=XS w h₁ os A F T call g (.ret e)) h fun v pos h=>Fv (OK _ _ h).1
 |ite t a b iha ihb=>
  exact fun x h=>bT h fun y h=>v6 (P:=XS w h₁ os A F T call g (.ite t a b)) h fun e l r pos h=>GV (OK _ _ (aD h)).2 (iha _ (aD (am h))) (ihb _ (am (am h)))
 |whil t b ihb=>
  exact fun x h=>bT h fun y h=>lY (P:=XS w h₁ os A F T call g (.whil t b)) h fun e l pos h=>qC (fun own Z m st s K I hc=>(OK _ _ (aD h)).2 own Z m st s K I hc) (ihb _ (am h))
 |whilO i b ihb=>
  exact fun x h=>bT h fun y h=>lY (P:=XS w h₁ os A F T call g (.whilO i b)) h fun e l pos h=>aF (P:=fun e=>XS w h₁ os A F T call g (.whilO i b) (.While e l [] pos)) (aD h) fun y p h1=>qC (fun own Z m st s K I hc=>vw FO h1 I hc) (ihb _ (am h))
 |forIn is e b ihb=>
  exact fun x h=>bT h fun y h=>qr (P:=XS w h₁ os A F T call g (.forIn is e b)) h fun t it l pos h=>vU (rng:=false) B.hh FO (aD h) (iX (aD (am h))) (fun ξ ξ ξ h=>h) (ihb _ (am (am (am h)))) (yK B.hh (OK _ _ (aD (am (am h)))).1)
 |forR i e b ihb=>
  exact fun x h=>bT h fun y h=>qr (P:=XS w h₁ os A F T call g (.forR i e b)) h fun t it l pos h=>vU (rng:=true) (is:=[i]) B.hh FO (aD h) (iX (db (P:=fun it=>jO it=true) (aD (am h)) fun ξ ξ ξ ξ=>rfl)) (fun ξ ξ ξ h=>h) (ihb _ (am (am h))) (q9 (rng:=true) B hP FO (fun x h=>OK e x h) (aD (am h)))
 |brk=>
  exact fun x h=>bT h fun y h=>yo (P:=XS w h₁ os A F T call g .brk) h fun p=>fun own Z m st s K I hc=>wpAny_Break ⟨_,_,_,_,.brk,I,Step.refl ..,.brk,hc⟩
 |cnt=>
  exact fun x h=>bT h fun y h=>vV (P:=XS w h₁ os A F T call g .cnt) h fun p=>fun own Z m st s K I hc=>wpAny_Continue ⟨_,_,_,_,.cnt,I,Step.refl ..,.cnt,hc⟩
 |ret0=>
  exact fun x h=>bT h fun y h=>uC (P:=XS w h₁ os A F T call g .ret0) h fun p=>fun own Z m st s K I hc=>wpAny_Return_none ⟨_,_,_,_,.ret .none,I,Step.refl ..,.ret .none,hc⟩
 |try_ b ihb=>
  intro x h
  refine bT h fun y h=>w9 (P:=XS w h₁ os A F T call g (.try_ b)) h fun l h₀ hs pos h=>?_
  refine fun own Z m st s K I hc=>wpAny_Try_except (wpAny_mono (ihb _ h own Z m st s K I hc) (fun f s₁ q=>?_) fun ξ ξ f=>f.elim)
  cases f<;>first|exact q|exact wpAny_execs_nil q
end
theorem lI {n:Str}:∀{ns:List Str} {vs:List Value},ns.length=vs.length→n∈ns→((ns.zip vs).lookup n).isSome=true
 |[],_,_,h=>absurd h List.not_mem_nil
 |k::ns,[],h,_=>by cases h
 |k::ns,v::vs,h,hm=>by
  rw[List.zip_cons_cons,List.lookup_cons]
  by_cases q:n=k
  ·subst q;rw[beq_self_eq_true];rfl
  ·rw[beq_eq_false_iff_ne.mpr q]
   rcases List.mem_cons.mp hm with e|hm
   ·exact absurd e q
   ·exact lI (by simpa using h) hm
theorem lK:∀{ns:List Str} {vs:List Value} (pre:List (Str×Value)),ns.length=vs.length→ns.Nodup→(∀n∈ns,pre.lookup n=none)→ns.filterMap (fun n=>((pre++ns.zip vs).lookup n).map (n,·))=ns.zip vs
 |[],_,_,_,_,_=>rfl
 |k::ns,[],_,h,_,_=>by cases h
 |k::ns,v::vs,pre,h,hn,hp=>by
  have e:(pre++(k::ns).zip (v::vs)).lookup k=some v:=by
   have h0:=hp k (List.mem_cons_self ..)
   rw[List.zip_cons_cons]
   clear hn hp h
   induction pre with
   |nil=>rw[List.nil_append,List.lookup_cons,beq_self_eq_true]
   |cons p r ih=>
    rw[List.lookup_cons] at h0
    rw[List.cons_append,List.lookup_cons]
    cases q:k == p.1 with
    |true=>rw[q] at h0;cases h0
    |false=>rw[q] at h0;exact ih h0
  rw[List.filterMap_cons,e]
  show(k,v)::_=_
  rw[List.zip_cons_cons]
  congr 1
  have:=lK (ns:=ns) (vs:=vs) (pre++[(k,v)]) (by simpa using h) (List.nodup_cons.mp hn).2 (fun n hn'=>by
   have h1:=hp n (List.mem_cons_of_mem _ hn')
   have ne:n≠k:=fun q=>(List.nodup_cons.mp hn).1 (q▸hn')
   clear hn hp h e
   induction pre with
   |nil=>rw[List.nil_append,List.lookup_cons,beq_eq_false_iff_ne.mpr ne];rfl
   |cons p r ih=>
    rw[List.lookup_cons] at h1
    rw[List.cons_append,List.lookup_cons]
    cases q:n == p.1 with
    |true=>rw[q] at h1;cases h1
    |false=>rw[q] at h1;exact ih h1)
  rw[List.append_assoc] at this
  exact this
theorem PB {α:Type} {M:Model} {A:Around} {Q:α→Shared→Prop} {E:Value→Shared→Prop} {s:Shared} {c:Prop} [Decidable c] {x y:Sem α} (h:¬c) (k:wpAny M A y Q E s):wpAny M A (if c then x else y) Q E s:=(if_neg h).symm▸k
theorem JG {α β:Type} {M:Model} {A:Around} {Q:β→Shared→Prop} {E:Value→Shared→Prop} {s:Shared} {l:List α} {i:β} {f:α→β→Sem (ForInStep β)} (e:l=[]) (k:Q i s):wpAny M A (forIn l i f) Q E s:=by
 subst e;exact wpAny_pure k
theorem uk {nm qn:Str} {vals:List Value} {ps:List Arg} {kd:List (Option PySem.Expr)} {df:List PySem.Expr} {dv:Value} {a2 a3 a4 a5 a7 a8 a9 b0 b1 b2 b3} (hd:dv=.none) (hl:vals.length=ps.length) (hn:(ps.map (·.arg)).Nodup) {s:Shared}:
 BindsTo s ⟨nm,qn,⟨[],ps,none,[],kd,none,df⟩,a2,a3,a4,a5,dv,a7,a8,a9,b0,b1,b2,b3⟩ ⟨vals,[]⟩ ((ps.map (·.arg)).zip vals):=fun M A E Q hq=>by
 have hL:(ps.map (·.arg)).length=vals.length:=by rw[List.length_map,hl]
 show wpAny M A (seqItems? dv >>= _) Q E s
 subst hd
 refine wpAny_bind (wpAny_pure ?_)
 refine PB ?_ ?_
 ·show ¬(decide (vals.length > (ps.map (·.arg)).length)&&true)=true
  rw[hL,decide_eq_false (Nat.lt_irrefl _)];exact Bool.false_ne_true
 refine PB ?_ ?_
 ·have e1:∀k,((ps.map (·.arg)).take k).filter (fun n=>(((ps.map (·.arg)).zip vals).lookup n).isNone)=[]:=fun k=>by
   rw[List.filter_eq_nil_iff]
   intro n hm q
   have:=lI hL (List.mem_of_mem_take hm)
   rw[Option.isNone_iff_eq_none.mp q] at this
   exact ff this
  exact fun q=>ff ((congrArg (fun l:List Str=>!l.isEmpty) (e1 _)).symm.trans q)
 refine wpAny_bind (JG ?_ ?_)
 ·exact(congrArg (List.zip _) List.drop_nil).trans List.zip_nil_right
 refine wpAny_bind (JG rfl ?_)
 refine PB Bool.false_ne_true ?_
 refine wpAny_pure ?_
 have e2:(ps.map (·.arg)).filterMap (fun n=>(((ps.map (·.arg)).zip vals).lookup n).map (n,·))=(ps.map (·.arg)).zip vals:=lK [] hL hn fun ξ ξ=>rfl
 exact(congrArg (fun l=>Q l s) ((congrArg (List.filterMap _) (List.append_nil _)).trans e2)).mpr hq
theorem r9 {s:Shared} {fd:FuncData} {vals:List Value} {ps:List Arg} (hp:fd.params=⟨[],ps,none,[],fd.params.kw_defaults,none,fd.params.defaults⟩) (hd:fd.defaults=.none) (hl:vals.length=ps.length) (hn:(ps.map (·.arg)).Nodup):
  BindsTo s fd ⟨vals,[]⟩ ((ps.map (·.arg)).zip vals):=by
 cases fd;revert hp;dsimp only at hd ⊢;subst hd;intro hp;rw[hp];exact uk rfl hl hn
structure Av (w:World) (fn:Fn) (fd:FuncData) (b:List Stmt):Prop where
 body:fd.body=.stmts b
 co:fd.scope.isCoroutine=false
 gen:fd.scope.isGenerator=false
 kind:fd.scope.kind=.function
 clo:fd.closure=[]
 glob:fd.globals=mainGlobals
 blt:fd.builtins=builtinsNs
 code:∃x∈Ay,fd.code=.ref x.1∧fd.qualname=bw x.2
 chk:jq fn.body ⟨w.params,fd.scope,fn.ns⟩ (.l b)=true
 dist:(fn.ns.map fun x=>bw x.1).Nodup
 len:fn.np+fn.dflt.length≤fn.ns.length
 loc:∀x∈fn.ns,x.2=false→fd.scope.names.lookup (bw x.1)=some .local
 cel:∀x∈fn.ns,x.2=true→fd.scope.names.lookup (bw x.1)=some .cell
 bind:∀(s:Shared) (vals:List Value),aV w s.heap→vals.length=fn.np→∃dv,aH w (fun ξ=>none) fn.dflt dv∧BindsTo s fd ⟨vals,[]⟩ (((fn.ns.take (fn.np+fn.dflt.length)).map fun x=>bw x.1).zip (vals++dv))
inductive Bh (w:World) (f:Nat) (fn:Fn):Prop
 |mk (o:Obj) (fd:FuncData) (b:List Stmt) (e:jD w.params f=some o) (hd:o.data=.func fd) (D:Av w fn fd b)
theorem oP (P:Params):(dQ P).noLimitOk=true:=by kernel_rfl
theorem nO {kindOf:Str→Option NameKind} {n:Str}:∀{binds:List (Str×Value)} {m:Str→Option Value},n∉binds.map (·.1)→bindL kindOf binds m n=m n
 |[],_,_=>rfl
 |(k,u)::r,m,h=>by
  have h1:n≠k:=fun q=>h (by rw[q];exact List.mem_cons_self ..)
  have h2:n∉r.map (·.1):=fun q=>h (List.mem_cons_of_mem _ q)
  show bindL kindOf r _ n=_
  rw[nO h2]
  split
  ·exact if_neg h1
  ·rfl
theorem nE {kindOf:Str→Option NameKind} {n:Str}:∀{binds:List (Str×Value)} {m:Str→Option Value},n∉binds.map (·.1)→bindC kindOf binds m n=m n
 |[],_,_=>rfl
 |(k,u)::r,m,h=>by
  have h1:n≠k:=fun q=>h (by rw[q];exact List.mem_cons_self ..)
  have h2:n∉r.map (·.1):=fun q=>h (List.mem_cons_of_mem _ q)
  show bindC kindOf r _ n=_
  rw[nE h2]
  split
  ·rfl
  ·exact if_neg h1
theorem pB {kindOf:Str→Option NameKind} {n:Str} {v:Value} (hk:kindOf n=some .local):∀{binds:List (Str×Value)} {m:Str→Option Value},(binds.map (·.1)).Nodup→(n,v)∈binds→bindL kindOf binds m n=some v
 |(k,u)::r,m,hn,h=>by
  obtain⟨h1,h2⟩:=List.nodup_cons.mp hn
  show bindL kindOf r _ n=_
  rcases List.mem_cons.mp h with e|h
  ·cases e
   rw[nO h1,if_pos hk]
   exact if_pos rfl
  ·exact pB hk h2 h
theorem qK {kindOf:Str→Option NameKind} {n:Str} {v:Value} (hk:kindOf n=some .cell):∀{binds:List (Str×Value)} {m:Str→Option Value},(binds.map (·.1)).Nodup→(n,v)∈binds→bindC kindOf binds m n=some v
 |(k,u)::r,m,hn,h=>by
  obtain⟨h1,h2⟩:=List.nodup_cons.mp hn
  show bindC kindOf r _ n=_
  rcases List.mem_cons.mp h with e|h
  ·cases e
   rw[nE h1,if_neg (by rw[hk];decide)]
   exact if_pos rfl
  ·exact qK hk h2 h
set_option tactic.hygienic true in
theorem eA {n:Str}:∀{names:List (Str×NameKind)} {base:Nat} {acc:List (Str×Addr)},((acc.lookup n).isSome=true∨(n,NameKind.cell)∈names)→((cellsFrom base names acc).lookup n).isSome=true
 |[],_,_,h=>h.elim id fun q=>absurd q List.not_mem_nil
 |(k,kd)::r,base,acc,h=>by
  unfold cellsFrom
  split
  ·refine eA ?_
   rw[List.lookup_cons]
   cases q:n == k with
   |true=>exact .inl rfl
   |false=>
    refine h.imp id fun h=>?_
    rcases List.mem_cons.mp h with e|h
    ·cases e;rw[beq_self_eq_true] at q;cases q
    ·exact h
  ·rename_i q
   refine eA (h.imp id fun h=>?_)
   rcases List.mem_cons.mp h with e|h
   ·cases e;exact absurd rfl q
   ·exact h
section
variable {w:World} {h₁:Heap} {os:OsState} {F:Fm} {own own':ch} {Z Z':aI} {m:Str→Option Value} {st:St} {s s':Shared} {A:Around} {E:Value→Shared→Prop} {c:Cx} {T:fY} {call:aM}
theorem aV.noLimit {h:Heap} (Fs:aV w h):h.NoLimit:=by
 have g2:h.get? cStatics=(dQ w.params).get? cStatics:=gl Fs.at_ (k2 w.params) rfl (f2 w.params)
 obtain⟨mc,⟨o,es,ep,e1,e2⟩,e3⟩:=Heap.NoLimit.of_ok (oP w.params)
 exact⟨mc,⟨o,es,ep,g2.trans e1,e2⟩,e3⟩
set_option backward.match.sparseCases true in
noncomputable def Ji (fl:Flow):Value:=match fl with
 |.ret v=>v
 |_=>.none
theorem y3 {fn:Fn} {fd:FuncData} {b:List Stmt} {f:Addr} {o:Obj} {vals:List Value} {bd:List (Str×Value)} {R:Result→Shared→Prop} {en:Env} (he:callEnvC fd s.heap.objs.size f=en) (D:Av w fn fd b) (Fs:aV w s.heap)
  (room:A.depth < recursionLimit) (ho:s.heap.get? f=some o) (hd:o.data=.func fd) (hb:BindsTo s fd ⟨vals,[]⟩ bd) (hk:∀y∈bd,en.kindOf y.1=some .local∨(en.kindOf y.1=some .cell∧(en.cells.lookup y.1).isSome=true))
  (k:∀s₁,InCallC s en.locals (bindL en.kindOf bd fun ξ=>none) en.cells (bindC en.kindOf bd fun ξ=>none) s₁→wpAny (model P0 w) (A.deeper en) (execs b en) (fun fl s₂=>R (.ok (.ret (Ji fl))) s₂) (fun ξ ξ=>False) s₁):
  codeAny (model P0 w) A (.call (.ref f) ⟨vals,[]⟩) R s:=by
 subst he
 obtain⟨cx,hcx,hc1,hc2⟩:=D.code
 refine codeAny_call_function room ho hd D.co D.gen D.body (by rw[hc1,hc2];exact Fs.codes cx hcx) (hb _ _ _ _ ?_)
 rw[D.clo]
 refine wpAny_newFunctionEnv_cells D.kind hk fun e' he s' x=>?_
 subst he
 exact⟨Fs.noLimit.keeps x.toInCall.keep,codeAny_func (wpAny_mono (k s' x) (fun ξ ξ q=>q) fun ξ ξ f=>f.elim)⟩
theorem bN.retag {h:Heap} {t t':Nat} {mo:MO} {a:Addr} (R:bN w Z own h t mo a) (k:∀b,own b=some t→own' b=some t'):bN w Z own' h t' mo a:=by
 cases R with
 |list e1 e2 e3=>exact .list (k _ e1) e2 e3
 |inst q e1 e2 e3 e4 e5 e6 e7 e8 e9=>exact .inst q (k _ e1) (k _ e2) e3 e4 e5 e6 e7 e8 e9
noncomputable def ev (own:ch) (L:Addr) (cells:List (Str×Addr)) (t:Nat):ch:=fun b=>if b=L∨cells.any (fun x=>(cells.lookup x.1).any fun a=>Nat.beq a b)=true then some 0 else if own b=some t then some 1 else none
set_option tactic.hygienic true in
theorem cG {L:Addr} {cells:List (Str×Addr)} {t u:Nat} {b:Addr} (h:ev own L cells t b=some u):((b=L∨∃n,cells.lookup n=some b)∧u=0)∨(own b=some t∧u=1):=by
 unfold ev at h
 split at h
 ·rename_i q
  refine .inl ⟨q.imp id fun q=>?_,(Option.some.inj h).symm⟩
  obtain⟨x,hx,e⟩:=List.any_eq_true.mp q
  cases q2:cells.lookup x.1 with
  |none=>rw[q2] at e;exact ff e
  |some a=>
   rw[q2] at e
   have:a=b:=Nat.eq_of_beq_eq_true e
   subst this
   exact⟨x.1,q2⟩
 ·split at h
  ·rename_i q;exact .inr ⟨q,(Option.some.inj h).symm⟩
  ·exact nn h
inductive qD (w:World) (Z:aI) (own:ch) (h:Heap) (t:Nat) (a:Addr):Value→bB→Prop
 |v {val:Value} {vv:V}:aA w Z vv val→qD w Z own h t a val (.v vv)
 |inh {mo:MO}:bN w Z own h t mo a→qD w Z own h t a (.ref a) (.inh mo)
theorem ng {l:List V} {vals:List Value} {h:Heap} {t:Nat} {a:Addr} (R:aH w Z l vals):∀{i:Nat} {x:bB},(l.map bB.v)[i]?=some x→∃val,vals[i]?=some val∧qD w Z own h t a val x:=fun {i x} e=>by
 rw[List.getElem?_map] at e
 refine bc fun G=>?_;obtain⟨v,e1,rfl⟩:=Option.map_eq_some_iff.mp e
 obtain⟨val,e2,r⟩:=R.get e1
 refine G ?_;clear G;exact⟨val,e2,.v r⟩
theorem u3 {h:Heap} {t:Nat} {a:Addr} {m:MO} (RM:bN w Z own h t m a) {j:Nat} {l:List V} {vals:List Value} (R:mQ w Z a j l vals):∀{i:Nat} {x:bB},(l5 (some (j,m)) l)[i]?=some x→∃val,vals[i]?=some val∧qD w Z own h t a val x:=by
 induction R with
 |z r=>
  intro i x e
  cases i with
  |zero=>cases e;exact⟨_,rfl,.inh RM⟩
  |succ i=>exact ng r e
 |s r _ ih=>
  intro i x e
  cases i with
  |zero=>cases e;exact⟨_,rfl,.v r⟩
  |succ i=>exact ih e
theorem md {mo:Option (Nat×MO)} {l:List V} {vals:List Value} {h:Heap} {t:Nat} {a:Addr} (H:lL w Z own h t a mo l vals):(l5 mo l).length=l.length∧vals.length=l.length:=by
 cases mo with
 |none=>exact⟨by show(l.map bB.v).length=_;rw[List.length_map],H.1.len.symm⟩
 |some p=>
  obtain⟨j,m⟩:=p
  have R:=H.1
  dsimp only at R
  clear H
  induction R with
  |z r=>exact⟨by show(bB.inh m::List.map bB.v _).length=_;rw[List.length_cons,List.length_map,List.length_cons],by rw[List.length_cons,List.length_cons,r.len]⟩
  |s r _ ih=>exact⟨congrArg (·+1) ih.1,by rw[List.length_cons,List.length_cons,ih.2]⟩
theorem Bq {mo:Option (Nat×MO)} {l:List V} {vals:List Value} {h:Heap} {t:Nat} {a:Addr} (H:lL w Z own h t a mo l vals) {i:Nat} {x:bB} (e:(l5 mo l)[i]?=some x):∃val,vals[i]?=some val∧qD w Z own h t a val x:=by
 cases mo with
 |none=>exact ng H.1 e
 |some p=>exact u3 H.2 H.1 e
theorem zN {mo:Option (Nat×MO)} {l:List V} {vals:List Value} {h:Heap} {t:Nat} {a:Addr} (H:lL w Z own h t a mo l vals) {i:Nat} {m:MO} (e:(l5 mo l)[i]?=some (.inh m)):∃p,mo=some p∧i=p.1:=by
 cases mo with
 |none=>
  have e:(l.map bB.v)[i]?=_:=e
  rw[List.getElem?_map] at e
  obtain⟨v,_,e⟩:=Option.map_eq_some_iff.mp e
  cases e
 |some p=>
  refine⟨p,rfl,?_⟩
  obtain⟨j,m'⟩:=p
  have R:=H.1
  dsimp only at R ⊢
  clear H
  induction R generalizing i with
  |z r=>
   cases i with
   |zero=>rfl
   |succ i=>
    have e:(List.map bB.v _)[i]?=_:=e
    rw[List.getElem?_map] at e
    obtain⟨v,_,e⟩:=Option.map_eq_some_iff.mp e
    cases e
  |s r _ ih=>
   cases i with
   |zero=>cases e
   |succ i=>rw[ih e]
end
noncomputable def vt (n:Nat) (A:Around):Prop:=A.handled=none∧A.depth+2 * n < recursionLimit∧A.units+20 * n < cLine
theorem qc {n:Nat} {A:Around} {env:Env} (R:vt (n+1) A):vt n (A.deeper env):=by
 obtain⟨a,b,c⟩:=R
 refine⟨a,?_,?_⟩
 ·show A.depth+1+2 * n < _;lia
 ·show A.units+3+20 * n < _;lia
theorem rj (C:Addr) (rest:List Value):(Code.builtin "type.__call__" ⟨.ref C::rest,[]⟩).cUnits=1:=by kernel_rfl
theorem vB {n:Nat} {A:Around} {env:Env} {C:Addr} {rest:List Value} (R:vt (n+1) A):vt n ((A.deeper env).under (.builtin "type.__call__" ⟨.ref C::rest,[]⟩)):=by
 refine bc fun G=>?_;obtain⟨a,b,c⟩:=R
 refine G ?_;clear G;refine⟨a,?_,?_⟩
 ·rw[depth_under_kw]
  show A.depth+1+1+2 * n < _;lia
 ·show A.units+3+(Code.builtin "type.__call__" ⟨.ref C::rest,[]⟩).cUnits+20 * n < _
  rw[rj];lia
section
variable {w:World} {h₁:Heap} {os:OsState} {F:Fm} {own own':ch} {Z Z':aI} {m:Str→Option Value} {st:St} {s s':Shared} {A:Around} {E:Value→Shared→Prop} {c:Cx} {T:fY} {call:aM}
theorem rY {fn:Fn} {fd:FuncData} {b:List Stmt} {L f a:Addr} (D:Av w fn fd b):br ⟨w.params,fd.scope,fn.ns⟩ ⟨callEnvC fd L f,fn.ns,a⟩:=by
 refine⟨D.kind,rfl,rfl,D.glob,D.blt,fun i j x y e1 e2 e3=>?_,fun i k e=>?_⟩
 ·have e1':(fn.ns.map fun x=>bw x.1)[i]?=some (bw x.1):=by rw[List.getElem?_map,show fn.ns[i]?=some x from e1];rfl
  have e2':(fn.ns.map fun x=>bw x.1)[j]?=some (bw x.1):=by rw[List.getElem?_map,show fn.ns[j]?=some y from e2];exact congrArg some e3.symm
  obtain⟨h1,h1'⟩:=List.getElem?_eq_some_iff.mp e1'
  obtain⟨h2,h2'⟩:=List.getElem?_eq_some_iff.mp e2'
  exact(List.getElem_inj D.dist).mp (h1'.trans h2'.symm)
 ·have hc:=D.cel (k,true) (List.mem_of_getElem? e) rfl
  exact Option.isSome_iff_exists.mp (eA (base:=L+1) (acc:=[]) (.inr (mem_of_lookup hc)))
theorem uw {fn:Fn} {fd:FuncData} {b:List Stmt} {f a:Addr} {l:List V} {mo:Option (Nat×MO)} {vals dv:List Value} {t:Nat} {s₁:Shared} (D:Av w fn fd b) (zi:pg Z s.heap) (hb:∀b o,h₁.get? b=some o→Z b=some o) (hg:s.gens=#[]) (ho:s.os=os)
  (H:lL w Z own s.heap t a mo l vals) (hd:∀b,own b=some t→Z b=none∧∃o,s.heap.get? b=some o) (hl:l.length=fn.np) (Rd:aH w (fun ξ=>none) fn.dflt dv)
  (x:InCallC s (callEnvC fd s.heap.objs.size f).locals (bindL (callEnvC fd s.heap.objs.size f).kindOf (((fn.ns.take (fn.np+fn.dflt.length)).map fun x=>bw x.1).zip (vals++dv)) fun ξ=>none) (callEnvC fd s.heap.objs.size f).cells
    (bindC (callEnvC fd s.heap.objs.size f).kindOf (((fn.ns.take (fn.np+fn.dflt.length)).map fun x=>bw x.1).zip (vals++dv)) fun ξ=>none) s₁):
  bt w h₁ os ⟨callEnvC fd s.heap.objs.size f,fn.ns,a⟩ (ev own s.heap.objs.size (callEnvC fd s.heap.objs.size f).cells t) Z
   (bindL (callEnvC fd s.heap.objs.size f).kindOf (((fn.ns.take (fn.np+fn.dflt.length)).map fun x=>bw x.1).zip (vals++dv)) fun ξ=>none) (ik fn l mo) s₁:=by
 refine bc fun G=>?_;obtain⟨al,vl⟩:=md H
 have dl:=Rd.len
 have zlen:((fn.ns.take (fn.np+fn.dflt.length)).map fun x=>bw x.1).length=(vals++dv).length:=by
  rw[List.length_map,List.length_take,Nat.min_eq_left D.len,List.length_append,vl,hl,dl]
 have bn:((((fn.ns.take (fn.np+fn.dflt.length)).map fun x=>bw x.1).zip (vals++dv)).map (·.1)).Nodup:=by
  rw[List.map_fst_zip (Nat.le_of_eq zlen),List.map_take]
  exact D.dist.sublist (List.take_sublist _ _)
 have frL:∀b,(b=s.heap.objs.size∨∃n,(callEnvC fd s.heap.objs.size f).cells.lookup n=some b)→s.heap.get? b=none:=fun b e=>cD _ (by
  rcases e with rfl|⟨n,e⟩
  ·exact Nat.le_refl _
  ·exact Nat.le_of_lt (x.above n b (mem_of_lookup e)))
 have zf:∀b,s.heap.get? b=none→Z b=none:=fun b e=>by
  cases q:Z b with
  |none=>rfl
  |some o=>rw[zi b o q] at e;cases e
 have kp:=x.toInCall.keep
 obtain⟨h',tk,same⟩:=x.toInCall.same
 have hold:∀(i:Nat) (y:Nat×Bool) (val:Value),fn.ns[i]?=some y→(vals++dv)[i]?=some val→aU ⟨callEnvC fd s.heap.objs.size f,fn.ns,a⟩ s₁.heap (ev own s.heap.objs.size (callEnvC fd s.heap.objs.size f).cells t)
   (bindL (callEnvC fd s.heap.objs.size f).kindOf (((fn.ns.take (fn.np+fn.dflt.length)).map fun x=>bw x.1).zip (vals++dv)) fun ξ=>none) y val:=fun i y val e1 e2=>by
  obtain⟨k,bl⟩:=y
  have hi:i < (vals++dv).length:=(List.getElem?_eq_some_iff.mp e2).1
  have hm:(bw k,val)∈((fn.ns.take (fn.np+fn.dflt.length)).map fun x=>bw x.1).zip (vals++dv):=by
   refine List.mem_of_getElem? (i:=i) ?_
   rw[List.getElem?_zip_eq_some]
   refine⟨?_,e2⟩
   rw[List.getElem?_map,List.getElem?_take_of_lt (by rw[← zlen,List.length_map,List.length_take] at hi;lia),e1]
   rfl
  unfold aU
  cases bl with
  |false=>
   rw[if_neg (by exact Bool.false_ne_true)]
   exact pB (D.loc _ (List.mem_of_getElem? e1) rfl) bn hm
  |true=>
   rw[if_pos rfl]
   have hc:=D.cel _ (List.mem_of_getElem? e1) rfl
   obtain⟨ac,e3⟩:=Option.isSome_iff_exists.mp (eA (base:=s.heap.objs.size+1) (acc:=[]) (.inr (mem_of_lookup hc)))
   have e3:(callEnvC fd s.heap.objs.size f).cells.lookup (bw k)=some ac:=e3
   obtain⟨oc,e4,e5⟩:=x.cell _ _ e3
   rw[qK hc bn hm] at e5
   refine⟨ac,oc,e3,?_,Nat.ne_of_gt (x.above _ _ (mem_of_lookup e3)),e4,e5⟩
   unfold ev
   rw[if_pos (.inr (List.any_eq_true.mpr ⟨_,mem_of_lookup e3,by dsimp only;rw[e3];exact Nat.beq_refl ac⟩))]
 refine G ?_;clear G;refine⟨fun b o e=>kp b o (zi b o e),hb,x.toInCall.ns,if_pos (.inl rfl),fun b q=>?_,?_,fun i y lc e1 e2=>?_,?_,?_,fun b q=>?_,?_⟩
 ·cases e:ev own s.heap.objs.size (callEnvC fd s.heap.objs.size f).cells t b with
  |none=>exact absurd e q
  |some u=>
   rcases cG e with ⟨e,_⟩|⟨e,_⟩
   ·exact zf b (frL b e)
   ·exact(hd b e).1
 ·unfold ik
  rw[List.length_append,List.length_append,List.length_map,List.length_replicate,al,hl]
  have:=D.len
  show _=fn.ns.length
  lia
 ·unfold ik at e2
  by_cases c1:i < l.length
  ·rw[List.getElem?_append_left (by rw[al];exact c1)] at e2
   refine bc fun G=>?_;obtain⟨val,e3,X⟩:=Bq H e2
   have Hd:=hold i y val e1 (by rw[List.getElem?_append_left (by rw[vl];exact c1)];exact e3)
   refine G ?_;clear G;cases X with
   |v R=>exact .v Hd R
   |inh R=>
    refine .inh Hd ((R.mono (fun ξ ξ e=>e) (fun ξ e=>e) fun b o ξ e=>kp b o e).retag fun b e=>?_)
    unfold ev
    have ne:¬(b=s.heap.objs.size∨((callEnvC fd s.heap.objs.size f).cells.any fun x=>((callEnvC fd s.heap.objs.size f).cells.lookup x.1).any fun a=>Nat.beq a b)=true):=fun q=>by
     have z:ev own s.heap.objs.size (callEnvC fd s.heap.objs.size f).cells t b=some 0:=if_pos q
     rcases cG z with ⟨q,_⟩|⟨_,q⟩
     ·obtain⟨_,o,e'⟩:=hd b e
      rw[frL b q] at e';exact nn e'
     ·cases q
    rw[if_neg ne,if_pos e]
  ·rw[List.getElem?_append_right (by rw[al];lia),al] at e2
   by_cases c2:i - l.length < fn.dflt.length
   ·rw[List.getElem?_append_left (by rw[List.length_map];exact c2),List.getElem?_map] at e2
    refine bc fun G=>?_;obtain⟨v,e3,rfl⟩:=Option.map_eq_some_iff.mp e2
    obtain⟨val,e4,R⟩:=Rd.get e3
    refine G ?_;clear G;exact .v (hold i y val e1 (by rw[List.getElem?_append_right (by rw[vl];lia),vl];exact e4)) (R.mono fun ξ ξ q=>by exact nn q)
   ·rw[List.getElem?_append_right (by rw[List.length_map];lia)] at e2
    have:=List.eq_of_mem_replicate (List.mem_of_getElem? e2)
    subst this
    exact .un
 ·rw[same];exact hg
 ·rw[same];exact ho
 ·cases e:ev own s.heap.objs.size (callEnvC fd s.heap.objs.size f).cells t b with
  |none=>exact absurd e q
  |some u=>
   rcases cG e with ⟨e|⟨n,e⟩,_⟩|⟨e,_⟩
   ·subst e;obtain⟨o,_,_,e,_⟩:=x.toInCall.ns;exact⟨o,e⟩
   ·obtain⟨o,e,_⟩:=x.cell n b e;exact⟨o,e⟩
   ·obtain⟨_,o,e⟩:=hd b e;exact⟨o,kp b o e⟩
 ·have one:∀(i:Nat) (m:MO),(ik fn l mo)[i]?=some (.inh m)→∃p,mo=some p∧i=p.1:=fun i m e=>by
   unfold ik at e
   by_cases c1:i < l.length
   ·rw[List.getElem?_append_left (by rw[al];exact c1)] at e
    exact zN H e
   ·rw[List.getElem?_append_right (by rw[al];lia),al] at e
    by_cases c2:i - l.length < fn.dflt.length
    ·rw[List.getElem?_append_left (by rw[List.length_map];exact c2),List.getElem?_map] at e
     refine bc fun G=>?_;obtain⟨v,_,e⟩:=Option.map_eq_some_iff.mp e
     refine G ?_;clear G;cases e
    ·rw[List.getElem?_append_right (by rw[List.length_map];lia)] at e
     have:=List.eq_of_mem_replicate (List.mem_of_getElem? e)
     cases this
  intro i j m m' e1 e2
  refine bc fun G=>?_;obtain⟨p,rfl,rfl⟩:=one i m e1
  obtain⟨p',e,rfl⟩:=one j m' e2
  refine G ?_;clear G;cases e;rfl
set_option tactic.hygienic true in
theorem ll {fns:Nat→Option Fn} {g:Nat} (TO:iV T w.params) (Fa:aV w h₁) (FN:∀f fn,fns f=some fn→Bh w f fn):∀(n:Nat) (A:Around),vt n A→gk w h₁ os A (kb T fns g n)
 |0,A,_=>⟨fun ξ ξ ξ ξ h=>(show False from h).elim,fun ξ ξ ξ ξ ξ ξ ξ ξ ξ ξ ξ ξ ξ ξ ξ ξ h=>(show False from h).elim⟩
 |n+1,A,Rm=>by
  refine⟨fun f l mo K h=>?_,fun f l mo K vals Z own t a s zi hb hg ho H hd h=>?_⟩
  ·dsimp only[kb] at h
   split at h
   ·rename_i fn e
    refine bc fun G=>?_;obtain⟨o,fd,b,e1,e2,_⟩:=FN f fn e
    refine G ?_;clear G;exact⟨o,fd,Fa.at_ _ _ e1,e2⟩
   ·exact h.elim
  ·dsimp only[kb] at h
   split at h
   ·rename_i fn e
    refine bc fun G=>?_;obtain⟨o,fd,b,e1,e2,D⟩:=FN f fn e
    obtain⟨hl,h⟩:=h
    have Fs:aV w s.heap:=Fa.keeps fun b o e=>zi b o (hb b o e)
    obtain⟨al,vl⟩:=md H
    obtain⟨dv,Rd,hbind⟩:=D.bind s vals Fs (vl.trans hl)
    have hn0:∀x∈((fn.ns.take (fn.np+fn.dflt.length)).map fun x=>bw x.1).zip (vals++dv),fd.scope.names.lookup x.1=some .local∨(fd.scope.names.lookup x.1=some .cell∧((cellsFrom (s.heap.objs.size+1) fd.scope.names []).lookup x.1).isSome=true):=fun x hx=>by
     obtain⟨y,hy,e3⟩:=List.mem_map.mp (List.of_mem_zip hx).1
     have hy:=List.mem_of_mem_take hy
     rw[← e3]
     cases q:y.2 with
     |false=>exact .inl (D.loc y hy q)
     |true=>exact .inr ⟨D.cel y hy q,eA (.inr (mem_of_lookup (D.cel y hy q)))⟩
    refine G ?_;clear G;refine y3 rfl D Fs (by have:=Rm.2.1;lia) (Fs.at_ _ _ e1) e2 hbind hn0 (fun s₁ x=>?_)
    have I:=uw (h₁:=h₁) (os:=os) (a:=a) D zi hb hg ho H hd hl Rd x
    have FO:=rY (L:=s.heap.objs.size) (f:=f) (a:=a) D
    have B:Bc w h₁ os (A.deeper (callEnvC fd s.heap.objs.size f)) T (kb T fns g n):=
     ⟨Rm.1,by show A.units+3 < _;have:=Rm.2.2;lia,⟨ll TO Fa FN n _ (qc Rm),fun C rest=>ll TO Fa FN n _ (vB Rm)⟩,TO,Fa⟩
    have SSb:=CH B (g:=g) rfl FO fn.body (.l b) D.chk
    refine wpAny_mono (SSb _ _ _ _ _ _ I h) (fun fl s₂ q=>?_) fun ξ ξ f=>f
    refine bc fun G=>?_;obtain⟨own₂,Z₂,m₂,st₂,fl',I₂,S₂,R₂,k₂⟩:=q
    have kp:=x.toInCall.keep
    have noL:∀b o,s.heap.get? b=some o→own b≠some t→ev own s.heap.objs.size (callEnvC fd s.heap.objs.size f).cells t b=none:=fun b o e ne=>by
     cases q:ev own s.heap.objs.size (callEnvC fd s.heap.objs.size f).cells t b with
     |none=>rfl
     |some u=>
      rcases cG q with ⟨q|⟨n,q⟩,_⟩|⟨q,_⟩
      ·subst q;exact absurd (Heap.lt_size e) (Nat.lt_irrefl _)
      ·exact absurd (Heap.lt_size e) (Nat.not_lt.mpr (Nat.le_of_lt (x.above n b (mem_of_lookup q))))
      ·exact absurd q ne
    have M:o8 Z s.heap Z₂ s₂.heap:=⟨S₂.z,I₂.zin,fun b o e=>by
     rcases S₂.znew b o e with q|q|⟨u,q⟩
     ·exact .inl q
     ·refine .inr ?_
      cases q':s.heap.get? b with
      |none=>rfl
      |some ob=>rw[kp b ob q'] at q;cases q
     ·rcases cG q with ⟨_,q⟩|⟨_,q⟩<;>lia⟩
    have back:∀m',bm mo st₂=some m'→bN w Z₂ own s₂.heap t m' a:=fun m' e=>by
     unfold bm at e
     split at e
     ·exact nn e
     ·rename_i j _
      split at e
      ·rename_i mm e3
       cases e
       have hj:j < fn.ns.length:=by
        have:=(List.getElem?_eq_some_iff.mp e3).1
        rw[I₂.len] at this;exact this
       have L:=I₂.locs j _ _ (List.getElem?_eq_getElem hj) e3
       induction L using bI.inhE with
       |inh _ R=>
        refine R.retag fun b e=>?_
        rcases S₂.onew b 1 e with e|⟨_,u,e⟩
        ·rcases cG e with ⟨_,e⟩|⟨e,_⟩
         ·cases e
         ·exact e
        ·lia
      ·exact nn e
    have fin:∀(v:V) (val:Value),aA w Z₂ v val→K v (bm mo st₂)→PC w os Z own t a mo K s (.ok (.ret val)) s₂:=fun v val R k=>
     ⟨val,v,_,Z₂,rfl,⟨M,R,k,fun ξ=>back,fun b o ne e=>S₂.keep b o (noL b o e ne) (kp b o e),fun b o e=>S₂.dom b o (kp b o e),I₂.gens,I₂.os⟩⟩
    refine G ?_;clear G;cases R₂ with
    |nxt=>exact fin _ _ .none k₂
    |brk=>exact k₂.elim
    |cnt=>exact k₂.elim
    |ret r=>exact fin _ _ r k₂
   ·exact h.elim
end
end Mine
namespace Mine
section
open PySem PySem.W PySem.Calls PyProof.Rows
noncomputable def Dm:ScopeKind→Bool
 |.function=>true
 |_=>false
noncomputable def ze (a:Arguments):Bool:=a.posonlyargs.isEmpty&&a.vararg.isNone&&a.kwonlyargs.isEmpty&&a.kwarg.isNone
noncomputable def qz:List (Nat×Bool)→Bool
 |[]=>true
 |x::r=>(r.all fun y=>!aW (iW x.1) (iW y.1))&&qz r
noncomputable def tF:Value→Bool
 |.none=>true
 |_=>false
noncomputable def po:List (Nat×Bool)→List Arg→Bool
 |[],[]=>true
 |x::r,a::s=>iz x.1 a.arg&&po r s
 |_,_=>false
noncomputable def sV (P:Params) (fn:Fn) (fd:FuncData) (b:List Stmt):Bool:=
 (!fd.scope.isCoroutine&&!fd.scope.isGenerator&&Dm fd.scope.kind&&fd.closure.isEmpty&&Nat.beq fd.globals mainGlobals&&Nat.beq fd.builtins builtinsNs)&&
 ((Ay.any fun x=>sr x.1 fd.code&&iz x.2 fd.qualname)&&jq fn.body ⟨P,fd.scope,fn.ns⟩ (.l b)&&qz fn.ns&&Nat.ble (fn.np+fn.dflt.length) fn.ns.length)&&
 (fn.ns.all fun x=>cond x.2 (oQ (fd.scope.names.lookup (bw x.1))) (eN (fd.scope.names.lookup (bw x.1))))
noncomputable def Ep (fn:Fn) (fd:FuncData):Bool:=fn.dflt.isEmpty&&ze fd.params&&tF fd.defaults&&po (fn.ns.take fn.np) fd.params.args
noncomputable def Qy:Data→Option FuncData
 |.func fd=>some fd
 |_=>none
noncomputable def QB:FuncBody→Option (List Stmt)
 |.stmts b=>some b
 |_=>none
theorem GO {d:Data} {fd:FuncData} (h:Qy d=some fd):d=.func fd:=by cases d<;>first|exact nn h|exact congrArg _ (Option.some.inj h)
theorem Gz {d:FuncBody} {b:List Stmt} (h:QB d=some b):d=.stmts b:=by cases d<;>first|exact nn h|exact congrArg _ (Option.some.inj h)
noncomputable def M0 {α:Type} (o:Option α) (k:α→Bool):Bool:=match o with
 |some x=>k x
 |none=>false
theorem rq {α:Type} {o:Option α} {k:α→Bool} (h:M0 o k=true):∃x,o=some x∧k x=true:=by
 cases o with
 |none=>exact ff h
 |some x=>exact⟨x,rfl,h⟩
noncomputable def tE (P:Params) (f:Nat) (fn:Fn) (bi:Bool):Bool:=M0 (jD P f) fun o=>M0 (Qy o.data) fun fd=>M0 (QB fd.body) fun b=>sV P fn fd b&&cond bi (Ep fn fd) true
theorem pP {P:Params} {f:Nat} {fn:Fn} {bi:Bool} (h:tE P f fn bi=true):∃o fd b,jD P f=some o∧o.data=.func fd∧fd.body=.stmts b∧sV P fn fd b=true∧cond bi (Ep fn fd) true=true:=by
 refine bc fun G=>?_;obtain⟨o,e1,h⟩:=rq h
 obtain⟨fd,e2,h⟩:=rq h
 obtain⟨b,e3,h⟩:=rq h
 refine G ?_;clear G;exact⟨o,fd,b,e1,GO e2,Gz e3,Bool.and_eq_true_iff.mp h⟩
theorem lh:∀{l:List (Nat×Bool)},qz l=true→(l.map fun x=>bw x.1).Nodup
 |[],_=>List.nodup_nil
 |x::r,h=>by
  have h:((r.all fun y=>!aW (iW x.1) (iW y.1))&&qz r)=true:=h
  rw[Bool.and_eq_true] at h
  refine List.nodup_cons.mpr ⟨fun q=>?_,lh h.2⟩
  obtain⟨y,hy,e⟩:=List.mem_map.mp q
  have h1:=List.all_eq_true.mp h.1 y hy
  have e:iW y.1=iW x.1:=by injection e with e;injection e
  rw[Bool.not_eq_true',ct,e,beq_self_eq_true] at h1
  cases h1
theorem pj:∀{l:List (Nat×Bool)} {ps:List Arg},po l ps=true→ps.map (·.arg)=l.map fun x=>bw x.1
 |[],[],_=>rfl
 |x::r,a::s,h=>by
  have h:(iz x.1 a.arg&&po r s)=true:=h
  rw[Bool.and_eq_true] at h
  show a.arg::s.map _=bw x.1::_
  rw[cC h.1,pj h.2]
 |[],_::_,h=>by exact ff h
 |_::_,[],h=>by exact ff h
theorem tK {w:World} {fn:Fn} {fd:FuncData} {b:List Stmt} (hb:fd.body=.stmts b) (h:sV w.params fn fd b=true)
  (bind:∀(s:Shared) (vals:List Value),aV w s.heap→vals.length=fn.np→∃dv,aH w (fun ξ=>none) fn.dflt dv∧BindsTo s fd ⟨vals,[]⟩ (((fn.ns.take (fn.np+fn.dflt.length)).map fun x=>bw x.1).zip (vals++dv))):Av w fn fd b:=by
 unfold sV at h
 simp only[Bool.and_eq_true] at h
 refine bc fun G=>?_;obtain⟨⟨⟨⟨⟨⟨⟨h1,h2⟩,h3⟩,h4⟩,h5⟩,h6⟩,⟨⟨⟨h7,h8⟩,h9⟩,h10⟩⟩,h11⟩:=h
 have loc:∀x∈fn.ns,cond x.2 (oQ (fd.scope.names.lookup (bw x.1))) (eN (fd.scope.names.lookup (bw x.1)))=true:=fun x hx=>List.all_eq_true.mp h11 x hx
 refine G ?_;clear G;refine⟨hb,Bool.not_eq_true' _ |>.mp h1,Bool.not_eq_true' _ |>.mp h2,?_,List.isEmpty_iff.mp h4,Nat.eq_of_beq_eq_true h5,Nat.eq_of_beq_eq_true h6,?_,h8,lh h9,Nat.le_of_ble_eq_true h10,fun x hx q=>?_,fun x hx q=>?_,bind⟩
 ·revert h3
  cases fd.scope.kind<;>first|exact fun ξ=>rfl|exact ff
 ·refine bc fun G=>?_;obtain⟨x,hx,e⟩:=List.any_eq_true.mp h7
  rw[Bool.and_eq_true] at e
  refine G ?_;clear G;refine⟨x,hx,?_,cC e.2⟩
  have e1:=e.1
  revert e1
  cases fd.code<;>first|exact fun e1=>congrArg _ (Nat.eq_of_beq_eq_true e1).symm|exact fun e1=>congrArg _ (Nat.eq_of_beq_eq_true e1)|exact ff
 ·have:=loc x hx
  rw[q] at this
  exact dx this
 ·have:=loc x hx
  rw[q] at this
  exact mY this
theorem B8 {w:World} {f:Nat} {fn:Fn} (h:tE w.params f fn true=true):Bh w f fn:=by
 refine bc fun G=>?_;obtain⟨o,fd,b,e,hd,hb,h,h2⟩:=pP h
 refine G ?_;clear G;refine⟨o,fd,b,e,hd,tK hb h fun s vals ξ hl=>?_⟩
 have h2:(fn.dflt.isEmpty&&ze fd.params&&tF fd.defaults&&po (fn.ns.take fn.np) fd.params.args)=true:=h2
 refine bc fun G=>?_;obtain⟨h2,d3⟩:=Bool.and_eq_true_iff.mp h2
 obtain⟨h2,d2⟩:=Bool.and_eq_true_iff.mp h2
 obtain⟨d1,p⟩:=Bool.and_eq_true_iff.mp h2
 obtain⟨p,p4⟩:=Bool.and_eq_true_iff.mp p
 obtain⟨p,p3⟩:=Bool.and_eq_true_iff.mp p
 obtain⟨p1,p2⟩:=Bool.and_eq_true_iff.mp p
 have d1:=List.isEmpty_iff.mp d1
 have d3:=pj d3
 have d2:fd.defaults=.none:=by
  revert d2
  cases fd.defaults<;>first|exact fun ξ=>rfl|exact ff
 have h:((!fd.scope.isCoroutine&&!fd.scope.isGenerator&&Dm fd.scope.kind&&fd.closure.isEmpty&&Nat.beq fd.globals mainGlobals&&Nat.beq fd.builtins builtinsNs)&&(((Ay.any fun x=>sr x.1 fd.code&&iz x.2 fd.qualname)&&jq fn.body ⟨w.params,fd.scope,fn.ns⟩ (.l b)&&qz fn.ns)&&Nat.ble (fn.np+fn.dflt.length) fn.ns.length))=true:=(Bool.and_eq_true_iff.mp h).1
 obtain⟨_,h⟩:=Bool.and_eq_true_iff.mp h
 obtain⟨h,L⟩:=Bool.and_eq_true_iff.mp h
 have D:=lh (Bool.and_eq_true_iff.mp h).2
 have L:=Nat.le_of_ble_eq_true L
 refine G ?_;clear G;rw[d1] at L ⊢
 have L:fn.np≤fn.ns.length:=L
 refine⟨[],.nil,?_⟩
 rw[List.append_nil]
 show BindsTo _ _ _ (((fn.ns.take fn.np).map fun x=>bw x.1).zip vals)
 rw[← d3]
 refine r9 (ps:=fd.params.args) ?_ d2 ?_ ?_
 ·have q1:=List.isEmpty_iff.mp p1
  have q2:=Option.isNone_iff_eq_none.mp p2
  have q3:=List.isEmpty_iff.mp p3
  have q4:=Option.isNone_iff_eq_none.mp p4
  revert q1 q2 q3 q4
  cases fd.params
  intro q1 q2 q3 q4
  dsimp only at q1 q2 q3 q4
  rw[q1,q2,q3,q4]
 ·rw[hl,← List.length_map (f:=(·.arg)) (as:=fd.params.args),d3,List.length_map,List.length_take];lia
 ·rw[d3]
  exact D.sublist ((List.take_sublist ..).map _)
end
section
local macro_rules | `(#[$x]) => `(.cons $x .nil) | `(#[$x, $xs,*]) => `(.cons $x #[$xs,*])
noncomputable def qf:Fn:=⟨[(1718379891,false),(1684957547,false),(97,false),(1935960427,false),(495655677030,false),(29793,false)],6,[],#[.setAttr 0 1684957547 (.loc 1),.setAttr 0 97 (.loc 2),.setAttr 0 1935960427 (.loc 3),.setAttr 0 495655677030 (.loc 4),.setAttr 0 29793 (.loc 5),.setAttr 0 6580590 (.lit (.int (.ofNat 0)))]⟩
noncomputable def Gp:Fn:=⟨[(1684957547,false),(97,false),(29793,false)],3,[],#[.ret (.new 38 #[.loc 0,.loc 1,.list E.nil,.lit (.int (.ofNat 0)),.loc 2])]⟩
noncomputable def F0:Fn:=⟨[(1684957547,false),(97,false),(1935960427,false),(29793,false)],4,[],#[.ret (.new 38 #[.loc 0,.loc 1,.loc 2,.lit (.int (.ofNat 0)),.loc 3])]⟩
noncomputable def vk:Fn:=⟨[(1684957547,false),(97,false),(1935960427,false),(495655677030,false),(29793,false)],5,[],#[.ret (.new 38 #[.loc 0,.loc 1,.loc 2,.loc 3,.loc 4])]⟩
noncomputable def ut:Fn:=⟨[(495622319982,false),(29793,false)],2,[],#[.ret (.new 38 #[.glo 92716688760651 (.int (.ofNat 71)),.lit (.str []),.loc 0,.lit (.int (.ofNat 0)),.loc 1])]⟩
noncomputable def d9:Fn:=⟨[(1718379891,false),(1701603686,false)],1,[(.str [])],#[.setAttr 0 1937207154 (.list E.nil),.setAttr 0 1701603686 (.loc 1)]⟩
noncomputable def kB:Fn:=⟨[(125780071048556,false),(1701080931,false)],1,[],#[.ite (.cmp .in_ (.loc 0) (.glo 19216509410956101 (.dict [((.str [92]),(.str [92,92])),((.str [10]),(.str [92,110])),((.str [9]),(.str [92,116])),((.str [13]),(.str [92,114]))]))) #[.ret (.idx (.glo 19216509410956101 (.dict [((.str [92]),(.str [92,92])),((.str [10]),(.str [92,110])),((.str [9]),(.str [92,116])),((.str [13]),(.str [92,114]))])) (.loc 0))] S.nil,.set 1 (.pf .ord (.loc 0)),.ite (.cmp .lt (.loc 1) (.lit (.int (.ofNat 32)))) #[.ret (.bin .add (.bin .add (.lit (.str [92,120])) (.idx (.glo 100729355981508609916290376 (.str [48,49,50,51,52,53,54,55,56,57,97,98,99,100,101,102])) (.bin .fdiv (.loc 1) (.lit (.int (.ofNat 16)))))) (.idx (.glo 100729355981508609916290376 (.str [48,49,50,51,52,53,54,55,56,57,97,98,99,100,101,102])) (.bin .mod (.loc 1) (.lit (.int (.ofNat 16))))))] S.nil,.ret (.loc 0)]⟩
noncomputable def Cw:Fn:=⟨[(1954047348,false),(7632239,false),(125780071048556,false)],1,[],#[.setList 1 #[.lit (.str [34])],.forIn [2] (.loc 0) #[.ite (.cmp .eq (.loc 2) (.lit (.str [34]))) #[.app 1 (.lit (.str [92,34]))] #[.app 1 (.call 233 .none #[.loc 2])]],.app 1 (.lit (.str [34])),.ret (.join (.lit (.str [])) (.loc 1))]⟩
noncomputable def jm:Fn:=⟨[(125780071048556,false)],1,[],#[.ret (.or (.cmp .in_ (.loc 0) (.glo 25786715131266204138252091726 (.str [97,98,99,100,101,102,103,104,105,106,107,108,109,110,111,112,113,114,115,116,117,118,119,120,121,122,65,66,67,68,69,70,71,72,73,74,75,76,77,78,79,80,81,82,83,84,85,86,87,88,89,90,95,36]))) (.cmp .in_ (.loc 0) (.glo 6601399073604148259456893274436 (.str [48,49,50,51,52,53,54,55,56,57]))))]⟩
noncomputable def mV:Fn:=⟨[(1954047348,false),(125780071048556,false)],1,[],#[.ite (.or (.cmp .eq (.loc 0) (.lit (.str []))) (.cmp .in_ (.idx (.loc 0) (.lit (.int (.ofNat 0)))) (.glo 6601399073604148259456893274436 (.str [48,49,50,51,52,53,54,55,56,57])))) #[.ret (.lit (.bool false))] S.nil,.forIn [1] (.loc 0) #[.ite (.not (.call 247 .none #[.loc 1])) #[.ret (.lit (.bool false))] S.nil],.ret (.lit (.bool true))]⟩
noncomputable def lP:Fn:=⟨[(1701080942,false),(7632239,false),(1734437990,false),(1685221239,false)],1,[],#[.setList 1 E.nil,.forIn [2,3] (.glo 1537007983168621662029 (.tup [(.tup [(.int (.ofNat 4194304)),(.str [100,101,99,108,97,114,101,32])]),(.tup [(.int (.ofNat 65536)),(.str [112,117,98,108,105,99,32])]),(.tup [(.int (.ofNat 32768)),(.str [112,114,111,116,101,99,116,101,100,32])]),(.tup [(.int (.ofNat 16384)),(.str [112,114,105,118,97,116,101,32])]),(.tup [(.int (.ofNat 262144)),(.str [115,116,97,116,105,99,32])]),(.tup [(.int (.ofNat 524288)),(.str [97,98,115,116,114,97,99,116,32])]),(.tup [(.int (.ofNat 1048576)),(.str [111,118,101,114,114,105,100,101,32])]),(.tup [(.int (.ofNat 131072)),(.str [114,101,97,100,111,110,108,121,32])])])) #[.ite (.bin .band (.attr (.loc 0) 495655677030) (.loc 2)) #[.app 1 (.loc 3)] S.nil],.ret (.join (.lit (.str [])) (.loc 1))]⟩
noncomputable def la:Fn:=⟨[(1718379891,false)],1,[],#[.setAttr 0 126879514323059 (.dict E.nil),.setAttr 0 448630121828 (.lit (.int (.ofNat 0))),.setAttr 0 1885693284 (.lit (.int (.ofNat 0))),.setAttr 0 126879447608929 (.new 327 E.nil)]⟩
noncomputable def mj:Fn:=⟨[(1718379891,false),(1701080942,false),(435677128819,false),(1954047348,false)],2,[],#[.set 2 (.get (.attrO 0 126879514323059) (.attr (.loc 1) 1684957547)),.ite (.cmp .is_ (.loc 2) (.lit .none)) #[.bad] S.nil,.augAttr 0 1885693284 .add (.lit (.int (.ofNat 1))),.ite (.cmp .gt (.attrO 0 1885693284) (.glo 94642280922245506249477965 (.int (.ofNat 200)))) #[.bad] S.nil,.set 3 (.meth (.loc 2) 1954047348 (some (0,0)) #[.hole 0,.loc 1]),.augAttr 0 1885693284 .sub (.lit (.int (.ofNat 1))),.ret (.loc 3)]⟩
noncomputable def ql:Fn:=⟨[(29296,false)],1,[],#[.ret (.bin .add (.lit (.str [10])) (.bin .mul (.lit (.str [32,32])) (.attrO 0 448630121828)))]⟩
noncomputable def v8:Fn:=⟨[(29296,false),(495622319982,false),(1818845556,false)],3,[],#[.ite (.not (.loc 1)) #[.ret (.lit (.str [123,125]))] S.nil,.ret (.bin .add (.bin .add (.bin .add (.lit (.str [123])) (.call 387 (some (0,0)) #[.hole 0,.loc 1,.loc 2])) (.call 373 (some (0,0)) #[.hole 0])) (.lit (.str [125])))]⟩
noncomputable def j4:Fn:=⟨[(29296,false),(495622319982,false),(1818845556,false),(7632239,false),(1701080942,false)],3,[],#[.setList 3 E.nil,.augAttr 0 448630121828 .add (.lit (.int (.ofNat 1))),.forIn [4] (.loc 1) #[.app 3 (.call 373 (some (0,0)) #[.hole 0]),.app 3 (.methO 0 1954047348 #[.loc 4]),.app 3 (.loc 2)],.augAttr 0 448630121828 .sub (.lit (.int (.ofNat 1))),.ret (.join (.lit (.str [])) (.loc 3))]⟩
noncomputable def iS:Fn:=⟨[(29296,false),(495622319982,false),(31073733908391266,false),(7632239,false),(1701080942,false)],3,[],#[.setList 3 E.nil,.forIn [4] (.loc 1) #[.app 3 (.ite (.cmp .is_ (.loc 4) (.lit .none)) (.lit (.str [])) (.methO 0 1954047348 #[.loc 4]))],.ret (.join (.loc 2) (.loc 3))]⟩
noncomputable def xt:Fn:=⟨[(29296,false),(7827314,false)],2,[],#[.ite (.or (.cmp .is_ (.loc 1) (.lit .none)) (.not (.attr (.loc 1) 1935960427))) #[.ret (.lit (.str []))] S.nil,.ret (.bin .add (.bin .add (.lit (.str [60])) (.call 394 (some (0,0)) #[.hole 0,.attr (.loc 1) 1935960427,.lit (.str [44,32])])) (.lit (.str [62])))]⟩
noncomputable def vo:Fn:=⟨[(29296,false),(1701080942,false),(111542169658722,false)],3,[],#[.ite (.cmp .is_ (.loc 1) (.lit .none)) #[.ret (.lit (.str []))] S.nil,.ret (.bin .add (.loc 2) (.methO 0 1954047348 #[.loc 1]))]⟩
noncomputable def ka:Fn:=⟨[(29296,false),(1701080942,false),(28254585841741417,false),(1954047348,false),(1953066601,false)],3,[],#[.set 3 (.methO 0 1954047348 #[.idx (.attr (.loc 1) 1935960427) (.lit (.int (.ofNat 0)))]),.ite (.bin .band (.attr (.loc 1) 495655677030) (.glo 78401427889990 (.int (.ofNat 2097152)))) #[.aug 3 .add (.lit (.str [33]))] S.nil,.aug 3 .add (.call 408 (some (0,0)) #[.hole 0,.idx (.attr (.loc 1) 1935960427) (.lit (.int (.ofNat 1))),.lit (.str [58,32])]),.set 4 (.idx (.attr (.loc 1) 1935960427) (.lit (.int (.ofNat 2)))),.ite (.cmp .is_ (.loc 4) (.lit .none)) #[.ret (.loc 3)] S.nil,.ret (.bin .add (.bin .add (.loc 3) (.lit (.str [32,61,32]))) (.ite (.loc 2) .bad (.methO 0 1954047348 #[.loc 4])))]⟩
noncomputable def lT:Fn:=⟨[(29296,false),(1701080942,false),(28254585841741417,false),(7632239,false),(1818453348,false)],3,[],#[.setList 3 E.nil,.forIn [4] (.attr (.loc 1) 1935960427) #[.app 3 (.call 422 (some (0,0)) #[.hole 0,.loc 4,.loc 2])],.ret (.bin .add (.bin .add (.bin .add (.call 261 .none #[.loc 1]) (.attr (.loc 1) 97)) (.lit (.str [32]))) (.join (.lit (.str [44,32])) (.loc 3)))]⟩
noncomputable def fw:Fn:=⟨[(1718379891,false),(29296,false),(1701080942,false),(7632239,false),(6580587,false)],3,[],#[.setList 3 E.nil,.forIn [4] (.attr (.loc 2) 1935960427) #[.app 3 (.methO 1 1954047348 #[.loc 4]),.app 3 (.lit (.str [10]))],.ret (.join (.lit (.str [])) (.loc 3))]⟩
noncomputable def kO:Fn:=⟨[(1718379891,false),(29296,false),(1701080942,false)],3,[],#[.ret (.bin .add (.call 429 (some (0,1)) #[.hole 1,.loc 2,.lit (.bool false)]) (.lit (.str [59])))]⟩
noncomputable def iu:Fn:=⟨[(1718379891,false),(29296,false),(1701080942,false)],3,[],#[.ite (.bin .band (.attr (.loc 2) 495655677030) (.glo 421698212330069866864454 (.int (.ofNat 134217728)))) #[.ret (.bin .add (.bin .add (.lit (.str [105,109,112,111,114,116,32,123,125,32,102,114,111,109,32])) (.call 240 .none #[.attr (.loc 2) 97])) (.lit (.str [59])))] S.nil,.ite (.not (.attr (.loc 2) 1935960427)) #[.ret (.bin .add (.bin .add (.lit (.str [105,109,112,111,114,116,32])) (.call 240 .none #[.attr (.loc 2) 97])) (.lit (.str [59])))] S.nil,.ret (.bin .add (.bin .add (.bin .add (.bin .add (.lit (.str [105,109,112,111,114,116,32,123,32])) (.call 394 (some (0,1)) #[.hole 1,.attr (.loc 2) 1935960427,.lit (.str [44,32])])) (.lit (.str [32,125,32,102,114,111,109,32]))) (.call 240 .none #[.attr (.loc 2) 97])) (.lit (.str [59])))]⟩
noncomputable def dX:Fn:=⟨[(1718379891,false),(29296,false),(1701080942,false),(491328402799,false),(491328007785,false),(1954047348,false)],3,[],#[.setTup [3,4] (.attr (.loc 2) 97),.set 5 (.ite (.bin .band (.attr (.loc 2) 495655677030) (.glo 421698212330069866864454 (.int (.ofNat 134217728)))) (.lit (.str [116,121,112,101,32])) (.lit (.str []))),.ite (.cmp .eq (.loc 3) (.loc 4)) #[.ret (.bin .add (.loc 5) (.loc 3))] S.nil,.ret (.bin .add (.bin .add (.bin .add (.loc 5) (.loc 3)) (.lit (.str [32,97,115,32]))) (.loc 4))]⟩
noncomputable def io:Fn:=⟨[(1718379891,false),(29296,false),(1701080942,false)],3,[],#[.ret (.bin .add (.lit (.str [101,120,112,111,114,116,32])) (.methO 1 1954047348 #[.idx (.attr (.loc 2) 1935960427) (.lit (.int (.ofNat 0)))]))]⟩
noncomputable def dr:Fn:=⟨[(1718379891,false),(29296,false),(1701080942,false),(1954047348,false)],3,[],#[.set 3 (.bin .add (.bin .add (.bin .add (.call 261 .none #[.loc 2]) (.lit (.str [105,110,116,101,114,102,97,99,101,32]))) (.attr (.loc 2) 97)) (.call 401 (some (0,1)) #[.hole 1,.idx (.attr (.loc 2) 1935960427) (.lit (.int (.ofNat 0)))])),.ite (.and (.cmp .isn (.idx (.attr (.loc 2) 1935960427) (.lit (.int (.ofNat 1)))) (.lit .none)) (.attr (.idx (.attr (.loc 2) 1935960427) (.lit (.int (.ofNat 1)))) 1935960427)) #[.aug 3 .add (.bin .add (.lit (.str [32,101,120,116,101,110,100,115,32])) (.call 394 (some (0,1)) #[.hole 1,.attr (.idx (.attr (.loc 2) 1935960427) (.lit (.int (.ofNat 1)))) 1935960427,.lit (.str [44,32])]))] S.nil,.ret (.bin .add (.bin .add (.loc 3) (.lit (.str [32]))) (.call 380 (some (0,1)) #[.hole 1,.attr (.idx (.attr (.loc 2) 1935960427) (.lit (.int (.ofNat 2)))) 1935960427,.lit (.str [59])]))]⟩
noncomputable def iI:Fn:=⟨[(1718379891,false),(29296,false),(1701080942,false),(1954047348,false)],3,[],#[.set 3 (.bin .add (.bin .add (.bin .add (.call 261 .none #[.loc 2]) (.lit (.str [116,121,112,101,32]))) (.attr (.loc 2) 97)) (.call 401 (some (0,1)) #[.hole 1,.idx (.attr (.loc 2) 1935960427) (.lit (.int (.ofNat 0)))])),.ret (.bin .add (.bin .add (.bin .add (.loc 3) (.lit (.str [32,61,32]))) (.methO 1 1954047348 #[.idx (.attr (.loc 2) 1935960427) (.lit (.int (.ofNat 1)))])) (.lit (.str [59])))]⟩
noncomputable def fe:Fn:=⟨[(1718379891,false),(29296,false),(1701080942,false),(1954047348,false)],3,[],#[.set 3 (.ite (.bin .band (.attr (.loc 2) 495655677030) (.glo 1555166496849066549062 (.int (.ofNat 4194304)))) (.lit (.str [100,101,99,108,97,114,101,32])) (.lit (.str []))),.ite (.bin .band (.attr (.loc 2) 495655677030) (.glo 23735493846064966 (.int (.ofNat 8388608)))) #[.aug 3 .add (.lit (.str [99,111,110,115,116,32]))] S.nil,.ret (.bin .add (.bin .add (.bin .add (.bin .add (.loc 3) (.lit (.str [101,110,117,109,32]))) (.attr (.loc 2) 97)) (.lit (.str [32]))) (.call 380 (some (0,1)) #[.hole 1,.attr (.loc 2) 1935960427,.lit (.str [44])]))]⟩
noncomputable def gV:Fn:=⟨[(1718379891,false),(29296,false),(1701080942,false),(1701667182,false)],3,[],#[.set 3 (.ite (.call 254 .none #[.attr (.loc 2) 97]) (.attr (.loc 2) 97) (.call 240 .none #[.attr (.loc 2) 97])),.ret (.bin .add (.loc 3) (.call 408 (some (0,1)) #[.hole 1,.idx (.attr (.loc 2) 1935960427) (.lit (.int (.ofNat 0))),.lit (.str [32,61,32])]))]⟩
noncomputable def kx:Fn:=⟨[(1718379891,false),(29296,false),(1701080942,false)],3,[],#[.ite (.not (.attr (.loc 2) 1935960427)) #[.ret (.attr (.loc 2) 97)] S.nil,.ret (.bin .add (.bin .add (.bin .add (.attr (.loc 2) 97) (.lit (.str [60]))) (.call 394 (some (0,1)) #[.hole 1,.attr (.loc 2) 1935960427,.lit (.str [44,32])])) (.lit (.str [62])))]⟩
noncomputable def em:Fn:=⟨[(1718379891,false),(29296,false),(1701080942,false),(1954047348,false)],3,[],#[.set 3 (.ite (.bin .band (.attr (.loc 2) 495655677030) (.glo 1313431366 (.int (.ofNat 268435456)))) (.lit (.str [105,110,32])) (.lit (.str []))),.ite (.bin .band (.attr (.loc 2) 495655677030) (.glo 362208517958 (.int (.ofNat 536870912)))) #[.aug 3 .add (.lit (.str [111,117,116,32]))] S.nil,.aug 3 .add (.bin .add (.attr (.loc 2) 97) (.call 408 (some (0,1)) #[.hole 1,.idx (.attr (.loc 2) 1935960427) (.lit (.int (.ofNat 0))),.lit (.str [32,101,120,116,101,110,100,115,32])])),.ret (.bin .add (.loc 3) (.call 408 (some (0,1)) #[.hole 1,.idx (.attr (.loc 2) 1935960427) (.lit (.int (.ofNat 1))),.lit (.str [32,61,32])]))]⟩
noncomputable def o6:Fn:=⟨[(1718379891,false),(1684957547,false),(1954047348,false),(7173486,false),(29793,false),(6581861,false),(122641912527128594339490156,false)],7,[],#[.setAttr 0 1684957547 (.loc 1),.setAttr 0 1954047348 (.loc 2),.setAttr 0 7173486 (.loc 3),.setAttr 0 29793 (.loc 4),.setAttr 0 6581861 (.loc 5),.setAttr 0 122641912527128594339490156 (.loc 6)]⟩
noncomputable def cT:Fn:=⟨[(1718379891,false),(126917985136500,false),(495655676260,false)],3,[],#[.setAttr 0 126917985136500 (.slc (.loc 1) (.lit .none) (.lit .none)),.setAttr 0 29793 (.lit (.int (.ofNat 0))),.setAttr 0 495655676260 (.loc 2),.setAttr 0 495874892144 (.dict E.nil),.setAttr 0 126943990278502 (.dict E.nil),.setAttr 0 495740084596 (.dict E.nil),.setAttr 0 495623108980 (.dict E.nil),.setAttr 0 1885693284 (.lit (.int (.ofNat 0))),.setAttr 0 29113321536775536 (.tup #[.lit (.str []),.lit (.int (.ofNat 0)),.lit (.int (.ofNat 0))]),.setAttr 0 7955995183301815393 (.lit (.bool true)),.setAttr 0 27987473202114153 (.lit (.int (.ofNat 0))),.setAttr 0 31647721741839977 (.lit (.int (.ofNat 0))),.setAttr 0 1925627852534604328553 (.lit (.int (.ofNat 0))),.setAttr 0 126909394608492 (.list E.nil),.setAttr 0 28268922358689646 (.lit (.bool false)),.setAttr 0 32195222481167730 (.lit (.bool false)),.setAttr 0 511813157447760619728489 (.lit (.int (.ofNat 0))),.setAttr 0 126935165726563 (.list E.nil),.setAttr 0 126862284910435 (.dict E.nil),.setAttr 0 2203193151619530518382 (.dict E.nil),.setAttr 0 126943822114931 (.list E.nil),.setAttr 0 431198986611 (.list E.nil)]⟩
noncomputable def oU:Fn:=⟨[(1718379891,false)],1,[],#[.ret (.idx (.attrO 0 126917985136500) (.attrO 0 29793))]⟩
noncomputable def mn:Fn:=⟨[(1718379891,false),(110,false),(435459026032,false)],2,[],#[.set 2 (.bin .add (.attrO 0 29793) (.loc 1)),.ite (.cmp .ge (.loc 2) (.pf .len (.attrO 0 126917985136500))) #[.set 2 (.bin .sub (.pf .len (.attrO 0 126917985136500)) (.lit (.int (.ofNat 1))))] S.nil,.ret (.idx (.attrO 0 126917985136500) (.loc 2))]⟩
noncomputable def mK:Fn:=⟨[(1718379891,false),(474147942260,false)],1,[],#[.set 1 (.idx (.attrO 0 126917985136500) (.attrO 0 29793)),.ite (.cmp .ne (.attr (.loc 1) 1684957547) (.glo 293370945364 (.int (.ofNat 0)))) #[.augAttr 0 29793 .add (.lit (.int (.ofNat 1)))] S.nil,.ret (.loc 1)]⟩
noncomputable def jK:Fn:=⟨[(1718379891,false),(1954047348,false)],2,[],#[.ret (.call 927 .none #[.idx (.attrO 0 126917985136500) (.attrO 0 29793),.glo 86068079845204 (.int (.ofNat 5)),.loc 1])]⟩
noncomputable def jJ:Fn:=⟨[(1718379891,false),(1954047348,false)],2,[],#[.ret (.call 927 .none #[.idx (.attrO 0 126917985136500) (.attrO 0 29793),.glo 75120309133140 (.int (.ofNat 2)),.loc 1])]⟩
noncomputable def jW:Fn:=⟨[(1718379891,false),(1954047348,false)],2,[],#[.ret (.call 927 .none #[.idx (.attrO 0 126917985136500) (.attrO 0 29793),.glo 76198110453588 (.int (.ofNat 1)),.loc 1])]⟩
noncomputable def ji:Fn:=⟨[(1718379891,false),(1954047348,false)],2,[],#[.ret (.call 941 (some (0,0)) #[.hole 0,.glo 86068079845204 (.int (.ofNat 5)),.loc 1])]⟩
noncomputable def iE:Fn:=⟨[(1718379891,false),(1954047348,false)],2,[],#[.ret (.call 941 (some (0,0)) #[.hole 0,.glo 75120309133140 (.int (.ofNat 2)),.loc 1])]⟩
noncomputable def iU:Fn:=⟨[(1718379891,false),(1954047348,false)],2,[],#[.ret (.call 941 (some (0,0)) #[.hole 0,.glo 76198110453588 (.int (.ofNat 1)),.loc 1])]⟩
noncomputable def im:Fn:=⟨[(1718379891,false),(1954047348,false)],2,[],#[.ite (.not (.call 941 (some (0,0)) #[.hole 0,.glo 86068079845204 (.int (.ofNat 5)),.loc 1])) #[.expr .bad] S.nil]⟩
noncomputable def ip:Fn:=⟨[(1718379891,false)],1,[],#[.ite (.cmp .ne (.attr (.methO 0 7827310 E.nil) 1684957547) (.glo 76198110453588 (.int (.ofNat 1)))) #[.expr .bad] S.nil,.ret (.attr (.methO 0 1885697139 E.nil) 1954047348)]⟩
noncomputable def iA:Fn:=⟨[(1718379891,false)],1,[],#[.ret (.call 962 (some (0,0)) #[.hole 0])]⟩
noncomputable def gn:Fn:=⟨[(1718379891,false)],1,[],#[.ret (.call 969 (some (0,0)) #[.hole 0])]⟩
noncomputable def ju:Fn:=⟨[(1718379891,false),(474147942260,false)],1,[],#[.set 1 (.methO 0 7827310 E.nil),.ite (.or (.cmp .eq (.attr (.loc 1) 1684957547) (.glo 293370945364 (.int (.ofNat 0)))) (.attr (.loc 1) 122641912527128594339490156)) #[.ret (.lit (.bool true))] S.nil,.ret (.and (.cmp .eq (.attr (.loc 1) 1684957547) (.glo 86068079845204 (.int (.ofNat 5)))) (.or (.cmp .eq (.attr (.loc 1) 1954047348) (.lit (.str [59]))) (.cmp .eq (.attr (.loc 1) 1954047348) (.lit (.str [125])))))]⟩
noncomputable def fC:Fn:=⟨[(1718379891,false)],1,[],#[.ite (.and (.not (.methO 0 7955443211016888677 #[.lit (.str [59])])) (.not (.methO 0 28268879342887267 E.nil))) #[.expr .bad] S.nil]⟩
noncomputable def mH:Fn:=⟨[(1718379891,false)],1,[],#[.augAttr 0 1885693284 .add (.lit (.int (.ofNat 1))),.ite (.cmp .gt (.attrO 0 1885693284) (.glo 5784105456386982221 (.int (.ofNat 40)))) #[.expr .bad,.bad] S.nil]⟩
noncomputable def qO:Fn:=⟨[(1718379891,false)],1,[],#[.augAttr 0 1885693284 .sub (.lit (.int (.ofNat 1)))]⟩
noncomputable def mT:Fn:=⟨[(1718379891,false),(110,false),(1701080942,false)],2,[],#[.ite (.cmp .nin (.loc 1) (.attrO 0 495874892144)) #[.bad] S.nil,.expr (.methO 0 1853321060 E.nil),.ite (.cmp .in_ (.loc 1) (.glo 1537155748778621163343 (.tup [(.int (.ofNat 3)),(.int (.ofNat 4)),(.int (.ofNat 5)),(.int (.ofNat 6))]))) #[.set 2 (.call 920 (some (0,0)) #[.hole 0,.idx (.attrO 0 495874892144) (.loc 1)])] #[.set 2 (.meth (.idx (.attrO 0 495874892144) (.loc 1)) 435728572784 (some (0,0)) #[.hole 0])],.ite (.cmp .eq (.attrO 0 1885693284) (.lit (.int (.ofNat 1)))) #[.expr (.call 934 (some (0,0)) #[.hole 0,.loc 2])] S.nil,.expr (.methO 0 28789 E.nil),.ret (.loc 2)]⟩
noncomputable def oG:Fn:=⟨[(112,false),(1953653104,false),(7955995183301815393,false),(28268922358689646,false),(32195222481167730,false),(511813157447760619728489,false),(126935165726563,false),(1701080942,false)],2,[],#[.set 2 (.attrO 0 7955995183301815393),.set 3 (.attrO 0 28268922358689646),.set 4 (.attrO 0 32195222481167730),.set 5 (.attrO 0 511813157447760619728489),.set 6 (.attrO 0 126935165726563),.setAttr 0 7955995183301815393 (.lit (.bool true)),.setAttr 0 28268922358689646 (.lit (.bool false)),.setAttr 0 32195222481167730 (.lit (.bool false)),.setAttr 0 511813157447760619728489 (.lit (.int (.ofNat 0))),.setAttr 0 126935165726563 (.list E.nil),.set 7 (.meth (.loc 1) 435728572784 (some (0,0)) #[.hole 0]),.setAttr 0 7955995183301815393 (.loc 2),.setAttr 0 28268922358689646 (.loc 3),.setAttr 0 32195222481167730 (.loc 4),.setAttr 0 511813157447760619728489 (.loc 5),.setAttr 0 126935165726563 (.loc 6),.ret (.loc 7)]⟩
noncomputable def r5:Fn:=⟨[(474147942260,false),(1684957547,false),(1954047348,false)],3,[],#[.ret (.and (.cmp .eq (.attr (.loc 0) 1684957547) (.loc 1)) (.cmp .eq (.attr (.loc 0) 1954047348) (.loc 2)))]⟩
noncomputable def bZ:Fn:=⟨[(112,false),(1953460082,false),(461228831859,false),(1701080942,false),(465558725996,false),(6580587,false)],2,[],#[.setList 2 #[.tup #[.loc 1,.lit (.int (.ofNat 1))]],.whilO 2 #[.setTup [3,4] (.popO 2),.ite (.cmp .is_ (.loc 3) (.lit .none)) #[.cnt] S.nil,.ite (.cmp .gt (.loc 4) (.glo 398012086847384418009421 (.int (.ofNat 160)))) #[.expr .bad,.bad] S.nil,.forIn [5] (.attr (.loc 3) 1935960427) #[.app 2 (.tup #[.loc 5,.bin .add (.loc 4) (.lit (.int (.ofNat 1)))])]]]⟩
noncomputable def qb:Fn:=⟨[(112,false),(1684957547,false),(1954047348,false)],3,[],#[.ite (.not (.call 927 .none #[.methO 0 7827310 E.nil,.loc 1,.loc 2])) #[.ret (.lit (.bool false))] S.nil,.expr (.methO 0 1885697139 E.nil),.ret (.lit (.bool true))]⟩
noncomputable def nZ:Fn:=⟨[(474147942260,false)],1,[],#[.ret (.cmp .in_ (.attr (.loc 0) 1684957547) (.tup #[.glo 76198110453588 (.int (.ofNat 1)),.glo 75120309133140 (.int (.ofNat 2)),.glo 353602068308 (.int (.ofNat 4)),.glo 332143681364 (.int (.ofNat 3))]))]⟩
noncomputable def jE:Fn:=⟨[(112,false),(1701667182,false)],1,[],#[.ite (.call 948 .none #[.methO 0 7827310 E.nil]) #[.ret (.attr (.methO 0 1885697139 E.nil) 1954047348)] S.nil,.ite (.not (.methO 0 31075950043034473 #[.lit (.str [91])])) #[.expr .bad] S.nil,.ite (.not .bad) #[.expr .bad] S.nil,.expr (.methO 0 1885697139 E.nil),.set 1 (.attr (.methO 0 1885697139 E.nil) 1954047348),.expr (.methO 0 1885697139 E.nil),.ret (.loc 1)]⟩
noncomputable def hY:Fn:=⟨[(112,false)],1,[],#[.ite (.and (.cmp .ne (.attr (.methO 0 7827310 E.nil) 1684957547) (.glo 76198110453588 (.int (.ofNat 1)))) (.cmp .ne (.attr (.methO 0 7827310 E.nil) 1684957547) (.glo 75120309133140 (.int (.ofNat 2))))) #[.expr .bad] S.nil,.ret (.attr (.methO 0 1885697139 E.nil) 1954047348)]⟩
noncomputable def ou:Fn:=⟨[(112,false),(474147942260,false),(110425377629538,false),(110386806878058,false)],1,[],#[.set 1 (.methO 0 7827310 E.nil),.ite (.not (.call 927 .none #[.loc 1,.glo 86068079845204 (.int (.ofNat 5)),.lit (.str [62,61])])) #[.expr (.methO 0 2036593462020055328110 #[.lit (.str [62])]),.ret0] S.nil,.set 2 (.methO 0 431130765409 #[.lit (.int (.ofNat 1))]),.expr .bad,.set 3 (.bin .add (.lit (.str [61])) (.attr (.loc 2) 1954047348)),.ite (.or (.cmp .ne (.attr (.loc 2) 1684957547) (.glo 86068079845204 (.int (.ofNat 5)))) (.or (.cmp .ne (.attr (.loc 2) 29793) (.attr (.loc 1) 6581861)) (.cmp .nin (.loc 3) (.glo 75064456859466 (.tup [(.str [61,62]),(.str [61,61]),(.str [61,61,61])]))))) #[.bad,.ret0] S.nil,.expr .bad,.bad,.bad,.expr (.methO 0 1885697139 E.nil)]⟩
noncomputable def mA:Fn:=⟨[(1718379891,false),(112,false)],2,[],#[.ret (.lit (.bool true))]⟩
noncomputable def kA:Fn:=⟨[(1718379891,false)],1,[],#[.setAttr 0 495606460279 (.dict E.nil)]⟩
noncomputable def jP:Fn:=⟨[(1718379891,false),(112,false)],2,[],#[.ret (.call 1056 (some (0,1)) #[.hole 1,.attr (.loc 0) 495606460279])]⟩
noncomputable def iF:Fn:=⟨[(1718379891,false),(112,false),(29793,false)],2,[],#[.set 2 (.attr (.methO 1 7827310 E.nil) 29793),.ret (.call 56 .none #[.glo 21184631114194763 (.int (.ofNat 59)),.lit (.str []),.call 1063 (some (0,1)) #[.hole 1],.loc 2])]⟩
noncomputable def jT:Fn:=⟨[(112,false),(495606460279,false),(474147942260,false),(1701080942,false)],2,[],#[.set 2 (.methO 0 7827310 E.nil),.ite (.or (.cmp .eq (.attr (.loc 2) 1684957547) (.glo 75120309133140 (.int (.ofNat 2)))) (.cmp .eq (.attr (.loc 2) 1684957547) (.glo 76198110453588 (.int (.ofNat 1))))) #[.ite (.and (.cmp .in_ (.attr (.loc 2) 1954047348) (.loc 1)) (.meth (.idx (.loc 1) (.attr (.loc 2) 1954047348)) 495773380719 (some (0,0)) #[.hole 0])) #[.ret (.meth (.idx (.loc 1) (.attr (.loc 2) 1954047348)) 1684104562 (some (0,0)) #[.hole 0])] S.nil] S.nil,.ite (.and (.cmp .eq (.attr (.loc 2) 1684957547) (.glo 76198110453588 (.int (.ofNat 1)))) (.and (.call 927 .none #[.methO 0 431130765409 #[.lit (.int (.ofNat 1))],.glo 86068079845204 (.int (.ofNat 5)),.lit (.str [58])]) (.cmp .in_ (.lit (.str [35,108,97,98,101,108])) (.loc 1)))) #[.ret (.meth (.idx (.loc 1) (.lit (.str [35,108,97,98,101,108]))) 1684104562 (some (0,0)) #[.hole 0])] S.nil,.ite (.methO 0 31075950043034473 #[.lit (.str [123])]) #[.ret (.methO 0 1953653104 #[.glo 355419132083166361305424 (.int (.ofNat 4))])] S.nil,.ite (.methO 0 7955443211016888677 #[.lit (.str [59])]) #[.ret (.call 49 .none #[.glo 25143976797757259 (.int (.ofNat 60)),.lit (.str []),.attr (.loc 2) 29793])] S.nil,.ite (.or (.methO 0 31075950043034473 #[.lit (.str [125])]) (.or (.methO 0 28273320740746089 #[.lit (.str [105,109,112,111,114,116])]) (.methO 0 28273320740746089 #[.lit (.str [101,120,112,111,114,116])]))) #[.expr .bad] S.nil,.set 3 (.methO 0 1953653104 #[.glo 1518422467640906891600 (.int (.ofNat 2))]),.expr (.methO 0 9224632820852246092213473537637 E.nil),.ret (.call 56 .none #[.glo 6076290827284733771 (.int (.ofNat 43)),.lit (.str []),.list #[.loc 3],.attr (.loc 2) 29793])]⟩
noncomputable def pw:Fn:=⟨[(112,false),(1937207154,false)],1,[],#[.expr (.methO 0 2036593462020055328110 #[.lit (.str [123])]),.setList 1 E.nil,.whil (.and (.not (.methO 0 31075950043034473 #[.lit (.str [125])])) (.cmp .ne (.attr (.methO 0 7827310 E.nil) 1684957547) (.glo 293370945364 (.int (.ofNat 0))))) #[.app 1 (.methO 0 1953653104 #[.glo 1555098672499468157264 (.int (.ofNat 3))])],.expr (.methO 0 2036593462020055328110 #[.lit (.str [125])]),.ret (.loc 1)]⟩
noncomputable def j1:Fn:=⟨[(1701080942,false)],1,[],#[.ite (.cmp .eq (.attr (.loc 0) 1684957547) (.glo 353283497803 (.int (.ofNat 41)))) #[.ret (.cmp .ne (.attr (.loc 0) 97) (.lit (.str [118,97,114])))] S.nil,.ret (.cmp .in_ (.attr (.loc 0) 1684957547) (.tup #[.glo 74003717185355 (.int (.ofNat 27)),.glo 23453962984447819 (.int (.ofNat 61)),.glo 83733484213315229543128907 (.int (.ofNat 64)),.glo 23434206134755147 (.int (.ofNat 65)),.glo 85028780728139 (.int (.ofNat 66))]))]⟩
noncomputable def qI:Fn:=⟨[(112,false),(110425377629538,false)],1,[],#[.set 1 (.methO 0 431130765409 #[.lit (.int (.ofNat 1))]),.ite (.cmp .eq (.attr (.loc 1) 1684957547) (.glo 76198110453588 (.int (.ofNat 1)))) #[.ret (.lit (.bool true))] S.nil,.ret (.or (.call 927 .none #[.loc 1,.glo 86068079845204 (.int (.ofNat 5)),.lit (.str [91])]) (.call 927 .none #[.loc 1,.glo 86068079845204 (.int (.ofNat 5)),.lit (.str [123])]))]⟩
noncomputable def gi:Fn:=⟨[(112,false),(127978876068212,false),(495655677030,false),(1684957547,false),(1953066601,false)],1,[],#[.set 1 (.methO 0 1953653104 #[.glo 24239290082158357293019840848 (.int (.ofNat 10))]),.set 2 (.lit (.int (.ofNat 0))),.ite (.and (.methO 0 31075950043034473 #[.lit (.str [33])]) (.and (.not (.attr (.methO 0 7827310 E.nil) 122641912527128594339490156)) (.cmp .eq (.attr (.loc 1) 1684957547) (.glo 76198110453579 (.int (.ofNat 8)))))) #[.expr (.methO 0 1885697139 E.nil),.set 2 (.glo 78401427889990 (.int (.ofNat 2097152)))] S.nil,.set 3 (.lit .none),.ite (.methO 0 7955443211016888677 #[.lit (.str [58])]) #[.set 3 (.methO 0 1953653104 #[.glo 1278615092650333847888 (.int (.ofNat 1))])] S.nil,.set 4 (.lit .none),.ite (.methO 0 7955443211016888677 #[.lit (.str [61])]) #[.set 4 (.methO 0 1953653104 #[.glo 1518422467640906891600 (.int (.ofNat 2))])] S.nil,.ret (.call 63 .none #[.glo 83851808628555 (.int (.ofNat 42)),.lit (.str []),.list #[.loc 1,.loc 3,.loc 4],.loc 2,.attr (.loc 1) 29793])]⟩
noncomputable def rT:Fn:=⟨[(112,false),(495655677030,false),(1685221239,false),(495739692388,false)],2,[],#[.set 2 (.methO 0 1885697139 E.nil),.setList 3 #[.call 1084 (some (0,0)) #[.hole 0]],.whil (.methO 0 7955443211016888677 #[.lit (.str [44])]) #[.app 3 (.call 1084 (some (0,0)) #[.hole 0])],.ret (.call 63 .none #[.glo 353283497803 (.int (.ofNat 41)),.attr (.loc 2) 1954047348,.loc 3,.loc 1,.attr (.loc 2) 29793])]⟩
noncomputable def ko:Fn:=⟨[(112,false),(1701080942,false),(1818453348,false)],2,[],#[.forIn [2] (.attr (.loc 1) 1935960427) #[.ite (.bin .band (.attr (.loc 1) 495655677030) (.glo 1555166496849066549062 (.int (.ofNat 4194304)))) #[.expr (.call 1105 (some (0,0)) #[.hole 0,.loc 1,.loc 2])] #[.ite (.cmp .is_ (.idx (.attr (.loc 2) 1935960427) (.lit (.int (.ofNat 2)))) (.lit .none)) #[.ite (.cmp .ne (.attr (.idx (.attr (.loc 2) 1935960427) (.lit (.int (.ofNat 0)))) 1684957547) (.glo 76198110453579 (.int (.ofNat 8)))) #[.expr .bad] #[.ite (.cmp .eq (.attr (.loc 1) 97) (.lit (.str [99,111,110,115,116]))) #[.expr .bad] S.nil]] S.nil],.expr (.call 1112 (some (0,0)) #[.hole 0,.loc 2])]]⟩
noncomputable def kF:Fn:=⟨[(112,false),(1701080942,false),(1818453348,false)],3,[],#[.ite (.and (.cmp .isn (.idx (.attr (.loc 2) 1935960427) (.lit (.int (.ofNat 2)))) (.lit .none)) (.or (.cmp .ne (.attr (.loc 1) 97) (.lit (.str [99,111,110,115,116]))) (.cmp .isn (.idx (.attr (.loc 2) 1935960427) (.lit (.int (.ofNat 1)))) (.lit .none)))) #[.expr .bad] S.nil]⟩
noncomputable def om:Fn:=⟨[(112,false),(1818453348,false)],2,[],#[.ite (.not (.bin .band (.attr (.loc 1) 495655677030) (.glo 78401427889990 (.int (.ofNat 2097152))))) #[.ret0] S.nil,.ite (.cmp .isn (.idx (.attr (.loc 1) 1935960427) (.lit (.int (.ofNat 2)))) (.lit .none)) #[.expr .bad] #[.ite (.cmp .is_ (.idx (.attr (.loc 1) 1935960427) (.lit (.int (.ofNat 1)))) (.lit .none)) #[.expr .bad] S.nil]]⟩
noncomputable def l7:Fn:=⟨[(112,false),(495655677030,false),(1701080942,false)],2,[],#[.set 2 (.call 1091 (some (0,0)) #[.hole 0,.loc 1]),.expr (.methO 0 9224632820852246092213473537637 E.nil),.expr (.call 1098 (some (0,0)) #[.hole 0,.loc 2]),.ret (.loc 2)]⟩
noncomputable def jL:Fn:=⟨[(1718379891,false),(112,false)],2,[],#[.ret (.call 1119 (some (0,1)) #[.hole 1,.lit (.int (.ofNat 0))])]⟩
noncomputable def iL:Fn:=⟨[(1718379891,false),(112,false)],2,[],#[.ret (.call 1077 (some (0,1)) #[.hole 1])]⟩
noncomputable def jZ:Fn:=⟨[(1718379891,false),(112,false)],2,[],#[.ret (.call 1119 (some (0,1)) #[.hole 1,.lit (.int (.ofNat 0))])]⟩
noncomputable def pU:Fn:=⟨[(112,false),(28268922358689646,false),(431198986611,false),(1701080942,false)],2,[],#[.set 2 (.attrO 0 28268922358689646),.setAttr 0 28268922358689646 (.loc 1),.set 3 (.methO 0 1953653104 #[.glo 1278615092650333847888 (.int (.ofNat 1))]),.setAttr 0 28268922358689646 (.loc 2),.ret (.loc 3)]⟩
noncomputable def mL:Fn:=⟨[(112,false),(29793,false),(1701667182,false),(495723637100,false)],1,[],#[.set 1 (.attr (.methO 0 7827310 E.nil) 29793),.set 2 (.methO 0 1871002853623525107054 E.nil),.set 3 (.lit (.int (.ofNat 0))),.whil (.methO 0 7955443211016888677 #[.lit (.str [46])]) #[.set 2 (.bin .add (.bin .add (.loc 2) (.lit (.str [46]))) (.methO 0 122618043015086734528308589 E.nil)),.aug 3 .add (.lit (.int (.ofNat 1)))],.ite (.cmp .gt (.loc 3) (.lit (.int (.ofNat 1)))) #[.expr .bad] S.nil,.ret (.loc 2)]⟩
noncomputable def kP:Fn:=⟨[(112,false),(474147942260,false),(1701667182,false)],1,[],#[.set 1 (.methO 0 7827310 E.nil),.set 2 (.methO 0 1871002853623525107054 E.nil),.ite (.or (.cmp .in_ (.loc 2) (.glo 393216727730493751970123 (.tup [(.str [97,110,121]),(.str [117,110,107,110,111,119,110]),(.str [110,101,118,101,114]),(.str [117,110,100,101,102,105,110,101,100]),(.str [115,116,114,105,110,103]),(.str [110,117,109,98,101,114]),(.str [98,111,111,108,101,97,110]),(.str [111,98,106,101,99,116])]))) (.or (.cmp .eq (.loc 2) (.lit (.str [115,121,109,98,111,108]))) (.cmp .eq (.loc 2) (.lit (.str [98,105,103,105,110,116]))))) #[.expr .bad] S.nil,.ret (.loc 2)]⟩
noncomputable def jn:Fn:=⟨[(112,false),(1936159329,false)],1,[],#[.expr (.methO 0 2036593462020055328110 #[.lit (.str [60])]),.setList 1 #[.call 1172 (some (0,0)) #[.hole 0,.lit (.bool false)]],.whil (.methO 0 7955443211016888677 #[.lit (.str [44])]) #[.app 1 (.call 1172 (some (0,0)) #[.hole 0,.lit (.bool false)])],.expr (.call 976 (some (0,0)) #[.hole 0]),.ret (.loc 1)]⟩
noncomputable def pG:Fn:=⟨[(112,false),(29793,false)],1,[],#[.set 1 (.attr (.methO 0 7827310 E.nil) 29793),.ret (.tup #[.methO 0 1871002853623525107054 E.nil,.loc 1])]⟩
noncomputable def pM:Fn:=⟨[(112,false),(125779768604014,false),(1701667182,false),(29793,false)],2,[],#[.setTup [2,3] (.call 1202 (some (0,0)) #[.hole 0]),.ite (.or (.cmp .in_ (.loc 2) (.glo 393216727730493751970123 (.tup [(.str [97,110,121]),(.str [117,110,107,110,111,119,110]),(.str [110,101,118,101,114]),(.str [117,110,100,101,102,105,110,101,100]),(.str [115,116,114,105,110,103]),(.str [110,117,109,98,101,114]),(.str [98,111,111,108,101,97,110]),(.str [111,98,106,101,99,116])]))) (.or (.cmp .eq (.loc 2) (.lit (.str [115,121,109,98,111,108]))) (.cmp .eq (.loc 2) (.lit (.str [98,105,103,105,110,116]))))) #[.expr .bad] S.nil,.ret (.tup #[.loc 2,.loc 3])]⟩
noncomputable def qA:Fn:=⟨[(112,false),(495655677030,false),(1701667182,false),(29793,false),(1937207154,false)],2,[],#[.expr (.methO 0 1885697139 E.nil),.setTup [2,3] (.call 1209 (some (0,0)) #[.hole 0,.lit (.int (.ofNat 2431))]),.expr (.methO 0 2036593462020055328110 #[.lit (.str [123])]),.setList 4 E.nil,.whil (.not (.methO 0 31075950043034473 #[.lit (.str [125])])) #[.app 4 (.call 1251 (some (0,0)) #[.hole 0]),.ite (.not (.methO 0 7955443211016888677 #[.lit (.str [44])])) #[.brk] S.nil],.expr (.methO 0 2036593462020055328110 #[.lit (.str [125])]),.ret (.call 63 .none #[.glo 85028780728139 (.int (.ofNat 66)),.loc 2,.loc 4,.loc 1,.loc 3])]⟩
noncomputable def my:Fn:=⟨[(1701667182,false),(126943821785444,false),(125780071048556,false)],1,[],#[.set 1 (.ite (.cmp .eq (.slc (.loc 0) (.lit .none) (.lit (.int (.ofNat 1)))) (.lit (.str [45]))) (.slc (.loc 0) (.lit (.int (.ofNat 1))) (.lit .none)) (.loc 0)),.ite (.or (.cmp .eq (.loc 1) (.lit (.str []))) (.or (.cmp .eq (.loc 0) (.lit (.str [45,48]))) (.and (.cmp .eq (.idx (.loc 1) (.lit (.int (.ofNat 0)))) (.lit (.str [48]))) (.cmp .ne (.loc 1) (.lit (.str [48])))))) #[.ret (.lit (.bool false))] S.nil,.forIn [2] (.loc 1) #[.ite (.cmp .nin (.loc 2) (.lit (.str [48,49,50,51,52,53,54,55,56,57]))) #[.ret (.lit (.bool false))] S.nil],.ret (.lit (.bool true))]⟩
noncomputable def ia:Fn:=⟨[(112,false),(474147942260,false),(1701667182,false),(1953066601,false)],1,[],#[.set 1 (.methO 0 7827310 E.nil),.set 2 (.methO 0 1871002853623727092336 E.nil),.ite (.or (.cmp .eq (.attr (.loc 1) 1684957547) (.glo 332143681364 (.int (.ofNat 3)))) (.call 1244 .none #[.loc 2])) #[.expr .bad] S.nil,.set 3 (.lit .none),.ite (.methO 0 7955443211016888677 #[.lit (.str [61])]) #[.set 3 (.methO 0 1953653104 #[.glo 1518422467640906891600 (.int (.ofNat 2))])] S.nil,.ret (.call 56 .none #[.glo 1425393026266239950667 (.int (.ofNat 67)),.loc 2,.list #[.loc 3],.attr (.loc 1) 29793])]⟩
noncomputable def oY:Fn:=⟨[(112,false),(495655677030,false),(1701667182,false),(29793,false),(32489887619969140,false),(1684957547,false)],2,[],#[.expr (.methO 0 1885697139 E.nil),.setTup [2,3] (.call 1209 (some (0,0)) #[.hole 0,.lit (.int (.ofNat 2457))]),.set 4 (.methO 0 1953653104 #[.glo 25780651574442722100746797392 (.int (.ofNat 7))]),.expr (.methO 0 2036593462020055328110 #[.lit (.str [61])]),.set 5 (.methO 0 1953653104 #[.glo 1278615092650333847888 (.int (.ofNat 1))]),.expr (.methO 0 9224632820852246092213473537637 E.nil),.ret (.call 63 .none #[.glo 23434206134755147 (.int (.ofNat 65)),.loc 2,.list #[.loc 4,.loc 5],.loc 1,.loc 3])]⟩
noncomputable def dy:Fn:=⟨[(112,false),(495655677030,false),(1701667182,false),(29793,false),(32489887619969140,false),(495623299426,false),(32495402090325357,false)],2,[],#[.expr (.methO 0 1885697139 E.nil),.setTup [2,3] (.call 1209 (some (0,0)) #[.hole 0,.lit (.int (.ofNat 2427))]),.set 4 (.methO 0 1953653104 #[.glo 25780651574442722100746797392 (.int (.ofNat 7))]),.set 5 (.call 70 .none #[.list E.nil,.attr (.methO 0 7827310 E.nil) 29793]),.ite (.methO 0 7237970109631062373 #[.lit (.str [101,120,116,101,110,100,115])]) #[.set 5 (.call 1430 (some (0,0)) #[.hole 0])] S.nil,.set 6 (.methO 0 1953653104 #[.glo 25786714798720408752978280784 (.int (.ofNat 9))]),.ret (.call 63 .none #[.glo 83733484213315229543128907 (.int (.ofNat 64)),.loc 2,.list #[.loc 4,.loc 5,.loc 6],.loc 1,.loc 3])]⟩
noncomputable def jj:Fn:=⟨[(1718379891,false),(112,false)],2,[],#[.ret (.call 1237 (some (0,1)) #[.hole 1,.lit (.int (.ofNat 0))])]⟩
noncomputable def mN:Fn:=⟨[(112,false)],1,[],#[.ite (.or (.cmp .ne (.attr (.methO 0 431130765409 #[.lit (.int (.ofNat 1))]) 1684957547) (.glo 76198110453588 (.int (.ofNat 1)))) (.attr (.methO 0 431130765409 #[.lit (.int (.ofNat 1))]) 122641912527128594339490156)) #[.ret (.lit (.bool false))] S.nil,.ret (.or (.call 927 .none #[.methO 0 431130765409 #[.lit (.int (.ofNat 2))],.glo 86068079845204 (.int (.ofNat 5)),.lit (.str [61])]) (.call 927 .none #[.methO 0 431130765409 #[.lit (.int (.ofNat 2))],.glo 86068079845204 (.int (.ofNat 5)),.lit (.str [60])]))]⟩
noncomputable def iT:Fn:=⟨[(112,false)],1,[],#[.ite (.or (.cmp .ne (.attr (.methO 0 431130765409 #[.lit (.int (.ofNat 1))]) 1684957547) (.glo 76198110453588 (.int (.ofNat 1)))) (.attr (.methO 0 431130765409 #[.lit (.int (.ofNat 1))]) 122641912527128594339490156)) #[.ret (.lit (.bool false))] S.nil,.ite (.call 927 .none #[.methO 0 431130765409 #[.lit (.int (.ofNat 2))],.glo 75120309133140 (.int (.ofNat 2)),.lit (.str [101,120,116,101,110,100,115])]) #[.ret (.lit (.bool true))] S.nil,.ret (.or (.call 927 .none #[.methO 0 431130765409 #[.lit (.int (.ofNat 2))],.glo 86068079845204 (.int (.ofNat 5)),.lit (.str [123])]) (.call 927 .none #[.methO 0 431130765409 #[.lit (.int (.ofNat 2))],.glo 86068079845204 (.int (.ofNat 5)),.lit (.str [60])]))]⟩
noncomputable def gW:Fn:=⟨[(1718379891,false),(112,false)],2,[],#[.ret (.call 1291 (some (0,1)) #[.hole 1])]⟩
noncomputable def ii:Fn:=⟨[(1718379891,false),(112,false)],2,[],#[.ret (.call 1258 (some (0,1)) #[.hole 1,.lit (.int (.ofNat 0))])]⟩
noncomputable def fj:Fn:=⟨[(1718379891,false),(112,false)],2,[],#[.ret (.call 1298 (some (0,1)) #[.hole 1])]⟩
noncomputable def fK:Fn:=⟨[(1718379891,false),(112,false)],2,[],#[.ret (.call 1265 (some (0,1)) #[.hole 1,.lit (.int (.ofNat 0))])]⟩
noncomputable def kC:Fn:=⟨[(112,false),(110425377629538,false)],1,[],#[.set 1 (.methO 0 431130765409 #[.lit (.int (.ofNat 1))]),.ite (.attr (.loc 1) 122641912527128594339490156) #[.ret (.lit (.bool false))] S.nil,.ite (.cmp .eq (.attr (.loc 1) 1684957547) (.glo 75120309133140 (.int (.ofNat 2)))) #[.ret (.cmp .in_ (.attr (.loc 1) 1954047348) (.glo 327250014055127840933188 (.tup [(.str [99,111,110,115,116]),(.str [118,97,114]),(.str [102,117,110,99,116,105,111,110]),(.str [99,108,97,115,115]),(.str [101,110,117,109])])))] S.nil,.ret (.and (.cmp .eq (.attr (.loc 1) 1684957547) (.glo 76198110453588 (.int (.ofNat 1)))) (.cmp .in_ (.attr (.loc 1) 1954047348) (.glo 6597385350049259782120029703489 (.tup [(.str [108,101,116]),(.str [116,121,112,101]),(.str [105,110,116,101,114,102,97,99,101]),(.str [97,98,115,116,114,97,99,116]),(.str [110,97,109,101,115,112,97,99,101]),(.str [109,111,100,117,108,101]),(.str [103,108,111,98,97,108])]))))]⟩
noncomputable def fZ:Fn:=⟨[(1718379891,false),(112,false)],2,[],#[.ret (.call 1357 (some (0,1)) #[.hole 1])]⟩
noncomputable def gq:Fn:=⟨[(1718379891,false),(112,false)],2,[],#[.expr (.methO 1 1885697139 E.nil),.ret (.call 1390 (some (0,1)) #[.hole 1])]⟩
noncomputable def kJ:Fn:=⟨[(112,false)],1,[],#[.ite (.methO 0 28273320740746089 #[.lit (.str [102,117,110,99,116,105,111,110])]) #[.ret .bad] S.nil,.ite (.methO 0 28273320740746089 #[.lit (.str [99,108,97,115,115])]) #[.ret .bad] S.nil,.ite (.and (.methO 0 28549237878780777 #[.lit (.str [97,98,115,116,114,97,99,116])]) (.call 927 .none #[.methO 0 431130765409 #[.lit (.int (.ofNat 1))],.glo 75120309133140 (.int (.ofNat 2)),.lit (.str [99,108,97,115,115])])) #[.ret .bad] S.nil,.ite (.and (.methO 0 28273320740746089 #[.lit (.str [99,111,110,115,116])]) (.call 927 .none #[.methO 0 431130765409 #[.lit (.int (.ofNat 1))],.glo 75120309133140 (.int (.ofNat 2)),.lit (.str [101,110,117,109])])) #[.expr (.methO 0 1885697139 E.nil),.ret (.call 1237 (some (0,0)) #[.hole 0,.bin .bor (.glo 1555166496849066549062 (.int (.ofNat 4194304))) (.glo 23735493846064966 (.int (.ofNat 8388608)))])] S.nil,.ite (.methO 0 28273320740746089 #[.lit (.str [101,110,117,109])]) #[.ret (.call 1237 (some (0,0)) #[.hole 0,.glo 1555166496849066549062 (.int (.ofNat 4194304))])] S.nil,.ite (.or (.methO 0 28273320740746089 #[.lit (.str [99,111,110,115,116])]) (.or (.methO 0 28273320740746089 #[.lit (.str [118,97,114])]) (.methO 0 28549237878780777 #[.lit (.str [108,101,116])]))) #[.ret (.call 1119 (some (0,0)) #[.hole 0,.glo 1555166496849066549062 (.int (.ofNat 4194304))])] S.nil,.ite (.and (.methO 0 28549237878780777 #[.lit (.str [116,121,112,101])]) (.call 1291 (some (0,0)) #[.hole 0])) #[.ret (.call 1258 (some (0,0)) #[.hole 0,.glo 1555166496849066549062 (.int (.ofNat 4194304))])] S.nil,.ite (.and (.methO 0 28549237878780777 #[.lit (.str [105,110,116,101,114,102,97,99,101])]) (.call 1298 (some (0,0)) #[.hole 0])) #[.ret (.call 1265 (some (0,0)) #[.hole 0,.glo 1555166496849066549062 (.int (.ofNat 4194304))])] S.nil,.expr .bad]⟩
noncomputable def il:Fn:=⟨[(1718379891,false),(112,false)],2,[],#[.ite (.call 927 .none #[.methO 1 431130765409 #[.lit (.int (.ofNat 1))],.glo 75120309133140 (.int (.ofNat 2)),.lit (.str [101,110,117,109])]) #[.expr (.methO 1 1885697139 E.nil),.ret (.call 1237 (some (0,1)) #[.hole 1,.glo 23735493846064966 (.int (.ofNat 8388608))])] S.nil,.ret (.call 1119 (some (0,1)) #[.hole 1,.lit (.int (.ofNat 0))])]⟩
noncomputable def pO:Fn:=⟨[(112,false),(29793,false),(1701667182,false),(1936159329,false)],1,[],#[.set 1 (.attr (.methO 0 7827310 E.nil) 29793),.set 2 (.call 1179 (some (0,0)) #[.hole 0]),.set 3 (.list E.nil),.ite (.methO 0 31075950043034473 #[.lit (.str [60])]) #[.set 3 (.call 1193 (some (0,0)) #[.hole 0])] S.nil,.ret (.call 56 .none #[.glo 77263547948875 (.int (.ofNat 81)),.loc 2,.loc 3,.loc 1])]⟩
noncomputable def oK:Fn:=⟨[(112,false),(29793,false),(1937207154,false)],1,[],#[.set 1 (.attr (.methO 0 7827310 E.nil) 29793),.setList 2 #[.call 1423 (some (0,0)) #[.hole 0]],.whil (.methO 0 7955443211016888677 #[.lit (.str [44])]) #[.app 2 (.call 1423 (some (0,0)) #[.hole 0])],.ret (.call 70 .none #[.loc 2,.loc 1])]⟩
noncomputable def jN:Fn:=⟨[(1718379891,false),(112,false),(29793,false)],2,[],#[.set 2 (.attr (.methO 1 7827310 E.nil) 29793),.ret (.call 49 .none #[.glo 76198110453579 (.int (.ofNat 8)),.methO 1 1871002853623525107054 E.nil,.loc 2])]⟩
noncomputable def hE:Fn:=⟨[(1718379891,false),(112,false)],2,[],#[.ret (.call 1482 (some (0,1)) #[.hole 1])]⟩
noncomputable def mf:Fn:=⟨[(112,false),(29793,false),(1937207154,false)],1,[],#[.set 1 (.attr (.methO 0 7827310 E.nil) 29793),.ite (.not (.methO 0 7955443211016888677 #[.lit (.str [60])])) #[.ret (.lit .none)] S.nil,.setList 2 #[.call 1489 (some (0,0)) #[.hole 0]],.whil (.and (.methO 0 7955443211016888677 #[.lit (.str [44])]) (.and (.not (.methO 0 31075950043034473 #[.lit (.str [62])])) (.not (.methO 0 31075950043034473 #[.lit (.str [62,61])])))) #[.app 2 (.call 1489 (some (0,0)) #[.hole 0])],.expr (.call 976 (some (0,0)) #[.hole 0]),.ret (.call 70 .none #[.loc 2,.loc 1])]⟩
noncomputable def dG:Fn:=⟨[(112,false),(495655677030,false),(29793,false),(1701667182,false),(431349919586,false),(474148661607,false)],1,[],#[.ite (.methO 0 28273320740746089 #[.lit (.str [99,111,110,115,116])]) #[.expr .bad] S.nil,.set 1 (.lit (.int (.ofNat 0))),.ite (.methO 0 7237970109631062373 #[.lit (.str [105,110])]) #[.set 1 (.glo 1313431366 (.int (.ofNat 268435456)))] S.nil,.ite (.and (.methO 0 28549237878780777 #[.lit (.str [111,117,116])]) (.cmp .eq (.attr (.methO 0 431130765409 #[.lit (.int (.ofNat 1))]) 1684957547) (.glo 76198110453588 (.int (.ofNat 1))))) #[.expr (.methO 0 1885697139 E.nil),.aug 1 .add (.glo 362208517958 (.int (.ofNat 536870912)))] S.nil,.set 2 (.attr (.methO 0 7827310 E.nil) 29793),.set 3 (.call 1186 (some (0,0)) #[.hole 0]),.set 4 (.lit .none),.set 5 (.lit .none),.ite (.methO 0 7237970109631062373 #[.lit (.str [101,120,116,101,110,100,115])]) #[.set 4 (.call 1172 (some (0,0)) #[.hole 0,.lit (.bool false)])] S.nil,.ite (.methO 0 7955443211016888677 #[.lit (.str [61])]) #[.set 5 (.call 1172 (some (0,0)) #[.hole 0,.lit (.bool false)])] S.nil,.ret (.call 63 .none #[.glo 5566821054880702283 (.int (.ofNat 100)),.loc 3,.list #[.loc 4,.loc 5],.loc 1,.loc 2])]⟩
noncomputable def jM:Fn:=⟨[(1718379891,false),(29296,false),(1701080942,false)],3,[],#[.ret (.attr (.loc 2) 97)]⟩
noncomputable def rx:Fn:=⟨[(112,false)],1,[],#[.ite (.methO 0 28273320740746089 #[.lit (.str [105,109,112,111,114,116])]) #[.ret (.call 1524 (some (0,0)) #[.hole 0])] S.nil,.ite (.methO 0 28273320740746089 #[.lit (.str [101,120,112,111,114,116])]) #[.ret (.call 1559 (some (0,0)) #[.hole 0])] S.nil,.ret (.methO 0 1953653104 #[.glo 1555098672499468157264 (.int (.ofNat 3))])]⟩
noncomputable def hV:Fn:=⟨[(112,false),(29793,false),(495622906222,false),(2037149295,false),(495655677030,false),(1701603686,false)],1,[],#[.set 1 (.attr (.methO 0 1885697139 E.nil) 29793),.set 2 (.list E.nil),.set 3 (.lit (.int (.ofNat 0))),.ite (.cmp .ne (.attr (.methO 0 7827310 E.nil) 1684957547) (.glo 353602068308 (.int (.ofNat 4)))) #[.set 4 (.lit (.int (.ofNat 0))),.ite (.and (.methO 0 28549237878780777 #[.lit (.str [116,121,112,101])]) (.call 927 .none #[.methO 0 431130765409 #[.lit (.int (.ofNat 1))],.glo 86068079845204 (.int (.ofNat 5)),.lit (.str [123])])) #[.expr (.methO 0 1885697139 E.nil),.set 4 (.glo 421698212330069866864454 (.int (.ofNat 134217728)))] S.nil,.set 2 (.call 1531 (some (0,0)) #[.hole 0,.loc 4]),.ite (.not (.loc 2)) #[.set 3 (.glo 421698212330069866864454 (.int (.ofNat 134217728)))] S.nil,.ite (.not (.methO 0 7308604896967942501 #[.lit (.str [102,114,111,109])])) #[.expr .bad] S.nil] S.nil,.ite (.cmp .ne (.attr (.methO 0 7827310 E.nil) 1684957547) (.glo 353602068308 (.int (.ofNat 4)))) #[.expr .bad] S.nil,.set 5 (.attr (.methO 0 1885697139 E.nil) 1954047348),.expr (.methO 0 9224632820852246092213473537637 E.nil),.ret (.call 63 .none #[.glo 6076006053588852555 (.int (.ofNat 68)),.loc 5,.loc 2,.loc 3,.loc 1])]⟩
noncomputable def gU:Fn:=⟨[(112,false),(495655677030,false),(495622906222,false)],2,[],#[.ite (.not (.methO 0 31075950043034473 #[.lit (.str [123])])) #[.ite (.or (.cmp .eq (.attr (.methO 0 7827310 E.nil) 1684957547) (.glo 76198110453588 (.int (.ofNat 1)))) (.cmp .in_ (.attr (.methO 0 7827310 E.nil) 1954047348) (.tup #[.lit (.str [42]),.lit (.str [40]),.lit (.str [46])]))) #[.expr .bad] S.nil,.expr .bad] S.nil,.expr (.methO 0 1885697139 E.nil),.setList 2 E.nil,.whil (.not (.methO 0 31075950043034473 #[.lit (.str [125])])) #[.app 2 (.call 1538 (some (0,0)) #[.hole 0,.loc 1]),.ite (.not (.methO 0 7955443211016888677 #[.lit (.str [44])])) #[.brk] S.nil],.expr (.methO 0 2036593462020055328110 #[.lit (.str [125])]),.ret (.loc 2)]⟩
noncomputable def et:Fn:=⟨[(112,false),(495655677030,false),(29793,false),(491328402799,false),(491328007785,false)],2,[],#[.set 2 (.attr (.methO 0 7827310 E.nil) 29793),.ite (.and (.methO 0 28549237878780777 #[.lit (.str [116,121,112,101])]) (.call 1545 (some (0,0)) #[.hole 0])) #[.ite (.loc 1) #[.expr .bad] S.nil,.expr (.methO 0 1885697139 E.nil),.set 2 (.attr (.methO 0 7827310 E.nil) 29793),.set 1 (.glo 421698212330069866864454 (.int (.ofNat 134217728)))] S.nil,.ite (.methO 0 28273320740746089 #[.lit (.str [100,101,102,97,117,108,116])]) #[.expr .bad] S.nil,.set 3 (.methO 0 1871002853623525107054 E.nil),.set 4 (.loc 3),.ite (.methO 0 7308604896967942501 #[.lit (.str [97,115])]) #[.set 4 (.methO 0 1871002853623525107054 E.nil)] S.nil,.ret (.call 63 .none #[.glo 1278392157807166709579 (.int (.ofNat 69)),.tup #[.loc 3,.loc 4],.list E.nil,.loc 1,.loc 2])]⟩
noncomputable def nR:Fn:=⟨[(112,false)],1,[],#[.ite (.cmp .ne (.attr (.methO 0 431130765409 #[.lit (.int (.ofNat 1))]) 1684957547) (.glo 76198110453588 (.int (.ofNat 1)))) #[.ret (.lit (.bool false))] S.nil,.ite (.or (.cmp .ne (.attr (.methO 0 431130765409 #[.lit (.int (.ofNat 1))]) 1954047348) (.lit (.str [97,115]))) (.cmp .ne (.attr (.methO 0 431130765409 #[.lit (.int (.ofNat 2))]) 1684957547) (.glo 76198110453588 (.int (.ofNat 1))))) #[.ret (.lit (.bool true))] S.nil,.ret (.and (.cmp .eq (.attr (.methO 0 431130765409 #[.lit (.int (.ofNat 2))]) 1954047348) (.lit (.str [97,115]))) (.cmp .eq (.attr (.methO 0 431130765409 #[.lit (.int (.ofNat 3))]) 1684957547) (.glo 76198110453588 (.int (.ofNat 1)))))]⟩
noncomputable def mF:Fn:=⟨[(112,false),(474147942260,false)],1,[],#[.set 1 (.methO 0 7827310 E.nil),.ite (.cmp .eq (.attr (.loc 1) 1684957547) (.glo 75120309133140 (.int (.ofNat 2)))) #[.ret (.cmp .in_ (.attr (.loc 1) 1954047348) (.glo 327250014055127840933188 (.tup [(.str [99,111,110,115,116]),(.str [118,97,114]),(.str [102,117,110,99,116,105,111,110]),(.str [99,108,97,115,115]),(.str [101,110,117,109])])))] S.nil,.ite (.or (.cmp .ne (.attr (.loc 1) 1684957547) (.glo 76198110453588 (.int (.ofNat 1)))) (.cmp .nin (.attr (.loc 1) 1954047348) (.glo 293220467022 (.tup [(.str [108,101,116]),(.str [116,121,112,101]),(.str [105,110,116,101,114,102,97,99,101]),(.str [97,98,115,116,114,97,99,116]),(.str [100,101,99,108,97,114,101])])))) #[.ret (.lit (.bool false))] S.nil,.ite (.cmp .eq (.attr (.loc 1) 1954047348) (.lit (.str [108,101,116]))) #[.ret (.lit (.bool true))] S.nil,.ret (.and (.cmp .in_ (.attr (.methO 0 431130765409 #[.lit (.int (.ofNat 1))]) 1684957547) (.tup #[.glo 76198110453588 (.int (.ofNat 1)),.glo 75120309133140 (.int (.ofNat 2))])) (.not (.attr (.methO 0 431130765409 #[.lit (.int (.ofNat 1))]) 122641912527128594339490156)))]⟩
noncomputable def mP:Fn:=⟨[(112,false),(29793,false),(1701080942,false)],1,[],#[.set 1 (.attr (.methO 0 1885697139 E.nil) 29793),.ite (.not (.call 1552 (some (0,0)) #[.hole 0])) #[.ite (.and (.cmp .in_ (.attr (.methO 0 7827310 E.nil) 1954047348) (.glo 100739040160754297990305103 (.tup [(.str [123]),(.str [42]),(.str [61]),(.str [64]),(.str [100,101,102,97,117,108,116]),(.str [97,115,121,110,99]),(.str [110,97,109,101,115,112,97,99,101]),(.str [109,111,100,117,108,101]),(.str [103,108,111,98,97,108]),(.str [116,121,112,101]),(.str [97,115]),(.str [105,109,112,111,114,116])]))) (.cmp .ne (.attr (.methO 0 7827310 E.nil) 1684957547) (.glo 353602068308 (.int (.ofNat 4))))) #[.expr .bad] S.nil,.expr .bad] S.nil,.set 2 (.methO 0 1953653104 #[.glo 1555098672499468157264 (.int (.ofNat 3))]),.ite (.and (.cmp .ne (.attr (.loc 2) 1684957547) (.glo 353283497803 (.int (.ofNat 41)))) (.not (.call 1070 .none #[.loc 2]))) #[.expr .bad] S.nil,.ret (.call 56 .none #[.glo 6076006053773139787 (.int (.ofNat 70)),.lit (.str []),.list #[.loc 2],.loc 1])]⟩
noncomputable def r6:Fn:=⟨[(126943821785444,false),(1953722221,false)],2,[],#[.ret (.ite (.cmp .gt (.lenO 0) (.lit (.int (.ofNat 0)))) (.bin .mod (.popO 0) (.loc 1)) (.lit (.int (.ofNat 0))))]⟩
noncomputable def rl:Fn:=⟨[(126943821785444,false)],1,[],#[.ret (.call 49 .none #[.glo 76198110453579 (.int (.ofNat 8)),.idx (.glo 544943148383633043188831 (.tup [(.str [102]),(.str [111,102]),(.str [116,121,112,101]),(.str [100,101,99,108,97,114,101]),(.str [97,115]),(.str [102,114,111,109]),(.str [36,95])])) (.call 1575 (some (0,0)) #[.hole 0,.lit (.int (.ofNat 7))]),.lit (.int (.ofNat 0))])]⟩
noncomputable def pi:Fn:=⟨[(126943821785444,false)],1,[],#[.ret (.ite (.cmp .eq (.call 1575 (some (0,0)) #[.hole 0,.lit (.int (.ofNat 2))]) (.lit (.int (.ofNat 1)))) (.call 1582 (some (0,0)) #[.hole 0]) (.lit .none))]⟩
noncomputable def fH:Fn:=⟨[(126943821785444,false),(495622906222,false),(105,false),(491328402799,false),(478976730527682557537897,false),(2037149295,false)],1,[],#[.setList 1 E.nil,.forR 2 (.call 1575 (some (0,0)) #[.hole 0,.lit (.int (.ofNat 4))]) #[.set 3 (.idx (.tup #[.lit (.str [116,121,112,101]),.lit (.str [97,115]),.lit (.str [97]),.lit (.str [102,114,111,109])]) (.call 1575 (some (0,0)) #[.hole 0,.lit (.int (.ofNat 4))])),.set 4 (.idx (.tup #[.lit (.str [97,115]),.lit (.str [116,121,112,101]),.lit (.str [98]),.loc 3,.loc 3]) (.call 1575 (some (0,0)) #[.hole 0,.lit (.int (.ofNat 5))])),.app 1 (.call 63 .none #[.glo 1278392157807166709579 (.int (.ofNat 69)),.tup #[.loc 3,.loc 4],.list E.nil,.bin .mul (.glo 421698212330069866864454 (.int (.ofNat 134217728))) (.bin .fdiv (.call 1575 (some (0,0)) #[.hole 0,.lit (.int (.ofNat 3))]) (.lit (.int (.ofNat 2)))),.lit (.int (.ofNat 0))])],.set 5 (.ite (.cmp .eq (.lenO 1) (.lit (.int (.ofNat 0)))) (.bin .mul (.glo 421698212330069866864454 (.int (.ofNat 134217728))) (.call 1575 (some (0,0)) #[.hole 0,.lit (.int (.ofNat 2))])) (.lit (.int (.ofNat 0)))),.ret (.call 63 .none #[.glo 6076006053588852555 (.int (.ofNat 68)),.idx (.idx (.glo 2130123084385604430943 (.tup [(.tup [(.str [97]),(.str [97])]),(.tup [(.str [105,110]),(.str [105,110])]),(.tup [(.str [97,45,98]),(.str [34,97,45,98,34])]),(.tup [(.str []),(.str [34,34])]),(.tup [(.str [113,34,92,10,2]),(.str [34,113,92,34,92,92,92,110,92,120,48,50,34])]),(.tup [(.str [110,101,119]),(.str [110,101,119])])])) (.call 1575 (some (0,0)) #[.hole 0,.lit (.int (.ofNat 6))])) (.lit (.int (.ofNat 0))),.loc 1,.loc 5,.lit (.int (.ofNat 0))])]⟩
noncomputable def hU:Fn:=⟨[(126943821785444,false),(1937207154,false),(105,false),(495655677030,false)],1,[],#[.setList 1 E.nil,.forR 2 (.call 1575 (some (0,0)) #[.hole 0,.lit (.int (.ofNat 3))]) #[.set 3 (.idx (.tup #[.lit (.int (.ofNat 0)),.glo 1313431366 (.int (.ofNat 268435456)),.glo 362208517958 (.int (.ofNat 536870912)),.bin .add (.glo 1313431366 (.int (.ofNat 268435456))) (.glo 362208517958 (.int (.ofNat 536870912)))]) (.call 1575 (some (0,0)) #[.hole 0,.lit (.int (.ofNat 4))])),.app 1 (.call 63 .none #[.glo 5566821054880702283 (.int (.ofNat 100)),.idx (.tup #[.lit (.str [84]),.lit (.str [111,117,116]),.lit (.str [85])]) (.call 1575 (some (0,0)) #[.hole 0,.lit (.int (.ofNat 3))]),.list #[.call 1589 (some (0,0)) #[.hole 0],.call 1589 (some (0,0)) #[.hole 0]],.loc 3,.lit (.int (.ofNat 0))])],.ret (.ite (.cmp .gt (.lenO 1) (.lit (.int (.ofNat 0)))) (.call 70 .none #[.loc 1,.lit (.int (.ofNat 0))]) (.lit .none))]⟩
noncomputable def km:Fn:=⟨[(126943821785444,true),(1937207154,false),(105,false),(1936159329,false)],1,[],#[.setList 1 E.nil,.forR 2 (.call 1575 (some (0,0)) #[.hole 0,.lit (.int (.ofNat 3))]) #[.setC 3 106 (some 0) true (.call 1582 (some (0,1)) #[.hole 1]) (.call 1575 (some (0,0)) #[.hole 0,.lit (.int (.ofNat 3))]),.app 1 (.call 56 .none #[.glo 77263547948875 (.int (.ofNat 81)),.idx (.tup #[.lit (.str [65]),.lit (.str [69,46,105,110]),.lit (.str [111,102]),.lit (.str [116,121,112,101,46,97,115])]) (.call 1575 (some (0,0)) #[.hole 0,.lit (.int (.ofNat 4))]),.loc 3,.lit (.int (.ofNat 0))])],.ret (.call 70 .none #[.loc 1,.lit (.int (.ofNat 0))])]⟩
noncomputable def nt:Fn:=⟨[(126943821785444,false),(32772479137246561,false),(1685221239,false),(495739692388,false),(105,false),(1701667182,false),(7954807,false),(1684957547,false),(435761734006,false)],2,[],#[.set 2 (.idx (.tup #[.lit (.str [108,101,116]),.lit (.str [99,111,110,115,116]),.lit (.str [118,97,114])]) (.call 1575 (some (0,0)) #[.hole 0,.lit (.int (.ofNat 3))])),.setList 3 E.nil,.forR 4 (.bin .add (.lit (.int (.ofNat 1))) (.call 1575 (some (0,0)) #[.hole 0,.lit (.int (.ofNat 2))])) #[.set 5 (.call 1582 (some (0,0)) #[.hole 0]),.set 6 (.call 1575 (some (0,0)) #[.hole 0,.lit (.int (.ofNat 5))]),.ite (.cmp .gt (.loc 1) (.lit (.int (.ofNat 0)))) #[.set 6 (.ite (.cmp .eq (.loc 2) (.lit (.str [99,111,110,115,116]))) (.idx (.tup #[.lit (.int (.ofNat 0)),.lit (.int (.ofNat 2)),.lit (.int (.ofNat 1)),.lit (.int (.ofNat 2)),.lit (.int (.ofNat 0))]) (.loc 6)) (.idx (.tup #[.lit (.int (.ofNat 0)),.lit (.int (.ofNat 2))]) (.bin .mod (.loc 6) (.lit (.int (.ofNat 2))))))] #[.ite (.cmp .eq (.loc 2) (.lit (.str [99,111,110,115,116]))) #[.set 6 (.bin .add (.lit (.int (.ofNat 1))) (.bin .mul (.lit (.int (.ofNat 2))) (.bin .mod (.loc 6) (.lit (.int (.ofNat 2))))))] S.nil],.set 7 (.ite (.cmp .gt (.loc 6) (.lit (.int (.ofNat 1)))) (.call 1582 (some (0,0)) #[.hole 0]) (.lit .none)),.set 8 (.ite (.or (.cmp .eq (.loc 6) (.lit (.int (.ofNat 1)))) (.cmp .eq (.loc 6) (.lit (.int (.ofNat 3))))) (.call 1582 (some (0,0)) #[.hole 0]) (.lit .none)),.app 3 (.call 63 .none #[.glo 83851808628555 (.int (.ofNat 42)),.lit (.str []),.list #[.loc 5,.loc 7,.loc 8],.ite (.cmp .eq (.loc 6) (.lit (.int (.ofNat 4)))) (.glo 78401427889990 (.int (.ofNat 2097152))) (.lit (.int (.ofNat 0))),.lit (.int (.ofNat 0))])],.ret (.call 63 .none #[.glo 353283497803 (.int (.ofNat 41)),.loc 2,.loc 3,.loc 1,.lit (.int (.ofNat 0))])]⟩
noncomputable def cW:Fn:=⟨[(126943821785444,false),(1801677168,false),(2148141139900423763311,false),(32772479137246561,false),(1937207154,false),(105,false),(1701080942,false),(1935960427,false)],1,[],#[.set 1 (.call 1575 (some (0,0)) #[.hole 0,.lit (.int (.ofNat 7))]),.ite (.cmp .lt (.loc 1) (.lit (.int (.ofNat 2)))) #[.ret (.call 1596 (some (0,0)) #[.hole 0])] S.nil,.set 2 (.call 1575 (some (0,0)) #[.hole 0,.lit (.int (.ofNat 2))]),.set 3 (.bin .mul (.glo 1555166496849066549062 (.int (.ofNat 4194304))) (.bin .fdiv (.call 1575 (some (0,0)) #[.hole 0,.lit (.int (.ofNat 3))]) (.lit (.int (.ofNat 2))))),.ite (.or (.cmp .eq (.loc 1) (.lit (.int (.ofNat 2)))) (.cmp .eq (.loc 1) (.lit (.int (.ofNat 3))))) #[.setList 4 E.nil,.forR 5 (.call 1575 (some (0,0)) #[.hole 0,.lit (.int (.ofNat 4))]) #[.app 4 (.call 56 .none #[.glo 1425393026266239950667 (.int (.ofNat 67)),.idx (.idx (.glo 2130123084385604430943 (.tup [(.tup [(.str [97]),(.str [97])]),(.tup [(.str [105,110]),(.str [105,110])]),(.tup [(.str [97,45,98]),(.str [34,97,45,98,34])]),(.tup [(.str []),(.str [34,34])]),(.tup [(.str [113,34,92,10,2]),(.str [34,113,92,34,92,92,92,110,92,120,48,50,34])]),(.tup [(.str [110,101,119]),(.str [110,101,119])])])) (.call 1575 (some (0,0)) #[.hole 0,.lit (.int (.ofNat 6))])) (.lit (.int (.ofNat 0))),.list #[.call 1589 (some (0,0)) #[.hole 0]],.lit (.int (.ofNat 0))])],.set 6 (.call 63 .none #[.glo 85028780728139 (.int (.ofNat 66)),.idx (.glo 544943148383633043188831 (.tup [(.str [102]),(.str [111,102]),(.str [116,121,112,101]),(.str [100,101,99,108,97,114,101]),(.str [97,115]),(.str [102,114,111,109]),(.str [36,95])])) (.call 1575 (some (0,0)) #[.hole 0,.lit (.int (.ofNat 7))]),.loc 4,.bin .add (.loc 3) (.bin .mul (.glo 23735493846064966 (.int (.ofNat 8388608))) (.call 1575 (some (0,0)) #[.hole 0,.lit (.int (.ofNat 2))])),.lit (.int (.ofNat 0))])] #[.ite (.cmp .eq (.loc 1) (.lit (.int (.ofNat 4)))) #[.set 6 (.call 63 .none #[.glo 23434206134755147 (.int (.ofNat 65)),.idx (.glo 544943148383633043188831 (.tup [(.str [102]),(.str [111,102]),(.str [116,121,112,101]),(.str [100,101,99,108,97,114,101]),(.str [97,115]),(.str [102,114,111,109]),(.str [36,95])])) (.call 1575 (some (0,0)) #[.hole 0,.lit (.int (.ofNat 7))]),.list #[.call 1603 (some (0,0)) #[.hole 0],.call 1582 (some (0,0)) #[.hole 0]],.loc 3,.lit (.int (.ofNat 0))])] #[.ite (.cmp .eq (.loc 1) (.lit (.int (.ofNat 5)))) #[.set 7 (.list #[.call 1603 (some (0,0)) #[.hole 0],.call 1608 (some (0,0)) #[.hole 0],.call 56 .none #[.glo 21184631114194763 (.int (.ofNat 59)),.lit (.str []),.list E.nil,.lit (.int (.ofNat 0))]]),.set 6 (.call 63 .none #[.glo 83733484213315229543128907 (.int (.ofNat 64)),.idx (.glo 544943148383633043188831 (.tup [(.str [102]),(.str [111,102]),(.str [116,121,112,101]),(.str [100,101,99,108,97,114,101]),(.str [97,115]),(.str [102,114,111,109]),(.str [36,95])])) (.call 1575 (some (0,0)) #[.hole 0,.lit (.int (.ofNat 7))]),.loc 7,.loc 3,.lit (.int (.ofNat 0))])] #[.set 6 (.call 1615 (some (0,0)) #[.hole 0,.loc 3])]]],.ret (.ite (.cmp .eq (.loc 2) (.lit (.int (.ofNat 1)))) (.call 56 .none #[.glo 6076006053773139787 (.int (.ofNat 70)),.lit (.str []),.list #[.loc 6],.lit (.int (.ofNat 0))]) (.loc 6))]⟩
noncomputable def qS:Fn:=⟨[(1954047348,false),(7955819,false),(31073798281851511,false)],1,[],#[.forIn [1,2] (.glo 2130123084385604430943 (.tup [(.tup [(.str [97]),(.str [97])]),(.tup [(.str [105,110]),(.str [105,110])]),(.tup [(.str [97,45,98]),(.str [34,97,45,98,34])]),(.tup [(.str []),(.str [34,34])]),(.tup [(.str [113,34,92,10,2]),(.str [34,113,92,34,92,92,92,110,92,120,48,50,34])]),(.tup [(.str [110,101,119]),(.str [110,101,119])])])) #[.ite (.cmp .eq (.loc 1) (.loc 0)) #[.ret (.ite (.cmp .eq (.slc (.loc 2) (.lit .none) (.lit (.int (.ofNat 1)))) (.lit (.str [34]))) (.loc 2) (.bin .add (.bin .add (.lit (.str [34])) (.loc 2)) (.lit (.str [34]))))] S.nil],.ret (.lit (.str []))]⟩
noncomputable def nY:Fn:=⟨[(1937207154,false),(8392569456096013935,true)],2,[],#[.ret (.join (.lit (.str [44,32])) (.comp 6647407 (some 1) false (.callV 1 #[.loc 0]) (.loc 0)))]⟩
noncomputable def hO:Fn:=⟨[(1701080942,false),(1954047348,false)],1,[],#[.set 1 (.ite (.cmp .eq (.attr (.loc 0) 495655677030) (.glo 421698212330069866864454 (.int (.ofNat 134217728)))) (.lit (.str [116,121,112,101,32])) (.lit (.str []))),.ret (.bin .add (.bin .add (.loc 1) (.idx (.attr (.loc 0) 97) (.lit (.int (.ofNat 0))))) (.ite (.cmp .eq (.idx (.attr (.loc 0) 97) (.lit (.int (.ofNat 0)))) (.idx (.attr (.loc 0) 97) (.lit (.int (.ofNat 1))))) (.lit (.str [])) (.bin .add (.lit (.str [32,97,115,32])) (.idx (.attr (.loc 0) 97) (.lit (.int (.ofNat 1)))))))]⟩
noncomputable def fI:Fn:=⟨[(1701080942,false),(1954047348,false)],1,[],#[.set 1 (.bin .add (.idx (.dict #[.lit (.int (.ofNat 0)),.lit (.str []),.glo 1313431366 (.int (.ofNat 268435456)),.lit (.str [105,110,32]),.glo 362208517958 (.int (.ofNat 536870912)),.lit (.str [111,117,116,32]),.bin .add (.glo 1313431366 (.int (.ofNat 268435456))) (.glo 362208517958 (.int (.ofNat 536870912))),.lit (.str [105,110,32,111,117,116,32])]) (.attr (.loc 0) 495655677030)) (.attr (.loc 0) 97)),.aug 1 .add (.ite (.cmp .is_ (.idx (.attr (.loc 0) 1935960427) (.lit (.int (.ofNat 0)))) (.lit .none)) (.lit (.str [])) (.bin .add (.lit (.str [32,101,120,116,101,110,100,115,32])) (.attr (.idx (.attr (.loc 0) 1935960427) (.lit (.int (.ofNat 0)))) 97))),.ret (.ite (.cmp .is_ (.idx (.attr (.loc 0) 1935960427) (.lit (.int (.ofNat 1)))) (.lit .none)) (.loc 1) (.bin .add (.bin .add (.loc 1) (.lit (.str [32,61,32]))) (.attr (.idx (.attr (.loc 0) 1935960427) (.lit (.int (.ofNat 1)))) 97)))]⟩
noncomputable def rc:Fn:=⟨[(1701080942,false)],1,[],#[.ret (.ite (.cmp .eq (.pf .len (.attr (.loc 0) 1935960427)) (.lit (.int (.ofNat 0)))) (.attr (.loc 0) 97) (.bin .add (.bin .add (.bin .add (.attr (.loc 0) 97) (.lit (.str [60]))) (.call 1634 .none #[.attr (.loc 0) 1935960427,.glo 1852920348065602301023 (.raw 1662)])) (.lit (.str [62]))))]⟩
noncomputable def rd:Fn:=⟨[(1701080942,false)],1,[],#[.ret (.attr (.loc 0) 97)]⟩
noncomputable def ic:Fn:=⟨[(1701080942,false),(1954047348,false)],1,[],#[.set 1 (.bin .add (.attr (.idx (.attr (.loc 0) 1935960427) (.lit (.int (.ofNat 0)))) 97) (.ite (.cmp .eq (.attr (.loc 0) 495655677030) (.glo 78401427889990 (.int (.ofNat 2097152)))) (.lit (.str [33])) (.lit (.str [])))),.aug 1 .add (.ite (.cmp .is_ (.idx (.attr (.loc 0) 1935960427) (.lit (.int (.ofNat 1)))) (.lit .none)) (.lit (.str [])) (.bin .add (.lit (.str [58,32])) (.attr (.idx (.attr (.loc 0) 1935960427) (.lit (.int (.ofNat 1)))) 97))),.ret (.ite (.cmp .is_ (.idx (.attr (.loc 0) 1935960427) (.lit (.int (.ofNat 2)))) (.lit .none)) (.loc 1) (.bin .add (.bin .add (.loc 1) (.lit (.str [32,61,32]))) (.attr (.idx (.attr (.loc 0) 1935960427) (.lit (.int (.ofNat 2)))) 97)))]⟩
noncomputable def dD:Fn:=⟨[(1701080942,false),(1935960427,false),(1954047348,false),(6647407,false),(7955819,false),(31073798281851511,false)],1,[],#[.set 1 (.attr (.loc 0) 1935960427),.ite (.cmp .eq (.attr (.loc 0) 1684957547) (.glo 6076006053773139787 (.int (.ofNat 70)))) #[.ret (.bin .add (.lit (.str [101,120,112,111,114,116,32])) (.call 1676 .none #[.idx (.loc 1) (.lit (.int (.ofNat 0)))]))] S.nil,.ite (.cmp .eq (.attr (.loc 0) 1684957547) (.glo 6076006053588852555 (.int (.ofNat 68)))) #[.ite (.cmp .gt (.pf .len (.loc 1)) (.lit (.int (.ofNat 0)))) #[.ret (.bin .add (.bin .add (.bin .add (.bin .add (.lit (.str [105,109,112,111,114,116,32,123,32])) (.call 1634 .none #[.loc 1,.glo 31390219013085780148337339487 (.raw 1641)])) (.lit (.str [32,125,32,102,114,111,109,32]))) (.call 1629 .none #[.attr (.loc 0) 97])) (.lit (.str [59])))] S.nil,.ret (.bin .add (.bin .add (.bin .add (.lit (.str [105,109,112,111,114,116,32])) (.ite (.cmp .eq (.attr (.loc 0) 495655677030) (.glo 421698212330069866864454 (.int (.ofNat 134217728)))) (.lit (.str [123,125,32,102,114,111,109,32])) (.lit (.str [])))) (.call 1629 .none #[.attr (.loc 0) 97])) (.lit (.str [59])))] S.nil,.set 2 (.ite (.cmp .eq (.bin .mod (.bin .fdiv (.attr (.loc 0) 495655677030) (.glo 1555166496849066549062 (.int (.ofNat 4194304)))) (.lit (.int (.ofNat 2)))) (.lit (.int (.ofNat 1)))) (.lit (.str [100,101,99,108,97,114,101,32])) (.lit (.str []))),.ite (.cmp .eq (.attr (.loc 0) 1684957547) (.glo 353283497803 (.int (.ofNat 41)))) #[.ret (.bin .add (.bin .add (.bin .add (.bin .add (.loc 2) (.attr (.loc 0) 97)) (.lit (.str [32]))) (.call 1634 .none #[.loc 1,.glo 1999410601104221760607 (.raw 1669)])) (.lit (.str [59])))] S.nil,.ite (.cmp .eq (.attr (.loc 0) 1684957547) (.glo 85028780728139 (.int (.ofNat 66)))) #[.aug 2 .add (.bin .add (.bin .add (.ite (.cmp .eq (.bin .mod (.bin .fdiv (.attr (.loc 0) 495655677030) (.glo 23735493846064966 (.int (.ofNat 8388608)))) (.lit (.int (.ofNat 2)))) (.lit (.int (.ofNat 1)))) (.lit (.str [99,111,110,115,116,32,101,110,117,109,32])) (.lit (.str [101,110,117,109,32]))) (.attr (.loc 0) 97)) (.lit (.str [32,123]))),.forIn [3] (.loc 1) #[.forIn [4,5] (.glo 2130123084385604430943 (.tup [(.tup [(.str [97]),(.str [97])]),(.tup [(.str [105,110]),(.str [105,110])]),(.tup [(.str [97,45,98]),(.str [34,97,45,98,34])]),(.tup [(.str []),(.str [34,34])]),(.tup [(.str [113,34,92,10,2]),(.str [34,113,92,34,92,92,92,110,92,120,48,50,34])]),(.tup [(.str [110,101,119]),(.str [110,101,119])])])) #[.ite (.cmp .eq (.loc 4) (.attr (.loc 3) 97)) #[.aug 2 .add (.bin .add (.lit (.str [10,32,32])) (.loc 5))] S.nil],.aug 2 .add (.bin .add (.ite (.cmp .is_ (.idx (.attr (.loc 3) 1935960427) (.lit (.int (.ofNat 0)))) (.lit .none)) (.lit (.str [])) (.bin .add (.lit (.str [32,61,32])) (.attr (.idx (.attr (.loc 3) 1935960427) (.lit (.int (.ofNat 0)))) 97))) (.lit (.str [44])))],.ret (.bin .add (.loc 2) (.ite (.cmp .eq (.pf .len (.loc 1)) (.lit (.int (.ofNat 0)))) (.lit (.str [125])) (.lit (.str [10,125]))))] S.nil,.aug 2 .add (.bin .add (.ite (.cmp .eq (.attr (.loc 0) 1684957547) (.glo 23434206134755147 (.int (.ofNat 65)))) (.lit (.str [116,121,112,101,32])) (.lit (.str [105,110,116,101,114,102,97,99,101,32]))) (.attr (.loc 0) 97)),.aug 2 .add (.ite (.cmp .is_ (.idx (.loc 1) (.lit (.int (.ofNat 0)))) (.lit .none)) (.lit (.str [])) (.bin .add (.bin .add (.lit (.str [60])) (.call 1634 .none #[.attr (.idx (.loc 1) (.lit (.int (.ofNat 0)))) 1935960427,.glo 132233093836897110961777759 (.raw 1648)])) (.lit (.str [62])))),.ite (.cmp .eq (.attr (.loc 0) 1684957547) (.glo 23434206134755147 (.int (.ofNat 65)))) #[.ret (.bin .add (.bin .add (.bin .add (.loc 2) (.lit (.str [32,61,32]))) (.attr (.idx (.loc 1) (.lit (.int (.ofNat 1)))) 97)) (.lit (.str [59])))] S.nil,.ret (.bin .add (.bin .add (.loc 2) (.ite (.cmp .eq (.pf .len (.attr (.idx (.loc 1) (.lit (.int (.ofNat 1)))) 1935960427)) (.lit (.int (.ofNat 0)))) (.lit (.str [])) (.bin .add (.lit (.str [32,101,120,116,101,110,100,115,32])) (.call 1634 .none #[.attr (.idx (.loc 1) (.lit (.int (.ofNat 1)))) 1935960427,.glo 1888877928616923589727 (.raw 1655)])))) (.lit (.str [32,123,125])))]⟩
noncomputable def i3:Fn:=⟨[(1954047348,false),(29793,false),(7632239,false)],2,[],#[.set 2 (.lit (.str [])),.whil (.cmp .ne (.idx (.loc 0) (.loc 1)) (.lit (.str [34]))) #[.ite (.and (.cmp .eq (.idx (.loc 0) (.loc 1)) (.lit (.str [92]))) (.cmp .eq (.idx (.loc 0) (.bin .add (.loc 1) (.lit (.int (.ofNat 1))))) (.lit (.str [120])))) #[.aug 2 .add (.pf .chr (.pf .int_ (.slc (.loc 0) (.bin .add (.loc 1) (.lit (.int (.ofNat 2)))) (.bin .add (.loc 1) (.lit (.int (.ofNat 4))))))),.aug 1 .add (.lit (.int (.ofNat 4)))] #[.ite (.cmp .eq (.idx (.loc 0) (.loc 1)) (.lit (.str [92]))) #[.aug 2 .add (.ite (.cmp .eq (.idx (.loc 0) (.bin .add (.loc 1) (.lit (.int (.ofNat 1))))) (.lit (.str [110]))) (.lit (.str [10])) (.idx (.loc 0) (.bin .add (.loc 1) (.lit (.int (.ofNat 1)))))),.aug 1 .add (.lit (.int (.ofNat 2)))] #[.aug 2 .add (.idx (.loc 0) (.loc 1)),.aug 1 .add (.lit (.int (.ofNat 1)))]]],.ret (.tup #[.loc 2,.bin .add (.loc 1) (.lit (.int (.ofNat 1)))])]⟩
noncomputable def iH:Fn:=⟨[(1954047348,false),(7632239,false),(448612627046,false),(29793,false),(500135195763,false),(1685221239,false),(1684957547,false)],1,[],#[.setList 1 E.nil,.set 2 (.lit (.bool false)),.set 3 (.lit (.int (.ofNat 0))),.whil (.cmp .lt (.loc 3) (.pf .len (.loc 0))) #[.set 4 (.loc 3),.aug 3 .add (.lit (.int (.ofNat 1))),.ite (.or (.cmp .eq (.idx (.loc 0) (.loc 4)) (.lit (.str [10]))) (.cmp .eq (.idx (.loc 0) (.loc 4)) (.lit (.str [32])))) #[.set 2 (.or (.loc 2) (.cmp .eq (.idx (.loc 0) (.loc 4)) (.lit (.str [10])))),.cnt] S.nil,.set 5 (.idx (.loc 0) (.loc 4)),.set 6 (.glo 86068079845204 (.int (.ofNat 5))),.ite (.cmp .eq (.loc 5) (.lit (.str [34]))) #[.setTup [5,3] (.call 1683 .none #[.loc 0,.loc 3]),.set 6 (.glo 353602068308 (.int (.ofNat 4)))] #[.ite (.cmp .in_ (.loc 5) (.glo 35729072780115062052068879455 (.str [97,98,99,100,101,102,103,104,105,106,107,108,109,110,111,112,113,114,115,116,117,118,119,120,121,122,65,66,67,68,69,70,71,72,73,74,75,76,77,78,79,80,81,82,83,84,85,86,87,88,89,90,36,95]))) #[.whil (.and (.cmp .lt (.loc 3) (.pf .len (.loc 0))) (.cmp .in_ (.idx (.loc 0) (.loc 3)) (.glo 35729072780115062052068879455 (.str [97,98,99,100,101,102,103,104,105,106,107,108,109,110,111,112,113,114,115,116,117,118,119,120,121,122,65,66,67,68,69,70,71,72,73,74,75,76,77,78,79,80,81,82,83,84,85,86,87,88,89,90,36,95])))) #[.aug 3 .add (.lit (.int (.ofNat 1)))],.set 5 (.slc (.loc 0) (.loc 4) (.loc 3)),.set 6 (.ite (.cmp .in_ (.loc 5) (.glo 544925065878074801876063 (.tup [(.str [105,109,112,111,114,116]),(.str [101,120,112,111,114,116]),(.str [101,110,117,109]),(.str [99,111,110,115,116]),(.str [118,97,114]),(.str [105,110]),(.str [101,120,116,101,110,100,115]),(.str [110,101,119])]))) (.glo 75120309133140 (.int (.ofNat 2))) (.glo 76198110453588 (.int (.ofNat 1))))] S.nil],.app 1 (.new 655 #[.loc 6,.loc 5,.lit (.int (.ofNat 0)),.loc 4,.loc 3,.loc 2]),.set 2 (.lit (.bool false))],.app 1 (.new 655 #[.glo 293370945364 (.int (.ofNat 0)),.lit (.str []),.lit (.int (.ofNat 0)),.loc 3,.loc 3,.lit (.bool true)]),.ret (.loc 1)]⟩
noncomputable def hJ:Fn:=⟨[(126917985136500,false),(7632239,false),(105,false),(1852270963,false)],1,[],#[.setList 1 E.nil,.forR 2 (.pf .len (.loc 0)) #[.set 3 (.ite (.cmp .eq (.attr (.idx (.loc 0) (.loc 2)) 1684957547) (.glo 86068079845204 (.int (.ofNat 5)))) (.attr (.idx (.loc 0) (.loc 2)) 1954047348) (.lit (.str []))),.ite (.and (.cmp .ne (.loc 3) (.lit (.str [59]))) (.or (.cmp .ne (.loc 3) (.lit (.str [44]))) (.or (.cmp .ne (.attr (.idx (.loc 0) (.bin .add (.loc 2) (.lit (.int (.ofNat 1))))) 1684957547) (.glo 86068079845204 (.int (.ofNat 5)))) (.cmp .ne (.attr (.idx (.loc 0) (.bin .add (.loc 2) (.lit (.int (.ofNat 1))))) 1954047348) (.lit (.str [125])))))) #[.app 1 (.idx (.loc 0) (.loc 2))] S.nil],.ret (.loc 1)]⟩
noncomputable def ij:Fn:=⟨[(126917985136500,false),(112,false),(1701667182,false),(1953330291,false),(1937207154,false)],1,[],#[.setNew 1 902 #[.loc 0,.new 211 E.nil],.set 2 (.new 1454 E.nil),.setNew 3 1028 E.nil,.setAttr 3 495606460279 (.dict #[.lit (.str [108,101,116]),.new 1162 E.nil,.lit (.str [118,97,114]),.new 1136 E.nil,.lit (.str [99,111,110,115,116]),.new 1407 E.nil,.lit (.str [101,110,117,109]),.new 1282 E.nil,.lit (.str [116,121,112,101]),.new 1322 E.nil,.lit (.str [105,110,116,101,114,102,97,99,101]),.new 1348 E.nil,.lit (.str [100,101,99,108,97,114,101]),.new 1381 E.nil]),.setAttr 1 495874892144 (.dict #[.glo 1518422467640906891600 (.int (.ofNat 2)),.loc 2,.glo 24239290082158357293019840848 (.int (.ofNat 10)),.loc 2,.glo 1278615092650333847888 (.int (.ofNat 1)),.loc 2,.glo 25780651574442722100746797392 (.int (.ofNat 7)),.new 1473 E.nil,.glo 25786714798720408752978280784 (.int (.ofNat 9)),.new 1047 E.nil,.glo 1555098672499468157264 (.int (.ofNat 3)),.loc 3]),.setList 4 E.nil,.try_ #[.whil (.cmp .ne (.attr (.methO 1 7827310 E.nil) 1684957547) (.glo 293370945364 (.int (.ofNat 0)))) #[.app 4 (.call 1517 (some (0,1)) #[.hole 1])]],.ret (.ite (.or (.cmp .gt (.pf .len (.attr (.attrO 1 495655676260) 1937207154)) (.lit (.int (.ofNat 0)))) (.cmp .ne (.attrO 1 1885693284) (.lit (.int (.ofNat 0))))) (.lit .none) (.call 56 .none #[.glo 76193949179723 (.int (.ofNat 40)),.lit (.str []),.loc 4,.lit (.int (.ofNat 0))]))]⟩
noncomputable def lC:Fn:=⟨[(100,false),(114,false),(105,false)],2,[],#[.ite (.or (.cmp .is_ (.loc 0) (.lit .none)) (.cmp .is_ (.loc 1) (.lit .none))) #[.ret (.and (.cmp .is_ (.loc 0) (.lit .none)) (.cmp .is_ (.loc 1) (.lit .none)))] S.nil,.ite (.or (.cmp .ne (.attr (.loc 0) 1684957547) (.attr (.loc 1) 1684957547)) (.or (.cmp .ne (.attr (.loc 0) 97) (.attr (.loc 1) 97)) (.or (.cmp .ne (.attr (.loc 0) 495655677030) (.attr (.loc 1) 495655677030)) (.cmp .ne (.pf .len (.attr (.loc 0) 1935960427)) (.pf .len (.attr (.loc 1) 1935960427)))))) #[.ret (.lit (.bool false))] S.nil,.forR 2 (.pf .len (.attr (.loc 0) 1935960427)) #[.ite (.not (.call 1711 .none #[.idx (.attr (.loc 0) 1935960427) (.loc 2),.idx (.attr (.loc 1) 1935960427) (.loc 2)])) #[.ret (.lit (.bool false))] S.nil],.ret (.lit (.bool true))]⟩
noncomputable def zG:Fn:=⟨[(128026154263411,false),(1936553326,false),(1937207154,false),(110,false),(126943821785444,false),(1701147252,false),(29296,false),(1954047348,false),(126917985136500,false),(1701080942,false),(474214393697,false)],1,[],#[.setC 1 110 .none false (.bin .mod (.loc 0) (.lit (.int (.ofNat 1000000007)))) (.slc (.loc 0) (.lit .none) (.lit (.int (.ofNat 8)))),.set 1 (.bin .add (.loc 1) (.slc (.list #[.lit (.int (.ofNat 67)),.lit (.int (.ofNat 6)),.lit (.int (.ofNat 23))]) (.pf .len (.loc 1)) (.lit .none))),.setList 2 E.nil,.forIn [3] (.loc 1) #[.setList 4 E.nil,.whil (.cmp .gt (.loc 3) (.lit (.int (.ofNat 0)))) #[.setAdd 4 (.list #[.bin .mod (.bin .mod (.loc 3) (.lit (.int (.ofNat 1011)))) (.lit (.int (.ofNat 60)))]) (.loc 4),.set 3 (.bin .fdiv (.loc 3) (.lit (.int (.ofNat 2))))],.app 2 (.call 1622 (some (0,4)) #[.hole 4])],.set 5 (.call 56 .none #[.glo 76193949179723 (.int (.ofNat 40)),.lit (.str []),.loc 2,.lit (.int (.ofNat 0))]),.setNew 6 362 E.nil,.setAttr 6 126879514323059 (.dict #[.glo 76193949179723 (.int (.ofNat 40)),.new 446 E.nil,.glo 76198110453579 (.int (.ofNat 8)),.new 1506 E.nil,.glo 6076006053588852555 (.int (.ofNat 68)),.new 484 E.nil,.glo 1278392157807166709579 (.int (.ofNat 69)),.new 503 E.nil,.glo 6076006053773139787 (.int (.ofNat 70)),.new 522 E.nil,.glo 85028780728139 (.int (.ofNat 66)),.new 579 E.nil,.glo 1425393026266239950667 (.int (.ofNat 67)),.new 598 E.nil,.glo 23434206134755147 (.int (.ofNat 65)),.new 560 E.nil,.glo 83733484213315229543128907 (.int (.ofNat 64)),.new 541 E.nil,.glo 5566821054880702283 (.int (.ofNat 100)),.new 636 E.nil,.glo 77263547948875 (.int (.ofNat 81)),.new 617 E.nil,.glo 353283497803 (.int (.ofNat 41)),.new 465 E.nil]),.set 7 (.methO 6 1954047348 #[.loc 5]),.ite (.or (.cmp .ne (.loc 7) (.join (.lit (.str [])) (.comp 6647407 .none false (.bin .add (.call 1676 .none #[.loc 0]) (.lit (.str [10]))) (.loc 2)))) (.or (.cmp .ne (.attrO 6 448630121828) (.lit (.int (.ofNat 0)))) (.cmp .ne (.attrO 6 1885693284) (.lit (.int (.ofNat 0)))))) #[.ret (.lit (.bool false))] S.nil,.set 8 (.call 1690 .none #[.loc 7]),.set 9 (.call 1704 .none #[.loc 8]),.ite (.or (.cmp .is_ (.loc 9) (.lit .none)) (.or (.not (.call 1711 .none #[.loc 5,.loc 9])) (.cmp .ne (.methO 6 1954047348 #[.loc 9]) (.loc 7)))) #[.ret (.lit (.bool false))] S.nil,.set 10 (.call 1704 .none #[.call 1697 .none #[.loc 8]]),.ret (.and (.cmp .isn (.loc 10) (.lit .none)) (.call 1711 .none #[.loc 5,.loc 10]))]⟩
end
noncomputable def bJ:List (Nat×Fn):=[(194,d9),(35,qf),(49,Gp),(56,F0),(63,vk),(70,ut),(233,kB),(240,Cw),(247,jm),(254,mV),(261,lP),(345,la),(352,mj),(373,ql),(380,v8),(387,j4),(394,iS),(401,xt),(408,vo),(422,ka),(429,lT),(443,fw),(462,kO),(481,iu),(500,dX),(519,io),(538,dr),(557,iI),(576,fe),(595,gV),(614,kx),(633,em),(652,o6),(731,cT),(738,oU),(745,mn),(752,mK),(759,jK),(766,jJ),(773,jW),(780,ji),(787,iE),(794,iU),(801,im),(815,ip),(822,iA),(829,gn),(850,ju),(857,fC),(864,mH),(871,qO),(878,mT),(920,oG),(927,r5),(934,bZ),(941,qb),(948,nZ),(962,jE),(969,hY),(976,ou),(990,mA),(1018,kA),(1025,jP),(1044,iF),(1056,jT),(1063,pw),(1070,j1),(1077,qI),(1084,gi),(1091,rT),(1098,ko),(1105,kF),(1112,om),(1119,l7),(1133,jL),(1152,iL),(1159,jZ),(1172,pU),(1179,mL),(1186,kP),(1193,jn),(1202,pG),(1209,pM),(1237,qA),(1244,my),(1251,ia),(1258,oY),(1265,dy),(1279,jj),(1291,mN),(1298,iT),(1312,gW),(1319,ii),(1338,fj),(1345,fK),(1357,kC),(1371,fZ),(1378,gq),(1390,kJ),(1404,il),(1423,pO),(1430,oK),(1451,jN),(1470,hE),(1482,mf),(1489,dG),(1503,jM),(1517,rx),(1524,hV),(1531,gU),(1538,et),(1545,nR),(1552,mF),(1559,mP),(1575,r6),(1582,rl),(1589,pi),(1596,fH),(1603,hU),(1608,km),(1615,nt),(1622,cW),(1629,qS),(1634,nY),(1641,hO),(1648,fI),(1655,rc),(1662,rd),(1669,ic),(1676,dD),(1683,i3),(1690,iH),(1697,hJ),(1704,ij),(1711,lC),(1716,zG)]
noncomputable def v9:List (Nat×Option Nat):=[(38,some 35),(211,some 194),(327,.none),(362,some 345),(446,.none),(465,.none),(484,.none),(503,.none),(522,.none),(541,.none),(560,.none),(579,.none),(598,.none),(617,.none),(636,.none),(655,some 652),(902,some 731),(1028,some 1018),(1047,.none),(1136,.none),(1162,.none),(1282,.none),(1322,.none),(1348,.none),(1381,.none),(1407,.none),(1454,.none),(1473,.none),(1506,.none)]
noncomputable def xq:List ((Nat×Nat)×Nat):=[((362,1954047348),352),((446,1954047348),443),((465,1954047348),462),((484,1954047348),481),((503,1954047348),500),((522,1954047348),519),((541,1954047348),538),((560,1954047348),557),((579,1954047348),576),((598,1954047348),595),((617,1954047348),614),((636,1954047348),633),((902,431130765409),745),((902,28268879342887267),850),((902,1853321060),864),((902,7308604896967942501),794),((902,7955443211016888677),780),((902,7237970109631062373),787),((902,9224632820852246092213473537637),857),((902,28549237878780777),773),((902,31075950043034473),759),((902,28273320740746089),766),((902,122618043015086734528308589),829),((902,1871002853623525107054),815),((902,2036593462020055328110),801),((902,7827310),738),((902,1953653104),878),((902,1871002853623727092336),822),((902,1885697139),752),((902,28789),871),((1028,435728572784),1025),((1047,435728572784),1044),((1136,495773380719),990),((1136,1684104562),1133),((1162,495773380719),1152),((1162,1684104562),1159),((1282,495773380719),990),((1282,1684104562),1279),((1322,495773380719),1312),((1322,1684104562),1319),((1348,495773380719),1338),((1348,1684104562),1345),((1381,495773380719),1371),((1381,1684104562),1378),((1407,495773380719),990),((1407,1684104562),1404),((1454,435728572784),1451),((1473,435728572784),1470),((1506,1954047348),1503)]
noncomputable def Jm {α:Type} (k:Nat):List (Nat×α)→Option α
 |[]=>none
 |x::r=>cond (Nat.beq k x.1) (some x.2) (Jm k r)
noncomputable def M7 (c k:Nat):List ((Nat×Nat)×Nat)→Option Nat
 |[]=>none
 |x::r=>cond (Nat.beq c x.1.1&&Nat.beq k x.1.2) (some x.2) (M7 c k r)
noncomputable def TT:fY:=⟨fun c=>Jm c v9,fun c k=>M7 c k xq⟩
noncomputable def MY (f:Nat):Option Fn:=Jm f bJ
end Mine
namespace Mine
open PySem PySem.W PySem.Calls PyProof.Rows
noncomputable def M6 (P:Params):FuncData:=match jD P 194 with
 |some o=>(match o.data with
  |Data.func fd=>fd
  |_=>default)
 |none=>default
theorem Mc (P:Params):(jD P 194).map Obj.data=some (Data.func (M6 P)):=by kernel_rfl
theorem I7 (P:Params):(M6 P).defaults=.ref 187:=by kernel_rfl
theorem HW (P:Params):jD P 187=some (cO (bG) [vS 0 528]):=by kernel_rfl
theorem Kw (P:Params):tE P 194 d9 false=true:=by kernel_rfl
theorem vx {s:Shared} (P:Params) {v:Value} {o:Obj} (ho:s.heap.get? 187=some o) (hs:o.data=.seq #[vS 0 528] 0):BindsTo s (M6 P) ⟨[v],[]⟩ [(bw 1718379891,v),(bw 1701603686,vS 0 528)]:=
 BindsTo.of_defaults (I7 P) ho hs rfl (by kernel_rfl)
theorem zQ (w:World):Bh w 194 d9:=by
 obtain⟨o,fd,b,e,hd,hb,h,_⟩:=pP (Kw w.params)
 refine⟨o,fd,b,e,hd,tK hb h fun s vals Fs hl=>?_⟩
 have q:fd=M6 w.params:=Data.func.inj (Option.some.inj ((congrArg some hd).symm.trans ((congrArg (Option.map Obj.data) e).symm.trans (Mc w.params))))
 subst q
 obtain⟨v,rfl⟩:=List.length_eq_one_iff.mp hl
 exact⟨[.str (sS []) 528],.cons (.str [] 528) .nil,vx _ (Fs.at_ _ _ (HW _)) rfl⟩
theorem kU {α:Type} {k:Nat} {v:α}:∀{l:List (Nat×α)},Jm k l=some v→(k,v)∈l
 |[],h=>by cases h
 |x::r,h=>by
  have h:cond (Nat.beq k x.1) (some x.2) (Jm k r)=some v:=h
  cases q:Nat.beq k x.1 with
  |true=>rw[q] at h;cases h;rw[Nat.eq_of_beq_eq_true q];exact List.mem_cons_self ..
  |false=>rw[q] at h;exact List.mem_cons_of_mem _ (kU h)
theorem sn {c k:Nat} {v:Nat}:∀{l:List ((Nat×Nat)×Nat)},M7 c k l=some v→((c,k),v)∈l
 |[],h=>by cases h
 |x::r,h=>by
  have h:cond (Nat.beq c x.1.1&&Nat.beq k x.1.2) (some x.2) (M7 c k r)=some v:=h
  cases q:Nat.beq c x.1.1&&Nat.beq k x.1.2 with
  |true=>
   rw[q] at h;cases h
   rw[Bool.and_eq_true] at q
   rw[Nat.eq_of_beq_eq_true q.1,Nat.eq_of_beq_eq_true q.2];exact List.mem_cons_self ..
  |false=>rw[q] at h;exact List.mem_cons_of_mem _ (sn h)
noncomputable def Op (P:Params) (x:Nat×Option Nat):Bool:=match x.2 with
 |some f=>me P0 P x.1 (.ref f)&&(typeIn (KC P0 P) (.ref f) == some (.type "function"))
 |none=>me P0 P x.1 (.builtin "object.__init__")
theorem s6 (P:Params):v9.all (Op P)=true:=by kernel_rfl
theorem Cf (P:Params):xq.all (fun x=>yk P0 P x.1.1 x.1.2 x.2)=true:=by kernel_rfl
theorem Jp (P:Params):iV TT P where
 meth C k f h:=List.all_eq_true.mp (Cf P) _ (sn h)
 init C f h:=by
  have:=List.all_eq_true.mp (s6 P) _ (kU h)
  have this:(me P0 P C (.ref f)&&(typeIn (KC P0 P) (.ref f) == some (.type "function")))=true:=this
  rw[Bool.and_eq_true] at this
  exact⟨this.1,beq_iff_eq.mp this.2⟩
 init0 C h:=by
  have:=List.all_eq_true.mp (s6 P) _ (kU h)
  exact this
noncomputable def ry (P:Params) (x:Nat×Fn):Bool:=tE P x.1 x.2 true
theorem cz {α:Type} {p:α→Bool} {l:List α} (n:Nat) (a:(l.take n).all p=true) (b:(l.drop n).all p=true):l.all p=true:=by
 rw[← List.take_append_drop n l,List.all_append,a,b];rfl
theorem QN (P:Params):((bJ.drop 1).take 10).all (ry P)=true:=by kernel_rfl
theorem Rh (P:Params):((bJ.drop 11).take 10).all (ry P)=true:=by kernel_rfl
theorem Q3 (P:Params):((bJ.drop 21).take 10).all (ry P)=true:=by kernel_rfl
theorem QK (P:Params):((bJ.drop 31).take 10).all (ry P)=true:=by kernel_rfl
theorem Q6 (P:Params):((bJ.drop 41).take 10).all (ry P)=true:=by kernel_rfl
theorem Rw (P:Params):((bJ.drop 51).take 10).all (ry P)=true:=by kernel_rfl
theorem QI (P:Params):((bJ.drop 61).take 10).all (ry P)=true:=by kernel_rfl
theorem Rz (P:Params):((bJ.drop 71).take 10).all (ry P)=true:=by kernel_rfl
theorem QM (P:Params):((bJ.drop 81).take 10).all (ry P)=true:=by kernel_rfl
theorem QO (P:Params):((bJ.drop 91).take 10).all (ry P)=true:=by kernel_rfl
theorem N6 (P:Params):((bJ.drop 101).take 10).all (ry P)=true:=by kernel_rfl
theorem OT (P:Params):((bJ.drop 111).take 10).all (ry P)=true:=by kernel_rfl
theorem No (P:Params):((bJ.drop 121).take 10).all (ry P)=true:=by kernel_rfl
theorem Ny (P:Params):((bJ.drop 131).take 10).all (ry P)=true:=by kernel_rfl
theorem Hv (P:Params):(bJ.drop 1).all (ry P)=true:=
 cz (l:=bJ.drop 1) 10 (QN P)<|cz (l:=bJ.drop 11) 10 (Rh P)<|cz (l:=bJ.drop 21) 10 (Q3 P)<|cz (l:=bJ.drop 31) 10 (QK P)<|cz (l:=bJ.drop 41) 10 (Q6 P)<|cz (l:=bJ.drop 51) 10 (Rw P)<|cz (l:=bJ.drop 61) 10 (QI P)<|cz (l:=bJ.drop 71) 10 (Rz P)<|cz (l:=bJ.drop 81) 10 (QM P)<|cz (l:=bJ.drop 91) 10 (QO P)<|cz (l:=bJ.drop 101) 10 (N6 P)<|cz (l:=bJ.drop 111) 10 (OT P)<|cz (l:=bJ.drop 121) 10 (No P)<|cz (l:=bJ.drop 131) 10 (Ny P)<|by kernel_rfl
theorem Ma (w:World) {f:Nat} {fn:Fn} (h:(f,fn)∈bJ):Bh w f fn:=by
 rcases List.mem_cons.mp (show(f,fn)∈(194,d9)::bJ.drop 1 from h) with e|h
 ·cases e;exact zQ w
 ·exact B8 (List.all_eq_true.mp (Hv w.params) _ h)
end Mine
namespace Mine.L
noncomputable def GG:Nat:=Classical.choose (⟨10000000000,rfl⟩:∃g:Nat,g=10000000000)
theorem iO:GG=10000000000:=Classical.choose_spec (⟨10000000000,rfl⟩:∃g:Nat,g=10000000000)
@[irreducible] noncomputable def ab (n:Nat):aM:=kb TT MY GG n
abbrev KT:=V→Option MO→Prop
noncomputable def Hu (st:List bB) (K:List bB→Prop):Prop:=match st with
 |[]=>K []
 |x::r=>Hu r fun r=>K (x::r)
theorem so:∀{st:List bB} {K:List bB→Prop},Hu st K=K st
 |[],_=>rfl
 |_::r,_=>so (st:=r)
theorem aa {n f:Nat} {fn:Fn} {l:List V} {mo:Option (Nat×MO)} {K:KT} (hf:MY f=some fn) (hl:l.length=fn.np)
  (h:Hu (ik fn l mo) fun st=>aq TT (ab n) GG fn.body st (HS mo K)):ab (n+1) f l mo K:=by
 rw[so] at h
 unfold ab at *
 unfold kb
 rw[hf]
 exact⟨hl,h⟩
theorem ar {p q:Prop} {b:Bool} (h:b=true) (k:p):cond b p q:=by cases h;exact k
theorem av {p q:Prop} {b:Bool} (h:b=false) (k:q):cond b p q:=by cases h;exact k
theorem GZ {P:Nat→Prop} {k:Nat} (a:P 0) (b:∀{r},r < k→P (r+1)) {r:Nat} (h:r < k+1):P r:=by
 cases r with
 |zero=>exact a
 |succ r=>exact b (Nat.lt_of_succ_lt_succ h)
@[elab_as_elim] theorem Qm {P:Nat→Prop} {r:Nat} (h:r < 2) (a:P 0) (b:P 1):P r:=GZ a (fun h=>GZ (P:=fun r=>P (r+1)) b (fun h=>absurd h (Nat.not_lt_zero _)) h) h
@[elab_as_elim] theorem NP {P:Nat→Prop} {r:Nat} (h:r < 3) (a:P 0) (b:P 1) (c:P 2):P r:=GZ a (fun h=>Qm (P:=fun r=>P (r+1)) h b c) h
@[elab_as_elim] theorem OU {P:Nat→Prop} {r:Nat} (h:r < 4) (a:P 0) (b:P 1) (c:P 2) (d:P 3):P r:=GZ a (fun h=>NP (P:=fun r=>P (r+1)) h b c d) h
@[elab_as_elim] theorem Mu {P:Nat→Prop} {r:Nat} (h:r < 5) (a:P 0) (b:P 1) (c:P 2) (d:P 3) (e:P 4):P r:=GZ a (fun h=>OU (P:=fun r=>P (r+1)) h b c d e) h
@[elab_as_elim] theorem Q0 {P:Nat→Prop} {r:Nat} (h:r < 7) (a:P 0) (b:P 1) (c:P 2) (d:P 3) (e:P 4) (f:P 5) (g:P 6):P r:=GZ a (fun h=>GZ (P:=fun r=>P (r+1)) b (fun h=>Mu (P:=fun r=>P (r+1+1)) h c d e f g) h) h
theorem aw {n:Nat} (h:Nat.ble n 100=true):n≤100:=Nat.le_of_ble_eq_true h
abbrev In (n:Nat):V:=.int (.ofNat n)
noncomputable abbrev qv (k a kids f at_:V):List (Nat×V):=[(1684957547,k),(97,a),(1935960427,kids),(495655677030,f),(29793,at_),(6580590,In 0)]
noncomputable abbrev ao (k:Nat) (a:V) (kids:List V) (f:Nat) (at_:V):V:=.inst 38 (qv (In k) a (.list kids) (In f) at_)
noncomputable abbrev aC (k:Nat) (t:List Nat) (at_ en fr:V):V:=.inst 655 [(1684957547,In k),(1954047348,.str t),(7173486,In 0),(29793,at_),(6581861,en),(122641912527128594339490156,fr)]
section
variable {n k k' f m:Nat} {t t':List Nat} {a e fr at_ v:V} {kids:List V} {K:KT}
theorem eP (h:K (.bool (cond (decide (Int.ofNat k=Int.ofNat k')) (aW t t') false)) none):ab (n+1) 927 [aC k t a e fr,In k',.str t'] none K:=by
 refine aa rfl rfl ?_
 conv=>whnf
 revert h
 cases decide (Int.ofNat k=Int.ofNat k')
 ·exact id
 ·exact id
theorem d8 {k a kids f at_:V} (h:K .none (some (.inst 38 (qv k a kids f at_)))):ab (n+1) 35 [.hole,k,a,kids,f,at_] (some (0,.inst 38 [])) K:=by
 refine aa rfl rfl ?_
 exact And.intro ⟨rfl,aw rfl⟩<|And.intro ⟨rfl,aw rfl⟩<|And.intro ⟨rfl,aw rfl⟩<|And.intro ⟨rfl,aw rfl⟩<|And.intro ⟨rfl,aw rfl⟩<|And.intro ⟨rfl,aw rfl⟩ h
theorem tB (h:K (ao k a [] 0 at_) none):ab (n+2) 49 [In k,a,at_] none K:=by
 refine aa rfl rfl ?_
 refine d8 ?_
 exact⟨rfl,h⟩
theorem ca (h:K (ao k a kids 0 at_) none):ab (n+2) 56 [In k,a,.list kids,at_] none K:=by
 refine aa rfl rfl ?_
 refine d8 ?_
 exact⟨rfl,h⟩
theorem aE (h:K (ao k a kids f at_) none):ab (n+2) 63 [In k,a,.list kids,In f,at_] none K:=by
 refine aa rfl rfl ?_
 refine d8 ?_
 exact⟨rfl,h⟩
theorem dz (h:K (ao 71 (.str []) kids 0 at_) none):ab (n+2) 70 [.list kids,at_] none K:=by
 refine aa rfl rfl ?_
 refine d8 ?_
 exact⟨rfl,h⟩
theorem hX {k t u a e fr:V} (h:K .none (some (.inst 655 [(1684957547,k),(1954047348,t),(7173486,u),(29793,a),(6581861,e),(122641912527128594339490156,fr)]))):ab (n+1) 652 [.hole,k,t,u,a,e,fr] (some (0,.inst 655 [])) K:=by
 refine aa rfl rfl ?_
 exact And.intro ⟨rfl,aw rfl⟩<|And.intro ⟨rfl,aw rfl⟩<|And.intro ⟨rfl,aw rfl⟩<|And.intro ⟨rfl,aw rfl⟩<|And.intro ⟨rfl,aw rfl⟩<|And.intro ⟨rfl,aw rfl⟩ h
end
noncomputable def rU:V:=.inst 211 [(1937207154,.list []),(1701603686,.str [])]
noncomputable def jU:V:=.dict [((.str [108,101,116]),.inst 1162 []),((.str [118,97,114]),.inst 1136 []),((.str [99,111,110,115,116]),.inst 1407 []),((.str [101,110,117,109]),.inst 1282 []),((.str [116,121,112,101]),.inst 1322 []),((.str [105,110,116,101,114,102,97,99,101]),.inst 1348 []),((.str [100,101,99,108,97,114,101]),.inst 1381 [])]
noncomputable def An:V:=.inst 1028 [(495606460279,jU)]
noncomputable def GS:V:=.dict [(In 2,.inst 1454 []),(In 10,.inst 1454 []),(In 1,.inst 1454 []),(In 7,.inst 1473 []),(In 9,.inst 1047 []),(In 3,An)]
noncomputable def Gn (parts:V) (toks:List V) (a d:Nat):List (Nat×V):=[(126917985136500,.list toks),(29793,In a),(495655676260,rU),(495874892144,parts),(126943990278502,.dict []),(495740084596,.dict []),(495623108980,.dict []),(1885693284,In d),(29113321536775536,.tup [.str [],In 0,In 0]),(7955995183301815393,.bool true),(27987473202114153,In 0),(31647721741839977,In 0),(1925627852534604328553,In 0),(126909394608492,.list []),(28268922358689646,.bool false),(32195222481167730,.bool false),(511813157447760619728489,In 0),(126935165726563,.list []),(126862284910435,.dict []),(2203193151619530518382,.dict []),(126943822114931,.list []),(431198986611,.list [])]
noncomputable abbrev PS (toks:List V) (a d:Nat):MO:=.inst 902 (Gn GS toks a d)
structure At (toks:List V) (a:Nat) (l:List V):Prop where
 d:toks.drop a=l
 z:toks.length≤bA
theorem At.next {toks l:List V} {a:Nat} {t:V} (h:At toks a (t::l)):At toks (a+1) l:=
 ⟨by rw[← List.drop_drop,h.d];rfl,h.z⟩
theorem At.get {toks l:List V} {a j:Nat} {t:V} (h:At toks a l) (e:l[j]?=some t):toks[a+j]?=some t:=by
 rw[← h.d,List.getElem?_drop] at e
 exact e
theorem At.lt {toks l:List V} {a j:Nat} {t:V} (h:At toks a l) (e:l[j]?=some t):a+j < toks.length:=(List.getElem?_eq_some_iff.mp (h.get e)).1
theorem wc {n k:Nat} (h:k < n) (z:n≤bA):at_ n (.ofNat k)=some k:=by
 show(if k < n∧k≤bA then some k else none)=_
 rw[if_pos ⟨h,Nat.le_trans (Nat.le_of_lt h) z⟩]
theorem f7 {l:List V} {j:Nat} {t:V} (e:l[j]?=some t) (z:l.length≤bA):gZ (.list l) (In j)=some t:=by
 show(at_ l.length (.ofNat j)).bind _=_
 rw[wc (List.getElem?_eq_some_iff.mp e).1 z]
 exact e
theorem At.idx {toks l:List V} {a j:Nat} {t:V} (h:At toks a l) (e:l[j]?=some t):gZ (.list toks) (In (a+j))=some t:=f7 (h.get e) h.z
theorem MI {a b:Nat} (h:b < a):decide (Int.ofNat a≤Int.ofNat b)=false:=decide_eq_false fun q=>by have:=Int.ofNat_le.mp q;lia
theorem fV {a b:Nat} (h:b≤a):decide (Int.ofNat a < Int.ofNat b)=false:=decide_eq_false fun q=>by have:=Int.ofNat_lt.mp q;lia
theorem af {α:Type} {r:Option α} {x:α} {K:α→Prop} (e:r=some x) (k:K x):eM r K:=by rw[e];exact k
noncomputable abbrev oJ (k:Nat) (t:List Nat) (k':Nat) (t':List Nat):Bool:=cond (decide (Int.ofNat k=Int.ofNat k')) (aW t t') false
section
variable {n k k' f m a d j:Nat} {t t' s:List Nat} {ta te fr at_ v w:V} {kids toks l r:List V} {K:KT} {b:Bool}
theorem aJ (h:At toks a (v::r)) (k:K v (some (PS toks a d))):ab (n+1) 738 [.hole] (some (0,PS toks a d)) K:=by
 refine aa rfl rfl ?_
 exact af (h.idx (j:=0) rfl) k
theorem au (h:At toks a l) (e:l[j]?=some v) (k:K v (some (PS toks a d))):ab (n+1) 745 [.hole,In j] (some (0,PS toks a d)) K:=by
 refine aa rfl rfl ?_
 have e1:dJ (.list toks)=some toks.length:=if_pos h.z
 have e2:=MI (h.lt e)
 refine⟨trivial,?_⟩
 refine af (r:=(dJ (.list toks)).map fun n=>In n) (by rw[e1];rfl) ?_
 first|refine ar (show decide (Int.ofNat toks.length≤Int.ofNat a+Int.ofNat j)=false from e2) ?_|refine av (show decide (Int.ofNat toks.length≤Int.ofNat a+Int.ofNat j)=false from e2) ?_|((conv=>whnf);rw[show decide (Int.ofNat toks.length≤Int.ofNat a+Int.ofNat j)=false from e2];trace "FALLBACK")
 exact af (h.idx e) k
theorem bp (h:At toks a (aC k t ta te fr::r)) (hk:decide (Int.ofNat k=Int.ofNat 0)=false) (c:At toks (a+1) r→K (aC k t ta te fr) (some (PS toks (a+1) d))):ab (n+1) 752 [.hole] (some (0,PS toks a d)) K:=by
 refine aa rfl rfl ?_
 refine af (h.idx (j:=0) rfl) ?_
 first|refine ar (hk) ?_|refine av (hk) ?_|((conv=>whnf);rw[hk];trace "FALLBACK")
 exact⟨trivial,⟨rfl,aw rfl⟩,c h.next⟩
theorem bD (b:Bool) (h:At toks a (aC k t ta te fr::r)) (e:oJ k t 5 s=b) (c:K (.bool b) (some (PS toks a d))):ab (n+2) 759 [.hole,.str s] (some (0,PS toks a d)) K:=by
 refine aa rfl rfl ?_
 refine af (h.idx (j:=0) rfl) ?_
 refine eP ?_
 rw[show cond _ _ false=b from e]
 exact c
theorem ai (b:Bool) (h:At toks a (aC k t ta te fr::r)) (e:oJ k t 2 s=b) (c:K (.bool b) (some (PS toks a d))):ab (n+2) 766 [.hole,.str s] (some (0,PS toks a d)) K:=by
 refine aa rfl rfl ?_
 refine af (h.idx (j:=0) rfl) ?_
 refine eP ?_
 rw[show cond _ _ false=b from e]
 exact c
theorem aS (b:Bool) (h:At toks a (aC k t ta te fr::r)) (e:oJ k t 1 s=b) (c:K (.bool b) (some (PS toks a d))):ab (n+2) 773 [.hole,.str s] (some (0,PS toks a d)) K:=by
 refine aa rfl rfl ?_
 refine af (h.idx (j:=0) rfl) ?_
 refine eP ?_
 rw[show cond _ _ false=b from e]
 exact c
theorem bE (b:Bool) (e:oJ k t k' s=b) (c:K (.bool b) none):ab (n+1) 927 [aC k t ta te fr,In k',.str s] none K:=eP (by rw[show cond _ _ false=b from e];exact c)
theorem qZ (h:At toks a (aC k t ta te fr::r)) (e:oJ k t k' s=false) (c:K (.bool false) (some (PS toks a d))):ab (n+2) 941 [.hole,In k',.str s] (some (0,PS toks a d)) K:=by
 refine aa rfl rfl ?_
 refine aJ h ?_
 refine bE false e ?_
 exact c
theorem kT (h:At toks a (aC k t ta te fr::r)) (hk:decide (Int.ofNat k=Int.ofNat 0)=false) (e:oJ k t k' s=true) (c:At toks (a+1) r→K (.bool true) (some (PS toks (a+1) d))):ab (n+2) 941 [.hole,In k',.str s] (some (0,PS toks a d)) K:=by
 refine aa rfl rfl ?_
 refine aJ h ?_
 refine bE true e ?_
 exact bp h hk c
theorem cB (h:At toks a (aC k t ta te fr::r)) (e:oJ k t 5 s=false) (c:K (.bool false) (some (PS toks a d))):ab (n+3) 780 [.hole,.str s] (some (0,PS toks a d)) K:=by
 refine aa rfl rfl ?_
 exact qZ h e c
theorem b7 (h:At toks a (aC 5 s ta te fr::r)) (e:aW s s=true) (c:At toks (a+1) r→K (.bool true) (some (PS toks (a+1) d))):ab (n+3) 780 [.hole,.str s] (some (0,PS toks a d)) K:=by
 refine aa rfl rfl ?_
 exact kT h rfl e c
theorem oy (h:At toks a (aC k t ta te fr::r)) (e:oJ k t 2 s=false) (c:K (.bool false) (some (PS toks a d))):ab (n+3) 787 [.hole,.str s] (some (0,PS toks a d)) K:=by
 refine aa rfl rfl ?_
 exact qZ h e c
theorem mu (h:At toks a (aC 2 s ta te fr::r)) (e:aW s s=true) (c:At toks (a+1) r→K (.bool true) (some (PS toks (a+1) d))):ab (n+3) 787 [.hole,.str s] (some (0,PS toks a d)) K:=by
 refine aa rfl rfl ?_
 exact kT h rfl e c
theorem B4 (h:At toks a (aC k t ta te fr::r)) (e:oJ k t 1 s=false) (c:K (.bool false) (some (PS toks a d))):ab (n+3) 794 [.hole,.str s] (some (0,PS toks a d)) K:=by
 refine aa rfl rfl ?_
 exact qZ h e c
theorem lQ (h:At toks a (aC 1 s ta te fr::r)) (e:aW s s=true) (c:At toks (a+1) r→K (.bool true) (some (PS toks (a+1) d))):ab (n+3) 794 [.hole,.str s] (some (0,PS toks a d)) K:=by
 refine aa rfl rfl ?_
 exact kT h rfl e c
theorem bO (h:At toks a (aC 5 s ta te fr::r)) (e:aW s s=true) (c:At toks (a+1) r→K .none (some (PS toks (a+1) d))):ab (n+3) 801 [.hole,.str s] (some (0,PS toks a d)) K:=by
 refine aa rfl rfl ?_
 refine kT h rfl e fun h'=>?_
 exact c h'
theorem cg (h:At toks a (aC 1 t ta te fr::r)) (c:At toks (a+1) r→K (.str t) (some (PS toks (a+1) d))):ab (n+2) 815 [.hole] (some (0,PS toks a d)) K:=by
 refine aa rfl rfl ?_
 refine aJ h ?_
 refine bp h rfl fun h'=>?_
 exact c h'
theorem kS (hd:d < 40) (c:K .none (some (PS toks a (d+1)))):ab (n+1) 864 [.hole] (some (0,PS toks a d)) K:=by
 refine aa rfl rfl ?_
 refine⟨trivial,⟨rfl,aw rfl⟩,?_⟩
 first|refine ar (show decide (Int.ofNat 40 < Int.ofNat d+Int.ofNat 1)=false from fV (b:=d+1) hd) ?_|refine av (show decide (Int.ofNat 40 < Int.ofNat d+Int.ofNat 1)=false from fV (b:=d+1) hd) ?_|((conv=>whnf);rw[show decide (Int.ofNat 40 < Int.ofNat d+Int.ofNat 1)=false from fV (b:=d+1) hd];trace "FALLBACK")
 exact c
theorem sx (c:K .none (some (PS toks a d))):ab (n+1) 871 [.hole] (some (0,PS toks a (d+1))) K:=by
 refine aa rfl rfl ?_
 refine⟨trivial,⟨rfl,aw rfl⟩,?_⟩
 first|refine ar (show Int.ofNat (d+1) - Int.ofNat 1=Int.ofNat d from by show((d+1:Nat):Int) - 1=(d:Int);lia) ?_|refine av (show Int.ofNat (d+1) - Int.ofNat 1=Int.ofNat d from by show((d+1:Nat):Int) - 1=(d:Int);lia) ?_|((conv=>whnf);rw[show Int.ofNat (d+1) - Int.ofNat 1=Int.ofNat d from by show((d+1:Nat):Int) - 1=(d:Int);lia];trace "FALLBACK")
 exact c
end
abbrev T:=List Nat
inductive aZ {α β:Type} (R:α→β→Prop):List α→List β→Prop
 |nil:aZ R [] []
 |cons {a b l m}:R a b→aZ R l m→aZ R (a::l) (b::m)
structure LX where
 sp:Nat
 k:Nat
 w:T
 raw:T
abbrev fresh (sp:Nat):Bool:=Nat.blt 1 sp
noncomputable abbrev sg (sp:Nat) (c:T):LX:=⟨sp,5,c,c⟩
noncomputable abbrev nm (sp:Nat) (x:T):LX:=⟨sp,1,x,x⟩
noncomputable abbrev kw (sp:Nat) (x:T):LX:=⟨sp,2,x,x⟩
noncomputable def TR:List LX→List V→List V→Prop
 |[],l,r=>l=r
 |t::ts,l,r=>∃a e m,l=aC t.k t.w a e (.bool (fresh t.sp))::m∧TR ts m r
theorem mz {x y:List LX} {l r:List V}:TR (x++y) l r↔∃m,TR x l m∧TR y m r:=by
 induction x generalizing l with
 |nil=>exact⟨fun h=>⟨l,rfl,h⟩,fun h=>by obtain⟨m,h1,h2⟩:=h;cases h1;exact h2⟩
 |cons t ts ih=>
  constructor
  ·rintro⟨a,e,m,rfl,h⟩
   obtain⟨m',h1,h2⟩:=ih.mp h
   exact⟨m',⟨a,e,m,rfl,h1⟩,h2⟩
  ·rintro⟨m',⟨a,e,m,rfl,h1⟩,h2⟩
   exact⟨a,e,m,rfl,ih.mpr ⟨m',h1,h2⟩⟩
noncomputable abbrev eo:Nat:=4194304
noncomputable abbrev oL:Nat:=8388608
noncomputable abbrev gw:Nat:=134217728
noncomputable abbrev M8:Nat:=268435456
noncomputable abbrev wi:Nat:=536870912
noncomputable abbrev sI:Nat:=2097152
noncomputable abbrev fl (b:Bool) (n:Nat):Nat:=cond b n 0
structure eX where
 o:T
 i:T
 ty:Bool
structure Tp where
 nm:T
 ext:Option T
 dfl:Option T
 inn:Bool
 out:Bool
structure Rf where
 hd:T
 tl:Option T
 args:List T
structure Dc where
 nm:T
 ty:Option T
 val:Option T
 bang:Bool
structure Mb where
 w:T
 raw:T
 val:Option T
set_option genCtorIdx true in
inductive De where
 |enum (amb cst:Bool) (nm:T) (ms:List Mb)
 |alias (amb:Bool) (nm:T) (tps:List Tp) (ty:T)
 |iface (amb:Bool) (nm:T) (tps:List Tp) (bases:List Rf)
 |var (amb:Bool) (word:T) (ds:List Dc)
inductive Sm where
 |imp (w raw:T) (ns:List eX) (only:Bool)
 |de (x:Bool) (d:De)
theorem TR.elim {t:LX} {ts:List LX} {r:List V} {motive:(l:List V)→TR (t::ts) l r→Prop} (mk:∀a e m (h:TR ts m r),motive (aC t.k t.w a e (.bool (fresh t.sp))::m) ⟨a,e,m,rfl,h⟩) {l:List V} (h:TR (t::ts) l r):motive l h:=by
 obtain⟨a,e,m,rfl,h⟩:=h
 exact mk a e m h
theorem dU {x y:List LX} {l r:List V} {P:Prop} (h:TR (x++y) l r) (k:∀m,TR x l m→TR y m r→P):P:=
 let ⟨m,a,b⟩:=mz.mp h
 k m a b
noncomputable def bx (x:T) (v:V):Prop:=∃a,v=ao 8 (.str x) [] 0 a
noncomputable def bV:Option T→V→Prop
 |none,v=>v=.none
 |some x,v=>bx x v
noncomputable def cE (x:eX) (v:V):Prop:=∃a,v=ao 69 (.tup [.str x.o,.str x.i]) [] (fl x.ty gw) a
noncomputable def jY (x:Tp) (v:V):Prop:=∃a e d,v=ao 100 (.str x.nm) [e,d] (fl x.inn M8+fl x.out wi) a∧bV x.ext e∧bV x.dfl d
noncomputable def eH:List Tp→V→Prop
 |[],v=>v=.none
 |x::r,v=>∃a l,v=ao 71 (.str []) l 0 a∧aZ jY (x::r) l
noncomputable def oM (hd:T):Option T→T
 |none=>hd
 |some y=>hd++[46]++y
noncomputable abbrev JX (x:Rf):T:=oM x.hd x.tl
noncomputable def fc (x:Rf) (v:V):Prop:=∃a l,v=ao 81 (.str (JX x)) l 0 a∧aZ bx x.args l
noncomputable def fP (x:Dc) (v:V):Prop:=∃a n t i,v=ao 42 (.str []) [n,t,i] (fl x.bang sI) a∧bx x.nm n∧bV x.ty t∧bV x.val i
noncomputable def hH (x:Mb) (v:V):Prop:=∃a i,v=ao 67 (.str x.w) [i] 0 a∧bV x.val i
noncomputable def cZ:De→V→Prop
 |.enum amb cst n ms,v=>∃a l,v=ao 66 (.str n) l (fl amb eo+fl cst oL) a∧aZ hH ms l
 |.alias amb n tps ty,v=>∃a t y,v=ao 65 (.str n) [t,y] (fl amb eo) a∧eH tps t∧bx ty y
 |.iface amb n tps bs,v=>∃a t b b' l a',v=ao 64 (.str n) [t,ao 71 (.str []) l 0 b,ao 59 (.str []) [] 0 b'] (fl amb eo) a∧eH tps t∧aZ fc bs l∧a'=a
 |.var amb wd ds,v=>∃a l,v=ao 41 (.str wd) l (fl amb eo) a∧aZ fP ds l
noncomputable def eY:Sm→V→Prop
 |.imp w _ ns only,v=>∃a l,v=ao 68 (.str w) l (fl only gw) a∧aZ cE ns l
 |.de false d,v=>cZ d v
 |.de true d,v=>∃a y,v=ao 70 (.str []) [y] 0 a∧cZ d y
noncomputable def lD (ss:List Sm) (v:V):Prop:=∃a l,v=ao 40 (.str []) l 0 a∧aZ eY ss l
theorem ak {x y:List Nat} {a b:Nat} (h:x.length≤a) (k:y.length≤b):(x++y).length≤a+b:=by rw[List.length_append];exact Nat.add_le_add h k
theorem aj {k n m:Nat} (h:k≤n) (e:Nat.blt n m=true):k < m:=Nat.lt_of_le_of_lt h (Nat.le_of_ble_eq_true e)
theorem ag {k n m:Nat} (h:k≤n) (e:Nat.ble n m=true):k≤m:=Nat.le_trans h (Nat.le_of_ble_eq_true e)
theorem Mz {k n m:Nat} (h:k < n) (e:Nat.ble n m=true):k < m:=Nat.lt_of_lt_of_le h (Nat.le_of_ble_eq_true e)
theorem eJ {k n m:Nat} (h:k < n) (e:Nat.ble n (m+1)=true):k≤m:=Nat.le_of_lt_succ (Nat.lt_of_lt_of_le h (Nat.le_of_ble_eq_true e))
theorem fT {k a n m:Nat} (h:k=a) (g:a≤n) (e:Nat.blt n m=true):k < m:=h▸aj g e
theorem P8 {k a n m:Nat} (h:k=a) (g:a≤n) (e:Nat.ble n m=true):k≤m:=h▸ag g e
theorem c7 {k g:Nat} (h:k < g):0 < g:=Nat.lt_of_le_of_lt (Nat.zero_le _) h
theorem LK {a b c:Nat} (h:a+(b+1) < c):a+1+b < c:=by rw[Nat.add_assoc,Nat.add_comm 1];exact h
theorem kH {a b c:Nat} (h:a+(b+1)≤c):a+1+b≤c:=by rw[Nat.add_assoc,Nat.add_comm 1];exact h
theorem Qv {a b:Nat}:a+1+b=a+(b+1):=by rw[Nat.add_assoc,Nat.add_comm 1]
theorem vr {a b c:Nat} (h:a+(b+1)≤c):a < c:=Nat.lt_of_lt_of_le (Nat.lt_add_of_pos_right (Nat.succ_pos b)) h
theorem RU {a b c:Nat} (h:a+(b+1) < c):a < c:=Nat.lt_of_le_of_lt (Nat.le_add_right a (b+1)) h
theorem gC {k g:Nat} (h:k+1 < g):k < g - 1:=Nat.lt_sub_of_add_lt h
theorem bX {k m:Nat} (h:k+1 < m):k < m:=Nat.lt_of_succ_lt h
noncomputable abbrev cA:T:=[105,109,112,111,114,116]
noncomputable abbrev dZ:T:=[101,120,112,111,114,116]
noncomputable abbrev dj:T:=[101,110,117,109]
noncomputable abbrev bj:T:=[99,111,110,115,116]
noncomputable abbrev mS:T:=[118,97,114]
noncomputable abbrev uD:T:=[105,110]
noncomputable abbrev bP:T:=[101,120,116,101,110,100,115]
noncomputable abbrev yE:T:=[110,101,119]
noncomputable abbrev n8:T:=[108,101,116]
noncomputable abbrev bS:T:=[116,121,112,101]
noncomputable abbrev cV:T:=[105,110,116,101,114,102,97,99,101]
noncomputable abbrev dN:T:=[100,101,99,108,97,114,101]
noncomputable abbrev oT:T:=[97,115]
noncomputable abbrev eE:T:=[102,114,111,109]
noncomputable abbrev HG:T:=[111,102]
noncomputable abbrev lg:T:=[111,117,116]
noncomputable abbrev wF:T:=[102]
noncomputable abbrev QE:T:=[36,95]
noncomputable def names:List T:=[wF,HG,bS,dN,oT,eE,QE]
noncomputable def eG:List (T×T):=[([97],[97]),(uD,uD),([97,45,98],[34,97,45,98,34]),([],[34,34]),([113,34,92,10,2],[34,113,92,34,92,92,92,110,92,120,48,50,34]),(yE,yE)]
theorem cP {motive:(w raw:T)→(w,raw)∈L.eG→Prop} (a:∀h,motive [97] [97] h) (b:∀h,motive uD uD h) (c:∀h,motive [97,45,98] [34,97,45,98,34] h) (d:∀h,motive [] [34,34] h)
  (e:∀h,motive [113,34,92,10,2] [34,113,92,34,92,92,92,110,92,120,48,50,34] h) (f:∀h,motive yE yE h) {w raw:T} (h:(w,raw)∈L.eG):motive w raw h:=by
 have h':=h
 rcases List.mem_cons.mp h' with q|h'
 ·cases q;exact a h
 rcases List.mem_cons.mp h' with q|h'
 ·cases q;exact b h
 rcases List.mem_cons.mp h' with q|h'
 ·cases q;exact c h
 rcases List.mem_cons.mp h' with q|h'
 ·cases q;exact d h
 rcases List.mem_cons.mp h' with q|h'
 ·cases q;exact e h
 rcases List.mem_cons.mp h' with q|h'
 ·cases q;exact f h
 cases h'
noncomputable def bk:T→T
 |[]=>[34,34]
 |c::r=>cond (Nat.beq c 34) (c::r) (34::(c::r)++[34])
noncomputable def AB:List T:=[cA,dZ,dj,bj,mS,uD,bP,yE]
noncomputable def kindOf (x:T):Nat:=cond (AB.any (aW x)) 2 1
noncomputable def cU (s:LX) (f:α→List LX):List α→List LX
 |[]=>[]
 |[x]=>f x
 |x::y::r=>f x++s::cU s f (y::r)
noncomputable def bF (c:LX):Option T→List LX
 |none=>[]
 |some x=>[c,nm 1 x]
noncomputable def cb (x:eX):List LX:=(cond x.ty [nm 1 bS] [])++nm 1 x.o::cond (aW x.o x.i) [] [nm 1 oT,nm 1 x.i]
noncomputable def dI (full:Bool):List LX:=cond full [sg 0 [59]] []
noncomputable def jA (sp:Nat) (x:Tp):List LX:=(match x.inn,x.out with
 |true,true=>[kw sp uD,nm 1 lg,nm 1 x.nm]
 |true,false=>[kw sp uD,nm 1 x.nm]
 |false,true=>[nm sp lg,nm 1 x.nm]
 |false,false=>[nm sp x.nm])++(bF (kw 1 bP) x.ext++bF (sg 1 [61]) x.dfl)
noncomputable def c8 (f:α→List LX):List α→List LX
 |[]=>[]
 |x::r=>sg 0 [44]::f x++c8 f r
noncomputable def bU:List Tp→List LX
 |[]=>[]
 |x::r=>sg 0 [60]::jA 0 x++c8 (jA 1) r++[sg 0 [62]]
noncomputable def ir:List T→List LX
 |[]=>[]
 |x::r=>sg 0 [60]::nm 0 x::c8 (fun y=>[nm 1 y]) r++[sg 0 [62]]
noncomputable def tZ:Option T→List LX
 |none=>[]
 |some y=>[sg 0 [46],⟨0,kindOf y,y,y⟩]
noncomputable def mU (x:Rf):List LX:=(nm 1 x.hd::tZ x.tl)++ir x.args
noncomputable def cJ:List Rf→List LX
 |[]=>[]
 |x::r=>kw 1 bP::mU x++c8 mU r
noncomputable def qg (x:Dc):List LX:=nm 1 x.nm::cond x.bang [sg 0 [33]] []++(bF (sg 0 [58]) x.ty++bF (sg 1 [61]) x.val)
noncomputable def kq (raw:T):Nat:=match raw with
 |[]=>4
 |c::_=>cond (Nat.beq c 34) 4 (kindOf raw)
noncomputable def fq (x:Mb):List LX:=⟨3,kq x.raw,x.w,x.raw⟩::bF (sg 1 [61]) x.val
noncomputable def bg (full:Bool) (f:α→List LX):List α→List LX
 |[]=>[]
 |[x]=>f x++cond full [sg 0 [44]] []
 |x::y::r=>f x++sg 0 [44]::bg full f (y::r)
noncomputable def iw:List Dc→List LX
 |[]=>[]
 |x::r=>qg x++c8 qg r
noncomputable def bK (full:Bool) (sp:Nat):De→List LX
 |.enum _ cst n ms=>(cond cst [kw sp bj,kw 1 dj] [kw sp dj])++nm 1 n::sg 1 [123]::bg full fq ms++[sg (cond ms.isEmpty 0 2) [125]]
 |.alias _ n tps ty=>nm sp bS::nm 1 n::bU tps++sg 1 [61]::nm 1 ty::dI full
 |.iface _ n tps bs=>nm sp cV::nm 1 n::bU tps++cJ bs++[sg 1 [123],sg 0 [125]]
 |.var _ wd ds=>⟨sp,kindOf wd,wd,wd⟩::iw ds++dI full
noncomputable def fv:De→Bool
 |.enum a _ _ _=>a
 |.alias a _ _ _=>a
 |.iface a _ _ _=>a
 |.var a _ _=>a
noncomputable def du (full:Bool) (sp:Nat) (d:De):List LX:=cond (fv d) (nm sp dN::bK full 1 d) (bK full sp d)
noncomputable def gY (full:Bool) (sp:Nat):Sm→List LX
 |.imp w raw [] only=>kw sp cA::(cond only [sg 1 [123],sg 0 [125],nm 1 eE] [])++⟨1,4,w,bk raw⟩::dI full
 |.imp w raw (x::r) _=>kw sp cA::sg 1 [123]::bg false cb (x::r)++[sg 1 [125],nm 1 eE,⟨1,4,w,bk raw⟩]++dI full
 |.de false d=>du full sp d
 |.de true d=>kw sp dZ::du full 1 d
noncomputable def Cv:Option T→Prop
 |none=>True
 |some x=>x∈names
noncomputable def eS (x:eX):Prop:=x.o∈[bS,oT,[97],eE]∧(x.i∈[oT,bS,[98]]∨x.i=x.o)
noncomputable def eU (x:Tp):Prop:=x.nm∈[[84],lg,[85]]∧Cv x.ext∧Cv x.dfl
noncomputable def fR (x:Rf):Prop:=(x.hd,x.tl)∈[([65],none),([69],some uD),(HG,none),(bS,some oT)]∧(∀y∈x.args,y∈names)∧x.args.length≤2
noncomputable def jl (x:Mb):Prop:=(x.w,x.raw)∈eG∧Cv x.val
noncomputable def jQ (amb cst:Bool) (x:Dc):Prop:=x.nm∈names∧Cv x.ty∧Cv x.val∧
 (x.bang=true→x.ty≠none∧x.val=none∧amb=false)∧(amb=true→x.val≠none→cst=true∧x.ty=none)∧(amb=false→cst=true→x.val≠none)
noncomputable def cf:De→Prop
 |.enum _ _ n ms=>n∈names∧ms.length≤3∧∀x∈ms,jl x
 |.alias _ n tps ty=>n∈names∧ty∈names∧tps.length≤2∧∀x∈tps,eU x
 |.iface _ n tps bs=>n∈names∧tps.length≤2∧(∀x∈tps,eU x)∧bs.length≤2∧∀x∈bs,fR x
 |.var amb wd ds=>wd∈[n8,bj,mS]∧ds≠[]∧ds.length≤2∧∀x∈ds,jQ amb (aW wd bj) x
noncomputable def cR:Sm→Prop
 |.imp w raw ns only=>(w,raw)∈eG∧ns.length≤3∧(∀x∈ns,eS x)∧(only=true→ns=[])
 |.de _ d=>cf d
theorem P5 {a b:Nat} (h:a≠b):decide (Int.ofNat a=Int.ofNat b)=false:=decide_eq_false fun q=>h (Int.ofNat.inj q)
section
variable {n k k' f m a d j:Nat} {t t' s:List Nat} {ta te fr at_ v w:V} {kids toks l r:List V} {K:KT} {b:Bool}
theorem rO (h:At toks a (aC 1 t ta te fr::r)) (c:∀v a',bx t v→At toks a' r→K v (some (PS toks a' d))):ab (n+3) 1451 [.inst 1454 [],.hole] (some (1,PS toks a d)) K:=by
 refine aa rfl rfl ?_
 refine aJ h ?_
 refine cg h fun h'=>?_
 refine tB ?_
 exact c _ _ ⟨_,rfl⟩ h'
theorem eg (j:Nat) (hj:j=1∨j=2∨j=10) (hd:d+1 < 40) (h:At toks a (aC 1 t ta te fr::r)) (c:∀v a',bx t v→At toks a' r→K v (some (PS toks a' (d+1)))):ab (n+4) 878 [.hole,In j] (some (0,PS toks a (d+1))) K:=by
 rcases hj with rfl|rfl|rfl
 all_goals
  refine aa rfl rfl ?_
  refine kS hd ?_
  refine rO h fun v a' hv h'=>?_
  refine sx ?_
  exact c v a' hv h'
noncomputable def B1 (l r:List V):Prop:=(∃a e fr,l=aC 5 [59] a e fr::r)∨(l=r∧∃k t a e m,r=aC k t a e (.bool true)::m∧decide (Int.ofNat k=Int.ofNat 5)=false)
theorem qV (h:At toks a l) (e:B1 l r) (c:∀a',At toks a' r→K .none (some (PS toks a' d))):ab (n+4) 857 [.hole] (some (0,PS toks a d)) K:=by
 rcases e with ⟨_,_,_,rfl⟩|⟨rfl,k,t,_,_,m,rfl,hk⟩
 ·refine aa rfl rfl ?_
  refine b7 h rfl fun h'=>?_
  exact c _ h'
 ·refine aa rfl rfl ?_
  refine cB h (by show cond _ _ false=false;rw[hk];rfl) ?_
  refine aa rfl rfl ?_
  refine aJ h ?_
  conv=>whnf
  cases decide (Int.ofNat k=Int.ofNat 0)
  ·exact c _ h
  ·exact c _ h
theorem oN (h:At toks a (aC 1 t ta te fr::r)) (c:At toks (a+1) r→K (.tup [.str t,ta]) (some (PS toks (a+1) d))):ab (n+3) 1202 [.hole] (some (0,PS toks a d)) K:=by
 refine aa rfl rfl ?_
 refine aJ h ?_
 refine cg h fun h'=>?_
 exact c h'
inductive p7 (t:T):Prop
 |mk (h1:(aW [97,110,121] t||(aW [117,110,107,110,111,119,110] t||(aW [110,101,118,101,114] t||(aW [117,110,100,101,102,105,110,101,100] t||(aW [115,116,114,105,110,103] t||(aW [110,117,109,98,101,114] t||(aW [98,111,111,108,101,97,110] t||(aW [111,98,106,101,99,116] t||false))))))))=false) (h2:aW t [115,121,109,98,111,108]=false) (h3:aW t [98,105,103,105,110,116]=false)
theorem fA (p:p7 t) (h:At toks a (aC 1 t ta te fr::r)) (c:At toks (a+1) r→K (.tup [.str t,ta]) (some (PS toks (a+1) d))):ab (n+4) 1209 [.hole,v] (some (0,PS toks a d)) K:=by
 obtain⟨h1,h2,h3⟩:=p
 refine aa rfl rfl ?_
 refine oN h fun h'=>?_
 first|refine ar (h1) ?_|refine av (h1) ?_|((conv=>whnf);rw[h1];trace "FALLBACK")
 first|refine ar (h2) ?_|refine av (h2) ?_|((conv=>whnf);rw[h2];trace "FALLBACK")
 first|refine ar (h3) ?_|refine av (h3) ?_|((conv=>whnf);rw[h3];trace "FALLBACK")
 exact c h'
theorem ph (p:p7 t) (h:At toks a (aC 1 t ta te fr::r)) (c:At toks (a+1) r→K (.str t) (some (PS toks (a+1) d))):ab (n+3) 1186 [.hole] (some (0,PS toks a d)) K:=by
 obtain⟨h1,h2,h3⟩:=p
 refine aa rfl rfl ?_
 refine aJ h ?_
 refine cg h fun h'=>?_
 first|refine ar (h1) ?_|refine av (h1) ?_|((conv=>whnf);rw[h1];trace "FALLBACK")
 first|refine ar (h2) ?_|refine av (h2) ?_|((conv=>whnf);rw[h2];trace "FALLBACK")
 first|refine ar (h3) ?_|refine av (h3) ?_|((conv=>whnf);rw[h3];trace "FALLBACK")
 exact c h'
theorem ud (hk:k=1∨k=2) (h:At toks a (aC k t ta te fr::r)) (c:At toks (a+1) r→K (.str t) (some (PS toks (a+1) d))):ab (n+3) 829 [.hole] (some (0,PS toks a d)) K:=by
 refine aa rfl rfl ?_
 rcases hk with rfl|rfl
 ·refine aa rfl rfl ?_
  refine aJ h ?_
  refine bp h rfl fun h'=>?_
  exact c h'
 ·refine aa rfl rfl ?_
  refine aJ h ?_
  refine aJ h ?_
  refine bp h rfl fun h'=>?_
  exact c h'
theorem BJ (hk:k=1∨k=2∨k=4) (h:At toks a (aC k t ta te fr::r)) (c:At toks (a+1) r→K (.str t) (some (PS toks (a+1) d))):ab (n+4) 822 [.hole] (some (0,PS toks a d)) K:=by
 refine aa rfl rfl ?_
 refine aa rfl rfl ?_
 refine aJ h ?_
 rcases hk with rfl|rfl|rfl
 ·refine aa rfl rfl ?_
  refine bp h rfl fun h'=>?_
  exact c h'
 ·refine aa rfl rfl ?_
  refine bp h rfl fun h'=>?_
  exact c h'
 ·refine aa rfl rfl ?_
  refine bp h rfl fun h'=>?_
  exact c h'
theorem qq (h:At toks a (aC 5 [62] ta te fr::r)) (c:At toks (a+1) r→K .none (some (PS toks (a+1) d))):ab (n+4) 976 [.hole] (some (0,PS toks a d)) K:=by
 refine aa rfl rfl ?_
 refine aJ h ?_
 refine bE false rfl ?_
 refine bO h rfl fun h'=>?_
 exact c h'
theorem d5 (hd:d+1 < 40) (h:At toks a (aC 1 t ta te fr::r)) (c:∀v a',bx t v→At toks a' r→K v (some (PS toks a' (d+1)))):ab (n+5) 1172 [.hole,.bool false] (some (0,PS toks a (d+1))) K:=by
 refine aa rfl rfl ?_
 refine⟨⟨rfl,aw rfl⟩,?_⟩
 refine eg (d:=d) 1 (.inl rfl) hd h fun v a' hv h'=>?_
 refine⟨⟨rfl,aw rfl⟩,?_⟩
 exact c v a' hv h'
end
noncomputable def az:Nat→S→S
 |0,s=>s
 |n+1,s=>match s with
  |.cons _ l=>az n l
  |_=>s
theorem At.cast {toks l r:List V} {a:Nat} (h:At toks a l) (t:TR [] l r):At toks a r:=(show l=r from t)▸h
theorem p8 {p:MO} {st:St} {m:MO} (h:st[0]?=some (.inh m)):bm (some (0,p)) st=some m:=by
 show(match st[0]? with|some (.inh m)=>some m|_=>none)=_
 rw[h]
theorem aK {C:St→(Bool→St→Prop)→Prop} {B:St→(Fl→St→Prop)→Prop} {g:Nat} {st:St} {K:Fl→St→Prop} (hg:0 < g)
  (h:C st (CW B (cY C B (g - 1)) K)):cY C B g st K:=by
 cases g with
 |zero=>cases hg
 |succ g=>exact h
section
variable {α:Type} {item:α→V→Prop} {f:α→List LX} {C:St→(Bool→St→Prop)→Prop} {B:St→(Fl→St→Prop)→Prop} {mk:Nat→List V→St} {toks:List V} {Fol:List V→Prop} {P:α→Prop} {r:List V}
set_option tactic.hygienic true in
theorem gI
  (hFol:∀{l ta te fr},Fol (aC 5 [44] ta te fr::l))
  (hC1:∀{x a l m rows ta te fr K},P x→At toks a (aC 5 [44] ta te fr::l)→TR (f x) l m→(∀b,At toks b l→K true (mk b rows))→C (mk a rows) K)
  (hC0:∀{a rows K},At toks a r→K false (mk a rows)→C (mk a rows) K)
  (hB:∀{x a l m rows K},P x→At toks a l→TR (f x) l m→Fol m→rows.length < bA→(∀v a',item x v→At toks a' m→K .nxt (mk a' (rows++[v])))→B (mk a rows) K)
  (hr:Fol r):∀{xs:List α} {g a:Nat} {l rows:List V} {K:Fl→St→Prop},(∀x∈xs,P x)→xs.length < g→rows.length+xs.length≤bA→At toks a l→TR (c8 f xs) l r→
   (∀vs a',aZ item xs vs→At toks a' r→K .nxt (mk a' (rows++vs)))→cY C B g (mk a rows) K:=by
 intro xs
 induction xs with
 |nil=>
  intro g a l rows K _ hg _ h t c
  first|replace h:=h.cast t|cases t
  refine aK (by simpa using hg) (hC0 h ?_)
  have:=c [] a .nil h
  rwa [List.append_nil] at this
 |cons x xs ih=>
  intro g a l rows K hp hg hz h t c
  (induction t using TR.elim;rename_i ta te m t)
  refine dU t fun m' t1 t2=>?_
  rw[List.length_cons] at hg hz
  have hF:Fol m':=by
   cases xs with
   |nil=>cases t2;exact hr
   |cons y ys=>(induction t2 using TR.elim);exact hFol
  refine aK (by exact c7 ‹_›) (hC1 (hp x (List.mem_cons_self ..)) h t1 fun b h'=>?_)
  refine hB (hp x (List.mem_cons_self ..)) h' t1 hF (by exact vr ‹_›) fun v a' iv h''=>?_
  refine ih (fun y hy=>hp y (List.mem_cons_of_mem _ hy)) (by exact gC ‹_›) (by rw[List.length_append];show rows.length+1+xs.length≤bA;exact kH ‹_›) h'' t2 fun vs a'' A h3=>?_
  have:=c (v::vs) a'' (.cons iv A) h3
  rw[List.append_assoc]
  exact this
end
section
variable {n k k' f m a d j:Nat} {t t' s:List Nat} {ta te fr at_ v w:V} {kids toks l r:List V} {K:KT} {b:Bool}
theorem gy {x:T} (h:x∈names):p7 x:=by
 rcases List.mem_cons.mp h with rfl|h
 ·exact⟨rfl,rfl,rfl⟩
 rcases List.mem_cons.mp h with rfl|h
 ·exact⟨rfl,rfl,rfl⟩
 rcases List.mem_cons.mp h with rfl|h
 ·exact⟨rfl,rfl,rfl⟩
 rcases List.mem_cons.mp h with rfl|h
 ·exact⟨rfl,rfl,rfl⟩
 rcases List.mem_cons.mp h with rfl|h
 ·exact⟨rfl,rfl,rfl⟩
 rcases List.mem_cons.mp h with rfl|h
 ·exact⟨rfl,rfl,rfl⟩
 rcases List.mem_cons.mp h with rfl|h
 ·exact⟨rfl,rfl,rfl⟩
 cases h
noncomputable def u9 (r:List V):Prop:=∃s a e fr m,r=aC 5 s a e fr::m∧(s=[44]∨s=[62])
set_option tactic.hygienic true in
theorem gB {x:T} {e g:Option T} {F sp:Nat} {st:St} {K:Fl→St→Prop} (hd:d+1 < 40) (p:p7 x) (hst:st=[.inh (PS toks a (d+1)),.v (In F),.un,.un,.un,.un]) (h:At toks a l)
  (ht:TR (nm sp x::(bF (kw 1 bP) e++bF (sg 1 [61]) g)) l r) (hr:u9 r)
  (c:∀v a' st' i y z,v=ao 100 (.str x) [y,z] F i→bV e y→bV g z→st'[0]?=some (.inh (PS toks a' (d+1)))→At toks a' r→K (.ret v) st'):
  aq TT (ab (n+5)) GG (az 4 dG.body) st K:=by
 subst hst
 (induction ht using TR.elim;rename_i ta te l ht)
 refine dU ht fun l2 t1 t2=>?_
 refine bc fun G=>?_;obtain⟨s,_,_,_,mr,rfl,hs⟩:=hr
 refine G ?_;clear G;refine aJ h ?_
 refine ph p h fun h=>?_
 have key:∀y a',bV e y→At toks a' l2→aq TT (ab (n+5)) GG (az 9 dG.body) [.inh (PS toks a' (d+1)),.v (In F),.v ta,.v (.str x),.v y,.v .none] K:=fun y a' hy h=>by
  cases g with
  |none=>
   cases t2
   refine cB h (by rcases hs with rfl|rfl<;>rfl) ?_
   refine aE ?_
   exact c _ _ _ _ _ _ rfl hy rfl rfl h
  |some z=>
   (induction t2 using TR.elim;rename_i _ _ l3 tr4;induction tr4 using TR.elim;rename_i ta te l3 t2)
   cases t2
   refine b7 h rfl fun h=>?_
   refine d5 hd h fun v a' hv h=>?_
   refine aE ?_
   exact c _ _ _ _ _ _ rfl hy hv rfl h
 cases e with
 |none=>
  cases t1
  have hn:∃s ta te fr m,l=aC 5 s ta te fr::m:=by
   cases g with
   |none=>cases t2;exact⟨_,_,_,_,_,rfl⟩
   |some z=>(induction t2 using TR.elim;rename_i _ _ l3 _);exact⟨_,_,_,_,_,rfl⟩
  refine bc fun G=>?_;obtain⟨_,_,_,_,_,rfl⟩:=hn
  refine G ?_;clear G;refine oy h rfl ?_
  exact key _ _ rfl h
 |some y=>
  refine bc fun G=>?_;obtain⟨_,_,l3,rfl,ta,te,l3,rfl,t1⟩:=t1
  refine G ?_;clear G;first|replace h:=h.cast t1|cases t1
  refine mu h rfl fun h=>?_
  refine d5 hd h fun v a' hv h=>?_
  exact key _ _ hv h
theorem Ar {e g:Option T} (ht:TR (bF (kw 1 bP) e++bF (sg 1 [61]) g) l r) (hr:u9 r):∃k s ta te fr m,l=aC k s ta te fr::m∧decide (Int.ofNat k=Int.ofNat 1)=false:=by
 cases e with
 |some y=>(induction ht using TR.elim);exact⟨_,_,_,_,_,_,rfl,rfl⟩
 |none=>
  cases g with
  |some y=>(induction ht using TR.elim);exact⟨_,_,_,_,_,_,rfl,rfl⟩
  |none=>
   first|replace h:=h.cast ht|cases ht
   refine bc fun G=>?_;obtain⟨_,_,_,_,_,rfl,_⟩:=hr
   refine G ?_;clear G;exact⟨_,_,_,_,_,_,rfl,rfl⟩
theorem lw {x:T} (h:x∈[[84],lg,[85]]):p7 x:=by
 rcases List.mem_cons.mp h with rfl|h
 ·exact⟨rfl,rfl,rfl⟩
 rcases List.mem_cons.mp h with rfl|h
 ·exact⟨rfl,rfl,rfl⟩
 rcases List.mem_cons.mp h with rfl|h
 ·exact⟨rfl,rfl,rfl⟩
 cases h
set_option tactic.hygienic true in
theorem lF {x:Tp} {F sp:Nat} {st:St} {K:Fl→St→Prop} (hx:eU x) (hd:d+1 < 40) (hst:st=[.inh (PS toks a (d+1)),.v (In F),.un,.un,.un,.un]) (h:At toks a l)
  (ht:TR (cond x.out [nm sp lg,nm 1 x.nm] [nm sp x.nm]++(bF (kw 1 bP) x.ext++bF (sg 1 [61]) x.dfl)) l r) (hr:u9 r)
  (c:∀v a' st' i y z,v=ao 100 (.str x.nm) [y,z] (F+fl x.out wi) i→bV x.ext y→bV x.dfl z→st'[0]?=some (.inh (PS toks a' (d+1)))→At toks a' r→K (.ret v) st'):
  aq TT (ab (n+5)) GG (az 3 dG.body) st K:=by
 subst hst
 refine bc fun G=>?_;obtain⟨x,e,g,inn,out⟩:=x
 refine G ?_;clear G;cases out with
 |true=>
  (induction ht using TR.elim;rename_i _ _ _ t1)
  have t2:=t1
  (induction t2 using TR.elim)
  refine aS true h rfl ?_
  refine au h (j:=1) rfl ?_
  refine bp h rfl fun h=>?_
  refine⟨trivial,?_⟩
  exact gB (sp:=1) hd (lw hx.1) rfl h t1 hr c
 |false=>
  have t2:=ht
  (induction t2 using TR.elim;rename_i _ _ l2 t2)
  refine bc fun G=>?_;obtain⟨k,s,_,_,_,m,rfl,hk⟩:=Ar t2 hr
  refine G ?_;clear G;refine aS (aW x lg) h rfl ?_
  cases aW x lg with
  |true=>
   refine au h (j:=1) rfl ?_
   first|refine ar (hk) ?_|refine av (hk) ?_|((conv=>whnf);rw[hk];trace "FALLBACK")
   exact gB (sp:=sp) hd (lw hx.1) rfl h ht hr c
  |false=>exact gB (sp:=sp) hd (lw hx.1) rfl h ht hr c
set_option tactic.hygienic true in
theorem nw {x:Tp} {sp:Nat} (hx:eU x) (hd:d+1 < 40) (h:At toks a l) (ht:TR (jA sp x) l r) (hr:u9 r)
  (c:∀v a',jY x v→At toks a' r→K v (some (PS toks a' (d+1)))):ab (n+6) 1489 [.hole] (some (0,PS toks a (d+1))) K:=by
 refine aa rfl rfl ?_
 have fin:∀v a' (st':St) i y z,v=ao 100 (.str x.nm) [y,z] (fl x.inn M8+fl x.out wi) i→bV x.ext y→bV x.dfl z→st'[0]?=some (.inh (PS toks a' (d+1)))→At toks a' r→K v (bm (some (0,PS toks a (d+1))) st'):=
  fun v a' st' i y z e hy hz h0 h=>by rw[p8 h0];exact c v a' ⟨_,_,_,e,hy,hz⟩ h
 refine bc fun G=>?_;obtain⟨x,e,g,inn,out⟩:=x
 refine G ?_;clear G;cases inn with
 |true=>
  have ht:TR (kw sp uD::(cond out [nm 1 lg,nm 1 x] [nm 1 x]++(bF (kw 1 bP) e++bF (sg 1 [61]) g))) l r:=by cases out<;>exact ht
  (induction ht using TR.elim;rename_i _ _ _ t1)
  refine ai false h rfl ?_
  refine mu h rfl fun h=>?_
  exact lF (sp:=1) hx hd rfl h t1 hr fin
 |false=>
  have ht:TR (cond out [nm sp lg,nm 1 x] [nm sp x]++(bF (kw 1 bP) e++bF (sg 1 [61]) g)) l r:=by cases out<;>exact ht
  have hh:∃s ta te fr m,l=aC 1 s ta te fr::m:=by
   cases out<;>((induction ht using TR.elim);exact⟨_,_,_,_,_,rfl⟩)
  refine bc fun G=>?_;obtain⟨_,_,_,_,_,rfl⟩:=hh
  refine G ?_;clear G;refine ai false h rfl ?_
  refine oy h rfl ?_
  exact lF (sp:=sp) (F:=0) hx hd rfl h ht hr (fun v a' st' i y z e=>fin v a' st' i y z (by rw[e];show _=ao 100 _ _ (0+_) _;rfl))
noncomputable def EV (r:List V):Prop:=∃k s a e fr m,r=aC k s a e fr::m∧oJ k s 5 [60]=false
theorem AJ {x:Tp} {sp:Nat} (ht:TR (jA sp x) l r):∃k s ta te fr m,l=aC k s ta te fr::m∧oJ k s 5 [62]=false∧oJ k s 5 [62,61]=false:=by
 obtain⟨x,e,g,inn,out⟩:=x
 cases inn<;>cases out<;>((induction ht using TR.elim);exact⟨_,_,_,_,_,_,rfl,rfl,rfl⟩)
set_option tactic.hygienic true in
theorem q6 {xs:List Tp} (hx:∀x∈xs,eU x) (hz:xs.length≤2) (hd:d+1 < 40) (h:At toks a l) (ht:TR (bU xs) l r) (hr:EV r)
  (c:∀v a',eH xs v→At toks a' r→K v (some (PS toks a' (d+1)))):ab (n+7) 1482 [.hole] (some (0,PS toks a (d+1))) K:=by
 refine aa rfl rfl ?_
 cases xs with
 |nil=>
  first|replace h:=h.cast ht|cases ht
  refine bc fun G=>?_;obtain⟨k,s,_,_,_,m,rfl,hk⟩:=hr
  refine G ?_;clear G;refine aJ h ?_
  refine cB h hk ?_
  exact c _ _ rfl h
 |cons x xs=>
  (induction ht using TR.elim;rename_i ta _ l ht)
  have ht:TR (jA 0 x++(c8 (jA 1) xs++[sg 0 [62]])) l r:=by rw[← List.append_assoc];exact ht
  refine dU ht fun l1 t1 t2=>?_
  refine dU t2 fun l2 t2 t3=>?_
  (induction t3 using TR.elim;rename_i _ _ _ t3)
  first|replace h:=h.cast t3|cases t3
  have hF:u9 l1:=by
   cases xs with
   |nil=>cases t2;exact⟨_,_,_,_,_,rfl,.inr rfl⟩
   |cons y ys=>(induction t2 using TR.elim);exact⟨_,_,_,_,_,rfl,.inl rfl⟩
  refine aJ h ?_
  refine b7 h rfl fun h=>?_
  refine nw (hx x (List.mem_cons_self ..)) hd h t1 hF fun v a' hv h=>?_
  refine gI (item:=jY) (P:=eU) (Fol:=u9) (mk:=fun a rows=>[.inh (PS toks a (d+1)),.v ta,.own (.list rows)]) (rows:=[v]) ⟨_,_,_,_,_,rfl,.inl rfl⟩ ?_ ?_ ?_ ⟨_,_,_,_,_,rfl,.inr rfl⟩ (fun y hy=>hx y (List.mem_cons_of_mem _ hy)) ?_ ?_ h t2 ?_
  ·intro x a l m rows ta' te fr K hx h t c
   refine bc fun G=>?_;obtain⟨k,s,_,_,_,_,rfl,e1,e2⟩:=AJ t
   refine G ?_;clear G;refine b7 h rfl fun h=>?_
   refine bD false h e1 ?_
   refine bD false h e2 ?_
   exact c _ h
  ·intro a rows K h c
   refine cB h rfl ?_
   exact c
  ·intro x a l m rows K hx h t hF hz c
   refine nw hx hd h t hF fun v a' hv h=>?_
   refine⟨hz,?_⟩
   exact c v a' hv h
  ·rw[iO]
   have:xs.length+1≤2:=hz
   exact ag ‹_› rfl
  ·show 1+xs.length≤bA
   have:xs.length+1≤2:=hz
   show _≤1000000
   lia
  ·intro vs a' A h
   refine qq h fun h=>?_
   refine dz ?_
   exact c _ _ ⟨_,_,rfl,.cons hv A⟩ h
theorem kl {k:Nat} (h:k < 1000):k < GG:=by rw[iO];exact ag ‹_› rfl
theorem ae {k:Nat} (h:k < 1000):k≤bA:=by show k≤1000000;exact eJ ‹_› rfl
set_option tactic.hygienic true in
theorem xT {x:T} {xs:List T} (hz:xs.length≤2) (hd:d+1 < 40) (h:At toks a l) (ht:TR (ir (x::xs)) l r)
  (c:∀vs a',aZ bx (x::xs) vs→At toks a' r→K (.list vs) (some (PS toks a' (d+1)))):ab (n+6) 1193 [.hole] (some (0,PS toks a (d+1))) K:=by
 refine aa rfl rfl ?_
 (induction ht using TR.elim;rename_i _ _ l tr1;induction tr1 using TR.elim;rename_i _ _ l ht)
 have ht:TR (c8 (fun y=>[nm 1 y]) xs++[sg 0 [62]]) l r:=ht
 refine dU ht fun l2 t2 t3=>?_
 (induction t3 using TR.elim;rename_i _ _ _ t3)
 first|replace h:=h.cast t3|cases t3
 refine bO h rfl fun h=>?_
 refine d5 hd h fun v a' hv h=>?_
 refine gI (item:=bx) (P:=fun ξ=>True) (Fol:=fun ξ=>True) (mk:=fun a rows=>[.inh (PS toks a (d+1)),.own (.list rows)]) (rows:=[v]) trivial ?_ ?_ ?_ trivial (fun ξ ξ=>trivial) (kl (by exact aj ‹_› rfl)) (ae (by show 1+_ < _;lia)) h t2 ?_
 ·intro x a l m rows ta' te fr K _ h t c
  refine b7 h rfl fun h=>?_
  exact c _ h
 ·intro a rows K h c
  refine cB h rfl ?_
  exact c
 ·intro x a l m rows K hx h t hF hz c
  (induction t using TR.elim;rename_i _ _ _ t)
  first|replace h:=h.cast t|cases t
  refine d5 hd h fun v a' hv h=>?_
  refine⟨hz,?_⟩
  exact c v a' hv h
 ·intro vs a' A h
  refine qq h fun h=>?_
  exact c _ _ (.cons hv A) h
noncomputable def Gy (r:List V):Prop:=∃s a e fr m,r=aC 5 s a e fr::m∧(s=[44]∨s=[123])
set_option tactic.hygienic true in
theorem m9 {x:T} {tl:Option T} (hz:x.length≤100) (hy:∀y,tl=some y→y.length≤100∧(kindOf y=1∨kindOf y=2))
  (h:At toks a l) (ht:TR (nm 1 x::tZ tl) l r) (hr:∃s a e fr m,r=aC 5 s a e fr::m∧aW s [46]=false)
  (c:∀a',At toks a' r→K (.str (oM x tl)) (some (PS toks a' d))):ab (n+4) 1179 [.hole] (some (0,PS toks a d)) K:=by
 refine aa rfl rfl ?_
 refine bc fun G=>?_;obtain⟨s,_,_,_,m,rfl,hs⟩:=hr
 refine G ?_;clear G;cases tl with
 |none=>
  (induction ht using TR.elim;rename_i _ _ _ ht)
  first|replace h:=h.cast ht|cases ht
  refine aJ h ?_
  refine cg h fun h=>?_
  refine aK (kl (by lia)) ?_
  refine cB h hs ?_
  exact c _ h
 |some y=>
  obtain⟨hy,hk⟩:=hy y rfl
  (induction ht using TR.elim;rename_i _ _ _ tr6;induction tr6 using TR.elim;rename_i _ _ _ tr7;induction tr7 using TR.elim;rename_i _ _ _ ht)
  first|replace h:=h.cast ht|cases ht
  refine aJ h ?_
  refine cg h fun h=>?_
  refine aK (kl (by lia)) ?_
  refine b7 h rfl fun h=>?_
  refine⟨ae (by rw[List.length_append];show x.length+1 < _;lia),?_⟩
  refine ud hk h fun h=>?_
  refine⟨ae (by rw[List.length_append,List.length_append];show x.length+1+y.length < _;lia),?_⟩
  refine⟨trivial,?_⟩
  refine aK (by rw[iO];lia) ?_
  refine cB h hs ?_
  exact c _ h
theorem IE {x:T} {tl:Option T} (hx:(x,tl)∈[([65],none),([69],some uD),(HG,none),(bS,some oT)]):x.length≤100∧∀y,tl=some y→y.length≤100∧(kindOf y=1∨kindOf y=2):=by
 rcases List.mem_cons.mp hx with e|hx
 ·cases e;exact⟨aw rfl,fun ξ e=>nn e⟩
 rcases List.mem_cons.mp hx with e|hx
 ·cases e;exact⟨aw rfl,fun ξ e=>by cases e;exact⟨aw rfl,.inr rfl⟩⟩
 rcases List.mem_cons.mp hx with e|hx
 ·cases e;exact⟨aw rfl,fun ξ e=>nn e⟩
 rcases List.mem_cons.mp hx with e|hx
 ·cases e;exact⟨aw rfl,fun ξ e=>by cases e;exact⟨aw rfl,.inl rfl⟩⟩
 cases hx
theorem sQ {x:Rf} (hx:fR x) (hd:d+1 < 40) (h:At toks a l) (ht:TR (mU x) l r) (hr:Gy r)
  (c:∀v a',fc x v→At toks a' r→K v (some (PS toks a' (d+1)))):ab (n+7) 1423 [.hole] (some (0,PS toks a (d+1))) K:=by
 refine aa rfl rfl ?_
 refine bc fun G=>?_;obtain⟨hd_,tl,args⟩:=x
 obtain⟨h1,_,h3⟩:=hx
 have ht:TR ((nm 1 hd_::tZ tl)++ir args) l r:=ht
 obtain⟨q1,q2⟩:=IE h1
 refine G ?_;clear G;refine dU ht fun l1 t1 t2=>?_
 have hh:∃ta te fr m,l=aC 1 hd_ ta te fr::m:=by(induction t1 using TR.elim);exact⟨_,_,_,_,rfl⟩
 refine bc fun G=>?_;obtain⟨ta,_,_,_,rfl⟩:=hh
 refine G ?_;clear G;refine aJ h ?_
 refine bc fun G=>?_;obtain⟨s,_,_,_,m,rfl,hs⟩:=hr
 refine G ?_;clear G;cases args with
 |nil=>
  first|replace h:=h.cast t2|cases t2
  refine m9 (n:=n+2) q1 q2 h t1 ⟨_,_,_,_,_,rfl,by rcases hs with rfl|rfl<;>rfl⟩ fun a' h=>?_
  refine bD false h (by rcases hs with rfl|rfl<;>rfl) ?_
  refine ca ?_
  exact c _ _ ⟨_,_,rfl,.nil⟩ h
 |cons y ys=>
  have hl:∃ta te fr m,l1=aC 5 [60] ta te fr::m:=by(induction t2 using TR.elim);exact⟨_,_,_,_,rfl⟩
  refine bc fun G=>?_;obtain⟨_,_,_,_,rfl⟩:=hl
  have h3:ys.length+1≤2:=h3
  refine G ?_;clear G;refine m9 (n:=n+2) q1 q2 h t1 ⟨_,_,_,_,_,rfl,rfl⟩ fun a' h=>?_
  refine bD true h rfl ?_
  refine xT (by exact eJ ‹_› rfl) hd h t2 fun vs a' A h=>?_
  refine ca ?_
  exact c _ _ ⟨_,_,rfl,A⟩ h
theorem wy {x:Rf} {xs:List Rf} (hx:∀y∈x::xs,fR y) (hz:xs.length≤2) (hd:d+1 < 40) (h:At toks a l) (ht:TR (mU x++c8 mU xs) l r) (hr:∃a e fr m,r=aC 5 [123] a e fr::m)
  (c:∀v a',(∃i vs,v=ao 71 (.str []) vs 0 i∧aZ fc (x::xs) vs)→At toks a' r→K v (some (PS toks a' (d+1)))):ab (n+8) 1430 [.hole] (some (0,PS toks a (d+1))) K:=by
 refine aa rfl rfl ?_
 refine bc fun G=>?_;obtain⟨_,_,_,_,rfl⟩:=hr
 refine G ?_;clear G;refine dU ht fun l1 t1 t2=>?_
 have hF:Gy l1:=by
  cases xs with
  |nil=>cases t2;exact⟨_,_,_,_,_,rfl,.inr rfl⟩
  |cons y ys=>(induction t2 using TR.elim);exact⟨_,_,_,_,_,rfl,.inl rfl⟩
 have hh:∃s ta te fr m,l=aC 1 s ta te fr::m:=by(induction t1 using TR.elim);exact⟨_,_,_,_,_,rfl⟩
 refine bc fun G=>?_;obtain⟨_,ta,_,_,_,rfl⟩:=hh
 refine G ?_;clear G;refine aJ h ?_
 refine sQ (hx x (List.mem_cons_self ..)) hd h t1 hF fun v a' hv h=>?_
 refine gI (item:=fc) (P:=fR) (Fol:=Gy) (mk:=fun a rows=>[.inh (PS toks a (d+1)),.v ta,.own (.list rows)]) (rows:=[v]) ⟨_,_,_,_,_,rfl,.inl rfl⟩ ?_ ?_ ?_ ⟨_,_,_,_,_,rfl,.inr rfl⟩ (fun y hy=>hx y (List.mem_cons_of_mem _ hy)) (kl (by exact aj ‹_› rfl)) (ae (by show 1+_ < _;lia)) h t2 ?_
 ·intro x a l m rows ta' te fr K _ h t c
  refine b7 h rfl fun h=>?_
  exact c _ h
 ·intro a rows K h c
  refine cB h rfl ?_
  exact c
 ·intro x a l m rows K hx h t hF hz c
  refine sQ hx hd h t hF fun v a' hv h=>?_
  refine⟨hz,?_⟩
  exact c v a' hv h
 ·intro vs a' A h
  refine dz ?_
  exact c _ _ ⟨_,_,rfl,.cons hv A⟩ h
theorem pH {xs:List Tp} (hx:∀x∈xs,eU x) (hz:xs.length≤2) (hd:d+2 < 40) (h:At toks a l) (ht:TR (bU xs) l r) (hr:EV r)
  (c:∀v a',eH xs v→At toks a' r→K v (some (PS toks a' (d+1)))):ab (n+9) 878 [.hole,In 7] (some (0,PS toks a (d+1))) K:=by
 refine aa rfl rfl ?_
 refine kS (by exact bX ‹_›) ?_
 refine aa rfl rfl ?_
 refine q6 (n:=n) (d:=d+1) hx hz (by assumption) h ht hr fun v a' hv h=>?_
 refine sx ?_
 exact c v a' hv h
theorem ri {x y z a2 a3 a4:V} (hd:d+2 < 40) (h:At toks a (aC 5 [123] x y z::aC 5 [125] a2 a3 a4::r)) (c:∀v a',(∃i,v=ao 59 (.str []) [] 0 i)→At toks a' r→K v (some (PS toks a' (d+1)))):
  ab (n+6) 878 [.hole,In 9] (some (0,PS toks a (d+1))) K:=by
 refine aa rfl rfl ?_
 refine kS (by exact bX ‹_›) ?_
 refine aa rfl rfl ?_
 refine aJ h ?_
 refine aa rfl rfl ?_
 refine bO h rfl fun h=>?_
 refine aK (kl (by lia)) ?_
 refine bD true h rfl ?_
 refine bO h rfl fun h=>?_
 refine ca ?_
 refine sx ?_
 exact c _ _ ⟨_,rfl⟩ h
noncomputable def va (r:List V):Prop:=∃k s a e fr m,r=aC k s a e fr::m∧(decide (Int.ofNat k=Int.ofNat 5)=false∨(k=5∧(s=[44]∨s=[59])))
theorem lM {k:Nat} {s x:T} (h:decide (Int.ofNat k=Int.ofNat 5)=false∨(k=5∧(s=[44]∨s=[59]))) (h1:aW [44] x=false) (h2:aW [59] x=false):oJ k s 5 x=false:=by
 rcases h with h|⟨rfl,rfl|rfl⟩
 ·show cond _ _ false=false
  rw[h];rfl
 ·exact h1
 ·exact h2
set_option tactic.hygienic true in
theorem nz {x:T} {e g:Option T} {F:Nat} {st:St} {K:Fl→St→Prop} {tg:V} (hd:d+1 < 40) (hn:bx x tg) (hst:st=[.inh (PS toks a (d+1)),.v tg,.v (In F),.un,.un]) (h:At toks a l)
  (ht:TR (bF (sg 0 [58]) e++bF (sg 1 [61]) g) l r) (hr:va r)
  (c:∀v a' st' i y z,v=ao 42 (.str []) [tg,y,z] F i→bV e y→bV g z→st'[0]?=some (.inh (PS toks a' (d+1)))→At toks a' r→K (.ret v) st'):
  aq TT (ab (n+5)) GG (az 3 gi.body) st K:=by
 subst hst
 obtain⟨i,rfl⟩:=hn
 refine dU ht fun l2 t1 t2=>?_
 refine bc fun G=>?_;obtain⟨k,s,_,_,_,mr,rfl,hs⟩:=hr
 have key:∀y a',bV e y→At toks a' l2→aq TT (ab (n+5)) GG (az 5 gi.body) [.inh (PS toks a' (d+1)),.v (ao 8 (.str x) [] 0 i),.v (In F),.v y,.un] K:=fun y a' hy h=>by
  cases g with
  |none=>
   cases t2
   refine cB h (lM hs rfl rfl) ?_
   refine aE ?_
   exact c _ _ _ _ _ _ rfl hy rfl rfl h
  |some z=>
   (induction t2 using TR.elim;rename_i _ _ l3 tr13;induction tr13 using TR.elim;rename_i ta te l3 t2)
   cases t2
   refine b7 h rfl fun h=>?_
   refine eg 2 (.inr (.inl rfl)) hd h fun v a' hv h=>?_
   refine aE ?_
   exact c _ _ _ _ _ _ rfl hy hv rfl h
 refine G ?_;clear G;cases e with
 |none=>
  cases t1
  have hn:∃k s ta te fr m,l=aC k s ta te fr::m∧oJ k s 5 [58]=false:=by
   cases g with
   |none=>cases t2;exact⟨_,_,_,_,_,_,rfl,lM hs rfl rfl⟩
   |some z=>(induction t2 using TR.elim;rename_i _ _ l3 _);exact⟨_,_,_,_,_,_,rfl,rfl⟩
  refine bc fun G=>?_;obtain⟨_,_,_,_,_,_,rfl,e1⟩:=hn
  refine G ?_;clear G;refine cB h e1 ?_
  exact key _ _ rfl h
 |some y=>
  (induction t1 using TR.elim;rename_i _ _ l3 tr16;induction tr16 using TR.elim;rename_i ta te l3 t1)
  first|replace h:=h.cast t1|cases t1
  refine b7 h rfl fun h=>?_
  refine eg 1 (.inl rfl) hd h fun v a' hv h=>?_
  exact key _ _ hv h
set_option tactic.hygienic true in
theorem tw {x:Dc} (hd:d+1 < 40) (h:At toks a l) (ht:TR (qg x) l r) (hr:va r)
  (c:∀v a',fP x v→At toks a' r→K v (some (PS toks a' (d+1)))):ab (n+6) 1084 [.hole] (some (0,PS toks a (d+1))) K:=by
 refine bc fun G=>?_;obtain⟨x,e,g,bang⟩:=x
 refine G ?_;clear G;refine aa rfl rfl ?_
 (induction ht using TR.elim;rename_i _ _ l ht)
 refine eg 10 (.inr (.inr rfl)) hd h fun v a' hv h2=>?_
 clear h
 have fin:∀v' a' (st':St) i y z,v'=ao 42 (.str []) [v,y,z] (fl bang sI) i→bV e y→bV g z→st'[0]?=some (.inh (PS toks a' (d+1)))→At toks a' r→K v' (bm (some (0,PS toks a (d+1))) st'):=
  fun v' a' st' i y z e1 hy hz h0 h=>by rw[p8 h0];exact c v' a' ⟨_,_,_,_,e1,hv,hy,hz⟩ h
 cases bang with
 |true=>
  (induction ht using TR.elim;rename_i _ _ l ht)
  obtain⟨i,rfl⟩:=hv
  refine bD true h2 rfl ?_
  refine aJ h2 ?_
  refine bp h2 rfl fun h=>?_
  exact nz hd ⟨i,rfl⟩ rfl h ht hr fin
 |false=>
  have ht:TR (bF (sg 0 [58]) e++bF (sg 1 [61]) g) l r:=ht
  have hn:∃k s ta te fr m,l=aC k s ta te fr::m∧oJ k s 5 [33]=false:=by
   cases e with
   |some z=>(induction ht using TR.elim;rename_i _ _ l3 _);exact⟨_,_,_,_,_,_,rfl,rfl⟩
   |none=>
    cases g with
    |some z=>(induction ht using TR.elim;rename_i _ _ l3 _);exact⟨_,_,_,_,_,_,rfl,rfl⟩
    |none=>
     first|replace h:=h.cast ht|cases ht
     refine bc fun G=>?_;obtain⟨_,_,_,_,_,_,rfl,hs⟩:=hr
     refine G ?_;clear G;exact⟨_,_,_,_,_,_,rfl,lM hs rfl rfl⟩
  refine bc fun G=>?_;obtain⟨_,_,_,_,_,_,rfl,e1⟩:=hn
  refine G ?_;clear G;refine bD false h2 e1 ?_
  exact nz (F:=0) hd hv rfl h2 ht hr fin
set_option tactic.hygienic true in
theorem p0 {x:Dc} {xs:List Dc} {wd:T} {F sp:Nat} (hk:kindOf wd=1∨kindOf wd=2) (hz:xs.length≤2) (hd:d+1 < 40) (h:At toks a l) (ht:TR (⟨sp,kindOf wd,wd,wd⟩::iw (x::xs)) l r)
  (hr:va r) (hr':∃k s a e fr m,r=aC k s a e fr::m∧oJ k s 5 [44]=false)
  (c:∀v a',(∃i vs,v=ao 41 (.str wd) vs F i∧aZ fP (x::xs) vs)→At toks a' r→K v (some (PS toks a' (d+1)))):ab (n+7) 1091 [.hole,In F] (some (0,PS toks a (d+1))) K:=by
 refine aa rfl rfl ?_
 (induction ht using TR.elim;rename_i ta te l ht)
 refine dU ht fun l1 t1 t2=>?_
 have hF:va l1:=by
  cases xs with
  |nil=>cases t2;exact hr
  |cons y ys=>(induction t2 using TR.elim);exact⟨_,_,_,_,_,_,rfl,.inr ⟨rfl,.inl rfl⟩⟩
 refine bc fun G=>?_;obtain⟨_,_,_,_,_,_,rfl,hc⟩:=hr'
 refine G ?_;clear G;refine bp h (by rcases hk with e|e<;>(rw[e];rfl)) fun h=>?_
 refine tw hd h t1 hF fun v a' hv h=>?_
 refine gI (item:=fP) (P:=fun ξ=>True) (Fol:=va) (mk:=fun a rows=>[.inh (PS toks a (d+1)),.v (In F),.v (aC (kindOf wd) wd ta te (.bool (fresh sp))),.own (.list rows)]) (rows:=[v]) ⟨_,_,_,_,_,_,rfl,.inr ⟨rfl,.inl rfl⟩⟩ ?_ ?_ ?_ hr (fun ξ ξ=>trivial) (kl (by exact aj ‹_› rfl)) (ae (by show 1+_ < _;lia)) h t2 ?_
 ·intro x a l m rows ta' te fr K _ h t c
  refine b7 h rfl fun h=>?_
  exact c _ h
 ·intro a rows K h c
  refine cB h hc ?_
  exact c
 ·intro x a l m rows K hx h t hF hz c
  refine tw hd h t hF fun v a' hv h=>?_
  refine⟨hz,?_⟩
  exact c v a' hv h
 ·intro vs a' A h
  refine aE ?_
  exact c _ _ ⟨_,_,rfl,.cons hv A⟩ h
theorem oD {x:Dc} {mo:MO} (hv:fP x v) (h1:x.bang=true→x.ty≠none∧x.val=none) (c:K .none (some mo)):ab (n+1) 1112 [.hole,v] (some (0,mo)) K:=by
 refine aa rfl rfl ?_
 refine bc fun G=>?_;obtain⟨x,e,g,bang⟩:=x
 have hv:∃a n t i,v=ao 42 (.str []) [n,t,i] (fl bang sI) a∧bx x n∧bV e t∧bV g i:=hv
 obtain⟨_,_,t,i,rfl,_,ht,hi⟩:=hv
 refine G ?_;clear G;cases bang with
 |false=>exact⟨trivial,c⟩
 |true=>
  obtain⟨h2,rfl⟩:=h1 rfl
  cases hi
  cases e with
  |none=>exact absurd rfl h2
  |some y=>
   obtain⟨_,rfl⟩:=ht
   exact⟨trivial,c⟩
theorem ro {x:Dc} {wd:T} {mo:MO} {kids:List V} {F:Nat} (hv:fP x v) (h1:x.val≠none→aW wd bj=true∧x.ty=none) (c:K .none (some mo)):ab (n+1) 1105 [.hole,ao 41 (.str wd) kids F at_,v] (some (0,mo)) K:=by
 refine aa rfl rfl ?_
 refine bc fun G=>?_;obtain⟨x,e,g,bang⟩:=x
 obtain⟨_,_,t,i,rfl,_,ht,hi⟩:=hv
 refine G ?_;clear G;cases g with
 |none=>cases hi;exact c
 |some z=>
  refine bc fun G=>?_;obtain⟨_,rfl⟩:=hi
  obtain⟨h2,rfl⟩:=h1 (fun q=>nn q.symm)
  refine G ?_;clear G;first|replace h:=h.cast ht|cases ht
  first|refine ar (h2) ?_|refine av (h2) ?_|((conv=>whnf);rw[h2];trace "FALLBACK")
  exact c
end
noncomputable def pI:S→S
 |.cons (.forIn _ _ b) _=>b
 |_=>.nil
section
variable {n k k' f m a d j:Nat} {t t' s:List Nat} {ta te fr at_ v w:V} {kids toks l r:List V} {K:KT} {b:Bool}
theorem r8 {mo:MO} {amb:Bool} {wd:T} {kids:List V} {K:Fl→St→Prop} (hK:∀st:St,st[0]?=some (.inh mo)→K .nxt st):∀{ds:List Dc} {l:List V},aZ fP ds l→(∀x∈ds,jQ amb (aW wd bj) x)→∀x2:bB,(x2=.un∨∃v,x2=.v v)→
  cQ (fun x st K=>fF [2] x st fun st=>aq TT (ab (n+2)) GG (pI ko.body) st K) l [.inh mo,.v (ao 41 (.str wd) kids (fl amb eo) at_),x2] K:=by
 intro ds l A
 induction A with
 |nil=>intro _ x2 _;exact hK _ rfl
 |@cons x v ds l hv _ ih=>
  intro hp x2 hx
  refine bc fun G=>?_;obtain⟨h1,h2,h3,h4,h5,h6⟩:=hp x (List.mem_cons_self ..)
  have ih:=ih (fun y hy=>hp y (List.mem_cons_of_mem _ hy)) (.v v) (.inr ⟨_,rfl⟩)
  have hb:x.bang=true→x.ty≠none∧x.val=none:=fun q=>⟨(h4 q).1,(h4 q).2.1⟩
  refine G ?_;clear G;rcases hx with rfl|⟨_,rfl⟩
  all_goals
   cases amb with
   |true=>
    refine⟨trivial,?_⟩
    refine ro hv (fun q=>h5 rfl q) ?_
    refine oD hv hb ?_
    exact ih
   |false=>
    refine⟨trivial,?_⟩
    have hv':=hv
    refine bc fun G=>?_;obtain⟨x,e,g,bang⟩:=x
    obtain⟨_,_,t,i,rfl,hn,ht,hi⟩:=hv'
    obtain⟨_,rfl⟩:=hn
    refine G ?_;clear G;cases g with
    |none=>
     cases hi
     cases q:aW wd bj with
     |true=>exact absurd rfl (h6 rfl q)
     |false=>
      first|refine ar (q) ?_|refine av (q) ?_|((conv=>whnf);rw[q];trace "FALLBACK")
      refine oD hv hb ?_
      exact ih
    |some z=>
     obtain⟨_,rfl⟩:=hi
     refine oD hv hb ?_
     exact ih
theorem o5 {mo:MO} {amb:Bool} {wd:T} {ds:List Dc} (A:aZ fP ds l) (hp:∀x∈ds,jQ amb (aW wd bj) x) (c:K .none (some mo)):
  ab (n+3) 1098 [.hole,ao 41 (.str wd) l (fl amb eo) at_] (some (0,mo)) K:=by
 refine aa rfl rfl ?_
 exact r8 (fun st h=>by show K .none (bm _ st);rw[p8 h];exact c) A hp .un (.inl rfl)
theorem dB {amb:Bool} {wd:T} {ds:List Dc} {sp:Nat} (hx:cf (.var amb wd ds)) (hk:kindOf wd=1∨kindOf wd=2) (hd:d+1 < 40) (h:At toks a l)
  (ht:TR (⟨sp,kindOf wd,wd,wd⟩::iw ds) l m') (he:B1 m' r)
  (c:∀v a',cZ (.var amb wd ds) v→At toks a' r→K v (some (PS toks a' (d+1)))):ab (n+8) 1119 [.hole,In (fl amb eo)] (some (0,PS toks a (d+1))) K:=by
 refine bc fun G=>?_;obtain⟨h1,h2,h3,h4⟩:=hx
 refine G ?_;clear G;cases ds with
 |nil=>exact absurd rfl h2
 |cons x xs=>
  have h3:xs.length+1≤2:=h3
  refine aa rfl rfl ?_
  have hF:va m'∧∃k s a e fr m,m'=aC k s a e fr::m∧oJ k s 5 [44]=false:=by
   rcases he with ⟨_,_,_,rfl⟩|⟨rfl,k,t,_,_,m,rfl,hk⟩
   ·exact⟨⟨_,_,_,_,_,_,rfl,.inr ⟨rfl,.inr rfl⟩⟩,⟨_,_,_,_,_,_,rfl,rfl⟩⟩
   ·exact⟨⟨_,_,_,_,_,_,rfl,.inl hk⟩,⟨_,_,_,_,_,_,rfl,by show cond _ _ false=false;rw[hk];rfl⟩⟩
  refine p0 hk (by exact eJ ‹_› rfl) hd h ht hF.1 hF.2 fun v a' hv h=>?_
  refine bc fun G=>?_;obtain⟨i,vs,rfl,A⟩:=hv
  refine G ?_;clear G;refine qV h he fun a' h=>?_
  refine o5 A h4 ?_
  exact c _ _ ⟨_,_,rfl,A⟩ h
end
noncomputable def QZ:S→E
 |.cons (.whil c _) _=>c
 |_=>.nil
noncomputable def Qg:S→S
 |.cons (.whil _ b) _=>b
 |_=>.nil
noncomputable abbrev wh (n:Nat) (s:S) (g:Nat) (st:St) (K:Fl→St→Prop):Prop:=
 cY (fun st K=>ay TT (ab n) (QZ s) st (kf K)) (aq TT (ab n) GG (Qg s)) g st K
section
variable {α:Type} {item:α→V→Prop} {f:α→List LX} {C:St→(Bool→St→Prop)→Prop} {B:St→(Fl→St→Prop)→Prop} {mk:Nat→List V→St} {toks:List V} {P:α→Prop} {r:List V} {full:Bool}
set_option tactic.hygienic true in
theorem qL
  (hC1:∀{x a l m rows K},P x→At toks a l→TR (f x) l m→K true (mk a rows)→C (mk a rows) K)
  (hC0:∀{a rows K},At toks a r→K false (mk a rows)→C (mk a rows) K)
  (hB1:∀{x a l m ta te fr rows K},P x→At toks a l→TR (f x) l (aC 5 [44] ta te fr::m)→rows.length < bA→(∀v a',item x v→At toks a' m→K .nxt (mk a' (rows++[v])))→B (mk a rows) K)
  (hB0:∀{x a l rows K},P x→At toks a l→TR (f x) l r→rows.length < bA→(∀v a',item x v→At toks a' r→K .brk (mk a' (rows++[v])))→B (mk a rows) K):
  ∀{xs:List α} {g a:Nat} {l rows:List V} {K:Fl→St→Prop},(∀x∈xs,P x)→xs.length < g→rows.length+xs.length≤bA→At toks a l→TR (bg full f xs) l r→
   (∀vs a',aZ item xs vs→At toks a' r→K .nxt (mk a' (rows++vs)))→cY C B g (mk a rows) K:=by
 intro xs
 induction xs with
 |nil=>
  intro g a l rows K _ hg _ h t c
  first|replace h:=h.cast t|cases t
  refine aK (by simpa using hg) (hC0 h ?_)
  have:=c [] a .nil h
  rwa [List.append_nil] at this
 |cons x xs ih=>
  intro g a l rows K hp hg hz h t c
  rw[List.length_cons] at hg hz
  have go:∀{m ta te fr},TR (f x) l (aC 5 [44] ta te fr::m)→TR (bg full f xs) m r→cY C B g (mk a rows) K:=fun {m ξ ξ _} t1 t2=>by
   refine aK (by exact c7 ‹_›) (hC1 (hp x (List.mem_cons_self ..)) h t1 ?_)
   refine hB1 (hp x (List.mem_cons_self ..)) h t1 (by exact vr ‹_›) fun v a' iv h''=>?_
   refine ih (fun y hy=>hp y (List.mem_cons_of_mem _ hy)) (by exact gC ‹_›) (by rw[List.length_append];show rows.length+1+xs.length≤bA;exact kH ‹_›) h'' t2 fun vs a'' A h3=>?_
   have:=c (v::vs) a'' (.cons iv A) h3
   rw[List.append_assoc]
   exact this
  cases xs with
  |nil=>
   refine dU t fun l2 t1 t2=>?_
   cases full with
   |true=>
    (induction t2 using TR.elim;rename_i _ _ _ t2)
    exact go t1 t2
   |false=>
    first|replace h:=h.cast t2|cases t2
    refine aK (by exact c7 ‹_›) (hC1 (hp x (List.mem_cons_self ..)) h t1 ?_)
    refine hB0 (hp x (List.mem_cons_self ..)) h t1 (by assumption) fun v a' iv h''=>?_
    exact c [v] a' (.cons iv .nil) h''
  |cons y ys=>
   refine dU t fun l2 t1 t2=>?_
   (induction t2 using TR.elim;rename_i _ _ _ t2)
   exact go t1 t2
end
section
variable {n k k' f m a d j:Nat} {t t' s w raw:List Nat} {ta te fr at_ v:V} {kids toks l r:List V} {K:KT} {b:Bool}
theorem kG (hk:(w,raw)∈eG) (c:K (.bool false) none):ab (n+1) 1244 [.str w] none K:=by
 refine aa rfl rfl ?_
 induction hk using cP
 ·exact c
 ·exact c
 ·exact c
 ·exact c
 ·exact c
 ·exact c
theorem qM (hk:(w,raw)∈eG):kq raw=1∨kq raw=2∨kq raw=4:=by
 induction hk using cP
 ·exact .inl rfl
 ·exact .inr (.inl rfl)
 ·exact .inr (.inr rfl)
 ·exact .inr (.inr rfl)
 ·exact .inr (.inr rfl)
 ·exact .inr (.inl rfl)
set_option tactic.hygienic true in
theorem gj {x:Mb} (hx:jl x) (hd:d+1 < 40) (h:At toks a l) (ht:TR (fq x) l r) (hr:∃s a e fr m,r=aC 5 s a e fr::m∧aW s [61]=false)
  (c:∀v a',hH x v→At toks a' r→K v (some (PS toks a' (d+1)))):ab (n+5) 1251 [.hole] (some (0,PS toks a (d+1))) K:=by
 refine bc fun G=>?_;obtain⟨w,raw,e⟩:=x
 obtain⟨h1,_⟩:=hx
 obtain⟨s,_,_,_,m,rfl,hs⟩:=hr
 refine G ?_;clear G;refine aa rfl rfl ?_
 (induction ht using TR.elim;rename_i ta te l ht)
 have hk:=qM h1
 have h3:decide (Int.ofNat (kq raw)=Int.ofNat 3)=false:=by rcases hk with e|e|e<;>(rw[e];rfl)
 refine aJ h ?_
 refine BJ hk h fun h2=>?_
 clear h
 first|refine ar (h3) ?_|refine av (h3) ?_|((conv=>whnf);rw[h3];trace "FALLBACK")
 refine kG h1 ?_
 cases e with
 |none=>
  first|replace h:=h.cast ht|cases ht
  refine cB h2 hs ?_
  refine ca ?_
  exact c _ _ ⟨_,_,rfl,rfl⟩ h2
 |some y=>
  (induction ht using TR.elim;rename_i _ _ l tr27;induction tr27 using TR.elim;rename_i _ _ l ht)
  first|replace h:=h.cast ht|cases ht
  refine b7 h2 rfl fun h=>?_
  refine eg 2 (.inr (.inl rfl)) hd h fun v a' hv h=>?_
  refine ca ?_
  exact c _ _ ⟨_,_,rfl,hv⟩ h
set_option tactic.hygienic true in
theorem kY {amb cst full:Bool} {x:T} {ms:List Mb} (hx:cf (.enum amb cst x ms)) (hk:decide (Int.ofNat k=Int.ofNat 0)=false) (hd:d+1 < 40) (h:At toks a (aC k t ta te fr::l))
  (ht:TR (nm 1 x::sg 1 [123]::bg full fq ms++[sg (cond ms.isEmpty 0 2) [125]]) l r)
  (c:∀v a',(∃a l,v=ao 66 (.str x) l f a∧aZ hH ms l)→At toks a' r→K v (some (PS toks a' (d+1)))):ab (n+6) 1237 [.hole,In f] (some (0,PS toks a (d+1))) K:=by
 refine bc fun G=>?_;obtain⟨h1,h2,h3⟩:=hx
 refine G ?_;clear G;refine aa rfl rfl ?_
 (induction ht using TR.elim;rename_i ta _ _ tr29;induction tr29 using TR.elim;rename_i _ _ l ht)
 refine bc fun G=>?_;obtain⟨l2,t1,t2⟩:=mz.mp (show TR (bg full fq ms++[sg (cond ms.isEmpty 0 2) [125]]) l r from ht)
 refine G ?_;clear G;(induction t2 using TR.elim;rename_i _ _ _ t2)
 first|replace h:=h.cast t2|cases t2
 refine bp h hk fun h=>?_
 refine fA (gy h1) h fun h=>?_
 refine bO h rfl fun h=>?_
 refine qL (item:=hH) (P:=jl) (f:=fq) (mk:=fun a rows=>[.inh (PS toks a (d+1)),.v (In f),.v (.str x),.v ta,.own (.list rows)]) (rows:=[]) ?_ ?_ ?_ ?_ h3 (kl (by exact aj ‹_› rfl)) (ae (by show 0+_ < _;lia)) h t1 ?_
 ·intro x a l m rows K hx h t c
  (induction t using TR.elim)
  refine bD false h ?_ ?_
  ·rcases qM hx.1 with e|e|e<;>(show cond (decide (Int.ofNat (kq x.raw)=_)) _ _=_;rw[e];rfl)
  ·exact c
 ·intro a rows K h c
  refine bD true h rfl ?_
  exact c
 ·intro x a l m ta te fr rows K hx h t hz c
  refine gj hx hd h t ⟨_,_,_,_,_,rfl,rfl⟩ fun v a' hv h=>?_
  refine⟨hz,?_⟩
  refine b7 h rfl fun h=>?_
  exact c _ _ hv h
 ·intro x a l rows K hx h t hz c
  refine gj hx hd h t ⟨_,_,_,_,_,rfl,rfl⟩ fun v a' hv h=>?_
  refine⟨hz,?_⟩
  refine cB h rfl ?_
  exact c _ _ hv h
 ·intro vs a' A h
  refine bO h rfl fun h=>?_
  refine aE ?_
  exact c _ _ ⟨_,_,rfl,A⟩ h
variable {x y z:V}
noncomputable def eC (r:List V):Prop:=∃k t a e m,r=aC k t a e (.bool true)::m∧decide (Int.ofNat k=Int.ofNat 5)=false
set_option tactic.hygienic true in
theorem jF {full:Bool} (ht:TR (dI full) l r) (hr:eC r):B1 l r:=by
 cases full with
 |true=>
  (induction ht using TR.elim;rename_i _ _ _ ht)
  first|replace h:=h.cast ht|cases ht
  exact .inl ⟨_,_,_,rfl⟩
 |false=>
  first|replace h:=h.cast ht|cases ht
  exact .inr ⟨rfl,hr⟩
set_option tactic.hygienic true in
theorem qp {amb full:Bool} {x ty:T} {tps:List Tp} (hx:cf (.alias amb x tps ty)) (hk:decide (Int.ofNat k=Int.ofNat 0)=false) (hd:d+2 < 40) (h:At toks a (aC k t ta te fr::l))
  (ht:TR ((nm 1 x::bU tps)++(sg 1 [61]::nm 1 ty::dI full)) l r) (hr:eC r)
  (c:∀v a',(∃a t y,v=ao 65 (.str x) [t,y] f a∧eH tps t∧bx ty y)→At toks a' r→K v (some (PS toks a' (d+1)))):ab (n+10) 1258 [.hole,In f] (some (0,PS toks a (d+1))) K:=by
 refine bc fun G=>?_;obtain⟨h1,_,h3,h4⟩:=hx
 refine G ?_;clear G;refine aa rfl rfl ?_
 (induction ht using TR.elim;rename_i _ _ _ ht)
 refine bc fun G=>?_;obtain⟨l2,t1,t2⟩:=mz.mp (show TR (bU tps++(sg 1 [61]::nm 1 ty::dI full)) _ r from ht)
 refine G ?_;clear G;(induction t2 using TR.elim;rename_i _ _ _ tr35;induction tr35 using TR.elim;rename_i _ _ _ t2)
 refine bp h hk fun h2=>?_
 refine fA (gy h1) h2 fun h3_=>?_
 refine pH h4 h3 hd h3_ t1 ⟨_,_,_,_,_,_,rfl,rfl⟩ fun v a' hv h4_=>?_
 refine bO h4_ rfl fun h5=>?_
 refine eg 1 (.inl rfl) (by exact bX ‹_›) h5 fun v' a' hv' h6=>?_
 refine qV h6 (jF t2 hr) fun a' h7=>?_
 refine aE ?_
 exact c _ _ ⟨_,_,_,rfl,hv,hv'⟩ h7
theorem mG {ta tv bv:V} {st:St} {K:Fl→St→Prop} {x1 x2 x3 x4 x5 x6:V} (hd:d+2 < 40) (hst:st=[.inh (PS toks a (d+1)),.v (In f),.v (.str t),.v ta,.v tv,.v bv,.un])
  (h:At toks a (aC 5 [123] x1 x2 x3::aC 5 [125] x4 x5 x6::r))
  (c:∀v a' st' i,v=ao 64 (.str t) [tv,bv,ao 59 (.str []) [] 0 i] f ta→st'[0]?=some (.inh (PS toks a' (d+1)))→At toks a' r→K (.ret v) st'):aq TT (ab (n+9)) GG (az 5 dy.body) st K:=by
 subst hst
 refine ri hd h fun v' a' hv' g5=>?_
 obtain⟨_,rfl⟩:=hv'
 refine aE ?_
 exact c _ _ _ _ rfl rfl g5
set_option tactic.hygienic true in
theorem uY {ta tv:V} {bs:List Rf} {st:St} {K:Fl→St→Prop} {x1 x2 x3 x4 x5 x6:V} (hb:∀y∈bs,fR y) (hz:bs.length≤2) (hd:d+2 < 40) (hst:st=[.inh (PS toks a (d+1)),.v (In f),.v (.str t),.v ta,.v tv,.un,.un])
  (h:At toks a l) (ht:TR (cJ bs) l (aC 5 [123] x1 x2 x3::aC 5 [125] x4 x5 x6::r))
  (c:∀v a' st' i b l,v=ao 64 (.str t) [tv,ao 71 (.str []) l 0 b,ao 59 (.str []) [] 0 i] f ta→aZ fc bs l→st'[0]?=some (.inh (PS toks a' (d+1)))→At toks a' r→K (.ret v) st'):aq TT (ab (n+9)) GG (az 3 dy.body) st K:=by
 subst hst
 cases bs with
 |nil=>
  first|replace h:=h.cast ht|cases ht
  refine aJ h ?_
  refine dz ?_
  refine oy h rfl ?_
  exact mG hd rfl h fun v a' st' i e h0 h=>c v a' st' i _ _ e .nil h0 h
 |cons y ys=>
  (induction ht using TR.elim;rename_i _ _ _ t1)
  have hz:ys.length+1≤2:=hz
  refine aJ h ?_
  refine dz ?_
  refine mu h rfl fun g5=>?_
  refine wy hb (by exact eJ ‹_› rfl) (by exact bX ‹_›) g5 t1 ⟨_,_,_,_,rfl⟩ fun v' a' hv' g6=>?_
  refine bc fun G=>?_;obtain⟨_,_,rfl,A⟩:=hv'
  refine G ?_;clear G;exact mG hd rfl g6 fun v a' st' i e h0 h=>c v a' st' i _ _ e A h0 h
set_option tactic.hygienic true in
theorem qH {amb:Bool} {x:T} {tps:List Tp} {bs:List Rf} (hx:cf (.iface amb x tps bs)) (hk:decide (Int.ofNat k=Int.ofNat 0)=false) (hd:d+2 < 40) (h:At toks a (aC k t ta te fr::l))
  (ht:TR (((nm 1 x::bU tps)++cJ bs)++[sg 1 [123],sg 0 [125]]) l r)
  (c:∀v a',(∃a t b b' l,v=ao 64 (.str x) [t,ao 71 (.str []) l 0 b,ao 59 (.str []) [] 0 b'] f a∧eH tps t∧aZ fc bs l)→At toks a' r→K v (some (PS toks a' (d+1)))):ab (n+10) 1265 [.hole,In f] (some (0,PS toks a (d+1))) K:=by
 refine bc fun G=>?_;obtain⟨h1,h2,h3,h4,h5⟩:=hx
 refine G ?_;clear G;refine aa rfl rfl ?_
 refine dU ht fun l2 t9 t2=>?_
 clear ht
 refine dU t9 fun l1 t0 t1=>?_
 clear t9
 (induction t0 using TR.elim;rename_i _ _ _ t0)
 (induction t2 using TR.elim;rename_i _ _ _ tr39;induction tr39 using TR.elim;rename_i _ _ _ t2)
 first|replace h:=h.cast t2|cases t2
 refine bp h hk fun g2=>?_
 refine fA (gy h1) g2 fun g3=>?_
 have hl:EV l1:=by
  cases bs with
  |nil=>cases t1;exact⟨_,_,_,_,_,_,rfl,rfl⟩
  |cons y ys=>(induction t1 using TR.elim);exact⟨_,_,_,_,_,_,rfl,rfl⟩
 refine pH h3 h2 hd g3 t0 hl fun v a' hv g4=>?_
 exact uY h5 h4 hd rfl g4 t1 fun v' a' st' i b l e A h0 h=>by
  show K v' (bm _ st')
  rw[p8 h0]
  exact c v' a' ⟨_,_,_,_,_,e,hv,A⟩ h
theorem gr {s:T} {a2 a3 a4 a5 a6:V} (h:At toks a (x::aC 1 t a2 a3 (.bool false)::aC 5 s a4 a5 a6::r)) (hs:s=[61]∨s=[60]) (c:K (.bool true) (some (PS toks a d))):
  ab (n+2) 1291 [.hole] (some (0,PS toks a d)) K:=by
 refine aa rfl rfl ?_
 refine au h (j:=1) rfl ?_
 refine au h (j:=1) rfl ?_
 refine au h (j:=2) rfl ?_
 rcases hs with rfl|rfl
 ·refine bE true rfl ?_
  exact c
 ·refine bE false rfl ?_
  refine au h (j:=2) rfl ?_
  refine bE true rfl ?_
  exact c
theorem gh {k:Nat} {s:T} {a2 a3 a4 a5 a6:V} (h:At toks a (x::aC 1 t a2 a3 (.bool false)::aC k s a4 a5 a6::r)) (hs:(k=2∧s=bP)∨(k=5∧s=[123])∨(k=5∧s=[60])) (c:K (.bool true) (some (PS toks a d))):
  ab (n+2) 1298 [.hole] (some (0,PS toks a d)) K:=by
 refine aa rfl rfl ?_
 refine au h (j:=1) rfl ?_
 refine au h (j:=1) rfl ?_
 refine au h (j:=2) rfl ?_
 rcases hs with ⟨rfl,rfl⟩|⟨rfl,rfl⟩|⟨rfl,rfl⟩
 ·refine bE true rfl ?_
  exact c
 ·refine bE false rfl ?_
  refine au h (j:=2) rfl ?_
  refine bE true rfl ?_
  exact c
 ·refine bE false rfl ?_
  refine au h (j:=2) rfl ?_
  refine bE false rfl ?_
  refine au h (j:=2) rfl ?_
  refine bE true rfl ?_
  exact c
theorem pe {a2 a3 a4:V} (h:At toks a (x::aC 1 t a2 a3 a4::r)) (c:K (.bool true) (some (PS toks a d))):ab (n+2) 1077 [.hole] (some (0,PS toks a d)) K:=by
 refine aa rfl rfl ?_
 refine au h (j:=1) rfl ?_
 exact c
theorem jw {k:Nat} {a2 a3:V} (h:At toks a (x::aC k t a2 a3 (.bool false)::r)) (hk:(k,t)∈[(2,bj),(2,mS),(2,dj),(1,n8),(1,bS),(1,cV)]) (c:K (.bool true) (some (PS toks a d))):
  ab (n+2) 1357 [.hole] (some (0,PS toks a d)) K:=by
 refine aa rfl rfl ?_
 refine au h (j:=1) rfl ?_
 rcases List.mem_cons.mp hk with e|hk
 ·cases e;exact c
 rcases List.mem_cons.mp hk with e|hk
 ·cases e;exact c
 rcases List.mem_cons.mp hk with e|hk
 ·cases e;exact c
 rcases List.mem_cons.mp hk with e|hk
 ·cases e;exact c
 rcases List.mem_cons.mp hk with e|hk
 ·cases e;exact c
 rcases List.mem_cons.mp hk with e|hk
 ·cases e;exact c
 cases hk
theorem pA {xs:List Tp} {g:List LX} {s:T} {sp:Nat} (ht:TR (bU xs++(sg sp s::g)) l r):∃s' a e fr m,l=aC 5 s' a e fr::m∧(s'=s∨s'=[60]):=by
 cases xs with
 |nil=>(induction ht using TR.elim);exact⟨_,_,_,_,_,rfl,.inl rfl⟩
 |cons y ys=>(induction ht using TR.elim);exact⟨_,_,_,_,_,rfl,.inr rfl⟩
theorem iP {mo:MO} (c:K (.bool true) (some mo)):ab (n+1) 990 [v,.hole] (some (1,mo)) K:=by
 refine aa rfl rfl ?_
 exact c
theorem tO {full:Bool} {ds:List Dc} (hne:ds≠[]) (ht:TR (iw ds++dI full) l r):∃t a e m,l=aC 1 t a e (.bool false)::m:=by
 cases ds with
 |nil=>exact absurd rfl hne
 |cons y ys=>(induction ht using TR.elim);exact⟨_,_,_,_,rfl⟩
theorem qR {amb full:Bool} {x:T} {ms:List Mb} {a2 a3 a4:V} (hx:cf (.enum amb true x ms)) (hd:d+2 < 40) (h:At toks a (aC 2 bj ta te fr::aC 2 dj a2 a3 a4::l))
  (ht:TR (nm 1 x::sg 1 [123]::bg full fq ms++[sg (cond ms.isEmpty 0 2) [125]]) l r)
  (c:∀v a',(∃a l,v=ao 66 (.str x) l 8388608 a∧aZ hH ms l)→At toks a' r→K v (some (PS toks a' (d+1)))):ab (n+7) 1404 [v,.hole] (some (1,PS toks a (d+1))) K:=by
 refine aa rfl rfl ?_
 refine au h (j:=1) rfl ?_
 refine bE true rfl ?_
 refine bp h rfl fun h2=>?_
 refine kY hx rfl (by exact bX ‹_›) h2 ht fun v a' hv h3=>?_
 exact c v a' hv h3
set_option tactic.hygienic true in
theorem zK {full:Bool} {wd:T} {ds:List Dc} {sp:Nat} (hx:cf (.var false wd ds)) (hd:d+2 < 40) (h:At toks a l)
  (ht:TR (⟨sp,kindOf wd,wd,wd⟩::iw ds++dI full) l r) (hr:eC r)
  (c:∀v a',cZ (.var false wd ds) v→At toks a' r→K v (some (PS toks a' (d+1)))):ab (n+12) 1056 [.hole,jU] (some (0,PS toks a (d+1))) K:=by
 have hne:=hx.2.1
 have hw:=hx.1
 refine dU ht fun m' t1 t2=>?_
 (induction ht using TR.elim;rename_i ta te m ht)
 refine bc fun G=>?_;obtain⟨_,_,_,_,rfl⟩:=tO hne ht
 have he:=jF t2 hr
 refine G ?_;clear G;rcases List.mem_cons.mp hw with rfl|hw
 ·refine aa rfl rfl ?_
  refine aJ h ?_
  refine aa rfl rfl ?_
  refine pe h ?_
  refine aa rfl rfl ?_
  exact dB hx (.inl rfl) (by exact bX ‹_›) h t1 he c
 rcases List.mem_cons.mp hw with rfl|hw
 ·refine aa rfl rfl ?_
  refine aJ h ?_
  refine iP ?_
  refine aa rfl rfl ?_
  refine au h (j:=1) rfl ?_
  refine bE false rfl ?_
  exact dB hx (.inr rfl) (by exact bX ‹_›) h t1 he c
 rcases List.mem_cons.mp hw with rfl|hw
 ·refine aa rfl rfl ?_
  refine aJ h ?_
  refine iP ?_
  refine aa rfl rfl ?_
  exact dB hx (.inr rfl) (by exact bX ‹_›) h t1 he c
 cases hw
set_option tactic.hygienic true in
theorem qT {full:Bool} {x ty:T} {tps:List Tp} {sp:Nat} (hx:cf (.alias false x tps ty)) (hd:d+2 < 40) (h:At toks a l)
  (ht:TR (nm sp bS::nm 1 x::bU tps++sg 1 [61]::nm 1 ty::dI full) l r) (hr:eC r)
  (c:∀v a',cZ (.alias false x tps ty) v→At toks a' r→K v (some (PS toks a' (d+1)))):ab (n+12) 1056 [.hole,jU] (some (0,PS toks a (d+1))) K:=by
 (induction ht using TR.elim;rename_i ta te m ht)
 have t2:=ht
 (induction t2 using TR.elim;rename_i _ _ m2 t2)
 refine bc fun G=>?_;obtain⟨s,_,_,_,m3,rfl,hs⟩:=pA (show TR (bU tps++(sg 1 [61]::nm 1 ty::dI full)) m2 r from t2)
 refine G ?_;clear G;refine aa rfl rfl ?_
 refine aJ h ?_
 refine aa rfl rfl ?_
 refine gr h hs ?_
 refine aa rfl rfl ?_
 exact qp hx rfl hd h ht hr fun v a' hv h=>c v a' hv h
theorem kr {tps:List Tp} {bs:List Rf} (ht:TR ((bU tps++cJ bs)++[sg 1 [123],sg 0 [125]]) l r):∃k s a e fr m,l=aC k s a e fr::m∧((k=2∧s=bP)∨(k=5∧s=[123])∨(k=5∧s=[60])):=by
 cases tps with
 |nil=>
  cases bs with
  |nil=>(induction ht using TR.elim);exact⟨_,_,_,_,_,_,rfl,.inr (.inl ⟨rfl,rfl⟩)⟩
  |cons y ys=>(induction ht using TR.elim);exact⟨_,_,_,_,_,_,rfl,.inl ⟨rfl,rfl⟩⟩
 |cons y ys=>(induction ht using TR.elim);exact⟨_,_,_,_,_,_,rfl,.inr (.inr ⟨rfl,rfl⟩)⟩
set_option tactic.hygienic true in
theorem rR {x:T} {tps:List Tp} {bs:List Rf} {sp:Nat} (hx:cf (.iface false x tps bs)) (hd:d+2 < 40) (h:At toks a l)
  (ht:TR (nm sp cV::nm 1 x::bU tps++cJ bs++[sg 1 [123],sg 0 [125]]) l r)
  (c:∀v a',cZ (.iface false x tps bs) v→At toks a' r→K v (some (PS toks a' (d+1)))):ab (n+12) 1056 [.hole,jU] (some (0,PS toks a (d+1))) K:=by
 (induction ht using TR.elim;rename_i ta te m ht)
 have t2:=ht
 (induction t2 using TR.elim;rename_i _ _ m2 t2)
 refine bc fun G=>?_;obtain⟨k,s,_,_,_,m3,rfl,hs⟩:=kr (show TR ((bU tps++cJ bs)++[sg 1 [123],sg 0 [125]]) m2 r from t2)
 refine G ?_;clear G;refine aa rfl rfl ?_
 refine aJ h ?_
 refine aa rfl rfl ?_
 refine gh h hs ?_
 refine aa rfl rfl ?_
 exact qH hx rfl hd h ht fun v a' hv h=>c v a' (by obtain⟨a,t,b,b',l,e,h1,h2⟩:=hv;exact⟨a,t,b,b',l,a,e,h1,h2,rfl⟩) h
set_option tactic.hygienic true in
theorem u1 {cst full:Bool} {x:T} {ms:List Mb} {sp:Nat} (hx:cf (.enum false cst x ms)) (hd:d+2 < 40) (h:At toks a l)
  (ht:TR (bK full sp (.enum false cst x ms)) l r)
  (c:∀v a',cZ (.enum false cst x ms) v→At toks a' r→K v (some (PS toks a' (d+1)))):ab (n+12) 1056 [.hole,jU] (some (0,PS toks a (d+1))) K:=by
 cases cst with
 |true=>
  (induction ht using TR.elim;rename_i _ _ _ tr53;induction tr53 using TR.elim;rename_i _ _ _ ht)
  refine aa rfl rfl ?_
  refine aJ h ?_
  refine iP ?_
  exact qR (full:=full) hx hd h ht fun v a' hv h=>c v a' hv h
 |false=>
  (induction ht using TR.elim;rename_i _ _ _ ht)
  refine aa rfl rfl ?_
  refine aJ h ?_
  refine iP ?_
  refine aa rfl rfl ?_
  exact kY (full:=full) hx rfl (by exact bX ‹_›) h ht fun v a' hv h=>c v a' hv h
set_option tactic.hygienic true in
theorem mO {full:Bool} {sp:Nat} {amb cst:Bool} {x:T} {ms:List Mb} (hx:cf (.enum amb cst x ms)) (ha:fv (.enum amb cst x ms)=true) (hd:d+2 < 40) (h:At toks a l) (ht:TR (bK full sp (.enum amb cst x ms)) l r) (hr:eC r)
  (c:∀v a',cZ (.enum amb cst x ms) v→At toks a' r→K v (some (PS toks a' (d+1)))):ab (n+11) 1390 [.hole] (some (0,PS toks a (d+1))) K:=by
 have ha:amb=true:=ha
 subst ha
 cases cst with
 |true=>
  (induction ht using TR.elim;rename_i _ _ _ tr56;induction tr56 using TR.elim;rename_i _ _ _ ht)
  refine aa rfl rfl ?_
  refine ai false h rfl ?_
  refine ai false h rfl ?_
  refine aS false h rfl ?_
  refine ai true h rfl ?_
  refine au h (j:=1) rfl ?_
  refine bE true rfl ?_
  refine bp h rfl fun h2=>?_
  refine⟨trivial,?_⟩
  exact kY (full:=full) (f:=12582912) hx rfl (by exact bX ‹_›) h2 ht fun v a' hv h3=>c v a' hv h3
 |false=>
  (induction ht using TR.elim;rename_i _ _ _ ht)
  refine aa rfl rfl ?_
  refine ai false h rfl ?_
  refine ai false h rfl ?_
  refine aS false h rfl ?_
  refine ai false h rfl ?_
  refine ai true h rfl ?_
  exact kY (full:=full) (f:=4194304) hx rfl (by exact bX ‹_›) h ht fun v a' hv h3=>c v a' hv h3
set_option tactic.hygienic true in
theorem lj {full:Bool} {sp:Nat} {amb:Bool} {x ty:T} {tps:List Tp} (hx:cf (.alias amb x tps ty)) (ha:fv (.alias amb x tps ty)=true) (hd:d+2 < 40) (h:At toks a l) (ht:TR (bK full sp (.alias amb x tps ty)) l r) (hr:eC r)
  (c:∀v a',cZ (.alias amb x tps ty) v→At toks a' r→K v (some (PS toks a' (d+1)))):ab (n+11) 1390 [.hole] (some (0,PS toks a (d+1))) K:=by
 have ha:amb=true:=ha
 subst ha
 (induction ht using TR.elim;rename_i ta te m ht)
 have t2:=ht
 (induction t2 using TR.elim;rename_i _ _ m2 t2)
 refine bc fun G=>?_;obtain⟨s,_,_,_,m3,rfl,hs⟩:=pA (show TR (bU tps++(sg 1 [61]::nm 1 ty::dI full)) m2 r from t2)
 refine G ?_;clear G;refine aa rfl rfl ?_
 refine ai false h rfl ?_
 refine ai false h rfl ?_
 refine aS false h rfl ?_
 refine ai false h rfl ?_
 refine ai false h rfl ?_
 refine ai false h rfl ?_
 refine ai false h rfl ?_
 refine aS false h rfl ?_
 refine aS true h rfl ?_
 refine gr h hs ?_
 exact qp (f:=4194304) hx rfl hd h ht hr fun v a' hv h=>c v a' hv h
set_option tactic.hygienic true in
theorem lA {full:Bool} {sp:Nat} {amb:Bool} {x:T} {tps:List Tp} {bs:List Rf} (hx:cf (.iface amb x tps bs)) (ha:fv (.iface amb x tps bs)=true) (hd:d+2 < 40) (h:At toks a l) (ht:TR (bK full sp (.iface amb x tps bs)) l r) (hr:eC r)
  (c:∀v a',cZ (.iface amb x tps bs) v→At toks a' r→K v (some (PS toks a' (d+1)))):ab (n+11) 1390 [.hole] (some (0,PS toks a (d+1))) K:=by
 have ha:amb=true:=ha
 subst ha
 (induction ht using TR.elim;rename_i ta te m ht)
 have t2:=ht
 (induction t2 using TR.elim;rename_i _ _ m2 t2)
 refine bc fun G=>?_;obtain⟨k,s,_,_,_,m3,rfl,hs⟩:=kr (show TR ((bU tps++cJ bs)++[sg 1 [123],sg 0 [125]]) m2 r from t2)
 refine G ?_;clear G;refine aa rfl rfl ?_
 refine ai false h rfl ?_
 refine ai false h rfl ?_
 refine aS false h rfl ?_
 refine ai false h rfl ?_
 refine ai false h rfl ?_
 refine ai false h rfl ?_
 refine ai false h rfl ?_
 refine aS false h rfl ?_
 refine aS false h rfl ?_
 refine aS true h rfl ?_
 refine gh h hs ?_
 exact qH (f:=4194304) hx rfl hd h ht fun v a' hv h=>c v a' (by obtain⟨a,t,b,b',l,e,h1,h2⟩:=hv;exact⟨a,t,b,b',l,a,e,h1,h2,rfl⟩) h
set_option tactic.hygienic true in
theorem oz {full:Bool} {sp:Nat} {amb:Bool} {wd:T} {ds:List Dc} (hx:cf (.var amb wd ds)) (ha:fv (.var amb wd ds)=true) (hd:d+2 < 40) (h:At toks a l) (ht:TR (bK full sp (.var amb wd ds)) l r) (hr:eC r)
  (c:∀v a',cZ (.var amb wd ds) v→At toks a' r→K v (some (PS toks a' (d+1)))):ab (n+11) 1390 [.hole] (some (0,PS toks a (d+1))) K:=by
 have ha:amb=true:=ha
 subst ha
 have hne:=hx.2.1
 have hw:=hx.1
 refine bc fun G=>?_;obtain⟨m',t1,t2⟩:=mz.mp (show TR ((⟨sp,kindOf wd,wd,wd⟩::iw ds)++dI full) l r from ht)
 refine G ?_;clear G;(induction ht using TR.elim;rename_i ta te m ht)
 refine bc fun G=>?_;obtain⟨_,_,_,_,rfl⟩:=tO hne ht
 have he:=jF t2 hr
 refine G ?_;clear G;rcases List.mem_cons.mp hw with rfl|hw
 ·refine aa rfl rfl ?_
  refine ai false h rfl ?_
  refine ai false h rfl ?_
  refine aS false h rfl ?_
  refine ai false h rfl ?_
  refine ai false h rfl ?_
  refine ai false h rfl ?_
  refine ai false h rfl ?_
  refine aS true h rfl ?_
  exact dB (amb:=true) hx (.inl rfl) (by exact bX ‹_›) h t1 he c
 rcases List.mem_cons.mp hw with rfl|hw
 ·refine aa rfl rfl ?_
  refine ai false h rfl ?_
  refine ai false h rfl ?_
  refine aS false h rfl ?_
  refine ai true h rfl ?_
  refine au h (j:=1) rfl ?_
  refine bE false rfl ?_
  refine ai false h rfl ?_
  refine ai true h rfl ?_
  exact dB (amb:=true) hx (.inr rfl) (by exact bX ‹_›) h t1 he c
 rcases List.mem_cons.mp hw with rfl|hw
 ·refine aa rfl rfl ?_
  refine ai false h rfl ?_
  refine ai false h rfl ?_
  refine aS false h rfl ?_
  refine ai false h rfl ?_
  refine ai false h rfl ?_
  refine ai false h rfl ?_
  refine ai true h rfl ?_
  exact dB (amb:=true) hx (.inr rfl) (by exact bX ‹_›) h t1 he c
 cases hw
theorem qJ {full:Bool} {sp:Nat} {dd:De} (hx:cf dd) (ha:fv dd=true) (hd:d+2 < 40) (h:At toks a l) (ht:TR (bK full sp dd) l r) (hr:eC r)
  (c:∀v a',cZ dd v→At toks a' r→K v (some (PS toks a' (d+1)))):ab (n+11) 1390 [.hole] (some (0,PS toks a (d+1))) K:=by
 cases dd with
 |enum amb cst x ms=>exact mO hx ha hd h ht hr c
 |alias amb x tps ty=>exact lj hx ha hd h ht hr c
 |iface amb x tps bs=>exact lA hx ha hd h ht hr c
 |var amb wd ds=>exact oz hx ha hd h ht hr c
theorem nl {full:Bool} {dd:De} (hx:cf dd) (ht:TR (bK full 1 dd) l r):∃k t a e m,l=aC k t a e (.bool false)::m∧(k,t)∈[(2,bj),(2,mS),(2,dj),(1,n8),(1,bS),(1,cV)]:=by
 cases dd with
 |enum amb cst x ms=>
  cases cst with
  |true=>(induction ht using TR.elim);exact⟨_,_,_,_,_,rfl,.head _⟩
  |false=>(induction ht using TR.elim);exact⟨_,_,_,_,_,rfl,.tail _ (.tail _ (.head _))⟩
 |alias amb x tps ty=>(induction ht using TR.elim);exact⟨_,_,_,_,_,rfl,.tail _ (.tail _ (.tail _ (.tail _ (.head _))))⟩
 |iface amb x tps bs=>(induction ht using TR.elim);exact⟨_,_,_,_,_,rfl,.tail _ (.tail _ (.tail _ (.tail _ (.tail _ (.head _)))))⟩
 |var amb wd ds=>
  have hw:=hx.1
  (induction ht using TR.elim)
  rcases List.mem_cons.mp hw with rfl|hw
  ·exact⟨_,_,_,_,_,rfl,.tail _ (.tail _ (.tail _ (.head _)))⟩
  rcases List.mem_cons.mp hw with rfl|hw
  ·exact⟨_,_,_,_,_,rfl,.head _⟩
  rcases List.mem_cons.mp hw with rfl|hw
  ·exact⟨_,_,_,_,_,rfl,.tail _ (.head _)⟩
  cases hw
set_option tactic.hygienic true in
theorem A6 {full:Bool} {sp:Nat} {dd:De} (hx:cf dd) (hd:d+2 < 40) (h:At toks a l) (ht:TR (du full sp dd) l r) (hr:eC r)
  (c:∀v a',cZ dd v→At toks a' r→K v (some (PS toks a' (d+1)))):ab (n+13) 1056 [.hole,jU] (some (0,PS toks a (d+1))) K:=by
 unfold du at ht
 cases ha:fv dd with
 |true=>
  rw[ha] at ht
  (induction ht using TR.elim;rename_i _ _ m ht)
  refine bc fun G=>?_;obtain⟨k,t,_,_,m2,rfl,hk⟩:=nl hx ht
  refine G ?_;clear G;refine aa rfl rfl ?_
  refine aJ h ?_
  refine aa rfl rfl ?_
  refine jw h hk ?_
  refine aa rfl rfl ?_
  refine bp h rfl fun h2=>?_
  exact qJ (n:=n) hx ha hd h2 ht hr c
 |false=>
  rw[ha] at ht
  cases dd with
  |enum amb cst x ms=>
   have ha:amb=false:=ha
   subst ha
   exact u1 (n:=n+1) hx hd h ht c
  |alias amb x tps ty=>
   have ha:amb=false:=ha
   subst ha
   exact qT (n:=n+1) hx hd h ht hr c
  |iface amb x tps bs=>
   have ha:amb=false:=ha
   subst ha
   exact rR (n:=n+1) hx hd h ht c
  |var amb wd ds=>
   have ha:amb=false:=ha
   subst ha
   exact zK (n:=n+1) hx hd h ht hr c
end
mutual
inductive Hz:Nat→Nat→V→Prop
 |none {h}:Hz h 1 .none
 |node {h s k a kids f at_}:HI h s kids→Hz (h+1) (s+1) (ao k a kids f at_)
inductive HI:Nat→Nat→List V→Prop
 |nil {h}:HI h 0 []
 |cons {h s s' v l}:Hz h s v→HI h s' l→HI h (s+s') (v::l)
end
inductive AX:Nat→List V→Prop
 |nil:AX 0 []
 |snoc {s s' h lev v l}:AX s l→Hz h s' v→lev+h≤100→AX (s+s') (l++[.tup [v,In lev]])
theorem Hz.pos {h s:Nat} {v:V} (H:Hz h s v):0 < s:=by cases H<;>lia
theorem AX.len {s:Nat} {l:List V} (H:AX s l):l.length≤s:=by
 induction H with
 |nil=>exact Nat.le_refl _
 |snoc _ hz _ ih=>have:=hz.pos;rw[List.length_append];show _+1≤_;lia
noncomputable def y8:S→S
 |.cons (.whilO _ b) _=>b
 |_=>.nil
section
variable {n k k' f m a d j:Nat} {t t' s w raw:List Nat} {ta te fr at_ v x y z:V} {kids toks l r:List V} {K:KT} {b:Bool}
noncomputable def Lv (x:bB):Prop:=x=.un∨∃v,x=.v v
theorem uO {mo:MO} {root nd:V} {lev h:Nat} (hl:lev+1+h≤100):∀{kids:List V} {s:Nat},HI h s kids→∀{s0:Nat} {l0:List V} {x5:bB} {K:Fl→St→Prop},AX s0 l0→s0+s≤1000→Lv x5→
  (∀l1 x5',AX (s0+s) l1→Lv x5'→K .nxt [.inh mo,.v root,.own (.list l1),.v nd,.v (In lev),x5'])→
  cQ (fun x st K=>fF [5] x st fun st=>aq TT (ab n) GG (pI (az 3 (y8 (az 1 bZ.body)))) st K) kids [.inh mo,.v root,.own (.list l0),.v nd,.v (In lev),x5] K:=by
 intro kids
 induction kids with
 |nil=>intro s H s0 l0 x5 K S _ h5 c;cases H;exact c _ _ S h5
 |cons v kids ih=>
  intro s H s0 l0 x5 K S hz h5 c
  cases H with
  |@cons _ s1 s2 _ _ H1 H2=>
   have hlen:=S.len
   have p:=H1.pos
   have S2:AX (s0+s1) (l0++[.tup [v,In (lev+1)]]):=.snoc S H1 (by assumption)
   have go:=ih H2 (x5:=.v v) (K:=K) S2 (by lia) (.inr ⟨_,rfl⟩) (fun l1 x5' q=>c l1 x5' (by rw[← Nat.add_assoc];exact q))
   rcases h5 with rfl|⟨_,rfl⟩
   ·refine⟨trivial,?_⟩
    refine⟨by show l0.length < 1000000;lia,?_⟩
    exact go
   ·refine⟨trivial,?_⟩
    refine⟨by show l0.length < 1000000;lia,?_⟩
    exact go
theorem pR {mo:MO} {root:V} {K:Fl→St→Prop} (hK:∀st:St,st[0]?=some (.inh mo)→K .nxt st):∀{g s:Nat} {l:List V} {x3 x4 x5:bB},AX s l→s < g→s≤1000→Lv x3→Lv x4→Lv x5→
  cY (fun st K=>eV st 2 fun l ξ=>l.length≤bA∧K (!l.isEmpty) st) (aq TT (ab n) GG (y8 (az 1 bZ.body))) g [.inh mo,.v root,.own (.list l),x3,x4,x5] K:=by
 intro g
 induction g with
 |zero=>intro s l x3 x4 x5 _ h;lia
 |succ g ih=>
  intro s l x3 x4 x5 S hg hz h3 h4 h5
  have hlen:=S.len
  cases S with
  |nil=>exact⟨Nat.zero_le _,hK _ rfl⟩
  |@snoc s0 s1 h lev v l S H hh=>
   refine⟨by show _≤1000000;lia,?_⟩
   have e:(!(l++[V.tup [v,In lev]]).isEmpty)=true:=by cases l<;>rfl
   rw[e]
   refine⟨by show _≤1000000;lia,?_⟩
   refine af List.getLast?_concat ?_
   rw[List.dropLast_concat]
   have p:=H.pos
   have key:∀x3' x4':bB,aq TT (ab n) GG (az 1 (y8 (az 1 bZ.body))) [.inh mo,.v root,.own (.list l),.v v,.v (In lev),x5] (fun fl st=>match fl with
     |.nxt=>cY (fun st K=>eV st 2 fun l ξ=>l.length≤bA∧K (!l.isEmpty) st) (aq TT (ab n) GG (y8 (az 1 bZ.body))) g st K
     |.cnt=>cY (fun st K=>eV st 2 fun l ξ=>l.length≤bA∧K (!l.isEmpty) st) (aq TT (ab n) GG (y8 (az 1 bZ.body))) g st K
     |.brk=>K .nxt st
     |.ret v=>K (.ret v) st):=fun ξ ξ=>by
    cases H with
    |none=>exact ih S (by exact gC ‹_›) (by exact eJ ‹_› rfl) (.inr ⟨_,rfl⟩) (.inr ⟨_,rfl⟩) h5
    |@node h s1 k a kids f at_ HL=>
     first|refine ar (fV (a:=160) (b:=lev) (by lia)) ?_|refine av (fV (a:=160) (b:=lev) (by lia)) ?_|((conv=>whnf);rw[fV (a:=160) (b:=lev) (by lia)];trace "FALLBACK")
     refine uO (n:=n) (lev:=lev) (h:=h) (by exact kH ‹_›) HL S (by exact eJ ‹_› rfl) h5 fun l1 x5' S1 h5'=>?_
     exact ih S1 (by exact gC ‹_›) (by exact eJ ‹_› rfl) (.inr ⟨_,rfl⟩) (.inr ⟨_,rfl⟩) h5'
   rcases h3 with rfl|⟨_,rfl⟩<;>rcases h4 with rfl|⟨_,rfl⟩<;>exact key .un .un
theorem uz {mo:MO} {h s:Nat} (H:Hz h s v) (hh:h≤99) (hs:s≤1000) (c:K .none (some mo)):ab (n+1) 934 [.hole,v] (some (0,mo)) K:=by
 refine aa rfl rfl ?_
 refine pR (fun st h=>by show K .none (bm _ st);rw[p8 h];exact c) (s:=s) (l:=[.tup [v,In 1]]) ?_ (by rw[iO];exact aj ‹_› rfl) hs (.inl rfl) (.inl rfl) (.inl rfl)
 have:=AX.snoc (lev:=1) .nil H (by lia)
 rwa [Nat.zero_add] at this
variable {h:Nat}
theorem kX {x:T} (H:bx x v):Hz (h+1) 1 v:=by obtain⟨_,rfl⟩:=H;exact .node .nil
theorem mx {x:Option T} (H:bV x v):Hz (h+1) 1 v:=by
 cases x with
 |none=>cases H;exact .none
 |some x=>exact kX H
theorem mE {α:Type} {R:α→V→Prop} {b:Nat} (H:∀x v,R x v→∃s,s≤b∧Hz h s v) {xs:List α} {vs:List V} (A:aZ R xs vs):∃s,s≤b * xs.length∧HI h s vs:=by
 induction A with
 |nil=>exact⟨0,Nat.zero_le _,.nil⟩
 |cons q _ ih=>
  obtain⟨s1,l1,h1⟩:=H _ _ q
  obtain⟨s2,l2,h2⟩:=ih
  refine⟨s1+s2,?_,.cons h1 h2⟩
  rw[List.length_cons,Nat.mul_succ];lia
theorem yu {xs:List Tp} (hz:xs.length≤2) (H:eH xs v):∃s,s≤7∧Hz (h+3) s v:=by
 cases xs with
 |nil=>cases H;exact⟨1,by exact aj ‹_› rfl,.none⟩
 |cons x xs=>
  obtain⟨_,l,rfl,A⟩:=H
  obtain⟨s,l1,h1⟩:=mE (h:=h+2) (b:=3) (fun x v h=>by obtain⟨_,e,d,q,q1,q2⟩:=h;exact⟨3,Nat.le_refl _,by rw[q];exact .node (.cons (mx q1) (.cons (mx q2) .nil))⟩) A
  exact⟨s+1,by have:3 * (x::xs).length≤3 * 2:=Nat.mul_le_mul_left _ hz;lia,.node h1⟩
theorem It {dd:De} (hx:cf dd) (H:cZ dd v):∃s,s≤50∧Hz (h+4) s v:=by
 cases dd with
 |enum amb cst x ms=>
  obtain⟨_,l,rfl,A⟩:=H
  obtain⟨s,l1,h1⟩:=mE (h:=h+3) (b:=2) (fun x v h=>by obtain⟨_,i,q,q1⟩:=h;exact⟨2,Nat.le_refl _,by rw[q];exact .node (.cons (mx q1) .nil)⟩) A
  have:2 * ms.length≤2 * 3:=Nat.mul_le_mul_left _ hx.2.1
  exact⟨s+1,by lia,.node h1⟩
 |alias amb x tps ty=>
  obtain⟨_,t,y,rfl,h1,h2⟩:=H
  obtain⟨s,l1,h1⟩:=yu (h:=h) hx.2.2.1 h1
  exact⟨s+(1+0)+1,by lia,.node (.cons h1 (.cons (kX h2) .nil))⟩
 |iface amb x tps bs=>
  obtain⟨_,t,_,_,l,_,rfl,h1,A,_⟩:=H
  obtain⟨s,l1,h1⟩:=yu (h:=h) hx.2.1 h1
  obtain⟨s2,l2,h2⟩:=mE (h:=h+2) (b:=3) (fun (x:Rf) v (q:fR x∧fc x v)=>by
   obtain⟨q1,_,l,q,A⟩:=q
   obtain⟨s,l1,h1⟩:=mE (h:=h+1) (b:=1) (fun x v q=>⟨1,Nat.le_refl _,kX q⟩) A
   have:=q1.2.2
   exact⟨s+1,by lia,by rw[q];exact .node h1⟩) (show aZ (fun x v=>fR x∧fc x v) bs l by
    have hb:=hx.2.2.2.2
    clear hx h1 l1
    induction A with
    |nil=>exact .nil
    |cons q _ ih=>exact .cons ⟨hb _ (List.mem_cons_self ..),q⟩ (ih fun y hy=>hb y (List.mem_cons_of_mem _ hy)))
  have:3 * bs.length≤3 * 2:=Nat.mul_le_mul_left _ hx.2.2.2.1
  exact⟨s+(s2+1+(1+0))+1,by lia,.node (.cons h1 (.cons (.node h2) (.cons (.node .nil) .nil)))⟩
 |var amb wd ds=>
  obtain⟨_,l,rfl,A⟩:=H
  obtain⟨s,l1,h1⟩:=mE (h:=h+3) (b:=4) (fun x v h=>by obtain⟨_,n,t,i,q,q1,q2,q3⟩:=h;exact⟨4,Nat.le_refl _,by rw[q];exact .node (.cons (kX q1) (.cons (mx q2) (.cons (mx q3) .nil)))⟩) A
  have:4 * ds.length≤4 * 2:=Nat.mul_le_mul_left _ hx.2.2.1
  exact⟨s+1,by lia,.node h1⟩
theorem zT {mo:MO} {P:V→Nat→Prop} (c:∀v a',P v a'→K v (some (PS toks a' 1)))
  (H:∀K':KT,(∀v a',P v a'→K' v (some (PS toks a' 1)))→ab n 1025 [An,.hole] (some (1,PS toks a 1)) K'):ab (n+1) 920 [.hole,An] (some (0,PS toks a 1)) K:=by
 refine aa rfl rfl ?_
 refine⟨⟨rfl,aw rfl⟩,?_⟩
 refine⟨⟨rfl,aw rfl⟩,?_⟩
 refine⟨⟨rfl,aw rfl⟩,?_⟩
 refine⟨⟨rfl,aw rfl⟩,?_⟩
 refine⟨⟨rfl,aw rfl⟩,?_⟩
 refine H _ fun v a' hv=>?_
 refine⟨⟨rfl,aw rfl⟩,?_⟩
 refine⟨⟨rfl,aw rfl⟩,?_⟩
 refine⟨⟨rfl,aw rfl⟩,?_⟩
 refine⟨⟨rfl,aw rfl⟩,?_⟩
 refine⟨⟨rfl,aw rfl⟩,?_⟩
 exact c v a' hv
theorem nF {full:Bool} {sp:Nat} {dd:De} (hx:cf dd) (h:At toks a l) (ht:TR (du full sp dd) l r) (hr:eC r)
  (c:∀v a',cZ dd v→At toks a' r→K v (some (PS toks a' 0))):ab (n+16) 878 [.hole,In 3] (some (0,PS toks a 0)) K:=by
 refine aa rfl rfl ?_
 refine kS (by lia) ?_
 refine zT (mo:=PS toks a 0) (P:=fun v a'=>cZ dd v∧At toks a' r) (fun v a' hv=>?_) fun K' c'=>?_
 ·obtain⟨hv,h2⟩:=hv
  obtain⟨s,hs,H⟩:=It (h:=0) hx hv
  refine uz H (by lia) (by exact ag ‹_› rfl) ?_
  refine sx ?_
  exact c v a' hv h2
 ·refine aa rfl rfl ?_
  exact A6 (n:=n) (d:=0) hx (by lia) h ht hr fun v a' hv h=>c' v a' ⟨hv,h⟩
theorem qx {x y:T} (h:aW x y=true):x=y:=by rw[ct,beq_iff_eq] at h;exact h
inductive wt:List V→Prop
 |wd {t a e fr m}:t∈[bj,mS,dj]→wt (aC 2 t a e fr::m)
 |let_ {a e fr m}:wt (aC 1 n8 a e fr::m)
 |nm {t a e fr k t2 a2 e2 m}:t∈[bS,cV,dN]→k=1∨k=2→wt (aC 1 t a e fr::aC k t2 a2 e2 (.bool false)::m)
theorem rE (H:wt l) (h:At toks a l) (c:K (.bool true) (some (PS toks a d))):ab (n+2) 1552 [.hole] (some (0,PS toks a d)) K:=by
 refine aa rfl rfl ?_
 cases H with
 |wd ht=>
  refine aJ h ?_
  rcases List.mem_cons.mp ht with rfl|ht
  ·exact c
  rcases List.mem_cons.mp ht with rfl|ht
  ·exact c
  rcases List.mem_cons.mp ht with rfl|ht
  ·exact c
  first|replace h:=h.cast ht|cases ht
 |let_=>
  refine aJ h ?_
  exact c
 |nm ht hk=>
  refine aJ h ?_
  rcases List.mem_cons.mp ht with rfl|ht
  ·refine au h (j:=1) rfl ?_
   rcases hk with rfl|rfl
   ·refine au h (j:=1) rfl ?_
    exact c
   ·refine au h (j:=1) rfl ?_
    exact c
  rcases List.mem_cons.mp ht with rfl|ht
  ·refine au h (j:=1) rfl ?_
   rcases hk with rfl|rfl
   ·refine au h (j:=1) rfl ?_
    exact c
   ·refine au h (j:=1) rfl ?_
    exact c
  rcases List.mem_cons.mp ht with rfl|ht
  ·refine au h (j:=1) rfl ?_
   rcases hk with rfl|rfl
   ·refine au h (j:=1) rfl ?_
    exact c
   ·refine au h (j:=1) rfl ?_
    exact c
  first|replace h:=h.cast ht|cases ht
set_option tactic.hygienic true in
theorem Bb {full:Bool} {dd:De} (hx:cf dd) (ht:TR (du full 1 dd) l r):wt l:=by
 unfold du at ht
 cases ha:fv dd with
 |true=>
  rw[ha] at ht
  (induction ht using TR.elim;rename_i _ _ m ht)
  obtain⟨k,t,_,_,m2,rfl,hk⟩:=nl hx ht
  refine .nm (.tail _ (.tail _ (.head _))) ?_
  rcases List.mem_cons.mp hk with e|hk
  ·cases e;exact .inr rfl
  rcases List.mem_cons.mp hk with e|hk
  ·cases e;exact .inr rfl
  rcases List.mem_cons.mp hk with e|hk
  ·cases e;exact .inr rfl
  rcases List.mem_cons.mp hk with e|hk
  ·cases e;exact .inl rfl
  rcases List.mem_cons.mp hk with e|hk
  ·cases e;exact .inl rfl
  rcases List.mem_cons.mp hk with e|hk
  ·cases e;exact .inl rfl
  cases hk
 |false=>
  rw[ha] at ht
  cases dd with
  |enum amb cst x ms=>
   cases cst with
   |true=>(induction ht using TR.elim);exact .wd (.head _)
   |false=>(induction ht using TR.elim);exact .wd (.tail _ (.tail _ (.head _)))
  |alias amb x tps ty=>(induction ht using TR.elim;rename_i _ _ _ tr74;induction tr74 using TR.elim);exact .nm (.head _) (.inl rfl)
  |iface amb x tps bs=>(induction ht using TR.elim;rename_i _ _ _ tr76;induction tr76 using TR.elim);exact .nm (.tail _ (.head _)) (.inl rfl)
  |var amb wd ds=>
   have hw:=hx.1
   (induction ht using TR.elim)
   rcases List.mem_cons.mp hw with rfl|hw
   ·exact .let_
   rcases List.mem_cons.mp hw with rfl|hw
   ·exact .wd (.head _)
   rcases List.mem_cons.mp hw with rfl|hw
   ·exact .wd (.tail _ (.head _))
   cases hw
theorem ib {dd:De} (H:cZ dd v) (hv:∀a w ds,dd≠.var a w ds) (c:K (.bool true) none):ab (n+1) 1070 [v] none K:=by
 refine aa rfl rfl ?_
 cases dd with
 |enum amb cst x ms=>obtain⟨_,l,rfl,_⟩:=H;exact c
 |alias amb x tps ty=>obtain⟨_,_,_,rfl,_⟩:=H;exact c
 |iface amb x tps bs=>obtain⟨_,_,_,_,_,_,rfl,_⟩:=H;exact c
 |var amb wd ds=>exact absurd rfl (hv _ _ _)
set_option tactic.hygienic true in
theorem u6 {full:Bool} {sp:Nat} {dd:De} (hx:cf dd) (h:At toks a l) (ht:TR (kw sp dZ::du full 1 dd) l r) (hr:eC r)
  (c:∀v a',eY (.de true dd) v→At toks a' r→K v (some (PS toks a' 0))):ab (n+17) 1559 [.hole] (some (0,PS toks a 0)) K:=by
 refine aa rfl rfl ?_
 (induction ht using TR.elim;rename_i ta _ l ht)
 refine bp h rfl fun h2=>?_
 refine rE (n:=n+14) (Bb hx ht) h2 ?_
 refine nF hx h2 ht hr fun v a' hv h3=>?_
 cases dd with
 |var amb wd ds=>
  obtain⟨i,l,rfl,A⟩:=hv
  refine ca ?_
  exact c _ _ ⟨_,_,rfl,_,_,rfl,A⟩ h3
 |enum amb cst x ms=>
  have hv':=hv
  obtain⟨i,l,rfl,A⟩:=hv'
  refine ib hv nofun ?_
  refine ca ?_
  exact c _ _ ⟨_,_,rfl,hv⟩ h3
 |alias amb x tps ty=>
  have hv':=hv
  obtain⟨_,_,_,rfl,_⟩:=hv'
  refine ib hv nofun ?_
  refine ca ?_
  exact c _ _ ⟨_,_,rfl,hv⟩ h3
 |iface amb x tps bs=>
  have hv':=hv
  obtain⟨_,_,_,_,_,_,rfl,_⟩:=hv'
  refine ib hv nofun ?_
  refine ca ?_
  exact c _ _ ⟨_,_,rfl,hv⟩ h3
noncomputable def BO (r:List V):Prop:=∃s a e fr m,r=aC 5 s a e fr::m
set_option tactic.hygienic true in
theorem jR {o i:T} {F:Nat} {ta:V} {st:St} {K:Fl→St→Prop} (hst:st=[.inh (PS toks a d),.v (In F),.v ta,.un,.un]) (h:At toks a l)
  (ht:TR (nm 1 o::cond (aW o i) [] [nm 1 oT,nm 1 i]) l r) (hr:BO r)
  (c:∀v a' st',v=ao 69 (.tup [.str o,.str i]) [] F ta→st'[0]?=some (.inh (PS toks a' d))→At toks a' r→K (.ret v) st'):aq TT (ab (n+3)) GG (az 2 et.body) st K:=by
 subst hst
 refine bc fun G=>?_;obtain⟨s,_,_,_,_,rfl⟩:=hr
 refine G ?_;clear G;(induction ht using TR.elim;rename_i _ _ m ht)
 refine ai false h rfl ?_
 refine cg h fun h2=>?_
 cases q:aW o i with
 |true=>
  rw[q] at ht
  first|replace h:=h.cast ht|cases ht
  have:=qx q
  subst this
  refine B4 h2 rfl ?_
  refine aE ?_
  exact c _ _ _ rfl rfl h2
 |false=>
  rw[q] at ht
  (induction ht using TR.elim;rename_i _ _ _ tr83;induction tr83 using TR.elim;rename_i _ _ _ ht)
  first|replace h:=h.cast ht|cases ht
  refine lQ h2 rfl fun h3=>?_
  refine cg h3 fun h4=>?_
  refine aE ?_
  exact c _ _ _ rfl rfl h4
set_option tactic.hygienic true in
theorem uf {o i:T} {x:V} (h:At toks a (x::l)) (ht:TR (nm 1 o::cond (aW o i) [] [nm 1 oT,nm 1 i]) l r) (hr:BO r) (c:K (.bool true) (some (PS toks a d))):ab (n+2) 1545 [.hole] (some (0,PS toks a d)) K:=by
 refine bc fun G=>?_;obtain⟨s,_,_,_,_,rfl⟩:=hr
 refine G ?_;clear G;(induction ht using TR.elim;rename_i _ _ m ht)
 refine aa rfl rfl ?_
 refine au h (j:=1) rfl ?_
 refine au h (j:=1) rfl ?_
 cases q2:aW o oT with
 |false=>
  first|refine ar (q2) ?_|refine av (q2) ?_|((conv=>whnf);rw[q2];trace "FALLBACK")
  exact c
 |true=>
  first|refine ar (q2) ?_|refine av (q2) ?_|((conv=>whnf);rw[q2];trace "FALLBACK")
  cases q:aW o i with
  |true=>
   rw[q] at ht
   first|replace h:=h.cast ht|cases ht
   refine au h (j:=2) rfl ?_
   exact c
  |false=>
   rw[q] at ht
   (induction ht using TR.elim;rename_i _ _ _ tr86;induction tr86 using TR.elim;rename_i _ _ _ ht)
   refine au h (j:=2) rfl ?_
   refine au h (j:=2) rfl ?_
   refine au h (j:=3) rfl ?_
   exact c
set_option tactic.hygienic true in
theorem zc {i:T} {x:V} (h:At toks a (x::l)) (ht:TR (cond (aW bS i) [] [nm 1 oT,nm 1 i]) l r) (hr:BO r) (c:K (.bool false) (some (PS toks a d))):ab (n+2) 1545 [.hole] (some (0,PS toks a d)) K:=by
 refine bc fun G=>?_;obtain⟨s,_,_,_,_,rfl⟩:=hr
 refine G ?_;clear G;refine aa rfl rfl ?_
 cases q:aW bS i with
 |true=>
  rw[q] at ht
  first|replace h:=h.cast ht|cases ht
  refine au h (j:=1) rfl ?_
  exact c
 |false=>
  rw[q] at ht
  (induction ht using TR.elim;rename_i _ _ _ tr88;induction tr88 using TR.elim;rename_i _ _ _ ht)
  first|replace h:=h.cast ht|cases ht
  refine au h (j:=1) rfl ?_
  refine au h (j:=1) rfl ?_
  refine au h (j:=2) rfl ?_
  refine au h (j:=2) rfl ?_
  cases q2:aW i oT with
  |false=>
   conv=>whnf
   rw[q2]
   exact c
  |true=>
   first|refine ar (q2) ?_|refine av (q2) ?_|((conv=>whnf);rw[q2];trace "FALLBACK")
   refine au h (j:=3) rfl ?_
   exact c
set_option tactic.hygienic true in
theorem tW {x:eX} (h:At toks a l) (ht:TR (cb x) l r) (hr:BO r)
  (c:∀v a',cE x v→At toks a' r→K v (some (PS toks a' d))):ab (n+4) 1538 [.hole,In 0] (some (0,PS toks a d)) K:=by
 obtain⟨o,i,ty⟩:=x
 have fin:∀v a' (st':St) ta,v=ao 69 (.tup [.str o,.str i]) [] (fl ty gw) ta→st'[0]?=some (.inh (PS toks a' d))→At toks a' r→K v (bm (some (0,PS toks a d)) st'):=
  fun v a' st' ta e h0 h=>by rw[p8 h0];exact c v a' ⟨_,e⟩ h
 refine aa rfl rfl ?_
 cases ty with
 |true=>
  (induction ht using TR.elim;rename_i _ _ m ht)
  have t2:=ht
  (induction t2 using TR.elim;rename_i _ _ m2 _)
  refine aJ h ?_
  refine aS true h rfl ?_
  refine uf h ht hr ?_
  refine bp h rfl fun h2=>?_
  refine aJ h2 ?_
  exact jR rfl h2 ht hr fun v a' st' e=>fin v a' st' _ e
 |false=>
  have t2:=ht
  (induction t2 using TR.elim;rename_i _ _ m2 t2)
  refine aJ h ?_
  refine aS (aW o bS) h rfl ?_
  cases q:aW o bS with
  |false=>exact jR rfl h ht hr fun v a' st' e=>fin v a' st' _ e
  |true=>
   have:=qx q
   subst this
   refine zc h t2 hr ?_
   exact jR rfl h ht hr fun v a' st' e=>fin v a' st' _ e
end
theorem aZ.len {α β:Type} {R:α→β→Prop} {l:List α} {m:List β} (A:aZ R l m):m.length=l.length:=by
 induction A with
 |nil=>rfl
 |cons _ _ ih=>rw[List.length_cons,List.length_cons,ih]
section
variable {n k k' f m a d j h:Nat} {t t' s w raw:List Nat} {ta te fr at_ v x y z:V} {kids toks l r:List V} {K:KT} {b:Bool}
theorem iR {x1 x2 x3:V} {ns:List eX} (hz:ns.length≤3) (h:At toks a (aC 5 [123] x1 x2 x3::l)) (ht:TR (bg false cb ns) l (aC 5 [125] x y z::r))
  (c:∀vs a',aZ cE ns vs→At toks a' r→K (.list vs) (some (PS toks a' d))):ab (n+5) 1531 [.hole,In 0] (some (0,PS toks a d)) K:=by
 refine aa rfl rfl ?_
 refine bD true h rfl ?_
 refine bp h rfl fun h2=>?_
 refine qL (item:=cE) (P:=fun ξ=>True) (f:=cb) (mk:=fun a rows=>[.inh (PS toks a d),.v (In 0),.own (.list rows)]) (rows:=[]) ?_ ?_ ?_ ?_ (fun ξ ξ=>trivial) (kl (by exact aj ‹_› rfl)) (ae (by show 0+_ < _;lia)) h2 ht ?_
 ·intro x a l m rows K hx h t c
  have hh:∃t ta te fr m,l=aC 1 t ta te fr::m:=by
   refine bc fun G=>?_;obtain⟨o,i,ty⟩:=x
   refine G ?_;clear G;cases ty<;>((induction t using TR.elim);exact⟨_,_,_,_,_,rfl⟩)
  refine bc fun G=>?_;obtain⟨_,_,_,_,_,rfl⟩:=hh
  refine G ?_;clear G;refine bD false h rfl ?_
  exact c
 ·intro a rows K h c
  refine bD true h rfl ?_
  exact c
 ·intro x a l m ta te fr rows K hx h t hz c
  refine tW h t ⟨_,_,_,_,_,rfl⟩ fun v a' hv h2=>?_
  refine⟨hz,?_⟩
  refine b7 h2 rfl fun h3=>?_
  exact c _ _ hv h3
 ·intro x a l rows K hx h t hz c
  refine tW h t ⟨_,_,_,_,_,rfl⟩ fun v a' hv h2=>?_
  refine⟨hz,?_⟩
  refine cB h2 rfl ?_
  exact c _ _ hv h2
 ·intro vs a' A h3
  refine bO h3 rfl fun h4=>?_
  exact c _ _ A h4
theorem ln {ta:V} {vs:List V} {F:Nat} {fx:bB} {st:St} {K:Fl→St→Prop} {x1 x2 x3:V} (hst:st=[.inh (PS toks a d),.v ta,.v (.list vs),.v (In F),fx,.un])
  (h:At toks a (aC 4 w x1 x2 x3::l)) (he:B1 l r)
  (c:∀v a' st',v=ao 68 (.str w) vs F ta→st'[0]?=some (.inh (PS toks a' d))→At toks a' r→K (.ret v) st'):aq TT (ab (n+5)) GG (az 4 hV.body) st K:=by
 subst hst
 refine aJ h ?_
 refine bp h rfl fun h2=>?_
 refine qV h2 he fun a' h3=>?_
 refine aE ?_
 exact c _ _ _ rfl rfl h3
set_option tactic.hygienic true in
theorem ue {full:Bool} {sp:Nat} {ns:List eX} {only:Bool} (hx:cR (.imp w raw ns only)) (h:At toks a l) (ht:TR (gY full sp (.imp w raw ns only)) l r) (hr:eC r)
  (c:∀v a',eY (.imp w raw ns only) v→At toks a' r→K v (some (PS toks a' d))):ab (n+6) 1524 [.hole] (some (0,PS toks a d)) K:=by
 have fin:∀{vs ta} v a' (st':St),aZ cE ns vs→v=ao 68 (.str w) vs (fl only gw) ta→st'[0]?=some (.inh (PS toks a' d))→At toks a' r→K v (bm (some (0,PS toks a d)) st'):=
  fun v a' st' A e h0 h=>by rw[p8 h0];exact c v a' ⟨_,_,e,A⟩ h
 refine aa rfl rfl ?_
 cases ns with
 |nil=>
  cases only with
  |true=>
   (induction ht using TR.elim;rename_i _ _ _ tr94;induction tr94 using TR.elim;rename_i _ _ _ tr95;induction tr95 using TR.elim;rename_i _ _ _ tr96;induction tr96 using TR.elim;rename_i _ _ _ tr97;induction tr97 using TR.elim;rename_i _ _ _ ht)
   refine bp h rfl fun h2=>?_
   refine aJ h2 ?_
   refine aS false h2 rfl ?_
   refine iR (ns:=[]) (by decide) h2 rfl fun vs a' A h3=>?_
   cases A
   refine lQ h3 rfl fun h4=>?_
   exact ln rfl h4 (jF ht hr) fun v a' st' e=>fin v a' st' .nil e
  |false=>
   (induction ht using TR.elim;rename_i _ _ _ tr99;induction tr99 using TR.elim;rename_i _ _ _ ht)
   refine bp h rfl fun h2=>?_
   refine aJ h2 ?_
   exact ln rfl h2 (jF ht hr) fun v a' st' e=>fin v a' st' .nil e
 |cons x ns=>
  have hz:=hx.2.1
  have ho:only=false:=by
   cases only with
   |false=>rfl
   |true=>exact absurd (hx.2.2.2 rfl) (by intro zz;first|exact nn zz|exact nn zz.symm|exact ff zz|exact absurd zz List.not_mem_nil|cases zz)
  subst ho
  refine bc fun G=>?_;obtain⟨m1,t1,t2⟩:=mz.mp (show TR ((kw sp cA::sg 1 [123]::bg false cb (x::ns))++([sg 1 [125],nm 1 eE,⟨1,4,w,bk raw⟩]++dI full)) l r from by rw[← List.append_assoc];exact ht)
  clear ht
  refine G ?_;clear G;(induction t1 using TR.elim;rename_i _ _ _ tr101;induction tr101 using TR.elim;rename_i _ _ _ t1)
  (induction t2 using TR.elim;rename_i _ _ _ tr103;induction tr103 using TR.elim;rename_i _ _ _ tr104;induction tr104 using TR.elim;rename_i _ _ _ t2)
  refine bp h rfl fun h2=>?_
  refine aJ h2 ?_
  refine aS false h2 rfl ?_
  refine iR hz h2 t1 fun vs a' A h3=>?_
  have hl:=A.len
  cases A with
  |@cons _ v _ vs q A=>
   have e:c9 (.list (v::vs))=some true:=if_pos (ae (by rw[hl];exact aj ‹_› rfl))
   conv=>whnf
   refine af e ?_
   refine lQ h3 rfl fun h4=>?_
   exact ln rfl h4 (jF t2 hr) fun v a' st' e=>fin v a' st' (.cons q A) e
theorem vL {full:Bool} {sp:Nat} {s:Sm} (hx:cR s) (h:At toks a l) (ht:TR (gY full sp s) l r) (hr:eC r)
  (c:∀v a',eY s v→At toks a' r→K v (some (PS toks a' 0))):ab (n+18) 1517 [.hole] (some (0,PS toks a 0)) K:=by
 refine aa rfl rfl ?_
 cases s with
 |imp w raw ns only=>
  have hh:∃ta te fr m,l=aC 2 cA ta te fr::m:=by
   cases ns with
   |nil=>(induction ht using TR.elim);exact⟨_,_,_,_,rfl⟩
   |cons y ys=>(induction ht using TR.elim);exact⟨_,_,_,_,rfl⟩
  refine bc fun G=>?_;obtain⟨_,_,_,_,rfl⟩:=hh
  refine G ?_;clear G;refine ai true h rfl ?_
  exact ue hx h ht hr c
 |de ex dd=>
  cases ex with
  |true=>
   have ht:TR (kw sp dZ::du full 1 dd) l r:=ht
   have t2:=ht
   (induction t2 using TR.elim)
   refine ai false h rfl ?_
   refine ai true h rfl ?_
   exact u6 (sp:=sp) hx h ht hr c
  |false=>
   have ht:TR (du full sp dd) l r:=ht
   have hh:∃k t ta te fr m,l=aC k t ta te fr::m∧oJ k t 2 cA=false∧oJ k t 2 dZ=false:=by
    unfold du at ht
    cases ha:fv dd with
    |true=>rw[ha] at ht;(induction ht using TR.elim);exact⟨_,_,_,_,_,_,rfl,rfl,rfl⟩
    |false=>
     rw[ha] at ht
     cases dd with
     |enum amb cst x ms=>cases cst<;>((induction ht using TR.elim);exact⟨_,_,_,_,_,_,rfl,rfl,rfl⟩)
     |alias amb x tps ty=>(induction ht using TR.elim);exact⟨_,_,_,_,_,_,rfl,rfl,rfl⟩
     |iface amb x tps bs=>(induction ht using TR.elim);exact⟨_,_,_,_,_,_,rfl,rfl,rfl⟩
     |var amb wd ds=>
      have hw:=hx.1
      (induction ht using TR.elim)
      refine⟨_,_,_,_,_,_,rfl,?_⟩
      rcases List.mem_cons.mp hw with rfl|hw
      ·exact⟨rfl,rfl⟩
      rcases List.mem_cons.mp hw with rfl|hw
      ·exact⟨rfl,rfl⟩
      rcases List.mem_cons.mp hw with rfl|hw
      ·exact⟨rfl,rfl⟩
      cases hw
   refine bc fun G=>?_;obtain⟨_,_,_,_,_,_,rfl,e1,e2⟩:=hh
   refine G ?_;clear G;refine ai false h e1 ?_
   refine ai false h e2 ?_
   exact nF hx h ht hr c
theorem mI (c:K .none (some (.inst 211 [(1937207154,.list []),(1701603686,.str [])]))):ab (n+1) 194 [.hole] (some (0,.inst 211 [])) K:=by
 refine aa rfl rfl ?_
 exact⟨⟨rfl,aw rfl⟩,⟨rfl,aw rfl⟩,c⟩
theorem nX (c:K .none (some (.inst 1028 [(495606460279,.dict [])]))):ab (n+1) 1018 [.hole] (some (0,.inst 1028 [])) K:=by
 refine aa rfl rfl ?_
 exact⟨.inl ⟨[],rfl,.nil⟩,⟨rfl,aw rfl⟩,c⟩
theorem Bv (z:l.length≤bA):oq (.list l) .none .none=some (.list l):=by
 show(if l.length≤bA∧0≤bA∧l.length≤bA then some (V.list ((l.take l.length).drop 0)) else none)=_
 rw[if_pos ⟨z,Nat.zero_le _,z⟩,List.take_length];rfl
noncomputable abbrev M5 (toks:List V) (j:Nat):St:=[.inh (.inst 902 ((Gn (.dict []) toks 0 0).take j)),.v (.list toks),.v rU]
theorem Hp {K:Fl→St→Prop} (c:∀st,st[0]?=some (.inh (.inst 902 (Gn (.dict []) toks 0 0)))→K .nxt st):aq TT (ab n) GG (az 16 cT.body) (M5 toks 16) K:=by
 refine⟨⟨rfl,aw rfl⟩,?_⟩
 refine⟨⟨rfl,aw rfl⟩,?_⟩
 refine⟨.inl ⟨[],rfl,.nil⟩,?_⟩
 refine⟨⟨rfl,aw rfl⟩,?_⟩
 refine⟨.inl ⟨[],rfl,.nil⟩,?_⟩
 refine⟨⟨rfl,aw rfl⟩,?_⟩
 refine⟨⟨rfl,aw rfl⟩,?_⟩
 refine⟨⟨rfl,aw rfl⟩,?_⟩
 exact c _ rfl
theorem FX {K:Fl→St→Prop} (c:∀st,st[0]?=some (.inh (.inst 902 (Gn (.dict []) toks 0 0)))→K .nxt st):aq TT (ab n) GG (az 11 cT.body) (M5 toks 11) K:=by
 refine⟨⟨rfl,aw rfl⟩,?_⟩
 refine⟨⟨rfl,aw rfl⟩,?_⟩
 refine⟨⟨rfl,aw rfl⟩,?_⟩
 refine⟨⟨rfl,aw rfl⟩,?_⟩
 refine⟨⟨rfl,aw rfl⟩,?_⟩
 exact Hp c
theorem Gg {K:Fl→St→Prop} (c:∀st,st[0]?=some (.inh (.inst 902 (Gn (.dict []) toks 0 0)))→K .nxt st):aq TT (ab n) GG (az 6 cT.body) (M5 toks 6) K:=by
 refine⟨.inl ⟨[],rfl,.nil⟩,?_⟩
 refine⟨⟨rfl,aw rfl⟩,?_⟩
 refine⟨⟨rfl,aw rfl⟩,?_⟩
 refine⟨⟨rfl,aw rfl⟩,?_⟩
 refine⟨⟨rfl,aw rfl⟩,?_⟩
 refine⟨⟨rfl,aw rfl⟩,?_⟩
 exact FX c
theorem FW {K:Fl→St→Prop} (c:∀st,st[0]?=some (.inh (.inst 902 (Gn (.dict []) toks 0 0)))→K .nxt st):aq TT (ab n) GG (az 1 cT.body) (M5 toks 1) K:=by
 refine⟨⟨rfl,aw rfl⟩,?_⟩
 refine⟨⟨rfl,aw rfl⟩,?_⟩
 refine⟨.inl ⟨[],rfl,.nil⟩,?_⟩
 refine⟨⟨rfl,aw rfl⟩,?_⟩
 refine⟨.inl ⟨[],rfl,.nil⟩,?_⟩
 refine⟨⟨rfl,aw rfl⟩,?_⟩
 refine⟨.inl ⟨[],rfl,.nil⟩,?_⟩
 refine⟨⟨rfl,aw rfl⟩,?_⟩
 exact Gg c
theorem lp (z:toks.length≤bA) (c:K .none (some (.inst 902 (Gn (.dict []) toks 0 0)))):ab (n+1) 731 [.hole,.list toks,rU] (some (0,.inst 902 [])) K:=by
 refine aa rfl rfl ?_
 refine af (Bv z) ?_
 refine⟨⟨rfl,aw rfl⟩,?_⟩
 exact FW fun st h=>by show K .none (bm _ st);rw[p8 h];exact c
end
noncomputable def cN (full:Bool):Nat→List Sm→List LX
 |_,[]=>[]
 |sp,s::r=>gY full sp s++cN full 2 r
noncomputable def I3:S→S
 |.cons (.try_ b) _=>b
 |_=>.nil
section
variable {n k k' f m a d j h:Nat} {t t' s w raw:List Nat} {ta te fr at_ v x y z:V} {kids toks l r:List V} {K:KT} {b:Bool}
theorem sZ {full:Bool} {sp:Nat} {s:Sm} (hx:cR s) (ht:TR (gY full sp s) l r):∃k t ta te m,l=aC k t ta te (.bool (fresh sp))::m∧(k=1∨k=2):=by
 cases s with
 |imp w raw ns only=>
  cases ns with
  |nil=>(induction ht using TR.elim);exact⟨_,_,_,_,_,rfl,.inr rfl⟩
  |cons y ys=>(induction ht using TR.elim);exact⟨_,_,_,_,_,rfl,.inr rfl⟩
 |de ex dd=>
  cases ex with
  |true=>(induction ht using TR.elim);exact⟨_,_,_,_,_,rfl,.inr rfl⟩
  |false=>
   have ht:TR (du full sp dd) l r:=ht
   unfold du at ht
   cases ha:fv dd with
   |true=>rw[ha] at ht;(induction ht using TR.elim);exact⟨_,_,_,_,_,rfl,.inl rfl⟩
   |false=>
    rw[ha] at ht
    cases dd with
    |enum amb cst x ms=>cases cst<;>((induction ht using TR.elim);exact⟨_,_,_,_,_,rfl,.inr rfl⟩)
    |alias amb x tps ty=>(induction ht using TR.elim);exact⟨_,_,_,_,_,rfl,.inl rfl⟩
    |iface amb x tps bs=>(induction ht using TR.elim);exact⟨_,_,_,_,_,rfl,.inl rfl⟩
    |var amb wd ds=>
     have hw:=hx.1
     (induction ht using TR.elim)
     refine⟨_,_,_,_,_,rfl,?_⟩
     rcases List.mem_cons.mp hw with rfl|hw
     ·exact .inl rfl
     rcases List.mem_cons.mp hw with rfl|hw
     ·exact .inr rfl
     rcases List.mem_cons.mp hw with rfl|hw
     ·exact .inr rfl
     cases hw
noncomputable abbrev jk (e:V):V:=aC 0 [] e e (.bool true)
theorem rX {full:Bool} {ss:List Sm} {e:V} (hx:∀s∈ss,cR s) (ht:TR (cN full 2 ss) l [jk e]):eC l:=by
 cases ss with
 |nil=>cases ht;exact⟨_,_,_,_,_,rfl,rfl⟩
 |cons s ss=>
  refine dU ht fun m t1 ξ=>?_
  obtain⟨k,t,_,_,_,rfl,hk⟩:=sZ (hx s (List.mem_cons_self ..)) t1
  exact⟨_,_,_,_,_,rfl,by rcases hk with rfl|rfl<;>rfl⟩
theorem u7 {full:Bool} {e x0 x2 x3:V} {K:Fl→St→Prop}:∀{ss:List Sm} {g sp a:Nat} {l rows:List V},(∀s∈ss,cR s)→ss.length < g→rows.length+ss.length≤bA→At toks a l→TR (cN full sp ss) l [jk e]→
  (∀vs a',aZ eY ss vs→K .nxt [.v x0,.own (PS toks a' 0),.v x2,.v x3,.own (.list (rows++vs))])→
  wh (n+18) (I3 (az 6 ij.body)) g [.v x0,.own (PS toks a 0),.v x2,.v x3,.own (.list rows)] K:=by
 intro ss
 induction ss with
 |nil=>
  intro g sp a l rows _ hg _ h t c
  first|replace h:=h.cast t|cases t
  refine aK (by simpa using hg) ?_
  refine aJ h ?_
  have:=c [] a .nil
  rw[List.append_nil] at this
  exact this
 |cons s ss ih=>
  intro g sp a l rows hx hg hz h t c
  rw[List.length_cons] at hg hz
  refine dU t fun m t1 t2=>?_
  have hr:=rX (fun s hs=>hx s (List.mem_cons_of_mem _ hs)) t2
  have hh:=sZ (hx s (List.mem_cons_self ..)) t1
  refine bc fun G=>?_;obtain⟨k,t,_,_,_,rfl,hk⟩:=hh
  have go:∀v a',eY s v→At toks a' m→wh (n+18) (I3 (az 6 ij.body)) (g - 1) [.v x0,.own (PS toks a' 0),.v x2,.v x3,.own (.list (rows++[v]))] K:=fun v a' hv h2=>
   ih (fun s hs=>hx s (List.mem_cons_of_mem _ hs)) (by exact gC ‹_›) (by rw[List.length_append];show rows.length+1+ss.length≤bA;exact kH ‹_›) h2 t2 fun vs a'' A=>by
    rw[List.append_assoc]
    exact c (v::vs) a'' (.cons hv A)
  refine G ?_;clear G;refine aK (by exact c7 ‹_›) ?_
  refine aJ h ?_
  rcases hk with rfl|rfl
  ·refine vL (hx s (List.mem_cons_self ..)) h t1 hr fun v a' hv h2=>?_
   refine⟨by exact vr ‹_›,?_⟩
   exact go v a' hv h2
  ·refine vL (hx s (List.mem_cons_self ..)) h t1 hr fun v a' hv h2=>?_
   refine⟨by exact vr ‹_›,?_⟩
   exact go v a' hv h2
theorem j8 {full:Bool} {ss:List Sm} {e:V} (hx:∀s∈ss,cR s) (hs:ss.length≤100) (z:toks.length≤bA) (ht:TR (cN full 0 ss) toks [jk e]) (c:∀v,lD ss v→K v none):ab (n+19) 1704 [.list toks] none K:=by
 refine aa rfl rfl ?_
 refine mI ?_
 refine⟨rfl,?_⟩
 refine lp z ?_
 refine⟨rfl,?_⟩
 refine nX ?_
 refine⟨rfl,?_⟩
 refine⟨.inr ⟨[[108,101,116],[118,97,114],[99,111,110,115,116],[101,110,117,109],[116,121,112,101],[105,110,116,101,114,102,97,99,101],[100,101,99,108,97,114,101]],rfl,by decide⟩,?_⟩
 refine⟨⟨rfl,aw rfl⟩,?_⟩
 refine⟨.inl ⟨[2,10,1,7,9,3],rfl,by decide⟩,?_⟩
 refine⟨⟨rfl,aw rfl⟩,?_⟩
 refine u7 (n:=n) (toks:=toks) (a:=0) (l:=toks) (rows:=[]) hx (by rw[iO];exact aj ‹_› rfl) (by show 0+ss.length≤1000000;lia) ⟨rfl,z⟩ ht fun vs a' A=>?_
 refine ca ?_
 exact c _ ⟨_,_,rfl,A⟩
end
noncomputable def bY (p:T):Option T→T
 |none=>[]
 |some x=>p++x
noncomputable def fJ (b:Bool):T:=cond b [116,121,112,101,32] []
noncomputable def cw (x:eX):T:=cond (aW x.o x.i) (fJ x.ty++x.o) (((fJ x.ty++x.o)++[32,97,115,32])++x.i)
noncomputable def iy (b:Bool):T:=cond b [105,110,32] []
noncomputable def kv (x:Tp):T:=(cond x.out (iy x.inn++[111,117,116,32]) (iy x.inn)++(x.nm++bY [32,101,120,116,101,110,100,115,32] x.ext))++bY [32,61,32] x.dfl
noncomputable def dW:List Tp→T
 |[]=>[]
 |x::r=>([60]++aB [44,32] ((x::r).map kv))++[62]
noncomputable def gX (x:Rf):T:=match x.args with
 |[]=>JX x
 |y::r=>((JX x++[60])++aB [44,32] (y::r))++[62]
noncomputable def fX (x:Dc):T:=cond x.bang (x.nm++[33]) x.nm++bY [58,32] x.ty
noncomputable def fG (x:Dc):T:=match x.val with
 |none=>fX x
 |some y=>(fX x++[32,61,32])++y
noncomputable def kN (x:Mb):T:=x.raw++bY [32,61,32] x.val
noncomputable def bL (b:Bool):T:=cond b [100,101,99,108,97,114,101,32] []
noncomputable def cX:List Mb→List T
 |[]=>[]
 |x::r=>[10,32,32]::kN x::[44]::cX r
noncomputable def cn:List Mb→T
 |[]=>[123,125]
 |x::r=>(([123]++aB [] (cX (x::r)))++[10])++[125]
noncomputable def d7:List Rf→T
 |[]=>[]
 |x::r=>[32,101,120,116,101,110,100,115,32]++aB [44,32] ((x::r).map gX)
noncomputable def fu:De→T
 |.enum amb cst n ms=>(((cond cst (bL amb++[99,111,110,115,116,32]) (bL amb)++[101,110,117,109,32])++n)++[32])++cn ms
 |.alias amb n tps ty=>(((((bL amb++[116,121,112,101,32])++n)++dW tps)++[32,61,32])++ty)++[59]
 |.iface amb n tps bs=>(((((bL amb++[105,110,116,101,114,102,97,99,101,32])++n)++dW tps)++d7 bs)++[32])++[123,125]
 |.var amb wd ds=>(((bL amb++wd)++[32])++aB [44,32] (ds.map fG))++[59]
noncomputable def fb:Sm→T
 |.imp _ raw [] only=>cond only (([105,109,112,111,114,116,32,123,125,32,102,114,111,109,32]++bk raw)++[59]) (([105,109,112,111,114,116,32]++bk raw)++[59])
 |.imp _ raw (x::r) _=>((([105,109,112,111,114,116,32,123,32]++aB [44,32] ((x::r).map cw))++[32,125,32,102,114,111,109,32])++bk raw)++[59]
 |.de false d=>fu d
 |.de true d=>[101,120,112,111,114,116,32]++fu d
noncomputable def cy:List Sm→List T
 |[]=>[]
 |s::r=>fb s::[10]::cy r
noncomputable def eu (ss:List Sm):T:=aB [] (cy ss)
theorem dM {b c:Nat} {cU:T} (hs:cU.length≤c):∀{l:List T},(∀x∈l,x.length≤b)→(aB cU l).length≤(b+c) * l.length
 |[],_=>Nat.zero_le _
 |[a],h=>by
  have:=h a (List.mem_cons_self ..)
  show a.length≤(b+c) * 1
  lia
 |a::a'::r,h=>by
  have h1:=h a (List.mem_cons_self ..)
  have h2:=dM hs (l:=a'::r) fun x hx=>h x (List.mem_cons_of_mem _ hx)
  show((a++cU)++aB cU (a'::r)).length≤(b+c) * ((a'::r).length+1)
  rw[Nat.mul_succ,Nat.add_comm]
  exact ak (ak h1 hs) h2
theorem bo {x:T} (h:x∈names):x.length≤10:=by
 have:names.all (fun x=>Nat.ble x.length 10)=true:=rfl
 exact Nat.le_of_ble_eq_true (List.all_eq_true.mp this x h)
theorem iC {p:T} {x:Option T} (hp:p.length≤10) (h:Cv x):(bY p x).length≤20:=by
 cases x with
 |none=>exact Nat.zero_le _
 |some x=>exact ak hp (bo h)
theorem gO {w raw:T} (h:(w,raw)∈eG):raw.length≤16∧(bk raw).length≤16:=by
 have:eG.all (fun x=>Nat.ble x.2.length 16&&Nat.ble (bk x.2).length 16)=true:=rfl
 have:=List.all_eq_true.mp this _ h
 rw[Bool.and_eq_true] at this
 exact⟨Nat.le_of_ble_eq_true this.1,Nat.le_of_ble_eq_true this.2⟩
theorem gm {x:eX} (h:eS x):(cw x).length≤30:=by
 obtain⟨h1,h2⟩:=h
 have e1:x.o.length≤5:=by
  have:[bS,oT,[97],eE].all (fun x=>Nat.ble x.length 5)=true:=rfl
  exact Nat.le_of_ble_eq_true (List.all_eq_true.mp this _ h1)
 have e2:x.i.length≤5:=by
  rcases h2 with h2|h2
  ·have:[oT,bS,[98]].all (fun x=>Nat.ble x.length 5)=true:=rfl
   exact Nat.le_of_ble_eq_true (List.all_eq_true.mp this _ h2)
  ·rw[h2];exact e1
 have e3:(fJ x.ty).length≤5:=by cases x.ty<;>exact Nat.le_of_ble_eq_true rfl
 unfold cw
 cases aW x.o x.i
 ·exact ag (ak (ak (ak e3 e1) (Nat.le_refl 4)) e2) rfl
 ·exact ag (ak e3 e1) rfl
theorem og {x:Tp} (h:eU x):(kv x).length≤60:=by
 obtain⟨h1,h2,h3⟩:=h
 have e1:x.nm.length≤5:=by
  have:[[84],lg,[85]].all (fun x=>Nat.ble x.length 5)=true:=rfl
  exact Nat.le_of_ble_eq_true (List.all_eq_true.mp this _ h1)
 have e2:=iC (p:=[32,101,120,116,101,110,100,115,32]) (by decide) h2
 have e3:=iC (p:=[32,61,32]) (by decide) h3
 have e4:(cond x.out (iy x.inn++[111,117,116,32]) (iy x.inn)).length≤10:=by cases x.out<;>cases x.inn<;>exact Nat.le_of_ble_eq_true rfl
 exact ag (ak (ak e4 (ak e1 e2)) e3) rfl
theorem dm {α:Type} {f:α→T} {P:α→Prop} {b:Nat} {l:List α} (h:∀x∈l,P x) (hf:∀x,P x→(f x).length≤b):(aB [44,32] (l.map f)).length≤(b+2) * l.length:=by
 have:=dM (b:=b) (c:=2) (cU:=[44,32]) (Nat.le_refl _) (l:=l.map f) fun x hx=>by
  obtain⟨y,hy,rfl⟩:=List.mem_map.mp hx
  exact hf y (h y hy)
 rwa [List.length_map] at this
theorem iD {xs:List Tp} (h:∀x∈xs,eU x) (hz:xs.length≤2):(dW xs).length≤130:=by
 cases xs with
 |nil=>exact Nat.zero_le _
 |cons x r=>
  exact ag (ak (ak (Nat.le_refl 1) (Nat.le_trans (dm h fun x=>og) (Nat.mul_le_mul_left 62 hz))) (Nat.le_refl 1)) rfl
theorem lH {x:Rf} (h:fR x):(gX x).length≤40∧(JX x).length≤10:=by
 obtain⟨hd,tl,args⟩:=x
 obtain⟨h1,h2,h3⟩:=h
 have e1:(oM hd tl).length≤10:=by
  have:[([65],none),([69],some uD),(HG,none),(bS,some oT)].all (fun x=>Nat.ble (oM x.1 x.2).length 10)=true:=rfl
  exact Nat.le_of_ble_eq_true (List.all_eq_true.mp this _ h1)
 refine⟨?_,e1⟩
 cases args with
 |nil=>exact ag e1 rfl
 |cons y r=>
  have:=dM (b:=10) (c:=2) (cU:=[44,32]) (Nat.le_refl _) (l:=y::r) fun x hx=>bo (h2 x hx)
  exact ag (ak (ak (ak e1 (Nat.le_refl 1)) (Nat.le_trans this (Nat.mul_le_mul_left 12 h3))) (Nat.le_refl 1)) rfl
theorem l8 {amb cst:Bool} {x:Dc} (h:jQ amb cst x):(fG x).length≤60∧(fX x).length≤40:=by
 obtain⟨h1,h2,h3,_⟩:=h
 have e1:=bo h1
 have e2:=iC (p:=[58,32]) (by decide) h2
 have e4:(cond x.bang (x.nm++[33]) x.nm).length≤11:=by
  cases x.bang
  ·exact ag e1 rfl
  ·exact ak (y:=[33]) e1 (Nat.le_refl 1)
 have e5:(fX x).length≤40:=ag (ak e4 e2) rfl
 refine⟨?_,e5⟩
 unfold fG
 cases hv:x.val with
 |none=>exact ag e5 rfl
 |some y=>
  rw[hv] at h3
  exact ag (ak (ak e5 (Nat.le_refl 3)) (bo h3)) rfl
theorem vQ {x:Mb} (h:jl x):(kN x).length≤40:=by
 have e1:=(gO h.1).1
 have e2:=iC (p:=[32,61,32]) (by decide) h.2
 exact ag (ak e1 e2) rfl
noncomputable def sk:V:=.dict [(In 40,.inst 446 []),(In 8,.inst 1506 []),(In 68,.inst 484 []),(In 69,.inst 503 []),(In 70,.inst 522 []),(In 66,.inst 579 []),(In 67,.inst 598 []),(In 65,.inst 560 []),(In 64,.inst 541 []),(In 100,.inst 636 []),(In 81,.inst 617 []),(In 41,.inst 465 [])]
noncomputable def P4 (sh:V) (dp de:Nat):List (Nat×V):=[(126879514323059,sh),(448630121828,In dp),(1885693284,In de),(126879447608929,.inst 327 [])]
noncomputable abbrev PR (dp de:Nat):MO:=.inst 362 (P4 sk dp de)
section
variable {n k k' f m a d j h dp de:Nat} {t t' s w raw:List Nat} {ta te fr at_ v x y z:V} {kids toks l r:List V} {K:KT} {b:Bool}
theorem ku (c:K .none (some (.inst 362 (P4 (.dict []) 0 0)))):ab (n+1) 345 [.hole] (some (0,.inst 362 [])) K:=by
 refine aa rfl rfl ?_
 exact⟨.inl ⟨[],rfl,.nil⟩,⟨rfl,aw rfl⟩,⟨rfl,aw rfl⟩,⟨rfl,aw rfl⟩,⟨rfl,aw rfl⟩,c⟩
theorem cp (k cl ad:Nat) {a f kids' at_:V} (hs:kj (In k) (match sk with|.dict es=>es|_=>[])=some (some (.inst cl []))) (hm:TT.meth cl 1954047348=some ad) (hd:de < 100)
  (H:∀K':KT,K' (.str t) (some (PR dp (de+1)))→ab n ad [.inst cl [],.hole,.inst 38 (qv (In k) a kids' f at_)] (some (1,PR dp (de+1))) K')
  (c:K (.str t) (some (PR dp de))):ab (n+1) 352 [.hole,.inst 38 (qv (In k) a kids' f at_)] (some (0,PR dp de)) K:=by
 refine aa rfl rfl ?_
 refine af hs ?_
 refine⟨trivial,⟨rfl,aw rfl⟩,?_⟩
 first|refine ar (show decide (Int.ofNat 200 < Int.ofNat de+Int.ofNat 1)=false from fV (b:=de+1) (by omega)) ?_|refine av (show decide (Int.ofNat 200 < Int.ofNat de+Int.ofNat 1)=false from fV (b:=de+1) (by exact ag ‹_› rfl)) ?_|((conv=>whnf);rw[show decide (Int.ofNat 200 < Int.ofNat de+Int.ofNat 1)=false from fV (b:=de+1) (by omega)];trace "FALLBACK")
 refine af hm ?_
 refine H _ ?_
 refine⟨trivial,⟨rfl,aw rfl⟩,?_⟩
 first|refine ar (show Int.ofNat (de+1) - Int.ofNat 1=Int.ofNat de from by show((de+1:Nat):Int) - 1=(de:Int);omega) ?_|refine av (show Int.ofNat (de+1) - Int.ofNat 1=Int.ofNat de from by show((de+1:Nat):Int) - 1=(de:Int);omega) ?_|((conv=>whnf);rw[show Int.ofNat (de+1) - Int.ofNat 1=Int.ofNat de from by show((de+1:Nat):Int) - 1=(de:Int);omega];trace "FALLBACK")
 exact c
theorem iK {x:T} (hv:bx x v) (hd:de < 100) (c:K (.str x) (some (PR dp de))):ab (n+2) 352 [.hole,v] (some (0,PR dp de)) K:=by
 obtain⟨_,rfl⟩:=hv
 refine cp 8 1506 1503 rfl rfl hd (fun K' c'=>?_) c
 refine aa rfl rfl ?_
 exact c'
theorem jd {x:Option T} {p:T} (hv:bV x v) (hx:Cv x) (hp:p.length≤10) (hd:de < 100) (c:K (.str (bY p x)) (some (PR dp de))):ab (n+3) 408 [.hole,v,.str p] (some (0,PR dp de)) K:=by
 refine aa rfl rfl ?_
 cases x with
 |none=>cases hv;exact c
 |some x=>
  have hn:=bo hx
  have hv':=hv
  obtain⟨_,rfl⟩:=hv'
  refine iK hv hd ?_
  refine⟨ae (by(first|apply aj|apply ag);(· repeat' first|assumption|apply ak|exact Nat.le_refl _);rfl),?_⟩
  exact c
theorem gJ {l:List V} {ts:List T} (cU:T) (hs:cU.length≤bA) (e:l=ts.map V.str):Ae (.str cU) (.list l)=some (.str (aB cU ts)):=by
 subst e
 have:∀ts:List T,gg (ts.map V.str)=some ts:=fun ts=>by
  induction ts with
  |nil=>rfl
  |cons a r ih=>show(gg (r.map V.str)).map (a::·)=_;rw[ih];rfl
 show(if cU.length≤bA then(gg (ts.map V.str)).map fun x=>V.str (aB cU x) else none)=_
 rw[if_pos hs,this];rfl
theorem xz {α:Type} {item:α→V→Prop} {tx:α→T} {P:α→Prop} {K:Fl→St→Prop} {nd:V} {cU:T} (hn:∀x v,item x v→isNone v=false)
  (H:∀{x v} {K':KT},P x→item x v→K' (.str (tx x)) (some (PR dp de))→ab n 352 [.hole,v] (some (0,PR dp de)) K'):
  ∀{xs:List α} {vs:List V},aZ item xs vs→(∀x∈xs,P x)→∀{ts:List T} {x4:bB},ts.length+xs.length < bA→Lv x4→(∀x4',Lv x4'→K .nxt [.inh (PR dp de),.v nd,.v (.str cU),.own (.list ((ts++xs.map tx).map V.str)),x4'])→
   cQ (fun x st K=>fF [4] x st fun st=>aq TT (ab n) GG (pI (az 1 iS.body)) st K) vs [.inh (PR dp de),.v nd,.v (.str cU),.own (.list (ts.map V.str)),x4] K:=by
 intro xs vs A
 induction A with
 |nil=>
  intro _ ts x4 _ h4 c
  have:=c x4 h4
  rw[List.map_nil,List.append_nil] at this
  exact this
 |@cons x v xs vs q A ih=>
  intro hp ts x4 hz h4 c
  rw[List.length_cons] at hz
  have ih:=ih (fun y hy=>hp y (List.mem_cons_of_mem _ hy)) (ts:=ts++[tx x]) (x4:=.v v) (by rw[List.length_append];show ts.length+1+_ < _;exact LK ‹_›) (.inr ⟨_,rfl⟩) (fun x4' q=>by
   have:=c x4' q
   rw[List.append_assoc]
   exact this)
  have e1:=hn x v q
  have key:∀K2:KT,K2 (.str (tx x)) (some (PR dp de))→ab n 352 [.hole,v] (some (0,PR dp de)) K2:=fun K2 c2=>H (hp x (List.mem_cons_self ..)) q c2
  have e2:(ts.map V.str)++[.str (tx x)]=(ts++[tx x]).map V.str:=by rw[List.map_append];rfl
  rw[← e2] at ih
  rcases h4 with rfl|⟨_,rfl⟩
  ·conv=>whnf
   rw[e1]
   refine key _ ?_
   refine⟨by rw[List.length_map];exact vr ‹_›,?_⟩
   exact ih
  ·conv=>whnf
   rw[e1]
   refine key _ ?_
   refine⟨by rw[List.length_map];exact vr ‹_›,?_⟩
   exact ih
theorem ol {α:Type} {item:α→V→Prop} {tx:α→T} {P:α→Prop} {cU:T} (hn:∀x v,item x v→isNone v=false)
  (H:∀{x v} {K':KT},P x→item x v→K' (.str (tx x)) (some (PR dp de))→ab n 352 [.hole,v] (some (0,PR dp de)) K')
  {xs:List α} {vs:List V} (A:aZ item xs vs) (hp:∀x∈xs,P x) (hz:xs.length≤100) (hs:cU.length≤10) (hb:(aB cU (xs.map tx)).length≤1000)
  (c:K (.str (aB cU (xs.map tx))) (some (PR dp de))):ab (n+1) 394 [.hole,.list vs,.str cU] (some (0,PR dp de)) K:=by
 refine aa rfl rfl ?_
 refine xz (tx:=tx) (P:=P) hn H A hp (ts:=[]) (by show 0+_ < 1000000;lia) (.inl rfl) fun x4 ξ=>?_
 refine⟨rfl,?_⟩
 refine af (gJ cU (ae (by exact aj ‹_› rfl)) rfl) ?_
 refine⟨by show _≤1000000;rw[List.nil_append];exact ag ‹_› rfl,?_⟩
 exact c
theorem oA {x:T} (h:bx x v):isNone v=false:=by obtain⟨_,rfl⟩:=h;rfl
theorem pa {amb:Bool} {k a kids' at_:V} (c:K (.str (bL amb)) none):ab (n+1) 261 [.inst 38 (qv k a kids' (In (fl amb eo)) at_)] none K:=by
 refine aa rfl rfl ?_
 cases amb with
 |true=>
  refine⟨trivial,?_⟩
  refine⟨Nat.le_of_ble_eq_true rfl,?_⟩
  refine⟨trivial,?_⟩
  refine⟨trivial,?_⟩
  refine⟨trivial,?_⟩
  refine⟨trivial,?_⟩
  refine⟨trivial,?_⟩
  refine⟨trivial,?_⟩
  refine⟨trivial,?_⟩
  refine⟨rfl,?_⟩
  refine⟨Nat.le_of_ble_eq_true rfl,?_⟩
  exact c
 |false=>
  refine⟨trivial,?_⟩
  refine⟨trivial,?_⟩
  refine⟨trivial,?_⟩
  refine⟨trivial,?_⟩
  refine⟨trivial,?_⟩
  refine⟨trivial,?_⟩
  refine⟨trivial,?_⟩
  refine⟨trivial,?_⟩
  refine⟨rfl,?_⟩
  refine⟨Nat.le_of_ble_eq_true rfl,?_⟩
  exact c
theorem J4 {x:Tp} (hv:jY x v) (hx:eU x) (hd:de < 99) (c:K (.str (kv x)) (some (PR dp de))):ab (n+5) 352 [.hole,v] (some (0,PR dp de)) K:=by
 have hl:=og hx
 refine bc fun G=>?_;obtain⟨x,e,g,inn,out⟩:=x
 have hv:∃F a y z,F=fl inn M8+fl out wi∧v=ao 100 (.str x) [y,z] F a∧bV e y∧bV g z:=by obtain⟨a,y,z,h⟩:=hv;exact⟨_,a,y,z,rfl,h⟩
 obtain⟨F,i,y,z,hF,rfl,hy,hz⟩:=hv
 have e1:decide (Int.ofNat (F &&& 268435456)≠0)=inn:=by rw[hF];cases inn<;>cases out<;>rfl
 have e2:decide (Int.ofNat (F &&& 536870912)≠0)=out:=by rw[hF];cases inn<;>cases out<;>rfl
 clear hF
 refine G ?_;clear G;refine cp 100 636 633 rfl rfl (by exact ag ‹_› rfl) (fun K' c'=>?_) c
 have hl:((cond out (iy inn++[111,117,116,32]) (iy inn)++(x++bY [32,101,120,116,101,110,100,115,32] e))++bY [32,61,32] g).length≤60:=hl
 simp only[List.length_append] at hl
 refine aa rfl rfl ?_
 have key:∀A:T,A=cond out (iy inn++[111,117,116,32]) (iy inn)→aq TT (ab (n+3)) GG (az 2 em.body) [.v (.inst 636 []),.inh (PR dp (de+1)),.v (ao 100 (.str x) [y,z] F i),.v (.str A)] (fun fl st=>match fl with
   |.nxt=>K' .none (bm (some (1,PR dp (de+1))) st)
   |.ret v=>K' v (bm (some (1,PR dp (de+1))) st)
   |_=>False):=fun A hA=>by
  refine jd (n:=n) hy hx.2.1 (by decide) (by exact aj ‹_› rfl) ?_
  refine⟨ae (by rw[List.length_append];omega),?_⟩
  refine⟨ae (by rw[hA,List.length_append,List.length_append];omega),?_⟩
  refine jd (n:=n) hz hx.2.2 (by decide) (by exact aj ‹_› rfl) ?_
  refine⟨ae (by rw[hA,List.length_append,List.length_append,List.length_append];exact aj ‹_› rfl),?_⟩
  rw[hA]
  exact c'
 refine⟨trivial,?_⟩
 first|refine ar (e1) ?_|refine av (e1) ?_|((conv=>whnf);rw[e1];trace "FALLBACK")
 cases inn with
 |true=>
  refine⟨trivial,?_⟩
  first|refine ar (e2) ?_|refine av (e2) ?_|((conv=>whnf);rw[e2];trace "FALLBACK")
  cases out with
  |true=>
   refine⟨Nat.le_of_ble_eq_true rfl,?_⟩
   exact key _ rfl
  |false=>exact key _ rfl
 |false=>
  refine⟨trivial,?_⟩
  first|refine ar (e2) ?_|refine av (e2) ?_|((conv=>whnf);rw[e2];trace "FALLBACK")
  cases out with
  |true=>
   refine⟨Nat.le_of_ble_eq_true rfl,?_⟩
   exact key _ rfl
  |false=>exact key _ rfl
theorem r0 {x:Tp} (h:jY x v):isNone v=false:=by obtain⟨_,_,_,rfl,_⟩:=h;rfl
theorem nM {xs:List Tp} (hv:eH xs v) (hx:∀x∈xs,eU x) (hz:xs.length≤2) (hd:de < 99) (c:K (.str (dW xs)) (some (PR dp de))):ab (n+7) 401 [.hole,v] (some (0,PR dp de)) K:=by
 refine aa rfl rfl ?_
 cases xs with
 |nil=>cases hv;exact c
 |cons x xs=>
  have hl:=dm hx fun x=>og
  have hz:xs.length+1≤2:=hz
  have hl:(aB [44,32] ((x::xs).map kv)).length≤(60+2) * (xs.length+1):=hl
  obtain⟨_,l,rfl,A⟩:=hv
  have hll:l.length=xs.length+1:=A.len
  have e:c9 (.list l)=some true:=by
   have e1:c9 (.list l)=some (!l.isEmpty):=if_pos (ae (by exact fT ‹_› ‹_› rfl))
   rw[e1]
   cases l with
   |nil=>cases hll
   |cons=>rfl
  refine af e ?_
  refine ol (item:=jY) (P:=eU) (tx:=kv) (fun x v=>r0) (fun hp hv c=>J4 hv hp hd c) A hx (by show xs.length+1≤100;exact ag ‹_› rfl) (by decide) (by lia) ?_
  refine⟨ae (by rw[List.length_append];show 1+_ < _;lia),?_⟩
  refine⟨ae (by rw[List.length_append,List.length_append];show 1+_+1 < _;lia),?_⟩
  exact c
theorem Bz {x:eX} (hv:cE x v) (hx:eS x) (hd:de < 99) (c:K (.str (cw x)) (some (PR dp de))):ab (n+2) 352 [.hole,v] (some (0,PR dp de)) K:=by
 have hl:=gm hx
 refine bc fun G=>?_;obtain⟨o,i,ty⟩:=x
 have hv:∃F a,F=fl ty gw∧v=ao 69 (.tup [.str o,.str i]) [] F a:=by obtain⟨a,h⟩:=hv;exact⟨_,a,rfl,h⟩
 obtain⟨F,i',hF,rfl⟩:=hv
 have e1:decide (Int.ofNat (F &&& 134217728)≠0)=ty:=by rw[hF];cases ty<;>rfl
 clear hF
 refine G ?_;clear G;refine cp 69 503 500 rfl rfl (by exact ag ‹_› rfl) (fun K' c'=>?_) c
 refine aa rfl rfl ?_
 refine⟨trivial,?_⟩
 have c':K' (.str (cond (aW o i) (fJ ty++o) (((fJ ty++o)++[32,97,115,32])++i))) (some (PR dp (de+1))):=c'
 have hl:(cond (aW o i) (fJ ty++o) (((fJ ty++o)++[32,97,115,32])++i)).length≤30:=hl
 have key:∀A:T,A=fJ ty→aq TT (ab n) GG (az 2 dX.body) [.v (.inst 503 []),.inh (PR dp (de+1)),.v (ao 69 (.tup [.str o,.str i]) [] F i'),.v (.str o),.v (.str i),.v (.str A)] (fun fl st=>match fl with
   |.nxt=>K' .none (bm (some (1,PR dp (de+1))) st)
   |.ret v=>K' v (bm (some (1,PR dp (de+1))) st)
   |_=>False):=fun A hA=>by
  subst hA
  cases q:aW o i with
  |true=>
   rw[q] at c' hl
   first|refine ar (q) ?_|refine av (q) ?_|((conv=>whnf);rw[q];trace "FALLBACK")
   exact⟨ae (Nat.lt_of_le_of_lt hl (by lia)),c'⟩
  |false=>
   rw[q] at c' hl
   have hl:(((fJ ty++o)++[32,97,115,32])++i).length≤30:=hl
   have h2:=hl
   simp only[List.length_append] at h2
   first|refine ar (q) ?_|refine av (q) ?_|((conv=>whnf);rw[q];trace "FALLBACK")
   refine⟨ae (by rw[List.length_append];lia),?_⟩
   refine⟨ae (by rw[List.length_append,List.length_append];lia),?_⟩
   exact⟨ae (Nat.lt_of_le_of_lt hl (by lia)),c'⟩
 first|refine ar (e1) ?_|refine av (e1) ?_|((conv=>whnf);rw[e1];trace "FALLBACK")
 cases ty with
 |true=>exact key _ rfl
 |false=>exact key _ rfl
theorem nU {x:eX} (h:cE x v):isNone v=false:=by obtain⟨_,rfl⟩:=h;rfl
theorem Mk {x:Rf} (hv:fc x v) (hx:fR x) (hd:de < 98) (c:K (.str (gX x)) (some (PR dp de))):ab (n+5) 352 [.hole,v] (some (0,PR dp de)) K:=by
 refine bc fun G=>?_;obtain⟨hl,hn⟩:=lH hx
 obtain⟨hd',tl,args⟩:=x
 obtain⟨h1,h2,h3⟩:=hx
 obtain⟨i,l,rfl,A⟩:=hv
 have h3:args.length≤2:=h3
 refine G ?_;clear G;refine cp 81 617 614 rfl rfl (by exact ag ‹_› rfl) (fun K' c'=>?_) c
 refine aa rfl rfl ?_
 have hll:=A.len
 cases args with
 |nil=>
  cases A
  exact c'
 |cons y r=>
  have h3:r.length+1≤2:=h3
  have hll:l.length=r.length+1:=hll
  have e:c9 (.list l)=some true:=by
   have e1:c9 (.list l)=some (!l.isEmpty):=if_pos (ae (by exact fT ‹_› ‹_› rfl))
   rw[e1]
   cases l with
   |nil=>cases hll
   |cons=>rfl
  have hl:(((oM hd' tl++[60])++aB [44,32] (y::r))++[62]).length≤40:=hl
  have h4:=hl
  simp only[List.length_append] at h4
  have hid:(y::r).map (fun x:T=>x)=y::r:=List.map_id' _
  refine af e ?_
  refine⟨ae (by(first|apply aj|apply ag);(· repeat' first|assumption|apply ak|exact Nat.le_refl _);rfl),?_⟩
  refine ol (item:=bx) (P:=fun x=>x∈names) (tx:=fun x=>x) (fun x v=>oA) (fun ξ hv c=>iK hv (by exact aj ‹_› rfl) c) A h2 (by show r.length+1≤100;exact ag ‹_› rfl) (by decide) (by rw[hid];lia) ?_
  rw[hid]
  refine⟨ae (by rw[List.length_append,List.length_append];show _+1+_ < _;exact ag ‹_› rfl),?_⟩
  exact⟨ae (Nat.lt_of_le_of_lt hl (by lia)),c'⟩
theorem ru {x:Rf} (h:fc x v):isNone v=false:=by obtain⟨_,_,rfl,_⟩:=h;rfl
theorem iZ {amb cst:Bool} {x:Dc} (hv:fP x v) (hx:jQ amb cst x) (hd:de < 98) (c:K (.str (fG x)) (some (PR dp de))):ab (n+4) 422 [.hole,v,.bool false] (some (0,PR dp de)) K:=by
 refine bc fun G=>?_;obtain⟨hl,hlA⟩:=l8 hx
 obtain⟨x,e,g,bang⟩:=x
 obtain⟨h1,h2,h3,_⟩:=hx
 have hn:x.length≤10:=bo h1
 have hv:∃F a n t i,F=fl bang sI∧v=ao 42 (.str []) [n,t,i] F a∧bx x n∧bV e t∧bV g i:=by obtain⟨a,n,t,i,h⟩:=hv;exact⟨_,a,n,t,i,rfl,h⟩
 obtain⟨F,i0,nv,tv,iv,hF,rfl,q1,q2,q3⟩:=hv
 have e1:decide (Int.ofNat (F &&& 2097152)≠0)=bang:=by rw[hF];cases bang<;>rfl
 clear hF
 have hlA:(cond bang (x++[33]) x++bY [58,32] e).length≤40:=hlA
 refine G ?_;clear G;refine aa rfl rfl ?_
 have key:∀A:T,A=cond bang (x++[33]) x→aq TT (ab (n+3)) GG (az 2 ka.body) [.inh (PR dp de),.v (ao 42 (.str []) [nv,tv,iv] F i0),.v (.bool false),.v (.str A),.un] (fun fl st=>match fl with
   |.nxt=>K .none (bm (some (0,PR dp de)) st)
   |.ret v=>K v (bm (some (0,PR dp de)) st)
   |_=>False):=fun A hA=>by
  refine jd (n:=n) q2 h2 (by decide) (by exact ag ‹_› rfl) ?_
  refine⟨ae (by rw[hA];exact aj ‹_› rfl),?_⟩
  cases g with
  |none=>
   cases q3
   rw[hA]
   exact c
  |some y=>
   have h3:=bo h3
   have hl:(((cond bang (x++[33]) x++bY [58,32] e)++[32,61,32])++y).length≤60:=hl
   have q4:=q3
   obtain⟨_,rfl⟩:=q4
   refine⟨ae (by rw[hA,List.length_append];show _+3 < _;lia),?_⟩
   refine iK (n:=n+1) q3 (by exact ag ‹_› rfl) ?_
   rw[hA]
   exact⟨ae (Nat.lt_of_le_of_lt hl (by lia)),c⟩
 refine iK (n:=n+1) q1 (by exact ag ‹_› rfl) ?_
 refine⟨trivial,?_⟩
 first|refine ar (e1) ?_|refine av (e1) ?_|((conv=>whnf);rw[e1];trace "FALLBACK")
 cases bang with
 |true=>
  refine⟨ae (by(first|apply aj|apply ag);(· repeat' first|assumption|apply ak|exact Nat.le_refl _);rfl),?_⟩
  exact key _ rfl
 |false=>exact key _ rfl
theorem wa {amb cst:Bool} {K:Fl→St→Prop} {nd:V} (hd:de < 98):
  ∀{xs:List Dc} {vs:List V},aZ fP xs vs→(∀x∈xs,jQ amb cst x)→∀{ts:List T} {x4:bB},ts.length+xs.length < bA→Lv x4→(∀x4',Lv x4'→K .nxt [.inh (PR dp de),.v nd,.v (.bool false),.own (.list ((ts++xs.map fG).map V.str)),x4'])→
   cQ (fun x st K=>fF [4] x st fun st=>aq TT (ab (n+4)) GG (pI (az 1 lT.body)) st K) vs [.inh (PR dp de),.v nd,.v (.bool false),.own (.list (ts.map V.str)),x4] K:=by
 intro xs vs A
 induction A with
 |nil=>
  intro _ ts x4 _ h4 c
  have:=c x4 h4
  rw[List.map_nil,List.append_nil] at this
  exact this
 |@cons x v xs vs q A ih=>
  intro hp ts x4 hz h4 c
  rw[List.length_cons] at hz
  have ih:=ih (fun y hy=>hp y (List.mem_cons_of_mem _ hy)) (ts:=ts++[fG x]) (x4:=.v v) (by rw[List.length_append];show ts.length+1+_ < _;exact LK ‹_›) (.inr ⟨_,rfl⟩) (fun x4' q=>by
   have:=c x4' q
   rw[List.append_assoc]
   exact this)
  have e2:(ts.map V.str)++[.str (fG x)]=(ts++[fG x]).map V.str:=by rw[List.map_append];rfl
  rw[← e2] at ih
  rcases h4 with rfl|⟨_,rfl⟩
  ·refine iZ (n:=n) q (hp x (List.mem_cons_self ..)) hd ?_
   refine⟨by rw[List.length_map];exact vr ‹_›,?_⟩
   exact ih
  ·refine iZ (n:=n) q (hp x (List.mem_cons_self ..)) hd ?_
   refine⟨by rw[List.length_map];exact vr ‹_›,?_⟩
   exact ih
theorem pC {wd:T} (h:wd∈[n8,bj,mS]):wd.length≤5:=by
 have:[n8,bj,mS].all (fun x=>Nat.ble x.length 5)=true:=rfl
 exact Nat.le_of_ble_eq_true (List.all_eq_true.mp this _ h)
theorem gL (b:Bool):(bL b).length≤8:=by cases b<;>exact Nat.le_of_ble_eq_true rfl
theorem Hl {amb:Bool} {wd:T} {ds:List Dc} (hv:cZ (.var amb wd ds) v) (hx:cf (.var amb wd ds)) (hd:de < 97) (c:K (.str (fu (.var amb wd ds))) (some (PR dp de))):ab (n+7) 352 [.hole,v] (some (0,PR dp de)) K:=by
 refine bc fun G=>?_;obtain⟨h1,_,h3,h4⟩:=hx
 obtain⟨i,l,rfl,A⟩:=hv
 have e1:=pC h1
 have e2:=gL amb
 have e3:=dm h4 fun x hx=>(l8 hx).1
 refine G ?_;clear G;refine cp 41 465 462 rfl rfl (by exact ag ‹_› rfl) (fun K' c'=>?_) c
 refine aa rfl rfl ?_
 refine aa rfl rfl ?_
 refine wa (n:=n) (amb:=amb) (cst:=aW wd bj) (by exact aj ‹_› rfl) A h4 (ts:=[]) (by show 0+_ < 1000000;lia) (.inl rfl) fun x4 ξ=>?_
 refine pa (amb:=amb) ?_
 refine⟨ae (by(first|apply aj|apply ag);(· repeat' first|assumption|apply ak|exact Nat.le_refl _);rfl),?_⟩
 refine⟨ae (by(first|apply aj|apply ag);(· repeat' first|assumption|apply ak|exact Nat.le_refl _);rfl),?_⟩
 refine⟨rfl,?_⟩
 refine af (gJ [44,32] (by decide) rfl) ?_
 rw[List.nil_append]
 refine⟨by show _≤1000000;lia,?_⟩
 refine⟨ae (by rw[List.length_append,List.length_append,List.length_append];show _+_+1+_ < _;lia),?_⟩
 refine⟨ae (by rw[List.length_append,List.length_append,List.length_append,List.length_append];show _+_+1+_+1 < _;lia),?_⟩
 exact c'
theorem iB (hk:(w,raw)∈eG) (c:K (.str (bk raw)) none):ab (n+2) 240 [.str w] none K:=by
 refine aa rfl rfl ?_
 induction hk using cP
 ·refine aa rfl rfl ?_
  refine⟨Nat.le_of_ble_eq_true rfl,?_⟩
  refine⟨Nat.le_of_ble_eq_true rfl,?_⟩
  refine⟨rfl,?_⟩
  refine⟨Nat.le_of_ble_eq_true rfl,?_⟩
  exact c
 ·refine aa rfl rfl ?_
  refine⟨Nat.le_of_ble_eq_true rfl,?_⟩
  refine aa rfl rfl ?_
  refine⟨Nat.le_of_ble_eq_true rfl,?_⟩
  refine⟨Nat.le_of_ble_eq_true rfl,?_⟩
  refine⟨rfl,?_⟩
  refine⟨Nat.le_of_ble_eq_true rfl,?_⟩
  exact c
 ·refine aa rfl rfl ?_
  refine⟨Nat.le_of_ble_eq_true rfl,?_⟩
  refine aa rfl rfl ?_
  refine⟨Nat.le_of_ble_eq_true rfl,?_⟩
  refine aa rfl rfl ?_
  refine⟨Nat.le_of_ble_eq_true rfl,?_⟩
  refine⟨Nat.le_of_ble_eq_true rfl,?_⟩
  refine⟨rfl,?_⟩
  refine⟨Nat.le_of_ble_eq_true rfl,?_⟩
  exact c
 ·refine⟨Nat.le_of_ble_eq_true rfl,?_⟩
  refine⟨rfl,?_⟩
  refine⟨Nat.le_of_ble_eq_true rfl,?_⟩
  exact c
 ·refine aa rfl rfl ?_
  refine⟨Nat.le_of_ble_eq_true rfl,?_⟩
  refine⟨Nat.le_of_ble_eq_true rfl,?_⟩
  refine aa rfl rfl ?_
  refine⟨Nat.le_of_ble_eq_true rfl,?_⟩
  refine aa rfl rfl ?_
  refine⟨Nat.le_of_ble_eq_true rfl,?_⟩
  refine aa rfl rfl ?_
  refine⟨trivial,?_⟩
  refine⟨Nat.le_of_ble_eq_true rfl,?_⟩
  refine⟨trivial,?_⟩
  refine⟨Nat.le_of_ble_eq_true rfl,?_⟩
  refine⟨Nat.le_of_ble_eq_true rfl,?_⟩
  refine⟨Nat.le_of_ble_eq_true rfl,?_⟩
  refine⟨rfl,?_⟩
  refine⟨Nat.le_of_ble_eq_true rfl,?_⟩
  exact c
 ·refine aa rfl rfl ?_
  refine⟨Nat.le_of_ble_eq_true rfl,?_⟩
  refine aa rfl rfl ?_
  refine⟨Nat.le_of_ble_eq_true rfl,?_⟩
  refine aa rfl rfl ?_
  refine⟨Nat.le_of_ble_eq_true rfl,?_⟩
  refine⟨Nat.le_of_ble_eq_true rfl,?_⟩
  refine⟨rfl,?_⟩
  refine⟨Nat.le_of_ble_eq_true rfl,?_⟩
  exact c
noncomputable def wK (raw:T):Bool:=match raw with
 |[]=>false
 |c::_=>!Nat.beq c 34
theorem BK (hk:(w,raw)∈eG) (c:K (.bool (wK raw)) none):ab (n+2) 254 [.str w] none K:=by
 refine aa rfl rfl ?_
 induction hk using cP
 ·refine aa rfl rfl ?_
  exact c
 ·refine aa rfl rfl ?_
  refine aa rfl rfl ?_
  exact c
 ·refine aa rfl rfl ?_
  refine aa rfl rfl ?_
  exact c
 ·exact c
 ·refine aa rfl rfl ?_
  refine aa rfl rfl ?_
  exact c
 ·refine aa rfl rfl ?_
  refine aa rfl rfl ?_
  refine aa rfl rfl ?_
  exact c
theorem zM (hk:(w,raw)∈eG):cond (wK raw) w (bk raw)=raw:=by
 induction hk using cP
 ·rfl
 ·rfl
 ·rfl
 ·rfl
 ·rfl
 ·rfl
theorem C4 {x:Mb} (hv:hH x v) (hx:jl x) (hd:de < 98) (c:K (.str (kN x)) (some (PR dp de))):ab (n+5) 352 [.hole,v] (some (0,PR dp de)) K:=by
 have hl:=vQ hx
 refine bc fun G=>?_;obtain⟨w,raw,e⟩:=x
 obtain⟨hk,he⟩:=hx
 obtain⟨i,iv,rfl,hi⟩:=hv
 have hr:=zM hk
 refine G ?_;clear G;refine cp 67 598 595 rfl rfl (by exact ag ‹_› rfl) (fun K' c'=>?_) c
 refine aa rfl rfl ?_
 refine BK (n:=n+1) hk ?_
 cases q:wK raw with
 |true=>
  rw[q] at hr
  have hr:w=raw:=hr
  refine jd (n:=n) hi he (by decide) (by exact aj ‹_› rfl) ?_
  rw[show(Mb.mk w raw e).w=raw from hr]
  exact⟨ae (Nat.lt_of_le_of_lt hl (by lia)),c'⟩
 |false=>
  rw[q] at hr
  have hr:bk raw=raw:=hr
  refine iB (n:=n+1) hk ?_
  refine jd (n:=n) hi he (by decide) (by exact aj ‹_› rfl) ?_
  rw[hr]
  exact⟨ae (Nat.lt_of_le_of_lt hl (by lia)),c'⟩
theorem wx {amb:Bool} {x ty:T} {tps:List Tp} (hv:cZ (.alias amb x tps ty) v) (hx:cf (.alias amb x tps ty)) (hd:de < 97) (c:K (.str (fu (.alias amb x tps ty))) (some (PR dp de))):ab (n+9) 352 [.hole,v] (some (0,PR dp de)) K:=by
 refine bc fun G=>?_;obtain⟨h1,h2,h3,h4⟩:=hx
 obtain⟨i,tv,yv,rfl,q1,q2⟩:=hv
 have e1:=bo h1
 have e2:=gL amb
 have e3:=iD h4 h3
 have e4:=bo h2
 refine G ?_;clear G;refine cp 65 560 557 rfl rfl (by exact ag ‹_› rfl) (fun K' c'=>?_) c
 refine aa rfl rfl ?_
 refine pa (amb:=amb) ?_
 refine⟨ae (by(first|apply aj|apply ag);(· repeat' first|assumption|apply ak|exact Nat.le_refl _);rfl),?_⟩
 refine⟨ae (by(first|apply aj|apply ag);(· repeat' first|assumption|apply ak|exact Nat.le_refl _);rfl),?_⟩
 refine nM (n:=n) q1 h4 h3 (by exact aj ‹_› rfl) ?_
 refine⟨ae (by(first|apply aj|apply ag);(· repeat' first|assumption|apply ak|exact Nat.le_refl _);rfl),?_⟩
 refine⟨ae (by(first|apply aj|apply ag);(· repeat' first|assumption|apply ak|exact Nat.le_refl _);rfl),?_⟩
 refine iK (n:=n+5) q2 (by exact aj ‹_› rfl) ?_
 refine⟨ae (by(first|apply aj|apply ag);(· repeat' first|assumption|apply ak|exact Nat.le_refl _);rfl),?_⟩
 refine⟨ae (by(first|apply aj|apply ag);(· repeat' first|assumption|apply ak|exact Nat.le_refl _);rfl),?_⟩
 exact c'
theorem lV (c:K (.str [10,32,32]) (some (PR 1 de))):ab (n+1) 373 [.hole] (some (0,PR 1 de)) K:=by
 refine aa rfl rfl ?_
 refine⟨Nat.le_of_ble_eq_true rfl,?_⟩
 refine⟨Nat.le_of_ble_eq_true rfl,?_⟩
 exact c
theorem rD (c:K (.str [10]) (some (PR 0 de))):ab (n+1) 373 [.hole] (some (0,PR 0 de)) K:=by
 refine aa rfl rfl ?_
 refine⟨Nat.le_of_ble_eq_true rfl,?_⟩
 refine⟨Nat.le_of_ble_eq_true rfl,?_⟩
 exact c
theorem By {K:Fl→St→Prop} {nd:V} (hd:de < 98):
  ∀{xs:List Mb} {vs:List V},aZ hH xs vs→(∀x∈xs,jl x)→∀{ts:List T} {x4:bB},ts.length+3 * xs.length < 1000→Lv x4→(∀x4',Lv x4'→K .nxt [.inh (PR 1 de),.v nd,.v (.str [44]),.own (.list ((ts++cX xs).map V.str)),x4'])→
   cQ (fun x st K=>fF [4] x st fun st=>aq TT (ab (n+5)) GG (pI (az 2 j4.body)) st K) vs [.inh (PR 1 de),.v nd,.v (.str [44]),.own (.list (ts.map V.str)),x4] K:=by
 intro xs vs A
 induction A with
 |nil=>
  intro _ ts x4 _ h4 c
  have:=c x4 h4
  rw[show cX []=[] from rfl,List.append_nil] at this
  exact this
 |@cons x v xs vs q A ih=>
  intro hp ts x4 hz h4 c
  rw[List.length_cons] at hz
  have ih:=ih (fun y hy=>hp y (List.mem_cons_of_mem _ hy)) (ts:=ts++[[10,32,32],kN x,[44]]) (x4:=.v v) (by rw[List.length_append];show ts.length+3+_ < _;lia) (.inr ⟨_,rfl⟩) (fun x4' q=>by
   have:=c x4' q
   rw[List.append_assoc]
   exact this)
  have e2:((ts.map V.str++[.str [10,32,32]])++[.str (kN x)])++[.str [44]]=(ts++[[10,32,32],kN x,[44]]).map V.str:=by rw[List.map_append,List.append_assoc,List.append_assoc];rfl
  rw[← e2] at ih
  rcases h4 with rfl|⟨_,rfl⟩
  ·refine lV ?_
   refine⟨by rw[List.length_map];show _ < 1000000;lia,?_⟩
   refine C4 (n:=n) q (hp x (List.mem_cons_self ..)) hd ?_
   refine⟨by rw[List.length_append,List.length_map];show _+1 < 1000000;lia,?_⟩
   refine⟨by rw[List.length_append,List.length_append,List.length_map];show _+1+1 < 1000000;lia,?_⟩
   exact ih
  ·refine lV ?_
   refine⟨by rw[List.length_map];show _ < 1000000;lia,?_⟩
   refine C4 (n:=n) q (hp x (List.mem_cons_self ..)) hd ?_
   refine⟨by rw[List.length_append,List.length_map];show _+1 < 1000000;lia,?_⟩
   refine⟨by rw[List.length_append,List.length_append,List.length_map];show _+1+1 < 1000000;lia,?_⟩
   exact ih
theorem lx {xs:List Mb} (hx:∀x∈xs,jl x):(∀t∈cX xs,t.length≤40)∧(cX xs).length=3 * xs.length:=by
 induction xs with
 |nil=>exact⟨fun ξ h=>(absurd h List.not_mem_nil),rfl⟩
 |cons x xs ih=>
  obtain⟨h1,h2⟩:=ih fun y hy=>hx y (List.mem_cons_of_mem _ hy)
  refine⟨fun t ht=>?_,?_⟩
  ·rcases List.mem_cons.mp ht with rfl|ht
   ·exact Nat.le_of_ble_eq_true rfl
   rcases List.mem_cons.mp ht with rfl|ht
   ·exact vQ (hx x (List.mem_cons_self ..))
   rcases List.mem_cons.mp ht with rfl|ht
   ·exact Nat.le_of_ble_eq_true rfl
   exact h1 t ht
  ·show(cX xs).length+1+1+1=_
   rw[List.length_cons];lia
theorem uH {xs:List Mb} {vs:List V} (A:aZ hH xs vs) (hx:∀x∈xs,jl x) (hz:xs.length≤3) (hd:de < 98) (hb:(cn xs).length≤400) (c:K (.str (cn xs)) (some (PR 0 de))):ab (n+7) 380 [.hole,.list vs,.str [44]] (some (0,PR 0 de)) K:=by
 refine aa rfl rfl ?_
 have hll:=A.len
 cases xs with
 |nil=>cases A;exact c
 |cons x xs=>
  have hz:xs.length+1≤3:=hz
  have hll:vs.length=xs.length+1:=hll
  have e:c9 (.list vs)=some true:=by
   have e1:c9 (.list vs)=some (!vs.isEmpty):=if_pos (ae (by exact fT ‹_› ‹_› rfl))
   rw[e1]
   cases vs with
   |nil=>cases hll
   |cons=>rfl
  obtain⟨l1,l2⟩:=lx hx
  have l3:=dM (b:=40) (c:=0) (cU:=[]) (Nat.le_refl _) l1
  rw[l2] at l3
  have l3:(aB [] (cX (x::xs))).length≤(40+0) * (3 * (xs.length+1)):=l3
  have hb:((([123]++aB [] (cX (x::xs)))++[10])++[125]).length≤400:=hb
  have h4:=hb
  simp only[List.length_append] at h4
  refine af e ?_
  refine aa rfl rfl ?_
  refine⟨trivial,⟨rfl,aw rfl⟩,?_⟩
  refine By (n:=n) hd A hx (ts:=[]) (by show 0+3 * (xs.length+1) < _;lia) (.inl rfl) fun x4 ξ=>?_
  refine⟨trivial,⟨rfl,aw rfl⟩,?_⟩
  refine⟨rfl,?_⟩
  refine af (gJ [] (by decide) rfl) ?_
  rw[List.nil_append]
  refine⟨by show _≤1000000;lia,?_⟩
  refine⟨ae (by rw[List.length_append];show 1+_ < _;exact Mz (bX ‹_›) rfl),?_⟩
  refine rD ?_
  refine⟨ae (by rw[List.length_append,List.length_append];show 1+_+1 < _;exact ag ‹_› rfl),?_⟩
  exact⟨ae (Nat.lt_of_le_of_lt hb (by lia)),c⟩
theorem ly {xs:List Mb} (hx:∀x∈xs,jl x) (hz:xs.length≤3):(cn xs).length≤400:=by
 cases xs with
 |nil=>exact Nat.le_of_ble_eq_true rfl
 |cons x xs=>
  have hz:xs.length+1≤3:=hz
  obtain⟨l1,l2⟩:=lx hx
  have l3:=dM (b:=40) (c:=0) (cU:=[]) (Nat.le_refl _) l1
  rw[l2] at l3
  have l3:(aB [] (cX (x::xs))).length≤(40+0) * (3 * (xs.length+1)):=l3
  show((([123]++aB [] (cX (x::xs)))++[10])++[125]).length≤_
  rw[List.length_append,List.length_append,List.length_append]
  show 1+_+1+1≤_
  lia
theorem Be {amb cst:Bool} {x:T} {ms:List Mb} (hv:cZ (.enum amb cst x ms) v) (hx:cf (.enum amb cst x ms)) (hd:de < 97) (c:K (.str (fu (.enum amb cst x ms))) (some (PR 0 de))):ab (n+9) 352 [.hole,v] (some (0,PR 0 de)) K:=by
 refine bc fun G=>?_;obtain⟨h1,h3,h4⟩:=hx
 have hv:∃F a l,F=fl amb eo+fl cst oL∧v=ao 66 (.str x) l F a∧aZ hH ms l:=by obtain⟨a,l,h⟩:=hv;exact⟨_,a,l,rfl,h⟩
 obtain⟨F,i,l,hF,rfl,A⟩:=hv
 have e1:decide (Int.ofNat (F &&& 4194304)≠0)=amb:=by rw[hF];cases amb<;>cases cst<;>rfl
 have e2:decide (Int.ofNat (F &&& 8388608)≠0)=cst:=by rw[hF];cases amb<;>cases cst<;>rfl
 clear hF
 have e3:=bo h1
 have e4:=ly h4 h3
 have e5:(cond cst (bL amb++[99,111,110,115,116,32]) (bL amb)).length≤20:=by cases amb<;>cases cst<;>exact Nat.le_of_ble_eq_true rfl
 refine G ?_;clear G;refine cp 66 579 576 rfl rfl (by exact ag ‹_› rfl) (fun K' c'=>?_) c
 refine aa rfl rfl ?_
 have key:∀A':T,A'=cond cst (bL amb++[99,111,110,115,116,32]) (bL amb)→aq TT (ab (n+7)) GG (az 2 fe.body) [.v (.inst 579 []),.inh (PR 0 (de+1)),.v (ao 66 (.str x) l F i),.v (.str A')] (fun fl st=>match fl with
   |.nxt=>K' .none (bm (some (1,PR 0 (de+1))) st)
   |.ret v=>K' v (bm (some (1,PR 0 (de+1))) st)
   |_=>False):=fun A' hA=>by
  subst hA
  refine⟨ae (by(first|apply aj|apply ag);(· repeat' first|assumption|apply ak|exact Nat.le_refl _);rfl),?_⟩
  refine⟨ae (by(first|apply aj|apply ag);(· repeat' first|assumption|apply ak|exact Nat.le_refl _);rfl),?_⟩
  refine⟨ae (by(first|apply aj|apply ag);(· repeat' first|assumption|apply ak|exact Nat.le_refl _);rfl),?_⟩
  refine uH (n:=n) A h4 h3 (by exact aj ‹_› rfl) e4 ?_
  refine⟨ae (by(first|apply aj|apply ag);(· repeat' first|assumption|apply ak|exact Nat.le_refl _);rfl),?_⟩
  exact c'
 refine⟨trivial,?_⟩
 first|refine ar (e1) ?_|refine av (e1) ?_|((conv=>whnf);rw[e1];trace "FALLBACK")
 cases amb with
 |true=>
  refine⟨trivial,?_⟩
  first|refine ar (e2) ?_|refine av (e2) ?_|((conv=>whnf);rw[e2];trace "FALLBACK")
  cases cst with
  |true=>
   refine⟨Nat.le_of_ble_eq_true rfl,?_⟩
   exact key _ rfl
  |false=>exact key _ rfl
 |false=>
  refine⟨trivial,?_⟩
  first|refine ar (e2) ?_|refine av (e2) ?_|((conv=>whnf);rw[e2];trace "FALLBACK")
  cases cst with
  |true=>
   refine⟨Nat.le_of_ble_eq_true rfl,?_⟩
   exact key _ rfl
  |false=>exact key _ rfl
theorem nL {α:Type} {R:α→V→Prop} {x:α} {xs:List α} {l:List V} (A:aZ R (x::xs) l) (hz:xs.length≤10):c9 (.list l)=some true:=by
 have hll:l.length=xs.length+1:=A.len
 have e1:c9 (.list l)=some (!l.isEmpty):=if_pos (ae (by lia))
 rw[e1]
 cases l with
 |nil=>cases hll
 |cons=>rfl
theorem wn {amb:Bool} {x:T} {tps:List Tp} {bs:List Rf} (hv:cZ (.iface amb x tps bs) v) (hx:cf (.iface amb x tps bs)) (hd:de < 97) (c:K (.str (fu (.iface amb x tps bs))) (some (PR 0 de))):ab (n+9) 352 [.hole,v] (some (0,PR 0 de)) K:=by
 refine bc fun G=>?_;obtain⟨h1,h2,h3,h4,h5⟩:=hx
 obtain⟨i,tv,b1,b2,l,_,rfl,q1,A,_⟩:=hv
 have e1:=bo h1
 have e2:=gL amb
 have e3:=iD h3 h2
 have e4:=dm h5 fun x hx=>(lH hx).1
 refine G ?_;clear G;refine cp 64 541 538 rfl rfl (by exact ag ‹_› rfl) (fun K' c'=>?_) c
 refine aa rfl rfl ?_
 have key:∀B:T,B=(((bL amb++[105,110,116,101,114,102,97,99,101,32])++x)++dW tps)++d7 bs→B.length≤500→aq TT (ab (n+7)) GG (az 2 dr.body) [.v (.inst 541 []),.inh (PR 0 (de+1)),.v (ao 64 (.str x) [tv,ao 71 (.str []) l 0 b1,ao 59 (.str []) [] 0 b2] (fl amb eo) i),.v (.str B)] (fun fl st=>match fl with
   |.nxt=>K' .none (bm (some (1,PR 0 (de+1))) st)
   |.ret v=>K' v (bm (some (1,PR 0 (de+1))) st)
   |_=>False):=fun B hB hl=>by
  refine⟨ae (by(first|apply aj|apply ag);(· repeat' first|assumption|apply ak|exact Nat.le_refl _);rfl),?_⟩
  refine aa rfl rfl ?_
  refine⟨ae (by(first|apply aj|apply ag);(· repeat' first|assumption|apply ak|exact Nat.le_refl _);rfl),?_⟩
  rw[hB]
  exact c'
 refine pa (amb:=amb) ?_
 refine⟨ae (by(first|apply aj|apply ag);(· repeat' first|assumption|apply ak|exact Nat.le_refl _);rfl),?_⟩
 refine⟨ae (by(first|apply aj|apply ag);(· repeat' first|assumption|apply ak|exact Nat.le_refl _);rfl),?_⟩
 refine nM (n:=n) q1 h3 h2 (by exact aj ‹_› rfl) ?_
 refine⟨ae (by(first|apply aj|apply ag);(· repeat' first|assumption|apply ak|exact Nat.le_refl _);rfl),?_⟩
 cases bs with
 |nil=>
  cases A
  exact key _ (List.append_nil _).symm (by(first|apply aj|apply ag);(· repeat' first|assumption|apply ak|exact Nat.le_refl _);rfl)
 |cons y ys=>
  have h4:ys.length+1≤2:=h4
  have e4:(aB [44,32] ((y::ys).map gX)).length≤(40+2) * (ys.length+1):=e4
  refine af (nL A (by exact eJ ‹_› rfl)) ?_
  refine ol (n:=n+6) (item:=fc) (P:=fR) (tx:=gX) (fun x v=>ru) (fun hp hv c=>Mk (n:=n+1) hv hp (by exact aj ‹_› rfl) c) A h5 (by show ys.length+1≤100;exact ag ‹_› rfl) (by decide) (by omega) ?_
  refine⟨ae (by rw[List.length_append];show 9+_ < _;omega),?_⟩
  refine⟨ae (by rw[List.length_append,List.length_append,List.length_append,List.length_append,List.length_append];show _+10+_+_+(9+_) < _;omega),?_⟩
  exact key _ rfl (by rw[List.length_append,List.length_append,List.length_append,List.length_append,List.length_append];show _+10+_+_+(9+_)≤_;omega)
theorem EC {dd:De} (hv:cZ dd v) (hx:cf dd) (hd:de < 97) (c:K (.str (fu dd)) (some (PR 0 de))):ab (n+9) 352 [.hole,v] (some (0,PR 0 de)) K:=by
 cases dd with
 |enum amb cst x ms=>exact Be (n:=n) hv hx hd c
 |alias amb x tps ty=>exact wx (n:=n) hv hx hd c
 |iface amb x tps bs=>exact wn (n:=n) hv hx hd c
 |var amb wd ds=>exact Hl (n:=n+2) hv hx hd c
theorem wD {dd:De} (hx:cf dd):(fu dd).length≤800:=by
 cases dd with
 |enum amb cst x ms=>
  obtain⟨h1,h3,h4⟩:=hx
  have e3:=bo h1
  have e4:=ly h4 h3
  have e5:(cond cst (bL amb++[99,111,110,115,116,32]) (bL amb)).length≤20:=by cases amb<;>cases cst<;>exact Nat.le_of_ble_eq_true rfl
  show(((((cond cst (bL amb++[99,111,110,115,116,32]) (bL amb))++[101,110,117,109,32])++x)++[32])++cn ms).length≤_
  rw[List.length_append,List.length_append,List.length_append,List.length_append]
  show _+5+_+1+_≤_
  lia
 |alias amb x tps ty=>
  obtain⟨h1,h2,h3,h4⟩:=hx
  have e1:=bo h1
  have e2:=gL amb
  have e3:=iD h4 h3
  have e4:=bo h2
  show((((((bL amb++[116,121,112,101,32])++x)++dW tps)++[32,61,32])++ty)++[59]).length≤_
  rw[List.length_append,List.length_append,List.length_append,List.length_append,List.length_append,List.length_append]
  show _+5+_+_+3+_+1≤_
  lia
 |iface amb x tps bs=>
  obtain⟨h1,h2,h3,h4,h5⟩:=hx
  have e1:=bo h1
  have e2:=gL amb
  have e3:=iD h3 h2
  have e4:=dm h5 fun x hx=>(lH hx).1
  have e5:(d7 bs).length≤100:=by
   cases bs with
   |nil=>exact Nat.zero_le _
   |cons y ys=>
    have h4:ys.length+1≤2:=h4
    have e4:(aB [44,32] ((y::ys).map gX)).length≤(40+2) * (ys.length+1):=e4
    show([32,101,120,116,101,110,100,115,32]++aB [44,32] ((y::ys).map gX)).length≤_
    rw[List.length_append]
    show 9+_≤_
    lia
  show((((((bL amb++[105,110,116,101,114,102,97,99,101,32])++x)++dW tps)++d7 bs)++[32])++[123,125]).length≤_
  rw[List.length_append,List.length_append,List.length_append,List.length_append,List.length_append,List.length_append]
  show _+10+_+_+_+1+2≤_
  lia
 |var amb wd ds=>
  obtain⟨h1,_,h3,h4⟩:=hx
  have e1:=pC h1
  have e2:=gL amb
  have e3:=dm h4 fun x hx=>(l8 hx).1
  show((((bL amb++wd)++[32])++aB [44,32] (ds.map fG))++[59]).length≤_
  rw[List.length_append,List.length_append,List.length_append,List.length_append]
  show _+_+1+_+1≤_
  lia
theorem vC {dd:De} (hv:eY (.de true dd) v) (hx:cf dd) (hd:de < 96) (c:K (.str (fb (.de true dd))) (some (PR 0 de))):ab (n+11) 352 [.hole,v] (some (0,PR 0 de)) K:=by
 obtain⟨i,y,rfl,hv⟩:=hv
 have hl:=wD hx
 refine cp 70 522 519 rfl rfl (by exact ag ‹_› rfl) (fun K' c'=>?_) c
 refine aa rfl rfl ?_
 refine EC (n:=n) hv hx (by exact aj ‹_› rfl) ?_
 exact⟨ae (by(first|apply aj|apply ag);(· repeat' first|assumption|apply ak|exact Nat.le_refl _);rfl),c'⟩
theorem uF {ns:List eX} {only:Bool} (hv:eY (.imp w raw ns only) v) (hx:cR (.imp w raw ns only)) (hd:de < 97) (c:K (.str (fb (.imp w raw ns only))) (some (PR 0 de))):ab (n+5) 352 [.hole,v] (some (0,PR 0 de)) K:=by
 refine bc fun G=>?_;obtain⟨hk,hz,h3,h4⟩:=hx
 have hv:∃F a l,F=fl only gw∧v=ao 68 (.str w) l F a∧aZ cE ns l:=by obtain⟨a,l,h⟩:=hv;exact⟨_,a,l,rfl,h⟩
 obtain⟨F,i,l,hF,rfl,A⟩:=hv
 have e1:decide (Int.ofNat (F &&& 134217728)≠0)=only:=by rw[hF];cases only<;>rfl
 clear hF
 have e2:=(gO hk).2
 refine G ?_;clear G;refine cp 68 484 481 rfl rfl (by exact ag ‹_› rfl) (fun K' c'=>?_) c
 refine aa rfl rfl ?_
 refine⟨trivial,?_⟩
 first|refine ar (e1) ?_|refine av (e1) ?_|((conv=>whnf);rw[e1];trace "FALLBACK")
 cases only with
 |true=>
  have:=h4 rfl
  subst this
  refine iB (n:=n+1) hk ?_
  refine⟨ae (by(first|apply aj|apply ag);(· repeat' first|assumption|apply ak|exact Nat.le_refl _);rfl),?_⟩
  exact⟨ae (by(first|apply aj|apply ag);(· repeat' first|assumption|apply ak|exact Nat.le_refl _);rfl),c'⟩
 |false=>
  cases ns with
  |nil=>
   cases A
   refine iB (n:=n+1) hk ?_
   refine⟨ae (by(first|apply aj|apply ag);(· repeat' first|assumption|apply ak|exact Nat.le_refl _);rfl),?_⟩
   exact⟨ae (by(first|apply aj|apply ag);(· repeat' first|assumption|apply ak|exact Nat.le_refl _);rfl),c'⟩
  |cons x ns=>
   have hz:ns.length+1≤3:=hz
   have e4:=dm h3 fun x=>gm
   have e4:(aB [44,32] ((x::ns).map cw)).length≤(30+2) * (ns.length+1):=e4
   refine af (nL A (by exact eJ ‹_› rfl)) ?_
   refine ol (n:=n+2) (item:=cE) (P:=eS) (tx:=cw) (fun x v=>nU) (fun hp hv c=>Bz (n:=n) hv hp (by exact aj ‹_› rfl) c) A h3 (by show ns.length+1≤100;exact ag ‹_› rfl) (by decide) (by lia) ?_
   refine⟨ae (by rw[List.length_append];show 9+_ < _;lia),?_⟩
   refine⟨ae (by rw[List.length_append,List.length_append];show 9+_+8 < _;lia),?_⟩
   refine iB (n:=n+1) hk ?_
   refine⟨ae (by rw[List.length_append,List.length_append,List.length_append];show 9+_+8+_ < _;lia),?_⟩
   exact⟨ae (by rw[List.length_append,List.length_append,List.length_append,List.length_append];show 9+_+8+_+1 < _;lia),c'⟩
theorem Dp {s:Sm} (hv:eY s v) (hx:cR s) (hd:de < 96) (c:K (.str (fb s)) (some (PR 0 de))):ab (n+11) 352 [.hole,v] (some (0,PR 0 de)) K:=by
 cases s with
 |imp w raw ns only=>exact uF (n:=n+6) hv hx (by exact ag ‹_› rfl) c
 |de ex dd=>
  cases ex with
  |true=>exact vC (n:=n) hv hx hd c
  |false=>exact EC (n:=n+2) hv hx (by exact ag ‹_› rfl) c
theorem rk {s:Sm} (hx:cR s):(fb s).length≤900:=by
 cases s with
 |imp w raw ns only=>
  refine bc fun G=>?_;obtain⟨hk,hz,h3,h4⟩:=hx
  have e2:=(gO hk).2
  refine G ?_;clear G;cases ns with
  |nil=>
   cases only with
   |true=>
    show(([105,109,112,111,114,116,32,123,125,32,102,114,111,109,32]++bk raw)++[59]).length≤_
    rw[List.length_append,List.length_append];show 15+_+1≤_;lia
   |false=>
    show(([105,109,112,111,114,116,32]++bk raw)++[59]).length≤_
    rw[List.length_append,List.length_append];show 7+_+1≤_;lia
  |cons x ns=>
   have hz:ns.length+1≤3:=hz
   have e4:=dm h3 fun x=>gm
   have e4:(aB [44,32] ((x::ns).map cw)).length≤(30+2) * (ns.length+1):=e4
   show(((([105,109,112,111,114,116,32,123,32]++aB [44,32] ((x::ns).map cw))++[32,125,32,102,114,111,109,32])++bk raw)++[59]).length≤_
   rw[List.length_append,List.length_append,List.length_append,List.length_append];show 9+_+8+_+1≤_;lia
 |de ex dd=>
  have:=wD hx
  cases ex with
  |true=>show([101,120,112,111,114,116,32]++fu dd).length≤_;rw[List.length_append];show 7+_≤_;lia
  |false=>show(fu dd).length≤_;exact ag ‹_› rfl
theorem nK {ss:List Sm} (hx:∀s∈ss,cR s):(∀t∈cy ss,t.length≤900)∧(cy ss).length=2 * ss.length:=by
 induction ss with
 |nil=>exact⟨fun ξ h=>(absurd h List.not_mem_nil),rfl⟩
 |cons s ss ih=>
  obtain⟨h1,h2⟩:=ih fun y hy=>hx y (List.mem_cons_of_mem _ hy)
  refine⟨fun t ht=>?_,?_⟩
  ·rcases List.mem_cons.mp ht with rfl|ht
   ·exact rk (hx s (List.mem_cons_self ..))
   rcases List.mem_cons.mp ht with rfl|ht
   ·exact Nat.le_of_ble_eq_true rfl
   exact h1 t ht
  ·show(cy ss).length+1+1=_
   rw[List.length_cons];lia
theorem qo {ss:List Sm} (hx:∀s∈ss,cR s) (hs:ss.length≤100):(eu ss).length≤200000:=by
 obtain⟨l1,l2⟩:=nK hx
 have l3:=dM (b:=900) (c:=0) (cU:=[]) (Nat.le_refl _) l1
 rw[l2] at l3
 show(aB [] (cy ss)).length≤_
 lia
theorem BC {K:Fl→St→Prop} {nd sh:V} (hd:de < 96):
  ∀{xs:List Sm} {vs:List V},aZ eY xs vs→(∀x∈xs,cR x)→∀{ts:List T} {x4:bB},ts.length+2 * xs.length < 1000→Lv x4→(∀x4',Lv x4'→K .nxt [.v sh,.inh (PR 0 de),.v nd,.own (.list ((ts++cy xs).map V.str)),x4'])→
   cQ (fun x st K=>fF [4] x st fun st=>aq TT (ab (n+11)) GG (pI (az 1 fw.body)) st K) vs [.v sh,.inh (PR 0 de),.v nd,.own (.list (ts.map V.str)),x4] K:=by
 intro xs vs A
 induction A with
 |nil=>
  intro _ ts x4 _ h4 c
  have:=c x4 h4
  rw[show cy []=[] from rfl,List.append_nil] at this
  exact this
 |@cons x v xs vs q A ih=>
  intro hp ts x4 hz h4 c
  rw[List.length_cons] at hz
  have ih:=ih (fun y hy=>hp y (List.mem_cons_of_mem _ hy)) (ts:=ts++[fb x,[10]]) (x4:=.v v) (by rw[List.length_append];show ts.length+2+_ < _;lia) (.inr ⟨_,rfl⟩) (fun x4' q=>by
   have:=c x4' q
   rw[List.append_assoc]
   exact this)
  have e2:(ts.map V.str++[.str (fb x)])++[.str [10]]=(ts++[fb x,[10]]).map V.str:=by rw[List.map_append,List.append_assoc];rfl
  rw[← e2] at ih
  rcases h4 with rfl|⟨_,rfl⟩
  ·refine Dp (n:=n) q (hp x (List.mem_cons_self ..)) hd ?_
   refine⟨by rw[List.length_map];show _ < 1000000;lia,?_⟩
   refine⟨by rw[List.length_append,List.length_map];show _+1 < 1000000;lia,?_⟩
   exact ih
  ·refine Dp (n:=n) q (hp x (List.mem_cons_self ..)) hd ?_
   refine⟨by rw[List.length_map];show _ < 1000000;lia,?_⟩
   refine⟨by rw[List.length_append,List.length_map];show _+1 < 1000000;lia,?_⟩
   exact ih
theorem tJ {ss:List Sm} (hv:lD ss v) (hx:∀s∈ss,cR s) (hs:ss.length≤100) (c:K (.str (eu ss)) (some (PR 0 0))):ab (n+13) 352 [.hole,v] (some (0,PR 0 0)) K:=by
 refine bc fun G=>?_;obtain⟨i,l,rfl,A⟩:=hv
 have hl:=qo hx hs
 refine G ?_;clear G;refine cp 40 446 443 rfl rfl (by lia) (fun K' c'=>?_) c
 refine aa rfl rfl ?_
 refine BC (n:=n) (by lia) A hx (ts:=[]) (by show 0+2 * _ < _;lia) (.inl rfl) fun x4 ξ=>?_
 refine⟨rfl,?_⟩
 refine af (gJ [] (by decide) rfl) ?_
 rw[List.nil_append]
 exact⟨by show _≤1000000;have:(aB [] (cy ss)).length≤200000:=hl;exact ag ‹_› rfl,c'⟩
end
mutual
inductive fE:Nat→V→V→Prop
 |none {h}:fE h .none .none
 |node {h k a f ks ks' x y}:xW a a=some true→ks.length≤100→dT h ks ks'→fE (h+1) (ao k a ks f x) (ao k a ks' f y)
inductive dT:Nat→List V→List V→Prop
 |nil {h}:dT h [] []
 |cons {h v v' l l'}:fE h v v'→dT h l l'→dT h (v::l) (v'::l')
end
theorem dT.un {h:Nat} {v:V} {l l2:List V} (S:dT h (v::l) l2):∃v' l',l2=v'::l'∧fE h v v'∧dT h l l':=by
 cases S;exact⟨_,_,rfl,‹_›,‹_›⟩
theorem dT.len {h:Nat} {l l':List V} (S:dT h l l'):l'.length=l.length:=by
 induction l generalizing l' with
 |nil=>cases S;rfl
 |cons v l ih=>
  obtain⟨_,_,rfl,_,r⟩:=dT.un S
  exact congrArg (·+1) (ih r)
theorem dT.get {h:Nat} {l l':List V} {j:Nat} (S:dT h l l') (hj:j < l.length):∃v v',l[j]?=some v∧l'[j]?=some v'∧fE h v v':=by
 induction l generalizing l' j with
 |nil=>exact absurd hj (Nat.not_lt_zero _)
 |cons v l ih=>
  refine bc fun G=>?_;obtain⟨_,_,rfl,q,r⟩:=dT.un S
  refine G ?_;clear G;cases j with
  |zero=>exact⟨_,_,rfl,rfl,q⟩
  |succ j=>exact ih r (Nat.lt_of_succ_lt_succ hj)
section
variable {n k k' f m a d j h:Nat} {K:KT}
noncomputable def GA:S→S
 |.cons (.forR _ _ b) _=>b
 |_=>.nil
theorem u0 {h k f:Nat} {a x y:V} {ks ks':List V} {K:Fl→St→Prop} (S:dT h ks ks') (hz:ks.length≤100)
  (H:∀v v' (K':KT),fE h v v'→K' (.bool true) none→ab n 1711 [v,v'] none K') (hK:∀x2,Lv x2→K .nxt [.v (ao k a ks f x),.v (ao k a ks' f y),x2]):∀{js:List Nat},(∀j∈js,j < ks.length)→∀{x2:bB},Lv x2→
  cQ (fun x st K=>bQ st 2 (.v x) fun st=>aq TT (ab n) GG (GA (az 2 lC.body)) st K) (js.map In) [.v (ao k a ks f x),.v (ao k a ks' f y),x2] K:=by
 intro js
 induction js with
 |nil=>intro _ x2 h2;exact hK x2 h2
 |cons j js ih=>
  intro hj x2 h2
  refine bc fun G=>?_;obtain⟨v,v',q1,q2,q3⟩:=S.get (hj j (List.mem_cons_self ..))
  have ih:=ih (fun i hi=>hj i (List.mem_cons_of_mem _ hi)) (x2:=.v (In j)) (.inr ⟨_,rfl⟩)
  have hl:=S.len
  refine G ?_;clear G;rcases h2 with rfl|⟨_,rfl⟩
  ·refine af (f7 q1 (ae (by exact aj ‹_› rfl))) ?_
   refine af (f7 q2 (ae (by exact fT ‹_› ‹_› rfl))) ?_
   refine H v v' _ q3 ?_
   exact ih
  ·refine af (f7 q1 (ae (by exact aj ‹_› rfl))) ?_
   refine af (f7 q2 (ae (by exact fT ‹_› ‹_› rfl))) ?_
   refine H v v' _ q3 ?_
   exact ih
theorem sD:∀{h:Nat} {dv rv:V} {K:KT},fE h dv rv→K (.bool true) none→ab (n+h+1) 1711 [dv,rv] none K:=by
 intro h
 induction h with
 |zero=>
  intro dv rv K S c
  cases S
  refine aa rfl rfl ?_
  exact c
 |succ h ih=>
  intro dv rv K S c
  cases S with
  |none=>
   refine aa rfl rfl ?_
   exact c
  |@node _ k a f ks ks' x y ea hz SL=>
   have hl:=SL.len
   have e1:decide (Int.ofNat k=Int.ofNat k)=true:=decide_eq_true rfl
   have e2:decide (Int.ofNat f=Int.ofNat f)=true:=decide_eq_true rfl
   have l1:dJ (.list ks)=some ks.length:=if_pos (ae (by exact aj ‹_› rfl))
   have l2:dJ (.list ks')=some ks'.length:=if_pos (ae (by exact fT ‹_› ‹_› rfl))
   have e3:decide (Int.ofNat ks.length=Int.ofNat ks'.length)=true:=decide_eq_true (by rw[hl])
   have e4:Do .ne a a=some false:=by show qj (xW a a)=_;rw[ea];rfl
   refine aa rfl rfl ?_
   first|refine ar (e1) ?_|refine av (e1) ?_|((conv=>whnf);rw[e1];trace "FALLBACK")
   refine af e4 ?_
   first|refine ar (e2) ?_|refine av (e2) ?_|((conv=>whnf);rw[e2];trace "FALLBACK")
   refine af (r:=(dJ (.list ks)).map fun n=>In n) (by rw[l1];rfl) ?_
   refine af (r:=(dJ (.list ks')).map fun n=>In n) (by rw[l2];rfl) ?_
   first|refine ar (e3) ?_|refine av (e3) ?_|((conv=>whnf);rw[e3];trace "FALLBACK")
   refine af (r:=(dJ (.list ks)).map fun n=>In n) (by rw[l1];rfl) ?_
   refine af (r:=eW (In ks.length)) (x:=(List.range ks.length).map In) ?_ ?_
   ·show(if 0≤Int.ofNat ks.length∧(Int.ofNat ks.length).toNat≤bA then _ else _)=_
    rw[if_pos ⟨Int.natCast_nonneg _,ae (by show ks.length < _;exact aj ‹_› rfl)⟩];rfl
   ·refine u0 SL hz (fun v v' K' q c'=>ih q c') (fun x2 ξ=>?_) (fun j hj=>List.mem_range.mp hj) (.inl rfl)
    exact c
end
theorem fo (x:T):aW x x=true:=by rw[ct,beq_iff_eq]
theorem bW (x:T):xW (.str x) (.str x)=some true:=by show some (aW x x)=_;rw[fo]
section
variable {h:Nat} {v v':V}
theorem gG {x:T} (H:bx x v) (H':bx x v'):fE (h+1) v v':=by
 obtain⟨_,rfl⟩:=H
 obtain⟨_,rfl⟩:=H'
 exact .node (bW x) (Nat.zero_le _) .nil
theorem f9 {x:Option T} (H:bV x v) (H':bV x v'):fE (h+1) v v':=by
 cases x with
 |none=>cases H;cases H';exact .none
 |some x=>exact gG H H'
theorem f8 {α:Type} {R:α→V→Prop} (q:∀x v v',R x v→R x v'→fE h v v') {xs:List α} {l l':List V} (A:aZ R xs l) (A':aZ R xs l'):dT h l l':=by
 induction A generalizing l' with
 |nil=>cases A';exact .nil
 |cons r _ ih=>cases A' with
  |cons r' A'=>exact .cons (q _ _ _ r r') (ih A')
theorem uG {x:eX} (H:cE x v) (H':cE x v'):fE (h+1) v v':=by
 obtain⟨_,rfl⟩:=H
 obtain⟨_,rfl⟩:=H'
 refine .node ?_ (Nat.zero_le _) .nil
 show qm [.str x.o,.str x.i] [.str x.o,.str x.i]=_
 show(match some (aW x.o x.o),qm [.str x.i] [.str x.i] with|some r,some q=>some (r&&q)|_,_=>none)=_
 rw[fo]
 show(match some true,(match some (aW x.i x.i),some true with|some r,some q=>some (r&&q)|_,_=>none) with|some r,some q=>some (r&&q)|_,_=>none)=_
 rw[fo]
 rfl
theorem Ba {x:Tp} (H:jY x v) (H':jY x v'):fE (h+2) v v':=by
 refine bc fun G=>?_;obtain⟨_,_,_,rfl,a,b⟩:=H
 obtain⟨_,_,_,rfl,a',b'⟩:=H'
 refine G ?_;clear G;exact .node (bW _) (aw rfl) (.cons (f9 a a') (.cons (f9 b b') .nil))
theorem qy {xs:List Tp} (hz:xs.length≤2) (H:eH xs v) (H':eH xs v'):fE (h+3) v v':=by
 cases xs with
 |nil=>cases H;cases H';exact .none
 |cons x xs=>
  obtain⟨_,l,rfl,A⟩:=H
  obtain⟨_,l',rfl,A'⟩:=H'
  exact .node (bW _) (by rw[A.len];exact ag ‹_› rfl) (f8 (R:=jY) (fun ξ ξ ξ q q'=>Ba q q') A A')
theorem BH {x:Rf} (hz:x.args.length≤2) (H:fc x v) (H':fc x v'):fE (h+2) v v':=by
 obtain⟨_,l,rfl,A⟩:=H
 obtain⟨_,l',rfl,A'⟩:=H'
 exact .node (bW _) (by rw[A.len];exact ag ‹_› rfl) (f8 (R:=bx) (fun ξ ξ ξ q q'=>gG q q') A A')
theorem Ci {x:Dc} (H:fP x v) (H':fP x v'):fE (h+2) v v':=by
 refine bc fun G=>?_;obtain⟨_,_,_,_,rfl,a,b,c⟩:=H
 obtain⟨_,_,_,_,rfl,a',b',c'⟩:=H'
 refine G ?_;clear G;exact .node (bW _) (aw rfl) (.cons (gG a a') (.cons (f9 b b') (.cons (f9 c c') .nil)))
theorem Bx {x:Mb} (H:hH x v) (H':hH x v'):fE (h+2) v v':=by
 refine bc fun G=>?_;obtain⟨_,_,rfl,a⟩:=H
 obtain⟨_,_,rfl,a'⟩:=H'
 refine G ?_;clear G;exact .node (bW _) (aw rfl) (.cons (f9 a a') .nil)
theorem vi {bs:List Rf} {l l':List V} (hb:∀x∈bs,fR x) (A:aZ fc bs l) (A':aZ fc bs l'):dT (h+2) l l':=by
 induction A generalizing l' with
 |nil=>cases A';exact .nil
 |cons r _ ih=>cases A' with
  |cons r' A'=>exact .cons (BH (hb _ (List.mem_cons_self ..)).2.2 r r') (ih (fun y hy=>hb y (List.mem_cons_of_mem _ hy)) A')
theorem sM {dd:De} (hx:cf dd) (H:cZ dd v) (H':cZ dd v'):fE (h+4) v v':=by
 cases dd with
 |enum amb cst x ms=>
  refine bc fun G=>?_;obtain⟨_,l,rfl,A⟩:=H
  obtain⟨_,l',rfl,A'⟩:=H'
  refine G ?_;clear G;exact .node (bW _) (by rw[A.len];have:=hx.2.1;exact ag ‹_› rfl) (f8 (h:=h+3) (R:=hH) (fun ξ ξ ξ q q'=>Bx (h:=h+1) q q') A A')
 |alias amb x tps ty=>
  refine bc fun G=>?_;obtain⟨_,t,y,rfl,h1,h2⟩:=H
  obtain⟨_,t',y',rfl,h1',h2'⟩:=H'
  refine G ?_;clear G;exact .node (bW _) (aw rfl) (.cons (qy hx.2.2.1 h1 h1') (.cons (gG h2 h2') .nil))
 |iface amb x tps bs=>
  refine bc fun G=>?_;obtain⟨_,t,_,_,l,_,rfl,h1,A,_⟩:=H
  obtain⟨_,t',_,_,l',_,rfl,h1',A',_⟩:=H'
  refine G ?_;clear G;exact .node (bW _) (aw rfl) (.cons (qy hx.2.1 h1 h1') (.cons (.node (bW _) (by rw[A.len];have:=hx.2.2.2.1;exact ag ‹_› rfl) (vi (h:=h) hx.2.2.2.2 A A')) (.cons (.node (bW _) (Nat.zero_le _) .nil) .nil)))
 |var amb wd ds=>
  refine bc fun G=>?_;obtain⟨_,l,rfl,A⟩:=H
  obtain⟨_,l',rfl,A'⟩:=H'
  refine G ?_;clear G;exact .node (bW _) (by rw[A.len];have:=hx.2.2.1;exact ag ‹_› rfl) (f8 (h:=h+3) (R:=fP) (fun ξ ξ ξ q q'=>Ci (h:=h+1) q q') A A')
theorem Bn {s:Sm} (hx:cR s) (H:eY s v) (H':eY s v'):fE (h+5) v v':=by
 cases s with
 |imp w raw ns only=>
  obtain⟨_,l,rfl,A⟩:=H
  obtain⟨_,l',rfl,A'⟩:=H'
  exact .node (bW _) (by rw[A.len];have:=hx.2.1;exact ag ‹_› rfl) (f8 (h:=h+4) (R:=cE) (fun ξ ξ ξ q q'=>uG (h:=h+3) q q') A A')
 |de ex dd=>
  cases ex with
  |true=>
   obtain⟨_,y,rfl,H⟩:=H
   obtain⟨_,y',rfl,H'⟩:=H'
   exact .node (bW _) (aw rfl) (.cons (sM hx H H') .nil)
  |false=>exact sM (h:=h+1) hx H H'
theorem na {ss:List Sm} (hx:∀s∈ss,cR s) (hz:ss.length≤100) (H:lD ss v) (H':lD ss v'):fE 6 v v':=by
 obtain⟨_,l,rfl,A⟩:=H
 obtain⟨_,l',rfl,A'⟩:=H'
 refine .node (bW _) (by rw[A.len];assumption) ?_
 clear hz
 induction A generalizing l' with
 |nil=>cases A';exact .nil
 |cons r _ ih=>cases A' with
  |cons r' A'=>exact .cons (Bn (hx _ (List.mem_cons_self ..)) r r') (ih (fun y hy=>hx y (List.mem_cons_of_mem _ hy)) _ A')
variable {n k k' f m a d j dp de:Nat} {t t' s w raw:List Nat} {ta te fr at_ x y z:V} {kids toks l r:List V} {K:KT} {b:Bool}
theorem nH {α:Type} {item:α→V→Prop} {tx:α→T} {P:α→Prop} {B:V→St→(V→St→Prop)→Prop} {c0:St} {K:List V→St→Prop}
  (H:∀{x v} {K':V→St→Prop},P x→item x v→K' (.str (tx x)) c0→B v c0 K'):
  ∀{xs:List α} {vs:List V},aZ item xs vs→(∀x∈xs,P x)→∀{ts:List T},ts.length+xs.length < 1000→K ((ts++xs.map tx).map V.str) c0→j5 B vs (ts.map V.str) c0 K:=by
 intro xs vs A
 induction A with
 |nil=>intro _ ts _ c;rw[List.map_nil,List.append_nil] at c;exact c
 |@cons x v xs vs q A ih=>
  intro hp ts hz c
  rw[List.length_cons] at hz
  refine⟨by rw[List.length_map];show _ < 1000000;lia,?_⟩
  refine H (hp x (List.mem_cons_self ..)) q ?_
  have e2:ts.map V.str++[.str (tx x)]=(ts++[tx x]).map V.str:=by rw[List.map_append];rfl
  rw[e2]
  refine ih (fun y hy=>hp y (List.mem_cons_of_mem _ hy)) (by rw[List.length_append];show ts.length+1+_ < _;exact LK ‹_›) ?_
  rw[List.append_assoc]
  exact c
theorem ft {α:Type} {item:α→V→Prop} {tx:α→T} {P:α→Prop} {f:Nat}
  (H:∀{x v} {K':KT},P x→item x v→K' (.str (tx x)) none→ab n f [v] none K')
  {xs:List α} {vs:List V} (A:aZ item xs vs) (hp:∀x∈xs,P x) (hz:xs.length≤100) (hb:(aB [44,32] (xs.map tx)).length≤1000)
  (c:K (.str (aB [44,32] (xs.map tx))) none):ab (n+1) 1634 [.list vs,.raw f] none K:=by
 refine aa rfl rfl ?_
 refine⟨rfl,?_⟩
 refine⟨rfl,?_⟩
 refine nH (tx:=tx) (P:=P) (c0:=[.v (.raw f)]) (fun hp hv c=>?_) A hp (ts:=[]) (by show 0+_ < _;lia) ?_
 ·refine H hp hv ?_
  exact⟨rfl,c⟩
 ·rw[List.nil_append]
  refine af (gJ [44,32] (by decide) rfl) ?_
  exact⟨by show _≤1000000;exact ag ‹_› rfl,c⟩
theorem BV {x:eX} (hx:eS x) (hv:cE x v) (c:K (.str (cw x)) none):ab (n+1) 1641 [v] none K:=by
 have hl:=gm hx
 obtain⟨o,i,ty⟩:=x
 have hv:∃F a,F=fl ty gw∧v=ao 69 (.tup [.str o,.str i]) [] F a:=by obtain⟨a,h⟩:=hv;exact⟨_,a,rfl,h⟩
 obtain⟨F,i',hF,rfl⟩:=hv
 have e1:decide (Int.ofNat F=Int.ofNat 134217728)=ty:=by rw[hF];cases ty<;>rfl
 clear hF
 have c:K (.str (cond (aW o i) (fJ ty++o) (((fJ ty++o)++[32,97,115,32])++i))) none:=c
 have hl:(cond (aW o i) (fJ ty++o) (((fJ ty++o)++[32,97,115,32])++i)).length≤30:=hl
 refine aa rfl rfl ?_
 have key:∀A:T,A=fJ ty→aq TT (ab n) GG (az 1 hO.body) [.v (ao 69 (.tup [.str o,.str i]) [] F i'),.v (.str A)] (fun fl st=>match fl with
   |.nxt=>K .none (bm none st)
   |.ret v=>K v (bm none st)
   |_=>False):=fun A hA=>by
  subst hA
  cases q:aW o i with
  |true=>
   rw[q] at c hl
   have hl:(fJ ty++o).length≤30:=hl
   refine⟨ae (Nat.lt_of_le_of_lt hl (by lia)),?_⟩
   first|refine ar (q) ?_|refine av (q) ?_|((conv=>whnf);rw[q];trace "FALLBACK")
   refine⟨ae (by rw[List.append_nil];exact Nat.lt_of_le_of_lt hl (by lia)),?_⟩
   show K (.str ((fJ ty++o)++[])) none
   rw[List.append_nil]
   exact c
  |false=>
   rw[q] at c hl
   have hl:(((fJ ty++o)++[32,97,115,32])++i).length≤30:=hl
   have h2:=hl
   simp only[List.length_append] at h2
   refine⟨ae (by rw[List.length_append];lia),?_⟩
   first|refine ar (q) ?_|refine av (q) ?_|((conv=>whnf);rw[q];trace "FALLBACK")
   refine⟨ae (by rw[List.length_append];lia),?_⟩
   refine⟨ae (by rw[← List.append_assoc];exact Nat.lt_of_le_of_lt hl (by lia)),?_⟩
   show K (.str ((fJ ty++o)++([32,97,115,32]++i))) none
   rw[← List.append_assoc]
   exact c
 first|refine ar (e1) ?_|refine av (e1) ?_|((conv=>whnf);rw[e1];trace "FALLBACK")
 cases ty with
 |true=>exact key _ rfl
 |false=>exact key _ rfl
theorem Bm {x:T} (hv:bx x v) (c:K (.str x) none):ab (n+1) 1662 [v] none K:=by
 obtain⟨_,rfl⟩:=hv
 refine aa rfl rfl ?_
 exact c
theorem L6 {x:Rf} (hx:fR x) (hv:fc x v) (c:K (.str (gX x)) none):ab (n+3) 1655 [v] none K:=by
 refine bc fun G=>?_;obtain⟨hl,hn⟩:=lH hx
 obtain⟨hd',tl,args⟩:=x
 obtain⟨h1,h2,h3⟩:=hx
 obtain⟨i,l,rfl,A⟩:=hv
 have h3:args.length≤2:=h3
 have hll:=A.len
 refine G ?_;clear G;refine aa rfl rfl ?_
 have l1:dJ (.list l)=some l.length:=if_pos (ae (by exact fT ‹_› ‹_› rfl))
 refine af (r:=(dJ (.list l)).map fun n=>In n) (by rw[l1];rfl) ?_
 cases args with
 |nil=>
  cases A
  exact c
 |cons y r=>
  have h3:r.length+1≤2:=h3
  have hll:l.length=r.length+1:=hll
  have hl:(((oM hd' tl++[60])++aB [44,32] (y::r))++[62]).length≤40:=hl
  have h4:=hl
  simp only[List.length_append] at h4
  have hid:(y::r).map (fun x:T=>x)=y::r:=List.map_id' _
  rw[hll]
  refine⟨ae (by(first|apply aj|apply ag);(· repeat' first|assumption|apply ak|exact Nat.le_refl _);rfl),?_⟩
  refine ft (item:=bx) (P:=fun x=>x∈names) (tx:=fun x=>x) (fun ξ hv c=>Bm hv c) A h2 (by show r.length+1≤100;exact ag ‹_› rfl) (by rw[hid];lia) ?_
  rw[hid]
  refine⟨ae (by rw[List.length_append,List.length_append];show _+1+_ < _;exact ag ‹_› rfl),?_⟩
  exact⟨ae (Nat.lt_of_le_of_lt hl (by lia)),c⟩
theorem oB (hk:(w,raw)∈L.eG) (c:K (.str (bk raw)) none):ab (n+1) 1629 [.str w] none K:=by
 refine aa rfl rfl ?_
 induction hk using cP
 ·refine⟨Nat.le_of_ble_eq_true rfl,?_⟩
  refine⟨Nat.le_of_ble_eq_true rfl,?_⟩
  exact c
 ·refine⟨Nat.le_of_ble_eq_true rfl,?_⟩
  refine⟨Nat.le_of_ble_eq_true rfl,?_⟩
  exact c
 ·exact c
 ·exact c
 ·exact c
 ·refine⟨Nat.le_of_ble_eq_true rfl,?_⟩
  refine⟨Nat.le_of_ble_eq_true rfl,?_⟩
  exact c
theorem HK {amb cst:Bool} {x:Dc} (hx:jQ amb cst x) (hv:fP x v) (c:K (.str (fG x)) none):ab (n+1) 1669 [v] none K:=by
 obtain⟨hl1,hl2⟩:=l8 hx
 obtain⟨nm,ty,val,bang⟩:=x
 obtain⟨i,e0,t,v',rfl,⟨i0,rfl⟩,ht,hv⟩:=hv
 have key:∀F:Nat,decide (Int.ofNat F=Int.ofNat 2097152)=bang→ab (n+1) 1669 [ao 42 (.str []) [ao 8 (.str nm) [] 0 i0,t,v'] F i] none K:=fun F e1=>by
  refine aa rfl rfl ?_
  have k2:∀A:T,A++bY [58,32] ty=fX ⟨nm,ty,val,bang⟩→aq TT (ab n) GG (az 1 ic.body) [.v (ao 42 (.str []) [ao 8 (.str nm) [] 0 i0,t,v'] F i),.v (.str A)] (fun fl st=>match fl with
   |.nxt=>K .none (bm none st)
   |.ret v=>K v (bm none st)
   |_=>False):=fun A hA=>by
   have k3:∀A:T,A=fX ⟨nm,ty,val,bang⟩→aq TT (ab n) GG (az 2 ic.body) [.v (ao 42 (.str []) [ao 8 (.str nm) [] 0 i0,t,v'] F i),.v (.str A)] (fun fl st=>match fl with
    |.nxt=>K .none (bm none st)
    |.ret v=>K v (bm none st)
    |_=>False):=fun A hA=>by
    have hl1:(fG ⟨nm,ty,val,bang⟩).length≤60:=hl1
    cases val with
    |none=>
     cases hv
     have c:K (.str (fX ⟨nm,ty,none,bang⟩)) none:=c
     rw[← hA] at c
     exact c
    |some y=>
     obtain⟨_,rfl⟩:=hv
     have c:K (.str ((fX ⟨nm,ty,some y,bang⟩++[32,61,32])++y)) none:=c
     have hl1:((fX ⟨nm,ty,some y,bang⟩++[32,61,32])++y).length≤60:=hl1
     rw[← hA] at c hl1
     have h2:=hl1
     rw[List.length_append] at h2
     refine⟨ae (by omega),?_⟩
     refine⟨ae (by exact aj ‹_› rfl),?_⟩
     exact c
   cases ty with
   |none=>
    cases ht
    have hA:A++[]=_:=hA
    refine⟨ae (by rw[hA];exact aj ‹_› rfl),?_⟩
    exact k3 _ hA
   |some y=>
    obtain⟨_,rfl⟩:=ht
    have hA:A++([58,32]++y)=_:=hA
    have hz:(A++([58,32]++y)).length≤40:=by rw[hA];exact hl2
    have hz2:=hz
    rw[List.length_append] at hz2
    refine⟨ae (by omega),?_⟩
    refine⟨ae (by exact aj ‹_› rfl),?_⟩
    exact k3 _ hA
  have hz:(cond bang (nm++[33]) nm).length≤40:=by
   have:(fX ⟨nm,ty,val,bang⟩).length=(cond bang (nm++[33]) nm++bY [58,32] ty).length:=rfl
   rw[List.length_append] at this
   have hl2:(fX ⟨nm,ty,val,bang⟩).length≤40:=hl2
   omega
  first|refine ar (e1) ?_|refine av (e1) ?_|((conv=>whnf);rw[e1];trace "FALLBACK")
  cases bang with
  |true=>
   have hz:(nm++[33]).length≤40:=hz
   refine⟨ae (by exact aj ‹_› rfl),?_⟩
   exact k2 (nm++[33]) rfl
  |false=>
   have hz:nm.length≤40:=hz
   refine⟨ae (by rw[List.append_nil];exact aj ‹_› rfl),?_⟩
   exact k2 (nm++[]) (by rw[List.append_nil];rfl)
 exact key _ (by cases bang<;>rfl)
theorem Mx {x:Tp} (hx:eU x) (hv:jY x v) (c:K (.str (kv x)) none):ab (n+1) 1648 [v] none K:=by
 have hl:=og hx
 obtain⟨nm,ext,dfl,inn,out⟩:=x
 obtain⟨i,t,v',rfl,ht,hv⟩:=hv
 have hl:((cond out (iy inn++[111,117,116,32]) (iy inn)++(nm++bY [32,101,120,116,101,110,100,115,32] ext))++bY [32,61,32] dfl).length≤60:=hl
 have c:K (.str ((cond out (iy inn++[111,117,116,32]) (iy inn)++(nm++bY [32,101,120,116,101,110,100,115,32] ext))++bY [32,61,32] dfl)) none:=c
 have hq:∃q:T,q=cond out (iy inn++[111,117,116,32]) (iy inn):=⟨_,rfl⟩
 obtain⟨q,hq⟩:=hq
 rw[← hq] at c hl
 rw[← List.append_assoc] at c hl
 have key:∀F:Nat,gZ (.dict [(In 0,.str []),(In 268435456,.str [105,110,32]),(In 536870912,.str [111,117,116,32]),(In 805306368,.str [105,110,32,111,117,116,32])]) (In F)=some (.str q)→ab (n+1) 1648 [ao 100 (.str nm) [t,v'] F i] none K:=fun F e1=>by
  refine aa rfl rfl ?_
  have k2:∀A:T,A=q++nm→aq TT (ab n) GG (az 1 fI.body) [.v (ao 100 (.str nm) [t,v'] F i),.v (.str A)] (fun fl st=>match fl with
   |.nxt=>K .none (bm none st)
   |.ret v=>K v (bm none st)
   |_=>False):=fun A hA=>by
   have k3:∀A:T,A=(q++nm)++bY [32,101,120,116,101,110,100,115,32] ext→aq TT (ab n) GG (az 2 fI.body) [.v (ao 100 (.str nm) [t,v'] F i),.v (.str A)] (fun fl st=>match fl with
    |.nxt=>K .none (bm none st)
    |.ret v=>K v (bm none st)
    |_=>False):=fun A hA=>by
    rw[← hA] at c hl
    cases dfl with
    |none=>
     cases hv
     have c:K (.str (A++[])) none:=c
     rw[List.append_nil] at c
     exact c
    |some y=>
     obtain⟨_,rfl⟩:=hv
     have c:K (.str (A++([32,61,32]++y))) none:=c
     have hl:(A++([32,61,32]++y)).length≤60:=hl
     rw[← List.append_assoc] at c hl
     have h2:=hl
     rw[List.length_append] at h2
     refine⟨ae (by lia),?_⟩
     refine⟨ae (by exact aj ‹_› rfl),?_⟩
     exact c
   have hz:((q++nm)++bY [32,101,120,116,101,110,100,115,32] ext).length≤60:=by
    rw[List.length_append] at hl;lia
   rw[← hA] at k3 hz
   cases ext with
   |none=>
    cases ht
    have hz:(A++[]).length≤60:=hz
    refine⟨ae (by exact aj ‹_› rfl),?_⟩
    exact k3 _ rfl
   |some y=>
    obtain⟨_,rfl⟩:=ht
    have hz:(A++([32,101,120,116,101,110,100,115,32]++y)).length≤60:=hz
    have hz2:=hz
    rw[List.length_append] at hz2
    refine⟨ae (by lia),?_⟩
    refine⟨ae (by exact aj ‹_› rfl),?_⟩
    exact k3 _ rfl
  have hz:(q++nm).length≤60:=by
   rw[List.length_append,List.length_append] at hl;lia
  refine⟨trivial,?_⟩
  refine⟨.inl ⟨[0,268435456,536870912,805306368],rfl,by decide⟩,?_⟩
  refine af e1 ?_
  refine⟨ae (by exact aj ‹_› rfl),?_⟩
  exact k2 _ rfl
 refine key _ ?_
 rw[hq]
 cases inn<;>cases out<;>kernel_rfl
abbrev KF (K:KT):Fl→St→Prop:=fun fl st=>match fl with
 |.nxt=>K .none (bm none st)
 |.ret v=>K v (bm none st)
 |_=>False
theorem oZ (amb:Bool):(bL amb).length≤8:=by cases amb<;>exact Nat.le_of_ble_eq_true rfl
theorem ox {kd:Nat} {amb:Bool} {F:Nat} (h1:decide (Int.ofNat kd=Int.ofNat 70)=false) (h2:decide (Int.ofNat kd=Int.ofNat 68)=false)
  (e1:decide ((Int.ofNat F / Int.ofNat 4194304) % Int.ofNat 2=Int.ofNat 1)=amb)
  (c:aq TT (ab n) GG (az 4 dD.body) [.v (ao kd x kids F at_),.v (.list kids),.v (.str (bL amb)),.un,.un,.un] (KF K)):ab (n+1) 1676 [ao kd x kids F at_] none K:=by
 refine aa rfl rfl ?_
 first|refine ar (h1) ?_|refine av (h1) ?_|((conv=>whnf);rw[h1];trace "FALLBACK")
 first|refine ar (h2) ?_|refine av (h2) ?_|((conv=>whnf);rw[h2];trace "FALLBACK")
 refine⟨trivial,?_⟩
 refine⟨trivial,?_⟩
 first|refine ar (e1) ?_|refine av (e1) ?_|((conv=>whnf);rw[e1];trace "FALLBACK")
 cases amb<;>exact c
theorem Hj {amb:Bool} {wd:T} {ds:List Dc} (hx:cf (.var amb wd ds)) (hv:cZ (.var amb wd ds) v) (c:K (.str (fu (.var amb wd ds))) none):ab (n+3) 1676 [v] none K:=by
 refine bc fun G=>?_;obtain⟨h1,_,h3,h4⟩:=hx
 have hv:∃F a l,F=fl amb eo∧v=ao 41 (.str wd) l F a∧aZ fP ds l:=by obtain⟨a,l,h⟩:=hv;exact⟨_,a,l,rfl,h⟩
 obtain⟨F,i,l,hF,rfl,A⟩:=hv
 have e1:decide ((Int.ofNat F / Int.ofNat 4194304) % Int.ofNat 2=Int.ofNat 1)=amb:=by rw[hF];cases amb<;>rfl
 clear hF
 refine G ?_;clear G;refine ox rfl rfl e1 ?_
 have hw:wd.length≤5:=by
  have:[n8,bj,mS].all (fun x=>Nat.ble x.length 5)=true:=rfl
  exact Nat.le_of_ble_eq_true (List.all_eq_true.mp this _ h1)
 have e2:=oZ amb
 have e4:=dm h4 fun x hx=>(l8 hx).1
 refine⟨ae (by(first|apply aj|apply ag);(· repeat' first|assumption|apply ak|exact Nat.le_refl _);rfl),?_⟩
 refine⟨ae (by(first|apply aj|apply ag);(· repeat' first|assumption|apply ak|exact Nat.le_refl _);rfl),?_⟩
 refine ft (item:=fP) (P:=jQ amb (aW wd bj)) (tx:=fG) (fun hx hv c=>HK hx hv c) A h4 (by exact ag ‹_› rfl) (by lia) ?_
 refine⟨ae (by rw[List.length_append,List.length_append,List.length_append];show _+_+1+_ < _;lia),?_⟩
 refine⟨ae (by rw[List.length_append,List.length_append,List.length_append,List.length_append];show _+_+1+_+1 < _;lia),?_⟩
 exact c
theorem Au {tps:List Tp} {B:T} {nd tv:V} (hx:∀x∈tps,eU x) (hz:tps.length≤2) (hB:B.length≤100) (q:eH tps tv)
  (c:(B++dW tps).length≤300→aq TT (ab (n+2)) GG (az 8 dD.body) [.v nd,.v (.list (tv::kids)),.v (.str (B++dW tps)),.un,.un,.un] (KF K)):
  aq TT (ab (n+2)) GG (az 7 dD.body) [.v nd,.v (.list (tv::kids)),.v (.str B),.un,.un,.un] (KF K):=by
 have hl:=iD hx hz
 have c:=c (by(first|apply aj|apply ag);(· repeat' first|assumption|apply ak|exact Nat.le_refl _);rfl)
 cases tps with
 |nil=>
  cases q
  refine⟨ae (by(first|apply aj|apply ag);(· repeat' first|assumption|apply ak|exact Nat.le_refl _);rfl),?_⟩
  exact c
 |cons y ys=>
  obtain⟨i,l,rfl,A⟩:=q
  have hz:ys.length+1≤2:=hz
  have hl:(([60]++aB [44,32] ((y::ys).map kv))++[62]).length≤130:=hl
  have h4:=hl
  rw[List.length_append,List.length_append] at h4
  have h4:1+_+1≤_:=h4
  refine ft (item:=jY) (P:=eU) (tx:=kv) (fun hx hv c=>Mx hx hv c) A hx (by show ys.length+1≤100;exact ag ‹_› rfl) (by lia) ?_
  refine⟨ae (by rw[List.length_append];show 1+_ < _;exact ag ‹_› rfl),?_⟩
  refine⟨ae (by exact aj ‹_› rfl),?_⟩
  refine⟨ae (by(first|apply aj|apply ag);(· repeat' first|assumption|apply ak|exact Nat.le_refl _);rfl),?_⟩
  exact c
theorem yO {amb:Bool} {x ty:T} {tps:List Tp} (hx:cf (.alias amb x tps ty)) (hv:cZ (.alias amb x tps ty) v) (c:K (.str (fu (.alias amb x tps ty))) none):ab (n+3) 1676 [v] none K:=by
 refine bc fun G=>?_;obtain⟨h1,h2,h3,h4⟩:=hx
 have hv:∃F a t y,F=fl amb eo∧v=ao 65 (.str x) [t,y] F a∧eH tps t∧bx ty y:=by obtain⟨a,t,y,h⟩:=hv;exact⟨_,a,t,y,rfl,h⟩
 obtain⟨F,i,tv,y,hF,rfl,q1,i1,rfl⟩:=hv
 have e1:decide ((Int.ofNat F / Int.ofNat 4194304) % Int.ofNat 2=Int.ofNat 1)=amb:=by rw[hF];cases amb<;>rfl
 clear hF
 refine G ?_;clear G;refine ox rfl rfl e1 ?_
 have hw:=bo h1
 have hy:=bo h2
 have e2:=oZ amb
 refine⟨ae (by(first|apply aj|apply ag);(· repeat' first|assumption|apply ak|exact Nat.le_refl _);rfl),?_⟩
 refine⟨ae (by(first|apply aj|apply ag);(· repeat' first|assumption|apply ak|exact Nat.le_refl _);rfl),?_⟩
 refine Au (n:=n) h4 h3 (by(first|apply aj|apply ag);(· repeat' first|assumption|apply ak|exact Nat.le_refl _);rfl) q1 fun hb=>?_
 refine⟨ae (by(first|apply aj|apply ag);(· repeat' first|assumption|apply ak|exact Nat.le_refl _);rfl),?_⟩
 refine⟨ae (by(first|apply aj|apply ag);(· repeat' first|assumption|apply ak|exact Nat.le_refl _);rfl),?_⟩
 refine⟨ae (by(first|apply aj|apply ag);(· repeat' first|assumption|apply ak|exact Nat.le_refl _);rfl),?_⟩
 have c:K (.str ((((((bL amb++[116,121,112,101,32])++x)++dW tps)++[32,61,32])++ty)++[59])) none:=c
 rw[List.append_assoc (bL amb)] at c
 exact c
theorem zH {amb:Bool} {x:T} {tps:List Tp} {bs:List Rf} (hx:cf (.iface amb x tps bs)) (hv:cZ (.iface amb x tps bs) v) (c:K (.str (fu (.iface amb x tps bs))) none):ab (n+6) 1676 [v] none K:=by
 refine bc fun G=>?_;obtain⟨h1,h2,h3,h4,h5⟩:=hx
 have hv:∃F a t b b' l,F=fl amb eo∧v=ao 64 (.str x) [t,ao 71 (.str []) l 0 b,ao 59 (.str []) [] 0 b'] F a∧eH tps t∧aZ fc bs l:=by
  obtain⟨a,t,b,b',l,_,h,q,A,_⟩:=hv;exact⟨_,a,t,b,b',l,rfl,h,q,A⟩
 obtain⟨F,i,tv,b1,b2,l,hF,rfl,q1,A⟩:=hv
 have e1:decide ((Int.ofNat F / Int.ofNat 4194304) % Int.ofNat 2=Int.ofNat 1)=amb:=by rw[hF];cases amb<;>rfl
 clear hF
 refine G ?_;clear G;refine ox rfl rfl e1 ?_
 have hw:=bo h1
 have e2:=oZ amb
 refine⟨ae (by(first|apply aj|apply ag);(· repeat' first|assumption|apply ak|exact Nat.le_refl _);rfl),?_⟩
 refine⟨ae (by(first|apply aj|apply ag);(· repeat' first|assumption|apply ak|exact Nat.le_refl _);rfl),?_⟩
 refine Au (n:=n+3) h3 h2 (by(first|apply aj|apply ag);(· repeat' first|assumption|apply ak|exact Nat.le_refl _);rfl) q1 fun hb=>?_
 have c:K (.str (((((((bL amb++[105,110,116,101,114,102,97,99,101,32])++x)++dW tps)++d7 bs)++[32])++[123,125]))) none:=c
 rw[List.append_assoc (bL amb),List.append_assoc _ [32] [123,125]] at c
 have hll:=A.len
 have l1:dJ (.list l)=some l.length:=if_pos (ae (by exact fT ‹_› ‹_› rfl))
 refine af (r:=(dJ (.list l)).map fun n=>In n) (by rw[l1];rfl) ?_
 cases bs with
 |nil=>
  cases A
  refine⟨ae (by(first|apply aj|apply ag);(· repeat' first|assumption|apply ak|exact Nat.le_refl _);rfl),?_⟩
  refine⟨ae (by(first|apply aj|apply ag);(· repeat' first|assumption|apply ak|exact Nat.le_refl _);rfl),?_⟩
  exact c
 |cons y ys=>
  have h4:ys.length+1≤2:=h4
  have hll:l.length=ys.length+1:=hll
  have e4:=dm h5 fun x hx=>(lH hx).1
  have e4:(aB [44,32] ((y::ys).map gX)).length≤(40+2) * (ys.length+1):=e4
  rw[hll]
  refine ft (item:=fc) (P:=fR) (tx:=gX) (fun hx hv c=>L6 (n:=n+1) hx hv c) A h5 (by show ys.length+1≤100;exact ag ‹_› rfl) (by lia) ?_
  refine⟨ae (by rw[List.length_append];show 9+_ < _;lia),?_⟩
  have e5:([32,101,120,116,101,110,100,115,32]++aB [44,32] ((y::ys).map gX)).length≤120:=by rw[List.length_append];show 9+_≤_;lia
  have e6:(((bL amb++([105,110,116,101,114,102,97,99,101,32]++x))++dW tps)++([32,101,120,116,101,110,100,115,32]++aB [44,32] ((y::ys).map gX))).length≤420:=by rw[List.length_append];lia
  refine⟨ae (by exact aj ‹_› rfl),?_⟩
  refine⟨ae (by(first|apply aj|apply ag);(· repeat' first|assumption|apply ak|exact Nat.le_refl _);rfl),?_⟩
  exact c
end
noncomputable def xG:S→S
 |.cons (.ite _ a _) _=>a
 |_=>.nil
noncomputable def RD:S→S
 |.cons a _=>a
 |_=>.nil
theorem da:∀{l:List T},aB [] l=l.flatten
 |[]=>rfl
 |[a]=>by show a=a++[];rw[List.append_nil]
 |a::b::r=>by show(a++[])++aB [] (b::r)=a++(b::r).flatten;rw[List.append_nil,da]
section
variable {n k k' f m a d j h dp de:Nat} {t t' s w raw:List Nat} {ta te fr at_ v x y z:V} {kids toks l r:List V} {K:KT} {b:Bool}
abbrev LV (x:bB):Prop:=x=.un∨∃v,x=.v v
theorem Ih {K:St→Prop} {a0 a1 a2 a3 x4 x5:bB} {u v:V} (h4:LV x4) (h5:LV x5) (c:K [a0,a1,a2,a3,.v u,.v v]):fF [4,5] (.tup [u,v]) [a0,a1,a2,a3,x4,x5] K:=by
 rcases h4 with rfl|⟨_,rfl⟩<;>rcases h5 with rfl|⟨_,rfl⟩<;>exact c
theorem Nv {K:St→Prop} {a0 a1 a2 x3 x4 x5:bB} {u:V} (h3:LV x3) (c:K [a0,a1,a2,.v u,x4,x5]):fF [3] u [a0,a1,a2,x3,x4,x5] K:=by
 rcases h3 with rfl|⟨_,rfl⟩<;>exact c
noncomputable abbrev jI:S:=pI (az 1 (xG (az 5 dD.body)))
theorem xR {nd ks iv:V} {B:T} {x4 x5:bB} {K:Fl→St→Prop} (hk:(w,raw)∈L.eG) (h4:LV x4) (h5:LV x5) (hB:B.length≤900)
  (c:∀x4 x5,LV x4→LV x5→K .nxt [.v nd,.v ks,.v (.str (B++([10,32,32]++raw))),.v (ao 67 (.str w) [iv] 0 at_),x4,x5]):
  aq TT (ab n) GG (RD jI) [.v nd,.v ks,.v (.str B),.v (ao 67 (.str w) [iv] 0 at_),x4,x5] K:=by
 have hr:=(gO hk).1
 have q:(B++([10,32,32]++raw)).length < 1000:=by rw[List.length_append,List.length_append];show _+(3+_) < _;lia
 have q2:([10,32,32]++raw).length < 1000:=by rw[List.length_append];show(3+_) < _;lia
 refine Ih h4 h5 ?_
 induction hk using cP
 ·refine⟨ae q2,?_⟩
  refine⟨ae q,?_⟩
  exact c _ _ (.inr ⟨_,rfl⟩) (.inr ⟨_,rfl⟩)
 ·refine⟨ae q2,?_⟩
  refine⟨ae q,?_⟩
  exact c _ _ (.inr ⟨_,rfl⟩) (.inr ⟨_,rfl⟩)
 ·refine⟨ae q2,?_⟩
  refine⟨ae q,?_⟩
  exact c _ _ (.inr ⟨_,rfl⟩) (.inr ⟨_,rfl⟩)
 ·refine⟨ae q2,?_⟩
  refine⟨ae q,?_⟩
  exact c _ _ (.inr ⟨_,rfl⟩) (.inr ⟨_,rfl⟩)
 ·refine⟨ae q2,?_⟩
  refine⟨ae q,?_⟩
  exact c _ _ (.inr ⟨_,rfl⟩) (.inr ⟨_,rfl⟩)
 ·refine⟨ae q2,?_⟩
  refine⟨ae q,?_⟩
  exact c _ _ (.inr ⟨_,rfl⟩) (.inr ⟨_,rfl⟩)
noncomputable def i8 (x:Mb):T:=([10,32,32]++x.raw)++(bY [32,61,32] x.val++[44])
theorem j0:∀{ms:List Mb},aB [] (cX ms)=(ms.map i8).flatten:=by
 intro ms
 rw[da]
 induction ms with
 |nil=>rfl
 |cons x r ih=>
  show[10,32,32]++(kN x++([44]++(cX r).flatten))=i8 x++(r.map i8).flatten
  rw[ih]
  unfold i8 kN
  simp only[List.append_assoc]
theorem yZ {nd ks:V} {K:Fl→St→Prop}:∀{ms:List Mb} {l:List V} {B:T} {x3 x4 x5:bB},aZ hH ms l→(∀x∈ms,jl x)→B.length+50 * ms.length≤900→LV x3→LV x4→LV x5→
  (∀x3 x4 x5,K .nxt [.v nd,.v ks,.v (.str (B++(ms.map i8).flatten)),x3,x4,x5])→
  cQ (fun x st K=>fF [3] x st fun st=>aq TT (ab n) GG jI st K) l [.v nd,.v ks,.v (.str B),x3,x4,x5] K:=by
 intro ms l B x3 x4 x5 A
 induction A generalizing B x3 x4 x5 with
 |nil=>
  intro _ _ _ _ _ c
  have:=c x3 x4 x5
  rw[List.map_nil,List.flatten_nil,List.append_nil] at this
  exact this
 |@cons x v ms l q A ih=>
  intro hx hB h3 h4 h5 c
  rw[List.length_cons] at hB
  have hx1:=hx x (List.mem_cons_self ..)
  refine bc fun G=>?_;obtain⟨w,raw,val⟩:=x
  obtain⟨i,iv,rfl,q⟩:=q
  obtain⟨hk,hv⟩:=hx1
  have hr:=(gO hk).1
  have hr:raw.length≤16:=hr
  have hv:=iC (p:=[32,61,32]) (by decide) hv
  have hv:(bY [32,61,32] val).length≤20:=hv
  refine G ?_;clear G;refine Nv h3 ?_
  have go:∀x4 x5,LV x4→LV x5→aq TT (ab n) GG (az 1 jI) [.v nd,.v ks,.v (.str (B++([10,32,32]++raw))),.v (ao 67 (.str w) [iv] 0 i),x4,x5] fun fl st=>match fl with
    |.nxt=>cQ (fun x st K=>fF [3] x st fun st=>aq TT (ab n) GG jI st K) l st K
    |.cnt=>cQ (fun x st K=>fF [3] x st fun st=>aq TT (ab n) GG jI st K) l st K
    |.brk=>K .nxt st
    |.ret v=>K (.ret v) st:=fun x4 x5 h4 h5=>by
   have fin:∀C:T,C=bY [32,61,32] val→cQ (fun x st K=>fF [3] x st fun st=>aq TT (ab n) GG jI st K) l [.v nd,.v ks,.v (.str ((B++([10,32,32]++raw))++(C++[44]))),.v (ao 67 (.str w) [iv] 0 i),x4,x5] K:=fun C hC=>by
    subst hC
    refine ih (fun y hy=>hx y (List.mem_cons_of_mem _ hy)) ?_ (.inr ⟨_,rfl⟩) h4 h5 fun x3 x4 x5=>?_
    ·rw[List.length_append,List.length_append,List.length_append,List.length_append];show _+(3+_)+(_+1)+_≤_;lia
    ·have:=c x3 x4 x5
     rw[List.map_cons,List.flatten_cons] at this
     rw[List.append_assoc B,List.append_assoc B]
     exact this
   have hz:(B++([10,32,32]++raw)).length≤870:=by rw[List.length_append,List.length_append];show _+(3+_)≤_;lia
   cases val with
   |none=>
    cases q
    refine⟨Nat.le_of_ble_eq_true rfl,?_⟩
    refine⟨ae (by(first|apply aj|apply ag);(· repeat' first|assumption|apply ak|exact Nat.le_refl _);rfl),?_⟩
    exact fin [] rfl
   |some y=>
    obtain⟨_,rfl⟩:=q
    have hv:([32,61,32]++y).length≤20:=hv
    refine⟨ae (by exact aj ‹_› rfl),?_⟩
    refine⟨ae (by(first|apply aj|apply ag);(· repeat' first|assumption|apply ak|exact Nat.le_refl _);rfl),?_⟩
    have hz2:(([32,61,32]++y)++[44]).length≤21:=by rw[List.length_append];show _+1≤_;exact aj ‹_› rfl
    refine⟨ae (by(first|apply aj|apply ag);(· repeat' first|assumption|apply ak|exact Nat.le_refl _);rfl),?_⟩
    exact fin _ rfl
  exact xR hk h4 h5 (by lia) fun x4 x5 h4 h5=>go x4 x5 h4 h5
theorem uK {amb cst:Bool} {x:T} {ms:List Mb}:((bL amb++((cond cst [99,111,110,115,116,32,101,110,117,109,32] [101,110,117,109,32]++x)++[32,123]))++(ms.map i8).flatten)++cond ms.isEmpty [125] [10,125]=fu (.enum amb cst x ms):=by
 rw[← j0]
 cases ms with
 |nil=>cases cst<;>simp [fu,cn,cX,aB]
 |cons y ys=>cases cst<;>simp [fu,cn]
theorem BR {amb cst:Bool} {x:T} {ms:List Mb} (hx:cf (.enum amb cst x ms)) (hv:cZ (.enum amb cst x ms) v) (c:K (.str (fu (.enum amb cst x ms))) none):ab (n+3) 1676 [v] none K:=by
 refine bc fun G=>?_;obtain⟨h1,h3,h4⟩:=hx
 have hv:∃F a l,F=fl amb eo+fl cst oL∧v=ao 66 (.str x) l F a∧aZ hH ms l:=by obtain⟨a,l,h⟩:=hv;exact⟨_,a,l,rfl,h⟩
 obtain⟨F,i,l,hF,rfl,A⟩:=hv
 have e1:decide ((Int.ofNat F / Int.ofNat 4194304) % Int.ofNat 2=Int.ofNat 1)=amb:=by rw[hF];cases amb<;>cases cst<;>rfl
 have e2:decide ((Int.ofNat F / Int.ofNat 8388608) % Int.ofNat 2=Int.ofNat 1)=cst:=by rw[hF];cases amb<;>cases cst<;>rfl
 clear hF
 rw[← uK] at c
 refine G ?_;clear G;refine ox rfl rfl e1 ?_
 have hw:=bo h1
 have q2:=oZ amb
 have hll:=A.len
 have key:∀C:T,C=cond cst [99,111,110,115,116,32,101,110,117,109,32] [101,110,117,109,32]→C.length≤11→
   K (.str (((bL amb++((C++x)++[32,123]))++(ms.map i8).flatten)++cond ms.isEmpty [125] [10,125])) none→
   aq TT (ab (n+2)) GG (az 1 (xG (az 5 dD.body))) [.v (ao 66 (.str x) l F i),.v (.list l),.v (.str (bL amb++((C++x)++[32,123]))),.un,.un,.un] (KF K):=fun C hC hCl c=>by
  refine yZ (n:=n+2) A h4 (by rw[List.length_append,List.length_append,List.length_append];show _+(_+_+2)+_≤_;lia) (.inl rfl) (.inl rfl) (.inl rfl) fun x3 x4 x5=>?_
  have l1:dJ (.list l)=some l.length:=if_pos (ae (by exact fT ‹_› ‹_› rfl))
  refine af (r:=(dJ (.list l)).map fun n=>In n) (by rw[l1];rfl) ?_
  have lb:((bL amb++((C++x)++[32,123]))++(ms.map i8).flatten).length≤900:=by
   obtain⟨l1,l2⟩:=lx h4
   have l3:=dM (b:=40) (c:=0) (cU:=[]) (Nat.le_refl _) l1
   rw[l2,j0] at l3
   rw[List.length_append,List.length_append,List.length_append,List.length_append];show _+(_+_+2)+_≤_;lia
  cases ms with
  |nil=>
   cases A
   refine⟨ae (by(first|apply aj|apply ag);(· repeat' first|assumption|apply ak|exact Nat.le_refl _);rfl),?_⟩
   exact c
  |cons y ys=>
   have hll:l.length=ys.length+1:=hll
   rw[hll]
   refine⟨ae (by(first|apply aj|apply ag);(· repeat' first|assumption|apply ak|exact Nat.le_refl _);rfl),?_⟩
   exact c
 refine⟨trivial,?_⟩
 refine⟨trivial,?_⟩
 first|refine ar (e2) ?_|refine av (e2) ?_|((conv=>whnf);rw[e2];trace "FALLBACK")
 cases cst with
 |true=>
  refine⟨ae (by(first|apply aj|apply ag);(· repeat' first|assumption|apply ak|exact Nat.le_refl _);rfl),?_⟩
  refine⟨ae (by(first|apply aj|apply ag);(· repeat' first|assumption|apply ak|exact Nat.le_refl _);rfl),?_⟩
  refine⟨ae (by(first|apply aj|apply ag);(· repeat' first|assumption|apply ak|exact Nat.le_refl _);rfl),?_⟩
  exact key _ rfl (by decide) c
 |false=>
  refine⟨ae (by(first|apply aj|apply ag);(· repeat' first|assumption|apply ak|exact Nat.le_refl _);rfl),?_⟩
  refine⟨ae (by(first|apply aj|apply ag);(· repeat' first|assumption|apply ak|exact Nat.le_refl _);rfl),?_⟩
  refine⟨ae (by(first|apply aj|apply ag);(· repeat' first|assumption|apply ak|exact Nat.le_refl _);rfl),?_⟩
  exact key _ rfl (by decide) c
theorem F8 {ns:List eX} {only:Bool} (hx:cR (.imp w raw ns only)) (hv:eY (.imp w raw ns only) v) (c:K (.str (fb (.imp w raw ns only))) none):ab (n+3) 1676 [v] none K:=by
 refine bc fun G=>?_;obtain⟨hk,h2,h3,h4⟩:=hx
 have hv:∃F a l,F=fl only gw∧v=ao 68 (.str w) l F a∧aZ cE ns l:=by obtain⟨a,l,h⟩:=hv;exact⟨_,a,l,rfl,h⟩
 obtain⟨F,i,l,hF,rfl,A⟩:=hv
 have e1:decide (Int.ofNat F=Int.ofNat 134217728)=only:=by rw[hF];cases only<;>rfl
 clear hF
 have hr:=(gO hk).2
 have hll:=A.len
 refine G ?_;clear G;refine aa rfl rfl ?_
 have l1:dJ (.list l)=some l.length:=if_pos (ae (by exact fT ‹_› ‹_› rfl))
 refine af (r:=(dJ (.list l)).map fun n=>In n) (by rw[l1];rfl) ?_
 cases ns with
 |nil=>
  cases A
  first|refine ar (e1) ?_|refine av (e1) ?_|((conv=>whnf);rw[e1];trace "FALLBACK")
  cases only with
  |true=>
   have c:K (.str (([105,109,112,111,114,116,32,123,125,32,102,114,111,109,32]++bk raw)++[59])) none:=c
   refine⟨Nat.le_of_ble_eq_true rfl,?_⟩
   refine oB hk ?_
   refine⟨ae (by(first|apply aj|apply ag);(· repeat' first|assumption|apply ak|exact Nat.le_refl _);rfl),?_⟩
   refine⟨ae (by(first|apply aj|apply ag);(· repeat' first|assumption|apply ak|exact Nat.le_refl _);rfl),?_⟩
   exact c
  |false=>
   have c:K (.str (([105,109,112,111,114,116,32]++bk raw)++[59])) none:=c
   refine⟨Nat.le_of_ble_eq_true rfl,?_⟩
   refine oB hk ?_
   refine⟨ae (by(first|apply aj|apply ag);(· repeat' first|assumption|apply ak|exact Nat.le_refl _);rfl),?_⟩
   refine⟨ae (by(first|apply aj|apply ag);(· repeat' first|assumption|apply ak|exact Nat.le_refl _);rfl),?_⟩
   exact c
 |cons y ys=>
  have h2:ys.length+1≤3:=h2
  have hll:l.length=ys.length+1:=hll
  have e4:=dm h3 fun x hx=>gm hx
  have e4:(aB [44,32] ((y::ys).map cw)).length≤(30+2) * (ys.length+1):=e4
  have c:K (.str (((([105,109,112,111,114,116,32,123,32]++aB [44,32] ((y::ys).map cw))++[32,125,32,102,114,111,109,32])++bk raw)++[59])) none:=c
  rw[hll]
  first|refine ar (show decide (Int.ofNat 0 < Int.ofNat (ys.length+1))=true from decide_eq_true (Int.ofNat_lt.mpr (Nat.succ_pos _))) ?_|refine av (show decide (Int.ofNat 0 < Int.ofNat (ys.length+1))=true from decide_eq_true (Int.ofNat_lt.mpr (Nat.succ_pos _))) ?_|((conv=>whnf);rw[show decide (Int.ofNat 0 < Int.ofNat (ys.length+1))=true from decide_eq_true (Int.ofNat_lt.mpr (Nat.succ_pos _))];trace "FALLBACK")
  refine ft (item:=cE) (P:=eS) (tx:=cw) (fun hx hv c=>BV hx hv c) A h3 (by show ys.length+1≤100;exact ag ‹_› rfl) (by lia) ?_
  refine⟨ae (by rw[List.length_append];show 9+_ < _;lia),?_⟩
  refine⟨ae (by rw[List.length_append,List.length_append];show 9+_+8 < _;lia),?_⟩
  refine oB hk ?_
  refine⟨ae (by rw[List.length_append,List.length_append,List.length_append];show 9+_+8+_ < _;lia),?_⟩
  refine⟨ae (by rw[List.length_append,List.length_append,List.length_append,List.length_append];show 9+_+8+_+1 < _;lia),?_⟩
  exact c
theorem Ez {dd:De} (hx:cf dd) (hv:cZ dd v) (c:K (.str (fu dd)) none):ab (n+6) 1676 [v] none K:=by
 cases dd with
 |enum=>exact BR hx hv c
 |alias=>exact yO hx hv c
 |iface=>exact zH hx hv c
 |var=>exact Hj hx hv c
theorem Md {s:Sm} (hx:cR s) (hv:eY s v) (c:K (.str (fb s)) none):ab (n+7) 1676 [v] none K:=by
 cases s with
 |imp w raw ns only=>exact F8 hx hv c
 |de ex dd=>
  cases ex with
  |false=>exact Ez hx hv c
  |true=>
   obtain⟨i,y,rfl,hy⟩:=hv
   have hb:([101,120,112,111,114,116,32]++fu dd).length≤900:=rk (s:=.de true dd) hx
   refine aa rfl rfl ?_
   refine Ez (n:=n) hx hy ?_
   exact⟨ae (by exact aj ‹_› rfl),c⟩
end
structure fW (tx:T) (a:Nat) (l:T):Prop where
 d:tx.drop a=l
 z:tx.length≤900000
theorem fW.next {tx l:T} {a c:Nat} (h:fW tx a (c::l)):fW tx (a+1) l:=
 ⟨by rw[← List.drop_drop,h.d];rfl,h.z⟩
theorem fW.lt {tx l:T} {a c:Nat} (h:fW tx a (c::l)):a < tx.length:=by
 have:=congrArg List.length h.d
 rw[List.length_drop,List.length_cons] at this
 omega
theorem fW.get {tx l:T} {a c:Nat} (h:fW tx a (c::l)):tx[a]?=some c:=by
 have:=congrArg (·[0]?) h.d
 rw[List.getElem?_drop] at this
 exact this
theorem fW.idx {tx l:T} {a c:Nat} (h:fW tx a (c::l)):gZ (.str tx) (In a)=some (.str [c]):=by
 show(at_ tx.length (.ofNat a)).bind _=_
 rw[wc h.lt (Nat.le_trans h.z (by decide))]
 show(tx[a]?).map _=_
 rw[h.get];rfl
section
variable {n k k' f m a d j h dp de c c1 c2 c3:Nat} {t t' s w raw tx l r out:List Nat} {ta te fr at_ v x y z:V} {K:KT} {b:Bool}
noncomputable abbrev rA:S:=az 1 i3.body
noncomputable abbrev C0 (tx:T) (a:Nat) (out:T):St:=[.v (.str tx),.v (In a),.v (.str out)]
theorem cr {g:Nat} {K:Fl→St→Prop} (hg:0 < g) (h:fW tx a (c::l)) (h1:aW [c] [34]=false) (h2:aW [c] [92]=false) (hz:out.length≤900)
  (k:wh n rA (g - 1) (C0 tx (a+1) (out++[c])) K):wh n rA g (C0 tx a out) K:=by
 refine aK hg ?_
 refine af h.idx ?_
 first|refine ar (h1) ?_|refine av (h1) ?_|((conv=>whnf);rw[h1];trace "FALLBACK")
 refine af h.idx ?_
 conv=>whnf
 rw[h2]
 refine af (r:=c9 (.bool false)) rfl ?_
 refine af h.idx ?_
 first|refine ar (h2) ?_|refine av (h2) ?_|((conv=>whnf);rw[h2];trace "FALLBACK")
 refine af h.idx ?_
 refine⟨ae (by rw[List.length_append];show _+1 < _;lia),?_⟩
 exact⟨trivial,k⟩
theorem o7 {g:Nat} {K:Fl→St→Prop} (hg:0 < g) (h:fW tx a (92::c::l)) (h1:aW [c] [120]=false) (hz:out.length≤900)
  (k:wh n rA (g - 1) (C0 tx (a+2) (out++cond (aW [c] [110]) [10] [c])) K):wh n rA g (C0 tx a out) K:=by
 refine aK hg ?_
 refine af h.idx ?_
 refine af h.idx ?_
 refine⟨trivial,?_⟩
 refine af h.next.idx ?_
 first|refine ar (h1) ?_|refine av (h1) ?_|((conv=>whnf);rw[h1];trace "FALLBACK")
 refine af h.idx ?_
 refine⟨trivial,?_⟩
 refine af h.next.idx ?_
 conv=>whnf
 revert k
 cases aW [c] [110] with
 |true=>
  intro k
  refine⟨ae (by rw[List.length_append];show _+1 < _;lia),?_⟩
  exact⟨trivial,k⟩
 |false=>
  intro k
  refine⟨trivial,?_⟩
  refine af h.next.idx ?_
  refine⟨ae (by rw[List.length_append];show _+1 < _;lia),?_⟩
  exact⟨trivial,k⟩
theorem A4 {g:Nat} {K:Fl→St→Prop} (hg:0 < g) (h:fW tx a (92::120::48::50::l)) (hz:out.length≤900)
  (k:wh n rA (g - 1) (C0 tx (a+4) (out++[2])) K):wh n rA g (C0 tx a out) K:=by
 have e:oq (.str tx) (In (a+2)) (In (a+4))=some (.str [48,50]):=by
  have z:=h.z
  have z2:=h.next.next.next.lt
  have hs:(tx.take (a+4)).drop (a+2)=[48,50]:=by
   show(tx.take (a+2+2)).drop (a+2)=_
   rw[← List.take_drop,h.next.next.d];rfl
  show(if tx.length≤bA∧a+2≤bA∧a+4≤bA then some (V.str ((tx.take (a+4)).drop (a+2))) else none)=_
  rw[if_pos ⟨Nat.le_trans z (by decide),by show _≤1000000;lia,by show _≤1000000;lia⟩,hs]
 refine aK hg ?_
 refine af h.idx ?_
 refine af h.idx ?_
 refine⟨trivial,?_⟩
 refine af h.next.idx ?_
 refine⟨trivial,?_⟩
 refine⟨trivial,?_⟩
 refine af e ?_
 refine⟨ae (by rw[List.length_append];show _+1 < _;lia),?_⟩
 exact⟨trivial,k⟩
theorem gH {g:Nat} {K:Fl→St→Prop} (hg:0 < g) (h:fW tx a (34::l)) (k:K .nxt (C0 tx a out)):wh n rA g (C0 tx a out) K:=by
 refine aK hg ?_
 refine af h.idx ?_
 exact k
theorem u4 (hk:(w,raw)∈L.eG) {b:T} (hb:bk raw=34::b) (h:fW tx a (b++l)) (k:∀a',fW tx a' l→K (.tup [.str w,In a']) none):ab (n+1) 1683 [.str tx,In a] none K:=by
 have g0:11 < GG:=by rw[iO];omega
 refine aa rfl rfl ?_
 induction hk using cP
 ·cases hb
  refine cr (n:=n) (by exact c7 ‹_›) h rfl rfl (by decide) ?_
  refine gH (n:=n) (by omega) h.next ?_
  exact⟨trivial,k _ h.next.next⟩
 ·cases hb
  refine cr (n:=n) (by exact c7 ‹_›) h rfl rfl (by decide) ?_
  refine cr (n:=n) (by omega) h.next rfl rfl (by decide) ?_
  refine gH (n:=n) (by omega) h.next.next ?_
  exact⟨trivial,k _ h.next.next.next⟩
 ·cases hb
  refine cr (n:=n) (by exact c7 ‹_›) h rfl rfl (by decide) ?_
  refine cr (n:=n) (by omega) h.next rfl rfl (by decide) ?_
  refine cr (n:=n) (by omega) h.next.next rfl rfl (by decide) ?_
  refine gH (n:=n) (by omega) h.next.next.next ?_
  exact⟨trivial,k _ h.next.next.next.next⟩
 ·cases hb
  refine gH (n:=n) (by exact c7 ‹_›) h ?_
  exact⟨trivial,k _ h.next⟩
 ·cases hb
  refine cr (n:=n) (by exact c7 ‹_›) h rfl rfl (by decide) ?_
  have h:=h.next
  refine o7 (n:=n) (by omega) h rfl (by decide) ?_
  have h:=h.next.next
  refine o7 (n:=n) (by omega) h rfl (by decide) ?_
  have h:=h.next.next
  refine o7 (n:=n) (by omega) h rfl (by decide) ?_
  have h:=h.next.next
  refine A4 (n:=n) (by omega) h (by decide) ?_
  have h:=h.next.next.next.next
  refine gH (n:=n) (by omega) h ?_
  exact⟨trivial,k _ h.next⟩
 ·cases hb
  refine cr (n:=n) (by exact c7 ‹_›) h rfl rfl (by decide) ?_
  refine cr (n:=n) (by omega) h.next rfl rfl (by decide) ?_
  refine cr (n:=n) (by omega) h.next.next rfl rfl (by decide) ?_
  refine gH (n:=n) (by omega) h.next.next.next ?_
  exact⟨trivial,k _ h.next.next.next.next⟩
end
noncomputable def Rn:S→S
 |.cons (.ite _ _ b) _=>b
 |_=>.nil
noncomputable abbrev lq:T:=[97,98,99,100,101,102,103,104,105,106,107,108,109,110,111,112,113,114,115,116,117,118,119,120,121,122,65,66,67,68,69,70,71,72,73,74,75,76,77,78,79,80,81,82,83,84,85,86,87,88,89,90,36,95]
noncomputable def jx (t:T):Bool:=(aW [105,109,112,111,114,116] t||(aW [101,120,112,111,114,116] t||(aW [101,110,117,109] t||(aW [99,111,110,115,116] t||(aW [118,97,114] t||(aW [105,110] t||(aW [101,120,116,101,110,100,115] t||(aW [110,101,119] t||false))))))))
section
variable {n k k' f m a j h dp de c c1 c2 c3 g:Nat} {d:Bool} {t t' s w raw tx l r:List Nat} {ta te fr at_ v x y z:V} {out:List V} {x4 x5 x6:bB} {K:Fl→St→Prop} {b:Bool}
noncomputable abbrev eR:S:=az 3 iH.body
noncomputable abbrev BI:S:=Qg eR
noncomputable abbrev Pc:S:=xG (Rn (az 5 BI))
noncomputable abbrev lB (tx:T) (out:List V) (b:Bool) (a:Nat) (x4 x5 x6:bB):St:=[.v (.str tx),.own (.list out),.v (.bool b),.v (In a),x4,x5,x6]
theorem Pw {K:St→Prop} {a0 a1 a2 a3 u:bB} (h:LV x4) (c:K [a0,a1,a2,a3,u,x5,x6]):bQ [a0,a1,a2,a3,x4,x5,x6] 4 u K:=by
 rcases h with rfl|⟨_,rfl⟩<;>exact c
theorem Oj {K:St→Prop} {a0 a1 a2 a3 u:bB} (h:LV x5) (c:K [a0,a1,a2,a3,x4,u,x6]):bQ [a0,a1,a2,a3,x4,x5,x6] 5 u K:=by
 rcases h with rfl|⟨_,rfl⟩<;>exact c
theorem Nt {K:St→Prop} {a0 a1 a2 a3 u:bB} (h:LV x6) (c:K [a0,a1,a2,a3,x4,x5,u]):bQ [a0,a1,a2,a3,x4,x5,x6] 6 u K:=by
 rcases h with rfl|⟨_,rfl⟩<;>exact c
theorem nQ (h:fW tx a l):(dJ (.str tx)).map (fun n=>V.int (.ofNat n))=some (In tx.length):=by
 have:dJ (.str tx)=some tx.length:=if_pos (Nat.le_trans h.z (by decide))
 rw[this];rfl
theorem eQ {a b:Nat} (h:a < b):decide (Int.ofNat a < Int.ofNat b)=true:=decide_eq_true (Int.ofNat_lt.mpr h)
theorem jp (hg:0 < g) (h:fW tx a (c::l)) (h4:LV x4)
  (k:aq TT (ab n) GG (az 2 BI) (lB tx out b (a+1) (.v (In a)) x5 x6) fun fl st=>match fl with
  |.nxt=>wh n eR (g - 1) st K
  |.cnt=>wh n eR (g - 1) st K
  |.brk=>K .nxt st
  |.ret v=>K (.ret v) st):wh n eR g (lB tx out b a x4 x5 x6) K:=by
 refine aK hg ?_
 refine af (nQ h) ?_
 first|refine ar (eQ h.lt) ?_|refine av (eQ h.lt) ?_|((conv=>whnf);rw[eQ h.lt];trace "FALLBACK")
 refine Pw h4 ?_
 exact⟨trivial,k⟩
theorem jS (hg:0 < g) (h:fW tx a (32::l)) (h4:LV x4) (k:∀x4,LV x4→wh n eR (g - 1) (lB tx out b (a+1) x4 x5 x6) K):wh n eR g (lB tx out b a x4 x5 x6) K:=by
 refine jp hg h h4 ?_
 refine af h.idx ?_
 refine af h.idx ?_
 cases b with
 |true=>exact k _ (.inr ⟨_,rfl⟩)
 |false=>
  refine af h.idx ?_
  exact k _ (.inr ⟨_,rfl⟩)
theorem lN (hg:0 < g) (h:fW tx a (10::l)) (h4:LV x4) (k:∀x4,LV x4→wh n eR (g - 1) (lB tx out true (a+1) x4 x5 x6) K):wh n eR g (lB tx out b a x4 x5 x6) K:=by
 refine jp hg h h4 ?_
 refine af h.idx ?_
 cases b with
 |true=>exact k _ (.inr ⟨_,rfl⟩)
 |false=>
  refine af h.idx ?_
  exact k _ (.inr ⟨_,rfl⟩)
theorem k9 {kd:Nat} {p q:Nat} (hz:out.length < 100000) (k:∀x4 x5 x6,LV x4→LV x5→LV x6→K .nxt (lB tx (out++[aC kd w (In p) (In q) (.bool b)]) false q x4 x5 x6)):
  aq TT (ab (n+1)) GG (az 6 BI) (lB tx out b q (.v (In p)) (.v (.str w)) (.v (In kd))) K:=by
 refine hX ?_
 refine⟨rfl,?_⟩
 refine⟨by show _ < 1000000;exact ag ‹_› rfl,?_⟩
 exact k _ _ _ (.inr ⟨_,rfl⟩) (.inr ⟨_,rfl⟩) (.inr ⟨_,rfl⟩)
noncomputable def lZ (c:Nat):Bool:=!(aW [c] [10])&&(!(aW [c] [32])&&(!(aW [c] [34])&&!(i5 [c] lq)))
theorem nN (h:lZ c=true):aW [c] [10]=false∧aW [c] [32]=false∧aW [c] [34]=false∧i5 [c] lq=false:=by
 unfold lZ at h
 simp only[Bool.and_eq_true,Bool.not_eq_true'] at h
 exact h
theorem lS (hg:0 < g) (h:fW tx a (c::l)) (h1:aW [c] [10]=false) (h2:aW [c] [32]=false) (h4:LV x4) (h5:LV x5) (h6:LV x6)
  (k:aq TT (ab n) GG (az 5 BI) (lB tx out b (a+1) (.v (In a)) (.v (.str [c])) (.v (In 5))) fun fl st=>match fl with
  |.nxt=>wh n eR (g - 1) st K
  |.cnt=>wh n eR (g - 1) st K
  |.brk=>K .nxt st
  |.ret v=>K (.ret v) st):wh n eR g (lB tx out b a x4 x5 x6) K:=by
 refine jp hg h h4 ?_
 refine af h.idx ?_
 first|refine ar (h1) ?_|refine av (h1) ?_|((conv=>whnf);rw[h1];trace "FALLBACK")
 refine af h.idx ?_
 first|refine ar (h2) ?_|refine av (h2) ?_|((conv=>whnf);rw[h2];trace "FALLBACK")
 refine af h.idx ?_
 refine Oj h5 ?_
 refine Nt h6 ?_
 exact k
theorem vO (hg:0 < g) (h:fW tx a (c::l)) (hc:lZ c=true) (h4:LV x4) (h5:LV x5) (h6:LV x6) (hz:out.length < 100000)
  (k:∀ta te x4 x5 x6,LV x4→LV x5→LV x6→wh (n+1) eR (g - 1) (lB tx (out++[aC 5 [c] ta te (.bool b)]) false (a+1) x4 x5 x6) K):wh (n+1) eR g (lB tx out b a x4 x5 x6) K:=by
 refine bc fun G=>?_;obtain⟨e1,e2,e3,e4⟩:=nN hc
 refine G ?_;clear G;refine lS hg h e1 e2 h4 h5 h6 ?_
 first|refine ar (e3) ?_|refine av (e3) ?_|((conv=>whnf);rw[e3];trace "FALLBACK")
 first|refine ar (e4) ?_|refine av (e4) ?_|((conv=>whnf);rw[e4];trace "FALLBACK")
 exact k9 hz (k _ _)
theorem B6 (hg:0 < g) (hk:(w,raw)∈L.eG) (h:fW tx a (bk raw++l)) (h4:LV x4) (h5:LV x5) (h6:LV x6) (hz:out.length < 100000)
  (k:∀ta te a' x4 x5 x6,fW tx a' l→LV x4→LV x5→LV x6→wh (n+1) eR (g - 1) (lB tx (out++[aC 4 w ta te (.bool b)]) false a' x4 x5 x6) K):wh (n+1) eR g (lB tx out b a x4 x5 x6) K:=by
 have hq:∃bb,bk raw=34::bb:=by
  induction hk using cP
  ·exact⟨_,rfl⟩
  ·exact⟨_,rfl⟩
  ·exact⟨_,rfl⟩
  ·exact⟨_,rfl⟩
  ·exact⟨_,rfl⟩
  ·exact⟨_,rfl⟩
 obtain⟨bb,hb⟩:=hq
 rw[hb] at h
 have h:fW tx a (34::(bb++l)):=h
 refine lS hg h rfl rfl h4 h5 h6 ?_
 refine u4 hk hb h.next fun a' ha=>?_
 exact k9 hz fun ξ ξ ξ=>k _ _ _ _ _ _ ha
theorem wp {x4 x5 x6:bB}:∀{u:T} {g a:Nat},(∀c∈u,i5 [c] lq=true)→fW tx a (u++c::l)→i5 [c] lq=false→u.length < g→K .nxt (lB tx out b (a+u.length) x4 x5 x6)→wh n Pc g (lB tx out b a x4 x5 x6) K:=by
 intro u
 induction u with
 |nil=>
  intro g a _ h hc hg k
  have h:fW tx a (c::l):=h
  refine aK hg ?_
  refine af (nQ h) ?_
  first|refine ar (eQ h.lt) ?_|refine av (eQ h.lt) ?_|((conv=>whnf);rw[eQ h.lt];trace "FALLBACK")
  refine af h.idx ?_
  first|refine ar (hc) ?_|refine av (hc) ?_|((conv=>whnf);rw[hc];trace "FALLBACK")
  exact k
 |cons e u ih=>
  intro g a hu h hc hg k
  rw[List.length_cons] at hg k
  have h:fW tx a (e::(u++c::l)):=h
  refine aK (by exact c7 ‹_›) ?_
  refine af (nQ h) ?_
  first|refine ar (eQ h.lt) ?_|refine av (eQ h.lt) ?_|((conv=>whnf);rw[eQ h.lt];trace "FALLBACK")
  refine af h.idx ?_
  first|refine ar (hu e (List.mem_cons_self ..)) ?_|refine av (hu e (List.mem_cons_self ..)) ?_|((conv=>whnf);rw[hu e (List.mem_cons_self ..)];trace "FALLBACK")
  refine⟨trivial,?_⟩
  refine ih (fun y hy=>hu y (List.mem_cons_of_mem _ hy)) h.next hc (by exact gC ‹_›) ?_
  rw[Nat.add_assoc,Nat.add_comm 1]
  exact k
theorem AO {e:Nat} {u:T} (hg:0 < g) (hw:∀c∈e::u,i5 [c] lq=true) (h:fW tx a ((e::u)++c::l)) (hc:i5 [c] lq=false) (hk:jx (e::u)=d) (h4:LV x4) (h5:LV x5) (h6:LV x6) (hz:out.length < 100000)
  (k:∀ta te a' x4 x5 x6,fW tx a' (c::l)→LV x4→LV x5→LV x6→wh (n+1) eR (g - 1) (lB tx (out++[aC (cond d 2 1) (e::u) ta te (.bool b)]) false a' x4 x5 x6) K):wh (n+1) eR g (lB tx out b a x4 x5 x6) K:=by
 have h:fW tx a (e::(u++c::l)):=h
 have he:=hw e (List.mem_cons_self ..)
 have hn:∀c',i5 [c'] lq=false→aW [e] [c']=false:=fun c' h'=>by
  cases q:aW [e] [c'] with
  |false=>rfl
  |true=>
   have q:(Nat.beq e c'&&true)=true:=q
   rw[Bool.and_true] at q
   rw[Nat.eq_of_beq_eq_true q,h'] at he
   cases he
 have hs:oq (.str tx) (In a) (In (a+1+u.length))=some (.str (e::u)):=by
  have z:=h.z
  have hd:(tx.take (a+1+u.length)).drop a=e::u:=by
   rw[Nat.add_assoc,← List.take_drop,h.d]
   show(e::(u++c::l)).take (1+u.length)=_
   rw[Nat.add_comm,List.take_succ_cons,List.take_left]
  have hl:=congrArg List.length h.d
  rw[List.length_drop,List.length_cons,List.length_append,List.length_cons] at hl
  show(if tx.length≤bA∧a≤bA∧a+1+u.length≤bA then some (V.str ((tx.take (a+1+u.length)).drop a)) else none)=_
  rw[if_pos ⟨Nat.le_trans z (by decide),by show _≤1000000;omega,by show _≤1000000;omega⟩,hd]
 have h':fW tx (a+1+u.length) (c::l):=⟨by rw[← List.drop_drop,h.next.d,List.drop_left],h.z⟩
 refine lS hg h (hn 10 rfl) (hn 32 rfl) h4 h5 h6 ?_
 first|refine ar (hn 34 rfl) ?_|refine av (hn 34 rfl) ?_|((conv=>whnf);rw[hn 34 rfl];trace "FALLBACK")
 first|refine ar (he) ?_|refine av (he) ?_|((conv=>whnf);rw[he];trace "FALLBACK")
 refine wp (n:=n+1) (fun y hy=>hw y (List.mem_cons_of_mem _ hy)) h.next hc ?_ ?_
 ·have hl:=congrArg List.length h.d
  rw[List.length_drop,List.length_cons,List.length_append,List.length_cons] at hl
  have:=h.z
  rw[iO];omega
 refine af hs ?_
 have hk:(aW [105,109,112,111,114,116] (e::u)||(aW [101,120,112,111,114,116] (e::u)||(aW [101,110,117,109] (e::u)||(aW [99,111,110,115,116] (e::u)||(aW [118,97,114] (e::u)||(aW [105,110] (e::u)||(aW [101,120,116,101,110,100,115] (e::u)||(aW [110,101,119] (e::u)||false))))))))=d:=hk
 first|refine ar (hk) ?_|refine av (hk) ?_|((conv=>whnf);rw[hk];trace "FALLBACK")
 cases d with
 |true=>exact k9 hz fun ξ ξ ξ=>k _ _ _ _ _ _ h'
 |false=>exact k9 hz fun ξ ξ ξ=>k _ _ _ _ _ _ h'
end
noncomputable def eK:Nat→T
 |0=>[]
 |1=>[32]
 |2=>[10]
 |_=>[10,32,32]
noncomputable def aQ:List LX→T
 |[]=>[]
 |t::r=>eK t.sp++(t.raw++aQ r)
theorem bf {x y:List LX}:aQ (x++y)=aQ x++aQ y:=by
 induction x with
 |nil=>rfl
 |cons t x ih=>show eK t.sp++(t.raw++aQ (x++y))=(eK t.sp++(t.raw++aQ x))++aQ y;rw[ih,List.append_assoc,List.append_assoc]
inductive uW:LX→Prop
 |sign {sp c}:lZ c=true→uW ⟨sp,5,[c],[c]⟩
 |word {sp k e u}:(∀c∈e::u,i5 [c] lq=true)→k=cond (jx (e::u)) 2 1→uW ⟨sp,k,e::u,e::u⟩
 |str {sp w raw}:(w,raw)∈L.eG→uW ⟨sp,4,w,bk raw⟩
noncomputable def Fw:Bool→List LX→Prop
 |_,[]=>True
 |p,t::r=>uW t∧(p=true→t.sp≠0∨t.k=5)∧t.sp≤3∧Fw (!Nat.beq t.k 5) r
theorem Fw.weak {x:List LX} {p:Bool} (h:Fw true x):Fw p x:=by
 cases x with
 |nil=>trivial
 |cons t r=>exact⟨h.1,fun ξ=>h.2.1 rfl,h.2.2⟩
theorem Fw.app {x y:List LX} {p:Bool} (h:Fw p x) (g:Fw true y):Fw p (x++y):=by
 induction x generalizing p with
 |nil=>exact g.weak
 |cons t x ih=>exact⟨h.1,h.2.1,h.2.2.1,ih h.2.2.2⟩
theorem m6 {sp:Nat} (h:sp≠0):∃c l,eK sp=c::l∧i5 [c] lq=false:=by
 match sp,h with
 |1,_=>exact⟨_,_,rfl,rfl⟩
 |2,_=>exact⟨_,_,rfl,rfl⟩
 |_+3,_=>exact⟨_,_,rfl,rfl⟩
theorem Fw.head {x:List LX} (h:Fw true x):∃c l,aQ x++[10]=c::l∧i5 [c] lq=false:=by
 cases x with
 |nil=>exact⟨_,_,rfl,rfl⟩
 |cons t r=>
  refine bc fun G=>?_;obtain⟨h1,h2,_⟩:=h
  refine G ?_;clear G;rcases h2 rfl with h2|h2
  ·refine bc fun G=>?_;obtain⟨c,l,e,q⟩:=m6 h2
   refine G ?_;clear G;exact⟨c,l++(t.raw++aQ r)++[10],by show(eK t.sp++(t.raw++aQ r))++[10]=_;rw[e];rfl,q⟩
  ·cases h1 with
   |@sign sp c hc=>
    by_cases hs:sp=0
    ·cases hs;exact⟨_,_,rfl,(nN hc).2.2.2⟩
    ·refine bc fun G=>?_;obtain⟨c',l,e,q⟩:=m6 hs
     refine G ?_;clear G;exact⟨c',l++([c]++aQ r)++[10],by show(eK sp++([c]++aQ r))++[10]=_;rw[e];rfl,q⟩
   |@word sp k e u _ hk=>
    have h2:k=5:=h2
    rw[h2] at hk
    cases hb:jx (e::u)<;>rw[hb] at hk<;>cases hk
   |str=>cases h2
section
variable {n a g:Nat} {tx l:T} {out:List V} {x4 x5 x6:bB} {K:Fl→St→Prop} {b:Bool}
theorem uJ {sp:Nat} (hs:sp≤3) (hg:(eK sp).length < g) (h:fW tx a (eK sp++l)) (h4:LV x4) (k:∀x4 a',LV x4→fW tx a' l→wh n eR (g - (eK sp).length) (lB tx out (fresh sp) a' x4 x5 x6) K):wh n eR g (lB tx out false a x4 x5 x6) K:=by
 revert hg h k
 refine OU (Nat.lt_succ_of_le hs) ?_ ?_ ?_ ?_<;>intro hg h k
 ·exact k _ _ h4 h
 ·have hg:1 < g:=hg
  exact jS (by exact c7 ‹_›) h h4 fun ξ h4=>k _ _ h4 h.next
 ·have hg:1 < g:=hg
  exact lN (by exact c7 ‹_›) h h4 fun ξ h4=>k _ _ h4 h.next
 ·have hg:3 < g:=hg
  have h:fW tx a (10::32::32::l):=h
  exact lN (by exact c7 ‹_›) h h4 fun ξ h4=>jS (Nat.sub_pos_of_lt (Nat.lt_of_succ_lt (Nat.lt_of_succ_lt hg))) h.next h4 fun ξ h4=>jS (by omega) h.next.next h4 fun ξ h4=>k _ _ h4 h.next.next.next
theorem uT:∀{ls:List LX} {p:Bool} {g a:Nat} {out:List V} {x4 x5 x6:bB},Fw p ls→fW tx a (aQ ls++[10])→(aQ ls).length+ls.length+1 < g→out.length+ls.length < 100000→LV x4→LV x5→LV x6→
  (∀ts a' x4 x5 x6,(∀r,TR ls (ts++r) r)→ts.length=ls.length→K .nxt (lB tx (out++ts) true a' x4 x5 x6))→wh (n+1) eR g (lB tx out false a x4 x5 x6) K:=by
 intro ls
 induction ls with
 |nil=>
  intro p g a out x4 x5 x6 _ h hg _ h4 _ _ k
  have h:fW tx a [10]:=h
  have hg:0+0+1 < g:=hg
  refine lN (by exact c7 ‹_›) h h4 fun x4 h4=>?_
  have e:tx.length=a+1:=by
   have h1:=congrArg List.length h.d
   rw[List.length_drop] at h1
   have h1:tx.length - a=1:=h1
   lia
  have l1:(dJ (.str tx)).map (fun n=>V.int (.ofNat n))=some (In (a+1)):=by rw[nQ h,e]
  refine aK (by exact gC ‹_›) ?_
  refine af l1 ?_
  first|refine ar (fV (Nat.le_refl (a+1))) ?_|refine av (fV (Nat.le_refl (a+1))) ?_|((conv=>whnf);rw[fV (Nat.le_refl (a+1))];trace "FALLBACK")
  have:=k [] (a+1) x4 x5 x6 (fun r=>rfl) rfl
  rw[List.append_nil] at this
  exact this
 |cons t ls ih=>
  intro p g a out x4 x5 x6 F h hg hz h4 h5 h6 k
  refine bc fun G=>?_;obtain⟨ok,_,hs,F2⟩:=F
  have h:fW tx a ((eK t.sp++(t.raw++aQ ls))++[10]):=h
  have hg:(eK t.sp++(t.raw++aQ ls)).length+ls.length+1+1 < g:=by
   rw[List.length_cons] at hg
   have:aQ (t::ls)=eK t.sp++(t.raw++aQ ls):=rfl
   rw[this] at hg;assumption
  rw[List.length_append,List.length_append] at hg
  rw[List.length_cons] at hz
  rw[List.append_assoc] at h
  refine G ?_;clear G;refine uJ hs (by lia) h h4 fun x4 a' h4 h=>?_
  rw[List.append_assoc] at h
  have go:∀ta te a' x4 x5 x6,fW tx a' (aQ ls++[10])→LV x4→LV x5→LV x6→wh (n+1) eR (g - (eK t.sp).length - 1) (lB tx (out++[aC t.k t.w ta te (.bool (fresh t.sp))]) false a' x4 x5 x6) K:=fun ta te a' x4 x5 x6 h h4 h5 h6=>by
   refine ih F2 h (by lia) (by rw[List.length_append];show out.length+1+_ < _;exact LK ‹_›) h4 h5 h6 fun ts a' x4 x5 x6 hts hl=>?_
   have:=k (aC t.k t.w ta te (.bool (fresh t.sp))::ts) a' x4 x5 x6 (fun r=>⟨_,_,_,rfl,hts r⟩) (by rw[List.length_cons,List.length_cons,hl])
   rw[List.append_assoc]
   exact this
  have g1:0 < g - (eK t.sp).length:=by lia
  cases ok with
  |sign hc=>exact vO g1 h hc h4 h5 h6 (by exact vr ‹_›) fun ta te x4 x5 x6=>go _ _ _ _ _ _ h.next
  |str hk=>exact B6 g1 hk h h4 h5 h6 (by exact vr ‹_›) fun ta te a' x4 x5 x6=>go _ _ _ _ _ _
  |@word sp kd e u hu hk=>
   have hd:Fw true ls:=by
    have e5:(!Nat.beq kd 5)=true:=by rw[hk];cases jx (e::u)<;>rfl
    rw[← e5];exact F2
   refine bc fun G=>?_;obtain⟨c,l,hc,hn⟩:=hd.head
   rw[hc] at h
   refine G ?_;clear G;refine AO g1 hu h hn rfl h4 h5 h6 (by exact vr ‹_›) fun ta te a' x4 x5 x6 h h4 h5 h6=>?_
   rw[← hc] at h
   rw[← hk]
   exact go _ _ _ _ _ _ h h4 h5 h6
theorem mR {ls:List LX} {K:KT} (F:Fw false ls) (z:(aQ ls).length+ls.length < 800000) (hz:ls.length < 90000) (k:∀ts e,TR ls ts [jk e]→ts.length=ls.length+1→K (.list ts) none):ab (n+2) 1690 [.str (aQ ls++[10])] none K:=by
 refine aa rfl rfl ?_
 refine uT (n:=n) (a:=0) (out:=[]) F ⟨rfl,by rw[List.length_append];show _+1≤_;lia⟩ (by rw[iO];exact aj ‹_› rfl) (by show 0+_ < _;lia) (.inl rfl) (.inl rfl) (.inl rfl) fun ts a' x4 x5 x6 ht hl=>?_
 refine hX ?_
 refine⟨rfl,?_⟩
 refine⟨by show ts.length < 1000000;lia,?_⟩
 exact k (ts++[jk (In a')]) (In a') (ht _) (by rw[List.length_append,hl];rfl)
end
theorem gf {p:T} {x:LX} {o:Option T} (h:eK x.sp++(x.raw++[32])=p):aQ (bF x o)=bY p o:=by
 cases o with
 |none=>rfl
 |some y=>
  subst h
  show eK x.sp++(x.raw++(([32]:T)++(y++[])))=(eK x.sp++(x.raw++[32]))++y
  simp only[List.append_assoc,List.append_nil]
theorem gQ {α:Type} {f:α→List LX} {tx:α→T} (h:∀x,aQ (f x)=32::tx x):∀{xs:List α},aQ (c8 f xs)=(xs.map fun x=>[44,32]++tx x).flatten:=by
 intro xs
 induction xs with
 |nil=>rfl
 |cons x r ih=>
  show[]++([44]++aQ (f x++c8 f r))=([44,32]++tx x)++(r.map fun x=>[44,32]++tx x).flatten
  rw[bf,ih,h];rfl
theorem gR {α:Type} {tx:α→T}:∀{r:List α} {x:α},aB [44,32] ((x::r).map tx)=tx x++(r.map fun x=>[44,32]++tx x).flatten:=by
 intro r
 induction r with
 |nil=>intro x;show tx x=tx x++[];rw[List.append_nil]
 |cons y r ih=>
  intro x
  show(tx x++[44,32])++aB [44,32] ((y::r).map tx)=_
  rw[ih]
  show _=tx x++(([44,32]++tx y)++(r.map fun x=>[44,32]++tx x).flatten)
  simp only[List.append_assoc]
theorem tz {sp:Nat} {x:Tp}:aQ (jA sp x)=eK sp++kv x:=by
 obtain⟨nm,ext,dfl,inn,out⟩:=x
 have e1:aQ (bF (kw 1 bP) ext)=bY [32,101,120,116,101,110,100,115,32] ext:=gf rfl
 have e2:aQ (bF (sg 1 [61]) dfl)=bY [32,61,32] dfl:=gf rfl
 cases inn<;>cases out<;>simp [jA,kv,bf,e1,e2,aQ,eK,iy]
theorem qu {xs:List Tp}:aQ (bU xs)=dW xs:=by
 cases xs with
 |nil=>rfl
 |cons x r=>
  have h:=gQ (f:=jA 1) (tx:=kv) (fun x=>tz) (xs:=r)
  have j:=gR (tx:=kv) (r:=r) (x:=x)
  simp [bU,dW,bf,aQ,eK,tz,h] at j ⊢
  rw[j];simp
theorem uB {xs:List T}:aQ (ir xs)=(match xs with|[]=>[]|y::r=>([60]++aB [44,32] (y::r))++[62]:T):=by
 cases xs with
 |nil=>rfl
 |cons x r=>
  have h:=gQ (f:=fun y=>[nm 1 y]) (tx:=fun y=>y) (fun x=>by show[32]++(x++[])=_;rw[List.append_nil];rfl) (xs:=r)
  have j:=gR (tx:=fun y:T=>y) (r:=r) (x:=x)
  simp [ir,bf,aQ,eK,h] at j ⊢
  rw[j];simp
theorem sX {x:Rf}:aQ (mU x)=32::gX x:=by
 obtain⟨hd,tl,args⟩:=x
 have h:=uB (xs:=args)
 cases tl<;>cases args<;>simp [mU,gX,tZ,oM,bf,aQ,eK] at h ⊢<;>simp [h,JX,oM]
theorem rn {xs:List Rf}:aQ (cJ xs)=d7 xs:=by
 cases xs with
 |nil=>rfl
 |cons x r=>
  have h:=gQ (f:=mU) (tx:=gX) (fun x=>sX) (xs:=r)
  have j:=gR (tx:=gX) (r:=r) (x:=x)
  simp [cJ,d7,bf,aQ,eK,sX,h] at j ⊢
  rw[j]
theorem mW {x:eX}:aQ (cb x)=32::cw x:=by
 obtain⟨o,i,ty⟩:=x
 cases h:aW o i<;>cases ty<;>simp [cb,cw,fJ,bf,aQ,eK,h]
theorem tf {x:Dc}:aQ (qg x)=32::fG x:=by
 obtain⟨nm,ty,val,bang⟩:=x
 have e1:aQ (bF (sg 0 [58]) ty)=bY [58,32] ty:=gf rfl
 have e2:aQ (bF (sg 1 [61]) val)=bY [32,61,32] val:=gf rfl
 cases bang<;>cases val<;>simp [qg,fG,fX,bf,aQ,eK,e1]<;>simp [bF,aQ,eK]
theorem Cr {xs:List Dc} (h0:xs≠[]):aQ (iw xs)=32::aB [44,32] (xs.map fG):=by
 cases xs with
 |nil=>exact absurd rfl h0
 |cons x r=>
  have h:=gQ (f:=qg) (tx:=fG) (fun x=>tf) (xs:=r)
  have j:=gR (tx:=fG) (r:=r) (x:=x)
  simp [iw,bf,tf,h] at j ⊢
  rw[j]
theorem ua {x:Mb}:aQ (fq x)=[10,32,32]++kN x:=by
 obtain⟨w,raw,val⟩:=x
 have e2:aQ (bF (sg 1 [61]) val)=bY [32,61,32] val:=gf rfl
 simp [fq,kN,aQ,eK,e2]
theorem uQ {xs:List Mb}:aQ (bg true fq xs)=(xs.map i8).flatten:=by
 have e:∀(x:Mb) (l:T),[10,32,32]++(kN x++([44]++l))=i8 x++l:=fun x l=>by unfold i8 kN;simp only[List.append_assoc]
 induction xs with
 |nil=>rfl
 |cons x r ih=>
  cases r with
  |nil=>
   show aQ (fq x++[sg 0 [44]])=i8 x++[]
   rw[bf,ua,← e]
   simp [aQ,eK]
  |cons y r=>
   show aQ (fq x++sg 0 [44]::bg true fq (y::r))=i8 x++((y::r).map i8).flatten
   rw[bf,ua,← e,← ih]
   simp [aQ,eK]
theorem uA:∀{xs:List eX} {x:eX},aQ (bg false cb (x::xs))=32::aB [44,32] ((x::xs).map cw):=by
 intro xs
 induction xs with
 |nil=>intro x;show aQ (cb x++[])=_;rw[List.append_nil,mW];rfl
 |cons y r ih=>
  intro x
  show aQ (cb x++sg 0 [44]::bg false cb (y::r))=32::((cw x++[44,32])++aB [44,32] ((y::r).map cw))
  rw[bf,mW]
  show(32::cw x)++([]++([44]++aQ (bg false cb (y::r))))=_
  rw[ih]
  simp
set_option tactic.hygienic true in
theorem tj {sp:Nat} {dd:De} (hx:cf dd):aQ (du true sp dd)=eK sp++fu dd:=by
 have core:∀sp,aQ (bK true sp dd)=eK sp++(match dd with
   |.enum _ cst n ms=>((cond cst [99,111,110,115,116,32,101,110,117,109,32] [101,110,117,109,32]++n)++[32])++cn ms
   |.alias _ n tps ty=>(((([116,121,112,101,32]++n)++dW tps)++[32,61,32])++ty)++[59]
   |.iface _ n tps bs=>(((([105,110,116,101,114,102,97,99,101,32]++n)++dW tps)++d7 bs)++[32])++[123,125]
   |.var _ wd ds=>((wd++[32])++aB [44,32] (ds.map fG))++[59]):=fun sp=>by
  cases dd with
  |enum amb cst x ms=>
   have hb:aQ (bg true fq ms++[sg (cond ms.isEmpty 0 2) [125]])=(cn ms).tail:=by
    rw[bf]
    cases ms with
    |nil=>rfl
    |cons y ys=>
     rw[uQ,← j0]
     show _=(aB [] (cX (y::ys))++[10])++[125]
     rw[List.append_assoc];rfl
   have hc:cn ms=123::(cn ms).tail:=by cases ms<;>rfl
   show _=eK sp++(((_++x)++[32])++cn ms)
   rw[hc,← hb]
   cases cst
   ·show eK sp++(dj++([32]++(x++([32]++([123]++aQ (bg true fq ms++_))))))=_
    rw[List.append_assoc,List.append_assoc];rfl
   ·show eK sp++(bj++([32]++(dj++([32]++(x++([32]++([123]++aQ (bg true fq ms++_))))))))=_
    rw[List.append_assoc,List.append_assoc];rfl
  |alias amb x tps ty=>
   show aQ ((nm sp bS::nm 1 x::bU tps)++_)=_
   rw[bf]
   show(eK sp++(bS++([32]++(x++aQ (bU tps)))))++([32]++([61]++([32]++(ty++[59]))))=_
   rw[qu];simp only[List.append_assoc];rfl
  |iface amb x tps bs=>
   show aQ (((nm sp cV::nm 1 x::bU tps)++cJ bs)++_)=_
   rw[bf,bf,rn]
   show((eK sp++(cV++([32]++(x++aQ (bU tps)))))++d7 bs)++([32]++[123,125])=_
   rw[qu];simp only[List.append_assoc];rfl
  |var amb wd ds=>
   show aQ ((⟨sp,kindOf wd,wd,wd⟩::iw ds)++_)=_
   rw[bf]
   show(eK sp++(wd++aQ (iw ds)))++[59]=_
   rw[Cr hx.2.1]
   show(eK sp++(wd++([32]++aB [44,32] (ds.map fG))))++[59]=_
   simp only[List.append_assoc]
 have e:∀b:Bool,bL b=cond b [100,101,99,108,97,114,101,32] []:=fun ξ=>rfl
 cases ha:fv dd with
 |true=>
  have hl:du true sp dd=nm sp dN::bK true 1 dd:=by unfold du;rw[ha];rfl
  rw[hl]
  show eK sp++(dN++aQ (bK true 1 dd))=_
  rw[core]
  cases dd<;>(cases ha;first|rfl|(rename_i c _ _;cases c<;>rfl))
 |false=>
  have hl:du true sp dd=bK true sp dd:=by unfold du;rw[ha];rfl
  rw[hl,core]
  cases dd<;>(cases ha;first|rfl|(rename_i c _ _;cases c<;>rfl))
theorem si {sp:Nat} {s:Sm} (hx:cR s):aQ (gY true sp s)=eK sp++fb s:=by
 cases s with
 |imp w raw ns only=>
  cases ns with
  |nil=>cases only<;>simp [gY,fb,aQ,eK,dI,bf]
  |cons y ys=>
   have h:=uA (xs:=ys) (x:=y)
   simp [gY,fb,aQ,eK,dI,bf] at h ⊢
   rw[h];simp
 |de ex dd=>
  cases ex with
  |true=>
   show eK sp++(dZ++aQ (du true 1 dd))=_
   rw[tj hx];rfl
  |false=>exact tj hx
theorem nh:∀{ss:List Sm} {sp:Nat},(∀s∈ss,cR s)→sp=2→aQ (cN true sp ss)++[10]=[10]++eu ss
 |[],_,_,_=>rfl
 |s::r,sp,hx,e=>by
  have ih:=nh (fun y hy=>hx y (List.mem_cons_of_mem _ hy)) (rfl:(2:Nat)=2) (ss:=r)
  subst e
  show aQ (gY true 2 s++cN true 2 r)++[10]=_
  rw[bf,List.append_assoc,ih,si (hx s (List.mem_cons_self ..))]
  show([10]++fb s)++([10]++aB [] (cy r))=[10]++aB [] (cy (s::r))
  rw[da,da,List.append_assoc];rfl
theorem rZ {s:Sm} {r:List Sm} (hx:∀y∈s::r,cR y):aQ (cN true 0 (s::r))++[10]=eu (s::r):=by
 have ih:=nh (fun y hy=>hx y (List.mem_cons_of_mem _ hy)) (rfl:(2:Nat)=2) (ss:=r)
 show aQ (gY true 0 s++cN true 2 r)++[10]=_
 rw[bf,List.append_assoc,ih,si (hx s (List.mem_cons_self ..))]
 show fb s++([10]++aB [] (cy r))=aB [] (cy (s::r))
 rw[da,da];rfl
section
variable {sp k:Nat} {x:T} {ls:List LX} {p full:Bool}
noncomputable def AV (k:Nat) (x:T):Bool:=!x.isEmpty&&(x.all (fun c=>i5 [c] lq)&&Nat.beq k (cond (jx x) 2 1))
theorem BU (h:AV k x=true):uW ⟨sp,k,x,x⟩∧(!Nat.beq k 5)=true:=by
 unfold AV at h
 simp only[Bool.and_eq_true,Bool.not_eq_true'] at h
 obtain⟨h1,h2,h3⟩:=h
 cases x with
 |nil=>cases h1
 |cons e u=>
  have hk:=Nat.eq_of_beq_eq_true h3
  exact⟨.word (fun c hc=>List.all_eq_true.mp h2 c hc) hk,by rw[hk];cases jx (e::u)<;>rfl⟩
theorem Fw.w (h:AV k x=true) (hs:(p&&Nat.beq sp 0)=false) (h3:Nat.ble sp 3=true) (r:Fw true ls):Fw p (⟨sp,k,x,x⟩::ls):=by
 obtain⟨h1,h2⟩:=BU (sp:=sp) h
 refine⟨h1,fun hp=>.inl fun h0=>?_,Nat.le_of_ble_eq_true h3,?_⟩
 ·have h0:sp=0:=h0
  rw[hp,h0] at hs;cases hs
 ·show Fw (!Nat.beq k 5) ls
  rw[h2];exact r
theorem Fw.s {c:Nat} (h:lZ c=true) (h3:Nat.ble sp 3=true) (r:Fw false ls):Fw p (⟨sp,5,[c],[c]⟩::ls):=
 ⟨.sign h,fun ξ=>.inr rfl,Nat.le_of_ble_eq_true h3,r⟩
theorem Fw.q {w raw:T} (h:(w,raw)∈L.eG) (hs:(p&&Nat.beq sp 0)=false) (h3:Nat.ble sp 3=true) (r:Fw true ls):Fw p (⟨sp,4,w,bk raw⟩::ls):=
 ⟨.str h,(fun hp=>.inl fun h0=>by have h0:sp=0:=h0;rw[hp,h0] at hs;cases hs),Nat.le_of_ble_eq_true h3,r⟩
theorem A3 {l:List T} (h:x∈l) (q:l.all (AV k)=true):AV k x=true:=List.all_eq_true.mp q x h
theorem gA (h:x∈names):AV 1 x=true:=A3 h rfl
theorem lz {c:LX} {o:Option T} (hc:∀r,Fw true r→Fw true (c::r)) (h:Cv o):Fw true (bF c o):=by
 cases o with
 |none=>trivial
 |some y=>exact hc _ (.w (gA h) rfl rfl trivial)
theorem iN {α:Type} {f:α→List LX} {P:α→Prop} (hf:∀x,P x→Fw true (f x)):∀{xs:List α},(∀x∈xs,P x)→Fw true (c8 f xs)
 |[],_=>trivial
 |x::r,h=>.s rfl rfl ((hf x (h x (List.mem_cons_self ..))).app (iN hf fun y hy=>h y (List.mem_cons_of_mem _ hy))).weak
theorem Ds {x:Tp} (hs:(p&&Nat.beq sp 0)=false) (h3:Nat.ble sp 3=true) (h:eU x):Fw p (jA sp x):=by
 obtain⟨nm,ext,dfl,inn,out⟩:=x
 obtain⟨h1,h2,h4⟩:=h
 have e1:Fw true (bF (kw 1 bP) ext):=lz (fun r h=>.w rfl rfl rfl h) h2
 have e2:Fw true (bF (sg 1 [61]) dfl):=lz (fun r h=>.s rfl rfl h.weak) h4
 have hn:AV 1 nm=true:=A3 h1 rfl
 refine Fw.app ?_ (e1.app e2)
 cases inn<;>cases out
 ·exact .w hn hs h3 trivial
 ·exact .w rfl hs h3 (.w hn rfl rfl trivial)
 ·exact .w rfl hs h3 (.w hn rfl rfl trivial)
 ·exact .w rfl hs h3 (.w rfl rfl rfl (.w hn rfl rfl trivial))
theorem xI {xs:List Tp} (h:∀x∈xs,eU x):Fw true (bU xs):=by
 cases xs with
 |nil=>trivial
 |cons x r=>
  refine .s rfl rfl ?_
  show Fw false (jA 0 x++c8 (jA 1) r++[sg 0 [62]])
  exact((Ds rfl rfl (h x (List.mem_cons_self ..))).app (iN (fun x=>Ds rfl rfl) fun y hy=>h y (List.mem_cons_of_mem _ hy))).app (.s rfl rfl trivial)
theorem Cm {xs:List T} (h:∀x∈xs,x∈names):Fw true (ir xs):=by
 cases xs with
 |nil=>trivial
 |cons x r=>
  refine .s rfl rfl ?_
  refine .w (gA (h x (List.mem_cons_self ..))) rfl rfl ?_
  exact(iN (f:=fun y=>[nm 1 y]) (P:=fun x=>x∈names) (fun x hx=>.w (gA hx) rfl rfl trivial) fun y hy=>h y (List.mem_cons_of_mem _ hy)).app (.s rfl rfl trivial)
theorem Er {x:Rf} (h:fR x):Fw true (mU x):=by
 obtain⟨hd,tl,args⟩:=x
 obtain⟨h1,h2,_⟩:=h
 refine Fw.app ?_ (Cm h2)
 have h1:(hd,tl)∈_:=h1
 rcases List.mem_cons.mp h1 with e|h1
 ·cases e;exact .w rfl rfl rfl trivial
 rcases List.mem_cons.mp h1 with e|h1
 ·cases e;exact .w rfl rfl rfl (.s rfl rfl (.w rfl rfl rfl trivial))
 rcases List.mem_cons.mp h1 with e|h1
 ·cases e;exact .w rfl rfl rfl trivial
 rcases List.mem_cons.mp h1 with e|h1
 ·cases e;exact .w rfl rfl rfl (.s rfl rfl (.w rfl rfl rfl trivial))
 cases h1
theorem yG {xs:List Rf} (h:∀x∈xs,fR x):Fw true (cJ xs):=by
 cases xs with
 |nil=>trivial
 |cons x r=>
  refine .w rfl rfl rfl ?_
  exact(Er (h x (List.mem_cons_self ..))).app (iN (fun x=>Er) fun y hy=>h y (List.mem_cons_of_mem _ hy))
theorem CA {x:eX} (h:eS x):Fw true (cb x):=by
 obtain⟨o,i,ty⟩:=x
 obtain⟨h1,h2⟩:=h
 have h1:AV 1 o=true:=A3 h1 rfl
 have h2:AV 1 i=true:=by
  rcases h2 with h2|h2
  ·exact A3 h2 rfl
  ·have h2:i=o:=h2
   rw[h2];exact h1
 refine Fw.app (x:=cond ty [nm 1 bS] []) ?_ ?_
 ·cases ty
  ·trivial
  ·exact .w rfl rfl rfl trivial
 ·refine .w h1 rfl rfl ?_
  cases aW o i
  ·exact .w rfl rfl rfl (.w h2 rfl rfl trivial)
  ·trivial
theorem Et {amb cst:Bool} {x:Dc} (h:jQ amb cst x):Fw true (qg x):=by
 obtain⟨nm,ty,val,bang⟩:=x
 obtain⟨h1,h2,h3,_⟩:=h
 refine .w (gA h1) rfl rfl ?_
 refine Fw.app (x:=cond bang [sg 0 [33]] []) ?_ (Fw.app (lz (fun r h=>.s rfl rfl h.weak) h2) (lz (fun r h=>.s rfl rfl h.weak) h3))
 cases bang
 ·trivial
 ·exact .s rfl rfl trivial
theorem Jx {amb cst:Bool} {xs:List Dc} (h:∀x∈xs,jQ amb cst x):Fw true (iw xs):=by
 cases xs with
 |nil=>trivial
 |cons x r=>exact(Et (h x (List.mem_cons_self ..))).app (iN (fun x=>Et) fun y hy=>h y (List.mem_cons_of_mem _ hy))
theorem Lc {x:Mb} (h:jl x):Fw true (fq x):=by
 obtain⟨w,raw,val⟩:=x
 obtain⟨h1,h2⟩:=h
 have e:Fw true (bF (sg 1 [61]) val):=lz (fun r h=>.s rfl rfl h.weak) h2
 have h1:(w,raw)∈L.eG:=h1
 have hk:=h1
 induction h1 using cP
 ·exact .w rfl rfl rfl e
 ·exact .w rfl rfl rfl e
 ·exact .q hk rfl rfl e
 ·exact .q hk rfl rfl e
 ·exact .q hk rfl rfl e
 ·exact .w rfl rfl rfl e
theorem rf {α:Type} {f:α→List LX} {P:α→Prop} (hf:∀x,P x→Fw true (f x)):∀{xs:List α},(∀x∈xs,P x)→Fw true (bg full f xs)
 |[],_=>trivial
 |[x],h=>(hf x (h x (List.mem_cons_self ..))).app (by cases full;exact trivial;exact .s rfl rfl trivial)
 |x::y::r,h=>(hf x (h x (List.mem_cons_self ..))).app (.s rfl rfl (rf hf fun y hy=>h y (List.mem_cons_of_mem _ hy)).weak)
theorem k6:Fw true (dI full):=by
 cases full
 ·exact trivial
 ·exact .s rfl rfl trivial
theorem Ev {dd:De} (hs:(p&&Nat.beq sp 0)=false) (h3:Nat.ble sp 3=true) (hx:cf dd):Fw p (du full sp dd):=by
 have core:∀{p sp},(p&&Nat.beq sp 0)=false→Nat.ble sp 3=true→Fw p (bK full sp dd):=fun {p sp} hs h3=>by
  cases dd with
  |enum amb cst x ms=>
   obtain⟨h1,_,h4⟩:=hx
   refine Fw.app (x:=(cond cst [kw sp bj,kw 1 dj] [kw sp dj])++nm 1 x::sg 1 [123]::bg full fq ms) (Fw.app (x:=cond cst [kw sp bj,kw 1 dj] [kw sp dj]) ?_ ?_) (.s rfl ?_ trivial)
   ·cases cst
    ·exact .w rfl hs h3 trivial
    ·exact .w rfl hs h3 (.w rfl rfl rfl trivial)
   ·exact .w (gA h1) rfl rfl (.s rfl rfl (rf (fun x=>Lc) h4).weak)
   ·cases ms<;>rfl
  |alias amb x tps ty=>
   obtain⟨h1,h2,_,h4⟩:=hx
   refine .w rfl hs h3 (.w (gA h1) rfl rfl ?_)
   show Fw true (bU tps++sg 1 [61]::nm 1 ty::dI full)
   exact(xI h4).app (.s rfl rfl (.w (gA h2) rfl rfl k6))
  |iface amb x tps bs=>
   obtain⟨h1,_,h4,_,h5⟩:=hx
   refine .w rfl hs h3 (.w (gA h1) rfl rfl ?_)
   show Fw true (bU tps++cJ bs++[sg 1 [123],sg 0 [125]])
   exact((xI h4).app (yG h5)).app (.s rfl rfl (.s rfl rfl trivial))
  |var amb wd ds=>
   obtain⟨h1,_,_,h4⟩:=hx
   have hw:AV (kindOf wd) wd=true:=by
    rcases List.mem_cons.mp h1 with rfl|h1
    ·rfl
    rcases List.mem_cons.mp h1 with rfl|h1
    ·rfl
    rcases List.mem_cons.mp h1 with rfl|h1
    ·rfl
    cases h1
   refine .w hw hs h3 ?_
   exact(Jx h4).app k6
 unfold du
 cases fv dd
 ·exact core hs h3
 ·exact .w rfl hs h3 (core rfl rfl)
theorem MK {s:Sm} (hs:(p&&Nat.beq sp 0)=false) (h3:Nat.ble sp 3=true) (hx:cR s):Fw p (gY full sp s):=by
 cases s with
 |imp w raw ns only=>
  obtain⟨hk,_,h4,_⟩:=hx
  cases ns with
  |nil=>
   refine .w rfl hs h3 ?_
   refine Fw.app (x:=cond only [sg 1 [123],sg 0 [125],nm 1 eE] []) ?_ (.q hk rfl rfl k6)
   cases only
   ·trivial
   ·exact .s rfl rfl (.s rfl rfl (.w rfl rfl rfl trivial))
  |cons y ys=>
   refine Fw.app (x:=kw sp cA::sg 1 [123]::bg false cb (y::ys)++[sg 1 [125],nm 1 eE,⟨1,4,w,bk raw⟩]) (Fw.app (x:=kw sp cA::sg 1 [123]::bg false cb (y::ys)) (.w rfl hs h3 (.s rfl rfl (rf (fun x=>CA) h4).weak)) ?_) k6
   exact .s rfl rfl (.w rfl rfl rfl (.q hk rfl rfl trivial))
 |de ex dd=>
  cases ex with
  |true=>exact .w rfl hs h3 (Ev rfl rfl hx)
  |false=>exact Ev hs h3 hx
theorem sj:∀{ss:List Sm} {sp:Nat} {p:Bool},(p&&Nat.beq sp 0)=false→Nat.ble sp 3=true→(∀s∈ss,cR s)→Fw p (cN full sp ss)
 |[],_,_,_,_,_=>trivial
 |s::r,sp,p,hs,h3,hx=>(MK hs h3 (hx s (List.mem_cons_self ..))).app (sj rfl rfl fun y hy=>hx y (List.mem_cons_of_mem _ hy))
end
theorem BZ {t:LX} (h:uW t):0 < t.raw.length:=by
 cases h with
 |sign=>exact Nat.succ_pos _
 |word=>exact Nat.succ_pos _
 |@str sp w raw h=>
  have:L.eG.all (fun x=>Nat.blt 0 (bk x.2).length)=true:=rfl
  exact Nat.le_of_ble_eq_true (List.all_eq_true.mp this _ h)
theorem Fw.len {ls:List LX} {p:Bool} (h:Fw p ls):ls.length≤(aQ ls).length:=by
 induction ls generalizing p with
 |nil=>exact Nat.zero_le _
 |cons t r ih=>
  have:=BZ h.1
  have:=ih h.2.2.2
  show r.length+1≤(eK t.sp++(t.raw++aQ r)).length
  rw[List.length_append,List.length_append];lia
theorem pq {n:Nat} {K:KT} {s:Sm} {r:List Sm} (hx:∀y∈s::r,cR y) (hs:(s::r).length≤9) (k:∀ts e,TR (cN true 0 (s::r)) ts [jk e]→ts.length≤90000→K (.list ts) none):ab (n+2) 1690 [.str (eu (s::r))] none K:=by
 have F:Fw false (cN true 0 (s::r)):=sj rfl rfl hx
 have e:=rZ hx
 obtain⟨l1,l2⟩:=nK hx
 have l3:=dM (b:=900) (c:=0) (cU:=[]) (Nat.le_refl _) l1
 rw[l2] at l3
 have l3:(eu (s::r)).length≤(900+0) * (2 * (s::r).length):=l3
 have hl:=F.len
 have hle:=congrArg List.length e
 rw[List.length_append] at hle
 have hle:(aQ (cN true 0 (s::r))).length+1=(eu (s::r)).length:=hle
 rw[← e]
 exact mR F (by lia) (by lia) fun ts e' ht hl'=>k ts e' ht (by lia)
noncomputable def Km (r:List LX):Bool:=match r with
 |[]=>false
 |u::_=>Nat.beq u.k 5&&aW u.w [125]
noncomputable def eF (t:LX) (r:List LX):Bool:=Nat.beq t.k 5&&(aW t.w [59]||(aW t.w [44]&&Km r))
noncomputable def bC:List LX→List LX
 |[]=>[]
 |t::r=>cond (eF t r) (bC r) (t::bC r)
noncomputable def pl (t:LX):Bool:=!(Nat.beq t.k 5&&(aW t.w [59]||aW t.w [44]))
noncomputable def nb (t:LX):Bool:=!(Nat.beq t.k 5&&aW t.w [125])
def cm (x:List LX):Prop:=∀y,bC (x++y)=x++bC y
theorem CL {t:LX} (h:pl t=true) (r:List LX):eF t r=false:=by
 unfold pl at h
 unfold eF
 revert h
 cases Nat.beq t.k 5<;>cases aW t.w [59]<;>cases aW t.w [44]<;>intro h<;>first|rfl|cases h
section
variable {sp k:Nat} {x y:List LX} {t:LX} {full:Bool}
theorem cm.nil:cm []:=fun ξ=>rfl
theorem cm.cons (h:pl t=true) (k:cm x):cm (t::x):=fun y=>by
 show cond (eF t (x++y)) (bC (x++y)) (t::bC (x++y))=t::(x++bC y)
 rw[CL h,k y];rfl
theorem cm.app (k:cm x) (l:cm y):cm (x++y):=fun z=>by rw[List.append_assoc,k,l,List.append_assoc]
theorem cm.comma (h:nb t=true) (k:cm (t::x)):cm (sg 0 [44]::t::x):=fun y=>by
 have e:eF (sg 0 [44]) (t::(x++y))=false:=by
  unfold nb at h
  show(Nat.beq t.k 5&&aW t.w [125])=false
  revert h
  cases Nat.beq t.k 5&&aW t.w [125]<;>intro h<;>first|rfl|cases h
 show cond (eF (sg 0 [44]) (t::(x++y))) _ (sg 0 [44]::bC ((t::x)++y))=_
 rw[e,k y];rfl
theorem oh {k:Nat} {w r:T} (h:Nat.beq k 5=false):pl ⟨sp,k,w,r⟩=true:=by unfold pl;rw[h];rfl
theorem Bl {k:Nat} {w r:T} (h:Nat.beq k 5=false):nb ⟨sp,k,w,r⟩=true:=by unfold nb;rw[h];rfl
theorem pb {w:T}:Nat.beq (kindOf w) 5=false:=by unfold kindOf;cases AB.any (aW w)<;>rfl
theorem mv {c:LX} {o:Option T} (h:pl c=true):cm (bF c o):=by
 cases o with
 |none=>exact .nil
 |some y=>exact .cons h (.cons rfl .nil)
def KH (x:List LX):Prop:=cm x∧∃t r,x=t::r∧nb t=true
theorem i9 {α:Type} {f:α→List LX} (hf:∀x,KH (f x)):∀{xs:List α},cm (c8 f xs)
 |[]=>.nil
 |x::r=>by
  refine bc fun G=>?_;obtain⟨h1,t,l,e,h2⟩:=hf x
  have h3:=h1.app (i9 hf (xs:=r))
  refine G ?_;clear G;show cm (sg 0 [44]::(f x++c8 f r))
  rw[e] at h3 ⊢
  exact .comma h2 h3
theorem Em {x:Tp}:KH (jA sp x):=by
 obtain⟨nm,ext,dfl,inn,out⟩:=x
 have e:cm (bF (kw 1 bP) ext++bF (sg 1 [61]) dfl):=(mv rfl).app (mv rfl)
 cases inn<;>cases out<;>refine⟨cm.app ?_ e,_,_,rfl,rfl⟩
 ·exact .cons rfl .nil
 ·exact .cons rfl (.cons rfl .nil)
 ·exact .cons rfl (.cons rfl .nil)
 ·exact .cons rfl (.cons rfl (.cons rfl .nil))
theorem wZ {xs:List Tp}:cm (bU xs):=by
 cases xs with
 |nil=>exact .nil
 |cons x r=>exact((cm.cons (t:=sg 0 [60]) rfl Em.1).app (i9 fun x=>Em)).app (.cons rfl .nil)
theorem BB {xs:List T}:cm (ir xs):=by
 cases xs with
 |nil=>exact .nil
 |cons x r=>exact(cm.cons (t:=sg 0 [60]) rfl (.cons (t:=nm 0 x) rfl (i9 (f:=fun y=>[nm 1 y]) fun x=>⟨.cons rfl .nil,_,_,rfl,rfl⟩))).app (.cons rfl .nil)
theorem EJ {x:Rf}:KH (mU x):=by
 obtain⟨hd,tl,args⟩:=x
 refine⟨cm.app ?_ BB,_,_,rfl,rfl⟩
 cases tl with
 |none=>exact .cons rfl .nil
 |some y=>exact .cons rfl (.cons rfl (.cons (oh pb) .nil))
theorem x9 {xs:List Rf}:cm (cJ xs):=by
 cases xs with
 |nil=>exact .nil
 |cons x r=>exact .cons (t:=kw 1 bP) rfl (EJ.1.app (i9 fun x=>EJ))
theorem CM {x:eX}:KH (cb x):=by
 obtain⟨o,i,ty⟩:=x
 have e:cm (nm 1 o::cond (aW o i) [] [nm 1 oT,nm 1 i]):=.cons rfl (by cases aW o i;exact .cons rfl (.cons rfl .nil);exact .nil)
 cases ty with
 |true=>exact⟨.cons (t:=nm 1 bS) rfl e,_,_,rfl,rfl⟩
 |false=>exact⟨e,_,_,rfl,rfl⟩
theorem CR {x:Dc}:KH (qg x):=by
 obtain⟨nm',ty,val,bang⟩:=x
 refine⟨.cons rfl ?_,_,_,rfl,rfl⟩
 refine cm.app (x:=cond bang [sg 0 [33]] []) ?_ ((mv rfl).app (mv rfl))
 cases bang
 ·exact .nil
 ·exact .cons rfl .nil
theorem Ki {xs:List Dc}:cm (iw xs):=by
 cases xs with
 |nil=>exact .nil
 |cons x r=>exact CR.1.app (i9 fun x=>CR)
theorem LY {x:Mb} (h:jl x):KH (fq x):=by
 obtain⟨w,raw,val⟩:=x
 have hk:Nat.beq (kq raw) 5=false:=by
  unfold kq
  cases raw with
  |nil=>rfl
  |cons c r=>
   show Nat.beq (cond (Nat.beq c 34) 4 (kindOf (c::r))) 5=false
   cases Nat.beq c 34
   ·exact pb
   ·rfl
 exact⟨.cons (oh hk) (mv rfl),_,_,rfl,Bl hk⟩
theorem tm {α:Type} {f:α→List LX} (hf:∀x,KH (f x)):∀{xs:List α},cm (bg false f xs)
 |[]=>.nil
 |[x]=>by show cm (f x++[]);rw[List.append_nil];exact(hf x).1
 |x::y::r=>by
  have h:=tm hf (xs:=y::r)
  obtain⟨_,t,l,e,h2⟩:=hf y
  have e2:∃l',bg false f (y::r)=t::l':=by
   cases r with
   |nil=>exact⟨l++[],by show f y++[]=_;rw[e];rfl⟩
   |cons z r=>exact⟨l++sg 0 [44]::bg false f (z::r),by show f y++sg 0 [44]::bg false f (z::r)=_;rw[e];rfl⟩
  obtain⟨l',e2⟩:=e2
  show cm (f x++sg 0 [44]::bg false f (y::r))
  rw[e2] at h ⊢
  exact(hf x).1.app (.comma h2 h)
theorem yg {α:Type} {f:α→List LX} {P:α→Prop} (hf:∀x,P x→KH (f x)):∀{xs:List α},(∀x∈xs,P x)→∀{s:Nat} {y:List LX},bC (bg true f xs++sg s [125]::y)=bg false f xs++sg s [125]::bC y
 |[],_,_,_=>rfl
 |[x],hx,s,y=>by
  have h:=(hf x (hx x (List.mem_cons_self ..))).1
  show bC ((f x++[sg 0 [44]])++sg s [125]::y)=(f x++[])++sg s [125]::bC y
  rw[List.append_assoc,h,List.append_nil];rfl
 |x::z::r,hx,s,y=>by
  have ih:=yg hf (xs:=z::r) (fun y hy=>hx y (List.mem_cons_of_mem _ hy)) (s:=s) (y:=y)
  refine bc fun G=>?_;obtain⟨h,_⟩:=hf x (hx x (List.mem_cons_self ..))
  obtain⟨_,t,l,e,h2⟩:=hf z (hx z (List.mem_cons_of_mem _ (List.mem_cons_self ..)))
  have e2:∃l',bg true f (z::r)++sg s [125]::y=t::l':=by
   cases r with
   |nil=>exact⟨_,by show(f z++[sg 0 [44]])++_=_;rw[e];rfl⟩
   |cons z r=>exact⟨_,by show(f _++sg 0 [44]::bg true f (z::r))++_=_;rw[e];rfl⟩
  obtain⟨l',e2⟩:=e2
  refine G ?_;clear G;show bC ((f x++sg 0 [44]::bg true f (z::r))++sg s [125]::y)=(f x++sg 0 [44]::bg false f (z::r))++sg s [125]::bC y
  rw[List.append_assoc,h]
  show f x++bC (sg 0 [44]::(bg true f (z::r)++sg s [125]::y))=_
  have e3:bC (sg 0 [44]::(bg true f (z::r)++sg s [125]::y))=sg 0 [44]::bC (bg true f (z::r)++sg s [125]::y):=by
   have g:eF (sg 0 [44]) (bg true f (z::r)++sg s [125]::y)=false:=by
    rw[e2]
    unfold nb at h2
    show(Nat.beq t.k 5&&aW t.w [125])=false
    revert h2
    cases Nat.beq t.k 5&&aW t.w [125]<;>intro h<;>first|rfl|cases h
   show cond (eF (sg 0 [44]) (bg true f (z::r)++sg s [125]::y)) _ _=_
   rw[g];rfl
  rw[e3,ih,List.append_assoc];rfl
theorem CT {dd:De} (hx:cf dd):bC (du true sp dd++y)=du false sp dd++bC y:=by
 have core:∀sp,bC (bK true sp dd++y)=bK false sp dd++bC y:=fun sp=>by
  cases dd with
  |enum amb cst x ms=>
   obtain⟨h1,_,h4⟩:=hx
   have a:cm ((cond cst [kw sp bj,kw 1 dj] [kw sp dj])++[nm 1 x,sg 1 [123]]):=by
    cases cst
    ·exact .cons rfl (.cons rfl (.cons rfl .nil))
    ·exact .cons rfl (.cons rfl (.cons rfl (.cons rfl .nil)))
   have b:=yg (fun x=>LY) h4 (s:=cond ms.isEmpty 0 2) (y:=y)
   have e:∀full y,bK full sp (.enum amb cst x ms)++y=((cond cst [kw sp bj,kw 1 dj] [kw sp dj])++[nm 1 x,sg 1 [123]])++(bg full fq ms++sg (cond ms.isEmpty 0 2) [125]::y):=fun full y=>by
    show(((cond cst [kw sp bj,kw 1 dj] [kw sp dj])++nm 1 x::sg 1 [123]::bg full fq ms)++[sg (cond ms.isEmpty 0 2) [125]])++y=_
    simp only[List.append_assoc,List.cons_append,List.nil_append]
   rw[e,e,a,b]
  |alias amb x tps ty=>
   have a:cm (nm sp bS::nm 1 x::bU tps++[sg 1 [61],nm 1 ty]):=cm.app (.cons rfl (.cons rfl wZ)) (.cons rfl (.cons rfl .nil))
   have e:∀full y,bK full sp (.alias amb x tps ty)++y=(nm sp bS::nm 1 x::bU tps++[sg 1 [61],nm 1 ty])++(dI full++y):=fun full y=>by
    show(nm sp bS::nm 1 x::(bU tps++sg 1 [61]::nm 1 ty::dI full))++y=_
    simp only[List.append_assoc,List.cons_append,List.nil_append]
   rw[e,e,a];rfl
  |iface amb x tps bs=>
   have a:cm (bK true sp (.iface amb x tps bs)):=.cons rfl (.cons rfl ((wZ.app x9).app (.cons rfl (.cons rfl .nil))))
   exact a y
  |var amb wd ds=>
   have a:cm (⟨sp,kindOf wd,wd,wd⟩::iw ds):=.cons (oh pb) Ki
   have e:∀full y,bK full sp (.var amb wd ds)++y=(⟨sp,kindOf wd,wd,wd⟩::iw ds)++(dI full++y):=fun full y=>by
    show(⟨sp,kindOf wd,wd,wd⟩::(iw ds++dI full))++y=_
    simp only[List.append_assoc,List.cons_append]
   rw[e,e,a];rfl
 unfold du
 cases fv dd with
 |false=>exact core sp
 |true=>
  show cond (eF (nm sp dN) (bK true 1 dd++y)) _ (nm sp dN::bC (bK true 1 dd++y))=nm sp dN::(bK false 1 dd++bC y)
  rw[core];rfl
theorem J6 {s:Sm} (hx:cR s):bC (gY true sp s++y)=gY false sp s++bC y:=by
 cases s with
 |imp w raw ns only=>
  cases ns with
  |nil=>
   have a:cm (kw sp cA::(cond only [sg 1 [123],sg 0 [125],nm 1 eE] [])++[⟨1,4,w,bk raw⟩]):=by
    cases only
    ·exact .cons rfl (.cons rfl .nil)
    ·exact .cons rfl (.cons rfl (.cons rfl (.cons rfl (.cons rfl .nil))))
   have e:∀full y,gY full sp (.imp w raw [] only)++y=(kw sp cA::(cond only [sg 1 [123],sg 0 [125],nm 1 eE] [])++[⟨1,4,w,bk raw⟩])++(dI full++y):=fun full y=>by
    show(kw sp cA::((cond only [sg 1 [123],sg 0 [125],nm 1 eE] [])++⟨1,4,w,bk raw⟩::dI full))++y=_
    simp only[List.append_assoc,List.cons_append,List.nil_append]
   rw[e,e,a];rfl
  |cons z zs=>
   have a:cm (kw sp cA::sg 1 [123]::bg false cb (z::zs)++[sg 1 [125],nm 1 eE,⟨1,4,w,bk raw⟩]):=
    cm.app (.cons rfl (.cons rfl (tm fun x=>CM))) (.cons rfl (.cons rfl (.cons rfl .nil)))
   have e:∀full y,gY full sp (.imp w raw (z::zs) only)++y=(kw sp cA::sg 1 [123]::bg false cb (z::zs)++[sg 1 [125],nm 1 eE,⟨1,4,w,bk raw⟩])++(dI full++y):=fun full y=>by
    show((kw sp cA::sg 1 [123]::bg false cb (z::zs)++[sg 1 [125],nm 1 eE,⟨1,4,w,bk raw⟩])++dI full)++y=_
    rw[List.append_assoc]
   rw[e,e,a];rfl
 |de ex dd=>
  cases ex with
  |false=>exact CT hx
  |true=>
   show cond (eF (kw sp dZ) (du true 1 dd++y)) _ (kw sp dZ::bC (du true 1 dd++y))=kw sp dZ::(du false 1 dd++bC y)
   rw[CT hx];rfl
theorem t4:∀{ss:List Sm} {sp:Nat},(∀s∈ss,cR s)→bC (cN true sp ss)=cN false sp ss
 |[],_,_=>rfl
 |s::r,sp,hx=>by
  show bC (gY true sp s++cN true 2 r)=gY false sp s++cN false 2 r
  rw[J6 (hx s (List.mem_cons_self ..)),t4 fun y hy=>hx y (List.mem_cons_of_mem _ hy)]
variable {n i:Nat} {toks l out:List V} {e:V} {x2 x3:bB} {K:Fl→St→Prop}
noncomputable abbrev AH:S:=GA (az 1 hJ.body)
theorem xA {K:St→Prop} {a0 a1 u:bB} (h:LV x2) (c:K [a0,a1,u,x3]):bQ [a0,a1,x2,x3] 2 u K:=by
 rcases h with rfl|⟨_,rfl⟩<;>exact c
theorem pF {K:St→Prop} {a0 a1 u:bB} (h:LV x3) (c:K [a0,a1,x2,u]):bQ [a0,a1,x2,x3] 3 u K:=by
 rcases h with rfl|⟨_,rfl⟩<;>exact c
theorem y1 {t:LX} {a b:V} {g:Bool} {r:List LX} {l:List V} (h:At toks i (aC t.k t.w a b (.bool (fresh t.sp))::l)) (ht:TR r l [jk e]) (hz:out.length < 100000) (h2:LV x2) (h3:LV x3)
  (k:∀x2 x3,LV x2→LV x3→K .nxt [.v (.list toks),.own (.list (cond (eF t r) out (out++[aC t.k t.w a b (.bool (fresh t.sp))]))),x2,x3]):
  bQ [.v (.list toks),.own (.list out),x2,x3] 2 (.v (In i)) fun st=>aq TT (ab n) GG AH st K:=by
 have i0:=h.idx (j:=0) rfl
 have i0:gZ (.list toks) (In i)=some (aC t.k t.w a b (.bool (fresh t.sp))):=i0
 refine xA h2 ?_
 refine af i0 ?_
 have keep:∀w:T,aW w [59]=false→aW w [44]=false→eF t r=false→aq TT (ab n) GG (az 1 AH) [.v (.list toks),.own (.list out),.v (In i),.v (.str w)] K:=fun w h1 h2 hg=>by
  rw[hg] at k
  first|refine ar (h1) ?_|refine av (h1) ?_|((conv=>whnf);rw[h1];trace "FALLBACK")
  first|refine ar (h2) ?_|refine av (h2) ?_|((conv=>whnf);rw[h2];trace "FALLBACK")
  refine af (r:=c9 (.bool (!false))) rfl ?_
  refine af i0 ?_
  refine⟨by show _ < 1000000;exact ag ‹_› rfl,?_⟩
  exact k _ _ (.inr ⟨_,rfl⟩) (.inr ⟨_,rfl⟩)
 cases hk:Nat.beq t.k 5 with
 |false=>
  have hd:decide (Int.ofNat t.k=Int.ofNat 5)=false:=decide_eq_false fun q=>by
   have q:t.k=5:=Int.ofNat.inj q
   rw[q] at hk;cases hk
  have hg:eF t r=false:=by unfold eF;rw[hk];rfl
  first|refine ar (hd) ?_|refine av (hd) ?_|((conv=>whnf);rw[hd];trace "FALLBACK")
  refine pF h3 ?_
  exact keep [] rfl rfl hg
 |true=>
  have hk5:=Nat.eq_of_beq_eq_true hk
  have hd:decide (Int.ofNat t.k=Int.ofNat 5)=true:=decide_eq_true (by rw[hk5])
  first|refine ar (hd) ?_|refine av (hd) ?_|((conv=>whnf);rw[hd];trace "FALLBACK")
  refine af i0 ?_
  refine pF h3 ?_
  cases h1:aW t.w [59] with
  |true=>
   have hg:eF t r=true:=by unfold eF;rw[hk,h1];rfl
   rw[hg] at k
   first|refine ar (h1) ?_|refine av (h1) ?_|((conv=>whnf);rw[h1];trace "FALLBACK")
   exact k _ _ (.inr ⟨_,rfl⟩) (.inr ⟨_,rfl⟩)
  |false=>
   cases h2:aW t.w [44] with
   |false=>exact keep t.w h1 h2 (by unfold eF;rw[hk,h1,h2];rfl)
   |true=>
    have fin:∀(u:LX) (a' b':V) (g:V) (l':List V),l=aC u.k u.w a' b' g::l'→eF t r=(Nat.beq u.k 5&&aW u.w [125])→aq TT (ab n) GG (az 1 AH) [.v (.list toks),.own (.list out),.v (In i),.v (.str t.w)] K:=fun u a' b' g l' hl hg=>by
     subst hl
     have i1:gZ (.list toks) (In (i+1))=some (aC u.k u.w a' b' g):=h.next.idx (j:=0) rfl
     rw[hg] at k
     first|refine ar (h1) ?_|refine av (h1) ?_|((conv=>whnf);rw[h1];trace "FALLBACK")
     first|refine ar (h2) ?_|refine av (h2) ?_|((conv=>whnf);rw[h2];trace "FALLBACK")
     refine⟨trivial,?_⟩
     refine af i1 ?_
     cases hu:Nat.beq u.k 5 with
     |false=>
      have hd:decide (Int.ofNat u.k=Int.ofNat 5)=false:=decide_eq_false fun q=>by
       have q:u.k=5:=Int.ofNat.inj q
       rw[q] at hu;cases hu
      rw[hu] at k
      first|refine ar (hd) ?_|refine av (hd) ?_|((conv=>whnf);rw[hd];trace "FALLBACK")
      refine af (r:=c9 (.bool (!false))) rfl ?_
      refine af i0 ?_
      refine⟨by show _ < 1000000;exact ag ‹_› rfl,?_⟩
      exact k _ _ (.inr ⟨_,rfl⟩) (.inr ⟨_,rfl⟩)
     |true=>
      have hd:decide (Int.ofNat u.k=Int.ofNat 5)=true:=decide_eq_true (by rw[Nat.eq_of_beq_eq_true hu])
      rw[hu] at k
      first|refine ar (hd) ?_|refine av (hd) ?_|((conv=>whnf);rw[hd];trace "FALLBACK")
      refine⟨trivial,?_⟩
      refine af i1 ?_
      cases h6:aW u.w [125] with
      |false=>
       rw[h6] at k
       first|refine ar (h6) ?_|refine av (h6) ?_|((conv=>whnf);rw[h6];trace "FALLBACK")
       refine af i0 ?_
       refine⟨by show _ < 1000000;exact ag ‹_› rfl,?_⟩
       exact k _ _ (.inr ⟨_,rfl⟩) (.inr ⟨_,rfl⟩)
      |true=>
       rw[h6] at k
       first|refine ar (h6) ?_|refine av (h6) ?_|((conv=>whnf);rw[h6];trace "FALLBACK")
       exact k _ _ (.inr ⟨_,rfl⟩) (.inr ⟨_,rfl⟩)
    have hg:eF t r=Km r:=by unfold eF;rw[hk,h1,h2];rfl
    cases r with
    |nil=>cases ht;exact fin ⟨0,0,[],[]⟩ _ _ _ _ rfl hg
    |cons u r=>
     refine bc fun G=>?_;obtain⟨a',b',m,rfl,_⟩:=ht
     refine G ?_;clear G;exact fin u _ _ _ _ rfl hg
theorem xB:∀{ls:List LX} {i:Nat} {l out:List V} {x2 x3:bB},At toks i l→TR ls l [jk e]→out.length+ls.length < 100000→LV x2→LV x3→
  (∀m x2 x3,TR (bC ls) m [jk e]→m.length≤ls.length+1→K .nxt [.v (.list toks),.own (.list (out++m)),x2,x3])→
  cQ (fun x st K=>bQ st 2 (.v x) fun st=>aq TT (ab n) GG AH st K) ((List.range' i (ls.length+1)).map In) [.v (.list toks),.own (.list out),x2,x3] K:=by
 intro ls
 induction ls with
 |nil=>
  intro i l out x2 x3 h ht hz h2 h3 k
  cases ht
  have i0:gZ (.list toks) (In i)=some (jk e):=h.idx (j:=0) rfl
  refine xA h2 ?_
  refine af i0 ?_
  refine pF h3 ?_
  refine af i0 ?_
  refine⟨by show out.length < 1000000;simp only[List.length_nil] at hz;exact ag ‹_› rfl,?_⟩
  exact k [jk e] _ _ rfl (Nat.le_refl _)
 |cons t ls ih=>
  intro i l out x2 x3 h ht hz h2 h3 k
  refine bc fun G=>?_;obtain⟨a,b,m,rfl,ht⟩:=ht
  rw[List.length_cons] at hz
  have k':∀m x2 x3,TR (bC (t::ls)) m [jk e]→m.length≤ls.length+1+1→K .nxt [.v (.list toks),.own (.list (out++m)),x2,x3]:=k
  refine G ?_;clear G;show(bQ [.v (.list toks),.own (.list out),x2,x3] 2 (.v (In i)) fun st=>aq TT (ab n) GG AH st fun fl st=>match fl with
   |.nxt=>cQ _ ((List.range' (i+1) (ls.length+1)).map In) st K
   |.cnt=>cQ _ ((List.range' (i+1) (ls.length+1)).map In) st K
   |.brk=>K .nxt st
   |.ret v=>K (.ret v) st)
  refine y1 (n:=n) (g:=true) h ht (by exact vr ‹_›) h2 h3 fun x2 x3 h2 h3=>?_
  have e':bC (t::ls)=cond (eF t ls) (bC ls) (t::bC ls):=rfl
  rw[e'] at k'
  cases hg:eF t ls with
  |true=>
   rw[hg] at k'
   refine ih h.next ht (by show out.length+_ < _;exact bX ‹_›) h2 h3 fun m x2 x3 hm hl=>?_
   exact k' m x2 x3 hm (by lia)
  |false=>
   rw[hg] at k'
   refine ih h.next ht (by show(out++[_]).length+_ < _;rw[List.length_append];show out.length+1+_ < _;exact LK ‹_›) h2 h3 fun m x2 x3 hm hl=>?_
   show K .nxt [.v (.list toks),.own (.list ((out++[_])++m)),x2,x3]
   rw[List.append_assoc]
   exact k' _ x2 x3 ⟨_,_,_,rfl,hm⟩ (by show m.length+1≤_;lia)
theorem E8 {ls:List LX} {l r:List V} (h:TR ls l r):l.length=ls.length+r.length:=by
 induction ls generalizing l with
 |nil=>cases h;exact(Nat.zero_add _).symm
 |cons t ls ih=>
  obtain⟨_,_,m,rfl,h⟩:=h
  exact(congrArg (·+1) (ih h)).trans (Nat.succ_add ..).symm
theorem lu {ls:List LX} {K:KT} (ht:TR ls toks [jk e]) (hz:toks.length≤90000) (k:∀m,TR (bC ls) m [jk e]→m.length≤90000→K (.list m) none):ab (n+1) 1697 [.list toks] none K:=by
 have hl:=E8 ht
 have hl:toks.length=ls.length+1:=hl
 refine aa rfl rfl ?_
 have l1:dJ (.list toks)=some toks.length:=if_pos (by show _≤1000000;exact ag ‹_› rfl)
 refine af (r:=(dJ (.list toks)).map fun n=>In n) (by rw[l1];rfl) ?_
 have r1:eW (In toks.length)=some ((List.range' 0 (ls.length+1)).map In):=by
  show(if 0≤Int.ofNat toks.length∧(Int.ofNat toks.length).toNat≤bA then some ((List.range (Int.ofNat toks.length).toNat).map fun k=>V.int (.ofNat k)) else none)=_
  rw[if_pos ⟨Int.natCast_nonneg _,by show toks.length≤1000000;exact ag ‹_› rfl⟩]
  show some ((List.range toks.length).map _)=_
  rw[hl,List.range_eq_range']
 refine af r1 ?_
 refine xB (n:=n) (ls:=ls) (i:=0) (l:=toks) (out:=[]) ⟨rfl,by show _≤1000000;exact ag ‹_› rfl⟩ ht (by show 0+_ < _;lia) (.inl rfl) (.inl rfl) fun m x2 x3 hm hl=>?_
 exact k m hm (by lia)
end
structure Dg (ds:List V):Prop where
 z:ds.length≤100
 a:∀v∈ds,∃x:Nat,v=In x
section
variable {n m c r:Nat} {ds:List V} {K:V→MO→Prop}
theorem be (D:Dg ds) (hm:0 < m) (k:∀r ds',Dg ds'→r < m→K (In r) (.list ds')):ab (n+1) 1575 [.hole,In m] (some (0,.list ds)) (fun v m'=>eM m' fun m'=>K v m'):=by
 have hz:ds.length≤bA:=ae (Nat.lt_of_le_of_lt D.z (by decide))
 refine aa rfl rfl ?_
 refine⟨hz,?_⟩
 cases hd:ds.getLast? with
 |none=>
  have:ds=[]:=List.getLast?_eq_none_iff.mp hd
  subst this
  exact k 0 [] D hm
 |some v=>
  obtain⟨l,rfl⟩:∃l,ds=l++[v]:=List.getLast?_eq_some_iff.mp hd
  obtain⟨x,rfl⟩:=D.a v (List.mem_append_right _ (List.mem_cons_self ..))
  have e:decide (Int.ofNat 0 < Int.ofNat (l++[In x]).length)=true:=by rw[List.length_append];exact eQ (Nat.succ_pos _)
  first|refine ar (e) ?_|refine av (e) ?_|((conv=>whnf);rw[e];trace "FALLBACK")
  refine⟨hz,?_⟩
  refine af hd ?_
  have e2:Cs .mod (In x) (In m)=some (In (x % m)):=by
   show(FE .mod (Int.ofNat x) (Int.ofNat m)).map V.int=_
   have:FE .mod (Int.ofNat x) (Int.ofNat m)=some (Int.ofNat x % Int.ofNat m):=if_pos (Int.ofNat_lt.mpr hm)
   rw[this];rfl
  refine af e2 ?_
  refine⟨trivial,?_⟩
  have D2:Dg (l++[In x]).dropLast:=⟨by rw[List.length_dropLast];have:=D.z;omega,fun v hv=>D.a v (List.dropLast_subset _ hv)⟩
  exact k _ _ D2 (Nat.mod_lt _ hm)
theorem rN {l:List V} (h:r < l.length) (z:l.length≤100):∃v,gZ (.tup l) (In r)=some v∧v∈l:=by
 have hz:l.length≤bA:=ae (by exact aj ‹_› rfl)
 refine⟨l[r],?_,List.getElem_mem h⟩
 show(at_ l.length (.ofNat r)).bind _=_
 rw[wc h hz]
 exact List.getElem?_eq_getElem h
theorem dc {l:List T} (h:r < l.length) (z:l.length≤100):∃x,gZ (.tup (l.map .str)) (In r)=some (.str x)∧x∈l:=by
 refine bc fun G=>?_;obtain⟨v,h1,h2⟩:=rN (l:=l.map V.str) (by rw[List.length_map];exact h) (by rw[List.length_map];exact z)
 obtain⟨x,hx,rfl⟩:=List.mem_map.mp h2
 refine G ?_;clear G;exact⟨x,h1,hx⟩
theorem ee (D:Dg ds) (k:∀x v ds',Dg ds'→x∈names→bx x v→K v (.list ds')):ab (n+3) 1582 [.hole] (some (0,.list ds)) (fun v m'=>eM m' fun m'=>K v m'):=by
 refine aa rfl rfl ?_
 refine be (n:=n+1) D (by decide) fun r ds' D' hr=>?_
 refine bc fun G=>?_;obtain⟨x,h1,h2⟩:=dc (l:=names) hr (by decide)
 refine G ?_;clear G;refine af h1 ?_
 refine tB (n:=n) ?_
 exact k x _ ds' D' h2 ⟨_,rfl⟩
theorem lR (D:Dg ds) (k:∀o v ds',Dg ds'→Cv o→bV o v→K v (.list ds')):ab (n+4) 1589 [.hole] (some (0,.list ds)) (fun v m'=>eM m' fun m'=>K v m'):=by
 refine aa rfl rfl ?_
 refine be (n:=n+2) D (by decide) fun r ds' D' hr=>?_
 cases e:decide (Int.ofNat r=Int.ofNat 1) with
 |true=>
  first|refine ar (e) ?_|refine av (e) ?_|((conv=>whnf);rw[e];trace "FALLBACK")
  refine ee (n:=n) D' fun x v ds' D' hx hv=>?_
  exact k (some x) v ds' D' hx hv
 |false=>
  first|refine ar (e) ?_|refine av (e) ?_|((conv=>whnf);rw[e];trace "FALLBACK")
  exact k none _ ds' D' trivial rfl
theorem uv (h:r < 3):∃b,Cs .mul (In 134217728) (.int (Int.ofNat r / Int.ofNat 2))=some (In (fl b gw)):=by
 refine NP h ⟨false,?_⟩ ⟨false,?_⟩ ⟨true,?_⟩<;>kernel_rfl
theorem zy (h:r < 3):∃b,Cs .mul (In 4194304) (.int (Int.ofNat r / Int.ofNat 2))=some (In (fl b eo)):=by
 refine NP h ⟨false,?_⟩ ⟨false,?_⟩ ⟨true,?_⟩<;>kernel_rfl
theorem Qp (h:r < 2):∃b,r=cond b 1 0:=by
 exact Qm h ⟨false,rfl⟩ ⟨true,rfl⟩
theorem Ai (b:Bool):Cs .mul (In 134217728) (In (cond b 1 0))=some (In (fl b gw)):=by cases b<;>kernel_rfl
theorem M4 (b:Bool):Cs .mul (In 4194304) (In (cond b 1 0))=some (In (fl b eo)):=by cases b<;>kernel_rfl
theorem uP (b:Bool):Cs .mul (In 8388608) (In (cond b 1 0))=some (In (fl b oL)):=by cases b<;>kernel_rfl
theorem yP (h:r < 6):∃w raw,gZ (.tup (L.eG.map fun p=>V.tup [.str p.1,.str p.2])) (In r)=some (.tup [.str w,.str raw])∧(w,raw)∈L.eG:=by
 refine bc fun G=>?_;obtain⟨v,h1,h2⟩:=rN (l:=L.eG.map fun p=>V.tup [.str p.1,.str p.2]) (r:=r) h (by decide)
 obtain⟨⟨w,raw⟩,hp,rfl⟩:=List.mem_map.mp h2
 refine G ?_;clear G;exact⟨w,raw,h1,hp⟩
theorem fh {r:Nat} (h:r≤100):eW (In r)=some ((List.range r).map In):=by
 show(if 0≤Int.ofNat r∧(Int.ofNat r).toNat≤bA then some ((List.range (Int.ofNat r).toNat).map fun k=>V.int (.ofNat k)) else none)=_
 rw[if_pos ⟨Int.natCast_nonneg _,by show r≤1000000;exact ag ‹_› rfl⟩];rfl
noncomputable abbrev Oz:S:=GA (az 1 fH.body)
theorem Gq {K:St→Prop} {a0 a1 a5 u x2 x3 x4:bB} (h:LV x2) (c:K [a0,a1,u,x3,x4,a5]):bQ [a0,a1,x2,x3,x4,a5] 2 u K:=by
 rcases h with rfl|⟨_,rfl⟩<;>exact c
theorem G3 {K:St→Prop} {a0 a1 a5 u x2 x3 x4:bB} (h:LV x3) (c:K [a0,a1,x2,u,x4,a5]):bQ [a0,a1,x2,x3,x4,a5] 3 u K:=by
 rcases h with rfl|⟨_,rfl⟩<;>exact c
theorem FS {K:St→Prop} {a0 a1 a5 u x2 x3 x4:bB} (h:LV x4) (c:K [a0,a1,x2,x3,u,a5]):bQ [a0,a1,x2,x3,x4,a5] 4 u K:=by
 rcases h with rfl|⟨_,rfl⟩<;>exact c
theorem aZ.snoc {α β:Type} {R:α→β→Prop} {l:List α} {m:List β} {a:α} {b:β} (A:aZ R l m) (h:R a b):aZ R (l++[a]) (m++[b]):=by
 induction A with
 |nil=>exact .cons h .nil
 |cons q _ ih=>exact .cons q ih
theorem wf {K:Fl→St→Prop}:∀{js:List Nat} {ns:List eX} {vs ds:List V} {x2 x3 x4:bB},aZ cE ns vs→(∀x∈ns,eS x)→ns.length+js.length≤3→Dg ds→LV x2→LV x3→LV x4→
  (∀ns vs ds x2 x3 x4,aZ cE ns vs→(∀x∈ns,eS x)→ns.length≤3→Dg ds→K .nxt [.inh (.list ds),.own (.list vs),x2,x3,x4,.un])→
  cQ (fun x st K=>bQ st 2 (.v x) fun st=>aq TT (ab (n+3)) GG Oz st K) (js.map In) [.inh (.list ds),.own (.list vs),x2,x3,x4,.un] K:=by
 intro js
 induction js with
 |nil=>intro ns vs ds x2 x3 x4 A hx hz D _ _ _ k;exact k ns vs ds x2 x3 x4 A hx (by simpa using hz) D
 |cons j js ih=>
  intro ns vs ds x2 x3 x4 A hx hz D h2 h3 h4 k
  rw[List.length_cons] at hz
  refine Gq h2 ?_
  refine be (n:=n+2) D (by decide) fun r ds D hr=>?_
  refine bc fun G=>?_;obtain⟨o,e1,ho⟩:=dc (l:=[bS,oT,[97],eE]) hr (by decide)
  refine G ?_;clear G;refine af e1 ?_
  refine G3 h3 ?_
  refine be (n:=n+2) D (by decide) fun r ds D hr=>?_
  refine bc fun G=>?_;obtain⟨i,e1,hi⟩:=dc (l:=[oT,bS,[98],o,o]) hr (by show 5≤100;decide)
  refine G ?_;clear G;refine af e1 ?_
  refine FS h4 ?_
  refine be (n:=n+2) D (by decide) fun r ds D hr=>?_
  obtain⟨ty,e1⟩:=uv hr
  refine⟨trivial,?_⟩
  refine af e1 ?_
  refine⟨trivial,?_⟩
  refine aE (n:=n+1) ?_
  have hl:=A.len
  refine⟨by show vs.length < 1000000;lia,?_⟩
  have ok:eS ⟨o,i,ty⟩:=⟨ho,by
   rcases List.mem_cons.mp hi with h|hi
   ·exact .inl (h▸List.mem_cons_self ..)
   rcases List.mem_cons.mp hi with h|hi
   ·exact .inl (h▸List.mem_cons_of_mem _ (List.mem_cons_self ..))
   rcases List.mem_cons.mp hi with h|hi
   ·exact .inl (h▸List.mem_cons_of_mem _ (List.mem_cons_of_mem _ (List.mem_cons_self ..)))
   rcases List.mem_cons.mp hi with h|hi
   ·exact .inr h
   rcases List.mem_cons.mp hi with h|hi
   ·exact .inr h
   cases hi⟩
  refine ih (ns:=ns++[⟨o,i,ty⟩]) (A.snoc ⟨_,rfl⟩) ?_ (by rw[List.length_append];show ns.length+1+_≤_;exact kH ‹_›) D (.inr ⟨_,rfl⟩) (.inr ⟨_,rfl⟩) (.inr ⟨_,rfl⟩) k
  intro x hx'
  rcases List.mem_append.mp hx' with h|h
  ·exact hx x h
  ·rcases List.mem_cons.mp h with rfl|h
   ·exact ok
   ·cases h
theorem j7 {K:V→MO→Prop} (D:Dg ds) (k:∀s v ds',Dg ds'→cR s→eY s v→K v (.list ds')):ab (n+4) 1596 [.hole] (some (0,.list ds)) (fun v m'=>eM m' fun m'=>K v m'):=by
 refine aa rfl rfl ?_
 refine be (n:=n+2) D (by decide) fun r ds D hr=>?_
 refine af (fh (by exact eJ ‹_› rfl)) ?_
 refine wf (n:=n) (js:=List.range r) .nil (fun ξ h=>absurd h List.not_mem_nil) (by rw[List.length_range];show 0+r≤3;lia) D (.inl rfl) (.inl rfl) (.inl rfl) fun ns vs ds x2 x3 x4 A hx hz D=>?_
 have hl:=A.len
 have fin:∀only:Bool,(only=true→ns=[])→∀ds,Dg ds→aq TT (ab (n+3)) GG (az 3 fH.body) [.inh (.list ds),.own (.list vs),x2,x3,x4,.v (In (fl only gw))] (fun fl st=>match fl with
   |.nxt=>eM (bm (some (0,MO.list ds)) st) fun m'=>K .none m'
   |.ret v=>eM (bm (some (0,MO.list ds)) st) fun m'=>K v m'
   |_=>False):=fun only ho ds D=>by
  refine be (n:=n+2) D (by decide) fun r ds D hr=>?_
  refine bc fun G=>?_;obtain⟨w,raw,e1,hk⟩:=yP hr
  refine G ?_;clear G;refine af e1 ?_
  refine aE (n:=n+1) ?_
  exact k (.imp w raw ns only) _ ds D ⟨hk,hz,hx,ho⟩ ⟨_,_,rfl,A⟩
 refine⟨ae (by exact fT ‹_› ‹_› rfl),?_⟩
 cases ns with
 |nil=>
  cases A
  refine be (n:=n+2) D (by decide) fun r ds D hr=>?_
  obtain⟨only,rfl⟩:=Qp hr
  refine af (Ai only) ?_
  refine⟨trivial,?_⟩
  exact fin only (fun ξ=>rfl) ds D
 |cons x xs=>
  have hl:vs.length=xs.length+1:=hl
  rw[hl]
  exact fin false (fun h=>ff h) ds D
theorem zS {K:St→Prop} {a0 a1 u x2 x3:bB} (h:LV x2) (c:K [a0,a1,u,x3]):bQ [a0,a1,x2,x3] 2 u K:=xA h c
theorem wo (h:r < 4):∃inn out,gZ (.tup [In 0,In 268435456,In 536870912,.int (Int.ofNat 268435456+Int.ofNat 536870912)]) (In r)=some (In (fl inn M8+fl out wi)):=by
 refine OU h ⟨false,false,?_⟩ ⟨true,false,?_⟩ ⟨false,true,?_⟩ ⟨true,true,?_⟩<;>kernel_rfl
noncomputable abbrev N1:S:=GA (az 1 hU.body)
theorem yp {K:Fl→St→Prop}:∀{js:List Nat} {ns:List Tp} {vs ds:List V} {x2 x3:bB},aZ jY ns vs→(∀x∈ns,eU x)→ns.length+js.length≤2→Dg ds→LV x2→LV x3→
  (∀ns vs ds x2 x3,aZ jY ns vs→(∀x∈ns,eU x)→ns.length≤2→Dg ds→K .nxt [.inh (.list ds),.own (.list vs),x2,x3])→
  cQ (fun x st K=>bQ st 2 (.v x) fun st=>aq TT (ab (n+4)) GG N1 st K) (js.map In) [.inh (.list ds),.own (.list vs),x2,x3] K:=by
 intro js
 induction js with
 |nil=>intro ns vs ds x2 x3 A hx hz D _ _ k;exact k ns vs ds x2 x3 A hx (by simpa using hz) D
 |cons j js ih=>
  intro ns vs ds x2 x3 A hx hz D h2 h3 k
  rw[List.length_cons] at hz
  refine zS h2 ?_
  refine⟨trivial,?_⟩
  refine be (n:=n+3) D (by decide) fun r ds D hr=>?_
  refine bc fun G=>?_;obtain⟨inn,out,e1⟩:=wo hr
  refine G ?_;clear G;refine af e1 ?_
  refine pF h3 ?_
  refine be (n:=n+3) D (by decide) fun r ds D hr=>?_
  refine bc fun G=>?_;obtain⟨x,e1,hn⟩:=dc (l:=[[84],lg,[85]]) hr (by decide)
  refine G ?_;clear G;refine af e1 ?_
  refine lR (n:=n) D fun ext v1 ds D ho1 hv1=>?_
  refine lR (n:=n) D fun dfl v2 ds D ho2 hv2=>?_
  refine aE (n:=n+2) ?_
  have hl:=A.len
  refine⟨by show vs.length < 1000000;lia,?_⟩
  have ok:eU ⟨x,ext,dfl,inn,out⟩:=⟨hn,ho1,ho2⟩
  refine ih (ns:=ns++[⟨x,ext,dfl,inn,out⟩]) (A.snoc ⟨_,_,_,rfl,hv1,hv2⟩) ?_ (by rw[List.length_append];show ns.length+1+_≤_;exact kH ‹_›) D (.inr ⟨_,rfl⟩) (.inr ⟨_,rfl⟩) k
  intro x hx'
  rcases List.mem_append.mp hx' with h|h
  ·exact hx x h
  ·rcases List.mem_cons.mp h with rfl|h
   ·exact ok
   ·cases h
theorem pT {K:V→MO→Prop} (D:Dg ds) (k:∀xs v ds',Dg ds'→(∀x∈xs,eU x)→xs.length≤2→eH xs v→K v (.list ds')):ab (n+5) 1603 [.hole] (some (0,.list ds)) (fun v m'=>eM m' fun m'=>K v m'):=by
 refine aa rfl rfl ?_
 refine be (n:=n+3) D (by decide) fun r ds D hr=>?_
 refine af (fh (by exact eJ ‹_› rfl)) ?_
 refine yp (n:=n) (js:=List.range r) .nil (fun ξ h=>absurd h List.not_mem_nil) (by rw[List.length_range];show 0+r≤2;lia) D (.inl rfl) (.inl rfl) fun ns vs ds x2 x3 A hx hz D=>?_
 have hl:=A.len
 refine⟨ae (by exact fT ‹_› ‹_› rfl),?_⟩
 cases ns with
 |nil=>
  cases A
  exact k [] _ ds D hx hz rfl
 |cons x xs=>
  have hl:vs.length=xs.length+1:=hl
  rw[hl]
  first|refine ar (eQ (Nat.succ_pos _)) ?_|refine av (eQ (Nat.succ_pos _)) ?_|((conv=>whnf);rw[eQ (Nat.succ_pos _)];trace "FALLBACK")
  refine dz (n:=n+2) ?_
  exact k (x::xs) _ ds D hx hz ⟨_,_,rfl,A⟩
noncomputable abbrev OC:S:=GA (az 1 km.body)
theorem uc {K:List V→St→Prop}:∀{js:List Nat} {xs:List T} {vs ds:List V},aZ bx xs vs→(∀x∈xs,x∈names)→xs.length+js.length≤2→Dg ds→
  (∀xs vs ds,aZ bx xs vs→(∀x∈xs,x∈names)→xs.length≤2→Dg ds→K vs [.inh (.list ds)])→
  j5 (fun x r K=>ay TT (ab (n+3)) (.call 1582 (some (0,1)) (.cons (.hole 1) E.nil)) (.v x::r) fun y st'=>f6 (.v x::r) st'=true∧K y st'.tail) (js.map In) vs [.inh (.list ds)] K:=by
 intro js
 induction js with
 |nil=>intro xs vs ds A hx hz D k;exact k xs vs ds A hx (by simpa using hz) D
 |cons j js ih=>
  intro xs vs ds A hx hz D k
  rw[List.length_cons] at hz
  have hl:=A.len
  refine⟨by show vs.length < 1000000;lia,?_⟩
  refine ee (n:=n) D fun x v ds D hn hv=>?_
  refine⟨rfl,?_⟩
  refine ih (xs:=xs++[x]) (A.snoc hv) ?_ (by rw[List.length_append];show xs.length+1+_≤_;exact kH ‹_›) D k
  intro y hy
  rcases List.mem_append.mp hy with h|h
  ·exact hx y h
  ·rcases List.mem_cons.mp h with rfl|h
   ·exact hn
   ·cases h
theorem Hs (h:r < 4):∃hd tl,gZ (.tup ([[65],[69,46,105,110],[111,102],[116,121,112,101,46,97,115]].map V.str)) (In r)=some (.str (oM hd tl))∧(hd,tl)∈[([65],none),([69],some uD),(HG,none),(bS,some oT)]:=by
 refine bc fun G=>?_;obtain⟨x,e,hx⟩:=dc (l:=[[65],[69,46,105,110],[111,102],[116,121,112,101,46,97,115]]) h (by decide)
 refine G ?_;clear G;rw[e]
 rcases List.mem_cons.mp hx with rfl|hx
 ·exact⟨[65],none,rfl,List.mem_cons_self ..⟩
 rcases List.mem_cons.mp hx with rfl|hx
 ·exact⟨[69],some uD,rfl,List.mem_cons_of_mem _ (List.mem_cons_self ..)⟩
 rcases List.mem_cons.mp hx with rfl|hx
 ·exact⟨HG,none,rfl,List.mem_cons_of_mem _ (List.mem_cons_of_mem _ (List.mem_cons_self ..))⟩
 rcases List.mem_cons.mp hx with rfl|hx
 ·exact⟨bS,some oT,rfl,List.mem_cons_of_mem _ (List.mem_cons_of_mem _ (List.mem_cons_of_mem _ (List.mem_cons_self ..)))⟩
 cases hx
theorem v7 {K:Fl→St→Prop}:∀{js:List Nat} {ns:List Rf} {vs ds:List V} {x2 x3:bB},aZ fc ns vs→(∀x∈ns,fR x)→ns.length+js.length≤2→Dg ds→LV x2→LV x3→
  (∀ns vs ds x2 x3,aZ fc ns vs→(∀x∈ns,fR x)→ns.length≤2→Dg ds→K .nxt [.inh (.list ds),.own (.list vs),x2,x3])→
  cQ (fun x st K=>bQ st 2 (.v x) fun st=>aq TT (ab (n+3)) GG OC st K) (js.map In) [.inh (.list ds),.own (.list vs),x2,x3] K:=by
 intro js
 induction js with
 |nil=>intro ns vs ds x2 x3 A hx hz D _ _ k;exact k ns vs ds x2 x3 A hx (by simpa using hz) D
 |cons j js ih=>
  intro ns vs ds x2 x3 A hx hz D h2 h3 k
  rw[List.length_cons] at hz
  refine zS h2 ?_
  refine be (n:=n+2) D (by decide) fun r ds D hr=>?_
  refine af (fh (by exact eJ ‹_› rfl)) ?_
  refine⟨rfl,?_⟩
  refine uc (n:=n) (js:=List.range r) .nil (fun ξ h=>absurd h List.not_mem_nil) (by rw[List.length_range];show 0+r≤2;lia) D fun xs as ds Aa hxs hzs D=>?_
  refine pF h3 ?_
  refine be (n:=n+2) D (by decide) fun r ds D hr=>?_
  refine bc fun G=>?_;obtain⟨hd,tl,e1,hn⟩:=Hs hr
  refine G ?_;clear G;refine af e1 ?_
  refine ca (n:=n+1) ?_
  have hl:=A.len
  refine⟨by show vs.length < 1000000;lia,?_⟩
  have ok:fR ⟨hd,tl,xs⟩:=⟨hn,hxs,hzs⟩
  refine ih (ns:=ns++[⟨hd,tl,xs⟩]) (A.snoc ⟨_,_,rfl,Aa⟩) ?_ (by rw[List.length_append];show ns.length+1+_≤_;exact kH ‹_›) D (.inr ⟨_,rfl⟩) (.inr ⟨_,rfl⟩) k
  intro x hx'
  rcases List.mem_append.mp hx' with h|h
  ·exact hx x h
  ·rcases List.mem_cons.mp h with rfl|h
   ·exact ok
   ·cases h
theorem rW {K:V→MO→Prop} (D:Dg ds) (k:∀xs l v ds',Dg ds'→(∀x∈xs,fR x)→xs.length≤2→aZ fc xs l→v=ao 71 (.str []) l 0 (In 0)→K v (.list ds')):ab (n+4) 1608 [.hole] (some (0,.list ds)) (fun v m'=>eM m' fun m'=>K v m'):=by
 refine aa rfl rfl ?_
 refine be (n:=n+2) D (by decide) fun r ds D hr=>?_
 refine af (fh (by exact eJ ‹_› rfl)) ?_
 refine v7 (n:=n) (js:=List.range r) .nil (fun ξ h=>absurd h List.not_mem_nil) (by rw[List.length_range];show 0+r≤2;lia) D (.inl rfl) (.inl rfl) fun ns vs ds x2 x3 A hx hz D=>?_
 refine dz (n:=n+1) ?_
 exact k ns vs _ ds D hx hz A rfl
end
section
variable {n m c r:Nat} {ds vs:List V} {K:St→Prop} {a0 a1 a2 a3 u x4 x5 x6 x7 x8:bB}
theorem Oy (h:LV x4) (c:K [a0,a1,a2,a3,u,x5,x6,x7,x8]):bQ [a0,a1,a2,a3,x4,x5,x6,x7,x8] 4 u K:=by rcases h with rfl|⟨_,rfl⟩<;>exact c
theorem NV (h:LV x5) (c:K [a0,a1,a2,a3,x4,u,x6,x7,x8]):bQ [a0,a1,a2,a3,x4,x5,x6,x7,x8] 5 u K:=by rcases h with rfl|⟨_,rfl⟩<;>exact c
theorem PH (h:LV x6) (c:K [a0,a1,a2,a3,x4,x5,u,x7,x8]):bQ [a0,a1,a2,a3,x4,x5,x6,x7,x8] 6 u K:=by rcases h with rfl|⟨_,rfl⟩<;>exact c
theorem AC (h:LV x7) (c:K [a0,a1,a2,a3,x4,x5,x6,u,x8]):bQ [a0,a1,a2,a3,x4,x5,x6,x7,x8] 7 u K:=by rcases h with rfl|⟨_,rfl⟩<;>exact c
theorem y9 (h:LV x8) (c:K [a0,a1,a2,a3,x4,x5,x6,x7,u]):bQ [a0,a1,a2,a3,x4,x5,x6,x7,x8] 8 u K:=by rcases h with rfl|⟨_,rfl⟩<;>exact c
theorem Nf (h:r < 5):∃W,gZ (.tup [In 0,In 2,In 1,In 2,In 0]) (In r)=some (In W)∧W≤2:=by
 refine Mu h ⟨0,?_,by decide⟩ ⟨2,?_,by decide⟩ ⟨1,?_,by decide⟩ ⟨2,?_,by decide⟩ ⟨0,?_,by decide⟩<;>kernel_rfl
theorem OO (h:r < 5):∃b,gZ (.tup [In 0,In 2]) (.int (Int.ofNat r % Int.ofNat 2))=some (In (fl b 2)):=by
 refine Mu h ⟨false,?_⟩ ⟨true,?_⟩ ⟨false,?_⟩ ⟨true,?_⟩ ⟨false,?_⟩<;>kernel_rfl
theorem Nj (h:r < 5):∃b,Cs .mul (In 2) (.int (Int.ofNat r % Int.ofNat 2))=some (In (fl b 2)):=by
 refine Mu h ⟨false,?_⟩ ⟨true,?_⟩ ⟨false,?_⟩ ⟨true,?_⟩ ⟨false,?_⟩<;>kernel_rfl
noncomputable abbrev qa:S:=GA (az 2 nt.body)
structure P1 (amb cst:Bool) (W:Nat):Prop where
 a:W < 5
 b:amb=true→W≤2
 c:amb=true→W=1→cst=true
 d:amb=false→cst=true→W=1∨W=3
theorem GY {K:Fl→St→Prop} {amb:Bool} {wd x0:T} {W i0:Nat} {F nv:V} (hW:P1 amb (aW wd bj) W) (hn:x0∈names) (hv:bx x0 nv) (D:Dg ds) (h7:LV x7) (h8:LV x8) (hz:vs.length < 100)
  (k:∀x v ds x7 x8,jQ amb (aW wd bj) x→fP x v→Dg ds→LV x7→LV x8→K .nxt [.inh (.list ds),.v F,.v (.str wd),.own (.list (vs++[v])),x4,.v nv,.v (In W),x7,x8]):
  aq TT (ab (n+3)) GG (az 3 qa) [.inh (.list ds),.v F,.v (.str wd),.own (.list vs),x4,.v nv,.v (In W),x7,x8] K:=by
 refine bc fun G=>?_;obtain⟨w1,w2,w3,w4⟩:=hW
 refine G ?_;clear G;revert w2 w3 w4 k
 refine Mu w1 ?_ ?_ ?_ ?_ ?_<;>intro k w2 w3 w4
 ·refine AC h7 ?_
  refine y9 h8 ?_
  refine aE (n:=n+1) ?_
  refine⟨by show vs.length < 1000000;exact ag ‹_› rfl,?_⟩
  refine k ⟨x0,none,none,false⟩ _ _ _ _ ⟨hn,trivial,trivial,(ff ·),fun ξ h=>absurd rfl h,fun h1 h2=>?_⟩ ⟨_,_,_,_,rfl,hv,rfl,rfl⟩ D (.inr ⟨_,rfl⟩) (.inr ⟨_,rfl⟩)
  rcases w4 h1 h2 with h|h<;>cases h
 ·refine AC h7 ?_
  refine ee (n:=n) D fun y v ds D hy hyv=>?_
  refine y9 h8 ?_
  refine aE (n:=n+1) ?_
  refine⟨by show vs.length < 1000000;exact ag ‹_› rfl,?_⟩
  exact k ⟨x0,none,some y,false⟩ _ _ _ _ ⟨hn,trivial,hy,(ff ·),fun h ξ=>⟨w3 h rfl,rfl⟩,fun ξ ξ=>(nn ·.symm)⟩ ⟨_,_,_,_,rfl,hv,rfl,hyv⟩ D (.inr ⟨_,rfl⟩) (.inr ⟨_,rfl⟩)
 ·refine ee (n:=n) D fun y v ds D hy hyv=>?_
  refine AC h7 ?_
  refine y9 h8 ?_
  refine aE (n:=n+1) ?_
  refine⟨by show vs.length < 1000000;exact ag ‹_› rfl,?_⟩
  refine k ⟨x0,some y,none,false⟩ _ _ _ _ ⟨hn,hy,trivial,(ff ·),fun ξ h=>absurd rfl h,fun h1 h2=>?_⟩ ⟨_,_,_,_,rfl,hv,hyv,rfl⟩ D (.inr ⟨_,rfl⟩) (.inr ⟨_,rfl⟩)
  rcases w4 h1 h2 with h|h<;>cases h
 ·have ha:amb=false:=by
   cases amb with
   |false=>rfl
   |true=>exact absurd (w2 rfl) (by decide)
  refine ee (n:=n) D fun y v ds D hy hyv=>?_
  refine AC h7 ?_
  refine ee (n:=n) D fun z v ds D hz hzv=>?_
  refine y9 h8 ?_
  refine aE (n:=n+1) ?_
  refine⟨by show vs.length < 1000000;exact ag ‹_› rfl,?_⟩
  refine k ⟨x0,some y,some z,false⟩ _ _ _ _ ⟨hn,hy,hz,(ff ·),fun h ξ=>?_,fun ξ ξ=>(nn ·.symm)⟩ ⟨_,_,_,_,rfl,hv,hyv,hzv⟩ D (.inr ⟨_,rfl⟩) (.inr ⟨_,rfl⟩)
  rw[ha] at h;cases h
 ·have ha:amb=false:=by
   cases amb with
   |false=>rfl
   |true=>exact absurd (w2 rfl) (by decide)
  refine ee (n:=n) D fun y v ds D hy hyv=>?_
  refine AC h7 ?_
  refine y9 h8 ?_
  refine aE (n:=n+1) ?_
  refine⟨by show vs.length < 1000000;exact ag ‹_› rfl,?_⟩
  refine k ⟨x0,some y,none,true⟩ _ _ _ _ ⟨hn,hy,trivial,fun ξ=>⟨(nn ·.symm),rfl,ha⟩,fun ξ h=>absurd rfl h,fun h1 h2=>?_⟩ ⟨_,_,_,_,rfl,hv,hyv,rfl⟩ D (.inr ⟨_,rfl⟩) (.inr ⟨_,rfl⟩)
  rcases w4 h1 h2 with h|h<;>cases h
theorem uy {K:Fl→St→Prop} {amb:Bool} {wd:T} (hw:wd∈[n8,bj,mS]):∀{js:List Nat} {ns:List Dc} {vs ds:List V} {x4 x5 x6 x7 x8:bB},aZ fP ns vs→(∀x∈ns,jQ amb (aW wd bj) x)→ns.length+js.length≤2→Dg ds→LV x4→LV x5→LV x6→LV x7→LV x8→
  (∀ns' vs ds x4 x5 x6 x7 x8,aZ fP ns' vs→(∀x∈ns',jQ amb (aW wd bj) x)→ns'.length=ns.length+js.length→Dg ds→K .nxt [.inh (.list ds),.v (In (fl amb eo)),.v (.str wd),.own (.list vs),x4,x5,x6,x7,x8])→
  cQ (fun x st K=>bQ st 4 (.v x) fun st=>aq TT (ab (n+3)) GG qa st K) (js.map In) [.inh (.list ds),.v (In (fl amb eo)),.v (.str wd),.own (.list vs),x4,x5,x6,x7,x8] K:=by
 intro js
 induction js with
 |nil=>intro ns vs ds x4 x5 x6 x7 x8 A hx hz D _ _ _ _ _ k;exact k ns vs ds _ _ _ _ _ A hx rfl D
 |cons j js ih=>
  intro ns vs ds x4 x5 x6 x7 x8 A hx hz D h4 h5 h6 h7 h8 k
  rw[List.length_cons] at hz
  have hl:=A.len
  refine Oy h4 ?_
  refine ee (n:=n) D fun x0 nv ds D hn hv=>?_
  refine NV h5 ?_
  refine be (n:=n+2) D (by decide) fun r ds D hr=>?_
  refine PH h6 ?_
  have go:∀W,P1 amb (aW wd bj) W→aq TT (ab (n+3)) GG (az 3 qa) [.inh (.list ds),.v (In (fl amb eo)),.v (.str wd),.own (.list vs),.v (In j),.v nv,.v (In W),x7,x8] fun fl st=>match fl with
    |.nxt=>cQ (fun x st K=>bQ st 4 (.v x) fun st=>aq TT (ab (n+3)) GG qa st K) (js.map In) st K
    |.cnt=>cQ (fun x st K=>bQ st 4 (.v x) fun st=>aq TT (ab (n+3)) GG qa st K) (js.map In) st K
    |.brk=>K .nxt st
    |.ret v=>K (.ret v) st:=fun W hW=>by
   refine GY (n:=n) (i0:=0) hW hn hv D h7 h8 (by lia) fun x v ds x7 x8 ok hv D h7 h8=>?_
   refine ih (ns:=ns++[x]) (A.snoc hv) ?_ (by rw[List.length_append];show ns.length+1+_≤_;exact kH ‹_›) D (.inr ⟨_,rfl⟩) (.inr ⟨_,rfl⟩) (.inr ⟨_,rfl⟩) h7 h8 ?_
   ·intro y hy
    rcases List.mem_append.mp hy with h|h
    ·exact hx y h
    ·rcases List.mem_cons.mp h with rfl|h
     ·exact ok
     ·cases h
   ·intro ns' vs ds x4 x5 x6 x7 x8 A hx hl D
    exact k ns' vs ds x4 x5 x6 x7 x8 A hx (by rw[hl,List.length_append];show ns.length+1+js.length=ns.length+(js.length+1);exact Qv) D
  have nocst:aW wd bj=false→aq TT (ab (n+3)) GG (az 2 qa) [.inh (.list ds),.v (In (fl amb eo)),.v (.str wd),.own (.list vs),.v (In j),.v nv,.v (In r),x7,x8] fun fl st=>match fl with
    |.nxt=>cQ (fun x st K=>bQ st 4 (.v x) fun st=>aq TT (ab (n+3)) GG qa st K) (js.map In) st K
    |.cnt=>cQ (fun x st K=>bQ st 4 (.v x) fun st=>aq TT (ab (n+3)) GG qa st K) (js.map In) st K
    |.brk=>K .nxt st
    |.ret v=>K (.ret v) st:=fun hc=>by
   cases amb with
   |true=>
    obtain⟨b,e1⟩:=OO hr
    first|refine ar (show aW wd [99,111,110,115,116]=false from hc) ?_|refine av (show aW wd [99,111,110,115,116]=false from hc) ?_|((conv=>whnf);rw[show aW wd [99,111,110,115,116]=false from hc];trace "FALLBACK")
    refine⟨trivial,?_⟩
    refine af e1 ?_
    exact go _ ⟨(by cases b<;>decide),(fun ξ=>by cases b<;>decide),(fun ξ h=>by cases b<;>cases h),(by intro zz;first|exact nn zz|exact nn zz.symm|exact ff zz|exact absurd zz List.not_mem_nil|cases zz)⟩
   |false=>
    first|refine ar (show aW wd [99,111,110,115,116]=false from hc) ?_|refine av (show aW wd [99,111,110,115,116]=false from hc) ?_|((conv=>whnf);rw[show aW wd [99,111,110,115,116]=false from hc];trace "FALLBACK")
    exact go r ⟨hr,(ff ·),(ff ·),fun ξ h=>by rw[hc] at h;cases h⟩
  rcases List.mem_cons.mp hw with e|hw
  ·cases e;exact nocst rfl
  rcases List.mem_cons.mp hw with e|hw
  ·cases e
   cases amb with
   |true=>
    obtain⟨W,e1,hW⟩:=Nf hr
    refine af e1 ?_
    exact go W ⟨by exact aj ‹_› rfl,fun ξ=>hW,fun ξ ξ=>rfl,(by intro zz;first|exact nn zz|exact nn zz.symm|exact ff zz|exact absurd zz List.not_mem_nil|cases zz)⟩
   |false=>
    obtain⟨b,e1⟩:=Nj hr
    refine⟨trivial,?_⟩
    refine af e1 ?_
    refine⟨trivial,?_⟩
    refine⟨trivial,?_⟩
    refine go (1+fl b 2) ⟨by cases b<;>decide,(ff ·),(ff ·),fun ξ ξ=>by cases b;exact .inl rfl;exact .inr rfl⟩
  rcases List.mem_cons.mp hw with e|hw
  ·cases e;exact nocst rfl
  cases hw
theorem yA {K:V→MO→Prop} {amb:Bool} (D:Dg ds) (k:∀d v ds',Dg ds'→cf d→cZ d v→K v (.list ds')):ab (n+4) 1615 [.hole,In (fl amb eo)] (some (0,.list ds)) (fun v m'=>eM m' fun m'=>K v m'):=by
 refine aa rfl rfl ?_
 refine be (n:=n+2) D (by decide) fun r ds D hr=>?_
 refine bc fun G=>?_;obtain⟨wd,e1,hw⟩:=dc (l:=[n8,bj,mS]) hr (by decide)
 refine G ?_;clear G;refine af e1 ?_
 refine be (n:=n+2) D (by decide) fun r ds D hr=>?_
 refine⟨trivial,?_⟩
 have e2:eW (.int (Int.ofNat 1+Int.ofNat r))=some ((List.range (1+r)).map In):=fh (r:=1+r) (by lia)
 refine af e2 ?_
 refine uy (n:=n) (amb:=amb) hw (js:=List.range (1+r)) .nil (fun ξ h=>absurd h List.not_mem_nil) (by rw[List.length_range];show 0+(1+r)≤2;lia) D (.inl rfl) (.inl rfl) (.inl rfl) (.inl rfl) (.inl rfl) fun ns vs ds x4 x5 x6 x7 x8 A hx hl D=>?_
 rw[List.length_range] at hl
 have hl:ns.length=0+(1+r):=hl
 refine aE (n:=n+1) ?_
 exact k (.var amb wd ns) _ ds D ⟨hw,fun h=>by rw[h] at hl;simp at hl;lia,by lia,hx⟩ ⟨_,_,rfl,A⟩
abbrev KD (K:V→MO→Prop) (ds:List V):Fl→St→Prop:=fun fl st=>match fl with
 |.nxt=>eM (bm (some (0,MO.list ds)) st) fun m'=>K .none m'
 |.ret v=>eM (bm (some (0,MO.list ds)) st) fun m'=>K v m'
 |_=>False
theorem je {K:V→MO→Prop} {ds0:List V} {x1 x3 x4 x5 x7:bB} {o:Nat} {d:De} {node:V} (ho:o < 2) (D:Dg ds) (hd:cf d) (hn:cZ d node) (k:∀s v ds',Dg ds'→cR s→eY s v→K v (.list ds')):
  aq TT (ab (n+5)) GG (az 5 cW.body) [.inh (.list ds),x1,.v (In o),x3,x4,x5,.v node,x7] (KD K ds0):=by
 match o,ho with
 |0,_=>exact k (.de false d) node ds D hd hn
 |1,_=>
  refine ca (n:=n+3) ?_
  exact k (.de true d) _ ds D hd ⟨_,_,rfl,hn⟩
noncomputable abbrev Nl:S:=GA (az 1 (xG (az 4 cW.body)))
theorem M9 {K:St→Prop} {a0 a1 a2 a3 a4 x5 a6 a7 u:bB} (h:LV x5) (c:K [a0,a1,a2,a3,a4,u,a6,a7]):bQ [a0,a1,a2,a3,a4,x5,a6,a7] 5 u K:=by rcases h with rfl|⟨_,rfl⟩<;>exact c
theorem yt {K:Fl→St→Prop} {a1 a2 a3 a6 a7:bB}:∀{js:List Nat} {ns:List Mb} {vs ds:List V} {x5:bB},aZ hH ns vs→(∀x∈ns,jl x)→ns.length+js.length≤3→Dg ds→LV x5→
  (∀ns vs ds x5,aZ hH ns vs→(∀x∈ns,jl x)→ns.length≤3→Dg ds→K .nxt [.inh (.list ds),a1,a2,a3,.own (.list vs),x5,a6,a7])→
  cQ (fun x st K=>bQ st 5 (.v x) fun st=>aq TT (ab (n+5)) GG Nl st K) (js.map In) [.inh (.list ds),a1,a2,a3,.own (.list vs),x5,a6,a7] K:=by
 intro js
 induction js with
 |nil=>intro ns vs ds x5 A hx hz D _ k;exact k ns vs ds _ A hx (by simpa using hz) D
 |cons j js ih=>
  intro ns vs ds x5 A hx hz D h5 k
  rw[List.length_cons] at hz
  have hl:=A.len
  refine M9 h5 ?_
  refine be (n:=n+4) D (by decide) fun r ds D hr=>?_
  refine bc fun G=>?_;obtain⟨w,raw,e1,hk⟩:=yP hr
  refine G ?_;clear G;refine af e1 ?_
  refine lR (n:=n+1) D fun o v ds D ho hv=>?_
  refine ca (n:=n+3) ?_
  refine⟨by show vs.length < 1000000;lia,?_⟩
  refine ih (ns:=ns++[⟨w,raw,o⟩]) (A.snoc ⟨_,_,rfl,hv⟩) ?_ (by rw[List.length_append];show ns.length+1+_≤_;exact kH ‹_›) D (.inr ⟨_,rfl⟩) k
  intro y hy
  rcases List.mem_append.mp hy with h|h
  ·exact hx y h
  ·rcases List.mem_cons.mp h with rfl|h
   ·exact⟨hk,ho⟩
   ·cases h
theorem uN {K:V→MO→Prop} (D:Dg ds) (k:∀s v ds',Dg ds'→cR s→eY s v→K v (.list ds')):ab (n+6) 1622 [.hole] (some (0,.list ds)) (fun v m'=>eM m' fun m'=>K v m'):=by
 refine aa rfl rfl ?_
 refine be (n:=n+4) D (by decide) fun rN ds D hp=>?_
 have go:∀(rN:Nat),(∀o amb ds,o < 2→Dg ds→aq TT (ab (n+5)) GG (az 4 cW.body) [.inh (.list ds),.v (In rN),.v (In o),.v (In (fl amb eo)),.un,.un,.un,.un] (KD K ds))→
   ∀ds0,aq TT (ab (n+5)) GG (az 2 cW.body) [.inh (.list ds),.v (In rN),.un,.un,.un,.un,.un,.un] (KD K ds0):=fun rN H ds0=>by
  refine be (n:=n+4) D (by decide) fun o ds D ho=>?_
  refine be (n:=n+4) D (by decide) fun r ds D hr=>?_
  obtain⟨amb,e1⟩:=zy hr
  refine⟨trivial,?_⟩
  refine af e1 ?_
  refine⟨trivial,?_⟩
  exact H o amb ds ho D
 have enum:∀(o:Nat) (amb:Bool) (ds:List V) (pk:bB),o < 2→Dg ds→∀ds0,aq TT (ab (n+5)) GG (xG (az 4 cW.body)) [.inh (.list ds),pk,.v (In o),.v (In (fl amb eo)),.un,.un,.un,.un] fun fl st=>match fl with
   |.nxt=>aq TT (ab (n+5)) GG (az 5 cW.body) st (KD K ds0)
   |.brk=>KD K ds0 .brk st
   |.cnt=>KD K ds0 .cnt st
   |.ret v=>KD K ds0 (.ret v) st:=fun o amb ds pk ho D ds0=>by
  refine be (n:=n+4) D (by decide) fun r ds D hr=>?_
  refine af (fh (by exact eJ ‹_› rfl)) ?_
  refine yt (n:=n) (js:=List.range r) .nil (fun ξ h=>absurd h List.not_mem_nil) (by rw[List.length_range];show 0+r≤3;lia) D (.inl rfl) fun ns vs ds x5 A hx hz D=>?_
  refine be (n:=n+4) D (by decide) fun r ds D hr=>?_
  refine bc fun G=>?_;obtain⟨x,e1,hn⟩:=dc (l:=names) hr (by decide)
  refine G ?_;clear G;refine af e1 ?_
  refine be (n:=n+4) D (by decide) fun r ds D hr=>?_
  obtain⟨cst,rfl⟩:=Qp hr
  refine af (uP cst) ?_
  refine⟨trivial,?_⟩
  refine⟨trivial,?_⟩
  refine aE (n:=n+3) ?_
  exact je (d:=.enum amb cst x ns) ho D ⟨hn,hz,hx⟩ ⟨_,_,rfl,A⟩ k
 refine Q0 hp ?_ ?_ ?_ ?_ ?_ ?_ ?_
 ·exact j7 (n:=n+1) D k
 ·exact j7 (n:=n+1) D k
 ·exact go 2 (fun o amb ds ho D=>enum o amb ds _ ho D _) _
 ·exact go 3 (fun o amb ds ho D=>enum o amb ds _ ho D _) _
 ·refine go 4 (fun o amb ds ho D=>?_) _
  refine be (n:=n+4) D (by decide) fun r ds D hr=>?_
  refine bc fun G=>?_;obtain⟨x,e1,hn⟩:=dc (l:=names) hr (by decide)
  refine G ?_;clear G;refine af e1 ?_
  refine pT (n:=n) D fun xs tv ds D hx hz ht=>?_
  refine ee (n:=n+2) D fun y yv ds D hy hyv=>?_
  refine aE (n:=n+3) ?_
  exact je (d:=.alias amb x xs y) ho D ⟨hn,hy,hz,hx⟩ ⟨_,_,_,rfl,ht,hyv⟩ k
 ·refine go 5 (fun o amb ds ho D=>?_) _
  refine pT (n:=n) D fun xs tv ds D hx hz ht=>?_
  refine rW (n:=n+1) D fun bs l bv ds D hb hbz A hbv=>?_
  refine ca (n:=n+3) ?_
  refine be (n:=n+4) D (by decide) fun r ds D hr=>?_
  refine bc fun G=>?_;obtain⟨x,e1,hn⟩:=dc (l:=names) hr (by decide)
  refine G ?_;clear G;refine af e1 ?_
  refine aE (n:=n+3) ?_
  subst hbv
  exact je (d:=.iface amb x xs bs) ho D ⟨hn,hz,hx,hbz,hb⟩ ⟨_,_,_,_,_,_,rfl,ht,A,rfl⟩ k
 ·refine go 6 (fun o amb ds ho D=>?_) _
  refine yA (n:=n+1) D fun d v ds D hd hv=>?_
  exact je ho D hd hv k
structure Nm (l:List V) (k:Nat):Prop where
 z:l.length=k
 a:∀v∈l,∃x,x < 1000000007∧v=In x
theorem xQ {K:List V→St→Prop}:∀{is:List Int} {acc:List V},(∀v∈acc,∃x,x < 1000000007∧v=In x)→acc.length+is.length≤100→
  (∀l,Nm l (acc.length+is.length)→K l [])→
  j5 (fun x r K=>ay TT (ab n) (.bin .mod (.loc 0) (.lit (.int (.ofNat 1000000007)))) (.v x::r) fun y st'=>f6 (.v x::r) st'=true∧K y st'.tail) (is.map V.int) acc [] K:=by
 intro is
 induction is with
 |nil=>intro acc h _ k;exact k acc ⟨rfl,h⟩
 |cons i is ih=>
  intro acc h hz k
  rw[List.length_cons] at hz
  refine⟨by show acc.length < 1000000;lia,?_⟩
  refine⟨trivial,?_⟩
  refine⟨rfl,?_⟩
  have h0:=Int.emod_nonneg i (show(1000000007:Int)≠0 by decide)
  have h1:=Int.emod_lt_of_pos i (show(0:Int) < 1000000007 by decide)
  refine ih (acc:=acc++[.int (i % 1000000007)]) ?_ (by rw[List.length_append];show acc.length+1+_≤_;lia) fun l hl=>?_
  ·intro v hv
   rcases List.mem_append.mp hv with hv|hv
   ·exact h v hv
   ·rcases List.mem_cons.mp hv with rfl|hv
    ·refine⟨(i % 1000000007).toNat,by lia,?_⟩
     show V.int _=V.int (((i % 1000000007).toNat:Nat):Int)
     rw[Int.toNat_of_nonneg h0]
    ·cases hv
  ·refine k l ⟨by rw[hl.z,List.length_append];show acc.length+1+is.length=acc.length+(is.length+1);lia,hl.a⟩
noncomputable abbrev KN:S:=pI (az 3 zG.body)
noncomputable abbrev NW:S:=az 1 KN
theorem wE {a0 a1 a2 a5 a6 a7 a8 a9 a10:bB} {K:Fl→St→Prop}:∀{j g x:Nat} {ds:List V},x < 2 ^ j→Dg ds→ds.length+j≤100→j < g→
  (∀ds,Dg ds→K .nxt [a0,a1,a2,.v (In 0),.own (.list ds),a5,a6,a7,a8,a9,a10])→
  wh n NW g [a0,a1,a2,.v (In x),.own (.list ds),a5,a6,a7,a8,a9,a10] K:=by
 intro j
 induction j with
 |zero=>
  intro g x ds hx D hz hg k
  have:x=0:=by simpa using hx
  subst this
  refine aK hg ?_
  exact k ds D
 |succ j ih=>
  intro g x ds hx D hz hg k
  refine aK (by lia) ?_
  by_cases h0:x=0
  ·subst h0;exact k ds D
  ·refine ar (eQ (a:=0) (b:=x) (Nat.pos_of_ne_zero h0)) ?_
   refine⟨trivial,?_⟩
   refine⟨trivial,?_⟩
   refine⟨by rw[List.length_append];show 1+ds.length≤1000000;lia,?_⟩
   refine⟨trivial,?_⟩
   refine ih (x:=x / 2) (ds:=In (x % 1011 % 60)::ds) ?_ ⟨by show ds.length+1≤_;exact vr ‹_›,?_⟩ (by show ds.length+1+j≤_;exact kH ‹_›) (by exact gC ‹_›) k
   ·rw[Nat.pow_succ] at hx
    lia
   ·intro v hv
    rcases List.mem_cons.mp hv with rfl|hv
    ·exact⟨_,rfl⟩
    ·exact D.a v hv
abbrev NI (x:bB):Prop:=x=.un∨(∃v,x=.v v)∨∃m,x=.own m
theorem LD {K:St→Prop} {a0 a1 a2 x3 x4 a5 a6 a7 a8 a9 a10:bB} {v:V} (h:LV x3) (c:K [a0,a1,a2,.v v,x4,a5,a6,a7,a8,a9,a10]):fF [3] v [a0,a1,a2,x3,x4,a5,a6,a7,a8,a9,a10] K:=by
 rcases h with rfl|⟨_,rfl⟩<;>exact c
theorem Il {K:St→Prop} {a0 a1 a2 a3 x4 a5 a6 a7 a8 a9 a10 u:bB} (h:NI x4) (c:K [a0,a1,a2,a3,u,a5,a6,a7,a8,a9,a10]):bQ [a0,a1,a2,a3,x4,a5,a6,a7,a8,a9,a10] 4 u K:=by
 rcases h with rfl|⟨_,rfl⟩|⟨_,rfl⟩<;>exact c
theorem v0 {a0 a1 a5 a6 a7 a8 a9 a10:bB} {K:Fl→St→Prop}:∀{l:List V} {ss:List Sm} {vs:List V} {x3 x4:bB},(∀v∈l,∃x,x < 1000000007∧v=In x)→aZ eY ss vs→(∀s∈ss,cR s)→ss.length+l.length≤100→LV x3→NI x4→
  (∀ss' vs x3 x4,aZ eY ss' vs→(∀s∈ss',cR s)→ss'.length=ss.length+l.length→LV x3→NI x4→K .nxt [a0,a1,.own (.list vs),x3,x4,a5,a6,a7,a8,a9,a10])→
  cQ (fun x st K=>fF [3] x st fun st=>aq TT (ab (n+6)) GG KN st K) l [a0,a1,.own (.list vs),x3,x4,a5,a6,a7,a8,a9,a10] K:=by
 intro l
 induction l with
 |nil=>intro ss vs x3 x4 _ A hx _ h3 h4 k;exact k ss vs x3 x4 A hx rfl h3 h4
 |cons v l ih=>
  intro ss vs x3 x4 hl A hx hz h3 h4 k
  rw[List.length_cons] at hz
  obtain⟨x,hx1,rfl⟩:=hl v (List.mem_cons_self ..)
  have hla:=A.len
  refine LD h3 ?_
  refine Il h4 ?_
  refine wE (n:=n+6) (j:=30) (ds:=[]) (Nat.lt_of_lt_of_le hx1 (by decide)) ⟨by decide,fun ξ h=>absurd h List.not_mem_nil⟩ (by decide) (by rw[iO];decide) fun ds D=>?_
  refine uN (n:=n) D fun s v ds D hs hv=>?_
  refine⟨by show vs.length < 1000000;lia,?_⟩
  refine ih (ss:=ss++[s]) (fun v hv=>hl v (List.mem_cons_of_mem _ hv)) (A.snoc hv) ?_ (by rw[List.length_append];show ss.length+1+_≤_;exact kH ‹_›) (.inr ⟨_,rfl⟩) (.inr (.inr ⟨_,rfl⟩)) fun ss' vs x3 x4 A hx hl h3 h4=>?_
  ·intro y hy
   rcases List.mem_append.mp hy with h|h
   ·exact hx y h
   ·rcases List.mem_cons.mp h with rfl|h
    ·exact hs
    ·cases h
  ·exact k ss' vs x3 x4 A hx (by rw[hl,List.length_append];show ss.length+1+l.length=ss.length+(l.length+1);exact Qv) h3 h4
theorem O7 {is:List Int} (hz:is.length≤63):oq (.list (is.map V.int)) .none (In 8)=some (.list ((is.take 8).map V.int)):=by
 show(if (is.map V.int).length≤bA∧0≤bA∧8≤bA then some (V.list (((is.map V.int).take 8).drop 0)) else none)=_
 rw[if_pos ⟨by rw[List.length_map];show _≤1000000;exact ag ‹_› rfl,by decide,by decide⟩,← List.map_take];rfl
theorem NA {k:Nat} (hk:k≤8):oq (.list [In 67,In 6,In 23]) (In k) .none=some (.list ([In 67,In 6,In 23].drop k)):=by
 show(if [In 67,In 6,In 23].length≤bA∧k≤bA∧[In 67,In 6,In 23].length≤bA then some (V.list (([In 67,In 6,In 23].take 3).drop k)) else none)=_
 rw[if_pos ⟨by decide,by show _≤1000000;exact ag ‹_› rfl,by decide⟩];rfl
theorem HM (k:Nat):∀v∈[In 67,In 6,In 23].drop k,∃x,x < 1000000007∧v=In x:=fun v hv=>by
 have hv:=List.mem_of_mem_drop hv
 rcases List.mem_cons.mp hv with rfl|hv
 ·exact⟨67,by decide,rfl⟩
 rcases List.mem_cons.mp hv with rfl|hv
 ·exact⟨6,by decide,rfl⟩
 rcases List.mem_cons.mp hv with rfl|hv
 ·exact⟨23,by decide,rfl⟩
 cases hv
theorem ul {ss:List Sm}:aB [] (ss.map fun s=>fb s++[10])=eu ss:=by
 unfold eu
 rw[da,da]
 induction ss with
 |nil=>rfl
 |cons s r ih=>
  show(fb s++[10])++(r.map fun s=>fb s++[10]).flatten=fb s++([10]++(cy r).flatten)
  rw[ih,List.append_assoc]
theorem AE {s0 x3 x4:bB} {s:Sm} {r:List Sm} {vs:List V} {nums:bB} {K:KT} (A:aZ eY (s::r) vs) (hx:∀y∈s::r,cR y) (hs:(s::r).length≤9) (h3:LV x3) (h4:NI x4) (c:K (.bool true) none):
  aq TT (ab (n+19)) GG (az 4 zG.body) [s0,nums,.own (.list vs),x3,x4,.un,.un,.un,.un,.un,.un] (KF K):=by
 have hll:=A.len
 have hs100:(s::r).length≤100:=by exact ag ‹_› rfl
 have hF:lD (s::r) (ao 40 (.str []) vs 0 (In 0)):=⟨_,_,rfl,A⟩
 have eT:∀t:T,Do .ne (.str t) (.str t)=some false:=fun t=>by show qj (xW (.str t) (.str t))=_;rw[bW];rfl
 refine ca (n:=n+17) ?_
 refine ku (n:=n+18) ?_
 refine⟨rfl,?_⟩
 refine⟨.inl ⟨[40,8,68,69,70,66,67,65,64,100,81,41],rfl,by decide⟩,?_⟩
 refine⟨⟨rfl,aw rfl⟩,?_⟩
 refine tJ (n:=n+6) hF hx hs100 ?_
 refine⟨rfl,?_⟩
 refine⟨rfl,?_⟩
 refine nH (item:=eY) (tx:=fun s=>fb s++[10]) (P:=cR) (c0:=[]) (fun {y v K'} hp hv k=>?_) A hx (ts:=[]) (by show 0+_ < _;lia) ?_
 ·have hy:=rk hp
  refine Md (n:=n+12) hp hv ?_
  refine⟨ae (by(first|apply aj|apply ag);(· repeat' first|assumption|apply ak|exact Nat.le_refl _);rfl),?_⟩
  exact⟨rfl,k⟩
 rw[List.nil_append]
 refine af (gJ [] (by decide) rfl) ?_
 have e1:aB [] ((s::r).map fun s=>fb s++[10])=eu (s::r):=ul
 rw[e1]
 have hlf:=qo hx hs100
 refine⟨by show(eu (s::r)).length≤1000000;exact ag ‹_› rfl,?_⟩
 refine af (eT _) ?_
 refine pq (n:=n+17) hx hs fun ts e ht hts=>?_
 refine j8 (n:=n) hx hs100 (by show _≤1000000;exact ag ‹_› rfl) ht fun v' hv'=>?_
 have S1:=na hx hs100 hF hv'
 have hv2:=hv'
 refine bc fun G=>?_;obtain⟨p1,l1,rfl,A1⟩:=hv'
 refine G ?_;clear G;refine sD (n:=n+12) S1 ?_
 refine tJ (n:=n+6) hv2 hx hs100 ?_
 refine af (r:=some (PR 0 0)) rfl ?_
 first|refine ar (fo) ?_|refine av (fo) ?_|((conv=>whnf);rw[fo];trace "FALLBACK")
 refine lu (n:=n+18) ht hts fun m hm hml=>?_
 rw[t4 hx] at hm
 refine j8 (n:=n) hx hs100 (by show _≤1000000;exact ag ‹_› rfl) hm fun v'' hv''=>?_
 have S2:=na hx hs100 hF hv''
 refine bc fun G=>?_;obtain⟨p2,l2,rfl,A2⟩:=hv''
 refine G ?_;clear G;refine sD (n:=n+12) S2 ?_
 exact c
theorem Fb {is:List Int} {K:KT} (hz:is.length≤63) (c:K (.bool true) none):ab (n+20) 1716 [.list (is.map V.int)] none K:=by
 refine aa rfl rfl ?_
 refine af (O7 hz) ?_
 refine⟨rfl,?_⟩
 have h8:(is.take 8).length≤8:=by rw[List.length_take];omega
 refine xQ (n:=n+19) (is:=is.take 8) (acc:=[]) (fun ξ h=>absurd h List.not_mem_nil) (by show 0+_≤_;omega) fun l hl=>?_
 have hll:l.length≤8:=by have:=hl.z;rw[this];show 0+_≤_;omega
 have e1:dJ (.list l)=some l.length:=if_pos (by show _≤1000000;exact ag ‹_› rfl)
 refine af (r:=(dJ (.list l)).map fun n=>In n) (by rw[e1];rfl) ?_
 refine af (NA hll) ?_
 have hd:([In 67,In 6,In 23].drop l.length).length=3 - l.length:=by rw[List.length_drop];rfl
 have hln:(l++[In 67,In 6,In 23].drop l.length).length=l.length+(3 - l.length):=by rw[List.length_append,hd]
 refine⟨by show(l++_).length≤1000000;omega,?_⟩
 refine v0 (n:=n+13) (l:=l++[In 67,In 6,In 23].drop l.length) (ss:=[]) (vs:=[]) ?_ .nil (fun ξ h=>absurd h List.not_mem_nil) (by show 0+_≤_;omega) (.inl rfl) (.inl rfl) fun ss vs x3 x4 A hx hs h3 h4=>?_
 ·intro v hv
  rcases List.mem_append.mp hv with hv|hv
  ·exact hl.a v hv
  ·exact HM _ v hv
 ·have hs:ss.length=0+_:=hs
  rw[hln] at hs
  cases ss with
  |nil=>simp at hs;omega
  |cons s r=>exact AE (n:=n) A hx (by omega) h3 h4 c
end
end Mine.L
namespace Mine
open PySem PySem.W PySem.Calls PyProof.Rows
theorem yz {w:World} {Z:aI} {vs:List Value} {ns:List Int} (H:IntsAre vs ns):aH w Z (ns.map V.int) vs:=by
 induction H with
 |nil=>exact .nil
 |cons n t _ ih=>exact .cons (.int n t) ih
theorem LZ {vs:List Value} {ns:List Int} (H:IntsAre vs ns):vs.length=ns.length:=by
 induction H with
 |nil=>rfl
 |cons n t _ ih=>rw[List.length_cons,List.length_cons,ih]
theorem GW:vt 20 callerA:=⟨rfl,by decide+kernel,by decide+kernel⟩
theorem yT:pK:=by
 intro w s₁ a vs ns Fa hg hl hi hn ha hs
 have C:=ll (os:=s₁.os) (fns:=MY) (g:=L.GG) (Jp w.params) Fa (fun f fn h=>Ma w (kU h)) 20 callerA GW
 have hlaw:kb TT MY L.GG 20 1716 [.list (ns.map V.int)] none (fun v ξ=>v=.bool true):=by
  have:=L.Fb (n:=0) (is:=ns) (K:=fun v ξ=>v=.bool true) (by lia) rfl
  unfold L.ab at this
  exact this
 obtain⟨o,ho,hcls,m,hdata⟩:=hl
 have R:aA w s₁.heap.get? (.list (ns.map V.int)) (.ref a):=.list ho hcls hdata (yz hi)
 have ok:=C.ok 1716 [.list (ns.map V.int)] none _ [.ref a] s₁.heap.get? (fun ξ=>none) 0 0 s₁ (fun ξ ξ h=>h) (fun ξ ξ h=>h) hg rfl ⟨.cons R .nil,fun ξ=>(by intro zz;first|exact nn zz|exact nn zz.symm|exact ff zz|exact absurd zz List.not_mem_nil|cases zz)⟩ (fun ξ h=>(by first|exact nn h|exact nn h.symm|exact ff h|exact absurd h List.not_mem_nil|cases h)) hlaw
 refine wpAny_call (codeAny_mono ok fun r s' p=>?_)
 obtain⟨val,v,mo',Z',rfl,P⟩:=p
 have e:v=.bool true:=P.post
 subst e
 have rep:=P.rep
 refine⟨?_,fun b o h=>P.keep b o (by intro zz;first|exact nn zz|exact nn zz.symm|exact ff zz|exact absurd zz List.not_mem_nil|cases zz) h,P.os,P.gens⟩
 cases rep
 rfl
abbrev LW:OpenLaw:=PySem.Challenge.rw_qd0100_01
abbrev bz (x:Bool) {a b:Bool} (_:x=(a&&b)):Bool:=a
abbrev bu (x:Bool) {a b:Bool} (_:x=(a&&b)):Bool:=b
noncomputable def OZ (l:OpenLaw):Bool:=bu (l.wellSaid) rfl
noncomputable def JB (l:OpenLaw):Bool:=bz (l.wellSaid) rfl
noncomputable def NY (l:OpenLaw):Bool:=bu (JB l) rfl
noncomputable def H4 (l:OpenLaw):Bool:=bz (JB l) rfl
noncomputable def Nc (l:OpenLaw):Bool:=bu (H4 l) rfl
noncomputable def LO (l:OpenLaw):Bool:=bz (H4 l) rfl
noncomputable def N3 (l:OpenLaw):Bool:=bu (LO l) rfl
noncomputable def KZ (l:OpenLaw):Bool:=bz (LO l) rfl
noncomputable def Nz (l:OpenLaw):Bool:=bu (KZ l) rfl
noncomputable def H7 (l:OpenLaw):Bool:=bz (KZ l) rfl
noncomputable def Ol (l:OpenLaw):Bool:=bu (H7 l) rfl
noncomputable def Mw (l:OpenLaw):Bool:=bz (H7 l) rfl
noncomputable def OE (l:OpenLaw):Bool:=bu (Mw l) rfl
noncomputable def Jk (l:OpenLaw):Bool:=bz (Mw l) rfl
noncomputable def Pv (l:OpenLaw):Bool:=bu (Jk l) rfl
noncomputable def I6 (l:OpenLaw):Bool:=bz (Jk l) rfl
noncomputable def NR (l:OpenLaw):Bool:=bu (I6 l) rfl
noncomputable def KL (l:OpenLaw):Bool:=bz (I6 l) rfl
noncomputable def KS (l:OpenLaw):Bool:=bu (KL l) rfl
noncomputable def El (l:OpenLaw):Bool:=bz (KL l) rfl
noncomputable def L5 (l:OpenLaw):Bool:=bu (El l) rfl
noncomputable def DR (l:OpenLaw):Bool:=bz (El l) rfl
noncomputable def Ka (l:OpenLaw):Bool:=bu (DR l) rfl
noncomputable def Ef (l:OpenLaw):Bool:=bz (DR l) rfl
noncomputable def Mp (l:OpenLaw):Bool:=bu (Ef l) rfl
noncomputable def D9 (l:OpenLaw):Bool:=bz (Ef l) rfl
noncomputable def Ke (l:OpenLaw):Bool:=bu (D9 l) rfl
noncomputable def Dj (l:OpenLaw):Bool:=bz (D9 l) rfl
noncomputable def J8 (l:OpenLaw):Bool:=bu (Dj l) rfl
noncomputable def DF (l:OpenLaw):Bool:=bz (Dj l) rfl
noncomputable def Lq (l:OpenLaw):Bool:=bu (DF l) rfl
noncomputable def Ec (l:OpenLaw):Bool:=bz (DF l) rfl
noncomputable def Jg (l:OpenLaw):Bool:=bu (Ec l) rfl
noncomputable def DI (l:OpenLaw):Bool:=bz (Ec l) rfl
noncomputable def Le (l:OpenLaw):Bool:=bu (DI l) rfl
noncomputable def Qe (l:OpenLaw):Bool:=bz (DI l) rfl
noncomputable def Ng (l:OpenLaw):Bool:=bu (l.row.wellSaid) rfl
noncomputable def OS (l:OpenLaw):Bool:=bz (l.row.wellSaid) rfl
noncomputable def PQ (l:OpenLaw):Bool:=bu (OS l) rfl
noncomputable def Nx (l:OpenLaw):Bool:=bu (l.row.partSaid) rfl
noncomputable def La (l:OpenLaw):Bool:=bz (l.row.partSaid) rfl
noncomputable def Ot (l:OpenLaw):Bool:=bu (La l) rfl
noncomputable def Lk (l:OpenLaw):Bool:=bz (La l) rfl
noncomputable def Pd (l:OpenLaw):Bool:=bu (Lk l) rfl
noncomputable def MA (l:OpenLaw):Bool:=bz (Lk l) rfl
noncomputable def Pg (l:OpenLaw):Bool:=bu (MA l) rfl
noncomputable def Ja (l:OpenLaw):Bool:=bz (MA l) rfl
noncomputable def Pn (l:OpenLaw):Bool:=bu (Ja l) rfl
noncomputable def JF (l:OpenLaw):Bool:=bz (Ja l) rfl
noncomputable def Og (l:OpenLaw):Bool:=bu (JF l) rfl
noncomputable def Kh (l:OpenLaw):Bool:=bz (JF l) rfl
noncomputable def Nn (l:OpenLaw):Bool:=bu (Kh l) rfl
noncomputable def IO (l:OpenLaw):Bool:=bz (Kh l) rfl
noncomputable def Oo (l:OpenLaw):Bool:=bu (IO l) rfl
noncomputable def KR (l:OpenLaw):Bool:=bz (IO l) rfl
noncomputable def OV (l:OpenLaw):Bool:=bu (KR l) rfl
noncomputable def Iy (l:OpenLaw):Bool:=bz (KR l) rfl
noncomputable def IJ (l:OpenLaw):Bool:=bu (Iy l) rfl
noncomputable def Dr (l:OpenLaw):Bool:=bz (Iy l) rfl
noncomputable def Kd (l:OpenLaw):Bool:=bu (Dr l) rfl
noncomputable def Dw (l:OpenLaw):Bool:=bz (Dr l) rfl
noncomputable def IA (l:OpenLaw):Bool:=bu (Dw l) rfl
noncomputable def DZ (l:OpenLaw):Bool:=bz (Dw l) rfl
noncomputable def Jc (l:OpenLaw):Bool:=bu (DZ l) rfl
noncomputable def PY (l:OpenLaw):Bool:=bz (DZ l) rfl
noncomputable def ON (p:Program):Bool:=bu (looksOpen p) rfl
noncomputable def J2 (p:Program):Bool:=bz (looksOpen p) rfl
noncomputable def Nh (p:Program):Bool:=bu (J2 p) rfl
noncomputable def LC (p:Program):Bool:=bz (J2 p) rfl
noncomputable def OB (p:Program):Bool:=bu (LC p) rfl
noncomputable def Kb (p:Program):Bool:=bz (LC p) rfl
noncomputable def Ob (p:Program):Bool:=bu (Kb p) rfl
noncomputable def RP (p:Program):Bool:=bz (Kb p) rfl
theorem Hh:OZ LW=true:=by kernel_rfl
theorem G5:NY LW=true:=by kernel_rfl
theorem FF:Nc LW=true:=by kernel_rfl
theorem GK:N3 LW=true:=by kernel_rfl
theorem GT:Nz LW=true:=by kernel_rfl
theorem FP:Ol LW=true:=by kernel_rfl
theorem GR:OE LW=true:=by kernel_rfl
theorem Hk:Pv LW=true:=by kernel_rfl
theorem GH:NR LW=true:=by kernel_rfl
theorem BX:KS LW=true:=by kernel_rfl
theorem BE:L5 LW=true:=by kernel_rfl
theorem Bp:Ka LW=true:=by kernel_rfl
theorem B0:Mp LW=true:=by kernel_rfl
theorem Cl:Ke LW=true:=by kernel_rfl
theorem BM:J8 LW=true:=by kernel_rfl
theorem BW:Lq LW=true:=by kernel_rfl
theorem Bw:Jg LW=true:=by kernel_rfl
theorem B9:Le LW=true:=by kernel_rfl
theorem HA:Ng LW=true:=by kernel_rfl
theorem E0:PQ LW=true:=by kernel_rfl
theorem Gi:Nx LW=true:=by kernel_rfl
theorem GJ:Ot LW=true:=by kernel_rfl
theorem Fu:Pd LW=true:=by kernel_rfl
theorem G8:Pg LW=true:=by kernel_rfl
theorem HC:Pn LW=true:=by kernel_rfl
theorem E4:Og LW=true:=by kernel_rfl
theorem F1:Nn LW=true:=by kernel_rfl
theorem G4:Oo LW=true:=by kernel_rfl
theorem EU:OV LW=true:=by kernel_rfl
theorem Bu:IJ LW=true:=by kernel_rfl
theorem Ce:Kd LW=true:=by kernel_rfl
theorem CB:IA LW=true:=by kernel_rfl
theorem Ch:Jc LW=true:=by kernel_rfl
theorem Fh:ON P0=true:=by kernel_rfl
theorem FJ:Nh P0=true:=by kernel_rfl
theorem Hq:OB P0=true:=by kernel_rfl
theorem HD:Ob P0=true:=by kernel_rfl
theorem Jf:RP P0=true:=by kernel_rfl
theorem cu {a b:Bool} (h:a=true) (k:b=true):(a&&b)=true:=by rw[h,k];rfl
theorem A8:looksOpen P0=true:=cu (cu (cu (cu (Jf) HD) Hq) FJ) Fh
theorem Hx:LW.row.partSaid=true:=cu (cu (cu (cu (cu (cu (cu (cu (cu (cu (cu (cu (cu (A8) Ch) CB) Ce) Bu) EU) G4) F1) E4) HC) G8) Fu) GJ) Gi
theorem GP:LW.row.wellSaid=true:=cu (cu (Hx) E0) HA
theorem zY:LW.wellSaid=true:=cu (cu (cu (cu (cu (cu (cu (cu (cu (cu (cu (cu (cu (cu (cu (cu (cu (cu (GP) B9) Bw) BW) BM) Cl) B0) Bp) BE) BX) GH) Hk) GR) FP) GT) GK) FF) G5) Hh
end Mine
theorem PySem.Challenge.cw_qd0100_01_holds : PySem.Challenge.rw_qd0100_01.Holds := by
  exact PySem.W.holds_law Mine.zY (fun said => Mine.ve said (by w_witness2) Mine.yT)
