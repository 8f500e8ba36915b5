import PyProof.Rows.All
import KE.KItem
import KE.KDictSum
import KE.KSortTup
import KE.KTryMore
import Wide.FinOn
import OpenK.AllK
import Wide.All
import Lean
import PySem.Challenge.RW_sy0003_01
section
open PySem PySem.W PyProof.Rows PySem.Calls
set_option Elab.async false
set_option maxRecDepth 100000
set_option maxHeartbeats 8000000
namespace Mine
theorem eL{α:Sort _}{p:α→Prop}{a':α}:(∃a,a'=a∧p a)↔p a':=exists_eq_left'
theorem oI{α:Type _}(a b:α):(some a=some b)=(a=b):=Option.some.injEq a b
theorem gZ{α:Type _}{a:α}{l:List α}:(a::l)[0]?=some a:=rfl
theorem gS{α:Type _}{a:α}{l:List α}{i:Nat}:(a::l)[i+1]?=l[i]?:=rfl
theorem row_said:Fast.tw17960256430627541270 (Fast.tw2368527892694137696 PySem.Challenge.rw_sy0003_01)=true:=by kernel_rfl
theorem is_said:OpenLaw.wellSaid PySem.Challenge.rw_sy0003_01=true:=by
 rw[Fast.te9446332074065402090]
 unfold Fast.tw9446332074065402090
 rw[row_said]
 kernel_rfl
noncomputable def tR(st:SharedT→Thread→Option (SharedT×Thread)) (ok:Thread→Bool):Nat→SharedT→Thread→Option SharedT
 | 0,_,_=>none
 | n+1,s,t=>match through t with
  | true=>some s
  | false=>match ok t with
   | false=>none
   | true=>match st s t with
    | some (s',t')=>tR st ok n s' t'
    | none=>none
theorem cT{tb:String→Option Builtin}{p:Program}{w:World}{qB:Nat}{ann:Option Value}:∀{n:Nat}{s s':SharedT}{t:Thread},tR (stepT (denote tb) p w) (stepOk qB ann) n s t=some s'→topRun tb p w qB ann n s.abs t=some s'.abs
 | 0,_,_,_,h=>by cases h
 | n+1,s,s',t,h=>by
  unfold tR at h
  unfold topRun
  cases he:through t with
  | true=>rw[he] at h; cases h; rfl
  | false =>
   rw[he] at h
   cases hk:stepOk qB ann t with
   | false=>rw[hk] at h; cases h
   | true =>
    rw[hk] at h
    cases hs:stepT (denote tb) p w s t with
    | none=>rw[hs] at h; cases h
    | some r=>obtain⟨j2,a5g⟩:=r; rw[hs] at h; dsimp only; rw[stepT_spec hs]; exact cT h
noncomputable def cU:List Obj→BT→Nat→Option BT
 | [],t,_=>some t
 | o::l,t,n=>match ((t.ins n o).get n).isSome with
  | true=>cU l (t.ins n o) (n+1)
  | false=>none
theorem Wy(life:Life):∀{l:List Obj}{t t':BT}{n:Nat},cU l t n=some t'→(absHeap t' (n+l.length) life).objs=(absHeap t n life).objs++l.toArray
 | [],t,t',n,h=>by cases h; simp
 | o::l,t,t',n,h=>by
  unfold cU at h
  cases hs:((t.ins n o).get n).isSome with
  | false=>rw[hs] at h; cases h
  | true =>
   rw[hs] at h
   have:=Wy life h
   rw[List.length_cons,show n+(l.length+1)=n+1+l.length by omega,this,absHeap_ins hs]
   show(absHeap t n life).objs.push o++l.toArray=_
   simp
noncomputable def toT(s:Shared):Option SharedT:=match cU s.heap.objs.toList .nil 0 with
 | some t=>some ⟨t,s.heap.objs.size,s.heap.life,s.gens,s.drawn,s.toks,s.os⟩
 | none=>none
theorem qC{s:Shared}{s':SharedT}(h:toT s=some s'):s'.abs=s:=by
 unfold toT at h
 cases hl:cU s.heap.objs.toList .nil 0 with
 | none=>rw[hl] at h; cases h
 | some t =>
  rw[hl] at h
  cases h
  have:=Wy s.heap.life hl
  obtain⟨⟨objs,life⟩,gens,drawn,toks,os⟩:=s
  show Shared.mk (Heap.mk _ life) gens drawn toks os=_
  congr 2
  rw[Nat.zero_add,Array.length_toList] at this
  refine this.trans ?_
  show(absHeap .nil 0 life).objs++_=_
  simp[absHeap,BT.list]
noncomputable def aE(st:SharedT→Thread→Option (SharedT×Thread)) (ok:Nat→Option Value→Thread→Bool) (p:Program) (N:Nat) (d9:Shared):Option Shared :=
 match d9.heap.isNs mainGlobals && d9.gens.size == 0 with
 | true=>match toT d9 with
  | some T=>match tR st (ok d9.heap.objs.size (d9.heap.nsMap mainGlobals "__annotations__")) N T (topStub p) with
   | some f5=>match staticsOk (importedModules p.main.body) d9.heap f5.abs.heap && namesBound p f5.abs.heap && gensDone f5.abs && laidKept d9.heap f5.abs.heap with
    | true=>some f5.abs
    | false=>none
   | none=>none
  | none=>none
 | false=>none
theorem Wz{tb:String→Option Builtin}{p:Program}{w:World}{N:Nat}{d9 f5:Shared}(h:aE (stepT (denote tb) p w) stepOk p N d9=some f5):topFrom tb p w N d9=some f5:=by
 unfold aE at h
 unfold topFrom
 cases h1:(d9.heap.isNs mainGlobals && d9.gens.size == 0) with
 | false=>rw[h1] at h; cases h
 | true =>
  rw[h1] at h
  cases h2:toT d9 with
  | none=>rw[h2] at h; cases h
  | some T =>
   rw[h2] at h
   dsimp only at h ⊢
   cases h3:tR (stepT (denote tb) p w) (stepOk d9.heap.objs.size (d9.heap.nsMap mainGlobals "__annotations__")) N T (topStub p) with
   | none=>rw[h3] at h; cases h
   | some j2 =>
    rw[h3] at h
    have:=cT h3
    rw[qC h2] at this
    rw[this]
    exact h
theorem kJ{p q:Program}{loose:List Str}{Xt:Shared→Bool}{α:Type}{Yf:Shared→α}{Ya:World→α}{N:Nat}(row:String)
  (h:∀(w:World) (b:Bool),(fencedOpening treeTable p w N).map (λd9=>(aE (stepT (denote treeTable) p (w.withFollow row b)) stepOk p N d9).map λs=>(openSeen q loose (importedModules p.main.body) Xt true s,Yf s))=some (some (openGood q loose,Ya (w.withFollow row b)))):LeftO p q loose Xt Yf Ya N:=by
 refine LeftO.of_split row λw=>?_
 have h1:=h w false
 have h2:=h w true
 cases hf:fencedOpening treeTable p w N with
 | none=>rw[hf] at h1; cases h1
 | some d9 =>
  rw[hf] at h1 h2
  simp only[Option.map_some,oI] at h1 h2 ⊢
  obtain⟨a,e1,e2⟩:=Option.map_eq_some_iff.mp h1
  obtain⟨b,e3,e4⟩:=Option.map_eq_some_iff.mp h2
  rw[Wz e1,Wz e3,Option.map_some,Option.map_some,e2,e4]
end Mine
end
section
open PySem PySem.W PyProof.Rows PySem.Calls
set_option Elab.async false
namespace Mine
open Classical
inductive V where
 | none
 | bool (b:Bool)
 | int (i:Int)
 | str (s:Str)
 | tup (l:List V)
 | rng (lo hi:Int)
 | ref (a:Addr)
 | fix (v:Value)
noncomputable def TupAt(h:Heap) (a:Addr) (items:Array Value):Prop:=∃n,h.get? a=some {cls:=.type "tuple",data:=.seq items n}
theorem TupAt.isTuple{h:Heap}{a:Addr}{items:Array Value}(x:TupAt h a items):h.IsTuple a items:=x.elim λn e=>⟨_,e,rfl,n,rfl⟩
mutual
noncomputable def Rep(h:Heap):V→Value→Prop
 | .none,c=>c=.none
 | .bool b,c=>c=.bool b
 | .int i,c=>∃t,c=.int i t
 | .str s,c=>∃t,c=.str s t
 | .tup l,c=>∃a items,c=.ref a∧TupAt h a items∧h9 h l items.toList
 | .rng lo hi,c=>∃a t u v,c=.ref a∧IsRange h a lo hi 1 t u v
 | .ref a,c=>c=.ref a
 | .fix v,c=>c=v
noncomputable def h9(h:Heap):List V→List Value→Prop
 | [],cs=>cs=[]
 | x::xs,cs=>∃c r,cs=c::r∧Rep h x c∧h9 h xs r
end
section
variable {h:Heap}{c:Value}{P:Value→Prop}
theorem Rep.none:Rep h .none .none:=rfl
theorem Rep.bool(b:Bool):Rep h (.bool b) (.bool b):=rfl
theorem Rep.int(i:Int) (t:Tok):Rep h (.int i) (.int i t):=⟨t,rfl⟩
theorem Rep.str(s:Str) (t:Tok):Rep h (.str s) (.str s t):=⟨t,rfl⟩
theorem Rep.tup{a:Addr}{l:List V}{items:Array Value}(x:TupAt h a items) (r:h9 h l items.toList):Rep h (.tup l) (.ref a):=⟨a,items,rfl,x,r⟩
theorem Rep.rng{a:Addr}{lo hi:Int}{t u v:Tok}(x:IsRange h a lo hi 1 t u v):Rep h (.rng lo hi) (.ref a):=⟨a,t,u,v,rfl,x⟩
theorem Rep.ref(a:Addr):Rep h (.ref a) (.ref a):=rfl
theorem Rep.fix(v:Value):Rep h (.fix v) v:=rfl
theorem h9.nil:h9 h [] []:=rfl
theorem h9.cons{x:V}{c:Value}{xs:List V}{cs:List Value}(a:Rep h x c) (b:h9 h xs cs):h9 h (x::xs) (c::cs):=⟨c,cs,rfl,a,b⟩
@[elab_as_elim] theorem Rep.noneE (x:Rep h .none c) (k:P .none):P c:=(show c=.none from x) ▸ k
@[elab_as_elim] theorem Rep.Lm {b:Bool}(x:Rep h (.bool b) c) (k:P (.bool b)):P c:=(show c=.bool b from x) ▸ k
@[elab_as_elim] theorem Rep.E3 {a:Addr}(x:Rep h (.ref a) c) (k:P (.ref a)):P c:=(show c=.ref a from x) ▸ k
@[elab_as_elim] theorem Rep.Qm {v:Value}(x:Rep h (.fix v) c) (k:P v):P c:=(show c=v from x) ▸ k
@[elab_as_elim] theorem Rep.Z6 {i:Int}(x:Rep h (.int i) c) (k:∀t,P (.int i t)):P c:=x.elim λt e=>e ▸ k t
@[elab_as_elim] theorem Rep.Nq {s:Str}(x:Rep h (.str s) c) (k:∀t,P (.str s t)):P c:=x.elim λt e=>e ▸ k t
@[elab_as_elim] theorem Rep.Ek {l:List V}(x:Rep h (.tup l) c) (k:∀a items,TupAt h a items→h9 h l items.toList→P (.ref a)):P c:=x.elim λa x=>x.elim λitems x=>x.1 ▸ k a items x.2.1 x.2.2
@[elab_as_elim] theorem Rep.qD {lo hi:Int}(x:Rep h (.rng lo hi) c) (k:∀a t u v,IsRange h a lo hi 1 t u v→P (.ref a)):P c:=x.elim λa x=>x.elim λt x=>x.elim λu x=>x.elim λv x=>x.1 ▸ k a t u v x.2
@[elab_as_elim] theorem h9.Ld {P:List Value→Prop}{cs:List Value}(x:h9 h [] cs) (k:P []):P cs:=(show cs=[] from x) ▸ k
@[elab_as_elim] theorem h9.E4 {P:List Value→Prop}{x:V}{xs:List V}{cs:List Value}(r:h9 h (x::xs) cs) (k:∀c r,Rep h x c→h9 h xs r→P (c::r)):P cs:=r.elim λc r=>r.elim λq r=>r.1 ▸ k c q r.2.1 r.2.2
end
noncomputable def Ln(o:Obj):Prop:=(o.cls=.type "tuple"∧∃xs n,o.data=.seq xs n)∨(o.cls=.type "range"∧∃vs,o.data=.fields vs∧vs.size=3)
noncomputable def u6(h h':Heap):Prop:=∀a o,h.get? a=some o→Ln o→h'.get? a=some o
theorem u6.refl(h:Heap):u6 h h:=λ_ _ e _=>e
theorem u6.trans{a b c:Heap}(x:u6 a b) (y:u6 b c):u6 a c:=λi o e m=>y i o (x i o e m) m
theorem TupAt.keepI{h h':Heap}{a:Addr}{items:Array Value}(x:TupAt h a items) (k:u6 h h'):TupAt h' a items:=x.imp λn ho=>k a _ ho (.inl ⟨rfl,_,_,rfl⟩)
theorem IsRange.keepI{h h':Heap}{a:Addr}{lo hi st:Int}{t u v:Tok}(x:IsRange h a lo hi st t u v) (k:u6 h h'):IsRange h' a lo hi st t u v :=
 k a _ x (.inr ⟨rfl,_,rfl,rfl⟩)
mutual
theorem Rep.mono{h h':Heap}(k:u6 h h'):∀{v:V}{c:Value},Rep h v c→Rep h' v c
 | .tup l,_,x=>x.Ek λa items t r=>.tup (t.keepI k) (h9.mono k r)
 | .rng _ _,_,x=>x.qD λa t u v r=>.rng (IsRange.keepI r k)
 | .none,_,x=>x
 | .bool _,_,x=>x
 | .int _,_,x=>x
 | .str _,_,x=>x
 | .ref _,_,x=>x
 | .fix _,_,x=>x
theorem h9.mono{h h':Heap}(k:u6 h h'):∀{v:List V}{c:List Value},h9 h v c→h9 h' v c
 | [],_,x=>x
 | _::_,_,x=>x.E4 λc r a b=>.cons (Rep.mono k a) (h9.mono k b)
end
theorem h9.length{h:Heap}:∀{v:List V}{c:List Value},h9 h v c→v.length=c.length
 | [],_,x=>x.Ld rfl
 | _::_,_,x=>x.E4 λc r a b=>congrArg (·+1) (h9.length b)
theorem h9.get{h:Heap}{x:V}:∀{v:List V}{c:List Value},h9 h v c→∀{i:Nat},v[i]?=some x→∃cx,c[i]?=some cx∧Rep h x cx
 | [],_,r,i,e=>nomatch e
 | y::v,_,r,i,e=>r.E4 (P:=λc=>∃cx,c[i]?=some cx∧Rep h x cx) λc r a b=>match i with
  | 0=>⟨c,rfl,(show y=x from Option.some.inj e) ▸ a⟩
  | i+1=>h9.get b (i:=i) e
theorem h9.append{h:Heap}{v':List V}{c':List Value}(y:h9 h v' c'):∀{v:List V}{c:List Value},h9 h v c→h9 h (v++v') (c++c')
 | [],_,x=>x.Ld y
 | _::_,_,x=>x.E4 λc r a b=>.cons a (h9.append y b)
mutual
noncomputable def V.hash(w:World):V→Int
 | .int i=>hashInt i
 | .str s=>hashStr w s
 | .tup l=>reduceHash (Builtin.Tuple.tupleHashOf (V.hashes w l))
 | _=>0
noncomputable def V.hashes(w:World):List V→List Int
 | []=>[]
 | x::xs=>V.hash w x::V.hashes w xs
end
mutual
noncomputable def V.draws:V→Nat
 | .tup l=>V.Uk l+1
 | _=>1
noncomputable def V.Uk:List V→Nat
 | []=>0
 | x::xs=>V.draws x+V.Uk xs
end
mutual
noncomputable def V.pd:V→PyData
 | .none=>.none
 | .bool b=>.bool b
 | .int i=>.int i
 | .str s=>.str s
 | .tup l=>.tuple (V.Xa l)
 | _=>.none
noncomputable def V.Xa:List V→List PyData
 | []=>[]
 | x::xs=>V.pd x::V.Xa xs
end
noncomputable def V.Hy:V→Bool
 | .int _=>true
 | .str s=>PyData.strOk s
 | _=>false
noncomputable def V.hkn:Nat→V→Bool
 | 0,v=>v.Hy
 | d+1,v=>match v with
  | .tup l=>l.all (V.hkn d)
  | v=>v.Hy
noncomputable abbrev V.hk (v:V) (d:Nat):Bool:=V.hkn d v
noncomputable abbrev V.hks (l:List V) (d:Nat):Bool:=l.all (V.hkn d)
theorem ff{P:Prop}(h:false=true):P:=absurd h Bool.false_ne_true
@[elab_as_elim] theorem V.v7 {P:Nat→V→Prop}(int:∀d i,P d (.int i)) (str:∀d s,PyData.strOk s=true→P d (.str s)) (tup:∀d l,(∀v,v.hk d=true→P d v)→V.hks l d=true→P (d+1) (.tup l)){d:Nat}{v:V}:v.hk d=true→P d v:=by
 induction d generalizing v with
 | zero =>
  cases v with
  | int i=>exact λ_=>int 0 i
  | str s=>exact str 0 s
  | _=>exact ff
 | succ d ih =>
  cases v with
  | int i=>exact λ_=>int _ i
  | str s=>exact str _ s
  | tup l=>exact tup d l λv=>ih
  | _=>exact ff
theorem V.F4{x:V}{l:List V}{d:Nat}{P:Prop}(h:V.hks (x::l) d=true) (k:x.hk d=true→V.hks l d=true→P):P:=(Bool.and_eq_true_iff.mp h).elim k
theorem V.aF{l:List V}{d:Nat}(h:V.hks l d=true):∀k∈l,k.hk d=true:=List.all_eq_true.mp h
theorem V.kK{v:V}{d e:Nat}(h:v.hk d=true) (q:d≤e):v.hk e=true:=by
 refine V.v7 (P:=λd v=>∀e,d≤e→v.hk e=true) (λd i e _=>by cases e<;>rfl) (λd s h e _=>by cases e<;>exact h) (λd l ih h e q=>?_) h e q
 cases e with
 | zero=>exact absurd q (Nat.not_succ_le_zero d)
 | succ e=>exact List.all_eq_true.mpr λv hv=>ih v (V.aF h v hv) e (Nat.le_of_succ_le_succ q)
theorem TupAt.same{h:Heap}{a:Addr}{x y:Array Value}(p:TupAt h a x) (q:TupAt h a y):x=y:=p.elim λn e=>q.elim λm e'=>(Data.seq.inj (congrArg Obj.data (Option.some.inj (e.symm.trans e')))).1
theorem h9.inj{h:Heap}{d:Nat}:∀{l m:List V}{cs:List Value},(∀v,v.hk d=true→∀y c,Rep h v c→Rep h y c→y.hk d=true→v=y)→h9 h l cs→h9 h m cs→V.hks l d=true→V.hks m d=true→l=m
 | [],[],_,_,_,_,_,_=>rfl
 | [],_::_,cs,_,a,b,_,_=>b.elim λc b=>b.elim λr b=>nomatch (show cs=[] from a).symm.trans b.1
 | _::_,[],cs,_,a,b,_,_=>a.elim λc a=>a.elim λr a=>nomatch (show cs=[] from b).symm.trans a.1
 | x::l,y::m,cs,ih,a,b,k1,k2=>V.F4 k1 λp1 q1=>V.F4 k2 λp2 q2=>a.elim λc a=>a.elim λr a=>b.elim λc' b=>b.elim λr' b =>
  have e:=List.cons.inj (a.1.symm.trans b.1)
  congr (congrArg List.cons (ih x p1 y c a.2.1 (e.1 ▸ b.2.1) p2)) (h9.inj ih a.2.2 (e.2 ▸ b.2.2) q1 q2)
theorem Rep.inj{h:Heap}{x y:V}{c:Value}{d:Nat}(hx:Rep h x c) (hy:Rep h y c) (kx:x.hk d=true) (ky:y.hk d=true):x=y:=by
 refine V.v7 (P:=λd x=>∀y c,Rep h x c→Rep h y c→y.hk d=true→x=y) (λd i y c hx hy ky=>?_) (λd s hs y c hx hy ky=>?_) (λd l ih hl y c hx hy ky=>?_) kx y c hx hy ky
 ·obtain⟨t,rfl⟩:=hx
  exact V.v7 (P:=λd y=>Rep h y (.int i t)→V.int i=y) (λd j hy=>hy.elim λu e=>congrArg V.int (Value.int.inj e).1) (λd j _ hy=>hy.elim nofun) (λd l _ _ hy=>hy.elim λ_ hy=>hy.elim nofun) ky hy
 ·obtain⟨t,rfl⟩:=hx
  exact V.v7 (P:=λd y=>Rep h y (.str s t)→V.str s=y) (λd j hy=>hy.elim nofun) (λd j _ hy=>hy.elim λu e=>congrArg V.str (Value.str.inj e).1) (λd l _ _ hy=>hy.elim λ_ hy=>hy.elim nofun) ky hy
 ·obtain⟨a,items,rfl,ta,ra⟩:=hx
  refine V.v7 (P:=λe y=>e=d+1→Rep h y (.ref a)→V.tup l=y) (λd j _ hy=>hy.elim nofun) (λd j _ _ hy=>hy.elim nofun) (λe m _ hm q hy=>?_) ky rfl hy
  obtain⟨b,it,e1,tb,rb⟩:=hy
  obtain rfl:=Nat.succ.inj q
  obtain rfl:=Value.ref.inj e1
  obtain rfl:=ta.same tb
  exact congrArg V.tup (h9.inj ih ra rb hl hm)
structure zC(d:Nat) (v:V):Prop where
 can:v.pd.canLay0=true
 dep:v.pd.depth≤d+1
 reads:∀{h c},Rep h v c→∃as,Reads h c v.pd as
structure tD(d:Nat) (l:List V):Prop where
 can:PyData.canLayAll0 (V.Xa l)=true
 dep:PyData.depthAll (V.Xa l)≤d
 reads:∀{h cs},h9 h l cs→∃as,ReadsAll h cs (V.Xa l) as
theorem tD.of{d e:Nat}:∀{l:List V},(∀v,v.hk d=true→zC e v)→V.hks l d=true→tD (e+1) l
 | [],_,_=>⟨rfl,Nat.zero_le _,λr=>r.Ld ⟨_,.nil⟩⟩
 | x::l,ih,h=>V.F4 h λh1 h2 =>
  have a:=ih x h1
  have b:=tD.of ih h2
  ⟨Bool.and_eq_true_iff.mpr ⟨a.can,b.can⟩,Nat.max_le.mpr ⟨a.dep,b.dep⟩,λr=>r.E4 λc r p q=>(a.reads p).elim λas x=>(b.reads q).elim λbs y=>⟨_,.cons x y⟩⟩
theorem V.key{v:V}{d:Nat}(h:v.hk d=true):zC d v:=by
 refine V.v7 (P:=zC) (λd i=>⟨rfl,Nat.zero_le _,λr=>r.Z6 λt=>⟨_,.int _ _⟩⟩) (λd s h=>⟨h,Nat.zero_le _,λr=>r.Nq λt=>⟨_,.str _ _⟩⟩) (λd l ih h=>?_) h
 have b:=tD.of ih h
 exact⟨b.can,Nat.succ_le_succ b.dep,λr=>r.Ek λa items t r=>t.elim λn ho=>(b.reads r).imp λas x=>.tuple ho rfl rfl x⟩
theorem V.keys{l:List V}{d:Nat}(h:V.hks l d=true):tD (d+1) l:=tD.of (λv h=>V.key h) h
theorem V.eqvs{d:Nat}:∀{l m:List V},(∀v,v.hk d=true→∀y:V,y.hk d=true→(PyData.eqv v.pd y.pd=true↔v=y))→V.hks l d=true→V.hks m d=true→(PyData.eqvAll (V.Xa l) (V.Xa m)=true↔l=m)
 | [],[],_,_,_=>⟨λ_=>rfl,λ_=>rfl⟩
 | [],_::_,_,_,_=>⟨λh=>absurd h Bool.false_ne_true,nofun⟩
 | _::_,[],_,_,_=>⟨λh=>absurd h Bool.false_ne_true,nofun⟩
 | x::l,y::m,ih,h1,h2=>V.F4 h1 λp1 q1=>V.F4 h2 λp2 q2=>Bool.and_eq_true_iff.trans ((and_congr (ih x p1 y p2) (V.eqvs ih q1 q2)).trans ⟨λh=>congr (congrArg List.cons h.1) h.2,List.cons.inj⟩)
theorem V.Xb{x y:V}{d:Nat}(hx:x.hk d=true) (hy:y.hk d=true):PyData.eqv x.pd y.pd=true↔x=y:=by
 refine V.v7 (P:=λd x=>∀y:V,y.hk d=true→(PyData.eqv x.pd y.pd=true↔x=y)) (λd i y hy=>?_) (λd s _ y hy=>?_) (λd l ih h y hy=>?_) hx y hy
 ·exact V.v7 (P:=λd y=>(PyData.eqv (.int i) y.pd=true↔V.int i=y)) (λd j=>beq_iff_eq.trans ⟨congrArg V.int,V.int.inj⟩) (λd s _=>⟨λh=>absurd h Bool.false_ne_true,nofun⟩) (λd l _ _=>⟨λh=>absurd h Bool.false_ne_true,nofun⟩) hy
 ·exact V.v7 (P:=λd y=>(PyData.eqv (.str s) y.pd=true↔V.str s=y)) (λd s=>⟨λh=>absurd h Bool.false_ne_true,nofun⟩) (λd j _=>beq_iff_eq.trans ⟨congrArg V.str,V.str.inj⟩) (λd l _ _=>⟨λh=>absurd h Bool.false_ne_true,nofun⟩) hy
 ·exact V.v7 (P:=λe y=>e=d+1→(PyData.eqv (.tuple (V.Xa l)) y.pd=true↔V.tup l=y)) (λd s _=>⟨λh=>absurd h Bool.false_ne_true,nofun⟩) (λd l _ _=>⟨λh=>absurd h Bool.false_ne_true,nofun⟩) (λe m _ hm q=>(V.eqvs ih h (Nat.succ.inj q ▸ hm)).trans ⟨congrArg V.tup,V.tup.inj⟩) hy rfl
theorem y4{b:Bool}{p:Prop}{i:Decidable p}(h:b=true↔p):b=decide p:=(Bool.eq_iff_iff.mpr (h.trans decide_eq_true_iff.symm))
theorem V.eqv{x y:V}{d:Nat}(hx:x.hk d=true) (hy:y.hk d=true):PyData.eqv x.pd y.pd=decide (x=y):=y4 (V.Xb hx hy)
section
variable {prog:Program}{w:World}{A:Around}{E:Value→Shared→Prop}{s:Shared}
theorem cV{x y:V}{a b:Value}{d:Nat}{Q:Bool→Shared→Prop}(hx:Rep s.heap x a) (hy:Rep s.heap y b) (kx:x.hk d=true) (ky:y.hk d=true)
  (hu:A.units+(d+1) < cLine) (h:Q (decide (x=y)) s):wpAny (model prog w) A (eqBool a b) Q E s :=
 ((V.key kx).reads hx).elim λas ra=>((V.key ky).reads hy).elim λbs rb=>SeqAt.eqAt_reads x.pd y.pd A s a b as bs ra rb (V.key kx).can (V.key ky).can (Nat.lt_of_le_of_lt (Nat.add_le_add_left (Nat.le_trans (Nat.min_le_left ..) (V.key kx).dep) _) hu) prog w E Q (V.eqv kx ky ▸ h)
theorem Lo{d:Nat}{f:Value→Array Int→Sem (ForInStep (Array Int))}{Q:Array Int→Shared→Prop}(hf:∀{v:V}{x:Value}{b:Array Int}{s:Shared}{Q:ForInStep (Array Int)→Shared→Prop},v.hk d=true→Rep s.heap v x→Q (.yield (b.push (v.hash w))) {s with toks:=s.toks+v.draws}→wpAny (model prog w) A (f x b) Q E s) :
  ∀{l:List V}{cs:List Value}{b:Array Int}{s:Shared},h9 s.heap l cs→V.hks l d=true→(∀b' tk,b'.toList=b.toList++V.hashes w l→tk=s.toks+V.Uk l→Q b' {s with toks:=tk})→wpAny (model prog w) A (forIn cs b f) Q E s
 | [],_,b,s,r,_,q=>r.Ld (wpAny_pure (q b s.toks (List.append_nil _).symm rfl))
 | x::l,_,b,s,r,h,q=>r.E4 λc cs a r=>V.F4 h λh1 h2=>by
  rw[List.forIn_cons]
  refine wpAny_bind (hf h1 a ?_)
  exact Lo (s:={s with toks:=s.toks+x.draws}) hf r h2 λb' tk e1 e2=>q b' tk (e1.trans (by rw[Array.toList_push,List.append_assoc]; rfl)) (e2.trans (Nat.add_assoc ..))
noncomputable def cW(prog:Program) (w:World) (E:Value→Shared→Prop) (d:Nat) (v:V):Prop:=∀{c:Value}{A:Around}{s:Shared}{Q:Int→Shared→Prop},Rep s.heap v c→A.units+d < cLine→Q (v.hash w) {s with toks:=s.toks+v.draws}→wpAny (model prog w) A (pyHash c) Q E s
theorem cX{d:Nat}{v:V}(hk:v.hk d=true):cW prog w E d v:=by
 refine V.v7 (P:=cW prog w E) (λd i _ _ _ _ hr _ h=>?_) (λd i _ _ _ _ _ hr _ h=>?_) (λd l ih hks _ A s Q hr hu h=>?_) hk
 ·obtain⟨t,rfl⟩:=hr; exact wpAny_pyHash_int h
 ·obtain⟨t,rfl⟩:=hr; exact wpAny_pyHash_str h
 obtain⟨a,items,rfl,⟨n,ho⟩,hrs⟩:=hr
 have hT:=TupAt.isTuple ⟨n,ho⟩ |>.typeIs
 have hu1:A.units+1+d < cLine:=Nat.lt_of_le_of_lt (Nat.le_of_eq (Nat.add_right_comm ..)) hu
 refine(?_:wpAny _ _ (pyHashByItsType (.ref a)) Q E s)
 unfold pyHashByItsType
 refine wpAny_bind (wpAny_cRoomFor_or (.inr (Nat.lt_of_le_of_lt (Nat.le_add_right ..) hu)) ?_)
 refine wpAny_bind (wpAny_specialOf hT F.slot_tuple_hash.lookup ?_)
 refine(?_:wpAny _ _ (if (some (Value.builtin "tuple.__hash__") == some Value.none)=true then _ else _) Q E s)
 rw[if_neg (by rw[beq_builtin_none]; exact Bool.false_ne_true)]
 refine wpAny_bind (wpAny_specialOf hT F.slot_tuple_hash.lookup ?_)
 refine(?_:wpAny _ _ (callSpecialIfBoundUnlessNone? (.ref a) "__hash__" _ >>= _) Q E s)
 refine wpAny_bind (wpAny_callSpecialIfBoundUnlessNone?_slot hT F.slot_tuple_hash (wpAny_call_entry F.slot_tuple_hash hT F.entry_tuple_hash ?_ (F.args_tuple_hash_1 _)))
 refine(?_:wpAny _ _ (Builtin.Tuple.tupleItemsOf (.ref a) >>= _) _ _ s)
 refine wpAny_bind (wpAny_tupleItemsOf ho rfl (wpAny_bind ?_))
 rw[←Array.forIn_toList]
 refine Lo (d:=d) (λh1 a q=>wpAny_bind (ih _ h1 a hu1 (wpAny_pure q))) hrs hks λb' tk e1 e2=>?_
 refine(?_:wpAny _ _ (retInt (Builtin.Tuple.tupleHashOf b'.toList)) _ _ _)
 rw[show b'.toList=V.hashes w l from e1]
 refine wpAny_ret_mkInt ?_
 have h:Q (reduceHash (Builtin.Tuple.tupleHashOf (V.hashes w l))) {s with toks:=tk+1}:=e2 ▸ h
 refine(?_:wpAny _ _ (if (decide (-(2:Int) ^ 63≤Builtin.Tuple.tupleHashOf (V.hashes w l)) && decide (Builtin.Tuple.tupleHashOf (V.hashes w l) < 2 ^ 63))=true then _ else _) Q E _)
 unfold reduceHash at h
 by_cases hr:(decide (-(2:Int) ^ 63≤Builtin.Tuple.tupleHashOf (V.hashes w l)) && decide (Builtin.Tuple.tupleHashOf (V.hashes w l) < 2 ^ 63))=true
 ·rw[if_pos hr] at h ⊢
  exact wpAny_pure h
 ·rw[if_neg hr] at h ⊢
  exact wpAny_bind (wpAny_rule (wpAny_pure h))
noncomputable def Xc(prog:Program) (w:World) (E:Value→Shared→Prop) (d:Nat) (v:V):Prop:=∀{c:Value}{A:Around}{s:Shared}{Q:Bool→Shared→Prop},Rep s.heap v c→Q true s→wpAny (model prog w) A (eqIsQuiet d c) Q E s
theorem kL{d:Nat}{v:V}(hk:v.hk d=true):Xc prog w E d v:=by
 refine V.v7 (P:=Xc prog w E) (λd i _ _ _ _ hr h=>?_) (λd i _ _ _ _ _ hr h=>?_) (λd l ih hks _ A s Q hr h=>?_) hk
 ·obtain⟨t,rfl⟩:=hr; rw[eqIsQuiet_byValue _ rfl]; exact wpAny_pure h
 ·obtain⟨t,rfl⟩:=hr; rw[eqIsQuiet_byValue _ rfl]; exact wpAny_pure h
 obtain⟨a,items,rfl,⟨n,ho⟩,hrs⟩:=hr
 have hT:=TupAt.isTuple ⟨n,ho⟩ |>.typeIs
 unfold eqIsQuiet
 refine wpAny_bind (wpAny_specialOf hT F.slot_tuple_eq.lookup ?_)
 refine(?_:wpAny _ _ (isInstance (.ref a) (.type "tuple") >>= _) _ _ s)
 refine wpAny_bind (wpAny_isInstance hT isSubtype_tuple_tuple ?_)
 refine wpAny_bind (wpAny_seqItems ho rfl ?_)
 refine wpAny_bind ?_
 refine(?_:wpAny _ _ (forIn items _ _) _ _ s)
 rw[←Array.forIn_toList]
 refine wpAny_forIn_list _ (λrest r s'=>r.1=none∧s'=s∧∃left,V.hks left d=true∧h9 s.heap left rest) _ ?_ ?_ _ _ ⟨rfl,rfl,l,hks,hrs⟩
 ·rintro v rest r s' ⟨hr,rfl,left,hl,hrep⟩
  cases left with
  | nil=>exact nomatch hrep
  | cons k left =>
   obtain⟨_,_,e,h1,hl'⟩:=hrep
   obtain⟨rfl,rfl⟩:=List.cons.inj e
   exact V.F4 hl λh2 h3=>wpAny_bind (ih _ h2 h1 (wpAny_pure ⟨rfl,rfl,left,h3,hl'⟩))
 ·rintro⟨r1,r2⟩ s' ⟨hr,rfl,_⟩
  obtain rfl:r1=none:=hr
  exact wpAny_pure h
theorem Ln.noDict{o:Obj}{es ep}(hi:Ln o) (hd:o.data=.dict es ep):False:=hi.elim (λh=>h.2.elim λ_ h=>h.elim λ_ h=>nomatch hd.symm.trans h) λh=>h.2.elim λ_ h=>nomatch hd.symm.trans h.1
theorem Le{h h':Heap}{d:Addr}{o:Obj}{es ep}(ho:h.get? d=some o) (hd:o.data=.dict es ep) (hs:Heap.SameBut d h h'):u6 h h':=λa x hx hi =>
 (hs.2 a λe=>(Option.some.inj ((e ▸ hx).symm.trans ho) ▸ hi).noDict hd).trans hx
end
noncomputable def J8(prog:Program) (w:World):HeapKind prog w V where
 is:=λh k a=>Rep h k (.ref a)∧k.hk 8=true
 hash:=V.hash w
 draws:=V.draws
 room:=λA=>A.units+9 < cLine
 inj:=λhx hy=>Rep.inj hx.1 hy.1 hx.2 hy.2
 keeps:=λx ho hd hs=>⟨x.1.mono (Le ho hd hs),x.2⟩
 pyHash:=λhu hk h=>cX hk.2 hk.1 (Nat.lt_of_succ_lt hu) h
 eqBool:=λhu hx hy h=>cV hx.1 hy.1 hx.2 hy.2 hu h
 quiet:=λhk h=>kL hk.2 hk.1 h
theorem Qn{a b:Nat}{P:Prop}(h:a < b) (k:b≤a):P:=absurd (Nat.lt_of_lt_of_le h k) (Nat.lt_irrefl _)
noncomputable def Above(h:Heap) (a:Addr):Prop:=h.get? a=none
theorem none_of{α:Type}{o:Option α}(h:∀x,o=some x→False):o=none:=match o with
 | none=>rfl
 | some x=>(h x rfl).elim
theorem Above.of_le{h:Heap}{a:Addr}(k:h.objs.size≤a):Above h a:=none_of λo e=>Qn (Heap.lt_size e) k
theorem Above.not{h:Heap}{a:Addr}{o:Obj}{P:Prop}(x:Above h a) (e:h.get? a=some o):P:=nomatch (show h.get? a=none from x).symm.trans e
theorem Above.back{h h':Heap}{a:Addr}(x:Above h' a) (k:∀b o,h.get? b=some o→∃o',h'.get? b=some o'):Above h a:=none_of λo e=>(k a o e).elim λo' e'=>x.not e'
noncomputable def Bt(o:Obj):Prop:=∃es ep,o.data=.dict es ep
inductive j8 where
 | list (l:List V)
 | dict (l:List (V×V))
 | ns (l:List (Str×V))
 | inst (C dx:Addr)
abbrev a5:=Addr→Option j8
noncomputable def j1(Z:a5) (a:Addr) (o:j8):a5:=λb=>if b=a then some o else Z b
@[simp] theorem a7 (Z:a5) (a:Addr) (o:j8):j1 Z a o a=some o:=if_pos rfl
theorem i8{Z:a5}{a b:Addr}{o:j8}(h:b≠a):j1 Z a o b=Z b:=if_neg h
noncomputable def j8.isD:j8→Bool
 | .dict _=>true
 | .ns _=>true
 | _=>false
noncomputable def j8.like(o o':j8):Prop:=o.isD=o'.isD
noncomputable def Z7(prog:Program) (w:World) (h:Heap) (a:Addr) (l:List (V×V)):Prop :=
 (∃kvs:List (Int×Value),h.DictOf (intKind prog w) a kvs∧l.map (·.1)=kvs.map (λq=>V.int q.1)∧h9 h (l.map (·.2)) (kvs.map (·.2))) ∨
 (∃kvs:List (Str×Value),h.DictOf (strKind prog w) a kvs∧l.map (·.1)=kvs.map (λq=>V.str q.1)∧h9 h (l.map (·.2)) (kvs.map (·.2))) ∨
 (∃xs:List (V×Addr×Value),h.DictOfH (J8 prog w) a xs∧l.map (·.1)=xs.map (·.1)∧h9 h (l.map (·.2)) (xs.map (·.2.2)))
inductive R7(w:World) (h:Heap):List DictEntry→List (Str×V)→Prop
 | nil:R7 w h [] []
 | cons {x:Str}{t:Tok}{c:Value}{v:V}{es:List DictEntry}{l:List (Str×V)} :
  Rep h v c→R7 w h es l→R7 w h (⟨PyData.keyHash w.params x,.str x t,c⟩::es) ((x,v)::l)
theorem R7.mono{w:World}{h h':Heap}(ki:u6 h h'){es:List DictEntry}{l:List (Str×V)}(q:R7 w h es l):R7 w h' es l:=by
 induction q with
 | nil=>exact .nil
 | cons a _ ih=>exact .cons (a.mono ki) ih
noncomputable def Z8(prog:Program) (w:World) (h:Heap) (a:Addr):j8→Prop
 | .list l=>∃items,h.PlainList a items∧h9 h l items.toList
 | .dict l=>Z7 prog w h a l
 | .ns l=>∃es n,h.get? a=some (dictOf es n)∧R7 w h es l
 | .inst C dx=>h.get? a=some ⟨.ref C,some dx,.plain,#[]⟩
structure Cx where
 prog:Program
 w:World
 base:Heap
 K:Frag
 i4:Addr
structure Rel(c:Cx) (Z:a5) (h:Heap):Prop where
 stays:c.base.StaysIn h
 big:∃b,2 < b∧∃o,c.base.get? b=some o
 at_:∀a o,Z a=some o→(c.base.get? a=none∧2 < a)∧Z8 c.prog c.w h a o
noncomputable def kA(P:Addr→Prop) (h h':Heap):Prop :=
 (∀b o,h.get? b=some o→∃o',h'.get? b=some o')∧∀a o,h.get? a=some o→¬ P a→(∃sl,h'.get? a=some {o with slots:=sl})∧((∀es n,o.data≠.dict es n)→h'.get? a=some o)
theorem kA.refl(P:Addr→Prop) (h:Heap):kA P h h:=⟨λ_ o e=>⟨o,e⟩,λ_ o e _=>⟨⟨o.slots,e⟩,λ_=>e⟩⟩
theorem kA.ext{P:Addr→Prop}{h h':Heap}(hs:∀b o,h.get? b=some o→∃o',h'.get? b=some o') (k:∀a o,h.get? a=some o→¬ P a→h'.get? a=some o):kA P h h' :=
 ⟨hs,λa o e n=>⟨⟨o.slots,k a o e n⟩,λ_=>k a o e n⟩⟩
section
variable {prog:Program}{w:World}{h h':Heap}{a:Addr}
theorem Xd{K:Type}[DecidableEq K]{knd:KeyKind prog w K}{kvs:List (K×Value)}(x:h.DictOf knd a kvs):∃ob,h.get? a=some ob∧Bt ob:=x.imp λo x=>x.elim λes x=>x.elim λep x=>⟨x.1,es,ep,x.2.2.1⟩
theorem dictAt{K:Type}[DecidableEq K]{knd:KeyKind prog w K}{kvs:List (K×Value)}(x:h.DictOf knd a kvs) (hk:∀o,h.get? a=some o→h'.get? a=some o):h'.DictOf knd a kvs:=x.imp λo x=>x.imp λes x=>x.imp λep x=>⟨hk _ x.1,x.2⟩
theorem Z7.exact{l:List (V×V)}(x:Z7 prog w h a l):∃ob,h.get? a=some ob∧ob.ExactDict :=
 x.elim (λx=>x.elim λ_ x=>x.1.imp λo x=>x.elim λes x=>x.elim λep x=>⟨x.1,x.2.1⟩) λx=>x.elim (λx=>x.elim λ_ x=>x.1.imp λo x=>x.elim λes x=>x.elim λep x=>⟨x.1,x.2.1⟩) λx=>x.elim λ_ x=>x.1.imp λo x=>x.elim λes x=>x.elim λep x=>⟨x.1,x.2.1⟩
theorem Z7.obj{l:List (V×V)}(x:Z7 prog w h a l):∃ob,h.get? a=some ob∧Bt ob :=
 x.elim (λx=>x.elim λ_ x=>Xd x.1) λx=>x.elim (λx=>x.elim λ_ x=>Xd x.1) λx=>x.elim λ_ x=>x.1.imp λo x=>x.elim λes x=>x.elim λep x=>⟨x.1,es,ep,x.2.2.1⟩
theorem cY{o:Obj}(h1:∀vs,o.data≠.fields vs) (h2:o.cls≠.type "tuple"):¬Ln o:=λi=>i.elim (λh=>h2 h.1) λh=>h.2.elim λ_ h=>h1 _ h.1
theorem Bt.shape{o:Obj}(d:Bt o):(∀vs,o.data≠.fields vs)∧¬Ln o:=d.elim λes d=>d.elim λep d=>⟨λvs e=>(nomatch d.symm.trans e),λi=>i.noDict d⟩
theorem Z8.shape{o:j8}(x:Z8 prog w h a o):∃ob,h.get? a=some ob∧(∀vs,ob.data≠.fields vs)∧¬ Ln ob∧(Bt ob↔o.isD=true):=by
 have nd {x:Data}(e:∀es ep,x≠.dict es ep){o:j8}(ho:o.isD=false):(∃es ep,x=.dict es ep)↔o.isD=true:=⟨λd=>d.elim λes d=>d.elim λep d=>absurd d (e es ep),λd=>ff (ho.symm.trans d)⟩
 cases o with
 | list l =>
  obtain⟨items,⟨n,ho⟩,_⟩:=x
  exact⟨_,ho,λ_ h=>(nomatch h),cY (λ_ h=>nomatch h) (λh=>absurd (Value.type.inj h) (by decide)),nd (by intro _ _ h; cases h) rfl⟩
 | dict l=>exact(Z7.obj x).imp λob x=>⟨x.1,x.2.shape.1,x.2.shape.2,λ_=>rfl,λ_=>x.2⟩
 | ns l =>
  obtain⟨es,n,ho,_⟩:=x
  have d:Bt (dictOf es n):=⟨_,_,rfl⟩
  exact⟨_,ho,d.shape.1,d.shape.2,λ_=>rfl,λ_=>d⟩
 | inst C dx=>exact⟨_,x,λ_ h=>(nomatch h),cY (λ_ h=>nomatch h) (λh=>nomatch h),nd (by intro _ _ h; cases h) rfl⟩
theorem Z8.at_{o:j8}(x:Z8 prog w h a o) (k:∀o,h.get? a=some o→h'.get? a=some o) (ki:u6 h h'):Z8 prog w h' a o:=by
 cases o with
 | list l=>exact x.imp λitems x=>⟨x.1.at k,x.2.mono ki⟩
 | dict l=>exact x.imp (λx=>x.imp λ_ x=>⟨dictAt x.1 k,x.2.1,x.2.2.mono ki⟩) λx=>x.imp (λx=>x.imp λ_ x=>⟨dictAt x.1 k,x.2.1,x.2.2.mono ki⟩) λx=>x.imp λ_ x=>⟨x.1.imp λo x=>x.imp λes x=>x.imp λep x=>⟨k _ x.1,x.2.1,x.2.2.1,x.2.2.2.1,λy hy=>⟨(x.2.2.2.2.1 y hy).1.mono ki,(x.2.2.2.2.1 y hy).2⟩,x.2.2.2.2.2⟩,x.2.1,x.2.2.mono ki⟩
 | ns l=>exact x.imp λes x=>x.imp λn x=>⟨k _ x.1,x.2.mono ki⟩
 | inst C dx=>exact k _ x
theorem Z8.move{o:j8}(x:Z8 prog w h a o) (e:h'.get? a=h.get? a) (ki:u6 h h'):Z8 prog w h' a o:=x.at_ (λ_ q=>e.trans q) ki
theorem Z8.cZ{o o':j8}{ob:Obj}(x:Z8 prog w h a o) (hl:o.like o') (y:Z8 prog w h' a o') (e:h.get? a=some ob) (n:Bt ob):∃ob',h'.get? a=some ob'∧Bt ob' :=
 x.shape.elim λo1 x=>y.shape.imp λo2 y=>⟨y.1,y.2.2.2.mpr (hl.symm.trans (x.2.2.2.mp (Option.some.inj (e.symm.trans x.1) ▸ n)))⟩
end
structure i0(c:Cx) (Z a6:a5) (F:Addr→Prop) (s s':Shared):Prop where
 same:∃h' tk,s'={s with heap:=h',toks:=tk}
 rel:Rel c a6 s'.heap
 keep:kA (λa=>(Z a).isSome=true∨F a) s.heap s'.heap
 Lp:∀a o,Z a=some o→∃o',a6 a=some o'∧o.like o'
 fresh:∀a,(a6 a).isSome=true→Z a=none→Above s.heap a
 Av:u6 s.heap s'.heap
 nf:∀b o,s.heap.get? b=some o→Bt o→∃o',s'.heap.get? b=some o'∧Bt o'
section
variable {c:Cx}{Z a6 b0 j0:a5}{F G:Addr→Prop}{s f5 j2:Shared}{h h':Heap}{tk:Nat}{a:Addr}
theorem g9{α:Type}{o:Option α}{P:Prop}(h:o.isSome=true) (e:o=none):P:=ff ((congrArg Option.isSome e).symm.trans h)
theorem j3{α:Type}{o:Option α}{x:α}(h:o=some x):o.isSome=true:=congrArg Option.isSome h
theorem i0.trans(x:i0 c Z b0 F s f5) (y:i0 c b0 j0 F f5 j2):i0 c Z j0 F s j2 where
 same:=x.same.elim λh1 e1=>e1.elim λt1 e1=>y.same.imp λh2 e2=>e2.imp λt2 e2=>e2.trans (e1 ▸ rfl)
 rel:=y.rel
 keep:=by
  refine⟨λb o e=>(x.keep.1 b o e).elim λo' e'=>y.keep.1 b o' e',λa o ho hn=>?_⟩
  have hn1:¬ ((b0 a).isSome=true∨F a):=λh=>h.elim (λh=>(x.fresh a h (none_of λo e=>hn (.inl (j3 e)))).not ho) λh=>hn (.inr h)
  have e:=x.keep.2 a o ho hn
  exact⟨e.1.elim λsl e1=>(y.keep.2 a _ e1 hn1).1,λhd=>(y.keep.2 a o (e.2 hd) hn1).2 hd⟩
 Lp:=λa o e=>(x.Lp a o e).elim λo1 l1=>(y.Lp a o1 l1.1).imp λo2 l2=>⟨l2.1,Eq.trans l1.2 l2.2⟩
 fresh:=λa h1 h2=>by
  cases e:b0 a with
  | none=>exact(y.fresh a h1 e).back x.keep.1
  | some o=>exact x.fresh a (j3 e) h2
 Av:=x.Av.trans y.Av
 nf:=λb o e n=>(x.nf b o e n).elim λo1 h1=>y.nf b o1 h1.1 h1.2
theorem i0.Qo(x:i0 c Z b0 F s f5) (h:∀a,F a→G a):i0 c Z b0 G s f5 :=
 {x with keep:=⟨x.keep.1,λa o e n=>x.keep.2 a o e λq=>n (q.imp id (h a))⟩}
theorem i0.N3(x:i0 c Z b0 F s f5){ob:Obj}(h:Z a=none) (hs:s.heap.get? a=some ob):b0 a=none:=none_of λo e=>(x.fresh a (j3 e) h).not hs
noncomputable def FF(c:Cx) (Z:a5) (h:Heap) (l:List Env):Prop:=∀env∈l,env.scope.kind≠.module∧∃L o,env.frame=some L∧c.base.get? L=none∧Z L=none∧h.get? L=some o∧Bt o
theorem FF.move{l:List Env}(x:FF c Z h l) (k1:∀b o,h.get? b=some o→Z b=none→a6 b=none) (k2:∀b o,h.get? b=some o→Bt o→∃o',h'.get? b=some o'∧Bt o'):FF c a6 h' l:=λenv he =>
 ⟨(x env he).1,(x env he).2.imp λL x=>x.elim λo x=>(k2 L o x.2.2.2.1 x.2.2.2.2).imp λo' g=>⟨x.1,x.2.1,k1 L o x.2.2.2.1 x.2.2.1,g⟩⟩
theorem FF.fun{B:Heap}:∀{l:List Env},FF c Z h l→(∀L∈l.filterMap (·.frame),B.get? L=none)→h.FunFrames B l
 | [],_,_=>trivial
 | env::l,x,hB=>by
  obtain⟨h1,L,o,h2,h3,h4,h5,d⟩:=x env (.head _)
  have e:(env::l).filterMap (·.frame)=L::l.filterMap (·.frame):=by rw[List.filterMap_cons,h2]
  rw[e] at hB
  exact⟨h1,⟨L,o,h2,hB L (.head _),h5,d.shape.1⟩,FF.fun (λe he=>x e (.tail _ he)) λL' hL'=>hB L' (.tail _ hL')⟩
theorem Rel.ext(r:Rel c Z h) (k:∀a o,h.get? a=some o→h'.get? a=some o):Rel c Z h' :=
 ⟨λb o e=>k b o (r.1 b o e),r.2,λa o e=>⟨(r.3 a o e).1,(r.3 a o e).2.at_ (k a) λa o e _=>k a o e⟩⟩
theorem i0.ext(r:Rel c Z s.heap) (hs:s.heap.objs.size≤h'.objs.size) (k:∀a o,s.heap.get? a=some o→h'.get? a=some o) :
  i0 c Z Z F s {s with heap:=h',toks:=tk} :=
 ⟨⟨h',tk,rfl⟩,r.ext k,.ext (λb o e=>⟨o,k b o e⟩) λa o e _=>k a o e,λ_ o e=>⟨o,e,rfl⟩,λa h1 h2=>g9 h1 h2,λa o e _=>k a o e,λb o e n=>⟨o,k b o e,n⟩⟩
theorem i0.toks(r:Rel c Z s.heap):i0 c Z Z F s {s with toks:=tk}:=i0.ext (h':=s.heap) r (Nat.le_refl _) λ_ _ e=>e
theorem i0.refl(r:Rel c Z s.heap):i0 c Z Z F s s:=i0.toks (tk:=s.toks) r
theorem Rel.fresh{o:Obj}{P:Prop}(r:Rel c Z h) (ha:h.objs.size≤a) (e:c.base.get? a=some o):P:=(Above.of_le ha).not (r.1 a o e)
theorem i0.new{o:j8}(r:Rel c Z s.heap) (hs:s.heap.objs.size≤h'.objs.size)
  (k:∀a o,s.heap.get? a=some o→h'.get? a=some o) (ha:s.heap.objs.size≤a) (hr:Z8 c.prog c.w h' a o) :
  i0 c Z (j1 Z a o) F s {s with heap:=h',toks:=tk}∧Z a=none:=by
 have hn:Z a=none:=none_of λo' e=>(r.3 a o' e).2.shape.elim λob h=>(Above.of_le ha).not h.1
 have ne {b x}(e:Z b=some x):b≠a:=λq=>nomatch hn.symm.trans ((congrArg Z q).symm.trans e)
 refine⟨⟨⟨h',tk,rfl⟩,⟨λb x e=>k b x (r.1 b x e),r.2,λb x e=>?_⟩,.ext (λb o e=>⟨o,k b o e⟩) λa o e _=>k a o e,λb x e=>⟨x,(i8 (ne e)).trans e,rfl⟩,λb h1 h2=>?_,λa o e _=>k a o e,λb o e n=>⟨o,k b o e,n⟩⟩,hn⟩
 ·by_cases hb:b=a
  ·subst hb
   obtain rfl:=Option.some.inj ((a7 ..).symm.trans e)
   exact⟨⟨none_of λo e=>r.fresh ha e,r.2.elim λb' h=>h.2.elim λo' h2=>Nat.lt_trans h.1 (Nat.lt_of_lt_of_le (Heap.lt_size (r.1 b' o' h2)) ha)⟩,hr⟩
  ·exact(r.ext k).3 b x ((i8 hb).symm.trans e)
 ·by_cases hb:b=a
  ·exact hb ▸ .of_le ha
  ·rw[i8 hb] at h1; exact g9 h1 h2
theorem i0.at_{ob ob':Obj}(r:Rel c Z s.heap) (hb:c.base.get? a=none) (hF:(Z a).isSome=true∨F a) (ho:s.heap.get? a=some ob) (hi:¬Ln ob) (ho':h'.get? a=some ob') (hd:Bt ob→Bt ob') (hs:Heap.SameBut a s.heap h')
  (e:∀b,b≠a→a6 b=Z b) (nn:Z a=none→a6 a=none) (lk:∀o,Z a=some o→∃o',a6 a=some o'∧o.like o') (hr:u6 s.heap h'→∀o,a6 a=some o→2 < a∧Z8 c.prog c.w h' a o):i0 c Z a6 F s {s with heap:=h',toks:=tk}:=by
 have k {b x}(hb:b≠a) (e:s.heap.get? b=some x):h'.get? b=some x:=(hs.2 b hb).trans e
 have ki:u6 s.heap h':=λb x e im=>k (λq=>hi (Option.some.inj ((q ▸ e).symm.trans ho) ▸ im)) e
 refine⟨⟨h',tk,rfl⟩,⟨λb x e=>k (λq=>nomatch hb.symm.trans ((congrArg c.base.get? q).symm.trans e)) (r.1 b x e),r.2,λb x q=>?_⟩,.ext (λb x q=>?_) λb x q n=>k (λh=>n (h ▸ hF)) q,λb x q=>?_,λb h1 h2=>?_,ki,λb x q n=>?_⟩
 all_goals by_cases hba:b=a
 ·subst hba
  exact⟨⟨hb,(hr ki x q).1⟩,(hr ki x q).2⟩
 ·have q:=(e b hba).symm.trans q
  exact⟨(r.3 b x q).1,(r.3 b x q).2.move (hs.2 b hba) ki⟩
 ·exact hba ▸ ⟨ob',ho'⟩
 ·exact⟨x,k hba q⟩
 ·subst hba; exact lk x q
 ·exact⟨x,(e b hba).trans q,rfl⟩
 ·subst hba; exact g9 h1 (nn h2)
 ·exact g9 h1 ((e b hba).trans h2)
 ·subst hba
  exact⟨ob',ho',hd (Option.some.inj (q.symm.trans ho) ▸ n)⟩
 ·exact⟨x,k hba q,n⟩
theorem i0.change{o o':j8}(r:Rel c Z s.heap) (ho:Z a=some o) (hl:o.like o') (hs:Heap.SameBut a s.heap h')
  (hr:u6 s.heap h'→Z8 c.prog c.w h' a o'):i0 c Z (j1 Z a o') F s {s with heap:=h',toks:=tk}:=by
 have ra:=r.3 a o ho
 obtain⟨ob,hob,hf,hi,_⟩:=ra.2.shape
 have ki:u6 s.heap h':=λb x e im=>(hs.2 b λq=>hi (Option.some.inj ((q ▸ e).symm.trans hob) ▸ im)).trans e
 obtain⟨ob',h1,_⟩:=(hr ki).shape
 exact i0.at_ r ra.1.1 (.inl (j3 ho)) hob hi h1 (λn=>(ra.2.cZ hl (hr ki) hob n).elim λx y=>Option.some.inj (h1.symm.trans y.1) ▸ y.2) hs (λb hb=>i8 hb) (λq=>nomatch q.symm.trans ho)
  (λx q=>⟨o',a7 ..,Option.some.inj (q.symm.trans ho) ▸ hl⟩) λ_ x q=>⟨ra.1.2,Option.some.inj ((a7 ..).symm.trans q) ▸ hr ki⟩
theorem i0.own{ob ob':Obj}(r:Rel c Z s.heap) (hn:Z a=none) (hb:c.base.get? a=none) (hF:F a) (ho:s.heap.get? a=some ob)
  (hi:¬ Ln ob) (ho':h'.get? a=some ob') (hf':Bt ob→Bt ob') (hs:Heap.SameBut a s.heap h'):i0 c Z Z F s {s with heap:=h',toks:=tk} :=
 i0.at_ r hb (.inr hF) ho hi ho' hf' hs (λ_ _=>rfl) id (λ_ q=>nomatch hn.symm.trans q) λ_ _ q=>nomatch hn.symm.trans q
end
end Mine
end
section
open PySem PySem.W PyProof.Rows PySem.Calls
set_option Elab.async false
set_option genSizeOf false
set_option genInjectivity false
namespace Mine
open Classical
noncomputable def Ok(c:Cx) (n:Nat) (A:Around) (Z:a5) (h:Heap):Prop :=
 A.depth+3 * n+3 < recursionLimit∧A.units+20 * n+200 < cLine∧A.handled=none∧∃l,A.frames=some l∧FF c Z h l
structure FS where
 sc:List (Str×NameKind)
 res:List (Str×Nat)
structure Bu(c:Cx) (env:Env) (fs:FS) (ρ:Nat→Option V) (Z:a5) (h:Heap):Prop where
 kind:env.scope.kind=.function
 names:env.scope.names=fs.sc
 glob:env.globals=mainGlobals
 blt:env.builtins=builtinsNs
 q8:Z env.locals=none
 T9:c.base.get? env.locals=none
 ns:∃m,h.Ns env.locals m∧∀x i v,fs.res.lookup x=some i→ρ i=some v→env.kindOf x=some .local→∃cv,m x=some cv∧Rep h v cv
 cell:∀x i,fs.res.lookup x=some i→(env.kindOf x=some .cell∨env.kindOf x=some .free) →
  ∃a ov,env.cells.lookup x=some a∧h.IsCell a ov∧Z a=none∧c.base.get? a=none∧∀v,ρ i=some v→∃cv,ov=some cv∧Rep h v cv
 apart:∀x y a,env.cells.lookup x=some a→env.cells.lookup y=some a→x=y
inductive Fn where
 | new
 | left
 | held (L:Addr)
inductive Trace(lo h:Heap) (x:Addr) (vs:Array Value) (fl:Value):Prop
 | mk {T:Addr}{oT:Obj}{ts:Array Value}(h1:vs[1]?=some (.ref T)) (h2:Above lo T) (h3:T≠x) (h4:h.get? T=some oT) (h5:oT.data=.fields ts) (h6:ts[3]?=some fl)
noncomputable def Nr(lo:Heap) (h:Heap) (x:Addr) (vs:Array Value):Fn→Prop
 | .new=>vs[1]?=some .none
 | .left=>Trace lo h x vs .none
 | .held L=>Trace lo h x vs (rawInt L)
inductive ExcAt(c:Cx) (lo:Heap) (k:Fn) (ev:Value) (h:Heap):Prop
 | mk {x:Addr}{o:Obj}{vs:Array Value}{a0:Value}(e:ev=.ref x) (up:Above lo x) (hx:h.get? x=some o) (cls:o.cls=.ref c.i4) (dat:o.data=.fields vs) (arg:vs[0]?=some a0) (nt:Nr lo h x vs k)
section
variable {c:Cx}{lo lo' h:Heap}{x:Addr}{vs:Array Value}{k:Fn}{ev fl:Value}(hk:∀b o,lo'.get? b=some o→∃o',lo.get? b=some o')
include hk
theorem Trace.mono(t:Trace lo h x vs fl):Trace lo' h x vs fl:=match t with
 | ⟨h1,h2,h3,h4,h5,h6⟩=>⟨h1,h2.back hk,h3,h4,h5,h6⟩
theorem ExcAt.mono(x:ExcAt c lo k ev h):ExcAt c lo' k ev h:=match x with
 | ⟨e,up,hx,cls,dat,arg,nt⟩=>⟨e,up.back hk,hx,cls,dat,arg,match k,nt with
  | .new,h=>h
  | .left,h=>h.mono hk
  | .held _,h=>h.mono hk⟩
end
abbrev tT(c:Cx) (lo:Heap) (ev:Value) (h:Heap):Prop:=ExcAt c lo .left ev h
noncomputable def QE(c:Cx) (Z:a5) (s:Shared) (Q:V→a5→Prop):Value→Shared→Prop :=
 λcv s'=>∃v a6,i0 c Z a6 (λ_=>False) s s'∧Rep s'.heap v cv∧Q v a6
noncomputable def QEs(c:Cx) (Z:a5) (s:Shared) (Q:List V→a5→Prop):List Value→Shared→Prop :=
 λcv s'=>∃v a6,i0 c Z a6 (λ_=>False) s s'∧h9 s'.heap v cv∧Q v a6
noncomputable def QB(c:Cx) (Z:a5) (s:Shared) (Q:Bool→a5→Prop):Bool→Shared→Prop :=
 λb s'=>∃a6,i0 c Z a6 (λ_=>False) s s'∧Q b a6
noncomputable def EE(c:Cx) (Z:a5) (s:Shared) (E:a5→Prop):Value→Shared→Prop :=
 λev s'=>∃a6,i0 c Z a6 (λ_=>False) s s'∧tT c s.heap ev s'.heap∧E a6
section
variable {c:Cx}{Z b0:a5}{s f5 s':Shared}
theorem QE.trans{Q:V→a5→Prop}{cv:Value}(p:i0 c Z b0 (λ_=>False) s f5) (h:QE c b0 f5 Q cv s'):QE c Z s Q cv s':=h.imp λv h=>h.imp λa6 h=>⟨p.trans h.1,h.2⟩
theorem QB.trans{Q:Bool→a5→Prop}{b:Bool}(p:i0 c Z b0 (λ_=>False) s f5) (h:QB c b0 f5 Q b s'):QB c Z s Q b s':=h.imp λa6 h=>⟨p.trans h.1,h.2⟩
theorem EE.trans{E:a5→Prop}{ev:Value}(p:i0 c Z b0 (λ_=>False) s f5) (h:EE c b0 f5 E ev s'):EE c Z s E ev s':=h.imp λa6 h=>⟨p.trans h.1,h.2.1.mono p.keep.1,h.2.2⟩
theorem Ok.post{n:Nat}{A:Around}{F:Addr→Prop}(o:Ok c n A Z s.heap) (p:i0 c Z b0 F s f5):Ok c n A b0 f5.heap :=
 ⟨o.1,o.2.1,o.2.2.1,o.2.2.2.imp λl h=>⟨h.1,h.2.move (λ_ _ e h=>p.N3 h e) p.nf⟩⟩
theorem Bu.post{env:Env}{fs:FS}{ρ:Nat→Option V}{F:Addr→Prop}(f:Bu c env fs ρ Z s.heap) (p:i0 c Z b0 F s f5) (hF:∀a,F a→a≠env.locals∧∀x,env.cells.lookup x≠some a) :
  Bu c env fs ρ b0 f5.heap where
 kind:=f.kind
 names:=f.names
 glob:=f.glob
 blt:=f.blt
 q8:=f.ns.elim λm h=>h.1.elim λo h=>h.elim λes h=>h.elim λep h=>p.N3 f.q8 h.1
 T9:=f.T9
 ns:=f.ns.imp λm h=>⟨h.1.elim λo x=>x.elim λes x=>x.elim λep x=>(p.keep.2 _ o x.1 λq=>q.elim (λh=>g9 h f.q8) λh=>(hF _ h).1 rfl).1.elim λsl e=>⟨_,es,ep,e,x.2⟩,
  λx i v h1 h2 h3=>(h.2 x i v h1 h2 h3).imp λcv h=>⟨h.1,h.2.mono p.Av⟩⟩
 cell:=λx i h1 h2=>(f.cell x i h1 h2).imp λa h=>h.imp λov h=>⟨h.1,h.2.1.elim λo y=>⟨o,(p.keep.2 a o y.1 λq=>q.elim (λq=>g9 q h.2.2.1) λq=>(hF _ q).2 x h.1).2 (λes n e=>nomatch y.2.symm.trans e),y.2⟩,
  h.2.1.elim λo y=>p.N3 h.2.2.1 y.1,h.2.2.2.1,λv hv=>(h.2.2.2.2 v hv).imp λcv h=>⟨h.1,h.2.mono p.Av⟩⟩
 apart:=f.apart
theorem Bu.post0{env:Env}{fs:FS}{ρ:Nat→Option V}(f:Bu c env fs ρ Z s.heap) (p:i0 c Z b0 (λ_=>False) s f5):Bu c env fs ρ b0 f5.heap:=f.post p (λ_ h=>h.elim)
end
noncomputable def i3(c:Cx) (n:Nat) (f:V) (vs:List V) (Z:a5) (Q:V→a5→Prop) (E:a5→Prop):Prop :=
 ∀A s cf Nt,Ok c n A Z s.heap→Rel c Z s.heap→Rep s.heap f cf→h9 s.heap vs Nt →
  wpAny (model c.prog c.w) A (call cf Nt) (QE c Z s Q) (EE c Z s E) s
inductive Tg where
 | one (i:Nat)
 | two (i j:Nat)
mutual
inductive X where
 | loc (i:Nat)
 | con (v:V)
 | tup (l:List X)
 | lst (l:List X)
 | dct (l:List X)
 | bin (op:Operator) (a b:X)
 | neg (a:X)
 | not (a:X)
 | and (l:List X)
 | or (l:List X)
 | ite (t:B) (a b:X)
 | cmp (op:CmpOp) (a b:X)
 | call (f:X) (l:List X)
 | meth (o:X) (name:Str) (l:List X)
 | attr (o:X) (name:Str)
 | sub (o i:X)
 | slc (o:X) (lo hi:Option Nat)
 | comp (e:X) (t:Tg) (it:X) (cs:List B)
 | Nu (d:X) (x:Str)
inductive B where
 | not (a:B)
 | and (l:List B)
 | or (l:List B)
 | cmp (op:CmpOp) (a b:X)
 | val (a:X)
end
inductive S where
 | set (i:Nat) (e:X)
 | swap (i j:Nat) (a b:X)
 | aG (i j:Nat) (e:X)
 | j5 (o:X) (name:Str) (e:X)
 | J5 (o i e:X)
 | aug (i:Nat) (op:Operator) (e:X)
 | ite (t:B) (a b:List S)
 | whl (t:B) (b:List S)
 | for (t:Tg) (it:X) (b:List S)
 | ret (e:X)
 | raise (l:List X)
 | exp (e:X)
 | kM (e:X)
 | pass
 | cont
inductive Fl where
 | next
 | cont
 | brk
 | ret (v:V)
abbrev Loc:=Nat→Option V
noncomputable def t8(ρ:Loc) (i:Nat) (v:V):Loc:=λj=>if j=i then some v else ρ j
abbrev S5(o:Option V) (K:V→Prop):Prop:=match o with
 | some v=>K v
 | none=>False
theorem S5.ex{o:Option V}{K:V→Prop}(h:S5 o K):∃v,o=some v∧K v:=match o,h with
 | some v,h=>⟨v,rfl,h⟩
structure U0(r:Bool) (A B:Prop):Prop where
 t:r=true→A
 f:r=false→B
noncomputable def E7(l:List (V×V)) (k:V):Option V:=(l.find? λp=>decide (p.1=k)).map (·.2)
noncomputable def dput(l:List (V×V)) (k v:V):List (V×V):=if (l.any λp=>decide (p.1=k)) then l.map (λp=>if p.1=k then (p.1,v) else p) else l++[(k,v)]
noncomputable def G4:List (V×V)→List (V×V)→List (V×V)
 | l,[]=>l
 | l,p::r=>G4 (dput l p.1 p.2) r
noncomputable def z9:List V→List (V×V)
 | a::b::r=>(a,b)::z9 r
 | _=>[]
noncomputable def U1(l:List V):Prop:=(∀k∈l,∃i,k=.int i)∨(∀k∈l,∃x,k=.str x)∨(∀k∈l,k.hk 8=true∧∃t,k=.tup t)
noncomputable def H6(k:V) (l:List (V×V)):Prop :=
 (∃i,k=.int i∧∀p∈l,∃j,p.1=.int j)∨(∃x,k=.str x∧∀p∈l,∃y,p.1=.str y)∨(k.hk 8=true∧∃t,k=.tup t∧∀p∈l,∃t',p.1=.tup t')
noncomputable def As(v:V) (Z:a5) (Q:Bool→Prop):Prop:=match v with
 | .none=>Q false
 | .bool b=>Q b
 | .int i=>Q (decide (i≠0))
 | .tup l=>l.length≤1000000∧Q (decide (l≠[]))
 | .ref a=>match Z a with
  | some (.list l)=>l.length≤1000000∧Q (decide (l≠[]))
  | _=>False
 | _=>False
abbrev aD(y:V) (K:Int→Prop):Prop:=match y with
 | .int b=>K b
 | _=>False
abbrev Aw(x y:V) (K:Int→Int→Prop):Prop:=aD x λa=>aD y λb=>K a b
abbrev tQ(y:V) (K:List V→Prop):Prop:=match y with
 | .tup b=>K b
 | _=>False
abbrev tE(y:V) (K:Addr→Prop):Prop:=match y with
 | .ref b=>K b
 | _=>False
noncomputable def ADD(x y:V) (Z:a5) (Q:V→a5→Prop):Prop:=match x with
 | .int a=>aD y λb=>Q (.int (a+b)) Z
 | .tup a=>tQ y λb=>a.length+b.length≤1000000∧Q (.tup (a++b)) Z
 | .ref a=>tE y λb=>∃l m,Z a=some (.list l)∧Z b=some (.list m)∧l.length+m.length≤1000000∧∀r,Z r=none→Q (.ref r) (j1 Z r (.list (l++m)))
 | _=>False
noncomputable def MUL(x y:V) (Z:a5) (Q:V→a5→Prop):Prop:=match x with
 | .int a=>aD y λb=>(-(2 ^ 60)≤a∧a≤2 ^ 60∧-(2 ^ 60)≤b∧b≤2 ^ 60)∧Q (.int (a * b)) Z
 | .ref a=>aD y λk=>∃v,Z a=some (.list [v])∧0≤k∧k≤1000∧∀r,Z r=none→Q (.ref r) (j1 Z r (.list (List.replicate k.toNat v)))
 | _=>False
noncomputable def zD(op:Operator) (x y:V) (Z:a5) (Q:V→a5→Prop):Prop:=match op with
 | .Add=>ADD x y Z Q
 | .Mult=>MUL x y Z Q
 | .Sub=>Aw x y λa b=>Q (.int (a - b)) Z
 | .FloorDiv=>Aw x y λa b=>(0 < b∧b < 2 ^ 28∧-(2 ^ 60)≤a∧a≤2 ^ 60)∧Q (.int (a / b)) Z
 | .Mod=>Aw x y λa b=>0 < b∧Q (.int (a % b)) Z
 | .BitOr=>Aw x y λa b=>Q (.int (Builtin.bitOr a b)) Z
 | .BitAnd=>Aw x y λa b=>Q (.int (Builtin.bitAnd a b)) Z
 | _=>False
structure yC(op:Operator) (x y:V) (Z:a5) (Q:V→a5→Prop):Prop where
 h:zD op x y Z Q
noncomputable def kN(x y:V):Prop:=(x.hk 60=true∧y.hk 60=true)∨∃a b,x=.bool a∧y=.bool b
noncomputable def Fo(l:List V):Prop:=∀v∈l,∃i,v=.int i
noncomputable def EQ(x y:V) (Z:a5) (Q:Bool→Prop):Prop:=match x with
 | .ref a=>match y with
  | .ref b=>∃l m,Z a=some (.list l)∧Z b=some (.list m)∧Fo l∧Fo m∧Q (decide (l=m))
  | _=>False
 | .int a=>match y with
  | .int b=>Q (decide (a=b))
  | _=>kN x y∧Q (decide (x=y))
 | _=>kN x y∧Q (decide (x=y))
noncomputable def Ul(c:Cx) (a:Addr) (kvs:List (Int×V)):Prop:=2 < a∧∃l:List (Int×Value),c.base.DictOf (intKind c.prog c.w) a l∧kvs.map (·.1)=l.map (·.1)∧h9 c.base (kvs.map (·.2)) (l.map (·.2))
noncomputable def tF(c:Cx) (x y:V) (Z:a5) (Q:Bool→Prop):Prop:=match y with
 | .str b=>match x with
  | .str a=>∃k,a=⟨#[k]⟩∧Q (decide (k∈b.cps.toList))
  | _=>False
 | .tup l=>x.hk 60=true∧(∀v∈l,v.hk 60=true)∧Q (decide (x∈l))
 | .ref a=>match Z a with
  | some (.list l)=>x.hk 60=true∧(∀v∈l,v.hk 60=true)∧Q (decide (x∈l))
  | some (.dict l)=>H6 x l∧Q ((E7 l x).isSome)
  | _=>False
 | .fix (.ref a)=>match x with
  | .int i=>∃kvs,Ul c a kvs∧Q ((kvs.find? λp=>decide (p.1=i)).isSome)
  | _=>False
 | _=>False
structure IN(c:Cx) (x y:V) (Z:a5) (Q:Bool→Prop):Prop where
 h:tF c x y Z Q
noncomputable def IS(x:V) (Q:Bool→Prop):Prop:=match x with
 | .none=>Q true
 | .bool _=>Q false
 | .int _=>Q false
 | .str _=>Q false
 | .tup _=>Q false
 | .ref _=>Q false
 | _=>False
noncomputable def Uh(c:Cx) (op:CmpOp) (x y:V) (Z:a5) (Q:Bool→Prop):Prop:=match op with
 | .Eq=>EQ x y Z Q
 | .NotEq=>EQ x y Z λb=>Q (!b)
 | .Lt=>Aw x y λa b=>Q (decide (a < b))
 | .LtE=>Aw x y λa b=>Q (decide (a≤b))
 | .Gt=>Aw x y λa b=>Q (decide (b < a))
 | .GtE=>Aw x y λa b=>Q (decide (b≤a))
 | .In=>IN c x y Z Q
 | .NotIn=>IN c x y Z λb=>Q (!b)
 | .Is=>y=.none∧IS x Q
 | .IsNot=>y=.none∧IS x λb=>Q (!b)
abbrev tB(l:List V) (i:V) (K:V→Prop):Prop:=match i with
 | .int k=>match k with
  | .ofNat j=>j < 1152921504606846976∧S5 l[j]? K
  | .negSucc _=>False
 | _=>False
noncomputable def Ei(o i:V) (Z:a5) (Q:V→Prop):Prop:=match o with
 | .tup l=>tB l i Q
 | .str x=>∃k u,i=.int k∧0≤k∧k < 2 ^ 60∧x.cps[k.toNat]?=some u∧Q (.str ⟨#[u]⟩)
 | .ref a=>match Z a with
  | some (.list l)=>tB l i Q
  | some (.dict l)=>H6 i l∧∃v,E7 l i=some v∧Q v
  | _=>False
 | _=>False
noncomputable def cut{α:Type}(l:List α) (lo hi:Option Nat):List α:=(match hi with | some n=>l.take n | none=>l).drop (lo.getD 0)
noncomputable def nU(c:Cx) (a:Addr) (l:List V):Prop:=∃items,c.base.IsList a items∧h9 c.base l items.toList
noncomputable def zE(c:Cx) (o:V) (lo hi:Option Nat) (Z:a5) (Q:V→a5→Prop):Prop:=match o with
 | .tup l=>hi=none∧∃a,lo=some a∧1≤a∧a≤l.length∧l.length≤1000000∧Q (.tup (l.drop a)) Z
 | .ref a=>∃l,Z a=some (.list l)∧l.length≤1000000∧(lo=none∨hi=none)∧∀r,Z r=none→Q (.ref r) (j1 Z r (.list (cut l lo hi)))
 | .fix (.ref a)=>∃l,nU c a l∧l.length≤1000000∧(lo=none∨hi=none)∧∀r,Z r=none→Q (.ref r) (j1 Z r (.list (cut l lo hi)))
 | _=>False
structure SLC(c:Cx) (o:V) (lo hi:Option Nat) (Z:a5) (Q:V→a5→Prop):Prop where
 h:zE c o lo hi Z Q
noncomputable def Y3(c:Cx) (C:Addr) (name:Str):Prop :=
 plainGet c.K C name=true∧hasDictIn c.K C=true∧findIn c.K (.ref C) name=some none
noncomputable def V.Lq:V→Bool
 | .fix _=>false
 | _=>true
inductive G1(c:Cx) (o:V) (name:Str) (Z:a5) (Q:V→Prop):Prop
 | mk {a C dx:Addr}{l:List (Str×V)}{v:V}(e:o=.ref a) (h1:Z a=some (.inst C dx)) (h2:Z dx=some (.ns l)) (h3:l.lookup name=some v) (h4:Y3 c C name) (h5:v.Lq=true) (h6:Q v)
inductive U3(c:Cx) (Z:a5):V→Str→V→Prop
 | append {a:Addr}{l:List V}(h:Z a=some (.list l)):U3 c Z (.ref a) "append" (.fix (.builtin "list.append"))
 | extend {a:Addr}{l:List V}(h:Z a=some (.list l)):U3 c Z (.ref a) "extend" (.fix (.builtin "list.extend"))
 | pop {a:Addr}{l:List V}(h:Z a=some (.list l)):U3 c Z (.ref a) "pop" (.fix (.builtin "list.pop"))
 | get {a:Addr}{l:List (V×V)}(h:Z a=some (.dict l)):U3 c Z (.ref a) "get" (.fix (.builtin "dict.get"))
 | tab {a:Addr}{kvs:List (Int×V)}(h:Ul c a kvs):U3 c Z (.fix (.ref a)) "get" (.fix (.builtin "dict.get"))
 | inst {a C dx f:Addr}{l:List (Str×V)}{name:Str}(h1:Z a=some (.inst C dx)) (h2:Z dx=some (.ns l)) (h3:l.lookup name=none) (h4:plainGet c.K C name=true) (h5:findIn c.K (.ref C) name=some (some (.ref f))) (h6:isFn c.K (.ref f)=true) (h7:keepIn c.K (.ref f)=true):U3 c Z (.ref a) name (.fix (.ref f))
abbrev Ab(c:Cx) (o:V) (name:Str) (Z:a5) (fv:V):Prop:=U3 c Z o name fv
noncomputable def A5(v:V) (Z:a5) (l:List V):Prop:=match v with
 | .tup x=>l=x
 | .rng lo hi=>0≤lo∧lo≤hi∧hi≤1000000∧l=(List.range (hi - lo).toNat).map fun(i:Nat)=>V.int (lo+i)
 | .str x=>(x.cps.all λu=>decide (u < 128))=true∧l=x.cps.toList.map λk=>V.str ⟨#[k]⟩
 | .ref a=>match Z a with
  | some (.list x)=>l=x
  | _=>False
 | _=>False
noncomputable def aC(t:Tg) (v:V) (ρ:Loc) (K:Loc→Prop):Prop:=match t,v with
 | .one i,v=>K (t8 ρ i v)
 | .two i j,.tup [a,b]=>K (t8 (t8 ρ i a) j b)
 | _,_=>False
noncomputable def aH(it:a5→Prop) (step:V→Loc→a5→(Fl→Loc→a5→Prop)→Prop):List V→Loc→a5→(Fl→Loc→a5→Prop)→Prop
 | [],ρ,Z,Q=>it Z∧Q .next ρ Z
 | x::xs,ρ,Z,Q=>it Z∧step x ρ Z λfl u7 a6=>match fl with
  | .next=>aH it step xs u7 a6 Q
  | .cont=>aH it step xs u7 a6 Q
  | .brk=>Q .next u7 a6
  | .ret v=>Q (.ret v) u7 a6
noncomputable def Fp(it:a5→Prop) (step:V→a5→(Option V→a5→Prop)→Prop):List V→List V→a5→(List V→a5→Prop)→Prop
 | [],acc,Z,Q=>it Z∧Q acc Z
 | x::xs,acc,Z,Q=>it Z∧step x Z λr a6=>match r with
  | some v=>Fp it step xs (acc++[v]) a6 Q
  | none=>Fp it step xs acc a6 Q
structure nV(it:a5→List V→Prop) (step:V→a5→(Option V→a5→Prop)→Prop) (Z:a5) (Q:V→a5→Prop):Prop where
 h:∃l,it Z l∧l.length≤1000000∧Fp (λZ=>it Z l) step l [] Z λacc Z=>∀r,Z r=none→Q (.ref r) (j1 Z r (.list acc))
structure tV(it:a5→List V→Prop) (step:V→Loc→a5→(Fl→Loc→a5→Prop)→Prop) (ρ:Loc) (Z:a5) (Q:Fl→Loc→a5→Prop):Prop where
 h:∃l,it Z l∧l.length≤1000000∧aH (λZ=>it Z l) step l ρ Z Q
noncomputable def M6(x:Str):V→Bool
 | .tup (.str y::_)=>x.cps.toList.any λu=>y.cps.toList == [u]
 | _=>false
mutual
noncomputable def WX(c:Cx) (n:Nat):X→Loc→a5→(V→a5→Prop)→(a5→Prop)→Prop
 | .loc i,ρ,Z,Q,_=>S5 (ρ i) λv=>Q v Z
 | .con v,_,Z,Q,_=>Q v Z
 | .tup l,ρ,Z,Q,E=>Ui c n l ρ Z (λvs Z=>Q (.tup vs) Z) E
 | .lst l,ρ,Z,Q,E=>Ui c n l ρ Z (λvs Z=>∀r,Z r=none→Q (.ref r) (j1 Z r (.list vs))) E
 | .dct l,ρ,Z,Q,E=>∀r,Z r=none→Ui c n l ρ (j1 Z r (.dict [])) (λvs Z=>Z r=some (.dict [])∧U1 ((z9 vs).map (·.1))∧Q (.ref r) (j1 Z r (.dict (G4 [] (z9 vs))))) E
 | .bin op a b,ρ,Z,Q,E=>WX c n a ρ Z (λx Z=>WX c n b ρ Z (λy Z=>yC op x y Z Q) E) E
 | .neg a,ρ,Z,Q,E=>WX c n a ρ Z (λx Z=>match x with
  | .int i=>Q (.int (-i)) Z
  | _=>False) E
 | .not a,ρ,Z,Q,E=>WX c n a ρ Z (λx Z=>As x Z λb=>Q (.bool (!b)) Z) E
 | .and l,ρ,Z,Q,E=>qE c n l ρ Z Q E
 | .or l,ρ,Z,Q,E=>zG c n l ρ Z Q E
 | .ite t a b,ρ,Z,Q,E=>WC c n t ρ Z (λr Z=>U0 r (WX c n a ρ Z Q E) (WX c n b ρ Z Q E)) E
 | .cmp op a b,ρ,Z,Q,E=>WX c n a ρ Z (λx Z=>WX c n b ρ Z (λy Z=>Uh c op x y Z λr=>Q (.bool r) Z) E) E
 | .call f l,ρ,Z,Q,E=>WX c n f ρ Z (λfv Z=>Ui c n l ρ Z (λvs Z=>i3 c n fv vs Z Q E) E) E
 | .meth o name l,ρ,Z,Q,E=>WX c n o ρ Z (λov Z=>∃fv,Ab c ov name Z fv∧Ui c n l ρ Z (λvs Z=>i3 c n fv (ov::vs) Z Q E) E) E
 | .attr o name,ρ,Z,Q,E=>WX c n o ρ Z (λov Z=>G1 c ov name Z λv=>Q v Z) E
 | .sub o i,ρ,Z,Q,E=>WX c n o ρ Z (λov Z=>WX c n i ρ Z (λiv Z=>Ei ov iv Z λv=>Q v Z) E) E
 | .slc o lo hi,ρ,Z,Q,E=>WX c n o ρ Z (λov Z=>SLC c ov lo hi Z Q) E
 | .comp e t it cs,ρ,Z,Q,E=>WX c n it ρ Z (λiv Z=>nV (λZ l=>A5 iv Z l) (λx Z K=>aC t x ρ λu7=>Hz c n cs u7 Z (λb Z=>U0 b (WX c n e u7 Z (λv Z=>K (some v) Z) (λ_=>False)) (K none Z)) (λ_=>False)) Z Q) E
 | .Nu d x,ρ,Z,Q,E=>WX c n d ρ Z (λdv Z=>∃a l,dv=.ref a∧Z a=some (.dict l)∧l.length≤1000∧(∀p∈l,p.1.hk 8=true∧∃u t,p.1=.tup (.str ⟨#[u]⟩::t)) ∧
   ∀r,Z r=none→Q (.ref r) (j1 Z r (.list ((l.map (·.1)).filter (M6 x))))) E
noncomputable def Ui(c:Cx) (n:Nat):List X→Loc→a5→(List V→a5→Prop)→(a5→Prop)→Prop
 | [],_,Z,Q,_=>Q [] Z
 | x::xs,ρ,Z,Q,E=>WX c n x ρ Z (λv Z=>Ui c n xs ρ Z (λvs Z=>Q (v::vs) Z) E) E
noncomputable def qE(c:Cx) (n:Nat):List X→Loc→a5→(V→a5→Prop)→(a5→Prop)→Prop
 | [],_,_,_,_=>False
 | x::xs,ρ,Z,Q,E=>WX c n x ρ Z (λv Z=>match xs with
   | []=>Q v Z
   | _=>As v Z λb=>U0 b (qE c n xs ρ Z Q E) (Q v Z)) E
noncomputable def zG(c:Cx) (n:Nat):List X→Loc→a5→(V→a5→Prop)→(a5→Prop)→Prop
 | [],_,_,_,_=>False
 | x::xs,ρ,Z,Q,E=>WX c n x ρ Z (λv Z=>match xs with
   | []=>Q v Z
   | _=>As v Z λb=>U0 b (Q v Z) (zG c n xs ρ Z Q E)) E
noncomputable def WC(c:Cx) (n:Nat):B→Loc→a5→(Bool→a5→Prop)→(a5→Prop)→Prop
 | .not a,ρ,Z,Q,E=>WC c n a ρ Z (λb Z=>Q (!b) Z) E
 | .and l,ρ,Z,Q,E=>Hz c n l ρ Z Q E
 | .or l,ρ,Z,Q,E=>Um c n l ρ Z Q E
 | .cmp op a b,ρ,Z,Q,E=>WX c n a ρ Z (λx Z=>WX c n b ρ Z (λy Z=>Uh c op x y Z λr=>Q r Z) E) E
 | .val x,ρ,Z,Q,E=>WX c n x ρ Z (λv Z=>As v Z λb=>Q b Z) E
noncomputable def Hz(c:Cx) (n:Nat):List B→Loc→a5→(Bool→a5→Prop)→(a5→Prop)→Prop
 | [],_,Z,Q,_=>Q true Z
 | x::xs,ρ,Z,Q,E=>WC c n x ρ Z (λb Z=>U0 b (Hz c n xs ρ Z Q E) (Q false Z)) E
noncomputable def Um(c:Cx) (n:Nat):List B→Loc→a5→(Bool→a5→Prop)→(a5→Prop)→Prop
 | [],_,Z,Q,_=>Q false Z
 | x::xs,ρ,Z,Q,E=>WC c n x ρ Z (λb Z=>U0 b (Q true Z) (Um c n xs ρ Z Q E)) E
end
noncomputable def aI:List (Str×V)→Str→V→List (Str×V)
 | [],x,v=>[(x,v)]
 | (y,u)::r,x,v=>if y=x then (y,v)::r else (y,u)::aI r x v
noncomputable def setName(c:Cx) (C:Addr) (name:Str):Prop :=
 findIn c.K (.ref C) "__setattr__"=some (some (.builtin "object.__setattr__"))∧plainOver c.K C=true∧takerIn c.K C name=some none∧hasDictIn c.K C=true
inductive dA(c:Cx) (o:V) (name:Str) (v:V) (Z:a5) (K:a5→Prop):Prop
 | mk {a C dx:Addr}{l:List (Str×V)}(e:o=.ref a) (h1:Z a=some (.inst C dx)) (h2:Z dx=some (.ns l)) (h3:l.length≤900) (h4:setName c C name) (h5:K (j1 Z dx (.ns (aI l name v))))
noncomputable def Xe(o i v:V) (Z:a5) (K:a5→Prop):Prop:=match o with
 | .ref a=>match Z a with
  | some (.list l)=>∃k,i=.int k∧0≤k∧k.toNat < l.length∧l.length≤1000000∧K (j1 Z a (.list (l.set k.toNat v)))
  | some (.dict l)=>H6 i l∧l.length≤1000000∧K (j1 Z a (.dict (dput l i v)))
  | _=>False
 | _=>False
structure Uo(o i v:V) (Z:a5) (K:a5→Prop):Prop where
 h:Xe o i v Z K
noncomputable def zH(op:Operator) (x y:V) (Z:a5) (K:V→a5→Prop):Prop:=match op with
 | .Add=>match x with
  | .int a=>aD y λb=>K (.int (a+b)) Z
  | .ref a=>tE y λb=>∃l m,Z a=some (.list l)∧Z b=some (.list m)∧l.length+m.length≤1000000∧a≠b∧K (.ref a) (j1 Z a (.list (l++m)))
  | _=>False
 | _=>False
structure tW(op:Operator) (x y:V) (Z:a5) (K:V→a5→Prop):Prop where
 h:zH op x y Z K
mutual
noncomputable def WS(c:Cx) (n:Nat):S→Loc→a5→(Fl→Loc→a5→Prop)→(a5→Prop)→Prop
 | .set i e,ρ,Z,Q,E=>WX c n e ρ Z (λv Z=>Q .next (t8 ρ i v) Z) E
 | .swap i j a b,ρ,Z,Q,E=>WX c n a ρ Z (λx Z=>WX c n b ρ Z (λy Z=>Q .next (t8 (t8 ρ j y) i x) Z) E) E
 | .aG i j e,ρ,Z,Q,E=>WX c n e ρ Z (λv Z=>aC (.two i j) v ρ λu7=>Q .next u7 Z) E
 | .j5 o name e,ρ,Z,Q,E=>WX c n e ρ Z (λv Z=>WX c n o ρ Z (λov Z=>dA c ov name v Z λZ=>Q .next ρ Z) E) E
 | .J5 o i e,ρ,Z,Q,E=>WX c n e ρ Z (λv Z=>WX c n o ρ Z (λov Z=>WX c n i ρ Z (λiv Z=>Uo ov iv v Z λZ=>Q .next ρ Z) E) E) E
 | .aug i op e,ρ,Z,Q,E=>S5 (ρ i) λold=>WX c n e ρ Z (λv Z=>tW op old v Z λr Z=>Q .next (t8 ρ i r) Z) E
 | .ite t a b,ρ,Z,Q,E=>WC c n t ρ Z (λr Z=>U0 r (l6 c n a ρ Z Q E) (l6 c n b ρ Z Q E)) E
 | .whl t b,ρ,Z,Q,E=>∃I:Nat→Loc→a5→Prop,(∃k,I k ρ Z)∧∀k ρ Z,I k ρ Z→WC c n t ρ Z (λr b0 =>
   U0 r (l6 c n b ρ b0 (λfl Xf j0=>match fl with
    | .next=>∃m,m < k∧I m Xf j0
    | .cont=>∃m,m < k∧I m Xf j0
    | .brk=>Q .next Xf j0
    | .ret v=>Q (.ret v) Xf j0) E) (Q .next ρ b0)) E
 | .for t it b,ρ,Z,Q,E=>WX c n it ρ Z (λiv Z=>tV (λZ l=>A5 iv Z l) (λx ρ Z K=>aC t x ρ λu7=>l6 c n b u7 Z K E) ρ Z Q) E
 | .ret e,ρ,Z,Q,E=>WX c n e ρ Z (λv Z=>Q (.ret v) ρ Z) E
 | .raise l,ρ,Z,_,E=>Ui c n l ρ Z (λ_ Z=>E Z) E
 | .exp e,ρ,Z,Q,E=>WX c n e ρ Z (λ_ Z=>Q .next ρ Z) E
 | .kM e,ρ,Z,Q,_=>WX c n e ρ Z (λv Z=>Q (.ret v) ρ Z) (λZ=>∀r,Z r=none→Q (.ret (.ref r)) ρ (j1 Z r (.list [])))
 | .pass,ρ,Z,Q,_=>Q .next ρ Z
 | .cont,ρ,Z,Q,_=>Q .cont ρ Z
noncomputable def l6(c:Cx) (n:Nat):List S→Loc→a5→(Fl→Loc→a5→Prop)→(a5→Prop)→Prop
 | [],ρ,Z,Q,_=>Q .next ρ Z
 | x::xs,ρ,Z,Q,E=>WS c n x ρ Z (λfl ρ Z=>match fl with
  | .next=>l6 c n xs ρ Z Q E
  | .cont=>Q .cont ρ Z
  | .brk=>Q .brk ρ Z
  | .ret v=>Q (.ret v) ρ Z) E
end
structure Good(c:Cx):Prop where
 KX:c.K.In c.base
 nolimit:c.base.NoLimit
 mg:∃mg,c.base.Ns mainGlobals mg
 mb:∃mb,c.base.Ns builtinsNs mb∧∀x:Str,x ≠ "__name__"→mb x=bootBuiltins x
noncomputable def WE(c:Cx) (n:Nat) (env:Env) (fs:FS) (e:Expr) (ρ:Loc) (Z:a5) (Q:V→a5→Prop) (E:a5→Prop):Prop :=
 ∀A s,Ok c n A Z s.heap→Bu c env fs ρ Z s.heap→Rel c Z s.heap→wpAny (model c.prog c.w) A (eval e env) (QE c Z s Q) (EE c Z s E) s
noncomputable def zI(c:Cx) (n:Nat) (env:Env) (fs:FS) (es:List Expr) (ρ:Loc) (Z:a5) (Q:List V→a5→Prop) (E:a5→Prop):Prop :=
 ∀A s pos,Ok c n A Z s.heap→Bu c env fs ρ Z s.heap→Rel c Z s.heap→wpAny (model c.prog c.w) A (spliced (backTo pos (starEach es env))) (QEs c Z s Q) (EE c Z s E) s
noncomputable def WEB(c:Cx) (n:Nat) (env:Env) (fs:FS) (e:Expr) (ρ:Loc) (Z:a5) (Q:Bool→a5→Prop) (E:a5→Prop):Prop :=
 ∀A s,Ok c n A Z s.heap→Bu c env fs ρ Z s.heap→Rel c Z s.heap→wpAny (model c.prog c.w) A (isTrue e env (eval e env)) (QB c Z s Q) (EE c Z s E) s
theorem QE.mk{c:Cx}{Z:a5}{s:Shared}{Q:V→a5→Prop}{v:V}{cv:Value}{tk:Tok}(r:Rel c Z s.heap) (h:Rep s.heap v cv) (q:Q v Z):QE c Z s Q cv {s with toks:=tk} :=
 ⟨v,Z,i0.toks r,h,q⟩
theorem QE.dB{c:Cx}{Z:a5}{s:Shared}{Q:V→a5→Prop}{v:V}{cv:Value}(r:Rel c Z s.heap) (h:Rep s.heap v cv) (q:Q v Z):QE c Z s Q cv s :=
 ⟨v,Z,i0.refl r,h,q⟩
noncomputable def Fq:Value→Option V
 | .none=>some .none
 | .bool b=>some (.bool b)
 | .int i _=>some (.int i)
 | .str s _=>some (.str s)
 | .ref a=>some (.fix (.ref a))
 | .builtin x=>some (.fix (.builtin x))
 | .type x=>some (.fix (.type x))
 | _=>none
theorem Y4{cv:Value}{v:V}(h:Fq cv=some v) (hp:Heap):Rep hp v cv:=by
 cases cv<;>first | exact Option.some.inj h ▸ rfl | exact Option.some.inj h ▸ ⟨_,rfl⟩ | cases h
noncomputable def Lf(K:Frag) (x:Str):Option V:=match nsIn K mainGlobals x with
 | some (some cv)=>Fq cv
 | some none=>if x == ("__name__":Str) then none else (bootBuiltins x).bind Fq
 | none=>none
section
variable {c:Cx}{n:Nat}{env:Env}{fs:FS}{ρ:Loc}{Z:a5}{Q:V→a5→Prop}{E:a5→Prop}
theorem j6{f:FS}{x:Str}{k:NameKind}(h:env.scope.names=f.sc) (e:f.sc.lookup x=some k):env.kindOf x=some k:=by unfold Env.kindOf; rw[h]; exact e
theorem zJ{x:Str}{i:Nat}{pos:Pos}(hx:fs.res.lookup x=some i) (hk:fs.sc.lookup x=some .local∨fs.sc.lookup x=some .cell∨fs.sc.lookup x=some .free)
  (hd:(x == ("__debug__":Str))=false) (hd2:(x == ("__classdict__":Str))=false) (h:S5 (ρ i) λv=>Q v Z):WE c n env fs (.Name x pos) ρ Z Q E:=λA s o f r =>
 h.ex.elim λv h=>wpAny_Name (hk.elim (λhk=>f.ns.elim λm hm=>(hm.2 x i v hx h.1 (j6 f.names hk)).elim λcv e=>wpAny_loadName_local f.kind (j6 f.names hk) hm.1 e.1 (QE.dB r e.2 h.2))
  λhk=>(f.cell x i hx (hk.imp (j6 f.names) (j6 f.names))).elim λa y=>y.elim λov y=>(y.2.2.2.2 v h.1).elim λcv e =>
   have hc:=e.1 ▸ y.2.1
   hk.elim (λhk=>wpAny_loadName_cell f.kind (j6 f.names hk) y.1 hc (QE.dB r e.2 h.2)) λhk=>wpAny_loadName_free f.kind (j6 f.names hk) y.1 hc (QE.dB r e.2 h.2) hd2) hd
theorem Ia{K:Frag}{x:Str}{v:V}{P:Prop}(h:Lf K x=some v) (k1:∀cv,nsIn K mainGlobals x=some (some cv)→Fq cv=some v→P) (k2:nsIn K mainGlobals x=some none→x ≠ "__name__"→∀cv,bootBuiltins x=some cv→Fq cv=some v→P):P:=by
 revert h
 unfold Lf
 cases e:nsIn K mainGlobals x with
 | none=>exact nofun
 | some o =>
  cases o with
  | some cv=>exact λh=>k1 cv e h
  | none =>
   refine λh=>?_
   by_cases q:(x == ("__name__":Str))=true
   ·exact nomatch (if_pos q).symm.trans h
   ·exact(Option.bind_eq_some_iff.mp ((if_neg q).symm.trans h)).elim λcv e2=>k2 e (λe=>q (beq_iff_eq.mpr e)) cv e2.1 e2.2
theorem dC(G:Good c){x:Str}{v:V}{pos:Pos}(hk:fs.sc.lookup x=some .globalImplicit) (hv:Lf c.K x=some v)
  (hd:(x == ("__debug__":Str))=false) (h:Q v Z):WE c n env fs (.Name x pos) ρ Z Q E:=λA s o f r =>
 G.mg.elim λmg hg=>G.mb.elim λmb hb =>
 have hgs:s.heap.Ns env.globals mg:=f.glob ▸ hg.keeps r.1
 Ia hv (λcv e ev=>Name_function_global f.kind (j6 f.names hk) (loadGlobal_global hgs (mg_of G.KX hg e) (QE.dB r (Y4 ev _) h)) hd)
  λe hne cv e1 e2=>Name_function_global f.kind (j6 f.names hk) (loadGlobal_builtin hgs (mg_none_of G.KX hg e) (f.blt ▸ hb.1.keeps r.1) ((hb.2 x hne).trans e1) (QE.dB r (Y4 e2 _) h)) hd
theorem kO{i:Int}{k:Nat}{pos:Pos}(h:Q (.int i) Z):WE c n env fs (.Constant (.int i) k pos) ρ Z Q E :=
 λ_ _ _ _ r=>wpAny_Constant_int (QE.mk r (.int ..) h)
theorem kP{x:Str}{k:Nat}{pos:Pos}(h:Q (.str x) Z):WE c n env fs (.Constant (.str x) k pos) ρ Z Q E :=
 λ_ _ _ _ r=>Constant_str (QE.mk r (.str ..) h)
theorem dD{k:Nat}{pos:Pos}(h:Q .none Z):WE c n env fs (.Constant .none k pos) ρ Z Q E :=
 λ_ _ _ _ r=>wpAny_Constant_none (QE.dB r .none h)
theorem dE{b:Bool}{k:Nat}{pos:Pos}(h:Q (.bool b) Z):WE c n env fs (.Constant (.bool b) k pos) ρ Z Q E :=
 λ_ _ _ _ r=>wpAny_Constant_bool (QE.dB r (.bool b) h)
end
section
variable {c:Cx}{n:Nat}{A:Around}{Z:a5}{s:Shared}{Q:V→a5→Prop}{E:Value→Shared→Prop}
theorem J9{n:Nat}(h:n≤1000000):n≤sizeLine:=by rw[sizeLine_eq]; omega
theorem h9.size{h:Heap}{l:List V}{items:Array Value}(r:h9 h l items.toList):items.size=l.length:=Array.length_toList.symm.trans r.length.symm
section
variable {h:Heap}{x y:V}{c d:Value}
@[elab_as_elim] theorem aD.el {K:Int→Prop}{P:Value→Prop}(h1:aD y K) (hy:Rep h y c) (k:∀b t,K b→P (.int b t)):P c:=by
 cases y<;>first | exact h1.elim | exact hy.Z6 λt=>k _ t h1
@[elab_as_elim] theorem tQ.el {K:List V→Prop}{P:Value→Prop}(h1:tQ y K) (hy:Rep h y c) (k:∀l a items,TupAt h a items→h9 h l items.toList→K l→P (.ref a)):P c:=by
 cases y<;>first | exact h1.elim | exact hy.Ek λa it t r=>k _ a it t r h1
@[elab_as_elim] theorem tE.el {K:Addr→Prop}{P:Value→Prop}(h1:tE y K) (hy:Rep h y c) (k:∀a,K a→P (.ref a)):P c:=by
 cases y<;>first | exact h1.elim | exact hy.E3 (k _ h1)
theorem Aw.el{K:Int→Int→Prop}{P:Value→Value→Prop}(h1:Aw x y K) (hx:Rep h x c) (hy:Rep h y d) (k:∀a b t u,K a b→P (.int a t) (.int b u)):P c d :=
 aD.el (P:=λc=>P c d) h1 hx λa t h1=>aD.el (P:=λd=>P (.int a t) d) h1 hy λb u h1=>k a b t u h1
end
theorem QE.newList{items:List Value}{l:List V}{h':Heap}{tk:Tok}{a:Addr}(r:Rel c Z s.heap) (hr:h9 s.heap l items) (hs:s.heap.objs.size≤h'.objs.size)
  (k:∀a o,s.heap.get? a=some o→h'.get? a=some o) (ha:s.heap.objs.size≤a) (ho:h'.PlainList a items.toArray) (q:∀r,Z r=none→Q (.ref r) (j1 Z r (.list l))) :
  QE c Z s Q (.ref a) {s with heap:=h',toks:=tk}:=by
 have p:=i0.new (F:=λ_=>False) (tk:=tk) (o:=.list l) r hs k ha ⟨_,ho,hr.mono λa o e _=>k a o e⟩
 exact⟨.ref a,_,p.1,.ref a,q a p.2⟩
theorem QE.newTuple{items:Array Value}{l:List V}{h':Heap}{tk:Tok}{a:Addr}(r:Rel c Z s.heap) (hr:h9 s.heap l items.toList) (hs:s.heap.objs.size≤h'.objs.size)
  (k:∀a o,s.heap.get? a=some o→h'.get? a=some o) (ho:TupAt h' a items) (q:Q (.tup l) Z):QE c Z s Q (.ref a) {s with heap:=h',toks:=tk} :=
 ⟨.tup l,Z,i0.ext r hs k,.tup ho (hr.mono λa o e _=>k a o e),q⟩
theorem bits_le{a:Int}(h:a.natAbs≤2 ^ 60):Builtin.Int.intBits a≤64:=by
 unfold Builtin.Int.intBits
 by_cases h0:(a == 0)=true
 ·rw[if_pos h0]; decide
 ·rw[if_neg h0]
  exact Nat.le_trans ((Nat.log2_lt (k:=61) (λe=>h0 (beq_iff_eq.mpr (Int.natAbs_eq_zero.mp e)))).mpr (Nat.lt_of_le_of_lt h (by decide))) (by decide)
theorem Nv{a b:Int}(hb:b.natAbs < 2 ^ 28):Builtin.divisionGoesByPylong a b=false:=by
 unfold Builtin.divisionGoesByPylong
 refine(?_:(decide ((if b == 0 then 0 else b.natAbs.log2 / 30+1) > 300) && _)=false)
 rw[decide_eq_false,Bool.false_and]
 refine Nat.not_lt.mpr ?_
 by_cases h0:(b == 0)=true
 ·rw[if_pos h0]; decide
 ·rw[if_neg h0]
  exact Nat.le_trans (Nat.succ_le_succ (Nat.div_le_of_le_mul (Nat.le_of_lt (Nat.lt_of_lt_of_le ((Nat.log2_lt (k:=28) λe=>h0 (beq_iff_eq.mpr (Int.natAbs_eq_zero.mp e))).mpr hb) (by decide:28≤30 * 1))))) (by decide)
theorem qF{a:Int}(h1:-(2 ^ 60)≤a) (h2:a≤2 ^ 60):a.natAbs≤2 ^ 60:=by omega
theorem Ib{l:List V}{ia:Array Value}(sa:ia.size=l.length) (e:ia.isEmpty=true):l=[]:=List.length_eq_zero_iff.mp (sa.symm.trans (Array.isEmpty_iff_size_eq_zero.mp e))
theorem qG{x y:V}{a b:Value}(hx:Rep s.heap x a) (hy:Rep s.heap y b) (r:Rel c Z s.heap) (h:ADD x y Z Q):wpAny (model c.prog c.w) A (binaryOp .Add a b) (QE c Z s Q) E s:=by
 cases x with
 | int i =>
  obtain⟨t,rfl⟩:=hx
  exact aD.el h hy λb u h=>add_int (QE.mk r (.int ..) h)
 | tup l =>
  refine hx.Ek λa ia ta ra=>tQ.el h hy λm b ib tb rb h=>ta.elim λna ha=>tb.elim λnb hb=>?_
  have sa:=ra.size
  have sb:=rb.size
  have start:∀{S:PySem.Spec},Meets (Builtin.«tuple.__add__» ⟨[.ref a,.ref b],[]⟩) S→S A (wants (λv s'=>QE c Z s Q v s') E) s→wpAny (model c.prog c.w) A (binaryOp .Add (.ref a) (.ref b)) (QE c Z s Q) E s:=λg hS =>
   wpAny_binaryOp_concat ⟨_,ha,rfl⟩ ⟨_,hb,rfl⟩ noFill_tuple_add seq_tuple_add (call_meets F.slot_tuple_add ⟨_,ha,rfl⟩ F.entry_tuple_add (F.args_tuple_add_2 _ _) g hS)
  by_cases e1:ia.isEmpty=true
  ·exact start (AutoSeq1.tuple___add___tuple_tuple_0 a ia na b ib nb e1) ⟨ha,hb,QE.dB r (.tup tb rb) (by rw[Ib sa e1] at h; exact h.2)⟩
  ·by_cases e2:ib.isEmpty=true
   ·exact start (AutoSeq1.tuple___add___tuple_tuple_1 a ia na b ib nb e1 e2) ⟨ha,hb,QE.dB r (.tup ta ra) (by rw[Ib sb e2,List.append_nil] at h; exact h.2)⟩
   ·exact start (AutoSeq1.tuple___add___tuple_tuple_2 a ia na b ib nb e1 e2 (by rw[sa,sb]; exact J9 h.1)) ⟨ha,hb,
     QE.newTuple (h':=s.heap.push _) (tk:=s.toks) r (by rw[Array.toList_append]; exact h9.append rb ra) (by rw[Heap.size_push]; exact Nat.le_succ _) (λa o e=>Heap.get?_push_of_some _ e) ⟨0,Heap.get?_push_size _ rfl⟩ h.2⟩
 | ref a =>
  refine hx.E3 (tE.el h hy λb h=>?_)
  obtain⟨l,m,h1,h2,hz,h⟩:=h
  obtain⟨ia,⟨na,ha⟩,ra⟩:=(r.3 _ _ h1).2
  obtain⟨ib,⟨nb,hb⟩,rb⟩:=(r.3 _ _ h2).2
  refine concat_meets ⟨_,ha,rfl⟩ ⟨_,hb,rfl⟩ noFill_list_add seq_list_add F.slot_list_add F.entry_list_add (F.args_list_add_2 _ _) (AutoSeq1.list___add___list_list_0 a ia na b ib nb (by rw[ra.size,rb.size]; exact J9 hz)) ⟨ha,hb,?_⟩
  exact QE.newList (items:=ia.toList++ib.toList) (tk:=s.toks) r (h9.append rb ra) (by rw[Heap.size_push]; exact Nat.le_succ _) (λa o e=>Heap.get?_push_of_some _ e) (Nat.le_refl _) ⟨0,(Heap.get?_push_size _ rfl).trans (by rw[←Array.toList_append])⟩ h
 | _=>exact h.elim
theorem h9.one{h:Heap}{v:V}{l:List Value}(r:h9 h [v] l):∃cv,l=[cv]∧Rep h v cv:=r.imp λcv r=>r.elim λt r=>⟨r.1.trans (congrArg (List.cons cv) r.2.2),r.2.1⟩
theorem h9.rep{h:Heap}{v:V}{cv:Value}(x:Rep h v cv):∀k:Nat,h9 h (List.replicate k v) (List.replicate k cv)
 | 0=>.nil
 | k+1=>.cons x (h9.rep x k)
theorem Ic{cv:Value}:∀(j:Nat) (acc:Array Value),List.foldl (λx1 x2=>x1++x2) acc (List.replicate j #[cv])=acc++(List.replicate j cv).toArray
 | 0,acc=>by simp
 | j+1,acc=>by rw[List.replicate_succ,List.foldl_cons,Ic j]; apply Array.toList_inj.mp; simp[List.replicate_succ]
theorem qH{x y:V}{a b:Value}(hx:Rep s.heap x a) (hy:Rep s.heap y b) (r:Rel c Z s.heap) (h:MUL x y Z Q):wpAny (model c.prog c.w) A (binaryOp .Mult a b) (QE c Z s Q) E s:=by
 cases x with
 | int i =>
  obtain⟨t,rfl⟩:=hx
  exact aD.el h hy λb u h=>mul_int (QE.mk r (.int ..) h.2) (.of_left (bits_le (qF h.1.1 h.1.2.1)))
 | ref a =>
  refine hx.E3 (aD.el h hy λk t h=>?_)
  obtain⟨v,h1,h2,h3,h⟩:=h
  obtain⟨⟨la⟩,⟨na,ha⟩,ra⟩:=(r.3 _ _ h1).2
  obtain⟨cv,rfl,hcv⟩:=ra.one
  refine wpAny_binaryOp_repeat_ref (T := "list") (U := "int") (by decide) ⟨_,ha,rfl⟩ (λs'=>typeIs_int s' k t) noFill_list_mul F.fills_int_mul F.slot_int_rmul repeat_list F.slot_int_index.lookup
   (call_meets F.slot_int_rmul (typeIs_int s k t) F.entry_int_rmul (F.args_int_rmul_2 _ _) (int___rmul___int_list k t a _ na)
   ⟨ha,rfl,⟨_,ha,rfl⟩,call_meets F.slot_list_mul ⟨_,ha,rfl⟩ F.entry_list_mul (F.args_list_mul_2 _ _)
    (AutoListH.list___mul___list_int_3 a _ na k t (by simp[Builtin.List.listFitsIndex]; omega) (by simp; omega) (by simp[Builtin.List.listTooLong,sizeLine]; omega))
    ⟨ha,?_⟩⟩)
  exact QE.newList (items:=List.replicate k.toNat cv) (tk:=s.toks) r (h9.rep hcv _) (by rw[Heap.size_push]; exact Nat.le_succ _) (λa o e=>Heap.get?_push_of_some _ e) (Nat.le_refl _) ⟨0,(Heap.get?_push_size _ rfl).trans (by
   have:=Ic (cv:=cv) k.toNat #[]
   simp only[Array.empty_append] at this
   simp[this])⟩ h
 | _=>exact h.elim
theorem qI{op:Operator}{x y:V}{a b:Value}(hx:Rep s.heap x a) (hy:Rep s.heap y b) (r:Rel c Z s.heap) (h:yC op x y Z Q):wpAny (model c.prog c.w) A (binaryOp op a b) (QE c Z s Q) E s:=by
 have h:=h.h
 have i {op:Operator}{K:Int→Int→Prop}(h:Aw x y K) (k:∀a b t u,K a b→wpAny (model c.prog c.w) A (binaryOp op (.int a t) (.int b u)) (QE c Z s Q) E s):wpAny (model c.prog c.w) A (binaryOp op a b) (QE c Z s Q) E s:=Aw.el (P:=λa b=>wpAny (model c.prog c.w) A (binaryOp op a b) (QE c Z s Q) E s) h hx hy k
 cases op with
 | Add=>exact qG hx hy r h
 | Mult=>exact qH hx hy r h
 | Sub=>exact i h λa b t u h=>sub_int (QE.mk r (.int ..) h)
 | FloorDiv=>exact i h λa b t u h=>floordiv_int (Int.ne_of_gt h.1.1) (QE.mk r (.int ..) (Int.fdiv_eq_ediv_of_nonneg _ (Int.le_of_lt h.1.1) ▸ h.2)) (.inl (Nv (by have:=h.1; omega)))
 | Mod=>exact i h λa b t u h=>mod_int' (Int.ne_of_gt h.1) (QE.mk r (.int ..) (Int.fmod_eq_emod_of_nonneg _ (Int.le_of_lt h.1) ▸ h.2))
 | BitOr=>exact i h λa b t u h=>or_int (QE.mk r (.int ..) h)
 | BitAnd=>exact i h λa b t u h=>and_int (QE.mk r (.int ..) h)
 | _=>exact h.elim
theorem Ie{n:Nat}(h:n≤1000000):(n:Int) < 2 ^ 63:=by omega
theorem Bv{l:List V}{ia:Array Value}(sa:ia.size=l.length){i:Decidable (l≠[])}:(!ia.isEmpty)=decide (l≠[]):=y4 ((iff_of_eq (Bool.not_eq_true' _)).trans ⟨λe q=>absurd (Array.isEmpty_iff_size_eq_zero.mpr (sa.trans (congrArg List.length q))) (Bool.eq_false_iff.mp e),λh=>Bool.eq_false_iff.mpr λe=>h (Ib sa e)⟩)
theorem Qp{v:V}{a:Value}{Q:Bool→a5→Prop}(hv:Rep s.heap v a) (r:Rel c Z s.heap) (h:As v Z λb=>Q b Z):wpAny (model c.prog c.w) A (truthy a) (QB c Z s Q) E s:=by
 cases v with
 | none=>exact hv.noneE (truthy_none ⟨Z,i0.refl r,h⟩)
 | bool b=>exact hv.Lm (wpAny_truthy_bool ⟨Z,i0.refl r,h⟩)
 | int i=>exact hv.Z6 λt=>PySem.P.truthy_int ⟨Z,i0.refl r,(y4 bne_iff_ne:(i != 0)=decide (i≠0)) ▸ h⟩
 | tup l=>exact hv.Ek λa ia ta ra=>truthy_tuple ta.isTuple (Ie (ra.size ▸ h.1)) ⟨Z,i0.toks r,Bv ra.size ▸ h.2⟩
 | ref a =>
  refine hv.E3 ?_
  unfold As at h
  dsimp only at h
  cases hl:Z a with
  | none=>rw[hl] at h; exact h.elim
  | some o =>
   rw[hl] at h
   cases o with
   | list l =>
    obtain⟨ia,⟨na,ha⟩,ra⟩:=(r.3 _ _ hl).2
    exact wpAny_truthy_list ⟨_,ha,rfl,na,rfl⟩ (Ie (ra.size ▸ h.1)) ⟨Z,i0.toks r,Bv ra.size ▸ h.2⟩
   | _=>exact h.elim
 | _=>exact h.elim
end
theorem V.Ax{l:List V}{d:Nat}(h:∀v∈l,v.hk d=true):V.hks l d=true:=List.all_eq_true.mpr h
theorem Fo.hks{l:List V}(h:Fo l):V.hks l 60=true:=V.Ax λv hv=>(h v hv).elim λi e=>e ▸ rfl
section
variable {c:Cx}{n:Nat}{A:Around}{Z:a5}{s:Shared}{E:Value→Shared→Prop}
theorem Bw{α β γ:Type}{f:α→γ}{g:β→γ}{l:List β}(e:[].map f=l.map g):l=[]:=List.map_eq_nil_iff.mp e.symm
theorem K0{K β:Type}[DecidableEq K]{h:Heap}{f:K→V}{g:β→Value}(hf:∀a b,f a=f b→a=b){k:K}:∀{l:List (V×V)}{qs:List (K×β)},l.map (·.1)=qs.map (λq=>f q.1)→h9 h (l.map (·.2)) (qs.map λq=>g q.2) →
  (E7 l (f k)).isSome=((qs.find? λq=>decide (q.1=k)).map (·.2)).isSome∧∀v,E7 l (f k)=some v→∃b,(qs.find? λq=>decide (q.1=k)).map (·.2)=some b∧Rep h v (g b)
 | [],qs,e,_=>Bw e ▸ ⟨rfl,nofun⟩
 | _::_,[],e,_=>nomatch e
 | p::l,q::qs,e,r=>r.elim λcv r=>r.elim λt r=>by
  have e1:=(List.cons.inj e).1
  have er:=List.cons.inj r.1
  unfold E7
  by_cases hk:q.1=k
  ·rw[List.find?_cons_of_pos (by exact decide_eq_true (e1.trans (congrArg f hk))),List.find?_cons_of_pos (by exact decide_eq_true hk)]
   exact⟨rfl,λv hv=>⟨q.2,rfl,(show g q.2=cv from er.1) ▸ Option.some.inj hv ▸ r.2.1⟩⟩
  ·rw[List.find?_cons_of_neg (by exact λx=>hk (hf _ _ (e1.symm.trans (of_decide_eq_true x)))),List.find?_cons_of_neg (by exact λx=>hk (of_decide_eq_true x))]
   exact K0 hf (List.cons.inj e).2 (er.2 ▸ r.2.2)
theorem dF(a b:Str) (e:V.str a=V.str b):a=b:=V.str.inj e
theorem Qq(a b:Int) (e:V.int a=V.int b):a=b:=V.int.inj e
section
variable {prog:Program}{w:World}{h:Heap}{a:Addr}{l:List (V×V)}
theorem Qr{K:Type}[DecidableEq K]{knd:KeyKind prog w K}{kvs:List (K×Value)}(hd:h.DictOf knd a kvs) (e:kvs=[]):∃o ep,h.get? a=some o∧o.ExactDict∧o.data=.dict #[] ep:=by
 subst e
 obtain⟨o,⟨les⟩,ep,h1,h2,h3,h4,h5,h6⟩:=hd
 cases h5
 exact⟨o,ep,h1,h2,h3⟩
theorem Z7.empty(r:Z7 prog w h a []):∃o ep,h.get? a=some o∧o.ExactDict∧o.data=.dict #[] ep:=by
 rcases r with⟨kvs,hd,e,_⟩ | ⟨kvs,hd,e,_⟩ | ⟨xs,⟨o,⟨les⟩,ep,h1,h2,h3,h4,_⟩,e,_⟩
 ·exact Qr hd (Bw e)
 ·exact Qr hd (Bw e)
 ·cases Bw e
  obtain rfl:les=[]:=h4
  exact⟨o,ep,h1,h2,h3⟩
theorem of_empty{K:Type}[DecidableEq K]{knd:KeyKind prog w K}(x:∃o ep,h.get? a=some o∧o.ExactDict∧o.data=.dict #[] ep):h.DictOf knd a []:=x.imp λo x=>⟨#[],x.imp λep x=>⟨x.1,x.2.1,x.2.2,λe he=>(nomatch he),.nil,List.nodup_nil⟩⟩
theorem Ig{β:Type}{p:V×V}{l:List (V×V)}{qs:List β}{g:β→V}(e:(p::l).map (·.1)=qs.map g):∃q∈qs,g q=p.1:=List.mem_map.mp (e ▸ List.mem_cons_self)
theorem tZ{p:V×V}{l:List (V×V)}{xs:List (V×Addr×Value)}(hd:h.DictOfH (J8 prog w) a xs) (e:(p::l).map (·.1)=xs.map (·.1)):∃b,Rep h p.1 (.ref b):=(Ig e).elim λq hq=>hd.elim λo x=>x.elim λes x=>x.elim λep x=>⟨_,hq.2 ▸ (x.2.2.2.2.1 q hq.1).1⟩
theorem Qs(r:Z7 prog w h a l) (hl:∀p∈l,∃j,p.1=V.int j) :
  ∃kvs:List (Int×Value),h.DictOf (intKind prog w) a kvs∧l.map (·.1)=kvs.map (λq=>V.int q.1)∧h9 h (l.map (·.2)) (kvs.map (·.2)):=by
 cases l with
 | nil=>exact⟨[],of_empty r.empty,rfl,.nil⟩
 | cons p l =>
  obtain⟨j,hj⟩:=hl p (.head _)
  exact r.elim id λr=>r.elim (λx=>x.elim λkvs x=>(Ig x.2.1).elim λq hq=>nomatch hq.2.trans hj) λx=>x.elim λxs x=>(tZ x.1 x.2.1).elim λb y=>(show Rep h (.int j) (.ref b) from hj ▸ y).elim nofun
theorem dG(r:Z7 prog w h a l) (hl:∀p∈l,∃j,p.1=V.str j) :
  ∃kvs:List (Str×Value),h.DictOf (PySem.strKind prog w) a kvs∧l.map (·.1)=kvs.map (λq=>V.str q.1)∧h9 h (l.map (·.2)) (kvs.map (·.2)):=by
 cases l with
 | nil=>exact⟨[],of_empty r.empty,rfl,.nil⟩
 | cons p l =>
  obtain⟨j,hj⟩:=hl p (.head _)
  exact r.elim (λx=>x.elim λkvs x=>(Ig x.2.1).elim λq hq=>nomatch hq.2.trans hj) λr=>r.elim id λx=>x.elim λxs x=>(tZ x.1 x.2.1).elim λb y=>(show Rep h (.str j) (.ref b) from hj ▸ y).elim nofun
theorem Qt(r:Z7 prog w h a l) (hl:∀p∈l,∃t,p.1=V.tup t) :
  ∃xs:List (V×Addr×Value),h.DictOfH (J8 prog w) a xs∧l.map (·.1)=xs.map (·.1)∧h9 h (l.map (·.2)) (xs.map (·.2.2)):=by
 cases l with
 | nil=>exact⟨[],r.empty.imp λo x=>⟨#[],x.imp λep x=>⟨x.1,x.2.1,x.2.2,rfl,(λp hp=>(List.not_mem_nil hp).elim),List.nodup_nil⟩⟩,rfl,.nil⟩
 | cons p l =>
  obtain⟨j,hj⟩:=hl p (.head _)
  exact r.elim (λx=>x.elim λkvs x=>(Ig x.2.1).elim λq hq=>nomatch hq.2.trans hj) λr=>r.elim (λx=>x.elim λkvs x=>(Ig x.2.1).elim λq hq=>nomatch hq.2.trans hj) id
end
theorem Ft{a:Addr}(h:2 < a):(a == sysModules)=false:=beq_eq_false_iff_ne.mpr λe=>absurd (e ▸ h) (by decide)
theorem not_modules{a:Addr}{o:j8}(r:Rel c Z s.heap) (h:Z a=some o):(a == sysModules)=false:=Ft (r.3 a o h).1.2
noncomputable def Still(s:Shared) (Q:Bool→Prop):Value→Shared→Prop:=λcv s'=>∃b tk,cv=.bool b∧Q b∧s'={s with toks:=tk}
theorem Bx{x:V}(h1:x.hk 60=true):∀{l:List V},V.hks l 60=true→((V.Xa l).any λy=>PyData.eqv y x.pd)=decide (x∈l)
 | [],_=>(decide_eq_false nofun).symm
 | z::zs,h2=>V.F4 h2 λp q=>y4 ((Bool.eq_iff_iff.mp ((congr (congrArg or (V.eqv p h1)) (Bx h1 q)).trans (Bool.decide_or ..).symm)).trans (decide_eq_true_iff.trans ((or_congr_left ⟨Eq.symm,Eq.symm⟩).trans List.mem_cons.symm)))
theorem kQ{a d:Addr}{k:V}{xs:List (V×Addr×Value)}{Q:Value→Shared→Prop}(hu:A.units+1+9 < cLine) (hkey:(J8 c.prog c.w).is s.heap k a) (hd:(d == sysModules)=false) (hm:s.heap.DictOfH (J8 c.prog c.w) d xs)
  (h:Q (.bool (!(atKey xs k).isSome)) {s with toks:=s.toks+(J8 c.prog c.w).draws k}):wpAny (model c.prog c.w) A (compareOp .NotIn (.ref a) (.ref d)) Q E s:=by
 refine(?_:wpAny _ _ (do return .bool (!(←contains (.ref d) (.ref a)))) Q E s)
 refine wpAny_bind (wpAny_contains_slot hm.typeIs slot_dict_contains (wpAny_call_entry slot_dict_contains hm.typeIs entry_dict_contains ?_ (args_dict_contains _ _)))
 refine(?_:wpAny _ _ (dictGet d (.ref a) >>= _) _ _ s)
 refine wpAny_bind (wpAny_dictGet_heap (knd:=J8 c.prog c.w) hu hkey hm ?_)
 cases hf:atKey xs k with
 | some p =>
  rw[hf] at h
  exact wpAny_pure ⟨_,rfl,wpAny_truthy_bool (wpAny_pure h)⟩
 | none =>
  rw[hf] at h
  exact wpAny_bind (wpAny_pendingKey_other hd (wpAny_pure ⟨_,rfl,wpAny_truthy_bool (wpAny_pure h)⟩))
theorem Nw{a:Addr}{kvs:List (Int×V)}(r:Rel c Z s.heap) (h:Ul c a kvs):(a == sysModules)=false∧∃l:List (Int×Value),s.heap.DictOf (intKind c.prog c.w) a l∧kvs.map (·.1)=l.map (·.1)∧h9 s.heap (kvs.map (·.2)) (l.map (·.2)) :=
 ⟨Ft h.1,h.2.imp λl x=>⟨dictAt x.1 (r.stays a),x.2.1,x.2.2.mono λa o e _=>r.stays a o e⟩⟩
theorem Qu{α β:Type}[DecidableEq α]{l:List (α×β)}{i:α}:(l.find? λp=>decide (p.1=i)).isSome=(l.map (·.1)).any λa=>decide (a=i):=List.isSome_find?.trans (List.any_map (f:=Prod.fst) (p:=λa=>decide (a=i))).symm
theorem dH{kvs:List (Int×V)}{l:List (Int×Value)}(e:kvs.map (·.1)=l.map (·.1)) (i:Int):((kvs.find? λp=>decide (p.1=i)).isSome)=(valueAt l i).isSome :=
 (Qu.trans ((congrArg (List.any · _) e).trans Qu.symm)).trans Option.isSome_map.symm
theorem Nx{prog:Program}{w:World}{h:Heap}{a:Addr}{l:List (V×V)}{x:V}{cx:Value}{P:Value→Prop}(hx:Rep h x cx) (rd:Z7 prog w h a l) (hk:H6 x l)
  (k1:∀{K:Type}[DecidableEq K]{knd:KeyKind prog w K}{f:K→V}{k:K}{kvs:List (K×Value)}{cx:Value},(∀a b,f a=f b→a=b)→x=f k→knd.is k cx=true→h.DictOf knd a kvs→l.map (·.1)=kvs.map (λq=>f q.1)→h9 h (l.map (·.2)) (kvs.map λq=>q.2) →
   (∀{h':Heap}{l':List (V×V)}{kvs':List (K×Value)},h'.DictOf knd a kvs'→l'.map (·.1)=kvs'.map (λq=>f q.1)→h9 h' (l'.map (·.2)) (kvs'.map λq=>q.2)→Z7 prog w h' a l')→P cx)
  (k2:∀{b:Addr}{xs:List (V×Addr×Value)},(J8 prog w).is h x b→h.DictOfH (J8 prog w) a xs→l.map (·.1)=xs.map (·.1)→h9 h (l.map (·.2)) (xs.map λq=>q.2.2)→P (.ref b)):P cx:=by
 rcases hk with⟨i,rfl,hk⟩ | ⟨i,rfl,hk⟩ | ⟨h8,t,rfl,hk⟩
 ·exact(Qs rd hk).elim λkvs x=>hx.Z6 λt=>k1 Qq rfl (intKind_is _ _ _ _) x.1 x.2.1 x.2.2 λa b c=>.inl ⟨_,a,b,c⟩
 ·exact(dG rd hk).elim λkvs x=>hx.Nq λt=>k1 dF rfl (strKind_is _ _ _ _) x.1 x.2.1 x.2.2 λa b c=>.inr (.inl ⟨_,a,b,c⟩)
 ·exact(Qt rd hk).elim λxs x=>hx.Ek λa' it ta tb=>k2 ⟨.tup ta tb,h8⟩ x.1 x.2.1 x.2.2
section
variable {Q:Bool→Prop}{neg:Bool}{cx:Value}
theorem U4{P:CmpOp→Bool→Prop}(h1:P .In false) (h2:P .NotIn true):P (if neg then .NotIn else .In) neg:=by cases neg<;>assumption
theorem dI{K:Type}[DecidableEq K]{knd:KeyKind c.prog c.w K}{k:K}{d:Addr}{f:K→Option Value}{b:Bool}(hkey:knd.is k cx=true) (hd:(d == sysModules)=false) (hm:s.heap.MapOf knd d f) (e:b=(f k).isSome) (h:Q (if neg then !b else b)) :
  wpAny (model c.prog c.w) A (compareOp (if neg then .NotIn else .In) cx (.ref d)) (Still s Q) E s :=
 U4 (P:=λop neg=>Q (if neg then !b else b)→wpAny (model c.prog c.w) A (compareOp op cx (.ref d)) (Still s Q) E s) (λh=>wpAny_in_of hkey hd hm ⟨_,_,rfl,e ▸ h,rfl⟩) (λh=>wpAny_notIn_of hkey hd hm ⟨_,_,rfl,e ▸ h,rfl⟩) h
theorem min_le{a b:Nat}(hu:A.units+200 < cLine) (h:b≤61):A.units+1+min a b < cLine:=Nat.lt_of_le_of_lt (by have:=Nat.min_le_right a b; omega:A.units+1+min a b≤A.units+200) hu
theorem qJ{x:V}{a:Addr}(hx:Rep s.heap x cx) (r:Rel c Z s.heap) (hu:A.units+200 < cLine) (h:tF c x (.ref a) Z λb=>Q (if neg then !b else b)) :
  wpAny (model c.prog c.w) A (compareOp (if neg then .NotIn else .In) cx (.ref a)) (Still s Q) E s:=by
 unfold tF at h
 dsimp only at h
 cases hl:Z a with
 | none=>rw[hl] at h; exact h.elim
 | some o =>
  rw[hl] at h
  have ra:=(r.3 _ _ hl).2
  cases o with
  | list l =>
   obtain⟨h1,h2,h⟩:=h
   have h2:=V.Ax h2
   obtain⟨ia,⟨na,ha⟩,rl⟩:=ra
   obtain⟨as,ra⟩:=(V.keys h2).reads rl
   obtain⟨bs,rb⟩:=(V.key h1).reads hx
   have hm:=min_le (a:=PyData.depthAll (V.Xa l)) hu (V.key h1).dep
   exact U4 (P:=λop neg=>Q (if neg then !(decide (x∈l)) else decide (x∈l))→wpAny (model c.prog c.w) A (compareOp op cx (.ref a)) (Still s Q) E s)
    (λh=>SeqAt.in_list_reads (Reads.list ha rfl rfl ra) rb (V.keys h2).can (V.key h1).can hm ⟨_,s.toks,rfl,Bx h1 h2 ▸ h,rfl⟩)
    (λh=>SeqAt.notIn_list_reads (Reads.list ha rfl rfl ra) rb (V.keys h2).can (V.key h1).can hm ⟨_,s.toks,rfl,Bx h1 h2 ▸ h,rfl⟩) h
  | dict l =>
   have lo:=not_modules r hl
   have rd:Z7 c.prog c.w s.heap a l:=ra
   refine Nx (P:=λcx=>wpAny (model c.prog c.w) A (compareOp (if neg then .NotIn else .In) cx (.ref a)) (Still s Q) E s) hx rd h.1 (λfi e ki hd e1 e2 _=>dI ki lo hd.mapOf (e ▸ (K0 (g:=id) fi e1 e2).1) h.2) fun {b xs} ki hd e1 e2=>?_
   have ev:_=(atKey xs x).isSome:=(K0 (f:=id) (g:=λp:Addr×Value=>p.2) (k:=x) (λ_ _=>id) e1 e2).1
   have hu':A.units+1+9 < cLine:=Nat.lt_of_le_of_lt (by omega:A.units+1+9≤A.units+200) hu
   exact U4 (P:=λop neg=>Q (if neg then !((E7 l x).isSome) else (E7 l x).isSome)→wpAny (model c.prog c.w) A (compareOp op (.ref b) (.ref a)) (Still s Q) E s)
     (λh=>wpAny_in_heap (knd:=J8 c.prog c.w) hu' ki lo hd ⟨_,_,rfl,ev ▸ h,rfl⟩) (λh=>kQ hu' ki lo hd ⟨_,_,rfl,ev ▸ h,rfl⟩) h.2
  | _=>exact h.elim
theorem nW{x y:V}{cx cy:Value}{Q:Bool→Prop}(neg:Bool) (hx:Rep s.heap x cx) (hy:Rep s.heap y cy) (r:Rel c Z s.heap) (hu:A.units+200 < cLine) (h:IN c x y Z λb=>Q (if neg then !b else b)) :
  wpAny (model c.prog c.w) A (compareOp (if neg then .NotIn else .In) cx cy) (Still s Q) E s:=by
 replace h:=h.h
 cases y with
 | str b =>
  cases x with
  | str a =>
   obtain⟨k,rfl,h⟩:=h
   exact hx.Nq λt=>hy.Nq λu=>U4 (P:=λop neg=>Q (if neg then !(decide (k∈b.cps.toList)) else decide (k∈b.cps.toList))→wpAny (model c.prog c.w) A (compareOp op (.str ⟨#[k]⟩ t) (.str b u)) (Still s Q) E s)
    (λh=>P.in_str ⟨_,_,rfl,StrLaws.found_one b k ▸ h,rfl⟩) (λh=>P.notIn_str ⟨_,_,rfl,StrLaws.found_one b k ▸ h,rfl⟩) h
  | _=>exact h.elim
 | tup l =>
  obtain⟨h1,h2,h⟩:=h
  have h2:=V.Ax h2
  obtain⟨as,ra⟩:=(V.key (v:=.tup l) (d:=61) h2).reads hy
  obtain⟨bs,rb⟩:=(V.key h1).reads hx
  have hm:=min_le (a:=PyData.depthAll (V.Xa l)) hu (V.key h1).dep
  exact U4 (P:=λop neg=>Q (if neg then !(decide (x∈l)) else decide (x∈l))→wpAny (model c.prog c.w) A (compareOp op cx cy) (Still s Q) E s)
   (λh=>SeqAt.in_tuple_reads ra rb (V.keys h2).can (V.key h1).can hm ⟨_,s.toks,rfl,Bx h1 h2 ▸ h,rfl⟩)
   (λh=>SeqAt.notIn_tuple_reads ra rb (V.keys h2).can (V.key h1).can hm ⟨_,s.toks,rfl,Bx h1 h2 ▸ h,rfl⟩) h
 | ref a=>exact hy.E3 (qJ hx r hu h)
 | fix v =>
  cases v with
  | ref a =>
   cases x with
   | int i =>
    obtain⟨kvs,ht,h⟩:=h
    obtain⟨lo,l,hd,e1,e2⟩:=Nw r ht
    exact hy.Qm (hx.Z6 λt=>dI (intKind_is _ _ _ _) lo hd.mapOf (dH e1 i) h)
   | _=>exact h.elim
  | _=>exact h.elim
 | _=>exact h.elim
end
end
section
variable {c:Cx}{n:Nat}{A:Around}{Z:a5}{s:Shared}{E:Value→Shared→Prop}
theorem Lr{d:PyData}(h:d.canLay0=true) (hd:d.depth≤64):SeqAt.shaped d=true:=Bool.and_eq_true_iff.mpr ⟨h,decide_eq_true hd⟩
theorem Ay{dx dy:PyData}{cx cy:Value}{as bs:List Addr}{Q:Bool→Prop}{neg b:Bool}(ra:Reads s.heap cx dx as) (rb:Reads s.heap cy dy bs) (sx:SeqAt.shaped dx=true) (sy:SeqAt.shaped dy=true) (e:PyData.eqv dx dy=b)
  (hu:A.units+200 < cLine) (h:Q (if neg then !b else b)):wpAny (model c.prog c.w) A (compareOp (if neg then .NotEq else .Eq) cx cy) (Still s Q) E s:=by
 subst e
 have hu:A.units+64 < cLine:=Nat.lt_of_le_of_lt (Nat.add_le_add_left (by decide) _) hu
 cases neg
 ·exact SeqAt.compareEq_shaped ra rb sx sy hu ⟨_,s.toks,rfl,h,rfl⟩
 ·exact SeqAt.compareNe_shaped ra rb sx sy hu ⟨_,s.toks,rfl,h,rfl⟩
theorem Ih{x:V}(h:x.hk 60=true):SeqAt.shaped x.pd=true:=Lr (V.key h).can (Nat.le_trans (V.key h).dep (by decide))
theorem Fu{l:List V}(h:Fo l):SeqAt.shaped (.list (V.Xa l))=true:=Lr (V.keys h.hks).can (Nat.succ_le_succ (Nat.le_trans (V.keys h.hks).dep (by decide)))
theorem kR{l m:List V}(i1:Fo l) (i2:Fo m):PyData.eqvAll (V.Xa l) (V.Xa m)=decide (l=m):=y4 (V.eqvs (λv hv y hy=>V.Xb hv hy) i1.hks i2.hks)
theorem Ii{x y:V}{cx cy:Value}{Q:Bool→Prop}{neg:Bool}(hx:Rep s.heap x cx) (hy:Rep s.heap y cy) (hu:A.units+200 < cLine) (h:kN x y∧Q (if neg then !(decide (x=y)) else decide (x=y))) :
  wpAny (model c.prog c.w) A (compareOp (if neg then .NotEq else .Eq) cx cy) (Still s Q) E s:=by
 rcases h.1 with⟨h3,h4⟩ | ⟨a,b,rfl,rfl⟩
 ·exact((V.key h3).reads hx).elim λas ra=>((V.key h4).reads hy).elim λbs rb=>Ay ra rb (Ih h3) (Ih h4) (V.eqv h3 h4) hu h.2
 ·exact hx.Lm (hy.Lm (Ay (.bool a) (.bool b) rfl rfl (y4 (beq_iff_eq.trans ⟨congrArg V.bool,V.bool.inj⟩)) hu h.2))
theorem nX{x y:V}{cx cy:Value}{Q:Bool→Prop}(neg:Bool) (hx:Rep s.heap x cx) (hy:Rep s.heap y cy) (r:Rel c Z s.heap) (hu:A.units+200 < cLine) (h:EQ x y Z λb=>Q (if neg then !b else b)) :
  wpAny (model c.prog c.w) A (compareOp (if neg then .NotEq else .Eq) cx cy) (Still s Q) E s:=by
 cases x with
 | ref a =>
  cases y with
  | ref b =>
   obtain⟨l,m,h1,h2,i1,i2,h⟩:=h
   obtain⟨ia,⟨na,ha⟩,rl⟩:=(r.3 _ _ h1).2
   obtain⟨ib,⟨nb,hb⟩,rm⟩:=(r.3 _ _ h2).2
   exact hx.E3 (hy.E3 (((V.keys i1.hks).reads rl).elim λas ra=>((V.keys i2.hks).reads rm).elim λbs rb=>Ay (.list ha rfl rfl ra) (.list hb rfl rfl rb) (Fu i1) (Fu i2) (kR i1 i2) hu h))
  | _=>exact h.elim
 | int a =>
  cases y with
  | int b=>exact Ii (y:=.int b) hx hy hu ⟨.inl ⟨rfl,rfl⟩,(y4 (decide_eq_true_iff.trans ⟨congrArg V.int,V.int.inj⟩):decide (a=b)=decide (V.int a=V.int b)) ▸ h⟩
  | _=>exact Ii hx hy hu h
 | _=>exact Ii hx hy hu h
theorem El{cx:Value}{Q:Bool→Prop}{neg b:Bool}(hp:PySem.plainIs cx .none=true) (hb:(cx == Value.none)=b) (hq:Q (if neg then !b else b)):wpAny (model c.prog c.w) A (compareOp (if neg then .IsNot else .Is) cx .none) (Still s Q) E s:=by
 subst hb
 cases neg
 ·exact wpAny_is_plain hp ⟨_,s.toks,rfl,hq,rfl⟩
 ·exact wpAny_isNot_plain hp ⟨_,s.toks,rfl,hq,rfl⟩
theorem nY{x:V}{cx:Value}{Q:Bool→Prop}(neg:Bool) (hx:Rep s.heap x cx) (h:IS x λb=>Q (if neg then !b else b)) :
  wpAny (model c.prog c.w) A (compareOp (if neg then .IsNot else .Is) cx .none) (Still s Q) E s:=by
 cases x with
 | none=>exact hx.noneE (El rfl (by decide) h)
 | bool b=>exact hx.Lm (El rfl rfl h)
 | int i=>exact hx.Z6 λt=>El rfl rfl h
 | str i=>exact hx.Nq λt=>El rfl rfl h
 | tup l=>exact hx.Ek λa it ta ra=>El rfl (beq_eq_false_iff_ne.mpr nofun) h
 | ref a=>exact hx.E3 (El rfl (beq_eq_false_iff_ne.mpr nofun) h)
 | _=>exact h.elim
theorem Xg{l:List V}{i:V}{K:V→Prop}{P:Value→Prop}{hp:Heap}{ci:Value}(h:tB l i K) (hi:Rep hp i ci) (k:∀(j:Nat) t v,j < 1152921504606846976→l[j]?=some v→K v→P (.int j t)):P ci:=by
 cases i with
 | int i=>cases i with
  | ofNat j=>exact hi.Z6 λt=>h.2.ex.elim λv e=>k j t v h.1 e.1 e.2
  | negSucc j=>exact h.elim
 | _=>exact h.elim
theorem dJ{op:CmpOp}{x y:V}{cx cy:Value}{Q:Bool→Prop}(hx:Rep s.heap x cx) (hy:Rep s.heap y cy) (r:Rel c Z s.heap) (hu:A.units+200 < cLine) (h:Uh c op x y Z Q) :
  wpAny (model c.prog c.w) A (compareOp op cx cy) (Still s Q) E s:=by
 have i {op:CmpOp}{K:Int→Int→Prop}(h:Aw x y K) (k:∀a b t u,K a b→wpAny (model c.prog c.w) A (compareOp op (.int a t) (.int b u)) (Still s Q) E s):wpAny (model c.prog c.w) A (compareOp op cx cy) (Still s Q) E s:=Aw.el (P:=λa b=>wpAny (model c.prog c.w) A (compareOp op a b) (Still s Q) E s) h hx hy k
 cases op with
 | Eq=>exact nX false hx hy r hu h
 | NotEq=>exact nX true hx hy r hu h
 | Lt=>exact i h λa b t u h=>lt_int ⟨_,s.toks,rfl,h,rfl⟩
 | LtE=>exact i h λa b t u h=>le_int ⟨_,s.toks,rfl,h,rfl⟩
 | Gt=>exact i h λa b t u h=>gt_int ⟨_,s.toks,rfl,h,rfl⟩
 | GtE=>exact i h λa b t u h=>ge_int ⟨_,s.toks,rfl,h,rfl⟩
 | In=>exact nW false hx hy r hu h
 | NotIn=>exact nW true hx hy r hu h
 | Is=>exact(show Rep s.heap .none cy from h.1 ▸ hy).noneE (nY false hx h.2)
 | IsNot=>exact(show Rep s.heap .none cy from h.1 ▸ hy).noneE (nY true hx h.2)
theorem Up{α:Type}{l:List α}{i:Nat}{x:α}(h:l[i]?=some x):i < l.length:=(List.getElem?_eq_some_iff.mp h).1
theorem By{k:Nat}{m:Nat}(hn:k < m):seqIndex? (k:Int) m=some k:=seqIndex_of (Int.natCast_nonneg k) (Int.ofNat_lt.mpr hn)
theorem i63{k:Nat}(h:k < 1152921504606846976):(k:Int) < 2 ^ 63:=Int.lt_trans (Int.ofNat_lt.mpr h) (by decide)
theorem uA{k:Nat}:-(2 ^ 63)≤(k:Int):=Int.le_trans (by decide) (Int.natCast_nonneg k)
theorem Bz{ia:Array Value}{i:Nat}{cv:Value}(e:ia.toList[i]?=some cv):ia[i]?=some cv:=Array.getElem?_toList.symm.trans e
theorem kS{value slice:Expr}{a:Addr}{i:V}{ci:Value}{Q:V→a5→Prop}(hi:Rep s.heap i ci) (r:Rel c Z s.heap) (hu:A.units+200 < cLine) (h:Ei (.ref a) i Z λv=>Q v Z)
  (hs:∀o i,subscripted slice false o i=operate [o,i] (getItem o i)):wpAny (model c.prog c.w) A (subscriptTail value slice (.ref a) ci) (QE c Z s Q) E s:=by
 unfold Ei at h
 dsimp only at h
 cases hl:Z a with
 | none=>rw[hl] at h; exact h.elim
 | some o =>
  rw[hl] at h
  have ra:=(r.3 _ _ hl).2
  cases o with
  | list l =>
   obtain⟨ia,⟨na,ha⟩,rl⟩:=ra
   refine Xg (P:=λci=>wpAny (model c.prog c.w) A (subscriptTail value slice (.ref a) ci) (QE c Z s Q) E s) h hi λj t v h1 h2 h=>(rl.get h2).elim λcv e=>?_
   exact tail_any (T := "list") ⟨_,ha,rfl⟩ slot_list_getitem.lookup (wpAny_getItem_list ⟨_,ha,rfl,na,rfl⟩ (Int.natCast_nonneg j) (i63 h1) (Bz e.1) (QE.dB r e.2 h)) (hs _ _)
  | dict l =>
   obtain⟨hk,v,hv,h⟩:=h
   refine Nx (P:=λci=>wpAny (model c.prog c.w) A (subscriptTail value slice (.ref a) ci) (QE c Z s Q) E s) hi ra hk (λfi e ki hd e1 e2 _=>?_) fun {b xs} ki hd e1 e2=>?_
   ·exact((K0 (g:=id) fi e1 e2).2 v (e ▸ hv)).elim λcv g=>tail_any hd.typeIs slot_dict_getitem.lookup (wpAny_getItem_of ki hd.mapOf g.1 (QE.mk r g.2 h)) (hs _ _)
   ·exact((K0 (f:=id) (g:=λp:Addr×Value=>p.2) (k:=i) (λ_ _=>id) e1 e2).2 v hv).elim λp g=>tail_any hd.typeIs slot_dict_getitem.lookup (wpAny_getItem_heap (Nat.lt_of_le_of_lt (by omega:A.units+1+9≤A.units+200) hu) ki hd g.1 (QE.mk r g.2 h)) (hs _ _)
  | _=>exact h.elim
theorem qK{value slice:Expr}{o i:V}{co ci:Value}{Q:V→a5→Prop}(ho:Rep s.heap o co) (hi:Rep s.heap i ci) (r:Rel c Z s.heap) (hu:A.units+200 < cLine) (h:Ei o i Z λv=>Q v Z)
  (hs:∀o i,subscripted slice false o i=operate [o,i] (getItem o i)):wpAny (model c.prog c.w) A (subscriptTail value slice co ci) (QE c Z s Q) E s:=by
 cases o with
 | tup l =>
  refine ho.Ek λa ia ta ra=>Xg (P:=λci=>wpAny (model c.prog c.w) A (subscriptTail value slice (.ref a) ci) (QE c Z s Q) E s) h hi λj t v h1 h2 h=>(ra.get h2).elim λcv e=>ta.elim λna ha=>?_
  exact tail_any ta.isTuple.typeIs F.slot_tuple_getitem.lookup (getItem_tuple ⟨_,ha,rfl,na,rfl⟩ uA (i63 h1) (By (by rw[ra.size]; exact Up h2)) (Bz e.1) (QE.dB r e.2 h)) (hs _ _)
 | str x =>
  obtain⟨k,u,rfl,h0,h1,h2,h⟩:=h
  have hlt:k.toNat < x.cps.size:=(Array.getElem?_eq_some_iff.mp h2).1
  refine ho.Nq λt=>hi.Z6 λt'=>tail_any (T := "str") rfl F.slot_str_getitem.lookup (P.getItem_str (c:=u) ?_ ?_ (QE.mk r (.str ..) h)) (hs _ _)
  ·exact Bool.or_eq_false_iff.mpr ⟨decide_eq_false (by omega),decide_eq_false (by omega)⟩
  ·rw[show seqIndex? k x.length=some k.toNat from seqIndex_of h0 (by show k < (x.cps.size:Int); omega)]; exact h2
 | ref a=>exact ho.E3 (kS hi r hu h hs)
 | _=>exact h.elim
theorem Ls{w:World}{h:Heap}{name:Str}{es:List DictEntry}{l:List (Str×V)}(q:R7 w h es l):(∀v,l.lookup name=some v→∃cv,getL name es=some (some cv)∧Rep h v cv)∧(l.lookup name=none→getL name es=some none):=by
 induction q with
 | nil=>exact⟨nofun,λ_=>rfl⟩
 | @cons x t cv v es l a b ih =>
  unfold getL at ih ⊢
  by_cases e:name=x
  ·subst e
   rw[List.find?_cons_of_pos (p:=λd:DictEntry=>d.key.isStr name) (by exact beq_iff_eq.mpr rfl),List.lookup_cons,show(name == name)=true from beq_iff_eq.mpr rfl]
   exact⟨λu hu=>⟨cv,rfl,Option.some.inj hu ▸ a⟩,nofun⟩
  ·rw[List.find?_cons_of_neg (p:=λd:DictEntry=>d.key.isStr name) (by exact λz=>e (beq_iff_eq.mp z).symm),List.lookup_cons,beq_eq_false_iff_ne.mpr e]
   exact ih
theorem Ny{h:Heap}{v:V}{cv:Value}(r:Rep h v cv) (hv:v.Lq=true):handedIn cv=true:=by
 cases v with
 | none=>exact r.noneE rfl
 | bool b=>exact r.Lm rfl
 | int i=>exact r.Z6 λt=>rfl
 | str i=>exact r.Nq λt=>rfl
 | tup l=>exact r.Ek λ_ _ _ _=>rfl
 | rng _ _=>exact r.qD λ_ _ _ _ _=>rfl
 | ref a=>exact r.E3 rfl
 | fix v=>exact ff hv
theorem Nz{a C dx:Addr}{l:List (Str×V)}(r:Rel c Z s.heap) (h1:Z a=some (.inst C dx)) (h2:Z dx=some (.ns l)) :
  ∃es n,InstAt s.heap a ⟨.ref C,some dx,.plain,#[]⟩ C (some (dictOf es n))∧R7 c.w s.heap es l∧s.heap.get? dx=some (dictOf es n) :=
 (r.3 _ _ h2).2.imp λes y=>y.imp λn y=>⟨⟨(r.3 _ _ h1).2,rfl,rfl,y.1⟩,y.2,y.1⟩
theorem kT(G:Good c){o:V}{co:Value}{name:Str}{b:Bool}{Q:V→a5→Prop}(ho:Rep s.heap o co) (r:Rel c Z s.heap) (h:G1 c o name Z λv=>Q v Z) :
  wpAny (model c.prog c.w) A (getAttr co name b) (QE c Z s Q) E s:=by
 cases h with | @mk a C dx l v e h1 h2 h3 p hv h =>
 subst e
 obtain⟨es,n,I,N,_⟩:=Nz r h1 h2
 exact((Ls N).1 v h3).elim λcv g=>ho.E3 (get_value (G.KX.keeps r.stays) I (plainGet_of p.1).1 (findObj_own p.2.1 p.2.2 rfl (by rw[lookIn_dict]; exact g.1)) (Ny g.2 hv) (QE.mk r g.2 h))
end
noncomputable def SX(c:Cx) (n:Nat) (fs:FS) (e:Expr) (x:X):Prop:=∀env ρ Z Q E,WX c n x ρ Z Q E→WE c n env fs e ρ Z Q E
noncomputable def kD(c:Cx) (n:Nat) (fs:FS) (e:List Expr) (x:List X):Prop:=∀env ρ Z Q E,Ui c n x ρ Z Q E→zI c n env fs e ρ Z (λvs Z=>vs.length=e.length∧Q vs Z) E
noncomputable def SB(c:Cx) (n:Nat) (fs:FS) (e:Expr) (x:B):Prop:=∀env ρ Z Q E,WC c n x ρ Z Q E→WEB c n env fs e ρ Z Q E
section
variable {c:Cx}{n:Nat}{env:Env}{fs:FS}{ρ:Loc}{Z d0:a5}{Q:V→a5→Prop}{E:a5→Prop}{A:Around}{s d9:Shared}
structure v8(c:Cx) (n:Nat) (env:Env) (fs:FS) (A:Around) (F:Addr→Prop) (d0:a5) (d9:Shared) (ρ:Loc) (Z:a5) (s:Shared):Prop where
 ok:Ok c n A Z s.heap
 E2:Bu c env fs ρ Z s.heap
 rel:Rel c Z s.heap
 post:i0 c d0 Z F d9 s
abbrev At(c:Cx) (n:Nat) (env:Env) (fs:FS) (A:Around) (d0:a5) (d9:Shared) (ρ:Loc) (Z:a5) (s:Shared):Prop:=v8 c n env fs A (λ_=>False) d0 d9 ρ Z s
theorem At.start(o:Ok c n A Z s.heap) (f:Bu c env fs ρ Z s.heap) (r:Rel c Z s.heap):At c n env fs A Z s ρ Z s:=⟨o,f,r,.refl r⟩
theorem v8.step{F:Addr→Prop}{b0:a5}{f5:Shared}(a:v8 c n env fs A F d0 d9 ρ Z s) (p:i0 c Z b0 (λ_=>False) s f5):v8 c n env fs A F d0 d9 ρ b0 f5 :=
 ⟨a.ok.post p,a.E2.post0 p,p.rel,a.post.trans (p.Qo λ_ h=>h.elim)⟩
theorem v8.toks{F:Addr→Prop}(a:v8 c n env fs A F d0 d9 ρ Z s){tk:Nat}:v8 c n env fs A F d0 d9 ρ Z {s with toks:=tk}:=a.step (i0.toks a.rel)
theorem v8.units{F:Addr→Prop}(a:v8 c n env fs A F d0 d9 ρ Z s):A.units+200 < cLine:=Nat.lt_of_le_of_lt (Nat.add_le_add_right (Nat.le_add_right ..) _) a.ok.2.1
theorem Rep.post{b0:a5}{f5:Shared}{F:Addr→Prop}{v:V}{cv:Value}(h:Rep s.heap v cv) (p:i0 c Z b0 F s f5):Rep f5.heap v cv:=h.mono p.Av
theorem WE.at{e:Expr}{Q1:V→a5→Prop}{R:Value→Shared→Prop}(h:WE c n env fs e ρ Z Q1 E) (a:At c n env fs A d0 d9 ρ Z s)
  (h2:∀cv v b0 f5,At c n env fs A d0 d9 ρ b0 f5→i0 c Z b0 (λ_=>False) s f5→Rep f5.heap v cv→Q1 v b0→R cv f5):wpAny (model c.prog c.w) A (eval e env) R (EE c d0 d9 E) s :=
 wpAny_mono (h A s a.ok a.E2 a.rel) (λcv f5 q=>q.elim λv q=>q.elim λb0 q=>h2 cv v b0 f5 (a.step q.1) q.1 q.2.1 q.2.2) λ_ _ e=>e.trans a.post
theorem zI.at{e:List Expr}{pos:Pos}{Q1:List V→a5→Prop}{R:List Value→Shared→Prop}(h:zI c n env fs e ρ Z Q1 E) (a:At c n env fs A d0 d9 ρ Z s)
  (h2:∀cv v b0 f5,At c n env fs A d0 d9 ρ b0 f5→i0 c Z b0 (λ_=>False) s f5→h9 f5.heap v cv→Q1 v b0→R cv f5):wpAny (model c.prog c.w) A (spliced (backTo pos (starEach e env))) R (EE c d0 d9 E) s :=
 wpAny_mono (h A s pos a.ok a.E2 a.rel) (λcv f5 q=>q.elim λv q=>q.elim λb0 q=>h2 cv v b0 f5 (a.step q.1) q.1 q.2.1 q.2.2) λ_ _ e=>e.trans a.post
theorem WEB.at{e:Expr}{Q1:Bool→a5→Prop}{R:Bool→Shared→Prop}(h:WEB c n env fs e ρ Z Q1 E) (a:At c n env fs A d0 d9 ρ Z s)
  (h2:∀b b0 f5,At c n env fs A d0 d9 ρ b0 f5→i0 c Z b0 (λ_=>False) s f5→Q1 b b0→R b f5):wpAny (model c.prog c.w) A (isTrue e env (eval e env)) R (EE c d0 d9 E) s :=
 wpAny_mono (h A s a.ok a.E2 a.rel) (λb f5 q=>q.elim λb0 q=>h2 b b0 f5 (a.step q.1) q.1 q.2) λ_ _ e=>e.trans a.post
theorem v8.qe(a:At c n env fs A d0 d9 ρ Z s){m:Sem Value}(h:wpAny (model c.prog c.w) A m (QE c Z s Q) (EE c Z s E) s):wpAny (model c.prog c.w) A m (QE c d0 d9 Q) (EE c d0 d9 E) s :=
 wpAny_mono h (λ_ _ q=>q.trans a.post) λ_ _ e=>e.trans a.post
theorem v8.go(a:At c n env fs A d0 d9 ρ Z s){e:Expr}(h:WE c n env fs e ρ Z Q E):wpAny (model c.prog c.w) A (eval e env) (QE c d0 d9 Q) (EE c d0 d9 E) s:=a.qe (h A s a.ok a.E2 a.rel)
theorem v8.qb(a:At c n env fs A d0 d9 ρ Z s){Q:Bool→a5→Prop}{m:Sem Bool}(h:wpAny (model c.prog c.w) A m (QB c Z s Q) (EE c Z s E) s):wpAny (model c.prog c.w) A m (QB c d0 d9 Q) (EE c d0 d9 E) s :=
 wpAny_mono h (λ_ _ q=>q.trans a.post) λ_ _ e=>e.trans a.post
theorem v8.ret{cv:Value}{v:V}(a:At c n env fs A d0 d9 ρ Z s) (h:Rep s.heap v cv) (q:Q v Z):QE c d0 d9 Q cv s:=⟨v,Z,a.post,h,q⟩
theorem v8.truth(a:At c n env fs A d0 d9 ρ Z s){v:V}{cv:Value}{K:Bool→a5→Prop}{R:Bool→Shared→Prop}(r:Rep s.heap v cv) (h:As v Z λb=>K b Z) (k:∀b b0 f5,At c n env fs A d0 d9 ρ b0 f5→i0 c Z b0 (λ_=>False) s f5→K b b0→R b f5):wpAny (model c.prog c.w) A (truthy cv) R (EE c d0 d9 E) s :=
 wpAny_mono (Qp (E:=EE c d0 d9 E) (Q:=K) r a.rel h) (λb f5 q=>q.elim λb0 q=>k b b0 f5 (a.step q.1) q.1 q.2) λ_ _ e=>e
@[elab_as_elim] theorem U0.el {b:Bool}{A B:Prop}{P:Bool→Prop}(h:U0 b A B) (k1:A→P true) (k2:B→P false):P b:=match b,h with
 | true,h=>k1 (h.t rfl)
 | false,h=>k2 (h.f rfl)
theorem zK{l r:Expr}{op:Operator}{pos:Pos}{x y:X}(hx:SX c n fs l x) (hy:SX c n fs r y):SX c n fs (.BinOp l op r pos) (.bin op x y):=λenv ρ Z Q E h A s o f re =>
 wpAny_BinOp ((hx env ρ Z _ E h).at (.start o f re) λca va b0 f5 i6 t9 j7 h=>(hy env ρ b0 _ E h).at i6 λcb vb j0 j2 j4 G6 P9 h=>j4.qe (qI (j7.post G6) P9 j4.rel h))
theorem qL{v:V}{cv:Value}{P:Value→Prop}{hp:Heap}{K:Int→Prop}(h:match v with | .int i=>K i | _=>False) (r:Rep hp v cv) (k:∀i t,K i→P (.int i t)):P cv:=by
 cases v<;>first | exact h.elim | exact r.Z6 λt=>k _ t h
theorem zL{e:Expr}{pos:Pos}{x:X}(hx:SX c n fs e x):SX c n fs (.UnaryOp .USub e pos) (.neg x):=λenv ρ Z Q E h A s o f re =>
 wpAny_UnaryOp ((hx env ρ Z _ E h).at (.start o f re) λca va b0 f5 i6 t9 j7 h=>qL (P:=λca=>wpAny (model c.prog c.w) A (unaryOp .USub ca) (QE c Z s Q) (EE c Z s E) f5) h j7 λi t h=>neg_int (i6.toks.ret (.int ..) h))
theorem zM{e:Expr}{pos:Pos}{x:X}(hx:SX c n fs e x):SX c n fs (.UnaryOp .Not e pos) (.not x):=λenv ρ Z Q E h A s o f re =>
 wpAny_UnaryOp ((hx env ρ Z _ E h).at (.start o f re) λca va b0 f5 i6 t9 j7 h=>not_of (i6.truth (K:=λb Z=>Q (.bool (!b)) Z) j7 h λb j0 j2 j4 _ q=>j4.ret (.bool _) q))
theorem uB{e:Expr}{pos:Pos}{x:X}(hx:SX c n fs e x):SX c n fs (.BoolOp .And [e] pos) (.and [x]):=λenv ρ Z Q E h A s o f re=>BoolOp_one (hx env ρ Z _ E h A s o f re)
theorem zN{e e':Expr}{es:List Expr}{pos:Pos}{x x':X}{xs:List X}(hx:SX c n fs e x) (hs:SX c n fs (.BoolOp .And (e'::es) pos) (.and (x'::xs))):SX c n fs (.BoolOp .And (e::e'::es) pos) (.and (x::x'::xs)):=λenv ρ Z Q E h A s o f re =>
 BoolOp_and ((hx env ρ Z _ E h).at (.start o f re) λca va b0 f5 i6 t9 j7 h=>i6.truth (K:=λb Z=>U0 b (qE c n (x'::xs) ρ Z Q E) (Q va Z)) j7 h λb j0 j2 j4 G6 q=>q.el (λh=>j4.go (hs env ρ j0 Q E h)) λh=>j4.ret (j7.post G6) h)
theorem zO{e:Expr}{pos:Pos}{x:X}(hx:SX c n fs e x):SX c n fs (.BoolOp .Or [e] pos) (.or [x]):=λenv ρ Z Q E h A s o f re=>BoolOp_one (hx env ρ Z _ E h A s o f re)
theorem mOr{e e':Expr}{es:List Expr}{pos:Pos}{x x':X}{xs:List X}(hx:SX c n fs e x) (hs:SX c n fs (.BoolOp .Or (e'::es) pos) (.or (x'::xs))):SX c n fs (.BoolOp .Or (e::e'::es) pos) (.or (x::x'::xs)):=λenv ρ Z Q E h A s o f re =>
 BoolOp_or ((hx env ρ Z _ E h).at (.start o f re) λca va b0 f5 i6 t9 j7 h=>i6.truth (K:=λb Z=>U0 b (Q va Z) (zG c n (x'::xs) ρ Z Q E)) j7 h λb j0 j2 j4 G6 q=>q.el (λh=>j4.ret (j7.post G6) h) λh=>j4.go (hs env ρ j0 Q E h))
theorem zP{t a b:Expr}{pos:Pos}{xt:B}{xa xb:X}(ht:SB c n fs t xt) (ha:SX c n fs a xa) (hb:SX c n fs b xb):SX c n fs (.IfExp t a b pos) (.ite xt xa xb):=λenv ρ Z Q E h A s o f re =>
 wpAny_IfExp ((ht env ρ Z _ E h).at (.start o f re) λb b0 f5 i6 t9 h=>h.el (λh=>i6.go (ha env ρ b0 Q E h)) λh=>i6.go (hb env ρ b0 Q E h))
theorem Qv{Q:Bool→Prop}{cv:Value}{s s':Shared}{P:Value→Shared→Prop}(h:Still s Q cv s') (k:∀b tk,Q b→P (.bool b) {s with toks:=tk}):P cv s':=h.elim λb h=>h.elim λtk h=>h.1 ▸ h.2.2 ▸ k b tk h.2.1
theorem zQ{l r:Expr}{op:CmpOp}{pos:Pos}{x y:X}(hx:SX c n fs l x) (hy:SX c n fs r y) (hm:behindInMarks op r=false):SX c n fs (.Compare l [op] [r] pos) (.cmp op x y):=λenv ρ Z Q E h A s o f re =>
 wpAny_Compare1 ((hx env ρ Z _ E h).at (.start o f re) λca va b0 f5 i6 t9 j7 h=>(hy env ρ b0 _ E h).at i6 λcb vb j0 j2 j4 G6 P9 h=>wpAny_mono (dJ (E:=EE c Z s E) (j7.post G6) P9 j4.rel j4.units h) (λv G2 q=>Qv q λb tk q=>j4.toks.ret (.bool _) q) λ_ _ e=>e) hm
theorem uC(G:Good c){e:Expr}{name:Str}{pos:Pos}{x:X}(hx:SX c n fs e x) (hb:∀env,attributeBase e name env (eval e env)=eval e env):SX c n fs (.Attribute e name pos) (.attr x name):=λenv ρ Z Q E h A s o f re=>by
 rw[arm_eval_Attribute,hb]
 refine wpAny_bind ((hx env ρ Z _ E h).at (.start o f re) λca va b0 f5 i6 t9 j7 h=>wpAny_bind (wpAny_standAt (wpAny_bind (wpAny_holding ?_))))
 exact wpAny_mono (kT (E:=EE c Z s E) G j7 i6.rel h) (λv j2 q=>q.elim λv' q=>q.elim λj0 q=>wpAny_bind (wpAny_letTemporaryGo (wpAny_pure ((i6.step q.1).ret q.2.1 q.2.2)))) λ_ _ e=>e
theorem zR{l r:Expr}{pos:Pos}{x y:X}(hx:SX c n fs l x) (hy:SX c n fs r y) (hs:∀o i,subscripted r false o i=operate [o,i] (getItem o i)):SX c n fs (.Subscript l r pos) (.sub x y):=λenv ρ Z Q E h A s o f re =>
 Subscript_ ((hx env ρ Z _ E h).at (.start o f re) λca va b0 f5 i6 t9 j7 h=>(hy env ρ b0 _ E h).at i6 λcb vb j0 j2 j4 G6 P9 h=>j4.qe (qK (j7.post G6) P9 j4.rel j4.units h hs))
noncomputable def Uq{β:Type}(d:β) (e:Expr) (Oa:Str→Pos→β:=λ_ _=>d) (Az:Const→Nat→Pos→β:=λ_ _ _=>d) (Xh:Expr→Operator→Expr→Pos→β:=λ_ _ _ _=>d) (Em:UnaryOp→Expr→Pos→β:=λ_ _ _=>d) (Ij:BoolOp→List Expr→Pos→β:=λ_ _ _=>d) (Ob:Expr→Expr→Expr→Pos→β:=λ_ _ _ _=>d) (En:Expr→List CmpOp→List Expr→Pos→β:=λ_ _ _ _=>d) (Ur:Expr→List Expr→List Keyword→Pos→β:=λ_ _ _ _=>d) (U5:Expr→Str→Pos→β:=λ_ _ _=>d) (Fv:Expr→Expr→Pos→β:=λ_ _ _=>d) (He:List Expr→Nat→Pos→β:=λ_ _ _=>d) (Us:List Expr→Pos→β:=λ_ _=>d) (dK:List (Option Expr)→List Expr→Pos→β:=λ_ _ _=>d) (Ba:Expr→List Comprehension→Scope→Pos→β:=λ_ _ _ _=>d) (Oc:Option Expr→Option Expr→Option Expr→Pos→β:=λ_ _ _ _=>d) (onSet:List Expr→Nat→Pos→β:=λ_ _ _=>d) (Lu:Expr→List Comprehension→Scope→Pos→β:=λ_ _ _ _=>d) (Ik:Expr→Expr→List Comprehension→Scope→Pos→β:=λ_ _ _ _ _=>d) (Lv:Expr→Pos→β:=λ_ _=>d):β:=match e with
 | .Name a b=>Oa a b
 | .Constant a b c=>Az a b c
 | .BinOp a b c d=>Xh a b c d
 | .UnaryOp a b c=>Em a b c
 | .BoolOp a b c=>Ij a b c
 | .IfExp a b c d=>Ob a b c d
 | .Compare a b c d=>En a b c d
 | .Call a b c d=>Ur a b c d
 | .Attribute a b c=>U5 a b c
 | .Subscript a b c=>Fv a b c
 | .Tuple a b c=>He a b c
 | .List a b=>Us a b
 | .Dict a b c=>dK a b c
 | .ListComp a b c d=>Ba a b c d
 | .Slice a b c d=>Oc a b c d
 | .Set a b c=>onSet a b c
 | .SetComp a b c d=>Lu a b c d
 | .DictComp a b c d p=>Ik a b c d p
 | .Starred a b=>Lv a b
 | _=>d
noncomputable def t5(e:Expr):Bool:=Uq true e (Lv:=λ_ _=>false)
theorem v9{e:Expr}{es:List Expr}(h:t5 e=true):starEach (e::es) env=(false,eval e env)::starEach es env:=by
 cases e<;>first | rfl | exact ff h
theorem C5{pos:Pos}{t:Sem Value}{l:List (Bool×Sem Value)}:backTo pos ((false,t)::l)=(false,t)::backTo pos l:=by simp[backTo]
theorem qM:kD c n fs [] []:=λenv ρ Z Q E h A s pos o f re=>spliced_nil ⟨[],Z,.refl re,.nil,rfl,h⟩
theorem Qw{e:Expr}{es:List Expr}{x:X}{xs:List X}(hn:t5 e=true) (hx:SX c n fs e x) (hs:kD c n fs es xs):kD c n fs (e::es) (x::xs):=λenv ρ Z Q E h A s pos o f re=>by
 rw[v9 hn,C5]
 exact spliced_cons ((hx env ρ Z _ E h).at (.start o f re) λca va b0 f5 i6 t9 j7 h=>(hs env ρ b0 _ E h).at i6 λcs vs j0 j2 j4 G6 P9 h=>⟨_,_,j4.post,.cons (j7.post G6) P9,congrArg (·+1) h.1,h.2⟩)
theorem dL{l:List Value}{vs:List V}{es:List Expr}{h:Heap}(r:h9 h vs l) (e:vs.length=es.length) (hl:es.length≤1000):l.length≤sizeLine:=J9 (Nat.le_trans (Nat.le_of_eq (r.length.symm.trans e)) (Nat.le_trans hl (by decide)))
theorem F2{h:Heap}{o:Obj}:h.objs.size≤(h.push o).objs.size:=by rw[Heap.size_push]; exact Nat.le_succ _
theorem uD{es:List Expr}{k}{pos:Pos}{xs:List X}(hl:es.length≤1000) (hs:kD c n fs es xs):SX c n fs (.Tuple es k pos) (.tup xs):=λenv ρ Z Q E h A s o f re =>
 wpAny_Tuple_spliced ((hs env ρ Z _ E h).at (.start o f re) λcs vs b0 f5 i6 t9 j7 h=>⟨dL j7 h.1 hl,QE.trans i6.post (QE.newTuple (tk:=f5.toks) (items:=cs.toArray) i6.rel j7 F2 (λa o e=>Heap.get?_push_of_some _ e) ⟨0,Heap.get?_push_size _ rfl⟩ h.2)⟩)
theorem zS{es:List Expr}{pos:Pos}{xs:List X}(hl:es.length≤1000) (hs:kD c n fs es xs):SX c n fs (.List es pos) (.lst xs):=λenv ρ Z Q E h A s o f re =>
 wpAny_List_spliced ((hs env ρ Z _ E h).at (.start o f re) λcs vs b0 f5 i6 t9 j7 h=>⟨dL j7 h.1 hl,QE.trans i6.post (QE.newList (tk:=f5.toks) (items:=cs) i6.rel j7 F2 (λa o e=>Heap.get?_push_of_some _ e) (Nat.le_refl _) ⟨0,Heap.get?_push_size _ rfl⟩ h.2)⟩)
noncomputable def calleeOk(K:Frag):Value→Bool
 | .ref a=>keepIn K (.ref a)
 | .builtin _=>true
 | .type _=>true
 | _=>false
theorem Xi{K:Frag}{M:Model}{f:Value}(h:calleeOk K f=true) (hp:Heap) (X:K.In hp):∃k,(k=Keeper.frame∨k=Keeper.machine∨k=Keeper.boundFrame)∧Looks M hp (keeperOf f) k:=by
 cases f<;>first | exact ff h | exact⟨.machine,.inr (.inl rfl),.now⟩ | exact keeps_K (show keepIn K (.ref _)=true from h) hp X
theorem Q0{pos:Pos}{env:Env}:∀{l:List Expr},l.all t5=true→(backTo pos (starEach l env)).any (·.1)=false∧(backTo pos (starEach l env)).all (!·.1)=true
 | [],_=>⟨rfl,rfl⟩
 | e::l,h=>(Bool.and_eq_true_iff.mp h).elim λh1 h2=>by
  rw[v9 h1,C5]
  exact Q0 (pos:=pos) h2
theorem v8.call(G:Good c) (a:At c n env fs A d0 d9 ρ Z s){f:Value}{first:List Value}{Il:List V}{es:List Expr}{pos:Pos}{xs:List X}(hk:calleeOk c.K f=true) (hs:kD c n fs es xs)
  (hst:es.all t5=true) (hlen:es.length=xs.length) (hf:h9 s.heap Il first) (h:Ui c n xs ρ Z (λvs Z=>i3 c n (.fix f) (Il++vs) Z Q E) E) :
  wpAny (model c.prog c.w) A (callWith pos f first (backTo pos (starEach es env)) []) (QE c d0 d9 Q) (EE c d0 d9 E) s:=by
 have fin {cs:List Value}{vs:List V}{b0:a5}{f5:Shared}(i6:At c n env fs A d0 d9 ρ b0 f5) (t9:i0 c Z b0 (λ_=>False) s f5) (j7:h9 f5.heap vs cs) (h:i3 c n (.fix f) (Il++vs) b0 Q E) :
   c.K.In f5.heap∧wpAny (model c.prog c.w) A (PySem.call f (first++cs) []) (QE c d0 d9 Q) (EE c d0 d9 E) f5:=⟨G.KX.keeps i6.rel.stays,i6.qe (h A f5 f (first++cs) i6.ok i6.rel (.fix f) (h9.append j7 (hf.mono t9.Av)))⟩
 refine callWith_of (P:=c.K.In) (by rw[(Q0 hst).1]; rfl) (Xi hk) ?_
 cases es with
 | nil =>
  cases xs with
  | nil=>exact evalArgs_nil3 (fin a (.refl a.rel) .nil h)
  | cons x xs=>exact nomatch hlen
 | cons e es =>
  have hn:t5 e=true:=(Bool.and_eq_true_iff.mp hst).1
  rw[v9 hn,C5]
  refine evalArgs_plain ?_
  rw[←C5,←v9 hn]
  exact(hs env ρ Z _ E h).at a λcs vs b0 f5 i6 t9 j7 h=>fin i6 t9 j7 h.2
theorem uE(G:Good c){id:Str}{p pos:Pos}{es:List Expr}{xs:List X}{f:Value}(hk:fs.sc.lookup id=some .globalImplicit) (hv:Lf c.K id=some (.fix f)) (hd:(id == ("__debug__":Str))=false)
  (hc:calleeOk c.K f=true) (hs:kD c n fs es xs) (hst:es.all t5=true) (hlen:es.length=xs.length):SX c n fs (.Call (.Name id p) es [] pos) (.call (.con (.fix f)) xs):=λenv ρ Z Q E h A s o f' re=>by
 rw[arm_eval_Call_Name']
 refine wpAny_bind (WE.at (Q1:=λv a6=>v=.fix f∧a6=Z) (dC G hk hv hd ⟨rfl,rfl⟩) (.start o f' re) λcf v b0 f5 i6 t9 j7 h'=>?_)
 obtain⟨rfl,rfl⟩:=h'
 exact j7.Qm (v8.call G i6 (first:=[]) (Il:=[]) hc hs hst hlen .nil h)
theorem Od(G:Good c){o:V}{co:Value}{name:Str}{fv:V}{pl:Sem Bool}{R:Value×List Value→Shared→Prop}{E':Value→Shared→Prop}(ho:Rep s.heap o co) (r:Rel c Z s.heap) (h:Ab c o name Z fv)
  (hR:∀f,fv=.fix f→calleeOk c.K f=true→R (f,[co]) s):wpAny (model c.prog c.w) A (getMethod co name pl) R E' s:=by
 have dict {ob:Obj}{a:Addr}(e:s.heap.get? a=some ob) (x:ob.ExactDict) (hR:R (.builtin "dict.get",[.ref a]) s):wpAny (model c.prog c.w) A (getMethod (.ref a) "get" pl) R E' s :=
  getMethod_builtin ⟨ob,e,x.1⟩ F.plainAttrs_dict F.slot_dict_get F.type_dict_get (λb e'=>⟨_,Value.ref.inj e' ▸ e,x.2.1⟩) hR
 have nd {a:Addr}{o:Obj}(ha:s.heap.get? a=some o) (hd:o.dict=none):∀b,Value.ref a=.ref b→∃o,s.heap.get? b=some o∧o.dict=none:=λb e=>⟨_,Value.ref.inj e ▸ ha,hd⟩
 have lst {a:Addr}{l:List V}(hl:Z a=some (.list l)):∃o,s.heap.get? a=some o∧o.cls=.type "list"∧o.dict=none:=(r.3 _ _ hl).2.elim λia x=>x.1.elim λna ha=>⟨_,ha,rfl,rfl⟩
 refine U3.casesOn (motive:=λo name fv _=>Rep s.heap o co→(∀f,fv=.fix f→calleeOk c.K f=true→R (f,[co]) s)→wpAny (model c.prog c.w) A (getMethod co name pl) R E' s) h
  (λhl ho hR=>(lst hl).elim λob x=>ho ▸ getMethod_builtin ⟨_,x.1,x.2.1⟩ F.plainAttrs_list slot_list_append F.type_list_append (nd x.1 x.2.2) (ho ▸ hR _ rfl rfl))
  (λhl ho hR=>(lst hl).elim λob x=>ho ▸ getMethod_builtin ⟨_,x.1,x.2.1⟩ F.plainAttrs_list F.slot_list_extend F.type_list_extend (nd x.1 x.2.2) (ho ▸ hR _ rfl rfl))
  (λhl ho hR=>(lst hl).elim λob x=>ho ▸ getMethod_builtin ⟨_,x.1,x.2.1⟩ F.plainAttrs_list F.slot_list_pop F.type_list_pop (nd x.1 x.2.2) (ho ▸ hR _ rfl rfl))
  (fun {a l} hl ho hR=>?_) (λht ho hR=>(Nw r ht).2.elim λ_ x=>x.1.elim λob x=>x.elim λ_ x=>x.elim λ_ x=>ho ▸ dict x.1 x.2.1 (ho ▸ hR _ rfl rfl))
  (fun {a C dx f l name} h1 h2 h3 h4 h5 h6 h7 ho hR=>?_) ho hR
 ·have rd:Z7 c.prog c.w s.heap a l:=(r.3 _ _ hl).2
  obtain⟨ob,e,x⟩:=rd.exact
  exact ho ▸ dict e x (ho ▸ hR _ rfl rfl)
 ·obtain⟨es,n,I,N,_⟩:=Nz r h1 h2
  obtain rfl:co=.ref a:=ho
  refine method_fn (G.KX.keeps r.stays) I (plainGet_of h4).1 (plainGet_of h4).2 h5 (beq_iff_eq.mp h6) ?_ (hR _ rfl h7)
  refine(?_:(lookIn name (dictOf es n)).map _=_)
  rw[lookIn_dict,(Ls N).2 h3]; rfl
theorem uF(G:Good c){e:Expr}{name:Str}{apos pos:Pos}{es:List Expr}{x:X}{xs:List X}(hx:SX c n fs e x) (hb:∀env,attributeBase e name env (eval e env)=eval e env) (hp:apos.endLine=pos.line)
  (hs:kD c n fs es xs) (hst:es.all t5=true) (hlen:es.length=xs.length) (hn:es.length < 30):SX c n fs (.Call (.Attribute e name apos) es [] pos) (.meth x name xs):=λenv ρ Z Q E h A s o f' re=>by
 rw[arm_eval_Call,hb]
 refine wpAny_bind ((hx env ρ Z _ E h).at (.start o f' re) λco ov b0 f5 i6 t9 j7 h=>h.elim λfv h=>wpAny_bind (wpAny_standAt ?_))
 have few:methodCallForm (es.length+0) (backTo pos (starEach es env)) []=true:=by
  unfold methodCallForm
  rw[(Q0 hst).2]; simp; omega
 refine(?_:wpAny _ _ (methodCall e name apos pos env co (es.length+0) (backTo pos (starEach es env)) []) _ _ _)
 unfold methodCall
 rw[few]
 refine wpAny_bind (wpAny_holding ?_)
 refine(?_:wpAny _ _ (getMethod co name _) _ _ _)
 refine Od G j7 i6.rel h.1 λf hf hc=>?_
 subst hf
 have:methodCallPos true e env apos pos=pure pos:=by unfold methodCallPos; simp[hp]
 exact wpAny_bind (wpAny_of_eq this (v8.call G i6 (first:=[co]) (Il:=[ov]) hc hs hst hlen (.cons j7 .nil) h.2))
theorem uG{e:Expr}{pos:Pos}{x:B}(hx:SB c n fs e x):SB c n fs (.UnaryOp .Not e pos) (.not x):=λenv ρ Z Q E h A s o f re=>wpAny_isTrue_Not ((hx env ρ Z _ E h).at (.start o f re) λb b0 f5 i6 t9 q=>⟨b0,t9,q⟩)
theorem uH{l r:Expr}{op:CmpOp}{pos:Pos}{x y:X}(hx:SX c n fs l x) (hy:SX c n fs r y) (hm:behindInMarks op r=false):SB c n fs (.Compare l [op] [r] pos) (.cmp op x y):=λenv ρ Z Q E h A s o f re =>
 wpAny_isTrue_Compare1 ((hx env ρ Z _ E h).at (.start o f re) λca va b0 f5 i6 t9 j7 h=>(hy env ρ b0 _ E h).at i6 λcb vb j0 j2 j4 G6 P9 h=>wpAny_mono (dJ (E:=EE c Z s E) (j7.post G6) P9 j4.rel j4.units h) (λv G2 q=>Qv (P:=λv G2=>wpAny (model c.prog c.w) A (truthy v) (QB c Z s Q) (EE c Z s E) G2) q λb tk q=>wpAny_truthy_bool ⟨j0,j4.toks.post,q⟩) λ_ _ e=>e) hm
noncomputable def Oe(e:Expr):Bool:=Uq true e (Em:=λ_ _ _=>false) (Ij:=λ_ _ _=>false) (Ob:=λ_ _ _ _=>false) (En:=λ_ _ _ _=>false)
theorem Ut{e:Expr}(h:Oe e=true) (env:Env) (whole:Sem Value):isTrue e env whole=(do let v ←whole; standAt e.pos; holding [v] (truthy v)):=by
 cases e<;>first | rfl | exact ff h
theorem uI{e:Expr}{x:X}(hv:Oe e=true) (hx:SX c n fs e x):SB c n fs e (.val x):=λenv ρ Z Q E h A s o f re =>
 wpAny_isTrue_value ((hx env ρ Z _ E h).at (.start o f re) λca va b0 f5 i6 t9 j7 h=>i6.qb (Qp j7 i6.rel h)) (Ut hv env _)
noncomputable def Qk(c:Cx) (n:Nat) (fs:FS):List Expr→List B→Prop
 | [],xs=>xs=[]
 | e::es,xs=>∃x r,xs=x::r∧SB c n fs e x∧Qk c n fs es r
theorem Qk.nil:Qk c n fs [] []:=rfl
theorem Qk.cons{e:Expr}{es:List Expr}{x:B}{xs:List B}(a:SB c n fs e x) (b:Qk c n fs es xs):Qk c n fs (e::es) (x::xs):=⟨x,xs,rfl,a,b⟩
theorem uJ{Q:Bool→a5→Prop}:∀{es:List Expr}{xs:List B}{Z:a5}{A:Around}{s:Shared},Qk c n fs es xs→Hz c n xs ρ Z Q E→Ok c n A Z s.heap→Bu c env fs ρ Z s.heap→Rel c Z s.heap→wpAny (model c.prog c.w) A (allTrue .And es env) (QB c Z s Q) (EE c Z s E) s
 | [],_,Z,A,s,hx,h,o,f,re=>by
  obtain rfl:=hx
  exact wpAny_allTrue_And_nil ⟨Z,.refl re,h⟩
 | e::es,_,Z,A,s,hx,h,o,f,re=>by
  obtain⟨x,r,rfl,h1,h2⟩:=hx
  exact wpAny_allTrue_And_cons ((h1 env ρ Z _ E h).at (.start o f re) λb b0 f5 i6 t9 q=>q.el (λh=>i6.qb (uJ h2 h i6.ok i6.E2 i6.rel)) λh=>⟨b0,i6.post,h⟩)
theorem uK{Q:Bool→a5→Prop}:∀{es:List Expr}{xs:List B}{Z:a5}{A:Around}{s:Shared},Qk c n fs es xs→Um c n xs ρ Z Q E→Ok c n A Z s.heap→Bu c env fs ρ Z s.heap→Rel c Z s.heap→wpAny (model c.prog c.w) A (allTrue .Or es env) (QB c Z s Q) (EE c Z s E) s
 | [],_,Z,A,s,hx,h,o,f,re=>by
  obtain rfl:=hx
  exact wpAny_of_eq (arm_allTrue_nil .Or env) ⟨Z,.refl re,h⟩
 | e::es,_,Z,A,s,hx,h,o,f,re=>by
  obtain⟨x,r,rfl,h1,h2⟩:=hx
  exact wpAny_allTrue_Or_cons ((h1 env ρ Z _ E h).at (.start o f re) λb b0 f5 i6 t9 q=>q.el (λh=>⟨b0,i6.post,h⟩) λh=>i6.qb (uK h2 h i6.ok i6.E2 i6.rel))
theorem uL{es:List Expr}{pos:Pos}{xs:List B}(hx:Qk c n fs es xs):SB c n fs (.BoolOp .And es pos) (.and xs):=λenv ρ Z Q E h A s o f re=>wpAny_isTrue_BoolOp (uJ hx h o f re)
theorem zU{es:List Expr}{pos:Pos}{xs:List B}(hx:Qk c n fs es xs):SB c n fs (.BoolOp .Or es pos) (.or xs):=λenv ρ Z Q E h A s o f re=>wpAny_isTrue_BoolOp (uK hx h o f re)
end
section
variable {K β:Type}[DecidableEq K]{h:Heap}{f:K→V}{g:β→Value}{k:K}{v:V}{cv:Value}{u:K×β→K×β}{b:β}
theorem any_keys{l:List (V×V)}{qs:List (K×β)}(hf:∀a b,f a=f b→a=b) (e:l.map (·.1)=qs.map (λq=>f q.1)):(l.any λp=>decide (p.1=f k))=qs.any λq=>decide (q.1=k) :=
 (List.any_map (f:=Prod.fst) (p:=λa=>decide (a=f k))).symm.trans ((congrArg (List.any · λa=>decide (a=f k)) e).trans (List.any_map.trans (congrArg (List.any qs) (funext λq=>y4 (decide_eq_true_iff.trans ⟨hf _ _,congrArg f⟩)))))
theorem Xj{l:List (V×V)}{x:V}:(l.map λp=>if p.1=x then (p.1,v) else p).map (·.1)=l.map (·.1):=List.map_map.trans (List.map_congr_left λp _=>(apply_ite Prod.fst (p.1=x) (p.1,v) p).trans (ite_self _))
theorem Xk(hf:∀a b,f a=f b→a=b) (hv:Rep h v cv) (hu:∀q,(u q).1=q.1∧(q.1=k→g (u q).2=cv)∧(q.1≠k→g (u q).2=g q.2)):∀{l:List (V×V)}{qs:List (K×β)},l.map (·.1)=qs.map (λq=>f q.1)→h9 h (l.map (·.2)) (qs.map λq=>g q.2) →
  h9 h ((l.map λp=>if p.1=f k then (p.1,v) else p).map (·.2)) ((qs.map u).map λq=>g q.2)
 | [],qs,e,_=>Bw e ▸ .nil
 | _::_,[],e,_=>nomatch e
 | p::l,q::qs,e,r=>r.elim λc r=>r.elim λt r=>by
  have e1:p.1=f q.1:=(List.cons.inj e).1
  have er:=List.cons.inj r.1
  refine .cons (?_:Rep h (if p.1=f k then (p.1,v) else p).2 (g (u q).2)) (Xk hf hv hu (List.cons.inj e).2 (er.2 ▸ r.2.2))
  by_cases hq:q.1=k
  ·rw[if_pos (e1.trans (congrArg f hq)),(hu q).2.1 hq]; exact hv
  ·rw[if_neg λz=>hq (hf _ _ (e1.symm.trans z)),(hu q).2.2 hq]
   exact(show g q.2=c from er.1) ▸ r.2.1
theorem Xl(hf:∀a b,f a=f b→a=b) (hv:Rep h v cv) (hu:∀q,(u q).1=q.1∧(q.1=k→g (u q).2=cv)∧(q.1≠k→g (u q).2=g q.2)) (hb:g b=cv){l:List (V×V)}{qs:List (K×β)}(e:l.map (·.1)=qs.map (λq=>f q.1)) (r:h9 h (l.map (·.2)) (qs.map λq=>g q.2)){B:Bool}(hB:B=qs.any λq=>decide (q.1=k)) :
  (dput l (f k) v).map (·.1)=(if B=true then qs.map u else qs++[(k,b)]).map (λq=>f q.1)∧h9 h ((dput l (f k) v).map (·.2)) ((if B=true then qs.map u else qs++[(k,b)]).map λq=>g q.2):=by
 unfold dput
 rw[any_keys hf e,hB]
 by_cases hs:(qs.any λq=>decide (q.1=k))=true
 ·rw[if_pos hs,if_pos hs]
  exact⟨Xj.trans (e.trans ((List.map_map (g:=λq:K×β=>f q.1) (f:=u)).trans (List.map_congr_left λq _=>congrArg f (hu q).1)).symm),Xk hf hv hu e r⟩
 ·rw[if_neg hs,if_neg hs,List.map_append,List.map_append,List.map_append,List.map_append,e]
  exact⟨rfl,h9.append (.cons (show Rep h v (g b) from hb ▸ hv) .nil) r⟩
end
theorem qN{K:Type}[DecidableEq K]{k:K}{cv:Value}(q:K×Value):(if q.1=k then (q.1,cv) else q).1=q.1∧(q.1=k→(if q.1=k then (q.1,cv) else q).2=cv)∧(q.1≠k→(if q.1=k then (q.1,cv) else q).2=q.2) :=
 ⟨(apply_ite Prod.fst (q.1=k) (q.1,cv) q).trans (ite_self _),λh=>congrArg Prod.snd (if_pos h),λh=>congrArg Prod.snd (if_neg h)⟩
theorem kU{k:V}{cv:Value}(q:V×Addr×Value):(putAt k cv q).1=q.1∧(q.1=k→(putAt k cv q).2.2=cv)∧(q.1≠k→(putAt k cv q).2.2=q.2.2) :=
 ⟨(apply_ite Prod.fst (q.1=k) (q.1,q.2.1,cv) q).trans (ite_self _),λh=>congrArg (λq:V×Addr×Value=>q.2.2) (if_pos h),λh=>congrArg (λq:V×Addr×Value=>q.2.2) (if_neg h)⟩
section
variable {c:Cx}{n:Nat}{env:Env}{fs:FS}{ρ:Loc}{Z d0:a5}{Q:V→a5→Prop}{E:a5→Prop}{A:Around}{s d9:Shared}
theorem Qx{α β:Type}{f:α→V}{g:β→V}{l:List α}{m:List β}(e:l.map f=m.map g) (h:l.length≤1000000):m.length≤sizeLine:=J9 (by rw[←List.length_map (as:=m) g,←e,List.length_map]; exact h)
theorem Im{P:Value→Prop}{a:Addr}{l:List (V×V)}{k v:V}{ck cv:Value}(hl:Z a=some (.dict l)) (hk:H6 k l) (hz:l.length≤1000000) (rk:Rep s.heap k ck) (rv:Rep s.heap v cv)
  (r:Rel c Z s.heap)
  (m1:∀{K:Type}[DecidableEq K]{knd:PySem.KeyKind c.prog c.w K}{j:K}{kvs:List (K×Value)}{ck:Value},knd.is j ck=true→s.heap.DictOf knd a kvs→kvs.length≤sizeLine →
   (∀h' tk,h'.DictOf knd a (stored kvs j cv)→Heap.SameBut a s.heap h'→i0 c Z (j1 Z a (.dict (dput l k v))) (λ_=>False) s {s with heap:=h',toks:=tk})→P ck)
  (m2:∀{b:Addr}{xs:List (V×Addr×Value)},(J8 c.prog c.w).is s.heap k b→s.heap.DictOfH (J8 c.prog c.w) a xs→xs.length≤sizeLine →
   (∀h' tk,h'.DictOfH (J8 c.prog c.w) a (storedH xs k b cv)→Heap.SameBut a s.heap h'→i0 c Z (j1 Z a (.dict (dput l k v))) (λ_=>False) s {s with heap:=h',toks:=tk})→P (.ref b)):P ck :=
 Nx rk (r.3 _ _ hl).2 hk (λfi e ki hd e1 e2 mk=>m1 ki hd (Qx e1 hz) λh' tk hd' hs=>i0.change r hl rfl hs λhi =>
   have g:=Xl (g:=id) fi rv qN rfl e1 e2 rfl
   mk hd' (e ▸ g.1) (e ▸ g.2.mono hi))
  λki hd e1 e2=>m2 ki hd (Qx e1 hz) λh' tk hd' hs=>i0.change r hl rfl hs λhi =>
   have g:=Xl (f:=id) (k:=k) (g:=λp:Addr×Value=>p.2) (λ_ _=>id) rv kU rfl e1 e2 (B:=(atKey _ k).isSome) (Option.isSome_map.trans List.isSome_find?)
   .inr (.inr ⟨_,hd',g.1,g.2.mono hi⟩)
theorem U1.keyOk{l:List V}(h:U1 l){k:V}{d:List (V×V)}(hk:k∈l) (hd:∀p∈d,p.1∈l):H6 k d :=
 h.imp (λh=>(h k hk).imp λi e=>⟨e,λp hp=>h _ (hd p hp)⟩) λh=>h.imp (λh=>(h k hk).imp λi e=>⟨e,λp hp=>h _ (hd p hp)⟩) λh=>⟨(h k hk).1,(h k hk).2.imp λt e=>⟨e,λp hp=>(h _ (hd p hp)).2⟩⟩
theorem U1.sub{l m:List V}(h:U1 l) (s:∀k∈m,k∈l):U1 m:=h.imp (λh k q=>h k (s k q)) λh=>h.imp (λh k q=>h k (s k q)) λh k q=>h k (s k q)
theorem aJ{l:List (V×V)}{k v:V}{x:V}(hp:x∈(dput l k v).map (·.1)):x=k∨x∈l.map (·.1):=by
 unfold dput at hp
 by_cases h:(l.any λp=>decide (p.1=k))=true
 ·rw[if_pos h,Xj] at hp; exact .inr hp
 ·rw[if_neg h,List.map_append] at hp
  exact(List.mem_append.mp hp).elim .inr λh=>.inl (List.mem_singleton.mp h)
theorem Qy{l:List (V×V)}{k v:V}:(dput l k v).length≤l.length+1:=by
 unfold dput
 by_cases h:(l.any λp=>decide (p.1=k))=true
 ·rw[if_pos h,List.length_map]; exact Nat.le_succ _
 ·rw[if_neg h,List.length_append]; exact Nat.le_refl _
inductive dM(c:Cx) (n:Nat) (fs:FS):List (Option Expr)→List Expr→List X→Prop
 | nil:dM c n fs [] [] []
 | cons {k v:Expr}{ks:List (Option Expr)}{vs:List Expr}{xk xv:X}{xs:List X}:SX c n fs k xk→SX c n fs v xv→dM c n fs ks vs xs→dM c n fs (some k::ks) (v::vs) (xk::xv::xs)
noncomputable def pairsOf(env:Env) (pos:Pos):List (Option Expr)→List Expr→List (Sem Value×Sem Value)
 | some k::ks,v::vs=>(eval k env,do let x ←eval v env; standAt pos; pure x)::pairsOf env pos ks vs
 | _,_=>[]
theorem dM.shape{pos:Pos}{ks:List (Option Expr)}{vs:List Expr}{xs:List X}(h:dM c n fs ks vs xs) :
  (evalEachOpt ks env).zip ((evalEach vs env).map λv=>do let x ←v; standAt pos; pure x)=((pairsOf env pos ks vs).map λp=>(some p.1,p.2))∧(pairsOf env pos ks vs).length=vs.length:=by
 induction h with
 | nil=>exact⟨rfl,rfl⟩
 | cons _ _ _ ih=>exact⟨congrArg (List.cons _) ih.1,congrArg (·+1) ih.2⟩
theorem dM.eval{pos:Pos}{ks:List (Option Expr)}{vs:List Expr}{xs:List X}(h:dM c n fs ks vs xs):∀{Z:a5}{s:Shared}{Q:List V→a5→Prop}{R:List (Value×Value)→Shared→Prop},At c n env fs A d0 d9 ρ Z s→Ui c n xs ρ Z Q E →
  (∀cs us a6 s',At c n env fs A d0 d9 ρ a6 s'→i0 c Z a6 (λ_=>False) s s'→h9 s'.heap ((z9 us).map (·.1)) (cs.map (·.1))→h9 s'.heap ((z9 us).map (·.2)) (cs.map (·.2))→cs.length=vs.length→Q us a6→R cs s') →
  wpAny (model c.prog c.w) A (evalPairs (pairsOf env pos ks vs)) R (EE c d0 d9 E) s:=by
 induction h with
 | nil=>exact λa h k=>evalPairs_nil (k [] [] _ _ a (.refl a.rel) .nil .nil rfl h)
 | cons hk hv _ ih =>
  exact fun {Z s Q R} a h k=>evalPairs_cons ((hk env ρ Z _ E h).at a λck vk b0 f5 i6 t9 j7 h=>wpAny_bind ((hv env ρ b0 _ E h).at i6 λcv vv j0 j2 j4 G6 P9 h=>wpAny_bind (wpAny_standAt (wpAny_pure (ih j4 h λcs us Xm G2 Bb Uu q1 q2 q3 q4 =>
   k _ (vk::vv::us) Xm G2 Bb ((t9.trans G6).trans Uu) (.cons ((j7.post G6).post Uu) q1) (.cons (P9.post Uu) q2) (congrArg (·+1) q3) q4)))))
theorem dN{a:Addr}{o:j8}(h:Z a=some o):j1 Z a o=Z:=funext λb=>by
 by_cases e:b=a
 ·rw[e,a7,h]
 ·exact i8 e
theorem C9{a:Addr}{o o':j8}:j1 (j1 Z a o) a o'=j1 Z a o':=funext λb=>by
 by_cases e:b=a
 ·rw[e,a7,a7]
 ·rw[i8 e,i8 e,i8 e]
theorem storeAll{a:Addr}{R:PUnit→Shared→Prop}:∀{cs:List (Value×Value)}{us:List (V×V)}{l:List (V×V)}{Z:a5}{s:Shared},At c n env fs A d0 d9 ρ Z s→Z a=some (.dict l)→h9 s.heap (us.map (·.1)) (cs.map (·.1))→h9 s.heap (us.map (·.2)) (cs.map (·.2)) →
  U1 (l.map (·.1)++us.map (·.1))→l.length+cs.length≤1000→(∀s',At c n env fs A d0 d9 ρ (j1 Z a (.dict (G4 l us))) s'→R PUnit.unit s') →
  wpAny (model c.prog c.w) A (forIn cs PUnit.unit fun(x:Value×Value) (_:PUnit)=>(do dictSet a x.1 x.2; pure (ForInStep.yield PUnit.unit):Sem (ForInStep PUnit))) R (EE c d0 d9 E) s
 | [],[],l,Z,s,ha,hl,_,_,_,_,h=>wpAny_pure (h s ((dN hl).symm ▸ ha))
 | [],_::_,_,_,_,_,_,r1,_,_,_,_=>nomatch r1.length
 | _::_,[],_,_,_,_,_,r1,_,_,_,_=>nomatch r1.length
 | x::cs,u::us,l,Z,s,ha,hl,r1,r2,hk,hz,h=>by
  obtain⟨_,_,e1,k1,r1⟩:=r1
  obtain⟨_,_,e2,k2,r2⟩:=r2
  obtain⟨rfl,rfl⟩:=List.cons.inj e1
  obtain⟨rfl,rfl⟩:=List.cons.inj e2
  rw[List.forIn_cons]
  have next:∀h' tk,i0 c Z (j1 Z a (.dict (dput l u.1 u.2))) (λ_=>False) s {s with heap:=h',toks:=tk}→wpAny (model c.prog c.w) A (forIn cs PUnit.unit fun(x:Value×Value) (_:PUnit)=>(do dictSet a x.1 x.2; pure (ForInStep.yield PUnit.unit):Sem (ForInStep PUnit))) R (EE c d0 d9 E) {s with heap:=h',toks:=tk}:=λh' tk p =>
   storeAll (ha.step p) (a7 ..) (r1.mono p.Av) (r2.mono p.Av) (hk.sub λk q=>(List.mem_append.mp q).elim (λq=>(aJ q).elim (λe=>List.mem_append_right _ (e ▸ .head _)) (List.mem_append_left _)) λq=>List.mem_append_right _ (.tail _ q))
    (Nat.le_trans (Nat.add_le_add_right Qy _) (Nat.le_trans (Nat.le_of_eq (Nat.succ_add_eq_add_succ ..)) hz)) λs' a'=>h s' (C9 (Z:=Z) ▸ a')
  refine wpAny_bind (wpAny_bind (Im (P:=λck=>wpAny (model c.prog c.w) A (dictSet a ck x.2) (λ_ f5=>wpAny (model c.prog c.w) A _ _ _ f5) (EE c d0 d9 E) s) hl (hk.keyOk (k:=u.1) (List.mem_append_right _ (.head _)) λp hp=>List.mem_append_left _ (List.mem_map_of_mem hp)) (Nat.le_trans (Nat.le_add_right ..) (Nat.le_trans hz (by decide))) k1 k2 ha.rel
   (λe1 e2 e3 k=>wpAny_dictSet_pairs e1 e2 (λh' d b=>wpAny_pure (next _ _ (k h' _ d b))) e3) λe1 e2 e3 k=>wpAny_dictSet_heap (Nat.lt_of_le_of_lt (Nat.add_le_add_left (by decide) _) ha.units) e1 e2 (λh' d b=>wpAny_pure (next _ _ (k h' _ d b))) e3))
theorem v8.newDict(a:At c n env fs A d0 d9 ρ Z s){tk:Nat}:At c n env fs A d0 d9 ρ (j1 Z s.heap.objs.size (.dict [])) {s with heap:=s.heap.push {cls:=.type "dict",data:=.dict #[]},toks:=tk}∧Z s.heap.objs.size=none :=
 (i0.new (F:=λ_=>False) (tk:=tk) (o:=.dict []) (h':=s.heap.push {cls:=.type "dict",data:=.dict #[]}) a.rel F2 (λa o e=>Heap.get?_push_of_some _ e) (Nat.le_refl _)
  (.inl ⟨[],⟨_,#[],0,Heap.get?_push_size _ rfl,⟨rfl,rfl,rfl⟩,rfl,λe he=>(nomatch he),.nil,List.nodup_nil⟩,rfl,.nil⟩)).imp_left a.step
theorem zV{ks:List (Option Expr)}{vs:List Expr}{pos:Pos}{xs:List X}(hs:dM c n fs ks vs xs) (hl:vs.length≤15):SX c n fs (.Dict ks vs pos) (.dct xs):=λenv ρ Z Q E h A s o f re=>by
 have an:=(At.start o f re).newDict (tk:=s.toks)
 have h:=h _ an.2
 have hsh:=hs.shape (env:=env) (pos:=pos)
 cases vs with
 | nil =>
  cases hs
  exact wpAny_Dict_empty ⟨_,_,an.1.post,.ref _,C9 (Z:=Z) ▸ h.2.2⟩
 | cons v vs =>
  have hne:pairsOf env pos ks (v::vs)≠[]:=λe=>nomatch (congrArg List.length e).symm.trans hsh.2
  rw[arm_eval_Dict,hsh.1,dictDisplay_pairs _ hne (by rw[hsh.2]; exact Nat.lt_of_le_of_lt hl (by decide:15 < 17))]
  refine wpAny_bind (wpAny_standAt (wpAny_bind ?_))
  unfold subDict
  refine wpAny_bind (wpAny_alloc ?_)
  refine wpAny_bind (wpAny_holding ?_)
  rw[if_pos (by rw[hsh.2]; exact hl)]
  refine wpAny_bind (hs.eval an.1 h λcs us b0 f5 i6 t9 q1 q2 q3 q=>wpAny_holding ?_)
  exact wpAny_bind (storeAll i6 q.1 q1 q2 q.2.1 (Nat.le_trans (Nat.le_of_eq ((Nat.zero_add _).trans q3)) (Nat.le_trans hl (by decide))) λs' a'=>wpAny_pure (wpAny_pure (wpAny_pure ⟨_,_,a'.post,.ref _,q.2.2⟩)))
theorem slicePick_all(items:Array Value):slicePick items none none none=items:=by
 have:slicePick items none none none=slicePick items (some ((0:Nat):Int)) none none:=by
  have e:max (0:Int) (min 0 (items.size:Int))=0:=by omega
  simp[slicePick,sliceBounds,e]
 rw[this,slicePick_from']; simp
theorem h9.drop{h:Heap}:∀(k:Nat){l:List V}{cs:List Value},h9 h l cs→h9 h (l.drop k) (cs.drop k)
 | 0,_,_,r=>r
 | k+1,[],_,r=>r.Ld .nil
 | k+1,_::_,_,r=>r.E4 λ_ _ _ r=>h9.drop k r
theorem h9.take{h:Heap}:∀(k:Nat){l:List V}{cs:List Value},h9 h l cs→h9 h (l.take k) (cs.take k)
 | 0,_,_,r=>.nil
 | k+1,[],_,r=>r.Ld .nil
 | k+1,_::_,_,r=>r.E4 λ_ _ a r=>.cons a (h9.take k r)
inductive Eo:Option Expr→Option Nat→Prop
 | none:Eo none none
 | some {k p}(i:Nat):Eo (some (.Constant (.int i) k p)) (some i)
theorem Xn{e:Option Expr}{x:Option Nat}(h:Eo e x){R:Value→Shared→Prop}{E':Value→Shared→Prop}(hR:∀cv tk,(∀k,x=some k→∃t,cv=.int (k:Int) t)→(x=none→cv=.none)→IsPart cv (x.map λk=>(k:Int))→R cv {s with toks:=tk}) :
  wpAny (model c.prog c.w) A (evalPart e env) R E' s:=by
 cases h with
 | none=>exact wpAny_pure (hR .none s.toks nofun (λ_=>rfl) .none)
 | some i =>
  rw[evalPart_some]
  exact wpAny_Constant_int (hR _ _ (λk' e=>⟨_,congrArg (λk:Nat=>Value.int k _) (Option.some.inj e)⟩) nofun (.int ..))
theorem dO{h:Heap}{ia:Array Value}{l:List V}(ra:h9 h l ia.toList):∀{a b:Option Nat},a=none∨b=none→∃its:List Value,slicePick ia (a.map λk=>(k:Int)) (b.map λk=>(k:Int)) none=its.toArray∧h9 h (cut l a b) its
 | none,none,_=>⟨ia.toList,slicePick_all ia,ra⟩
 | none,some k,_=>⟨ia.toList.take k,slicePick_upto' ia k,ra.take k⟩
 | some k,none,_=>⟨ia.toList.drop k,slicePick_from' ia k,ra.drop k⟩
 | some _,some _,h=>h.elim nofun nofun
theorem Xo{e:Expr}{lo hi:Option Expr}{p:Pos}{T id:String}{R E':Value→Shared→Prop}{co sl:Value}{s':Shared}(ht:∀o r,letTemporaryGo e o r=pure ()) (hT:s'.TypeIs co T) (hl:typeLookup (.type T) "__getitem__"=pure (some (.builtin id))) (hg:wpAny (model c.prog c.w) A (getItem co sl) R E' s') :
  wpAny (model c.prog c.w) A (do let r ←subscripted (.Slice lo hi none p) (←getitemInPython co) co sl; letTemporaryGo e co r; pure r) R E' s':=by
 refine wpAny_bind ?_
 rw[getitemInPython_of_ne hT.not_modules]
 refine wpAny_bind (wpAny_specialOf hT hl ?_)
 have fin:wpAny (model c.prog c.w) A (operate [sl,co] (getItem co sl)) (λr G2=>wpAny (model c.prog c.w) A (letTemporaryGo e co r >>= λ_=>pure r) R E' G2) E' s' :=
  wpAny_operating (wpAny_mono hg (λr G2 Uv=>wpAny_bind (wpAny_of_eq (ht co r) (wpAny_pure Uv))) λ_ _ x=>x)
 first
  | exact wpAny_pure (wpAny_bind fin)
  | exact wpAny_bind (wpAny_pure (wpAny_bind fin))
  | exact wpAny_bind fin
theorem Qz{e:Expr}{lo hi:Option Expr}{p:Pos}{ca cb:Value}{a b:Option Nat}{ad:Addr}{ia:Array Value}{l:List V}{M7:Heap}{tk:Nat}(ht:∀o r,letTemporaryGo e o r=pure ()) (j4:At c n env fs A d0 d9 ρ Z {s with heap:=M7.push {cls:=.type "slice",data:=.fields #[ca,cb,.none]},toks:=tk})
  (yD:IsPart ca (a.map λk=>(k:Int))) (yE:IsPart cb (b.map λk=>(k:Int))) (hli:(M7.push {cls:=.type "slice",data:=.fields #[ca,cb,.none]}).IsList ad ia) (ra:h9 (M7.push {cls:=.type "slice",data:=.fields #[ca,cb,.none]}) l ia.toList) (h2:l.length≤1000000) (h3:a=none∨b=none)
  (h:∀r,Z r=none→Q (.ref r) (j1 Z r (.list (cut l a b)))):wpAny (model c.prog c.w) A (do let r ←subscripted (.Slice lo hi none p) (←getitemInPython (.ref ad)) (.ref ad) (.ref M7.objs.size); letTemporaryGo e (.ref ad) r; pure r) (QE c d0 d9 Q) (EE c d0 d9 E)
   {s with heap:=M7.push {cls:=.type "slice",data:=.fields #[ca,cb,.none]},toks:=tk}:=by
 refine Xo (T := "list") ht (id hli |>.imp λo x=>⟨x.1,x.2.1⟩) slot_list_getitem.lookup (wpAny_getItem_list_slice hli (Heap.IsSliceOf.new ..) yD yE .none nofun ?_ (by rw[ra.size]; exact J9 h2))
 obtain⟨its,ei,ri⟩:=dO ra h3
 rw[ei]
 exact QE.trans j4.post (QE.newList (items:=its) j4.rel ri F2 (λa o e=>Heap.get?_push_of_some _ e) (Nat.le_refl _) ⟨0,Heap.get?_push_size _ rfl⟩ h)
theorem zW{e:Expr}{lo hi:Option Expr}{p pos:Pos}{x:X}{a b:Option Nat}(hx:SX c n fs e x) (ha:Eo lo a) (hb:Eo hi b) (ht:∀o r,letTemporaryGo e o r=pure ()) :
  SX c n fs (.Subscript e (.Slice lo hi none p) pos) (.slc x a b):=λenv ρ Z Q E h A s o f re=>by
 rw[eval_Subscript]
 refine wpAny_bind ((hx env ρ Z _ E h).at (.start o f re) λco ov b0 f5 i6 t9 j7 h=>wpAny_bind (wpAny_holding ?_))
 refine wpAny_Slice (Xn ha λca tk ca1 ca2 yD=>Xn hb λcb tk' cb1 cb2 yE=>?_)
 rw[evalPart_none]
 refine wpAny_pure (wpAny_bind (wpAny_standAt ?_))
 have j4:At c n env fs A Z s ρ b0 {f5 with heap:=f5.heap.push {cls:=.type "slice",data:=.fields #[ca,cb,.none]},toks:=tk'}:=i6.step (i0.ext i6.rel F2 λa o e=>Heap.get?_push_of_some _ e)
 have h:=h.h
 cases ov with
 | tup l =>
  obtain⟨rfl,k,rfl,h1,h2,h3,h⟩:=h
  obtain⟨t,rfl⟩:=ca1 k rfl
  obtain rfl:=cb2 rfl
  refine j7.Ek λa' items ta tb=>(TupAt.keepI ta (λb o e _=>Heap.get?_push_of_some {cls:=.type "slice",data:=.fields #[.int (k:Int) t,.none,.none]} e)).elim λnn hnn=>?_
  have hz:=tb.size
  refine Xo (T := "tuple") ht ⟨_,hnn,rfl⟩ F.slot_tuple_getitem.lookup (getItem_tuple_from ⟨_,hnn,rfl,nn,rfl⟩ (Heap.IsSliceOf.new ..) h1 (by rw[hz]; exact h2) ?_ (by rw[hz]; exact J9 h3))
  exact QE.trans j4.post (QE.newTuple (items:=(items.toList.drop k).toArray) (l:=_) j4.rel (h9.drop k (tb.mono (λb o e _=>Heap.get?_push_of_some _ e))) F2 (λa o e=>Heap.get?_push_of_some _ e) ⟨0,Heap.get?_push_size _ rfl⟩ h)
 | ref ad =>
  obtain⟨l,h1,h2,h3,h⟩:=h
  obtain⟨ia,⟨na,hia⟩,ra⟩:=(j4.rel.3 _ _ h1).2
  exact j7.E3 (Qz ht j4 yD yE ⟨_,hia,rfl,na,rfl⟩ ra h2 h3 h)
 | fix v =>
  cases v with
  | ref ad =>
   obtain⟨l,⟨items,hl,hr⟩,h2,h3,h⟩:=h
   exact j7.Qm (Qz ht j4 yD yE (hl.imp λol e=>⟨j4.rel.1 _ _ e.1,e.2⟩) (hr.mono λb o e _=>j4.rel.1 b o e) h2 h3 h)
  | _=>exact h.elim
 | _=>exact h.elim
end
section
variable {c:Cx}{n:Nat}{env:Env}{fs:FS}{ρ:Loc}{Z d0:a5}{Q:V→a5→Prop}{E:a5→Prop}{A:Around}{F:Addr→Prop}{s d9:Shared}{P:Addr→Prop}{lo h h':Heap}
theorem Bt.Of{o:Obj}{v:Option Value}(d:Bt o) (h:o.data=.cell v):False:=d.elim λes d=>d.elim λep d=>by rw[d] at h; cases h
structure Quiet(c:Cx) (Z:a5) (P:Addr→Prop) (lo h h':Heap):Prop where
 free:∀b,P b→Z b=none∧c.base.get? b=none∧Above lo b
 Av:∀b o,P b→h.get? b=some o→¬Ln o
 slots:∀b o,¬P b→h.get? b=some o→∃sl,h'.get? b=some {o with slots:=sl}
 same:∀b o,¬P b→h.get? b=some o→¬Bt o∨(Z b).isSome=true∨(c.base.get? b).isSome=true→h'.get? b=some o
theorem Quiet.one{I:Addr}{o:Obj}(hI:h.get? I=some o) (hi:¬Ln o) (hn:Z I=none) (hb:c.base.get? I=none) (hlo:Above lo I) (hx:Heap.ExtBut I h h'):Quiet c Z (·=I) lo h h' :=
 ⟨λb e=>e ▸ ⟨hn,hb,hlo⟩,λb x e q=>Option.some.inj (hI.symm.trans ((congrArg h.get? e).symm.trans q)) ▸ hi,λb x n e=>⟨x.slots,hx b x n e⟩,λb x n e _=>hx b x n e⟩
theorem Quiet.keepI(q:Quiet c Z P lo h h'):u6 h h':=λb o e im=>q.same b o (λp=>q.Av b o p e im) e (.inl λd=>d.shape.2 im)
theorem Rel.quiet(r:Rel c Z h) (q:Quiet c Z P lo h h'):Rel c Z h' :=
 ⟨λb x e=>q.same b x (λp=>nomatch (q.free b p).2.1.symm.trans e) (r.1 b x e) (.inr (.inr (j3 e))),r.2,λb x e=>⟨(r.3 b x e).1,(r.3 b x e).2.at_ (λo e'=>q.same b o (λp=>nomatch (q.free b p).1.symm.trans e) e' (.inr (.inl (j3 e)))) q.keepI⟩⟩
theorem i0.quiet{tk:Nat}(p:i0 c d0 Z F d9 s) (q:Quiet c Z P d9.heap s.heap h'):i0 c d0 Z F d9 {s with heap:=h',toks:=tk} where
 same:=p.same.elim λh1 e=>e.elim λt1 e=>⟨h',tk,by rw[e]⟩
 rel:=p.rel.quiet q
 keep:=⟨λb x e=>(p.keep.1 b x e).elim λx' e'=>(q.slots b x' (λp=>(q.free b p).2.2.not e) e').elim λsl e=>⟨_,e⟩,
  λb x e n=>have k:=p.keep.2 b x e n; have np:¬P b:=λp=>(q.free b p).2.2.not e; ⟨k.1.elim λsl e1=>(q.slots b _ np e1).imp λsl' e=>e,λhd=>q.same b x np (k.2 hd) (.inl λd=>d.elim λes d=>d.elim λep d=>hd es ep d)⟩⟩
 Lp:=p.Lp
 fresh:=p.fresh
 Av:=p.Av.trans q.keepI
 nf:=λb x e n=>(p.nf b x e n).elim λx' e'=>(q.slots b x' (λp=>(q.free b p).2.2.not e) e'.1).elim λsl e=>⟨_,e,e'.2⟩
theorem Bu.quiet(f:Bu c env fs ρ Z h) (q:Quiet c Z P lo h h') (hl:¬P env.locals) (hc:∀b o,P b→h.get? b=some o→∀v,o.data≠.cell v):Bu c env fs ρ Z h' :=
 ⟨f.kind,f.names,f.glob,f.blt,f.q8,f.T9,f.ns.imp λm x=>⟨x.1.elim λo x=>x.elim λes x=>x.elim λep x=>(q.slots _ o hl x.1).elim λsl e=>⟨_,es,ep,e,x.2⟩,λx' i v h1 h2 h3=>(x.2 x' i v h1 h2 h3).imp λcv e=>⟨e.1,e.2.mono q.keepI⟩⟩,
  λx i h1 h2=>(f.cell x i h1 h2).imp λb y=>y.imp λov y=>⟨y.1,y.2.1.imp λo z=>⟨q.same b o (λp=>hc b o p z.1 _ z.2) z.1 (.inl λd=>d.Of z.2),z.2⟩,y.2.2.1,y.2.2.2.1,λv hv=>(y.2.2.2.2 v hv).imp λcv e=>⟨e.1,e.2.mono q.keepI⟩⟩,f.apart⟩
theorem v8.quiet{tk:Nat}(a:v8 c n env fs A F d0 d9 ρ Z s) (q:Quiet c Z P d9.heap s.heap h') (nd:∀b o,P b→s.heap.get? b=some o→¬Bt o∧∀v,o.data≠.cell v):v8 c n env fs A F d0 d9 ρ Z {s with heap:=h',toks:=tk} :=
 ⟨⟨a.ok.1,a.ok.2.1,a.ok.2.2.1,a.ok.2.2.2.imp λl k=>⟨k.1,k.2.move (λ_ _ _ h=>h) λb o e d=>(q.slots b o (λp=>(nd b o p e).1 d) e).elim λsl e=>⟨_,e,d⟩⟩⟩,
  a.E2.quiet q (λp=>a.E2.ns.elim λm x=>x.1.elim λo x=>x.elim λes x=>x.elim λep x=>(nd _ o p x.1).1 ⟨es,ep,x.2.1⟩) (λb o p e=>(nd b o p e).2),a.rel.quiet q,a.post.quiet q⟩
theorem qO{I:Addr}{o:Obj}{C:Obj→Prop}(hI:h.get? I=some o) (hc:C o):∀b x,b=I→h.get? b=some x→C x:=λb x e q=>Option.some.inj (hI.symm.trans ((congrArg h.get? e).symm.trans q)) ▸ hc
theorem Uw{I:Addr}{o:Obj}{tk:Nat}(a:v8 c n env fs A F d0 d9 ρ Z s) (hI:s.heap.get? I=some o) (hi:¬ Ln o) (hn:Z I=none) (hd:∀es ep,o.data≠.dict es ep) (hcell:∀v,o.data≠.cell v)
  (hlo:Above d9.heap I) (hb:c.base.get? I=none) (hx:Heap.ExtBut I s.heap h'):v8 c n env fs A F d0 d9 ρ Z {s with heap:=h',toks:=tk} :=
 a.quiet (.one hI hi hn hb hlo hx) (qO (C:=λo=>¬Bt o∧∀v,o.data≠.cell v) hI ⟨λd=>d.elim λes d=>d.elim λep d=>hd es ep d,hcell⟩)
theorem U7{I:Addr}{o:Obj}{vs:Array Value}(r:Rel c Z s.heap) (hI:s.heap.get? I=some o) (hf:o.data=.fields vs):Z I=none:=none_of λao q=>(r.3 I ao q).2.shape.elim λob y=>y.2.1 vs ((congrArg Obj.data (Option.some.inj (y.1.symm.trans hI))).trans hf)
theorem v8.junk(a:v8 c n env fs A F d0 d9 ρ Z s){I:Addr}{o:Obj}{vs:Array Value}{h':Heap}{tk:Nat}(hI:s.heap.get? I=some o) (hf:o.data=.fields vs) (hi:¬ Ln o) (hlo:Above d9.heap I) (hb:c.base.get? I=none)
  (hx:Heap.ExtBut I s.heap h'):v8 c n env fs A F d0 d9 ρ Z {s with heap:=h',toks:=tk} :=
 Uw a hI hi (U7 a.rel hI hf) (λes ep e=>nomatch hf.symm.trans e) (λv e=>nomatch hf.symm.trans e) hlo hb hx
noncomputable def S7(h:Heap) (I:Addr) (iv:V) (i:Nat):Prop:=match iv with
 | .tup l=>∃t items,h.IsTupleIter I t i∧TupAt h t items∧h9 h l items.toList
 | .rng lo hi=>IsRangeIter h I (lo+i) (hi - lo - i) 1
 | .str x=>∃t,h.IsStrIter I "str_ascii_iterator" x t i
 | .ref a=>h.IsListIter I a i
 | _=>False
noncomputable def Ca:List String:=["tuple_iterator", "range_iterator", "str_ascii_iterator", "list_iterator"]
theorem S7.obj{I:Addr}{iv:V}{i:Nat}(x:S7 h I iv i):∃o T vs,h.get? I=some o∧o.cls=.type T∧o.data=.fields vs∧T∈Ca:=by
 have t {o:Obj}{T:String}{vs:Array Value}(x:h.get? I=some o∧o.cls=.type T∧o.data=.fields vs) (m:T∈Ca):∃o T vs,h.get? I=some o∧o.cls=.type T∧o.data=.fields vs∧T∈Ca:=⟨o,T,vs,x.1,x.2.1,x.2.2,m⟩
 cases iv with
 | tup l=>exact x.elim λ_ x=>x.elim λ_ x=>x.1.elim λo x=>t x (.head _)
 | rng lo hi=>exact t (T := "range_iterator") ⟨x,rfl,rfl⟩ (.tail _ (.head _))
 | str x'=>exact x.elim λ_ x=>x.elim λo x=>t x (.tail _ (.tail _ (.head _)))
 | ref a=>exact x.elim λo x=>t x (.tail _ (.tail _ (.tail _ (.head _))))
 | _=>exact x.elim
theorem Io{o:Obj}{T:String}{vs:Array Value}(h1:o.cls=.type T) (m:T∈Ca):¬Ln o:=λim=>im.elim (λq=>absurd (Value.type.inj (h1.symm.trans q.1) ▸ m) (by decide)) λq=>absurd (Value.type.inj (h1.symm.trans q.1) ▸ m) (by decide)
theorem S7.keep{I:Addr}{iv:V}{i:Nat}(x:S7 h I iv i) (k:∀o,h.get? I=some o→h'.get? I=some o) (ki:u6 h h'):S7 h' I iv i:=by
 cases iv with
 | tup l=>exact x.imp λt x=>x.imp λitems x=>⟨x.1.imp λo x=>⟨k o x.1,x.2⟩,x.2.1.keepI ki,x.2.2.mono ki⟩
 | rng lo hi=>exact k _ x
 | str x'=>exact x.imp λt x=>x.imp λo x=>⟨k o x.1,x.2⟩
 | ref a=>exact x.imp λo x=>⟨k o x.1,x.2⟩
 | _=>exact x.elim
theorem S7.q8{I:Addr}{iv:V}{i:Nat}(x:S7 s.heap I iv i) (r:Rel c Z s.heap):Z I=none:=x.obj.elim λo x=>x.elim λT x=>x.elim λvs x=>U7 r x.1 x.2.2.1
theorem S7.post{b0:a5}{f5:Shared}{I:Addr}{iv:V}{i:Nat}(x:S7 s.heap I iv i) (p:i0 c Z b0 F s f5) (hn:Z I=none) (hF:¬ F I):S7 f5.heap I iv i :=
 x.obj.elim λo y=>y.elim λT y=>y.elim λvs y=>x.keep (λo' e'=>Option.some.inj (y.1.symm.trans e') ▸ (p.keep.2 I o y.1 λq=>q.elim (λq=>g9 q hn) hF).2 λes n q=>nomatch y.2.2.1.symm.trans q) p.Av
theorem A7{I:Addr}(r:Rel c Z s.heap) (h:Above s.heap I):c.base.get? I=none:=none_of λo q=>h.not (r.1 I o q)
structure aK(c:Cx) (d9 s:Shared) (I:Addr) (iv:V) (i:Nat):Prop where
 at_:S7 s.heap I iv i
 lo:Above d9.heap I
 base:c.base.get? I=none
theorem Ep{a:Addr}{l:List V}(hit:A5 (.ref a) Z l):Z a=some (.list l):=by
 unfold A5 at hit
 dsimp only at hit
 cases h:Z a with
 | none=>rw[h] at hit; exact hit.elim
 | some o =>
  rw[h] at hit
  cases o with
  | list x=>exact congrArg (λx=>some (j8.list x)) (show l=x from hit).symm
  | _=>exact hit.elim
theorem Xp{iv:V}{ci:Value}{l:List V}{R:Value→Shared→Prop}{E':Value→Shared→Prop}(a:v8 c n env fs A F d0 d9 ρ Z s) (hr:Rep s.heap iv ci) (hit:A5 iv Z l)
  (h:∀I s',v8 c n env fs A F d0 d9 ρ Z s'→aK c d9 s' I iv 0→R (.ref I) s'):wpAny (model c.prog c.w) A (pyIter ci) R E' s:=by
 have hI:Above s.heap s.heap.objs.size:=.of_le (Nat.le_refl _)
 have go {o:Obj}(x:S7 (s.heap.push o) s.heap.objs.size iv 0):R (.ref s.heap.objs.size) {s with heap:=s.heap.push o}:=h _ _ (a.step (i0.ext (tk:=s.toks) a.rel F2 λb x e=>Heap.get?_push_of_some _ e)) ⟨x,hI.back a.post.keep.1,A7 a.rel hI⟩
 have ki {o:Obj}:u6 s.heap (s.heap.push o):=λb x e _=>Heap.get?_push_of_some _ e
 cases iv with
 | tup l=>exact hr.Ek λt items ta ra=>wpAny_pyIter_tuple ta.isTuple (go ⟨t,items,⟨_,Heap.get?_push_size _ rfl,rfl,rfl⟩,ta.keepI ki,ra.mono ki⟩)
 | rng lo hi =>
  obtain⟨h1,h2,h3,_⟩:=hit
  refine hr.qD λad t u v hx=>wpAny_pyIter_range hx (small_one (by omega) (by omega) (by omega) (by omega)) ?_
  have:Builtin.Range.rangeSize lo hi 1=hi - lo:=by
   unfold Builtin.Range.rangeSize; simp; omega
  refine go (?_:IsRangeIter _ _ (lo+(0:Nat)) (hi - lo - (0:Nat)) 1)
  rw[this,Int.natCast_zero,Int.add_zero,Int.sub_zero]
  exact Heap.get?_push_size _ rfl
 | str x=>exact hr.Nq λt=>wpAny_pyIter_ascii hit.1 (go ⟨t,_,Heap.get?_push_size _ rfl,rfl,rfl⟩)
 | ref ad=>exact(a.rel.3 _ _ (Ep hit)).2.elim λia x=>x.1.elim λna hia=>hr.E3 (wpAny_pyIter_list ⟨_,hia,rfl,na,rfl⟩ (go ⟨_,Heap.get?_push_size _ rfl,rfl,rfl⟩))
 | _=>exact hit.elim
theorem next_item{I:Addr}{iv:V}{i:Nat}{l:List V}{x:V}{R:Option Value→Shared→Prop}{E':Value→Shared→Prop}(a:v8 c n env fs A F d0 d9 ρ Z s) (it:aK c d9 s I iv i) (hit:A5 iv Z l) (hx:l[i]?=some x)
  (h:∀cv s',v8 c n env fs A F d0 d9 ρ Z s'→aK c d9 s' I iv (i+1)→Rep s'.heap x cv→Heap.ExtBut I s.heap s'.heap→R (some cv) s'):wpAny (model c.prog c.w) A (pyNext (.ref I)) R E' s:=by
 obtain⟨o,T,vs,hI,hT,hf,hm⟩:=it.at_.obj
 have hi:=Io (vs:=vs) hT hm
 have ki {h':Heap}(hs:Heap.SameBut I s.heap h'):u6 s.heap h':=λb y e im=>(hs.2 b λq=>hi (Option.some.inj (hI.symm.trans ((congrArg s.heap.get? q).symm.trans e)) ▸ im)).trans e
 have go {cv:Value}{h':Heap}{tk:Nat}(hs:Heap.SameBut I s.heap h') (y:S7 h' I iv (i+1)) (r:Rep h' x cv):R (some cv) {s with heap:=h',toks:=tk}:=h cv _ (a.junk hI hf hi it.lo it.base hs.extBut) ⟨y,it.lo,it.base⟩ r hs.extBut
 have it':=it.at_
 cases iv with
 | tup l' =>
  obtain rfl:l=l':=hit
  obtain⟨t,items,h1,h2,h3⟩:=it'
  exact(h3.get hx).elim λcv e=>wpAny_pyNext_tuple_item h1 h2.isTuple (x:=cv) (Bz e.1) λh' hn hs=>go hs ⟨t,items,hn,h2.keepI (ki hs),h3.mono (ki hs)⟩ (e.2.mono (ki hs))
 | rng lo hi' =>
  obtain⟨g1,g2,g3,rfl⟩:=hit
  rw[List.getElem?_map] at hx
  obtain⟨j,e1,rfl⟩:=Option.map_eq_some_iff.mp hx
  obtain⟨hlt,e1⟩:=List.getElem?_eq_some_iff.mp e1
  rw[List.getElem_range] at e1
  subst e1
  rw[List.length_range] at hlt
  refine wpAny_pyNext_range_item it' (by omega) λh' hn hs=>go hs (?_:IsRangeIter _ _ (lo+((i+1:Nat):Int)) (hi' - lo - ((i+1:Nat):Int)) 1) (.int ..)
  rw[show((i+1:Nat):Int)=(i:Int)+1 from rfl,←Int.add_assoc,←Int.sub_sub]
  exact hn
 | str xs =>
  obtain⟨g1,rfl⟩:=hit
  obtain⟨t,h1⟩:=it'
  rw[List.getElem?_map] at hx
  obtain⟨u,e1,rfl⟩:=Option.map_eq_some_iff.mp hx
  exact wpAny_pyNext_ascii_item h1 (Array.getElem?_toList.symm.trans e1) λh' hn hs=>go hs ⟨t,hn⟩ (.str ..)
 | ref ad =>
  obtain⟨ia,⟨na,hia⟩,ra⟩:=(a.rel.3 _ _ (Ep hit)).2
  exact(ra.get hx).elim λcv e=>wpAny_pyNext_list_item it' ⟨_,hia,rfl,na,rfl⟩ (x:=cv) (Bz e.1) λh' hn hs=>go hs hn (e.2.mono (ki hs))
 | _=>exact hit.elim
theorem Er{α β:Type}{l:List α}{ia:Array β}{i:Nat}(sz:ia.size=l.length) (hx:l[i]?=none):ia[i]?=none:=Array.getElem?_eq_none (sz ▸ List.getElem?_eq_none_iff.mp hx)
theorem next_end{I:Addr}{iv:V}{i:Nat}{l:List V}{R:Option Value→Shared→Prop}{E':Value→Shared→Prop}(a:v8 c n env fs A F d0 d9 ρ Z s) (it:aK c d9 s I iv i) (hit:A5 iv Z l) (hx:l[i]?=none)
  (h:∀s',v8 c n env fs A F d0 d9 ρ Z s'→Heap.ExtBut I s.heap s'.heap→R none s'):wpAny (model c.prog c.w) A (pyNext (.ref I)) R E' s:=by
 obtain⟨o,T,vs,hI,hT,hf,hm⟩:=it.at_.obj
 have go {h':Heap}(hs:Heap.ExtBut I s.heap h'):R none {s with heap:=h'}:=h _ (a.junk (tk:=s.toks) hI hf (Io (vs:=vs) hT hm) it.lo it.base hs) hs
 have hh:=a.ok.2.2.1
 have it':=it.at_
 cases iv with
 | tup l' =>
  obtain rfl:l=l':=hit
  obtain⟨t,items,h1,h2,h3⟩:=it'
  exact wpAny_pyNext_tuple_end hh h1 h2.isTuple (Er h3.size hx) λh' hs=>go hs
 | rng lo hi' =>
  obtain⟨g1,g2,g3,rfl⟩:=hit
  have hlt:=List.getElem?_eq_none_iff.mp hx
  rw[List.length_map,List.length_range] at hlt
  exact wpAny_pyNext_range_end hh it' (by omega) λh' hs=>go hs
 | str xs =>
  obtain⟨g1,rfl⟩:=hit
  obtain⟨t,h1⟩:=it'
  exact wpAny_pyNext_ascii_end hh h1 (Er (l:=xs.cps.toList.map λk=>V.str ⟨#[k]⟩) (by rw[List.length_map,Array.length_toList]) hx) λh' hs=>go hs
 | ref ad =>
  obtain⟨ia,⟨na,hia⟩,ra⟩:=(a.rel.3 _ _ (Ep hit)).2
  exact wpAny_pyNext_list_end hh it' ⟨_,hia,rfl,na,rfl⟩ (Er ra.size hx) λh' hs=>go hs
 | _=>exact hit.elim
theorem aL{I:Addr}{iv:V}{i:Nat}{R:Value→Shared→Prop}{E':Value→Shared→Prop}(it:S7 s.heap I iv i) (h:R (.ref I) s):wpAny (model c.prog c.w) A (pyIter (.ref I)) R E' s:=by
 cases iv with
 | tup l=>exact it.elim λt x=>x.elim λitems x=>wpAny_pyIter_tupleiter x.1 h
 | rng lo hi=>exact wpAny_pyIter_rangeiter it h
 | str x=>exact it.elim λt h1=>wpAny_pyIter_striter_ascii h1 h
 | ref a=>exact wpAny_pyIter_listiter it h
 | _=>exact it.elim
theorem Ra{t:Expr}{I:Addr}{iv:V}{i:Nat}{cv:Value}{R:Unit→Shared→Prop}{E':Value→Shared→Prop}(ht:(∃x p,t=.Name x p)∨∃es k p,t=.Tuple es k p) (it:S7 s.heap I iv i) (h:R () s) :
  wpAny (model c.prog c.w) A (letOwnedTupleGo t (.ref I) cv) R E' s:=by
 rcases ht with⟨x,p,rfl⟩ | ⟨es,k,p,rfl⟩
 ·exact wpAny_pure h
 ·cases cv with
  | ref T =>
   obtain⟨o,ty,vs,e,e1,e3,hm⟩:=it.obj
   have e2:(["enumerate", "zip", "dict_itemiterator", "dict_reverseitemiterator", "odict_iterator", "itertools.zip_longest", "itertools.pairwise"].contains ty)=false:=(by decide:∀ty∈Ca,(["enumerate", "zip", "dict_itemiterator", "dict_reverseitemiterator", "odict_iterator", "itertools.zip_longest", "itertools.pairwise"].contains ty)=false) ty hm
   unfold letOwnedTupleGo
   refine wpAny_bind (wpAny_load e ?_)
   rw[e1,e3]
   dsimp only
   rw[e2,Bool.false_and]
   exact wpAny_pure h
  | _=>exact wpAny_pure h
end
noncomputable def Inj(fs:FS):Prop:=∀x y i,fs.res.lookup x=some i→fs.res.lookup y=some i→x=y
section
variable {c:Cx}{n:Nat}{env:Env}{fs:FS}{ρ:Loc}{Z d0:a5}{Q:V→a5→Prop}{E:a5→Prop}{A:Around}{F:Addr→Prop}{s d9:Shared}
theorem i0.grow{c:Cx}{Z:a5}{F:Addr→Prop}{s:Shared}{h':Heap}{tk:Nat}(r:Rel c Z s.heap) (k:∀a o,s.heap.get? a=some o→h'.get? a=some o) :
  i0 c Z Z F s {s with heap:=h',toks:=tk} :=
 ⟨⟨h',tk,rfl⟩,r.ext k,.ext (λb o e=>⟨o,k b o e⟩) λa o e _=>k a o e,λ_ o e=>⟨o,e,rfl⟩,λa h1 h2=>g9 h1 h2,λa o e _=>k a o e,λb o e n=>⟨o,k b o e,n⟩⟩
theorem w6{ρ:Loc}{i:Nat}{v:V}:t8 ρ i v i=some v:=if_pos rfl
theorem z6{ρ:Loc}{i j:Nat}{v:V}(h:j≠i):t8 ρ i v j=ρ j:=if_neg h
theorem yF{α:Type}{a:Option α}{x y:α}{P:Prop}(h1:a=some x) (h2:a=some y) (h:x≠y):P:=absurd (Option.some.inj (h1.symm.trans h2)) h
theorem Xq{h:Heap}{b L:Addr}{o:Obj}{v:Option Value}(ho:h.get? L=some o) (d:Bt o) (hc:h.IsCell b v):b≠L:=λe=>by
 subst e
 obtain⟨oc,h1,h2⟩:=hc
 rw[ho] at h1
 exact d.Of (Option.some.inj h1 ▸ h2)
theorem Inj.ne{fs:FS}(hi:Inj fs){x y:Str}{i j:Nat}(hx:fs.res.lookup x=some i) (h1:fs.res.lookup y=some j) (hy:y≠x):j≠i:=λe=>hy (hi _ _ _ (e ▸ h1) hx)
theorem v8.Lw{R:Unit→Shared→Prop}{E':Value→Shared→Prop}(a:v8 c n env fs A F d0 d9 ρ Z s) (hi:Inj fs){x:Str}{i:Nat}{v:V}{cv:Value}(hx:fs.res.lookup x=some i) (hk:fs.sc.lookup x=some .local) (hF:F env.locals) (rv:Rep s.heap v cv)
  (h:∀s',v8 c n env fs A F d0 d9 (t8 ρ i v) Z s'→i0 c Z Z F s s'→Heap.SameBut env.locals s.heap s'.heap→R () s'):wpAny (model c.prog c.w) A (storeName env x cv) R E' s:=by
 have f:=a.E2
 have hko:=j6 f.names hk
 obtain⟨m,hn,hm⟩:=f.ns
 obtain⟨o,es,ep,ho,hd,_⟩:=id hn
 refine wpAny_storeName_local hko hn (λh' hn' hs=>?_) (by rw[f.kind]; rfl)
 obtain⟨o',es',ep',ho',hd',_⟩:=id hn'
 have p:i0 c Z Z F s {s with heap:=h',toks:=s.toks+1}:=i0.own (tk:=s.toks+1) a.rel f.q8 f.T9 hF ho (λim=>im.noDict hd) ho' (λ_=>⟨es',ep',hd'⟩) hs
 refine h _ ⟨a.ok.post p,⟨f.kind,f.names,f.glob,f.blt,f.q8,f.T9,⟨_,hn',λy j u h1 h2 h3=>?_⟩,λy j h1 h2=>?_,f.apart⟩,p.rel,a.post.trans p⟩ p hs
 ·by_cases hy:y=x
  ·subst hy
   obtain rfl:=Option.some.inj (hx.symm.trans h1)
   exact⟨cv,if_pos rfl,Option.some.inj (w6.symm.trans h2) ▸ rv.mono p.Av⟩
  ·rw[z6 (hi.ne hx h1 hy)] at h2
   exact(hm y j u h1 h2 h3).imp λcu e=>⟨(if_neg hy).trans e.1,e.2.mono p.Av⟩
 ·have hy:y≠x:=λe=>h2.elim (λh2=>yF hko (show env.kindOf x=some .cell from e ▸ h2) nofun) λh2=>yF hko (show env.kindOf x=some .free from e ▸ h2) nofun
  exact(f.cell y j h1 h2).imp λb y'=>y'.imp λov y'=>⟨y'.1,y'.2.1.imp λoc z=>⟨(hs.2 b (Xq ho ⟨es,ep,hd⟩ ⟨oc,z⟩)).trans z.1,z.2⟩,y'.2.2.1,y'.2.2.2.1,
   λu hu=>(y'.2.2.2.2 u ((z6 (hi.ne hx h1 hy)).symm.trans hu)).imp λcu e=>⟨e.1,e.2.mono p.Av⟩⟩
theorem v8.dP{R:Unit→Shared→Prop}{E':Value→Shared→Prop}(a:v8 c n env fs A F d0 d9 ρ Z s) (hi:Inj fs){x:Str}{i:Nat}{v:V}{cv:Value}(hx:fs.res.lookup x=some i) (hk:fs.sc.lookup x=some .local) (hF:F env.locals) (rv:Rep s.heap v cv)
  (h:∀s',v8 c n env fs A F d0 d9 (t8 ρ i v) Z s'→i0 c Z Z F s s'→R () s'):wpAny (model c.prog c.w) A (storeName env x cv) R E' s :=
 a.Lw hi hx hk hF rv λs' a' p _=>h s' a' p
theorem v8.setCell{R:Unit→Shared→Prop}{E':Value→Shared→Prop}(a:v8 c n env fs A F d0 d9 ρ Z s) (hi:Inj fs){x:Str}{i:Nat}{v:V}{cv:Value}(hx:fs.res.lookup x=some i) (hk:fs.sc.lookup x=some .cell)
  (hF:∀b,env.cells.lookup x=some b→F b) (rv:Rep s.heap v cv)
  (h:∀s',v8 c n env fs A F d0 d9 (t8 ρ i v) Z s'→i0 c Z Z F s s'→R () s'):wpAny (model c.prog c.w) A (storeName env x cv) R E' s:=by
 have f:=a.E2
 have hko:=j6 f.names hk
 obtain⟨b,ov,h3,hc,h5,h6,_⟩:=f.cell x i hx (.inl hko)
 obtain⟨oc,hoc,hdc⟩:=id hc
 refine wpAny_storeName_cell f.kind hko h3 hc λh' hc' hs=>?_
 obtain⟨oc',zX,a5l⟩:=id hc'
 have zY:¬Ln oc:=λim=>im.elim (λq=>q.2.elim λ_ q=>q.elim λ_ q=>nomatch hdc.symm.trans q) λq=>q.2.elim λ_ q=>nomatch hdc.symm.trans q.1
 have p:i0 c Z Z F s {s with heap:=h'}:=i0.own (tk:=s.toks) a.rel h5 h6 (hF b h3) hoc zY zX (λd=>(d.Of hdc).elim) hs
 refine h _ ⟨a.ok.post p,⟨f.kind,f.names,f.glob,f.blt,f.q8,f.T9,f.ns.imp λm x'=>⟨x'.1.imp λo y=>y.imp λes y=>y.imp λep y=>⟨(hs.2 _ (Xq y.1 ⟨es,ep,y.2.1⟩ ⟨oc,hoc,hdc⟩).symm).trans y.1,y.2⟩,λy j u h1 h2 h4=>?_⟩,λy j h1 h2=>?_,f.apart⟩,p.rel,a.post.trans p⟩ p
 ·have hy:y≠x:=λe=>yF hko (show env.kindOf x=some .local from e ▸ h4) nofun
  exact(x'.2 y j u h1 ((z6 (hi.ne hx h1 hy)).symm.trans h2) h4).imp λcu e=>⟨e.1,e.2.mono p.Av⟩
 ·by_cases hy:y=x
  ·subst hy
   obtain rfl:=Option.some.inj (hx.symm.trans h1)
   exact⟨b,_,h3,hc',h5,h6,λu hu=>⟨cv,rfl,Option.some.inj (w6.symm.trans hu) ▸ rv.mono p.Av⟩⟩
  ·exact(f.cell y j h1 h2).imp λb' g=>g.imp λov' g=>⟨g.1,g.2.1.imp λo2 z=>⟨(hs.2 b' λe=>hy (f.apart _ _ _ g.1 (e ▸ h3))).trans z.1,z.2⟩,g.2.2.1,g.2.2.2.1,λu hu=>(g.2.2.2.2 u ((z6 (hi.ne hx h1 hy)).symm.trans hu)).imp λcu e=>⟨e.1,e.2.mono p.Av⟩⟩
noncomputable def Own(fs:FS) (env:Env):Addr→Prop:=λa=>a=env.locals∨∃x i,fs.res.lookup x=some i∧fs.sc.lookup x=some .cell∧env.cells.lookup x=some a
noncomputable def K1(fs:FS) (cl:Bool) (x:Str) (i:Nat):Prop:=fs.res.lookup x=some i∧(fs.sc.lookup x=some .local∨(cl=true∧fs.sc.lookup x=some .cell))
noncomputable def Ip(fs:FS) (env:Env) (cl:Bool) (F:Addr→Prop):Prop:=F env.locals∧(cl=true→∀x i b,fs.res.lookup x=some i→fs.sc.lookup x=some .cell→env.cells.lookup x=some b→F b)
theorem Ip.own(fs:FS) (env:Env):Ip fs env true (Own fs env):=⟨.inl rfl,λ_ x i _ e1 e2 e=>.inr ⟨x,i,e1,e2,e⟩⟩
theorem v8.set{R:Unit→Shared→Prop}{E':Value→Shared→Prop}{cl:Bool}(a:v8 c n env fs A F d0 d9 ρ Z s) (hi:Inj fs){x:Str}{i:Nat}{v:V}{cv:Value}(hx:K1 fs cl x i) (hF:Ip fs env cl F) (rv:Rep s.heap v cv)
  (h:∀s',v8 c n env fs A F d0 d9 (t8 ρ i v) Z s'→i0 c Z Z F s s'→R () s'):wpAny (model c.prog c.w) A (storeName env x cv) R E' s :=
 hx.2.elim (λh2=>a.dP hi hx.1 h2 hF.1 rv h) λh2=>a.setCell hi hx.1 h2.2 (λb hb=>hF.2 h2.1 x i b hx.1 h2.2 hb) rv h
inductive U8(fs:FS) (cl:Bool):Expr→Tg→Prop
 | one {x:Str}{p:Pos}{i:Nat}:K1 fs cl x i→U8 fs cl (.Name x p) (.one i)
 | two {x y:Str}{p q r:Pos}{k:Nat}{i j:Nat}:K1 fs cl x i→K1 fs cl y j→U8 fs cl (.Tuple [.Name x p,.Name y q] k r) (.two i j)
theorem U8.form{fs:FS}{cl:Bool}{t:Expr}{tg:Tg}(h:U8 fs cl t tg):(∃x p,t=.Name x p)∨∃es k p,t=.Tuple es k p :=
 h.casesOn (λ_=>.inl ⟨_,_,rfl⟩) λ_ _=>.inr ⟨_,_,_,rfl⟩
theorem Xr{i j:Nat}{v:V}{ρ:Loc}{K:Loc→Prop}{P:V→Prop}(h:aC (.two i j) v ρ K) (k:∀a b,K (t8 (t8 ρ i a) j b)→P (.tup [a,b])):P v:=by
 cases v with
 | tup l=>match l,h with
  | [a,b],h=>exact k a b h
 | _=>exact h.elim
theorem v8.assign{R:Unit→Shared→Prop}{E':Value→Shared→Prop}{cl:Bool}{t:Expr}{tg:Tg}{K:Loc→Prop}(a:v8 c n env fs A F d0 d9 ρ Z s) (hi:Inj fs){v:V}{cv:Value}(ht:U8 fs cl t tg) (hF:Ip fs env cl F) (rv:Rep s.heap v cv)
  (hk:aC tg v ρ K) (h:∀u7 s',v8 c n env fs A F d0 d9 u7 Z s'→i0 c Z Z F s s'→K u7→R () s'):wpAny (model c.prog c.w) A (PySem.assign t env cv) R E' s:=by
 cases ht with
 | one h1=>exact wpAny_assign_Name (a.set hi h1 hF rv λs' a' p=>h _ s' a' p hk)
 | @two x y p q r k i j h1 h2 =>
  refine Xr (P:=λv=>Rep s.heap v cv→wpAny (model c.prog c.w) A (PySem.assign (.Tuple [.Name x p,.Name y q] k r) env cv) R E' s) hk (λu w hk rv=>?_) rv
  obtain⟨ad,⟨li⟩,rfl,ta,r1⟩:=rv
  obtain⟨c1,t1,rfl,r1,r2⟩:=r1
  obtain⟨c2,t2,rfl,r2,e⟩:=r2
  obtain rfl:t2=[]:=e
  refine wpAny_assign_Tuple a.ok.2.2.1 ta.isTuple rfl rfl λh' hx=>?_
  have p:i0 c Z Z (λ_=>False) s {s with heap:=h',toks:=s.toks}:=i0.grow (tk:=s.toks) a.rel λb o e=>hx b o (Nat.ne_of_lt (Heap.lt_size e)) e
  have a1:v8 c n env fs A F d0 d9 ρ Z {s with heap:=h'}:=a.step p
  exact wpAny_bind (wpAny_holding (wpAny_assign_Name (a1.set hi h1 hF (r1.mono p.Av) λs1 a2 p2=>wpAny_bind (wpAny_holding (wpAny_assign_Name (a2.set hi h2 hF ((r2.mono p.Av).mono p2.Av) λs2 a3 p3=>wpAny_pure (h _ _ a3 (((p.Qo λ_ h=>h.elim).trans p2).trans p3) hk)))))))
end
section
variable {c:Cx}{n:Nat}{env:Env}{fs:FS}{ρ:Loc}{Z d0:a5}{Q:V→a5→Prop}{E:a5→Prop}{A:Around}{F G':Addr→Prop}{s d9:Shared}
theorem i0.narrow(p:i0 c d0 Z F d9 s) (h:∀a,F a→G' a∨Above d9.heap a):i0 c d0 Z G' d9 s :=
 {p with keep:=⟨p.keep.1,λa o e n=>p.keep.2 a o e λq=>q.elim (λq=>n (.inl q)) λq=>(h a q).elim (λq=>n (.inr q)) λq=>q.not e⟩}
theorem i0.adopt{D:Addr}{o:j8}(p:i0 c d0 Z F d9 s) (h2:2 < D) (hD:Above d9.heap D) (hb:c.base.get? D=none) (hn:Z D=none) (hr:Z8 c.prog c.w s.heap D o):i0 c d0 (j1 Z D o) F d9 s:=by
 have ne {a x}(e:Z a=some x):a≠D:=λq=>by rw[q,hn] at e; cases e
 refine⟨p.same,⟨p.rel.1,p.rel.2,λa x e=>?_⟩,p.keep,λa x e=>(p.Lp a x e).imp λy q=>⟨(i8 (ne q.1)).trans q.1,q.2⟩,λa h1 h2=>?_,p.Av,p.nf⟩
 all_goals by_cases h:a=D
 ·subst h
  exact⟨⟨hb,h2⟩,Option.some.inj ((a7 ..).symm.trans e) ▸ hr⟩
 ·exact p.rel.3 a x ((i8 h).symm.trans e)
 ·exact h ▸ hD
 ·exact p.fresh a ((congrArg Option.isSome (i8 (o:=o) h)).symm.trans h1) h2
noncomputable def N4:Tg→List Nat
 | .one i=>[i]
 | .two i j=>[i,j]
noncomputable def u9(ρ:Loc) (l:List Nat):Loc:=λj=>if j∈l then none else ρ j
theorem dQ{tg:Tg}{v:V}{ρ:Loc}{K:Loc→Prop}(h:aC tg v ρ K):aC tg v (u9 ρ (N4 tg)) λu7=>K u7∧∀j,j∉N4 tg→u7 j=u9 ρ (N4 tg) j:=by
 cases tg with
 | one i =>
  refine(?_:K (t8 (u9 ρ [i]) i v)∧∀j,j∉[i]→t8 (u9 ρ [i]) i v j=u9 ρ [i] j)
  refine⟨(?_:t8 ρ i v=t8 (u9 ρ [i]) i v) ▸ h,λj hj=>z6 λq=>hj (List.mem_singleton.mpr q)⟩
  funext j
  by_cases e:j=i
  ·rw[e,w6,w6]
  ·rw[z6 e,z6 e]; exact(if_neg λq=>e (List.mem_singleton.mp q)).symm
 | two i j =>
  refine Xr (P:=λv=>aC (.two i j) v (u9 ρ [i,j]) λu7=>K u7∧∀k,k∉[i,j]→u7 k=u9 ρ [i,j] k) h λa b h=>?_
  refine(?_:K (t8 (t8 (u9 ρ [i,j]) i a) j b)∧∀k,k∉[i,j]→t8 (t8 (u9 ρ [i,j]) i a) j b k=u9 ρ [i,j] k)
  refine⟨(?_:t8 (t8 ρ i a) j b=t8 (t8 (u9 ρ [i,j]) i a) j b) ▸ h,λk hk=>(z6 λq=>hk (List.mem_cons.mpr (.inr (List.mem_singleton.mpr q)))).trans (z6 λq=>hk (List.mem_cons.mpr (.inl q)))⟩
  funext k
  by_cases e:k=j
  ·rw[e,w6,w6]
  ·rw[z6 e,z6 e]
   by_cases e':k=i
   ·rw[e',w6,w6]
   ·rw[z6 e',z6 e']; exact(if_neg λq=>(List.mem_cons.mp q).elim e' λq=>e (List.mem_singleton.mp q)).symm
theorem Y5{ρ:Loc}{l:List Nat}{j:Nat}{v:V}(h:u9 ρ l j=some v):j∉l∧ρ j=some v:=by
 by_cases e:j∈l
 ·exact nomatch (if_pos e).symm.trans h
 ·exact⟨e,(if_neg e).symm.trans h⟩
noncomputable def Es(sc:List (Str×NameKind)) (names:List (Str×NameKind)):List (Str×NameKind) :=
 names.map fun(n,k)=>if (k == NameKind.free && sc.lookup n == some NameKind.cell) then (n,NameKind.cell) else (n,k)
noncomputable def m0(fs:FS) (scope:Scope):FS:={sc:=Es fs.sc scope.names,res:=fs.res}
structure A8(fs:FS) (scope:Scope) (tg:Tg):Prop where
 kind:scope.kind=.function
 dR:∀x∈scope.names,x.2≠.cell
 names:∀x∈scope.names,x.2=.local→scope.names.lookup x.1=some .local
 free:∀x∈scope.names,x.2=.free→(fs.sc.lookup x.1=some .cell∨fs.sc.lookup x.1=some .free)∧(fs.res.lookup x.1).isSome=true
 locals:∀x i,(x,NameKind.local)∈scope.names→fs.res.lookup x=some i→i∈N4 tg
theorem Bc{sc names:List (Str×NameKind)}{x:Str}{k:NameKind}(h:(Es sc names).lookup x=some k):(x,k)∈names∨((x,NameKind.free)∈names∧k=.cell):=by
 obtain⟨⟨y,q⟩,hm,e⟩:=List.mem_map.mp (mem_of_lookup h)
 refine Or.elim (Bool.eq_false_or_eq_true (q == NameKind.free && sc.lookup y == some NameKind.cell)) (λb=>?_) λb=>?_
 ·have e:=Prod.mk.inj ((if_pos b).symm.trans e)
  exact .inr ⟨e.1 ▸ beq_iff_eq.mp (Bool.and_eq_true_iff.mp b).1 ▸ hm,e.2.symm⟩
 ·have e:=Prod.mk.inj ((if_neg (Bool.eq_false_iff.mp b)).symm.trans e)
  exact .inl (e.1 ▸ e.2 ▸ hm)
noncomputable def Gx(cells:List (Str×Addr)):List (Str×NameKind)→List (Str×Addr)→List (Str×Addr)
 | [],acc=>acc
 | (x,k)::r,acc=>Gx cells r (if k=.free then (x,(cells.lookup x).getD 0)::acc else acc)
theorem Ac{scope:Scope}(h:∀x∈scope.names,x.2=.free→(env.cells.lookup x.1).isSome=true):closureFor scope env=pure (Gx env.cells scope.names []):=by
 unfold closureFor
 suffices hh:∀(l:List (Str×NameKind)) (acc:List (Str×Addr)),(∀x∈l,x.2=NameKind.free→(env.cells.lookup x.1).isSome=true) →
   (forIn l acc fun(x:Str×NameKind) (cs:List (Str×Addr))=>(if (x.2 == NameKind.free)=true then do let a ←cellOf env x.1; pure (ForInStep.yield ((x.1,a)::cs)) else pure (ForInStep.yield cs):Sem (ForInStep (List (Str×Addr)))))=pure (Gx env.cells l acc) by
  have:=hh scope.names [] h
  simpa using this
 intro l
 induction l with
 | nil=>exact λacc _=>rfl
 | cons x r ih =>
  intro acc hl
  have ih:=λacc=>ih acc λx hx=>hl x (.tail _ hx)
  unfold Gx
  rw[List.forIn_cons]
  by_cases hk:x.2=.free
  ·obtain⟨a,ha⟩:=Option.isSome_iff_exists.mp (hl _ (.head _) hk)
   rw[if_pos (beq_iff_eq.mpr hk),if_pos hk,show cellOf env x.1=pure a by unfold cellOf; rw[ha],ha,pure_bind,pure_bind]
   exact ih _
  ·rw[if_neg λq=>hk (beq_iff_eq.mp q),if_neg hk,pure_bind]
   exact ih _
theorem K2{α:Type}{x:Str}{b:α}{acc:List (Str×α)}:((x,b)::acc).lookup x=some b:=by rw[List.lookup_cons,show(x == x)=true from beq_iff_eq.mpr rfl]
theorem U9{α:Type}{x y:Str}{b:α}{acc:List (Str×α)}(h:x≠y):((y,b)::acc).lookup x=acc.lookup x:=by rw[List.lookup_cons,beq_eq_false_iff_ne.mpr h]
theorem Q2{cells:List (Str×Addr)}:∀{l:List (Str×NameKind)}{acc:List (Str×Addr)},(∀x∈l,x.2=NameKind.free→(cells.lookup x.1).isSome=true)→(∀x a,acc.lookup x=some a→cells.lookup x=some a) →
  ∀x a,(Gx cells l acc).lookup x=some a→cells.lookup x=some a
 | [],acc,_,ha=>ha
 | (y,k)::r,acc,hl,ha=>Q2 (l:=r) (λx hx=>hl x (.tail _ hx)) λx a e=>by
  by_cases hk:k=.free
  ·rw[if_pos hk] at e
   by_cases hxy:x=y
   ·subst hxy
    obtain⟨b,hb⟩:=Option.isSome_iff_exists.mp (hl _ (.head _) hk)
    rw[K2,show cells.lookup x=some b from hb] at e
    exact e ▸ hb
   ·rw[U9 hxy] at e; exact ha x a e
  ·rw[if_neg hk] at e; exact ha x a e
theorem Rb{cells:List (Str×Addr)}{x:Str}:∀{l:List (Str×NameKind)}{acc:List (Str×Addr)},(x,NameKind.free)∈l∨(acc.lookup x).isSome=true→((Gx cells l acc).lookup x).isSome=true
 | [],acc,h=>h.elim nofun id
 | (y,k)::r,acc,h=>Rb (l:=r) (h.elim (λh=>(List.mem_cons.mp h).elim (λe=>by
   obtain⟨rfl,rfl⟩:=Prod.mk.inj e
   rw[if_pos rfl,K2]; exact .inr rfl) .inl) λh=>.inr (by
  by_cases hk:k=.free
  ·rw[if_pos hk]
   by_cases hxy:x=y
   ·subst hxy; rw[K2]; rfl
   ·rw[U9 hxy]; exact h
  ·rw[if_neg hk]; exact h))
theorem Bu.weak{u7:Loc}{h:Heap}(f:Bu c env fs ρ Z h) (k:∀j v,u7 j=some v→ρ j=some v):Bu c env fs u7 Z h :=
 ⟨f.kind,f.names,f.glob,f.blt,f.q8,f.T9,f.ns.imp λm h=>⟨h.1,λx i v a b d=>h.2 x i v a (k i v b) d⟩,
  λx i a b=>(f.cell x i a b).imp λa' g=>g.imp λov g=>⟨g.1,g.2.1,g.2.2.1,g.2.2.2.1,λv hv=>g.2.2.2.2 v (k i v hv)⟩,f.apart⟩
theorem Cc{elt target iter:Expr}{ifs:List Expr}{scope:Scope}{pos:Pos}{it acc:Value}{R:Result→Shared→Prop}(I:Nat→Shared→Prop)
  (turn:∀k s,I k s→wpAny (model c.prog c.w) A (pyNext it) (λr f5=>match r with
   | none=>R (.ok .next) f5
   | some v=>wpAny (model c.prog c.w) A (letOwnedTupleGo target it v) (λ_ f5=>wpAny (model c.prog c.w) A (PySem.assign target env v) (λ_ j2 =>
     wpAny (model c.prog c.w) A (forIn ifs true λe r=>if r=true then do let ok ←isTrue e env (eval e env); pure (ForInStep.yield ok) else pure (ForInStep.yield r)) (λok G2 =>
      if ok=true then wpAny (model c.prog c.w) A (eval elt env) (λx Iq=>wpAny (model c.prog c.w) A (call (.builtin "list.append") [acc,x]) (λ_ Ir=>∃m,m < k∧I m Ir) (λ_ _=>False) Iq) (λ_ _=>False) G2
      else ∃m,m < k∧I m G2) (λ_ _=>False) j2) (λ_ _=>False) f5) (λ_ _=>False) f5) (λ_ _=>False) s)
  (k:Nat) (h:I k s):codeAny (model c.prog c.w) A (.compLoop (.ListComp elt [⟨target,iter,ifs,0⟩] scope pos) 0 it acc env) R s:=by
 refine codeAny_loop rfl I (λk s hI=>?_) k h
 refine(?_:wpAny _ A ((compTurn (.ListComp elt [⟨target,iter,ifs,0⟩] scope pos) 0 it acc env).onRaise (λx=>do noteFrame x env; theTreesLotGoes x)) _ _ s)
 refine wpAny_noted (wpAny_mono (E:=λ_ _=>False) ?_ (λ_ _ q=>q) λ_ _ q=>q.elim)
 rw[compTurn_list]
 refine wpAny_bind (wpAny_standAt (wpAny_bind (wpAny_mono (turn k s hI) (λr f5 M7=>?_) λ_ _ h'=>h')))
 cases r with
 | none=>exact wpAny_pure M7
 | some v =>
  refine wpAny_bind (wpAny_mono M7 (λ_ f5 M7=>wpAny_bind (wpAny_mono M7 (λ_ j2 Cd=>wpAny_bind (wpAny_mono Cd (λok G2 Uv=>?_) λ_ _ h'=>h')) λ_ _ h'=>h')) λ_ _ h'=>h')
  cases ok with
  | false=>exact wpAny_pure ⟨rfl,Uv⟩
  | true=>exact wpAny_bind (wpAny_bind (wpAny_mono Uv (λx Iq Q3=>wpAny_bind (wpAny_mono Q3 (λ_ Ir zZ=>wpAny_pure (wpAny_pure ⟨rfl,zZ⟩)) λ_ _ h'=>h')) λ_ _ h'=>h'))
theorem Rc{R:Bool→Shared→Prop}:∀{es:List Expr},R false s→wpAny (model c.prog c.w) A (forIn es false λe r=>if r=true then do let ok ←isTrue e env (eval e env); pure (ForInStep.yield ok) else pure (ForInStep.yield r)) R (λ_ _=>False) s
 | [],h=>wpAny_pure h
 | e::es,h=>by
  rw[List.forIn_cons,if_neg Bool.false_ne_true,pure_bind]
  exact Rc h
theorem compTests{R:Bool→Shared→Prop}:∀{es:List Expr}{xs:List B}{Z:a5}{s:Shared}{Q:Bool→a5→Prop},Qk c n fs es xs→v8 c n env fs A F d0 d9 ρ Z s→Hz c n xs ρ Z Q (λ_=>False) →
  (∀b a6 s',v8 c n env fs A F d0 d9 ρ a6 s'→i0 c Z a6 (λ_=>False) s s'→Q b a6→R b s') →
  wpAny (model c.prog c.w) A (forIn es true λe r=>if r=true then do let ok ←isTrue e env (eval e env); pure (ForInStep.yield ok) else pure (ForInStep.yield r)) R (λ_ _=>False) s
 | [],_,Z,s,Q,hx,a,h,hR=>by
  obtain rfl:=hx
  exact wpAny_pure (hR true Z s a (.refl a.rel) h)
 | e::es,_,Z,s,Q,hx,a,h,hR=>by
  obtain⟨x,xs,rfl,h1,h2⟩:=hx
  rw[List.forIn_cons,if_pos rfl]
  refine wpAny_bind (wpAny_bind (wpAny_mono (h1 env ρ Z _ _ h A s a.ok a.E2 a.rel) (λb f5 q=>q.elim λb0 q=>wpAny_pure ?_) λ_ _ q=>q.elim λ_ q=>q.2.2))
  cases b with
  | true=>exact compTests h2 (a.step q.1) (q.2.t rfl) λb a6 s' a' p' q'=>hR b a6 s' a' (q.1.trans p') q'
  | false=>exact Rc (hR false b0 f5 (a.step q.1) q.1 (q.2.f rfl))
end
section
variable {c:Cx}{n:Nat}{fs:FS}{ρ:Loc}{Z d0:a5}{Q:V→a5→Prop}{E:a5→Prop}{A:Around}{F G':Addr→Prop}{s d9:Shared}
theorem A8.cells{env:Env}{scope:Scope}{tg:Tg}{h:Heap}(f:Bu c env fs ρ Z h) (cs:A8 fs scope tg):∀y∈scope.names,y.2=NameKind.free→(env.cells.lookup y.1).isSome=true:=λy hy hyf =>
 have q:=cs.free y hy hyf
 (Option.isSome_iff_exists.mp q.2).elim λj hj=>(f.cell y.1 j hj (q.1.imp (j6 f.names) (j6 f.names))).elim λa x=>x.elim λov x=>j3 x.1
theorem F3{env:Env}{scope:Scope}{h:Heap}(f:Bu c env fs ρ Z h):(relabel scope env).names=Es fs.sc scope.names:=List.map_congr_left λx _=>by
 unfold Env.kindOf
 rw[f.kind,f.names]
 obtain⟨y,k⟩:=x
 refine(?_:(if (k == NameKind.free && true && fs.sc.lookup y == some NameKind.cell)=true then _ else _)=_)
 rw[Bool.and_true]
theorem Bu.comp{env:Env}{scope:Scope}{tg:Tg}{C:Addr}{h h':Heap}(f:Bu c env fs ρ Z h) (cs:A8 fs scope tg) (k:∀b o,h.get? b=some o→h'.get? b=some o) (hC:h'.Ns C λ_=>none) (hn:Z C=none) (hb:c.base.get? C=none) :
  Bu c {compEnvC scope (Gx env.cells scope.names []) C env with builtins:=env.builtins} (m0 fs scope) (u9 ρ (N4 tg)) Z h' where
 kind:=cs.kind
 names:=F3 f
 glob:=f.glob
 blt:=f.blt
 q8:=hn
 T9:=hb
 ns:=⟨_,hC,λx i v h1 h2 h3=>((Bc (F3 f ▸ h3:(Es fs.sc scope.names).lookup x=some .local)).elim (λm=>(Y5 h2).1 (cs.locals x i m h1)) λq=>nomatch q.2).elim⟩
 cell:=λx i h1 h2=>by
  have hfree:(x,NameKind.free)∈scope.names:=h2.elim (λh2=>(Bc (F3 f ▸ h2:(Es fs.sc scope.names).lookup x=some .cell)).elim (λm=>absurd rfl (cs.dR _ m)) And.left) λh2=>(Bc (F3 f ▸ h2:(Es fs.sc scope.names).lookup x=some .free)).elim id And.left
  obtain⟨a',ha'⟩:=Option.isSome_iff_exists.mp (Rb (cells:=env.cells) (acc:=[]) (.inl hfree))
  have e:=Q2 (acc:=[]) (cs.cells f) nofun x a' ha'
  exact(f.cell x i h1 ((cs.free _ hfree rfl).1.imp (j6 f.names) (j6 f.names))).elim λa y=>y.elim λov y=>⟨a,ov,ha'.trans (e.symm.trans y.1),y.2.1.imp λo z=>⟨k _ _ z.1,z.2⟩,y.2.2.1,y.2.2.2.1,λv hv=>(y.2.2.2.2 v (Y5 hv).2).imp λcv q=>⟨q.1,q.2.mono λb o e _=>k b o e⟩⟩
 apart:=λx y a h1 h2=>f.apart x y a (Q2 (acc:=[]) (cs.cells f) nofun x a h1) (Q2 (acc:=[]) (cs.cells f) nofun y a h2)
theorem i0.It{b0:a5}{f5:Shared}(p:i0 c Z b0 F s f5){D:Addr}{o:Obj}(e:s.heap.get? D=some o) (hn:Z D=none) (hF:¬ F D) (hd:∀es ep,o.data≠.dict es ep):f5.heap.get? D=some o :=
 (p.keep.2 D o e λh=>h.elim (λh=>g9 h hn) hF).2 hd
structure CompEnd(c:Cx) (Z:a5) (s:Shared) (Q:V→a5→Prop) (D C:Addr) (a6:a5) (s':Shared):Prop where
 post:i0 c Z a6 (λa=>a=C) s s'
 ns:∃m,s'.heap.Ns C m
 Lx:Above s.heap C
 nZ:c.base.get? C=none
 oB:a6 C=none
 oD:Above s.heap D
 oE:c.base.get? D=none
 Xs:a6 D=none
 D2:2 < D
 DC:D≠C
 list:∃items acc,s'.heap.PlainList D items∧h9 s'.heap acc items.toList∧∀r,a6 r=none→Q (.ref r) (j1 a6 r (.list acc))
structure yG(c:Cx) (s:Shared) (D C I:Addr):Prop where
 Clo:Above s.heap C
 Cb:c.base.get? C=none
 tH:Above s.heap D
 Db:c.base.get? D=none
 D2:2 < D
 DC:D≠C
 DI:D≠I
 IC:I≠C
abbrev H7(items:Array Value) (nn:Nat):Obj:={cls:=.type "list",data:=.seq items nn}
theorem Hf{items:Array Value}{nn:Nat}:¬Ln (H7 items nn):=cY (λ_ h=>nomatch h) λh=>absurd (Value.type.inj h) (by decide)
theorem Iu{items:Array Value}{nn:Nat}:∀es ep,(H7 items nn).data≠.dict es ep:=λ_ _ h=>nomatch h
inductive dS(c:Cx) (n:Nat) (cenv:Env) (fs':FS) (A:Around) (Z:a5) (s:Shared) (ρ:Loc) (I:Addr) (iv:V) (l:List V) (D C:Addr) (W:List V→List V→a5→Prop):Nat→Shared→Prop
 | mk {k i:Nat}{acc:List V}{a6:a5}{items:Array Value}{nn:Nat}{s':Shared}(hki:k+i=l.length) (a:v8 c n cenv fs' A (·=C) Z s ρ a6 s') (it:aK c s s' I iv i) (hn:a6 D=none) (hD:s'.heap.get? D=some (H7 items nn)) (hacc:h9 s'.heap acc items.toList) (hal:acc.length≤i) (hcw:W (l.drop i) acc a6) :
  dS c n cenv fs' A Z s ρ I iv l D C W k s'
abbrev Xu(c:Cx) (n:Nat) (tg:Tg) (xs:List B) (xe:X) (ρ:Loc) (x:V) (Z:a5) (K:Option V→a5→Prop):Prop:=aC tg x ρ λu7=>Hz c n xs u7 Z (λb Z=>U0 b (WX c n xe u7 Z (λv Z=>K (some v) Z) (λ_=>False)) (K none Z)) (λ_=>False)
theorem S7.keepI{I:Addr}{iv:V}{i:Nat}{h h':Heap}(x:S7 h I iv i) (hx:Heap.ExtBut I h h'):u6 h h':=x.obj.elim λo y=>y.elim λT y=>y.elim λvs y=>λb o' e im=>hx b o' (λq=>Io (vs:=vs) y.2.1 y.2.2.2 (Option.some.inj (y.1.symm.trans ((congrArg h.get? q).symm.trans e)) ▸ im)) e
section
variable {cenv:Env}{fs':FS}{I D C:Addr}{iv:V}{l:List V}{elt t iter:Expr}{ifs:List Expr}{scope:Scope}{pos:Pos}{xe:X}{tg:Tg}{xs:List B}{R:Result→Shared→Prop}{k:Nat}{s':Shared}
theorem aM(fr:yG c s D C I) (hi:Inj fs') (he:SX c n fs' elt xe) (ht:U8 fs' false t tg) (hs:Qk c n fs' ifs xs) (hl:cenv.locals=C)
  (fin:∀a6 s',CompEnd c Z s Q D C a6 s'→R (.ok .next) s')
  (x:dS c n cenv fs' A Z s (u9 ρ (N4 tg)) I iv l D C (λrest acc Z=>Fp (λZ=>A5 iv Z l) (Xu c n tg xs xe ρ) rest acc Z λacc Z=>∀r,Z r=none→Q (.ref r) (j1 Z r (.list acc))) k s') (hz:l.length≤1000000) :
  wpAny (model c.prog c.w) A (pyNext (.ref I)) (λr f5=>match r with
   | none=>R (.ok .next) f5
   | some v=>wpAny (model c.prog c.w) A (letOwnedTupleGo t (.ref I) v) (λ_ f5=>wpAny (model c.prog c.w) A (PySem.assign t cenv v) (λ_ j2 =>
     wpAny (model c.prog c.w) A (forIn ifs true λe r=>if r=true then do let ok ←isTrue e cenv (eval e cenv); pure (ForInStep.yield ok) else pure (ForInStep.yield r)) (λok G2 =>
      if ok=true then wpAny (model c.prog c.w) A (eval elt cenv) (λx Iq=>wpAny (model c.prog c.w) A (call (.builtin "list.append") [.ref D,x]) (λ_ Ir=>∃m,m < k∧dS c n cenv fs' A Z s (u9 ρ (N4 tg)) I iv l D C (λrest acc Z=>Fp (λZ=>A5 iv Z l) (Xu c n tg xs xe ρ) rest acc Z λacc Z=>∀r,Z r=none→Q (.ref r) (j1 Z r (.list acc))) m Ir) (λ_ _=>False) Iq) (λ_ _=>False) G2
      else ∃m,m < k∧dS c n cenv fs' A Z s (u9 ρ (N4 tg)) I iv l D C (λrest acc Z=>Fp (λZ=>A5 iv Z l) (Xu c n tg xs xe ρ) rest acc Z λacc Z=>∀r,Z r=none→Q (.ref r) (j1 Z r (.list acc))) m G2) (λ_ _=>False) j2) (λ_ _=>False) f5) (λ_ _=>False) f5) (λ_ _=>False) s':=by
 obtain⟨hki,a,it,cO,kW,hacc,hal,hcw⟩:=x
 rename_i i acc a6 items nn
 cases hx:l[i]? with
 | none =>
  rw[List.drop_eq_nil_iff.mpr (List.getElem?_eq_none_iff.mp hx)] at hcw
  exact next_end a it hcw.1 hx λIr S8 H8=>fin a6 Ir ⟨S8.post,S8.E2.ns.imp λm hm=>hl ▸ hm.1,fr.Clo,fr.Cb,hl ▸ S8.E2.q8,fr.tH,fr.Db,cO,fr.D2,fr.DC,items,acc,⟨nn,H8 D _ fr.DI kW⟩,hacc.mono (it.at_.keepI H8),hcw.2⟩
 | some x =>
  obtain⟨h1,h2⟩:=List.getElem?_eq_some_iff.mp hx
  rw[List.drop_eq_getElem_cons h1,h2] at hcw
  refine next_item a it hcw.1 hx λcv Ir S8 K3 qP H8=>Ra ht.form K3.at_ ?_
  refine S8.assign hi ht ⟨hl,nofun⟩ qP (dQ hcw.2) λRd Ux Gy Uy hq=>?_
  have Re:∀j v,u9 ρ (N4 tg) j=some v→Rd j=some v:=λj v hj=>(hq.2 j (Y5 hj).1).trans hj
  have aN:=Uy.It (H8 D _ fr.DI kW) cO fr.DC Iu
  have Ce:=K3.at_.post Uy (K3.at_.q8 S8.rel) fr.IC
  refine compTests hs Gy hq.1 λb uM uN J6 kX hq=>?_
  have qQ:=kX.It aN cO id Iu
  have qR:=kX.N3 cO aN
  have Ly:=Ce.post kX (Ce.q8 Gy.rel) id
  have oG:=((hacc.mono (it.at_.keepI H8)).mono Uy.Av).mono kX.Av
  cases k with
  | zero=>exact Qn h1 (Nat.le_of_eq (hki.symm.trans (Nat.zero_add i)))
  | succ m =>
  have hmi:m+(i+1)=l.length:=(Nat.succ_add_eq_add_succ m i).symm.trans hki
  cases b with
  | false=>exact⟨m,Nat.lt_succ_self m,hmi,⟨J6.ok,J6.E2.weak Re,J6.rel,J6.post⟩,⟨Ly,it.lo,it.base⟩,qR,qQ,oG,Nat.le_succ_of_le hal,hq.f rfl⟩
  | true =>
   refine wpAny_mono (he cenv Rd uM _ _ (hq.t rfl) A uN J6.ok J6.E2 J6.rel) (λcx qS q=>q.elim λvx q=>q.elim λoH q=>?_) λ_ _ q=>q.elim λ_ q=>q.2.2
   have dU:=q.1
   have aO:=J6.step dU
   have qT:=dU.It qQ qR id Iu
   have qU:=dU.N3 qR qQ
   have uO:=Ly.post dU (Ly.q8 J6.rel) id
   have oJ:=oG.mono dU.Av
   refine wpAny_list_append_plain ⟨nn,qT⟩ (λkY hpl V0=>?_) (by rw[oJ.size]; exact J9 (Nat.le_trans hal (Nat.le_trans (Nat.le_of_lt h1) hz)))
   have qt:Quiet c oH (·=D) s.heap qS.heap kY:=.one qT Hf qU fr.Db fr.tH V0.extBut
   have Og:v8 c n cenv fs' A (·=C) Z s Rd oH {qS with heap:=kY}:=Uw (tk:=qS.toks) aO qT Hf qU Iu (λv e=>nomatch e) fr.tH fr.Db V0.extBut
   exact hpl.elim λn9 qV=>⟨m,Nat.lt_succ_self m,hmi,⟨Og.ok,Og.E2.weak Re,Og.rel,Og.post⟩,⟨uO.keep (λo e=>(V0.2 I (Ne.symm fr.DI)).trans e) qt.keepI,it.lo,it.base⟩,qU,qV,by rw[Array.toList_push]; exact h9.append (.cons (q.2.1.mono qt.keepI) .nil) (oJ.mono qt.keepI),
    by rw[List.length_append]; exact Nat.succ_le_succ hal,q.2.2⟩
end
theorem Iv{env:Env}{scope:Scope}{tg:Tg}{b0:a5}{j2:Shared}{I:Addr}{oI:Obj}{R:Value→Env→Shared→Prop}{E':Value→Shared→Prop}(j4:At c n env fs A Z s ρ b0 j2) (cs:A8 fs scope tg) (hI:j2.heap.get? I=some oI)
  (go:∀D C Q3,yG c s D C I→Above j2.heap D→Above j2.heap C→(∀b o,j2.heap.get? b=some o→Q3.get? b=some o)→v8 c n {compEnvC scope (Gx env.cells scope.names []) C env with builtins:=env.builtins} (m0 fs scope) A (·=C) Z s (u9 ρ (N4 tg)) b0 {j2 with heap:=Q3,toks:=j2.toks+0} →
   b0 D=none→Q3.get? D=some (H7 #[] 0)→R (.ref D) (newEnv scope C env.globals (Gx env.cells scope.names []) env.qual none .none (some env) builtinsNs) {j2 with heap:=Q3,toks:=j2.toks+0}) :
  wpAny (model c.prog c.w) A (newList []) (λacc G2=>wpAny (model c.prog c.w) A (newFunctionEnv scope env.globals (Gx env.cells scope.names []) [] env.qual none .none (some env)) (λcenv Iq=>R acc cenv Iq) E' G2) E' j2:=by
 refine wpAny_newObj_type ?_ (by size_fits)
 have Cf:Above j2.heap j2.heap.objs.size:=.of_le (Nat.le_refl _)
 have hD2:2 < j2.heap.objs.size:=j4.rel.2.elim λb' x=>x.2.elim λo' e=>Nat.lt_trans x.1 (Heap.lt_size (j4.rel.1 b' o' e))
 have k3:∀b o,j2.heap.get? b=some o→(j2.heap.push (H7 ([]:List Value).toArray 0)).get? b=some o:=λb o e=>Heap.get?_push_of_some _ e
 refine wpAny_newFunctionEnv cs.dR (λy hy=>(List.not_mem_nil hy).elim) (λQ3 hns hsb=>?_) cs.kind
 have Oh:Above (j2.heap.push (H7 ([]:List Value).toArray 0)) (j2.heap.push (H7 ([]:List Value).toArray 0)).objs.size:=.of_le (Nat.le_refl _)
 have k4:∀b o,(j2.heap.push (H7 ([]:List Value).toArray 0)).get? b=some o→Q3.get? b=some o:=λb o e=>(hsb.2 b λq=>Oh.not ((congrArg _ q).symm.trans e)).trans (Heap.get?_push_of_some _ e)
 have kE:∀b o,j2.heap.get? b=some o→Q3.get? b=some o:=λb o e=>k4 b o (k3 b o e)
 have V1:=Oh.back λb o e=>⟨o,k3 b o e⟩
 have kW:=Heap.get?_push_size j2.heap (o:=H7 ([]:List Value).toArray 0) rfl
 have a4:=j4.step (i0.grow (tk:=j2.toks+0) j4.rel kE)
 have Y6 {b:Addr}(hb:Above j2.heap b):b0 b=none:=none_of λao e=>(j4.rel.3 b ao e).2.shape.elim λob q=>hb.not q.1
 have ne {b:Addr}(hb:Above j2.heap b):I≠b:=λq=>hb.not ((congrArg _ q).symm.trans hI)
 have fr:yG c s j2.heap.objs.size (j2.heap.push (H7 ([]:List Value).toArray 0)).objs.size I:=⟨V1.back j4.post.keep.1,A7 j4.rel V1,Cf.back j4.post.keep.1,A7 j4.rel Cf,hD2,λq=>Oh.not ((congrArg _ q).symm.trans kW),Ne.symm (ne Cf),ne V1⟩
 exact go _ _ Q3 fr Cf V1 kE ⟨a4.ok,Bu.comp j4.E2 cs kE hns (Y6 V1) fr.Cb,a4.rel,a4.post.Qo λ_ h=>h.elim⟩ (Y6 Cf) (k4 _ _ kW)
theorem Lz{elt t iter:Expr}{ifs:List Expr}{scope:Scope}{pos:Pos}{xe xi:X}{tg:Tg}{xs:List B}(hi:Inj fs) (hiter:SX c n fs iter xi) (Cg:∀env x,foldedSetIterable iter env x=pure x) (cs:A8 fs scope tg)
  (he:SX c n (m0 fs scope) elt xe) (ht:U8 (m0 fs scope) false t tg) (hs:Qk c n (m0 fs scope) ifs xs){env:Env}{R:Value→Shared→Prop}{use:Option (Value→Sem Unit)}
  (h:WX c n (.comp xe tg xi xs) ρ Z Q E) (o:Ok c n A Z s.heap) (f:Bu c env fs ρ Z s.heap) (re:Rel c Z s.heap)
  (fin:∀D C a6 s',CompEnd c Z s Q D C a6 s'→compPost (model c.prog c.w) A (EE c Z s E) use R (.ref D) C (.ok .next) s') :
  wpAny (model c.prog c.w) A (comprehension (.ListComp elt [⟨t,iter,ifs,0⟩] scope pos) scope env (firstIterPos [⟨t,iter,ifs,0⟩] pos) (newList []) false (firstIter [⟨t,iter,ifs,0⟩] env) use) R (EE c Z s E) s:=by
 refine wpAny_comprehension_free (use:=use) rfl (λx=>Cg env x) (Ac (cs.cells f)) cs.kind cs.names ?_
 refine(hiter env ρ Z _ E h).at (.start o f re) λci iv b0 f5 i6 t9 j7 hc=>hc.h.elim λl w=>Xp i6 j7 w.1 λI j2 j4 Ma=>?_
 obtain⟨oI,_,_,hI,_⟩:=Ma.at_.obj
 refine Iv j4 cs hI λD C Q3 fr _ _ kE b4 cO hD=>?_
 have Rf:=Ma.at_.keep (λo e=>kE I o e) λb o e _=>kE b o e
 have go:codeAny (model c.prog c.w) A (.compLoop (.ListComp elt [⟨t,iter,ifs,0⟩] scope pos) 0 (.ref I) (.ref D) {compEnvC scope (Gx env.cells scope.names []) C env with builtins:=env.builtins}) (compPost (model c.prog c.w) A (EE c Z s E) use R (.ref D) C) {j2 with heap:=Q3,toks:=j2.toks+0} :=
  Cc (dS c n _ (m0 fs scope) A Z s (u9 ρ (N4 tg)) I iv l D C λrest acc Z=>Fp (λZ=>A5 iv Z l) (Xu c n tg xs xe ρ) rest acc Z λacc Z=>∀r,Z r=none→Q (.ref r) (j1 Z r (.list acc))) (λk s' x=>aM fr (fs':=m0 fs scope) hi he ht hs rfl (fin _ _) x w.2.1) l.length
   (.mk (acc:=[]) (i:=0) (Nat.add_zero l.length) b4 ⟨Rf,Ma.lo,Ma.base⟩ cO hD .nil (Nat.le_refl 0) w.2.2)
 exact codeAny_compStart_list go (aL Rf go)
theorem CompEnd.done{D C:Addr}{a6:a5}{s':Shared}(x:CompEnd c Z s Q D C a6 s'){h':Heap}(hs:Heap.SameBut C s'.heap h'):QE c Z s Q (.ref D) {s' with heap:=h'}:=by
 obtain⟨m,oC,eC,epC,hoC,oK,_⟩:=x.ns
 obtain⟨items,acc,⟨nn,hD⟩,hacc,hq⟩:=x.list
 have qt:Quiet c a6 (·=C) s.heap s'.heap h':=.one hoC (λim=>im.noDict oK) x.oB x.nZ x.Lx hs.extBut
 have p7:i0 c Z a6 (λ_=>False) s {s' with heap:=h'}:=(x.post.quiet (tk:=s'.toks) qt).narrow λb hb=>.inr (hb ▸ x.Lx)
 exact⟨.ref D,_,p7.adopt (o:=.list acc) x.D2 x.oD x.oE x.Xs ⟨items,⟨nn,(hs.2 D x.DC).trans hD⟩,hacc.mono qt.keepI⟩,.ref D,hq D x.Xs⟩
theorem uP{elt t iter:Expr}{ifs:List Expr}{scope:Scope}{pos:Pos}{xe xi:X}{tg:Tg}{xs:List B}(hi:Inj fs) (hiter:SX c n fs iter xi) (Cg:∀env x,foldedSetIterable iter env x=pure x) (cs:A8 fs scope tg)
  (he:SX c n (m0 fs scope) elt xe) (ht:U8 (m0 fs scope) false t tg) (hs:Qk c n (m0 fs scope) ifs xs):SX c n fs (.ListComp elt [⟨t,iter,ifs,0⟩] scope pos) (.comp xe tg xi xs):=λenv ρ Z Q E h A s o f re=>by
 rw[PySem.eval_ListComp]
 exact Lz hi hiter Cg cs he ht hs h o f re λD C a6 s' x=>x.ns.imp λm hm=>⟨hm,λh' hs'=>x.done hs'⟩
end
section
variable {c:Cx}{n:Nat}{env:Env}{fs:FS}{ρ:Loc}{Z d0:a5}{Q:V→a5→Prop}{E:a5→Prop}{A:Around}{F:Addr→Prop}{s d9:Shared}
noncomputable def Iw(A:Around) (env:Env) (L:Addr):Prop:=env.frame=some L∧∃outer,A.frames=some (env::outer)
noncomputable def aP(h:Heap) (b:Addr):Prop:=∀o,h.get? b=some o→¬Ln o∧∃vs,o.data=.fields vs
theorem aP.of{h:Heap}{b:Addr}{o:Obj}{vs:Array Value}(e:h.get? b=some o) (hi:¬Ln o) (hd:o.data=.fields vs):aP h b:=λo' e'=>Option.some.inj (e.symm.trans e') ▸ ⟨hi,vs,hd⟩
theorem v8.hidden(a:v8 c n env fs A F d0 d9 ρ Z s) (hb:c.base.StaysIn d9.heap){l:List Env}(hfr:A.frames=some l){xs:List Addr}(hxs:∀b∈xs,Above d9.heap b∧aP s.heap b)
  {h':Heap}(st:(hideAll s.heap (xs++l.filterMap (·.frame))).StaysIn h') (up:∀b o,s.heap.get? b=some o→(∀vs,o.data≠.fields vs)→∃sl,h'.get? b=some {o with slots:=sl}) :
  v8 c n env fs A F d0 d9 ρ Z {s with heap:=h'}:=by
 have inL {b:Addr}(hb:b∈l.filterMap (·.frame)):Z b=none∧c.base.get? b=none∧∃o,s.heap.get? b=some o∧Bt o:=by
  obtain⟨e,he,hf⟩:=List.mem_filterMap.mp hb
  obtain⟨l',k4,k5⟩:=a.ok.2.2.2
  exact(k5 e (Option.some.inj (hfr.symm.trans k4) ▸ he)).2.elim λL y=>y.elim λo y=>Option.some.inj (y.1.symm.trans hf) ▸ ⟨y.2.2.1,y.2.1,o,y.2.2.2⟩
 have ex {b:Addr}{o:Obj}(n1:b∉xs) (e:s.heap.get? b=some o) (k:¬Bt o∨(Z b).isSome=true∨(c.base.get? b).isSome=true):h'.get? b=some o:=st b o (hideAll_get _ e λhm=>(List.mem_append.mp hm).elim n1 λhm =>
  k.elim (λn2=>(inL hm).2.2.elim λo' y=>n2 (Option.some.inj (y.1.symm.trans e) ▸ y.2)) λk=>k.elim (λk=>g9 k (inL hm).1) λk=>g9 k (inL hm).2.1)
 refine a.quiet (P:=(·∈xs)) (tk:=s.toks) ⟨λb hm=>⟨none_of λao e=>?_,none_of λo e=>(hxs b hm).1.not (hb b o e),(hxs b hm).1⟩,λb o hm e=>((hxs b hm).2 o e).1,λb o hm e=>?_,λb o hm e k=>ex hm e k⟩ λb o hm e=>?_
 ·obtain⟨ob,y⟩:=(a.rel.3 b ao e).2.shape
  exact((hxs b hm).2 ob y.1).2.elim λvs q=>y.2.1 vs q
 ·by_cases hd:Bt o
  ·exact up b o e hd.shape.1
  ·exact⟨o.slots,ex hm e (.inl hd)⟩
 ·obtain⟨vs,q⟩:=((hxs b hm).2 o e).2
  exact⟨λd=>d.shape.1 vs q,λv e=>by rw[q] at e; cases e⟩
theorem Rg{o:Obj}{C:Addr}(h:o.cls=.ref C):¬ Ln o:=λim=>im.elim (λq=>by have:=h.symm.trans q.1; cases this) λq=>by have:=h.symm.trans q.1; cases this
theorem Ci{o:Obj}{vs:Array Value}{v:Value}(h:o.data=.fields vs) (h3:vs[3]?=some v):¬ Ln o:=λim=>im.elim (λq=>q.2.elim λ_ q=>q.elim λ_ q=>by rw[h] at q; cases q) λq=>q.2.elim λws q =>
 Qn (Array.getElem?_eq_some_iff.mp h3).1 (Nat.le_of_eq ((congrArg Array.size (Data.fields.inj (h.symm.trans q.1))).trans q.2))
theorem Nr.entry{lo h:Heap}{x:Addr}{vs:Array Value}{k:Fn}(nt:Nr lo h x vs k):∃Ts:List Addr,(∀T∈Ts,Above lo T∧T≠x∧aP h T)∧(∀T,vs[1]?=some (.ref T)→T∈Ts):=by
 have tr {fl:Value}:Trace lo h x vs fl→∃Ts:List Addr,(∀T∈Ts,Above lo T∧T≠x∧aP h T)∧(∀T,vs[1]?=some (.ref T)→T∈Ts):=fun⟨h1,h2,h3,h4,h5,h6⟩ =>
  ⟨[_],List.forall_mem_singleton.mpr ⟨h2,h3,.of h4 (Ci h5 h6) h5⟩,λT' e=>List.mem_singleton.mpr (Value.ref.inj (Option.some.inj (h1.symm.trans e))).symm⟩
 cases k with
 | new=>exact⟨[],nofun,λT e=>by have:=(show vs[1]?=some .none from nt).symm.trans e; cases this⟩
 | left=>exact tr nt
 | held L=>exact tr nt
theorem Rh(a:v8 c n env fs A F d0 d9 ρ Z s){l:List Env}(hfr:A.frames=some l){x:Addr}{Ts:List Addr}(hx:Above d9.heap x) (hTs:∀T∈Ts,Above d9.heap T∧T≠x∧aP s.heap T)
  {h':Heap}(up:∀b o,s.heap.get? b=some o→(∀vs,o.data≠.fields vs)→∃sl,h'.get? b=some {o with slots:=sl}){L:Addr}{a0:Value}(ht:h'.TracedAtW (hideAll s.heap ((x::Ts)++l.filterMap (·.frame))) x (.ref c.i4) a0 (rawInt L)) :
  ExcAt c d9.heap (.held L) (.ref x) h':=by
 obtain⟨oe,vs,T,oT,ts,he,hc,hd,h1,hnT,hTe,hT,hdT,h3⟩:=ht
 refine⟨rfl,hx,he,hc.1,hd,hc.2,.mk h1 (none_of λo0 e0=>?_) hTe hT hdT h3⟩
 obtain⟨o1,e1⟩:=a.post.keep.1 T o0 e0
 have hm:T∈(x::Ts)++l.filterMap (·.frame):=Classical.byContradiction λhm=>by rw[hideAll_get _ e1 hm] at hnT; cases hnT
 rcases List.mem_append.mp hm with hm | hm
 ·exact(List.mem_cons.mp hm).elim hTe λhm=>(hTs T hm).1.not e0
 ·obtain⟨l',k4,k5⟩:=a.ok.2.2.2
  obtain⟨e,he',hf⟩:=List.mem_filterMap.mp hm
  obtain⟨_,L,o,h2,_,_,h5,d⟩:=k5 e (Option.some.inj (hfr.symm.trans k4) ▸ he')
  obtain rfl:L=T:=Option.some.inj (h2.symm.trans hf)
  obtain⟨sl,q⟩:=up L o h5 d.shape.1
  rw[hT] at q; cases q
  exact d.shape.1 _ hdT
theorem Oi{R:Unit→Shared→Prop}{E':Value→Shared→Prop}(a:v8 c n env fs A F d0 d9 ρ Z s) (hb:c.base.StaysIn d9.heap){L:Addr}(ht:Iw A env L){k:Fn}{ev:Value}(hk:k=.new∨k=.left∨k=.held L) (hx:ExcAt c d9.heap k ev s.heap)
  (h:∀h',v8 c n env fs A F d0 d9 ρ Z {s with heap:=h'}→ExcAt c d9.heap (.held L) ev h'→R () {s with heap:=h'}):wpAny (model c.prog c.w) A (noteFrame ev env) R E' s:=by
 obtain⟨rfl,h2,h3,h4,h5,h6,h7⟩:=id hx
 rename_i x o vs a0
 obtain⟨hf,outer,hfr⟩:=ht
 obtain⟨Ts,hTs,hT1⟩:=h7.entry
 have hk5:FF c Z s.heap (env::outer):=a.ok.2.2.2.elim λl' k=>Option.some.inj (k.1.symm.trans hfr) ▸ k.2
 have st:(hideAll s.heap ((x::Ts)++(env::outer).filterMap (·.frame))).StaysIn s.heap:=λb o e=>of_hideAll _ e
 have hBx:(hideAll s.heap ((x::Ts)++(env::outer).filterMap (·.frame))).get? x=none:=hideAll_none _ (.head _)
 have hl:s.heap.FunFrames (hideAll s.heap ((x::Ts)++(env::outer).filterMap (·.frame))) (env::outer):=hk5.fun λL' hL'=>hideAll_none _ (List.mem_append_right _ hL')
 have fin:∀h',Heap.NotedW (hideAll s.heap ((x::Ts)++(env::outer).filterMap (·.frame))) (env::outer) x (.ref c.i4) a0 (rawInt L) s.heap h'→R () {s with heap:=h'}:=λh' q =>
  h h' (a.hidden hb hfr (List.forall_mem_cons.mpr ⟨⟨h2,.of h3 (Rg h4) h5⟩,λb hb=>⟨(hTs b hb).1,(hTs b hb).2.2⟩⟩) q.1 q.2.2.2) (Rh a hfr h2 hTs q.2.2.2 q.2.2.1)
 rcases hk with rfl | rfl | rfl
 ·have h1:vs[1]?=some .none:=h7
  unfold noteFrame
  simp only[hf]
  refine wpAny_bind (wpAny_field h3 h5 h1 ?_)
  rw[if_neg (by decide)]
  exact wpAny_entryW hfr hl hf h3 st hBx h5 (Array.getElem?_eq_some_iff.mp h1).1 h6 λh' q=>fin h' (h4 ▸ q)
 ·cases h7 with | mk g1 g2 g3 g4 g5 g6 =>
  exact wpAny_noteFrame_onW hfr hl hf ⟨o,vs,_,_,_,h3,⟨h4,h6⟩,h5,g1,hideAll_none _ (List.mem_append_left _ (.tail _ (hT1 _ g1))),g3,g4,g5,g6⟩ st hBx fin
 ·cases h7 with | mk g1 g2 g3 g4 g5 g6 =>
  exact wpAny_noteFrame_againW (base:=hideAll s.heap ((x::Ts)++(env::outer).filterMap (·.frame))) hf ⟨o,vs,_,_,_,h3,⟨h4,h6⟩,h5,g1,hideAll_none _ (List.mem_append_left _ (.tail _ (hT1 _ g1))),g3,g4,g5,g6⟩ (h s.heap a hx)
theorem Y7{R:Unit→Shared→Prop}{E':Value→Shared→Prop}(a:v8 c n env fs A F d0 d9 ρ Z s){k:Fn}{ev:Value}(hk:k=.left∨∃L,k=.held L) (hx:ExcAt c d9.heap k ev s.heap) (hb:c.base.StaysIn d9.heap) (to:Option Addr)
  {B:Around}(h:∀h',v8 c n env fs A F d0 d9 ρ Z {s with heap:=h'}→ExcAt c d9.heap (to.elim .left .held) ev h'→R () {s with heap:=h'}):wpAny (model c.prog c.w) B (setFlight ev to) R E' s:=by
 obtain⟨rfl,h2,h3,h4,h5,h6,h7⟩:=hx
 rename_i x o vs a0
 have tr:∃fl,Trace d9.heap s.heap x vs fl:=by
  rcases hk with rfl | ⟨L,rfl⟩
  ·exact⟨_,h7⟩
  ·exact⟨_,h7⟩
 obtain⟨fl,g1,g2,g3,g4,g5,g6⟩:=tr
 rename_i T oT ts
 have hsz3:3 < ts.size:=(Array.getElem?_eq_some_iff.mp g6).1
 unfold setFlight
 refine wpAny_bind (wpAny_field h3 h5 g1 ?_)
 rw[if_pos (show(Value.ref T != Value.none)=true from by simp)]
 have hd':=Obj.data_mapFields g5 (·.setIfInBounds 3 (to.elim Value.none λf=>rawInt f))
 have hT':=Heap.get?_update_self (Obj.mapFields (·.setIfInBounds 3 (to.elim Value.none λf=>rawInt f))) g4 (Obj.isFreed_of_fields hd')
 refine wpAny_setField g4 g5 hsz3 (h _ (a.junk (tk:=s.toks) g4 g5 (Ci g5 g6) g2 (none_of λob q=>g2.not (hb T ob q)) (Heap.SameBut.update ..).extBut) ⟨rfl,h2,(Heap.get?_update_other _ _ g3).trans h3,h4,h5,h6,?_⟩)
 cases to with
 | none=>exact .mk g1 g2 g3 hT' hd' (by simp[hsz3])
 | some L=>exact .mk g1 g2 g3 hT' hd' (by simp[hsz3])
theorem dW{R:Unit→Shared→Prop}{E':Value→Shared→Prop}(a:v8 c n env fs A F d0 d9 ρ Z s) (hb:c.base.StaysIn d9.heap){L:Addr}(ht:Iw A env L){k:Fn}{ev:Value}(hk:k=.new∨k=.left∨k=.held L) (hx:ExcAt c d9.heap k ev s.heap)
  (h:∀h',v8 c n env fs A F d0 d9 ρ Z {s with heap:=h'}→ExcAt c d9.heap .left ev h'→R () {s with heap:=h'}):wpAny (model c.prog c.w) A (leaving env ev) R E' s:=by
 unfold leaving
 exact wpAny_bind (Oi a hb ht hk hx λh' a' hx'=>Y7 a' (.inr ⟨L,rfl⟩) hx' hb none λh'' a'' hx''=>h h'' a'' hx'')
end
section
variable {c:Cx}{n:Nat}{env:Env}{fs:FS}{ρ:Loc}{Z d0:a5}{Q:V→a5→Prop}{E:a5→Prop}{A:Around}{F:Addr→Prop}{s d9:Shared}
theorem aQ{w:World}{h:Heap}{name:Str}{v:V}{cv:Value}{t:Tok}(rv:Rep h v cv){es:List DictEntry}{l:List (Str×V)}(q:R7 w h es l):R7 w h (putL name (PyData.keyHash w.params name) (.str name t) cv es) (aI l name v):=by
 induction q with
 | nil=>exact .cons rv .nil
 | @cons x t' cx vx es l a b ih =>
  unfold putL aI
  by_cases e:x=name
  ·rw[if_pos e,if_pos (show Value.isStr (.str x t') name=true from beq_iff_eq.mpr e)]
   exact .cons rv b
  ·rw[if_neg e,if_neg (show ¬Value.isStr (.str x t') name=true from λz=>e (beq_iff_eq.mp z))]
   exact .cons a ih
theorem Cj{w:World}{h:Heap}{es:List DictEntry}{l:List (Str×V)}(q:R7 w h es l):es.any (·.refKey)=false∧es.length=l.length:=by
 induction q with
 | nil=>exact⟨rfl,rfl⟩
 | cons a b ih=>exact⟨ih.1,congrArg (·+1) ih.2⟩
theorem V2{name:Str}{hsh:Int}{key v:Value}:∀{es:List DictEntry},(putL name hsh key v es).length≤es.length+1
 | []=>Nat.le_refl _
 | e::r=>by
  unfold putL
  by_cases h:e.key.isStr name=true
  ·rw[if_pos h]; exact Nat.le_succ _
  ·rw[if_neg h]; exact Nat.succ_le_succ V2
theorem E8{n:Nat}(h:n≤901):n≤sizeLine:=J9 (Nat.le_trans h (by decide))
theorem kZ(G:Good c){R:Unit→Shared→Prop}{E':Value→Shared→Prop}{o v:V}{co cv:Value}{name:Str}{K:a5→Prop}(ro:Rep s.heap o co) (rv:Rep s.heap v cv) (r:Rel c Z s.heap) (h:dA c o name v Z K)
  (hR:∀a6 h' tk,i0 c Z a6 (λ_=>False) s {s with heap:=h',toks:=tk}→K a6→R () {s with heap:=h',toks:=tk}):wpAny (model c.prog c.w) A (setAttr co name cv) R E' s:=by
 cases h with | @mk a C dx l e h1 h2 hz p hK =>
 subst e
 refine ro.E3 ?_
 have X:c.K.In s.heap:=G.KX.keeps r.stays
 obtain⟨es,nn,I,N,D⟩:=Nz r h1 h2
 refine set_plain X I p.1 (osa_open X (s:={s with toks:=s.toks+1}) I p.2.1 p.2.2.1 λb=>?_)
 obtain⟨cd,hc,hd'⟩:=any_some p.2.2.2
 refine wpAny_bind (wpAny_pure (wpAny_bind (wpAny_bind (wpAny_loadPart I.1 (wpAny_bind ((looks_clsIn (show c.K.In ({s with toks:=s.toks+1}:Shared).heap from X) hc).here ?_))))))
 rw[hd']
 refine wpAny_pure (a:=some dx) (wpAny_bind (wpAny_pure (wpAny_bind ?_)))
 unfold nsSet
 refine wpAny_bind (wpAny_bind (wpAny_askSetting (wpAny_pure (wpAny_bind (wpAny_mkText (wpAny_bind (wpAny_loadPart D ?_)))))))
 dsimp only[dictOf]
 rw[aRefKeyMayBeTheName_at,show(!es.toArray.any (·.key.isStr name) && es.toArray.any (·.refKey))=false by rw[List.any_toArray,List.any_toArray,(Cj N).1,Bool.and_false]]
 refine wpAny_updatePart D ?_
 have D':(s.heap.update dx (Obj.putName name (PyData.keyHash c.w.params name) (.str name (s.toks+1)) cv)).get? dx=some (dictOf (putL name (PyData.keyHash c.w.params name) (.str name (s.toks+1)) cv es) (putN name es nn)):=by
  rw[Heap.get?_update_self _ D (by rw[putName_dict]; rfl),putName_dict]
 refine wpAny_bind (wpAny_lookBehind D' (pastItsLine_dict (by rw[List.size_toArray]; exact Nat.le_succ_of_le (E8 (Nat.le_trans V2 (Nat.succ_le_succ (Nat.le_trans (Nat.le_of_eq (Cj N).2) hz)))))) (wpAny_pure (hR _ _ _ ?_ hK)))
 exact i0.change (o:=.ns l) r h2 rfl (Heap.SameBut.update ..) λki=>⟨_,_,D',aQ (rv.mono ki) (N.mono ki)⟩
theorem h9.set{h:Heap}{v:V}{cv:Value}(rv:Rep h v cv):∀{l:List V}{cs:List Value},h9 h l cs→∀k,h9 h (l.set k v) (cs.set k cv)
 | [],_,r,k=>r.Ld .nil
 | _::_,_,r,0=>r.E4 λ_ _ a b=>.cons rv b
 | _::_,_,r,k+1=>r.E4 λ_ _ a b=>.cons a (h9.set rv b k)
theorem lA{R:Unit→Shared→Prop}{E':Value→Shared→Prop}{o i v:V}{co ci cv:Value}{K:a5→Prop}(ro:Rep s.heap o co) (ri:Rep s.heap i ci) (rv:Rep s.heap v cv) (r:Rel c Z s.heap) (hu:A.units+200 < cLine) (h:Uo o i v Z K)
  (hR:∀a6 h' tk,i0 c Z a6 (λ_=>False) s {s with heap:=h',toks:=tk}→K a6→R () {s with heap:=h',toks:=tk}):wpAny (model c.prog c.w) A (setItem co ci cv) R E' s:=by
 replace h:=h.h
 cases o with
 | ref a =>
  refine ro.E3 ?_
  unfold Xe at h
  dsimp only at h
  cases hl:Z a with
  | none=>rw[hl] at h; exact h.elim
  | some o =>
   rw[hl] at h
   cases o with
   | list l =>
    obtain⟨k,rfl,h0,h1,h2,hK⟩:=h
    obtain⟨ia,⟨na,ha⟩,ra⟩:=(r.3 _ _ hl).2
    refine ri.Z6 λt=>ki_setAt ha h0 (by have:=ra.size; omega) (by have:=ra.size; have:=sizeLine_eq; omega) (hR _ _ s.toks ?_ hK)
    refine i0.change (o:=.list l) r hl rfl (Heap.SameBut.update ..) λki=>⟨_,⟨_,PySem.IsL.update (n:=na) ha (·.setIfInBounds k.toNat cv)⟩,?_⟩
    rw[Array.toList_setIfInBounds]
    exact h9.set (rv.mono ki) (ra.mono ki) k.toNat
   | dict l =>
    exact Im (P:=λck=>wpAny (model c.prog c.w) A (setItem (.ref a) ck cv) R E' s) hl h.1 h.2.1 ri rv r (λe1 e2 e3 k=>wpAny_setItem_pairs e1 e2 (λh' d b=>hR _ _ _ (k h' _ d b) h.2.2) e3)
     λe1 e2 e3 k=>wpAny_setItem_heap (Nat.lt_of_le_of_lt (by omega:A.units+1+9≤A.units+200) hu) e1 e2 (λh' d b=>hR _ _ _ (k h' _ d b) h.2.2) e3
   | _=>exact h.elim
 | _=>exact h.elim
theorem qW{R:Value→Shared→Prop}{E':Value→Shared→Prop}{op:Operator}{x y:V}{cx cy:Value}{K:V→a5→Prop}(rx:Rep s.heap x cx) (ry:Rep s.heap y cy) (r:Rel c Z s.heap) (h:tW op x y Z K)
  (hR:∀v cv a6 h' tk,i0 c Z a6 (λ_=>False) s {s with heap:=h',toks:=tk}→Rep h' v cv→K v a6→R cv {s with heap:=h',toks:=tk}):wpAny (model c.prog c.w) A (inplaceOp op cx cy) R E' s:=by
 replace h:=h.h
 cases op with
 | Add =>
  cases x with
  | int a=>exact aD.el (P:=λcy=>wpAny (model c.prog c.w) A (inplaceOp .Add cx cy) R E' s) h ry λb u h=>rx.Z6 λt=>iadd_int (hR _ _ _ s.heap _ (i0.toks r) (.int ..) h)
  | ref a =>
   refine tE.el (P:=λcy=>wpAny (model c.prog c.w) A (inplaceOp .Add cx cy) R E' s) h ry λb h=>rx.E3 ?_
   obtain⟨l,m,h1,h2,hz,hne,h⟩:=h
   obtain⟨ia,⟨na,ha⟩,ra⟩:=(r.3 _ _ h1).2
   obtain⟨ib,⟨nb,hb⟩,rb⟩:=(r.3 _ _ h2).2
   have hz:ia.size+ib.size≤1000000:=by rw[ra.size,rb.size]; exact hz
   have hT:s.TypeIs (.ref a) "list":=⟨_,ha,rfl⟩
   unfold inplaceOp
   refine wpAny_holding ?_
   have hfi:fillsInplaceSlot (.type "list") "add" (Operator.Add == .Add)=pure false:=by
    unfold fillsInplaceSlot
    refine(?_:(typeLookup (.type "list") (dunderI "add") >>= λfi=>pure (fi.isSome && !isSeqSlot fi))=pure false)
    rw[F.slot_list_iadd.lookup,pure_bind,show isSeqSlot (some (.builtin "list.__iadd__"))=true by decide +kernel]
    rfl
   refine wpAny_bind (wpAny_typeOf hT (wpAny_bind (wpAny_of_eq hfi ?_)))
   refine(?_:wpAny _ A (if false=true then _ else _) _ _ s)
   rw[if_neg Bool.false_ne_true]
   refine wpAny_bind (wpAny_binaryOp1_none (nm := "add") hT ⟨_,hb,rfl⟩ noFill_list_add ?_)
   refine wpAny_bind (wpAny_of_eq (PySem.seqSlot_of F.slot_list_iadd.lookup (by decide +kernel)) (wpAny_bind (wpAny_rule ?_)))
   refine call_meets F.slot_list_iadd hT F.entry_list_iadd (F.args_list_iadd_2 _ _) (AutoSeq1.list___iadd___list_list_0 a ia na b ib nb (by simp[Builtin.List.listTooLong]; have:=sizeLine_eq; omega) (J9 (Nat.le_trans (Nat.le_add_right ..) hz)) (by have:=sizeLine_eq; omega)) ⟨ha,hb,hR (.ref a) _ _ _ s.toks ?_ (.ref a) h⟩
   exact i0.change (o:=.list l) r h1 rfl (Heap.SameBut.update ..) λki=>⟨_,⟨_,PySem.IsL.update (n:=na) ha (·++ib)⟩,by rw[Array.toList_append]; exact h9.append (rb.mono ki) (ra.mono ki)⟩
  | _=>exact h.elim
 | _=>exact h.elim
end
inductive Iy(h:Heap):Flow→Fl→Prop
 | next:Iy h .next .next
 | cont:Iy h .cont .cont
 | brk:Iy h .brk .brk
 | ret {cv:Value}{v:V}(r:Rep h v cv):Iy h (.ret cv) (.ret v)
@[elab_as_elim] theorem Iy.el {h:Heap}{P:Flow→Fl→Prop}{f:Flow}{fl:Fl}(x:Iy h f fl) (next:P .next .next) (cont:P .cont .cont) (brk:P .brk .brk) (ret:∀cv v,Rep h v cv→P (.ret cv) (.ret v)):P f fl :=
 x.casesOn next cont brk λr=>ret _ _ r
abbrev Ri(c:Cx) (n:Nat) (env:Env) (fs:FS) (A:Around) (d0:a5) (d9:Shared) (ρ:Loc) (Z:a5) (s:Shared):Prop:=v8 c n env fs A (Own fs env) d0 d9 ρ Z s
inductive QF(c:Cx) (n:Nat) (env:Env) (fs:FS) (A:Around) (d0:a5) (d9:Shared) (Q:Fl→Loc→a5→Prop) (f:Flow) (s':Shared):Prop
 | mk {fl:Fl}{u7:Loc}{a6:a5}(hf:Iy s'.heap f fl) (a:Ri c n env fs A d0 d9 u7 a6 s') (q:Q fl u7 a6)
inductive EF(c:Cx) (n:Nat) (env:Env) (fs:FS) (A:Around) (L:Addr) (d0:a5) (d9:Shared) (E:a5→Prop) (ev:Value) (s':Shared):Prop
 | mk {k:Fn}{u7:Loc}{a6:a5}(hk:k=.new∨k=.left∨k=.held L) (a:Ri c n env fs A d0 d9 u7 a6 s') (x:ExcAt c d9.heap k ev s'.heap) (e:E a6)
noncomputable def SS(c:Cx) (n:Nat) (fs:FS) (st:Stmt) (x:S):Prop:=∀env L ρ Z Q E,WS c n x ρ Z Q E→∀A d0 d9 s,Ri c n env fs A d0 d9 ρ Z s→c.base.StaysIn d9.heap→Iw A env L →
 wpAny (model c.prog c.w) A (exec st env) (QF c n env fs A d0 d9 Q) (EF c n env fs A L d0 d9 E) s
noncomputable def lB(c:Cx) (n:Nat) (fs:FS) (st:List Stmt) (x:List S):Prop:=∀env L ρ Z Q E,l6 c n x ρ Z Q E→∀A d0 d9 s,Ri c n env fs A d0 d9 ρ Z s→c.base.StaysIn d9.heap→Iw A env L →
 wpAny (model c.prog c.w) A (execs st env) (QF c n env fs A d0 d9 Q) (EF c n env fs A L d0 d9 E) s
section
variable {c:Cx}{n:Nat}{env:Env}{fs:FS}{ρ:Loc}{Z d0:a5}{Q:Fl→Loc→a5→Prop}{E:a5→Prop}{A:Around}{L:Addr}{s d9:Shared}
theorem v8.rebase{F:Addr→Prop}{u7:Loc}{a6:a5}{s':Shared}(a:v8 c n env fs A F d0 d9 ρ Z s) (b:v8 c n env fs A F Z s u7 a6 s'):v8 c n env fs A F d0 d9 u7 a6 s':=⟨b.ok,b.E2,b.rel,a.post.trans b.post⟩
theorem v8.here{F:Addr→Prop}(a:v8 c n env fs A F d0 d9 ρ Z s):v8 c n env fs A F Z s ρ Z s:=⟨a.ok,a.E2,a.rel,.refl a.rel⟩
theorem EF.rebase{ev:Value}{s':Shared}(a:Ri c n env fs A d0 d9 ρ Z s) (q:EF c n env fs A L Z s E ev s'):EF c n env fs A L d0 d9 E ev s':=match q with
 | ⟨hk,b,x,e⟩=>⟨hk,a.rebase b,x.mono a.post.keep.1,e⟩
theorem EE.ef{ev:Value}{s':Shared}(a:Ri c n env fs A d0 d9 ρ Z s) (q:EE c Z s E ev s'):EF c n env fs A L d0 d9 E ev s':=q.elim λa6 q=>⟨.inr (.inl rfl),a.step q.1,q.2.1.mono a.post.keep.1,q.2.2⟩
theorem SX.atS{e:Expr}{x:X}{Q1:V→a5→Prop}{R:Value→Shared→Prop}(hx:SX c n fs e x) (h:WX c n x ρ Z Q1 E) (a:Ri c n env fs A d0 d9 ρ Z s)
  (h2:∀cv v b0 f5,Ri c n env fs A d0 d9 ρ b0 f5→i0 c Z b0 (λ_=>False) s f5→Rep f5.heap v cv→Q1 v b0→R cv f5):wpAny (model c.prog c.w) A (eval e env) R (EF c n env fs A L d0 d9 E) s :=
 wpAny_mono (hx env ρ Z _ E h A s a.ok a.E2 a.rel) (λcv f5 q=>q.elim λv q=>q.elim λb0 q=>h2 cv v b0 f5 (a.step q.1) q.1 q.2.1 q.2.2) λ_ _ e=>e.ef a
theorem SB.atS{e:Expr}{x:B}{Q1:Bool→a5→Prop}{R:Bool→Shared→Prop}(hx:SB c n fs e x) (h:WC c n x ρ Z Q1 E) (a:Ri c n env fs A d0 d9 ρ Z s)
  (h2:∀b b0 f5,Ri c n env fs A d0 d9 ρ b0 f5→Q1 b b0→R b f5):wpAny (model c.prog c.w) A (isTrue e env (eval e env)) R (EF c n env fs A L d0 d9 E) s :=
 wpAny_mono (hx env ρ Z _ E h A s a.ok a.E2 a.rel) (λb f5 q=>q.elim λb0 q=>h2 b b0 f5 (a.step q.1) q.2) λ_ _ e=>e.ef a
theorem v8.next(a:Ri c n env fs A d0 d9 ρ Z s) (q:Q .next ρ Z):QF c n env fs A d0 d9 Q .next s:=⟨.next,a,q⟩
noncomputable def D0(e:Expr):Bool:=Uq true e (Ba:=λ_ _ _ _=>false) (Lu:=λ_ _ _ _=>false) (Ik:=λ_ _ _ _ _=>false)
theorem w7{e:Expr}(h:D0 e=true) (t:Option Expr) (k:Nat) (env:Env):swapsWith e t k env=pure false:=by
 cases e<;>first | rfl | exact ff h
theorem a0c{x:Str}{p pos:Pos}{e:Expr}{i:Nat}{xe:X}(hi:Inj fs) (hx:SX c n fs e xe) (ht:K1 fs true x i) (hn:D0 e=true):SS c n fs (.Assign [.Name x p] e pos) (.set i xe):=λenv L ρ Z Q E h A d0 d9 s a hb ht' =>
 wpAny_Assign_Name (hx.atS h a λcv v b0 f5 i6 t9 j7 h=>i6.set hi ht (Ip.own fs env) j7 λj2 j4 G6=>j4.next h) (w7 hn _ _ _)
theorem uQ{x y:Str}{p q r pos:Pos}{k:Nat}{e:Expr}{i j:Nat}{xe:X}(hi:Inj fs) (hx:SX c n fs e xe) (ht:U8 fs true (.Tuple [.Name x p,.Name y q] k r) (.two i j)) (hn:D0 e=true)
  (hs:∀env,swappedStores [.Tuple [.Name x p,.Name y q] k r] e env=pure none):SS c n fs (.Assign [.Tuple [.Name x p,.Name y q] k r] e pos) (.aG i j xe):=λenv L ρ Z Q E h A d0 d9 s a hb ht'=>by
 rw[exec_Assign]
 have e1:swapsWithSole [Expr.Tuple [.Name x p,.Name y q] k r] e pos.line env=pure false:=w7 hn (some (Expr.Tuple [.Name x p,.Name y q] k r)) pos.line env
 refine wpAny_bind (wpAny_standAt (wpAny_bind (wpAny_of_eq e1 (wpAny_bind (hx.atS h a λcv v b0 f5 i6 t9 j7 h=>wpAny_bind (wpAny_of_eq (hs env) ?_))))))
 exact wpAny_bind (m:=assignAll cv [PySem.assign (.Tuple [.Name x p,.Name y q] k r) env]) (i6.assign hi ht (Ip.own fs env) j7 h λu7 j2 j4 G6 h=>wpAny_pure (j4.next h))
theorem uR(G:Good c){o e:Expr}{name:Str}{p pos:Pos}{xo xe:X}(hx:SX c n fs e xe) (ho:SX c n fs o xo) (hn:D0 e=true):SS c n fs (.Assign [.Attribute o name p] e pos) (.j5 xo name xe):=λenv L ρ Z Q E h A d0 d9 s a hb ht' =>
 plainObj_wpAny_Assign_Attribute (hx.atS h a λcv v b0 f5 i6 t9 j7 h=>ho.atS h i6 λco ov j0 j2 j4 G6 P9 h=>kZ G P9 (j7.post G6) j4.rel h λa6 h' tk p hK=>(j4.step p).next hK) (w7 hn _ _ _)
theorem uS{o i e:Expr}{p pos:Pos}{xo xi xe:X}(hx:SX c n fs e xe) (ho:SX c n fs o xo) (hi:SX c n fs i xi) (hn:D0 e=true):SS c n fs (.Assign [.Subscript o i p] e pos) (.J5 xo xi xe):=λenv L ρ Z Q E h A d0 d9 s a hb ht' =>
 wpAny_Assign_Subscript (hx.atS h a λcv v b0 f5 i6 t9 j7 h=>ho.atS h i6 λco ov j0 j2 j4 G6 P9 h=>hi.atS h j4 λci iv Xm G2 Bb Uu a0d h=>lA (P9.post Uu) a0d ((j7.post G6).post Uu) Bb.rel Bb.units h λa6 h' tk p hK=>(Bb.step p).next hK) (w7 hn _ _ _)
theorem a0e{x:Str}{p pos:Pos}{op:Operator}{e:Expr}{i:Nat}{xe:X}(hi:Inj fs) (hx:SX c n fs e xe) (ht:fs.res.lookup x=some i∧fs.sc.lookup x=some .local):SS c n fs (.AugAssign (.Name x p) op e pos) (.aug i op xe):=λenv L ρ Z Q E h A d0 d9 s a hb ht' =>
 h.ex.elim λold h=>a.E2.ns.elim λm hm=>(hm.2 x i old ht.1 h.1 (j6 a.E2.names ht.2)).elim λco e =>
 wpAny_AugAssign_Name (wpAny_loadName_local a.E2.kind (j6 a.E2.names ht.2) hm.1 e.1 (hx.atS h.2 a λcv v b0 f5 i6 t9 j7 h=>qW (e.2.post t9) j7 i6.rel h λu cu j0 Cd tk p P9 hK=>(i6.step p).set (cl:=true) hi ⟨ht.1,.inl ht.2⟩ (Ip.own fs env) P9 λG2 Bb Uu=>Bb.next hK))
theorem mIf{t:Expr}{b o:List Stmt}{pos:Pos}{xt:B}{xb xo:List S}(ht:SB c n fs t xt) (hb:lB c n fs b xb) (ho:lB c n fs o xo):SS c n fs (.If t b o pos) (.ite xt xb xo):=λenv L ρ Z Q E h A d0 d9 s a hst htop =>
 wpAny_If (ht.atS h a λr b0 f5 i6 h=>h.el (λh=>hb env L ρ b0 Q E h A d0 d9 f5 i6 hst htop) λh=>ho env L ρ b0 Q E h A d0 d9 f5 i6 hst htop)
theorem a0f{e:Expr}{pos:Pos}{xe:X}(hx:SX c n fs e xe):SS c n fs (.Return (some e) pos) (.ret xe):=λenv L ρ Z Q E h A d0 d9 s a hst htop =>
 wpAny_Return_some (hx.atS h a λcv v b0 f5 i6 t9 j7 h=>⟨.ret j7,i6,h⟩)
theorem a0g{e:Expr}{pos:Pos}{xe:X}(hx:SX c n fs e xe) (hn:D0 e=true):SS c n fs (.Expr e pos) (.exp xe):=λenv L ρ Z Q E h A d0 d9 s a hst htop =>
 wpAny_Expr_any (hx.atS h a λcv v b0 f5 i6 t9 j7 h=>i6.next h) (by unfold interactive; rw[a.E2.kind]; rfl) (w7 hn _ _ _)
theorem uU{pos:Pos}:SS c n fs (.Pass pos) .pass:=λenv L ρ Z Q E h A d0 d9 s a hst htop=>wpAny_Pass (a.next h)
theorem uV{pos:Pos}:SS c n fs (.Continue pos) .cont:=λenv L ρ Z Q E h A d0 d9 s a hst htop=>wpAny_Continue ⟨.cont,a,h⟩
theorem uW:lB c n fs [] []:=λenv L ρ Z Q E h A d0 d9 s a hst htop=>wpAny_execs_nil (a.next h)
theorem qX{st:Stmt}{sts:List Stmt}{x:S}{xs:List S}(h1:SS c n fs st x) (h2:lB c n fs sts xs):lB c n fs (st::sts) (x::xs):=λenv L ρ Z Q E h A d0 d9 s a hst htop=>by
 refine wpAny_execs_cons (wpAny_mono (h1 env L ρ Z _ E h A d0 d9 s a hst htop) (λf f5 q=>?_) λ_ _ e=>e)
 obtain⟨hf,i6,q⟩:=q
 revert q
 exact hf.el (λh=>h2 env L _ _ Q E h A d0 d9 f5 i6 hst htop) (λh=>⟨.cont,i6,h⟩) (λh=>⟨.brk,i6,h⟩) λcv v r h=>⟨.ret r,i6,h⟩
theorem Iz{R:Value→Shared→Prop}{ev:Value}{s':Shared}(hst:c.base.StaysIn d9.heap) (htop:Iw A env L) (q:EF c n env fs A L d0 d9 E ev s') (hR:∀ev s'',EF c n env fs A L d0 d9 E ev s''→R ev s'') :
  notedBy (model c.prog c.w) A env (λe s''=>cameBackBy (model c.prog c.w) A env R e s'') ev s':=by
 obtain⟨hk,a,hx,he⟩:=q
 refine Oi a hst htop hk hx λh' a' hx'=>?_
 have hx'':=hx'
 obtain⟨rfl,h2,h3,h4,h5,h6,g1,g2,g3,g4,g5,g6⟩:=hx'
 refine wpAny_bind (wpAny_field h3 h5 g1 ?_)
 rw[htop.1]
 exact Y7 (E':=λev s''=>R ev s'') a' (.inr ⟨L,rfl⟩) hx'' hst (some L) λh'' a'' hx3=>hR _ _ ⟨.inr (.inr rfl),a'',hx3,he⟩
theorem a0i{t:Expr}{b:List Stmt}{pos:Pos}{xt:B}{xb:List S}(ht:SB c n fs t xt) (hb:lB c n fs b xb):SS c n fs (.While t b [] pos) (.whl xt xb):=λenv L ρ Z Q E h A d0 d9 s a hst htop=>by
 obtain⟨I,⟨k,hk⟩,hI⟩:=h
 refine wpAny_While (codeAny_whileLoop (λk s'=>∃u7 a6,Ri c n env fs A d0 d9 u7 a6 s'∧I k u7 a6) (λk s' q=>q.elim λu7 q=>q.elim λa6 q=>?_) k ⟨ρ,Z,a,hk⟩)
 refine wpAny_mono (ht.atS (L:=L) (hI k u7 a6 q.2) q.1 λr b0 f5 i6 h=>?_) (λ_ _ q=>q) λev s'' q=>Iz hst htop q λ_ _ q=>q
 refine h.el (λh=>?_) λh=>wpAny_execs_nil (i6.next h)
 refine wpAny_mono (hb env L u7 b0 _ E h A d0 d9 f5 i6 hst htop) (λf j2 q=>?_) λev s'' q=>Iz hst htop q λ_ _ q=>q
 obtain⟨hf,j4,q⟩:=q
 revert q
 exact hf.el (λh=>h.imp λm h=>⟨h.1,_,_,j4,h.2⟩) (λh=>h.imp λm h=>⟨h.1,_,_,j4,h.2⟩) (λh=>j4.next h) λcv v r h=>⟨.ret r,j4,h⟩
theorem Uz{F:Addr→Prop}(a:v8 c n env fs A F d0 d9 ρ Z s){I:Addr}{o:Obj}{vs:Array Value}(e:s.heap.get? I=some o) (hf:o.data=.fields vs):¬Own fs env I:=λh=>h.elim
 (λh=>a.E2.ns.elim λm x=>x.1.elim λo' y=>y.elim λes y=>y.elim λep y=>Bt.shape (o:=o) ⟨es,ep,Option.some.inj (y.1.symm.trans ((congrArg _ h).symm.trans e)) ▸ y.2.1⟩ |>.1 vs hf)
 λh=>h.elim λy h=>h.elim λj h=>(a.E2.cell y j h.1 (.inl (j6 a.E2.names h.2.1))).elim λb x=>x.elim λov x=>x.2.1.elim λo' z=>by
  obtain rfl:b=I:=Option.some.inj (x.1.symm.trans h.2.2)
  have:=(congrArg Obj.data (Option.some.inj (e.symm.trans z.1))).symm.trans hf
  rw[z.2] at this; cases this
theorem dX{F:Addr→Prop}(a:v8 c n env fs A F d0 d9 ρ Z s){I:Addr}{iv:V}{i:Nat}(it:S7 s.heap I iv i):¬Own fs env I:=it.obj.elim λo x=>x.elim λT x=>x.elim λvs x=>Uz a x.1 x.2.2.1
inductive a0j(c:Cx) (n:Nat) (env:Env) (fs:FS) (A:Around) (d0:a5) (d9:Shared) (I:Addr) (iv:V) (l:List V) (W:List V→Loc→a5→Prop) (k:Nat) (s':Shared):Prop
 | mk {i:Nat}{u7:Loc}{a6:a5}(hki:k+i=l.length) (a:Ri c n env fs A d0 d9 u7 a6 s') (it:aK c d9 s' I iv i) (hw:W (l.drop i) u7 a6)
theorem a0k{t it:Expr}{b:List Stmt}{pos:Pos}{tg:Tg}{xi:X}{xb:List S}(hi:Inj fs) (hit:SX c n fs it xi) (ht:U8 fs true t tg) (hb:lB c n fs b xb) (Cg:∀env x,foldedSetIterable it env x=pure x) :
  SS c n fs (.For t it b [] pos) (.for tg xi xb):=λenv L ρ Z Q E h A d0 d9 s a hst htop=>by
 refine wpAny_For (hit.atS h a λci iv b0 f5 i6 t9 j7 h=>h.h.elim λl w=>Xp i6 j7 w.1 λI j2 j4 Ma=>?_) (λx=>Cg env x)
 refine codeAny_forLoop_any (a0j c n env fs A d0 d9 I iv l λr u7 a6=>aH (λZ=>A5 iv Z l) (λx ρ Z K=>aC tg x ρ λu7=>l6 c n xb u7 Z K E) r u7 a6 Q) (λk s' x=>?_) l.length ⟨Nat.add_zero _,j4,Ma,w.2.2⟩
 obtain⟨hki,a',it',hf⟩:=x
 rename_i i u7 a6
 cases hx:l[i]? with
 | none =>
  rw[List.drop_eq_nil_iff.mpr (List.getElem?_eq_none_iff.mp hx)] at hf
  exact next_end a' it' hf.1 hx λIr S8 H8=>wpAny_execs_nil (S8.next hf.2)
 | some x =>
  obtain⟨h1,h2⟩:=List.getElem?_eq_some_iff.mp hx
  rw[List.drop_eq_getElem_cons h1,h2] at hf
  refine next_item a' it' hf.1 hx λcv Ir S8 K3 qP H8=>Ra ht.form K3.at_ ?_
  refine S8.assign hi ht (Ip.own fs env) qP hf.2 λRd Ux Gy Uy hq=>?_
  have Ce:=K3.at_.post Uy (K3.at_.q8 S8.rel) (dX S8 K3.at_)
  refine wpAny_mono (hb env L Rd a6 _ E hq A a6 Ux Ux Gy.here Gy.rel.1 htop) (λf uN q=>?_) λev s'' q=>Iz hst htop (q.rebase Gy) λ_ _ q=>q
  obtain⟨hf,J6,q⟩:=q
  have Ly:=Ce.post J6.post (Ce.q8 Gy.rel) (dX Gy Ce)
  have aO:=Gy.rebase J6
  cases k with
  | zero=>exact Qn h1 (Nat.le_of_eq (hki.symm.trans (Nat.zero_add i)))
  | succ m =>
  have hmi:m+(i+1)=l.length:=(Nat.succ_add_eq_add_succ m i).symm.trans hki
  revert q
  exact hf.el (λh=>⟨m,Nat.lt_succ_self m,hmi,aO,⟨Ly,K3.lo,K3.base⟩,h⟩) (λh=>⟨m,Nat.lt_succ_self m,hmi,aO,⟨Ly,K3.lo,K3.base⟩,h⟩) (λh=>aO.next h) λcv v r h=>⟨.ret r,aO,h⟩
end
section
variable {c:Cx}{n:Nat}{env:Env}{fs:FS}{ρ:Loc}{Z d0:a5}{Q:Fl→Loc→a5→Prop}{E:a5→Prop}{A:Around}{L:Addr}{s d9:Shared}
theorem Mb(f:Bu c env fs ρ Z s.heap):env.blockKind=.function:=by unfold Env.blockKind; rw[f.kind]; rfl
theorem dY{x:Str}{p pos cpos:Pos}{i:Nat}{elt t iter:Expr}{ifs:List Expr}{scope:Scope}{xe xi:X}{tg:Tg}{xs:List B}(hi:Inj fs) (hiter:SX c n fs iter xi) (Cg:∀env x,foldedSetIterable iter env x=pure x) (cs:A8 fs scope tg)
  (he:SX c n (m0 fs scope) elt xe) (ht:U8 (m0 fs scope) false t tg) (hs:Qk c n (m0 fs scope) ifs xs) (hx:fs.res.lookup x=some i∧fs.sc.lookup x=some .local) (hline:p.line=cpos.line)
  (hown:(scope.names.any λy=>y.1 == x && (y.2 == .local || y.2 == .cell))=false) :
  SS c n fs (.Assign [.Name x p] (.ListComp elt [⟨t,iter,ifs,0⟩] scope cpos) pos) (.set i (.comp xe tg xi xs)):=by
 intro env L ρ Z Q E h A d0 d9 s a hb htop
 have hsw:swapsWith (.ListComp elt [⟨t,iter,ifs,0⟩] scope cpos) (some (.Name x p)) pos.line env=pure true:=by
  refine(?_:(pure (env.blockKind == .function && env.kindOf x == some .local && p.line == cpos.line && !(scope.names.any fun(n,k)=>n == x && (k == .local || k == .cell))):Sem Bool)=pure true)
  rw[Mb a.E2,j6 a.E2.names hx.2,hline,show(scope.names.any fun(n,k)=>n == x && (k == .local || k == .cell))=false from hown,show(cpos.line == cpos.line)=true from beq_iff_eq.mpr rfl]
  rfl
 rw[exec_Assign_Name_used _ _ _ _ hsw]
 refine wpAny_bind (wpAny_standAt (wpAny_bind (wpAny_bind ?_)))
 refine wpAny_mono (E:=EE c Z s E) (Lz (R:=λ_ s'=>wpAny (model c.prog c.w) A (pure ():Sem Unit) (λ_ s'=>wpAny (model c.prog c.w) A (pure Flow.next) (QF c n env fs A d0 d9 Q) (EF c n env fs A L d0 d9 E) s') (EF c n env fs A L d0 d9 E) s') (Q:=λv Z=>Q .next (t8 ρ i v) Z) hi hiter Cg cs he ht hs h a.ok a.E2 a.rel λD C a6 s' hE=>?_) (λ_ _ q=>q) λ_ _ q=>q.ef a
 obtain⟨m,oC,eC,epC,hoC,oK,hqC⟩:=hE.ns
 obtain⟨items,acc,⟨nn,hD⟩,hacc,hq⟩:=hE.list
 have p8:=(hE.post.narrow (G':=λ_=>False) λb hb=>.inr (hb ▸ hE.Lx)).adopt (o:=.list acc) hE.D2 hE.oD hE.oE hE.Xs ⟨items,⟨nn,hD⟩,hacc⟩
 have a8:Ri c n env fs A Z s ρ (j1 a6 D (.list acc)) s':=⟨a.ok.post p8,a.E2.post0 p8,p8.rel,p8.Qo λ_ h=>h.elim⟩
 have oL:env.locals≠C:=λe=>a.E2.ns.elim λm' x=>x.1.elim λo' x=>hE.Lx.not ((congrArg s.heap.get? e).symm.trans x.choose_spec.choose_spec.1)
 have hn2:j1 a6 D (.list acc) C=none:=(i8 (Ne.symm hE.DC)).trans hE.oB
 refine(?_:wpAny _ A (PySem.assign (.Name x p) env (.ref D)) _ _ s')
 refine wpAny_assign_Name (a8.set (cl:=true) hi ⟨hx.1,.inl hx.2⟩ (Ip.own fs env) (.ref D) λs'' a9 p9=>?_)
 obtain⟨sl,qY⟩:=(p9.keep.2 C oC hoC λh=>h.elim (λh=>g9 h hn2) λh=>h.elim (λh=>oL h.symm) λh=>h.elim λy h=>h.elim λj h=>(a.E2.cell y j h.1 (.inl (j6 a.E2.names h.2.1))).elim λb x=>x.elim λov x=>x.2.1.elim λo' z=>hE.Lx.not ((congrArg s.heap.get? (Option.some.inj (x.1.symm.trans h.2.2))).symm.trans z.1)).1
 refine⟨m,⟨_,eC,epC,qY,oK,hqC⟩,λh' hs'=>?_⟩
 have qt:Quiet c (j1 a6 D (.list acc)) (·=C) s.heap s''.heap h':=.one qY (λim=>im.noDict oK) hn2 hE.nZ hE.Lx hs'.extBut
 have p10:=a9.post.quiet (tk:=s''.toks) qt
 have a10:Ri c n env fs A Z s (t8 ρ i (.ref D)) (j1 a6 D (.list acc)) {s'' with heap:=h'}:=⟨a.ok.post p10,a9.E2.quiet qt oL λb o e q v k=>Bt.Of (o:=o) ⟨eC,epC,Option.some.inj (qY.symm.trans ((congrArg s''.heap.get? e).symm.trans q)) ▸ oK⟩ k,p10.rel,p10⟩
 exact wpAny_pure (wpAny_pure ((a.rebase a10).next (hq D hE.Xs)))
theorem Gz{α:Type}{M:Model}{m m':Sem α}{R:α→Shared→Prop}{E':Value→Shared→Prop}(e:m=m') (h:wpAny M A m' R E' s):wpAny M A m R E' s:=e ▸ h
theorem Va{x y:Str}{p q r r':Pos}{u v:Str}{pu pv:Pos}{k k':Nat}(hbk:env.blockKind=.function) (hkx:env.kindOf x=some .local) (hky:env.kindOf y=some .local) (hne:x≠y) (hline:p.line=q.line) (hdb:(u == ("__debug__":Str))=false) :
  swappedStores [Expr.Tuple [.Name x p,.Name y q] k r] (.Tuple [.Name u pu,.Name v pv] k' r') env=pure (some [x,y]):=by
 unfold swappedStores
 refine(if_neg (by rw[hbk]; exact Bool.false_ne_true)).trans ?_
 refine(if_neg Bool.false_ne_true).trans ?_
 have hn:([Expr.Name x p,.Name y q].filterMap λe=>match e with | .Name id pos=>if (env.kindOf id == some .local && pos.line == p.line)=true then some id else none | _=>none)=[x,y]:=by
  rw[List.filterMap_cons,List.filterMap_cons]
  dsimp only
  rw[hkx,hky,←hline,if_pos (by rw[Bool.and_eq_true_iff,beq_iff_eq,beq_iff_eq]; exact⟨rfl,rfl⟩),if_pos (by rw[Bool.and_eq_true_iff,beq_iff_eq,beq_iff_eq]; exact⟨rfl,rfl⟩)]
  rfl
 refine(congrArg (λnames:List Str=>if (names.length != 2 || names.eraseDups.length != names.length)=true then (pure none:Sem (Option (List Str))) else if [Expr.Name u pu,Expr.Name v pv].all (foldedForSure 8)=true then pure none
  else if [Expr.Name u pu,Expr.Name v pv].all (constantsAlone 8)=true then ((unsupported "assign.tuple-of-constant-expressions:order-of-the-stores":Sem PUnit) >>= λ_=>pure (some names)) else pure (some names)) hn).trans ?_
 refine(if_neg ?_).trans ((if_neg Bool.false_ne_true).trans (if_neg (by rw[List.all_cons,show constantsAlone 8 (Expr.Name u pu)=false from hdb]; exact Bool.false_ne_true)))
 rw[show([x,y]:List Str).eraseDups=[x,y] by
  have:(x == y)=false:=beq_eq_false_iff_ne.mpr hne
  have:(y == x)=false:=beq_eq_false_iff_ne.mpr hne.symm
  simp[List.eraseDups,List.eraseDupsBy,List.eraseDupsBy.loop, *]]
 exact Bool.false_ne_true
noncomputable def dZ(l:List V) (K:V→V→Prop):Prop:=match l with
 | [a,b]=>K a b
 | _=>False
theorem dZ.ex{l:List V}{K:V→V→Prop}(h:dZ l K):∃a b,l=[a,b]∧K a b:=match l,h with
 | [a,b],h=>⟨a,b,rfl,h⟩
theorem uX{x y:Str}{p q r r' pos:Pos}{u v:Str}{pu pv:Pos}{k k':Nat}{i j:Nat}{xa xb:X}(hi:Inj fs) (ha:SX c n fs (.Name u pu) xa) (hb':SX c n fs (.Name v pv) xb)
  (hx:fs.res.lookup x=some i∧fs.sc.lookup x=some .local) (hy:fs.res.lookup y=some j∧fs.sc.lookup y=some .local) (hne:x≠y) (hline:p.line=q.line) (hdb:(u == ("__debug__":Str))=false) :
  SS c n fs (.Assign [.Tuple [.Name x p,.Name y q] k r] (.Tuple [.Name u pu,.Name v pv] k' r') pos) (.swap i j xa xb):=λenv L ρ Z Q E h A d0 d9 s a hb htop=>by
 rw[exec_Assign]
 have e1:swapsWithSole [Expr.Tuple [.Name x p,.Name y q] k r] (.Tuple [.Name u pu,.Name v pv] k' r') pos.line env=pure false:=w7 (e:=.Tuple [.Name u pu,.Name v pv] k' r') rfl (some (Expr.Tuple [.Name x p,.Name y q] k r)) pos.line env
 refine wpAny_bind (wpAny_standAt (wpAny_bind (wpAny_of_eq e1 ?_)))
 have hst:SX c n fs (.Tuple [.Name u pu,.Name v pv] k' r') (.tup [xa,xb]):=uD (Nat.le_of_ble_eq_true rfl) (Qw rfl ha (Qw rfl hb' qM))
 refine wpAny_bind (hst.atS (Q1:=λw Z=>tQ w λl=>dZ l λz z'=>Q .next (t8 (t8 ρ j z') i z) Z) h a λcv w b0 f5 i6 t9 j7 h=>?_)
 refine wpAny_bind (wpAny_of_eq (Va (Mb i6.E2) (j6 i6.E2.names hx.2) (j6 i6.E2.names hy.2) hne hline hdb) ?_)
 refine tQ.el h j7 λl ad items ta r1 h=>?_
 obtain⟨z,z',rfl,h⟩:=h.ex
 obtain⟨li⟩:=items
 obtain⟨c1,t1,rfl,r1,r2⟩:=r1
 obtain⟨c2,t2,rfl,r2,e⟩:=r2
 obtain rfl:t2=[]:=e
 refine wpAny_bind (wpAny_rule (wpAny_bind (wpAny_unpackItems_tuple (items:=⟨[c1,c2]⟩) i6.ok.2.2.1 ta.isTuple λh' hx'=>?_)))
 have p2:i0 c b0 b0 (λ_=>False) f5 {f5 with heap:=h'}:=i0.grow (tk:=f5.toks) i6.rel λb o e=>hx' b o (Nat.ne_of_lt (Heap.lt_size e)) e
 have a2:=i6.step p2
 have e3:assignInOrder (List.map (λn=>bindName env n) [x,y].reverse) ([c1,c2]:List Value).reverse=(do holding [c1] (bindName env y c2); holding [] (bindName env x c1); pure ()):=rfl
 refine wpAny_bind (Gz e3 ?_)
 have st {z:Str}{cz:Value}{s:Shared}{R:Unit→Shared→Prop}{E':Value→Shared→Prop}(h:wpAny (model c.prog c.w) A (storeName env z cz) R E' s):wpAny (model c.prog c.w) A (bindName env z cz) R E' s:=by
  unfold bindName
  exact wpAny_bind (wpAny_holding (wpAny_point (wpAny_bind (wpAny_mono h (λ_ _ q=>wpAny_point q) λ_ _ q=>q))))
 refine wpAny_bind (wpAny_holding (st (a2.set (cl:=true) hi ⟨hy.1,.inl hy.2⟩ (Ip.own fs env) (r2.post p2) λs3 a3 p3=>?_)))
 exact wpAny_bind (wpAny_holding (st (a3.set (cl:=true) hi ⟨hx.1,.inl hx.2⟩ (Ip.own fs env) ((r1.post p2).post p3) λs4 a4 p4=>wpAny_pure (wpAny_pure (a4.next h)))))
end
structure uY(c:Cx) (f:Addr) (fd:FuncData) (ps:List Str) (body:List Stmt):Prop where
 at_:∃oc od osl,c.K.lookup f=some ⟨oc,od,.func fd,osl⟩
 body:fd.body=.stmts body
 code:codeIn c.K fd.code fd.qualname=true
 glob:fd.globals=mainGlobals
 blt:fd.builtins=builtinsNs
 clos:fd.closure=[]
 kind:fd.scope.kind=.function
 co:fd.scope.isCoroutine=false
 gen:fd.scope.isGenerator=false
 bind:∀vals:List Value,vals.length=ps.length→bindArgs fd {pos:=vals}=pure (ps.zip vals)
structure lC(fs:FS) (ps:List Str):Prop where
 inj:Inj fs
 params:∀k x,ps[k]?=some x→fs.res.lookup x=some k∧(fs.sc.lookup x=some .local∨fs.sc.lookup x=some .cell)
 qZ:∀x,fs.sc.lookup x≠some .free
theorem Rj{p:Prop}{i:Decidable p}{f g:Str→Option Value}{x:Str}{v:Option Value}(h1:f x=v) (h2:g x=v):(if p then f else g) x=v:=by
 by_cases q:p
 ·rw[if_pos q]; exact h1
 ·rw[if_neg q]; exact h2
theorem Be{k:Str→Option NameKind}{x:Str}:∀{l:List (Str×Value)}{m cm:Str→Option Value},(∀v,(x,v)∉l)→bindL k l m x=m x∧bindC k l cm x=cm x
 | [],_,_,_=>⟨rfl,rfl⟩
 | (y,u)::r,m,cm,h =>
  have hx:x≠y:=λe=>h u (e ▸ .head _)
  (Be λv hv=>h v (.tail _ hv)).imp (λq=>q.trans (Rj (if_neg hx) rfl)) λq=>q.trans (Rj rfl (if_neg hx))
theorem Hg{k:Str→Option NameKind}{x:Str}{v:Value}:∀{l:List (Str×Value)}{m cm:Str→Option Value},(l.map (·.1)).Nodup→(x,v)∈l→(k x=some .local→bindL k l m x=some v)∧(k x≠some .local→bindC k l cm x=some v)
 | [],_,_,_,h=>nomatch h
 | (y,u)::r,m,cm,hn,h=>by
  have n:=List.nodup_cons.mp hn
  rcases List.mem_cons.mp h with e | h
  ·obtain⟨rfl,rfl⟩:=Prod.mk.inj e
   have n1:∀w,(x,w)∉r:=λw hw=>n.1 (List.mem_map.mpr ⟨_,hw,rfl⟩)
   exact⟨λhk=>(Be (l:=r) n1 (cm:=cm)).1.trans ((congrFun (if_pos hk) x).trans (if_pos rfl)),λhk=>(Be (l:=r) n1 (m:=m)).2.trans ((congrFun (if_neg hk) x).trans (if_pos rfl))⟩
  ·exact Hg (l:=r) n.2 h
noncomputable def Gw(vs:List V):Loc:=λi=>vs[i]?
noncomputable def s9(Q:V→a5→Prop):Fl→Loc→a5→Prop
 | .ret v,_,Z=>Q v Z
 | .next,_,Z=>Q .none Z
 | _,_,_=>False
noncomputable def Mc(c:Cx) (n:Nat) (f:V) (vs:List V) (Z:a5) (Q:V→a5→Prop) (E:a5→Prop):Prop :=
 ∀A s cf Nt,Ok c n A Z s.heap→Rel c Z s.heap→Rep s.heap f cf→h9 s.heap vs Nt →
  codeAny (model c.prog c.w) A (.call cf ⟨Nt,[]⟩) (λr s'=>match r with | .ok (.ret v)=>QE c Z s Q v s' | .ok _=>False | .error e=>EE c Z s E e s') s
theorem Mc.call{c:Cx}{n:Nat}{f:V}{vs:List V}{Z:a5}{Q:V→a5→Prop}{E:a5→Prop}(h:Mc c n f vs Z Q E):i3 c n f vs Z Q E :=
 λA s cf Nt o r hf hvs=>wpAny_call (h A s cf Nt o r hf hvs)
theorem lD{c:Cx}(G:Good c){n:Nat}{f:Addr}{fd:FuncData}{ps:List Str}{body:List Stmt}{fs:FS}{xs:List S}(I:uY c f fd ps body) (N:lC fs ps) (hsc:fs.sc=fd.scope.names) (hb:lB c n fs body xs)
  {vs:List V}{Z:a5}{Q:V→a5→Prop}{E:a5→Prop}(hlen:vs.length=ps.length) (h:l6 c n xs (Gw vs) Z (s9 Q) E):Mc c (n+1) (.fix (.ref f)) vs Z Q E:=λA s cf Nt o r hf hvs=>by
 obtain rfl:cf=.ref f:=hf
 obtain⟨oc,od,osl,hat⟩:=I.at_
 have ho:=(G.KX.keeps r.stays) _ _ hat
 obtain⟨k1,k2,k3,l,k4,k5⟩:=o
 have hcl:Nt.length=ps.length:=hvs.length.symm.trans hlen
 have hpn:ps.Nodup:=List.pairwise_iff_getElem.mpr λi j hi hj hij e=>Nat.ne_of_lt hij (Option.some.inj ((N.params i _ (List.getElem?_eq_getElem hi)).1.symm.trans ((congrArg (λy=>fs.res.lookup y) e).trans (N.params j _ (List.getElem?_eq_getElem hj)).1)))
 have hzn:((ps.zip Nt).map (·.1)).Nodup:=(List.map_fst_zip (Nat.le_of_eq hcl.symm)).symm ▸ hpn
 refine codeAny_call_cells (Nat.lt_of_le_of_lt (Nat.le_trans (Nat.le_add_right ..) (Nat.le_add_right ..)) k1) ho rfl (G.nolimit.keeps r.stays) (codeRec_of (G.KX.keeps r.stays) I.code) I.body (I.bind Nt hcl) I.clos (λx hx=>?_) (λf5 x=>?_) I.co I.gen I.kind
 ·exact(List.getElem?_of_mem (List.of_mem_zip (a:=x.1) (b:=x.2) hx).1).elim λk hk=>(N.params k x.1 hk).2.imp (λh=>hsc ▸ h) λh=>⟨hsc ▸ h,cellsFrom_some _ _ _ (.inl (hsc ▸ h))⟩
 obtain⟨M7,tk,rfl,Ck⟩:=x.done
 have Ja:Above s.heap s.heap.objs.size:=.of_le (Nat.le_refl _)
 have hcells:∀y a,(callEnvC fd s.heap.objs.size f).cells.lookup y=some a→Above s.heap a:=λy a e=>.of_le (Nat.le_of_lt (x.above y a (mem_of_lookup e)))
 have Y6:∀{b:Addr},Above s.heap b→Z b=none:=fun {b} hb=>none_of λao e=>(r.3 b ao e).2.shape.elim λob y=>hb.not y.1
 have p1:i0 c Z Z (λ_=>False) s {s with heap:=M7,toks:=tk}:=i0.grow r Ck
 have uZ:∀{y:Str}{i:Nat}{v:V},fs.res.lookup y=some i→Gw vs i=some v→∃cv,(y,cv)∈ps.zip Nt∧Rep M7 v cv:=fun {y i v} h1 h2=>(hvs.get h2).imp λcv e =>
  have hi:i < ps.length:=hlen ▸ (List.getElem?_eq_some_iff.mp h2).1
  have hy:ps[i]=y:=N.inj _ _ i (N.params i _ (List.getElem?_eq_getElem hi)).1 h1
  ⟨List.mem_iff_getElem?.mpr ⟨i,List.getElem?_zip_eq_some.mpr ⟨(List.getElem?_eq_getElem hi).trans (congrArg some hy),e.1⟩⟩,e.2.mono p1.Av⟩
 have E2:Bu c (callEnvC fd s.heap.objs.size f) fs (Gw vs) Z M7:=⟨I.kind,hsc.symm,I.glob,I.blt,Y6 Ja,A7 r Ja,⟨_,x.toInCall.ns,λy i v h1 h2 h3=>(uZ h1 h2).imp λcv e=>⟨(Hg (cm:=λ_=>none) hzn e.1).1 h3,e.2⟩⟩,λy i h1 h2 =>
   have hc:fd.scope.names.lookup y=some .cell:=h2.elim id λh2=>absurd (show fs.sc.lookup y=some .free from hsc.symm ▸ h2) (N.qZ y)
   (Option.isSome_iff_exists.mp (cellsFrom_some fd.scope.names (s.heap.objs.size+1) [] (.inl hc))).imp λa ha=>⟨_,ha,x.cell y a ha,Y6 (hcells y a ha),A7 r (hcells y a ha),λv hv=>(uZ h1 hv).imp λcv e =>
    ⟨(Hg (m:=λ_=>none) hzn e.1).2 λq=>yF (show(callEnvC fd s.heap.objs.size f).kindOf y=_ from hc) q nofun,e.2⟩⟩,λy z a h1 h2=>name_of_addr x.apart (mem_of_lookup h1) (mem_of_lookup h2)⟩
 have fr:(A.deeper (callEnvC fd s.heap.objs.size f)).frames=some (callEnvC fd s.heap.objs.size f::l):=by
  refine(?_:A.frames.map _=_)
  rw[k4]; rfl
 have tC:Ok c n (A.deeper (callEnvC fd s.heap.objs.size f)) Z M7:=⟨Nat.lt_of_le_of_lt (by rw[Nat.mul_succ]; refine(?_:A.depth+1+3 * n+3≤_); omega) k1,Nat.lt_of_le_of_lt (by rw[Nat.mul_succ]; refine(?_:A.units+3+20 * n+200≤_); omega) k2,k3,_,fr,
  List.forall_mem_cons.mpr ⟨⟨λe=>(nomatch (show fd.scope.kind=_ from e).symm.trans I.kind),x.toInCall.ns.elim λo' y=>y.elim λes y=>y.elim λep y=>⟨_,o',rfl,A7 r Ja,Y6 Ja,y.1,es,ep,y.2.1⟩⟩,k5.move (λ_ _ _ h=>h) λb o' e hd=>⟨o',Ck b o' e,hd⟩⟩⟩
 have a1:Ri c n _ fs (A.deeper (callEnvC fd s.heap.objs.size f)) Z s (Gw vs) Z {s with heap:=M7,toks:=tk}:=⟨tC,E2,p1.rel,p1.Qo λ_ h=>h.elim⟩
 have nar:∀{u7:Loc}{a6:a5}{s':Shared},Ri c n _ fs (A.deeper (callEnvC fd s.heap.objs.size f)) Z s u7 a6 s'→i0 c Z a6 (λ_=>False) s s':=λa=>a.post.narrow λb hb=>.inr (hb.elim (λe=>e ▸ Ja) λq=>q.elim λy q=>q.elim λi q=>hcells y b q.2.2)
 refine wpAny_mono (hb _ s.heap.objs.size (Gw vs) Z _ E h _ Z s _ a1 r.1 ⟨rfl,l,fr⟩) (λfl s' q=>?_) λev s' q=>?_
 ·obtain⟨hf,a',q⟩:=q
  revert q
  exact hf.el (λq=>⟨.none,_,nar a',.none,q⟩) (λq=>q.elim) (λq=>q.elim) λcv v r q=>⟨_,_,nar a',r,q⟩
 ·obtain⟨hk,a',hx,he⟩:=q
  exact dW a' r.1 ⟨rfl,l,fr⟩ hk hx λh'' a'' hx''=>⟨_,nar a'',hx'',he⟩
section
variable {c:Cx}{n:Nat}{Z:a5}{Q:V→a5→Prop}{E:a5→Prop}
theorem Ad{f:Value}{x:V}(h:∀A s cx,Ok c n A Z s.heap→Rel c Z s.heap→Rep s.heap x cx→wpAny (model c.prog c.w) A (call f [cx]) (QE c Z s Q) (EE c Z s E) s):i3 c n (.fix f) [x] Z Q E :=
 λA s cf Nt o r hf hvs=>hf.Qm (hvs.E4 λcx t rx rt=>rt.Ld (h A s cx o r rx))
theorem call2{f:Value}{x y:V}(h:∀A s cx cy,Ok c n A Z s.heap→Rel c Z s.heap→Rep s.heap x cx→Rep s.heap y cy→wpAny (model c.prog c.w) A (call f [cx,cy]) (QE c Z s Q) (EE c Z s E) s):i3 c n (.fix f) [x,y] Z Q E :=
 λA s cf Nt o r hf hvs=>hf.Qm (hvs.E4 λcx t rx rt=>rt.E4 λcy t ry rt=>rt.Ld (h A s cx cy o r rx ry))
theorem oM{f:Value}{x y z:V}(h:∀A s cx cy cz,Ok c n A Z s.heap→Rel c Z s.heap→Rep s.heap x cx→Rep s.heap y cy→Rep s.heap z cz→wpAny (model c.prog c.w) A (call f [cx,cy,cz]) (QE c Z s Q) (EE c Z s E) s):i3 c n (.fix f) [x,y,z] Z Q E :=
 λA s cf Nt o r hf hvs=>hf.Qm (hvs.E4 λcx t rx rt=>rt.E4 λcy t ry rt=>rt.E4 λcz t rz rt=>rt.Ld (h A s cx cy cz o r rx ry rz))
theorem w8{l:List V}(hz:l.length≤1000000) (h:Q (.int l.length) Z):i3 c n (.fix (.builtin "len")) [.tup l] Z Q E:=Ad λA s cx o r rx =>
 rx.Ek λa items ta rb=>PyProof.Rows.len_tuple ta.isTuple (Ie (rb.size ▸ hz)) (QE.mk r (.int ..) (rb.size ▸ h))
theorem t7{a:Addr}{l:List V}(hl:Z a=some (.list l)) (hz:l.length≤1000000) (h:Q (.int l.length) Z):i3 c n (.fix (.builtin "len")) [.ref a] Z Q E:=Ad λA s cx o r rx =>
 rx.E3 ((r.3 _ _ hl).2.elim λia x=>x.1.elim λna hia=>call_len_list ⟨_,hia,rfl,na,rfl⟩ (Ie (x.2.size ▸ hz)) (QE.mk r (.int ..) (x.2.size ▸ h)))
theorem aR{x:Str}(hz:x.length≤1000000) (h:Q (.int x.length) Z):i3 c n (.fix (.builtin "len")) [.str x] Z Q E:=Ad λA s cx o r rx =>
 rx.Nq λt=>PySem.P.len_str (Int.not_le.mpr (Ie hz)) (QE.mk r (.int ..) h)
theorem map_len{α β:Type}{f:α→V}{g:β→V}{l:List α}{m:List β}(e:l.map f=m.map g):m.length=l.length:=(List.length_map ..).symm.trans ((congrArg List.length e).symm.trans (List.length_map ..))
theorem V4{a:Addr}{l:List (V×V)}(hl:Z a=some (.dict l)) (hz:l.length≤1000000) (h:Q (.int l.length) Z):i3 c n (.fix (.builtin "len")) [.ref a] Z Q E:=Ad λA s cx o r rx=>by
 have lo:=not_modules r hl
 have go {K:Type}[DecidableEq K]{knd:PySem.KeyKind c.prog c.w K}{kvs:List (K×Value)}(hd:s.heap.DictOf knd a kvs) (e:kvs.length=l.length):wpAny (model c.prog c.w) A (call (.builtin "len") [.ref a]) (QE c Z s Q) (EE c Z s E) s:=call_len_dict lo hd (e ▸ Ie hz) (QE.mk r (.int ..) (e ▸ h))
 refine rx.E3 ?_
 rcases(r.3 _ _ hl).2 with⟨kvs,hd,e1,e2⟩ | ⟨kvs,hd,e1,e2⟩ | ⟨xs,hd,e1,e2⟩
 ·exact go hd (map_len e1)
 ·exact go hd (map_len e1)
 ·obtain⟨ob,es,ep,ho,hx,hdat,hes,_⟩:=hd
  have hT:s.TypeIs (.ref a) "dict":=⟨ob,ho,hx.1⟩
  have hsz:es.size=l.length:=Array.length_toList.symm.trans ((congrArg List.length hes).trans ((List.length_map ..).trans (map_len e1)))
  refine PyProof.Rows.call_len_slot (n:=(l.length:Int)) hT F.slot_dict_len (λQ' hq=>wpAny_call_entry F.slot_dict_len hT F.entry_dict_len ?_ (F.args_dict_len_1 _)) (Int.not_lt.mpr (Int.natCast_nonneg _)) (Int.not_le.mpr (Ie hz)) (QE.mk r (.int ..) h)
  refine(?_:wpAny _ _ (dictSize a >>= _) _ _ s)
  unfold dictSize
  refine wpAny_bind (wpAny_bind (wpAny_dictEntries ho hdat (wpAny_pure ?_)))
  refine(?_:wpAny _ _ (Builtin.Dict.pendingCount a >>= _) _ _ s)
  refine wpAny_bind (wpAny_pendingCount_other lo ?_)
  rw[show((es.size:Int)+((0:Nat):Int))=(l.length:Int) from congrArg Nat.cast hsz]
  exact wpAny_bind (wpAny_mkInt (wpAny_pure ⟨_,rfl,hq⟩))
theorem H9{k:Int}(h:Q (.rng 0 k) Z):i3 c n (.fix (.type "range")) [.int k] Z Q E:=Ad λA s cx o r rx =>
 rx.Z6 λt=>call_range_1 ⟨_,Z,i0.grow r λb o e=>Heap.get?_push_of_some _ e,.rng (IsRange.new ..),h⟩
theorem eA{j k:Int}(h:Q (.rng j k) Z):i3 c n (.fix (.type "range")) [.int j,.int k] Z Q E:=call2 λA s cx cy o r rx ry =>
 rx.Z6 λt=>ry.Z6 λu=>call_range_2 ⟨_,Z,i0.grow r λb o e=>Heap.get?_push_of_some _ e,.rng (IsRange.new ..),h⟩
theorem Cm{a:Addr}{l:List V}(hl:Z a=some (.list l)) (hz:l.length≤1000000) (h:Q (.tup l) Z):i3 c n (.fix (.type "tuple")) [.ref a] Z Q E:=Ad λA s cx o r rx =>
 rx.E3 ((r.3 _ _ hl).2.elim λia x=>x.1.elim λna hia=>call_tuple_list ⟨_,hia,rfl,na,rfl⟩ (λh' k =>
  have k2:∀b o,s.heap.get? b=some o→(h'.push {cls:=.type "tuple",data:=.seq ia}).get? b=some o:=λb o e=>Heap.get?_push_of_some _ (k b o e)
  ⟨.tup l,Z,i0.grow (tk:=s.toks) r k2,.tup ⟨0,Heap.get?_push_size _ rfl⟩ (x.2.mono λb o e _=>k2 b o e),h⟩) (J9 (x.2.size ▸ hz)))
theorem o6{a:Addr}{l:List V}{v:V}(hl:Z a=some (.list l)) (hz:l.length≤1000000) (h:Q .none (j1 Z a (.list (l++[v])))):i3 c n (.fix (.builtin "list.append")) [.ref a,v] Z Q E:=call2 λA s cx cy o r rx ry =>
 rx.E3 ((r.3 _ _ hl).2.elim λia x=>x.1.elim λna hia=>wpAny_list_append_plain ⟨na,hia⟩ (λh' hp hsb=>⟨.none,_,i0.change (o':=.list (l++[v])) (tk:=s.toks) r hl rfl hsb λki =>
  ⟨_,hp,(Array.toList_push (xs:=ia) (x:=cy)).symm ▸ h9.append (.cons (ry.mono ki) .nil) (x.2.mono ki)⟩,.none,h⟩) (J9 (x.2.size ▸ hz)))
theorem eB{a b:Addr}{l m:List V}(hl:Z a=some (.list l)) (hm:Z b=some (.list m)) (hz:l.length+m.length≤1000000) (h:Q .none (j1 Z a (.list (l++m)))):i3 c n (.fix (.builtin "list.extend")) [.ref a,.ref b] Z Q E:=call2 λA s cx cy o r rx ry=>rx.E3 (ry.E3 (by
 obtain⟨ia,⟨na,hia⟩,rb⟩:=(r.3 _ _ hl).2
 obtain⟨ib,⟨nb,hib⟩,rc⟩:=(r.3 _ _ hm).2
 have hs:ia.size+ib.size≤sizeLine:=J9 (rb.size ▸ rc.size ▸ hz)
 refine call_meets F.slot_list_extend ⟨_,hia,rfl⟩ F.entry_list_extend (F.args_list_extend_2 _ _) (AutoSeq1.list_extend_list_list_0 a ia na b ib nb (λe=>Nat.not_lt.mpr hs (of_decide_eq_true (Bool.and_eq_true_iff.mp e).2)) (Nat.le_trans (Nat.le_add_right ..) hs) (Nat.le_succ_of_le hs)) ⟨hia,hib,?_⟩
 exact⟨.none,_,i0.change (o':=.list (l++m)) (tk:=s.toks) r hl rfl (Heap.SameBut.update ..) λki=>⟨_,⟨_,PySem.IsL.update (n:=na) hia (·++ib)⟩,(Array.toList_append (xs:=ia) (ys:=ib)).symm ▸ h9.append (rc.mono ki) (rb.mono ki)⟩,.none,h⟩))
theorem h9.Md{h:Heap}{v:V}:∀{l:List V}{cs:List Value},h9 h (l++[v]) cs→∃ds cv,cs=ds++[cv]∧h9 h l ds∧Rep h v cv
 | [],cs,r=>r.one.imp' (λ_=>[]) λcv q=>⟨cv,q.1,.nil,q.2⟩
 | x::l,_,r=>r.E4 λc r a b=>(h9.Md b).imp' (List.cons c) λds q=>q.imp λcv q=>⟨congrArg (List.cons c) q.1,.cons a q.2.1,q.2.2⟩
theorem eF{a:Addr}{l:List V}{v:V}(hl:Z a=some (.list (l++[v]))) (hz:l.length < 1000000) (h:Q v (j1 Z a (.list l))):i3 c n (.fix (.builtin "list.pop")) [.ref a] Z Q E:=Ad λA s cx o r rx=>rx.E3 (by
 obtain⟨⟨li⟩,⟨na,hia⟩,rb⟩:=(r.3 _ _ hl).2
 obtain⟨ds,cv,rfl,r1,r2⟩:=h9.Md rb
 have hsz:(ds++[cv]).length=ds.length+1:=List.length_append
 have hi:(ds++[cv]).length - 1=ds.length:=congrArg (· - 1) hsz
 have hy:(ds++[cv]).toArray[(ds++[cv]).length - 1]?=some cv:=by rw[hi,List.getElem?_toArray]; exact List.getElem?_concat_length
 refine call_meets F.slot_list_pop ⟨_,hia,rfl⟩ F.entry_list_pop (F.args_list_pop_1 _) (MeetsSeq.list_pop_last a _ na cv hy (J9 (Nat.le_trans (Nat.le_of_eq hsz) (r1.length ▸ hz)))) ⟨hia,?_⟩
 have go (ki:u6 s.heap (s.heap.update a (Obj.mapSeq λxs=>xs.eraseIdxIfInBounds ((ds++[cv]).toArray.size - 1)))):h9 (s.heap.update a (Obj.mapSeq λxs=>xs.eraseIdxIfInBounds ((ds++[cv]).toArray.size - 1))) l ((ds++[cv]).toArray.eraseIdxIfInBounds ((ds++[cv]).toArray.size - 1)).toList:=by
  have:((ds++[cv]).toArray.eraseIdxIfInBounds ((ds++[cv]).toArray.size - 1)).toList=ds:=by
   simp[Array.eraseIdxIfInBounds,List.eraseIdx_append_of_length_le]
  rw[this]; exact r1.mono ki
 have p:=i0.change (F:=λ_=>False) (o':=.list l) (tk:=s.toks) r hl rfl (Heap.SameBut.update ..) λki=>⟨_,⟨_,PySem.IsL.update (n:=na) hia λxs=>xs.eraseIdxIfInBounds _⟩,go ki⟩
 exact⟨v,_,p,r2.mono p.Av,h⟩)
theorem Rk{h:Heap}{o:Option V}{p:Option Value}{d:V}{cd:Value}(g:o.isSome=p.isSome∧∀v,o=some v→∃b,p=some b∧Rep h v b) (rd:Rep h d cd):Rep h (o.getD d) (p.getD cd):=by
 cases o with
 | none=>rw[none_of λb e=>Bool.false_ne_true (g.1.trans (congrArg Option.isSome e))]; exact rd
 | some v=>exact(g.2 v rfl).elim λb q=>q.1 ▸ q.2
section
variable {A:Around}{s:Shared}{d:V}{cd:Value}
theorem Xv{K:Type}[DecidableEq K]{knd:PySem.KeyKind c.prog c.w K}{k:K}{ck:Value}{a:Addr}{kvs:List (K×Value)}{x:Option V}(r:Rel c Z s.heap) (lo:(a == sysModules)=false) (ki:knd.is k ck=true) (hd:s.heap.DictOf knd a kvs)
  (g:x.isSome=(valueAt kvs k).isSome∧∀v,x=some v→∃b,valueAt kvs k=some b∧Rep s.heap v b) (rd:Rep s.heap d cd) (h:Q (x.getD d) Z):wpAny (model c.prog c.w) A (call (.builtin "dict.get") [.ref a,ck,cd]) (QE c Z s Q) (EE c Z s E) s :=
 call_meetsIn F.slot_dict_get hd.typeIs F.entry_dict_get (F.args_dict_get_3 _ _ _) (meets_dict_get_default knd (k:=k) a ki lo cd) ⟨_,hd.mapOf,QE.mk r (Rk g rd) h⟩
end
theorem oN{a:Addr}{l:List (V×V)}{k d:V}(hl:Z a=some (.dict l)) (hk:H6 k l) (h:Q ((E7 l k).getD d) Z):i3 c n (.fix (.builtin "dict.get")) [.ref a,k,d] Z Q E:=oM λA s ca ck cd o r ra rk yH=>by
 have lo:=not_modules r hl
 refine ra.E3 (Nx (P:=λck=>wpAny (model c.prog c.w) A (call (.builtin "dict.get") [.ref a,ck,cd]) (QE c Z s Q) (EE c Z s E) s) rk (r.3 _ _ hl).2 hk (λfi e ki hd e1 e2 _=>Xv r lo ki hd (e ▸ K0 (g:=id) fi e1 e2) yH h) fun {b xs} ki hd e1 e2=>?_)
 have g:=K0 (f:=id) (g:=λp:Addr×Value=>p.2) (k:=k) (λ_ _=>id) e1 e2
 have hu:A.units+1+9 < cLine:=Nat.lt_of_le_of_lt (by omega) o.2.1
 exact call_meetsIn F.slot_dict_get hd.typeIs F.entry_dict_get (F.args_dict_get_3 _ _ _) (meetsH_dict_get_default (J8 c.prog c.w) a _ lo cd) ⟨hu,_,_,ki,hd,QE.mk r (Rk ⟨g.1.trans Option.isSome_map.symm,λv e=>(g.2 v e).elim λb q=>⟨_,congrArg (Option.map _) q.1,q.2⟩⟩ yH) h⟩
theorem aS{a:Addr}{kvs:List (Int×V)}{k:Int}{d:V}(ht:Ul c a kvs) (h:Q (((kvs.find? λp=>decide (p.1=k)).map (·.2)).getD d) Z):i3 c n (.fix (.builtin "dict.get")) [.fix (.ref a),.int k,d] Z Q E:=oM λA s ca ck cd o r ra rk yH=>ra.Qm (rk.Z6 λt=>by
 obtain⟨lo,l,hd,e1,e2⟩:=Nw r ht
 have f1:(kvs.map λp=>(V.int p.1,p.2)).map (·.1)=l.map (λq=>V.int q.1):=by
  have:=congrArg (List.map V.int) e1
  rw[List.map_map,List.map_map] at this
  rw[List.map_map]; exact this
 have f2:(kvs.map λp=>(V.int p.1,p.2)).map (·.2)=kvs.map (·.2):=List.map_map
 have f3:E7 (kvs.map λp=>(V.int p.1,p.2)) (.int k)=(kvs.find? λp=>decide (p.1=k)).map (·.2):=by
  unfold E7
  rw[List.find?_map,Option.map_map]
  exact congrArg (λp=>(kvs.find? p).map Prod.snd) (funext λp=>(y4 (decide_eq_true_iff.trans ⟨congrArg V.int,V.int.inj⟩):decide (p.1=k)=decide (V.int p.1=V.int k)).symm)
 exact Xv r lo (intKind_is _ _ _ _) hd (f3 ▸ K0 (g:=id) Qq f1 (f2 ▸ e2)) yH h)
end
theorem call_cls{c:Cx}{n:Nat}{Z:a5}{Q:V→a5→Prop}{E:a5→Prop}(G:Good c){C fI:Addr}{vs:List V}(hm:makesIn c.K C=true) (hi:findIn c.K (.ref C) "__init__"=some (some (.ref fI))) (hf:typeIn c.K (.ref fI)=some (.type "function"))
  (h:∀x dx,Z x=none→Z dx=none→x≠dx→Mc c n (.fix (.ref fI)) (.ref x::vs) (j1 (j1 Z dx (.ns [])) x (.inst C dx)) (λv a6=>v=.none∧Q (.ref x) a6) E):Mc c (n+1) (.fix (.ref C)) vs Z Q E:=λA s cf Nt o r hf' hvs=>by
 obtain rfl:cf=.ref C:=hf'
 have X:c.K.In s.heap:=G.KX.keeps r.stays
 obtain⟨hh,g,d,t,os⟩:=s
 refine make_core (makes_of X hm) (looks_findIn X hi) (λself=>bind_fn X self hf) (.inl rfl) ?_
 have q1:=i0.new (F:=λ_=>False) (s:=⟨hh,g,d,t,os⟩) (tk:=t) (o:=.ns []) (h':=hh.push emptyDict) r F2 (λb o e=>Heap.get?_push_of_some _ e) (Nat.le_refl _) ⟨[],0,Heap.get?_push_size _ rfl,.nil⟩
 have hne:hh.objs.size+1≠hh.objs.size:=Nat.succ_ne_self _
 have e0:(hh.push emptyDict).objs.size=hh.objs.size+1:=Heap.size_push ..
 have q2:=i0.new (F:=λ_=>False) (s:=⟨hh.push emptyDict,g,d,t,os⟩) (tk:=t) (o:=.inst C hh.objs.size) (h':=(hh.push emptyDict).push (instObj C hh.objs.size)) q1.1.rel F2 (λb o e=>Heap.get?_push_of_some _ e)
  (a:=hh.objs.size+1) (Nat.le_of_eq e0) (e0 ▸ Heap.get?_push_size _ rfl)
 have p:=q1.1.trans q2.1
 obtain⟨k1,k2,k3,l,k4,k5⟩:=o.post p
 have ok2:Ok c n (A.under (.builtin "type.__call__" ⟨.ref C::Nt,[]⟩)) (j1 (j1 Z hh.objs.size (.ns [])) (hh.objs.size+1) (.inst C hh.objs.size)) ((hh.push emptyDict).push (instObj C hh.objs.size)) :=
  ⟨Nat.lt_of_le_of_lt (by rw[Nat.mul_succ]; refine(?_:A.depth+1+3 * n+3≤_); omega) k1,Nat.lt_of_le_of_lt (by rw[Nat.mul_succ]; refine(?_:A.units+1+20 * n+200≤_); omega) k2,k3,l,(by
   rw[←k4]; unfold Around.under; dsimp only[Code.envs,Code.isFrame]; cases A.frames<;>rfl),k5⟩
 refine codeAny_mono (h (hh.objs.size+1) hh.objs.size ((i8 hne).symm.trans q2.2) q1.2 hne _ _ (.ref fI) (.ref (hh.objs.size+1)::Nt) ok2 p.rel (.fix _) (.cons (.ref _) (hvs.mono p.Av))) λres s' hr=>?_
 match res,hr with
 | .error e,hr=>exact hr.trans p
 | .ok (.ret v),hr =>
  obtain⟨v',a6,p',rv,rfl,hq⟩:=hr
  exact⟨rv,.ref _,a6,p.trans p',.ref _,hq⟩
 | .ok .next,hr=>exact hr.elim
 | .ok .cont,hr=>exact hr.elim
 | .ok .brk,hr=>exact hr.elim
end Mine
end
section
open PySem PySem.W PyProof.Rows PySem.Calls
set_option Elab.async false
set_option genSizeOf false
set_option genInjectivity false
set_option maxRecDepth 100000
namespace Mine
open Classical
section
variable {h:Heap}{g:Array GenState}{d:Drawn}{t:Nat}{os:OsState}
variable {nm q:Str}{C N:Addr}{bs bm bmB:List Value}{hdct:Bool}{sn:List Str}{sub:List Value}{ab:Bool}{col:Option Bool}{dd:Option Addr}{k0 k1 k2 k3 k5:Option Value}{B newId initId:String}
theorem V5{M:Model}{A:Around}{E:Value→Shared→Prop}{α:Type}{m:Sem α}{v:α}{Q:α→Shared→Prop}(l:Looks M h m v) (q:Q v ⟨h,g,d,t,os⟩):wpAny M A m Q E ⟨h,g,d,t,os⟩:=l.at q
theorem Rl{M:Model}{A:Around}{E:Value→Shared→Prop}(F:ExcBaseFacts B newId initId bmB) (hB:bm.contains (.type B)=true){rest:List Value}{Q:Unit→Shared→Prop}
  (hC:h.get? C=some (excClassObj nm q C N bs bm hdct sn sub ab col dd k0 k1 k2 k3 k5 newId)) (hq:Q () ⟨h,g,d,t,os⟩):wpAny M A (checkBuiltinCall newId ⟨.ref C::rest,[]⟩) Q E ⟨h,g,d,t,os⟩:=by
 have hc:(Value.ref C::bm).contains (.type B)=true:=by rw[List.contains_cons,hB,Bool.or_true]
 have hs:=F.noStar
 simp only[checkBuiltinCall,F.newKind,F.newSplit,F.newRow]
 repeat (first | refine wpAny_loadPart_at hC ?_ | (refine wpAny_isSubtype_exc hC ?_; rw[hc]) | refine wpAny_staticBase_exc hC ?_ | refine wpAny_madeBy_exc hC ?_ | simp only[bne_self_eq_false,Bool.false_eq_true,if_false] | wp_step)
 exact hq
theorem vA{prog:Program}{w:World}{A:Around}{R:Result→Shared→Prop}(F:ExcBaseFacts B newId initId bmB) (hB:bm.contains (.type B)=true) (hA:bm.contains (.type "AttributeError")=false) (hN:bm.contains (.type "NameError")=false){rest:List Value}
  (hC:h.get? C=some (excClassObj nm q C N bs bm hdct sn sub ab col dd k0 k1 k2 k3 k5 newId)) (hz:rest.length≤sizeLine)
  (hq:R (.ok (.ret (.ref (h.objs.size+1)))) ⟨(h.push {cls:=.type "tuple",data:=.seq rest.toArray}).push {cls:=.ref C,data:=.fields #[.ref h.objs.size,.none,.none,.none,.bool false,.none]},g,d,t,os⟩) :
  codeAny (model prog w) A (.builtin newId ⟨.ref C::rest,[]⟩) R ⟨h,g,d,t,os⟩:=by
 have he:=F.ends
 have c1:(Value.ref C::bm).contains (.type B)=true:=by rw[List.contains_cons,hB,Bool.or_true]
 have c2:(Value.ref C::bm).contains (.type "AttributeError")=false:=by rw[List.contains_cons,hA]; rfl
 have c3:(Value.ref C::bm).contains (.type "NameError")=false:=by rw[List.contains_cons,hN]; rfl
 have hrest:rest.length≤sizeLine:=hz
 refine codeAny_builtinAt F.entry ?_
 unfold Builtin.«BaseException.__new__»
 refine PySem.wpAt_bind ?_
 show PySem.wpAt _ _ _ (stack >>= _) _ _ _
 refine PySem.wpAt_bind (PySem.wpAt_stack λp below=>PySem.wpAt_of_wpAny ?_)
 wp_walk
 refine PySem.wpAt_of_wpAny ?_
 rw[F.owner]
 repeat (first | with_reducible refine wpAny_madeHere_exc F.canon hC ?_ | with_reducible refine wpAny_loadPart_at hC ?_ | (with_reducible refine wpAny_isSubtype_exc hC ?_; first | rw[c1] | rw[c2] | rw[c3]) | wp_step)
 show R _ _
 rw[Heap.size_push]
 exact hq
end
section
variable {h:Heap}{g:Array GenState}{d:Drawn}{t:Nat}{os:OsState}
variable {nm q:Str}{C N:Addr}{bs bm bmB:List Value}{hdct:Bool}{sn:List Str}{sub:List Value}{ab:Bool}{col:Option Bool}{dd:Option Addr}{k0 k1 k2 k3 k5:Option Value}{B newId initId:String}
theorem x_call{prog:Program}{w:World}{A:Around}{E:Value→Shared→Prop}(F:ExcBaseFacts B newId initId bmB) (hB:bm.contains (.type B)=true) (hA:bm.contains (.type "AttributeError")=false) (hN:bm.contains (.type "NameError")=false){rest:List Value}
  (hC:h.get? C=some (excClassObj nm q C N bs bm hdct sn sub ab col dd k0 k1 k2 k3 k5 newId)) (hz:rest.length≤sizeLine){K:Frag}(X:K.In h){fI:Addr}(hi:findIn K (.ref C) "__init__"=some (some (.ref fI))) (hf:typeIn K (.ref fI)=some (.type "function"))
  {Q:Value→Shared→Prop}
  (hq:codeAny (model prog w) ((A.under (.builtin "type.__call__" ⟨.ref C::rest,[]⟩)) ) (.call (.ref fI) ⟨.ref (h.objs.size+1)::rest,[]⟩) (λr s'=>match r with | .ok (.ret v)=>v=.none∧Q (.ref (h.objs.size+1)) s' | .ok _=>False | .error e=>E e s')
   ⟨(h.push {cls:=.type "tuple",data:=.seq rest.toArray}).push {cls:=.ref C,data:=.fields #[.ref h.objs.size,.none,.none,.none,.bool false,.none]},g,d,t,os⟩) :
  wpAny (model prog w) A (call (.ref C) rest) Q E ⟨h,g,d,t,os⟩:=by
 have f1:=tc_lookup
 have f2:=tc_bind (.ref C)
 have hT:(⟨h,g,d,t,os⟩:Shared).TypeIs (.ref C) "type":=⟨_,hC,rfl⟩
 refine wpAny_call (codeAny_of_tree ?_)
 show wpAny _ _ (callAny (.ref C) _) _ _ _
 repeat (any_goals (first | assumption | with_reducible refine wpAny_loadPart_at hC ?_ | wp_step))
 refine⟨rfl,?_⟩
 refine codeAny_call_builtin_at (Code.quiet_builtin _ (by decide +kernel)) entry_typeCall (wpAny_check_type_call_sub hC ?_)
 repeat (first | with_reducible refine wpAny_loadPart_at hC ?_ | with_reducible refine wpAny_madeBy_exc hC ?_ | wp_step)
 refine codeAny_call_builtin_code (Code.quiet_builtin _ F.quiet) (Rl F hB hC ?_)
 refine vA F hB hA hN hC hz ?_
 show wpAny _ _ _ _ _ _
 have k:∀b o,h.get? b=some o→((h.push {cls:=.type "tuple",data:=.seq rest.toArray}).push {cls:=.ref C,data:=.fields #[.ref h.objs.size,.none,.none,.none,.bool false,.none]}).get? b=some o:=λb o e=>Heap.get?_push_of_some _ (Heap.get?_push_of_some _ e)
 have oO:=k _ _ hC
 have vB:=X.keeps k
 have hget:((h.push {cls:=.type "tuple",data:=.seq rest.toArray}).push {cls:=.ref C,data:=.fields #[.ref h.objs.size,.none,.none,.none,.bool false,.none]}).get? (h.objs.size+1)=some
   {cls:=.ref C,data:=.fields #[.ref h.objs.size,.none,.none,.none,.bool false,.none]}:=by heap_get
 have hcC:(Value.ref C::bm).contains (.ref C)=true:=by simp
 unfold isInstance
 repeat (first | with_reducible refine wpAny_loadPart_at hget ?_ | (with_reducible refine wpAny_isSubtype_exc oO ?_; rw[hcC]) | wp_step)
 refine wpAny_isSubtype_exc oO ?_
 rw[hcC]
 simp only[Bool.not_true,Bool.false_eq_true,if_false]
 refine wpAny_bind (wpAny_holding ?_)
 have t1:Looks (model prog w) ((h.push {cls:=.type "tuple",data:=.seq rest.toArray}).push {cls:=.ref C,data:=.fields #[.ref h.objs.size,.none,.none,.none,.bool false,.none]}) (typeOf (.ref (h.objs.size+1))) (.ref C):=(Looks.ld hget).andThen .now
 unfold callSpecial? specialOf
 refine wpAny_bind (wpAny_bind (t1.at (V5 (looks_findIn vB hi) (wpAny_holding (wpAny_bind (V5 (bind_fn vB _ hf) (wpAny_bind (wpAny_call ?_))))))))
 refine codeAny_mono hq λr s' hr=>?_
 cases r with
 | error e=>exact hr
 | ok fl =>
  cases fl with
  | ret v =>
   obtain⟨rfl,hr⟩:=hr
   exact wpAny_pure (wpAny_pure hr)
  | _=>exact hr.elim
end
end Mine
end
section
open PySem PySem.W PyProof.Rows PySem.Calls Builtin Builtin.ObjectAttr
set_option Elab.async false
set_option genSizeOf false
set_option genInjectivity false
set_option maxRecDepth 100000
namespace Mine
open Classical
structure lE(K:Frag) (C P:Addr) (cd:ClassData):Prop where
 at_:∃oc od sl,K.lookup C=some ⟨oc,od,.cls cd,sl⟩
 mro:cd.mro=[.ref C,.ref P,.type "Exception",.type "BaseException",.type "object"]
 hasDict:cd.hasDict=true
 set:findIn K (.ref C) "__setattr__"=some (some (.builtin "object.__setattr__"))
theorem lE.cls{K:Frag}{C P:Addr}{cd:ClassData}(x:lE K C P cd):clsIn K C=some cd:=by
 obtain⟨oc,od,sl,e⟩:=x.at_
 unfold clsIn; rw[e]
theorem rA{C P:Addr}(self:Value):refuseLoop self "__setattr__" [.ref C,.ref P,.type "Exception",.type "BaseException",.type "object"]=pure ():=by
 rw[refuseLoop_ref,refuseLoop_ref]
 exact F.store_Exception.passes self
noncomputable def rB(h:Heap) (x C:Addr) (vs:Array Value) (dd:Option Addr) (es:List DictEntry) (n:Nat):Prop :=
 h.get? x=some {cls:=.ref C,dict:=dd,data:=.fields vs}∧(∀d,dd=some d→d≠x∧h.get? d=some (dictOf es n))∧(dd=none→es=[])
theorem Fw{name:Str}{hsh:Int}{t:Tok}{v:Value}:∀{es:List DictEntry},es.any (·.refKey)=false→(putL name hsh (.str name t) v es).any (·.refKey)=false
 | [],_=>rfl
 | e::r,h=>by
  have h':=Bool.or_eq_false_iff.mp h
  unfold putL
  by_cases q:e.key.isStr name=true
  ·rw[if_pos q]; exact Bool.or_eq_false_iff.mpr ⟨h'.1,h'.2⟩
  ·rw[if_neg q]; exact Bool.or_eq_false_iff.mpr ⟨h'.1,Fw h'.2⟩
section
variable {prog:Program}{w:World}{A:Around}{E:Value→Shared→Prop}{s:Shared}{K:Frag}{C P x:Addr}{cd:ClassData}
theorem oP{R:Unit→Shared→Prop}{vs:Array Value}{dd:Option Addr}{es:List DictEntry}{n:Nat}{name:Str}{v:Value}(Y:lE K C P cd) (X:K.In s.heap) (hx:rB s.heap x C vs dd es n) (ht:takerIn K C name=some none)
  (hz:es.length≤100) (hr:es.any (·.refKey)=false)
  (h:∀h' tk d es' n',rB h' x C vs (some d) es' n'→es'.length≤es.length+1→es'.any (·.refKey)=false→(dd=some d∨s.heap.get? d=none)→(∀b o,b≠x→b≠d→s.heap.get? b=some o→h'.get? b=some o)→R () {s with heap:=h',toks:=tk}) :
  wpAny (model prog w) A (setAttr (.ref x) name v) R E s:=by
 obtain⟨hat,hdd,hnil⟩:=hx
 have I:InstAt s.heap x {cls:=.ref C,dict:=dd,data:=.fields vs} C (dd.map λ_=>dictOf es n):=⟨hat,rfl,rfl,by
  cases dd with
  | none=>trivial
  | some d=>exact(hdd d rfl).2⟩
 refine set_plain X I Y.set ?_
 have SF:=PySem.F.store_object
 have X':K.In ({s with toks:=s.toks+1}:Shared).heap:=X
 have hc:=Y.cls
 have ne:cd.mro.isEmpty=false:=by rw[Y.mro]; rfl
 have sub:Looks (model prog w) s.heap (isInstance (.ref x) (.type "object")) true:=I.type.andThen (looks_mroIn X (by unfold mroIn; rw[hc,Option.bind_some,if_neg (by rw[ne]; exact Bool.false_ne_true),Y.mro]; rfl))
 refine codeAny_call_builtin SF.slot.plain SF.entry (@check_slot (model prog w) _ _ {s with toks:=s.toks+1} "object.__setattr__" "object" "__setattr__" (.ref x) [.str name s.toks,v] [] _ SF.kind SF.split sub (SF.args (.ref x) (.str name s.toks) v) ?_)
 obtain⟨attr,ha,hr'⟩:=Option.bind_eq_some_iff.mp ht
 have hm:Looks (model prog w) ({s with toks:=s.toks+1}:Shared).heap (mroOf (.ref C)) cd.mro:=(looks_clsIn X' hc).andThen .now
 have L3:Looks (model prog w) ({s with toks:=s.toks+1}:Shared).heap (storeTaker? attr) none:=by
  cases attr with
  | none=>exact .now
  | some a =>
   obtain⟨b,hb,hb2⟩:=Option.map_eq_some_iff.mp hr'
   refine(looks_takesIn X' hb).andThen ?_
   cases b
   ·exact .now
   ·cases hb2
 rw[osa_eq,refuse_eq]
 have I':Looks (model prog w) ({s with toks:=s.toks+1}:Shared).heap (typeOf (.ref x)) (.ref C):=I.type
 refine wpAny_bind (wpAny_bind (I'.here (wpAny_bind (hm.here ?_))))
 rw[Y.mro,rA]
 refine wpAny_pure (wpAny_bind (I'.here (wpAny_bind ((looks_findIn X' ha).here (wpAny_bind (L3.here ?_))))))
 refine wpAny_bind (wpAny_pure (wpAny_bind (wpAny_bind (wpAny_loadPart hat (wpAny_bind ((looks_clsIn X' hc).here ?_))))))
 rw[Y.hasDict]
 have store:∀{B:Around}{f5:Shared}{d:Addr}{n:Nat},f5.heap.get? d=some (dictOf es n)→d≠x→f5.heap.get? x=some {cls:=.ref C,dict:=some d,data:=.fields vs} →
   (∀b o,b≠x→b≠d→s.heap.get? b=some o→f5.heap.get? b=some o)→(dd=some d∨s.heap.get? d=none)→(∃hh tt,f5={s with heap:=hh,toks:=tt}) →
   wpAny (model prog w) B (storeInDict d (.str name s.toks) name v) (λfin s'=>match fin with | .done f=>(match (Except.ok f:Result) with | .ok (.ret _)=>R () s' | .ok _=>False | .error e=>E e s') | .again c'=>c'.quiet=true∧codeAny (model prog w) A c' (λr s'=>match r with | .ok (.ret _)=>R () s' | .ok _=>False | .error e=>E e s') s') (λe s'=>E e s') f5:=fun {B f5 d n} D hne hx1 keep hd heq=>by
  obtain⟨hh,tt,rfl⟩:=heq
  unfold storeInDict newKeyGuard
  refine wpAny_bind (wpAny_pure (wpAny_bind ?_))
  unfold nsSet
  refine wpAny_bind (wpAny_bind (wpAny_askSetting (wpAny_pure (wpAny_bind (wpAny_mkText (wpAny_bind (wpAny_loadPart D ?_)))))))
  dsimp only[dictOf]
  have c0:(!es.toArray.any (·.key.isStr name) && es.toArray.any (·.refKey))=false:=by
   rw[List.any_toArray,List.any_toArray,hr,Bool.and_false]
  rw[aRefKeyMayBeTheName_at,c0]
  refine wpAny_updatePart D ?_
  have D':=Heap.get?_update_self (Obj.putName name (PyData.keyHash w.params name) (.str name tt) v) D (by rw[putName_dict]; rfl)
  rw[putName_dict] at D'
  have hl:=V2 (name:=name) (hsh:=PyData.keyHash w.params name) (key:=.str name tt) (v:=v) (es:=es)
  refine wpAny_bind (wpAny_lookBehind D' (pastItsLine_dict (by rw[List.size_toArray]; exact Nat.le_succ_of_le (E8 (Nat.le_trans hl (Nat.le_trans (Nat.succ_le_succ hz) (by decide)))))) ?_)
  refine wpAny_pure (h _ _ d _ _ ⟨(Heap.get?_update_other _ _ hne).trans hx1,λd' e=>by cases e; exact⟨hne,D'⟩,λe=>by cases e⟩ hl ?_ hd λb o h1 h2 e=>(Heap.get?_update_other _ _ (Ne.symm h2)).trans (keep b o h1 h2 e))
  exact Fw hr
 cases dd with
 | some d =>
  obtain⟨hne,D⟩:=hdd d rfl
  refine wpAny_pure (a:=some d) ?_
  exact store D hne hat (λb o _ _ e=>e) (.inl rfl) ⟨_,_,rfl⟩
 | none =>
  have:=hnil rfl
  subst this
  have hlt:x≠s.heap.objs.size:=Nat.ne_of_lt (Heap.lt_size hat)
  refine wpAny_bind (wpAny_alloc ?_)
  have hx1:(s.heap.push {cls:=.type "dict",data:=.dict #[]}).get? x=some {cls:=.ref C,dict:=none,data:=.fields vs}:=Heap.get?_push_of_some _ hat
  refine wpAny_bind (wpAny_update hx1 ?_)
  have hd0:(s.heap.push {cls:=.type "dict",data:=.dict #[]}).get? s.heap.objs.size=some {cls:=.type "dict",data:=.dict #[]}:=Heap.get?_push_size _ rfl
  refine wpAny_pure ?_
  refine store (n:=0) ((Heap.get?_update_other _ _ hlt).trans hd0) (Ne.symm hlt) (Heap.get?_update_self _ hx1 rfl) (λb o h1 h2 e=>(Heap.get?_update_other _ _ (Ne.symm h1)).trans (Heap.get?_push_of_some _ e)) (.inr (Above.of_le (Nat.le_refl _))) ⟨_,_,rfl⟩
end
end Mine
end
section
open PySem PySem.W PyProof.Rows PySem.Calls
set_option Elab.async false
set_option genSizeOf false
set_option genInjectivity false
set_option maxRecDepth 100000
namespace Mine
open Classical
abbrev tJ:List Str:=["self", "code", "at"]
structure Q4(c:Cx) (P fI:Addr) (cd:ClassData) (fd:FuncData):Prop where
 cls:lE c.K c.i4 P cd
 obj:∃nm q N bs hdct sn sub ab col dd k0 k1 k2 k3 k5,c.K.lookup c.i4=some (excClassObj nm q c.i4 N bs [.ref P,.type "Exception",.type "BaseException",.type "object"] hdct sn sub ab col dd k0 k1 k2 k3 k5 "Exception.__new__")
 init:findIn c.K (.ref c.i4) "__init__"=some (some (.ref fI))
 typ:typeIn c.K (.ref fI)=some (.type "function")
 fn:∃p1 p2 p3 p4 p5 p6 p7 p8,uY c fI fd tJ [.Assign [.Attribute (.Name "self" p1) "code" p2] (.Name "code" p3) p4,.Assign [.Attribute (.Name "self" p5) "at" p6] (.Name "at" p7) p8]
 loc:∀z∈tJ,fd.scope.names.lookup z=some .local
 t1:takerIn c.K c.i4 "code"=some none
 t2:takerIn c.K c.i4 "at"=some none
theorem rC{c:Cx}{A:Around}{s:Shared}{P fI:Addr}{cd:ClassData}{fd:FuncData}(G:Good c) (Y:Q4 c P fI cd fd){x:Addr}{vs:Array Value}{v1 v2:Value}{R:Result→Shared→Prop}(r:c.base.StaysIn s.heap) (hx:rB s.heap x c.i4 vs none [] 0) (hxb:c.base.get? x=none) (a0n:A.depth < recursionLimit)
  (h:∀h' tk d,h'.get? x=some {cls:=.ref c.i4,dict:=some d,data:=.fields vs}→(∀b o,b≠x→s.heap.get? b=some o→h'.get? b=some o)→R (.ok (.ret .none)) {s with heap:=h',toks:=tk}) :
  codeAny (model c.prog c.w) A (.call (.ref fI) ⟨[.ref x,v1,v2],[]⟩) R s:=by
 obtain⟨p1,p2,p3,p4,p5,p6,p7,p8,I⟩:=Y.fn
 obtain⟨oc,od,osl,hat⟩:=I.at_
 have X:=G.KX.keeps r
 refine codeAny_call_cells a0n (X _ _ hat) rfl (G.nolimit.keeps r) (codeRec_of X I.code) I.body (I.bind [.ref x,v1,v2] rfl) I.clos (λy hy=>.inl (Y.loc _ (List.of_mem_zip (a:=y.1) (b:=y.2) hy).1)) (λf5 y=>?_) I.co I.gen I.kind
 obtain⟨M7,tk,rfl,Ck⟩:=y.done
 have nd:((tJ.zip [.ref x,v1,v2]).map (·.1)).Nodup:=(by decide:tJ.Nodup)
 have name {z:Str}{pz:Pos}{v:Value}{j2:Shared}{Q:Value→Shared→Prop}{E':Value→Shared→Prop}{B:Around}(hz:(z,v)∈tJ.zip [.ref x,v1,v2]) (hd:(z == ("__debug__":Str))=false)
   (hn:j2.heap.Ns s.heap.objs.size (bindL (callEnvC fd s.heap.objs.size fI).kindOf (tJ.zip [.ref x,v1,v2]) λ_=>none)) (q:Q v j2):wpAny (model c.prog c.w) B (eval (.Name z pz) (callEnvC fd s.heap.objs.size fI)) Q E' j2 :=
  have hk:=Y.loc z (List.of_mem_zip hz).1
  wpAny_Name (wpAny_loadName_local I.kind hk hn ((Hg (cm:=λ_=>none) nd hz).1 hk) q) hd
 have hns:=y.toInCall.ns
 have ne {b d:Addr}{h:Heap}{o:Obj}(e:h.get? b=some o) (q:h.get? d=none):b≠d:=λz=>g9 (j3 e) (z ▸ q)
 refine wpAny_execs_cons (plainObj_wpAny_Assign_Attribute (name (.tail _ (.head _)) (by decide) hns (name (.head _) (by decide) hns ?_)) rfl)
 refine oP Y.cls (X.keeps Ck) (dd:=none) (es:=[]) (n:=0) ⟨Ck _ _ hx.1,nofun,λ_=>rfl⟩ Y.t1 (Nat.zero_le _) rfl λCd a3k d es n' eH vC vD vE eI=>?_
 have hdn:M7.get? d=none:=vE.elim nofun id
 have eJ:Cd.Ns s.heap.objs.size _:=hns.imp λo e=>e.imp λes e=>e.imp λep e=>⟨eI _ _ (λz=>absurd (show Data.fields vs=Data.dict es ep from(congrArg Obj.data (Option.some.inj ((Ck _ _ hx.1).symm.trans ((congrArg M7.get? z).symm.trans e.1)))).trans e.2.1) nofun) (ne e.1 hdn) e.1,e.2⟩
 have a0o:c.K.In Cd:=λa o e=>eI a o (ne (G.KX a o e) hxb) (ne (X.keeps Ck a o e) hdn) (X.keeps Ck a o e)
 refine wpAny_execs_cons (plainObj_wpAny_Assign_Attribute (name (.tail _ (.tail _ (.head _))) (by decide) eJ (name (.head _) (by decide) eJ ?_)) rfl)
 exact oP Y.cls a0o eH Y.t2 (Nat.le_trans vC (by decide)) vD λUv vF a0p a3l a5q Xw a3m a3n vG vH=>wpAny_execs_nil (h Uv vF a0p Xw.1 λb o hb e =>
  have e1:=Ck b o e
  have e2:=eI b o hb (ne e1 hdn) e1
  vH b o hb (vG.elim (λhd=>Option.some.inj hd ▸ ne e1 hdn) λhd=>ne e2 hd) e2)
theorem x_raise{M:Model}{A:Around}{E:Value→Shared→Prop}{env:Env}{s:Shared}{nm q:Str}{C N:Addr}{bs bm:List Value}{hdct:Bool}{sn:List Str}{sub:List Value}{ab:Bool}{col:Option Bool}{dd:Option Addr}{k0 k1 k2 k3 k5:Option Value}{newId:String}
  {x:Sem Value}{Q:Flow→Shared→Prop}(hbase:bm.contains (.type "BaseException")=true) (hh:A.handled=none)
  (h:wpAny M A x (λv f5=>∃e d t,v=.ref e∧f5.heap.get? C=some (excClassObj nm q C N bs bm hdct sn sub ab col dd k0 k1 k2 k3 k5 newId) ∧
   f5.heap.get? e=some {cls:=.ref C,dict:=some d,data:=.fields #[.ref t,.none,.none,.none,.bool false,.none]}∧E (.ref e) f5) E s):wpAny M A (raiseStmt env (some x) none) Q E s:=by
 have c1:(Value.ref C::bm).contains (.type "BaseException")=true:=by rw[List.contains_cons,hbase,Bool.or_true]
 unfold raiseStmt
 refine wpAny_bind (wpAny_mono h (λv f5 M7=>?_) λ_ _ x=>x)
 obtain⟨e,d',t,rfl,hC,he,hE⟩:=M7
 obtain⟨hp,g,d,tk,os⟩:=f5
 repeat (first | with_reducible refine wpAny_loadPart_at he ?_ | with_reducible refine wpAny_loadPart_at hC ?_ | (with_reducible refine wpAny_isSubtype_exc hC ?_; rw[c1]) | wp_step)
 exact wpAny_raiseNew_none hh hE
section
variable {c:Cx}{n:Nat}{fs:FS}{Z:a5}{A:Around}{s:Shared}{P fI:Addr}{cd:ClassData}{fd:FuncData}
theorem rD(G:Good c) (Y:Q4 c P fI cd fd){v1 v2:Value}{R:Value→Shared→Prop}{E':Value→Shared→Prop}(o:Ok c n A Z s.heap) (r:Rel c Z s.heap)
  (h:∀h' tk x d t,(∀b o,s.heap.get? b=some o→h'.get? b=some o)→s.heap.get? x=none→h'.get? x=some {cls:=.ref c.i4,dict:=some d,data:=.fields #[.ref t,.none,.none,.none,.bool false,.none]}→R (.ref x) {s with heap:=h',toks:=tk}) :
  wpAny (model c.prog c.w) A (call (.ref c.i4) [v1,v2]) R E' s:=by
 obtain⟨nm,q,N,bs,hdct,sn,sub,ab,col,dd,k0,k1,k2,k3,k5,hC⟩:=Y.obj
 obtain⟨hh,g,d,t,os⟩:=s
 have X:c.K.In hh:=G.KX.keeps r.stays
 have hx0:hh.get? (hh.objs.size+1)=none:=Above.of_le (Nat.le_succ _)
 have ext:∀b o,hh.get? b=some o→((hh.push {cls:=.type "tuple",data:=.seq [v1,v2].toArray}).push {cls:=.ref c.i4,data:=.fields #[.ref hh.objs.size,.none,.none,.none,.bool false,.none]}).get? b=some o:=λb o e=>Heap.get?_push_of_some _ (Heap.get?_push_of_some _ e)
 have e0:(hh.push {cls:=.type "tuple",data:=.seq [v1,v2].toArray}).objs.size=hh.objs.size+1:=Heap.size_push ..
 refine x_call (rest:=[v1,v2]) F.excBase_Exception rfl rfl rfl (X _ _ hC) (E8 (n:=2) (by decide)) X Y.init Y.typ ?_
 exact rC G Y (λb o e=>ext b o (r.1 b o e)) ⟨e0 ▸ Heap.get?_push_size _ rfl,nofun,λ_=>rfl⟩ (A7 r hx0) (Nat.lt_of_le_of_lt (Nat.succ_le_succ (Nat.le_trans (Nat.le_add_right ..) (Nat.le_add_right _ 2))) o.1) λh' tk d' hx hk =>
  ⟨rfl,h h' tk _ d' _ (λb o e=>hk b o (λz=>g9 (j3 e) (z ▸ hx0)) (ext b o e)) hx0 hx⟩
theorem rE(G:Good c) (Y:Q4 c P fI cd fd){id:Str}{np cpos pos:Pos}{e1 e2:Expr}{x1 x2:X}(hk:fs.sc.lookup id=some .globalImplicit) (hv:Lf c.K id=some (.fix (.ref c.i4))) (hd:(id == ("__debug__":Str))=false)
  (hkeep:calleeOk c.K (.ref c.i4)=true) (hs:kD c n fs [e1,e2] [x1,x2]) (hn1:t5 e1=true) (hn2:t5 e2=true):SS c n fs (.Raise (some (.Call (.Name id np) [e1,e2] [] cpos)) none pos) (.raise [x1,x2]):=λenv L ρ Z Q E h A d0 d9 s a hst htop=>by
 rw[arm_exec_Raise]
 obtain⟨nm,q,N,bs,hdct,sn,sub,ab,col,dd,k0,k1,k2,k3,k5,hC⟩:=Y.obj
 refine wpAny_bind (wpAny_standAt (?_:wpAny _ _ (raiseStmt env (some (do let v ←eval (.Call (.Name id np) [e1,e2] [] cpos) env; standAt pos; pure v)) none) _ _ _))
 refine x_raise (newId := "Exception.__new__") (bm:=[.ref P,.type "Exception",.type "BaseException",.type "object"]) (nm:=nm) (q:=q) (C:=c.i4) (N:=N) (bs:=bs) (hdct:=hdct) (sn:=sn) (sub:=sub) (ab:=ab) (col:=col) (dd:=dd) (k0:=k0) (k1:=k1) (k2:=k2) (k3:=k3) (k5:=k5) rfl a.ok.2.2.1 ?_
 rw[arm_eval_Call_Name']
 refine wpAny_bind (wpAny_bind (SX.atS (x:=.con (.fix (.ref c.i4))) (Q1:=λv a6=>v=.fix (.ref c.i4)∧a6=Z) (λenv ρ Z Q E h=>dC G hk hv hd h) ⟨rfl,rfl⟩ a λcf v b0 f5 i6 t9 j7 hq=>?_))
 obtain⟨rfl,rfl⟩:=hq
 have hst:[e1,e2].all t5=true:=Bool.and_eq_true_iff.mpr ⟨hn1,Bool.and_eq_true_iff.mpr ⟨hn2,rfl⟩⟩
 refine j7.Qm (callWith_of (P:=c.K.In) (by rw[(Q0 hst).1]; rfl) (Xi hkeep) ?_)
 rw[v9 hn1,C5]
 refine evalArgs_plain ?_
 rw[←C5,←v9 hn1]
 refine wpAny_mono (hs env ρ _ (λ_ Z=>E Z) E h A f5 cpos i6.ok i6.E2 i6.rel) (λNt j2 q=>?_) λ_ _ e=>e.ef i6
 obtain⟨vs,j0,G6,P9,hl,he⟩:=q
 have j4:=i6.step G6
 have hl:=P9.length.symm.trans hl
 obtain⟨u1,t1,rfl⟩:=List.exists_cons_of_length_eq_add_one (n:=1) hl
 obtain⟨u2,t2,rfl⟩:=List.exists_cons_of_length_eq_add_one (n:=0) (Nat.succ.inj hl)
 obtain rfl:=List.eq_nil_of_length_eq_zero (Nat.succ.inj (Nat.succ.inj hl))
 exact⟨G.KX.keeps j4.rel.stays,rD G Y j4.ok j4.rel λh' tk x d t hext hx0 hx =>
  have Bb:=j4.step (i0.grow (tk:=tk) j4.rel hext)
  wpAny_bind (wpAny_standAt (wpAny_pure ⟨x,d,t,rfl,(G.KX.keeps Bb.rel.stays) _ _ hC,hx,.mk (k:=.new) (.inl rfl) Bb ⟨rfl,Above.back (h':=j2.heap) hx0 j4.post.keep.1,hx,rfl,rfl,rfl,rfl⟩ he⟩))⟩
end
section
variable {c:Cx}{n:Nat}{env:Env}{fs:FS}{ρ:Loc}{Z d0:a5}{Q:Fl→Loc→a5→Prop}{E:a5→Prop}{A:Around}{L:Addr}{s d9:Shared}
theorem aT(G:Good c){B:Around}{R:Value→Shared→Prop}{E':Value→Shared→Prop}{x:Str}{a:Addr}{pos:Pos}(hk:fs.sc.lookup x=some .globalImplicit) (hv:Lf c.K x=some (.fix (.ref a))) (hd:(x == ("__debug__":Str))=false)
  (f:Bu c env fs ρ Z s.heap) (r:Rel c Z s.heap) (h:R (.ref a) s):wpAny (model c.prog c.w) B (eval (.Name x pos) env) R E' s :=
 G.mg.elim λmg hg=>G.mb.elim λmb hb =>
 have hgs:s.heap.Ns env.globals mg:=f.glob ▸ hg.keeps r.1
 Ia hv (λcv e ev=>Name_function_global f.kind (j6 f.names hk) (loadGlobal_global hgs (mg_of G.KX hg e) ((show cv=.ref a from Y4 ev s.heap) ▸ h)) hd)
  λe hne cv e1 e2=>Name_function_global f.kind (j6 f.names hk) (loadGlobal_builtin hgs (mg_none_of G.KX hg e) (f.blt ▸ hb.1.keeps r.1) ((hb.2 x hne).trans e1) ((show cv=.ref a from Y4 e2 s.heap) ▸ h)) hd
theorem a0q(G:Good c){e:Expr}{p1 p2 lp hpos np pos:Pos}{id:Str}{xe:X}(hx:SX c n fs e xe) (hk:fs.sc.lookup id=some .globalImplicit) (hv:Lf c.K id=some (.fix (.ref c.i4))) (hd:(id == ("__debug__":Str))=false)
  (hm:exmOne c.K (.ref c.i4) (.ref c.i4)=some true):SS c n fs (.Try [.Return (some e) p1] [.ExceptHandler (some (.Name id np)) none [.Return (some (.List [] lp)) p2] hpos] [] [] pos) (.kM xe):=λenv L ρ Z Q E h A d0 d9 s a hst htop=>by
 refine wpAny_Try_except (wpAny_execs_cons (wpAny_Return_some (wpAny_mono (hx env ρ Z _ _ h A s a.ok a.E2 a.rel) (λcv f5 q=>q.elim λv q=>q.elim λb0 q=>⟨.ret q.2.1,a.step q.1,q.2.2⟩) λev f5 q=>?_)))
 obtain⟨b0,p,hexc,hE⟩:=q
 refine Oi (a.step p) hst htop (.inr (.inl rfl)) (hexc.mono a.post.keep.1) λCd j4 eH=>Y7 j4 (.inr ⟨L,rfl⟩) eH hst none λUv Bb Xw=>?_
 have hx3:=Xw
 obtain⟨rfl,q2,q3,q4,q5,q6,q7⟩:=hx3
 refine wpAny_handleBy_cons (codeAny_handlers_test (aT G hk hv hd Bb.E2 Bb.rel ((exm_one (G.KX.keeps Bb.rel.stays) (q4 ▸ ((Looks.ld q3).andThen .now)) hm).here ?_))) nofun
 exact codeAny_handlers_suite (Y7 Bb (.inl rfl) Xw hst none λQ3 vJ a3o=>wpAny_execs_cons (wpAny_Return_some (wpAny_List_spliced (spliced_nil ⟨Nat.zero_le _,by
  have q:=i0.new (F:=λ_=>False) (s:={f5 with heap:=Q3}) (tk:=f5.toks) (o:=.list []) (h':=Q3.push {cls:=.type "list",data:=.seq ([]:List Value).toArray}) vJ.rel F2 (λb o e=>Heap.get?_push_of_some _ e) (Nat.le_refl _) ⟨#[],⟨0,Heap.get?_push_size _ rfl⟩,.nil⟩
  exact⟨.ret (.ref _),vJ.step q.1,hE _ q.2⟩⟩))))
end
end Mine
end
section
open PySem PySem.W PyProof.Rows PySem.Calls
set_option Elab.async false
set_option genSizeOf false
set_option genInjectivity false
namespace Mine
open Classical
theorem Rm{α β:Type}{f g:α→Option β}:∀{l:List α},(∀a∈l,f a=g a)→l.filterMap f=l.filterMap g
 | [],_=>rfl
 | a::l,h=>by rw[List.filterMap_cons,List.filterMap_cons,h a (.head _),Rm λb hb=>h b (.tail _ hb)]
theorem Jb:∀{ps:List Str}{vals:List Value},ps.Nodup→vals.length=ps.length→(∀n∈ps,((ps.zip vals).lookup n).isSome=true)∧(ps.filterMap λn=>((ps.zip vals).lookup n).map (n,·))=ps.zip vals
 | [],_,_,_=>⟨nofun,rfl⟩
 | _::_,[],_,h=>nomatch h
 | p::ps,v::vs,hn,hl=>by
  have h:=List.nodup_cons.mp hn
  have ih:=Jb h.2 (Nat.succ.inj hl)
  have key:∀n∈ps,((p,v)::ps.zip vs).lookup n=(ps.zip vs).lookup n:=λn hm=>U9 λe=>h.1 (e ▸ hm)
  have hh:((p,v)::ps.zip vs).lookup p=some v:=K2
  exact⟨List.forall_mem_cons.mpr ⟨j3 hh,λn hm=>(congrArg Option.isSome (key n hm)).trans (ih.1 n hm)⟩,
   (List.filterMap_cons_some (f:=λn=>(((p,v)::ps.zip vs).lookup n).map (n,·)) (b:=(p,v)) (by exact congrArg (Option.map (Prod.mk p)) hh)).trans (congrArg (List.cons (p,v)) ((Rm λn hm=>congrArg (Option.map (Prod.mk n)) (key n hm)).trans ih.2))⟩
theorem forIn_none{α β γ:Type}{l:List α}{i:β}{f:α→β→Sem (ForInStep β)}{g:β→Sem γ}(e:l=[]):(forIn l i f >>= g)=g i:=by subst e; rfl
theorem V6{fd:FuncData}(h1:fd.params.posonlyargs=[]) (h2:fd.params.vararg=none) (h3:fd.params.kwonlyargs=[]) (h4:fd.params.kwarg=none) (h5:fd.defaults=.none) (hn:(fd.params.args.map (·.arg)).Nodup){vals:List Value}(hl:vals.length=(fd.params.args.map (·.arg)).length) :
  bindArgs fd {pos:=vals}=pure ((fd.params.args.map (·.arg)).zip vals):=by
 have hz:=Jb hn hl
 obtain⟨q1,q2,⟨_,args,_,_,kd,_,df⟩,q4,q5,q6,q7,_,q9,q10,q11,q12,q13,q14⟩:=fd
 dsimp only at h1 h2 h3 h4 h5 hl hz
 subst h1 h2 h3 h4 h5
 unfold bindArgs
 refine(if_neg (c:=(decide (vals.length > (args.map (·.arg)).length) && true)=true) λe=>Nat.not_lt.mpr (Nat.le_of_eq hl) (of_decide_eq_true (Bool.and_eq_true_iff.mp e).1)).trans ?_
 refine(if_neg (c:=(!(((args.map (·.arg)).take ((args.map (·.arg)).length - (List.drop (0 - (args.map (·.arg)).length) ([]:List Value)).length)).filter λn=>(((args.map (·.arg)).zip vals).lookup n).isNone).isEmpty)=true) ?_).trans ?_
 ·rw[List.drop_nil,List.length_nil,Nat.sub_zero,List.take_length,List.filter_eq_nil_iff.mpr λn hn e=>by rw[Option.isNone_iff_eq_none] at e; exact g9 (hz.1 n hn) e]; exact Bool.false_ne_true
 refine(forIn_none (l:=(List.drop _ _).zip (List.drop (0 - (args.map (·.arg)).length) ([]:List Value))) (by rw[List.drop_nil]; exact List.zip_nil_right)).trans ?_
 exact congrArg Sem.pure ((List.append_nil (args.map (·.arg))).symm ▸ hz.2)
end Mine
end
section
open PySem PySem.W PyProof.Rows PySem.Calls
set_option Elab.async false
set_option genSizeOf false
set_option genInjectivity false
set_option maxRecDepth 20000
namespace Mine
open Classical
noncomputable def RD(h:Heap) (d:Addr) (es:Array DictEntry) (ep:Nat):Prop:=∃o,h.get? d=some o∧o.ExactDict∧o.data=.dict es ep
section
variable {prog:Program}{w:World}{A:Around}{E:Value→Shared→Prop}{s:Shared}{d it:Addr}{es:Array DictEntry}{ep i:Nat}
theorem RD.typeIs(h:RD s.heap d es ep):s.TypeIs (.ref d) "dict":=h.imp λo h=>⟨h.1,h.2.1.1⟩
theorem RD.keep{h h':Heap}(x:RD h d es ep) (k:∀o,h.get? d=some o→h'.get? d=some o):RD h' d es ep:=x.imp λo x=>⟨k o x.1,x.2⟩
theorem Rn{Q:Value→Shared→Prop}(lo:(d == sysModules)=false) (h:RD s.heap d es ep)
  (hQ:Q (.ref s.heap.objs.size) {s with heap:=s.heap.push {cls:=.type "dict_keyiterator",data:=.fields #[.ref d,.int 0 0,.int es.size 0,.int ep 0]}}):wpAny (model prog w) A (pyIter (.ref d)) Q E s:=by
 obtain⟨o,ho,hx,hd⟩:=id h
 refine wpAny_pyIter_slot h.typeIs F.slot_dict_iter (wpAny_call_entry F.slot_dict_iter h.typeIs F.entry_dict_iter ?_ (F.args_dict_iter_1 _))
 refine(?_:wpAny _ _ (Builtin.Dict.dictSlotNone "__iter__" ⟨[.ref d],[]⟩ >>= _) _ _ s)
 refine wpAny_bind (wpAny_bind (wpAny_notOrdered_dict h.typeIs (wpAny_pure (?_:wpAny _ _ (Builtin.Dict.showsAll d >>= _) _ _ s))))
 unfold Builtin.Dict.showsAll
 rw[if_neg (by rw[lo]; exact Bool.false_ne_true)]
 refine wpAny_bind (wpAny_pure (wpAny_bind (wpAny_dictEntries ho hd (wpAny_bind (wpAny_dictEpoch ho hd ?_)))))
 exact wpAny_bind (wpAny_newObj_type (wpAny_pure ⟨_,rfl, "dict_keyiterator",_,⟨_,Heap.get?_push_size _ rfl,rfl⟩,F.slot_dict_keyiterator_next.lookup,hQ⟩))
theorem Jc{Q:Option Value→Shared→Prop}(hh:A.handled=none) (hit:s.heap.IsKeyIter it d i es.size ep) (h:RD s.heap d es ep)
  (h1:∀e,es[i]?=some e→∀h',h'.IsKeyIter it d (i+1) es.size ep→Heap.SameBut it s.heap h'→Q (some e.key) {s with heap:=h'})
  (h2:es[i]?=none→∀h',Heap.ExtBut it s.heap h'→Q none {s with heap:=h'}):wpAny (model prog w) A (pyNext (.ref it)) Q E s:=by
 obtain⟨oi,hoi,hci,hdi⟩:=id hit
 obtain⟨o,ho,_,hd⟩:=id h
 have name:∀{s':Shared}{Q:String→Shared→Prop}{A:Around}{E:Value→Shared→Prop},s'.TypeIs (.ref it) "dict_keyiterator"→Q "dict_keyiterator" s'→wpAny (model prog w) A (typeNameOfWhole (.ref it)) Q E s':=λh q=>wpAny_typeNameOfWhole_keyiter h q
 unfold pyNext
 refine wpAny_bind (wpAny_attempt (wpAny_callSpecial?_slot (name:=Str.ofString "__next__") hit.typeIs F.slot_dict_keyiterator_next (wpAny_call_entry F.slot_dict_keyiterator_next hit.typeIs F.entry_dict_keyiterator_next ?_ (F.args_dict_keyiterator_next_1 _))))
 refine wpAny_bind (wpAny_pure (wpAny_bind (wpAny_bind (wpAny_bind (name hit.typeIs (wpAny_pure (wpAny_bind (wpAny_fieldsOf hoi hdi ?_))))))))
 rw[show Builtin.Dict_items.ownsTuple "dict_keyiterator"=false by decide]
 refine(?_:wpAny _ _ (if (Value.ref d == Value.none)=true then _ else _) _ _ s)
 rw[if_neg (show ¬((Value.ref d == Value.none)=true) from Bool.false_ne_true)]
 refine wpAny_bind (wpAny_pure (wpAny_bind (wpAny_dictEntries ho hd ?_)))
 rw[if_neg (by rw[bne_self_eq_false]; exact Bool.false_ne_true)]
 refine wpAny_bind (wpAny_pure (wpAny_bind (wpAny_dictEpoch ho hd ?_)))
 rw[if_neg (by rw[bne_self_eq_false]; exact Bool.false_ne_true)]
 refine wpAny_pure ?_
 have e0:(if (i:Int) < 0 then none else es[(i:Int).toNat]?)=es[i]?:=if_neg (Int.not_lt.mpr (Int.natCast_nonneg i))
 cases hx:es[i]? with
 | none =>
  simp only[e0,hx]
  refine wpAny_bind (wpAny_bind (name hit.typeIs (wpAny_pure (?_:wpAny _ _ (setField (.ref it) 0 .none >>= _) _ _ s))))
  refine wpAny_bind (wpAny_setField hoi hdi (by decide:0 < 4) (?_:wpAny _ _ (newExc (.type "StopIteration") [] >>= _) _ _ _))
  simp only[newExc,newTuple]
  refine wpAny_bind (wpAny_bind (wpAny_newObj_type ?_ (by size_fits)))
  refine wpAny_bind (m:=firstArgMember _ _) (wpAny_of_eq (a:=Value.none) (by first | rfl | (simp only[firstArgMember]; rfl)) ?_)
  refine wpAny_newObj_type ?_ (by size_fits)
  simp only[raiseNew]
  refine wpAny_bind (wpAny_handled ?_)
  rw[show A.in1.handled=none from hh]
  refine wpAny_bind (wpAny_pure (wpAny_throw ?_))
  refine wpAny_bind (wpAny_isInstance (T := "StopIteration") (b:=true) ⟨_,Heap.get?_push_size _ rfl,rfl⟩ isSubtype_stop ?_)
  exact wpAny_pure (h2 hx _ (((Heap.SameBut.update ..).extBut.push _).push _))
 | some e =>
  simp only[e0,hx]
  refine wpAny_bind (wpAny_bind (name hit.typeIs (wpAny_pure (wpAny_bind (wpAny_isOneOf_keyiter hit.typeIs (?_:wpAny _ _ (setField (.ref it) 1 (rawInt ((i:Int)+1)) >>= _) _ _ s))))))
  refine wpAny_bind (wpAny_setField hoi hdi (by decide:1 < 4) ?_)
  have hit':(s.heap.update it (Obj.mapFields (·.setIfInBounds 1 (rawInt ((i:Int)+1))))).IsKeyIter it d (i+1) es.size ep :=
   ⟨_,Heap.get?_update_self _ hoi (Obj.isFreed_of_fields (Obj.data_mapFields hdi _)),(Obj.cls_mapFields ..).trans hci,Obj.data_mapFields hdi _⟩
  refine wpAny_bind (wpAny_holding (wpAny_bind (wpAny_isOneOf_keyiter (s:={s with heap:=s.heap.update it (Obj.mapFields (·.setIfInBounds 1 (rawInt ((i:Int)+1))))}) hit'.typeIs (?_:wpAny _ _ (pure e.key) _ _ _))))
  exact wpAny_pure (wpAny_pure ⟨_,rfl,wpAny_pure (h1 e hx _ hit' (Heap.SameBut.update ..))⟩)
end
theorem Ro{prog:Program}{w:World}{h:Heap}{a:Addr}{l:List (V×V)}(r:Z7 prog w h a l) (hl:∀p∈l,∃t,p.1=V.tup t) :
  ∃es ep,RD h a es ep∧es.size=l.length∧∀(j:Nat) (e:DictEntry),es[j]?=some e→∃p,l[j]?=some p∧Rep h p.1 e.key:=by
 obtain⟨xs,⟨o,es,ep,h1,h2,h3,h4,h5,h6⟩,e1,e2⟩:=Qt r hl
 refine⟨es,ep,⟨o,h1,h2,h3⟩,Array.length_toList.symm.trans ((congrArg List.length h4).trans ((List.length_map ..).trans (map_len e1))),λj e hj=>?_⟩
 rw[entry_at h4] at hj
 obtain⟨x,hx,rfl⟩:=Option.map_eq_some_iff.mp hj
 have hk:=(h5 x (List.mem_of_getElem? hx)).1
 have q:(l.map (·.1))[j]?=some x.1:=(congrArg (·[j]?) e1).trans (List.getElem?_map.trans (congrArg (Option.map Prod.fst) hx))
 rw[List.getElem?_map] at q
 obtain⟨p,z1,z2⟩:=Option.map_eq_some_iff.mp q
 exact⟨p,z1,z2 ▸ hk⟩
abbrev Rp(x xs:Str) (pn pc ps pk p4:Pos) (Lg Rq:Nat):Expr:=.Compare (.Subscript (.Name x pn) (.Constant (.int 0) Lg pc) ps) [.In] [.Constant (.str xs) Rq pk] p4
section
variable {c:Cx}{n:Nat}{fs:FS}{ρ:Loc}{Z d0:a5}{Q:V→a5→Prop}{E:a5→Prop}{A:Around}{Fr:Addr→Prop}{s d9:Shared}
theorem Me{x:Str}{u:Nat}{t:List V}:M6 x (.tup (.str ⟨#[u]⟩::t))=decide (u∈x.cps.toList) :=
 y4 (List.any_eq_true.trans ⟨λh=>h.elim λy h=>(List.cons.inj (show [u]=[y] from eq_of_beq h.2)).1 ▸ h.1,λh=>⟨u,h,beq_iff_eq.mpr rfl⟩⟩)
theorem aU{env:Env}{x:Str}{xs:Str}{i k k':Nat}{pn pc ps pk pos:Pos}{u:Nat}{t:List V}(a:v8 c n env fs A Fr d0 d9 ρ Z s) (hx:fs.res.lookup x=some i) (hk:fs.sc.lookup x=some .local) (hv:ρ i=some (.tup (.str ⟨#[u]⟩::t)))
  (hd:(x == ("__debug__":Str))=false){R:Bool→Shared→Prop}{E':Value→Shared→Prop}(h:∀tk,R (M6 xs (.tup (.str ⟨#[u]⟩::t))) {s with toks:=tk}) :
  wpAny (model c.prog c.w) A (isTrue (Rp x xs pn pc ps pk pos k k') env (eval (Rp x xs pn pc ps pk pos k k') env)) R E' s:=by
 obtain⟨m,hn,hm⟩:=a.E2.ns
 obtain⟨cv,e1,ad,⟨li⟩,rfl,ta,c0,r0,e0,⟨tk0,rfl⟩,r1⟩:=hm x i _ hx hv (j6 a.E2.names hk)
 obtain rfl:li=_:=e0
 refine wpAny_isTrue_Compare1 (Subscript_ (wpAny_Name (wpAny_loadName_local a.E2.kind (j6 a.E2.names hk) hn e1 (wpAny_Constant_int ?_)) hd)) (by rfl)
 refine tail_any ta.isTuple.typeIs F.slot_tuple_getitem.lookup (getItem_tuple ta.isTuple (by decide) (by decide) (By (Nat.succ_pos _)) rfl ?_) rfl
 exact Constant_str (P.in_str (wpAny_truthy_bool ((Me.trans (StrLaws.found_one xs u).symm:M6 xs (.tup (.str ⟨#[u]⟩::t))=_) ▸ h _)))
theorem Jd{h:Heap}{I d:Addr}{i m ep:Nat}(x:h.IsKeyIter I d i m ep):∃o vs,h.get? I=some o∧o.data=.fields vs∧¬ Ln o :=
 x.imp λo x=>⟨_,x.1,x.2.2,λim=>im.elim (λq=>absurd (Value.type.inj (x.2.1.symm.trans q.1)) (by decide)) λq=>absurd (Value.type.inj (x.2.1.symm.trans q.1)) (by decide)⟩
inductive kB(c:Cx) (n:Nat) (cenv:Env) (fs':FS) (A:Around) (Z:a5) (s:Shared) (ρ:Loc) (b0:a5) (Cd:Heap) (I d D C:Addr) (es:Array DictEntry) (ep:Nat) (xs:Str) (l:List V):Nat→Shared→Prop
 | mk {k i:Nat}{acc:List V}{items:Array Value}{nn:Nat}{s':Shared}(hki:k+i=l.length) (a:v8 c n cenv fs' A (·=C) Z s ρ b0 s') (it:s'.heap.IsKeyIter I d i es.size ep) (hR:RD s'.heap d es ep) (him:u6 Cd s'.heap) (hD:s'.heap.get? D=some (H7 items nn)) (hacc:h9 s'.heap acc items.toList) (hal:acc.length≤i)
   (oQ:acc++(l.drop i).filter (M6 xs)=l.filter (M6 xs)):kB c n cenv fs' A Z s ρ b0 Cd I d D C es ep xs l k s'
theorem eK{cenv:Env}{fs':FS}{b0:a5}{Cd:Heap}{I d D C:Addr}{es:Array DictEntry}{ep:Nat}{x xs:Str}{l:List V}{j k:Nat}{s':Shared}{R:Result→Shared→Prop}{pa pb pn pc ps pk p4:Pos}{Lg Rq:Nat}(fr:yG c s D C I) (rF:Above s.heap I) (hIb:c.base.get? I=none) (cO:b0 D=none) (hdD:d≠D) (oK:d≠C) (hi:Inj fs') (hsx:K1 fs' false x j) (hdb:(x == ("__debug__":Str))=false) (hl:cenv.locals=C)
  (hes:es.size=l.length) (hz:l.length≤1000) (hk:∀v∈l,∃u t,v=.tup (.str ⟨#[u]⟩::t)) (hat:∀(j:Nat) (e:DictEntry),es[j]?=some e→∃v,l[j]?=some v∧Rep Cd v e.key)
  (hq:∀r,b0 r=none→Q (.ref r) (j1 b0 r (.list (l.filter (M6 xs))))) (fin:∀s',CompEnd c Z s Q D C b0 s'→R (.ok .next) s')
  (x':kB c n cenv fs' A Z s (u9 ρ [j]) b0 Cd I d D C es ep xs l k s') :
  wpAny (model c.prog c.w) A (pyNext (.ref I)) (λr f5=>match r with
   | none=>R (.ok .next) f5
   | some v=>wpAny (model c.prog c.w) A (letOwnedTupleGo (.Name x pb) (.ref I) v) (λ_ f5=>wpAny (model c.prog c.w) A (PySem.assign (.Name x pb) cenv v) (λ_ j2 =>
     wpAny (model c.prog c.w) A (forIn [Rp x xs pn pc ps pk p4 Lg Rq] true λe r=>if r=true then do let ok ←isTrue e cenv (eval e cenv); pure (ForInStep.yield ok) else pure (ForInStep.yield r)) (λok G2 =>
      if ok=true then wpAny (model c.prog c.w) A (eval (.Name x pa) cenv) (λx Iq=>wpAny (model c.prog c.w) A (call (.builtin "list.append") [.ref D,x]) (λ_ Ir=>∃m,m < k∧kB c n cenv fs' A Z s (u9 ρ [j]) b0 Cd I d D C es ep xs l m Ir) (λ_ _=>False) Iq) (λ_ _=>False) G2
      else ∃m,m < k∧kB c n cenv fs' A Z s (u9 ρ [j]) b0 Cd I d D C es ep xs l m G2) (λ_ _=>False) j2) (λ_ _=>False) f5) (λ_ _=>False) f5) (λ_ _=>False) s':=by
 obtain⟨hki,a,it,yI,him,kW,hacc,hal,oQ⟩:=x'
 rename_i i acc items nn
 obtain⟨oI,vI,hoI,hfI,hiI⟩:=Jd it
 have hdI:d≠I:=yI.elim λo y=>λz=>(show Bt o from⟨_,_,y.2.2⟩).shape.1 vI ((congrArg Obj.data (Option.some.inj (y.1.symm.trans ((congrArg _ z).trans hoI)))).trans hfI)
 have qt {h'}(hx:Heap.ExtBut I s'.heap h'):Quiet c b0 (·=I) s.heap s'.heap h':=.one hoI hiI (U7 a.rel hoI hfI) hIb rF hx
 refine Jc a.ok.2.2.1 it yI (λen hx h' K3 vK=>?_) λhx h' H8=>?_
 ·have H8:=vK.extBut
  have S8:=a.junk (tk:=s'.toks) hoI hfI hiI rF hIb H8
  have ki5:=(qt H8).keepI
  obtain⟨v,hv,hrep⟩:=hat i en hx
  obtain⟨h1,h2⟩:=List.getElem?_eq_some_iff.mp hv
  obtain⟨u,t,rfl⟩:=hk v (List.mem_of_getElem? hv)
  refine wpAny_pure (wpAny_assign_Name (S8.Lw hi hsx.1 (hsx.2.resolve_right λh=>nomatch h.1) hl (((hrep.mono him).mono ki5)) λUx Gy Uy Xx=>?_))
  have Xx:Heap.SameBut C h' Ux.heap:=hl ▸ Xx
  have Re:∀j' w,u9 ρ [j] j'=some w→t8 (u9 ρ [j]) j (.tup (.str ⟨#[u]⟩::t)) j'=some w:=λj' w hj=>(z6 λe=>(Y5 hj).1 (List.mem_singleton.mpr e)).trans hj
  have k6 {b o}(n1:b≠I) (n2:b≠C) (e:s'.heap.get? b=some o):Ux.heap.get? b=some o:=(Xx.2 b n2).trans (H8 b o n1 e)
  have yJ:=ki5.trans Uy.Av
  have Ce:=K3.at λo e=>(Xx.2 I fr.IC).trans e
  cases k with
  | zero=>exact Qn h1 (Nat.le_of_eq (hki.symm.trans (Nat.zero_add i)))
  | succ m =>
  have hmi:m+(i+1)=l.length:=(Nat.succ_add_eq_add_succ m i).symm.trans hki
  rw[List.drop_eq_getElem_cons h1,h2] at oQ
  have hk6:=hsx.2.resolve_right λh=>nomatch h.1
  rw[List.forIn_cons,if_pos rfl]
  refine wpAny_bind (wpAny_bind (aU Gy hsx.1 hk6 w6 hdb λtk=>wpAny_pure ?_))
  refine(?_:wpAny _ _ (forIn [] _ _) _ _ _)
  rw[List.forIn_nil]
  refine wpAny_pure ?_
  have J6:=Gy.toks (tk:=tk)
  cases hhd:M6 xs (.tup (.str ⟨#[u]⟩::t)) with
  | false =>
   rw[List.filter_cons_of_neg (by rw[hhd]; exact Bool.false_ne_true)] at oQ
   exact⟨m,Nat.lt_succ_self m,hmi,⟨J6.ok,J6.E2.weak Re,J6.rel,J6.post⟩,Ce,yI.keep λo e=>k6 hdI oK e,him.trans yJ,k6 fr.DI fr.DC kW,hacc.mono yJ,Nat.le_succ_of_le hal,oQ⟩
  | true =>
   rw[List.filter_cons_of_pos hhd,List.append_cons] at oQ
   obtain⟨mm,hn,hm⟩:=J6.E2.ns
   obtain⟨cv,e1,e2⟩:=hm x j _ hsx.1 w6 (j6 J6.E2.names hk6)
   have oR:=hacc.mono yJ
   have aN:=k6 fr.DI fr.DC kW
   refine wpAny_Name (wpAny_loadName_local J6.E2.kind (j6 J6.E2.names hk6) hn e1 (wpAny_list_append_plain ⟨nn,aN⟩ (λkY hpl V0=>?_) (by rw[oR.size]; exact J9 (Nat.le_trans hal (Nat.le_trans (Nat.le_of_lt h1) (Nat.le_trans hz (by decide))))))) hdb
   have q9:Quiet c b0 (·=D) s.heap Ux.heap kY:=.one aN Hf cO fr.Db fr.tH V0.extBut
   have Og:=Uw (tk:=tk) J6 aN Hf cO Iu (λv e=>nomatch e) fr.tH fr.Db V0.extBut
   exact hpl.elim λn9 qV=>⟨m,Nat.lt_succ_self m,hmi,⟨Og.ok,Og.E2.weak Re,Og.rel,Og.post⟩,Ce.at λo e=>(V0.2 I (Ne.symm fr.DI)).trans e,yI.keep λo e=>(V0.2 d hdD).trans (k6 hdI oK e),(him.trans yJ).trans q9.keepI,qV,
    by rw[Array.toList_push]; exact h9.append (.cons (e2.mono q9.keepI) .nil) (oR.mono q9.keepI),by rw[List.length_append]; exact Nat.succ_le_succ hal,oQ⟩
 ·have S8:=a.junk (tk:=s'.toks) hoI hfI hiI rF hIb H8
  have hil:l.length≤i:=hes ▸ Array.getElem?_eq_none_iff.mp hx
  rw[List.drop_eq_nil_iff.mpr hil,List.filter_nil,List.append_nil] at oQ
  exact fin _ ⟨S8.post,S8.E2.ns.imp λm hm=>hl ▸ hm.1,fr.Clo,fr.Cb,hl ▸ S8.E2.q8,fr.tH,fr.Db,cO,fr.D2,fr.DC,items,acc,⟨nn,H8 D _ fr.DI kW⟩,hacc.mono (qt H8).keepI,oQ ▸ hq⟩
theorem lF{x xs:Str}{pa pb pn pc ps pk p4:Pos}{Lg Rq:Nat}{iter:Expr}{scope:Scope}{pos:Pos}{xi:X}{j:Nat}(hi:Inj fs) (hiter:SX c n fs iter xi) (Cg:∀env x,foldedSetIterable iter env x=pure x) (cs:A8 fs scope (.one j))
  (hsx:K1 (m0 fs scope) false x j) (hdb:(x == ("__debug__":Str))=false) :
  SX c n fs (.ListComp (.Name x pa) [⟨.Name x pb,iter,[Rp x xs pn pc ps pk p4 Lg Rq],0⟩] scope pos) (.Nu xi xs):=λenv ρ Z Q E h A s o f re=>by
 rw[PySem.eval_ListComp]
 have fin (D C a6 s') (x:CompEnd c Z s Q D C a6 s'):compPost (model c.prog c.w) A (EE c Z s E) none (QE c Z s Q) (.ref D) C (.ok .next) s':=x.ns.imp λm hm=>⟨hm,λh' hs'=>x.done hs'⟩
 refine wpAny_comprehension_free rfl (λx=>Cg env x) (Ac (cs.cells f)) cs.kind cs.names ?_
 refine(hiter env ρ Z _ E h).at (.start o f re) λci iv b0 f5 i6 t9 j7 q=>?_
 obtain⟨d,l,rfl,hdl,hlen,hkeys,hq⟩:=q
 obtain⟨es,ep,hR,hes,hat⟩:=Ro (i6.rel.3 _ _ hdl).2 λp hp=>(hkeys p hp).2.elim λu q=>q.imp' (List.cons (.str ⟨#[u]⟩)) λt e=>e
 refine j7.E3 (Rn (not_modules i6.rel hdl) hR ?_)
 have k2:∀b o,f5.heap.get? b=some o→(f5.heap.push {cls:=.type "dict_keyiterator",data:=.fields #[.ref d,.int 0 0,.int es.size 0,.int ep 0]}).get? b=some o:=λb o e=>Heap.get?_push_of_some _ e
 have Xy:Above f5.heap f5.heap.objs.size:=.of_le (Nat.le_refl _)
 have hI:(f5.heap.push {cls:=.type "dict_keyiterator",data:=.fields #[.ref d,.int 0 0,.int es.size 0,.int ep 0]}).get? f5.heap.objs.size=some _:=Heap.get?_push_size _ rfl
 refine Iv (i6.step (i0.grow (tk:=f5.toks) i6.rel k2)) cs hI λD C Q3 fr hDa hCa kE b4 cO hD=>?_
 have Rf:Q3.IsKeyIter f5.heap.objs.size d 0 es.size ep:=⟨_,kE _ _ hI,rfl,rfl⟩
 have ne {b}(hb:Above (f5.heap.push {cls:=.type "dict_keyiterator",data:=.fields #[.ref d,.int 0 0,.int es.size 0,.int ep 0]}) b):d≠b:=hR.elim λo y=>λq=>hb.not ((congrArg _ q).symm.trans (k2 _ _ y.1))
 have go:codeAny (model c.prog c.w) A (.compLoop (.ListComp (.Name x pa) [⟨.Name x pb,iter,[Rp x xs pn pc ps pk p4 Lg Rq],0⟩] scope pos) 0 (.ref f5.heap.objs.size) (.ref D) {compEnvC scope (Gx env.cells scope.names []) C env with builtins:=env.builtins}) (compPost (model c.prog c.w) A (EE c Z s E) none (QE c Z s Q) (.ref D) C) {f5 with heap:=Q3,toks:=f5.toks+0} :=
  Cc (kB c n _ (m0 fs scope) A Z s (u9 ρ [j]) b0 Q3 f5.heap.objs.size d D C es ep xs (l.map (·.1))) (λk s' x'=>eK fr (Xy.back i6.post.keep.1) (A7 i6.rel Xy) cO (ne hDa) (ne hCa) (fs':=m0 fs scope) hi hsx hdb rfl (hes.trans (List.length_map ..).symm) ((List.length_map ..).symm ▸ hlen) (λv hv=>(List.mem_map.mp hv).elim λp hp=>hp.2 ▸ (hkeys p hp.1).2)
   (λj e he=>(hat j e he).elim λp hp=>⟨p.1,List.getElem?_map.trans (congrArg (Option.map _) hp.1),hp.2.mono λb o e _=>kE b o (k2 b o e)⟩) hq (fin D C b0) x') l.length
   (.mk (acc:=[]) (i:=0) (List.length_map ..).symm b4 Rf (hR.keep λo e=>kE _ o (k2 _ o e)) (.refl _) hD .nil (Nat.le_refl 0) rfl)
 exact codeAny_compStart_list go (wpAny_pyIter_keyiter Rf go)
end
end Mine
end
section
open PySem PySem.W PyProof.Rows PySem.Calls
set_option Elab.async false
set_option genSizeOf false
set_option genInjectivity false
namespace Mine
open Classical
noncomputable def i9{β:Type}(P:β→Prop) (o:Option β):Prop:=match o with
 | some x=>P x
 | none=>True
theorem i9.get{β:Type}{P:β→Prop}{o:Option β}{x:β}(h:i9 P o) (e:o=some x):P x:=by subst e; exact h
theorem i9.bind{α β:Type}{A:α→Prop}{P:β→Prop}{f:α→Option β}:∀{o:Option α},i9 A o→(∀a,A a→i9 P (f a))→i9 P (o.bind f)
 | none,_,_=>trivial
 | some a,h,k=>k a h
theorem i9.Xz{α β:Type}{P:β→Prop}{f:α→Option β}:∀{o:Option α},(∀a,o=some a→i9 P (f a))→i9 P (o.bind f)
 | none,_=>trivial
 | some a,k=>k a rfl
theorem i9.map{α β:Type}{A:α→Prop}{P:β→Prop}{f:α→β}:∀{o:Option α},i9 A o→(∀a,A a→P (f a))→i9 P (o.map f)
 | none,_,_=>trivial
 | some a,h,k=>k a h
theorem i9.vL{α β:Type}{P:β→Prop}{f:α→β}:∀{o:Option α},(∀a,o=some a→P (f a))→i9 P (o.map f)
 | none,_=>trivial
 | some a,k=>k a rfl
theorem i9.mono{β:Type}{P P':β→Prop}{o:Option β}(h:i9 P o) (k:∀x,P x→P' x):i9 P' o:=match o,h with
 | none,_=>trivial
 | some x,h=>k x h
noncomputable def grd{β:Type}(b:Bool) (o:Option β):Option β:=match b with
 | true=>o
 | false=>none
theorem i9.grd{β:Type}{P:β→Prop}{o:Option β}:∀{b:Bool},(b=true→i9 P o)→i9 P (grd b o)
 | true,h=>h rfl
 | false,_=>trivial
noncomputable def Ky{β:Type}(a b:Option β):Option β:=match a with
 | some x=>some x
 | none=>b
theorem i9.Ky{β:Type}{P:β→Prop}{b:Option β}:∀{a:Option β},i9 P a→i9 P b→i9 P (Ky a b)
 | some _,h,_=>h
 | none,_,h=>h
noncomputable def yK{β:Type}(t:Bool) (a b:Option β):Option β:=match t with
 | true=>a
 | false=>b
theorem i9.yK{β:Type}{P:β→Prop}{a b:Option β}:∀{t:Bool},(t=true→i9 P a)→(t=false→i9 P b)→i9 P (yK t a b)
 | true,h,_=>h rfl
 | false,_,h=>h rfl
noncomputable def one?{α β:Type}(l:List α) (f:α→Option β):Option β:=match l with
 | []=>none
 | a::r=>match r with
  | []=>f a
  | _::_=>none
theorem i9.one?{α β:Type}{P:List α→β→Prop}{f:α→Option β}:∀{l:List α},(∀a,i9 (P [a]) (f a))→i9 (P l) (one? l f)
 | [],_=>trivial
 | [_],h=>h _
 | _::_::_,_=>trivial
noncomputable def Lh{α β:Type}(l:List α) (f:α→α→Option β):Option β:=match l with
 | []=>none
 | a::r=>one? r (f a)
theorem i9.Lh{α β:Type}{P:List α→β→Prop}{f:α→α→Option β}:∀{l:List α},(∀a b,i9 (P [a,b]) (f a b))→i9 (P l) (Lh l f)
 | [],_=>trivial
 | a::r,h=>i9.one? (P:=λr=>P (a::r)) λb=>h a b
noncomputable def S9{α β:Type}(l:List α) (o:Option β):Option β:=match l with
 | []=>o
 | _::_=>none
theorem i9.S9{α β:Type}{P:List α→β→Prop}{o:Option β}:∀{l:List α},i9 (P []) o→i9 (P l) (S9 l o)
 | [],h=>h
 | _::_,_=>trivial
noncomputable def R8{α β:Type}(l:Option α) (f:α→Option β):Option β:=match l with
 | none=>none
 | some a=>f a
theorem i9.R8{α β:Type}{P:Option α→β→Prop}{f:α→Option β}:∀{l:Option α},(∀a,i9 (P (some a)) (f a))→i9 (P l) (R8 l f)
 | none,_=>trivial
 | some _,h=>h _
noncomputable def none?{α β:Type}(l:Option α) (o:Option β):Option β:=match l with
 | none=>o
 | some _=>none
theorem i9.none?{α β:Type}{P:Option α→β→Prop}{o:Option β}:∀{l:Option α},i9 (P none) o→i9 (P l) (none? l o)
 | none,h=>h
 | some _,_=>trivial
noncomputable def name?{β:Type}(e:Expr) (f:Str→Pos→Option β):Option β:=Uq none e (Oa:=f)
theorem i9.name?{β:Type}{P:Expr→β→Prop}{f:Str→Pos→Option β}{e:Expr}(h:∀x p,i9 (P (.Name x p)) (f x p)):i9 (P e) (name? e f):=by
 cases e<;>first | exact h .. | exact True.intro
noncomputable def Rr{β:Type}(e:Expr) (f:Const→Nat→Pos→Option β):Option β:=Uq none e (Az:=f)
theorem i9.Rr{β:Type}{P:Expr→β→Prop}{f:Const→Nat→Pos→Option β}{e:Expr}(h:∀v k p,i9 (P (.Constant v k p)) (f v k p)):i9 (P e) (Rr e f):=by
 cases e<;>first | exact h .. | exact True.intro
noncomputable def int?{β:Type}(v:Const) (f:Int→Option β):Option β:=match v with
 | .int i=>f i
 | _=>none
theorem i9.int?{β:Type}{P:Const→β→Prop}{f:Int→Option β}{v:Const}(h:∀i,i9 (P (.int i)) (f i)):i9 (P v) (int? v f):=by
 cases v<;>first | exact h .. | exact True.intro
noncomputable def lG{β:Type}(v:Const) (f:Str→Option β):Option β:=match v with
 | .str i=>f i
 | _=>none
theorem i9.lG{β:Type}{P:Const→β→Prop}{f:Str→Option β}{v:Const}(h:∀i,i9 (P (.str i)) (f i)):i9 (P v) (lG v f):=by
 cases v<;>first | exact h .. | exact True.intro
noncomputable def aV{β:Type}(e:Expr) (f:List Expr→Nat→Pos→Option β):Option β:=Uq none e (He:=f)
theorem i9.aV{β:Type}{P:Expr→β→Prop}{f:List Expr→Nat→Pos→Option β}{e:Expr}(h:∀v k p,i9 (P (.Tuple v k p)) (f v k p)):i9 (P e) (aV e f):=by
 cases e<;>first | exact h .. | exact True.intro
noncomputable def gen?{β:Type}(g:List Comprehension) (f:Expr→Expr→List Expr→Option β):Option β:=one? g λq=>match q with
 | ⟨t,i,ifs,k⟩=>match k with
  | .ofNat n=>match n with
   | 0=>f t i ifs
   | _+1=>none
  | .negSucc _=>none
theorem i9.gen?{β:Type}{P:List Comprehension→β→Prop}{f:Expr→Expr→List Expr→Option β}{g:List Comprehension}(h:∀t i l,i9 (P [⟨t,i,l,0⟩]) (f t i l)):i9 (P g) (gen? g f) :=
 i9.one? fun⟨t,i,l,k⟩=>match k with
  | .ofNat 0=>h t i l
  | .ofNat (_+1)=>trivial
  | .negSucc _=>trivial
noncomputable def J7{α β:Type}(f:α→Option β):List α→Option (List β)
 | []=>some []
 | a::l=>(f a).bind λb=>(J7 f l).map λr=>b::r
noncomputable def isName(e:Expr):Bool:=Uq false e (Oa:=λ_ _=>true)
noncomputable def Oj(e:Expr):Bool:=Uq true e (Ur:=λ_ _ _ _=>false)
noncomputable def Rt(e:Expr):Bool:=Uq true e (Oc:=λ_ _ _ _=>false)
noncomputable def Je(e:Expr):Bool:=Uq true e (onSet:=λ_ _ _=>false)
noncomputable def notTuple(e:Expr):Bool:=Uq true e (He:=λ_ _ _=>false)
theorem Yb{e:Expr}(h:Oj e=true) (name:Str) (env:Env):attributeBase e name env (eval e env)=eval e env:=by
 cases e<;>first | rfl | exact absurd h Bool.false_ne_true
theorem aW{e:Expr}(h:Rt e=true) (o i:Value):subscripted e false o i=operate [o,i] (getItem o i):=by
 cases e<;>first | rfl | exact absurd h Bool.false_ne_true
theorem Hh{e:Expr}(h:Je e=true) (env:Env) (x:Value):foldedSetIterable e env x=pure x:=by
 cases e<;>first | rfl | exact absurd h Bool.false_ne_true
theorem rG{e:Expr}(h:isName e=true) (o r:Value):letTemporaryGo e o r=pure ():=by
 cases e<;>first | rfl | exact absurd h Bool.false_ne_true
theorem Vb{e:Expr}(h:notTuple e=true) (t:Expr) (env:Env):swappedStores [t] e env=pure none:=by
 cases t<;>first | rfl | (cases e<;>first | rfl | exact absurd h Bool.false_ne_true)
theorem aX{l:List (Str×NameKind)}{x:Str}{k:NameKind}(h:(l.lookup x == some k)=true):l.lookup x=some k:=beq_iff_eq.mp h
noncomputable def F5[DecidableEq Str] (fs:FS) (cl:Bool) (x:Str):Option Nat:=(fs.res.lookup x).bind λi=>Ky (grd (fs.sc.lookup x == some .local) (some i)) (grd cl (grd (fs.sc.lookup x == some .cell) (some i)))
theorem A0{fs:FS}{cl:Bool}{x:Str}:i9 (K1 fs cl x) (F5 fs cl x) :=
 .Xz λi e=>.Ky (.grd λh=>⟨e,.inl (aX h)⟩) (.grd λhc=>.grd λh=>⟨e,.inr ⟨hc,aX h⟩⟩)
noncomputable def lH[DecidableEq Str] (fs:FS) (cl:Bool) (t:Expr):Option Tg:=Ky (name? t λx _=>(F5 fs cl x).map .one)
 (aV t λes _ _=>Lh es λa b=>name? a λx _=>name? b λy _=>(F5 fs cl x).bind λi=>(F5 fs cl y).map (.two i))
theorem Ol{fs:FS}{cl:Bool}{t:Expr}:i9 (U8 fs cl t) (lH fs cl t) :=
 .Ky (i9.name? (P:=U8 fs cl) λ_ _=>A0.map λ_ h=>.one h)
  (i9.aV (P:=U8 fs cl) λ_ _ _=>i9.Lh (P:=λl=>U8 fs cl (.Tuple l _ _)) λ_ b=>i9.name? (P:=λa=>U8 fs cl (.Tuple [a,b] _ _)) λx p=>i9.name? (P:=λb=>U8 fs cl (.Tuple [.Name x p,b] _ _)) λy q=>A0.bind λ_ h=>A0.map λ_ h'=>.two h h')
noncomputable def Om[DecidableEq Str] (fs:FS) (scope:Scope) (tg:Tg):Bool :=
 scope.kind == .function && scope.names.all (λx=>x.2 != .cell) && scope.names.all (λx=>x.2 != .local || scope.names.lookup x.1 == some .local) &&
 scope.names.all (λx=>x.2 != .free || ((fs.sc.lookup x.1 == some .cell || fs.sc.lookup x.1 == some .free) && (fs.res.lookup x.1).isSome)) &&
 scope.names.all (λx=>x.2 != .local || (fs.res.lookup x.1).all λi=>(N4 tg).contains i)
theorem an{a b:Bool}{P:Prop}(h:(a && b)=true) (k:a=true→b=true→P):P:=match a,b,h,k with
 | true,true,_,k=>k rfl rfl
theorem nt{a:Bool}(h:(!a)=true):a=false:=match a,h with
 | false,_=>rfl
theorem eM{α:Type}[BEq α] [LawfulBEq α]{a b:α}{c:Bool}(h:(a != b || c)=true) (e:a=b):c=true:=(Bool.or_eq_true_iff.mp h).resolve_left λq=>bne_iff_ne.mp q e
theorem Et{fs:FS}{scope:Scope}{tg:Tg}(h:Om fs scope tg=true):A8 fs scope tg :=
 an h λh h5=>an h λh h4=>an h λh h3=>an h λh1 h2=>⟨beq_iff_eq.mp h1,λx hx=>bne_iff_ne.mp (List.all_eq_true.mp h2 x hx),λx hx e=>beq_iff_eq.mp (eM (List.all_eq_true.mp h3 x hx) e),
  λx hx e=>an (eM (List.all_eq_true.mp h4 x hx) e) λa b=>⟨(Bool.or_eq_true_iff.mp a).imp beq_iff_eq.mp beq_iff_eq.mp,b⟩,λx i hm hr=>List.contains_iff_mem.mp ((congrArg (Option.all λi=>(N4 tg).contains i) hr).symm.trans (eM (List.all_eq_true.mp h5 _ hm) rfl))⟩
noncomputable def eN(e:Option Expr) (k:Option Nat→Option X):Option X:=match e with
 | none=>k none
 | some e=>Rr e λv _ _=>int? v λi=>match i with
  | .ofNat n=>k (some n)
  | .negSucc _=>none
theorem Ru{P:Option Expr→X→Prop}{k:Option Nat→Option X}{e:Option Expr}(h:∀e x,Eo e x→i9 (P e) (k x)):i9 (P e) (eN e k):=match e with
 | none=>h _ _ .none
 | some e=>i9.Rr (P:=λe=>P (some e)) λv a b=>i9.int? (P:=λv=>P (some (.Constant v a b))) λi=>match i with
  | .ofNat n=>h _ _ (.some n)
  | .negSucc _=>trivial
noncomputable def stepK[DecidableEq Str] (cx:FS→Expr→Option X) (fs:FS) (e:Expr):Option X:=match e with
 | .ListComp elt gens scope _=>name? elt λa _=>gen? gens λt d ifs=>name? t λb pb=>one? ifs λq=>match q with
  | .Compare l ops rs _=>one? ops λop=>one? rs λr=>(match l with
   | .Subscript u v _=>name? u λe _=>Rr v λv _ _=>int? v λi=>Rr r λr _ _=>lG r λx =>
    grd (decide (a=b) && decide (b=e) && decide (i=0) && decide (op=.In) && !(b == ("__debug__":Str)) && Je d) ((F5 (m0 fs scope) false b).bind λj=>grd (Om fs scope (.one j)) ((cx fs d).map λxi=>.Nu xi x))
   | _=>none)
  | _=>none
 | _=>none
noncomputable def vM(v:Const):Option X:=match v with
 | .int i=>some (.con (.int i))
 | .str x=>some (.con (.str x))
 | .none=>some (.con .none)
 | .bool b=>some (.con (.bool b))
 | _=>none
noncomputable def oS(k:Option NameKind):Bool:=k == some .local || k == some .cell || k == some .free
noncomputable def Vc(f:Expr→Option X):List (Option Expr)→List Expr→Option (List X)
 | [],vs=>S9 vs (some [])
 | k::ks,vs=>match vs with
  | []=>none
  | v::vs=>R8 k λk=>(f k).bind λa=>(f v).bind λb=>(Vc f ks vs).map λr=>a::b::r
noncomputable def vN(cx:Expr→Option X) (o i:Expr):Option X:=Uq none i (Oc:=λlo hi st _=>none? st (grd (isName o) ((cx o).bind λx=>eN lo λa=>eN hi λb=>some (.slc x a b))))
noncomputable def a0u(cx:Expr→Option X) (o i:Expr):Option X:=grd (Rt i) ((cx o).bind λx=>(cx i).map λy=>.sub x y)
noncomputable def On[DecidableEq Str] (v:Value) (x:Str):Bool:=match v with
 | .str s _=>decide (s=x)
 | _=>false
theorem aY{v:Value}{x:Str}:On v x=v.isStr x:=by cases v<;>rfl
noncomputable def vO{β:Type}(d:Data) (f:List DictEntry→Option β):Option β:=match d with
 | .dict es _=>f es.toList
 | _=>none
noncomputable def Yc[DecidableEq Str] (K:Frag) (x:Str):Option V:=(K.lookup mainGlobals).bind λo=>vO o.data λes =>
 ((es.find? λe=>On e.key x).map λe=>Fq e.val).getD (grd (!es.any (·.refKey)) (yK (decide (x = "__name__")) none ((bootBuiltins x).bind Fq)))
theorem Jf{K:Frag}{x:Str}{v:V}(h:Yc K x=some v):Lf K x=some v:=by
 obtain⟨⟨oc,od,d,sl⟩,h1,h2⟩:=Option.bind_eq_some_iff.mp h
 cases d with
 | dict es n =>
  refine Eq.trans ?_ h2
  unfold Lf nsIn
  rw[h1]
  show _=((es.toList.find? λe=>On e.key x).map λe=>Fq e.val).getD _
  rw[show(λe:DictEntry=>On e.key x)=λe=>e.key.isStr x from funext λe=>aY]
  dsimp only
  cases es.toList.find? λe=>e.key.isStr x with
  | some e=>rfl
  | none =>
   cases es.toList.any (·.refKey) with
   | true=>rfl
   | false =>
    by_cases q:x = "__name__"
    ·subst q; rfl
    ·show(if (x == "__name__")=true then _ else _)=yK (decide (x = "__name__")) _ _
     rw[if_neg (λe=>q (beq_iff_eq.mp e)),decide_eq_false q]
     rfl
 | _=>cases h2
noncomputable def oU[DecidableEq Str] (K:Frag) (cx:Expr→Option X) (fs:FS) (f:Expr) (es:List Expr):Option X:=name? f λid _ =>
 grd (!(id == ("__debug__":Str)) && es.all t5 && (fs.sc.lookup id == some .globalImplicit)) ((Yc K id).bind λv=>match v with
  | .fix f=>grd (calleeOk K f) ((J7 cx es).map λxs=>.call (.con (.fix f)) xs)
  | _=>none)
noncomputable def oV(cx:Expr→Option X) (f:Expr) (es:List Expr) (pos:Pos):Option X:=Uq none f (U5:=λo name ap=>grd (Oj o && es.all t5 && decide (ap.endLine=pos.line) && decide (es.length < 30)) ((cx o).bind λx=>(J7 cx es).map λxs=>.meth x name xs))
noncomputable def vP[DecidableEq Str] (cx:FS→Expr→Option X) (cb:FS→Expr→Option B) (fs:FS) (elt:Expr) (gens:List Comprehension) (scope:Scope):Option X:=gen? gens λt iter ifs =>
 grd (Je iter) ((lH (m0 fs scope) false t).bind λtg=>grd (Om fs scope tg) ((cx fs iter).bind λxi=>(cx (m0 fs scope) elt).bind λxe=>(J7 (cb (m0 fs scope)) ifs).map λxs=>.comp xe tg xi xs))
noncomputable def oW[DecidableEq Str] (K:Frag) (cx:FS→Expr→Option X) (cb:FS→Expr→Option B) (fs:FS) (e:Expr):Option X:=Uq none e
 (Oa:=λx _=>grd (!(x == ("__debug__":Str)) && !(x == ("__classdict__":Str))) (Ky (grd (oS (fs.sc.lookup x)) ((fs.res.lookup x).map .loc)) (grd (fs.sc.lookup x == some .globalImplicit) ((Yc K x).map .con))))
 (Az:=λv _ _=>vM v)
 (Xh:=λl op r _=>(cx fs l).bind λa=>(cx fs r).map λb=>.bin op a b)
 (Em:=λop e _=>Ky (grd (decide (op=.USub)) ((cx fs e).map .neg)) (grd (decide (op=.Not)) ((cx fs e).map .not)))
 (Ij:=λop es _=>match op with
  | .And=>(J7 (cx fs) es).map .and
  | .Or=>(J7 (cx fs) es).map .or)
 (Ob:=λt a b _=>(cb fs t).bind λt=>(cx fs a).bind λa=>(cx fs b).map λb=>.ite t a b)
 (En:=λl ops rs _=>one? ops λop=>one? rs λr=>grd (!behindInMarks op r) ((cx fs l).bind λa=>(cx fs r).map λb=>.cmp op a b))
 (Ur:=λf es ks pos=>S9 ks (Ky (oU K (cx fs) fs f es) (oV (cx fs) f es pos)))
 (U5:=λo name _=>grd (Oj o) ((cx fs o).map λx=>.attr x name))
 (Fv:=λo i _=>Ky (vN (cx fs) o i) (a0u (cx fs) o i))
 (He:=λes _ _=>grd (es.all t5 && decide (es.length≤1000)) ((J7 (cx fs) es).map .tup))
 (Us:=λes _=>grd (es.all t5 && decide (es.length≤1000)) ((J7 (cx fs) es).map .lst))
 (dK:=λks vs _=>grd (decide (vs.length≤15)) ((Vc (cx fs) ks vs).map .dct))
 (Ba:=λelt gens scope _=>vP cx cb fs elt gens scope)
noncomputable def oX(cx:FS→Expr→Option X) (cb:FS→Expr→Option B) (fs:FS) (e:Expr):Option B:=Ky (match e with
 | .UnaryOp op e _=>grd (decide (op=.Not)) ((cb fs e).map .not)
 | .BoolOp op es _=>match op with
  | .And=>(J7 (cb fs) es).map .and
  | .Or=>(J7 (cb fs) es).map .or
 | .Compare l ops rs _=>one? ops λop=>one? rs λr=>grd (!behindInMarks op r) ((cx fs l).bind λa=>(cx fs r).map λb=>.cmp op a b)
 | _=>none) (grd (Oe e) ((cx fs e).map .val))
noncomputable def lI[DecidableEq Str] (K:Frag):Nat→(FS→Expr→Option X)×(FS→Expr→Option B)
 | 0=>(λ_ _=>none,λ_ _=>none)
 | k+1=>(λfs e=>Ky (stepK (lI K k).1 fs e) (oW K (lI K k).1 (lI K k).2 fs e),oX (lI K k).1 (lI K k).2)
section
variable {c:Cx}{n:Nat}{fs:FS}{cx:FS→Expr→Option X}{cb:FS→Expr→Option B}
theorem V7{f:Expr→Option X}(hf:∀e,i9 (SX c n fs e) (f e)):∀{l:List Expr},l.all t5=true→i9 (λr=>kD c n fs l r∧l.length=r.length) (J7 f l)
 | [],_=>⟨qM,rfl⟩
 | a::l,hs=>an hs λh1 h2=>(hf a).bind λ_ h=>(V7 hf h2).map λ_ h'=>⟨Qw h1 h h'.1,congrArg (·+1) h'.2⟩
theorem V8{f:Expr→Option B}(hf:∀e,i9 (SB c n fs e) (f e)):∀{l:List Expr},i9 (Qk c n fs l) (J7 f l)
 | []=>(Qk.nil:Qk c n fs [] [])
 | a::l=>(hf a).bind λ_ h=>(V8 hf).map λ_ h'=>.cons h h'
noncomputable def NE(P:X→List X→Prop) (r:List X):Prop:=match r with
 | []=>False
 | x::r=>P x r
theorem Oo{f:Expr→Option X}{P:List Expr→List X→Prop}(hf:∀e,i9 (SX c n fs e) (f e)) (h1:∀{e x},SX c n fs e x→P [e] [x]) (h2:∀{e e' es x x' xs},SX c n fs e x→P (e'::es) (x'::xs)→P (e::e'::es) (x::x'::xs)) :
  ∀(a:Expr) (l:List Expr),i9 (NE λx r=>P (a::l) (x::r)) (J7 f (a::l))
 | a,[]=>(hf a).bind λ_ h=>h1 h
 | a,b::l=>(hf a).bind λ_ h=>(Oo hf h1 h2 b l).map λr h'=>match r,h' with
  | _::_,h'=>h2 h h'
theorem NE.get{P:X→List X→Prop}{Q:List X→Prop}{r:List X}(h:NE P r) (k:∀x r,P x r→Q (x::r)):Q r:=match r,h with
 | x::r,h=>k x r h
theorem eO{f:Expr→Option X}{pos:Pos}(hf:∀e,i9 (SX c n fs e) (f e)):∀{l:List Expr},i9 (λx=>SX c n fs (.BoolOp .And l pos) x) ((J7 f l).map .and)
 | []=>λ_ _ _ _ _ h=>h.elim
 | a::l=>(Oo (P:=λl r=>SX c n fs (.BoolOp .And l pos) (.and r)) hf uB zN a l).map λ_ h=>h.get (Q:=λr=>SX c n fs (.BoolOp .And (a::l) pos) (.and r)) λ_ _ h=>h
theorem lJ{f:Expr→Option X}{pos:Pos}(hf:∀e,i9 (SX c n fs e) (f e)):∀{l:List Expr},i9 (λx=>SX c n fs (.BoolOp .Or l pos) x) ((J7 f l).map .or)
 | []=>λ_ _ _ _ _ h=>h.elim
 | a::l=>(Oo (P:=λl r=>SX c n fs (.BoolOp .Or l pos) (.or r)) hf zO mOr a l).map λ_ h=>h.get (Q:=λr=>SX c n fs (.BoolOp .Or (a::l) pos) (.or r)) λ_ _ h=>h
theorem Mf{f:Expr→Option X}(hf:∀e,i9 (SX c n fs e) (f e)):∀{ks:List (Option Expr)}{vs:List Expr},i9 (dM c n fs ks vs) (Vc f ks vs)
 | [],_=>i9.S9 (P:=dM c n fs []) .nil
 | _::_,[]=>True.intro
 | k::ks,v::vs=>i9.R8 (P:=λk=>dM c n fs (k::ks) (v::vs)) λk=>(hf k).bind λ_ h1=>(hf v).bind λ_ h2=>(Mf hf).map λ_ h3=>.cons h1 h2 h3
theorem lK{v:Const}{k:Nat}{pos:Pos}:i9 (SX c n fs (.Constant v k pos)) (vM v):=by
 cases v<;>first | exact True.intro | exact λ_ _ _ _ _ h=>kO h | exact λ_ _ _ _ _ h=>kP h | exact λ_ _ _ _ _ h=>dD h | exact λ_ _ _ _ _ h=>dE h
theorem eP{k:Option NameKind}(h:oS k=true):k=some .local∨k=some .cell∨k=some .free:=by
 rcases Bool.or_eq_true_iff.mp h with h | h
 ·exact(Bool.or_eq_true_iff.mp h).imp beq_iff_eq.mp λh=>.inl (beq_iff_eq.mp h)
 ·exact .inr (.inr (beq_iff_eq.mp h))
theorem lL(hf:∀e,i9 (SX c n fs e) (cx fs e)){o i:Expr}{p:Pos}:i9 (SX c n fs (.Subscript o i p)) (vN (cx fs) o i):=by
 cases i<;>first | exact True.intro | exact i9.none? (P:=λst=>SX c n fs (.Subscript o (.Slice _ _ st _) p)) (.grd λhn=>(hf o).bind λ_ h =>
  Ru (P:=λlo=>SX c n fs (.Subscript o (.Slice lo _ none _) p)) λ_ _ h1=>Ru (P:=λhi=>SX c n fs (.Subscript o (.Slice _ hi none _) p)) λ_ _ h2=>zW h h1 h2 λo r=>rG hn o r)
theorem eQ(G:Good c) (hf:∀e,i9 (SX c n fs e) (cx fs e)){f:Expr}{es:List Expr}{pos:Pos}:i9 (SX c n fs (.Call f es [] pos)) (oU c.K (cx fs) fs f es) :=
 i9.name? (P:=λf=>SX c n fs (.Call f es [] pos)) λid p=>.grd λhd=>an hd λhd hk=>an hd λhd hs=>.Xz λv hv=>match v,hv with
  | .fix f,hv=>.grd λhc=>(V7 hf hs).map λ_ h=>uE G (aX hk) (Jf hv) (nt hd) hc h.1 hs h.2
  | .none,_=>True.intro
  | .bool _,_=>True.intro
  | .int _,_=>True.intro
  | .str _,_=>True.intro
  | .tup _,_=>True.intro
  | .rng _ _,_=>True.intro
  | .ref _,_=>True.intro
theorem eR(G:Good c) (hf:∀e,i9 (SX c n fs e) (cx fs e)){f:Expr}{es:List Expr}{pos:Pos}:i9 (SX c n fs (.Call f es [] pos)) (oV (cx fs) f es pos):=by
 cases f<;>first | exact True.intro | exact .grd λhd=>an hd λhd h4=>an hd λhd h3=>an hd λh1 h2=>(hf _).bind λ_ h=>(V7 hf h2).map λ_ h'=>uF G h (λenv=>Yb h1 _ env) (of_decide_eq_true h3) h'.1 h2 h'.2 (of_decide_eq_true h4)
theorem eS(G:Good c) (hx:∀fs e,Inj fs→i9 (SX c n fs e) (cx fs e)) (hb:∀fs e,Inj fs→i9 (SB c n fs e) (cb fs e)){e:Expr}(hi:Inj fs):i9 (SX c n fs e) (oW c.K cx cb fs e):=by
 have hf:=λe=>hx fs e hi
 cases e with
 | Name x p=>exact .grd λhd=>an hd λh1 h2=>.Ky (.grd λhk=>.vL λi e _ _ _ _ _ h=>zJ e (eP hk) (nt h1) (nt h2) h) (.grd λhk=>.vL λv e _ _ _ _ _ h=>dC G (aX hk) (Jf e) (nt h1) h)
 | Constant v k p=>exact lK
 | BinOp l op r p=>exact(hf l).bind λ_ h1=>(hf r).map λ_ h2=>zK h1 h2
 | UnaryOp op e p=>exact .Ky (.grd λh=>(of_decide_eq_true h) ▸ (hf e).map λ_ h=>zL h) (.grd λh=>(of_decide_eq_true h) ▸ (hf e).map λ_ h=>zM h)
 | BoolOp op es p=>cases op<;>first | exact eO hf | exact lJ hf
 | IfExp t a b p=>exact(hb fs t hi).bind λ_ h1=>(hf a).bind λ_ h2=>(hf b).map λ_ h3=>zP h1 h2 h3
 | Compare l ops rs p=>exact i9.one? (P:=λops=>SX c n fs (.Compare l ops rs p)) λop=>i9.one? (P:=λrs=>SX c n fs (.Compare l [op] rs p)) λr=>.grd λhm=>(hf l).bind λ_ h1=>(hf r).map λ_ h2=>zQ h1 h2 (nt hm)
 | Call f es ks p=>exact i9.S9 (P:=λks=>SX c n fs (.Call f es ks p)) (.Ky (eQ G hf) (eR G hf))
 | Attribute o name p=>exact .grd λh=>(hf o).map λ_ h1=>uC G h1 λenv=>Yb h _ env
 | Subscript o i p=>exact .Ky (lL hf) (.grd λh=>(hf o).bind λ_ h1=>(hf i).map λ_ h2=>zR h1 h2 (aW h))
 | Tuple es k p=>exact .grd λhd=>an hd λh1 h2=>(V7 hf h1).map λ_ h=>uD (of_decide_eq_true h2) h.1
 | List es p=>exact .grd λhd=>an hd λh1 h2=>(V7 hf h1).map λ_ h=>zS (of_decide_eq_true h2) h.1
 | Dict ks vs p=>exact .grd λh=>(Mf hf).map λ_ h1=>zV h1 (of_decide_eq_true h)
 | ListComp elt gens scope p=>exact i9.gen? (P:=λg=>SX c n fs (.ListComp elt g scope p)) λt iter ifs=>.grd λh=>Ol.bind λ_ ht=>.grd λhc=>(hf iter).bind λ_ h1=>(hx (m0 fs scope) elt hi).bind λ_ h2=>(V8 λe=>hb (m0 fs scope) e hi).map λ_ h3=>uP hi h1 (λenv x=>Hh h env x) (Et hc) h2 ht h3
 | _=>exact True.intro
theorem eT(hx:∀e,i9 (SX c n fs e) (cx fs e)) (hb:∀e,i9 (SB c n fs e) (cb fs e)){e:Expr}:i9 (SB c n fs e) (oX cx cb fs e):=by
 refine .Ky ?_ (.grd λhv=>(hx e).map λ_ h=>uI hv h)
 cases e with
 | UnaryOp op e p=>exact .grd λh=>(of_decide_eq_true h) ▸ (hb e).map λ_ h=>uG h
 | BoolOp op es p=>cases op<;>first | exact(V8 hb).map λ_ h=>uL h | exact(V8 hb).map λ_ h=>zU h
 | Compare l ops rs p=>exact i9.one? (P:=λops=>SB c n fs (.Compare l ops rs p)) λop=>i9.one? (P:=λrs=>SB c n fs (.Compare l [op] rs p)) λr=>.grd λhm=>(hx l).bind λ_ h1=>(hx r).map λ_ h2=>uH h1 h2 (nt hm)
 | _=>exact True.intro
theorem eU(hf:∀e,i9 (SX c n fs e) (cx fs e)){e:Expr}(hi:Inj fs):i9 (SX c n fs e) (stepK cx fs e):=by
 cases e with
 | ListComp elt gens scope pos =>
  exact i9.name? (P:=λelt=>SX c n fs (.ListComp elt gens scope pos)) λa pa=>i9.gen? (P:=λg=>SX c n fs (.ListComp (.Name a pa) g scope pos)) λt d ifs =>
   i9.name? (P:=λt=>SX c n fs (.ListComp (.Name a pa) [⟨t,d,ifs,0⟩] scope pos)) λb pb=>i9.one? (P:=λifs=>SX c n fs (.ListComp (.Name a pa) [⟨.Name b pb,d,ifs,0⟩] scope pos)) λq=>by
   cases q with
   | Compare l ops rs p4 =>
    refine i9.one? (P:=λops=>SX c n fs (.ListComp (.Name a pa) [⟨.Name b pb,d,[.Compare l ops rs p4],0⟩] scope pos)) λop=>i9.one? (P:=λrs=>SX c n fs (.ListComp (.Name a pa) [⟨.Name b pb,d,[.Compare l [op] rs p4],0⟩] scope pos)) λr=>?_
    cases l with
    | Subscript u v ps =>
     refine i9.name? (P:=λu=>SX c n fs (.ListComp (.Name a pa) [⟨.Name b pb,d,[.Compare (.Subscript u v ps) [op] [r] p4],0⟩] scope pos)) λe pn=>i9.Rr (P:=λv=>SX c n fs (.ListComp (.Name a pa) [⟨.Name b pb,d,[.Compare (.Subscript (.Name e pn) v ps) [op] [r] p4],0⟩] scope pos)) λv Lg pc =>
      i9.int? (P:=λv=>SX c n fs (.ListComp (.Name a pa) [⟨.Name b pb,d,[.Compare (.Subscript (.Name e pn) (.Constant v Lg pc) ps) [op] [r] p4],0⟩] scope pos)) λi =>
      i9.Rr (P:=λr=>SX c n fs (.ListComp (.Name a pa) [⟨.Name b pb,d,[.Compare (.Subscript (.Name e pn) (.Constant (.int i) Lg pc) ps) [op] [r] p4],0⟩] scope pos)) λr Rq pk =>
      i9.lG (P:=λr=>SX c n fs (.ListComp (.Name a pa) [⟨.Name b pb,d,[.Compare (.Subscript (.Name e pn) (.Constant (.int i) Lg pc) ps) [op] [.Constant r Rq pk] p4],0⟩] scope pos)) λx=>.grd λhd=>an hd λhd h6=>an hd λhd h5=>an hd λhd h4=>an hd λhd h3=>an hd λh1 h2=>?_
     obtain rfl:=of_decide_eq_true h1
     obtain rfl:=of_decide_eq_true h2
     obtain rfl:=of_decide_eq_true h3
     obtain rfl:=of_decide_eq_true h4
     exact A0.bind λj hs=>.grd λhc=>(hf d).map λ_ h=>lF hi h (λenv x=>Hh h6 env x) (Et hc) hs (nt h5)
    | _=>exact True.intro
   | _=>exact True.intro
 | _=>exact True.intro
theorem Vd(G:Good c):∀k,(∀fs e,Inj fs→i9 (SX c n fs e) ((lI c.K k).1 fs e))∧(∀fs e,Inj fs→i9 (SB c n fs e) ((lI c.K k).2 fs e))
 | 0=>⟨λ_ _ _=>True.intro,λ_ _ _=>True.intro⟩
 | k+1=>have ih:=Vd G k; ⟨λfs e hi=>.Ky (eU (λe=>ih.1 fs e hi) hi) (eS G ih.1 ih.2 hi),λfs e hi=>eT (λe=>ih.1 fs e hi) λe=>ih.2 fs e hi⟩
end
noncomputable def Hi{β:Type}(v:Option V) (f:Addr→Option β):Option β:=v.bind λv=>match v with
 | .fix u=>(match u with
  | .ref a=>f a
  | _=>none)
 | _=>none
theorem i9.Hi{β:Type}{P:β→Prop}{f:Addr→Option β}{v:Option V}(h:∀a,v=some (.fix (.ref a))→i9 P (f a)):i9 P (Hi v f):=.Xz λv e=>by
 cases v with
 | fix u=>cases u<;>first | exact h _ e | exact True.intro
 | _=>exact True.intro
noncomputable def aZ[DecidableEq Str]{β:Type}(K:Frag) (i4:Addr) (fs:FS) (e:Expr) (o:Option β):Option β:=name? e λid _=>grd (!(id == ("__debug__":Str)) && (fs.sc.lookup id == some .globalImplicit)) (Hi (Yc K id) λa=>grd (decide (a=i4)) o)
theorem i9.aZ{β:Type}{P:Expr→β→Prop}{K:Frag}{i4:Addr}{fs:FS}{e:Expr}{o:Option β}(h:∀id p,(id == ("__debug__":Str))=false→fs.sc.lookup id=some .globalImplicit→Lf K id=some (.fix (.ref i4))→i9 (P (.Name id p)) o):i9 (P e) (aZ K i4 fs e o) :=
 i9.name? λid p=>.grd λhd=>an hd λh1 h2=>.Hi λa e=>.grd λha=>h id p (nt h1) (aX h2) (Jf ((of_decide_eq_true ha) ▸ e))
noncomputable def isLocal[DecidableEq Str] (fs:FS) (x:Str):Option Nat:=grd (fs.sc.lookup x == some .local) (fs.res.lookup x)
theorem Q5{fs:FS}{x:Str}:i9 (λi=>fs.res.lookup x=some i∧fs.sc.lookup x=some .local) (isLocal fs x):=.grd λh=>by
 cases e:fs.res.lookup x with
 | none=>exact True.intro
 | some i=>exact⟨rfl,aX h⟩
noncomputable def Yd[DecidableEq Str] (cx:FS→Expr→Option X) (cb:FS→Expr→Option B) (fs:FS) (x:Str) (p:Pos) (e:Expr):Option S:=match e with
 | .ListComp elt gens scope cp=>gen? gens λt iter ifs=>(isLocal fs x).bind λi=>(lH (m0 fs scope) false t).bind λtg =>
  grd (Om fs scope tg && Je iter && decide (p.line=cp.line) && !(scope.names.any λy=>y.1 == x && (y.2 == .local || y.2 == .cell)))
   ((cx fs iter).bind λxi=>(cx (m0 fs scope) elt).bind λxe=>(J7 (cb (m0 fs scope)) ifs).map λxs=>.set i (.comp xe tg xi xs))
 | _=>none
noncomputable def a0v[DecidableEq Str] (cx:FS→Expr→Option X) (fs:FS) (x:Str) (e:Expr):Option S:=grd (D0 e) ((F5 fs true x).bind λi=>(cx fs e).map λa=>.set i a)
noncomputable def vQ[DecidableEq Str] (cx:FS→Expr→Option X) (fs:FS) (x y:Str) (e:Expr):Option S:=grd (notTuple e && D0 e) ((F5 fs true x).bind λi=>(F5 fs true y).bind λj=>(cx fs e).map λa=>.aG i j a)
noncomputable def oY[DecidableEq Str] (cx:FS→Expr→Option X) (fs:FS) (x y:Str) (p q:Pos) (e:Expr):Option S:=aV e λes _ _=>Lh es λa b=>name? a λu pu=>name? b λv pv =>
 grd (decide (x≠y) && decide (p.line=q.line) && !(u == ("__debug__":Str))) ((isLocal fs x).bind λi=>(isLocal fs y).bind λj=>(cx fs (.Name u pu)).bind λa=>(cx fs (.Name v pv)).map λb=>.swap i j a b)
noncomputable def eV[DecidableEq Str] (cx:FS→Expr→Option X) (cb:FS→Expr→Option B) (fs:FS) (t e:Expr):Option S:=match t with
 | .Name x p=>Ky (a0v cx fs x e) (Yd cx cb fs x p e)
 | .Tuple es _ _=>Lh es λa b=>name? a λx p=>name? b λy q=>Ky (vQ cx fs x y e) (oY cx fs x y p q e)
 | .Attribute o name _=>grd (D0 e) ((cx fs e).bind λa=>(cx fs o).map λb=>.j5 b name a)
 | .Subscript o i _=>grd (D0 e) ((cx fs e).bind λa=>(cx fs o).bind λb=>(cx fs i).map λd=>.J5 b d a)
 | _=>none
noncomputable def raiseO[DecidableEq Str] (K:Frag) (i4:Addr) (cx:FS→Expr→Option X) (fs:FS) (e:Expr):Option S:=match e with
 | .Call f es ks _=>S9 ks (Lh es λe1 e2=>aZ K i4 fs f (grd (t5 e1 && t5 e2 && calleeOk K (.ref i4)) ((cx fs e1).bind λx1=>(cx fs e2).map λx2=>.raise [x1,x2])))
 | _=>none
noncomputable def bA{β:Type}(s:Stmt) (f:Expr→Option β):Option β:=match s with
 | .Return e _=>R8 e f
 | _=>none
theorem i9.bA{β:Type}{P:Stmt→β→Prop}{f:Expr→Option β}{s:Stmt}(h:∀e p,i9 (P (.Return (some e) p)) (f e)):i9 (P s) (bA s f):=by
 cases s<;>first | exact i9.R8 (P:=λe=>P (.Return e _)) λe=>h e _ | exact True.intro
noncomputable def Oq{β:Type}(e:Expr) (o:Option β):Option β:=Uq none e (Us:=λes _=>S9 es o)
theorem i9.Oq{β:Type}{P:Expr→β→Prop}{o:Option β}{e:Expr}(h:∀p,i9 (P (.List [] p)) o):i9 (P e) (Oq e o):=by
 cases e<;>first | exact i9.S9 (P:=λe=>P (.List e _)) (h _) | exact True.intro
noncomputable def vR[DecidableEq Str] (K:Frag) (i4:Addr) (cx:FS→Expr→Option X) (fs:FS) (b:List Stmt) (hs:List ExceptHandler):Option S:=one? b λs=>bA s λe=>one? hs λh=>match h with
 | .ExceptHandler ty nm hb _=>R8 ty λty=>none? nm (one? hb λs=>bA s λr=>Oq r (aZ K i4 fs ty (grd (exmOne K (.ref i4) (.ref i4) == some true) ((cx fs e).map .kM))))
noncomputable def oZ[DecidableEq Str] (K:Frag) (i4:Addr) (cx:FS→Expr→Option X) (cb:FS→Expr→Option B) (cs:FS→Stmt→Option S) (fs:FS) (s:Stmt):Option S:=match s with
 | .Assign ts e _=>one? ts λt=>eV cx cb fs t e
 | .AugAssign t op e _=>name? t λx _=>(isLocal fs x).bind λi=>(cx fs e).map λa=>.aug i op a
 | .If t b o _=>(cb fs t).bind λt=>(J7 (cs fs) b).bind λb=>(J7 (cs fs) o).map λo=>.ite t b o
 | .While t b o _=>S9 o ((cb fs t).bind λt=>(J7 (cs fs) b).map λb=>.whl t b)
 | .For t it b o _=>S9 o (grd (Je it) ((lH fs true t).bind λtg=>(cx fs it).bind λi=>(J7 (cs fs) b).map λb=>.for tg i b))
 | .Return e _=>R8 e λe=>(cx fs e).map .ret
 | .Raise e o _=>R8 e λe=>none? o (raiseO K i4 cx fs e)
 | .Expr e _=>grd (D0 e) ((cx fs e).map .exp)
 | .Try b h o f _=>S9 o (S9 f (vR K i4 cx fs b h))
 | .Pass _=>some .pass
 | .Continue _=>some .cont
 | _=>none
noncomputable def cS[DecidableEq Str] (K:Frag) (i4:Addr):Nat→FS→Stmt→Option S
 | 0=>λ_ _=>none
 | k+1=>oZ K i4 (lI K (k+1)).1 (lI K (k+1)).2 (cS K i4 k)
section
variable {c:Cx}{n:Nat}{fs:FS}{P fI:Addr}{cd:ClassData}{fd:FuncData}{cx:FS→Expr→Option X}{cb:FS→Expr→Option B}{cs:FS→Stmt→Option S}
theorem N5{f:Stmt→Option S}(hf:∀e,i9 (SS c n fs e) (f e)):∀{l:List Stmt},i9 (lB c n fs l) (J7 f l)
 | []=>uW
 | a::l=>(hf a).bind λ_ h=>(N5 hf).map λ_ h'=>qX h h'
theorem Ve(hx:∀fs e,Inj fs→i9 (SX c n fs e) (cx fs e)) (hb:∀fs e,Inj fs→i9 (SB c n fs e) (cb fs e)) (hi:Inj fs){x:Str}{p pos:Pos}{e:Expr}:i9 (SS c n fs (.Assign [.Name x p] e pos)) (Yd cx cb fs x p e):=by
 cases e<;>first | exact True.intro | exact i9.gen? (P:=λg=>SS c n fs (.Assign [.Name x p] (.ListComp _ g _ _) pos)) λt iter ifs=>Q5.bind λi h1=>Ol.bind λtg h2=>.grd λhd=>an hd λhd d4=>an hd λhd d3=>an hd λd1 d2=>(hx fs iter hi).bind λ_ h3=>(hx (m0 fs _) _ hi).bind λ_ h4=>(V8 λe=>hb (m0 fs _) e hi).map λ_ h5=>dY hi h3 (λenv x=>Hh d2 env x) (Et d1) h4 h2 h5 h1 (of_decide_eq_true d3) (nt d4)
theorem eW(hf:∀e,i9 (SX c n fs e) (cx fs e)) (hi:Inj fs){x y:Str}{p q r pos:Pos}{k:Nat}{e:Expr}:i9 (SS c n fs (.Assign [.Tuple [.Name x p,.Name y q] k r] e pos)) (oY cx fs x y p q e) :=
 i9.aV (P:=λe=>SS c n fs (.Assign [.Tuple [.Name x p,.Name y q] k r] e pos)) λ_ k' r'=>i9.Lh (P:=λl=>SS c n fs (.Assign [.Tuple [.Name x p,.Name y q] k r] (.Tuple l k' r') pos)) λ_ b =>
  i9.name? (P:=λa=>SS c n fs (.Assign [.Tuple [.Name x p,.Name y q] k r] (.Tuple [a,b] k' r') pos)) λu pu=>i9.name? (P:=λb=>SS c n fs (.Assign [.Tuple [.Name x p,.Name y q] k r] (.Tuple [.Name u pu,b] k' r') pos)) λv pv =>
  .grd λhd=>an hd λhd h3=>an hd λh1 h2=>Q5.bind λ_ g1=>Q5.bind λ_ g2=>(hf _).bind λ_ g3=>(hf _).map λ_ g4=>uX hi g3 g4 g1 g2 (of_decide_eq_true h1) (of_decide_eq_true h2) (nt h3)
theorem bB(G:Good c) (hx:∀fs e,Inj fs→i9 (SX c n fs e) (cx fs e)) (hb:∀fs e,Inj fs→i9 (SB c n fs e) (cb fs e)) (hi:Inj fs){t e:Expr}{pos:Pos}:i9 (SS c n fs (.Assign [t] e pos)) (eV cx cb fs t e):=by
 have hf:=λe=>hx fs e hi
 cases t with
 | Name x p=>exact .Ky (.grd λhn=>A0.bind λ_ h1=>(hf e).map λ_ h2=>a0c hi h2 h1 hn) (Ve hx hb hi)
 | Tuple es k r=>exact i9.Lh (P:=λes=>SS c n fs (.Assign [.Tuple es k r] e pos)) λ_ b=>i9.name? (P:=λa=>SS c n fs (.Assign [.Tuple [a,b] k r] e pos)) λx p=>i9.name? (P:=λb=>SS c n fs (.Assign [.Tuple [.Name x p,b] k r] e pos)) λy q=>.Ky (.grd λhn=>an hn λn1 n2=>A0.bind λ_ h1=>A0.bind λ_ h2=>(hf e).map λ_ h3=>uQ hi h3 (.two h1 h2) n2 λenv=>Vb n1 _ env) (eW hf hi)
 | Attribute o name p=>exact .grd λhn=>(hf e).bind λ_ h1=>(hf o).map λ_ h2=>uR G h1 h2 hn
 | Subscript o i p=>exact .grd λhn=>(hf e).bind λ_ h1=>(hf o).bind λ_ h2=>(hf i).map λ_ h3=>uS h1 h2 h3 hn
 | _=>exact True.intro
theorem bC(G:Good c) (Y:Q4 c P fI cd fd) (hf:∀e,i9 (SX c n fs e) (cx fs e)){e:Expr}{pos:Pos}:i9 (SS c n fs (.Raise (some e) none pos)) (raiseO c.K c.i4 cx fs e):=by
 cases e<;>first | exact True.intro | exact i9.S9 (P:=λks=>SS c n fs (.Raise (some (.Call _ _ ks _)) none pos)) (i9.Lh (P:=λes=>SS c n fs (.Raise (some (.Call _ es [] _)) none pos)) λe1 e2=>i9.aZ (P:=λf=>SS c n fs (.Raise (some (.Call f [e1,e2] [] _)) none pos)) λid p d hk hv=>.grd λhd=>an hd λhd h3=>an hd λh1 h2=>(hf e1).bind λ_ g1=>(hf e2).map λ_ g2=>rE G Y hk hv d h3 (Qw h1 g1 (Qw h2 g2 qM)) h1 h2)
theorem lM(G:Good c) (hf:∀e,i9 (SX c n fs e) (cx fs e)){b:List Stmt}{hs:List ExceptHandler}{pos:Pos}:i9 (SS c n fs (.Try b hs [] [] pos)) (vR c.K c.i4 cx fs b hs) :=
 i9.one? (P:=λb=>SS c n fs (.Try b hs [] [] pos)) λ_=>i9.bA (P:=λs=>SS c n fs (.Try [s] hs [] [] pos)) λe p1=>i9.one? (P:=λhs=>SS c n fs (.Try [.Return (some e) p1] hs [] [] pos)) λh=>match h with
  | .ExceptHandler ty nm hb hp=>i9.R8 (P:=λty=>SS c n fs (.Try [.Return (some e) p1] [.ExceptHandler ty nm hb hp] [] [] pos)) λty=>i9.none? (P:=λnm=>SS c n fs (.Try [.Return (some e) p1] [.ExceptHandler (some ty) nm hb hp] [] [] pos))
   (i9.one? (P:=λhb=>SS c n fs (.Try [.Return (some e) p1] [.ExceptHandler (some ty) none hb hp] [] [] pos)) λs=>i9.bA (P:=λs=>SS c n fs (.Try [.Return (some e) p1] [.ExceptHandler (some ty) none [s] hp] [] [] pos)) λr p2 =>
    i9.Oq (P:=λr=>SS c n fs (.Try [.Return (some e) p1] [.ExceptHandler (some ty) none [.Return (some r) p2] hp] [] [] pos)) λlp=>i9.aZ (P:=λty=>SS c n fs (.Try [.Return (some e) p1] [.ExceptHandler (some ty) none [.Return (some (.List [] lp)) p2] hp] [] [] pos)) λid p d hk hv=>.grd λhm=>(hf e).map λ_ g=>a0q G g hk hv d (beq_iff_eq.mp hm))
theorem eX(G:Good c) (Y:Q4 c P fI cd fd) (hx:∀fs e,Inj fs→i9 (SX c n fs e) (cx fs e)) (hb:∀fs e,Inj fs→i9 (SB c n fs e) (cb fs e)) (hs:∀fs e,Inj fs→i9 (SS c n fs e) (cs fs e)){e:Stmt}(hi:Inj fs):i9 (SS c n fs e) (oZ c.K c.i4 cx cb cs fs e):=by
 have hf:=λe=>hx fs e hi
 have hS:=λe=>hs fs e hi
 cases e with
 | Assign ts e p=>exact i9.one? (P:=λts=>SS c n fs (.Assign ts e p)) λt=>bB G hx hb hi
 | AugAssign t op e p=>exact i9.name? (P:=λt=>SS c n fs (.AugAssign t op e p)) λx q=>Q5.bind λ_ h1=>(hf e).map λ_ h2=>a0e hi h2 h1
 | If t b o p=>exact(hb fs t hi).bind λ_ h1=>(N5 hS).bind λ_ h2=>(N5 hS).map λ_ h3=>mIf h1 h2 h3
 | While t b o p=>exact i9.S9 (P:=λo=>SS c n fs (.While t b o p)) ((hb fs t hi).bind λ_ h1=>(N5 hS).map λ_ h2=>a0i h1 h2)
 | For t it b o p=>exact i9.S9 (P:=λo=>SS c n fs (.For t it b o p)) (.grd λhn=>Ol.bind λ_ h1=>(hf it).bind λ_ h2=>(N5 hS).map λ_ h3=>a0k hi h2 h1 h3 λenv x=>Hh hn env x)
 | Return e p=>exact i9.R8 (P:=λe=>SS c n fs (.Return e p)) λe=>(hf e).map λ_ h=>a0f h
 | Raise e o p=>exact i9.R8 (P:=λe=>SS c n fs (.Raise e o p)) λe=>i9.none? (P:=λo=>SS c n fs (.Raise (some e) o p)) (bC G Y hf)
 | Expr e p=>exact .grd λhn=>(hf e).map λ_ h=>a0g h hn
 | Try b h o f p=>exact i9.S9 (P:=λo=>SS c n fs (.Try b h o f p)) (i9.S9 (P:=λf=>SS c n fs (.Try b h [] f p)) (lM G hf))
 | Pass p=>exact uU
 | Continue p=>exact uV
 | _=>exact True.intro
theorem pA(G:Good c) (Y:Q4 c P fI cd fd):∀k fs e,Inj fs→i9 (SS c n fs e) (cS c.K c.i4 k fs e)
 | 0,_,_,_=>True.intro
 | k+1,fs,e,hi=>eX G Y (Vd G (k+1)).1 (Vd G (k+1)).2 (pA G Y k) hi
noncomputable def fastNames[DecidableEq Str] (sc:Scope):List Str :=
 let l:=sc.more.filterMap λp=>match p with
  | (k,.str x)=>if k == ("fast":Str) then some x else none
  | _=>none
 if l.isEmpty then (sc.names.filter λp=>p.2 == .local || p.2 == .cell).map (·.1) else l
noncomputable def eY{β:Type}(d:Data) (f:FuncData→Option β):Option β:=match d with
 | .func fd=>f fd
 | _=>none
theorem i9.eY{β:Type}{P:Data→β→Prop}{f:FuncData→Option β}{d:Data}(h:∀fd,i9 (P (.func fd)) (f fd)):i9 (P d) (eY d f):=by
 cases d<;>first | exact h _ | exact True.intro
noncomputable def a0w[DecidableEq Str] (K:Frag) (fd:FuncData) (fs:FS) (ps:List Str):Bool :=
 codeIn K fd.code fd.qualname && (fd.globals == mainGlobals && (fd.builtins == builtinsNs && (fd.closure.isEmpty && (fd.scope.kind == .function && (!fd.scope.isCoroutine && (!fd.scope.isGenerator &&
    (fd.params.posonlyargs.isEmpty && (fd.params.vararg.isNone && (fd.params.kwonlyargs.isEmpty && (fd.params.kwarg.isNone && (fd.defaults == .none &&
    ((ps.zipIdx).all (λp=>fs.res.lookup p.1 == some p.2 && (fs.sc.lookup p.1 == some .local || fs.sc.lookup p.1 == some .cell)) && fs.sc.all (λp=>p.2 != .free)))))))))))))
noncomputable def A6[DecidableEq Str] (K:Frag) (i4:Addr) (f:Addr):Option (Nat×List S):=(K.lookup f).bind λo=>eY o.data λfd=>match fd.body with
 | .stmts body=>grd (a0w K fd ⟨fd.scope.names,(fastNames fd.scope).zipIdx⟩ (fd.params.args.map (·.arg))) ((J7 (cS K i4 40 ⟨fd.scope.names,(fastNames fd.scope).zipIdx⟩) body).map λxs=>((fd.params.args.map (·.arg)).length,xs))
 | _=>none
theorem I0{l:List Str}{i:Nat}{x:Str}:(x,i)∈l.zipIdx↔l[i]?=some x:=List.mk_mem_zipIdx_iff_getElem?
theorem Vf(l:List Str) (sc:List (Str×NameKind)):Inj ⟨sc,l.zipIdx⟩:=λx y i h1 h2=>Option.some.inj ((I0.mp (mem_of_lookup h1)).symm.trans (I0.mp (mem_of_lookup h2)))
theorem Ha{ps:List Str}{fs:FS}(h:∀p∈ps.zipIdx,fs.res.lookup p.1=some p.2):ps.Nodup:=List.pairwise_iff_getElem.mpr λi j hi hj hij e =>
 Nat.ne_of_lt hij (Option.some.inj ((h (ps[i],i) (I0.mpr (List.getElem?_eq_getElem hi))).symm.trans ((congrArg (λy=>fs.res.lookup y) e).trans (h (ps[j],j) (I0.mpr (List.getElem?_eq_getElem hj))))))
theorem eZ(G:Good c) (Y:Q4 c P fI cd fd){f:Addr}{n:Nat}{Z:a5}{Q:V→a5→Prop}{E:a5→Prop} :
  i9 (λr=>∀{vs:List V},vs.length=r.1→l6 c n r.2 (Gw vs) Z (s9 Q) E→Mc c (n+1) (.fix (.ref f)) vs Z Q E) (A6 c.K c.i4 f):=.Xz fun⟨oc,od,d,osl⟩ hat=>by
 cases d with
 | func fd' =>
  refine(?_:i9 _ (match fd'.body with | .stmts body=>_ | _=>none))
  cases hbody:fd'.body with
  | stmts body =>
   refine .grd λhc=>?_
   have hi:=Vf (fastNames fd'.scope) fd'.scope.names
   refine(N5 (n:=n) λe=>pA G Y 40 _ e hi).map λxs h1 vs hlen hw=>?_
   refine an hc λc1 hc=>an hc λc2 hc=>an hc λc3 hc=>an hc λc4 hc=>an hc λc5 hc=>an hc λc6 hc=>an hc λc7 hc=>an hc λc8 hc=>an hc λc9 hc=>an hc λc10 hc=>an hc λc11 hc=>an hc λc12 hc=>an hc λc13 c14=>?_
   have vS:=λp hp=>an (List.all_eq_true.mp c13 p hp) λh1 h2=>(⟨beq_iff_eq.mp h1,(Bool.or_eq_true_iff.mp h2).imp beq_iff_eq.mp beq_iff_eq.mp⟩:_∧(_∨_))
   refine lD G (fd:=fd') (body:=body) ⟨⟨oc,od,osl,hat⟩,hbody,c1,beq_iff_eq.mp c2,beq_iff_eq.mp c3,List.isEmpty_iff.mp c4,beq_iff_eq.mp c5,nt c6,nt c7,λvals hl=>V6 (List.isEmpty_iff.mp c8) (Option.isNone_iff_eq_none.mp c9) (List.isEmpty_iff.mp c10) (Option.isNone_iff_eq_none.mp c11) (beq_iff_eq.mp c12) (Ha (fs:=⟨fd'.scope.names,(fastNames fd'.scope).zipIdx⟩) λp hp=>(vS p hp).1) hl⟩
    ⟨hi,λk x hk=>vS (x,k) (I0.mpr hk),λx hx=>?_⟩ rfl h1 hlen hw
   exact bne_iff_ne.mp (List.all_eq_true.mp c14 _ (mem_of_lookup hx)) rfl
  | _=>exact True.intro
 | _=>exact True.intro
end
end Mine
end
section
open PySem PySem.W PyProof.Rows PySem.Calls
set_option Elab.async false
set_option maxRecDepth 100000
namespace Mine
noncomputable def K4:List S:=[(.j5 (.loc 0) "code" (.loc 1)),(.j5 (.loc 0) "at" (.loc 2))]
noncomputable def Jg:List S:=[(.j5 (.loc 0) "rows" (.lst [])),(.j5 (.loc 0) "index" (.dct [])),(.j5 (.loc 0) "depths" (.lst [])),(.j5 (.loc 0) "weights" (.lst [])),(.j5 (.loc 0) "opens" (.lst [])),(.for (.one 1) (.call (.con (.fix (.type "range"))) [(.con (.int 16))]) [(.set 2 (.tup [(.con (.int 1)),(.loc 1)])),(.exp (.meth (.attr (.loc 0) "rows") "append" [(.loc 2)])),(.J5 (.attr (.loc 0) "index") (.loc 2) (.loc 1)),(.exp (.meth (.attr (.loc 0) "depths") "append" [(.con (.int 1))])),(.exp (.meth (.attr (.loc 0) "weights") "append" [(.con (.int 1))])),(.exp (.meth (.attr (.loc 0) "opens") "append" [(.con (.int 0))]))])]
noncomputable def Mg:List S:=[(.ite (.or [(.cmp .Lt (.loc 1) (.con (.int 0))),(.cmp .GtE (.loc 1) (.call (.con (.fix (.builtin "len"))) [(.attr (.loc 0) "rows")]))]) [(.raise [(.con (.str "number")),(.loc 1)])] []),(.ret (.sub (.attr (.loc 0) "rows") (.loc 1)))]
noncomputable def N6:List S:=[(.set 2 (.meth (.attr (.loc 0) "index") "get" [(.loc 1),(.neg (.con (.int 1)))])),(.ite (.cmp .GtE (.loc 2) (.con (.int 0))) [(.ret (.loc 2))] []),(.exp (.call (.con (.fix (.ref 118))) [(.loc 0),(.loc 1)])),(.set 3 (.con (.int 1))),(.set 4 (.con (.int 1))),(.set 5 (.con (.int 0))),(.ite (.or [(.cmp .Eq (.sub (.loc 1) (.con (.int 0))) (.con (.int 6))),(.cmp .Eq (.sub (.loc 1) (.con (.int 0))) (.con (.int 7)))]) [(.set 5 (.con (.int 1)))] []),(.set 6 (.call (.con (.fix (.ref 104))) [(.sub (.loc 1) (.con (.int 0)))])),(.for (.one 7) (.call (.con (.fix (.ref 97))) [(.loc 1)]) [(.ite (.cmp .Gt (.bin .Add (.sub (.attr (.loc 0) "depths") (.loc 7)) (.loc 6)) (.loc 3)) [(.set 3 (.bin .Add (.sub (.attr (.loc 0) "depths") (.loc 7)) (.loc 6)))] []),(.aug 4 .Add (.sub (.attr (.loc 0) "weights") (.loc 7))),(.ite (.cmp .Eq (.sub (.attr (.loc 0) "opens") (.loc 7)) (.con (.int 1))) [(.set 5 (.con (.int 1)))] [])]),(.ite (.cmp .Gt (.loc 3) (.con (.int 24))) [(.raise [(.con (.str "depth")),(.loc 3)])] []),(.ite (.cmp .Gt (.loc 4) (.con (.int 4096))) [(.raise [(.con (.str "large")),(.loc 4)])] []),(.set 8 (.call (.con (.fix (.builtin "len"))) [(.attr (.loc 0) "rows")])),(.exp (.meth (.attr (.loc 0) "rows") "append" [(.loc 1)])),(.J5 (.attr (.loc 0) "index") (.loc 1) (.loc 8)),(.exp (.meth (.attr (.loc 0) "depths") "append" [(.loc 3)])),(.exp (.meth (.attr (.loc 0) "weights") "append" [(.loc 4)])),(.exp (.meth (.attr (.loc 0) "opens") "append" [(.loc 5)])),(.ret (.loc 8))]
noncomputable def V9:List S:=[(.set 1 (.sub (.loc 0) (.con (.int 0)))),(.ite (.or [(.cmp .Eq (.loc 1) (.con (.int 2))),(.cmp .Eq (.loc 1) (.con (.int 3)))]) [(.ret (.sub (.loc 0) (.con (.int 2))))] []),(.ite (.or [(.cmp .Eq (.loc 1) (.con (.int 4))),(.cmp .Eq (.loc 1) (.con (.int 5))),(.cmp .Eq (.loc 1) (.con (.int 8))),(.cmp .Eq (.loc 1) (.con (.int 9))),(.cmp .Eq (.loc 1) (.con (.int 11)))]) [(.ret (.tup [(.sub (.loc 0) (.con (.int 1)))]))] []),(.ite (.cmp .Eq (.loc 1) (.con (.int 10))) [(.ret (.bin .Add (.tup [(.sub (.loc 0) (.con (.int 1)))]) (.sub (.loc 0) (.con (.int 3)))))] []),(.ret (.tup []))]
noncomputable def Co:List S:=[(.ite (.or [(.cmp .Eq (.loc 0) (.con (.int 2))),(.cmp .Eq (.loc 0) (.con (.int 3))),(.cmp .Eq (.loc 0) (.con (.int 4)))]) [(.ret (.con (.int 1)))] []),(.ret (.con (.int 0)))]
noncomputable def Ae:List S:=[(.ite (.or [(.cmp .Eq (.loc 0) (.con (.int 2))),(.cmp .Eq (.loc 0) (.con (.int 3)))]) [(.ret (.con (.int 3)))] []),(.ite (.cmp .Eq (.loc 0) (.con (.int 10))) [(.ret (.con (.int 4)))] []),(.ret (.con (.int 2)))]
noncomputable def z7:List S:=[(.ite (.or [(.cmp .Eq (.call (.con (.fix (.builtin "len"))) [(.loc 1)]) (.con (.int 0))),(.cmp .LtE (.sub (.loc 1) (.con (.int 0))) (.con (.int 1))),(.cmp .Gt (.sub (.loc 1) (.con (.int 0))) (.con (.int 11)))]) [(.raise [(.con (.str "sort")),(.con (.int 0))])] []),(.set 2 (.sub (.loc 1) (.con (.int 0)))),(.ite (.cmp .NotEq (.call (.con (.fix (.builtin "len"))) [(.loc 1)]) (.call (.con (.fix (.ref 111))) [(.loc 2)])) [(.raise [(.con (.str "length")),(.loc 2)])] []),(.for (.one 3) (.call (.con (.fix (.ref 97))) [(.loc 1)]) [(.exp (.meth (.loc 0) "row" [(.loc 3)]))]),(.ite (.or [(.cmp .Eq (.loc 2) (.con (.int 2))),(.cmp .Eq (.loc 2) (.con (.int 3)))]) [(.exp (.call (.con (.fix (.ref 125))) [(.loc 0),(.loc 1)]))] [(.ite (.or [(.cmp .Eq (.loc 2) (.con (.int 6))),(.cmp .Eq (.loc 2) (.con (.int 7)))]) [(.ite (.cmp .Lt (.sub (.loc 1) (.con (.int 1))) (.con (.int 0))) [(.raise [(.con (.str "place")),(.sub (.loc 1) (.con (.int 1)))])] [])] [(.ite (.cmp .Eq (.loc 2) (.con (.int 10))) [(.ite (.or [(.not (.val (.call (.con (.fix (.ref 139))) [(.loc 0),(.sub (.loc 1) (.con (.int 1)))]))),(.cmp .Lt (.sub (.loc 1) (.con (.int 2))) (.con (.int 0)))]) [(.raise [(.con (.str "method")),(.sub (.loc 1) (.con (.int 2)))])] []),(.exp (.call (.con (.fix (.ref 132))) [(.loc 0),(.sub (.loc 1) (.con (.int 3)))]))] [(.ite (.cmp .Eq (.loc 2) (.con (.int 8))) [(.ite (.not (.or [(.val (.call (.con (.fix (.ref 223))) [(.loc 0),(.sub (.loc 1) (.con (.int 1)))])),(.val (.call (.con (.fix (.ref 230))) [(.loc 0),(.sub (.loc 1) (.con (.int 1)))]))])) [(.raise [(.con (.str "boxed")),(.sub (.loc 1) (.con (.int 1)))])] [])] [(.ite (.not (.val (.call (.con (.fix (.ref 139))) [(.loc 0),(.sub (.loc 1) (.con (.int 1)))]))) [(.raise [(.con (.str "inner")),(.sub (.loc 1) (.con (.int 1)))])] [])])])])])]
noncomputable def W0:List S:=[(.ite (.or [(.cmp .LtE (.sub (.loc 1) (.con (.int 1))) (.con (.int 0))),(.cmp .In (.sub (.loc 1) (.con (.int 1))) (.con (.fix (.ref 55))))]) [(.raise [(.con (.str "named")),(.sub (.loc 1) (.con (.int 1)))])] []),(.exp (.call (.con (.fix (.ref 132))) [(.loc 0),(.sub (.loc 1) (.con (.int 2)))]))]
noncomputable def Af:List S:=[(.for (.one 2) (.loc 1) [(.ite (.not (.val (.call (.con (.fix (.ref 139))) [(.loc 0),(.loc 2)]))) [(.raise [(.con (.str "argument")),(.loc 2)])] [])])]
noncomputable def Cp:List S:=[(.ite (.or [(.cmp .Eq (.loc 1) (.con (.int 0))),(.cmp .Eq (.loc 1) (.con (.int 14)))]) [(.ret (.con (.bool false)))] []),(.set 2 (.sub (.meth (.loc 0) "row" [(.loc 1)]) (.con (.int 0)))),(.ret (.or [(.cmp .LtE (.loc 2) (.con (.int 4))),(.cmp .Eq (.loc 2) (.con (.int 6))),(.cmp .Eq (.loc 2) (.con (.int 7)))]))]
noncomputable def Ag:List S:=[(.ite (.cmp .In (.loc 1) (.con (.fix (.ref 55)))) [(.ret (.call (.con (.fix (.ref 160))) [(.loc 1),(.loc 2)]))] []),(.ret (.meth (.loc 0) "put" [(.tup [(.con (.int 2)),(.loc 1),(.loc 2)])]))]
noncomputable def Ah:List S:=[(.ite (.cmp .In (.loc 1) (.con (.fix (.ref 55)))) [(.ret (.call (.con (.fix (.ref 160))) [(.loc 1),(.loc 2)]))] []),(.ret (.meth (.loc 0) "put" [(.tup [(.con (.int 3)),(.loc 1),(.loc 2)])]))]
noncomputable def Cq:List S:=[(.ite (.cmp .Gt (.call (.con (.fix (.builtin "len"))) [(.loc 1)]) (.con (.int 0))) [(.raise [(.con (.str "argument")),(.loc 0)])] []),(.ret (.sub (.con (.fix (.ref 55))) (.loc 0)))]
noncomputable def Ai:List S:=[(.ret (.meth (.loc 0) "put" [(.tup [(.con (.int 4)),(.loc 1)])]))]
noncomputable def Aj:List S:=[(.ret (.meth (.loc 0) "put" [(.tup [(.con (.int 5)),(.loc 1)])]))]
noncomputable def Fx:List S:=[(.ret (.meth (.loc 0) "put" [(.tup [(.con (.int 6)),(.loc 1)])]))]
noncomputable def Cr:List S:=[(.ret (.meth (.loc 0) "put" [(.tup [(.con (.int 7)),(.loc 1)])]))]
noncomputable def Ak:List S:=[(.ret (.meth (.loc 0) "put" [(.tup [(.con (.int 9)),(.loc 1)])]))]
noncomputable def Cs:List S:=[(.ret (.sub (.meth (.loc 0) "row" [(.loc 1)]) (.con (.int 0))))]
noncomputable def Mh:List S:=[(.set 2 (.meth (.loc 0) "row" [(.loc 1)])),(.ite (.or [(.cmp .Eq (.sub (.loc 2) (.con (.int 0))) (.con (.int 2))),(.cmp .Eq (.sub (.loc 2) (.con (.int 0))) (.con (.int 3)))]) [(.ret (.sub (.loc 2) (.con (.int 1))))] []),(.ite (.cmp .Eq (.sub (.loc 2) (.con (.int 0))) (.con (.int 1))) [(.ret (.meth (.con (.fix (.ref 54))) "get" [(.loc 1),(.con (.int 0))]))] []),(.ite (.cmp .Eq (.sub (.loc 2) (.con (.int 0))) (.con (.int 4))) [(.ret (.con (.int 5)))] []),(.ret (.con (.int 0)))]
noncomputable def Jh:List S:=[(.set 2 (.meth (.loc 0) "row" [(.loc 1)])),(.ite (.or [(.cmp .Eq (.sub (.loc 2) (.con (.int 0))) (.con (.int 2))),(.cmp .Eq (.sub (.loc 2) (.con (.int 0))) (.con (.int 3)))]) [(.ret (.sub (.loc 2) (.con (.int 2))))] []),(.ret (.tup []))]
noncomputable def Fy:List S:=[(.ite (.and [(.cmp .LtE (.con (.int 1)) (.loc 1)),(.cmp .LtE (.loc 1) (.con (.int 11)))]) [(.ret (.con (.bool true)))] []),(.ret (.cmp .Eq (.sub (.meth (.loc 0) "row" [(.loc 1)]) (.con (.int 0))) (.con (.int 3))))]
noncomputable def Mi:List S:=[(.set 2 (.sub (.meth (.loc 0) "row" [(.loc 1)]) (.con (.int 0)))),(.ret (.or [(.cmp .Eq (.loc 2) (.con (.int 6))),(.cmp .Eq (.loc 2) (.con (.int 7)))]))]
noncomputable def Rv:List S:=[(.exp (.meth (.loc 0) "row" [(.loc 1)])),(.ite (.cmp .Eq (.sub (.attr (.loc 0) "opens") (.loc 1)) (.con (.int 0))) [(.ret (.loc 1))] []),(.ret (.call (.con (.fix (.ref 244))) [(.loc 0),(.loc 1),(.loc 2),(.loc 3),(.dct [])]))]
noncomputable def W1:List S:=[(.ite (.cmp .Eq (.sub (.attr (.loc 0) "opens") (.loc 1)) (.con (.int 0))) [(.ret (.loc 1))] []),(.ite (.cmp .In (.loc 1) (.loc 4)) [(.ret (.sub (.loc 4) (.loc 1)))] []),(.set 5 (.sub (.attr (.loc 0) "rows") (.loc 1))),(.ite (.cmp .Eq (.sub (.loc 5) (.con (.int 0))) (.con (.int 6))) [(.ret (.call (.con (.fix (.ref 265))) [(.loc 2),(.sub (.loc 5) (.con (.int 1))),(.loc 1)]))] []),(.ite (.cmp .Eq (.sub (.loc 5) (.con (.int 0))) (.con (.int 7))) [(.ret (.call (.con (.fix (.ref 265))) [(.loc 3),(.sub (.loc 5) (.con (.int 1))),(.loc 1)]))] []),(.set 6 (.lst [])),(.for (.one 7) (.call (.con (.fix (.ref 97))) [(.loc 5)]) [(.exp (.meth (.loc 6) "append" [(.call (.con (.fix (.ref 244))) [(.loc 0),(.loc 7),(.loc 2),(.loc 3),(.loc 4)])]))]),(.J5 (.loc 4) (.loc 1) (.call (.con (.fix (.ref 251))) [(.loc 0),(.loc 5),(.call (.con (.fix (.type "tuple"))) [(.loc 6)])])),(.ret (.sub (.loc 4) (.loc 1)))]
noncomputable def Al:List S:=[(.set 3 (.sub (.loc 1) (.con (.int 0)))),(.ite (.or [(.cmp .Eq (.loc 3) (.con (.int 2))),(.cmp .Eq (.loc 3) (.con (.int 3)))]) [(.ret (.meth (.loc 0) "put" [(.tup [(.loc 3),(.sub (.loc 1) (.con (.int 1))),(.loc 2)])]))] []),(.ite (.cmp .Eq (.loc 3) (.con (.int 10))) [(.ret (.meth (.loc 0) "put" [(.tup [(.loc 3),(.sub (.loc 2) (.con (.int 0))),(.sub (.loc 1) (.con (.int 2))),(.slc (.loc 2) (some 1) none)])]))] []),(.ite (.cmp .Eq (.loc 3) (.con (.int 8))) [(.ret (.call (.con (.fix (.ref 258))) [(.loc 0),(.sub (.loc 2) (.con (.int 0)))]))] []),(.ret (.meth (.loc 0) "put" [(.tup [(.loc 3),(.sub (.loc 2) (.con (.int 0)))])]))]
noncomputable def Mj:List S:=[(.ite (.val (.call (.con (.fix (.ref 230))) [(.loc 0),(.loc 1)])) [(.ret (.meth (.loc 0) "put" [(.tup [(.con (.int 8)),(.loc 1)])]))] []),(.ite (.not (.val (.call (.con (.fix (.ref 223))) [(.loc 0),(.loc 1)]))) [(.ret (.loc 1))] []),(.ite (.cmp .Eq (.call (.con (.fix (.ref 209))) [(.loc 0),(.loc 1)]) (.con (.int 8))) [(.ret (.meth (.loc 0) "put" [(.tup [(.con (.int 8)),(.sub (.call (.con (.fix (.ref 216))) [(.loc 0),(.loc 1)]) (.con (.int 0)))])]))] []),(.ret (.meth (.loc 0) "put" [(.tup [(.con (.int 8)),(.loc 1)])]))]
noncomputable def Fz:List S:=[(.ite (.cmp .Lt (.loc 1) (.call (.con (.fix (.builtin "len"))) [(.loc 0)])) [(.ret (.sub (.loc 0) (.loc 1)))] []),(.ret (.loc 2))]
noncomputable def R9:List S:=[(.j5 (.loc 0) "tid" (.loc 1)),(.j5 (.loc 0) "name" (.loc 2)),(.j5 (.loc 0) "sort" (.loc 3)),(.j5 (.loc 0) "flags" (.loc 4)),(.j5 (.loc 0) "base" (.loc 5)),(.j5 (.loc 0) "ifaces" (.lst [])),(.j5 (.loc 0) "params" (.lst [])),(.j5 (.loc 0) "variances" (.lst [])),(.j5 (.loc 0) "bounds" (.lst [])),(.for (.one 8) (.loc 6) [(.exp (.meth (.attr (.loc 0) "params") "append" [(.loc 8)])),(.exp (.meth (.attr (.loc 0) "variances") "append" [(.con (.int 0))])),(.exp (.meth (.attr (.loc 0) "bounds") "append" [(.tup [(.con (.int 0)),(.tup [])])]))]),(.j5 (.loc 0) "fields" (.lst [])),(.j5 (.loc 0) "methods" (.lst [])),(.j5 (.loc 0) "asm" (.loc 7)),(.j5 (.loc 0) "cctor" (.con (.int 0))),(.j5 (.loc 0) "under" (.neg (.con (.int 1)))),(.j5 (.loc 0) "impls" (.lst [])),(.j5 (.loc 0) "props" (.lst [])),(.j5 (.loc 0) "events" (.lst [])),(.j5 (.loc 0) "finaliser" (.con (.int 0))),(.j5 (.loc 0) "home" (.con (.int 0)))]
noncomputable def N7:List S:=[(.j5 (.loc 0) "fid" (.loc 1)),(.j5 (.loc 0) "owner" (.loc 2)),(.j5 (.loc 0) "name" (.loc 3)),(.j5 (.loc 0) "kind" (.loc 4)),(.j5 (.loc 0) "access" (.loc 5)),(.j5 (.loc 0) "flags" (.loc 6)),(.j5 (.loc 0) "value" (.con .none))]
noncomputable def Am:List S:=[(.j5 (.loc 0) "kt" (.call (.con (.fix (.ref 86))) [])),(.j5 (.loc 0) "types" (.lst [(.con .none)])),(.j5 (.loc 0) "fields_" (.lst [(.con .none)])),(.j5 (.loc 0) "methods" (.lst [(.con .none)])),(.j5 (.loc 0) "names" (.dct [])),(.j5 (.loc 0) "asms" (.lst [])),(.j5 (.loc 0) "entry" (.con (.int 0)))]
noncomputable def An:List S:=[(.ite (.cmp .Eq (.loc 1) (.con (.int 2))) [(.ret (.call (.con (.fix (.ref 146))) [(.attr (.loc 0) "kt"),(.con (.int 2)),(.tup [])]))] []),(.ite (.cmp .Eq (.loc 1) (.con (.int 5))) [(.ret (.call (.con (.fix (.ref 146))) [(.attr (.loc 0) "kt"),(.con (.int 3)),(.tup [])]))] []),(.ite (.cmp .Eq (.loc 1) (.con (.int 4))) [(.ret (.call (.con (.fix (.ref 146))) [(.attr (.loc 0) "kt"),(.con (.int 6)),(.tup [])]))] []),(.ret (.neg (.con (.int 1))))]
noncomputable def Ao:List S:=[(.ite (.cmp .Eq (.loc 0) (.con (.int 3))) [(.ret (.bin .BitOr (.loc 1) (.con (.int 1))))] []),(.ite (.cmp .Eq (.loc 0) (.con (.int 1))) [(.ret (.loc 1))] []),(.ret (.bin .BitOr (.loc 1) (.con (.int 2))))]
noncomputable def Ga:List S:=[(.ite (.cmp .Lt (.loc 5) (.con (.int 0))) [(.set 5 (.call (.con (.fix (.ref 335))) [(.loc 0),(.loc 3)]))] []),(.set 7 (.call (.con (.fix (.builtin "len"))) [(.attr (.loc 0) "types")])),(.exp (.meth (.attr (.loc 0) "types") "append" [(.call (.con (.fix (.ref 282))) [(.loc 7),(.loc 2),(.loc 3),(.call (.con (.fix (.ref 342))) [(.loc 3),(.loc 4)]),(.loc 5),(.loc 6),(.loc 1)])])),(.set 8 (.tup [(.loc 1),(.loc 2),(.call (.con (.fix (.builtin "len"))) [(.loc 6)])])),(.ite (.cmp .NotIn (.loc 8) (.attr (.loc 0) "names")) [(.J5 (.attr (.loc 0) "names") (.loc 8) (.loc 7))] []),(.ret (.loc 7))]
noncomputable def Ct:List S:=[(.set 6 (.sub (.attr (.loc 0) "types") (.loc 1))),(.set 7 (.call (.con (.fix (.builtin "len"))) [(.attr (.loc 0) "fields_")])),(.exp (.meth (.attr (.loc 0) "fields_") "append" [(.call (.con (.fix (.ref 303))) [(.loc 7),(.loc 1),(.loc 2),(.loc 3),(.loc 4),(.loc 5)])])),(.exp (.meth (.attr (.loc 6) "fields") "append" [(.loc 7)])),(.ret (.loc 7))]
noncomputable def Cu:List S:=[(.ite (.cmp .In (.loc 1) (.con (.fix (.ref 55)))) [(.ret (.sub (.con (.fix (.ref 55))) (.loc 1)))] []),(.set 2 (.sub (.attr (.loc 0) "types") (.loc 1))),(.set 3 (.lst [])),(.for (.one 4) (.call (.con (.fix (.type "range"))) [(.call (.con (.fix (.builtin "len"))) [(.attr (.loc 2) "params")])]) [(.exp (.meth (.loc 3) "append" [(.call (.con (.fix (.ref 181))) [(.attr (.loc 0) "kt"),(.loc 4)])]))]),(.ret (.call (.con (.fix (.ref 370))) [(.loc 0),(.loc 1),(.call (.con (.fix (.type "tuple"))) [(.loc 3)])]))]
noncomputable def Cv:List S:=[(.set 3 (.attr (.sub (.attr (.loc 0) "types") (.loc 1)) "sort")),(.ite (.or [(.cmp .Eq (.loc 3) (.con (.int 2))),(.cmp .Eq (.loc 3) (.con (.int 5)))]) [(.ret (.call (.con (.fix (.ref 153))) [(.attr (.loc 0) "kt"),(.loc 1),(.loc 2)]))] []),(.ret (.call (.con (.fix (.ref 146))) [(.attr (.loc 0) "kt"),(.loc 1),(.loc 2)]))]
noncomputable def Ji:List S:=[(.set 2 (.call (.con (.fix (.ref 209))) [(.attr (.loc 0) "kt"),(.loc 1)])),(.ite (.or [(.cmp .LtE (.loc 2) (.con (.int 0))),(.cmp .GtE (.loc 2) (.call (.con (.fix (.builtin "len"))) [(.attr (.loc 0) "types")]))]) [(.ret (.con .none))] []),(.ret (.sub (.attr (.loc 0) "types") (.loc 2)))]
noncomputable def S0:List S:=[(.set 2 (.lst [])),(.set 3 (.call (.con (.fix (.ref 377))) [(.loc 0),(.loc 1)])),(.ite (.cmp .Is (.loc 3) (.con .none)) [(.ret (.loc 2))] []),(.for (.one 4) (.attr (.loc 3) "fields") [(.set 5 (.sub (.attr (.loc 0) "fields_") (.loc 4))),(.ite (.or [(.val (.bin .BitAnd (.attr (.loc 5) "flags") (.bin .BitOr (.con (.int 1)) (.con (.int 4))))),(.cmp .NotIn (.call (.con (.fix (.ref 202))) [(.attr (.loc 0) "kt"),(.attr (.loc 5) "kind")]) (.tup [(.con (.int 3)),(.con (.int 6))]))]) [.cont] []),(.set 6 (.call (.con (.fix (.ref 237))) [(.attr (.loc 0) "kt"),(.attr (.loc 5) "kind"),(.call (.con (.fix (.ref 216))) [(.attr (.loc 0) "kt"),(.loc 1)]),(.tup [])])),(.ite (.val (.call (.con (.fix (.ref 391))) [(.loc 0),(.loc 6)])) [(.exp (.meth (.loc 2) "append" [(.loc 6)]))] [])]),(.ret (.loc 2))]
noncomputable def I1:List S:=[(.ite (.cmp .NotEq (.call (.con (.fix (.ref 202))) [(.attr (.loc 0) "kt"),(.loc 1)]) (.con (.int 3))) [(.ret (.con (.bool false)))] []),(.set 2 (.call (.con (.fix (.ref 377))) [(.loc 0),(.loc 1)])),(.ret (.or [(.cmp .Is (.loc 2) (.con .none)),(.cmp .NotEq (.attr (.loc 2) "sort") (.con (.int 5)))]))]
noncomputable def F6:List S:=[(.set 2 (.call (.con (.fix (.ref 405))) [(.loc 0),(.call (.con (.fix (.ref 363))) [(.attr (.loc 0) "store"),(.attr (.loc 1) "tid")])])),(.set 3 (.dct [])),(.whl (.and [(.val (.loc 2)),(.cmp .Lt (.call (.con (.fix (.builtin "len"))) [(.loc 3)]) (.con (.int 1000)))]) [(.set 4 (.meth (.loc 2) "pop" [])),(.ite (.cmp .Eq (.call (.con (.fix (.ref 209))) [(.attr (.loc 0) "kt"),(.loc 4)]) (.attr (.loc 1) "tid")) [(.ret (.con (.bool true)))] []),(.ite (.cmp .NotIn (.loc 4) (.loc 3)) [(.J5 (.loc 3) (.loc 4) (.con (.int 1))),(.exp (.meth (.loc 2) "extend" [(.call (.con (.fix (.ref 405))) [(.loc 0),(.loc 4)])]))] [])]),(.ret (.con (.bool false)))]
noncomputable def Cw:List S:=[(.kM (.call (.con (.fix (.ref 384))) [(.attr (.loc 0) "store"),(.loc 1)]))]
noncomputable def v0:List S:=[(.set 1 (.call (.con (.fix (.ref 419))) [(.loc 1),(.loc 3)])),(.set 2 (.call (.con (.fix (.ref 419))) [(.loc 2),(.loc 3)])),(.ite (.cmp .Eq (.loc 1) (.loc 2)) [(.ret (.con (.bool true)))] []),(.ite (.val (.call (.con (.fix (.ref 230))) [(.attr (.loc 0) "kt"),(.loc 2)])) [(.swap 1 2 (.loc 2) (.loc 1))] []),(.ite (.val (.call (.con (.fix (.ref 230))) [(.attr (.loc 0) "kt"),(.loc 1)])) [(.J5 (.loc 3) (.loc 1) (.loc 2)),(.ret (.not (.call (.con (.fix (.ref 424))) [(.loc 0),(.loc 1),(.loc 2),(.loc 3)])))] []),(.set 4 (.meth (.attr (.loc 0) "kt") "row" [(.loc 1)])),(.set 5 (.meth (.attr (.loc 0) "kt") "row" [(.loc 2)])),(.ite (.or [(.cmp .NotEq (.sub (.loc 4) (.con (.int 0))) (.sub (.loc 5) (.con (.int 0)))),(.cmp .NotEq (.call (.con (.fix (.ref 209))) [(.attr (.loc 0) "kt"),(.loc 1)]) (.call (.con (.fix (.ref 209))) [(.attr (.loc 0) "kt"),(.loc 2)]))]) [(.ret (.con (.bool false)))] []),(.set 6 (.call (.con (.fix (.ref 97))) [(.loc 4)])),(.set 7 (.call (.con (.fix (.ref 97))) [(.loc 5)])),(.ite (.or [(.not (.val (.loc 6))),(.cmp .NotEq (.call (.con (.fix (.builtin "len"))) [(.loc 6)]) (.call (.con (.fix (.builtin "len"))) [(.loc 7)]))]) [(.ret (.con (.bool false)))] []),(.for (.one 8) (.call (.con (.fix (.type "range"))) [(.call (.con (.fix (.builtin "len"))) [(.loc 6)])]) [(.ite (.not (.val (.call (.con (.fix (.ref 412))) [(.loc 0),(.sub (.loc 6) (.loc 8)),(.sub (.loc 7) (.loc 8)),(.loc 3)]))) [(.ret (.con (.bool false)))] [])]),(.ret (.con (.bool true)))]
noncomputable def W2:List S:=[(.whl (.cmp .In (.loc 0) (.loc 1)) [(.set 0 (.sub (.loc 1) (.loc 0)))]),(.ret (.loc 0))]
noncomputable def D1:List S:=[(.ite (.cmp .Eq (.loc 2) (.loc 1)) [(.ret (.con (.bool true)))] []),(.ite (.and [(.cmp .In (.loc 2) (.loc 3)),(.val (.call (.con (.fix (.ref 230))) [(.attr (.loc 0) "kt"),(.loc 2)]))]) [(.ret (.call (.con (.fix (.ref 424))) [(.loc 0),(.loc 1),(.sub (.loc 3) (.loc 2)),(.loc 3)]))] []),(.ret (.call (.con (.fix (.builtin "any"))) [(.comp (.call (.con (.fix (.ref 424))) [(.loc 0),(.loc 1),(.loc 4),(.loc 3)]) (.one 4) (.call (.con (.fix (.ref 97))) [(.meth (.attr (.loc 0) "kt") "row" [(.loc 2)])]) [])]))]
noncomputable def Ap:List S:=[(.j5 (.loc 0) "rows" (.lst []))]
noncomputable def Cy:List S:=[(.j5 (.loc 0) "store" (.loc 1)),(.j5 (.loc 0) "asm" (.loc 2)),(.j5 (.loc 0) "fns" (.lst [(.con .none)])),(.j5 (.loc 0) "vars" (.lst [(.con .none)])),(.j5 (.loc 0) "of_mid" (.dct [])),(.j5 (.loc 0) "diags" (.call (.con (.fix (.ref 462))) [])),(.j5 (.loc 0) "inits" (.dct [])),(.j5 (.loc 0) "sinits" (.dct [])),(.j5 (.loc 0) "consts" (.dct []))]
noncomputable def Cz:List S:=[(.j5 (.loc 0) "unit" (.loc 1)),(.j5 (.loc 0) "store" (.attr (.loc 1) "store")),(.j5 (.loc 0) "kt" (.attr (.attr (.loc 1) "store") "kt")),(.j5 (.loc 0) "host" (.loc 2)),(.j5 (.loc 0) "asm" (.loc 3)),(.j5 (.loc 0) "kinds" (.dct [])),(.j5 (.loc 0) "unmet" (.dct [])),(.j5 (.loc 0) "told" (.lst [])),(.j5 (.loc 0) "tparams" (.dct [])),(.j5 (.loc 0) "owner" (.con (.int 0))),(.j5 (.loc 0) "mid" (.con (.int 0))),(.j5 (.loc 0) "early" (.con (.int 0))),(.j5 (.loc 0) "static" (.con (.int 0)))]
noncomputable def Gb:List S:=[(.set 3 (.sub (.loc 1) (.con (.int 0)))),(.J5 (.loc 1) (.con (.int 0)) (.bin .Add (.loc 3) (.con (.int 1)))),(.set 4 (.call (.con (.fix (.builtin "len"))) [(.loc 0)])),(.ret (.bin .Mod (.bin .Add (.sub (.loc 0) (.bin .Mod (.loc 3) (.loc 4))) (.bin .Mult (.bin .FloorDiv (.loc 3) (.loc 4)) (.bin .Add (.bin .Mod (.sub (.loc 0) (.con (.int 0))) (.con (.int 7))) (.bin .Mult (.con (.int 3)) (.loc 3))))) (.loc 2)))]
noncomputable def W3:List S:=[(.set 3 (.sub (.loc 2) (.con (.int 0)))),(.set 5 (.call (.con (.fix (.type "tuple"))) [(.comp (.call (.con (.fix (.ref 548))) [(.loc 0),(.loc 1),(.loc 4)]) (.one 4) (.slc (.loc 2) (some 1) none) [])])),(.ite (.cmp .In (.loc 3) (.con (.str "xy"))) [(.set 6 (.call (.con (.fix (.ref 181))) [(.loc 0),(.ite (.cmp .Eq (.loc 3) (.con (.str "x"))) (.con (.int 0)) (.con (.int 1)))]))] [(.ite (.cmp .Eq (.loc 3) (.con (.str "m"))) [(.set 6 (.call (.con (.fix (.ref 188))) [(.loc 0),(.con (.int 0))]))] [(.ite (.cmp .In (.loc 3) (.con (.str "iso"))) [(.set 6 (.ite (.cmp .Eq (.loc 3) (.con (.str "i"))) (.con (.int 7)) (.ite (.cmp .Eq (.loc 3) (.con (.str "s"))) (.con (.int 13)) (.con (.int 12)))))] [(.ite (.cmp .Eq (.loc 3) (.con (.str "a"))) [(.set 6 (.call (.con (.fix (.ref 167))) [(.loc 0),(.sub (.loc 5) (.con (.int 0)))]))] [(.ite (.cmp .Eq (.loc 3) (.con (.str "&"))) [(.set 6 (.call (.con (.fix (.ref 174))) [(.loc 0),(.sub (.loc 5) (.con (.int 0)))]))] [(.ite (.cmp .Eq (.loc 3) (.con (.str "r"))) [(.set 6 (.call (.con (.fix (.ref 195))) [(.loc 0),(.sub (.loc 5) (.con (.int 0)))]))] [(.set 7 (.dct [(.con (.str "S")),(.con (.int 64)),(.con (.str "R")),(.con (.int 65)),(.con (.str "Q")),(.con (.int 66)),(.con (.str "N")),(.con (.int 67)),(.con (.str "G")),(.con (.int 68)),(.con (.str "e")),(.con (.int 69)),(.con (.str "C")),(.con (.int 70)),(.con (.str "L")),(.con (.int 71)),(.con (.str "M")),(.con (.int 72)),(.con (.str "D")),(.con (.int 73)),(.con (.str "V")),(.con (.int 74)),(.con (.str "u")),(.con (.int 75))])),(.set 6 (.ite (.cmp .In (.loc 3) (.con (.str "CLMD"))) (.call (.con (.fix (.ref 146))) [(.loc 0),(.sub (.loc 7) (.loc 3)),(.loc 5)]) (.call (.con (.fix (.ref 153))) [(.loc 0),(.sub (.loc 7) (.loc 3)),(.loc 5)])))])])])])])]),(.J5 (.loc 1) (.loc 6) (.loc 2)),(.ret (.loc 6))]
noncomputable def Jj:List S:=[(.ite (.cmp .In (.loc 0) (.loc 1)) [(.ret (.sub (.loc 1) (.loc 0)))] []),(.ite (.cmp .Eq (.call (.con (.fix (.builtin "len"))) [(.loc 0)]) (.con (.int 1))) [(.ret (.loc 0))] []),(.ret (.bin .Add (.tup [(.sub (.loc 0) (.con (.int 0)))]) (.call (.con (.fix (.type "tuple"))) [(.comp (.call (.con (.fix (.ref 553))) [(.loc 2),(.loc 1)]) (.one 2) (.slc (.loc 0) (some 1) none) [])])))]
noncomputable def Gc:List S:=[(.ite (.cmp .In (.loc 0) (.loc 1)) [(.ret (.call (.con (.fix (.ref 558))) [(.sub (.loc 1) (.loc 0)),(.loc 1)]))] []),(.ite (.cmp .Eq (.call (.con (.fix (.builtin "len"))) [(.loc 0)]) (.con (.int 1))) [(.ret (.loc 0))] []),(.ret (.bin .Add (.tup [(.sub (.loc 0) (.con (.int 0)))]) (.call (.con (.fix (.type "tuple"))) [(.comp (.call (.con (.fix (.ref 558))) [(.loc 2),(.loc 1)]) (.one 2) (.slc (.loc 0) (some 1) none) [])])))]
noncomputable def K5:List S:=[(.set 3 (.call (.con (.fix (.ref 543))) [(.loc 0),(.loc 1),(.ite (.val (.loc 2)) (.con (.int 10)) (.con (.int 5)))])),(.ite (.cmp .Lt (.loc 3) (.con (.int 5))) [(.ret (.tup [(.sub (.con (.str "xymis")) (.loc 3))]))] []),(.set 4 (.lst [(.call (.con (.fix (.ref 565))) [(.loc 0),(.loc 1),(.bin .Sub (.loc 2) (.con (.int 1)))])])),(.ite (.cmp .Eq (.loc 3) (.con (.int 8))) [(.exp (.meth (.loc 4) "append" [(.call (.con (.fix (.ref 565))) [(.loc 0),(.loc 1),(.bin .Sub (.loc 2) (.con (.int 1)))])]))] []),(.ret (.bin .Add (.tup [(.sub (.con (.str "LMVDa")) (.bin .Sub (.loc 3) (.con (.int 5))))]) (.call (.con (.fix (.type "tuple"))) [(.loc 4)])))]
noncomputable def Gd:List S:=[(.set 2 (.call (.con (.fix (.ref 543))) [(.loc 0),(.loc 1),(.con (.int 6))])),(.set 3 (.call (.con (.fix (.ref 565))) [(.loc 0),(.loc 1),(.con (.int 2))])),(.set 4 (.call (.con (.fix (.ref 565))) [(.loc 0),(.loc 1),(.con (.int 1))])),(.set 5 (.call (.con (.fix (.ref 565))) [(.loc 0),(.loc 1),(.con (.int 1))])),(.set 6 (.call (.con (.fix (.ref 553))) [(.loc 3),(.dct [(.tup [(.con (.str "x"))]),(.loc 4),(.tup [(.con (.str "y"))]),(.loc 5)])])),(.ite (.cmp .Eq (.loc 2) (.con (.int 0))) [(.ret (.tup [(.loc 3),(.call (.con (.fix (.ref 565))) [(.loc 0),(.loc 1),(.con (.int 2))])]))] []),(.ite (.cmp .Eq (.loc 2) (.con (.int 3))) [(.ret (.tup [(.tup [(.con (.str "D")),(.tup [(.con (.str "x"))]),(.tup [(.con (.str "D")),(.tup [(.con (.str "y"))]),(.loc 3)])]),(.tup [(.con (.str "D")),(.loc 4),(.tup [(.con (.str "D")),(.loc 5),(.loc 6)])])]))] []),(.ite (.cmp .Eq (.loc 2) (.con (.int 4))) [(.ret (.tup [(.loc 3),(.call (.con (.fix (.ref 553))) [(.loc 6),(.dct [(.tup [(.con (.str "i"))]),(.tup [(.con (.str "s"))])])])]))] []),(.ite (.cmp .Eq (.loc 2) (.con (.int 5))) [(.ret (.tup [(.tup [(.con (.str "&")),(.loc 3)]),(.tup [(.sub (.con (.str "&r")) (.call (.con (.fix (.ref 543))) [(.loc 0),(.loc 1),(.con (.int 2))])),(.loc 6)])]))] []),(.ret (.tup [(.loc 3),(.loc 6)]))]
noncomputable def Ge:List S:=[(.whl (.cmp .In (.loc 1) (.loc 0)) [(.set 1 (.sub (.loc 0) (.loc 1)))]),(.ret (.loc 1))]
noncomputable def Gf:List S:=[(.set 3 (.call (.con (.fix (.ref 579))) [(.loc 0),(.loc 1)])),(.ite (.cmp .In (.loc 3) (.loc 2)) [(.ret (.con (.bool false)))] []),(.for (.one 4) (.slc (.loc 3) (some 1) none) [(.ite (.not (.val (.call (.con (.fix (.ref 586))) [(.loc 0),(.loc 4),(.bin .Add (.loc 2) (.lst [(.loc 3)]))]))) [(.ret (.con (.bool false)))] [])]),(.ret (.con (.bool true)))]
noncomputable def W4:List S:=[(.set 1 (.dct [])),(.set 2 (.slc (.loc 0) none none)),(.whl (.val (.loc 2)) [(.aG 3 4 (.meth (.loc 2) "pop" [])),(.set 3 (.call (.con (.fix (.ref 579))) [(.loc 1),(.loc 3)])),(.set 4 (.call (.con (.fix (.ref 579))) [(.loc 1),(.loc 4)])),(.ite (.cmp .Eq (.loc 3) (.loc 4)) [.cont] []),(.ite (.cmp .In (.sub (.loc 3) (.con (.int 0))) (.con (.str "xym"))) [(.J5 (.loc 1) (.loc 3) (.loc 4))] [(.ite (.cmp .In (.sub (.loc 4) (.con (.int 0))) (.con (.str "xym"))) [(.J5 (.loc 1) (.loc 4) (.loc 3))] [(.ite (.cmp .NotEq (.sub (.loc 3) (.con (.int 0))) (.sub (.loc 4) (.con (.int 0)))) [(.ret (.con .none))] [(.J5 (.loc 1) (.loc 3) (.loc 4)),(.for (.one 5) (.call (.con (.fix (.type "range"))) [(.con (.int 1)),(.call (.con (.fix (.builtin "len"))) [(.loc 3)])]) [(.exp (.meth (.loc 2) "append" [(.tup [(.sub (.loc 3) (.loc 5)),(.sub (.loc 4) (.loc 5))])]))])])])])]),(.for (.two 3 4) (.loc 0) [(.ite (.or [(.not (.val (.call (.con (.fix (.ref 586))) [(.loc 1),(.loc 3),(.lst [])]))),(.not (.val (.call (.con (.fix (.ref 586))) [(.loc 1),(.loc 4),(.lst [])])))]) [(.ret (.con .none))] [])]),(.ret (.loc 1))]
noncomputable def t0:List S:=[(.aG 3 4 (.call (.con (.fix (.ref 572))) [(.loc 1),(.loc 2)])),(.set 5 (.lst [(.tup [(.loc 3),(.loc 4)])])),(.ite (.cmp .Eq (.call (.con (.fix (.ref 543))) [(.loc 1),(.loc 2),(.con (.int 3))]) (.con (.int 0))) [(.exp (.meth (.loc 5) "append" [(.tup [(.tup [(.con (.str "y"))]),(.call (.con (.fix (.ref 553))) [(.call (.con (.fix (.ref 565))) [(.loc 1),(.loc 2),(.con (.int 1))]),(.dct [(.tup [(.con (.str "y"))]),(.tup [(.con (.str "i"))])])])])]))] []),(.set 6 (.call (.con (.fix (.ref 593))) [(.loc 5)])),(.set 7 (.dct [])),(.set 10 (.comp (.tup [(.call (.con (.fix (.ref 548))) [(.attr (.loc 0) "kt"),(.loc 7),(.loc 8)]),(.call (.con (.fix (.ref 548))) [(.attr (.loc 0) "kt"),(.loc 7),(.loc 9)])]) (.two 8 9) (.loc 5) [])),(.for (.two 11 12) (.tup [(.sub (.loc 10) (.con (.int 0))),(.tup [(.sub (.sub (.loc 10) (.con (.int 0))) (.con (.int 1))),(.sub (.sub (.loc 10) (.con (.int 0))) (.con (.int 0)))])]) [(.set 13 (.dct [])),(.for (.two 14 15) (.slc (.loc 10) (some 1) none) [(.J5 (.loc 13) (.loc 14) (.loc 15))]),(.ite (.cmp .NotEq (.call (.con (.fix (.ref 412))) [(.loc 0),(.loc 11),(.loc 12),(.loc 13)]) (.cmp .IsNot (.loc 6) (.con .none))) [(.ret (.con (.bool false)))] []),(.ite (.cmp .IsNot (.loc 6) (.con .none)) [(.set 16 (.dct [])),(.for (.one 14) (.call (.con (.fix (.builtin "sorted"))) [(.loc 13)]) [(.J5 (.loc 16) (.sub (.loc 7) (.loc 14)) (.sub (.loc 7) (.sub (.loc 13) (.loc 14))))]),(.ite (.val (.comp (.loc 17) (.one 17) (.call (.con (.fix (.builtin "sorted"))) [(.loc 16)]) [(.cmp .NotIn (.sub (.loc 17) (.con (.int 0))) (.con (.str "xym")))])) [(.ret (.con (.bool false)))] []),(.ite (.cmp .NotEq (.call (.con (.fix (.builtin "len"))) [(.loc 16)]) (.call (.con (.fix (.builtin "len"))) [(.Nu (.loc 6) "xym")])) [(.ret (.con (.bool false)))] []),(.for (.two 8 9) (.loc 5) [(.ite (.cmp .NotEq (.call (.con (.fix (.ref 558))) [(.loc 8),(.loc 16)]) (.call (.con (.fix (.ref 558))) [(.loc 9),(.loc 16)])) [(.ret (.con (.bool false)))] [])])] [])]),(.ret (.con (.bool true)))]
noncomputable def Q6:List S:=[(.set 4 (.call (.con (.fix (.ref 543))) [(.loc 0),(.loc 1),(.ite (.val (.loc 2)) (.bin .Add (.con (.int 5)) (.call (.con (.fix (.builtin "len"))) [(.loc 3)])) (.con (.int 5)))])),(.ite (.cmp .Lt (.loc 4) (.con (.int 5))) [(.ret (.tup [(.sub (.con (.str "xieuo")) (.loc 4))]))] []),(.ret (.tup [(.sub (.loc 3) (.bin .Sub (.loc 4) (.con (.int 5)))),(.call (.con (.fix (.ref 605))) [(.loc 0),(.loc 1),(.bin .Sub (.loc 2) (.con (.int 1))),(.loc 3)])]))]
noncomputable def M8:List S:=[(.set 4 (.dct [])),(.for (.one 5) (.call (.con (.fix (.type "range"))) [(.con (.int 5))]) [(.set 6 (.sub (.con (.str "SRQNG")) (.loc 5))),(.J5 (.loc 4) (.loc 6) (.lst [])),(.set 7 (.ite (.cmp .Eq (.loc 6) (.con (.str "G"))) (.con (.int 1)) (.ite (.cmp .Eq (.loc 6) (.con (.str "S"))) (.bin .Add (.con (.int 1)) (.call (.con (.fix (.ref 543))) [(.loc 2),(.loc 3),(.con (.int 2))])) (.call (.con (.fix (.ref 543))) [(.loc 2),(.loc 3),(.con (.int 3))])))),(.for (.one 8) (.call (.con (.fix (.type "range"))) [(.loc 7)]) [(.set 9 (.call (.con (.fix (.ref 605))) [(.loc 2),(.loc 3),(.ite (.cmp .Eq (.loc 6) (.con (.str "S"))) (.con (.int 2)) (.con (.int 1))),(.ite (.cmp .Eq (.loc 6) (.con (.str "S"))) (.con (.str "SRQNGCa")) (.con (.str "SRQNCa")))])),(.set 10 (.sub (.tup [(.con (.int 0)),(.con (.int 0)),(.con (.int 2)),(.con (.int 0)),(.con (.int 1)),(.con (.int 5))]) (.call (.con (.fix (.ref 543))) [(.loc 2),(.loc 3),(.con (.int 6))]))),(.exp (.call (.con (.fix (.ref 356))) [(.loc 0),(.bin .Add (.con (.int 64)) (.loc 5)),(.con (.str "f")),(.call (.con (.fix (.ref 548))) [(.attr (.loc 0) "kt"),(.loc 1),(.loc 9)]),(.con (.int 6)),(.loc 10)])),(.ite (.cmp .In (.loc 10) (.tup [(.con (.int 0)),(.con (.int 2))])) [(.exp (.meth (.sub (.loc 4) (.loc 6)) "append" [(.loc 9)]))] [])])]),(.set 11 (.tup [(.con (.str "x"))])),(.for (.one 8) (.call (.con (.fix (.type "range"))) [(.con (.int 6))]) [(.set 11 (.tup [(.con (.str "a")),(.loc 11)]))]),(.exp (.call (.con (.fix (.ref 356))) [(.loc 0),(.con (.int 68)),(.con (.str "g")),(.call (.con (.fix (.ref 548))) [(.attr (.loc 0) "kt"),(.loc 1),(.tup [(.con (.str "G")),(.loc 11)])]),(.con (.int 6)),(.con (.int 0))])),(.exp (.meth (.sub (.loc 4) (.con (.str "G"))) "append" [(.tup [(.con (.str "G")),(.loc 11)])])),(.ret (.loc 4))]
noncomputable def Gg:List S:=[(.set 2 (.lst [])),(.for (.one 3) (.meth (.loc 0) "get" [(.sub (.loc 1) (.con (.int 0))),(.lst [])]) [(.set 4 (.call (.con (.fix (.ref 553))) [(.loc 3),(.dct [(.tup [(.con (.str "x"))]),(.sub (.loc 1) (.con (.int 1)))])])),(.ite (.cmp .In (.sub (.loc 4) (.con (.int 0))) (.con (.str "SRQNGu"))) [(.exp (.meth (.loc 2) "append" [(.loc 4)]))] [])]),(.ret (.loc 2))]
noncomputable def Gh:List S:=[(.set 1 (.con (.int 0))),(.whl (.cmp .Gt (.call (.con (.fix (.builtin "len"))) [(.loc 0)]) (.con (.int 1))) [(.set 0 (.sub (.loc 0) (.con (.int 1)))),(.aug 1 .Add (.con (.int 1)))]),(.ret (.loc 1))]
noncomputable def l5:List S:=[(.set 3 (.attr (.loc 0) "store")),(.set 4 (.dct [])),(.for (.one 5) (.con (.str "SRQNGEC")) [(.exp (.call (.con (.fix (.ref 349))) [(.loc 3),(.con (.int 0)),(.loc 5),(.ite (.cmp .Eq (.loc 5) (.con (.str "E"))) (.con (.int 5)) (.ite (.cmp .Eq (.loc 5) (.con (.str "C"))) (.con (.int 1)) (.con (.int 2)))),(.con (.int 0)),(.neg (.con (.int 1))),(.ite (.cmp .Eq (.loc 5) (.con (.str "E"))) (.tup []) (.tup [(.con (.str "T"))]))]))]),(.set 6 (.call (.con (.fix (.ref 612))) [(.loc 3),(.loc 4),(.loc 1),(.loc 2)])),(.set 7 (.lst [])),(.set 8 (.call (.con (.fix (.ref 619))) [(.loc 6),(.tup [(.con (.str "S")),(.tup [(.con (.str "x"))])])])),(.whl (.val (.loc 8)) [(.set 9 (.meth (.loc 8) "pop" [])),(.ite (.and [(.cmp .NotIn (.loc 9) (.loc 7)),(.cmp .Lt (.call (.con (.fix (.ref 626))) [(.loc 9)]) (.con (.int 12)))]) [(.exp (.meth (.loc 7) "append" [(.loc 9)])),(.ite (.cmp .NotEq (.sub (.loc 9) (.con (.int 0))) (.con (.str "S"))) [(.aug 8 .Add (.call (.con (.fix (.ref 619))) [(.loc 6),(.loc 9)]))] [])] [])]),(.for (.one 9) (.bin .Add (.lst [(.tup [(.con (.str "S")),(.tup [(.con (.str "x"))])])]) (.slc (.loc 7) none (some 3))) [(.set 11 (.comp (.call (.con (.fix (.ref 548))) [(.attr (.loc 0) "kt"),(.loc 4),(.loc 10)]) (.one 10) (.call (.con (.fix (.ref 619))) [(.loc 6),(.loc 9)]) [])),(.ite (.cmp .NotEq (.call (.con (.fix (.ref 405))) [(.loc 0),(.call (.con (.fix (.ref 548))) [(.attr (.loc 0) "kt"),(.loc 4),(.loc 9)])]) (.loc 11)) [(.ret (.con (.bool false)))] [])]),(.ret (.cmp .Eq (.call (.con (.fix (.ref 398))) [(.loc 0),(.sub (.attr (.loc 3) "types") (.con (.int 64)))]) (.cmp .Gt (.call (.con (.fix (.builtin "len"))) [(.comp (.con (.int 1)) (.one 9) (.loc 7) [(.cmp .Eq (.sub (.loc 9) (.con (.int 0))) (.con (.str "S")))])]) (.con (.int 0)))))]
noncomputable def Jk:List S:=[(.set 2 (.comp (.bin .Mod (.loc 1) (.con (.int 999983))) (.one 1) (.slc (.loc 0) none (some 24)) [])),(.set 3 (.bin .Add (.con (.int 1)) (.bin .FloorDiv (.call (.con (.fix (.builtin "len"))) [(.loc 2)]) (.con (.int 16))))),(.ite (.not (.val (.loc 2))) [(.set 2 (.lst [(.con (.int 3)),(.con (.int 8)),(.con (.int 0)),(.con (.int 6)),(.con (.int 1)),(.con (.int 7)),(.con (.int 1)),(.con (.int 5)),(.con (.int 3)),(.con (.int 0)),(.con (.int 2)),(.con (.int 1)),(.con (.int 9)),(.con (.int 0)),(.con (.int 0)),(.con (.int 6)),(.con (.int 5)),(.con (.int 0)),(.con (.int 0)),(.con (.int 1)),(.con (.int 0)),(.con (.int 2)),(.con (.int 0)),(.con (.int 1)),(.con (.int 3)),(.con (.int 4)),(.con (.int 8)),(.con (.int 0)),(.con (.int 0))]))] []),(.set 4 (.lst [(.con (.int 0))])),(.set 5 (.call (.con (.fix (.ref 324))) [])),(.j5 (.loc 5) "types" (.bin .Mult (.lst [(.con .none)]) (.con (.int 64)))),(.set 6 (.call (.con (.fix (.ref 532))) [(.call (.con (.fix (.ref 483))) [(.loc 5),(.con (.int 0))]),(.con .none),(.con (.int 0))])),(.for (.one 7) (.call (.con (.fix (.type "range"))) [(.loc 3)]) [(.ite (.not (.val (.call (.con (.fix (.ref 598))) [(.loc 6),(.loc 2),(.loc 4)]))) [(.ret (.con (.bool false)))] [])]),(.ret (.call (.con (.fix (.ref 631))) [(.loc 6),(.loc 2),(.loc 4)]))]
structure Code(c:Cx):Prop where
 fA:A6 c.K c.i4 35=some (3,K4)
 lN:A6 c.K c.i4 69=some (1,Jg)
 rH:A6 c.K c.i4 76=some (2,Mg)
 rI:A6 c.K c.i4 83=some (2,N6)
 inner_kinds:A6 c.K c.i4 97=some (1,V9)
 row_level:A6 c.K c.i4 104=some (1,Co)
 row_length:A6 c.K c.i4 111=some (1,Ae)
 check_kind_row:A6 c.K c.i4 118=some (2,z7)
 check_named:A6 c.K c.i4 125=some (2,W0)
 check_args:A6 c.K c.i4 132=some (2,Af)
 may_stand:A6 c.K c.i4 139=some (2,Cp)
 class_kind:A6 c.K c.i4 146=some (3,Ag)
 value_kind:A6 c.K c.i4 153=some (3,Ah)
 prim_kind:A6 c.K c.i4 160=some (2,Cq)
 array_kind:A6 c.K c.i4 167=some (2,Ai)
 byref_kind:A6 c.K c.i4 174=some (2,Aj)
 var_kind:A6 c.K c.i4 181=some (2,Fx)
 mvar_kind:A6 c.K c.i4 188=some (2,Cr)
 roref_kind:A6 c.K c.i4 195=some (2,Ak)
 kind_sort:A6 c.K c.i4 202=some (2,Cs)
 tid_of:A6 c.K c.i4 209=some (2,Mh)
 args_of:A6 c.K c.i4 216=some (2,Jh)
 is_value:A6 c.K c.i4 223=some (2,Fy)
 is_var:A6 c.K c.i4 230=some (2,Mi)
 close:A6 c.K c.i4 237=some (4,Rv)
 close_in:A6 c.K c.i4 244=some (5,W1)
 with_inner:A6 c.K c.i4 251=some (3,Al)
 box_of:A6 c.K c.i4 258=some (2,Mj)
 pick_arg:A6 c.K c.i4 265=some (3,Fz)
 Ot:A6 c.K c.i4 279=some (8,R9)
 Li:A6 c.K c.i4 300=some (7,N7)
 Vg:A6 c.K c.i4 321=some (1,Am)
 usual_base:A6 c.K c.i4 335=some (2,An)
 sort_flags:A6 c.K c.i4 342=some (2,Ao)
 add_type:A6 c.K c.i4 349=some (7,Ga)
 add_field:A6 c.K c.i4 356=some (6,Ct)
 self_kind:A6 c.K c.i4 363=some (2,Cu)
 kind_with:A6 c.K c.i4 370=some (3,Cv)
 type_of:A6 c.K c.i4 377=some (2,Ji)
 value_fields:A6 c.K c.i4 384=some (2,S0)
 is_plain_struct:A6 c.K c.i4 391=some (2,I1)
 decl_holds_itself:A6 c.K c.i4 398=some (2,F6)
 decl_held:A6 c.K c.i4 405=some (2,Cw)
 decl_may_be_one:A6 c.K c.i4 412=some (4,v0)
 decl_put_in:A6 c.K c.i4 419=some (2,W2)
 decl_stands_in:A6 c.K c.i4 424=some (4,D1)
 Vh:A6 c.K c.i4 438=some (1,Ap)
 bD:A6 c.K c.i4 480=some (3,Cy)
 bE:A6 c.K c.i4 501=some (4,Cz)
 fB:A6 c.K c.i4 543=some (3,Gb)
 fC:A6 c.K c.i4 548=some (3,W3)
 lO:A6 c.K c.i4 553=some (2,Jj)
 fD:A6 c.K c.i4 558=some (2,Gc)
 Rw:A6 c.K c.i4 565=some (3,K5)
 fE:A6 c.K c.i4 572=some (2,Gd)
 fF:A6 c.K c.i4 579=some (2,Ge)
 fG:A6 c.K c.i4 586=some (3,Gf)
 fH:A6 c.K c.i4 593=some (1,W4)
 Jl:A6 c.K c.i4 598=some (3,t0)
 Ml:A6 c.K c.i4 605=some (4,Q6)
 Vi:A6 c.K c.i4 612=some (4,M8)
 fJ:A6 c.K c.i4 619=some (2,Gg)
 fK:A6 c.K c.i4 626=some (1,Gh)
 Eu:A6 c.K c.i4 631=some (3,l5)
 law:A6 c.K c.i4 636=some (1,Jk)
end Mine
end
section
open PySem PySem.W PyProof.Rows PySem.Calls
set_option Elab.async false
set_option genSizeOf false
set_option genInjectivity false
namespace Mine
open Classical
noncomputable def gl:List (Option V)→Nat→Option V
 | [],_=>none
 | o::r,i=>match i with
  | 0=>o
  | i+1=>gl r i
noncomputable def sl:List (Option V)→Nat→V→List (Option V)
 | [],i,v=>match i with
  | 0=>[some v]
  | i+1=>none::sl [] i v
 | o::r,i,v=>match i with
  | 0=>some v::r
  | i+1=>o::sl r i v
noncomputable def pad:List (Option V):=[none,none,none,none,none,none,none,none,none,none,none,none,none,none,none,none,none,none,none,none]
theorem gl_none:∀(l:List (Option V)),(∀o∈l,o=none)→∀i,gl l i=none
 | [],_,_=>rfl
 | o::r,h,0=>h o (.head _)
 | o::r,h,i+1=>gl_none r (λo h'=>h o (.tail _ h')) i
theorem Rx(vs:List V):Gw vs=gl (vs.map some++pad):=by
 funext i
 unfold Gw
 induction vs generalizing i with
 | nil=>exact(gl_none pad (by decide +kernel) i).symm
 | cons v vs ih=>cases i with
  | zero=>rfl
  | succ i=>exact ih i
theorem fL(v:V):∀i,t8 (gl []) i v=gl (sl [] i v)
 | 0=>by funext j; cases j<;>rfl
 | i+1=>by
  funext j
  cases j with
  | zero=>rfl
  | succ j =>
   refine Eq.trans ?_ (congrFun (fL v i) j)
   simp[t8]; rfl
theorem Jm:∀(l:List (Option V)) (i:Nat) (v:V),t8 (gl l) i v=gl (sl l i v)
 | [],i,v=>fL v i
 | o::r,0,v=>by funext j; cases j<;>rfl
 | o::r,i+1,v=>by
  funext j
  cases j with
  | zero=>rfl
  | succ j =>
   refine Eq.trans ?_ (congrFun (Jm r i v) j)
   simp[t8]; rfl
structure D3(c:Cx) (C fI:Addr) (names:List Str):Prop where
 attr:∀(i:Nat){x:Str},names[i]?=some x→Y3 c C x∧setName c C x
 made:makesIn c.K C=true
 init:findIn c.K (.ref C) "__init__"=some (some (.ref fI))
 typ:typeIn c.K (.ref fI)=some (.type "function")
noncomputable def Ou(c:Cx) (C:Addr) (x:Str) (f:Addr):Prop:=plainGet c.K C x=true∧findIn c.K (.ref C) x=some (some (.ref f))∧isFn c.K (.ref f)=true∧keepIn c.K (.ref f)=true
noncomputable def Q7:List (Int×V):=[(0,.int 20),(1,.int 9),(2,.int 10),(3,.int 11),(4,.int 12),(5,.int 13),(6,.int 14),(7,.int 15),(8,.int 16),(9,.int 17),(10,.int 18),(11,.int 19),(12,.int 1),(13,.int 4)]
noncomputable def l7:List (Int×V):=[(20,.int 0),(9,.int 1),(10,.int 2),(11,.int 3),(12,.int 4),(13,.int 5),(14,.int 6),(15,.int 7),(16,.int 8),(17,.int 9),(18,.int 10),(19,.int 11),(1,.int 12),(4,.int 13)]
noncomputable def Da:List Str:=["rows", "index", "depths", "weights", "opens"]
noncomputable def Dc:List Str:=["tid", "name", "sort", "flags", "base", "ifaces", "params", "variances", "bounds", "fields", "methods", "asm", "cctor", "under", "impls", "props", "events", "finaliser", "home"]
noncomputable def Hj:List Str:=["fid", "owner", "name", "kind", "access", "flags", "value"]
noncomputable def Q8:List Str:=["kt", "types", "fields_", "methods", "names", "asms", "entry"]
noncomputable def Ov:List Str:=["rows"]
noncomputable def Y8:List Str:=["store", "asm", "fns", "vars", "of_mid", "diags", "inits", "sinits", "consts"]
noncomputable def Dd:List Str:=["unit", "store", "kt", "host", "asm", "kinds", "unmet", "told", "tparams", "owner", "mid", "early", "static"]
structure g0(c:Cx):Prop where
 G:Good c
 Y:∃P fI cd fd,Q4 c P fI cd fd
 C:Code c
 kt:D3 c 86 69 Da
 td:D3 c 282 279 Dc
 fd:D3 c 303 300 Hj
 st:D3 c 324 321 Q8
 dg:D3 c 462 438 Ov
 un:D3 c 483 480 Y8
 yd:D3 c 532 501 Dd
 vT:Ou c 86 "row" 76
 vU:Ou c 86 "put" 83
 Q7:Ul c 54 Q7
 l7:Ul c 55 l7
section
variable {c:Cx}{Z:a5}{Q:V→a5→Prop}{E:a5→Prop}
theorem g0.fn(N:g0 c){f:Addr}{k:Nat}{xs:List S}(h:A6 c.K c.i4 f=some (k,xs)){m:Nat}{vs:List V}(hlen:vs.length=k)
  (hw:l6 c m xs (gl (vs.map some++pad)) Z (s9 Q) E):i3 c (m+1) (.fix (.ref f)) vs Z Q E:=by
 obtain⟨P,fI,cd,fd,Y⟩:=N.Y
 exact((eZ N.G Y).get h hlen (Rx vs ▸ hw)).call
end
inductive Hd where
 | prim (n:Nat)
 | var (n:Nat)
 | mvar (n:Nat)
 | cls (t:Nat)
 | val (t:Nat)
 | arr
 | byref
 | S3
 deriving DecidableEq
inductive Tm where
 | leaf (h:Hd)
 | un (h:Hd) (a:Tm)
 | bin (h:Hd) (a b:Tm)
 deriving DecidableEq
abbrev vi(n:Nat):V:=.int n
noncomputable def Hd.Ow:Hd→Nat
 | .cls _=>1
 | .val _=>1
 | .arr=>1
 | _=>0
noncomputable def Hd.isVar:Hd→Bool
 | .var _=>true
 | .mvar _=>true
 | _=>false
noncomputable def Hd.sort:Hd→Nat
 | .prim _=>1
 | .cls _=>2
 | .val _=>3
 | .arr=>4
 | .byref=>5
 | .var _=>6
 | .mvar _=>7
 | .S3=>9
noncomputable def Tm.hd:Tm→Hd
 | .leaf h=>h
 | .un h _=>h
 | .bin h _ _=>h
noncomputable def Tm.kids:Tm→List Tm
 | .leaf _=>[]
 | .un _ a=>[a]
 | .bin _ a b=>[a,b]
noncomputable def Hd.mk:Hd→List V→V
 | .prim n,_=>.tup [vi 1,vi n]
 | .var n,_=>.tup [vi 6,vi n]
 | .mvar n,_=>.tup [vi 7,vi n]
 | .cls t,l=>.tup [vi 2,vi t,.tup l]
 | .val t,l=>.tup [vi 3,vi t,.tup l]
 | .arr,l=>.tup (vi 4::l)
 | .byref,l=>.tup (vi 5::l)
 | .S3,l=>.tup (vi 9::l)
noncomputable def Tm.row(at_:Tm→Nat) (t:Tm):V:=t.hd.mk (t.kids.map λa=>vi (at_ a))
noncomputable def Tm.depth:Tm→Nat
 | .leaf _=>1
 | .un h a=>max 1 (a.depth+h.Ow)
 | .bin h a b=>max (max 1 (a.depth+h.Ow)) (b.depth+h.Ow)
noncomputable def Tm.weight:Tm→Nat
 | .leaf _=>1
 | .un _ a=>1+a.weight
 | .bin _ a b=>1+a.weight+b.weight
noncomputable def Tm.open_:Tm→Bool
 | .leaf h=>h.isVar
 | .un _ a=>a.open_
 | .bin _ a b=>a.open_ || b.open_
noncomputable def Hd.fit:Hd→Nat→Bool
 | .prim _,0=>true
 | .var _,0=>true
 | .mvar _,0=>true
 | .cls t,k=>k≤2 && decide (1 < t) && ((l7.find? λp=>decide (p.1=(t:Int))).isNone)
 | .val t,k=>k≤2 && decide (1 < t) && ((l7.find? λp=>decide (p.1=(t:Int))).isNone)
 | .arr,1=>true
 | .byref,1=>true
 | .S3,1=>true
 | _,_=>false
noncomputable def Hd.stands:Hd→Bool
 | .prim n=>n != 0 && n != 14
 | .byref=>false
 | .S3=>false
 | _=>true
noncomputable def Tm.stands(t:Tm):Bool:=t.hd.stands
noncomputable def Tm.ok:Tm→Bool
 | .leaf h=>h.fit 0 && (match h with | .prim n=>decide (n < 16) | _=>true)
 | .un h a=>h.fit 1 && a.ok && a.stands
 | .bin h a b=>h.fit 2 && a.ok && b.ok && a.stands && b.stands
structure Kx(T:List Tm):Prop where
 base:∀i,i < 16→T[i]?=some (.leaf (.prim i))
 nodup:T.Nodup
 ok:∀t∈T,t.ok=true
 kids:∀t∈T,∀a∈t.kids,a∈T
 deep:∀t∈T,t.depth≤24
 heavy:∀t∈T,t.weight≤4096
noncomputable def bi(b:Bool):V:=.int (if b then 1 else 0)
structure H1 where
 a:Addr
 dx:Addr
 r:Addr
 i:Addr
 d:Addr
 w:Addr
 o:Addr
structure i5(K:H1) (T:List Tm) (Z:a5):Prop where
 inst:Z K.a=some (.inst 86 K.dx)
 ns:Z K.dx=some (.ns [("rows",.ref K.r),("index",.ref K.i),("depths",.ref K.d),("weights",.ref K.w),("opens",.ref K.o)])
 rows:Z K.r=some (.list (T.map (Tm.row (T.idxOf ·))))
 index:Z K.i=some (.dict (T.map λt=>(t.row (T.idxOf ·),vi (T.idxOf t))))
 depths:Z K.d=some (.list (T.map λt=>vi t.depth))
 weights:Z K.w=some (.list (T.map λt=>vi t.weight))
 opens:Z K.o=some (.list (T.map λt=>bi t.open_))
 apart:[K.r,K.d,K.w,K.o].Nodup
 tab:Kx T
 size:T.length≤100000
noncomputable def d8(F:Addr→Prop) (Z a6:a5):Prop:=∀b o,¬F b→Z b=some o→a6 b=some o
noncomputable def H1.F(K:H1) (b:Addr):Prop:=b=K.r∨b=K.i∨b=K.d∨b=K.w∨b=K.o
theorem d8.refl(F:Addr→Prop) (Z:a5):d8 F Z Z:=λ_ _ _ e=>e
theorem d8.trans{F:Addr→Prop}{a b c:a5}(x:d8 F a b) (y:d8 F b c):d8 F a c:=λi o n e=>y i o n (x i o n e)
theorem d8.mono{F G:Addr→Prop}{a b:a5}(x:d8 F a b) (h:∀i,F i→G i):d8 G a b:=λi o n e=>x i o (λf=>n (h i f)) e
theorem d8.new{F:Addr→Prop}{Z:a5}{r:Addr}{o:j8}(h:Z r=none):d8 F Z (j1 Z r o):=λb o' _ e=>by
 rw[i8 (by rintro rfl; rw[h] at e; cases e)]; exact e
theorem d8.at{F:Addr→Prop}{Z:a5}{r:Addr}{o:j8}(h:F r):d8 F Z (j1 Z r o):=λb o' n e=>by
 rw[i8 (by rintro rfl; exact n h)]; exact e
theorem i5.same{K:H1}{T:List Tm}{Z a6:a5}(h:i5 K T Z) (s:d8 (λ_=>False) Z a6):i5 K T a6 where
 inst:=s _ _ id h.inst
 ns:=s _ _ id h.ns
 rows:=s _ _ id h.rows
 index:=s _ _ id h.index
 depths:=s _ _ id h.depths
 weights:=s _ _ id h.weights
 opens:=s _ _ id h.opens
 apart:=h.apart
 tab:=h.tab
 size:=h.size
section
variable {c:Cx}{Z:a5}{Q:V→a5→Prop}{E:a5→Prop}{K:H1}{T:List Tm}
theorem m6{a C dx:Addr}{l:List (Str×V)}{x:Str}{v:V}{R:V→Prop}(h1:Z a=some (.inst C dx)) (h2:Z dx=some (.ns l)) (h3:l.lookup x=some v) (p:Y3 c C x∧setName c C x) (hv:v.Lq=true) (q:R v):G1 c (.ref a) x Z R :=
 ⟨rfl,h1,h2,h3,p.1,hv,q⟩
theorem Ye{a C dx:Addr}{l:List (Str×V)}{x:Str}{f:Addr}(h1:Z a=some (.inst C dx)) (h2:Z dx=some (.ns l)) (h3:l.lookup x=none) (m:Ou c C x f):Ab c (.ref a) x Z (.fix (.ref f)) :=
 .inst h1 h2 h3 m.1 m.2.1 m.2.2.1 m.2.2.2
theorem i5.Jn(h:i5 K T Z) (N:g0 c):Ab c (.ref K.a) "row" Z (.fix (.ref 76)):=Ye h.inst h.ns rfl N.vT
theorem i5.fM(h:i5 K T Z) (N:g0 c):Ab c (.ref K.a) "put" Z (.fix (.ref 83)):=Ye h.inst h.ns rfl N.vU
theorem i5.Jo(h:i5 K T Z) (N:g0 c){R:V→Prop}(q:R (.ref K.r)):G1 c (.ref K.a) "rows" Z R:=m6 h.inst h.ns rfl (N.kt.attr 0 rfl) rfl q
theorem i5.lP(h:i5 K T Z) (N:g0 c){R:V→Prop}(q:R (.ref K.i)):G1 c (.ref K.a) "index" Z R:=m6 h.inst h.ns rfl (N.kt.attr 1 rfl) rfl q
theorem i5.Ry(h:i5 K T Z) (N:g0 c){R:V→Prop}(q:R (.ref K.d)):G1 c (.ref K.a) "depths" Z R:=m6 h.inst h.ns rfl (N.kt.attr 2 rfl) rfl q
theorem i5.bF(h:i5 K T Z) (N:g0 c){R:V→Prop}(q:R (.ref K.w)):G1 c (.ref K.a) "weights" Z R:=m6 h.inst h.ns rfl (N.kt.attr 3 rfl) rfl q
theorem i5.Ox(h:i5 K T Z) (N:g0 c){R:V→Prop}(q:R (.ref K.o)):G1 c (.ref K.a) "opens" Z R:=m6 h.inst h.ns rfl (N.kt.attr 4 rfl) rfl q
theorem A1{a:Addr}{l:List V}{k:Nat}{v:V}(ha:Z a=some (.list l)) (hk:k < 1152921504606846976) (h:l[k]?=some v){R:V→Prop}(q:R v):Ei (.ref a) (vi k) Z R:=by
 unfold Ei
 dsimp only
 rw[ha]
 exact⟨hk,h.symm ▸ q⟩
theorem De{α β:Type}{T:List α}{f:α→β}(h:T.length≤100000):(T.map f).length≤1000000:=by rw[List.length_map]; exact Nat.le_trans h (by decide)
theorem N8{α:Type}{T:List α}{f:α→V}(h:T.length≤100000):(T.map f).length≤1000000:=De h
theorem bG{α:Type}{T:List α}{f:α→V×V}(h:T.length≤100000):(T.map f).length≤1000000:=De h
theorem get_map{α β:Type}{l:List α}{i:Nat}{x:α}{f:α→β}(h:l[i]?=some x):(l.map f)[i]?=some (f x):=by rw[List.getElem?_map,h]; rfl
end
end Mine
end
section
open PySem PySem.W PyProof.Rows PySem.Calls
set_option Elab.async false
set_option maxRecDepth 100000
set_option maxHeartbeats 8000000
set_option genSizeOf false
set_option genInjectivity false
namespace Mine
noncomputable def vV(d:Data):Bool:=match d with
 | .freed=>true
 | _=>false
noncomputable def pick:List Obj→Nat→List Addr→Frag
 | [],_,_=>[]
 | o::os,i,l=>match l with
  | []=>[]
  | a::r=>match Nat.beq a i && !vV o.data with
   | true=>(i,o)::pick os (i+1) r
   | false=>pick os (i+1) (a::r)
theorem Rz{a:Addr}{o:Obj}:∀{os:List Obj}{i:Nat}{l:List Addr},(a,o)∈pick os i l→∃k,a=i+k∧os[k]?=some o∧vV o.data=false
 | [],_,_,h=>(List.not_mem_nil h).elim
 | _::_,_,[],h=>(List.not_mem_nil h).elim
 | p::os,i,b::r,h=>by
  have next {l:List Addr}(h:(a,o)∈pick os (i+1) l):∃k,a=i+k∧(p::os)[k]?=some o∧vV o.data=false :=
   (Rz h).elim λk e=>⟨k+1,e.1.trans (Nat.add_right_comm i 1 k),e.2⟩
  unfold pick at h
  dsimp only at h
  cases e:Nat.beq b i && !vV p.data with
  | false=>exact next (by rw[e] at h; exact h)
  | true =>
   rw[e] at h
   refine(List.mem_cons.mp h).elim (λh=>?_) next
   cases h
   exact⟨0,rfl,rfl,by cases q:vV o.data; rfl; rw[q,Bool.and_comm] at e; exact nomatch e⟩
noncomputable def kAt:List Addr:=[3,34,35,37,38,50,51,54,55,68,69,75,76,82,83,85,86,96,97,103,104,110,111,117,118,124,125,131,132,138,139,145,146,152,153,159,160,166,167,173,174,180,181,187,188,194,195,201,202,208,209,215,216,222,223,229,230,236,237,243,244,250,251,257,258,264,265,278,279,281,282,299,300,302,303,320,321,323,324,334,335,341,342,348,349,355,356,362,363,369,370,376,377,383,384,390,391,397,398,404,405,411,412,418,419,423,424,437,438,461,462,479,480,482,483,500,501,531,532,542,543,547,548,552,553,557,558,564,565,571,572,578,579,585,586,592,593,597,598,604,605,611,612,618,619,625,626,630,631,635,636]
noncomputable def rJ(h:Heap):Frag:=pick h.objs.toList 0 kAt
theorem allK_in(h:Heap):(rJ h).In h:=λa o e=>by
 obtain⟨k,rfl,h1,hf⟩:=Rz (by obtain⟨l,r,q,_⟩:=List.lookup_eq_some_iff.mp e; exact q ▸ List.mem_append_right l (.head r))
 rw[Array.getElem?_toList,←Nat.zero_add k] at h1
 obtain⟨cl,di,d,sl⟩:=o
 unfold Heap.get?
 rw[h1]
 cases d<;>first | rfl | cases hf
noncomputable def fN(K:Frag) (C:Addr) (x:Str):Bool:=plainGet K C x && (hasDictIn K C && (findIn K (.ref C) x == some none && (findIn K (.ref C) "__setattr__" == some (some (.builtin "object.__setattr__")) && (plainOver K C && takerIn K C x == some none))))
noncomputable def Gi(K:Frag) (C f:Addr) (l:List Str):Bool:=l.all (fN K C) && (makesIn K C && (findIn K (.ref C) "__init__" == some (some (.ref f)) && typeIn K (.ref f) == some (.type "function")))
noncomputable def Vj(K:Frag) (C:Addr) (x:Str) (f:Addr):Bool:=plainGet K C x && (findIn K (.ref C) x == some (some (.ref f)) && (isFn K (.ref f) && keepIn K (.ref f)))
noncomputable def Jp:List DictEntry→List (Int×V)→Bool
 | [],l=>l.isEmpty
 | ⟨h,k,v⟩::es,l=>match l with
  | []=>false
  | (k',v')::l=>match k with
   | .int k _=>match v with
    | .int v _=>match v' with
     | .int v'=>h == hashInt k && (k == k' && (v == v' && Jp es l))
     | _=>false
    | _=>false
   | _=>false
noncomputable def fO(o:Option Obj) (l:List (Int×V)):Bool:=match o with
 | some o=>o.cls == .type "dict" && (o.dict.isNone && (o.slots.isEmpty && (match o.data with
  | .dict es _=>Jp es.toList l
  | _=>false)))
 | none=>false
noncomputable def pB:List Addr:=[35,69,76,83,97,104,111,118,125,132,139,146,153,160,167,174,181,188,195,202,209,216,223,230,237,244,251,258,265,279,300,321,335,342,349,356,363,370,377,384,391,398,405,412,419,424,438,480,501,543,548,553,558,565,572,579,586,593,598,605,612,619,626,631,636]
noncomputable def pC:List (Option (Nat×List S)):=[some (3,K4),some (1,Jg),some (2,Mg),some (2,N6),some (1,V9),some (1,Co),some (1,Ae),some (2,z7),some (2,W0),some (2,Af),some (2,Cp),some (3,Ag),some (3,Ah),some (2,Cq),some (2,Ai),some (2,Aj),some (2,Fx),some (2,Cr),some (2,Ak),some (2,Cs),some (2,Mh),some (2,Jh),some (2,Fy),some (2,Mi),some (4,Rv),some (5,W1),some (3,Al),some (2,Mj),some (3,Fz),some (8,R9),some (7,N7),some (1,Am),some (2,An),some (2,Ao),some (7,Ga),some (6,Ct),some (2,Cu),some (3,Cv),some (2,Ji),some (2,S0),some (2,I1),some (2,F6),some (2,Cw),some (4,v0),some (2,W2),some (4,D1),some (1,Ap),some (3,Cy),some (4,Cz),some (3,Gb),some (3,W3),some (2,Jj),some (2,Gc),some (3,K5),some (2,Gd),some (2,Ge),some (3,Gf),some (1,W4),some (3,t0),some (4,Q6),some (4,M8),some (2,Gg),some (1,Gh),some (3,l5),some (1,Jk)]
noncomputable def o51:Obj:=⟨.type "type",none,.cls ⟨"BadKind",[.ref 38],[.ref 51,.ref 38,.type "Exception",.type "BaseException",.type "object"],50, "BadKind",true,[],[],false,none,false⟩,#[some (.ref 42),none,some (.str "BadKind" 227),some (.str "BadKind" 235),some (.builtin "Exception.__new__"),some (.bool true)]⟩
noncomputable def f35:FuncData:=⟨"__init__", "RuneError.__init__",⟨[],[⟨"self",none,⟨7,17,7,21⟩⟩,⟨"code",none,⟨7,23,7,27⟩⟩,⟨"at",none,⟨7,29,7,31⟩⟩],none,[],[],none,[]⟩,
 .stmts [.Assign [.Attribute (.Name "self" ⟨8,8,8,12⟩) "code" ⟨8,8,8,17⟩] (.Name "code" ⟨8,20,8,24⟩) ⟨8,8,8,24⟩,.Assign [.Attribute (.Name "self" ⟨9,8,9,12⟩) "at" ⟨9,8,9,15⟩] (.Name "at" ⟨9,18,9,20⟩) ⟨9,8,9,20⟩],
 ⟨.function,[("self",.local),("code",.local),("at",.local)],false,false,[]⟩,3,[],.none,.none,.none,.str "framerune.faults" 194,none,.ref 34,.none,0⟩
noncomputable def o35:Obj:=⟨.type "function",none,.func f35,#[]⟩
noncomputable def bOf(K:Frag):Bool:=Gi K 86 69 Da && (Gi K 282 279 Dc && (Gi K 303 300 Hj && (Gi K 324 321 Q8 && (Gi K 462 438 Ov && (Gi K 483 480 Y8 && (Gi K 532 501 Dd &&
 (Vj K 86 "row" 76 && (Vj K 86 "put" 83 && (fO (K.lookup 54) Q7 && (fO (K.lookup 55) l7 &&
 (findIn K (.ref 51) "__setattr__" == some (some (.builtin "object.__setattr__")) && (findIn K (.ref 51) "__init__" == some (some (.ref 35)) && (typeIn K (.ref 35) == some (.type "function") && (codeIn K (.ref 34) "RuneError.__init__" && (takerIn K 51 "code" == some none && (takerIn K 51 "at" == some none && nsIn K mainGlobals "law" == some (some (.ref 636))))))))))))))))))
noncomputable def fP[DecidableEq Str] (K:Frag):List (Option (Nat×List S))×Option Obj×Option Obj×Bool:=(pB.map (A6 K 51),K.lookup 51,K.lookup 35,bOf K)
noncomputable def obs[DecidableEq Str] (s:Shared):List (Option (Nat×List S))×Option Obj×Option Obj×Bool:=fP (rJ s.heap)
theorem obs_eq{s:Shared}{v:List (Option (Nat×List S))×Option Obj×Option Obj×Bool}(h:@obs Fast.sDec s=v):fP (rJ s.heap)=v:=by
 rw[←Fast.sDec_eq] at h
 exact h
noncomputable def val:List (Option (Nat×List S))×Option Obj×Option Obj×Bool:=(pC,some o51,some o35,true)
end Mine
end
section
open PySem PySem.W PyProof.Rows PySem.Calls
set_option Elab.async false
set_option maxRecDepth 100000
set_option maxHeartbeats 8000000
namespace Mine
noncomputable abbrev pp:Program:=PySem.Challenge.pw_sy0003_01
noncomputable def qq:Program:=view pp [121]
noncomputable def lo:List Str:=pp.boundNames
noncomputable def xt(s:Shared):Bool:=xlAt qq [] s && recOk (RowW.records (OpenRow.toRowW (OpenLaw.row PySem.Challenge.rw_sy0003_01))) s
noncomputable def goes(w:World) (b:Bool):Prop:=(fencedOpening treeTable pp w 11000).map (λd9=>(aE (stepT (denote treeTable) pp (w.withFollow "special-get-raises" b)) stepOk pp 11000 d9).map λs=>(openSeen qq lo (importedModules pp.main.body) xt true s,@obs Fast.sDec s))=some (some (openGood qq lo,val))
theorem go0:∀(w:World),goes w false:=λw=>by
 unfold goes lo fencedOpening aE staticsOk namesBound gensDone laidKept openGood pinGoodD plainGoodE plainGoodD wideGood clsGoodW
 rw[Fast.te10274390034422433532,Fast.te14364793385576792824,Fast.te14289696077712309145,Fast.te10156331382660048174,Fast.te11892475500146522536,Fast.te6613529449190102663,Fast.te1435165496053646825,Fast.te4187177175401517315,Fast.te5923862056798008813,Fast.te8920871248978507458]
 simp only[Fast.te4857012375875476094,Fast.te1584917186373303978,Fast.te3471404346716756564,Fast.te14846217769314788766,Fast.te7966671052430208091,Fast.te12749700546528644094,Fast.te18344453789297297638,Fast.te3247288618530077131,Fast.te821141287760084731,Fast.te12515865711710729776,Fast.te210736558901404530,Fast.te4354255287344443571,Fast.te694669760492028198,Fast.te1571739515156823405]
 kernel_rfl
theorem go1:∀(w:World),goes w true:=λw=>by
 unfold goes lo fencedOpening aE staticsOk namesBound gensDone laidKept openGood pinGoodD plainGoodE plainGoodD wideGood clsGoodW
 rw[Fast.te10274390034422433532,Fast.te14364793385576792824,Fast.te14289696077712309145,Fast.te10156331382660048174,Fast.te11892475500146522536,Fast.te6613529449190102663,Fast.te1435165496053646825,Fast.te4187177175401517315,Fast.te5923862056798008813,Fast.te8920871248978507458]
 simp only[Fast.te4857012375875476094,Fast.te1584917186373303978,Fast.te3471404346716756564,Fast.te14846217769314788766,Fast.te7966671052430208091,Fast.te12749700546528644094,Fast.te18344453789297297638,Fast.te3247288618530077131,Fast.te821141287760084731,Fast.te12515865711710729776,Fast.te210736558901404530,Fast.te4354255287344443571,Fast.te694669760492028198,Fast.te1571739515156823405]
 kernel_rfl
theorem go(w:World) (b:Bool):goes w b:=match b with
 | false=>go0 w
 | true=>go1 w
end Mine
end
section
open PySem PySem.W PyProof.Rows PySem.Calls
set_option Elab.async false
set_option maxRecDepth 100000
set_option genSizeOf false
set_option genInjectivity false
namespace Mine
theorem g7{α β:Type}{f:α→β}{l:List α}{m:List β}(h:l.map f=m) (i:Nat){a:α}{b:β}(h1:l[i]?=some a) (h2:m[i]?=some b):f a=b:=by
 subst h
 rw[List.getElem?_map,h1] at h2
 exact Option.some.inj h2
theorem lQ{c:Cx}(b:c.i4=51) (h:pB.map (A6 c.K 51)=pC):Code c:=by
 obtain⟨p,w,h0,K,B⟩:=c
 subst b
 exact⟨g7 h 0 rfl rfl,g7 h 1 rfl rfl,g7 h 2 rfl rfl,g7 h 3 rfl rfl,g7 h 4 rfl rfl,g7 h 5 rfl rfl,g7 h 6 rfl rfl,g7 h 7 rfl rfl,g7 h 8 rfl rfl,g7 h 9 rfl rfl,g7 h 10 rfl rfl,g7 h 11 rfl rfl,g7 h 12 rfl rfl,g7 h 13 rfl rfl,g7 h 14 rfl rfl,g7 h 15 rfl rfl,g7 h 16 rfl rfl,g7 h 17 rfl rfl,g7 h 18 rfl rfl,g7 h 19 rfl rfl,g7 h 20 rfl rfl,g7 h 21 rfl rfl,g7 h 22 rfl rfl,g7 h 23 rfl rfl,g7 h 24 rfl rfl,g7 h 25 rfl rfl,g7 h 26 rfl rfl,g7 h 27 rfl rfl,g7 h 28 rfl rfl,g7 h 29 rfl rfl,g7 h 30 rfl rfl,g7 h 31 rfl rfl,g7 h 32 rfl rfl,g7 h 33 rfl rfl,g7 h 34 rfl rfl,g7 h 35 rfl rfl,g7 h 36 rfl rfl,g7 h 37 rfl rfl,g7 h 38 rfl rfl,g7 h 39 rfl rfl,g7 h 40 rfl rfl,g7 h 41 rfl rfl,g7 h 42 rfl rfl,g7 h 43 rfl rfl,g7 h 44 rfl rfl,g7 h 45 rfl rfl,g7 h 46 rfl rfl,g7 h 47 rfl rfl,g7 h 48 rfl rfl,g7 h 49 rfl rfl,g7 h 50 rfl rfl,g7 h 51 rfl rfl,g7 h 52 rfl rfl,g7 h 53 rfl rfl,g7 h 54 rfl rfl,g7 h 55 rfl rfl,g7 h 56 rfl rfl,g7 h 57 rfl rfl,g7 h 58 rfl rfl,g7 h 59 rfl rfl,g7 h 60 rfl rfl,g7 h 61 rfl rfl,g7 h 62 rfl rfl,g7 h 63 rfl rfl,g7 h 64 rfl rfl⟩
theorem lR{c:Cx}{C:Addr}{x:Str}(h:fN c.K C x=true):Y3 c C x∧setName c C x :=
 an h λh1 h=>an h λh2 h=>an h λh3 h=>an h λh4 h=>an h λh5 h6=>⟨⟨h1,h2,beq_iff_eq.mp h3⟩,beq_iff_eq.mp h4,h5,beq_iff_eq.mp h6,h2⟩
theorem Bf{c:Cx}{C f:Addr}{l:List Str}(h:Gi c.K C f l=true):D3 c C f l :=
 an h λh1 h=>an h λh2 h=>an h λh3 h4=>⟨λi x hx=>lR (List.all_eq_true.mp h1 x (List.mem_of_getElem? hx)),h2,beq_iff_eq.mp h3,beq_iff_eq.mp h4⟩
theorem Yg{c:Cx}{C f:Addr}{x:Str}(h:Vj c.K C x f=true):Ou c C x f :=
 an h λh1 h=>an h λh2 h=>an h λh3 h4=>⟨h1,beq_iff_eq.mp h2,h3,h4⟩
theorem Gj{prog:Program}{w:World}{h:Heap}:∀{es:List DictEntry}{kvs:List (Int×V)},Jp es kvs=true→∃l:List (Int×Value),(∀e∈es,∃k,(intKind prog w).is k e.key=true∧e.hash=(intKind prog w).hash k)∧Pairs (intKind prog w) es l∧kvs.map (·.1)=l.map (·.1)∧h9 h (kvs.map (·.2)) (l.map (·.2))
 | [],[],_=>⟨[],λ_ h=>(List.not_mem_nil h).elim,.nil,rfl,.nil⟩
 | [],_::_,e=>ff e
 | _::_,[],e=>ff e
 | ⟨hs,k,v⟩::es,(k',v')::kvs,e=>by
  cases k with
  | int k t=>cases v with
   | int v u=>cases v' with
    | int v' =>
     refine an e λe1 e=>an e λe2 e=>an e λe3 e=>?_
     obtain⟨l,h1,h2,h3,h4⟩:=Gj (prog:=prog) (w:=w) (h:=h) e
     obtain rfl:=beq_iff_eq.mp e1
     obtain rfl:=beq_iff_eq.mp e2
     obtain rfl:=beq_iff_eq.mp e3
     have q:(intKind prog w).is k (.int k t)=true:=beq_iff_eq.mpr rfl
     exact⟨(k,.int v u)::l,List.forall_mem_cons.mpr ⟨⟨k,q,rfl⟩,h1⟩,.cons q rfl h2,congrArg (List.cons k) h3,.cons (.int ..) h4⟩
    | _=>exact ff e
   | _=>exact ff e
  | _=>exact ff e
theorem fQ{c:Cx}(X:c.K.In c.base){a:Addr}(h2:2 < a){kvs:List (Int×V)}(hn:(kvs.map (·.1)).Nodup) (h:fO (c.K.lookup a) kvs=true):Ul c a kvs:=by
 cases ho:c.K.lookup a with
 | none=>rw[ho] at h; exact ff h
 | some o =>
  rw[ho] at h
  obtain⟨cl,di,d,sl⟩:=o
  refine an h λh1 h=>an h λh3 h=>an h λh4 h=>?_
  cases d with
  | dict es ep =>
   obtain⟨l,g1,g2,g3,g4⟩:=Gj (prog:=c.prog) (w:=c.w) (h:=c.base) h
   obtain rfl:=beq_iff_eq.mp h1
   obtain rfl:=Option.isNone_iff_eq_none.mp h3
   obtain rfl:=Array.isEmpty_iff.mp h4
   exact⟨h2,l,⟨_,es,ep,X _ _ ho,⟨rfl,rfl,rfl⟩,rfl,λe he=>g1 e (Array.mem_toList_iff.mpr he),g2,g3 ▸ hn⟩,g3,g4⟩
  | _=>exact ff h
theorem lS{c:Cx}(b:c.i4=51) (h51:c.K.lookup 51=some o51) (h35:c.K.lookup 35=some o35) (e1:findIn c.K (.ref 51) "__setattr__"=some (some (.builtin "object.__setattr__"))) (e2:findIn c.K (.ref 51) "__init__"=some (some (.ref 35))) (e3:typeIn c.K (.ref 35)=some (.type "function")) (e4:codeIn c.K (.ref 34) "RuneError.__init__"=true) (e5:takerIn c.K 51 "code"=some none) (e6:takerIn c.K 51 "at"=some none):∃P fI cd fd,Q4 c P fI cd fd:=by
 obtain⟨p,w,h0,K,B⟩:=c
 subst b
 exact⟨38,35,_,f35,⟨⟨_,_,_,h51⟩,rfl,rfl,e1⟩,⟨_,_,_,_,_,_,_,_,_,_,_,_,_,_,_,h51⟩,e2,e3,⟨_,_,_,_,_,_,_,_,⟨⟨_,_,_,h35⟩,rfl,e4,rfl,rfl,rfl,rfl,rfl,rfl,λvals hl=>V6 rfl rfl rfl rfl rfl (by decide) hl⟩⟩,by decide,e5,e6⟩
theorem rK{c:Cx}(G:Good c) (b:c.i4=51) (e:fP c.K=val):g0 c:=by
 have h4:bOf c.K=true:=congrArg (·.2.2.2) e
 refine an h4 λb1 h=>an h λb2 h=>an h λb3 h=>an h λb4 h=>an h λb5 h=>an h λb6 h=>an h λb7 h=>an h λb8 h=>an h λb9 h=>an h λb10 h=>an h λb11 h=>an h λb12 h=>an h λb13 h=>an h λb14 h=>an h λb15 h=>an h λb16 h=>an h λb17 _=>?_
 exact⟨G,lS b (congrArg (·.2.1) e) (congrArg (·.2.2.1) e) (beq_iff_eq.mp b12) (beq_iff_eq.mp b13) (beq_iff_eq.mp b14) b15 (beq_iff_eq.mp b16) (beq_iff_eq.mp b17),lQ b (congrArg (·.1) e),Bf b1,Bf b2,Bf b3,Bf b4,Bf b5,Bf b6,Bf b7,Yg b8,Yg b9,fQ G.KX (by decide) (by decide) b10,fQ G.KX (by decide) (by decide) b11⟩
end Mine
end
section
open PySem PySem.W PyProof.Rows PySem.Calls
set_option Elab.async false
set_option genSizeOf false
set_option genInjectivity false
namespace Mine
open Classical
theorem bH{r:Bool}{A B:Prop}(h1:r=true→A) (h2:r=false→B):U0 r A B:=⟨h1,h2⟩
theorem K6{P:Prop}{i:Decidable P}{A B:Prop}(h1:P→A) (h2:¬P→B):U0 (decide P) A B:=⟨λe=>h1 (of_decide_eq_true e),λe=>h2 (of_decide_eq_false e)⟩
theorem lT{P:Prop}{i:Decidable P}{A B:Prop}(h1:¬P→A) (h2:P→B):U0 (!decide P) A B:=match i with
 | .isTrue h=>⟨nofun,λ_=>h2 h⟩
 | .isFalse h=>⟨λ_=>h1 h,nofun⟩
theorem bI{P:Prop}{i:Decidable P}{A B:Prop}(h:P) (a:A):U0 (decide P) A B:=K6 (λ_=>a) λn=>absurd h n
theorem Oy{P:Prop}{i:Decidable P}{A B:Prop}(h:¬P) (b:B):U0 (decide P) A B:=K6 (λp=>absurd p h) λ_=>b
theorem rL{r:Bool}{A B:Prop}(e:r=true) (a:A):U0 r A B:=e ▸ ⟨λ_=>a,nofun⟩
theorem T4{r:Bool}{A B:Prop}(e:r=false) (b:B):U0 r A B:=e ▸ ⟨nofun,λ_=>b⟩
theorem T7{A B:Prop}(a:A):U0 true A B:=⟨λ_=>a,nofun⟩
theorem S4{A B:Prop}(b:B):U0 false A B:=⟨nofun,λ_=>b⟩
theorem N9{a:Addr}{l:List (V×V)}{i v:V}{Z:a5}{K:a5→Prop}(hl:Z a=some (.dict l)) (hk:H6 i l) (hz:l.length≤1000000) (q:∀a6,a6 a=some (.dict (dput l i v))→(∀b,b≠a→a6 b=Z b)→K a6):Uo (.ref a) i v Z K:=⟨by
 simp only[Xe,hl]
 exact⟨hk,hz,q _ (a7 ..) λb hb=>i8 hb⟩⟩
theorem bJ{a:Addr}{l:List V}{k:Nat}{v:V}{Z:a5}{K:a5→Prop}(hl:Z a=some (.list l)) (hk:k < l.length) (hz:l.length≤1000000) (q:∀a6,a6 a=some (.list (l.set k v))→(∀b,b≠a→a6 b=Z b)→K a6):Uo (.ref a) (.int k) v Z K:=⟨by
 simp only[Xe,hl]
 exact⟨k,rfl,Int.natCast_nonneg k,hk,hz,q _ (a7 ..) λb hb=>i8 hb⟩⟩
section
variable {c:Cx}{n:Nat}{l:List (Option V)}{Z:a5}{Q:Fl→Loc→a5→Prop}{E:a5→Prop}{xs:List S}
noncomputable def flK(Q:Fl→Loc→a5→Prop) (k:Loc→a5→Prop):Fl→Loc→a5→Prop:=λfl ρ Z=>match fl with
  | .next=>k ρ Z
  | .cont=>Q .cont ρ Z
  | .brk=>Q .brk ρ Z
  | .ret v=>Q (.ret v) ρ Z
theorem Yh:∀(a b:List S) (ρ:Loc) (Z:a5),l6 c n (a++b) ρ Z Q E=l6 c n a ρ Z (flK Q λρ Z=>l6 c n b ρ Z Q E) E
 | [],b,ρ,Z=>rfl
 | x::a,b,ρ,Z=>congrArg (λR=>WS c n x ρ Z R E) (funext λfl=>funext λu7=>funext λa6=>match fl with
  | .next=>Yh a b u7 a6
  | .cont=>rfl
  | .brk=>rfl
  | .ret _=>rfl)
theorem j9{ρ:Loc}(h:Q .next ρ Z):l6 c n [] ρ Z Q E:=h
theorem f6{i:Nat}{e:X}(h:WX c n e (gl l) Z (λv Z=>l6 c n xs (gl (sl l i v)) Z Q E) E):l6 c n (.set i e::xs) (gl l) Z Q E:=by
 refine(?_:WX c n e (gl l) Z (λv Z=>l6 c n xs (t8 (gl l) i v) Z Q E) E)
 rw[show(λv Z=>l6 c n xs (t8 (gl l) i v) Z Q E)=λv Z=>l6 c n xs (gl (sl l i v)) Z Q E from funext λv=>by rw[Jm]]
 exact h
theorem f7{ρ:Loc}{e:X}(h:WX c n e ρ Z (λv Z=>Q (.ret v) ρ Z) E):l6 c n (.ret e::xs) ρ Z Q E:=h
theorem n8{ρ:Loc}{e:X}(h:WX c n e ρ Z (λv Z=>l6 c n xs ρ Z Q E) E):l6 c n (.exp e::xs) ρ Z Q E:=h
theorem f9{ρ:Loc}{t:B}{a b:List S}(h:WC c n t ρ Z (λr Z=>U0 r (l6 c n (a++xs) ρ Z Q E) (l6 c n (b++xs) ρ Z Q E)) E):l6 c n (.ite t a b::xs) ρ Z Q E:=by
 simp only[Yh] at h
 exact h
noncomputable def Sa(t:Tg) (v:V) (l:List (Option V)) (K:List (Option V)→Prop):Prop:=match t with
 | .one i=>K (sl l i v)
 | .two i j=>match v with
  | .tup [a,b]=>K (sl (sl l i a) j b)
  | _=>False
theorem Vk{t:Tg}{v:V}{l:List (Option V)}{K:Loc→Prop}:aC t v (gl l) K=Sa t v l λl'=>K (gl l'):=by
 cases t with
 | one i=>exact congrArg K (Jm l i v)
 | two i j =>
  cases v with
  | tup m=>match m with
   | [a,b]=>exact congrArg K ((congrArg (λρ=>t8 ρ j b) (Jm l i a)).trans (Jm _ j b))
   | []=>rfl
   | [_]=>rfl
   | _::_::_::_=>rfl
  | _=>rfl
theorem fR{i j:Nat}{e:X}(h:WX c n e (gl l) Z (λv Z=>Sa (.two i j) v l λl'=>l6 c n xs (gl l') Z Q E) E):l6 c n (.aG i j e::xs) (gl l) Z Q E:=by
 refine(?_:WX c n e (gl l) Z (λv Z=>aC (.two i j) v (gl l) λu7=>l6 c n xs u7 Z Q E) E)
 simp only[Vk]; exact h
theorem rM{i j:Nat}{a b:X}(h:WX c n a (gl l) Z (λx Z=>WX c n b (gl l) Z (λy Z=>l6 c n xs (gl (sl (sl l j y) i x)) Z Q E) E) E):l6 c n (.swap i j a b::xs) (gl l) Z Q E:=by
 refine(?_:WX c n a (gl l) Z (λx Z=>WX c n b (gl l) Z (λy Z=>l6 c n xs (t8 (t8 (gl l) j y) i x) Z Q E) E) E)
 simp only[Jm]; exact h
theorem Bg{ρ:Loc}{o e:X}{x:Str}(h:WX c n e ρ Z (λv Z=>WX c n o ρ Z (λov Z=>dA c ov x v Z λZ=>l6 c n xs ρ Z Q E) E) E):l6 c n (.j5 o x e::xs) ρ Z Q E:=h
theorem D4{ρ:Loc}{o i e:X}(h:WX c n e ρ Z (λv Z=>WX c n o ρ Z (λov Z=>WX c n i ρ Z (λiv Z=>Uo ov iv v Z λZ=>l6 c n xs ρ Z Q E) E) E) E):l6 c n (.J5 o i e::xs) ρ Z Q E:=h
theorem fS{i:Nat}{op:Operator}{e:X}{old:V}(ho:gl l i=some old) (h:WX c n e (gl l) Z (λv Z=>tW op old v Z λr Z=>l6 c n xs (gl (sl l i r)) Z Q E) E):l6 c n (.aug i op e::xs) (gl l) Z Q E:=by
 refine(?_:S5 (gl l i) λold=>WX c n e (gl l) Z (λv Z=>tW op old v Z λr Z=>l6 c n xs (t8 (gl l) i r) Z Q E) E)
 rw[ho]
 simp only[Jm]; exact h
theorem Yi{ρ:Loc}{es:List X}(h:Ui c n es ρ Z (λ_ Z=>E Z) E):l6 c n (.raise es::xs) ρ Z Q E:=h
theorem Vl{ρ:Loc}(h:Q .cont ρ Z):l6 c n (.cont::xs) ρ Z Q E:=h
theorem Sb{it:a5→Prop}{step:V→Loc→a5→(Fl→Loc→a5→Prop)→Prop}(I:List V→List V→List (Option V)→a5→Prop)
  (hi:∀done left l Z,I done left l Z→it Z)
  (hs:∀done x left l Z K,I done (x::left) l Z→(∀l' a6,I (done++[x]) left l' a6→K .next (gl l') a6)→(∀l' a6,I (done++[x]) left l' a6→K .cont (gl l') a6)→(∀v u7 a6,Q (.ret v) u7 a6→K (.ret v) u7 a6)→step x (gl l) Z K) :
  ∀(left done:List V) (l:List (Option V)) (Z:a5),I done left l Z→(∀l Z,I (done++left) [] l Z→Q .next (gl l) Z)→aH it step left (gl l) Z Q
 | [],done,l,Z,h,he=>⟨hi _ _ _ _ h,he _ _ (by rw[List.append_nil]; exact h)⟩
 | x::left,done,l,Z,h,he=>by
  have go:∀l' a6,I (done++[x]) left l' a6→aH it step left (gl l') a6 Q:=λl' a6 q=>Sb I hi hs left _ _ _ q λl Z q=>he l Z (by rw[List.append_assoc] at q; exact q)
  exact⟨hi _ _ _ _ h,hs _ _ _ _ _ _ h go go λ_ _ _ q=>q⟩
abbrev tA(c:Cx) (n:Nat) (t:Tg) (b xs:List S) (l:List (Option V)) (Q:Fl→Loc→a5→Prop) (E:a5→Prop) (iv:V) (Z:a5):Prop :=
 tV (λZ l=>A5 iv Z l) (λx ρ Z K=>aC t x ρ λu7=>l6 c n b u7 Z K E) (gl l) Z (flK Q λρ Z=>l6 c n xs ρ Z Q E)
theorem A2{t:Tg}{e:X}{b:List S}(h:WX c n e (gl l) Z (tA c n t b xs l Q E) E):l6 c n (.for t e b::xs) (gl l) Z Q E:=h
theorem rO{t:Tg}{b:List S}{iv:V}{its:List V}(I:List V→List V→List (Option V)→a5→Prop) (hz:its.length≤1000000) (hi:∀done left l Z,I done left l Z→A5 iv Z its) (h0:I [] its l Z)
  (hs:∀done x left l Z K,I done (x::left) l Z→(∀l' a6,I (done++[x]) left l' a6→K .next (gl l') a6)→(∀l' a6,I (done++[x]) left l' a6→K .cont (gl l') a6)→(∀v u7 a6,Q (.ret v) u7 a6→K (.ret v) u7 a6)→Sa t x l λl'=>l6 c n b (gl l') Z K E)
  (he:∀l Z,I its [] l Z→l6 c n xs (gl l) Z Q E):tA c n t b xs l Q E iv Z :=
 ⟨its,hi _ _ _ _ h0,hz,Sb I hi (λdone x left l Z K hI k1 k2 k3=>(Vk (K:=λu7=>l6 c n b u7 Z K E)).symm ▸ hs done x left l Z K hI k1 k2 k3) its [] l Z h0 he⟩
theorem Df{α β:Type}{f:α→β}{l:List α}{x:β}{left:List β}(e:x::left=l.map f):∃a l',l=a::l'∧x=f a∧left=l'.map f:=match l,e with
 | a::l',e=>⟨a,l',rfl,(List.cons.inj e).1,(List.cons.inj e).2⟩
theorem Hk{α:Type}{t:Tg}{b:List S}{iv:V}(f:α→V) (L:List α) (I:List α→List (Option V)→a5→Prop) (hz:L.length≤1000000) (hi:∀d l Z,I d l Z→A5 iv Z (L.map f)) (h0:I [] l Z)
  (hs:∀d a r l Z K,L=d++a::r→I d l Z→(∀l' a6,I (d++[a]) l' a6→K .next (gl l') a6∧K .cont (gl l') a6)→(∀v u7 a6,Q (.ret v) u7 a6→K (.ret v) u7 a6)→Sa t (f a) l λl'=>l6 c n b (gl l') Z K E)
  (he:∀l Z,I L l Z→l6 c n xs (gl l) Z Q E):tA c n t b xs l Q E iv Z :=
 rO (its:=L.map f) (λ_ left l Z=>∃d r,L=d++r∧left=r.map f∧I d l Z) (by rw[List.length_map]; exact hz) (λ_ _ _ _ ⟨d,_,_,_,h⟩=>hi d _ _ h) ⟨[],L,rfl,rfl,h0⟩
  (λ_ x left l Z K ⟨d,r,e,e',h⟩ k1 k2 k3=>by
   obtain⟨a,r,rfl,rfl,rfl⟩:=Df e'
   exact hs d a r l Z K e h (λl' a6 h'=>⟨k1 l' a6 ⟨d++[a],r,by rw[e,List.append_assoc]; rfl,rfl,h'⟩,k2 l' a6 ⟨d++[a],r,by rw[e,List.append_assoc]; rfl,rfl,h'⟩⟩) k3)
  λl Z ⟨d,r,e,e',h⟩=>he l Z (match r,e' with
   | [],_=>by rw[List.append_nil] at e; rw[e]; exact h)
theorem z8{α γ:Type}{t:Tg}{b:List S}{iv:V}(f:α→V) (L:List α) (lay:γ→List (Option V)) (I:List α→γ→a5→Prop) (g:γ) (hz:L.length≤1000000) (hi:∀d g Z,I d g Z→A5 iv Z (L.map f)) (h0:I [] g Z)
  (hs:∀d a r g Z K,L=d++a::r→I d g Z→(∀g' a6,I (d++[a]) g' a6→K .next (gl (lay g')) a6∧K .cont (gl (lay g')) a6)→(∀v u7 a6,Q (.ret v) u7 a6→K (.ret v) u7 a6)→Sa t (f a) (lay g) λl'=>l6 c n b (gl l') Z K E)
  (he:∀g Z,I L g Z→l6 c n xs (gl (lay g)) Z Q E):tA c n t b xs (lay g) Q E iv Z :=
 Hk f L (λd l Z=>∃g,l=lay g∧I d g Z) hz (λd _ Z ⟨g,_,h⟩=>hi d g Z h) ⟨g,rfl,h0⟩ (λd a r l Z K e ⟨g,el,h⟩ k k2=>el ▸ hs d a r g Z K e h (λg' a6 h'=>k _ a6 ⟨g',rfl,h'⟩) k2) λl Z ⟨g,el,h⟩=>el ▸ he g Z h
theorem Sd{n a:Nat}{d r:List Nat}(e:List.range n=d++a::r):a=d.length∧a < n:=by
 have h:=congrArg (·[d.length]?) e
 simp only[List.getElem?_append_right (Nat.le_refl _),Nat.sub_self,gZ] at h
 obtain⟨h1,h2⟩:=List.getElem?_eq_some_iff.mp h
 rw[List.getElem_range] at h2
 rw[List.length_range] at h1
 exact⟨h2.symm,h2 ▸ h1⟩
theorem bK(len:Nat) (h:len≤1000000):A5 (.rng 0 (len:Int)) Z ((List.range len).map vi):=by
 refine⟨Int.le_refl 0,Int.natCast_nonneg len,Int.ofNat_le.mpr h,?_⟩
 rw[Int.sub_zero,Int.toNat_natCast]
 exact List.map_congr_left λi _=>congrArg V.int (Int.zero_add _).symm
theorem Q9{γ:Type}{t:Tg}{b:List S}{len:Nat}(lay:γ→List (Option V)) (I:Nat→γ→a5→Prop) (g:γ) (hz:len≤1000000) (h0:I 0 g Z)
  (hs:∀i g Z K,i < len→I i g Z→(∀g' a6,I (i+1) g' a6→K .next (gl (lay g')) a6∧K .cont (gl (lay g')) a6)→(∀v u7 a6,Q (.ret v) u7 a6→K (.ret v) u7 a6)→Sa t (vi i) (lay g) λl'=>l6 c n b (gl l') Z K E)
  (he:∀g Z,I len g Z→l6 c n xs (gl (lay g)) Z Q E):tA c n t b xs (lay g) Q E (.rng 0 len) Z :=
 z8 vi (List.range len) lay (λd g Z=>I d.length g Z) g (by rw[List.length_range]; exact hz) (λ_ _ _ _=>bK len hz) h0 (λd a r g Z K e h k k2=>by
  obtain⟨rfl,hl⟩:=Sd e
  exact hs _ g Z K hl h (λg' a6 h'=>k g' a6 (by rw[List.length_append]; exact h')) k2) λg Z h=>he g Z (by rw[List.length_range] at h; exact h)
theorem Ew{it:a5→Prop}{step:V→a5→(Option V→a5→Prop)→Prop}{Q:List V→a5→Prop}(I:List V→List V→List V→a5→Prop)
  (hi:∀done left acc Z,I done left acc Z→it Z)
  (hs:∀done x left acc Z K,I done (x::left) acc Z→(∀v a6,I (done++[x]) left (acc++[v]) a6→K (some v) a6)→(∀a6,I (done++[x]) left acc a6→K none a6)→step x Z K) :
  ∀(left done acc:List V) (Z:a5),I done left acc Z→(∀acc Z,I (done++left) [] acc Z→Q acc Z)→Fp it step left acc Z Q
 | [],done,acc,Z,h,he=>⟨hi _ _ _ _ h,he _ _ (by rw[List.append_nil]; exact h)⟩
 | x::left,done,acc,Z,h,he =>
  have he':=λacc Z (q:I ((done++[x])++left) [] acc Z)=>he acc Z (by rw[List.append_assoc] at q; exact q)
  ⟨hi _ _ _ _ h,hs _ _ _ _ _ _ h (λv a6 q=>Ew I hi hs left _ _ _ q he') λa6 q=>Ew I hi hs left _ _ _ q he'⟩
abbrev vW(c:Cx) (n:Nat) (e:X) (t:Tg) (cs:List B) (l:List (Option V)) (Q:V→a5→Prop) (iv:V) (Z:a5):Prop :=
 nV (λZ l=>A5 iv Z l) (λx Z K=>aC t x (gl l) λu7=>Hz c n cs u7 Z (λb Z=>U0 b (WX c n e u7 Z (λv Z=>K (some v) Z) λ_=>False) (K none Z)) λ_=>False) Z Q
theorem lU{e:X}{t:Tg}{cs:List B}{Q:V→a5→Prop}{iv:V}{its:List V}(I:List V→List V→List V→a5→Prop) (hz:its.length≤1000000) (hi:∀done left acc Z,I done left acc Z→A5 iv Z its) (h0:I [] its [] Z)
  (hs:∀done x left acc Z (K:Option V→a5→Prop),I done (x::left) acc Z→(∀v a6,I (done++[x]) left (acc++[v]) a6→K (some v) a6)→(∀a6,I (done++[x]) left acc a6→K none a6)→Sa t x l λl'=>Hz c n cs (gl l') Z (λb Z=>U0 b (WX c n e (gl l') Z (λv Z=>K (some v) Z) λ_=>False) (K none Z)) λ_=>False)
  (he:∀acc Z,I its [] acc Z→∀r,Z r=none→Q (.ref r) (j1 Z r (.list acc))):vW c n e t cs l Q iv Z :=
 ⟨its,hi _ _ _ _ h0,hz,Ew I hi (λdone x left acc Z K hI k1 k2=>(Vk (K:=λu7=>Hz c n cs u7 Z (λb Z=>U0 b (WX c n e u7 Z (λv Z=>K (some v) Z) λ_=>False) (K none Z)) λ_=>False)).symm ▸ hs done x left acc Z K hI k1 k2) its [] [] Z h0 he⟩
theorem comp_map{α:Type}{e:X}{t:Tg}{cs:List B}{Q:V→a5→Prop}{iv:V}(f:α→V) (L:List α) (I:List α→List V→a5→Prop) (hz:L.length≤1000000) (hi:∀d acc Z,I d acc Z→A5 iv Z (L.map f)) (h0:I [] [] Z)
  (hs:∀d a r acc Z (K:Option V→a5→Prop),L=d++a::r→I d acc Z→(∀v a6,I (d++[a]) (acc++[v]) a6→K (some v) a6)→(∀a6,I (d++[a]) acc a6→K none a6)→Sa t (f a) l λl'=>Hz c n cs (gl l') Z (λb Z=>U0 b (WX c n e (gl l') Z (λv Z=>K (some v) Z) λ_=>False) (K none Z)) λ_=>False)
  (he:∀acc Z,I L acc Z→∀r,Z r=none→Q (.ref r) (j1 Z r (.list acc))):vW c n e t cs l Q iv Z :=
 lU (its:=L.map f) (λ_ left acc Z=>∃d r,L=d++r∧left=r.map f∧I d acc Z) (by rw[List.length_map]; exact hz) (λ_ _ _ _ ⟨d,_,_,_,h⟩=>hi d _ _ h) ⟨[],L,rfl,rfl,h0⟩
  (λ_ x left acc Z K ⟨d,r,e,e',h⟩ k1 k2=>by
   obtain⟨a,r,rfl,rfl,rfl⟩:=Df e'
   exact hs d a r acc Z K e h (λv a6 h'=>k1 v a6 ⟨d++[a],r,by rw[e,List.append_assoc]; rfl,rfl,h'⟩) λa6 h'=>k2 a6 ⟨d++[a],r,by rw[e,List.append_assoc]; rfl,rfl,h'⟩)
  λacc Z ⟨d,r,e,e',h⟩=>he acc Z (match r,e' with
   | [],_=>by rw[List.append_nil] at e; rw[e]; exact h)
noncomputable def a0y(c:Cx) (n:Nat) (I:Nat→List (Option V)→a5→Prop) (k:Nat) (xs:List S) (Q:Fl→Loc→a5→Prop) (E:a5→Prop):Fl→Loc→a5→Prop:=λfl ρ Z=>match fl with
    | .next=>∃m,m < k∧∃l,ρ=gl l∧I m l Z
    | .cont=>∃m,m < k∧∃l,ρ=gl l∧I m l Z
    | .brk=>l6 c n xs ρ Z Q E
    | .ret v=>Q (.ret v) ρ Z
theorem Se{t:B}{b:List S}(I:Nat→List (Option V)→a5→Prop){k:Nat}(h:I k l Z)
  (hs:∀k l Z,I k l Z→WC c n t (gl l) Z (λr Z=>U0 r (l6 c n b (gl l) Z (a0y c n I k xs Q E) E) (l6 c n xs (gl l) Z Q E)) E):l6 c n (.whl t b::xs) (gl l) Z Q E :=
 ⟨λk ρ Z=>∃l,ρ=gl l∧I k l Z,⟨k,l,rfl,h⟩,λk ρ Z ⟨l,e,h⟩=>by
  subst e
  exact hs k l Z h⟩
end
section
variable {c:Cx}{n:Nat}{ρ:Loc}{Z:a5}{E:a5→Prop}
section
variable {Q:V→a5→Prop}
theorem l8{i:Nat}{v:V}(h:ρ i=some v) (q:Q v Z):WX c n (.loc i) ρ Z Q E:=by
 refine(?_:S5 (ρ i) λv=>Q v Z)
 rw[h]
 exact q
theorem k7{v:V}(q:Q v Z):WX c n (.con v) ρ Z Q E:=q
theorem fU{i:Int}(q:Q (.int (-i)) Z):WX c n (.neg (.con (.int i))) ρ Z Q E:=q
theorem pD{l:List X}(q:Ui c n l ρ Z (λvs Z=>Q (.tup vs) Z) E):WX c n (.tup l) ρ Z Q E:=q
theorem fV{o i:X}(q:WX c n o ρ Z (λov Z=>WX c n i ρ Z (λiv Z=>Ei ov iv Z λv=>Q v Z) E) E):WX c n (.sub o i) ρ Z Q E:=q
theorem Oz{f:X}{l:List X}(q:WX c n f ρ Z (λfv Z=>Ui c n l ρ Z (λvs Z=>i3 c n fv vs Z Q E) E) E):WX c n (.call f l) ρ Z Q E:=q
theorem I2{t:B}{a b:X}(q:WC c n t ρ Z (λr Z=>U0 r (WX c n a ρ Z Q E) (WX c n b ρ Z Q E)) E):WX c n (.ite t a b) ρ Z Q E:=q
theorem vX{op:CmpOp}{a b:X}(q:WX c n a ρ Z (λx Z=>WX c n b ρ Z (λy Z=>Uh c op x y Z λr=>Q (.bool r) Z) E) E):WX c n (.cmp op a b) ρ Z Q E:=q
end
theorem o8{x y:V}{R:Bool→Prop}(q:EQ x y Z R):Uh c .Eq x y Z R:=q
theorem fW{x y:V}{R:Bool→Prop}(q:EQ x y Z λb=>R (!b)):Uh c .NotEq x y Z R:=q
theorem cmp_gt{a b:Int}{R:Bool→Prop}(q:R (decide (b < a))):Uh c .Gt (.int a) (.int b) Z R:=q
theorem m8{x:X}{xs:List X}{Q:List V→a5→Prop}(q:WX c n x ρ Z (λv Z=>Ui c n xs ρ Z (λvs Z=>Q (v::vs) Z) E) E):Ui c n (x::xs) ρ Z Q E:=q
section
variable {Q:Bool→a5→Prop}
theorem C1{op:CmpOp}{a b:X}(q:WX c n a ρ Z (λx Z=>WX c n b ρ Z (λy Z=>Uh c op x y Z λr=>Q r Z) E) E):WC c n (.cmp op a b) ρ Z Q E:=q
theorem Yj{x:X}(q:WX c n x ρ Z (λv Z=>As v Z λb=>Q b Z) E):WC c n (.val x) ρ Z Q E:=q
theorem vY{a:B}(q:WC c n a ρ Z (λb Z=>Q (!b) Z) E):WC c n (.not a) ρ Z Q E:=q
theorem vZ{x:B}{xs:List B}(q:WC c n x ρ Z (λb Z=>U0 b (Hz c n xs ρ Z Q E) (Q false Z)) E):WC c n (.and (x::xs)) ρ Z Q E:=q
end
end
section
variable {c:Cx}{n:Nat}{Z:a5}{Q:V→a5→Prop}{E:a5→Prop}{K:H1}{T:List Tm}
theorem fX(N:g0 c) (h:i5 K T Z){k:Nat}{t:Tm}(ht:T[k]?=some t) (q:Q (t.row (T.idxOf ·)) Z):i3 c (n+1) (.fix (.ref 76)) [.ref K.a,vi k] Z Q E:=by
 have hk:k < T.length:=(List.getElem?_eq_some_iff.mp ht).1
 refine N.fn N.C.rH rfl (f9 ?_)
 refine Oy (Int.not_lt.mpr (Int.natCast_nonneg k)) ?_
 refine h.Jo N ?_
 refine t7 h.rows (N8 h.size) ?_
 refine Oy (λh=>absurd h (by rw[List.length_map]; omega)) ?_
 refine S4 (f7 ?_)
 refine h.Jo N ?_
 exact A1 h.rows (Nat.lt_of_lt_of_le hk (Nat.le_trans h.size (by decide))) (get_map ht) q
theorem no{P:Prop}(h:false=true):P:=absurd h Bool.false_ne_true
theorem Jq{at_:Tm→Nat}{t:Tm}{R:V→Prop}(q:R (vi t.hd.sort)):Ei (t.row at_) (.int 0) Z R:=by
 unfold Tm.row
 revert q
 cases t.hd<;>exact λq=>⟨by decide,q⟩
theorem fY{ρ:Loc}{i:Nat}{v:Int}(h:ρ i=some (.int v)):∀(l:List Int){R:Bool→a5→Prop},R (l.elem v) Z→Um c n (l.map λa=>.cmp .Eq (.loc i) (.con (.int a))) ρ Z R E
 | [],R,q=>q
 | a::l,R,q=>by
  refine(?_:S5 (ρ i) λv=>Uh c .Eq v (.int a) Z λb=>U0 b (R true Z) (Um c n (l.map λa=>.cmp .Eq (.loc i) (.con (.int a))) ρ Z R E))
  rw[h]
  refine K6 (λe=>?_) λe=>fY h l ?_
  ·rw[List.elem_cons,beq_iff_eq.mpr e] at q; exact q
  ·rw[List.elem_cons,beq_eq_false_iff_ne.mpr e] at q; exact q
theorem Hl{ρ:Loc}{i:Nat}{v:Int}{a b xs:List S}{Q:Fl→Loc→a5→Prop}(l:List Int) (h:ρ i=some (.int v)) (h1:l.elem v=true→l6 c n (a++xs) ρ Z Q E) (h2:l.elem v=false→l6 c n (b++xs) ρ Z Q E) :
  l6 c n (.ite (.or (l.map λa=>.cmp .Eq (.loc i) (.con (.int a)))) a b::xs) ρ Z Q E:=f9 (fY h l (bH h1 h2))
theorem D5{T:List Tm}{t:Tm}(h:t∈T):T[T.idxOf t]?=some t:=by
 rw[List.getElem?_eq_getElem (List.idxOf_lt_length_of_mem h)]
 simp
theorem Hm{T:List Tm}(hT:T.Nodup){k:Nat}{t:Tm}(h:T[k]?=some t):T.idxOf t=k:=by
 obtain⟨hk,e⟩:=List.getElem?_eq_some_iff.mp h
 have hm:t∈T:=List.mem_of_getElem? h
 obtain⟨hk',e'⟩:=List.getElem?_eq_some_iff.mp (D5 hm)
 rw[List.nodup_iff_pairwise_ne,List.pairwise_iff_getElem] at hT
 rcases Nat.lt_trichotomy (T.idxOf t) k with x | x | x
 ·exact absurd (e'.trans e.symm) (hT _ _ hk' hk x)
 ·exact x
 ·exact absurd (e.trans e'.symm) (hT _ _ hk hk' x)
theorem Lc{P:Prop}(h:true=false):P:=absurd h.symm Bool.false_ne_true
theorem H2{t:Nat}{k:Nat}(h:(k≤2 && decide (1 < t) && ((l7.find? λp=>decide (p.1=(t:Int))).isNone))=true):1 < t∧(l7.find? λp=>decide (p.1=(t:Int))).isNone=true :=
 an h λh h3=>an h λ_ h2=>⟨of_decide_eq_true h2,h3⟩
theorem Bh{ρ:Loc}{i:Nat}{v:Int}{a b xs:List S}{Q:Fl→Loc→a5→Prop}(l:List Int) (h:ρ i=some (.int v)) (e:l.elem v=true) (h1:l6 c n (a++xs) ρ Z Q E) :
  l6 c n (.ite (.or (l.map λa=>.cmp .Eq (.loc i) (.con (.int a)))) a b::xs) ρ Z Q E:=Hl l h (λ_=>h1) λe'=>no (e'.symm.trans e)
theorem W5{ρ:Loc}{i:Nat}{v:Int}{a b xs:List S}{Q:Fl→Loc→a5→Prop}(l:List Int) (h:ρ i=some (.int v)) (e:l.elem v=false) (h1:l6 c n (b++xs) ρ Z Q E) :
  l6 c n (.ite (.or (l.map λa=>.cmp .Eq (.loc i) (.con (.int a)))) a b::xs) ρ Z Q E:=Hl l h (λe'=>no (e.symm.trans e')) λ_=>h1
theorem M9{t:Tm}(ht:t.ok=true):t.hd.fit t.kids.length=true:=by
 rcases t with h | ⟨h,a⟩ | ⟨h,a,b⟩
 ·exact an ht λh _=>h
 ·exact an ht λh _=>an h λh _=>h
 ·exact an ht λh _=>an h λh _=>an h λh _=>an h λh _=>h
theorem shape{h:Hd}{k:List Tm}(ht:h.fit k.length=true){P:Hd→List Tm→Prop}(h1:∀j,P (.prim j) [])
  (h6:∀i,P (.var i) []) (h7:∀i,P (.mvar i) []) (h2:∀tid l,1 < tid→(l7.find? λp=>decide (p.1=((tid:Nat):Int))).isNone=true→P (.cls tid) l∧P (.val tid) l)
  (h4:∀a,P .arr [a]∧P .byref [a]∧P .S3 [a]):P h k:=by
 cases h with
 | cls t=>exact(h2 t k (H2 ht).1 (H2 ht).2).1
 | val t=>exact(h2 t k (H2 ht).1 (H2 ht).2).2
 | _=>rcases k with _ | ⟨a,_ | ⟨b,k⟩⟩<;>first | exact no ht | exact h1 _ | exact h6 _ | exact h7 _ | exact(h4 _).1 | exact(h4 _).2.1 | exact(h4 _).2.2
theorem Y9(N:g0 c){at_:Tm→Nat}{t:Tm}(ht:t.ok=true):Q (.tup (t.kids.map λa=>vi (at_ a))) Z→i3 c (n+1) (.fix (.ref 97)) [t.row at_] Z Q E:=by
 refine shape (M9 ht) (P:=λh k=>Q (.tup (k.map λa=>vi (at_ a))) Z→i3 c (n+1) (.fix (.ref 97)) [h.mk (k.map λa=>vi (at_ a))] Z Q E) (λj q=>?_) (λi q=>?_) (λi q=>?_) (λtid l _ _=>⟨λq=>?_,λq=>?_⟩) λa=>⟨λq=>?_,λq=>?_,λq=>?_⟩
 all_goals refine N.fn N.C.inner_kinds rfl (f6 ⟨by decide,?_⟩)
 all_goals first | exact Bh [2,3] rfl rfl (f7 ⟨by decide,q⟩) | exact W5 [2,3] rfl rfl (Bh [4,5,8,9,11] rfl rfl (f7 ⟨by decide,q⟩)) | exact W5 [2,3] rfl rfl (W5 [4,5,8,9,11] rfl rfl (f9 (Oy (by decide) (f7 q))))
theorem lV(N:g0 c){h:Hd}(q:Q (vi h.Ow) Z):i3 c (n+1) (.fix (.ref 104)) [vi h.sort] Z Q E:=by
 refine N.fn N.C.row_level rfl ?_
 refine Hl [2,3,4] (v:=h.sort) rfl (λe=>f7 ?_) λe=>f7 ?_
 all_goals cases h<;>first | exact q | exact Lc e | exact no e
theorem lW(N:g0 c){s:Int}(e:([2,3]:List Int).elem s=true) (q:Q (vi 3) Z):i3 c (n+1) (.fix (.ref 111)) [.int s] Z Q E:=N.fn N.C.row_length rfl (Bh [2,3] rfl e (f7 q))
theorem lX(N:g0 c){s:Int}(e:([2,3]:List Int).elem s=false) (e2:decide (s=10)=false) (q:Q (vi 2) Z):i3 c (n+1) (.fix (.ref 111)) [.int s] Z Q E:=N.fn N.C.row_length rfl (W5 [2,3] rfl e (f9 (T4 e2 (f7 q))))
theorem Mn{t:Tm}{j:Nat}(ht:t.ok=true) (e:t.hd=.prim j):t=.leaf (.prim j):=by
 rcases t with h | ⟨h,a⟩ | ⟨h,a,b⟩<;>obtain rfl:h=.prim j:=e
 ·rfl
 ·exact no ht
 ·exact no ht
theorem Yk(N:g0 c) (h:i5 K T Z){k:Nat}{t:Tm}(ht:T[k]?=some t) (q:Q (.bool t.stands) Z):i3 c (n+2) (.fix (.ref 139)) [.ref K.a,vi k] Z Q E:=by
 have hok:=h.tab.ok t (List.mem_of_getElem? ht)
 have hb:∀j,j < 16→k=j→t=.leaf (.prim j):=λj hj e=>Option.some.inj ((e ▸ ht.symm).trans (h.tab.base j hj))
 refine N.fn N.C.may_stand rfl ?_
 refine Hl [0,14] (v:=(k:Int)) rfl (λe=>f7 ?_) λe=>f6 ⟨_,h.Jn N,?_⟩
 ·rcases List.mem_cons.mp (List.elem_iff.mp e) with e | e
  ·rw[hb 0 (by decide) (Int.ofNat.inj e)] at q; exact q
  ·rw[hb 14 (by decide) (Int.ofNat.inj (List.mem_singleton.mp e))] at q; exact q
 refine fX N h ht ?_
 refine Jq (f7 ?_)
 have hp:∀j,t.hd=.prim j→(j != 0 && j != 14)=true:=by
  intro j ej
  obtain rfl:=Mn hok ej
  rw[←Hm h.tab.nodup (h.tab.base j (of_decide_eq_true hok)),Hm h.tab.nodup ht]
  cases e1:(k != 0 && k != 14) with
  | true=>rfl
  | false =>
   rw[List.elem_cons,List.elem_cons] at e
   cases k with
   | zero=>exact Lc e
   | succ k =>
    rcases Nat.decEq k 13 with h | rfl
    ·exact Lc (by simp[h] at e1)
    ·exact Lc e
 revert q hp
 unfold Tm.stands
 cases t.hd<;>intro q hp<;>first | exact⟨λ_=>(congrArg (λb=>Q (.bool b) Z) (hp _ rfl)).mp q,Lc⟩ | exact⟨λ_=>q,Lc⟩ | exact⟨no,λ_=>⟨λ_=>q,Lc⟩⟩ | exact⟨no,λ_=>⟨no,λ_=>q⟩⟩
end
section
variable {c:Cx}{n:Nat}{Z:a5}{Q:V→a5→Prop}{E:a5→Prop}{K:H1}{T:List Tm}
theorem G7{α:Type}{L d r:List α}{a:α}(e:L=d++a::r):a∈L:=e ▸ List.mem_append_right _ (.head _)
theorem rP(N:g0 c) (h:i5 K T Z){l:List Tm}(hl:∀a∈l,a∈T∧a.stands=true) (hz:l.length≤1000) (q:Q .none Z):i3 c (n+3) (.fix (.ref 132)) [.ref K.a,.tup (l.map λa=>vi (T.idxOf a))] Z Q E:=by
 refine N.fn N.C.check_args rfl (A2 ?_)
 refine Hk (iv:=.tup (l.map λa=>vi (T.idxOf a))) (λa=>vi (T.idxOf a)) l (λ_ ls a6=>(∃x y t,ls=some (.ref K.a)::x::y::t)∧a6=Z) (Nat.le_trans hz (by decide)) (λ_ _ _ _=>rfl) ⟨⟨_,_,_,rfl⟩,rfl⟩ ?_ λ_ _ h=>h.2 ▸ q
 rintro d a r _ _ R e ⟨⟨x,y,t,rfl⟩,rfl⟩ hk _
 have ha:=hl a (G7 e)
 refine f9 ?_
 refine Yk N h (D5 ha.1) ?_
 rw[ha.2]
 exact S4 (j9 (hk _ _ ⟨⟨_,_,_,rfl⟩,rfl⟩).1)
theorem Z0{f g:Tm→Nat}{t:Tm}(h:∀a∈t.kids,f a=g a):t.row f=t.row g:=congrArg t.hd.mk (List.map_congr_left λa ha=>congrArg vi (h a ha))
theorem W6{i:Int}{d:Nat}:(V.int i).hk d=true:=by cases d<;>rfl
theorem Yl{f:Tm→Nat}{d:Nat}(l:List Tm):V.hks (l.map λa=>vi (f a)) d=true:=List.all_eq_true.mpr λv hv=>(List.mem_map.mp hv).elim λa h=>h.2 ▸ W6
theorem Pa{f:Tm→Nat}(t:Tm){d:Nat}:(t.row f).hk (d+2)=true∧∃l,t.row f=.tup l:=by
 unfold Tm.row
 cases t.hd<;>first | exact⟨rfl,_,rfl⟩ | exact⟨Yl (d:=d+1) t.kids,_,rfl⟩ | exact⟨(Bool.and_true _).trans (Yl (d:=d) t.kids),_,rfl⟩
theorem Pb{T:List Tm}{a b:Tm}(ha:a∈T) (hb:b∈T) (e:T.idxOf a=T.idxOf b):a=b :=
 Option.some.inj ((D5 ha).symm.trans ((congrArg (T[·]?) e).trans (D5 hb)))
theorem Ex{a b:Nat}(e:vi a=vi b):a=b:=Int.ofNat.inj (V.int.inj e)
theorem map_inj{T:List Tm}:∀{k l:List Tm},(∀a∈k,a∈T)→(∀a∈l,a∈T)→(k.map λa=>vi (T.idxOf a))=(l.map λa=>vi (T.idxOf a))→k=l
 | [],[],_,_,_=>rfl
 | a::k,b::l,h1,h2,e=>by
  obtain⟨e1,e2⟩:=List.cons.inj e
  rw[Pb (h1 a (.head _)) (h2 b (.head _)) (Ex e1),map_inj (λa h=>h1 a (.tail _ h)) (λa h=>h2 a (.tail _ h)) e2]
noncomputable def V.first:V→V
 | .tup (x::_)=>x
 | _=>.none
theorem Sf(h:Hd) (l:List V):(h.mk l).first=vi h.sort:=by cases h<;>rfl
theorem nil_of{f:Nat→Bool}(hf:∀n,f (n+1)=false){k:List Tm}(h:f k.length=true):k=[]:=match k,h with
 | [],_=>rfl
 | _::k,h=>no ((hf k.length).symm.trans h)
theorem Ym{x y u v:V}(e:V.tup [x,y]=V.tup [u,v]):y=v:=(List.cons.inj (List.cons.inj (V.tup.inj e)).2).1
theorem mk_inj{T:List Tm}{h h':Hd}{k l:List Tm}(hk:h.fit k.length=true) (hl:h'.fit l.length=true) (h1:∀a∈k,a∈T) (h2:∀a∈l,a∈T) (e:h.mk (k.map λa=>vi (T.idxOf a))=h'.mk (l.map λa=>vi (T.idxOf a))):h=h'∧k=l:=by
 have eb:Nat.beq h.sort h'.sort=true:=(congrArg (Nat.beq h.sort) (Ex ((Sf h _).symm.trans ((congrArg V.first e).trans (Sf h' _)))).symm).trans (Nat.beq_refl _)
 cases h<;>cases h'<;>first | exact no eb | skip
 all_goals first
  | exact⟨congrArg _ (Ex (Ym e)),(nil_of (λ_=>rfl) hk).trans (nil_of (λ_=>rfl) hl).symm⟩
  | exact⟨rfl,map_inj h1 h2 (List.cons.inj (V.tup.inj e)).2⟩
  | exact⟨congrArg _ (Ex (List.cons.inj (List.cons.inj (V.tup.inj e)).2).1),map_inj h1 h2 (V.tup.inj (List.cons.inj (List.cons.inj (List.cons.inj (V.tup.inj e)).2).2).1)⟩
theorem lY{T:List Tm}{t u:Tm}(ht:t.ok=true) (hu:u.ok=true) (kt:∀a∈t.kids,a∈T) (ku:∀a∈u.kids,a∈T) (e:t.row (T.idxOf ·)=u.row (T.idxOf ·)):t=u:=by
 obtain⟨e1,e2⟩:=mk_inj (M9 ht) (M9 hu) kt ku e
 rcases t with h | ⟨h,a⟩ | ⟨h,a,b⟩<;>rcases u with h' | ⟨h',a'⟩ | ⟨h',a',b'⟩<;>obtain rfl:h=h':=e1<;>first | rfl | (cases e2; rfl) | cases e2
end
section
variable {c:Cx}{n:Nat}{Z:a5}{Q:V→a5→Prop}{E:a5→Prop}{K:H1}{T:List Tm}
theorem Hn{t:Tm}(ht:t.ok=true):∀a∈t.kids,a.ok=true∧a.stands=true:=by
 rcases t with h | ⟨h,a⟩ | ⟨h,a,b⟩
 ·exact nofun
 ·exact List.forall_mem_singleton.mpr (an ht λh1 h2=>an h1 λ_ h=>⟨h,h2⟩)
 ·exact List.forall_mem_cons.mpr (an ht λh1 hb=>an h1 λh1 ha=>an h1 λh1 h2=>an h1 λ_ h=>⟨⟨h,ha⟩,List.forall_mem_singleton.mpr ⟨h2,hb⟩⟩)
theorem l0(t:Tm):t.kids.length≤2:=by
 rcases t with h | ⟨h,a⟩ | ⟨h,a,b⟩<;>first | exact Nat.zero_le _ | exact(by decide:1≤2) | exact Nat.le_refl 2
theorem small{n:Nat}(h:n≤2):n≤1000000:=Nat.le_trans h (by decide)
theorem lZ(N:g0 c) (h:i5 K T Z){s:Int}{tid:Nat}{l:List Tm}(h1:1 < tid) (h2:(l7.find? λp=>decide (p.1=(tid:Int))).isNone=true) (hz:l.length≤2) (hk:∀a∈l,a∈T∧a.stands=true) (q:Q .none Z) :
  i3 c (n+4) (.fix (.ref 125)) [.ref K.a,.tup [.int s,vi tid,.tup (l.map λa=>vi (T.idxOf a))]] Z Q E:=by
 refine N.fn N.C.check_named rfl (f9 ⟨by decide,?_⟩)
 refine Oy (λe=>absurd e (by omega)) ⟨by decide,?_⟩
 refine⟨l7,N.l7,?_⟩
 rw[show(List.find? _ l7).isSome=false by rw[Option.isNone_iff_eq_none.mp h2]; rfl]
 refine S4 (S4 (n8 ?_))
 refine⟨by decide,?_⟩
 exact rP N h hk (Nat.le_trans hz (by decide)) (j9 q)
theorem mA(N:g0 c) (h:i5 K T Z){k:List Tm}{r:V}{s:Int}{R:Fl→Loc→a5→Prop}(hz:k.length≤2) (hk:∀a∈k,a∈T) (hin:∀{Q:V→a5→Prop}{E:a5→Prop},Q (.tup (k.map λa=>vi (T.idxOf a))) Z→i3 c (n+4) (.fix (.ref 97)) [r] Z Q E){y:Option V}{t:List (Option V)}
  (he:∀y t,l6 c (n+4) (z7.drop 4) (gl (some (.ref K.a)::some r::some (.int s)::y::t)) Z R E):l6 c (n+4) (z7.drop 3) (gl (some (.ref K.a)::some r::some (.int s)::y::t)) Z R E:=by
 refine A2 (hin ?_)
 refine Hk (iv:=.tup (k.map λa=>vi (T.idxOf a))) (λa=>vi (T.idxOf a)) k (λ_ ls a6=>(∃y t,ls=some (.ref K.a)::some r::some (.int s)::y::t)∧a6=Z) (small hz) (λ_ _ _ _=>rfl) ⟨⟨_,_,rfl⟩,rfl⟩ ?_ λ_ _ ⟨⟨y,t,e1⟩,e2⟩=>e1 ▸ e2 ▸ he y t
 rintro d a r' _ _ R e ⟨⟨y,t,rfl⟩,rfl⟩ hk' _
 refine n8 ⟨_,h.Jn N,?_⟩
 refine fX N h (D5 (hk a (G7 e))) ?_
 exact j9 (hk' _ _ ⟨⟨_,_,rfl⟩,rfl⟩).1
theorem Vm(N:g0 c) (h:i5 K T Z){t:Tm}(ht:t.ok=true) (hp:t.hd.sort≠1) (hk:∀a∈t.kids,a∈T) (q:Q .none Z):i3 c (n+5) (.fix (.ref 118)) [.ref K.a,t.row (T.idxOf ·)] Z Q E:=by
 have hin:=fun {Q:V→a5→Prop}{E:a5→Prop}=>Y9 (n:=n+3) (Q:=Q) (E:=E) (Z:=Z) N (at_:=(T.idxOf ·)) ht
 refine shape (M9 ht) (P:=λh k=>k.length≤2→h.sort≠1→(∀a∈k,a∈T∧a.stands=true)→(∀{Q:V→a5→Prop}{E:a5→Prop},Q (.tup (k.map λa=>vi (T.idxOf a))) Z→i3 c (n+4) (.fix (.ref 97)) [h.mk (k.map λa=>vi (T.idxOf a))] Z Q E)→i3 c (n+5) (.fix (.ref 118)) [.ref K.a,h.mk (k.map λa=>vi (T.idxOf a))] Z Q E)
  (λj _ e=>absurd rfl e) (λi hz _ hk hin=>?_) (λi hz _ hk hin=>?_) (λtid l a1 a2=>⟨λhz _ hk hin=>?_,λhz _ hk hin=>?_⟩) (λa=>⟨λhz _ hk hin=>?_,λhz _ hk hin=>?_,λhz _ hk hin=>?_⟩) (l0 t) hp (λa ha=>⟨hk a ha,(Hn ht a ha).2⟩) hin
 all_goals
  refine N.fn N.C.check_kind_row rfl (f9 ?_)
  refine w8 (Nat.le_of_ble_eq_true rfl) ?_
  refine T4 rfl ⟨by decide,?_⟩
  refine T4 rfl ⟨by decide,?_⟩
  refine T4 rfl (S4 (f6 ⟨by decide,?_⟩))
  refine f9 ?_
  refine w8 (Nat.le_of_ble_eq_true rfl) ?_
  first | refine lW N rfl ?_ | refine lX N rfl rfl ?_
  refine T4 rfl (mA N h hz (λa ha=>(hk a ha).1) hin λy t=>?_)
  first
   | exact Bh [2,3] rfl rfl (n8 (lZ N h a1 a2 hz hk (j9 q)))
   | exact W5 [2,3] rfl rfl (Bh [6,7] rfl rfl (f9 ⟨by decide,Oy (Int.not_lt.mpr (Int.natCast_nonneg _)) (j9 q)⟩))
   | (refine W5 [2,3] rfl rfl (W5 [6,7] rfl rfl (f9 (T4 rfl (f9 (T4 rfl (f9 ⟨by decide,?_⟩)))))); refine Yk N h (D5 (hk _ (.head _)).1) ?_; rw[(hk _ (.head _)).2]; exact S4 (j9 q))
end
noncomputable def fZ(Ow:Nat) (d:Nat) (a:Tm):Nat:=max d (a.depth+Ow)
noncomputable def pE(w:Nat) (a:Tm):Nat:=w+a.weight
noncomputable def pF(o:Bool) (a:Tm):Bool:=o || a.open_
theorem Vn(t:Tm):t.kids.foldl (fZ t.hd.Ow) 1=t.depth:=by
 rcases t with h | ⟨h,a⟩ | ⟨h,a,b⟩<;>rfl
theorem Sg(t:Tm):t.kids.foldl pE 1=t.weight:=by
 rcases t with h | ⟨h,a⟩ | ⟨h,a,b⟩<;>rfl
theorem bL{t:Tm}(ht:t.ok=true):t.kids.foldl pF t.hd.isVar=t.open_:=by
 have hf:=M9 ht
 rcases t with h | ⟨h,a⟩ | ⟨h,a,b⟩
 ·rfl
 ·cases h<;>first | exact no hf | rfl
 ·cases h<;>first | exact no hf | rfl
theorem Jr{T:List Tm}(h:Kx T){t:Tm}(ht:t.ok=true) (kt:∀a∈t.kids,a∈T){g:Tm→V}:∀L:List Tm,(∀u∈L,u∈T)→E7 (L.map λu=>(u.row (T.idxOf ·),g u)) (t.row (T.idxOf ·))=if t∈L then some (g t) else none
 | [],_=>rfl
 | u::L,hL=>by
  have ih:=Jr h ht kt (g:=g) L λv hv=>hL v (by simp[hv])
  unfold E7 at ih ⊢
  have hu:=hL u (by simp)
  by_cases e:u=t
  ·subst e; simp
  ·have:u.row (T.idxOf ·)≠t.row (T.idxOf ·):=λq=>e (lY (h.ok u hu) ht (h.kids u hu) kt q)
   rw[List.map_cons,List.find?_cons_of_neg (by simpa using this),ih]
   have e':¬t=u:=λq=>e q.symm
   simp[e']
theorem Yn{T:List Tm}{t:Tm}{f:Tm→Nat}{g:Tm→V}:H6 (t.row f) (T.map λu=>(u.row f,g u)):=by
 exact .inr (.inr ⟨(Pa t).1,(Pa (f:=f) t (d:=0)).2.imp λl hl=>⟨hl,List.forall_mem_map.mpr λu _=>(Pa (f:=f) u (d:=0)).2⟩⟩)
theorem W7{T:List Tm}{t u:Tm}(h:u∈T):(T++[t]).idxOf u=T.idxOf u:=by
 rw[List.idxOf_append,if_pos h]
theorem Yo{T:List Tm}{t:Tm}(h:t∉T):(T++[t]).idxOf t=T.length:=by
 rw[List.idxOf_append,if_neg h]; simp
theorem O0{l:List (V×V)}{k v:V}(h:E7 l k=none):dput l k v=l++[(k,v)]:=by
 unfold dput
 rw[if_neg]
 intro e
 unfold E7 at h
 simp only[Option.map_eq_none_iff,List.find?_eq_none,decide_eq_true_eq] at h
 simp only[List.any_eq_true,decide_eq_true_eq] at e
 obtain⟨p,hp,e⟩:=e
 exact h p hp e
theorem Kx.snoc{T:List Tm}(h:Kx T){t:Tm}(hn:t∉T) (ht:t.ok=true) (kt:∀a∈t.kids,a∈T) (hd:t.depth≤24) (hw:t.weight≤4096):Kx (T++[t]) where
 base:=λi hi=>by
  have:=h.base i hi
  rw[List.getElem?_append_left (List.getElem?_eq_some_iff.mp this).1]; exact this
 nodup:=by
  rw[List.nodup_append]
  exact⟨h.nodup,by simp,λa ha b hb=>by simp at hb; subst hb; rintro rfl; exact hn ha⟩
 ok:=λu hu=>by
  rcases List.mem_append.mp hu with hu | hu
  ·exact h.ok u hu
  ·simp at hu; subst hu; exact ht
 kids:=λu hu a ha=>by
  rcases List.mem_append.mp hu with hu | hu
  ·exact List.mem_append.mpr (.inl (h.kids u hu a ha))
  ·simp at hu; subst hu; exact List.mem_append.mpr (.inl (kt a ha))
 deep:=λu hu=>by
  rcases List.mem_append.mp hu with hu | hu
  ·exact h.deep u hu
  ·simp at hu; subst hu; exact hd
 heavy:=λu hu=>by
  rcases List.mem_append.mp hu with hu | hu
  ·exact h.heavy u hu
  ·simp at hu; subst hu; exact hw
theorem bM{T:List Tm}(h:Kx T){t:Tm}{L:List Tm}(hL:∀u∈L,u∈T):L.map (Tm.row ((T++[t]).idxOf ·))=L.map (Tm.row (T.idxOf ·)) :=
 List.map_congr_left λu hu=>Z0 λa ha=>W7 (h.kids u (hL u hu) a ha)
section
variable {c:Cx}{Z:a5}{K:H1}{T:List Tm}
theorem i5.rQ(h:i5 K T Z):K.i≠K.r∧K.i≠K.d∧K.i≠K.w∧K.i≠K.o:=by
 have hi:=h.index
 refine⟨λe=>?_,λe=>?_,λe=>?_,λe=>?_⟩<;>rw[e] at hi
 ·rw[h.rows] at hi; cases hi
 ·rw[h.depths] at hi; cases hi
 ·rw[h.weights] at hi; cases hi
 ·rw[h.opens] at hi; cases hi
theorem i5.Lj(h:i5 K T Z){b:Addr}{o:j8}(ho:Z b=some o) (h1:∀l,o≠.list l) (h2:∀l,o≠.dict l):¬K.F b:=by
 rintro(e | e | e | e | e)<;>subst e
 ·rw[h.rows] at ho; exact h1 _ (Option.some.inj ho).symm
 ·rw[h.index] at ho; exact h2 _ (Option.some.inj ho).symm
 ·rw[h.depths] at ho; exact h1 _ (Option.some.inj ho).symm
 ·rw[h.weights] at ho; exact h1 _ (Option.some.inj ho).symm
 ·rw[h.opens] at ho; exact h1 _ (Option.some.inj ho).symm
theorem i5.snoc(h:i5 K T Z){t:Tm}{a6:a5}(s:d8 K.F Z a6) (hn:t∉T) (ht:t.ok=true) (kt:∀a∈t.kids,a∈T) (hd:t.depth≤24) (hw:t.weight≤4096) (hz:T.length < 100000)
  (hr:a6 K.r=some (.list (T.map (Tm.row (T.idxOf ·))++[t.row (T.idxOf ·)])))
  (hi:a6 K.i=some (.dict ((T.map λt=>(t.row (T.idxOf ·),vi (T.idxOf t)))++[(t.row (T.idxOf ·),vi T.length)])))
  (h1:a6 K.d=some (.list ((T.map λt=>vi t.depth)++[vi t.depth])))
  (h2:a6 K.w=some (.list ((T.map λt=>vi t.weight)++[vi t.weight])))
  (h3:a6 K.o=some (.list ((T.map λt=>bi t.open_)++[bi t.open_]))):i5 K (T++[t]) a6 where
 inst:=s _ _ (h.Lj (o:=.inst 86 K.dx) h.inst (by intro l e; cases e) (by intro l e; cases e)) h.inst
 ns:=s _ _ (h.Lj h.ns (by intro l e; cases e) (by intro l e; cases e)) h.ns
 rows:=by
  rw[hr,List.map_append,bM h.tab λ_ h=>h]
  simp only[List.map_cons,List.map_nil]
  rw[Z0 (f:=((T++[t]).idxOf ·)) (g:=(T.idxOf ·)) λa ha=>W7 (kt a ha)]
 index:=by
  rw[hi,List.map_append]
  have e1:(T.map λu=>(u.row ((T++[t]).idxOf ·),vi ((T++[t]).idxOf u)))=T.map λu=>(u.row (T.idxOf ·),vi (T.idxOf u)) :=
   List.map_congr_left λu hu=>by rw[W7 hu,Z0 λa ha=>W7 (h.tab.kids u hu a ha)]
  rw[e1]
  simp only[List.map_cons,List.map_nil]
  rw[Z0 (f:=((T++[t]).idxOf ·)) (g:=(T.idxOf ·)) λa ha=>W7 (kt a ha),Yo hn]
 depths:=by rw[h1]; simp
 weights:=by rw[h2]; simp
 opens:=by rw[h3]; simp
 apart:=h.apart
 tab:=h.tab.snoc hn ht kt hd hw
 size:=by simp; omega
end
section
variable {c:Cx}{n:Nat}{Z:a5}{Q:V→a5→Prop}{E:a5→Prop}{K:H1}{T:List Tm}
theorem Pc(h:i5 K T Z){a:Tm}(ha:a∈T):T.idxOf a < 1152921504606846976:=Nat.lt_of_lt_of_le (List.idxOf_lt_length_of_mem ha) (Nat.le_trans h.size (by decide))
theorem Mo(h:i5 K T Z){a:Tm}(ha:a∈T){R:V→Prop}(q:R (vi a.depth)):Ei (.ref K.d) (vi (T.idxOf a)) Z R:=A1 h.depths (Pc h ha) (get_map (D5 ha)) q
theorem Vo(h:i5 K T Z){a:Tm}(ha:a∈T){R:V→Prop}(q:R (vi a.weight)):Ei (.ref K.w) (vi (T.idxOf a)) Z R:=A1 h.weights (Pc h ha) (get_map (D5 ha)) q
theorem Js(h:i5 K T Z){a:Tm}(ha:a∈T){R:V→Prop}(q:R (bi a.open_)):Ei (.ref K.o) (vi (T.idxOf a)) Z R:=A1 h.opens (Pc h ha) (get_map (D5 ha)) q
theorem Jt{h:Hd}:h.isVar=([6,7]:List Int).elem (h.sort:Int):=by cases h<;>rfl
theorem Sh{m:Nat}{ρ:Loc}{i:Nat}{t:Tm}{f:Tm→Nat}(h:ρ i=some (t.row f)):∀(l:List Int){R:Bool→a5→Prop},R (l.elem (t.hd.sort:Int)) Z→Um c m (l.map λa=>.cmp .Eq (.sub (.loc i) (.con (.int 0))) (.con (.int a))) ρ Z R E
 | [],R,q=>q
 | a::l,R,q=>by
  refine(?_:S5 (ρ i) λv=>Ei v (.int 0) Z λv=>Uh c .Eq v (.int a) Z λb=>U0 b (R true Z) (Um c m (l.map λa=>.cmp .Eq (.sub (.loc i) (.con (.int 0))) (.con (.int a))) ρ Z R E))
  rw[h]
  refine Jq (K6 (λe=>?_) λe=>Sh h l ?_)
  ·rw[List.elem_cons,beq_iff_eq.mpr e] at q; exact q
  ·rw[List.elem_cons,beq_eq_false_iff_ne.mpr e] at q; exact q
theorem Vp{m:Nat}{ρ:Loc}{i:Nat}{t:Tm}{f:Tm→Nat}{a b xs:List S}{Q:Fl→Loc→a5→Prop}(l:List Int) (h:ρ i=some (t.row f)) (h1:l.elem (t.hd.sort:Int)=true→l6 c m (a++xs) ρ Z Q E) (h2:l.elem (t.hd.sort:Int)=false→l6 c m (b++xs) ρ Z Q E) :
  l6 c m (.ite (.or (l.map λa=>.cmp .Eq (.sub (.loc i) (.con (.int 0))) (.con (.int a)))) a b::xs) ρ Z Q E:=f9 (Sh h l (bH h1 h2))
theorem Dg{a:Addr}{l:List V}{v:V}(hl:Z a=some (.list l)) (hz:l.length≤1000000) (q:∀a6,a6 a=some (.list (l++[v]))→(∀b,b≠a→a6 b=Z b)→Q .none a6):∃fv,Ab c (.ref a) (Str.ofString "append") Z fv∧i3 c n fv [.ref a,v] Z Q E :=
 ⟨_,.append hl,o6 hl hz (q _ (a7 _ _ _) λb hb=>i8 hb)⟩
theorem d8.of{F:Addr→Prop}{Z a6:a5}{a:Addr}(h:∀b,b≠a→a6 b=Z b) (ha:F a):d8 F Z a6:=λb o n e=>(h b λe=>n (e ▸ ha)).trans e
theorem i5.at2(h:i5 K T Z) (N:g0 c){j0:a5}(s:d8 K.F Z j0) (i:Nat){x:Str}{v:V}{R:V→Prop}(hm:Da[i]?=some x) (hv:([("rows",.ref K.r),("index",.ref K.i),("depths",.ref K.d),("weights",.ref K.w),("opens",.ref K.o)]:List (Str×V)).lookup x=some v) (hf:v.Lq=true) (q:R v):G1 c (.ref K.a) x j0 R :=
 m6 (s _ _ (h.Lj h.inst nofun nofun) h.inst) (s _ _ (h.Lj h.ns nofun nofun) h.ns) hv (N.kt.attr i hm) hf q
theorem gA(N:g0 c) (h:i5 K T Z){t:Tm}(ht:t.ok=true) (hk:∀a∈t.kids,a∈T) (hz:T.length < 100000) (hm:t∉T) (hd:t.depth≤24) (hw:t.weight≤4096){m:Nat}{x2 x6 x7:Option V}{tl:List (Option V)}
  (q2:∀a6,i5 K (T++[t]) a6→d8 K.F Z a6→Q (vi T.length) a6):l6 c m (N6.drop 12) (gl (some (.ref K.a)::some (t.row (T.idxOf ·))::x2::some (vi t.depth)::some (vi t.weight)::some (bi t.open_)::x6::x7::some (vi T.length)::tl)) Z (s9 Q) E:=by
 have hi:=h.rQ
 have hap:=h.apart
 simp only[List.nodup_cons,List.mem_cons,not_or,List.not_mem_nil,not_false_eq_true,and_true] at hap
 refine n8 ?_
 refine h.Jo N ?_
 refine Dg h.rows (N8 h.size) λu5 e1 n1=>?_
 have s1:d8 K.F Z u5:=d8.of n1 (.inl rfl)
 refine D4 ?_
 refine h.at2 N s1 1 rfl rfl rfl ?_
 refine N9 ((n1 _ hi.1).trans h.index) Yn (bG h.size) λC2 e2' n2=>?_
 rw[O0 (by rw[Jr h.tab ht hk T λ_ h=>h,if_neg hm])] at e2'
 have s2:=s1.trans (d8.of n2 (.inr (.inl rfl)))
 refine n8 ?_
 refine h.at2 N s2 2 rfl rfl rfl ?_
 refine Dg (l:=T.map λt=>vi t.depth) (by rw[n2 _ (λq=>hi.2.1 q.symm),n1 _ (λq=>hap.1.1 q.symm),h.depths]) (N8 h.size) λW8 e3 n3=>?_
 have s3:=s2.trans (d8.of n3 (.inr (.inr (.inl rfl))))
 refine n8 ?_
 refine h.at2 N s3 3 rfl rfl rfl ?_
 refine Dg (l:=T.map λt=>vi t.weight) (by rw[n3 _ (λq=>hap.2.1.1 q.symm),n2 _ (λq=>hi.2.2.1 q.symm),n1 _ (λq=>hap.1.2.1 q.symm),h.weights]) (N8 h.size) λHo e4 n4=>?_
 have s4:=s3.trans (d8.of n4 (.inr (.inr (.inr (.inl rfl)))))
 refine n8 ?_
 refine h.at2 N s4 4 rfl rfl rfl ?_
 refine Dg (l:=T.map λt=>bi t.open_) (by rw[n4 _ (λq=>hap.2.2.1 q.symm),n3 _ (λq=>hap.2.1.2 q.symm),n2 _ (λq=>hi.2.2.2 q.symm),n1 _ (λq=>hap.1.2.2 q.symm),h.opens]) (N8 h.size) λYp e5 n5=>?_
 have s5:=s4.trans (d8.of n5 (.inr (.inr (.inr (.inr rfl)))))
 refine f7 (q2 _ (h.snoc s5 hm ht hk hd hw hz ?_ ?_ ?_ ?_ e5) s5)
 ·rw[n5 _ hap.1.2.2,n4 _ hap.1.2.1,n3 _ hap.1.1,n2 _ (λq=>hi.1 q.symm),e1]
 ·rw[n5 _ hi.2.2.2,n4 _ hi.2.2.1,n3 _ hi.2.1,e2']
 ·rw[n5 _ hap.2.1.2,n4 _ hap.2.1.1,e3]
 ·rw[n5 _ hap.2.2.1,e4]
theorem Si(N:g0 c) (h:i5 K T Z){a:Tm}(ha:a∈T){m d w:Nat}{o:Bool}{r x2:V}{Ow:Nat}{R:Fl→Loc→a5→Prop}{tl:List (Option V)}
  (hn:∀o',o'=(o || a.open_)→R .next (gl (some (.ref K.a)::some r::some x2::some (vi d)::some (vi (w+a.weight))::some (bi o')::some (vi Ow)::some (vi (T.idxOf a))::tl)) Z) :
  l6 c m [.aug 4 .Add (.sub (.attr (.loc 0) (Str.ofString "weights")) (.loc 7)),.ite (.cmp .Eq (.sub (.attr (.loc 0) (Str.ofString "opens")) (.loc 7)) (.con (.int 1))) [.set 5 (.con (.int 1))] []]
   (gl (some (.ref K.a)::some r::some x2::some (vi d)::some (vi w)::some (bi o)::some (vi Ow)::some (vi (T.idxOf a))::tl)) Z R E:=by
 refine fS rfl ?_
 refine h.bF N ?_
 refine Vo h ha ⟨f9 ?_⟩
 refine h.Ox N ?_
 refine Js h ha ?_
 refine bH (λe=>f6 ?_) λe=>?_
 refine hn true ?_
 rotate_left
 refine hn o ?_
 all_goals revert e; cases a.open_<;>cases o<;>first | exact λ_=>rfl | exact no | exact Lc
theorem gB(N:g0 c) (h:i5 K T Z){a:Tm}(ha:a∈T){m d w:Nat}{o:Bool}{r x2:V}{Ow:Nat}{R:Fl→Loc→a5→Prop}{tl:List (Option V)}
  (hn:∀d' o',d'=fZ Ow d a→o'=(o || a.open_)→R .next (gl (some (.ref K.a)::some r::some x2::some (vi d')::some (vi (w+a.weight))::some (bi o')::some (vi Ow)::some (vi (T.idxOf a))::tl)) Z) :
  l6 c m (.ite (.cmp .Gt (.bin .Add (.sub (.attr (.loc 0) (Str.ofString "depths")) (.loc 7)) (.loc 6)) (.loc 3)) [(.set 3 (.bin .Add (.sub (.attr (.loc 0) (Str.ofString "depths")) (.loc 7)) (.loc 6)))] []::[.aug 4 .Add (.sub (.attr (.loc 0) (Str.ofString "weights")) (.loc 7)),.ite (.cmp .Eq (.sub (.attr (.loc 0) (Str.ofString "opens")) (.loc 7)) (.con (.int 1))) [.set 5 (.con (.int 1))] []])
   (gl (some (.ref K.a)::some r::some x2::some (vi d)::some (vi w)::some (bi o)::some (vi Ow)::some (vi (T.idxOf a))::tl)) Z R E:=by
 refine f9 ?_
 refine h.Ry N ?_
 refine Mo h ha ⟨K6 (λe=>?_) λe=>?_⟩
 ·refine f6 ?_
  refine h.Ry N ?_
  refine Mo h ha ⟨?_⟩
  exact Si N h ha (d:=a.depth+Ow) λo'=>hn _ o' (Nat.max_eq_right (Nat.le_of_lt (Int.ofNat_lt.mp e))).symm
 ·exact Si N h ha λo'=>hn _ o' (Nat.max_eq_left (Nat.not_lt.mp λe2=>e (Int.ofNat_lt.mpr e2))).symm
theorem mB(N:g0 c) (h:i5 K T Z){t:Tm}(ht:t.ok=true) (hk:∀a∈t.kids,a∈T) (hz:T.length < 100000) (hm:t∉T){m:Nat}{x2 x6 x7 x8:Option V}{tl:List (Option V)}
  (q2:t.depth≤24→t.weight≤4096→∀a6,i5 K (T++[t]) a6→d8 K.F Z a6→Q (vi T.length) a6)
  (q3:24 < t.depth∨4096 < t.weight→E Z):l6 c m (N6.drop 9) (gl (some (.ref K.a)::some (t.row (T.idxOf ·))::x2::some (vi t.depth)::some (vi t.weight)::some (bi t.open_)::x6::x7::x8::tl)) Z (s9 Q) E:=by
 refine f9 (K6 (λe=>Yi (q3 (.inl (Int.ofNat_lt.mp e)))) λe=>?_)
 refine f9 (K6 (λe=>Yi (q3 (.inr (Int.ofNat_lt.mp e)))) λe'=>f6 ?_)
 refine h.Jo N ?_
 refine t7 h.rows (N8 h.size) ?_
 rw[List.length_map]
 have hd:=Nat.not_lt.mp λe2=>e (Int.ofNat_lt.mpr e2)
 have hw:=Nat.not_lt.mp λe2=>e' (Int.ofNat_lt.mpr e2)
 exact gA N h ht hk hz hm hd hw (q2 hd hw)
theorem Sj(N:g0 c) (h:i5 K T Z){t:Tm}(ht:t.ok=true) (hk:∀a∈t.kids,a∈T) (hz:T.length < 100000) (hm:t∉T){m:Nat}{x2:V}{x6 x7 x8:Option V}{tl:List (Option V)}
  (q2:t.depth≤24→t.weight≤4096→∀a6,i5 K (T++[t]) a6→d8 K.F Z a6→Q (vi T.length) a6)
  (q3:24 < t.depth∨4096 < t.weight→E Z){o:Bool}(ho:o=t.hd.isVar):l6 c (m+1) (N6.drop 7) (gl (some (.ref K.a)::some (t.row (T.idxOf ·))::some x2::some (vi 1)::some (vi 1)::some (bi o)::x6::x7::x8::tl)) Z (s9 Q) E:=by
 subst ho
 refine f6 ?_
 refine Jq ?_
 refine lV N (A2 ?_)
 refine Y9 N ht ?_
 refine Hk (iv:=.tup (t.kids.map λa=>vi (T.idxOf a))) (λa=>vi (T.idxOf a)) t.kids (λdk ls a6=>(∃x7 x8 tl,ls=some (.ref K.a)::some (t.row (T.idxOf ·))::some x2::some (vi (dk.foldl (fZ t.hd.Ow) 1))::some (vi (dk.foldl pE 1))::some (bi (dk.foldl pF t.hd.isVar))::some (vi t.hd.Ow)::x7::x8::tl)∧a6=Z) (small (l0 t)) (λ_ _ _ _=>rfl) ⟨⟨_,_,_,rfl⟩,rfl⟩ ?_ ?_
 ·rintro d a r _ _ R e ⟨⟨x7,x8,tl,rfl⟩,rfl⟩ hn _
  refine gB N h (hk a (G7 e)) λd2 o2 e1 e2=>(hn _ _ ⟨⟨some (vi (T.idxOf a)),x8,tl,?_⟩,rfl⟩).1
  rw[e1,e2,List.foldl_append,List.foldl_append,List.foldl_append]; rfl
 ·rintro _ _ ⟨⟨x7,x8,tl,rfl⟩,rfl⟩
  rw[Vn,Sg,bL ht]
  exact mB N h ht hk hz hm q2 q3
theorem wA(N:g0 c) (h:i5 K T Z){t:Tm}(ht:t.ok=true) (hp:t.hd.sort≠1) (hk:∀a∈t.kids,a∈T) (hz:T.length < 100000)
  (q1:t∈T→Q (vi (T.idxOf t)) Z)
  (q2:t∉T→t.depth≤24→t.weight≤4096→∀a6,i5 K (T++[t]) a6→d8 K.F Z a6→Q (vi T.length) a6)
  (q3:t∉T→(24 < t.depth∨4096 < t.weight)→E Z):i3 c (n+6) (.fix (.ref 83)) [.ref K.a,t.row (T.idxOf ·)] Z Q E:=by
 refine N.fn N.C.rI rfl (f6 ?_)
 refine h.lP N ⟨_,.get h.index,?_⟩
 refine oN h.index Yn ?_
 rw[Jr h.tab ht hk T λ_ h=>h]
 by_cases hm:t∈T
 ·rw[if_pos hm]
  exact f9 (bI (Int.natCast_nonneg _) (f7 (q1 hm)))
 rw[if_neg hm]
 refine f9 (T4 rfl (n8 ?_))
 refine Vm N h ht hp hk (f6 (f6 (f6 ?_)))
 refine Vp (t:=t) (f:=(T.idxOf ·)) [6,7] rfl (λe=>f6 ?_) λe=>?_
 ·exact Sj N h ht hk hz hm (q2 hm) (q3 hm) (o:=true) (e.symm.trans Jt.symm)
 ·exact Sj N h ht hk hz hm (q2 hm) (q3 hm) (o:=false) (e.symm.trans Jt.symm)
end
noncomputable def Gr(T T':List Tm) (n:Nat):Prop:=T <+: T'∧T'.length≤T.length+n
theorem Gr.refl(T:List Tm) (n:Nat):Gr T T n:=⟨List.prefix_refl T,by omega⟩
theorem Gr.trans{A B C:List Tm}{m n:Nat}(x:Gr A B m) (y:Gr B C n):Gr A C (m+n):=⟨x.1.trans y.1,by have:=x.2; have:=y.2; omega⟩
theorem Gr.mono{A B:List Tm}{m n:Nat}(x:Gr A B m) (h:m≤n):Gr A B n:=⟨x.1,by have:=x.2; omega⟩
theorem Gr.mem{A B:List Tm}{m:Nat}(x:Gr A B m){t:Tm}(h:t∈A):t∈B:=x.1.subset h
theorem Gr.idx{A B:List Tm}{m:Nat}(x:Gr A B m){t:Tm}(h:t∈A):B.idxOf t=A.idxOf t:=by
 obtain⟨C,rfl⟩:=x.1
 rw[List.idxOf_append,if_pos h]
section
variable {c:Cx}{n:Nat}{Z:a5}{Q:V→a5→Prop}{E:a5→Prop}{K:H1}{T:List Tm}
noncomputable def cR(K:H1) (T:List Tm) (t:Tm) (w:Nat) (Z:a5) (Q:V→a5→Prop) (E:a5→Prop):Prop :=
 ((t.depth≤24∧t.weight≤4096)→∀T' a6,Gr T T' w→i5 K T' a6→d8 K.F Z a6→t∈T'→Q (vi (T'.idxOf t)) a6)∧((24 < t.depth∨4096 < t.weight)→E Z)
theorem i5.put(h:i5 K T Z) (N:g0 c){t:Tm}(ht:t.ok=true) (hp:t.hd.sort≠1) (hk:∀a∈t.kids,a∈T) (hz:T.length < 100000) (q:cR K T t 1 Z Q E) :
  i3 c (n+6) (.fix (.ref 83)) [.ref K.a,t.row (T.idxOf ·)] Z Q E :=
 wA N h ht hp hk hz (λhm=>q.1 ⟨h.tab.deep t hm,h.tab.heavy t hm⟩ T Z (.refl _ _) h (.refl _ _) hm)
  (λhm hd hw a6 h' s=>Yo hm ▸ q.1 ⟨hd,hw⟩ (T++[t]) a6 ⟨List.prefix_append _ _,Nat.le_of_eq List.length_append⟩ h' s (List.mem_append_right _ (.head _))) λ_ hb=>q.2 hb
theorem i5.Sk(h:i5 K T Z) (N:g0 c){t:Tm}(ht:t.ok=true) (hp:t.hd.sort≠1) (hk:∀a∈t.kids,a∈T) (hz:T.length < 100000) (q:cR K T t 1 Z Q E) :
  ∃fv,Ab c (.ref K.a) (Str.ofString "put") Z fv∧i3 c (n+6) fv [.ref K.a,t.row (T.idxOf ·)] Z Q E:=⟨_,h.fM N,h.put N ht hp hk hz q⟩
theorem rR{a:Tm}(ha:a∈T):∀b∈[a],b∈T:=List.forall_mem_singleton.mpr ha
theorem tC{b:Bool}{a:Tm}(h:i5 K T Z) (hb:b=true) (ha:a∈T) (hs:a.stands=true):(b && a.ok && a.stands)=true:=by rw[hb,h.tab.ok a ha,hs]; rfl
theorem Pd(N:g0 c) (h:i5 K T Z){i:Nat}(hz:T.length < 100000) (q:cR K T (.leaf (.var i)) 1 Z Q E):i3 c (n+7) (.fix (.ref 181)) [.ref K.a,vi i] Z Q E :=
 N.fn N.C.var_kind rfl (h.Sk N (t:=.leaf (.var i)) rfl (Nat.ne_of_beq_eq_false rfl) nofun hz q)
theorem gC(N:g0 c) (h:i5 K T Z){i:Nat}(hz:T.length < 100000) (q:cR K T (.leaf (.mvar i)) 1 Z Q E):i3 c (n+7) (.fix (.ref 188)) [.ref K.a,vi i] Z Q E :=
 N.fn N.C.mvar_kind rfl (h.Sk N (t:=.leaf (.mvar i)) rfl (Nat.ne_of_beq_eq_false rfl) nofun hz q)
theorem mC(N:g0 c) (h:i5 K T Z){a:Tm}(ha:a∈T) (hs:a.stands=true) (hz:T.length < 100000) (q:cR K T (.un .arr a) 1 Z Q E):i3 c (n+7) (.fix (.ref 167)) [.ref K.a,vi (T.idxOf a)] Z Q E :=
 N.fn N.C.array_kind rfl (h.Sk N (t:=.un .arr a) (tC h rfl ha hs) (Nat.ne_of_beq_eq_false rfl) (rR ha) hz q)
theorem bN(N:g0 c) (h:i5 K T Z){a:Tm}(ha:a∈T) (hs:a.stands=true) (hz:T.length < 100000) (q:cR K T (.un .byref a) 1 Z Q E):i3 c (n+7) (.fix (.ref 174)) [.ref K.a,vi (T.idxOf a)] Z Q E :=
 N.fn N.C.byref_kind rfl (h.Sk N (t:=.un .byref a) (tC h rfl ha hs) (Nat.ne_of_beq_eq_false rfl) (rR ha) hz q)
theorem bO(N:g0 c) (h:i5 K T Z){a:Tm}(ha:a∈T) (hs:a.stands=true) (hz:T.length < 100000) (q:cR K T (.un .S3 a) 1 Z Q E):i3 c (n+7) (.fix (.ref 195)) [.ref K.a,vi (T.idxOf a)] Z Q E :=
 N.fn N.C.roref_kind rfl (h.Sk N (t:=.un .S3 a) (tC h rfl ha hs) (Nat.ne_of_beq_eq_false rfl) (rR ha) hz q)
noncomputable def Hd.isNamed:Hd→Bool
 | .cls _=>true
 | .val _=>true
 | _=>false
noncomputable def Hd.tid:Hd→Nat
 | .cls t=>t
 | .val t=>t
 | _=>0
theorem Yq{i:Nat}(h:(l7.find? λp=>decide (p.1=(i:Int))).isNone=true):(l7.find? λp=>decide (p.1=(i:Int))).isSome=false:=by rw[Option.isNone_iff_eq_none.mp h]; rfl
theorem Yr(N:g0 c) (h:i5 K T Z){t:Tm}{i:Nat}(e:t.hd=.cls i) (ht:t.ok=true) (hk:∀a∈t.kids,a∈T) (hz:T.length < 100000) (q:cR K T t 1 Z Q E) :
  i3 c (n+7) (.fix (.ref 146)) [.ref K.a,vi i,.tup (t.kids.map λa=>vi (T.idxOf a))] Z Q E:=by
 have hf:=M9 ht
 have hm:=h.Sk (n:=n) N ht (by rw[e]; exact Nat.ne_of_beq_eq_false rfl) hk hz q
 unfold Tm.row at hm
 rw[e] at hf hm
 exact N.fn N.C.class_kind rfl (f9 ⟨l7,N.l7,T4 (Yq (H2 hf).2) (f7 hm)⟩)
theorem Ys(N:g0 c) (h:i5 K T Z){t:Tm}{i:Nat}(e:t.hd=.val i) (ht:t.ok=true) (hk:∀a∈t.kids,a∈T) (hz:T.length < 100000) (q:cR K T t 1 Z Q E) :
  i3 c (n+7) (.fix (.ref 153)) [.ref K.a,vi i,.tup (t.kids.map λa=>vi (T.idxOf a))] Z Q E:=by
 have hf:=M9 ht
 have hm:=h.Sk (n:=n) N ht (by rw[e]; exact Nat.ne_of_beq_eq_false rfl) hk hz q
 unfold Tm.row at hm
 rw[e] at hf hm
 exact N.fn N.C.value_kind rfl (f9 ⟨l7,N.l7,T4 (Yq (H2 hf).2) (f7 hm)⟩)
theorem i5.Sl(h:i5 K T Z) (N:g0 c){t:Tm}(ht:t∈T) (q:Q (t.row (T.idxOf ·)) Z):∃fv,Ab c (.ref K.a) (Str.ofString "row") Z fv∧i3 c (n+1) fv [.ref K.a,vi (T.idxOf t)] Z Q E :=
 ⟨_,h.Jn N,fX N h (D5 ht) q⟩
theorem gD(N:g0 c) (h:i5 K T Z){t:Tm}(ht:t∈T) (q:Q (vi t.hd.sort) Z):i3 c (n+2) (.fix (.ref 202)) [.ref K.a,vi (T.idxOf t)] Z Q E:=by
 refine N.fn N.C.kind_sort rfl (f7 ?_)
 refine h.Sl N ht ?_
 exact Jq q
theorem Hp(N:g0 c) (h:i5 K T Z){t:Tm}(ht:t∈T) (q:Q (.bool t.hd.isVar) Z):i3 c (n+2) (.fix (.ref 230)) [.ref K.a,vi (T.idxOf t)] Z Q E:=by
 refine N.fn N.C.is_var rfl (f6 ?_)
 refine h.Sl N ht ?_
 refine Jq (f7 ?_)
 revert q
 cases t.hd<;>intro q<;>first | exact⟨λ_=>q,Lc⟩ | exact⟨no,λ_=>q⟩
noncomputable def Hd.k8:Hd→Nat
 | .cls t=>t
 | .val t=>t
 | .prim n=>(((Q7.find? λp=>decide (p.1=(n:Int))).map (·.2)).getD (vi 0)) |> λv=>match v with | .int i=>i.toNat | _=>0
 | .arr=>5
 | _=>0
theorem Sm:∀n:Nat,n < 16→((Q7.find? λp=>decide (p.1=(n:Int))).map (·.2)).getD (.int 0)=vi (Hd.prim n).k8
 | 0,_ | 1,_ | 2,_ | 3,_ | 4,_ | 5,_ | 6,_ | 7,_ | 8,_ | 9,_ | 10,_ | 11,_ | 12,_ | 13,_ | 14,_ | 15,_=>rfl
 | n+16,h=>absurd h (by omega)
theorem Yt(N:g0 c) (h:i5 K T Z){t:Tm}(ht:t∈T) (q:Q (vi t.hd.k8) Z):i3 c (n+2) (.fix (.ref 209)) [.ref K.a,vi (T.idxOf t)] Z Q E:=by
 have hok:=h.tab.ok t ht
 refine N.fn N.C.tid_of rfl (f6 ?_)
 refine h.Sl N ht ?_
 refine Vp (t:=t) (f:=(T.idxOf ·)) [2,3] rfl (λe=>f7 ?_) λe=>f9 ?_
 ·unfold Tm.row
  revert e q
  cases t.hd<;>intro q e<;>first | exact no e | exact⟨by decide,q⟩
 refine Jq (bH (λe1=>f7 ?_) λe1=>f9 (Jq (bH (λe2=>f7 ?_) λe2=>f7 ?_)))
 ·have:∃j,t.hd=.prim j:=by revert e1; cases t.hd<;>first | exact no | exact λ_=>⟨_,rfl⟩
  obtain⟨j,hj⟩:=this
  obtain rfl:=Mn hok hj
  have hj:j < 16:=of_decide_eq_true hok
  have hx:T.idxOf (.leaf (.prim j))=j:=Hm h.tab.nodup (h.tab.base j hj)
  rw[hx]
  refine⟨_,.tab N.Q7,?_⟩
  refine aS N.Q7 ?_
  rw[Sm j hj]
  exact q
 ·revert e2 q; cases t.hd<;>first | exact λ_=>no | exact λq _=>q
 ·revert e e1 e2 q; cases t.hd<;>first | exact λ_ _ _=>Lc | exact λ_ _=>Lc | exact λ_=>Lc | exact λq _ _ _=>q
theorem gE(N:g0 c) (h:i5 K T Z){t:Tm}(ht:t∈T) (q:Q (.tup (if t.hd.isNamed=true then t.kids.map (λa=>vi (T.idxOf a)) else [])) Z):i3 c (n+2) (.fix (.ref 216)) [.ref K.a,vi (T.idxOf t)] Z Q E:=by
 refine N.fn N.C.args_of rfl (f6 ?_)
 refine h.Sl N ht ?_
 refine Vp (t:=t) (f:=(T.idxOf ·)) [2,3] rfl (λe=>f7 ?_) λe=>f7 ?_
 ·unfold Tm.row
  revert e q
  cases t.hd<;>intro q e<;>first | exact no e | exact⟨by decide,q⟩
 ·revert e q
  cases t.hd<;>intro q e<;>first | exact Lc e | exact q
end
section
variable {c:Cx}{n:Nat}{Z:a5}{Q:V→a5→Prop}{E:a5→Prop}
theorem range_getD{l:List Bool}:(List.range l.length).map (λi=>l.getD i false)=l:=List.ext_getElem (by rw[List.length_map,List.length_range]) λi h1 h2=>by
 rw[List.getElem_map,List.getElem_range]; exact(List.getElem_eq_getD _).symm
theorem Sn{h:Heap}:∀{l:List Bool}{cs:List Value},h9 h (l.map V.bool) cs→cs=l.map Value.bool
 | [],_,r=>r
 | b::l,_,r=>r.E4 λc r x y=>x.Lm (congrArg (List.cons _) (Sn y))
theorem wB{a:Addr}{l:List Bool}(hl:Z a=some (.list (l.map V.bool))) (h:Q (.bool (l.any id)) Z):i3 c n (.fix (.builtin "any")) [.ref a] Z Q E:=Ad λA s cx o r rx=>rx.E3 (by
 obtain⟨ia,⟨na,hia⟩,rb⟩:=(r.3 _ _ hl).2
 have hb:=Sn rb
 have hlen:ia.size=l.length:=rb.size.trans (List.length_map ..)
 have hne:a≠s.heap.objs.size:=Nat.ne_of_lt (Heap.lt_size hia)
 refine call_any_walk (wpAny_pyIter_list ⟨_,hia,rfl,na,rfl⟩ ⟨s.heap.objs.size,_,_,_,_,_,λi=>l.getD i false,rfl,Walks.list (A:=A.in1) o.2.2.1 s.heap.objs.size a hne ia,⟨⟨_,Heap.get?_push_size _ rfl,rfl,rfl⟩,⟨_,Heap.get?_push_of_some _ hia,rfl,na,rfl⟩⟩,λi v s' Q' E' hv hq=>?_,λh' tk hk=>?_⟩)
 ·have hv':(l.map Value.bool)[i]?=some v:=hb ▸ (Array.getElem?_toList.trans hv)
  rw[List.getElem?_map] at hv'
  obtain⟨b,hb',rfl⟩:=Option.map_eq_some_iff.mp hv'
  have e:l.getD i false=b:=List.getD_eq_getElem?_getD.trans (congrArg (Option.getD · false) hb')
  exact wpAny_truthy_bool ((show Q' (l.getD i false) s' from hq) |> λhq=>e ▸ hq)
 ·rw[hlen,show((List.range l.length).any λi=>l.getD i false)=l.any id from List.any_map.symm.trans (congrArg (List.any · id) range_getD)]
  exact⟨.bool _,Z,i0.grow (tk:=tk) r λb o e=>hk b o (λz=>Nat.ne_of_lt (Heap.lt_size e) (List.mem_singleton.mp z)) (Heap.get?_push_of_some _ e),.bool _,h⟩)
end
abbrev Bd:=List (Tm×Tm)
noncomputable def e9(f:Bd) (k:Tm):Option Tm:=(f.find? λp=>decide (p.1=k)).map (·.2)
noncomputable def walk:Nat→Bd→Tm→Option Tm
 | 0,_,_=>none
 | n+1,f,k=>(e9 f k).elim (some k) λv=>walk n f v
theorem i7{f:Bd}{k v:Tm}(h:e9 f k=some v):(k,v)∈f:=by
 obtain⟨⟨a,b⟩,h1,rfl⟩:=Option.map_eq_some_iff.mp h
 obtain rfl:a=k:=of_decide_eq_true (List.find?_some (p:=λp:Tm×Tm=>decide (p.1=k)) h1)
 exact List.mem_of_find?_eq_some h1
theorem W9{f:Bd}{r:Tm}{P:Tm→Prop}(h0:e9 f r=none→P r) (h1:∀k v,e9 f k=some v→P v→P k):∀{n:Nat}{k:Tm},walk n f k=some r→P k
 | 0,_,h=>nomatch h
 | n+1,k,h=>by
  cases e:e9 f k with
  | none=>exact Option.some.inj ((congrArg (λo:Option Tm=>o.elim (some k) λv=>walk n f v) e).symm.trans h) ▸ h0 (Option.some.inj ((congrArg (λo:Option Tm=>o.elim (some k) λv=>walk n f v) e).symm.trans h) ▸ e)
  | some v=>exact h1 k v e (W9 h0 h1 ((congrArg (λo:Option Tm=>o.elim (some k) λv=>walk n f v) e).symm.trans h))
theorem k9{n:Nat}{f:Bd}{k r:Tm}(h:walk n f k=some r):e9 f r=none:=W9 (P:=λ_=>e9 f r=none) id (λ_ _ _ q=>q) h
theorem D6{D:Tm→Prop}{n:Nat}{f:Bd}{k r:Tm}(hf:∀p∈f,D p.2) (hk:D k) (h:walk n f k=some r):D r:=W9 (P:=λk=>D k→D r) (λ_=>id) (λk v e q _=>q (hf _ (i7 e))) h hk
structure Enc(e:Tm→V) (D:Tm→Prop):Prop where
 inj:∀a b,D a→D b→e a=e b→a=b
 key:(∀a,D a→∃i,e a=.int i)∨(∀a,D a→(e a).hk 8=true∧∃t,e a=.tup t)
theorem Enc.keyOk{e g:Tm→V}{D:Tm→Prop}(E:Enc e D){f:Bd}(hf:∀p∈f,D p.1){k:Tm}(hk:D k):H6 (e k) (f.map λp=>(e p.1,g p.2)) :=
 E.key.elim (λh=>.inl ((h k hk).imp λi hi=>⟨hi,List.forall_mem_map.mpr λq hq=>h _ (hf q hq)⟩)) λh=>.inr (.inr ⟨(h k hk).1,(h k hk).2.imp λt ht=>⟨ht,List.forall_mem_map.mpr λq hq=>(h _ (hf q hq)).2⟩⟩)
theorem Enc.get{e g:Tm→V}{D:Tm→Prop}(E:Enc e D){k:Tm}(hk:D k):∀{f:Bd}(_:∀p∈f,D p.1),E7 (f.map λp=>(e p.1,g p.2)) (e k)=(e9 f k).map g
 | [],_=>rfl
 | p::f,hf=>by
  have ih:=E.get (g:=g) hk (f:=f) λq hq=>hf q (.tail _ hq)
  unfold E7 e9 at ih ⊢
  rw[List.map_cons]
  by_cases h:p.1=k
  ·rw[List.find?_cons_of_pos (by exact decide_eq_true (congrArg e h)),List.find?_cons_of_pos (by exact decide_eq_true h)]; rfl
  ·rw[List.find?_cons_of_neg (by exact λq=>h (E.inj _ _ (hf p (.head _)) hk (of_decide_eq_true q))),List.find?_cons_of_neg (by exact λq=>h (of_decide_eq_true q))]; exact ih
noncomputable def R0(f:Bd) (k v:Tm):Bd:=if (e9 f k).isSome then f.map (λp=>if p.1=k then (p.1,v) else p) else f++[(k,v)]
theorem Enc.put{e g:Tm→V}{D:Tm→Prop}(E:Enc e D){f:Bd}(hf:∀p∈f,D p.1){k v:Tm}(hk:D k):dput (f.map λp=>(e p.1,g p.2)) (e k) (g v)=(R0 f k v).map λp=>(e p.1,g p.2):=by
 have hg:((f.map λp=>(e p.1,g p.2)).any λp=>decide (p.1=e k))=(e9 f k).isSome:=List.isSome_find?.symm.trans (Option.isSome_map.symm.trans ((congrArg Option.isSome (E.get (g:=g) hk hf)).trans Option.isSome_map))
 unfold R0 dput
 rw[hg]
 by_cases h:(e9 f k).isSome=true
 ·rw[if_pos h,if_pos h,List.map_map,List.map_map]
  refine List.map_congr_left λp hp=>?_
  refine(?_:(if e p.1=e k then (e p.1,g v) else (e p.1,g p.2))=(λp:Tm×Tm=>(e p.1,g p.2)) (if p.1=k then (p.1,v) else p))
  by_cases q:p.1=k
  ·rw[if_pos q,if_pos (congrArg e q)]
  ·rw[if_neg q,if_neg λz=>q (E.inj _ _ (hf p hp) hk z)]
 ·rw[if_neg h,if_neg h,List.map_append]; rfl
theorem Enc.hk{e:Tm→V}{D:Tm→Prop}(E:Enc e D){x:Tm}(hx:D x):(e x).hk 60=true :=
 E.key.elim (λh=>(h x hx).elim λi hi=>hi ▸ W6) λh=>V.kK (h x hx).1 (by decide)
theorem Enc.a0z{e:Tm→V}{D:Tm→Prop}(E:Enc e D){a b:Tm}(ha:D a) (hb:D b):kN (e a) (e b):=.inl ⟨E.hk ha,E.hk hb⟩
section
variable {c:Cx}{n:Nat}{Z:a5}{E:a5→Prop}
noncomputable def J3(e g:Tm→V) (f:Bd) (a:Addr) (Z:a5):Prop:=Z a=some (.dict (f.map λp=>(e p.1,g p.2)))
theorem J3.yL{e g:Tm→V}{D:Tm→Prop}{f:Bd}{a:Addr}(h:J3 e g f a Z) (X:Enc e D) (hf:∀p∈f,D p.1){k:Tm}(hk:D k){R:Bool→Prop}(q:R (e9 f k).isSome):IN c (e k) (.ref a) Z R:=⟨by
 unfold tF
 dsimp only
 rw[show Z a=_ from h]
 exact⟨X.keyOk hf hk,(congrArg Option.isSome (X.get (g:=g) hk hf)).trans Option.isSome_map ▸ q⟩⟩
theorem J3.isIn{e g:Tm→V}{D:Tm→Prop}{f:Bd}{a:Addr}(h:J3 e g f a Z) (X:Enc e D) (hf:∀p∈f,D p.1){k:Tm}(hk:D k){R:Bool→Prop}(q:R (e9 f k).isSome):Uh c .In (e k) (.ref a) Z R:=h.yL (c:=c) X hf hk q
theorem J3.sub{e g:Tm→V}{D:Tm→Prop}{f:Bd}{a:Addr}(h:J3 e g f a Z) (X:Enc e D) (hf:∀p∈f,D p.1){k v:Tm}(hk:D k) (hv:e9 f k=some v){R:V→Prop}(q:R (g v)):Ei (.ref a) (e k) Z R:=by
 unfold Ei
 dsimp only
 rw[show Z a=_ from h]
 exact⟨X.keyOk hf hk,g v,(X.get hk hf).trans (congrArg (Option.map g) hv),q⟩
theorem J3.Pe{e g:Tm→V}{D:Tm→Prop}{f:Bd}{a:Addr}(h:J3 e g f a Z) (X:Enc e D) (hf:∀p∈f,D p.1) (hz:f.length≤1000000){k v:Tm}(hk:D k){R:a5→Prop}(q:∀a6,J3 e g (R0 f k v) a a6→(∀b,b≠a→a6 b=Z b)→R a6):Uo (.ref a) (e k) (g v) Z R :=
 N9 h (X.keyOk hf hk) (by rw[List.length_map]; exact hz) λa6 e n=>q a6 (e.trans (congrArg (λx=>some (j8.dict x)) (X.put hf hk))) n
theorem gF{e:Tm→V}{D:Tm→Prop}(X:Enc e D){f:Bd}{a:Addr}(h:J3 e e f a Z) (hf:∀p∈f,D p.1∧D p.2){i j:Nat}{m:Nat}{k r:Tm}(hw:walk m f k=some r) (hk:D k){ls:Tm→List (Option V)}(hi:∀k,gl (ls k) i=some (e k)) (hj:∀k,gl (ls k) j=some (.ref a)) (hs:∀k v,sl (ls k) i (e v)=ls v){xs:List S}{Q:Fl→Loc→a5→Prop}
  (q:l6 c n xs (gl (ls r)) Z Q E):l6 c n (.whl (.cmp .In (.loc i) (.loc j)) [.set i (.sub (.loc j) (.loc i))]::xs) (gl (ls k)) Z Q E:=by
 refine Se (λm l a6=>a6=Z∧∃k,D k∧l=ls k∧walk m f k=some r) (k:=m) ⟨rfl,k,hk,rfl,hw⟩ ?_
 rintro m _ a6 ⟨e,k,hk,rfl,hw⟩
 subst e
 refine(?_:S5 (gl (ls k) i) λx=>S5 (gl (ls k) j) λy=>Uh c .In x y _ λr=>U0 r _ _)
 rw[hi,hj]
 refine h.isIn X (λp hp=>(hf p hp).1) hk ?_
 cases m with
 | zero=>cases hw
 | succ m =>
  unfold walk at hw
  cases hl:e9 f k with
  | none =>
   rw[hl] at hw
   cases hw
   exact S4 q
  | some v =>
   rw[hl] at hw
   refine T7 (f6 ?_)
   refine(?_:S5 (gl (ls k) j) λy=>S5 (gl (ls k) i) λx=>Ei y x _ _)
   rw[hi,hj]
   refine h.sub X (λp hp=>(hf p hp).1) hk hl ?_
   exact⟨m,Nat.lt_succ_self m,_,congrArg gl (hs k v),rfl,v,(hf _ (i7 hl)).2,rfl,hw⟩
theorem v5{T:List Tm}:Enc (λt=>vi (T.idxOf t)) (·∈T):=⟨λa b ha hb e=>Pb ha hb (Ex e),.inl λa _=>⟨_,rfl⟩⟩
theorem Yu(N:g0 c){T:List Tm}{f:Bd}{a:Addr}(h:J3 (λt=>vi (T.idxOf t)) (λt=>vi (T.idxOf t)) f a Z) (hf:∀p∈f,p.1∈T∧p.2∈T){m:Nat}{k r:Tm}(hw:walk m f k=some r) (hk:k∈T){Q:V→a5→Prop}(q:Q (vi (T.idxOf r)) Z):i3 c (n+1) (.fix (.ref 419)) [vi (T.idxOf k),.ref a] Z Q E :=
 N.fn N.C.decl_put_in rfl (gF (e:=λt=>vi (T.idxOf t)) (ls:=λk=>some (vi (T.idxOf k))::some (.ref a)::pad) v5 h hf hw hk (λ_=>rfl) (λ_=>rfl) (λ_ _=>rfl) (f7 q))
end
noncomputable def anyM(g:Tm→Option Bool):List Tm→Option Bool
 | []=>some false
 | a::l=>(g a).bind λx=>(anyM g l).map λy=>x || y
noncomputable def occurs:Nat→Bd→Tm→Tm→Option Bool
 | 0,_,_,_=>none
 | n+1,f,v,k=>if k=v then some true else match e9 f k with
  | some u=>if k.hd.isVar=true then occurs n f v u else anyM (occurs n f v) k.kids
  | none=>anyM (occurs n f v) k.kids
theorem anyM_cons{g:Tm→Option Bool}{a:Tm}{l:List Tm}{r:Bool}(h:anyM g (a::l)=some r):∃x y,g a=some x∧anyM g l=some y∧(x || y)=r:=by
 obtain⟨x,h1,h2⟩:=Option.bind_eq_some_iff.mp h
 obtain⟨y,h3,h4⟩:=Option.map_eq_some_iff.mp h2
 exact⟨x,y,h1,h3,h4⟩
inductive Vq(d st:Addr) (K:H1) (Z:a5):Prop
 | mk (dx:Addr) (l:List (Str×V)) (h1:Z d=some (.inst 532 dx)) (h2:Z dx=some (.ns l)) (h3:l.lookup (Str.ofString "kt")=some (.ref K.a)) (h4:l.lookup (Str.ofString "store")=some (.ref st))
section
variable {c:Cx}{n:Nat}{Z:a5}{K:H1}{T:List Tm}{d st:Addr}
theorem Vq.kt(h:Vq d st K Z) (N:g0 c){R:V→Prop}(q:R (.ref K.a)):G1 c (.ref d) (Str.ofString "kt") Z R:=match h with
 | ⟨_,_,h1,h2,h3,_⟩=>m6 h1 h2 h3 (N.yd.attr 2 rfl) rfl q
theorem Vq.store(h:Vq d st K Z) (N:g0 c){R:V→Prop}(q:R (.ref st)):G1 c (.ref d) (Str.ofString "store") Z R:=match h with
 | ⟨_,_,h1,h2,_,h3⟩=>m6 h1 h2 h3 (N.yd.attr 1 rfl) rfl q
noncomputable def Plain(F:Addr→Prop) (Z:a5):Prop:=∀b,F b→(∃l,Z b=some (.list l))∨∃l,Z b=some (.dict l)
noncomputable def j8.a1a:j8→Bool
 | .list _=>true
 | .dict _=>true
 | _=>false
theorem Plain.off{F:Addr→Prop}(h:Plain F Z){b:Addr}{o:j8}(e:Z b=some o) (ho:o.a1a=false):¬F b:=λf=>by
 rcases h b f with⟨l,e'⟩ | ⟨l,e'⟩<;>rw[e] at e'<;>cases e'<;>exact Lc ho
theorem Vq.same(h:Vq d st K Z){a6:a5}{F:Addr→Prop}(s:d8 F Z a6) (hF:Plain F Z):Vq d st K a6:=match h with
 | ⟨dx,l,h1,h2,h3,h4⟩=>⟨dx,l,s _ _ (hF.off h1 rfl) h1,s _ _ (hF.off h2 rfl) h2,h3,h4⟩
theorem Plain.none{Z:a5}:Plain (λ_=>False) Z:=λ_ h=>h.elim
theorem i5.plain(h:i5 K T Z):Plain K.F Z:=λb hb=>by
 rcases hb with e | e | e | e | e<;>subst e
 ·exact .inl ⟨_,h.rows⟩
 ·exact .inr ⟨_,h.index⟩
 ·exact .inl ⟨_,h.depths⟩
 ·exact .inl ⟨_,h.weights⟩
 ·exact .inl ⟨_,h.opens⟩
theorem Yv{a b:Tm}(ha:a∈T) (hb:b∈T){A B:Prop}(h1:a=b→A) (h2:a≠b→B):U0 (decide ((T.idxOf a:Int)=(T.idxOf b:Int))) A B:=K6 (λe=>h1 (Pb ha hb (Int.ofNat.inj e))) λe=>h2 λe'=>e (e' ▸ rfl)
theorem Ju(N:g0 c){f:Bd}{a:Addr}(hf:∀p∈f,p.1∈T∧p.2∈T){v:Tm}(hv:v∈T):∀{m:Nat}{k:Tm}{r:Bool}{Z:a5}{Q:V→a5→Prop}{E:a5→Prop},i5 K T Z→Vq d st K Z→J3 (λt=>vi (T.idxOf t)) (λt=>vi (T.idxOf t)) f a Z →
  occurs m f v k=some r→k∈T→(∀a6,d8 (λ_=>False) Z a6→Q (.bool r) a6)→i3 c (n+m+3) (.fix (.ref 424)) [.ref d,vi (T.idxOf v),vi (T.idxOf k),.ref a] Z Q E
 | 0,k,r,Z,Q,E,_,_,_,ho,_,_=>by cases ho
 | m+1,k,r,Z,Q,E,h,y,hd,ho,hk,q=>by
  refine(?_:i3 c (n+m+3+1) _ _ _ _ _)
  unfold occurs at ho
  refine N.fn N.C.decl_stands_in rfl (f9 (Yv hk hv (λe=>?_) λe=>?_))
  ·rw[if_pos e] at ho
   cases ho
   exact f7 (q Z (.refl _ _))
  rw[if_neg e] at ho
  have pG:anyM (occurs m f v) k.kids=some r→l6 c (n+m+3) (D1.drop 2) (gl (some (.ref d)::some (vi (T.idxOf v))::some (vi (T.idxOf k))::some (.ref a)::pad)) Z (s9 Q) E:=by
   intro ho
   refine f7 ?_
   refine y.kt N ?_
   refine h.Sl N hk ?_
   refine Y9 N (h.tab.ok k hk) ?_
   refine comp_map (iv:=.tup (k.kids.map λa=>vi (T.idxOf a))) (λa=>vi (T.idxOf a)) k.kids (λdk acc a6=>d8 (λ_=>False) Z a6∧∃bs:List Bool,acc=bs.map V.bool∧∀lk,k.kids=dk++lk→∃r',anyM (occurs m f v) lk=some r'∧(bs.any id || r')=r) (small (l0 k)) (λ_ _ _ _=>rfl) ⟨.refl _ _,[],rfl,λlk e=>⟨r,by rw[←ho,e]; rfl,rfl⟩⟩ ?_ ?_
   ·rintro dk u lk _ a6 R e ⟨s,bs,rfl,hm⟩ hsome _
    obtain⟨r',h1,h2⟩:=hm _ e
    obtain⟨x,y',g1,g2,g3⟩:=anyM_cons h1
    refine T7 ?_
    refine Ju N hf hv (h.same s) (y.same s .none) (s _ _ id hd) g1 (h.tab.kids k hk u (G7 e)) λj0 j2=>?_
    refine hsome _ _ ⟨s.trans j2,bs++[x],(List.map_append (l₂:=[x])).symm,λrS e'=>?_⟩
    have:rS=lk:=by rw[e,List.append_assoc] at e'; exact(List.cons.inj (List.append_cancel_left e')).2.symm
    refine⟨y',this ▸ g2,?_⟩
    rw[List.any_append,←h2,←g3]
    simp[Bool.or_assoc]
   ·rintro _ a6 ⟨s,bs,rfl,hm⟩ r' hr
    obtain⟨r0,h1,h2⟩:=hm [] (List.append_nil _).symm
    cases h1
    refine wB (l:=bs) (a7 ..) ?_
    rw[←Bool.or_false (bs.any id),h2]
    exact q _ (s.trans (d8.new hr))
  refine f9 ?_
  refine hd.isIn v5 (λp hp=>(hf p hp).1) hk ?_
  cases hu:e9 f k with
  | none=>rw[hu] at ho; exact S4 (S4 (pG ho))
  | some u =>
   rw[hu] at ho
   replace ho:(if k.hd.isVar=true then occurs m f v u else anyM (occurs m f v) k.kids)=some r:=ho
   refine T7 ?_
   refine y.kt N ?_
   refine Hp N h hk (bH (λe2=>T7 (f7 ?_)) λe2=>?_)
   ·rw[if_pos e2] at ho
    refine hd.sub v5 (λp hp=>(hf p hp).1) hk hu ?_
    exact Ju N hf hv h y hd ho (hf _ (i7 hu)).2 q
   ·rw[if_neg (Bool.eq_false_iff.mp e2)] at ho
    exact S4 (pG ho)
end
noncomputable def Dh(f:Bd) (a b:Tm):Option (Bool×Bd):=if f.length≤1000 then match occurs 70 (f++[(a,b)]) a b with
  | some o=>some (!o,f++[(a,b)])
  | none=>none else none
noncomputable def D7(g:Bd→Tm→Tm→Option (Bool×Bd)):Bd→List Tm→List Tm→Option (Bool×Bd)
 | f,a::as,b::bs=>(g f a b).bind λp=>cond p.1 (D7 g p.2 as bs) (some (false,p.2))
 | f,_,_=>some (true,f)
theorem Mp{g:Bd→Tm→Tm→Option (Bool×Bd)}{f:Bd}{a b:Tm}{as bs:List Tm}{o:Option (Bool×Bd)}(e:g f a b=o):D7 g f (a::as) (b::bs)=o.bind λp=>cond p.1 (D7 g p.2 as bs) (some (false,p.2)):=congrArg (λo:Option (Bool×Bd)=>o.bind λp=>cond p.1 (D7 g p.2 as bs) (some (false,p.2))) e
theorem Gk{g:Bd→Tm→Tm→Option (Bool×Bd)}{f f':Bd}{a b:Tm}{as bs:List Tm}{r:Bool}(h:D7 g f (a::as) (b::bs)=some (r,f')){P:Prop}(k1:∀f1,g f a b=some (true,f1)→D7 g f1 as bs=some (r,f')→P) (k2:g f a b=some (false,f')→r=false→P):P:=by
 cases e:g f a b with
 | none=>exact nomatch (Mp e).symm.trans h
 | some p =>
  obtain⟨b',f1⟩:=p
  have h:=(Mp e).symm.trans h
  cases b' with
  | true=>exact k1 f1 e h
  | false =>
   obtain⟨rfl,rfl⟩:=Prod.mk.inj (Option.some.inj h)
   exact k2 e rfl
noncomputable def Jv(g:Bd→Tm→Tm→Option (Bool×Bd)) (f:Bd) (a b:Tm):Option (Bool×Bd) :=
 if a.hd.sort≠b.hd.sort∨a.hd.k8≠b.hd.k8 then some (false,f)
 else if a.kids=[]∨a.kids.length≠b.kids.length then some (false,f)
 else D7 g f a.kids b.kids
noncomputable def B9:Nat→Bd→Tm→Tm→Option (Bool×Bd)
 | 0,_,_,_=>none
 | n+1,f,a,b=>match walk (f.length+1) f a,walk (f.length+1) f b with
  | some a,some b=>if a=b then some (true,f) else if b.hd.isVar=true then Dh f b a else if a.hd.isVar=true then Dh f a b else Jv (B9 n) f a b
  | _,_=>none
section
variable {c:Cx}{n:Nat}{Z:a5}{K:H1}{T:List Tm}{d st:Addr}
theorem i5.keep(h:i5 K T Z){a6:a5}{F:Addr→Prop}(s:d8 F Z a6) (hd:∀b,F b→¬K.F b) (hp:Plain F Z):i5 K T a6 where
 inst:=s _ _ (hp.off h.inst rfl) h.inst
 ns:=s _ _ (hp.off h.ns rfl) h.ns
 rows:=s _ _ (λf=>hd _ f (.inl rfl)) h.rows
 index:=s _ _ (λf=>hd _ f (.inr (.inl rfl))) h.index
 depths:=s _ _ (λf=>hd _ f (.inr (.inr (.inl rfl)))) h.depths
 weights:=s _ _ (λf=>hd _ f (.inr (.inr (.inr (.inl rfl))))) h.weights
 opens:=s _ _ (λf=>hd _ f (.inr (.inr (.inr (.inr rfl))))) h.opens
 apart:=h.apart
 tab:=h.tab
 size:=h.size
theorem i5.Yw(h:i5 K T Z){a:Addr}{l:List (V×V)}(ha:Z a=some (.dict l)) (hi:a≠K.i):¬K.F a:=by
 rintro(e | e | e | e | e)
 ·rw[e,h.rows] at ha; cases ha
 ·exact hi e
 ·rw[e,h.depths] at ha; cases ha
 ·rw[e,h.weights] at ha; cases ha
 ·rw[e,h.opens] at ha; cases ha
structure Vr(K:H1) (T:List Tm) (d st:Addr) (f:Bd) (a:Addr) (Z:a5):Prop where
 kt:i5 K T Z
 yd:Vq d st K Z
 fd:J3 (λt=>vi (T.idxOf t)) (λt=>vi (T.idxOf t)) f a Z
 ne:a≠K.i
 all:∀p∈f,p.1∈T∧p.2∈T
theorem Vr.plain{f:Bd}{a:Addr}(u:Vr K T d st f a Z):Plain (·=a) Z:=λb hb=>by subst hb; exact .inr ⟨_,u.fd⟩
theorem Vr.next{f f':Bd}{a:Addr}(u:Vr K T d st f a Z){a6:a5}(s:d8 (·=a) Z a6) (h:J3 (λt=>vi (T.idxOf t)) (λt=>vi (T.idxOf t)) f' a a6) (hall:∀p∈f',p.1∈T∧p.2∈T):Vr K T d st f' a a6 :=
 ⟨u.kt.keep s (λb hb=>by subst hb; exact u.kt.Yw u.fd u.ne) u.plain,u.yd.same s u.plain,h,u.ne,hall⟩
theorem Di{f f':Bd}{a b:Tm}{r:Bool}(h:Dh f a b=some (r,f')):f'=f++[(a,b)]:=by
 unfold Dh at h
 by_cases e:f.length≤1000
 ·rw[if_pos e] at h
  cases o:occurs 70 (f++[(a,b)]) a b with
  | none=>rw[o] at h; cases h
  | some x=>rw[o] at h; exact(Prod.mk.inj (Option.some.inj h)).2.symm
 ·rw[if_neg e] at h; cases h
theorem Jw{I:Bd→Prop}{D:Tm→Prop}{g:Bd→Tm→Tm→Option (Bool×Bd)}(hg:∀{f f':Bd}{a b:Tm}{r:Bool},g f a b=some (r,f')→I f→D a→D b→I f') :
  ∀{as bs:List Tm}{f f':Bd}{r:Bool},D7 g f as bs=some (r,f')→I f→(∀a∈as,D a)→(∀b∈bs,D b)→I f'
 | [],bs,f,f',r,h,hf,_,_=>(Prod.mk.inj (Option.some.inj (show some (true,f)=some (r,f') from h))).2 ▸ hf
 | a::as,[],f,f',r,h,hf,_,_=>(Prod.mk.inj (Option.some.inj (show some (true,f)=some (r,f') from h))).2 ▸ hf
 | a::as,b::bs,f,f',r,h,hf,ha,hb=>Gk h (λf1 h1 h2=>Jw hg h2 (hg h1 hf (ha _ (.head _)) (hb _ (.head _))) (λx hx=>ha x (.tail _ hx)) λx hx=>hb x (.tail _ hx)) λh1 _=>hg h1 hf (ha _ (.head _)) (hb _ (.head _))
theorem Ey{I:Bd→Prop}{D:Tm→Prop}(hD:∀t,D t→∀a∈t.kids,D a) (h2:∀f,I f→∀p∈f,D p.2) (h1:∀f x y,I f→D x→D y→e9 f x=none→I (f++[(x,y)])):∀{n:Nat}{f f':Bd}{a b:Tm}{r:Bool},B9 n f a b=some (r,f')→I f→D a→D b→I f'
 | 0,f,f',a,b,r,h,_,_,_=>by cases h
 | n+1,f,f',a,b,r,h,hf,ha,hb=>by
  unfold B9 at h
  cases kF:walk (f.length+1) f a with
  | none=>rw[kF] at h; cases h
  | some a' =>
  cases pH:walk (f.length+1) f b with
  | none=>rw[kF,pH] at h; cases h
  | some b' =>
  rw[kF,pH] at h
  dsimp only at h
  have ha':=D6 (h2 f hf) ha kF
  have hb':=D6 (h2 f hf) hb pH
  have same {r0:Bool}(h:some (r0,f)=some (r,f')):I f':=(Prod.mk.inj (Option.some.inj h)).2 ▸ hf
  by_cases e1:a'=b'
  ·rw[if_pos e1] at h; exact same h
  rw[if_neg e1] at h
  by_cases e2:b'.hd.isVar=true
  ·rw[if_pos e2] at h; exact Di h ▸ h1 f _ _ hf hb' ha' (k9 pH)
  rw[if_neg e2] at h
  by_cases e3:a'.hd.isVar=true
  ·rw[if_pos e3] at h; exact Di h ▸ h1 f _ _ hf ha' hb' (k9 kF)
  rw[if_neg e3] at h
  unfold Jv at h
  by_cases e4:a'.hd.sort≠b'.hd.sort∨a'.hd.k8≠b'.hd.k8
  ·rw[if_pos e4] at h; exact same h
  rw[if_neg e4] at h
  by_cases e5:a'.kids=[]∨a'.kids.length≠b'.kids.length
  ·rw[if_pos e5] at h; exact same h
  rw[if_neg e5] at h
  exact Jw (λh=>Ey hD h2 h1 h) h hf (hD _ ha') (hD _ hb')
theorem Dj{D:Tm→Prop}{f:Bd}{x y:Tm}(hf:∀p∈f,D p.1∧D p.2) (hx:D x) (hy:D y):∀p∈f++[(x,y)],D p.1∧D p.2:=List.forall_mem_append.mpr ⟨hf,List.forall_mem_singleton.mpr ⟨hx,hy⟩⟩
theorem So{D:Tm→Prop}(hD:∀t,D t→∀a∈t.kids,D a){n:Nat}{f f':Bd}{a b:Tm}{r:Bool}(h:B9 n f a b=some (r,f')) (hf:∀p∈f,D p.1∧D p.2) (ha:D a) (hb:D b):∀p∈f',D p.1∧D p.2 :=
 Ey (I:=λf=>∀p∈f,D p.1∧D p.2) hD (λf h p hp=>(h p hp).2) (λf x y h dx dy _=>Dj h dx dy) h hf ha hb
theorem Yx(N:g0 c){f f':Bd}{a:Addr}{r:Bool}(u:Vr K T d st f a Z){x y:Tm}(hx:x∈T) (hy:y∈T) (hl:e9 f x=none) (h:Dh f x y=some (r,f')){tl:List (Option V)}{xs:List S}{Q:V→a5→Prop}{E:a5→Prop}
  (q:∀a6,Vr K T d st f' a a6→d8 (·=a) Z a6→Q (.bool r) a6) :
  l6 c (n+73) (.J5 (.loc 3) (.loc 1) (.loc 2)::.ret (.not (.call (.con (.fix (.ref 424))) [(.loc 0),(.loc 1),(.loc 2),(.loc 3)]))::xs) (gl (some (.ref d)::some (vi (T.idxOf x))::some (vi (T.idxOf y))::some (.ref a)::tl)) Z (s9 Q) E:=by
 have hall:∀p∈f',p.1∈T∧p.2∈T:=Di h ▸ Dj u.all hx hy
 unfold Dh at h
 split at h
 ·rename_i hlen
  split at h
  ·rename_i o ho
   cases h
   refine D4 ?_
   refine u.fd.Pe (v:=y) v5 (λp hp=>(u.all p hp).1) (Nat.le_trans hlen (by decide)) hx λb0 e1 n1=>?_
   rw[show R0 f x y=f++[(x,y)] by unfold R0; rw[hl]; rfl] at e1
   have s1:d8 (·=a) Z b0:=d8.of n1 rfl
   have u1:=u.next s1 e1 hall
   refine f7 ?_
   refine Ju N hall hx u1.kt u1.yd u1.fd ho hy λj0 s2=>?_
   have s2':d8 (·=a) b0 j0:=s2.mono λ_ h=>h.elim
   exact q j0 (u1.next s2' (s2 _ _ id e1) hall) (s1.trans s2')
  ·cases h
 ·cases h
end
section
variable {c:Cx}{n:Nat}{Z:a5}{K:H1}{T:List Tm}{d st:Addr}
noncomputable def Yy(c:Cx) (K:H1) (T:List Tm) (d st a:Addr) (k:Nat) (g:Bd→Tm→Tm→Option (Bool×Bd)):Prop :=
 ∀{n:Nat}{f f':Bd}{x y:Tm}{r:Bool}{Z:a5}{Q:V→a5→Prop}{E:a5→Prop},Vr K T d st f a Z→g f x y=some (r,f')→x∈T→y∈T →
  (∀a6,Vr K T d st f' a a6→d8 (·=a) Z a6→Q (.bool r) a6)→i3 c (n+k+80) (.fix (.ref 412)) [.ref d,vi (T.idxOf x),vi (T.idxOf y),.ref a] Z Q E
theorem gG{l:List Tm}{i:Nat}(h:i < l.length) (hz:l.length≤2){R:V→Prop}(q:R (vi (T.idxOf l[i]))):Ei (.tup (l.map λt=>vi (T.idxOf t))) (vi i) Z R :=
 ⟨Nat.lt_of_lt_of_le h (Nat.le_trans hz (by decide)),(get_map (List.getElem?_eq_getElem h)).symm ▸ q⟩
theorem Vs(N:g0 c){a:Addr}{k:Nat}{g':Bd→Tm→Tm→Option (Bool×Bd)}(G:Yy c K T d st a k g'){as bs:List Tm}(hlen:as.length=bs.length) (hz:as.length≤2) (ha:∀t∈as,t∈T) (hb:∀t∈bs,t∈T){f f':Bd}{r:Bool}(u:Vr K T d st f a Z) (hu:D7 g' f as bs=some (r,f')){x1 x2 x4 x5 x8:Option V}{tl:List (Option V)}
  {Q:V→a5→Prop}{E:a5→Prop}
  (q:∀a6,Vr K T d st f' a a6→d8 (·=a) Z a6→Q (.bool r) a6):l6 c (n+k+80) (v0.drop 11) (gl (some (.ref d)::x1::x2::some (.ref a)::x4::x5::some (.tup (as.map λt=>vi (T.idxOf t)))::some (.tup (bs.map λt=>vi (T.idxOf t)))::x8::tl)) Z (s9 Q) E:=by
 refine A2 ?_
 have hl:∀{l:List Tm},l.length≤2→(l.map λt=>vi (T.idxOf t)).length≤1000000:=λh=>by rw[List.length_map]; exact small h
 refine w8 (hl hz) ?_
 refine H9 ?_
 rw[List.length_map]
 refine Q9 (γ:=Option V×Bd) (λg=>some (.ref d)::x1::x2::some (.ref a)::x4::x5::some (.tup (as.map λt=>vi (T.idxOf t)))::some (.tup (bs.map λt=>vi (T.idxOf t)))::g.1::tl) (λi g a6=>d8 (·=a) Z a6∧Vr K T d st g.2 a a6∧D7 g' g.2 (as.drop i) (bs.drop i)=some (r,f')) (x8,f) (small hz) ⟨.refl _ _,u,hu⟩ (λi g a6 R hka hI hn hret=>?_) λg a6 hI=>?_
 ·have hkb:=Nat.lt_of_lt_of_eq hka hlen
  have hu:=hI.2.2
  rw[List.drop_eq_getElem_cons hka,List.drop_eq_getElem_cons hkb] at hu
  refine f9 ?_
  refine gG (Z:=a6) hka hz ?_
  refine gG (Z:=a6) hkb (hlen ▸ hz) ?_
  refine Gk hu (λf1 h1 hu=>?_) λh1 er=>?_
  ·exact G hI.2.1 h1 (ha _ (List.getElem_mem hka)) (hb _ (List.getElem_mem hkb)) λj0 rU j2=>S4 (hn (_,f1) _ ⟨hI.1.trans j2,rU,hu⟩).1
  ·exact G hI.2.1 h1 (ha _ (List.getElem_mem hka)) (hb _ (List.getElem_mem hkb)) λj0 rU j2=>T7 (hret _ _ _ (er ▸ q _ rU (hI.1.trans j2)))
 ·have hu:=hI.2.2
  rw[List.drop_length] at hu
  obtain⟨rfl,rfl⟩:=Prod.mk.inj (Option.some.inj hu)
  exact f7 (q a6 hI.2.1 hI.1)
theorem gH(N:g0 c){a:Addr}{k:Nat}{g:Bd→Tm→Tm→Option (Bool×Bd)}(G:Yy c K T d st a k g){f f':Bd}{r:Bool}(u:Vr K T d st f a Z){x y:Tm}(hx:x∈T) (hy:y∈T) (hu:Jv g f x y=some (r,f')){x4 x5 x6 x7 x8:Option V}{tl:List (Option V)}{Q:V→a5→Prop}{E:a5→Prop}
  (q:∀a6,Vr K T d st f' a a6→d8 (·=a) Z a6→Q (.bool r) a6):l6 c (n+k+80) (v0.drop 5) (gl (some (.ref d)::some (vi (T.idxOf x))::some (vi (T.idxOf y))::some (.ref a)::x4::x5::x6::x7::x8::tl)) Z (s9 Q) E:=by
 have tC:=u.kt.tab.ok x hx
 have ok2:=u.kt.tab.ok y hy
 have l1:=l0 x
 have l2:=l0 y
 have hl:∀{l:List Tm},l.length≤2→(l.map λt=>vi (T.idxOf t)).length≤1000000:=λh=>by rw[List.length_map]; exact small h
 unfold Jv at hu
 have yM:((x.hd.sort≠y.hd.sort∨x.hd.k8≠y.hd.k8)∨(x.kids=[]∨x.kids.length≠y.kids.length))→∀{xs:List S}{l:List (Option V)},l6 c (n+k+80) (.ret (.con (.bool false))::xs) (gl l) Z (s9 Q) E:=λh {xs l}=>by
  by_cases h1:x.hd.sort≠y.hd.sort∨x.hd.k8≠y.hd.k8
  ·rw[if_pos h1] at hu; cases hu; exact f7 (q Z u (.refl _ _))
  ·rw[if_neg h1,if_pos (h.resolve_left h1)] at hu; cases hu; exact f7 (q Z u (.refl _ _))
 refine f6 ?_
 refine u.yd.kt N ?_
 refine u.kt.Sl N hx (f6 ?_)
 refine u.yd.kt N ?_
 refine u.kt.Sl N hy (f9 ?_)
 refine Jq ?_
 refine Jq ?_
 refine lT (λe=>T7 (yM (.inl (.inl λh=>e (h ▸ rfl))))) λe=>?_
 refine u.yd.kt N ?_
 refine Yt N u.kt hx ?_
 refine u.yd.kt N ?_
 refine Yt N u.kt hy ?_
 refine lT (λe=>T7 (yM (.inl (.inr λh=>e (h ▸ rfl))))) λe2=>S4 (f6 ?_)
 refine Y9 N tC (f6 ?_)
 refine Y9 N ok2 (f9 ?_)
 refine⟨hl l1,?_⟩
 cases hk:x.kids with
 | nil=>exact T7 (T7 (yM (.inr (.inl hk))))
 | cons z zs =>
  rw[←hk]
  refine T4 (by rw[hk]; simp) ?_
  refine w8 (hl l1) ?_
  refine w8 (hl l2) ?_
  rw[List.length_map,List.length_map]
  refine lT (λe=>T7 (yM (.inr (.inr λh=>e (h ▸ rfl))))) λe3=>S4 ?_
  rw[if_neg (not_or.mpr ⟨λh=>h (Int.ofNat.inj e),λh=>h (Int.ofNat.inj e2)⟩),if_neg (not_or.mpr ⟨λh=>List.cons_ne_nil z zs (hk.symm.trans h),λh=>h (Int.ofNat.inj e3)⟩)] at hu
  exact Vs N G (Int.ofNat.inj e3) l1 (u.kt.tab.kids x hx) (u.kt.tab.kids y hy) u hu q
theorem Yz(N:g0 c){a:Addr}:∀m:Nat,Yy c K T d st a m (B9 m)
 | 0=>by intro u h; cases h
 | m+1=>by
  rename_i n f f' x y r Z Q E
  intro u h hx hy q
  refine(?_:i3 c (n+m+80+1) _ _ _ _ _)
  have ih:Yy c K T d st a m (B9 m):=Yz N (a:=a) m
  unfold B9 at h
  split at h
  ·rename_i x' y' hwx hwy
   have hx':x'∈T:=D6 (D:=(·∈T)) (λp hp=>(u.all p hp).2) hx hwx
   have hy':y'∈T:=D6 (D:=(·∈T)) (λp hp=>(u.all p hp).2) hy hwy
   refine N.fn N.C.decl_may_be_one rfl (f6 ?_)
   refine Yu N u.fd u.all hwx hx (f6 ?_)
   refine Yu N u.fd u.all hwy hy (f9 ?_)
   refine Yv hx' hy' (λe=>?_) λe=>?_
   ·rw[if_pos e] at h
    cases h
    exact f7 (q Z u (.refl _ _))
   rw[if_neg e] at h
   refine f9 ?_
   refine u.yd.kt N ?_
   refine Hp N u.kt hy' (bH (λe=>rM (f9 ?_)) λe=>f9 ?_)
   ·rw[if_pos e] at h
    refine u.yd.kt N ?_
    refine Hp N u.kt hy' (rL e ?_)
    exact Yx N u hy' hx' (k9 hwy) h q
   ·rw[if_neg (Bool.eq_false_iff.mp e)] at h
    refine u.yd.kt N ?_
    refine Hp N u.kt hx' (bH (λe=>?_) λe=>?_)
    ·rw[if_pos e] at h
     exact Yx N u hx' hy' (k9 hwx) h q
    ·rw[if_neg (Bool.eq_false_iff.mp e)] at h
     exact gH N ih u hx' hy' h q
  ·cases h
end
noncomputable def Tm.sub(s:List Tm):Tm→Tm
 | .leaf (.var i)=>s[i]?.getD (.leaf (.var i))
 | .leaf h=>.leaf h
 | .un h a=>.un h (a.sub s)
 | .bin h a b=>.bin h (a.sub s) (b.sub s)
noncomputable def Fits(t:Tm):Prop:=t.depth≤24∧t.weight≤4096
theorem D8{s:List Tm}:∀{t:Tm},t.open_=false→t.sub s=t
 | .leaf h,e=>by cases h<;>first | exact Lc e | rfl
 | .un h a,e=>congrArg (Tm.un h) (D8 (t:=a) e)
 | .bin h a b,e=>by
  obtain⟨h1,h2⟩:=Bool.or_eq_false_iff.mp e
  exact(congrArg (Tm.bin h · _) (D8 h1)).trans (congrArg (Tm.bin h a) (D8 h2))
theorem gJ{s:List Tm}{t:Tm}(h:t.hd.isVar=false):(t.sub s).hd=t.hd:=by
 rcases t with h' | ⟨h',a⟩ | ⟨h',a,b⟩
 ·cases h'<;>first | exact Lc h | rfl
 ·rfl
 ·rfl
theorem Bi{s:List Tm}{t:Tm}(h:t.hd.isVar=false):(t.sub s).kids=t.kids.map (Tm.sub s):=by
 rcases t with h' | ⟨h',a⟩ | ⟨h',a,b⟩
 ·cases h'<;>first | exact Lc h | rfl
 ·rfl
 ·rfl
theorem Dk{s:List Tm}(hs:∀a∈s,a.ok=true∧a.stands=true):∀{t:Tm},t.ok=true→(t.sub s).ok=true∧(t.stands=true→(t.sub s).stands=true)
 | .leaf h,ht=>by
  cases h with
  | var i =>
   unfold Tm.sub
   cases e:s[i]? with
   | none=>exact⟨rfl,λ_=>rfl⟩
   | some a=>exact⟨(hs a (List.mem_of_getElem? e)).1,λ_=>(hs a (List.mem_of_getElem? e)).2⟩
  | _=>exact⟨ht,id⟩
 | .un h a,ht=>an ht λht h3=>an ht λh1 h2=>have i:=Dk hs h2; ⟨Bool.and_eq_true_iff.mpr ⟨Bool.and_eq_true_iff.mpr ⟨h1,i.1⟩,i.2 h3⟩,id⟩
 | .bin h a b,ht=>an ht λht h5=>an ht λht h4=>an ht λht h3=>an ht λh1 h2 =>
  have i:=Dk hs h2
  have j:=Dk hs h3
  ⟨Bool.and_eq_true_iff.mpr ⟨Bool.and_eq_true_iff.mpr ⟨Bool.and_eq_true_iff.mpr ⟨Bool.and_eq_true_iff.mpr ⟨h1,i.1⟩,j.1⟩,i.2 h4⟩,j.2 h5⟩,id⟩
theorem rV{a b c:Nat}(h:max a b≤c):b≤c:=Nat.le_trans (Nat.le_max_right ..) h
theorem a1d{a b c:Nat}(h:max a b≤c):a≤c:=Nat.le_trans (Nat.le_max_left ..) h
theorem add_l{a b c:Nat}(h:a+b≤c):a≤c:=Nat.le_trans (Nat.le_add_right ..) h
theorem add_r{a b c:Nat}(h:a+b≤c):b≤c:=Nat.le_trans (Nat.le_add_left ..) h
theorem Sp{t a:Tm}(h:Fits t) (ha:a∈t.kids):Fits a:=by
 cases t with
 | leaf h'=>exact(List.not_mem_nil ha).elim
 | un h' x=>exact(show a=x from List.mem_singleton.mp ha) ▸ ⟨add_l (rV h.1),add_r h.2⟩
 | bin h' x y=>exact(List.mem_cons.mp (show a∈[x,y] from ha)).elim (λe=>e ▸ ⟨add_l (rV (a1d h.1)),add_r (add_l h.2)⟩) λq=>(List.mem_singleton.mp q) ▸ ⟨add_l (rV h.1),add_r h.2⟩
theorem Vt(t:Tm):1≤t.weight:=by
 cases t with
 | leaf h=>exact Nat.le_refl 1
 | un h a=>exact Nat.le_add_right 1 _
 | bin h a b=>exact Nat.le_trans (Nat.le_add_right 1 _) (Nat.le_add_right ..)
theorem X0(t:Tm):(t.kids.map Tm.weight).sum+1=t.weight:=by
 cases t with
 | leaf h=>rfl
 | un h a=>exact Nat.add_comm a.weight 1
 | bin h a b=>exact((Nat.add_right_comm a.weight b.weight 1).trans (congrArg (·+b.weight) (Nat.add_comm a.weight 1)))
section
variable {c:Cx}{n:Nat}{Z:a5}{K:H1}{T:List Tm}{Q:V→a5→Prop}{E:a5→Prop}
theorem gK(N:g0 c){s:List Tm}{f:Tm→Nat}{i:Nat}{k:V}(hz:s.length≤1000) (q:Q ((s[i]?.map λt=>vi (f t)).getD k) Z):i3 c (n+1) (.fix (.ref 265)) [.tup (s.map λt=>vi (f t)),vi i,k] Z Q E:=by
 refine N.fn N.C.pick_arg rfl (f9 ?_)
 refine w8 (by rw[List.length_map]; exact Nat.le_trans hz (by decide)) ?_
 rw[List.length_map]
 refine K6 (λe=>f7 ?_) λe=>f7 ?_
 ·have hi:=Int.ofNat_lt.mp e
  rw[List.getElem?_eq_getElem hi] at q
  exact⟨Nat.lt_of_lt_of_le hi (Nat.le_trans hz (by decide)),(get_map (List.getElem?_eq_getElem hi)).symm ▸ q⟩
 ·rw[List.getElem?_eq_none (Nat.not_lt.mp λh=>e (Int.ofNat_lt.mpr h))] at q
  exact q
theorem gL(N:g0 c) (h:i5 K T Z){t u:Tm}{f:Tm→Nat}(ht:t.ok=true) (hu:u.ok=true) (e:u.hd=t.hd) (hp:t.kids≠[]) (hk:∀a∈u.kids,a∈T) (hz:T.length < 100000) (q:cR K T u 1 Z Q E) :
  i3 c (n+7) (.fix (.ref 251)) [.ref K.a,t.row f,.tup (u.kids.map λa=>vi (T.idxOf a))] Z Q E:=by
 have Hb:=λhs1=>h.Sk (n:=n) N hu hs1 hk hz q
 have fu:=M9 hu
 unfold Tm.row at Hb ⊢
 rw[e] at fu Hb
 refine shape (M9 ht) (P:=λhd k=>k≠[]→hd.fit u.kids.length=true→(hd.sort≠1→∃fv,Ab c (.ref K.a) (Str.ofString "put") Z fv∧i3 c (n+6) fv [.ref K.a,hd.mk (u.kids.map λa=>vi (T.idxOf a))] Z Q E)→i3 c (n+7) (.fix (.ref 251)) [.ref K.a,hd.mk (k.map λa=>vi (f a)),.tup (u.kids.map λa=>vi (T.idxOf a))] Z Q E)
  (λj hp=>absurd rfl hp) (λj hp=>absurd rfl hp) (λj hp=>absurd rfl hp) (λtid l _ _=>⟨λhp fu Hb=>?_,λhp fu Hb=>?_⟩) (λa=>⟨λhp fu Hb=>?_,λhp fu Hb=>?_,λhp fu Hb=>?_⟩) hp fu Hb
 all_goals
  obtain⟨fv,hm,hc⟩:=Hb (Nat.ne_of_beq_eq_false rfl)
  refine N.fn N.C.with_inner rfl (f6 ⟨by decide,?_⟩)
 any_goals exact Bh [2,3] rfl rfl (f7 ⟨fv,hm,by decide,hc⟩)
 all_goals
  obtain⟨b,hb⟩:∃b,u.kids=[b]:=match u.kids,fu with | [b],_=>⟨b,rfl⟩
  rw[hb] at hc ⊢
  exact W5 [2,3] rfl rfl (f9 (T4 rfl (f9 (T4 rfl (f7 ⟨fv,hm,by decide,hc⟩)))))
end
section
variable {c:Cx}{n:Nat}{Z:a5}{K:H1}{T:List Tm}{Q:V→a5→Prop}{E:a5→Prop}
theorem O1{T T':List Tm}{m:Nat}(g:Gr T T' m){l:List Tm}(h:∀x∈l,x∈T):(l.map λt=>vi (T'.idxOf t))=l.map λt=>vi (T.idxOf t) :=
 List.map_congr_left λx hx=>by rw[g.idx (h x hx)]
theorem J3.grow{T T':List Tm}{m:Nat}(g:Gr T T' m){f:Bd}{a:Addr}(hf:∀p∈f,p.1∈T∧p.2∈T) (h:J3 (λt=>vi (T.idxOf t)) (λt=>vi (T.idxOf t)) f a Z):J3 (λt=>vi (T'.idxOf t)) (λt=>vi (T'.idxOf t)) f a Z:=by
 exact h.trans (congrArg (λx=>some (j8.dict x)) (List.map_congr_left λp hp=>congr (congrArg Prod.mk (congrArg vi (g.idx (hf p hp).1).symm)) (congrArg vi (g.idx (hf p hp).2).symm)))
structure Kz(K:H1) (T:List Tm) (s:List Tm) (f:Bd) (a:Addr) (Z:a5):Prop where
 kt:i5 K T Z
 fd:J3 (λt=>vi (T.idxOf t)) (λt=>vi (T.idxOf t)) f a Z
 ne:a≠K.i
 all:∀p∈f,(p.1∈T∧p.2∈T)∧p.2=p.1.sub s
 keys:(f.map (·.1)).Nodup
theorem Vu{f:Bd}{k:Tm}(h:e9 f k=none):k∉f.map (·.1):=λhm=>(List.mem_map.mp hm).elim λp hp=>List.find?_eq_none.mp (Option.map_eq_none_iff.mp h) p hp.1 (decide_eq_true hp.2)
theorem Jx{k v:Tm}(p:Tm×Tm):(if p.1=k then (p.1,v) else p).1=p.1:=(apply_ite Prod.fst (p.1=k) (p.1,v) p).trans (ite_self _)
theorem Mq{f:Bd}{k v:Tm}(h:(f.map (·.1)).Nodup):((R0 f k v).map (·.1)).Nodup:=by
 unfold R0
 by_cases e:(e9 f k).isSome=true
 ·rw[if_pos e,List.map_map]
  exact(List.map_congr_left λp _=>Jx p:f.map ((·.1) ∘ λp=>if p.1=k then (p.1,v) else p)=f.map (·.1)) ▸ h
 ·rw[if_neg e,List.map_append,List.nodup_append]
  exact⟨h,List.pairwise_singleton ..,λa ha b hb q=>Vu (Option.not_isSome_iff_eq_none.mp e) ((show b=k from List.mem_singleton.mp hb) ▸ q ▸ ha)⟩
theorem Kz.few{s:List Tm}{f:Bd}{a:Addr}(u:Kz K T s f a Z):f.length≤T.length :=
 (List.length_map (·.1) (as:=f)) ▸ u.keys.length_le_of_subset λx hx=>(List.mem_map.mp hx).elim λp hp=>hp.2 ▸ (u.all p hp.1).1.1
theorem Kz.Lj{s:List Tm}{f:Bd}{a:Addr}(u:Kz K T s f a Z):¬K.F a:=u.kt.Yw u.fd u.ne
noncomputable def CF(K:H1) (a b:Addr):Prop:=K.F b∨b=a
noncomputable def gM(c:Cx) (K:H1) (s:List Tm) (a:Addr) (t:Tm) (m:Nat):Prop :=
 ∀{T:List Tm}{f:Bd}{Z:a5}{n:Nat}{Q:V→a5→Prop}{E:a5→Prop},Kz K T s f a Z→t∈T→(∀x∈s,x∈T∧x.stands=true)→T.length+t.weight < 100000 →
  (Fits (t.sub s)→∀T' f' a6,Gr T T' t.weight→Kz K T' s f' a a6→t.sub s∈T'→d8 (CF K a) Z a6→Q (vi (T'.idxOf (t.sub s))) a6) →
  (¬Fits (t.sub s)→∀T' f' a6,Gr T T' t.weight→Kz K T' s f' a a6→d8 (CF K a) Z a6→E a6) →
  i3 c (n+m+12) (.fix (.ref 244)) [.ref K.a,vi (T.idxOf t),.tup (s.map λt=>vi (T.idxOf t)),.tup [],.ref a] Z Q E
theorem Pf{f:Bd}{k v:Tm}{P:Tm×Tm→Prop}(hf:∀p∈f,P p) (hk:P (k,v)):∀p∈R0 f k v,P p:=by
 unfold R0
 by_cases e:(e9 f k).isSome=true
 ·rw[if_pos e]
  refine List.forall_mem_map.mpr λq hq=>?_
  by_cases e:q.1=k
  ·rw[if_pos e]; exact e.symm ▸ hk
  ·rw[if_neg e]; exact hf q hq
 ·rw[if_neg e]; exact List.forall_mem_append.mpr ⟨hf,List.forall_mem_singleton.mpr hk⟩
theorem Mr{f:Bd}{k v:Tm}:e9 (R0 f k v) k=some v:=by
 unfold R0
 cases h:f.find? λp=>decide (p.1=k) with
 | none =>
  rw[if_neg (by unfold e9; rw[h]; exact Bool.false_ne_true)]
  unfold e9
  rw[List.find?_append,h,Option.none_or,List.find?_cons_of_pos (by exact decide_eq_true rfl)]; rfl
 | some q =>
  rw[if_pos (by unfold e9; rw[h]; rfl)]
  unfold e9
  rw[List.find?_map,show((λp:Tm×Tm=>decide (p.1=k)) ∘ λp=>if p.1=k then (p.1,v) else p)=λp=>decide (p.1=k) from funext λp=>congrArg (λx=>decide (x=k)) (Jx p),h,Option.map_some,Option.map_some,if_pos (of_decide_eq_true (List.find?_some (p:=λp:Tm×Tm=>decide (p.1=k)) h))]
theorem Kz.wC{s:List Tm}{f:Bd}{a:Addr}(u:Kz K T s f a Z){t:Tm}(ht:t∈T){R:V→Prop}(q:R (t.row (T.idxOf ·))):Ei (.ref K.r) (vi (T.idxOf t)) Z R:=A1 u.kt.rows (Pc u.kt ht) (get_map (D5 ht)) q
theorem Kz.move{s:List Tm}{f:Bd}{a:Addr}(u:Kz K T s f a Z){F:Addr→Prop}{a6:a5}(h:d8 F Z a6) (hF:∀b,F b→¬CF K a b) (hp:Plain F Z):Kz K T s f a a6 :=
 ⟨u.kt.keep h (λb hb hk=>hF b hb (.inl hk)) hp,h _ _ (λhb=>hF a hb (.inr rfl)) u.fd,u.ne,u.all,u.keys⟩
theorem Jy{t:Tm}{dk lk:List Tm}{y:Tm}(ek:t.kids=dk++y::lk):(dk.map Tm.weight).sum+y.weight < t.weight:=by
 have h:=X0 t
 rw[ek,List.map_append,List.sum_append,List.map_cons,List.sum_cons,←Nat.add_assoc] at h
 exact h ▸ Nat.lt_succ_of_le (Nat.le_add_right ..)
theorem w9{f:V}{vs vs':List V}(e:vs=vs') (h:i3 c n f vs Z Q E):i3 c n f vs' Z Q E:=e ▸ h
theorem Sq{t:Tm}{d r:List Tm}(e:t.kids=d++r):d.length≤100000:=Nat.le_trans (List.sublist_append_left d r).length_le (Nat.le_trans (e ▸ l0 t) (by decide))
theorem Vv(N:g0 c){s:List Tm}{a li:Addr}{t:Tm}{m:Nat}(ih:∀x∈t.kids,gM c K s a x m) (hs:∀x∈s,x∈T∧x.stands=true){f:Bd}(u:Kz K T s f a Z) (ht:t∈T) (hk0:t.kids≠[]) (hv:t.hd.isVar=false) (hz:T.length+t.weight < 100000)
  {d0:a5}(wD:d0 li=none) (hex:∀b,CF K a b→∃o,d0 b=some o) (hli:Z li=some (.list [])) (s0:d8 (CF K a) d0 Z){x7:Option V}{tl:List (Option V)}
  (q1:Fits (t.sub s)→∀T' f' a6,Gr T T' t.weight→Kz K T' s f' a a6→t.sub s∈T'→d8 (CF K a) d0 a6→Q (vi (T'.idxOf (t.sub s))) a6)
  (q2:¬Fits (t.sub s)→∀T' f' a6,Gr T T' t.weight→Kz K T' s f' a a6→d8 (CF K a) d0 a6→E a6) :
  l6 c (n+m+12) (W1.drop 6) (gl (some (.ref K.a)::some (vi (T.idxOf t))::some (.tup (s.map λt=>vi (T.idxOf t)))::some (.tup [])::some (.ref a)::some (t.row (T.idxOf ·))::some (.ref li)::x7::tl)) Z (s9 Q) E:=by
 have hok:=u.kt.tab.ok t ht
 have hlF:¬CF K a li:=λh=>(hex _ h).elim λo e=>nomatch wD.symm.trans e
 refine A2 ?_
 refine Y9 N hok ?_
 refine z8 (iv:=.tup (t.kids.map λa=>vi (T.idxOf a))) (λa=>vi (T.idxOf a)) t.kids (γ:=Option V×List Tm×Bd) (λg=>some (.ref K.a)::some (vi (T.idxOf t))::some (.tup (s.map λt=>vi (T.idxOf t)))::some (.tup [])::some (.ref a)::some (t.row (T.idxOf ·))::some (.ref li)::g.1::tl)
  (λdk g a6=>Gr T g.2.1 (dk.map Tm.weight).sum∧Kz K g.2.1 s g.2.2 a a6∧d8 (CF K a) d0 a6∧(∀x∈dk,x.sub s∈g.2.1)∧a6 li=some (.list (dk.map λx=>vi (g.2.1.idxOf (x.sub s))))) (x7,T,f) (small (l0 t)) (λ_ _ _ _=>rfl) ⟨.refl _ _,u,s0,nofun,hli⟩ (λdk y lk g a6 R ek hI hn _=>?_) λg a6 hI=>?_
 ·have hy:y∈t.kids:=G7 ek
  have hyT:y∈T:=u.kt.tab.kids t ht y hy
  have hw:=Jy ek
  have g1:=hI.1
  have hg:=g1.2
  refine n8 ⟨_,.append hI.2.2.2.2,?_⟩
  refine w9 (by rw[←g1.idx hyT,←O1 g1 λx hx=>(hs x hx).1]) ?_
  refine ih y hy hI.2.1 (g1.mem hyT) (λx hx=>⟨g1.mem (hs x hx).1,(hs x hx).2⟩) (by omega) (λ_ T2 f2 C2 g2 u2 hm2 s2=>?_) (λhb T2 f2 C2 g2 u2 s2=>?_)
  ·have hl2:=s2 _ _ hlF hI.2.2.2.2
   have s3:d8 (·=li) C2 _:=d8.of (λb (hb:b≠li)=>i8 (Z:=C2) (o:=.list ((dk.map λx=>vi (g.2.1.idxOf (x.sub s)))++[vi (T2.idxOf (y.sub s))])) hb) rfl
   refine o6 hl2 (De (Sq ek)) ?_
   refine(hn (some (vi (T.idxOf y)),T2,f2) _ ⟨?_,u2.move s3 (λb hb=>hb ▸ hlF) λb hb=>.inl ⟨_,hb ▸ hl2⟩,?_,?_,?_⟩).1
   ·rw[List.map_append,List.sum_append]; exact g1.trans g2
   ·exact λb o hb e=>s3 b o (λh=>g9 (j3 (show d0 li=some o from h ▸ e)) wD) ((hI.2.2.1.trans s2) b o hb e)
   ·exact List.forall_mem_append.mpr ⟨λx hx=>g2.mem (hI.2.2.2.1 x hx),List.forall_mem_singleton.mpr hm2⟩
   ·rw[a7,List.map_append]
    exact congrArg (λx=>some (j8.list (x++[vi (T2.idxOf (y.sub s))]))) (List.map_congr_left λx hx=>by rw[g2.idx (hI.2.2.2.1 x hx)])
  ·have a1e:y.sub s∈(t.sub s).kids:=by rw[Bi hv]; exact List.mem_map_of_mem hy
   exact q2 (λhF=>hb (Sp hF a1e)) T2 f2 C2 ((g1.trans g2).mono (Nat.le_of_lt hw)) u2 (hI.2.2.1.trans s2)
 ·have g1:=hI.1
  have u1:=hI.2.1
  have hw:=X0 t
  have hg:=g1.2
  have hsub:=Dk (s:=s) (λx hx=>⟨u.kt.tab.ok x (hs x hx).1,(hs x hx).2⟩) hok
  have hkm:∀x∈(t.sub s).kids,x∈g.2.1:=by rw[Bi hv]; exact List.forall_mem_map.mpr hI.2.2.2.1
  refine D4 ?_
  refine Cm hI.2.2.2.2 (De (Nat.le_trans (l0 t) (by decide))) ?_
  rw[show(t.kids.map λx=>vi (g.2.1.idxOf (x.sub s)))=(t.sub s).kids.map λx=>vi (g.2.1.idxOf x) by rw[Bi hv,List.map_map]; rfl]
  refine gL N u1.kt hok hsub.1 (gJ hv) hk0 hkm (by omega) ⟨λhF T2 C2 g2 k2 s2 hm2=>?_,λhF=>?_⟩
  ·have hgr:Gr T T2 t.weight:=(g1.trans g2).mono (Nat.le_of_eq hw)
   have hd2:J3 (λt=>vi (T2.idxOf t)) (λt=>vi (T2.idxOf t)) g.2.2 a C2:=J3.grow g2 (λp hp=>(u1.all p hp).1) (s2 _ _ u1.Lj u1.fd)
   have hall:∀p∈g.2.2,(p.1∈T2∧p.2∈T2)∧p.2=p.1.sub s:=λp hp=>⟨⟨g2.mem (u1.all p hp).1.1,g2.mem (u1.all p hp).1.2⟩,(u1.all p hp).2⟩
   have htT:t∈T2:=hgr.mem ht
   rw[←hgr.idx ht]
   refine hd2.Pe (k:=t) (v:=t.sub s) v5 (λp hp=>(hall p hp).1.1) (Nat.le_trans u1.few (Nat.le_trans u1.kt.size (by decide))) htT λW8 e3 n3=>?_
   have s3:d8 (·=a) C2 W8:=d8.of n3 rfl
   have pI:=Pf (f:=g.2.2) (k:=t) (v:=t.sub s) (P:=λp=>(p.1∈T2∧p.2∈T2)∧p.2=p.1.sub s) hall ⟨⟨htT,hm2⟩,rfl⟩
   refine f7 (e3.sub v5 (λp hp=>(pI p hp).1.1) htT Mr ?_)
   exact q1 hF T2 _ W8 hgr ⟨k2.keep s3 (λb hb hF=>k2.Yw hd2 u1.ne (hb ▸ hF)) λb hb=>.inr ⟨_,hb ▸ hd2⟩,e3,u1.ne,pI,Mq u1.keys⟩ hm2 ((hI.2.2.1.trans (s2.mono λb hb=>.inl hb)).trans (s3.mono λb hb=>.inr hb))
  ·exact q2 (λhF'=>hF.elim (Nat.not_lt.mpr hF'.1) (Nat.not_lt.mpr hF'.2)) g.2.1 g.2.2 a6 (g1.mono (by omega)) u1 hI.2.2.1
theorem Kz.same{s:List Tm}{f:Bd}{a:Addr}(u:Kz K T s f a Z){a6:a5}(h:d8 (λ_=>False) Z a6):Kz K T s f a a6 :=
 ⟨u.kt.same h,h _ _ id u.fd,u.ne,u.all,u.keys⟩
theorem Kz.some{s:List Tm}{f:Bd}{a:Addr}(u:Kz K T s f a Z):∀b,CF K a b→∃o,Z b=.some o
 | _,.inl (.inl e)=>e ▸ ⟨_,u.kt.rows⟩
 | _,.inl (.inr (.inl e))=>e ▸ ⟨_,u.kt.index⟩
 | _,.inl (.inr (.inr (.inl e)))=>e ▸ ⟨_,u.kt.depths⟩
 | _,.inl (.inr (.inr (.inr (.inl e))))=>e ▸ ⟨_,u.kt.weights⟩
 | _,.inl (.inr (.inr (.inr (.inr e))))=>e ▸ ⟨_,u.kt.opens⟩
 | _,.inr e=>e ▸ ⟨_,u.fd⟩
theorem Vw{t:Tm}(h:t.ok=true) (ho:t.open_=true):(∃i,t=.leaf (.var i))∨(∃i,t=.leaf (.mvar i))∨(t.hd.isVar=false∧t.kids≠[]):=by
 have hf:=M9 h
 rcases t with h' | ⟨h',a⟩ | ⟨h',a,b⟩<;>cases h'<;>first | exact no ho | exact .inl ⟨_,rfl⟩ | exact .inr (.inl ⟨_,rfl⟩) | exact no hf | exact .inr (.inr ⟨rfl,List.cons_ne_nil _ _⟩)
theorem rW{t x:Tm}(h:x∈t.kids):x.weight < t.weight:=(List.append_of_mem h).elim λd e=>e.elim λl e=>Nat.lt_of_le_of_lt (Nat.le_add_left ..) (Jy e)
theorem Sr{h:Hd}(e:h.isVar=false):(h.sort:Int)≠6∧(h.sort:Int)≠7 :=
 have q:h.sort≠6∧h.sort≠7:=by cases h<;>first | exact Lc e | exact⟨Nat.ne_of_beq_eq_false rfl,Nat.ne_of_beq_eq_false rfl⟩
 ⟨λz=>q.1 (Int.ofNat.inj z),λz=>q.2 (Int.ofNat.inj z)⟩
theorem Za{Z:a5}{o:Bool}{A B:Prop}(h1:o=false→A) (h2:o=true→B):Uh c .Eq (bi o) (.int 0) Z λr=>U0 r A B:=by
 cases o
 ·exact T7 (h1 rfl)
 ·exact S4 (h2 rfl)
theorem Ms(N:g0 c){s:List Tm}{a:Addr}(hsz:s.length≤1000):∀(m:Nat) (t:Tm),t.weight≤m→gM c K s a t m
 | 0,t,hw=>absurd (Vt t) (by omega)
 | m+1,t,hw=>by
  rename_i T f Z n Q E
  intro u ht hs hz q1 q2
  refine(?_:i3 c (n+m+12+1) _ _ _ _ _)
  have hok:=u.kt.tab.ok t ht
  have hf1:∀p∈f,p.1∈T:=λp hp=>(u.all p hp).1.1
  have fin:t.sub s∈T→Q (vi (T.idxOf (t.sub s))) Z:=λhm=>q1 ⟨u.kt.tab.deep _ hm,u.kt.tab.heavy _ hm⟩ T f Z (.refl _ _) u hm (.refl _ _)
  refine N.fn N.C.close_in rfl (f9 ?_)
  refine u.kt.Ox N ?_
  refine Js u.kt ht (Za (c:=c) (Z:=Z) (λe=>f7 ?_) λho=>f9 ?_)
  ·rw[D8 e] at fin
   exact fin ht
  refine u.fd.isIn v5 hf1 ht ?_
  cases hl:e9 f t with
  | some v =>
   have hvm:=u.all _ (i7 hl)
   refine T7 (f7 (u.fd.sub v5 hf1 ht hl ?_))
   have e1:v=t.sub s:=hvm.2
   rw[e1]
   exact fin (e1 ▸ hvm.1.2)
  | none =>
  refine S4 (f6 ?_)
  refine u.kt.Jo N ?_
  refine u.wC ht ?_
  have oc:=Vw hok ho
  refine f9 ?_
  refine Jq ?_
  refine K6 (λe6=>?_) λe6=>f9 ?_
  ·obtain⟨i,rfl⟩:∃i,t=.leaf (.var i):=oc.resolve_right λq=>q.elim (λq=>q.elim λi q=>absurd ((congrArg (λt:Tm=>(t.hd.sort:Int)) q).symm.trans e6) (by decide:(7:Int)≠6)) λq=>(Sr q.1).1 e6
   refine f7 ⟨by decide,?_⟩
   refine gK N hsz ?_
   refine(Option.getD_map (λt=>vi (T.idxOf t)) (.leaf (.var i)) s[i]?).symm ▸ fin ?_
   refine(?_:s[i]?.getD (.leaf (.var i))∈T)
   cases e:s[i]? with
   | none=>exact ht
   | some v=>exact(hs v (List.mem_of_getElem? e)).1
  refine Jq ?_
  refine K6 (λe7=>?_) λe7=>f6 λr hr=>?_
  ·obtain⟨i,rfl⟩:∃i,t=.leaf (.mvar i):=(oc.resolve_left λq=>q.elim λi q=>e6 (congrArg (λt:Tm=>(t.hd.sort:Int)) q)).resolve_right λq=>(Sr q.1).2 e7
   refine f7 ⟨by decide,?_⟩
   exact gK N (s:=[]) (f:=(T.idxOf ·)) (Nat.zero_le _) (fin ht)
  ·have q:=(oc.resolve_left λq=>q.elim λi q=>e6 (congrArg (λt:Tm=>(t.hd.sort:Int)) q)).resolve_left λq=>q.elim λi q=>e7 (congrArg (λt:Tm=>(t.hd.sort:Int)) q)
   exact Vv N (λx hx=>Ms N hsz m x (Nat.le_of_lt_succ (Nat.lt_of_lt_of_le (rW hx) hw))) hs (u.same (d8.new hr)) ht q.2 q.1 hz hr u.some (a7 ..) (d8.new hr) q1 q2
theorem mD(N:g0 c){s:List Tm}(hsz:s.length≤1000) (h:i5 K T Z){t:Tm}(ht:t∈T) (hs:∀x∈s,x∈T∧x.stands=true) (hz:T.length+t.weight < 100000)
  (q1:Fits (t.sub s)→∀T' a6,Gr T T' t.weight→i5 K T' a6→t.sub s∈T'→d8 K.F Z a6→Q (vi (T'.idxOf (t.sub s))) a6)
  (q2:¬Fits (t.sub s)→∀T' a6,Gr T T' t.weight→i5 K T' a6→d8 K.F Z a6→E a6) :
  i3 c (n+t.weight+13) (.fix (.ref 237)) [.ref K.a,vi (T.idxOf t),.tup (s.map λt=>vi (T.idxOf t)),.tup []] Z Q E:=by
 refine N.fn (m:=n+t.weight+12) N.C.close rfl (n8 ?_)
 refine h.Sl N ht (f9 ?_)
 refine h.Ox N ?_
 refine Js h ht (Za (c:=c) (Z:=Z) (λe=>f7 ?_) λho=>f7 λr hr=>⟨a7 ..,.inl λk hk=>(List.not_mem_nil hk).elim,?_⟩)
 ·rw[D8 e] at q1
  exact q1 ⟨h.tab.deep _ ht,h.tab.heavy _ ht⟩ T Z (.refl _ _) h ht (.refl _ _)
 rw[show j1 (j1 Z r (.dict [])) r (.dict (G4 [] (z9 [])))=j1 Z r (.dict []) from C9]
 have s0:d8 (λ_=>False) Z (j1 Z r (.dict [])):=d8.new hr
 have u:Kz K T s [] r (j1 Z r (.dict [])):=⟨h.same s0,a7 ..,λe=>g9 (j3 h.index) (e ▸ hr),λp hp=>(List.not_mem_nil hp).elim,List.nodup_nil⟩
 have hst:∀{a6:a5},d8 (CF K r) (j1 Z r (.dict [])) a6→d8 K.F Z a6:=λs b o hb e=>s b o (λh=>h.elim hb λh=>g9 (j3 (show Z r=some o from h ▸ e)) hr) (s0 _ _ id e)
 exact Ms N hsz t.weight t (Nat.le_refl _) u ht hs hz (λhF T' f' a6 g u' hm s=>q1 hF T' a6 g u'.kt hm (hst s)) (λhF T' f' a6 g u' s=>q2 hF T' a6 g u'.kt (hst s))
end
structure C3 where
 o:Addr
 dx:Addr
 pa:Addr
 fa:Addr
 sort:Nat
 np:Nat
 l9:List Nat
structure J4 where
 o:Addr
 dx:Addr
 flags:Nat
 kind:Tm
inductive R1(Z:a5) (tid:Nat) (t:C3):Prop
 | mk {l:List (Str×V)}{pl:List V}(o:Z t.o=some (.inst 282 t.dx)) (ns:Z t.dx=some (.ns l)) (n1:l.lookup (Str.ofString "tid")=some (vi tid)) (n2:l.lookup (Str.ofString "sort")=some (vi t.sort)) (n3:l.lookup (Str.ofString "params")=some (.ref t.pa)) (n4:l.lookup (Str.ofString "fields")=some (.ref t.fa))
  (p:Z t.pa=some (.list pl)) (np:pl.length=t.np) (f:Z t.fa=some (.list (t.l9.map vi))) (few:t.l9.length≤1000∧t.np≤100)
inductive Dl(Z:a5) (T:List Tm) (f:J4):Prop
 | mk {l:List (Str×V)}(o:Z f.o=some (.inst 303 f.dx)) (ns:Z f.dx=some (.ns l)) (n1:l.lookup (Str.ofString "flags")=some (vi f.flags)) (n2:l.lookup (Str.ofString "kind")=some (vi (T.idxOf f.kind))) (m:f.kind∈T) (ok:f.flags∈[0,1,2,5]∧f.kind.weight≤20)
theorem Dl.mem{Z:a5}{T:List Tm}{f:J4}:Dl Z T f→f.kind∈T
 | .mk _ _ _ _ m _=>m
theorem Dl.ok{Z:a5}{T:List Tm}{f:J4}:Dl Z T f→f.flags∈[0,1,2,5]∧f.kind.weight≤20
 | .mk _ _ _ _ _ k=>k
theorem R1.fa{Z:a5}{tid:Nat}{t:C3}:R1 Z tid t→Z t.fa=some (.list (t.l9.map vi))
 | .mk _ _ _ _ _ _ _ _ f _=>f
theorem R1.few{Z:a5}{tid:Nat}{t:C3}:R1 Z tid t→t.l9.length≤1000∧t.np≤100
 | .mk _ _ _ _ _ _ _ _ _ k=>k
structure Mt where
 st:Addr
 dx:Addr
 ty:Addr
 fl:Addr
 nm:Addr
noncomputable def T8(H:Mt) (Ts:List C3):List Addr:=H.ty::H.fl::H.nm::Ts.flatMap λt=>[t.fa,t.pa]
theorem Vx{H:Mt}{Ts:List C3}{t:C3}(h:t∈Ts):t.fa∈T8 H Ts:=.tail _ (.tail _ (.tail _ (List.mem_flatMap.mpr ⟨t,h,.head _⟩)))
theorem rX{H:Mt}{Ts:List C3}{t:C3}(h:t∈Ts):t.pa∈T8 H Ts:=.tail _ (.tail _ (.tail _ (List.mem_flatMap.mpr ⟨t,h,.tail _ (.head _)⟩)))
inductive mE(H:Mt) (K:H1) (Z:a5):Prop
 | mk {l:List (Str×V)}(o:Z H.st=some (.inst 324 H.dx)) (ns:Z H.dx=some (.ns l)) (n1:l.lookup (Str.ofString "kt")=some (.ref K.a)) (n2:l.lookup (Str.ofString "types")=some (.ref H.ty)) (n3:l.lookup (Str.ofString "fields_")=some (.ref H.fl)) (n4:l.lookup (Str.ofString "names")=some (.ref H.nm))
structure E9(H:Mt) (K:H1) (T:List Tm) (Ts:List C3) (Fs:List J4) (Z:a5):Prop where
 st:mE H K Z
 types:Z H.ty=some (.list (List.replicate 64 .none++Ts.map λt=>.ref t.o))
 fields:Z H.fl=some (.list (.none::Fs.map λf=>.ref f.o))
 tys:∀i t,Ts[i]?=some t→R1 Z (64+i) t
 fds:∀f∈Fs,Dl Z T f
 apart:∀b∈T8 H Ts,¬K.F b
 X1:∀t∈Ts,∀i∈t.l9,∃j,i=j+1∧j < Fs.length
 few:Ts.length≤1000∧Fs.length≤1000
 kG:∃l,Z H.nm=some (.dict l)∧l.length≤Ts.length∧∀p∈l,∃t,p.1=.tup t
 lists:(T8 H Ts).Nodup
section
variable {c:Cx}{n:Nat}{Z:a5}{K:H1}{T:List Tm}{Q:V→a5→Prop}{E:a5→Prop}{H:Mt}{Ts:List C3}{Fs:List J4}
theorem R1.same{Z a6:a5}{tid:Nat}{t:C3}{F:Addr→Prop}(h:R1 Z tid t) (s:d8 F Z a6) (hp:Plain F Z) (h1:¬F t.fa) (h2:¬F t.pa):R1 a6 tid t:=match h with
 | .mk o ns n1 n2 n3 n4 p np f k=>.mk (s _ _ (hp.off o rfl) o) (s _ _ (hp.off ns rfl) ns) n1 n2 n3 n4 (s _ _ h2 p) np (s _ _ h1 f) k
theorem Dl.same{Z a6:a5}{T':List Tm}{m:Nat}{f:J4}{F:Addr→Prop}(h:Dl Z T f) (g:Gr T T' m) (s:d8 F Z a6) (hp:Plain F Z):Dl a6 T' f:=match h with
 | .mk o ns n1 n2 m k=>.mk (s _ _ (hp.off o rfl) o) (s _ _ (hp.off ns rfl) ns) n1 (n2.trans (congrArg (λi=>some (vi i)) (g.idx m).symm)) (g.mem m) k
theorem mE.same{Z a6:a5}{F:Addr→Prop}(h:mE H K Z) (s:d8 F Z a6) (hp:Plain F Z):mE H K a6:=match h with
 | .mk o ns n1 n2 n3 n4=>.mk (s _ _ (hp.off o rfl) o) (s _ _ (hp.off ns rfl) ns) n1 n2 n3 n4
theorem E9.move(h:E9 H K T Ts Fs Z){T':List Tm}{m:Nat}{a6:a5}{F:Addr→Prop}(g:Gr T T' m) (s:d8 F Z a6) (hp:Plain F Z) (hF:∀b∈T8 H Ts,¬F b):E9 H K T' Ts Fs a6 where
 st:=h.st.same s hp
 types:=s _ _ (hF _ (.head _)) h.types
 fields:=s _ _ (hF _ (.tail _ (.head _))) h.fields
 tys:=λi t e=>(h.tys i t e).same s hp (hF _ (Vx (List.mem_of_getElem? e))) (hF _ (rX (List.mem_of_getElem? e)))
 fds:=λf hf=>(h.fds f hf).same g s hp
 apart:=h.apart
 X1:=h.X1
 few:=h.few
 kG:=h.kG.imp λl x=>⟨s _ _ (hF _ (.tail _ (.tail _ (.head _)))) x.1,x.2⟩
 lists:=h.lists
theorem E9.grow(h:E9 H K T Ts Fs Z){T':List Tm}{m:Nat}{a6:a5}(g:Gr T T' m) (s:d8 K.F Z a6) (hp:Plain K.F Z):E9 H K T' Ts Fs a6:=h.move g s hp h.apart
theorem E9.Lk(h:E9 H K T Ts Fs Z) (N:g0 c){R:V→Prop}(q:R (.ref K.a)):G1 c (.ref H.st) (Str.ofString "kt") Z R:=match h.st with
 | .mk o ns n1 _ _ _=>m6 o ns n1 (N.st.attr 0 rfl) rfl q
theorem E9.K7(h:E9 H K T Ts Fs Z) (N:g0 c){R:V→Prop}(q:R (.ref H.ty)):G1 c (.ref H.st) (Str.ofString "types") Z R:=match h.st with
 | .mk o ns _ n1 _ _=>m6 o ns n1 (N.st.attr 1 rfl) rfl q
theorem E9.O2(h:E9 H K T Ts Fs Z) (N:g0 c){R:V→Prop}(q:R (.ref H.fl)):G1 c (.ref H.st) (Str.ofString "fields_") Z R:=match h.st with
 | .mk o ns _ _ n1 _=>m6 o ns n1 (N.st.attr 2 rfl) rfl q
theorem E9.Zb(h:E9 H K T Ts Fs Z) (N:g0 c){R:V→Prop}(q:R (.ref H.nm)):G1 c (.ref H.st) (Str.ofString "names") Z R:=match h.st with
 | .mk o ns _ _ _ n1=>m6 o ns n1 (N.st.attr 4 rfl) rfl q
theorem R1.pJ{tid:Nat}{t:C3}(h:R1 Z tid t) (N:g0 c){R:V→Prop}(q:R (vi tid)):G1 c (.ref t.o) (Str.ofString "tid") Z R:=match h with
 | .mk o ns n1 _ _ _ _ _ _ _=>m6 o ns n1 (N.td.attr 0 rfl) rfl q
theorem R1.gN{tid:Nat}{t:C3}(h:R1 Z tid t) (N:g0 c){R:V→Prop}(q:R (vi t.sort)):G1 c (.ref t.o) (Str.ofString "sort") Z R:=match h with
 | .mk o ns _ n1 _ _ _ _ _ _=>m6 o ns n1 (N.td.attr 2 rfl) rfl q
theorem R1.gO{tid:Nat}{t:C3}(h:R1 Z tid t) (N:g0 c){R:V→Prop}(q:R (.ref t.pa)):G1 c (.ref t.o) (Str.ofString "params") Z R:=match h with
 | .mk o ns _ _ n1 _ _ _ _ _=>m6 o ns n1 (N.td.attr 6 rfl) rfl q
theorem R1.O2{tid:Nat}{t:C3}(h:R1 Z tid t) (N:g0 c){R:V→Prop}(q:R (.ref t.fa)):G1 c (.ref t.o) (Str.ofString "fields") Z R:=match h with
 | .mk o ns _ _ _ n1 _ _ _ _=>m6 o ns n1 (N.td.attr 9 rfl) rfl q
theorem Dl.mF{f:J4}(h:Dl Z T f) (N:g0 c){R:V→Prop}(q:R (vi f.flags)):G1 c (.ref f.o) (Str.ofString "flags") Z R:=match h with
 | .mk o ns n1 _ _ _=>m6 o ns n1 (N.fd.attr 5 rfl) rfl q
theorem Dl.gP{f:J4}(h:Dl Z T f) (N:g0 c){R:V→Prop}(q:R (vi (T.idxOf f.kind))):G1 c (.ref f.o) (Str.ofString "kind") Z R:=match h with
 | .mk o ns _ n1 _ _=>m6 o ns n1 (N.fd.attr 3 rfl) rfl q
noncomputable def G0(Ts:List C3) (tid:Nat):Option C3:=if tid < 64 then none else Ts[tid - 64]?
noncomputable def tyV(o:Option C3):V:=o.elim .none λt=>.ref t.o
theorem Mu{tid:Nat}(h:tid < 64∨64+Ts.length≤tid):G0 Ts tid=none:=by
 unfold G0
 by_cases e:tid < 64
 ·exact if_pos e
 ·exact(if_neg e).trans (List.getElem?_eq_none (Nat.le_sub_of_add_le' (h.resolve_left e)))
theorem E9.Pg(h:E9 H K T Ts Fs Z){tid:Nat}{t:C3}(e:G0 Ts tid=some t):R1 Z tid t:=by
 unfold G0 at e
 by_cases q:tid < 64
 ·rw[if_pos q] at e; cases e
 ·rw[if_neg q] at e
  exact(Nat.add_sub_of_le (Nat.le_of_not_lt q):64+(tid - 64)=tid) ▸ h.tys _ _ e
theorem H3{Ts:List C3}:(List.replicate 64 V.none++Ts.map λt=>V.ref t.o).length=64+Ts.length:=by rw[List.length_append,List.length_replicate,List.length_map]
theorem E9.Jz(h:E9 H K T Ts Fs Z){tid:Nat}(hb:tid < 64+Ts.length){R:V→Prop}(q:R (tyV (G0 Ts tid))):Ei (.ref H.ty) (vi tid) Z R:=by
 refine A1 h.types (Nat.lt_of_lt_of_le hb (Nat.le_trans (Nat.add_le_add_left h.few.1 64) (by decide))) ?_ q
 unfold G0
 by_cases e:tid < 64
 ·rw[if_pos e,List.getElem?_append_left (by rw[List.length_replicate]; exact e),List.getElem?_replicate,if_pos e]; rfl
 ·have e':=Nat.le_of_not_lt e
  rw[if_neg e,List.getElem?_append_right (by rw[List.length_replicate]; exact e'),List.length_replicate,List.getElem?_map,List.getElem?_eq_getElem (Nat.sub_lt_left_of_lt_add e' hb)]; rfl
theorem Ss(N:g0 c) (k:i5 K T Z) (h:E9 H K T Ts Fs Z){t:Tm}(ht:t∈T) (q:Q (tyV (G0 Ts t.hd.k8)) Z):i3 c (n+3) (.fix (.ref 377)) [.ref H.st,vi (T.idxOf t)] Z Q E:=by
 refine N.fn N.C.type_of rfl (f6 ?_)
 refine h.Lk N ?_
 refine Yt N k ht (f9 ?_)
 have no (e:t.hd.k8 < 64∨64+Ts.length≤t.hd.k8):Q .none Z:=by rw[Mu e] at q; exact q
 refine K6 (λe=>T7 (f7 (no (.inl (Int.ofNat_lt.mp (Int.lt_of_le_of_lt e (by decide))))))) λe=>?_
 refine h.K7 N ?_
 refine t7 h.types (H3 ▸ Nat.le_trans (Nat.add_le_add_left h.few.1 64) (by decide)) ?_
 refine K6 (λe=>T7 (f7 (no (.inr (H3 ▸ Int.ofNat_le.mp e))))) λe=>S4 (f7 ?_)
 refine h.K7 N ?_
 exact h.Jz (H3 ▸ Nat.lt_of_not_le λz=>e (Int.ofNat_le.mpr z)) q
noncomputable def plain(Ts:List C3) (t:Tm):Bool:=t.hd.sort == 3 && (G0 Ts t.hd.k8).all λi=>i.sort != 5
theorem mG{a b:Nat}{i:Decidable ((a:Int)=(b:Int))}:(a == b)=@decide ((a:Int)=(b:Int)) i:=y4 (beq_iff_eq.trans ⟨congrArg Int.ofNat,Int.ofNat.inj⟩)
theorem mH(N:g0 c) (k:i5 K T Z) (h:E9 H K T Ts Fs Z){t:Tm}(ht:t∈T) (q:Q (.bool (plain Ts t)) Z):i3 c (n+4) (.fix (.ref 391)) [.ref H.st,vi (T.idxOf t)] Z Q E:=by
 refine N.fn N.C.is_plain_struct rfl (f9 ?_)
 refine h.Lk N ?_
 refine gD N k ht ?_
 unfold plain at q
 refine lT (λe=>f7 ?_) λe=>f6 ?_
 ·rw[show(t.hd.sort == 3)=false from beq_eq_false_iff_ne.mpr λz=>e (congrArg Int.ofNat z)] at q
  exact q
 rw[show(t.hd.sort == 3)=true from beq_iff_eq.mpr (Int.ofNat.inj e)] at q
 refine Ss N k h ht (f7 ⟨rfl,?_⟩)
 cases hh:G0 Ts t.hd.k8 with
 | none =>
  rw[hh] at q
  exact T7 q
 | some i =>
  rw[hh] at q
  refine S4 ?_
  exact(h.Pg hh).gN N ((congrArg (λb=>Q (.bool !b) Z) (mG (a:=i.sort) (b:=5))).mp q)
end
noncomputable def keeps(f:J4):Bool:=(f.flags == 0 || f.flags == 2) && (f.kind.hd.sort == 3 || f.kind.hd.sort == 6)
noncomputable def Z9(Fs:List J4) (i:Nat):List Tm:=(Fs[i - 1]?).elim [] λf=>if keeps f=true then [f.kind] else []
noncomputable def C0(t:Tm):List Tm:=if t.hd.isNamed=true then t.kids else []
noncomputable def K8(Ts:List C3) (Fs:List J4) (k:Tm):List Tm:=(G0 Ts k.hd.k8).elim [] λti=>ti.l9.flatMap (Z9 Fs)
noncomputable def G5(Ts:List C3) (s l:List Tm):List Tm:=(l.map (Tm.sub s)).filter (plain Ts)
noncomputable def held(Ts:List C3) (Fs:List J4) (k:Tm):List Tm:=G5 Ts (C0 k) (K8 Ts Fs k)
noncomputable def Gl(Ts:List C3) (k:Tm):Nat:=(G0 Ts k.hd.k8).elim 0 λti=>20 * ti.l9.length
section
variable {c:Cx}{n:Nat}{Z:a5}{K:H1}{T:List Tm}{Q:V→a5→Prop}{E:a5→Prop}{H:Mt}{Ts:List C3}{Fs:List J4}
theorem bP(h:i5 K T Z){t:Tm}(ht:t∈T):∀x∈C0 t,x∈T∧x.stands=true:=by
 unfold C0
 by_cases e:t.hd.isNamed=true
 ·rw[if_pos e]; exact λx hx=>⟨h.tab.kids t ht x hx,(Hn (h.tab.ok t ht) x hx).2⟩
 ·rw[if_neg e]; exact λx hx=>(List.not_mem_nil hx).elim
theorem Vy(t:Tm):(C0 t).length≤1000:=by
 unfold C0
 by_cases e:t.hd.isNamed=true
 ·rw[if_pos e]; exact Nat.le_trans (l0 t) (by decide)
 ·rw[if_neg e]; exact Nat.zero_le _
theorem mI(N:g0 c) (h:i5 K T Z){t:Tm}(ht:t∈T) (q:Q (.tup ((C0 t).map λa=>vi (T.idxOf a))) Z):i3 c (n+2) (.fix (.ref 216)) [.ref K.a,vi (T.idxOf t)] Z Q E :=
 gE N h ht ((apply_ite (List.map λa=>vi (T.idxOf a)) (t.hd.isNamed=true) t.kids []) ▸ q)
theorem bQ:∀f∈([0,1,2,5]:List Nat),decide (Builtin.bitAnd (f:Int) (Builtin.bitOr 1 4)≠0)=!(f == 0 || f == 2):=by decide +kernel
theorem gQ{m m':Nat}{f:V}{vs:List V}(e:m=m') (h:i3 c m f vs Z Q E):i3 c m' f vs Z Q E:=e ▸ h
theorem m9{a:Addr}{l:List V}(h:Z a=some (.list l)):A5 (.ref a) Z l:=by
 unfold A5
 dsimp only
 rw[h]
theorem gR{f:J4}{j:Nat}(hf:Fs[j]?=some f):Z9 Fs (j+1)=if keeps f=true then [f.kind] else []:=congrArg (λo:Option J4=>o.elim [] λf=>if keeps f=true then [f.kind] else []) hf
theorem mJ(i:Nat):(Z9 Fs i).length≤1:=by
 unfold Z9
 cases Fs[i - 1]? with
 | none=>exact Nat.zero_le 1
 | some f =>
  refine(?_:(if keeps f=true then [f.kind] else []).length≤1)
  by_cases e:keeps f=true
  ·rw[if_pos e]; exact Nat.le_refl 1
  ·rw[if_neg e]; exact Nat.zero_le 1
theorem Ph:∀l:List Nat,(l.flatMap (Z9 Fs)).length≤l.length
 | []=>Nat.le_refl 0
 | i::l=>by rw[List.flatMap_cons,List.length_append,List.length_cons,Nat.add_comm]; exact Nat.add_le_add (Ph l) (mJ i)
theorem Mv{s l:List Tm}:(G5 Ts s l).length≤l.length:=Nat.le_trans (List.length_filter_le ..) (Nat.le_of_eq (List.length_map ..))
theorem Ez{s a b:List Tm}:G5 Ts s (a++b)=G5 Ts s a++G5 Ts s b:=by unfold G5; rw[List.map_append,List.filter_append]
theorem Fa{s:List Tm}{x:Tm}(e:plain Ts (x.sub s)=true):G5 Ts s [x]=[x.sub s]:=List.filter_cons_of_pos e
theorem Fb{s:List Tm}{x:Tm}(e:plain Ts (x.sub s)=false):G5 Ts s [x]=[]:=List.filter_cons_of_neg (Bool.eq_false_iff.mp e)
theorem pK{s:Nat}:V.int s∈[V.int 3,V.int 6]↔(s == 3 || s == 6)=true :=
 List.mem_cons.trans ((or_congr ⟨λq=>beq_iff_eq.mpr (Int.ofNat.inj (V.int.inj q)),λq=>beq_iff_eq.mp q ▸ rfl⟩ (List.mem_singleton.trans ⟨λq=>beq_iff_eq.mpr (Int.ofNat.inj (V.int.inj q)),λq=>beq_iff_eq.mp q ▸ rfl⟩)).trans Bool.or_eq_true_iff.symm)
theorem X2{α:Type}{L d r:List α}{a:α}(e:L=d++a::r):d.length≤L.length:=e ▸ (List.sublist_append_left d (a::r)).length_le
structure bR(c:Cx) (K:H1) (H:Mt) (T:List Tm) (Ts:List C3) (Fs:List J4) (s:List Tm) (r:Addr) (Z:a5) (d:List Nat) (T1:List Tm) (a6:a5):Prop where
 gr:Gr T T1 (20 * d.length)
 kt:i5 K T1 a6
 st:E9 H K T1 Ts Fs a6
 same:d8 K.F Z a6
 fit:∀f∈d.flatMap (Z9 Fs),Fits (f.sub s)
 mem:∀x∈G5 Ts s (d.flatMap (Z9 Fs)),x∈T1
 list:a6 r=some (.list ((G5 Ts s (d.flatMap (Z9 Fs))).map λt=>vi (T1.idxOf t)))
theorem bR.next{s:List Tm}{r:Addr}{d:List Nat}{T1 T2:List Tm}{b0 j0:a5}{i:Nat}(I:bR c K H T Ts Fs s r Z d T1 b0) (g:Gr T1 T2 20) (k:i5 K T2 j0) (h:E9 H K T2 Ts Fs j0) (sm:d8 K.F Z j0){l:List Tm}(e:Z9 Fs i=l) (fit:∀f∈l,Fits (f.sub s)) (mem:∀x∈G5 Ts s l,x∈T2)
  (hl:j0 r=some (.list ((G5 Ts s (d.flatMap (Z9 Fs))).map (λt=>vi (T1.idxOf t))++(G5 Ts s l).map λt=>vi (T2.idxOf t)))):bR c K H T Ts Fs s r Z (d++[i]) T2 j0:=by
 have ef:(d++[i]).flatMap (Z9 Fs)=d.flatMap (Z9 Fs)++l:=by rw[List.flatMap_append,List.flatMap_singleton,e]
 refine⟨(I.gr.trans g).mono (by rw[List.length_append]; exact Nat.le_refl _),k,h,sm,?_,?_,?_⟩
 ·rw[ef]; exact List.forall_mem_append.mpr ⟨I.fit,fit⟩
 ·rw[ef,Ez]; exact List.forall_mem_append.mpr ⟨λx hx=>g.mem (I.mem x hx),mem⟩
 ·rw[ef,Ez,List.map_append,O1 g I.mem]; exact hl
theorem bR.room{s:List Tm}{r:Addr}{d lk:List Nat}{T1:List Tm}{b0:a5}{i m:Nat}(I:bR c K H T Ts Fs s r Z d T1 b0){l:List Nat}(e:l=d++i::lk) (hz:T.length+20 * l.length < 100000) (hm:m≤20):T1.length+m < 100000:=by
 have:=I.gr.2
 rw[e,List.length_append,List.length_cons] at hz
 omega
theorem gT(N:g0 c) (k0:i5 K T Z) (h0:E9 H K T Ts Fs Z){k:Tm}(hk:k∈T) (hz:T.length+Gl Ts k < 100000)
  (q1:(∀f∈K8 Ts Fs k,Fits (f.sub (C0 k)))→∀T' a6 r,Gr T T' (Gl Ts k)→i5 K T' a6→E9 H K T' Ts Fs a6→d8 K.F Z a6→Z r=none→a6 r=some (.list ((held Ts Fs k).map λt=>vi (T'.idxOf t)))→(∀x∈held Ts Fs k,x∈T')→Q (.ref r) a6)
  (q2:(∃f∈K8 Ts Fs k,¬Fits (f.sub (C0 k)))→∀T' a6,Gr T T' (Gl Ts k)→i5 K T' a6→E9 H K T' Ts Fs a6→d8 K.F Z a6→E a6):i3 c (n+40) (.fix (.ref 384)) [.ref H.st,vi (T.idxOf k)] Z Q E:=by
 refine N.fn N.C.value_fields rfl (f6 λr hr=>f6 ?_)
 have sr:d8 (λ_=>False) Z (j1 Z r (.list [])):=d8.new hr
 have k1:=k0.same sr
 have h1:=h0.grow (.refl _ 0) (sr.mono λ_ h=>h.elim) k0.plain
 have wF:¬K.F r:=λh=>(k0.plain r h).elim (λh=>h.elim λ_ e=>g9 (j3 e) hr) λh=>h.elim λ_ e=>g9 (j3 e) hr
 refine Ss N k1 h1 hk (f9 ⟨rfl,?_⟩)
 unfold Gl held K8 at *
 cases cP:G0 Ts k.hd.k8 with
 | none =>
  rw[cP] at q1
  exact T7 (f7 (q1 (λf hf=>(List.not_mem_nil hf).elim) T _ r (.refl _ _) k1 h1 (sr.mono λ_ h=>h.elim) hr (a7 ..) λf hf=>(List.not_mem_nil hf).elim))
 | some ti =>
 rw[cP] at q1 q2 hz
 have tK:ti∈Ts:=by
  unfold G0 at cP
  by_cases q:k.hd.k8 < 64
  ·rw[if_pos q] at cP; cases cP
  ·rw[if_neg q] at cP; exact List.mem_of_getElem? cP
 have few:=(h1.Pg cP).few.1
 refine S4 (A2 ?_)
 refine(h1.Pg cP).O2 N ?_
 refine z8 (iv:=.ref ti.fa) vi ti.l9 (γ:=Option V×Option V×Option V×List Tm) (λg=>some (.ref H.st)::some (vi (T.idxOf k))::some (.ref r)::some (.ref ti.o)::g.1::g.2.1::g.2.2.1::pad.drop 5)
  (λd g a6=>bR c K H T Ts Fs (C0 k) r Z d g.2.2.2 a6) (none,none,none,T) (Nat.le_trans few (by decide)) (λ_ _ _ I=>m9 (I.st.Pg cP).fa) ⟨.refl _ _,k1,h1,sr.mono λ_ h=>h.elim,(λf hf=>(List.not_mem_nil hf).elim),(λf hf=>(List.not_mem_nil hf).elim),a7 ..⟩ (λd i lk g a6 R el I hn _=>?_) λg a6 I=>f7 (q1 I.fit _ a6 r I.gr I.kt I.st I.same hr I.list I.mem)
 have me:=G7 el
 have ml:=X2 el
 obtain⟨j,rfl,hj⟩:=I.st.X1 ti tK i me
 have hf:Fs[j]?=some Fs[j]:=List.getElem?_eq_getElem hj
 have hfm:Fs[j]∈Fs:=List.getElem_mem hj
 have hfd:=I.st.fds _ hfm
 refine f6 ?_
 refine I.st.O2 N ?_
 refine A1 I.st.fields (Nat.lt_of_le_of_lt hj (Nat.lt_of_le_of_lt I.st.few.2 (by decide))) (get_map (f:=λf:J4=>V.ref f.o) hf) (f9 ?_)
 have skip (e:keeps Fs[j]=false):=(hn (some (vi (j+1)),some (.ref Fs[j].o),g.2.2.1,g.2.2.2) a6 (I.next (l:=[]) ((Gr.refl _ _:Gr g.2.2.2 g.2.2.2 20)) I.kt I.st I.same ((gR hf).trans (if_neg (Bool.eq_false_iff.mp e))) (λf hf=>(List.not_mem_nil hf).elim) (λf hf=>(List.not_mem_nil hf).elim) (I.list.trans (congrArg (λl=>some (j8.list l)) (List.append_nil _).symm)))).2
 have hfl:=bQ _ hfd.ok.1
 refine hfd.mF N ⟨⟨?_⟩⟩
 refine K6 (λe=>T7 (Vl (skip ?_))) λe=>?_
 ·exact Bool.and_eq_false_iff.mpr (.inl (nt (hfl.symm.trans (decide_eq_true e))))
 refine I.st.Lk N ?_
 refine hfd.gP N ?_
 refine gD N I.kt hfd.mem ⟨W6,List.forall_mem_cons.mpr ⟨W6,List.forall_mem_singleton.mpr W6⟩,?_⟩
 refine lT (λe=>T7 (Vl (skip ?_))) λe2=>S4 (f6 ?_)
 ·exact Bool.and_eq_false_iff.mpr (.inr (Bool.eq_false_iff.mpr λz=>e (pK.mpr z)))
 have hkeep:keeps Fs[j]=true:=Bool.and_eq_true_iff.mpr ⟨(Bool.eq_false_or_eq_true _).resolve_right λz=>e (of_decide_eq_true (hfl.trans (congrArg not z))),pK.mp e2⟩
 have er:=(gR hf).trans (if_pos hkeep)
 refine I.st.Lk N ?_
 refine hfd.gP N ?_
 refine I.st.Lk N ?_
 refine w9 (by rw[←I.gr.idx hk]) ?_
 refine mI N I.kt (I.gr.mem hk) ?_
 have ha:=bP k0 hk
 have hw:=hfd.ok.2
 have len (w:Nat) (h:w≤20):20 * d.length+w≤20 * ti.l9.length:=by
  rw[el,List.length_append,List.length_cons]; omega
 refine gQ (Nat.sub_add_cancel (Nat.le_trans (Nat.add_le_add_right hw 13) (Nat.le_trans (by decide) (Nat.le_add_left 39 n)))) (mD (n:=n+39 - (Fs[j].kind.weight+13)) N (Vy k) I.kt hfd.mem (λx hx=>⟨I.gr.mem (ha x hx).1,(ha x hx).2⟩) (I.room el hz hw) (λhF T2 C2 g2 k2 hm2 s2=>?_) λhF T2 C2 g2 k2 s2=>?_)
 ·have h2:=I.st.grow g2 s2 I.kt.plain
  have s12:=I.same.trans s2
  have hl2:=s2 _ _ wF I.list
  refine f9 ?_
  refine mH N k2 h2 hm2 (bH (λe=>n8 ⟨_,.append hl2,?_⟩) λe=>j9 ?_)
  ·refine o6 hl2 (De (Nat.le_trans Mv (Nat.le_trans (Ph d) (Nat.le_trans (ml) (Nat.le_trans few (by decide)))))) (j9 ?_)
   have s3:d8 K.F Z _:=λb o hb eb=>(i8 (Z:=C2) (o:=.list ((G5 Ts (C0 k) (d.flatMap (Z9 Fs))).map (λt=>vi (g.2.2.2.idxOf t))++[vi (T2.idxOf (Fs[j].kind.sub (C0 k)))])) λz=>g9 (j3 (z ▸ eb)) hr).trans (s12 b o hb eb)
   exact(hn (_,_,_,T2) _ (I.next (g2.mono hw) (k2.keep (F:=(·=r)) (d8.of (λb hb=>i8 hb) rfl) (λb hb=>hb ▸ wF) λb hb=>.inl ⟨_,hb ▸ hl2⟩) (h0.grow (I.gr.trans g2) s3 k0.plain) s3 er (List.forall_mem_singleton.mpr hF) (Fa e ▸ List.forall_mem_singleton.mpr hm2) (Fa e ▸ a7 ..))).1
  ·exact(hn (_,_,_,T2) _ (I.next (g2.mono hw) k2 h2 s12 er (List.forall_mem_singleton.mpr hF) (λf hf=>(List.not_mem_nil (show f∈[] from Fb e ▸ hf)).elim) (by rw[Fb e]; exact hl2.trans (congrArg (λl=>some (j8.list l)) (List.append_nil _).symm)))).1
 ·exact q2 ⟨_,List.mem_flatMap.mpr ⟨j+1,me,er ▸ .head _⟩,hF⟩ T2 C2 ((I.gr.trans g2).mono (len _ hw)) k2 (I.st.grow g2 s2 I.kt.plain) (I.same.trans s2)
noncomputable def t3(Ts:List C3) (Fs:List J4) (k:Tm):List Tm:=if ∀f∈K8 Ts Fs k,Fits (f.sub (C0 k)) then held Ts Fs k else []
theorem Vz(N:g0 c){d:Addr}(k0:i5 K T Z) (y0:Vq d H.st K Z) (h0:E9 H K T Ts Fs Z){k:Tm}(hk:k∈T) (hz:T.length+Gl Ts k < 100000)
  (q:∀T' a6 r,Gr T T' (Gl Ts k)→i5 K T' a6→Vq d H.st K a6→E9 H K T' Ts Fs a6→d8 K.F Z a6→Z r=none→a6 r=some (.list ((t3 Ts Fs k).map λt=>vi (T'.idxOf t)))→(∀x∈t3 Ts Fs k,x∈T')→Q (.ref r) a6) :
  i3 c (n+41) (.fix (.ref 405)) [.ref d,vi (T.idxOf k)] Z Q E:=by
 refine N.fn N.C.decl_held rfl ?_
 refine y0.store N ?_
 refine gT N k0 h0 hk hz (λhF T' a6 r g k' h' s hr hl hm=>?_) λhF T' a6 g k' h' s r hr=>?_
 ·have e:t3 Ts Fs k=held Ts Fs k:=if_pos hF
  rw[←e] at hl hm
  exact q T' a6 r g k' (y0.same s k0.plain) h' s hr hl hm
 ·have e:t3 Ts Fs k=[]:=if_neg λh=>hF.elim λf x=>x.2 (h f x.1)
  have sr:d8 (λ_=>False) a6 (j1 a6 r (.list [])):=d8.new hr
  have s2:=s.trans (sr.mono λ_ h=>h.elim)
  have hr0:Z r=none:=none_of λo q=>(Classical.em (K.F r)).elim (λhF=>(k'.plain r hF).elim (λh=>h.elim λ_ e=>g9 (j3 e) hr) λh=>h.elim λ_ e=>g9 (j3 e) hr) λhF=>g9 (j3 (s r o hF q)) hr
  exact q T' _ r g (k'.same sr) (y0.same s2 k0.plain) (h0.grow g s2 k0.plain) s2 hr0 (e ▸ a7 ..) (e ▸ λf hf=>(List.not_mem_nil hf).elim)
end
end Mine
end
section
open PySem PySem.W PyProof.Rows PySem.Calls
set_option Elab.async false
set_option genSizeOf false
set_option genInjectivity false
set_option maxRecDepth 20000
namespace Mine
open Classical
structure Dm(K:H1) (T:List Tm) (Z:a5) (m:Nat) (T':List Tm) (a6:a5):Prop where
 gr:Gr T T' m
 kt:i5 K T' a6
 same:d8 K.F Z a6
section
variable {c:Cx}{n:Nat}{Z:a5}{K:H1}{T:List Tm}{Q:V→a5→Prop}{E:a5→Prop}{H:Mt}{Ts:List C3}{Fs:List J4}
theorem Plain.some{F:Addr→Prop}(p:Plain F Z){a:Addr}(h:F a):(Z a).isSome=true:=(p a h).elim (λh=>h.elim λ_ e=>j3 e) λh=>h.elim λ_ e=>j3 e
theorem i5.off(h:i5 K T Z){a:Addr}(ha:Z a=none):¬K.F a:=λf=>g9 (h.plain.some f) ha
theorem Dm.start(k:i5 K T Z) (m:Nat):Dm K T Z m T Z:=⟨.refl _ _,k,.refl _ _⟩
section
variable {m j:Nat}{T' T'':List Tm}{b0 j0:a5}{a:Addr}
theorem Dm.touch(w:Dm K T Z m T' b0) (ha:Z a=none) (hF:¬K.F a) (p:Plain (·=a) b0) (n:∀b,b≠a→j0 b=b0 b):Dm K T Z m T' j0 :=
 ⟨w.gr,w.kt.keep (F:=(·=a)) (d8.of n rfl) (λb hb=>hb ▸ hF) p,λb o hb eb=>(n b λz=>g9 (j3 (z ▸ eb)) ha).trans (w.same b o hb eb)⟩
theorem Dm.next(w:Dm K T Z m T' b0) (g:Gr T' T'' j) (k:i5 K T'' j0) (s:d8 K.F b0 j0):Dm K T Z (m+j) T'' j0:=⟨w.gr.trans g,k,w.same.trans s⟩
theorem Dm.mono(w:Dm K T Z m T' b0) (h:m≤j):Dm K T Z j T' b0:=⟨w.gr.mono h,w.kt,w.same⟩
theorem Dm.new(w:Dm K T Z m T' b0){o:j8}(ha:b0 a=none):Dm K T Z m T' (j1 b0 a o):=⟨w.gr,w.kt.same (d8.new ha),w.same.trans ((d8.new ha:d8 (λ_=>False) b0 _).mono λ_ h=>h.elim)⟩
theorem Dm.off(w:Dm K T Z m T' b0) (ha:b0 a=none):Z a=none∧¬K.F a:=⟨none_of λo q=>g9 (j3 (w.same a o (w.kt.off ha) q)) ha,w.kt.off ha⟩
theorem Dm.y(w:Dm K T Z m T' b0) (k:i5 K T Z){d st:Addr}(y:Vq d st K Z):Vq d st K b0:=y.same w.same k.plain
theorem Dm.h(w:Dm K T Z m T' b0) (k:i5 K T Z) (h:E9 H K T Ts Fs Z):E9 H K T' Ts Fs b0:=h.grow w.gr w.same k.plain
end
theorem n0{a:Addr}{l:List V}(h:Z a=some (.list l)):Plain (·=a) Z:=λb hb=>.inl ⟨l,hb ▸ h⟩
theorem I3{a:Addr}{l:List (V×V)}(h:Z a=some (.dict l)):Plain (·=a) Z:=λb hb=>.inr ⟨l,hb ▸ h⟩
theorem I6{a:Addr}{l:List V}{R:Bool→Prop}(h:Z a=some (.list l)) (hz:l.length≤1000000) (q:R (decide (l≠[]))):As (.ref a) Z R:=by
 unfold As
 dsimp only
 rw[h]
 exact⟨hz,q⟩
noncomputable def m7(tid:Nat):Tm:=.un (.val tid) (.leaf (.var 0))
theorem Wa(N:g0 c) (k0:i5 K T Z) (h0:E9 H K T Ts Fs Z){tid:Nat}{ti:C3}(e:G0 Ts tid=some ti) (hs:ti.sort=2) (hb:tid < 64+Ts.length){t:Tm}(et:t.hd=.val tid) (ht:t.ok=true) (hk:∀a∈t.kids,a∈T) (hz:T.length < 100000) (q:cR K T t 1 Z Q E) :
  i3 c (n+8) (.fix (.ref 370)) [.ref H.st,vi tid,.tup (t.kids.map λa=>vi (T.idxOf a))] Z Q E:=by
 refine N.fn N.C.kind_with rfl (f6 ?_)
 refine h0.K7 N ?_
 refine h0.Jz hb ?_
 rw[e]
 refine(h0.Pg e).gN N ?_
 refine Bh [2,5] (v:=ti.sort) rfl (hs ▸ rfl) (f7 ?_)
 exact h0.Lk N (Ys N k0 et ht hk hz q)
theorem gU{tid:Nat}(h:64≤tid):(l7.find? λp=>decide (p.1=(tid:Int)))=none:=List.find?_eq_none.mpr λp hp e=>absurd ((of_decide_eq_true e) ▸ (by decide +kernel:∀p∈l7,p.1 < 64) p hp) (Int.not_lt.mpr (Int.ofNat_le.mpr h))
theorem bS{tid:Nat}(h:64≤tid):(m7 tid).ok=true:=by
 have f:(Hd.val tid).fit 1=true:=Bool.and_eq_true_iff.mpr ⟨Bool.and_eq_true_iff.mpr ⟨rfl,decide_eq_true (Nat.lt_of_lt_of_le (by decide) h)⟩,by rw[gU h]; rfl⟩
 exact Bool.and_eq_true_iff.mpr ⟨Bool.and_eq_true_iff.mpr ⟨f,rfl⟩,rfl⟩
theorem Wb(N:g0 c) (k0:i5 K T Z) (h0:E9 H K T Ts Fs Z){tid:Nat}{ti:C3}(e:G0 Ts tid=some ti) (hs:ti.sort=2) (hnp:ti.np=1) (hb:tid < 64+Ts.length) (h64:64≤tid) (hz:T.length < 99990)
  (q:∀T' a6,Dm K T Z 2 T' a6→m7 tid∈T'→Q (vi (T'.idxOf (m7 tid))) a6) :
  i3 c (n+10) (.fix (.ref 363)) [.ref H.st,vi tid] Z Q E:=by
 refine N.fn N.C.self_kind rfl (f9 ⟨l7,N.l7,T4 (by rw[gU h64]; rfl) (f6 ?_)⟩)
 refine h0.K7 N ?_
 refine h0.Jz hb ?_
 rw[e]
 refine f6 λr hr=>A2 ?_
 have w0:=(Dm.start k0 0).new (o:=.list []) hr
 have wF:=k0.off hr
 have h1:=w0.h k0 h0
 obtain⟨o,ns,n1,n2,n3,n4,p,np,f,_⟩:=id (h1.Pg e)
 refine(h1.Pg e).gO N ?_
 refine t7 p (by rw[np,hnp]; decide) (H9 ?_)
 rw[np,hnp]
 refine Q9 (len:=1) (γ:=Option V) (λg=>some (.ref H.st)::some (vi tid)::some (.ref ti.o)::some (.ref r)::g::pad.drop 3) (λi g a6=>(i=0→a6=j1 Z r (.list []))∧(i=1→∃T1,Dm K T Z 1 T1 a6∧.leaf (.var 0)∈T1∧a6 r=some (.list [vi (T1.idxOf (.leaf (.var 0)))]))) none (by decide) ⟨λ_=>rfl,nofun⟩ (λi g a6 R hi I hn _=>?_) λg a6 I=>?_
 ·obtain rfl:=Nat.lt_one_iff.mp hi
  obtain rfl:=I.1 rfl
  refine n8 ⟨_,.append (a7 ..),?_⟩
  refine h1.Lk N ?_
  refine Pd N w0.kt (Nat.lt_trans hz (by decide)) ⟨λ_ T1 u5 g1 k1 s1 hm1=>?_,λh=>h.elim (λh=>absurd h (by decide +kernel)) λh=>absurd h (by decide +kernel)⟩
  have hl1:=s1 _ _ wF (a7 ..)
  refine o6 hl1 (Nat.zero_le _) (j9 ?_)
  exact(hn (some (vi 0)) _ ⟨nofun,λ_=>⟨T1,((w0.next g1 k1 s1).mono (Nat.le_refl 1)).touch hr wF (n0 hl1) λb hb=>i8 hb,hm1,a7 ..⟩⟩).1
 ·obtain⟨T1,w,hm,hl⟩:=I.2 rfl
  refine f7 ?_
  refine Cm hl (Nat.le_of_lt (by decide:1 < 1000000)) ?_
  refine Wa N w.kt (w.h k0 h0) e hs hb (t:=m7 tid) rfl (bS h64) (List.forall_mem_singleton.mpr hm) (Nat.lt_of_le_of_lt w.gr.2 (Nat.lt_trans (Nat.succ_lt_succ hz) (by decide))) ⟨λ_ T3 W8 g3 k3 s3 mK=>?_,λh=>h.elim (λh=>absurd h (by decide:¬24 < 2)) λh=>absurd h (by decide:¬4096 < 2)⟩
  exact q T3 W8 (w.next g3 k3 s3) mK
noncomputable def o9(Ts:List C3) (Fs:List J4) (tid:Nat):Nat→List Tm→Bd→Option Bool
 | 0,_,_=>none
 | n+1,todo,met=>todo.getLast?.elim (some false) λk=>if 1000≤met.length then some false else
   if k.hd.k8=tid then some true else
   if (e9 met k).isSome then o9 Ts Fs tid n todo.dropLast met else o9 Ts Fs tid n (todo.dropLast++t3 Ts Fs k) (met++[(k,k)])
theorem Sv{tid m:Nat}{D:List Tm}{k:Tm}{met:Bd}:o9 Ts Fs tid (m+1) (D++[k]) met=if 1000≤met.length then some false else
   if k.hd.k8=tid then some true else
   if (e9 met k).isSome then o9 Ts Fs tid m D met else o9 Ts Fs tid m (D++t3 Ts Fs k) (met++[(k,k)]):=by
 refine(?_:(D++[k]).getLast?.elim _ _=_)
 rw[List.getLast?_concat,List.dropLast_concat]; rfl
theorem gV{tid:Nat}{ti:C3}(e:G0 Ts tid=some ti):ti∈Ts:=by
 unfold G0 at e
 by_cases q:tid < 64
 ·rw[if_pos q] at e; cases e
 ·rw[if_neg q] at e; exact List.mem_of_getElem? e
theorem O3(hN:∀t∈Ts,t.l9.length≤3) (k:Tm):(K8 Ts Fs k).length≤3∧Gl Ts k≤60:=by
 unfold K8 Gl
 cases e:G0 Ts k.hd.k8 with
 | none=>exact⟨Nat.zero_le 3,Nat.zero_le 60⟩
 | some ti=>exact⟨Nat.le_trans (Ph _) (hN ti (gV e)),Nat.mul_le_mul_left 20 (hN ti (gV e))⟩
theorem Z1(hN:∀t∈Ts,t.l9.length≤3) (k:Tm):(t3 Ts Fs k).length≤3:=by
 unfold t3
 by_cases e:∀f∈K8 Ts Fs k,Fits (f.sub (C0 k))
 ·rw[if_pos e]; exact Nat.le_trans Mv (O3 hN k).1
 ·rw[if_neg e]; exact Nat.zero_le 3
structure a1h(K:H1) (T:List Tm) (Z:a5) (td mt:Addr) (todo:List Tm) (met:Bd) (T':List Tm) (a6:a5):Prop where
 w:Dm K T Z (62+60 * met.length) T' a6
 mz:met.length≤1000
 tz:todo.length≤3+3 * met.length
 tin:∀x∈todo,x∈T'
 min:∀p∈met,p.1∈T'∧p.2∈T'
 td:a6 td=some (.list (todo.map λt=>vi (T'.idxOf t)))
 md:J3 (λt=>vi (T'.idxOf t)) (λ_=>.int 1) met mt a6
theorem mL(N:g0 c){d:Addr}(hN:∀t∈Ts,t.l9.length≤3) (k0:i5 K T Z) (y0:Vq d H.st K Z) (h0:E9 H K T Ts Fs Z){tid:Nat}{ti:C3}(e:G0 Ts tid=some ti) (hs:ti.sort=2) (hnp:ti.np=1) (hb:tid < 64+Ts.length) (h64:64≤tid) (hz:T.length < 39000)
  {m:Nat}{r:Bool}(hl:o9 Ts Fs tid m (t3 Ts Fs (m7 tid)) []=some r)
  (q:∀T' a6,Dm K T Z 61000 T' a6→Q (.bool r) a6) :
  i3 c (n+50) (.fix (.ref 398)) [.ref d,.ref ti.o] Z Q E:=by
 refine N.fn N.C.decl_holds_itself rfl (f6 ?_)
 refine y0.store N ?_
 refine(h0.Pg e).pJ N ?_
 refine Wb N k0 h0 e hs hnp hb h64 (Nat.lt_trans hz (by decide)) λT1 u5 w1 hm1=>?_
 have room {T':List Tm}{m j:Nat}(g:Gr T T' m) (h:m+j≤61000):T'.length+j < 100000:=Nat.lt_of_le_of_lt (Nat.add_le_add_right g.2 j) (by omega)
 refine Vz N w1.kt (w1.y k0 y0) (w1.h k0 h0) hm1 (room w1.gr (Nat.le_trans (Nat.add_le_add_left (O3 (Fs:=Fs) hN _).2 2) (by decide))) λT2 C2 td g2 k2 y2 h2 s2 htd hl2 hm2=>?_
 have w2:=(w1.next g2 k2 s2).mono (Nat.add_le_add_left (O3 (Fs:=Fs) hN _).2 2)
 have wG:=w1.off htd
 refine f6 λmt hmt=>⟨a7 ..,.inl λk hk=>(List.not_mem_nil hk).elim,?_⟩
 rw[show j1 (j1 C2 mt (.dict [])) mt (.dict (G4 [] (z9 [])))=j1 C2 mt (.dict []) from C9]
 have omt:=w2.off hmt
 have hne:td≠mt:=λz=>g9 (j3 hl2) (z ▸ hmt)
 refine Se (λm l a6=>∃x4 todo met T',l=some (.ref d)::some (.ref ti.o)::some (.ref td)::some (.ref mt)::x4::pad.drop 3∧o9 Ts Fs tid m todo met=some r∧a1h K T Z td mt todo met T' a6) (k:=m)
  ⟨none,_,[],T2,rfl,hl,w2.new hmt,Nat.zero_le _,Z1 hN _,hm2,(λp hp=>(List.not_mem_nil hp).elim),(i8 hne).trans hl2,a7 ..⟩ ?_
 rintro m _ a6 ⟨x4,todo,met,T',rfl,hlp,I⟩
 cases m with
 | zero=>cases hlp
 | succ m =>
 have fin {b:Bool}{Bj:a5}(w:Dm K T Z (62+60 * met.length) T' Bj) (h:some b=some r):Q (.bool b) Bj:=Option.some.inj h ▸ q T' Bj (w.mono (Nat.le_trans (Nat.add_le_add_left (Nat.mul_le_mul_left 60 I.mz) 62) (by decide)))
 have tz:todo.length≤10000:=Nat.le_trans I.tz (Nat.le_trans (Nat.add_le_add_left (Nat.mul_le_mul_left 3 I.mz) 3) (by decide))
 refine vZ (Yj (l8 rfl ?_))
 refine I6 I.td (De (Nat.le_trans tz (by decide))) ?_
 rcases(List.eq_nil_or_concat todo).imp_right (λq=>q.imp λD q=>q.imp λk q=>q.trans List.concat_eq_append) with rfl | ⟨D,k,rfl⟩
 ·exact Oy (λh=>h rfl) (S4 (f7 (fin I.w hlp)))
 refine bI (λz=>List.append_ne_nil_of_right_ne_nil D (List.cons_ne_nil k []) (List.map_eq_nil_iff.mp z)) ?_
 rw[Sv] at hlp
 refine V4 I.md (De (Nat.le_trans I.mz (by decide))) ?_
 rw[List.length_map]
 refine K6 (λe1=>T7 (f6 ⟨_,.pop I.td,?_⟩)) λe1=>S4 (f7 (fin I.w ((if_pos (Nat.le_of_not_lt λz=>e1 (Int.ofNat_lt.mpr z))).symm.trans hlp)))
 rw[if_neg (Nat.not_le.mpr (Int.ofNat_lt.mp e1))] at hlp
 have dz:D.length+1≤10000:=(List.length_append (as:=D) (bs:=[k])) ▸ tz
 have tzD:D.length+1≤3+3 * met.length:=(List.length_append (as:=D) (bs:=[k])) ▸ I.tz
 have rY:=I.tin k (List.mem_append_right _ (.head _))
 have rZ:∀x∈D,x∈T':=λx hx=>I.tin x (List.mem_append_left _ hx)
 have sA:=λp hp=>(I.min p hp).1
 refine eF (I.td.trans (congrArg (λl=>some (j8.list l)) List.map_append)) (by rw[List.length_map]; exact Nat.lt_of_lt_of_le dz (by decide)) (f9 ?_)
 have w4:=I.w.touch wG.1 wG.2 (n0 I.td) λb hb=>i8 (o:=.list (D.map λt=>vi (T'.idxOf t))) hb
 have yN:J3 (λt=>vi (T'.idxOf t)) (λ_=>.int 1) met mt (j1 a6 td (.list (D.map λt=>vi (T'.idxOf t)))):=(i8 hne.symm).trans I.md
 refine(w4.y k0 y0).kt N ?_
 refine Yt N w4.kt rY ?_
 refine((w4.h k0 h0).Pg e).pJ N ?_
 refine K6 (λe2=>f7 (fin w4 ((if_pos (Int.ofNat.inj e2)).symm.trans hlp))) λe2=>f9 ?_
 rw[if_neg λz=>e2 (congrArg Int.ofNat z)] at hlp
 refine yN.yL v5 sA rY ?_
 cases hf:e9 met k with
 | some u =>
  rw[if_pos (j3 hf)] at hlp
  exact S4 (j9 ⟨m,Nat.lt_succ_self m,_,rfl,_,D,met,T',rfl,hlp,w4,I.mz,Nat.le_of_succ_le tzD,rZ,I.min,a7 ..,yN⟩)
 | none =>
  rw[if_neg (by rw[hf]; exact Bool.false_ne_true)] at hlp
  refine T7 (D4 ?_)
  refine yN.Pe (k:=k) (v:=k) v5 sA (Nat.le_trans I.mz (by decide)) rY λYp e5 n5=>n8 ?_
  rw[show R0 met k k=met++[(k,k)] by unfold R0; rw[hf]; rfl] at e5
  have w5:=w4.touch omt.1 omt.2 (I3 yN) n5
  have e5t:=(n5 _ hne).trans (a7 ..)
  refine⟨_,.extend e5t,?_⟩
  have hn:=(O3 (Fs:=Fs) hN k).2
  refine Vz N w5.kt (w5.y k0 y0) (w5.h k0 h0) rY (room w5.gr (Nat.le_trans (Nat.add_le_add (Nat.add_le_add_left (Nat.mul_le_mul_left 60 I.mz) 62) hn) (by decide))) λT6 Sw x g6 k6 y6 h6 s6 hx hl6 hm6=>?_
  have e6t:=s6 _ _ wG.2 e5t
  have hd:=Z1 (Fs:=Fs) hN k
  refine eB e6t hl6 (by rw[List.length_map,List.length_map]; exact Nat.le_trans (Nat.add_le_add (Nat.le_of_succ_le dz) hd) (by decide)) (j9 ⟨m,Nat.lt_succ_self m,_,rfl,_,D++t3 Ts Fs k,met++[(k,k)],T6,rfl,hlp,?_⟩)
  refine⟨((w5.next g6 k6 s6).mono ?_).touch wG.1 wG.2 (n0 e6t) (λb hb=>i8 hb),?_,?_,?_,?_,?_,?_⟩
  ·rw[List.length_append]; exact Nat.le_trans (Nat.add_le_add_left hn _) (Nat.le_of_eq (Nat.add_assoc ..))
  ·rw[List.length_append]; exact Int.ofNat_lt.mp e1
  ·rw[List.length_append,List.length_append]; exact Nat.le_trans (Nat.add_le_add (Nat.le_of_succ_le tzD) hd) (Nat.le_of_eq (Nat.add_assoc ..))
  ·exact List.forall_mem_append.mpr ⟨λx hx=>g6.mem (rZ x hx),hm6⟩
  ·exact List.forall_mem_append.mpr ⟨λp hp=>⟨g6.mem (I.min p hp).1,g6.mem (I.min p hp).2⟩,List.forall_mem_singleton.mpr ⟨g6.mem rY,g6.mem rY⟩⟩
  ·rw[a7,List.map_append,O1 g6 rZ]
  ·exact(i8 hne.symm).trans ((s6 _ _ omt.2 e5).trans (congrArg (λx=>some (j8.dict x)) (List.map_congr_left λp hp=>congrArg (λi=>(vi i,V.int 1)) (g6.idx (List.forall_mem_append.mpr ⟨sA,List.forall_mem_singleton.mpr rY⟩ p hp)).symm)))
end
end Mine
end
section
open PySem PySem.W PyProof.Rows PySem.Calls
set_option Elab.async false
set_option genSizeOf false
set_option genInjectivity false
namespace Mine
open Classical
noncomputable def cds:List (Hd×Nat):=[(.var 0,120),(.var 1,121),(.mvar 0,109),(.prim 7,105),(.prim 13,115),(.prim 12,111),(.cls 70,67),(.cls 71,76),(.cls 72,77),(.cls 73,68),(.val 64,83),(.val 65,82),(.val 66,81),(.val 67,78),(.val 68,71),(.val 69,101),(.val 74,86),(.val 75,117),(.arr,97),(.byref,38),(.S3,114)]
noncomputable def Hd.cd(h:Hd):Nat:=((cds.find? λp=>decide (p.1=h)).map (·.2)).getD 0
noncomputable def one(k:Nat):V:=.str ⟨#[k]⟩
noncomputable def Tm.v:Tm→V
 | .leaf h=>.tup [one h.cd]
 | .un h a=>.tup [one h.cd,a.v]
 | .bin h a b=>.tup [one h.cd,a.v,b.v]
noncomputable def Au:List Hd:=[.var 0,.var 1,.mvar 0,.prim 7,.prim 13,.prim 12,.val 69,.val 75]
noncomputable def kH:List Hd:=[.cls 70,.cls 71,.cls 72,.val 74,.val 64,.val 65,.val 66,.val 67,.val 68,.arr,.byref,.S3]
noncomputable def Tm.A3:Tm→Bool
 | .leaf h=>Au.contains h
 | .un h a=>kH.contains h && a.A3
 | .bin h a b=>h == .cls 73 && a.A3 && b.A3
noncomputable def Tm.nest:Tm→Nat
 | .leaf _=>1
 | .un _ a=>a.nest+1
 | .bin _ a b=>max a.nest b.nest+1
theorem mM:∀h∈Au,∀g∈Au,h.cd=g.cd→h=g:=by decide +kernel
theorem wH:∀h∈kH,∀g∈kH,h.cd=g.cd→h=g:=by decide +kernel
theorem one_inj{a b:Nat}(e:one a=one b):a=b:=(List.cons.inj (congrArg (λs:Str=>s.cps.toList) (V.str.inj e))).1
theorem in_of{l:List Hd}{h:Hd}(e:l.contains h=true):h∈l:=List.contains_iff_mem.mp e
theorem Ka:∀{a b:Tm},a.A3=true→b.A3=true→a.v=b.v→a=b
 | .leaf h,.leaf g,ha,hb,e=>congrArg Tm.leaf (mM h (in_of ha) g (in_of hb) (one_inj (List.cons.inj (V.tup.inj e)).1))
 | .un h a,.un g b,ha,hb,e=>an ha λh1 h2=>an hb λg1 g2 =>
  have q:=List.cons.inj (V.tup.inj e)
  congr (congrArg Tm.un (wH h (in_of h1) g (in_of g1) (one_inj q.1))) (Ka h2 g2 (List.cons.inj q.2).1)
 | .bin h a a',.bin g b b',ha,hb,e=>an ha λh1 h3=>an h1 λh1 h2=>an hb λg1 g3=>an g1 λg1 g2 =>
  have q:=List.cons.inj (List.cons.inj (V.tup.inj e)).2
  congr (congr (congrArg Tm.bin ((beq_iff_eq.mp h1).trans (beq_iff_eq.mp g1).symm)) (Ka h2 g2 q.1)) (Ka h3 g3 (List.cons.inj q.2).1)
 | .leaf _,.un _ _,_,_,e=>nomatch (List.cons.inj (V.tup.inj e)).2
 | .leaf _,.bin _ _ _,_,_,e=>nomatch (List.cons.inj (V.tup.inj e)).2
 | .un _ _,.leaf _,_,_,e=>nomatch (List.cons.inj (V.tup.inj e)).2
 | .un _ _,.bin _ _ _,_,_,e=>nomatch (List.cons.inj (List.cons.inj (V.tup.inj e)).2).2
 | .bin _ _ _,.leaf _,_,_,e=>nomatch (List.cons.inj (V.tup.inj e)).2
 | .bin _ _ _,.un _ _,_,_,e=>nomatch (List.cons.inj (List.cons.inj (V.tup.inj e)).2).2
theorem K9(h:Hd):h.cd < 128:=by
 unfold Hd.cd
 cases e:cds.find? λp=>decide (p.1=h) with
 | none=>exact(by decide:0 < 128)
 | some p=>exact(by decide +kernel:∀p∈cds,p.2 < 128) p (List.mem_of_find?_eq_some e)
theorem Bk{k:Nat}(h:k < 128){d:Nat}:(one k).hk d=true:=by
 have:(V.str ⟨#[k]⟩).Hy=true:=(by decide +kernel:∀k,k < 128→(V.str ⟨#[k]⟩).Hy=true) k h
 cases d<;>exact this
theorem Pj:∀{t:Tm}{d:Nat},t.nest≤d→t.v.hk d=true
 | _,0,hd=>by rename_i t; cases t<;>exact absurd hd (Nat.not_succ_le_zero _)
 | .leaf h,d+1,_=>Bool.and_eq_true_iff.mpr ⟨Bk (K9 h),rfl⟩
 | .un h a,d+1,hd=>Bool.and_eq_true_iff.mpr ⟨Bk (K9 h),Bool.and_eq_true_iff.mpr ⟨Pj (t:=a) (Nat.le_of_succ_le_succ hd),rfl⟩⟩
 | .bin h a b,d+1,hd=>have q:=Nat.max_le.mp (Nat.le_of_succ_le_succ hd); Bool.and_eq_true_iff.mpr ⟨Bk (K9 h),Bool.and_eq_true_iff.mpr ⟨Pj (t:=a) q.1,Bool.and_eq_true_iff.mpr ⟨Pj (t:=b) q.2,rfl⟩⟩⟩
theorem gW(t:Tm):∃l,t.v=.tup l:=by cases t<;>exact⟨_,rfl⟩
noncomputable def LT(t:Tm):Prop:=t.A3=true∧t.nest≤8
theorem Aq:Enc Tm.v LT:=⟨λa b ha hb e=>Ka ha.1 hb.1 e,.inr λa ha=>⟨Pj ha.2,gW a⟩⟩
theorem I7(t:Tm):t.v=.tup (one t.hd.cd::t.kids.map Tm.v):=by cases t<;>rfl
theorem LT.kid{t a:Tm}(h:LT t) (ha:a∈t.kids):LT a:=by
 cases t with
 | leaf h'=>exact(List.not_mem_nil ha).elim
 | un h' x=>exact(show a=x from List.mem_singleton.mp ha) ▸ an h.1 λ_ q=>⟨q,Nat.le_of_succ_le h.2⟩
 | bin h' x y =>
  have m:=Nat.max_le.mp (Nat.le_of_succ_le h.2)
  exact an h.1 λq1 q3=>an q1 λ_ q2=>(List.mem_cons.mp (show a∈[x,y] from ha)).elim (λe=>e ▸ ⟨q2,m.1⟩) λq=>(List.mem_singleton.mp q) ▸ ⟨q3,m.2⟩
noncomputable def Sx:List Hd:=[.var 0,.var 1,.mvar 0,.prim 7,.prim 13]
noncomputable def dUn:List Hd:=[.cls 71,.cls 72,.val 74,.arr]
noncomputable def drawn:Nat→Tm→Bool
 | _,.leaf h=>Sx.contains h
 | 0,_=>false
 | k+1,.un h a=>dUn.contains h && drawn k a
 | k+1,.bin h a b=>h == .cls 73 && drawn k a && drawn k b
theorem Sy:∀h∈Sx,Au.contains h=true∧(Tm.leaf h).ok=true∧h.stands=true:=by decide +kernel
theorem gX:∀h∈dUn,kH.contains h=true∧h.fit 1=true∧h.stands=true:=by decide +kernel
theorem Kb:∀{k:Nat}{h:Hd},drawn k (.leaf h)=true→h∈Sx
 | 0,_,e=>in_of e
 | _+1,_,e=>in_of e
theorem I8:∀{k:Nat}{t:Tm},drawn k t=true→t.A3=true∧t.nest≤k+1
 | k,.leaf h,e=>⟨(Sy h (Kb e)).1,Nat.le_add_left 1 k⟩
 | 0,.un h a,e=>no e
 | 0,.bin h a b,e=>no e
 | k+1,.un h a,e=>an e λe1 e2=>have i:=I8 e2; ⟨Bool.and_eq_true_iff.mpr ⟨(gX h (in_of e1)).1,i.1⟩,Nat.succ_le_succ i.2⟩
 | k+1,.bin h a b,e=>an e λe e3=>an e λe1 e2=>have i:=I8 e2; have j:=I8 e3; ⟨Bool.and_eq_true_iff.mpr ⟨Bool.and_eq_true_iff.mpr ⟨e1,i.1⟩,j.1⟩,Nat.succ_le_succ (Nat.max_le.mpr ⟨i.2,j.2⟩)⟩
theorem X3:∀{k:Nat}{t:Tm},drawn k t=true→t.ok=true∧t.stands=true
 | k,.leaf h,e=>(Sy h (Kb e)).2
 | 0,.un h a,e=>no e
 | 0,.bin h a b,e=>no e
 | k+1,.un h a,e=>an e λe1 e2=>have i:=X3 e2; have u:=gX h (in_of e1); ⟨Bool.and_eq_true_iff.mpr ⟨Bool.and_eq_true_iff.mpr ⟨u.2.1,i.1⟩,i.2⟩,u.2.2⟩
 | k+1,.bin h a b,e=>an e λe e3=>an e λe1 e2=>have i:=X3 e2; have j:=X3 e3; by
  obtain rfl:=beq_iff_eq.mp e1
  exact⟨Bool.and_eq_true_iff.mpr ⟨Bool.and_eq_true_iff.mpr ⟨Bool.and_eq_true_iff.mpr ⟨Bool.and_eq_true_iff.mpr ⟨by decide +kernel,i.1⟩,j.1⟩,i.2⟩,j.2⟩,rfl⟩
inductive F0(nu at_:Addr) (B:Nat) (Z:a5):Prop
 | mk (ns:List Nat) (i:Nat) (h1:0 < ns.length) (h2:ns.length≤1000) (h3:∀x∈ns,x < 1048576) (h4:Z nu=some (.list (ns.map vi))) (h5:i≤B) (h6:Z at_=some (.list [vi i])) (ne:nu≠at_)
theorem F0.same{nu at_:Addr}{B:Nat}{Z a6:a5}{F:Addr→Prop}(h:F0 nu at_ B Z) (s:d8 F Z a6) (h1:¬F nu) (h2:¬F at_):F0 nu at_ B a6:=match h with
 | .mk ns i a b c e f g ne=>.mk ns i a b c (s _ _ h1 e) f (s _ _ h2 g) ne
theorem F0.mono{nu at_:Addr}{B B':Nat}{Z:a5}(h:F0 nu at_ B Z) (hb:B≤B'):F0 nu at_ B' Z:=match h with
 | .mk ns i a b c e f g ne=>.mk ns i a b c e (Nat.le_trans f hb) g ne
theorem X4{a:Nat}(h:a≤1152921504606846976):-(2 ^ 60)≤(a:Int)∧(a:Int)≤2 ^ 60:=⟨Int.le_trans (by decide) (Int.natCast_nonneg a),Int.ofNat_le.mpr h⟩
theorem Mw{a b:Nat}(h:a≤1152921504606846976) (h':b≤1152921504606846976):-(2 ^ 60)≤(a:Int)∧(a:Int)≤2 ^ 60∧-(2 ^ 60)≤(b:Int)∧(b:Int)≤2 ^ 60:=⟨(X4 h).1,(X4 h).2,X4 h'⟩
theorem N0{c:Cx}{n:Nat}{Z:a5}{Q:V→a5→Prop}{E:a5→Prop}{nu at_:Addr}{B:Nat}(N:g0 c) (h:F0 nu at_ B Z) (hB:B≤1000000){k:Nat}(hk:0 < k) (q:∀r,r < k→∀a6,F0 nu at_ (B+1) a6→d8 (·=at_) Z a6→Q (vi r) a6) :
  i3 c (n+1) (.fix (.ref 543)) [.ref nu,.ref at_,vi k] Z Q E:=by
 obtain⟨ns,i,a1,a2,a3,a4,b1,b2,hne⟩:=h
 have hi:=Nat.le_trans b1 hB
 have big {j:Nat}(h:j≤1000000):j≤1152921504606846976:=Nat.le_trans h (by decide)
 refine N.fn N.C.fB rfl (f6 ?_)
 refine A1 (k:=0) b2 (by decide) rfl (D4 ⟨?_⟩)
 refine bJ (k:=0) b2 Nat.one_pos (by decide:1≤1000000) λu5 e1 n1=>f6 ?_
 have e4:=(n1 nu hne).trans a4
 refine t7 e4 (by rw[List.length_map]; exact Nat.le_trans a2 (by decide)) ?_
 rw[List.length_map]
 have hl:=Nat.mod_lt i a1
 have lp:(0:Int) < (ns.length:Int):=Int.ofNat_lt.mpr a1
 refine f7 ⟨⟨lp,?_⟩⟩
 refine A1 (k:=i % ns.length) e4 (Nat.lt_of_lt_of_le hl (Nat.le_trans a2 (by decide))) (get_map (List.getElem?_eq_getElem hl)) ⟨⟨⟨lp,Int.lt_of_le_of_lt (Int.ofNat_le.mpr a2) (by decide),X4 (big hi)⟩,?_⟩⟩
 refine A1 (k:=0) e4 (by decide) (get_map (List.getElem?_eq_getElem a1)) ⟨⟨by decide,⟨⟨Mw (a:=3) (by decide) (big hi),⟨⟨Mw (a:=i / ns.length) (b:=ns[0] % 7+3 * i) (big (Nat.le_trans (Nat.div_le_self ..) hi)) ?_,⟨⟨Int.ofNat_lt.mpr hk,?_⟩⟩⟩⟩⟩⟩⟩⟩
 ·exact Nat.le_trans (Nat.add_le_add (Nat.le_of_lt (Nat.mod_lt _ (by decide))) (Nat.mul_le_mul_left 3 hi)) (by decide)
 ·exact q ((ns[i % ns.length]+i / ns.length * (ns[0] % 7+3 * i)) % k) (Nat.mod_lt _ hk) u5 (.mk ns (i+1) a1 a2 a3 e4 (Nat.succ_le_succ b1) e1 hne) (d8.of n1 rfl)
theorem gY:∀r,r < 5→∃h∈Sx,(Str.ofString "xymis").cps[r]?=some h.cd:=by decide +kernel
theorem hH:∀j,j < 5→j≠3→∃h∈dUn,(Str.ofString "LMVDa").cps[j]?=some h.cd:=by decide +kernel
theorem F0.off{nu at_:Addr}{B:Nat}{Z:a5}{b:Addr}(h:F0 nu at_ B Z) (hb:Z b=none):nu≠b∧at_≠b:=match h with
 | .mk _ _ _ _ _ e _ f _=>⟨λz=>g9 (j3 (z ▸ e)) hb,λz=>g9 (j3 (z ▸ f)) hb⟩
noncomputable def cost:Nat→Nat
 | 0=>1
 | k+1=>1+cost k+cost k
section
variable {c:Cx}{n:Nat}{Z:a5}{Q:V→a5→Prop}{E:a5→Prop}{nu at_:Addr}{tl:List (Option V)}
theorem Pk{x:Str}{k u:Nat}{i:Int}{R:V→Prop}(hi:i=(k:Int)) (h:x.cps[k]?=some u) (hk:k < 5) (q:R (one u)):Ei (.str x) (.int i) Z R:=⟨k,u,congrArg V.int hi,Int.natCast_nonneg k,Int.ofNat_lt.mpr (Nat.lt_trans hk (by decide)),h,q⟩
theorem hJ{deep:Nat}{h:Hd}(hm:h∈Sx):drawn deep (.leaf h)=true:=by cases deep<;>exact List.contains_iff_mem.mpr hm
theorem Zc{a b:Int}(q:Q (.int (a - b)) Z):yC .Sub (.int a) (.int b) Z Q:=⟨q⟩
theorem Mx{deep r:Nat}(hr:r < 5) (q:∀t,drawn deep t=true→Q t.v Z):l6 c n (K5.drop 1) (gl (some (.ref nu)::some (.ref at_)::some (vi deep)::some (vi r)::tl)) Z (s9 Q) E:=by
 refine f9 (bI (Int.ofNat_lt.mpr hr) (f7 ?_))
 obtain⟨h,hm,e⟩:=gY r hr
 refine pD (m8 (fV (k7 (l8 rfl ?_))))
 refine Pk rfl e hr ?_
 exact q (.leaf h) (hJ hm)
theorem Sz{j u:Nat}{x y z:Option V}{li:Addr}{l:List V}(hj:j < 5) (hu:(Str.ofString "LMVDa").cps[j]?=some u) (hl:Z li=some (.list l)) (hz:l.length≤2) (q:Q (.tup (one u::l)) Z):l6 c n (K5.drop 4) (gl (x::y::z::some (vi (j+5))::some (.ref li)::tl)) Z (s9 Q) E:=by
 refine f7 ?_
 refine Zc ?_
 refine Pk (Int.add_sub_cancel (j:Int) 5) hu hj ?_
 exact Cm hl (small hz) ⟨⟨Nat.le_trans (Nat.add_le_add_left hz 1) (by decide),q⟩⟩
theorem Bm(N:g0 c):∀(deep:Nat){Z:a5}{B n:Nat}{Q:V→a5→Prop}{E:a5→Prop},F0 nu at_ B Z→B+cost deep≤1000000 →
  (∀t,drawn deep t=true→∀a6,F0 nu at_ (B+cost deep) a6→d8 (·=at_) Z a6→Q t.v a6)→i3 c (n+deep+3) (.fix (.ref 565)) [.ref nu,.ref at_,vi deep] Z Q E
 | 0,Z,B,n,Q,E,h,hB,q=>by
  refine N.fn N.C.Rw rfl (f6 ?_)
  refine Oy (λh=>h rfl) ?_
  refine N0 N h (Nat.le_of_succ_le hB) (k:=5) (by decide) λr hr a6 d s=>?_
  exact Mx hr λt ht=>q t ht a6 d s
 | k+1,Z,B,n,Q,E,h,hB,q=>by
  refine(?_:i3 c (n+k+3+1) _ _ _ _ _)
  have e1:B+(1+cost k+cost k)=B+1+cost k+cost k:=by rw[←Nat.add_assoc,←Nat.add_assoc]
  have hB1:B+1+cost k+cost k≤1000000:=e1 ▸ hB
  have hB2:=Nat.le_trans (Nat.le_add_right ..) hB1
  have q:∀t,drawn (k+1) t=true→∀a6,F0 nu at_ (B+1+cost k+cost k) a6→d8 (·=at_) Z a6→Q t.v a6:=e1 ▸ q
  refine N.fn N.C.Rw rfl (f6 ?_)
  refine bI (λz=>nomatch Int.ofNat.inj z) ?_
  refine N0 N h (Nat.le_trans (Nat.le_add_right B 1) (Nat.le_trans (Nat.le_add_right ..) hB2)) (k:=10) (by decide) λr hr u5 d1 s1=>?_
  by_cases bT:r < 5
  ·exact Mx bT λt ht=>q t ht u5 (d1.mono (Nat.le_trans (Nat.le_add_right ..) (Nat.le_add_right ..))) s1
  obtain⟨j,rfl⟩:∃j,r=j+5:=⟨r - 5,(Nat.sub_add_cancel (Nat.le_of_not_lt bT)).symm⟩
  have hj:j < 5:=Nat.lt_of_add_lt_add_right (n:=5) hr
  have lvl:[V.ref nu,.ref at_,vi k]=[V.ref nu,.ref at_,.int (((k+1:Nat):Int) - 1)]:=congrArg (λi=>[V.ref nu,.ref at_,.int i]) (Int.add_sub_cancel (k:Int) 1).symm
  refine f9 (Oy (λz=>bT (Int.ofNat_lt.mp z)) (f6 ⟨?_⟩))
  refine w9 lvl (Bm N k d1 hB2 λa ha C2 d2 s2 li hli=>f9 ?_)
  have ol:=d2.off hli
  have d3:F0 nu at_ (B+1+cost k) (j1 C2 li (.list [a.v])):=d2.same (F:=λ_=>False) (d8.new hli) id id
  have st3:d8 (·=at_) Z (j1 C2 li (.list [a.v])):=(s1.trans s2).trans ((d8.new hli:d8 (λ_=>False) C2 _).mono λ_ h=>h.elim)
  refine K6 (λe8=>n8 ⟨_,.append (a7 ..),⟨?_⟩⟩) λe8=>?_
  ·obtain rfl:j=3:=Nat.add_right_cancel (m:=5) (Int.ofNat.inj e8)
   refine w9 lvl (Bm N k d3 hB1 λb hb Ho d4 s4=>?_)
   have e4:=s4 _ _ ol.2.symm (a7 ..)
   refine o6 e4 (by decide:1≤1000000) ?_
   refine Sz (j:=3) (u:=(Hd.cls 73).cd) (l:=[a.v,b.v]) (by decide) (by decide +kernel) (a7 ..) (by decide:2≤2) (q (.bin (.cls 73) a b) (Bool.and_eq_true_iff.mpr ⟨Bool.and_eq_true_iff.mpr ⟨beq_self_eq_true _,ha⟩,hb⟩) _ (d4.same (F:=(·=li)) (d8.of (λb hb=>i8 hb) rfl) ol.1 ol.2) λx o hx ex=>?_)
   exact(i8 fun(z:x=li)=>g9 (j3 (show C2 li=some o from z ▸ (s1.trans s2) x o hx ex)) hli).trans ((st3.trans s4) x o hx ex)
  ·obtain⟨h',hm,e⟩:=hH j hj λz=>e8 (z ▸ rfl)
   exact Sz hj e (a7 ..) (by decide:1≤2) (q (.un h' a) (Bool.and_eq_true_iff.mpr ⟨List.contains_iff_mem.mpr hm,ha⟩) _ (d3.mono (Nat.le_add_right ..)) st3)
end
noncomputable def t4(g:Tm→Option Tm):Tm→Option Tm
 | .leaf h=>some (.leaf h)
 | .un h a=>(g a).map (.un h)
 | .bin h a b=>(g a).bind λa=>(g b).map λb=>.bin h a b
noncomputable def l4(f:Bd):Tm→Tm
 | .leaf h=>(e9 f (.leaf h)).getD (.leaf h)
 | .un h a=>(e9 f (.un h a)).getD (.un h (l4 f a))
 | .bin h a b=>(e9 f (.bin h a b)).getD (.bin h (l4 f a) (l4 f b))
theorem Z2{f:Bd}{t u:Tm}(h:e9 f t=some u):l4 f t=u:=by cases t<;>exact congrArg (λo:Option Tm=>o.getD _) h
theorem bU{f:Bd}{t:Tm}(h:e9 f t=none):t4 (λx=>some (l4 f x)) t=some (l4 f t):=by cases t<;>exact(congrArg (λo:Option Tm=>some (o.getD _)) h).symm
noncomputable def F7:Nat→Bd→Tm→Option Tm
 | 0,_,_=>none
 | n+1,f,t=>(e9 f t).elim (t4 (λx=>F7 n f x) t) λu=>F7 n f u
theorem G8{g:Tm→Option Tm}{t r:Tm}(h:t4 g t=some r):t.kids.map g=r.kids.map some∧r.hd=t.hd:=by
 cases t with
 | leaf h'=>exact Option.some.inj h ▸ ⟨rfl,rfl⟩
 | un h' a=>exact(Option.map_eq_some_iff.mp h).elim λx q=>q.2 ▸ ⟨congrArg (λo=>[o]) q.1,rfl⟩
 | bin h' a b=>exact(Option.bind_eq_some_iff.mp h).elim λx q=>(Option.map_eq_some_iff.mp q.2).elim λy q'=>q'.2 ▸ ⟨(by rw[q.1,q'.1]:[g a,g b]=[some x,some y]),rfl⟩
section
variable {c:Cx}{n:Nat}{Z:a5}{Q:V→a5→Prop}{E:a5→Prop}
theorem Wc{t:Tm}{k:Nat}(h:k=1):k+(t.kids.map Tm.v).length≤1000000:=by rw[h,List.length_map]; exact Nat.le_trans (Nat.add_le_add_left (l0 t) 1) (by decide)
theorem Hq{t:Tm}{x:V}:(x::t.kids.map Tm.v).length≤1000000:=Nat.le_trans (Nat.le_of_eq (Nat.add_comm ..)) (Wc (t:=t) rfl)
theorem hO{t:Tm}(q:Q (.tup (t.kids.map Tm.v)) Z):SLC c t.v (some 1) none Z Q:=by
 rw[I7 t]
 exact⟨⟨rfl,1,rfl,Nat.le_refl 1,Nat.succ_le_succ (Nat.zero_le _),Hq,q⟩⟩
theorem I9{t:Tm}{R:V→Prop}(q:R (one t.hd.cd)):Ei t.v (.int 0) Z R:=by
 rw[I7 t]
 exact⟨by decide,q⟩
theorem Dp{fn a:Addr}{t r:Tm}{g:Tm→Option Tm}(hg:t4 g t=some r){x2:Option V}{tl:List (Option V)}
  (hc:∀x∈t.kids,∀y,g x=some y→∀(a6:a5) (Q:V→a5→Prop) (E:a5→Prop),d8 (λ_=>False) Z a6→(∀Bj,d8 (λ_=>False) a6 Bj→Q y.v Bj)→i3 c n (.fix (.ref fn)) [x.v,.ref a] a6 Q E)
  (q:∀a6,d8 (λ_=>False) Z a6→Q r.v a6) :
  l6 c n [.ite (.cmp .Eq (.call (.con (.fix (.builtin "len"))) [(.loc 0)]) (.con (.int 1))) [(.ret (.loc 0))] [],.ret (.bin .Add (.tup [(.sub (.loc 0) (.con (.int 0)))]) (.call (.con (.fix (.type "tuple"))) [(.comp (.call (.con (.fix (.ref fn))) [(.loc 2),(.loc 1)]) (.one 2) (.slc (.loc 0) (some 1) none) [])]))] (gl (some t.v::some (.ref a)::x2::tl)) Z (s9 Q) E:=by
 have hk:=G8 hg
 have er:r.v=.tup (one t.hd.cd::r.kids.map Tm.v):=hk.2 ▸ I7 r
 refine f9 ?_
 refine w9 (vs:=[.tup (one t.hd.cd::t.kids.map Tm.v)]) (congrArg (λv=>[v]) (I7 t).symm) (w8 (Hq) ?_)
 refine K6 (λe=>f7 ?_) λe=>f7 ?_
 ·have ek:t.kids=[]:=List.map_eq_nil_iff.mp (List.eq_nil_of_length_eq_zero (Nat.succ.inj (Int.ofNat.inj e)))
  have e':r.v=t.v:=by rw[er,I7 t,ek,List.map_eq_nil_iff.mp (hk.1.symm.trans (congrArg (List.map g) ek))]
  exact e' ▸ q Z (.refl _ _)
 ·refine I9 ?_
  refine hO ?_
  refine comp_map (iv:=.tup (t.kids.map Tm.v)) Tm.v t.kids (λd acc a6=>d8 (λ_=>False) Z a6∧∃b1:List Tm,d.map g=b1.map some∧acc=b1.map Tm.v) (small (l0 t)) (λ_ _ _ _=>rfl) ⟨.refl _ _,[],rfl,rfl⟩ (λd u lk acc a6 R el I hs _=>?_) λacc a6 I r' hr=>?_
  ·obtain⟨s,b1,e1,e2⟩:=I
   obtain⟨y,hy⟩:∃y,g u=some y:=(List.mem_map.mp (hk.1 ▸ List.mem_map_of_mem (G7 el):g u∈r.kids.map some)).imp λy q=>q.2.symm
   refine T7 ?_
   exact hc u (G7 el) y hy a6 _ _ s λj0 j2=>hs _ _ ⟨s.trans j2,b1++[y],by rw[List.map_append,List.map_append,e1]; exact congrArg (b1.map some++[·]) hy,by rw[List.map_append,e2]; rfl⟩
  ·obtain⟨s,b1,e1,rfl⟩:=I
   obtain rfl:b1=r.kids:=(List.map_inj_right λ_ _=>Option.some.inj).mp (e1.symm.trans hk.1)
   exact Cm (a7 ..) (Nat.le_trans (Nat.le_add_left _ 1) (Wc rfl)) ⟨⟨Wc rfl,er ▸ q _ (s.trans (d8.new hr))⟩⟩
theorem X5{t x:Tm}(h:x∈t.kids):x.nest < t.nest:=by
 cases t with
 | leaf h'=>exact(List.not_mem_nil h).elim
 | un h' a=>exact(show x=a from List.mem_singleton.mp h) ▸ Nat.lt_succ_self _
 | bin h' a b=>exact(List.mem_cons.mp (show x∈[a,b] from h)).elim (λe=>e ▸ Nat.lt_succ_of_le (Nat.le_max_left ..)) λq=>(List.mem_singleton.mp q) ▸ Nat.lt_succ_of_le (Nat.le_max_right ..)
theorem Kc(N:g0 c){f:Bd}{a:Addr}(hf:∀p∈f,LT p.1):∀(m:Nat){t:Tm}{Z:a5}{n:Nat}{Q:V→a5→Prop}{E:a5→Prop},t.nest≤m→J3 Tm.v Tm.v f a Z→LT t →
  (∀a6,d8 (λ_=>False) Z a6→Q (l4 f t).v a6)→i3 c (n+m+2) (.fix (.ref 553)) [t.v,.ref a] Z Q E
 | 0,t,Z,n,Q,E,hm,_,_,_=>by cases t<;>exact absurd hm (Nat.not_succ_le_zero _)
 | m+1,t,Z,n,Q,E,hm,h,ht,q=>by
  refine(?_:i3 c (n+m+2+1) _ _ _ _ _)
  refine N.fn N.C.lO rfl (f9 ?_)
  refine h.yL Aq hf ht ?_
  cases hu:e9 f t with
  | some u =>
   refine T7 (f7 ?_)
   refine h.sub Aq hf ht hu ?_
   exact Z2 hu ▸ q Z (.refl _ _)
  | none =>
   exact S4 (Dp (g:=λx=>some (l4 f x)) (bU hu) (λx hx y hy a6 Q E s q=>Kc N hf m (Nat.le_of_lt_succ (Nat.lt_of_lt_of_le (X5 hx) hm)) (s _ _ id h) (ht.kid hx) (Option.some.inj hy ▸ q)) q)
theorem Hr(N:g0 c){f:Bd}{a:Addr}(hf:∀p∈f,LT p.1∧LT p.2):∀(m:Nat){t r:Tm}{Z:a5}{n:Nat}{Q:V→a5→Prop}{E:a5→Prop},F7 m f t=some r→J3 Tm.v Tm.v f a Z→LT t →
  (∀a6,d8 (λ_=>False) Z a6→Q r.v a6)→i3 c (n+m+2) (.fix (.ref 558)) [t.v,.ref a] Z Q E
 | 0,t,r,Z,n,Q,E,hm,_,_,_=>nomatch hm
 | m+1,t,r,Z,n,Q,E,hm,h,ht,q=>by
  refine(?_:i3 c (n+m+2+1) _ _ _ _ _)
  have hf1:∀p∈f,LT p.1:=λp hp=>(hf p hp).1
  have hm:(e9 f t).elim (t4 (λx=>F7 m f x) t) (λu=>F7 m f u)=some r:=hm
  refine N.fn N.C.fD rfl (f9 ?_)
  refine h.yL Aq hf1 ht ?_
  cases hu:e9 f t with
  | some u =>
   rw[hu] at hm
   refine T7 (f7 ?_)
   refine h.sub Aq hf1 ht hu ?_
   exact Hr N hf m hm h (hf _ (i7 hu)).2 q
  | none =>
   rw[hu] at hm
   exact S4 (Dp hm (λx hx y hy a6 Q E s q=>Hr N hf m hy (s _ _ id h) (ht.kid hx) q) q)
theorem Wd(N:g0 c){f:Bd}{a:Addr}(h:J3 Tm.v Tm.v f a Z) (hf:∀p∈f,LT p.1∧LT p.2){m:Nat}{k r:Tm}(hw:walk m f k=some r) (hk:LT k) (q:Q r.v Z):i3 c (n+1) (.fix (.ref 579)) [.ref a,k.v] Z Q E :=
 N.fn N.C.fF rfl (gF (ls:=λk=>some (.ref a)::some k.v::pad) Aq h hf hw hk (λ_=>rfl) (λ_=>rfl) (λ_ _=>rfl) (f7 q))
noncomputable def allM(g:Tm→Option Bool):List Tm→Option Bool
 | []=>some true
 | a::l=>(g a).bind λx=>cond x (allM g l) (some false)
noncomputable def B8:Nat→Bd→Tm→List Tm→Option Bool
 | 0,_,_,_=>none
 | n+1,f,t,path=>(walk (f.length+1) f t).bind λr=>if r∈path then some false else allM (λx=>B8 n f x (path++[r])) r.kids
theorem LT.far{t:Tm}(h:LT t):t.A3=true∧t.nest≤60:=⟨h.1,Nat.le_trans h.2 (by decide)⟩
theorem hU{a:Addr}{l:List Tm}{t:Tm}(h:Z a=some (.list (l.map Tm.v))) (ht:t.A3=true∧t.nest≤60) (hl:∀x∈l,x.A3=true∧x.nest≤60){R:Bool→Prop}(q:R (decide (t∈l))):IN c t.v (.ref a) Z R:=⟨by
 unfold tF
 dsimp only
 rw[h]
 exact⟨Pj ht.2,List.forall_mem_map.mpr λx hx=>Pj (hl x hx).2,(y4 (decide_eq_true_iff.trans ⟨λh=>List.mem_map_of_mem h,λh=>(List.mem_map.mp h).elim λx hx=>Ka (hl x hx.1).1 ht.1 hx.2 ▸ hx.1⟩):decide (t∈l)=decide (t.v∈l.map Tm.v)) ▸ q⟩⟩
theorem Pl(N:g0 c){f:Bd}{a:Addr}(hf:∀p∈f,LT p.1∧LT p.2):∀(m:Nat){t:Tm}{path:List Tm}{pa:Addr}{r:Bool}{Z:a5}{n:Nat}{Q:V→a5→Prop}{E:a5→Prop},B8 m f t path=some r→J3 Tm.v Tm.v f a Z→LT t→(∀x∈path,LT x)→path.length+m≤10000→Z pa=some (.list (path.map Tm.v)) →
  (∀a6,d8 (λ_=>False) Z a6→Q (.bool r) a6)→i3 c (n+m+2) (.fix (.ref 586)) [.ref a,t.v,.ref pa] Z Q E
 | 0,t,path,pa,r,Z,n,Q,E,hm,_,_,_,_,_,_=>nomatch hm
 | m+1,t,path,pa,r,Z,n,Q,E,hm,h,ht,hp,hz,hpa,q=>by
  refine(?_:i3 c (n+m+2+1) _ _ _ _ _)
  obtain⟨ro,hw,hm⟩:=Option.bind_eq_some_iff.mp (show(walk (f.length+1) f t).bind _=some r from hm)
  have hro:LT ro:=D6 (D:=LT) (λp hp=>(hf p hp).2) ht hw
  refine N.fn N.C.fG rfl (f6 ?_)
  refine Wd N h hf hw ht (f9 ?_)
  refine hU hpa hro.far (λx hx=>(hp x hx).far) ?_
  refine K6 (λe=>f7 ?_) λe=>A2 ?_
  ·exact Option.some.inj ((if_pos e).symm.trans hm) ▸ q Z (.refl _ _)
  rw[if_neg e] at hm
  refine hO ?_
  refine z8 (iv:=.tup (ro.kids.map Tm.v)) Tm.v ro.kids (γ:=Option V) (λg=>some (.ref a)::some t.v::some (.ref pa)::some ro.v::g::pad.drop 2)
   (λd g a6=>d8 (λ_=>False) Z a6∧∀lk,ro.kids=d++lk→allM (λx=>B8 m f x (path++[ro])) lk=some r) none (small (l0 ro)) (λ_ _ _ _=>rfl) ⟨.refl _ _,λlk e=>(show ro.kids=lk from e) ▸ hm⟩ (λd u lk g a6 R el I hn hret=>?_) λg a6 I=>f7 ?_
  ·obtain⟨x,h1,h2⟩:=Option.bind_eq_some_iff.mp (I.2 (u::lk) el)
   have huk:=G7 el
   refine f9 λr1 hr1=>⟨?_⟩
   have s1:d8 (λ_=>False) a6 (j1 a6 r1 (.list [ro.v])):=d8.new hr1
   refine⟨_,_,s1 _ _ id (I.1 _ _ id hpa),a7 ..,?_,λr2 hr2=>?_⟩
   ·rw[List.length_map]; exact Nat.le_trans (Nat.add_le_add_left (Nat.succ_le_succ (Nat.zero_le m)) _) (Nat.le_trans hz (by decide))
   have st:=I.1.trans (s1.trans (d8.new (o:=.list (path.map Tm.v++[ro.v])) hr2))
   have hz2:(path++[ro]).length+m≤10000:=by rw[List.length_append,Nat.add_assoc,Nat.add_comm [ro].length]; exact hz
   refine Pl N hf m h1 (st _ _ id h) (hro.kid huk) (List.forall_mem_append.mpr ⟨hp,List.forall_mem_singleton.mpr hro⟩) hz2 (by rw[a7,List.map_append]; rfl) λXm G2=>?_
   cases x with
   | false=>exact T7 (f7 (hret _ _ _ (Option.some.inj h2 ▸ q Xm (st.trans G2))))
   | true=>exact S4 (j9 (hn _ _ ⟨st.trans G2,λrS e=>(List.append_cancel_left (el.symm.trans (e.trans (List.append_assoc ..))):u::lk=[u]++rS) |> λz=>(show lk=rS from(List.cons.inj z).2) ▸ (show allM (λx=>B8 m f x (path++[ro])) lk=some r from h2)⟩).1)
  ·exact Option.some.inj (I.2 [] (List.append_nil _).symm) ▸ q a6 I.1
end
end Mine
end
section
open PySem PySem.W PyProof.Rows PySem.Calls
set_option Elab.async false
set_option genSizeOf false
set_option genInjectivity false
set_option maxRecDepth 20000
namespace Mine
open Classical
noncomputable def pv(p:Tm×Tm):V:=.tup [p.1.v,p.2.v]
noncomputable def X6(j:Bd→Bd→Option (Option Bd)) (boss D:Bd) (a b:Tm):Option (Option Bd) :=
 if a=b then j boss D
 else if a.hd.isVar=true then j (boss++[(a,b)]) D
 else if b.hd.isVar=true then j (boss++[(b,a)]) D
 else if a.hd≠b.hd then some none
 else j (boss++[(a,b)]) (D++a.kids.zip b.kids)
noncomputable def D9:Nat→Bd→Bd→Option (Option Bd)
 | 0,_,_=>none
 | n+1,boss,todo=>todo.getLast?.elim (some (some boss)) λp=>(walk (boss.length+1) boss p.1).bind λa=>(walk (boss.length+1) boss p.2).bind λb=>X6 (λboss D=>D9 n boss D) boss todo.dropLast a b
theorem Zd{n:Nat}{boss D:Bd}{p:Tm×Tm}:D9 (n+1) boss (D++[p])=(walk (boss.length+1) boss p.1).bind λa=>(walk (boss.length+1) boss p.2).bind λb=>X6 (λboss D=>D9 n boss D) boss D a b:=by
 refine(?_:(D++[p]).getLast?.elim _ _=_)
 rw[List.getLast?_concat,List.dropLast_concat]; rfl
noncomputable def E0(m:Nat) (boss:Bd):Bd→Option Bool
 | []=>some true
 | p::l=>(B8 m boss p.1 []).bind λx=>cond x ((B8 m boss p.2 []).bind λy=>cond y (E0 m boss l) (some false)) (some false)
noncomputable def join(n m:Nat) (equal:Bd):Option (Option Bd):=(D9 n [] equal).bind λo=>o.elim (some none) λboss=>(E0 m boss equal).map λx=>cond x (some boss) none
noncomputable def G9:List Hd:=Au++kH++[.cls 73]
theorem E1{t:Tm}(h:t.A3=true):t.hd∈G9:=by
 cases t with
 | leaf h'=>exact List.mem_append_left _ (List.mem_append_left _ (in_of h))
 | un h' a=>exact List.mem_append_left _ (List.mem_append_right _ (an h λh _=>in_of h))
 | bin h' a b=>exact List.mem_append_right _ (List.mem_singleton.mpr (an h λh _=>an h λh _=>beq_iff_eq.mp h))
theorem hV:∀h∈G9,∀g∈G9,h.cd=g.cd→h=g:=by decide +kernel
theorem hY:∀h∈G9,decide (h.cd∈(Str.ofString "xym").cps.toList)=h.isVar:=by decide +kernel
noncomputable def ar(h:Hd):Nat:=if Au.contains h=true then 0 else if kH.contains h=true then 1 else 2
theorem arity{t:Tm}(h:t.A3=true):t.kids.length=ar t.hd:=by
 cases t with
 | leaf h'=>exact((by decide +kernel:∀h∈Au,ar h=0) h' (in_of h)).symm
 | un h' a=>exact an h λh _=>((by decide +kernel:∀h∈kH,ar h=1) h' (in_of h)).symm
 | bin h' a b=>exact an h λh _=>an h λh _=>(beq_iff_eq.mp h).symm ▸ (by decide +kernel:2=ar (.cls 73))
theorem Dq{a b:Tm}(ha:a.A3=true) (hb:b.A3=true) (e:a.hd=b.hd):a.kids.length=b.kids.length:=(arity ha).trans ((congrArg ar e).trans (arity hb).symm)
section
variable {c:Cx}{n:Nat}{Z:a5}{Q:V→a5→Prop}{E:a5→Prop}
theorem a1m{a b:Tm}(ha:LT a) (hb:LT b){R:Bool→Prop}(q:R (decide (a=b))):EQ a.v b.v Z R:=by
 have hE:=Aq.a0z ha hb
 have q:=(y4 (decide_eq_true_iff.trans ⟨congrArg Tm.v,Ka ha.1 hb.1⟩):decide (a=b)=decide (a.v=b.v)) ▸ q
 rw[I7 a] at hE q ⊢
 exact⟨hE,q⟩
theorem sB{k j:Nat}(hk:k < 128) (hj:j < 128){R:Bool→Prop}(q:R (decide (k=j))):EQ (one k) (one j) Z R :=
 ⟨.inl ⟨Bk hk,Bk hj⟩,(y4 (decide_eq_true_iff.trans ⟨congrArg one,one_inj⟩):decide (k=j)=decide (one k=one j)) ▸ q⟩
theorem Wf{t:Tm}(ht:LT t){R:Bool→Prop}(q:R t.hd.isVar):IN c (one t.hd.cd) (.str (Str.ofString "xym")) Z R :=
 ⟨⟨_,rfl,(hY _ (E1 ht.1)).symm.trans (y4 decide_eq_true_iff) ▸ q⟩⟩
theorem Pm{t x:Tm}{i:Nat}(h:t.kids[i]?=some x){R:V→Prop}(q:R x.v):Ei t.v (vi (i+1)) Z R:=by
 rw[I7 t]
 refine⟨Nat.lt_of_le_of_lt (Nat.le_trans (List.getElem?_eq_some_iff.mp h).1 (l0 t)) (by decide),(?_:S5 (t.kids.map Tm.v)[i]? R)⟩
 rw[get_map h]; exact q
theorem Wg{k:Nat}(h:k≤2):A5 (.rng 1 ((k+1:Nat):Int)) Z ((List.range k).map λi=>vi (i+1)) :=
 ⟨by decide,Int.ofNat_le.mpr (Nat.le_add_left 1 k),Int.ofNat_le.mpr (Nat.le_trans (Nat.succ_le_succ h) (by decide)),by
  rw[show(((k+1:Nat):Int) - 1).toNat=k from congrArg Int.toNat (Int.add_sub_cancel (k:Int) 1)]
  exact List.map_congr_left λi _=>congrArg V.int (Int.add_comm (i:Int) 1)⟩
theorem bV(N:g0 c){a b:Tm}(hlen:a.kids.length=b.kids.length){td:Addr}{todo:Bd}(htd:Z td=some (.list (todo.map pv))) (hz:todo.length≤100000){x0 x1 x5:Option V}{tl:List (Option V)}{Q:Fl→Loc→a5→Prop}
  (q:∀y a6,a6 td=some (.list ((todo++a.kids.zip b.kids).map pv))→(∀x,x≠td→a6 x=Z x)→Q .next (gl (x0::x1::some (.ref td)::some a.v::some b.v::y::tl)) a6) :
  l6 c n [.for (.one 5) (.call (.con (.fix (.type "range"))) [(.con (.int 1)),(.call (.con (.fix (.builtin "len"))) [(.loc 3)])]) [(.exp (.meth (.loc 2) (Str.ofString "append") [(.tup [(.sub (.loc 3) (.loc 5)),(.sub (.loc 4) (.loc 5))])]))]] (gl (x0::x1::some (.ref td)::some a.v::some b.v::x5::tl)) Z Q E:=by
 have hzl:(a.kids.zip b.kids).length=a.kids.length:=by rw[List.length_zip,←hlen,Nat.min_self]
 refine A2 ?_
 refine w9 (vs:=[.tup (one a.hd.cd::a.kids.map Tm.v)]) (congrArg (λv=>[v]) (I7 a).symm) (w8 Hq ?_)
 rw[List.length_cons,List.length_map]
 refine eA ?_
 refine z8 (iv:=.rng 1 ((a.kids.length+1:Nat):Int)) (λi=>vi (i+1)) (List.range a.kids.length) (γ:=Option V) (λy=>x0::x1::some (.ref td)::some a.v::some b.v::y::tl) (λd y a6=>(∀x,x≠td→a6 x=Z x)∧a6 td=some (.list ((todo++(a.kids.zip b.kids).take d.length).map pv))) x5 (by rw[List.length_range]; exact small (l0 a)) (λ_ _ _ _=>Wg (l0 a)) ⟨λ_ _=>rfl,htd.trans (congrArg (λl=>some (j8.list (l.map pv))) (List.append_nil _).symm)⟩ (λd i r y a6 R el I hn _=>?_) λy a6 I=>j9 (q y a6 (I.2.trans ?_) I.1)
 ·obtain⟨rfl,hi⟩:=Sd el
  refine n8 ⟨_,.append I.2,?_⟩
  refine Pm (List.getElem?_eq_getElem hi) ?_
  refine Pm (List.getElem?_eq_getElem (hlen ▸ hi)) ?_
  refine o6 I.2 (by rw[List.length_map,List.length_append]; exact Nat.le_trans (Nat.add_le_add hz (Nat.le_trans (List.length_take_le ..) (Nat.le_trans (Nat.le_trans (Nat.le_of_lt hi) (l0 a)) (Nat.le_refl 2)))) (by decide)) (j9 (hn _ _ ⟨λx hx=>(i8 hx).trans (I.1 x hx),?_⟩).1)
  rw[a7,List.length_append,show d.length+[d.length].length=d.length+1 from rfl,List.take_succ_eq_append_getElem (hzl.symm ▸ hi),←List.append_assoc,List.map_append (l₂:=[_]),List.getElem_zip]; rfl
 ·rw[List.length_range,List.take_of_length_le (Nat.le_of_eq hzl)]
theorem mN{f:Bd}{a b:Tm}{D:Tm→Prop}(hf:∀p∈f,D p.1∧D p.2) (ha:D a) (hb:D b):∀p∈f++[(a,b)],D p.1∧D p.2:=List.forall_mem_append.mpr ⟨hf,List.forall_mem_singleton.mpr ⟨ha,hb⟩⟩
theorem Kd{f:Bd}{a b:Tm}(h:e9 f a=none):R0 f a b=f++[(a,b)]:=by unfold R0; rw[h]; rfl
theorem hZ{D:Tm→Prop}{a b:List Tm}(ha:∀x∈a,D x) (hb:∀x∈b,D x):∀p∈a.zip b,D p.1∧D p.2:=λp hp=>(List.of_mem_zip (a:=p.1) (b:=p.2) hp).imp (ha _) (hb _)
theorem bW(N:g0 c){boss equal:Bd}{ba ea:Addr}(hb:J3 Tm.v Tm.v boss ba Z) (he:Z ea=some (.list (equal.map pv))) (hB:∀p∈boss,LT p.1∧LT p.2) (hE:∀p∈equal,LT p.1∧LT p.2){m:Nat}(hm:m≤9000) (hz:equal.length≤1000){r:Bool}(h:E0 m boss equal=some r){x2 x3 x4:Option V}{tl:List (Option V)}
  (q:∀a6,d8 (λ_=>False) Z a6→Q (cond r (.ref ba) .none) a6):l6 c (n+m+2) (W4.drop 3) (gl (some (.ref ea)::some (.ref ba)::x2::x3::x4::tl)) Z (s9 Q) E:=by
 have fin {b:Bool}{a6:a5}(e:some b=some r) (s:d8 (λ_=>False) Z a6):Q (cond b (.ref ba) .none) a6:=by
  obtain rfl:=Option.some.inj e
  exact q a6 s
 refine A2 ?_
 refine z8 (iv:=.ref ea) pv equal (γ:=Option V×Option V) (λg=>some (.ref ea)::some (.ref ba)::x2::g.1::g.2::tl) (λd g a6=>d8 (λ_=>False) Z a6∧∀lk,equal=d++lk→E0 m boss lk=some r) (x3,x4) (Nat.le_trans hz (by decide)) (λ_ _ _ I=>m9 (I.1 _ _ id he)) ⟨.refl _ _,λlk e=>(show equal=lk from e) ▸ h⟩ (λd u lk g a6 R el I hn hret=>?_) λg a6 I=>f7 (fin (I.2 [] (List.append_nil _).symm) I.1)
 have hu:=hE u (G7 el)
 obtain⟨x,h1,h2⟩:=Option.bind_eq_some_iff.mp (I.2 (u::lk) el)
 have mz:([]:List Tm).length+m≤10000:=Nat.le_trans (Nat.le_of_eq (Nat.zero_add m)) (Nat.le_trans hm (by decide))
 refine f9 λr1 hr1=>?_
 have s1:=I.1.trans (d8.new (o:=.list []) hr1)
 refine Pl N hB m (path:=[]) h1 (s1 _ _ id hb) hu.1 nofun mz (a7 ..) λj0 j2=>?_
 cases x with
 | false=>exact T7 (T7 (f7 (hret _ _ _ (fin h2 (s1.trans j2)))))
 | true =>
  obtain⟨y,h3,h4⟩:=Option.bind_eq_some_iff.mp (show(B8 m boss u.2 []).bind _=some r from h2)
  refine S4 λr3 yO=>?_
  have s3:=(s1.trans j2).trans (d8.new (o:=.list []) yO)
  refine Pl N hB m (path:=[]) h3 (s3 _ _ id hb) hu.2 nofun mz (a7 ..) λa4f Iq=>?_
  cases y with
  | false=>exact T7 (T7 (f7 (hret _ _ _ (fin h4 (s3.trans Iq)))))
  | true=>exact S4 (S4 (j9 (hn (_,_) _ ⟨s3.trans Iq,λrS e=>(show lk=rS from(List.cons.inj (List.append_cancel_left (el.symm.trans (e.trans (List.append_assoc ..))):u::lk=[u]++rS)).2) ▸ (show E0 m boss lk=some r from h4)⟩).1))
end
section
variable {c:Cx}{n:Nat}{Z:a5}{Q:V→a5→Prop}{E:a5→Prop}
theorem d8.touch{F:Addr→Prop}{b0 j0:a5}{a:Addr}(s:d8 F Z b0) (ha:Z a=none) (n:∀b,b≠a→j0 b=b0 b):d8 F Z j0:=λb o hb eb=>(n b λz=>g9 (j3 (z ▸ eb)) ha).trans (s b o hb eb)
theorem Z3{Z a6:a5}{r:Addr}(s:d8 (λ_=>False) Z a6) (h:a6 r=none):Z r=none:=none_of λo q=>g9 (j3 (s r o id q)) h
structure iA(Z:a5) (ba td:Addr) (k:Nat) (boss todo:Bd) (a6:a5):Prop where
 bz:boss.length+k≤10000
 tz:todo.length+2 * k≤30000
 b:J3 Tm.v Tm.v boss ba a6
 t:a6 td=some (.list (todo.map pv))
 s:d8 (λ_=>False) Z a6
 B:∀p∈boss,LT p.1∧LT p.2
 T:∀p∈todo,LT p.1∧LT p.2
theorem iA.put{ba td:Addr}{k:Nat}{boss D:Bd}{b0 j0:a5}{x y:Tm}(I:iA Z ba td (k+1) boss D b0) (hba:Z ba=none) (hne:ba≠td) (hx:LT x) (hy:LT y) (hn:e9 boss x=none) (e:J3 Tm.v Tm.v (R0 boss x y) ba j0) (n:∀b,b≠ba→j0 b=b0 b):iA Z ba td k (boss++[(x,y)]) D j0 where
 bz:=by rw[List.length_append]; exact Nat.le_trans (Nat.le_of_eq (Nat.add_right_comm ..)) I.bz
 tz:=Nat.le_trans (Nat.add_le_add_left (Nat.le_add_right (2 * k) 2) _) I.tz
 b:=Kd hn ▸ e
 t:=(n _ hne.symm).trans I.t
 s:=I.s.touch hba n
 B:=mN I.B hx hy
 T:=I.T
theorem sC(N:g0 c){equal:Bd}{ea:Addr}(he:Z ea=some (.list (equal.map pv))) (hE:∀p∈equal,LT p.1∧LT p.2){M m:Nat}(hM:M≤10000) (hm:m≤9000) (hz:equal.length≤1000){res:Option Bd}(h:join M m equal=some res)
  (q0:res=none→∀a6,d8 (λ_=>False) Z a6→Q .none a6)
  (q1:∀boss,res=some boss→∀a6 ba,d8 (λ_=>False) Z a6→Z ba=none→J3 Tm.v Tm.v boss ba a6→(∀p∈boss,LT p.1∧LT p.2)→Q (.ref ba) a6):i3 c (n+m+3) (.fix (.ref 593)) [.ref ea] Z Q E:=by
 obtain⟨jr,hj,h⟩:=Option.bind_eq_some_iff.mp h
 refine N.fn N.C.fH rfl (f6 λba hba=>⟨a7 ..,.inl λk hk=>(List.not_mem_nil hk).elim,f6 ⟨?_⟩⟩)
 rw[show j1 (j1 Z ba (.dict [])) ba (.dict (G4 [] (z9 [])))=j1 Z ba (.dict []) from C9]
 have s0:d8 (λ_=>False) Z (j1 Z ba (.dict [])):=d8.new hba
 refine⟨_,s0 _ _ id he,by rw[List.length_map]; exact Nat.le_trans hz (by decide),.inl rfl,λtd htd=>?_⟩
 have iB:=Z3 s0 htd
 have hne:ba≠td:=λz=>g9 (j3 (a7 ..)) (z ▸ htd)
 refine Se (λk l a6=>∃x3 x4 x5 boss todo,l=some (.ref ea)::some (.ref ba)::some (.ref td)::x3::x4::x5::pad.drop 5∧D9 k boss todo=some jr∧iA Z ba td k boss todo a6) (k:=M)
  ⟨none,none,none,[],equal,rfl,hj,Nat.le_trans (Nat.le_of_eq (Nat.zero_add M)) hM,Nat.le_trans (Nat.add_le_add hz (Nat.mul_le_mul_left 2 hM)) (by decide),(i8 hne).trans (a7 ..),a7 ..,s0.trans (d8.new htd),(λp hp=>(List.not_mem_nil hp).elim),hE⟩ ?_
 rintro k _ a6 ⟨x3,x4,x5,boss,todo,rfl,hlp,I⟩
 cases k with
 | zero=>cases hlp
 | succ k =>
 have tz:=Nat.le_trans (Nat.le_add_right ..) I.tz
 refine Yj (l8 rfl ?_)
 refine I6 I.t (by rw[List.length_map]; exact Nat.le_trans tz (by decide)) ?_
 rcases(List.eq_nil_or_concat todo).imp_right (λq=>q.imp λD q=>q.imp λk q=>q.trans List.concat_eq_append) with rfl | ⟨D,p,rfl⟩
 ·refine Oy (λh=>h rfl) ?_
  obtain rfl:=Option.some.inj (show some (some boss)=some jr from hlp)
  obtain⟨r,he2,rfl⟩:=Option.map_eq_some_iff.mp h
  refine bW N I.b (I.s _ _ id he) I.B hE hm hz he2 λj0 j2=>?_
  cases r with
  | true=>exact q1 boss rfl j0 ba (I.s.trans j2) hba (j2 _ _ id I.b) I.B
  | false=>exact q0 rfl j0 (I.s.trans j2)
 refine bI (λz=>List.append_ne_nil_of_right_ne_nil D (List.cons_ne_nil p []) (List.map_eq_nil_iff.mp z)) (fR ⟨_,.pop I.t,?_⟩)
 have dz:D.length+1+2 * (k+1)≤30000:=(List.length_append (as:=D) (bs:=[p])) ▸ I.tz
 have hp:=I.T p (List.mem_append_right _ (.head _))
 rw[Zd] at hlp
 obtain⟨a,kF,hlp⟩:=Option.bind_eq_some_iff.mp hlp
 obtain⟨b,pH,hlp⟩:=Option.bind_eq_some_iff.mp hlp
 have ha:LT a:=D6 (D:=LT) (λp hp=>(I.B p hp).2) hp.1 kF
 have hb:LT b:=D6 (D:=LT) (λp hp=>(I.B p hp).2) hp.2 pH
 refine eF (I.t.trans (congrArg (λl=>some (j8.list l)) List.map_append)) (by rw[List.length_map]; exact Nat.lt_of_le_of_lt (Nat.le_of_succ_le (Nat.le_trans (Nat.le_add_right ..) dz)) (by decide)) ?_
 have I4:iA Z ba td (k+1) boss D (j1 a6 td (.list (D.map pv))):=⟨I.bz,Nat.le_trans (Nat.add_le_add_right (Nat.le_succ _) _) dz,(i8 hne).trans I.b,a7 ..,I.s.touch iB λb hb=>i8 hb,I.B,λx hx=>I.T x (List.mem_append_left _ hx)⟩
 refine f6 ?_
 refine Wd N I4.b I.B kF hp.1 (f6 ?_)
 refine Wd N I4.b I.B pH hp.2 (f9 ?_)
 unfold X6 at hlp
 have bl:boss.length≤1000000:=Nat.le_trans (Nat.le_add_right ..) (Nat.le_trans I.bz (by decide))
 have key:=λp hp=>(I.B p hp).1
 refine C1 (l8 rfl (l8 rfl ?_))
 refine o8 ?_
 refine a1m ha hb ?_
 refine K6 (λe=>Vl ?_) λe=>f9 ?_
 ·rw[if_pos e] at hlp
  exact⟨k,Nat.lt_succ_self k,_,rfl,_,_,_,boss,D,rfl,hlp,Nat.le_of_succ_le I4.bz,Nat.le_trans (Nat.add_le_add_left (Nat.le_add_right (2 * k) 2) _) I4.tz,I4.b,I4.t,I4.s,I4.B,I4.T⟩
 rw[if_neg e] at hlp
 refine I9 ?_
 refine Wf ha ?_
 refine bH (λe=>D4 ?_) λe=>f9 ?_
 ·rw[if_pos e] at hlp
  exact I4.b.Pe (v:=b) Aq key bl ha λYp e5 n5=>j9 ⟨k,Nat.lt_succ_self k,_,rfl,_,_,_,boss++[(a,b)],D,rfl,hlp,I4.put hba hne ha hb (k9 kF) e5 n5⟩
 rw[if_neg (Bool.eq_false_iff.mp e)] at hlp
 refine I9 ?_
 refine Wf hb ?_
 refine bH (λe=>D4 ?_) λe=>f9 ?_
 ·rw[if_pos e] at hlp
  exact I4.b.Pe (v:=a) Aq key bl hb λYp e5 n5=>j9 ⟨k,Nat.lt_succ_self k,_,rfl,_,_,_,boss++[(b,a)],D,rfl,hlp,I4.put hba hne hb ha (k9 pH) e5 n5⟩
 rw[if_neg (Bool.eq_false_iff.mp e)] at hlp
 refine I9 ?_
 refine I9 ?_
 refine fW ?_
 refine sB (K9 a.hd) (K9 b.hd) ?_
 refine lT (λe=>f7 ?_) λe=>D4 ?_
 ·rw[if_pos λz=>e (congrArg Hd.cd z)] at hlp
  obtain rfl:=Option.some.inj hlp
  exact q0 (Option.some.inj h).symm _ I4.s
 have ehd:=hV _ (E1 ha.1) _ (E1 hb.1) e
 rw[if_neg λz=>z ehd] at hlp
 refine I4.b.Pe (v:=b) Aq key bl ha λYp e5 n5=>?_
 have I5:=I4.put hba hne ha hb (k9 kF) e5 n5
 have hal:=Dq ha.1 hb.1 ehd
 refine bV N hal I5.t (Nat.le_trans (Nat.le_add_right ..) (Nat.le_trans I5.tz (by decide))) λy Sw t6 n6=>⟨k,Nat.lt_succ_self k,_,rfl,_,_,_,boss++[(a,b)],D++a.kids.zip b.kids,rfl,hlp,I5.bz,?_,(n6 _ hne).trans I5.b,t6,I5.s.touch iB n6,I5.B,List.forall_mem_append.mpr ⟨I5.T,hZ (λx hx=>ha.kid hx) λx hx=>hb.kid hx⟩⟩
 have:=l0 a
 rw[List.length_append,List.length_zip,←hal,Nat.min_self]
 omega
end
noncomputable def Ze:List (Str×Nat):=[("S",64),("R",65),("Q",66),("N",67),("G",68),("e",69),("C",70),("L",71),("M",72),("D",73),("V",74),("u",75)]
noncomputable def Dr:List (V×V):=Ze.map λp=>(.str p.1,vi p.2)
theorem Fc:∀(l acc:List (V×V)),((acc++l).map (·.1)).Nodup→G4 acc l=acc++l
 | [],acc,_=>(List.append_nil acc).symm
 | p::l,acc,h=>by
  have h':=h
  rw[List.map_append,List.nodup_append] at h'
  have hn:E7 acc p.1=none:=Option.map_eq_none_iff.mpr (List.find?_eq_none.mpr λx hx e=>h'.2.2 x.1 (List.mem_map_of_mem hx) p.1 (.head _) (of_decide_eq_true e))
  refine(?_:G4 (dput acc p.1 p.2) l=_)
  rw[O0 hn,Fc l _ (by rw[List.append_assoc]; exact h),List.append_assoc]; rfl
theorem Wh:G4 [] Dr=Dr:=Fc Dr [] (List.pairwise_map.mpr (List.pairwise_map.mpr ((by decide +kernel:Ze.Pairwise λa b=>a.1≠b.1).imp λh e=>h (V.str.inj e))))
theorem My:∀k∈Dr.map (·.1),∃i,k=V.str i:=List.forall_mem_map.mpr (List.forall_mem_map.mpr λp _=>⟨_,rfl⟩)
theorem bX:∀h∈G9,h.isNamed=true→(Ze.find? λp=>decide (p.1=⟨#[h.cd]⟩)).map (·.2)=some h.tid:=by decide +kernel
theorem mO{h:Hd}(hh:h∈G9) (hn:h.isNamed=true):E7 Dr (one h.cd)=some (vi h.tid):=by
 unfold E7 Dr
 rw[List.find?_map,Option.map_map]
 refine Eq.trans ?_ (congrArg (Option.map vi) (bX h hh hn))
 rw[Option.map_map]
 exact congrArg (λq=>(Ze.find? q).map λp=>vi p.2) (funext λp=>(y4 (decide_eq_true_iff.trans ⟨congrArg V.str,V.str.inj⟩):decide (p.1=(⟨#[h.cd]⟩:Str))=decide (V.str p.1=one h.cd)).symm)
structure N1(K:H1) (T:List Tm) (f:Bd) (nm:Addr) (Z:a5):Prop where
 kt:i5 K T Z
 nd:J3 (λt=>vi (T.idxOf t)) Tm.v f nm Z
 ne:nm≠K.i
 all:∀p∈f,p.1∈T∧p.2=p.1
 keys:(f.map (·.1)).Nodup
 clo:∀p∈f,∀a∈p.1.kids,(e9 f a).isSome=true
noncomputable def kC(f f':Bd):Prop:=∀x,(e9 f x).isSome=true→(e9 f' x).isSome=true
section
variable {c:Cx}{n:Nat}{Z:a5}{K:H1}{T:List Tm}{Q:V→a5→Prop}{E:a5→Prop}{nm:Addr}{f:Bd}
theorem N1.same(u:N1 K T f nm Z){a6:a5}(h:d8 (λ_=>False) Z a6):N1 K T f nm a6 :=
 ⟨u.kt.same h,h _ _ id u.nd,u.ne,u.all,u.keys,u.clo⟩
theorem N1.few(u:N1 K T f nm Z):f.length≤T.length :=
 (List.length_map (·.1) (as:=f)) ▸ u.keys.length_le_of_subset λx hx=>(List.mem_map.mp hx).elim λp hp=>hp.2 ▸ (u.all p hp.1).1
theorem N1.Lj(u:N1 K T f nm Z):¬K.F nm:=u.kt.Yw u.nd u.ne
theorem N1.grow(u:N1 K T f nm Z){T':List Tm}{m:Nat}{a6:a5}(g:Gr T T' m) (k:i5 K T' a6) (s:d8 K.F Z a6):N1 K T' f nm a6 :=
 ⟨k,(s _ _ u.Lj u.nd).trans (congrArg (λx=>some (j8.dict x)) (List.map_congr_left λp hp=>congrArg (λi=>(vi i,p.2.v)) (g.idx (u.all p hp).1).symm)),u.ne,λp hp=>⟨g.mem (u.all p hp).1,(u.all p hp).2⟩,u.keys,u.clo⟩
theorem Z4{f:Bd}{x:Tm}:(e9 f x).isSome=true↔x∈f.map (·.1) :=
 (Bool.eq_iff_iff.mp (Option.isSome_map.trans List.isSome_find?)).trans (List.any_eq_true.trans ⟨λh=>h.elim λp hp=>List.mem_map.mpr ⟨p,hp.1,of_decide_eq_true hp.2⟩,λh=>(List.mem_map.mp h).elim λp hp=>⟨p,hp.1,decide_eq_true hp.2⟩⟩)
theorem iC{f:Bd}{k v:Tm}:kC f (R0 f k v):=λx hx=>Z4.mpr (by
 have hx:=Z4.mp hx
 unfold R0
 by_cases e:(e9 f k).isSome=true
 ·rw[if_pos e,List.map_map]
  exact(List.map_congr_left λp _=>Jx p:f.map ((·.1) ∘ λp=>if p.1=k then (p.1,v) else p)=f.map (·.1)) ▸ hx
 ·rw[if_neg e,List.map_append]; exact List.mem_append_left _ hx)
theorem iD(N:g0 c) (u:N1 K T f nm Z){t:Tm}(ht:t∈T) (hk:∀a∈t.kids,(e9 f a).isSome=true){x0 x3 x4 x5:Option V}{tl:List (Option V)}
  (q:∀f' a6,N1 K T f' nm a6→d8 (·=nm) Z a6→kC f f'→(e9 f' t).isSome=true→Q (vi (T.idxOf t)) a6) :
  l6 c n [(.J5 (.loc 1) (.loc 6) (.loc 2)),(.ret (.loc 6))] (gl (x0::some (.ref nm)::some t.v::x3::x4::x5::some (vi (T.idxOf t))::tl)) Z (s9 Q) E:=by
 refine D4 ?_
 refine u.nd.Pe (k:=t) (v:=t) v5 (λp hp=>(u.all p hp).1) (Nat.le_trans u.few (Nat.le_trans u.kt.size (by decide))) ht λu5 e1 n1=>f7 ?_
 have s1:d8 (·=nm) Z u5:=d8.of n1 rfl
 have ext:=iC (f:=f) (k:=t) (v:=t)
 exact q _ u5 ⟨u.kt.keep s1 (λb hb=>hb ▸ u.Lj) (I3 u.nd),e1,u.ne,Pf u.all ⟨ht,rfl⟩,Mq u.keys,Pf (P:=λp=>∀a∈p.1.kids,(e9 (R0 f t t) a).isSome=true) (λp hp a ha=>ext a (u.clo p hp a ha)) λa ha=>ext a (hk a ha)⟩ s1 ext (j3 Mr)
theorem Pn{k:Nat}{s:Str}{R:Bool→Prop}(q:R (decide (k∈s.cps.toList))):IN c (one k) (.str s) Z R:=⟨⟨k,rfl,q⟩⟩
theorem eq_str{k:Nat}{s:Str}{R:Bool→Prop}(hs:(V.str s).Hy=true) (hk:k < 128) (q:R (decide ((⟨#[k]⟩:Str)=s))):EQ (one k) (.str s) Z R :=
 ⟨.inl ⟨Bk hk,hs⟩,(y4 (decide_eq_true_iff.trans ⟨congrArg V.str,V.str.inj⟩):decide ((⟨#[k]⟩:Str)=s)=decide (one k=.str s)) ▸ q⟩
theorem Z5{t:Tm}{h:Hd}(hl:t.A3=true) (e:t.hd=h) (ha:ar h=0):t=.leaf h:=by
 have:=(arity hl).trans ((congrArg ar e).trans ha)
 cases t with
 | leaf h'=>exact congrArg Tm.leaf e
 | un h' a=>exact nomatch this
 | bin h' a b=>exact nomatch this
theorem iE{t:Tm}{h:Hd}(hl:t.A3=true) (e:t.hd=h) (ha:ar h=1):∃a,t=.un h a:=by
 have:=(arity hl).trans ((congrArg ar e).trans ha)
 cases t with
 | leaf h'=>exact nomatch this
 | un h' a=>exact⟨a,congrArg (Tm.un · a) e⟩
 | bin h' a b=>exact nomatch this
theorem a1n:∀h∈G9,h.cd∈(Str.ofString "xy").cps.toList→h=.var 0∨h=.var 1:=by decide +kernel
theorem l_x:∀h∈G9,(⟨#[h.cd]⟩:Str)=Str.ofString "x"→h=.var 0:=by decide +kernel
theorem l_m:∀h∈G9,(⟨#[h.cd]⟩:Str)=Str.ofString "m"→h=.mvar 0:=by decide +kernel
theorem wI:∀h∈G9,h.cd∈(Str.ofString "iso").cps.toList→h=.prim 7∨h=.prim 13∨h=.prim 12:=by decide +kernel
theorem l_i:∀h∈G9,(⟨#[h.cd]⟩:Str)=Str.ofString "i"→h=.prim 7:=by decide +kernel
theorem l_s:∀h∈G9,(⟨#[h.cd]⟩:Str)=Str.ofString "s"→h=.prim 13:=by decide +kernel
theorem l_a:∀h∈G9,(⟨#[h.cd]⟩:Str)=Str.ofString "a"→h=.arr:=by decide +kernel
theorem wJ:∀h∈G9,(⟨#[h.cd]⟩:Str)=Str.ofString "&"→h=.byref:=by decide +kernel
theorem l_r:∀h∈G9,(⟨#[h.cd]⟩:Str)=Str.ofString "r"→h=.S3:=by decide +kernel
theorem mP:∀h∈G9,h.cd∉(Str.ofString "xy").cps.toList→(⟨#[h.cd]⟩:Str)≠Str.ofString "m"→h.cd∉(Str.ofString "iso").cps.toList→(⟨#[h.cd]⟩:Str)≠Str.ofString "a"→(⟨#[h.cd]⟩:Str)≠Str.ofString "&"→(⟨#[h.cd]⟩:Str)≠Str.ofString "r"→h.isNamed=true:=by decide +kernel
theorem l_C:∀h∈G9,h.isNamed=true→(h.cd∈(Str.ofString "CLMD").cps.toList→h=.cls h.tid)∧(h.cd∉(Str.ofString "CLMD").cps.toList→h=.val h.tid):=by decide +kernel
theorem wK(N:g0 c) (u:N1 K T f nm Z){t:Tm}(hl:t.A3=true) (hok:t.ok=true) (hF:Fits t) (hk:∀a∈t.kids,a∈T∧(e9 f a).isSome=true) (hz:T.length < 100000){x4 x6 x7:Option V}{tl:List (Option V)}
  (q:∀T' f' a6,Gr T T' 1→N1 K T' f' nm a6→d8 (CF K nm) Z a6→t∈T'→kC f f'→(e9 f' t).isSome=true→Q (vi (T'.idxOf t)) a6) :
  l6 c (n+8) (W3.drop 2) (gl (some (.ref K.a)::some (.ref nm)::some t.v::some (one t.hd.cd)::x4::some (.tup (t.kids.map λa=>vi (T.idxOf a)))::x6::x7::tl)) Z (s9 Q) E:=by
 have hcd:=K9 t.hd
 have hst:=Hn hok
 have hall:=E1 hl
 have Hb {y7:Option V}{Bs:a5}(u0:N1 K T f nm Bs) (s0:d8 (λ_=>False) Z Bs):cR K T t 1 Bs (λv Z=>l6 c (n+8) [(.J5 (.loc 1) (.loc 6) (.loc 2)),(.ret (.loc 6))] (gl (some (.ref K.a)::some (.ref nm)::some t.v::some (one t.hd.cd)::x4::some (.tup (t.kids.map λa=>vi (T.idxOf a)))::some v::y7::tl)) Z (s9 Q) E) E :=
  ⟨λ_ T' a6 g k s hm=>iD N (u0.grow g k s) hm (λa ha=>(hk a ha).2) λf' Bj u' s' e1 e2=>q T' f' Bj g u' ((s0.mono λ_ h=>h.elim).trans ((s.mono λ_ h=>.inl h).trans (s'.mono λ_ h=>.inr h))) hm e1 e2,λh=>h.elim (λh=>absurd hF.1 (Nat.not_le.mpr h)) λh=>absurd hF.2 (Nat.not_le.mpr h)⟩
 have hu:=Hb (y7:=x7) u (.refl _ _)
 have iF {j:Nat}(hj:j < 16) (e:t=.leaf (.prim j)):l6 c (n+8) [(.J5 (.loc 1) (.loc 6) (.loc 2)),(.ret (.loc 6))] (gl (some (.ref K.a)::some (.ref nm)::some t.v::some (one t.hd.cd)::x4::some (.tup (t.kids.map λa=>vi (T.idxOf a)))::some (vi j)::x7::tl)) Z (s9 Q) E:=by
  have hm:=List.mem_of_getElem? (u.kt.tab.base j hj)
  have hx:T.idxOf t=j:=e ▸ Hm u.kt.tab.nodup (u.kt.tab.base j hj)
  exact hx ▸ iD N u (e ▸ hm) (λa ha=>(hk a ha).2) λf' Bj u' s' e1 e2=>q T f' Bj (.refl _ _) u' (s'.mono λ_ h=>.inr h) (e ▸ hm) e1 e2
 refine f9 ?_
 refine Pn ?_
 refine K6 (λe=>f6 ?_) λe1=>f9 ?_
 ·refine Oz (k7 (m8 (l8 rfl (m8 (I2 (C1 (l8 rfl (k7 ?_))))))))
  refine o8 ?_
  refine eq_str (by decide +kernel) hcd ?_
  refine K6 (λe'=>?_) λe'=>?_
  ·obtain rfl:=Z5 hl (l_x _ hall e') (by decide +kernel)
   exact Pd N u.kt (i:=0) hz hu
  ·obtain rfl:=Z5 hl ((a1n _ hall e).resolve_left λz=>e' (z ▸ by decide +kernel)) (by decide +kernel)
   exact Pd N u.kt (i:=1) hz hu
 refine C1 (l8 rfl (k7 ?_))
 refine o8 ?_
 refine eq_str (by decide +kernel) hcd ?_
 refine K6 (λe=>f6 ?_) λe2=>f9 ?_
 ·obtain rfl:=Z5 hl (l_m _ hall e) (by decide +kernel)
  exact gC N u.kt (i:=0) hz hu
 refine Pn ?_
 refine K6 (λe=>f6 ?_) λe3=>f9 ?_
 ·refine I2 (C1 (l8 rfl (k7 ?_)))
  refine o8 ?_
  refine eq_str (by decide +kernel) hcd ?_
  refine K6 (λe'=>iF (by decide) (Z5 hl (l_i _ hall e') (by decide +kernel))) λe'=>?_
  refine I2 (C1 (l8 rfl (k7 ?_)))
  refine o8 ?_
  refine eq_str (by decide +kernel) hcd ?_
  refine K6 (λe''=>iF (by decide) (Z5 hl (l_s _ hall e'') (by decide +kernel))) λe''=>iF (by decide) (Z5 hl (((wI _ hall e).resolve_left λz=>e' (z ▸ by decide +kernel)).resolve_left λz=>e'' (z ▸ by decide +kernel)) (by decide +kernel))
 refine C1 (l8 rfl (k7 ?_))
 refine o8 ?_
 refine eq_str (by decide +kernel) hcd ?_
 refine K6 (λe=>f6 ?_) λe4=>f9 ?_
 ·obtain⟨a,rfl⟩:=iE hl (l_a _ hall e) (by decide +kernel)
  exact⟨by decide,mC N u.kt (hk a (.head _)).1 (hst a (.head _)).2 hz hu⟩
 refine C1 (l8 rfl (k7 ?_))
 refine o8 ?_
 refine eq_str (by decide +kernel) hcd ?_
 refine K6 (λe=>f6 ?_) λe5=>f9 ?_
 ·obtain⟨a,rfl⟩:=iE hl (wJ _ hall e) (by decide +kernel)
  exact⟨by decide,bN N u.kt (hk a (.head _)).1 (hst a (.head _)).2 hz hu⟩
 refine C1 (l8 rfl (k7 ?_))
 refine o8 ?_
 refine eq_str (by decide +kernel) hcd ?_
 refine K6 (λe=>f6 ?_) λe6=>f6 λr hr=>⟨a7 ..,.inr (.inl My),f6 ?_⟩
 ·obtain⟨a,rfl⟩:=iE hl (l_r _ hall e) (by decide +kernel)
  exact⟨by decide,bO N u.kt (hk a (.head _)).1 (hst a (.head _)).2 hz hu⟩
 have iG:=mP _ hall e1 e2 e3 e4 e5 e6
 generalize hD:G4 [] (z9 _)=D
 obtain rfl:D=Dr:=hD.symm.trans Wh
 rw[C9]
 have s0:d8 (λ_=>False) Z (j1 Z r (.dict Dr)):=d8.new hr
 have u0:=u.same s0
 have hu0:=Hb (y7:=some (.ref r)) u0 s0
 have hsub {R:V→Prop}(q:R (vi t.hd.tid)):Ei (.ref r) (one t.hd.cd) (j1 Z r (.dict Dr)) R:=by
  unfold Ei
  dsimp only
  rw[a7]
  exact⟨.inr (.inl ⟨_,rfl,λp hp=>My p.1 (List.mem_map_of_mem hp)⟩),_,mO hall iG,q⟩
 have hC:=l_C _ hall iG
 refine Pn ?_
 refine K6 (λx=>?_) λx=>?_
 ·refine hsub ?_
  exact Yr N u0.kt (hC.1 x) hok (λa ha=>(hk a ha).1) hz hu0
 ·refine hsub ?_
  exact Ys N u0.kt (hC.2 x) hok (λa ha=>(hk a ha).1) hz hu0
end
theorem kC.refl(f:Bd):kC f f:=λ_ h=>h
theorem kC.trans{a b c:Bd}(x:kC a b) (y:kC b c):kC a c:=λz h=>y z (x z h)
theorem iH{t a:Tm}{m:Nat}(h:t.nest≤m+1) (ha:a∈t.kids):a.nest≤m:=Nat.le_of_lt_succ (Nat.lt_of_lt_of_le (X5 ha) h)
theorem Ds{t a:Tm}(h:t.A3=true) (ha:a∈t.kids):a.A3=true:=by
 cases t with
 | leaf h'=>exact(List.not_mem_nil ha).elim
 | un h' x=>exact(show a=x from List.mem_singleton.mp ha) ▸ an h λ_ q=>q
 | bin h' x y=>exact an h λq1 q3=>an q1 λ_ q2=>(List.mem_cons.mp (show a∈[x,y] from ha)).elim (λe=>e ▸ q2) λq=>(List.mem_singleton.mp q) ▸ q3
structure wL(K:H1) (nm:Addr) (T:List Tm) (f:Bd) (Z:a5) (d:List Tm) (T1:List Tm) (f1:Bd) (a6:a5):Prop where
 gr:Gr T T1 (d.map Tm.weight).sum
 u:N1 K T1 f1 nm a6
 s:d8 (CF K nm) Z a6
 x:kC f f1
 all:∀x∈d,x∈T1∧(e9 f1 x).isSome=true
theorem R2{c:Cx}{K:H1}{nm:Addr}(N:g0 c):∀(m:Nat){t:Tm}{T:List Tm}{f:Bd}{Z:a5}{n:Nat}{Q:V→a5→Prop}{E:a5→Prop},t.nest≤m→t.A3=true→t.ok=true→Fits t→N1 K T f nm Z→T.length+t.weight < 100000 →
  (∀T' f' a6,Gr T T' t.weight→N1 K T' f' nm a6→d8 (CF K nm) Z a6→t∈T'→kC f f'→(e9 f' t).isSome=true→Q (vi (T'.idxOf t)) a6)→i3 c (n+m+12) (.fix (.ref 548)) [.ref K.a,.ref nm,t.v] Z Q E
 | 0,t,T,f,Z,n,Q,E,hm,_,_,_,_,_,_=>by cases t<;>exact absurd hm (Nat.not_succ_le_zero _)
 | m+1,t,T,f,Z,n,Q,E,hm,hl,hok,hF,u,hz,q=>by
  refine(?_:i3 c (n+m+12+1) _ _ _ _ _)
  refine N.fn N.C.fC rfl (f6 ?_)
  refine I9 (f6 ?_)
  refine hO ?_
  refine comp_map (iv:=.tup (t.kids.map Tm.v)) Tm.v t.kids (λd acc a6=>∃T1 f1,wL K nm T f Z d T1 f1 a6∧acc=d.map λx=>vi (T1.idxOf x)) (small (l0 t)) (λ_ _ _ _=>rfl) ⟨T,f,⟨.refl _ _,u,.refl _ _,.refl _,λx hx=>(List.not_mem_nil hx).elim⟩,rfl⟩ (λd y lk acc a6 R el I hs _=>?_) λacc a6 I r hr=>?_
  ·obtain⟨T1,f1,I,rfl⟩:=I
   have hy:=G7 el
   have hw:=Jy el
   refine T7 ?_
   refine R2 N m (iH hm hy) (Ds hl hy) (Hn hok y hy).1 (Sp hF hy) I.u (Nat.lt_of_le_of_lt (Nat.le_trans (Nat.add_le_add_right I.gr.2 _) (Nat.le_trans (Nat.le_of_eq (Nat.add_assoc ..)) (Nat.add_le_add_left (Nat.le_of_lt hw) _))) hz) λT2 f2 C2 g2 u2 s2 hm2 x2 hs2=>?_
   refine hs _ _ ⟨T2,f2,⟨?_,u2,I.s.trans s2,I.x.trans x2,List.forall_mem_append.mpr ⟨λz hz=>⟨g2.mem (I.all z hz).1,x2 z (I.all z hz).2⟩,List.forall_mem_singleton.mpr ⟨hm2,hs2⟩⟩⟩,?_⟩
   ·rw[List.map_append,List.sum_append]; exact I.gr.trans g2
   ·rw[List.map_append,O1 g2 λz hz=>(I.all z hz).1]; rfl
  ·obtain⟨T1,f1,I,rfl⟩:=I
   have hw:=X0 t
   refine Cm (a7 ..) (De (Sq (List.append_nil t.kids).symm)) ?_
   have s2:d8 (λ_=>False) a6 (j1 a6 r (.list (t.kids.map λx=>vi (T1.idxOf x)))):=d8.new hr
   refine wK N (I.u.same s2) hl hok hF I.all (Nat.lt_of_le_of_lt I.gr.2 (Nat.lt_of_le_of_lt (Nat.add_le_add_left (Nat.le_trans (Nat.le_succ _) (Nat.le_of_eq hw)) _) hz)) λT3 f3 W8 g3 u3 s3 mK x3 hs3=>?_
   exact q T3 f3 W8 ((I.gr.trans g3).mono (Nat.le_of_eq hw)) u3 ((I.s.trans (s2.mono λ_ h=>h.elim)).trans s3) mK (I.x.trans x3) hs3
noncomputable def tX:Tm:=.leaf (.var 0)
noncomputable def tY:Tm:=.leaf (.var 1)
noncomputable def tI:Tm:=.leaf (.prim 7)
noncomputable def tS:Tm:=.leaf (.prim 13)
structure O5(k:Nat) (t:Tm):Prop where
 law:t.A3=true
 ok:t.ok=true
 nest:t.nest≤k
theorem O5.mono{k j:Nat}{t:Tm}(h:O5 k t) (hj:k≤j):O5 j t:=⟨h.1,h.2,Nat.le_trans h.3 hj⟩
theorem O5.lt{k:Nat}{t:Tm}(h:O5 k t) (hk:k≤8):LT t:=⟨h.1,Nat.le_trans h.3 hk⟩
theorem O6{k:Nat}{t:Tm}(h:drawn k t=true):O5 (k+1) t∧t.stands=true:=⟨⟨(I8 h).1,(X3 h).1,(I8 h).2⟩,(X3 h).2⟩
theorem Wi(h:Hd):h.Ow≤1:=by cases h<;>first | exact Nat.le_refl 1 | exact Nat.zero_le 1
theorem X7:∀t:Tm,t.depth≤t.nest
 | .leaf h=>Nat.le_refl 1
 | .un h a=>Nat.max_le.mpr ⟨Nat.le_add_left ..,Nat.add_le_add (X7 a) (Wi h)⟩
 | .bin h a b=>Nat.max_le.mpr ⟨Nat.max_le.mpr ⟨Nat.le_add_left ..,Nat.add_le_add (Nat.le_trans (X7 a) (Nat.le_max_left ..)) (Wi h)⟩,Nat.add_le_add (Nat.le_trans (X7 b) (Nat.le_max_right ..)) (Wi h)⟩
theorem iI{x y m:Nat}(h1:x+1≤2 ^ m) (h2:y+1≤2 ^ m):1+x+y+1≤2 ^ (m+1):=by
 rw[Nat.pow_succ]; omega
theorem H4:∀t:Tm,t.weight+1≤2 ^ t.nest
 | .leaf h=>Nat.le_refl 2
 | .un h a=>iI (y:=0) (H4 a) Nat.one_le_two_pow
 | .bin h a b=>iI (Nat.le_trans (H4 a) (Nat.pow_le_pow_right (by decide) (Nat.le_max_left ..))) (Nat.le_trans (H4 b) (Nat.pow_le_pow_right (by decide) (Nat.le_max_right ..)))
theorem O5.fits{k:Nat}{t:Tm}(h:O5 k t) (hk:k≤12):Fits t :=
 have n:=Nat.le_trans h.3 hk
 ⟨Nat.le_trans (X7 t) (Nat.le_trans n (by decide)),Nat.le_of_succ_le (Nat.le_trans (H4 t) (Nat.pow_le_pow_right (by decide) n))⟩
theorem O5.light{k:Nat}{t:Tm}(h:O5 k t) (hk:k≤6):t.weight≤63:=Nat.le_of_succ_le_succ (Nat.le_trans (H4 t) (Nat.pow_le_pow_right (by decide) (Nat.le_trans h.3 hk)))
theorem O5.un{k:Nat}{h:Hd}{a:Tm}(x:O5 k a∧a.stands=true) (hu:kH.contains h=true∧h.fit 1=true):O5 (k+1) (.un h a):=⟨Bool.and_eq_true_iff.mpr ⟨hu.1,x.1.1⟩,Bool.and_eq_true_iff.mpr ⟨Bool.and_eq_true_iff.mpr ⟨hu.2,x.1.2⟩,x.2⟩,Nat.succ_le_succ x.1.3⟩
theorem O5.bin{k:Nat}{a b:Tm}(x:O5 k a∧a.stands=true) (y:O5 k b∧b.stands=true):O5 (k+1) (.bin (.cls 73) a b)∧(Tm.bin (.cls 73) a b).stands=true :=
 ⟨⟨Bool.and_eq_true_iff.mpr ⟨Bool.and_eq_true_iff.mpr ⟨beq_self_eq_true _,x.1.1⟩,y.1.1⟩,Bool.and_eq_true_iff.mpr ⟨Bool.and_eq_true_iff.mpr ⟨Bool.and_eq_true_iff.mpr ⟨Bool.and_eq_true_iff.mpr ⟨by decide +kernel,x.1.2⟩,y.1.2⟩,x.2⟩,y.2⟩,Nat.succ_le_succ (Nat.max_le.mpr ⟨x.1.3,y.1.3⟩)⟩,rfl⟩
structure POk(f:Bd) (k:Nat) (t:Tm):Prop where
 law:(l4 f t).A3=true
 ok:(l4 f t).ok=true
 nest:(l4 f t).nest+1≤t.nest+k
 st:t.stands=true→(l4 f t).stands=true
theorem R3{f:Bd}{k:Nat}(hk:1≤k) (hv:∀p∈f,O5 k p.2∧p.2.stands=true) (hkey:∀p∈f,∃h,p.1=.leaf h):∀{t:Tm},t.A3=true→t.ok=true→POk f k t
 | .leaf h,hl,ho=>by
  cases e:e9 f (.leaf h) with
  | none =>
   have e':l4 f (.leaf h)=.leaf h:=congrArg (λo:Option Tm=>o.getD _) e
   exact⟨e'.symm ▸ hl,e'.symm ▸ ho,e'.symm ▸ Nat.add_le_add_left hk 1,λx=>e'.symm ▸ x⟩
  | some u =>
   have q:=hv _ (i7 e)
   have e':=Z2 e
   exact⟨e'.symm ▸ q.1.1,e'.symm ▸ q.1.2,e'.symm ▸ Nat.le_trans (Nat.succ_le_succ q.1.3) (Nat.le_of_eq (Nat.add_comm k 1)),λ_=>e'.symm ▸ q.2⟩
 | .un h a,hl,ho=>an hl λl1 l2=>an ho λo1 o3=>an o1 λo1 o2=>by
  have e:l4 f (.un h a)=.un h (l4 f a):=congrArg (λo:Option Tm=>o.getD _) (none_of λu e=>(hkey _ (i7 e)).elim nofun:e9 f (.un h a)=none)
  have i:=R3 hk hv hkey l2 o2
  exact⟨e.symm ▸ Bool.and_eq_true_iff.mpr ⟨l1,i.1⟩,e.symm ▸ Bool.and_eq_true_iff.mpr ⟨Bool.and_eq_true_iff.mpr ⟨o1,i.2⟩,i.4 o3⟩,e.symm ▸ Nat.le_trans (Nat.succ_le_succ i.3) (Nat.le_of_eq (Nat.add_right_comm a.nest k 1)),λx=>e.symm ▸ x⟩
 | .bin h a b,hl,ho=>an hl λl1 l3=>an l1 λl1 l2=>an ho λo1 o5=>an o1 λo1 o4=>an o1 λo1 o3=>an o1 λo1 o2=>by
  have e:l4 f (.bin h a b)=.bin h (l4 f a) (l4 f b):=congrArg (λo:Option Tm=>o.getD _) (none_of λu e=>(hkey _ (i7 e)).elim nofun:e9 f (.bin h a b)=none)
  have i:=R3 hk hv hkey l2 o2
  have j:=R3 hk hv hkey l3 o3
  have m:max (l4 f a).nest (l4 f b).nest < max a.nest b.nest+k:=Nat.max_lt.mpr ⟨Nat.lt_of_lt_of_le i.3 (Nat.add_le_add_right (Nat.le_max_left ..) k),Nat.lt_of_lt_of_le j.3 (Nat.add_le_add_right (Nat.le_max_right ..) k)⟩
  exact⟨e.symm ▸ Bool.and_eq_true_iff.mpr ⟨Bool.and_eq_true_iff.mpr ⟨l1,i.1⟩,j.1⟩,e.symm ▸ Bool.and_eq_true_iff.mpr ⟨Bool.and_eq_true_iff.mpr ⟨Bool.and_eq_true_iff.mpr ⟨Bool.and_eq_true_iff.mpr ⟨o1,i.2⟩,j.2⟩,i.4 o4⟩,j.4 o5⟩,e.symm ▸ Nat.le_trans (Nat.succ_le_succ m) (Nat.le_of_eq (Nat.add_right_comm (max a.nest b.nest) k 1)),λx=>e.symm ▸ x⟩
section
variable {c:Cx}{n:Nat}{Z:a5}{Q:V→a5→Prop}{E:a5→Prop}{nu at_:Addr}{B:Nat}
theorem Po{bd:Bd}{vs:List V}(hv:z9 vs=bd.map λp=>(p.1.v,p.2.v)) (hk:∀p∈bd,LT p.1) (hn:(bd.map (·.1)).Nodup):U1 ((z9 vs).map (·.1))∧G4 [] (z9 vs)=bd.map λp=>(p.1.v,p.2.v):=by
 rw[hv]
 exact⟨.inr (.inr (List.forall_mem_map.mpr (List.forall_mem_map.mpr λp hp=>⟨Pj (hk p hp).2,gW _⟩))),
  Fc _ [] (List.pairwise_map.mpr (List.pairwise_map.mpr ((List.pairwise_map.mp hn).imp_of_mem λha hb h e=>h (Ka (hk _ ha).1 (hk _ hb).1 e))))⟩
theorem R4{h:Hd}(e:Au.contains h=true):LT (.leaf h):=⟨e,(by decide:1≤8)⟩
theorem wM:tX.v=.tup [.str (Str.ofString "x")]:=congrArg (λs=>V.tup [.str s]) (by decide +kernel)
theorem yP:tY.v=.tup [.str (Str.ofString "y")]:=congrArg (λs=>V.tup [.str s]) (by decide +kernel)
theorem v_I:tI.v=.tup [.str (Str.ofString "i")]:=congrArg (λs=>V.tup [.str s]) (by decide +kernel)
theorem v_S:tS.v=.tup [.str (Str.ofString "s")]:=congrArg (λs=>V.tup [.str s]) (by decide +kernel)
theorem wN:one (Hd.cls 73).cd=.str (Str.ofString "D"):=congrArg V.str (by decide +kernel)
theorem mQ:one Hd.byref.cd=.str (Str.ofString "&"):=congrArg V.str (by decide +kernel)
theorem X8{h:Hd}(e:Au.contains h=true∧(Tm.leaf h).ok=true∧h.stands=true):O5 1 (.leaf h)∧(Tm.leaf h).stands=true:=⟨⟨e.1,e.2.1,Nat.le_refl 1⟩,e.2.2⟩
theorem sD:∀j,j < 2→∃h:Hd,(h=.byref∨h=.S3)∧(Str.ofString "&r").cps[j]?=some h.cd
 | 0,_=>⟨.byref,.inl rfl,by decide +kernel⟩
 | 1,_=>⟨.S3,.inr rfl,by decide +kernel⟩
theorem sE(N:g0 c) (h:F0 nu at_ B Z) (hB:B+100≤1000000) (q:∀a b,O5 6 a→O5 6 b→∀a6,F0 nu at_ (B+100) a6→d8 (·=at_) Z a6→Q (.tup [a.v,b.v]) a6) :
  i3 c (n+20) (.fix (.ref 572)) [.ref nu,.ref at_] Z Q E:=by
 have room {j:Nat}(h:j≤100):B+j≤1000000:=Nat.le_trans (Nat.add_le_add_left h B) hB
 refine N.fn N.C.fE rfl (f6 ?_)
 refine N0 N h (room (Nat.zero_le _)) (k:=6) (by decide) λway a6u u5 d1 s1=>f6 ?_
 refine Bm N 2 d1 (room (by decide:8≤100)) λone ho C2 d2 s2=>f6 ?_
 refine Bm N 1 d2 (room (by decide:11≤100)) λfirst hf W8 d3 s3=>f6 ?_
 refine Bm N 1 d3 (room (by decide:14≤100)) λsecond hs Ho d4 s4=>f6 ?_
 have o1:=O6 ho
 have f1:=O6 hf
 have g1:=O6 hs
 have hkey:∀p∈[(tX,first),(tY,second)],LT p.1:=List.forall_mem_cons.mpr ⟨R4 (by decide +kernel),List.forall_mem_singleton.mpr (R4 (by decide +kernel))⟩
 have d5:=Po (bd:=[(tX,first),(tY,second)]) (vs:=[.tup [.str (Str.ofString "x")],first.v,.tup [.str (Str.ofString "y")],second.v]) (by
  refine(?_:_=[(tX.v,first.v),(tY.v,second.v)])
  rw[wM,yP]; rfl) hkey (by decide +kernel:[tX,tY].Nodup)
 refine λr5 bT=>⟨a7 ..,d5.1,?_⟩
 generalize hD:G4 [] (z9 _)=D
 obtain rfl:=hD.symm.trans d5.2
 rw[C9]
 have db5:J3 Tm.v Tm.v [(tX,first),(tY,second)] r5 (j1 Ho r5 (.dict ([(tX,first),(tY,second)].map λp=>(p.1.v,p.2.v)))):=a7 ..
 have s5:d8 (λ_=>False) Ho _:=d8.new (o:=.dict ([(tX,first),(tY,second)].map λp=>(p.1.v,p.2.v))) bT
 refine Kc N hkey 3 o1.1.3 db5 (o1.1.lt (by decide)) λSw s6=>?_
 have t1:=R3 (f:=[(tX,first),(tY,second)]) (k:=2) (by decide) (List.forall_mem_cons.mpr ⟨f1,List.forall_mem_singleton.mpr g1⟩) (List.forall_mem_cons.mpr ⟨⟨_,rfl⟩,List.forall_mem_singleton.mpr ⟨_,rfl⟩⟩) o1.1.1 o1.1.2
 have Pp:O5 4 (l4 [(tX,first),(tY,second)] one)∧(l4 [(tX,first),(tY,second)] one).stands=true:=⟨⟨t1.1,t1.2,Nat.le_of_succ_le_succ (Nat.le_trans t1.3 (Nat.add_le_add_right o1.1.3 2))⟩,t1.4 o1.2⟩
 generalize l4 [(tX,first),(tY,second)] one=two at Pp
 have wO:=s5.trans s6
 have d6:=d4.same wO id id
 have S6:=(((s1.trans s2).trans s3).trans s4).trans (wO.mono λ_ h=>h.elim)
 have fin {j:Nat}{a6:a5}(hj:j≤100) (d:F0 nu at_ (B+j) a6):=d.mono (Nat.add_le_add_left hj B)
 refine f9 ?_
 refine K6 (λ_=>f7 ?_) λw0=>f9 ?_
 ·refine Bm N 2 d6 (room (by decide:21≤100)) λt2 ht2 mR d7 s7=>?_
  exact q one t2 (o1.1.mono (by decide)) ((O6 ht2).1.mono (by decide)) mR (fin (by decide:21≤100) d7) (S6.trans s7)
 have d6':=fin (by decide:14≤100) d6
 refine K6 (λ_=>f7 ?_) λw3=>f9 ?_
 ·have:=q (.bin (.cls 73) tX (.bin (.cls 73) tY one)) (.bin (.cls 73) first (.bin (.cls 73) second two)) ((O5.bin (k:=4) ⟨(X8 (by decide +kernel)).1.mono (by decide),by decide +kernel⟩ (O5.bin (k:=3) ⟨(X8 (by decide +kernel)).1.mono (by decide),by decide +kernel⟩ o1)).1.mono (by decide)) (O5.bin (k:=5) ⟨f1.1.mono (by decide),f1.2⟩ (O5.bin (k:=4) ⟨g1.1.mono (by decide),g1.2⟩ Pp)).1 Sw d6' S6
  refine(?_:Q (.tup [.tup [.str (Str.ofString "D"),.tup [.str (Str.ofString "x")],.tup [.str (Str.ofString "D"),.tup [.str (Str.ofString "y")],one.v]],.tup [.str (Str.ofString "D"),first.v,.tup [.str (Str.ofString "D"),second.v,two.v]]]) Sw)
  rw[←wN,←wM,←yP]; exact this
 refine K6 (λ_=>f7 ?_) λw4=>f9 ?_
 ·have d7:=Po (bd:=[(tI,tS)]) (vs:=[.tup [.str (Str.ofString "i")],.tup [.str (Str.ofString "s")]]) (by
   refine(?_:_=[(tI.v,tS.v)])
   rw[v_I,v_S]; rfl) (List.forall_mem_singleton.mpr (R4 (by decide +kernel))) (List.pairwise_singleton ..)
  refine λr7 hr7=>⟨a7 ..,d7.1,?_⟩
  generalize hD:G4 [] (z9 _)=D
  obtain rfl:=hD.symm.trans d7.2
  rw[C9]
  have db7:J3 Tm.v Tm.v [(tI,tS)] r7 (j1 Sw r7 (.dict ([(tI,tS)].map λp=>(p.1.v,p.2.v)))):=a7 ..
  have s7:d8 (λ_=>False) Sw _:=d8.new (o:=.dict ([(tI,tS)].map λp=>(p.1.v,p.2.v))) hr7
  refine Kc N (f:=[(tI,tS)]) (List.forall_mem_singleton.mpr (R4 (by decide +kernel))) 4 Pp.1.3 db7 (Pp.1.lt (by decide)) λσ8 s8=>?_
  have t2:=R3 (f:=[(tI,tS)]) (k:=1) (by decide) (List.forall_mem_singleton.mpr (X8 (by decide +kernel))) (List.forall_mem_singleton.mpr ⟨_,rfl⟩) Pp.1.1 Pp.1.2
  have s78:=s7.trans s8
  exact q one _ (o1.1.mono (by decide)) ⟨t2.1,t2.2,Nat.le_trans (Nat.le_of_succ_le_succ t2.3) (Nat.le_trans Pp.1.3 (by decide))⟩ σ8 (d6'.same s78 id id) (S6.trans (s78.mono λ_ h=>h.elim))
 refine K6 (λ_=>f7 ?_) λw5=>f7 (q one two (o1.1.mono (by decide)) (Pp.1.mono (by decide)) Sw d6' S6)
 refine N0 N d6 (room (by decide:14≤100)) (k:=2) (by decide) λj hj mR d7 s7=>?_
 obtain⟨h',hh,e⟩:=sD j hj
 have k1:O5 6 (.un .byref one):=(O5.un o1 (by decide +kernel)).mono (by decide)
 have k2:O5 6 (.un h' two):=(O5.un Pp (hh.elim (λz=>z ▸ by decide +kernel) λz=>z ▸ by decide +kernel)).mono (by decide)
 refine⟨j,h'.cd,rfl,Int.natCast_nonneg j,Int.ofNat_lt.mpr (Nat.lt_trans hj (by decide)),e,?_⟩
 have:=q _ _ k1 k2 mR (fin (by decide:15≤100) d7) (S6.trans s7)
 refine(?_:Q (.tup [.tup [.str (Str.ofString "&"),one.v],.tup [Mine.one h'.cd,two.v]]) mR)
 rw[←mQ]; exact this
end
end Mine
end
section
open PySem PySem.W PyProof.Rows PySem.Calls
set_option Elab.async false
set_option genSizeOf false
set_option genInjectivity false
namespace Mine
open Classical
theorem fresh_ne{Z:a5}{r b:Addr}{o:j8}(hr:Z r=none) (hb:Z b=some o):b≠r:=λe=>g9 (j3 hb) (e ▸ hr)
theorem O7{α:Type}{l:List α}(h:l.Nodup){i j:Nat}{a:α}(hi:l[i]?=some a) (hj:l[j]?=some a):i=j :=
 (List.getElem?_inj (List.getElem?_eq_some_iff.mp hi).1 h).mp (hi.trans hj.symm)
theorem Zf:∀{names:List Str}{vals:List V}{x:Str}{v:V},names.Nodup→names[vals.length]?=some x→aI (names.zip vals) x v=names.zip (vals++[v])
 | [],vals,x,v,_,h=>by cases h
 | y::r,[],x,v,_,h=>by
  rw[List.zip_nil_right,←Option.some.inj h]
  exact congrArg (List.cons (y,v)) (List.zip_nil_right (l:=r)).symm
 | y::r,u::vals,x,v,hd,h=>by
  refine(if_neg λe=>?_).trans (congrArg (List.cons (y,u)) (Zf (List.nodup_cons.mp hd).2 h))
  exact(List.nodup_cons.mp hd).1 (e ▸ List.mem_of_getElem? h)
theorem C4:∀{names:List Str}{vals:List V}{i:Nat}{x:Str}{v:V},names.Nodup→names[i]?=some x→vals[i]?=some v→(names.zip vals).lookup x=some v
 | [],_,_,_,_,_,h,_=>by cases h
 | _::_,[],_,_,_,_,_,h=>by cases h
 | y::r,u::vals,0,x,v,_,h,h'=>by
  obtain rfl:=Option.some.inj h
  exact(List.lookup_cons_self).trans h'
 | y::r,u::vals,i+1,x,v,hd,h,h'=>by
  refine Eq.trans ?_ (C4 (List.nodup_cons.mp hd).2 h h')
  refine(List.lookup_cons ..).trans ?_
  rw[beq_eq_false_iff_ne.mpr λe:x=y=>(List.nodup_cons.mp hd).1 (e ▸ List.mem_of_getElem? h)]; rfl
structure Bl(Bs:a5) (as:List Addr) (os:List j8) (Z:a5):Prop where
 nd:as.Nodup
 len:as.length=os.length
 fresh:∀a∈as,Bs a=none
 has:∀(i:Nat){a o},as[i]?=some a→os[i]?=some o→Z a=some o
 old:d8 (λ_=>False) Bs Z
section
variable {c:Cx}{n:Nat}{Bs Z a6:a5}{as as':List Addr}{os os':List j8}{a:Addr}{o:j8}
theorem Bl.keep(B:Bl Bs as os Z) (s:d8 (λ_=>False) Z a6):Bl Bs as os a6:=⟨B.nd,B.len,B.fresh,λi _ _ h h'=>s _ _ id (B.has i h h'),B.old.trans s⟩
theorem Bl.one(h:Z a=none):Bl Z [a] [o] (j1 Z a o) where
 nd:=List.nodup_cons.mpr ⟨List.not_mem_nil,.nil⟩
 len:=rfl
 fresh b hb:=List.mem_singleton.mp hb ▸ h
 has i:=match i with
  | 0=>λe e'=>by rw[←Option.some.inj e,←Option.some.inj e']; exact a7 ..
  | _+1=>λe=>by cases e
 old:=.new h
theorem Bl.app(B:Bl Bs as os Z) (B':Bl Z as' os' a6):Bl Bs (as++as') (os++os') a6 where
 nd:=List.nodup_append.mpr ⟨B.nd,B'.nd,λa ha b hb e=>by
  obtain⟨i,hi⟩:=List.mem_iff_getElem?.mp ha
  have h1:=B.has i hi (List.getElem?_eq_getElem (B.len ▸ (List.getElem?_eq_some_iff.mp hi).1))
  exact(fresh_ne (B'.fresh b hb) h1) e⟩
 len:=by rw[List.length_append,List.length_append,B.len,B'.len]
 fresh a ha:=(List.mem_append.mp ha).elim (B.fresh a) λh=>Z3 B.old (B'.fresh a h)
 has i a o h h':=by
  rw[List.getElem?_append] at h h'
  by_cases hi:i < as.length
  ·rw[if_pos hi] at h; rw[if_pos (B.len ▸ hi)] at h'
   exact B'.old _ _ id (B.has i h h')
  ·rw[if_neg hi] at h; rw[if_neg (B.len ▸ hi),←B.len] at h'
   exact B'.has _ h h'
 old:=B.old.trans B'.old
theorem Bl.put(B:Bl Bs as os Z){i:Nat}(ha:as[i]?=some a) (h1:a6 a=some o) (h2:∀b,b≠a→a6 b=Z b):Bl Bs as (os.set i o) a6 where
 nd:=B.nd
 len:=B.len.trans List.length_set.symm
 fresh:=B.fresh
 has j b p h h':=by
  rw[List.getElem?_set] at h'
  by_cases e:i=j
  ·rw[if_pos e,if_pos (B.len ▸ (List.getElem?_eq_some_iff.mp ha).1)] at h'
   exact Option.some.inj h' ▸ (Option.some.inj (ha.symm.trans (e ▸ h)):a=b) ▸ h1
  ·rw[if_neg e] at h'
   exact(h2 b λe'=>e (O7 B.nd ha (h.trans (congrArg some e')))).trans (B.has j h h')
 old b p f e:=by rw[h2 b (fresh_ne (B.fresh a (List.mem_of_getElem? ha)) e)]; exact B.old b p f e
structure Mk(c:Cx) (C fI:Addr) (names:List Str):Prop where
 F:D3 c C fI names
 nd:names.Nodup
 len:names.length≤900
theorem g0.iJ(N:g0 c):Mk c 86 69 Da:=⟨N.kt,by decide +kernel,by decide +kernel⟩
theorem g0.Mz(N:g0 c):Mk c 282 279 Dc:=⟨N.td,by decide +kernel,by decide +kernel⟩
theorem g0.yQ(N:g0 c):Mk c 303 300 Hj:=⟨N.fd,by decide +kernel,by decide +kernel⟩
theorem g0.mS(N:g0 c):Mk c 324 321 Q8:=⟨N.st,by decide +kernel,by decide +kernel⟩
theorem g0.mdg(N:g0 c):Mk c 462 438 Ov:=⟨N.dg,by decide +kernel,by decide +kernel⟩
theorem g0.kI(N:g0 c):Mk c 483 480 Y8:=⟨N.un,by decide +kernel,by decide +kernel⟩
theorem g0.cQ(N:g0 c):Mk c 532 501 Dd:=⟨N.yd,by decide +kernel,by decide +kernel⟩
section
variable {C fI x dx:Addr}{names:List Str}{vals:List V}{y:Str}{v:V}
theorem Mk.set(M:Mk c C fI names) (B:Bl Bs (x::dx::as) (.inst C dx::.ns (names.zip vals)::os) Z) (hi:names[vals.length]?=some y){K:a5→Prop}(q:∀a6,Bl Bs (x::dx::as) (.inst C dx::.ns (names.zip (vals++[v]))::os) a6→K a6):dA c (.ref x) y v Z K :=
 .mk rfl (B.has 0 rfl rfl) (B.has 1 rfl rfl) (Nat.le_trans (List.length_zip ▸ Nat.min_le_left ..) M.len) (M.F.attr _ hi).2 (q _ (Zf M.nd hi ▸ B.put (i:=1) rfl (a7 ..) λ_=>i8))
theorem Mk.new(M:Mk c C fI names) (B:Bl Bs (x::dx::as) (.inst C dx::.ns (names.zip vals)::os) Z) (hi:names[vals.length]?=some y) (hr:Z a=none){K:a5→Prop}(q:∀a6,Bl Bs (x::dx::(as++[a])) (.inst C dx::.ns (names.zip (vals++[.ref a]))::(os++[o])) a6→K a6):dA c (.ref x) y (.ref a) (j1 Z a o) K :=
 M.set (as:=as++[a]) (B.app (.one hr)) hi q
theorem Mk.get(M:Mk c C fI names) (B:Bl Bs (x::dx::as) (.inst C dx::.ns (names.zip vals)::os) Z) (i:Nat) (hn:names[i]?=some y) (hv:vals[i]?=some v) (hf:v.Lq=true){R:V→Prop}(q:R v):G1 c (.ref x) y Z R :=
 m6 (B.has 0 rfl rfl) (B.has 1 rfl rfl) (C4 M.nd hn hv) (M.F.attr i hn) hf q
theorem Mk.app(M:Mk c C fI names) (B:Bl Bs (x::dx::as) (.inst C dx::.ns (names.zip vals)::os) Z) (i j:Nat) (hn:names[i]?=some y) (hv:vals[i]?=some (.ref a)) (ha:as[j]?=some a){l:List V}(ho:os[j]?=some (.list l)) (hz:l.length≤1000000){Q:Fl→Loc→a5→Prop}{E:a5→Prop}{ρ:Loc}{xs:List S}
  (q:∀a6,Bl Bs (x::dx::as) (.inst C dx::.ns (names.zip vals)::os.set j (.list (l++[v]))) a6→l6 c n xs ρ a6 Q E):G1 c (.ref x) y Z λov=>∃fv,Ab c ov "append" Z fv∧i3 c n fv [ov,v] Z (λv Z=>l6 c n xs ρ Z Q E) E :=
 have e:=B.has (j+2) ha ho
 M.get B i hn hv rfl ⟨_,.append e,o6 e hz (q _ (B.put (i:=j+2) ha (a7 ..) λ_=>i8))⟩
noncomputable def qA(c:Cx) (n:Nat) (C:Addr) (names:List Str) (x dx:Addr) (Bs:a5) (l:List (Option V)) (Q:Fl→Loc→a5→Prop) (E:a5→Prop) (as:List Addr) (os:List j8) (vals:List V) (xs:List S):Prop :=
 ∀a6,Bl Bs (x::dx::as) (.inst C dx::.ns (names.zip vals)::os) a6→l6 c n xs (gl l) a6 Q E
section
variable {l:List (Option V)}{Q:Fl→Loc→a5→Prop}{E:a5→Prop}{xs:List S}{e:X}
theorem Mk.put(M:Mk c C fI names) (h0:gl l 0=some (.ref x)) (hi:names[vals.length]?=some y) (he:∀Z R,R v Z→WX c n e (gl l) Z R E) (h:qA c n C names x dx Bs l Q E as os (vals++[v]) xs):qA c n C names x dx Bs l Q E as os vals (.j5 (.loc 0) y e::xs) :=
 λa6 B=>Bg (he _ _ (show S5 (gl l 0) _ from h0.symm ▸ M.set B hi h))
theorem Mk.lay(M:Mk c C fI names) (h0:gl l 0=some (.ref x)) (hi:names[vals.length]?=some y) (he:∀Z R,(∀r,Z r=none→R (.ref r) (j1 Z r o))→WX c n e (gl l) Z R E) (h:∀a,qA c n C names x dx Bs l Q E (as++[a]) (os++[o]) (vals++[.ref a]) xs):qA c n C names x dx Bs l Q E as os vals (.j5 (.loc 0) y e::xs) :=
 λa6 B=>Bg (he _ _ λr hr=>show S5 (gl l 0) _ from h0.symm ▸ M.new B hi hr (h r))
theorem L0(Z:a5) (R:V→a5→Prop) (h:∀r,Z r=none→R (.ref r) (j1 Z r (.dict []))):WX c n (.dct []) (gl l) Z R E :=
 λr hr=>⟨a7 ..,.inl λk hk=>(List.not_mem_nil hk).elim,(congrArg (R (.ref r)) (show j1 (j1 Z r (.dict [])) r (.dict (G4 [] (z9 [])))=j1 Z r (.dict []) from C9)).mpr (h r hr)⟩
end
variable {Q:V→a5→Prop}{E:a5→Prop}
theorem g0.make(N:g0 c) (M:Mk c C fI names){k:Nat}{xs:List S}(hc:A6 c.K c.i4 fI=some (k,xs)){vs:List V}(hlen:vs.length+1=k)
  (h:∀x dx,qA c n C names x dx Z (some (.ref x)::(vs.map some++pad)) (s9 λv a6=>v=.none∧Q (.ref x) a6) E [] [] [] xs):i3 c (n+2) (.fix (.ref C)) vs Z Q E:=by
 obtain⟨P,fI',cd,fd,Y⟩:=N.Y
 refine(call_cls N.G M.F.made M.F.init M.F.typ λx dx hx hdx hne=>?_).call
 refine(eZ N.G Y).get hc hlen (Rx (.ref x::vs) ▸ h x dx _ ?_)
 have hx':j1 Z dx (.ns []) x=none:=(i8 hne).trans hx
 rw[List.zip_nil_right]
 refine⟨List.nodup_cons.mpr ⟨λe=>hne (List.mem_singleton.mp e),List.nodup_cons.mpr ⟨List.not_mem_nil,.nil⟩⟩,rfl,λa ha=>?_,λi a o=>?_,(d8.new hdx).trans (.new hx')⟩
 ·exact(List.mem_cons.mp ha).elim (· ▸ hx) λe=>List.mem_singleton.mp e ▸ hdx
 ·exact match i with
   | 0=>λe e'=>by rw[←Option.some.inj e,←Option.some.inj e']; exact a7 ..
   | 1=>λe e'=>by rw[←Option.some.inj e,←Option.some.inj e',i8 hne.symm]; exact a7 ..
   | _+2=>λe=>by cases e
theorem Wj(N:g0 c){fid owner name access:V}{kind flags:Nat}(q:∀x dx a6,Bl Z [x,dx] [.inst 303 dx,.ns (Hj.zip [fid,owner,name,vi kind,access,vi flags,.none])] a6→Q (.ref x) a6) :
  i3 c (n+2) (.fix (.ref 303)) [fid,owner,name,vi kind,access,vi flags] Z Q E:=by
 refine N.make N.yQ N.C.Li rfl λx dx=>?_
 iterate 7 refine N.yQ.put rfl rfl (λ_ _ q=>q) ?_
 exact λu5 B=>j9 ⟨rfl,q x dx u5 B⟩
theorem bY(N:g0 c){name flags base asm:V}{tid sort:Nat}{pl:List V}(hpl:pl.length≤100)
  (q:∀x dx pa fa a6 r1 r2 r3 r4 r5 r6 r7 l1 l2 vs vl,Bl Z [x,dx,r1,pa,r2,r3,fa,r4,r5,r6,r7] (.inst 282 dx::.ns (Dc.zip (vi tid::name::vi sort::flags::base::.ref r1::.ref pa::.ref r2::.ref r3::.ref fa::vs))::.list []::.list pl::l1::l2::.list []::vl) a6→Q (.ref x) a6) :
  i3 c (n+2) (.fix (.ref 282)) [vi tid,name,vi sort,flags,base,.tup pl,asm] Z Q E:=by
 refine N.make N.Mz N.C.Ot rfl λx dx=>?_
 iterate 5 refine N.Mz.put rfl rfl (λ_ _ q=>q) ?_
 refine N.Mz.lay rfl rfl (λ_ _ q=>q) λr1=>?_
 refine N.Mz.lay rfl rfl (λ_ _ q=>q) λpa=>?_
 refine N.Mz.lay rfl rfl (λ_ _ q=>q) λr2=>?_
 refine N.Mz.lay rfl rfl (λ_ _ q=>q) λr3 u5 B=>A2 ?_
 have hz0:pl.length≤1000000:=Nat.le_trans hpl (by decide)
 refine z8 (iv:=.tup pl) id pl (γ:=Option V) (λg=>some (.ref x)::some (vi tid)::some name::some (vi sort)::some flags::some base::some (.tup pl)::some asm::g::pad.drop 1)
  (λd g a6=>Bl Z (x::dx::[r1,pa,r2,r3]) (.inst 282 dx::.ns (Dc.zip [vi tid,name,vi sort,flags,base,.ref r1,.ref pa,.ref r2,.ref r3])::[.list [],.list d,.list (d.map λ_=>vi 0),.list (d.map λ_=>.tup [vi 0,.tup []])]) a6) none hz0 (λ_ _ _ _=>List.map_id pl) B (λd y lk g u5 R el B hs _=>?_) λg=>?_
 ·have hz:d.length≤1000000:=Nat.le_trans (X2 el) hz0
  refine n8 ?_
  refine N.Mz.app B 6 1 rfl rfl rfl rfl hz λu5 B=>n8 ?_
  refine N.Mz.app B 7 2 rfl rfl rfl rfl (List.length_map (as:=d) _ ▸ hz) λu5 B=>n8 ?_
  refine N.Mz.app B 8 3 rfl rfl rfl rfl (List.length_map (as:=d) _ ▸ hz) λu5 B=>j9 (hs (some y) u5 ?_).1
  rw[List.map_append,List.map_append]; exact B
 refine N.Mz.lay (vals:=[vi tid,name,vi sort,flags,base,.ref r1,.ref pa,.ref r2,.ref r3]) rfl rfl (λ_ _ q=>q) λfa=>?_
 refine N.Mz.lay rfl rfl (λ_ _ q=>q) λr4=>?_
 iterate 3 refine N.Mz.put rfl rfl (λ_ _ q=>q) ?_
 refine N.Mz.lay rfl rfl (λ_ _ q=>q) λr5=>?_
 refine N.Mz.lay rfl rfl (λ_ _ q=>q) λr6=>?_
 refine N.Mz.lay rfl rfl (λ_ _ q=>q) λr7=>?_
 iterate 2 refine N.Mz.put rfl rfl (λ_ _ q=>q) ?_
 exact λu5 B=>j9 ⟨rfl,q x dx pa fa u5 r1 r2 r3 r4 r5 r6 r7 _ _ _ _ B⟩
end
end
end Mine
end
section
open PySem PySem.W PyProof.Rows PySem.Calls
set_option Elab.async false
set_option genSizeOf false
set_option genInjectivity false
set_option maxRecDepth 20000
namespace Mine
open Classical
noncomputable def T0:List Tm:=(List.range 16).map λi=>.leaf (.prim i)
theorem wQ:Kx T0 where
 base:=by decide +kernel
 nodup:=by decide +kernel
 ok:=by decide +kernel
 kids:=by decide +kernel
 deep:=by decide +kernel
 heavy:=by decide +kernel
noncomputable def Ta(i:Nat):V:=.tup [vi 1,vi i]
noncomputable def wR(j:Nat):List j8:=[.list ((List.range j).map Ta),.dict ((List.range j).map λn=>(Ta n,vi n)),.list ((List.range j).map λ_=>vi 1),.list ((List.range j).map λ_=>vi 1),.list ((List.range j).map λ_=>vi 0)]
noncomputable def sF(j:Nat) (dx r i d w o:Addr):List j8:=.inst 86 dx::.ns (Da.zip [.ref r,.ref i,.ref d,.ref w,.ref o])::wR j
theorem Dt{α:Type}(f:Nat→α) (j:Nat):(List.range (j+1)).map f=(List.range j).map f++[f j]:=by rw[List.range_succ,List.map_append]; rfl
theorem mT:(List.range 16).map Ta=T0.map (Tm.row (T0.idxOf ·)):=by kernel_rfl
theorem iK:((List.range 16).map λn=>(Ta n,vi n))=T0.map λt=>(t.row (T0.idxOf ·),vi (T0.idxOf t)):=by kernel_rfl
section
variable {c:Cx}{n:Nat}{Z:a5}{Q:V→a5→Prop}{E:a5→Prop}
theorem iL{i:Nat}:E7 ((List.range i).map λn=>(Ta n,vi n)) (Ta i)=none :=
 Option.map_eq_none_iff.mpr (List.find?_eq_none.mpr (List.forall_mem_map.mpr λm hm e=>absurd (Ex (Ym (of_decide_eq_true e))) (Nat.ne_of_lt (List.mem_range.mp hm))))
theorem iM{i j:Nat}:H6 (Ta i) ((List.range j).map λn=>(Ta n,vi n)) :=
 .inr (.inr ⟨(Pa (f:=λ_=>0) (.leaf (.prim i))).1,_,rfl,List.forall_mem_map.mpr λu _=>⟨_,rfl⟩⟩)
theorem i5.of{x dx r i d w o:Addr}(h:∀(k:Nat){a ob},[x,dx,r,i,d,w,o][k]?=some a→(sF 16 dx r i d w o)[k]?=some ob→Z a=some ob) (nd:[x,dx,r,i,d,w,o].Nodup):i5 ⟨x,dx,r,i,d,w,o⟩ T0 Z where
 inst:=h 0 rfl rfl
 ns:=h 1 rfl rfl
 rows:=(h 2 rfl rfl).trans (congrArg (λl=>some (j8.list l)) mT)
 index:=(h 3 rfl rfl).trans (congrArg (λl=>some (j8.dict l)) iK)
 depths:=h 4 rfl rfl
 weights:=h 5 rfl rfl
 opens:=h 6 rfl rfl
 apart:=nd.sublist (.cons _ (.cons _ (.cons_cons _ (.cons _ (.refl _)))))
 tab:=wQ
 size:=by decide +kernel
theorem Tb(N:g0 c) (q:∀x dx r i d w o a6,Bl Z [x,dx,r,i,d,w,o] (sF 16 dx r i d w o) a6→Q (.ref x) a6):i3 c (n+2) (.fix (.ref 86)) [] Z Q E:=by
 refine N.make N.iJ N.C.lN rfl λx dx=>?_
 refine N.iJ.lay rfl rfl (λ_ _ q=>q) λr=>?_
 refine N.iJ.lay rfl rfl L0 λi=>?_
 refine N.iJ.lay rfl rfl (λ_ _ q=>q) λd=>?_
 refine N.iJ.lay rfl rfl (λ_ _ q=>q) λw=>?_
 refine N.iJ.lay rfl rfl (λ_ _ q=>q) λo u5 B=>A2 ?_
 refine H9 ?_
 refine Q9 (len:=16) (γ:=Option V×Option V) (λg=>some (.ref x)::g.1::g.2::pad.drop 2) (λj g a6=>Bl Z [x,dx,r,i,d,w,o] (sF j dx r i d w o) a6) (none,none) (by decide) B (λj g u5 R hj B hs _=>f6 (n8 ?_)) λg u5 B=>j9 ⟨rfl,q x dx r i d w o u5 B⟩
 have z {α:Type}(f:Nat→α):((List.range j).map f).length≤1000000:=by rw[List.length_map,List.length_range]; exact Nat.le_trans (Nat.le_of_lt hj) (by decide)
 refine N.iJ.app B 0 0 rfl rfl rfl rfl (z _) λu5 B=>D4 ?_
 refine N.iJ.get B 1 rfl rfl rfl ?_
 refine N9 (B.has 3 rfl rfl) iM (z _) λC2 e m=>n8 ?_
 have B:=B.put (i:=3) rfl (e.trans (congrArg (λl=>some (j8.dict l)) (O0 (v:=vi j) iL))) m
 refine N.iJ.app B 2 2 rfl rfl rfl rfl (z _) λu5 B=>n8 ?_
 refine N.iJ.app B 3 3 rfl rfl rfl rfl (z _) λu5 B=>n8 ?_
 refine N.iJ.app B 4 4 rfl rfl rfl rfl (z _) λu5 B=>j9 (hs (_,_) u5 ?_).1
 unfold sF wR
 rw[Dt,Dt,Dt λ_=>vi 1,Dt]
 exact B
end
section
variable {c:Cx}{n:Nat}{Z:a5}{Q:V→a5→Prop}{E:a5→Prop}
theorem mU(N:g0 c) (q:∀st dx kt kx r i d w o ty fl mt nm am a6,Bl Z [st,dx,kt,kx,r,i,d,w,o,ty,fl,mt,nm,am] (.inst 324 dx::.ns (Q8.zip [.ref kt,.ref ty,.ref fl,.ref mt,.ref nm,.ref am,vi 0])::(sF 16 kx r i d w o++[.list [.none],.list [.none],.list [.none],.dict [],.list []])) a6→Q (.ref st) a6) :
  i3 c (n+4) (.fix (.ref 324)) [] Z Q E:=by
 refine N.make N.mS N.C.Vg rfl λx dx u5 B=>Bg ?_
 refine Tb N λkt kx r i d w o C2 B2=>?_
 refine N.mS.set (B.app B2) rfl (?_:qA c _ 324 Q8 x dx Z _ _ E _ _ _ _)
 refine N.mS.lay rfl rfl (λ_ _ q=>q) λty=>?_
 refine N.mS.lay rfl rfl (λ_ _ q=>q) λfl=>?_
 refine N.mS.lay rfl rfl (λ_ _ q=>q) λmt=>?_
 refine N.mS.lay rfl rfl L0 λnm=>?_
 refine N.mS.lay rfl rfl (λ_ _ q=>q) λam=>?_
 exact N.mS.put rfl rfl (λ_ _ q=>q) λu5 B=>j9 ⟨rfl,q x dx kt kx r i d w o ty fl mt nm am u5 B⟩
theorem mV(N:g0 c) (q:∀as os x a6,Bl Z as os a6→Q (.ref x) a6):i3 c (n+2) (.fix (.ref 462)) [] Z Q E :=
 N.make N.mdg N.C.Vh rfl λx dx=>N.mdg.lay rfl rfl (λ_ _ q=>q) λr u5 B=>j9 ⟨rfl,q _ _ x u5 B⟩
theorem sG(N:g0 c){st asm:V}(q:∀x dx as os vs a6,Bl Z (x::dx::as) (.inst 483 dx::.ns (Y8.zip (st::vs))::os) a6→Q (.ref x) a6):i3 c (n+4) (.fix (.ref 483)) [st,asm] Z Q E:=by
 refine N.make N.kI N.C.bD rfl λx dx=>?_
 refine N.kI.put rfl rfl (λ_ _ q=>q) ?_
 refine N.kI.put rfl rfl (λ_ _ q=>q) ?_
 refine N.kI.lay rfl rfl (λ_ _ q=>q) λr1=>?_
 refine N.kI.lay rfl rfl (λ_ _ q=>q) λr2=>?_
 refine N.kI.lay rfl rfl L0 λr3 u5 B=>Bg ?_
 refine mV N λas os y C2 B2=>?_
 refine N.kI.set (as:=[r1,r2,r3]++as) (B.app B2) rfl (?_:qA c _ 483 Y8 x dx Z _ _ E _ _ _ _)
 refine N.kI.lay rfl rfl L0 λr4=>?_
 refine N.kI.lay rfl rfl L0 λr5=>?_
 exact N.kI.lay rfl rfl L0 λr6 u5 B=>j9 ⟨rfl,q x dx _ _ _ u5 B⟩
theorem sH(N:g0 c){u ux st sx:Addr}{kt:V}{lu ls:List V}{host asm:V}(u1:Z u=some (.inst 483 ux)) (u2:Z ux=some (.ns (Y8.zip (.ref st::lu)))) (t1:Z st=some (.inst 324 sx)) (t2:Z sx=some (.ns (Q8.zip (kt::ls)))) (hk:kt.Lq=true)
  (q:∀x dx as os vs a6,Bl Z (x::dx::as) (.inst 532 dx::.ns (Dd.zip (.ref u::.ref st::kt::vs))::os) a6→Q (.ref x) a6):i3 c (n+2) (.fix (.ref 532)) [.ref u,host,asm] Z Q E:=by
 have ust {a6:a5}{R:V→Prop}(s:d8 (λ_=>False) Z a6) (q:R (.ref st)):G1 c (.ref u) (Str.ofString "store") a6 R:=m6 (s _ _ id u1) (s _ _ id u2) rfl (N.un.attr 0 rfl) rfl q
 refine N.make N.cQ N.C.bE rfl λx dx=>?_
 refine N.cQ.put rfl rfl (λ_ _ q=>q) λu5 B=>Bg ?_
 refine ust B.old ?_
 refine N.cQ.set B rfl λu5 B=>Bg ?_
 refine ust B.old ?_
 refine m6 (B.old _ _ id t1) (B.old _ _ id t2) rfl (N.st.attr 0 rfl) hk ?_
 refine N.cQ.set B rfl (?_:qA c _ 532 Dd x dx Z _ _ E _ _ _ _)
 iterate 2 refine N.cQ.put rfl rfl (λ_ _ q=>q) ?_
 refine N.cQ.lay rfl rfl L0 λr1=>?_
 refine N.cQ.lay rfl rfl L0 λr2=>?_
 refine N.cQ.lay rfl rfl (λ_ _ q=>q) λr3=>?_
 refine N.cQ.lay rfl rfl L0 λr4=>?_
 iterate 4 refine N.cQ.put rfl rfl (λ_ _ q=>q) ?_
 exact λu5 B=>j9 ⟨rfl,q x dx _ _ _ u5 B⟩
end
section
variable {c:Cx}{n:Nat}{Z:a5}{K:H1}{T:List Tm}{Q:V→a5→Prop}{E:a5→Prop}{H:Mt}{Ts:List C3}{Fs:List J4}
theorem sI(N:g0 c) (k:i5 K T Z) (h:E9 H K T Ts Fs Z){sort:Nat}(hz:T.length < 100000) (q:∀v T' a6,Dm K T Z 1 T' a6→Q v a6) :
  i3 c (n+8) (.fix (.ref 335)) [.ref H.st,vi sort] Z Q E:=by
 refine N.fn N.C.usual_base rfl ?_
 have w:=Dm.start k 0
 have mk (i:Nat) (hi:(Tm.leaf (.cls i)).ok=true){ρ:Loc}{xs:List S}:G1 c (.ref H.st) (Str.ofString "kt") Z λo=>i3 c (n+7) (.fix (.ref 146)) [o,vi i,.tup []] Z (λv Z=>(s9 Q) (.ret v) ρ Z) E :=
  h.Lk N (Yr N k (t:=.leaf (.cls i)) rfl hi (λa ha=>(List.not_mem_nil ha).elim) hz ⟨λ_ T' a6 g k' s _=>q _ T' a6 (w.next g k' s),λx=>x.elim (λh=>absurd h (by decide:¬24 < 1)) λh=>absurd h (by decide:¬4096 < 1)⟩)
 refine f9 (K6 (λ_=>f7 (mk 2 (by decide +kernel) (xs:=[]))) λ_=>?_)
 refine f9 (K6 (λ_=>f7 (mk 3 (by decide +kernel) (xs:=[]))) λ_=>?_)
 refine f9 (K6 (λ_=>f7 (mk 6 (by decide +kernel) (xs:=[]))) λ_=>f7 ?_)
 exact q _ T Z (.start k 1)
theorem mW(N:g0 c){sort:Nat}(q:∀v,Q v Z):i3 c (n+1) (.fix (.ref 342)) [vi sort,.int 0] Z Q E:=by
 refine N.fn N.C.sort_flags rfl (f9 ?_)
 refine K6 (λ_=>f7 ⟨q _⟩) λ_=>f9 ?_
 exact K6 (λ_=>f7 (q _)) λ_=>f7 ⟨q _⟩
theorem E9.here(h:E9 H K T Ts Fs Z){b:Addr}(hb:b∈T8 H Ts):(Z b).isSome=true :=
 (List.mem_cons.mp hb).elim (λe=>e ▸ j3 h.types) λhb=>(List.mem_cons.mp hb).elim (λe=>e ▸ j3 h.fields) λhb=>(List.mem_cons.mp hb).elim (λe=>e ▸ h.kG.elim λ_ x=>j3 x.1) λhb=>by
  obtain⟨t,ht,hm⟩:=List.mem_flatMap.mp hb
  obtain⟨i,hi⟩:=List.mem_iff_getElem?.mp ht
  obtain⟨o,ns,n1,n2,n3,n4,p,np,f,_⟩:=h.tys i t hi
  exact(List.mem_cons.mp hm).elim (λe=>e ▸ j3 f) λhm=>List.mem_singleton.mp hm ▸ j3 p
theorem E9.out(h:E9 H K T Ts Fs Z){b:Addr}(hb:Z b=none):b∉T8 H Ts:=λm=>g9 (h.here m) hb
theorem Ke{t:C3}:T8 H (Ts++[t])=T8 H Ts++[t.fa,t.pa]:=congrArg (λl=>H.ty::H.fl::H.nm::l) List.flatMap_append
theorem Zg{α:Type}{l:List α}{a b:α}{i:Nat}(h:(l++[a])[i]?=some b):l[i]?=some b∨i=l.length∧b=a:=by
 rw[List.getElem?_append] at h
 by_cases e:i < l.length
 ·rw[if_pos e] at h; exact .inl h
 ·rw[if_neg e] at h
  have z:i - l.length=0:=Nat.lt_one_iff.mp (List.getElem?_eq_some_iff.mp h).1
  exact .inr ⟨Nat.le_antisymm (Nat.sub_eq_zero_iff_le.mp z) (Nat.le_of_not_lt e),by rw[z] at h; exact(Option.some.inj h).symm⟩
section
variable {a6:a5}
theorem E9.wU(h:E9 H K T Ts Fs Z) (hT:Ts.length < 1000){t:C3}(new:R1 Z (64+Ts.length) t) (hf:t.l9=[]) (hF:∀b∈[t.fa,t.pa],¬K.F b∧b∉T8 H Ts) (hn:[t.fa,t.pa].Nodup)
  (e:a6 H.ty=some (.list (List.replicate 64 .none++(Ts.map λt=>.ref t.o)++[.ref t.o]))) (m:∀b,b≠H.ty→a6 b=Z b):E9 H K T (Ts++[t]) Fs a6:=by
 have p:=n0 h.types
 have s:d8 (·=H.ty) Z a6:=d8.of m rfl
 have ne {b:Addr}(hb:b∈H.fl::H.nm::Ts.flatMap λt=>[t.fa,t.pa]):b≠H.ty:=λz=>(List.nodup_cons.mp h.lists).1 (z ▸ hb)
 refine⟨h.st.same s p,e.trans (by rw[List.map_append,List.append_assoc]; rfl),s _ _ (ne (.head _)) h.fields,λi u hu=>?_,λf hf=>(h.fds f hf).same (.refl _ 0) s p,?_,?_,⟨by rw[List.length_append]; exact hT,h.few.2⟩,h.kG.imp λl x=>⟨s _ _ (ne (.tail _ (.head _))) x.1,by rw[List.length_append]; exact Nat.le_trans x.2.1 (Nat.le_add_right ..),x.2.2⟩,?_⟩
 ·rcases Zg hu with hu | ⟨rfl,rfl⟩
  ·have hm:=List.mem_of_getElem? hu
   exact(h.tys i u hu).same s p (ne (.tail _ (.tail _ (List.mem_flatMap.mpr ⟨u,hm,.head _⟩)))) (ne (.tail _ (.tail _ (List.mem_flatMap.mpr ⟨u,hm,.tail _ (.head _)⟩))))
  ·exact new.same s p (λz=>(hF _ (.head _)).2 (z ▸ .head _)) λz=>(hF _ (.tail _ (.head _))).2 (z ▸ .head _)
 ·rw[Ke]; exact List.forall_mem_append.mpr ⟨h.apart,λb hb=>(hF b hb).1⟩
 ·exact List.forall_mem_append.mpr ⟨h.X1,List.forall_mem_singleton.mpr (hf ▸ λi hi=>(List.not_mem_nil hi).elim)⟩
 ·rw[Ke]; exact List.nodup_append.mpr ⟨h.lists,hn,λa ha b hb e=>(hF b hb).2 (e ▸ ha)⟩
theorem E9.wV(h:E9 H K T Ts Fs Z){l:List (V×V)}(hz:l.length≤Ts.length) (hk:∀p∈l,∃t,p.1=.tup t) (e:a6 H.nm=some (.dict l)) (m:∀b,b≠H.nm→a6 b=Z b):E9 H K T Ts Fs a6:=by
 have p:Plain (·=H.nm) Z:=h.kG.elim λl x=>I3 x.1
 have s:d8 (·=H.nm) Z a6:=d8.of m rfl
 have d1:=List.nodup_cons.mp h.lists
 have d2:=List.nodup_cons.mp d1.2
 have ne {b:Addr}(hb:b∈Ts.flatMap λt=>[t.fa,t.pa]):b≠H.nm:=λz=>(List.nodup_cons.mp d2.2).1 (z ▸ hb)
 exact⟨h.st.same s p,s _ _ (λz=>d1.1 (z ▸ .tail _ (.head _))) h.types,s _ _ (λz=>d2.1 (z ▸ .head _)) h.fields,λi u hu=>(h.tys i u hu).same s p (ne (List.mem_flatMap.mpr ⟨u,List.mem_of_getElem? hu,.head _⟩)) (ne (List.mem_flatMap.mpr ⟨u,List.mem_of_getElem? hu,.tail _ (.head _)⟩)),
  λf hf=>(h.fds f hf).same (.refl _ 0) s p,h.apart,h.X1,h.few,⟨l,e,hz,hk⟩,h.lists⟩
end
theorem in_dict{a:Addr}{l:List (V×V)}{k:V}{R:Bool→Prop}(ha:Z a=Option.some (.dict l)) (hk:H6 k l) (q:R (E7 l k).isSome):IN c k (.ref a) Z R:=⟨by
 unfold tF
 dsimp only
 rw[ha]
 exact⟨hk,q⟩⟩
theorem bZ(N:g0 c) (k:i5 K T Z) (h:E9 H K T Ts Fs Z){name:Str}{sort:Nat}{pl:List V}(hpl:pl.length≤100) (hname:(V.str name).hk 7=true) (hT:Ts.length < 1000) (hz:T.length < 100000)
  (q:∀v T' ti a6,Gr T T' 1→i5 K T' a6→E9 H K T' (Ts++[ti]) Fs a6→ti.sort=sort→ti.np=pl.length→ti.l9=[]→(∀b∈[ti.fa,ti.pa],Z b=none)→d8 (λb=>K.F b∨b=H.ty∨b=H.nm) Z a6→Q v a6) :
  i3 c (n+9) (.fix (.ref 349)) [.ref H.st,.int 0,.str name,vi sort,.int 0,.int (-1),.tup pl] Z Q E:=by
 refine N.fn N.C.add_type rfl (f9 (bI (by decide) (f6 ?_)))
 refine sI N k h hz λbase T1 u5 w1=>f6 ?_
 have h1:=w1.h k h
 have zT {j:Nat}(hj:j≤1000):64+j≤1000000:=Nat.le_trans (Nat.add_le_add_left hj 64) (by decide)
 refine h1.K7 N ?_
 refine t7 h1.types (H3 ▸ zT h.few.1) ?_
 rw[H3]
 refine n8 ?_
 refine h1.K7 N ⟨_,.append h1.types,?_⟩
 refine mW N λfl=>?_
 refine bY N hpl λx dx pa fa C2 r1 r2 r3 r4 r5 r6 r7 l1 l2 vs vl B=>?_
 have w2:Dm K T Z 1 T1 C2:=⟨w1.gr,w1.kt.same B.old,w1.same.trans (B.old.mono λ_ h=>h.elim)⟩
 have h2:=w2.h k h
 refine o6 h2.types (H3 ▸ zT h.few.1) ?_
 have new:R1 C2 (64+Ts.length) ⟨x,dx,pa,fa,sort,pl.length,[]⟩ :=
  .mk (B.has 0 rfl rfl) (B.has 1 rfl rfl) (C4 N.Mz.nd (i:=0) rfl rfl) (C4 N.Mz.nd (i:=2) rfl rfl) (C4 N.Mz.nd (i:=6) rfl rfl) (C4 N.Mz.nd (i:=9) rfl rfl) (B.has 3 rfl rfl) rfl (B.has 6 rfl rfl) ⟨Nat.zero_le _,hpl⟩
 have fr (b:Addr) (hb:b∈[fa,pa]):u5 b=none:=B.fresh b ((List.mem_cons.mp hb).elim (λe=>List.mem_of_getElem? (e ▸ rfl:_[6]?=some b)) λhb=>List.mem_of_getElem? (List.mem_singleton.mp hb ▸ rfl:_[3]?=some b))
 have hn:[fa,pa].Nodup:=List.nodup_cons.mpr ⟨λe=>absurd (O7 B.nd (i:=6) (j:=3) (a:=fa) rfl (congrArg some (List.mem_singleton.mp e).symm)) (by decide),List.nodup_cons.mpr ⟨List.not_mem_nil,.nil⟩⟩
 have m3 (b:Addr) (hb:b≠H.ty):j1 C2 H.ty (.list (List.replicate 64 .none++(Ts.map λt=>.ref t.o)++[.ref x])) b=C2 b:=i8 hb
 have h3:=h2.wU hT new rfl (λb hb=>⟨w1.kt.off (fr b hb),h1.out (fr b hb)⟩) hn (a7 ..) m3
 generalize j1 C2 H.ty (.list (List.replicate 64 .none++(Ts.map λt=>.ref t.o)++[.ref x]))=W8 at m3 h3
 have k3:i5 K T1 W8:=w2.kt.keep (F:=(·=H.ty)) (d8.of m3 rfl) (λb hb=>hb ▸ h.apart _ (.head _)) (n0 h2.types)
 have s3:d8 (λb=>K.F b∨b=H.ty∨b=H.nm) Z W8:=(w2.same.mono λ_=>.inl).trans (d8.of m3 (.inr (.inl rfl)))
 have f0 (b:Addr) (hb:b∈[fa,pa]):Z b=none:=(w1.off (fr b hb)).1
 obtain⟨nl,hnl,hnz,hnk⟩:=h2.kG
 have hnl:W8 H.nm=some (.dict nl):=(m3 _ λz=>(List.nodup_cons.mp h2.lists).1 (z ▸ .tail _ (.head _))).trans hnl
 have nz:nl.length≤1000:=Nat.le_trans hnz h.few.1
 refine f6 ?_
 refine w8 (Nat.le_trans hpl (by decide)) (f9 ?_)
 have hkey:H6 (.tup [.int 0,.str name,.int (pl.length:Int)]) nl:=.inr (.inr ⟨Bool.and_eq_true_iff.mpr ⟨hname,rfl⟩,_,rfl,hnk⟩)
 refine h3.Zb N ?_
 refine in_dict hnl hkey ?_
 cases hd:E7 nl (.tup [.int 0,.str name,.int (pl.length:Int)]) with
 | some v=>exact S4 (f7 (q _ T1 _ W8 w1.gr k3 h3 rfl rfl rfl f0 s3))
 | none =>
  refine T7 (D4 ?_)
  refine h3.Zb N ?_
  refine N9 hnl hkey (Nat.le_trans nz (by decide)) λHo e4 m4=>f7 ?_
  rw[O0 hd] at e4
  have h4:=h3.wV (by rw[List.length_append,List.length_append]; exact Nat.succ_le_succ hnz) (List.forall_mem_append.mpr ⟨hnk,List.forall_mem_singleton.mpr ⟨_,rfl⟩⟩) e4 m4
  exact q _ T1 _ Ho w1.gr (k3.keep (F:=(·=H.nm)) (d8.of m4 rfl) (λb hb=>hb ▸ h.apart _ (.tail _ (.tail _ (.head _)))) (I3 hnl)) h4 rfl rfl rfl f0 (s3.trans (d8.of m4 (.inr (.inr rfl))))
end
section
variable {c:Cx}{n:Nat}{Z a6:a5}{K:H1}{T:List Tm}{Q:V→a5→Prop}{E:a5→Prop}{H:Mt}{Ts:List C3}{Fs:List J4}
theorem mX(h:(T8 H Ts).Nodup){i j:Nat}{t u:C3}(hi:Ts[i]?=some t) (hj:Ts[j]?=some u) (ne:i≠j):∀x∈[t.fa,t.pa],∀y∈[u.fa,u.pa],x≠y:=by
 have p:=List.pairwise_iff_getElem.mp (List.pairwise_flatMap.mp (List.nodup_cons.mp (List.nodup_cons.mp (List.nodup_cons.mp h).2).2).2).2
 obtain⟨li,rfl⟩:=List.getElem?_eq_some_iff.mp hi
 obtain⟨lj,rfl⟩:=List.getElem?_eq_some_iff.mp hj
 exact(Nat.lt_or_gt_of_ne ne).elim (p i j li lj) λl x hx y hy=>(p j i lj li l y hy x hx).symm
theorem set_same{α:Type}{a:α}:∀{l:List α}{i:Nat},l[i]?=some a→l.set i a=l
 | b::l,0,h=>congrArg (·::l) (Option.some.inj h).symm
 | b::l,i+1,h=>congrArg (b::·) (set_same (l:=l) h)
 | [],_,_=>rfl
theorem map_set{α β:Type}{g:α→β}{l:List α}{i:Nat}{t t':α}(h:l[i]?=some t) (e:g t'=g t):(l.set i t').map g=l.map g:=by
 rw[List.map_set,e]; exact set_same (get_map h)
theorem Zh{i:Nat}{t t':C3}(h:Ts[i]?=some t) (e:[t'.fa,t'.pa]=[t.fa,t.pa]):T8 H (Ts.set i t')=T8 H Ts:=congrArg (λl:List (List Addr)=>H.ty::H.fl::H.nm::l.flatten) (map_set (g:=λt:C3=>[t.fa,t.pa]) h e)
theorem sJ{α:Type}{l:List α}{i j:Nat}{a b:α}(h:(l.set i a)[j]?=some b):i≠j∧l[j]?=some b∨i=j∧b=a:=by
 rw[List.getElem?_set] at h
 by_cases e:i=j
 ·rw[if_pos e] at h
  by_cases q:i < l.length
  ·rw[if_pos q] at h; exact .inr ⟨e,(Option.some.inj h).symm⟩
  ·rw[if_neg q] at h; cases h
 ·rw[if_neg e] at h; exact .inl ⟨e,h⟩
theorem E9.wW(h:E9 H K T Ts Fs Z) (hz:Fs.length < 1000){f:J4}(new:Dl Z T f) (e:a6 H.fl=some (.list ((.none::Fs.map λf=>.ref f.o)++[.ref f.o]))) (m:∀b,b≠H.fl→a6 b=Z b):E9 H K T Ts (Fs++[f]) a6:=by
 have p:=n0 h.fields
 have s:d8 (·=H.fl) Z a6:=d8.of m rfl
 have d1:=List.nodup_cons.mp h.lists
 have d2:=List.nodup_cons.mp d1.2
 have ne {b:Addr}(hb:b∈H.nm::Ts.flatMap λt=>[t.fa,t.pa]):b≠H.fl:=λz=>d2.1 (z ▸ hb)
 exact⟨h.st.same s p,s _ _ (λz=>d1.1 (z ▸ .head _)) h.types,e.trans (by rw[List.map_append]; rfl),λi u hu=>(h.tys i u hu).same s p (ne (.tail _ (List.mem_flatMap.mpr ⟨u,List.mem_of_getElem? hu,.head _⟩))) (ne (.tail _ (List.mem_flatMap.mpr ⟨u,List.mem_of_getElem? hu,.tail _ (.head _)⟩))),
  List.forall_mem_append.mpr ⟨λf hf=>(h.fds f hf).same (.refl _ 0) s p,List.forall_mem_singleton.mpr (new.same (.refl _ 0) s p)⟩,h.apart,λt ht i hi=>(h.X1 t ht i hi).imp λj x=>⟨x.1,by rw[List.length_append]; exact Nat.lt_succ_of_lt x.2⟩,⟨h.few.1,by rw[List.length_append]; exact hz⟩,h.kG.imp λl x=>⟨s _ _ (ne (.head _)) x.1,x.2⟩,h.lists⟩
theorem E9.wX(h:E9 H K T Ts Fs Z){i j:Nat}{t:C3}(ht:Ts[i]?=some t) (hj:j < Fs.length) (hz:t.l9.length < 1000) (e:a6 t.fa=some (.list ((t.l9++[j+1]).map vi))) (m:∀b,b≠t.fa→a6 b=Z b):E9 H K T (Ts.set i {t with l9:=t.l9++[j+1]}) Fs a6:=by
 have hm:=List.mem_of_getElem? ht
 have hx:=h.tys i t ht
 have p:=n0 hx.fa
 have s:d8 (·=t.fa) Z a6:=d8.of m rfl
 have d1:=List.nodup_cons.mp h.lists
 have d2:=List.nodup_cons.mp d1.2
 have d3:=List.nodup_cons.mp d2.2
 have mfa:t.fa∈Ts.flatMap λt=>[t.fa,t.pa]:=List.mem_flatMap.mpr ⟨t,hm,.head _⟩
 have es:=Zh (H:=H) (t':={t with l9:=t.l9++[j+1]}) ht rfl
 refine⟨h.st.same s p,(s H.ty _ (λz=>d1.1 (z ▸ .tail _ (.tail _ mfa))) h.types).trans (congrArg (λl=>some (j8.list (List.replicate 64 .none++l))) (map_set (g:=λt:C3=>V.ref t.o) (t':={t with l9:=t.l9++[j+1]}) ht rfl).symm),s H.fl _ (λz=>d2.1 (z ▸ .tail _ mfa)) h.fields,λk u hu=>?_,λf hf=>(h.fds f hf).same (.refl _ 0) s p,?_,?_,⟨by rw[List.length_set]; exact h.few.1,h.few.2⟩,h.kG.imp λl x=>⟨s H.nm _ (λz=>d3.1 (z ▸ mfa)) x.1,by rw[List.length_set]; exact x.2.1,x.2.2⟩,?_⟩
 ·rcases sJ hu with⟨ne,hu⟩ | ⟨rfl,rfl⟩
  ·have q:=mX h.lists ht hu ne _ (.head _)
   exact(h.tys k u hu).same s p (q _ (.head _)).symm (q _ (.tail _ (.head _))).symm
  ·match hx with
   | .mk o ns n1 n2 n3 n4 pp np f few =>
    have own:t.pa≠t.fa:=λz=>(List.nodup_cons.mp ((List.pairwise_flatMap.mp d3.2).1 t hm)).1 (z ▸ .head _)
    exact .mk (s _ _ (p.off o rfl) o) (s _ _ (p.off ns rfl) ns) n1 n2 n3 n4 (s _ _ own pp) np e ⟨by rw[List.length_append]; exact hz,few.2⟩
 ·rw[es]; exact h.apart
 ·intro u hu k hk
  rcases List.mem_or_eq_of_mem_set hu with hu | rfl
  ·exact h.X1 u hu k hk
  ·exact(List.mem_append.mp hk).elim (h.X1 t hm k) λhk=>⟨j,List.mem_singleton.mp hk,hj⟩
 ·rw[es]; exact h.lists
theorem Wl(N:g0 c) (k:i5 K T Z) (h:E9 H K T Ts Fs Z){i:Nat}{t:C3}(ht:Ts[i]?=some t){name access:V}{f:Tm}(hf:f∈T){flags:Nat}(ok:flags∈[0,1,2,5]∧f.weight≤20) (hfz:t.l9.length < 1000) (yR:Fs.length < 1000)
  (q:∀v x dx a6,i5 K T a6→E9 H K T (Ts.set i {t with l9:=t.l9++[Fs.length+1]}) (Fs++[⟨x,dx,flags,f⟩]) a6→d8 (λb=>b=H.fl∨b=t.fa) Z a6→Q v a6) :
  i3 c (n+3) (.fix (.ref 356)) [.ref H.st,vi (64+i),name,vi (T.idxOf f),access,vi flags] Z Q E:=by
 have hi:i < Ts.length:=(List.getElem?_eq_some_iff.mp ht).1
 have tK:=List.mem_of_getElem? ht
 have cP:G0 Ts (64+i)=some t:=(if_neg (Nat.not_lt.mpr (Nat.le_add_right 64 i))).trans ((congrArg (Ts[·]?) (Nat.add_sub_cancel_left (n:=64) (m:=i))).trans ht)
 have zF:Fs.length+1≤1000000:=Nat.le_trans yR (by decide)
 refine N.fn N.C.add_field rfl (f6 ?_)
 refine h.K7 N ?_
 refine h.Jz (Nat.add_lt_add_left hi 64) ?_
 rw[cP]
 refine f6 ?_
 refine h.O2 N ?_
 refine t7 h.fields (by rw[List.length_cons,List.length_map]; exact zF) ?_
 rw[List.length_cons,List.length_map]
 refine n8 ?_
 refine h.O2 N ⟨_,.append h.fields,?_⟩
 refine Wj N λx dx u5 B=>?_
 have k1:=k.same B.old
 have h1:=h.grow (.refl _ 0) (B.old.mono λ_ h=>h.elim) k.plain
 have new:Dl u5 T ⟨x,dx,flags,f⟩:=.mk (B.has 0 rfl rfl) (B.has 1 rfl rfl) (C4 N.yQ.nd (i:=5) rfl rfl) (C4 N.yQ.nd (i:=3) rfl rfl) hf ok
 refine o6 h1.fields (by rw[List.length_cons,List.length_map]; exact zF) ?_
 have m2 (b:Addr) (hb:b≠H.fl):j1 u5 H.fl (.list ((.none::Fs.map λf=>.ref f.o)++[.ref x])) b=u5 b:=i8 hb
 have h2:=h1.wW yR new (a7 ..) m2
 generalize j1 u5 H.fl (.list ((.none::Fs.map λf=>.ref f.o)++[.ref x]))=C2 at m2 h2
 have k2:i5 K T C2:=k1.keep (F:=(·=H.fl)) (d8.of m2 rfl) (λb hb=>hb ▸ h.apart _ (.tail _ (.head _))) (n0 h1.fields)
 have hx:=h2.tys i t ht
 refine n8 ?_
 refine hx.O2 N ⟨_,.append hx.fa,?_⟩
 refine o6 hx.fa (by rw[List.length_map]; exact Nat.le_trans (Nat.le_of_lt hfz) (by decide)) (f7 ?_)
 have m3 (b:Addr) (hb:b≠t.fa):j1 C2 t.fa (.list (t.l9.map vi++[vi (Fs.length+1)])) b=C2 b:=i8 hb
 refine q _ x dx _ (k2.keep (F:=(·=t.fa)) (d8.of m3 rfl) (λb hb=>hb ▸ h.apart _ (Vx tK)) (n0 hx.fa)) (h2.wX ht (by rw[List.length_append]; exact Nat.lt_succ_self _) hfz (by rw[List.map_append]; exact a7 ..) m3) (((B.old.mono λ_ h=>h.elim).trans (d8.of m2 (.inl rfl))).trans (d8.of m3 (.inr rfl)))
end
noncomputable def G3:List Hd:=[.var 0,.prim 7,.val 69,.val 75,.prim 12]
noncomputable def fld(hs:List Hd):Nat→Tm→Bool
 | _,.leaf h=>G3.contains h
 | k+1,.un h a=>hs.contains h && fld hs k a
 | _,_=>false
noncomputable def Tc:List Hd:=[.val 64,.val 65,.val 66,.val 67,.val 68,.cls 70,.arr]
noncomputable def hsR:List Hd:=[.val 64,.val 65,.val 66,.val 67,.cls 70,.arr]
noncomputable def cA(s:Str) (hs:List Hd):Prop:=s.length=hs.length∧∀j,j < hs.length→∃h∈hs,s.cps[j]?=some h.cd
theorem wY:cA (Str.ofString "SRQNGCa") Tc:=⟨by decide +kernel,by decide +kernel⟩
theorem wZ:cA (Str.ofString "SRQNCa") hsR:=⟨by decide +kernel,by decide +kernel⟩
theorem xA:cA (Str.ofString "xieuo") G3:=⟨by decide +kernel,by decide +kernel⟩
section
variable {c:Cx}{n:Nat}{Z:a5}{Q:V→a5→Prop}{E:a5→Prop}{nu at_:Addr}{B:Nat}
theorem cA.sub{s:Str}{hs:List Hd}(L:cA s hs) (hz:hs.length≤100){k:Nat}{i:Int}{R:V→Prop}(hi:i=(k:Int)) (hk:k < hs.length) (q:∀h∈hs,R (one h.cd)):Ei (.str s) (.int i) Z R :=
 (L.2 k hk).elim λh x=>⟨k,h.cd,congrArg V.int hi,Int.natCast_nonneg k,Int.ofNat_lt.mpr (Nat.lt_of_lt_of_le hk (Nat.le_trans hz (by decide))),x.2,q h x.1⟩
theorem Td{hs:List Hd}{deep:Nat}{h:Hd}(hm:h∈G3):fld hs deep (.leaf h)=true:=by cases deep<;>exact List.contains_iff_mem.mpr hm
theorem Kf{hs:List Hd}{deep r:Nat}{x y z w:Option V}{tl:List (Option V)}(hr:r < 5) (q:∀t,fld hs deep t=true→Q t.v Z):l6 c n (Q6.drop 1) (gl (x::y::z::w::some (vi r)::tl)) Z (s9 Q) E:=by
 refine f9 (bI (Int.ofNat_lt.mpr hr) (f7 ?_))
 refine pD (m8 (fV (k7 (l8 rfl ?_))))
 refine xA.sub (by decide) rfl hr λh hm=>?_
 exact q (.leaf h) (Td hm)
theorem Pq(N:g0 c){hs:List Hd}(hz:hs.length≤100){s:Str}(L:cA s hs):∀(deep:Nat){Z:a5}{B n:Nat}{Q:V→a5→Prop}{E:a5→Prop},F0 nu at_ B Z→B+deep+1≤1000000 →
  (∀t,fld hs deep t=true→∀a6,F0 nu at_ (B+deep+1) a6→d8 (·=at_) Z a6→Q t.v a6)→i3 c (n+deep+2) (.fix (.ref 605)) [.ref nu,.ref at_,vi deep,.str s] Z Q E
 | 0,Z,B,n,Q,E,h,hB,q=>by
  refine N.fn N.C.Ml rfl (f6 ?_)
  refine Oy (λh=>h rfl) ?_
  refine N0 N h (Nat.le_of_succ_le hB) (k:=5) (by decide) λr hr a6 d s=>?_
  exact Kf hr λt ht=>q t ht a6 d s
 | k+1,Z,B,n,Q,E,h,hB,q=>by
  refine(?_:i3 c (n+k+2+1) _ _ _ _ _)
  have e1:B+(k+1)+1=B+1+k+1:=congrArg (·+1) ((Nat.add_assoc B k 1).symm.trans (Nat.add_right_comm ..))
  rw[e1] at hB q
  refine N.fn N.C.Ml rfl (f6 ?_)
  refine bI (λz=>nomatch Int.ofNat.inj z) ?_
  refine aR (L.1 ▸ Nat.le_trans hz (by decide)) ⟨?_⟩
  rw[L.1]
  refine N0 N h (Nat.le_of_succ_le (Nat.le_trans (Nat.le_add_right (B+1) k) (Nat.le_of_succ_le hB))) (k:=5+hs.length) (Nat.lt_of_lt_of_le (by decide) (Nat.le_add_right 5 _)) λr hr u5 d1 s1=>?_
  by_cases bT:r < 5
  ·exact Kf bT λt ht=>q t ht u5 (d1.mono (Nat.le_trans (Nat.le_add_right _ k) (Nat.le_succ _))) s1
  obtain⟨j,rfl⟩:∃j,r=j+5:=⟨r - 5,(Nat.sub_add_cancel (Nat.le_of_not_lt bT)).symm⟩
  have hj:j < hs.length:=Nat.lt_of_add_lt_add_right (n:=5) (Nat.add_comm 5 hs.length ▸ hr)
  have lvl:[V.ref nu,.ref at_,vi k,.str s]=[V.ref nu,.ref at_,.int (((k+1:Nat):Int) - 1),.str s]:=congrArg (λi=>[V.ref nu,.ref at_,.int i,.str s]) (Int.add_sub_cancel (k:Int) 1).symm
  refine f9 (Oy (λz=>bT (Int.ofNat_lt.mp z)) (f7 ?_))
  refine Zc ?_
  refine L.sub hz (Int.add_sub_cancel (j:Int) 5) hj λg hg=>⟨?_⟩
  exact w9 lvl (Pq N hz L k d1 hB λa ha C2 d2 s2=>q (.un g a) (Bool.and_eq_true_iff.mpr ⟨List.contains_iff_mem.mpr hg,ha⟩) C2 d2 (s1.trans s2))
noncomputable def deepOf:Tm→Nat
 | .leaf _=>0
 | .un _ a=>deepOf a+1
 | .bin _ a _=>deepOf a+1
theorem mY{t:Tm}(q:Q (vi (t.kids.length+1)) Z):i3 c n (.fix (.builtin "len")) [t.v] Z Q E:=by
 refine w9 (vs:=[.tup (one t.hd.cd::t.kids.map Tm.v)]) (congrArg (λv=>[v]) (I7 t).symm) (w8 Hq ?_)
 rw[List.length_cons,List.length_map]; exact q
theorem mZ{a b:Int}{K:V→a5→Prop}(q:K (.int (a+b)) Z):tW .Add (.int a) (.int b) Z K:=⟨q⟩
theorem cB(t:Tm):t.kids=[]∧deepOf t=0∨∃a,t.kids[0]?=some a∧deepOf t=deepOf a+1:=by
 cases t with
 | leaf h=>exact .inl ⟨rfl,rfl⟩
 | un h a=>exact .inr ⟨a,rfl,rfl⟩
 | bin h a b=>exact .inr ⟨a,rfl,rfl⟩
theorem sK(N:g0 c){t:Tm}(q:Q (vi (deepOf t)) Z):i3 c (n+1) (.fix (.ref 626)) [t.v] Z Q E:=by
 refine N.fn N.C.fK rfl (f6 ?_)
 refine Se (λk l a6=>a6=Z∧∃u:Tm,∃i:Nat,k=deepOf u∧l=some u.v::some (vi i)::pad.drop 1∧i+deepOf u=deepOf t) (k:=deepOf t) ⟨rfl,t,0,rfl,rfl,Nat.zero_add _⟩ ?_
 rintro k _ a6 ⟨rfl,u,i,rfl,rfl,hi⟩
 refine mY ?_
 rcases cB u with⟨ek,ed⟩ | ⟨a,ea,ed⟩
 ·rw[ek]
  rw[ed] at hi
  obtain rfl:i=deepOf t:=hi
  exact Oy (by decide) (f7 q)
 ·refine bI (Int.ofNat_lt.mpr (Nat.succ_lt_succ (List.getElem?_eq_some_iff.mp ea).1)) (f6 ?_)
  refine Pm ea ?_
  refine fS (old:=vi i) rfl (mZ (j9 ?_))
  refine⟨deepOf a,ed ▸ Nat.lt_succ_self _,_,rfl,rfl,a,i+1,rfl,rfl,?_⟩
  rw[←hi,ed,Nat.add_assoc,Nat.add_comm 1]
end
noncomputable def chain:Tm→Bool
 | .leaf _=>true
 | .un _ a=>chain a
 | .bin _ _ _=>false
structure ST(k:Nat) (t:Tm):Prop where
 tok:O5 k t
 st:t.stands=true
 ch:chain t=true
theorem ST.mono{k j:Nat}{t:Tm}(h:ST k t) (hj:k≤j):ST j t:=⟨h.1.mono hj,h.2,h.3⟩
theorem ST.kid{k:Nat}{t a:Tm}(h:ST (k+1) t) (ha:t.kids[0]?=some a):ST k a:=by
 cases t with
 | leaf g=>cases ha
 | un g b =>
  obtain rfl:b=a:=Option.some.inj ha
  exact an h.1.1 λ_ l=>an h.1.2 λo s=>an o λ_ o=>⟨⟨l,o,Nat.le_of_succ_le_succ h.1.3⟩,s,h.3⟩
 | bin g b b'=>exact no h.3
theorem Kg{a:Tm}(hc:chain a=true):∀{u:Tm},chain u=true→chain (l4 [(tX,a)] u)=true
 | .leaf h,_=>by
  cases e:e9 [(tX,a)] (.leaf h) with
  | none=>exact(congrArg (λo:Option Tm=>chain (o.getD _)) e).trans rfl
  | some u=>exact Z2 e ▸ (show u=a from(congrArg Prod.snd (List.mem_singleton.mp (i7 e)))) ▸ hc
 | .un h b,hu=>(congrArg (λo:Option Tm=>chain (o.getD _)) (none_of λu e=>(nomatch congrArg Prod.fst (List.mem_singleton.mp (i7 e))):e9 [(tX,a)] (.un h b)=none)).trans (Kg hc (u:=b) hu)
 | .bin _ _ _,hu=>no hu
theorem ST.put{k j:Nat}{u a:Tm}(hu:ST k u) (ha:ST (j+1) a):ST (k+j) (l4 [(tX,a)] u) :=
 have p:=R3 (f:=[(tX,a)]) (k:=j+1) (Nat.le_add_left 1 j) (List.forall_mem_singleton.mpr ⟨ha.1,ha.2⟩) (List.forall_mem_singleton.mpr ⟨_,rfl⟩) hu.1.1 hu.1.2
 ⟨⟨p.1,p.2,Nat.le_of_succ_le_succ (Nat.le_trans p.3 (Nat.add_le_add_right hu.1.3 (j+1)))⟩,p.4 hu.2,Kg ha.3 hu.3⟩
noncomputable def La:List Hd:=[.val 64,.val 65,.val 66,.val 67,.val 68,.val 75]
noncomputable def A9:List Hd:=[.val 64,.val 65,.val 66,.val 67,.val 68]
noncomputable def Pr(h:Hd):Option Nat:=if h∈A9 then some (A9.idxOf h) else none
noncomputable def m5(D:Nat→List Tm) (t:Tm):List Tm:=(Pr t.hd).elim [] λj=>(t.kids[0]?).elim [] λa=>((D j).map (l4 [(tX,a)])).filter λu=>La.contains u.hd
noncomputable def keyOf(h:Hd):V:=one h.cd
noncomputable def Hc(hs:List Hd) (v6:List Addr):List (V×V):=(hs.map keyOf).zip (v6.map .ref)
structure cC(fa:Addr) (v6:List Addr) (D:Nat→List Tm) (Z:a5):Prop where
 dct:Z fa=some (.dict (Hc A9 v6))
 len:v6.length=5
 ls:∀(i:Nat){a},v6[i]?=some a→Z a=some (.list ((D i).map Tm.v))
theorem cC.same{fa:Addr}{v6:List Addr}{D:Nat→List Tm}{Z a6:a5}{F:Addr→Prop}(h:cC fa v6 D Z) (s:d8 F Z a6) (h1:∀a∈fa::v6,¬F a):cC fa v6 D a6 :=
 ⟨s _ _ (h1 _ (.head _)) h.dct,h.len,λi a e=>s _ _ (h1 _ (.tail _ (List.mem_of_getElem? e))) (h.ls i e)⟩
theorem Du{h:Hd}(hh:h∈G9):∀{hs:List Hd}{v6:List Addr},(∀g∈hs,g∈G9)→E7 (Hc hs v6) (keyOf h)=if h∈hs then (v6[hs.idxOf h]?).map V.ref else none
 | [],_,_=>(if_neg List.not_mem_nil).symm
 | g::hs,[],_=>by
  refine(?_:none=_)
  by_cases e:h∈g::hs
  ·rw[if_pos e]; rfl
  ·rw[if_neg e]
 | g::hs,a::v6,hg=>by
  refine(congrArg (Option.map Prod.snd) (List.find?_cons (p:=λp:V×V=>decide (p.1=keyOf h)) (a:=(keyOf g,V.ref a)) (as:=Hc hs v6))).trans ?_
  by_cases e:g=h
  ·subst e
   rw[if_pos (.head _),show decide ((keyOf g,V.ref a).1=keyOf g)=true from decide_eq_true rfl,List.idxOf_cons_self]; rfl
  ·rw[show decide ((keyOf g,V.ref a).1=keyOf h)=false from decide_eq_false λq=>e (hV g (hg g (.head _)) h hh (one_inj q)),List.idxOf_cons,beq_eq_false_iff_ne.mpr e,cond_false]
   refine(Du hh λg hg'=>hg g (.tail _ hg')).trans ?_
   by_cases q:h∈hs
   ·rw[if_pos q,if_pos (.tail _ q)]; rfl
   ·rw[if_neg q,if_neg λz=>(List.mem_cons.mp z).elim (λz=>e z.symm) q]
theorem Dv{h:Hd}{hs:List Hd}{v6:List Addr}:H6 (keyOf h) (Hc hs v6) :=
 .inr (.inl ⟨_,rfl,λp hp=>(List.mem_map.mp (List.of_mem_zip (a:=p.1) (b:=p.2) hp).1).elim λg q=>⟨_,q.2.symm⟩⟩)
theorem Dw:∀g∈A9,g∈G9:=by decide +kernel
theorem sL:∀h∈G9,decide (h.cd∈(Str.ofString "SRQNGu").cps.toList)=La.contains h:=by decide +kernel
section
variable {c:Cx}{n:Nat}{Z:a5}{Q:V→a5→Prop}{E:a5→Prop}
theorem Kh{D:Nat→List Tm}{m:Nat}(hD:∀j,∀u∈D j,ST m u){t:Tm}{k:Nat}(ht:ST (k+2) t):∀u∈m5 D t,ST (m+k) u:=by
 intro u hu
 unfold m5 at hu
 cases ej:Pr t.hd with
 | none=>rw[ej] at hu; exact(List.not_mem_nil hu).elim
 | some j =>
  cases ea:t.kids[0]? with
  | none=>rw[ej,ea] at hu; exact(List.not_mem_nil hu).elim
  | some a =>
   rw[ej,ea] at hu
   obtain⟨w,hw,rfl⟩:=List.mem_map.mp (List.mem_filter.mp hu).1
   exact(hD j w hw).put (ht.kid ea)
theorem O8{D:Nat→List Tm}{m:Nat}(hD:∀j,(D j).length≤m) (t:Tm):(m5 D t).length≤m:=by
 unfold m5
 cases ej:Pr t.hd with
 | none=>exact Nat.zero_le _
 | some j =>
  cases ea:t.kids[0]? with
  | none=>exact Nat.zero_le _
  | some a=>exact Nat.le_trans (List.length_filter_le ..) (Nat.le_trans (Nat.le_of_eq (List.length_map ..)) (hD j))
theorem a1s{t x:Tm}(h:t.kids[0]?=some x){R:V→Prop}(q:R x.v):Ei t.v (.int 1) Z R:=Pm (i:=0) h q
theorem Gm{p:Tm→Bool}{g:Tm→Tm}{d:List Tm}{u:Tm}:((d++[u]).map g).filter p=(d.map g).filter p++if p (g u)=true then [g u] else []:=by
 rw[List.map_append,List.filter_append]
 refine congrArg (λl=>(d.map g).filter p++l) ?_
 by_cases e:p (g u)=true
 ·rw[if_pos e]; exact List.filter_cons_of_pos e
 ·rw[if_neg e]; exact List.filter_cons_of_neg e
theorem Na(N:g0 c){x0:Option V}{t:Tm}{k:Nat}(ht:ST (k+2) t){out b:Addr}{L:List Tm}(hb:Z b=some (.list (L.map Tm.v))) (hne:b≠out) (ho:Z out=some (.list [])){a:Tm}(ha:∀u∈L,t.kids[0]?=some a) (hL:∀u∈L,ST 8 u) (hz:L.length≤100000){xs:List S}{R:Fl→Loc→a5→Prop}
  (q:∀y z a6,d8 (·=out) Z a6→a6 out=some (.list (((L.map (l4 [(tX,a)])).filter λu=>La.contains u.hd).map Tm.v))→l6 c (n+10) xs (gl (x0::some t.v::some (.ref out)::y::z::pad.drop 3)) a6 R E) :
  tA c (n+10) (.one 3) [(.set 4 (.call (.con (.fix (.ref 553))) [(.loc 3),(.dct [(.tup [(.con (.str "x"))]),(.sub (.loc 1) (.con (.int 1)))])])),(.ite (.cmp .In (.sub (.loc 4) (.con (.int 0))) (.con (.str "SRQNGu"))) [(.exp (.meth (.loc 2) "append" [(.loc 4)]))] [])] xs (x0::some t.v::some (.ref out)::pad.drop 1) R E (.ref b) Z:=by
 refine z8 (iv:=.ref b) Tm.v L (γ:=Option V×Option V) (λg=>x0::some t.v::some (.ref out)::g.1::g.2::pad.drop 3) (λd _ a6=>d8 (·=out) Z a6∧a6 out=some (.list (((d.map (l4 [(tX,a)])).filter λu=>La.contains u.hd).map Tm.v))) (none,none) (Nat.le_trans hz (by decide)) (λd g a6 I=>m9 (I.1 _ _ hne hb)) ⟨.refl _ _,ho⟩ (λd u r g u5 R' e I hs _=>?_) λg a6 I=>q g.1 g.2 a6 I.1 I.2
 have hu:=G7 e
 have ST1:=(hL u hu).put (ht.kid (ha u hu))
 have LX:LT tX:=R4 (by decide +kernel)
 refine f6 ?_
 have d5:=Po (bd:=[(tX,a)]) (vs:=[.tup [.str (Str.ofString "x")],a.v]) (by
  refine(?_:_=[(tX.v,a.v)])
  rw[wM]; rfl) (List.forall_mem_singleton.mpr LX) (List.pairwise_singleton ..)
 refine λr5 bT=>?_
 refine a1s (ha u hu) ⟨a7 ..,d5.1,?_⟩
 generalize hD:G4 [] (z9 _)=D
 obtain rfl:=hD.symm.trans d5.2
 rw[C9]
 have s5:d8 (λ_=>False) u5 _:=d8.new (o:=.dict ([(tX,a)].map λp=>(p.1.v,p.2.v))) bT
 refine Kc N (f:=[(tX,a)]) (List.forall_mem_singleton.mpr LX) 8 (hL u hu).1.3 (a7 ..) ((hL u hu).1.lt (by decide)) λSw s6=>?_
 have wO:=s5.trans s6
 have ho6:=wO _ _ id I.2
 have S6:=I.1.trans (wO.mono λ_ h=>h.elim)
 refine f9 ?_
 refine I9 ?_
 refine Pn ?_
 rw[sL _ (E1 ST1.1.1)]
 refine bH (λe1=>n8 ⟨_,.append ho6,?_⟩) λe1=>j9 ?_
 ·refine o6 ho6 (De (Nat.le_trans (List.length_filter_le ..) (Nat.le_trans (Nat.le_of_eq (List.length_map ..)) (Nat.le_trans (X2 e) hz)))) (j9 ?_)
  refine(hs (_,_) _ ⟨S6.trans (d8.at rfl),?_⟩).1
  rw[a7,Gm,if_pos e1,List.map_append]; rfl
 ·refine(hs (_,_) _ ⟨S6,?_⟩).1
  rw[ho6,Gm,if_neg (Bool.eq_false_iff.mp e1),List.append_nil]
theorem Ps(N:g0 c){fa:Addr}{v6:List Addr}{D:Nat→List Tm}(hF:cC fa v6 D Z) (hD:∀j,∀u∈D j,ST 8 u) (hz:∀j,(D j).length≤3){t:Tm}{k:Nat}(ht:ST (k+2) t)
  (q:∀r a6,Z r=none→d8 (λ_=>False) Z a6→a6 r=some (.list ((m5 D t).map Tm.v))→Q (.ref r) a6):i3 c (n+11) (.fix (.ref 619)) [.ref fa,t.v] Z Q E:=by
 refine N.fn N.C.fJ rfl (f6 λout hout=>A2 ?_)
 have s0:d8 (λ_=>False) Z (j1 Z out (.list [])):=d8.new hout
 have hF0:=hF.same s0 λ_ _=>id
 refine⟨_,.get hF0.dct,?_⟩
 refine I9 λr1 hr1=>?_
 have s1:d8 (λ_=>False) (j1 Z out (.list [])) _:=d8.new (o:=.list []) hr1
 have hF1:=hF0.same s1 λ_ _=>id
 have eo:=s1 out _ id (a7 ..)
 have fin {a6:a5}{L:List Tm}{a:Tm}(e:m5 D t=(L.map (l4 [(tX,a)])).filter λu=>La.contains u.hd) (s:d8 (·=out) (j1 (j1 Z out (.list [])) r1 (.list [])) a6) (h:a6 out=some (.list (((L.map (l4 [(tX,a)])).filter λu=>La.contains u.hd).map Tm.v))):Q (.ref out) a6 :=
  q out a6 hout (λb o f eb=>s b o (fresh_ne hout eb) ((s0.trans s1) b o f eb)) (e ▸ h)
 refine oN hF1.dct Dv ?_
 have eg:E7 (Hc A9 v6) (one t.hd.cd)=_:=Du (v6:=v6) (E1 ht.1.1) Dw
 by_cases hm:t.hd∈A9
 ·have hi:A9.idxOf t.hd < v6.length:=hF.len ▸ List.idxOf_lt_length_of_mem hm
  have hl:=List.getElem?_eq_getElem hi
  rw[eg,if_pos hm,hl]
  have sj:Pr t.hd=some (A9.idxOf t.hd):=if_pos hm
  have hb:=hF1.ls _ hl
  have hne:v6[A9.idxOf t.hd]≠out:=fresh_ne hout (hF.ls _ hl)
  have z3:=Nat.le_trans (hz (A9.idxOf t.hd)) (by decide:3≤100000)
  cases ea:t.kids[0]? with
  | some a=>exact Na N ht hb hne eo (a:=a) (λ_ _=>ea) (hD _) z3 λy z a6 s h=>f7 (fin (by unfold m5; rw[sj,ea]; rfl) s h)
  | none=>exact absurd (arity ht.1.1) (by rw[List.eq_nil_of_length_eq_zero (Nat.le_zero.mp (List.getElem?_eq_none_iff.mp ea)),(by decide +kernel:∀h∈A9,ar h=1) _ hm]; exact Nat.zero_ne_one)
 ·rw[eg,if_neg hm]
  exact Na N ht (L:=[]) (a:=tX) (a7 ..) (λz=>g9 (j3 (a7 ..)) (z ▸ hr1)) eo (λ_ h=>(List.not_mem_nil h).elim) (λ_ h=>(List.not_mem_nil h).elim) (Nat.zero_le _) λy z a6 s h=>f7 (fin (by unfold m5; rw[show Pr t.hd=none from if_neg hm]; rfl) s h)
end
structure P8(H:Mt) (K:H1) (T:List Tm) (Ts:List C3) (Fs:List J4) (d nu at_:Addr) (B:Nat) (Z:a5):Prop where
 k:i5 K T Z
 s:E9 H K T Ts Fs Z
 y:Vq d H.st K Z
 dr:F0 nu at_ B Z
 sep:∀a∈[nu,at_],¬K.F a∧a∉T8 H Ts
section
variable {c:Cx}{n:Nat}{Z a6:a5}{K:H1}{T:List Tm}{Q:V→a5→Prop}{E:a5→Prop}{H:Mt}{Ts:List C3}{Fs:List J4}{d nu at_ na:Addr}{B:Nat}{f:Bd}
theorem F0.lst(h:F0 nu at_ B Z):∀a∈[nu,at_],∃l,Z a=some (.list l):=match h with
 | .mk ns i _ _ _ e _ e' _=>List.forall_mem_cons.mpr ⟨⟨_,e⟩,List.forall_mem_singleton.mpr ⟨_,e'⟩⟩
theorem Zi{a b:Addr}{l:List (V×V)}(h:∃m,Z a=some (.list m)) (h':Z b=some (.dict l)):a≠b:=λe=>h.elim λm h=>nomatch (h.symm.trans (e ▸ h'):some (j8.list m)=some (.dict l))
theorem N1.plain(u:N1 K T f na Z):Plain (CF K na) Z:=λb hb=>hb.elim (u.kt.plain b) λe=>.inr ⟨_,e ▸ u.nd⟩
theorem N1.keep(u:N1 K T f na Z){F:Addr→Prop}(s:d8 F Z a6) (hp:Plain F Z) (hF:∀b,F b→¬K.F b) (hn:¬F na):N1 K T f na a6 :=
 ⟨u.kt.keep s hF hp,s _ _ hn u.nd,u.ne,u.all,u.keys,u.clo⟩
theorem P8.move(h:P8 H K T Ts Fs d nu at_ B Z){T':List Tm}{m:Nat}{F:Addr→Prop}(g:Gr T T' m) (k:i5 K T' a6) (s:d8 F Z a6) (hp:Plain F Z) (hF:∀b∈T8 H Ts,¬F b) (h1:∀a∈[nu,at_],¬F a):P8 H K T' Ts Fs d nu at_ B a6 :=
 ⟨k,h.s.move g s hp hF,h.y.same s hp,h.dr.same s (h1 _ (.head _)) (h1 _ (.tail _ (.head _))),h.sep⟩
theorem P8.new(h:P8 H K T Ts Fs d nu at_ B Z) (s:d8 (λ_=>False) Z a6):P8 H K T Ts Fs d nu at_ B a6 :=
 h.move (.refl _ 0) (h.k.same s) s .none (λ_ _=>id) λ_ _=>id
theorem P8.yS(h:P8 H K T Ts Fs d nu at_ B Z):Plain (·=at_) Z:=λb hb=>.inl ((h.dr.lst at_ (.tail _ (.head _))).imp λ_ e=>hb ▸ e)
theorem P8.draw(h:P8 H K T Ts Fs d nu at_ B Z){B':Nat}(dr:F0 nu at_ B' a6) (s:d8 (·=at_) Z a6):P8 H K T Ts Fs d nu at_ B' a6 :=
 have a:=h.sep at_ (.tail _ (.head _))
 ⟨h.k.keep s (λb hb=>hb ▸ a.1) h.yS,h.s.move (.refl _ 0) s h.yS (λb hb e=>a.2 (e ▸ hb)),h.y.same s h.yS,dr,h.sep⟩
theorem P8.xB(h:P8 H K T Ts Fs d nu at_ B Z) (u:N1 K T f na Z) (s:d8 (·=at_) Z a6):N1 K T f na a6 :=
 u.keep s h.yS (λb hb=>hb ▸ (h.sep at_ (.tail _ (.head _))).1) (Zi (h.dr.lst at_ (.tail _ (.head _))) u.nd).symm
theorem P8.mono(h:P8 H K T Ts Fs d nu at_ B Z){B':Nat}(hb:B≤B'):P8 H K T Ts Fs d nu at_ B' Z:=⟨h.k,h.s,h.y,h.dr.mono hb,h.sep⟩
theorem P8.kind(h:P8 H K T Ts Fs d nu at_ B Z) (u:N1 K T f na Z) (hn:na∉T8 H Ts){T':List Tm}{f':Bd}{m:Nat}(g:Gr T T' m) (u':N1 K T' f' na a6) (s:d8 (CF K na) Z a6):P8 H K T' Ts Fs d nu at_ B a6 :=
 h.move g u'.kt s u.plain (λb hb q=>q.elim (h.s.apart b hb) λe=>hn (e ▸ hb)) λa ha q=>q.elim (h.sep a ha).1 (Zi (h.dr.lst a ha) u.nd)
noncomputable def pL(Fs:List J4) (l9:List Nat):List (Option (Tm×Nat)):=l9.map λi=>(Fs[i - 1]?).map λf=>(f.kind,f.flags)
noncomputable def cD(Ts:List C3) (Fs:List J4) (j:Nat) (l:List (Tm×Nat)):Prop:=∃t,Ts[j]?=some t∧pL Fs t.l9=l.map some
noncomputable def TL(l:List (Tm×Nat)):List Tm:=(l.filter λp=>p.2 == 0 || p.2 == 2).map (·.1)
theorem Zj{g:J4}{l9:List Nat}(h:∀i∈l9,∃j,i=j+1∧j < Fs.length):pL (Fs++[g]) l9=pL Fs l9 :=
 List.map_congr_left λi hi=>(h i hi).elim λj q=>congrArg (Option.map λf:J4=>(f.kind,f.flags)) (q.1 ▸ List.getElem?_append_left q.2)
theorem iN(N:g0 c) (h:P8 H K T Ts Fs d nu at_ B Z) (u:N1 K T f na Z) (hn:na∉T8 H Ts){j:Nat}{l:List (Tm×Nat)}(hj:cD Ts Fs j l){name access:V}{t:Tm}(ht:t∈T){flags:Nat}(ok:flags∈[0,1,2,5]∧t.weight≤20) (hlz:l.length < 1000) (yR:Fs.length < 1000)
  (q:∀v Ql Fs' a6,P8 H K T Ql Fs' d nu at_ B a6→N1 K T f na a6→T8 H Ql=T8 H Ts→Fs'.length=Fs.length+1→cD Ql Fs' j (l++[(t,flags)])→(∀i l,i≠j→cD Ts Fs i l→cD Ql Fs' i l)→(Ql.map λt=>(t.sort,t.np))=(Ts.map λt=>(t.sort,t.np)) →
   d8 (·∈T8 H Ts) Z a6→Q v a6) :
  i3 c (n+3) (.fix (.ref 356)) [.ref H.st,vi (64+j),name,vi (T.idxOf t),access,vi flags] Z Q E:=by
 obtain⟨ti,hti,hfo⟩:=hj
 have a1t:ti.l9.length=l.length:=by have:=congrArg List.length hfo; unfold pL at this; rwa [List.length_map,List.length_map] at this
 have tK:=List.mem_of_getElem? hti
 refine Wl N h.k h.s hti ht ok (a1t ▸ hlz) yR λv x dx a6 k' s' same=>?_
 have es:=Zh (H:=H) (t':={ti with l9:=ti.l9++[Fs.length+1]}) hti rfl
 have yT (b:Addr) (hb:b=H.fl∨b=ti.fa):b∈T8 H Ts:=hb.elim (λe=>e ▸ .tail _ (.head _)) λe=>e ▸ Vx tK
 have hp:Plain (λb=>b=H.fl∨b=ti.fa) Z:=λb hb=>hb.elim (λe=>.inl ⟨_,e ▸ h.s.fields⟩) λe=>.inl ⟨_,e ▸ (h.s.tys j ti hti).fa⟩
 have no (a:Addr) (ha:a∈[nu,at_]):¬(a=H.fl∨a=ti.fa):=λe=>(h.sep a ha).2 (yT a e)
 refine q v _ _ a6 ⟨k',s',h.y.same same hp,h.dr.same same (no _ (.head _)) (no _ (.tail _ (.head _))),by rw[es]; exact h.sep⟩ (u.keep same hp (λb hb=>h.s.apart b (yT b hb)) λe=>hn (yT _ e)) es List.length_append ⟨_,(List.getElem?_set_self (List.getElem?_eq_some_iff.mp hti).1),?_⟩ (λi l' hij q=>q.imp λt' q=>?_) (map_set hti rfl) (same.mono yT)
 ·refine(List.map_append (l₁:=ti.l9) (l₂:=[Fs.length+1])).trans ?_
  rw[List.map_append (l₁:=l)]
  have e1:pL (Fs++[⟨x,dx,flags,t⟩]) ti.l9=l.map some:=(Zj (h.s.X1 ti tK)).trans hfo
  have e2:(Fs++[(⟨x,dx,flags,t⟩:J4)])[Fs.length]?=some ⟨x,dx,flags,t⟩:=List.getElem?_concat_length
  exact congr (congrArg HAppend.hAppend e1) (congrArg (λo:Option J4=>[o.map λf:J4=>(f.kind,f.flags)]) e2)
 ·exact⟨(List.getElem?_set_ne hij.symm).trans q.1,(Zj (h.s.X1 t' (List.mem_of_getElem? q.1))).trans q.2⟩
end
noncomputable def Te(j:Nat):List Hd:=if j=0 then Tc else hsR
noncomputable def Pt(j:Nat):Nat:=if j=0 then 2 else 1
noncomputable def DOk(j:Nat) (l:List (Tm×Nat)):Prop:=∀p∈l,fld (Te j) (Pt j) p.1=true∧p.2∈[0,1,2,5]
theorem Pu(j:Nat):∀h∈Te j,h∈Tc:=by
 unfold Te
 by_cases e:j=0
 ·rw[if_pos e]; exact λ_=>id
 ·rw[if_neg e]; exact(by decide +kernel:∀h∈hsR,h∈Tc)
theorem Pv(j:Nat):Pt j≤2:=by
 unfold Pt
 by_cases e:j=0
 ·rw[if_pos e]; exact Nat.le_refl 2
 ·rw[if_neg e]; exact Nat.le_succ 1
theorem iO:∀h∈G3,(Tm.leaf h).A3=true∧(Tm.leaf h).ok=true∧h.stands=true:=by decide +kernel
theorem sM:∀h∈Tc,kH.contains h=true∧h.fit 1=true∧h.stands=true:=by decide +kernel
theorem Pw{hs:List Hd}(hh:∀h∈hs,h∈Tc):∀{k:Nat}{t:Tm},fld hs k t=true→ST (k+1) t
 | k,.leaf h,e=>have q:=iO h (in_of (by cases k<;>exact e)); ⟨⟨q.1,q.2.1,Nat.le_add_left 1 k⟩,q.2.2,rfl⟩
 | k+1,.un h a,e=>an e λe1 e2=>have i:=Pw hh e2; have q:=sM h (hh h (in_of e1)); ⟨.un ⟨i.1,i.2⟩ ⟨q.1,q.2.1⟩,q.2.2,i.3⟩
 | 0,.un h a,e=>no e
 | 0,.bin h a b,e=>no e
 | k+1,.bin h a b,e=>no e
theorem Dx:∀{t:Tm},chain t=true→t.weight=t.nest
 | .leaf _,_=>rfl
 | .un h a,e=>(Nat.add_comm 1 a.weight).trans (congrArg (·+1) (Dx (t:=a) e))
 | .bin _ _ _,e=>no e
theorem ST.light{k:Nat}{t:Tm}(h:ST k t):t.weight≤k:=Dx h.3 ▸ h.1.3
theorem ST.fits{k:Nat}{t:Tm}(h:ST k t) (hk:k≤24):Fits t:=⟨Nat.le_trans (X7 t) (Nat.le_trans h.1.3 hk),Nat.le_trans h.light (Nat.le_trans hk (by decide))⟩
theorem Zk{l:List (Tm×Nat)}{t:Tm}{fl:Nat}:TL (l++[(t,fl)])=TL l++if (fl == 0 || fl == 2)=true then [t] else []:=by
 unfold TL
 rw[List.filter_append,List.map_append]
 refine congrArg (λm=>(l.filter λp=>p.2 == 0 || p.2 == 2).map (·.1)++m) ?_
 by_cases e:(fl == 0 || fl == 2)=true
 ·rw[if_pos e]; exact congrArg (List.map Prod.fst) (List.filter_cons_of_pos e)
 ·rw[if_neg e]; exact congrArg (List.map Prod.fst) (List.filter_cons_of_neg e)
theorem Wm(l:List (Tm×Nat)):(TL l).length≤l.length:=Nat.le_trans (Nat.le_of_eq (List.length_map ..)) (List.length_filter_le ..)
structure FC where
 H:Mt
 K:H1
 d:Addr
 nu:Addr
 at_:Addr
 na:Addr
 T0:List Tm
 pM:List C3
 B0:Nat
structure FG where
 T:List Tm
 f:Bd
 Ts:List C3
 Fs:List J4
 D:Nat→List (Tm×Nat)
 v6:List Addr
noncomputable def Ki{α:Type}(D:Nat→α) (j:Nat) (l:α):Nat→α:=λi=>if i=j then l else D i
theorem H0{α:Type}{D:Nat→α}{j:Nat}{l:α}:Ki D j l j=l:=if_pos rfl
theorem L5{α:Type}{D:Nat→α}{i j:Nat}{l:α}(h:i≠j):Ki D j l i=D i:=if_neg h
theorem Dy{α:Type}{D:Nat→α}{i j:Nat}{l:α}{P:Nat→α→Prop}(h1:P j l) (h2:i≠j→P i (D i)):P i (Ki D j l i):=by
 by_cases e:i=j
 ·subst e; exact H0.symm ▸ h1
 ·exact(L5 e).symm ▸ h2 e
noncomputable def FC.Out(C:FC) (b:Addr):Prop:=¬C.K.F b∧b∉T8 C.H C.pM∧b≠C.na∧b∉[C.nu,C.at_]
structure z0(C:FC) (k:Nat) (G:FG) (Z:a5):Prop where
 L:P8 C.H C.K G.T G.Ts G.Fs C.d C.nu C.at_ (C.B0+5 * k) Z
 u:N1 C.K G.T G.f C.na Z
 sn:C.na∉T8 C.H G.Ts
 gr:Gr C.T0 G.T (5 * k)
 fz:G.Fs.length≤k
 ty:∀i,i < 7→cD G.Ts G.Fs i (G.D i)
 cE:(G.Ts.map λt=>(t.sort,t.np))=C.pM.map λt=>(t.sort,t.np)
 sl:T8 C.H G.Ts=T8 C.H C.pM
structure Tf(C:FC) (fa:Addr) (v6:List Addr) (D:Nat→List Tm) (Z:a5):Prop where
 dct:Z fa=some (.dict (Hc A9 v6))
 ls:∀(i:Nat){a},v6[i]?=some a→Z a=some (.list ((D i).map Tm.v))
 out:∀a∈fa::v6,C.Out a
 nd:(fa::v6).Nodup
section
variable {C:FC}{k k':Nat}{G:FG}{v6:List Addr}{D:Nat→List Tm}{Z a6:a5}{a fa:Addr}
theorem Tf.keep(M:Tf C fa v6 D Z){F:Addr→Prop}(s:d8 F Z a6) (hF:∀b,C.Out b→¬F b):Tf C fa v6 D a6 :=
 ⟨s _ _ (hF _ (M.out _ (.head _))) M.dct,λi a e=>s _ _ (hF _ (M.out _ (.tail _ (List.mem_of_getElem? e)))) (M.ls i e),M.out,M.nd⟩
theorem z0.out(P:z0 C k G Z) (ha:Z a=none):C.Out a :=
 ⟨P.L.k.off ha,λh=>P.L.s.out ha (P.sl ▸ h),λe=>g9 (j3 P.u.nd) (e ▸ ha),λh=>(P.L.dr.lst a h).elim λ_ e=>g9 (j3 e) ha⟩
theorem z0.touch(P:z0 C k G Z) (ha:C.Out a) (p:Plain (·=a) Z) (m:∀b,b≠a→a6 b=Z b):z0 C k G a6 :=
 have s:d8 (·=a) Z a6:=d8.of m rfl
 have hk:∀b,b=a→¬C.K.F b:=λb hb=>hb ▸ ha.1
 ⟨P.L.move (.refl _ 0) (P.L.k.keep s hk p) s p (λb hb e=>ha.2.1 (P.sl ▸ e ▸ hb)) λb hb e=>ha.2.2.2 (e ▸ hb),P.u.keep s p hk ha.2.2.1.symm,P.sn,P.gr,P.fz,P.ty,P.cE,P.sl⟩
theorem z0.same(P:z0 C k G Z) (s:d8 (λ_=>False) Z a6):z0 C k G a6:=⟨P.L.new s,P.u.same s,P.sn,P.gr,P.fz,P.ty,P.cE,P.sl⟩
theorem z0.draw(P:z0 C k G Z) (hk:k≤k') (dr:F0 C.nu C.at_ (C.B0+5 * k') a6) (s:d8 (·=C.at_) Z a6):z0 C k' G a6 :=
 ⟨P.L.draw dr s,P.L.xB P.u s,P.sn,P.gr.mono (Nat.mul_le_mul_left 5 hk),Nat.le_trans P.fz hk,P.ty,P.cE,P.sl⟩
theorem z0.mono(P:z0 C k G Z) (hk:k≤k'):z0 C k' G Z :=
 ⟨P.L.mono (Nat.add_le_add_left (Nat.mul_le_mul_left 5 hk) _),P.u,P.sn,P.gr.mono (Nat.mul_le_mul_left 5 hk),Nat.le_trans P.fz hk,P.ty,P.cE,P.sl⟩
theorem FC.Out.at_{b:Addr}(h:C.Out b):¬b=C.at_:=λe=>h.2.2.2 (.tail _ (e ▸ .head _))
theorem FC.Out.cf{b:Addr}(h:C.Out b):¬CF C.K C.na b:=λq=>q.elim h.1 h.2.2.1
theorem Tf.put(M:Tf C fa v6 D Z){j:Nat}(ha:v6[j]?=some a){t:Tm}(e:a6 a=some (.list ((D j).map Tm.v++[t.v]))) (m:∀b,b≠a→a6 b=Z b):Tf C fa v6 (Ki D j (D j++[t])) a6:=by
 have d:=List.nodup_cons.mp M.nd
 refine⟨(m fa λz=>d.1 (z ▸ List.mem_of_getElem? ha)).trans M.dct,λi b hb=>?_,M.out,M.nd⟩
 by_cases z:i=j
 ·subst z
  obtain rfl:=Option.some.inj (ha.symm.trans hb)
  rw[H0,List.map_append]; exact e
 ·rw[L5 z]
  exact(m b λq=>z (O7 d.2 hb (q ▸ ha))).trans (M.ls i hb)
end
theorem pN{s:Nat}:V.int s∈[V.int 0,V.int 2]↔(s == 0 || s == 2)=true :=
 List.mem_cons.trans ((or_congr ⟨λq=>beq_iff_eq.mpr (Int.ofNat.inj (V.int.inj q)),λq=>beq_iff_eq.mp q ▸ rfl⟩ (List.mem_singleton.trans ⟨λq=>beq_iff_eq.mpr (Int.ofNat.inj (V.int.inj q)),λq=>beq_iff_eq.mp q ▸ rfl⟩)).trans Bool.or_eq_true_iff.symm)
noncomputable def pO:List Nat:=[0,0,2,0,1,5]
theorem iP:∀r,r < 6→∃fl∈[0,1,2,5],pO[r]?=some fl:=by decide +kernel
theorem xC:∀j,j < 5→A9[j]?=some (.val (64+j))∧(Str.ofString "SRQNG").cps[j]?=some (Hd.val (64+j)).cd∧Hd.val (64+j)∈A9∧A9.idxOf (.val (64+j))=j∧decide ((⟨#[(Hd.val (64+j)).cd]⟩:Str) = "S")=decide (j=0)∧decide ((⟨#[(Hd.val (64+j)).cd]⟩:Str) = "G")=decide (j=4):=by decide +kernel
theorem pP{a k m X:Nat}(h:a≤X+5 * k) (hk:k≤20) (hm:m≤90) (hX:X+200 < 100000):a+m < 100000:=by omega
theorem Zl{k m X:Nat}(hk:k≤20) (hm:m≤90) (hX:X+200≤1000000):X+5 * k+m≤1000000:=by omega
section
variable {c:Cx}{n:Nat}{Z:a5}{C:FC}{k:Nat}{G:FG}{E:a5→Prop}{fa:Addr}
theorem Px{a b:Int}{Q:V→a5→Prop}(q:Q (.int (a+b)) Z):yC .Add (.int a) (.int b) Z Q:=⟨q⟩
theorem Py{l:List V}{v:V}{i:Nat}(hz:l.length≤1000000) (h:l[i]?=some v){R:V→Prop}(q:R v):Ei (.tup l) (vi i) Z R :=
 ⟨Nat.lt_of_lt_of_le (List.getElem?_eq_some_iff.mp h).1 (Nat.le_trans hz (by decide)),(show S5 l[i]? R by rw[h]; exact q)⟩
theorem Th{a:Addr}{l:List (V×V)}{k v:V}(ha:Z a=some (.dict l)) (hk:H6 k l) (hv:E7 l k=some v){R:V→Prop}(q:R v):Ei (.ref a) k Z R:=by
 unfold Ei
 dsimp only
 rw[ha]
 exact⟨hk,v,hv,q⟩
theorem pQ{j:Nat}(hj:j < 5){v6:List Addr}{a:Addr}(ha:v6[j]?=some a):E7 (Hc A9 v6) (one (Hd.val (64+j)).cd)=some (.ref a):=by
 have A:=xC j hj
 refine(Du (Dw _ A.2.2.1) Dw).trans ((if_pos A.2.2.1).trans ?_)
 rw[A.2.2.2.1,ha]; rfl
theorem z0.add{j:Nat}(P:z0 C k G Z){t:Tm}{fl:Nat}{T':List Tm}{f':Bd}{Ql:List C3}{Fs':List J4}{w:Nat}{a6:a5}{k':Nat}(hk:k+1≤k') (hw:5 * k+w≤5 * k') (g:Gr G.T T' w)
  (L:P8 C.H C.K T' Ql Fs' C.d C.nu C.at_ (C.B0+5 * k') a6) (u:N1 C.K T' f' C.na a6) (es:T8 C.H Ql=T8 C.H G.Ts) (hz:Fs'.length=G.Fs.length+1) (h1:cD Ql Fs' j (G.D j++[(t,fl)])) (h2:∀i l,i≠j→cD G.Ts G.Fs i l→cD Ql Fs' i l) (hs:(Ql.map λt=>(t.sort,t.np))=G.Ts.map λt=>(t.sort,t.np)) :
  z0 C k' ⟨T',f',Ql,Fs',Ki G.D j (G.D j++[(t,fl)]),G.v6⟩ a6:=by
 refine⟨L,u,(show C.na∉T8 C.H Ql from es ▸ P.sn),(P.gr.trans g).mono hw,hz ▸ Nat.le_trans (Nat.succ_le_succ P.fz) hk,λi hi=>?_,hs.trans P.cE,es.trans P.sl⟩
 exact Dy (P:=λi l=>i < 7→cD Ql Fs' i l) (λ_=>h1) (λe hi=>h2 i _ e (P.ty i hi)) hi
theorem iQ(N:g0 c){j:Nat}(hj:j < 5) (P:z0 C k G Z) (M:Tf C fa G.v6 (λi=>TL (G.D i)) Z) (hl:G.v6.length=j+1) (hk:k < 20) (hB:C.B0+200≤1000000) (hT:C.T0.length+200 < 100000) (hD:(G.D j).length≤1){x7 x8 x9 x10:Option V}{tl:List (Option V)}{R:Fl→Loc→a5→Prop}
  (q:∀y z G' a6 p,z0 C (k+1) G' a6→Tf C fa G.v6 (λi=>TL (G'.D i)) a6→G'.v6=G.v6→G'.D=Ki G.D j (G.D j++[p])→fld (Te j) (Pt j) p.1=true∧p.2∈[0,1,2,5]→R .next (gl (some (.ref C.H.st)::some (.ref C.na)::some (.ref C.nu)::some (.ref C.at_)::some (.ref fa)::some (vi j)::some (one (Hd.val (64+j)).cd)::x7::x8::y::z::tl)) a6) :
  l6 c (n+20) [(.set 9 (.call (.con (.fix (.ref 605))) [(.loc 2),(.loc 3),(.ite (.cmp .Eq (.loc 6) (.con (.str "S"))) (.con (.int 2)) (.con (.int 1))),(.ite (.cmp .Eq (.loc 6) (.con (.str "S"))) (.con (.str "SRQNGCa")) (.con (.str "SRQNCa")))])),(.set 10 (.sub (.tup [(.con (.int 0)),(.con (.int 0)),(.con (.int 2)),(.con (.int 0)),(.con (.int 1)),(.con (.int 5))]) (.call (.con (.fix (.ref 543))) [(.loc 2),(.loc 3),(.con (.int 6))]))),(.exp (.call (.con (.fix (.ref 356))) [(.loc 0),(.bin .Add (.con (.int 64)) (.loc 5)),(.con (.str "f")),(.call (.con (.fix (.ref 548))) [(.attr (.loc 0) "kt"),(.loc 1),(.loc 9)]),(.con (.int 6)),(.loc 10)])),(.ite (.cmp .In (.loc 10) (.tup [(.con (.int 0)),(.con (.int 2))])) [(.exp (.meth (.sub (.loc 4) (.loc 6)) "append" [(.loc 9)]))] [])]
   (gl (some (.ref C.H.st)::some (.ref C.na)::some (.ref C.nu)::some (.ref C.at_)::some (.ref fa)::some (vi j)::some (one (Hd.val (64+j)).cd)::x7::x8::x9::x10::tl)) Z R E:=by
 have A:=xC j hj
 have hk':k≤20:=Nat.le_of_lt hk
 have hS:(V.str "S").Hy=true:=by decide +kernel
 have term (R:V→a5→Prop) (q:∀t,fld (Te j) (Pt j) t=true→∀a6,F0 C.nu C.at_ (C.B0+5 * k+3) a6→d8 (·=C.at_) Z a6→R t.v a6):WX c (n+20) (.call (.con (.fix (.ref 605))) [(.loc 2),(.loc 3),(.ite (.cmp .Eq (.loc 6) (.con (.str "S"))) (.con (.int 2)) (.con (.int 1))),(.ite (.cmp .Eq (.loc 6) (.con (.str "S"))) (.con (.str "SRQNGCa")) (.con (.str "SRQNCa")))])
   (gl (some (.ref C.H.st)::some (.ref C.na)::some (.ref C.nu)::some (.ref C.at_)::some (.ref fa)::some (vi j)::some (one (Hd.val (64+j)).cd)::x7::x8::x9::x10::tl)) Z R E:=by
  by_cases e:j=0
  ·have e':=A.2.2.2.2.1.trans (decide_eq_true e)
   refine Oz (k7 (m8 (l8 rfl (m8 (l8 rfl (m8 (I2 (C1 (l8 rfl (k7 ?_))))))))))
   refine o8 ?_
   refine eq_str hS (K9 _) ?_
   refine rL e' ?_
   refine k7 (m8 (I2 (C1 (l8 rfl (k7 ?_)))))
   refine o8 ?_
   refine eq_str hS (K9 _) ?_
   refine rL e' ?_
   exact Pq N (by decide) wY 2 P.L.dr (Zl hk' (by decide:3≤90) hB) λt ht a6 d s=>q t (by unfold Te Pt; rw[if_pos e,if_pos e]; exact ht) a6 d s
  ·have e':=A.2.2.2.2.1.trans (decide_eq_false e)
   refine Oz (k7 (m8 (l8 rfl (m8 (l8 rfl (m8 (I2 (C1 (l8 rfl (k7 ?_))))))))))
   refine o8 ?_
   refine eq_str hS (K9 _) ?_
   refine T4 e' ?_
   refine k7 (m8 (I2 (C1 (l8 rfl (k7 ?_)))))
   refine o8 ?_
   refine eq_str hS (K9 _) ?_
   refine T4 e' ?_
   exact Pq N (by decide) wZ 1 P.L.dr (Zl hk' (by decide:2≤90) hB) λt ht a6 d s=>q t (by unfold Te Pt; rw[if_neg e,if_neg e]; exact ht) a6 (d.mono (Nat.le_succ _)) s
 refine f6 (term _ λt ht u5 d1 s1=>f6 ?_)
 have st:=(Pw (Pu j) ht).mono (Nat.succ_le_succ (Pv j))
 refine N0 N d1 (Zl hk' (by decide:3≤90) hB) (k:=6) (by decide) λr hr C2 d2 s2=>?_
 obtain⟨fl,hfl,efl⟩:=iP r hr
 refine Py (l:=pO.map vi) (by decide:6≤1000000) (get_map efl) (n8 ?_)
 have S2:=s1.trans s2
 have P2:=P.draw (Nat.le_succ k) (d2.mono (Nat.add_le_add_left (Nat.le_succ _) _)) S2
 have M2:=M.keep S2 λb h=>h.at_
 refine Px ?_
 refine P2.L.s.Lk N ?_
 refine R2 N 8 (Nat.le_trans st.1.3 (by decide)) st.1.1 st.1.2 (st.fits (by decide)) P2.u (pP P.gr.2 hk' (Nat.le_trans st.light (by decide)) hT) λT3 f3 W8 g3 u3 s3 mK _ _=>?_
 have L3:=P2.L.kind P2.u P.sn g3 u3 s3
 refine iN N L3 u3 P.sn (P.ty j (Nat.lt_trans hj (by decide))) mK ⟨hfl,Nat.le_trans st.light (by decide)⟩ (Nat.lt_of_le_of_lt hD (by decide)) (Nat.lt_of_le_of_lt P.fz (Nat.lt_of_le_of_lt hk' (by decide))) λv Ts4 Fs4 Ho L4 u4 es hz4 ty4 sN hs4 iR=>f9 ?_
 have P4:=P.add (Nat.le_refl _) (Nat.add_le_add_left (Nat.le_trans st.light (by decide)) _) g3 L4 u4 es hz4 ty4 sN hs4
 have M4:=(M2.keep s3 λb h=>h.cf).keep iR λb h e=>h.2.1 (P.sl ▸ e)
 have hE:∀i,TL (Ki G.D j (G.D j++[(t,fl)]) i)=Ki (λi=>TL (G.D i)) j (TL (G.D j)++if (fl == 0 || fl == 2)=true then [t] else []) i:=λi=>by
  by_cases e:i=j
  ·subst e; rw[H0,H0,Zk]
  ·rw[L5 e,L5 e]
 refine⟨W6,List.forall_mem_cons.mpr ⟨W6,List.forall_mem_singleton.mpr W6⟩,?_⟩
 refine K6 (λe=>n8 ?_) λe=>j9 (q _ _ _ Ho _ P4 (funext hE ▸ ?_) rfl rfl ⟨ht,hfl⟩)
 ·have xD:j < G.v6.length:=hl ▸ Nat.lt_succ_self j
  have ha:=List.getElem?_eq_getElem xD
  have el:=M4.ls j ha
  refine Th M4.dct Dv (pQ hj ha) ⟨_,.append el,?_⟩
  refine o6 el (De (Nat.le_trans (Wm _) (Nat.le_trans hD (by decide)))) (j9 (q _ _ _ _ _ (P4.touch (M.out _ (.tail _ (List.getElem_mem xD))) (n0 el) λb hb=>i8 hb) (funext hE ▸ ?_) rfl rfl ⟨ht,hfl⟩))
  rw[if_pos (pN.mp e)]
  exact M4.put ha (a7 ..) λb hb=>i8 hb
 ·rw[if_neg λz=>e (pN.mpr z),List.append_nil]
  refine⟨M4.dct,λi a ha=>(M4.ls i ha).trans (congrArg (λl:List Tm=>some (j8.list (l.map Tm.v))) ?_),M4.out,M4.nd⟩
  by_cases e:i=j
  ·subst e; exact H0.symm
  ·exact(L5 (D:=λi=>TL (G.D i)) e).symm
end
theorem Ti{α β:Type}{v:β}{k:α}:∀{ks:List α}{vs:List β},ks[vs.length]?=some k→ks.zip (vs++[v])=ks.zip vs++[(k,v)]
 | [],_,h=>by cases h
 | y::r,[],h=>by
  obtain rfl:=Option.some.inj h
  exact congrArg (List.cons (y,v)) (List.zip_nil_right (l:=r))
 | y::r,u::vs,h=>congrArg (List.cons (y,u)) (Ti (ks:=r) h)
theorem cF{v6:List Addr}{r:Addr}{h:Hd}(e:A9[v6.length]?=some h):Hc A9 (v6++[r])=Hc A9 v6++[(keyOf h,.ref r)]:=by
 unfold Hc
 rw[List.map_append]
 exact Ti (by rw[List.length_map]; exact(List.getElem?_map ..).trans (congrArg (Option.map keyOf) e))
noncomputable def grow:Nat→Tm
 | 0=>tX
 | i+1=>.un .arr (grow i)
noncomputable def tG:Tm:=.un (.val 68) (grow 6)
noncomputable def z5(D:Nat→List (Tm×Nat)):Nat→List (Tm×Nat):=Ki D 4 (D 4++[(tG,0)])
theorem Kj:ST 8 tG:=⟨⟨by decide +kernel,by decide +kernel,by decide +kernel⟩,rfl,rfl⟩
theorem xE:one Hd.arr.cd=.str (Str.ofString "a"):=congrArg V.str (by decide +kernel)
theorem iS:one (Hd.val 68).cd=.str (Str.ofString "G"):=congrArg V.str (by decide +kernel)
noncomputable def tL(D:Nat→List (Tm×Nat)):Prop:=∀i,DOk i (D i)∧(D i).length≤2
section
variable {c:Cx}{n:Nat}{Z:a5}{C:FC}{k:Nat}{G:FG}{E:a5→Prop}{fa:Addr}
theorem nA{j:Nat}(hj:j < 5) (P:z0 C k G Z) (M:Tf C fa G.v6 (λi=>TL (G.D i)) Z) (hl:G.v6.length=j) (he:G.D j=[]){K:a5→Prop}
  (q:∀r a6,z0 C k {G with v6:=G.v6++[r]} a6→Tf C fa (G.v6++[r]) (λi=>TL (G.D i)) a6→K a6):∀r,Z r=none→Uo (.ref fa) (one (Hd.val (64+j)).cd) (.ref r) (j1 Z r (.list [])) K:=by
 intro r hr
 have A:=xC j hj
 have s1:d8 (λ_=>False) Z (j1 Z r (.list [])):=d8.new hr
 have o:=P.out hr
 have M1:=M.keep s1 λ_ _=>id
 have hn:E7 (Hc A9 G.v6) (one (Hd.val (64+j)).cd)=none:=by
  refine(Du (Dw _ A.2.2.1) Dw).trans ((if_pos A.2.2.1).trans ?_)
  rw[A.2.2.2.1,List.getElem?_eq_none (Nat.le_of_eq hl)]; rfl
 refine N9 M1.dct Dv ?_ λC2 e2 m2=>q r C2 ?_ ?_
 ·unfold Hc
  rw[List.length_zip]
  exact Nat.le_trans (Nat.min_le_left ..) (by decide +kernel)
 ·have P2:=(P.same s1).touch (M.out _ (.head _)) (I3 M1.dct) m2
  exact⟨P2.L,P2.u,P2.sn,P2.gr,P2.fz,P2.ty,P2.cE,P2.sl⟩
 ·rw[O0 hn] at e2
  have ne {b:Addr}{o:j8}(h:Z b=some o):b≠r:=fresh_ne hr h
  have nl (b:Addr) (hb:b∈G.v6):b≠r:=(List.mem_iff_getElem?.mp hb).elim λi e=>ne (M.ls i e)
  refine⟨e2.trans (congrArg (λl=>some (j8.dict l)) (cF (hl.symm ▸ A.1)).symm),λi a ha=>?_,?_,?_⟩
  ·rcases Zg ha with ha | ⟨rfl,rfl⟩
   ·exact(m2 a λz=>(List.nodup_cons.mp M.nd).1 (z ▸ List.mem_of_getElem? ha)).trans (M1.ls i ha)
   ·rw[hl,he]
    exact(m2 a (ne M.dct).symm).trans (a7 ..)
  ·exact List.forall_mem_append.mpr ⟨M.out,List.forall_mem_singleton.mpr o⟩
  ·exact List.nodup_append.mpr ⟨M.nd,List.nodup_cons.mpr ⟨List.not_mem_nil,.nil⟩,λa ha b hb=>List.mem_singleton.mp hb ▸ (List.mem_cons.mp ha).elim (λe=>e ▸ ne M.dct) (nl a)⟩
theorem iT(N:g0 c){j:Nat}(hj:j < 5){B:Nat}(dr:F0 C.nu C.at_ B Z) (hB:B≤1000000){x0 x1 x4 x5:Option V}{tl:List (Option V)}{Q:V→a5→Prop}
  (q:∀k a6,k≤2→(j=4→k≤1)→F0 C.nu C.at_ (B+1) a6→d8 (·=C.at_) Z a6→Q (vi k) a6) :
  WX c (n+1) (.ite (.cmp .Eq (.loc 6) (.con (.str "G"))) (.con (.int 1)) (.ite (.cmp .Eq (.loc 6) (.con (.str "S"))) (.bin .Add (.con (.int 1)) (.call (.con (.fix (.ref 543))) [(.loc 2),(.loc 3),(.con (.int 2))])) (.call (.con (.fix (.ref 543))) [(.loc 2),(.loc 3),(.con (.int 3))])))
   (gl (x0::x1::some (.ref C.nu)::some (.ref C.at_)::x4::x5::some (one (Hd.val (64+j)).cd)::tl)) Z Q E:=by
 have A:=xC j hj
 refine I2 (C1 (l8 rfl (k7 ?_)))
 refine o8 ?_
 refine eq_str (by decide +kernel) (K9 _) ?_
 rw[A.2.2.2.2.2]
 refine K6 (λe=>q 1 Z (Nat.le_succ 1) (λ_=>Nat.le_refl 1) (dr.mono (Nat.le_succ B)) (.refl _ _)) λe4=>?_
 refine I2 (C1 (l8 rfl (k7 ?_)))
 refine o8 ?_
 refine eq_str (by decide +kernel) (K9 _) ?_
 rw[A.2.2.2.2.1]
 refine K6 (λ_=>?_) λ_=>?_
 ·refine N0 N dr hB (k:=2) (by decide) λr hr a6 d' s'=>?_
  exact Px (q (1+r) a6 (Nat.add_comm r 1 ▸ hr:1+r≤2) (λe=>absurd e e4) d' s')
 ·exact N0 N dr hB (k:=3) (by decide) λr hr a6 d' s'=>q r a6 (Nat.le_of_lt_succ hr) (λe=>absurd e e4) d' s'
structure nB(C:FC) (fa:Addr) (k j:Nat) (G:FG) (Z:a5):Prop where
 P:z0 C k G Z
 M:Tf C fa G.v6 (λi=>TL (G.D i)) Z
 len:G.v6.length=j
 emp:∀i,j≤i→G.D i=[]
 ok:tL G.D
 four:(G.D 4).length≤1
theorem nC(N:g0 c){j:Nat}(hj:j < 5) (O:nB C fa (3 * j) j G Z) (hB:C.B0+200≤1000000) (hT:C.T0.length+200 < 100000){xs:Nat→Option V}{tl:List (Option V)}{R:Fl→Loc→a5→Prop}
  (q:∀(xs':Nat→Option V) G' a6,nB C fa (3 * (j+1)) (j+1) G' a6→R .next (gl (some (.ref C.H.st)::some (.ref C.na)::some (.ref C.nu)::some (.ref C.at_)::some (.ref fa)::xs' 0::xs' 1::xs' 2::xs' 3::xs' 4::xs' 5::tl)) a6) :
  l6 c (n+20) (match M8 with | _::.for _ _ b::_=>b | _=>[]) (gl (some (.ref C.H.st)::some (.ref C.na)::some (.ref C.nu)::some (.ref C.at_)::some (.ref fa)::some (vi j)::xs 1::xs 2::xs 3::xs 4::xs 5::tl)) Z R E:=by
 have A:=xC j hj
 have hk:3 * j+3≤20:=Nat.le_trans (Nat.add_le_add_right (Nat.mul_le_mul_left 3 (Nat.le_of_lt_succ hj)) 3) (by decide)
 refine f6 ?_
 refine fV (k7 (l8 rfl ?_))
 refine Pk rfl A.2.1 hj ?_
 refine D4 ?_
 refine nA hj O.P O.M O.len (O.emp j (Nat.le_refl j)) λr u5 P1 M1=>f6 ?_
 refine iT N hj P1.L.dr (Zl (m:=0) (Nat.le_trans (Nat.le_add_right _ 3) hk) (by decide) hB) λcnt C2 hc h4 d2 s2=>A2 ?_
 refine H9 ?_
 have P2:=P1.draw (Nat.le_succ _) (d2.mono (Nat.add_le_add_left (Nat.add_le_add_left (by decide:1≤5) _) _)) s2
 refine Q9 (len:=cnt) (γ:=(Nat→Option V)×FG) (λg=>some (.ref C.H.st)::some (.ref C.na)::some (.ref C.nu)::some (.ref C.at_)::some (.ref fa)::some (vi j)::some (one (Hd.val (64+j)).cd)::some (vi cnt)::g.1 0::g.1 1::g.1 2::tl) (λi g a6=>nB C fa (3 * j+1+i) (j+1) g.2 a6∧(g.2.D j).length=i)
  (gl [xs 3,xs 4,xs 5],{G with v6:=G.v6++[r]}) (Nat.le_trans hc (by decide)) ⟨⟨P2,M1.keep s2 λb h=>h.at_,by rw[List.length_append,O.len]; rfl,λi hi=>O.emp i (Nat.le_of_succ_le hi),O.ok,O.four⟩,congrArg List.length (O.emp j (Nat.le_refl j))⟩ (λi g W8 R' hi I hs _=>?_) λg W8 I=>j9 ?_
 ·refine iQ N hj I.1.P I.1.M I.1.len (Nat.lt_of_lt_of_le (Nat.add_lt_add_left (Nat.lt_of_lt_of_le hi hc) _) hk) hB hT (I.2 ▸ Nat.le_of_lt_succ (Nat.lt_of_lt_of_le hi hc)) λy z G' Ho p P4 M4 el ed hp=>?_
  have hlen:(g.2.D j++[p]).length=i+1:=by rw[List.length_append,I.2]; rfl
  refine(hs (gl [some (vi i),y,z],G') Ho ⟨⟨P4,el ▸ M4,el ▸ I.1.len,λx hx=>?_,λx=>?_,?_⟩,?_⟩).1
  ·rw[ed,L5 (Nat.ne_of_gt hx)]; exact I.1.emp x hx
  ·rw[ed]
   exact Dy (P:=fun(x:Nat) (l:List (Tm×Nat))=>DOk x l∧l.length≤2) ⟨List.forall_mem_append.mpr ⟨(I.1.ok j).1,List.forall_mem_singleton.mpr hp⟩,hlen.symm ▸ Nat.le_trans hi hc⟩ λ_=>I.1.ok x
  ·rw[ed]
   exact Dy (P:=fun(x:Nat) (l:List (Tm×Nat))=>x=4→l.length≤1) (λe=>hlen.symm ▸ Nat.le_trans hi (h4 e)) (λ_ _=>I.1.four) rfl
  ·rw[ed,H0]; exact hlen
 ·exact q (gl [some (vi j),some (one (Hd.val (64+j)).cd),some (vi cnt),g.1 0,g.1 1,g.1 2]) g.2 W8 ⟨I.1.P.mono (Nat.add_le_add_left hc (3 * j+1)),I.1.M,I.1.len,I.1.emp,I.1.ok,I.1.four⟩
theorem cG(N:g0 c){f:Bd}{Q:V→a5→Prop}(L:P8 C.H C.K C.T0 C.pM [] C.d C.nu C.at_ C.B0 Z) (u:N1 C.K C.T0 f C.na Z) (hn:C.na∉T8 C.H C.pM) (hty:∀i,i < 7→cD C.pM [] i []) (hB:C.B0+200≤1000000) (hT:C.T0.length+200 < 100000)
  (q:∀fa a6 G D,z0 C 18 G a6→Tf C fa G.v6 (λi=>TL (z5 D i)) a6→G.v6.length=5→G.D=z5 D→tL D→(D 4).length≤1→(∀i,5≤i→D i=[])→Q (.ref fa) a6) :
  i3 c (n+21) (.fix (.ref 612)) [.ref C.H.st,.ref C.na,.ref C.nu,.ref C.at_] Z Q E:=by
 refine N.fn N.C.Vi rfl (f6 ?_)
 refine L0 _ _ λfa hfa=>A2 ?_
 have s1:d8 (λ_=>False) Z (j1 Z fa (.dict [])):=d8.new hfa
 have P0:z0 C 0 ⟨C.T0,f,C.pM,[],λ_=>[],[]⟩ Z:=⟨L,u,hn,.refl _ _,Nat.zero_le _,hty,rfl,rfl⟩
 have M0:Tf C fa [] (λ_=>[]) (j1 Z fa (.dict [])):=⟨(a7 ..).trans (congrArg (λl=>some (j8.dict l)) List.zip_nil_right.symm),λi a e=>(nomatch e),List.forall_mem_singleton.mpr (P0.out hfa),List.nodup_cons.mpr ⟨List.not_mem_nil,.nil⟩⟩
 refine H9 ?_
 refine Q9 (len:=5) (γ:=(Nat→Option V)×FG) (λg=>some (.ref C.H.st)::some (.ref C.na)::some (.ref C.nu)::some (.ref C.at_)::some (.ref fa)::g.1 0::g.1 1::g.1 2::g.1 3::g.1 4::g.1 5::pad.drop 7) (λj g a6=>nB C fa (3 * j) j g.2 a6)
  (λ_=>none,⟨C.T0,f,C.pM,[],λ_=>[],[]⟩) (by decide) ⟨P0.same s1,M0,rfl,λ_ _=>rfl,λi=>⟨λp hp=>(List.not_mem_nil hp).elim,Nat.zero_le _⟩,Nat.zero_le _⟩ (λj g C2 R hj O hs _=>nC N hj O hB hT (xs:=g.1) λxs' G' W8 O'=>(hs (xs',G') W8 O').1) λg C2 O=>f6 (A2 ?_)
 refine H9 ?_
 refine Q9 (len:=6) (γ:=Option V×V) (λh=>some (.ref C.H.st)::some (.ref C.na)::some (.ref C.nu)::some (.ref C.at_)::some (.ref fa)::g.1 0::g.1 1::g.1 2::h.1::g.1 4::g.1 5::some h.2::pad.drop 8) (λi h a6=>a6=C2∧h.2=(grow i).v) (g.1 3,.tup [.str "x"]) (by decide) ⟨rfl,wM.symm⟩ (λi h W8 R hi I hs _=>f6 ?_) λh W8 I=>n8 ?_
 ·refine(hs (_,.tup [.str "a",h.2]) W8 ⟨I.1,?_⟩).1
  rw[I.2]
  exact congrArg (λx=>V.tup [x,(grow i).v]) xE.symm
 obtain⟨rfl,e11⟩:=I
 have O4:=O.P
 refine O4.L.s.Lk N ?_
 have eG:tG.v=.tup [.str "G",h.2]:=e11 ▸ congrArg (λx=>V.tup [x,(grow 6).v]) iS
 refine w9 (congrArg (λx=>[V.ref C.K.a,.ref C.na,x]) eG) ?_
 refine R2 N 8 Kj.1.3 Kj.1.1 Kj.1.2 (Kj.fits (by decide)) O4.u (pP O4.gr.2 (by decide) (Nat.le_trans Kj.light (by decide)) hT) λT3 f3 Ho g3 u3 s3 mK _ _=>?_
 have L3:=O4.L.kind O4.u O4.sn g3 u3 s3
 refine iN N L3 u3 O4.sn (O4.ty 4 (by decide)) (j:=4) mK (flags:=0) ⟨by decide,Nat.le_trans Kj.light (by decide)⟩ (Nat.lt_of_le_of_lt O.four (by decide)) (Nat.lt_of_le_of_lt O4.fz (by decide)) λv Ts4 Fs4 Yp L4 u4 es hz4 ty4 sN hs4 iR=>n8 ?_
 have M5:=(O.M.keep s3 λb h=>h.cf).keep iR λb h e=>h.2.1 (O4.sl ▸ e)
 have xD:4 < g.2.v6.length:=O.len.symm ▸ (by decide)
 have ha:=List.getElem?_eq_getElem xD
 have el:=M5.ls 4 ha
 refine Th M5.dct (iS ▸ Dv) (iS ▸ pQ (j:=4) (by decide) ha) ⟨_,.append el,?_⟩
 refine o6 el (De (Nat.le_trans (Wm _) (Nat.le_trans O.four (by decide)))) (f7 ?_)
 have P5:z0 C 18 ⟨T3,f3,Ts4,Fs4,z5 g.2.D,g.2.v6⟩ Yp:=(O4.add (j:=4) (by decide) (Nat.le_trans (Nat.add_le_add_left Kj.light _) (by decide)) g3 (L4.mono (Nat.add_le_add_left (by decide) _)) u4 es hz4 ty4 sN hs4)
 refine q fa _ _ g.2.D (P5.touch (O.M.out _ (.tail _ (List.getElem_mem xD))) (n0 el) λb hb=>i8 hb) ?_ O.len rfl O.ok O.four O.emp
 have hE:∀i,TL (z5 g.2.D i)=Ki (λi=>TL (g.2.D i)) 4 (TL (g.2.D 4)++[tG]) i:=λi=>by
  unfold z5
  by_cases e:i=4
  ·subst e; rw[H0,H0,Zk]; rfl
  ·rw[L5 e,L5 e]
 rw[funext hE]
 exact M5.put ha ((a7 ..).trans (congrArg (λx=>some (j8.list ((TL (g.2.D 4)).map Tm.v++[x]))) eG.symm)) λb hb=>i8 hb
end
noncomputable def E5(D:Nat→List Tm) (t:Tm):List Tm:=if t.hd=.val 64 then [] else m5 D t
noncomputable def B4(D:Nat→List Tm):Nat→List Tm→List Tm→Option (List Tm)
 | 0,_,_=>none
 | n+1,todo,met=>todo.getLast?.elim (some met) λt=>if t∉met∧deepOf t < 12 then B4 D n (todo.dropLast++E5 D t) (met++[t]) else B4 D n todo.dropLast met
theorem pR{D:Nat→List Tm}{n:Nat}{A met:List Tm}{t:Tm}:B4 D (n+1) (A++[t]) met=if t∉met∧deepOf t < 12 then B4 D n (A++E5 D t) (met++[t]) else B4 D n A met:=by
 refine(?_:(A++[t]).getLast?.elim _ _=_)
 rw[List.getLast?_concat,List.dropLast_concat]; rfl
theorem xF:∀h∈G9,decide ((⟨#[h.cd]⟩:Str) = "S")=decide (h=.val 64):=by decide +kernel
theorem xG:one (Hd.val 64).cd=.str (Str.ofString "S"):=congrArg V.str (by decide +kernel)
theorem pS:(m7 64).v=.tup [.str "S",.tup [.str "x"]]:=congr (congrArg (λa b=>V.tup [a,b]) xG) wM
theorem Hs:ST 2 (m7 64):=⟨⟨by decide +kernel,by decide +kernel,by decide +kernel⟩,by decide +kernel,rfl⟩
theorem Bn:∀{t:Tm},chain t=true→t.nest=deepOf t+1
 | .leaf _,_=>rfl
 | .un _ a,e=>congrArg (·+1) (Bn (t:=a) e)
 | .bin _ _ _,e=>no e
theorem ST.far{k:Nat}{t:Tm}(h:ST k t) (hk:k≤60):t.A3=true∧t.nest≤60:=⟨h.1.1,Nat.le_trans h.1.3 hk⟩
section
variable {c:Cx}{n:Nat}{Z:a5}{E:a5→Prop}
structure xH(Z:a5) (td mt:Addr) (k:Nat) (todo met:List Tm) (a6:a5):Prop where
 s:d8 (λ_=>False) Z a6
 tz:todo.length+3 * k≤40000
 mz:met.length+k≤10000
 td:a6 td=some (.list (todo.map Tm.v))
 mt:a6 mt=some (.list (met.map Tm.v))
 T:∀t∈todo,ST 20 t
 M:∀t∈met,ST 12 t
theorem cH(N:g0 c){fa:Addr}{v6:List Addr}{D:Nat→List Tm}(hF:cC fa v6 D Z) (hD:∀j,∀u∈D j,ST 8 u) (hz:∀j,(D j).length≤3){m:Nat}(hm:m≤10000){met:List Tm}(h:B4 D m (m5 D (m7 64)) []=some met){x0 x1 x2 x3 x4 x5:Option V}{tl:List (Option V)}{Q:Fl→Loc→a5→Prop}
  (q:∀y8 y9 a6 mt,a6 mt=some (.list (met.map Tm.v))→(∀t∈met,ST 12 t)→met.length≤10000→d8 (λ_=>False) Z a6→Z mt=none→l6 c (n+11) (l5.drop 7) (gl (x0::x1::x2::x3::x4::x5::some (.ref fa)::some (.ref mt)::y8::y9::tl)) a6 Q E) :
  l6 c (n+11) (l5.drop 4) (gl (x0::x1::x2::x3::x4::x5::some (.ref fa)::none::none::none::tl)) Z Q E:=by
 refine f6 λmt hmt=>f6 ?_
 have s0:d8 (λ_=>False) Z (j1 Z mt (.list [])):=d8.new hmt
 refine w9 (congrArg (λx=>[V.ref fa,x]) pS) ?_
 refine Ps N (hF.same s0 λ_ _=>id) hD hz Hs λtd u5 htd s1 etd=>?_
 have em:=s1 mt _ id (a7 ..)
 have iB:=Z3 s0 htd
 have hne:mt≠td:=fresh_ne htd (a7 ..)
 refine Se (λk l a6=>∃x9 todo Lb,l=x0::x1::x2::x3::x4::x5::some (.ref fa)::some (.ref mt)::some (.ref td)::x9::tl∧B4 D k todo Lb=some met∧xH Z td mt k todo Lb a6) (k:=m)
  ⟨none,_,[],rfl,h,s0.trans s1,Nat.le_trans (Nat.add_le_add (O8 hz _) (Nat.mul_le_mul_left 3 hm)) (by decide),(Nat.zero_add m).symm ▸ hm,etd,em,λt ht=>(Kh hD (k:=0) Hs t ht).mono (by decide),λt ht=>(List.not_mem_nil ht).elim⟩ ?_
 rintro k _ a6 ⟨x9,todo,Lb,rfl,hl,I⟩
 cases k with
 | zero=>cases hl
 | succ k =>
 have tz:todo.length≤40000:=Nat.le_trans (Nat.le_add_right ..) I.tz
 have mz:Lb.length≤10000:=Nat.le_trans (Nat.le_add_right ..) I.mz
 refine Yj (l8 rfl ?_)
 refine I6 I.td (De (Nat.le_trans tz (by decide))) ?_
 rcases(List.eq_nil_or_concat todo).imp_right (λq=>q.imp λD q=>q.imp λk q=>q.trans List.concat_eq_append) with rfl | ⟨A,t,rfl⟩
 ·obtain rfl:=Option.some.inj hl
  exact Oy (λh=>h rfl) (q _ _ a6 mt I.mt I.M mz I.s hmt)
 refine bI (λz=>List.append_ne_nil_of_right_ne_nil A (List.cons_ne_nil t []) (List.map_eq_nil_iff.mp z)) (f6 ⟨_,.pop I.td,?_⟩)
 rw[pR] at hl
 have az:A.length+1≤40000:=(List.length_append (as:=A) (bs:=[t])) ▸ tz
 have az3:A.length+3+3 * k≤40000:=by have:=I.tz; rw[List.length_append,List.length_singleton] at this; omega
 have mz3:Lb.length+1+k≤10000:=Nat.add_right_comm Lb.length k 1 ▸ I.mz
 have ht:=I.T t (List.mem_append_right _ (.head _))
 have hA:∀x∈A,ST 20 x:=λx hx=>I.T x (List.mem_append_left _ hx)
 refine eF (I.td.trans (congrArg (λl=>some (j8.list l)) List.map_append)) (by rw[List.length_map]; exact Nat.lt_of_lt_of_le az (by decide)) (f9 ?_)
 have s4:=I.s.touch iB λb hb=>i8 (o:=.list (A.map Tm.v)) hb
 have yU:=(i8 (o:=.list (A.map Tm.v)) hne).trans I.mt
 have skip (hc:¬(t∉Lb∧deepOf t < 12)):xH Z td mt k A Lb (j1 a6 td (.list (A.map Tm.v)))∧B4 D k A Lb=some met :=
  ⟨⟨s4,Nat.le_trans (Nat.add_le_add_right (Nat.le_add_right A.length 3) _) az3,Nat.le_trans (Nat.add_le_add_right (Nat.le_succ _) _) mz3,a7 ..,yU,hA,I.M⟩,(if_neg hc).symm.trans hl⟩
 refine hU yU (ht.far (by decide)) (λx hx=>(I.M x hx).far (by decide)) ?_
 refine lT (λe1=>?_) λe1=>S4 (j9 ⟨k,Nat.lt_succ_self k,_,rfl,_,A,Lb,rfl,(skip λz=>z.1 e1).2,(skip λz=>z.1 e1).1⟩)
 refine sK N ?_
 refine K6 (λe2=>T7 (n8 ⟨_,.append yU,?_⟩)) λe2=>S4 (j9 ⟨k,Nat.lt_succ_self k,_,rfl,_,A,Lb,rfl,(skip λz=>e2 (Int.ofNat_lt.mpr z.2)).2,(skip λz=>e2 (Int.ofNat_lt.mpr z.2)).1⟩)
 have hc:t∉Lb∧deepOf t < 12:=⟨e1,Int.ofNat_lt.mp e2⟩
 rw[if_pos hc] at hl
 have sO:ST 12 t:=⟨⟨ht.1.1,ht.1.2,Nat.le_trans (Nat.le_of_eq (Bn ht.3)) hc.2⟩,ht.2,ht.3⟩
 refine o6 yU (De (Nat.le_trans mz (by decide))) (f9 ?_)
 have e5:j1 (j1 a6 td (.list (A.map Tm.v))) mt (.list (Lb.map Tm.v++[t.v])) mt=some (.list ((Lb++[t]).map Tm.v)):=(a7 ..).trans (congrArg (λl=>some (j8.list l)) (List.map_append (l₂:=[t])).symm)
 have n5 (b:Addr) (hb:b≠mt):j1 (j1 a6 td (.list (A.map Tm.v))) mt (.list (Lb.map Tm.v++[t.v])) b=j1 a6 td (.list (A.map Tm.v)) b:=i8 hb
 generalize j1 (j1 a6 td (.list (A.map Tm.v))) mt (.list (Lb.map Tm.v++[t.v]))=Yp at e5 n5
 have s5:=s4.touch hmt n5
 have et5:=(n5 td hne.symm).trans (a7 ..)
 have M5:∀x∈Lb++[t],ST 12 x:=List.forall_mem_append.mpr ⟨I.M,List.forall_mem_singleton.mpr sO⟩
 have mz5:(Lb++[t]).length+k≤10000:=by rw[List.length_append]; exact mz3
 refine I9 ?_
 refine k7 ?_
 refine fW ?_
 refine eq_str (by decide +kernel) (K9 _) ?_
 rw[xF _ (E1 ht.1.1)]
 refine lT (λe6=>fS rfl ?_) λe6=>j9 ⟨k,Nat.lt_succ_self k,_,rfl,_,A,Lb++[t],rfl,(show B4 D k (A++E5 D t) _=_ from hl) ▸ congrArg (λl=>B4 D k l (Lb++[t])) ((List.append_nil A).symm.trans (congrArg (A++·) (show []=E5 D t from(if_pos e6).symm))),s5,Nat.le_trans (Nat.add_le_add_right (Nat.le_add_right A.length 3) _) az3,mz5,et5,e5,hA,M5⟩
 have hl:B4 D k (A++m5 D t) (Lb++[t])=some met:=(show E5 D t=m5 D t from if_neg e6) ▸ hl
 refine Ps N (hF.same s5 λ_ _=>id) hD hz (k:=10) sO λr Sw hr s6 er=>⟨?_⟩
 have et6:=s6 _ _ id et5
 have hll:=O8 hz t
 refine⟨_,_,et6,er,by rw[List.length_map,List.length_map]; exact Nat.le_trans (Nat.add_le_add (Nat.le_of_succ_le az) hll) (by decide),fresh_ne hr et5,j9 ?_⟩
 have s6':=(s5.trans s6).touch iB λb hb=>i8 (o:=.list (A.map Tm.v++(m5 D t).map Tm.v)) hb
 exact⟨k,Nat.lt_succ_self k,_,rfl,_,A++m5 D t,Lb++[t],rfl,hl,s6',by rw[List.length_append]; exact Nat.le_trans (Nat.add_le_add_right (Nat.add_le_add_left hll _) _) az3,mz5,(a7 ..).trans (congrArg (λl=>some (j8.list l)) List.map_append.symm),(i8 hne).trans (s6 _ _ id e5),List.forall_mem_append.mpr ⟨hA,λx hx=>(Kh hD (k:=10) sO x hx).mono (by decide)⟩,M5⟩
end
structure iU(Ts:List C3) (Fs:List J4) (D:Nat→List Tm) (met:List Tm):Prop where
 st:∀j,∀u∈D j,ST 8 u
 few:∀j,(D j).length≤3
 l9:∀t∈Ts,t.l9.length≤3
 good:∀t,t=m7 64∨t∈met→t3 Ts Fs t=m5 D t
 holds:∃m r,o9 Ts Fs 64 m (t3 Ts Fs (m7 64)) []=some r∧r=met.any λt=>decide (t.hd=.val 64)
section
variable {c:Cx}{n:Nat}{Z a6:a5}{C:FC}{k:Nat}{G:FG}{E:a5→Prop}{fa:Addr}{D:Nat→List Tm}
theorem Tf.fl(M:Tf C fa G.v6 D Z) (hl:G.v6.length=5):cC fa G.v6 D Z:=⟨M.dct,hl,M.ls⟩
theorem z0.room(P:z0 C k G Z) (hz:C.T0.length≤20000) (hk:k≤1000){m:Nat}(hm:m≤1000):G.T.length+m < 100000 :=
 Nat.lt_of_le_of_lt (Nat.add_le_add (Nat.le_trans P.gr.2 (Nat.add_le_add hz (Nat.mul_le_mul_left 5 hk))) hm) (by decide)
theorem z0.kind(P:z0 C k G Z){T':List Tm}{f':Bd}{w j:Nat}(g:Gr G.T T' w) (hw:w≤5 * j) (u':N1 C.K T' f' C.na a6) (s:d8 (CF C.K C.na) Z a6):z0 C (k+j) ⟨T',f',G.Ts,G.Fs,G.D,G.v6⟩ a6 :=
 have e:5 * k+w≤5 * (k+j):=Nat.mul_add 5 k j ▸ Nat.add_le_add_left hw _
 ⟨(P.L.kind P.u P.sn g u' s).mono (Nat.add_le_add_left (Nat.mul_le_mul_left 5 (Nat.le_add_right k j)) _),u',P.sn,(P.gr.trans g).mono e,Nat.le_trans P.fz (Nat.le_add_right k j),P.ty,P.cE,P.sl⟩
theorem z0.Zm(P:z0 C k G Z){a:Addr}(ha:Z a=none):¬CF C.K C.na a:=(P.out ha).cf
structure a1z(C:FC) (k:Nat) (G:FG) (Z:a5) (d:List Tm) (T1:List Tm) (f1:Bd) (a6:a5):Prop where
 P:z0 C (k+4 * d.length) ⟨T1,f1,G.Ts,G.Fs,G.D,G.v6⟩ a6
 s:d8 (CF C.K C.na) Z a6
 mem:∀x∈d,x∈T1
theorem Tj{T:List Tm}{l:List Tm}:Fo (l.map λx=>vi (T.idxOf x)):=List.forall_mem_map.mpr λx _=>⟨_,rfl⟩
theorem nD(N:g0 c){met:List Tm}(Mm:iU G.Ts G.Fs D met){t:Tm}(ht:t=m7 64∨t∈met) (hst:ST 12 t) (P:z0 C k G Z) (M:Tf C fa G.v6 D Z) (hl:G.v6.length=5) (hz:C.T0.length≤20000) (hk:k+30≤1000){x1 x2 x3 x5 x7 x8 x10 x11:Option V}{tl:List (Option V)}{Q:Fl→Loc→a5→Prop}
  (q:∀y11 T' f' a6,z0 C (k+27) ⟨T',f',G.Ts,G.Fs,G.D,G.v6⟩ a6→d8 (CF C.K C.na) Z a6→Q .next (gl (some (.ref C.d)::x1::x2::x3::some (.ref C.na)::x5::some (.ref fa)::x7::x8::some t.v::x10::y11::tl)) a6) :
  l6 c (n+50) (match l5.drop 7 with | .for _ _ b::_=>b | _=>[]) (gl (some (.ref C.d)::x1::x2::x3::some (.ref C.na)::x5::some (.ref fa)::x7::x8::some t.v::x10::x11::tl)) Z Q E:=by
 have hll:=O8 Mm.few t
 have hkk {j:Nat}(h:j≤30):k+j≤1000:=Nat.le_trans (Nat.add_le_add_left h k) hk
 refine f6 ?_
 refine Ps N (M.fl hl) Mm.st Mm.few (k:=10) hst λr1 u5 hr1 s1 er1=>?_
 have o1:=P.Zm hr1
 refine comp_map (iv:=.ref r1) Tm.v (m5 D t) (λd acc a6=>∃T1 f1,a1z C k G u5 d T1 f1 a6∧acc=d.map λx=>vi (T1.idxOf x)) (Nat.le_trans hll (by decide)) (λd acc a6 I=>m9 (I.elim λ_ I=>I.elim λ_ I=>I.1.s _ _ o1 er1)) ⟨G.T,G.f,⟨P.same s1,.refl _ _,λx hx=>(List.not_mem_nil hx).elim⟩,rfl⟩ (λd y lk acc a6 R el I hs _=>?_) λacc a6 I w hw=>?_
 ·obtain⟨T1,f1,I,rfl⟩:=I
  have tN:=Kh Mm.st (k:=10) hst y (G7 el)
  have dl:d.length < 3:=Nat.lt_of_lt_of_le (el ▸ (by rw[List.length_append,List.length_cons]; exact Nat.lt_add_of_pos_right (Nat.succ_pos _))) hll
  have d4:4 * d.length≤30:=Nat.le_trans (Nat.mul_le_mul_left 4 (Nat.le_of_lt dl)) (by decide)
  refine T7 ?_
  refine I.P.L.y.kt N ?_
  refine R2 N 20 (Nat.le_trans tN.1.3 (by decide)) tN.1.1 tN.1.2 (tN.fits (by decide)) I.P.u (I.P.room hz (hkk d4) (Nat.le_trans tN.light (by decide))) λT2 f2 C2 g2 u2 s2 hm2 _ _=>?_
  refine hs _ _ ⟨T2,f2,⟨?_,I.s.trans s2,List.forall_mem_append.mpr ⟨λx hx=>g2.mem (I.mem x hx),List.forall_mem_singleton.mpr hm2⟩⟩,?_⟩
  ·rw[List.length_append]; exact I.P.kind g2 (j:=4) (Nat.le_trans tN.light (by decide)) u2 s2
  ·rw[List.map_append,O1 g2 I.mem]; rfl
 obtain⟨T1,f1,I,rfl⟩:=I
 have sw:d8 (λ_=>False) a6 (j1 a6 w (.list ((m5 D t).map λx=>vi (T1.idxOf x)))):=d8.new hw
 have P1:=(I.P.same sw).mono (k':=k+12) (Nat.add_le_add_left (Nat.mul_le_mul_left 4 hll) k)
 have ow:=I.P.Zm hw
 have ew:j1 a6 w (.list ((m5 D t).map λx=>vi (T1.idxOf x))) w=_:=a7 ..
 have S1:d8 (CF C.K C.na) Z (j1 a6 w (.list ((m5 D t).map λx=>vi (T1.idxOf x)))):=((s1.mono λ_ h=>h.elim).trans I.s).trans (sw.mono λ_ h=>h.elim)
 generalize j1 a6 w (.list ((m5 D t).map λx=>vi (T1.idxOf x)))=C2 at sw P1 ew S1
 refine f9 ?_
 refine P1.L.y.kt N ?_
 refine R2 N 12 hst.1.3 hst.1.1 hst.1.2 (hst.fits (by decide)) P1.u (P1.room hz (hkk (by decide)) (Nat.le_trans hst.light (by decide))) λT2 f2 W8 g2 u2 s2 hm2 _ _=>?_
 have P2:=P1.kind g2 (j:=3) (Nat.le_trans hst.light (by decide)) u2 s2
 have hN:=(O3 (Fs:=G.Fs) Mm.l9 t).2
 refine Vz N P2.L.k P2.L.y P2.L.s hm2 (P2.room hz (hkk (j:=15) (by decide)) (Nat.le_trans hN (by decide))) λT3 Ho r3 g3 k3 y3 h3 s3 yO er3 mK=>?_
 have s3':=s3.mono (G:=CF C.K C.na) λ_ h=>.inl h
 have P3:=P2.kind g3 (j:=12) hN (P2.u.grow g3 k3 s3) s3'
 rw[Mm.good t ht] at er3
 rw[O1 (g2.trans g3) I.mem] at er3
 refine⟨_,_,er3,s3' _ _ ow (s2 _ _ ow ew),Tj,Tj,?_⟩
 exact T4 (congrArg not (decide_eq_true rfl)) (j9 (q _ T3 f2 Ho P3 ((S1.trans s2).trans s3')))
end
noncomputable def yV:List (Nat×Nat):=[(2,1),(2,1),(2,1),(2,1),(2,1),(5,0),(1,1)]
noncomputable def Ht(D:Nat→List (Tm×Nat)):Nat→List Tm:=λi=>TL (z5 D i)
noncomputable def R5:Prop:=∀(Ts:List C3) (Fs:List J4) (D:Nat→List (Tm×Nat)),(Ts.map λt=>(t.sort,t.np))=yV→(∀i,i < 7→cD Ts Fs i (z5 D i))→(∀i,5≤i→D i=[])→tL D→(D 4).length≤1 →
 ∃m met,m≤10000∧B4 (Ht D) m (m5 (Ht D) (m7 64)) []=some met∧iU Ts Fs (Ht D) met
section
variable {c:Cx}{n:Nat}{Z:a5}{C:FC}{k:Nat}{G:FG}{E:a5→Prop}{fa:Addr}{D:Nat→List Tm}{Q:V→a5→Prop}
theorem cI{l:List Tm}{p:Tm→Bool}{m:Nat}(e:m=(l.filter p).length):l.any p=decide ((0:Int) < (m:Int)) :=
 e ▸ y4 (List.any_eq_true.trans ⟨λh=>h.elim λx q=>Int.ofNat_lt.mpr (List.length_pos_of_mem (List.mem_filter.mpr q)),λh=>(List.exists_mem_of_length_pos (Int.ofNat_lt.mp h)).imp λx q=>List.mem_filter.mp q⟩)
theorem eq_bool{a b:Bool}{R:Bool→Prop}(q:R (decide (V.bool a=V.bool b))):EQ (.bool a) (.bool b) Z R:=⟨.inr ⟨_,_,rfl,rfl⟩,q⟩
theorem iV(N:g0 c){met:List Tm}(Mm:iU G.Ts G.Fs D met) (hmet:∀t∈met,ST 12 t) (xI:met.length≤10000) (P:z0 C k G Z) (M:Tf C fa G.v6 D Z) (hl:G.v6.length=5) (hz:C.T0.length≤20000) (hk:k≤500){mt:Addr}(em:Z mt=some (.list (met.map Tm.v))) (om:¬CF C.K C.na mt){ti:C3}(hti:G0 G.Ts 64=some ti) (hs:ti.sort=2) (hnp:ti.np=1) (hTs:0 < G.Ts.length)
  {x1 x2 x5 x8 x9:Option V}(q:∀a6,Q (.bool true) a6):l6 c (n+50) (l5.drop 7) (gl (some (.ref C.d)::x1::x2::some (.ref C.H.st)::some (.ref C.na)::x5::some (.ref fa)::some (.ref mt)::x8::x9::pad.drop 7)) Z (s9 Q) E:=by
 refine A2 λr1 hr1=>?_
 have s1:d8 (λ_=>False) Z (j1 Z r1 (.list [.tup [.str "S",.tup [.str "x"]]])):=d8.new hr1
 have e1:j1 Z r1 (.list [.tup [.str "S",.tup [.str "x"]]]) r1=_:=a7 ..
 generalize j1 Z r1 (.list [.tup [.str "S",.tup [.str "x"]]])=u5 at s1 e1
 refine⟨_,s1 _ _ id em,De (Nat.le_trans xI (by decide)),.inl rfl,λr2 hr2=>⟨?_⟩⟩
 have s2:d8 (λ_=>False) u5 (j1 u5 r2 (.list (cut (met.map Tm.v) none (some 3)))):=d8.new hr2
 have zc:(cut (met.map Tm.v) none (some 3)).length≤3:=List.length_take_le 3 (met.map Tm.v)
 refine⟨_,_,s2 _ _ id e1,a7 ..,Nat.le_trans (Nat.add_le_add_left zc 1) (by decide),λcl hcl=>?_⟩
 have st:=(s1.trans s2).trans (d8.new (o:=.list ([.tup [.str "S",.tup [.str "x"]]]++cut (met.map Tm.v) none (some 3))) hcl)
 have ocl:=P.Zm (Z3 (s1.trans s2) hcl)
 have ecl:j1 (j1 u5 r2 (.list (cut (met.map Tm.v) none (some 3)))) cl (.list ([.tup [.str "S",.tup [.str "x"]]]++cut (met.map Tm.v) none (some 3))) cl=some (.list ((m7 64::met.take 3).map Tm.v)):=(a7 ..).trans (congrArg (λl=>some (j8.list l)) (congr (congrArg List.cons pS.symm) List.map_take.symm))
 generalize j1 (j1 u5 r2 (.list (cut (met.map Tm.v) none (some 3)))) cl (.list ([.tup [.str "S",.tup [.str "x"]]]++cut (met.map Tm.v) none (some 3)))=W8 at st ecl
 have P3:=P.same st
 have M3:=M.keep st λ_ _=>id
 have hmem:∀t∈m7 64::met.take 3,(t=m7 64∨t∈met)∧ST 12 t:=List.forall_mem_cons.mpr ⟨⟨.inl rfl,Hs.mono (by decide)⟩,λt ht=>⟨.inr (List.mem_of_mem_take ht),hmet t (List.mem_of_mem_take ht)⟩⟩
 have z4:(m7 64::met.take 3).length≤4:=Nat.succ_le_succ (List.length_take_le 3 met)
 refine z8 (iv:=.ref cl) Tm.v (m7 64::met.take 3) (γ:=(Nat→Option V)×List Tm×Bd) (λg=>some (.ref C.d)::x1::x2::some (.ref C.H.st)::some (.ref C.na)::x5::some (.ref fa)::some (.ref mt)::x8::g.1 0::g.1 1::g.1 2::pad.drop 9) (λd g a6=>z0 C (k+27 * d.length) ⟨g.2.1,g.2.2,G.Ts,G.Fs,G.D,G.v6⟩ a6∧d8 (CF C.K C.na) W8 a6)
  (gl [x9,none,none],G.T,G.f) (Nat.le_trans z4 (by decide)) (λd g a6 I=>m9 (I.2 _ _ ocl ecl)) ⟨P3,.refl _ _⟩ (λd t lk g a6 R el I hs _=>?_) λg a6 I=>f7 ?_
 ·have dl:d.length≤4:=Nat.le_trans (X2 el) z4
  refine nD (G:=⟨g.2.1,g.2.2,G.Ts,G.Fs,G.D,G.v6⟩) N Mm (hmem t (G7 el)).1 (hmem t (G7 el)).2 I.1 (M3.keep I.2 λb h=>h.cf) hl hz (Nat.le_trans (Nat.add_le_add_right (Nat.add_le_add hk (Nat.mul_le_mul_left 27 dl)) 30) (by decide)) λy11 T' f' Ho P4 s4=>?_
  refine(hs (gl [some t.v,g.1 1,y11],T',f') Ho ⟨?_,I.2.trans s4⟩).1
  rw[List.length_append]; exact P4
 have P4:=I.1.mono (k':=k+108) (Nat.add_le_add_left (Nat.mul_le_mul_left 27 z4) k)
 obtain⟨m,r,hh,hr⟩:=Mm.holds
 refine P4.L.s.K7 N ?_
 refine P4.L.s.Jz (tid:=64) (Nat.lt_add_of_pos_right hTs) ?_
 rw[hti]
 have km:k+108≤1000:=Nat.le_trans (Nat.add_le_add_right hk 108) (by decide)
 refine mL N Mm.l9 P4.L.k P4.L.y P4.L.s hti hs hnp (Nat.lt_add_of_pos_right hTs) (Nat.le_refl 64) (Nat.lt_of_le_of_lt (Nat.le_trans P4.gr.2 (Nat.add_le_add hz (Nat.mul_le_mul_left 5 km))) (by decide)) hh λT5 Yp w5=>?_
 have em5:=w5.same _ _ (λh=>om (.inl h)) (I.2 _ _ om (st _ _ id em))
 refine comp_map (iv:=.ref mt) Tm.v met (λd acc a6=>a6=Yp∧acc.length=(d.filter λt=>decide (t.hd=.val 64)).length) (Nat.le_trans xI (by decide)) (λd acc a6 I=>I.1 ▸ m9 em5) ⟨rfl,rfl⟩ (λd t lk acc a6 R el I hs hn=>?_) λacc a6 I rr hrr=>?_
 ·refine I9 ?_
  refine k7 ?_
  refine o8 ?_
  refine eq_str (by decide +kernel) (K9 _) ?_
  rw[xF _ (E1 (hmet t (G7 el)).1.1)]
  have e (b:Bool) (q:decide (t.hd=.val 64)=b):((d++[t]).filter λt=>decide (t.hd=.val 64)).length=(d.filter λt=>decide (t.hd=.val 64)).length+b.toNat:=by
   rw[List.filter_append,List.length_append]
   refine congrArg (_+·) ?_
   cases b with
   | true=>exact congrArg List.length (List.filter_cons_of_pos (p:=λt:Tm=>decide (t.hd=.val 64)) q)
   | false=>exact congrArg List.length (List.filter_cons_of_neg (p:=λt:Tm=>decide (t.hd=.val 64)) (Bool.eq_false_iff.mp q))
  refine bH (λq=>T7 (hs _ _ ⟨I.1,?_⟩)) λq=>S4 (hn _ ⟨I.1,?_⟩)
  ·rw[e true q,List.length_append,I.2]; rfl
  ·rw[e false q,I.2]; rfl
 ·refine t7 (a7 ..) (I.2 ▸ Nat.le_trans (List.length_filter_le ..) (Nat.le_trans xI (by decide))) ?_
  refine k7 ?_
  refine cmp_gt ?_
  refine o8 ?_
  refine eq_bool ?_
  refine(show Q (.bool (decide (V.bool r=V.bool (decide ((0:Int) < (acc.length:Int)))))) _ from ?_)
  rw[hr.trans (cI I.2),decide_eq_true rfl]
  exact q _
end
noncomputable def nmL:List (Nat×(Nat×Nat)):=[(83,(2,1)),(82,(2,1)),(81,(2,1)),(78,(2,1)),(71,(2,1)),(69,(5,0)),(67,(1,1))]
theorem nE:(Str.ofString "SRQNGEC").cps.toList=nmL.map (·.1):=by decide +kernel
theorem sP:∀p∈nmL,p.1 < 128∧p.2.2≤1∧decide ((⟨#[p.1]⟩:Str) = "E")=decide (p.2=(5,0))∧decide ((⟨#[p.1]⟩:Str) = "C")=decide (p.2=(1,1))∧(p.2=(5,0)∨p.2=(1,1)∨p.2=(2,1)):=by decide +kernel
section
variable {c:Cx}{n:Nat}{Z:a5}{K:H1}{T:List Tm}{Q:V→a5→Prop}{E:a5→Prop}{H:Mt}{d nu at_ na:Addr}{B:Nat}
structure nF(H:Mt) (K:H1) (T:List Tm) (d nu at_ na:Addr) (B:Nat) (l:List (Nat×(Nat×Nat))) (T1:List Tm) (Ts:List C3) (Z:a5):Prop where
 L:P8 H K T1 Ts [] d nu at_ B Z
 u:N1 K T1 [] na Z
 sn:na∉T8 H Ts
 gr:Gr T T1 l.length
 cE:(Ts.map λt=>(t.sort,t.np))=l.map (·.2)
 l9:∀t∈Ts,t.l9=[]
theorem nF.add(N:g0 c){l:List (Nat×(Nat×Nat))}{T1:List Tm}{Ts:List C3}(I:nF H K T d nu at_ na B l T1 Ts Z) (hz:T.length≤19000) (hl:l.length≤7){p:Nat×(Nat×Nat)}(h1:p.1 < 128){pl:List V}(hp:pl.length=p.2.2) (h2:p.2.2≤1)
  (q:∀v T' Ql a6,nF H K T d nu at_ na B (l++[p]) T' Ql a6→Q v a6):i3 c (n+9) (.fix (.ref 349)) [.ref H.st,.int 0,one p.1,vi p.2.1,.int 0,.int (-1),.tup pl] Z Q E:=by
 have tl:Ts.length=l.length:=by have:=congrArg List.length I.cE; rwa [List.length_map,List.length_map] at this
 refine bZ N I.L.k I.L.s (hp ▸ Nat.le_trans h2 (by decide)) (Bk h1) (tl ▸ Nat.lt_of_le_of_lt hl (by decide)) (Nat.lt_of_le_of_lt (Nat.le_trans I.gr.2 (Nat.add_le_add hz hl)) (by decide)) λv T2 ti C2 g2 k2 s2 hso hnp hfi hfr hs=>?_
 have pl2:Plain (λb=>K.F b∨b=H.ty∨b=H.nm) Z:=λb hb=>hb.elim (I.L.k.plain b) λhb=>hb.elim (λe=>.inl ⟨_,e ▸ I.L.s.types⟩) λe=>.inr (I.L.s.kG.imp λ_ x=>e ▸ x.1)
 have off {b:Addr}(h1:¬K.F b) (h2:b∉T8 H Ts):¬(K.F b∨b=H.ty∨b=H.nm):=λh=>h.elim h1 λh=>h.elim (λe=>h2 (e ▸ .head _)) λe=>h2 (e ▸ .tail _ (.tail _ (.head _)))
 have nin {b:Addr}{o:j8}(h:Z b=some o) (h2:b∉T8 H Ts):b∉T8 H (Ts++[ti]):=Ke ▸ λm=>(List.mem_append.mp m).elim h2 λm=>g9 (j3 h) (hfr b m)
 have sep:=I.L.sep
 have lst:=I.L.dr.lst
 refine q v T2 _ C2 ⟨⟨k2,s2,I.L.y.same hs pl2,I.L.dr.same hs (off (sep _ (.head _)).1 (sep _ (.head _)).2) (off (sep _ (.tail _ (.head _))).1 (sep _ (.tail _ (.head _))).2),λa ha=>⟨(sep a ha).1,(lst a ha).elim λ_ e=>nin e (sep a ha).2⟩⟩,⟨k2,hs _ _ (off I.u.Lj I.sn) I.u.nd,I.u.ne,λ_ h=>(List.not_mem_nil h).elim,I.u.keys,λ_ h=>(List.not_mem_nil h).elim⟩,nin I.u.nd I.sn,?_,?_,List.forall_mem_append.mpr ⟨I.l9,List.forall_mem_singleton.mpr hfi⟩⟩
 ·rw[List.length_append]; exact I.gr.trans g2
 ·rw[List.map_append,List.map_append,I.cE]
  refine congrArg (l.map (·.2)++·) ?_
  refine(?_:[(ti.sort,ti.np)]=[p.2])
  rw[hso,hnp,hp]
theorem cJ(N:g0 c) (SM:R5) (L:P8 H K T [] [] d nu at_ B Z) (hB:B+200≤1000000) (hz:T.length≤19000) (q:∀a6,Q (.bool true) a6):i3 c (n+51) (.fix (.ref 631)) [.ref d,.ref nu,.ref at_] Z Q E:=by
 refine N.fn N.C.Eu rfl (f6 ?_)
 refine L.y.store N (f6 ?_)
 refine L0 _ _ λna hna=>A2 ?_
 have s1:d8 (λ_=>False) Z (j1 Z na (.dict [])):=d8.new hna
 have L1:=L.new s1
 have u1:N1 K T [] na (j1 Z na (.dict [])):=⟨L1.k,a7 ..,λh=>L.k.off hna (.inr (.inl h)),λ_ h=>(List.not_mem_nil h).elim,.nil,λ_ h=>(List.not_mem_nil h).elim⟩
 refine z8 (iv:=.str "SRQNGEC") (λp:Nat×(Nat×Nat)=>one p.1) nmL (γ:=Option V×List Tm×List C3) (λg=>some (.ref d)::some (.ref nu)::some (.ref at_)::some (.ref H.st)::some (.ref na)::g.1::pad.drop 3) (λl g a6=>nF H K T d nu at_ na B l g.2.1 g.2.2 a6) (none,T,[]) (by decide)
  (λ_ _ _ _=>⟨by decide +kernel,by rw[nE,List.map_map]; rfl⟩) ⟨L1,u1,L.s.out hna,.refl _ _,rfl,λ_ h=>(List.not_mem_nil h).elim⟩ (λl p r g C2 R el I hs _=>n8 ?_) λg C2 I=>f6 ?_
 ·have A:=sP p (G7 el)
  have ll:l.length≤7:=X2 el
  have eE:(V.str "E").Hy=true:=by decide +kernel
  have go {pl:List V}(hp:pl.length=p.2.2):i3 c (n+50) (.fix (.ref 349)) [.ref H.st,.int 0,one p.1,vi p.2.1,.int 0,.int (-1),.tup pl] C2 (λv Z=>R .next (gl (some (.ref d)::some (.ref nu)::some (.ref at_)::some (.ref H.st)::some (.ref na)::some (one p.1)::pad.drop 3)) Z) E :=
   I.add (n:=n+41) N hz ll A.1 hp A.2.1 λv T' Ql a6 I'=>(hs (_,T',Ql) a6 I').1
  refine Oz (k7 (m8 (l8 rfl (m8 (k7 (m8 (l8 rfl (m8 (I2 (C1 (l8 rfl (k7 ?_))))))))))))
  refine o8 ?_
  refine eq_str eE A.1 ?_
  rw[A.2.2.1]
  rcases A.2.2.2.2 with e | e | e
  ·refine bI e ?_
   refine k7 (m8 (k7 (m8 (fU (m8 (I2 (C1 (l8 rfl (k7 ?_)))))))))
   refine o8 ?_
   refine eq_str eE A.1 ?_
   rw[A.2.2.1]
   refine bI e ?_
   rw[e] at go
   exact go (pl:=[]) rfl
  ·refine Oy (λz=>nomatch e.symm.trans z) ?_
   refine I2 (C1 (l8 rfl (k7 ?_)))
   refine o8 ?_
   refine eq_str (by decide +kernel) A.1 ?_
   rw[A.2.2.2.1]
   refine bI e ?_
   refine k7 (m8 (k7 (m8 (fU (m8 (I2 (C1 (l8 rfl (k7 ?_)))))))))
   refine o8 ?_
   refine eq_str eE A.1 ?_
   rw[A.2.2.1]
   refine Oy (λz=>nomatch e.symm.trans z) ?_
   rw[e] at go
   exact go (pl:=[_]) rfl
  ·refine Oy (λz=>nomatch e.symm.trans z) ?_
   refine I2 (C1 (l8 rfl (k7 ?_)))
   refine o8 ?_
   refine eq_str (by decide +kernel) A.1 ?_
   rw[A.2.2.2.1]
   refine Oy (λz=>nomatch e.symm.trans z) ?_
   refine k7 (m8 (k7 (m8 (fU (m8 (I2 (C1 (l8 rfl (k7 ?_)))))))))
   refine o8 ?_
   refine eq_str eE A.1 ?_
   rw[A.2.2.1]
   refine Oy (λz=>nomatch e.symm.trans z) ?_
   rw[e] at go
   exact go (pl:=[_]) rfl
 have hz2:g.2.1.length≤20000:=Nat.le_trans I.gr.2 (Nat.le_trans (Nat.add_le_add_right hz 7) (by decide))
 have tl:g.2.2.length=7:=by have:=congrArg List.length I.cE; rwa [List.length_map] at this
 refine cG (C:=⟨H,K,d,nu,at_,na,g.2.1,g.2.2,B⟩) N I.L I.u I.sn (λi hi=>⟨_,List.getElem?_eq_getElem (tl.symm ▸ hi),congrArg (pL []) (I.l9 _ (List.getElem_mem (tl.symm ▸ hi)))⟩) hB (Nat.lt_of_le_of_lt (Nat.add_le_add_right hz2 200) (by decide)) λfa W8 G D P M hl eD ok d4 emp=>?_
 have sn:=P.cE.trans I.cE
 obtain⟨m,met,hm,hls,Mm⟩:=SM G.Ts G.Fs D sn (eD ▸ P.ty) emp ok d4
 refine cH N (M.fl hl) Mm.st Mm.few hm hls λy8 y9 Ho mt em hST xI s4 hmt=>?_
 obtain⟨ti,tr,et,e1,_⟩:=List.map_eq_cons_iff.mp sn
 exact iV N Mm hST xI (P.same s4) (M.keep s4 λ_ _=>id) hl hz2 (by decide) em (P.Zm hmt) (et ▸ rfl) (Prod.mk.inj e1).1 (Prod.mk.inj e1).2 (et ▸ Nat.succ_pos _) q
end
section
variable {prog:Program}{w:World}{A:Around}{E:Value→Shared→Prop}{s:Shared}{d it:Addr}{es:Array DictEntry}{ep i:Nat}
theorem cK(hh:A.handled=none) (I:Addr) (hne:d≠I):Walks prog w A I [I,d] [I] es.size (λi v=>∃e,es[i]?=some e∧v=e.key) (λi h=>h.IsKeyIter I d i es.size ep∧RD h d es ep) where
 sub:=λb hb=>List.mem_singleton.mp hb ▸ .head _
 frame:=λ_ _ _ st hk=>⟨st.1.at λo e=>hk I (.head _) o e,st.2.keep λo e=>hk d (.tail _ (.head _)) o e⟩
 item:=λi s Q E hi st hQ=>Jc hh st.1 st.2 (λe he h' hit' hs'=>hQ _ h' s.toks ⟨e,he,rfl⟩ ⟨hit',st.2.keep λo e=>hs'.extBut d o hne e⟩ λb o hb e=>hs'.extBut b o (λh=>hb (List.mem_singleton.mpr h)) e) λhn=>nomatch hn.symm.trans (Array.getElem?_eq_getElem hi)
 done:=λs Q E st hQ=>Jc hh st.1 st.2 (λe he=>nomatch he.symm.trans (Array.getElem?_eq_none (Nat.le_refl _))) λ_ h' he'=>hQ h' s.toks λb o hb e=>he' b o (λh=>hb (List.mem_singleton.mpr h)) e
 self:=λ_ _ _ _ st hQ=>wpAny_pyIter_keyiter st.1 hQ
theorem nG(lo:(d == sysModules)=false):KdlSrc prog w "dict" d d es.size (λi v=>∃e,es[i]?=some e∧v=e.key) (λh=>RD h d es ep) where
 type:=λ_ hm=>hm.typeIs
 there:=λ_ hm=>let ⟨_,ho,_⟩:=hm; ⟨Heap.lt_size ho,Heap.lt_size ho⟩
 keep:=λ_ _ hm hk=>hm.keep λo e=>hk d (.inl rfl) o e
 notList:=by decide
 notTuple:=by decide
 hint:=λ_ _ _ _ hm hq=>kdl_hint_dict hm.typeIs hq
 iter:=λ_ s hh hm=>⟨_,_,(λ_ _ hq=>Rn lo hm hq),cK hh _ (Nat.ne_of_lt (let ⟨_,ho,_⟩:=hm; Heap.lt_size ho)),⟨⟨_,Heap.get?_push_size _ rfl,rfl,rfl⟩,hm.keep λo e=>Heap.get?_push_of_some _ e⟩⟩
end
section
variable {prog:Program}{w:World}{A:Around}{E:Value→Shared→Prop}{s:Shared}
theorem Kk{d:Addr}{es:Array DictEntry}{ep:Nat}{Q:Value→Shared→Prop}(lo:(d == sysModules)=false) (hR:RD s.heap d es ep) (hh:A.handled=none) (hz:es.size < 64)
  (h:∀(D:Addr) (h':Heap) (tk:Nat) (vs:List Value),(∀b o,s.heap.get? b=some o→h'.get? b=some o)→(∀b o,s.heap.get? b=some o→b < D)→h'.get? D=some (seqObj "list" vs.toArray 0)→vs=es.toList.map (·.key) →
   wpAny (model prog w) A.in1.in1 (Builtin.«list.sort» ⟨[.ref D],[]⟩) (λfin s'=>fin=.done (.ret .none)∧Q (.ref D) s') E {s with heap:=h',toks:=tk}) :
  wpAny (model prog w) A (call (.builtin "sorted") [.ref d]) Q E s:=by
 refine Calls.call_function_entry kind_sorted plain_sorted entry_sorted (args_sorted1 _) ?_
 unfold Builtin.«sorted»
 refine wpAny_bind (m:=checkCount "sorted" 1 1 _) (wpAny_pure ?_)
 refine wpAny_bind (kdu_collect (A:=A.in1) (nG lo) hh hR (E8 (Nat.le_trans (Nat.le_of_lt hz) (by decide))) λh' tk acc hk hacc=>?_)
 refine wpAny_bind (wpAny_newList ?_ (by rw[Array.length_toList,hacc.1]; exact E8 (Nat.le_trans (Nat.le_of_lt hz) (by decide))))
 have hoL:(h'.push (seqObj "list" acc.toList.toArray 0)).get? h'.objs.size=some (seqObj "list" acc.toList.toArray 0):=Heap.get?_push_size _ rfl
 have hv:acc.toList=es.toList.map (·.key):=by
  apply List.ext_getElem?
  intro j
  rw[Array.getElem?_toList,List.getElem?_map,Array.getElem?_toList]
  cases e:acc[j]? with
  | none=>rw[Array.getElem?_eq_none (Nat.le_trans (Nat.le_of_eq hacc.1.symm) (Array.getElem?_eq_none_iff.mp e))]; rfl
  | some v =>
   obtain⟨en,h1,h2⟩:=hacc.2 j v e
   rw[h1,h2]; rfl
 refine wpAny_bind (wpAny_holding (wpAny_call_entry slot_list_sort ⟨_,hoL,rfl⟩ entry_list_sort ?_ (args_list_sort _)))
 refine wpAny_mono (h h'.objs.size (h'.push (seqObj "list" acc.toList.toArray 0)) tk acc.toList (λb o e=>Heap.get?_push_of_some _ (hk b o e)) (λb o e=>Heap.lt_size (hk b o e)) hoL hv) (λfin s' ⟨e,q⟩=>?_) λ_ _ e=>e
 subst e
 exact⟨_,rfl,wpAny_pure ⟨_,rfl,q⟩⟩
noncomputable def pT(out vs:List Value):Prop:=out.length=vs.length∧∀v∈out,v∈vs
noncomputable def Fd(n:Nat) (P:Array Nat→Bool):KasT (Array Nat)→Bool
 | .ret a=>P a
 | .ask i j k=>decide (i < n) && decide (j < n) && Fd n P (k true) && Fd n P (k false)
theorem Fe{n:Nat}{P:Array Nat→Bool}{cmp:Nat→Nat→(Bool→Shared→Prop)→Shared→Prop}{s:Shared}(hc:∀i j C,i < n→j < n→(∀b,C b s)→cmp i j C s):∀(T:KasT (Array Nat)),Fd n P T=true→T.kasWp cmp (λa s'=>P a=true∧s'=s) s
 | .ret a,h=>⟨h,rfl⟩
 | .ask i j k,h=>an h λh hf=>an h λh ht=>an h λh1 h2=>hc i j _ (of_decide_eq_true h1) (of_decide_eq_true h2) λb=>match b with
  | false=>Fe hc (k false) hf
  | true=>Fe hc (k true) ht
noncomputable def Nb(n:Nat) (p:Array Nat):Bool:=decide (p.size=n) && p.toList.all λi=>decide (i < n)
theorem a2d:Fd 2 (Nb 2) (kas_sort 2)=true:=by decide +kernel
theorem a2e:Fd 3 (Nb 3) (kas_sort 3)=true:=by decide +kernel
inductive Bo(h:Heap):Value→Prop
 | mk {a:Addr}{o:Obj}{k:Nat}{t:Tok}{n:Nat}(ho:h.get? a=some o) (hc:o.cls=.type "tuple") (hd:o.data=.seq #[.str ⟨#[k]⟩ t] n):Bo h (.ref a)
theorem iW(x:Str) (t:Tok):(PySem.strKind prog w).is x (.str x t)=true:=beq_self_eq_true x
theorem nH{x y:Value}(hx:Bo s.heap x) (hy:Bo s.heap y){Q:Bool→Shared→Prop}(h:∀b,Q b s):wpAny (model prog w) A (keyLt' (tuples' true) x y) Q E s:=by
 obtain @⟨a,o,k,t,n,ho,hc,hd⟩:=hx
 obtain @⟨b,o',k',t',n',ho',hc',hd'⟩:=hy
 refine kat_lt ho hd ho' hd' (kat_cons ?_)
 refine(PySem.strKind prog w).eqBool (a:=⟨#[k]⟩) (b:=⟨#[k']⟩) (iW ..) (iW ..) ?_
 refine kat_go (λ_=>kat_yes (kat_nil (h _))) (λ_=>kat_no ?_)
 exact oneLt_str (h _)
end
section
variable {prog:Program}{w:World}{A:Around}{E:Value→Shared→Prop}{s:Shared}
theorem Zn{h:Heap}:∀(vs:List Value),(∀v∈vs,Bo h v)→∃fs,KatTups h vs fs∧fs.length=vs.length∧∀f∈fs,∃x t,f=.str x t
 | [],_=>⟨[],.nil,rfl,λ_ hf=>(List.not_mem_nil hf).elim⟩
 | v::vs,hv=>match v,hv v (.head _) with
  | _,.mk ho hc hd=>(Zn vs λx hx=>hv x (.tail _ hx)).elim λfs q=>⟨_::fs,.cons ho hc hd rfl q.1,congrArg (·+1) q.2.1,List.forall_mem_cons.mpr ⟨⟨_,_,rfl⟩,q.2.2⟩⟩
theorem xJ{n:Nat}(h2:2≤n) (h3:n≤3):Fd n (Nb n) (kas_sort n)=true :=
 match n,h2,h3 with
 | 2,_,_=>a2d
 | 3,_,_=>a2e
theorem cL{a:Addr}{vs:List Value}{n:Nat}{P:PySem.Fin→Shared→Prop}(ho:s.heap.get? a=some (seqObj "list" vs.toArray n)) (hv:∀v∈vs,Bo s.heap v) (h3:vs.length≤3)
  (h:∀out:Array Value,pT out.toList vs→P (.done (.ret .none)) {s with heap:=sortedHeap s.heap a vs out}) :
  wpAny (model prog w) A (Builtin.«list.sort» ⟨[.ref a],[]⟩) P E s:=by
 have ha:a < s.heap.objs.size:=Heap.lt_size ho
 have hz:vs.length≤sizeLine:=E8 (Nat.le_trans h3 (by decide))
 obtain⟨e1,ho1⟩:∃e1,(s.heap.update a (Obj.mapSeq λ_=>#[])).get? a=some (seqObj "list" #[] e1):=⟨_,get?_update_seq ho (λ_=>#[])⟩
 rw[list_sort_plain]
 refine wpAny_bind (listItems_at ho rfl ?_)
 refine wpAny_bind (listUpdate_at ho rfl ?_ hz (Nat.zero_le _))
 refine wpAny_bind (seqEpoch_at ho1 rfl ?_)
 refine wpAny_bind (wpAny_newTuple ?_ hz)
 refine wpAny_bind (wpAny_newList ?_ (Nat.zero_le _))
 refine wpAny_holding ?_
 have xK {b:Addr}{o:Obj}(hb:b≠a) (e:s.heap.get? b=some o):(((s.heap.update a (Obj.mapSeq λ_=>#[])).push (seqObj "tuple" vs.toArray 0)).push (seqObj "list" #[] 0)).get? b=some o:=by
  have lt:=Heap.lt_size e
  rw[Heap.get?_push_ne _ _ _ (by rw[size_push',Heap.size_update]; exact Nat.ne_of_lt (Nat.lt_succ_of_lt lt)),Heap.get?_push_ne _ _ _ (by rw[Heap.size_update]; exact Nat.ne_of_lt lt),Heap.get?_update_ne _ _ _ _ hb]; exact e
 have ho6:(((s.heap.update a (Obj.mapSeq λ_=>#[])).push (seqObj "tuple" vs.toArray 0)).push (seqObj "list" #[] 0)).get? a=some (seqObj "list" #[] e1):=by
  rw[Heap.get?_push_ne _ _ _ (by rw[size_push',Heap.size_update]; exact Nat.ne_of_lt (Nat.lt_succ_of_lt ha)),Heap.get?_push_ne _ _ _ (by rw[Heap.size_update]; exact Nat.ne_of_lt ha)]
  exact ho1
 have yW:∀v∈vs,Bo (((s.heap.update a (Obj.mapSeq λ_=>#[])).push (seqObj "tuple" vs.toArray 0)).push (seqObj "list" #[] 0)) v:=λv hm=>match v,hv v hm with
  | _,.mk ho' hc hd=>.mk (xK (λq=>by subst q; rw[ho] at ho'; obtain rfl:=Option.some.inj ho'; exact absurd (Value.type.inj hc) (by decide)) ho') hc hd
 have hP:∀out:Array Value,pT out.toList vs→P (.done (.ret .none)) {s with heap:=(((s.heap.update a (Obj.mapSeq λ_=>#[])).push (seqObj "tuple" vs.toArray 0)).push (seqObj "list" #[] 0)).update a (Obj.mapSeq λ_=>out)}:=h
 refine(?_:wpAny (model prog w) A _ P E {s with heap:=((s.heap.update a (Obj.mapSeq λ_=>#[])).push (seqObj "tuple" vs.toArray 0)).push (seqObj "list" #[] 0)})
 generalize ((s.heap.update a (Obj.mapSeq λ_=>#[])).push (seqObj "tuple" vs.toArray 0)).push (seqObj "list" #[] 0)=h6 at ho6 yW hP
 dsimp only
 by_cases h2:vs.toArray.size < 2
 ·rw[if_pos h2,if_pos h2]
  refine wpAny_bind (wpAny_pure ?_)
  rw[StateT.run_pure]
  refine wpAny_bind (wpAny_pure ?_)
  dsimp only
  have hout:(arrOf (SortSt.mk' general' (vs.toArray.zip vs.toArray) #[] 7 none)).map (·.2)=vs.toArray:=Array.toList_inj.mp ((Array.toList_map ..).trans ((congrArg (List.map Prod.snd) (Array.toList_zip ..)).trans (List.map_snd_zip (Nat.le_refl _))))
  rw[hout]
  refine wpAny_bind (seqEpoch_at ho6 rfl ?_)
  refine wpAny_bind (listUpdate_at ho6 rfl ?_ (Nat.zero_le _) (Nat.le_succ_of_le hz))
  rw[if_neg (by rw[bne_self_eq_false]; exact Bool.false_ne_true)]
  exact wpAny_pure (hP vs.toArray ⟨rfl,λ_=>id⟩)
 ·rw[if_neg h2,if_neg h2]
  have hl2:2≤vs.length:=Nat.le_of_not_lt h2
  obtain⟨fs,hk,hfl,hfs⟩:=Zn vs yW
  refine wpAny_bind (kat_kind (T:=.type "str") hk (hfl ▸ Nat.lt_of_lt_of_le (by decide) hl2) (λv hm=>by obtain⟨x,t,rfl⟩:=hfs v hm; exact .now) rfl ?_)
  rw[show(Value.type "str" != Value.type "tuple")=true from rfl]
  have at_ {i:Nat}(hi:i < vs.length):vs.getD i .none∈vs:=by rw[List.getD_eq_getElem?_getD,List.getElem?_eq_getElem hi]; exact List.getElem_mem hi
  have hrun:(kas_sort vs.length).kasWp (kas_ask prog w A (tuples' true) vs) (λp s''=>Nb vs.length p=true∧s''={s with heap:=h6}) {s with heap:=h6} :=
   Fe (n:=vs.length) (P:=Nb vs.length) (λi j C hi hj hC=>nH (yW _ (at_ hi)) (yW _ (at_ hj)) hC) _ (xJ hl2 h3)
  refine wpAny_bind (wpAny_mono (kat_run (Q:=λst' s'=>∃p:Array Nat,arrOf st'=p.map (kas_item (vs.toArray.zip vs.toArray))∧failedOf st'=none∧Nb vs.length p=true∧s'={s with heap:=h6})
   rfl hl2 (Nat.lt_of_le_of_lt h3 (by decide)) (λp' st' s' a1 a2 a3 a4=>⟨p',a2,a3,a4.1,a4.2⟩) hrun) (λr s' q=>?_) λ_ _ e=>e)
  obtain⟨p,har,hf,hp,rfl⟩:=q
  obtain⟨⟨⟩,st'⟩:=r
  dsimp only
  rw[kat_snds rfl har]
  obtain⟨hp1,hp2⟩:=Bool.and_eq_true_iff.mp hp
  have hl:(p.toList.map λi=>vs.getD i Value.none).length=vs.length:=(List.length_map ..).trans (of_decide_eq_true hp1)
  refine wpAny_bind (seqEpoch_at ho6 rfl ?_)
  refine wpAny_bind (listUpdate_at ho6 rfl ?_ (Nat.zero_le _) (Nat.le_succ_of_le (Nat.le_trans (Nat.le_of_eq hl) hz)))
  rw[hf,if_neg (by rw[bne_self_eq_false]; exact Bool.false_ne_true)]
  exact wpAny_pure (hP _ ⟨hl,λv hm=>(List.mem_map.mp hm).elim λi q=>q.2 ▸ at_ (of_decide_eq_true (List.all_eq_true.mp hp2 i q.1))⟩)
end
section
variable {c:Cx}{n:Nat}{Z:a5}{Q:V→a5→Prop}{E:a5→Prop}
theorem iX:∀{vs:List Value}{ns:List Int},vs.length=ns.length→(∀(j:Nat) (v:Value) (i:Int),vs[j]?=some v→ns[j]?=some i→∃t,v=.int i t)→IntsAre vs ns
 | [],[],_,_=>.nil
 | [],_::_,h,_=>(Nat.succ_ne_zero _ h.symm).elim
 | _::_,[],h,_=>(Nat.succ_ne_zero _ h).elim
 | v::vs,i::ns,h,hj=>(hj 0 v i rfl rfl).elim λt e=>e ▸ .cons i t (iX (Nat.succ.inj h) λj=>hj (j+1))
theorem Kl{h:Heap}:∀{vs:List Value}{ns:List Int},IntsAre vs ns→h9 h (ns.map V.int) vs
 | _,_,.nil=>rfl
 | _,_,.cons n t r=>⟨_,_,rfl,⟨t,rfl⟩,Kl r⟩
theorem Rel.dead{s:Shared}(r:Rel c Z s.heap){D:Addr}(h:∀b o,s.heap.get? b=some o→b < D):Above s.heap D∧Z D=none∧2 < D :=
 have hab:Above s.heap D:=none_of λo e=>Nat.lt_irrefl _ (h _ _ e)
 ⟨hab,none_of λo' e=>(r.3 D o' e).2.shape.elim λob x=>hab.not x.1,r.2.elim λb x=>x.2.elim λo e=>Nat.lt_trans x.1 (h _ _ (r.1 b o e))⟩
theorem Gn{s:Shared}(r:Rel c Z s.heap){D:Addr}{h':Heap}{tk:Nat}{vs:List Value}{out:Array Value}{ks:List V}(hk:∀b o,s.heap.get? b=some o→h'.get? b=some o) (hlt:∀b o,s.heap.get? b=some o→b < D) (hD:h'.get? D=some (seqObj "list" vs.toArray 0))
  (hr:∀h2:Heap,(∀b o,s.heap.get? b=some o→h2.get? b=some o)→h9 h2 ks out.toList) (q:Q (.ref D) (j1 Z D (.list ks))):QE c Z s Q (.ref D) {s with heap:=sortedHeap h' D vs out,toks:=tk} :=
 have x:=r.dead hlt
 have key:∀b o,s.heap.get? b=some o→(sortedHeap h' D vs out).get? b=some o:=λb o e=>(sortedHeap_old (Nat.ne_of_lt (hlt b o e)) (Heap.lt_size (hk b o e))).trans (hk b o e)
 ⟨.ref D,_,(i0.grow (F:=λ_=>False) (tk:=tk) r key).adopt (o:=.list ks) x.2.2 x.1 (A7 r x.1) x.2.1 ⟨out,sortedHeap_at (out:=out) hD,hr _ key⟩,rfl,q⟩
theorem Pz{a:Addr}{l:List (V×V)}(hl:Z a=some (.dict l)) (hk:∀p∈l,∃i,p.1=.int i) (h64:l.length < 64) (q:∀r ks,Z r=none→ks.Perm (l.map (·.1))→Q (.ref r) (j1 Z r (.list ks))):i3 c n (.fix (.builtin "sorted")) [.ref a] Z Q E:=Ad λA s cx o r rx=>by
 refine rx.E3 ?_
 obtain⟨kvs,hd,e1,e2⟩:=Qs (r.3 _ _ hl).2 hk
 obtain⟨ob,es,ep,ho,hx,hdat,hko,iY,hnd⟩:=hd
 have hes:es.toList.length=(kvs.map (·.1)).length:=(iY.length.trans (List.length_map ..).symm)
 have xL:es.size < 64:=Nat.lt_of_le_of_lt (Nat.le_of_eq (hes.trans ((List.length_map ..).trans (map_len e1)))) h64
 refine Kk (not_modules r hl) ⟨ob,ho,hx,hdat⟩ o.2.2.1 xL λD h' tk vs hkk hlt hD hvs=>?_
 subst hvs
 have hI:IntsAre (es.toList.map (·.key)) (kvs.map (·.1)):=by
  refine iX ((List.length_map ..).trans hes) λj v i g1 g2=>?_
  rw[List.getElem?_map] at g1 g2
  obtain⟨en,h1,rfl⟩:=Option.map_eq_some_iff.mp g1
  obtain⟨kv,h2,rfl⟩:=Option.map_eq_some_iff.mp g2
  exact Value.isInt_shape (iY.get? h1 h2).1
 refine list_sort_tree hD hI ((List.length_map (as:=es.toList) _).symm ▸ xL) λout ns' a1 a2 a3=>⟨rfl,?_⟩
 have p:=a2.map V.int
 rw[List.map_map] at p
 exact Gn r hkk hlt hD (λh2 _=>Kl a1) (q D _ (r.dead hlt).2.1 (e1 ▸ p))
theorem Nc{h:Heap}{K:List V}:∀(out:List Value),(∀v∈out,∃k∈K,Rep h k v)→∃ks,h9 h ks out∧(∀k∈ks,k∈K)∧ks.length=out.length
 | [],_=>⟨[],rfl,λ_ h=>(List.not_mem_nil h).elim,rfl⟩
 | v::out,hv=>(hv v (.head _)).elim λk rk=>(Nc out λx hx=>hv x (.tail _ hx)).elim λks x=>⟨k::ks,⟨_,_,rfl,rk.2,x.1⟩,List.forall_mem_cons.mpr ⟨rk.1,x.2.1⟩,congrArg (·+1) x.2.2⟩
theorem nI{h h':Heap}{v:Value}{k:Nat}(r:Rep h (.tup [one k]) v) (hk:∀b o,h.get? b=some o→h'.get? b=some o):Bo h' v:=by
 refine r.Ek λb items ht hrs=>?_
 obtain⟨o',ho',hc',n',hd'⟩:=ht.isTuple
 obtain⟨c1,r1,e,r0,rn⟩:=hrs
 obtain⟨t,rfl⟩:=r0
 exact .mk (hk _ _ ho') hc' (hd'.trans (congrArg (λx=>Data.seq x n') (Array.toList_inj.mp (e.trans (congrArg (List.cons _) rn)))))
theorem Qa{a:Addr}{l:List (V×V)}(hl:Z a=some (.dict l)) (hk:∀p∈l,∃k,p.1=.tup [one k]) (h3:l.length≤3) (q:∀r ks,Z r=none→(∀k∈ks,k∈l.map (·.1))→ks.length=l.length→Q (.ref r) (j1 Z r (.list ks))):i3 c n (.fix (.builtin "sorted")) [.ref a] Z Q E:=Ad λA s cx o r rx=>by
 refine rx.E3 ?_
 obtain⟨es,ep,hR,hes,hat⟩:=Ro (r.3 _ _ hl).2 λp hp=>(hk p hp).imp' _ λ_ e=>e
 refine Kk (not_modules r hl) hR o.2.2.1 (hes ▸ Nat.lt_of_le_of_lt h3 (by decide)) λD h' tk vs hkk hlt hD hvs=>?_
 have hrep:∀v∈vs,∃k∈l.map (·.1),Rep s.heap k v:=λv hv=>by
  obtain⟨en,hen,rfl⟩:=List.mem_map.mp (hvs ▸ hv)
  obtain⟨j,hj⟩:=List.mem_iff_getElem?.mp hen
  exact(hat j en (Array.getElem?_toList.symm.trans hj)).elim λp x=>⟨p.1,List.mem_map_of_mem (List.mem_of_getElem? x.1),x.2⟩
 have hlen:vs.length=l.length:=hvs ▸ (List.length_map ..).trans hes
 refine cL hD (λv hv=>?_) (hlen ▸ h3) λout hout=>⟨rfl,?_⟩
 ·obtain⟨k,hk1,rk⟩:=hrep v hv
  obtain⟨p,hp,rfl⟩:=List.mem_map.mp hk1
  obtain⟨x,hx⟩:=hk p hp
  exact nI (hx ▸ rk) hkk
 obtain⟨ks,g1,g2,g3⟩:=Nc out.toList λv hv=>hrep v (hout.2 v hv)
 exact Gn r hkk hlt hD (λh2 hk2=>g1.mono λb o e _=>hk2 b o e) (q D ks (r.dead hlt).2.1 g2 (g3.trans (hout.1.trans hlen)))
end
noncomputable def Uj(g:Hd):Tm→Bool
 | .leaf h=>decide (h=g)
 | .un _ a=>Uj g a
 | .bin _ a b=>Uj g a || Uj g b
noncomputable def Rest(rest:Bd):Prop:=rest=[]∨∃z,O5 2 z∧Uj (.var 1) z=false∧rest=[(tY,z)]
structure sQ(boss f' equal:Bd):Prop where
 var:∀p∈f',p.1.hd.isVar=true
 len:f'.length=(boss.filter λp=>p.1.hd.isVar).length
 full:∀p∈equal,∃t,F7 170 f' p.1=some t∧F7 170 f' p.2=some t∧t.nest≤60
noncomputable def X9:Prop:=∀a b,O5 6 a→O5 6 b→∀rest:Bd,Rest rest→∃res,join 10000 150 ((a,b)::rest)=some res∧(∀boss,res=some boss→boss.length≤1000) ∧
 ∀x y,(x=a∧y=b∨x=b∧y=a)→∃f',B9 110 rest x y=some (res.isSome,f')∧∀boss,res=some boss→sQ boss f' ((a,b)::rest)
theorem Tl{α β:Type}{f:α→β}{ks l':List β}(h:ks.Perm l'):∀l:List α,l'=l.map f→∃m:List α,m.Perm l∧ks=m.map f:=by
 induction h with
 | nil=>exact λl e=>⟨[],List.map_eq_nil_iff.mp e.symm ▸ .nil,rfl⟩
 | cons x h ih =>
  intro l e
  obtain⟨y,r,rfl,e1,e2⟩:=List.map_eq_cons_iff.mp e.symm
  exact(ih r e2.symm).imp' (y::·) λm q=>⟨q.1.cons y,congr (congrArg List.cons e1.symm) q.2⟩
 | swap x y t =>
  intro l e
  obtain⟨a,r,rfl,e1,e2⟩:=List.map_eq_cons_iff.mp e.symm
  obtain⟨b,r,rfl,e3,rfl⟩:=List.map_eq_cons_iff.mp e2
  exact⟨b::a::r,.swap _ _ _,e1 ▸ e3 ▸ rfl⟩
 | trans h1 h2 ih1 ih2=>exact λl e=>(ih2 l e).elim λm q=>(ih1 m q.2).imp λm' q'=>⟨q'.1.trans q.1,q'.2⟩
theorem Bp{α:Type}{l:List α}{a:α}(h:l.Nodup) (ha:a∉l):(l++[a]).Nodup :=
 List.nodup_append.mpr ⟨h,List.nodup_cons.mpr ⟨List.not_mem_nil,.nil⟩,λx hx y hy e=>ha (List.mem_singleton.mp hy ▸ e ▸ hx)⟩
theorem Nd{f:Bd}{k:Tm}(h:e9 f k=none):k∉f.map (·.1):=λhk=>g9 (Z4.mpr hk) h
theorem H5{f:Bd}{a b:Tm}(hk:(f.map (·.1)).Nodup) (h:e9 f a=none):((f++[(a,b)]).map (·.1)).Nodup:=by rw[List.map_append]; exact Bp hk (Nd h)
theorem Wn{n:Nat}{f f':Bd}{a b:Tm}{r:Bool}(h:B9 n f a b=some (r,f')) (hf:(f.map (·.1)).Nodup):(f'.map (·.1)).Nodup :=
 Ey (I:=λf=>(f.map (·.1)).Nodup) (D:=λ_=>True) (λ_ _ _ _=>trivial) (λ_ _ _ _=>trivial) (λf x y hk _ _ h=>H5 hk h) h hf trivial trivial
theorem R6{f:Bd}(hk:(f.map (·.1)).Nodup){p:Tm×Tm}(hp:p∈f):e9 f p.1=some p.2:=by
 cases e:e9 f p.1 with
 | none=>exact(Nd e (List.mem_map_of_mem hp)).elim
 | some v =>
  obtain⟨i,hi⟩:=List.mem_iff_getElem?.mp hp
  obtain⟨j,hj⟩:=List.mem_iff_getElem?.mp (i7 e)
  have ij:i=j:=O7 hk (get_map (f:=(·.1)) hi) (get_map (f:=(·.1)) hj)
  exact congrArg some (congrArg Prod.snd (Option.some.inj (hj.symm.trans (ij ▸ hi))))
theorem Wo{f g:Bd}(h:f.Perm g) (hk:(g.map (·.1)).Nodup) (x:Tm):e9 f x=e9 g x:=by
 have hkf:(f.map (·.1)).Nodup:=(h.map (·.1)).nodup_iff.mpr hk
 cases e:e9 f x with
 | some v=>exact(R6 hk (h.mem_iff.mp (i7 e))).symm
 | none=>exact(none_of λv e2=>g9 (j3 (R6 hkf (h.mem_iff.mpr (i7 e2)))) e).symm
theorem Ll{g g':Tm→Option Tm}{t:Tm}(h:∀a∈t.kids,g a=g' a):t4 g t=t4 g' t:=by
 cases t with
 | leaf _=>rfl
 | un k a=>exact congrArg (Option.map (Tm.un k)) (h a (.head _))
 | bin k a b =>
  refine(?_:(g a).bind (λx=>(g b).map λy=>Tm.bin k x y)=(g' a).bind λx=>(g' b).map λy=>Tm.bin k x y)
  rw[h a (.head _),h b (.tail _ (.head _))]
theorem Gp{f g:Bd}(h:∀x,e9 f x=e9 g x):∀(n:Nat) (t:Tm),F7 n f t=F7 n g t
 | 0,_=>rfl
 | n+1,t=>by
  refine(?_:(e9 f t).elim (t4 (λx=>F7 n f x) t) (λu=>F7 n f u)=(e9 g t).elim (t4 (λx=>F7 n g x) t) λu=>F7 n g u)
  rw[h t,funext (Gp h n)]
section
variable {c:Cx}{n:Nat}{Z:a5}{K:H1}{T:List Tm}{Q:V→a5→Prop}{E:a5→Prop}{H:Mt}{Ts:List C3}{Fs:List J4}{d nu at_ na:Addr}{B:Nat}{f:Bd}
noncomputable def E6(T:List Tm) (p:Tm×Tm):V:=.tup [vi (T.idxOf p.1),vi (T.idxOf p.2)]
noncomputable def Named(f:Bd) (l:Bd):Prop:=∀p∈l,(e9 f p.1).isSome=true∧(e9 f p.2).isSome=true
theorem N1.self(u:N1 K T f na Z){x:Tm}(h:(e9 f x).isSome=true):x∈T∧e9 f x=some x:=by
 obtain⟨v,hv⟩:=Option.isSome_iff_exists.mp h
 have q:=u.all _ (i7 hv)
 exact⟨q.1,hv.trans (congrArg some q.2)⟩
theorem Nf{L dk r:Bd}{p:Tm×Tm}(hk:(L.map (·.1)).Nodup) (e:L=dk++p::r):e9 dk p.1=none :=
 none_of λv h=>by
  rw[e,List.map_append] at hk
  exact(List.nodup_append.mp hk).2.2 p.1 (List.mem_map_of_mem (f:=(·.1)) (i7 h)) p.1 (.head _) rfl
structure a2f(H:Mt) (K:H1) (T:List Tm) (Ts:List C3) (Fs:List J4) (d nu at_ na:Addr) (B:Nat) (Z:a5) (dk:Bd) (T1:List Tm) (f1:Bd) (a6:a5):Prop where
 gr:Gr T T1 (130 * dk.length)
 L:P8 H K T1 Ts Fs d nu at_ B a6
 u:N1 K T1 f1 na a6
 nm:Named f1 dk
 s:d8 (CF K na) Z a6
theorem Wp{T T':List Tm}{m:Nat}(g:Gr T T' m){p:Tm×Tm}(h:p.1∈T∧p.2∈T):E6 T' p=E6 T p:=by unfold E6; rw[g.idx h.1,g.idx h.2]
theorem nJ(N:g0 c) (L:P8 H K T Ts Fs d nu at_ B Z) (u:N1 K T f na Z) (hn:na∉T8 H Ts){equal:Bd}{ea:Addr}(Ng:Z ea=some (.list (equal.map pv))) (sR:¬CF K na ea) (hE:∀p∈equal,O5 6 p.1∧O5 6 p.2) (hz2:equal.length≤2) (hz:T.length≤90000){x1 x2 x3 x4 x6 x8 x9:Option V}{tl:List (Option V)}
  (q:∀r T' f' a6,a6 r=some (.list (equal.map (E6 T')))→Gr T T' 300→P8 H K T' Ts Fs d nu at_ B a6→N1 K T' f' na a6→Named f' equal→d8 (CF K na) Z a6→Q (.ref r) a6) :
  WX c (n+18) (.comp (.tup [(.call (.con (.fix (.ref 548))) [(.attr (.loc 0) "kt"),(.loc 7),(.loc 8)]),(.call (.con (.fix (.ref 548))) [(.attr (.loc 0) "kt"),(.loc 7),(.loc 9)])]) (.two 8 9) (.loc 5) []) (gl (some (.ref d)::x1::x2::x3::x4::some (.ref ea)::x6::some (.ref na)::x8::x9::tl)) Z Q E:=by
 refine comp_map (iv:=.ref ea) pv equal (λdk acc a6=>∃T1 f1,a2f H K T Ts Fs d nu at_ na B Z dk T1 f1 a6∧acc=dk.map (E6 T1)) (Nat.le_trans hz2 (by decide)) (λdk acc a6 I=>m9 (I.elim λ_ I=>I.elim λ_ I=>I.1.s _ _ sR Ng)) ⟨T,f,⟨.refl _ _,L,u,λp hp=>(List.not_mem_nil hp).elim,.refl _ _⟩,rfl⟩ (λdk p lk acc a6 R e I hs _=>?_) λacc a6 I r hr=>?_
 ·obtain⟨T1,f1,I,rfl⟩:=I
  have hp:=hE p (G7 e)
  have zl:130 * dk.length≤260:=Nat.mul_le_mul_left 130 (Nat.le_trans (X2 e) hz2)
  have lt {j:Nat}(h:j≤1000):T.length+j < 100000:=Nat.lt_of_le_of_lt (Nat.add_le_add hz h) (by decide)
  refine T7 ?_
  refine I.L.y.kt N ?_
  refine R2 N 6 hp.1.3 hp.1.1 hp.1.2 (hp.1.fits (by decide)) I.u (Nat.lt_of_le_of_lt (Nat.add_le_add I.gr.2 (hp.1.light (by decide))) (Nat.add_assoc .. ▸ lt (Nat.le_trans (Nat.add_le_add_right zl 63) (by decide)))) λT2 f2 C2 g2 u2 s2 hm2 x2 hs2=>?_
  have L2:=I.L.kind I.u hn g2 u2 s2
  have g12:=(I.gr.trans g2).mono (Nat.add_le_add_left (hp.1.light (by decide)) _)
  refine L2.y.kt N ?_
  refine R2 N 6 hp.2.3 hp.2.1 hp.2.2 (hp.2.fits (by decide)) u2 (Nat.lt_of_le_of_lt (Nat.add_le_add g12.2 (hp.2.light (by decide))) (Nat.add_assoc .. ▸ lt (Nat.le_trans (Nat.add_le_add_right (Nat.add_le_add_right zl 63) 63) (by decide)))) λT3 f3 W8 g3 u3 s3 mK x3 hs3=>?_
  refine hs _ _ ⟨T3,f3,⟨?_,L2.kind u2 hn g3 u3 s3,u3,List.forall_mem_append.mpr ⟨λp hp=>⟨x3 _ (x2 _ (I.nm p hp).1),x3 _ (x2 _ (I.nm p hp).2)⟩,List.forall_mem_singleton.mpr ⟨x3 _ hs2,hs3⟩⟩,(I.s.trans s2).trans s3⟩,?_⟩
  ·rw[List.length_append,Nat.mul_add]
   exact(g12.trans g3).mono (Nat.le_trans (Nat.le_of_eq (Nat.add_assoc ..)) <| Nat.add_le_add_left (Nat.le_trans (Nat.add_le_add_left (hp.2.light (by decide)) 63) (by decide:63+63≤130 * 1)) _)
  ·rw[List.map_append,List.map_congr_left λp hp=>Wp (g2.trans g3) ⟨(I.u.self (I.nm p hp).1).1,(I.u.self (I.nm p hp).2).1⟩]
   exact congrArg (λi=>dk.map (E6 T1)++[V.tup [vi i,vi (T3.idxOf p.2)]]) (g3.idx hm2).symm
 ·obtain⟨T1,f1,I,rfl⟩:=I
  have s2:d8 (λ_=>False) a6 (j1 a6 r (.list (equal.map (E6 T1)))):=d8.new hr
  exact q r T1 f1 _ (a7 ..) (I.gr.mono (Nat.le_trans (Nat.mul_le_mul_left 130 hz2) (by decide))) (I.L.new s2) (I.u.same s2) I.nm (I.s.trans (s2.mono λ_ h=>h.elim))
structure PA where
 d:V
 nu:V
 at_:V
 a:V
 b:V
 ea:V
 bv:V
 na:V
 rl:V
noncomputable def Zo(A:PA) (x:Nat→Option V):List (Option V):=some A.d::some A.nu::some A.at_::some A.a::some A.b::some A.ea::some A.bv::some A.na::x 0::x 1::some A.rl::x 2::x 3::x 4::x 5::x 6::x 7::pad.drop 14
noncomputable def Qb:List S:=match t0.drop 6 with | .for _ _ b::_=>b | _=>[]
noncomputable def iZ:List S:=match Qb.drop 3 with | .ite _ a _::_=>a | _=>[]
theorem jA(N:g0 c) (u:N1 K T f na Z){fa:Addr}{f':Bd}(hfa:J3 (λt=>vi (T.idxOf t)) (λt=>vi (T.idxOf t)) f' fa Z) (hnm:Named f f') (hk:(f'.map (·.1)).Nodup) (hlt:∀p∈f',LT p.1) (hz:f'.length≤3){A:PA}(hA:A.na=.ref na){x:Nat→Option V}(hx:x 4=some (.ref fa)){Q:Fl→Loc→a5→Prop}
  (q:∀y14 a6 sa g,J3 Tm.v Tm.v g sa a6→g.Perm f'→d8 (λ_=>False) Z a6→l6 c n (iZ.drop 2) (gl (Zo A (gl [x 0,x 1,x 2,x 3,some (.ref fa),y14,x 6,some (.ref sa)]))) a6 Q E) :
  l6 c n iZ (gl (Zo A x)) Z Q E:=by
 obtain⟨d,nu,at_,a,b,ea,bv,_,rl⟩:=A
 obtain rfl:=hA
 refine(?_:l6 c n iZ (gl (Zo ⟨d,nu,at_,a,b,ea,bv,.ref na,rl⟩ (gl [x 0,x 1,x 2,x 3,x 4,x 5,x 6,x 7]))) Z Q E)
 rw[hx]
 refine f6 ?_
 refine L0 _ _ λsa hsa=>A2 ?_
 have s0:d8 (λ_=>False) Z (j1 Z sa (.dict [])):=d8.new hsa
 have a2g:=s0 _ _ id hfa
 refine Pz a2g (List.forall_mem_map.mpr λp _=>⟨_,rfl⟩) (by rw[List.length_map]; exact Nat.lt_of_le_of_lt hz (by decide)) λr ks hr hperm=>?_
 obtain⟨g,hg,rfl⟩:=Tl (f:=λp:Tm×Tm=>vi (T.idxOf p.1)) hperm f' List.map_map
 have s1:d8 (λ_=>False) (j1 Z sa (.dict [])) _:=d8.new (o:=.list (g.map λp=>vi (T.idxOf p.1))) hr
 have hrs:r≠sa:=(fresh_ne hr (a7 ..)).symm
 have e1:J3 Tm.v Tm.v [] sa _:=s1 _ _ id (a7 ..)
 have er:j1 (j1 Z sa (.dict [])) r (.list (g.map λp=>vi (T.idxOf p.1))) r=_:=a7 ..
 have tO:=s0.trans s1
 generalize j1 (j1 Z sa (.dict [])) r (.list (g.map λp=>vi (T.idxOf p.1)))=u5 at s1 e1 er tO
 have gz:g.length≤3:=hg.length_eq ▸ hz
 have hgk:(g.map (·.1)).Nodup:=(hg.map (·.1)).nodup_iff.mpr hk
 refine z8 (iv:=.ref r) (λp:Tm×Tm=>vi (T.idxOf p.1)) g (γ:=Option V) (λy=>Zo ⟨d,nu,at_,a,b,ea,bv,.ref na,rl⟩ (gl [x 0,x 1,x 2,x 3,some (.ref fa),y,x 6,some (.ref sa)])) (λdk _ a6=>d8 (·=sa) u5 a6∧J3 Tm.v Tm.v dk sa a6) (x 5) (Nat.le_trans gz (by decide)) (λdk y a6 I=>m9 (I.1 _ _ hrs er)) ⟨.refl _ _,e1⟩ (λdk p lk y a6 R e I hs _=>?_) λy a6 I=>?_
 ·have hp:=hg.mem_iff.mp (G7 e)
  have st:d8 (λ_=>False) Z a6:=λb o h eb=>I.1 b o (fresh_ne hsa eb) (tO b o h eb)
  have hn:=hnm p hp
  have fT (p:Tm×Tm) (hp:p∈f'):=(u.self (hnm p hp).1).1
  have u':=u.same st
  have uT (p:Tm×Tm) (hp:p∈f):=(u.all p hp).1
  have dk3:dk.length≤3:=Nat.le_trans (X2 e) gz
  have dT (p:Tm×Tm) (hp:p∈dk):LT p.1:=hlt p (hg.mem_iff.mp (e ▸ List.mem_append_left _ hp))
  refine D4 ?_
  have hfa':J3 (λt=>vi (T.idxOf t)) (λt=>vi (T.idxOf t)) f' fa a6:=st _ _ id hfa
  refine hfa'.sub v5 fT (fT p hp) (R6 hk hp) ?_
  refine u'.nd.sub v5 uT (u.self hn.2).1 (u.self hn.2).2 ?_
  refine u'.nd.sub v5 uT (u.self hn.1).1 (u.self hn.1).2 ?_
  refine I.2.Pe (k:=p.1) (v:=p.2) Aq dT (Nat.le_trans dk3 (by decide)) (hlt p hp) λC2 e2 n2=>j9 ?_
  rw[Kd (Nf hgk e)] at e2
  exact(hs (some (vi (T.idxOf p.1))) C2 ⟨I.1.trans (d8.of n2 rfl),e2⟩).1
 ·exact q y a6 sa g I.2 hg λb o h eb=>I.1 b o (fresh_ne hsa eb) (tO b o h eb)
end
noncomputable def tM:Tm:=.leaf (.mvar 0)
noncomputable def V3:List Tm:=[tX,tY,tM]
theorem C6{t:Tm}(h:t.A3=true) (hv:t.hd.isVar=true):t∈V3∧∃g,t=.leaf g:=by
 cases t with
 | leaf g=>exact⟨(by decide +kernel:∀g∈Au,g.isVar=true→Tm.leaf g∈V3) g (in_of h) hv,g,rfl⟩
 | un g a=>exact an h λh _=>no ((((by decide +kernel:∀g∈kH,g.isVar=false) g (in_of h)).symm.trans hv))
 | bin g a b=>exact an h λh _=>an h λh _=>no ((congrArg Hd.isVar (beq_iff_eq.mp h)).symm.trans hv)
theorem jB{t:Tm}(h:t.A3=true) (hv:t.hd.isVar=true):t.v=.tup [one t.hd.cd]:=(C6 h hv).2.elim λg e=>e ▸ rfl
section
variable {c:Cx}{n:Nat}{Z:a5}{T:List Tm}{E:a5→Prop}{A:PA}{Q:Fl→Loc→a5→Prop}
theorem jC(N:g0 c){rl:Addr}{p0:Tm×Tm}{rest:Bd}(hr:Z rl=some (.list ((p0::rest).map (E6 T)))) (hT:∀p∈rest,p.1∈T∧p.2∈T) (hk:(rest.map (·.1)).Nodup) (hz:rest.length≤1) (hA:A.rl=.ref rl){x:Nat→Option V}
  (q:∀y5 y6 a6 fd,Z fd=none→d8 (λ_=>False) Z a6→J3 (λt=>vi (T.idxOf t)) (λt=>vi (T.idxOf t)) rest fd a6→l6 c n (Qb.drop 2) (gl (Zo A (gl [x 0,x 1,x 2,x 3,some (.ref fd),y5,y6,x 7]))) a6 Q E) :
  l6 c n Qb (gl (Zo A x)) Z Q E:=by
 obtain⟨d,nu,at_,a,b,ea,bv,na,_⟩:=A
 obtain rfl:=hA
 refine f6 ?_
 refine L0 _ _ λfd hfd=>A2 ?_
 have s0:d8 (λ_=>False) Z (j1 Z fd (.dict [])):=d8.new hfd
 refine⟨_,s0 _ _ id hr,by rw[List.length_map]; exact Nat.le_trans (Nat.succ_le_succ hz) (by decide),.inr rfl,λr hr1=>?_⟩
 refine(?_:tA _ _ _ _ _ _ _ _ _ (j1 _ r (.list (rest.map (E6 T)))))
 have s1:d8 (λ_=>False) (j1 Z fd (.dict [])) _:=d8.new (o:=.list (rest.map (E6 T))) hr1
 have hne:r≠fd:=(fresh_ne hr1 (a7 ..)).symm
 have e1:J3 (λt=>vi (T.idxOf t)) (λt=>vi (T.idxOf t)) [] fd _:=s1 _ _ id (a7 ..)
 have er:j1 (j1 Z fd (.dict [])) r (.list (rest.map (E6 T))) r=_:=a7 ..
 have tO:=s0.trans s1
 generalize j1 (j1 Z fd (.dict [])) r (.list (rest.map (E6 T)))=u5 at s1 e1 er tO
 refine z8 (iv:=.ref r) (E6 T) rest (γ:=Option V×Option V) (λy=>Zo ⟨d,nu,at_,a,b,ea,bv,na,.ref rl⟩ (gl [x 0,x 1,x 2,x 3,some (.ref fd),y.1,y.2,x 7])) (λdk _ a6=>d8 (·=fd) u5 a6∧J3 (λt=>vi (T.idxOf t)) (λt=>vi (T.idxOf t)) dk fd a6) (x 5,x 6) (Nat.le_trans hz (by decide)) (λdk y a6 I=>m9 (I.1 _ _ hne er)) ⟨.refl _ _,e1⟩ (λdk p lk y a6 R e I hs _=>D4 ?_) λy a6 I=>?_
 ·have hp:=hT p (G7 e)
  refine I.2.Pe (k:=p.1) (v:=p.2) v5 (λq hq=>(hT q (e ▸ List.mem_append_left _ hq)).1) (Nat.le_trans (X2 e) (Nat.le_trans hz (by decide))) hp.1 λC2 e2 n2=>j9 ?_
  rw[Kd (Nf hk e)] at e2
  exact(hs (some (vi (T.idxOf p.1)),some (vi (T.idxOf p.2))) C2 ⟨I.1.trans (d8.of n2 rfl),e2⟩).1
 ·exact q y.1 y.2 a6 fd hfd (λb o h eb=>I.1 b o (fresh_ne hfd eb) (tO b o h eb)) I.2
theorem eq_self{t:Tm}(h:t.nest≤60){R:Bool→Prop}(q:R true):EQ t.v t.v Z R:=by
 have k:=Pj h
 obtain⟨l,e⟩:=gW t
 rw[e] at k ⊢
 exact⟨.inl ⟨k,k⟩,(decide_eq_true rfl:decide (V.tup l=V.tup l)=true).symm ▸ q⟩
theorem ne_self{t:Tm}(h:t.nest≤60){R:Bool→Prop}(q:R false):Uh c .NotEq t.v t.v Z R:=eq_self (R:=λb=>R (!b)) h q
theorem Wq{boss:Bd}(h:∀p∈boss,LT p.1):((boss.map λp=>(p.1.v,p.2.v)).map (·.1)).filter (M6 "xym")=(boss.filter λp=>p.1.hd.isVar).map λp=>p.1.v:=by
 rw[List.map_map]
 refine List.filter_map.trans (congrArg (List.map _) (List.filter_congr λp hp=>?_))
 refine(?_:M6 "xym" p.1.v=p.1.hd.isVar)
 rw[I7 p.1,←hY p.1.hd (E1 (h p hp).1)]
 exact Me
theorem jD(N:g0 c){boss equal g:Bd}{ea ba sa:Addr}(Ng:Z ea=some (.list (equal.map pv))) (xM:J3 Tm.v Tm.v boss ba Z) (yX:∀p∈boss,LT p.1) (hbz:boss.length≤1000) (hsa:J3 Tm.v Tm.v g sa Z) (yY:∀p∈g,LT p.1∧LT p.2) (hgz:g.length≤3) (hE:∀p∈equal,LT p.1∧LT p.2) (hez:equal.length≤2) (hF:sQ boss g equal) (hA:A.ea=.ref ea) (hA':A.bv=.ref ba){x:Nat→Option V}(hx:x 7=some (.ref sa))
  (q:∀y0 y1 a6,d8 (λ_=>False) Z a6→Q .next (gl (Zo A (gl [y0,y1,x 2,x 3,x 4,x 5,x 6,some (.ref sa)]))) a6) :
  l6 c (n+172) (iZ.drop 2) (gl (Zo A x)) Z Q E:=by
 obtain⟨d,nu,at_,a,b,_,_,na,rl⟩:=A
 obtain rfl:=hA
 obtain rfl:=hA'
 refine(?_:l6 c (n+172) (iZ.drop 2) (gl (Zo ⟨d,nu,at_,a,b,.ref ea,.ref ba,na,rl⟩ (gl [x 0,x 1,x 2,x 3,x 4,x 5,x 6,x 7]))) Z Q E)
 rw[hx]
 have gz:g.length≤1000000:=Nat.le_trans hgz (by decide)
 refine f9 ?_
 refine Qa hsa (List.forall_mem_map.mpr λp hp=>⟨_,jB (yY p hp).1.1 (hF.var p hp)⟩) (by rw[List.length_map]; exact hgz) λr ks hr hks hkl=>?_
 have s1:d8 (λ_=>False) Z (j1 Z r (.list ks)):=d8.new hr
 have er:j1 Z r (.list ks) r=_:=a7 ..
 generalize j1 Z r (.list ks)=u5 at s1 er
 rw[List.length_map] at hkl
 refine comp_map (iv:=.ref r) id ks (λdk acc a6=>a6=u5∧acc=[]) (hkl ▸ gz) (λdk acc a6 I=>by rw[I.1,List.map_id]; exact m9 er) ⟨rfl,rfl⟩ (λdk k lk acc a6 R e I _ hn=>?_) λacc a6 I r2 hr2=>?_
 ·have hk:=hks k (G7 e)
  rw[List.map_map] at hk
  obtain⟨p,hp,rfl⟩:=List.mem_map.mp hk
  refine I9 ?_
  refine Wf (yY p hp).1 ?_
  rw[hF.var p hp]
  exact S4 (S4 (hn _ I))
 obtain⟨rfl,rfl⟩:=I
 have s2:d8 (λ_=>False) a6 (j1 a6 r2 (.list [])):=d8.new hr2
 have s12:=s1.trans s2
 refine I6 (a7 ..) (Nat.zero_le _) (Oy (λh=>h rfl) (f9 ?_))
 generalize j1 a6 r2 (.list [])=C2 at s2 s12
 have a2h:J3 Tm.v Tm.v g sa C2:=s12 _ _ id hsa
 refine V4 a2h (by rw[List.length_map]; exact gz) ?_
 refine⟨_,_,rfl,s12 _ _ id xM,by rw[List.length_map]; exact hbz,List.forall_mem_map.mpr λp hp=>⟨Pj (yX p hp).2,_,_,I7 p.1⟩,λr3 yO=>?_⟩
 rw[Wq yX]
 have s3:d8 (λ_=>False) C2 (j1 C2 r3 (.list ((boss.filter λp=>p.1.hd.isVar).map λp=>p.1.v))):=d8.new yO
 have zb:((boss.filter λp=>p.1.hd.isVar).map λp=>p.1.v).length=(g.map λp=>(p.1.v,p.2.v)).length:=by rw[List.length_map,List.length_map,hF.len]
 refine t7 (a7 ..) (zb ▸ by rw[List.length_map]; exact gz) ?_
 rw[zb]
 refine T4 (congrArg not (decide_eq_true rfl)) (A2 ?_)
 have xN:=s12.trans s3
 generalize j1 C2 r3 (.list ((boss.filter λp=>p.1.hd.isVar).map λp=>p.1.v))=W8 at s3 xN
 refine z8 (iv:=.ref ea) pv equal (γ:=Option V×Option V) (λy=>Zo ⟨d,nu,at_,a,b,.ref ea,.ref ba,na,rl⟩ (gl [y.1,y.2,x 2,x 3,x 4,x 5,x 6,some (.ref sa)])) (λdk _ a6=>d8 (λ_=>False) Z a6) (x 0,x 1) (Nat.le_trans hez (by decide)) (λdk y a6 I=>m9 (I _ _ id Ng)) xN (λdk p lk y a6 R e I hs _=>f9 ?_) λy a6 I=>j9 (q y.1 y.2 a6 I)
 obtain⟨t,h1,h2,ht⟩:=hF.full p (G7 e)
 have hp:=hE p (G7 e)
 refine Hr N yY 170 h1 (I _ _ id hsa) hp.1 λHo s4=>?_
 refine Hr N yY 170 h2 ((I.trans s4) _ _ id hsa) hp.2 λYp s5=>?_
 refine ne_self ht ?_
 exact S4 (j9 (hs (some p.1.v,some p.2.v) _ ((I.trans s4).trans s5)).1)
end
inductive Ar(Z:a5):Option Bd→V→Prop
 | none:Ar Z none .none
 | some {boss:Bd}{ba:Addr}(d:J3 Tm.v Tm.v boss ba Z) (l:∀p∈boss,LT p.1) (z:boss.length≤1000):Ar Z (some boss) (.ref ba)
theorem Ar.same{Z a6:a5}{res:Option Bd}{bv:V}{F:Addr→Prop}(h:Ar Z res bv) (s:d8 F Z a6) (hF:∀ba,bv=.ref ba→¬F ba):Ar a6 res bv:=match h with
 | .none=>.none
 | .some d l z=>.some (s _ _ (hF _ rfl) d) l z
theorem Ar.pU{c:Cx}{Z a6:a5}{res:Option Bd}{bv:V}(h:Ar Z res bv){R:Bool→Prop}(q:R res.isSome):Uh c .IsNot bv .none a6 R:=match h with
 | .none=>⟨rfl,q⟩
 | .some ..=>⟨rfl,q⟩
theorem ne_bool{c:Cx}{Z:a5}{b:Bool}{R:Bool→Prop}(q:R false):Uh c .NotEq (.bool b) (.bool b) Z R :=
 ⟨.inr ⟨_,_,rfl,rfl⟩,(decide_eq_true rfl:decide (V.bool b=V.bool b)=true).symm ▸ q⟩
theorem sQ.perm{boss f' g equal:Bd}(h:sQ boss f' equal) (hg:g.Perm f') (hk:(f'.map (·.1)).Nodup):sQ boss g equal :=
 have e:=Gp (Wo hg hk) 170
 ⟨λp hp=>h.var p (hg.mem_iff.mp hp),hg.length_eq.trans h.len,λp hp=>(h.full p hp).imp λt q=>⟨(e _).trans q.1,(e _).trans q.2.1,q.2.2⟩⟩
section
variable {c:Cx}{n:Nat}{Z:a5}{K:H1}{T:List Tm}{E:a5→Prop}{H:Mt}{Ts:List C3}{Fs:List J4}{d nu at_ na:Addr}{B:Nat}{f:Bd}
theorem nK(N:g0 c) (L:P8 H K T Ts Fs d nu at_ B Z) (u:N1 K T f na Z){p0:Tm×Tm}{rest:Bd}{ea rl:Addr}{bv:V}{res:Option Bd}(Ng:Z ea=some (.list ((p0::rest).map pv))) (hrl:Z rl=some (.list ((p0::rest).map (E6 T)))) (hbv:Ar Z res bv) (hE:∀p∈p0::rest,LT p.1∧LT p.2) (hnm:Named f (p0::rest)) (hrk:(rest.map (·.1)).Nodup) (hrz:rest.length≤1)
  {x y:Tm}(hxy:((e9 f x).isSome=true∧LT x)∧(e9 f y).isSome=true∧LT y){f':Bd}(hu:B9 110 rest x y=some (res.isSome,f')) (hok:∀boss,res=some boss→sQ boss f' (p0::rest))
  {v1 v2 v3 v4:V}{xs:Nat→Option V}{Q:Fl→Loc→a5→Prop}(q:∀xs' a6,d8 (λ_=>False) Z a6→Q .next (gl (Zo ⟨.ref d,v1,v2,v3,v4,.ref ea,bv,.ref na,.ref rl⟩ xs')) a6) :
  l6 c (n+190) Qb (gl (Zo ⟨.ref d,v1,v2,v3,v4,.ref ea,bv,.ref na,.ref rl⟩ (gl [xs 0,xs 1,some (vi (T.idxOf x)),some (vi (T.idxOf y)),xs 4,xs 5,xs 6,xs 7]))) Z Q E:=by
 have rN:∀p∈rest,(e9 f p.1).isSome=true∧(e9 f p.2).isSome=true:=λp hp=>hnm p (.tail _ hp)
 have rT:∀p∈rest,p.1∈T∧p.2∈T:=λp hp=>⟨(u.self (rN p hp).1).1,(u.self (rN p hp).2).1⟩
 have a2i:Named f f':=So (D:=λt=>(e9 f t).isSome=true) (λt ht a ha=>u.clo _ (i7 (u.self ht).2) a ha) hu rN hxy.1.1 hxy.2.1
 have sS:∀p∈f',LT p.1∧LT p.2:=So (D:=LT) (λt ht a ha=>ht.kid ha) hu (λp hp=>hE p (.tail _ hp)) hxy.1.2 hxy.2.2
 have sT:=Wn hu hrk
 refine jC N hrl rT hrk hrz rfl λy5 y6 u5 fd hfd s1 a2j=>f9 ?_
 have L1:=L.new s1
 have U:Vr K T d H.st rest fd u5:=⟨L1.k,L1.y,a2j,λe=>g9 (j3 L.k.index) (e ▸ hfd),rT⟩
 refine Yz N 110 U hu (u.self hxy.1.1).1 (u.self hxy.2.1).1 λC2 U2 s2=>?_
 refine vX (l8 rfl (k7 ?_))
 refine hbv.pU ?_
 refine ne_bool (S4 (f9 ?_))
 have s12:d8 (λ_=>False) Z C2:=λb o _ e=>s2 b o (fresh_ne hfd e) (s1 b o id e)
 refine C1 (l8 rfl (k7 ?_))
 refine hbv.pU ?_
 match hbv,hok with
 | .none,_=>exact S4 (j9 (q _ C2 s12))
 | .some d l z,hok =>
  have hF:=hok _ rfl
  have z3:f'.length≤3:=(List.length_map (as:=f') _) ▸ sT.length_le_of_subset (λx hx=>(List.mem_map.mp hx).elim λp q=>q.2 ▸ (C6 (sS p q.1).1.1 (hF.var p q.1)).1:f'.map (·.1) ⊆ V3)
  refine T7 ?_
  refine jA N (u.same s12) U2.fd a2i sT (λp hp=>(sS p hp).1) z3 rfl rfl λy14 W8 sa g hsa hg s3=>?_
  have s13:=s12.trans s3
  exact jD (n:=n+18) N (s13 _ _ id Ng) (s13 _ _ id d) l z hsa (λp hp=>sS p (hg.mem_iff.mp hp)) (hg.length_eq ▸ z3) hE (Nat.succ_le_succ hrz) (hF.perm hg sT) rfl rfl rfl λy0 y1 Ho s4=>q _ Ho (s13.trans s4)
end
theorem Hu:∀{z:Tm},Uj (.var 1) (l4 [(tY,tI)] z)=false
 | .leaf h=>by
  by_cases e:tY=.leaf h
  ·obtain rfl:Hd.var 1=h:=congrArg Tm.hd e; decide +kernel
  ·have q:l4 [(tY,tI)] (.leaf h)=.leaf h:=congrArg (λo:Option Tm=>o.getD (.leaf h)) (none_of λu q=>e (congrArg Prod.fst (List.mem_singleton.mp (i7 q))).symm:e9 [(tY,tI)] (.leaf h)=none)
   rw[q]; exact decide_eq_false λz=>e (congrArg Tm.leaf z.symm)
 | .un h a=>(congrArg (λo:Option Tm=>Uj (.var 1) (o.getD _)) (none_of λu q=>(nomatch congrArg Prod.fst (List.mem_singleton.mp (i7 q))):e9 [(tY,tI)] (.un h a)=none)).trans (Hu (z:=a))
 | .bin h a b=>(congrArg (λo:Option Tm=>Uj (.var 1) (o.getD _)) (none_of λu q=>(nomatch congrArg Prod.fst (List.mem_singleton.mp (i7 q))):e9 [(tY,tI)] (.bin h a b)=none)).trans (congr (congrArg or (Hu (z:=a))) (Hu (z:=b)))
section
variable {c:Cx}{n:Nat}{Z:a5}{K:H1}{T:List Tm}{Q:V→a5→Prop}{E:a5→Prop}{H:Mt}{Ts:List C3}{Fs:List J4}{d nu at_ na:Addr}{B:Nat}{f:Bd}
structure Gq(a b:Tm) (rest:Bd):Prop where
 a:O5 6 a
 b:O5 6 b
 r:Rest rest
section
variable {a b:Tm}{rest:Bd}
theorem Gq.all(P:Gq a b rest):∀p∈(a,b)::rest,O5 6 p.1∧O5 6 p.2:=List.forall_mem_cons.mpr ⟨⟨P.a,P.b⟩,P.r.elim (λe=>e ▸ λ_ h=>(List.not_mem_nil h).elim) λh=>h.elim λz h=>h.2.2 ▸ List.forall_mem_singleton.mpr ⟨(X8 (by decide +kernel)).1.mono (by decide),h.1.mono (by decide)⟩⟩
theorem Gq.len(P:Gq a b rest):rest.length≤1:=P.r.elim (λe=>e ▸ Nat.zero_le 1) λh=>h.elim λz h=>h.2.2 ▸ Nat.le_refl 1
theorem Gq.keys(P:Gq a b rest):(rest.map (·.1)).Nodup:=P.r.elim (λe=>e ▸ .nil) λh=>h.elim λz h=>h.2.2 ▸ List.nodup_cons.mpr ⟨List.not_mem_nil,.nil⟩
end
theorem Zp(N:g0 c) (L:P8 H K T Ts Fs d nu at_ B Z){a b:Tm}{rest:Bd}(P:Gq a b rest){ea:Addr}(Ng:Z ea=some (.list (((a,b)::rest).map pv))) (sR:¬K.F ea) (hz:T.length≤90000){bv:V}{res:Option Bd}(hbv:Ar Z res bv) (obv:∀ba,bv=.ref ba→¬K.F ba)
  (hu:∀x y,(x=a∧y=b∨x=b∧y=a)→∃f',B9 110 rest x y=some (res.isSome,f')∧∀boss,res=some boss→sQ boss f' ((a,b)::rest)){v1 v2 v3 v4:V}
  (q:∀T' a6,Gr T T' 300→P8 H K T' Ts Fs d nu at_ B a6→d8 K.F Z a6→Q (.bool true) a6) :
  l6 c (n+190) (t0.drop 4) (gl (some (.ref d)::some v1::some v2::some v3::some v4::some (.ref ea)::some bv::pad.drop 4)) Z (s9 Q) E:=by
 refine f6 ?_
 refine L0 _ _ λna hna=>f6 ?_
 have s1:d8 (λ_=>False) Z (j1 Z na (.dict [])):=d8.new hna
 have L1:=L.new s1
 have u1:N1 K T [] na (j1 Z na (.dict [])):=⟨L1.k,a7 ..,λh=>L.k.off hna (.inr (.inl h)),λ_ h=>(List.not_mem_nil h).elim,.nil,λ_ h=>(List.not_mem_nil h).elim⟩
 have cf {x:Addr}{o:j8}(h:¬K.F x) (e:Z x=some o):¬CF K na x:=λz=>z.elim h (fresh_ne hna e)
 refine nJ (n:=n+172) N L1 u1 (L.s.out hna) (s1 _ _ id Ng) (cf sR Ng) P.all (Nat.succ_le_succ P.len) hz λrl T3 f3 W8 erl g3 L3 u3 hnm s3=>A2 ?_
 have a2l:Ar W8 res bv:=match hbv,obv with
  | .none,_=>.none
  | .some d l z,o=>.some (s3 _ _ (cf (o _ rfl) d) (s1 _ _ id d)) l z
 have a2m:=s3 _ _ (cf sR Ng) (s1 _ _ id Ng)
 have row {R:V→Prop}(q:R (E6 T3 (a,b))):Ei (.ref rl) (.int 0) W8 R:=A1 (k:=0) erl (by decide) rfl q
 refine row ?_
 refine row ?_
 refine k7 ?_
 refine Py (i:=1) (l:=[vi (T3.idxOf a),vi (T3.idxOf b)]) (by decide:2≤1000000) rfl ?_
 refine row ?_
 refine k7 ?_
 refine Py (i:=0) (l:=[vi (T3.idxOf a),vi (T3.idxOf b)]) (by decide:2≤1000000) rfl ?_
 refine z8 (iv:=.tup [E6 T3 (a,b),E6 T3 (b,a)]) (E6 T3) [(a,b),(b,a)] (γ:=Nat→Option V) (Zo ⟨.ref d,v1,v2,v3,v4,.ref ea,bv,.ref na,.ref rl⟩) (λ_ _ a6=>d8 (λ_=>False) W8 a6) (λ_=>none) (by decide:2≤1000000) (λ_ _ _ _=>rfl) (.refl _ _) (λdk p lk x a6 R e I hs _=>?_) λx a6 I=>f7 ?_
 ·have hxy:p.1=a∧p.2=b∨p.1=b∧p.2=a:=(List.mem_cons.mp (G7 e)).elim (λe=>e ▸ .inl ⟨rfl,rfl⟩) λh=>List.mem_singleton.mp h ▸ .inr ⟨rfl,rfl⟩
  obtain⟨f',h1,h2⟩:=hu p.1 p.2 hxy
  have hn:=hnm (a,b) (.head _)
  have ha:(e9 f3 a).isSome=true∧LT a:=⟨hn.1,P.a.lt (by decide)⟩
  have hb:(e9 f3 b).isSome=true∧LT b:=⟨hn.2,P.b.lt (by decide)⟩
  have hh:((e9 f3 p.1).isSome=true∧LT p.1)∧(e9 f3 p.2).isSome=true∧LT p.2:=hxy.elim (λe=>by rw[e.1,e.2]; exact⟨ha,hb⟩) λe=>by rw[e.1,e.2]; exact⟨hb,ha⟩
  exact nK N (L3.new I) (u3.same I) (I _ _ id a2m) (I _ _ id erl) (a2l.same I λ_ _=>id) (λp hp=>⟨(P.all p hp).1.lt (by decide),(P.all p hp).2.lt (by decide)⟩) hnm P.keys P.len hh h1 h2 (xs:=x) λx' Ho s4=>(hs x' Ho (I.trans s4)).1
 ·exact q T3 a6 g3 (L3.new I) λb o h eb=>I b o id (s3 b o (cf h eb) (s1 b o id eb))
theorem Zq(N:g0 c) (PM:X9) (L:P8 H K T Ts Fs d nu at_ B Z){a b:Tm}{rest:Bd}(P:Gq a b rest){ea:Addr}(Ng:Z ea=some (.list (((a,b)::rest).map pv))) (sR:¬K.F ea) (hz:T.length≤90000){v1 v2 v3 v4:V}
  (q:∀T' a6,Gr T T' 300→P8 H K T' Ts Fs d nu at_ B a6→d8 K.F Z a6→Q (.bool true) a6) :
  l6 c (n+190) (t0.drop 3) (gl (some (.ref d)::some v1::some v2::some v3::some v4::some (.ref ea)::pad.drop 3)) Z (s9 Q) E:=by
 obtain⟨res,hj,yX,hu⟩:=PM a b P.a P.b rest P.r
 have fin {a6:a5}(s:d8 (λ_=>False) Z a6) (T':List Tm) (Bj:a5) (g:Gr T T' 300) (L':P8 H K T' Ts Fs d nu at_ B Bj) (s':d8 K.F a6 Bj):Q (.bool true) Bj:=q T' Bj g L' ((s.mono λ_ h=>h.elim).trans s')
 refine f6 ?_
 refine sC (n:=n+37) N Ng (λp hp=>⟨(P.all p hp).1.lt (by decide),(P.all p hp).2.lt (by decide)⟩) (Nat.le_refl 10000) (by decide) (Nat.le_trans (Nat.succ_le_succ P.len) (by decide)) hj (λhres u5 s1=>?_) λboss hres u5 ba s1 hba hd hl=>?_
 ·exact Zp (bv:=.none) N (L.new s1) P (s1 _ _ id Ng) sR hz (hres ▸ .none) (λ_ h=>nomatch h) hu (fin s1)
 ·exact Zp N (L.new s1) P (s1 _ _ id Ng) sR hz (hres ▸ .some hd (λp hp=>(hl p hp).1) (yX boss hres)) (λ_ h=>V.ref.inj h ▸ L.k.off hba) hu (fin s1)
theorem Tn(N:g0 c) (PM:X9) (L:P8 H K T Ts Fs d nu at_ B Z) (hB:B+200≤1000000) (hz:T.length≤90000)
  (q:∀T' a6,Gr T T' 300→P8 H K T' Ts Fs d nu at_ (B+200) a6→Q (.bool true) a6):i3 c (n+191) (.fix (.ref 598)) [.ref d,.ref nu,.ref at_] Z Q E:=by
 have room {j:Nat}(h:j≤200):B+j≤1000000:=Nat.le_trans (Nat.add_le_add_left h B) hB
 refine N.fn N.C.Jl rfl (fR ?_)
 refine sE (n:=n+170) N L.dr (room (by decide)) λa b ha hb u5 d1 s1=>f6 λea Ng=>f9 ?_
 have L1:=L.draw d1 s1
 have s2:d8 (λ_=>False) u5 (j1 u5 ea (.list [pv (a,b)])):=d8.new Ng
 have L2:=L1.new s2
 refine N0 N L2.dr (room (by decide:100≤200)) (k:=3) (by decide) λr hr W8 d3 s3=>?_
 have L3:=L2.draw d3 s3
 have oF:=L1.k.off Ng
 have oA:ea≠at_:=λe=>(L1.dr.lst at_ (.tail _ (.head _))).elim λ_ h=>g9 (j3 h) (e ▸ Ng)
 have e3:W8 ea=some (.list [pv (a,b)]):=s3 _ _ oA (a7 ..)
 refine K6 (λ_=>n8 ⟨_,.append e3,?_⟩) λ_=>Zq N PM L3 ⟨ha,hb,.inl rfl⟩ e3 oF hz λT' a6 g L' s'=>q T' a6 g (L'.mono (Nat.add_le_add_left (by decide:101≤200) B))
 refine Bm (n:=n+186) N 1 L3.dr (room (by decide:104≤200)) λz hzd Ho d4 s4=>?_
 have L4:=L3.draw d4 s4
 have tz:=O6 hzd
 have d5:=Po (bd:=[(tY,tI)]) (vs:=[.tup [.str "y"],.tup [.str "i"]]) (by
  refine(?_:_=[(tY.v,tI.v)])
  rw[yP,v_I]; rfl) (List.forall_mem_singleton.mpr (R4 (by decide +kernel))) (List.pairwise_singleton ..)
 refine λr5 bT=>⟨a7 ..,d5.1,?_⟩
 generalize hD:G4 [] (z9 _)=D
 obtain rfl:=hD.symm.trans d5.2
 rw[C9]
 have db5:J3 Tm.v Tm.v [(tY,tI)] r5 (j1 Ho r5 (.dict ([(tY,tI)].map λp=>(p.1.v,p.2.v)))):=a7 ..
 have s5:d8 (λ_=>False) Ho _:=d8.new (o:=.dict ([(tY,tI)].map λp=>(p.1.v,p.2.v))) bT
 refine Kc (n:=n+186) N (f:=[(tY,tI)]) (List.forall_mem_singleton.mpr (R4 (by decide +kernel))) 2 tz.1.3 db5 (tz.1.lt (by decide)) λSw s6=>?_
 have t1:=R3 (f:=[(tY,tI)]) (k:=1) (by decide) (List.forall_mem_singleton.mpr (X8 (by decide +kernel))) (List.forall_mem_singleton.mpr ⟨_,rfl⟩) tz.1.1 tz.1.2
 have hny:=Hu (z:=z)
 have tz2:O5 2 (l4 [(tY,tI)] z):=⟨t1.1,t1.2,Nat.le_of_succ_le_succ (Nat.le_trans t1.3 (Nat.add_le_add_right tz.1.3 1))⟩
 generalize l4 [(tY,tI)] z=z' at tz2 hny
 have L6:=L4.new (s5.trans s6)
 have e6:Sw ea=some (.list [pv (a,b)]):=(s5.trans s6) _ _ id (s4 _ _ oA e3)
 refine o6 e6 (by decide:1≤1000000) ?_
 have e7:j1 Sw ea (.list ([pv (a,b)]++[.tup [.tup [.str "y"],z'.v]])) ea=some (.list (((a,b)::[(tY,z')]).map pv)):=(a7 ..).trans (congrArg (λy=>some (j8.list [pv (a,b),V.tup [y,z'.v]])) yP.symm)
 have n7 (x:Addr) (hx:x≠ea):j1 Sw ea (.list ([pv (a,b)]++[.tup [.tup [.str "y"],z'.v]])) x=Sw x:=i8 hx
 generalize j1 Sw ea (.list ([pv (a,b)]++[.tup [.tup [.str "y"],z'.v]]))=mR at e7 n7
 have p7:=n0 e6
 have L7:P8 H K T Ts Fs d nu at_ _ mR:=L6.move (.refl _ 0) (L6.k.keep (F:=(·=ea)) (d8.of n7 rfl) (λb hb=>hb ▸ oF) p7) (d8.of n7 rfl:d8 (·=ea) Sw mR) p7 (λx hx e=>L1.s.out Ng (e ▸ hx)) λx hx e=>(L1.dr.lst x hx).elim λ_ h=>g9 (j3 h) (e ▸ Ng)
 exact Zq N PM L7 ⟨ha,hb,.inr ⟨z',tz2,hny,rfl⟩⟩ e7 oF hz λT' a6 g L' s'=>q T' a6 g (L'.mono (Nat.add_le_add_left (by decide:104≤200) B))
end
theorem Zr:∀{names:List Str}{vals:List V}{i:Nat}{x:Str}{v:V},names.Nodup→names[i]?=some x→i < vals.length→aI (names.zip vals) x v=names.zip (vals.set i v)
 | [],_,_,_,_,_,h,_=>by cases h
 | _::_,[],_,_,_,_,_,h=>absurd h (Nat.not_lt_zero _)
 | y::r,u::vals,0,x,v,hd,h,_=>by
  obtain rfl:=Option.some.inj h
  exact if_pos rfl
 | y::r,u::vals,i+1,x,v,hd,h,hi=>by
  refine(if_neg λe=>?_).trans (congrArg (List.cons (y,u)) (Zr (List.nodup_cons.mp hd).2 h (Nat.lt_of_succ_lt_succ hi)))
  exact(List.nodup_cons.mp hd).1 (e ▸ List.mem_of_getElem? h)
section
variable {c:Cx}{n:Nat}{Bs Z:a5}{E:a5→Prop}{Q:V→a5→Prop}{st dx kt kx r i d w o ty fl mt nm am r0 tz:Addr}
noncomputable def Wr(st dx kt kx r i d w o ty fl mt nm am r0 tz:Addr):List Addr:=[st,dx,kt,kx,r,i,d,w,o,ty,fl,mt,nm,am,r0,tz]
noncomputable def xO(dx kt kx r i d w o fl mt nm am tz:Addr):List j8:=.inst 324 dx::.ns (Q8.zip [.ref kt,.ref tz,.ref fl,.ref mt,.ref nm,.ref am,vi 0])::(sF 16 kx r i d w o++[.list [.none],.list [.none],.list [.none],.dict [],.list [],.list [.none],.list (List.replicate 64 .none)])
variable (B:Bl Bs (Wr st dx kt kx r i d w o ty fl mt nm am r0 tz) (xO dx kt kx r i d w o fl mt nm am tz) Z)
include B
theorem Bl.a2n:i5 ⟨kt,kx,r,i,d,w,o⟩ T0 Z:=by
 refine i5.of (λk a ob ha ho=>?_) (B.nd.sublist (.cons _ (.cons _ (List.sublist_append_left [kt,kx,r,i,d,w,o] [ty,fl,mt,nm,am,r0,tz]))))
 have hk:k < [kt,kx,r,i,d,w,o].length:=(List.getElem?_eq_some_iff.mp ha).1
 refine B.has (k+2) ?_ ?_
 ·exact(List.getElem?_append_left hk).trans ha
 ·exact(List.getElem?_append_left (show k < (sF 16 kx r i d w o).length from hk)).trans ho
omit B in
theorem pV{b:Addr}(h:(⟨kt,kx,r,i,d,w,o⟩:H1).F b):∃k∈[4,5,6,7,8],(Wr st dx kt kx r i d w o ty fl mt nm am r0 tz)[k]?=some b:=by
 rcases h with e | e | e | e | e<;>subst e
 ·exact⟨4,by decide,rfl⟩
 ·exact⟨5,by decide,rfl⟩
 ·exact⟨6,by decide,rfl⟩
 ·exact⟨7,by decide,rfl⟩
 ·exact⟨8,by decide,rfl⟩
omit B in
theorem jE{b:Addr}(h:b∈T8 ⟨st,dx,tz,fl,nm⟩ []):∃j∈[15,10,12],(Wr st dx kt kx r i d w o ty fl mt nm am r0 tz)[j]?=some b :=
 (List.mem_cons.mp h).elim (λe=>⟨15,by decide,e ▸ rfl⟩) λh=>(List.mem_cons.mp h).elim (λe=>⟨10,by decide,e ▸ rfl⟩) λh=>(List.mem_singleton.mp h) ▸ ⟨12,by decide,rfl⟩
theorem Bl.a2o:E9 ⟨st,dx,tz,fl,nm⟩ ⟨kt,kx,r,i,d,w,o⟩ T0 [] [] Z where
 st:=.mk (B.has 0 rfl rfl) (B.has 1 rfl rfl) rfl rfl rfl rfl
 types:=(B.has 15 rfl rfl).trans rfl
 fields:=B.has 10 rfl rfl
 tys:=λi t e=>nomatch e
 fds:=λ_ h=>(List.not_mem_nil h).elim
 apart:=λb hb hF=>(jE hb).elim λj hj=>(pV hF).elim λk hk=>(by decide +kernel:∀j∈[15,10,12],∀k∈[4,5,6,7,8],j≠k) j hj.1 k hk.1 (O7 B.nd hj.2 hk.2)
 X1:=λ_ h=>(List.not_mem_nil h).elim
 few:=⟨Nat.zero_le _,Nat.zero_le _⟩
 kG:=⟨[],B.has 12 rfl rfl,Nat.le_refl 0,λ_ h=>(List.not_mem_nil h).elim⟩
 lists:=by
  have ne {j k:Nat}{a b:Addr}(hj:(Wr st dx kt kx r i d w o ty fl mt nm am r0 tz)[j]?=some a) (hk:(Wr st dx kt kx r i d w o ty fl mt nm am r0 tz)[k]?=some b) (h:j≠k):a≠b:=λe=>h (O7 B.nd hj (e ▸ hk))
  exact List.nodup_cons.mpr ⟨λm=>(List.mem_cons.mp m).elim (ne (j:=15) (k:=10) rfl rfl (by decide)) λm=>ne (j:=15) (k:=12) rfl rfl (by decide) (List.mem_singleton.mp m),List.nodup_cons.mpr ⟨λm=>ne (j:=10) (k:=12) rfl rfl (by decide) (List.mem_singleton.mp m),List.nodup_cons.mpr ⟨List.not_mem_nil,.nil⟩⟩⟩
end
section
variable {c:Cx}{n:Nat}{Z:a5}{E:a5→Prop}{Q:V→a5→Prop}
noncomputable def dflt:List Nat:=[3,8,0,6,1,7,1,5,3,0,2,1,9,0,0,6,5,0,0,1,0,2,0,1,3,4,8,0,0]
theorem To(N:g0 c) (PM:X9) (SM:R5){ns:List Nat}{nu:Addr}(h1:0 < ns.length) (h2:ns.length≤1000) (h3:∀x∈ns,x < 1048576) (hnu:Z nu=some (.list (ns.map vi))){k:Nat}(hk:k≤10){x0 x1:Option V}(q:∀a6,Q (.bool true) a6) :
  l6 c (n+191) (Jk.drop 3) (gl (x0::x1::some (.ref nu)::some (vi k)::pad.drop 3)) Z (s9 Q) E:=by
 refine f6 λat_ hat=>f6 ?_
 have s1:d8 (λ_=>False) Z (j1 Z at_ (.list [.int 0])):=d8.new hat
 have e1:j1 Z at_ (.list [.int 0]) at_=some (.list [vi 0]):=a7 ..
 have hne:nu≠at_:=fresh_ne hat hnu
 generalize j1 Z at_ (.list [.int 0])=u5 at s1 e1
 have xP:=s1 _ _ id hnu
 refine mU (n:=n+187) N λst dx kt kx r i d w o ty fl mt nm am C2 B=>Bg λr0 hr0=>⟨?_⟩
 refine⟨.none,a7 ..,by decide,by decide,λtz htz=>?_⟩
 have B2:=((B.app (.one (o:=.list [.none]) hr0)).app (.one (o:=.list (List.replicate 64 .none)) htz))
 refine .mk rfl (B2.has 0 rfl rfl) (B2.has 1 rfl rfl) (by decide:7≤900) (N.st.attr 1 rfl).2 ?_
 suffices go:∀Yp,Bl u5 (Wr st dx kt kx r i d w o ty fl mt nm am r0 tz) (xO dx kt kx r i d w o fl mt nm am tz) Yp→l6 c (n+191) (Jk.drop 6) (gl (x0::x1::some (.ref nu)::some (vi k)::some (.ref at_)::some (.ref st)::pad.drop 5)) Yp (s9 Q) E from
  go _ (B2.put (i:=1) rfl ((a7 ..).trans (congrArg (λl=>some (j8.ns l)) (Zr (vals:=[.ref kt,.ref ty,.ref fl,.ref mt,.ref nm,.ref am,vi 0]) (i:=1) N.mS.nd rfl (by decide:1 < 7)))) λ_=>i8)
 intro Yp B3
 have free {a:Addr}{l:List V}(e:u5 a=some (.list l)){j:Nat}(hj:(Wr st dx kt kx r i d w o ty fl mt nm am r0 tz)[j]?=some a):False:=g9 (j3 e) (B3.fresh a (List.mem_of_getElem? hj))
 have sep {a:Addr}{l:List V}(e:u5 a=some (.list l)):¬(⟨kt,kx,r,i,d,w,o⟩:H1).F a∧a∉T8 ⟨st,dx,tz,fl,nm⟩ []:=⟨λh=>(pV h).elim λ_ h=>free e h.2,λh=>(jE h).elim λ_ h=>free e h.2⟩
 refine f6 ?_
 refine sG (n:=n+187) N λu ux as os vs Sw B6=>?_
 refine sH (n:=n+189) N (B6.has 0 rfl rfl) (B6.has 1 rfl rfl) (B6.old _ _ id (B3.has 0 rfl rfl)) (B6.old _ _ id (B3.has 1 rfl rfl)) rfl λy yx as' os' vs' mR B7=>?_
 have s57:=B6.old.trans B7.old
 have s17:=B3.old.trans s57
 have L:P8 ⟨st,dx,tz,fl,nm⟩ ⟨kt,kx,r,i,d,w,o⟩ T0 [] [] y nu at_ (200 * 0) mR :=
  ⟨B3.a2n.same s57,B3.a2o.move (.refl _ 0) s57 .none λ_ _=>id,.mk yx _ (B7.has 0 rfl rfl) (B7.has 1 rfl rfl) (C4 N.cQ.nd (i:=2) rfl rfl) (C4 N.cQ.nd (i:=1) rfl rfl),.mk ns 0 h1 h2 h3 (s17 _ _ id xP) (Nat.le_refl 0) (s17 _ _ id e1) hne,List.forall_mem_cons.mpr ⟨sep xP,List.forall_mem_singleton.mpr (sep e1)⟩⟩
 refine A2 ?_
 refine H9 ?_
 refine Q9 (len:=k) (γ:=Option V×List Tm) (λg=>x0::x1::some (.ref nu)::some (vi k)::some (.ref at_)::some (.ref st)::some (.ref y)::g.1::pad.drop 7) (λj g a6=>Gr T0 g.2 (300 * j)∧P8 ⟨st,dx,tz,fl,nm⟩ ⟨kt,kx,r,i,d,w,o⟩ g.2 [] [] y nu at_ (200 * j) a6) (none,T0) (Nat.le_trans hk (by decide)) ⟨.refl _ _,L⟩ (λj g a6 R hj I hs _=>f9 ?_) λg a6 I=>f7 ?_
 ·have j10:j≤10:=Nat.le_trans (Nat.le_of_lt hj) hk
  refine Tn N PM I.2 (Nat.le_trans (Nat.add_le_add_right (Nat.mul_le_mul_left 200 j10) 200) (by decide)) (Nat.le_trans I.1.2 (Nat.le_trans (Nat.add_le_add_left (Nat.mul_le_mul_left 300 j10) _) (by decide +kernel))) λT' σ8 g8 L8=>?_
  exact S4 (j9 (hs (some (vi j),T') σ8 ⟨I.1.trans g8,L8⟩).1)
 ·exact cJ (n:=n+140) N SM I.2 (Nat.le_trans (Nat.add_le_add_right (Nat.mul_le_mul_left 200 hk) 200) (by decide)) (Nat.le_trans I.1.2 (Nat.le_trans (Nat.add_le_add_left (Nat.mul_le_mul_left 300 hk) _) (by decide +kernel))) q
theorem Nh(i:Int):V.int (i % 999983)=vi (i % 999983).toNat∧(i % 999983).toNat < 1048576 :=
 have h:=Int.emod_nonneg i (by decide:(999983:Int)≠0)
 ⟨congrArg V.int (Int.toNat_of_nonneg h).symm,(Int.toNat_lt h).mpr (Int.lt_trans (Int.emod_lt_of_pos i (by decide)) (by decide))⟩
theorem Zs{ρ:Loc}:∀(l:List V){Z:a5}{R:List V→a5→Prop},R l Z→Ui c n (l.map .con) ρ Z R E
 | [],_,_,h=>h
 | v::l,_,R,h=>Zs l (R:=λvs Z=>R (v::vs) Z) h
theorem xQ{i:Nat}{es:List X}{l:List V}{ls:List (Option V)}{xs:List S}{R:Fl→Loc→a5→Prop}(h:es=l.map .con) (q:∀r,Z r=none→l6 c n xs (gl (sl ls i (.ref r))) (j1 Z r (.list l)) R E):l6 c n (.set i (.lst es)::xs) (gl ls) Z R E :=
 h ▸ f6 (Zs l q)
theorem xR(N:g0 c) (PM:X9) (SM:R5){a:Addr}{is:List Int}(hl:nU c a (is.map V.int)) (hz:is.length≤1000000) (q:∀a6,Q (.bool true) a6):l6 c (n+191) Jk (gl (some (.fix (.ref a))::pad)) Z (s9 Q) E:=by
 refine f6 ⟨_,hl,by rw[List.length_map]; exact hz,.inl rfl,λr hr=>?_⟩
 have ec:cut (is.map V.int) none (some 24)=(is.take 24).map V.int:=List.map_take.symm
 have z24:(is.take 24).length≤24:=List.length_take_le 24 is
 refine comp_map (iv:=.ref r) V.int (is.take 24) (λd acc a6=>a6=j1 Z r (.list (cut (is.map V.int) none (some 24)))∧acc=d.map λi=>vi (i % 999983).toNat) (Nat.le_trans z24 (by decide)) (λd acc a6 I=>m9 (I.1 ▸ (a7 ..).trans (congrArg (λl=>some (j8.list l)) ec))) ⟨rfl,rfl⟩ (λd i lk acc a6 R e I hs _=>T7 ⟨⟨by decide,?_⟩⟩) λacc a6 I nu hnu=>?_
 ·refine hs _ _ ⟨I.1,?_⟩
  rw[I.2,List.map_append,(Nh i).1]; rfl
 obtain⟨rfl,rfl⟩:=I
 have en:((is.take 24).map λi:Int=>vi (i % 999983).toNat)=((is.take 24).map λi:Int=>(i % 999983).toNat).map vi:=by rw[List.map_map]; rfl
 have h3:∀x∈(is.take 24).map λi:Int=>(i % 999983).toNat,x < 1048576:=List.forall_mem_map.mpr λi _=>(Nh i).2
 have jF:((is.take 24).map λi:Int=>(i % 999983).toNat).length≤24:=Nat.le_trans (Nat.le_of_eq (List.length_map ..)) z24
 rw[en]
 generalize (is.take 24).map (λi:Int=>(i % 999983).toNat)=ns at h3 jF
 generalize j1 Z r (.list (cut (is.map V.int) none (some 24)))=u5 at hnu
 have zn:(ns.map vi).length≤1000000:=by rw[List.length_map]; exact Nat.le_trans jF (by decide)
 refine f6 ?_
 refine t7 (a7 ..) zn ?_
 rw[List.length_map]
 refine⟨⟨⟨by decide,by decide,X4 (Nat.le_trans jF (by decide))⟩,?_⟩⟩
 have kz:1+ns.length / 16≤10:=Nat.le_trans (Nat.add_le_add_left (Nat.div_le_div_right jF) 1) (by decide)
 refine Px (f9 ?_)
 refine vY (Yj (l8 rfl ?_))
 refine I6 (a7 ..) zn ?_
 refine lT (λh0=>xQ (l:=dflt.map vi) (by kernel_rfl) λr2 hr2=>?_) λh0=>?_
 ·exact To N PM SM (ns:=dflt) (by decide +kernel) (by decide +kernel) (by decide +kernel) (a7 ..) kz q
 ·exact To N PM SM (List.length_pos_iff.mpr λe:ns=[]=>h0 (congrArg (List.map vi) e)) (Nat.le_trans jF (by decide)) h3 (a7 ..) kz q
end
abbrev Su:=Hd→Tm
noncomputable def app(s:Su):Tm→Tm
 | .leaf h=>if h.isVar=true then s h else .leaf h
 | .un h a=>.un h (app s a)
 | .bin h a b=>.bin h (app s a) (app s b)
noncomputable def Aa(s:Su) (f:Bd):Prop:=∀p∈f,app s p.1=app s p.2
theorem cM{g:Hd}{a b a' b':Tm}(h:a=a') (k:b=b'):Tm.bin g a b=.bin g a' b':=h ▸ k ▸ rfl
theorem o7{s:Su}{g:Hd}(h:g.isVar=true):app s (.leaf g)=s g:=if_pos h
theorem L9{s q:Su}(h:∀g,g.isVar=true→app q (s g)=q g):∀t:Tm,app q (app s t)=app q t
 | .leaf g=>(apply_ite (app q) (g.isVar=true) (s g) (.leaf g)).trans (ite_congr rfl (h g) λe=>if_neg e)
 | .un g a=>congrArg (Tm.un g) (L9 h a)
 | .bin g a b=>cM (L9 h a) (L9 h b)
theorem Dz(s q:Su):∀t,app q (app s t)=app (λh=>app q (s h)) t
 | .leaf g=>(apply_ite (app q) (g.isVar=true) (s g) (.leaf g)).trans (ite_congr rfl (λ_=>rfl) λe=>if_neg e)
 | .un g a=>congrArg (Tm.un g) (Dz s q a)
 | .bin g a b=>cM (Dz s q a) (Dz s q b)
theorem Qc:∀t,app (λh=>.leaf h) t=t
 | .leaf g=>ite_self _
 | .un g a=>congrArg (Tm.un g) (Qc a)
 | .bin g a b=>cM (Qc a) (Qc b)
theorem Ff{s:Su}{t:Tm}(h:t.hd.isVar=false):(app s t).hd=t.hd∧(app s t).kids=t.kids.map (app s):=by
 cases t with
 | leaf g =>
  have e:app s (.leaf g)=.leaf g:=if_neg (Bool.eq_false_iff.mp h)
  rw[e]; exact⟨rfl,rfl⟩
 | un g a=>exact⟨rfl,rfl⟩
 | bin g a b=>exact⟨rfl,rfl⟩
theorem Fg:∀{a b:Tm},a.hd=b.hd→a.kids=b.kids→a=b
 | .leaf g,.leaf g',h,_=>congrArg Tm.leaf h
 | .un g x,.un g' x',h,k=>congr (congrArg Tm.un h) (List.cons.inj k).1
 | .bin g x y,.bin g' x' y',h,k=>congr (congr (congrArg Tm.bin h) (List.cons.inj k).1) (List.cons.inj (List.cons.inj k).2).1
 | .leaf _,.un _ _,_,k=>nomatch (show []=_::_ from k)
 | .leaf _,.bin _ _ _,_,k=>nomatch (show []=_::_ from k)
 | .un _ _,.leaf _,_,k=>nomatch (show _::_=[] from k)
 | .bin _ _ _,.leaf _,_,k=>nomatch (show _::_=[] from k)
 | .un _ _,.bin _ _ _,_,k=>nomatch (show []=_::_ from(List.cons.inj k).2)
 | .bin _ _ _,.un _ _,_,k=>nomatch (show _::_=[] from(List.cons.inj k).2)
theorem Ea(t:Tm):1≤t.nest:=by cases t<;>exact Nat.le_add_left 1 _
theorem Hv{s:Su}:∀{t a:Tm},a∈t.kids→(app s a).nest < (app s t).nest
 | .leaf _,_,h=>(List.not_mem_nil h).elim
 | .un g x,_,h=>X5 (t:=app s (.un g x)) (List.mem_map_of_mem (f:=app s) h)
 | .bin g x y,_,h=>X5 (t:=app s (.bin g x y)) (List.mem_map_of_mem (f:=app s) h)
theorem Gs{q:Su}{a b:Tm}(ha:a.hd.isVar=false) (hb:b.hd.isVar=false) (h:a.hd=b.hd):app q a=app q b↔a.kids.map (app q)=b.kids.map (app q) :=
 have x:=Ff (s:=q) ha
 have y:=Ff (s:=q) hb
 ⟨λe=>x.2.symm.trans ((congrArg Tm.kids e).trans y.2),λe=>Fg (x.1.trans (h.trans y.1.symm)) (x.2.trans (e.trans y.2.symm))⟩
theorem Ni{q:Su}{a b:Tm}(ha:a.hd.isVar=false) (hb:b.hd.isVar=false) (h:a.hd≠b.hd):app q a≠app q b :=
 λe=>h ((Ff (s:=q) ha).1.symm.trans ((congrArg Tm.hd e).trans (Ff (s:=q) hb).1))
theorem Fh{q:Su}{g:Hd}(hg:g.isVar=true):∀{t:Tm},Uj g t=true→(q g).nest≤(app q t).nest
 | .leaf h,e=>(of_decide_eq_true e:h=g) ▸ Nat.le_of_eq (congrArg Tm.nest (o7 (of_decide_eq_true e ▸ hg)).symm)
 | .un h a,e=>Nat.le_succ_of_le (Fh hg (t:=a) e)
 | .bin h a b,e=>(Bool.or_eq_true_iff.mp e).elim (λe=>Nat.le_succ_of_le (Nat.le_trans (Fh hg e) (Nat.le_max_left ..))) λe=>Nat.le_succ_of_le (Nat.le_trans (Fh hg e) (Nat.le_max_right ..))
theorem sU{q:Su}{g:Hd}(hg:g.isVar=true):∀{t:Tm},Uj g t=true→t≠.leaf g→(q g).nest < (app q t).nest
 | .leaf h,e,n=>(n (congrArg Tm.leaf (of_decide_eq_true e))).elim
 | .un h a,e,_=>Nat.lt_succ_of_le (Fh hg (t:=a) e)
 | .bin h a b,e,_=>(Bool.or_eq_true_iff.mp e).elim (λe=>Nat.lt_succ_of_le (Nat.le_trans (Fh hg e) (Nat.le_max_left ..))) λe=>Nat.lt_succ_of_le (Nat.le_trans (Fh hg e) (Nat.le_max_right ..))
noncomputable def Fi(g:Hd) (t:Tm):Su:=λh=>if h=g then t else .leaf h
theorem Y0{g:Hd}{t:Tm}:∀{u:Tm},Uj g u=false→app (Fi g t) u=u
 | .leaf h,e=>(ite_congr rfl (λ_=>if_neg (of_decide_eq_false e)) λ_=>rfl).trans (ite_self _)
 | .un h a,e=>congrArg (Tm.un h) (Y0 (u:=a) e)
 | .bin h a b,e=>have x:=Bool.or_eq_false_iff.mp e; cM (Y0 x.1) (Y0 x.2)
theorem Eb{g:Hd}{t:Tm}:∀u:Tm,(app (Fi g t) u).nest+1≤u.nest+t.nest
 | .leaf h=>by
  refine(?_:(if h.isVar=true then Fi g t h else .leaf h).nest+1≤1+t.nest)
  have big:(Tm.leaf h).nest+1≤1+t.nest:=Nat.add_le_add_left (Ea t) 1
  by_cases v:h.isVar=true
  ·rw[if_pos v]
   unfold Fi
   by_cases e:h=g
   ·rw[if_pos e,Nat.add_comm]; exact Nat.le_refl _
   ·rw[if_neg e]; exact big
  ·rw[if_neg v]; exact big
 | .un h a=>Nat.le_trans (Nat.succ_le_succ (Eb a)) (Nat.le_of_eq (Nat.add_right_comm a.nest t.nest 1))
 | .bin h a b=>Nat.le_trans (Nat.succ_le_succ (Nat.max_lt.mpr ⟨Nat.lt_of_lt_of_le (Eb a) (Nat.add_le_add_right (Nat.le_max_left ..) _),Nat.lt_of_lt_of_le (Eb b) (Nat.add_le_add_right (Nat.le_max_right ..) _)⟩:max _ _+1≤max a.nest b.nest+t.nest)) (Nat.le_of_eq (Nat.add_right_comm _ t.nest 1))
theorem Fj{f g:Bd}{k:Tm}:e9 (f++g) k=(e9 f k).or (e9 g k):=(congrArg (Option.map Prod.snd) List.find?_append).trans Option.map_or
theorem Nj{a b:Tm}:e9 [(a,b)] a=some b:=congrArg (Option.map Prod.snd) (List.find?_cons_of_pos (decide_eq_true rfl))
theorem Bq{a b k:Tm}(h:a≠k):e9 [(a,b)] k=none:=congrArg (Option.map Prod.snd) (List.find?_cons_of_neg (p:=λp:Tm×Tm=>decide (p.1=k)) (a:=(a,b)) (l:=[]) λe=>h (of_decide_eq_true e))
theorem Km{f:Bd}{k v:Tm}{g:Bd}(h:e9 f k=some v):e9 (f++g) k=some v:=by rw[Fj,h]; rfl
theorem Tp{f:Bd}{a b:Tm}(h:e9 f a=none):e9 (f++[(a,b)]) a=some b:=by rw[Fj,h,Nj]; rfl
theorem Kn{f:Bd}{a b k:Tm}(h:e9 f k=none) (n:a≠k):e9 (f++[(a,b)]) k=none:=by rw[Fj,h,Bq n]; rfl
theorem F8{q:Su}{n:Nat}{f:Bd}{t r:Tm}(hs:Aa q f) (h:walk n f t=some r):app q t=app q r:=W9 (P:=λk=>app q k=app q r) (λ_=>rfl) (λk v e ih=>(hs _ (i7 e)).trans ih) h
theorem Ec{n:Nat}{f:Bd}{k v:Tm}(e:e9 f k=some v):walk (n+1) f k=walk n f v:=congrArg (λo:Option Tm=>o.elim (some k) λv=>walk n f v) e
theorem Ed{n:Nat}{f:Bd}{k:Tm}(e:e9 f k=none):walk (n+1) f k=some k:=congrArg (λo:Option Tm=>o.elim (some k) λv=>walk n f v) e
theorem C7{a b:Tm}{f:Bd}(ha:e9 f a=none) (hb:e9 f b=none) (hne:a≠b):∀{n:Nat}{t r:Tm},walk n f t=some r→walk (n+1) (f++[(a,b)]) t=some (if r=a then b else r)
 | 0,t,r,h=>nomatch h
 | n+1,t,r,h=>by
  cases e:e9 f t with
  | some v=>exact(Ec (Km e)).trans (C7 ha hb hne ((Ec e).symm.trans h))
  | none =>
   obtain rfl:=Option.some.inj ((Ed e).symm.trans h)
   by_cases q:t=a
   ·subst q
    rw[if_pos rfl]
    exact(Ec (Tp e)).trans (Ed (Kn hb hne))
   ·rw[if_neg q]
    exact Ed (Kn e λz=>q z.symm)
noncomputable def Wk(f:Bd):Prop:=∀t,∃r,walk (f.length+1) f t=some r
theorem A4{f:Bd}{p:Tm×Tm}:(f++[p]).length=f.length+1:=List.length_append
theorem Wk.snoc{f:Bd}(h:Wk f){a b:Tm}(ha:e9 f a=none) (hb:e9 f b=none) (hne:a≠b):Wk (f++[(a,b)]):=λt=>(h t).elim λr hr=>⟨_,A4 ▸ C7 ha hb hne hr⟩
theorem Aa.snoc{q:Su}{f:Bd}{a b:Tm}:Aa q (f++[(a,b)])↔Aa q f∧app q a=app q b:=List.forall_mem_append.trans (and_congr_right λ_=>List.forall_mem_singleton)
noncomputable def NN(k:Nat):Nat:=[6,11,21].getD k 41
noncomputable def SQ(k:Nat):Nat:=[73,62,41].getD k 0
theorem Zt:∀k,k < 3→NN k≤21∧NN k+NN k=NN (k+1)+1:=by decide +kernel
theorem NS:∀j,j≤3→NN j≤41∧∀k,k < j→NN j+SQ j≤SQ k:=by decide +kernel
noncomputable def U6(t:Tm):Prop:=t.A3=true∧t.nest≤6
theorem U6.kid{t a:Tm}(h:U6 t) (ha:a∈t.kids):U6 a:=⟨Ds h.1 ha,Nat.le_trans (Nat.le_of_lt (X5 ha)) h.2⟩
theorem U6.var{t:Tm}(h:U6 t) (hv:t.hd.isVar=true):∃g,t=.leaf g∧g.isVar=true:=(C6 h.1 hv).2.imp λg e=>⟨e,(congrArg (λt:Tm=>t.hd.isVar) e).symm.trans hv⟩
theorem O9{f:Bd}{T:List Tm}(nd:(f.map (·.1)).Nodup) (h:∀p∈f,p.1∈T):f.length≤T.length:=(List.length_map (as:=f) _) ▸ nd.length_le_of_subset (List.forall_mem_map.mpr h)
structure UI(f:Bd) (s:Su):Prop where
 keys:∀p∈f,p.1.hd.isVar=true
 nd:(f.map (·.1)).Nodup
 pW:∀p∈f,U6 p.1∧U6 p.2
 wk:Wk f
 sol:Aa s f
 gen:∀q,Aa q f→∀g,g.isVar=true→app q (s g)=q g
 free:∀g,g.isVar=true→e9 f (.leaf g)=none→s g=.leaf g
 size:∀t:Tm,t.nest≤6→(app s t).nest≤NN f.length
section
variable {f:Bd}{s:Su}(u:UI f s)
include u
theorem UI.in3:∀p∈f,p.1∈V3:=λp hp=>(C6 (u.pW p hp).1.1 (u.keys p hp)).1
theorem UI.len:f.length≤3:=O9 u.nd u.in3
theorem UI.len2{a:Tm}(ha:U6 a) (hv:a.hd.isVar=true) (hl:e9 f a=none):f.length < 3 :=
 Nat.le_trans (Nat.le_of_eq (A4 (p:=(a,a))).symm) (O9 (H5 (b:=a) u.nd hl) (T:=V3) (List.forall_mem_append.mpr ⟨u.in3,List.forall_mem_singleton.mpr (C6 ha.1 hv).1⟩))
theorem UI.jG{n:Nat}{t r:Tm}(ht:U6 t) (h:walk n f t=some r):U6 r:=D6 (λp hp=>(u.pW p hp).2) ht h
theorem UI.stay{g:Hd}(hg:g.isVar=true){b:Tm}(hb:U6 b) (hl:e9 f b=none) (hne:.leaf g≠b):app s b≠.leaf g:=by
 by_cases hv:b.hd.isVar=true
 ·obtain⟨g',rfl,hg'⟩:=hb.var hv
  rw[o7 hg',u.free g' hg' hl]; exact hne.symm
 ·exact λh=>hv ((congrArg Hd.isVar ((Ff (s:=s) (Bool.eq_false_iff.mpr hv)).1.symm.trans (congrArg Tm.hd h))).trans hg)
end
theorem Tq{g:Tm→Option Bool}{h:Tm→Bool}:∀{l:List Tm},(∀a∈l,g a=some (h a))→anyM g l=some (l.any h)
 | [],_=>rfl
 | a::l,e=>by
  refine(?_:(g a).bind _=_)
  rw[e a (.head _)]
  exact congrArg (Option.map λy=>h a || y) (Tq λx hx=>e x (.tail _ hx))
theorem jH{g:Hd}:∀{t:Tm},t≠.leaf g→Uj g t=t.kids.any (Uj g)
 | .leaf h,n=>decide_eq_false λe=>n (congrArg Tm.leaf e)
 | .un h a,_=>(Bool.or_false _).symm
 | .bin h a b,_=>congrArg (Uj g a || ·) (Bool.or_false _).symm
theorem Fk{f:Bd}{s:Su}(u:UI f s){g:Hd}(hg:g.isVar=true) (hl:e9 f (.leaf g)=none) (b:Tm) (hf:f.length≤2):∀(m:Nat){k:Tm}{w:Nat},U6 k→(∃r,walk (w+1) f k=some r)→w≤2→3 * (app s k).nest+w≤m+2→occurs m (f++[(.leaf g,b)]) (.leaf g) k=some (Uj g (app s k))
 | 0,k,w,hk,_,hw,hm=>absurd (Ea (app s k)) (by omega)
 | m+1,k,w,hk,⟨r,hr⟩,hw,hm=>by
  unfold occurs
  by_cases e:k=.leaf g
  ·subst e
   rw[if_pos rfl,o7 hg,u.free g hg hl]
   exact congrArg some (decide_eq_true rfl).symm
  rw[if_neg e]
  cases hl2:e9 f k with
  | some v =>
   have hp:=i7 hl2
   have hs:app s k=app s v:=u.sol _ hp
   have hr:=(Ec hl2).symm.trans hr
   rw[Km hl2]
   dsimp only
   rw[if_pos (u.keys _ hp)]
   cases w with
   | zero=>cases hr
   | succ w=>exact hs ▸ Fk u hg hl b hf m (u.pW _ hp).2 ⟨r,hr⟩ (Nat.le_of_succ_le hw) (Nat.le_of_succ_le_succ (hs ▸ hm))
  | none =>
   rw[Kn hl2 (Ne.symm e)]
   dsimp only
   by_cases hv:k.hd.isVar=true
   ·obtain⟨g',rfl,hg'⟩:=hk.var hv
    rw[o7 hg',u.free g' hg' hl2]
    exact congrArg some (decide_eq_false λz=>e (congrArg Tm.leaf z)).symm
   ·have hk2:=Ff (s:=s) (Bool.eq_false_iff.mpr hv)
    rw[jH (u.stay hg hk hl2 (Ne.symm e)),hk2.2,List.any_map]
    refine Tq λa ha=>Fk u hg hl b hf m (hk.kid ha) (u.wk a) hf ?_
    have:=Hv (s:=s) ha
    omega
inductive jI(f:Bd) (s:Su) (E:Su→Prop):Option (Bool×Bd)→Prop
 | ok {f':Bd}{s':Su}(u:UI f' s') (sol:∀q,Aa q f'↔Aa q f∧E q) (g:(f'=f∧s'=s)∨f.length < f'.length):jI f s E (some (true,f'))
 | bad {f':Bd}(no:∀q,Aa q f→¬E q):jI f s E (some (false,f'))
theorem jI.swap{f:Bd}{s:Su}{E E':Su→Prop}{o:Option (Bool×Bd)}(h:jI f s E o) (he:∀q,Aa q f→(E q↔E' q)):jI f s E' o:=match h with
 | .ok u sol g=>.ok u (λq=>(sol q).trans (and_congr_right (he q))) g
 | .bad no=>.bad λq hq e=>no q hq ((he q hq).mpr e)
theorem Ko{f:Bd}{s:Su}(u:UI f s){a b:Tm}(ha:U6 a) (hb:U6 b) (hav:a.hd.isVar=true) (hla:e9 f a=none) (hlb:e9 f b=none) (hne:a≠b) :
  jI f s (λq=>app q a=app q b) (Dh f a b):=by
 have hlen:=u.len2 ha hav hla
 obtain⟨g,rfl,hg⟩:=ha.var hav
 have hN:=Nat.le_trans (u.size b hb.2) (Zt _ hlen).1
 have hf2:=Nat.le_of_lt_succ hlen
 have a2r:=Fk u hg hla b hf2 70 hb (u.wk b) hf2 (Nat.le_trans (Nat.add_le_add (Nat.mul_le_mul_left 3 hN) hf2) (by decide))
 have hsg:=u.free g hg hla
 unfold Dh
 rw[if_pos (Nat.le_trans hf2 (by decide)),a2r]
 cases hr:Uj g (app s b) with
 | false =>
  have hτ:app (Fi g (app s b)) (app s b)=app s b:=Y0 hr
  have hs':∀t,app (λh=>app (Fi g (app s b)) (s h)) t=app (Fi g (app s b)) (app s t):=λt=>(Dz s _ t).symm
  have sg:app (Fi g (app s b)) (app s (.leaf g))=app s b:=by rw[o7 hg,hsg,o7 hg]; exact if_pos rfl
  refine .ok (s':=λh=>app (Fi g (app s b)) (s h)) ⟨List.forall_mem_append.mpr ⟨u.keys,List.forall_mem_singleton.mpr hav⟩,H5 u.nd hla,Dj u.pW ha hb,u.wk.snoc hla hlb hne,Aa.snoc.mpr ⟨λp hp=>by rw[hs',hs',u.sol p hp],((hs' _).trans sg).trans (hτ.symm.trans (hs' b).symm)⟩,λq hq h hh=>?_,λh hh hl=>?_,λt ht=>?_⟩ (λq=>Aa.snoc) (.inr (A4 ▸ Nat.lt_succ_self _))
  ·have hq:=Aa.snoc.mp hq
   have hqs:=u.gen q hq.1
   have hqb:app q (app s b)=q g:=(L9 hqs b).trans (hq.2.symm.trans (o7 hg))
   refine(L9 (λh' hv=>?_) (s h)).trans (hqs h hh)
   unfold Fi
   by_cases e:h'=g
   ·rw[if_pos e,hqb,e]
   ·rw[if_neg e]; exact o7 hv
  ·have hl0:e9 f (.leaf h)=none:=none_of λv e=>g9 (j3 (Km e)) hl
   have hhg:h≠g:=λe=>by subst e; exact g9 (j3 (Tp hla)) hl
   refine(congrArg (app (Fi g (app s b))) (u.free h hh hl0)).trans ((o7 hh).trans (if_neg hhg))
  ·rw[hs',A4]
   have h1:=Eb (g:=g) (t:=app s b) (app s t)
   exact Nat.le_of_succ_le_succ (Nat.le_trans h1 (Nat.le_trans (Nat.add_le_add (u.size t ht) (u.size b hb.2)) (Nat.le_of_eq (Zt _ hlen).2)))
 | true =>
  refine .bad λq hq e=>?_
  have:=sU (q:=q) hg hr (u.stay hg hb hlb hne)
  rw[L9 (u.gen q hq),←e,o7 hg] at this
  exact Nat.lt_irrefl _ this
theorem UI.nil:UI [] (λh=>.leaf h) where
 keys:=λ_ h=>(List.not_mem_nil h).elim
 nd:=.nil
 pW:=λ_ h=>(List.not_mem_nil h).elim
 wk:=λt=>⟨t,rfl⟩
 sol:=λ_ h=>(List.not_mem_nil h).elim
 gen:=λq _ g hg=>o7 hg
 free:=λ_ _ _=>rfl
 size:=λt ht=>(Qc t).symm ▸ ht
theorem nL:∀h∈G9,∀g∈G9,h.isVar=false→g.isVar=false→h.sort=g.sort→h.k8=g.k8→h=g:=by decide +kernel
theorem Nk{n:Nat}(ih:∀(f:Bd) (s:Su) (a b:Tm),UI f s→U6 a→U6 b→(app s a).nest+SQ f.length≤n→jI f s (λq=>app q a=app q b) (B9 n f a b)) :
  ∀(as bs:List Tm) (f:Bd) (s:Su),UI f s→(∀a∈as,U6 a)→(∀b∈bs,U6 b)→as.length=bs.length→(∀a∈as,(app s a).nest+SQ f.length≤n)→jI f s (λq=>as.map (app q)=bs.map (app q)) (D7 (B9 n) f as bs)
 | [],[],f,s,u,_,_,_,_=>.ok u (λq=>(and_iff_left rfl).symm) (.inl ⟨rfl,rfl⟩)
 | [],b::bs,f,s,u,_,_,hl,_=>(Nat.succ_ne_zero _ hl.symm).elim
 | a::as,[],f,s,u,_,_,hl,_=>(Nat.succ_ne_zero _ hl).elim
 | a::as,b::bs,f,s,u,ha,hb,hl,hm=>by
  have h1:=ih f s a b u (ha _ (.head _)) (hb _ (.head _)) (hm _ (.head _))
  refine(?_:jI f s _ ((B9 n f a b).bind λp=>cond p.1 (D7 (B9 n) p.2 as bs) (some (false,p.2))))
  generalize B9 n f a b=o at h1
  match h1 with
  | .bad no=>exact .bad λq hq e=>no q hq (List.cons.inj e).1
  | .ok (f':=f1) (s':=s1) u1 xS g1 =>
   have h2:=Nk ih as bs f1 s1 u1 (λx hx=>ha x (.tail _ hx)) (λx hx=>hb x (.tail _ hx)) (Nat.succ.inj hl) λx hx=>g1.elim (λe=>e.1 ▸ e.2 ▸ hm x (.tail _ hx)) λg =>
    Nat.le_trans (Nat.add_le_add_right (u1.size x (ha x (.tail _ hx)).2) _) (Nat.le_trans ((NS _ u1.len).2 _ g) (Nat.le_trans (Nat.le_add_left ..) (hm a (.head _))))
   refine(?_:jI f s _ (D7 (B9 n) f1 as bs))
   generalize D7 (B9 n) f1 as bs=o at h2
   match h2 with
   | .bad no=>exact .bad λq hq e=>no q ((xS q).mpr ⟨hq,(List.cons.inj e).1⟩) (List.cons.inj e).2
   | .ok u2 a2s g2=>exact .ok u2 (λq=>(a2s q).trans ((and_congr_left' (xS q)).trans (and_assoc.trans (and_congr_right λ_=>(List.cons_eq_cons (a:=app q a)).symm)))) (g1.elim (λe=>g2.imp (λe2=>⟨e2.1.trans e.1,e2.2.trans e.2⟩) λg=>e.1 ▸ g) λg=>.inr (g2.elim (λe=>e.1 ▸ g) λg'=>Nat.lt_trans g g'))
theorem Kp:∀(n:Nat) (f:Bd) (s:Su) (a b:Tm),UI f s→U6 a→U6 b→(app s a).nest+SQ f.length≤n→jI f s (λq=>app q a=app q b) (B9 n f a b)
 | 0,f,s,a,b,u,ha,hb,hm=>absurd (Nat.le_trans (Ea _) (Nat.le_trans (Nat.le_add_right ..) hm)) (Nat.not_succ_le_zero 0)
 | n+1,f,s,a,b,u,ha,hb,hm=>by
  obtain⟨x,hx⟩:=u.wk a
  obtain⟨y,hy⟩:=u.wk b
  have xT:=u.jG ha hx
  have xU:=u.jG hb hy
  have hE (q:Su) (hq:Aa q f):app q x=app q y↔app q a=app q b:=by rw[F8 hq hx,F8 hq hy]
  unfold B9
  rw[hx,hy]
  dsimp only
  by_cases e:x=y
  ·rw[if_pos e]
   exact .ok u (λq=>⟨λh=>⟨h,(hE q h).mp (congrArg (app q) e)⟩,And.left⟩) (.inl ⟨rfl,rfl⟩)
  rw[if_neg e]
  by_cases hv:y.hd.isVar=true
  ·rw[if_pos hv]
   exact(Ko u xU xT hv (k9 hy) (k9 hx) (Ne.symm e)).swap λq hq=>eq_comm.trans (hE q hq)
  rw[if_neg hv]
  by_cases hv2:x.hd.isVar=true
  ·rw[if_pos hv2]
   exact(Ko u xT xU hv2 (k9 hx) (k9 hy) e).swap hE
  rw[if_neg hv2]
  have hxv:=Bool.eq_false_iff.mpr hv2
  have hyv:=Bool.eq_false_iff.mpr hv
  unfold Jv
  by_cases hc:x.hd.sort≠y.hd.sort∨x.hd.k8≠y.hd.k8
  ·rw[if_pos hc]
   exact .bad λq hq h=>Ni hxv hyv (λh=>hc.elim (λn=>n (congrArg Hd.sort h)) λn=>n (congrArg Hd.k8 h)) ((hE q hq).mpr h)
  rw[if_neg hc]
  have hc:=not_or.mp hc
  have hhd:=nL _ (E1 xT.1) _ (E1 xU.1) hxv hyv (Decidable.not_not.mp hc.1) (Decidable.not_not.mp hc.2)
  have hkl:=Dq xT.1 xU.1 hhd
  rw[if_neg λh=>h.elim (λh0=>e (Fg hhd (h0.trans (List.eq_nil_of_length_eq_zero (hkl.symm.trans (congrArg List.length h0))).symm))) λn=>n hkl]
  refine(Nk (n:=n) (Kp n) x.kids y.kids f s u (λa h=>xT.kid h) (λa h=>xU.kid h) hkl λc hc=>?_).swap λq hq=>(Gs hxv hyv hhd).symm.trans (hE q hq)
  have h1:=Hv (s:=s) hc
  rw[←F8 u.sol hx] at h1
  exact Nat.le_of_lt_succ (Nat.lt_of_lt_of_le (Nat.add_lt_add_right h1 _) hm)
theorem Tr{f:Bd}{s:Su}(u:UI f s){g:Tm→Option Tm}:∀{t:Tm},e9 f t=none→(∀a∈t.kids,g a=some (app s a))→t4 g t=some (app s t)
 | .leaf h,hl,_=>congrArg some ((ite_congr rfl (λv=>u.free h v hl) λ_=>rfl).trans (ite_self _)).symm
 | .un h a,_,k=>congrArg (Option.map (Tm.un h)) (k a (.head _))
 | .bin h a b,_,k=>by
  refine(?_:(g a).bind (λx=>(g b).map λy=>Tm.bin h x y)=_)
  rw[k a (.head _),k b (.tail _ (.head _))]; rfl
theorem Kq{f:Bd}{s:Su}(u:UI f s):∀(m:Nat){t:Tm}{w:Nat},U6 t→(∃r,walk (w+1) f t=some r)→w≤3→4 * (app s t).nest+w≤m+3→F7 m f t=some (app s t)
 | 0,t,w,ht,_,hw,hm=>absurd (Ea (app s t)) (by omega)
 | m+1,t,w,ht,⟨r,hr⟩,hw,hm=>by
  refine(?_:(e9 f t).elim (t4 (λx=>F7 m f x) t) (λu=>F7 m f u)=_)
  cases hl:e9 f t with
  | some v =>
   have hs:app s t=app s v:=u.sol _ (i7 hl)
   have hr:=(Ec hl).symm.trans hr
   cases w with
   | zero=>cases hr
   | succ w=>exact hs ▸ Kq u m (u.pW _ (i7 hl)).2 ⟨r,hr⟩ (Nat.le_of_succ_le hw) (Nat.le_of_succ_le_succ (hs ▸ hm))
  | none =>
   refine Tr u hl λa ha=>Kq u m (ht.kid ha) (u.wk a) u.len ?_
   have:=Hv (s:=s) ha
   have:=u.len
   omega
noncomputable def Eqv(f:Bd) (p:Tm×Tm):Prop:=∃r,walk (f.length+1) f p.1=some r∧walk (f.length+1) f p.2=some r
theorem Eqv.mk{f:Bd}{x:Tm×Tm}{p:Tm×Tm}{r:Tm}(h1:walk (f.length+1+1) (f++[x]) p.1=some r) (h2:walk (f.length+1+1) (f++[x]) p.2=some r):Eqv (f++[x]) p:=⟨r,(congrArg (λn=>walk (n+1) (f++[x]) p.1) A4).trans h1,(congrArg (λn=>walk (n+1) (f++[x]) p.2) A4).trans h2⟩
theorem Eqv.snoc{f:Bd}{p:Tm×Tm}(h:Eqv f p){a b:Tm}(ha:e9 f a=none) (hb:e9 f b=none) (hne:a≠b):Eqv (f++[(a,b)]) p:=h.elim λr h=>.mk (C7 ha hb hne h.1) (C7 ha hb hne h.2)
theorem Eqv.new{f:Bd}{p:Tm×Tm}{a b:Tm}(h1:walk (f.length+1) f p.1=some a) (h2:walk (f.length+1) f p.2=some b) (hne:a≠b):Eqv (f++[(a,b)]) p∧Eqv (f++[(b,a)]) p :=
 have ha:=k9 h1
 have hb:=k9 h2
 ⟨.mk ((C7 ha hb hne h1).trans (congrArg some (if_pos rfl))) ((C7 ha hb hne h2).trans (congrArg some (if_neg hne.symm))),
  .mk ((C7 hb ha hne.symm h1).trans (congrArg some (if_neg hne))) ((C7 hb ha hne.symm h2).trans (congrArg some (if_pos rfl)))⟩
noncomputable def Dn(boss todo:Bd) (k:Tm×Tm):Prop:=k∈todo∨Eqv boss k
theorem Dn.step{boss jJ td new:Bd}{p k:Tm×Tm}(h:Dn boss (td++[p]) k) (hp:Eqv jJ p) (hm:Eqv boss k→Eqv jJ k):Dn jJ (td++new) k :=
 h.elim (λh=>(List.mem_append.mp h).elim (λh=>.inl (List.mem_append_left _ h)) λh=>.inr (List.mem_singleton.mp h ▸ hp)) λh=>.inr (hm h)
structure JI(W:List Tm) (equal boss todo:Bd):Prop where
 nd:(boss.map (·.1)).Nodup
 jK:∀p∈boss,p.1∈W∧p.2∈W
 jL:∀p∈todo,p.1∈W∧p.2∈W
 wk:Wk boss
 shape:∀p∈boss,p.1.hd.isVar=false→p.2.hd.isVar=false∧p.1.hd=p.2.hd∧∀k∈p.1.kids.zip p.2.kids,Dn boss todo k
 eq:∀p∈equal,Dn boss todo p
 fwd:∀q,Aa q equal→Aa q boss∧Aa q todo
section
variable {W:List Tm}{equal boss todo:Bd}{p:Tm×Tm}
theorem JI.len(h:JI W equal boss todo):boss.length≤W.length:=O9 h.nd λp hp=>(h.jK p hp).1
theorem JI.room(h:JI W equal boss todo){x:Tm}(hx:x∈W) (hl:e9 boss x=none):boss.length+1≤W.length :=
 Nat.le_trans (Nat.le_of_eq (A4 (p:=(x,x))).symm) (O9 (H5 (b:=x) h.nd hl) (List.forall_mem_append.mpr ⟨λp hp=>(h.jK p hp).1,List.forall_mem_singleton.mpr hx⟩))
theorem zip_map{β:Type}{φ:Tm→β}:∀{l m:List Tm},l.length=m.length→(l.map φ=m.map φ↔∀k∈l.zip m,φ k.1=φ k.2)
 | [],[],_=>⟨λ_ _ h=>(List.not_mem_nil h).elim,λ_=>rfl⟩
 | [],y::m,h=>(Nat.succ_ne_zero _ h.symm).elim
 | x::l,[],h=>(Nat.succ_ne_zero _ h).elim
 | x::l,y::m,h=>(List.cons_eq_cons (a:=φ x)).trans ((and_congr_right λ_=>zip_map (Nat.succ.inj h)).trans (List.forall_mem_cons (p:=λk:Tm×Tm=>φ k.1=φ k.2) (a:=(x,y)) (l:=l.zip m)).symm)
theorem JI.bind(h:JI W equal boss (todo++[p])){a b:Tm}(ha:a∈W) (hb:b∈W) (hla:e9 boss a=none) (hlb:e9 boss b=none) (hne:a≠b) (hp:Eqv (boss++[(a,b)]) p) (hs:∀q,Aa q boss→app q p.1=app q p.2→app q a=app q b){new:Bd}(hnW:∀k∈new,k.1∈W∧k.2∈W) (hsh:a.hd.isVar=false→b.hd.isVar=false∧a.hd=b.hd∧∀k∈a.kids.zip b.kids,k∈new) (hns:∀q,app q a=app q b→Aa q new):JI W equal (boss++[(a,b)]) (todo++new) :=
 have dn {k:Tm×Tm}(h:Dn boss (todo++[p]) k):Dn (boss++[(a,b)]) (todo++new) k:=h.step hp λh=>h.snoc hla hlb hne
 have t:=List.forall_mem_append.mp h.jL
 ⟨H5 h.nd hla,Dj h.jK ha hb,List.forall_mem_append.mpr ⟨t.1,hnW⟩,h.wk.snoc hla hlb hne,
  List.forall_mem_append.mpr ⟨λk hk hv=>(h.shape k hk hv).imp_right λx=>x.imp_right λx j hj=>dn (x j hj),List.forall_mem_singleton.mpr λhv=>(hsh hv).imp_right λx=>x.imp_right λx j hj=>.inl (List.mem_append_right _ (x j hj))⟩,
  λk hk=>dn (h.eq k hk),λq hq=>have x:=h.fwd q hq; have y:=List.forall_mem_append.mp x.2; have e:=hs q x.1 (y.2 p (.head _)); ⟨Aa.snoc.mpr ⟨x.1,e⟩,List.forall_mem_append.mpr ⟨y.1,hns q e⟩⟩⟩
theorem JI.drop(h:JI W equal boss (todo++[p])) (hp:Eqv boss p):JI W equal boss todo :=
 have dn {k:Tm×Tm}(h:Dn boss (todo++[p]) k):Dn boss todo k:=List.append_nil todo ▸ h.step (new:=[]) hp id
 ⟨h.nd,h.jK,(List.forall_mem_append.mp h.jL).1,h.wk,λk hk hv=>(h.shape k hk hv).imp_right λx=>x.imp_right λx j hj=>dn (x j hj),λk hk=>dn (h.eq k hk),λq hq=>(h.fwd q hq).imp_right λx=>(List.forall_mem_append.mp x).1⟩
inductive yZ(W:List Tm) (equal:Bd):Option (Option Bd)→Prop
 | none (no:∀q,¬Aa q equal):yZ W equal (some none)
 | some {boss:Bd}(J:JI W equal boss []):yZ W equal (some (some boss))
theorem F9(hW:∀t∈W,∀a∈t.kids,a∈W) (hL:∀t∈W,t.A3=true):∀(n:Nat) (boss todo:Bd),JI W equal boss todo→3 * (W.length - boss.length)+todo.length < n→yZ W equal (D9 n boss todo)
 | 0,_,_,_,hn=>(Nat.not_lt_zero _ hn).elim
 | n+1,boss,todo,h,hn=>by
  rcases(List.eq_nil_or_concat todo).imp_right (λq=>q.imp λD q=>q.imp λk q=>q.trans List.concat_eq_append) with rfl | ⟨td,p,rfl⟩
  ·exact .some h
  rw[Zd]
  rw[A4] at hn
  have hpW:=h.jL p (List.mem_append_right _ (.head _))
  obtain⟨a,ha⟩:=h.wk p.1
  obtain⟨b,hb⟩:=h.wk p.2
  have sV:a∈W:=D6 (D:=(·∈W)) (λp hp=>(h.jK p hp).2) hpW.1 ha
  have tP:b∈W:=D6 (D:=(·∈W)) (λp hp=>(h.jK p hp).2) hpW.2 hb
  have hla:=k9 ha
  have hlb:=k9 hb
  have hs (q:Su) (hq:Aa q boss) (e:app q p.1=app q p.2):app q a=app q b:=(F8 hq ha).symm.trans (e.trans (F8 hq hb))
  have fuel {x:Tm}(hx:x∈W) (hl:e9 boss x=none){y:Tm×Tm}{new:Bd}(hz:new.length≤2):3 * (W.length - (boss++[y]).length)+(td++new).length < n:=by
   have:=h.room hx hl
   rw[A4,List.length_append]; omega
  rw[ha,hb]
  refine(?_:yZ W equal (X6 (λboss D=>D9 n boss D) boss td a b))
  unfold X6
  by_cases e:a=b
  ·rw[if_pos e]
   exact F9 hW hL n boss td (h.drop ⟨a,ha,e ▸ hb⟩) (Nat.lt_of_succ_lt_succ hn)
  rw[if_neg e]
  have hE:=Eqv.new ha hb e
  by_cases hv:a.hd.isVar=true
  ·rw[if_pos hv,←List.append_nil td]
   exact F9 hW hL n _ _ (h.bind sV tP hla hlb e hE.1 hs (λ_ h=>(List.not_mem_nil h).elim) (λh=>Lc (hv.symm.trans h)) λq _ k hk=>(List.not_mem_nil hk).elim) (fuel sV hla (Nat.zero_le 2))
  rw[if_neg hv]
  by_cases hv2:b.hd.isVar=true
  ·rw[if_pos hv2,←List.append_nil td]
   exact F9 hW hL n _ _ (h.bind tP sV hlb hla (Ne.symm e) hE.2 (λq hq h=>(hs q hq h).symm) (λ_ h=>(List.not_mem_nil h).elim) (λh=>Lc (hv2.symm.trans h)) λq _ k hk=>(List.not_mem_nil hk).elim) (fuel tP hlb (Nat.zero_le 2))
  rw[if_neg hv2]
  have hav:=Bool.eq_false_iff.mpr hv
  have hbv:=Bool.eq_false_iff.mpr hv2
  by_cases hh:a.hd≠b.hd
  ·rw[if_pos hh]
   exact .none λq hq=>have x:=h.fwd q hq; Ni hav hbv hh (hs q x.1 (x.2 p (List.mem_append_right _ (.head _))))
  rw[if_neg hh]
  have hh:=Decidable.not_not.mp hh
  have hkl:=Dq (hL a sV) (hL b tP) hh
  exact F9 hW hL n _ _ (h.bind sV tP hla hlb e hE.1 hs (hZ (hW a sV) (hW b tP)) (λ_=>⟨hbv,hh,λk hk=>hk⟩) λq h=>(zip_map hkl).mp ((Gs hav hbv hh).mp h)) (fuel sV hla (by rw[List.length_zip]; exact Nat.le_trans (Nat.min_le_left ..) (l0 a)))
end
theorem Kr{g:Tm→Option Bool}:∀{l:List Tm},allM g l=some false→∃a∈l,g a=some false
 | [],h=>Lc (Option.some.inj h)
 | a::l,h=>(Option.bind_eq_some_iff.mp h).elim λx q=>match x,q with
  | false,q=>⟨a,.head _,q.1⟩
  | true,q=>(Kr q.2).imp λy z=>⟨.tail _ z.1,z.2⟩
theorem Nl{g:Tm→Option Bool}:∀{l:List Tm},allM g l=some true→∀a∈l,g a=some true
 | [],_=>λ_ h=>(List.not_mem_nil h).elim
 | a::l,h=>(Option.bind_eq_some_iff.mp h).elim λx q=>match x,q with
  | false,q=>no (Option.some.inj q.2)
  | true,q=>List.forall_mem_cons.mpr ⟨q.1,Nl q.2⟩
theorem Nm{g:Tm→Option Bool}:∀{l:List Tm},(∀a∈l,∃b,g a=some b)→∃b,allM g l=some b
 | [],_=>⟨true,rfl⟩
 | a::l,h=>(h a (.head _)).elim λx q=>match x,q with
  | false,q=>⟨false,Option.bind_eq_some_iff.mpr ⟨false,q,rfl⟩⟩
  | true,q=>(Nm λy hy=>h y (.tail _ hy)).imp λb z=>Option.bind_eq_some_iff.mpr ⟨true,q,z⟩
theorem Ks{W:List Tm}(hW:∀t∈W,∀a∈t.kids,a∈W){f:Bd}(hf:∀p∈f,p.2∈W) (hw:Wk f):∀(n:Nat) (t:Tm) (path:List Tm),t∈W→path.Nodup→(∀x∈path,x∈W)→W.length < n+path.length→∃b,B8 n f t path=some b
 | 0,t,path,ht,hn,hp,hl=>absurd (hn.length_le_of_subset hp) (Nat.not_le.mpr (Nat.zero_add path.length ▸ hl))
 | n+1,t,path,ht,hn,hp,hl=>by
  obtain⟨r,hr⟩:=hw t
  have hrW:r∈W:=D6 (D:=(·∈W)) hf ht hr
  refine(?_:∃b,(walk (f.length+1) f t).bind _=some b)
  rw[hr]
  refine(?_:∃b,(if r∈path then some false else allM (λx=>B8 n f x (path++[r])) r.kids)=some b)
  by_cases e:r∈path
  ·rw[if_pos e]; exact⟨_,rfl⟩
  ·rw[if_neg e]
   exact Nm λa ha=>Ks hW hf hw n a _ (hW r hrW a ha) (Bp hn e) (List.forall_mem_append.mpr ⟨hp,List.forall_mem_singleton.mpr hrW⟩) (by rw[List.length_append]; exact Nat.lt_of_lt_of_le hl (Nat.le_of_eq (Nat.add_right_comm n 1 _)))
theorem Nn{n:Nat}{f:Bd}{t:Tm}{path:List Tm}{b:Bool}(h:B8 (n+1) f t path=some b):∃r,walk (f.length+1) f t=some r∧(if r∈path then some false else allM (λx=>B8 n f x (path++[r])) r.kids)=some b:=Option.bind_eq_some_iff.mp h
theorem Gu{q:Su}{f:Bd}(hq:Aa q f):∀{n:Nat}{t:Tm}{path:List Tm},B8 n f t path=some false→∃x∈path,(app q x).nest≤(app q t).nest
 | 0,t,path,h=>nomatch h
 | n+1,t,path,h=>by
  obtain⟨r,hr,h⟩:=Nn h
  rw[F8 hq hr]
  by_cases e:r∈path
  ·exact⟨r,e,Nat.le_refl _⟩
  ·obtain⟨a,ha,h⟩:=Kr ((if_neg e).symm.trans h)
   obtain⟨x,hx,hle⟩:=Gu hq h
   have:=Hv (s:=q) ha
   exact(List.mem_append.mp hx).elim (λhx=>⟨x,hx,Nat.le_of_lt (Nat.lt_of_le_of_lt hle this)⟩) λhx=>absurd (List.mem_singleton.mp hx ▸ hle) (Nat.not_le.mpr this)
noncomputable def rs:Nat→Bd→Tm→Option Tm
 | 0,_,_=>none
 | n+1,f,t=>(walk (f.length+1) f t).bind (t4 (rs n f))
noncomputable def RS(f:Bd) (t:Tm):Prop:=∃n u,rs n f t=some u
theorem Qe{g:Tm→Option Tm}:∀{t:Tm},(∀a∈t.kids,∃u,g a=some u)→∃u,t4 g t=some u
 | .leaf h,_=>⟨_,rfl⟩
 | .un h a,k=>(k a (.head _)).elim λu e=>⟨_,congrArg (Option.map (Tm.un h)) e⟩
 | .bin h a b,k=>(k a (.head _)).elim λu e=>(k b (.tail _ (.head _))).elim λv e'=>⟨.bin h u v,Option.bind_eq_some_iff.mpr ⟨u,e,congrArg (Option.map _) e'⟩⟩
theorem Ee{g:Tm→Option Tm}{t u a:Tm}(e:t4 g t=some u) (ha:a∈t.kids):∃y∈u.kids,g a=some y :=
 (List.mem_map.mp ((G8 e).1 ▸ List.mem_map_of_mem (f:=g) ha)).imp λy q=>⟨q.1,q.2.symm⟩
theorem Ws{g:Tm→Option Tm}{u:Tm}:∀{t:Tm},t.kids.map g=u.kids.map some→u.hd=t.hd→t4 g t=some u
 | .leaf h,k,e=>congrArg some (Fg e.symm (List.map_eq_nil_iff.mp k.symm).symm)
 | .un h a,k,e=>(List.map_eq_cons_iff.mp k.symm).elim λy q=>q.elim λl q=>(congrArg (Option.map (Tm.un h)) q.2.1.symm).trans (congrArg some (Fg e.symm (q.1.trans (congrArg (y::·) (List.map_eq_nil_iff.mp q.2.2))).symm))
 | .bin h a b,k,e=>by
  obtain⟨y,l,k1,e1,k2⟩:=List.map_eq_cons_iff.mp k.symm
  obtain⟨z,l',rfl,e2,k3⟩:=List.map_eq_cons_iff.mp k2
  obtain rfl:=List.map_eq_nil_iff.mp k3
  exact Option.bind_eq_some_iff.mpr ⟨y,e1.symm,Option.map_eq_some_iff.mpr ⟨z,e2.symm,Fg e.symm k1.symm⟩⟩
theorem Zu:∀{n:Nat}{f:Bd}{t u:Tm},rs n f t=some u→rs (n+1) f t=some u
 | 0,f,t,u,h=>nomatch h
 | n+1,f,t,u,h=>(Option.bind_eq_some_iff.mp h).elim λr q=>Option.bind_eq_some_iff.mpr ⟨r,q.1,(Ll λa ha=>(Ee q.2 ha).elim λy z=>z.2.trans (Zu z.2).symm).symm.trans q.2⟩
theorem Zv{n m:Nat}{f:Bd}{t u:Tm}(h:rs n f t=some u) (hm:n≤m):rs m f t=some u:=by
 induction hm with
 | refl=>exact h
 | step _ ih=>exact Zu ih
theorem sW{n m:Nat}{f:Bd}{t u v:Tm}(h:rs n f t=some u) (h':rs m f t=some v):u=v:=Option.some.inj ((Zv h (Nat.le_max_left n m)).symm.trans (Zv h' (Nat.le_max_right n m)))
theorem Tt:∀{n:Nat}{f:Bd}{t:Tm}{path:List Tm},B8 n f t path=some true→∃u,rs n f t=some u
 | 0,f,t,path,h=>nomatch h
 | n+1,f,t,path,h=>(Nn h).elim λr q=>by
  by_cases e:r∈path
  ·exact no (Option.some.inj ((if_pos e).symm.trans q.2))
  ·exact(Qe λa ha=>Tt (Nl ((if_neg e).symm.trans q.2) a ha)).imp λu z=>Option.bind_eq_some_iff.mpr ⟨r,q.1,z⟩
theorem Qf{q:Su}{f:Bd}(hq:Aa q f):∀{n:Nat}{t u:Tm},rs n f t=some u→app q u=app q t
 | 0,t,u,h=>nomatch h
 | n+1,t,u,h=>by
  obtain⟨r,hr,h⟩:=Option.bind_eq_some_iff.mp h
  rw[F8 hq hr]
  cases r with
  | leaf h'=>exact congrArg (app q) (Option.some.inj h).symm
  | un h' a =>
   obtain⟨x,hx,rfl⟩:=Option.map_eq_some_iff.mp h
   exact congrArg (Tm.un h') (Qf hq hx)
  | bin h' a b =>
   obtain⟨x,hx,h⟩:=Option.bind_eq_some_iff.mp h
   obtain⟨y,hy,rfl⟩:=Option.map_eq_some_iff.mp h
   exact cM (Qf hq hx) (Qf hq hy)
noncomputable def su(f:Bd):Su:=λh=>if e:RS f (.leaf h) then Classical.choose (Classical.choose_spec e) else .leaf h
theorem Zw{f:Bd}{h:Hd}{n:Nat}{u:Tm}(e:rs n f (.leaf h)=some u):su f h=u :=
 have hx:RS f (.leaf h):=⟨n,u,e⟩
 (dif_pos hx).trans (sW (Classical.choose_spec (Classical.choose_spec hx)) e)
noncomputable def Tu(f:Bd) (t:Tm):Option Tm:=walk (f.length+1) f t
theorem Eqv.fin{f:Bd}{p:Tm×Tm}(h:Eqv f p):Tu f p.1=Tu f p.2:=h.elim λr h=>h.1.trans h.2.symm
theorem jM{n:Nat}{f:Bd}{a b:Tm}(h:Tu f a=Tu f b):rs n f a=rs n f b:=match n with
 | 0=>rfl
 | n+1=>congrArg (·.bind (t4 (rs n f))) h
theorem Kt{β γ:Type}{φ:Tm→β}{ψ:Tm→γ}(h:∀a b,φ a=φ b→ψ a=ψ b):∀{l m:List Tm},l.map φ=m.map φ→l.map ψ=m.map ψ
 | [],[],_=>rfl
 | [],_::_,e=>nomatch e
 | _::_,[],e=>nomatch e
 | a::l,b::m,e=>(List.cons_eq_cons (a:=ψ a)).mpr ⟨h a b (List.cons.inj e).1,Kt h (List.cons.inj e).2⟩
section
variable {W:List Tm}{equal boss:Bd}(h:JI W equal boss []) (hL:∀x∈W,x.A3=true)
include h hL
theorem JI.root{n:Nat}{t r:Tm}(hv:t.hd.isVar=false) (e:walk n boss t=some r):r.hd=t.hd∧t.kids.map (Tu boss)=r.kids.map (Tu boss) :=
 W9 (P:=λt=>t.hd.isVar=false→r.hd=t.hd∧t.kids.map (Tu boss)=r.kids.map (Tu boss)) (λ_ _=>⟨rfl,rfl⟩) (λk v e ih hv =>
  have m:=i7 e
  have s:=h.shape _ m hv
  have i:=ih s.1
  ⟨i.1.trans s.2.1.symm,((zip_map (Dq (hL _ (h.jK _ m).1) (hL _ (h.jK _ m).2) s.2.1)).mpr λk hk=>(s.2.2 k hk).elim (λz=>(List.not_mem_nil z).elim) Eqv.fin).trans i.2⟩) e hv
theorem JI.jN{n:Nat}{t u:Tm}(hv:t.hd.isVar=false) (e:rs (n+1) boss t=some u):t4 (rs n boss) t=some u:=by
 obtain⟨r,hr,e⟩:=Option.bind_eq_some_iff.mp e
 have x:=h.root hL hv hr
 have k:=G8 e
 exact Ws ((Kt (λ_ _=>jM) x.2).trans k.1) (k.2.trans x.1)
theorem JI.ap(hW:∀t∈W,∀a∈t.kids,a∈W):∀{n:Nat}{t u:Tm},t∈W→rs n boss t=some u→app (su boss) t=u
 | 0,t,u,ht,e=>nomatch e
 | n+1,t,u,ht,e=>by
  by_cases hv:t.hd.isVar=true
  ·obtain⟨_,g,rfl⟩:=C6 (hL t ht) hv
   exact(o7 hv).trans (Zw e)
  ·have e:=h.jN hL (Bool.eq_false_iff.mpr hv) e
   have hk:=hW t ht
   cases t with
   | leaf x=>exact(if_neg hv).trans (Option.some.inj e)
   | un x a =>
    obtain⟨y,hy,rfl⟩:=Option.map_eq_some_iff.mp e
    exact congrArg (Tm.un x) (JI.ap hW (hk a (.head _)) hy)
   | bin x a b =>
    obtain⟨y,hy,e⟩:=Option.bind_eq_some_iff.mp e
    obtain⟨z,hz,rfl⟩:=Option.map_eq_some_iff.mp e
    exact cM (JI.ap hW (hk a (.head _)) hy) (JI.ap hW (hk b (.tail _ (.head _))) hz)
end
structure jO(equal bd:Bd) (s:Su):Prop where
 sol:Aa s equal
 gen:∀q,Aa q equal→∀g,g.isVar=true→app q (s g)=q g
 free:∀g,g.isVar=true→e9 bd (.leaf g)=none→s g=.leaf g
 bound:∀g,g.isVar=true→∀v,e9 bd (.leaf g)=some v→s g≠.leaf g
 nd:(bd.map (·.1)).Nodup
 keys:∀p∈bd,p.1.hd.isVar=true→p.1∈V3
theorem Wt:∀t∈V3,∃g,t=.leaf g∧g.isVar=true:=List.forall_mem_cons.mpr ⟨⟨_,rfl,rfl⟩,List.forall_mem_cons.mpr ⟨⟨_,rfl,rfl⟩,List.forall_mem_singleton.mpr ⟨_,rfl,rfl⟩⟩⟩
theorem jP:V3.Nodup:=by decide +kernel
noncomputable def Ej(s:Su):List Tm:=V3.filter λt=>decide (app s t=t)
theorem F1{s:Su}{t:Tm}:t∈Ej s↔t∈V3∧app s t=t:=List.mem_filter.trans (and_congr_right λ_=>decide_eq_true_iff)
theorem jQ{s:Su}{g:Hd}(hg:g.isVar=true):∀{u:Tm},app s u=.leaf g→∃g',u=.leaf g'∧g'.isVar=true
 | .leaf g',e=>by
  by_cases v:g'.isVar=true
  ·exact⟨g',rfl,v⟩
  ·exact⟨g',rfl,(congrArg (λt:Tm=>t.hd.isVar) ((if_neg v).symm.trans e)).trans hg⟩
 | .un _ _,e=>nomatch e
 | .bin _ _ _,e=>nomatch e
section
variable {equal b1 b2 bd:Bd}{s1 s2 s:Su}
theorem jO.Tv(m1:jO equal b1 s1) (m2:jO equal b2 s2):(Ej s1).length≤(Ej s2).length:=by
 have key (t:Tm):app s1 (app s2 t)=app s1 t:=L9 (m2.gen s1 m1.sol) t
 have nd:((Ej s1).map (app s2)).Nodup:=List.pairwise_map.mpr ((jP.filter _).imp_of_mem fun {a b} ha hb n e=>n ((F1.mp ha).2.symm.trans ((key a).symm.trans ((congrArg (app s1) e).trans ((key b).trans (F1.mp hb).2)))))
 refine(List.length_map (as:=Ej s1) _) ▸ nd.length_le_of_subset (List.forall_mem_map.mpr λt ht=>?_)
 obtain⟨ht,he⟩:=F1.mp ht
 obtain⟨g,rfl,hg⟩:=Wt t ht
 have h1:=(key (.leaf g)).trans he
 refine F1.mpr ⟨?_,L9 (m2.gen s2 m2.sol) _⟩
 obtain⟨g',e,hg'⟩:=jQ hg h1
 rw[e,o7 hg'] at h1
 rw[e]
 cases hl:e9 b1 (.leaf g') with
 | some v=>exact m1.keys _ (i7 hl) hg'
 | none=>exact(m1.free g' hg' hl).symm.trans h1 ▸ ht
theorem jO.count(m:jO equal bd s):(bd.filter λp=>p.1.hd.isVar).length+(Ej s).length=V3.length:=by
 have vk {x:Tm}(hx:x∈(bd.filter λp=>p.1.hd.isVar).map (·.1)):∃g v,x=.leaf g∧g.isVar=true∧x∈V3∧e9 bd x=some v:=by
  obtain⟨p,hp,rfl⟩:=List.mem_map.mp hx
  obtain⟨hp,hv⟩:=List.mem_filter.mp hp
  have h3:=m.keys p hp hv
  obtain⟨g,e,hg⟩:=Wt _ h3
  exact(Option.isSome_iff_exists.mp (Z4.mpr (List.mem_map_of_mem (f:=(·.1)) hp))).elim λv q=>⟨g,v,e,hg,h3,q⟩
 have nd:((bd.filter λp=>p.1.hd.isVar).map (·.1)++Ej s).Nodup:=List.nodup_append.mpr ⟨m.nd.sublist (List.filter_sublist.map _),jP.filter _,λx hx y hy e=>by
  obtain⟨g,v,rfl,hg,_,q⟩:=vk hx
  exact m.bound g hg v q ((o7 hg).symm.trans (F1.mp (e ▸ hy)).2)⟩
 have len:((bd.filter λp=>p.1.hd.isVar).map (·.1)++Ej s).length=(bd.filter λp=>p.1.hd.isVar).length+(Ej s).length:=by rw[List.length_append,List.length_map]
 refine len ▸ Nat.le_antisymm (nd.length_le_of_subset (List.forall_mem_append.mpr ⟨λx hx=>(vk hx).elim λg q=>q.elim λv q=>q.2.2.1,λx hx=>(F1.mp hx).1⟩)) (jP.length_le_of_subset λt ht=>?_)
 obtain⟨g,rfl,hg⟩:=Wt t ht
 cases hl:e9 bd (.leaf g) with
 | some v=>exact List.mem_append_left _ (List.mem_map.mpr ⟨_,List.mem_filter.mpr ⟨i7 hl,hg⟩,rfl⟩)
 | none=>exact List.mem_append_right _ (F1.mpr ⟨ht,(o7 hg).trans (m.free g hg hl)⟩)
theorem jO.same(m1:jO equal b1 s1) (m2:jO equal b2 s2):(b1.filter λp=>p.1.hd.isVar).length=(b2.filter λp=>p.1.hd.isVar).length :=
 Nat.add_right_cancel ((m1.count.trans m2.count.symm).trans (congrArg (_+·) (Nat.le_antisymm (m2.Tv m1) (m1.Tv m2))))
end
theorem UI.mgu{f equal:Bd}{s:Su}(u:UI f s) (h:∀q,Aa q f↔Aa q equal):jO equal f s where
 sol:=(h s).mp u.sol
 gen:=λq hq=>u.gen q ((h q).mpr hq)
 free:=u.free
 bound:=λg hg v hl=>(u.wk (.leaf g)).elim λr hr =>
  have hn:=k9 hr
  λe=>u.stay hg (u.jG (u.pW _ (i7 hl)).1 hr) hn (λz=>g9 (j3 hl) (z ▸ hn)) ((F8 u.sol hr).symm.trans ((o7 hg).trans e))
 nd:=u.nd
 keys:=λp hp hv=>u.in3 p hp
theorem JI.mgu{W:List Tm}(hW:∀t∈W,∀a∈t.kids,a∈W){equal boss:Bd}(h:JI W equal boss []) (hL:∀x∈W,x.A3=true) (hall:∀t∈W,RS boss t) (hE:∀p∈equal,p.1∈W∧p.2∈W):jO equal boss (su boss) where
 sol:=λp hp=>(hall _ (hE p hp).1).elim λn e=>e.elim λu e=>(h.eq p hp).elim (λz=>(List.not_mem_nil z).elim) λz=>(h.ap hL hW (hE p hp).1 e).trans (h.ap hL hW (hE p hp).2 ((jM z.fin).symm.trans e)).symm
 gen:=λq hq g hg=>by
  by_cases e:RS boss (.leaf g)
  ·exact e.elim λn e=>e.elim λu e=>(congrArg (app q) (Zw e)).trans ((Qf (h.fwd q hq).1 e).trans (o7 hg))
  ·exact(congrArg (app q) (dif_neg e)).trans (o7 hg)
 free:=λg hg hl=>Zw (n:=1) (Option.bind_eq_some_iff.mpr ⟨_,Ed hl,rfl⟩)
 bound:=λg hg v hl e=>by
  obtain⟨n,u,e2⟩:=hall _ (h.jK _ (i7 hl)).1
  obtain rfl:=e.symm.trans (Zw e2)
  cases n with
  | zero=>cases e2
  | succ n =>
   obtain⟨r,hr,e2⟩:=Option.bind_eq_some_iff.mp e2
   have k:=G8 e2
   obtain rfl:r=.leaf g:=Fg k.2.symm (List.map_eq_nil_iff.mp k.1)
   exact g9 (j3 hl) (k9 hr)
 nd:=h.nd
 keys:=λp hp hv=>(C6 (hL _ (h.jK p hp).1) hv).1
noncomputable def N2:Tm→List Tm
 | .leaf h=>[.leaf h]
 | .un h a=>.un h a::N2 a
 | .bin h a b=>.bin h a b::(N2 a++N2 b)
theorem P6(t:Tm):t∈N2 t:=by cases t<;>exact .head _
theorem P7{P:Tm→Prop}(step:∀x,P x→∀a∈x.kids,P a):∀{t:Tm},P t→∀x∈N2 t,P x
 | .leaf h,p=>List.forall_mem_singleton.mpr p
 | .un h a,p=>List.forall_mem_cons.mpr ⟨p,P7 step (step _ p a (.head _))⟩
 | .bin h a b,p=>List.forall_mem_cons.mpr ⟨p,List.forall_mem_append.mpr ⟨P7 step (step _ p a (.head _)),P7 step (step _ p b (.tail _ (.head _)))⟩⟩
theorem Y1:∀{t:Tm},∀x∈N2 t,∀a∈x.kids,a∈N2 t
 | .leaf h=>List.forall_mem_singleton.mpr λ_ h=>(List.not_mem_nil h).elim
 | .un h b=>List.forall_mem_cons.mpr ⟨List.forall_mem_singleton.mpr (.tail _ (P6 b)),λx hx a ha=>.tail _ (Y1 x hx a ha)⟩
 | .bin h b c=>List.forall_mem_cons.mpr ⟨List.forall_mem_cons.mpr ⟨.tail _ (List.mem_append_left _ (P6 b)),List.forall_mem_singleton.mpr (.tail _ (List.mem_append_right _ (P6 c)))⟩,List.forall_mem_append.mpr ⟨λx hx a ha=>.tail _ (List.mem_append_left _ (Y1 x hx a ha)),λx hx a ha=>.tail _ (List.mem_append_right _ (Y1 x hx a ha))⟩⟩
theorem J1:∀t:Tm,(N2 t).length=t.weight
 | .leaf h=>rfl
 | .un h a=>(congrArg (·+1) (J1 a)).trans (Nat.add_comm ..)
 | .bin h a b=>(congrArg (·+1) (List.length_append.trans (congr (congrArg HAdd.hAdd (J1 a)) (J1 b)))).trans ((Nat.add_comm ..).trans (Nat.add_assoc ..).symm)
noncomputable def Br(equal:Bd):List Tm:=equal.flatMap λp=>N2 p.1++N2 p.2
theorem Hw{equal:Bd}:∀p∈equal,∀x,(x∈N2 p.1∨x∈N2 p.2)→x∈Br equal:=λp hp x h=>List.mem_flatMap.mpr ⟨p,hp,List.mem_append.mpr h⟩
theorem Qg{equal:Bd}{P:Tm→Prop}(h:∀p∈equal,(∀x∈N2 p.1,P x)∧∀x∈N2 p.2,P x):∀x∈Br equal,P x:=λx hx=>(List.mem_flatMap.mp hx).elim λp q=>(List.mem_append.mp q.2).elim ((h p q.1).1 x) ((h p q.1).2 x)
theorem Ef{equal:Bd}:∀t∈Br equal,∀a∈t.kids,a∈Br equal:=Qg λp hp=>⟨λx hx a ha=>Hw p hp a (.inl (Y1 x hx a ha)),λx hx a ha=>Hw p hp a (.inr (Y1 x hx a ha))⟩
inductive zA(m:Nat) (boss l:Bd):Option Bool→Prop
 | yes (h:∀p∈l,B8 m boss p.1 []=some true∧B8 m boss p.2 []=some true):zA m boss l (some true)
 | no {t:Tm}(h:B8 m boss t []=some false):zA m boss l (some false)
theorem Ku{m:Nat}{boss:Bd}:∀{l:Bd},(∀p∈l,(∃b,B8 m boss p.1 []=some b)∧∃b,B8 m boss p.2 []=some b)→zA m boss l (E0 m boss l)
 | [],_=>.yes λ_ h=>(List.not_mem_nil h).elim
 | p::l,h=>by
  obtain⟨⟨b1,h1⟩,b2,h2⟩:=h p (.head _)
  have h3:=Ku (m:=m) (boss:=boss) (l:=l) λx hx=>h x (.tail _ hx)
  refine(?_:zA m boss _ ((B8 m boss p.1 []).bind λx=>cond x ((B8 m boss p.2 []).bind λy=>cond y (E0 m boss l) (some false)) (some false)))
  generalize E0 m boss l=o at h3
  cases b1 with
  | false=>rw[h1]; exact .no h1
  | true =>
   cases b2 with
   | false=>rw[h1,h2]; exact .no h2
   | true =>
    rw[h1,h2]
    exact match h3 with
     | .yes h3=>.yes (List.forall_mem_cons.mpr ⟨⟨h1,h2⟩,h3⟩)
     | .no h3=>.no h3
inductive JR(equal:Bd):Option (Option Bd)→Prop
 | none (no:∀q,¬Aa q equal):JR equal (some none)
 | some {boss:Bd}{s:Su}(z:boss.length≤1000) (m:jO equal boss s):JR equal (some (some boss))
theorem nM{equal:Bd}(xV:∀p∈equal,p.1.A3=true∧p.2.A3=true) (hlen:equal.length≤2) (hz:(Br equal).length≤140):JR equal (join 10000 150 equal):=by
 have hL:∀t∈Br equal,t.A3=true:=Qg λp hp=>⟨P7 (λx hx a ha=>Ds hx ha) (xV p hp).1,P7 (λx hx a ha=>Ds hx ha) (xV p hp).2⟩
 have hE:∀p∈equal,p.1∈Br equal∧p.2∈Br equal:=λp hp=>⟨Hw p hp _ (.inl (P6 _)),Hw p hp _ (.inr (P6 _))⟩
 have J0:JI (Br equal) equal [] equal:=⟨.nil,λ_ h=>(List.not_mem_nil h).elim,hE,λt=>⟨t,rfl⟩,λ_ h=>(List.not_mem_nil h).elim,λp hp=>.inl hp,λq hq=>⟨λ_ h=>(List.not_mem_nil h).elim,hq⟩⟩
 have h1:=F9 Ef hL 10000 [] equal J0 (Nat.lt_of_le_of_lt (Nat.add_le_add (Nat.mul_le_mul_left 3 (Nat.le_trans (Nat.sub_le ..) hz)) hlen) (by decide))
 refine(?_:JR equal ((D9 10000 [] equal).bind λo=>o.elim (some none) λboss=>(E0 150 boss equal).map λx=>cond x (some boss) none))
 generalize D9 10000 [] equal=o at h1
 match h1 with
 | .none no=>exact .none no
 | .some (boss:=boss) J =>
  have ts (t:Tm) (ht:t∈Br equal):∃b,B8 150 boss t []=some b:=Ks Ef (λp hp=>(J.jK p hp).2) J.wk 150 t [] ht .nil (λ_ h=>(List.not_mem_nil h).elim) (Nat.lt_of_le_of_lt hz (by decide))
  have h2:=Ku (m:=150) (boss:=boss) (l:=equal) λp hp=>⟨ts _ (hE p hp).1,ts _ (hE p hp).2⟩
  refine(?_:JR equal ((E0 150 boss equal).map λx=>cond x (some boss) none))
  generalize E0 150 boss equal=o at h2
  match h2 with
  | .no ht=>exact .none λq hq=>(Gu (J.fwd q hq).1 ht).elim λx hx=>List.not_mem_nil hx.1
  | .yes hT =>
   have go {t:Tm}(ht:t∈Br equal) (h:B8 150 boss t []=some true):∀x∈N2 t,RS boss x:=λx hx=>(P7 (P:=λx=>x∈Br equal∧RS boss x) (λx p a ha=>⟨Ef x p.1 a ha,?_⟩) ⟨ht,(Tt h).elim λu e=>⟨_,u,e⟩⟩ x hx).2
   ·exact .some (Nat.le_trans J.len (Nat.le_trans hz (by decide))) (J.mgu Ef hL (Qg λp hp=>⟨go (hE p hp).1 (hT p hp).1,go (hE p hp).2 (hT p hp).2⟩) hE)
   obtain⟨hx,n,u,e⟩:=p
   have nv:x.hd.isVar=false:=Bool.eq_false_iff.mpr λv=>(C6 (hL x hx) v).2.elim λg e=>List.not_mem_nil (e ▸ ha:a∈(Tm.leaf g).kids)
   cases n with
   | zero=>cases e
   | succ n=>exact(Ee (J.jN hL nv e) ha).elim λy q=>⟨n,y,q.2⟩
theorem Tw{q:Su}{p:Tm×Tm}{l:Bd}:Aa q (p::l)↔app q p.1=app q p.2∧Aa q l:=List.forall_mem_cons
theorem nN{rest:Bd}(h:Rest rest):∃s,UI rest s:=by
 rcases h with rfl | ⟨z,hz,hy,rfl⟩
 ·exact⟨_,UI.nil⟩
 ·have hne:tY≠z:=λe=>no ((e ▸ hy:Uj (.var 1) tY=false).symm.trans (decide_eq_true rfl))
  have h:=Ko UI.nil (a:=tY) (b:=z) ⟨by decide +kernel,by decide +kernel⟩ ⟨hz.1,Nat.le_trans hz.3 (by decide)⟩ rfl rfl rfl hne
  generalize e:Dh [] tY z=o at h
  match h with
  | .ok (s':=s') u _ _ =>
   obtain rfl:=Di e
   exact⟨s',u⟩
  | .bad no=>exact absurd ((Y0 hy).symm ▸ (if_pos rfl:app (Fi (.var 1) z) tY=z)) (no (Fi (.var 1) z) λ_ h=>(List.not_mem_nil h).elim)
theorem cN:X9:=by
 intro a b ha hb rest hrest
 obtain⟨s,u⟩:=nN hrest
 have haU:U6 a:=⟨ha.1,ha.3⟩
 have hbU:U6 b:=⟨hb.1,hb.3⟩
 have zB:∀p∈(a,b)::rest,U6 p.1∧U6 p.2:=List.forall_mem_cons.mpr ⟨⟨haU,hbU⟩,u.pW⟩
 have hlen:rest.length≤1:=hrest.elim (λe=>e ▸ Nat.zero_le 1) λh=>h.elim λz h=>h.2.2 ▸ Nat.le_refl 1
 have hz:(Br ((a,b)::rest)).length≤140:=by
  have l1:(N2 a++N2 b).length≤126:=by rw[List.length_append,J1,J1]; exact Nat.add_le_add (ha.light (Nat.le_refl 6)) (hb.light (Nat.le_refl 6))
  have l2:(Br rest).length≤14:=hrest.elim (λe=>e ▸ Nat.zero_le 14) λh=>h.elim λz h=>h.2.2 ▸ by
   refine(?_:((N2 tY++N2 z)++[]).length≤14)
   rw[List.append_nil,List.length_append,J1,J1]
   exact Nat.add_le_add (Nat.le_refl 1) (Nat.le_of_succ_le_succ (m:=13) (Nat.le_trans (Nat.le_trans (H4 z) (Nat.pow_le_pow_right (by decide) h.1.3)) (by decide:2 ^ 2≤14)))
  refine(?_:((N2 a++N2 b)++Br rest).length≤140)
  rw[List.length_append]; exact Nat.add_le_add l1 l2
 have hj:=nM (λp hp=>⟨(zB p hp).1.1,(zB p hp).2.1⟩) (Nat.succ_le_succ hlen) hz
 have hun (x y:Tm) (hxy:x=a∧y=b∨x=b∧y=a):U6 x∧U6 y∧∀q,(Aa q rest∧app q x=app q y)↔Aa q ((a,b)::rest):=hxy.elim (λe=>by rw[e.1,e.2]; exact⟨haU,hbU,λq=>and_comm.trans (Tw (q:=q) (p:=(a,b)) (l:=rest)).symm⟩) λe=>by rw[e.1,e.2]; exact⟨hbU,haU,λq=>(and_comm.trans (and_congr_left λ_=>eq_comm)).trans (Tw (q:=q) (p:=(a,b)) (l:=rest)).symm⟩
 have hm (x:Tm) (hx:U6 x):(app s x).nest+SQ rest.length≤110:=Nat.le_trans (Nat.add_le_add_right (u.size x hx.2) _) ((by decide +kernel:∀k,k≤1→NN k+SQ k≤110) _ hlen)
 generalize join 10000 150 ((a,b)::rest)=o at hj
 match hj with
 | .none no =>
  refine⟨none,rfl,(λ_ e=>nomatch e),λx y hxy=>?_⟩
  obtain⟨hx,hy,hS⟩:=hun x y hxy
  have h:=Kp 110 rest s x y u hx hy (hm x hx)
  generalize B9 110 rest x y=o at h
  match h with
  | .bad (f':=f') _=>exact⟨f',rfl,λ_ e=>nomatch e⟩
  | .ok (s':=s') u' sol _=>exact(no s' ((hS s').mp ((sol s').mp u'.sol))).elim
 | .some (boss:=boss) (s:=s2) z m =>
  refine⟨some boss,rfl,(λ_ e=>Option.some.inj e ▸ z),λx y hxy=>?_⟩
  obtain⟨hx,hy,hS⟩:=hun x y hxy
  have h:=Kp 110 rest s x y u hx hy (hm x hx)
  generalize B9 110 rest x y=o at h
  match h with
  | .bad no=>exact absurd ((hS s2).mpr m.sol).2 (no s2 ((hS s2).mpr m.sol).1)
  | .ok (f':=f') (s':=s') u' sol _ =>
   have m':=u'.mgu λq=>(sol q).trans (hS q)
   refine⟨f',rfl,λ_ e=>Option.some.inj e ▸ ⟨u'.keys,?_,λp hp=>?_⟩⟩
   ·have e:f'.filter (λp=>p.1.hd.isVar)=f':=List.filter_eq_self.mpr u'.keys
    exact(congrArg List.length e).symm.trans (m'.same m)
   ·have full (t:Tm) (ht:U6 t):F7 170 f' t=some (app s' t)∧(app s' t).nest≤60 :=
     have z:=Nat.le_trans (u'.size t ht.2) (NS _ u'.len).1
     ⟨Kq u' 170 ht (u'.wk t) u'.len (Nat.le_trans (Nat.add_le_add (Nat.mul_le_mul_left 4 z) u'.len) (by decide)),Nat.le_trans z (by decide)⟩
    have x:=full p.1 (zB p hp).1
    exact⟨_,x.1,(full p.2 (zB p hp).2).1.trans (congrArg some (m'.sol p hp).symm),x.2⟩
noncomputable def gr:Nat→Tm→Tm
 | 0,b=>b
 | i+1,b=>.un .arr (.un .arr (.un .arr (.un .arr (.un .arr (.un .arr (gr i b))))))
noncomputable def tU:Tm:=.leaf (.val 75)
noncomputable def B1(b:Tm):Prop:=fld Tc 1 b=true
noncomputable def B40:List Tm:=G3.map Tm.leaf++Tc.flatMap λh=>G3.map λl=>.un h (.leaf l)
noncomputable def Un(t:Tm):Prop:=t=tU∨∃h∈A9,∃i,i < 4∧∃b,B1 b∧t=.un h (gr i b)
noncomputable def UL:List Tm:=tU::A9.flatMap λh=>(List.range 4).flatMap λi=>B40.map λb=>.un h (gr i b)
theorem Y2:∀{b:Tm},B1 b→(∃l∈G3,b=.leaf l)∨∃h∈Tc,∃l∈G3,b=.un h (.leaf l)
 | .leaf l,e=>.inl ⟨l,in_of e,rfl⟩
 | .un h (.leaf l),e=>an e λe1 e2=>.inr ⟨h,in_of e1,l,in_of e2,rfl⟩
 | .un h (.un _ _),e=>an e λ_ e=>no e
 | .un h (.bin _ _ _),e=>an e λ_ e=>no e
 | .bin _ _ _,e=>no e
theorem Qh{l:Hd}(h:l∈G3):B1 (.leaf l):=List.contains_iff_mem.mpr h
theorem Zx{t:Tm}(h:Un t):t∈UL:=by
 rcases h with rfl | ⟨h,hh,i,hi,b,hb,rfl⟩
 ·exact .head _
 ·exact .tail _ (List.mem_flatMap.mpr ⟨h,hh,List.mem_flatMap.mpr ⟨i,List.mem_range.mpr hi,List.mem_map_of_mem ((Y2 hb).elim (fun⟨l,hl,e⟩=>e ▸ List.mem_append_left _ (List.mem_map_of_mem hl)) fun⟨h,hh,l,hl,e⟩=>e ▸ List.mem_append_right _ (List.mem_flatMap.mpr ⟨h,hh,List.mem_map_of_mem hl⟩))⟩⟩)
theorem jR:UL.length=801:=by decide +kernel
theorem xW:∀t∈UL,t.A3=true∧t.ok=true∧t.stands=true∧chain t=true:=by decide +kernel
theorem xX{t:Tm}(h:Un t) (hd:deepOf t < 12):ST 12 t :=
 have q:=xW t (Zx h)
 ⟨⟨q.1,q.2.1,Nat.le_trans (Nat.le_of_eq (Bn q.2.2.2)) hd⟩,q.2.2.1,q.2.2.2⟩
theorem xY:∀{i:Nat}{b:Tm},(gr i b).hd=b.hd∨(gr i b).hd=.arr
 | 0,b=>.inl rfl
 | i+1,b=>.inr rfl
theorem Zy:∀(i:Nat) (b:Tm),deepOf (gr i b)=deepOf b+6 * i
 | 0,b=>rfl
 | i+1,b=>congrArg (·+6) (Zy i b)
theorem nO:Hd.arr.Ow=1:=rfl
theorem Tx:∀(i:Nat) (b:Tm),6 * i+1≤(gr i b).depth
 | 0,b=>by cases b<;>first | exact Nat.le_refl 1 | exact Nat.le_max_left 1 _ | exact Nat.le_trans (Nat.le_max_left 1 _) (Nat.le_max_left ..)
 | i+1,b=>by
  have:=Tx i b
  simp only[gr,Tm.depth,nO]; omega
theorem C8{a:Tm}{l:Hd}:l4 [(tX,a)] (.leaf l)=if l=.var 0 then a else .leaf l:=by
 by_cases e:l=.var 0
 ·subst e; rw[if_pos rfl]; exact Z2 Nj
 ·rw[if_neg e]; exact congrArg (λo:Option Tm=>o.getD (.leaf l)) (Bq λz:tX=.leaf l=>e (congrArg Tm.hd z).symm)
theorem B5{a b:Tm}{h:Hd}:l4 [(tX,a)] (.un h b)=.un h (l4 [(tX,a)] b):=congrArg (λo:Option Tm=>o.getD (.un h (l4 [(tX,a)] b))) (Bq λz:tX=.un h b=>nomatch z)
theorem nP{a:Tm}:l4 [(tX,a)] tG=.un (.val 68) (gr 1 a):=by
 refine(?_:l4 [(tX,a)] (.un (.val 68) (.un .arr (.un .arr (.un .arr (.un .arr (.un .arr (.un .arr (.leaf (.var 0)))))))))=_)
 rw[B5,B5,B5,B5,B5,B5,B5,C8,if_pos rfl]; rfl
theorem sX:∀h∈Tc,La.contains h=true→h∈A9:=by decide +kernel
theorem Qi:∀h∈G3,La.contains h=true→h=.val 75:=by decide +kernel
theorem xZ:∀h∈A9,La.contains h=true:=by decide +kernel
theorem Wu{f b:Tm}{i:Nat}(hf:B1 f) (hb:B1 b) (hs:La.contains (l4 [(tX,gr i b)] f).hd=true) :
  l4 [(tX,gr i b)] f=tU∨∃h∈A9,∃j,j≤i∧∃b',B1 b'∧l4 [(tX,gr i b)] f=.un h (gr j b')∧l4 [(tX,b)] f=.un h b':=by
 rcases Y2 hf with⟨l,hl,rfl⟩ | ⟨h,hh,l,hl,rfl⟩
 ·rw[C8] at hs ⊢
  rw[C8]
  by_cases e:l=.var 0
  ·rw[if_pos e] at hs ⊢
   rw[if_pos e]
   match i,hs with
   | 0,hs =>
    rcases Y2 hb with⟨l',hl',rfl⟩ | ⟨h',hh',l',hl',rfl⟩
    ·exact .inl (congrArg Tm.leaf (Qi _ hl' hs))
    ·exact .inr ⟨h',sX _ hh' hs,0,Nat.le_refl _,.leaf l',Qh hl',rfl,rfl⟩
   | i+1,hs=>exact absurd (show La.contains .arr=true from hs) (by decide +kernel)
  ·rw[if_neg e] at hs ⊢
   exact .inl (congrArg Tm.leaf (Qi _ hl hs))
 ·rw[B5] at hs ⊢
  rw[B5,C8,C8]
  refine .inr ⟨h,sX _ hh hs,?_⟩
  by_cases e:l=.var 0
  ·rw[if_pos e,if_pos e]
   exact⟨i,Nat.le_refl _,b,hb,rfl,rfl⟩
  ·rw[if_neg e,if_neg e]
   exact⟨0,Nat.zero_le _,.leaf l,Qh hl,rfl,rfl⟩
theorem Eg{hs hs':List Hd}(hh:∀h∈hs,h∈hs'):∀{k k':Nat}{t:Tm},k≤k'→fld hs k t=true→fld hs' k' t=true
 | k,k',.leaf h,_,e=>Td (in_of (by cases k<;>exact e))
 | 0,_,.un h a,_,e=>no e
 | k+1,0,.un h a,z,e=>absurd z (Nat.not_succ_le_zero k)
 | k+1,k'+1,.un h a,z,e=>an e λe1 e2=>Bool.and_eq_true_iff.mpr ⟨List.contains_iff_mem.mpr (hh h (in_of e1)),Eg hh (Nat.le_of_succ_le_succ z) e2⟩
 | 0,_,.bin h a b,_,e=>no e
 | k+1,_,.bin h a b,_,e=>no e
section
variable {D:Nat→List (Tm×Nat)}(hD:tL D)
include hD
theorem jS{j:Nat}{p:Tm×Nat}(hp:p∈z5 D j):fld (Te j) (Pt j) p.1=true∨(j=4∧p.1=tG):=by
 unfold z5 Ki at hp
 by_cases e:j=4
 ·rw[if_pos e] at hp
  exact(List.mem_append.mp hp).elim (λhp=>.inl ((hD j).1 p (e ▸ hp)).1) λhp=>.inr ⟨e,congrArg Prod.fst (List.mem_singleton.mp hp)⟩
 ·rw[if_neg e] at hp
  exact .inl ((hD j).1 p hp).1
theorem Wv{j:Nat}{p:Tm×Nat}(hp:p∈z5 D j):fld Tc 7 p.1=true :=
 (jS hD hp).elim (Eg (Pu j) (Nat.le_trans (Pv j) (by decide))) λe=>e.2 ▸ (by decide +kernel:fld Tc 7 tG=true)
theorem nQ{j:Nat}(h1:j≠0){p:Tm×Nat}(hp:p∈z5 D j):B1 p.1∨(j=4∧p.1=tG) :=
 (jS hD hp).imp_left (Eg (Pu j) (by unfold Pt; rw[if_neg h1]; exact Nat.le_refl 1))
theorem jT{p:Tm×Nat}(hp:p∈z5 D 0):fld Tc 2 p.1=true:=(jS hD hp).elim (Eg (Pu 0) (Pv 0)) λe=>absurd e.1 (by decide)
theorem jU(hG:(D 4).length≤1) (j:Nat):(z5 D j).length≤2 :=
 Dy (P:=λ_ (l:List (Tm×Nat))=>l.length≤2) (by rw[List.length_append]; exact Nat.succ_le_succ hG) λ_=>(hD j).2
theorem yA{j:Nat}{u:Tm}(hu:u∈Ht D j):ST 8 u:=(List.mem_map.mp hu).elim λp q=>q.2 ▸ Pw (λ_ h=>h) (Wv hD (List.mem_filter.mp q.1).1)
end
theorem Kv{α:Type}(l:List α):l=[]∨∃d a,l=d++[a]:=(List.eq_nil_or_concat l).imp_right λq=>q.imp λD q=>q.imp λk q=>q.trans List.concat_eq_append
theorem J2{P:Tm→Prop}{l:List Tm}{a:Tm}(h:∀x∈l,P x) (ha:P a):∀x∈l++[a],P x:=List.forall_mem_append.mpr ⟨h,List.forall_mem_singleton.mpr ha⟩
structure LOK(D:Nat→List Tm) (P:Tm→Prop) (met todo r:List Tm):Prop where
 P:∀t∈r,P t∧deepOf t < 12
 met:∀t∈met,t∈r
 todo:∀t∈todo,deepOf t < 12→t∈r
 cl:∀t∈r,∀u∈E5 D t,deepOf u < 12→u∈r
theorem Ww{D:Nat→List Tm}{W:List Tm}{P:Tm→Prop}(hW:∀t,P t→t∈W) (hl:∀t,(E5 D t).length≤3) (step:∀t,P t→deepOf t < 12→∀u∈E5 D t,P u) :
  ∀(n:Nat) (todo met:List Tm),(∀t∈todo,P t)→(∀t∈met,P t∧deepOf t < 12)→met.Nodup→(∀t∈met,∀u∈E5 D t,deepOf u < 12→u∈met∨u∈todo)→4 * (W.length - met.length)+todo.length < n→∃r,B4 D n todo met=some r∧LOK D P met todo r
 | 0,_,_,_,_,_,_,h=>(Nat.not_lt_zero _ h).elim
 | n+1,todo,met,ht,hm,hn,hc,h=>by
  rcases Kv todo with rfl | ⟨A,t,rfl⟩
  ·exact⟨met,rfl,hm,λ_=>id,λ_ h=>(List.not_mem_nil h).elim,λt ht u hu hd=>(hc t ht u hu hd).resolve_right List.not_mem_nil⟩
  rw[pR]
  rw[List.length_append,List.length_singleton] at h
  have hA:=(List.forall_mem_append.mp ht).1
  have hPt:=ht t (List.mem_append_right _ (.head _))
  by_cases q:t∉met∧deepOf t < 12
  ·rw[if_pos q]
   have hn':=Bp hn q.1
   have hm':=J2 hm ⟨hPt,q.2⟩
   have hz:=hn'.length_le_of_subset λx hx=>hW x (hm' x hx).1
   have:=hl t
   rw[List.length_append,List.length_singleton] at hz
   obtain⟨r,e,R⟩:=Ww hW hl step n (A++E5 D t) (met++[t]) (List.forall_mem_append.mpr ⟨hA,step t hPt q.2⟩) hm' hn' (J2 (λx hx u hu hd=>(hc x hx u hu hd).elim (λz=>.inl (List.mem_append_left _ z)) λz=>(List.mem_append.mp z).elim (λz=>.inr (List.mem_append_left _ z)) λz=>.inl (List.mem_append_right _ z)) λu hu _=>.inr (List.mem_append_right _ hu)) (by
    rw[List.length_append,List.length_append,List.length_singleton]; omega)
   exact⟨r,e,R.P,λx hx=>R.met x (List.mem_append_left _ hx),J2 (λx hx hd=>R.todo x (List.mem_append_left _ hx) hd) λ_=>R.met t (List.mem_append_right _ (.head _)),R.cl⟩
  ·rw[if_neg q]
   have hin (hd:deepOf t < 12):t∈met:=Classical.not_not.mp λz=>q ⟨z,hd⟩
   obtain⟨r,e,R⟩:=Ww hW hl step n A met hA hm hn (λx hx u hu hd=>(hc x hx u hu hd).elim .inl λz=>(List.mem_append.mp z).elim .inr λz=>.inl (List.mem_singleton.mp z ▸ hin (List.mem_singleton.mp z ▸ hd))) (Nat.lt_of_succ_lt_succ h)
   exact⟨r,e,R.P,R.met,J2 R.todo λhd=>R.met t (hin hd),R.cl⟩
inductive HOK(Ts:List C3) (Fs:List J4) (P:Tm→Prop) (met todo:List Tm):Option Bool→Prop
 | yes {k:Tm}(h:P k) (e:k.hd.k8=64):HOK Ts Fs P met todo (some true)
 | no {M:List Tm}(hm:∀k∈met,k∈M) (ht:∀k∈todo,k∈M) (cl:∀k∈M,k.hd.k8≠64∧∀u∈t3 Ts Fs k,u∈M):HOK Ts Fs P met todo (some false)
theorem Wx{Ts:List C3}{Fs:List J4}{W:List Tm}(hz:W.length < 1000){P:Tm→Prop}(hW:∀t,P t→t∈W) (hl:∀t,(t3 Ts Fs t).length≤3) (step:∀t,P t→t.hd.k8≠64→∀u∈t3 Ts Fs t,P u) :
  ∀(n:Nat) (todo:List Tm) (met:Bd),(∀t∈todo,P t)→(∀p∈met,P p.1)→(met.map (·.1)).Nodup→(∀k∈met.map (·.1),k.hd.k8≠64∧∀u∈t3 Ts Fs k,u∈met.map (·.1)∨u∈todo)→4 * (W.length - met.length)+todo.length < n→HOK Ts Fs P (met.map (·.1)) todo (o9 Ts Fs 64 n todo met)
 | 0,_,_,_,_,_,_,h=>(Nat.not_lt_zero _ h).elim
 | n+1,todo,met,ht,hm,hn,hc,h=>by
  rcases Kv todo with rfl | ⟨A,k,rfl⟩
  ·exact .no (λ_=>id) (λ_ h=>(List.not_mem_nil h).elim) λk hk=>(hc k hk).imp_right λq u hu=>(q u hu).resolve_right List.not_mem_nil
  rw[Sv]
  rw[List.length_append,List.length_singleton] at h
  have hA:=(List.forall_mem_append.mp ht).1
  have hPk:=ht k (List.mem_append_right _ (.head _))
  have ml:=O9 hn λp hp=>hW _ (hm p hp)
  rw[if_neg (Nat.not_le.mpr (Nat.lt_of_le_of_lt ml hz))]
  by_cases e:k.hd.k8=64
  ·rw[if_pos e]; exact .yes hPk e
  rw[if_neg e]
  cases hf:e9 met k with
  | some v =>
   rw[if_pos (show(some v).isSome=true from rfl)]
   have hin:k∈met.map (·.1):=List.mem_map_of_mem (f:=(·.1)) (i7 hf)
   have R:=Wx hz hW hl step n A met hA hm hn (λx hx=>(hc x hx).imp_right λq u hu=>(q u hu).elim .inl λz=>(List.mem_append.mp z).elim .inr λz=>.inl (List.mem_singleton.mp z ▸ hin)) (Nat.lt_of_succ_lt_succ h)
   generalize o9 Ts Fs 64 n A met=o at R
   exact match R with
    | .yes h e=>.yes h e
    | .no a b c=>.no a (J2 b (a k hin)) c
  | none =>
   rw[if_neg (show ¬(none:Option Tm).isSome=true from Bool.false_ne_true)]
   have km:(met++[(k,k)]).map (·.1)=met.map (·.1)++[k]:=List.map_append
   have hn':=H5 (b:=k) hn hf
   have hm':∀p∈met++[(k,k)],P p.1:=List.forall_mem_append.mpr ⟨hm,List.forall_mem_singleton.mpr hPk⟩
   have hz':=O9 hn' λp hp=>hW _ (hm' p hp)
   have:=hl k
   rw[A4] at hz'
   have R:=Wx hz hW hl step n (A++t3 Ts Fs k) (met++[(k,k)]) (List.forall_mem_append.mpr ⟨hA,step k hPk e⟩) hm' hn' (km ▸ J2 (λx hx=>(hc x hx).imp_right λq u hu=>(q u hu).elim (λz=>.inl (List.mem_append_left _ z)) λz=>(List.mem_append.mp z).elim (λz=>.inr (List.mem_append_left _ z)) λz=>.inl (List.mem_append_right _ z)) ⟨e,λu hu=>.inr (List.mem_append_right _ hu)⟩) (by
    rw[A4,List.length_append]; omega)
   rw[km] at R
   generalize o9 Ts Fs 64 n (A++t3 Ts Fs k) (met++[(k,k)])=o at R
   exact match R with
    | .yes h e=>.yes h e
    | .no a b c=>.no (λx hx=>a x (List.mem_append_left _ hx)) (J2 (λx hx=>b x (List.mem_append_left _ hx)) (a k (List.mem_append_right _ (.head _)))) c
noncomputable def FH:List Hd:=Tc++G3
noncomputable def nR(p:Tm×Nat):Bool:=p.2 == 0 || p.2 == 2
noncomputable def s36(h:Hd):Bool:=h.sort == 3 || h.sort == 6
noncomputable def kp(p:Tm×Nat):Bool:=nR p && s36 p.1.hd
theorem Np{Fs:List J4}:∀{l9:List Nat}{l:List (Tm×Nat)},pL Fs l9=l.map some→l9.flatMap (Z9 Fs)=(l.filter kp).map (·.1)
 | [],[],_=>rfl
 | [],_::_,h=>nomatch (show []=_::_ from h)
 | _::_,[],h=>nomatch (show _::_=[] from h)
 | i::l9,p::l,h=>by
  obtain⟨f,hf,rfl⟩:=Option.map_eq_some_iff.mp (List.cons.inj h).1
  have e:Z9 Fs i=if keeps f=true then [f.kind] else []:=congrArg (λo:Option J4=>o.elim [] λf=>if keeps f=true then [f.kind] else []) hf
  rw[List.flatMap_cons,Np (l:=l) (List.cons.inj h).2,e]
  by_cases k:keeps f=true
  ·rw[if_pos k,List.filter_cons_of_pos (show kp (f.kind,f.flags)=true from k)]; rfl
  ·rw[if_neg k,List.filter_cons_of_neg (show ¬kp (f.kind,f.flags)=true from k)]; rfl
noncomputable def snT(i:Nat):Option Nat:=if i < 64 then none else (yV[i - 64]?).map (·.1)
theorem jV:∀h∈FH,(h.sort == 3 && (snT h.k8).all λs=>s != 5)=La.contains h:=by decide +kernel
theorem sY:∀h∈FH,s36 h=false→La.contains h=false∧h.isVar=false:=by decide +kernel
theorem pX{i:Nat}{b:Tm}(hb:b.hd∈FH):(gr i b).hd∈FH:=(xY (i:=i) (b:=b)).elim (λe=>by rw[e]; exact hb) λe=>by rw[e]; decide +kernel
theorem Qj{hs:List Hd}(hh:∀h∈hs,h∈Tc):∀{k:Nat}{t:Tm},fld hs k t=true→t.hd∈FH
 | k,.leaf h,e=>List.mem_append_right _ (in_of (by cases k<;>exact e))
 | 0,.un h b,e=>no e
 | k+1,.un h b,e=>an e λe _=>List.mem_append_left _ (hh h (in_of e))
 | 0,.bin h b c,e=>no e
 | k+1,.bin h b c,e=>no e
theorem jW{a:Tm}:∀h∈G3,(Tm.leaf h).sub [a]=if h=.var 0 then a else .leaf h :=
 List.forall_mem_cons.mpr ⟨rfl,List.forall_mem_cons.mpr ⟨rfl,List.forall_mem_cons.mpr ⟨rfl,List.forall_mem_cons.mpr ⟨rfl,List.forall_mem_singleton.mpr rfl⟩⟩⟩⟩
theorem Hx{a:Tm}{hs:List Hd}:∀{k:Nat}{t:Tm},fld hs k t=true→t.sub [a]=l4 [(tX,a)] t
 | k,.leaf h,e=>(jW h (in_of (by cases k<;>exact e))).trans C8.symm
 | 0,.un h b,e=>no e
 | k+1,.un h b,e=>an e λ_ e=>(congrArg (Tm.un h) (Hx e)).trans B5.symm
 | 0,.bin h b c,e=>no e
 | k+1,.bin h b c,e=>no e
theorem nS{a:Tm}(ha:a.hd∈FH){hs:List Hd}(hh:∀h∈hs,h∈Tc):∀{k:Nat}{t:Tm},fld hs k t=true→(l4 [(tX,a)] t).hd∈FH∧(t.hd.isVar=false→(l4 [(tX,a)] t).hd=t.hd)
 | k,.leaf h,e=>by
  rw[C8]
  by_cases q:h=.var 0
  ·rw[if_pos q]; exact⟨ha,λz=>Lc ((congrArg Hd.isVar q).symm.trans z)⟩
  ·rw[if_neg q]; exact⟨Qj hh e,λ_=>rfl⟩
 | k,.un h b,e=>B5 (a:=a) ▸ ⟨Qj (t:=.un h b) hh e,λ_=>rfl⟩
 | 0,.bin h b c,e=>no e
 | k+1,.bin h b c,e=>no e
theorem Tz{D:Nat→List Tm}{h:Hd}{j:Nat}(hi:Pr h=some j){a:Tm}:m5 D (.un h a)=((D j).map (l4 [(tX,a)])).filter λu=>La.contains u.hd:=congrArg (λo:Option Nat=>o.elim [] λj=>((D j).map (l4 [(tX,a)])).filter λu:Tm=>La.contains u.hd) hi
theorem Fm{D:Nat→List Tm}{h:Hd}{j:Nat}(hi:Pr h=some j){a u:Tm}:u∈m5 D (.un h a)↔∃f∈D j,u=l4 [(tX,a)] f∧La.contains u.hd=true:=by
 rw[Tz hi]
 exact List.mem_filter.trans ⟨λx=>(List.mem_map.mp x.1).imp λf q=>⟨q.1,q.2.symm,x.2⟩,λx=>x.elim λf q=>⟨q.2.1 ▸ List.mem_map_of_mem q.1,q.2.2⟩⟩
theorem Eh:∀h∈A9,∃j∈List.range 5,h=.val (64+j)∧Pr h=some j:=by decide +kernel
theorem Ua{D:Nat→List Tm}:m5 D tU=[]:=congrArg (λo:Option Nat=>o.elim [] _) (by decide +kernel:Pr (.val 75)=none)
section
variable {D:Nat→List (Tm×Nat)}(hD:tL D){Ts:List C3}{Fs:List J4}(hsn:(Ts.map λt=>(t.sort,t.np))=yV) (hty:∀i,i < 7→cD Ts Fs i (z5 D i))
include hsn in
theorem jX{t:Tm}(h:t.hd∈FH):plain Ts t=La.contains t.hd:=by
 rw[←jV _ h]
 refine congrArg (t.hd.sort == 3 && ·) (?_:((G0 Ts t.hd.k8).all λi=>i.sort != 5)=_)
 have hs:(G0 Ts t.hd.k8).map (·.sort)=snT t.hd.k8:=by
  unfold G0 snT
  by_cases e:t.hd.k8 < 64
  ·rw[if_pos e,if_pos e]; rfl
  ·rw[if_neg e,if_neg e,←hsn,List.getElem?_map,Option.map_map]; rfl
 rw[←hs]
 cases G0 Ts t.hd.k8<;>rfl
include hty in
theorem Kw{j:Nat}(hj:j < 7){t:Tm}(h:t.hd=.val (64+j)):K8 Ts Fs t=((z5 D j).filter kp).map (·.1):=by
 obtain⟨ti,h1,h2⟩:=hty j hj
 have e1:G0 Ts t.hd.k8=some ti:=by
  rw[h]
  exact(if_neg (Nat.not_lt.mpr (Nat.le_add_right 64 j))).trans ((congrArg (Ts[·]?) (Nat.add_sub_cancel_left (n:=64) (m:=j))).trans h1)
 unfold K8
 rw[e1]
 exact Np h2
include hsn in
theorem Gv{a:Tm}(ha:a.hd∈FH):∀{l:List (Tm×Nat)},(∀p∈l,fld Tc 7 p.1=true)→G5 Ts [a] ((l.filter kp).map (·.1))=((TL l).map (l4 [(tX,a)])).filter λu=>La.contains u.hd
 | [],_=>rfl
 | p::l,h=>by
  have ih:=Gv ha (l:=l) λx hx=>h x (.tail _ hx)
  have hp:=h p (.head _)
  have x:=nS ha (λ_ h=>h) hp
  have pl:=(congrArg (plain Ts) (Hx (a:=a) hp)).trans (jX hsn x.1)
  cases hfl:nR p with
  | false =>
   have k:¬kp p=true:=λz=>an z λz _=>no (hfl.symm.trans z)
   have t:TL (p::l)=TL l:=congrArg (List.map Prod.fst) (List.filter_cons_of_neg (p:=nR) λz=>no (hfl.symm.trans z))
   rw[List.filter_cons_of_neg k,t]; exact ih
  | true =>
   have t:TL (p::l)=p.1::TL l:=congrArg (List.map Prod.fst) (List.filter_cons_of_pos (p:=nR) hfl)
   rw[t]
   cases hs:s36 p.1.hd with
   | true =>
    rw[List.filter_cons_of_pos (p:=kp) (Bool.and_eq_true_iff.mpr ⟨hfl,hs⟩)]
    refine(Ez (a:=[p.1])).trans (Eq.trans ?_ (List.filter_append [l4 [(tX,a)] p.1] ((TL l).map (l4 [(tX,a)]))).symm)
    rw[ih]
    refine congrArg (·++_) ?_
    by_cases q:La.contains (l4 [(tX,a)] p.1).hd=true
    ·rw[List.filter_cons_of_pos (p:=λu:Tm=>La.contains u.hd) q,Fa (pl.trans q),Hx hp]; rfl
    ·rw[List.filter_cons_of_neg (p:=λu:Tm=>La.contains u.hd) q,Fb (pl.trans (Bool.eq_false_iff.mpr q))]; rfl
   | false =>
    have k:¬kp p=true:=λz=>an z λ_ z=>no (hs.symm.trans z)
    have g:=sY _ (Qj (λ_ h=>h) hp) hs
    rw[List.filter_cons_of_neg k,List.map_cons,List.filter_cons_of_neg (by rw[x.2 g.2,g.1]; exact Bool.false_ne_true)]; exact ih
include hD hsn hty in
theorem held_eq{h:Hd}(hh:h∈A9){a:Tm}(ha:a.hd∈FH):held Ts Fs (.un h a)=m5 (Ht D) (.un h a):=by
 obtain⟨j,hj,rfl,hi⟩:=Eh h hh
 rw[Tz hi]
 unfold held
 rw[Kw hty (Nat.lt_trans (List.mem_range.mp hj) (by decide)) rfl]
 exact Gv hsn ha λp hp=>Wv hD hp
include hD hsn hty in
theorem Ub{h:Hd}(hh:h∈A9){a:Tm}(ha:a.hd∈FH) (st:ST 12 (.un h a)):t3 Ts Fs (.un h a)=m5 (Ht D) (.un h a):=by
 rw[←held_eq hD hsn hty hh ha]
 obtain⟨j,hj,rfl,hi⟩:=Eh h hh
 refine if_pos λf hf=>?_
 rw[Kw hty (Nat.lt_trans (List.mem_range.mp hj) (by decide)) rfl] at hf
 obtain⟨p,hp,rfl⟩:=List.mem_map.mp hf
 have fp:=Wv hD (List.mem_filter.mp hp).1
 exact(Hx (a:=a) fp).symm ▸ ((Pw (λ_ h=>h) fp).put (j:=10) (st.kid rfl)).fits (by decide)
include hD hsn hty in
theorem jY{h:Hd}(hh:h∈A9){a u:Tm}(ha:a.hd∈FH) (hu:u∈t3 Ts Fs (.un h a)):u∈m5 (Ht D) (.un h a)∧∀f∈K8 Ts Fs (.un h a),Fits (f.sub (C0 (.un h a))):=by
 rw[←held_eq hD hsn hty hh ha]
 unfold t3 at hu
 by_cases q:∀f∈K8 Ts Fs (.un h a),Fits (f.sub (C0 (.un h a)))
 ·rw[if_pos q] at hu; exact⟨hu,q⟩
 ·rw[if_neg q] at hu; exact(List.not_mem_nil hu).elim
include hsn in
theorem jZ:Ts.length=7:=by have:=congrArg List.length hsn; rwa [List.length_map] at this
include hsn in
theorem Uc:t3 Ts Fs tU=[]:=by
 have e:K8 Ts Fs tU=[]:=congrArg (λo:Option C3=>o.elim [] λti=>ti.l9.flatMap (Z9 Fs)) (Mu (tid:=75) (.inr (jZ hsn ▸ by decide)))
 have h:held Ts Fs tU=[]:=congrArg (G5 Ts (C0 tU)) e
 unfold t3
 rw[h]; exact ite_self _
end
theorem Ud{D:Nat→List (Tm×Nat)}{j:Nat}{f:Tm}(h:f∈Ht D j):∃p∈z5 D j,p.1=f:=(List.mem_map.mp h).imp λp q=>⟨(List.mem_filter.mp q.1).1,q.2⟩
theorem pY{b:Tm}(h:B1 b):b.hd∈FH:=Qj (λ_ h=>h) h
theorem Zz{b:Tm}(h:B1 b):deepOf b≤1:=(Y2 h).elim (λx=>x.elim λl x=>x.2 ▸ Nat.zero_le 1) λx=>x.elim λg x=>x.2.elim λl x=>x.2 ▸ Nat.le_refl 1
theorem aA{b:Tm}(h:B1 b):l4 [(tX,tX)] b=b:=by
 have leaf (l:Hd):l4 [(tX,tX)] (.leaf l)=.leaf l:=by
  rw[C8]
  by_cases e:l=.var 0
  ·rw[if_pos e,e]; rfl
  ·rw[if_neg e]
 rcases Y2 h with⟨l,_,rfl⟩ | ⟨g,_,l,_,rfl⟩
 ·exact leaf l
 ·rw[B5,leaf]
noncomputable def Qd(met:List Tm) (k:Tm):Prop:=k=tU∨∃h∈A9,∃i,i < 4∧∃b,B1 b∧k=.un h (gr i b)∧.un h b∈met
theorem Qd.un{met:List Tm}{k:Tm}(h:Qd met k):Un k:=h.imp_right fun⟨g,hg,i,hi,b,hb,e,_⟩=>⟨g,hg,i,hi,b,hb,e⟩
section
variable {D:Nat→List (Tm×Nat)}(hD:tL D)
include hD
theorem Ue{u:Tm}(hu:u∈m5 (Ht D) (m7 64)):u=tU∨∃h∈A9,∃b,B1 b∧u=.un h b:=by
 obtain⟨f,hf,rfl,hs⟩:=(Fm (j:=0) (by decide +kernel)).mp hu
 obtain⟨p,hp,rfl⟩:=Ud hf
 have e:=jT hD hp
 refine(?_:l4 [(tX,tX)] p.1=tU∨∃h∈A9,∃b,B1 b∧l4 [(tX,tX)] p.1=.un h b)
 have hs:La.contains (l4 [(tX,tX)] p.1).hd=true:=hs
 generalize p.1=f at e hs
 match f,e with
 | .leaf l,e =>
  have s:=aA (Qh (in_of e))
  rw[s] at hs ⊢
  exact .inl (congrArg Tm.leaf (Qi _ (in_of e) hs))
 | .un h b,e =>
  rw[B5] at hs ⊢
  exact an e λe1 e2=>.inr ⟨h,sX _ (in_of e1) hs,b,e2,congrArg (Tm.un h) (aA e2)⟩
theorem step_any{h:Hd}(hh:h∈A9) (hS:h≠.val 64){i:Nat}{b:Tm}(hb:B1 b){u:Tm}(hu:u∈m5 (Ht D) (.un h (gr i b))) :
  u=tU∨(∃h'∈A9,∃i',i'≤i∧∃b',B1 b'∧u=.un h' (gr i' b')∧.un h' b'∈m5 (Ht D) (.un h b))∨h=.val 68∧u=.un h (gr (i+1) b):=by
 obtain⟨j,hj,rfl,hx⟩:=Eh h hh
 obtain⟨f,hf,rfl,hs⟩:=(Fm hx).mp hu
 obtain⟨p,hp,rfl⟩:=Ud hf
 rcases nQ hD (λe=>hS (congrArg (λj=>Hd.val (64+j)) e)) hp with h1 | ⟨rfl,e⟩
 ·rcases Wu h1 hb hs with e | ⟨h',hh',i',hi',b',hb',e,e2⟩
  ·exact .inl e
  ·exact .inr (.inl ⟨h',hh',i',hi',b',hb',e,(Fm hx).mpr ⟨p.1,hf,e2.symm,xZ h' hh'⟩⟩)
 ·rw[e,nP]; exact .inr (.inr ⟨rfl,rfl⟩)
theorem aB{t:Tm}(ht:Un t) (hd:deepOf t < 12):∀u∈E5 (Ht D) t,Un u:=by
 unfold E5
 by_cases hS:t.hd=.val 64
 ·rw[if_pos hS]; exact λ_ h=>(List.not_mem_nil h).elim
 rw[if_neg hS]
 intro u hu
 rcases ht with rfl | ⟨h,hh,i,hi,b,hb,rfl⟩
 ·exact(List.not_mem_nil ((Ua (D:=Ht D)) ▸ hu:u∈[])).elim
 ·rcases step_any hD hh hS hb hu with e | ⟨h',hh',i',hi',b',hb',e,_⟩ | ⟨_,e⟩
  ·exact .inl e
  ·exact .inr ⟨h',hh',i',Nat.lt_of_le_of_lt hi' hi,b',hb',e⟩
  ·have hd:deepOf (gr i b)+1 < 12:=hd
   rw[Zy] at hd
   exact .inr ⟨h,hh,i+1,by omega,b,hb,e⟩
variable {Ts:List C3}{Fs:List J4}(hsn:(Ts.map λt=>(t.sort,t.np))=yV) (hty:∀i,i < 7→cD Ts Fs i (z5 D i))
include hsn hty
theorem pZ{t:Tm}(ht:Un t) (hd:deepOf t < 12):t3 Ts Fs t=m5 (Ht D) t:=by
 have st:=xX ht hd
 rcases ht with rfl | ⟨h,hh,i,hi,b,hb,rfl⟩
 ·rw[Uc hsn,Ua]
 ·exact Ub hD hsn hty hh (pX (pY hb)) st
theorem sZ{met:List Tm}(hcl:∀t∈met,∀u∈E5 (Ht D) t,deepOf u < 12→u∈met){k:Tm}(hk:Qd met k) (hS:k.hd.k8≠64):∀u∈t3 Ts Fs k,Qd met u:=by
 intro u hu
 rcases hk with rfl | ⟨h,hh,i,hi,b,hb,rfl,hm⟩
 ·exact(List.not_mem_nil ((Uc hsn) ▸ hu:u∈[])).elim
 ·obtain⟨hu,hfit⟩:=jY hD hsn hty hh (pX (pY hb)) hu
  have hS':h≠.val 64:=λe=>hS (congrArg Hd.k8 e)
  rcases step_any hD hh hS' hb hu with e | ⟨h',hh',i',hi',b',hb',e,e2⟩ | ⟨rfl,e⟩
  ·exact .inl e
  ·exact .inr ⟨h',hh',i',Nat.lt_of_le_of_lt hi' hi,b',hb',e,hcl _ hm _ (by rw[show E5 (Ht D) (.un h b)=m5 (Ht D) (.un h b) from if_neg hS']; exact e2) (Nat.lt_of_le_of_lt (Nat.succ_le_succ (Zz hb')) (by decide))⟩
  ·have hin:tG∈K8 Ts Fs (.un (.val 68) (gr i b)):=by
    rw[Kw hty (j:=4) (by decide) rfl]
    exact List.mem_map.mpr ⟨(tG,0),List.mem_filter.mpr ⟨(by unfold z5; rw[H0]; exact List.mem_append_right _ (.head _)),by decide +kernel⟩,rfl⟩
   have hF:(Tm.un (.val 68) (gr (i+1) b)).depth≤24:=(hfit _ hin).1
   have:=Tx (i+1) b
   simp only[Tm.depth] at hF
   exact .inr ⟨.val 68,hh,i+1,by omega,b,hb,e,hm⟩
end
theorem Ug:R5:=by
 intro Ts Fs D hsn hty hemp hD hG
 have few (j:Nat):(Ht D j).length≤3:=Nat.le_trans (Wm _) (Nat.le_trans (jU hD hG j) (by decide))
 have l9:∀t∈Ts,t.l9.length≤3:=λt ht=>by
  obtain⟨i,hi⟩:=List.mem_iff_getElem?.mp ht
  obtain⟨t',h1,h2⟩:=hty i (jZ hsn ▸ (List.getElem?_eq_some_iff.mp hi).1)
  obtain rfl:=Option.some.inj (hi.symm.trans h1)
  have:=congrArg List.length h2
  unfold pL at this
  rw[List.length_map,List.length_map] at this
  exact this ▸ Nat.le_trans (jU hD hG i) (by decide)
 have nx (t:Tm):(E5 (Ht D) t).length≤3:=by
  unfold E5
  by_cases e:t.hd=.val 64
  ·rw[if_pos e]; exact Nat.zero_le 3
  ·rw[if_neg e]; exact O8 few t
 have hself:t3 Ts Fs (m7 64)=m5 (Ht D) (m7 64):=Ub hD hsn hty (h:=.val 64) (by decide +kernel) (a:=.leaf (.var 0)) (by decide +kernel) (Hs.mono (by decide))
 have hst:∀t∈m5 (Ht D) (m7 64),Un t∧deepOf t < 12:=λt ht=>(Ue hD ht).elim (λe=>⟨.inl e,e ▸ (by decide +kernel:deepOf tU < 12)⟩) fun⟨h,hh,b,hb,e⟩=>⟨.inr ⟨h,hh,0,by decide,b,hb,e⟩,e ▸ Nat.lt_of_le_of_lt (Nat.succ_le_succ (Zz hb)) (by decide)⟩
 have room {m l:Nat}(h:l≤3):4 * (UL.length - m)+l < 10000:=Nat.lt_of_le_of_lt (Nat.add_le_add (Nat.mul_le_mul_left 4 (Nat.le_trans (Nat.sub_le ..) (Nat.le_of_eq jR))) h) (by decide)
 have search {P:Tm→Prop}(hW:∀t,P t→t∈UL) (step:∀t,P t→deepOf t < 12→∀u∈E5 (Ht D) t,P u) (h0:∀t∈m5 (Ht D) (m7 64),P t):=Ww hW nx step 10000 (m5 (Ht D) (m7 64)) [] h0 (λ_ h=>(List.not_mem_nil h).elim) .nil (λ_ h=>(List.not_mem_nil h).elim) (room (O8 few _))
 obtain⟨met,hmet,R⟩:=search (λt ht=>Zx ht) (λt ht hd=>aB hD ht hd) λt ht=>(hst t ht).1
 refine⟨10000,met,Nat.le_refl _,hmet,λj u hu=>yA hD hu,few,l9,λt ht=>ht.elim (λe=>e ▸ hself) λht=>pZ hD hsn hty (R.P t ht).1 (R.P t ht).2,10000,?_⟩
 have hQ0:∀t∈t3 Ts Fs (m7 64),Qd met t:=λt ht=>by
  have ht:=hself ▸ ht
  have hm:=R.todo t ht (hst t ht).2
  exact(Ue hD ht).imp_right fun⟨h,hh,b,hb,e⟩=>⟨h,hh,0,by decide,b,hb,e,e ▸ hm⟩
 have H:=Wx (Ts:=Ts) (Fs:=Fs) (W:=UL) (jR ▸ by decide) (λt ht=>Zx ht.un) (Z1 l9) (λk hk hS=>sZ hD hsn hty R.cl hk hS) 10000 (t3 Ts Fs (m7 64)) [] hQ0 (λ_ h=>(List.not_mem_nil h).elim) .nil (λ_ h=>(List.not_mem_nil h).elim) (room (Z1 l9 _))
 generalize o9 Ts Fs 64 10000 (t3 Ts Fs (m7 64)) []=o at H
 match H with
 | .yes (k:=k) hk hS =>
  refine⟨true,rfl,?_⟩
  rcases hk with rfl | ⟨h,hh,i,hi,b,hb,rfl,hm⟩
  ·exact absurd hS (by decide +kernel)
  ·obtain⟨j,hj,rfl,hx⟩:=Eh h hh
   obtain rfl:j=0:=Nat.add_left_cancel (n:=64) (m:=j) (k:=0) hS
   exact(List.any_eq_true.mpr ⟨_,hm,decide_eq_true rfl⟩).symm
 | .no (M:=M) _ m2 m3 =>
  refine⟨false,rfl,?_⟩
  obtain⟨a7t,yB,R'⟩:=search (P:=λt=>Un t∧t∈M) (λt ht=>Zx ht.1) (λt ht hd u hu=>⟨aB hD ht.1 hd u hu,(m3 t ht.2).2 u (by
   rw[pZ hD hsn hty ht.1 hd]
   unfold E5 at hu
   by_cases e:t.hd=.val 64
   ·rw[if_pos e] at hu; exact(List.not_mem_nil hu).elim
   ·rw[if_neg e] at hu; exact hu)⟩) λt ht=>⟨(hst t ht).1,m2 t (hself ▸ ht)⟩
  obtain rfl:=Option.some.inj (hmet.symm.trans yB)
  exact(List.any_eq_false.mpr λt ht e=>(m3 t (R'.P t ht).1.2).1 (congrArg Hd.k8 (of_decide_eq_true e))).symm
end Mine
end
section
open PySem PySem.W PyProof.Rows PySem.Calls
set_option Elab.async false
set_option maxRecDepth 100000
set_option genSizeOf false
set_option genInjectivity false
namespace Mine
noncomputable def Bs:a5:=λ_=>none
theorem nT{prog:Program}{w:World}{s:Shared}{K:Frag}{q:Program}{loose:List Str}{mean:ExcName→Option Value}{mg mb:Str→Option Value}(T:Top q loose mean mg mb s.heap) (KX:K.In s.heap) (e:fP K=val)
  {fa a:Addr}{o:Obj}(ho:s.heap.get? fa=some o) (hmg:mg "law"=some (.ref fa)){items:List Value}{ns:List Int}(hL:s.heap.IsList a items.toArray) (hI:IntsAre items ns) (hlen:¬ (63:Int) < ns.length)
  {QQ:Value→Shared→Prop}{EE':Value→Shared→Prop}(hQ:∀h tk,(∀b o,s.heap.get? b=some o→h.get? b=some o)→QQ (.bool true) {s with heap:=h,toks:=tk}) :
  wpAny (model prog w) callerA (call (.ref fa) [.ref a]) QQ EE' s:=by
 let c:Cx:=⟨prog,w,s.heap,K,51⟩
 have G:Good c:=⟨KX,T.nolimit,⟨mg,T.g⟩,mb,T.b,T.builtins⟩
 have N:g0 c:=rK G rfl e
 have h4:bOf K=true:=congrArg (·.2.2.2) e
 have h5:nsIn K mainGlobals "law"=some (some (.ref 636)):=an h4 λ_ h=>an h λ_ h=>an h λ_ h=>an h λ_ h=>an h λ_ h=>an h λ_ h=>an h λ_ h=>an h λ_ h=>an h λ_ h=>an h λ_ h=>an h λ_ h=>an h λ_ h=>an h λ_ h=>an h λ_ h=>an h λ_ h=>an h λ_ h=>an h λ_ h=>beq_iff_eq.mp h
 obtain rfl:fa=636:=Value.ref.inj (Option.some.inj (hmg.symm.trans (mg_of KX T.g h5)))
 have lz:ns.length≤63:=Int.ofNat_le.mp (Int.not_lt.mp hlen)
 have C:i3 c 192 (.fix (.ref 636)) [.fix (.ref a)] Bs (λv _=>v=.bool true) (λ_=>False):=N.fn N.C.law rfl (xR (n:=0) N cN Ug ⟨_,hL,Kl hI⟩ (Nat.le_trans lz (by decide)) λ_=>rfl)
 have stays:s.heap.StaysIn s.heap:=λ_ _ e=>e
 refine wpAny_mono (C callerA s _ _ ⟨by decide +kernel,by decide +kernel,rfl,[],rfl,λ_ h=>nomatch h⟩ ⟨stays,⟨636,by decide,o,ho⟩,λ_ _ h=>nomatch h⟩ (.fix ..) (.cons (.fix ..) .nil)) (λcv s' h=>?_) λ_ _ h=>h.elim λ_ h=>h.2.2.elim
 obtain⟨v,a6,p,r,rfl⟩:=h
 obtain⟨⟨h',tk,rfl⟩,rel,-⟩:=p
 obtain rfl:=r
 exact hQ h' tk rel.1
end Mine
end
section
open PySem PySem.W PyProof.Rows PySem.Calls
set_option Elab.async false
set_option maxRecDepth 100000
set_option genSizeOf false
set_option genInjectivity false
set_option maxHeartbeats 8000000
namespace Mine
noncomputable abbrev rr:OpenRow:=OpenLaw.row PySem.Challenge.rw_sy0003_01
noncomputable def says(w:World) (h:Heap):Prop:=∃K:Frag,K.In h∧fP K=val
theorem left:LeftO rr.prog qq lo xt (@obs Fast.sDec) (λ_=>val) 11000:=kJ "special-get-raises" go
theorem the_walk(d:DefRec) (kwd:List (Str×Expr)) (hn:d.name = "law"):WalkO qq lo (XL qq []) says rr.toRowW d kwd λf vs=>PySem.call f vs:=by
 intro w d9 f5 mg mb G Y fa o pm cd doc dV kV ho hd hcd hD hmg hg args vals as hpre hlay hrd hwl hlo
 obtain⟨K,KX,e⟩:=Y
 have T:=G.T
 rw[hn] at hmg
 clear hd hcd hD hn
 wrow_args hpre hlay hrd hwl hlo
 refine nT T KX e ho hmg ‹Heap.IsList _ _ _› ‹IntsAre _ _› ‹¬ _ < _› λh tk keep=>?_
 refine⟨.inl ⟨.bool true,.bool true,[],rfl,λ_=>?_,.bool true,?_,λ_=>⟨.nil,λ_ h=>nomatch h⟩⟩,.of_keep keep,rfl,.of_eq hg⟩
 ·rfl
 ·first | kernel_rfl | with_unfolding_all rfl
end Mine
end
open PySem PySem.W PyProof.Rows PySem.Calls
set_option Elab.async false
set_option maxRecDepth 100000 in
set_option maxHeartbeats 8000000 in
theorem PySem.Challenge.cw_sy0003_01_holds : PySem.Challenge.rw_sy0003_01.Holds := by
  refine holds_law Mine.is_said fun said => ?_
  refine holds_open (q := Mine.qq) (loose := Mine.lo) (Xt := Mine.xt) (XP := XL Mine.qq []) (YP := Mine.says) Mine.left (fun w s e => ⟨_, Mine.allK_in s.heap, Mine.obs_eq e⟩) (fun w h h' Y k => Y.imp fun K y => ⟨fun a o e => k a o (y.1 a o e), y.2⟩) (fun s e => xl_of s (Bool.and_eq_true_iff.mp e).1) XL.keeps (by rfl) (by rfl) (by rfl) (fun s e => recFacts_of (Bool.and_eq_true_iff.mp e).2) (by rfl) (by assumption) (by decide +kernel) ⟨rfl, rfl, rfl, rfl, rfl, by decide +kernel⟩ ?hw ?hc
  case hw => w_witness2
  case hc => exact Mine.the_walk _ _ (by rfl)
