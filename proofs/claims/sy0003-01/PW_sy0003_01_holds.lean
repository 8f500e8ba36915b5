import PyProof.Rows.All
import KE.KItem
import KE.KDictSum
import KE.KSortTup
import KE.KTryMore
import Wide.FinOn
import OpenK.AllK
import Wide.All
import Lean
import PySem.Challenge.RW_sy0003_01
section
open PySem PySem.W PyProof.Rows
set_option Elab.async false
set_option maxRecDepth 100000
set_option maxHeartbeats 8000000
namespace Mine
open_top hd for PySem.Challenge.rw_sy0003_01
end Mine
end
section
open PySem PySem.W PyProof.Rows PySem.Calls
set_option Elab.async false
namespace Mine
theorem eL{α:Sort _}{p:α→Prop}{a':α}:(∃a,a'=a∧p a)↔p a':=exists_eq_left'
theorem oI{α:Type _}(a b:α):(some a=some b)=(a=b):=Option.some.injEq a b
theorem gZ{α:Type _}{a:α}{l:List α}:(a::l)[0]?=some a:=rfl
theorem gS{α:Type _}{a:α}{l:List α}{i:Nat}:(a::l)[i+1]?=l[i]?:=rfl
open Classical
inductive V where
 | none
 | bool (b:Bool)
 | int (i:Int)
 | str (s:Str)
 | tup (l:List V)
 | rng (lo hi:Int)
 | ref (a:Addr)
 | fix (v:Value)
def TupAt(h:Heap) (a:Addr) (items:Array Value):Prop:=∃n,h.get? a=some {cls:=.type "tuple",data:=.seq items n}
theorem TupAt.isTuple{h:Heap}{a:Addr}{items:Array Value}(x:TupAt h a items):h.IsTuple a items:=let ⟨n,e⟩:=x; ⟨_,e,rfl,n,rfl⟩
mutual
inductive Rep(h:Heap):V→Value→Prop
 | none:Rep h .none .none
 | bool (b:Bool):Rep h (.bool b) (.bool b)
 | int (i:Int) (t:Tok):Rep h (.int i) (.int i t)
 | str (s:Str) (t:Tok):Rep h (.str s) (.str s t)
 | tup {a:Addr}{l:List V}{items:Array Value}:TupAt h a items→j9 h l items.toList→Rep h (.tup l) (.ref a)
 | rng {a:Addr}{lo hi:Int}{t u v:Tok}:IsRange h a lo hi 1 t u v→Rep h (.rng lo hi) (.ref a)
 | ref (a:Addr):Rep h (.ref a) (.ref a)
 | fix (v:Value):Rep h (.fix v) v
inductive j9(h:Heap):List V→List Value→Prop
 | nil:j9 h [] []
 | cons {x:V}{c:Value}{xs:List V}{cs:List Value}:Rep h x c→j9 h xs cs→j9 h (x::xs) (c::cs)
end
def Cj(o:Obj):Prop:=(o.cls=.type "tuple"∧∃xs n,o.data=.seq xs n)∨(o.cls=.type "range"∧∃vs,o.data=.fields vs∧vs.size=3)
def x8(h h':Heap):Prop:=∀a o,h.get? a=some o→Cj o→h'.get? a=some o
theorem x8.refl(h:Heap):x8 h h:=λ_ _ e _=>e
theorem x8.trans{a b c:Heap}(x:x8 a b) (y:x8 b c):x8 a c:=λi o e m=>y i o (x i o e m) m
theorem TupAt.keepI{h h':Heap}{a:Addr}{items:Array Value}(x:TupAt h a items) (k:x8 h h'):TupAt h' a items:=by
 obtain⟨n,ho⟩:=x
 exact⟨n,k a _ ho (.inl ⟨rfl,_,_,rfl⟩)⟩
theorem IsRange.keepI{h h':Heap}{a:Addr}{lo hi st:Int}{t u v:Tok}(x:IsRange h a lo hi st t u v) (k:x8 h h'):IsRange h' a lo hi st t u v :=
 k a _ x (.inr ⟨rfl,_,rfl,rfl⟩)
mutual
theorem Rep.mono{h h':Heap}(k:x8 h h'):∀{v:V}{c:Value},Rep h v c→Rep h' v c
 | _,_,.none=>.none
 | _,_,.bool b=>.bool b
 | _,_,.int i t=>.int i t
 | _,_,.str s t=>.str s t
 | _,_,.tup x y=>.tup (TupAt.keepI x k) (j9.mono k y)
 | _,_,.rng x=>.rng (IsRange.keepI x k)
 | _,_,.ref a=>.ref a
 | _,_,.fix v=>.fix v
theorem j9.mono{h h':Heap}(k:x8 h h'):∀{v:List V}{c:List Value},j9 h v c→j9 h' v c
 | _,_,.nil=>.nil
 | _,_,.cons x y=>.cons (Rep.mono k x) (j9.mono k y)
end
theorem j9.length{h:Heap}:∀{v:List V}{c:List Value},j9 h v c→v.length=c.length
 | _,_,.nil=>rfl
 | _,_,.cons _ y=>by simp[j9.length y]
theorem j9.get{h:Heap}:∀{v:List V}{c:List Value},j9 h v c→∀{i:Nat}{x:V},v[i]?=some x→∃cx,c[i]?=some cx∧Rep h x cx
 | _,_,.nil,i,x,e=>by simp at e
 | _,_,.cons (c:=c) a b,0,x,e=>by simp at e; subst e; exact⟨c,rfl,a⟩
 | _,_,.cons a b,i+1,x,e=>by simp at e; simpa using j9.get b e
theorem j9.append{h:Heap}:∀{v:List V}{c:List Value}{v':List V}{c':List Value},j9 h v c→j9 h v' c'→j9 h (v++v') (c++c')
 | _,_,_,_,.nil,y=>y
 | _,_,_,_,.cons a b,y=>.cons a (j9.append b y)
mutual
noncomputable def V.hash(w:World):V→Int
 | .int i=>hashInt i
 | .str s=>hashStr w s
 | .tup l=>reduceHash (Builtin.Tuple.tupleHashOf (V.hashes w l))
 | _=>0
noncomputable def V.hashes(w:World):List V→List Int
 | []=>[]
 | x::xs=>V.hash w x::V.hashes w xs
end
mutual
def V.draws:V→Nat
 | .tup l=>V.J2 l+1
 | _=>1
def V.J2:List V→Nat
 | []=>0
 | x::xs=>V.draws x+V.J2 xs
end
mutual
def V.hk:V→Nat→Bool
 | .int _,_=>true
 | .str s,_=>PyData.strOk s
 | .tup l,d=>match d with | 0=>false | d+1=>V.hks l d
 | _,_=>false
def V.hks:List V→Nat→Bool
 | [],_=>true
 | x::xs,d=>V.hk x d && V.hks xs d
end
mutual
theorem V.Kh:∀(v:V){d e:Nat},v.hk d=true→d≤e→v.hk e=true
 | .int _,_,_,_,_=>by simp[V.hk]
 | .str _,_,_,h,_=>by simpa[V.hk] using h
 | .tup l,0,_,h,_=>by simp[V.hk] at h
 | .tup l,d+1,0,h,q=>by omega
 | .tup l,d+1,e+1,h,q=>by simp only[V.hk] at h ⊢; exact V.Nj l h (by omega)
 | .none,_,_,h,_=>by simp[V.hk] at h
 | .bool _,_,_,h,_=>by simp[V.hk] at h
 | .rng _ _,_,_,h,_=>by simp[V.hk] at h
 | .ref _,_,_,h,_=>by simp[V.hk] at h
 | .fix _,_,_,h,_=>by simp[V.hk] at h
theorem V.Nj:∀(l:List V){d e:Nat},V.hks l d=true→d≤e→V.hks l e=true
 | [],_,_,_,_=>by simp[V.hks]
 | x::xs,d,e,h,q=>by
  simp only[V.hks,Bool.and_eq_true] at h ⊢
  exact⟨V.Kh x h.1 q,V.Nj xs h.2 q⟩
end
mutual
theorem Rep.inj{h:Heap}:∀{x y:V}{c:Value}{d e:Nat},Rep h x c→Rep h y c→x.hk d=true→y.hk e=true→x=y
 | .int i,y,c,d,e,hx,hy,_,ky=>by
  cases hx; cases hy<;>first | rfl | (simp[V.hk] at ky)
 | .str i,y,c,d,e,hx,hy,_,ky=>by
  cases hx; cases hy<;>first | rfl | (simp[V.hk] at ky)
 | .tup l,y,c,d,e,hx,hy,kx,ky=>by
  cases hx with
  | tup tx rx =>
   cases hy with
   | tup ty ry =>
    obtain⟨n,ho⟩:=tx
    obtain⟨n',ho'⟩:=ty
    rw[ho] at ho'; cases ho'
    cases d with
    | zero=>simp[V.hk] at kx
    | succ d =>
     cases e with
     | zero=>simp[V.hk] at ky
     | succ e=>rw[j9.inj rx ry (by simpa[V.hk] using kx) (by simpa[V.hk] using ky)]
   | rng _=>simp[V.hk] at ky
   | ref _=>simp[V.hk] at ky
   | fix _=>simp[V.hk] at ky
 | .none,_,_,_,_,_,_,h,_=>by simp[V.hk] at h
 | .bool _,_,_,_,_,_,_,h,_=>by simp[V.hk] at h
 | .rng _ _,_,_,_,_,_,_,h,_=>by simp[V.hk] at h
 | .ref _,_,_,_,_,_,_,h,_=>by simp[V.hk] at h
 | .fix _,_,_,_,_,_,_,h,_=>by simp[V.hk] at h
theorem j9.inj{h:Heap}:∀{x y:List V}{c:List Value}{d e:Nat},j9 h x c→j9 h y c→V.hks x d=true→V.hks y e=true→x=y
 | [],y,c,d,e,hx,hy,_,_=>by cases hx; cases hy; rfl
 | x::xs,y,c,d,e,hx,hy,kx,ky=>by
  cases hx with
  | cons a b =>
   cases hy with
   | cons a' b' =>
    simp only[V.hks,Bool.and_eq_true] at kx ky
    rw[Rep.inj a a' kx.1 ky.1,j9.inj b b' kx.2 ky.2]
end
mutual
def V.pd:V→PyData
 | .none=>.none
 | .bool b=>.bool b
 | .int i=>.int i
 | .str s=>.str s
 | .tup l=>.tuple (V.He l)
 | _=>.none
def V.He:List V→List PyData
 | []=>[]
 | x::xs=>V.pd x::V.He xs
end
mutual
def V.da:V→Bool
 | .none=>true
 | .bool _=>true
 | .int _=>true
 | .str s=>PyData.strOk s
 | .tup l=>V.eI l
 | _=>false
def V.eI:List V→Bool
 | []=>true
 | x::xs=>V.da x && V.eI xs
end
mutual
theorem Rep.reads{h:Heap}:∀{v:V}{c:Value},Rep h v c→v.da=true→∃as,Reads h c v.pd as
 | _,_,.none,_=>⟨_,.none⟩
 | _,_,.bool b,_=>⟨_,.bool b⟩
 | _,_,.int i t,_=>⟨_,.int i t⟩
 | _,_,.str s t,_=>⟨_,.str s t⟩
 | _,_,.tup ⟨_,ho⟩ y,k=>by
  obtain⟨as,r⟩:=j9.reads y (by simpa[V.da] using k)
  exact⟨as,by simpa[V.pd] using Reads.tuple ho rfl rfl r⟩
 | _,_,.rng x,k=>by simp[V.da] at k
 | _,_,.ref a,k=>by simp[V.da] at k
 | _,_,.fix v,k=>by simp[V.da] at k
theorem j9.reads{h:Heap}:∀{v:List V}{c:List Value},j9 h v c→V.eI v=true→∃as,ReadsAll h c (V.He v) as
 | _,_,.nil,_=>⟨_,.nil⟩
 | _,_,.cons x y,k=>by
  simp only[V.eI,Bool.and_eq_true] at k
  obtain⟨as,r⟩:=Rep.reads x k.1
  obtain⟨bs,q⟩:=j9.reads y k.2
  exact⟨_,by simpa[V.He] using ReadsAll.cons r q⟩
end
mutual
theorem V.can:∀v:V,v.da=true→v.pd.canLay0=true
 | .none,_=>by simp[V.pd,PyData.canLay0]
 | .bool _,_=>by simp[V.pd,PyData.canLay0]
 | .int _,_=>by simp[V.pd,PyData.canLay0]
 | .str _,h=>by simpa[V.pd,PyData.canLay0,V.da] using h
 | .tup l,h=>by simpa[V.pd,PyData.canLay0] using V.Rh l (by simpa[V.da] using h)
 | .rng _ _,h=>by simp[V.da] at h
 | .ref _,h=>by simp[V.da] at h
 | .fix _,h=>by simp[V.da] at h
theorem V.Rh:∀l:List V,V.eI l=true→PyData.canLayAll0 (V.He l)=true
 | [],_=>by simp[V.He,PyData.canLayAll0]
 | x::xs,h=>by
  simp only[V.eI,Bool.and_eq_true] at h
  simp[V.He,PyData.canLayAll0,V.can x h.1,V.Rh xs h.2]
end
mutual
theorem V.z8:∀(v:V){d:Nat},v.hk d=true→v.da=true
 | .int _,_,_=>by simp[V.da]
 | .str _,_,h=>by simpa[V.da,V.hk] using h
 | .tup l,0,h=>by simp[V.hk] at h
 | .tup l,d+1,h=>by simpa[V.da] using V.A1 l (by simpa[V.hk] using h)
 | .none,_,h=>by simp[V.hk] at h
 | .bool _,_,h=>by simp[V.hk] at h
 | .rng _ _,_,h=>by simp[V.hk] at h
 | .ref _,_,h=>by simp[V.hk] at h
 | .fix _,_,h=>by simp[V.hk] at h
theorem V.A1:∀(l:List V){d:Nat},V.hks l d=true→V.eI l=true
 | [],_,_=>by simp[V.eI]
 | x::xs,d,h=>by
  simp only[V.hks,Bool.and_eq_true] at h
  simp[V.eI,V.z8 x h.1,V.A1 xs h.2]
end
mutual
theorem V.F9:∀(v:V){d:Nat},v.hk d=true→v.pd.depth≤d+1
 | .int _,_,_=>by simp[V.pd,PyData.depth]
 | .str _,_,h=>by simp[V.pd,PyData.depth]
 | .tup l,0,h=>by simp[V.hk] at h
 | .tup l,d+1,h=>by
  have:=V.N6 l (by simpa[V.hk] using h)
  simp[V.pd,PyData.depth]; omega
 | .none,_,h=>by simp[V.hk] at h
 | .bool _,_,h=>by simp[V.hk] at h
 | .rng _ _,_,h=>by simp[V.hk] at h
 | .ref _,_,h=>by simp[V.hk] at h
 | .fix _,_,h=>by simp[V.hk] at h
theorem V.N6:∀(l:List V){d:Nat},V.hks l d=true→PyData.depthAll (V.He l)≤d+1
 | [],_,_=>by simp[V.He,PyData.depthAll]
 | x::xs,d,h=>by
  simp only[V.hks,Bool.and_eq_true] at h
  have h1:=V.F9 x h.1
  have h2:=V.N6 xs h.2
  simp[V.He,PyData.depthAll]; omega
end
mutual
def V.nb:V→Bool
 | .int _=>true
 | .str _=>true
 | .tup l=>V.hZ l
 | _=>false
def V.hZ:List V→Bool
 | []=>true
 | x::xs=>V.nb x && V.hZ xs
end
mutual
theorem V.H1:∀(v:V){d:Nat},v.hk d=true→v.nb=true
 | .int _,_,_=>by simp[V.nb]
 | .str _,_,h=>by simp[V.nb]
 | .tup l,0,h=>by simp[V.hk] at h
 | .tup l,d+1,h=>by simpa[V.nb] using V.Q5 l (by simpa[V.hk] using h)
 | .none,_,h=>by simp[V.hk] at h
 | .bool _,_,h=>by simp[V.hk] at h
 | .rng _ _,_,h=>by simp[V.hk] at h
 | .ref _,_,h=>by simp[V.hk] at h
 | .fix _,_,h=>by simp[V.hk] at h
theorem V.Q5:∀(l:List V){d:Nat},V.hks l d=true→V.hZ l=true
 | [],_,_=>by simp[V.hZ]
 | x::xs,d,h=>by
  simp only[V.hks,Bool.and_eq_true] at h
  simp[V.hZ,V.H1 x h.1,V.Q5 xs h.2]
end
mutual
theorem V.eqv:∀x y:V,x.nb=true→y.nb=true→PyData.eqv x.pd y.pd=decide (x=y)
 | .int i,y,_,hy=>by
  cases y with
  | int j=>rw[Bool.eq_iff_iff]; simp[V.pd,PyData.eqv]
  | str _=>simp[V.pd,PyData.eqv]
  | tup _=>simp[V.pd,PyData.eqv]
  | _=>simp[V.nb] at hy
 | .str i,y,_,hy=>by
  cases y with
  | str j=>rw[Bool.eq_iff_iff]; simp[V.pd,PyData.eqv]
  | int _=>simp[V.pd,PyData.eqv]
  | tup _=>simp[V.pd,PyData.eqv]
  | _=>simp[V.nb] at hy
 | .tup l,y,hx,hy=>by
  cases y with
  | tup l' =>
   have:=V.eqvs l l' (by simpa[V.nb] using hx) (by simpa[V.nb] using hy)
   simpa[V.pd,PyData.eqv] using this
  | int _=>simp[V.pd,PyData.eqv]
  | str _=>simp[V.pd,PyData.eqv]
  | _=>simp[V.nb] at hy
 | .none,_,h,_=>by simp[V.nb] at h
 | .bool _,_,h,_=>by simp[V.nb] at h
 | .rng _ _,_,h,_=>by simp[V.nb] at h
 | .ref _,_,h,_=>by simp[V.nb] at h
 | .fix _,_,h,_=>by simp[V.nb] at h
theorem V.eqvs:∀x y:List V,V.hZ x=true→V.hZ y=true→PyData.eqvAll (V.He x) (V.He y)=decide (x=y)
 | [],[],_,_=>by simp[V.He,PyData.eqvAll]
 | [],_::_,_,_=>by simp[V.He,PyData.eqvAll]
 | _::_,[],_,_=>by simp[V.He,PyData.eqvAll]
 | x::xs,y::ys,hx,hy=>by
  simp only[V.hZ,Bool.and_eq_true] at hx hy
  simp[V.He,PyData.eqvAll,V.eqv x y hx.1 hy.1,V.eqvs xs ys hx.2 hy.2]
end
section
variable {prog:Program}{w:World}{A:Around}{E:Value→Shared→Prop}{s:Shared}
theorem Ym{x y:V}{a b:Value}{d e:Nat}{Q:Bool→Shared→Prop}(hx:Rep s.heap x a) (hy:Rep s.heap y b) (kx:x.hk d=true) (ky:y.hk e=true)
  (hu:A.units+(d+1) < cLine) (h:Q (decide (x=y)) s):wpAny (model prog w) A (eqBool a b) Q E s:=by
 obtain⟨as,ra⟩:=hx.reads (V.z8 x kx)
 obtain⟨bs,rb⟩:=hy.reads (V.z8 y ky)
 have hd:=V.F9 x kx
 refine SeqAt.eqAt_reads x.pd y.pd A s a b as bs ra rb (V.can x (V.z8 x kx)) (V.can y (V.z8 y ky)) (by omega) prog w E Q ?_
 rw[V.eqv x y (V.H1 x kx) (V.H1 y ky)]; exact h
end
theorem V.Nk(w:World) (l:List V) (k:V):V.hashes w (l++[k])=V.hashes w l++[k.hash w]:=by
 induction l with
 | nil=>simp[V.hashes]
 | cons y ys ih=>simp[V.hashes,ih]
theorem V.Nl(l:List V) (k:V):V.J2 (l++[k])=V.J2 l+k.draws:=by
 induction l with
 | nil=>simp[V.J2]
 | cons y ys ih=>simp[V.J2,ih]; omega
theorem V.Vy(l:List V){d:Nat}(h:V.hks l d=true):∀k∈l,k.hk d=true:=by
 induction l with
 | nil=>intro k hk; cases hk
 | cons y ys ih =>
  simp only[V.hks,Bool.and_eq_true] at h
  intro k hk
  cases hk with
  | head=>exact h.1
  | tail _ hm=>exact ih h.2 k hm
section
variable {prog:Program}{w:World}{A:Around}{E:Value→Shared→Prop}{s:Shared}
theorem Nm:∀(d:Nat) (v:V) (c:Value) (A:Around) (s:Shared) (Q:Int→Shared→Prop),Rep s.heap v c→v.hk d=true→A.units+d < cLine →
  Q (v.hash w) {s with toks:=s.toks+v.draws}→wpAny (model prog w) A (pyHash c) Q E s
 | d,.int i,c,A,s,Q,hr,_,_,h=>by cases hr; exact wpAny_pyHash_int h
 | d,.str i,c,A,s,Q,hr,_,_,h=>by cases hr; exact wpAny_pyHash_str h
 | 0,.tup l,c,A,s,Q,hr,hk,_,_=>by simp[V.hk] at hk
 | d+1,.tup l,c,A,s,Q,hr,hk,hu,h=>by
  cases hr with
  | @tup a _ items ht hrs =>
  have hks:V.hks l d=true:=by simpa[V.hk] using hk
  have hT:=ht.isTuple.typeIs
  obtain⟨o,ho,_,n,hd⟩:=ht.isTuple
  show wpAny _ _ (pyHashByItsType (.ref a)) Q E s
  unfold pyHashByItsType
  refine wpAny_bind (wpAny_cRoomFor_or (.inr (by omega)) ?_)
  refine wpAny_bind (wpAny_specialOf hT F.slot_tuple_hash.lookup ?_)
  show wpAny _ _ (if (some (Value.builtin "tuple.__hash__") == some Value.none)=true then _ else _) Q E s
  rw[if_neg (by rw[beq_builtin_none]; exact Bool.false_ne_true)]
  refine wpAny_bind (wpAny_specialOf hT F.slot_tuple_hash.lookup ?_)
  show wpAny _ _ (callSpecialIfBoundUnlessNone? (.ref a) "__hash__" _ >>= _) Q E s
  refine wpAny_bind (wpAny_callSpecialIfBoundUnlessNone?_slot hT F.slot_tuple_hash (wpAny_call_entry F.slot_tuple_hash hT F.entry_tuple_hash ?_ (F.args_tuple_hash_1 _)))
  show wpAny _ _ (Builtin.Tuple.tupleItemsOf (.ref a) >>= _) _ _ s
  refine wpAny_bind (wpAny_tupleItemsOf ho hd (wpAny_bind ?_))
  rw[←Array.forIn_toList]
  refine wpAny_forIn_list _
   (λrest (b:Array Int) s'=>∃done left,l=done++left∧j9 s.heap left rest∧b.toList=V.hashes w done∧s'={s with toks:=s.toks+V.J2 done})
   _ ?_ ?_ _ _ ⟨[],l,rfl,hrs,rfl,rfl⟩
  ·rintro x rest b s' ⟨done,left,e,hl,hb,rfl⟩
   cases hl with
   | @cons k _ left' _ h1 hl' =>
    have hkk:k.hk d=true:=V.Vy l hks k (by rw[e]; simp)
    refine wpAny_bind (Nm d k x _ _ _ h1 hkk (by show A.units+1+d < cLine; omega) ?_)
    have hh:V.hashes w (done++[k])=V.hashes w done++[k.hash w]:=V.Nk w done k
    have hdr:V.J2 (done++[k])=V.J2 done+k.draws:=V.Nl done k
    have fin:l=(done++[k])++left'∧j9 s.heap left' rest∧(b.push (k.hash w)).toList=V.hashes w (done++[k])∧({s with toks:=s.toks+V.J2 done+k.draws}:Shared)={s with toks:=s.toks+V.J2 (done++[k])}:=by
     refine⟨by rw[e]; simp,hl',by rw[hh,←hb]; simp,?_⟩
     rw[hdr]; congr 1; omega
    exact wpAny_pure ⟨done++[k],left',fin⟩
  ·rintro b s' ⟨done,left,e,hl,hb,rfl⟩
   cases hl
   rw[List.append_nil] at e
   subst e
   show wpAny _ _ (retInt (Builtin.Tuple.tupleHashOf b.toList)) _ _ _
   rw[hb]
   refine wpAny_ret_mkInt ?_
   have hdr:V.draws (.tup l)=V.J2 l+1:=by simp[V.draws]
   rw[hdr] at h
   show wpAny _ _ (if (decide (-(2:Int) ^ 63≤Builtin.Tuple.tupleHashOf (V.hashes w l)) && decide (Builtin.Tuple.tupleHashOf (V.hashes w l) < 2 ^ 63))=true then _ else _) Q E _
   have hh:V.hash w (.tup l)=reduceHash (Builtin.Tuple.tupleHashOf (V.hashes w l)):=by simp[V.hash]
   rw[hh] at h
   unfold reduceHash at h
   by_cases hr:(decide (-(2:Int) ^ 63≤Builtin.Tuple.tupleHashOf (V.hashes w l)) && decide (Builtin.Tuple.tupleHashOf (V.hashes w l) < 2 ^ 63))=true
   ·rw[if_pos hr]
    rw[if_pos hr] at h
    exact wpAny_pure (by simpa[Nat.add_assoc] using h)
   ·rw[if_neg hr]
    rw[if_neg hr] at h
    exact wpAny_bind (wpAny_rule (wpAny_pure (by simpa[Nat.add_assoc] using h)))
 | _,.none,_,_,_,_,_,h,_,_=>by simp[V.hk] at h
 | _,.bool _,_,_,_,_,_,h,_,_=>by simp[V.hk] at h
 | _,.rng _ _,_,_,_,_,_,h,_,_=>by simp[V.hk] at h
 | _,.ref _,_,_,_,_,_,h,_,_=>by simp[V.hk] at h
 | _,.fix _,_,_,_,_,_,h,_,_=>by simp[V.hk] at h
theorem Tr:∀(d:Nat) (v:V) (c:Value) (A:Around) (s:Shared) (Q:Bool→Shared→Prop),Rep s.heap v c→v.hk d=true →
  Q true s→wpAny (model prog w) A (eqIsQuiet d c) Q E s
 | d,.int i,c,A,s,Q,hr,_,h=>by cases hr; rw[eqIsQuiet_byValue _ rfl]; exact wpAny_pure h
 | d,.str i,c,A,s,Q,hr,_,h=>by cases hr; rw[eqIsQuiet_byValue _ rfl]; exact wpAny_pure h
 | 0,.tup l,c,A,s,Q,hr,hk,_=>by simp[V.hk] at hk
 | d+1,.tup l,c,A,s,Q,hr,hk,h=>by
  cases hr with
  | @tup a _ items ht hrs =>
  have hks:V.hks l d=true:=by simpa[V.hk] using hk
  have hT:=ht.isTuple.typeIs
  obtain⟨o,ho,_,n,hd⟩:=ht.isTuple
  unfold eqIsQuiet
  refine wpAny_bind (wpAny_specialOf hT F.slot_tuple_eq.lookup ?_)
  show wpAny _ _ (isInstance (.ref a) (.type "tuple") >>= _) _ _ s
  refine wpAny_bind (wpAny_isInstance hT isSubtype_tuple_tuple ?_)
  simp only[Bool.not_true,Bool.false_eq_true,if_false]
  refine wpAny_bind (wpAny_seqItems ho hd ?_)
  refine wpAny_bind ?_
  show wpAny _ _ (forIn items _ _) _ _ s
  rw[←Array.forIn_toList]
  refine wpAny_forIn_list _ (λrest r s'=>r.1=none∧s'=s∧∃left,V.hks left d=true∧j9 s.heap left rest) _ ?_ ?_ _ _ ⟨rfl,rfl,l,hks,hrs⟩
  ·rintro v rest r s' ⟨hr,rfl,left,hl,hrep⟩
   cases hrep with
   | @cons k _ left' _ h1 hl' =>
    simp only[V.hks,Bool.and_eq_true] at hl
    refine wpAny_bind (Tr d k v _ _ _ h1 hl.1 ?_)
    simp only[Bool.not_true,Bool.false_eq_true,if_false]
    exact wpAny_pure ⟨rfl,rfl,left',hl.2,hl'⟩
  ·rintro⟨r1,r2⟩ s' ⟨hr,rfl,_⟩
   simp only at hr
   subst hr
   exact wpAny_pure h
 | _,.none,_,_,_,_,_,h,_=>by simp[V.hk] at h
 | _,.bool _,_,_,_,_,_,h,_=>by simp[V.hk] at h
 | _,.rng _ _,_,_,_,_,_,h,_=>by simp[V.hk] at h
 | _,.ref _,_,_,_,_,_,h,_=>by simp[V.hk] at h
 | _,.fix _,_,_,_,_,_,h,_=>by simp[V.hk] at h
theorem Hi{h h':Heap}{d:Addr}{o:Obj}{es ep}(ho:h.get? d=some o) (hd:o.data=.dict es ep) (hs:Heap.SameBut d h h'):x8 h h':=λa x hx hi=>by
 have hne:a≠d:=by
  rintro rfl
  rw[hx] at ho; cases ho
  rcases hi with⟨_,_,_,e⟩ | ⟨_,_,e,_⟩<;>rw[hd] at e<;>cases e
 exact(hs.2 a hne).trans hx
end
noncomputable def O4(prog:Program) (w:World):HeapKind prog w V where
 is:=λh k a=>Rep h k (.ref a)∧k.hk 8=true
 hash:=V.hash w
 draws:=V.draws
 room:=λA=>A.units+9 < cLine
 inj:=λhx hy=>Rep.inj hx.1 hy.1 hx.2 hy.2
 keeps:=λx ho hd hs=>⟨x.1.mono (Hi ho hd hs),x.2⟩
 pyHash:=λhu hk h=>Nm 8 _ _ _ _ _ hk.1 hk.2 (by omega) h
 eqBool:=λhu hx hy h=>Ym hx.1 hy.1 hx.2 hy.2 (by omega) h
 quiet:=λhk h=>Tr 8 _ _ _ _ _ hk.1 hk.2 h
end Mine
end
section
open PySem PySem.W PyProof.Rows PySem.Calls
set_option Elab.async false
namespace Mine
open Classical
theorem nG{a b:Nat}{P:Prop}(h:a < b) (k:b≤a):P:=absurd (Nat.lt_of_lt_of_le h k) (Nat.lt_irrefl _)
def Above(h:Heap) (a:Addr):Prop:=h.get? a=none
theorem Above.of_le{h:Heap}{a:Addr}(k:h.objs.size≤a):Above h a:=by
 cases e:h.get? a with
 | none=>exact e
 | some o=>exact nG (Heap.lt_size e) k
theorem Above.not{h:Heap}{a:Addr}{o:Obj}{P:Prop}(x:Above h a) (e:h.get? a=some o):P:=by
 unfold Above at x; rw[x] at e; cases e
theorem Above.back{h h':Heap}{a:Addr}(x:Above h' a) (k:∀b o,h.get? b=some o→∃o',h'.get? b=some o'):Above h a:=by
 cases e:h.get? a with
 | none=>exact e
 | some o=>obtain⟨o',e'⟩:=k a o e; exact x.not e'
def Ri(o:Obj):Prop:=∃es ep,o.data=.dict es ep
inductive z5 where
 | list (l:List V)
 | dict (l:List (V×V))
 | ns (l:List (Str×V))
 | inst (C dx:Addr)
abbrev a7:=Addr→Option z5
def i8(O:a7) (a:Addr) (o:z5):a7:=λb=>if b=a then some o else O b
@[simp] theorem b9 (O:a7) (a:Addr) (o:z5):i8 O a o a=some o:=by simp[i8]
theorem i9{O:a7}{a b:Addr}{o:z5}(h:b≠a):i8 O a o b=O b:=by simp[i8,h]
def z5.like:z5→z5→Prop
 | .list _,.list _=>True
 | .dict _,.dict _=>True
 | .ns _,.ns _=>True
 | .inst C d,.inst C' d'=>C=C'∧d=d'
 | _,_=>False
theorem z5.like.refl(o:z5):o.like o:=by cases o<;>simp[z5.like]
theorem z5.like.trans{a b c:z5}(x:a.like b) (y:b.like c):a.like c:=by
 cases a<;>cases b<;>simp[z5.like] at x<;>cases c<;>simp_all[z5.like]
def Z0(prog:Program) (w:World) (h:Heap) (a:Addr) (l:List (V×V)):Prop :=
 (∃kvs:List (Int×Value),h.DictOf (intKind prog w) a kvs∧l.map (·.1)=kvs.map (λq=>V.int q.1)∧j9 h (l.map (·.2)) (kvs.map (·.2))) ∨
 (∃kvs:List (Str×Value),h.DictOf (strKind prog w) a kvs∧l.map (·.1)=kvs.map (λq=>V.str q.1)∧j9 h (l.map (·.2)) (kvs.map (·.2))) ∨
 (∃xs:List (V×Addr×Value),h.DictOfH (O4 prog w) a xs∧l.map (·.1)=xs.map (·.1)∧j9 h (l.map (·.2)) (xs.map (·.2.2)))
inductive M6(w:World) (h:Heap):List DictEntry→List (Str×V)→Prop
 | nil:M6 w h [] []
 | cons {x:Str}{t:Tok}{c:Value}{v:V}{es:List DictEntry}{l:List (Str×V)} :
  Rep h v c→M6 w h es l→M6 w h (⟨PyData.keyHash w.params x,.str x t,c⟩::es) ((x,v)::l)
def Dh(prog:Program) (w:World) (h:Heap) (a:Addr):z5→Prop
 | .list l=>∃items,h.PlainList a items∧j9 h l items.toList
 | .dict l=>Z0 prog w h a l
 | .ns l=>∃es n,h.get? a=some (dictOf es n)∧M6 w h es l
 | .inst C dx=>h.get? a=some ⟨.ref C,some dx,.plain,#[]⟩
structure Cx where
 prog:Program
 w:World
 base:Heap
 K:Frag
 k8:Addr
structure Rel(c:Cx) (O:a7) (h:Heap):Prop where
 stays:c.base.StaysIn h
 big:∃b,2 < b∧∃o,c.base.get? b=some o
 at_:∀a o,O a=some o→(c.base.get? a=none∧2 < a)∧Dh c.prog c.w h a o
def dY(P:Addr→Prop) (h h':Heap):Prop :=
 (∀b o,h.get? b=some o→∃o',h'.get? b=some o')∧∀a o,h.get? a=some o→¬ P a→(∃sl,h'.get? a=some {o with slots:=sl})∧((∀es n,o.data≠.dict es n)→h'.get? a=some o)
theorem dY.refl(P:Addr→Prop) (h:Heap):dY P h h:=⟨λ_ o e=>⟨o,e⟩,λ_ o e _=>⟨⟨o.slots,e⟩,λ_=>e⟩⟩
theorem dY.ext{P:Addr→Prop}{h h':Heap}(hs:∀b o,h.get? b=some o→∃o',h'.get? b=some o') (k:∀a o,h.get? a=some o→¬ P a→h'.get? a=some o):dY P h h' :=
 ⟨hs,λa o e n=>⟨⟨o.slots,k a o e n⟩,λ_=>k a o e n⟩⟩
theorem Dh.shape{prog:Program}{w:World}{h:Heap}{a:Addr}{o:z5}(x:Dh prog w h a o):∃ob,h.get? a=some ob∧(∀vs,ob.data≠.fields vs)∧¬ Cj ob:=by
 cases o with
 | list l =>
  obtain⟨items,⟨n,ho⟩,_⟩:=x
  refine⟨_,ho,(λvs e=>by cases e),λi=>?_⟩
  rcases i with⟨e,_⟩ | ⟨e,_⟩<;>simp at e
 | dict l =>
  rcases x with⟨kvs,⟨ob,es,ep,ho,hx,hd,_⟩,_⟩ | ⟨kvs,⟨ob,es,ep,ho,hx,hd,_⟩,_⟩ | ⟨xs,⟨ob,es,ep,ho,hx,hd,_⟩,_⟩ <;>
   exact⟨ob,ho,(λvs e=>by rw[hd] at e; cases e),λi=>by rcases i with⟨_,_,_,e⟩ | ⟨_,_,e,_⟩<;>rw[hd] at e<;>cases e⟩
 | ns l =>
  obtain⟨es,n,ho,_⟩:=x
  exact⟨_,ho,(λvs e=>by cases e),λi=>by rcases i with⟨_,_,_,e⟩ | ⟨_,_,e,_⟩<;>cases e⟩
 | inst C dx =>
  exact⟨_,x,(λvs e=>by cases e),λi=>by rcases i with⟨_,_,_,e⟩ | ⟨_,_,e,_⟩<;>cases e⟩
theorem Dh.Yn{prog:Program}{w:World}{h h':Heap}{a:Addr}{o o':z5}{ob:Obj}(x:Dh prog w h a o) (hl:o.like o') (y:Dh prog w h' a o') (e:h.get? a=some ob) (n:Ri ob):∃ob',h'.get? a=some ob'∧Ri ob':=by
 have isd:∀{l:List (V×V)},Z0 prog w h' a l→∃ob',h'.get? a=some ob'∧Ri ob':=fun {l} y=>by
  rcases y with⟨kvs,⟨ob,es,ep,ho,hx,hd,_⟩,_⟩ | ⟨kvs,⟨ob,es,ep,ho,hx,hd,_⟩,_⟩ | ⟨xs,⟨ob,es,ep,ho,hx,hd,_⟩,_⟩<;>exact⟨ob,ho,es,ep,hd⟩
 obtain⟨es,ep,hd⟩:=n
 cases o with
 | list l =>
  obtain⟨items,⟨n,ho⟩,_⟩:=x
  rw[ho] at e; cases e; cases hd
 | dict l=>cases o'<;>simp[z5.like] at hl; exact isd y
 | ns l =>
  cases o'<;>simp[z5.like] at hl
  obtain⟨es',n',ho,_⟩:=y
  exact⟨_,ho,_,_,rfl⟩
 | inst C dx =>
  have x':h.get? a=some ⟨.ref C,some dx,.plain,#[]⟩:=x
  rw[x'] at e; cases e; cases hd
structure j6(c:Cx) (O b7:a7) (F:Addr→Prop) (s s':Shared):Prop where
 same:∃h' tk,s'={s with heap:=h',toks:=tk}
 rel:Rel c b7 s'.heap
 keep:dY (λa=>(O a).isSome=true∨F a) s.heap s'.heap
 Ck:∀a o,O a=some o→∃o',b7 a=some o'∧o.like o'
 fresh:∀a,(b7 a).isSome=true→O a=none→Above s.heap a
 Cm:x8 s.heap s'.heap
 nf:∀b o,s.heap.get? b=some o→Ri o→∃o',s'.heap.get? b=some o'∧Ri o'
theorem j6.refl{c:Cx}{O:a7}{F:Addr→Prop}{s:Shared}(r:Rel c O s.heap):j6 c O O F s s :=
 ⟨⟨s.heap,s.toks,rfl⟩,r,.refl _ _,λ_ o e=>⟨o,e,.refl o⟩,(λa h1 h2=>by rw[h2] at h1; cases h1),.refl _,λ_ o e n=>⟨o,e,n⟩⟩
theorem j6.trans{c:Cx}{O d0 o6:a7}{F:Addr→Prop}{s f7 m9:Shared}(x:j6 c O d0 F s f7) (y:j6 c d0 o6 F f7 m9):j6 c O o6 F s m9 where
 same:=by
  obtain⟨h1,t1,rfl⟩:=x.same
  obtain⟨h2,t2,e⟩:=y.same
  exact⟨h2,t2,e⟩
 rel:=y.rel
 keep:=by
  refine⟨λb o e=>let ⟨o',e'⟩:=x.keep.1 b o e; y.keep.1 b o' e',λa o ho hn=>?_⟩
  have hn1:¬ ((d0 a).isSome=true∨F a):=by
   rintro(h | h)
   ·cases e:O a with
    | none =>
     exact(x.fresh a h e).not ho
    | some o=>exact hn (.inl (by rw[e]; rfl))
   ·exact hn (.inr h)
  obtain⟨⟨sl,e1⟩,e2⟩:=x.keep.2 a o ho hn
  obtain⟨⟨sl',e3⟩,e4⟩:=y.keep.2 a _ e1 hn1
  exact⟨⟨sl',e3⟩,λhd=>(y.keep.2 a o (e2 hd) hn1).2 hd⟩
 Ck:=λa o e=>by
  obtain⟨o1,e1,l1⟩:=x.Ck a o e
  obtain⟨o2,e2,l2⟩:=y.Ck a o1 e1
  exact⟨o2,e2,l1.trans l2⟩
 fresh:=λa h1 h2=>by
  cases e:d0 a with
  | none=>exact(y.fresh a h1 e).back x.keep.1
  | some o=>exact x.fresh a (by rw[e]; rfl) h2
 Cm:=x.Cm.trans y.Cm
 nf:=λb o e n=>by
  obtain⟨o1,e1,n1⟩:=x.nf b o e n
  exact y.nf b o1 e1 n1
theorem j6.Nn{c:Cx}{O d0:a7}{F G:Addr→Prop}{s f7:Shared}(x:j6 c O d0 F s f7) (h:∀a,F a→G a):j6 c O d0 G s f7 :=
 {x with keep:=⟨x.keep.1,λa o e n=>x.keep.2 a o e λq=>n (q.imp id (h a))⟩}
theorem j6.O5{c:Cx}{O d0:a7}{F:Addr→Prop}{s f7:Shared}(x:j6 c O d0 F s f7){a:Addr}{ob:Obj}(h:O a=none) (hs:s.heap.get? a=some ob):d0 a=none:=by
 cases e:d0 a with
 | none=>rfl
 | some o=>exact(x.fresh a (by rw[e]; rfl) h).not hs
def FF(c:Cx) (O:a7) (h:Heap) (l:List Env):Prop:=∀env∈l,env.scope.kind≠.module∧∃L o,env.frame=some L∧c.base.get? L=none∧O L=none∧h.get? L=some o∧Ri o
theorem FF.move{c:Cx}{O b7:a7}{h h':Heap}{l:List Env}(x:FF c O h l) (k1:∀b o,h.get? b=some o→O b=none→b7 b=none) (k2:∀b o,h.get? b=some o→Ri o→∃o',h'.get? b=some o'∧Ri o'):FF c b7 h' l:=λenv he=>by
 obtain⟨h1,L,o,h2,h3,h4,h5,h6⟩:=x env he
 obtain⟨o',g1,g2⟩:=k2 L o h5 h6
 exact⟨h1,L,o',h2,h3,k1 L o h5 h4,g1,g2⟩
theorem FF.fun{c:Cx}{O:a7}{h B:Heap}:∀{l:List Env},FF c O h l→(∀L∈l.filterMap (·.frame),B.get? L=none)→h.FunFrames B l
 | [],_,_=>trivial
 | env::l,x,hB=>by
  obtain⟨h1,L,o,h2,h3,h4,h5,es,ep,h6⟩:=x env (.head _)
  refine⟨h1,⟨L,o,h2,hB L (by simp[h2]),h5,λvs e=>by rw[h6] at e; cases e⟩,FF.fun (λe he=>x e (.tail _ he)) λL' hL'=>hB L' ?_⟩
  rw[List.filterMap_cons,h2]; exact .tail _ hL'
theorem Rel.ext{c:Cx}{O:a7}{h h':Heap}(r:Rel c O h) (k:∀a o,h.get? a=some o→h'.get? a=some o):Rel c O h':=by
 have ki:x8 h h':=λa o e _=>k a o e
 refine⟨λb o e=>k b o (r.1 b o e),r.2,λa o e=>⟨(r.3 a o e).1,?_⟩⟩
 have x:=(r.3 a o e).2
 cases o with
 | list l =>
  obtain⟨items,⟨n,ho⟩,hr⟩:=x
  exact⟨items,⟨n,k _ _ ho⟩,hr.mono ki⟩
 | dict l =>
  rcases x with⟨kvs,⟨ob,es,ep,ho,q⟩,e1,e2⟩ | ⟨kvs,⟨ob,es,ep,ho,q⟩,e1,e2⟩ | ⟨xs,⟨ob,es,ep,ho,q1,q2,q3,q4,q5⟩,e1,e2⟩
  ·exact .inl ⟨kvs,⟨ob,es,ep,k _ _ ho,q⟩,e1,e2.mono ki⟩
  ·exact .inr (.inl ⟨kvs,⟨ob,es,ep,k _ _ ho,q⟩,e1,e2.mono ki⟩)
  ·exact .inr (.inr ⟨xs,⟨ob,es,ep,k _ _ ho,q1,q2,q3,λy hy=>⟨(q4 y hy).1.mono ki,(q4 y hy).2⟩,q5⟩,e1,e2.mono ki⟩)
 | ns l =>
  obtain⟨es,n,ho,q⟩:=x
  refine⟨es,n,k _ _ ho,?_⟩
  clear ho e
  induction q with
  | nil=>exact .nil
  | cons a _ ih=>exact .cons (a.mono ki) ih
 | inst C dx=>exact k _ _ x
theorem Dh.move{prog:Program}{w:World}{h h':Heap}{a:Addr}{o:z5}(x:Dh prog w h a o) (e:h'.get? a=h.get? a) (ki:x8 h h'):Dh prog w h' a o:=by
 cases o with
 | list l =>
  obtain⟨items,⟨n,ho⟩,hr⟩:=x
  exact⟨items,⟨n,e.trans ho⟩,hr.mono ki⟩
 | dict l =>
  rcases x with⟨kvs,⟨ob,es,ep,ho,q⟩,e1,e2⟩ | ⟨kvs,⟨ob,es,ep,ho,q⟩,e1,e2⟩ | ⟨xs,⟨ob,es,ep,ho,q1,q2,q3,q4,q5⟩,e1,e2⟩
  ·exact .inl ⟨kvs,⟨ob,es,ep,e.trans ho,q⟩,e1,e2.mono ki⟩
  ·exact .inr (.inl ⟨kvs,⟨ob,es,ep,e.trans ho,q⟩,e1,e2.mono ki⟩)
  ·exact .inr (.inr ⟨xs,⟨ob,es,ep,e.trans ho,q1,q2,q3,λy hy=>⟨(q4 y hy).1.mono ki,(q4 y hy).2⟩,q5⟩,e1,e2.mono ki⟩)
 | ns l =>
  obtain⟨es,n,ho,q⟩:=x
  refine⟨es,n,e.trans ho,?_⟩
  clear ho
  induction q with
  | nil=>exact .nil
  | cons a _ ih=>exact .cons (a.mono ki) ih
 | inst C dx=>exact e.trans x
theorem j6.ext{c:Cx}{O:a7}{F:Addr→Prop}{s:Shared}{h':Heap}{tk:Nat}(r:Rel c O s.heap) (hs:s.heap.objs.size≤h'.objs.size) (k:∀a o,s.heap.get? a=some o→h'.get? a=some o) :
  j6 c O O F s {s with heap:=h',toks:=tk} :=
 ⟨⟨h',tk,rfl⟩,r.ext k,.ext (λb o e=>⟨o,k b o e⟩) λa o e _=>k a o e,λ_ o e=>⟨o,e,.refl o⟩,(λa h1 h2=>by rw[h2] at h1; cases h1),λa o e _=>k a o e,λb o e n=>⟨o,k b o e,n⟩⟩
theorem j6.toks{c:Cx}{O:a7}{F:Addr→Prop}{s:Shared}{tk:Nat}(r:Rel c O s.heap):j6 c O O F s {s with toks:=tk} :=
 j6.ext (h':=s.heap) r (Nat.le_refl _) λ_ _ e=>e
theorem j6.new{c:Cx}{O:a7}{F:Addr→Prop}{s:Shared}{h':Heap}{tk:Nat}{a:Addr}{o:z5}(r:Rel c O s.heap) (hs:s.heap.objs.size≤h'.objs.size)
  (k:∀a o,s.heap.get? a=some o→h'.get? a=some o) (ha:s.heap.objs.size≤a) (hr:Dh c.prog c.w h' a o) :
  j6 c O (i8 O a o) F s {s with heap:=h',toks:=tk}∧O a=none:=by
 have hn:O a=none:=by
  cases e:O a with
  | none=>rfl
  | some o' =>
   obtain⟨ob,ho,_⟩:=(r.3 a o' e).2.shape
   exact(Above.of_le ha).not ho
 refine⟨⟨⟨h',tk,rfl⟩,⟨λb x e=>k b x (r.1 b x e),r.2,λb x e=>?_⟩,.ext (λb o e=>⟨o,k b o e⟩) λa o e _=>k a o e,λb x e=>?_,λb h1 h2=>?_,λa o e _=>k a o e,λb o e n=>⟨o,k b o e,n⟩⟩,hn⟩
 ·by_cases hb:b=a
  ·subst hb
   rw[b9] at e; cases e
   refine⟨⟨?_,let ⟨b',h1,o',h2⟩:=r.2; Nat.lt_trans h1 (Nat.lt_of_lt_of_le (Heap.lt_size (r.1 b' o' h2)) ha)⟩,hr⟩
   cases q:c.base.get? b with
   | none=>rfl
   | some y=>exact(Above.of_le ha).not (r.1 b y q)
  ·rw[i9 hb] at e
   exact(r.ext k).3 b x e
 ·by_cases hb:b=a
  ·subst hb; rw[hn] at e; cases e
  ·exact⟨x,by rw[i9 hb]; exact e,.refl x⟩
 ·by_cases hb:b=a
  ·subst hb; exact .of_le ha
  ·rw[i9 hb] at h1; rw[h2] at h1; cases h1
theorem j6.change{c:Cx}{O:a7}{F:Addr→Prop}{s:Shared}{h':Heap}{tk:Nat}{a:Addr}{o o':z5}(r:Rel c O s.heap) (ho:O a=some o) (hl:o.like o') (hs:Heap.SameBut a s.heap h')
  (hr:x8 s.heap h'→Dh c.prog c.w h' a o'):j6 c O (i8 O a o') F s {s with heap:=h',toks:=tk}:=by
 obtain⟨hn,ra⟩:=r.3 a o ho
 obtain⟨ob,hob,hf,hi⟩:=ra.shape
 have ki:x8 s.heap h':=λb x e im=>by
  by_cases hb:b=a
  ·subst hb; rw[hob] at e; cases e; exact absurd im hi
  ·exact(hs.2 b hb).trans e
 refine⟨⟨h',tk,rfl⟩,⟨λb x e=>?_,r.2,λb x e=>?_⟩,.ext (λb x e=>by
  by_cases hb:b=a
  ·subst hb
   obtain⟨ob',h1,_⟩:=(hr ki).shape
   exact⟨ob',h1⟩
  ·exact⟨x,(hs.2 b hb).trans e⟩) λb x e n=>?_,λb x e=>?_,λb h1 h2=>?_,ki,λb x e n=>?_⟩
 ·have hb:b≠a:=by rintro rfl; rw[hn.1] at e; cases e
  exact(hs.2 b hb).trans (r.1 b x e)
 ·by_cases hb:b=a
  ·subst hb; rw[b9] at e; cases e; exact⟨hn,hr ki⟩
  ·rw[i9 hb] at e
   exact⟨(r.3 b x e).1,(r.3 b x e).2.move (hs.2 b hb) ki⟩
 ·have hb:b≠a:=by rintro rfl; exact n (.inl (by rw[ho]; rfl))
  exact(hs.2 b hb).trans e
 ·by_cases hb:b=a
  ·subst hb; rw[ho] at e; cases e; exact⟨o',b9 ..,hl⟩
  ·exact⟨x,by rw[i9 hb]; exact e,.refl x⟩
 ·by_cases hb:b=a
  ·subst hb; rw[ho] at h2; cases h2
  ·rw[i9 hb] at h1; rw[h2] at h1; cases h1
 ·by_cases hb:b=a
  ·subst hb
   obtain⟨ob',h1,h2⟩:=ra.Yn hl (hr ki) e n
   exact⟨ob',h1,h2⟩
  ·exact⟨x,(hs.2 b hb).trans e,n⟩
theorem j6.own{c:Cx}{O:a7}{F:Addr→Prop}{s:Shared}{h':Heap}{tk:Nat}{a:Addr}{ob ob':Obj}(r:Rel c O s.heap) (hn:O a=none) (hb:c.base.get? a=none) (hF:F a) (ho:s.heap.get? a=some ob)
  (hi:¬ Cj ob) (ho':h'.get? a=some ob') (hf':Ri ob→Ri ob') (hs:Heap.SameBut a s.heap h'):j6 c O O F s {s with heap:=h',toks:=tk}:=by
 have ki:x8 s.heap h':=λb x e im=>by
  by_cases hb:b=a
  ·subst hb; rw[ho] at e; cases e; exact absurd im hi
  ·exact(hs.2 b hb).trans e
 refine⟨⟨h',tk,rfl⟩,⟨λb x e=>?_,r.2,λb x e=>?_⟩,.ext (λb x e=>by
  by_cases hb:b=a
  ·subst hb
   exact⟨ob',ho'⟩
  ·exact⟨x,(hs.2 b hb).trans e⟩) λb x e n=>?_,λb x e=>⟨x,e,.refl x⟩,λb h1 h2=>?_,ki,λb x e n=>?_⟩
 ·have hb:b≠a:=by rintro rfl; rw[hb] at e; cases e
  exact(hs.2 b hb).trans (r.1 b x e)
 ·have hb:b≠a:=by rintro rfl; rw[hn] at e; cases e
  exact⟨(r.3 b x e).1,(r.3 b x e).2.move (hs.2 b hb) ki⟩
 ·have hb:b≠a:=by rintro rfl; exact n (.inr hF)
  exact(hs.2 b hb).trans e
 ·rw[h2] at h1; cases h1
 ·by_cases hb:b=a
  ·subst hb; rw[ho] at e; cases e; exact⟨ob',ho',hf' n⟩
  ·exact⟨x,(hs.2 b hb).trans e,n⟩
def Ok(c:Cx) (n:Nat) (A:Around) (O:a7) (h:Heap):Prop :=
 A.depth+3 * n+3 < recursionLimit∧A.units+20 * n+200 < cLine∧A.handled=none∧∃l,A.frames=some l∧FF c O h l
structure FS where
 sc:List (Str×NameKind)
 res:List (Str×Nat)
structure Y6(c:Cx) (env:Env) (fs:FS) (Z:Nat→Option V) (O:a7) (h:Heap):Prop where
 kind:env.scope.kind=.function
 names:env.scope.names=fs.sc
 glob:env.globals=mainGlobals
 blt:env.builtins=builtinsNs
 x4:O env.locals=none
 K5:c.base.get? env.locals=none
 ns:∃m,h.Ns env.locals m∧∀x i v,fs.res.lookup x=some i→Z i=some v→env.kindOf x=some .local→∃cv,m x=some cv∧Rep h v cv
 cell:∀x i,fs.res.lookup x=some i→(env.kindOf x=some .cell∨env.kindOf x=some .free) →
  ∃a ov,env.cells.lookup x=some a∧h.IsCell a ov∧O a=none∧c.base.get? a=none∧∀v,Z i=some v→∃cv,ov=some cv∧Rep h v cv
 apart:∀x y a,env.cells.lookup x=some a→env.cells.lookup y=some a→x=y
inductive Eh where
 | new
 | left
 | held (L:Addr)
def Dv(lo:Heap) (h:Heap) (x:Addr) (vs:Array Value):Eh→Prop
 | .new=>vs[1]?=some .none
 | .left=>∃T oT ts,vs[1]?=some (.ref T)∧Above lo T∧T≠x∧h.get? T=some oT∧oT.data=.fields ts∧ts[3]?=some .none
 | .held L=>∃T oT ts,vs[1]?=some (.ref T)∧Above lo T∧T≠x∧h.get? T=some oT∧oT.data=.fields ts∧ts[3]?=some (rawInt L)
def ExcAt(c:Cx) (lo:Heap) (k:Eh) (ev:Value) (h:Heap):Prop :=
 ∃x o vs a0,ev=.ref x∧Above lo x∧h.get? x=some o∧o.cls=.ref c.k8∧o.data=.fields vs∧vs[0]?=some a0∧Dv lo h x vs k
theorem ExcAt.mono{c:Cx}{lo lo':Heap}{k:Eh}{ev:Value}{h:Heap}(x:ExcAt c lo k ev h) (hk:∀b o,lo'.get? b=some o→∃o',lo.get? b=some o'):ExcAt c lo' k ev h:=by
 obtain⟨a,o,vs,a0,h1,h2,h3,h4,h5,h6,h7⟩:=x
 refine⟨a,o,vs,a0,h1,h2.back hk,h3,h4,h5,h6,?_⟩
 cases k with
 | new=>exact h7
 | left=>obtain⟨T,oT,ts,g1,g2,g⟩:=h7; exact⟨T,oT,ts,g1,g2.back hk,g⟩
 | held L=>obtain⟨T,oT,ts,g1,g2,g⟩:=h7; exact⟨T,oT,ts,g1,g2.back hk,g⟩
abbrev nH(c:Cx) (lo:Heap) (ev:Value) (h:Heap):Prop:=ExcAt c lo .left ev h
def QE(c:Cx) (O:a7) (s:Shared) (Q:V→a7→Prop):Value→Shared→Prop :=
 λcv s'=>∃v b7,j6 c O b7 (λ_=>False) s s'∧Rep s'.heap v cv∧Q v b7
def sI(c:Cx) (O:a7) (s:Shared) (Q:List V→a7→Prop):List Value→Shared→Prop :=
 λcv s'=>∃v b7,j6 c O b7 (λ_=>False) s s'∧j9 s'.heap v cv∧Q v b7
def QB(c:Cx) (O:a7) (s:Shared) (Q:Bool→a7→Prop):Bool→Shared→Prop :=
 λb s'=>∃b7,j6 c O b7 (λ_=>False) s s'∧Q b b7
def EE(c:Cx) (O:a7) (s:Shared) (E:a7→Prop):Value→Shared→Prop :=
 λev s'=>∃b7,j6 c O b7 (λ_=>False) s s'∧nH c s.heap ev s'.heap∧E b7
section
variable {c:Cx}{O d0:a7}{s f7 s':Shared}
theorem QE.trans{Q:V→a7→Prop}{cv:Value}(p:j6 c O d0 (λ_=>False) s f7) (h:QE c d0 f7 Q cv s'):QE c O s Q cv s':=by
 obtain⟨v,b7,p',r,q⟩:=h
 exact⟨v,b7,p.trans p',r,q⟩
theorem sI.trans{Q:List V→a7→Prop}{cv:List Value}(p:j6 c O d0 (λ_=>False) s f7) (h:sI c d0 f7 Q cv s'):sI c O s Q cv s':=by
 obtain⟨v,b7,p',r,q⟩:=h
 exact⟨v,b7,p.trans p',r,q⟩
theorem QB.trans{Q:Bool→a7→Prop}{b:Bool}(p:j6 c O d0 (λ_=>False) s f7) (h:QB c d0 f7 Q b s'):QB c O s Q b s':=by
 obtain⟨b7,p',q⟩:=h
 exact⟨b7,p.trans p',q⟩
theorem EE.trans{E:a7→Prop}{ev:Value}(p:j6 c O d0 (λ_=>False) s f7) (h:EE c d0 f7 E ev s'):EE c O s E ev s':=by
 obtain⟨b7,p',r,q⟩:=h
 exact⟨b7,p.trans p',r.mono p.keep.1,q⟩
theorem Ok.post{n:Nat}{A:Around}{F:Addr→Prop}(o:Ok c n A O s.heap) (p:j6 c O d0 F s f7):Ok c n A d0 f7.heap :=
 ⟨o.1,o.2.1,o.2.2.1,let ⟨l,e,f⟩:=o.2.2.2; ⟨l,e,f.move (λ_ _ e h=>p.O5 h e) p.nf⟩⟩
theorem Y6.post{env:Env}{fs:FS}{Z:Nat→Option V}{F:Addr→Prop}(f:Y6 c env fs Z O s.heap) (p:j6 c O d0 F s f7) (hF:∀a,F a→a≠env.locals∧∀x,env.cells.lookup x≠some a) :
  Y6 c env fs Z d0 f7.heap where
 kind:=f.kind
 names:=f.names
 glob:=f.glob
 blt:=f.blt
 x4:=by
  obtain⟨m,⟨o,es,ep,ho,_⟩,_⟩:=f.ns
  exact p.O5 f.x4 ho
 K5:=f.K5
 ns:=by
  obtain⟨m,⟨o,es,ep,ho,hd,q⟩,hm⟩:=f.ns
  have:=(p.keep.2 _ o ho (by rintro(h | h); rw[f.x4] at h; cases h; exact(hF _ h).1 rfl)).1
  obtain⟨sl,e⟩:=this
  refine⟨m,⟨_,es,ep,e,hd,q⟩,λx i v h1 h2 h3=>?_⟩
  obtain⟨cv,e1,e2⟩:=hm x i v h1 h2 h3
  exact⟨cv,e1,e2.mono p.Cm⟩
 cell:=λx i h1 h2=>by
  obtain⟨a,ov,h3,⟨o,ho,hd⟩,h5,h6,h7⟩:=f.cell x i h1 h2
  have:=(p.keep.2 a o ho (by rintro(h | h); rw[h5] at h; cases h; exact(hF _ h).2 x h3)).2 (λes n e=>by rw[hd] at e; cases e)
  refine⟨a,ov,h3,⟨o,this,hd⟩,p.O5 h5 ho,h6,λv hv=>?_⟩
  obtain⟨cv,e1,e2⟩:=h7 v hv
  exact⟨cv,e1,e2.mono p.Cm⟩
 apart:=f.apart
theorem Y6.post0{env:Env}{fs:FS}{Z:Nat→Option V}(f:Y6 c env fs Z O s.heap) (p:j6 c O d0 (λ_=>False) s f7):Y6 c env fs Z d0 f7.heap:=f.post p (λ_ h=>h.elim)
end
def l8(c:Cx) (n:Nat) (f:V) (vs:List V) (O:a7) (Q:V→a7→Prop) (E:a7→Prop):Prop :=
 ∀A s cf X5,Ok c n A O s.heap→Rel c O s.heap→Rep s.heap f cf→j9 s.heap vs X5 →
  wpAny (model c.prog c.w) A (call cf X5) (QE c O s Q) (EE c O s E) s
inductive Tg where
 | one (i:Nat)
 | two (i j:Nat)
mutual
inductive X where
 | loc (i:Nat)
 | con (v:V)
 | tup (l:List X)
 | lst (l:List X)
 | dct (l:List X)
 | bin (op:Operator) (a b:X)
 | neg (a:X)
 | not (a:X)
 | and (l:List X)
 | or (l:List X)
 | ite (t:B) (a b:X)
 | cmp (op:CmpOp) (a b:X)
 | call (f:X) (l:List X)
 | meth (o:X) (name:Str) (l:List X)
 | attr (o:X) (name:Str)
 | sub (o i:X)
 | slc (o:X) (lo hi:Option Nat)
 | comp (e:X) (t:Tg) (it:X) (cs:List B)
 | Z1 (d:X) (x:Str)
inductive B where
 | not (a:B)
 | and (l:List B)
 | or (l:List B)
 | cmp (op:CmpOp) (a b:X)
 | val (a:X)
end
inductive S where
 | set (i:Nat) (e:X)
 | swap (i j:Nat) (a b:X)
 | Vz (i j:Nat) (e:X)
 | q8 (o:X) (name:Str) (e:X)
 | I0 (o i e:X)
 | aug (i:Nat) (op:Operator) (e:X)
 | ite (t:B) (a b:List S)
 | whl (t:B) (b:List S)
 | for (t:Tg) (it:X) (b:List S)
 | ret (e:X)
 | raise (l:List X)
 | exp (e:X)
 | eJ (e:X)
 | pass
 | cont
inductive Fl where
 | next
 | cont
 | brk
 | ret (v:V)
abbrev Loc:=Nat→Option V
def b6(Z:Loc) (i:Nat) (v:V):Loc:=λj=>if j=i then some v else Z j
noncomputable def x6(l:List (V×V)) (k:V):Option V:=(l.find? λp=>decide (p.1=k)).map (·.2)
noncomputable def dput(l:List (V×V)) (k v:V):List (V×V):=if (l.any λp=>decide (p.1=k)) then l.map (λp=>if p.1=k then (p.1,v) else p) else l++[(k,v)]
noncomputable def G0:List (V×V)→List (V×V)→List (V×V)
 | l,[]=>l
 | l,p::r=>G0 (dput l p.1 p.2) r
def z0:List V→List (V×V)
 | a::b::r=>(a,b)::z0 r
 | _=>[]
def Ki(l:List V):Prop:=(∀k∈l,∃i,k=.int i)∨(∀k∈l,∃x,k=.str x)∨(∀k∈l,k.hk 8=true∧∃t,k=.tup t)
def S5(k:V) (l:List (V×V)):Prop :=
 (∃i,k=.int i∧∀p∈l,∃j,p.1=.int j)∨(∃x,k=.str x∧∀p∈l,∃y,p.1=.str y)∨(k.hk 8=true∧∃t,k=.tup t∧∀p∈l,∃t',p.1=.tup t')
def z2(v:V) (O:a7) (Q:Bool→Prop):Prop:=match v with
 | .none=>Q false
 | .bool b=>Q b
 | .int i=>Q (decide (i≠0))
 | .tup l=>l.length≤1000000∧Q (decide (l≠[]))
 | .ref a=>match O a with
  | some (.list l)=>l.length≤1000000∧Q (decide (l≠[]))
  | _=>False
 | _=>False
def Hf(op:Operator) (x y:V) (O:a7) (Q:V→a7→Prop):Prop:=match op,x,y with
 | .Add,.int a,.int b=>Q (.int (a+b)) O
 | .Sub,.int a,.int b=>Q (.int (a - b)) O
 | .Mult,.int a,.int b=>(-(2 ^ 60)≤a∧a≤2 ^ 60∧-(2 ^ 60)≤b∧b≤2 ^ 60)∧Q (.int (a * b)) O
 | .FloorDiv,.int a,.int b=>(0 < b∧b < 2 ^ 28∧-(2 ^ 60)≤a∧a≤2 ^ 60)∧Q (.int (a / b)) O
 | .Mod,.int a,.int b=>0 < b∧Q (.int (a % b)) O
 | .BitOr,.int a,.int b=>Q (.int (Builtin.bitOr a b)) O
 | .BitAnd,.int a,.int b=>Q (.int (Builtin.bitAnd a b)) O
 | .Add,.tup a,.tup b=>a.length+b.length≤1000000∧Q (.tup (a++b)) O
 | .Add,.ref a,.ref b=>∃l m,O a=some (.list l)∧O b=some (.list m)∧l.length+m.length≤1000000∧∀r,O r=none→Q (.ref r) (i8 O r (.list (l++m)))
 | .Mult,.ref a,.int k=>∃v,O a=some (.list [v])∧0≤k∧k≤1000∧∀r,O r=none→Q (.ref r) (i8 O r (.list (List.replicate k.toNat v)))
 | _,_,_=>False
def Kj(x y:V):Prop:=(x.nb=true∧y.nb=true∧x.hk 60=true∧y.hk 60=true)∨∃a b,x=.bool a∧y=.bool b
def Iv(l:List V):Prop:=∀v∈l,∃i,v=.int i
def EQ(x y:V) (O:a7) (Q:Bool→Prop):Prop:=match x,y with
 | .ref a,.ref b=>∃l m,O a=some (.list l)∧O b=some (.list m)∧Iv l∧Iv m∧Q (decide (l=m))
 | x,y=>Kj x y∧Q (decide (x=y))
def Rj(c:Cx) (a:Addr) (kvs:List (Int×V)):Prop:=2 < a∧∃l:List (Int×Value),c.base.DictOf (intKind c.prog c.w) a l∧kvs.map (·.1)=l.map (·.1)∧j9 c.base (kvs.map (·.2)) (l.map (·.2))
def IN(c:Cx) (x y:V) (O:a7) (Q:Bool→Prop):Prop:=match y with
 | .str b=>match x with
  | .str a=>∃k,a=⟨#[k]⟩∧Q (decide (k∈b.cps.toList))
  | _=>False
 | .tup l=>x.hk 60=true∧(∀v∈l,v.hk 60=true)∧Q (decide (x∈l))
 | .ref a=>match O a with
  | some (.list l)=>x.hk 60=true∧(∀v∈l,v.hk 60=true)∧Q (decide (x∈l))
  | some (.dict l)=>S5 x l∧Q ((x6 l x).isSome)
  | _=>False
 | .fix (.ref a)=>match x with
  | .int i=>∃kvs,Rj c a kvs∧Q ((kvs.find? λp=>decide (p.1=i)).isSome)
  | _=>False
 | _=>False
def IS(x:V) (Q:Bool→Prop):Prop:=match x with
 | .none=>Q true
 | .bool _=>Q false
 | .int _=>Q false
 | .str _=>Q false
 | .tup _=>Q false
 | .ref _=>Q false
 | _=>False
def G6(c:Cx) (op:CmpOp) (x y:V) (O:a7) (Q:Bool→Prop):Prop:=match op with
 | .Eq=>EQ x y O Q
 | .NotEq=>EQ x y O λb=>Q (!b)
 | .Lt=>∃a b,x=.int a∧y=.int b∧Q (decide (a < b))
 | .LtE=>∃a b,x=.int a∧y=.int b∧Q (decide (a≤b))
 | .Gt=>∃a b,x=.int a∧y=.int b∧Q (decide (b < a))
 | .GtE=>∃a b,x=.int a∧y=.int b∧Q (decide (b≤a))
 | .In=>IN c x y O Q
 | .NotIn=>IN c x y O λb=>Q (!b)
 | .Is=>y=.none∧IS x Q
 | .IsNot=>y=.none∧IS x λb=>Q (!b)
def S4(o i:V) (O:a7) (Q:V→a7→Prop):Prop:=match o with
 | .tup l=>∃k v,i=.int k∧0≤k∧k < 2 ^ 60∧l[k.toNat]?=some v∧Q v O
 | .str x=>∃k u,i=.int k∧0≤k∧k < 2 ^ 60∧x.cps[k.toNat]?=some u∧Q (.str ⟨#[u]⟩) O
 | .ref a=>match O a with
  | some (.list l)=>∃k v,i=.int k∧0≤k∧k < 2 ^ 60∧l[k.toNat]?=some v∧Q v O
  | some (.dict l)=>S5 i l∧∃v,x6 l i=some v∧Q v O
  | _=>False
 | _=>False
def cut{α:Type}(l:List α) (lo hi:Option Nat):List α:=(match hi with | some n=>l.take n | none=>l).drop (lo.getD 0)
def iA(c:Cx) (a:Addr) (l:List V):Prop:=∃items,c.base.IsList a items∧j9 c.base l items.toList
def eK(c:Cx) (o:V) (lo hi:Option Nat) (O:a7) (Q:V→a7→Prop):Prop:=match o with
 | .tup l=>hi=none∧∃a,lo=some a∧1≤a∧a≤l.length∧l.length≤1000000∧Q (.tup (l.drop a)) O
 | .ref a=>∃l,O a=some (.list l)∧l.length≤1000000∧(lo=none∨hi=none)∧∀r,O r=none→Q (.ref r) (i8 O r (.list (cut l lo hi)))
 | .fix (.ref a)=>∃l,iA c a l∧l.length≤1000000∧(lo=none∨hi=none)∧∀r,O r=none→Q (.ref r) (i8 O r (.list (cut l lo hi)))
 | _=>False
def Bm(c:Cx) (C:Addr) (name:Str):Prop :=
 plainGet c.K C name=true∧hasDictIn c.K C=true∧findIn c.K (.ref C) name=some none
def V.Ei:V→Bool
 | .fix _=>false
 | _=>true
def H8(c:Cx) (o:V) (name:Str) (O:a7) (Q:V→Prop):Prop :=
 ∃a C dx l v,o=.ref a∧O a=some (.inst C dx)∧O dx=some (.ns l)∧l.lookup name=some v∧Bm c C name∧v.Ei=true∧Q v
def Iw(c:Cx) (o:V) (name:Str) (O:a7) (fv:V):Prop :=
 (∃a l,o=.ref a∧O a=some (.list l)∧((name = "append"∧fv=.fix (.builtin "list.append"))∨(name = "extend"∧fv=.fix (.builtin "list.extend"))∨(name = "pop"∧fv=.fix (.builtin "list.pop")))) ∨
 (∃a l,o=.ref a∧O a=some (.dict l)∧name = "get"∧fv=.fix (.builtin "dict.get")) ∨
 (∃a kvs,o=.fix (.ref a)∧Rj c a kvs∧name = "get"∧fv=.fix (.builtin "dict.get")) ∨
 (∃a C dx l f,o=.ref a∧O a=some (.inst C dx)∧O dx=some (.ns l)∧l.lookup name=none∧plainGet c.K C name=true∧findIn c.K (.ref C) name=some (some (.ref f))∧isFn c.K (.ref f)=true∧keepIn c.K (.ref f)=true∧fv=.fix (.ref f))
def u6(v:V) (O:a7) (l:List V):Prop:=match v with
 | .tup x=>l=x
 | .rng lo hi=>0≤lo∧lo≤hi∧hi≤1000000∧l=(List.range (hi - lo).toNat).map fun(i:Nat)=>V.int (lo+i)
 | .str x=>(x.cps.all λu=>decide (u < 128))=true∧l=x.cps.toList.map λk=>V.str ⟨#[k]⟩
 | .ref a=>match O a with
  | some (.list x)=>l=x
  | _=>False
 | _=>False
def J7(t:Tg) (v:V) (Z:Loc) (K:Loc→Prop):Prop:=match t,v with
 | .one i,v=>K (b6 Z i v)
 | .two i j,.tup [a,b]=>K (b6 (b6 Z i a) j b)
 | _,_=>False
def Kk(it:a7→Prop) (step:V→Loc→a7→(Fl→Loc→a7→Prop)→Prop):List V→Loc→a7→(Fl→Loc→a7→Prop)→Prop
 | [],Z,O,Q=>it O∧Q .next Z O
 | x::xs,Z,O,Q=>it O∧step x Z O λfl i7 b7=>match fl with
  | .next=>Kk it step xs i7 b7 Q
  | .cont=>Kk it step xs i7 b7 Q
  | .brk=>Q .next i7 b7
  | .ret v=>Q (.ret v) i7 b7
def Np(it:a7→Prop) (step:V→a7→(Option V→a7→Prop)→Prop):List V→List V→a7→(List V→a7→Prop)→Prop
 | [],acc,O,Q=>it O∧Q acc O
 | x::xs,acc,O,Q=>it O∧step x O λr b7=>match r with
  | some v=>Np it step xs (acc++[v]) b7 Q
  | none=>Np it step xs acc b7 Q
def N7(x:Str):V→Bool
 | .tup (.str y::_)=>x.cps.toList.any λu=>y.cps.toList == [u]
 | _=>false
mutual
def WX(c:Cx) (n:Nat):X→Loc→a7→(V→a7→Prop)→(a7→Prop)→Prop
 | .loc i,Z,O,Q,_=>∃v,Z i=some v∧Q v O
 | .con v,_,O,Q,_=>Q v O
 | .tup l,Z,O,Q,E=>j0 c n l Z O (λvs O=>Q (.tup vs) O) E
 | .lst l,Z,O,Q,E=>j0 c n l Z O (λvs O=>∀r,O r=none→Q (.ref r) (i8 O r (.list vs))) E
 | .dct l,Z,O,Q,E=>∀r,O r=none→j0 c n l Z (i8 O r (.dict [])) (λvs O=>O r=some (.dict [])∧Ki ((z0 vs).map (·.1))∧Q (.ref r) (i8 O r (.dict (G0 [] (z0 vs))))) E
 | .bin op a b,Z,O,Q,E=>WX c n a Z O (λx O=>WX c n b Z O (λy O=>Hf op x y O Q) E) E
 | .neg a,Z,O,Q,E=>WX c n a Z O (λx O=>∃i,x=.int i∧Q (.int (-i)) O) E
 | .not a,Z,O,Q,E=>WX c n a Z O (λx O=>z2 x O λb=>Q (.bool (!b)) O) E
 | .and l,Z,O,Q,E=>Yo c n l Z O Q E
 | .or l,Z,O,Q,E=>iB c n l Z O Q E
 | .ite t a b,Z,O,Q,E=>WC c n t Z O (λr O=>(r=true→WX c n a Z O Q E)∧(r=false→WX c n b Z O Q E)) E
 | .cmp op a b,Z,O,Q,E=>WX c n a Z O (λx O=>WX c n b Z O (λy O=>G6 c op x y O λr=>Q (.bool r) O) E) E
 | .call f l,Z,O,Q,E=>WX c n f Z O (λfv O=>j0 c n l Z O (λvs O=>l8 c n fv vs O Q E) E) E
 | .meth o name l,Z,O,Q,E=>WX c n o Z O (λov O=>∃fv,Iw c ov name O fv∧j0 c n l Z O (λvs O=>l8 c n fv (ov::vs) O Q E) E) E
 | .attr o name,Z,O,Q,E=>WX c n o Z O (λov O=>H8 c ov name O λv=>Q v O) E
 | .sub o i,Z,O,Q,E=>WX c n o Z O (λov O=>WX c n i Z O (λiv O=>S4 ov iv O Q) E) E
 | .slc o lo hi,Z,O,Q,E=>WX c n o Z O (λov O=>eK c ov lo hi O Q) E
 | .comp e t it cs,Z,O,Q,E=>WX c n it Z O (λiv O=>∃l,u6 iv O l∧l.length≤1000000 ∧
   Np (λO=>u6 iv O l) (λx O K=>J7 t x Z λi7=>M5 c n cs i7 O (λb O=>if b=true then WX c n e i7 O (λv O=>K (some v) O) (λ_=>False) else K none O) (λ_=>False)) l [] O
    (λacc O=>∀r,O r=none→Q (.ref r) (i8 O r (.list acc)))) E
 | .Z1 d x,Z,O,Q,E=>WX c n d Z O (λdv O=>∃a l,dv=.ref a∧O a=some (.dict l)∧l.length≤1000∧(∀p∈l,p.1.hk 8=true∧∃u t,p.1=.tup (.str ⟨#[u]⟩::t)) ∧
   ∀r,O r=none→Q (.ref r) (i8 O r (.list ((l.map (·.1)).filter (N7 x))))) E
def j0(c:Cx) (n:Nat):List X→Loc→a7→(List V→a7→Prop)→(a7→Prop)→Prop
 | [],_,O,Q,_=>Q [] O
 | x::xs,Z,O,Q,E=>WX c n x Z O (λv O=>j0 c n xs Z O (λvs O=>Q (v::vs) O) E) E
def Yo(c:Cx) (n:Nat):List X→Loc→a7→(V→a7→Prop)→(a7→Prop)→Prop
 | [],_,_,_,_=>False
 | x::xs,Z,O,Q,E=>WX c n x Z O (λv O=>match xs with
   | []=>Q v O
   | _=>z2 v O λb=>if b=true then Yo c n xs Z O Q E else Q v O) E
def iB(c:Cx) (n:Nat):List X→Loc→a7→(V→a7→Prop)→(a7→Prop)→Prop
 | [],_,_,_,_=>False
 | x::xs,Z,O,Q,E=>WX c n x Z O (λv O=>match xs with
   | []=>Q v O
   | _=>z2 v O λb=>if b=true then Q v O else iB c n xs Z O Q E) E
def WC(c:Cx) (n:Nat):B→Loc→a7→(Bool→a7→Prop)→(a7→Prop)→Prop
 | .not a,Z,O,Q,E=>WC c n a Z O (λb O=>Q (!b) O) E
 | .and l,Z,O,Q,E=>M5 c n l Z O Q E
 | .or l,Z,O,Q,E=>K6 c n l Z O Q E
 | .cmp op a b,Z,O,Q,E=>WX c n a Z O (λx O=>WX c n b Z O (λy O=>G6 c op x y O λr=>Q r O) E) E
 | .val x,Z,O,Q,E=>WX c n x Z O (λv O=>z2 v O λb=>Q b O) E
def M5(c:Cx) (n:Nat):List B→Loc→a7→(Bool→a7→Prop)→(a7→Prop)→Prop
 | [],_,O,Q,_=>Q true O
 | x::xs,Z,O,Q,E=>WC c n x Z O (λb O=>if b=true then M5 c n xs Z O Q E else Q false O) E
def K6(c:Cx) (n:Nat):List B→Loc→a7→(Bool→a7→Prop)→(a7→Prop)→Prop
 | [],_,O,Q,_=>Q false O
 | x::xs,Z,O,Q,E=>WC c n x Z O (λb O=>if b=true then Q true O else K6 c n xs Z O Q E) E
end
def J3:List (Str×V)→Str→V→List (Str×V)
 | [],x,v=>[(x,v)]
 | (y,u)::r,x,v=>if y=x then (y,v)::r else (y,u)::J3 r x v
def setName(c:Cx) (C:Addr) (name:Str):Prop :=
 findIn c.K (.ref C) "__setattr__"=some (some (.builtin "object.__setattr__"))∧plainOver c.K C=true∧takerIn c.K C name=some none∧hasDictIn c.K C=true
def jG(c:Cx) (o:V) (name:Str) (v:V) (O:a7) (K:a7→Prop):Prop :=
 ∃a C dx l,o=.ref a∧O a=some (.inst C dx)∧O dx=some (.ns l)∧l.length≤900∧setName c C name∧K (i8 O dx (.ns (J3 l name v)))
def Di(o i v:V) (O:a7) (K:a7→Prop):Prop:=match o with
 | .ref a=>match O a with
  | some (.list l)=>∃k,i=.int k∧0≤k∧k.toNat < l.length∧l.length≤1000000∧K (i8 O a (.list (l.set k.toNat v)))
  | some (.dict l)=>S5 i l∧l.length≤1000000∧K (i8 O a (.dict (dput l i v)))
  | _=>False
 | _=>False
def jH(op:Operator) (x y:V) (O:a7) (K:V→a7→Prop):Prop:=match op,x,y with
 | .Add,.int a,.int b=>K (.int (a+b)) O
 | .Add,.ref a,.ref b=>∃l m,O a=some (.list l)∧O b=some (.list m)∧l.length+m.length≤1000000∧a≠b∧K (.ref a) (i8 O a (.list (l++m)))
 | _,_,_=>False
mutual
def WS(c:Cx) (n:Nat):S→Loc→a7→(Fl→Loc→a7→Prop)→(a7→Prop)→Prop
 | .set i e,Z,O,Q,E=>WX c n e Z O (λv O=>Q .next (b6 Z i v) O) E
 | .swap i j a b,Z,O,Q,E=>WX c n a Z O (λx O=>WX c n b Z O (λy O=>Q .next (b6 (b6 Z j y) i x) O) E) E
 | .Vz i j e,Z,O,Q,E=>WX c n e Z O (λv O=>J7 (.two i j) v Z λi7=>Q .next i7 O) E
 | .q8 o name e,Z,O,Q,E=>WX c n e Z O (λv O=>WX c n o Z O (λov O=>jG c ov name v O λO=>Q .next Z O) E) E
 | .I0 o i e,Z,O,Q,E=>WX c n e Z O (λv O=>WX c n o Z O (λov O=>WX c n i Z O (λiv O=>Di ov iv v O λO=>Q .next Z O) E) E) E
 | .aug i op e,Z,O,Q,E=>∃old,Z i=some old∧WX c n e Z O (λv O=>jH op old v O λr O=>Q .next (b6 Z i r) O) E
 | .ite t a b,Z,O,Q,E=>WC c n t Z O (λr O=>(r=true→o9 c n a Z O Q E)∧(r=false→o9 c n b Z O Q E)) E
 | .whl t b,Z,O,Q,E=>∃I:Nat→Loc→a7→Prop,(∃k,I k Z O)∧∀k Z O,I k Z O→WC c n t Z O (λr d0 =>
   (r=true→o9 c n b Z d0 (λfl O6 o6=>match fl with
    | .next=>∃m,m < k∧I m O6 o6
    | .cont=>∃m,m < k∧I m O6 o6
    | .brk=>Q .next O6 o6
    | .ret v=>Q (.ret v) O6 o6) E)∧(r=false→Q .next Z d0)) E
 | .for t it b,Z,O,Q,E=>WX c n it Z O (λiv O=>∃l,u6 iv O l∧l.length≤1000000 ∧
   Kk (λO=>u6 iv O l) (λx Z O K=>J7 t x Z λi7=>o9 c n b i7 O K E) l Z O Q) E
 | .ret e,Z,O,Q,E=>WX c n e Z O (λv O=>Q (.ret v) Z O) E
 | .raise l,Z,O,_,E=>j0 c n l Z O (λ_ O=>E O) E
 | .exp e,Z,O,Q,E=>WX c n e Z O (λ_ O=>Q .next Z O) E
 | .eJ e,Z,O,Q,_=>WX c n e Z O (λv O=>Q (.ret v) Z O) (λO=>∀r,O r=none→Q (.ret (.ref r)) Z (i8 O r (.list [])))
 | .pass,Z,O,Q,_=>Q .next Z O
 | .cont,Z,O,Q,_=>Q .cont Z O
def o9(c:Cx) (n:Nat):List S→Loc→a7→(Fl→Loc→a7→Prop)→(a7→Prop)→Prop
 | [],Z,O,Q,_=>Q .next Z O
 | x::xs,Z,O,Q,E=>WS c n x Z O (λfl Z O=>match fl with
  | .next=>o9 c n xs Z O Q E
  | .cont=>Q .cont Z O
  | .brk=>Q .brk Z O
  | .ret v=>Q (.ret v) Z O) E
end
structure Good(c:Cx):Prop where
 KX:c.K.In c.base
 nolimit:c.base.NoLimit
 mg:∃mg,c.base.Ns mainGlobals mg
 mb:∃mb,c.base.Ns builtinsNs mb∧∀x:Str,x ≠ "__name__"→mb x=bootBuiltins x
def WE(c:Cx) (n:Nat) (env:Env) (fs:FS) (e:Expr) (Z:Loc) (O:a7) (Q:V→a7→Prop) (E:a7→Prop):Prop :=
 ∀A s,Ok c n A O s.heap→Y6 c env fs Z O s.heap→Rel c O s.heap→wpAny (model c.prog c.w) A (eval e env) (QE c O s Q) (EE c O s E) s
def tN(c:Cx) (n:Nat) (env:Env) (fs:FS) (es:List Expr) (Z:Loc) (O:a7) (Q:List V→a7→Prop) (E:a7→Prop):Prop :=
 ∀A s pos,Ok c n A O s.heap→Y6 c env fs Z O s.heap→Rel c O s.heap→wpAny (model c.prog c.w) A (spliced (backTo pos (starEach es env))) (sI c O s Q) (EE c O s E) s
def zI(c:Cx) (n:Nat) (env:Env) (fs:FS) (e:Expr) (Z:Loc) (O:a7) (Q:Bool→a7→Prop) (E:a7→Prop):Prop :=
 ∀A s,Ok c n A O s.heap→Y6 c env fs Z O s.heap→Rel c O s.heap→wpAny (model c.prog c.w) A (isTrue e env (eval e env)) (QB c O s Q) (EE c O s E) s
theorem QE.mk{c:Cx}{O:a7}{s:Shared}{Q:V→a7→Prop}{v:V}{cv:Value}{tk:Tok}(r:Rel c O s.heap) (h:Rep s.heap v cv) (q:Q v O):QE c O s Q cv {s with toks:=tk} :=
 ⟨v,O,j6.toks r,h,q⟩
theorem QE.Yp{c:Cx}{O:a7}{s:Shared}{Q:V→a7→Prop}{v:V}{cv:Value}(r:Rel c O s.heap) (h:Rep s.heap v cv) (q:Q v O):QE c O s Q cv s :=
 ⟨v,O,j6.refl r,h,q⟩
def Iy:Value→Option V
 | .none=>some .none
 | .bool b=>some (.bool b)
 | .int i _=>some (.int i)
 | .str s _=>some (.str s)
 | .ref a=>some (.fix (.ref a))
 | .builtin x=>some (.fix (.builtin x))
 | .type x=>some (.fix (.type x))
 | _=>none
theorem Iz{cv:Value}{v:V}(h:Iy cv=some v) (hp:Heap):Rep hp v cv:=by
 cases cv<;>simp[Iy] at h<;>subst h<;>constructor
def Ej(K:Frag) (x:Str):Option V:=match nsIn K mainGlobals x with
 | some (some cv)=>Iy cv
 | some none=>if x == ("__name__":Str) then none else (bootBuiltins x).bind Iy
 | none=>none
section
variable {c:Cx}{n:Nat}{env:Env}{fs:FS}{Z:Loc}{O:a7}{Q:V→a7→Prop}{E:a7→Prop}
theorem jI{x:Str}{i:Nat}{pos:Pos}(hx:fs.res.lookup x=some i) (hk:fs.sc.lookup x=some .local∨fs.sc.lookup x=some .cell∨fs.sc.lookup x=some .free)
  (hd:(x == ("__debug__":Str))=false) (hd2:(x == ("__classdict__":Str))=false) (h:∃v,Z i=some v∧Q v O):WE c n env fs (.Name x pos) Z O Q E:=by
 intro A s o f r
 obtain⟨v,hv,hq⟩:=h
 refine wpAny_Name ?_ hd
 have hko:∀k,fs.sc.lookup x=some k→env.kindOf x=some k:=λk e=>by unfold Env.kindOf; rw[f.names]; exact e
 rcases hk with hk | hk | hk
 ·obtain⟨m,hn,hm⟩:=f.ns
  obtain⟨cv,e1,e2⟩:=hm x i v hx hv (hko _ hk)
  exact wpAny_loadName_local f.kind (hko _ hk) hn e1 (QE.Yp r e2 hq)
 ·obtain⟨a,ov,h1,h2,_,_,h5⟩:=f.cell x i hx (.inl (hko _ hk))
  obtain⟨cv,rfl,e2⟩:=h5 v hv
  exact wpAny_loadName_cell f.kind (hko _ hk) h1 h2 (QE.Yp r e2 hq)
 ·obtain⟨a,ov,h1,h2,_,_,h5⟩:=f.cell x i hx (.inr (hko _ hk))
  obtain⟨cv,rfl,e2⟩:=h5 v hv
  exact wpAny_loadName_free f.kind (hko _ hk) h1 h2 (QE.Yp r e2 hq) hd2
theorem Yq(G:Good c){x:Str}{v:V}{pos:Pos}(hk:fs.sc.lookup x=some .globalImplicit) (hv:Ej c.K x=some v)
  (hd:(x == ("__debug__":Str))=false) (h:Q v O):WE c n env fs (.Name x pos) Z O Q E:=by
 intro A s o f r
 have hko:env.kindOf x=some .globalImplicit:=by unfold Env.kindOf; rw[f.names]; exact hk
 obtain⟨mg,hg⟩:=G.mg
 obtain⟨mb,hb,hbb⟩:=G.mb
 have hgs:s.heap.Ns env.globals mg:=by rw[f.glob]; exact hg.keeps r.1
 have hbs:s.heap.Ns env.builtins mb:=by rw[f.blt]; exact hb.keeps r.1
 unfold Ej at hv
 split at hv
 ·rename_i cv e
  exact Name_function_global f.kind hko (loadGlobal_global hgs (mg_of G.KX hg e) (QE.Yp r (Iz hv _) h)) hd
 ·rename_i e
  split at hv
  ·cases hv
  ·rename_i hne
   obtain⟨cv,e1,e2⟩:=Option.bind_eq_some_iff.mp hv
   refine Name_function_global f.kind hko (loadGlobal_builtin hgs (mg_none_of G.KX hg e) hbs ?_ (QE.Yp r (Iz e2 _) h)) hd
   rw[hbb x (by simpa using hne)]; exact e1
 ·cases hv
theorem eM{i:Int}{k:Nat}{pos:Pos}(h:Q (.int i) O):WE c n env fs (.Constant (.int i) k pos) Z O Q E :=
 λ_ _ _ _ r=>wpAny_Constant_int (QE.mk r (.int ..) h)
theorem eN{x:Str}{k:Nat}{pos:Pos}(h:Q (.str x) O):WE c n env fs (.Constant (.str x) k pos) Z O Q E :=
 λ_ _ _ _ r=>Constant_str (QE.mk r (.str ..) h)
theorem Yr{k:Nat}{pos:Pos}(h:Q .none O):WE c n env fs (.Constant .none k pos) Z O Q E :=
 λ_ _ _ _ r=>wpAny_Constant_none (QE.Yp r .none h)
theorem Ys{b:Bool}{k:Nat}{pos:Pos}(h:Q (.bool b) O):WE c n env fs (.Constant (.bool b) k pos) Z O Q E :=
 λ_ _ _ _ r=>wpAny_Constant_bool (QE.Yp r (.bool b) h)
end
section
variable {c:Cx}{n:Nat}{A:Around}{O:a7}{s:Shared}{Q:V→a7→Prop}{E:Value→Shared→Prop}
theorem O7{n:Nat}(h:n≤1000000):n≤sizeLine:=by rw[sizeLine_eq]; omega
theorem j9.size{h:Heap}{l:List V}{items:Array Value}(r:j9 h l items.toList):items.size=l.length:=by
 have:=r.length; simpa using this.symm
theorem QE.newList{items:List Value}{l:List V}{h':Heap}{tk:Tok}{a:Addr}(r:Rel c O s.heap) (hr:j9 s.heap l items) (hs:s.heap.objs.size≤h'.objs.size)
  (k:∀a o,s.heap.get? a=some o→h'.get? a=some o) (ha:s.heap.objs.size≤a) (ho:h'.PlainList a items.toArray) (q:∀r,O r=none→Q (.ref r) (i8 O r (.list l))) :
  QE c O s Q (.ref a) {s with heap:=h',toks:=tk}:=by
 obtain⟨p,hn⟩:=j6.new (F:=λ_=>False) (tk:=tk) (o:=.list l) r hs k ha ⟨_,ho,by simpa using hr.mono λa o e _=>k a o e⟩
 exact⟨.ref a,_,p,.ref a,q a hn⟩
theorem QE.newTuple{items:Array Value}{l:List V}{h':Heap}{tk:Tok}{a:Addr}(r:Rel c O s.heap) (hr:j9 s.heap l items.toList) (hs:s.heap.objs.size≤h'.objs.size)
  (k:∀a o,s.heap.get? a=some o→h'.get? a=some o) (ho:TupAt h' a items) (q:Q (.tup l) O):QE c O s Q (.ref a) {s with heap:=h',toks:=tk} :=
 ⟨.tup l,O,j6.ext r hs k,.tup ho (hr.mono λa o e _=>k a o e),q⟩
theorem bits_le{a:Int}(h:a.natAbs≤2 ^ 60):Builtin.Int.intBits a≤64:=by
 unfold Builtin.Int.intBits
 split
 ·omega
 ·rename_i h0
  have:a.natAbs≠0:=by simpa using h0
  have h1:=(Nat.log2_lt this (k:=61)).mpr (by omega)
  omega
theorem Kl{a b:Int}(hb:b.natAbs < 2 ^ 28):Builtin.divisionGoesByPylong a b=false:=by
 unfold Builtin.divisionGoesByPylong
 have:¬ ((if b == 0 then 0 else b.natAbs.log2 / 30+1) > 300):=by
  split
  ·omega
  ·rename_i h0
   have h1:b.natAbs≠0:=by simpa using h0
   have h2:=(Nat.log2_lt h1 (k:=28)).mpr hb
   omega
 show(decide ((if b == 0 then 0 else b.natAbs.log2 / 30+1) > 300) && _)=false
 rw[decide_eq_false this]; rfl
theorem jJ{op:Operator}{x y:V}{a b:Value}(hx:Rep s.heap x a) (hy:Rep s.heap y b) (r:Rel c O s.heap) (h:Hf op x y O Q):wpAny (model c.prog c.w) A (binaryOp op a b) (QE c O s Q) E s:=by
 unfold Hf at h
 split at h
 ·cases hx; cases hy; exact add_int (QE.mk r (.int ..) h)
 ·cases hx; cases hy; exact sub_int (QE.mk r (.int ..) h)
 ·cases hx; cases hy
  obtain⟨⟨h1,h2,h3,h4⟩,h⟩:=h
  exact mul_int (QE.mk r (.int ..) h) (.of_left (bits_le (by omega)))
 ·cases hx; cases hy
  obtain⟨⟨h1,h2,h3,h4⟩,h⟩:=h
  refine floordiv_int (by omega) (QE.mk r (.int ..) ?_) (.inl (Kl (by omega)))
  rw[Int.fdiv_eq_ediv_of_nonneg _ (by omega)]; exact h
 ·cases hx; cases hy
  obtain⟨h1,h⟩:=h
  refine mod_int' (by omega) (QE.mk r (.int ..) ?_)
  rw[Int.fmod_eq_emod_of_nonneg _ (by omega)]; exact h
 ·cases hx; cases hy; exact or_int (QE.mk r (.int ..) h)
 ·cases hx; cases hy; exact and_int (QE.mk r (.int ..) h)
 ·rename_i l m
  obtain⟨hz,h⟩:=h
  cases hx with
  | @tup a _ ia ta ra =>
  cases hy with
  | @tup b _ ib tb rb =>
  have sa:=ra.size
  have sb:=rb.size
  obtain⟨na,ha⟩:=ta
  obtain⟨nb,hb⟩:=tb
  have start:∀{S:PySem.Spec},Meets (Builtin.«tuple.__add__» ⟨[.ref a,.ref b],[]⟩) S→S A (wants (λv s'=>QE c O s Q v s') E) s→wpAny (model c.prog c.w) A (binaryOp .Add (.ref a) (.ref b)) (QE c O s Q) E s:=λg hS =>
   wpAny_binaryOp_concat ⟨_,ha,rfl⟩ ⟨_,hb,rfl⟩ noFill_tuple_add seq_tuple_add (call_meets F.slot_tuple_add ⟨_,ha,rfl⟩ F.entry_tuple_add (F.args_tuple_add_2 _ _) g hS)
  by_cases e1:ia.isEmpty=true
  ·refine start (AutoSeq1.tuple___add___tuple_tuple_0 a ia na b ib nb e1) ⟨ha,hb,?_⟩
   have:l=[]:=by
    have:ia.size=0:=by simpa using e1
    rw[sa] at this; exact List.length_eq_zero_iff.mp this
   subst this
   exact QE.Yp r (.tup ⟨nb,hb⟩ rb) (by simpa using h)
  ·by_cases e2:ib.isEmpty=true
   ·refine start (AutoSeq1.tuple___add___tuple_tuple_1 a ia na b ib nb e1 e2) ⟨ha,hb,?_⟩
    have:m=[]:=by
     have:ib.size=0:=by simpa using e2
     rw[sb] at this; exact List.length_eq_zero_iff.mp this
    subst this
    exact QE.Yp r (.tup ⟨na,ha⟩ ra) (by simpa using h)
   ·refine start (AutoSeq1.tuple___add___tuple_tuple_2 a ia na b ib nb e1 e2 (by rw[sa,sb]; exact O7 hz)) ⟨ha,hb,?_⟩
    exact QE.newTuple (h':=s.heap.push _) (tk:=s.toks) r (by simpa using j9.append ra rb) (by simp[Heap.size_push]) (λa o e=>Heap.get?_push_of_some _ e) ⟨0,Heap.get?_push_size _ rfl⟩ h
 ·obtain⟨l,m,h1,h2,hz,h⟩:=h
  cases hx; cases hy
  rename_i a b
  obtain⟨ia,⟨na,ha⟩,ra⟩:=(r.3 _ _ h1).2
  obtain⟨ib,⟨nb,hb⟩,rb⟩:=(r.3 _ _ h2).2
  have sa:=ra.size
  have sb:=rb.size
  refine concat_meets ⟨_,ha,rfl⟩ ⟨_,hb,rfl⟩ noFill_list_add seq_list_add F.slot_list_add F.entry_list_add (F.args_list_add_2 _ _) (AutoSeq1.list___add___list_list_0 a ia na b ib nb (by rw[sa,sb]; exact O7 hz)) ⟨ha,hb,?_⟩
  refine QE.newList (items:=ia.toList++ib.toList) (tk:=s.toks) r (j9.append ra rb) (by simp[Heap.size_push]) (λa o e=>Heap.get?_push_of_some _ e) (Nat.le_refl _) ⟨0,?_⟩ h
  rw[Heap.get?_push_size _ rfl]; simp
 ·obtain⟨v,h1,h2,h3,h⟩:=h
  rename_i a0 k
  cases hx with
  | ref a =>
  cases hy with
  | int _ t =>
  obtain⟨ia,⟨na,ha⟩,ra⟩:=(r.3 _ _ h1).2
  have sa:=ra.size
  simp at sa
  refine wpAny_binaryOp_repeat_ref (T := "list") (U := "int") (by decide) ⟨_,ha,rfl⟩ (λs'=>typeIs_int s' k t) noFill_list_mul F.fills_int_mul F.slot_int_rmul repeat_list F.slot_int_index.lookup
   (call_meets F.slot_int_rmul (typeIs_int s k t) F.entry_int_rmul (F.args_int_rmul_2 _ _) (int___rmul___int_list k t a0 ia na)
   ⟨ha,rfl,⟨_,ha,rfl⟩,call_meets F.slot_list_mul ⟨_,ha,rfl⟩ F.entry_list_mul (F.args_list_mul_2 _ _)
    (AutoListH.list___mul___list_int_3 a0 ia na k t (by simp[Builtin.List.listFitsIndex]; omega) (by rw[sa]; omega) (by rw[sa]; simp[Builtin.List.listTooLong,sizeLine]; omega))
    ⟨ha,?_⟩⟩)
  have hne:ia.isEmpty=false:=by rw[Array.isEmpty_eq_false_iff]; intro e; rw[e] at sa; simp at sa
  have hone:∃cv,ia=#[cv]∧Rep s.heap v cv:=by
   cases ia with
   | mk li =>
    cases ra with
    | cons a b=>cases b; exact⟨_,rfl,a⟩
  obtain⟨cv,rfl,hcv⟩:=hone
  refine QE.newList (items:=List.replicate k.toNat cv) (tk:=s.toks) r ?_ (by simp[Heap.size_push]) (λa o e=>Heap.get?_push_of_some _ e) (Nat.le_refl _) ⟨0,?_⟩ h
  ·induction k.toNat with
   | zero=>exact .nil
   | succ j ih=>exact .cons hcv ih
  ·rw[Heap.get?_push_size _ rfl,hne]
   simp only[Bool.false_eq_true,if_false]
   congr 3
   suffices hh:∀j (acc:Array Value),List.foldl (λx1 x2=>x1++x2) acc (List.replicate j #[cv])=acc++(List.replicate j cv).toArray by
    simpa using hh k.toNat #[]
   intro j
   induction j with
   | zero=>intro acc; simp
   | succ j ih=>intro acc; rw[List.replicate_succ,List.foldl_cons,ih]; apply Array.toList_inj.mp; simp[List.replicate_succ]
 ·exact h.elim
theorem Ad{v:V}{a:Value}{Q:Bool→a7→Prop}(hv:Rep s.heap v a) (r:Rel c O s.heap) (h:z2 v O λb=>Q b O):wpAny (model c.prog c.w) A (truthy a) (QB c O s Q) E s:=by
 unfold z2 at h
 split at h
 ·cases hv; exact truthy_none ⟨O,j6.refl r,h⟩
 ·cases hv; exact wpAny_truthy_bool ⟨O,j6.refl r,h⟩
 ·cases hv
  refine PySem.P.truthy_int ⟨O,j6.refl r,?_⟩
  rename_i i t
  have:(i != 0)=decide (i≠0):=by rw[Bool.eq_iff_iff]; simp
  rw[this]; exact h
 ·rename_i l
  obtain⟨hz,h⟩:=h
  cases hv with
  | @tup a _ ia ta ra =>
  have sa:=ra.size
  obtain⟨na,ha⟩:=ta
  refine truthy_tuple ⟨_,ha,rfl,na,rfl⟩ (by rw[sa]; omega) ⟨O,j6.toks r,?_⟩
  have:(!ia.isEmpty)=decide (l≠[]):=by
   rw[Bool.eq_iff_iff]; simp[Array.isEmpty_iff,←Array.size_eq_zero_iff,sa]
  rw[this]; exact h
 ·rename_i a0
  split at h
  ·rename_i l hl
   obtain⟨hz,h⟩:=h
   cases hv
   obtain⟨ia,⟨na,ha⟩,ra⟩:=(r.3 _ _ hl).2
   have sa:=ra.size
   refine wpAny_truthy_list ⟨_,ha,rfl,na,rfl⟩ (by rw[sa]; omega) ⟨O,j6.toks r,?_⟩
   have:(!ia.isEmpty)=decide (l≠[]):=by
    rw[Bool.eq_iff_iff]; simp[Array.isEmpty_iff,←Array.size_eq_zero_iff,sa]
   rw[this]; exact h
  ·exact h.elim
 ·exact h.elim
end
theorem V.F5{l:List V}{d:Nat}(h:∀v∈l,v.hk d=true):V.hks l d=true:=by
 induction l with
 | nil=>simp[V.hks]
 | cons x xs ih=>simp[V.hks,h x (.head _),ih λv hv=>h v (.tail _ hv)]
theorem Iv.hks{l:List V}(h:Iv l):V.hks l 60=true:=V.F5 λv hv=>by obtain⟨i,rfl⟩:=h v hv; simp[V.hk]
section
variable {c:Cx}{n:Nat}{A:Around}{O:a7}{s:Shared}{E:Value→Shared→Prop}
theorem M7{K:Type}[DecidableEq K]{h:Heap}(f:K→V) (hf:∀a b,f a=f b→a=b):∀{l:List (V×V)}{kvs:List (K×Value)},l.map (·.1)=kvs.map (λq=>f q.1)→j9 h (l.map (·.2)) (kvs.map (·.2))→∀k,
  (x6 l (f k)).isSome=(valueAt kvs k).isSome∧∀v,x6 l (f k)=some v→∃cv,valueAt kvs k=some cv∧Rep h v cv
 | [],[],_,_,k=>by simp[x6,valueAt]
 | [],_::_,e,_,_=>by simp at e
 | _::_,[],e,_,_=>by simp at e
 | p::l,q::kvs,e,r,k=>by
  simp only[List.map_cons,List.cons.injEq] at e
  obtain⟨e1,e2⟩:=e
  cases r with
  | cons a b =>
   have ih:=M7 f hf e2 b k
   by_cases hk:q.1=k
   ·have h1:x6 (p::l) (f k)=some p.2:=by simp[x6,List.find?_cons,e1,hk]
    have h2:valueAt (q::kvs) k=some q.2:=by simp[valueAt,List.find?_cons,hk]
    rw[h1,h2]
    exact⟨rfl,λv hv=>by cases hv; exact⟨_,rfl,a⟩⟩
   ·have hk':¬ p.1=f k:=λz=>hk (hf _ _ (e1.symm.trans z))
    have h1:x6 (p::l) (f k)=x6 l (f k):=by simp[x6,List.find?_cons,hk']
    have h2:valueAt (q::kvs) k=valueAt kvs k:=by simp[valueAt,List.find?_cons,hk]
    rw[h1,h2]; exact ih
theorem Ae{h:Heap}:∀{l:List (V×V)}{xs:List (V×Addr×Value)},l.map (·.1)=xs.map (·.1)→j9 h (l.map (·.2)) (xs.map (·.2.2))→∀k,
  (x6 l k).isSome=(atKey xs k).isSome∧∀v,x6 l k=some v→∃p,atKey xs k=some p∧Rep h v p.2
 | [],[],_,_,k=>by simp[x6,atKey]
 | [],_::_,e,_,_=>by simp at e
 | _::_,[],e,_,_=>by simp at e
 | p::l,q::xs,e,r,k=>by
  simp only[List.map_cons,List.cons.injEq] at e
  obtain⟨e1,e2⟩:=e
  cases r with
  | cons a b =>
   have ih:=Ae e2 b k
   by_cases hk:q.1=k
   ·have h1:x6 (p::l) k=some p.2:=by simp[x6,List.find?_cons,e1,hk]
    have h2:atKey (q::xs) k=some q.2:=by simp[atKey,List.find?_cons,hk]
    rw[h1,h2]
    exact⟨rfl,λv hv=>by cases hv; exact⟨_,rfl,a⟩⟩
   ·have hk':¬ p.1=k:=λz=>hk (e1.symm.trans z)
    have h1:x6 (p::l) k=x6 l k:=by simp[x6,List.find?_cons,hk']
    have h2:atKey (q::xs) k=atKey xs k:=by simp[atKey,List.find?_cons,hk]
    rw[h1,h2]; exact ih
theorem U3{prog:Program}{w:World}{h:Heap}{a:Addr}{l:List (V×V)}(r:Z0 prog w h a l) (hl:∀p∈l,∃j,p.1=V.int j) :
  ∃kvs:List (Int×Value),h.DictOf (intKind prog w) a kvs∧l.map (·.1)=kvs.map (λq=>V.int q.1)∧j9 h (l.map (·.2)) (kvs.map (·.2)):=by
 rcases r with x | ⟨kvs,hd,e1,e2⟩ | ⟨xs,hd,e1,e2⟩
 ·exact x
 ·cases kvs with
  | nil =>
   have:l=[]:=by simpa using e1
   subst this
   obtain⟨o,es,ep,h1,h2,h3,h4,h5,h6⟩:=hd
   cases es with
   | mk le=>cases h5; exact⟨[],⟨o,_,ep,h1,h2,h3,λe he=>by simp at he,.nil,List.nodup_nil⟩,rfl,.nil⟩
  | cons q kvs =>
   cases l with
   | nil=>simp at e1
   | cons p l =>
    obtain⟨j,hj⟩:=hl p (.head _)
    simp only[List.map_cons,List.cons.injEq] at e1
    rw[hj] at e1; exact absurd e1.1 (by simp)
 ·cases xs with
  | nil =>
   have:l=[]:=by simpa using e1
   subst this
   obtain⟨o,es,ep,h1,h2,h3,h4,h5,h6⟩:=hd
   cases es with
   | mk le =>
    have:le=[]:=by simpa using h4
    subst this
    exact⟨[],⟨o,_,ep,h1,h2,h3,λe he=>by simp at he,.nil,List.nodup_nil⟩,rfl,.nil⟩
  | cons q xs =>
   cases l with
   | nil=>simp at e1
   | cons p l =>
    obtain⟨j,hj⟩:=hl p (.head _)
    simp only[List.map_cons,List.cons.injEq] at e1
    obtain⟨o,es,ep,h1,h2,h3,h4,h5,h6⟩:=hd
    have:=(h5 q (.head _)).1
    rw[←e1.1,hj] at this
    cases this
theorem Af{prog:Program}{w:World}{h:Heap}{a:Addr}{l:List (V×V)}(r:Z0 prog w h a l) (hl:∀p∈l,∃j,p.1=V.str j) :
  ∃kvs:List (Str×Value),h.DictOf (PySem.strKind prog w) a kvs∧l.map (·.1)=kvs.map (λq=>V.str q.1)∧j9 h (l.map (·.2)) (kvs.map (·.2)):=by
 rcases r with⟨kvs,hd,e1,e2⟩ | x | ⟨xs,hd,e1,e2⟩
 ·cases kvs with
  | nil =>
   have:l=[]:=by simpa using e1
   subst this
   obtain⟨o,es,ep,h1,h2,h3,h4,h5,h6⟩:=hd
   cases es with
   | mk le=>cases h5; exact⟨[],⟨o,_,ep,h1,h2,h3,λe he=>by simp at he,.nil,List.nodup_nil⟩,rfl,.nil⟩
  | cons q kvs =>
   cases l with
   | nil=>simp at e1
   | cons p l =>
    obtain⟨j,hj⟩:=hl p (.head _)
    simp only[List.map_cons,List.cons.injEq] at e1
    rw[hj] at e1; exact absurd e1.1 (by simp)
 ·exact x
 ·cases xs with
  | nil =>
   have:l=[]:=by simpa using e1
   subst this
   obtain⟨o,es,ep,h1,h2,h3,h4,h5,h6⟩:=hd
   cases es with
   | mk le =>
    have:le=[]:=by simpa using h4
    subst this
    exact⟨[],⟨o,_,ep,h1,h2,h3,λe he=>by simp at he,.nil,List.nodup_nil⟩,rfl,.nil⟩
  | cons q xs =>
   cases l with
   | nil=>simp at e1
   | cons p l =>
    obtain⟨j,hj⟩:=hl p (.head _)
    simp only[List.map_cons,List.cons.injEq] at e1
    obtain⟨o,es,ep,h1,h2,h3,h4,h5,h6⟩:=hd
    have:=(h5 q (.head _)).1
    rw[←e1.1,hj] at this
    cases this
theorem U4{prog:Program}{w:World}{h:Heap}{a:Addr}{l:List (V×V)}(r:Z0 prog w h a l) (hl:∀p∈l,∃t,p.1=V.tup t) :
  ∃xs:List (V×Addr×Value),h.DictOfH (O4 prog w) a xs∧l.map (·.1)=xs.map (·.1)∧j9 h (l.map (·.2)) (xs.map (·.2.2)):=by
 rcases r with⟨kvs,hd,e1,e2⟩ | ⟨kvs,hd,e1,e2⟩ | x
 ·cases kvs with
  | nil =>
   have:l=[]:=by simpa using e1
   subst this
   obtain⟨o,es,ep,h1,h2,h3,h4,h5,h6⟩:=hd
   cases es with
   | mk le=>cases h5; exact⟨[],⟨o,_,ep,h1,h2,h3,rfl,λe he=>by simp at he,List.nodup_nil⟩,rfl,.nil⟩
  | cons q kvs =>
   cases l with
   | nil=>simp at e1
   | cons p l =>
    obtain⟨j,hj⟩:=hl p (.head _)
    simp only[List.map_cons,List.cons.injEq] at e1
    rw[hj] at e1; exact absurd e1.1 (by simp)
 ·cases kvs with
  | nil =>
   have:l=[]:=by simpa using e1
   subst this
   obtain⟨o,es,ep,h1,h2,h3,h4,h5,h6⟩:=hd
   cases es with
   | mk le=>cases h5; exact⟨[],⟨o,_,ep,h1,h2,h3,rfl,λe he=>by simp at he,List.nodup_nil⟩,rfl,.nil⟩
  | cons q kvs =>
   cases l with
   | nil=>simp at e1
   | cons p l =>
    obtain⟨j,hj⟩:=hl p (.head _)
    simp only[List.map_cons,List.cons.injEq] at e1
    rw[hj] at e1; exact absurd e1.1 (by simp)
 ·exact x
theorem not_modules{a:Addr}{o:z5}(r:Rel c O s.heap) (h:O a=some o):(a == sysModules)=false:=by
 have h2:=(r.3 a o h).1.2
 exact beq_eq_false_iff_ne.mpr λe=>by subst e; exact absurd h2 (by decide)
def Still(s:Shared) (Q:Bool→Prop):Value→Shared→Prop:=λcv s'=>∃b tk,cv=.bool b∧Q b∧s'={s with toks:=tk}
theorem Km{x:V}(h1:x.hk 60=true):∀(l:List V),(∀v∈l,v.hk 60=true)→((V.He l).any λy=>PyData.eqv y x.pd)=decide (x∈l)
 | [],_=>by simp[V.He]
 | z::zs,h2=>by
  have:=Km h1 zs λv hv=>h2 v (.tail _ hv)
  simp only[V.He,List.any_cons,this,V.eqv z x (V.H1 z (h2 z (.head _))) (V.H1 x h1)]
  by_cases h:z=x
  ·subst h; simp
  ·have h':¬ x=z:=λe=>h e.symm
   simp[h,h']
theorem eO{a d:Addr}{k:V}{xs:List (V×Addr×Value)}{Q:Value→Shared→Prop}(hu:A.units+1+9 < cLine) (hkey:(O4 c.prog c.w).is s.heap k a) (hd:(d == sysModules)=false) (hm:s.heap.DictOfH (O4 c.prog c.w) d xs)
  (h:Q (.bool (!(atKey xs k).isSome)) {s with toks:=s.toks+(O4 c.prog c.w).draws k}):wpAny (model c.prog c.w) A (compareOp .NotIn (.ref a) (.ref d)) Q E s:=by
 show wpAny _ _ (do return .bool (!(←contains (.ref d) (.ref a)))) Q E s
 refine wpAny_bind (wpAny_contains_slot hm.typeIs slot_dict_contains (wpAny_call_entry slot_dict_contains hm.typeIs entry_dict_contains ?_ (args_dict_contains _ _)))
 show wpAny _ _ (dictGet d (.ref a) >>= _) _ _ s
 refine wpAny_bind (wpAny_dictGet_heap (knd:=O4 c.prog c.w) hu hkey hm ?_)
 cases hf:atKey xs k with
 | some p =>
  rw[hf] at h
  show wpAny _ _ (ret (.bool true)) _ _ _
  exact wpAny_pure ⟨_,rfl,wpAny_truthy_bool (wpAny_pure h)⟩
 | none =>
  rw[hf] at h
  show wpAny _ _ (Builtin.Dict.pendingKey? d (.ref a) >>= _) _ _ _
  exact wpAny_bind (wpAny_pendingKey_other hd (wpAny_pure ⟨_,rfl,wpAny_truthy_bool (wpAny_pure h)⟩))
theorem Kn{a:Addr}{kvs:List (Int×V)}(r:Rel c O s.heap) (h:Rj c a kvs):(a == sysModules)=false∧∃l:List (Int×Value),s.heap.DictOf (intKind c.prog c.w) a l∧kvs.map (·.1)=l.map (·.1)∧j9 s.heap (kvs.map (·.2)) (l.map (·.2)):=by
 obtain⟨h2,l,⟨o,es,ep,g1,g2⟩,e1,e2⟩:=h
 exact⟨beq_eq_false_iff_ne.mpr λe=>by subst e; exact absurd h2 (by decide),l,⟨o,es,ep,r.stays _ _ g1,g2⟩,e1,e2.mono λa o e _=>r.stays a o e⟩
theorem Nq:∀{kvs:List (Int×V)}{l:List (Int×Value)},kvs.map (·.1)=l.map (·.1)→∀i,((kvs.find? λp=>decide (p.1=i)).isSome)=(valueAt l i).isSome
 | [],[],_,i=>by simp[valueAt]
 | [],_::_,e,_=>by simp at e
 | _::_,[],e,_=>by simp at e
 | p::kvs,q::l,e,i=>by
  simp only[List.map_cons,List.cons.injEq] at e
  have ih:=Nq e.2 i
  by_cases hk:q.1=i
  ·simp[valueAt,List.find?_cons,e.1,hk]
  ·simp only[valueAt,List.find?_cons,e.1,hk,decide_false] at ih ⊢
   exact ih
theorem Yt{x y:V}{cx cy:Value}{Q:Bool→Prop}(neg:Bool) (hx:Rep s.heap x cx) (hy:Rep s.heap y cy) (r:Rel c O s.heap) (hu:A.units+200 < cLine) (h:IN c x y O λb=>Q (if neg then !b else b)) :
  wpAny (model c.prog c.w) A (compareOp (if neg then .NotIn else .In) cx cy) (Still s Q) E s:=by
 unfold IN at h
 split at h
 ·split at h
  ·rename_i b a
   obtain⟨k,rfl,h⟩:=h
   cases hx; cases hy
   cases neg
   ·exact P.in_str ⟨_,_,rfl,by rw[StrLaws.found_one]; exact h,rfl⟩
   ·exact P.notIn_str ⟨_,_,rfl,by rw[StrLaws.found_one]; exact h,rfl⟩
  ·exact h.elim
 ·rename_i l
  obtain⟨h1,h2,h⟩:=h
  have hl:V.hk (.tup l) 61=true:=V.F5 h2
  obtain⟨as,ra⟩:=hy.reads (V.z8 _ hl)
  obtain⟨bs,rb⟩:=hx.reads (V.z8 _ h1)
  have hd:=V.F9 x h1
  have ev:=Km h1 l h2
  cases neg
  ·exact SeqAt.in_tuple_reads (by simpa[V.pd] using ra) rb (V.Rh l (V.A1 l (V.F5 h2))) (V.can x (V.z8 x h1)) (by omega) ⟨_,s.toks,rfl,by rw[ev]; exact h,rfl⟩
  ·exact SeqAt.notIn_tuple_reads (by simpa[V.pd] using ra) rb (V.Rh l (V.A1 l (V.F5 h2))) (V.can x (V.z8 x h1)) (by omega) ⟨_,s.toks,rfl,by rw[ev]; exact h,rfl⟩
 ·rename_i a0
  cases hy
  split at h
  ·rename_i l hl
   obtain⟨h1,h2,h⟩:=h
   obtain⟨ia,⟨na,ha⟩,rl⟩:=(r.3 _ _ hl).2
   obtain⟨as,ra⟩:=rl.reads (V.A1 _ (V.F5 h2))
   obtain⟨bs,rb⟩:=hx.reads (V.z8 _ h1)
   have hd:=V.F9 x h1
   have ev:=Km h1 l h2
   cases neg
   ·exact SeqAt.in_list_reads (Reads.list ha rfl rfl ra) rb (V.Rh l (V.A1 l (V.F5 h2))) (V.can x (V.z8 x h1)) (by omega) ⟨_,s.toks,rfl,by rw[ev]; exact h,rfl⟩
   ·exact SeqAt.notIn_list_reads (Reads.list ha rfl rfl ra) rb (V.Rh l (V.A1 l (V.F5 h2))) (V.can x (V.z8 x h1)) (by omega) ⟨_,s.toks,rfl,by rw[ev]; exact h,rfl⟩
  ·rename_i l hl
   obtain⟨hk,h⟩:=h
   have lo:=not_modules r hl
   have rd:Z0 c.prog c.w s.heap a0 l:=(r.3 _ _ hl).2
   rcases hk with⟨i,rfl,hk⟩ | ⟨i,rfl,hk⟩ | ⟨h8,t,rfl,hk⟩
   ·obtain⟨kvs,hd,e1,e2⟩:=U3 rd hk
    have ev:=(M7 V.int (λa b e=>by cases e; rfl) e1 e2 i).1
    cases hx
    cases neg
    ·exact wpAny_in_of (knd:=intKind c.prog c.w) (k:=i) (by simp[intKind,Value.isInt]) lo hd.mapOf ⟨_,_,rfl,by rw[←ev]; exact h,rfl⟩
    ·exact wpAny_notIn_of (knd:=intKind c.prog c.w) (k:=i) (by simp[intKind,Value.isInt]) lo hd.mapOf ⟨_,_,rfl,by rw[←ev]; exact h,rfl⟩
   ·obtain⟨kvs,hd,e1,e2⟩:=Af rd hk
    have ev:=(M7 V.str (λa b e=>by cases e; rfl) e1 e2 i).1
    cases hx
    cases neg
    ·exact wpAny_in_of (knd:=PySem.strKind c.prog c.w) (k:=i) (by simp[PySem.strKind,Value.isStrOf]) lo hd.mapOf ⟨_,_,rfl,by rw[←ev]; exact h,rfl⟩
    ·exact wpAny_notIn_of (knd:=PySem.strKind c.prog c.w) (k:=i) (by simp[PySem.strKind,Value.isStrOf]) lo hd.mapOf ⟨_,_,rfl,by rw[←ev]; exact h,rfl⟩
   ·obtain⟨xs,hd,e1,e2⟩:=U4 rd (λp hp=>hk p hp)
    have ev:=(Ae e1 e2 (.tup t)).1
    cases hx with
    | tup ta tb =>
    cases neg
    ·exact wpAny_in_heap (knd:=O4 c.prog c.w) (by show A.units+1+9 < cLine; omega) ⟨.tup ta tb,h8⟩ lo hd ⟨_,_,rfl,by rw[←ev]; exact h,rfl⟩
    ·exact eO (by show A.units+1+9 < cLine; omega) ⟨.tup ta tb,h8⟩ lo hd ⟨_,_,rfl,by rw[←ev]; exact h,rfl⟩
  ·exact h.elim
 ·rename_i a0
  split at h
  ·rename_i i
   obtain⟨kvs,ht,h⟩:=h
   obtain⟨lo,l,hd,e1,e2⟩:=Kn r ht
   have ev:=Nq e1 i
   cases hx; cases hy
   cases neg
   ·exact wpAny_in_of (knd:=intKind c.prog c.w) (k:=i) (by simp[intKind,Value.isInt]) lo hd.mapOf ⟨_,_,rfl,by rw[←ev]; exact h,rfl⟩
   ·exact wpAny_notIn_of (knd:=intKind c.prog c.w) (k:=i) (by simp[intKind,Value.isInt]) lo hd.mapOf ⟨_,_,rfl,by rw[←ev]; exact h,rfl⟩
  ·exact h.elim
 ·exact h.elim
end
section
variable {c:Cx}{n:Nat}{A:Around}{O:a7}{s:Shared}{E:Value→Shared→Prop}
theorem V.shaped{x:V}(h:x.da=true) (hd:x.pd.depth≤64):SeqAt.shaped x.pd=true:=by
 unfold SeqAt.shaped
 rw[V.can x h,Bool.true_and,decide_eq_true_eq]; exact hd
theorem Ek{x y:V}{cx cy:Value}{Q:Bool→Prop}(neg:Bool) (hx:Rep s.heap x cx) (hy:Rep s.heap y cy) (dx:x.da=true) (dy:y.da=true) (ex:x.pd.depth≤64) (ey:y.pd.depth≤64)
  (hu:A.units+200 < cLine) (h:Q (if neg then !(PyData.eqv x.pd y.pd) else PyData.eqv x.pd y.pd)):wpAny (model c.prog c.w) A (compareOp (if neg then .NotEq else .Eq) cx cy) (Still s Q) E s:=by
 obtain⟨as,ra⟩:=hx.reads dx
 obtain⟨bs,rb⟩:=hy.reads dy
 cases neg
 ·exact SeqAt.compareEq_shaped ra rb (V.shaped dx ex) (V.shaped dy ey) (by omega) ⟨_,s.toks,rfl,h,rfl⟩
 ·exact SeqAt.compareNe_shaped ra rb (V.shaped dx ex) (V.shaped dy ey) (by omega) ⟨_,s.toks,rfl,h,rfl⟩
theorem iC{x y:V}{cx cy:Value}{Q:Bool→Prop}(neg:Bool) (hx:Rep s.heap x cx) (hy:Rep s.heap y cy) (r:Rel c O s.heap) (hu:A.units+200 < cLine) (h:EQ x y O λb=>Q (if neg then !b else b)) :
  wpAny (model c.prog c.w) A (compareOp (if neg then .NotEq else .Eq) cx cy) (Still s Q) E s:=by
 unfold EQ at h
 split at h
 ·obtain⟨l,m,h1,h2,i1,i2,h⟩:=h
  cases hx; cases hy
  obtain⟨ia,⟨na,ha⟩,rl⟩:=(r.3 _ _ h1).2
  obtain⟨ib,⟨nb,hb⟩,rm⟩:=(r.3 _ _ h2).2
  obtain⟨as,ra⟩:=rl.reads (V.A1 _ i1.hks)
  obtain⟨bs,rb⟩:=rm.reads (V.A1 _ i2.hks)
  have e:=V.eqvs l m (V.Q5 _ i1.hks) (V.Q5 _ i2.hks)
  have sh:∀{l:List V},Iv l→SeqAt.shaped (.list (V.He l))=true:=fun {l} i=>by
   unfold SeqAt.shaped
   have:=V.N6 l i.hks
   rw[show PyData.canLay0 (.list (V.He l))=PyData.canLayAll0 (V.He l) by simp[PyData.canLay0],V.Rh l (V.A1 _ i.hks),Bool.true_and,decide_eq_true_eq]
   simp only[PyData.depth]; omega
  cases neg
  ·exact SeqAt.compareEq_shaped (.list ha rfl rfl ra) (.list hb rfl rfl rb) (sh i1) (sh i2) (by omega) ⟨_,s.toks,rfl,by simpa[PyData.eqv,e] using h,rfl⟩
  ·exact SeqAt.compareNe_shaped (.list ha rfl rfl ra) (.list hb rfl rfl rb) (sh i1) (sh i2) (by omega) ⟨_,s.toks,rfl,by simpa[PyData.eqv,e] using h,rfl⟩
 ·obtain⟨⟨h1,h2,h3,h4⟩ | ⟨a,b,rfl,rfl⟩,h⟩:=h
  ·have e:=V.eqv x y h1 h2
   have d1:=V.F9 x h3
   have d2:=V.F9 y h4
   exact Ek neg hx hy (V.z8 _ h3) (V.z8 _ h4) (by omega) (by omega) hu (by rw[e]; exact h)
  ·refine Ek neg hx hy rfl rfl (by simp[V.pd,PyData.depth]) (by simp[V.pd,PyData.depth]) hu ?_
   have e:PyData.eqv (V.bool a).pd (V.bool b).pd=decide (V.bool a=V.bool b):=by
    rw[Bool.eq_iff_iff]; simp[V.pd,PyData.eqv]
   rw[e]; exact h
theorem iD{x:V}{cx:Value}{Q:Bool→Prop}(neg:Bool) (hx:Rep s.heap x cx) (h:IS x λb=>Q (if neg then !b else b)) :
  wpAny (model c.prog c.w) A (compareOp (if neg then .IsNot else .Is) cx .none) (Still s Q) E s:=by
 have key:∀b,PySem.plainIs cx .none=true→(cx == Value.none)=b→Q (if neg then !b else b)→wpAny (model c.prog c.w) A (compareOp (if neg then .IsNot else .Is) cx .none) (Still s Q) E s:=λb hp hb hq=>by
  cases neg
  ·exact wpAny_is_plain hp ⟨_,s.toks,rfl,by rw[hb]; exact hq,rfl⟩
  ·exact wpAny_isNot_plain hp ⟨_,s.toks,rfl,by rw[hb]; exact hq,rfl⟩
 unfold IS at h
 split at h<;>first | exact h.elim | (cases hx; first | exact key _ rfl (by decide) h | exact key _ rfl rfl h | exact key false rfl (by simp) h)
theorem Yu{op:CmpOp}{x y:V}{cx cy:Value}{Q:Bool→Prop}(hx:Rep s.heap x cx) (hy:Rep s.heap y cy) (r:Rel c O s.heap) (hu:A.units+200 < cLine) (h:G6 c op x y O Q) :
  wpAny (model c.prog c.w) A (compareOp op cx cy) (Still s Q) E s:=by
 cases op with
 | Eq=>exact iC false hx hy r hu h
 | NotEq=>exact iC true hx hy r hu h
 | Lt=>obtain⟨a,b,rfl,rfl,h⟩:=h; cases hx; cases hy; exact lt_int ⟨_,s.toks,rfl,h,rfl⟩
 | LtE=>obtain⟨a,b,rfl,rfl,h⟩:=h; cases hx; cases hy; exact le_int ⟨_,s.toks,rfl,h,rfl⟩
 | Gt=>obtain⟨a,b,rfl,rfl,h⟩:=h; cases hx; cases hy; exact gt_int ⟨_,s.toks,rfl,h,rfl⟩
 | GtE=>obtain⟨a,b,rfl,rfl,h⟩:=h; cases hx; cases hy; exact ge_int ⟨_,s.toks,rfl,h,rfl⟩
 | In=>exact Yt false hx hy r hu h
 | NotIn=>exact Yt true hx hy r hu h
 | Is=>obtain⟨rfl,h⟩:=h; cases hy; exact iD false hx h
 | IsNot=>obtain⟨rfl,h⟩:=h; cases hy; exact iD true hx h
theorem Q6{k:Int}{m:Nat}(h0:0≤k) (hn:k.toNat < m):seqIndex? k m=some k.toNat:=seqIndex_of h0 (by omega)
theorem Rk{α:Type}{l:List α}{i:Nat}{x:α}(h:l[i]?=some x):i < l.length:=(List.getElem?_eq_some_iff.mp h).1
theorem jK{value slice:Expr}{o i:V}{co ci:Value}{Q:V→a7→Prop}(ho:Rep s.heap o co) (hi:Rep s.heap i ci) (r:Rel c O s.heap) (hu:A.units+200 < cLine) (h:S4 o i O Q)
  (hs:∀o i,subscripted slice false o i=operate [o,i] (getItem o i)):wpAny (model c.prog c.w) A (subscriptTail value slice co ci) (QE c O s Q) E s:=by
 unfold S4 at h
 split at h
 ·obtain⟨k,v,rfl,h0,h1,h2,h⟩:=h
  cases hi
  cases ho with
  | @tup a _ ia ta ra =>
  obtain⟨cv,e1,e2⟩:=ra.get h2
  have hz:=ra.size
  have hT:=ta.isTuple.typeIs
  obtain⟨na,ha⟩:=ta
  exact tail_any hT F.slot_tuple_getitem.lookup (getItem_tuple ⟨_,ha,rfl,na,rfl⟩ (by omega) (by omega) (Q6 h0 (by rw[hz]; exact Rk h2)) (by simpa using e1) (QE.Yp r e2 h)) (hs _ _)
 ·rename_i x
  obtain⟨k,u,rfl,h0,h1,h2,h⟩:=h
  cases hi; cases ho
  have hlt:k.toNat < x.cps.size:=(Array.getElem?_eq_some_iff.mp h2).1
  refine tail_any (T := "str") rfl F.slot_str_getitem.lookup (P.getItem_str (c:=u) (by simp; omega) ?_ (QE.mk r (.str ..) h)) (hs _ _)
  rw[show x.length=x.cps.size from rfl,Q6 h0 hlt]; exact h2
 ·rename_i a0
  cases ho
  split at h
  ·rename_i l hl
   obtain⟨k,v,rfl,h0,h1,h2,h⟩:=h
   cases hi
   obtain⟨ia,⟨na,ha⟩,rl⟩:=(r.3 _ _ hl).2
   obtain⟨cv,e1,e2⟩:=rl.get h2
   exact tail_any (T := "list") ⟨_,ha,rfl⟩ slot_list_getitem.lookup (wpAny_getItem_list ⟨_,ha,rfl,na,rfl⟩ h0 (by omega) (by simpa using e1) (QE.Yp r e2 h)) (hs _ _)
  ·rename_i l hl
   obtain⟨hk,v,hv,h⟩:=h
   have rd:Z0 c.prog c.w s.heap a0 l:=(r.3 _ _ hl).2
   rcases hk with⟨i,rfl,hk⟩ | ⟨i,rfl,hk⟩ | ⟨h8,t,rfl,hk⟩
   ·obtain⟨kvs,hd,e1,e2⟩:=U3 rd hk
    obtain⟨cv,g1,g2⟩:=(M7 V.int (λa b e=>by cases e; rfl) e1 e2 i).2 v hv
    cases hi
    exact tail_any hd.typeIs slot_dict_getitem.lookup (wpAny_getItem_of (knd:=intKind c.prog c.w) (k:=i) (by simp[intKind,Value.isInt]) hd.mapOf g1 (QE.mk r g2 h)) (hs _ _)
   ·obtain⟨kvs,hd,e1,e2⟩:=Af rd hk
    obtain⟨cv,g1,g2⟩:=(M7 V.str (λa b e=>by cases e; rfl) e1 e2 i).2 v hv
    cases hi
    exact tail_any hd.typeIs slot_dict_getitem.lookup (wpAny_getItem_of (knd:=PySem.strKind c.prog c.w) (k:=i) (by simp[PySem.strKind,Value.isStrOf]) hd.mapOf g1 (QE.mk r g2 h)) (hs _ _)
   ·obtain⟨xs,hd,e1,e2⟩:=U4 rd (λp hp=>hk p hp)
    obtain⟨p,g1,g2⟩:=(Ae e1 e2 (.tup t)).2 v hv
    cases hi with
    | tup ta tb =>
    exact tail_any hd.typeIs slot_dict_getitem.lookup (wpAny_getItem_heap (knd:=O4 c.prog c.w) (by show A.units+1+9 < cLine; omega) ⟨.tup ta tb,h8⟩ hd g1 (QE.mk r g2 h)) (hs _ _)
  ·exact h.elim
 ·exact h.elim
theorem Bn{w:World}{h:Heap}{name:Str}:∀{es:List DictEntry}{l:List (Str×V)},M6 w h es l→(∀v,l.lookup name=some v→∃cv,getL name es=some (some cv)∧Rep h v cv)∧(l.lookup name=none→getL name es=some none)
 | _,_,.nil=>by simp[getL]
 | _,_,.cons (x:=x) (t:=t) (c:=cv) (v:=v) (es:=es) (l:=l) a b=>by
  have ih:=Bn b (name:=name)
  have hk:(∀e∈es,e.refKey=false):=by
   clear ih a
   induction b with
   | nil=>intro e he; cases he
   | cons _ _ ih=>intro e he; cases he with
    | head=>rfl
    | tail _ hm=>exact ih e hm
  by_cases e:name=x
  ·subst e
   refine⟨λu hu=>?_,λhn=>by simp at hn⟩
   simp at hu; subst hu
   exact⟨cv,by simp[getL,Value.isStr],a⟩
  ·have e2:(name == x)=false:=by simpa using e
   have e3:(x == name)=false:=by simpa using λz=>e z.symm
   have g:getL name (⟨PyData.keyHash w.params x,.str x t,cv⟩::es)=getL name es:=by
    simp only[getL,List.find?_cons,Value.isStr,e3,List.any_cons,DictEntry.refKey,Bool.false_or]
    rfl
   rw[g]
   simp only[List.lookup_cons,e2]
   exact ih
theorem Ko{h:Heap}{v:V}{cv:Value}(r:Rep h v cv) (hv:v.Ei=true):handedIn cv=true:=by
 cases r<;>first | rfl | (simp[V.Ei] at hv)
theorem Kp{a C dx:Addr}{l:List (Str×V)}(r:Rel c O s.heap) (h1:O a=some (.inst C dx)) (h2:O dx=some (.ns l)) :
  ∃es n,InstAt s.heap a ⟨.ref C,some dx,.plain,#[]⟩ C (some (dictOf es n))∧M6 c.w s.heap es l∧s.heap.get? dx=some (dictOf es n):=by
 have x:s.heap.get? a=some ⟨.ref C,some dx,.plain,#[]⟩:=(r.3 _ _ h1).2
 obtain⟨es,n,y,z⟩:=(r.3 _ _ h2).2
 exact⟨es,n,⟨x,rfl,rfl,y⟩,z,y⟩
theorem eP(G:Good c){o:V}{co:Value}{name:Str}{b:Bool}{Q:V→a7→Prop}(ho:Rep s.heap o co) (r:Rel c O s.heap) (h:H8 c o name O λv=>Q v O) :
  wpAny (model c.prog c.w) A (getAttr co name b) (QE c O s Q) E s:=by
 obtain⟨a,C,dx,l,v,rfl,h1,h2,h3,⟨p1,p2,p3⟩,hv,h⟩:=h
 cases ho
 obtain⟨es,n,I,N,_⟩:=Kp r h1 h2
 obtain⟨cv,g1,g2⟩:=(Bn N).1 v h3
 exact get_value (G.KX.keeps r.stays) I (plainGet_of p1).1 (findObj_own p2 p3 rfl (by rw[lookIn_dict]; exact g1)) (Ko g2 hv) (QE.mk r g2 h)
end
def SX(c:Cx) (n:Nat) (fs:FS) (e:Expr) (x:X):Prop:=∀env Z O Q E,WX c n x Z O Q E→WE c n env fs e Z O Q E
def eA(c:Cx) (n:Nat) (fs:FS) (e:List Expr) (x:List X):Prop:=∀env Z O Q E,j0 c n x Z O Q E→tN c n env fs e Z O (λvs O=>vs.length=e.length∧Q vs O) E
def SB(c:Cx) (n:Nat) (fs:FS) (e:Expr) (x:B):Prop:=∀env Z O Q E,WC c n x Z O Q E→zI c n env fs e Z O Q E
section
variable {c:Cx}{n:Nat}{env:Env}{fs:FS}{Z:Loc}{O d9:a7}{Q:V→a7→Prop}{E:a7→Prop}{A:Around}{s f9:Shared}
structure D4(c:Cx) (n:Nat) (env:Env) (fs:FS) (A:Around) (F:Addr→Prop) (d9:a7) (f9:Shared) (Z:Loc) (O:a7) (s:Shared):Prop where
 ok:Ok c n A O s.heap
 G1:Y6 c env fs Z O s.heap
 rel:Rel c O s.heap
 post:j6 c d9 O F f9 s
abbrev At(c:Cx) (n:Nat) (env:Env) (fs:FS) (A:Around) (d9:a7) (f9:Shared) (Z:Loc) (O:a7) (s:Shared):Prop:=D4 c n env fs A (λ_=>False) d9 f9 Z O s
theorem At.start(o:Ok c n A O s.heap) (f:Y6 c env fs Z O s.heap) (r:Rel c O s.heap):At c n env fs A O s Z O s:=⟨o,f,r,.refl r⟩
theorem D4.step{F:Addr→Prop}{d0:a7}{f7:Shared}(a:D4 c n env fs A F d9 f9 Z O s) (p:j6 c O d0 (λ_=>False) s f7):D4 c n env fs A F d9 f9 Z d0 f7 :=
 ⟨a.ok.post p,a.G1.post0 p,p.rel,a.post.trans (p.Nn λ_ h=>h.elim)⟩
theorem D4.toks{F:Addr→Prop}(a:D4 c n env fs A F d9 f9 Z O s){tk:Nat}:D4 c n env fs A F d9 f9 Z O {s with toks:=tk}:=a.step (j6.toks a.rel)
theorem D4.units{F:Addr→Prop}(a:D4 c n env fs A F d9 f9 Z O s):A.units+200 < cLine:=by have:=a.ok.2.1; omega
theorem At.step{d0:a7}{f7:Shared}(a:At c n env fs A d9 f9 Z O s) (p:j6 c O d0 (λ_=>False) s f7):At c n env fs A d9 f9 Z d0 f7 :=
 ⟨a.ok.post p,a.G1.post0 p,p.rel,a.post.trans p⟩
theorem Rep.post{d0:a7}{f7:Shared}{F:Addr→Prop}{v:V}{cv:Value}(h:Rep s.heap v cv) (p:j6 c O d0 F s f7):Rep f7.heap v cv:=h.mono p.Cm
theorem WE.at{e:Expr}{Q1:V→a7→Prop}{R:Value→Shared→Prop}(h:WE c n env fs e Z O Q1 E) (a:At c n env fs A d9 f9 Z O s)
  (h2:∀cv v d0 f7,At c n env fs A d9 f9 Z d0 f7→j6 c O d0 (λ_=>False) s f7→Rep f7.heap v cv→Q1 v d0→R cv f7):wpAny (model c.prog c.w) A (eval e env) R (EE c d9 f9 E) s :=
 wpAny_mono (h A s a.ok a.G1 a.rel) (λcv f7 ⟨v,d0,p,hr,q⟩=>h2 cv v d0 f7 (a.step p) p hr q) λ_ _ e=>e.trans a.post
theorem tN.at{e:List Expr}{pos:Pos}{Q1:List V→a7→Prop}{R:List Value→Shared→Prop}(h:tN c n env fs e Z O Q1 E) (a:At c n env fs A d9 f9 Z O s)
  (h2:∀cv v d0 f7,At c n env fs A d9 f9 Z d0 f7→j6 c O d0 (λ_=>False) s f7→j9 f7.heap v cv→Q1 v d0→R cv f7):wpAny (model c.prog c.w) A (spliced (backTo pos (starEach e env))) R (EE c d9 f9 E) s :=
 wpAny_mono (h A s pos a.ok a.G1 a.rel) (λcv f7 ⟨v,d0,p,hr,q⟩=>h2 cv v d0 f7 (a.step p) p hr q) λ_ _ e=>e.trans a.post
theorem zI.at{e:Expr}{Q1:Bool→a7→Prop}{R:Bool→Shared→Prop}(h:zI c n env fs e Z O Q1 E) (a:At c n env fs A d9 f9 Z O s)
  (h2:∀b d0 f7,At c n env fs A d9 f9 Z d0 f7→j6 c O d0 (λ_=>False) s f7→Q1 b d0→R b f7):wpAny (model c.prog c.w) A (isTrue e env (eval e env)) R (EE c d9 f9 E) s :=
 wpAny_mono (h A s a.ok a.G1 a.rel) (λb f7 ⟨d0,p,q⟩=>h2 b d0 f7 (a.step p) p q) λ_ _ e=>e.trans a.post
theorem At.qe(a:At c n env fs A d9 f9 Z O s){m:Sem Value}{E':Value→Shared→Prop}(h:wpAny (model c.prog c.w) A m (QE c O s Q) (EE c O s E) s):wpAny (model c.prog c.w) A m (QE c d9 f9 Q) (EE c d9 f9 E) s :=
 wpAny_mono h (λ_ _ q=>q.trans a.post) λ_ _ e=>e.trans a.post
theorem At.qb(a:At c n env fs A d9 f9 Z O s){Q:Bool→a7→Prop}{m:Sem Bool}(h:wpAny (model c.prog c.w) A m (QB c O s Q) (EE c O s E) s):wpAny (model c.prog c.w) A m (QB c d9 f9 Q) (EE c d9 f9 E) s :=
 wpAny_mono h (λ_ _ q=>q.trans a.post) λ_ _ e=>e.trans a.post
theorem At.ret{cv:Value}{v:V}(a:At c n env fs A d9 f9 Z O s) (h:Rep s.heap v cv) (q:Q v O):QE c d9 f9 Q cv s:=⟨v,O,a.post,h,q⟩
theorem At.units(a:At c n env fs A d9 f9 Z O s):A.units+200 < cLine:=by have:=a.ok.2.1; omega
theorem At.toks(a:At c n env fs A d9 f9 Z O s){tk:Nat}:At c n env fs A d9 f9 Z O {s with toks:=tk}:=a.step (j6.toks a.rel)
theorem tO{l r:Expr}{op:Operator}{pos:Pos}{x y:X}(hx:SX c n fs l x) (hy:SX c n fs r y):SX c n fs (.BinOp l op r pos) (.bin op x y):=by
 intro env Z O Q E h A s o f re
 simp only[WX] at h
 refine wpAny_BinOp ((hx env Z O _ E h).at (.start o f re) λca va d0 f7 j4 A2 u7 h=>?_)
 refine(hy env Z d0 _ E h).at j4 λcb vb o6 m9 m8 G7 N8 h=>?_
 exact m8.qe (E':=λ_ _=>True) (jJ (u7.post G7) N8 m8.rel h)
theorem tP{e:Expr}{pos:Pos}{x:X}(hx:SX c n fs e x):SX c n fs (.UnaryOp .USub e pos) (.neg x):=by
 intro env Z O Q E h A s o f re
 simp only[WX] at h
 refine wpAny_UnaryOp ((hx env Z O _ E h).at (.start o f re) λca va d0 f7 j4 A2 u7 h=>?_)
 obtain⟨i,rfl,h⟩:=h
 cases u7
 exact neg_int (j4.toks.ret (.int ..) h)
theorem tQ{e:Expr}{pos:Pos}{x:X}(hx:SX c n fs e x):SX c n fs (.UnaryOp .Not e pos) (.not x):=by
 intro env Z O Q E h A s o f re
 simp only[WX] at h
 refine wpAny_UnaryOp ((hx env Z O _ E h).at (.start o f re) λca va d0 f7 j4 A2 u7 h=>?_)
 refine not_of (wpAny_mono (Ad (E:=EE c O s E) (Q:=λb O=>Q (.bool (!b)) O) u7 j4.rel h) (λb m9 ⟨o6,G7,q⟩=>?_) λ_ _ e=>e)
 exact(j4.step G7).ret (.bool _) q
theorem nI{e:Expr}{pos:Pos}{x:X}(hx:SX c n fs e x):SX c n fs (.BoolOp .And [e] pos) (.and [x]):=by
 intro env Z O Q E h A s o f re
 simp only[WX,Yo] at h
 exact BoolOp_one (hx env Z O _ E h A s o f re)
theorem tR{e e':Expr}{es:List Expr}{pos:Pos}{x x':X}{xs:List X}(hx:SX c n fs e x) (hs:SX c n fs (.BoolOp .And (e'::es) pos) (.and (x'::xs))):SX c n fs (.BoolOp .And (e::e'::es) pos) (.and (x::x'::xs)):=by
 intro env Z O Q E h A s o f re
 simp only[WX] at h
 rw[Yo] at h
 refine BoolOp_and ((hx env Z O _ E h).at (.start o f re) λca va d0 f7 j4 A2 u7 h=>?_)
 refine wpAny_mono (Ad (E:=EE c O s E) (Q:=λb O=>if b=true then Yo c n (x'::xs) Z O Q E else Q va O) u7 j4.rel h) (λb m9 ⟨o6,G7,q⟩=>?_) λ_ _ e=>e
 have m8:=j4.step G7
 dsimp only at q
 split
 ·rename_i hb
  rw[if_pos hb] at q
  exact m8.qe (E':=λ_ _=>True) (hs env Z o6 Q E (by simpa only[WX] using q) A m9 m8.ok m8.G1 m8.rel)
 ·rename_i hb
  rw[if_neg hb] at q
  exact m8.ret (u7.post G7) q
theorem tT{e:Expr}{pos:Pos}{x:X}(hx:SX c n fs e x):SX c n fs (.BoolOp .Or [e] pos) (.or [x]):=by
 intro env Z O Q E h A s o f re
 simp only[WX,iB] at h
 exact BoolOp_one (hx env Z O _ E h A s o f re)
theorem mOr{e e':Expr}{es:List Expr}{pos:Pos}{x x':X}{xs:List X}(hx:SX c n fs e x) (hs:SX c n fs (.BoolOp .Or (e'::es) pos) (.or (x'::xs))):SX c n fs (.BoolOp .Or (e::e'::es) pos) (.or (x::x'::xs)):=by
 intro env Z O Q E h A s o f re
 simp only[WX] at h
 rw[iB] at h
 refine BoolOp_or ((hx env Z O _ E h).at (.start o f re) λca va d0 f7 j4 A2 u7 h=>?_)
 refine wpAny_mono (Ad (E:=EE c O s E) (Q:=λb O=>if b=true then Q va O else iB c n (x'::xs) Z O Q E) u7 j4.rel h) (λb m9 ⟨o6,G7,q⟩=>?_) λ_ _ e=>e
 have m8:=j4.step G7
 dsimp only at q
 split
 ·rename_i hb
  rw[if_pos hb] at q
  exact m8.ret (u7.post G7) q
 ·rename_i hb
  rw[if_neg hb] at q
  exact m8.qe (E':=λ_ _=>True) (hs env Z o6 Q E (by simpa only[WX] using q) A m9 m8.ok m8.G1 m8.rel)
theorem tV{t a b:Expr}{pos:Pos}{xt:B}{xa xb:X}(ht:SB c n fs t xt) (ha:SX c n fs a xa) (hb:SX c n fs b xb):SX c n fs (.IfExp t a b pos) (.ite xt xa xb):=by
 intro env Z O Q E h A s o f re
 simp only[WX] at h
 refine wpAny_IfExp ((ht env Z O _ E h).at (.start o f re) λb d0 f7 j4 A2 h=>?_)
 cases b with
 | true =>
  rw[if_pos rfl]
  exact j4.qe (E':=λ_ _=>True) (ha env Z d0 Q E (h.1 rfl) A f7 j4.ok j4.G1 j4.rel)
 | false =>
  rw[if_neg (by simp)]
  exact j4.qe (E':=λ_ _=>True) (hb env Z d0 Q E (h.2 rfl) A f7 j4.ok j4.G1 j4.rel)
theorem tW{l r:Expr}{op:CmpOp}{pos:Pos}{x y:X}(hx:SX c n fs l x) (hy:SX c n fs r y) (hm:behindInMarks op r=false):SX c n fs (.Compare l [op] [r] pos) (.cmp op x y):=by
 intro env Z O Q E h A s o f re
 simp only[WX] at h
 refine wpAny_Compare1 ((hx env Z O _ E h).at (.start o f re) λca va d0 f7 j4 A2 u7 h=>?_) hm
 refine(hy env Z d0 _ E h).at j4 λcb vb o6 m9 m8 G7 N8 h=>?_
 refine wpAny_mono (Yu (E:=EE c O s E) (u7.post G7) N8 m8.rel m8.units h) (λv S8 ⟨b,tk,e1,q,e2⟩=>?_) λ_ _ e=>e
 subst e1 e2
 exact m8.toks.ret (.bool _) q
theorem nJ(G:Good c){e:Expr}{name:Str}{pos:Pos}{x:X}(hx:SX c n fs e x) (hb:∀env,attributeBase e name env (eval e env)=eval e env):SX c n fs (.Attribute e name pos) (.attr x name):=by
 intro env Z O Q E h A s o f re
 simp only[WX] at h
 rw[arm_eval_Attribute,hb]
 refine wpAny_bind ((hx env Z O _ E h).at (.start o f re) λca va d0 f7 j4 A2 u7 h=>?_)
 refine wpAny_bind (wpAny_standAt (wpAny_bind (wpAny_holding ?_)))
 refine wpAny_mono (eP (E:=EE c O s E) G u7 j4.rel h) (λv m9 ⟨v',o6,G7,N8,q⟩=>?_) λ_ _ e=>e
 exact wpAny_bind (wpAny_letTemporaryGo (wpAny_pure ((j4.step G7).ret N8 q)))
theorem tZ{l r:Expr}{pos:Pos}{x y:X}(hx:SX c n fs l x) (hy:SX c n fs r y) (hs:∀o i,subscripted r false o i=operate [o,i] (getItem o i)):SX c n fs (.Subscript l r pos) (.sub x y):=by
 intro env Z O Q E h A s o f re
 simp only[WX] at h
 refine Subscript_ ((hx env Z O _ E h).at (.start o f re) λca va d0 f7 j4 A2 u7 h=>?_)
 refine(hy env Z d0 _ E h).at j4 λcb vb o6 m9 m8 G7 N8 h=>?_
 exact m8.qe (E':=λ_ _=>True) (jK (u7.post G7) N8 m8.rel m8.units h hs)
def z4:Expr→Bool
 | .Starred ..=>false
 | _=>true
theorem x0{e:Expr}{es:List Expr}(h:z4 e=true):starEach (e::es) env=(false,eval e env)::starEach es env:=by
 cases e<;>first | rfl | (simp[z4] at h)
theorem z9{pos:Pos}{t:Sem Value}{l:List (Bool×Sem Value)}:backTo pos ((false,t)::l)=(false,t)::backTo pos l:=by simp[backTo]
theorem jL:eA c n fs [] []:=by
 intro env Z O Q E h A s pos o f re
 simp only[j0] at h
 exact spliced_nil ⟨[],O,.refl re,.nil,rfl,h⟩
theorem Nr{e:Expr}{es:List Expr}{x:X}{xs:List X}(hn:z4 e=true) (hx:SX c n fs e x) (hs:eA c n fs es xs):eA c n fs (e::es) (x::xs):=by
 intro env Z O Q E h A s pos o f re
 simp only[j0] at h
 rw[x0 hn,z9]
 refine spliced_cons ((hx env Z O _ E h).at (.start o f re) λca va d0 f7 j4 A2 u7 h=>?_)
 refine(hs env Z d0 _ E h).at j4 λcs vs o6 m9 m8 G7 N8 h=>?_
 exact⟨_,_,m8.post,.cons (u7.post G7) N8,by simp[h.1],h.2⟩
theorem nK{es:List Expr}{k}{pos:Pos}{xs:List X}(hl:es.length≤1000) (hs:eA c n fs es xs):SX c n fs (.Tuple es k pos) (.tup xs):=by
 intro env Z O Q E h A s o f re
 simp only[WX] at h
 refine wpAny_Tuple_spliced ((hs env Z O _ E h).at (.start o f re) λcs vs d0 f7 j4 A2 u7 h=>?_)
 refine⟨O7 (by rw[←u7.length,h.1]; omega),QE.trans j4.post ?_⟩
 exact QE.newTuple (tk:=f7.toks) (items:=cs.toArray) j4.rel (by simpa using u7) (by simp[Heap.size_push]) (λa o e=>Heap.get?_push_of_some _ e) ⟨0,Heap.get?_push_size _ rfl⟩ h.2
theorem uA{es:List Expr}{pos:Pos}{xs:List X}(hl:es.length≤1000) (hs:eA c n fs es xs):SX c n fs (.List es pos) (.lst xs):=by
 intro env Z O Q E h A s o f re
 simp only[WX] at h
 refine wpAny_List_spliced ((hs env Z O _ E h).at (.start o f re) λcs vs d0 f7 j4 A2 u7 h=>?_)
 refine⟨O7 (by rw[←u7.length,h.1]; omega),QE.trans j4.post ?_⟩
 exact QE.newList (tk:=f7.toks) (items:=cs) j4.rel u7 (by simp[Heap.size_push]) (λa o e=>Heap.get?_push_of_some _ e) (Nat.le_refl _) ⟨0,Heap.get?_push_size _ rfl⟩ h.2
def calleeOk(K:Frag):Value→Bool
 | .ref a=>keepIn K (.ref a)
 | .builtin _=>true
 | .type _=>true
 | _=>false
theorem Kq{K:Frag}{M:Model}{f:Value}(h:calleeOk K f=true) (hp:Heap) (X:K.In hp):∃k,(k=Keeper.frame∨k=Keeper.machine∨k=Keeper.boundFrame)∧Looks M hp (keeperOf f) k:=by
 cases f<;>simp only[calleeOk,Bool.false_eq_true] at h
 ·exact⟨.machine,.inr (.inl rfl),.now⟩
 ·exact⟨.machine,.inr (.inl rfl),.now⟩
 ·exact keeps_K h hp X
theorem At.call(G:Good c) (a:At c n env fs A d9 f9 Z O s){f:Value}{first:List Value}{El:List V}{es:List Expr}{pos:Pos}{xs:List X}(hk:calleeOk c.K f=true) (hs:eA c n fs es xs)
  (hst:es.all z4=true) (hlen:es.length=xs.length) (hf:j9 s.heap El first) (h:j0 c n xs Z O (λvs O=>l8 c n (.fix f) (El++vs) O Q E) E) :
  wpAny (model c.prog c.w) A (callWith pos f first (backTo pos (starEach es env)) []) (QE c d9 f9 Q) (EE c d9 f9 E) s:=by
 have fin:∀(cs:List Value) (vs:List V) (d0:a7) (f7:Shared),At c n env fs A d9 f9 Z d0 f7→j6 c O d0 (λ_=>False) s f7→j9 f7.heap vs cs→l8 c n (.fix f) (El++vs) d0 Q E →
   c.K.In f7.heap∧wpAny (model c.prog c.w) A (PySem.call f (first++cs) []) (QE c d9 f9 Q) (EE c d9 f9 E) f7:=λcs vs d0 f7 j4 A2 u7 h=>by
  refine⟨G.KX.keeps j4.rel.stays,j4.qe (E':=λ_ _=>True) (h A f7 f (first++cs) j4.ok j4.rel (.fix f) (j9.append (hf.mono A2.Cm) u7))⟩
 cases es with
 | nil =>
  refine callWith_of (P:=c.K.In) rfl (Kq hk) ?_
  refine evalArgs_nil3 ?_
  cases xs with
  | nil =>
   simp only[j0] at h
   exact fin [] [] O s a (.refl a.rel) .nil h
  | cons x xs=>simp at hlen
 | cons e es =>
  have hn:z4 e=true:=by simp at hst; exact hst.1
  have hp:∀l:List Expr,l.all z4=true→(backTo pos (starEach l env)).any (·.1)=false:=λl hl=>by
   induction l with
   | nil=>rfl
   | cons e es ih =>
    simp at hl
    rw[x0 hl.1,z9]
    simpa using ih (by simpa using hl.2)
  refine callWith_of (P:=c.K.In) (by rw[hp _ hst]; rfl) (Kq hk) ?_
  rw[x0 hn,z9]
  refine evalArgs_plain ?_
  rw[←z9,←x0 hn]
  exact(hs env Z O _ E h).at a λcs vs d0 f7 j4 A2 u7 h=>fin cs vs d0 f7 j4 A2 u7 h.2
theorem nL(G:Good c){id:Str}{p pos:Pos}{es:List Expr}{xs:List X}{f:Value}(hk:fs.sc.lookup id=some .globalImplicit) (hv:Ej c.K id=some (.fix f)) (hd:(id == ("__debug__":Str))=false)
  (hc:calleeOk c.K f=true) (hs:eA c n fs es xs) (hst:es.all z4=true) (hlen:es.length=xs.length):SX c n fs (.Call (.Name id p) es [] pos) (.call (.con (.fix f)) xs):=by
 intro env Z O Q E h A s o f' re
 simp only[WX] at h
 rw[arm_eval_Call_Name']
 refine wpAny_bind (WE.at (Q1:=λv b7=>v=.fix f∧b7=O) (Yq G hk hv hd ⟨rfl,rfl⟩) (.start o f' re) λcf v d0 f7 j4 A2 u7 h'=>?_)
 obtain⟨rfl,rfl⟩:=h'
 have:cf=f:=by cases u7; rfl
 subst this
 exact At.call G j4 (first:=[]) (El:=[]) hc hs hst hlen .nil h
theorem Ja{pos:Pos}:∀{l:List Expr},l.all z4=true→(backTo pos (starEach l env)).all (!·.1)=true
 | [],_=>rfl
 | e::l,h=>by
  simp only[List.all_cons,Bool.and_eq_true] at h
  rw[x0 h.1,z9]
  simpa using Ja (pos:=pos) h.2
theorem Kr(G:Good c){o:V}{co:Value}{name:Str}{fv:V}{pl:Sem Bool}{R:Value×List Value→Shared→Prop}{E':Value→Shared→Prop}(ho:Rep s.heap o co) (r:Rel c O s.heap) (h:Iw c o name O fv)
  (hR:∀f,fv=.fix f→calleeOk c.K f=true→R (f,[co]) s):wpAny (model c.prog c.w) A (getMethod co name pl) R E' s:=by
 rcases h with⟨a,l,rfl,hl,h⟩ | ⟨a,l,rfl,hl,rfl,rfl⟩ | ⟨a,kvs,rfl,ht,rfl,rfl⟩ | ⟨a,C,dx,l,f,rfl,h1,h2,h3,h4,h5,h6,h7,rfl⟩
 ·cases ho
  obtain⟨ia,⟨na,ha⟩,ra⟩:=(r.3 _ _ hl).2
  have nd:∀b,Value.ref a=.ref b→∃o,s.heap.get? b=some o∧o.dict=none:=λb e=>by cases e; exact⟨_,ha,rfl⟩
  rcases h with⟨rfl,rfl⟩ | ⟨rfl,rfl⟩ | ⟨rfl,rfl⟩
  ·exact getMethod_builtin ⟨_,ha,rfl⟩ F.plainAttrs_list slot_list_append F.type_list_append nd (hR _ rfl rfl)
  ·exact getMethod_builtin ⟨_,ha,rfl⟩ F.plainAttrs_list F.slot_list_extend F.type_list_extend nd (hR _ rfl rfl)
  ·exact getMethod_builtin ⟨_,ha,rfl⟩ F.plainAttrs_list F.slot_list_pop F.type_list_pop nd (hR _ rfl rfl)
 ·cases ho
  have rd:Z0 c.prog c.w s.heap a l:=(r.3 _ _ hl).2
  have key:∀ob,s.heap.get? a=some ob→ob.ExactDict→wpAny (model c.prog c.w) A (getMethod (.ref a) "get" pl) R E' s:=λob e x =>
   getMethod_builtin ⟨ob,e,x.1⟩ F.plainAttrs_dict F.slot_dict_get F.type_dict_get (λb e'=>by cases e'; exact⟨_,e,x.2.1⟩) (hR _ rfl rfl)
  rcases rd with⟨kvs,⟨ob,es,ep,e1,e2,_⟩,_⟩ | ⟨kvs,⟨ob,es,ep,e1,e2,_⟩,_⟩ | ⟨kvs,⟨ob,es,ep,e1,e2,_⟩,_⟩<;>exact key _ e1 e2
 ·cases ho
  obtain⟨lo,l,⟨ob,es,ep,e,x,_⟩,e1,e2⟩:=Kn r ht
  exact getMethod_builtin ⟨ob,e,x.1⟩ F.plainAttrs_dict F.slot_dict_get F.type_dict_get (λb e'=>by cases e'; exact⟨_,e,x.2.1⟩) (hR _ rfl rfl)
 ·cases ho
  obtain⟨es,n,I,N,_⟩:=Kp r h1 h2
  refine method_fn (G.KX.keeps r.stays) I (plainGet_of h4).1 (plainGet_of h4).2 h5 (beq_iff_eq.mp h6) ?_ (hR _ rfl h7)
  show(lookIn name (dictOf es n)).map _=_
  rw[lookIn_dict,(Bn N).2 h3]; rfl
theorem nM(G:Good c){e:Expr}{name:Str}{apos pos:Pos}{es:List Expr}{x:X}{xs:List X}(hx:SX c n fs e x) (hb:∀env,attributeBase e name env (eval e env)=eval e env) (hp:apos.endLine=pos.line)
  (hs:eA c n fs es xs) (hst:es.all z4=true) (hlen:es.length=xs.length) (hn:es.length < 30):SX c n fs (.Call (.Attribute e name apos) es [] pos) (.meth x name xs):=by
 intro env Z O Q E h A s o f' re
 simp only[WX] at h
 rw[arm_eval_Call,hb]
 refine wpAny_bind ((hx env Z O _ E h).at (.start o f' re) λco ov d0 f7 j4 A2 u7 h=>?_)
 obtain⟨fv,hm,h⟩:=h
 have few:methodCallForm (es.length+0) (backTo pos (starEach es env)) []=true:=by
  unfold methodCallForm
  rw[Ja hst]; simp; omega
 refine wpAny_bind (wpAny_standAt ?_)
 show wpAny _ _ (methodCall e name apos pos env co (es.length+0) (backTo pos (starEach es env)) []) _ _ _
 unfold methodCall
 rw[few]
 refine wpAny_bind (wpAny_holding ?_)
 show wpAny _ _ (getMethod co name _) _ _ _
 refine Kr G u7 j4.rel hm λf hf hc=>?_
 subst hf
 have:methodCallPos true e env apos pos=pure pos:=by unfold methodCallPos; simp[hp]
 refine wpAny_bind (wpAny_of_eq this ?_)
 exact At.call G j4 (first:=[co]) (El:=[ov]) hc hs hst hlen (.cons u7 .nil) h
theorem nN{e:Expr}{pos:Pos}{x:B}(hx:SB c n fs e x):SB c n fs (.UnaryOp .Not e pos) (.not x):=by
 intro env Z O Q E h A s o f re
 simp only[WC] at h
 exact wpAny_isTrue_Not ((hx env Z O _ E h).at (.start o f re) λb d0 f7 j4 A2 q=>⟨d0,A2,q⟩)
theorem nO{l r:Expr}{op:CmpOp}{pos:Pos}{x y:X}(hx:SX c n fs l x) (hy:SX c n fs r y) (hm:behindInMarks op r=false):SB c n fs (.Compare l [op] [r] pos) (.cmp op x y):=by
 intro env Z O Q E h A s o f re
 simp only[WC] at h
 refine wpAny_isTrue_Compare1 ((hx env Z O _ E h).at (.start o f re) λca va d0 f7 j4 A2 u7 h=>?_) hm
 refine(hy env Z d0 _ E h).at j4 λcb vb o6 m9 m8 G7 N8 h=>?_
 refine wpAny_mono (Yu (E:=EE c O s E) (u7.post G7) N8 m8.rel m8.units h) (λv S8 ⟨b,tk,e1,q,e2⟩=>?_) λ_ _ e=>e
 subst e1 e2
 exact wpAny_truthy_bool ⟨o6,m8.toks.post,q⟩
def Dw:Expr→Bool
 | .UnaryOp ..=>false
 | .BoolOp ..=>false
 | .IfExp ..=>false
 | .Compare ..=>false
 | _=>true
theorem Rl{e:Expr}(h:Dw e=true) (env:Env) (whole:Sem Value):isTrue e env whole=(do let v ←whole; standAt e.pos; holding [v] (truthy v)):=by
 cases e<;>first | rfl | (simp[Dw] at h)
theorem nP{e:Expr}{x:X}(hv:Dw e=true) (hx:SX c n fs e x):SB c n fs e (.val x):=by
 intro env Z O Q E h A s o f re
 simp only[WC] at h
 refine wpAny_isTrue_value ((hx env Z O _ E h).at (.start o f re) λca va d0 f7 j4 A2 u7 h=>?_) (Rl hv env _)
 exact j4.qb (Ad u7 j4.rel h)
inductive Yg(c:Cx) (n:Nat) (fs:FS):List Expr→List B→Prop
 | nil:Yg c n fs [] []
 | cons {e:Expr}{es:List Expr}{x:B}{xs:List B}:SB c n fs e x→Yg c n fs es xs→Yg c n fs (e::es) (x::xs)
theorem uB{es:List Expr}{xs:List B}(hx:Yg c n fs es xs):∀{env:Env}{Z:Loc}{O:a7}{Q:Bool→a7→Prop}{E:a7→Prop},M5 c n xs Z O Q E→∀{A s},Ok c n A O s.heap→Y6 c env fs Z O s.heap→Rel c O s.heap →
  wpAny (model c.prog c.w) A (allTrue .And es env) (QB c O s Q) (EE c O s E) s:=by
 induction hx with
 | nil =>
  intro env Z O Q E h A s o f re
  simp only[M5] at h
  exact wpAny_allTrue_And_nil ⟨O,.refl re,h⟩
 | cons h1 _ ih =>
  intro env Z O Q E h A s o f re
  simp only[M5] at h
  refine wpAny_allTrue_And_cons ((h1 env Z O _ E h).at (.start o f re) λb d0 f7 j4 A2 q=>?_)
  split
  ·rename_i hb
   rw[if_pos hb] at q
   exact j4.qb (ih q j4.ok j4.G1 j4.rel)
  ·rename_i hb
   rw[if_neg hb] at q
   exact⟨d0,j4.post,q⟩
theorem uC{es:List Expr}{xs:List B}(hx:Yg c n fs es xs):∀{env:Env}{Z:Loc}{O:a7}{Q:Bool→a7→Prop}{E:a7→Prop},K6 c n xs Z O Q E→∀{A s},Ok c n A O s.heap→Y6 c env fs Z O s.heap→Rel c O s.heap →
  wpAny (model c.prog c.w) A (allTrue .Or es env) (QB c O s Q) (EE c O s E) s:=by
 induction hx with
 | nil =>
  intro env Z O Q E h A s o f re
  simp only[K6] at h
  exact wpAny_of_eq (arm_allTrue_nil .Or env) ⟨O,.refl re,h⟩
 | cons h1 _ ih =>
  intro env Z O Q E h A s o f re
  simp only[K6] at h
  refine wpAny_allTrue_Or_cons ((h1 env Z O _ E h).at (.start o f re) λb d0 f7 j4 A2 q=>?_)
  split
  ·rename_i hb
   rw[if_pos hb] at q
   exact⟨d0,j4.post,q⟩
  ·rename_i hb
   rw[if_neg hb] at q
   exact j4.qb (ih q j4.ok j4.G1 j4.rel)
theorem nQ{es:List Expr}{pos:Pos}{xs:List B}(hx:Yg c n fs es xs):SB c n fs (.BoolOp .And es pos) (.and xs):=by
 intro env Z O Q E h A s o f re
 simp only[WC] at h
 exact wpAny_isTrue_BoolOp (uB hx h o f re)
theorem uD{es:List Expr}{pos:Pos}{xs:List B}(hx:Yg c n fs es xs):SB c n fs (.BoolOp .Or es pos) (.or xs):=by
 intro env Z O Q E h A s o f re
 simp only[WC] at h
 exact wpAny_isTrue_BoolOp (uC hx h o f re)
end
theorem Tt{K:Type}[DecidableEq K]{h:Heap}(f:K→V) (hf:∀a b,f a=f b→a=b){l:List (V×V)}{kvs:List (K×Value)}(e:l.map (·.1)=kvs.map (λq=>f q.1)) (r:j9 h (l.map (·.2)) (kvs.map (·.2)))
  {k:K}{v:V}{cv:Value}(hv:Rep h v cv):(dput l (f k) v).map (·.1)=(stored kvs k cv).map (λq=>f q.1)∧j9 h ((dput l (f k) v).map (·.2)) ((stored kvs k cv).map (·.2)):=by
 have hany:(l.any λp=>decide (p.1=f k))=(kvs.any λq=>decide (q.1=k)):=by
  clear r
  induction l generalizing kvs with
  | nil=>cases kvs with
   | nil=>rfl
   | cons _ _=>simp at e
  | cons p l ih=>cases kvs with
   | nil=>simp at e
   | cons q kvs =>
    simp only[List.map_cons,List.cons.injEq] at e
    simp only[List.any_cons,ih e.2,e.1]
    congr 1
    rw[Bool.eq_iff_iff]; simp only[decide_eq_true_eq]
    exact⟨hf _ _,λz=>by rw[z]⟩
 unfold dput stored
 rw[hany]
 split
 ·constructor
  ·have e1:∀l:List (V×V),(l.map (λp=>if p.1=f k then (p.1,v) else p)).map (·.1)=l.map (·.1):=λl=>by
    rw[List.map_map]; apply List.map_congr_left; intro p _; simp only[Function.comp]; split<;>rfl
   have e2:∀l:List (K×Value),(l.map (λp=>if p.1=k then (p.1,cv) else p)).map (λq=>f q.1)=l.map (λq=>f q.1):=λl=>by
    rw[List.map_map]; apply List.map_congr_left; intro p _; simp only[Function.comp]; split<;>rfl
   rw[e1,e2]; exact e
  ·rename_i hsome
   clear hany hsome
   induction l generalizing kvs with
   | nil=>cases kvs with
    | nil=>exact .nil
    | cons _ _=>simp at e
   | cons p l ih=>cases kvs with
    | nil=>simp at e
    | cons q kvs =>
     simp only[List.map_cons,List.cons.injEq] at e
     cases r with
     | cons r1 r2 =>
      refine .cons ?_ (ih e.2 r2)
      by_cases hq:q.1=k
      ·have:p.1=f k:=by rw[e.1,hq]
       simp[hq,this]; exact hv
      ·have:¬ p.1=f k:=λz=>hq (hf _ _ (e.1.symm.trans z))
       simp[hq,this]; exact r1
 ·constructor
  ·simp[e]
  ·rw[List.map_append,List.map_append]; exact j9.append r (.cons hv .nil)
theorem Yv{h:Heap}{l:List (V×V)}{xs:List (V×Addr×Value)}(e:l.map (·.1)=xs.map (·.1)) (r:j9 h (l.map (·.2)) (xs.map (·.2.2))){k:V}{v:V}{a:Addr}{cv:Value}(hv:Rep h v cv) :
  (dput l k v).map (·.1)=(storedH xs k a cv).map (·.1)∧j9 h ((dput l k v).map (·.2)) ((storedH xs k a cv).map (·.2.2)):=by
 have hany:(l.any λp=>decide (p.1=k))=(atKey xs k).isSome:=by
  clear r
  induction l generalizing xs with
  | nil=>cases xs with
   | nil=>simp[atKey]
   | cons _ _=>simp at e
  | cons p l ih=>cases xs with
   | nil=>simp at e
   | cons q xs =>
    simp only[List.map_cons,List.cons.injEq] at e
    by_cases hq:q.1=k
    ·simp[List.any_cons,e.1,hq,atKey,List.find?_cons]
    ·have:=ih e.2
     simp only[atKey,Option.isSome_map] at this
     simp[List.any_cons,e.1,hq,atKey,List.find?_cons,this]
 unfold dput storedH
 rw[hany]
 split
 ·constructor
  ·have e1:∀l:List (V×V),(l.map (λp=>if p.1=k then (p.1,v) else p)).map (·.1)=l.map (·.1):=λl=>by
    rw[List.map_map]; apply List.map_congr_left; intro p _; simp only[Function.comp]; split<;>rfl
   have e2:∀l:List (V×Addr×Value),(l.map (putAt k cv)).map (·.1)=l.map (·.1):=λl=>by
    rw[List.map_map]; apply List.map_congr_left; intro p _; simp only[Function.comp,putAt]; split<;>rfl
   rw[e1,e2]; exact e
  ·rename_i hsome
   clear hany hsome
   induction l generalizing xs with
   | nil=>cases xs with
    | nil=>exact .nil
    | cons _ _=>simp at e
   | cons p l ih=>cases xs with
    | nil=>simp at e
    | cons q xs =>
     simp only[List.map_cons,List.cons.injEq] at e
     cases r with
     | cons r1 r2 =>
      refine .cons ?_ (ih e.2 r2)
      by_cases hq:q.1=k
      ·have:p.1=k:=by rw[e.1,hq]
       simp[hq,this,putAt]; exact hv
      ·have:¬ p.1=k:=λz=>hq (e.1.symm.trans z)
       simp[hq,this,putAt]; exact r1
 ·constructor
  ·simp[e]
  ·rw[List.map_append,List.map_append]; exact j9.append r (.cons hv .nil)
section
variable {c:Cx}{n:Nat}{env:Env}{fs:FS}{Z:Loc}{O d9:a7}{Q:V→a7→Prop}{E:a7→Prop}{A:Around}{s f9:Shared}
theorem Em{E':Value→Shared→Prop}{R:Unit→Shared→Prop}{m:Sem Unit}{a:Addr}{l:List (V×V)}{k v:V}{ck cv:Value}(hl:O a=some (.dict l)) (hk:S5 k l) (hz:l.length≤1000000) (rk:Rep s.heap k ck) (rv:Rep s.heap v cv)
  (r:Rel c O s.heap)
  (m1:∀{K:Type}[DecidableEq K]{knd:PySem.KeyKind c.prog c.w K}{k:K}{kvs:List (K×Value)},knd.is k ck=true→s.heap.DictOf knd a kvs→kvs.length≤sizeLine →
   (∀h',h'.DictOf knd a (stored kvs k cv)→Heap.SameBut a s.heap h'→R () {s with heap:=h',toks:=s.toks+1})→wpAny (model c.prog c.w) A m R E' s)
  (m2:∀{b:Addr}{k:V}{xs:List (V×Addr×Value)},ck=.ref b→(O4 c.prog c.w).is s.heap k b→s.heap.DictOfH (O4 c.prog c.w) a xs→xs.length≤sizeLine →
   (∀h',h'.DictOfH (O4 c.prog c.w) a (storedH xs k b cv)→Heap.SameBut a s.heap h'→R () {s with heap:=h',toks:=s.toks+(O4 c.prog c.w).draws k})→wpAny (model c.prog c.w) A m R E' s)
  (h:∀h' tk,j6 c O (i8 O a (.dict (dput l k v))) (λ_=>False) s {s with heap:=h',toks:=tk}→R () {s with heap:=h',toks:=tk}):wpAny (model c.prog c.w) A m R E' s:=by
 have rd:Z0 c.prog c.w s.heap a l:=(r.3 _ _ hl).2
 rcases hk with⟨i,rfl,hk⟩ | ⟨i,rfl,hk⟩ | ⟨h8,t,rfl,hk⟩
 ·obtain⟨kvs,hd,e1,e2⟩:=U3 rd hk
  cases rk
  have hlen:kvs.length=l.length:=by have:=congrArg List.length e1; simpa using this.symm
  refine m1 (knd:=intKind c.prog c.w) (k:=i) (by simp[intKind,Value.isInt]) hd (by rw[hlen]; exact O7 hz) λh' hd' hs=>h h' _ (j6.change r hl (by simp[z5.like]) hs λki=>?_)
  obtain⟨g1,g2⟩:=Tt V.int (λa b e=>by cases e; rfl) e1 e2 (k:=i) rv
  exact .inl ⟨_,hd',g1,g2.mono ki⟩
 ·obtain⟨kvs,hd,e1,e2⟩:=Af rd hk
  cases rk
  have hlen:kvs.length=l.length:=by have:=congrArg List.length e1; simpa using this.symm
  refine m1 (knd:=PySem.strKind c.prog c.w) (k:=i) (by simp[PySem.strKind,Value.isStrOf]) hd (by rw[hlen]; exact O7 hz) λh' hd' hs=>h h' _ (j6.change r hl (by simp[z5.like]) hs λki=>?_)
  obtain⟨g1,g2⟩:=Tt V.str (λa b e=>by cases e; rfl) e1 e2 (k:=i) rv
  exact .inr (.inl ⟨_,hd',g1,g2.mono ki⟩)
 ·obtain⟨xs,hd,e1,e2⟩:=U4 rd (λp hp=>hk p hp)
  have hlen:xs.length=l.length:=by have:=congrArg List.length e1; simpa using this.symm
  cases rk with
  | @tup b _ _ ta tb =>
  refine m2 rfl ⟨.tup ta tb,h8⟩ hd (by rw[hlen]; exact O7 hz) λh' hd' hs=>h h' _ (j6.change r hl (by simp[z5.like]) hs λki=>?_)
  obtain⟨g1,g2⟩:=Yv e1 e2 (k:=.tup t) (a:=b) rv
  exact .inr (.inr ⟨_,hd',g1,g2.mono ki⟩)
theorem Ki.keyOk{l:List V}(h:Ki l){k:V}{d:List (V×V)}(hk:k∈l) (hd:∀p∈d,p.1∈l):S5 k d:=by
 rcases h with h | h | h
 ·exact .inl ((h k hk).imp λi e=>⟨e,λp hp=>h _ (hd p hp)⟩)
 ·exact .inr (.inl ((h k hk).imp λi e=>⟨e,λp hp=>h _ (hd p hp)⟩))
 ·exact .inr (.inr ⟨(h k hk).1,(h k hk).2.imp λt e=>⟨e,λp hp=>(h _ (hd p hp)).2⟩⟩)
theorem Wa{l:List (V×V)}{k v:V}:∀p∈dput l k v,p.1=k∨∃q∈l,q.1=p.1:=by
 intro p hp
 unfold dput at hp
 split at hp
 ·obtain⟨q,hq,e⟩:=List.mem_map.mp hp
  split at e
  ·rename_i hk; subst e; exact .inl hk
  ·subst e; exact .inr ⟨_,hq,rfl⟩
 ·rcases List.mem_append.mp hp with hp | hp
  ·exact .inr ⟨p,hp,rfl⟩
  ·simp at hp; subst hp; exact .inl rfl
theorem Nt{l:List (V×V)}{k v:V}:(dput l k v).length≤l.length+1:=by
 unfold dput; split<;>simp
inductive Yw(c:Cx) (n:Nat) (fs:FS):List (Option Expr)→List Expr→List X→Prop
 | nil:Yw c n fs [] [] []
 | cons {k v:Expr}{ks:List (Option Expr)}{vs:List Expr}{xk xv:X}{xs:List X}:SX c n fs k xk→SX c n fs v xv→Yw c n fs ks vs xs→Yw c n fs (some k::ks) (v::vs) (xk::xv::xs)
def pairsOf(env:Env) (pos:Pos):List (Option Expr)→List Expr→List (Sem Value×Sem Value)
 | some k::ks,v::vs=>(eval k env,do let x ←eval v env; standAt pos; pure x)::pairsOf env pos ks vs
 | _,_=>[]
theorem Yw.shape{pos:Pos}{ks:List (Option Expr)}{vs:List Expr}{xs:List X}(h:Yw c n fs ks vs xs) :
  (evalEachOpt ks env).zip ((evalEach vs env).map λv=>do let x ←v; standAt pos; pure x)=(pairsOf env pos ks vs).map λp=>(some p.1,p.2):=by
 induction h with
 | nil=>rfl
 | cons _ _ _ ih=>simp only[evalEachOpt,evalEach,evalOpt,List.map_cons,List.zip_cons_cons,pairsOf,ih]
theorem Yw.length{pos:Pos}{ks:List (Option Expr)}{vs:List Expr}{xs:List X}(h:Yw c n fs ks vs xs):(pairsOf env pos ks vs).length=vs.length:=by
 induction h with
 | nil=>rfl
 | cons _ _ _ ih=>simp[pairsOf,ih]
theorem Yw.eval{pos:Pos}{ks:List (Option Expr)}{vs:List Expr}{xs:List X}(h:Yw c n fs ks vs xs):∀{O:a7}{s:Shared}{Q:List V→a7→Prop},At c n env fs A d9 f9 Z O s→j0 c n xs Z O Q E →
  wpAny (model c.prog c.w) A (evalPairs (pairsOf env pos ks vs)) (λcs s'=>∃us b7,At c n env fs A d9 f9 Z b7 s'∧j6 c O b7 (λ_=>False) s s'∧j9 s'.heap ((z0 us).map (·.1)) (cs.map (·.1))∧j9 s'.heap ((z0 us).map (·.2)) (cs.map (·.2))∧cs.length=vs.length∧Q us b7) (EE c d9 f9 E) s:=by
 induction h with
 | nil =>
  intro O s Q a h
  simp only[j0] at h
  exact evalPairs_nil ⟨[],O,a,.refl a.rel,.nil,.nil,rfl,h⟩
 | cons hk hv _ ih =>
  intro O s Q a h
  simp only[j0] at h
  refine evalPairs_cons ((hk env Z O _ E h).at a λck vk d0 f7 j4 A2 u7 h=>?_)
  refine wpAny_bind ((hv env Z d0 _ E h).at j4 λcv vv o6 m9 m8 G7 N8 h=>wpAny_bind (wpAny_standAt (wpAny_pure ?_)))
  refine wpAny_mono (ih m8 h) (λcs S8 ⟨us,Nu,Z2,Rm,q1,q2,q3,q4⟩=>?_) λ_ _ e=>e
  exact⟨vk::vv::us,Nu,Z2,(A2.trans G7).trans Rm,.cons ((u7.post G7).post Rm) q1,.cons (N8.post Rm) q2,by simp[q3],q4⟩
theorem storeAll{a:Addr}:∀(cs:List (Value×Value)) (us:List (V×V)) (l:List (V×V)){O:a7}{s:Shared}{R:PUnit→Shared→Prop},At c n env fs A d9 f9 Z O s→O a=some (.dict l)→j9 s.heap (us.map (·.1)) (cs.map (·.1))→j9 s.heap (us.map (·.2)) (cs.map (·.2)) →
  Ki ((l++us).map (·.1))→l.length+cs.length≤1000→(∀s',At c n env fs A d9 f9 Z (i8 O a (.dict (G0 l us))) s'→R PUnit.unit s') →
  wpAny (model c.prog c.w) A (forIn cs PUnit.unit fun(x:Value×Value) (_:PUnit)=>(do dictSet a x.1 x.2; pure (ForInStep.yield PUnit.unit):Sem (ForInStep PUnit))) R (EE c d9 f9 E) s
 | [],us,l,O,s,R,ha,hl,r1,r2,hk,hz,h=>by
  have:us=[]:=by have:=r1.length; simp at this; exact this
  subst this
  rw[List.forIn_nil]
  refine wpAny_pure (h s ?_)
  have:i8 O a (.dict (G0 l []))=O:=by funext b; unfold i8 G0; split<;>simp_all
  rw[this]; exact ha
 | x::cs,us,l,O,s,R,ha,hl,r1,r2,hk,hz,h=>by
  cases us with
  | nil=>cases r1
  | cons u us =>
  cases r1 with
  | cons k1 r1 =>
  cases r2 with
  | cons k2 r2 =>
  rw[List.forIn_cons]
  simp only[List.length_cons] at hz
  refine wpAny_bind (wpAny_bind ?_)
  refine Em (v:=u.2) hl (hk.keyOk (k:=u.1) (by simp) λp hp=>by simp; exact .inl ⟨p.2,hp⟩) (by omega) k1 k2 ha.rel (λe1 e2 e3 e4=>wpAny_dictSet_pairs e1 e2 e4 e3) (λe0 e1 e2 e3 e4=>by
   have e0':x.1=_:=e0
   rw[e0']; exact wpAny_dictSet_heap (by have:=ha.units; show A.units+9 < cLine; omega) e1 e2 e4 e3) λh' tk p=>wpAny_pure ?_
  have j4:=ha.step p
  refine storeAll cs us (dput l u.1 u.2) j4 (by simp) (r1.mono p.Cm) (r2.mono p.Cm) ?_ (by have:=@Nt l u.1 u.2; omega) λs' a'=>h s' ?_
  ·have hsub:∀k∈(dput l u.1 u.2++us).map (·.1),k∈(l++u::us).map (·.1):=by
    intro k hk
    simp only[List.map_append,List.mem_append,List.map_cons,List.mem_cons] at hk ⊢
    rcases hk with hk | hk
    ·obtain⟨p,hp,rfl⟩:=List.mem_map.mp hk
     rcases Wa p hp with e | ⟨q,hq,e⟩
     ·exact .inr (.inl e)
     ·exact .inl (List.mem_map.mpr ⟨q,hq,e⟩)
    ·exact .inr (.inr hk)
   rcases hk with hk | hk | hk
   ·exact .inl λk q=>hk k (hsub k q)
   ·exact .inr (.inl λk q=>hk k (hsub k q))
   ·exact .inr (.inr λk q=>hk k (hsub k q))
  ·have:i8 (i8 O a (.dict (dput l u.1 u.2))) a (.dict (G0 (dput l u.1 u.2) us))=i8 O a (.dict (G0 l (u::us))):=by
    funext b; unfold i8; split<;>rfl
   rw[←this]; exact a'
theorem At.newDict(a:At c n env fs A d9 f9 Z O s){tk:Nat}:At c n env fs A d9 f9 Z (i8 O s.heap.objs.size (.dict [])) {s with heap:=s.heap.push {cls:=.type "dict",data:=.dict #[]},toks:=tk}∧O s.heap.objs.size=none:=by
 obtain⟨p,hn⟩:=j6.new (F:=λ_=>False) (tk:=tk) (o:=.dict []) (h':=s.heap.push {cls:=.type "dict",data:=.dict #[]}) a.rel (by simp[Heap.size_push]) (λa o e=>Heap.get?_push_of_some _ e) (Nat.le_refl _)
  (.inl ⟨[],⟨_,#[],0,Heap.get?_push_size _ rfl,⟨rfl,rfl,rfl⟩,rfl,λe he=>by simp at he,.nil,List.nodup_nil⟩,rfl,.nil⟩)
 exact⟨a.step p,hn⟩
theorem uE{ks:List (Option Expr)}{vs:List Expr}{pos:Pos}{xs:List X}(hs:Yw c n fs ks vs xs) (hl:vs.length≤15):SX c n fs (.Dict ks vs pos) (.dct xs):=by
 intro env Z O Q E h A s o f re
 simp only[WX] at h
 by_cases h0:vs=[]
 ·subst h0
  cases hs
  obtain⟨a,hn⟩:=(At.start o f re).newDict (tk:=s.toks)
  have:=h _ hn
  simp only[j0] at this
  refine wpAny_Dict_empty ⟨_,_,a.post,.ref _,?_⟩
  have e:i8 (i8 O s.heap.objs.size (.dict [])) s.heap.objs.size (.dict (G0 [] (z0 [])))=i8 O s.heap.objs.size (.dict []):=by
   funext b; unfold i8; split<;>rfl
  rw[←e]; exact this.2.2
 ·have hne:pairsOf env pos ks vs≠[]:=by
   intro e
   have:=hs.length (env:=env) (pos:=pos)
   rw[e] at this
   exact h0 (List.length_eq_zero_iff.mp this.symm)
  have hlen:=hs.length (env:=env) (pos:=pos)
  rw[arm_eval_Dict,hs.shape,dictDisplay_pairs _ hne (by rw[hlen]; omega)]
  refine wpAny_bind (wpAny_standAt (wpAny_bind ?_))
  unfold subDict
  obtain⟨a,hn⟩:=(At.start o f re).newDict (tk:=s.toks)
  refine wpAny_bind (wpAny_alloc ?_)
  refine wpAny_bind (wpAny_holding ?_)
  rw[if_pos (by rw[hlen]; omega)]
  refine wpAny_bind (wpAny_mono (hs.eval a (h _ hn)) (λcs f7 ⟨us,d0,j4,A2,q1,q2,q3,q4,q5,q6⟩=>?_) λ_ _ e=>e)
  refine wpAny_holding ?_
  refine wpAny_bind (storeAll cs (z0 us) [] j4 q4 q1 q2 (by simpa using q5) (by simp; omega) λs' a'=>wpAny_pure (wpAny_pure (wpAny_pure ?_)))
  exact⟨_,_,a'.post,.ref _,q6⟩
theorem slicePick_all(items:Array Value):slicePick items none none none=items:=by
 have:slicePick items none none none=slicePick items (some ((0:Nat):Int)) none none:=by
  have e:max (0:Int) (min 0 (items.size:Int))=0:=by omega
  simp[slicePick,sliceBounds,e]
 rw[this,slicePick_from']; simp
def En:Option Expr→Option Nat→Prop
 | none,x=>x=none
 | some (.Constant (.int i) _ _),x=>∃k:Nat,x=some k∧i=(k:Int)
 | _,_=>False
theorem Tu{e:Option Expr}{x:Option Nat}(h:En e x){R:Value→Shared→Prop}{E':Value→Shared→Prop}(hR:∀cv tk,(∀k,x=some k→∃t,cv=.int (k:Int) t)→(x=none→cv=.none)→IsPart cv (x.map λk=>(k:Int))→R cv {s with toks:=tk}) :
  wpAny (model c.prog c.w) A (evalPart e env) R E' s:=by
 unfold En at h
 split at h
 ·subst h
  exact wpAny_pure (hR .none s.toks (by simp) (λ_=>rfl) .none)
 ·obtain⟨k,rfl,rfl⟩:=h
  rw[evalPart_some]
  exact wpAny_Constant_int (hR _ _ (λk' e=>by cases e; exact⟨_,rfl⟩) (by simp) (.int ..))
 ·exact h.elim
theorem uF{e:Expr}{lo hi:Option Expr}{p pos:Pos}{x:X}{a b:Option Nat}(hx:SX c n fs e x) (ha:En lo a) (hb:En hi b) (ht:∀o r,letTemporaryGo e o r=pure ()) :
  SX c n fs (.Subscript e (.Slice lo hi none p) pos) (.slc x a b):=by
 intro env Z O Q E h A s o f re
 simp only[WX] at h
 have hh:=(hx env Z O _ E h) A s o f re
 rw[eval_Subscript]
 refine wpAny_bind ((hx env Z O _ E h).at (.start o f re) λco ov d0 f7 j4 A2 u7 h=>wpAny_bind (wpAny_holding ?_))
 refine wpAny_Slice (Tu ha λca tk ca1 ca2 ca3=>Tu hb λcb tk' cb1 cb2 cb3=>?_)
 rw[evalPart_none]
 refine wpAny_pure (wpAny_bind (wpAny_standAt ?_))
 have fin:∀{T id:String}{R:Value→Shared→Prop}{s':Shared},s'.TypeIs co T→typeLookup (.type T) "__getitem__"=pure (some (.builtin id))→wpAny (model c.prog c.w) A (getItem co (.ref f7.heap.objs.size)) R (EE c O s E) s' →
   wpAny (model c.prog c.w) A (do let r ←subscripted (.Slice lo hi none p) (←getitemInPython co) co (.ref f7.heap.objs.size); letTemporaryGo e co r; pure r) R (EE c O s E) s':=fun {T id R s'} hT hl hg=>by
  have fin:wpAny (model c.prog c.w) A (operate [.ref f7.heap.objs.size,co] (getItem co (.ref f7.heap.objs.size))) (λr S8=>wpAny (model c.prog c.w) A (letTemporaryGo e co r >>= λ_=>pure r) R (EE c O s E) S8) (EE c O s E) s' :=
   wpAny_operating (wpAny_mono hg (λr S8 Ks=>wpAny_bind (wpAny_of_eq (ht co r) (wpAny_pure Ks))) λ_ _ x=>x)
  refine wpAny_bind ?_
  rw[getitemInPython_of_ne hT.not_modules]
  refine wpAny_bind (wpAny_specialOf hT hl ?_)
  first
   | exact wpAny_pure (wpAny_bind fin)
   | exact wpAny_bind (wpAny_pure (wpAny_bind fin))
   | exact wpAny_bind fin
 have m8:At c n env fs A O s Z d0 {f7 with heap:=f7.heap.push {cls:=.type "slice",data:=.fields #[ca,cb,.none]},toks:=tk'} :=
  j4.step (j6.ext j4.rel (by simp[Heap.size_push]) λa o e=>Heap.get?_push_of_some _ e)
 have hsl:(f7.heap.push {cls:=.type "slice",data:=.fields #[ca,cb,.none]}).IsSliceOf f7.heap.objs.size ca cb .none:=Heap.IsSliceOf.new ..
 have lst:∀{ad:Addr}{ia:Array Value}{l:List V},co=.ref ad→(f7.heap.push {cls:=.type "slice",data:=.fields #[ca,cb,.none]}).IsList ad ia→j9 (f7.heap.push {cls:=.type "slice",data:=.fields #[ca,cb,.none]}) l ia.toList→l.length≤1000000→(a=none∨b=none) →
   (∀r,d0 r=none→Q (.ref r) (i8 d0 r (.list (cut l a b))))→wpAny (model c.prog c.w) A (do let r ←subscripted (.Slice lo hi none p) (←getitemInPython co) co (.ref f7.heap.objs.size); letTemporaryGo e co r; pure r) (QE c O s Q) (EE c O s E)
    {f7 with heap:=f7.heap.push {cls:=.type "slice",data:=.fields #[ca,cb,.none]},toks:=tk'}:=fun {ad ia l} he hli ra h2 h3 h=>by
  subst he
  have hz:=ra.size
  obtain⟨oL,hoL,hcL,_⟩:=id hli
  refine fin (T := "list") ⟨_,hoL,hcL⟩ slot_list_getitem.lookup (wpAny_getItem_list_slice hli hsl ca3 cb3 .none (by simp) ?_ (by rw[hz]; exact O7 h2))
  have hdrop:∀(k:Nat){l:List V}{cs:List Value}{hp:Heap},j9 hp l cs→j9 hp (l.drop k) (cs.drop k):=by
   intro k
   induction k with
   | zero=>intro l cs hp r; simpa using r
   | succ k ih=>intro l cs hp r; cases r with
    | nil=>simpa using j9.nil
    | cons a b=>simpa using ih b
  have Tv:∀(k:Nat){l:List V}{cs:List Value}{hp:Heap},j9 hp l cs→j9 hp (l.take k) (cs.take k):=by
   intro k
   induction k with
   | zero=>intro l cs hp r; simpa using j9.nil
   | succ k ih=>intro l cs hp r; cases r with
    | nil=>simpa using j9.nil
    | cons a b=>simpa using j9.cons a (ih b)
  have key:∃its:List Value,slicePick ia (a.map λk=>(k:Int)) (b.map λk=>(k:Int)) none=its.toArray∧j9 (f7.heap.push {cls:=.type "slice",data:=.fields #[ca,cb,.none]}) (cut l a b) its:=by
   cases a with
   | none=>cases b with
    | none=>exact⟨ia.toList,by simpa using slicePick_all ia,by simpa[cut] using ra⟩
    | some k=>exact⟨ia.toList.take k,slicePick_upto' ia k,by simpa[cut] using Tv k ra⟩
   | some k=>cases b with
    | none=>exact⟨ia.toList.drop k,slicePick_from' ia k,by simpa[cut] using hdrop k ra⟩
    | some k'=>simp at h3
  obtain⟨its,ei,ri⟩:=key
  rw[ei]
  exact QE.trans m8.post (QE.newList (items:=its) m8.rel ri (by simp[Heap.size_push]) (λa o e=>Heap.get?_push_of_some _ e) (Nat.le_refl _) ⟨0,Heap.get?_push_size _ rfl⟩ h)
 unfold eK at h
 split at h
 ·obtain⟨rfl,k,rfl,h1,h2,h3,h⟩:=h
  obtain⟨t,rfl⟩:=ca1 k rfl
  have:=cb2 rfl; subst this
  cases u7 with
  | @tup a' _ items ta tb =>
  have hz:=tb.size
  have ta':=TupAt.keepI ta (λb o e _=>Heap.get?_push_of_some {cls:=.type "slice",data:=.fields #[.int (k:Int) t,.none,.none]} e)
  obtain⟨nn,hnn⟩:=ta'
  refine fin (T := "tuple") ⟨_,hnn,rfl⟩ F.slot_tuple_getitem.lookup (getItem_tuple_from ⟨_,hnn,rfl,nn,rfl⟩ hsl h1 (by omega) ?_ (by rw[hz]; exact O7 h3))
  refine QE.trans m8.post (QE.newTuple (items:=(items.toList.drop k).toArray) (l:=_) m8.rel ?_ (by simp[Heap.size_push]) (λa o e=>Heap.get?_push_of_some _ e) ⟨0,Heap.get?_push_size _ rfl⟩ h)
  have:j9 (f7.heap.push {cls:=.type "slice",data:=.fields #[.int (k:Int) t,.none,.none]}) _ items.toList:=tb.mono (λb o e _=>Heap.get?_push_of_some _ e)
  have hdrop:∀(k:Nat){l:List V}{cs:List Value}{hp:Heap},j9 hp l cs→j9 hp (l.drop k) (cs.drop k):=by
   intro k
   induction k with
   | zero=>intro l cs hp r; simpa using r
   | succ k ih=>intro l cs hp r; cases r with
    | nil=>simpa using j9.nil
    | cons a b=>simpa using ih b
  simpa using hdrop k this
 ·obtain⟨l,h1,h2,h3,h⟩:=h
  cases u7 with
  | ref ad =>
  obtain⟨ia,⟨na,hia⟩,ra⟩:=(m8.rel.3 _ _ h1).2
  exact lst rfl ⟨_,hia,rfl,na,rfl⟩ ra h2 h3 h
 ·obtain⟨l,⟨items,hl,hr⟩,h2,h3,h⟩:=h
  cases u7
  obtain⟨ol,e1,e2⟩:=hl
  exact lst rfl ⟨ol,m8.rel.1 _ _ e1,e2⟩ (hr.mono λb o e _=>m8.rel.1 b o e) h2 h3 h
 ·exact h.elim
end
section
variable {c:Cx}{n:Nat}{env:Env}{fs:FS}{Z:Loc}{O d9:a7}{Q:V→a7→Prop}{E:a7→Prop}{A:Around}{F:Addr→Prop}{s f9:Shared}
theorem D4.junk(a:D4 c n env fs A F d9 f9 Z O s){I:Addr}{o:Obj}{vs:Array Value}{h':Heap}{tk:Nat}(hI:s.heap.get? I=some o) (hf:o.data=.fields vs) (hi:¬ Cj o) (hlo:Above f9.heap I) (hb:c.base.get? I=none)
  (hx:Heap.ExtBut I s.heap h'):D4 c n env fs A F d9 f9 Z O {s with heap:=h',toks:=tk}:=by
 have ki:x8 s.heap h':=λb x e im=>hx b x (by rintro rfl; rw[hI] at e; cases e; exact hi im) e
 have sJ:∀{b:Addr}{x:Obj},s.heap.get? b=some x→(∀vs,x.data≠.fields vs)→b≠I:=fun {b x} e h=>by rintro rfl; rw[hI] at e; cases e; exact h vs hf
 have rel:Rel c O h':=⟨λb x e=>hx b x (by rintro rfl; rw[hb] at e; cases e) (a.rel.1 b x e),a.rel.2,λb x e=>⟨(a.rel.3 b x e).1,by
  obtain⟨ob,h1,h2,_⟩:=(a.rel.3 b x e).2.shape
  exact(a.rel.3 b x e).2.move ((hx b ob (sJ h1 h2) h1).trans h1.symm) ki⟩⟩
 obtain⟨k1,k2,k3,l,k4,k5⟩:=a.ok
 refine⟨⟨k1,k2,k3,l,k4,k5.move (λ_ _ _ h=>h) λb x e ⟨es,ep,h⟩=>⟨x,hx b x (sJ e λvs q=>by rw[h] at q; cases q) e,es,ep,h⟩⟩,?_,rel,?_⟩
 ·have f:=a.G1
  refine⟨f.kind,f.names,f.glob,f.blt,f.x4,f.K5,?_,λx i h1 h2=>?_,f.apart⟩
  ·obtain⟨m,⟨o',es,ep,ho,hd,q⟩,hm⟩:=f.ns
   refine⟨m,⟨o',es,ep,hx _ _ (sJ ho λvs e=>by rw[hd] at e; cases e) ho,hd,q⟩,λx i v h1 h2 h3=>?_⟩
   obtain⟨cv,e1,e2⟩:=hm x i v h1 h2 h3
   exact⟨cv,e1,e2.mono ki⟩
  ·obtain⟨b,ov,h3,⟨o',ho,hd⟩,h5,h6,h7⟩:=f.cell x i h1 h2
   refine⟨b,ov,h3,⟨o',hx _ _ (sJ ho λvs e=>by rw[hd] at e; cases e) ho,hd⟩,h5,h6,λv hv=>?_⟩
   obtain⟨cv,e1,e2⟩:=h7 v hv
   exact⟨cv,e1,e2.mono ki⟩
 ·have p:=a.post
  refine⟨?_,rel,⟨λb x e=>?_,λb x e n=>?_⟩,p.Ck,p.fresh,p.Cm.trans ki,λb x e n=>?_⟩
  ·obtain⟨h1,t1,rfl⟩:=p.same
   exact⟨h',tk,rfl⟩
  ·obtain⟨x',e'⟩:=p.keep.1 b x e
   exact⟨x',hx b x' (by rintro rfl; exact hlo.not e) e'⟩
  ·obtain⟨⟨sl,e1⟩,e2⟩:=p.keep.2 b x e n
   have hb:b≠I:=by rintro rfl; exact hlo.not e
   exact⟨⟨sl,hx b _ hb e1⟩,λh=>hx b _ hb (e2 h)⟩
  ·obtain⟨x',e1,e2⟩:=p.nf b x e n
   exact⟨x',hx b x' (by rintro rfl; exact hlo.not e) e1,e2⟩
def O8(h:Heap) (I:Addr) (iv:V) (i:Nat):Prop:=match iv with
 | .tup l=>∃t items,h.IsTupleIter I t i∧TupAt h t items∧j9 h l items.toList
 | .rng lo hi=>IsRangeIter h I (lo+i) (hi - lo - i) 1
 | .str x=>∃t,h.IsStrIter I "str_ascii_iterator" x t i
 | .ref a=>h.IsListIter I a i
 | _=>False
theorem O8.obj{h:Heap}{I:Addr}{iv:V}{i:Nat}(x:O8 h I iv i):∃o vs,h.get? I=some o∧o.data=.fields vs∧¬ Cj o:=by
 have key:∀(o:Obj) (T:String) (vs:Array Value),h.get? I=some o→o.cls=.type T→T ≠ "tuple"→T ≠ "range"→o.data=.fields vs→∃o vs,h.get? I=some o∧o.data=.fields vs∧¬ Cj o:=λo T vs e e1 n1 n2 e2 =>
  ⟨o,vs,e,e2,λim=>by
   rcases im with⟨q,_⟩ | ⟨q,_⟩
   ·rw[e1] at q; cases q; exact n1 rfl
   ·rw[e1] at q; cases q; exact n2 rfl⟩
 unfold O8 at x
 split at x
 ·obtain⟨t,items,⟨o,e,e1,e2⟩,_⟩:=x
  exact key o _ _ e e1 (by decide) (by decide) e2
 ·exact key _ "range_iterator" _ x rfl (by decide) (by decide) rfl
 ·obtain⟨t,o,e,e1,e2⟩:=x
  exact key o _ _ e e1 (by decide) (by decide) e2
 ·obtain⟨o,e,e1,e2⟩:=x
  exact key o _ _ e e1 (by decide) (by decide) e2
 ·exact x.elim
theorem O8.keep{h h':Heap}{I:Addr}{iv:V}{i:Nat}(x:O8 h I iv i) (k:∀o,h.get? I=some o→h'.get? I=some o) (ki:x8 h h'):O8 h' I iv i:=by
 unfold O8 at x ⊢
 split at x
 ·obtain⟨t,items,⟨o,e,q⟩,h1,h2⟩:=x
  exact⟨t,items,⟨o,k o e,q⟩,h1.keepI ki,h2.mono ki⟩
 ·exact k _ x
 ·obtain⟨t,o,e,q⟩:=x
  exact⟨t,o,k o e,q⟩
 ·obtain⟨o,e,q⟩:=x
  exact⟨o,k o e,q⟩
 ·exact x.elim
theorem O8.post{d0:a7}{f7:Shared}{I:Addr}{iv:V}{i:Nat}(x:O8 s.heap I iv i) (p:j6 c O d0 F s f7) (hn:O I=none) (hF:¬ F I):O8 f7.heap I iv i:=by
 obtain⟨o,vs,e,hf,_⟩:=x.obj
 refine x.keep (λo' e'=>?_) p.Cm
 rw[e] at e'; cases e'
 exact(p.keep.2 I o e (by rintro(h | h); rw[hn] at h; cases h; exact hF h)).2 λes n q=>by rw[hf] at q; cases q
theorem O8.x4{I:Addr}{iv:V}{i:Nat}(x:O8 s.heap I iv i) (r:Rel c O s.heap):O I=none:=by
 obtain⟨o,vs,e,hf,_⟩:=x.obj
 cases q:O I with
 | none=>rfl
 | some ao =>
  obtain⟨ob,h1,h2,_⟩:=(r.3 I ao q).2.shape
  rw[e] at h1; cases h1; exact absurd hf (h2 vs)
theorem x5{I:Addr}(r:Rel c O s.heap) (h:Above s.heap I):c.base.get? I=none:=by
 cases q:c.base.get? I with
 | none=>rfl
 | some o=>exact h.not (r.1 I o q)
structure Rn(c:Cx) (f9 s:Shared) (I:Addr) (iv:V) (i:Nat):Prop where
 at_:O8 s.heap I iv i
 lo:Above f9.heap I
 base:c.base.get? I=none
theorem Tw{iv:V}{ci:Value}{l:List V}{R:Value→Shared→Prop}{E':Value→Shared→Prop}(a:D4 c n env fs A F d9 f9 Z O s) (hr:Rep s.heap iv ci) (hit:u6 iv O l)
  (h:∀I s',D4 c n env fs A F d9 f9 Z O s'→Rn c f9 s' I iv 0→R (.ref I) s'):wpAny (model c.prog c.w) A (pyIter ci) R E' s:=by
 have hI:Above s.heap s.heap.objs.size:=.of_le (Nat.le_refl _)
 have hI0:Above f9.heap s.heap.objs.size:=hI.back a.post.keep.1
 have at':∀o,D4 c n env fs A F d9 f9 Z O {s with heap:=s.heap.push o}:=λo=>a.step (j6.ext (tk:=s.toks) a.rel (by simp[Heap.size_push]) λb x e=>Heap.get?_push_of_some _ e)
 unfold u6 at hit
 split at hit
 ·cases hr with
  | @tup t _ items ta ra =>
  refine wpAny_pyIter_tuple ta.isTuple (h _ _ (at' _) ⟨⟨t,items,⟨_,Heap.get?_push_size _ rfl,rfl,rfl⟩,ta.keepI λb o e _=>Heap.get?_push_of_some _ e,ra.mono λb o e _=>Heap.get?_push_of_some _ e⟩,hI0,x5 a.rel hI⟩)
 ·rename_i lo hi
  obtain⟨h1,h2,h3,_⟩:=hit
  cases hr with
  | rng hx =>
  refine wpAny_pyIter_range hx (small_one (by omega) (by omega) (by omega) (by omega)) ?_
  have:Builtin.Range.rangeSize lo hi 1=hi - lo:=by
   unfold Builtin.Range.rangeSize; simp; omega
  refine h _ _ (at' _) ⟨?_,hI0,x5 a.rel hI⟩
  show IsRangeIter _ _ (lo+(0:Nat)) (hi - lo - (0:Nat)) 1
  rw[this]
  simp only[Int.natCast_zero,Int.add_zero,Int.sub_zero]
  exact Heap.get?_push_size _ rfl
 ·rename_i x
  cases hr with
  | str _ t =>
  refine wpAny_pyIter_ascii hit.1 (h _ _ (at' _) ⟨⟨t,_,Heap.get?_push_size _ rfl,rfl,rfl⟩,hI0,x5 a.rel hI⟩)
 ·rename_i ad
  cases hr
  split at hit
  ·rename_i x hx
   obtain⟨ia,⟨na,hia⟩,ra⟩:=(a.rel.3 _ _ hx).2
   exact wpAny_pyIter_list ⟨_,hia,rfl,na,rfl⟩ (h _ _ (at' _) ⟨⟨_,Heap.get?_push_size _ rfl,rfl,rfl⟩,hI0,x5 a.rel hI⟩)
  ·exact hit.elim
 ·exact hit.elim
theorem next_item{I:Addr}{iv:V}{i:Nat}{l:List V}{x:V}{R:Option Value→Shared→Prop}{E':Value→Shared→Prop}(a:D4 c n env fs A F d9 f9 Z O s) (it:Rn c f9 s I iv i) (hit:u6 iv O l) (hx:l[i]?=some x)
  (h:∀cv s',D4 c n env fs A F d9 f9 Z O s'→Rn c f9 s' I iv (i+1)→Rep s'.heap x cv→Heap.ExtBut I s.heap s'.heap→R (some cv) s'):wpAny (model c.prog c.w) A (pyNext (.ref I)) R E' s:=by
 obtain⟨o,vs,hI,hf,hi⟩:=it.at_.obj
 have at':∀{h':Heap}{tk:Nat},Heap.SameBut I s.heap h'→D4 c n env fs A F d9 f9 Z O {s with heap:=h',toks:=tk}:=fun {h' tk} hs=>a.junk hI hf hi it.lo it.base hs.extBut
 have ki:∀{h':Heap},Heap.SameBut I s.heap h'→x8 s.heap h':=fun {h'} hs b y e im=>(hs.2 b (by rintro rfl; rw[hI] at e; cases e; exact hi im)).trans e
 have it':=it.at_
 unfold u6 at hit
 unfold O8 at it'
 split at hit
 ·subst hit
  obtain⟨t,items,h1,h2,h3⟩:=it'
  obtain⟨cv,e1,e2⟩:=h3.get hx
  refine wpAny_pyNext_tuple_item h1 h2.isTuple (x:=cv) (by simpa using e1) λh' hn hs=>h cv _ (at' hs) ⟨⟨t,items,hn,h2.keepI (ki hs),h3.mono (ki hs)⟩,it.lo,it.base⟩ (e2.mono (ki hs)) hs.extBut
 ·rename_i lo hi'
  obtain⟨g1,g2,g3,rfl⟩:=hit
  have hlt:i < (hi' - lo).toNat:=by
   have:=(List.getElem?_eq_some_iff.mp hx).1
   simpa using this
  have hxv:x=.int (lo+i):=by
   simp[List.getElem?_map,List.getElem?_range hlt] at hx
   exact hx.symm
  subst hxv
  refine wpAny_pyNext_range_item it' (by omega) λh' hn hs=>h _ _ (at' hs) ⟨?_,it.lo,it.base⟩ (.int ..) hs.extBut
  show IsRangeIter _ _ (lo+((i+1:Nat):Int)) (hi' - lo - ((i+1:Nat):Int)) 1
  have e1:lo+(i:Int)+1=lo+((i+1:Nat):Int):=by omega
  have e2:hi' - lo - (i:Int) - 1=hi' - lo - ((i+1:Nat):Int):=by omega
  rw[←e1,←e2]; exact hn
 ·rename_i xs
  obtain⟨g1,rfl⟩:=hit
  obtain⟨t,h1⟩:=it'
  have:∃u,xs.cps[i]?=some u∧x=.str ⟨#[u]⟩:=by
   rw[List.getElem?_map] at hx
   obtain⟨u,e1,e2⟩:=Option.map_eq_some_iff.mp hx
   exact⟨u,by simpa using e1,e2.symm⟩
  obtain⟨u,e1,rfl⟩:=this
  exact wpAny_pyNext_ascii_item h1 e1 λh' hn hs=>h _ _ (at' hs) ⟨⟨t,hn⟩,it.lo,it.base⟩ (.str ..) hs.extBut
 ·rename_i ad
  split at hit
  ·rename_i y hy
   subst hit
   obtain⟨ia,⟨na,hia⟩,ra⟩:=(a.rel.3 _ _ hy).2
   obtain⟨cv,e1,e2⟩:=ra.get hx
   exact wpAny_pyNext_list_item it' ⟨_,hia,rfl,na,rfl⟩ (x:=cv) (by simpa using e1) λh' hn hs=>h cv _ (at' hs) ⟨hn,it.lo,it.base⟩ (e2.mono (ki hs)) hs.extBut
  ·exact hit.elim
 ·exact hit.elim
theorem next_end{I:Addr}{iv:V}{i:Nat}{l:List V}{R:Option Value→Shared→Prop}{E':Value→Shared→Prop}(a:D4 c n env fs A F d9 f9 Z O s) (it:Rn c f9 s I iv i) (hit:u6 iv O l) (hx:l[i]?=none)
  (h:∀s',D4 c n env fs A F d9 f9 Z O s'→Heap.ExtBut I s.heap s'.heap→R none s'):wpAny (model c.prog c.w) A (pyNext (.ref I)) R E' s:=by
 obtain⟨o,vs,hI,hf,hi⟩:=it.at_.obj
 have at':∀{h':Heap},Heap.ExtBut I s.heap h'→R none {s with heap:=h'}:=fun {h'} hs=>h _ (a.junk (tk:=s.toks) hI hf hi it.lo it.base hs) hs
 have hh:=a.ok.2.2.1
 have it':=it.at_
 unfold u6 at hit
 unfold O8 at it'
 split at hit
 ·subst hit
  obtain⟨t,items,h1,h2,h3⟩:=it'
  have:=h3.size
  exact wpAny_pyNext_tuple_end hh h1 h2.isTuple (by simp at hx ⊢; omega) λh' hs=>at' hs
 ·rename_i lo hi'
  obtain⟨g1,g2,g3,rfl⟩:=hit
  have hlt:(hi' - lo).toNat≤i:=by simpa using hx
  exact wpAny_pyNext_range_end hh it' (by omega) λh' hs=>at' hs
 ·rename_i xs
  obtain⟨g1,rfl⟩:=hit
  obtain⟨t,h1⟩:=it'
  exact wpAny_pyNext_ascii_end hh h1 (by simpa using hx) λh' hs=>at' hs
 ·rename_i ad
  split at hit
  ·rename_i y hy
   subst hit
   obtain⟨ia,⟨na,hia⟩,ra⟩:=(a.rel.3 _ _ hy).2
   have:=ra.size
   exact wpAny_pyNext_list_end hh it' ⟨_,hia,rfl,na,rfl⟩ (by simp at hx ⊢; omega) λh' hs=>at' hs
  ·exact hit.elim
 ·exact hit.elim
theorem Wb{I:Addr}{iv:V}{i:Nat}{R:Value→Shared→Prop}{E':Value→Shared→Prop}(it:O8 s.heap I iv i) (h:R (.ref I) s):wpAny (model c.prog c.w) A (pyIter (.ref I)) R E' s:=by
 unfold O8 at it
 split at it
 ·obtain⟨t,items,h1,_⟩:=it; exact wpAny_pyIter_tupleiter h1 h
 ·exact wpAny_pyIter_rangeiter it h
 ·obtain⟨t,h1⟩:=it; exact wpAny_pyIter_striter_ascii h1 h
 ·exact wpAny_pyIter_listiter it h
 ·exact it.elim
theorem Nv{t:Expr}{I:Addr}{iv:V}{i:Nat}{cv:Value}{R:Unit→Shared→Prop}{E':Value→Shared→Prop}(ht:(∃x p,t=.Name x p)∨∃es k p,t=.Tuple es k p) (it:O8 s.heap I iv i) (h:R () s) :
  wpAny (model c.prog c.w) A (letOwnedTupleGo t (.ref I) cv) R E' s:=by
 rcases ht with⟨x,p,rfl⟩ | ⟨es,k,p,rfl⟩
 ·exact wpAny_pure h
 ·cases cv with
  | ref T =>
   have key:∀(o:Obj) (ty:String) (vs:Array Value),s.heap.get? I=some o→o.cls=.type ty→(["enumerate", "zip", "dict_itemiterator", "dict_reverseitemiterator", "odict_iterator", "itertools.zip_longest", "itertools.pairwise"].contains ty)=false→o.data=.fields vs →
     wpAny (model c.prog c.w) A (letOwnedTupleGo (.Tuple es k p) (.ref I) (.ref T)) R E' s:=λo ty vs e e1 e2 e3=>by
    unfold letOwnedTupleGo
    refine wpAny_bind (wpAny_load e ?_)
    rw[e1,e3]
    dsimp only
    rw[e2,Bool.false_and]
    exact wpAny_pure h
   unfold O8 at it
   split at it
   ·obtain⟨t,items,⟨o,e,e1,e2⟩,_⟩:=it
    exact key o _ _ e e1 (by decide) e2
   ·exact key _ "range_iterator" _ it rfl (by decide) rfl
   ·obtain⟨t,o,e,e1,e2⟩:=it
    exact key o _ _ e e1 (by decide) e2
   ·obtain⟨o,e,e1,e2⟩:=it
    exact key o _ _ e e1 (by decide) e2
   ·exact it.elim
  | _=>exact wpAny_pure h
end
def Inj(fs:FS):Prop:=∀x y i,fs.res.lookup x=some i→fs.res.lookup y=some i→x=y
section
variable {c:Cx}{n:Nat}{env:Env}{fs:FS}{Z:Loc}{O d9:a7}{Q:V→a7→Prop}{E:a7→Prop}{A:Around}{F:Addr→Prop}{s f9:Shared}
theorem j6.grow{c:Cx}{O:a7}{F:Addr→Prop}{s:Shared}{h':Heap}{tk:Nat}(r:Rel c O s.heap) (k:∀a o,s.heap.get? a=some o→h'.get? a=some o) :
  j6 c O O F s {s with heap:=h',toks:=tk} :=
 ⟨⟨h',tk,rfl⟩,r.ext k,.ext (λb o e=>⟨o,k b o e⟩) λa o e _=>k a o e,λ_ o e=>⟨o,e,.refl o⟩,(λa h1 h2=>by rw[h2] at h1; cases h1),λa o e _=>k a o e,λb o e n=>⟨o,k b o e,n⟩⟩
theorem D4.Jb{R:Unit→Shared→Prop}{E':Value→Shared→Prop}(a:D4 c n env fs A F d9 f9 Z O s) (hi:Inj fs){x:Str}{i:Nat}{v:V}{cv:Value}(hx:fs.res.lookup x=some i) (hk:fs.sc.lookup x=some .local) (hF:F env.locals) (rv:Rep s.heap v cv)
  (h:∀s',D4 c n env fs A F d9 f9 (b6 Z i v) O s'→j6 c O O F s s'→Heap.SameBut env.locals s.heap s'.heap→R () s'):wpAny (model c.prog c.w) A (storeName env x cv) R E' s:=by
 have f:=a.G1
 have hko:env.kindOf x=some .local:=by unfold Env.kindOf; rw[f.names]; exact hk
 obtain⟨m,hn,hm⟩:=f.ns
 obtain⟨o,es,ep,ho,hd,_⟩:=id hn
 have jM:¬ Cj o:=λim=>by rcases im with⟨_,_,_,e⟩ | ⟨_,_,e,_⟩<;>rw[hd] at e<;>cases e
 refine wpAny_storeName_local hko hn (λh' hn' hs=>?_) (by rw[f.kind]; rfl)
 obtain⟨o',es',ep',ho',hd',_⟩:=id hn'
 have p:j6 c O O F s {s with heap:=h',toks:=s.toks+1}:=j6.own (tk:=s.toks+1) a.rel f.x4 f.K5 hF ho jM ho' (λ_=>⟨es',ep',hd'⟩) hs
 have ki:=p.Cm
 refine h _ ⟨a.ok.post p,⟨f.kind,f.names,f.glob,f.blt,f.x4,f.K5,⟨_,hn',λy j u h1 h2 h3=>?_⟩,λy j h1 h2=>?_,f.apart⟩,p.rel,a.post.trans p⟩ p hs
 ·by_cases hy:y=x
  ·subst hy
   rw[hx] at h1; cases h1
   simp[b6] at h2
   subst h2
   exact⟨cv,by simp,rv.mono ki⟩
  ·have hj:j≠i:=by rintro rfl; exact hy (hi _ _ _ h1 hx)
   simp[b6,hj] at h2
   obtain⟨cu,e1,e2⟩:=hm y j u h1 h2 h3
   exact⟨cu,by simp[hy,e1],e2.mono ki⟩
 ·obtain⟨b,ov,h3,⟨oc,hoc,hdc⟩,h5,h6,h7⟩:=f.cell y j h1 h2
  have hb:b≠env.locals:=by rintro rfl; rw[ho] at hoc; cases hoc; rw[hd] at hdc; cases hdc
  refine⟨b,ov,h3,⟨oc,(hs.2 b hb).trans hoc,hdc⟩,h5,h6,λu hu=>?_⟩
  have hy:y≠x:=by rintro rfl; rw[hko] at h2; rcases h2 with h2 | h2<;>cases h2
  have hj:j≠i:=by rintro rfl; exact hy (hi _ _ _ h1 hx)
  simp[b6,hj] at hu
  obtain⟨cu,e1,e2⟩:=h7 u hu
  exact⟨cu,e1,e2.mono ki⟩
theorem D4.Yx{R:Unit→Shared→Prop}{E':Value→Shared→Prop}(a:D4 c n env fs A F d9 f9 Z O s) (hi:Inj fs){x:Str}{i:Nat}{v:V}{cv:Value}(hx:fs.res.lookup x=some i) (hk:fs.sc.lookup x=some .local) (hF:F env.locals) (rv:Rep s.heap v cv)
  (h:∀s',D4 c n env fs A F d9 f9 (b6 Z i v) O s'→j6 c O O F s s'→R () s'):wpAny (model c.prog c.w) A (storeName env x cv) R E' s :=
 a.Jb hi hx hk hF rv λs' a' p _=>h s' a' p
theorem D4.setCell{R:Unit→Shared→Prop}{E':Value→Shared→Prop}(a:D4 c n env fs A F d9 f9 Z O s) (hi:Inj fs){x:Str}{i:Nat}{v:V}{cv:Value}(hx:fs.res.lookup x=some i) (hk:fs.sc.lookup x=some .cell)
  (hF:∀b,env.cells.lookup x=some b→F b) (rv:Rep s.heap v cv)
  (h:∀s',D4 c n env fs A F d9 f9 (b6 Z i v) O s'→j6 c O O F s s'→R () s'):wpAny (model c.prog c.w) A (storeName env x cv) R E' s:=by
 have f:=a.G1
 have hko:env.kindOf x=some .cell:=by unfold Env.kindOf; rw[f.names]; exact hk
 obtain⟨b,ov,h3,hc,h5,h6,_⟩:=f.cell x i hx (.inl hko)
 obtain⟨oc,hoc,hdc⟩:=id hc
 obtain⟨m,⟨o,es,ep,ho,hd,hq⟩,hm⟩:=f.ns
 have jM:¬ Cj oc:=λim=>by rcases im with⟨_,_,_,e⟩ | ⟨_,_,e,_⟩<;>rw[hdc] at e<;>cases e
 refine wpAny_storeName_cell f.kind hko h3 hc λh' hc' hs=>?_
 obtain⟨oc',uG,a2n⟩:=id hc'
 have p:j6 c O O F s {s with heap:=h'}:=j6.own (tk:=s.toks) a.rel h5 h6 (hF b h3) hoc jM uG (fun⟨es,ep,e⟩=>by rw[hdc] at e; cases e) hs
 have ki:=p.Cm
 have hl:env.locals≠b:=by rintro rfl; rw[ho] at hoc; cases hoc; rw[hd] at hdc; cases hdc
 refine h _ ⟨a.ok.post p,⟨f.kind,f.names,f.glob,f.blt,f.x4,f.K5,⟨m,⟨o,es,ep,(hs.2 _ hl).trans ho,hd,hq⟩,λy j u h1 h2 h4=>?_⟩,λy j h1 h2=>?_,f.apart⟩,p.rel,a.post.trans p⟩ p
 ·have hy:y≠x:=by rintro rfl; rw[hko] at h4; cases h4
  have hj:j≠i:=by rintro rfl; exact hy (hi _ _ _ h1 hx)
  simp[b6,hj] at h2
  obtain⟨cu,e1,e2⟩:=hm y j u h1 h2 h4
  exact⟨cu,e1,e2.mono ki⟩
 ·by_cases hy:y=x
  ·subst hy
   rw[hx] at h1; cases h1
   refine⟨b,_,h3,hc',h5,h6,λu hu=>?_⟩
   simp[b6] at hu; subst hu
   exact⟨cv,rfl,rv.mono ki⟩
  ·obtain⟨b',ov',g3,⟨o2,g4,g5⟩,g6,g7,g8⟩:=f.cell y j h1 h2
   have hb:b'≠b:=by rintro rfl; exact hy (f.apart _ _ _ g3 h3)
   refine⟨b',ov',g3,⟨o2,(hs.2 b' hb).trans g4,g5⟩,g6,g7,λu hu=>?_⟩
   have hj:j≠i:=by rintro rfl; exact hy (hi _ _ _ h1 hx)
   simp[b6,hj] at hu
   obtain⟨cu,e1,e2⟩:=g8 u hu
   exact⟨cu,e1,e2.mono ki⟩
def Own(fs:FS) (env:Env):Addr→Prop:=λa=>a=env.locals∨∃x i,fs.res.lookup x=some i∧fs.sc.lookup x=some .cell∧env.cells.lookup x=some a
def M8(fs:FS) (cl:Bool) (x:Str) (i:Nat):Prop:=fs.res.lookup x=some i∧(fs.sc.lookup x=some .local∨(cl=true∧fs.sc.lookup x=some .cell))
def Dj(fs:FS) (env:Env) (cl:Bool) (F:Addr→Prop):Prop:=F env.locals∧(cl=true→∀x i b,fs.res.lookup x=some i→fs.sc.lookup x=some .cell→env.cells.lookup x=some b→F b)
theorem Dj.own(fs:FS) (env:Env):Dj fs env true (Own fs env):=⟨.inl rfl,λ_ x i _ e1 e2 e=>.inr ⟨x,i,e1,e2,e⟩⟩
theorem D4.set{R:Unit→Shared→Prop}{E':Value→Shared→Prop}{cl:Bool}(a:D4 c n env fs A F d9 f9 Z O s) (hi:Inj fs){x:Str}{i:Nat}{v:V}{cv:Value}(hx:M8 fs cl x i) (hF:Dj fs env cl F) (rv:Rep s.heap v cv)
  (h:∀s',D4 c n env fs A F d9 f9 (b6 Z i v) O s'→j6 c O O F s s'→R () s'):wpAny (model c.prog c.w) A (storeName env x cv) R E' s:=by
 obtain⟨h1,h2 | ⟨h2,h3⟩⟩:=hx
 ·exact a.Yx hi h1 h2 hF.1 rv h
 ·exact a.setCell hi h1 h3 (λb hb=>hF.2 h2 x i b h1 h3 hb) rv h
inductive Eo(fs:FS) (cl:Bool):Expr→Tg→Prop
 | one {x:Str}{p:Pos}{i:Nat}:M8 fs cl x i→Eo fs cl (.Name x p) (.one i)
 | two {x y:Str}{p q r:Pos}{k:Nat}{i j:Nat}:M8 fs cl x i→M8 fs cl y j→Eo fs cl (.Tuple [.Name x p,.Name y q] k r) (.two i j)
theorem Eo.form{fs:FS}{cl:Bool}{t:Expr}{tg:Tg}(h:Eo fs cl t tg):(∃x p,t=.Name x p)∨∃es k p,t=.Tuple es k p:=by
 cases h
 ·exact .inl ⟨_,_,rfl⟩
 ·exact .inr ⟨_,_,_,rfl⟩
theorem D4.assign{R:Unit→Shared→Prop}{E':Value→Shared→Prop}{cl:Bool}{t:Expr}{tg:Tg}{K:Loc→Prop}(a:D4 c n env fs A F d9 f9 Z O s) (hi:Inj fs){v:V}{cv:Value}(ht:Eo fs cl t tg) (hF:Dj fs env cl F) (rv:Rep s.heap v cv)
  (hk:J7 tg v Z K) (h:∀i7 s',D4 c n env fs A F d9 f9 i7 O s'→j6 c O O F s s'→K i7→R () s'):wpAny (model c.prog c.w) A (PySem.assign t env cv) R E' s:=by
 cases ht with
 | one h1=>exact wpAny_assign_Name (a.set hi h1 hF rv λs' a' p=>h _ s' a' p hk)
 | two h1 h2 =>
  unfold J7 at hk
  split at hk
  ·simp_all
  ·rename_i _ _ i j u w e
   cases e
   cases rv with
   | @tup ad _ items ta ra =>
   cases hit:items with
   | mk li =>
   subst hit
   cases ra with
   | cons r1 r2 =>
   cases r2 with
   | cons r2 r3 =>
   cases r3
   refine wpAny_assign_Tuple a.ok.2.2.1 ta.isTuple rfl rfl λh' hx=>?_
   have p:j6 c O O F s {s with heap:=h',toks:=s.toks}:=j6.grow (tk:=s.toks) a.rel λb o e=>hx b o (Nat.ne_of_lt (Heap.lt_size e)) e
   have a1:D4 c n env fs A F d9 f9 Z O {s with heap:=h'}:=a.step (j6.grow (tk:=s.toks) a.rel λb o e=>hx b o (Nat.ne_of_lt (Heap.lt_size e)) e)
   refine wpAny_bind (wpAny_holding (wpAny_assign_Name (a1.set hi h1 hF (r1.mono p.Cm) λs1 a2 p2=>?_)))
   refine wpAny_bind (wpAny_holding (wpAny_assign_Name (a2.set hi h2 hF ((r2.mono p.Cm).mono p2.Cm) λs2 a3 p3=>?_)))
   exact wpAny_pure (h _ _ a3 ((p.trans p2).trans p3) hk)
  ·exact hk.elim
end
section
variable {c:Cx}{n:Nat}{env:Env}{fs:FS}{Z:Loc}{O d9:a7}{Q:V→a7→Prop}{E:a7→Prop}{A:Around}{F G':Addr→Prop}{s f9:Shared}
theorem Rel.junk{I:Addr}{o:Obj}{h h':Heap}(r:Rel c O h) (hI:h.get? I=some o) (hi:¬ Cj o) (hn:O I=none) (hb:c.base.get? I=none) (hx:Heap.ExtBut I h h'):Rel c O h':=by
 have ki:x8 h h':=λb x e im=>hx b x (by rintro rfl; rw[hI] at e; cases e; exact hi im) e
 refine⟨λb x e=>hx b x (by rintro rfl; rw[hb] at e; cases e) (r.1 b x e),r.2,λb x e=>⟨(r.3 b x e).1,?_⟩⟩
 obtain⟨ob,h1,h2,_⟩:=(r.3 b x e).2.shape
 exact(r.3 b x e).2.move ((hx b ob (by rintro rfl; rw[hn] at e; cases e) h1).trans h1.symm) ki
theorem j6.junk{I:Addr}{o:Obj}{h':Heap}{tk:Nat}(p:j6 c d9 O F f9 s) (hI:s.heap.get? I=some o) (hi:¬ Cj o) (hn:O I=none) (hb:c.base.get? I=none) (hlo:Above f9.heap I) (hx:Heap.ExtBut I s.heap h') :
  j6 c d9 O F f9 {s with heap:=h',toks:=tk}:=by
 have ki:x8 s.heap h':=λb x e im=>hx b x (by rintro rfl; rw[hI] at e; cases e; exact hi im) e
 refine⟨?_,p.rel.junk hI hi hn hb hx,⟨λb x e=>?_,λb x e n=>?_⟩,p.Ck,p.fresh,p.Cm.trans ki,λb x e n=>?_⟩
 ·obtain⟨h1,t1,rfl⟩:=p.same
  exact⟨h',tk,rfl⟩
 ·obtain⟨x',e'⟩:=p.keep.1 b x e
  exact⟨x',hx b x' (by rintro rfl; exact hlo.not e) e'⟩
 ·obtain⟨⟨sl,e1⟩,e2⟩:=p.keep.2 b x e n
  have hb:b≠I:=by rintro rfl; exact hlo.not e
  exact⟨⟨sl,hx b _ hb e1⟩,λh=>hx b _ hb (e2 h)⟩
 ·obtain⟨x',e1,e2⟩:=p.nf b x e n
  exact⟨x',hx b x' (by rintro rfl; exact hlo.not e) e1,e2⟩
theorem j6.narrow(p:j6 c d9 O F f9 s) (h:∀a,F a→G' a∨Above f9.heap a):j6 c d9 O G' f9 s :=
 {p with keep:=⟨p.keep.1,λa o e n=>p.keep.2 a o e λq=>q.elim (λq=>n (.inl q)) λq=>(h a q).elim (λq=>n (.inr q)) λq=>q.not e⟩}
theorem j6.adopt{D:Addr}{o:z5}(p:j6 c d9 O F f9 s) (h2:2 < D) (hD:Above f9.heap D) (hb:c.base.get? D=none) (hn:O D=none) (hr:Dh c.prog c.w s.heap D o):j6 c d9 (i8 O D o) F f9 s:=by
 have hn0:d9 D=none:=by
  cases e:d9 D with
  | none=>rfl
  | some x=>obtain⟨y,q,_⟩:=p.Ck D x e; rw[hn] at q; cases q
 refine⟨p.same,⟨p.rel.1,p.rel.2,λa x e=>?_⟩,p.keep,λa x e=>?_,λa h1 h2=>?_,p.Cm,p.nf⟩
 ·by_cases h:a=D
  ·subst h; rw[b9] at e; cases e; exact⟨⟨hb,h2⟩,hr⟩
  ·rw[i9 h] at e; exact p.rel.3 a x e
 ·have h:a≠D:=by rintro rfl; rw[hn0] at e; cases e
  obtain⟨y,q1,q2⟩:=p.Ck a x e
  exact⟨y,by rw[i9 h]; exact q1,q2⟩
 ·by_cases h:a=D
  ·subst h; exact hD
  ·rw[i9 h] at h1; exact p.fresh a h1 h2
theorem D4.iE(a:D4 c n env fs A F d9 f9 Z O s){I:Addr}{o:Obj}{h':Heap}{tk:Nat}(hI:s.heap.get? I=some o) (hi:¬ Cj o) (hn:O I=none) (hd:∀es ep,o.data≠.dict es ep) (hcell:∀v,o.data≠.cell v)
  (hlo:Above f9.heap I) (hb:c.base.get? I=none) (hx:Heap.ExtBut I s.heap h'):D4 c n env fs A F d9 f9 Z O {s with heap:=h',toks:=tk}:=by
 have ki:x8 s.heap h':=λb x e im=>hx b x (by rintro rfl; rw[hI] at e; cases e; exact hi im) e
 obtain⟨k1,k2,k3,l,k4,k5⟩:=a.ok
 refine⟨⟨k1,k2,k3,l,k4,k5.move (λ_ _ _ h=>h) λb x e h=>?_⟩,?_,a.rel.junk hI hi hn hb hx,a.post.junk hI hi hn hb hlo hx⟩
 ·have hbI:b≠I:=by rintro rfl; rw[hI] at e; cases e; obtain⟨es,ep,q⟩:=h; exact hd _ _ q
  exact⟨x,hx b x hbI e,h⟩
 ·have f:=a.G1
  refine⟨f.kind,f.names,f.glob,f.blt,f.x4,f.K5,?_,λx i h1 h2=>?_,f.apart⟩
  ·obtain⟨m,⟨o',es,ep,ho,hd',q⟩,hm⟩:=f.ns
   refine⟨m,⟨o',es,ep,hx _ _ (by intro z; rw[z,hI] at ho; cases ho; exact hd _ _ hd') ho,hd',q⟩,λx i v h1 h2 h3=>?_⟩
   obtain⟨cv,e1,e2⟩:=hm x i v h1 h2 h3
   exact⟨cv,e1,e2.mono ki⟩
  ·obtain⟨b,ov,h3,⟨o',ho,hd'⟩,h5,h6,h7⟩:=f.cell x i h1 h2
   refine⟨b,ov,h3,⟨o',hx _ _ (by intro z; rw[z,hI] at ho; cases ho; exact hcell _ hd') ho,hd'⟩,h5,h6,λv hv=>?_⟩
   obtain⟨cv,e1,e2⟩:=h7 v hv
   exact⟨cv,e1,e2.mono ki⟩
def E3:Tg→List Nat
 | .one i=>[i]
 | .two i j=>[i,j]
def C0(Z:Loc) (l:List Nat):Loc:=λj=>if j∈l then none else Z j
theorem Yy{tg:Tg}{v:V}{Z:Loc}{K:Loc→Prop}(h:J7 tg v Z K):J7 tg v (C0 Z (E3 tg)) K:=by
 cases tg with
 | one i =>
  have e:b6 (C0 Z [i]) i v=b6 Z i v:=by
   funext j; unfold b6 C0; split<;>rename_i hj
   ·rfl
   ·simp[hj]
  have h':K (b6 Z i v):=h
  show K (b6 (C0 Z [i]) i v)
  rw[e]; exact h'
 | two i j =>
  have e:∀x y,b6 (b6 (C0 Z [i,j]) i x) j y=b6 (b6 Z i x) j y:=by
   intro x y
   funext k; unfold b6 C0; split
   ·rfl
   ·rename_i hk
    split
    ·rfl
    ·rename_i hk'; simp[hk,hk']
  show J7 (.two i j) v (C0 Z [i,j]) K
  unfold J7 at h ⊢
  split at h
  ·rename_i q; cases q
  ·cases ‹Tg.two i j=_›
   simp only[e]; exact h
  ·exact h.elim
def C8(sc:List (Str×NameKind)) (names:List (Str×NameKind)):List (Str×NameKind) :=
 names.map fun(n,k)=>if (k == NameKind.free && sc.lookup n == some NameKind.cell) then (n,NameKind.cell) else (n,k)
def q9(fs:FS) (scope:Scope):FS:={sc:=C8 fs.sc scope.names,res:=fs.res}
structure I1(fs:FS) (scope:Scope) (tg:Tg):Prop where
 kind:scope.kind=.function
 Ro:∀x∈scope.names,x.2≠.cell
 names:∀x∈scope.names,x.2=.local→scope.names.lookup x.1=some .local
 free:∀x∈scope.names,x.2=.free→(fs.sc.lookup x.1=some .cell∨fs.sc.lookup x.1=some .free)∧(fs.res.lookup x.1).isSome=true
 locals:∀x i,(C8 fs.sc scope.names).lookup x=some .local→fs.res.lookup x=some i→i∈E3 tg
def Bo(cells:List (Str×Addr)):List (Str×NameKind)→List (Str×Addr)→List (Str×Addr)
 | [],acc=>acc
 | (x,k)::r,acc=>Bo cells r (if k=.free then (x,(cells.lookup x).getD 0)::acc else acc)
theorem Y7{scope:Scope}(h:∀x∈scope.names,x.2=.free→(env.cells.lookup x.1).isSome=true):closureFor scope env=pure (Bo env.cells scope.names []):=by
 unfold closureFor
 suffices hh:∀(l:List (Str×NameKind)) (acc:List (Str×Addr)),(∀x∈l,x.2=NameKind.free→(env.cells.lookup x.1).isSome=true) →
   (forIn l acc fun(x:Str×NameKind) (cs:List (Str×Addr))=>(if (x.2 == NameKind.free)=true then do let a ←cellOf env x.1; pure (ForInStep.yield ((x.1,a)::cs)) else pure (ForInStep.yield cs):Sem (ForInStep (List (Str×Addr)))))=pure (Bo env.cells l acc) by
  have:=hh scope.names [] h
  simpa using this
 intro l
 induction l with
 | nil=>intro acc _; simp[Bo]
 | cons x r ih =>
  intro acc hl
  obtain⟨y,k⟩:=x
  rw[List.forIn_cons]
  by_cases hk:k=.free
  ·subst hk
   obtain⟨a,ha⟩:=Option.isSome_iff_exists.mp (hl _ (.head _) rfl)
   have:cellOf env y=pure a:=by unfold cellOf; simp only at ha; rw[ha]
   simp only[beq_self_eq_true,if_true,this,pure_bind,Bo]
   simp only at ha
   rw[ha]
   exact ih _ λx hx=>hl x (.tail _ hx)
  ·have:(k == NameKind.free)=false:=by simpa using hk
   simp only[this,Bool.false_eq_true,if_false,pure_bind,Bo,if_neg hk]
   exact ih _ λx hx=>hl x (.tail _ hx)
theorem Q7{cells:List (Str×Addr)}:∀(l:List (Str×NameKind)) (acc:List (Str×Addr)),(∀x∈l,x.2=NameKind.free→(cells.lookup x.1).isSome=true)→(∀x a,acc.lookup x=some a→cells.lookup x=some a) →
  ∀x a,(Bo cells l acc).lookup x=some a→cells.lookup x=some a
 | [],acc,_,ha=>ha
 | (y,k)::r,acc,hl,ha=>by
  unfold Bo
  refine Q7 r _ (λx hx=>hl x (.tail _ hx)) λx a e=>?_
  split at e
  ·rename_i hk
   rw[List.lookup_cons] at e
   split at e
   ·rename_i hxy
    have hxy':x=y:=by simpa using hxy
    subst hxy'
    obtain⟨b,hb⟩:=Option.isSome_iff_exists.mp (hl _ (.head _) hk)
    simp only at hb
    rw[hb] at e ⊢; simpa using e
   ·exact ha x a e
  ·exact ha x a e
theorem Nw{cells:List (Str×Addr)}:∀(l:List (Str×NameKind)) (acc:List (Str×Addr)) (x:Str),(x,NameKind.free)∈l∨(acc.lookup x).isSome=true→((Bo cells l acc).lookup x).isSome=true
 | [],acc,x,h=>by rcases h with h | h; cases h; exact h
 | (y,k)::r,acc,x,h=>by
  unfold Bo
  refine Nw r _ x ?_
  by_cases hk:k=.free
  ·rw[if_pos hk,List.lookup_cons]
   rcases h with h | h
   ·cases h with
    | head=>simp
    | tail _ h=>exact .inl h
   ·right; split
    ·rfl
    ·exact h
  ·rw[if_neg hk]
   rcases h with h | h
   ·cases h with
    | head=>exact absurd rfl hk
    | tail _ h=>exact .inl h
   ·exact .inr h
theorem Nx{sc names:List (Str×NameKind)}{x:Str}(hn:∀x∈names,x.2≠.cell) (h:(C8 sc names).lookup x=some .cell∨(C8 sc names).lookup x=some .free):(x,NameKind.free)∈names:=by
 induction names with
 | nil=>simp[C8] at h
 | cons y r ih =>
  obtain⟨y,k⟩:=y
  unfold C8 at h ih
  rw[List.map_cons] at h
  have ih':=ih λx hx=>hn x (.tail _ hx)
  have hk:=hn _ (.head r)
  simp only at hk h
  by_cases hf:k=.free
  ·subst hf
   by_cases hxy:x=y
   ·subst hxy; exact .head _
   ·have hxy':(x == y)=false:=by simpa using hxy
    refine .tail _ (ih' ?_)
    split at h<;>simpa only[List.lookup_cons,hxy'] using h
  ·have hf':(k == NameKind.free)=false:=by simpa using hf
   simp only[hf',Bool.false_and,Bool.false_eq_true,if_false,List.lookup_cons] at h
   split at h
   ·simp at h; rcases h with h | h
    ·exact absurd h hk
    ·exact absurd h hf
   ·exact .tail _ (ih' h)
theorem Y6.weak{i7:Loc}{h:Heap}(f:Y6 c env fs Z O h) (k:∀j v,i7 j=some v→Z j=some v):Y6 c env fs i7 O h :=
 ⟨f.kind,f.names,f.glob,f.blt,f.x4,f.K5,let ⟨m,h1,h2⟩:=f.ns; ⟨m,h1,λx i v a b d=>h2 x i v a (k i v b) d⟩,
  λx i a b=>let ⟨a',ov,g1,g2,g3,g4,g5⟩:=f.cell x i a b; ⟨a',ov,g1,g2,g3,g4,λv hv=>g5 v (k i v hv)⟩,f.apart⟩
theorem Ag{elt target iter:Expr}{ifs:List Expr}{scope:Scope}{pos:Pos}{it acc:Value}{R:Result→Shared→Prop}(I:Nat→Shared→Prop)
  (turn:∀k s,I k s→wpAny (model c.prog c.w) A (pyNext it) (λr f7=>match r with
   | none=>R (.ok .next) f7
   | some v=>wpAny (model c.prog c.w) A (letOwnedTupleGo target it v) (λ_ f7=>wpAny (model c.prog c.w) A (PySem.assign target env v) (λ_ m9 =>
     wpAny (model c.prog c.w) A (forIn ifs true λe r=>if r=true then do let ok ←isTrue e env (eval e env); pure (ForInStep.yield ok) else pure (ForInStep.yield r)) (λok S8 =>
      if ok=true then wpAny (model c.prog c.w) A (eval elt env) (λx nR=>wpAny (model c.prog c.w) A (call (.builtin "list.append") [acc,x]) (λ_ Kt=>∃m,m < k∧I m Kt) (λ_ _=>False) nR) (λ_ _=>False) S8
      else ∃m,m < k∧I m S8) (λ_ _=>False) m9) (λ_ _=>False) f7) (λ_ _=>False) f7) (λ_ _=>False) s)
  (k:Nat) (h:I k s):codeAny (model c.prog c.w) A (.compLoop (.ListComp elt [⟨target,iter,ifs,0⟩] scope pos) 0 it acc env) R s:=by
 refine codeAny_loop rfl I (λk s hI=>?_) k h
 show wpAny _ A ((compTurn (.ListComp elt [⟨target,iter,ifs,0⟩] scope pos) 0 it acc env).onRaise (λx=>do noteFrame x env; theTreesLotGoes x)) _ _ s
 refine wpAny_noted (wpAny_mono (E:=λ_ _=>False) ?_ (λ_ _ q=>q) λ_ _ q=>q.elim)
 rw[compTurn_list]
 refine wpAny_bind (wpAny_standAt (wpAny_bind (wpAny_mono (turn k s hI) (λr f7 J8=>?_) λ_ _ h'=>h')))
 cases r with
 | none=>exact wpAny_pure J8
 | some v =>
  refine wpAny_bind (wpAny_mono J8 (λ_ f7 J8=>wpAny_bind (wpAny_mono J8 (λ_ m9 Wc=>wpAny_bind (wpAny_mono Wc (λok S8 Ks=>?_) λ_ _ h'=>h')) λ_ _ h'=>h')) λ_ _ h'=>h')
  cases ok with
  | false=>exact wpAny_pure ⟨rfl,Ks⟩
  | true=>exact wpAny_bind (wpAny_bind (wpAny_mono Ks (λx nR K7=>wpAny_bind (wpAny_mono K7 (λ_ Kt uH=>wpAny_pure (wpAny_pure ⟨rfl,uH⟩)) λ_ _ h'=>h')) λ_ _ h'=>h'))
theorem compTests{R:Bool→Shared→Prop}{es:List Expr}{xs:List B}(hx:Yg c n fs es xs):∀{O:a7}{s:Shared}{Q:Bool→a7→Prop},D4 c n env fs A F d9 f9 Z O s→M5 c n xs Z O Q (λ_=>False) →
  (∀b b7 s',D4 c n env fs A F d9 f9 Z b7 s'→j6 c O b7 (λ_=>False) s s'→Q b b7→R b s') →
  wpAny (model c.prog c.w) A (forIn es true λe r=>if r=true then do let ok ←isTrue e env (eval e env); pure (ForInStep.yield ok) else pure (ForInStep.yield r)) R (λ_ _=>False) s:=by
 have stop:∀(es:List Expr){s:Shared},R false s→wpAny (model c.prog c.w) A (forIn es false λe r=>if r=true then do let ok ←isTrue e env (eval e env); pure (ForInStep.yield ok) else pure (ForInStep.yield r)) R (λ_ _=>False) s:=by
  intro es
  induction es with
  | nil=>intro s h; rw[List.forIn_nil]; exact wpAny_pure h
  | cons e es ih =>
   intro s h
   rw[List.forIn_cons]
   simp only[Bool.false_eq_true,if_false,pure_bind]
   exact ih h
 induction hx with
 | nil =>
  intro O s Q a h hR
  simp only[M5] at h
  rw[List.forIn_nil]
  exact wpAny_pure (hR true O s a (.refl a.rel) h)
 | cons h1 _ ih =>
  intro O s Q a h hR
  simp only[M5] at h
  rw[List.forIn_cons]
  simp only[if_true]
  refine wpAny_bind (wpAny_bind (wpAny_mono (h1 env Z O _ _ h A s a.ok a.G1 a.rel) (λb f7 ⟨d0,p,q⟩=>?_) λ_ _ ⟨_,_,_,q⟩=>q))
  refine wpAny_pure ?_
  cases b with
  | true =>
   rw[if_pos rfl] at q
   exact ih (a.step p) q λb b7 s' a' p' q'=>hR b b7 s' a' (p.trans p') q'
  | false =>
   rw[if_neg (by simp)] at q
   exact stop _ (hR false d0 f7 (a.step p) p q)
end
section
variable {c:Cx}{n:Nat}{fs:FS}{Z:Loc}{O d9:a7}{Q:V→a7→Prop}{E:a7→Prop}{A:Around}{F G':Addr→Prop}{s f9:Shared}
theorem Y6.comp{env:Env}{scope:Scope}{tg:Tg}{C:Addr}{h h':Heap}(f:Y6 c env fs Z O h) (cs:I1 fs scope tg) (k:∀b o,h.get? b=some o→h'.get? b=some o) (hC:h'.Ns C λ_=>none) (hn:O C=none) (hb:c.base.get? C=none) :
  Y6 c {compEnvC scope (Bo env.cells scope.names []) C env with builtins:=env.builtins} (q9 fs scope) (C0 Z (E3 tg)) O h' where
 kind:=cs.kind
 names:=by
  show(relabel scope env).names=C8 fs.sc scope.names
  unfold relabel C8
  apply List.map_congr_left
  intro x _
  obtain⟨y,kd⟩:=x
  simp only[f.kind,Env.kindOf,f.names,beq_self_eq_true,Bool.and_true]
 glob:=f.glob
 blt:=f.blt
 x4:=hn
 K5:=hb
 ns:=⟨_,hC,λx i v h1 h2 h3=>by
  have hk:(C8 fs.sc scope.names).lookup x=some .local:=by
   have e:(relabel scope env).names=C8 fs.sc scope.names:=by
    unfold relabel C8
    apply List.map_congr_left
    intro x _
    obtain⟨y,kd⟩:=x
    simp only[f.kind,Env.kindOf,f.names,beq_self_eq_true,Bool.and_true]
   rw[←e]; exact h3
  have:=cs.locals x i hk h1
  simp[C0,this] at h2⟩
 cell:=λx i h1 h2=>by
  have e:(relabel scope env).names=C8 fs.sc scope.names:=by
   unfold relabel C8
   apply List.map_congr_left
   intro x _
   obtain⟨y,kd⟩:=x
   simp only[f.kind,Env.kindOf,f.names,beq_self_eq_true,Bool.and_true]
  have hfree:(x,NameKind.free)∈scope.names:=Nx cs.Ro (by rw[←e]; exact h2)
  have hf:∀y∈scope.names,y.2=NameKind.free→(env.cells.lookup y.1).isSome=true:=λy hy hyf=>by
   obtain⟨hk,hr⟩:=cs.free y hy hyf
   obtain⟨j,hj⟩:=Option.isSome_iff_exists.mp hr
   obtain⟨a,ov,g,_⟩:=f.cell y.1 j hj (by unfold Env.kindOf; rw[f.names]; exact hk)
   rw[g]; rfl
  obtain⟨hk,_⟩:=cs.free _ hfree rfl
  obtain⟨a,ov,g1,⟨o,g2,g3⟩,g4,g5,g6⟩:=f.cell x i h1 (by unfold Env.kindOf; rw[f.names]; exact hk)
  have ki:x8 h h':=λb o e _=>k b o e
  obtain⟨a',ha'⟩:=Option.isSome_iff_exists.mp (Nw (cells:=env.cells) scope.names [] x (.inl hfree))
  have:=Q7 scope.names [] hf (by simp) x a' ha'
  rw[g1] at this; cases this
  refine⟨a,ov,ha',⟨o,k _ _ g2,g3⟩,g4,g5,λv hv=>?_⟩
  have:Z i=some v:=by unfold C0 at hv; split at hv; cases hv; exact hv
  obtain⟨cv,q1,q2⟩:=g6 v this
  exact⟨cv,q1,q2.mono ki⟩
 apart:=λx y a h1 h2=>by
  have hf:∀y∈scope.names,y.2=NameKind.free→(env.cells.lookup y.1).isSome=true:=λy hy hyf=>by
   obtain⟨hk,hr⟩:=cs.free y hy hyf
   obtain⟨j,hj⟩:=Option.isSome_iff_exists.mp hr
   obtain⟨a,ov,g,_⟩:=f.cell y.1 j hj (by unfold Env.kindOf; rw[f.names]; exact hk)
   rw[g]; rfl
  exact f.apart x y a (Q7 scope.names [] hf (by simp) x a h1) (Q7 scope.names [] hf (by simp) y a h2)
theorem eQ{tg:Tg}{v:V}{Z:Loc}{K:Loc→Prop}(h:J7 tg v Z K):J7 tg v Z (λi7=>K i7∧∀j,j∉E3 tg→i7 j=Z j):=by
 cases tg with
 | one i=>exact⟨h,λj hj=>by simp[E3] at hj; simp[b6,hj]⟩
 | two i j =>
  unfold J7 at h ⊢
  split at h
  ·rename_i q; cases q
  ·cases ‹Tg.two i j=_›
   exact⟨h,λk hk=>by simp[E3] at hk; simp[b6,hk.1,hk.2]⟩
  ·exact h.elim
theorem j6.Ep{d0:a7}{f7:Shared}(p:j6 c O d0 F s f7){D:Addr}{o:Obj}(e:s.heap.get? D=some o) (hn:O D=none) (hF:¬ F D) (hd:∀es ep,o.data≠.dict es ep):f7.heap.get? D=some o :=
 (p.keep.2 D o e (by rintro(h | h); rw[hn] at h; cases h; exact hF h)).2 hd
structure CompEnd(c:Cx) (O:a7) (s:Shared) (Q:V→a7→Prop) (D C:Addr) (b7:a7) (s':Shared):Prop where
 post:j6 c O b7 (λa=>a=C) s s'
 ns:∃m,s'.heap.Ns C m
 Jc:Above s.heap C
 iF:c.base.get? C=none
 Yz:b7 C=none
 iG:Above s.heap D
 iH:c.base.get? D=none
 Tx:b7 D=none
 D2:2 < D
 DC:D≠C
 list:∃items acc,s'.heap.PlainList D items∧j9 s'.heap acc items.toList∧∀r,b7 r=none→Q (.ref r) (i8 b7 r (.list acc))
theorem Jd{elt t iter:Expr}{ifs:List Expr}{scope:Scope}{pos:Pos}{xe xi:X}{tg:Tg}{xs:List B}(hi:Inj fs) (hiter:SX c n fs iter xi) (U5:∀env x,foldedSetIterable iter env x=pure x) (cs:I1 fs scope tg)
  (he:SX c n (q9 fs scope) elt xe) (ht:Eo (q9 fs scope) false t tg) (hs:Yg c n (q9 fs scope) ifs xs){env:Env}{R:Value→Shared→Prop}{use:Option (Value→Sem Unit)}
  (h:WX c n (.comp xe tg xi xs) Z O Q E) (o:Ok c n A O s.heap) (f:Y6 c env fs Z O s.heap) (re:Rel c O s.heap)
  (fin:∀D C b7 s',CompEnd c O s Q D C b7 s'→compPost (model c.prog c.w) A (EE c O s E) use R (.ref D) C (.ok .next) s') :
  wpAny (model c.prog c.w) A (comprehension (.ListComp elt [⟨t,iter,ifs,0⟩] scope pos) scope env (firstIterPos [⟨t,iter,ifs,0⟩] pos) (newList []) false (firstIter [⟨t,iter,ifs,0⟩] env) use) R (EE c O s E) s:=by
 simp only[WX] at h
 have hf:∀y∈scope.names,y.2=NameKind.free→(env.cells.lookup y.1).isSome=true:=λy hy hyf=>by
  obtain⟨hk,hr⟩:=cs.free y hy hyf
  obtain⟨j,hj⟩:=Option.isSome_iff_exists.mp hr
  obtain⟨a,ov,g,_⟩:=f.cell y.1 j hj (by unfold Env.kindOf; rw[f.names]; exact hk)
  rw[g]; rfl
 refine wpAny_comprehension_free (use:=use) rfl (λx=>U5 env x) (Y7 hf) cs.kind cs.names ?_
 refine(hiter env Z O _ E h).at (.start o f re) λci iv d0 f7 j4 A2 u7 ⟨l,hit,hlen,hw⟩=>?_
 refine Tw j4 u7 hit λI m9 m8 S7=>?_
 refine wpAny_newObj_type ?_ (by size_fits)
 generalize hD:m9.heap.objs.size=D
 have k3:∀b o,m9.heap.get? b=some o→(m9.heap.push {cls:=.type "list",data:=.seq ([]:List Value).toArray}).get? b=some o:=λb o e=>Heap.get?_push_of_some _ e
 have I6:Above m9.heap D:=.of_le (by rw[hD]; exact Nat.le_refl _)
 have Za:Above s.heap D:=I6.back m8.post.keep.1
 have hD2:2 < D:=by
  obtain⟨b',h1,o',h2⟩:=m8.rel.2
  rw[←hD]; exact Nat.lt_trans h1 (Heap.lt_size (m8.rel.1 b' o' h2))
 have nS:c.base.get? D=none:=x5 m8.rel I6
 generalize uI:m9.heap.push {cls:=.type "list",data:=.seq ([]:List Value).toArray}=H3 at *
 have Ny:H3.PlainList D #[]:=⟨0,by rw[←uI,←hD]; exact Heap.get?_push_size _ rfl⟩
 refine wpAny_newFunctionEnv cs.Ro (by intro y hy; cases hy) (λK7 hns hsb=>?_) cs.kind
 generalize hC:H3.objs.size=C
 simp only[hC] at hns hsb ⊢
 have Q8:Above H3 C:=.of_le (by rw[hC]; exact Nat.le_refl _)
 have k4:∀b o,H3.get? b=some o→K7.get? b=some o:=λb o e=>(hsb.2 b (by rintro rfl; exact Q8.not e)).trans (Heap.get?_push_of_some _ e)
 have eB:∀b o,m9.heap.get? b=some o→K7.get? b=some o:=λb o e=>k4 b o (k3 b o e)
 have E4:Above m9.heap C:=Q8.back λb o e=>⟨o,k3 b o e⟩
 have jN:Above s.heap C:=E4.back m8.post.keep.1
 have hCb:c.base.get? C=none:=x5 m8.rel E4
 have hDC:D≠C:=by rintro rfl; obtain⟨nn,e⟩:=Ny; exact Q8.not e
 have p4:j6 c d0 d0 (λ_=>False) m9 {m9 with heap:=K7,toks:=m9.toks+0}:=j6.grow m8.rel eB
 have a4:=m8.step p4
 have J9:∀{b:Addr},Above m9.heap b→d0 b=none:=fun {b} hb=>by
  cases e:d0 b with
  | none=>rfl
  | some ao =>
   obtain⟨ob,q,_⟩:=(m8.rel.3 b ao e).2.shape
   exact hb.not q
 have Rp:K7.PlainList D #[]:=let ⟨nn,e⟩:=Ny; ⟨nn,k4 _ _ e⟩
 let cenv:Env:={compEnvC scope (Bo env.cells scope.names []) C env with builtins:=env.builtins}
 have fc:Y6 c cenv (q9 fs scope) (C0 Z (E3 tg)) d0 K7:=Y6.comp m8.G1 cs eB hns (J9 E4) hCb
 let F':Addr→Prop:=λa=>a=C
 have b4:D4 c n cenv (q9 fs scope) A F' O s (C0 Z (E3 tg)) d0 {m9 with heap:=K7,toks:=m9.toks+0}:=⟨a4.ok,fc,a4.rel,a4.post.Nn λ_ h=>h.elim⟩
 have nT:Rn c s {m9 with heap:=K7,toks:=m9.toks+0} I iv 0:=⟨S7.at_.keep (λo e=>eB I o e) λb o e _=>eB b o e,S7.lo,S7.base⟩
 have hIC:I≠C:=by obtain⟨_,_,e,_⟩:=S7.at_.obj; rintro rfl; exact E4.not e
 have hDI:D≠I:=by obtain⟨_,_,e,_⟩:=S7.at_.obj; rintro rfl; exact I6.not e
 have hi':Inj (q9 fs scope):=hi
 have hF:Dj (q9 fs scope) cenv false F':=⟨rfl,λh=>by cases h⟩
 let Inv:Nat→Shared→Prop:=λk s'=>∃i acc b7 items,k+i=l.length∧D4 c n cenv (q9 fs scope) A F' O s (C0 Z (E3 tg)) b7 s'∧Rn c s s' I iv i∧b7 D=none∧s'.heap.PlainList D items∧j9 s'.heap acc items.toList∧acc.length≤i ∧
  Np (λO=>u6 iv O l) (λx O K=>J7 tg x Z λi7=>M5 c n xs i7 O (λb O=>if b=true then WX c n xe i7 O (λv O=>K (some v) O) (λ_=>False) else K none O) (λ_=>False)) (l.drop i) acc b7 (λacc O=>∀r,O r=none→Q (.ref r) (i8 O r (.list acc)))
 have hstart:Inv l.length {m9 with heap:=K7,toks:=m9.toks+0}:=⟨0,[],d0,#[],by omega,b4,nT,J9 I6,Rp,.nil,by simp,by simpa using hw⟩
 have loop:∀k s',Inv k s'→codeAny (model c.prog c.w) A (.compLoop (.ListComp elt [⟨t,iter,ifs,0⟩] scope pos) 0 (.ref I) (.ref D) cenv) (compPost (model c.prog c.w) A (EE c O s E) use R (.ref D) C) s':=by
  intro k s' hk
  refine Ag Inv (λk s' hk=>?_) k hk
  obtain⟨i,acc,b7,items,hki,a,it,jO,uJ,hacc,hal,hcw⟩:=hk
  obtain⟨nn,nU⟩:=uJ
  have Nz:¬ Cj ({cls:=.type "list",data:=.seq items nn}:Obj):=λim=>by rcases im with⟨q,_⟩ | ⟨q,_⟩<;>simp at q
  cases hx:l[i]? with
  | none =>
   have hdrop:l.drop i=[]:=by simpa using hx
   rw[hdrop] at hcw
   obtain⟨hit',hq⟩:=hcw
   refine next_end a it hit' hx λKt S9 J6=>?_
   have Rq:=J6 D _ hDI nU
   have Oa:j9 Kt.heap acc items.toList:=hacc.mono λb o e im=>J6 b o (by obtain⟨_,_,e',_,e''⟩:=it.at_.obj; rintro rfl; rw[e'] at e; cases e; exact e'' im) e
   obtain⟨m,hm⟩:=S9.G1.ns
   exact fin D C b7 Kt ⟨S9.post,⟨m,hm.1⟩,jN,hCb,S9.G1.x4,Za,nS,jO,hD2,hDC,items,acc,⟨nn,Rq⟩,Oa,hq⟩
  | some x =>
   have hdrop:l.drop i=x::l.drop (i+1):=by
    obtain⟨h1,h2⟩:=List.getElem?_eq_some_iff.mp hx
    rw[List.drop_eq_getElem_cons h1,h2]
   rw[hdrop] at hcw
   obtain⟨hit',hq⟩:=hcw
   refine next_item a it hit' hx λcv Kt S9 M9 jP J6=>?_
   have Rq:=J6 D _ hDI nU
   have Oa:j9 Kt.heap acc items.toList:=hacc.mono λb o e im=>J6 b o (by obtain⟨_,_,e',_,e''⟩:=it.at_.obj; rintro rfl; rw[e'] at e; cases e; exact e'' im) e
   refine Nv ht.form M9.at_ ?_
   have hout:=eQ (Yy hq)
   refine S9.assign hi' ht hF jP hout λOb Dk Dl Rr ⟨hq,E0⟩=>?_
   have Oc:∀j v,C0 Z (E3 tg) j=some v→Ob j=some v:=λj v hj=>by
    rw[E0 j (by intro hm; simp[C0,hm] at hj)]; exact hj
   have hnd:∀es ep,({cls:=.type "list",data:=.seq items nn}:Obj).data≠.dict es ep:=λes ep e=>by cases e
   have Ku:=Rr.Ep Rq jO hDC hnd
   have Ah:=M9.at_.post Rr (M9.at_.x4 S9.rel) hIC
   refine compTests hs Dl hq λb Je nV N9 eR hq=>?_
   have jQ:=eR.Ep Ku jO (λh=>h) hnd
   have jR:=eR.O5 jO Ku
   have Jf:=Ah.post eR (Ah.x4 Dl.rel) (λh=>h)
   have iI:=(Oa.mono Rr.Cm).mono eR.Cm
   have hki:∃m,m < k∧m+(i+1)=l.length:=by
    have:=(List.getElem?_eq_some_iff.mp hx).1
    exact⟨k - 1,by omega,by omega⟩
   obtain⟨m,hmk,hmi⟩:=hki
   cases b with
   | false =>
    rw[if_neg (by simp)] at hq
    rw[if_neg (by simp)]
    exact⟨m,hmk,i+1,acc,Je,items,hmi,⟨N9.ok,N9.G1.weak Oc,N9.rel,N9.post⟩,⟨Jf,it.lo,it.base⟩,jR,⟨nn,jQ⟩,iI,by omega,hq⟩
   | true =>
    rw[if_pos rfl] at hq
    rw[if_pos rfl]
    refine wpAny_mono (he cenv Ob Je _ _ hq A nV N9.ok N9.G1 N9.rel) (λcx jS ⟨vx,iJ,Zb,uK,hq⟩=>?_) λ_ _ ⟨_,_,_,q⟩=>q
    have Wd:=N9.step Zb
    have jT:=Zb.Ep jQ jR (λh=>h) hnd
    have nW:=Zb.O5 jR jQ
    have nX:=Jf.post Zb (Jf.x4 N9.rel) (λh=>h)
    have iK:=iI.mono Zb.Cm
    have hsz:=iK.size
    refine wpAny_list_append_plain ⟨nn,jT⟩ (λZc hpl U7=>?_) (by rw[hsz]; exact O7 (by have:=(List.getElem?_eq_some_iff.mp hx).1; omega))
    obtain⟨n9,a2o⟩:=id hpl
    have Kv:D4 c n cenv (q9 fs scope) A F' O s Ob iJ {jS with heap:=Zc}:=Wd.iE (tk:=jS.toks) jT Nz nW hnd (λv e=>by cases e) Za nS U7.extBut
    have jU:x8 jS.heap Zc:=λb o e im=>(U7.2 b (by rintro rfl; rw[jT] at e; cases e; exact Nz im)).trans e
    refine⟨m,hmk,i+1,acc++[vx],iJ,items.push cx,hmi,⟨Kv.ok,Kv.G1.weak Oc,Kv.rel,Kv.post⟩,⟨nX.keep (λo e=>(U7.2 I (Ne.symm hDI)).trans e) jU,it.lo,it.base⟩,nW,hpl,?_,by simp; omega,hq⟩
    have:=j9.append (iK.mono jU) (.cons (uK.mono jU) .nil)
    simpa using this
 refine codeAny_compStart_list (loop _ _ hstart) (Wb nT.at_ (loop _ _ hstart))
theorem CompEnd.done{D C:Addr}{b7:a7}{s':Shared}(x:CompEnd c O s Q D C b7 s'){h':Heap}(hs:Heap.SameBut C s'.heap h'):QE c O s Q (.ref D) {s' with heap:=h'}:=by
 obtain⟨m,oC,eC,zJ,hoC,iL,_⟩:=x.ns
 obtain⟨items,acc,⟨nn,hD⟩,hacc,hq⟩:=x.list
 have Zd:¬ Cj oC:=λim=>by rcases im with⟨_,_,_,e⟩ | ⟨_,_,e,_⟩<;>rw[iL] at e<;>cases e
 have p6:=x.post.junk (tk:=s'.toks) hoC Zd x.Yz x.iF x.Jc hs.extBut
 have p7:j6 c O b7 (λ_=>False) s {s' with heap:=h'}:=p6.narrow λb hb=>.inr (by cases hb; exact x.Jc)
 have Ku:h'.get? D=some {cls:=.type "list",data:=.seq items nn}:=(hs.2 D x.DC).trans hD
 have Od:j9 h' acc items.toList:=hacc.mono λb o e im=>(hs.2 b (by rintro rfl; rw[hoC] at e; cases e; exact Zd im)).trans e
 have p8:=p7.adopt (o:=.list acc) x.D2 x.iG x.iH x.Tx ⟨items,⟨nn,Ku⟩,Od⟩
 exact⟨.ref D,_,p8,.ref D,hq D x.Tx⟩
theorem nY{elt t iter:Expr}{ifs:List Expr}{scope:Scope}{pos:Pos}{xe xi:X}{tg:Tg}{xs:List B}(hi:Inj fs) (hiter:SX c n fs iter xi) (U5:∀env x,foldedSetIterable iter env x=pure x) (cs:I1 fs scope tg)
  (he:SX c n (q9 fs scope) elt xe) (ht:Eo (q9 fs scope) false t tg) (hs:Yg c n (q9 fs scope) ifs xs):SX c n fs (.ListComp elt [⟨t,iter,ifs,0⟩] scope pos) (.comp xe tg xi xs):=by
 intro env Z O Q E h A s o f re
 rw[PySem.eval_ListComp]
 exact Jd hi hiter U5 cs he ht hs h o f re λD C b7 s' x=>let ⟨m,hm⟩:=x.ns; ⟨m,hm,λh' hs'=>x.done hs'⟩
end
section
variable {c:Cx}{n:Nat}{env:Env}{fs:FS}{Z:Loc}{O d9:a7}{Q:V→a7→Prop}{E:a7→Prop}{A:Around}{F:Addr→Prop}{s f9:Shared}
def Bp(A:Around) (env:Env) (L:Addr):Prop:=env.frame=some L∧∃outer,A.frames=some (env::outer)
theorem D4.hidden(a:D4 c n env fs A F d9 f9 Z O s) (hb:c.base.StaysIn f9.heap){l:List Env}(hfr:A.frames=some l){xs:List Addr}(hxs:∀b∈xs,Above f9.heap b∧∀o,s.heap.get? b=some o→¬ Cj o∧∃vs,o.data=.fields vs)
  {h':Heap}(st:(hideAll s.heap (xs++l.filterMap (·.frame))).StaysIn h') (up:∀b o,s.heap.get? b=some o→(∀vs,o.data≠.fields vs)→∃sl,h'.get? b=some {o with slots:=sl}) :
  D4 c n env fs A F d9 f9 Z O {s with heap:=h'}:=by
 obtain⟨k1,k2,k3,l',k4,k5⟩:=a.ok
 rw[hfr] at k4; cases k4
 have uL:∀{b:Addr},b∈l.filterMap (·.frame)→O b=none∧c.base.get? b=none∧∃o,s.heap.get? b=some o∧Ri o:=fun {b} hb=>by
  obtain⟨e,he,hf⟩:=List.mem_filterMap.mp hb
  obtain⟨_,L,o,h2,h3,h4,h5,h6⟩:=k5 e he
  rw[h2] at hf; cases hf; exact⟨h4,h3,o,h5,h6⟩
 have ex:∀{b:Addr}{o:Obj},s.heap.get? b=some o→b∉xs→b∉l.filterMap (·.frame)→h'.get? b=some o:=fun {b o} e n1 n2=>st b o (hideAll_get _ e λhm=>(List.mem_append.mp hm).elim n1 n2)
 have nZ:∀{b:Addr}{o:Obj},s.heap.get? b=some o→b∉xs→(¬ Ri o)→h'.get? b=some o:=fun {b o} e n1 n2=>ex e n1 λhm=>by
  obtain⟨_,_,o',e',hd⟩:=uL hm
  rw[e] at e'; cases e'; exact n2 hd
 have nx:∀{b:Addr}{o:Obj},s.heap.get? b=some o→(∀vs,o.data≠.fields vs)→b∉xs:=fun {b o} e hf hm=>by
  obtain⟨_,vs,q⟩:=(hxs b hm).2 o e; exact hf vs q
 have ki:x8 s.heap h':=λb o e im=>by
  refine nZ e (λhm=>((hxs b hm).2 o e).1 im) fun⟨es,ep,hd⟩=>?_
  rcases im with⟨_,_,_,q⟩ | ⟨_,_,q,_⟩<;>rw[hd] at q<;>cases q
 have rel:Rel c O h':=by
  refine⟨λb o e=>?_,a.rel.2,λb o e=>⟨(a.rel.3 b o e).1,?_⟩⟩
  ·refine ex (a.rel.1 b o e) (λhm=>(hxs b hm).1.not (hb b o e)) λhm=>?_
   obtain⟨_,q,_⟩:=uL hm
   rw[q] at e; cases e
  ·obtain⟨ob,h1,h2,_⟩:=(a.rel.3 b o e).2.shape
   refine(a.rel.3 b o e).2.move ((ex h1 (nx h1 h2) λhm=>?_).trans h1.symm) ki
   obtain⟨q,_⟩:=uL hm
   rw[q] at e; cases e
 have dd:∀{b:Addr}{o:Obj},s.heap.get? b=some o→Ri o→∃sl,h'.get? b=some {o with slots:=sl}:=fun {b o} e ⟨es,ep,hd⟩=>up b o e λvs q=>by rw[hd] at q; cases q
 refine⟨⟨k1,k2,k3,l,hfr,k5.move (λ_ _ _ h=>h) λb o e hd=>?_⟩,?_,rel,?_⟩
 ·obtain⟨sl,q⟩:=dd e hd
  obtain⟨es,ep,hd⟩:=hd
  exact⟨_,q,es,ep,hd⟩
 ·have f:=a.G1
  refine⟨f.kind,f.names,f.glob,f.blt,f.x4,f.K5,?_,λx i h1 h2=>?_,f.apart⟩
  ·obtain⟨m,⟨o',es,ep,ho,hd',q⟩,hm⟩:=f.ns
   obtain⟨sl,q'⟩:=dd ho ⟨es,ep,hd'⟩
   refine⟨m,⟨_,es,ep,q',hd',q⟩,λx i v h1 h2 h3=>?_⟩
   obtain⟨cv,e1,e2⟩:=hm x i v h1 h2 h3
   exact⟨cv,e1,e2.mono ki⟩
  ·obtain⟨b,ov,h3,⟨o',ho,hd'⟩,h5,h6,h7⟩:=f.cell x i h1 h2
   refine⟨b,ov,h3,⟨o',nZ ho (nx ho λvs q=>by rw[hd'] at q; cases q) (fun⟨es,ep,q⟩=>by rw[hd'] at q; cases q),hd'⟩,h5,h6,λv hv=>?_⟩
   obtain⟨cv,e1,e2⟩:=h7 v hv
   exact⟨cv,e1,e2.mono ki⟩
 ·have p:=a.post
  have nx0:∀{b:Addr}{o:Obj},f9.heap.get? b=some o→b∉xs:=fun {b o} e hm=>(hxs b hm).1.not e
  refine⟨?_,rel,⟨λb x e=>?_,λb x e n=>?_⟩,p.Ck,p.fresh,p.Cm.trans ki,λb x e n=>?_⟩
  ·obtain⟨h1,t1,rfl⟩:=p.same
   exact⟨h',_,rfl⟩
  ·obtain⟨x',e'⟩:=p.keep.1 b x e
   by_cases hd:Ri x'
   ·obtain⟨sl,q⟩:=dd e' hd; exact⟨_,q⟩
   ·exact⟨x',nZ e' (nx0 e) hd⟩
  ·obtain⟨⟨sl,e1⟩,e2⟩:=p.keep.2 b x e n
   refine⟨?_,λh=>?_⟩
   ·by_cases hd:Ri x
    ·obtain⟨sl',q⟩:=dd e1 hd; exact⟨sl',q⟩
    ·exact⟨sl,nZ e1 (nx0 e) hd⟩
   ·exact nZ (e2 h) (nx0 e) fun⟨es,ep,q⟩=>h es ep q
  ·obtain⟨x',e1,e2⟩:=p.nf b x e n
   obtain⟨sl',q⟩:=dd e1 e2
   obtain⟨es,ep,hd⟩:=e2
   exact⟨_,q,es,ep,hd⟩
theorem Oe{o:Obj}{C:Addr}(h:o.cls=.ref C):¬ Cj o:=λim=>by rcases im with⟨q,_⟩ | ⟨q,_⟩<;>rw[h] at q<;>cases q
theorem Q9{o:Obj}{vs:Array Value}{v:Value}(h:o.data=.fields vs) (h3:vs[3]?=some v):¬ Cj o:=λim=>by
 rcases im with⟨_,_,_,q⟩ | ⟨_,ws,q,hz⟩
 ·rw[h] at q; cases q
 ·rw[h] at q; cases q
  have:=(Array.getElem?_eq_some_iff.mp h3).1
  omega
theorem Dv.entry{lo h:Heap}{x:Addr}{vs:Array Value}:∀{k:Eh},Dv lo h x vs k→∃Ts:List Addr,(∀T∈Ts,Above lo T∧T≠x∧∀o,h.get? T=some o→¬ Cj o∧∃ts,o.data=.fields ts)∧(∀T,vs[1]?=some (.ref T)→T∈Ts)
 | .new,h=>⟨[],by simp,λT e=>by unfold Dv at h; rw[h] at e; cases e⟩
 | .left,⟨T,oT,ts,h1,h2,h3,h4,h5,h6⟩=>⟨[T],λT' hT=>by simp at hT; subst hT; exact⟨h2,h3,λo e=>by rw[h4] at e; cases e; exact⟨Q9 h5 h6,ts,h5⟩⟩,λT' e=>by rw[h1] at e; cases e; simp⟩
 | .held L,⟨T,oT,ts,h1,h2,h3,h4,h5,h6⟩=>⟨[T],λT' hT=>by simp at hT; subst hT; exact⟨h2,h3,λo e=>by rw[h4] at e; cases e; exact⟨Q9 h5 h6,ts,h5⟩⟩,λT' e=>by rw[h1] at e; cases e; simp⟩
theorem Of(a:D4 c n env fs A F d9 f9 Z O s){l:List Env}(hfr:A.frames=some l){x:Addr}{Ts:List Addr}(hx:Above f9.heap x) (hTs:∀T∈Ts,Above f9.heap T∧T≠x∧∀o,s.heap.get? T=some o→¬ Cj o∧∃ts,o.data=.fields ts)
  {h':Heap}(up:∀b o,s.heap.get? b=some o→(∀vs,o.data≠.fields vs)→∃sl,h'.get? b=some {o with slots:=sl}){a0 fl:Value}(ht:h'.TracedAtW (hideAll s.heap ((x::Ts)++l.filterMap (·.frame))) x (.ref c.k8) a0 fl) :
  ∃o vs,h'.get? x=some o∧o.cls=.ref c.k8∧o.data=.fields vs∧vs[0]?=some a0∧∃T oT ts,vs[1]?=some (.ref T)∧Above f9.heap T∧T≠x∧h'.get? T=some oT∧oT.data=.fields ts∧ts[3]?=some fl:=by
 obtain⟨oe,vs,T,oT,ts,he,⟨hcls,h0⟩,hd,h1,hnT,hTe,hT,hdT,h3⟩:=ht
 refine⟨oe,vs,he,hcls,hd,h0,T,oT,ts,h1,?_,hTe,hT,hdT,h3⟩
 show f9.heap.get? T=none
 cases e0:f9.heap.get? T with
 | none=>rfl
 | some o0 =>
  obtain⟨o1,e1⟩:=a.post.keep.1 T o0 e0
  have hm:T∈(x::Ts)++l.filterMap (·.frame):=Classical.byContradiction λhm=>by
   rw[hideAll_get _ e1 hm] at hnT; cases hnT
  rcases List.mem_append.mp hm with hm | hm
  ·rcases List.mem_cons.mp hm with rfl | hm
   ·exact absurd rfl hTe
   ·exact(hTs T hm).1.not e0
  ·obtain⟨_,_,_,l',k4,k5⟩:=a.ok
   rw[hfr] at k4; cases k4
   obtain⟨e,he',hf⟩:=List.mem_filterMap.mp hm
   obtain⟨_,L,o,h2,_,_,h5,es,ep,h6⟩:=k5 e he'
   rw[h2] at hf; cases hf
   obtain⟨sl,q⟩:=up T o h5 λvs q=>by rw[h6] at q; cases q
   rw[hT] at q; cases q
   rw[h6] at hdT; cases hdT
theorem Kw{R:Unit→Shared→Prop}{E':Value→Shared→Prop}(a:D4 c n env fs A F d9 f9 Z O s) (hb:c.base.StaysIn f9.heap){L:Addr}(ht:Bp A env L){k:Eh}{ev:Value}(hk:k=.new∨k=.left∨k=.held L) (hx:ExcAt c f9.heap k ev s.heap)
  (h:∀h',D4 c n env fs A F d9 f9 Z O {s with heap:=h'}→ExcAt c f9.heap (.held L) ev h'→R () {s with heap:=h'}):wpAny (model c.prog c.w) A (noteFrame ev env) R E' s:=by
 obtain⟨x,o,vs,a0,rfl,h2,h3,h4,h5,h6,h7⟩:=hx
 obtain⟨hf,outer,hfr⟩:=ht
 obtain⟨Ts,hTs,hT1⟩:=h7.entry
 have hk5:FF c O s.heap (env::outer):=by obtain⟨_,_,_,l',k4,k5⟩:=a.ok; rw[hfr] at k4; cases k4; exact k5
 have hxs:∀b∈x::Ts,Above f9.heap b∧∀o,s.heap.get? b=some o→¬ Cj o∧∃vs,o.data=.fields vs:=λb hb=>by
  rcases List.mem_cons.mp hb with rfl | hb
  ·exact⟨h2,λo' e=>by rw[h3] at e; cases e; exact⟨Oe h4,vs,h5⟩⟩
  ·exact⟨(hTs b hb).1,(hTs b hb).2.2⟩
 let B:=hideAll s.heap ((x::Ts)++(env::outer).filterMap (·.frame))
 have st:B.StaysIn s.heap:=λb o e=>of_hideAll _ e
 have zK:B.get? x=none:=hideAll_none _ (by simp)
 have hl:s.heap.FunFrames B (env::outer):=hk5.fun λL' hL'=>hideAll_none _ (List.mem_append_right _ hL')
 have fin:∀h',Heap.NotedW B (env::outer) x (.ref c.k8) a0 (rawInt L) s.heap h'→R () {s with heap:=h'}:=λh' ⟨q1,q2,q3,q4⟩=>by
  refine h h' (a.hidden hb hfr hxs q1 q4) ?_
  obtain⟨o',vs',g1,g2,g3,g4,g5⟩:=Of a hfr h2 hTs q4 q3
  exact⟨x,o',vs',a0,rfl,h2,g1,g2,g3,g4,g5⟩
 rcases hk with rfl | rfl | rfl
 ·have h1:vs[1]?=some .none:=h7
  unfold noteFrame
  simp only[hf]
  refine wpAny_bind (wpAny_field h3 h5 h1 ?_)
  rw[if_neg (by decide)]
  refine wpAny_entryW hfr hl hf h3 st zK h5 (Array.getElem?_eq_some_iff.mp h1).1 h6 λh' q=>fin h' ?_
  rw[h4] at q; exact q
 ·obtain⟨T,oT,ts,g1,g2,g3,g4,g5,g6⟩:=h7
  exact wpAny_noteFrame_onW hfr hl hf ⟨o,vs,T,oT,ts,h3,⟨h4,h6⟩,h5,g1,hideAll_none _ (List.mem_append_left _ (.tail _ (hT1 T g1))),g3,g4,g5,g6⟩ st zK fin
 ·obtain⟨T,oT,ts,g1,g2,g3,g4,g5,g6⟩:=h7
  refine wpAny_noteFrame_againW (base:=B) hf ⟨o,vs,T,oT,ts,h3,⟨h4,h6⟩,h5,g1,hideAll_none _ (List.mem_append_left _ (.tail _ (hT1 T g1))),g3,g4,g5,g6⟩ ?_
  exact h s.heap a ⟨x,o,vs,a0,rfl,h2,h3,h4,h5,h6,T,oT,ts,g1,g2,g3,g4,g5,g6⟩
theorem X6{R:Unit→Shared→Prop}{E':Value→Shared→Prop}(a:D4 c n env fs A F d9 f9 Z O s){k:Eh}{ev:Value}(hk:k=.left∨∃L,k=.held L) (hx:ExcAt c f9.heap k ev s.heap) (hb:c.base.StaysIn f9.heap) (to:Option Addr)
  {B:Around}(h:∀h',D4 c n env fs A F d9 f9 Z O {s with heap:=h'}→ExcAt c f9.heap (to.elim .left .held) ev h'→R () {s with heap:=h'}):wpAny (model c.prog c.w) B (setFlight ev to) R E' s:=by
 obtain⟨x,o,vs,a0,rfl,h2,h3,h4,h5,h6,h7⟩:=hx
 have:∃T oT ts fl,vs[1]?=some (.ref T)∧Above f9.heap T∧T≠x∧s.heap.get? T=some oT∧oT.data=.fields ts∧ts[3]?=some fl:=by
  rcases hk with rfl | ⟨L,rfl⟩
  ·obtain⟨T,oT,ts,g⟩:=h7; exact⟨T,oT,ts,_,g⟩
  ·obtain⟨T,oT,ts,g⟩:=h7; exact⟨T,oT,ts,_,g⟩
 obtain⟨T,oT,ts,fl,g1,g2,g3,g4,g5,g6⟩:=this
 have hsz3:3 < ts.size:=(Array.getElem?_eq_some_iff.mp g6).1
 unfold setFlight
 refine wpAny_bind (wpAny_field h3 h5 g1 ?_)
 rw[if_pos (show(Value.ref T != Value.none)=true from by simp)]
 have hd':=Obj.data_mapFields g5 (·.setIfInBounds 3 (to.elim Value.none λf=>rawInt f))
 have hT':=Heap.get?_update_self (Obj.mapFields (·.setIfInBounds 3 (to.elim Value.none λf=>rawInt f))) g4 (Obj.isFreed_of_fields hd')
 refine wpAny_setField g4 g5 hsz3 (h _ (a.junk (tk:=s.toks) g4 g5 (Q9 g5 g6) g2 ?_ (Heap.SameBut.update ..).extBut) ?_)
 ·cases q:c.base.get? T with
  | none=>rfl
  | some ob=>exact g2.not (hb T ob q)
 ·refine⟨x,o,vs,a0,rfl,h2,(Heap.get?_update_other _ _ g3).trans h3,h4,h5,h6,?_⟩
  cases to with
  | none=>exact⟨T,_,_,g1,g2,g3,hT',hd',by simp[hsz3]⟩
  | some L=>exact⟨T,_,_,g1,g2,g3,hT',hd',by simp[hsz3]⟩
theorem Ze{R:Unit→Shared→Prop}{E':Value→Shared→Prop}(a:D4 c n env fs A F d9 f9 Z O s) (hb:c.base.StaysIn f9.heap){L:Addr}(ht:Bp A env L){k:Eh}{ev:Value}(hk:k=.new∨k=.left∨k=.held L) (hx:ExcAt c f9.heap k ev s.heap)
  (h:∀h',D4 c n env fs A F d9 f9 Z O {s with heap:=h'}→ExcAt c f9.heap .left ev h'→R () {s with heap:=h'}):wpAny (model c.prog c.w) A (leaving env ev) R E' s:=by
 unfold leaving
 refine wpAny_bind (Kw a hb ht hk hx λh' a' hx'=>?_)
 exact X6 a' (.inr ⟨L,rfl⟩) hx' hb none λh'' a'' hx''=>h h'' a'' hx''
end
section
variable {c:Cx}{n:Nat}{env:Env}{fs:FS}{Z:Loc}{O d9:a7}{Q:V→a7→Prop}{E:a7→Prop}{A:Around}{F:Addr→Prop}{s f9:Shared}
theorem Jg{w:World}{h:Heap}{name:Str}{v:V}{cv:Value}{t:Tok}(rv:Rep h v cv):∀{es:List DictEntry}{l:List (Str×V)},M6 w h es l→M6 w h (putL name (PyData.keyHash w.params name) (.str name t) cv es) (J3 l name v)
 | _,_,.nil=>.cons rv .nil
 | _,_,.cons (x:=x) (t:=t') (c:=cx) (v:=vx) (es:=es) (l:=l) a b=>by
  by_cases e:x=name
  ·subst e
   simp only[putL,J3,Value.isStr,beq_self_eq_true,if_true]
   exact .cons rv b
  ·have e1:(x == name)=false:=by simpa using e
   simp only[putL,J3,Value.isStr,e1,Bool.false_eq_true,if_false,if_neg e]
   exact .cons a (Jg rv b)
theorem Ai{w:World}{h:Heap}:∀{es:List DictEntry}{l:List (Str×V)},M6 w h es l→es.any (·.refKey)=false
 | _,_,.nil=>rfl
 | _,_,.cons (x:=x) (t:=t) a b=>by
  rw[List.any_cons,Ai b]; rfl
theorem Aj{w:World}{h:Heap}:∀{es:List DictEntry}{l:List (Str×V)},M6 w h es l→es.length=l.length
 | _,_,.nil=>rfl
 | _,_,.cons a b=>by simp[Aj b]
theorem M6.mono{w:World}{h h':Heap}(k:x8 h h'):∀{es:List DictEntry}{l:List (Str×V)},M6 w h es l→M6 w h' es l
 | _,_,.nil=>.nil
 | _,_,.cons a b=>.cons (a.mono k) (M6.mono k b)
theorem U8(name:Str) (hsh:Int) (key v:Value):∀es:List DictEntry,(putL name hsh key v es).length≤es.length+1
 | []=>by simp[putL]
 | e::r=>by unfold putL; split<;>simp; exact U8 name hsh key v r
theorem eS(G:Good c){R:Unit→Shared→Prop}{E':Value→Shared→Prop}{o v:V}{co cv:Value}{name:Str}{K:a7→Prop}(ro:Rep s.heap o co) (rv:Rep s.heap v cv) (r:Rel c O s.heap) (h:jG c o name v O K)
  (hR:∀b7 h' tk,j6 c O b7 (λ_=>False) s {s with heap:=h',toks:=tk}→K b7→R () {s with heap:=h',toks:=tk}):wpAny (model c.prog c.w) A (setAttr co name cv) R E' s:=by
 obtain⟨a,C,dx,l,rfl,h1,h2,hz,⟨p1,p2,p3,p4⟩,hK⟩:=h
 cases ro
 have X:c.K.In s.heap:=G.KX.keeps r.stays
 obtain⟨es,nn,I,N,D⟩:=Kp r h1 h2
 refine set_plain X I p1 (osa_open X (s:={s with toks:=s.toks+1}) I p2 p3 λb=>?_)
 have X':c.K.In ({s with toks:=s.toks+1}:Shared).heap:=X
 obtain⟨cd,hc,hd'⟩:=any_some p4
 obtain⟨hx,hcl,hn,-⟩:=I
 refine wpAny_bind (wpAny_pure (wpAny_bind (wpAny_bind (wpAny_loadPart hx (wpAny_bind ((looks_clsIn X' hc).here ?_))))))
 rw[hd']
 refine wpAny_pure (a:=some dx) (wpAny_bind (wpAny_pure (wpAny_bind ?_)))
 unfold nsSet
 refine wpAny_bind (wpAny_bind (wpAny_askSetting (wpAny_pure (wpAny_bind (wpAny_mkText (wpAny_bind (wpAny_loadPart D ?_)))))))
 dsimp only[dictOf]
 have c0:(!es.toArray.any (·.key.isStr name) && es.toArray.any (·.refKey))=false:=by
  have:=Ai N
  rw[List.any_toArray,List.any_toArray,this,Bool.and_false]
 rw[aRefKeyMayBeTheName_at,c0]
 refine wpAny_updatePart D ?_
 have D':(s.heap.update dx (Obj.putName name (PyData.keyHash c.w.params name) (.str name (s.toks+1)) cv)).get? dx=some (dictOf (putL name (PyData.keyHash c.w.params name) (.str name (s.toks+1)) cv es) (putN name es nn)):=by
  rw[Heap.get?_update_self _ D (by rw[putName_dict]; rfl),putName_dict]
 refine wpAny_bind (wpAny_lookBehind D' (pastItsLine_dict (by
  have:=U8 name (PyData.keyHash c.w.params name) (.str name (s.toks+1)) cv es
  have:=Aj N
  rw[List.size_toArray,sizeLine_eq]; omega)) ?_)
 refine wpAny_pure (hR _ _ _ ?_ hK)
 refine j6.change (o:=.ns l) r h2 (by simp[z5.like]) (Heap.SameBut.update ..) λki=>⟨_,_,D',Jg (rv.mono ki) (N.mono ki)⟩
theorem j9.set{h:Heap}{v:V}{cv:Value}(rv:Rep h v cv):∀{l:List V}{cs:List Value},j9 h l cs→∀k,j9 h (l.set k v) (cs.set k cv)
 | _,_,.nil,k=>.nil
 | _,_,.cons a b,0=>.cons rv b
 | _,_,.cons a b,k+1=>.cons a (j9.set rv b k)
theorem eT{R:Unit→Shared→Prop}{E':Value→Shared→Prop}{o i v:V}{co ci cv:Value}{K:a7→Prop}(ro:Rep s.heap o co) (ri:Rep s.heap i ci) (rv:Rep s.heap v cv) (r:Rel c O s.heap) (hu:A.units+200 < cLine) (h:Di o i v O K)
  (hR:∀b7 h' tk,j6 c O b7 (λ_=>False) s {s with heap:=h',toks:=tk}→K b7→R () {s with heap:=h',toks:=tk}):wpAny (model c.prog c.w) A (setItem co ci cv) R E' s:=by
 unfold Di at h
 split at h
 ·rename_i a
  cases ro
  split at h
  ·rename_i l hl
   obtain⟨k,rfl,h0,h1,h2,hK⟩:=h
   cases ri
   obtain⟨ia,⟨na,ha⟩,ra⟩:=(r.3 _ _ hl).2
   have hz:=ra.size
   have hsl:=sizeLine_eq
   have hup:=PySem.IsL.update (n:=na) ha (·.setIfInBounds k.toNat cv)
   refine ki_setAt ha h0 (by omega) (by omega) (hR _ _ s.toks ?_ hK)
   refine j6.change (o:=.list l) r hl (by simp[z5.like]) (Heap.SameBut.update ..) λki=>⟨_,⟨_,hup⟩,?_⟩
   have:=j9.set (rv.mono ki) (ra.mono ki) k.toNat
   simpa using this
  ·rename_i l hl
   obtain⟨hk,hz,hK⟩:=h
   refine Em (v:=v) hl hk hz ri rv r (λe1 e2 e3 e4=>wpAny_setItem_pairs e1 e2 e4 e3) (λe0 e1 e2 e3 e4=>by
    rw[e0]; exact wpAny_setItem_heap (by show A.units+1+9 < cLine; omega) e1 e2 e4 e3) λh' tk p=>hR _ _ _ p hK
  ·exact h.elim
 ·exact h.elim
theorem jV{R:Value→Shared→Prop}{E':Value→Shared→Prop}{op:Operator}{x y:V}{cx cy:Value}{K:V→a7→Prop}(rx:Rep s.heap x cx) (ry:Rep s.heap y cy) (r:Rel c O s.heap) (h:jH op x y O K)
  (hR:∀v cv b7 h' tk,j6 c O b7 (λ_=>False) s {s with heap:=h',toks:=tk}→Rep h' v cv→K v b7→R cv {s with heap:=h',toks:=tk}):wpAny (model c.prog c.w) A (inplaceOp op cx cy) R E' s:=by
 unfold jH at h
 split at h
 ·cases rx; cases ry
  exact iadd_int (hR _ _ _ s.heap _ (j6.toks r) (.int ..) h)
 ·obtain⟨l,m,h1,h2,hz,hne,h⟩:=h
  cases rx; cases ry
  rename_i a b
  obtain⟨ia,⟨na,ha⟩,ra⟩:=(r.3 _ _ h1).2
  obtain⟨ib,⟨nb,hb⟩,rb⟩:=(r.3 _ _ h2).2
  have sa:=ra.size
  have sb:=rb.size
  have hsl:=sizeLine_eq
  have hT:s.TypeIs (.ref a) "list":=⟨_,ha,rfl⟩
  have hU:s.TypeIs (.ref b) "list":=⟨_,hb,rfl⟩
  have hup:=PySem.IsL.update (n:=na) ha (·++ib)
  unfold inplaceOp
  refine wpAny_holding ?_
  have hfi:fillsInplaceSlot (.type "list") "add" (Operator.Add == .Add)=pure false:=by
   unfold fillsInplaceSlot
   show(typeLookup (.type "list") (dunderI "add") >>= λfi=>pure (fi.isSome && !isSeqSlot fi))=pure false
   rw[F.slot_list_iadd.lookup]
   have:isSeqSlot (some (.builtin "list.__iadd__"))=true:=by decide +kernel
   simp[this]
  have hsi:seqSlot? (.type "list") (dunderI "add")=pure (some (.builtin "list.__iadd__")):=PySem.seqSlot_of F.slot_list_iadd.lookup (by decide +kernel)
  refine wpAny_bind (wpAny_typeOf hT (wpAny_bind (wpAny_of_eq hfi ?_)))
  show wpAny _ A (if false=true then _ else _) _ _ s
  rw[if_neg Bool.false_ne_true]
  refine wpAny_bind (wpAny_binaryOp1_none (nm := "add") hT hU noFill_list_add ?_)
  refine wpAny_bind (wpAny_of_eq hsi (wpAny_bind (wpAny_rule ?_)))
  refine call_meets F.slot_list_iadd hT F.entry_list_iadd (F.args_list_iadd_2 _ _) (AutoSeq1.list___iadd___list_list_0 a ia na b ib nb (by simp[Builtin.List.listTooLong]; omega) (by omega) (by omega)) ⟨ha,hb,?_⟩
  refine hR (.ref a) _ _ _ s.toks ?_ (.ref a) h
  exact j6.change (o:=.list l) r h1 (by simp[z5.like]) (Heap.SameBut.update ..) λki=>⟨_,⟨_,hup⟩,by simpa using j9.append (ra.mono ki) (rb.mono ki)⟩
 ·exact h.elim
end
def Y8(h:Heap):Flow→Fl→Prop
 | .next,.next=>True
 | .cont,.cont=>True
 | .brk,.brk=>True
 | .ret cv,.ret v=>Rep h v cv
 | _,_=>False
theorem Y8.mono{h h':Heap}{f:Flow}{fl:Fl}(x:Y8 h f fl) (k:x8 h h'):Y8 h' f fl:=by
 cases f<;>cases fl<;>simp only[Y8] at x ⊢<;>first | trivial | exact x.elim | exact Rep.mono k x
abbrev Jh(c:Cx) (n:Nat) (env:Env) (fs:FS) (A:Around) (d9:a7) (f9:Shared) (Z:Loc) (O:a7) (s:Shared):Prop:=D4 c n env fs A (Own fs env) d9 f9 Z O s
def QF(c:Cx) (n:Nat) (env:Env) (fs:FS) (A:Around) (d9:a7) (f9:Shared) (Q:Fl→Loc→a7→Prop):Flow→Shared→Prop :=
 λf s'=>∃fl i7 b7,Y8 s'.heap f fl∧Jh c n env fs A d9 f9 i7 b7 s'∧Q fl i7 b7
def EF(c:Cx) (n:Nat) (env:Env) (fs:FS) (A:Around) (L:Addr) (d9:a7) (f9:Shared) (E:a7→Prop):Value→Shared→Prop :=
 λev s'=>∃k i7 b7,(k=.new∨k=.left∨k=.held L)∧Jh c n env fs A d9 f9 i7 b7 s'∧ExcAt c f9.heap k ev s'.heap∧E b7
def SS(c:Cx) (n:Nat) (fs:FS) (st:Stmt) (x:S):Prop:=∀env L Z O Q E,WS c n x Z O Q E→∀A d9 f9 s,Jh c n env fs A d9 f9 Z O s→c.base.StaysIn f9.heap→Bp A env L →
 wpAny (model c.prog c.w) A (exec st env) (QF c n env fs A d9 f9 Q) (EF c n env fs A L d9 f9 E) s
def eD(c:Cx) (n:Nat) (fs:FS) (st:List Stmt) (x:List S):Prop:=∀env L Z O Q E,o9 c n x Z O Q E→∀A d9 f9 s,Jh c n env fs A d9 f9 Z O s→c.base.StaysIn f9.heap→Bp A env L →
 wpAny (model c.prog c.w) A (execs st env) (QF c n env fs A d9 f9 Q) (EF c n env fs A L d9 f9 E) s
section
variable {c:Cx}{n:Nat}{env:Env}{fs:FS}{Z:Loc}{O d9:a7}{Q:Fl→Loc→a7→Prop}{E:a7→Prop}{A:Around}{L:Addr}{s f9:Shared}
theorem D4.rebase{F:Addr→Prop}{i7:Loc}{b7:a7}{s':Shared}(a:D4 c n env fs A F d9 f9 Z O s) (b:D4 c n env fs A F O s i7 b7 s'):D4 c n env fs A F d9 f9 i7 b7 s':=⟨b.ok,b.G1,b.rel,a.post.trans b.post⟩
theorem D4.here{F:Addr→Prop}(a:D4 c n env fs A F d9 f9 Z O s):D4 c n env fs A F O s Z O s:=⟨a.ok,a.G1,a.rel,.refl a.rel⟩
theorem QF.rebase{f:Flow}{s':Shared}(a:Jh c n env fs A d9 f9 Z O s) (q:QF c n env fs A O s Q f s'):QF c n env fs A d9 f9 Q f s':=by
 obtain⟨fl,i7,b7,h1,h2,h3⟩:=q
 exact⟨fl,i7,b7,h1,a.rebase h2,h3⟩
theorem EF.rebase{ev:Value}{s':Shared}(a:Jh c n env fs A d9 f9 Z O s) (q:EF c n env fs A L O s E ev s'):EF c n env fs A L d9 f9 E ev s':=by
 obtain⟨k,i7,b7,h1,h2,h3,h4⟩:=q
 exact⟨k,i7,b7,h1,a.rebase h2,h3.mono a.post.keep.1,h4⟩
theorem EE.ef{ev:Value}{s':Shared}(a:Jh c n env fs A d9 f9 Z O s) (q:EE c O s E ev s'):EF c n env fs A L d9 f9 E ev s':=by
 obtain⟨b7,p,h1,h2⟩:=q
 exact⟨.left,Z,b7,.inr (.inl rfl),a.step p,h1.mono a.post.keep.1,h2⟩
theorem SX.atS{e:Expr}{x:X}{Q1:V→a7→Prop}{R:Value→Shared→Prop}(hx:SX c n fs e x) (h:WX c n x Z O Q1 E) (a:Jh c n env fs A d9 f9 Z O s)
  (h2:∀cv v d0 f7,Jh c n env fs A d9 f9 Z d0 f7→j6 c O d0 (λ_=>False) s f7→Rep f7.heap v cv→Q1 v d0→R cv f7):wpAny (model c.prog c.w) A (eval e env) R (EF c n env fs A L d9 f9 E) s :=
 wpAny_mono (hx env Z O _ E h A s a.ok a.G1 a.rel) (λcv f7 ⟨v,d0,p,hr,q⟩=>h2 cv v d0 f7 (a.step p) p hr q) λ_ _ e=>e.ef a
theorem SB.atS{e:Expr}{x:B}{Q1:Bool→a7→Prop}{R:Bool→Shared→Prop}(hx:SB c n fs e x) (h:WC c n x Z O Q1 E) (a:Jh c n env fs A d9 f9 Z O s)
  (h2:∀b d0 f7,Jh c n env fs A d9 f9 Z d0 f7→j6 c O d0 (λ_=>False) s f7→Q1 b d0→R b f7):wpAny (model c.prog c.w) A (isTrue e env (eval e env)) R (EF c n env fs A L d9 f9 E) s :=
 wpAny_mono (hx env Z O _ E h A s a.ok a.G1 a.rel) (λb f7 ⟨d0,p,q⟩=>h2 b d0 f7 (a.step p) p q) λ_ _ e=>e.ef a
theorem D4.next(a:Jh c n env fs A d9 f9 Z O s) (q:Q .next Z O):QF c n env fs A d9 f9 Q .next s:=⟨.next,Z,O,trivial,a,q⟩
def E7:Expr→Bool
 | .ListComp ..=>false
 | .SetComp ..=>false
 | .DictComp ..=>false
 | _=>true
theorem C2{e:Expr}(h:E7 e=true) (t:Option Expr) (k:Nat) (env:Env):swapsWith e t k env=pure false:=by
 cases e<;>first | rfl | (simp[E7] at h)
theorem uM{x:Str}{p pos:Pos}{e:Expr}{i:Nat}{xe:X}(hi:Inj fs) (hx:SX c n fs e xe) (ht:M8 fs true x i) (hn:E7 e=true):SS c n fs (.Assign [.Name x p] e pos) (.set i xe):=by
 intro env L Z O Q E h A d9 f9 s a hb ht'
 simp only[WS] at h
 refine wpAny_Assign_Name (hx.atS h a λcv v d0 f7 j4 A2 u7 h=>?_) (C2 hn _ _ _)
 exact j4.set hi ht (Dj.own fs env) u7 λm9 m8 G7=>m8.next h
theorem oA{x y:Str}{p q r pos:Pos}{k:Nat}{e:Expr}{i j:Nat}{xe:X}(hi:Inj fs) (hx:SX c n fs e xe) (ht:Eo fs true (.Tuple [.Name x p,.Name y q] k r) (.two i j)) (hn:E7 e=true)
  (hs:∀env,swappedStores [.Tuple [.Name x p,.Name y q] k r] e env=pure none):SS c n fs (.Assign [.Tuple [.Name x p,.Name y q] k r] e pos) (.Vz i j xe):=by
 intro env L Z O Q E h A d9 f9 s a hb ht'
 simp only[WS] at h
 rw[exec_Assign]
 have e1:swapsWithSole [Expr.Tuple [.Name x p,.Name y q] k r] e pos.line env=pure false:=C2 hn (some (Expr.Tuple [.Name x p,.Name y q] k r)) pos.line env
 refine wpAny_bind (wpAny_standAt (wpAny_bind (wpAny_of_eq e1 ?_)))
 rw[if_neg (by simp)]
 refine wpAny_bind (hx.atS h a λcv v d0 f7 j4 A2 u7 h=>?_)
 refine wpAny_bind (wpAny_of_eq (hs env) ?_)
 refine wpAny_bind (m:=assignAll cv [PySem.assign (.Tuple [.Name x p,.Name y q] k r) env]) ?_
 show wpAny _ _ (PySem.assign (.Tuple [.Name x p,.Name y q] k r) env cv) _ _ _
 exact j4.assign hi ht (Dj.own fs env) u7 h λi7 m9 m8 G7 h=>wpAny_pure (m8.next h)
theorem oB(G:Good c){o e:Expr}{name:Str}{p pos:Pos}{xo xe:X}(hx:SX c n fs e xe) (ho:SX c n fs o xo) (hn:E7 e=true):SS c n fs (.Assign [.Attribute o name p] e pos) (.q8 xo name xe):=by
 intro env L Z O Q E h A d9 f9 s a hb ht'
 simp only[WS] at h
 refine plainObj_wpAny_Assign_Attribute (hx.atS h a λcv v d0 f7 j4 A2 u7 h=>ho.atS h j4 λco ov o6 m9 m8 G7 N8 h=>?_) (C2 hn _ _ _)
 exact eS G N8 (u7.post G7) m8.rel h λb7 h' tk p hK=>(m8.step p).next hK
theorem oD{o i e:Expr}{p pos:Pos}{xo xi xe:X}(hx:SX c n fs e xe) (ho:SX c n fs o xo) (hi:SX c n fs i xi) (hn:E7 e=true):SS c n fs (.Assign [.Subscript o i p] e pos) (.I0 xo xi xe):=by
 intro env L Z O Q E h A d9 f9 s a hb ht'
 simp only[WS] at h
 refine wpAny_Assign_Subscript (hx.atS h a λcv v d0 f7 j4 A2 u7 h=>ho.atS h j4 λco ov o6 m9 m8 G7 N8 h=>hi.atS h m8 λci iv Nu S8 Z2 Rm uN h=>?_) (C2 hn _ _ _)
 exact eT (N8.post Rm) uN ((u7.post G7).post Rm) Z2.rel Z2.units h λb7 h' tk p hK=>(Z2.step p).next hK
theorem uO{x:Str}{p pos:Pos}{op:Operator}{e:Expr}{i:Nat}{xe:X}(hi:Inj fs) (hx:SX c n fs e xe) (ht:fs.res.lookup x=some i∧fs.sc.lookup x=some .local):SS c n fs (.AugAssign (.Name x p) op e pos) (.aug i op xe):=by
 intro env L Z O Q E h A d9 f9 s a hb ht'
 simp only[WS] at h
 obtain⟨old,ho,h⟩:=h
 have hko:env.kindOf x=some .local:=by unfold Env.kindOf; rw[a.G1.names]; exact ht.2
 obtain⟨m,hn,hm⟩:=a.G1.ns
 obtain⟨co,e1,e2⟩:=hm x i old ht.1 ho hko
 refine wpAny_AugAssign_Name (wpAny_loadName_local a.G1.kind hko hn e1 (hx.atS h a λcv v d0 f7 j4 A2 u7 h=>?_))
 refine jV (e2.post A2) u7 j4.rel h λu cu o6 Wc tk p N8 hK=>?_
 exact(j4.step p).set (cl:=true) hi ⟨ht.1,.inl ht.2⟩ (Dj.own fs env) N8 λS8 Z2 Rm=>Z2.next hK
theorem mIf{t:Expr}{b o:List Stmt}{pos:Pos}{xt:B}{xb xo:List S}(ht:SB c n fs t xt) (hb:eD c n fs b xb) (ho:eD c n fs o xo):SS c n fs (.If t b o pos) (.ite xt xb xo):=by
 intro env L Z O Q E h A d9 f9 s a hst htop
 simp only[WS] at h
 refine wpAny_If (ht.atS h a λr d0 f7 j4 A2 h=>?_)
 cases r with
 | true=>rw[if_pos rfl]; exact hb env L Z d0 Q E (h.1 rfl) A d9 f9 f7 j4 hst htop
 | false=>rw[if_neg (by simp)]; exact ho env L Z d0 Q E (h.2 rfl) A d9 f9 f7 j4 hst htop
theorem uP{e:Expr}{pos:Pos}{xe:X}(hx:SX c n fs e xe):SS c n fs (.Return (some e) pos) (.ret xe):=by
 intro env L Z O Q E h A d9 f9 s a hst htop
 simp only[WS] at h
 exact wpAny_Return_some (hx.atS h a λcv v d0 f7 j4 A2 u7 h=>⟨.ret v,Z,d0,u7,j4,h⟩)
theorem uQ{e:Expr}{pos:Pos}{xe:X}(hx:SX c n fs e xe) (hn:E7 e=true):SS c n fs (.Expr e pos) (.exp xe):=by
 intro env L Z O Q E h A d9 f9 s a hst htop
 simp only[WS] at h
 refine wpAny_Expr_any (hx.atS h a λcv v d0 f7 j4 A2 u7 h=>j4.next h) ?_ (C2 hn _ _ _)
 unfold interactive; rw[a.G1.kind]; rfl
theorem oE{pos:Pos}:SS c n fs (.Pass pos) .pass:=by
 intro env L Z O Q E h A d9 f9 s a hst htop
 simp only[WS] at h
 exact wpAny_Pass (a.next h)
theorem oG{pos:Pos}:SS c n fs (.Continue pos) .cont:=by
 intro env L Z O Q E h A d9 f9 s a hst htop
 simp only[WS] at h
 exact wpAny_Continue ⟨.cont,Z,O,trivial,a,h⟩
theorem oH:eD c n fs [] []:=by
 intro env L Z O Q E h A d9 f9 s a hst htop
 simp only[o9] at h
 exact wpAny_execs_nil (a.next h)
theorem jW{st:Stmt}{sts:List Stmt}{x:S}{xs:List S}(h1:SS c n fs st x) (h2:eD c n fs sts xs):eD c n fs (st::sts) (x::xs):=by
 intro env L Z O Q E h A d9 f9 s a hst htop
 simp only[o9] at h
 refine wpAny_execs_cons (wpAny_mono (h1 env L Z O _ E h A d9 f9 s a hst htop) (λf f7 ⟨fl,Tz,d0,hf,j4,h⟩=>?_) λ_ _ e=>e)
 cases f<;>cases fl<;>simp only[Y8] at hf
 ·exact h2 env L Tz d0 Q E h A d9 f9 f7 j4 hst htop
 ·exact⟨.brk,Tz,d0,trivial,j4,h⟩
 ·exact⟨.cont,Tz,d0,trivial,j4,h⟩
 ·exact⟨.ret _,Tz,d0,hf,j4,h⟩
theorem Er{R:Value→Shared→Prop}{ev:Value}{s':Shared}(hst:c.base.StaysIn f9.heap) (htop:Bp A env L) (q:EF c n env fs A L d9 f9 E ev s') (hR:∀ev s'',EF c n env fs A L d9 f9 E ev s''→R ev s'') :
  notedBy (model c.prog c.w) A env (λe s''=>cameBackBy (model c.prog c.w) A env R e s'') ev s':=by
 obtain⟨k,i7,b7,hk,a,hx,he⟩:=q
 unfold notedBy
 refine Kw a hst htop hk hx λh' a' hx'=>?_
 have hx'':=hx'
 obtain⟨x,o,vs,a0,rfl,h2,h3,h4,h5,h6,T,oT,ts,g1,g2,g3,g4,g5,g6⟩:=hx'
 unfold cameBackBy
 refine wpAny_bind (wpAny_field h3 h5 g1 ?_)
 dsimp only
 rw[if_neg (by simp)]
 rw[htop.1]
 exact X6 (E':=λev s''=>R ev s'') a' (.inr ⟨L,rfl⟩) hx'' hst (some L) λh'' a'' uR=>hR _ _ ⟨.held L,i7,b7,.inr (.inr rfl),a'',uR,he⟩
theorem uS{t:Expr}{b:List Stmt}{pos:Pos}{xt:B}{xb:List S}(ht:SB c n fs t xt) (hb:eD c n fs b xb):SS c n fs (.While t b [] pos) (.whl xt xb):=by
 intro env L Z O Q E h A d9 f9 s a hst htop
 simp only[WS] at h
 obtain⟨I,⟨k,hk⟩,hI⟩:=h
 refine wpAny_While (codeAny_whileLoop (λk s'=>∃i7 b7,Jh c n env fs A d9 f9 i7 b7 s'∧I k i7 b7) (λk s' ⟨i7,b7,a',hk⟩=>?_) k ⟨Z,O,a,hk⟩)
 refine wpAny_mono (ht.atS (L:=L) (hI k i7 b7 hk) a' λr d0 f7 j4 A2 h=>?_) (λ_ _ q=>q) λev s'' q=>Er hst htop q λ_ _ q=>q
 cases r with
 | true =>
  rw[if_pos rfl]
  refine wpAny_mono (hb env L i7 d0 _ E (h.1 rfl) A d9 f9 f7 j4 hst htop) (λf m9 ⟨fl,O6,o6,hf,m8,h⟩=>?_) λev s'' q=>Er hst htop q λ_ _ q=>q
  cases f<;>cases fl<;>simp only[Y8] at hf
  ·obtain⟨m,hm,hi⟩:=h; exact⟨m,hm,O6,o6,m8,hi⟩
  ·exact m8.next h
  ·obtain⟨m,hm,hi⟩:=h; exact⟨m,hm,O6,o6,m8,hi⟩
  ·exact⟨.ret _,O6,o6,hf,m8,h⟩
 | false =>
  rw[if_neg (by simp)]
  exact wpAny_execs_nil (j4.next (h.2 rfl))
theorem uT{t it:Expr}{b:List Stmt}{pos:Pos}{tg:Tg}{xi:X}{xb:List S}(hi:Inj fs) (hit:SX c n fs it xi) (ht:Eo fs true t tg) (hb:eD c n fs b xb) (U5:∀env x,foldedSetIterable it env x=pure x) :
  SS c n fs (.For t it b [] pos) (.for tg xi xb):=by
 intro env L Z O Q E h A d9 f9 s a hst htop
 simp only[WS] at h
 refine wpAny_For (hit.atS h a λci iv d0 f7 j4 A2 u7 ⟨l,hl,hlen,hw⟩=>?_) (λx=>U5 env x)
 refine Tw j4 u7 hl λI m9 m8 S7=>?_
 refine codeAny_forLoop_any (λk s'=>∃i i7 b7,k+i=l.length∧Jh c n env fs A d9 f9 i7 b7 s'∧Rn c f9 s' I iv i ∧
  Kk (λO=>u6 iv O l) (λx Z O K=>J7 tg x Z λi7=>o9 c n xb i7 O K E) (l.drop i) i7 b7 Q) (λk s' ⟨i,i7,b7,hki,a',it',hf⟩=>?_) l.length ⟨0,Z,d0,by omega,m8,S7,by simpa using hw⟩
 cases hx:l[i]? with
 | none =>
  have hdrop:l.drop i=[]:=by simpa using hx
  rw[hdrop] at hf
  obtain⟨hit',hq⟩:=hf
  refine next_end a' it' hit' hx λKt S9 J6=>?_
  exact wpAny_execs_nil (S9.next hq)
 | some x =>
  have hdrop:l.drop i=x::l.drop (i+1):=by
   obtain⟨h1,h2⟩:=List.getElem?_eq_some_iff.mp hx
   rw[List.drop_eq_getElem_cons h1,h2]
  rw[hdrop] at hf
  obtain⟨hit',hq⟩:=hf
  refine next_item a' it' hit' hx λcv Kt S9 M9 jP J6=>?_
  refine Nv ht.form M9.at_ ?_
  refine S9.assign hi ht (Dj.own fs env) jP hq λOb Dk Dl Rr hq=>?_
  have hIn:∀{O:a7}{s:Shared}{Z:Loc},Jh c n env fs A d9 f9 Z O s→O8 s.heap I iv (i+1)→¬ Own fs env I:=fun {O s Z} a it=>by
   obtain⟨o,vs,e,hf,_⟩:=it.obj
   rintro(h | ⟨y,j,e1,e2,e3⟩)
   ·obtain⟨m,⟨o',es,ep,ho,hd,_⟩,_⟩:=a.G1.ns
    rw[←h,e] at ho; cases ho; rw[hf] at hd; cases hd
   ·obtain⟨b,ov,g1,⟨o',g2,g3⟩,_⟩:=a.G1.cell y j e1 (by unfold Env.kindOf; rw[a.G1.names]; exact .inl e2)
    rw[e3] at g1; cases g1
    rw[e] at g2; cases g2; rw[hf] at g3; cases g3
  have Ah:=M9.at_.post Rr (M9.at_.x4 S9.rel) (hIn S9 M9.at_)
  have jX:c.base.StaysIn Dk.heap:=Dl.rel.1
  refine wpAny_mono (hb env L Ob b7 _ E hq A b7 Dk Dk Dl.here jX htop) (λf nV ⟨fl,Zf,Je,hf,N9,h⟩=>?_) λev s'' q=>Er hst htop (q.rebase Dl) λ_ _ q=>q
  have hki:∃m,m < k∧m+(i+1)=l.length:=by
   have:=(List.getElem?_eq_some_iff.mp hx).1
   exact⟨k - 1,by omega,by omega⟩
  obtain⟨m,hmk,hmi⟩:=hki
  have Jf:=Ah.post N9.post (Ah.x4 Dl.rel) (hIn Dl Ah)
  have Wd:=Dl.rebase N9
  cases f<;>cases fl<;>simp only[Y8] at hf
  ·exact⟨m,hmk,i+1,Zf,Je,hmi,Wd,⟨Jf,M9.lo,M9.base⟩,h⟩
  ·exact Wd.next h
  ·exact⟨m,hmk,i+1,Zf,Je,hmi,Wd,⟨Jf,M9.lo,M9.base⟩,h⟩
  ·exact⟨.ret _,Zf,Je,hf,Wd,h⟩
end
section
variable {c:Cx}{n:Nat}{env:Env}{fs:FS}{Z:Loc}{O d9:a7}{Q:Fl→Loc→a7→Prop}{E:a7→Prop}{A:Around}{L:Addr}{s f9:Shared}
theorem Y6.other{h h':Heap}{C:Addr}{oC:Obj}(f:Y6 c env fs Z O h) (hs:Heap.SameBut C h h') (hC:h.get? C=some oC) (hi:¬ Cj oC) (hl:C≠env.locals) (hc:∀v,oC.data≠.cell v):Y6 c env fs Z O h':=by
 have ki:x8 h h':=λb o e im=>(hs.2 b (by rintro rfl; rw[hC] at e; cases e; exact hi im)).trans e
 refine⟨f.kind,f.names,f.glob,f.blt,f.x4,f.K5,?_,λx i h1 h2=>?_,f.apart⟩
 ·obtain⟨m,⟨o',es,ep,ho,hd,q⟩,hm⟩:=f.ns
  refine⟨m,⟨o',es,ep,(hs.2 _ (Ne.symm hl)).trans ho,hd,q⟩,λx i v h1 h2 h3=>?_⟩
  obtain⟨cv,e1,e2⟩:=hm x i v h1 h2 h3
  exact⟨cv,e1,e2.mono ki⟩
 ·obtain⟨b,ov,h3,⟨o',ho,hd⟩,h5,h6,h7⟩:=f.cell x i h1 h2
  have hb:b≠C:=by rintro rfl; rw[hC] at ho; cases ho; exact hc _ hd
  refine⟨b,ov,h3,⟨o',(hs.2 b hb).trans ho,hd⟩,h5,h6,λv hv=>?_⟩
  obtain⟨cv,e1,e2⟩:=h7 v hv
  exact⟨cv,e1,e2.mono ki⟩
theorem Zg{x:Str}{p pos cpos:Pos}{i:Nat}{elt t iter:Expr}{ifs:List Expr}{scope:Scope}{xe xi:X}{tg:Tg}{xs:List B}(hi:Inj fs) (hiter:SX c n fs iter xi) (U5:∀env x,foldedSetIterable iter env x=pure x) (cs:I1 fs scope tg)
  (he:SX c n (q9 fs scope) elt xe) (ht:Eo (q9 fs scope) false t tg) (hs:Yg c n (q9 fs scope) ifs xs) (hx:fs.res.lookup x=some i∧fs.sc.lookup x=some .local) (hline:p.line=cpos.line)
  (hown:(scope.names.any λy=>y.1 == x && (y.2 == .local || y.2 == .cell))=false) :
  SS c n fs (.Assign [.Name x p] (.ListComp elt [⟨t,iter,ifs,0⟩] scope cpos) pos) (.set i (.comp xe tg xi xs)):=by
 intro env L Z O Q E h A d9 f9 s a hb htop
 simp only[WS] at h
 have hko:env.kindOf x=some .local:=by unfold Env.kindOf; rw[a.G1.names]; exact hx.2
 have hsw:swapsWith (.ListComp elt [⟨t,iter,ifs,0⟩] scope cpos) (some (.Name x p)) pos.line env=pure true:=by
  show(pure (env.blockKind == .function && env.kindOf x == some .local && p.line == cpos.line && !(scope.names.any fun(n,k)=>n == x && (k == .local || k == .cell))):Sem Bool)=pure true
  have hb:env.blockKind=.function:=by
   unfold Env.blockKind; rw[a.G1.kind]; rfl
  rw[hb,hko,hline]
  have:(scope.names.any fun(n,k)=>n == x && (k == .local || k == .cell))=false:=hown
  rw[this]; simp
 rw[exec_Assign_Name_used _ _ _ _ hsw]
 refine wpAny_bind (wpAny_standAt (wpAny_bind (wpAny_bind ?_)))
 refine wpAny_mono (E:=EE c O s E) (Jd (R:=λ_ s'=>wpAny (model c.prog c.w) A (pure ():Sem Unit) (λ_ s'=>wpAny (model c.prog c.w) A (pure Flow.next) (QF c n env fs A d9 f9 Q) (EF c n env fs A L d9 f9 E) s') (EF c n env fs A L d9 f9 E) s') hi hiter U5 cs he ht hs h a.ok a.G1 a.rel λD C b7 s' hE=>?_) (λ_ _ q=>q) λ_ _ q=>q.ef a
 obtain⟨m,oC,eC,zJ,hoC,iL,hqC⟩:=hE.ns
 obtain⟨items,acc,⟨nn,hD⟩,hacc,hq⟩:=hE.list
 have Zd:¬ Cj oC:=λim=>by rcases im with⟨_,_,_,e⟩ | ⟨_,_,e,_⟩<;>rw[iL] at e<;>cases e
 have p7:j6 c O b7 (λ_=>False) s s':=hE.post.narrow λb hb=>.inr (by cases hb; exact hE.Jc)
 have p8:=p7.adopt (o:=.list acc) hE.D2 hE.iG hE.iH hE.Tx ⟨items,⟨nn,hD⟩,hacc⟩
 have a8:Jh c n env fs A O s Z (i8 b7 D (.list acc)) s':=⟨a.ok.post p8,a.G1.post0 p8,p8.rel,p8.Nn λ_ h=>h.elim⟩
 have iM:C≠env.locals:=by
  rintro rfl
  obtain⟨m',⟨o',es,ep,ho,hd,_⟩,_⟩:=a.G1.ns
  exact hE.Jc.not ho
 show wpAny _ A (PySem.assign (.Name x p) env (.ref D)) _ _ s'
 refine wpAny_assign_Name (a8.set (cl:=true) hi ⟨hx.1,.inl hx.2⟩ (Dj.own fs env) (.ref D) λs'' a9 p9=>?_)
 obtain⟨sl,jY⟩:=(p9.keep.2 C oC hoC (by
  rintro(h | h | ⟨y,j,e1,e2,e3⟩)
  ·rw[i9 (Ne.symm hE.DC)] at h; rw[hE.Yz] at h; cases h
  ·exact iM h
  ·obtain⟨b,ov,g1,⟨o',g2,g3⟩,_⟩:=a.G1.cell y j e1 (by unfold Env.kindOf; rw[a.G1.names]; exact .inl e2)
   rw[e3] at g1; cases g1
   exact hE.Jc.not g2)).1
 refine⟨m,⟨_,eC,zJ,jY,iL,hqC⟩,λh' hs'=>?_⟩
 have hn2:i8 b7 D (.list acc) C=none:=by rw[i9 (Ne.symm hE.DC)]; exact hE.Yz
 have Zh:¬ Cj {oC with slots:=sl}:=λim=>by rcases im with⟨_,_,_,e⟩ | ⟨_,_,e,_⟩<;>rw[show({oC with slots:=sl}:Obj).data=oC.data from rfl,iL] at e<;>cases e
 have mQ:=a9.post.junk (tk:=s''.toks) jY Zh hn2 hE.iF hE.Jc hs'.extBut
 have f10:Y6 c env fs (b6 Z i (.ref D)) (i8 b7 D (.list acc)) h':=a9.G1.other hs' jY Zh iM λv e=>by rw[show({oC with slots:=sl}:Obj).data=oC.data from rfl,iL] at e; cases e
 have a10:Jh c n env fs A O s (b6 Z i (.ref D)) (i8 b7 D (.list acc)) {s'' with heap:=h'}:=⟨a.ok.post mQ,f10,mQ.rel,mQ⟩
 exact wpAny_pure (wpAny_pure ((a.rebase a10).next (hq D hE.Tx)))
theorem Dm{α:Type}{M:Model}{m m':Sem α}{R:α→Shared→Prop}{E':Value→Shared→Prop}(e:m=m') (h:wpAny M A m' R E' s):wpAny M A m R E' s:=e ▸ h
theorem oJ{x y:Str}{p q r r' pos:Pos}{u v:Str}{pu pv:Pos}{k k':Nat}{i j:Nat}{xa xb:X}(hi:Inj fs) (ha:SX c n fs (.Name u pu) xa) (hb':SX c n fs (.Name v pv) xb)
  (hx:fs.res.lookup x=some i∧fs.sc.lookup x=some .local) (hy:fs.res.lookup y=some j∧fs.sc.lookup y=some .local) (hne:x≠y) (hline:p.line=q.line) (hdb:(u == ("__debug__":Str))=false) :
  SS c n fs (.Assign [.Tuple [.Name x p,.Name y q] k r] (.Tuple [.Name u pu,.Name v pv] k' r') pos) (.swap i j xa xb):=by
 intro env L Z O Q E h A d9 f9 s a hb htop
 simp only[WS] at h
 have hkx:env.kindOf x=some .local:=by unfold Env.kindOf; rw[a.G1.names]; exact hx.2
 have hky:env.kindOf y=some .local:=by unfold Env.kindOf; rw[a.G1.names]; exact hy.2
 have hbk:env.blockKind=.function:=by unfold Env.blockKind; rw[a.G1.kind]; rfl
 rw[exec_Assign]
 have e1:swapsWithSole [Expr.Tuple [.Name x p,.Name y q] k r] (.Tuple [.Name u pu,.Name v pv] k' r') pos.line env=pure false:=C2 (e:=.Tuple [.Name u pu,.Name v pv] k' r') rfl (some (Expr.Tuple [.Name x p,.Name y q] k r)) pos.line env
 refine wpAny_bind (wpAny_standAt (wpAny_bind (wpAny_of_eq e1 ?_)))
 rw[if_neg (by simp)]
 have hst:SX c n fs (.Tuple [.Name u pu,.Name v pv] k' r') (.tup [xa,xb]):=nK (by simp) (Nr rfl ha (Nr rfl hb' jL))
 refine wpAny_bind (hst.atS (Q1:=λw O=>match w with | .tup [z,z']=>Q .next (b6 (b6 Z j z') i z) O | _=>False) (by simp only[WX,j0]; exact h) a λcv w d0 f7 j4 A2 u7 h=>?_)
 have hz:∃z z',w=.tup [z,z']∧Q .next (b6 (b6 Z j z') i z) d0:=by
  split at h
  ·exact⟨_,_,rfl,h⟩
  ·exact h.elim
 obtain⟨z,z',rfl,h⟩:=hz
 have e2:swappedStores [Expr.Tuple [.Name x p,.Name y q] k r] (.Tuple [.Name u pu,.Name v pv] k' r') env=pure (some [x,y]):=by
  have hne':(y == x)=false:=by simpa using λz=>hne z.symm
  have uU:(x == y)=false:=by simpa using hne
  have hu:¬ u=("__debug__":Str):=by simpa using hdb
  unfold swappedStores
  simp[hbk,hkx,hky,Expr.pos,hline,foldedForSure,constantsAlone,hne,List.eraseDups,List.eraseDupsBy,List.eraseDupsBy.loop,hne',uU,hu]
 refine wpAny_bind (wpAny_of_eq e2 ?_)
 cases u7 with
 | @tup ad _ items ta ra =>
 cases hit:items with
 | mk li =>
 subst hit
 cases ra with
 | cons r1 r2 =>
 cases r2 with
 | cons r2 r3 =>
 cases r3
 rename_i c1 c2
 have key:∀{R:List Value→Shared→Prop}{E':Value→Shared→Prop},(∀h',Heap.ExtBut f7.heap.objs.size f7.heap h'→R [c1,c2] {f7 with heap:=h'})→wpAny (model c.prog c.w) A (unpackItems (.ref ad) 2 none) R E' f7:=fun {R E'} h =>
  wpAny_unpackItems_tuple (items:=⟨[c1,c2]⟩) j4.ok.2.2.1 ta.isTuple h
 refine wpAny_bind (wpAny_rule (wpAny_bind (key λh' hx'=>?_)))
 have p2:j6 c d0 d0 (λ_=>False) f7 {f7 with heap:=h'}:=j6.grow (tk:=f7.toks) j4.rel λb o e=>hx' b o (Nat.ne_of_lt (Heap.lt_size e)) e
 have a2:=j4.step p2
 have e3:assignInOrder (List.map (λn=>bindName env n) [x,y].reverse) ([c1,c2]:List Value).reverse=(do holding [c1] (bindName env y c2); holding [] (bindName env x c1); pure ()):=rfl
 refine wpAny_bind (Dm e3 ?_)
 have st:∀{z:Str}{cz:Value}{s:Shared}{R:Unit→Shared→Prop}{E':Value→Shared→Prop},wpAny (model c.prog c.w) A (storeName env z cz) R E' s→wpAny (model c.prog c.w) A (bindName env z cz) R E' s:=fun {z cz s R E'} h=>by
  unfold bindName
  exact wpAny_bind (wpAny_holding (wpAny_point (wpAny_bind (wpAny_mono h (λ_ _ q=>wpAny_point q) λ_ _ q=>q))))
 refine wpAny_bind (wpAny_holding (st (a2.set (cl:=true) hi ⟨hy.1,.inl hy.2⟩ (Dj.own fs env) (r2.post p2) λs3 a3 p3=>?_)))
 refine wpAny_bind (wpAny_holding (st (a3.set (cl:=true) hi ⟨hx.1,.inl hx.2⟩ (Dj.own fs env) ((r1.post p2).post p3) λs4 a4 p4=>?_)))
 exact wpAny_pure (wpAny_pure (a4.next h))
end
structure oK(c:Cx) (f:Addr) (fd:FuncData) (ps:List Str) (body:List Stmt):Prop where
 at_:∃oc od osl,c.K.lookup f=some ⟨oc,od,.func fd,osl⟩
 body:fd.body=.stmts body
 code:codeIn c.K fd.code fd.qualname=true
 glob:fd.globals=mainGlobals
 blt:fd.builtins=builtinsNs
 clos:fd.closure=[]
 kind:fd.scope.kind=.function
 co:fd.scope.isCoroutine=false
 gen:fd.scope.isGenerator=false
 bind:∀vals:List Value,vals.length=ps.length→bindArgs fd {pos:=vals}=pure (ps.zip vals)
structure eU(fs:FS) (ps:List Str):Prop where
 inj:Inj fs
 params:∀k x,ps[k]?=some x→fs.res.lookup x=some k∧(fs.sc.lookup x=some .local∨fs.sc.lookup x=some .cell)
 jZ:∀x,fs.sc.lookup x≠some .free
theorem O0:∀(l:List (Str×NameKind)) (n:Nat) (acc:List (Str×Addr)) (x:Str),(acc.lookup x).isSome=true→((cellsFrom n l acc).lookup x).isSome=true
 | [],_,_,_,h=>h
 | (y,k)::r,n,acc,x,h=>by
  unfold cellsFrom
  split
  ·refine O0 r _ _ x ?_
   rw[List.lookup_cons]
   split
   ·rfl
   ·exact h
  ·exact O0 r _ _ x h
theorem I7:∀(l:List (Str×NameKind)) (n:Nat) (acc:List (Str×Addr)) (x:Str),l.lookup x=some .cell→((cellsFrom n l acc).lookup x).isSome=true
 | [],_,_,_,h=>by simp at h
 | (y,k)::r,n,acc,x,h=>by
  unfold cellsFrom
  rw[List.lookup_cons] at h
  split at h
  ·rename_i hxy
   cases h
   simp only[beq_self_eq_true,if_true]
   refine O0 r _ _ x ?_
   rw[List.lookup_cons,hxy]; rfl
  ·split
   ·exact I7 r _ _ x h
   ·exact I7 r _ _ x h
theorem Co(k:Str→Option NameKind):∀(l:List (Str×Value)) (m:Str→Option Value) (x:Str),(∀v,(x,v)∉l)→bindL k l m x=m x
 | [],_,_,_=>rfl
 | (y,u)::r,m,x,h=>by
  unfold bindL
  rw[Co k r _ x λv hv=>h v (.tail _ hv)]
  split
  ·have:x≠y:=by rintro rfl; exact h u (.head _)
   simp[this]
  ·rfl
theorem Cp(k:Str→Option NameKind):∀(l:List (Str×Value)) (m:Str→Option Value) (x:Str),(∀v,(x,v)∉l)→bindC k l m x=m x
 | [],_,_,_=>rfl
 | (y,u)::r,m,x,h=>by
  unfold bindC
  rw[Cp k r _ x λv hv=>h v (.tail _ hv)]
  split
  ·rfl
  ·have:x≠y:=by rintro rfl; exact h u (.head _)
   simp[this]
theorem U9(k:Str→Option NameKind):∀(l:List (Str×Value)) (m:Str→Option Value) (x:Str) (v:Value),(l.map (·.1)).Nodup→(x,v)∈l→k x=some .local→bindL k l m x=some v
 | [],_,_,_,_,h,_=>by cases h
 | (y,u)::r,m,x,v,hn,h,hk=>by
  simp only[List.map_cons,List.nodup_cons] at hn
  unfold bindL
  rcases List.mem_cons.mp h with e | h
  ·cases e
   rw[Co k r _ y λw hw=>hn.1 (List.mem_map.mpr ⟨_,hw,rfl⟩),if_pos hk]; simp
  ·exact U9 k r _ x v hn.2 h hk
theorem Og(k:Str→Option NameKind):∀(l:List (Str×Value)) (m:Str→Option Value) (x:Str) (v:Value),(l.map (·.1)).Nodup→(x,v)∈l→k x=some .cell→bindC k l m x=some v
 | [],_,_,_,_,h,_=>by cases h
 | (y,u)::r,m,x,v,hn,h,hk=>by
  simp only[List.map_cons,List.nodup_cons] at hn
  unfold bindC
  rcases List.mem_cons.mp h with e | h
  ·cases e
   rw[Cp k r _ y λw hw=>hn.1 (List.mem_map.mpr ⟨_,hw,rfl⟩),if_neg (by rw[hk]; decide)]; simp
  ·exact Og k r _ x v hn.2 h hk
def d8(vs:List V):Loc:=λi=>vs[i]?
def i4(Q:V→a7→Prop):Fl→Loc→a7→Prop
 | .ret v,_,O=>Q v O
 | .next,_,O=>Q .none O
 | _,_,_=>False
def Ji(c:Cx) (n:Nat) (f:V) (vs:List V) (O:a7) (Q:V→a7→Prop) (E:a7→Prop):Prop :=
 ∀A s cf X5,Ok c n A O s.heap→Rel c O s.heap→Rep s.heap f cf→j9 s.heap vs X5 →
  codeAny (model c.prog c.w) A (.call cf ⟨X5,[]⟩) (λr s'=>match r with | .ok (.ret v)=>QE c O s Q v s' | .ok _=>False | .error e=>EE c O s E e s') s
theorem Ji.call{c:Cx}{n:Nat}{f:V}{vs:List V}{O:a7}{Q:V→a7→Prop}{E:a7→Prop}(h:Ji c n f vs O Q E):l8 c n f vs O Q E :=
 λA s cf X5 o r hf hvs=>wpAny_call (h A s cf X5 o r hf hvs)
theorem eV{c:Cx}(G:Good c){n:Nat}{f:Addr}{fd:FuncData}{ps:List Str}{body:List Stmt}{fs:FS}{xs:List S}(I:oK c f fd ps body) (N:eU fs ps) (hsc:fs.sc=fd.scope.names) (hb:eD c n fs body xs)
  {vs:List V}{O:a7}{Q:V→a7→Prop}{E:a7→Prop}(hlen:vs.length=ps.length) (h:o9 c n xs (d8 vs) O (i4 Q) E):Ji c (n+1) (.fix (.ref f)) vs O Q E:=by
 intro A s cf X5 o r hf hvs
 cases hf
 obtain⟨oc,od,osl,hat⟩:=I.at_
 have ho:=(G.KX.keeps r.stays) _ _ hat
 obtain⟨k1,k2,k3,l,k4,k5⟩:=o
 have hcl:X5.length=ps.length:=by rw[←hvs.length,hlen]
 have hpn:ps.Nodup:=by
  rw[List.nodup_iff_pairwise_ne,List.pairwise_iff_getElem]
  intro i j hi hj hij e
  have h1:=(N.params i _ (List.getElem?_eq_getElem hi)).1
  have h2:=(N.params j _ (List.getElem?_eq_getElem hj)).1
  rw[e,h2] at h1
  cases h1; omega
 have zL:((ps.zip X5).map (·.1)).Nodup:=by
  rw[List.map_fst_zip (by omega)]; exact hpn
 have hmem:∀x∈ps.zip X5,fd.scope.names.lookup x.1=some .local∨fd.scope.names.lookup x.1=some .cell:=λx hx=>by
  have:=(List.of_mem_zip hx).1
  obtain⟨k,hk,e⟩:=List.getElem_of_mem this
  have:=(N.params k x.1 (by rw[List.getElem?_eq_getElem hk,e])).2
  rw[hsc] at this; exact this
 refine codeAny_call_cells (by omega) ho rfl (G.nolimit.keeps r.stays) (codeRec_of (G.KX.keeps r.stays) I.code) I.body (I.bind X5 hcl) I.clos (λx hx=>?_) (λf7 x=>?_) I.co I.gen I.kind
 ·rcases hmem x hx with h1 | h1
  ·exact .inl h1
  ·exact .inr ⟨h1,I7 _ _ _ _ h1⟩
 ·obtain⟨J8,tk,rfl,Jj⟩:=x.done
  let env:=callEnvC fd s.heap.objs.size f
  have Es:Above s.heap env.locals:=.of_le (Nat.le_refl _)
  have hcells:∀y a,env.cells.lookup y=some a→Above s.heap a:=λy a e=>.of_le (Nat.le_of_lt (x.above y a (mem_of_lookup e)))
  have J9:∀{b:Addr},Above s.heap b→O b=none:=fun {b} hb=>by
   cases e:O b with
   | none=>rfl
   | some ao =>
    obtain⟨ob,q,_⟩:=(r.3 b ao e).2.shape
    exact hb.not q
  have p1:j6 c O O (λ_=>False) s {s with heap:=J8,toks:=tk}:=j6.grow r Jj
  have hko:∀y,env.kindOf y=fs.sc.lookup y:=λy=>by show fd.scope.names.lookup y=_; rw[hsc]
  have oM:∀{y:Str}{i:Nat}{v:V},fs.res.lookup y=some i→d8 vs i=some v→∃cv,(y,cv)∈ps.zip X5∧Rep s.heap v cv:=fun {y i v} h1 h2=>by
   obtain⟨cv,e1,e2⟩:=hvs.get h2
   have hi:i < ps.length:=by
    have:=(List.getElem?_eq_some_iff.mp h2).1; omega
   have hy:ps[i]=y:=N.inj _ _ i (N.params i _ (List.getElem?_eq_getElem hi)).1 h1
   refine⟨cv,?_,e2⟩
   rw[List.mem_iff_getElem?]
   refine⟨i,?_⟩
   rw[List.getElem?_zip_eq_some]
   exact⟨by rw[List.getElem?_eq_getElem hi,hy],e1⟩
  have G1:Y6 c env fs (d8 vs) O J8:=by
   refine⟨I.kind,hsc.symm,I.glob,I.blt,J9 Es,x5 r Es,⟨_,x.toInCall.ns,λy i v h1 h2 h3=>?_⟩,λy i h1 h2=>?_,λy z a h1 h2=>name_of_addr x.apart (mem_of_lookup h1) (mem_of_lookup h2)⟩
   ·obtain⟨cv,hm,hr⟩:=oM h1 h2
    exact⟨cv,U9 _ _ _ _ _ zL hm h3,hr.mono p1.Cm⟩
   ·have hc:env.kindOf y=some .cell:=by
     rcases h2 with h2 | h2
     ·exact h2
     ·exact absurd (by rw[←hko]; exact h2) (N.jZ y)
    obtain⟨a,ha⟩:=Option.isSome_iff_exists.mp (I7 fd.scope.names (s.heap.objs.size+1) [] y (by rw[←hsc,←hko]; exact hc))
    have hd:=hcells y a ha
    refine⟨a,_,ha,x.cell y a ha,J9 hd,x5 r hd,λv hv=>?_⟩
    obtain⟨cv,hm,hr⟩:=oM h1 hv
    exact⟨cv,Og _ _ _ _ _ zL hm hc,hr.mono p1.Cm⟩
  have ff:FF c O J8 (env::l):=λe he=>by
   rcases List.mem_cons.mp he with rfl | he
   ·obtain⟨o',es,ep,q1,q2,_⟩:=x.toInCall.ns
    refine⟨by show fd.scope.kind≠_; rw[I.kind]; decide,env.locals,o',rfl,x5 r Es,J9 Es,q1,es,ep,q2⟩
   ·exact k5.move (λ_ _ _ h=>h) (λb o' e hd=>⟨o',Jj b o' e,hd⟩) e he
  have ok1:Ok c n (A.deeper env) O J8:=by
   refine⟨?_,?_,k3,env::l,by show A.frames.map _=_; rw[k4]; rfl,ff⟩
   ·show A.depth+1+3 * n+3 < _; omega
   ·show A.units+3+20 * n+200 < _; omega
  have a1:Jh c n env fs (A.deeper env) O s (d8 vs) O {s with heap:=J8,toks:=tk}:=⟨ok1,G1,p1.rel,p1.Nn λ_ h=>h.elim⟩
  have htop:Bp (A.deeper env) env env.locals:=⟨rfl,l,by show A.frames.map _=_; rw[k4]; rfl⟩
  have uV:∀{i7:Loc}{b7:a7}{s':Shared},Jh c n env fs (A.deeper env) O s i7 b7 s'→j6 c O b7 (λ_=>False) s s':=fun {i7 b7 s'} a=>a.post.narrow λb hb=>.inr (by
   rcases hb with rfl | ⟨y,i,_,_,e⟩
   ·exact Es
   ·exact hcells y b e)
  refine wpAny_mono (hb env env.locals (d8 vs) O _ E h (A.deeper env) O s _ a1 r.1 htop) (λfl s' ⟨uW,i7,b7,hfl,a',hq⟩=>?_) λev s' ⟨k,i7,b7,hk,a',hx,he⟩=>?_
  ·cases fl<;>cases uW<;>simp only[Y8] at hfl<;>simp only[i4] at hq
   ·exact⟨.none,b7,uV a',.none,hq⟩
   ·exact⟨_,b7,uV a',hfl,hq⟩
  ·exact Ze a' r.1 htop hk hx λh'' a'' hx''=>⟨b7,uV a'',hx'',he⟩
section
variable {c:Cx}{n:Nat}{O:a7}{Q:V→a7→Prop}{E:a7→Prop}
theorem O9{h:Heap}{x:V}{cs:List Value}(r:j9 h [x] cs):∃a,cs=[a]∧Rep h x a:=by
 cases r with | cons a b=>cases b; exact⟨_,rfl,a⟩
theorem Ua{h:Heap}{x y:V}{cs:List Value}(r:j9 h [x,y] cs):∃a b,cs=[a,b]∧Rep h x a∧Rep h y b:=by
 cases r with | cons a r=>obtain⟨b,rfl,hb⟩:=O9 r; exact⟨_,_,rfl,a,hb⟩
theorem iN{h:Heap}{x y z:V}{cs:List Value}(r:j9 h [x,y,z] cs):∃a b d,cs=[a,b,d]∧Rep h x a∧Rep h y b∧Rep h z d:=by
 cases r with | cons a r=>obtain⟨b,d,rfl,hb,hd⟩:=Ua r; exact⟨_,_,_,rfl,a,hb,hd⟩
theorem C3{l:List V}(hz:l.length≤1000000) (h:Q (.int l.length) O):l8 c n (.fix (.builtin "len")) [.tup l] O Q E:=by
 intro A s cf X5 o r hf hvs
 cases hf
 obtain⟨a,rfl,ra⟩:=O9 hvs
 cases ra with
 | @tup a _ items ta rb =>
 have hs:=rb.size
 obtain⟨nn,e⟩:=ta
 refine PyProof.Rows.len_tuple ⟨_,e,rfl,nn,rfl⟩ (by omega) ?_
 rw[hs]
 exact QE.mk r (.int ..) h
theorem A3{a:Addr}{l:List V}(hl:O a=some (.list l)) (hz:l.length≤1000000) (h:Q (.int l.length) O):l8 c n (.fix (.builtin "len")) [.ref a] O Q E:=by
 intro A s cf X5 o r hf hvs
 cases hf
 obtain⟨a',rfl,ra⟩:=O9 hvs
 cases ra
 obtain⟨ia,⟨na,hia⟩,rb⟩:=(r.3 _ _ hl).2
 have hs:=rb.size
 refine call_len_list ⟨_,hia,rfl,na,rfl⟩ (by omega) ?_
 rw[hs]
 exact QE.mk r (.int ..) h
theorem Wf{x:Str}(hz:x.length≤1000000) (h:Q (.int x.length) O):l8 c n (.fix (.builtin "len")) [.str x] O Q E:=by
 intro A s cf X5 o r hf hvs
 cases hf
 obtain⟨a',rfl,ra⟩:=O9 hvs
 cases ra
 exact PySem.P.len_str (by omega) (QE.mk r (.int ..) h)
theorem V0{a:Addr}{l:List (V×V)}(hl:O a=some (.dict l)) (hz:l.length≤1000000) (h:Q (.int l.length) O):l8 c n (.fix (.builtin "len")) [.ref a] O Q E:=by
 intro A s cf X5 o r hf hvs
 cases hf
 obtain⟨a',rfl,ra⟩:=O9 hvs
 cases ra
 have lo:=not_modules r hl
 have rd:Z0 c.prog c.w s.heap a l:=(r.3 _ _ hl).2
 rcases rd with⟨kvs,hd,e1,e2⟩ | ⟨kvs,hd,e1,e2⟩ | ⟨xs,hd,e1,e2⟩
 ·have hlen:kvs.length=l.length:=by have:=congrArg List.length e1; simpa using this.symm
  refine call_len_dict lo hd (by omega) ?_
  rw[hlen]; exact QE.mk r (.int ..) h
 ·have hlen:kvs.length=l.length:=by have:=congrArg List.length e1; simpa using this.symm
  refine call_len_dict lo hd (by omega) ?_
  rw[hlen]; exact QE.mk r (.int ..) h
 ·have hlen:xs.length=l.length:=by have:=congrArg List.length e1; simpa using this.symm
  obtain⟨ob,es,ep,ho,hx,hdat,hes,_⟩:=hd
  have hT:s.TypeIs (.ref a) "dict":=⟨ob,ho,hx.1⟩
  have hsz:es.size=l.length:=by
   have:=congrArg List.length hes
   simp at this; omega
  refine PyProof.Rows.call_len_slot (n:=(l.length:Int)) hT F.slot_dict_len (λQ' hq=>wpAny_call_entry F.slot_dict_len hT F.entry_dict_len ?_ (F.args_dict_len_1 _)) (by omega) (by omega) (QE.mk r (.int ..) h)
  show wpAny _ _ (dictSize a >>= _) _ _ s
  unfold dictSize
  refine wpAny_bind (wpAny_bind (wpAny_dictEntries ho hdat (wpAny_pure ?_)))
  show wpAny _ _ (Builtin.Dict.pendingCount a >>= _) _ _ s
  refine wpAny_bind (wpAny_pendingCount_other lo ?_)
  rw[show((es.size:Int)+((0:Nat):Int))=(l.length:Int) by omega]
  exact wpAny_bind (wpAny_mkInt (wpAny_pure ⟨_,rfl,hq⟩))
theorem K8{k:Int}(h:Q (.rng 0 k) O):l8 c n (.fix (.type "range")) [.int k] O Q E:=by
 intro A s cf X5 o r hf hvs
 cases hf
 obtain⟨a',rfl,ra⟩:=O9 hvs
 cases ra
 exact call_range_1 ⟨_,O,j6.grow r λb o e=>Heap.get?_push_of_some _ e,.rng (IsRange.new ..),h⟩
theorem Zi{j k:Int}(h:Q (.rng j k) O):l8 c n (.fix (.type "range")) [.int j,.int k] O Q E:=by
 intro A s cf X5 o r hf hvs
 cases hf
 obtain⟨a',b',rfl,ra,rb⟩:=Ua hvs
 cases ra; cases rb
 exact call_range_2 ⟨_,O,j6.grow r λb o e=>Heap.get?_push_of_some _ e,.rng (IsRange.new ..),h⟩
theorem Ak{a:Addr}{l:List V}(hl:O a=some (.list l)) (hz:l.length≤1000000) (h:Q (.tup l) O):l8 c n (.fix (.type "tuple")) [.ref a] O Q E:=by
 intro A s cf X5 o r hf hvs
 cases hf
 obtain⟨a',rfl,ra⟩:=O9 hvs
 cases ra
 obtain⟨ia,⟨na,hia⟩,rb⟩:=(r.3 _ _ hl).2
 have hs:=rb.size
 refine call_tuple_list ⟨_,hia,rfl,na,rfl⟩ (λh' k=>?_) (by rw[hs]; exact O7 hz)
 have k2:∀b o,s.heap.get? b=some o→(h'.push {cls:=.type "tuple",data:=.seq ia}).get? b=some o:=λb o e=>Heap.get?_push_of_some _ (k b o e)
 exact⟨.tup l,O,j6.grow (tk:=s.toks) r k2,.tup ⟨0,Heap.get?_push_size _ rfl⟩ (rb.mono λb o e _=>k2 b o e),h⟩
theorem v3{a:Addr}{l:List V}{v:V}(hl:O a=some (.list l)) (hz:l.length≤1000000) (h:Q .none (i8 O a (.list (l++[v])))):l8 c n (.fix (.builtin "list.append")) [.ref a,v] O Q E:=by
 intro A s cf X5 o r hf hvs
 cases hf
 obtain⟨a',b',rfl,ra,rv⟩:=Ua hvs
 cases ra
 obtain⟨ia,⟨na,hia⟩,rb⟩:=(r.3 _ _ hl).2
 have hs:=rb.size
 refine wpAny_list_append_plain ⟨na,hia⟩ (λh' hp hsb=>?_) (by rw[hs]; exact O7 hz)
 refine⟨.none,_,j6.change (o':=.list (l++[v])) (tk:=s.toks) r hl (by simp[z5.like]) hsb λki=>⟨_,hp,?_⟩,.none,h⟩
 simpa using j9.append (rb.mono ki) (.cons (rv.mono ki) .nil)
theorem Zj{a b:Addr}{l m:List V}(hl:O a=some (.list l)) (hm:O b=some (.list m)) (hz:l.length+m.length≤1000000) (h:Q .none (i8 O a (.list (l++m)))):l8 c n (.fix (.builtin "list.extend")) [.ref a,.ref b] O Q E:=by
 intro A s cf X5 o r hf hvs
 cases hf
 obtain⟨a',b',rfl,ra,rv⟩:=Ua hvs
 cases ra; cases rv
 obtain⟨ia,⟨na,hia⟩,rb⟩:=(r.3 _ _ hl).2
 obtain⟨ib,⟨nb,hib⟩,rc⟩:=(r.3 _ _ hm).2
 have hs:=rb.size
 have hs2:=rc.size
 have hsl:=sizeLine_eq
 have hup:=PySem.IsL.update (n:=na) hia (·++ib)
 refine call_meets F.slot_list_extend ⟨_,hia,rfl⟩ F.entry_list_extend (F.args_list_extend_2 _ _) (AutoSeq1.list_extend_list_list_0 a ia na b ib nb (by simp[Builtin.List.listTooLong]; omega) (by omega) (by omega)) ⟨hia,hib,?_⟩
 refine⟨.none,_,j6.change (o':=.list (l++m)) (tk:=s.toks) r hl (by simp[z5.like]) (Heap.SameBut.update ..) λki=>⟨_,⟨_,hup⟩,?_⟩,.none,h⟩
 simpa using j9.append (rb.mono ki) (rc.mono ki)
theorem j9.Jk{h:Heap}:∀{l:List V}{cs:List Value}{v:V},j9 h (l++[v]) cs→∃ds cv,cs=ds++[cv]∧j9 h l ds∧Rep h v cv
 | [],cs,v,r=>by
  obtain⟨a,rfl,ra⟩:=O9 r
  exact⟨[],a,rfl,.nil,ra⟩
 | x::l,cs,v,r=>by
  cases r with
  | cons a b =>
  obtain⟨ds,cv,rfl,h1,h2⟩:=j9.Jk b
  exact⟨_::ds,cv,rfl,.cons a h1,h2⟩
theorem Zk{a:Addr}{l:List V}{v:V}(hl:O a=some (.list (l++[v]))) (hz:l.length < 1000000) (h:Q v (i8 O a (.list l))):l8 c n (.fix (.builtin "list.pop")) [.ref a] O Q E:=by
 intro A s cf X5 o r hf hvs
 cases hf
 obtain⟨a',rfl,ra⟩:=O9 hvs
 cases ra
 obtain⟨ia,⟨na,hia⟩,rb⟩:=(r.3 _ _ hl).2
 have hs:=rb.size
 simp at hs
 obtain⟨ds,cv,e,r1,r2⟩:=j9.Jk rb
 have oN:ia=(ds++[cv]).toArray:=by rw[←e]
 have hds:ds.length=l.length:=r1.length.symm
 have hy:ia[ia.size - 1]?=some cv:=by rw[oN]; simp
 have hup:=PySem.IsL.update (n:=na) hia λxs=>xs.eraseIdxIfInBounds (ia.size - 1)
 refine call_meets F.slot_list_pop ⟨_,hia,rfl⟩ F.entry_list_pop (F.args_list_pop_1 _) (MeetsSeq.list_pop_last a ia na cv hy (by rw[sizeLine_eq]; omega)) ⟨hia,?_⟩
 refine⟨v,_,j6.change (o':=.list l) (tk:=s.toks) r hl (by simp[z5.like]) (Heap.SameBut.update ..) λki=>⟨_,⟨_,hup⟩,?_⟩,?_,h⟩
 ·have:(ia.eraseIdxIfInBounds (ia.size - 1)).toList=ds:=by
   rw[oN]; simp[Array.eraseIdxIfInBounds,List.eraseIdx_append_of_length_le]
  rw[this]; exact r1.mono ki
 ·have ki:x8 s.heap (s.heap.update a (Obj.mapSeq λxs=>xs.eraseIdxIfInBounds (ia.size - 1))):=λb ob e' im=>(Heap.get?_update_other _ _ (by rintro rfl; rw[hia] at e'; cases e'; rcases im with⟨q,_⟩ | ⟨q,_⟩<;>simp at q)).trans e'
  exact r2.mono ki
theorem iO{a:Addr}{l:List (V×V)}{k d:V}(hl:O a=some (.dict l)) (hk:S5 k l) (h:Q ((x6 l k).getD d) O):l8 c n (.fix (.builtin "dict.get")) [.ref a,k,d] O Q E:=by
 intro A s cf X5 o r hf hvs
 cases hf
 obtain⟨a',ck,cd,rfl,ra,rk,oO⟩:=iN hvs
 cases ra
 have lo:=not_modules r hl
 have rd:Z0 c.prog c.w s.heap a l:=(r.3 _ _ hl).2
 have fin:∀{cr:Value}{tk:Nat},Rep s.heap ((x6 l k).getD d) cr→QE c O s Q cr {s with toks:=tk}:=λhr=>QE.mk r hr h
 rcases hk with⟨i,rfl,hk⟩ | ⟨i,rfl,hk⟩ | ⟨h8,t,rfl,hk⟩
 ·obtain⟨kvs,hd,e1,e2⟩:=U3 rd hk
  obtain⟨g1,g2⟩:=M7 V.int (λa b e=>by cases e; rfl) e1 e2 i
  cases rk
  refine call_meetsIn F.slot_dict_get hd.typeIs F.entry_dict_get (F.args_dict_get_3 _ _ _) (meets_dict_get_default (intKind c.prog c.w) (k:=i) a (by simp[intKind,Value.isInt]) lo cd) ⟨_,hd.mapOf,fin ?_⟩
  cases e:x6 l (.int i) with
  | none=>rw[e] at g1; cases e':valueAt kvs i with
   | none=>exact oO
   | some u=>rw[e'] at g1; cases g1
  | some v=>obtain⟨cv,q1,q2⟩:=g2 v e; rw[q1]; exact q2
 ·obtain⟨kvs,hd,e1,e2⟩:=Af rd hk
  obtain⟨g1,g2⟩:=M7 V.str (λa b e=>by cases e; rfl) e1 e2 i
  cases rk
  refine call_meetsIn F.slot_dict_get hd.typeIs F.entry_dict_get (F.args_dict_get_3 _ _ _) (meets_dict_get_default (PySem.strKind c.prog c.w) (k:=i) a (by simp[PySem.strKind,Value.isStrOf]) lo cd) ⟨_,hd.mapOf,fin ?_⟩
  cases e:x6 l (.str i) with
  | none=>rw[e] at g1; cases e':valueAt kvs i with
   | none=>exact oO
   | some u=>rw[e'] at g1; cases g1
  | some v=>obtain⟨cv,q1,q2⟩:=g2 v e; rw[q1]; exact q2
 ·obtain⟨xs,hd,e1,e2⟩:=U4 rd (λp hp=>hk p hp)
  obtain⟨g1,g2⟩:=Ae e1 e2 (.tup t)
  have hu:=o.2.1
  cases rk with
  | tup ta tb =>
  refine call_meetsIn F.slot_dict_get hd.typeIs F.entry_dict_get (F.args_dict_get_3 _ _ _) (meetsH_dict_get_default (O4 c.prog c.w) a _ lo cd) ⟨by show A.units+1+9 < cLine; omega,_,_,⟨.tup ta tb,h8⟩,hd,fin ?_⟩
  cases e:x6 l (.tup t) with
  | none=>rw[e] at g1; cases e':atKey xs (.tup t) with
   | none=>exact oO
   | some u=>rw[e'] at g1; cases g1
  | some v=>obtain⟨p,q1,q2⟩:=g2 v e; rw[q1]; exact q2
theorem Wg{a:Addr}{kvs:List (Int×V)}{k:Int}{d:V}(ht:Rj c a kvs) (h:Q (((kvs.find? λp=>decide (p.1=k)).map (·.2)).getD d) O):l8 c n (.fix (.builtin "dict.get")) [.fix (.ref a),.int k,d] O Q E:=by
 intro A s cf X5 o r hf hvs
 cases hf
 obtain⟨a',ck,cd,rfl,ra,rk,oO⟩:=iN hvs
 cases ra; cases rk
 obtain⟨lo,l,hd,e1,e2⟩:=Kn r ht
 have f1:(kvs.map λp=>(V.int p.1,p.2)).map (·.1)=l.map (λq=>V.int q.1):=by
  have:=congrArg (List.map V.int) e1
  simpa[List.map_map,Function.comp_def] using this
 have f2:(kvs.map λp=>(V.int p.1,p.2)).map (·.2)=kvs.map (·.2):=by simp[List.map_map,Function.comp_def]
 have f3:∀kvs:List (Int×V),x6 (kvs.map λp=>(V.int p.1,p.2)) (.int k)=(kvs.find? λp=>decide (p.1=k)).map (·.2):=by
  intro kvs
  induction kvs with
  | nil=>rfl
  | cons p kvs ih =>
   by_cases hp:p.1=k
   ·simp[x6,List.find?_cons,hp]
   ·have:¬ V.int p.1=V.int k:=λe=>hp (by cases e; rfl)
    simp only[x6,List.map_cons,List.find?_cons,this,hp,decide_false] at ih ⊢
    exact ih
 obtain⟨g1,g2⟩:=M7 V.int (λa b e=>by cases e; rfl) f1 (by rw[f2]; exact e2) k
 rw[f3] at g1 g2
 refine call_meetsIn F.slot_dict_get hd.typeIs F.entry_dict_get (F.args_dict_get_3 _ _ _) (meets_dict_get_default (intKind c.prog c.w) (k:=k) a (by simp[intKind,Value.isInt]) lo cd) ⟨_,hd.mapOf,QE.mk r ?_ h⟩
 cases e:(kvs.find? λp=>decide (p.1=k)).map (·.2) with
 | none=>rw[e] at g1; cases e':valueAt l k with
  | none=>exact oO
  | some u=>rw[e'] at g1; cases g1
 | some v=>obtain⟨cv,q1,q2⟩:=g2 v e; rw[q1]; exact q2
end
section
variable {c:Cx}{n:Nat}{O:a7}{Q:V→a7→Prop}{E:a7→Prop}
theorem call_cls(G:Good c){C fI:Addr}{vs:List V}(hm:makesIn c.K C=true) (hi:findIn c.K (.ref C) "__init__"=some (some (.ref fI))) (hf:typeIn c.K (.ref fI)=some (.type "function"))
  (h:∀x dx,O x=none→O dx=none→x≠dx→Ji c n (.fix (.ref fI)) (.ref x::vs) (i8 (i8 O dx (.ns [])) x (.inst C dx)) (λv b7=>v=.none∧Q (.ref x) b7) E):Ji c (n+1) (.fix (.ref C)) vs O Q E:=by
 intro A s cf X5 o r hf' hvs
 cases hf'
 have X:c.K.In s.heap:=G.KX.keeps r.stays
 obtain⟨hh,g,d,t,os⟩:=s
 refine make_core (makes_of X hm) (looks_findIn X hi) (λself=>bind_fn X self hf) (.inl rfl) ?_
 obtain⟨p1,hn1⟩:=j6.new (F:=λ_=>False) (s:=⟨hh,g,d,t,os⟩) (tk:=t) (o:=.ns []) (h':=hh.push emptyDict) r (by simp[Heap.size_push]) (λb o e=>Heap.get?_push_of_some _ e) (Nat.le_refl _) ⟨[],0,Heap.get?_push_size _ rfl,.nil⟩
 obtain⟨p2,hn2⟩:=j6.new (F:=λ_=>False) (s:=⟨hh.push emptyDict,g,d,t,os⟩) (tk:=t) (o:=.inst C hh.objs.size) (h':=(hh.push emptyDict).push (instObj C hh.objs.size)) p1.rel (by simp[Heap.size_push]) (λb o e=>Heap.get?_push_of_some _ e)
  (a:=hh.objs.size+1) (by rw[Heap.size_push]; exact Nat.le_refl _) (by
   show((hh.push emptyDict).push (instObj C hh.objs.size)).get? (hh.objs.size+1)=some ⟨.ref C,some hh.objs.size,.plain,#[]⟩
   heap_get)
 have hne:hh.objs.size+1≠hh.objs.size:=by omega
 have hnx:O (hh.objs.size+1)=none:=by rw[←i9 (O:=O) (o:=.ns []) hne]; exact hn2
 have p:=p1.trans p2
 have ok2:Ok c n (A.under (.builtin "type.__call__" ⟨.ref C::X5,[]⟩)) (i8 (i8 O hh.objs.size (.ns [])) (hh.objs.size+1) (.inst C hh.objs.size)) ((hh.push emptyDict).push (instObj C hh.objs.size)):=by
  obtain⟨k1,k2,k3,l,k4,k5⟩:=o.post p
  refine⟨?_,?_,k3,l,?_,k5⟩
  ·show A.depth+1+3 * n+3 < _; omega
  ·show A.units+1+20 * n+200 < _; omega
  ·rw[←k4]; unfold Around.under; dsimp only[Code.envs,Code.isFrame]; cases A.frames<;>rfl
 refine codeAny_mono (h (hh.objs.size+1) hh.objs.size hnx hn1 hne _ _ (.ref fI) (.ref (hh.objs.size+1)::X5) ok2 p.rel (.fix _) (.cons (.ref _) (hvs.mono p.Cm))) λres s' hr=>?_
 cases res with
 | error e=>exact hr.trans p
 | ok fl =>
  cases fl with
  | ret v =>
   obtain⟨v',b7,p',rv,rfl,hq⟩:=hr
   cases rv
   exact⟨rfl,.ref _,b7,p.trans p',.ref _,hq⟩
  | _=>exact hr.elim
end
end Mine
end
section
open PySem PySem.W PyProof.Rows PySem.Calls
set_option Elab.async false
set_option maxRecDepth 100000
namespace Mine
open Classical
section
variable {h:Heap}{g:Array GenState}{d:Drawn}{t:Nat}{os:OsState}
variable {nm q:Str}{C N:Addr}{bs bm bmB:List Value}{hdct:Bool}{sn:List Str}{sub:List Value}{ab:Bool}{col:Option Bool}{dd:Option Addr}{k0 k1 k2 k3 k5:Option Value}{B newId initId:String}
theorem V1{M:Model}{A:Around}{E:Value→Shared→Prop}{α:Type}{m:Sem α}{v:α}{Q:α→Shared→Prop}(l:Looks M h m v) (q:Q v ⟨h,g,d,t,os⟩):wpAny M A m Q E ⟨h,g,d,t,os⟩:=l.at q
theorem Oh{M:Model}{A:Around}{E:Value→Shared→Prop}(F:ExcBaseFacts B newId initId bmB) (hB:bm.contains (.type B)=true){rest:List Value}{Q:Unit→Shared→Prop}
  (hC:h.get? C=some (excClassObj nm q C N bs bm hdct sn sub ab col dd k0 k1 k2 k3 k5 newId)) (hq:Q () ⟨h,g,d,t,os⟩):wpAny M A (checkBuiltinCall newId ⟨.ref C::rest,[]⟩) Q E ⟨h,g,d,t,os⟩:=by
 have hc:(Value.ref C::bm).contains (.type B)=true:=by rw[List.contains_cons,hB,Bool.or_true]
 have hs:=F.noStar
 simp only[checkBuiltinCall,F.newKind,F.newSplit,F.newRow]
 repeat (first | refine wpAny_loadPart_at hC ?_ | (refine wpAny_isSubtype_exc hC ?_; rw[hc]) | refine wpAny_staticBase_exc hC ?_ | refine wpAny_madeBy_exc hC ?_ | simp only[bne_self_eq_false,Bool.false_eq_true,if_false] | wp_step)
 exact hq
theorem oP{prog:Program}{w:World}{A:Around}{R:Result→Shared→Prop}(F:ExcBaseFacts B newId initId bmB) (hB:bm.contains (.type B)=true) (hA:bm.contains (.type "AttributeError")=false) (hN:bm.contains (.type "NameError")=false){rest:List Value}
  (hC:h.get? C=some (excClassObj nm q C N bs bm hdct sn sub ab col dd k0 k1 k2 k3 k5 newId)) (hz:rest.length≤sizeLine)
  (hq:R (.ok (.ret (.ref (h.objs.size+1)))) ⟨(h.push {cls:=.type "tuple",data:=.seq rest.toArray}).push {cls:=.ref C,data:=.fields #[.ref h.objs.size,.none,.none,.none,.bool false,.none]},g,d,t,os⟩) :
  codeAny (model prog w) A (.builtin newId ⟨.ref C::rest,[]⟩) R ⟨h,g,d,t,os⟩:=by
 have he:=F.ends
 have c1:(Value.ref C::bm).contains (.type B)=true:=by rw[List.contains_cons,hB,Bool.or_true]
 have c2:(Value.ref C::bm).contains (.type "AttributeError")=false:=by rw[List.contains_cons,hA]; rfl
 have c3:(Value.ref C::bm).contains (.type "NameError")=false:=by rw[List.contains_cons,hN]; rfl
 have hrest:rest.length≤sizeLine:=hz
 refine codeAny_builtinAt F.entry ?_
 unfold Builtin.«BaseException.__new__»
 refine PySem.wpAt_bind ?_
 show PySem.wpAt _ _ _ (stack >>= _) _ _ _
 refine PySem.wpAt_bind (PySem.wpAt_stack λp below=>PySem.wpAt_of_wpAny ?_)
 wp_walk
 refine PySem.wpAt_of_wpAny ?_
 rw[F.owner]
 repeat (first | with_reducible refine wpAny_madeHere_exc F.canon hC ?_ | with_reducible refine wpAny_loadPart_at hC ?_ | (with_reducible refine wpAny_isSubtype_exc hC ?_; first | rw[c1] | rw[c2] | rw[c3]) | wp_step)
 show R _ _
 rw[Heap.size_push]
 exact hq
end
section
variable {h:Heap}{g:Array GenState}{d:Drawn}{t:Nat}{os:OsState}
variable {nm q:Str}{C N:Addr}{bs bm bmB:List Value}{hdct:Bool}{sn:List Str}{sub:List Value}{ab:Bool}{col:Option Bool}{dd:Option Addr}{k0 k1 k2 k3 k5:Option Value}{B newId initId:String}
theorem x_call{prog:Program}{w:World}{A:Around}{E:Value→Shared→Prop}(F:ExcBaseFacts B newId initId bmB) (hB:bm.contains (.type B)=true) (hA:bm.contains (.type "AttributeError")=false) (hN:bm.contains (.type "NameError")=false){rest:List Value}
  (hC:h.get? C=some (excClassObj nm q C N bs bm hdct sn sub ab col dd k0 k1 k2 k3 k5 newId)) (hz:rest.length≤sizeLine){K:Frag}(X:K.In h){fI:Addr}(hi:findIn K (.ref C) "__init__"=some (some (.ref fI))) (hf:typeIn K (.ref fI)=some (.type "function"))
  {Q:Value→Shared→Prop}
  (hq:codeAny (model prog w) ((A.under (.builtin "type.__call__" ⟨.ref C::rest,[]⟩)) ) (.call (.ref fI) ⟨.ref (h.objs.size+1)::rest,[]⟩) (λr s'=>match r with | .ok (.ret v)=>v=.none∧Q (.ref (h.objs.size+1)) s' | .ok _=>False | .error e=>E e s')
   ⟨(h.push {cls:=.type "tuple",data:=.seq rest.toArray}).push {cls:=.ref C,data:=.fields #[.ref h.objs.size,.none,.none,.none,.bool false,.none]},g,d,t,os⟩) :
  wpAny (model prog w) A (call (.ref C) rest) Q E ⟨h,g,d,t,os⟩:=by
 have f1:=tc_lookup
 have f2:=tc_bind (.ref C)
 have hT:(⟨h,g,d,t,os⟩:Shared).TypeIs (.ref C) "type":=⟨_,hC,rfl⟩
 refine wpAny_call (codeAny_of_tree ?_)
 show wpAny _ _ (callAny (.ref C) _) _ _ _
 repeat (any_goals (first | assumption | with_reducible refine wpAny_loadPart_at hC ?_ | wp_step))
 refine⟨rfl,?_⟩
 refine codeAny_call_builtin_at (Code.quiet_builtin _ (by decide +kernel)) entry_typeCall (wpAny_check_type_call_sub hC ?_)
 repeat (first | with_reducible refine wpAny_loadPart_at hC ?_ | with_reducible refine wpAny_madeBy_exc hC ?_ | wp_step)
 refine codeAny_call_builtin_code (Code.quiet_builtin _ F.quiet) (Oh F hB hC ?_)
 refine oP F hB hA hN hC hz ?_
 show wpAny _ _ _ _ _ _
 have k:∀b o,h.get? b=some o→((h.push {cls:=.type "tuple",data:=.seq rest.toArray}).push {cls:=.ref C,data:=.fields #[.ref h.objs.size,.none,.none,.none,.bool false,.none]}).get? b=some o:=λb o e=>Heap.get?_push_of_some _ (Heap.get?_push_of_some _ e)
 have iP:=k _ _ hC
 have Zl:=X.keeps k
 have hget:((h.push {cls:=.type "tuple",data:=.seq rest.toArray}).push {cls:=.ref C,data:=.fields #[.ref h.objs.size,.none,.none,.none,.bool false,.none]}).get? (h.objs.size+1)=some
   {cls:=.ref C,data:=.fields #[.ref h.objs.size,.none,.none,.none,.bool false,.none]}:=by heap_get
 have hcC:(Value.ref C::bm).contains (.ref C)=true:=by simp
 unfold isInstance
 repeat (first | with_reducible refine wpAny_loadPart_at hget ?_ | (with_reducible refine wpAny_isSubtype_exc iP ?_; rw[hcC]) | wp_step)
 refine wpAny_isSubtype_exc iP ?_
 rw[hcC]
 simp only[Bool.not_true,Bool.false_eq_true,if_false]
 refine wpAny_bind (wpAny_holding ?_)
 have t1:Looks (model prog w) ((h.push {cls:=.type "tuple",data:=.seq rest.toArray}).push {cls:=.ref C,data:=.fields #[.ref h.objs.size,.none,.none,.none,.bool false,.none]}) (typeOf (.ref (h.objs.size+1))) (.ref C):=(Looks.ld hget).andThen .now
 unfold callSpecial? specialOf
 refine wpAny_bind (wpAny_bind (t1.at (V1 (looks_findIn Zl hi) (wpAny_holding (wpAny_bind (V1 (bind_fn Zl _ hf) (wpAny_bind (wpAny_call ?_))))))))
 refine codeAny_mono hq λr s' hr=>?_
 cases r with
 | error e=>exact hr
 | ok fl =>
  cases fl with
  | ret v =>
   obtain⟨rfl,hr⟩:=hr
   exact wpAny_pure (wpAny_pure hr)
  | _=>exact hr.elim
end
end Mine
end
section
open PySem PySem.W PyProof.Rows PySem.Calls Builtin Builtin.ObjectAttr
set_option Elab.async false
set_option maxRecDepth 100000
namespace Mine
open Classical
structure eW(K:Frag) (C P:Addr) (cd:ClassData):Prop where
 at_:∃oc od sl,K.lookup C=some ⟨oc,od,.cls cd,sl⟩
 mro:cd.mro=[.ref C,.ref P,.type "Exception",.type "BaseException",.type "object"]
 hasDict:cd.hasDict=true
 set:findIn K (.ref C) "__setattr__"=some (some (.builtin "object.__setattr__"))
theorem eW.cls{K:Frag}{C P:Addr}{cd:ClassData}(x:eW K C P cd):clsIn K C=some cd:=by
 obtain⟨oc,od,sl,e⟩:=x.at_
 unfold clsIn; rw[e]
theorem kA{C P:Addr}(self:Value):refuseLoop self "__setattr__" [.ref C,.ref P,.type "Exception",.type "BaseException",.type "object"]=pure ():=by
 rw[refuseLoop_ref,refuseLoop_ref]
 exact F.store_Exception.passes self
def eX(h:Heap) (x C:Addr) (vs:Array Value) (dd:Option Addr) (es:List DictEntry) (n:Nat):Prop :=
 h.get? x=some {cls:=.ref C,dict:=dd,data:=.fields vs}∧(∀d,dd=some d→d≠x∧h.get? d=some (dictOf es n))∧(dd=none→es=[])
section
variable {prog:Program}{w:World}{A:Around}{E:Value→Shared→Prop}{s:Shared}{K:Frag}{C P x:Addr}{cd:ClassData}
theorem iQ{R:Unit→Shared→Prop}{vs:Array Value}{dd:Option Addr}{es:List DictEntry}{n:Nat}{name:Str}{v:Value}(Y:eW K C P cd) (X:K.In s.heap) (hx:eX s.heap x C vs dd es n) (ht:takerIn K C name=some none)
  (hz:es.length≤100) (hr:es.any (·.refKey)=false)
  (h:∀h' tk d es' n',eX h' x C vs (some d) es' n'→es'.length≤es.length+1→es'.any (·.refKey)=false→(dd=some d∨s.heap.get? d=none)→(∀b o,b≠x→b≠d→s.heap.get? b=some o→h'.get? b=some o)→R () {s with heap:=h',toks:=tk}) :
  wpAny (model prog w) A (setAttr (.ref x) name v) R E s:=by
 obtain⟨hat,hdd,hnil⟩:=hx
 have I:InstAt s.heap x {cls:=.ref C,dict:=dd,data:=.fields vs} C (dd.map λ_=>dictOf es n):=⟨hat,rfl,rfl,by
  cases dd with
  | none=>trivial
  | some d=>exact(hdd d rfl).2⟩
 refine set_plain X I Y.set ?_
 have SF:=PySem.F.store_object
 have X':K.In ({s with toks:=s.toks+1}:Shared).heap:=X
 have hc:=Y.cls
 have ne:cd.mro.isEmpty=false:=by rw[Y.mro]; rfl
 have sub:Looks (model prog w) s.heap (isInstance (.ref x) (.type "object")) true:=I.type.andThen (looks_mroIn X (by unfold mroIn; rw[hc,Option.bind_some,if_neg (by rw[ne]; decide),Y.mro]; simp))
 refine codeAny_call_builtin SF.slot.plain SF.entry (@check_slot (model prog w) _ _ {s with toks:=s.toks+1} "object.__setattr__" "object" "__setattr__" (.ref x) [.str name s.toks,v] [] _ SF.kind SF.split sub (SF.args (.ref x) (.str name s.toks) v) ?_)
 obtain⟨attr,ha,hr'⟩:=Option.bind_eq_some_iff.mp ht
 have hm:Looks (model prog w) ({s with toks:=s.toks+1}:Shared).heap (mroOf (.ref C)) cd.mro:=(looks_clsIn X' hc).andThen .now
 have L3:Looks (model prog w) ({s with toks:=s.toks+1}:Shared).heap (storeTaker? attr) none:=by
  cases attr with
  | none=>exact .now
  | some a =>
   obtain⟨b,hb,hb2⟩:=Option.map_eq_some_iff.mp hr'
   refine(looks_takesIn X' hb).andThen ?_
   cases b
   ·exact .now
   ·cases hb2
 rw[osa_eq,refuse_eq]
 have I':Looks (model prog w) ({s with toks:=s.toks+1}:Shared).heap (typeOf (.ref x)) (.ref C):=I.type
 refine wpAny_bind (wpAny_bind (I'.here (wpAny_bind (hm.here ?_))))
 rw[Y.mro,kA]
 refine wpAny_pure (wpAny_bind (I'.here (wpAny_bind ((looks_findIn X' ha).here (wpAny_bind (L3.here ?_))))))
 refine wpAny_bind (wpAny_pure (wpAny_bind (wpAny_bind (wpAny_loadPart hat (wpAny_bind ((looks_clsIn X' hc).here ?_))))))
 rw[Y.hasDict]
 have store:∀{B:Around}{f7:Shared}{d:Addr}{n:Nat},f7.heap.get? d=some (dictOf es n)→d≠x→f7.heap.get? x=some {cls:=.ref C,dict:=some d,data:=.fields vs} →
   (∀b o,b≠x→b≠d→s.heap.get? b=some o→f7.heap.get? b=some o)→(dd=some d∨s.heap.get? d=none)→(∃hh tt,f7={s with heap:=hh,toks:=tt}) →
   wpAny (model prog w) B (storeInDict d (.str name s.toks) name v) (λfin s'=>match fin with | .done f=>(match (Except.ok f:Result) with | .ok (.ret _)=>R () s' | .ok _=>False | .error e=>E e s') | .again c'=>c'.quiet=true∧codeAny (model prog w) A c' (λr s'=>match r with | .ok (.ret _)=>R () s' | .ok _=>False | .error e=>E e s') s') (λe s'=>E e s') f7:=fun {B f7 d n} D hne hx1 keep hd heq=>by
  obtain⟨hh,tt,rfl⟩:=heq
  unfold storeInDict newKeyGuard
  refine wpAny_bind (wpAny_pure (wpAny_bind ?_))
  unfold nsSet
  refine wpAny_bind (wpAny_bind (wpAny_askSetting (wpAny_pure (wpAny_bind (wpAny_mkText (wpAny_bind (wpAny_loadPart D ?_)))))))
  dsimp only[dictOf]
  have c0:(!es.toArray.any (·.key.isStr name) && es.toArray.any (·.refKey))=false:=by
   rw[List.any_toArray,List.any_toArray,hr,Bool.and_false]
  rw[aRefKeyMayBeTheName_at,c0]
  refine wpAny_updatePart D ?_
  have D':=Heap.get?_update_self (Obj.putName name (PyData.keyHash w.params name) (.str name tt) v) D (by rw[putName_dict]; rfl)
  rw[putName_dict] at D'
  have hl:=U8 name (PyData.keyHash w.params name) (.str name tt) v es
  refine wpAny_bind (wpAny_lookBehind D' (pastItsLine_dict (by rw[List.size_toArray,sizeLine_eq]; omega)) ?_)
  refine wpAny_pure (h _ _ d _ _ ⟨(Heap.get?_update_other _ _ hne).trans hx1,λd' e=>by cases e; exact⟨hne,D'⟩,λe=>by cases e⟩ hl ?_ hd λb o h1 h2 e=>(Heap.get?_update_other _ _ (Ne.symm h2)).trans (keep b o h1 h2 e))
  have:∀es:List DictEntry,es.any (·.refKey)=false→(putL name (PyData.keyHash w.params name) (.str name tt) v es).any (·.refKey)=false:=by
   intro es
   induction es with
   | nil=>intro _; rfl
   | cons a r ih =>
    intro hr
    rw[List.any_cons,Bool.or_eq_false_iff] at hr
    unfold putL
    split
    ·rw[List.any_cons,Bool.or_eq_false_iff]; exact⟨hr.1,hr.2⟩
    ·rw[List.any_cons,Bool.or_eq_false_iff]; exact⟨hr.1,ih hr.2⟩
  exact this es hr
 cases dd with
 | some d =>
  obtain⟨hne,D⟩:=hdd d rfl
  refine wpAny_pure (a:=some d) ?_
  exact store D hne hat (λb o _ _ e=>e) (.inl rfl) ⟨_,_,rfl⟩
 | none =>
  have:=hnil rfl
  subst this
  have hlt:x≠s.heap.objs.size:=Nat.ne_of_lt (Heap.lt_size hat)
  refine wpAny_bind (wpAny_alloc ?_)
  have hx1:(s.heap.push {cls:=.type "dict",data:=.dict #[]}).get? x=some {cls:=.ref C,dict:=none,data:=.fields vs}:=Heap.get?_push_of_some _ hat
  refine wpAny_bind (wpAny_update hx1 ?_)
  have hd0:(s.heap.push {cls:=.type "dict",data:=.dict #[]}).get? s.heap.objs.size=some {cls:=.type "dict",data:=.dict #[]}:=Heap.get?_push_size _ rfl
  refine wpAny_pure ?_
  refine store (n:=0) ((Heap.get?_update_other _ _ hlt).trans hd0) (Ne.symm hlt) (Heap.get?_update_self _ hx1 rfl) (λb o h1 h2 e=>(Heap.get?_update_other _ _ (Ne.symm h1)).trans (Heap.get?_push_of_some _ e)) (.inr (Above.of_le (Nat.le_refl _))) ⟨_,_,rfl⟩
end
end Mine
end
section
open PySem PySem.W PyProof.Rows PySem.Calls
set_option Elab.async false
set_option maxRecDepth 100000
namespace Mine
open Classical
structure V2(c:Cx) (P fI:Addr) (cd:ClassData) (fd:FuncData):Prop where
 cls:eW c.K c.k8 P cd
 obj:∃nm q N bs hdct sn sub ab col dd k0 k1 k2 k3 k5,c.K.lookup c.k8=some (excClassObj nm q c.k8 N bs [.ref P,.type "Exception",.type "BaseException",.type "object"] hdct sn sub ab col dd k0 k1 k2 k3 k5 "Exception.__new__")
 init:findIn c.K (.ref c.k8) "__init__"=some (some (.ref fI))
 typ:typeIn c.K (.ref fI)=some (.type "function")
 fn:∃p1 p2 p3 p4 p5 p6 p7 p8,oK c fI fd ["self", "code", "at"] [.Assign [.Attribute (.Name "self" p1) "code" p2] (.Name "code" p3) p4,.Assign [.Attribute (.Name "self" p5) "at" p6] (.Name "at" p7) p8]
 loc:fd.scope.names.lookup ("self":Str)=some .local∧fd.scope.names.lookup ("code":Str)=some .local∧fd.scope.names.lookup ("at":Str)=some .local
 t1:takerIn c.K c.k8 "code"=some none
 t2:takerIn c.K c.k8 "at"=some none
section
variable {c:Cx}{n:Nat}{O:a7}{E:Value→Shared→Prop}{A:Around}{s:Shared}{P fI:Addr}{cd:ClassData}{fd:FuncData}
theorem kB(G:Good c) (Y:V2 c P fI cd fd){x:Addr}{vs:Array Value}{v1 v2:Value}{R:Result→Shared→Prop}(r:c.base.StaysIn s.heap) (hx:eX s.heap x c.k8 vs none [] 0) (hxb:c.base.get? x=none) (uX:A.depth < recursionLimit)
  (h:∀h' tk d,h'.get? x=some {cls:=.ref c.k8,dict:=some d,data:=.fields vs}→(∀b o,b≠x→s.heap.get? b=some o→h'.get? b=some o)→R (.ok (.ret .none)) {s with heap:=h',toks:=tk}) :
  codeAny (model c.prog c.w) A (.call (.ref fI) ⟨[.ref x,v1,v2],[]⟩) R s:=by
 obtain⟨p1,p2,p3,p4,p5,p6,p7,p8,I⟩:=Y.fn
 obtain⟨l1,l2,l3⟩:=Y.loc
 obtain⟨oc,od,osl,hat⟩:=I.at_
 have ho:=(G.KX.keeps r) _ _ hat
 refine codeAny_call_cells uX ho rfl (G.nolimit.keeps r) (codeRec_of (G.KX.keeps r) I.code) I.body (I.bind [.ref x,v1,v2] rfl) I.clos (λy hy=>?_) (λf7 y=>?_) I.co I.gen I.kind
 ·simp at hy
  rcases hy with rfl | rfl | rfl
  ·exact .inl l1
  ·exact .inl l2
  ·exact .inl l3
 ·obtain⟨J8,tk,rfl,Jj⟩:=y.done
  generalize henv:callEnvC fd s.heap.objs.size fI=env at *
  have hkind:env.scope.kind=.function:=by rw[←henv]; exact I.kind
  have k1:env.kindOf "self"=some .local:=by rw[←henv]; exact l1
  have k2:env.kindOf "code"=some .local:=by rw[←henv]; exact l2
  have k3:env.kindOf "at"=some .local:=by rw[←henv]; exact l3
  have hL:env.locals=s.heap.objs.size:=by rw[←henv]; rfl
  have hns:=y.toInCall.ns
  have hn0:((["self", "code", "at"]:List Str).zip [.ref x,v1,v2]).map (·.1)=(["self", "code", "at"]:List Str):=rfl
  have nd:(((["self", "code", "at"]:List Str).zip [.ref x,v1,v2]).map (·.1)).Nodup:=by rw[hn0]; decide
  have m1:=U9 env.kindOf ((["self", "code", "at"]:List Str).zip [.ref x,v1,v2]) (λ_=>none) "self" (.ref x) nd (by simp) k1
  have m2:=U9 env.kindOf ((["self", "code", "at"]:List Str).zip [.ref x,v1,v2]) (λ_=>none) "code" v1 nd (by simp) k2
  have m3:=U9 env.kindOf ((["self", "code", "at"]:List Str).zip [.ref x,v1,v2]) (λ_=>none) "at" v2 nd (by simp) k3
  have Zl:c.K.In J8:=(G.KX.keeps r).keeps Jj
  have Ub:eX J8 x c.k8 vs none [] 0:=⟨Jj _ _ hx.1,(λd e=>by cases e),λ_=>rfl⟩
  have name:∀{z:Str}{pz:Pos}{v:Value}{m9:Shared}{mm:Str→Option Value}{Q:Value→Shared→Prop}{E':Value→Shared→Prop}{B:Around},(z == ("__debug__":Str))=false→m9.heap.Ns env.locals mm→mm z=some v→env.kindOf z=some .local→Q v m9→wpAny (model c.prog c.w) B (eval (.Name z pz) env) Q E' m9 :=
   λhd hn hm hk q=>wpAny_Name (wpAny_loadName_local hkind hk hn hm q) hd
  refine wpAny_execs_cons (plainObj_wpAny_Assign_Attribute (name (by decide) hns m2 k2 (name (by decide) hns m1 k1 ?_)) rfl)
  refine iQ Y.cls Zl Ub Y.t1 (by simp) rfl λWc zM d es n' Zm oQ oR oS Zn=>?_
  have Zo:J8.get? d=none:=by
   rcases oS with hd | hd
   ·cases hd
   ·exact hd
  have hLx:env.locals≠x:=by
   rintro rfl
   obtain⟨o',es',ep',q1,q2,_⟩:=hns
   rw[Ub.1] at q1; cases q1; cases q2
  obtain⟨oL,esL,epL,hoL,hdL,hqL⟩:=hns
  have hLd:env.locals≠d:=by rintro e; rw[e,Zo] at hoL; cases hoL
  have Zp:Wc.Ns env.locals _:=⟨oL,esL,epL,Zn _ _ hLx hLd hoL,hdL,hqL⟩
  have uY:c.K.In Wc:=λa o e=>by
   have:=Zl a o e
   refine Zn a o ?_ ?_ this
   ·rintro rfl
    have hb:c.base.get? a=some o:=G.KX a o e
    rw[hxb] at hb; cases hb
   ·rintro rfl; rw[Zo] at this; cases this
  refine wpAny_execs_cons (plainObj_wpAny_Assign_Attribute (name (by decide) Zp m3 k3 (name (by decide) Zp m1 k1 ?_)) rfl)
  refine iQ Y.cls uY Zm Y.t2 (by simp at oQ; omega) oR λKs oU uZ zN a2w Uc zO zP oV oW=>?_
  refine wpAny_execs_nil (h Ks oU uZ Uc.1 λb o hb e=>?_)
  have e1:=Jj b o e
  have hbd:b≠d:=by rintro rfl; rw[Zo] at e1; cases e1
  have e2:=Zn b o hb hbd e1
  refine oW b o hb ?_ e2
  rcases oV with hd | hd
  ·cases hd; exact hbd
  ·rintro rfl; rw[hd] at e2; cases e2
end
section
variable {M:Model}{A:Around}{E:Value→Shared→Prop}{env:Env}{s:Shared}
variable {nm q:Str}{C N:Addr}{bs bm:List Value}{hdct:Bool}{sn:List Str}{sub:List Value}{ab:Bool}{col:Option Bool}{dd:Option Addr}{k0 k1 k2 k3 k5:Option Value}{newId:String}
theorem x_raise{x:Sem Value}{Q:Flow→Shared→Prop}(hbase:bm.contains (.type "BaseException")=true) (hh:A.handled=none)
  (h:wpAny M A x (λv f7=>∃e d t,v=.ref e∧f7.heap.get? C=some (excClassObj nm q C N bs bm hdct sn sub ab col dd k0 k1 k2 k3 k5 newId) ∧
   f7.heap.get? e=some {cls:=.ref C,dict:=some d,data:=.fields #[.ref t,.none,.none,.none,.bool false,.none]}∧E (.ref e) f7) E s):wpAny M A (raiseStmt env (some x) none) Q E s:=by
 have c1:(Value.ref C::bm).contains (.type "BaseException")=true:=by rw[List.contains_cons,hbase,Bool.or_true]
 unfold raiseStmt
 refine wpAny_bind (wpAny_mono h (λv f7 J8=>?_) λ_ _ x=>x)
 obtain⟨e,d',t,rfl,hC,he,hE⟩:=J8
 obtain⟨hp,g,d,tk,os⟩:=f7
 repeat (first | with_reducible refine wpAny_loadPart_at he ?_ | with_reducible refine wpAny_loadPart_at hC ?_ | (with_reducible refine wpAny_isSubtype_exc hC ?_; rw[c1]) | wp_step)
 exact wpAny_raiseNew_none hh hE
end
section
variable {c:Cx}{n:Nat}{env:Env}{fs:FS}{Z:Loc}{O d9:a7}{Q:Fl→Loc→a7→Prop}{E:a7→Prop}{A:Around}{L:Addr}{s f9:Shared}{P fI:Addr}{cd:ClassData}{fd:FuncData}
theorem kC(G:Good c) (Y:V2 c P fI cd fd){v1 v2:Value}{R:Value→Shared→Prop}{E':Value→Shared→Prop}(o:Ok c n A O s.heap) (r:Rel c O s.heap)
  (h:∀h' tk x d t,(∀b o,s.heap.get? b=some o→h'.get? b=some o)→s.heap.get? x=none→h'.get? x=some {cls:=.ref c.k8,dict:=some d,data:=.fields #[.ref t,.none,.none,.none,.bool false,.none]}→R (.ref x) {s with heap:=h',toks:=tk}) :
  wpAny (model c.prog c.w) A (call (.ref c.k8) [v1,v2]) R E' s:=by
 obtain⟨nm,q,N,bs,hdct,sn,sub,ab,col,dd,k0,k1,k2,k3,k5,hC⟩:=Y.obj
 obtain⟨hh,g,d,t,os⟩:=s
 have X:c.K.In hh:=G.KX.keeps r.stays
 have hx0:hh.get? (hh.objs.size+1)=none:=Above.of_le (Nat.le_succ _)
 have ext:∀b o,hh.get? b=some o→((hh.push {cls:=.type "tuple",data:=.seq [v1,v2].toArray}).push {cls:=.ref c.k8,data:=.fields #[.ref hh.objs.size,.none,.none,.none,.bool false,.none]}).get? b=some o:=λb o e=>Heap.get?_push_of_some _ (Heap.get?_push_of_some _ e)
 refine x_call F.excBase_Exception (by simp) (by simp) (by simp) (X _ _ hC) (by rw[sizeLine_eq]; simp) X Y.init Y.typ ?_
 refine kB G Y (λb o e=>ext b o (r.1 b o e)) ⟨by heap_get,(λd e=>by cases e),λ_=>rfl⟩ (x5 r hx0) (by
  have:=o.1
  show A.depth+1 < _; omega) λh' tk d' hx hk=>?_
 refine⟨rfl,h h' tk _ d' _ (λb o e=>hk b o (by rintro rfl; rw[hx0] at e; cases e) (ext b o e)) hx0 hx⟩
theorem kD(G:Good c) (Y:V2 c P fI cd fd){id:Str}{np cpos pos:Pos}{e1 e2:Expr}{x1 x2:X}(hk:fs.sc.lookup id=some .globalImplicit) (hv:Ej c.K id=some (.fix (.ref c.k8))) (hd:(id == ("__debug__":Str))=false)
  (hkeep:calleeOk c.K (.ref c.k8)=true) (hs:eA c n fs [e1,e2] [x1,x2]) (hn1:z4 e1=true) (hn2:z4 e2=true):SS c n fs (.Raise (some (.Call (.Name id np) [e1,e2] [] cpos)) none pos) (.raise [x1,x2]):=by
 intro env L Z O Q E h A d9 f9 s a hst htop
 simp only[WS] at h
 rw[arm_exec_Raise]
 obtain⟨nm,q,N,bs,hdct,sn,sub,ab,col,dd,k0,k1,k2,k3,k5,hC⟩:=Y.obj
 refine wpAny_bind (wpAny_standAt ?_)
 show wpAny _ _ (raiseStmt env (some (do let v ←eval (.Call (.Name id np) [e1,e2] [] cpos) env; standAt pos; pure v)) none) _ _ _
 refine x_raise (bm:=[.ref P,.type "Exception",.type "BaseException",.type "object"]) (nm:=nm) (q:=q) (C:=c.k8) (N:=N) (bs:=bs) (hdct:=hdct) (sn:=sn) (sub:=sub) (ab:=ab) (col:=col) (dd:=dd) (k0:=k0) (k1:=k1) (k2:=k2) (k3:=k3) (k5:=k5) (newId := "Exception.__new__") (by simp) a.ok.2.2.1 ?_
 rw[arm_eval_Call_Name']
 refine wpAny_bind (wpAny_bind ?_)
 have ng:=Yq (env:=env) (n:=n) (Z:=Z) (O:=O) (E:=E) (pos:=np) (Q:=λv b7=>v=.fix (.ref c.k8)∧b7=O) G hk hv hd ⟨rfl,rfl⟩
 refine wpAny_mono (ng A s a.ok a.G1 a.rel) (λcf f7 ⟨v,d0,A2,u7,hv1,hs1⟩=>?_) λ_ _ e=>e.ef a
 subst hv1 hs1
 cases u7
 have j4:=a.step A2
 have hp:(backTo cpos (starEach [e1,e2] env)).any (·.1)=false:=by
  rw[x0 hn1,z9,x0 hn2,z9]; rfl
 refine callWith_of (P:=c.K.In) (by rw[hp]; rfl) (Kq hkeep) ?_
 rw[x0 hn1,z9]
 refine evalArgs_plain ?_
 rw[←z9,←x0 hn1]
 refine wpAny_mono (hs env Z _ _ E h A f7 cpos j4.ok j4.G1 j4.rel) (λX5 m9 ⟨vs,o6,G7,N8,hl,he⟩=>?_) λ_ _ e=>e.ef j4
 have m8:=j4.step G7
 refine⟨G.KX.keeps m8.rel.stays,?_⟩
 have hvs:∃u1 u2,X5=[u1,u2]:=by
  have:=N8.length
  rw[hl] at this
  match X5,this with
  | [u1,u2],_=>exact⟨u1,u2,rfl⟩
 obtain⟨u1,u2,rfl⟩:=hvs
 refine kC G Y m8.ok m8.rel λh' tk x d t hext hx0 hx=>?_
 refine wpAny_bind (wpAny_standAt (wpAny_pure ?_))
 have Z2:=m8.step (j6.grow (tk:=tk) m8.rel hext)
 refine⟨x,d,t,rfl,(G.KX.keeps Z2.rel.stays) _ _ hC,hx,.new,Z,o6,.inl rfl,Z2,?_,he⟩
 exact⟨x,_,_,.ref t,rfl,Above.back (h':=m9.heap) hx0 m8.post.keep.1,hx,rfl,rfl,rfl,rfl⟩
end
section
variable {c:Cx}{n:Nat}{env:Env}{fs:FS}{Z:Loc}{O d9:a7}{Q:Fl→Loc→a7→Prop}{E:a7→Prop}{A:Around}{L:Addr}{s f9:Shared}
theorem Wh(G:Good c){B:Around}{R:Value→Shared→Prop}{E':Value→Shared→Prop}{x:Str}{a:Addr}{pos:Pos}(hk:fs.sc.lookup x=some .globalImplicit) (hv:Ej c.K x=some (.fix (.ref a))) (hd:(x == ("__debug__":Str))=false)
  (f:Y6 c env fs Z O s.heap) (r:Rel c O s.heap) (h:R (.ref a) s):wpAny (model c.prog c.w) B (eval (.Name x pos) env) R E' s:=by
 have hko:env.kindOf x=some .globalImplicit:=by unfold Env.kindOf; rw[f.names]; exact hk
 obtain⟨mg,hg⟩:=G.mg
 obtain⟨mb,hb,hbb⟩:=G.mb
 have hgs:s.heap.Ns env.globals mg:=by rw[f.glob]; exact hg.keeps r.1
 have hbs:s.heap.Ns env.builtins mb:=by rw[f.blt]; exact hb.keeps r.1
 have one:∀{cv:Value},Iy cv=some (.fix (.ref a))→cv=.ref a:=fun {cv} e=>by
  cases cv<;>simp[Iy] at e; exact congrArg _ e
 unfold Ej at hv
 split at hv
 ·rename_i cv e
  have:=one hv; subst this
  exact Name_function_global f.kind hko (loadGlobal_global hgs (mg_of G.KX hg e) h) hd
 ·rename_i e
  split at hv
  ·cases hv
  ·rename_i hne
   obtain⟨cv,e1,e2⟩:=Option.bind_eq_some_iff.mp hv
   have:=one e2; subst this
   refine Name_function_global f.kind hko (loadGlobal_builtin hgs (mg_none_of G.KX hg e) hbs ?_ h) hd
   rw[hbb x (by simpa using hne)]; exact e1
 ·cases hv
theorem vA(G:Good c){e:Expr}{p1 p2 lp hpos np pos:Pos}{id:Str}{xe:X}(hx:SX c n fs e xe) (hk:fs.sc.lookup id=some .globalImplicit) (hv:Ej c.K id=some (.fix (.ref c.k8))) (hd:(id == ("__debug__":Str))=false)
  (hm:exmOne c.K (.ref c.k8) (.ref c.k8)=some true):SS c n fs (.Try [.Return (some e) p1] [.ExceptHandler (some (.Name id np)) none [.Return (some (.List [] lp)) p2] hpos] [] [] pos) (.eJ xe):=by
 intro env L Z O Q E h A d9 f9 s a hst htop
 simp only[WS] at h
 refine wpAny_Try_except ?_
 refine wpAny_execs_cons (wpAny_Return_some ?_)
 refine wpAny_mono (hx env Z O _ _ h A s a.ok a.G1 a.rel) (λcv f7 ⟨v,d0,p,hr,q⟩=>⟨.ret v,Z,d0,hr,a.step p,q⟩) λev f7 ⟨d0,p,hexc,hE⟩=>?_
 have j4:=a.step p
 have Ub:=hexc.mono a.post.keep.1
 refine Kw j4 hst htop (.inr (.inl rfl)) Ub λWc m8 Zm=>?_
 refine X6 m8 (.inr ⟨L,rfl⟩) Zm hst none λKs Z2 Uc=>?_
 have uR:=Uc
 obtain⟨x,ob,vs,a0,rfl,q2,q3,q4,q5,q6,q7⟩:=uR
 have vB:c.K.In Ks:=G.KX.keeps Z2.rel.stays
 have LT:Looks (model c.prog c.w) Ks (typeOf (.ref x)) (.ref c.k8):=q4 ▸ ((Looks.ld q3).andThen .now)
 refine wpAny_handleBy_cons (codeAny_handlers_test (Wh G hk hv hd Z2.G1 Z2.rel ?_)) (by intro q; cases q)
 refine(exm_one vB LT hm).here ?_
 refine codeAny_handlers_suite (X6 Z2 (.inl rfl) Uc hst none λK7 oX zQ=>?_)
 refine wpAny_execs_cons (wpAny_Return_some (wpAny_List_spliced ?_))
 refine spliced_nil ⟨by simp,?_⟩
 obtain⟨p5,hn5⟩:=j6.new (F:=λ_=>False) (s:={f7 with heap:=K7}) (tk:=f7.toks) (o:=.list []) (h':=K7.push {cls:=.type "list",data:=.seq ([]:List Value).toArray}) oX.rel (by simp[Heap.size_push]) (λb o e=>Heap.get?_push_of_some _ e) (Nat.le_refl _)
  ⟨#[],⟨0,Heap.get?_push_size _ rfl⟩,.nil⟩
 exact⟨.ret (.ref K7.objs.size),Z,_,.ref _,oX.step p5,hE _ hn5⟩
end
end Mine
end
section
open PySem PySem.W PyProof.Rows PySem.Calls
set_option Elab.async false
namespace Mine
open Classical
theorem P0{α β:Type}{f g:α→Option β}:∀{l:List α},(∀a∈l,f a=g a)→l.filterMap f=l.filterMap g
 | [],_=>rfl
 | a::l,h=>by
  rw[List.filterMap_cons,List.filterMap_cons,h a (.head _),P0 λb hb=>h b (.tail _ hb)]
theorem Rt{ps:List Str}:∀{vals:List Value},ps.Nodup→vals.length=ps.length→(ps.all λn=>((ps.zip vals).lookup n).isSome)=true∧(ps.filterMap λn=>((ps.zip vals).lookup n).map (n,·))=ps.zip vals:=by
 induction ps with
 | nil=>intro vals _ h; simp
 | cons p ps ih =>
  intro vals hn hl
  cases vals with
  | nil=>simp at hl
  | cons v vs =>
   obtain⟨h1,h2⟩:=List.nodup_cons.mp hn
   have hl':vs.length=ps.length:=by simpa using hl
   obtain⟨i1,i2⟩:=ih h2 hl'
   have key:∀n∈ps,((p::ps).zip (v::vs)).lookup n=(ps.zip vs).lookup n:=λn hm=>by
    have:(n == p)=false:=by rw[beq_eq_false_iff_ne]; rintro rfl; exact h1 hm
    rw[List.zip_cons_cons,List.lookup_cons,this]
   have k0:((p::ps).zip (v::vs)).lookup p=some v:=by simp[List.zip_cons_cons]
   constructor
   ·rw[List.all_cons,k0]
    simp only[Option.isSome_some,Bool.true_and]
    rw[List.all_eq_true] at i1 ⊢
    intro n hm; rw[key n hm]; exact i1 n hm
   ·rw[List.filterMap_cons,k0]
    simp only[Option.map_some]
    rw[List.zip_cons_cons]
    congr 1
    refine Eq.trans (P0 λn hm=>?_) i2
    have:=key n hm
    rw[List.zip_cons_cons] at this
    rw[this]
theorem V4{fd:FuncData}(h1:fd.params.posonlyargs=[]) (h2:fd.params.vararg=none) (h3:fd.params.kwonlyargs=[]) (h4:fd.params.kwarg=none) (h5:fd.defaults=.none) (hn:(fd.params.args.map (·.arg)).Nodup){vals:List Value}(hl:vals.length=(fd.params.args.map (·.arg)).length) :
  bindArgs fd {pos:=vals}=pure ((fd.params.args.map (·.arg)).zip vals):=by
 obtain⟨a1,a2⟩:=Rt hn hl
 have hd:seqItems? (Value.none)=pure none:=rfl
 generalize hps:fd.params.args.map (·.arg)=ps at *
 have hm:(List.filter (λn=>(List.lookup n (ps.zip vals)).isNone) ps)=[]:=by
  rw[List.filter_eq_nil_iff]
  intro n hmem
  rw[List.all_eq_true] at a1
  have:=a1 n hmem
  simp[Option.isNone_iff_eq_none,Option.isSome_iff_ne_none] at this ⊢
  exact this
 unfold bindArgs
 simp only[h1,h2,h3,h4,h5,hps,hd,List.map_nil,List.nil_append,List.append_nil,List.forIn_nil,pure_bind,Option.getD_none,List.length_nil,Nat.sub_zero,Nat.zero_sub,List.drop_zero,List.drop_nil,List.take_length,hm,List.isEmpty_nil,Bool.not_true,
  Bool.false_eq_true,if_false,List.zip_nil_right,a2,hl,Nat.lt_irrefl,gt_iff_lt,decide_false,Bool.false_and,Option.isNone_none,Bool.and_true,Array.toList_empty,Array.toList]
end Mine
end
section
open PySem PySem.W PyProof.Rows PySem.Calls
set_option Elab.async false
set_option maxRecDepth 20000
namespace Mine
open Classical
def RD(h:Heap) (d:Addr) (es:Array DictEntry) (ep:Nat):Prop:=∃o,h.get? d=some o∧o.ExactDict∧o.data=.dict es ep
section
variable {prog:Program}{w:World}{A:Around}{E:Value→Shared→Prop}{s:Shared}{d it:Addr}{es:Array DictEntry}{ep i:Nat}
theorem RD.typeIs(h:RD s.heap d es ep):s.TypeIs (.ref d) "dict":=let ⟨o,h1,h2,_⟩:=h; ⟨o,h1,h2.1⟩
theorem RD.keep{h h':Heap}(x:RD h d es ep) (k:∀o,h.get? d=some o→h'.get? d=some o):RD h' d es ep:=let ⟨o,h1,h2⟩:=x; ⟨o,k o h1,h2⟩
theorem Oi{Q:Value→Shared→Prop}(lo:(d == sysModules)=false) (h:RD s.heap d es ep)
  (hQ:Q (.ref s.heap.objs.size) {s with heap:=s.heap.push {cls:=.type "dict_keyiterator",data:=.fields #[.ref d,.int 0 0,.int es.size 0,.int ep 0]}}):wpAny (model prog w) A (pyIter (.ref d)) Q E s:=by
 obtain⟨o,ho,hx,hd⟩:=id h
 refine wpAny_pyIter_slot h.typeIs F.slot_dict_iter (wpAny_call_entry F.slot_dict_iter h.typeIs F.entry_dict_iter ?_ (F.args_dict_iter_1 _))
 show wpAny _ _ (Builtin.Dict.dictSlotNone "__iter__" ⟨[.ref d],[]⟩ >>= _) _ _ s
 refine wpAny_bind (wpAny_bind (wpAny_notOrdered_dict h.typeIs (wpAny_pure ?_)))
 show wpAny _ _ (Builtin.Dict.showsAll d >>= _) _ _ s
 unfold Builtin.Dict.showsAll
 rw[if_neg (by rw[lo]; exact Bool.false_ne_true)]
 refine wpAny_bind (wpAny_pure (wpAny_bind (wpAny_dictEntries ho hd (wpAny_bind (wpAny_dictEpoch ho hd ?_)))))
 exact wpAny_bind (wpAny_newObj_type (wpAny_pure ⟨_,rfl, "dict_keyiterator",_,⟨_,Heap.get?_push_size _ rfl,rfl⟩,F.slot_dict_keyiterator_next.lookup,by simpa[rawInt] using hQ⟩))
theorem Oj{Q:Option Value→Shared→Prop}{e:DictEntry}(hit:s.heap.IsKeyIter it d i es.size ep) (h:RD s.heap d es ep) (hx:es[i]?=some e)
  (hQ:∀h',h'.IsKeyIter it d (i+1) es.size ep→Heap.SameBut it s.heap h'→Q (some e.key) {s with heap:=h'}):wpAny (model prog w) A (pyNext (.ref it)) Q E s:=by
 obtain⟨oi,hoi,zR,hdi⟩:=id hit
 obtain⟨o,ho,_,hd⟩:=id h
 obtain⟨hlt,he⟩:=Array.getElem?_eq_some_iff.mp hx
 have hown:Builtin.Dict_items.ownsTuple "dict_keyiterator"=false:=by decide
 have name:∀{s':Shared}{Q:String→Shared→Prop}{A:Around}{E:Value→Shared→Prop},s'.TypeIs (.ref it) "dict_keyiterator"→Q "dict_keyiterator" s'→wpAny (model prog w) A (typeNameOfWhole (.ref it)) Q E s':=λh q=>wpAny_typeNameOfWhole_keyiter h q
 unfold pyNext
 refine wpAny_bind (wpAny_attempt (wpAny_callSpecial?_slot (name:=Str.ofString "__next__") hit.typeIs F.slot_dict_keyiterator_next (wpAny_call_entry F.slot_dict_keyiterator_next hit.typeIs F.entry_dict_keyiterator_next ?_ (F.args_dict_keyiterator_next_1 _))))
 refine wpAny_bind (wpAny_pure (wpAny_bind (wpAny_bind (wpAny_bind (name hit.typeIs (wpAny_pure (wpAny_bind (wpAny_fieldsOf hoi hdi ?_))))))))
 simp only[hown,Bool.false_eq_true,if_false]
 show wpAny _ _ (if (Value.ref d == Value.none)=true then _ else _) _ _ s
 rw[if_neg (show ¬((Value.ref d == Value.none)=true) from Bool.false_ne_true)]
 refine wpAny_bind (wpAny_pure (wpAny_bind (wpAny_dictEntries ho hd ?_)))
 rw[if_neg (by simp)]
 refine wpAny_bind (wpAny_pure (wpAny_bind (wpAny_dictEpoch ho hd ?_)))
 rw[if_neg (by simp)]
 refine wpAny_pure ?_
 simp only[show ¬((i:Int) < 0) by omega,if_false,Int.toNat_natCast,hx]
 refine wpAny_bind (wpAny_bind (name hit.typeIs (wpAny_pure (wpAny_bind (wpAny_isOneOf_keyiter hit.typeIs ?_)))))
 show wpAny _ _ (setField (.ref it) 1 (rawInt ((i:Int)+1)) >>= _) _ _ s
 refine wpAny_bind (wpAny_setField hoi hdi (by simp) ?_)
 have hit':(s.heap.update it (Obj.mapFields (·.setIfInBounds 1 (rawInt ((i:Int)+1))))).IsKeyIter it d (i+1) es.size ep :=
  ⟨_,Heap.get?_update_self _ hoi (Obj.isFreed_of_fields (Obj.data_mapFields hdi _)),(Obj.cls_mapFields ..).trans zR,by rw[Obj.data_mapFields hdi]; simp[rawInt]⟩
 refine wpAny_bind (wpAny_holding (wpAny_bind (wpAny_isOneOf_keyiter (s:={s with heap:=s.heap.update it (Obj.mapFields (·.setIfInBounds 1 (rawInt ((i:Int)+1))))}) hit'.typeIs ?_)))
 show wpAny _ _ (pure e.key) _ _ _
 exact wpAny_pure (wpAny_pure ⟨_,rfl,wpAny_pure (hQ _ hit' (Heap.SameBut.update ..))⟩)
theorem Ud{Q:Option Value→Shared→Prop}(hh:A.handled=none) (hit:s.heap.IsKeyIter it d i es.size ep) (h:RD s.heap d es ep) (hx:es[i]?=none)
  (hQ:∀h',Heap.ExtBut it s.heap h'→Q none {s with heap:=h'}):wpAny (model prog w) A (pyNext (.ref it)) Q E s:=by
 obtain⟨oi,hoi,zR,hdi⟩:=id hit
 obtain⟨o,ho,_,hd⟩:=id h
 have hown:Builtin.Dict_items.ownsTuple "dict_keyiterator"=false:=by decide
 have name:∀{s':Shared}{Q:String→Shared→Prop}{A:Around}{E:Value→Shared→Prop},s'.TypeIs (.ref it) "dict_keyiterator"→Q "dict_keyiterator" s'→wpAny (model prog w) A (typeNameOfWhole (.ref it)) Q E s':=λh q=>wpAny_typeNameOfWhole_keyiter h q
 unfold pyNext
 refine wpAny_bind (wpAny_attempt (wpAny_callSpecial?_slot (name:=Str.ofString "__next__") hit.typeIs F.slot_dict_keyiterator_next (wpAny_call_entry F.slot_dict_keyiterator_next hit.typeIs F.entry_dict_keyiterator_next ?_ (F.args_dict_keyiterator_next_1 _))))
 refine wpAny_bind (wpAny_pure (wpAny_bind (wpAny_bind (wpAny_bind (name hit.typeIs (wpAny_pure (wpAny_bind (wpAny_fieldsOf hoi hdi ?_))))))))
 simp only[hown,Bool.false_eq_true,if_false]
 show wpAny _ _ (if (Value.ref d == Value.none)=true then _ else _) _ _ s
 rw[if_neg (show ¬((Value.ref d == Value.none)=true) from Bool.false_ne_true)]
 refine wpAny_bind (wpAny_pure (wpAny_bind (wpAny_dictEntries ho hd ?_)))
 rw[if_neg (by simp)]
 refine wpAny_bind (wpAny_pure (wpAny_bind (wpAny_dictEpoch ho hd ?_)))
 rw[if_neg (by simp)]
 refine wpAny_pure ?_
 simp only[show ¬((i:Int) < 0) by omega,if_false,Int.toNat_natCast,hx]
 refine wpAny_bind (wpAny_bind (name hit.typeIs (wpAny_pure ?_)))
 show wpAny _ _ (setField (.ref it) 0 .none >>= _) _ _ s
 refine wpAny_bind (wpAny_setField hoi hdi (by simp) ?_)
 show wpAny _ _ (newExc (.type "StopIteration") [] >>= _) _ _ _
 simp only[newExc,newTuple]
 refine wpAny_bind (wpAny_bind (wpAny_newObj_type ?_ (by size_fits)))
 refine wpAny_bind (m:=firstArgMember _ _) (wpAny_of_eq (a:=Value.none) (by first | rfl | (simp only[firstArgMember]; rfl)) ?_)
 refine wpAny_newObj_type ?_ (by size_fits)
 simp only[raiseNew]
 refine wpAny_bind (wpAny_handled ?_)
 rw[show A.in1.handled=none from hh]
 refine wpAny_bind (wpAny_pure (wpAny_throw ?_))
 refine wpAny_bind (wpAny_isInstance (T := "StopIteration") (b:=true) ⟨_,Heap.get?_push_size _ rfl,rfl⟩ isSubtype_stop ?_)
 exact wpAny_pure (hQ _ (((Heap.SameBut.update ..).extBut.push _).push _))
end
theorem Ol{prog:Program}{w:World}{h:Heap}{a:Addr}{l:List (V×V)}(r:Z0 prog w h a l) (hl:∀p∈l,∃t,p.1=V.tup t) :
  ∃es ep,RD h a es ep∧es.size=l.length∧∀(j:Nat) (e:DictEntry),es[j]?=some e→∃p,l[j]?=some p∧Rep h p.1 e.key:=by
 obtain⟨xs,⟨o,es,ep,h1,h2,h3,h4,h5,h6⟩,e1,e2⟩:=U4 r hl
 have hlen:xs.length=l.length:=by have:=congrArg List.length e1; simpa using this.symm
 refine⟨es,ep,⟨o,h1,h2,h3⟩,by rw[←hlen]; have:=congrArg List.length h4; simpa using this,λj e hj=>?_⟩
 rw[entry_at h4] at hj
 simp only[Option.map_eq_some_iff] at hj
 obtain⟨x,hx,rfl⟩:=hj
 have hk:=(h5 x (List.mem_of_getElem? hx)).1
 have hjl:j < l.length:=by have:=(List.getElem?_eq_some_iff.mp hx).1; omega
 refine⟨l[j],List.getElem?_eq_getElem hjl,?_⟩
 have:(l.map (·.1))[j]?=(xs.map (·.1))[j]?:=by rw[e1]
 rw[List.getElem?_map,List.getElem?_map,hx,List.getElem?_eq_getElem hjl] at this
 simp only[Option.map_some,oI] at this
 rw[this]; exact hk
section
variable {c:Cx}{n:Nat}{fs:FS}{Z:Loc}{O d9:a7}{Q:V→a7→Prop}{E:a7→Prop}{A:Around}{Fr:Addr→Prop}{s f9:Shared}
theorem Wi{x:Str}{u:Nat}{t:List V}:N7 x (.tup (.str ⟨#[u]⟩::t))=decide (u∈x.cps.toList):=by
 unfold N7
 rw[Bool.eq_iff_iff,List.any_eq_true,decide_eq_true_eq]
 constructor
 ·rintro⟨y,hy,e⟩
  simp at e; subst e; exact hy
 ·intro h; exact⟨u,h,by simp⟩
theorem Wj{env:Env}{x:Str}{xs:Str}{i k k':Nat}{pn pc ps pk pos:Pos}{v:V}{u:Nat}{t:List V}(a:D4 c n env fs A Fr d9 f9 Z O s) (hx:fs.res.lookup x=some i) (hk:fs.sc.lookup x=some .local) (hv:Z i=some v) (vC:v=.tup (.str ⟨#[u]⟩::t))
  (hd:(x == ("__debug__":Str))=false){R:Bool→Shared→Prop}{E':Value→Shared→Prop}(h:∀tk,R (N7 xs v) {s with toks:=tk}) :
  wpAny (model c.prog c.w) A (isTrue (.Compare (.Subscript (.Name x pn) (.Constant (.int 0) k pc) ps) [.In] [.Constant (.str xs) k' pk] pos) env (eval (.Compare (.Subscript (.Name x pn) (.Constant (.int 0) k pc) ps) [.In] [.Constant (.str xs) k' pk] pos) env)) R E' s:=by
 have f:=a.G1
 have hko:env.kindOf x=some .local:=by unfold Env.kindOf; rw[f.names]; exact hk
 obtain⟨m,hn,hm⟩:=f.ns
 obtain⟨cv,e1,e2⟩:=hm x i v hx hv hko
 refine wpAny_isTrue_Compare1 (Subscript_ (wpAny_Name (wpAny_loadName_local f.kind hko hn e1 ?_) hd)) (by rfl)
 refine wpAny_Constant_int ?_
 subst vC
 cases e2 with
 | @tup _ _ ia ta ra =>
 have hT:=ta.isTuple.typeIs
 obtain⟨na,ha⟩:=ta
 obtain⟨c0,g1,g2⟩:=ra.get (show(V.str ⟨#[u]⟩::t)[0]?=some (V.str ⟨#[u]⟩) from rfl)
 have hz:=ra.size
 refine tail_any hT F.slot_tuple_getitem.lookup (getItem_tuple ⟨_,ha,rfl,na,rfl⟩ (by omega) (by omega) (Q6 (by omega) (by rw[hz]; simp)) (by simpa using g1) ?_) rfl
 refine Constant_str ?_
 have hu:A.units+200 < cLine:=by have:=a.ok.2.1; omega
 have rel:Rel c O s.heap:=a.rel
 refine wpAny_mono (Yt (s:={s with toks:=s.toks+1+1}) (O:=O) (x:=.str ⟨#[u]⟩) (y:=.str xs) (Q:=λb=>b=N7 xs (.tup (.str ⟨#[u]⟩::t))) (E:=E') false g2 (.str ..) rel hu ?_) (λcb s' ⟨b,tk,h1,h2,h3⟩=>?_) λ_ _ e=>e
 ·simp only[IN]
  exact⟨u,rfl,Wi.symm⟩
 ·subst h1 h3
  exact wpAny_truthy_bool (by rw[h2]; exact h tk)
theorem Et{h:Heap}{I d:Addr}{i m ep:Nat}(x:h.IsKeyIter I d i m ep):∃o vs,h.get? I=some o∧o.data=.fields vs∧¬ Cj o:=by
 obtain⟨o,ho,hc,hd⟩:=x
 refine⟨o,_,ho,hd,λim=>?_⟩
 rcases im with⟨q,_⟩ | ⟨q,_⟩<;>rw[hc] at q<;>simp at q
theorem Zq{x xs:Str}{pa pb pn pc ps pk p4:Pos}{Wl Wm:Nat}{iter:Expr}{scope:Scope}{pos:Pos}{xi:X}{j:Nat}(hi:Inj fs) (hiter:SX c n fs iter xi) (U5:∀env x,foldedSetIterable iter env x=pure x) (cs:I1 fs scope (.one j))
  (hsx:M8 (q9 fs scope) false x j) (hdb:(x == ("__debug__":Str))=false){env:Env}{R:Value→Shared→Prop}{use:Option (Value→Sem Unit)}
  (h:WX c n (.Z1 xi xs) Z O Q E) (o:Ok c n A O s.heap) (f:Y6 c env fs Z O s.heap) (re:Rel c O s.heap)
  (fin:∀D C b7 s',CompEnd c O s Q D C b7 s'→compPost (model c.prog c.w) A (EE c O s E) use R (.ref D) C (.ok .next) s') :
  wpAny (model c.prog c.w) A (comprehension (.ListComp (.Name x pa) [⟨.Name x pb,iter,[.Compare (.Subscript (.Name x pn) (.Constant (.int 0) Wl pc) ps) [.In] [.Constant (.str xs) Wm pk] p4],0⟩] scope pos) scope env (firstIterPos [⟨.Name x pb,iter,[.Compare (.Subscript (.Name x pn) (.Constant (.int 0) Wl pc) ps) [.In] [.Constant (.str xs) Wm pk] p4],0⟩] pos) (newList []) false (firstIter [⟨.Name x pb,iter,[.Compare (.Subscript (.Name x pn) (.Constant (.int 0) Wl pc) ps) [.In] [.Constant (.str xs) Wm pk] p4],0⟩] env) use) R (EE c O s E) s:=by
 simp only[WX] at h
 have hf:∀y∈scope.names,y.2=NameKind.free→(env.cells.lookup y.1).isSome=true:=λy hy hyf=>by
  obtain⟨hk,hr⟩:=cs.free y hy hyf
  obtain⟨j,hj⟩:=Option.isSome_iff_exists.mp hr
  obtain⟨a,ov,g,_⟩:=f.cell y.1 j hj (by unfold Env.kindOf; rw[f.names]; exact hk)
  rw[g]; rfl
 refine wpAny_comprehension_free (use:=use) rfl (λx=>U5 env x) (Y7 hf) cs.kind cs.names ?_
 refine(hiter env Z O _ E h).at (.start o f re) λci iv d0 f7 j4 A2 u7 ⟨d,l,hiv,hdl,hlen,hkeys,hq⟩=>?_
 subst hiv
 cases u7
 have lo:=not_modules j4.rel hdl
 have rdp:Z0 c.prog c.w f7.heap d l:=(j4.rel.3 _ _ hdl).2
 obtain⟨es,ep,hR,hes,hat⟩:=Ol rdp λp hp=>by obtain⟨_,u,t,e⟩:=hkeys p hp; exact⟨_,e⟩
 refine Oi lo hR ?_
 generalize hI:f7.heap.objs.size=I
 have k2:∀b o,f7.heap.get? b=some o→(f7.heap.push {cls:=.type "dict_keyiterator",data:=.fields #[.ref d,.int 0 0,.int es.size 0,.int ep 0]}).get? b=some o:=λb o e=>Heap.get?_push_of_some _ e
 have Kx:Above f7.heap I:=.of_le (by rw[hI]; exact Nat.le_refl _)
 have oY:Above s.heap I:=Kx.back j4.post.keep.1
 have zS:c.base.get? I=none:=x5 j4.rel Kx
 have S7:(f7.heap.push {cls:=.type "dict_keyiterator",data:=.fields #[.ref d,.int 0 0,.int es.size 0,.int ep 0]}).IsKeyIter I d 0 es.size ep:=⟨_,by rw[←hI]; exact Heap.get?_push_size _ rfl,rfl,rfl⟩
 have m8:At c n env fs A O s Z d0 {f7 with heap:=f7.heap.push {cls:=.type "dict_keyiterator",data:=.fields #[.ref d,.int 0 0,.int es.size 0,.int ep 0]}}:=j4.step (j6.grow (tk:=f7.toks) j4.rel k2)
 have sK:=hR.keep (h':=f7.heap.push {cls:=.type "dict_keyiterator",data:=.fields #[.ref d,.int 0 0,.int es.size 0,.int ep 0]}) λo e=>k2 d o e
 have oZ:∀(j:Nat) (e:DictEntry),es[j]?=some e→∃p,l[j]?=some p∧Rep (f7.heap.push {cls:=.type "dict_keyiterator",data:=.fields #[.ref d,.int 0 0,.int es.size 0,.int ep 0]}) p.1 e.key:=λj e he=>by
  obtain⟨p,h1,h2⟩:=hat j e he
  exact⟨p,h1,h2.mono λb o e _=>k2 b o e⟩
 generalize hs2:{f7 with heap:=f7.heap.push {cls:=.type "dict_keyiterator",data:=.fields #[.ref d,.int 0 0,.int es.size 0,.int ep 0]}}=m9 at *
 have hh2:m9.heap=f7.heap.push {cls:=.type "dict_keyiterator",data:=.fields #[.ref d,.int 0 0,.int es.size 0,.int ep 0]}:=by rw[←hs2]
 rw[←hh2] at k2 S7 sK oZ
 have hdI:d≠I:=by obtain⟨od,ho,_⟩:=hR; rintro rfl; exact Kx.not ho
 refine wpAny_newObj_type ?_ (by size_fits)
 generalize hD:m9.heap.objs.size=D
 have k3:∀b o,m9.heap.get? b=some o→(m9.heap.push {cls:=.type "list",data:=.seq ([]:List Value).toArray}).get? b=some o:=λb o e=>Heap.get?_push_of_some _ e
 have I6:Above m9.heap D:=.of_le (by rw[hD]; exact Nat.le_refl _)
 have Za:Above s.heap D:=I6.back m8.post.keep.1
 have hD2:2 < D:=by
  obtain⟨b',h1,o',h2⟩:=m8.rel.2
  rw[←hD]; exact Nat.lt_trans h1 (Heap.lt_size (m8.rel.1 b' o' h2))
 have nS:c.base.get? D=none:=x5 m8.rel I6
 generalize uI:m9.heap.push {cls:=.type "list",data:=.seq ([]:List Value).toArray}=H3 at *
 have Ny:H3.PlainList D #[]:=⟨0,by rw[←uI,←hD]; exact Heap.get?_push_size _ rfl⟩
 refine wpAny_newFunctionEnv cs.Ro (by intro y hy; cases hy) (λK7 hns hsb=>?_) cs.kind
 generalize hC:H3.objs.size=C
 simp only[hC] at hns hsb ⊢
 have Q8:Above H3 C:=.of_le (by rw[hC]; exact Nat.le_refl _)
 have k4:∀b o,H3.get? b=some o→K7.get? b=some o:=λb o e=>(hsb.2 b (by rintro rfl; exact Q8.not e)).trans (Heap.get?_push_of_some _ e)
 have eB:∀b o,m9.heap.get? b=some o→K7.get? b=some o:=λb o e=>k4 b o (k3 b o e)
 have E4:Above m9.heap C:=Q8.back λb o e=>⟨o,k3 b o e⟩
 have jN:Above s.heap C:=E4.back m8.post.keep.1
 have hCb:c.base.get? C=none:=x5 m8.rel E4
 have hDC:D≠C:=by rintro rfl; obtain⟨nn,e⟩:=Ny; exact Q8.not e
 have pp4:j6 c d0 d0 (λ_=>False) m9 {m9 with heap:=K7,toks:=m9.toks+0}:=j6.grow m8.rel eB
 have a4:=m8.step pp4
 have J9:∀{b:Addr},Above m9.heap b→d0 b=none:=fun {b} hb=>by
  cases e:d0 b with
  | none=>rfl
  | some ao =>
   obtain⟨ob,q,_⟩:=(m8.rel.3 b ao e).2.shape
   exact hb.not q
 have Rp:K7.PlainList D #[]:=let ⟨nn,e⟩:=Ny; ⟨nn,k4 _ _ e⟩
 let cenv:Env:={compEnvC scope (Bo env.cells scope.names []) C env with builtins:=env.builtins}
 have fc:Y6 c cenv (q9 fs scope) (C0 Z (E3 (.one j))) d0 K7:=Y6.comp m8.G1 cs eB hns (J9 E4) hCb
 let F':Addr→Prop:=λa=>a=C
 have b4:D4 c n cenv (q9 fs scope) A F' O s (C0 Z (E3 (.one j))) d0 {m9 with heap:=K7,toks:=m9.toks+0}:=⟨a4.ok,fc,a4.rel,a4.post.Nn λ_ h=>h.elim⟩
 have nT:K7.IsKeyIter I d 0 es.size ep:=S7.at λo e=>eB I o e
 have hIC:I≠C:=by obtain⟨_,e,_⟩:=S7; rintro rfl; exact E4.not e
 have hDI:D≠I:=by obtain⟨_,e,_⟩:=S7; rintro rfl; exact I6.not e
 have iL:d≠C:=by obtain⟨_,e,_⟩:=sK; rintro rfl; exact E4.not e
 have hdD:d≠D:=by obtain⟨_,e,_⟩:=sK; rintro rfl; exact I6.not e
 have hi':Inj (q9 fs scope):=hi
 have hkx:(q9 fs scope).sc.lookup x=some .local:=hsx.2.resolve_right λh=>by cases h.1
 have jO:d0 D=none:=J9 I6
 let Inv:Nat→Shared→Prop:=λk s'=>∃i acc items,k+i=l.length∧D4 c n cenv (q9 fs scope) A F' O s (C0 Z (E3 (.one j))) d0 s'∧s'.heap.IsKeyIter I d i es.size ep∧RD s'.heap d es ep∧(∀b o,Cj o→m9.heap.get? b=some o→s'.heap.get? b=some o)∧s'.heap.PlainList D items∧j9 s'.heap acc items.toList∧acc.length≤i ∧
  acc=((l.take i).map (·.1)).filter (N7 xs)
 have hstart:Inv l.length {m9 with heap:=K7,toks:=m9.toks+0}:=⟨0,[],#[],by omega,b4,nT,sK.keep λo e=>eB d o e,λb o _ e=>eB b o e,Rp,.nil,by simp,by simp⟩
 have loop:∀k s',Inv k s'→codeAny (model c.prog c.w) A (.compLoop (.ListComp (.Name x pa) [⟨.Name x pb,iter,[.Compare (.Subscript (.Name x pn) (.Constant (.int 0) Wl pc) ps) [.In] [.Constant (.str xs) Wm pk] p4],0⟩] scope pos) 0 (.ref I) (.ref D) cenv) (compPost (model c.prog c.w) A (EE c O s E) use R (.ref D) C) s':=by
  intro k s' hk
  refine Ag Inv (λk s' hk=>?_) k hk
  obtain⟨i,acc,items,hki,a,it,vD,him,uJ,hacc,hal,sL⟩:=hk
  obtain⟨nn,nU⟩:=uJ
  have Nz:¬ Cj ({cls:=.type "list",data:=.seq items nn}:Obj):=λim=>by rcases im with⟨q,_⟩ | ⟨q,_⟩<;>simp at q
  obtain⟨oI,vI,hoI,hfI,sM⟩:=Et it
  cases hx:es[i]? with
  | none =>
   refine Ud a.ok.2.2.1 it vD hx λh' J6=>?_
   have S9:D4 c n cenv (q9 fs scope) A F' O s (C0 Z (E3 (.one j))) d0 {s' with heap:=h'}:=a.junk (tk:=s'.toks) hoI hfI sM oY zS J6
   have Rq:=J6 D _ hDI nU
   have Oa:j9 h' acc items.toList:=hacc.mono λb o e im=>J6 b o (by rintro rfl; rw[hoI] at e; cases e; exact sM im) e
   obtain⟨m,hm⟩:=S9.G1.ns
   have hil:l.length≤i:=by
    have:=Array.getElem?_eq_none_iff.mp hx
    omega
   rw[List.take_of_length_le hil] at sL
   refine fin D C d0 _ ⟨S9.post,⟨m,hm.1⟩,jN,hCb,S9.G1.x4,Za,nS,jO,hD2,hDC,items,acc,⟨nn,Rq⟩,Oa,λr hr=>?_⟩
   rw[sL]; exact hq r hr
  | some en =>
   obtain⟨p,hp,hrep⟩:=oZ i en hx
   have pA:Rep s'.heap p.1 en.key:=hrep.mono λb o e im=>him b o im e
   obtain⟨_,u,t,hpv⟩:=hkeys p (List.mem_of_getElem? hp)
   refine Oj it vD hx λh' M9 pB=>?_
   have J6:=pB.extBut
   have S9:D4 c n cenv (q9 fs scope) A F' O s (C0 Z (E3 (.one j))) d0 {s' with heap:=h'}:=a.junk (tk:=s'.toks) hoI hfI sM oY zS J6
   have vE:x8 s'.heap h':=λb o e im=>J6 b o (by rintro rfl; rw[hoI] at e; cases e; exact sM im) e
   have Rq:=J6 D _ hDI nU
   have vF:RD h' d es ep:=vD.keep λo e=>J6 d o hdI e
   refine wpAny_pure ?_
   refine wpAny_assign_Name (S9.Jb hi' hsx.1 hkx rfl (pA.mono vE) λDk Dl Rr Zr=>?_)
   have Ku:=(Zr.2 D hDC).trans Rq
   have Ah:Dk.heap.IsKeyIter I d (i+1) es.size ep:=M9.at λo e=>(Zr.2 I hIC).trans e
   have pC:RD Dk.heap d es ep:=vF.keep λo e=>(Zr.2 d iL).trans e
   have zT:x8 h' Dk.heap:=Rr.Cm
   rw[List.forIn_cons]
   simp only[if_true]
   have hlk:b6 (C0 Z (E3 (.one j))) j p.1 j=some p.1:=by simp[b6]
   have Oc:∀j' v,C0 Z (E3 (.one j)) j'=some v→b6 (C0 Z (E3 (.one j))) j p.1 j'=some v:=λj' v hj=>by
    by_cases e:j'=j
    ·subst e; simp[C0,E3] at hj
    ·simp[b6,e,hj]
   have hki:∃m,m < k∧m+(i+1)=l.length:=by
    have:=(List.getElem?_eq_some_iff.mp hp).1
    exact⟨k - 1,by omega,by omega⟩
   obtain⟨m,hmk,hmi⟩:=hki
   have Tv:(l.take (i+1)).map (·.1)=(l.take i).map (·.1)++[p.1]:=by
    obtain⟨h1,h2⟩:=List.getElem?_eq_some_iff.mp hp
    rw[List.take_succ_eq_append_getElem h1,List.map_append,h2]; rfl
   refine wpAny_bind (wpAny_bind (Wj Dl hsx.1 hkx hlk hpv hdb λtk=>?_))
   refine wpAny_pure ?_
   simp only
   rw[List.forIn_nil]
   refine wpAny_pure ?_
   have N9:=Dl.toks (tk:=tk)
   have pD:∀b o,Cj o→m9.heap.get? b=some o→Dk.heap.get? b=some o:=λb o im e=>zT b o (vE b o (him b o im e) im) im
   have Od:j9 Dk.heap acc items.toList:=(hacc.mono vE).mono zT
   cases hhd:N7 xs p.1 with
   | false =>
    rw[if_neg (by simp)]
    refine⟨m,hmk,i+1,acc,items,hmi,⟨N9.ok,N9.G1.weak Oc,N9.rel,N9.post⟩,Ah,pC,pD,⟨nn,Ku⟩,Od,by omega,?_⟩
    rw[Tv,List.filter_append,←sL,List.filter_cons_of_neg (by rw[hhd]; simp)]
    simp
   | true =>
    rw[if_pos rfl]
    obtain⟨mm,hn,hm⟩:=N9.G1.ns
    have hko:cenv.kindOf x=some .local:=by unfold Env.kindOf; rw[N9.G1.names]; exact hkx
    obtain⟨cv,e1,e2⟩:=hm x j p.1 hsx.1 hlk hko
    refine wpAny_Name (wpAny_loadName_local N9.G1.kind hko hn e1 ?_) hdb
    have hsz:=Od.size
    have zU:=(List.getElem?_eq_some_iff.mp hp).1
    refine wpAny_list_append_plain ⟨nn,Ku⟩ (λZc hpl U7=>?_) (by rw[hsz]; exact O7 (by omega))
    have Kv:D4 c n cenv (q9 fs scope) A F' O s (b6 (C0 Z (E3 (.one j))) j p.1) d0 {Dk with heap:=Zc,toks:=tk}:=N9.iE (tk:=tk) Ku Nz jO (λes ep e=>by cases e) (λv e=>by cases e) Za nS U7.extBut
    have jU:x8 Dk.heap Zc:=λb o e im=>(U7.2 b (by rintro rfl; rw[Ku] at e; cases e; exact Nz im)).trans e
    refine⟨m,hmk,i+1,acc++[p.1],items.push cv,hmi,⟨Kv.ok,Kv.G1.weak Oc,Kv.rel,Kv.post⟩,Ah.at λo e=>(U7.2 I (Ne.symm hDI)).trans e,pC.keep λo e=>(U7.2 d hdD).trans e,λb o im e=>jU b o (pD b o im e) im,hpl,?_,by simp; omega,?_⟩
    ·have:=j9.append (Od.mono jU) (.cons (e2.mono jU) .nil)
     simpa using this
    ·rw[Tv,List.filter_append,←sL,List.filter_cons_of_pos hhd]
     simp
 refine codeAny_compStart_list (loop _ _ hstart) (wpAny_pyIter_keyiter nT (loop _ _ hstart))
theorem eY{x xs:Str}{pa pb pn pc ps pk p4:Pos}{Wl Wm:Nat}{iter:Expr}{scope:Scope}{pos:Pos}{xi:X}{j:Nat}(hi:Inj fs) (hiter:SX c n fs iter xi) (U5:∀env x,foldedSetIterable iter env x=pure x) (cs:I1 fs scope (.one j))
  (hsx:M8 (q9 fs scope) false x j) (hdb:(x == ("__debug__":Str))=false) :
  SX c n fs (.ListComp (.Name x pa) [⟨.Name x pb,iter,[.Compare (.Subscript (.Name x pn) (.Constant (.int 0) Wl pc) ps) [.In] [.Constant (.str xs) Wm pk] p4],0⟩] scope pos) (.Z1 xi xs):=by
 intro env Z O Q E h A s o f re
 rw[PySem.eval_ListComp]
 exact Zq hi hiter U5 cs hsx hdb h o f re λD C b7 s' x=>let ⟨m,hm⟩:=x.ns; ⟨m,hm,λh' hs'=>x.done hs'⟩
end
end Mine
end
section
open PySem PySem.W PyProof.Rows PySem.Calls
set_option Elab.async false
namespace Mine
open Classical
def C5{α β:Type}(f:α→Option β):List α→Option (List β)
 | []=>some []
 | a::l=>match f a with
  | some b=>match C5 f l with
   | some r=>some (b::r)
   | none=>none
  | none=>none
def isName:Expr→Bool
 | .Name ..=>true
 | _=>false
def Dx:Expr→Bool
 | .Call ..=>false
 | _=>true
def Eu:Expr→Bool
 | .Slice ..=>false
 | _=>true
def Bq:Expr→Bool
 | .Set ..=>false
 | _=>true
def notTuple:Expr→Bool
 | .Tuple ..=>false
 | _=>true
theorem Ue{e:Expr}(h:Dx e=true) (name:Str) (env:Env):attributeBase e name env (eval e env)=eval e env:=by
 cases e<;>first | rfl | (simp[Dx] at h)
theorem Wn{e:Expr}(h:Eu e=true) (o i:Value):subscripted e false o i=operate [o,i] (getItem o i):=by
 cases e<;>first | rfl | (simp[Eu] at h)
theorem Dy{e:Expr}(h:Bq e=true) (env:Env) (x:Value):foldedSetIterable e env x=pure x:=by
 cases e<;>first | rfl | (simp[Bq] at h)
theorem kE{e:Expr}(h:isName e=true) (o r:Value):letTemporaryGo e o r=pure ():=by
 cases e<;>first | rfl | (simp[isName] at h)
theorem Ru{e:Expr}(h:notTuple e=true) (t:Expr) (env:Env):swappedStores [t] e env=pure none:=by
 unfold swappedStores
 cases e<;>first | (cases t<;>rfl) | (simp[notTuple] at h)
def P1(fs:FS) (cl:Bool) (x:Str):Option Nat:=match fs.res.lookup x with
 | some i=>if fs.sc.lookup x == some .local || (cl && fs.sc.lookup x == some .cell) then some i else none
 | none=>none
theorem N0{fs:FS}{cl:Bool}{x:Str}{i:Nat}(h:P1 fs cl x=some i):M8 fs cl x i:=by
 unfold P1 at h
 split at h
 ·rename_i j e
  split at h
  ·rename_i hc
   cases h
   refine⟨e,?_⟩
   rcases Bool.or_eq_true_iff.mp hc with h | h
   ·exact .inl (beq_iff_eq.mp h)
   ·exact .inr ⟨(Bool.and_eq_true_iff.mp h).1,beq_iff_eq.mp (Bool.and_eq_true_iff.mp h).2⟩
  ·cases h
 ·cases h
def Rv(fs:FS) (cl:Bool):Expr→Option Tg
 | .Name x _=>(P1 fs cl x).map .one
 | .Tuple [.Name x _,.Name y _] _ _=>match P1 fs cl x,P1 fs cl y with
  | some i,some j=>some (.two i j)
  | _,_=>none
 | _=>none
theorem Al{fs:FS}{cl:Bool}{t:Expr}{tg:Tg}(h:Rv fs cl t=some tg):Eo fs cl t tg:=by
 unfold Rv at h
 split at h
 ·obtain⟨i,h1,rfl⟩:=Option.map_eq_some_iff.mp h
  exact .one (N0 h1)
 ·split at h
  ·rename_i h1 h2
   cases h
   exact .two (N0 h1) (N0 h2)
  ·cases h
 ·cases h
def Ew(fs:FS) (scope:Scope) (tg:Tg):Bool :=
 scope.kind == .function && scope.names.all (λx=>x.2 != .cell) && scope.names.all (λx=>x.2 != .local || scope.names.lookup x.1 == some .local) &&
 scope.names.all (λx=>x.2 != .free || ((fs.sc.lookup x.1 == some .cell || fs.sc.lookup x.1 == some .free) && (fs.res.lookup x.1).isSome)) &&
 scope.names.all (λx=>x.2 != .local || match fs.res.lookup x.1 with | some i=>(E3 tg).contains i | none=>true)
theorem Am{sc:List (Str×NameKind)}:∀{names:List (Str×NameKind)}{x:Str},(C8 sc names).lookup x=some .local→(x,NameKind.local)∈names
 | [],x,h=>by simp[C8] at h
 | (y,k)::r,x,h=>by
  unfold C8 at h
  rw[List.map_cons] at h
  have ih:=@Am sc r x
  unfold C8 at ih
  by_cases hxy:x=y
  ·subst hxy
   dsimp only at h
   split at h
   ·simp at h
   ·simp at h; subst h; exact .head _
  ·have hxy':(x == y)=false:=by simpa using hxy
   refine .tail _ (ih ?_)
   dsimp only at h
   split at h<;>simpa only[List.lookup_cons,hxy'] using h
theorem Br{fs:FS}{scope:Scope}{tg:Tg}(h:Ew fs scope tg=true):I1 fs scope tg:=by
 unfold Ew at h
 simp only[Bool.and_eq_true,beq_iff_eq,List.all_eq_true,bne_iff_ne,ne_eq,Bool.or_eq_true] at h
 obtain⟨⟨⟨⟨h1,h2⟩,h3⟩,h4⟩,h5⟩:=h
 refine⟨h1,h2,λx hx hl=>(h3 x hx).resolve_left (λq=>q hl),λx hx hl=>(h4 x hx).resolve_left (λq=>q hl),λx i hk hr=>?_⟩
 have:=(h5 _ (Am hk)).resolve_left (λq=>q rfl)
 simp only[hr] at this
 simpa using this
def Ug:Option Expr→Option (Option Nat)
 | none=>some none
 | some (.Constant (.int i) _ _)=>if 0≤i then some (some i.toNat) else none
 | _=>none
theorem Om{e:Option Expr}{x:Option Nat}(h:Ug e=some x):En e x:=by
 unfold Ug at h
 split at h
 ·cases h; rfl
 ·rename_i i _ _
  split at h
  ·rename_i h0
   cases h
   exact⟨i.toNat,rfl,by omega⟩
  ·cases h
 ·cases h
def stepK(cx:FS→Expr→Option X) (fs:FS):Expr→Option X
 | .ListComp (.Name a _) [⟨.Name b pb,d,[.Compare (.Subscript (.Name e _) (.Constant (.int 0) _ _) _) [.In] [.Constant (.str x) _ _] _],0⟩] scope _ =>
  if a=b∧b=e∧(b == ("__debug__":Str))=false then match Rv (q9 fs scope) false (.Name b pb) with
   | some (.one j)=>if !Ew fs scope (.one j) || !Bq d then none else (cx fs d).map λxi=>.Z1 xi x
   | _=>none
  else none
 | _=>none
def An(K:Frag) (cx:FS→Expr→Option X) (cb:FS→Expr→Option B) (fs:FS):Expr→Option X
 | .Name x _=>if x == ("__debug__":Str) || x == ("__classdict__":Str) then none else match fs.sc.lookup x with
  | some .local=>(fs.res.lookup x).map .loc
  | some .cell=>(fs.res.lookup x).map .loc
  | some .free=>(fs.res.lookup x).map .loc
  | some .globalImplicit=>(Ej K x).map .con
  | _=>none
 | .Constant (.int i) _ _=>some (.con (.int i))
 | .Constant (.str x) _ _=>some (.con (.str x))
 | .Constant .none _ _=>some (.con .none)
 | .Constant (.bool b) _ _=>some (.con (.bool b))
 | .BinOp l op r _=>match cx fs l,cx fs r with
  | some a,some b=>some (.bin op a b)
  | _,_=>none
 | .UnaryOp .USub e _=>(cx fs e).map .neg
 | .UnaryOp .Not e _=>(cx fs e).map .not
 | .BoolOp .And es _=>if es.isEmpty then none else (C5 (cx fs) es).map .and
 | .BoolOp .Or es _=>if es.isEmpty then none else (C5 (cx fs) es).map .or
 | .IfExp t a b _=>match cb fs t,cx fs a,cx fs b with
  | some t,some a,some b=>some (.ite t a b)
  | _,_,_=>none
 | .Compare l [op] [r] _=>if behindInMarks op r then none else match cx fs l,cx fs r with
  | some a,some b=>some (.cmp op a b)
  | _,_=>none
 | .Call (.Name id _) es [] _=>if id == ("__debug__":Str) || !es.all z4 then none else match fs.sc.lookup id,Ej K id,C5 (cx fs) es with
  | some .globalImplicit,some (.fix f),some xs=>if calleeOk K f then some (.call (.con (.fix f)) xs) else none
  | _,_,_=>none
 | .Call (.Attribute o name ap) es [] pos=>if !Dx o || !es.all z4 || ap.endLine != pos.line || 30≤es.length then none else match cx fs o,C5 (cx fs) es with
  | some x,some xs=>some (.meth x name xs)
  | _,_=>none
 | .Attribute o name _=>if Dx o then (cx fs o).map λx=>.attr x name else none
 | .Subscript o (.Slice lo hi none _) _=>if !isName o then none else match cx fs o,Ug lo,Ug hi with
  | some x,some a,some b=>some (.slc x a b)
  | _,_,_=>none
 | .Subscript o i _=>if !Eu i then none else match cx fs o,cx fs i with
  | some x,some y=>some (.sub x y)
  | _,_=>none
 | .Tuple es _ _=>if !es.all z4 || 1000 < es.length then none else (C5 (cx fs) es).map .tup
 | .List es _=>if !es.all z4 || 1000 < es.length then none else (C5 (cx fs) es).map .lst
 | .Dict ks vs _=>if 15 < vs.length then none else (V5 (cx fs) ks vs).map .dct
 | .ListComp elt [⟨t,iter,ifs,0⟩] scope _=>match Rv (q9 fs scope) false t with
  | none=>none
  | some tg=>if !Ew fs scope tg || !Bq iter then none else match cx fs iter,cx (q9 fs scope) elt,C5 (cb (q9 fs scope)) ifs with
   | some xi,some xe,some xs=>some (.comp xe tg xi xs)
   | _,_,_=>none
 | _=>none
where V5 (f:Expr→Option X):List (Option Expr)→List Expr→Option (List X)
 | [],[]=>some []
 | some k::ks,v::vs=>match f k,f v,V5 f ks vs with
  | some a,some b,some r=>some (a::b::r)
  | _,_,_=>none
 | _,_=>none
def Zs(cx:FS→Expr→Option X) (cb:FS→Expr→Option B) (fs:FS):Expr→Option B
 | .UnaryOp .Not e _=>(cb fs e).map .not
 | .BoolOp .And es _=>(C5 (cb fs) es).map .and
 | .BoolOp .Or es _=>(C5 (cb fs) es).map .or
 | .Compare l [op] [r] _=>if behindInMarks op r then none else match cx fs l,cx fs r with
  | some a,some b=>some (.cmp op a b)
  | _,_=>none
 | e=>if Dw e then (cx fs e).map .val else none
def Yh(K:Frag):Nat→(FS→Expr→Option X)×(FS→Expr→Option B)
 | 0=>(λ_ _=>none,λ_ _=>none)
 | k+1=>(λfs e=>match stepK (Yh K k).1 fs e with | some r=>some r | none=>An K (Yh K k).1 (Yh K k).2 fs e,Zs (Yh K k).1 (Yh K k).2)
section
variable {c:Cx}{n:Nat}{fs:FS}
theorem V6{α β:Type}{f:α→Option β}:∀{l:List α}{r:List β},C5 f l=some r→l.length=r.length
 | [],r,h=>by simp[C5] at h; subst h; rfl
 | a::l,r,h=>by
  unfold C5 at h
  split at h
  ·split at h
   ·rename_i h1; cases h; simp[V6 h1]
   ·cases h
  ·cases h
theorem V7{f:Expr→Option X}(hf:∀e x,f e=some x→SX c n fs e x):∀{l:List Expr}{r:List X},l.all z4=true→C5 f l=some r→eA c n fs l r
 | [],r,_,h=>by simp[C5] at h; subst h; exact jL
 | a::l,r,hs,h=>by
  unfold C5 at h
  simp only[List.all_cons,Bool.and_eq_true] at hs
  split at h
  ·rename_i b e
   split at h
   ·rename_i r' h1; cases h; exact Nr hs.1 (hf _ _ e) (V7 hf hs.2 h1)
   ·cases h
  ·cases h
theorem V8{f:Expr→Option B}(hf:∀e x,f e=some x→SB c n fs e x):∀{l:List Expr}{r:List B},C5 f l=some r→Yg c n fs l r
 | [],r,h=>by simp[C5] at h; subst h; exact .nil
 | a::l,r,h=>by
  unfold C5 at h
  split at h
  ·rename_i b e
   split at h
   ·rename_i r' h1; cases h; exact .cons (hf _ _ e) (V8 hf h1)
   ·cases h
  ·cases h
theorem On{f:Expr→Option X}{pos:Pos}(hf:∀e x,f e=some x→SX c n fs e x):∀{l:List Expr}{r:List X},l≠[]→C5 f l=some r→SX c n fs (.BoolOp .And l pos) (.and r)
 | [],r,h0,h=>absurd rfl h0
 | [a],r,h0,h=>by
  unfold C5 at h
  split at h
  ·rename_i b e; simp[C5] at h; subst h; exact nI (hf _ _ e)
  ·cases h
 | a::a'::l,r,h0,h=>by
  unfold C5 at h
  split at h
  ·rename_i b e
   split at h
   ·rename_i r' h1
    cases h
    have hl:=V6 h1
    cases r' with
    | nil=>simp at hl
    | cons b' r'=>exact tR (hf _ _ e) (On hf (by simp) h1)
   ·cases h
  ·cases h
theorem Uh{f:Expr→Option X}{pos:Pos}(hf:∀e x,f e=some x→SX c n fs e x):∀{l:List Expr}{r:List X},l≠[]→C5 f l=some r→SX c n fs (.BoolOp .Or l pos) (.or r)
 | [],r,h0,h=>absurd rfl h0
 | [a],r,h0,h=>by
  unfold C5 at h
  split at h
  ·rename_i b e; simp[C5] at h; subst h; exact tT (hf _ _ e)
  ·cases h
 | a::a'::l,r,h0,h=>by
  unfold C5 at h
  split at h
  ·rename_i b e
   split at h
   ·rename_i r' h1
    cases h
    have hl:=V6 h1
    cases r' with
    | nil=>simp at hl
    | cons b' r'=>exact mOr (hf _ _ e) (Uh hf (by simp) h1)
   ·cases h
  ·cases h
theorem Jl{f:Expr→Option X}(hf:∀e x,f e=some x→SX c n fs e x):∀{ks:List (Option Expr)}{vs:List Expr}{r:List X},An.V5 f ks vs=some r→Yw c n fs ks vs r
 | [],[],r,h=>by simp[An.V5] at h; subst h; exact .nil
 | some k::ks,v::vs,r,h=>by
  unfold An.V5 at h
  split at h
  ·rename_i a b r' h1 h2 h3; cases h; exact .cons (hf _ _ h1) (hf _ _ h2) (Jl hf h3)
  ·cases h
 | [],_::_,_,h=>by simp[An.V5] at h
 | none::_,_,_,h=>by simp[An.V5] at h
 | some _::_,[],_,h=>by simp[An.V5] at h
theorem Zt(G:Good c){cx:FS→Expr→Option X}{cb:FS→Expr→Option B}(hx:∀fs e x,Inj fs→cx fs e=some x→SX c n fs e x) (hb:∀fs e x,Inj fs→cb fs e=some x→SB c n fs e x){e:Expr}{x:X}(hi:Inj fs)
  (h:An c.K cx cb fs e=some x):SX c n fs e x:=by
 have hf:=λe x=>hx fs e x hi
 unfold An at h
 split at h
 ·-- Name
  split at h
  ·cases h
  ·rename_i hd
   simp only[Bool.or_eq_true,not_or,Bool.not_eq_true] at hd
   split at h
   ·rename_i hk
    obtain⟨i,h1,rfl⟩:=Option.map_eq_some_iff.mp h
    exact λenv Z O Q E hw=>jI h1 (.inl hk) hd.1 hd.2 (by simpa only[WX] using hw)
   ·rename_i hk
    obtain⟨i,h1,rfl⟩:=Option.map_eq_some_iff.mp h
    exact λenv Z O Q E hw=>jI h1 (.inr (.inl hk)) hd.1 hd.2 (by simpa only[WX] using hw)
   ·rename_i hk
    obtain⟨i,h1,rfl⟩:=Option.map_eq_some_iff.mp h
    exact λenv Z O Q E hw=>jI h1 (.inr (.inr hk)) hd.1 hd.2 (by simpa only[WX] using hw)
   ·rename_i hk
    obtain⟨i,h1,rfl⟩:=Option.map_eq_some_iff.mp h
    exact λenv Z O Q E hw=>Yq G hk h1 hd.1 (by simpa only[WX] using hw)
   ·cases h
 ·cases h; exact λenv Z O Q E hw=>eM (by simpa only[WX] using hw)
 ·cases h; exact λenv Z O Q E hw=>eN (by simpa only[WX] using hw)
 ·cases h; exact λenv Z O Q E hw=>Yr (by simpa only[WX] using hw)
 ·cases h; exact λenv Z O Q E hw=>Ys (by simpa only[WX] using hw)
 ·split at h
  ·rename_i h1 h2; cases h; exact tO (hf _ _ h1) (hf _ _ h2)
  ·cases h
 ·obtain⟨a,h1,rfl⟩:=Option.map_eq_some_iff.mp h; exact tP (hf _ _ h1)
 ·obtain⟨a,h1,rfl⟩:=Option.map_eq_some_iff.mp h; exact tQ (hf _ _ h1)
 ·split at h
  ·cases h
  ·rename_i h0
   obtain⟨a,h1,rfl⟩:=Option.map_eq_some_iff.mp h
   exact On hf (by simpa using h0) h1
 ·split at h
  ·cases h
  ·rename_i h0
   obtain⟨a,h1,rfl⟩:=Option.map_eq_some_iff.mp h
   exact Uh hf (by simpa using h0) h1
 ·split at h
  ·rename_i h1 h2 h3; cases h; exact tV (hb _ _ _ hi h1) (hf _ _ h2) (hf _ _ h3)
  ·cases h
 ·split at h
  ·cases h
  ·rename_i hm
   split at h
   ·rename_i h1 h2; cases h; exact tW (hf _ _ h1) (hf _ _ h2) (by simpa using hm)
   ·cases h
 ·-- call
  split at h
  ·cases h
  ·rename_i hd
   simp only[Bool.or_eq_true,not_or,Bool.not_eq_true,Bool.not_eq_false'] at hd
   split at h
   ·rename_i f xs h1 h2 h3
    split at h
    ·rename_i hc; cases h
     exact nL G h1 h2 hd.1 hc (V7 hf hd.2 h3) hd.2 (V6 h3)
    ·cases h
   ·cases h
 ·split at h
  ·cases h
  ·rename_i hd
   simp only[Bool.or_eq_true,not_or,Bool.not_eq_true,Bool.not_eq_false',decide_eq_true_eq,bne_iff_ne,ne_eq,Decidable.not_not,bne_eq_false_iff_eq] at hd
   obtain⟨⟨⟨d1,d2⟩,d3⟩,d4⟩:=hd
   split at h
   ·rename_i h1 h2; cases h
    exact nM G (hf _ _ h1) (λenv=>Ue d1 _ env) d3 (V7 hf d2 h2) d2 (V6 h2) (by omega)
   ·cases h
 ·split at h
  ·rename_i hb0
   obtain⟨a,h1,rfl⟩:=Option.map_eq_some_iff.mp h
   exact nJ G (hf _ _ h1) (λenv=>Ue hb0 _ env)
  ·cases h
 ·split at h
  ·cases h
  ·rename_i hn
   split at h
   ·rename_i h1 h2 h3; cases h
    exact uF (hf _ _ h1) (Om h2) (Om h3) (λo r=>kE (by simpa using hn) o r)
   ·cases h
 ·split at h
  ·cases h
  ·rename_i hn
   split at h
   ·rename_i h1 h2; cases h
    exact tZ (hf _ _ h1) (hf _ _ h2) (Wn (by simpa using hn))
   ·cases h
 ·split at h
  ·cases h
  ·rename_i hd
   simp only[Bool.or_eq_true,not_or,Bool.not_eq_true,Bool.not_eq_false',decide_eq_true_eq] at hd
   obtain⟨a,h1,rfl⟩:=Option.map_eq_some_iff.mp h
   exact nK (by omega) (V7 hf hd.1 h1)
 ·split at h
  ·cases h
  ·rename_i hd
   simp only[Bool.or_eq_true,not_or,Bool.not_eq_true,Bool.not_eq_false',decide_eq_true_eq] at hd
   obtain⟨a,h1,rfl⟩:=Option.map_eq_some_iff.mp h
   exact uA (by omega) (V7 hf hd.1 h1)
 ·split at h
  ·cases h
  ·rename_i hd
   obtain⟨a,h1,rfl⟩:=Option.map_eq_some_iff.mp h
   exact uE (Jl hf h1) (by omega)
 ·split at h
  ·cases h
  ·rename_i tg ht
   split at h
   ·cases h
   ·rename_i hd
    simp only[Bool.or_eq_true,not_or,Bool.not_eq_true,Bool.not_eq_false'] at hd
    split at h
    ·rename_i h1 h2 h3; cases h
     have hi':Inj (q9 fs ‹Scope›):=hi
     exact nY hi (hf _ _ h1) (λenv x=>Dy hd.2 env x) (Br hd.1) (hx _ _ _ hi' h2) (Al ht) (V8 (λe x=>hb _ e x hi') h3)
    ·cases h
 ·cases h
theorem Zu{cx:FS→Expr→Option X}{cb:FS→Expr→Option B}(hx:∀fs e x,Inj fs→cx fs e=some x→SX c n fs e x) (hb:∀fs e x,Inj fs→cb fs e=some x→SB c n fs e x){e:Expr}{x:B}(hi:Inj fs)
  (h:Zs cx cb fs e=some x):SB c n fs e x:=by
 unfold Zs at h
 split at h
 ·obtain⟨a,h1,rfl⟩:=Option.map_eq_some_iff.mp h; exact nN (hb _ _ _ hi h1)
 ·obtain⟨a,h1,rfl⟩:=Option.map_eq_some_iff.mp h; exact nQ (V8 (λe x=>hb _ e x hi) h1)
 ·obtain⟨a,h1,rfl⟩:=Option.map_eq_some_iff.mp h; exact uD (V8 (λe x=>hb _ e x hi) h1)
 ·split at h
  ·cases h
  ·rename_i hm
   split at h
   ·rename_i h1 h2; cases h; exact nO (hx _ _ _ hi h1) (hx _ _ _ hi h2) (by simpa using hm)
   ·cases h
 ·split at h
  ·rename_i hv
   obtain⟨a,h1,rfl⟩:=Option.map_eq_some_iff.mp h; exact nP hv (hx _ _ _ hi h1)
  ·cases h
theorem Zv{cx:FS→Expr→Option X}(hx:∀fs e x,Inj fs→cx fs e=some x→SX c n fs e x){e:Expr}{x:X}(hi:Inj fs) (h:stepK cx fs e=some x):SX c n fs e x:=by
 unfold stepK at h
 split at h
 ·split at h
  ·rename_i hc
   obtain⟨rfl,rfl,hdb⟩:=hc
   split at h
   ·rename_i ht
    split at h
    ·cases h
    ·rename_i hd
     simp only[Bool.or_eq_true,not_or,Bool.not_eq_true,Bool.not_eq_false'] at hd
     obtain⟨xi,h1,rfl⟩:=Option.map_eq_some_iff.mp h
     have:=Al ht
     cases this with
     | one hs=>exact eY hi (hx _ _ _ hi h1) (λenv x=>Dy hd.2 env x) (Br hd.1) hs hdb
   ·cases h
  ·cases h
 ·cases h
theorem Z3(G:Good c):∀k,(∀fs e x,Inj fs→(Yh c.K k).1 fs e=some x→SX c n fs e x)∧(∀fs e x,Inj fs→(Yh c.K k).2 fs e=some x→SB c n fs e x)
 | 0=>⟨λ_ _ _ _ h=>by simp[Yh] at h,λ_ _ _ _ h=>by simp[Yh] at h⟩
 | k+1=>⟨λfs e x hi h=>by
   unfold Yh at h
   simp only at h
   split at h
   ·rename_i r hr
    cases h
    exact Zv (Z3 G k).1 hi hr
   ·exact Zt G (Z3 G k).1 (Z3 G k).2 hi h,λfs e x hi h=>Zu (Z3 G k).1 (Z3 G k).2 hi h⟩
end
def isLocal(fs:FS) (x:Str):Option Nat:=match fs.res.lookup x with
 | some i=>if fs.sc.lookup x == some .local then some i else none
 | none=>none
theorem R0{fs:FS}{x:Str}{i:Nat}(h:isLocal fs x=some i):fs.res.lookup x=some i∧fs.sc.lookup x=some .local:=by
 unfold isLocal at h
 split at h
 ·rename_i j e
  split at h
  ·rename_i hc; cases h; exact⟨e,beq_iff_eq.mp hc⟩
  ·cases h
 ·cases h
def Ui(cx:FS→Expr→Option X) (cb:FS→Expr→Option B) (fs:FS) (x:Str) (p:Pos):Expr→Option S
 | .ListComp elt [⟨t,iter,ifs,0⟩] scope cp=>match isLocal fs x,Rv (q9 fs scope) false t with
  | some i,some tg=>if !Ew fs scope tg || !Bq iter || p.line != cp.line || (scope.names.any λy=>y.1 == x && (y.2 == .local || y.2 == .cell)) then none else
    match cx fs iter,cx (q9 fs scope) elt,C5 (cb (q9 fs scope)) ifs with
    | some xi,some xe,some xs=>some (.set i (.comp xe tg xi xs))
    | _,_,_=>none
  | _,_=>none
 | _=>none
def iR(cx:FS→Expr→Option X) (fs:FS):Expr→Expr→Option S
 | .Tuple [.Name x p,.Name y q] _ _,.Tuple [.Name u pu,.Name v pv] _ _=>match isLocal fs x,isLocal fs y,cx fs (.Name u pu),cx fs (.Name v pv) with
  | some i,some j,some a,some b=>if x == y || p.line != q.line || u == ("__debug__":Str) then none else some (.swap i j a b)
  | _,_,_,_=>none
 | _,_=>none
def raiseO(K:Frag) (k8:Addr) (cx:FS→Expr→Option X) (fs:FS):Expr→Option S
 | .Call (.Name id _) [e1,e2] [] _=>if id == ("__debug__":Str) || !z4 e1 || !z4 e2 || !calleeOk K (.ref k8) then none else match fs.sc.lookup id,Ej K id,cx fs e1,cx fs e2 with
  | some .globalImplicit,some (.fix (.ref a)),some x1,some x2=>if a == k8 then some (.raise [x1,x2]) else none
  | _,_,_,_=>none
 | _=>none
def pE(K:Frag) (k8:Addr) (cx:FS→Expr→Option X) (fs:FS):List Stmt→List ExceptHandler→Option S
 | [.Return (some e) _],[.ExceptHandler (some (.Name id _)) none [.Return (some (.List [] _)) _] _]=>if id == ("__debug__":Str) || exmOne K (.ref k8) (.ref k8) != some true then none else match fs.sc.lookup id,Ej K id,cx fs e with
  | some .globalImplicit,some (.fix (.ref a)),some x=>if a == k8 then some (.eJ x) else none
  | _,_,_=>none
 | _,_=>none
def Zw(K:Frag) (k8:Addr) (cx:FS→Expr→Option X) (cb:FS→Expr→Option B) (cs:FS→Stmt→Option S) (fs:FS):Stmt→Option S
 | .Assign [.Name x p] e _=>if E7 e then (match P1 fs true x,cx fs e with
   | some i,some a=>some (.set i a)
   | _,_=>none) else Ui cx cb fs x p e
 | .Assign [.Tuple [.Name x p,.Name y q] k r] e _=>if notTuple e && E7 e then (match Rv fs true (.Tuple [.Name x p,.Name y q] k r),cx fs e with
   | some (.two i j),some a=>some (.Vz i j a)
   | _,_=>none) else iR cx fs (.Tuple [.Name x p,.Name y q] k r) e
 | .Assign [.Attribute o name _] e _=>if !E7 e then none else match cx fs e,cx fs o with
  | some a,some b=>some (.q8 b name a)
  | _,_=>none
 | .Assign [.Subscript o i _] e _=>if !E7 e then none else match cx fs e,cx fs o,cx fs i with
  | some a,some b,some d=>some (.I0 b d a)
  | _,_,_=>none
 | .AugAssign (.Name x _) op e _=>match isLocal fs x,cx fs e with
  | some i,some a=>some (.aug i op a)
  | _,_=>none
 | .If t b o _=>match cb fs t,C5 (cs fs) b,C5 (cs fs) o with
  | some t,some b,some o=>some (.ite t b o)
  | _,_,_=>none
 | .While t b [] _=>match cb fs t,C5 (cs fs) b with
  | some t,some b=>some (.whl t b)
  | _,_=>none
 | .For t it b [] _=>if !Bq it then none else match Rv fs true t,cx fs it,C5 (cs fs) b with
  | some tg,some i,some b=>some (.for tg i b)
  | _,_,_=>none
 | .Return (some e) _=>(cx fs e).map .ret
 | .Raise (some e) none _=>raiseO K k8 cx fs e
 | .Expr e _=>if E7 e then (cx fs e).map .exp else none
 | .Try b h [] [] _=>pE K k8 cx fs b h
 | .Pass _=>some .pass
 | .Continue _=>some .cont
 | _=>none
def cS(K:Frag) (k8:Addr):Nat→FS→Stmt→Option S
 | 0=>λ_ _=>none
 | k+1=>Zw K k8 (Yh K (k+1)).1 (Yh K (k+1)).2 (cS K k8 k)
section
variable {c:Cx}{n:Nat}{fs:FS}{P fI:Addr}{cd:ClassData}{fd:FuncData}
theorem K9{f:Stmt→Option S}(hf:∀e x,f e=some x→SS c n fs e x):∀{l:List Stmt}{r:List S},C5 f l=some r→eD c n fs l r
 | [],r,h=>by simp[C5] at h; subst h; exact oH
 | a::l,r,h=>by
  unfold C5 at h
  split at h
  ·rename_i b e
   split at h
   ·rename_i r' h1; cases h; exact jW (hf _ _ e) (K9 hf h1)
   ·cases h
  ·cases h
theorem Zx(G:Good c) (Y:V2 c P fI cd fd){cx:FS→Expr→Option X}{cb:FS→Expr→Option B}{cs:FS→Stmt→Option S}(hx:∀fs e x,Inj fs→cx fs e=some x→SX c n fs e x) (hb:∀fs e x,Inj fs→cb fs e=some x→SB c n fs e x)
  (hs:∀fs e x,Inj fs→cs fs e=some x→SS c n fs e x){e:Stmt}{x:S}(hi:Inj fs) (h:Zw c.K c.k8 cx cb cs fs e=some x):SS c n fs e x:=by
 have hf:=λe x=>hx fs e x hi
 unfold Zw at h
 split at h
 ·split at h
  ·rename_i hn
   split at h
   ·rename_i h1 h2; cases h; exact uM hi (hf _ _ h2) (N0 h1) hn
   ·cases h
  ·unfold Ui at h
   split at h
   ·split at h
    ·rename_i i tg h1 h2
     split at h
     ·cases h
     ·rename_i hd
      simp only[Bool.or_eq_true,not_or,Bool.not_eq_true,Bool.not_eq_false',bne_eq_false_iff_eq] at hd
      obtain⟨⟨⟨d1,d2⟩,d3⟩,d4⟩:=hd
      split at h
      ·rename_i h3 h4 h5; cases h
       have hi':Inj (q9 fs ‹Scope›):=hi
       exact Zg hi (hf _ _ h3) (λenv x=>Dy d2 env x) (Br d1) (hx _ _ _ hi' h4) (Al h2) (V8 (λe x=>hb _ e x hi') h5) (R0 h1) d3 d4
      ·cases h
    ·cases h
   ·cases h
 ·split at h
  ·rename_i hn
   rw[Bool.and_eq_true] at hn
   split at h
   ·rename_i h1 h2; cases h
    exact oA hi (hf _ _ h2) (Al h1) hn.2 (λenv=>Ru hn.1 _ env)
   ·cases h
  ·unfold iR at h
   split at h
   ·rename_i e1 _
    cases e1
    split at h
    ·rename_i i j a b h1 h2 h3 h4
     split at h
     ·cases h
     ·rename_i hd
      simp only[Bool.or_eq_true,not_or,Bool.not_eq_true,bne_eq_false_iff_eq,beq_eq_false_iff_ne,ne_eq] at hd
      cases h
      exact oJ hi (hf _ _ h3) (hf _ _ h4) (R0 h1) (R0 h2) hd.1.1 hd.1.2 (by simpa using hd.2)
    ·cases h
   ·cases h
 ·split at h
  ·cases h
  ·rename_i hn
   split at h
   ·rename_i h1 h2; cases h; exact oB G (hf _ _ h1) (hf _ _ h2) (by simpa using hn)
   ·cases h
 ·split at h
  ·cases h
  ·rename_i hn
   split at h
   ·rename_i h1 h2 h3; cases h; exact oD (hf _ _ h1) (hf _ _ h2) (hf _ _ h3) (by simpa using hn)
   ·cases h
 ·split at h
  ·rename_i h1 h2; cases h; exact uO hi (hf _ _ h2) (R0 h1)
  ·cases h
 ·split at h
  ·rename_i h1 h2 h3; cases h; exact mIf (hb _ _ _ hi h1) (K9 (λe x=>hs _ e x hi) h2) (K9 (λe x=>hs _ e x hi) h3)
  ·cases h
 ·split at h
  ·rename_i h1 h2; cases h; exact uS (hb _ _ _ hi h1) (K9 (λe x=>hs _ e x hi) h2)
  ·cases h
 ·split at h
  ·cases h
  ·rename_i hn
   split at h
   ·rename_i h1 h2 h3; cases h
    exact uT hi (hf _ _ h2) (Al h1) (K9 (λe x=>hs _ e x hi) h3) (λenv x=>Dy (by simpa using hn) env x)
   ·cases h
 ·obtain⟨a,h1,rfl⟩:=Option.map_eq_some_iff.mp h; exact uP (hf _ _ h1)
 ·unfold raiseO at h
  split at h
  ·split at h
   ·cases h
   ·rename_i hd
    simp only[Bool.or_eq_true,not_or,Bool.not_eq_true,Bool.not_eq_false'] at hd
    obtain⟨⟨⟨d1,d2⟩,d3⟩,d4⟩:=hd
    split at h
    ·rename_i h1 h2 h3 h4
     split at h
     ·rename_i ha
      cases h
      have:=beq_iff_eq.mp ha; subst this
      exact kD G Y h1 h2 d1 d4 (Nr d2 (hf _ _ h3) (Nr d3 (hf _ _ h4) jL)) d2 d3
     ·cases h
    ·cases h
  ·cases h
 ·split at h
  ·rename_i hn
   obtain⟨a,h1,rfl⟩:=Option.map_eq_some_iff.mp h; exact uQ (hf _ _ h1) hn
  ·cases h
 ·unfold pE at h
  split at h
  ·split at h
   ·cases h
   ·rename_i hd
    simp only[Bool.or_eq_true,not_or,Bool.not_eq_true,bne_eq_false_iff_eq] at hd
    split at h
    ·rename_i h1 h2 h3
     split at h
     ·rename_i ha
      cases h
      have:=beq_iff_eq.mp ha; subst this
      exact vA G (hf _ _ h3) h1 h2 hd.1 hd.2
     ·cases h
    ·cases h
  ·cases h
 ·cases h; exact oE
 ·cases h; exact oG
 ·cases h
theorem Zy(G:Good c) (Y:V2 c P fI cd fd):∀k fs e x,Inj fs→cS c.K c.k8 k fs e=some x→SS c n fs e x
 | 0,_,_,_,_,h=>by simp[cS] at h
 | k+1,fs,e,x,hi,h=>Zx G Y (Z3 G (k+1)).1 (Z3 G (k+1)).2 (Zy G Y k) hi h
def number(l:List Str):Nat→List (Str×Nat)
 | k=>match l with
  | []=>[]
  | x::r=>(x,k)::number r (k+1)
def fastNames(sc:Scope):List Str :=
 let l:=sc.more.filterMap λp=>match p with
  | (k,.str x)=>if k == ("fast":Str) then some x else none
  | _=>none
 if l.isEmpty then (sc.names.filter λp=>p.2 == .local || p.2 == .cell).map (·.1) else l
def D5(K:Frag) (k8:Addr) (f:Addr):Option (List Str×FS×List S):=match K.lookup f with
 | some ⟨_,_,.func fd,_⟩=>match fd.body with
  | .stmts body =>
   let ps:=fd.params.args.map (·.arg)
   let fs:FS:=⟨fd.scope.names,number (fastNames fd.scope) 0⟩
   if codeIn K fd.code fd.qualname && fd.globals == mainGlobals && fd.builtins == builtinsNs && fd.closure.isEmpty && fd.scope.kind == .function && !fd.scope.isCoroutine && !fd.scope.isGenerator &&
    fd.params.posonlyargs.isEmpty && fd.params.vararg.isNone && fd.params.kwonlyargs.isEmpty && fd.params.kwarg.isNone && fd.defaults == .none &&
    (number ps 0).all (λp=>fs.res.lookup p.1 == some p.2 && (fs.sc.lookup p.1 == some .local || fs.sc.lookup p.1 == some .cell)) && fs.sc.all (λp=>p.2 != .free)
   then (C5 (cS K k8 40 fs) body).map λxs=>(ps,fs,xs)
   else none
  | _=>none
 | _=>none
theorem R1:∀(l:List Str) (k i:Nat) (x:Str),l[i]?=some x→(x,k+i)∈number l k
 | [],_,_,_,h=>by simp at h
 | y::r,k,0,x,h=>by simp at h; subst h; exact .head _
 | y::r,k,i+1,x,h=>by
  simp at h
  have:=R1 r (k+1) i x h
  rw[show k+(i+1)=k+1+i by omega]
  exact .tail _ this
theorem Bs:∀(l:List Str) (k:Nat){x:Str}{i:Nat},(x,i)∈number l k→k≤i∧l[i - k]?=some x
 | [],_,_,_,h=>by simp[number] at h
 | y::r,k,x,i,h=>by
  rcases List.mem_cons.mp h with e | h
  ·cases e; simp
  ·obtain⟨h1,h2⟩:=Bs r (k+1) h
   refine⟨by omega,?_⟩
   rw[show i - k=(i - (k+1))+1 by omega]
   simpa using h2
theorem Ex(l:List Str) (sc:List (Str×NameKind)):Inj ⟨sc,number l 0⟩:=λx y i h1 h2=>by
 have a:=(Bs l 0 (mem_of_lookup h1)).2
 have b:=(Bs l 0 (mem_of_lookup h2)).2
 rw[a] at b; exact Option.some.inj b
theorem Dn{ps:List Str}{fs:FS}(h:∀p∈number ps 0,fs.res.lookup p.1=some p.2):ps.Nodup:=by
 rw[List.nodup_iff_pairwise_ne,List.pairwise_iff_getElem]
 intro i j hi hj hij e
 have h1:=h _ (R1 ps 0 i _ (List.getElem?_eq_getElem hi))
 have h2:=h _ (R1 ps 0 j _ (List.getElem?_eq_getElem hj))
 simp only[Nat.zero_add] at h1 h2
 rw[e,h2] at h1; cases h1; omega
theorem Zz(G:Good c) (Y:V2 c P fI cd fd){f:Addr}{ps:List Str}{fs:FS}{xs:List S}(h:D5 c.K c.k8 f=some (ps,fs,xs)){n:Nat}{vs:List V}{O:a7}{Q:V→a7→Prop}{E:a7→Prop}(hlen:vs.length=ps.length)
  (hw:o9 c n xs (d8 vs) O (i4 Q) E):Ji c (n+1) (.fix (.ref f)) vs O Q E:=by
 unfold D5 at h
 split at h
 ·rename_i oc od fd' osl hat
  split at h
  ·rename_i body hbody
   dsimp only at h
   split at h
   ·rename_i hc
    obtain⟨xs',h1,h2⟩:=Option.map_eq_some_iff.mp h
    cases h2
    simp only[Bool.and_eq_true,beq_iff_eq,List.all_eq_true,Bool.not_eq_true',Bool.or_eq_true,bne_iff_ne,ne_eq,List.isEmpty_iff,Option.isNone_iff_eq_none] at hc
    obtain⟨⟨⟨⟨⟨⟨⟨⟨⟨⟨⟨⟨⟨c1,c2⟩,c3⟩,c4⟩,c5⟩,c6⟩,c7⟩,c8⟩,c9⟩,c10⟩,c11⟩,c12⟩,zV⟩,c14⟩:=hc
    have hi:=Ex (fastNames fd'.scope) fd'.scope.names
    have hnd:(fd'.params.args.map (·.arg)).Nodup:=Dn (fs:=⟨fd'.scope.names,number (fastNames fd'.scope) 0⟩) λp hp=>(zV p hp).1
    refine eV G (fd:=fd') (body:=body) ⟨⟨oc,od,osl,hat⟩,hbody,c1,c2,c3,c4,c5,c6,c7,λvals hl=>V4 c8 c9 c10 c11 c12 hnd hl⟩
     ⟨hi,λk x hk=>by
      have:=zV _ (R1 _ 0 k x hk)
      simpa using this,λx hx=>?_⟩ rfl (K9 (λe x=>Zy G Y 40 _ e x hi) h1) hlen hw
    exact(c14 _ (mem_of_lookup hx)) rfl
   ·cases h
  ·cases h
 ·cases h
end
end Mine
end
section
open PySem PySem.W PyProof.Rows PySem.Calls
set_option Elab.async false
set_option maxRecDepth 100000
namespace Mine
abbrev gI:=NameKind.globalImplicit
def Ao:List S:=[(.q8 (.loc 0) "code" (.loc 1)),(.q8 (.loc 0) "at" (.loc 2))]
def Ap:FS:=⟨[("self",.local),("code",.local),("at",.local)],[("self",0),("code",1),("at",2)]⟩
def Ey:List S:=[(.q8 (.loc 0) "rows" (.lst [])),(.q8 (.loc 0) "index" (.dct [])),(.q8 (.loc 0) "depths" (.lst [])),(.q8 (.loc 0) "weights" (.lst [])),(.q8 (.loc 0) "opens" (.lst [])),(.for (.one 1) (.call (.con (.fix (.type "range"))) [(.con (.int 16))]) [(.set 2 (.tup [(.con (.int 1)),(.loc 1)])),(.exp (.meth (.attr (.loc 0) "rows") "append" [(.loc 2)])),(.I0 (.attr (.loc 0) "index") (.loc 2) (.loc 1)),(.exp (.meth (.attr (.loc 0) "depths") "append" [(.con (.int 1))])),(.exp (.meth (.attr (.loc 0) "weights") "append" [(.con (.int 1))])),(.exp (.meth (.attr (.loc 0) "opens") "append" [(.con (.int 0))]))])]
def Rw:FS:=⟨[("self",.local),("number",.local),("row",.local),("range",gI),("PRIM_END",gI),("R_PRIM",gI)],[("self",0),("number",1),("row",2)]⟩
def Jm:List S:=[(.ite (.or [(.cmp .Lt (.loc 1) (.con (.int 0))),(.cmp .GtE (.loc 1) (.call (.con (.fix (.builtin "len"))) [(.attr (.loc 0) "rows")]))]) [(.raise [(.con (.str "number")),(.loc 1)])] []),(.ret (.sub (.attr (.loc 0) "rows") (.loc 1)))]
def Wo:FS:=⟨[("self",.local),("k",.local),("len",gI),("BadKind",gI)],[("self",0),("k",1)]⟩
def X7:List S:=[(.set 2 (.meth (.attr (.loc 0) "index") "get" [(.loc 1),(.neg (.con (.int 1)))])),(.ite (.cmp .GtE (.loc 2) (.con (.int 0))) [(.ret (.loc 2))] []),(.exp (.call (.con (.fix (.ref 118))) [(.loc 0),(.loc 1)])),(.set 3 (.con (.int 1))),(.set 4 (.con (.int 1))),(.set 5 (.con (.int 0))),(.ite (.or [(.cmp .Eq (.sub (.loc 1) (.con (.int 0))) (.con (.int 6))),(.cmp .Eq (.sub (.loc 1) (.con (.int 0))) (.con (.int 7)))]) [(.set 5 (.con (.int 1)))] []),(.set 6 (.call (.con (.fix (.ref 104))) [(.sub (.loc 1) (.con (.int 0)))])),(.for (.one 7) (.call (.con (.fix (.ref 97))) [(.loc 1)]) [(.ite (.cmp .Gt (.bin .Add (.sub (.attr (.loc 0) "depths") (.loc 7)) (.loc 6)) (.loc 3)) [(.set 3 (.bin .Add (.sub (.attr (.loc 0) "depths") (.loc 7)) (.loc 6)))] []),(.aug 4 .Add (.sub (.attr (.loc 0) "weights") (.loc 7))),(.ite (.cmp .Eq (.sub (.attr (.loc 0) "opens") (.loc 7)) (.con (.int 1))) [(.set 5 (.con (.int 1)))] [])]),(.ite (.cmp .Gt (.loc 3) (.con (.int 24))) [(.raise [(.con (.str "depth")),(.loc 3)])] []),(.ite (.cmp .Gt (.loc 4) (.con (.int 4096))) [(.raise [(.con (.str "large")),(.loc 4)])] []),(.set 8 (.call (.con (.fix (.builtin "len"))) [(.attr (.loc 0) "rows")])),(.exp (.meth (.attr (.loc 0) "rows") "append" [(.loc 1)])),(.I0 (.attr (.loc 0) "index") (.loc 1) (.loc 8)),(.exp (.meth (.attr (.loc 0) "depths") "append" [(.loc 3)])),(.exp (.meth (.attr (.loc 0) "weights") "append" [(.loc 4)])),(.exp (.meth (.attr (.loc 0) "opens") "append" [(.loc 5)])),(.ret (.loc 8))]
def Wp:FS:=⟨[("self",.local),("row",.local),("found",.local),("depth",.local),("weight",.local),("opened",.local),("level",.local),("inner",.local),("k",.local),("check_kind_row",gI),("R_VAR",gI),("R_MVAR",gI),("row_level",gI),("inner_kinds",gI),("DEEPEST_KIND",gI),("BadKind",gI),("HEAVIEST_KIND",gI),("len",gI)],[("self",0),("row",1),("found",2),("depth",3),("weight",4),("opened",5),("level",6),("inner",7),("k",8)]⟩
def Ez:List S:=[(.set 1 (.sub (.loc 0) (.con (.int 0)))),(.ite (.or [(.cmp .Eq (.loc 1) (.con (.int 2))),(.cmp .Eq (.loc 1) (.con (.int 3)))]) [(.ret (.sub (.loc 0) (.con (.int 2))))] []),(.ite (.or [(.cmp .Eq (.loc 1) (.con (.int 4))),(.cmp .Eq (.loc 1) (.con (.int 5))),(.cmp .Eq (.loc 1) (.con (.int 8))),(.cmp .Eq (.loc 1) (.con (.int 9))),(.cmp .Eq (.loc 1) (.con (.int 11)))]) [(.ret (.tup [(.sub (.loc 0) (.con (.int 1)))]))] []),(.ite (.cmp .Eq (.loc 1) (.con (.int 10))) [(.ret (.bin .Add (.tup [(.sub (.loc 0) (.con (.int 1)))]) (.sub (.loc 0) (.con (.int 3)))))] []),(.ret (.tup []))]
def Fa:FS:=⟨[("row",.local),("sort",.local),("R_CLASS",gI),("R_VALUE",gI),("R_ARRAY",gI),("R_BYREF",gI),("R_BOXED",gI),("R_ROREF",gI),("R_RAW",gI),("R_FTN",gI)],[("row",0),("sort",1)]⟩
def Ky:List S:=[(.ite (.or [(.cmp .Eq (.loc 0) (.con (.int 2))),(.cmp .Eq (.loc 0) (.con (.int 3))),(.cmp .Eq (.loc 0) (.con (.int 4)))]) [(.ret (.con (.int 1)))] []),(.ret (.con (.int 0)))]
def Kz:FS:=⟨[("sort",.local),("R_CLASS",gI),("R_VALUE",gI),("R_ARRAY",gI)],[("sort",0)]⟩
def Hj:List S:=[(.ite (.or [(.cmp .Eq (.loc 0) (.con (.int 2))),(.cmp .Eq (.loc 0) (.con (.int 3)))]) [(.ret (.con (.int 3)))] []),(.ite (.cmp .Eq (.loc 0) (.con (.int 10))) [(.ret (.con (.int 4)))] []),(.ret (.con (.int 2)))]
def Hk:FS:=⟨[("sort",.local),("R_CLASS",gI),("R_VALUE",gI),("R_FTN",gI)],[("sort",0)]⟩
def Aq:List S:=[(.ite (.or [(.cmp .Eq (.call (.con (.fix (.builtin "len"))) [(.loc 1)]) (.con (.int 0))),(.cmp .LtE (.sub (.loc 1) (.con (.int 0))) (.con (.int 1))),(.cmp .Gt (.sub (.loc 1) (.con (.int 0))) (.con (.int 11)))]) [(.raise [(.con (.str "sort")),(.con (.int 0))])] []),(.set 2 (.sub (.loc 1) (.con (.int 0)))),(.ite (.cmp .NotEq (.call (.con (.fix (.builtin "len"))) [(.loc 1)]) (.call (.con (.fix (.ref 111))) [(.loc 2)])) [(.raise [(.con (.str "length")),(.loc 2)])] []),(.for (.one 3) (.call (.con (.fix (.ref 97))) [(.loc 1)]) [(.exp (.meth (.loc 0) "row" [(.loc 3)]))]),(.ite (.or [(.cmp .Eq (.loc 2) (.con (.int 2))),(.cmp .Eq (.loc 2) (.con (.int 3)))]) [(.exp (.call (.con (.fix (.ref 125))) [(.loc 0),(.loc 1)]))] [(.ite (.or [(.cmp .Eq (.loc 2) (.con (.int 6))),(.cmp .Eq (.loc 2) (.con (.int 7)))]) [(.ite (.cmp .Lt (.sub (.loc 1) (.con (.int 1))) (.con (.int 0))) [(.raise [(.con (.str "place")),(.sub (.loc 1) (.con (.int 1)))])] [])] [(.ite (.cmp .Eq (.loc 2) (.con (.int 10))) [(.ite (.or [(.not (.val (.call (.con (.fix (.ref 139))) [(.loc 0),(.sub (.loc 1) (.con (.int 1)))]))),(.cmp .Lt (.sub (.loc 1) (.con (.int 2))) (.con (.int 0)))]) [(.raise [(.con (.str "method")),(.sub (.loc 1) (.con (.int 2)))])] []),(.exp (.call (.con (.fix (.ref 132))) [(.loc 0),(.sub (.loc 1) (.con (.int 3)))]))] [(.ite (.cmp .Eq (.loc 2) (.con (.int 8))) [(.ite (.not (.or [(.val (.call (.con (.fix (.ref 223))) [(.loc 0),(.sub (.loc 1) (.con (.int 1)))])),(.val (.call (.con (.fix (.ref 230))) [(.loc 0),(.sub (.loc 1) (.con (.int 1)))]))])) [(.raise [(.con (.str "boxed")),(.sub (.loc 1) (.con (.int 1)))])] [])] [(.ite (.not (.val (.call (.con (.fix (.ref 139))) [(.loc 0),(.sub (.loc 1) (.con (.int 1)))]))) [(.raise [(.con (.str "inner")),(.sub (.loc 1) (.con (.int 1)))])] [])])])])])]
def Ar:FS:=⟨[("kt",.local),("row",.local),("sort",.local),("inner",.local),("len",gI),("R_PRIM",gI),("R_RAW",gI),("BadKind",gI),("row_length",gI),("inner_kinds",gI),("R_CLASS",gI),("R_VALUE",gI),("check_named",gI),("R_VAR",gI),("R_MVAR",gI),("R_FTN",gI),("may_stand",gI),("check_args",gI),("R_BOXED",gI),("is_value",gI),("is_var",gI)],[("kt",0),("row",1),("sort",2),("inner",3)]⟩
def Fb:List S:=[(.ite (.or [(.cmp .LtE (.sub (.loc 1) (.con (.int 1))) (.con (.int 0))),(.cmp .In (.sub (.loc 1) (.con (.int 1))) (.con (.fix (.ref 55))))]) [(.raise [(.con (.str "named")),(.sub (.loc 1) (.con (.int 1)))])] []),(.exp (.call (.con (.fix (.ref 132))) [(.loc 0),(.sub (.loc 1) (.con (.int 2)))]))]
def Fc:FS:=⟨[("kt",.local),("row",.local),("TID_PRIM",gI),("BadKind",gI),("check_args",gI)],[("kt",0),("row",1)]⟩
def Hl:List S:=[(.for (.one 2) (.loc 1) [(.ite (.not (.val (.call (.con (.fix (.ref 139))) [(.loc 0),(.loc 2)]))) [(.raise [(.con (.str "argument")),(.loc 2)])] [])])]
def Hm:FS:=⟨[("kt",.local),("args",.local),("arg",.local),("may_stand",gI),("BadKind",gI)],[("kt",0),("args",1),("arg",2)]⟩
def La:List S:=[(.ite (.or [(.cmp .Eq (.loc 1) (.con (.int 0))),(.cmp .Eq (.loc 1) (.con (.int 14)))]) [(.ret (.con (.bool false)))] []),(.set 2 (.sub (.meth (.loc 0) "row" [(.loc 1)]) (.con (.int 0)))),(.ret (.or [(.cmp .LtE (.loc 2) (.con (.int 4))),(.cmp .Eq (.loc 2) (.con (.int 6))),(.cmp .Eq (.loc 2) (.con (.int 7)))]))]
def Lb:FS:=⟨[("kt",.local),("k",.local),("sort",.local),("VOID",gI),("NULLK",gI),("R_ARRAY",gI),("R_VAR",gI),("R_MVAR",gI)],[("kt",0),("k",1),("sort",2)]⟩
def Hn:List S:=[(.ite (.cmp .In (.loc 1) (.con (.fix (.ref 55)))) [(.ret (.call (.con (.fix (.ref 160))) [(.loc 1),(.loc 2)]))] []),(.ret (.meth (.loc 0) "put" [(.tup [(.con (.int 2)),(.loc 1),(.loc 2)])]))]
def Ho:FS:=⟨[("kt",.local),("tid",.local),("args",.local),("TID_PRIM",gI),("prim_kind",gI),("R_CLASS",gI)],[("kt",0),("tid",1),("args",2)]⟩
def Hp:List S:=[(.ite (.cmp .In (.loc 1) (.con (.fix (.ref 55)))) [(.ret (.call (.con (.fix (.ref 160))) [(.loc 1),(.loc 2)]))] []),(.ret (.meth (.loc 0) "put" [(.tup [(.con (.int 3)),(.loc 1),(.loc 2)])]))]
def Hq:FS:=⟨[("kt",.local),("tid",.local),("args",.local),("TID_PRIM",gI),("prim_kind",gI),("R_VALUE",gI)],[("kt",0),("tid",1),("args",2)]⟩
def Lc:List S:=[(.ite (.cmp .Gt (.call (.con (.fix (.builtin "len"))) [(.loc 1)]) (.con (.int 0))) [(.raise [(.con (.str "argument")),(.loc 0)])] []),(.ret (.sub (.con (.fix (.ref 55))) (.loc 0)))]
def Ld:FS:=⟨[("tid",.local),("args",.local),("len",gI),("BadKind",gI),("TID_PRIM",gI)],[("tid",0),("args",1)]⟩
def Hr:List S:=[(.ret (.meth (.loc 0) "put" [(.tup [(.con (.int 4)),(.loc 1)])]))]
def Hs:FS:=⟨[("kt",.local),("elem",.local),("R_ARRAY",gI)],[("kt",0),("elem",1)]⟩
def Ht:List S:=[(.ret (.meth (.loc 0) "put" [(.tup [(.con (.int 5)),(.loc 1)])]))]
def Hu:FS:=⟨[("kt",.local),("inner",.local),("R_BYREF",gI)],[("kt",0),("inner",1)]⟩
def Oo:List S:=[(.ret (.meth (.loc 0) "put" [(.tup [(.con (.int 6)),(.loc 1)])]))]
def Oq:FS:=⟨[("kt",.local),("i",.local),("R_VAR",gI)],[("kt",0),("i",1)]⟩
def Le:List S:=[(.ret (.meth (.loc 0) "put" [(.tup [(.con (.int 7)),(.loc 1)])]))]
def Lf:FS:=⟨[("kt",.local),("i",.local),("R_MVAR",gI)],[("kt",0),("i",1)]⟩
def Hv:List S:=[(.ret (.meth (.loc 0) "put" [(.tup [(.con (.int 9)),(.loc 1)])]))]
def Hw:FS:=⟨[("kt",.local),("inner",.local),("R_ROREF",gI)],[("kt",0),("inner",1)]⟩
def Lg:List S:=[(.ret (.sub (.meth (.loc 0) "row" [(.loc 1)]) (.con (.int 0))))]
def Lh:FS:=⟨[("kt",.local),("k",.local)],[("kt",0),("k",1)]⟩
def Wq:List S:=[(.set 2 (.meth (.loc 0) "row" [(.loc 1)])),(.ite (.or [(.cmp .Eq (.sub (.loc 2) (.con (.int 0))) (.con (.int 2))),(.cmp .Eq (.sub (.loc 2) (.con (.int 0))) (.con (.int 3)))]) [(.ret (.sub (.loc 2) (.con (.int 1))))] []),(.ite (.cmp .Eq (.sub (.loc 2) (.con (.int 0))) (.con (.int 1))) [(.ret (.meth (.con (.fix (.ref 54))) "get" [(.loc 1),(.con (.int 0))]))] []),(.ite (.cmp .Eq (.sub (.loc 2) (.con (.int 0))) (.con (.int 4))) [(.ret (.con (.int 5)))] []),(.ret (.con (.int 0)))]
def Wr:FS:=⟨[("kt",.local),("k",.local),("row",.local),("R_CLASS",gI),("R_VALUE",gI),("R_PRIM",gI),("PRIM_TID",gI),("R_ARRAY",gI),("ARRAY_TID",gI)],[("kt",0),("k",1),("row",2)]⟩
def Rx:List S:=[(.set 2 (.meth (.loc 0) "row" [(.loc 1)])),(.ite (.or [(.cmp .Eq (.sub (.loc 2) (.con (.int 0))) (.con (.int 2))),(.cmp .Eq (.sub (.loc 2) (.con (.int 0))) (.con (.int 3)))]) [(.ret (.sub (.loc 2) (.con (.int 2))))] []),(.ret (.tup []))]
def Ry:FS:=⟨[("kt",.local),("k",.local),("row",.local),("R_CLASS",gI),("R_VALUE",gI)],[("kt",0),("k",1),("row",2)]⟩
def Ot:List S:=[(.ite (.and [(.cmp .LtE (.con (.int 1)) (.loc 1)),(.cmp .LtE (.loc 1) (.con (.int 11)))]) [(.ret (.con (.bool true)))] []),(.ret (.cmp .Eq (.sub (.meth (.loc 0) "row" [(.loc 1)]) (.con (.int 0))) (.con (.int 3))))]
def Ou:FS:=⟨[("kt",.local),("k",.local),("BOOL",gI),("NINT",gI),("R_VALUE",gI)],[("kt",0),("k",1)]⟩
def Ws:List S:=[(.set 2 (.sub (.meth (.loc 0) "row" [(.loc 1)]) (.con (.int 0)))),(.ret (.or [(.cmp .Eq (.loc 2) (.con (.int 6))),(.cmp .Eq (.loc 2) (.con (.int 7)))]))]
def Wt:FS:=⟨[("kt",.local),("k",.local),("sort",.local),("R_VAR",gI),("R_MVAR",gI)],[("kt",0),("k",1),("sort",2)]⟩
def aA:List S:=[(.exp (.meth (.loc 0) "row" [(.loc 1)])),(.ite (.cmp .Eq (.sub (.attr (.loc 0) "opens") (.loc 1)) (.con (.int 0))) [(.ret (.loc 1))] []),(.ret (.call (.con (.fix (.ref 244))) [(.loc 0),(.loc 1),(.loc 2),(.loc 3),(.dct [])]))]
def aB:FS:=⟨[("kt",.local),("k",.local),("targs",.local),("margs",.local),("close_in",gI)],[("kt",0),("k",1),("targs",2),("margs",3)]⟩
def Cq:List S:=[(.ite (.cmp .Eq (.sub (.attr (.loc 0) "opens") (.loc 1)) (.con (.int 0))) [(.ret (.loc 1))] []),(.ite (.cmp .In (.loc 1) (.loc 4)) [(.ret (.sub (.loc 4) (.loc 1)))] []),(.set 5 (.sub (.attr (.loc 0) "rows") (.loc 1))),(.ite (.cmp .Eq (.sub (.loc 5) (.con (.int 0))) (.con (.int 6))) [(.ret (.call (.con (.fix (.ref 265))) [(.loc 2),(.sub (.loc 5) (.con (.int 1))),(.loc 1)]))] []),(.ite (.cmp .Eq (.sub (.loc 5) (.con (.int 0))) (.con (.int 7))) [(.ret (.call (.con (.fix (.ref 265))) [(.loc 3),(.sub (.loc 5) (.con (.int 1))),(.loc 1)]))] []),(.set 6 (.lst [])),(.for (.one 7) (.call (.con (.fix (.ref 97))) [(.loc 5)]) [(.exp (.meth (.loc 6) "append" [(.call (.con (.fix (.ref 244))) [(.loc 0),(.loc 7),(.loc 2),(.loc 3),(.loc 4)])]))]),(.I0 (.loc 4) (.loc 1) (.call (.con (.fix (.ref 251))) [(.loc 0),(.loc 5),(.call (.con (.fix (.type "tuple"))) [(.loc 6)])])),(.ret (.sub (.loc 4) (.loc 1)))]
def Ov:FS:=⟨[("kt",.local),("k",.local),("targs",.local),("margs",.local),("seen",.local),("row",.local),("inner",.local),("part",.local),("R_VAR",gI),("pick_arg",gI),("R_MVAR",gI),("inner_kinds",gI),("close_in",gI),("with_inner",gI),("tuple",gI)],[("kt",0),("k",1),("targs",2),("margs",3),("seen",4),("row",5),("inner",6),("part",7)]⟩
def Hx:List S:=[(.set 3 (.sub (.loc 1) (.con (.int 0)))),(.ite (.or [(.cmp .Eq (.loc 3) (.con (.int 2))),(.cmp .Eq (.loc 3) (.con (.int 3)))]) [(.ret (.meth (.loc 0) "put" [(.tup [(.loc 3),(.sub (.loc 1) (.con (.int 1))),(.loc 2)])]))] []),(.ite (.cmp .Eq (.loc 3) (.con (.int 10))) [(.ret (.meth (.loc 0) "put" [(.tup [(.loc 3),(.sub (.loc 2) (.con (.int 0))),(.sub (.loc 1) (.con (.int 2))),(.slc (.loc 2) (some 1) none)])]))] []),(.ite (.cmp .Eq (.loc 3) (.con (.int 8))) [(.ret (.call (.con (.fix (.ref 258))) [(.loc 0),(.sub (.loc 2) (.con (.int 0)))]))] []),(.ret (.meth (.loc 0) "put" [(.tup [(.loc 3),(.sub (.loc 2) (.con (.int 0)))])]))]
def Hy:FS:=⟨[("kt",.local),("row",.local),("inner",.local),("sort",.local),("R_CLASS",gI),("R_VALUE",gI),("R_FTN",gI),("R_BOXED",gI),("box_of",gI)],[("kt",0),("row",1),("inner",2),("sort",3)]⟩
def Wu:List S:=[(.ite (.val (.call (.con (.fix (.ref 230))) [(.loc 0),(.loc 1)])) [(.ret (.meth (.loc 0) "put" [(.tup [(.con (.int 8)),(.loc 1)])]))] []),(.ite (.not (.val (.call (.con (.fix (.ref 223))) [(.loc 0),(.loc 1)]))) [(.ret (.loc 1))] []),(.ite (.cmp .Eq (.call (.con (.fix (.ref 209))) [(.loc 0),(.loc 1)]) (.con (.int 8))) [(.ret (.meth (.loc 0) "put" [(.tup [(.con (.int 8)),(.sub (.call (.con (.fix (.ref 216))) [(.loc 0),(.loc 1)]) (.con (.int 0)))])]))] []),(.ret (.meth (.loc 0) "put" [(.tup [(.con (.int 8)),(.loc 1)])]))]
def Wv:FS:=⟨[("kt",.local),("k",.local),("is_var",gI),("R_BOXED",gI),("is_value",gI),("tid_of",gI),("NULLABLE_TID",gI),("args_of",gI)],[("kt",0),("k",1)]⟩
def Ow:List S:=[(.ite (.cmp .Lt (.loc 1) (.call (.con (.fix (.builtin "len"))) [(.loc 0)])) [(.ret (.sub (.loc 0) (.loc 1)))] []),(.ret (.loc 2))]
def Ox:FS:=⟨[("args",.local),("place",.local),("k",.local),("len",gI)],[("args",0),("place",1),("k",2)]⟩
def Dp:List S:=[(.q8 (.loc 0) "tid" (.loc 1)),(.q8 (.loc 0) "name" (.loc 2)),(.q8 (.loc 0) "sort" (.loc 3)),(.q8 (.loc 0) "flags" (.loc 4)),(.q8 (.loc 0) "base" (.loc 5)),(.q8 (.loc 0) "ifaces" (.lst [])),(.q8 (.loc 0) "params" (.lst [])),(.q8 (.loc 0) "variances" (.lst [])),(.q8 (.loc 0) "bounds" (.lst [])),(.for (.one 8) (.loc 6) [(.exp (.meth (.attr (.loc 0) "params") "append" [(.loc 8)])),(.exp (.meth (.attr (.loc 0) "variances") "append" [(.con (.int 0))])),(.exp (.meth (.attr (.loc 0) "bounds") "append" [(.tup [(.con (.int 0)),(.tup [])])]))]),(.q8 (.loc 0) "fields" (.lst [])),(.q8 (.loc 0) "methods" (.lst [])),(.q8 (.loc 0) "asm" (.loc 7)),(.q8 (.loc 0) "cctor" (.con (.int 0))),(.q8 (.loc 0) "under" (.neg (.con (.int 1)))),(.q8 (.loc 0) "impls" (.lst [])),(.q8 (.loc 0) "props" (.lst [])),(.q8 (.loc 0) "events" (.lst [])),(.q8 (.loc 0) "finaliser" (.con (.int 0))),(.q8 (.loc 0) "home" (.con (.int 0)))]
def Dq:FS:=⟨[("self",.local),("tid",.local),("name",.local),("sort",.local),("flags",.local),("base",.local),("params",.local),("asm",.local),("word",.local),("VA_NONE",gI)],[("self",0),("tid",1),("name",2),("sort",3),("flags",4),("base",5),("params",6),("asm",7),("word",8)]⟩
def Bt:List S:=[(.q8 (.loc 0) "fid" (.loc 1)),(.q8 (.loc 0) "owner" (.loc 2)),(.q8 (.loc 0) "name" (.loc 3)),(.q8 (.loc 0) "kind" (.loc 4)),(.q8 (.loc 0) "access" (.loc 5)),(.q8 (.loc 0) "flags" (.loc 6)),(.q8 (.loc 0) "value" (.con .none))]
def Bu:FS:=⟨[("self",.local),("fid",.local),("owner",.local),("name",.local),("kind",.local),("access",.local),("flags",.local)],[("self",0),("fid",1),("owner",2),("name",3),("kind",4),("access",5),("flags",6)]⟩
def Hz:List S:=[(.q8 (.loc 0) "kt" (.call (.con (.fix (.ref 86))) [])),(.q8 (.loc 0) "types" (.lst [(.con .none)])),(.q8 (.loc 0) "fields_" (.lst [(.con .none)])),(.q8 (.loc 0) "methods" (.lst [(.con .none)])),(.q8 (.loc 0) "names" (.dct [])),(.q8 (.loc 0) "asms" (.lst [])),(.q8 (.loc 0) "entry" (.con (.int 0)))]
def Ia:FS:=⟨[("self",.local),("KindTable",gI)],[("self",0)]⟩
def Ib:List S:=[(.ite (.cmp .Eq (.loc 1) (.con (.int 2))) [(.ret (.call (.con (.fix (.ref 146))) [(.attr (.loc 0) "kt"),(.con (.int 2)),(.tup [])]))] []),(.ite (.cmp .Eq (.loc 1) (.con (.int 5))) [(.ret (.call (.con (.fix (.ref 146))) [(.attr (.loc 0) "kt"),(.con (.int 3)),(.tup [])]))] []),(.ite (.cmp .Eq (.loc 1) (.con (.int 4))) [(.ret (.call (.con (.fix (.ref 146))) [(.attr (.loc 0) "kt"),(.con (.int 6)),(.tup [])]))] []),(.ret (.neg (.con (.int 1))))]
def Ic:FS:=⟨[("store",.local),("sort",.local),("S_STRUCT",gI),("class_kind",gI),("T_VALUETYPE",gI),("S_ENUM",gI),("T_ENUM",gI),("S_DELEGATE",gI),("T_DELEGATE",gI)],[("store",0),("sort",1)]⟩
def Ie:List S:=[(.ite (.cmp .Eq (.loc 0) (.con (.int 3))) [(.ret (.bin .BitOr (.loc 1) (.con (.int 1))))] []),(.ite (.cmp .Eq (.loc 0) (.con (.int 1))) [(.ret (.loc 1))] []),(.ret (.bin .BitOr (.loc 1) (.con (.int 2))))]
def Ig:FS:=⟨[("sort",.local),("flags",.local),("S_IFACE",gI),("TF_ABSTRACT",gI),("S_CLASS",gI),("TF_SEALED",gI)],[("sort",0),("flags",1)]⟩
def Oy:List S:=[(.ite (.cmp .Lt (.loc 5) (.con (.int 0))) [(.set 5 (.call (.con (.fix (.ref 335))) [(.loc 0),(.loc 3)]))] []),(.set 7 (.call (.con (.fix (.builtin "len"))) [(.attr (.loc 0) "types")])),(.exp (.meth (.attr (.loc 0) "types") "append" [(.call (.con (.fix (.ref 282))) [(.loc 7),(.loc 2),(.loc 3),(.call (.con (.fix (.ref 342))) [(.loc 3),(.loc 4)]),(.loc 5),(.loc 6),(.loc 1)])])),(.set 8 (.tup [(.loc 1),(.loc 2),(.call (.con (.fix (.builtin "len"))) [(.loc 6)])])),(.ite (.cmp .NotIn (.loc 8) (.attr (.loc 0) "names")) [(.I0 (.attr (.loc 0) "names") (.loc 8) (.loc 7))] []),(.ret (.loc 7))]
def Oz:FS:=⟨[("store",.local),("asm",.local),("name",.local),("sort",.local),("flags",.local),("base",.local),("params",.local),("tid",.local),("key",.local),("usual_base",gI),("len",gI),("TypeDef",gI),("sort_flags",gI)],[("store",0),("asm",1),("name",2),("sort",3),("flags",4),("base",5),("params",6),("tid",7),("key",8)]⟩
def Li:List S:=[(.set 6 (.sub (.attr (.loc 0) "types") (.loc 1))),(.set 7 (.call (.con (.fix (.builtin "len"))) [(.attr (.loc 0) "fields_")])),(.exp (.meth (.attr (.loc 0) "fields_") "append" [(.call (.con (.fix (.ref 303))) [(.loc 7),(.loc 1),(.loc 2),(.loc 3),(.loc 4),(.loc 5)])])),(.exp (.meth (.attr (.loc 6) "fields") "append" [(.loc 7)])),(.ret (.loc 7))]
def Lj:FS:=⟨[("store",.local),("tid",.local),("name",.local),("kind",.local),("access",.local),("flags",.local),("t",.local),("fid",.local),("len",gI),("FieldDef",gI)],[("store",0),("tid",1),("name",2),("kind",3),("access",4),("flags",5),("t",6),("fid",7)]⟩
def Lk:List S:=[(.ite (.cmp .In (.loc 1) (.con (.fix (.ref 55)))) [(.ret (.sub (.con (.fix (.ref 55))) (.loc 1)))] []),(.set 2 (.sub (.attr (.loc 0) "types") (.loc 1))),(.set 3 (.lst [])),(.for (.one 4) (.call (.con (.fix (.type "range"))) [(.call (.con (.fix (.builtin "len"))) [(.attr (.loc 2) "params")])]) [(.exp (.meth (.loc 3) "append" [(.call (.con (.fix (.ref 181))) [(.attr (.loc 0) "kt"),(.loc 4)])]))]),(.ret (.call (.con (.fix (.ref 370))) [(.loc 0),(.loc 1),(.call (.con (.fix (.type "tuple"))) [(.loc 3)])]))]
def Ll:FS:=⟨[("store",.local),("tid",.local),("t",.local),("args",.local),("place",.local),("TID_PRIM",gI),("range",gI),("len",gI),("var_kind",gI),("kind_with",gI),("tuple",gI)],[("store",0),("tid",1),("t",2),("args",3),("place",4)]⟩
def Lm:List S:=[(.set 3 (.attr (.sub (.attr (.loc 0) "types") (.loc 1)) "sort")),(.ite (.or [(.cmp .Eq (.loc 3) (.con (.int 2))),(.cmp .Eq (.loc 3) (.con (.int 5)))]) [(.ret (.call (.con (.fix (.ref 153))) [(.attr (.loc 0) "kt"),(.loc 1),(.loc 2)]))] []),(.ret (.call (.con (.fix (.ref 146))) [(.attr (.loc 0) "kt"),(.loc 1),(.loc 2)]))]
def Ln:FS:=⟨[("store",.local),("tid",.local),("args",.local),("sort",.local),("S_STRUCT",gI),("S_ENUM",gI),("value_kind",gI),("class_kind",gI)],[("store",0),("tid",1),("args",2),("sort",3)]⟩
def Rz:List S:=[(.set 2 (.call (.con (.fix (.ref 209))) [(.attr (.loc 0) "kt"),(.loc 1)])),(.ite (.or [(.cmp .LtE (.loc 2) (.con (.int 0))),(.cmp .GtE (.loc 2) (.call (.con (.fix (.builtin "len"))) [(.attr (.loc 0) "types")]))]) [(.ret (.con .none))] []),(.ret (.sub (.attr (.loc 0) "types") (.loc 2)))]
def Sa:FS:=⟨[("store",.local),("k",.local),("tid",.local),("tid_of",gI),("len",gI)],[("store",0),("k",1),("tid",2)]⟩
def Dr:List S:=[(.set 2 (.lst [])),(.set 3 (.call (.con (.fix (.ref 377))) [(.loc 0),(.loc 1)])),(.ite (.cmp .Is (.loc 3) (.con .none)) [(.ret (.loc 2))] []),(.for (.one 4) (.attr (.loc 3) "fields") [(.set 5 (.sub (.attr (.loc 0) "fields_") (.loc 4))),(.ite (.or [(.val (.bin .BitAnd (.attr (.loc 5) "flags") (.bin .BitOr (.con (.int 1)) (.con (.int 4))))),(.cmp .NotIn (.call (.con (.fix (.ref 202))) [(.attr (.loc 0) "kt"),(.attr (.loc 5) "kind")]) (.tup [(.con (.int 3)),(.con (.int 6))]))]) [.cont] []),(.set 6 (.call (.con (.fix (.ref 237))) [(.attr (.loc 0) "kt"),(.attr (.loc 5) "kind"),(.call (.con (.fix (.ref 216))) [(.attr (.loc 0) "kt"),(.loc 1)]),(.tup [])])),(.ite (.val (.call (.con (.fix (.ref 391))) [(.loc 0),(.loc 6)])) [(.exp (.meth (.loc 2) "append" [(.loc 6)]))] [])]),(.ret (.loc 2))]
def Ds:FS:=⟨[("store",.local),("k",.local),("out",.local),("t",.local),("fid",.local),("f",.local),("kind",.local),("type_of",gI),("FF_STATIC",gI),("FF_LITERAL",gI),("kind_sort",gI),("R_VALUE",gI),("R_VAR",gI),("close",gI),("args_of",gI),("is_plain_struct",gI)],[("store",0),("k",1),("out",2),("t",3),("fid",4),("f",5),("kind",6)]⟩
def Z4:List S:=[(.ite (.cmp .NotEq (.call (.con (.fix (.ref 202))) [(.attr (.loc 0) "kt"),(.loc 1)]) (.con (.int 3))) [(.ret (.con (.bool false)))] []),(.set 2 (.call (.con (.fix (.ref 377))) [(.loc 0),(.loc 1)])),(.ret (.or [(.cmp .Is (.loc 2) (.con .none)),(.cmp .NotEq (.attr (.loc 2) "sort") (.con (.int 5)))]))]
def Z5:FS:=⟨[("store",.local),("k",.local),("t",.local),("kind_sort",gI),("R_VALUE",gI),("type_of",gI),("S_ENUM",gI)],[("store",0),("k",1),("t",2)]⟩
def V9:List S:=[(.set 2 (.call (.con (.fix (.ref 405))) [(.loc 0),(.call (.con (.fix (.ref 363))) [(.attr (.loc 0) "store"),(.attr (.loc 1) "tid")])])),(.set 3 (.dct [])),(.whl (.and [(.val (.loc 2)),(.cmp .Lt (.call (.con (.fix (.builtin "len"))) [(.loc 3)]) (.con (.int 1000)))]) [(.set 4 (.meth (.loc 2) "pop" [])),(.ite (.cmp .Eq (.call (.con (.fix (.ref 209))) [(.attr (.loc 0) "kt"),(.loc 4)]) (.attr (.loc 1) "tid")) [(.ret (.con (.bool true)))] []),(.ite (.cmp .NotIn (.loc 4) (.loc 3)) [(.I0 (.loc 3) (.loc 4) (.con (.int 1))),(.exp (.meth (.loc 2) "extend" [(.call (.con (.fix (.ref 405))) [(.loc 0),(.loc 4)])]))] [])]),(.ret (.con (.bool false)))]
def W0:FS:=⟨[("d",.local),("t",.local),("todo",.local),("met",.local),("k",.local),("decl_held",gI),("self_kind",gI),("len",gI),("MOST_HELD",gI),("tid_of",gI)],[("d",0),("t",1),("todo",2),("met",3),("k",4)]⟩
def As:List S:=[(.eJ (.call (.con (.fix (.ref 384))) [(.attr (.loc 0) "store"),(.loc 1)]))]
def Lo:FS:=⟨[("d",.local),("k",.local),("value_fields",gI),("BadKind",gI)],[("d",0),("k",1)]⟩
def F6:List S:=[(.set 1 (.call (.con (.fix (.ref 419))) [(.loc 1),(.loc 3)])),(.set 2 (.call (.con (.fix (.ref 419))) [(.loc 2),(.loc 3)])),(.ite (.cmp .Eq (.loc 1) (.loc 2)) [(.ret (.con (.bool true)))] []),(.ite (.val (.call (.con (.fix (.ref 230))) [(.attr (.loc 0) "kt"),(.loc 2)])) [(.swap 1 2 (.loc 2) (.loc 1))] []),(.ite (.val (.call (.con (.fix (.ref 230))) [(.attr (.loc 0) "kt"),(.loc 1)])) [(.I0 (.loc 3) (.loc 1) (.loc 2)),(.ret (.not (.call (.con (.fix (.ref 424))) [(.loc 0),(.loc 1),(.loc 2),(.loc 3)])))] []),(.set 4 (.meth (.attr (.loc 0) "kt") "row" [(.loc 1)])),(.set 5 (.meth (.attr (.loc 0) "kt") "row" [(.loc 2)])),(.ite (.or [(.cmp .NotEq (.sub (.loc 4) (.con (.int 0))) (.sub (.loc 5) (.con (.int 0)))),(.cmp .NotEq (.call (.con (.fix (.ref 209))) [(.attr (.loc 0) "kt"),(.loc 1)]) (.call (.con (.fix (.ref 209))) [(.attr (.loc 0) "kt"),(.loc 2)]))]) [(.ret (.con (.bool false)))] []),(.set 6 (.call (.con (.fix (.ref 97))) [(.loc 4)])),(.set 7 (.call (.con (.fix (.ref 97))) [(.loc 5)])),(.ite (.or [(.not (.val (.loc 6))),(.cmp .NotEq (.call (.con (.fix (.builtin "len"))) [(.loc 6)]) (.call (.con (.fix (.builtin "len"))) [(.loc 7)]))]) [(.ret (.con (.bool false)))] []),(.for (.one 8) (.call (.con (.fix (.type "range"))) [(.call (.con (.fix (.builtin "len"))) [(.loc 6)])]) [(.ite (.not (.val (.call (.con (.fix (.ref 412))) [(.loc 0),(.sub (.loc 6) (.loc 8)),(.sub (.loc 7) (.loc 8)),(.loc 3)]))) [(.ret (.con (.bool false)))] [])]),(.ret (.con (.bool true)))]
def Z6:FS:=⟨[("d",.local),("a",.local),("b",.local),("found",.local),("one",.local),("two",.local),("xs",.local),("ys",.local),("i",.local),("decl_put_in",gI),("is_var",gI),("decl_stands_in",gI),("tid_of",gI),("inner_kinds",gI),("len",gI),("range",gI),("decl_may_be_one",gI)],[("d",0),("a",1),("b",2),("found",3),("one",4),("two",5),("xs",6),("ys",7),("i",8)]⟩
def Fd:List S:=[(.whl (.cmp .In (.loc 0) (.loc 1)) [(.set 0 (.sub (.loc 1) (.loc 0)))]),(.ret (.loc 0))]
def Fe:FS:=⟨[("k",.local),("found",.local)],[("k",0),("found",1)]⟩
def N1:List S:=[(.ite (.cmp .Eq (.loc 2) (.loc 1)) [(.ret (.con (.bool true)))] []),(.ite (.and [(.cmp .In (.loc 2) (.loc 3)),(.val (.call (.con (.fix (.ref 230))) [(.attr (.loc 0) "kt"),(.loc 2)]))]) [(.ret (.call (.con (.fix (.ref 424))) [(.loc 0),(.loc 1),(.sub (.loc 3) (.loc 2)),(.loc 3)]))] []),(.ret (.call (.con (.fix (.builtin "any"))) [(.comp (.call (.con (.fix (.ref 424))) [(.loc 0),(.loc 1),(.loc 4),(.loc 3)]) (.one 4) (.call (.con (.fix (.ref 97))) [(.meth (.attr (.loc 0) "kt") "row" [(.loc 2)])]) [])]))]
def Au:FS:=⟨[("d",.cell),("var",.cell),("k",.local),("found",.cell),("is_var",gI),("decl_stands_in",gI),("any",gI),("inner_kinds",gI)],[("d",0),("var",1),("k",2),("found",3),("held_kind",4)]⟩
def Ih:List S:=[(.q8 (.loc 0) "rows" (.lst []))]
def Ii:FS:=⟨[("self",.local)],[("self",0)]⟩
def Lp:List S:=[(.q8 (.loc 0) "store" (.loc 1)),(.q8 (.loc 0) "asm" (.loc 2)),(.q8 (.loc 0) "fns" (.lst [(.con .none)])),(.q8 (.loc 0) "vars" (.lst [(.con .none)])),(.q8 (.loc 0) "of_mid" (.dct [])),(.q8 (.loc 0) "diags" (.call (.con (.fix (.ref 462))) [])),(.q8 (.loc 0) "inits" (.dct [])),(.q8 (.loc 0) "sinits" (.dct [])),(.q8 (.loc 0) "consts" (.dct []))]
def Lq:FS:=⟨[("self",.local),("store",.local),("asm",.local),("Diags",gI)],[("self",0),("store",1),("asm",2)]⟩
def Lr:List S:=[(.q8 (.loc 0) "unit" (.loc 1)),(.q8 (.loc 0) "store" (.attr (.loc 1) "store")),(.q8 (.loc 0) "kt" (.attr (.attr (.loc 1) "store") "kt")),(.q8 (.loc 0) "host" (.loc 2)),(.q8 (.loc 0) "asm" (.loc 3)),(.q8 (.loc 0) "kinds" (.dct [])),(.q8 (.loc 0) "unmet" (.dct [])),(.q8 (.loc 0) "told" (.lst [])),(.q8 (.loc 0) "tparams" (.dct [])),(.q8 (.loc 0) "owner" (.con (.int 0))),(.q8 (.loc 0) "mid" (.con (.int 0))),(.q8 (.loc 0) "early" (.con (.int 0))),(.q8 (.loc 0) "static" (.con (.int 0)))]
def Ls:FS:=⟨[("self",.local),("unit",.local),("host",.local),("asm",.local)],[("self",0),("unit",1),("host",2),("asm",3)]⟩
def Pa:List S:=[(.set 3 (.sub (.loc 1) (.con (.int 0)))),(.I0 (.loc 1) (.con (.int 0)) (.bin .Add (.loc 3) (.con (.int 1)))),(.set 4 (.call (.con (.fix (.builtin "len"))) [(.loc 0)])),(.ret (.bin .Mod (.bin .Add (.sub (.loc 0) (.bin .Mod (.loc 3) (.loc 4))) (.bin .Mult (.bin .FloorDiv (.loc 3) (.loc 4)) (.bin .Add (.bin .Mod (.sub (.loc 0) (.con (.int 0))) (.con (.int 7))) (.bin .Mult (.con (.int 3)) (.loc 3))))) (.loc 2)))]
def Pb:FS:=⟨[("nums",.local),("at",.local),("n",.local),("i",.local),("k",.local),("len",gI)],[("nums",0),("at",1),("n",2),("i",3),("k",4)]⟩
def Cr:List S:=[(.set 3 (.sub (.loc 2) (.con (.int 0)))),(.set 5 (.call (.con (.fix (.type "tuple"))) [(.comp (.call (.con (.fix (.ref 548))) [(.loc 0),(.loc 1),(.loc 4)]) (.one 4) (.slc (.loc 2) (some 1) none) [])])),(.ite (.cmp .In (.loc 3) (.con (.str "xy"))) [(.set 6 (.call (.con (.fix (.ref 181))) [(.loc 0),(.ite (.cmp .Eq (.loc 3) (.con (.str "x"))) (.con (.int 0)) (.con (.int 1)))]))] [(.ite (.cmp .Eq (.loc 3) (.con (.str "m"))) [(.set 6 (.call (.con (.fix (.ref 188))) [(.loc 0),(.con (.int 0))]))] [(.ite (.cmp .In (.loc 3) (.con (.str "iso"))) [(.set 6 (.ite (.cmp .Eq (.loc 3) (.con (.str "i"))) (.con (.int 7)) (.ite (.cmp .Eq (.loc 3) (.con (.str "s"))) (.con (.int 13)) (.con (.int 12)))))] [(.ite (.cmp .Eq (.loc 3) (.con (.str "a"))) [(.set 6 (.call (.con (.fix (.ref 167))) [(.loc 0),(.sub (.loc 5) (.con (.int 0)))]))] [(.ite (.cmp .Eq (.loc 3) (.con (.str "&"))) [(.set 6 (.call (.con (.fix (.ref 174))) [(.loc 0),(.sub (.loc 5) (.con (.int 0)))]))] [(.ite (.cmp .Eq (.loc 3) (.con (.str "r"))) [(.set 6 (.call (.con (.fix (.ref 195))) [(.loc 0),(.sub (.loc 5) (.con (.int 0)))]))] [(.set 7 (.dct [(.con (.str "S")),(.con (.int 64)),(.con (.str "R")),(.con (.int 65)),(.con (.str "Q")),(.con (.int 66)),(.con (.str "N")),(.con (.int 67)),(.con (.str "G")),(.con (.int 68)),(.con (.str "e")),(.con (.int 69)),(.con (.str "C")),(.con (.int 70)),(.con (.str "L")),(.con (.int 71)),(.con (.str "M")),(.con (.int 72)),(.con (.str "D")),(.con (.int 73)),(.con (.str "V")),(.con (.int 74)),(.con (.str "u")),(.con (.int 75))])),(.set 6 (.ite (.cmp .In (.loc 3) (.con (.str "CLMD"))) (.call (.con (.fix (.ref 146))) [(.loc 0),(.sub (.loc 7) (.loc 3)),(.loc 5)]) (.call (.con (.fix (.ref 153))) [(.loc 0),(.sub (.loc 7) (.loc 3)),(.loc 5)])))])])])])])]),(.I0 (.loc 1) (.loc 6) (.loc 2)),(.ret (.loc 6))]
def Pc:FS:=⟨[("kt",.cell),("names",.cell),("term",.local),("word",.local),("inner",.local),("k",.local),("tids",.local),("tuple",gI),("var_kind",gI),("mvar_kind",gI),("array_kind",gI),("byref_kind",gI),("roref_kind",gI),("class_kind",gI),("value_kind",gI)],[("kt",0),("names",1),("term",2),("word",3),("part",4),("inner",5),("k",6),("tids",7)]⟩
def Sb:List S:=[(.ite (.cmp .In (.loc 0) (.loc 1)) [(.ret (.sub (.loc 1) (.loc 0)))] []),(.ite (.cmp .Eq (.call (.con (.fix (.builtin "len"))) [(.loc 0)]) (.con (.int 1))) [(.ret (.loc 0))] []),(.ret (.bin .Add (.tup [(.sub (.loc 0) (.con (.int 0)))]) (.call (.con (.fix (.type "tuple"))) [(.comp (.call (.con (.fix (.ref 553))) [(.loc 2),(.loc 1)]) (.one 2) (.slc (.loc 0) (some 1) none) [])])))]
def Sd:FS:=⟨[("term",.local),("swaps",.cell),("len",gI),("tuple",gI)],[("term",0),("swaps",1),("part",2)]⟩
def Pd:List S:=[(.ite (.cmp .In (.loc 0) (.loc 1)) [(.ret (.call (.con (.fix (.ref 558))) [(.sub (.loc 1) (.loc 0)),(.loc 1)]))] []),(.ite (.cmp .Eq (.call (.con (.fix (.builtin "len"))) [(.loc 0)]) (.con (.int 1))) [(.ret (.loc 0))] []),(.ret (.bin .Add (.tup [(.sub (.loc 0) (.con (.int 0)))]) (.call (.con (.fix (.type "tuple"))) [(.comp (.call (.con (.fix (.ref 558))) [(.loc 2),(.loc 1)]) (.one 2) (.slc (.loc 0) (some 1) none) [])])))]
def Pe:FS:=⟨[("term",.local),("swaps",.cell),("_law_full",gI),("len",gI),("tuple",gI)],[("term",0),("swaps",1),("part",2)]⟩
def Pf:List S:=[(.set 3 (.call (.con (.fix (.ref 543))) [(.loc 0),(.loc 1),(.ite (.val (.loc 2)) (.con (.int 10)) (.con (.int 5)))])),(.ite (.cmp .Lt (.loc 3) (.con (.int 5))) [(.ret (.tup [(.sub (.con (.str "xymis")) (.loc 3))]))] []),(.set 4 (.lst [(.call (.con (.fix (.ref 565))) [(.loc 0),(.loc 1),(.bin .Sub (.loc 2) (.con (.int 1)))])])),(.ite (.cmp .Eq (.loc 3) (.con (.int 8))) [(.exp (.meth (.loc 4) "append" [(.call (.con (.fix (.ref 565))) [(.loc 0),(.loc 1),(.bin .Sub (.loc 2) (.con (.int 1)))])]))] []),(.ret (.bin .Add (.tup [(.sub (.con (.str "LMVDa")) (.bin .Sub (.loc 3) (.con (.int 5))))]) (.call (.con (.fix (.type "tuple"))) [(.loc 4)])))]
def Pg:FS:=⟨[("nums",.local),("at",.local),("deep",.local),("form",.local),("inner",.local),("_law_draw",gI),("_law_term",gI),("tuple",gI)],[("nums",0),("at",1),("deep",2),("form",3),("inner",4)]⟩
def Ph:List S:=[(.set 2 (.call (.con (.fix (.ref 543))) [(.loc 0),(.loc 1),(.con (.int 6))])),(.set 3 (.call (.con (.fix (.ref 565))) [(.loc 0),(.loc 1),(.con (.int 2))])),(.set 4 (.call (.con (.fix (.ref 565))) [(.loc 0),(.loc 1),(.con (.int 1))])),(.set 5 (.call (.con (.fix (.ref 565))) [(.loc 0),(.loc 1),(.con (.int 1))])),(.set 6 (.call (.con (.fix (.ref 553))) [(.loc 3),(.dct [(.tup [(.con (.str "x"))]),(.loc 4),(.tup [(.con (.str "y"))]),(.loc 5)])])),(.ite (.cmp .Eq (.loc 2) (.con (.int 0))) [(.ret (.tup [(.loc 3),(.call (.con (.fix (.ref 565))) [(.loc 0),(.loc 1),(.con (.int 2))])]))] []),(.ite (.cmp .Eq (.loc 2) (.con (.int 3))) [(.ret (.tup [(.tup [(.con (.str "D")),(.tup [(.con (.str "x"))]),(.tup [(.con (.str "D")),(.tup [(.con (.str "y"))]),(.loc 3)])]),(.tup [(.con (.str "D")),(.loc 4),(.tup [(.con (.str "D")),(.loc 5),(.loc 6)])])]))] []),(.ite (.cmp .Eq (.loc 2) (.con (.int 4))) [(.ret (.tup [(.loc 3),(.call (.con (.fix (.ref 553))) [(.loc 6),(.dct [(.tup [(.con (.str "i"))]),(.tup [(.con (.str "s"))])])])]))] []),(.ite (.cmp .Eq (.loc 2) (.con (.int 5))) [(.ret (.tup [(.tup [(.con (.str "&")),(.loc 3)]),(.tup [(.sub (.con (.str "&r")) (.call (.con (.fix (.ref 543))) [(.loc 0),(.loc 1),(.con (.int 2))])),(.loc 6)])]))] []),(.ret (.tup [(.loc 3),(.loc 6)]))]
def Pj:FS:=⟨[("nums",.local),("at",.local),("way",.local),("one",.local),("first",.local),("second",.local),("two",.local),("_law_draw",gI),("_law_term",gI),("_law_put",gI)],[("nums",0),("at",1),("way",2),("one",3),("first",4),("second",5),("two",6)]⟩
def Pk:List S:=[(.whl (.cmp .In (.loc 1) (.loc 0)) [(.set 1 (.sub (.loc 0) (.loc 1)))]),(.ret (.loc 1))]
def Pl:FS:=⟨[("boss",.local),("term",.local)],[("boss",0),("term",1)]⟩
def Pm:List S:=[(.set 3 (.call (.con (.fix (.ref 579))) [(.loc 0),(.loc 1)])),(.ite (.cmp .In (.loc 3) (.loc 2)) [(.ret (.con (.bool false)))] []),(.for (.one 4) (.slc (.loc 3) (some 1) none) [(.ite (.not (.val (.call (.con (.fix (.ref 586))) [(.loc 0),(.loc 4),(.bin .Add (.loc 2) (.lst [(.loc 3)]))]))) [(.ret (.con (.bool false)))] [])]),(.ret (.con (.bool true)))]
def Pn:FS:=⟨[("boss",.local),("term",.local),("path",.local),("root",.local),("part",.local),("_law_root",gI),("_law_ends",gI)],[("boss",0),("term",1),("path",2),("root",3),("part",4)]⟩
def Cs:List S:=[(.set 1 (.dct [])),(.set 2 (.slc (.loc 0) none none)),(.whl (.val (.loc 2)) [(.Vz 3 4 (.meth (.loc 2) "pop" [])),(.set 3 (.call (.con (.fix (.ref 579))) [(.loc 1),(.loc 3)])),(.set 4 (.call (.con (.fix (.ref 579))) [(.loc 1),(.loc 4)])),(.ite (.cmp .Eq (.loc 3) (.loc 4)) [.cont] []),(.ite (.cmp .In (.sub (.loc 3) (.con (.int 0))) (.con (.str "xym"))) [(.I0 (.loc 1) (.loc 3) (.loc 4))] [(.ite (.cmp .In (.sub (.loc 4) (.con (.int 0))) (.con (.str "xym"))) [(.I0 (.loc 1) (.loc 4) (.loc 3))] [(.ite (.cmp .NotEq (.sub (.loc 3) (.con (.int 0))) (.sub (.loc 4) (.con (.int 0)))) [(.ret (.con .none))] [(.I0 (.loc 1) (.loc 3) (.loc 4)),(.for (.one 5) (.call (.con (.fix (.type "range"))) [(.con (.int 1)),(.call (.con (.fix (.builtin "len"))) [(.loc 3)])]) [(.exp (.meth (.loc 2) "append" [(.tup [(.sub (.loc 3) (.loc 5)),(.sub (.loc 4) (.loc 5))])]))])])])])]),(.for (.two 3 4) (.loc 0) [(.ite (.or [(.not (.val (.call (.con (.fix (.ref 586))) [(.loc 1),(.loc 3),(.lst [])]))),(.not (.val (.call (.con (.fix (.ref 586))) [(.loc 1),(.loc 4),(.lst [])])))]) [(.ret (.con .none))] [])]),(.ret (.loc 1))]
def Po:FS:=⟨[("equal",.local),("boss",.local),("todo",.local),("one",.local),("two",.local),("j",.local),("_law_root",gI),("range",gI),("len",gI),("_law_ends",gI)],[("equal",0),("boss",1),("todo",2),("one",3),("two",4),("j",5)]⟩
def H2:List S:=[(.Vz 3 4 (.call (.con (.fix (.ref 572))) [(.loc 1),(.loc 2)])),(.set 5 (.lst [(.tup [(.loc 3),(.loc 4)])])),(.ite (.cmp .Eq (.call (.con (.fix (.ref 543))) [(.loc 1),(.loc 2),(.con (.int 3))]) (.con (.int 0))) [(.exp (.meth (.loc 5) "append" [(.tup [(.tup [(.con (.str "y"))]),(.call (.con (.fix (.ref 553))) [(.call (.con (.fix (.ref 565))) [(.loc 1),(.loc 2),(.con (.int 1))]),(.dct [(.tup [(.con (.str "y"))]),(.tup [(.con (.str "i"))])])])])]))] []),(.set 6 (.call (.con (.fix (.ref 593))) [(.loc 5)])),(.set 7 (.dct [])),(.set 10 (.comp (.tup [(.call (.con (.fix (.ref 548))) [(.attr (.loc 0) "kt"),(.loc 7),(.loc 8)]),(.call (.con (.fix (.ref 548))) [(.attr (.loc 0) "kt"),(.loc 7),(.loc 9)])]) (.two 8 9) (.loc 5) [])),(.for (.two 11 12) (.tup [(.sub (.loc 10) (.con (.int 0))),(.tup [(.sub (.sub (.loc 10) (.con (.int 0))) (.con (.int 1))),(.sub (.sub (.loc 10) (.con (.int 0))) (.con (.int 0)))])]) [(.set 13 (.dct [])),(.for (.two 14 15) (.slc (.loc 10) (some 1) none) [(.I0 (.loc 13) (.loc 14) (.loc 15))]),(.ite (.cmp .NotEq (.call (.con (.fix (.ref 412))) [(.loc 0),(.loc 11),(.loc 12),(.loc 13)]) (.cmp .IsNot (.loc 6) (.con .none))) [(.ret (.con (.bool false)))] []),(.ite (.cmp .IsNot (.loc 6) (.con .none)) [(.set 16 (.dct [])),(.for (.one 14) (.call (.con (.fix (.builtin "sorted"))) [(.loc 13)]) [(.I0 (.loc 16) (.sub (.loc 7) (.loc 14)) (.sub (.loc 7) (.sub (.loc 13) (.loc 14))))]),(.ite (.val (.comp (.loc 17) (.one 17) (.call (.con (.fix (.builtin "sorted"))) [(.loc 16)]) [(.cmp .NotIn (.sub (.loc 17) (.con (.int 0))) (.con (.str "xym")))])) [(.ret (.con (.bool false)))] []),(.ite (.cmp .NotEq (.call (.con (.fix (.builtin "len"))) [(.loc 16)]) (.call (.con (.fix (.builtin "len"))) [(.Z1 (.loc 6) "xym")])) [(.ret (.con (.bool false)))] []),(.for (.two 8 9) (.loc 5) [(.ite (.cmp .NotEq (.call (.con (.fix (.ref 558))) [(.loc 8),(.loc 16)]) (.call (.con (.fix (.ref 558))) [(.loc 9),(.loc 16)])) [(.ret (.con (.bool false)))] [])])] [])]),(.ret (.con (.bool true)))]
def Av:FS:=⟨[("d",.cell),("nums",.local),("at",.local),("one",.local),("two",.local),("equal",.local),("boss",.local),("names",.cell),("a",.local),("b",.local),("rows",.local),("first",.local),("second",.local),("found",.local),("k",.local),("other",.local),("swaps",.local),("_law_pair",gI),("_law_draw",gI),("_law_put",gI),("_law_term",gI),("_law_join",gI),("decl_may_be_one",gI),("sorted",gI),("len",gI),("_law_full",gI)],[("d",0),("nums",1),("at",2),("one",3),("two",4),("equal",5),("boss",6),("names",7),("a",8),("b",9),("rows",10),("first",11),("second",12),("found",13),("k",14),("other",15),("swaps",16),("term",17)]⟩
def Lu:List S:=[(.set 4 (.call (.con (.fix (.ref 543))) [(.loc 0),(.loc 1),(.ite (.val (.loc 2)) (.bin .Add (.con (.int 5)) (.call (.con (.fix (.builtin "len"))) [(.loc 3)])) (.con (.int 5)))])),(.ite (.cmp .Lt (.loc 4) (.con (.int 5))) [(.ret (.tup [(.sub (.con (.str "xieuo")) (.loc 4))]))] []),(.ret (.tup [(.sub (.loc 3) (.bin .Sub (.loc 4) (.con (.int 5)))),(.call (.con (.fix (.ref 605))) [(.loc 0),(.loc 1),(.bin .Sub (.loc 2) (.con (.int 1))),(.loc 3)])]))]
def Lv:FS:=⟨[("nums",.local),("at",.local),("deep",.local),("words",.local),("form",.local),("_law_draw",gI),("len",gI),("_law_field",gI)],[("nums",0),("at",1),("deep",2),("words",3),("form",4)]⟩
def Ij:List S:=[(.set 4 (.dct [])),(.for (.one 5) (.call (.con (.fix (.type "range"))) [(.con (.int 5))]) [(.set 6 (.sub (.con (.str "SRQNG")) (.loc 5))),(.I0 (.loc 4) (.loc 6) (.lst [])),(.set 7 (.ite (.cmp .Eq (.loc 6) (.con (.str "G"))) (.con (.int 1)) (.ite (.cmp .Eq (.loc 6) (.con (.str "S"))) (.bin .Add (.con (.int 1)) (.call (.con (.fix (.ref 543))) [(.loc 2),(.loc 3),(.con (.int 2))])) (.call (.con (.fix (.ref 543))) [(.loc 2),(.loc 3),(.con (.int 3))])))),(.for (.one 8) (.call (.con (.fix (.type "range"))) [(.loc 7)]) [(.set 9 (.call (.con (.fix (.ref 605))) [(.loc 2),(.loc 3),(.ite (.cmp .Eq (.loc 6) (.con (.str "S"))) (.con (.int 2)) (.con (.int 1))),(.ite (.cmp .Eq (.loc 6) (.con (.str "S"))) (.con (.str "SRQNGCa")) (.con (.str "SRQNCa")))])),(.set 10 (.sub (.tup [(.con (.int 0)),(.con (.int 0)),(.con (.int 2)),(.con (.int 0)),(.con (.int 1)),(.con (.int 5))]) (.call (.con (.fix (.ref 543))) [(.loc 2),(.loc 3),(.con (.int 6))]))),(.exp (.call (.con (.fix (.ref 356))) [(.loc 0),(.bin .Add (.con (.int 64)) (.loc 5)),(.con (.str "f")),(.call (.con (.fix (.ref 548))) [(.attr (.loc 0) "kt"),(.loc 1),(.loc 9)]),(.con (.int 6)),(.loc 10)])),(.ite (.cmp .In (.loc 10) (.tup [(.con (.int 0)),(.con (.int 2))])) [(.exp (.meth (.sub (.loc 4) (.loc 6)) "append" [(.loc 9)]))] [])])]),(.set 11 (.tup [(.con (.str "x"))])),(.for (.one 8) (.call (.con (.fix (.type "range"))) [(.con (.int 6))]) [(.set 11 (.tup [(.con (.str "a")),(.loc 11)]))]),(.exp (.call (.con (.fix (.ref 356))) [(.loc 0),(.con (.int 68)),(.con (.str "g")),(.call (.con (.fix (.ref 548))) [(.attr (.loc 0) "kt"),(.loc 1),(.tup [(.con (.str "G")),(.loc 11)])]),(.con (.int 6)),(.con (.int 0))])),(.exp (.meth (.sub (.loc 4) (.con (.str "G"))) "append" [(.tup [(.con (.str "G")),(.loc 11)])])),(.ret (.loc 4))]
def Ik:FS:=⟨[("store",.local),("names",.local),("nums",.local),("at",.local),("fields",.local),("j",.local),("word",.local),("count",.local),("i",.local),("term",.local),("flags",.local),("grown",.local),("range",gI),("_law_draw",gI),("_law_field",gI),("add_field",gI),("_law_kind",gI)],[("store",0),("names",1),("nums",2),("at",3),("fields",4),("j",5),("word",6),("count",7),("i",8),("term",9),("flags",10),("grown",11)]⟩
def Pp:List S:=[(.set 2 (.lst [])),(.for (.one 3) (.meth (.loc 0) "get" [(.sub (.loc 1) (.con (.int 0))),(.lst [])]) [(.set 4 (.call (.con (.fix (.ref 553))) [(.loc 3),(.dct [(.tup [(.con (.str "x"))]),(.sub (.loc 1) (.con (.int 1)))])])),(.ite (.cmp .In (.sub (.loc 4) (.con (.int 0))) (.con (.str "SRQNGu"))) [(.exp (.meth (.loc 2) "append" [(.loc 4)]))] [])]),(.ret (.loc 2))]
def Pq:FS:=⟨[("fields",.local),("term",.local),("out",.local),("one",.local),("inner",.local),("_law_put",gI)],[("fields",0),("term",1),("out",2),("one",3),("inner",4)]⟩
def Pr:List S:=[(.set 1 (.con (.int 0))),(.whl (.cmp .Gt (.call (.con (.fix (.builtin "len"))) [(.loc 0)]) (.con (.int 1))) [(.set 0 (.sub (.loc 0) (.con (.int 1)))),(.aug 1 .Add (.con (.int 1)))]),(.ret (.loc 1))]
def Ps:FS:=⟨[("term",.local),("count",.local),("len",gI)],[("term",0),("count",1)]⟩
def A5:List S:=[(.set 3 (.attr (.loc 0) "store")),(.set 4 (.dct [])),(.for (.one 5) (.con (.str "SRQNGEC")) [(.exp (.call (.con (.fix (.ref 349))) [(.loc 3),(.con (.int 0)),(.loc 5),(.ite (.cmp .Eq (.loc 5) (.con (.str "E"))) (.con (.int 5)) (.ite (.cmp .Eq (.loc 5) (.con (.str "C"))) (.con (.int 1)) (.con (.int 2)))),(.con (.int 0)),(.neg (.con (.int 1))),(.ite (.cmp .Eq (.loc 5) (.con (.str "E"))) (.tup []) (.tup [(.con (.str "T"))]))]))]),(.set 6 (.call (.con (.fix (.ref 612))) [(.loc 3),(.loc 4),(.loc 1),(.loc 2)])),(.set 7 (.lst [])),(.set 8 (.call (.con (.fix (.ref 619))) [(.loc 6),(.tup [(.con (.str "S")),(.tup [(.con (.str "x"))])])])),(.whl (.val (.loc 8)) [(.set 9 (.meth (.loc 8) "pop" [])),(.ite (.and [(.cmp .NotIn (.loc 9) (.loc 7)),(.cmp .Lt (.call (.con (.fix (.ref 626))) [(.loc 9)]) (.con (.int 12)))]) [(.exp (.meth (.loc 7) "append" [(.loc 9)])),(.ite (.cmp .NotEq (.sub (.loc 9) (.con (.int 0))) (.con (.str "S"))) [(.aug 8 .Add (.call (.con (.fix (.ref 619))) [(.loc 6),(.loc 9)]))] [])] [])]),(.for (.one 9) (.bin .Add (.lst [(.tup [(.con (.str "S")),(.tup [(.con (.str "x"))])])]) (.slc (.loc 7) none (some 3))) [(.set 11 (.comp (.call (.con (.fix (.ref 548))) [(.attr (.loc 0) "kt"),(.loc 4),(.loc 10)]) (.one 10) (.call (.con (.fix (.ref 619))) [(.loc 6),(.loc 9)]) [])),(.ite (.cmp .NotEq (.call (.con (.fix (.ref 405))) [(.loc 0),(.call (.con (.fix (.ref 548))) [(.attr (.loc 0) "kt"),(.loc 4),(.loc 9)])]) (.loc 11)) [(.ret (.con (.bool false)))] [])]),(.ret (.cmp .Eq (.call (.con (.fix (.ref 398))) [(.loc 0),(.sub (.attr (.loc 3) "types") (.con (.int 64)))]) (.cmp .Gt (.call (.con (.fix (.builtin "len"))) [(.comp (.con (.int 1)) (.one 9) (.loc 7) [(.cmp .Eq (.sub (.loc 9) (.con (.int 0))) (.con (.str "S")))])]) (.con (.int 0)))))]
def Y3:FS:=⟨[("d",.cell),("nums",.local),("at",.local),("store",.local),("names",.cell),("word",.local),("fields",.local),("met",.local),("todo",.local),("term",.local),("want",.local),("add_type",gI),("_law_fields",gI),("_law_held",gI),("_law_deep",gI),("decl_held",gI),("_law_kind",gI),("decl_holds_itself",gI),("len",gI)],[("d",0),("nums",1),("at",2),("store",3),("names",4),("word",5),("fields",6),("met",7),("todo",8),("term",9),("one",10),("want",11)]⟩
def Ff:List S:=[(.set 2 (.comp (.bin .Mod (.loc 1) (.con (.int 999983))) (.one 1) (.slc (.loc 0) none (some 24)) [])),(.set 3 (.bin .Add (.con (.int 1)) (.bin .FloorDiv (.call (.con (.fix (.builtin "len"))) [(.loc 2)]) (.con (.int 16))))),(.ite (.not (.val (.loc 2))) [(.set 2 (.lst [(.con (.int 3)),(.con (.int 8)),(.con (.int 0)),(.con (.int 6)),(.con (.int 1)),(.con (.int 7)),(.con (.int 1)),(.con (.int 5)),(.con (.int 3)),(.con (.int 0)),(.con (.int 2)),(.con (.int 1)),(.con (.int 9)),(.con (.int 0)),(.con (.int 0)),(.con (.int 6)),(.con (.int 5)),(.con (.int 0)),(.con (.int 0)),(.con (.int 1)),(.con (.int 0)),(.con (.int 2)),(.con (.int 0)),(.con (.int 1)),(.con (.int 3)),(.con (.int 4)),(.con (.int 8)),(.con (.int 0)),(.con (.int 0))]))] []),(.set 4 (.lst [(.con (.int 0))])),(.set 5 (.call (.con (.fix (.ref 324))) [])),(.q8 (.loc 5) "types" (.bin .Mult (.lst [(.con .none)]) (.con (.int 64)))),(.set 6 (.call (.con (.fix (.ref 532))) [(.call (.con (.fix (.ref 483))) [(.loc 5),(.con (.int 0))]),(.con .none),(.con (.int 0))])),(.for (.one 7) (.call (.con (.fix (.type "range"))) [(.loc 3)]) [(.ite (.not (.val (.call (.con (.fix (.ref 598))) [(.loc 6),(.loc 2),(.loc 4)]))) [(.ret (.con (.bool false)))] [])]),(.ret (.call (.con (.fix (.ref 631))) [(.loc 6),(.loc 2),(.loc 4)]))]
def I2:FS:=⟨[("script",.local),("nums",.local),("pairs",.local),("at",.local),("store",.local),("d",.local),("i",.local),("len",gI),("Store",gI),("Yard",gI),("Unit",gI),("range",gI),("_law_pair_holds",gI),("_law_structs_hold",gI)],[("script",0),("n",1),("nums",2),("pairs",3),("at",4),("store",5),("d",6),("i",7)]⟩
abbrev FI(c:Cx) (f:Addr) (ps:List Str) (fs:FS) (xs:List S):Prop:=D5 c.K c.k8 f=some (ps,fs,xs)
structure Code(c:Cx):Prop where
 aC:FI c 35 ["self", "code", "at"] Ap Ao
 eZ:FI c 69 ["self"] Rw Ey
 kF:FI c 76 ["self", "k"] Wo Jm
 kG:FI c 83 ["self", "row"] Wp X7
 inner_kinds:FI c 97 ["row"] Fa Ez
 row_level:FI c 104 ["sort"] Kz Ky
 row_length:FI c 111 ["sort"] Hk Hj
 check_kind_row:FI c 118 ["kt", "row"] Ar Aq
 check_named:FI c 125 ["kt", "row"] Fc Fb
 check_args:FI c 132 ["kt", "args"] Hm Hl
 may_stand:FI c 139 ["kt", "k"] Lb La
 class_kind:FI c 146 ["kt", "tid", "args"] Ho Hn
 value_kind:FI c 153 ["kt", "tid", "args"] Hq Hp
 prim_kind:FI c 160 ["tid", "args"] Ld Lc
 array_kind:FI c 167 ["kt", "elem"] Hs Hr
 byref_kind:FI c 174 ["kt", "inner"] Hu Ht
 var_kind:FI c 181 ["kt", "i"] Oq Oo
 mvar_kind:FI c 188 ["kt", "i"] Lf Le
 roref_kind:FI c 195 ["kt", "inner"] Hw Hv
 kind_sort:FI c 202 ["kt", "k"] Lh Lg
 tid_of:FI c 209 ["kt", "k"] Wr Wq
 args_of:FI c 216 ["kt", "k"] Ry Rx
 is_value:FI c 223 ["kt", "k"] Ou Ot
 is_var:FI c 230 ["kt", "k"] Wt Ws
 close:FI c 237 ["kt", "k", "targs", "margs"] aB aA
 close_in:FI c 244 ["kt", "k", "targs", "margs", "seen"] Ov Cq
 with_inner:FI c 251 ["kt", "row", "inner"] Hy Hx
 box_of:FI c 258 ["kt", "k"] Wv Wu
 pick_arg:FI c 265 ["args", "place", "k"] Ox Ow
 Lw:FI c 279 ["self", "tid", "name", "sort", "flags", "base", "params", "asm"] Dq Dp
 Il:FI c 300 ["self", "fid", "owner", "name", "kind", "access", "flags"] Bu Bt
 Se:FI c 321 ["self"] Ia Hz
 usual_base:FI c 335 ["store", "sort"] Ic Ib
 sort_flags:FI c 342 ["sort", "flags"] Ig Ie
 add_type:FI c 349 ["store", "asm", "name", "sort", "flags", "base", "params"] Oz Oy
 add_field:FI c 356 ["store", "tid", "name", "kind", "access", "flags"] Lj Li
 self_kind:FI c 363 ["store", "tid"] Ll Lk
 kind_with:FI c 370 ["store", "tid", "args"] Ln Lm
 type_of:FI c 377 ["store", "k"] Sa Rz
 value_fields:FI c 384 ["store", "k"] Ds Dr
 is_plain_struct:FI c 391 ["store", "k"] Z5 Z4
 decl_holds_itself:FI c 398 ["d", "t"] W0 V9
 decl_held:FI c 405 ["d", "k"] Lo As
 decl_may_be_one:FI c 412 ["d", "a", "b", "found"] Z6 F6
 decl_put_in:FI c 419 ["k", "found"] Fe Fd
 decl_stands_in:FI c 424 ["d", "var", "k", "found"] Au N1
 Sf:FI c 438 ["self"] Ii Ih
 Ww:FI c 480 ["self", "store", "asm"] Lq Lp
 Wx:FI c 501 ["self", "unit", "host", "asm"] Ls Lr
 aD:FI c 543 ["nums", "at", "n"] Pb Pa
 aE:FI c 548 ["kt", "names", "term"] Pc Cr
 fA:FI c 553 ["term", "swaps"] Sd Sb
 aF:FI c 558 ["term", "swaps"] Pe Pd
 Pt:FI c 565 ["nums", "at", "deep"] Pg Pf
 aG:FI c 572 ["nums", "at"] Pj Ph
 aH:FI c 579 ["boss", "term"] Pl Pk
 aI:FI c 586 ["boss", "term", "path"] Pn Pm
 aJ:FI c 593 ["equal"] Po Cs
 Fg:FI c 598 ["d", "nums", "at"] Av H2
 Jn:FI c 605 ["nums", "at", "deep", "words"] Lv Lu
 Sg:FI c 612 ["store", "names", "nums", "at"] Ik Ij
 aK:FI c 619 ["fields", "term"] Pq Pp
 aL:FI c 626 ["term"] Ps Pr
 Bv:FI c 631 ["d", "nums", "at"] Y3 A5
 law:FI c 636 ["script"] I2 Ff
end Mine
end
section
open PySem PySem.W PyProof.Rows PySem.Calls
set_option Elab.async false
namespace Mine
open Classical
structure v4(c:Cx) (C fI:Addr) (names:List Str):Prop where
 attr:∀x∈names,Bm c C x∧setName c C x
 made:makesIn c.K C=true
 init:findIn c.K (.ref C) "__init__"=some (some (.ref fI))
 typ:typeIn c.K (.ref fI)=some (.type "function")
def Bw(c:Cx) (C:Addr) (x:Str) (f:Addr):Prop:=plainGet c.K C x=true∧findIn c.K (.ref C) x=some (some (.ref f))∧isFn c.K (.ref f)=true∧keepIn c.K (.ref f)=true
def R2:List (Int×V):=[(0,.int 20),(1,.int 9),(2,.int 10),(3,.int 11),(4,.int 12),(5,.int 13),(6,.int 14),(7,.int 15),(8,.int 16),(9,.int 17),(10,.int 18),(11,.int 19),(12,.int 1),(13,.int 4)]
def A6:List (Int×V):=[(20,.int 0),(9,.int 1),(10,.int 2),(11,.int 3),(12,.int 4),(13,.int 5),(14,.int 6),(15,.int 7),(16,.int 8),(17,.int 9),(18,.int 10),(19,.int 11),(1,.int 12),(4,.int 13)]
def v6:List Str:=["rows", "index", "depths", "weights", "opens"]
def n0:List Str:=["tid", "name", "sort", "flags", "base", "ifaces", "params", "variances", "bounds", "fields", "methods", "asm", "cctor", "under", "impls", "props", "events", "finaliser", "home"]
def E8:List Str:=["fid", "owner", "name", "kind", "access", "flags", "value"]
def A0:List Str:=["kt", "types", "fields_", "methods", "names", "asms", "entry"]
def Dz:List Str:=["rows"]
def D6:List Str:=["store", "asm", "fns", "vars", "of_mid", "diags", "inits", "sinits", "consts"]
def z3:List Str:=["unit", "store", "kt", "host", "asm", "kinds", "unmet", "told", "tparams", "owner", "mid", "early", "static"]
structure j7(c:Cx):Prop where
 G:Good c
 Y:∃P fI cd fd,V2 c P fI cd fd
 C:Code c
 kt:v4 c 86 69 v6
 td:v4 c 282 279 n0
 fd:v4 c 303 300 E8
 st:v4 c 324 321 A0
 dg:v4 c 462 438 Dz
 un:v4 c 483 480 D6
 yd:v4 c 532 501 z3
 Jo:Bw c 86 "row" 76
 Jp:Bw c 86 "put" 83
 R2:Rj c 54 R2
 A6:Rj c 55 A6
section
variable {c:Cx}{O:a7}{Q:V→a7→Prop}{E:a7→Prop}
theorem j7.fn(N:j7 c){f:Addr}{ps:List Str}{fs:FS}{xs:List S}(h:D5 c.K c.k8 f=some (ps,fs,xs)){n m:Nat}{vs:List V}(hlen:vs.length=ps.length) (hn:m+1=n)
  (hw:o9 c m xs (d8 vs) O (i4 Q) E):l8 c n (.fix (.ref f)) vs O Q E:=by
 obtain⟨P,fI,cd,fd,Y⟩:=N.Y
 subst hn
 exact(Zz N.G Y h hlen hw).call
end
inductive Hd where
 | prim (n:Nat)
 | var (n:Nat)
 | mvar (n:Nat)
 | cls (t:Nat)
 | val (t:Nat)
 | arr
 | byref
 | P2
 deriving DecidableEq
inductive Tm where
 | leaf (h:Hd)
 | un (h:Hd) (a:Tm)
 | bin (h:Hd) (a b:Tm)
 deriving DecidableEq
def vi(n:Nat):V:=.int n
def Tm.row(at_:Tm→Nat):Tm→V
 | .leaf (.prim n)=>.tup [vi 1,vi n]
 | .leaf (.var n)=>.tup [vi 6,vi n]
 | .leaf (.mvar n)=>.tup [vi 7,vi n]
 | .leaf (.cls t)=>.tup [vi 2,vi t,.tup []]
 | .leaf (.val t)=>.tup [vi 3,vi t,.tup []]
 | .leaf _=>.tup []
 | .un (.cls t) a=>.tup [vi 2,vi t,.tup [vi (at_ a)]]
 | .un (.val t) a=>.tup [vi 3,vi t,.tup [vi (at_ a)]]
 | .un .arr a=>.tup [vi 4,vi (at_ a)]
 | .un .byref a=>.tup [vi 5,vi (at_ a)]
 | .un .P2 a=>.tup [vi 9,vi (at_ a)]
 | .un _ _=>.tup []
 | .bin (.cls t) a b=>.tup [vi 2,vi t,.tup [vi (at_ a),vi (at_ b)]]
 | .bin (.val t) a b=>.tup [vi 3,vi t,.tup [vi (at_ a),vi (at_ b)]]
 | .bin _ _ _=>.tup []
def Hd.Aw:Hd→Nat
 | .cls _=>1
 | .val _=>1
 | .arr=>1
 | _=>0
def Hd.isVar:Hd→Bool
 | .var _=>true
 | .mvar _=>true
 | _=>false
def Hd.sort:Hd→Nat
 | .prim _=>1
 | .cls _=>2
 | .val _=>3
 | .arr=>4
 | .byref=>5
 | .var _=>6
 | .mvar _=>7
 | .P2=>9
def Tm.hd:Tm→Hd
 | .leaf h=>h
 | .un h _=>h
 | .bin h _ _=>h
def Tm.kids:Tm→List Tm
 | .leaf _=>[]
 | .un _ a=>[a]
 | .bin _ a b=>[a,b]
def Tm.depth:Tm→Nat
 | .leaf _=>1
 | .un h a=>max 1 (a.depth+h.Aw)
 | .bin h a b=>max (max 1 (a.depth+h.Aw)) (b.depth+h.Aw)
def Tm.weight:Tm→Nat
 | .leaf _=>1
 | .un _ a=>1+a.weight
 | .bin _ a b=>1+a.weight+b.weight
def Tm.open_:Tm→Bool
 | .leaf h=>h.isVar
 | .un _ a=>a.open_
 | .bin _ a b=>a.open_ || b.open_
def Hd.fit:Hd→Nat→Bool
 | .prim _,0=>true
 | .var _,0=>true
 | .mvar _,0=>true
 | .cls t,k=>k≤2 && decide (1 < t) && ((A6.find? λp=>decide (p.1=(t:Int))).isNone)
 | .val t,k=>k≤2 && decide (1 < t) && ((A6.find? λp=>decide (p.1=(t:Int))).isNone)
 | .arr,1=>true
 | .byref,1=>true
 | .P2,1=>true
 | _,_=>false
def Tm.stands(t:Tm):Bool:=match t.hd with
 | .prim n=>n != 0 && n != 14
 | .byref=>false
 | .P2=>false
 | _=>true
def Tm.ok:Tm→Bool
 | .leaf h=>h.fit 0 && (match h with | .prim n=>decide (n < 16) | _=>true)
 | .un h a=>h.fit 1 && a.ok && a.stands
 | .bin h a b=>h.fit 2 && a.ok && b.ok && a.stands && b.stands
structure Hc(T:List Tm):Prop where
 base:∀i,i < 16→T[i]?=some (.leaf (.prim i))
 nodup:T.Nodup
 ok:∀t∈T,t.ok=true
 kids:∀t∈T,∀a∈t.kids,a∈T
 deep:∀t∈T,t.depth≤24
 heavy:∀t∈T,t.weight≤4096
def bi(b:Bool):V:=.int (if b then 1 else 0)
structure I8 where
 a:Addr
 dx:Addr
 r:Addr
 i:Addr
 d:Addr
 w:Addr
 o:Addr
structure j5(K:I8) (T:List Tm) (O:a7):Prop where
 inst:O K.a=some (.inst 86 K.dx)
 ns:O K.dx=some (.ns [("rows",.ref K.r),("index",.ref K.i),("depths",.ref K.d),("weights",.ref K.w),("opens",.ref K.o)])
 rows:O K.r=some (.list (T.map (Tm.row (T.idxOf ·))))
 index:O K.i=some (.dict (T.map λt=>(t.row (T.idxOf ·),vi (T.idxOf t))))
 depths:O K.d=some (.list (T.map λt=>vi t.depth))
 weights:O K.w=some (.list (T.map λt=>vi t.weight))
 opens:O K.o=some (.list (T.map λt=>bi t.open_))
 apart:[K.r,K.d,K.w,K.o].Nodup
 tab:Hc T
 size:T.length≤100000
def b8(F:Addr→Prop) (O b7:a7):Prop:=∀b o,¬F b→O b=some o→b7 b=some o
def I8.F(K:I8) (b:Addr):Prop:=b=K.r∨b=K.i∨b=K.d∨b=K.w∨b=K.o
theorem b8.refl(F:Addr→Prop) (O:a7):b8 F O O:=λ_ _ _ e=>e
theorem b8.trans{F:Addr→Prop}{a b c:a7}(x:b8 F a b) (y:b8 F b c):b8 F a c:=λi o n e=>y i o n (x i o n e)
theorem b8.mono{F G:Addr→Prop}{a b:a7}(x:b8 F a b) (h:∀i,F i→G i):b8 G a b:=λi o n e=>x i o (λf=>n (h i f)) e
theorem b8.new{F:Addr→Prop}{O:a7}{r:Addr}{o:z5}(h:O r=none):b8 F O (i8 O r o):=λb o' _ e=>by
 rw[i9 (by rintro rfl; rw[h] at e; cases e)]; exact e
theorem b8.at{F:Addr→Prop}{O:a7}{r:Addr}{o:z5}(h:F r):b8 F O (i8 O r o):=λb o' n e=>by
 rw[i9 (by rintro rfl; exact n h)]; exact e
theorem j5.same{K:I8}{T:List Tm}{O b7:a7}(h:j5 K T O) (s:b8 (λ_=>False) O b7):j5 K T b7 where
 inst:=s _ _ id h.inst
 ns:=s _ _ id h.ns
 rows:=s _ _ id h.rows
 index:=s _ _ id h.index
 depths:=s _ _ id h.depths
 weights:=s _ _ id h.weights
 opens:=s _ _ id h.opens
 apart:=h.apart
 tab:=h.tab
 size:=h.size
section
variable {c:Cx}{O:a7}{Q:V→a7→Prop}{E:a7→Prop}{K:I8}{T:List Tm}
theorem j5.attr(h:j5 K T O) (N:j7 c){x:Str}{v:V}{R:V→Prop}(hv:([("rows",.ref K.r),("index",.ref K.i),("depths",.ref K.d),("weights",.ref K.w),("opens",.ref K.o)]:List (Str×V)).lookup x=some v) (hm:x∈v6) (hf:v.Ei=true) (q:R v):H8 c (.ref K.a) x O R :=
 ⟨_,_,_,_,_,rfl,h.inst,h.ns,hv,(N.kt.attr x hm).1,hf,q⟩
theorem j5.Fh(h:j5 K T O) (N:j7 c):Iw c (.ref K.a) "row" O (.fix (.ref 76)) :=
 .inr (.inr (.inr ⟨_,_,_,_,_,rfl,h.inst,h.ns,rfl,N.Jo.1,N.Jo.2.1,N.Jo.2.2.1,N.Jo.2.2.2,rfl⟩))
theorem j5.aM(h:j5 K T O) (N:j7 c):Iw c (.ref K.a) "put" O (.fix (.ref 83)) :=
 .inr (.inr (.inr ⟨_,_,_,_,_,rfl,h.inst,h.ns,rfl,N.Jp.1,N.Jp.2.1,N.Jp.2.2.1,N.Jp.2.2.2,rfl⟩))
theorem j5.Fi(h:j5 K T O) (N:j7 c){R:V→Prop}(q:R (.ref K.r)):H8 c (.ref K.a) "rows" O R:=h.attr N rfl (by simp[v6]) rfl q
theorem j5.fB(h:j5 K T O) (N:j7 c){R:V→Prop}(q:R (.ref K.i)):H8 c (.ref K.a) "index" O R:=h.attr N rfl (by simp[v6]) rfl q
theorem j5.Pu(h:j5 K T O) (N:j7 c){R:V→Prop}(q:R (.ref K.d)):H8 c (.ref K.a) "depths" O R:=h.attr N rfl (by simp[v6]) rfl q
theorem j5.Wy(h:j5 K T O) (N:j7 c){R:V→Prop}(q:R (.ref K.w)):H8 c (.ref K.a) "weights" O R:=h.attr N rfl (by simp[v6]) rfl q
theorem j5.Lx(h:j5 K T O) (N:j7 c){R:V→Prop}(q:R (.ref K.o)):H8 c (.ref K.a) "opens" O R:=h.attr N rfl (by simp[v6]) rfl q
theorem O1{a b:Int}{R:Bool→Prop}:G6 c .Lt (.int a) (.int b) O R=R (decide (a < b)):=by simp[G6]
theorem Sh{a b:Int}{R:Bool→Prop}:G6 c .LtE (.int a) (.int b) O R=R (decide (a≤b)):=by simp[G6]
theorem cmp_gt{a b:Int}{R:Bool→Prop}:G6 c .Gt (.int a) (.int b) O R=R (decide (b < a)):=by simp[G6]
theorem Ly{a b:Int}{R:Bool→Prop}:G6 c .GtE (.int a) (.int b) O R=R (decide (b≤a)):=by simp[G6]
theorem F7{a b:Int}{R:Bool→Prop}:G6 c .Eq (.int a) (.int b) O R=R (decide (a=b)):=by simp[G6,EQ,Kj,V.nb,V.hk]
theorem Bx{a b:Int}{R:Bool→Prop}:G6 c .NotEq (.int a) (.int b) O R=R (!decide (a=b)):=by simp[G6,EQ,Kj,V.nb,V.hk]
theorem v7{l:List V}{k:Nat}{v:V}(hk:k < 2 ^ 60) (h:l[k]?=some v):S4 (.tup l) (.int k) O Q=Q v O:=by
 simp only[S4,eq_iff_iff]
 constructor
 ·rintro⟨k',v',h1,h2,h3,h4,h5⟩
  cases h1; simp[h] at h4; subst h4; exact h5
 ·exact λq=>⟨k,v,rfl,by omega,by omega,by simpa using h,q⟩
theorem C9{a:Addr}{l:List V}{k:Nat}{v:V}(ha:O a=some (.list l)) (hk:k < 2 ^ 60) (h:l[k]?=some v):S4 (.ref a) (vi k) O Q=Q v O:=by
 simp only[S4,ha,eq_iff_iff,vi]
 constructor
 ·rintro⟨k',v',h1,h2,h3,h4,h5⟩
  cases h1; simp[h] at h4; subst h4; exact h5
 ·exact λq=>⟨k,v,rfl,by omega,by omega,by simpa using h,q⟩
theorem aN(N:j7 c) (h:j5 K T O){k:Nat}{t:Tm}(ht:T[k]?=some t){n:Nat}(hn:1≤n) (q:Q (t.row (T.idxOf ·)) O):l8 c n (.fix (.ref 76)) [.ref K.a,vi k] O Q E:=by
 obtain⟨m,rfl⟩:∃m,n=m+1:=⟨n - 1,by omega⟩
 refine N.fn N.C.kF rfl rfl ?_
 have hk:k < T.length:=(List.getElem?_eq_some_iff.mp ht).1
 have hs:=h.size
 unfold Jm
 simp only[o9,WS,WC,K6,WX,j0,d8,gZ,gS,oI,eL,vi,O1]
 rw[if_neg (by simp)]
 refine h.Fi N (A3 h.rows (by simp; omega) ?_)
 simp only[Ly,List.length_map]
 rw[if_neg (by simp; omega)]
 simp only[Bool.false_eq_true,false_implies,true_and,forall_const]
 refine h.Fi N ?_
 rw[show(V.int k)=vi k from rfl,C9 (v:=t.row (T.idxOf ·)) h.rows (by omega) (by simp[ht])]
 exact q
end
section
variable {c:Cx}{n:Nat}{Z:Loc}{O:a7}{Q:Fl→Loc→a7→Prop}{E:a7→Prop}{xs:List S}
theorem pF{x:S}{Q Q':Fl→Loc→a7→Prop}(h:Q=Q'):WS c n x Z O Q E=WS c n x Z O Q' E:=by rw[h]
theorem Ea:∀(a b:List S) (Z:Loc) (O:a7) (Q:Fl→Loc→a7→Prop),o9 c n (a++b) Z O Q E=o9 c n a Z O (λfl Z O=>match fl with
  | .next=>o9 c n b Z O Q E
  | .cont=>Q .cont Z O
  | .brk=>Q .brk Z O
  | .ret v=>Q (.ret v) Z O) E
 | [],b,Z,O,Q=>by simp[o9]
 | x::a,b,Z,O,Q=>by
  simp only[List.cons_append,o9]
  refine pF ?_
  funext fl i7 b7
  cases fl with
  | next=>exact Ea a b i7 b7 Q
  | _=>rfl
theorem o7(h:Q .next Z O):o9 c n [] Z O Q E:=by simpa[o9] using h
theorem i6{i:Nat}{e:X}(h:WX c n e Z O (λv O=>o9 c n xs (b6 Z i v) O Q E) E):o9 c n (.set i e::xs) Z O Q E:=by simpa[o9,WS] using h
theorem i5{e:X}(h:WX c n e Z O (λv O=>Q (.ret v) Z O) E):o9 c n (.ret e::xs) Z O Q E:=by simpa[o9,WS] using h
theorem z6{e:X}(h:WX c n e Z O (λv O=>o9 c n xs Z O Q E) E):o9 c n (.exp e::xs) Z O Q E:=by simpa[o9,WS] using h
theorem l0{t:B}{a b:List S}(r:Bool) (h:∀R E,R r O→WC c n t Z O R E) (h1:r=true→o9 c n (a++xs) Z O Q E) (h2:r=false→o9 c n (b++xs) Z O Q E):o9 c n (.ite t a b::xs) Z O Q E:=by
 simp only[o9,WS]
 refine h _ _ ⟨λe=>?_,λe=>?_⟩
 ·have:=h1 e; rw[Ea] at this; exact this
 ·have:=h2 e; rw[Ea] at this; exact this
theorem I3{t:B}{a b:List S}(h:WC c n t Z O (λr O=>(r=true→o9 c n (a++xs) Z O Q E)∧(r=false→o9 c n (b++xs) Z O Q E)) E):o9 c n (.ite t a b::xs) Z O Q E:=by
 simp only[Ea] at h
 simp only[o9,WS]
 exact h
theorem aO{i j:Nat}{e:X}(h:WX c n e Z O (λv O=>J7 (.two i j) v Z λi7=>o9 c n xs i7 O Q E) E):o9 c n (.Vz i j e::xs) Z O Q E:=by simpa[o9,WS] using h
theorem kH{i j:Nat}{a b:X}(h:WX c n a Z O (λx O=>WX c n b Z O (λy O=>o9 c n xs (b6 (b6 Z j y) i x) O Q E) E) E):o9 c n (.swap i j a b::xs) Z O Q E:=by simpa[o9,WS] using h
theorem Lz{o e:X}{x:Str}(h:WX c n e Z O (λv O=>WX c n o Z O (λov O=>jG c ov x v O λO=>o9 c n xs Z O Q E) E) E):o9 c n (.q8 o x e::xs) Z O Q E:=by simpa[o9,WS] using h
theorem H4{o i e:X}(h:WX c n e Z O (λv O=>WX c n o Z O (λov O=>WX c n i Z O (λiv O=>Di ov iv v O λO=>o9 c n xs Z O Q E) E) E) E):o9 c n (.I0 o i e::xs) Z O Q E:=by simpa[o9,WS] using h
theorem aP{i:Nat}{op:Operator}{e:X}{old:V}(ho:Z i=some old) (h:WX c n e Z O (λv O=>jH op old v O λr O=>o9 c n xs (b6 Z i r) O Q E) E):o9 c n (.aug i op e::xs) Z O Q E:=by
 simp only[o9,WS]; exact⟨old,ho,h⟩
theorem Uj{l:List X}(h:j0 c n l Z O (λ_ O=>E O) E):o9 c n (.raise l::xs) Z O Q E:=by simpa[o9,WS] using h
theorem aQ(h:Q .cont Z O):o9 c n (.cont::xs) Z O Q E:=by simpa[o9,WS] using h
theorem s9{it:a7→Prop}{step:V→Loc→a7→(Fl→Loc→a7→Prop)→Prop}(I:List V→List V→Loc→a7→Prop) (R:V→Loc→a7→Prop)
  (hi:∀done left Z O,I done left Z O→it O)
  (hs:∀done x left Z O K,I done (x::left) Z O→(∀i7 b7,I (done++[x]) left i7 b7→K .next i7 b7)→(∀i7 b7,I (done++[x]) left i7 b7→K .cont i7 b7)→(∀v i7 b7,R v i7 b7→K (.ret v) i7 b7)→step x Z O K) :
  ∀(left done:List V) (Z:Loc) (O:a7) (Q:Fl→Loc→a7→Prop),I done left Z O→(∀Z O,I (done++left) [] Z O→Q .next Z O)→(∀v Z O,R v Z O→Q (.ret v) Z O)→Kk it step left Z O Q
 | [],done,Z,O,Q,h,he,hr=>⟨hi _ _ _ _ h,he _ _ (by simpa using h)⟩
 | x::left,done,Z,O,Q,h,he,hr=>by
  have go:∀i7 b7,I (done++[x]) left i7 b7→Kk it step left i7 b7 Q:=λi7 b7 q=>s9 I R hi hs left _ _ _ _ q (λZ O q=>he _ _ (by simpa using q)) hr
  exact⟨hi _ _ _ _ h,hs _ _ _ _ _ _ h go go hr⟩
theorem D0{t:Tg}{e:X}{b:List S}(h:WX c n e Z O (λiv O=>∃l,u6 iv O l∧l.length≤1000000∧Kk (λO=>u6 iv O l) (λx Z O K=>J7 t x Z λi7=>o9 c n b i7 O K E) l Z O (λfl Z O=>match fl with
  | .next=>o9 c n xs Z O Q E
  | .cont=>Q .cont Z O
  | .brk=>Q .brk Z O
  | .ret v=>Q (.ret v) Z O)) E):o9 c n (.for t e b::xs) Z O Q E:=by
 simp only[o9,WS]; exact h
theorem C4{it:a7→Prop}{step:V→a7→(Option V→a7→Prop)→Prop}(I:List V→List V→List V→a7→Prop)
  (hi:∀done left acc O,I done left acc O→it O)
  (hs:∀done x left acc O K,I done (x::left) acc O→(∀v b7,I (done++[x]) left (acc++[v]) b7→K (some v) b7)→(∀b7,I (done++[x]) left acc b7→K none b7)→step x O K) :
  ∀(left done acc:List V) (O:a7) (Q:List V→a7→Prop),I done left acc O→(∀acc O,I (done++left) [] acc O→Q acc O)→Np it step left acc O Q
 | [],done,acc,O,Q,h,he=>⟨hi _ _ _ _ h,he _ _ (by simpa using h)⟩
 | x::left,done,acc,O,Q,h,he=>by
  refine⟨hi _ _ _ _ h,hs _ _ _ _ _ _ h (λv b7 q=>?_) (λb7 q=>?_)⟩
  ·exact C4 I hi hs left _ _ _ _ q λacc O q=>he _ _ (by simpa using q)
  ·exact C4 I hi hs left _ _ _ _ q λacc O q=>he _ _ (by simpa using q)
theorem Pv{t:B}{b:List S}(I:Nat→Loc→a7→Prop){k:Nat}(h:I k Z O)
  (hs:∀k Z O,I k Z O→WC c n t Z O (λr d0=>(r=true→o9 c n b Z d0 (λfl O6 o6=>match fl with
    | .next=>∃m,m < k∧I m O6 o6
    | .cont=>∃m,m < k∧I m O6 o6
    | .brk=>o9 c n xs O6 o6 Q E
    | .ret v=>Q (.ret v) O6 o6) E)∧(r=false→o9 c n xs Z d0 Q E)) E):o9 c n (.whl t b::xs) Z O Q E:=by
 simp only[o9,WS]; exact⟨I,⟨k,h⟩,hs⟩
end
section
variable {c:Cx}{O:a7}{Q:V→a7→Prop}{E:a7→Prop}{K:I8}{T:List Tm}
theorem Y4{at_:Tm→Nat}{t:Tm}(ht:t.ok=true){R:V→a7→Prop}:S4 (t.row at_) (.int 0) O R=R (vi t.hd.sort) O:=by
 rcases t with h | ⟨h,a⟩ | ⟨h,a,b⟩<;>cases h<;>simp[Tm.ok,Hd.fit] at ht<;>simp[Tm.row,S4,Tm.hd,Hd.sort]
theorem aR{m:Nat}{Z:Loc}{i:Nat}{v:Int}(h:Z i=some (.int v)){E:a7→Prop}:∀(l:List Int){R:Bool→a7→Prop},R (decide (v∈l)) O→K6 c m (l.map λa=>.cmp .Eq (.loc i) (.con (.int a))) Z O R E
 | [],R,q=>by simpa[K6] using q
 | a::l,R,q=>by
  simp only[List.map,K6,WC,WX,h,oI,eL,F7]
  by_cases e:v=a
  ·simpa[e] using q
  ·rw[if_neg (by simpa using e)]
   exact aR h l (by simpa[e] using q)
theorem K0{m:Nat}{Z:Loc}{i:Nat}{v:Int}{a b xs:List S}{Q:Fl→Loc→a7→Prop}(l:List Int) (h:Z i=some (.int v)) (h1:v∈l→o9 c m (a++xs) Z O Q E) (h2:v∉l→o9 c m (b++xs) Z O Q E) :
  o9 c m (.ite (.or (l.map λa=>.cmp .Eq (.loc i) (.con (.int a)))) a b::xs) Z O Q E:=by
 refine l0 (decide (v∈l)) (λR E q=>?_) (λe=>h1 (by simpa using e)) (λe=>h2 (by simpa using e))
 simp only[WC]
 exact aR h l q
theorem Z7{m:Nat}{Z:Loc}{i:Nat}{v k:Int}{a b xs:List S}{Q:Fl→Loc→a7→Prop}(h:Z i=some (.int v)) (h1:v=k→o9 c m (a++xs) Z O Q E) (h2:v≠k→o9 c m (b++xs) Z O Q E) :
  o9 c m (.ite (.cmp .Eq (.loc i) (.con (.int k))) a b::xs) Z O Q E:=by
 refine l0 (decide (v=k)) (λR E q=>?_) (λe=>h1 (by simpa using e)) (λe=>h2 (by simpa using e))
 simp only[WC,WX,h,oI,eL,F7]; exact q
theorem X8(N:j7 c){at_:Tm→Nat}{t:Tm}(ht:t.ok=true){n:Nat}(hn:1≤n) (q:Q (.tup (t.kids.map λa=>vi (at_ a))) O):l8 c n (.fix (.ref 97)) [t.row at_] O Q E:=by
 obtain⟨m,rfl⟩:∃m,n=m+1:=⟨n - 1,by omega⟩
 refine N.fn N.C.inner_kinds rfl rfl ?_
 refine i6 ?_
 simp only[WX,d8,gZ,oI,eL,Y4 ht]
 refine K0 [2,3] (v:=t.hd.sort) (by simp[b6,vi]) (λe=>?_) (λe=>?_)
 ·refine i5 ?_
  rcases t with h | ⟨h,a⟩ | ⟨h,a,b⟩<;>cases h<;>simp[Tm.ok,Hd.fit] at ht<;>simp[Tm.hd,Hd.sort] at e<;>simp[WX,d8,b6,Tm.row,vi,S4,i4]<;>simpa[Tm.kids,vi] using q
 refine K0 [4,5,8,9,11] (v:=t.hd.sort) (by simp[b6,vi]) (λe'=>?_) (λe'=>?_)
 ·refine i5 ?_
  rcases t with h | ⟨h,a⟩ | ⟨h,a,b⟩<;>cases h<;>simp[Tm.ok,Hd.fit] at ht<;>simp[Tm.hd,Hd.sort] at e'<;>simp[WX,j0,d8,b6,Tm.row,vi,S4,i4]<;>simpa[Tm.kids,vi] using q
 refine Z7 (v:=t.hd.sort) (by simp[b6,vi]) (λe2=>?_) (λ_=>?_)
 ·cases hh:t.hd<;>simp[hh,Hd.sort] at e2
 ·refine i5 ?_
  have:t.kids=[]:=by
   rcases t with h | ⟨h,a⟩ | ⟨h,a,b⟩<;>cases h<;>simp[Tm.ok,Hd.fit] at ht<;>simp[Tm.hd,Hd.sort] at e e'<;>rfl
  simpa[WX,j0,i4,this] using q
theorem fC(N:j7 c){h:Hd}{n:Nat}(hn:1≤n) (q:Q (vi h.Aw) O):l8 c n (.fix (.ref 104)) [vi h.sort] O Q E:=by
 obtain⟨m,rfl⟩:∃m,n=m+1:=⟨n - 1,by omega⟩
 refine N.fn N.C.row_level rfl rfl ?_
 refine K0 [2,3,4] (v:=h.sort) (by simp[d8,vi]) (λe=>?_) (λe=>?_)<;>refine i5 ?_
 all_goals cases h<;>simp[Hd.sort] at e<;>simpa[WX,i4,Hd.Aw,vi] using q
theorem kI(N:j7 c){h:Hd}{n:Nat}(hn:1≤n) (q:Q (vi (if h.sort=2∨h.sort=3 then 3 else 2)) O):l8 c n (.fix (.ref 111)) [vi h.sort] O Q E:=by
 obtain⟨m,rfl⟩:∃m,n=m+1:=⟨n - 1,by omega⟩
 refine N.fn N.C.row_length rfl rfl ?_
 refine K0 [2,3] (v:=h.sort) (by simp[d8,vi]) (λe=>?_) (λe=>?_)
 ·refine i5 ?_
  cases h<;>simp[Hd.sort] at e<;>simpa[WX,i4,Hd.sort,vi] using q
 refine Z7 (v:=h.sort) (by simp[d8,vi]) (λe2=>?_) (λ_=>?_)
 ·cases h<;>simp[Hd.sort] at e2
 ·refine i5 ?_
  cases h<;>simp[Hd.sort] at e<;>simpa[WX,i4,Hd.sort,vi] using q
theorem H5{T:List Tm}{t:Tm}(h:t∈T):T[T.idxOf t]?=some t:=by
 rw[List.getElem?_eq_getElem (List.idxOf_lt_length_of_mem h)]
 simp
theorem Ax{T:List Tm}(hT:T.Nodup){k:Nat}{t:Tm}(h:T[k]?=some t):T.idxOf t=k:=by
 obtain⟨hk,e⟩:=List.getElem?_eq_some_iff.mp h
 have hm:t∈T:=List.mem_of_getElem? h
 obtain⟨hk',e'⟩:=List.getElem?_eq_some_iff.mp (H5 hm)
 rw[List.nodup_iff_pairwise_ne,List.pairwise_iff_getElem] at hT
 rcases Nat.lt_trichotomy (T.idxOf t) k with x | x | x
 ·exact absurd (e'.trans e.symm) (hT _ _ hk' hk x)
 ·exact x
 ·exact absurd (e.trans e'.symm) (hT _ _ hk hk' x)
theorem Uk(N:j7 c) (h:j5 K T O){k:Nat}{t:Tm}(ht:T[k]?=some t){n:Nat}(hn:2≤n) (q:Q (.bool t.stands) O):l8 c n (.fix (.ref 139)) [.ref K.a,vi k] O Q E:=by
 obtain⟨m,rfl⟩:∃m,n=m+1:=⟨n - 1,by omega⟩
 refine N.fn N.C.may_stand rfl rfl ?_
 have hok:=h.tab.ok t (List.mem_of_getElem? ht)
 have h0:k=0→t=.leaf (.prim 0):=λe=>by subst e; rw[h.tab.base 0 (by omega)] at ht; exact(Option.some.inj ht).symm
 have h14:k=14→t=.leaf (.prim 14):=λe=>by subst e; rw[h.tab.base 14 (by omega)] at ht; exact(Option.some.inj ht).symm
 refine K0 [0,14] (v:=(k:Int)) (by simp[d8,vi]) (λe=>?_) (λe=>?_)
 ·refine i5 ?_
  have:t.stands=false:=by
   simp at e
   rcases e with e | e
   ·rw[h0 e]; rfl
   ·rw[h14 (by omega)]; rfl
  simpa[WX,i4,this] using q
 have hp:∀j,t.hd=.prim j→j≠0∧j≠14:=by
  intro j ej
  rcases t with hd | ⟨hd,a⟩ | ⟨hd,a,b⟩<;>simp[Tm.hd] at ej<;>subst ej<;>simp[Tm.ok,Hd.fit] at hok
  have:=Ax h.tab.nodup (h.tab.base j hok)
  rw[Ax h.tab.nodup ht] at this
  simp at e; omega
 refine i6 ?_
 simp only[WX,j0,d8,gZ,gS,oI,eL]
 refine⟨_,h.Fh N,?_⟩
 refine aN N h ht (by omega) ?_
 rw[Y4 hok]
 refine i5 ?_
 have hq:∀b,b=t.stands→Q (.bool b) O:=λb e=>e ▸ q
 cases hh:t.hd<;>simp[WX,iB,b6,Hd.sort,vi,z2,G6,EQ,Kj,V.nb,V.hk,i4]<;>refine hq _ ?_<;>simp[Tm.stands,hh]
 exact⟨(hp _ hh).1,(hp _ hh).2⟩
end
section
variable {c:Cx}{O:a7}{Q:V→a7→Prop}{E:a7→Prop}{K:I8}{T:List Tm}
theorem kJ(N:j7 c) (h:j5 K T O){l:List Tm}(hl:∀a∈l,a∈T∧a.stands=true) (hz:l.length≤1000){n:Nat}(hn:3≤n) (q:Q .none O):l8 c n (.fix (.ref 132)) [.ref K.a,.tup (l.map λa=>vi (T.idxOf a))] O Q E:=by
 obtain⟨m,rfl⟩:∃m,n=m+1:=⟨n - 1,by omega⟩
 refine N.fn N.C.check_args rfl rfl ?_
 refine D0 ?_
 simp only[WX,d8,gZ,gS,oI,eL]
 refine⟨_,rfl,by simp; omega,?_⟩
 refine s9 (λdone left Z b7=>Z 0=some (.ref K.a)∧b7=O∧∃lk:List Tm,(∀a∈lk,a∈l)∧left=lk.map λa=>vi (T.idxOf a)) (λ_ _ _=>False) (λ_ _ _ _ _=>rfl) ?_ _ [] _ _ _ ⟨rfl,rfl,l,λ_ h=>h,rfl⟩ ?_ (λ_ _ _ h=>h.elim)
 ·rintro done x left Z b7 R ⟨h0,rfl,lk,hk,e⟩ hnext _ _
  cases lk with
  | nil=>simp at e
  | cons a lk =>
   simp at e
   obtain⟨rfl,rfl⟩:=e
   have ha:=hl a (hk a (by simp))
   simp only[J7]
   refine I3 ?_
   simp only[WC,WX,j0,b6,h0]
   simp
   refine Uk N h (H5 ha.1) (by omega) ?_
   rw[ha.2]
   simp[z2]
   refine o7 ?_
   exact hnext _ _ ⟨by simp[b6,h0],rfl,lk,λb hb=>hk b (by simp[hb]),rfl⟩
 ·rintro Z b7 ⟨_,rfl,_⟩
  exact o7 q
theorem P3{f g:Tm→Nat}{t:Tm}(h:∀a∈t.kids,f a=g a):t.row f=t.row g:=by
 rcases t with hd | ⟨hd,a⟩ | ⟨hd,a,b⟩<;>cases hd<;>simp[Tm.kids] at h<;>simp[Tm.row,h]
theorem Si{f:Tm→Nat}(t:Tm){d:Nat}:(t.row f).hk (d+2)=true∧∃l,t.row f=.tup l:=by
 rcases t with hd | ⟨hd,a⟩ | ⟨hd,a,b⟩<;>cases hd<;>simp[Tm.row,V.hk,V.hks,vi]
theorem K1{T:List Tm}{a b:Tm}(ha:a∈T) (hb:b∈T) (e:T.idxOf a=T.idxOf b):a=b:=by
 have h1:=H5 ha
 rw[e,H5 hb] at h1
 exact(Option.some.inj h1).symm
theorem fD{T:List Tm}{t u:Tm}(ht:t.ok=true) (hu:u.ok=true) (kt:∀a∈t.kids,a∈T) (ku:∀a∈u.kids,a∈T) (e:t.row (T.idxOf ·)=u.row (T.idxOf ·)):t=u:=by
 rcases t with h | ⟨h,a⟩ | ⟨h,a,b⟩<;>rcases u with h' | ⟨h',a'⟩ | ⟨h',a',b'⟩<;>cases h<;>(try (simp[Tm.ok,Hd.fit] at ht; done))<;>cases h'<;>(try (simp[Tm.ok,Hd.fit] at hu; done))<;>simp[Tm.row,vi] at e<;>simp[Tm.kids] at kt ku <;>
  (try (obtain⟨e1,e2⟩:=e))<;>(try (obtain⟨e2,e3⟩:=e2))<;>simp_all<;>first | exact K1 kt ku (by omega) | exact⟨K1 kt.1 ku.1 (by omega),K1 kt.2 ku.2 (by omega)⟩ | exact⟨by omega,K1 kt ku (by omega)⟩ | exact⟨by omega,K1 kt.1 ku.1 (by omega),K1 kt.2 ku.2 (by omega)⟩
end
section
variable {c:Cx}{O:a7}{Q:V→a7→Prop}{E:a7→Prop}{K:I8}{T:List Tm}
theorem I4{f:Tm→Nat}{t:Tm}(ht:t.ok=true) (hs:t.hd.sort=2∨t.hd.sort=3):∃tid:Nat,1 < tid∧(A6.find? λp=>decide (p.1=(tid:Int))).isSome=false∧t.row f=.tup [vi t.hd.sort,vi tid,.tup (t.kids.map λa=>vi (f a))]:=by
 rcases t with h | ⟨h,a⟩ | ⟨h,a,b⟩<;>cases h<;>simp[Tm.hd,Hd.sort] at hs<;>rename_i tid<;>refine⟨tid,?_⟩<;>simp only[Tm.ok,Hd.fit,Bool.and_eq_true,decide_eq_true_eq,Option.isNone_iff_eq_none,and_assoc] at ht<;>obtain⟨_,h1,h2,_⟩:=ht<;>exact⟨h1,by rw[h2]; rfl,rfl⟩
theorem X9{t:Tm}(ht:t.ok=true):∀a∈t.kids,a.ok=true∧a.stands=true:=by
 rcases t with h | ⟨h,a⟩ | ⟨h,a,b⟩<;>simp[Tm.kids,Tm.ok] at ht ⊢<;>simp[ht]
theorem v9(t:Tm):t.kids.length≤2:=by
 rcases t with h | ⟨h,a⟩ | ⟨h,a,b⟩<;>simp[Tm.kids]
theorem fE(N:j7 c) (h:j5 K T O){t:Tm}(ht:t.ok=true) (hs:t.hd.sort=2∨t.hd.sort=3) (hk:∀a∈t.kids,a∈T){n:Nat}(hn:4≤n) (q:Q .none O):l8 c n (.fix (.ref 125)) [.ref K.a,t.row (T.idxOf ·)] O Q E:=by
 obtain⟨m,rfl⟩:∃m,n=m+1:=⟨n - 1,by omega⟩
 obtain⟨tid,h1,h2,h3⟩:=I4 (f:=(T.idxOf ·)) ht hs
 refine N.fn N.C.check_named rfl rfl ?_
 rw[h3]
 refine l0 false (λR E q=>?_) (λe=>by cases e) (λ_=>?_)
 ·simp only[WC,K6,WX,d8,gZ,gS,oI,eL]
  rw[show(1:Int)=((1:Nat):Int) from rfl,v7 (v:=vi tid) (by omega) rfl]
  simp only[vi,Sh]
  rw[if_neg (by simp; omega)]
  rw[v7 (v:=vi tid) (by omega) rfl]
  simp only[vi,G6,IN]
  exact⟨A6,N.A6,by rw[h2]; simpa using q⟩
 ·refine z6 ?_
  simp only[WX,j0,d8,gZ,gS,oI,eL]
  rw[show(2:Int)=((2:Nat):Int) from rfl,v7 (v:=.tup (t.kids.map λa=>vi (T.idxOf a))) (by omega) rfl]
  refine kJ N h (λa ha=>⟨hk a ha,(X9 ht a ha).2⟩) (by have:=v9 t; omega) (by omega) ?_
  exact o7 q
theorem fF{f:Tm→Nat}{t:Tm}(ht:t.ok=true):∃l,t.row f=.tup l∧l.length=(if t.hd.sort=2∨t.hd.sort=3 then 3 else 2):=by
 rcases t with h | ⟨h,a⟩ | ⟨h,a,b⟩<;>cases h<;>simp[Tm.ok,Hd.fit] at ht<;>simp[Tm.row,Tm.hd,Hd.sort]
theorem fG{t:Tm}:1≤t.hd.sort∧t.hd.sort≤9:=by cases t.hd<;>simp[Hd.sort]
theorem Sj(N:j7 c) (h:j5 K T O){t:Tm}(ht:t.ok=true) (hp:t.hd.sort≠1) (hk:∀a∈t.kids,a∈T){n:Nat}(hn:5≤n) (q:Q .none O):l8 c n (.fix (.ref 118)) [.ref K.a,t.row (T.idxOf ·)] O Q E:=by
 obtain⟨m,rfl⟩:∃m,n=m+1:=⟨n - 1,by omega⟩
 obtain⟨l,hl,hlen⟩:=fF (f:=(T.idxOf ·)) ht
 have hs:=fG (t:=t)
 refine N.fn N.C.check_kind_row rfl rfl ?_
 refine l0 false (λR E q=>?_) (λe=>by cases e) (λ_=>?_)
 ·simp only[WC,K6,WX,j0,d8,gZ,gS,oI,eL]
  rw[hl]
  refine C3 (by rw[hlen]; split<;>omega) ?_
  simp only[F7]
  have hl0:l.length≠0:=by rw[hlen]; split<;>omega
  rw[if_neg (by simpa using hl0),←hl]
  rw[Y4 ht]
  simp only[vi,Sh]
  rw[if_neg (by simp; omega),Y4 ht]
  simp only[vi,cmp_gt]
  rw[if_neg (by simp; omega)]
  exact q
 refine i6 ?_
 simp only[WX,j0,d8,gZ,gS,oI,eL]
 rw[Y4 ht]
 refine l0 false (λR E q=>?_) (λe=>by cases e) (λ_=>?_)
 ·simp only[WC,WX,j0,b6]
  simp only[d8,gZ,gS,↓reduceIte,oI,eL,show((1:Nat)=2)=False by simp,if_false]
  rw[hl]
  refine C3 (by rw[hlen]; split<;>omega) ?_
  refine kI N (by omega) ?_
  simp only[vi,Bx,hlen]
  simpa using q
 refine D0 ?_
 simp only[WX,j0,b6,d8,gZ,gS,show((1:Nat)=2)=False by simp,if_false,oI,eL]
 refine X8 N ht (by omega) ?_
 refine⟨_,rfl,by have:=v9 t; simp only[List.length_map]; omega,?_⟩
 refine s9 (λdone left Z b7=>Z 0=some (.ref K.a)∧Z 1=some (t.row (T.idxOf ·))∧Z 2=some (vi t.hd.sort)∧b7=O∧∃lk:List Tm,(∀a∈lk,a∈t.kids)∧left=lk.map λa=>vi (T.idxOf a)) (λ_ _ _=>False) (λ_ _ _ _ _=>rfl) ?_ _ [] _ _ _ ⟨rfl,rfl,rfl,rfl,t.kids,λ_ h=>h,rfl⟩ ?_ (λ_ _ _ h=>h.elim)
 ·rintro done x left Z b7 R ⟨h0,h1,h2,rfl,lk,hlk,e⟩ hnext _ _
  cases lk with
  | nil=>simp at e
  | cons a lk =>
   simp at e
   obtain⟨rfl,rfl⟩:=e
   have ha:=hk a (hlk a (by simp))
   simp only[J7]
   refine z6 ?_
   simp only[WX,j0,b6,h0,h1]
   simp
   refine⟨_,h.Fh N,?_⟩
   refine aN N h (H5 ha) (by omega) ?_
   refine o7 ?_
   exact hnext _ _ ⟨by simp[b6,h0],by simp[b6,h1],by simp[b6,h2],rfl,lk,λb hb=>hlk b (by simp[hb]),rfl⟩
 ·rintro Z b7 ⟨h0,h1,h2,rfl,_⟩
  refine K0 [2,3] h2 (λe=>?_) (λe=>?_)
  ·refine z6 ?_
   simp only[WX,j0,h0,h1,oI,eL]
   refine fE N h ht (by simp at e; omega) hk (by omega) ?_
   exact o7 q
  refine K0 [6,7] h2 (λe'=>?_) (λe'=>?_)
  ·have:∃i:Nat,∃s:Nat,t.row (T.idxOf ·)=.tup [vi s,vi i]:=by
    rcases t with hd | ⟨hd,a⟩ | ⟨hd,a,b⟩<;>cases hd<;>simp[Tm.ok,Hd.fit] at ht<;>simp[Tm.hd,Hd.sort] at e e'<;>exact⟨_,_,rfl⟩
   obtain⟨i,s,hr⟩:=this
   refine l0 false (λR E q=>?_) (λe=>by cases e) (λ_=>?_)
   ·simp only[WC,WX,h1,hr,oI,eL]
    rw[show(1:Int)=((1:Nat):Int) from rfl,v7 (v:=vi i) (by omega) rfl]
    simp only[vi,O1]
    rw[show decide ((i:Int) < 0)=false by simp]
    exact q
   ·exact o7 q
  refine Z7 h2 (λe2=>?_) (λ_=>?_)
  ·cases hh:t.hd<;>simp[hh,Hd.sort] at e2
  refine Z7 h2 (λe2=>?_) (λ_=>?_)
  ·cases hh:t.hd<;>simp[hh,Hd.sort] at e2
  have:∃a s:Nat,∃u,a=T.idxOf u∧u∈t.kids∧t.row (T.idxOf ·)=.tup [vi s,vi a]:=by
   rcases t with hd | ⟨hd,a⟩ | ⟨hd,a,b⟩<;>cases hd<;>simp[Tm.ok,Hd.fit] at ht<;>simp[Tm.hd,Hd.sort] at e e' hp<;>exact⟨_,_,a,rfl,by simp[Tm.kids],rfl⟩
  obtain⟨a,s,u,rfl,hu,hr⟩:=this
  refine I3 ?_
  simp only[WC,WX,j0,h0,h1,hr,oI,eL]
  rw[show(1:Int)=((1:Nat):Int) from rfl,v7 (v:=vi (T.idxOf u)) (by omega) rfl]
  refine Uk N h (H5 (hk u hu)) (by omega) ?_
  rw[(X9 ht u hu).2]
  simp[z2]
  exact o7 q
end
def Ct(Aw:Nat) (d:Nat) (a:Tm):Nat:=max d (a.depth+Aw)
def Ul(w:Nat) (a:Tm):Nat:=w+a.weight
def Um(o:Bool) (a:Tm):Bool:=o || a.open_
theorem Sk(t:Tm):t.kids.foldl (Ct t.hd.Aw) 1=t.depth:=by
 rcases t with h | ⟨h,a⟩ | ⟨h,a,b⟩<;>simp[Tm.kids,Tm.depth,Ct,Tm.hd]
theorem Pw(t:Tm):t.kids.foldl Ul 1=t.weight:=by
 rcases t with h | ⟨h,a⟩ | ⟨h,a,b⟩<;>simp[Tm.kids,Tm.weight,Ul,Tm.hd]
theorem Wz{t:Tm}(ht:t.ok=true):t.kids.foldl Um t.hd.isVar=t.open_:=by
 rcases t with h | ⟨h,a⟩ | ⟨h,a,b⟩<;>cases h<;>simp[Tm.ok,Hd.fit] at ht<;>simp[Tm.kids,Tm.open_,Um,Tm.hd,Hd.isVar]
theorem Fj{T:List Tm}(h:Hc T){t:Tm}(ht:t.ok=true) (kt:∀a∈t.kids,a∈T){g:Tm→V}:∀L:List Tm,(∀u∈L,u∈T)→x6 (L.map λu=>(u.row (T.idxOf ·),g u)) (t.row (T.idxOf ·))=if t∈L then some (g t) else none
 | [],_=>rfl
 | u::L,hL=>by
  have ih:=Fj h ht kt (g:=g) L λv hv=>hL v (by simp[hv])
  unfold x6 at ih ⊢
  have hu:=hL u (by simp)
  by_cases e:u=t
  ·subst e; simp
  ·have:u.row (T.idxOf ·)≠t.row (T.idxOf ·):=λq=>e (fD (h.ok u hu) ht (h.kids u hu) kt q)
   rw[List.map_cons,List.find?_cons_of_neg (by simpa using this),ih]
   have e':¬t=u:=λq=>e q.symm
   simp[e']
theorem Uo{T:List Tm}{t:Tm}{f:Tm→Nat}{g:Tm→V}:S5 (t.row f) (T.map λu=>(u.row f,g u)):=by
 refine .inr (.inr ⟨(Si t).1,?_⟩)
 obtain⟨l,hl⟩:=(Si (f:=f) t (d:=0)).2
 refine⟨l,hl,λp hp=>?_⟩
 obtain⟨u,_,rfl⟩:=List.mem_map.mp hp
 exact(Si (f:=f) u (d:=0)).2
theorem W1{T:List Tm}{t u:Tm}(h:u∈T):(T++[t]).idxOf u=T.idxOf u:=by
 rw[List.idxOf_append,if_pos h]
theorem Up{T:List Tm}{t:Tm}(h:t∉T):(T++[t]).idxOf t=T.length:=by
 rw[List.idxOf_append,if_neg h]; simp
theorem K4{l:List (V×V)}{k v:V}(h:x6 l k=none):dput l k v=l++[(k,v)]:=by
 unfold dput
 rw[if_neg]
 intro e
 unfold x6 at h
 simp only[Option.map_eq_none_iff,List.find?_eq_none,decide_eq_true_eq] at h
 simp only[List.any_eq_true,decide_eq_true_eq] at e
 obtain⟨p,hp,e⟩:=e
 exact h p hp e
theorem Hc.snoc{T:List Tm}(h:Hc T){t:Tm}(hn:t∉T) (ht:t.ok=true) (kt:∀a∈t.kids,a∈T) (hd:t.depth≤24) (hw:t.weight≤4096):Hc (T++[t]) where
 base:=λi hi=>by
  have:=h.base i hi
  rw[List.getElem?_append_left (List.getElem?_eq_some_iff.mp this).1]; exact this
 nodup:=by
  rw[List.nodup_append]
  exact⟨h.nodup,by simp,λa ha b hb=>by simp at hb; subst hb; rintro rfl; exact hn ha⟩
 ok:=λu hu=>by
  rcases List.mem_append.mp hu with hu | hu
  ·exact h.ok u hu
  ·simp at hu; subst hu; exact ht
 kids:=λu hu a ha=>by
  rcases List.mem_append.mp hu with hu | hu
  ·exact List.mem_append.mpr (.inl (h.kids u hu a ha))
  ·simp at hu; subst hu; exact List.mem_append.mpr (.inl (kt a ha))
 deep:=λu hu=>by
  rcases List.mem_append.mp hu with hu | hu
  ·exact h.deep u hu
  ·simp at hu; subst hu; exact hd
 heavy:=λu hu=>by
  rcases List.mem_append.mp hu with hu | hu
  ·exact h.heavy u hu
  ·simp at hu; subst hu; exact hw
theorem Xa{T:List Tm}(h:Hc T){t:Tm}{L:List Tm}(hL:∀u∈L,u∈T):L.map (Tm.row ((T++[t]).idxOf ·))=L.map (Tm.row (T.idxOf ·)) :=
 List.map_congr_left λu hu=>P3 λa ha=>W1 (h.kids u (hL u hu) a ha)
section
variable {c:Cx}{O:a7}{K:I8}{T:List Tm}
theorem j5.kK(h:j5 K T O):K.i≠K.r∧K.i≠K.d∧K.i≠K.w∧K.i≠K.o:=by
 have hi:=h.index
 refine⟨λe=>?_,λe=>?_,λe=>?_,λe=>?_⟩<;>rw[e] at hi
 ·rw[h.rows] at hi; cases hi
 ·rw[h.depths] at hi; cases hi
 ·rw[h.weights] at hi; cases hi
 ·rw[h.opens] at hi; cases hi
theorem j5.Im(h:j5 K T O){b:Addr}{o:z5}(ho:O b=some o) (h1:∀l,o≠.list l) (h2:∀l,o≠.dict l):¬K.F b:=by
 rintro(e | e | e | e | e)<;>subst e
 ·rw[h.rows] at ho; exact h1 _ (Option.some.inj ho).symm
 ·rw[h.index] at ho; exact h2 _ (Option.some.inj ho).symm
 ·rw[h.depths] at ho; exact h1 _ (Option.some.inj ho).symm
 ·rw[h.weights] at ho; exact h1 _ (Option.some.inj ho).symm
 ·rw[h.opens] at ho; exact h1 _ (Option.some.inj ho).symm
theorem j5.snoc(h:j5 K T O){t:Tm}{b7:a7}(s:b8 K.F O b7) (hn:t∉T) (ht:t.ok=true) (kt:∀a∈t.kids,a∈T) (hd:t.depth≤24) (hw:t.weight≤4096) (hz:T.length < 100000)
  (hr:b7 K.r=some (.list (T.map (Tm.row (T.idxOf ·))++[t.row (T.idxOf ·)])))
  (hi:b7 K.i=some (.dict ((T.map λt=>(t.row (T.idxOf ·),vi (T.idxOf t)))++[(t.row (T.idxOf ·),vi T.length)])))
  (h1:b7 K.d=some (.list ((T.map λt=>vi t.depth)++[vi t.depth])))
  (h2:b7 K.w=some (.list ((T.map λt=>vi t.weight)++[vi t.weight])))
  (h3:b7 K.o=some (.list ((T.map λt=>bi t.open_)++[bi t.open_]))):j5 K (T++[t]) b7 where
 inst:=s _ _ (h.Im (o:=.inst 86 K.dx) h.inst (by intro l e; cases e) (by intro l e; cases e)) h.inst
 ns:=s _ _ (h.Im h.ns (by intro l e; cases e) (by intro l e; cases e)) h.ns
 rows:=by
  rw[hr,List.map_append,Xa h.tab λ_ h=>h]
  simp only[List.map_cons,List.map_nil]
  rw[P3 (f:=((T++[t]).idxOf ·)) (g:=(T.idxOf ·)) λa ha=>W1 (kt a ha)]
 index:=by
  rw[hi,List.map_append]
  have e1:(T.map λu=>(u.row ((T++[t]).idxOf ·),vi ((T++[t]).idxOf u)))=T.map λu=>(u.row (T.idxOf ·),vi (T.idxOf u)) :=
   List.map_congr_left λu hu=>by rw[W1 hu,P3 λa ha=>W1 (h.tab.kids u hu a ha)]
  rw[e1]
  simp only[List.map_cons,List.map_nil]
  rw[P3 (f:=((T++[t]).idxOf ·)) (g:=(T.idxOf ·)) λa ha=>W1 (kt a ha),Up hn]
 depths:=by rw[h1]; simp
 weights:=by rw[h2]; simp
 opens:=by rw[h3]; simp
 apart:=h.apart
 tab:=h.tab.snoc hn ht kt hd hw
 size:=by simp; omega
end
section
variable {c:Cx}{O:a7}{Q:V→a7→Prop}{E:a7→Prop}{K:I8}{T:List Tm}
theorem Jq{n:Nat}{Z:Loc}{xs:List S}{i:Nat}{v:V}{Q:Fl→Loc→a7→Prop}(h:o9 c n xs (b6 Z i v) O Q E):o9 c n (.set i (.con v)::xs) Z O Q E:=i6 (by simpa[WX] using h)
theorem Jr(h:j5 K T O){a:Tm}(ha:a∈T){R:V→a7→Prop}:S4 (.ref K.d) (vi (T.idxOf a)) O R=R (vi a.depth) O:=by
 have:=List.idxOf_lt_length_of_mem ha
 have hs:=h.size
 rw[C9 (v:=vi a.depth) h.depths (by omega) (by simp[H5 ha])]
theorem Sl(h:j5 K T O){a:Tm}(ha:a∈T){R:V→a7→Prop}:S4 (.ref K.w) (vi (T.idxOf a)) O R=R (vi a.weight) O:=by
 have:=List.idxOf_lt_length_of_mem ha
 have hs:=h.size
 rw[C9 (v:=vi a.weight) h.weights (by omega) (by simp[H5 ha])]
theorem Fk(h:j5 K T O){a:Tm}(ha:a∈T){R:V→a7→Prop}:S4 (.ref K.o) (vi (T.idxOf a)) O R=R (bi a.open_) O:=by
 have:=List.idxOf_lt_length_of_mem ha
 have hs:=h.size
 rw[C9 (v:=bi a.open_) h.opens (by omega) (by simp[H5 ha])]
theorem Fm{h:Hd}:h.isVar=decide ((h.sort:Int)∈([6,7]:List Int)):=by cases h<;>simp[Hd.isVar,Hd.sort]
theorem Sm{m:Nat}{Z:Loc}{i:Nat}{t:Tm}{f:Tm→Nat}(ht:t.ok=true){a b xs:List S}{Q:Fl→Loc→a7→Prop}(l:List Int) (h:Z i=some (t.row f)) (h1:(t.hd.sort:Int)∈l→o9 c m (a++xs) Z O Q E) (h2:(t.hd.sort:Int)∉l→o9 c m (b++xs) Z O Q E) :
  o9 c m (.ite (.or (l.map λa=>.cmp .Eq (.sub (.loc i) (.con (.int 0))) (.con (.int a)))) a b::xs) Z O Q E:=by
 refine l0 (decide ((t.hd.sort:Int)∈l)) (λR E q=>?_) (λe=>h1 (by simpa using e)) (λe=>h2 (by simpa using e))
 simp only[WC]
 clear h1 h2
 revert q
 generalize R=R'
 induction l with
 | nil=>intro q; simpa[K6] using q
 | cons x l ih =>
  intro q
  simp only[List.map,K6,WC,WX,h,oI,eL,Y4 ht,vi,F7]
  by_cases e:(t.hd.sort:Int)=x
  ·simpa[e] using q
  ·rw[if_neg (by simpa using e)]
   exact ih (by simpa[e] using q)
theorem Ma{m:Nat}{Z:Loc}{x:Str}{i:Nat}{a:Addr}{l:List V}{v:V}{xs:List S}{Q:Fl→Loc→a7→Prop}{ov:V}(h0:Z 0=some ov) (hv:Z i=some v)
  (ha:∀{R:V→Prop},R (.ref a)→H8 c ov x O R) (hl:O a=some (.list l)) (hz:l.length≤1000000) (h:∀b7,b7 a=some (.list (l++[v]))→(∀b,b≠a→b7 b=O b)→o9 c m xs Z b7 Q E) :
  o9 c m (.exp (.meth (.attr (.loc 0) x) (Str.ofString "append") [.loc i])::xs) Z O Q E:=by
 refine z6 ?_
 simp only[WX,j0,h0,hv,oI,eL]
 refine ha ⟨_,.inl ⟨_,_,rfl,hl,.inl ⟨rfl,rfl⟩⟩,?_⟩
 refine v3 hl hz (h _ (b9 _ _ _) λb hb=>i9 hb)
theorem b8.of{F:Addr→Prop}{O b7:a7}{a:Addr}(h:∀b,b≠a→b7 b=O b) (ha:F a):b8 F O b7:=λb o n e=>by
 rw[h b (by rintro rfl; exact n ha)]; exact e
theorem aS(N:j7 c) (h:j5 K T O){t:Tm}(ht:t.ok=true) (hk:∀a∈t.kids,a∈T) (hz:T.length < 100000) (hm:t∉T) (hd:t.depth≤24) (hw:t.weight≤4096){m:Nat}{Z:Loc}
  (h0:Z 0=some (.ref K.a)) (h1:Z 1=some (t.row (T.idxOf ·))) (h3:Z 3=some (vi t.depth)) (h4:Z 4=some (vi t.weight)) (h5:Z 5=some (bi t.open_)) (h8:Z 8=some (vi T.length))
  (q2:t∉T→t.depth≤24→t.weight≤4096→∀b7,j5 K (T++[t]) b7→b8 K.F O b7→Q (vi T.length) b7):o9 c m (X7.drop 12) Z O (i4 Q) E:=by
 have hi:=h.kK
 have hap:=h.apart
 simp only[List.nodup_cons,List.mem_cons,not_or,List.not_mem_nil,not_false_eq_true,and_true] at hap
 have Uq:∀{o6:a7}{x:Str}{v:V}{R:V→Prop},b8 K.F O o6→([("rows",.ref K.r),("index",.ref K.i),("depths",.ref K.d),("weights",.ref K.w),("opens",.ref K.o)]:List (Str×V)).lookup x=some v→x∈v6→v.Ei=true→R v→H8 c (.ref K.a) x o6 R:=fun {o6 x v R} s hv hm hf q =>
  ⟨_,_,_,_,_,rfl,s _ _ (h.Im h.inst (by intro l e; cases e) (by intro l e; cases e)) h.inst,s _ _ (h.Im h.ns (by intro l e; cases e) (by intro l e; cases e)) h.ns,hv,(N.kt.attr x hm).1,hf,q⟩
 refine Ma h0 h1 (λq=>h.Fi N q) h.rows (by simp; omega) λt9 e1 n1=>?_
 have s1:b8 K.F O t9:=b8.of n1 (.inl rfl)
 refine H4 ?_
 simp only[WX,j0,h0,h1,h8,oI,eL]
 refine Uq s1 rfl (by simp[v6]) rfl ?_
 have e2:t9 K.i=some (.dict (T.map λt=>(t.row (T.idxOf ·),vi (T.idxOf t)))):=by rw[n1 _ hi.1,h.index]
 simp only[Di,e2]
 refine⟨Uo,by simp; omega,?_⟩
 rw[K4 (by rw[Fj h.tab ht hk T λ_ h=>h,if_neg hm])]
 generalize hs2:i8 t9 K.i (.dict ((T.map λt=>(t.row (T.idxOf ·),vi (T.idxOf t)))++[(t.row (T.idxOf ·),vi T.length)]))=t8
 have e2':t8 K.i=some (.dict ((T.map λt=>(t.row (T.idxOf ·),vi (T.idxOf t)))++[(t.row (T.idxOf ·),vi T.length)])):=by rw[←hs2,b9]
 have n2:∀b,b≠K.i→t8 b=t9 b:=λb hb=>by rw[←hs2,i9 hb]
 have s2:=s1.trans (b8.of n2 (.inr (.inl rfl)))
 refine Ma h0 h3 (λq=>Uq s2 rfl (by simp[v6]) rfl q) (l:=T.map λt=>vi t.depth) (by rw[n2 _ (λq=>hi.2.1 q.symm),n1 _ (λq=>hap.1.1 q.symm),h.depths]) (by simp; omega) λA4 e3 n3=>?_
 have s3:=s2.trans (b8.of n3 (.inr (.inr (.inl rfl))))
 refine Ma h0 h4 (λq=>Uq s3 rfl (by simp[v6]) rfl q) (l:=T.map λt=>vi t.weight) (by rw[n3 _ (λq=>hap.2.1.1 q.symm),n2 _ (λq=>hi.2.2.1 q.symm),n1 _ (λq=>hap.1.2.1 q.symm),h.weights]) (by simp; omega) λx9 e4 n4=>?_
 have s4:=s3.trans (b8.of n4 (.inr (.inr (.inr (.inl rfl)))))
 refine Ma h0 h5 (λq=>Uq s4 rfl (by simp[v6]) rfl q) (l:=T.map λt=>bi t.open_) (by rw[n4 _ (λq=>hap.2.2.1 q.symm),n3 _ (λq=>hap.2.1.2 q.symm),n2 _ (λq=>hi.2.2.2 q.symm),n1 _ (λq=>hap.1.2.2 q.symm),h.opens]) (by simp; omega) λC7 e5 n5=>?_
 have s5:=s4.trans (b8.of n5 (.inr (.inr (.inr (.inr rfl)))))
 refine i5 ?_
 simp only[WX,h8,oI,eL,i4]
 refine q2 hm hd hw _ (h.snoc s5 hm ht hk hd hw hz ?_ ?_ ?_ ?_ ?_) s5
 ·rw[n5 _ hap.1.2.2,n4 _ hap.1.2.1,n3 _ hap.1.1,n2 _ (λq=>hi.1 q.symm),e1]
 ·rw[n5 _ hi.2.2.2,n4 _ hi.2.2.1,n3 _ hi.2.1,e2']
 ·rw[n5 _ hap.2.1.2,n4 _ hap.2.1.1,e3]
 ·rw[n5 _ hap.2.2.1,e4]
 ·rw[e5]
def pG:List S:=[(.aug 4 .Add (.sub (.attr (.loc 0) (Str.ofString "weights")) (.loc 7))),(.ite (.cmp .Eq (.sub (.attr (.loc 0) (Str.ofString "opens")) (.loc 7)) (.con (.int 1))) [(.set 5 (.con (.int 1)))] [])]
theorem Px(N:j7 c) (h:j5 K T O){a:Tm}(ha:a∈T){m d w:Nat}{o:Bool}{Z:Loc}{r:V}{Aw:Nat}{R:Fl→Loc→a7→Prop}
  (h0:Z 0=some (.ref K.a)) (h1:Z 1=some r) (h6:Z 6=some (vi Aw)) (h3:Z 3=some (vi d)) (h4:Z 4=some (vi w)) (h5:Z 5=some (bi o)) (h7:Z 7=some (vi (T.idxOf a)))
  (hn:∀i7:Loc,i7 0=some (.ref K.a)→i7 1=some r→i7 6=some (vi Aw)→i7 3=some (vi d)→i7 4=some (vi (w+a.weight))→i7 5=some (bi (o || a.open_))→R .next i7 O) :
  o9 c m pG Z O R E:=by
 refine aP h4 ?_
 simp only[WX,h0,h7,oI,eL]
 refine h.Wy N ?_
 rw[Sl h ha]
 simp only[vi,jH]
 refine l0 a.open_ (λR E q=>?_) (λe=>?_) (λe=>?_)
 ·simp only[WC,WX,b6,h0,h7,oI,eL,show((0:Nat)=4)=False by simp,show((7:Nat)=4)=False by simp,if_false]
  refine h.Lx N ?_
  rw[Fk h ha]
  simp only[bi,F7]
  revert q
  cases a.open_<;>exact λq=>q
 ·refine Jq ?_
  refine o7 ?_
  exact hn _ (by simp[b6,h0]) (by simp[b6,h1]) (by simp[b6,h6]) (by simp[b6,h3]) (by simp[b6,vi]) (by simp[b6,e,bi])
 ·refine o7 ?_
  exact hn _ (by simp[b6,h0]) (by simp[b6,h1]) (by simp[b6,h6]) (by simp[b6,h3]) (by simp[b6,vi]) (by simp[b6,e,h5])
def putL:List S:=.ite (.cmp .Gt (.bin .Add (.sub (.attr (.loc 0) (Str.ofString "depths")) (.loc 7)) (.loc 6)) (.loc 3)) [(.set 3 (.bin .Add (.sub (.attr (.loc 0) (Str.ofString "depths")) (.loc 7)) (.loc 6)))] []::pG
theorem aT(N:j7 c) (h:j5 K T O){a:Tm}(ha:a∈T){m d w:Nat}{o:Bool}{Z:Loc}{r:V}{Aw:Nat}{R:Fl→Loc→a7→Prop}
  (h0:Z 0=some (.ref K.a)) (h1:Z 1=some r) (h6:Z 6=some (vi Aw)) (h3:Z 3=some (vi d)) (h4:Z 4=some (vi w)) (h5:Z 5=some (bi o)) (h7:Z 7=some (vi (T.idxOf a)))
  (hn:∀i7:Loc,i7 0=some (.ref K.a)→i7 1=some r→i7 6=some (vi Aw)→i7 3=some (vi (Ct Aw d a))→i7 4=some (vi (w+a.weight))→i7 5=some (bi (o || a.open_))→R .next i7 O) :
  o9 c m putL Z O R E:=by
 refine l0 (decide (d < a.depth+Aw)) (λR E q=>?_) (λe=>?_) (λe=>?_)
 ·simp only[WC,WX,h0,h3,h6,h7,oI,eL]
  refine h.Pu N ?_
  rw[Jr h ha]
  simp only[vi,Hf,cmp_gt]
  rw[show(decide ((d:Int) < (a.depth:Int)+(Aw:Int)))=decide (d < a.depth+Aw) by rw[decide_eq_decide]; omega]
  exact q
 ·refine i6 ?_
  simp only[WX,h0,h3,h6,h7,oI,eL]
  refine h.Pu N ?_
  rw[Jr h ha]
  simp only[vi,Hf]
  simp at e
  exact Px N h ha (d:=Ct Aw d a) (by simp[b6,h0]) (by simp[b6,h1]) (by simp[b6,h6]) (by simp[b6,Ct,vi]; omega) (by simp[b6,h4]) (by simp[b6,h5]) (by simp[b6,h7]) hn
 ·simp at e
  exact Px N h ha (d:=Ct Aw d a) h0 h1 h6 (by simp[h3,Ct,vi]; omega) h4 h5 h7 hn
theorem fH(N:j7 c) (h:j5 K T O){t:Tm}(ht:t.ok=true) (hk:∀a∈t.kids,a∈T) (hz:T.length < 100000) (hm:t∉T){m:Nat}{Z:Loc}
  (h0:Z 0=some (.ref K.a)) (h1:Z 1=some (t.row (T.idxOf ·))) (h3:Z 3=some (vi t.depth)) (h4:Z 4=some (vi t.weight)) (h5:Z 5=some (bi t.open_))
  (q2:t∉T→t.depth≤24→t.weight≤4096→∀b7,j5 K (T++[t]) b7→b8 K.F O b7→Q (vi T.length) b7)
  (q3:t∉T→(24 < t.depth∨4096 < t.weight)→E O):o9 c m (X7.drop 9) Z O (i4 Q) E:=by
 refine l0 (decide (24 < t.depth)) (λR E q=>?_) (λe=>?_) (λe=>?_)
 ·simp only[WC,WX,h3,oI,eL,vi,cmp_gt]
  rw[show decide ((24:Int) < (t.depth:Int))=decide (24 < t.depth) by rw[decide_eq_decide]; omega]
  exact q
 ·refine Uj ?_
  simp only[j0,WX,h3,oI,eL]
  exact q3 hm (.inl (by simpa using e))
 refine l0 (decide (4096 < t.weight)) (λR E q=>?_) (λe'=>?_) (λe'=>?_)
 ·simp only[WC,WX,h4,oI,eL,vi,cmp_gt]
  rw[show decide ((4096:Int) < (t.weight:Int))=decide (4096 < t.weight) by rw[decide_eq_decide]; omega]
  exact q
 ·refine Uj ?_
  simp only[j0,WX,h4,oI,eL]
  exact q3 hm (.inr (by simpa using e'))
 refine i6 ?_
 simp only[WX,j0,h0,oI,eL]
 refine h.Fi N (A3 h.rows (by simp; omega) ?_)
 exact aS N h ht hk hz hm (by simpa using e) (by simpa using e') (by simp[b6,h0]) (by simp[b6,h1]) (by simp[b6,h3]) (by simp[b6,h4]) (by simp[b6,h5]) (by simp[b6,vi]) q2
theorem Py(N:j7 c) (h:j5 K T O){t:Tm}(ht:t.ok=true) (hk:∀a∈t.kids,a∈T) (hz:T.length < 100000) (hm:t∉T){m:Nat}(hn:1≤m){Z:Loc}
  (r0:Z 0=some (.ref K.a)) (r1:Z 1=some (t.row (T.idxOf ·))) (r3:Z 3=some (vi 1)) (r4:Z 4=some (vi 1)) (r5:Z 5=some (bi t.hd.isVar))
  (q2:t∉T→t.depth≤24→t.weight≤4096→∀b7,j5 K (T++[t]) b7→b8 K.F O b7→Q (vi T.length) b7)
  (q3:t∉T→(24 < t.depth∨4096 < t.weight)→E O):o9 c m (X7.drop 7) Z O (i4 Q) E:=by
 refine i6 ?_
 simp only[WX,j0,r1,oI,eL,Y4 ht]
 refine fC N hn ?_
 refine D0 ?_
 simp only[WX,j0,b6,r1,oI,eL,show((1:Nat)=6)=False by simp,if_false]
 refine X8 N ht hn ?_
 refine⟨_,rfl,by have:=v9 t; simp only[List.length_map]; omega,?_⟩
 refine s9 (λdone left Z b7=>Z 0=some (.ref K.a)∧Z 1=some (t.row (T.idxOf ·))∧Z 6=some (vi t.hd.Aw)∧b7=O∧∃dk lk:List Tm,t.kids=dk++lk∧left=lk.map (λa=>vi (T.idxOf a))∧Z 3=some (vi (dk.foldl (Ct t.hd.Aw) 1))∧Z 4=some (vi (dk.foldl Ul 1))∧Z 5=some (bi (dk.foldl Um t.hd.isVar))) (λ_ _ _=>False) (λ_ _ _ _ _=>rfl) ?_ _ [] _ _ _ ⟨r0,r1,rfl,rfl,[],t.kids,rfl,rfl,r3,r4,r5⟩ ?_ (λ_ _ _ h=>h.elim)
 ·rintro done x left Z b7 R ⟨h0,h1,h6,rfl,dk,lk,ek,el,h3,h4,h5⟩ hnext _ _
  cases lk with
  | nil=>simp at el
  | cons a lk =>
   simp only[List.map_cons,List.cons.injEq] at el
   obtain⟨rfl,rfl⟩:=el
   have ha:a∈T:=hk a (by rw[ek]; simp)
   simp only[J7]
   refine aT N h ha h0 h1 h6 h3 h4 h5 rfl λi7 g0 g1 g6 g3 g4 g5=>?_
   exact hnext _ _ ⟨g0,g1,g6,rfl,dk++[a],lk,by simp[ek],rfl,by simp[g3],by simp[g4,Ul],by simp[g5,Um]⟩
 ·rintro Z b7 ⟨h0,h1,h6,rfl,dk,lk,ek,el,h3,h4,h5⟩
  have:lk=[]:=by cases lk<;>simp at el ⊢
  subst this
  rw[List.append_nil] at ek
  rw[←ek,Sk] at h3
  rw[←ek,Pw] at h4
  rw[←ek,Wz ht] at h5
  exact fH N h ht hk hz hm h0 h1 h3 h4 h5 q2 q3
theorem pH(N:j7 c) (h:j5 K T O){t:Tm}(ht:t.ok=true) (hp:t.hd.sort≠1) (hk:∀a∈t.kids,a∈T) (hz:T.length < 100000){n:Nat}(hn:6≤n)
  (q1:t∈T→Q (vi (T.idxOf t)) O)
  (q2:t∉T→t.depth≤24→t.weight≤4096→∀b7,j5 K (T++[t]) b7→b8 K.F O b7→Q (vi T.length) b7)
  (q3:t∉T→(24 < t.depth∨4096 < t.weight)→E O):l8 c n (.fix (.ref 83)) [.ref K.a,t.row (T.idxOf ·)] O Q E:=by
 obtain⟨m,rfl⟩:∃m,n=m+1:=⟨n - 1,by omega⟩
 refine N.fn N.C.kG rfl rfl ?_
 refine i6 ?_
 simp only[WX,j0,d8,gZ,gS,oI,eL]
 refine h.fB N ⟨_,.inr (.inl ⟨_,_,rfl,h.index,rfl,rfl⟩),?_⟩
 refine⟨1,rfl,iO h.index Uo ?_⟩
 rw[Fj h.tab ht hk T λ_ h=>h]
 by_cases hm:t∈T
 ·rw[if_pos hm]
  refine l0 true (λR E q=>?_) (λ_=>?_) (λe=>by cases e)
  ·simp only[WC,WX,b6,Option.getD,↓reduceIte,oI,eL,vi,Ly]
   simpa using q
  ·refine i5 ?_
   simpa[WX,b6,i4] using q1 hm
 rw[if_neg hm]
 refine l0 false (λR E q=>?_) (λe=>by cases e) (λ_=>?_)
 ·simp only[WC,WX,b6,Option.getD,↓reduceIte,oI,eL,vi,Ly]
  simpa using q
 refine z6 ?_
 simp only[WX,j0,b6,d8,gZ,gS,oI,eL,show((0:Nat)=2)=False by simp,show((1:Nat)=2)=False by simp,if_false]
 refine Sj N h ht hp hk (by omega) ?_
 refine Jq ?_
 refine Jq ?_
 refine Jq ?_
 refine Sm (f:=(T.idxOf ·)) ht [6,7] (by simp[b6,d8]) (λe=>?_) (λe=>?_)
 ·refine Jq ?_
  refine Py N h ht hk hz hm (by omega) (by simp[b6,d8]) (by simp[b6,d8]) (by simp[b6,vi]) (by simp[b6,vi]) ?_ q2 q3
  rw[Fm]; simp[e,bi,b6]
 ·refine Py N h ht hk hz hm (by omega) (by simp[b6,d8]) (by simp[b6,d8]) (by simp[b6,vi]) (by simp[b6,vi]) ?_ q2 q3
  rw[Fm]; simp[e,bi,b6]
end
def Gr(T T':List Tm) (n:Nat):Prop:=T <+: T'∧T'.length≤T.length+n
theorem Gr.refl(T:List Tm) (n:Nat):Gr T T n:=⟨List.prefix_refl T,by omega⟩
theorem Gr.trans{A B C:List Tm}{m n:Nat}(x:Gr A B m) (y:Gr B C n):Gr A C (m+n):=⟨x.1.trans y.1,by have:=x.2; have:=y.2; omega⟩
theorem Gr.mono{A B:List Tm}{m n:Nat}(x:Gr A B m) (h:m≤n):Gr A B n:=⟨x.1,by have:=x.2; omega⟩
theorem Gr.mem{A B:List Tm}{m:Nat}(x:Gr A B m){t:Tm}(h:t∈A):t∈B:=x.1.subset h
theorem Gr.idx{A B:List Tm}{m:Nat}(x:Gr A B m){t:Tm}(h:t∈A):B.idxOf t=A.idxOf t:=by
 obtain⟨C,rfl⟩:=x.1
 rw[List.idxOf_append,if_pos h]
section
variable {c:Cx}{O:a7}{Q:V→a7→Prop}{E:a7→Prop}{K:I8}{T:List Tm}
def Yl(K:I8) (T:List Tm) (t:Tm) (w:Nat) (O:a7) (Q:V→a7→Prop) (E:a7→Prop):Prop :=
 ((t.depth≤24∧t.weight≤4096)→∀T' b7,Gr T T' w→j5 K T' b7→b8 K.F O b7→t∈T'→Q (vi (T'.idxOf t)) b7)∧((24 < t.depth∨4096 < t.weight)→E O)
theorem j5.put(h:j5 K T O) (N:j7 c){t:Tm}(ht:t.ok=true) (hp:t.hd.sort≠1) (hk:∀a∈t.kids,a∈T) (hz:T.length < 100000){n:Nat}(hn:6≤n) (q:Yl K T t 1 O Q E) :
  l8 c n (.fix (.ref 83)) [.ref K.a,t.row (T.idxOf ·)] O Q E:=by
 refine pH N h ht hp hk hz hn (λhm=>?_) (λhm hd hw b7 h' s=>?_) (λhm hb=>?_)
 ·exact q.1 ⟨h.tab.deep t hm,h.tab.heavy t hm⟩ T O (.refl _ _) h (.refl _ _) hm
 ·have:=q.1 ⟨hd,hw⟩ (T++[t]) b7 ⟨List.prefix_append _ _,by simp⟩ h' s (by simp)
  rwa [Up hm] at this
 ·exact q.2 hb
theorem j5.Pz(h:j5 K T O) (N:j7 c){t:Tm}(ht:t.ok=true) (hp:t.hd.sort≠1) (hk:∀a∈t.kids,a∈T) (hz:T.length < 100000){n:Nat}(hn:6≤n) (q:Yl K T t 1 O Q E) :
  ∃fv,Iw c (.ref K.a) (Str.ofString "put") O fv∧l8 c n fv [.ref K.a,t.row (T.idxOf ·)] O Q E:=⟨_,h.aM N,h.put N ht hp hk hz hn q⟩
theorem Mb(N:j7 c) (h:j5 K T O){i:Nat}(hz:T.length < 100000){n:Nat}(hn:7≤n) (q:Yl K T (.leaf (.var i)) 1 O Q E):l8 c n (.fix (.ref 181)) [.ref K.a,vi i] O Q E:=by
 obtain⟨m,rfl⟩:∃m,n=m+1:=⟨n - 1,by omega⟩
 refine N.fn N.C.var_kind rfl rfl ?_
 refine i5 ?_
 simp only[WX,j0,d8,gZ,gS,oI,eL,i4]
 exact h.Pz N (t:=.leaf (.var i)) rfl (by simp[Tm.hd,Hd.sort]) (by simp[Tm.kids]) hz (by omega) q
theorem aU(N:j7 c) (h:j5 K T O){i:Nat}(hz:T.length < 100000){n:Nat}(hn:7≤n) (q:Yl K T (.leaf (.mvar i)) 1 O Q E):l8 c n (.fix (.ref 188)) [.ref K.a,vi i] O Q E:=by
 obtain⟨m,rfl⟩:∃m,n=m+1:=⟨n - 1,by omega⟩
 refine N.fn N.C.mvar_kind rfl rfl ?_
 refine i5 ?_
 simp only[WX,j0,d8,gZ,gS,oI,eL,i4]
 exact h.Pz N (t:=.leaf (.mvar i)) rfl (by simp[Tm.hd,Hd.sort]) (by simp[Tm.kids]) hz (by omega) q
theorem fJ(N:j7 c) (h:j5 K T O){a:Tm}(ha:a∈T) (hs:a.stands=true) (hz:T.length < 100000){n:Nat}(hn:7≤n) (q:Yl K T (.un .arr a) 1 O Q E):l8 c n (.fix (.ref 167)) [.ref K.a,vi (T.idxOf a)] O Q E:=by
 obtain⟨m,rfl⟩:∃m,n=m+1:=⟨n - 1,by omega⟩
 refine N.fn N.C.array_kind rfl rfl ?_
 refine i5 ?_
 simp only[WX,j0,d8,gZ,gS,oI,eL,i4]
 exact h.Pz N (t:=.un .arr a) (by simp[Tm.ok,Hd.fit,h.tab.ok a ha,hs]) (by simp[Tm.hd,Hd.sort]) (by simp[Tm.kids,ha]) hz (by omega) q
theorem Xb(N:j7 c) (h:j5 K T O){a:Tm}(ha:a∈T) (hs:a.stands=true) (hz:T.length < 100000){n:Nat}(hn:7≤n) (q:Yl K T (.un .byref a) 1 O Q E):l8 c n (.fix (.ref 174)) [.ref K.a,vi (T.idxOf a)] O Q E:=by
 obtain⟨m,rfl⟩:∃m,n=m+1:=⟨n - 1,by omega⟩
 refine N.fn N.C.byref_kind rfl rfl ?_
 refine i5 ?_
 simp only[WX,j0,d8,gZ,gS,oI,eL,i4]
 exact h.Pz N (t:=.un .byref a) (by simp[Tm.ok,Hd.fit,h.tab.ok a ha,hs]) (by simp[Tm.hd,Hd.sort]) (by simp[Tm.kids,ha]) hz (by omega) q
theorem Xc(N:j7 c) (h:j5 K T O){a:Tm}(ha:a∈T) (hs:a.stands=true) (hz:T.length < 100000){n:Nat}(hn:7≤n) (q:Yl K T (.un .P2 a) 1 O Q E):l8 c n (.fix (.ref 195)) [.ref K.a,vi (T.idxOf a)] O Q E:=by
 obtain⟨m,rfl⟩:∃m,n=m+1:=⟨n - 1,by omega⟩
 refine N.fn N.C.roref_kind rfl rfl ?_
 refine i5 ?_
 simp only[WX,j0,d8,gZ,gS,oI,eL,i4]
 exact h.Pz N (t:=.un .P2 a) (by simp[Tm.ok,Hd.fit,h.tab.ok a ha,hs]) (by simp[Tm.hd,Hd.sort]) (by simp[Tm.kids,ha]) hz (by omega) q
def Hd.isNamed:Hd→Bool
 | .cls _=>true
 | .val _=>true
 | _=>false
def Hd.tid:Hd→Nat
 | .cls t=>t
 | .val t=>t
 | _=>0
theorem Ur(N:j7 c) (h:j5 K T O){t:Tm}{i:Nat}(e:t.hd=.cls i) (ht:t.ok=true) (hk:∀a∈t.kids,a∈T) (hz:T.length < 100000){n:Nat}(hn:7≤n) (q:Yl K T t 1 O Q E) :
  l8 c n (.fix (.ref 146)) [.ref K.a,vi i,.tup (t.kids.map λa=>vi (T.idxOf a))] O Q E:=by
 obtain⟨m,rfl⟩:∃m,n=m+1:=⟨n - 1,by omega⟩
 obtain⟨tid,h1,h2,h3⟩:=I4 (f:=(T.idxOf ·)) ht (by rw[e]; exact .inl rfl)
 have he:tid=i:=by
  rcases t with hh | ⟨hh,a⟩ | ⟨hh,a,b⟩<;>simp only[Tm.hd] at e<;>subst e<;>simp[Tm.row,Tm.hd,Hd.sort,Tm.kids,vi] at h3<;>omega
 subst he
 refine N.fn N.C.class_kind rfl rfl ?_
 refine l0 false (λR E q=>?_) (λe=>by cases e) (λ_=>?_)
 ·simp only[WC,WX,d8,gZ,gS,oI,eL,vi,G6,IN]
  exact⟨A6,N.A6,by rw[h2]; exact q⟩
 refine i5 ?_
 simp only[WX,j0,d8,gZ,gS,oI,eL,i4]
 have:=h.Pz N ht (by rw[e]; simp[Hd.sort]) hk hz (n:=m) (by omega) q
 rw[h3,e] at this
 exact this
theorem Us(N:j7 c) (h:j5 K T O){t:Tm}{i:Nat}(e:t.hd=.val i) (ht:t.ok=true) (hk:∀a∈t.kids,a∈T) (hz:T.length < 100000){n:Nat}(hn:7≤n) (q:Yl K T t 1 O Q E) :
  l8 c n (.fix (.ref 153)) [.ref K.a,vi i,.tup (t.kids.map λa=>vi (T.idxOf a))] O Q E:=by
 obtain⟨m,rfl⟩:∃m,n=m+1:=⟨n - 1,by omega⟩
 obtain⟨tid,h1,h2,h3⟩:=I4 (f:=(T.idxOf ·)) ht (by rw[e]; exact .inr rfl)
 have he:tid=i:=by
  rcases t with hh | ⟨hh,a⟩ | ⟨hh,a,b⟩<;>simp only[Tm.hd] at e<;>subst e<;>simp[Tm.row,Tm.hd,Hd.sort,Tm.kids,vi] at h3<;>omega
 subst he
 refine N.fn N.C.value_kind rfl rfl ?_
 refine l0 false (λR E q=>?_) (λe=>by cases e) (λ_=>?_)
 ·simp only[WC,WX,d8,gZ,gS,oI,eL,vi,G6,IN]
  exact⟨A6,N.A6,by rw[h2]; exact q⟩
 refine i5 ?_
 simp only[WX,j0,d8,gZ,gS,oI,eL,i4]
 have:=h.Pz N ht (by rw[e]; simp[Hd.sort]) hk hz (n:=m) (by omega) q
 rw[h3,e] at this
 exact this
theorem j5.Qa(h:j5 K T O) (N:j7 c){t:Tm}(ht:t∈T){n:Nat}(hn:1≤n) (q:Q (t.row (T.idxOf ·)) O):∃fv,Iw c (.ref K.a) (Str.ofString "row") O fv∧l8 c n fv [.ref K.a,vi (T.idxOf t)] O Q E :=
 ⟨_,h.Fh N,aN N h (H5 ht) hn q⟩
theorem aV(N:j7 c) (h:j5 K T O){t:Tm}(ht:t∈T){n:Nat}(hn:2≤n) (q:Q (vi t.hd.sort) O):l8 c n (.fix (.ref 202)) [.ref K.a,vi (T.idxOf t)] O Q E:=by
 obtain⟨m,rfl⟩:∃m,n=m+1:=⟨n - 1,by omega⟩
 refine N.fn N.C.kind_sort rfl rfl ?_
 refine i5 ?_
 simp only[WX,j0,d8,gZ,gS,oI,eL,i4]
 refine h.Qa N ht (by omega) ?_
 rw[Y4 (h.tab.ok t ht)]; exact q
theorem Eb(N:j7 c) (h:j5 K T O){t:Tm}(ht:t∈T){n:Nat}(hn:2≤n) (q:Q (.bool t.hd.isVar) O):l8 c n (.fix (.ref 230)) [.ref K.a,vi (T.idxOf t)] O Q E:=by
 obtain⟨m,rfl⟩:∃m,n=m+1:=⟨n - 1,by omega⟩
 refine N.fn N.C.is_var rfl rfl ?_
 refine i6 ?_
 simp only[WX,j0,d8,gZ,gS,oI,eL,i4]
 refine h.Qa N ht (by omega) ?_
 rw[Y4 (h.tab.ok t ht)]
 refine i5 ?_
 have hq:∀b,b=t.hd.isVar→Q (.bool b) O:=λb e=>e ▸ q
 cases hh:t.hd<;>simp[WX,iB,b6,Hd.sort,vi,z2,G6,EQ,Kj,V.nb,V.hk,i4]<;>refine hq _ ?_<;>simp[hh,Hd.isVar]
def Hd.l9:Hd→Nat
 | .cls t=>t
 | .val t=>t
 | .prim n=>(((R2.find? λp=>decide (p.1=(n:Int))).map (·.2)).getD (vi 0)) |> λv=>match v with | .int i=>i.toNat | _=>0
 | .arr=>5
 | _=>0
theorem Qb:∀n:Nat,n < 16→((R2.find? λp=>decide (p.1=(n:Int))).map (·.2)).getD (.int 0)=vi (Hd.prim n).l9:=by
 intro n hn
 rcases n with _|_|_|_|_|_|_|_|_|_|_|_|_|_|_|_|n<;>first | rfl | omega
theorem Ut(N:j7 c) (h:j5 K T O){t:Tm}(ht:t∈T){n:Nat}(hn:2≤n) (q:Q (vi t.hd.l9) O):l8 c n (.fix (.ref 209)) [.ref K.a,vi (T.idxOf t)] O Q E:=by
 obtain⟨m,rfl⟩:∃m,n=m+1:=⟨n - 1,by omega⟩
 have hok:=h.tab.ok t ht
 refine N.fn N.C.tid_of rfl rfl ?_
 refine i6 ?_
 simp only[WX,j0,d8,gZ,gS,oI,eL]
 refine h.Qa N ht (by omega) ?_
 refine Sm (f:=(T.idxOf ·)) hok [2,3] (by simp[b6]) (λe=>?_) (λe=>?_)
 ·obtain⟨tid,h1,h2,h3⟩:=I4 (f:=(T.idxOf ·)) hok (by simp at e; omega)
  have he:tid=t.hd.l9:=by
   rcases t with hh | ⟨hh,a⟩ | ⟨hh,a,b⟩<;>cases hh<;>simp[Tm.hd,Hd.sort] at e<;>simp[Tm.row,Tm.hd,Hd.sort,Tm.kids,vi] at h3<;>simp[Tm.hd,Hd.l9]<;>omega
  refine i5 ?_
  simp only[WX,b6,if_true,oI,eL,i4,h3]
  rw[show(1:Int)=((1:Nat):Int) from rfl,v7 (v:=vi tid) (by omega) rfl]
  rw[he]; exact q
 have one:∀{k:Int}{a xs:List S}{Z:Loc}{R:Fl→Loc→a7→Prop},Z 2=some (t.row (T.idxOf ·))→((t.hd.sort:Int)=k→o9 c m (a++xs) Z O R E)→((t.hd.sort:Int)≠k→o9 c m xs Z O R E)→o9 c m (.ite (.cmp .Eq (.sub (.loc 2) (.con (.int 0))) (.con (.int k))) a []::xs) Z O R E:=by
  intro k a xs Z R E0 h1 h2
  refine l0 (decide ((t.hd.sort:Int)=k)) (λR E q=>?_) (λe=>h1 (by simpa using e)) (λe=>h2 (by simpa using e))
  simp only[WC,WX,E0,oI,eL,Y4 hok,vi,F7]
  exact q
 refine one (by simp[b6]) (λe1=>?_) (λe1=>?_)
 ·have:∃j,t=.leaf (.prim j):=by
   rcases t with hh | ⟨hh,a⟩ | ⟨hh,a,b⟩<;>cases hh<;>simp[Tm.hd,Hd.sort] at e1<;>simp[Tm.ok,Hd.fit] at hok<;>exact⟨_,rfl⟩
  obtain⟨j,rfl⟩:=this
  have hj:j < 16:=by simpa[Tm.ok,Hd.fit] using hok
  have hx:T.idxOf (.leaf (.prim j))=j:=Ax h.tab.nodup (h.tab.base j hj)
  refine i5 ?_
  simp only[WX,j0,b6,d8,gZ,gS,oI,eL,i4,show((1:Nat)=2)=False by simp,if_false]
  rw[hx]
  refine⟨_,.inr (.inr (.inl ⟨_,_,rfl,N.R2,rfl,rfl⟩)),?_⟩
  refine Wg N.R2 ?_
  rw[Qb j hj]
  exact q
 refine one (by simp[b6]) (λe2=>?_) (λe2=>?_)
 ·refine i5 ?_
  simp only[WX,i4]
  have:t.hd.l9=5:=by cases hh:t.hd<;>simp[hh,Hd.sort] at e2; rfl
  rw[this] at q; exact q
 ·refine i5 ?_
  simp only[WX,i4]
  have:t.hd.l9=0:=by cases hh:t.hd<;>simp[hh,Hd.sort] at e e1 e2<;>rfl
  rw[this] at q; exact q
theorem aW(N:j7 c) (h:j5 K T O){t:Tm}(ht:t∈T){n:Nat}(hn:2≤n) (q:Q (.tup (if t.hd.isNamed=true then t.kids.map (λa=>vi (T.idxOf a)) else [])) O):l8 c n (.fix (.ref 216)) [.ref K.a,vi (T.idxOf t)] O Q E:=by
 obtain⟨m,rfl⟩:∃m,n=m+1:=⟨n - 1,by omega⟩
 have hok:=h.tab.ok t ht
 refine N.fn N.C.args_of rfl rfl ?_
 refine i6 ?_
 simp only[WX,j0,d8,gZ,gS,oI,eL]
 refine h.Qa N ht (by omega) ?_
 refine Sm (f:=(T.idxOf ·)) hok [2,3] (by simp[b6]) (λe=>?_) (λe=>?_)
 ·obtain⟨tid,h1,h2,h3⟩:=I4 (f:=(T.idxOf ·)) hok (by simp at e; omega)
  have hn:t.hd.isNamed=true:=by cases hh:t.hd<;>simp[hh,Hd.sort] at e<;>rfl
  refine i5 ?_
  simp only[WX,b6,if_true,oI,eL,i4,h3]
  rw[show(2:Int)=((2:Nat):Int) from rfl,v7 (v:=.tup (t.kids.map λa=>vi (T.idxOf a))) (by omega) rfl]
  rw[hn] at q; exact q
 ·have hn:t.hd.isNamed=false:=by cases hh:t.hd<;>simp[hh,Hd.sort] at e<;>rfl
  refine i5 ?_
  simp only[WX,j0,i4]
  rw[hn] at q; exact q
end
section
variable {c:Cx}{n:Nat}{O:a7}{Q:V→a7→Prop}{E:a7→Prop}
theorem any_range{l:List Bool}:(List.range l.length).any (λi=>l.getD i false)=l.any id:=by
 rw[Bool.eq_iff_iff]
 simp only[List.any_eq_true,List.mem_range,id]
 constructor
 ·rintro⟨i,hi,e⟩
  refine⟨true,?_,rfl⟩
  rw[List.getD_eq_getElem?_getD,List.getElem?_eq_getElem hi] at e
  simp only[Option.getD_some] at e
  rw[←e]; exact List.getElem_mem hi
 ·rintro⟨b,hb,rfl⟩
  obtain⟨i,hi,e⟩:=List.mem_iff_getElem.mp hb
  exact⟨i,hi,by simp[List.getD_eq_getElem?_getD,hi,e]⟩
theorem aX{h:Heap}{l:List Bool}{cs:List Value}(r:j9 h (l.map V.bool) cs):cs=l.map Value.bool:=by
 induction l generalizing cs with
 | nil=>cases r; rfl
 | cons b l ih =>
  cases r with
  | cons x y=>cases x; rw[ih y]; rfl
theorem pI{a:Addr}{l:List Bool}(hl:O a=some (.list (l.map V.bool))) (h:Q (.bool (l.any id)) O):l8 c n (.fix (.builtin "any")) [.ref a] O Q E:=by
 intro A s cf X5 o r hf hvs
 cases hf
 obtain⟨a',rfl,ra⟩:=O9 hvs
 cases ra
 obtain⟨ia,⟨na,hia⟩,rb⟩:=(r.3 _ _ hl).2
 have hb:=aX rb
 have hlen:ia.size=l.length:=by have:=congrArg List.length hb; simpa using this
 have hne:a≠s.heap.objs.size:=Nat.ne_of_lt (Heap.lt_size hia)
 refine call_any_walk (wpAny_pyIter_list ⟨_,hia,rfl,na,rfl⟩ ⟨s.heap.objs.size,_,_,_,_,_,λi=>l.getD i false,rfl,Walks.list (A:=A.in1) o.2.2.1 s.heap.objs.size a hne ia,⟨⟨_,Heap.get?_push_size _ rfl,rfl,rfl⟩,⟨_,Heap.get?_push_of_some _ hia,rfl,na,rfl⟩⟩,?_,λh' tk hk=>?_⟩)
 ·intro i v s' Q' E' hv hq
  have:v=.bool (l.getD i false):=by
   have hv':ia.toList[i]?=some v:=by rw[Array.getElem?_toList]; exact hv
   rw[hb] at hv'
   simp only[List.getElem?_map,Option.map_eq_some_iff] at hv'
   obtain⟨b,hb',rfl⟩:=hv'
   rw[List.getD_eq_getElem?_getD,hb']; rfl
  subst this
  exact wpAny_truthy_bool hq
 ·have key:∀b o,s.heap.get? b=some o→h'.get? b=some o:=λb o e=>hk b o (by simp; exact Nat.ne_of_lt (Heap.lt_size e)) (Heap.get?_push_of_some _ e)
  rw[hlen,any_range]
  exact⟨.bool _,O,j6.grow (tk:=tk) r key,.bool _,h⟩
end
abbrev Bd:=List (Tm×Tm)
def f6:Bd→Tm→Option Tm
 | [],_=>none
 | p::f,k=>if p.1=k then some p.2 else f6 f k
def walk:Nat→Bd→Tm→Option Tm
 | 0,_,_=>none
 | n+1,f,k=>match f6 f k with
  | none=>some k
  | some v=>walk n f v
theorem j8:∀{f:Bd}{k v:Tm},f6 f k=some v→(k,v)∈f
 | [],k,v,h=>by cases h
 | p::f,k,v,h=>by
  unfold f6 at h
  split at h
  ·rename_i e
   cases h; subst e; exact .head _
  ·exact .tail _ (j8 h)
theorem w6:∀{n:Nat}{f:Bd}{k r:Tm},walk n f k=some r→f6 f r=none
 | 0,f,k,r,h=>by cases h
 | n+1,f,k,r,h=>by
  unfold walk at h
  split at h
  ·rename_i e; cases h; exact e
  ·exact w6 h
theorem E9{D:Tm→Prop}:∀{n:Nat}{f:Bd}{k r:Tm},(∀p∈f,D p.2)→D k→walk n f k=some r→D r
 | 0,f,k,r,_,_,h=>by cases h
 | n+1,f,k,r,hf,hk,h=>by
  unfold walk at h
  split at h
  ·cases h; exact hk
  ·rename_i e
   exact E9 hf (hf _ (j8 e)) h
structure Enc(e:Tm→V) (D:Tm→Prop):Prop where
 inj:∀a b,D a→D b→e a=e b→a=b
 key:(∀a,D a→∃i,e a=.int i)∨(∀a,D a→(e a).hk 8=true∧∃t,e a=.tup t)
theorem Enc.keyOk{e g:Tm→V}{D:Tm→Prop}(E:Enc e D){f:Bd}(hf:∀p∈f,D p.1){k:Tm}(hk:D k):S5 (e k) (f.map λp=>(e p.1,g p.2)):=by
 rcases E.key with h | h
 ·obtain⟨i,hi⟩:=h k hk
  refine .inl ⟨i,hi,λp hp=>?_⟩
  obtain⟨q,hq,rfl⟩:=List.mem_map.mp hp
  exact h _ (hf q hq)
 ·obtain⟨h1,t,h2⟩:=h k hk
  refine .inr (.inr ⟨h1,t,h2,λp hp=>?_⟩)
  obtain⟨q,hq,rfl⟩:=List.mem_map.mp hp
  exact(h _ (hf q hq)).2
theorem Enc.get{e g:Tm→V}{D:Tm→Prop}(E:Enc e D):∀{f:Bd}(_:∀p∈f,D p.1){k:Tm}(_:D k),x6 (f.map λp=>(e p.1,g p.2)) (e k)=(f6 f k).map g
 | [],_,k,_=>rfl
 | p::f,hf,k,hk=>by
  have ih:=E.get (g:=g) (f:=f) (λq hq=>hf q (.tail _ hq)) hk
  unfold x6 at ih ⊢
  unfold f6
  by_cases h:p.1=k
  ·simp[h]
  ·have:e p.1≠e k:=λq=>h (E.inj _ _ (hf p (.head _)) hk q)
   rw[List.map_cons,List.find?_cons_of_neg (by simpa using this),ih,if_neg h]
def T7(f:Bd) (k v:Tm):Bd:=if (f6 f k).isSome then f.map (λp=>if p.1=k then (p.1,v) else p) else f++[(k,v)]
theorem Enc.put{e g:Tm→V}{D:Tm→Prop}(E:Enc e D){f:Bd}(hf:∀p∈f,D p.1){k v:Tm}(hk:D k):dput (f.map λp=>(e p.1,g p.2)) (e k) (g v)=(T7 f k v).map λp=>(e p.1,g p.2):=by
 have hg:=E.get (g:=g) hf hk
 unfold T7
 cases hl:f6 f k with
 | none =>
  rw[hl] at hg
  rw[K4 hg]
  simp
 | some u =>
  unfold dput
  have hm:=j8 hl
  rw[if_pos (by simp only[List.any_map,List.any_eq_true,Function.comp,decide_eq_true_eq]; exact⟨_,hm,rfl⟩)]
  rw[if_pos (show(some u).isSome=true from rfl),List.map_map,List.map_map]
  refine List.map_congr_left λp hp=>?_
  simp only[Function.comp]
  by_cases h:p.1=k
  ·simp[h]
  ·have:e p.1≠e k:=λq=>h (E.inj _ _ (hf p hp) hk q)
   simp[h,this]
theorem Enc.vG{e:Tm→V}{D:Tm→Prop}(E:Enc e D){a b:Tm}(ha:D a) (hb:D b):Kj (e a) (e b):=by
 have hk:∀x,D x→(e x).hk 60=true:=λx hx=>by
  rcases E.key with h | h
  ·obtain⟨i,hi⟩:=h x hx
   rw[hi]; simp[V.hk]
  ·exact V.Kh _ (h x hx).1 (by omega)
 exact .inl ⟨V.H1 _ (hk a ha),V.H1 _ (hk b hb),hk a ha,hk b hb⟩
section
variable {c:Cx}{n:Nat}{O:a7}{E:a7→Prop}
def D7(e g:Tm→V) (f:Bd) (a:Addr) (O:a7):Prop:=O a=some (.dict (f.map λp=>(e p.1,g p.2)))
theorem D7.isIn{e g:Tm→V}{D:Tm→Prop}{f:Bd}{a:Addr}(h:D7 e g f a O) (X:Enc e D) (hf:∀p∈f,D p.1){k:Tm}(hk:D k){R:Bool→Prop}:G6 c .In (e k) (.ref a) O R=R (f6 f k).isSome:=by
 unfold D7 at h
 simp only[G6,IN,h,X.get hf hk,Option.isSome_map,eq_iff_iff,and_iff_right_iff_imp]
 exact λ_=>X.keyOk hf hk
theorem D7.pJ{e g:Tm→V}{D:Tm→Prop}{f:Bd}{a:Addr}(h:D7 e g f a O) (X:Enc e D) (hf:∀p∈f,D p.1){k:Tm}(hk:D k){R:Bool→Prop}:G6 c .NotIn (e k) (.ref a) O R=R (!(f6 f k).isSome):=by
 unfold D7 at h
 simp only[G6,IN,h,X.get hf hk,Option.isSome_map,eq_iff_iff,and_iff_right_iff_imp]
 exact λ_=>X.keyOk hf hk
theorem D7.sub{e g:Tm→V}{D:Tm→Prop}{f:Bd}{a:Addr}(h:D7 e g f a O) (X:Enc e D) (hf:∀p∈f,D p.1){k v:Tm}(hk:D k) (hv:f6 f k=some v){R:V→a7→Prop}:S4 (.ref a) (e k) O R=R (g v) O:=by
 unfold D7 at h
 simp only[S4,h,X.get hf hk,hv,Option.map_some,oI,eL,eq_iff_iff,and_iff_right_iff_imp]
 exact λ_=>X.keyOk hf hk
theorem D7.W2{e g:Tm→V}{D:Tm→Prop}{f:Bd}{a:Addr}(h:D7 e g f a O) (X:Enc e D) (hf:∀p∈f,D p.1) (hz:f.length≤1000000){k v:Tm}(hk:D k){R:a7→Prop}(q:∀b7,D7 e g (T7 f k v) a b7→(∀b,b≠a→b7 b=O b)→R b7):Di (.ref a) (e k) (g v) O R:=by
 unfold D7 at h
 simp only[Di,h]
 refine⟨X.keyOk hf hk,by simpa using hz,q _ ?_ λb hb=>i9 hb⟩
 unfold D7
 rw[b9,X.put hf hk]
theorem aY{e:Tm→V}{D:Tm→Prop}(X:Enc e D){f:Bd}{a:Addr}(h:D7 e e f a O) (hf:∀p∈f,D p.1∧D p.2){i j:Nat}(hij:i≠j){m:Nat}{k r:Tm}(hw:walk m f k=some r) (hk:D k){Z:Loc}(hi:Z i=some (e k)) (hj:Z j=some (.ref a)){xs:List S}{Q:Fl→Loc→a7→Prop}
  (q:∀i7,i7 i=some (e r)→(∀x,x≠i→i7 x=Z x)→o9 c n xs i7 O Q E):o9 c n (.whl (.cmp .In (.loc i) (.loc j)) [.set i (.sub (.loc j) (.loc i))]::xs) Z O Q E:=by
 refine Pv (λm i7 b7=>b7=O∧(∀x,x≠i→i7 x=Z x)∧∃k,D k∧i7 i=some (e k)∧walk m f k=some r) (k:=m) ⟨rfl,λ_ _=>rfl,k,hk,hi,hw⟩ ?_
 rintro m i7 b7 ⟨rfl,E0,k,hk,hi',hw⟩
 have hj':i7 j=some (.ref a):=by rw[E0 j hij.symm]; exact hj
 simp only[WC,WX,hi',hj',oI,eL]
 rw[h.isIn X (λp hp=>(hf p hp).1) hk]
 cases m with
 | zero=>simp[walk] at hw
 | succ m =>
  unfold walk at hw
  cases hl:f6 f k with
  | none =>
   rw[hl] at hw
   cases hw
   exact⟨λe=>by simp at e,λ_=>q i7 hi' E0⟩
  | some v =>
   rw[hl] at hw
   refine⟨λ_=>?_,λe=>by simp at e⟩
   refine i6 ?_
   simp only[WX,hi',hj',oI,eL]
   rw[h.sub X (λp hp=>(hf p hp).1) hk hl]
   refine o7 ?_
   exact⟨m,by omega,rfl,λx hx=>by simp[b6,hx,E0 x hx],v,(hf _ (j8 hl)).2,by simp[b6],hw⟩
theorem A9{T:List Tm}:Enc (λt=>vi (T.idxOf t)) (·∈T) :=
 ⟨λa b ha hb e=>K1 ha hb (by simp only[vi,V.int.injEq] at e; omega),.inl λa _=>⟨_,rfl⟩⟩
theorem Uu(N:j7 c){T:List Tm}{f:Bd}{a:Addr}(h:D7 (λt=>vi (T.idxOf t)) (λt=>vi (T.idxOf t)) f a O) (hf:∀p∈f,p.1∈T∧p.2∈T){m:Nat}{k r:Tm}(hw:walk m f k=some r) (hk:k∈T){n:Nat}(hn:1≤n){Q:V→a7→Prop}(q:Q (vi (T.idxOf r)) O):l8 c n (.fix (.ref 419)) [vi (T.idxOf k),.ref a] O Q E:=by
 obtain⟨n,rfl⟩:∃m,n=m+1:=⟨n - 1,by omega⟩
 refine N.fn N.C.decl_put_in rfl rfl ?_
 refine aY A9 h hf (by omega) hw hk rfl rfl λi7 h0 h1=>?_
 refine i5 ?_
 simp only[WX,h0,oI,eL,i4]
 exact q
end
def anyM(g:Tm→Option Bool):List Tm→Option Bool
 | []=>some false
 | a::l=>match g a,anyM g l with
  | some x,some y=>some (x || y)
  | _,_=>none
def occurs:Nat→Bd→Tm→Tm→Option Bool
 | 0,_,_,_=>none
 | n+1,f,v,k=>if k=v then some true else match f6 f k with
  | some u=>if k.hd.isVar=true then occurs n f v u else anyM (occurs n f v) k.kids
  | none=>anyM (occurs n f v) k.kids
theorem Js{g:Tm→Option Bool}:∀{l:List Tm}{r:Bool},anyM g l=some r→∃bs:List Bool,l.map g=bs.map some∧bs.any id=r
 | [],r,h=>⟨[],rfl,by unfold anyM at h; simpa using h⟩
 | a::l,r,h=>by
  unfold anyM at h
  split at h
  ·rename_i x y hx hy
   obtain⟨bs,h1,h2⟩:=Js hy
   refine⟨x::bs,by simp[h1,hx],?_⟩
   cases h; simp[h2]
  ·cases h
def Ng(d st:Addr) (K:I8) (O:a7):Prop:=∃dx l,O d=some (.inst 532 dx)∧O dx=some (.ns l)∧l.lookup (Str.ofString "kt")=some (.ref K.a)∧l.lookup (Str.ofString "store")=some (.ref st)
section
variable {c:Cx}{n:Nat}{O:a7}{K:I8}{T:List Tm}{d st:Addr}
theorem Ng.kt(h:Ng d st K O) (N:j7 c){R:V→Prop}(q:R (.ref K.a)):H8 c (.ref d) (Str.ofString "kt") O R:=by
 obtain⟨dx,l,h1,h2,h3,_⟩:=h
 exact⟨_,_,_,_,_,rfl,h1,h2,h3,(N.yd.attr _ (by simp[z3])).1,rfl,q⟩
theorem Ng.store(h:Ng d st K O) (N:j7 c){R:V→Prop}(q:R (.ref st)):H8 c (.ref d) (Str.ofString "store") O R:=by
 obtain⟨dx,l,h1,h2,_,h3⟩:=h
 exact⟨_,_,_,_,_,rfl,h1,h2,h3,(N.yd.attr _ (by simp[z3])).1,rfl,q⟩
def Plain(F:Addr→Prop) (O:a7):Prop:=∀b,F b→(∃l,O b=some (.list l))∨∃l,O b=some (.dict l)
theorem Ng.same(h:Ng d st K O){b7:a7}{F:Addr→Prop}(s:b8 F O b7) (hF:Plain F O):Ng d st K b7:=by
 obtain⟨dx,l,h1,h2,h3⟩:=h
 refine⟨dx,l,s _ _ (λf=>?_) h1,s _ _ (λf=>?_) h2,h3⟩
 ·rcases hF _ f with⟨l,e⟩ | ⟨l,e⟩<;>rw[h1] at e<;>cases e
 ·rcases hF _ f with⟨l,e⟩ | ⟨l,e⟩<;>rw[h2] at e<;>cases e
theorem Plain.none{O:a7}:Plain (λ_=>False) O:=λ_ h=>h.elim
theorem j5.plain(h:j5 K T O):Plain K.F O:=λb hb=>by
 rcases hb with e | e | e | e | e<;>subst e
 ·exact .inl ⟨_,h.rows⟩
 ·exact .inr ⟨_,h.index⟩
 ·exact .inl ⟨_,h.depths⟩
 ·exact .inl ⟨_,h.weights⟩
 ·exact .inl ⟨_,h.opens⟩
theorem Fn(N:j7 c){f:Bd}{a:Addr}(hf:∀p∈f,p.1∈T∧p.2∈T){v:Tm}(hv:v∈T):∀{m:Nat}{k:Tm}{r:Bool}{O:a7}{n:Nat}{Q:V→a7→Prop}{E:a7→Prop},j5 K T O→Ng d st K O→D7 (λt=>vi (T.idxOf t)) (λt=>vi (T.idxOf t)) f a O →
  occurs m f v k=some r→k∈T→m+3≤n→(∀b7,b8 (λ_=>False) O b7→Q (.bool r) b7)→l8 c n (.fix (.ref 424)) [.ref d,vi (T.idxOf v),vi (T.idxOf k),.ref a] O Q E
 | 0,k,r,O,n,Q,E,_,_,_,ho,_,_,_=>by cases ho
 | m+1,k,r,O,n,Q,E,h,y,hd,ho,hk,hn,q=>by
  obtain⟨n,rfl⟩:∃m,n=m+1:=⟨n - 1,by omega⟩
  refine N.fn N.C.decl_stands_in rfl rfl ?_
  unfold occurs at ho
  refine l0 (decide (k=v)) (λR E q=>?_) (λe=>?_) (λe=>?_)
  ·simp only[WC,WX,d8,gZ,gS,oI,eL,vi,F7]
   have:decide ((T.idxOf k:Int)=(T.idxOf v:Int))=decide (k=v):=by
    rw[decide_eq_decide]
    exact⟨λe=>K1 hk hv (by omega),λe=>by rw[e]⟩
   rw[this]; exact q
  ·rw[if_pos (by simpa using e)] at ho
   cases ho
   refine i5 ?_
   simp only[WX,i4]
   exact q O (.refl _ _)
  rw[if_neg (by simpa using e)] at ho
  have pK:anyM (occurs m f v) k.kids=some r→o9 c n (N1.drop 2) (d8 [.ref d,vi (T.idxOf v),vi (T.idxOf k),.ref a]) O (i4 Q) E:=by
   intro ho
   obtain⟨bs,hb1,hb2⟩:=Js ho
   refine i5 ?_
   simp only[WX,j0,d8,gZ,gS,oI,eL]
   refine y.kt N (h.Qa N hk (by omega) ?_)
   refine X8 N (h.tab.ok k hk) (by omega) ?_
   refine⟨_,rfl,by have:=v9 k; simp only[List.length_map]; omega,?_⟩
   refine C4 (λdone left acc b7=>b8 (λ_=>False) O b7∧∃dk lk:List Tm,∃b1 b2:List Bool,k.kids=dk++lk∧left=lk.map (λa=>vi (T.idxOf a))∧bs=b1++b2∧lk.map (occurs m f v)=b2.map some∧acc=b1.map V.bool) (λ_ _ _ _ _=>rfl) ?_ _ [] [] _ _ ⟨.refl _ _,[],k.kids,[],bs,rfl,rfl,rfl,hb1,rfl⟩ ?_
   ·rintro done x left acc b7 R ⟨s,dk,lk,b1,b2,ek,el,eb,hm,ea⟩ hsome _
    cases lk with
    | nil=>simp at el
    | cons u lk =>
     simp only[List.map_cons,List.cons.injEq] at el
     obtain⟨rfl,rfl⟩:=el
     cases b2 with
     | nil=>simp at hm
     | cons b b2 =>
      simp only[List.map_cons,List.cons.injEq] at hm
      have hu:u∈T:=h.tab.kids k hk u (by rw[ek]; simp)
      simp only[J7,M5,if_true,WX,j0,b6,d8,gZ,gS,oI,eL,show((0:Nat)=4)=False by simp,show((1:Nat)=4)=False by simp,show((3:Nat)=4)=False by simp,if_false]
      refine Fn N hf hv (h.same s) (y.same s .none) (s _ _ id hd) hm.1 hu (by omega) λo6 m9=>?_
      exact hsome _ _ ⟨s.trans m9,dk++[u],lk,b1++[b],b2,by simp[ek],rfl,by simp[eb],hm.2,by simp[ea]⟩
   ·rintro acc b7 ⟨s,dk,lk,b1,b2,ek,el,eb,hm,ea⟩ r' hr
    have:lk=[]:=by cases lk<;>simp at el ⊢
    subst this
    have:b2=[]:=by cases b2<;>simp at hm ⊢
    subst this
    rw[List.append_nil] at eb
    subst eb
    refine pI (l:=bs) (by rw[b9,ea]) ?_
    rw[hb2]
    exact q _ (s.trans (b8.new hr))
  have hin:G6 c .In (vi (T.idxOf k)) (.ref a) O=λR=>R (f6 f k).isSome:=by
   funext R; exact hd.isIn A9 (λp hp=>(hf p hp).1) hk
  refine l0 ((f6 f k).isSome && k.hd.isVar) (λR E q=>?_) (λe=>?_) (λe=>?_)
  ·simp only[WC,M5,WX,j0,d8,gZ,gS,oI,eL]
   rw[hin]
   cases hl:(f6 f k).isSome with
   | false=>rw[hl] at q; simpa using q
   | true =>
    rw[hl,Bool.true_and] at q
    simp only[if_true]
    refine y.kt N (Eb N h hk (by omega) ?_)
    simp only[z2]
    cases hv:k.hd.isVar<;>rw[hv] at q<;>simpa using q
  ·simp only[Bool.and_eq_true,Option.isSome_iff_exists] at e
   obtain⟨⟨u,hu⟩,e2⟩:=e
   rw[hu] at ho
   simp only[e2,if_true] at ho
   refine i5 ?_
   simp only[WX,j0,d8,gZ,gS,oI,eL,i4]
   have hs:S4 (.ref a) (vi (T.idxOf k)) O=λR=>R (vi (T.idxOf u)) O:=by
    funext R; exact hd.sub A9 (λp hp=>(hf p hp).1) hk hu
   rw[hs]
   exact Fn N hf hv h y hd ho (hf _ (j8 hu)).2 (by omega) q
  ·refine pK ?_
   split at ho
   ·rename_i u hu
    rw[hu] at e
    simp at e
    simpa[e] using ho
   ·exact ho
end
def W3(f:Bd) (a b:Tm):Option (Bool×Bd):=if f.length≤1000 then match occurs 70 (f++[(a,b)]) a b with
  | some o=>some (!o,f++[(a,b)])
  | none=>none else none
def E2(g:Bd→Tm→Tm→Option (Bool×Bd)):Bd→List Tm→List Tm→Option (Bool×Bd)
 | f,a::as,b::bs=>match g f a b with
  | some (true,f')=>E2 g f' as bs
  | some (false,f')=>some (false,f')
  | none=>none
 | f,_,_=>some (true,f)
def By(g:Bd→Tm→Tm→Option (Bool×Bd)) (f:Bd) (a b:Tm):Option (Bool×Bd) :=
 if a.hd.sort≠b.hd.sort∨a.hd.l9≠b.hd.l9 then some (false,f)
 else if a.kids=[]∨a.kids.length≠b.kids.length then some (false,f)
 else E2 g f a.kids b.kids
def N5:Nat→Bd→Tm→Tm→Option (Bool×Bd)
 | 0,_,_,_=>none
 | n+1,f,a,b=>match walk (f.length+1) f a,walk (f.length+1) f b with
  | some a,some b=>if a=b then some (true,f) else if b.hd.isVar=true then W3 f b a else if a.hd.isVar=true then W3 f a b else By (N5 n) f a b
  | _,_=>none
section
variable {c:Cx}{n:Nat}{O:a7}{K:I8}{T:List Tm}{d st:Addr}
theorem j5.keep(h:j5 K T O){b7:a7}{F:Addr→Prop}(s:b8 F O b7) (hd:∀b,F b→¬K.F b) (hp:Plain F O):j5 K T b7 where
 inst:=s _ _ (λf=>by rcases hp _ f with⟨l,e⟩ | ⟨l,e⟩<;>rw[h.inst] at e<;>cases e) h.inst
 ns:=s _ _ (λf=>by rcases hp _ f with⟨l,e⟩ | ⟨l,e⟩<;>rw[h.ns] at e<;>cases e) h.ns
 rows:=s _ _ (λf=>hd _ f (.inl rfl)) h.rows
 index:=s _ _ (λf=>hd _ f (.inr (.inl rfl))) h.index
 depths:=s _ _ (λf=>hd _ f (.inr (.inr (.inl rfl)))) h.depths
 weights:=s _ _ (λf=>hd _ f (.inr (.inr (.inr (.inl rfl))))) h.weights
 opens:=s _ _ (λf=>hd _ f (.inr (.inr (.inr (.inr rfl))))) h.opens
 apart:=h.apart
 tab:=h.tab
 size:=h.size
theorem j5.Uv(h:j5 K T O){a:Addr}{l:List (V×V)}(ha:O a=some (.dict l)) (hi:a≠K.i):¬K.F a:=by
 rintro(e | e | e | e | e)
 ·rw[e,h.rows] at ha; cases ha
 ·exact hi e
 ·rw[e,h.depths] at ha; cases ha
 ·rw[e,h.weights] at ha; cases ha
 ·rw[e,h.opens] at ha; cases ha
structure Re(K:I8) (T:List Tm) (d st:Addr) (f:Bd) (a:Addr) (O:a7):Prop where
 kt:j5 K T O
 yd:Ng d st K O
 fd:D7 (λt=>vi (T.idxOf t)) (λt=>vi (T.idxOf t)) f a O
 ne:a≠K.i
 all:∀p∈f,p.1∈T∧p.2∈T
theorem Re.plain{f:Bd}{a:Addr}(u:Re K T d st f a O):Plain (·=a) O:=λb hb=>by subst hb; exact .inr ⟨_,u.fd⟩
theorem Re.next{f f':Bd}{a:Addr}(u:Re K T d st f a O){b7:a7}(s:b8 (·=a) O b7) (h:D7 (λt=>vi (T.idxOf t)) (λt=>vi (T.idxOf t)) f' a b7) (hall:∀p∈f',p.1∈T∧p.2∈T):Re K T d st f' a b7 :=
 ⟨u.kt.keep s (λb hb=>by subst hb; exact u.kt.Uv u.fd u.ne) u.plain,u.yd.same s u.plain,h,u.ne,hall⟩
theorem Fo{f f':Bd}{a b:Tm}{r:Bool}{D:Tm→Prop}(h:W3 f a b=some (r,f')) (hf:∀p∈f,D p.1∧D p.2) (ha:D a) (hb:D b):∀p∈f',D p.1∧D p.2:=by
 unfold W3 at h
 split at h
 ·split at h
  ·cases h
   intro p hp
   rcases List.mem_append.mp hp with hp | hp
   ·exact hf p hp
   ·simp at hp; subst hp; exact⟨ha,hb⟩
  ·cases h
 ·cases h
theorem Jt{D:Tm→Prop}{g:Bd→Tm→Tm→Option (Bool×Bd)}(hg:∀{f f':Bd}{a b:Tm}{r:Bool},g f a b=some (r,f')→(∀p∈f,D p.1∧D p.2)→D a→D b→∀p∈f',D p.1∧D p.2) :
  ∀{as bs:List Tm}{f f':Bd}{r:Bool},E2 g f as bs=some (r,f')→(∀p∈f,D p.1∧D p.2)→(∀a∈as,D a)→(∀b∈bs,D b)→∀p∈f',D p.1∧D p.2
 | [],bs,f,f',r,h,hf,_,_=>by cases bs<;>simp only[E2,oI,Prod.mk.injEq] at h<;>obtain⟨_,rfl⟩:=h<;>exact hf
 | a::as,[],f,f',r,h,hf,_,_=>by simp only[E2,oI,Prod.mk.injEq] at h; obtain⟨_,rfl⟩:=h; exact hf
 | a::as,b::bs,f,f',r,h,hf,ha,hb=>by
  simp only[E2] at h
  split at h
  ·rename_i f1 h1
   exact Jt hg h (hg h1 hf (ha _ (.head _)) (hb _ (.head _))) (λx hx=>ha x (.tail _ hx)) (λx hx=>hb x (.tail _ hx))
  ·rename_i f1 h1
   cases h
   exact hg h1 hf (ha _ (.head _)) (hb _ (.head _))
  ·cases h
theorem Fp{D:Tm→Prop}(hD:∀t,D t→∀a∈t.kids,D a):∀{n:Nat}{f f':Bd}{a b:Tm}{r:Bool},N5 n f a b=some (r,f')→(∀p∈f,D p.1∧D p.2)→D a→D b→∀p∈f',D p.1∧D p.2
 | 0,f,f',a,b,r,h,_,_,_=>by cases h
 | n+1,f,f',a,b,r,h,hf,ha,hb=>by
  unfold N5 at h
  split at h
  ·rename_i a' b' kL kM
   have ha':=E9 (λp hp=>(hf p hp).2) ha kL
   have hb':=E9 (λp hp=>(hf p hp).2) hb kM
   split at h
   ·cases h; exact hf
   ·split at h
    ·exact Fo h hf hb' ha'
    ·split at h
     ·exact Fo h hf ha' hb'
     ·unfold By at h
      split at h
      ·cases h; exact hf
      ·split at h
       ·cases h; exact hf
       ·exact Jt (λh=>Fp hD h) h hf (hD _ ha') (hD _ hb')
  ·cases h
theorem Uw(N:j7 c){f f':Bd}{a:Addr}{r:Bool}(u:Re K T d st f a O){x y:Tm}(hx:x∈T) (hy:y∈T) (hl:f6 f x=none) (h:W3 f x y=some (r,f')){n:Nat}(hn:73≤n){Z:Loc}
  (h0:Z 0=some (.ref d)) (h1:Z 1=some (vi (T.idxOf x))) (h2:Z 2=some (vi (T.idxOf y))) (h3:Z 3=some (.ref a)){xs:List S}{Q:V→a7→Prop}{E:a7→Prop}
  (q:∀b7,Re K T d st f' a b7→b8 (·=a) O b7→Q (.bool r) b7) :
  o9 c n (.I0 (.loc 3) (.loc 1) (.loc 2)::.ret (.not (.call (.con (.fix (.ref 424))) [(.loc 0),(.loc 1),(.loc 2),(.loc 3)]))::xs) Z O (i4 Q) E:=by
 have hall:=Fo (D:=(·∈T)) h u.all hx hy
 unfold W3 at h
 split at h
 ·rename_i hlen
  split at h
  ·rename_i o ho
   cases h
   refine H4 ?_
   simp only[WX,h1,h2,h3,oI,eL]
   have W2:=fun(R:a7→Prop) q=>u.fd.W2 (v:=y) A9 (λp hp=>(u.all p hp).1) (by omega) hx (R:=R) q
   refine W2 _ λd0 e1 n1=>?_
   have ep:T7 f x y=f++[(x,y)]:=by unfold T7; rw[hl]; rfl
   rw[ep] at e1
   have s1:b8 (·=a) O d0:=b8.of n1 rfl
   have u1:=u.next s1 e1 hall
   refine i5 ?_
   simp only[WX,j0,h0,h1,h2,h3,oI,eL]
   refine Fn N hall hx u1.kt u1.yd u1.fd ho hy hn λo6 s2=>?_
   simp only[z2,i4]
   have s2':b8 (·=a) d0 o6:=s2.mono λ_ h=>h.elim
   exact q o6 (u1.next s2' (s2 _ _ id e1) hall) (s1.trans s2')
  ·cases h
 ·cases h
end
section
variable {c:Cx}{n:Nat}{O:a7}{K:I8}{T:List Tm}{d st:Addr}
theorem w7(len:Nat) (h:len≤1000000):u6 (.rng 0 (len:Int)) O ((List.range len).map vi):=by
 refine⟨by omega,by omega,by omega,?_⟩
 simp only[Int.sub_zero,Int.toNat_natCast]
 refine List.map_congr_left λi _=>?_
 simp[vi]
theorem range_drop{len k:Nat}{x:V}{l:List V}(h:x::l=((List.range len).map vi).drop k):k < len∧x=vi k∧l=((List.range len).map vi).drop (k+1):=by
 have hk:k < len:=by
  have:=congrArg List.length h
  simp at this; omega
 rw[List.drop_eq_getElem_cons (by simpa using hk)] at h
 simp only[List.cons.injEq] at h
 exact⟨hk,by simpa using h.1,h.2⟩
def Ux(c:Cx) (K:I8) (T:List Tm) (d st a:Addr) (k:Nat) (g:Bd→Tm→Tm→Option (Bool×Bd)):Prop :=
 ∀{f f':Bd}{x y:Tm}{r:Bool}{O:a7}{n:Nat}{Q:V→a7→Prop}{E:a7→Prop},Re K T d st f a O→g f x y=some (r,f')→x∈T→y∈T→k≤n →
  (∀b7,Re K T d st f' a b7→b8 (·=a) O b7→Q (.bool r) b7)→l8 c n (.fix (.ref 412)) [.ref d,vi (T.idxOf x),vi (T.idxOf y),.ref a] O Q E
theorem Sn(N:j7 c){a:Addr}{k:Nat}{g:Bd→Tm→Tm→Option (Bool×Bd)}(G:Ux c K T d st a k g){as bs:List Tm}(hlen:as.length=bs.length) (hz:as.length≤2) (ha:∀t∈as,t∈T) (hb:∀t∈bs,t∈T){n:Nat}(hn:k≤n){f f':Bd}{r:Bool}(u:Re K T d st f a O) (hu:E2 g f as bs=some (r,f')){Z:Loc}
  (h0:Z 0=some (.ref d)) (h3:Z 3=some (.ref a)) (h6:Z 6=some (.tup (as.map λt=>vi (T.idxOf t)))) (h7:Z 7=some (.tup (bs.map λt=>vi (T.idxOf t)))){Q:V→a7→Prop}{E:a7→Prop}
  (q:∀b7,Re K T d st f' a b7→b8 (·=a) O b7→Q (.bool r) b7):o9 c n (F6.drop 11) Z O (i4 Q) E:=by
 refine D0 ?_
 simp only[WX,j0,h6,oI,eL]
 refine C3 (by simp; omega) (K8 ?_)
 simp only[List.length_map]
 refine⟨_,w7 as.length (by omega),by simp; omega,?_⟩
 refine s9 (λdone left Z b7=>Z 0=some (.ref d)∧Z 3=some (.ref a)∧Z 6=some (.tup (as.map λt=>vi (T.idxOf t)))∧Z 7=some (.tup (bs.map λt=>vi (T.idxOf t)))∧b8 (·=a) O b7∧∃i fc,i≤as.length∧left=((List.range as.length).map vi).drop i∧Re K T d st fc a b7∧E2 g fc (as.drop i) (bs.drop i)=some (r,f'))
  (λv Z b7=>v=.bool false∧r=false∧Re K T d st f' a b7∧b8 (·=a) O b7) (λ_ _ _ _ _=>w7 as.length (by omega)) ?_ _ [] _ _ _ ⟨h0,h3,h6,h7,.refl _ _,0,f,by omega,rfl,u,hu⟩ ?_ ?_
 ·rintro done x left Z b7 R ⟨h0,h3,h6,h7,s,i,fc,hi,el,u,hu⟩ hnext _ hret
  obtain⟨hk,rfl,rfl⟩:=range_drop el
  have hka:i < as.length:=hk
  have hkb:i < bs.length:=by omega
  rw[List.drop_eq_getElem_cons hka,List.drop_eq_getElem_cons hkb] at hu
  simp only[E2] at hu
  simp only[J7]
  have e6:(as.map λt=>vi (T.idxOf t))[i]?=some (vi (T.idxOf as[i])):=by simp[hka]
  have e7:(bs.map λt=>vi (T.idxOf t))[i]?=some (vi (T.idxOf bs[i])):=by simp[hkb]
  refine I3 ?_
  simp only[WC,WX,j0,b6,h0,h3,h6,h7,oI,eL,if_true,show((0:Nat)=8)=False by simp,show((3:Nat)=8)=False by simp,show((6:Nat)=8)=False by simp,show((7:Nat)=8)=False by simp,if_false]
  rw[show vi i=V.int (i:Int) from rfl,v7 (by omega) e6,v7 (by omega) e7]
  split at hu
  ·rename_i f1 h1
   refine G u h1 (ha _ (List.getElem_mem hka)) (hb _ (List.getElem_mem hkb)) hn λo6 kN m9=>?_
   simp only[z2,Bool.not_true,Bool.false_eq_true,false_implies,true_and,forall_const]
   refine o7 (hnext _ _ ⟨by simp[b6,h0],by simp[b6,h3],by simp[b6,h6],by simp[b6,h7],s.trans m9,i+1,f1,by omega,rfl,kN,hu⟩)
  ·rename_i f1 h1
   refine G u h1 (ha _ (List.getElem_mem hka)) (hb _ (List.getElem_mem hkb)) hn λo6 kN m9=>?_
   cases hu
   simp only[z2,Bool.not_false,Bool.true_eq_false,false_implies,and_true,forall_const]
   refine i5 ?_
   simp only[WX]
   exact hret _ _ _ ⟨rfl,rfl,kN,s.trans m9⟩
  ·cases hu
 ·rintro Z b7 ⟨h0,h3,h6,h7,s,i,fc,hi,el,u,hu⟩
  have:i=as.length:=by
   have:=congrArg List.length el
   simp at this; omega
  subst this
  rw[List.drop_length] at hu
  simp only[E2,oI,Prod.mk.injEq] at hu
  obtain⟨rfl,rfl⟩:=hu
  refine i5 ?_
  simp only[WX,i4]
  exact q b7 u s
 ·rintro v Z b7 ⟨rfl,rfl,u',s'⟩
  exact q b7 u' s'
theorem aZ(N:j7 c){a:Addr}{k:Nat}(hk:2≤k){g:Bd→Tm→Tm→Option (Bool×Bd)}(G:Ux c K T d st a k g){n:Nat}(hn:k≤n){f f':Bd}{r:Bool}(u:Re K T d st f a O){x y:Tm}(hx:x∈T) (hy:y∈T) (hu:By g f x y=some (r,f')){Z:Loc}
  (h0:Z 0=some (.ref d)) (h1:Z 1=some (vi (T.idxOf x))) (h2:Z 2=some (vi (T.idxOf y))) (h3:Z 3=some (.ref a)){Q:V→a7→Prop}{E:a7→Prop}
  (q:∀b7,Re K T d st f' a b7→b8 (·=a) O b7→Q (.bool r) b7):o9 c n (F6.drop 5) Z O (i4 Q) E:=by
 have ok1:=u.kt.tab.ok x hx
 have ok2:=u.kt.tab.ok y hy
 unfold By at hu
 refine i6 ?_
 simp only[WX,j0,h0,h1,oI,eL]
 refine u.yd.kt N (u.kt.Qa N hx (by omega) ?_)
 refine i6 ?_
 simp only[WX,j0,b6,h0,h2,oI,eL,show((0:Nat)=4)=False by simp,show((2:Nat)=4)=False by simp,if_false]
 refine u.yd.kt N (u.kt.Qa N hy (by omega) ?_)
 refine l0 (decide (x.hd.sort≠y.hd.sort∨x.hd.l9≠y.hd.l9)) (λR E q=>?_) (λe=>?_) (λe=>?_)
 ·simp only[WC,K6,WX,j0,b6,h0,h1,h2,oI,eL,if_true,show((0:Nat)=4)=False by simp,show((0:Nat)=5)=False by simp,show((1:Nat)=4)=False by simp,show((1:Nat)=5)=False by simp,show((2:Nat)=4)=False by simp,show((2:Nat)=5)=False by simp,show((4:Nat)=5)=False by simp,if_false]
  rw[Y4 ok1,Y4 ok2]
  simp only[vi,Bx]
  by_cases e:x.hd.sort=y.hd.sort
  ·rw[if_neg (by simp[e])]
   refine u.yd.kt N (Ut N u.kt hx (by omega) ?_)
   refine u.yd.kt N (Ut N u.kt hy (by omega) ?_)
   simp only[vi,Bx]
   by_cases e2:x.hd.l9=y.hd.l9
   ·rw[show decide (x.hd.sort≠y.hd.sort∨x.hd.l9≠y.hd.l9)=false by simp[e,e2]] at q
    simpa[e2] using q
   ·rw[show decide (x.hd.sort≠y.hd.sort∨x.hd.l9≠y.hd.l9)=true by simp[e2]] at q
    have:¬((x.hd.l9:Int)=(y.hd.l9:Int)):=by omega
    simpa[this] using q
  ·rw[show decide (x.hd.sort≠y.hd.sort∨x.hd.l9≠y.hd.l9)=true by simp[e]] at q
   have:¬((x.hd.sort:Int)=(y.hd.sort:Int)):=by omega
   rw[if_pos (by simpa using this)]
   exact q
 ·rw[if_pos (by simpa using e)] at hu
  cases hu
  refine i5 ?_
  simp only[WX,i4]
  exact q O u (.refl _ _)
 rw[if_neg (by simpa using e)] at hu
 refine i6 ?_
 simp only[WX,j0,b6,oI,eL,if_true,show((4:Nat)=5)=False by simp,if_false]
 refine X8 N ok1 (by omega) ?_
 refine i6 ?_
 simp only[WX,j0,b6,oI,eL,if_true,show((5:Nat)=6)=False by simp,if_false]
 refine X8 N ok2 (by omega) ?_
 have l1:=v9 x
 have l2:=v9 y
 refine l0 (decide (x.kids=[]∨x.kids.length≠y.kids.length)) (λR E q=>?_) (λe=>?_) (λe=>?_)
 ·simp only[WC,K6,WX,j0,b6,oI,eL,if_true,show((6:Nat)=7)=False by simp,if_false,z2]
  refine⟨by simp only[List.length_map]; omega,?_⟩
  by_cases e:x.kids=[]
  ·rw[show decide (x.kids=[]∨x.kids.length≠y.kids.length)=true by simp[e]] at q
   rw[if_pos (by simp[e])]
   exact q
  ·rw[if_neg (by simp[e])]
   refine C3 (by simp only[List.length_map]; omega) (C3 (by simp only[List.length_map]; omega) ?_)
   simp only[Bx,List.length_map]
   by_cases e2:x.kids.length=y.kids.length
   ·rw[show decide (x.kids=[]∨x.kids.length≠y.kids.length)=false by simp[e,e2]] at q
    simpa[e2] using q
   ·rw[show decide (x.kids=[]∨x.kids.length≠y.kids.length)=true by simp[e2]] at q
    have:¬((x.kids.length:Int)=(y.kids.length:Int)):=by omega
    simpa[this] using q
 ·rw[if_pos (by simpa using e)] at hu
  cases hu
  refine i5 ?_
  simp only[WX,i4]
  exact q O u (.refl _ _)
 rw[if_neg (by simpa using e)] at hu
 simp only[decide_eq_false_iff_not,not_or,Decidable.not_not] at e
 exact Sn N G e.2 (by omega) (u.kt.tab.kids x hx) (u.kt.tab.kids y hy) hn u hu (by simp[b6,h0]) (by simp[b6,h3]) (by simp[b6]) (by simp[b6]) q
theorem Uy(N:j7 c){a:Addr}:∀m:Nat,Ux c K T d st a (m+80) (N5 m)
 | 0=>by intro u h; cases h
 | m+1=>by
  rename_i f f' x y r O n Q E
  intro u h hx hy hn q
  obtain⟨n,rfl⟩:∃m,n=m+1:=⟨n - 1,by omega⟩
  have ih:Ux c K T d st a (m+80) (N5 m):=Uy N (a:=a) m
  unfold N5 at h
  split at h
  ·rename_i x' y' vH sN
   have hx':x'∈T:=E9 (D:=(·∈T)) (λp hp=>(u.all p hp).2) hx vH
   have hy':y'∈T:=E9 (D:=(·∈T)) (λp hp=>(u.all p hp).2) hy sN
   refine N.fn N.C.decl_may_be_one rfl rfl ?_
   refine i6 ?_
   simp only[WX,j0,d8,gZ,gS,oI,eL]
   refine Uu N u.fd u.all vH hx (by omega) ?_
   refine i6 ?_
   simp only[WX,j0,b6,d8,gZ,gS,oI,eL,show((2:Nat)=1)=False by simp,show((3:Nat)=1)=False by simp,if_false]
   refine Uu N u.fd u.all sN hy (by omega) ?_
   refine l0 (decide (x'=y')) (λR E q=>?_) (λe=>?_) (λe=>?_)
   ·simp only[WC,WX,b6,oI,eL,if_true,show((1:Nat)=2)=False by simp,if_false,vi,F7]
    have:decide ((T.idxOf x':Int)=(T.idxOf y':Int))=decide (x'=y'):=by
     rw[decide_eq_decide]
     exact⟨λe=>K1 hx' hy' (by omega),λe=>by rw[e]⟩
    rw[this]; exact q
   ·rw[if_pos (by simpa using e)] at h
    cases h
    refine i5 ?_
    simp only[WX,i4]
    exact q O u (.refl _ _)
   rw[if_neg (by simpa using e)] at h
   refine l0 y'.hd.isVar (λR E q=>?_) (λe=>?_) (λe=>?_)
   ·simp only[WC,WX,j0,b6,d8,gZ,oI,eL,if_true,show((0:Nat)=2)=False by simp,show((0:Nat)=1)=False by simp,if_false]
    refine u.yd.kt N (Eb N u.kt hy' (by omega) ?_)
    exact q
   ·rw[if_pos e] at h
    refine kH ?_
    simp only[WX,b6,oI,eL,if_true,show((1:Nat)=2)=False by simp,if_false]
    refine l0 true (λR E q=>?_) (λe=>?_) (λe=>by cases e)
    ·simp only[WC,WX,j0,b6,d8,gZ,oI,eL,if_true,show((0:Nat)=2)=False by simp,show((0:Nat)=1)=False by simp,if_false]
     refine u.yd.kt N (Eb N u.kt hy' (by omega) ?_)
     rw[‹y'.hd.isVar=true›]
     exact q
    ·exact Uw N u hy' hx' (w6 sN) h (by omega) (by simp[b6,d8]) (by simp[b6]) (by simp[b6]) (by simp[b6,d8]) q
   ·rw[if_neg (by simp[e])] at h
    refine l0 x'.hd.isVar (λR E q=>?_) (λe=>?_) (λe=>?_)
    ·simp only[WC,WX,j0,b6,d8,gZ,oI,eL,if_true,show((0:Nat)=2)=False by simp,show((0:Nat)=1)=False by simp,show((1:Nat)=2)=False by simp,if_false]
     refine u.yd.kt N (Eb N u.kt hx' (by omega) ?_)
     exact q
    ·rw[if_pos e] at h
     exact Uw N u hx' hy' (w6 vH) h (by omega) (by simp[b6,d8]) (by simp[b6]) (by simp[b6]) (by simp[b6,d8]) q
    ·rw[if_neg (by simp[e])] at h
     exact aZ N (k:=m+80) (by omega) ih (by omega) u hx' hy' h (by simp[b6,d8]) (by simp[b6]) (by simp[b6]) (by simp[b6,d8]) q
  ·cases h
end
def Tm.sub(s:List Tm):Tm→Tm
 | .leaf (.var i)=>s[i]?.getD (.leaf (.var i))
 | .leaf h=>.leaf h
 | .un h a=>.un h (a.sub s)
 | .bin h a b=>.bin h (a.sub s) (b.sub s)
def Fits(t:Tm):Prop:=t.depth≤24∧t.weight≤4096
theorem H6{s:List Tm}:∀{t:Tm},t.open_=false→t.sub s=t
 | .leaf h,e=>by cases h<;>simp[Tm.open_,Hd.isVar] at e<;>rfl
 | .un h a,e=>by simp[Tm.open_] at e; simp[Tm.sub,H6 e]
 | .bin h a b,e=>by simp[Tm.open_] at e; simp[Tm.sub,H6 e.1,H6 e.2]
theorem bA{s:List Tm}{t:Tm}(h:t.hd.isVar=false):(t.sub s).hd=t.hd:=by
 rcases t with h' | ⟨h',a⟩ | ⟨h',a,b⟩
 ·cases h'<;>simp[Tm.hd,Hd.isVar] at h<;>rfl
 ·rfl
 ·rfl
theorem Fq{s:List Tm}{t:Tm}(h:t.hd.isVar=false):(t.sub s).kids=t.kids.map (Tm.sub s):=by
 rcases t with h' | ⟨h',a⟩ | ⟨h',a,b⟩
 ·cases h'<;>simp[Tm.hd,Hd.isVar] at h<;>rfl
 ·rfl
 ·rfl
theorem Ay{s:List Tm}(hs:∀a∈s,a.ok=true∧a.stands=true):∀{t:Tm},t.ok=true→(t.sub s).ok=true∧(t.stands=true→(t.sub s).stands=true)
 | .leaf h,ht=>by
  cases h with
  | var i =>
   simp only[Tm.sub]
   cases e:s[i]? with
   | none=>simp[Tm.ok,Hd.fit,Tm.stands,Tm.hd]
   | some a=>have:=hs a (List.mem_of_getElem? e); simp[this]
  | _=>exact⟨ht,id⟩
 | .un h a,ht=>by
  simp only[Tm.ok,Bool.and_eq_true] at ht
  have:=Ay hs ht.1.2
  simp only[Tm.sub,Tm.ok,Bool.and_eq_true]
  exact⟨⟨⟨ht.1.1,this.1⟩,this.2 ht.2⟩,λe=>e⟩
 | .bin h a b,ht=>by
  simp only[Tm.ok,Bool.and_eq_true] at ht
  have h1:=Ay hs ht.1.1.1.2
  have h2:=Ay hs ht.1.1.2
  simp only[Tm.sub,Tm.ok,Bool.and_eq_true]
  exact⟨⟨⟨⟨⟨ht.1.1.1.1,h1.1⟩,h2.1⟩,h1.2 ht.1.2⟩,h2.2 ht.2⟩,λe=>e⟩
theorem Qc{t a:Tm}(h:Fits t) (ha:a∈t.kids):Fits a:=by
 unfold Fits at *
 rcases t with h' | ⟨h',x⟩ | ⟨h',x,y⟩<;>simp[Tm.kids] at ha<;>simp only[Tm.depth,Tm.weight] at h
 ·subst ha; omega
 ·rcases ha with rfl | rfl<;>omega
theorem So(t:Tm):1≤t.weight:=by cases t<;>simp[Tm.weight]<;>omega
theorem N2(t:Tm):(t.kids.map Tm.weight).sum+1=t.weight:=by
 rcases t with h' | ⟨h',x⟩ | ⟨h',x,y⟩<;>simp[Tm.kids,Tm.weight]<;>omega
section
variable {c:Cx}{n:Nat}{O:a7}{K:I8}{T:List Tm}{Q:V→a7→Prop}{E:a7→Prop}
theorem bB(N:j7 c){s:List Tm}{f:Tm→Nat}{i:Nat}{k:V}(hz:s.length≤1000){n:Nat}(hn:1≤n) (q:Q ((s[i]?.map λt=>vi (f t)).getD k) O):l8 c n (.fix (.ref 265)) [.tup (s.map λt=>vi (f t)),vi i,k] O Q E:=by
 obtain⟨n,rfl⟩:∃m,n=m+1:=⟨n - 1,by omega⟩
 refine N.fn N.C.pick_arg rfl rfl ?_
 refine l0 (decide (i < s.length)) (λR E q=>?_) (λe=>?_) (λe=>?_)
 ·simp only[WC,WX,j0,d8,gZ,gS,oI,eL]
  refine C3 (by simp; omega) ?_
  simp only[vi,O1,List.length_map]
  rw[show decide ((i:Int) < (s.length:Int))=decide (i < s.length) by rw[decide_eq_decide]; omega]
  exact q
 ·have hi':i < s.length:=by simpa using e
  refine i5 ?_
  simp only[WX,d8,gZ,gS,oI,eL,i4]
  rw[show vi i=V.int (i:Int) from rfl,v7 (v:=vi (f s[i])) (by omega) (by simp[hi'])]
  simpa[hi'] using q
 ·refine i5 ?_
  simp only[WX,d8,gZ,gS,oI,eL,i4]
  simp at e
  rw[List.getElem?_eq_none e] at q
  exact q
theorem bC(N:j7 c) (h:j5 K T O){t u:Tm}{f:Tm→Nat}(ht:t.ok=true) (hu:u.ok=true) (e:u.hd=t.hd) (hp:t.kids≠[]) (hk:∀a∈u.kids,a∈T) (hz:T.length < 100000){n:Nat}(hn:7≤n) (q:Yl K T u 1 O Q E) :
  l8 c n (.fix (.ref 251)) [.ref K.a,t.row f,.tup (u.kids.map λa=>vi (T.idxOf a))] O Q E:=by
 obtain⟨n,rfl⟩:∃m,n=m+1:=⟨n - 1,by omega⟩
 refine N.fn N.C.with_inner rfl rfl ?_
 refine i6 ?_
 simp only[WX,j0,d8,gZ,gS,oI,eL]
 rw[Y4 ht]
 have hs1:u.hd.sort≠1:=by
  rw[e]
  rcases t with h' | ⟨h',x⟩ | ⟨h',x,y⟩<;>simp[Tm.kids] at hp<;>cases h'<;>simp[Tm.ok,Hd.fit] at ht<;>simp[Tm.hd,Hd.sort]
 have bD:=h.Pz N hu hs1 hk hz (n:=n) (by omega) q
 refine K0 [2,3] (v:=t.hd.sort) (by simp[b6,vi]) (λe2=>?_) (λe2=>?_)
 ·obtain⟨tid,h1,h2,h3⟩:=I4 (f:=f) ht (by simp at e2; omega)
  obtain⟨pL,h1',h2',h3'⟩:=I4 (f:=(T.idxOf ·)) hu (by rw[e]; simp at e2; omega)
  have:pL=tid:=by
   rcases t with h' | ⟨h',x⟩ | ⟨h',x,y⟩<;>rcases u with g' | ⟨g',x'⟩ | ⟨g',x',y'⟩<;>simp only[Tm.hd] at e<;>subst e<;>cases g'<;>simp[Tm.hd,Hd.sort] at e2<;>simp[Tm.row,Tm.hd,Hd.sort,Tm.kids,vi] at h3 h3'<;>omega
  subst this
  refine i5 ?_
  simp only[WX,j0,b6,d8,gZ,gS,oI,eL,if_true,show((0:Nat)=3)=False by simp,show((1:Nat)=3)=False by simp,show((2:Nat)=3)=False by simp,if_false,i4,h3]
  obtain⟨fv,hm,hc⟩:=bD
  refine⟨fv,hm,?_⟩
  rw[show(1:Int)=((1:Nat):Int) from rfl,v7 (v:=vi pL) (by omega) rfl]
  rw[h3',e] at hc
  exact hc
 refine Z7 (v:=t.hd.sort) (by simp[b6,vi]) (λe3=>?_) (λ_=>?_)
 ·cases hh:t.hd<;>simp[hh,Hd.sort] at e3
 refine Z7 (v:=t.hd.sort) (by simp[b6,vi]) (λe3=>?_) (λ_=>?_)
 ·cases hh:t.hd<;>simp[hh,Hd.sort] at e3
 have:∃a,u.kids=[a]∧u.row (T.idxOf ·)=.tup [vi t.hd.sort,vi (T.idxOf a)]:=by
  rcases t with h' | ⟨h',x⟩ | ⟨h',x,y⟩<;>simp[Tm.kids] at hp<;>cases h'<;>simp[Tm.ok,Hd.fit] at ht<;>simp[Tm.hd,Hd.sort] at e2 <;>
   rcases u with g' | ⟨g',x'⟩ | ⟨g',x',y'⟩<;>simp only[Tm.hd] at e<;>subst e<;>simp[Tm.ok,Hd.fit] at hu<;>exact⟨_,rfl,rfl⟩
 obtain⟨a,hk1,hr⟩:=this
 refine i5 ?_
 simp only[WX,j0,b6,d8,gZ,gS,oI,eL,if_true,show((0:Nat)=3)=False by simp,show((1:Nat)=3)=False by simp,show((2:Nat)=3)=False by simp,if_false,i4,hk1,List.map_cons,List.map_nil]
 obtain⟨fv,hm,hc⟩:=bD
 refine⟨fv,hm,?_⟩
 rw[show(0:Int)=((0:Nat):Int) from rfl,v7 (v:=vi (T.idxOf a)) (by omega) rfl]
 rw[hr] at hc
 exact hc
end
section
variable {c:Cx}{n:Nat}{O:a7}{K:I8}{T:List Tm}{Q:V→a7→Prop}{E:a7→Prop}
theorem Ft{T T':List Tm}{m:Nat}(g:Gr T T' m){l:List Tm}(h:∀x∈l,x∈T):(l.map λt=>vi (T'.idxOf t))=l.map λt=>vi (T.idxOf t) :=
 List.map_congr_left λx hx=>by rw[g.idx (h x hx)]
theorem D7.grow{T T':List Tm}{m:Nat}(g:Gr T T' m){f:Bd}{a:Addr}(hf:∀p∈f,p.1∈T∧p.2∈T) (h:D7 (λt=>vi (T.idxOf t)) (λt=>vi (T.idxOf t)) f a O):D7 (λt=>vi (T'.idxOf t)) (λt=>vi (T'.idxOf t)) f a O:=by
 unfold D7 at *
 rw[h]
 congr 2
 exact List.map_congr_left λp hp=>by simp only[g.idx (hf p hp).1,g.idx (hf p hp).2]
structure Mc(K:I8) (T:List Tm) (s:List Tm) (f:Bd) (a:Addr) (O:a7):Prop where
 kt:j5 K T O
 fd:D7 (λt=>vi (T.idxOf t)) (λt=>vi (T.idxOf t)) f a O
 ne:a≠K.i
 all:∀p∈f,(p.1∈T∧p.2∈T)∧p.2=p.1.sub s
 keys:(f.map (·.1)).Nodup
theorem w9:∀{l T:List Tm},l.Nodup→(∀x∈l,x∈T)→l.length≤T.length
 | [],T,_,_=>by simp
 | x::l,T,h,hs=>by
  rw[List.nodup_cons] at h
  have hx:x∈T:=hs x (.head _)
  have:=w9 (l:=l) (T:=T.erase x) h.2 λy hy=>by
   have:y≠x:=by rintro rfl; exact h.1 hy
   exact(List.mem_erase_of_ne this).mpr (hs y (.tail _ hy))
  rw[List.length_erase_of_mem hx] at this
  have:=List.length_pos_of_mem hx
  simp; omega
theorem Sp{f:Bd}{k:Tm}(h:f6 f k=none):k∉f.map (·.1):=by
 induction f with
 | nil=>simp
 | cons p f ih =>
  unfold f6 at h
  split at h
  ·cases h
  ·rename_i e
   simp only[List.map_cons,List.mem_cons,not_or]
   exact⟨λq=>e q.symm,ih h⟩
theorem Bz{f:Bd}{k v:Tm}(h:(f.map (·.1)).Nodup):((T7 f k v).map (·.1)).Nodup:=by
 unfold T7
 split
 ·rw[List.map_map]
  have:(f.map ((·.1) ∘ λp=>if p.1=k then (p.1,v) else p))=f.map (·.1):=List.map_congr_left λp _=>by simp only[Function.comp]; split<;>rfl
  rw[this]; exact h
 ·rename_i e
  have:f6 f k=none:=by cases q:f6 f k<;>simp_all
  rw[List.map_append,List.nodup_append]
  refine⟨h,by simp,λa ha b hb=>?_⟩
  simp at hb; subst hb
  rintro rfl
  exact Sp this ha
theorem Mc.few{s:List Tm}{f:Bd}{a:Addr}(u:Mc K T s f a O):f.length≤T.length:=by
 have:=w9 u.keys λx hx=>by obtain⟨p,hp,rfl⟩:=List.mem_map.mp hx; exact(u.all p hp).1.1
 simpa using this
theorem Mc.Im{s:List Tm}{f:Bd}{a:Addr}(u:Mc K T s f a O):¬K.F a:=u.kt.Uv u.fd u.ne
def CF(K:I8) (a b:Addr):Prop:=K.F b∨b=a
def bE(c:Cx) (K:I8) (s:List Tm) (a:Addr) (t:Tm) (m:Nat):Prop :=
 ∀{T:List Tm}{f:Bd}{O:a7}{n:Nat}{Q:V→a7→Prop}{E:a7→Prop},Mc K T s f a O→t∈T→(∀x∈s,x∈T∧x.stands=true)→T.length+t.weight < 100000→m+12≤n →
  (Fits (t.sub s)→∀T' f' b7,Gr T T' t.weight→Mc K T' s f' a b7→t.sub s∈T'→b8 (CF K a) O b7→Q (vi (T'.idxOf (t.sub s))) b7) →
  (¬Fits (t.sub s)→∀T' f' b7,Gr T T' t.weight→Mc K T' s f' a b7→b8 (CF K a) O b7→E b7) →
  l8 c n (.fix (.ref 244)) [.ref K.a,vi (T.idxOf t),.tup (s.map λt=>vi (T.idxOf t)),.tup [],.ref a] O Q E
theorem fresh_ne{O:a7}{r b:Addr}{o:z5}(h:O r=none) (hb:O b=some o):b≠r:=by rintro rfl; rw[h] at hb; cases hb
theorem Md{f:Bd}{k v:Tm}{P:Tm×Tm→Prop}(hf:∀p∈f,P p) (hk:P (k,v)):∀p∈T7 f k v,P p:=by
 unfold T7
 split
 ·intro p hp
  obtain⟨q,hq,rfl⟩:=List.mem_map.mp hp
  split
  ·rename_i e; subst e; exact hk
  ·exact hf q hq
 ·intro p hp
  rcases List.mem_append.mp hp with hp | hp
  ·exact hf p hp
  ·simp at hp; subst hp; exact hk
theorem Ju{f:Bd}{k v:Tm}:f6 (T7 f k v) k=some v:=by
 unfold T7
 cases h:f6 f k with
 | none =>
  rw[if_neg (by simp)]
  induction f with
  | nil=>simp[f6]
  | cons p f ih =>
   unfold f6 at h
   split at h
   ·cases h
   ·rename_i e
    simp only[List.cons_append,f6,if_neg e]
    exact ih h
 | some u =>
  rw[if_pos (by simp)]
  induction f with
  | nil=>cases h
  | cons p f ih =>
   unfold f6 at h
   split at h
   ·rename_i e; simp[f6,e]
   ·rename_i e
    simp only[List.map_cons,f6,if_neg e]
    exact ih h
theorem Mc.pM{s:List Tm}{f:Bd}{a:Addr}(u:Mc K T s f a O){t:Tm}(ht:t∈T){R:V→a7→Prop}:S4 (.ref K.r) (vi (T.idxOf t)) O R=R (t.row (T.idxOf ·)) O:=by
 have:=List.idxOf_lt_length_of_mem ht
 have hs:=u.kt.size
 rw[C9 (v:=t.row (T.idxOf ·)) u.kt.rows (by omega) (by simp[H5 ht])]
theorem Sq(N:j7 c){s:List Tm}{a li:Addr}{t:Tm}{m:Nat}(ih:∀x∈t.kids,bE c K s a x m) (hs:∀x∈s,x∈T∧x.stands=true){f:Bd}(u:Mc K T s f a O) (ht:t∈T) (ho:t.open_=true) (hv:t.hd.isVar=false) (hz:T.length+t.weight < 100000){n:Nat}(hn:m+12≤n)
  {d9:a7}(pN:d9 li=none) (hex:∀b,CF K a b→∃o,d9 b=some o) (hli:O li=some (.list [])) (s0:b8 (CF K a) d9 O){Z:Loc}
  (h0:Z 0=some (.ref K.a)) (h1:Z 1=some (vi (T.idxOf t))) (h2:Z 2=some (.tup (s.map λt=>vi (T.idxOf t)))) (h3:Z 3=some (.tup [])) (h4:Z 4=some (.ref a)) (h5:Z 5=some (t.row (T.idxOf ·))) (h6:Z 6=some (.ref li))
  (q1:Fits (t.sub s)→∀T' f' b7,Gr T T' t.weight→Mc K T' s f' a b7→t.sub s∈T'→b8 (CF K a) d9 b7→Q (vi (T'.idxOf (t.sub s))) b7)
  (q2:¬Fits (t.sub s)→∀T' f' b7,Gr T T' t.weight→Mc K T' s f' a b7→b8 (CF K a) d9 b7→E b7):o9 c n (Cq.drop 6) Z O (i4 Q) E:=by
 have hok:=u.kt.tab.ok t ht
 have vJ:¬CF K a li:=λh=>by obtain⟨o,e⟩:=hex _ h; rw[pN] at e; cases e
 refine D0 ?_
 simp only[WX,j0,h5,oI,eL]
 refine X8 N hok (by omega) ?_
 refine⟨_,rfl,by have:=v9 t; simp only[List.length_map]; omega,?_⟩
 refine s9 (λdone left Z b7=>Z 0=some (.ref K.a)∧Z 1=some (vi (T.idxOf t))∧Z 2=some (.tup (s.map λt=>vi (T.idxOf t)))∧Z 3=some (.tup [])∧Z 4=some (.ref a)∧Z 5=some (t.row (T.idxOf ·))∧Z 6=some (.ref li) ∧
   ∃(dk lk:List Tm) (T1:List Tm) (f1:Bd),t.kids=dk++lk∧left=lk.map (λa=>vi (T.idxOf a))∧Gr T T1 (dk.map Tm.weight).sum∧Mc K T1 s f1 a b7∧b8 (CF K a) d9 b7∧(∀x∈dk,x.sub s∈T1)∧b7 li=some (.list (dk.map λx=>vi (T1.idxOf (x.sub s)))))
  (λ_ _ _=>False) (λ_ _ _ _ _=>rfl) ?_ _ [] _ _ _ ⟨h0,h1,h2,h3,h4,h5,h6,[],t.kids,T,f,rfl,rfl,.refl _ _,u,s0,by simp,by simpa using hli⟩ ?_ (λ_ _ _ h=>h.elim)
 ·rintro done x left Z b7 R ⟨h0,h1,h2,h3,h4,h5,h6,dk,lk,T1,f1,ek,el,g1,u1,s1,hd,hl1⟩ hnext _ _
  cases lk with
  | nil=>simp at el
  | cons y lk =>
   simp only[List.map_cons,List.cons.injEq] at el
   obtain⟨rfl,rfl⟩:=el
   have hy:y∈t.kids:=by rw[ek]; simp
   have zW:y∈T:=u.kt.tab.kids t ht y hy
   have hw:(dk.map Tm.weight).sum+y.weight+(lk.map Tm.weight).sum+1=t.weight:=by
    have:=N2 t
    rw[ek] at this
    simp at this; omega
   simp only[J7]
   refine z6 ?_
   simp only[WX,j0,b6,h0,h1,h2,h3,h4,h5,h6,oI,eL,if_true,show((0:Nat)=7)=False by simp,show((2:Nat)=7)=False by simp,show((3:Nat)=7)=False by simp,show((4:Nat)=7)=False by simp,show((6:Nat)=7)=False by simp,if_false]
   refine⟨_,.inl ⟨_,_,rfl,hl1,.inl ⟨rfl,rfl⟩⟩,?_⟩
   rw[←Ft g1 λx hx=>(hs x hx).1,←g1.idx zW]
   have vK:y.sub s∈(t.sub s).kids:=by rw[Fq hv]; exact List.mem_map_of_mem hy
   refine ih y hy u1 (g1.mem zW) (λx hx=>⟨g1.mem (hs x hx).1,(hs x hx).2⟩) (by have:=g1.2; omega) hn (λ_ T2 f2 t8 g2 u2 hm2 s2=>?_) (λhb T2 f2 t8 g2 u2 s2=>?_)
   ·have hl2:t8 li=some (.list (dk.map λx=>vi (T1.idxOf (x.sub s)))):=s2 _ _ vJ hl1
    refine v3 hl2 (by have:=v9 t; rw[ek] at this; simp at this; simp; omega) ?_
    have n3:∀b,b≠li→i8 t8 li (.list ((dk.map λx=>vi (T1.idxOf (x.sub s)))++[vi (T2.idxOf (y.sub s))])) b=t8 b:=λb hb=>i9 hb
    have hne:∀b o,CF K a b→t8 b=some o→i8 t8 li (.list ((dk.map λx=>vi (T1.idxOf (x.sub s)))++[vi (T2.idxOf (y.sub s))])) b=some o:=λb o hb e=>by
     rw[n3 b (by rintro rfl; exact vJ hb)]; exact e
    have s3:b8 (·=li) t8 (i8 t8 li (.list ((dk.map λx=>vi (T1.idxOf (x.sub s)))++[vi (T2.idxOf (y.sub s))]))):=b8.of n3 rfl
    refine o7 (hnext _ _ ⟨by simp[b6,h0],by simp[b6,h1],by simp[b6,h2],by simp[b6,h3],by simp[b6,h4],by simp[b6,h5],by simp[b6,h6],dk++[y],lk,T2,f2,by simp[ek],rfl,?_,?_,?_,?_,?_⟩)
    ·simpa using g1.trans g2
    ·exact⟨u2.kt.keep s3 (λb hb hF=>by subst hb; exact vJ (.inl hF)) (λb hb=>by subst hb; exact .inl ⟨_,hl2⟩),hne _ _ (.inr rfl) u2.fd,u2.ne,u2.all,u2.keys⟩
    ·exact λb o hb e=>(n3 b (fresh_ne pN e)).trans ((s1.trans s2) b o hb e)
    ·intro x hx
     rcases List.mem_append.mp hx with hx | hx
     ·exact g2.mem (hd x hx)
     ·simp at hx; subst hx; exact hm2
    ·rw[b9,List.map_append]
     congr 2
     congr 1
     exact List.map_congr_left λx hx=>by rw[g2.idx (hd x hx)]
   ·exact q2 (λhF=>hb (Qc hF vK)) T2 f2 t8 ((g1.trans g2).mono (by omega)) u2 (s1.trans s2)
 ·rintro Z b7 ⟨h0,h1,h2,h3,h4,h5,h6,dk,lk,T1,f1,ek,el,g1,u1,s1,hd,hl1⟩
  have:lk=[]:=by cases lk<;>simp at el ⊢
  subst this
  rw[List.append_nil] at ek
  have hw:=N2 t
  rw[ek] at hw
  have e5:t.row (T.idxOf ·)=t.row (T1.idxOf ·):=P3 λx hx=>(g1.idx (u.kt.tab.kids t ht x hx)).symm
  have pO:(t.sub s).kids=dk.map (Tm.sub s):=by rw[Fq hv,ek]
  have hsub:=Ay (s:=s) (λx hx=>⟨u.kt.tab.ok x (hs x hx).1,(hs x hx).2⟩) hok
  have hk0:t.kids≠[]:=by
   rcases t with h' | ⟨h',x⟩ | ⟨h',x,y⟩<;>simp[Tm.kids]
   simp[Tm.open_] at ho
   simp[Tm.hd] at hv
   rw[hv] at ho; cases ho
  refine H4 ?_
  simp only[WX,j0,h0,h1,h4,h5,h6,oI,eL]
  refine Ak hl1 (by have:=v9 t; rw[ek] at this; simp; omega) ?_
  have vL:(dk.map λx=>vi (T1.idxOf (x.sub s)))=(t.sub s).kids.map λx=>vi (T1.idxOf x):=by rw[pO,List.map_map]; rfl
  rw[vL]
  refine bC N u1.kt hok hsub.1 (bA hv) hk0 (by rw[pO]; intro x hx; obtain⟨y,hy,rfl⟩:=List.mem_map.mp hx; exact hd y hy) (by have:=g1.2; omega) (by omega) ⟨λhF T2 t8 g2 k2 s2 hm2=>?_,λhF=>?_⟩
  ·have hgr:Gr T T2 t.weight:=(g1.trans g2).mono (by omega)
   have hd2:D7 (λt=>vi (T2.idxOf t)) (λt=>vi (T2.idxOf t)) f1 a t8:=D7.grow g2 (λp hp=>(u1.all p hp).1) (s2 _ _ u1.Im u1.fd)
   have hall:∀p∈f1,(p.1∈T2∧p.2∈T2)∧p.2=p.1.sub s:=λp hp=>⟨⟨g2.mem (u1.all p hp).1.1,g2.mem (u1.all p hp).1.2⟩,(u1.all p hp).2⟩
   have vM:t∈T2:=hgr.mem ht
   rw[←hgr.idx ht]
   have hfew:=u1.few
   have hsz:=u1.kt.size
   have W2:=fun(R:a7→Prop) q=>hd2.W2 (k:=t) (v:=t.sub s) A9 (λp hp=>(hall p hp).1.1) (by omega) vM (R:=R) q
   refine W2 _ λA4 e3 n3=>?_
   have s3:b8 (·=a) t8 A4:=b8.of n3 rfl
   have hp2:Plain (·=a) t8:=λb hb=>by subst hb; exact .inr ⟨_,hd2⟩
   have hnF:¬K.F a:=k2.Uv hd2 u1.ne
   refine i5 ?_
   simp only[WX,h1,h4,oI,eL]
   have iS:=Md (f:=f1) (k:=t) (v:=t.sub s) (P:=λp=>(p.1∈T2∧p.2∈T2)∧p.2=p.1.sub s) hall ⟨⟨vM,hm2⟩,rfl⟩
   rw[←hgr.idx ht]
   have hsb:S4 (.ref a) (vi (T2.idxOf t)) A4=λR=>R (vi (T2.idxOf (t.sub s))) A4:=by
    funext R; exact e3.sub A9 (λp hp=>(iS p hp).1.1) vM Ju
   rw[hsb]
   refine q1 hF T2 _ A4 hgr ⟨k2.keep s3 (λb hb hF=>by subst hb; exact hnF hF) hp2,e3,u1.ne,iS,Bz u1.keys⟩ hm2 ((s1.trans (s2.mono λb hb=>.inl hb)).trans (s3.mono λb hb=>.inr hb))
  ·exact q2 (λhF'=>by unfold Fits at hF'; omega) T1 f1 b7 (g1.mono (by omega)) u1 s1
theorem Mc.same{s:List Tm}{f:Bd}{a:Addr}(u:Mc K T s f a O){b7:a7}(h:b8 (λ_=>False) O b7):Mc K T s f a b7 :=
 ⟨u.kt.same h,h _ _ id u.fd,u.ne,u.all,u.keys⟩
theorem Mc.some{s:List Tm}{f:Bd}{a:Addr}(u:Mc K T s f a O):∀b,CF K a b→∃o,O b=.some o:=by
 rintro b ((e | e | e | e | e) | e)<;>subst e
 ·exact⟨_,u.kt.rows⟩
 ·exact⟨_,u.kt.index⟩
 ·exact⟨_,u.kt.depths⟩
 ·exact⟨_,u.kt.weights⟩
 ·exact⟨_,u.kt.opens⟩
 ·exact⟨_,u.fd⟩
theorem Jv(N:j7 c){s:List Tm}{a:Addr}(hsz:s.length≤1000):∀(m:Nat) (t:Tm),t.weight≤m→bE c K s a t m
 | 0,t,hw=>by have:=So t; omega
 | m+1,t,hw=>by
  rename_i T f O n Q E
  intro u ht hs hz hn q1 q2
  obtain⟨n,rfl⟩:∃m,n=m+1:=⟨n - 1,by omega⟩
  have hok:=u.kt.tab.ok t ht
  refine N.fn N.C.close_in rfl rfl ?_
  have fin:t.sub s∈T→Q (vi (T.idxOf (t.sub s))) O:=λhm=>q1 ⟨u.kt.tab.deep _ hm,u.kt.tab.heavy _ hm⟩ T f O (.refl _ _) u hm (.refl _ _)
  refine l0 (!t.open_) (λR E q=>?_) (λe=>?_) (λe=>?_)
  ·simp only[WC,WX,d8,gZ,gS,oI,eL]
   refine u.kt.Lx N ?_
   rw[Fk u.kt ht]
   simp only[bi,F7]
   revert q
   cases t.open_<;>exact λq=>q
  ·have e1:t.sub s=t:=H6 (by simpa using e)
   rw[e1] at fin
   refine i5 ?_
   simp only[WX,d8,gZ,gS,oI,eL,i4]
   exact fin ht
  have ho:t.open_=true:=by simpa using e
  have hf1:∀p∈f,p.1∈T:=λp hp=>(u.all p hp).1.1
  have hin:G6 c .In (vi (T.idxOf t)) (.ref a) O=λR=>R (f6 f t).isSome:=by
   funext R; exact u.fd.isIn A9 hf1 ht
  refine l0 (f6 f t).isSome (λR E q=>?_) (λe=>?_) (λe=>?_)
  ·simp only[WC,WX,d8,gZ,gS,oI,eL,hin]
   exact q
  ·obtain⟨v,hv⟩:=Option.isSome_iff_exists.mp e
   have zX:=u.all _ (j8 hv)
   refine i5 ?_
   simp only[WX,d8,gZ,gS,oI,eL,i4]
   have hsb:S4 (.ref a) (vi (T.idxOf t)) O=λR=>R (vi (T.idxOf v)) O:=by
    funext R; exact u.fd.sub A9 hf1 ht hv
   rw[hsb]
   have e1:v=t.sub s:=zX.2
   rw[e1]
   exact fin (e1 ▸ zX.1.2)
  refine i6 ?_
  simp only[WX,d8,gZ,gS,oI,eL]
  refine u.kt.Fi N ?_
  rw[u.pM ht]
  have one:∀{k:Int}{a xs:List S}{Z:Loc}{R:Fl→Loc→a7→Prop},Z 5=some (t.row (T.idxOf ·))→((t.hd.sort:Int)=k→o9 c n (a++xs) Z O R E)→((t.hd.sort:Int)≠k→o9 c n xs Z O R E)→o9 c n (.ite (.cmp .Eq (.sub (.loc 5) (.con (.int 0))) (.con (.int k))) a []::xs) Z O R E:=by
   intro k a xs Z R E0 h1 h2
   refine l0 (decide ((t.hd.sort:Int)=k)) (λR E q=>?_) (λe=>h1 (by simpa using e)) (λe=>h2 (by simpa using e))
   simp only[WC,WX,E0,oI,eL,Y4 hok,vi,F7]
   exact q
  refine one (by simp[b6]) (λe6=>?_) (λe6=>?_)
  ·have:∃i,t=.leaf (.var i):=by
    rcases t with hh | ⟨hh,a⟩ | ⟨hh,a,b⟩<;>cases hh<;>simp[Tm.hd,Hd.sort] at e6<;>simp[Tm.ok,Hd.fit] at hok<;>exact⟨_,rfl⟩
   obtain⟨i,rfl⟩:=this
   refine i5 ?_
   simp only[WX,j0,b6,d8,gZ,gS,oI,eL,if_true,show((1:Nat)=5)=False by simp,show((2:Nat)=5)=False by simp,if_false]
   rw[show Tm.row (T.idxOf ·) (.leaf (.var i))=.tup [vi 6,vi i] from rfl,show(1:Int)=((1:Nat):Int) from rfl,v7 (v:=vi i) (by omega) rfl]
   refine bB N hsz (by omega) ?_
   cases hi:s[i]? with
   | none =>
    have e1:(Tm.leaf (.var i)).sub s=.leaf (.var i):=by simp[Tm.sub,hi]
    rw[e1] at fin
    exact fin ht
   | some v =>
    have e1:(Tm.leaf (.var i)).sub s=v:=by simp[Tm.sub,hi]
    rw[e1] at fin
    exact fin (hs v (List.mem_of_getElem? hi)).1
  refine one (by simp[b6]) (λe7=>?_) (λe7=>?_)
  ·have:∃i,t=.leaf (.mvar i):=by
    rcases t with hh | ⟨hh,a⟩ | ⟨hh,a,b⟩<;>cases hh<;>simp[Tm.hd,Hd.sort] at e7<;>simp[Tm.ok,Hd.fit] at hok<;>exact⟨_,rfl⟩
   obtain⟨i,rfl⟩:=this
   refine i5 ?_
   simp only[WX,j0,b6,d8,gZ,gS,oI,eL,if_true,show((1:Nat)=5)=False by simp,show((3:Nat)=5)=False by simp,if_false]
   rw[show Tm.row (T.idxOf ·) (.leaf (.mvar i))=.tup [vi 7,vi i] from rfl,show(1:Int)=((1:Nat):Int) from rfl,v7 (v:=vi i) (by omega) rfl]
   refine bB N (s:=[]) (f:=(T.idxOf ·)) (by simp) (by omega) ?_
   exact fin ht
  have hv:t.hd.isVar=false:=by cases hh:t.hd<;>simp[hh,Hd.sort] at e6 e7<;>rfl
  refine i6 ?_
  simp only[WX,j0]
  intro r hr
  have hnew:b8 (λ_=>False) O (i8 O r (.list [])):=b8.new hr
  refine Sq N (λx hx=>Jv N hsz m x (by
   rcases t with h' | ⟨h',y⟩ | ⟨h',y,z⟩<;>simp[Tm.kids] at hx<;>simp only[Tm.weight] at hw
   ·subst hx; omega
   ·rcases hx with rfl | rfl<;>omega)) hs (u.same hnew) ht ho hv hz (by omega) hr u.some (b9 _ _ _) (b8.new hr) (by simp[b6,d8]) (by simp[b6,d8]) (by simp[b6,d8]) (by simp[b6,d8]) (by simp[b6,d8]) (by simp[b6]) (by simp[b6]) q1 q2
theorem fK(N:j7 c){s:List Tm}(hsz:s.length≤1000) (h:j5 K T O){t:Tm}(ht:t∈T) (hs:∀x∈s,x∈T∧x.stands=true) (hz:T.length+t.weight < 100000){n:Nat}(hn:t.weight+13≤n)
  (q1:Fits (t.sub s)→∀T' b7,Gr T T' t.weight→j5 K T' b7→t.sub s∈T'→b8 K.F O b7→Q (vi (T'.idxOf (t.sub s))) b7)
  (q2:¬Fits (t.sub s)→∀T' b7,Gr T T' t.weight→j5 K T' b7→b8 K.F O b7→E b7) :
  l8 c n (.fix (.ref 237)) [.ref K.a,vi (T.idxOf t),.tup (s.map λt=>vi (T.idxOf t)),.tup []] O Q E:=by
 obtain⟨n,rfl⟩:∃m,n=m+1:=⟨n - 1,by omega⟩
 refine N.fn N.C.close rfl rfl ?_
 refine z6 ?_
 simp only[WX,j0,d8,gZ,gS,oI,eL]
 refine h.Qa N ht (by omega) ?_
 refine l0 (!t.open_) (λR E q=>?_) (λe=>?_) (λe=>?_)
 ·simp only[WC,WX,d8,gZ,gS,oI,eL]
  refine h.Lx N ?_
  rw[Fk h ht]
  simp only[bi,F7]
  revert q
  cases t.open_<;>exact λq=>q
 ·have e1:t.sub s=t:=H6 (by simpa using e)
  rw[e1] at q1
  refine i5 ?_
  simp only[WX,d8,gZ,gS,oI,eL,i4]
  exact q1 ⟨h.tab.deep _ ht,h.tab.heavy _ ht⟩ T O (.refl _ _) h ht (.refl _ _)
 refine i5 ?_
 simp only[WX,j0,d8,gZ,gS,oI,eL]
 intro r hr
 refine⟨b9 _ _ _,.inl (by simp[z0]),?_⟩
 have e0:i8 (i8 O r (.dict [])) r (.dict (G0 [] (z0 [])))=i8 O r (.dict []):=by
  funext b; by_cases hb:b=r<;>simp[i8,hb,z0,G0]
 rw[e0]
 have s0:b8 (λ_=>False) O (i8 O r (.dict [])):=b8.new hr
 have k0:=h.same s0
 have hne:r≠K.i:=by rintro rfl; rw[h.index] at hr; cases hr
 have u:Mc K T s [] r (i8 O r (.dict [])):=⟨k0,by unfold D7; simp,hne,by simp,by simp⟩
 have hst:∀{b7:a7},b8 (CF K r) (i8 O r (.dict [])) b7→b8 K.F O b7:=fun {b7} s b o hb e=>s b o (by
  rintro(h | h)
  ·exact hb h
  ·subst h; rw[hr] at e; cases e) (s0 _ _ id e)
 exact Jv N hsz t.weight t (by omega) u ht hs hz (by omega) (λhF T' f' b7 g u' hm s=>q1 hF T' b7 g u'.kt hm (hst s)) (λhF T' f' b7 g u' s=>q2 hF T' b7 g u'.kt (hst s))
end
structure G2 where
 o:Addr
 dx:Addr
 pa:Addr
 fa:Addr
 sort:Nat
 np:Nat
 v8:List Nat
structure P4 where
 o:Addr
 dx:Addr
 flags:Nat
 kind:Tm
def T8(O:a7) (tid:Nat) (t:G2):Prop :=
 O t.o=some (.inst 282 t.dx)∧(∃l,O t.dx=some (.ns l)∧l.lookup (Str.ofString "tid")=some (vi tid)∧l.lookup (Str.ofString "sort")=some (vi t.sort)∧l.lookup (Str.ofString "params")=some (.ref t.pa)∧l.lookup (Str.ofString "fields")=some (.ref t.fa)) ∧
 (∃pl,O t.pa=some (.list pl)∧pl.length=t.np)∧O t.fa=some (.list (t.v8.map vi))
def Qe(O:a7) (T:List Tm) (f:P4):Prop :=
 O f.o=some (.inst 303 f.dx)∧(∃l,O f.dx=some (.ns l)∧l.lookup (Str.ofString "flags")=some (vi f.flags)∧l.lookup (Str.ofString "kind")=some (vi (T.idxOf f.kind)))∧f.kind∈T
structure Hg where
 st:Addr
 dx:Addr
 ty:Addr
 fl:Addr
 nm:Addr
structure G8(H:Hg) (K:I8) (T:List Tm) (Ts:List G2) (Fs:List P4) (O:a7):Prop where
 inst:O H.st=some (.inst 324 H.dx)
 ns:∃l,O H.dx=some (.ns l)∧l.lookup (Str.ofString "kt")=some (.ref K.a)∧l.lookup (Str.ofString "types")=some (.ref H.ty)∧l.lookup (Str.ofString "fields_")=some (.ref H.fl)∧l.lookup (Str.ofString "names")=some (.ref H.nm)
 types:O H.ty=some (.list (List.replicate 64 .none++Ts.map λt=>.ref t.o))
 fields:O H.fl=some (.list (.none::Fs.map λf=>.ref f.o))
 tys:∀i t,Ts[i]?=some t→T8 O (64+i) t
 fds:∀f∈Fs,Qe O T f
 apart:∀b,(b=H.ty∨b=H.fl∨b=H.nm∨∃t∈Ts,b=t.fa∨b=t.pa)→¬K.F b
 W4:∀t∈Ts,∀i∈t.v8,∃j,i=j+1∧j < Fs.length
 flags:∀f∈Fs,f.flags∈[0,1,2,5]
 light:∀f∈Fs,f.kind.weight≤20
 few:Ts.length≤1000∧Fs.length≤1000∧∀t∈Ts,t.v8.length≤1000∧t.np≤100
 Xd:∃l,O H.nm=some (.dict l)∧l.length≤1000∧∀p∈l,∃t,p.1=.tup t
 lists:([H.ty,H.fl]++Ts.flatMap λt=>[t.fa,t.pa]).Nodup
section
variable {c:Cx}{n:Nat}{O:a7}{K:I8}{T:List Tm}{Q:V→a7→Prop}{E:a7→Prop}{H:Hg}{Ts:List G2}{Fs:List P4}
theorem T8.same{O b7:a7}{tid:Nat}{t:G2}{F:Addr→Prop}(h:T8 O tid t) (s:b8 F O b7) (hp:Plain F O) (h1:¬F t.fa) (h2:¬F t.pa):T8 b7 tid t:=by
 obtain⟨a,⟨l,b,b'⟩,⟨pl,e,e'⟩,g⟩:=h
 refine⟨s _ _ (λf=>?_) a,⟨l,s _ _ (λf=>?_) b,b'⟩,⟨pl,s _ _ h2 e,e'⟩,s _ _ h1 g⟩
 ·rcases hp _ f with⟨l,x⟩ | ⟨l,x⟩<;>rw[a] at x<;>cases x
 ·rcases hp _ f with⟨l,x⟩ | ⟨l,x⟩<;>rw[b] at x<;>cases x
theorem Qe.same{O b7:a7}{T':List Tm}{m:Nat}{f:P4}{F:Addr→Prop}(h:Qe O T f) (g:Gr T T' m) (s:b8 F O b7) (hp:Plain F O):Qe b7 T' f:=by
 obtain⟨a,⟨l,b,b1,b2⟩,e⟩:=h
 refine⟨s _ _ (λf=>?_) a,⟨l,s _ _ (λf=>?_) b,b1,by rw[g.idx e]; exact b2⟩,g.mem e⟩
 ·rcases hp _ f with⟨l,x⟩ | ⟨l,x⟩<;>rw[a] at x<;>cases x
 ·rcases hp _ f with⟨l,x⟩ | ⟨l,x⟩<;>rw[b] at x<;>cases x
theorem G8.grow(h:G8 H K T Ts Fs O){T':List Tm}{m:Nat}{b7:a7}(g:Gr T T' m) (s:b8 K.F O b7) (hp:Plain K.F O):G8 H K T' Ts Fs b7 where
 inst:=s _ _ (λf=>by rcases hp _ f with⟨l,x⟩ | ⟨l,x⟩<;>rw[h.inst] at x<;>cases x) h.inst
 ns:=by
  obtain⟨l,b,b'⟩:=h.ns
  exact⟨l,s _ _ (λf=>by rcases hp _ f with⟨l,x⟩ | ⟨l,x⟩<;>rw[b] at x<;>cases x) b,b'⟩
 types:=s _ _ (h.apart _ (.inl rfl)) h.types
 fields:=s _ _ (h.apart _ (.inr (.inl rfl))) h.fields
 tys:=λi t e=>(h.tys i t e).same s hp (h.apart _ (.inr (.inr (.inr ⟨t,List.mem_of_getElem? e,.inl rfl⟩)))) (h.apart _ (.inr (.inr (.inr ⟨t,List.mem_of_getElem? e,.inr rfl⟩))))
 fds:=λf hf=>(h.fds f hf).same g s hp
 apart:=h.apart
 W4:=h.W4
 flags:=h.flags
 light:=h.light
 few:=h.few
 Xd:=by
  obtain⟨l,b,b'⟩:=h.Xd
  exact⟨l,s _ _ (h.apart _ (.inr (.inr (.inl rfl)))) b,b'⟩
 lists:=h.lists
theorem G8.attr(h:G8 H K T Ts Fs O) (N:j7 c){x:Str}{v:V}{R:V→Prop}(hx:∀l:List (Str×V),l.lookup (Str.ofString "kt")=some (.ref K.a)∧l.lookup (Str.ofString "types")=some (.ref H.ty)∧l.lookup (Str.ofString "fields_")=some (.ref H.fl)∧l.lookup (Str.ofString "names")=some (.ref H.nm)→l.lookup x=some v) (hm:x∈A0) (hf:v.Ei=true) (q:R v):H8 c (.ref H.st) x O R:=by
 obtain⟨l,h1,h2⟩:=h.ns
 exact⟨_,_,_,_,_,rfl,h.inst,h1,hx l h2,(N.st.attr x hm).1,hf,q⟩
theorem G8.Fu(h:G8 H K T Ts Fs O) (N:j7 c){R:V→Prop}(q:R (.ref K.a)):H8 c (.ref H.st) (Str.ofString "kt") O R:=h.attr N (λ_ h=>h.1) (by simp[A0]) rfl q
theorem G8.N3(h:G8 H K T Ts Fs O) (N:j7 c){R:V→Prop}(q:R (.ref H.ty)):H8 c (.ref H.st) (Str.ofString "types") O R:=h.attr N (λ_ h=>h.2.1) (by simp[A0]) rfl q
theorem G8.P5(h:G8 H K T Ts Fs O) (N:j7 c){R:V→Prop}(q:R (.ref H.fl)):H8 c (.ref H.st) (Str.ofString "fields_") O R:=h.attr N (λ_ h=>h.2.2.1) (by simp[A0]) rfl q
theorem G8.Uz(h:G8 H K T Ts Fs O) (N:j7 c){R:V→Prop}(q:R (.ref H.nm)):H8 c (.ref H.st) (Str.ofString "names") O R:=h.attr N (λ_ h=>h.2.2.2) (by simp[A0]) rfl q
theorem T8.attr{tid:Nat}{t:G2}(h:T8 O tid t) (N:j7 c){x:Str}{v:V}{R:V→Prop}(hx:∀l:List (Str×V),l.lookup (Str.ofString "tid")=some (vi tid)∧l.lookup (Str.ofString "sort")=some (vi t.sort)∧l.lookup (Str.ofString "params")=some (.ref t.pa)∧l.lookup (Str.ofString "fields")=some (.ref t.fa)→l.lookup x=some v) (hm:x∈n0) (hf:v.Ei=true) (q:R v):H8 c (.ref t.o) x O R:=by
 obtain⟨h1,⟨l,h2,h3⟩,_⟩:=h
 exact⟨_,_,_,_,_,rfl,h1,h2,hx l h3,(N.td.attr x hm).1,hf,q⟩
theorem T8.iT{tid:Nat}{t:G2}(h:T8 O tid t) (N:j7 c){R:V→Prop}(q:R (vi tid)):H8 c (.ref t.o) (Str.ofString "tid") O R:=h.attr N (λ_ h=>h.1) (by simp[n0]) rfl q
theorem T8.bF{tid:Nat}{t:G2}(h:T8 O tid t) (N:j7 c){R:V→Prop}(q:R (vi t.sort)):H8 c (.ref t.o) (Str.ofString "sort") O R:=h.attr N (λ_ h=>h.2.1) (by simp[n0]) rfl q
theorem T8.bG{tid:Nat}{t:G2}(h:T8 O tid t) (N:j7 c){R:V→Prop}(q:R (.ref t.pa)):H8 c (.ref t.o) (Str.ofString "params") O R:=h.attr N (λ_ h=>h.2.2.1) (by simp[n0]) rfl q
theorem T8.P5{tid:Nat}{t:G2}(h:T8 O tid t) (N:j7 c){R:V→Prop}(q:R (.ref t.fa)):H8 c (.ref t.o) (Str.ofString "fields") O R:=h.attr N (λ_ h=>h.2.2.2) (by simp[n0]) rfl q
theorem Qe.fL{f:P4}(h:Qe O T f) (N:j7 c){R:V→Prop}(q:R (vi f.flags)):H8 c (.ref f.o) (Str.ofString "flags") O R:=by
 obtain⟨h1,⟨l,h2,h3,h4⟩,_⟩:=h
 exact⟨_,_,_,_,_,rfl,h1,h2,h3,(N.fd.attr _ (by simp[E8])).1,rfl,q⟩
theorem Qe.bH{f:P4}(h:Qe O T f) (N:j7 c){R:V→Prop}(q:R (vi (T.idxOf f.kind))):H8 c (.ref f.o) (Str.ofString "kind") O R:=by
 obtain⟨h1,⟨l,h2,h3,h4⟩,_⟩:=h
 exact⟨_,_,_,_,_,rfl,h1,h2,h4,(N.fd.attr _ (by simp[E8])).1,rfl,q⟩
def D9(Ts:List G2) (tid:Nat):Option G2:=if tid < 64 then none else Ts[tid - 64]?
def Yi:Option G2→V
 | none=>.none
 | some t=>.ref t.o
theorem G8.Me(h:G8 H K T Ts Fs O){tid:Nat}{t:G2}(e:D9 Ts tid=some t):T8 O tid t:=by
 unfold D9 at e
 split at e
 ·cases e
 ·have:=h.tys _ _ e
  rwa [show 64+(tid - 64)=tid by omega] at this
theorem G8.Fv(h:G8 H K T Ts Fs O){tid:Nat}(hb:tid < 64+Ts.length){R:V→a7→Prop}:S4 (.ref H.ty) (vi tid) O R=R (Yi (D9 Ts tid)) O:=by
 have hl:=h.few.1
 rw[C9 (v:=Yi (D9 Ts tid)) h.types (by omega)]
 unfold D9
 by_cases e:tid < 64
 ·rw[if_pos e,List.getElem?_append_left (by simpa using e)]
  rw[List.getElem?_replicate,if_pos e]; rfl
 ·rw[if_neg e,List.getElem?_append_right (by simpa using e)]
  have hlt:tid - 64 < Ts.length:=by omega
  simp[hlt,Yi]
theorem Qf(N:j7 c) (k:j5 K T O) (h:G8 H K T Ts Fs O){t:Tm}(ht:t∈T){n:Nat}(hn:3≤n) (q:Q (Yi (D9 Ts t.hd.l9)) O):l8 c n (.fix (.ref 377)) [.ref H.st,vi (T.idxOf t)] O Q E:=by
 obtain⟨n,rfl⟩:∃m,n=m+1:=⟨n - 1,by omega⟩
 have hl:=h.few.1
 refine N.fn N.C.type_of rfl rfl ?_
 refine i6 ?_
 simp only[WX,j0,d8,gZ,gS,oI,eL]
 refine h.Fu N (Ut N k ht (by omega) ?_)
 refine l0 (decide (t.hd.l9=0∨64+Ts.length≤t.hd.l9)) (λR E q=>?_) (λe=>?_) (λe=>?_)
 ·simp only[WC,K6,WX,j0,b6,d8,gZ,gS,oI,eL,if_true,show((0:Nat)=2)=False by simp,if_false,vi,Sh]
  by_cases e:t.hd.l9=0
  ·rw[if_pos (by simp[e])]
   rw[show decide (t.hd.l9=0∨64+Ts.length≤t.hd.l9)=true by simp[e]] at q
   exact q
  ·rw[if_neg (by simp; omega)]
   refine h.N3 N (A3 h.types (by simp; omega) ?_)
   simp only[Ly,List.length_append,List.length_replicate,List.length_map]
   have:decide (((64+Ts.length:Nat):Int)≤(t.hd.l9:Int))=decide (t.hd.l9=0∨64+Ts.length≤t.hd.l9):=by rw[decide_eq_decide]; omega
   rw[this]
   revert q
   cases decide (t.hd.l9=0∨64+Ts.length≤t.hd.l9)<;>exact λq=>q
 ·refine i5 ?_
  simp only[WX,i4]
  have:D9 Ts t.hd.l9=none:=by
   simp only[decide_eq_true_eq] at e
   unfold D9
   rcases e with e | e
   ·rw[if_pos (by omega)]
   ·rw[if_neg (by omega),List.getElem?_eq_none (by omega)]
  rw[this] at q; exact q
 ·simp only[decide_eq_false_iff_not,not_or] at e
  refine i5 ?_
  simp only[WX,b6,d8,gZ,gS,oI,eL,if_true,show((0:Nat)=2)=False by simp,if_false,i4]
  refine h.N3 N ?_
  rw[h.Fv (by omega)]
  exact q
def plain(Ts:List G2) (t:Tm):Bool:=t.hd.sort == 3 && (match D9 Ts t.hd.l9 with | none=>true | some i=>i.sort != 5)
theorem fM(N:j7 c) (k:j5 K T O) (h:G8 H K T Ts Fs O){t:Tm}(ht:t∈T){n:Nat}(hn:4≤n) (q:Q (.bool (plain Ts t)) O):l8 c n (.fix (.ref 391)) [.ref H.st,vi (T.idxOf t)] O Q E:=by
 obtain⟨n,rfl⟩:∃m,n=m+1:=⟨n - 1,by omega⟩
 refine N.fn N.C.is_plain_struct rfl rfl ?_
 refine l0 (decide (t.hd.sort≠3)) (λR E q=>?_) (λe=>?_) (λe=>?_)
 ·simp only[WC,WX,j0,d8,gZ,gS,oI,eL]
  refine h.Fu N (aV N k ht (by omega) ?_)
  simp only[vi,Bx]
  have:(!decide ((t.hd.sort:Int)=3))=decide (t.hd.sort≠3):=by rw[←decide_not,decide_eq_decide]; omega
  rw[this]; exact q
 ·refine i5 ?_
  simp only[WX,i4]
  have:plain Ts t=false:=by simp at e; simp[plain,e]
  rw[this] at q; exact q
 have e3:t.hd.sort=3:=by simpa using e
 refine i6 ?_
 simp only[WX,j0,d8,gZ,gS,oI,eL]
 refine Qf N k h ht (by omega) ?_
 refine i5 ?_
 simp only[WX,iB,b6,d8,gZ,gS,oI,eL,if_true,i4]
 unfold plain at q
 cases hh:D9 Ts t.hd.l9 with
 | none =>
  rw[hh] at q
  simp only[Yi,G6,IS,z2,true_and]
  simpa[e3] using q
 | some i =>
  rw[hh] at q
  simp only[Yi,G6,IS,z2,true_and,Bool.false_eq_true,if_false]
  refine(h.Me hh).bF N ?_
  simp only[vi,EQ,Kj,V.nb,V.hk]
  refine⟨.inl ⟨trivial,trivial,trivial,trivial⟩,?_⟩
  have:(!decide (V.int (i.sort:Int)=V.int 5))=(i.sort != 5):=by
   rw[Bool.eq_iff_iff]; simp; omega
  rw[this]
  simpa[e3] using q
end
def keeps(f:P4):Bool:=(f.flags == 0 || f.flags == 2) && (f.kind.hd.sort == 3 || f.kind.hd.sort == 6)
def E5(Fs:List P4) (i:Nat):List Tm:=match Fs[i - 1]? with
 | some f=>if keeps f=true then [f.kind] else []
 | none=>[]
def u9(t:Tm):List Tm:=if t.hd.isNamed=true then t.kids else []
def L0(Ts:List G2) (Fs:List P4) (k:Tm):List Tm:=match D9 Ts k.hd.l9 with
 | none=>[]
 | some ti=>ti.v8.flatMap (E5 Fs)
def held(Ts:List G2) (Fs:List P4) (k:Tm):List Tm:=((L0 Ts Fs k).map (Tm.sub (u9 k))).filter (plain Ts)
def Az(Ts:List G2) (k:Tm):Nat:=match D9 Ts k.hd.l9 with
 | none=>0
 | some ti=>20 * ti.v8.length
section
variable {c:Cx}{n:Nat}{O:a7}{K:I8}{T:List Tm}{Q:V→a7→Prop}{E:a7→Prop}{H:Hg}{Ts:List G2}{Fs:List P4}
theorem Xe(h:j5 K T O){t:Tm}(ht:t∈T):∀x∈u9 t,x∈T∧x.stands=true:=by
 intro x hx
 unfold u9 at hx
 split at hx
 ·exact⟨h.tab.kids t ht x hx,(X9 (h.tab.ok t ht) x hx).2⟩
 ·cases hx
theorem Sr(t:Tm):(u9 t).length≤1000:=by
 unfold u9
 split
 ·have:=v9 t; omega
 ·simp
theorem fN(N:j7 c) (h:j5 K T O){t:Tm}(ht:t∈T){n:Nat}(hn:2≤n) (q:Q (.tup ((u9 t).map λa=>vi (T.idxOf a))) O):l8 c n (.fix (.ref 216)) [.ref K.a,vi (T.idxOf t)] O Q E:=by
 refine aW N h ht hn ?_
 unfold u9 at q
 split at q<;>rename_i e
 ·rw[if_pos e]; exact q
 ·rw[if_neg e]; exact q
theorem Xf:∀f:Nat,f∈([0,1,2,5]:List Nat)→decide (Builtin.bitAnd (f:Int) (Builtin.bitOr 1 4)≠0)=!(f == 0 || f == 2):=by
 intro f hf
 simp only[List.mem_cons,List.not_mem_nil,or_false] at hf
 rcases hf with rfl | rfl | rfl | rfl<;>decide +kernel
theorem bI(N:j7 c) (k0:j5 K T O) (h0:G8 H K T Ts Fs O){k:Tm}(hk:k∈T) (hz:T.length+Az Ts k < 100000){n:Nat}(hn:40≤n)
  (q1:(∀f∈L0 Ts Fs k,Fits (f.sub (u9 k)))→∀T' b7 r,Gr T T' (Az Ts k)→j5 K T' b7→G8 H K T' Ts Fs b7→b8 K.F O b7→O r=none→b7 r=some (.list ((held Ts Fs k).map λt=>vi (T'.idxOf t)))→(∀x∈held Ts Fs k,x∈T')→Q (.ref r) b7)
  (q2:(∃f∈L0 Ts Fs k,¬Fits (f.sub (u9 k)))→∀T' b7,Gr T T' (Az Ts k)→j5 K T' b7→G8 H K T' Ts Fs b7→b8 K.F O b7→E b7):l8 c n (.fix (.ref 384)) [.ref H.st,vi (T.idxOf k)] O Q E:=by
 obtain⟨n,rfl⟩:∃m,n=m+1:=⟨n - 1,by omega⟩
 refine N.fn N.C.value_fields rfl rfl ?_
 refine i6 ?_
 simp only[WX,j0]
 intro r hr
 have sr:b8 (λ_=>False) O (i8 O r (.list [])):=b8.new hr
 have k1:=k0.same sr
 have h1:G8 H K T Ts Fs (i8 O r (.list [])):=h0.grow (.refl _ 0) (sr.mono λ_ h=>h.elim) k0.plain
 have pP:¬K.F r:=λh=>by rcases k0.plain r h with⟨l,e⟩ | ⟨l,e⟩<;>rw[hr] at e<;>cases e
 refine i6 ?_
 simp only[WX,j0,b6,d8,gZ,gS,oI,eL,show((0:Nat)=2)=False by simp,show((1:Nat)=2)=False by simp,if_false]
 refine Qf N k1 h1 hk (by omega) ?_
 have fO:∀o:Option G2,G6 c .Is (Yi o) .none=fun(_:a7) R=>R o.isNone:=by
  intro o; funext O R; cases o<;>simp[Yi,G6,IS]
 refine l0 (D9 Ts k.hd.l9).isNone (λR E q=>?_) (λe=>?_) (λe=>?_)
 ·simp only[WC,WX,b6,oI,eL,if_true,fO]
  exact q
 ·have e':D9 Ts k.hd.l9=none:=by simpa using e
  have eh:L0 Ts Fs k=[]:=by simp[L0,e']
  have zY:held Ts Fs k=[]:=by simp[held,eh]
  refine i5 ?_
  simp only[WX,b6,oI,eL,if_true,show((2:Nat)=3)=False by simp,if_false,i4]
  exact q1 (by simp[eh]) T _ r (.refl _ _) k1 h1 (sr.mono λ_ h=>h.elim) hr (by rw[zY,b9]; rfl) (by simp[zY])
 obtain⟨ti,eE⟩:∃ti,D9 Ts k.hd.l9=some ti:=by
  cases q:D9 Ts k.hd.l9 with
  | none=>rw[q] at e; cases e
  | some ti=>exact⟨ti,rfl⟩
 have zZ:L0 Ts Fs k=ti.v8.flatMap (E5 Fs):=by simp[L0,eE]
 have ehN:Az Ts k=20 * ti.v8.length:=by simp[Az,eE]
 rw[ehN] at q1 q2 hz
 have Qg:ti∈Ts:=by
  unfold D9 at eE
  split at eE
  ·cases eE
  ·exact List.mem_of_getElem? eE
 have hty:=h1.Me eE
 refine D0 ?_
 simp only[WX,j0,b6,eE,Yi,oI,eL,if_true]
 refine hty.P5 N ?_
 have vN:∀b7:a7,G8 H K T Ts Fs b7→u6 (.ref ti.fa) b7 (ti.v8.map vi):=λb7 h=>by
  have:=(h.Me eE).2.2.2
  simp[u6,this]
 refine⟨ti.v8.map vi,vN _ h1,by have:=(h1.few.2.2 ti Qg).1; simp; omega,?_⟩
 have ha:=Xe k0 hk
 refine s9 (λdone left Z b7=>Z 0=some (.ref H.st)∧Z 1=some (vi (T.idxOf k))∧Z 2=some (.ref r)∧Z 3=some (.ref ti.o) ∧
   ∃(dk lk:List Nat) (T1:List Tm),ti.v8=dk++lk∧left=lk.map vi∧Gr T T1 (20 * dk.length)∧j5 K T1 b7∧G8 H K T1 Ts Fs b7∧b8 K.F O b7 ∧
   (∀f∈dk.flatMap (E5 Fs),Fits (f.sub (u9 k)))∧(∀x∈((dk.flatMap (E5 Fs)).map (Tm.sub (u9 k))).filter (plain Ts),x∈T1) ∧
   b7 r=some (.list ((((dk.flatMap (E5 Fs)).map (Tm.sub (u9 k))).filter (plain Ts)).map λt=>vi (T1.idxOf t))))
  (λ_ _ _=>False) (λ_ _ _ b7 hI=>?_) ?_ _ [] _ _ _ ⟨rfl,rfl,rfl,rfl,[],ti.v8,T,rfl,rfl,.refl _ _,k1,h1,sr.mono λ_ h=>h.elim,by simp,by simp,by simp⟩ ?_ (λ_ _ _ h=>h.elim)
 ·obtain⟨_,_,_,_,_,_,T1,_,_,_,_,h,_⟩:=hI
  have:=(h.Me eE).2.2.2
  simp[u6,this]
 ·rintro done x left Z b7 R ⟨r0,r1,r2,r3,dk,lk,T1,ek,el,g1,k1,h1,s1,hfit,hmem,hlist⟩ hnext hcont _
  cases lk with
  | nil=>simp at el
  | cons i lk =>
   simp only[List.map_cons,List.cons.injEq] at el
   obtain⟨rfl,rfl⟩:=el
   obtain⟨j,rfl,hj⟩:=h1.W4 ti Qg i (by rw[ek]; simp)
   have hlen:dk.length+(lk.length+1)=ti.v8.length:=by rw[ek]; simp
   obtain⟨f,hf⟩:∃f,Fs[j]?=some f:=⟨Fs[j],List.getElem?_eq_getElem hj⟩
   have hfm:f∈Fs:=List.mem_of_getElem? hf
   have hfd:=h1.fds f hfm
   have pQ:E5 Fs (j+1)=if keeps f=true then [f.kind] else []:=by simp[E5,hf]
   have fP:k∈T1:=g1.mem hk
   simp only[J7]
   refine i6 ?_
   simp only[WX,b6,r0,oI,eL,if_true,show((0:Nat)=4)=False by simp,if_false]
   refine h1.P5 N ?_
   rw[C9 (v:=.ref f.o) h1.fields (by have:=h1.few.2.1; omega) (by simp[hf])]
   have nx:∀T2 t8 (i7:Loc),Gr T1 T2 20→j5 K T2 t8→G8 H K T2 Ts Fs t8→b8 K.F O t8→i7 0=some (.ref H.st)→i7 1=some (vi (T.idxOf k))→i7 2=some (.ref r)→i7 3=some (.ref ti.o)→(∀f∈E5 Fs (j+1),Fits (f.sub (u9 k))) →
     (∀x∈((E5 Fs (j+1)).map (Tm.sub (u9 k))).filter (plain Ts),x∈T2) →
     t8 r=some (.list ((((dk.flatMap (E5 Fs)).map (Tm.sub (u9 k))).filter (plain Ts)).map (λt=>vi (T1.idxOf t))++(((E5 Fs (j+1)).map (Tm.sub (u9 k))).filter (plain Ts)).map λt=>vi (T2.idxOf t))) →
     (∃(dk lk':List Nat) (T1:List Tm),ti.v8=dk++lk'∧lk.map vi=lk'.map vi∧Gr T T1 (20 * dk.length)∧j5 K T1 t8∧G8 H K T1 Ts Fs t8∧b8 K.F O t8 ∧
   (∀f∈dk.flatMap (E5 Fs),Fits (f.sub (u9 k)))∧(∀x∈((dk.flatMap (E5 Fs)).map (Tm.sub (u9 k))).filter (plain Ts),x∈T1) ∧
   t8 r=some (.list ((((dk.flatMap (E5 Fs)).map (Tm.sub (u9 k))).filter (plain Ts)).map λt=>vi (T1.idxOf t)))):=by
    intro T2 t8 i7 g2 k2 h2 s2 _ _ _ _ pR hmem2 hl2
    refine⟨dk++[j+1],lk,T2,by simp[ek],rfl,?_,k2,h2,s2,?_,?_,?_⟩
    ·have:=g1.trans g2
     exact this.mono (by simp; omega)
    ·intro y hy
     simp only[List.flatMap_append,List.flatMap_cons,List.flatMap_nil,List.append_nil,List.mem_append] at hy
     rcases hy with hy | hy
     ·exact hfit y hy
     ·exact pR y hy
    ·intro y hy
     simp only[List.flatMap_append,List.flatMap_cons,List.flatMap_nil,List.append_nil,List.map_append,List.filter_append,List.mem_append] at hy
     rcases hy with hy | hy
     ·exact g2.mem (hmem y hy)
     ·exact hmem2 y hy
    ·rw[hl2]
     simp only[List.flatMap_append,List.flatMap_cons,List.flatMap_nil,List.append_nil,List.map_append,List.filter_append]
     congr 3
     exact(Ft g2 hmem).symm
   refine l0 (!keeps f) (λR E q=>?_) (λe=>?_) (λe=>?_)
   ·simp only[WC,K6,WX,j0,b6,r0,oI,eL,if_true,show((0:Nat)=4)=False by simp,show((0:Nat)=5)=False by simp,if_false]
    refine hfd.fL N ?_
    simp only[vi,Hf,z2]
    rw[Xf f.flags (h1.flags f hfm)]
    by_cases e:(f.flags == 0 || f.flags == 2)=true
    ·rw[e,if_neg (by simp)]
     refine h1.Fu N (hfd.bH N (aV N k1 hfd.2.2 (by omega) ?_))
     simp only[vi,G6,IN]
     refine⟨by simp[V.hk],by simp[V.hk],?_⟩
     have:∀inst:Decidable (V.int (f.kind.hd.sort:Int)∈[V.int 3,V.int 6]),(!@decide _ inst)=!keeps f:=by
      intro inst
      congr 1
      rw[Bool.eq_iff_iff,decide_eq_true_eq]
      simp only[keeps,e,Bool.true_and,Bool.or_eq_true,beq_iff_eq,List.mem_cons,V.int.injEq,List.not_mem_nil,or_false]
      omega
     refine(congrArg (λb=>if b=true then R true b7 else R false b7) (this _)).mpr ?_
     revert q
     cases !keeps f<;>exact λq=>q
    ·have e':(f.flags == 0 || f.flags == 2)=false:=by simpa using e
     rw[e',if_pos (by simp)]
     have:(!keeps f)=true:=by simp[keeps,e']
     rw[this] at q; exact q
   ·have ek':keeps f=false:=by simpa using e
    refine aQ ?_
    have er:E5 Fs (j+1)=[]:=by rw[pQ,ek']; rfl
    refine hcont _ _ ⟨by simp[b6,r0],by simp[b6,r1],by simp[b6,r2],by simp[b6,r3],nx T1 b7 (b6 Z 4 (vi (j+1))) (.refl _ _) k1 h1 s1 (by simp[b6,r0]) (by simp[b6,r1]) (by simp[b6,r2]) (by simp[b6,r3]) (by simp[er]) (by simp[er]) (by simp[er,hlist])⟩
   have ek':keeps f=true:=by simpa using e
   have er:E5 Fs (j+1)=[f.kind]:=by rw[pQ,ek']; rfl
   refine i6 ?_
   simp only[WX,j0,b6,r0,r1,oI,eL,if_true,show((0:Nat)=4)=False by simp,show((0:Nat)=5)=False by simp,show((1:Nat)=4)=False by simp,show((1:Nat)=5)=False by simp,if_false]
   refine h1.Fu N (hfd.bH N (h1.Fu N ?_))
   rw[←g1.idx hk]
   refine fN N k1 fP (by omega) ?_
   have a3g:=h1.light f hfm
   refine fK N (Sr k) k1 hfd.2.2 (λx hx=>⟨g1.mem (ha x hx).1,(ha x hx).2⟩) (by have:=g1.2; omega) (by omega) (λhF T2 t8 g2 k2 hm2 s2=>?_) (λhF T2 t8 g2 k2 s2=>?_)
   ·have h2:=h1.grow g2 s2 k1.plain
    have s12:=s1.trans s2
    have hl2:t8 r=some (.list ((((dk.flatMap (E5 Fs)).map (Tm.sub (u9 k))).filter (plain Ts)).map λt=>vi (T1.idxOf t))):=s2 _ _ pP hlist
    refine l0 (plain Ts (f.kind.sub (u9 k))) (λR E q=>?_) (λe=>?_) (λe=>?_)
    ·simp only[WC,WX,j0,b6,r0,oI,eL,if_true,show((0:Nat)=4)=False by simp,show((0:Nat)=5)=False by simp,show((0:Nat)=6)=False by simp,if_false]
     exact fM N k2 h2 hm2 (by omega) q
    ·refine z6 ?_
     simp only[WX,j0,b6,r2,oI,eL,if_true,show((2:Nat)=4)=False by simp,show((2:Nat)=5)=False by simp,show((2:Nat)=6)=False by simp,if_false]
     refine⟨_,.inl ⟨_,_,rfl,hl2,.inl ⟨rfl,rfl⟩⟩,?_⟩
     have hlz:(((dk.flatMap (E5 Fs)).map (Tm.sub (u9 k))).filter (plain Ts)).length≤1000000:=by
      have a1:(((dk.flatMap (E5 Fs)).map (Tm.sub (u9 k))).filter (plain Ts)).length≤((dk.flatMap (E5 Fs)).map (Tm.sub (u9 k))).length:=List.length_filter_le ..
      have a2:∀l:List Nat,(l.flatMap (E5 Fs)).length≤l.length:=by
       intro l
       induction l with
       | nil=>simp
       | cons y l ih =>
        have:(E5 Fs y).length≤1:=by unfold E5; split; split<;>simp; simp
        simp only[List.flatMap_cons,List.length_append,List.length_cons]; omega
      have:=a2 dk
      have:=(h1.few.2.2 ti Qg).1
      simp only[List.length_map] at a1; omega
     refine v3 hl2 (by simpa using hlz) ?_
     have n3:∀b,b≠r→i8 t8 r (.list (((((dk.flatMap (E5 Fs)).map (Tm.sub (u9 k))).filter (plain Ts)).map λt=>vi (T1.idxOf t))++[vi (T2.idxOf (f.kind.sub (u9 k)))])) b=t8 b:=λb hb=>i9 hb
     generalize hs3:i8 t8 r (.list (((((dk.flatMap (E5 Fs)).map (Tm.sub (u9 k))).filter (plain Ts)).map λt=>vi (T1.idxOf t))++[vi (T2.idxOf (f.kind.sub (u9 k)))]))=A4 at n3
     have e3:A4 r=some (.list (((((dk.flatMap (E5 Fs)).map (Tm.sub (u9 k))).filter (plain Ts)).map λt=>vi (T1.idxOf t))++[vi (T2.idxOf (f.kind.sub (u9 k)))])):=by rw[←hs3,b9]
     have s3:b8 K.F O A4:=λb o hb eb=>by
      rw[n3 b (fresh_ne hr eb)]; exact s12 b o hb eb
     have hk3:j5 K T2 A4:=k2.keep (F:=(·=r)) (b8.of n3 rfl) (λb hb=>by subst hb; exact pP) (λb hb=>by subst hb; exact .inl ⟨_,hl2⟩)
     have h3:G8 H K T2 Ts Fs A4:=h0.grow (g1.trans g2) s3 k0.plain
     refine o7 (hnext _ _ ⟨by simp[b6,r0],by simp[b6,r1],by simp[b6,r2],by simp[b6,r3],nx T2 A4 (b6 Z 4 (vi (j+1))) (g2.mono (by omega)) hk3 h3 s3 (by simp[b6,r0]) (by simp[b6,r1]) (by simp[b6,r2]) (by simp[b6,r3]) (by simpa[er] using hF) (by simp[er,e,hm2]) (by simp[er,e,e3])⟩)
    ·refine o7 (hnext _ _ ⟨by simp[b6,r0],by simp[b6,r1],by simp[b6,r2],by simp[b6,r3],nx T2 t8 (b6 Z 4 (vi (j+1))) (g2.mono (by omega)) k2 h2 s12 (by simp[b6,r0]) (by simp[b6,r1]) (by simp[b6,r2]) (by simp[b6,r3]) (by simpa[er] using hF) (by simp[er,e]) (by simp[er,e,hl2])⟩)
   ·refine q2 ⟨f.kind,?_,hF⟩ T2 t8 ((g1.trans g2).mono (by omega)) k2 (h1.grow g2 s2 k1.plain) (s1.trans s2)
    rw[zZ,ek]
    simp[er]
 ·rintro Z b7 ⟨r0,r1,r2,r3,dk,lk,T1,ek,el,g1,k1,h1,s1,hfit,hmem,hlist⟩
  have:lk=[]:=by cases lk<;>simp at el ⊢
  subst this
  rw[List.append_nil] at ek
  rw[←ek] at hfit hmem hlist g1
  rw[←zZ] at hfit hmem hlist
  refine i5 ?_
  simp only[WX,r2,oI,eL,i4]
  exact q1 hfit T1 b7 r g1 k1 h1 s1 hr hlist hmem
noncomputable def z1(Ts:List G2) (Fs:List P4) (k:Tm):List Tm:=if ∀f∈L0 Ts Fs k,Fits (f.sub (u9 k)) then held Ts Fs k else []
theorem Ss(N:j7 c){d:Addr}(k0:j5 K T O) (y0:Ng d H.st K O) (h0:G8 H K T Ts Fs O){k:Tm}(hk:k∈T) (hz:T.length+Az Ts k < 100000){n:Nat}(hn:42≤n)
  (q:∀T' b7 r,Gr T T' (Az Ts k)→j5 K T' b7→Ng d H.st K b7→G8 H K T' Ts Fs b7→b8 K.F O b7→O r=none→b7 r=some (.list ((z1 Ts Fs k).map λt=>vi (T'.idxOf t)))→(∀x∈z1 Ts Fs k,x∈T')→Q (.ref r) b7) :
  l8 c n (.fix (.ref 405)) [.ref d,vi (T.idxOf k)] O Q E:=by
 obtain⟨n,rfl⟩:∃m,n=m+1:=⟨n - 1,by omega⟩
 refine N.fn N.C.decl_held rfl rfl ?_
 simp only[As,o9,WS,WX,j0,d8,gZ,gS,oI,eL,i4]
 refine y0.store N ?_
 refine bI N k0 h0 hk hz (by omega) (λhF T' b7 r g k' h' s hr hl hm=>?_) (λhF T' b7 g k' h' s r hr=>?_)
 ·have e:z1 Ts Fs k=held Ts Fs k:=if_pos hF
  rw[←e] at hl hm
  exact q T' b7 r g k' (y0.same s k0.plain) h' s hr hl hm
 ·have e:z1 Ts Fs k=[]:=if_neg (by obtain⟨f,h1,h2⟩:=hF; exact λh=>h2 (h f h1))
  have sr:b8 (λ_=>False) b7 (i8 b7 r (.list [])):=b8.new hr
  have s2:b8 K.F O (i8 b7 r (.list [])):=s.trans (sr.mono λ_ h=>h.elim)
  have hr0:O r=none:=by
   cases q:O r with
   | none=>rfl
   | some o =>
    by_cases hF:K.F r
    ·rcases k'.plain r hF with⟨l,e⟩ | ⟨l,e⟩<;>rw[hr] at e<;>cases e
    ·have:=s r o hF q
     rw[hr] at this; cases this
  exact q T' _ r g (k'.same sr) (y0.same s2 k0.plain) (h0.grow g s2 k0.plain) s2 hr0 (by rw[b9,e]; rfl) (by simp[e])
end
end Mine
end
section
open PySem PySem.W PyProof.Rows PySem.Calls
set_option Elab.async false
set_option maxRecDepth 20000
namespace Mine
open Classical
section
variable {c:Cx}{n:Nat}{O:a7}{K:I8}{T:List Tm}{Q:V→a7→Prop}{E:a7→Prop}{H:Hg}{Ts:List G2}{Fs:List P4}
def m0(tid:Nat):Tm:=.un (.val tid) (.leaf (.var 0))
theorem Sv(N:j7 c) (k0:j5 K T O) (h0:G8 H K T Ts Fs O){tid:Nat}{ti:G2}(e:D9 Ts tid=some ti) (hs:ti.sort=2) (hb:tid < 64+Ts.length){t:Tm}(et:t.hd=.val tid) (ht:t.ok=true) (hk:∀a∈t.kids,a∈T) (hz:T.length < 100000){n:Nat}(hn:8≤n) (q:Yl K T t 1 O Q E) :
  l8 c n (.fix (.ref 370)) [.ref H.st,vi tid,.tup (t.kids.map λa=>vi (T.idxOf a))] O Q E:=by
 obtain⟨n,rfl⟩:∃m,n=m+1:=⟨n - 1,by omega⟩
 have hty:=h0.Me e
 refine N.fn N.C.kind_with rfl rfl ?_
 refine i6 ?_
 simp only[WX,d8,gZ,gS,oI,eL]
 refine h0.N3 N ?_
 rw[h0.Fv hb,e]
 refine hty.bF N ?_
 refine K0 [2,5] (v:=ti.sort) (by simp[b6,vi]) (λ_=>?_) (λe=>?_)
 ·refine i5 ?_
  simp only[WX,j0,b6,d8,gZ,gS,oI,eL,show((0:Nat)=3)=False by simp,show((1:Nat)=3)=False by simp,show((2:Nat)=3)=False by simp,if_false,i4]
  exact h0.Fu N (Us N k0 et ht hk hz (by omega) q)
 ·rw[hs] at e; simp at e
theorem Sw(N:j7 c) (k0:j5 K T O) (h0:G8 H K T Ts Fs O){tid:Nat}{ti:G2}(e:D9 Ts tid=some ti) (hs:ti.sort=2) (hnp:ti.np=1) (hb:tid < 64+Ts.length) (h64:64≤tid) (hz:T.length < 99990){n:Nat}(hn:10≤n)
  (q:∀T' b7,Gr T T' 2→j5 K T' b7→G8 H K T' Ts Fs b7→b8 K.F O b7→m0 tid∈T'→Q (vi (T'.idxOf (m0 tid))) b7) :
  l8 c n (.fix (.ref 363)) [.ref H.st,vi tid] O Q E:=by
 obtain⟨n,rfl⟩:∃m,n=m+1:=⟨n - 1,by omega⟩
 have hnt:(A6.find? λp=>decide (p.1=(tid:Int)))=none:=by
  simp only[A6,List.find?_eq_none,decide_eq_true_eq]
  intro p hp
  simp only[List.mem_cons,List.not_mem_nil,or_false] at hp
  rcases hp with rfl | rfl | rfl | rfl | rfl | rfl | rfl | rfl | rfl | rfl | rfl | rfl | rfl | rfl<;>simp<;>omega
 have hty:=h0.Me e
 obtain⟨pl,hp1,hp2⟩:=hty.2.2.1
 refine N.fn N.C.self_kind rfl rfl ?_
 refine l0 false (λR E q=>?_) (λe=>by cases e) (λ_=>?_)
 ·simp only[WC,WX,d8,gZ,gS,oI,eL,vi,G6,IN]
  exact⟨A6,N.A6,by rw[hnt]; exact q⟩
 refine i6 ?_
 simp only[WX,d8,gZ,gS,oI,eL]
 refine h0.N3 N ?_
 rw[h0.Fv hb,e]
 refine i6 ?_
 simp only[WX,j0]
 intro r hr
 have sr:b8 (λ_=>False) O (i8 O r (.list [])):=b8.new hr
 have k1:=k0.same sr
 have h1:G8 H K T Ts Fs (i8 O r (.list [])):=h0.grow (.refl _ 0) (sr.mono λ_ h=>h.elim) k0.plain
 have pP:¬K.F r:=λh=>by rcases k0.plain r h with⟨l,e⟩ | ⟨l,e⟩<;>rw[hr] at e<;>cases e
 refine D0 ?_
 simp only[WX,j0,b6,oI,eL,if_true,show((2:Nat)=3)=False by simp,if_false,Yi]
 refine(h1.Me e).bG N (A3 (sr _ _ id hp1) (by rw[hp2,hnp]; omega) (K8 ?_))
 rw[hp2,hnp]
 refine⟨[vi 0],w7 1 (by omega),by simp,?_⟩
 simp only[Kk,J7]
 refine⟨w7 1 (by omega),?_⟩
 refine z6 ?_
 simp only[WX,j0,b6,d8,gZ,gS,oI,eL,if_true,show((0:Nat)=4)=False by simp,show((0:Nat)=3)=False by simp,show((0:Nat)=2)=False by simp,show((3:Nat)=4)=False by simp,if_false]
 refine⟨_,.inl ⟨_,_,rfl,b9 _ _ _,.inl ⟨rfl,rfl⟩⟩,?_⟩
 refine h1.Fu N (Mb N k1 (by omega) (by omega) ⟨λ_ T1 t9 g1 k1' s1 hm1=>?_,λh=>by simp[Tm.depth,Tm.weight] at h⟩)
 have hl1:t9 r=some (.list []):=s1 _ _ pP (b9 _ _ _)
 refine v3 hl1 (by simp) ?_
 have n2:∀b,b≠r→i8 t9 r (.list ([]++[vi (T1.idxOf (.leaf (.var 0)))])) b=t9 b:=λb hb=>i9 hb
 generalize hs2:i8 t9 r (.list ([]++[vi (T1.idxOf (.leaf (.var 0)))]))=t8 at n2
 have e2:t8 r=some (.list [vi (T1.idxOf (.leaf (.var 0)))]):=by rw[←hs2,b9]; rfl
 have k2:j5 K T1 t8:=k1'.keep (F:=(·=r)) (b8.of n2 rfl) (λb hb=>by subst hb; exact pP) (λb hb=>by subst hb; exact .inl ⟨_,hl1⟩)
 have s2:b8 K.F O t8:=λb o hb eb=>by
  rw[n2 b (fresh_ne hr eb)]; exact s1 b o hb (sr b o id eb)
 have h2:G8 H K T1 Ts Fs t8:=h0.grow g1 s2 k0.plain
 refine o7 ?_
 simp only[]
 refine⟨w7 1 (by omega),?_⟩
 refine i5 ?_
 simp only[WX,j0,b6,d8,gZ,gS,oI,eL,if_true,show((0:Nat)=4)=False by simp,show((0:Nat)=3)=False by simp,show((0:Nat)=2)=False by simp,show((1:Nat)=4)=False by simp,show((1:Nat)=3)=False by simp,show((1:Nat)=2)=False by simp,show((3:Nat)=4)=False by simp,if_false]
 refine Ak e2 (by simp) ?_
 have hok:(m0 tid).ok=true:=by
  simp[m0,Tm.ok,Hd.fit,Tm.stands,Tm.hd,hnt]; omega
 refine Sv N k2 h2 e hs hb (t:=m0 tid) rfl hok (by intro a ha; simp[m0,Tm.kids] at ha; subst ha; exact hm1) (by have:=g1.2; omega) (by omega) ⟨λ_ T3 A4 g3 k3 s3 iU=>?_,λh=>by simp[m0,Tm.depth,Tm.weight,Hd.Aw] at h⟩
 simp only[i4]
 exact q T3 A4 (g1.trans g3) k3 (h2.grow g3 s3 k2.plain) (s2.trans s3) iU
noncomputable def G3(Ts:List G2) (Fs:List P4) (tid:Nat):Nat→List Tm→Bd→Option Bool
 | 0,_,_=>none
 | n+1,todo,met=>match todo.getLast? with
  | none=>some false
  | some k=>if 1000≤met.length then some false else
   if k.hd.l9=tid then some true else
   if (f6 met k).isSome then G3 Ts Fs tid n todo.dropLast met else G3 Ts Fs tid n (todo.dropLast++z1 Ts Fs k) (met++[(k,k)])
theorem last_eq{l:List Tm}{k:Tm}(h:l.getLast?=some k):l=l.dropLast++[k]:=by
 have hne:l≠[]:=by rintro rfl; cases h
 rw[List.getLast?_eq_some_getLast hne] at h
 cases h
 exact(List.dropLast_concat_getLast hne).symm
theorem Ca{Ts:List G2}{Fs:List P4}(hN:∀t∈Ts,t.v8.length≤3) (k:Tm):(z1 Ts Fs k).length≤3:=by
 have a2:∀l:List Nat,(l.flatMap (E5 Fs)).length≤l.length:=by
  intro l
  induction l with
  | nil=>simp
  | cons y l ih =>
   have:(E5 Fs y).length≤1:=by unfold E5; split; split<;>simp; simp
   simp only[List.flatMap_cons,List.length_append,List.length_cons]; omega
 unfold z1
 split
 ·unfold held L0
  have:=List.length_filter_le (plain Ts) ((match D9 Ts k.hd.l9 with
   | none=>[]
   | some ti=>ti.v8.flatMap (E5 Fs)).map (Tm.sub (u9 k)))
  refine Nat.le_trans this ?_
  rw[List.length_map]
  split
  ·simp
  ·rename_i ti e
   have hm:ti∈Ts:=by
    unfold D9 at e
    split at e
    ·cases e
    ·exact List.mem_of_getElem? e
   exact Nat.le_trans (a2 _) (hN ti hm)
 ·simp
theorem Fw{Ts:List G2}(hN:∀t∈Ts,t.v8.length≤3) (k:Tm):Az Ts k≤60:=by
 unfold Az
 split
 ·omega
 ·rename_i ti e
  have hm:ti∈Ts:=by
   unfold D9 at e
   split at e
   ·cases e
   ·exact List.mem_of_getElem? e
  have:=hN ti hm; omega
theorem fQ(N:j7 c){d:Addr}(hN:∀t∈Ts,t.v8.length≤3) (k0:j5 K T O) (y0:Ng d H.st K O) (h0:G8 H K T Ts Fs O){tid:Nat}{ti:G2}(e:D9 Ts tid=some ti) (hs:ti.sort=2) (hnp:ti.np=1) (hb:tid < 64+Ts.length) (h64:64≤tid) (hz:T.length < 39000){n:Nat}(hn:50≤n)
  {m:Nat}{r:Bool}(hl:G3 Ts Fs tid m (z1 Ts Fs (m0 tid)) []=some r)
  (q:∀T' b7,Gr T T' 61000→j5 K T' b7→b8 K.F O b7→Q (.bool r) b7) :
  l8 c n (.fix (.ref 398)) [.ref d,.ref ti.o] O Q E:=by
 obtain⟨n,rfl⟩:∃m,n=m+1:=⟨n - 1,by omega⟩
 have hty:=h0.Me e
 refine N.fn N.C.decl_holds_itself rfl rfl ?_
 refine i6 ?_
 simp only[WX,j0,d8,gZ,gS,oI,eL]
 refine y0.store N (hty.iT N ?_)
 refine Sw N k0 h0 e hs hnp hb h64 (by omega) (by omega) λT1 t9 g1 k1 h1 s1 hm1=>?_
 have y1:=y0.same s1 k0.plain
 have hN1:=Fw hN (m0 tid)
 refine Ss N k1 y1 h1 hm1 (by have:=g1.2; omega) (by omega) λT2 t8 td g2 k2 y2 h2 s2 htd hl2 hm2=>?_
 have Mf:O td=none:=by
  cases q:O td with
  | none=>rfl
  | some o =>
   by_cases hF:K.F td
   ·rcases k1.plain td hF with⟨l,e⟩ | ⟨l,e⟩<;>rw[htd] at e<;>cases e
   ·have:=s1 td o hF q
    rw[htd] at this; cases this
 have kO:¬K.F td:=λh=>by rcases k0.plain td h with⟨l,e⟩ | ⟨l,e⟩<;>rw[Mf] at e<;>cases e
 refine i6 ?_
 simp only[WX,j0]
 intro mt hmt
 refine⟨b9 _ _ _,.inl (by simp[z0]),?_⟩
 have e0:i8 (i8 t8 mt (.dict [])) mt (.dict (G0 [] (z0 [])))=i8 t8 mt (.dict []):=by
  funext b; by_cases hb:b=mt<;>simp[i8,hb,z0,G0]
 rw[e0]
 have s3:b8 (λ_=>False) t8 (i8 t8 mt (.dict [])):=b8.new hmt
 have bJ:¬K.F mt:=λh=>by rcases k2.plain mt h with⟨l,e⟩ | ⟨l,e⟩<;>rw[hmt] at e<;>cases e
 have kP:O mt=none:=by
  cases q:O mt with
  | none=>rfl
  | some o =>
   have:=s2 mt o bJ (s1 mt o bJ q)
   rw[hmt] at this; cases this
 have hne:td≠mt:=by rintro rfl; rw[hl2] at hmt; cases hmt
 have a3i:mt≠K.i:=λh=>bJ (.inr (.inl h))
 refine Pv (λm i7 b7=>i7 0=some (.ref d)∧i7 1=some (.ref ti.o)∧i7 2=some (.ref td)∧i7 3=some (.ref mt)∧∃(todo:List Tm) (met:Bd) (T':List Tm),G3 Ts Fs tid m todo met=some r∧Gr T T' (62+60 * met.length)∧met.length≤1000∧todo.length≤3+3 * met.length ∧
   j5 K T' b7∧Ng d H.st K b7∧G8 H K T' Ts Fs b7∧b8 K.F O b7∧(∀x∈todo,x∈T')∧(∀p∈met,p.1∈T'∧p.2∈T')∧b7 td=some (.list (todo.map λt=>vi (T'.idxOf t)))∧D7 (λt=>vi (T'.idxOf t)) (λ_=>.int 1) met mt b7) (k:=m)
  ⟨rfl,rfl,rfl,rfl,z1 Ts Fs (m0 tid),[],T2,hl,(g1.trans g2).mono (by simp; omega),by simp,by have:=Ca (Fs:=Fs) hN (m0 tid); simpa using this,k2.same s3,y2.same s3 .none,h2.grow (.refl _ 0) (s3.mono λ_ h=>h.elim) k2.plain,(s1.trans s2).trans (s3.mono λ_ h=>h.elim),hm2,by simp,s3 _ _ id hl2,by unfold D7; simp⟩ ?_
 rintro m i7 b7 ⟨r0,r1,r2,r3,todo,met,T',hlp,g',mR,htz,k',y',h',s',kQ,Jw,Mg,pS⟩
 cases m with
 | zero=>cases hlp
 | succ m =>
  unfold G3 at hlp
  have hfin:r=false→∀(b:Bool) (d0:a7),d0=b7→b=false→o9 c n [.ret (.con (.bool false))] i7 d0 (i4 Q) E:=by
   rintro rfl b d0 rfl rfl
   refine i5 ?_
   simp only[WX,i4]
   exact q T' d0 (g'.mono (by omega)) k' s'
  simp only[WC,M5,WX,j0,r2,r3,oI,eL,z2,Mg]
  refine⟨by simp; omega,?_⟩
  cases hla:todo.getLast? with
  | none =>
   rw[hla] at hlp
   have:todo=[]:=List.getLast?_eq_none_iff.mp hla
   subst this
   rw[if_neg (by simp)]
   exact⟨λe=>by simp at e,λ_=>hfin (by simpa using hlp.symm) _ _ rfl rfl⟩
  | some k =>
   rw[hla] at hlp
   have hsp:=last_eq hla
   have hne0:todo.map (λt=>vi (T'.idxOf t))≠[]:=by rw[hsp]; simp
   rw[if_pos (by simpa using hne0)]
   have pT:b7 mt=some (.dict (met.map λp=>(vi (T'.idxOf p.1),V.int 1))):=pS
   refine V0 pT (by simp; omega) ?_
   simp only[O1,List.length_map]
   rcases Nat.lt_or_ge met.length 1000 with Fx | Fx
   rotate_left
   ·simp only[if_pos Fx] at hlp
    have:decide ((met.length:Int) < 1000)=false:=by rw[decide_eq_false_iff_not]; omega
    rw[this,if_neg (by simp)]
    exact⟨λe=>(by cases e),λ_=>hfin (by simpa using hlp.symm) _ _ rfl rfl⟩
   simp only[if_neg (Nat.not_le.mpr Fx)] at hlp
   have:decide ((met.length:Int) < 1000)=true:=by rw[decide_eq_true_eq]; omega
   rw[this,if_pos rfl]
   refine⟨λ_=>?_,λe=>by cases e⟩
   have fP:k∈T':=kQ k (by rw[hsp]; simp)
   refine i6 ?_
   simp only[WX,j0,r2,oI,eL]
   refine⟨_,.inl ⟨_,_,rfl,Mg,.inr (.inr ⟨rfl,rfl⟩)⟩,?_⟩
   have vO:b7 td=some (.list (todo.dropLast.map (λt=>vi (T'.idxOf t))++[vi (T'.idxOf k)])):=by
    rw[Mg]; congr 2; conv=>lhs; rw[hsp]
    simp
   have hdl:todo.dropLast.length+1=todo.length:=by
    have:=congrArg List.length hsp; simp only[List.length_append,List.length_cons,List.length_nil] at this; omega
   refine Zk vO (by simp only[List.length_map]; omega) ?_
   have n4:∀b,b≠td→i8 b7 td (.list (todo.dropLast.map (λt=>vi (T'.idxOf t)))) b=b7 b:=λb hb=>i9 hb
   generalize hs4:i8 b7 td (.list (todo.dropLast.map (λt=>vi (T'.idxOf t))))=x9 at n4
   have e4:x9 td=some (.list (todo.dropLast.map (λt=>vi (T'.idxOf t)))):=by rw[←hs4,b9]
   have p4:Plain (·=td) b7:=λb hb=>by subst hb; exact .inl ⟨_,Mg⟩
   have k4:j5 K T' x9:=k'.keep (F:=(·=td)) (b8.of n4 rfl) (λb hb=>by subst hb; exact kO) p4
   have y4:Ng d H.st K x9:=y'.same (F:=(·=td)) (b8.of n4 rfl) p4
   have s4:b8 K.F O x9:=λb o hb eb=>by
    rw[n4 b (fresh_ne Mf eb)]; exact s' b o hb eb
   have h4:G8 H K T' Ts Fs x9:=h0.grow g' s4 k0.plain
   have fR:D7 (λt=>vi (T'.idxOf t)) (λ_=>.int 1) met mt x9:=by unfold D7; rw[n4 _ hne.symm]; exact pS
   have bK:=h4.Me e
   refine l0 (decide (k.hd.l9=tid)) (λR E q=>?_) (λee=>?_) (λee=>?_)
   ·simp only[WC,WX,j0,b6,r0,r1,oI,eL,if_true,show((0:Nat)=4)=False by simp,show((1:Nat)=4)=False by simp,if_false]
    refine y4.kt N (Ut N k4 fP (by omega) (bK.iT N ?_))
    simp only[vi,F7]
    rw[show decide ((k.hd.l9:Int)=(tid:Int))=decide (k.hd.l9=tid) by rw[decide_eq_decide]; omega]
    exact q
   ·rw[if_pos (by simpa using ee)] at hlp
    cases hlp
    refine i5 ?_
    simp only[WX,i4]
    exact q T' x9 (g'.mono (by omega)) k4 s4
   rw[if_neg (by simpa using ee)] at hlp
   have kR:G6 c .NotIn (vi (T'.idxOf k)) (.ref mt) x9=λR=>R (!(f6 met k).isSome):=by
    funext R; exact fR.pJ A9 (λp hp=>(Jw p hp).1) fP
   refine l0 (!(f6 met k).isSome) (λR E q=>?_) (λee=>?_) (λee=>?_)
   ·simp only[WC,WX,b6,r3,oI,eL,if_true,show((3:Nat)=4)=False by simp,if_false,kR]
    exact q
   ·have hnone:f6 met k=none:=by
     cases q:f6 met k with
     | none=>rfl
     | some u=>rw[q] at ee; cases ee
    rw[hnone] at hlp
    simp only[Option.isSome_none,Bool.false_eq_true,if_false] at hlp
    refine H4 ?_
    simp only[WX,b6,r3,oI,eL,if_true,show((3:Nat)=4)=False by simp,if_false]
    have W2:=fun(R:a7→Prop) q=>fR.W2 (k:=k) (v:=k) A9 (λp hp=>(Jw p hp).1) (by omega) fP (R:=R) q
    refine W2 _ λC7 e5 n5=>?_
    have ep:T7 met k k=met++[(k,k)]:=by unfold T7; rw[hnone]; rfl
    rw[ep] at e5
    have p5:Plain (·=mt) x9:=λb hb=>by subst hb; exact .inr ⟨_,fR⟩
    have k5:j5 K T' C7:=k4.keep (F:=(·=mt)) (b8.of n5 rfl) (λb hb=>by subst hb; exact bJ) p5
    have y5:Ng d H.st K C7:=y4.same (F:=(·=mt)) (b8.of n5 rfl) p5
    have s5:b8 K.F O C7:=λb o hb eb=>by
     rw[n5 b (fresh_ne kP eb)]; exact s4 b o hb eb
    have h5:G8 H K T' Ts Fs C7:=h0.grow g' s5 k0.plain
    have e5t:C7 td=some (.list (todo.dropLast.map (λt=>vi (T'.idxOf t)))):=by rw[n5 _ hne]; exact e4
    refine z6 ?_
    simp only[WX,j0,b6,r0,r2,oI,eL,if_true,show((0:Nat)=4)=False by simp,show((2:Nat)=4)=False by simp,if_false]
    refine⟨_,.inl ⟨_,_,rfl,e5t,.inr (.inl ⟨rfl,rfl⟩)⟩,?_⟩
    have hNk:=Fw hN k
    refine Ss N k5 y5 h5 fP (by have:=g'.2; omega) (by omega) λT6 Y5 x g6 k6 y6 h6 s6 hx vP hm6=>?_
    have e6t:Y5 td=some (.list (todo.dropLast.map (λt=>vi (T'.idxOf t)))):=s6 _ _ kO e5t
    have hD:=Ca (Fs:=Fs) hN k
    refine Zj e6t vP (by simp only[List.length_map]; omega) ?_
    have n7:∀b,b≠td→i8 Y5 td (.list (todo.dropLast.map (λt=>vi (T'.idxOf t))++(z1 Ts Fs k).map λt=>vi (T6.idxOf t))) b=Y5 b:=λb hb=>i9 hb
    generalize hs7:i8 Y5 td (.list (todo.dropLast.map (λt=>vi (T'.idxOf t))++(z1 Ts Fs k).map λt=>vi (T6.idxOf t)))=Dt at n7
    have e7:Dt td=some (.list (todo.dropLast.map (λt=>vi (T'.idxOf t))++(z1 Ts Fs k).map λt=>vi (T6.idxOf t))):=by rw[←hs7,b9]
    have p7:Plain (·=td) Y5:=λb hb=>by subst hb; exact .inl ⟨_,e6t⟩
    have k7:j5 K T6 Dt:=k6.keep (F:=(·=td)) (b8.of n7 rfl) (λb hb=>by subst hb; exact kO) p7
    have y7:Ng d H.st K Dt:=y6.same (F:=(·=td)) (b8.of n7 rfl) p7
    have s7:b8 K.F O Dt:=λb o hb eb=>by
     rw[n7 b (fresh_ne Mf eb)]; exact(s5.trans s6) b o hb eb
    have g67:Gr T T6 (62+60 * (met++[(k,k)]).length):=(g'.trans g6).mono (by simp; omega)
    have h7:G8 H K T6 Ts Fs Dt:=h0.grow g67 s7 k0.plain
    have hdrop:∀x∈todo.dropLast,x∈T':=λx hx=>kQ x (List.dropLast_subset _ hx)
    refine o7 ?_
    refine⟨m,by omega,by simp[b6,r0],by simp[b6,r1],by simp[b6,r2],by simp[b6,r3],todo.dropLast++z1 Ts Fs k,met++[(k,k)],T6,hlp,g67,by simp; omega,by simp; omega,k7,y7,h7,s7,?_,?_,?_,?_⟩
    ·intro y hy
     rcases List.mem_append.mp hy with hy | hy
     ·exact g6.mem (hdrop y hy)
     ·exact hm6 y hy
    ·intro p hp
     rcases List.mem_append.mp hp with hp | hp
     ·exact⟨g6.mem (Jw p hp).1,g6.mem (Jw p hp).2⟩
     ·simp at hp; subst hp; exact⟨g6.mem fP,g6.mem fP⟩
    ·rw[e7,List.map_append,Ft g6 hdrop]
    ·unfold D7
     rw[n7 _ hne.symm,s6 _ _ bJ e5]
     congr 2
     refine List.map_congr_left λp hp=>?_
     have:p.1∈T':=by
      rcases List.mem_append.mp hp with hp | hp
      ·exact(Jw p hp).1
      ·simp at hp; subst hp; exact fP
     simp only[g6.idx this]
   ·have hsome:(f6 met k).isSome=true:=by simpa using ee
    rw[if_pos hsome] at hlp
    refine o7 ?_
    refine⟨m,by omega,by simp[b6,r0],by simp[b6,r1],by simp[b6,r2],by simp[b6,r3],todo.dropLast,met,T',hlp,g',mR,by omega,k4,y4,h4,s4,λx hx=>kQ x (List.dropLast_subset _ hx),Jw,e4,fR⟩
end
end Mine
end
section
open PySem PySem.W PyProof.Rows PySem.Calls
set_option Elab.async false
namespace Mine
open Classical
def Hd.cd:Hd→Nat
 | .var 0=>120
 | .var _=>121
 | .mvar _=>109
 | .prim 7=>105
 | .prim 13=>115
 | .prim _=>111
 | .cls 70=>67
 | .cls 71=>76
 | .cls 72=>77
 | .cls _=>68
 | .val 64=>83
 | .val 65=>82
 | .val 66=>81
 | .val 67=>78
 | .val 68=>71
 | .val 69=>101
 | .val 74=>86
 | .val _=>117
 | .arr=>97
 | .byref=>38
 | .P2=>114
def one(k:Nat):V:=.str ⟨#[k]⟩
def Tm.v:Tm→V
 | .leaf h=>.tup [one h.cd]
 | .un h a=>.tup [one h.cd,a.v]
 | .bin h a b=>.tup [one h.cd,a.v,b.v]
def Bk:List Hd:=[.var 0,.var 1,.mvar 0,.prim 7,.prim 13,.prim 12,.val 69,.val 75]
def eF:List Hd:=[.cls 70,.cls 71,.cls 72,.val 74,.val 64,.val 65,.val 66,.val 67,.val 68,.arr,.byref,.P2]
def Tm.o5:Tm→Bool
 | .leaf h=>Bk.contains h
 | .un h a=>eF.contains h && a.o5
 | .bin h a b=>h == .cls 73 && a.o5 && b.o5
def Tm.nest:Tm→Nat
 | .leaf _=>1
 | .un _ a=>1+a.nest
 | .bin _ a b=>1+max a.nest b.nest
theorem fS:∀h∈Bk,∀g∈Bk,h.cd=g.cd→h=g:=by decide
theorem pU:∀h∈eF,∀g∈eF,h.cd=g.cd→h=g:=by decide
theorem one_inj{a b:Nat}:one a=one b↔a=b:=by
 unfold one
 constructor
 ·intro h
  simpa using h
 ·rintro rfl; rfl
theorem Cu:∀{a b:Tm},a.o5=true→b.o5=true→a.v=b.v→a=b
 | .leaf h,.leaf g,ha,hb,e=>by
  simp only[Tm.v,V.tup.injEq,List.cons.injEq,one_inj,and_true] at e
  simp only[Tm.o5,List.contains_iff_mem] at ha hb
  rw[fS h ha g hb e]
 | .un h a,.un g b,ha,hb,e=>by
  simp only[Tm.v,V.tup.injEq,List.cons.injEq,one_inj,and_true] at e
  simp only[Tm.o5,Bool.and_eq_true,List.contains_iff_mem] at ha hb
  rw[pU h ha.1 g hb.1 e.1,Cu ha.2 hb.2 e.2]
 | .bin h a a',.bin g b b',ha,hb,e=>by
  simp only[Tm.v,V.tup.injEq,List.cons.injEq,one_inj,and_true] at e
  simp only[Tm.o5,Bool.and_eq_true,beq_iff_eq] at ha hb
  rw[ha.1.1,hb.1.1,Cu ha.1.2 hb.1.2 e.2.1,Cu ha.2 hb.2 e.2.2]
 | .leaf _,.un _ _,_,_,e=>by simp[Tm.v] at e
 | .leaf _,.bin _ _ _,_,_,e=>by simp[Tm.v] at e
 | .un _ _,.leaf _,_,_,e=>by simp[Tm.v] at e
 | .un _ _,.bin _ _ _,_,_,e=>by simp[Tm.v] at e
 | .bin _ _ _,.leaf _,_,_,e=>by simp[Tm.v] at e
 | .bin _ _ _,.un _ _,_,_,e=>by simp[Tm.v] at e
theorem Cv(h:Hd):h.cd < 128:=by unfold Hd.cd; split<;>omega
theorem Z8{k:Nat}(h:k < 128){d:Nat}:(one k).hk d=true:=by
 unfold one
 simp only[V.hk,PyData.strOk]
 simp
 omega
theorem Mh:∀{t:Tm}{d:Nat},t.nest≤d→t.v.hk d=true
 | .leaf h,d,hd=>by
  obtain⟨d,rfl⟩:∃e,d=e+1:=⟨d - 1,by simp[Tm.nest] at hd; omega⟩
  simp[Tm.v,V.hk,V.hks,Z8 (Cv h)]
 | .un h a,d,hd=>by
  obtain⟨d,rfl⟩:∃e,d=e+1:=⟨d - 1,by simp[Tm.nest] at hd; omega⟩
  simp only[Tm.nest] at hd
  simp[Tm.v,V.hk,V.hks,Z8 (Cv h),Mh (t:=a) (d:=d) (by omega)]
 | .bin h a b,d,hd=>by
  obtain⟨d,rfl⟩:∃e,d=e+1:=⟨d - 1,by simp[Tm.nest] at hd; omega⟩
  simp only[Tm.nest] at hd
  simp[Tm.v,V.hk,V.hks,Z8 (Cv h),Mh (t:=a) (d:=d) (by omega),Mh (t:=b) (d:=d) (by omega)]
theorem Qh(t:Tm):∃l,t.v=.tup l:=by cases t<;>exact⟨_,rfl⟩
def LT(t:Tm):Prop:=t.o5=true∧t.nest≤8
theorem Cw:Enc Tm.v LT:=⟨λa b ha hb e=>Cu ha.1 hb.1 e,.inr λa ha=>⟨Mh ha.2,Qh a⟩⟩
theorem C6(t:Tm):t.v=.tup (one t.hd.cd::t.kids.map Tm.v):=by cases t<;>rfl
theorem LT.kid{t a:Tm}(h:LT t) (ha:a∈t.kids):LT a:=by
 unfold LT at *
 rcases t with h' | ⟨h',x⟩ | ⟨h',x,y⟩<;>simp[Tm.kids] at ha<;>simp only[Tm.o5,Tm.nest,Bool.and_eq_true] at h
 ·subst ha; exact⟨h.1.2,by omega⟩
 ·rcases ha with rfl | rfl
  ·exact⟨h.1.1.2,by omega⟩
  ·exact⟨h.1.2,by omega⟩
def drawn:Nat→Tm→Bool
 | _,.leaf h=>[Hd.var 0,.var 1,.mvar 0,.prim 7,.prim 13].contains h
 | 0,_=>false
 | k+1,.un h a=>[Hd.cls 71,.cls 72,.val 74,.arr].contains h && drawn k a
 | k+1,.bin h a b=>h == .cls 73 && drawn k a && drawn k b
theorem L9:∀{k:Nat}{t:Tm},drawn k t=true→t.o5=true∧t.nest≤k+1
 | k,.leaf h,e=>by
  have:Bk.contains h=true:=by
   cases k<;>simp[drawn,Bk] at e ⊢<;>rcases e with rfl | rfl | rfl | rfl | rfl<;>simp
  exact⟨this,by simp[Tm.nest]⟩
 | 0,.un h a,e=>by simp[drawn] at e
 | 0,.bin h a b,e=>by simp[drawn] at e
 | k+1,.un h a,e=>by
  simp only[drawn,Bool.and_eq_true] at e
  have:=L9 e.2
  have hu:eF.contains h=true:=by
   simp[eF] at e ⊢; rcases e.1 with rfl | rfl | rfl | rfl<;>simp
  simp only[Tm.o5,Tm.nest,hu,this.1,Bool.and_self,true_and]; omega
 | k+1,.bin h a b,e=>by
  simp only[drawn,Bool.and_eq_true] at e
  have h1:=L9 e.1.2
  have h2:=L9 e.2
  simp only[Tm.o5,Tm.nest,h1.1,h2.1,e.1.1,Bool.and_self,true_and]; omega
theorem W5:∀{k:Nat}{t:Tm},drawn k t=true→t.ok=true∧t.stands=true
 | k,.leaf h,e=>by
  cases k<;>simp[drawn] at e<;>rcases e with rfl | rfl | rfl | rfl | rfl<;>simp[Tm.ok,Hd.fit,Tm.stands,Tm.hd]
 | 0,.un h a,e=>by simp[drawn] at e
 | 0,.bin h a b,e=>by simp[drawn] at e
 | k+1,.un h a,e=>by
  simp only[drawn,Bool.and_eq_true] at e
  have:=W5 e.2
  simp at e
  rcases e.1 with rfl | rfl | rfl | rfl<;>exact⟨by simp only[Tm.ok,this.1,this.2,Bool.and_true]; decide,by simp[Tm.stands,Tm.hd]⟩
 | k+1,.bin h a b,e=>by
  simp only[drawn,Bool.and_eq_true] at e
  have h1:=W5 e.1.2
  have h2:=W5 e.2
  simp at e
  rw[e.1.1]
  exact⟨by simp only[Tm.ok,h1.1,h1.2,h2.1,h2.2,Bool.and_true]; decide,by simp[Tm.stands,Tm.hd]⟩
structure K2(nu at_:Addr) (B:Nat) (O:a7):Prop where
 nums:∃ns:List Nat,ns≠[]∧ns.length≤1000∧(∀x∈ns,x < 1048576)∧O nu=some (.list (ns.map vi))
 pos:∃i,i≤B∧O at_=some (.list [vi i])
 ne:nu≠at_
theorem K2.same{nu at_:Addr}{B:Nat}{O b7:a7}{F:Addr→Prop}(h:K2 nu at_ B O) (s:b8 F O b7) (h1:¬F nu) (h2:¬F at_):K2 nu at_ B b7:=by
 obtain⟨ns,a,b,c,e⟩:=h.nums
 obtain⟨i,f,g⟩:=h.pos
 exact⟨⟨ns,a,b,c,s _ _ h1 e⟩,⟨i,f,s _ _ h2 g⟩,h.ne⟩
theorem K2.mono{nu at_:Addr}{B B':Nat}{O:a7}(h:K2 nu at_ B O) (hb:B≤B'):K2 nu at_ B' O:=by
 obtain⟨i,f,g⟩:=h.pos
 exact⟨h.nums,⟨i,by omega,g⟩,h.ne⟩
section
variable {c:Cx}{n:Nat}{O:a7}{Q:V→a7→Prop}{E:a7→Prop}{nu at_:Addr}{B:Nat}
theorem Y0{a b:Int}:Hf .Add (.int a) (.int b) O Q=Q (.int (a+b)) O:=rfl
theorem Ba{a b:Int}:Hf .Sub (.int a) (.int b) O Q=Q (.int (a - b)) O:=rfl
theorem Ec{a b:Int}(h:0 < b):Hf .Mod (.int a) (.int b) O Q=Q (.int (a % b)) O:=by simp[Hf,h]
theorem Va{a b:Int}(h:0 < b∧b < 2 ^ 28∧-(2 ^ 60)≤a∧a≤2 ^ 60):Hf .FloorDiv (.int a) (.int b) O Q=Q (.int (a / b)) O:=by simp only[Hf,eq_iff_iff,and_iff_right_iff_imp]; exact λ_=>h
theorem Vb{a b:Int}(h:-(2 ^ 60)≤a∧a≤2 ^ 60∧-(2 ^ 60)≤b∧b≤2 ^ 60):Hf .Mult (.int a) (.int b) O Q=Q (.int (a * b)) O:=by simp only[Hf,eq_iff_iff,and_iff_right_iff_imp]; exact λ_=>h
theorem O2(N:j7 c) (h:K2 nu at_ B O) (hB:B≤1000000){k:Nat}(hk:0 < k){n:Nat}(hn:1≤n) (q:∀r,r < k→∀b7,K2 nu at_ (B+1) b7→b8 (·=at_) O b7→Q (vi r) b7) :
  l8 c n (.fix (.ref 543)) [.ref nu,.ref at_,vi k] O Q E:=by
 obtain⟨n,rfl⟩:∃m,n=m+1:=⟨n - 1,by omega⟩
 obtain⟨ns,a1,a2,a3,a4⟩:=h.nums
 obtain⟨i,b1,b2⟩:=h.pos
 have hne:=h.ne
 have hpos:0 < ns.length:=List.length_pos_iff.mpr a1
 refine N.fn N.C.aD rfl rfl ?_
 refine i6 ?_
 simp only[WX,d8,gZ,gS,oI,eL]
 rw[show V.int 0=vi 0 from rfl,C9 (v:=vi i) b2 (by omega) rfl]
 refine H4 ?_
 simp only[WX,b6,d8,gZ,gS,oI,eL,if_true,show((1:Nat)=3)=False by simp,if_false,vi,Hf,Di,b2]
 refine⟨0,rfl,by omega,by simp,by simp,?_⟩
 simp only[Int.toNat_zero,List.set_cons_zero]
 have s1:b8 (·=at_) O (i8 O at_ (.list [V.int ((i:Int)+1)])):=b8.at rfl
 have e1:i8 O at_ (.list [V.int ((i:Int)+1)]) nu=some (.list (ns.map vi)):=by rw[i9 hne]; exact a4
 have d1:K2 nu at_ (B+1) (i8 O at_ (.list [V.int ((i:Int)+1)])):=⟨⟨ns,a1,a2,a3,e1⟩,⟨i+1,by omega,by rw[b9]; simp[vi]⟩,hne⟩
 generalize i8 O at_ (.list [V.int ((i:Int)+1)])=t9 at s1 e1 d1
 refine i6 ?_
 simp only[WX,j0,b6,d8,gZ,gS,oI,eL,show((0:Nat)=3)=False by simp,if_false]
 refine A3 e1 (by simp; omega) ?_
 simp only[List.length_map]
 refine i5 ?_
 simp only[WX,b6,d8,gZ,gS,oI,eL,if_true,show((0:Nat)=3)=False by simp,show((0:Nat)=4)=False by simp,show((3:Nat)=4)=False by simp,show((2:Nat)=4)=False by simp,show((2:Nat)=3)=False by simp,if_false]
 have hi:i % ns.length < ns.length:=Nat.mod_lt _ hpos
 have h0:=a3 _ (List.getElem_mem hpos)
 have hd:0≤(i:Int) / (ns.length:Int)∧(i:Int) / (ns.length:Int)≤i:=by
  refine⟨Int.ediv_nonneg (by omega) (by omega),?_⟩
  rw[←Int.natCast_ediv]
  exact Int.ofNat_le.mpr (Nat.div_le_self i ns.length)
 have hm:0≤(ns[0]:Int) % 7∧(ns[0]:Int) % 7 < 7:=by omega
 rw[Ec (by omega),←Int.natCast_emod,show V.int ((i % ns.length:Nat):Int)=vi (i % ns.length) from rfl,C9 (v:=vi ns[i % ns.length]) e1 (by omega) (by simp[hi])]
 rw[Va (by omega),show V.int ((0:Nat):Int)=vi 0 from rfl,C9 (v:=vi ns[0]) e1 (by omega) (by simp[hpos])]
 rw[show vi ns[0]=V.int (ns[0]:Int) from rfl,show vi ns[i % ns.length]=V.int (ns[i % ns.length]:Int) from rfl]
 rw[Ec (by omega),Vb (by omega),Y0,Vb (by omega),Y0,Ec (by omega)]
 simp only[i4]
 generalize ((ns[i % ns.length]:Nat):Int)+(i:Int) / (ns.length:Int) * ((ns[0]:Int) % 7+3 * (i:Int))=z
 have hz:0≤z % (k:Int)∧z % (k:Int) < k:=⟨Int.emod_nonneg _ (by omega),Int.emod_lt_of_pos _ (by omega)⟩
 have:=q (z % (k:Int)).toNat (by omega) t9 d1 s1
 rw[show vi (z % (k:Int)).toNat=V.int (z % (k:Int)) by simp only[vi]; congr 1; omega] at this
 exact this
end
theorem Vc:Str.ofString "xymis"=⟨#[120,121,109,105,115]⟩:=by decide +kernel
theorem fT:Str.ofString "LMVDa"=⟨#[76,77,86,68,97]⟩:=by decide +kernel
section
variable {c:Cx}{n:Nat}{O:a7}{Q:V→a7→Prop}{E:a7→Prop}{nu at_:Addr}{B:Nat}
theorem A7{l:Array Nat}{k u:Nat}(h:l[k]?=some u) (hk:k < 2 ^ 60):S4 (.str ⟨l⟩) (.int k) O Q=Q (one u) O:=by
 simp only[S4,eq_iff_iff]
 constructor
 ·rintro⟨k',u',h1,h2,h3,h4,h5⟩
  cases h1; simp[h] at h4; subst h4; exact h5
 ·exact λq=>⟨k,u,rfl,by omega,by omega,by simpa using h,q⟩
theorem Fy(N:j7 c):∀(deep:Nat){O:a7}{B n:Nat}{Q:V→a7→Prop}{E:a7→Prop},K2 nu at_ B O→B+3 ^ (deep+1)≤1000000→deep+3≤n →
  (∀t,drawn deep t=true→∀b7,K2 nu at_ (B+3 ^ (deep+1)) b7→b8 (·=at_) O b7→Q t.v b7)→l8 c n (.fix (.ref 565)) [.ref nu,.ref at_,vi deep] O Q E:=by
 intro deep
 induction deep with
 | zero =>
  intro O B n Q E h hB hn q
  obtain⟨n,rfl⟩:∃m,n=m+1:=⟨n - 1,by omega⟩
  refine N.fn N.C.Pt rfl rfl ?_
  refine i6 ?_
  simp only[WX,j0,WC,d8,gZ,gS,oI,eL,vi,z2]
  refine⟨λe=>by simp at e,λ_=>?_⟩
  refine O2 N h (by omega) (k:=5) (by omega) (by omega) λr hr b7 d s=>?_
  refine l0 true (λR E q=>?_) (λ_=>?_) (λe=>by cases e)
  ·simp only[WC,WX,b6,if_true,oI,eL,vi,O1]
   rw[show decide ((r:Int) < 5)=true by simp; omega]; exact q
  refine i5 ?_
  simp only[WX,j0,b6,if_true,oI,eL,vi,Vc,i4]
  have d':=d.mono (show B+1≤B+3 ^ (0+1) by omega)
  rcases r with _|_|_|_|_|r
  ·rw[A7 (u:=120) rfl (by omega)]; exact q (.leaf (.var 0)) (by decide) b7 d' s
  ·rw[A7 (u:=121) rfl (by omega)]; exact q (.leaf (.var 1)) (by decide) b7 d' s
  ·rw[A7 (u:=109) rfl (by omega)]; exact q (.leaf (.mvar 0)) (by decide) b7 d' s
  ·rw[A7 (u:=105) rfl (by omega)]; exact q (.leaf (.prim 7)) (by decide) b7 d' s
  ·rw[A7 (u:=115) rfl (by omega)]; exact q (.leaf (.prim 13)) (by decide) b7 d' s
  ·omega
 | succ k ih =>
  intro O B n Q E h hB hn q
  obtain⟨n,rfl⟩:∃m,n=m+1:=⟨n - 1,by omega⟩
  have hp:3 ^ (k+1+1)=3 * 3 ^ (k+1):=by rw[Nat.pow_succ]; omega
  have hp1:1≤3 ^ (k+1):=Nat.pow_pos (by omega)
  refine N.fn N.C.Pt rfl rfl ?_
  refine i6 ?_
  simp only[WX,j0,WC,d8,gZ,gS,oI,eL,vi,z2]
  refine⟨λ_=>?_,λe=>by simp at e; omega⟩
  refine O2 N h (by omega) (k:=10) (by omega) (by omega) λr hr t9 d1 s1=>?_
  refine l0 (decide (r < 5)) (λR E q=>?_) (λe=>?_) (λe=>?_)
  ·simp only[WC,WX,b6,if_true,oI,eL,vi,O1]
   rw[show decide ((r:Int) < 5)=decide (r < 5) by rw[decide_eq_decide]; omega]; exact q
  ·have hr:r < 5:=by simpa using e
   refine i5 ?_
   simp only[WX,j0,b6,if_true,oI,eL,vi,Vc,i4]
   have d':=d1.mono (show B+1≤B+3 ^ (k+1+1) by omega)
   have dl:∀h,[Hd.var 0,.var 1,.mvar 0,.prim 7,.prim 13].contains h=true→drawn (k+1) (.leaf h)=true:=λh e=>e
   rcases r with _|_|_|_|_|r
   ·rw[A7 (u:=120) rfl (by omega)]; exact q (.leaf (.var 0)) (dl _ (by decide)) t9 d' s1
   ·rw[A7 (u:=121) rfl (by omega)]; exact q (.leaf (.var 1)) (dl _ (by decide)) t9 d' s1
   ·rw[A7 (u:=109) rfl (by omega)]; exact q (.leaf (.mvar 0)) (dl _ (by decide)) t9 d' s1
   ·rw[A7 (u:=105) rfl (by omega)]; exact q (.leaf (.prim 7)) (dl _ (by decide)) t9 d' s1
   ·rw[A7 (u:=115) rfl (by omega)]; exact q (.leaf (.prim 13)) (dl _ (by decide)) t9 d' s1
   ·omega
  have iV:5≤r:=by simpa using e
  refine i6 ?_
  simp only[WX,j0,b6,d8,gZ,gS,oI,eL,show((0:Nat)=3)=False by simp,show((1:Nat)=3)=False by simp,show((2:Nat)=3)=False by simp,if_false,vi]
  rw[Ba,show V.int (((k+1:Nat):Int) - 1)=vi k by simp[vi]]
  refine ih d1 (by omega) (by omega) λa ha t8 d2 s2=>?_
  intro li hli
  have s3:b8 (λ_=>False) t8 (i8 t8 li (.list [a.v])):=b8.new hli
  have d3:=d2.same s3 id id
  have el:i8 t8 li (.list [a.v]) li=some (.list [a.v]):=b9 _ _ _
  have hla:li≠at_:=by rintro rfl; obtain⟨i,_,e⟩:=d2.pos; rw[hli] at e; cases e
  have zU:li≠nu:=by rintro rfl; obtain⟨i,_,_,_,e⟩:=d2.nums; rw[hli] at e; cases e
  have st3:b8 (·=at_) O (i8 t8 li (.list [a.v])):=(s1.trans s2).trans (s3.mono λ_ h=>h.elim)
  generalize i8 t8 li (.list [a.v])=A4 at s3 d3 el st3
  have fin:∀(t:Tm) (l:List V) (j:Nat) (u:Nat) (b7:a7) (Z:Loc),drawn (k+1) t=true→t.v=.tup (one u::l)→r=5+j→(#[76,77,86,68,97]:Array Nat)[j]?=some u→b7 li=some (.list l)→l.length≤2→K2 nu at_ (B+3 ^ (k+1+1)) b7→b8 (·=at_) O b7→Z 3=some (V.int r)→Z 4=some (.ref li) →
    o9 c n [.ret (.bin .Add (.tup [(.sub (.con (.str (Str.ofString "LMVDa"))) (.bin .Sub (.loc 3) (.con (.int 5))))]) (.call (.con (.fix (.type "tuple"))) [(.loc 4)]))] Z b7 (i4 Q) E:=by
   intro t l j u b7 Z ht htv hj hu hl hlz hd hs h3 h4
   refine i5 ?_
   simp only[WX,j0,h3,h4,oI,eL,fT]
   rw[Ba,show V.int ((r:Int) - 5)=V.int (j:Int) by congr 1; omega,A7 hu (by
    have:=(Array.getElem?_eq_some_iff.mp hu).1
    simp at this; omega)]
   refine Ak hl (by omega) ?_
   simp only[Hf,List.length_cons,List.length_nil,i4]
   refine⟨by omega,?_⟩
   have:=q t ht b7 hd hs
   rw[htv] at this
   exact this
  refine l0 (decide (r=8)) (λR E q=>?_) (λe=>?_) (λe=>?_)
  ·simp only[WC,WX,b6,if_true,oI,eL,show((3:Nat)=4)=False by simp,if_false,vi,F7]
   rw[show decide ((r:Int)=8)=decide (r=8) by rw[decide_eq_decide]; omega]; exact q
  ·have mS:r=8:=by simpa using e
   subst mS
   refine z6 ?_
   simp only[WX,j0,b6,d8,gZ,gS,oI,eL,if_true,show((0:Nat)=4)=False by simp,show((1:Nat)=4)=False by simp,show((2:Nat)=4)=False by simp,show((0:Nat)=3)=False by simp,show((1:Nat)=3)=False by simp,show((2:Nat)=3)=False by simp,if_false,vi]
   refine⟨_,.inl ⟨_,_,rfl,el,.inl ⟨rfl,rfl⟩⟩,?_⟩
   rw[Ba,show V.int (((k+1:Nat):Int) - 1)=vi k by simp[vi]]
   refine ih d3 (by omega) (by omega) λb hb x9 d4 s4=>?_
   have el4:x9 li=some (.list [a.v]):=s4 _ _ hla el
   refine v3 el4 (by simp) ?_
   have n5:∀x,x≠li→i8 x9 li (.list ([a.v]++[b.v])) x=x9 x:=λx hx=>i9 hx
   generalize hs5:i8 x9 li (.list ([a.v]++[b.v]))=C7 at n5
   have e5:C7 li=some (.list [a.v,b.v]):=by rw[←hs5,b9]; rfl
   have s5:b8 (·=li) x9 C7:=b8.of n5 rfl
   have d5:K2 nu at_ (B+3 ^ (k+1+1)) C7:=(d4.same s5 (λh=>zU h.symm) (λh=>hla h.symm)).mono (by omega)
   have st5:b8 (·=at_) O C7:=λx o hx ex=>by
    have hx2:x≠li:=by
     rintro rfl
     have:=(s1.trans s2) x o hx ex
     rw[hli] at this; cases this
    rw[n5 x hx2]; exact(st3.trans s4) x o hx ex
   refine fin (.bin (.cls 73) a b) [a.v,b.v] 3 68 C7 _ ?_ rfl rfl rfl e5 (by simp) d5 st5 (by simp[b6]) (by simp[b6])
   simp[drawn,ha,hb]
  ·have mS:r≠8:=by simpa using e
   have d':=d3.mono (show B+1+3 ^ (k+1)≤B+3 ^ (k+1+1) by omega)
   have go:∀(h:Hd) (j u:Nat),[Hd.cls 71,.cls 72,.val 74,.arr].contains h=true→h.cd=u→r=5+j→(#[76,77,86,68,97]:Array Nat)[j]?=some u→o9 c n ([]++[.ret (.bin .Add (.tup [(.sub (.con (.str (Str.ofString "LMVDa"))) (.bin .Sub (.loc 3) (.con (.int 5))))]) (.call (.con (.fix (.type "tuple"))) [(.loc 4)]))]) (b6 (b6 (d8 [.ref nu,.ref at_,V.int ((k+1:Nat):Int)]) 3 (V.int r)) 4 (.ref li)) A4 (i4 Q) E:=by
    intro h j u hh hcd hj hu
    refine fin (.un h a) [a.v] j u A4 _ (by simp only[drawn,hh,ha,Bool.and_self]) (by simp[Tm.v,hcd]) hj hu el (by simp) d' st3 (by simp[b6]) (by simp[b6])
   have:r=5∨r=6∨r=7∨r=9:=by omega
   rcases this with rfl | rfl | rfl | rfl
   ·exact go (.cls 71) 0 76 (by decide) rfl rfl rfl
   ·exact go (.cls 72) 1 77 (by decide) rfl rfl rfl
   ·exact go (.val 74) 2 86 (by decide) rfl rfl rfl
   ·exact go .arr 4 97 (by decide) rfl rfl rfl
end
def m6(g:Tm→Option Tm):Tm→Option Tm
 | .leaf h=>some (.leaf h)
 | .un h a=>(g a).map (.un h)
 | .bin h a b=>match g a,g b with
  | some a,some b=>some (.bin h a b)
  | _,_=>none
def t4(f:Bd):Tm→Tm
 | .leaf h=>(f6 f (.leaf h)).getD (.leaf h)
 | .un h a=>(f6 f (.un h a)).getD (.un h (t4 f a))
 | .bin h a b=>(f6 f (.bin h a b)).getD (.bin h (t4 f a) (t4 f b))
theorem Xg{f:Bd}{t u:Tm}(h:f6 f t=some u):t4 f t=u:=by cases t<;>simp[t4,h]
theorem Xh{f:Bd}{t:Tm}(h:f6 f t=none):m6 (λx=>some (t4 f x)) t=some (t4 f t):=by cases t<;>simp[t4,h,m6]
def I9:Nat→Bd→Tm→Option Tm
 | 0,_,_=>none
 | n+1,f,t=>match f6 f t with
  | some u=>I9 n f u
  | none=>m6 (I9 n f) t
theorem R3{g:Tm→Option Tm}{t r:Tm}(h:m6 g t=some r):t.kids.map g=r.kids.map some∧r.hd=t.hd:=by
 rcases t with h' | ⟨h',a⟩ | ⟨h',a,b⟩
 ·simp[m6] at h; subst h; exact⟨rfl,rfl⟩
 ·simp[m6] at h
  obtain⟨x,hx,rfl⟩:=h
  exact⟨by simp[Tm.kids,hx],rfl⟩
 ·simp only[m6] at h
  split at h
  ·rename_i x y hx hy
   cases h
   exact⟨by simp[Tm.kids,hx,hy],rfl⟩
  ·cases h
section
variable {c:Cx}{n:Nat}{O:a7}{Q:V→a7→Prop}{E:a7→Prop}
theorem pV(t:Tm):∃l,t.v=.tup l∧l.length=1+t.kids.length:=⟨_,C6 t,by simp; omega⟩
theorem Bb{fn:Addr}{a:Addr}{t r:Tm}{g:Tm→Option Tm}(hg:m6 g t=some r){Z:Loc}(h0:Z 0=some t.v) (h1:Z 1=some (.ref a))
  (hc:∀x∈t.kids,∀y,g x=some y→∀(b7:a7) (Q:V→a7→Prop) (E:a7→Prop),b8 (λ_=>False) O b7→(∀T9,b8 (λ_=>False) b7 T9→Q y.v T9)→l8 c n (.fix (.ref fn)) [x.v,.ref a] b7 Q E)
  (q:∀b7,b8 (λ_=>False) O b7→Q r.v b7) :
  o9 c n [.ite (.cmp .Eq (.call (.con (.fix (.builtin "len"))) [(.loc 0)]) (.con (.int 1))) [(.ret (.loc 0))] [],.ret (.bin .Add (.tup [(.sub (.loc 0) (.con (.int 0)))]) (.call (.con (.fix (.type "tuple"))) [(.comp (.call (.con (.fix (.ref fn))) [(.loc 2),(.loc 1)]) (.one 2) (.slc (.loc 0) (some 1) none) [])]))] Z O (i4 Q) E:=by
 obtain⟨l,hl,hll⟩:=pV t
 have hkl:=v9 t
 obtain⟨hk,hh⟩:=R3 hg
 refine l0 (decide (t.kids=[])) (λR E q=>?_) (λe=>?_) (λe=>?_)
 ·simp only[WC,WX,j0,h0,hl,oI,eL]
  refine C3 (by omega) ?_
  simp only[F7]
  have:decide ((l.length:Int)=1)=decide (t.kids=[]):=by
   rw[decide_eq_decide,←List.length_eq_zero_iff]; omega
  rw[this]; exact q
 ·have ek:t.kids=[]:=by simpa using e
  have:r=t:=by
   rcases t with h' | ⟨h',x⟩ | ⟨h',x,y⟩
   ·simpa[m6] using hg.symm
   ·simp[Tm.kids] at ek
   ·simp[Tm.kids] at ek
  refine i5 ?_
  simp only[WX,h0,oI,eL,i4]
  rw[this] at q; exact q O (.refl _ _)
 ·refine i5 ?_
  simp only[WX,j0,h0,oI,eL]
  rw[C6 t,show V.int 0=V.int ((0:Nat):Int) from rfl,v7 (v:=one t.hd.cd) (by omega) rfl]
  simp only[eK]
  refine⟨trivial,1,rfl,by omega,by simp,by simp; omega,?_⟩
  simp only[List.drop_succ_cons,List.drop_zero]
  refine⟨_,rfl,by simp; omega,?_⟩
  refine C4 (λdone left acc b7=>b8 (λ_=>False) O b7∧∃dk lk:List Tm,∃b1 b2:List Tm,t.kids=dk++lk∧left=lk.map Tm.v∧r.kids=b1++b2∧lk.map g=b2.map some∧acc=b1.map Tm.v) (λ_ _ _ _ _=>rfl) ?_ _ [] [] _ _ ⟨.refl _ _,[],t.kids,[],r.kids,rfl,rfl,rfl,hk,rfl⟩ ?_
  ·rintro done x left acc b7 R ⟨s,dk,lk,b1,b2,ek,el,eb,hm,ea⟩ hsome _
   cases lk with
   | nil=>simp at el
   | cons u lk =>
    simp only[List.map_cons,List.cons.injEq] at el
    obtain⟨rfl,rfl⟩:=el
    cases b2 with
    | nil=>simp at hm
    | cons b b2 =>
     simp only[List.map_cons,List.cons.injEq] at hm
     simp only[J7,M5,if_true,WX,j0,b6,h1,oI,eL,show((1:Nat)=2)=False by simp,if_false]
     refine hc u (by rw[ek]; simp) b hm.1 b7 _ _ s λo6 m9=>?_
     exact hsome _ _ ⟨s.trans m9,dk++[u],lk,b1++[b],b2,by simp[ek],rfl,by simp[eb],hm.2,by simp[ea]⟩
  ·rintro acc b7 ⟨s,dk,lk,b1,b2,ek,el,eb,hm,ea⟩ r' hr
   have:lk=[]:=by cases lk<;>simp at el ⊢
   subst this
   have:b2=[]:=by cases b2<;>simp at hm ⊢
   subst this
   rw[List.append_nil] at eb
   have hrl:=v9 r
   refine Ak (l:=acc) (b9 _ _ _) (by rw[ea,←eb]; simp; omega) ?_
   simp only[Hf,i4,List.length_cons,List.length_nil]
   refine⟨by rw[ea,←eb]; simp; omega,?_⟩
   have:=q (i8 b7 r' (.list acc)) (s.trans (b8.new hr))
   rw[C6 r,hh,eb,←ea] at this
   exact this
theorem Fz(N:j7 c){f:Bd}{a:Addr}(hf:∀p∈f,LT p.1):∀(m:Nat){t:Tm}{O:a7}{n:Nat}{Q:V→a7→Prop}{E:a7→Prop},t.nest≤m→D7 Tm.v Tm.v f a O→LT t→m+2≤n →
  (∀b7,b8 (λ_=>False) O b7→Q (t4 f t).v b7)→l8 c n (.fix (.ref 553)) [t.v,.ref a] O Q E
 | 0,t,O,n,Q,E,hm,_,_,_,_=>by cases t<;>simp[Tm.nest] at hm<;>omega
 | m+1,t,O,n,Q,E,hm,h,ht,hn,q=>by
  obtain⟨n,rfl⟩:∃m,n=m+1:=⟨n - 1,by omega⟩
  refine N.fn N.C.fA rfl rfl ?_
  have hin:G6 c .In t.v (.ref a) O=λR=>R (f6 f t).isSome:=by
   funext R; exact h.isIn Cw hf ht
  refine l0 (f6 f t).isSome (λR E q=>?_) (λe=>?_) (λe=>?_)
  ·simp only[WC,WX,d8,gZ,gS,oI,eL,hin]
   exact q
  ·obtain⟨u,hu⟩:=Option.isSome_iff_exists.mp e
   refine i5 ?_
   simp only[WX,d8,gZ,gS,oI,eL,i4]
   have hs:S4 (.ref a) t.v O=λR=>R u.v O:=by
    funext R; exact h.sub Cw hf ht hu
   rw[hs]
   have:=q O (.refl _ _)
   rwa [Xg hu] at this
  ·have hnone:f6 f t=none:=by
    cases q:f6 f t with
    | none=>rfl
    | some u=>rw[q] at e; cases e
   refine Bb (g:=λx=>some (t4 f x)) (Xh hnone) rfl rfl (λx hx y hy b7 Q E s q=>?_) q
   cases hy
   have hnx:x.nest≤m:=by
    rcases t with h' | ⟨h',z⟩ | ⟨h',z,w⟩<;>simp[Tm.kids] at hx<;>simp only[Tm.nest] at hm
    ·subst hx; omega
    ·rcases hx with rfl | rfl<;>omega
   exact Fz N hf m hnx (s _ _ id h) (ht.kid hx) (by omega) q
theorem Ed(N:j7 c){f:Bd}{a:Addr}(hf:∀p∈f,LT p.1∧LT p.2):∀(m:Nat){t r:Tm}{O:a7}{n:Nat}{Q:V→a7→Prop}{E:a7→Prop},I9 m f t=some r→D7 Tm.v Tm.v f a O→LT t→m+2≤n →
  (∀b7,b8 (λ_=>False) O b7→Q r.v b7)→l8 c n (.fix (.ref 558)) [t.v,.ref a] O Q E
 | 0,t,r,O,n,Q,E,hm,_,_,_,_=>by cases hm
 | m+1,t,r,O,n,Q,E,hm,h,ht,hn,q=>by
  obtain⟨n,rfl⟩:∃m,n=m+1:=⟨n - 1,by omega⟩
  refine N.fn N.C.aF rfl rfl ?_
  have hf1:∀p∈f,LT p.1:=λp hp=>(hf p hp).1
  have hin:G6 c .In t.v (.ref a) O=λR=>R (f6 f t).isSome:=by
   funext R; exact h.isIn Cw hf1 ht
  unfold I9 at hm
  refine l0 (f6 f t).isSome (λR E q=>?_) (λe=>?_) (λe=>?_)
  ·simp only[WC,WX,d8,gZ,gS,oI,eL,hin]
   exact q
  ·obtain⟨u,hu⟩:=Option.isSome_iff_exists.mp e
   rw[hu] at hm
   refine i5 ?_
   simp only[WX,j0,d8,gZ,gS,oI,eL,i4]
   have hs:S4 (.ref a) t.v O=λR=>R u.v O:=by
    funext R; exact h.sub Cw hf1 ht hu
   rw[hs]
   exact Ed N hf m hm h (hf _ (j8 hu)).2 (by omega) q
  ·have hnone:f6 f t=none:=by
    cases q:f6 f t with
    | none=>rfl
    | some u=>rw[q] at e; cases e
   rw[hnone] at hm
   refine Bb hm rfl rfl (λx hx y hy b7 Q E s q=>?_) q
   exact Ed N hf m hy (s _ _ id h) (ht.kid hx) (by omega) q
theorem Sx(N:j7 c){f:Bd}{a:Addr}(h:D7 Tm.v Tm.v f a O) (hf:∀p∈f,LT p.1∧LT p.2){m:Nat}{k r:Tm}(hw:walk m f k=some r) (hk:LT k){n:Nat}(hn:1≤n) (q:Q r.v O):l8 c n (.fix (.ref 579)) [.ref a,k.v] O Q E:=by
 obtain⟨n,rfl⟩:∃m,n=m+1:=⟨n - 1,by omega⟩
 refine N.fn N.C.aH rfl rfl ?_
 refine aY Cw h hf (i:=1) (j:=0) (by omega) hw hk rfl rfl λi7 h0 h1=>?_
 refine i5 ?_
 simp only[WX,h0,oI,eL,i4]
 exact q
def allM(g:Tm→Option Bool):List Tm→Option Bool
 | []=>some true
 | a::l=>match g a with
  | some true=>allM g l
  | some false=>some false
  | none=>none
def E6:Nat→Bd→Tm→List Tm→Option Bool
 | 0,_,_,_=>none
 | n+1,f,t,path=>match walk (f.length+1) f t with
  | none=>none
  | some r=>if r∈path then some false else allM (λx=>E6 n f x (path++[r])) r.kids
theorem kS{a:Addr}{l:List Tm}{t:Tm}(h:O a=some (.list (l.map Tm.v))) (ht:LT t) (hl:∀x∈l,LT x){R:Bool→Prop}:G6 c .In t.v (.ref a) O R=R (decide (t∈l)):=by
 simp only[G6,IN,h]
 have hk:∀x,LT x→x.v.hk 60=true:=λx hx=>V.Kh _ (Mh hx.2) (by omega)
 have e:(t.v∈l.map Tm.v)=(t∈l):=by
  rw[eq_iff_iff,List.mem_map]
  exact⟨fun⟨x,hx,e⟩=>Cu (hl x hx).1 ht.1 e ▸ hx,λh=>⟨t,h,rfl⟩⟩
 have e2:∀i1:Decidable (t.v∈l.map Tm.v),∀i2:Decidable (t∈l),@decide _ i1=@decide _ i2:=λi1 i2=>by rw[decide_eq_decide,e]
 rw[e2 _ _]
 rw[eq_iff_iff]
 exact⟨λh=>h.2.2,λh=>⟨hk t ht,λv hv=>by obtain⟨x,hx,rfl⟩:=List.mem_map.mp hv; exact hk x (hl x hx),h⟩⟩
theorem Mi(N:j7 c){f:Bd}{a:Addr}(hf:∀p∈f,LT p.1∧LT p.2):∀(m:Nat){t:Tm}{path:List Tm}{pa:Addr}{r:Bool}{O:a7}{n:Nat}{Q:V→a7→Prop}{E:a7→Prop},E6 m f t path=some r→D7 Tm.v Tm.v f a O→LT t→(∀x∈path,LT x)→path.length+m≤10000→O pa=some (.list (path.map Tm.v))→m+2≤n →
  (∀b7,b8 (λ_=>False) O b7→Q (.bool r) b7)→l8 c n (.fix (.ref 586)) [.ref a,t.v,.ref pa] O Q E
 | 0,t,path,pa,r,O,n,Q,E,hm,_,_,_,_,_,_,_=>by cases hm
 | m+1,t,path,pa,r,O,n,Q,E,hm,h,ht,hp,hz,hpa,hn,q=>by
  obtain⟨n,rfl⟩:∃m,n=m+1:=⟨n - 1,by omega⟩
  unfold E6 at hm
  split at hm
  ·cases hm
  rename_i ro hw
  have sO:LT ro:=E9 (D:=LT) (λp hp=>(hf p hp).2) ht hw
  refine N.fn N.C.aI rfl rfl ?_
  refine i6 ?_
  simp only[WX,j0,d8,gZ,gS,oI,eL]
  refine Sx N h hf hw ht (by omega) ?_
  have hin:G6 c .In ro.v (.ref pa) O=λR=>R (decide (ro∈path)):=by
   funext R; exact kS hpa sO hp
  refine l0 (decide (ro∈path)) (λR E q=>?_) (λe=>?_) (λe=>?_)
  ·simp only[WC,WX,b6,d8,gZ,gS,oI,eL,if_true,show((2:Nat)=3)=False by simp,if_false,hin]
   exact q
  ·rw[if_pos (by simpa using e)] at hm
   cases hm
   refine i5 ?_
   simp only[WX,i4]
   exact q O (.refl _ _)
  rw[if_neg (by simpa using e)] at hm
  refine D0 ?_
  have hkl:=v9 ro
  simp only[WX,j0,b6,oI,eL,if_true]
  rw[C6 ro]
  simp only[eK]
  refine⟨trivial,1,rfl,by omega,by simp,by simp; omega,?_⟩
  simp only[List.drop_succ_cons,List.drop_zero]
  refine⟨_,rfl,by simp; omega,?_⟩
  rw[←C6 ro]
  refine s9 (λdone left Z b7=>Z 0=some (.ref a)∧Z 2=some (.ref pa)∧Z 3=some ro.v∧b8 (λ_=>False) O b7∧∃dk lk:List Tm,ro.kids=dk++lk∧left=lk.map Tm.v∧allM (λx=>E6 m f x (path++[ro])) lk=some r)
   (λv Z b7=>v=.bool false∧r=false∧b8 (λ_=>False) O b7) (λ_ _ _ _ _=>rfl) ?_ _ [] _ _ _ ⟨rfl,rfl,rfl,.refl _ _,[],ro.kids,rfl,rfl,hm⟩ ?_ ?_
  ·rintro done x left Z b7 R ⟨h0,h2,h3,s,dk,lk,ek,el,hall⟩ hnext _ hret
   cases lk with
   | nil=>simp at el
   | cons u lk =>
    simp only[List.map_cons,List.cons.injEq] at el
    obtain⟨rfl,rfl⟩:=el
    unfold allM at hall
    have huk:u∈ro.kids:=by rw[ek]; simp
    simp only[J7]
    refine I3 ?_
    simp only[WC,WX,j0,b6,h0,h2,h3,oI,eL,if_true,show((0:Nat)=4)=False by simp,show((2:Nat)=4)=False by simp,show((3:Nat)=4)=False by simp,if_false]
    intro r1 hr1
    have e1:i8 b7 r1 (.list [ro.v]) r1=some (.list [ro.v]):=b9 _ _ _
    have s1:b8 (λ_=>False) b7 (i8 b7 r1 (.list [ro.v])):=b8.new hr1
    have ep:i8 b7 r1 (.list [ro.v]) pa=some (.list (path.map Tm.v)):=s1 _ _ id (s _ _ id hpa)
    simp only[Hf]
    refine⟨_,_,ep,e1,by simp; omega,?_⟩
    intro r2 hr2
    have s2:b8 (λ_=>False) (i8 b7 r1 (.list [ro.v])) (i8 (i8 b7 r1 (.list [ro.v])) r2 (.list (path.map Tm.v++[ro.v]))):=b8.new hr2
    have st:=s.trans (s1.trans s2)
    have e2:i8 (i8 b7 r1 (.list [ro.v])) r2 (.list (path.map Tm.v++[ro.v])) r2=some (.list ((path++[ro]).map Tm.v)):=by rw[b9]; simp
    generalize i8 (i8 b7 r1 (.list [ro.v])) r2 (.list (path.map Tm.v++[ro.v]))=t8 at st e2
    have hp2:∀x∈path++[ro],LT x:=λx hx=>by
     rcases List.mem_append.mp hx with hx | hx
     ·exact hp x hx
     ·simp at hx; subst hx; exact sO
    split at hall
    ·rename_i ht1
     refine Mi N hf m ht1 (st _ _ id h) (sO.kid huk) hp2 (by simp; omega) e2 (by omega) λNu S8=>?_
     simp only[z2,Bool.not_true,Bool.false_eq_true,false_implies,true_and,forall_const]
     refine o7 (hnext _ _ ⟨by simp[b6,h0],by simp[b6,h2],by simp[b6,h3],st.trans S8,dk++[u],lk,by simp[ek],rfl,hall⟩)
    ·rename_i ht1
     cases hall
     refine Mi N hf m ht1 (st _ _ id h) (sO.kid huk) hp2 (by simp; omega) e2 (by omega) λNu S8=>?_
     simp only[z2,Bool.not_false,Bool.true_eq_false,false_implies,and_true,forall_const]
     refine i5 ?_
     simp only[WX]
     exact hret _ _ _ ⟨rfl,rfl,st.trans S8⟩
    ·cases hall
  ·rintro Z b7 ⟨h0,h2,h3,s,dk,lk,ek,el,hall⟩
   have:lk=[]:=by cases lk<;>simp at el ⊢
   subst this
   simp[allM] at hall
   subst hall
   refine i5 ?_
   simp only[WX,i4]
   exact q b7 s
  ·rintro v Z b7 ⟨rfl,rfl,s'⟩
   exact q b7 s'
end
end Mine
end
section
open PySem PySem.W PyProof.Rows PySem.Calls
set_option Elab.async false
set_option maxRecDepth 20000
namespace Mine
open Classical
def pv(p:Tm×Tm):V:=.tup [p.1.v,p.2.v]
def D1:Nat→Bd→Bd→Option (Option Bd)
 | 0,_,_=>none
 | n+1,boss,todo=>match todo.getLast? with
  | none=>some (some boss)
  | some p=>match walk (boss.length+1) boss p.1,walk (boss.length+1) boss p.2 with
   | some a,some b =>
    if a=b then D1 n boss todo.dropLast
    else if a.hd.isVar=true then D1 n (boss++[(a,b)]) todo.dropLast
    else if b.hd.isVar=true then D1 n (boss++[(b,a)]) todo.dropLast
    else if a.hd≠b.hd then some none
    else D1 n (boss++[(a,b)]) (todo.dropLast++a.kids.zip b.kids)
   | _,_=>none
def K3(m:Nat) (boss:Bd):Bd→Option Bool
 | []=>some true
 | p::l=>match E6 m boss p.1 [] with
  | none=>none
  | some false=>some false
  | some true=>match E6 m boss p.2 [] with
   | none=>none
   | some false=>some false
   | some true=>K3 m boss l
def join(n m:Nat) (equal:Bd):Option (Option Bd):=match D1 n [] equal with
 | none=>none
 | some none=>some none
 | some (some boss)=>match K3 m boss equal with
  | none=>none
  | some false=>some none
  | some true=>some (some boss)
def M0:List Hd:=Bk++eF++[.cls 73]
theorem F4{t:Tm}(h:t.o5=true):t.hd∈M0:=by
 cases t<;>simp only[Tm.o5,Bool.and_eq_true,List.contains_iff_mem,beq_iff_eq] at h<;>simp only[M0,Tm.hd,List.mem_append]
 ·exact .inl (.inl h)
 ·exact .inl (.inr h.1)
 ·exact .inr (by simp[h.1.1])
theorem kT:∀h∈M0,∀g∈M0,h.cd=g.cd→h=g:=by decide
theorem bL:∀h∈M0,decide (h.cd∈([120,121,109]:List Nat))=h.isVar:=by decide
theorem Bc:∀{a b:Tm},a.o5=true→b.o5=true→a.hd=b.hd→a.kids.length=b.kids.length:=by
 have h1:∀h∈Bk,h∉eF∧h≠.cls 73:=by decide
 have h2:∀h∈eF,h≠.cls 73:=by decide
 intro a b ha hb e
 rcases a with h | ⟨h,x⟩ | ⟨h,x,y⟩<;>rcases b with g | ⟨g,x'⟩ | ⟨g,x',y'⟩<;>simp only[Tm.o5,Bool.and_eq_true,List.contains_iff_mem,beq_iff_eq] at ha hb<;>simp only[Tm.hd] at e<;>subst e<;>simp[Tm.kids]
 ·exact(h1 _ ha).1 hb.1
 ·exact(h1 _ ha).2 hb.1.1
 ·exact(h1 _ hb).1 ha.1
 ·exact h2 _ ha.1 hb.1.1
 ·exact(h1 _ hb).2 ha.1.1
 ·exact h2 _ hb.1 ha.1.1
theorem iW:Str.ofString "xym"=⟨#[120,121,109]⟩:=by decide +kernel
section
variable {c:Cx}{n:Nat}{O:a7}{Q:V→a7→Prop}{E:a7→Prop}
theorem bM{a b:Tm}(ha:LT a) (hb:LT b){R:Bool→Prop}:G6 c .Eq a.v b.v O R=R (decide (a=b)):=by
 have hE:=Cw.vG ha hb
 have e:decide (a.v=b.v)=decide (a=b):=by rw[decide_eq_decide]; exact⟨λe=>Cu ha.1 hb.1 e,λe=>by rw[e]⟩
 rw[←e]
 obtain⟨l,hl⟩:=Qh a
 obtain⟨m,hm⟩:=Qh b
 rw[hl,hm] at hE ⊢
 simp only[G6,EQ,eq_iff_iff]
 exact⟨λh=>h.2,λh=>⟨hE,h⟩⟩
theorem in_str{k:Nat}{l:Array Nat}{R:Bool→Prop}:G6 c .In (one k) (.str ⟨l⟩) O R=R (decide (k∈l.toList)):=by
 simp only[G6,IN,one,eq_iff_iff]
 constructor
 ·rintro⟨k',e,h⟩
  cases e; exact h
 ·exact λh=>⟨k,rfl,h⟩
theorem bN{k j:Nat}(hk:k < 128) (hj:j < 128){R:Bool→Prop}:G6 c .NotEq (one k) (one j) O R=R (!decide (k=j)):=by
 have e:decide (one k=one j)=decide (k=j):=by rw[decide_eq_decide]; exact one_inj
 rw[←e]
 have h1:=Z8 hk (d:=60)
 have h2:=Z8 hj (d:=60)
 unfold one at h1 h2 ⊢
 simp only[G6,EQ,eq_iff_iff]
 exact⟨λh=>h.2,λh=>⟨.inl ⟨rfl,rfl,h1,h2⟩,h⟩⟩
theorem Mj{t:Tm}{R:V→a7→Prop}:S4 t.v (.int 0) O R=R (one t.hd.cd) O:=by
 rw[C6 t,show(V.int 0)=V.int ((0:Nat):Int) from rfl,v7 (v:=one t.hd.cd) (by omega) rfl]
theorem bO{t:Tm}(ht:LT t){R:Bool→Prop}:G6 c .In (one t.hd.cd) (.str (Str.ofString "xym")) O R=R t.hd.isVar:=by
 rw[iW,in_str,←bL t.hd (F4 ht.1)]
theorem Xi(N:j7 c){a b:Tm}(ha:LT a) (hb:LT b) (hlen:a.kids.length=b.kids.length){td:Addr}{todo:Bd}(htd:O td=some (.list (todo.map pv))) (hz:todo.length≤100000){Z:Loc}
  (h2:Z 2=some (.ref td)) (h3:Z 3=some a.v) (h4:Z 4=some b.v){Q:Fl→Loc→a7→Prop}
  (q:∀i7 b7,(∀x,x≠5→i7 x=Z x)→b7 td=some (.list ((todo++a.kids.zip b.kids).map pv))→(∀x,x≠td→b7 x=O x)→Q .next i7 b7) :
  o9 c n [.for (.one 5) (.call (.con (.fix (.type "range"))) [(.con (.int 1)),(.call (.con (.fix (.builtin "len"))) [(.loc 3)])]) [(.exp (.meth (.loc 2) (Str.ofString "append") [(.tup [(.sub (.loc 3) (.loc 5)),(.sub (.loc 4) (.loc 5))])]))]] Z O Q E:=by
 have hkl:=v9 a
 refine D0 ?_
 simp only[WX,j0,h3,oI,eL]
 rw[C6 a]
 refine C3 (by simp; omega) (Zi ?_)
 have hit:∀O:a7,u6 (.rng 1 ((one a.hd.cd::a.kids.map Tm.v).length:Int)) O ((List.range a.kids.length).map λi=>vi (1+i)):=by
  intro O
  refine⟨by omega,by simp; omega,by simp; omega,?_⟩
  rw[show(((one a.hd.cd::a.kids.map Tm.v).length:Int) - 1).toNat=a.kids.length by simp]
  exact List.map_congr_left λi _=>by simp[vi]
 refine⟨_,hit O,by simp; omega,?_⟩
 refine s9 (λdone left i7 b7=>(∀x,x≠5→i7 x=Z x)∧(∀x,x≠td→b7 x=O x)∧∃i,i≤a.kids.length∧left=((List.range a.kids.length).map λi=>vi (1+i)).drop i∧b7 td=some (.list ((todo++(a.kids.zip b.kids).take i).map pv)))
  (λ_ _ _=>False) (λ_ _ _ _ _=>hit _) ?_ _ [] _ _ _ ⟨λ_ _=>rfl,λ_ _=>rfl,0,by omega,rfl,by simpa using htd⟩ ?_ (λ_ _ _ h=>h.elim)
 ·rintro done x left i7 b7 R ⟨hr,hs,i,hi,el,Mg⟩ hnext _ _
  have hk:i < a.kids.length:=by
   have:=congrArg List.length el
   simp at this; omega
  rw[List.drop_eq_getElem_cons (by simpa using hk)] at el
  simp only[List.cons.injEq,List.getElem_map,List.getElem_range] at el
  obtain⟨rfl,rfl⟩:=el
  simp only[J7]
  refine z6 ?_
  simp only[WX,j0,b6,hr 2 (by omega),hr 3 (by omega),hr 4 (by omega),h2,h3,h4,oI,eL,if_true,show((2:Nat)=5)=False by simp,show((3:Nat)=5)=False by simp,show((4:Nat)=5)=False by simp,if_false]
  refine⟨_,.inl ⟨_,_,rfl,Mg,.inl ⟨rfl,rfl⟩⟩,?_⟩
  have hkb:i < b.kids.length:=by omega
  rw[C6 a,C6 b,show vi (1+i)=V.int ((1+i:Nat):Int) from rfl,v7 (v:=a.kids[i].v) (by omega) (by rw[Nat.add_comm 1 i]; simp[hk]),v7 (v:=b.kids[i].v) (by omega) (by rw[Nat.add_comm 1 i]; simp[hkb])]
  refine v3 Mg (by simp; omega) ?_
  refine o7 (hnext _ _ ⟨λx hx=>by simp[b6,hx,hr x hx],λx hx=>by rw[i9 hx,hs x hx],i+1,by omega,rfl,?_⟩)
  rw[b9]
  have hz2:i < (a.kids.zip b.kids).length:=by simp; omega
  congr 2
  rw[List.take_succ_eq_append_getElem hz2,←List.append_assoc,List.map_append (l₂:=[_])]
  simp[pv]
 ·rintro i7 b7 ⟨hr,hs,i,hi,el,Mg⟩
  have:i=a.kids.length:=by
   have:=congrArg List.length el
   simp at this; omega
  subst this
  refine o7 (q i7 b7 hr ?_ hs)
  rw[Mg,List.take_of_length_le (by simp; omega)]
theorem Mk{f:Bd}{a b:Tm}{D:Tm→Prop}(hf:∀p∈f,D p.1∧D p.2) (ha:D a) (hb:D b):∀p∈f++[(a,b)],D p.1∧D p.2:=by
 intro p hp
 rcases List.mem_append.mp hp with hp | hp
 ·exact hf p hp
 ·simp at hp; subst hp; exact⟨ha,hb⟩
theorem Be{f:Bd}{a b:Tm}(h:f6 f a=none):T7 f a b=f++[(a,b)]:=by unfold T7; rw[h]; rfl
theorem bP{D:Tm→Prop}{a b:List Tm}(ha:∀x∈a,D x) (hb:∀x∈b,D x):∀p∈a.zip b,D p.1∧D p.2:=λp hp=>by
 obtain⟨x,y⟩:=p
 have:=List.of_mem_zip hp
 exact⟨ha _ this.1,hb _ this.2⟩
theorem iX{l:List B}{Z:Loc}{Q:Bool→a7→Prop}:WC c n (.or l) Z O Q E=K6 c n l Z O Q E:=by simp only[WC]
theorem Cb{x:B}{l:List B}{Z:Loc}{Q:Bool→a7→Prop}:K6 c n (x::l) Z O Q E=WC c n x Z O (λb O=>if b=true then Q true O else K6 c n l Z O Q E) E:=by simp only[K6]
theorem bQ{Z:Loc}{Q:Bool→a7→Prop}:K6 c n [] Z O Q E=Q false O:=by simp only[K6]
theorem Xj(N:j7 c){boss equal:Bd}{ba ea:Addr}(hb:D7 Tm.v Tm.v boss ba O) (he:O ea=some (.list (equal.map pv))) (hB:∀p∈boss,LT p.1∧LT p.2) (hE:∀p∈equal,LT p.1∧LT p.2){m:Nat}(hm:m≤9000) (hz:equal.length≤1000){n:Nat}(hn:m+2≤n){r:Bool}(h:K3 m boss equal=some r){Z:Loc}
  (h0:Z 0=some (.ref ea)) (h1:Z 1=some (.ref ba))
  (q:∀b7,b8 (λ_=>False) O b7→Q (if r=true then .ref ba else .none) b7):o9 c n (Cs.drop 3) Z O (i4 Q) E:=by
 refine D0 ?_
 simp only[WX,h0,oI,eL]
 have hit:∀b7:a7,b8 (λ_=>False) O b7→u6 (.ref ea) b7 (equal.map pv):=λb7 s=>by simp[u6,s _ _ id he]
 refine⟨_,hit O (.refl _ _),by simp; omega,?_⟩
 refine s9 (λdone left Z b7=>Z 0=some (.ref ea)∧Z 1=some (.ref ba)∧b8 (λ_=>False) O b7∧∃dk lk:Bd,equal=dk++lk∧left=lk.map pv∧K3 m boss lk=some r)
  (λv Z b7=>v=.none∧r=false∧b8 (λ_=>False) O b7) (λ_ _ _ _ hI=>hit _ hI.2.2.1) ?_ _ [] _ _ _ ⟨h0,h1,.refl _ _,[],equal,rfl,rfl,h⟩ ?_ ?_
 ·rintro done x left Z b7 R ⟨h0,h1,s,dk,lk,ek,el,hall⟩ hnext _ hret
  cases lk with
  | nil=>simp at el
  | cons u lk =>
   simp only[List.map_cons,List.cons.injEq] at el
   obtain⟨rfl,rfl⟩:=el
   have hu:=hE u (by rw[ek]; simp)
   unfold K3 at hall
   simp only[pv,J7]
   have tw:∀{i:Nat}{t:Tm}{b:Bool}{b7:a7}{Q':Bool→a7→Prop},i=3∨i=4→LT t→E6 m boss t []=some b→b8 (λ_=>False) O b7→(b6 (b6 Z 3 u.1.v) 4 u.2.v) i=some t.v→(∀T9,b8 (λ_=>False) O T9→Q' (!b) T9) →
     WC c n (.not (.val (.call (.con (.fix (.ref 586))) [(.loc 1),(.loc i),(.lst [])]))) (b6 (b6 Z 3 u.1.v) 4 u.2.v) b7 Q' E:=by
    intro i t b b7 Q' hi ht hb' s' E0 q'
    have Bf:b6 (b6 Z 3 u.1.v) 4 u.2.v 1=some (.ref ba):=by simp[b6,h1]
    simp only[WC,WX,j0,E0,Bf,oI,eL]
    intro r1 hr1
    have s1:b8 (λ_=>False) b7 (i8 b7 r1 (.list [])):=b8.new hr1
    refine Mi N hB m hb' ((s'.trans s1) _ _ id hb) ht (path:=[]) (by simp) (by simp; omega) (b9 _ _ _) hn λo6 m9=>?_
    simp only[z2]
    exact q' _ ((s'.trans s1).trans m9)
   cases e1:E6 m boss u.1 [] with
   | none=>rw[e1] at hall; cases hall
   | some b1 =>
    rw[e1] at hall
    cases b1 with
    | false =>
     cases hall
     refine I3 ?_
     rw[iX,Cb]
     refine tw (.inl rfl) hu.1 e1 s (by simp[b6]) λo6 m9=>?_
     rw[if_pos (show(!false)=true from rfl)]
     refine⟨λ_=>?_,λe=>by cases e⟩
     refine i5 ?_
     simp only[WX]
     exact hret _ _ _ ⟨rfl,rfl,m9⟩
    | true =>
     cases e2:E6 m boss u.2 [] with
     | none=>rw[e2] at hall; cases hall
     | some b2 =>
      rw[e2] at hall
      refine I3 ?_
      rw[iX,Cb]
      refine tw (.inl rfl) hu.1 e1 s (by simp[b6]) λo6 m9=>?_
      rw[if_neg (show ¬(!true)=true by simp),Cb]
      refine tw (.inr rfl) hu.2 e2 m9 (by simp[b6]) λNu S8=>?_
      rw[bQ]
      cases b2 with
      | false =>
       cases hall
       rw[if_pos (show(!false)=true from rfl)]
       refine⟨λ_=>?_,λe=>by cases e⟩
       refine i5 ?_
       simp only[WX]
       exact hret _ _ _ ⟨rfl,rfl,S8⟩
      | true =>
       rw[if_neg (show ¬(!true)=true by simp)]
       refine⟨λe=>(by cases e),λ_=>?_⟩
       exact o7 (hnext _ _ ⟨by simp[b6,h0],by simp[b6,h1],S8,dk++[u],lk,by simp[ek],rfl,hall⟩)
 ·rintro Z b7 ⟨h0,h1,s,dk,lk,ek,el,hall⟩
  have:lk=[]:=by cases lk<;>simp at el ⊢
  subst this
  simp[K3] at hall
  subst hall
  refine i5 ?_
  simp only[WX,h1,oI,eL,i4]
  exact q b7 s
 ·rintro v Z b7 ⟨rfl,rfl,s'⟩
  exact q b7 s'
end
section
variable {c:Cx}{n:Nat}{O:a7}{Q:V→a7→Prop}{E:a7→Prop}
theorem y9{O b7:a7}{r:Addr}(s:b8 (λ_=>False) O b7) (h:b7 r=none):O r=none:=by
 cases q:O r with
 | none=>rfl
 | some o=>have:=s r o id q; rw[h] at this; cases this
theorem kU(N:j7 c){equal:Bd}{ea:Addr}(he:O ea=some (.list (equal.map pv))) (hE:∀p∈equal,LT p.1∧LT p.2){M m:Nat}(hM:M≤10000) (hm:m≤9000) (hz:equal.length≤1000){n:Nat}(hn:m+3≤n){res:Option Bd}(h:join M m equal=some res)
  (q0:res=none→∀b7,b8 (λ_=>False) O b7→Q .none b7)
  (q1:∀boss,res=some boss→∀b7 ba,b8 (λ_=>False) O b7→O ba=none→D7 Tm.v Tm.v boss ba b7→(∀p∈boss,LT p.1∧LT p.2)→Q (.ref ba) b7):l8 c n (.fix (.ref 593)) [.ref ea] O Q E:=by
 obtain⟨n,rfl⟩:∃m,n=m+1:=⟨n - 1,by omega⟩
 refine N.fn N.C.aJ rfl rfl ?_
 refine i6 ?_
 simp only[WX,j0]
 intro ba hba
 refine⟨b9 _ _ _,.inl (by simp[z0]),?_⟩
 have e0:i8 (i8 O ba (.dict [])) ba (.dict (G0 [] (z0 [])))=i8 O ba (.dict []):=by
  funext b; by_cases hb:b=ba<;>simp[i8,hb,z0,G0]
 rw[e0]
 have s0:b8 (λ_=>False) O (i8 O ba (.dict [])):=b8.new hba
 have sP:i8 O ba (.dict []) ba=some (.dict []):=b9 _ _ _
 generalize i8 O ba (.dict [])=H0 at s0 sP
 refine i6 ?_
 simp only[WX,b6,d8,gZ,oI,eL,show((0:Nat)=1)=False by simp,if_false,eK]
 refine⟨_,s0 _ _ id he,by simp; omega,.inl trivial,?_⟩
 intro td htd
 have Sy:cut (equal.map pv) none none=equal.map pv:=rfl
 rw[Sy]
 have s1:b8 (λ_=>False) H0 (i8 H0 td (.list (equal.map pv))):=b8.new htd
 have et:i8 H0 td (.list (equal.map pv)) td=some (.list (equal.map pv)):=b9 _ _ _
 have eb1:=s1 _ _ id sP
 have Mf:=y9 s0 htd
 have hne:ba≠td:=by rintro rfl; rw[htd] at sP; cases sP
 have Vd:=s0.trans s1
 generalize i8 H0 td (.list (equal.map pv))=t9 at s1 et eb1 Vd
 obtain⟨jr,hj⟩:∃jr,D1 M [] equal=some jr:=by
  unfold join at h
  cases q:D1 M [] equal with
  | none=>rw[q] at h; cases h
  | some jr=>exact⟨jr,rfl⟩
 unfold join at h
 rw[hj] at h
 refine Pv (λk i7 b7=>i7 0=some (.ref ea)∧i7 1=some (.ref ba)∧i7 2=some (.ref td)∧∃boss todo:Bd,D1 k boss todo=some jr∧boss.length+k≤10000∧todo.length+2 * k≤30000∧D7 Tm.v Tm.v boss ba b7∧b7 td=some (.list (todo.map pv))∧b8 (λ_=>False) O b7∧(∀p∈boss,LT p.1∧LT p.2)∧(∀p∈todo,LT p.1∧LT p.2)) (k:=M)
  ⟨rfl,rfl,rfl,[],equal,hj,by simp; omega,by omega,by unfold D7; simpa using eb1,et,Vd,by simp,hE⟩ ?_
 rintro k i7 b7 ⟨r0,r1,r2,boss,todo,hlp,hbz,htz,hb,ht,s,hB,hT⟩
 cases k with
 | zero=>cases hlp
 | succ k =>
  unfold D1 at hlp
  simp only[WC,WX,r2,oI,eL,z2,ht]
  refine⟨by simp only[List.length_map]; omega,?_⟩
  cases hla:todo.getLast? with
  | none =>
   rw[hla] at hlp
   cases hlp
   have:todo=[]:=List.getLast?_eq_none_iff.mp hla
   subst this
   refine⟨λe=>by simp at e,λ_=>?_⟩
   simp only[] at h
   cases he2:K3 m boss equal with
   | none=>rw[he2] at h; cases h
   | some r =>
    rw[he2] at h
    refine Xj N hb (s _ _ id he) hB hE hm hz (by omega) he2 r0 r1 λo6 m9=>?_
    cases r with
    | true =>
     cases h
     exact q1 boss rfl o6 ba (s.trans m9) hba (m9 _ _ id hb) hB
    | false =>
     cases h
     exact q0 rfl o6 (s.trans m9)
  | some p =>
   rw[hla] at hlp
   have hsp:todo=todo.dropLast++[p]:=by
    have hne:todo≠[]:=by rintro rfl; cases hla
    rw[List.getLast?_eq_some_getLast hne] at hla
    cases hla
    exact(List.dropLast_concat_getLast hne).symm
   have hdl:todo.dropLast.length+1=todo.length:=by
    have:=congrArg List.length hsp; simp only[List.length_append,List.length_cons,List.length_nil] at this; omega
   have hp:LT p.1∧LT p.2:=hT p (by rw[hsp]; simp)
   have hT':∀p∈todo.dropLast,LT p.1∧LT p.2:=λx hx=>hT x (List.dropLast_subset _ hx)
   have hne0:todo.map pv≠[]:=by rw[hsp]; simp
   refine⟨λ_=>?_,λe=>absurd hne0 (by simpa using e)⟩
   refine aO ?_
   simp only[WX,j0,r2,oI,eL]
   refine⟨_,.inl ⟨_,_,rfl,ht,.inr (.inr ⟨rfl,rfl⟩)⟩,?_⟩
   have bR:b7 td=some (.list (todo.dropLast.map pv++[pv p])):=by
    rw[ht]; congr 2; conv=>lhs; rw[hsp]
    simp
   refine Zk bR (by simp only[List.length_map]; omega) ?_
   have n4:∀b,b≠td→i8 b7 td (.list (todo.dropLast.map pv)) b=b7 b:=λb hb=>i9 hb
   have e4:i8 b7 td (.list (todo.dropLast.map pv)) td=some (.list (todo.dropLast.map pv)):=b9 _ _ _
   generalize i8 b7 td (.list (todo.dropLast.map pv))=x9 at n4 e4
   have hb4:D7 Tm.v Tm.v boss ba x9:=by unfold D7; rw[n4 _ hne]; exact hb
   have s4:b8 (λ_=>False) O x9:=λb o hb eb=>by
    rw[n4 b (fresh_ne Mf eb)]; exact s b o hb eb
   simp only[pv,J7]
   dsimp only at hlp
   split at hlp
   rotate_left
   ·cases hlp
   rename_i a b kL kM
   have ha:LT a:=E9 (D:=LT) (λp hp=>(hB p hp).2) hp.1 kL
   have hb':LT b:=E9 (D:=LT) (λp hp=>(hB p hp).2) hp.2 kM
   refine i6 ?_
   simp only[WX,j0,b6,r1,oI,eL,if_true,show((1:Nat)=4)=False by simp,show((1:Nat)=3)=False by simp,show((3:Nat)=4)=False by simp,if_false]
   refine Sx N hb4 hB kL hp.1 (by omega) ?_
   refine i6 ?_
   simp only[WX,j0,b6,r1,oI,eL,if_true,show((1:Nat)=4)=False by simp,show((1:Nat)=3)=False by simp,show((4:Nat)=3)=False by simp,if_false]
   refine Sx N hb4 hB kM hp.2 (by omega) ?_
   have E0:∀Z:Loc,Z=b6 (b6 (b6 (b6 i7 3 p.1.v) 4 p.2.v) 3 a.v) 4 b.v→Z 0=some (.ref ea)∧Z 1=some (.ref ba)∧Z 2=some (.ref td)∧Z 3=some a.v∧Z 4=some b.v:=by
    rintro Z rfl
    exact⟨by simp[b6,r0],by simp[b6,r1],by simp[b6,r2],by simp[b6],by simp[b6]⟩
   obtain⟨g0,g1,g2,g3,g4⟩:=E0 _ rfl
   change o9 c n _ (b6 (b6 (b6 (b6 i7 3 p.1.v) 4 p.2.v) 3 a.v) 4 b.v) x9 _ E
   generalize b6 (b6 (b6 (b6 i7 3 p.1.v) 4 p.2.v) 3 a.v) 4 b.v=Z at g0 g1 g2 g3 g4
   have nb:f6 boss a=none:=w6 kL
   have sQ:f6 boss b=none:=w6 kM
   refine l0 (decide (a=b)) (λR E q=>?_) (λe=>?_) (λe=>?_)
   ·simp only[WC,WX,g3,g4,oI,eL]
    have:=λR=>bM (c:=c) (O:=x9) ha hb' (R:=R)
    rw[this]; exact q
   ·rw[if_pos (by simpa using e)] at hlp
    refine aQ ?_
    exact⟨k,by omega,g0,g1,g2,boss,todo.dropLast,hlp,by omega,by omega,hb4,e4,s4,hB,hT'⟩
   rw[if_neg (by simpa using e)] at hlp
   have inx:∀{t:Tm}{i:Nat}{R:Bool→a7→Prop}{E:a7→Prop},LT t→Z i=some t.v→R t.hd.isVar x9→WC c n (.cmp .In (.sub (.loc i) (.con (.int 0))) (.con (.str (Str.ofString "xym")))) Z x9 R E:=by
    intro t i R E ht' hi q
    simp only[WC,WX,hi,oI,eL]
    rw[Mj]
    have:=λR=>bO (c:=c) (O:=x9) ht' (R:=R)
    rw[this]; exact q
   have vQ:∀{x y:Tm},LT x→LT y→f6 boss x=none→∀{R:a7→Prop},(∀C7,D7 Tm.v Tm.v (boss++[(x,y)]) ba C7→C7 td=some (.list (todo.dropLast.map pv))→b8 (λ_=>False) O C7→R C7)→Di (.ref ba) x.v y.v x9 R:=by
    intro x y hx hy hn R q
    refine hb4.W2 (v:=y) Cw (λp hp=>(hB p hp).1) (by omega) hx λC7 e5 n5=>?_
    rw[Be hn] at e5
    exact q C7 e5 (by rw[n5 _ hne.symm]; exact e4) (λb o hb eb=>by rw[n5 b (fresh_ne hba eb)]; exact s4 b o hb eb)
   refine l0 a.hd.isVar (λR E q=>inx ha g3 q) (λev=>?_) (λev=>?_)
   ·rw[if_pos ev] at hlp
    refine H4 ?_
    simp only[WX,g1,g3,g4,oI,eL]
    refine vQ ha hb' nb λC7 e5 t5 s5=>?_
    exact o7 ⟨k,by omega,g0,g1,g2,boss++[(a,b)],todo.dropLast,hlp,by simp; omega,by omega,e5,t5,s5,Mk hB ha hb',hT'⟩
   rw[if_neg (by simp[ev])] at hlp
   refine l0 b.hd.isVar (λR E q=>inx hb' g4 q) (λev=>?_) (λev=>?_)
   ·rw[if_pos ev] at hlp
    refine H4 ?_
    simp only[WX,g1,g3,g4,oI,eL]
    refine vQ hb' ha sQ λC7 e5 t5 s5=>?_
    exact o7 ⟨k,by omega,g0,g1,g2,boss++[(b,a)],todo.dropLast,hlp,by simp; omega,by omega,e5,t5,s5,Mk hB hb' ha,hT'⟩
   rw[if_neg (by simp[ev])] at hlp
   refine l0 (!decide (a.hd=b.hd)) (λR E q=>?_) (λeh=>?_) (λeh=>?_)
   ·simp only[WC,WX,g3,g4,oI,eL]
    rw[Mj,Mj]
    have:=λR=>bN (c:=c) (O:=x9) (Cv a.hd) (Cv b.hd) (R:=R)
    rw[this]
    rw[show decide (a.hd.cd=b.hd.cd)=decide (a.hd=b.hd) by rw[decide_eq_decide]; exact⟨kT _ (F4 ha.1) _ (F4 hb'.1),λe=>by rw[e]⟩]
    exact q
   ·rw[if_pos (by simpa using eh)] at hlp
    cases hlp
    cases h
    refine i5 ?_
    simp only[WX,i4]
    exact q0 rfl x9 s4
   have ehd:a.hd=b.hd:=by simpa using eh
   rw[if_neg (by simpa using ehd)] at hlp
   refine H4 ?_
   simp only[WX,g1,g3,g4,oI,eL]
   refine vQ ha hb' nb λC7 e5 t5 s5=>?_
   have hal:=Bc ha.1 hb'.1 ehd
   have hkl:=v9 a
   refine Xi N ha hb' hal t5 (by omega) g2 g3 g4 λρ6 Y5 kV t6 n6=>?_
   refine⟨k,by omega,by rw[kV 0 (by omega)]; exact g0,by rw[kV 1 (by omega)]; exact g1,by rw[kV 2 (by omega)]; exact g2,boss++[(a,b)],todo.dropLast++a.kids.zip b.kids,hlp,by simp; omega,?_,?_,t6,?_,Mk hB ha hb',?_⟩
   ·simp only[List.length_append,List.length_zip]; omega
   ·unfold D7; rw[n6 _ hne]; exact e5
   ·exact λb o hb eb=>by rw[n6 b (fresh_ne Mf eb)]; exact s5 b o hb eb
   ·intro p hp
    rcases List.mem_append.mp hp with hp | hp
    ·exact hT' p hp
    ·exact bP (λx hx=>ha.kid hx) (λx hx=>hb'.kid hx) p hp
end
theorem kW:Str.ofString "x"=⟨#[120]⟩:=by decide +kernel
theorem sR:Str.ofString "y"=⟨#[121]⟩:=by decide +kernel
theorem w_m:Str.ofString "m"=⟨#[109]⟩:=by decide +kernel
theorem vR:Str.ofString "i"=⟨#[105]⟩:=by decide +kernel
theorem vS:Str.ofString "s"=⟨#[115]⟩:=by decide +kernel
theorem w_a:Str.ofString "a"=⟨#[97]⟩:=by decide +kernel
theorem iY:Str.ofString "&"=⟨#[38]⟩:=by decide +kernel
theorem w_r:Str.ofString "r"=⟨#[114]⟩:=by decide +kernel
theorem fU:Str.ofString "S"=⟨#[83]⟩:=by decide +kernel
theorem w_R:Str.ofString "R"=⟨#[82]⟩:=by decide +kernel
theorem w_Q:Str.ofString "Q"=⟨#[81]⟩:=by decide +kernel
theorem w_N:Str.ofString "N"=⟨#[78]⟩:=by decide +kernel
theorem sS:Str.ofString "G"=⟨#[71]⟩:=by decide +kernel
theorem w_e:Str.ofString "e"=⟨#[101]⟩:=by decide +kernel
theorem w_C:Str.ofString "C"=⟨#[67]⟩:=by decide +kernel
theorem w_L:Str.ofString "L"=⟨#[76]⟩:=by decide +kernel
theorem w_M:Str.ofString "M"=⟨#[77]⟩:=by decide +kernel
theorem w_D:Str.ofString "D"=⟨#[68]⟩:=by decide +kernel
theorem w_V:Str.ofString "V"=⟨#[86]⟩:=by decide +kernel
theorem w_u:Str.ofString "u"=⟨#[117]⟩:=by decide +kernel
theorem vT:Str.ofString "xy"=⟨#[120,121]⟩:=by decide +kernel
theorem pW:Str.ofString "iso"=⟨#[105,115,111]⟩:=by decide +kernel
theorem kX:Str.ofString "CLMD"=⟨#[67,76,77,68]⟩:=by decide +kernel
def P6:List (V×V):=[(one 83,vi 64),(one 82,vi 65),(one 81,vi 66),(one 78,vi 67),(one 71,vi 68),(one 101,vi 69),(one 67,vi 70),(one 76,vi 71),(one 77,vi 72),(one 68,vi 73),(one 86,vi 74),(one 117,vi 75)]
def bS:List (Nat×Nat):=[(83,64),(82,65),(81,66),(78,67),(71,68),(101,69),(67,70),(76,71),(77,72),(68,73),(86,74),(117,75)]
theorem Cc:∀(l acc:List (V×V)),((acc++l).map (·.1)).Nodup→G0 acc l=acc++l
 | [],acc,_=>by simp[G0]
 | p::l,acc,h=>by
  unfold G0
  have hn:x6 acc p.1=none:=by
   unfold x6
   simp only[Option.map_eq_none_iff,List.find?_eq_none,decide_eq_true_eq]
   intro x hx e
   rw[List.map_append,List.nodup_append] at h
   exact h.2.2 _ (List.mem_map_of_mem hx) p.1 (by simp) e
  rw[K4 hn,Cc l _ (by simpa using h)]
  simp
theorem Sz:(P6.map (·.1)).Nodup:=by
 simp[P6,one_inj]
theorem Qi:∀(l:List (Nat×Nat)) (k:Nat),x6 (l.map λp=>(one p.1,vi p.2)) (one k)=(l.lookup k).map vi
 | [],k=>rfl
 | p::l,k=>by
  have ih:=Qi l k
  unfold x6 at ih ⊢
  obtain⟨a,b⟩:=p
  by_cases h:a=k
  ·subst h; simp
  ·have h1:one a≠one k:=λe=>h (one_inj.mp e)
   have h2:(k == a)=false:=by simp; exact λe=>h e.symm
   rw[List.map_cons,List.find?_cons_of_neg (by simpa using h1),ih]
   simp[List.lookup,h2]
theorem fV:∀h∈M0,h.isNamed=true→x6 P6 (one h.cd)=some (vi h.tid):=by
 intro h hh hn
 have:=Qi bS h.cd
 rw[show(bS.map λp=>(one p.1,vi p.2))=P6 from rfl] at this
 rw[this]
 have key:∀h∈M0,h.isNamed=true→bS.lookup h.cd=some h.tid:=by decide
 rw[key h hh hn]; rfl
structure J4(K:I8) (T:List Tm) (f:Bd) (nm:Addr) (O:a7):Prop where
 kt:j5 K T O
 nd:D7 (λt=>vi (T.idxOf t)) Tm.v f nm O
 ne:nm≠K.i
 all:∀p∈f,p.1∈T∧p.2=p.1
 keys:(f.map (·.1)).Nodup
 clo:∀p∈f,∀a∈p.1.kids,(f6 f a).isSome=true
def dZ(f f':Bd):Prop:=∀x,(f6 f x).isSome=true→(f6 f' x).isSome=true
section
variable {c:Cx}{n:Nat}{O:a7}{K:I8}{T:List Tm}{Q:V→a7→Prop}{E:a7→Prop}{nm:Addr}{f:Bd}
theorem J4.same(u:J4 K T f nm O){b7:a7}(h:b8 (λ_=>False) O b7):J4 K T f nm b7 :=
 ⟨u.kt.same h,h _ _ id u.nd,u.ne,u.all,u.keys,u.clo⟩
theorem J4.few(u:J4 K T f nm O):f.length≤T.length:=by
 have:=w9 u.keys λx hx=>by obtain⟨p,hp,rfl⟩:=List.mem_map.mp hx; exact(u.all p hp).1
 simpa using this
theorem J4.Im(u:J4 K T f nm O):¬K.F nm:=u.kt.Uv u.nd u.ne
theorem J4.grow(u:J4 K T f nm O){T':List Tm}{m:Nat}{b7:a7}(g:Gr T T' m) (k:j5 K T' b7) (s:b8 K.F O b7):J4 K T' f nm b7:=by
 refine⟨k,?_,u.ne,λp hp=>⟨g.mem (u.all p hp).1,(u.all p hp).2⟩,u.keys,u.clo⟩
 have:=s _ _ u.Im u.nd
 unfold D7
 rw[this]
 congr 2
 exact List.map_congr_left λp hp=>by simp only[g.idx (u.all p hp).1]
theorem bT{f:Bd}{k v:Tm}:dZ f (T7 f k v):=by
 intro x hx
 unfold T7
 split
 ·rename_i hh
  clear hh
  induction f with
  | nil=>simp[f6] at hx
  | cons p f ih =>
   simp only[List.map_cons,f6]
   unfold f6 at hx
   have ep:(if p.1=k then (p.1,v) else p).1=p.1:=by split<;>rfl
   rw[ep]
   by_cases h1:p.1=x
   ·simp[h1]
   ·rw[if_neg h1] at hx ⊢; exact ih hx
 ·rename_i hh
  clear hh
  induction f with
  | nil=>simp[f6] at hx
  | cons p f ih =>
   simp only[List.cons_append,f6]
   unfold f6 at hx
   by_cases h1:p.1=x
   ·simp[h1]
   ·rw[if_neg h1] at hx ⊢; exact ih hx
theorem bU(N:j7 c) (u:J4 K T f nm O){t:Tm}(ht:t∈T) (hk:∀a∈t.kids,(f6 f a).isSome=true){Z:Loc}(h1:Z 1=some (.ref nm)) (h2:Z 2=some t.v) (h6:Z 6=some (vi (T.idxOf t)))
  (q:∀f' b7,J4 K T f' nm b7→b8 (·=nm) O b7→dZ f f'→(f6 f' t).isSome=true→Q (vi (T.idxOf t)) b7) :
  o9 c n [(.I0 (.loc 1) (.loc 6) (.loc 2)),(.ret (.loc 6))] Z O (i4 Q) E:=by
 refine H4 ?_
 simp only[WX,h1,h2,h6,oI,eL]
 have hfew:=u.few
 have hsz:=u.kt.size
 have W2:=fun(R:a7→Prop) q=>u.nd.W2 (k:=t) (v:=t) A9 (λp hp=>(u.all p hp).1) (by omega) ht (R:=R) q
 refine W2 _ λt9 e1 n1=>?_
 refine i5 ?_
 simp only[WX,h6,oI,eL,i4]
 have s1:b8 (·=nm) O t9:=b8.of n1 rfl
 have hp:Plain (·=nm) O:=λb hb=>by subst hb; exact .inr ⟨_,u.nd⟩
 have ext:=bT (f:=f) (k:=t) (v:=t)
 refine q _ t9 ⟨u.kt.keep s1 (λb hb hF=>by subst hb; exact u.Im hF) hp,e1,u.ne,Md u.all ⟨ht,rfl⟩,Bz u.keys,?_⟩ s1 ext (by rw[Ju]; rfl)
 refine Md (P:=λp=>∀a∈p.1.kids,(f6 (T7 f t t) a).isSome=true) (λp hp a ha=>ext a (u.clo p hp a ha)) (λa ha=>ext a (hk a ha))
theorem kY{Z:Loc}{i k:Nat}{l:Array Nat}{x:Str}(hx:x=⟨l⟩) (h:Z i=some (one k)){R:Bool→a7→Prop}(q:R (decide (k∈l.toList)) O):WC c n (.cmp .In (.loc i) (.con (.str x))) Z O R E:=by
 subst hx
 simp only[WC,WX,h,oI,eL]
 have:=λR=>in_str (c:=c) (O:=O) (k:=k) (l:=l) (R:=R)
 rw[this]; exact q
theorem bV{k j:Nat}(hk:k < 128) (hj:j < 128){R:Bool→Prop}:G6 c .Eq (one k) (one j) O R=R (decide (k=j)):=by
 have e:decide (one k=one j)=decide (k=j):=by rw[decide_eq_decide]; exact one_inj
 rw[←e]
 have h1:=Z8 hk (d:=60)
 have h2:=Z8 hj (d:=60)
 unfold one at h1 h2 ⊢
 simp only[G6,EQ,eq_iff_iff]
 exact⟨λh=>h.2,λh=>⟨.inl ⟨rfl,rfl,h1,h2⟩,h⟩⟩
theorem U0{Z:Loc}{i k j:Nat}{x:Str}(hx:x=⟨#[j]⟩) (hk:k < 128) (hj:j < 128) (h:Z i=some (one k)){R:Bool→a7→Prop}(q:R (decide (k=j)) O):WC c n (.cmp .Eq (.loc i) (.con (.str x))) Z O R E:=by
 subst hx
 simp only[WC,WX,h,oI,eL]
 have:=λR=>bV (c:=c) (O:=O) hk hj (R:=R)
 rw[show V.str ⟨#[j]⟩=one j from rfl,this]; exact q
theorem pX(N:j7 c) (u:J4 K T f nm O){t:Tm}(hl:t.o5=true) (hok:t.ok=true) (hF:Fits t) (hk:∀a∈t.kids,a∈T∧(f6 f a).isSome=true) (hz:T.length < 100000){n:Nat}(hn:8≤n){Z:Loc}
  (h0:Z 0=some (.ref K.a)) (h1:Z 1=some (.ref nm)) (h2:Z 2=some t.v) (h3:Z 3=some (one t.hd.cd)) (h5:Z 5=some (.tup (t.kids.map λa=>vi (T.idxOf a))))
  (q:∀T' f' b7,Gr T T' 1→J4 K T' f' nm b7→b8 (CF K nm) O b7→t∈T'→dZ f f'→(f6 f' t).isSome=true→Q (vi (T'.idxOf t)) b7):o9 c n (Cr.drop 2) Z O (i4 Q) E:=by
 have hcd:=Cv t.hd
 have hst:=X9 hok
 have bD:∀{i7:Loc}{H0:a7},J4 K T f nm H0→b8 (λ_=>False) O H0→i7 1=some (.ref nm)→i7 2=some t.v→Yl K T t 1 H0 (λv O=>o9 c n [(.I0 (.loc 1) (.loc 6) (.loc 2)),(.ret (.loc 6))] (b6 i7 6 v) O (i4 Q) E) E:=by
  intro i7 H0 u0 s0 r1 r2
  refine⟨λ_ T' b7 g k s hm=>?_,λh=>absurd h (by unfold Fits at hF; omega)⟩
  exact bU N (u0.grow g k s) hm (λa ha=>(hk a ha).2) (by simp[b6,r1]) (by simp[b6,r2]) (by simp[b6]) λf' T9 u' s' e1 e2=>q T' f' T9 g u' ((s0.mono (λ_ h=>h.elim)).trans ((s.mono λ_ h=>.inl h).trans (s'.mono λ_ h=>.inr h))) hm e1 e2
 have hu:=bD (i7:=Z) u (.refl _ _) h1 h2
 have hat:∀{h:Hd},t.hd=h→decide (t.hd.cd=h.cd)=true:=λe=>by rw[e]; simp
 have hall:=F4 hl
 have bW:∀j,t=.leaf (.prim j)→j < 16→o9 c n [(.I0 (.loc 1) (.loc 6) (.loc 2)),(.ret (.loc 6))] (b6 Z 6 (.int j)) O (i4 Q) E:=by
  intro j e hj
  subst e
  have hm:=List.mem_of_getElem? (u.kt.tab.base j hj)
  have hx:T.idxOf (.leaf (.prim j))=j:=Ax u.kt.tab.nodup (u.kt.tab.base j hj)
  exact bU N u hm (λa ha=>(hk a ha).2) (by simp[b6,h1]) (by simp[b6,h2]) (by simp[b6,hx,vi]) λf' T9 u' s' e1 e2=>q T f' T9 (.refl _ _) u' (s'.mono λ_ h=>.inr h) hm e1 e2
 refine l0 (decide (t.hd.cd∈[120,121])) (λR E q=>kY vT h3 q) (λe=>?_) (λe=>?_)
 ·have:t=.leaf (.var 0)∨t=.leaf (.var 1):=by
   have key:∀h∈M0,decide (h.cd∈[120,121])=true→h=.var 0∨h=.var 1:=by decide
   have:=key _ hall e
   rcases t with h | ⟨h,a⟩ | ⟨h,a,b⟩
   ·simpa[Tm.hd] using this
   ·rcases this with e | e<;>simp only[Tm.hd] at e<;>subst e<;>simp[Tm.ok,Hd.fit] at hok
   ·rcases this with e | e<;>simp only[Tm.hd] at e<;>subst e<;>simp[Tm.ok,Hd.fit] at hok
  refine i6 ?_
  simp only[WX,j0,h0,oI,eL]
  refine U0 kW hcd (by omega) h3 ?_
  rcases this with rfl | rfl
  ·refine⟨λ_=>?_,λe=>by simp[Tm.hd,Hd.cd] at e⟩
   exact Mb N u.kt (i:=0) hz (by omega) hu
  ·refine⟨λe=>by simp[Tm.hd,Hd.cd] at e,λ_=>?_⟩
   exact Mb N u.kt (i:=1) hz (by omega) hu
 refine l0 (decide (t.hd.cd=109)) (λR E q=>U0 w_m hcd (by omega) h3 q) (λe1=>?_) (λe1=>?_)
 ·have:t=.leaf (.mvar 0):=by
   have key:∀h∈M0,decide (h.cd=109)=true→h=.mvar 0:=by decide
   have:=key _ hall e1
   rcases t with h | ⟨h,a⟩ | ⟨h,a,b⟩<;>simp only[Tm.hd] at this<;>subst this
   ·rfl
   ·simp[Tm.ok,Hd.fit] at hok
   ·simp[Tm.ok,Hd.fit] at hok
  subst this
  refine i6 ?_
  simp only[WX,j0,h0,oI,eL]
  exact aU N u.kt (i:=0) hz (by omega) hu
 refine l0 (decide (t.hd.cd∈[105,115,111])) (λR E q=>kY pW h3 q) (λe2=>?_) (λe2=>?_)
 ·have:t=.leaf (.prim 7)∨t=.leaf (.prim 13)∨t=.leaf (.prim 12):=by
   have key:∀h∈M0,decide (h.cd∈[105,115,111])=true→h=.prim 7∨h=.prim 13∨h=.prim 12:=by decide
   have:=key _ hall e2
   rcases t with h | ⟨h,a⟩ | ⟨h,a,b⟩
   ·simpa[Tm.hd] using this
   ·rcases this with e | e | e<;>simp only[Tm.hd] at e<;>subst e<;>simp[Tm.ok,Hd.fit] at hok
   ·rcases this with e | e | e<;>simp only[Tm.hd] at e<;>subst e<;>simp[Tm.ok,Hd.fit] at hok
  refine i6 ?_
  simp only[WX]
  refine U0 vR hcd (by omega) h3 ?_
  rcases this with e | e | e
  ·refine⟨λ_=>bW 7 e (by omega),λx=>?_⟩
   rw[e] at x; simp[Tm.hd,Hd.cd] at x
  ·refine⟨λx=>?_,λ_=>?_⟩
   ·rw[e] at x; simp[Tm.hd,Hd.cd] at x
   refine U0 vS hcd (by omega) h3 ?_
   refine⟨λ_=>bW 13 e (by omega),λx=>?_⟩
   rw[e] at x; simp[Tm.hd,Hd.cd] at x
  ·refine⟨λx=>?_,λ_=>?_⟩
   ·rw[e] at x; simp[Tm.hd,Hd.cd] at x
   refine U0 vS hcd (by omega) h3 ?_
   refine⟨λx=>?_,λ_=>bW 12 e (by omega)⟩
   rw[e] at x; simp[Tm.hd,Hd.cd] at x
 have hun:∀h:Hd,h=.arr∨h=.byref∨h=.P2→t.hd=h→∃a,t=.un h a:=by
  intro h hh e
  rcases t with g | ⟨g,a⟩ | ⟨g,a,b⟩<;>simp only[Tm.hd] at e<;>subst e
  ·rcases hh with rfl | rfl | rfl<;>simp[Tm.ok,Hd.fit] at hok
  ·exact⟨a,rfl⟩
  ·rcases hh with rfl | rfl | rfl<;>simp[Tm.ok,Hd.fit] at hok
 have vU:∀a,t.kids=[a]→S4 (.tup (t.kids.map λa=>vi (T.idxOf a))) (.int 0) O=λR=>R (vi (T.idxOf a)) O:=by
  intro a e
  funext R
  rw[e,show(V.int 0)=V.int ((0:Nat):Int) from rfl,v7 (v:=vi (T.idxOf a)) (by omega) rfl]
 refine l0 (decide (t.hd.cd=97)) (λR E q=>U0 w_a hcd (by omega) h3 q) (λe3=>?_) (λe3=>?_)
 ·have key:∀h∈M0,decide (h.cd=97)=true→h=.arr:=by decide
  obtain⟨a,rfl⟩:=hun _ (.inl rfl) (key _ hall e3)
  have ha:=hk a (by simp[Tm.kids])
  refine i6 ?_
  simp only[WX,j0,h0,h5,oI,eL,vU a rfl]
  exact fJ N u.kt ha.1 (hst a (by simp[Tm.kids])).2 hz (by omega) hu
 refine l0 (decide (t.hd.cd=38)) (λR E q=>U0 iY hcd (by omega) h3 q) (λe4=>?_) (λe4=>?_)
 ·have key:∀h∈M0,decide (h.cd=38)=true→h=.byref:=by decide
  obtain⟨a,rfl⟩:=hun _ (.inr (.inl rfl)) (key _ hall e4)
  have ha:=hk a (by simp[Tm.kids])
  refine i6 ?_
  simp only[WX,j0,h0,h5,oI,eL,vU a rfl]
  exact Xb N u.kt ha.1 (hst a (by simp[Tm.kids])).2 hz (by omega) hu
 refine l0 (decide (t.hd.cd=114)) (λR E q=>U0 w_r hcd (by omega) h3 q) (λe5=>?_) (λe5=>?_)
 ·have key:∀h∈M0,decide (h.cd=114)=true→h=.P2:=by decide
  obtain⟨a,rfl⟩:=hun _ (.inr (.inr rfl)) (key _ hall e5)
  have ha:=hk a (by simp[Tm.kids])
  refine i6 ?_
  simp only[WX,j0,h0,h5,oI,eL,vU a rfl]
  exact Xc N u.kt ha.1 (hst a (by simp[Tm.kids])).2 hz (by omega) hu
 have bX:t.hd.isNamed=true:=by
  have key:∀h∈M0,decide (h.cd∈[120,121])=false→decide (h.cd=109)=false→decide (h.cd∈[105,115,111])=false→decide (h.cd=97)=false→decide (h.cd=38)=false→decide (h.cd=114)=false→h.isNamed=true:=by decide
  exact key _ hall e e1 e2 e3 e4 e5
 refine i6 ?_
 simp only[WX,j0,fU,w_R,w_Q,w_N,sS,w_e,w_C,w_L,w_M,w_D,w_V,w_u]
 intro r hr
 refine⟨b9 _ _ _,.inr (.inl ?_),?_⟩
 ·intro k hk
  simp only[z0,List.map_cons,List.map_nil,List.mem_cons,List.not_mem_nil,or_false] at hk
  rcases hk with rfl | rfl | rfl | rfl | rfl | rfl | rfl | rfl | rfl | rfl | rfl | rfl<;>exact⟨_,rfl⟩
 rw[show z0 _=P6 from rfl,Cc P6 [] (by simpa using Sz)]
 have e00:i8 (i8 O r (.dict [])) r (.dict ([]++P6))=i8 O r (.dict P6):=by
  funext b; by_cases hb:b=r<;>simp[i8,hb]
 rw[e00]
 have s0:b8 (λ_=>False) O (i8 O r (.dict P6)):=b8.new hr
 have er:i8 O r (.dict P6) r=some (.dict P6):=b9 _ _ _
 have u0:=u.same s0
 generalize i8 O r (.dict P6)=H0 at s0 er u0
 have hsub:S4 (.ref r) (one t.hd.cd) H0=λR=>R (vi t.hd.tid) H0:=by
  funext R
  have hda:=fV _ hall bX
  simp only[S4,er,hda,oI,eL,eq_iff_iff,and_iff_right_iff_imp]
  refine λ_=>.inr (.inl ⟨_,rfl,λp hp=>?_⟩)
  simp only[P6,List.mem_cons,List.not_mem_nil,or_false] at hp
  rcases hp with rfl | rfl | rfl | rfl | rfl | rfl | rfl | rfl | rfl | rfl | rfl | rfl<;>exact⟨_,rfl⟩
 have hu0:=bD (i7:=b6 Z 7 (.ref r)) u0 s0 (by simp[b6,h1]) (by simp[b6,h2])
 refine i6 ?_
 simp only[WX]
 refine kY kX (k:=t.hd.cd) (by simp[b6,h3]) ?_
 have isC:∀h∈M0,h.isNamed=true→(decide (h.cd∈[67,76,77,68])=true→h=.cls h.tid)∧(decide (h.cd∈[67,76,77,68])=false→h=.val h.tid):=by decide
 have hC:=isC _ hall bX
 refine⟨λx=>?_,λx=>?_⟩
 ·simp only[j0,WX,b6,h0,h3,h5,oI,eL,if_true,show((0:Nat)=7)=False by simp,show((3:Nat)=7)=False by simp,show((5:Nat)=7)=False by simp,if_false,hsub]
  exact Ur N u0.kt (hC.1 x) hok (λa ha=>(hk a ha).1) hz (by omega) hu0
 ·simp only[j0,WX,b6,h0,h3,h5,oI,eL,if_true,show((0:Nat)=7)=False by simp,show((3:Nat)=7)=False by simp,show((5:Nat)=7)=False by simp,if_false,hsub]
  exact Us N u0.kt (hC.2 x) hok (λa ha=>(hk a ha).1) hz (by omega) hu0
end
theorem dZ.refl(f:Bd):dZ f f:=λ_ h=>h
theorem dZ.trans{a b c:Bd}(x:dZ a b) (y:dZ b c):dZ a c:=λz h=>y z (x z h)
theorem bY{t a:Tm}{m:Nat}(h:t.nest≤m+1) (ha:a∈t.kids):a.nest≤m:=by
 rcases t with h' | ⟨h',z⟩ | ⟨h',z,w⟩<;>simp[Tm.kids] at ha<;>simp only[Tm.nest] at h
 ·subst ha; omega
 ·rcases ha with rfl | rfl<;>omega
theorem Ga{t a:Tm}(h:t.o5=true) (ha:a∈t.kids):a.o5=true:=by
 rcases t with h' | ⟨h',x⟩ | ⟨h',x,y⟩<;>simp[Tm.kids] at ha<;>simp only[Tm.o5,Bool.and_eq_true] at h
 ·subst ha; exact h.2
 ·rcases ha with rfl | rfl
  ·exact h.1.2
  ·exact h.2
section
variable {c:Cx}{K:I8}{nm:Addr}
theorem R4(N:j7 c):∀(m:Nat){t:Tm}{T:List Tm}{f:Bd}{O:a7}{n:Nat}{Q:V→a7→Prop}{E:a7→Prop},t.nest≤m→t.o5=true→t.ok=true→Fits t→J4 K T f nm O→T.length+t.weight < 100000→m+12≤n →
  (∀T' f' b7,Gr T T' t.weight→J4 K T' f' nm b7→b8 (CF K nm) O b7→t∈T'→dZ f f'→(f6 f' t).isSome=true→Q (vi (T'.idxOf t)) b7)→l8 c n (.fix (.ref 548)) [.ref K.a,.ref nm,t.v] O Q E
 | 0,t,T,f,O,n,Q,E,hm,_,_,_,_,_,_,_=>by cases t<;>simp[Tm.nest] at hm<;>omega
 | m+1,t,T,f,O,n,Q,E,hm,hl,hok,hF,u,hz,hn,q=>by
  obtain⟨n,rfl⟩:∃m,n=m+1:=⟨n - 1,by omega⟩
  have hkl:=v9 t
  have hcl:=hok
  refine N.fn N.C.aE rfl rfl ?_
  refine i6 ?_
  simp only[WX,j0,d8,gZ,gS,oI,eL]
  rw[Mj]
  refine i6 ?_
  simp only[WX,j0,b6,d8,gZ,gS,oI,eL,show((2:Nat)=3)=False by simp,if_false]
  rw[C6 t]
  simp only[eK]
  refine⟨trivial,1,rfl,by omega,by simp,by simp; omega,?_⟩
  simp only[List.drop_succ_cons,List.drop_zero]
  refine⟨_,rfl,by simp; omega,?_⟩
  rw[←C6 t]
  refine C4 (λdone left acc b7=>∃(dk lk:List Tm) (T1:List Tm) (f1:Bd),t.kids=dk++lk∧left=lk.map Tm.v∧Gr T T1 (dk.map Tm.weight).sum∧J4 K T1 f1 nm b7∧b8 (CF K nm) O b7∧dZ f f1∧(∀x∈dk,x∈T1∧(f6 f1 x).isSome=true)∧acc=dk.map λx=>vi (T1.idxOf x))
   (λ_ _ _ _ _=>rfl) ?_ _ [] [] _ _ ⟨[],t.kids,T,f,rfl,rfl,.refl _ _,u,.refl _ _,.refl _,by simp,rfl⟩ ?_
  ·rintro done x left acc b7 R ⟨dk,lk,T1,f1,ek,el,g1,u1,s1,x1,hd,ea⟩ hsome _
   cases lk with
   | nil=>simp at el
   | cons y lk =>
    simp only[List.map_cons,List.cons.injEq] at el
    obtain⟨rfl,rfl⟩:=el
    have hy:y∈t.kids:=by rw[ek]; simp
    have hw:(dk.map Tm.weight).sum+y.weight+(lk.map Tm.weight).sum+1=t.weight:=by
     have:=N2 t
     rw[ek] at this
     simp at this; omega
    simp only[J7,M5,if_true,WX,j0,b6,d8,gZ,gS,oI,eL,show((0:Nat)=4)=False by simp,show((0:Nat)=3)=False by simp,show((1:Nat)=4)=False by simp,show((1:Nat)=3)=False by simp,if_false]
    refine R4 N m (bY hm hy) (Ga hl hy) (X9 hok y hy).1 (Qc hF hy) u1 (by have:=g1.2; omega) (by omega) λT2 f2 t8 g2 u2 s2 hm2 x2 hs2=>?_
    refine hsome _ _ ⟨dk++[y],lk,T2,f2,by simp[ek],rfl,by simpa using g1.trans g2,u2,s1.trans s2,x1.trans x2,?_,?_⟩
    ·intro z hz
     rcases List.mem_append.mp hz with hz | hz
     ·exact⟨g2.mem (hd z hz).1,x2 z (hd z hz).2⟩
     ·simp at hz; subst hz; exact⟨hm2,hs2⟩
    ·rw[ea,List.map_append]
     congr 1
     exact List.map_congr_left λz hz=>by rw[g2.idx (hd z hz).1]
  ·rintro acc b7 ⟨dk,lk,T1,f1,ek,el,g1,u1,s1,x1,hd,ea⟩ r hr
   have:lk=[]:=by cases lk<;>simp at el ⊢
   subst this
   rw[List.append_nil] at ek
   have hw:=N2 t
   rw[ek] at hw
   refine Ak (l:=acc) (b9 _ _ _) (by rw[ea,←ek]; simp; omega) ?_
   have s2:b8 (λ_=>False) b7 (i8 b7 r (.list acc)):=b8.new hr
   have u2:=u1.same s2
   generalize i8 b7 r (.list acc)=t8 at s2 u2
   rw[ea,←ek]
   refine pX N u2 hl hok hF (λa ha=>hd a (by rw[←ek]; exact ha)) (by have:=g1.2; omega) (by omega) rfl rfl rfl rfl rfl λT3 f3 A4 g3 u3 s3 iU x3 hs3=>?_
   exact q T3 f3 A4 ((g1.trans g3).mono (by omega)) u3 ((s1.trans (s2.mono λ_ h=>h.elim)).trans s3) iU (x1.trans x3) hs3
end
def tX:Tm:=.leaf (.var 0)
def tY:Tm:=.leaf (.var 1)
def tI:Tm:=.leaf (.prim 7)
def tS:Tm:=.leaf (.prim 13)
def Y9(k:Nat) (t:Tm):Prop:=t.o5=true∧t.ok=true∧t.nest≤k
theorem Y9.mono{k j:Nat}{t:Tm}(h:Y9 k t) (hj:k≤j):Y9 j t:=⟨h.1,h.2.1,by have:=h.2.2; omega⟩
theorem Y9.lt{k:Nat}{t:Tm}(h:Y9 k t) (hk:k≤8):LT t:=⟨h.1,by have:=h.2.2; omega⟩
theorem P7{k:Nat}{t:Tm}(h:drawn k t=true):Y9 (k+1) t∧t.stands=true:=⟨⟨(L9 h).1,(W5 h).1,(L9 h).2⟩,(W5 h).2⟩
theorem Bg(t:Tm):t.depth≤t.nest:=by
 induction t with
 | leaf h=>simp[Tm.depth,Tm.nest]
 | un h a ih=>have:h.Aw≤1:=by {cases h<;>simp[Hd.Aw]}; simp only[Tm.depth,Tm.nest]; omega
 | bin h a b iha ihb=>have:h.Aw≤1:=by {cases h<;>simp[Hd.Aw]}; simp only[Tm.depth,Tm.nest]; omega
theorem Jx(t:Tm):t.weight+1≤2 ^ t.nest:=by
 induction t with
 | leaf h=>simp[Tm.weight,Tm.nest]
 | un h a ih=>simp only[Tm.weight,Tm.nest,Nat.pow_add]; have:=Nat.one_le_two_pow (n:=a.nest); omega
 | bin h a b iha ihb =>
  simp only[Tm.weight,Tm.nest,Nat.pow_add]
  have h1:=Nat.pow_le_pow_right (show 0 < 2 by omega) (Nat.le_max_left a.nest b.nest)
  have h2:=Nat.pow_le_pow_right (show 0 < 2 by omega) (Nat.le_max_right a.nest b.nest)
  omega
theorem Y9.fits{k:Nat}{t:Tm}(h:Y9 k t) (hk:k≤12):Fits t:=by
 have h1:=Bg t
 have h2:=Jx t
 have h3:=h.2.2
 have h4:=Nat.pow_le_pow_right (show 0 < 2 by omega) (show t.nest≤12 by omega)
 exact⟨by omega,by omega⟩
theorem Y9.light{k:Nat}{t:Tm}(h:Y9 k t) (hk:k≤6):t.weight≤63:=by
 have h2:=Jx t
 have h3:=h.2.2
 have h4:=Nat.pow_le_pow_right (show 0 < 2 by omega) (show t.nest≤6 by omega)
 omega
theorem R5{f:Bd}{k:Nat}(hk:1≤k) (hv:∀p∈f,Y9 k p.2∧p.2.stands=true) (hkey:∀p∈f,∃h,p.1=.leaf h):∀{t:Tm},t.o5=true→t.ok=true→(t4 f t).o5=true∧(t4 f t).ok=true∧(t4 f t).nest+1≤t.nest+k∧(t.stands=true→(t4 f t).stands=true)
 | .leaf h,hl,ho=>by
  simp only[t4]
  cases e:f6 f (.leaf h) with
  | none=>exact⟨hl,ho,by simp[Tm.nest]; omega,id⟩
  | some u =>
   have:=hv _ (j8 e)
   exact⟨this.1.1,this.1.2.1,by have:=this.1.2.2; simp only[Tm.nest,Option.getD_some]; simp at this; omega,λ_=>this.2⟩
 | .un h a,hl,ho=>by
  have e:f6 f (.un h a)=none:=by
   cases e:f6 f (.un h a) with
   | none=>rfl
   | some u=>obtain⟨g,hg⟩:=hkey _ (j8 e); cases hg
  simp only[t4,e,Option.getD_none]
  simp only[Tm.o5,Tm.ok,Bool.and_eq_true] at hl ho
  have ih:=R5 hk hv hkey hl.2 ho.1.2
  refine⟨by simp only[Tm.o5,hl.1,ih.1,Bool.and_self],by simp only[Tm.ok,Bool.and_eq_true]; exact⟨⟨ho.1.1,ih.2.1⟩,ih.2.2.2 ho.2⟩,by simp only[Tm.nest]; omega,λx=>x⟩
 | .bin h a b,hl,ho=>by
  have e:f6 f (.bin h a b)=none:=by
   cases e:f6 f (.bin h a b) with
   | none=>rfl
   | some u=>obtain⟨g,hg⟩:=hkey _ (j8 e); cases hg
  simp only[t4,e,Option.getD_none]
  simp only[Tm.o5,Tm.ok,Bool.and_eq_true] at hl ho
  have i1:=R5 hk hv hkey hl.1.2 ho.1.1.1.2
  have i2:=R5 hk hv hkey hl.2 ho.1.1.2
  refine⟨by simp[Tm.o5,hl.1.1,i1.1,i2.1],by simp only[Tm.ok,Bool.and_eq_true]; exact⟨⟨⟨⟨ho.1.1.1.1,i1.2.1⟩,i2.2.1⟩,i1.2.2.2 ho.1.2⟩,i2.2.2.2 ho.2⟩,by simp only[Tm.nest]; omega,λx=>x⟩
section
variable {c:Cx}{n:Nat}{O:a7}{Q:V→a7→Prop}{E:a7→Prop}{nu at_:Addr}{B:Nat}
theorem Ve{Z:Loc}{bd:Bd}{l:List X}{vs:List V}(hx:∀(O:a7) (Q:List V→a7→Prop),Q vs O→j0 c n l Z O Q E) (hv:z0 vs=bd.map λp=>(p.1.v,p.2.v)) (hk:∀p∈bd,LT p.1) (hn:(bd.map (·.1)).Nodup)
  (q:∀r b7,O r=none→D7 Tm.v Tm.v bd r b7→b8 (λ_=>False) O b7→Q (.ref r) b7):WX c n (.dct l) Z O Q E:=by
 simp only[WX]
 intro r hr
 refine hx _ _ ⟨b9 _ _ _,.inr (.inr ?_),?_⟩
 ·rw[hv]
  intro k hk'
  simp only[List.map_map,List.mem_map,Function.comp] at hk'
  obtain⟨p,hp,rfl⟩:=hk'
  exact⟨Mh (hk p hp).2,Qh _⟩
 ·have e0:i8 (i8 O r (.dict [])) r (.dict (G0 [] (z0 vs)))=i8 O r (.dict (bd.map λp=>(p.1.v,p.2.v))):=by
   rw[hv,Cc]
   ·funext b; by_cases hb:b=r<;>simp[i8,hb]
   ·rw[List.nil_append,List.map_map]
    have:(bd.map ((·.1) ∘ λp=>(p.1.v,p.2.v)))=(bd.map (·.1)).map Tm.v:=by rw[List.map_map]; rfl
    rw[this,List.nodup_iff_pairwise_ne,List.pairwise_map]
    rw[List.nodup_iff_pairwise_ne] at hn
    refine List.Pairwise.imp_of_mem (fun {a b} ha hb hab e=>hab ?_) hn
    obtain⟨p,hp,rfl⟩:=List.mem_map.mp ha
    obtain⟨p',hp',rfl⟩:=List.mem_map.mp hb
    exact Cu (hk p hp).1 (hk p' hp').1 e
  rw[e0]
  exact q r _ hr (b9 _ _ _) (b8.new hr)
theorem kZ(N:j7 c) (h:K2 nu at_ B O) (hB:B+100≤1000000){n:Nat}(hn:20≤n) (q:∀a b,Y9 6 a→Y9 6 b→∀b7,K2 nu at_ (B+100) b7→b8 (·=at_) O b7→Q (.tup [a.v,b.v]) b7) :
  l8 c n (.fix (.ref 572)) [.ref nu,.ref at_] O Q E:=by
 obtain⟨n,rfl⟩:∃m,n=m+1:=⟨n - 1,by omega⟩
 refine N.fn N.C.aG rfl rfl ?_
 refine i6 ?_
 simp only[WX,j0,d8,gZ,gS,oI,eL]
 refine O2 N h (by omega) (k:=6) (by omega) (by omega) λway a4a t9 d1 s1=>?_
 refine i6 ?_
 simp only[WX,j0,b6,d8,gZ,gS,oI,eL,show((0:Nat)=2)=False by simp,show((1:Nat)=2)=False by simp,if_false]
 refine Fy N 2 d1 (by omega) (by omega) λone ho t8 d2 s2=>?_
 refine i6 ?_
 simp only[WX,j0,b6,d8,gZ,gS,oI,eL,show((0:Nat)=2)=False by simp,show((1:Nat)=2)=False by simp,show((0:Nat)=3)=False by simp,show((1:Nat)=3)=False by simp,if_false]
 refine Fy N 1 d2 (by omega) (by omega) λfirst hf A4 d3 s3=>?_
 refine i6 ?_
 simp only[WX,j0,b6,d8,gZ,gS,oI,eL,show((0:Nat)=2)=False by simp,show((1:Nat)=2)=False by simp,show((0:Nat)=3)=False by simp,show((1:Nat)=3)=False by simp,show((0:Nat)=4)=False by simp,show((1:Nat)=4)=False by simp,if_false]
 refine Fy N 1 d3 (by omega) (by omega) λsecond hs x9 d4 s4=>?_
 have o1:=P7 ho
 have f1:=P7 hf
 have g1:=P7 hs
 refine i6 ?_
 have E0:∀Z:Loc,Z=b6 (b6 (b6 (b6 (d8 [.ref nu,.ref at_]) 2 (vi way)) 3 one.v) 4 first.v) 5 second.v→Z 0=some (.ref nu)∧Z 1=some (.ref at_)∧Z 2=some (vi way)∧Z 3=some one.v∧Z 4=some first.v∧Z 5=some second.v:=by
  rintro Z rfl
  exact⟨by simp[b6,d8],by simp[b6,d8],by simp[b6],by simp[b6],by simp[b6],by simp[b6]⟩
 obtain⟨p0,p1,p2,p3,p4,p5⟩:=E0 _ rfl
 change WX c n _ (b6 (b6 (b6 (b6 (d8 [.ref nu,.ref at_]) 2 (vi way)) 3 one.v) 4 first.v) 5 second.v) x9 _ E
 generalize b6 (b6 (b6 (b6 (d8 [.ref nu,.ref at_]) 2 (vi way)) 3 one.v) 4 first.v) 5 second.v=Z at p0 p1 p2 p3 p4 p5
 have Cy:∀{f:X}{l:List X}{O:a7}{Q:V→a7→Prop},WX c n (.call f l) Z O Q E=WX c n f Z O (λfv O=>j0 c n l Z O (λvs O=>l8 c n fv vs O Q E) E) E:=by intros; simp only[WX]
 have G4:∀{x:X}{l:List X}{O:a7}{Q:List V→a7→Prop},j0 c n (x::l) Z O Q E=WX c n x Z O (λv O=>j0 c n l Z O (λvs O=>Q (v::vs) O) E) E:=by intros; simp only[j0]
 have Ml:∀{O:a7}{Q:List V→a7→Prop},j0 c n [] Z O Q E=Q [] O:=by intros; simp only[j0]
 have Io:∀{v:V}{O:a7}{Q:V→a7→Prop},WX c n (.con v) Z O Q E=Q v O:=by intros; simp only[WX]
 rw[Cy,Io,G4]
 simp only[WX,p3,oI,eL]
 rw[G4]
 refine Ve (bd:=[(tX,first),(tY,second)]) (vs:=[tX.v,first.v,tY.v,second.v]) (λO Q q=>?_) rfl ?_ (by simp[tX,tY]) ?_
 ·simp only[j0,WX,p4,p5,oI,eL,kW,sR]
  exact q
 ·intro p hp
  simp only[List.mem_cons,List.not_mem_nil,or_false] at hp
  rcases hp with rfl | rfl<;>exact⟨rfl,by simp[tX,tY,Tm.nest]⟩
 intro r5 C7 iV pY s5
 rw[Ml]
 have hkey:∀p∈[(tX,first),(tY,second)],LT p.1:=by
  intro p hp
  simp only[List.mem_cons,List.not_mem_nil,or_false] at hp
  rcases hp with rfl | rfl<;>exact⟨rfl,by simp[tX,tY,Tm.nest]⟩
 refine Fz N hkey 3 o1.1.2.2 pY (o1.1.lt (by omega)) (by omega) λY5 s6=>?_
 have t1:=R5 (f:=[(tX,first),(tY,second)]) (k:=2) (by omega) (by
  intro p hp
  simp only[List.mem_cons,List.not_mem_nil,or_false] at hp
  rcases hp with rfl | rfl
  ·exact f1
  ·exact g1) (by
  intro p hp
  simp only[List.mem_cons,List.not_mem_nil,or_false] at hp
  rcases hp with rfl | rfl<;>exact⟨_,rfl⟩) o1.1.1 o1.1.2.1
 have R6:Y9 4 (t4 [(tX,first),(tY,second)] one)∧(t4 [(tX,first),(tY,second)] one).stands=true:=⟨⟨t1.1,t1.2.1,by have:=o1.1.2.2; have:=t1.2.2.1; omega⟩,t1.2.2.2 o1.2⟩
 generalize t4 [(tX,first),(tY,second)] one=two at R6
 have hna:¬(False:Prop):=id
 have mT:b8 (λ_=>False) x9 Y5:=s5.trans s6
 have d6:K2 nu at_ (B+1+3 ^ (2+1)+3 ^ (1+1)+3 ^ (1+1)) Y5:=d4.same mT id id
 have S6:b8 (·=at_) O Y5:=(((s1.trans s2).trans s3).trans s4).trans (mT.mono λ_ h=>h.elim)
 have p6:b6 Z 6 two.v 6=some two.v:=by simp[b6]
 have vV:b6 Z 6 two.v 0=some (.ref nu):=by simp[b6,p0]
 have p1':b6 Z 6 two.v 1=some (.ref at_):=by simp[b6,p1]
 have p2':b6 Z 6 two.v 2=some (vi way):=by simp[b6,p2]
 have mU:b6 Z 6 two.v 3=some one.v:=by simp[b6,p3]
 have p4':b6 Z 6 two.v 4=some first.v:=by simp[b6,p4]
 have p5':b6 Z 6 two.v 5=some second.v:=by simp[b6,p5]
 generalize b6 Z 6 two.v=Z at p6 vV p1' p2' mU p4' p5'
 refine Z7 (v:=(way:Int)) p2' (λ_=>?_) (λw0=>?_)
 ·refine i5 ?_
  simp only[WX,j0,vV,p1',mU,oI,eL]
  refine Fy N 2 d6 (by omega) (by omega) λt2 bR Dt d7 s7=>?_
  simp only[i4]
  exact q one t2 (o1.1.mono (by omega)) ((P7 bR).1.mono (by omega)) Dt (d7.mono (by omega)) (S6.trans s7)
 refine Z7 (v:=(way:Int)) p2' (λ_=>?_) (λw3=>?_)
 ·refine i5 ?_
  simp only[WX,j0,mU,p4',p5',p6,oI,eL,i4,w_D,kW,sR]
  refine q (.bin (.cls 73) tX (.bin (.cls 73) tY one)) (.bin (.cls 73) first (.bin (.cls 73) second two)) ⟨?_,?_,?_⟩ ⟨?_,?_,?_⟩ Y5 (d6.mono (by omega)) S6
  ·simp only[Tm.o5,o1.1.1]; rfl
  ·simp only[Tm.ok,o1.1.2.1,o1.2]; rfl
  ·have:=o1.1.2.2; simp only[Tm.nest,tX,tY]; omega
  ·simp only[Tm.o5,f1.1.1,g1.1.1,R6.1.1]; rfl
  ·simp only[Tm.ok,f1.1.2.1,g1.1.2.1,R6.1.2.1,f1.2,g1.2,R6.2]; rfl
  ·have:=f1.1.2.2; have:=g1.1.2.2; have:=R6.1.2.2; simp only[Tm.nest]; omega
 refine Z7 (v:=(way:Int)) p2' (λ_=>?_) (λw4=>?_)
 ·refine i5 ?_
  have Cy:∀{f:X}{l:List X}{O:a7}{Q:V→a7→Prop},WX c n (.call f l) Z O Q E=WX c n f Z O (λfv O=>j0 c n l Z O (λvs O=>l8 c n fv vs O Q E) E) E:=by intros; simp only[WX]
  have G4:∀{x:X}{l:List X}{O:a7}{Q:List V→a7→Prop},j0 c n (x::l) Z O Q E=WX c n x Z O (λv O=>j0 c n l Z O (λvs O=>Q (v::vs) O) E) E:=by intros; simp only[j0]
  have fW:∀{l:List X}{O:a7}{Q:V→a7→Prop},WX c n (.tup l) Z O Q E=j0 c n l Z O (λvs O=>Q (.tup vs) O) E:=by intros; simp only[WX]
  have Io:∀{v:V}{O:a7}{Q:V→a7→Prop},WX c n (.con v) Z O Q E=Q v O:=by intros; simp only[WX]
  have bZ:∀{i:Nat}{v:V}{O:a7}{Q:V→a7→Prop},Z i=some v→WX c n (.loc i) Z O Q E=Q v O:=by intro i v O Q h; simp only[WX,h,oI,eL]
  rw[fW,G4,bZ mU,G4,Cy,Io,G4,bZ p6,G4]
  refine Ve (bd:=[(tI,tS)]) (vs:=[tI.v,tS.v]) (λO Q q=>?_) rfl ?_ (by decide) ?_
  ·simp only[j0,WX,vR,vS]
   exact q
  ·intro p hp
   simp only[List.mem_cons,List.not_mem_nil,or_false] at hp
   subst hp; exact⟨rfl,by simp[tI,Tm.nest]⟩
  intro r7 Dt pZ db7 s7
  simp only[j0]
  refine Fz N (f:=[(tI,tS)]) (by
   intro p hp
   simp only[List.mem_cons,List.not_mem_nil,or_false] at hp
   subst hp; exact⟨rfl,by simp[tI,Tm.nest]⟩) 4 R6.1.2.2 db7 (R6.1.lt (by omega)) (by omega) λmV s8=>?_
  have t2:=R5 (f:=[(tI,tS)]) (k:=1) (by omega) (by
   intro p hp
   simp only[List.mem_cons,List.not_mem_nil,or_false] at hp
   subst hp; exact⟨⟨rfl,rfl,by simp[tS,Tm.nest]⟩,rfl⟩) (by
   intro p hp
   simp only[List.mem_cons,List.not_mem_nil,or_false] at hp
   subst hp; exact⟨_,rfl⟩) R6.1.1 R6.1.2.1
  simp only[i4]
  have s78:=s7.trans s8
  exact q one _ (o1.1.mono (by omega)) ⟨t2.1,t2.2.1,by have:=R6.1.2.2; have:=t2.2.2.1; omega⟩ mV ((d6.same s78 id id).mono (by omega)) (S6.trans (s78.mono λ_ h=>h.elim))
 refine Z7 (v:=(way:Int)) p2' (λ_=>?_) (λw5=>?_)
 ·refine i5 ?_
  simp only[WX,j0,vV,p1',mU,p6,oI,eL,iY]
  refine O2 N d6 (by omega) (k:=2) (by omega) (by omega) λj hj Dt d7 s7=>?_
  have wr:Str.ofString "&r"=⟨#[38,114]⟩:=by decide +kernel
  have k1:Y9 6 (.un .byref one):=⟨by simp only[Tm.o5,o1.1.1]; rfl,by simp only[Tm.ok,o1.1.2.1,o1.2]; rfl,by have:=o1.1.2.2; simp only[Tm.nest]; omega⟩
  have k2:Y9 6 (.un .byref two):=⟨by simp only[Tm.o5,R6.1.1]; rfl,by simp only[Tm.ok,R6.1.2.1,R6.2]; rfl,by have:=R6.1.2.2; simp only[Tm.nest]; omega⟩
  have k3:Y9 6 (.un .P2 two):=⟨by simp only[Tm.o5,R6.1.1]; rfl,by simp only[Tm.ok,R6.1.2.1,R6.2]; rfl,by have:=R6.1.2.2; simp only[Tm.nest]; omega⟩
  have d7':=d7.mono (show _≤B+100 by omega)
  have:j=0∨j=1:=by omega
  rcases this with rfl | rfl
  ·rw[wr,show vi 0=V.int ((0:Nat):Int) from rfl,A7 (u:=38) rfl (by omega)]
   simp only[i4]
   exact q _ _ k1 k2 Dt d7' (S6.trans s7)
  ·rw[wr,show vi 1=V.int ((1:Nat):Int) from rfl,A7 (u:=114) rfl (by omega)]
   simp only[i4]
   exact q _ _ k1 k3 Dt d7' (S6.trans s7)
 refine i5 ?_
 simp only[WX,j0,mU,p6,oI,eL,i4]
 exact q one two (o1.1.mono (by omega)) (R6.1.mono (by omega)) Y5 (d6.mono (by omega)) S6
end
section
variable {c:Cx}{n:Nat}{O:a7}{E:a7→Prop}{x dx C fI:Addr}{names:List Str}{l:List (Str×V)}{Z:Loc}{xs:List S}{Q:Fl→Loc→a7→Prop}
theorem Bh:∀(l:List (Str×V)) (x:Str) (v:V),(J3 l x v).length≤l.length+1
 | [],x,v=>by simp[J3]
 | (y,u)::r,x,v=>by
  unfold J3
  split
  ·simp
  ·have:=Bh r x v
   simp; omega
theorem look_same:∀(l:List (Str×V)) (x:Str) (v:V),(J3 l x v).lookup x=some v
 | [],x,v=>by simp[J3]
 | (y,u)::r,x,v=>by
  unfold J3
  split
  ·rename_i h; simp[h]
  ·rename_i h
   have:(x == y)=false:=by simp; exact λe=>h e.symm
   simp only[List.lookup_cons,this]; exact look_same r x v
theorem o8:∀(l:List (Str×V)) (x y:Str) (v:V),(y == x)=false→(J3 l x v).lookup y=l.lookup y
 | [],x,y,v,h=>by simp[J3,List.lookup_cons,h]
 | (z,u)::r,x,y,v,h=>by
  unfold J3
  split
  ·rename_i e
   have:(y == z)=false:=by rw[e]; exact h
   simp[List.lookup_cons,this]
  ·simp only[List.lookup_cons]
   split
   ·rfl
   ·exact o8 r x y v h
theorem Cz(F:v4 c C fI names){name:Str}(hx:name∈names){e:X}{v:V}(h0:Z 0=some (.ref x)) (hi:O x=some (.inst C dx)) (hn:O dx=some (.ns l)){k:Nat}(hl:l.length≤k) (hk:k≤900) (he:∀Q:V→a7→Prop,Q v O→WX c n e Z O Q E)
  (h:∀b7,(J3 l name v).length≤k+1→b7 dx=some (.ns (J3 l name v))→(∀b,b≠dx→b7 b=O b)→o9 c n xs Z b7 Q E):o9 c n (.q8 (.loc 0) name e::xs) Z O Q E:=by
 refine Lz (he _ ?_)
 simp only[WX,h0,oI,eL]
 exact⟨_,_,_,_,rfl,hi,hn,by omega,(F.attr name hx).2,h _ (Nat.le_trans (Bh ..) (by omega)) (b9 _ _ _) λb hb=>i9 hb⟩
theorem qA(F:v4 c C fI names){name:Str}(hx:name∈names){e:X}{o:z5}(h0:Z 0=some (.ref x)) (hi:O x=some (.inst C dx)) (hn:O dx=some (.ns l)){k:Nat}(hl:l.length≤k) (hk:k≤900)
  (he:∀Q:V→a7→Prop,(∀r,O r=none→Q (.ref r) (i8 O r o))→WX c n e Z O Q E)
  (h:∀r b7,(J3 l name (.ref r)).length≤k+1→O r=none→b7 r=some o→b7 dx=some (.ns (J3 l name (.ref r)))→(∀b,b≠dx→b≠r→b7 b=O b)→o9 c n xs Z b7 Q E):o9 c n (.q8 (.loc 0) name e::xs) Z O Q E:=by
 refine Lz (he _ λr hr=>?_)
 simp only[WX,h0,oI,eL]
 have h1:dx≠r:=fresh_ne hr hn
 refine⟨_,_,_,_,rfl,by rw[i9 (fresh_ne hr hi)]; exact hi,by rw[i9 h1]; exact hn,by omega,(F.attr name hx).2,h r _ (Nat.le_trans (Bh ..) (by omega)) hr ?_ (b9 _ _ _) λb hb hb2=>?_⟩
 ·rw[i9 h1.symm,b9]
 ·rw[i9 hb,i9 hb2]
theorem B1{Q:V→a7→Prop}(h:∀r,O r=none→Q (.ref r) (i8 O r (.list []))):WX c n (.lst []) Z O Q E:=by
 simpa only[WX,j0] using h
theorem H7{Q:V→a7→Prop}(h:∀r,O r=none→Q (.ref r) (i8 O r (.dict []))):WX c n (.dct []) Z O Q E:=by
 simp only[WX,j0]
 intro r hr
 refine⟨b9 _ _ _,.inl (by simp[z0]),?_⟩
 have e0:i8 (i8 O r (.dict [])) r (.dict (G0 [] (z0 [])))=i8 O r (.dict []):=by
  funext b; by_cases hb:b=r<;>simp[i8,hb,z0,G0]
 rw[e0]; exact h r hr
theorem Bi{v:V}{Q:V→a7→Prop}(h:Q v O):WX c n (.con v) Z O Q E:=by simpa only[WX] using h
theorem H9{i:Nat}{v:V}(hv:Z i=some v){Q:V→a7→Prop}(h:Q v O):WX c n (.loc i) Z O Q E:=by simpa only[WX,hv,oI,eL] using h
theorem cA{Q:V→a7→Prop}(h:Q (.int (-1)) O):WX c n (.neg (.con (.int 1))) Z O Q E:=by
 simp only[WX]; exact⟨1,rfl,h⟩
end
section
variable {c:Cx}{n:Nat}{O:a7}{Q:V→a7→Prop}{E:a7→Prop}
theorem j7.make(N:j7 c){C fI:Addr}{names:List Str}(F:v4 c C fI names){ps:List Str}{fs:FS}{xs:List S}(hc:D5 c.K c.k8 fI=some (ps,fs,xs)){vs:List V}(hlen:vs.length+1=ps.length){n:Nat}(hn:2≤n)
  (h:∀x dx b7,O x=none→O dx=none→x≠dx→b7 x=some (.inst C dx)→b7 dx=some (.ns [])→b8 (λ_=>False) O b7→o9 c (n - 2) xs (d8 (.ref x::vs)) b7 (i4 λv b7=>v=.none∧Q (.ref x) b7) E):l8 c n (.fix (.ref C)) vs O Q E:=by
 obtain⟨m,rfl⟩:∃m,n=m+1+1:=⟨n - 2,by omega⟩
 obtain⟨P,fI',cd,fd,Y⟩:=N.Y
 refine(call_cls N.G F.made F.init F.typ λx dx hx hdx hne=>?_).call
 refine Zz N.G Y hc (by simpa using hlen) ?_
 refine h x dx _ hx hdx hne (b9 _ _ _) (by rw[i9 hne.symm,b9]) ?_
 exact(b8.new hdx).trans (b8.new (by rw[i9 hne]; exact hx))
theorem Ta(N:j7 c){fid owner name access:V}{kind flags:Nat}{n:Nat}(hn:2≤n)
  (q:∀x dx b7,O x=none→O dx=none→b8 (λ_=>False) O b7→b7 x=some (.inst 303 dx)→(∃l,b7 dx=some (.ns l)∧l.lookup (Str.ofString "flags")=some (vi flags)∧l.lookup (Str.ofString "kind")=some (vi kind))→Q (.ref x) b7) :
  l8 c n (.fix (.ref 303)) [fid,owner,name,vi kind,access,vi flags] O Q E:=by
 refine N.make N.fd N.C.Il rfl hn λx dx H0 hx hdx hne hi hns s=>?_
 refine Cz N.fd (by simp[E8]) rfl hi hns (k:=0) (by simp) (by omega) (λQ q=>H9 rfl q) λt9 l1 e1 n1=>?_
 refine Cz N.fd (by simp[E8]) rfl (by rw[n1 _ hne]; exact hi) e1 l1 (by omega) (λQ q=>H9 rfl q) λt8 l2 e2 n2=>?_
 refine Cz N.fd (by simp[E8]) rfl (by rw[n2 _ hne,n1 _ hne]; exact hi) e2 l2 (by omega) (λQ q=>H9 rfl q) λA4 l3 e3 n3=>?_
 refine Cz N.fd (by simp[E8]) rfl (by rw[n3 _ hne,n2 _ hne,n1 _ hne]; exact hi) e3 l3 (by omega) (λQ q=>H9 rfl q) λx9 l4 e4 n4=>?_
 refine Cz N.fd (by simp[E8]) rfl (by rw[n4 _ hne,n3 _ hne,n2 _ hne,n1 _ hne]; exact hi) e4 l4 (by omega) (λQ q=>H9 rfl q) λC7 l5 e5 n5=>?_
 refine Cz N.fd (by simp[E8]) rfl (by rw[n5 _ hne,n4 _ hne,n3 _ hne,n2 _ hne,n1 _ hne]; exact hi) e5 l5 (by omega) (λQ q=>H9 rfl q) λY5 l6 e6 n6=>?_
 refine Cz N.fd (by simp[E8]) rfl (by rw[n6 _ hne,n5 _ hne,n4 _ hne,n3 _ hne,n2 _ hne,n1 _ hne]; exact hi) e6 l6 (by omega) (λQ q=>Bi q) λDt l7 e7 n7=>?_
 refine o7 ⟨rfl,q x dx Dt hx hdx (λb o _ e=>?_) (by rw[n7 _ hne,n6 _ hne,n5 _ hne,n4 _ hne,n3 _ hne,n2 _ hne,n1 _ hne]; exact hi) ⟨_,e7,rfl,rfl⟩⟩
 have hb:=fresh_ne hdx e
 rw[n7 _ hb,n6 _ hb,n5 _ hb,n4 _ hb,n3 _ hb,n2 _ hb,n1 _ hb]
 exact s b o id e
structure Bl(C x dx:Addr) (H0:a7) (l:List (Str×V)) (k:Nat) (O:a7):Prop where
 hx:H0 x=none
 hdx:H0 dx=none
 ne:x≠dx
 inst:O x=some (.inst C dx)
 ns:O dx=some (.ns l)
 len:l.length≤k
 old:b8 (λ_=>False) H0 O
theorem E1{C fI x dx:Addr}{names:List Str}{l:List (Str×V)}{k:Nat}{Z:Loc}{xs:List S}{Q:Fl→Loc→a7→Prop}{H0:a7}(F:v4 c C fI names){name:Str}(hx:name∈names){e:X}{v:V}(B:Bl C x dx H0 l k O) (h0:Z 0=some (.ref x)) (hk:k≤900) (he:∀Q:V→a7→Prop,Q v O→WX c n e Z O Q E)
  (h:∀b7,Bl C x dx H0 (J3 l name v) (k+1) b7→(∀b,b≠dx→b7 b=O b)→o9 c n xs Z b7 Q E):o9 c n (.q8 (.loc 0) name e::xs) Z O Q E :=
 Cz F hx h0 B.inst B.ns B.len hk he λb7 l1 e1 n1=>h b7 ⟨B.hx,B.hdx,B.ne,by rw[n1 _ B.ne]; exact B.inst,e1,l1,λb o f e=>by rw[n1 b (fresh_ne B.hdx e)]; exact B.old b o f e⟩ n1
theorem z7{C fI x dx:Addr}{names:List Str}{l:List (Str×V)}{k:Nat}{Z:Loc}{xs:List S}{Q:Fl→Loc→a7→Prop}{H0:a7}(F:v4 c C fI names){name:Str}(hx:name∈names){e:X}{o:z5}(B:Bl C x dx H0 l k O) (h0:Z 0=some (.ref x)) (hk:k≤900) (he:∀Q:V→a7→Prop,(∀r,O r=none→Q (.ref r) (i8 O r o))→WX c n e Z O Q E)
  (h:∀r b7,O r=none→H0 r=none→b7 r=some o→r≠dx→Bl C x dx H0 (J3 l name (.ref r)) (k+1) b7→(∀b,b≠dx→b≠r→b7 b=O b)→o9 c n xs Z b7 Q E):o9 c n (.q8 (.loc 0) name e::xs) Z O Q E :=
 qA F hx h0 B.inst B.ns B.len hk he λr b7 l1 hr er e1 n1=>by
  have hrd:r≠dx:=(fresh_ne hr B.ns).symm
  have hr0:H0 r=none:=y9 B.old hr
  exact h r b7 hr hr0 er hrd ⟨B.hx,B.hdx,B.ne,by rw[n1 _ B.ne (fresh_ne hr B.inst)]; exact B.inst,e1,l1,λb o f e=>by rw[n1 b (fresh_ne B.hdx e) (fresh_ne hr0 e)]; exact B.old b o f e⟩ n1
theorem Xk(N:j7 c){x dx:Addr}{l:List (Str×V)}{pa va bo:Addr}{pl:List V}(hpl:pl.length≤100){k:Nat}{H0:a7}(B:Bl 282 x dx H0 l k O) (h1:l.lookup (Str.ofString "params")=some (.ref pa)) (h2:l.lookup (Str.ofString "variances")=some (.ref va)) (h3:l.lookup (Str.ofString "bounds")=some (.ref bo))
  (e1:O pa=some (.list [])) (e2:O va=some (.list [])) (e3:O bo=some (.list [])) (p0:H0 pa=none) (v0:H0 va=none) (b0:H0 bo=none) (ha:pa≠va∧pa≠bo∧va≠bo){Z:Loc}(r0:Z 0=some (.ref x)) (r6:Z 6=some (.tup pl)){xs:List S}{Q:Fl→Loc→a7→Prop}
  (q:∀i7 b7,(∀i,i≠8→i7 i=Z i)→Bl 282 x dx H0 l k b7→(∃lp,b7 pa=some (.list lp)∧lp.length=pl.length)→(∀b,b≠pa→b≠va→b≠bo→b7 b=O b)→o9 c n xs i7 b7 Q E) :
  o9 c n (.for (.one 8) (.loc 6) [(.exp (.meth (.attr (.loc 0) (Str.ofString "params")) (Str.ofString "append") [(.loc 8)])),(.exp (.meth (.attr (.loc 0) (Str.ofString "variances")) (Str.ofString "append") [(.con (.int 0))])),(.exp (.meth (.attr (.loc 0) (Str.ofString "bounds")) (Str.ofString "append") [(.tup [(.con (.int 0)),(.tup [])])]))]::xs) Z O Q E:=by
 refine D0 ?_
 simp only[WX,r6,oI,eL]
 refine⟨_,rfl,by omega,?_⟩
 have hne:∀a:Addr,(∃l,O a=some (.list l))→a≠x∧a≠dx:=λa ⟨l,e⟩=>⟨(by rintro rfl; rw[B.inst] at e; cases e),(by rintro rfl; rw[B.ns] at e; cases e)⟩
 obtain⟨sT,sU⟩:=hne pa ⟨_,e1⟩
 obtain⟨vW,vX⟩:=hne va ⟨_,e2⟩
 obtain⟨nb1,sQ⟩:=hne bo ⟨_,e3⟩
 have Uq:∀{b7:a7}{y:Str}{a:Addr}{R:V→Prop},b7 x=some (.inst 282 dx)→b7 dx=some (.ns l)→l.lookup y=some (.ref a)→y∈n0→R (.ref a)→H8 c (.ref x) y b7 R:=fun {b7 y a R} i1 i2 hy hm q=>⟨_,_,_,_,_,rfl,i1,i2,hy,(N.td.attr _ hm).1,rfl,q⟩
 refine s9 (λdone left i7 b7=>(∀i,i≠8→i7 i=Z i)∧done++left=pl∧(∃lp,b7 pa=some (.list lp)∧lp.length=done.length)∧(∃lv,b7 va=some (.list lv)∧lv.length=done.length)∧(∃lb,b7 bo=some (.list lb)∧lb.length=done.length)∧(∀b,b≠pa→b≠va→b≠bo→b7 b=O b))
  (λ_ _ _=>False) (λ_ _ _ _ _=>rfl) ?_ _ [] _ _ _ ⟨λ_ _=>rfl,rfl,⟨_,e1,rfl⟩,⟨_,e2,rfl⟩,⟨_,e3,rfl⟩,λ_ _ _ _=>rfl⟩ ?_ (λ_ _ _ h=>h.elim)
 ·rintro done y left i7 b7 R ⟨E0,hd,⟨lp,i1,j1⟩,⟨lv,i2,j2⟩,⟨lb,i3,j3⟩,hs⟩ hnext _ _
  have hlen:done.length+(left.length+1)=pl.length:=by rw[←hd]; simp
  simp only[J7]
  have g0:b6 i7 8 y 0=some (.ref x):=by simp[b6,E0 0 (by omega),r0]
  refine z6 ?_
  simp only[WX,j0,g0,oI,eL]
  have ix:=(hs x sT.symm vW.symm nb1.symm).trans B.inst
  have id:=(hs dx sU.symm vX.symm sQ.symm).trans B.ns
  refine Uq ix id h1 (by simp[n0]) ⟨_,.inl ⟨_,_,rfl,i1,.inl ⟨rfl,rfl⟩⟩,?_⟩
  simp only[b6,if_true,oI,eL]
  refine v3 i1 (by omega) ?_
  have m1:∀b,b≠pa→i8 b7 pa (.list (lp++[y])) b=b7 b:=λb hb=>i9 hb
  have k1:i8 b7 pa (.list (lp++[y])) pa=some (.list (lp++[y])):=b9 _ _ _
  generalize i8 b7 pa (.list (lp++[y]))=t9 at m1 k1
  refine z6 ?_
  change WX c n _ (b6 i7 8 y) t9 _ E
  simp only[WX,j0,g0,oI,eL]
  have i2':t9 va=some (.list lv):=by rw[m1 _ ha.1.symm]; exact i2
  refine Uq (by rw[m1 _ sT.symm]; exact ix) (by rw[m1 _ sU.symm]; exact id) h2 (by simp[n0]) ⟨_,.inl ⟨_,_,rfl,i2',.inl ⟨rfl,rfl⟩⟩,?_⟩
  refine v3 i2' (by omega) ?_
  have m2:∀b,b≠va→i8 t9 va (.list (lv++[.int 0])) b=t9 b:=λb hb=>i9 hb
  have k2:i8 t9 va (.list (lv++[.int 0])) va=some (.list (lv++[.int 0])):=b9 _ _ _
  generalize i8 t9 va (.list (lv++[.int 0]))=t8 at m2 k2
  refine z6 ?_
  simp only[WX,j0,g0,oI,eL]
  have i3':t8 bo=some (.list lb):=by rw[m2 _ ha.2.2.symm,m1 _ ha.2.1.symm]; exact i3
  refine Uq (by rw[m2 _ vW.symm,m1 _ sT.symm]; exact ix) (by rw[m2 _ vX.symm,m1 _ sU.symm]; exact id) h3 (by simp[n0]) ⟨_,.inl ⟨_,_,rfl,i3',.inl ⟨rfl,rfl⟩⟩,?_⟩
  refine v3 i3' (by omega) ?_
  refine o7 (hnext _ _ ⟨λi hi=>by simp[b6,hi,E0 i hi],by rw[←hd]; simp,⟨lp++[y],?_,by simp; omega⟩,⟨lv++[.int 0],?_,by simp; omega⟩,⟨_,b9 _ _ _,by simp; omega⟩,λb hb1 hb2 hb3=>?_⟩)
  ·rw[i9 ha.2.1,m2 _ ha.1,k1]
  ·rw[i9 ha.2.2,k2]
  ·rw[i9 hb3,m2 _ hb2,m1 _ hb1,hs b hb1 hb2 hb3]
 ·rintro i7 b7 ⟨E0,hd,⟨lp,i1,j1⟩,_,_,hs⟩
  have hd':pl.length=pl.length:=rfl
  refine q i7 b7 E0 ⟨B.hx,B.hdx,B.ne,(hs x sT.symm vW.symm nb1.symm).trans B.inst,(hs dx sU.symm vX.symm sQ.symm).trans B.ns,B.len,λb o f e=>?_⟩ ⟨lp,i1,by simpa using j1⟩ hs
  rw[hs b (fresh_ne p0 e) (fresh_ne v0 e) (fresh_ne b0 e)]; exact B.old b o f e
theorem Xl(N:j7 c){name flags base asm:V}{tid sort:Nat}{pl:List V}(hpl:pl.length≤100){n:Nat}(hn:2≤n)
  (q:∀x dx pa fa b7,O x=none→O dx=none→O pa=none→O fa=none→pa≠fa→b8 (λ_=>False) O b7→T8 b7 tid ⟨x,dx,pa,fa,sort,pl.length,[]⟩→Q (.ref x) b7) :
  l8 c n (.fix (.ref 282)) [vi tid,name,vi sort,flags,base,.tup pl,asm] O Q E:=by
 refine N.make N.td N.C.Lw rfl hn λx dx t9 hx hdx hne hi hns s=>?_
 have B0:Bl 282 x dx O [] 0 t9:=⟨hx,hdx,hne,hi,hns,by simp,s⟩
 refine E1 N.td (by simp[n0]) B0 rfl (by omega) (λQ q=>H9 rfl q) λt8 B2 n2=>?_
 refine E1 N.td (by simp[n0]) B2 rfl (by omega) (λQ q=>H9 rfl q) λA4 B3 n3=>?_
 refine E1 N.td (by simp[n0]) B3 rfl (by omega) (λQ q=>H9 rfl q) λx9 B4 n4=>?_
 refine E1 N.td (by simp[n0]) B4 rfl (by omega) (λQ q=>H9 rfl q) λC7 B5 n5=>?_
 refine E1 N.td (by simp[n0]) B5 rfl (by omega) (λQ q=>H9 rfl q) λY5 B6 n6=>?_
 refine z7 N.td (by simp[n0]) B6 rfl (by omega) (λQ q=>B1 q) λr7 Dt pZ vY e7 sV B7 n7=>?_
 refine z7 N.td (by simp[n0]) B7 rfl (by omega) (λQ q=>B1 q) λpa mV mS sW e8 mW B8 n8=>?_
 refine z7 N.td (by simp[n0]) B8 rfl (by omega) (λQ q=>B1 q) λva eG hr9 vZ e9 wA B9 n9=>?_
 have pv:pa≠va:=fresh_ne hr9 e8
 have e8':eG pa=some (.list []):=by rw[n9 _ mW pv]; exact e8
 refine z7 N.td (by simp[n0]) B9 rfl (by omega) (λQ q=>B1 q) λbo qB fX lA e10 qC B10 n10=>?_
 have pb:pa≠bo:=fresh_ne fX e8'
 have vb:va≠bo:=fresh_ne fX e9
 refine Xk N hpl B10 (by repeat (first | rw[o8 _ _ _ _ (by decide +kernel)] | exact look_same _ _ _)) (by repeat (first | rw[o8 _ _ _ _ (by decide +kernel)] | exact look_same _ _ _)) (by repeat (first | rw[o8 _ _ _ _ (by decide +kernel)] | exact look_same _ _ _)) (by rw[n10 _ mW pb]; exact e8') (by rw[n10 _ wA vb]; exact e9) e10 sW vZ lA ⟨pv,pb,vb⟩ rfl rfl λZ lB E0 B11 ⟨lp,hp,hpz⟩ n11=>?_
 have r0:Z 0=some (.ref x):=by rw[E0 0 (by omega)]; rfl
 have r7:Z 7=some asm:=by rw[E0 7 (by omega)]; rfl
 refine z7 N.td (by simp[n0]) B11 r0 (by omega) (λQ q=>B1 q) λfa qD wB wC sX wD B12 n12=>?_
 have pf:pa≠fa:=fresh_ne wB hp
 refine z7 N.td (by simp[n0]) B12 r0 (by omega) (λQ q=>B1 q) λr13 qE wF a4c e13 a4d B13 n13=>?_
 refine E1 N.td (by simp[n0]) B13 r0 (by omega) (λQ q=>H9 r7 q) λqF B14 n14=>?_
 refine E1 N.td (by simp[n0]) B14 r0 (by omega) (λQ q=>Bi q) λa4e B15 n15=>?_
 refine E1 N.td (by simp[n0]) B15 r0 (by omega) (λQ q=>cA q) λwG B16 n16=>?_
 refine z7 N.td (by simp[n0]) B16 r0 (by omega) (λQ q=>B1 q) λr17 wH wI a4f e17 a4g B17 n17=>?_
 refine z7 N.td (by simp[n0]) B17 r0 (by omega) (λQ q=>B1 q) λr18 wJ wK a4h e18 a4i B18 n18=>?_
 refine z7 N.td (by simp[n0]) B18 r0 (by omega) (λQ q=>B1 q) λr19 wL wM a4j e19 a4k B19 n19=>?_
 refine E1 N.td (by simp[n0]) B19 r0 (by omega) (λQ q=>Bi q) λa4l B20 n20=>?_
 refine E1 N.td (by simp[n0]) B20 r0 (by omega) (λQ q=>Bi q) λqG B21 n21=>?_
 have tail:∀a o,a≠dx→qD a=some o→qG a=some o:=by
  intro a o ha e
  have a13:qE a=some o:=by rw[n13 _ ha (fresh_ne wF e)]; exact e
  have a16:wG a=some o:=by rw[n16 _ ha,n15 _ ha,n14 _ ha]; exact a13
  have a17:wH a=some o:=by rw[n17 _ ha (fresh_ne wI a16)]; exact a16
  have a18:wJ a=some o:=by rw[n18 _ ha (fresh_ne wK a17)]; exact a17
  have a19:wL a=some o:=by rw[n19 _ ha (fresh_ne wM a18)]; exact a18
  rw[n21 _ ha,n20 _ ha]; exact a19
 refine o7 ⟨rfl,q x dx pa fa qG hx hdx sW wC pf B21.old ⟨B21.inst,⟨_,B21.ns,(by repeat (first | rw[o8 _ _ _ _ (by decide +kernel)] | exact look_same _ _ _)),(by repeat (first | rw[o8 _ _ _ _ (by decide +kernel)] | exact look_same _ _ _)),(by repeat (first | rw[o8 _ _ _ _ (by decide +kernel)] | exact look_same _ _ _)),(by repeat (first | rw[o8 _ _ _ _ (by decide +kernel)] | exact look_same _ _ _))⟩,⟨lp,tail _ _ mW ?_,hpz⟩,tail _ _ wD sX⟩⟩
 rw[n12 _ mW pf]; exact hp
end
def T0:List Tm:=(List.range 16).map λi=>.leaf (.prim i)
theorem cB:Hc T0 where
 base:=by decide
 nodup:=by decide
 ok:=by decide
 kids:=by decide
 deep:=by decide
 heavy:=by decide
def G9(i:Nat):V:=.tup [vi 1,vi i]
section
variable {c:Cx}{n:Nat}{O:a7}{Q:V→a7→Prop}{E:a7→Prop}
theorem cC(i:Nat):x6 ((List.range i).map λn=>(G9 n,vi n)) (G9 i)=none:=by
 unfold x6
 simp only[Option.map_eq_none_iff,List.find?_eq_none,decide_eq_true_eq,List.mem_map,List.mem_range]
 rintro p ⟨m,hm,rfl⟩ e
 simp[G9,vi] at e
 omega
theorem cD(i j:Nat):S5 (G9 i) ((List.range j).map λn=>(G9 n,vi n)):=by
 refine .inr (.inr ⟨by simp[G9,vi,V.hk,V.hks],_,rfl,λp hp=>?_⟩)
 obtain⟨m,_,rfl⟩:=List.mem_map.mp hp
 exact⟨_,rfl⟩
theorem fY(N:j7 c){x dx r i d w o:Addr}{l:List (Str×V)}{k:Nat}{H0:a7}(B:Bl 86 x dx H0 l k O) (hl:l=([("rows",.ref r),("index",.ref i),("depths",.ref d),("weights",.ref w),("opens",.ref o)]:List (Str×V)))
  (e1:O r=some (.list [])) (e2:O i=some (.dict [])) (e3:O d=some (.list [])) (e4:O w=some (.list [])) (e5:O o=some (.list [])) (f1:H0 r=none) (f2:H0 i=none) (f3:H0 d=none) (f4:H0 w=none) (f5:H0 o=none)
  (ha:[r,i,d,w,o].Nodup){Z:Loc}(r0:Z 0=some (.ref x)){Q:Fl→Loc→a7→Prop}
  (q:∀i7 b7,j5 ⟨x,dx,r,i,d,w,o⟩ T0 b7→b8 (λ_=>False) H0 b7→Q .next i7 b7):o9 c n (Ey.drop 5) Z O Q E:=by
 simp only[List.nodup_cons,List.mem_cons,not_or,List.not_mem_nil,not_false_eq_true,and_true] at ha
 obtain⟨⟨ri,rd,sY,ro⟩,⟨id,iw,io⟩,⟨dw,do_⟩,wo,_⟩:=ha
 have ri:r≠i:=ri
 have rd:r≠d:=rd
 have sY:r≠w:=sY
 have ro:r≠o:=ro
 have id:i≠d:=id
 have iw:i≠w:=iw
 have io:i≠o:=io
 have dw:d≠w:=dw
 have do_:d≠o:=do_
 have wo:w≠o:=wo
 refine D0 ?_
 simp only[WX,j0]
 refine K8 ⟨_,w7 16 (by omega),by simp,?_⟩
 have hx:∀a:Addr,(∃l,O a=some (.list l))∨(∃l,O a=some (.dict l))→a≠x∧a≠dx:=by
  rintro a (⟨l,e⟩ | ⟨l,e⟩)
  ·exact⟨(by rintro rfl; rw[B.inst] at e; cases e),(by rintro rfl; rw[B.ns] at e; cases e)⟩
  ·exact⟨(by rintro rfl; rw[B.inst] at e; cases e),(by rintro rfl; rw[B.ns] at e; cases e)⟩
 obtain⟨xr,dr⟩:=hx r (.inl ⟨_,e1⟩)
 obtain⟨xi,di⟩:=hx i (.inr ⟨_,e2⟩)
 obtain⟨xd,dd⟩:=hx d (.inl ⟨_,e3⟩)
 obtain⟨xw,wN⟩:=hx w (.inl ⟨_,e4⟩)
 obtain⟨xo,do'⟩:=hx o (.inl ⟨_,e5⟩)
 have Uq:∀{b7:a7}{y:Str}{a:Addr}{R:V→Prop},b7 x=some (.inst 86 dx)→b7 dx=some (.ns l)→l.lookup y=some (.ref a)→y∈v6→R (.ref a)→H8 c (.ref x) y b7 R:=fun {b7 y a R} i1 i2 hy hm q=>⟨_,_,_,_,_,rfl,i1,i2,hy,(N.kt.attr _ hm).1,rfl,q⟩
 refine s9 (λdone left i7 b7=>i7 0=some (.ref x)∧∃j,j≤16∧left=((List.range 16).map vi).drop j∧b7 r=some (.list ((List.range j).map G9))∧b7 i=some (.dict ((List.range j).map λn=>(G9 n,vi n)))∧b7 d=some (.list ((List.range j).map λ_=>vi 1))∧b7 w=some (.list ((List.range j).map λ_=>vi 1))∧b7 o=some (.list ((List.range j).map λ_=>vi 0)) ∧
   (∀b,b≠r→b≠i→b≠d→b≠w→b≠o→b7 b=O b)) (λ_ _ _=>False) (λ_ _ _ _ _=>w7 16 (by omega)) ?_ _ [] _ _ _ ⟨r0,0,by omega,rfl,e1,e2,e3,e4,e5,λ_ _ _ _ _ _=>rfl⟩ ?_ (λ_ _ _ h=>h.elim)
 ·rintro done y left i7 b7 R ⟨p0,j,hj,el,g1,g2,g3,g4,g5,hs⟩ hnext _ _
  obtain⟨hk,rfl,rfl⟩:=range_drop el
  have ix:=(hs x xr.symm xi.symm xd.symm xw.symm xo.symm).trans B.inst
  have idx:=(hs dx dr.symm di.symm dd.symm wN.symm do'.symm).trans B.ns
  simp only[J7]
  refine i6 ?_
  simp only[WX,j0,b6,if_true,oI,eL]
  have q0:∀v:V,b6 (b6 i7 1 (vi j)) 2 v 0=some (.ref x):=λv=>by simp[b6,p0]
  have q1:∀v:V,b6 (b6 i7 1 (vi j)) 2 v 1=some (vi j):=λv=>by simp[b6]
  have q2:∀v:V,b6 (b6 i7 1 (vi j)) 2 v 2=some v:=λv=>by simp[b6]
  have hrow:V.tup [V.int 1,vi j]=G9 j:=rfl
  rw[hrow]
  change o9 c n _ (b6 (b6 i7 1 (vi j)) 2 (G9 j)) b7 R E
  specialize q0 (G9 j)
  specialize q1 (G9 j)
  specialize q2 (G9 j)
  generalize b6 (b6 i7 1 (vi j)) 2 (G9 j)=Qj at q0 q1 q2
  refine z6 ?_
  simp only[WX,j0,q0,q2,oI,eL]
  refine Uq ix idx (by rw[hl]; rfl) (by simp[v6]) ⟨_,.inl ⟨_,_,rfl,g1,.inl ⟨rfl,rfl⟩⟩,?_⟩
  refine v3 g1 (by simp; omega) ?_
  have m1:∀b,b≠r→i8 b7 r (.list ((List.range j).map G9++[G9 j])) b=b7 b:=λb hb=>i9 hb
  have k1:i8 b7 r (.list ((List.range j).map G9++[G9 j])) r=some (.list ((List.range (j+1)).map G9)):=by rw[b9,List.range_succ]; simp
  generalize i8 b7 r (.list ((List.range j).map G9++[G9 j]))=t9 at m1 k1
  refine H4 ?_
  simp only[WX,j0,q0,q1,q2,oI,eL]
  refine Uq (by rw[m1 _ xr.symm]; exact ix) (by rw[m1 _ dr.symm]; exact idx) (by rw[hl]; rfl) (by simp[v6]) ?_
  have g2':t9 i=some (.dict ((List.range j).map λn=>(G9 n,vi n))):=by rw[m1 _ ri.symm]; exact g2
  simp only[Di,g2']
  refine⟨cD j j,by simp; omega,?_⟩
  rw[K4 (cC j)]
  have m2:∀b,b≠i→i8 t9 i (.dict (((List.range j).map λn=>(G9 n,vi n))++[(G9 j,vi j)])) b=t9 b:=λb hb=>i9 hb
  have k2:i8 t9 i (.dict (((List.range j).map λn=>(G9 n,vi n))++[(G9 j,vi j)])) i=some (.dict ((List.range (j+1)).map λn=>(G9 n,vi n))):=by rw[b9,List.range_succ]; simp
  generalize i8 t9 i (.dict (((List.range j).map λn=>(G9 n,vi n))++[(G9 j,vi j)]))=t8 at m2 k2
  refine z6 ?_
  simp only[WX,j0,q0,oI,eL]
  have g3':t8 d=some (.list ((List.range j).map λ_=>vi 1)):=by rw[m2 _ id.symm,m1 _ rd.symm]; exact g3
  refine Uq (by rw[m2 _ xi.symm,m1 _ xr.symm]; exact ix) (by rw[m2 _ di.symm,m1 _ dr.symm]; exact idx) (by rw[hl]; rfl) (by simp[v6]) ⟨_,.inl ⟨_,_,rfl,g3',.inl ⟨rfl,rfl⟩⟩,?_⟩
  refine v3 g3' (by simp; omega) ?_
  have m3:∀b,b≠d→i8 t8 d (.list (((List.range j).map λ_=>vi 1)++[.int 1])) b=t8 b:=λb hb=>i9 hb
  have k3:i8 t8 d (.list (((List.range j).map λ_=>vi 1)++[.int 1])) d=some (.list ((List.range (j+1)).map λ_=>vi 1)):=by rw[b9,List.range_succ]; simp[vi]
  generalize i8 t8 d (.list (((List.range j).map λ_=>vi 1)++[.int 1]))=A4 at m3 k3
  refine z6 ?_
  simp only[WX,j0,q0,oI,eL]
  have g4':A4 w=some (.list ((List.range j).map λ_=>vi 1)):=by rw[m3 _ dw.symm,m2 _ iw.symm,m1 _ sY.symm]; exact g4
  refine Uq (by rw[m3 _ xd.symm,m2 _ xi.symm,m1 _ xr.symm]; exact ix) (by rw[m3 _ dd.symm,m2 _ di.symm,m1 _ dr.symm]; exact idx) (by rw[hl]; rfl) (by simp[v6]) ⟨_,.inl ⟨_,_,rfl,g4',.inl ⟨rfl,rfl⟩⟩,?_⟩
  refine v3 g4' (by simp; omega) ?_
  have m4:∀b,b≠w→i8 A4 w (.list (((List.range j).map λ_=>vi 1)++[.int 1])) b=A4 b:=λb hb=>i9 hb
  have k4:i8 A4 w (.list (((List.range j).map λ_=>vi 1)++[.int 1])) w=some (.list ((List.range (j+1)).map λ_=>vi 1)):=by rw[b9,List.range_succ]; simp[vi]
  generalize i8 A4 w (.list (((List.range j).map λ_=>vi 1)++[.int 1]))=x9 at m4 k4
  refine z6 ?_
  simp only[WX,j0,q0,oI,eL]
  have g5':x9 o=some (.list ((List.range j).map λ_=>vi 0)):=by rw[m4 _ wo.symm,m3 _ do_.symm,m2 _ io.symm,m1 _ ro.symm]; exact g5
  refine Uq (by rw[m4 _ xw.symm,m3 _ xd.symm,m2 _ xi.symm,m1 _ xr.symm]; exact ix) (by rw[m4 _ wN.symm,m3 _ dd.symm,m2 _ di.symm,m1 _ dr.symm]; exact idx) (by rw[hl]; rfl) (by simp[v6]) ⟨_,.inl ⟨_,_,rfl,g5',.inl ⟨rfl,rfl⟩⟩,?_⟩
  refine v3 g5' (by simp; omega) ?_
  refine o7 (hnext _ _ ⟨q0,j+1,by omega,rfl,?_,?_,?_,?_,?_,λb b1 b2 b3 b4 b5=>?_⟩)
  ·rw[i9 ro,m4 _ sY,m3 _ rd,m2 _ ri,k1]
  ·rw[i9 io,m4 _ iw,m3 _ id,k2]
  ·rw[i9 do_,m4 _ dw,k3]
  ·rw[i9 wo,k4]
  ·rw[b9,List.range_succ]; simp[vi]
  ·rw[i9 b5,m4 _ b4,m3 _ b3,m2 _ b2,m1 _ b1,hs b b1 b2 b3 b4 b5]
 ·rintro i7 b7 ⟨p0,j,hj,el,g1,g2,g3,g4,g5,hs⟩
  have:j=16:=by
   have:=congrArg List.length el
   simp at this; omega
  subst this
  refine o7 (q i7 b7 ⟨(hs x xr.symm xi.symm xd.symm xw.symm xo.symm).trans B.inst,?_,g1,?_,g3,g4,g5,by simp[*],cB,by decide⟩ λb o' f e=>?_)
  ·rw[←hl]; exact(hs dx dr.symm di.symm dd.symm wN.symm do'.symm).trans B.ns
  ·rw[g2]
   have:∀T:List Tm,T=T0→((List.range 16).map λn=>(G9 n,vi n))=T.map λt=>(t.row (T0.idxOf ·),vi (T0.idxOf t)):=by
    rintro T rfl
    unfold T0
    rw[List.map_map]
    refine List.map_congr_left λi hi=>?_
    have h16:i < 16:=List.mem_range.mp hi
    have hx:T0.idxOf (.leaf (.prim i))=i:=Ax cB.nodup (cB.base i h16)
    unfold T0 at hx
    simp only[Function.comp,hx]; rfl
   rw[this T0 rfl]
  ·rw[hs b (fresh_ne f1 e) (fresh_ne f2 e) (fresh_ne f3 e) (fresh_ne f4 e) (fresh_ne f5 e)]; exact B.old b o' f e
def I8.new(K:I8) (O:a7):Prop:=O K.a=none∧O K.dx=none∧O K.r=none∧O K.i=none∧O K.d=none∧O K.w=none∧O K.o=none
theorem Qk(N:j7 c){n:Nat}(hn:2≤n) (q:∀K b7,K.new O→j5 K T0 b7→b8 (λ_=>False) O b7→Q (.ref K.a) b7):l8 c n (.fix (.ref 86)) [] O Q E:=by
 refine N.make N.kt N.C.eZ rfl hn λx dx t9 hx hdx hne hi hns s=>?_
 have B0:Bl 86 x dx O [] 0 t9:=⟨hx,hdx,hne,hi,hns,by simp,s⟩
 refine z7 N.kt (by simp[v6]) B0 rfl (by omega) (λQ q=>B1 q) λr t8 _ f1 e1 d1 B2 n2=>?_
 refine z7 N.kt (by simp[v6]) B2 rfl (by omega) (λQ q=>H7 q) λi A4 h3 f2 e2 d2 B3 n3=>?_
 have e1':A4 r=some (.list []):=by rw[n3 _ d1 (fresh_ne h3 e1)]; exact e1
 refine z7 N.kt (by simp[v6]) B3 rfl (by omega) (λQ q=>B1 q) λd x9 h4 f3 e3 d3 B4 n4=>?_
 have lC:x9 r=some (.list []):=by rw[n4 _ d1 (fresh_ne h4 e1')]; exact e1'
 have lD:x9 i=some (.dict []):=by rw[n4 _ d2 (fresh_ne h4 e2)]; exact e2
 refine z7 N.kt (by simp[v6]) B4 rfl (by omega) (λQ q=>B1 q) λw C7 h5 f4 e4 d4 B5 n5=>?_
 have g1:C7 r=some (.list []):=by rw[n5 _ d1 (fresh_ne h5 lC)]; exact lC
 have g2:C7 i=some (.dict []):=by rw[n5 _ d2 (fresh_ne h5 lD)]; exact lD
 have g3:C7 d=some (.list []):=by rw[n5 _ d3 (fresh_ne h5 e3)]; exact e3
 refine z7 N.kt (by simp[v6]) B5 rfl (by omega) (λQ q=>B1 q) λo Y5 h6 f5 e5 d5 B6 n6=>?_
 have k1:=fresh_ne h6 g1
 have k2:=fresh_ne h6 g2
 have k3:=fresh_ne h6 g3
 have k4:=fresh_ne h6 e4
 refine fY N B6 rfl (by rw[n6 _ d1 k1]; exact g1) (by rw[n6 _ d2 k2]; exact g2) (by rw[n6 _ d3 k3]; exact g3) (by rw[n6 _ d4 k4]; exact e4) e5 f1 f2 f3 f4 f5 ?_ rfl λi7 b7 k s'=>⟨rfl,q _ b7 ⟨hx,hdx,f1,f2,f3,f4,f5⟩ k s'⟩
 simp only[List.nodup_cons,List.mem_cons,not_or,List.not_mem_nil,not_false_eq_true,and_true,List.nodup_nil]
 exact⟨⟨fresh_ne h3 e1,fresh_ne h4 e1',fresh_ne h5 lC,k1⟩,⟨fresh_ne h4 e2,fresh_ne h5 lD,k2⟩,⟨fresh_ne h5 e3,k3⟩,k4⟩
end
section
variable {c:Cx}{n:Nat}{O:a7}{K:I8}{T:List Tm}{Q:V→a7→Prop}{E:a7→Prop}{H:Hg}{Ts:List G2}{Fs:List P4}
def KN(y:Addr) (K:I8):Prop:=y≠K.a∧y≠K.dx∧y≠K.r∧y≠K.i∧y≠K.d∧y≠K.w∧y≠K.o
theorem j5.off(h:j5 K T O){b7:a7}{y:Addr}(s:b8 (·=y) O b7) (hy:KN y K):j5 K T b7:=by
 obtain⟨h1,h2,h3,h4,h5,h6,h7⟩:=hy
 exact⟨s _ _ h1.symm h.inst,s _ _ h2.symm h.ns,s _ _ h3.symm h.rows,s _ _ h4.symm h.index,s _ _ h5.symm h.depths,s _ _ h6.symm h.weights,s _ _ h7.symm h.opens,h.apart,h.tab,h.size⟩
theorem I8.new.kn{O:a7}(h:K.new O){y:Addr}{o:z5}(hy:O y=some o):KN y K:=by
 obtain⟨h1,h2,h3,h4,h5,h6,h7⟩:=h
 exact⟨fresh_ne h1 hy,fresh_ne h2 hy,fresh_ne h3 hy,fresh_ne h4 hy,fresh_ne h5 hy,fresh_ne h6 hy,fresh_ne h7 hy⟩
theorem I8.new.old{O b7:a7}(h:K.new b7) (s:b8 (λ_=>False) O b7):K.new O :=
 ⟨y9 s h.1,y9 s h.2.1,y9 s h.2.2.1,y9 s h.2.2.2.1,y9 s h.2.2.2.2.1,y9 s h.2.2.2.2.2.1,y9 s h.2.2.2.2.2.2⟩
theorem cE{C fI x dx:Addr}{names:List Str}{l:List (Str×V)}{k:Nat}{Z:Loc}{xs:List S}{Q:Fl→Loc→a7→Prop}{H0:a7}(F:v4 c C fI names){name:Str}(hx:name∈names){e:X}(B:Bl C x dx H0 l k O) (h0:Z 0=some (.ref x)) (hk:k≤900) (P:V→a7→Prop)
  (he:∀Q:V→a7→Prop,(∀v b7,P v b7→b8 (λ_=>False) O b7→Q v b7)→WX c n e Z O Q E)
  (h:∀v t9 b7,P v t9→b8 (λ_=>False) O t9→Bl C x dx H0 (J3 l name v) (k+1) b7→(∀b,b≠dx→b7 b=t9 b)→o9 c n xs Z b7 Q E):o9 c n (.q8 (.loc 0) name e::xs) Z O Q E:=by
 refine Lz (he _ λv t9 hp s=>?_)
 simp only[WX,h0,oI,eL]
 have i1:=s _ _ id B.inst
 have i2:=s _ _ id B.ns
 have hl:=B.len
 refine⟨_,_,_,_,rfl,i1,i2,by omega,(F.attr name hx).2,h v t9 _ hp s ⟨B.hx,B.hdx,B.ne,by rw[i9 B.ne]; exact i1,b9 _ _ _,Nat.le_trans (Bh ..) (by omega),λb o f e=>?_⟩ λb hb=>i9 hb⟩
 rw[i9 (fresh_ne B.hdx e)]; exact s b o id (B.old b o f e)
theorem fZ(N:j7 c){n:Nat}(hn:6≤n)
  (q:∀(K:I8) (st dx fl nm:Addr) (l:List (Str×V)) (b7:a7),b8 (λ_=>False) O b7→K.new O→j5 K T0 b7→O st=none→O dx=none→O fl=none→O nm=none→b7 st=some (.inst 324 dx)→b7 dx=some (.ns l)→l.length≤7 →
   l.lookup (Str.ofString "kt")=some (.ref K.a)→l.lookup (Str.ofString "fields_")=some (.ref fl)→l.lookup (Str.ofString "names")=some (.ref nm)→b7 fl=some (.list [.none])→b7 nm=some (.dict [])→¬K.F fl→¬K.F nm→KN dx K→Q (.ref st) b7) :
  l8 c n (.fix (.ref 324)) [] O Q E:=by
 refine N.make N.st N.C.Se rfl (by omega) λx dx t9 hx hdx hne hi hns s=>?_
 have B0:Bl 324 x dx O [] 0 t9:=⟨hx,hdx,hne,hi,hns,by simp,s⟩
 refine cE N.st (by simp[A0]) B0 rfl (by omega) (λv b7=>∃K:I8,v=.ref K.a∧K.new t9∧j5 K T0 b7) (λQ q=>?_) λv t8 A4 ⟨K,hv,hnew,hkt⟩ s2 B3 n3=>?_
 ·simp only[WX,j0]
  exact Qk N (by omega) λK b7 hnew hkt s=>q _ b7 ⟨K,rfl,hnew,hkt⟩ s
 subst hv
 have kn:KN dx K:=hnew.kn hns
 have k3:j5 K T0 A4:=hkt.off (b8.of n3 rfl) kn
 have knew:K.new O:=hnew.old s
 have wl:∀{O:a7}{Z:Loc}{E:a7→Prop}{Q:V→a7→Prop},(∀r,O r=none→Q (.ref r) (i8 O r (.list [.none])))→WX c (n - 2) (.lst [(.con .none)]) Z O Q E:=fun {O Z E Q} h=>by simpa only[WX,j0] using h
 refine z7 N.st (by simp[A0]) B3 rfl (by omega) (λQ q=>wl q) λr4 x9 sZ h04 e4 ne4 B4 n4=>?_
 refine z7 N.st (by simp[A0]) B4 rfl (by omega) (λQ q=>wl q) λfl C7 iV h05 e5 ne5 B5 n5=>?_
 refine z7 N.st (by simp[A0]) B5 rfl (by omega) (λQ q=>wl q) λr6 Y5 wO h06 e6 ne6 B6 n6=>?_
 refine z7 N.st (by simp[A0]) B6 rfl (by omega) (λQ q=>H7 q) λnm Dt pZ vY e7 sV B7 n7=>?_
 refine z7 N.st (by simp[A0]) B7 rfl (by omega) (λQ q=>B1 q) λr8 mV mS sW e8 mW B8 n8=>?_
 refine E1 N.st (by simp[A0]) B8 rfl (by omega) (λQ q=>Bi q) λeG B9 n9=>?_
 have t3:∀a o,a≠dx→A4 a=some o→C7 a=some o:=by
  intro a o ha e
  have a4:x9 a=some o:=by rw[n4 _ ha (fresh_ne sZ e)]; exact e
  rw[n5 _ ha (fresh_ne iV a4)]; exact a4
 have t7:∀a o,a≠dx→Dt a=some o→eG a=some o:=by
  intro a o ha e
  rw[n9 _ ha,n8 _ ha (fresh_ne mS e)]; exact e
 have t5:∀a o,a≠dx→C7 a=some o→eG a=some o:=by
  intro a o ha e
  have a6:Y5 a=some o:=by rw[n6 _ ha (fresh_ne wO e)]; exact e
  exact t7 a o ha (by rw[n7 _ ha (fresh_ne pZ a6)]; exact a6)
 have s39:b8 (·=dx) A4 eG:=λa o ha e=>t5 a o ha (t3 a o ha e)
 have s49:∀a o,a≠dx→x9 a=some o→eG a=some o:=λa o ha e=>t5 a o ha (by rw[n5 _ ha (fresh_ne iV e)]; exact e)
 have k9:j5 K T0 eG:=k3.off s39 kn
 have s36:∀a o,a≠dx→A4 a=some o→Y5 a=some o:=λa o ha e=>by
  have:=t3 a o ha e
  rw[n6 _ ha (fresh_ne wO this)]; exact this
 have nfl:¬K.F fl:=λh=>by
  have:∃o,A4 fl=some o:=by rcases k3.plain fl h with⟨l,e⟩ | ⟨l,e⟩<;>exact⟨_,e⟩
  obtain⟨o,e⟩:=this
  have:x9 fl=some o:=by rw[n4 _ ne5 (fresh_ne sZ e)]; exact e
  rw[iV] at this; cases this
 have nnm:¬K.F nm:=λh=>by
  have:∃o,A4 nm=some o:=by rcases k3.plain nm h with⟨l,e⟩ | ⟨l,e⟩<;>exact⟨_,e⟩
  obtain⟨o,e⟩:=this
  have:=s36 nm o sV e
  rw[pZ] at this; cases this
 refine o7 ⟨rfl,q K x dx fl nm _ eG B9.old knew k9 hx hdx h05 vY B9.inst B9.ns (by simpa using B9.len) ?_ ?_ ?_ (t5 _ _ ne5 e5) (t7 _ _ sV e7) nfl nnm kn⟩
 ·repeat (first | rw[o8 _ _ _ _ (by decide +kernel)] | exact look_same _ _ _)
 ·repeat (first | rw[o8 _ _ _ _ (by decide +kernel)] | exact look_same _ _ _)
 ·repeat (first | rw[o8 _ _ _ _ (by decide +kernel)] | exact look_same _ _ _)
theorem gA(N:j7 c){n:Nat}(hn:2≤n) (q:∀x b7,b8 (λ_=>False) O b7→Q (.ref x) b7):l8 c n (.fix (.ref 462)) [] O Q E:=by
 refine N.make N.dg N.C.Sf rfl hn λx dx t9 hx hdx hne hi hns s=>?_
 have B0:Bl 462 x dx O [] 0 t9:=⟨hx,hdx,hne,hi,hns,by simp,s⟩
 refine z7 N.dg (by simp[Dz]) B0 rfl (by omega) (λQ q=>B1 q) λr4 x9 sZ h04 e4 ne4 B4 n4=>?_
 exact o7 ⟨rfl,q x x9 B4.old⟩
theorem lE(N:j7 c){n:Nat}(hn:6≤n){st:Addr}{asm:V}(q:∀x dx l b7,b8 (λ_=>False) O b7→b7 x=some (.inst 483 dx)→b7 dx=some (.ns l)→l.lookup (Str.ofString "store")=some (.ref st)→Q (.ref x) b7):l8 c n (.fix (.ref 483)) [.ref st,asm] O Q E:=by
 refine N.make N.un N.C.Ww rfl (by omega) λx dx t9 hx hdx hne hi hns s=>?_
 have B0:Bl 483 x dx O [] 0 t9:=⟨hx,hdx,hne,hi,hns,by simp,s⟩
 have wl:∀{O:a7}{Z:Loc}{E:a7→Prop}{Q:V→a7→Prop},(∀r,O r=none→Q (.ref r) (i8 O r (.list [.none])))→WX c (n - 2) (.lst [(.con .none)]) Z O Q E:=fun {O Z E Q} h=>by simpa only[WX,j0] using h
 refine E1 N.un (by simp[D6]) B0 rfl (by omega) (λQ q=>H9 rfl q) λt8 B2 n2=>?_
 refine E1 N.un (by simp[D6]) B2 rfl (by omega) (λQ q=>H9 rfl q) λA4 B3 n3=>?_
 refine z7 N.un (by simp[D6]) B3 rfl (by omega) (λQ q=>wl q) λr4 x9 sZ h04 e4 ne4 B4 n4=>?_
 refine z7 N.un (by simp[D6]) B4 rfl (by omega) (λQ q=>wl q) λr5 C7 iV h05 e5 ne5 B5 n5=>?_
 refine z7 N.un (by simp[D6]) B5 rfl (by omega) (λQ q=>H7 q) λr6 Y5 wO h06 e6 ne6 B6 n6=>?_
 refine cE N.un (by simp[D6]) B6 rfl (by omega) (λv b7=>True) (λQ q=>?_) λv Dt mV _ s7 B8 n8=>?_
 ·simp only[WX,j0]
  exact gA N (by omega) λx b7 s=>q _ b7 trivial s
 refine z7 N.un (by simp[D6]) B8 rfl (by omega) (λQ q=>H7 q) λr9 eG hr9 vZ e9 wA B9 n9=>?_
 refine z7 N.un (by simp[D6]) B9 rfl (by omega) (λQ q=>H7 q) λr10 qB fX lA e10 qC B10 n10=>?_
 refine z7 N.un (by simp[D6]) B10 rfl (by omega) (λQ q=>H7 q) λr11 lB a4u a4v e11 a4w B11 n11=>?_
 exact o7 ⟨rfl,q x dx _ lB B11.old B11.inst B11.ns (by repeat (first | rw[o8 _ _ _ _ (by decide +kernel)] | exact look_same _ _ _))⟩
theorem lF(N:j7 c){n:Nat}(hn:6≤n){u ux st sx:Addr}{lu ls:List (Str×V)}{host asm:V}(u1:O u=some (.inst 483 ux)) (u2:O ux=some (.ns lu)) (u3:lu.lookup (Str.ofString "store")=some (.ref st)) (t1:O st=some (.inst 324 sx)) (t2:O sx=some (.ns ls)) (t3:ls.lookup (Str.ofString "kt")=some (.ref K.a))
  (q:∀x b7,b8 (λ_=>False) O b7→Ng x st K b7→Q (.ref x) b7):l8 c n (.fix (.ref 532)) [.ref u,host,asm] O Q E:=by
 refine N.make N.yd N.C.Wx rfl (by omega) λx dx t9 hx hdx hne hi hns s=>?_
 have B0:Bl 532 x dx O [] 0 t9:=⟨hx,hdx,hne,hi,hns,by simp,s⟩
 have ust:∀{b7:a7}{R:V→Prop},b8 (λ_=>False) O b7→R (.ref st)→H8 c (.ref u) (Str.ofString "store") b7 R:=fun {b7 R} s q=>⟨_,_,_,_,_,rfl,s _ _ id u1,s _ _ id u2,u3,(N.un.attr _ (by simp[D6])).1,rfl,q⟩
 have skt:∀{b7:a7}{R:V→Prop},b8 (λ_=>False) O b7→R (.ref K.a)→H8 c (.ref st) (Str.ofString "kt") b7 R:=fun {b7 R} s q=>⟨_,_,_,_,_,rfl,s _ _ id t1,s _ _ id t2,t3,(N.st.attr _ (by simp[A0])).1,rfl,q⟩
 refine E1 N.yd (by simp[z3]) B0 rfl (by omega) (λQ q=>H9 rfl q) λt8 B2 n2=>?_
 refine E1 N.yd (v:=.ref st) (by simp[z3]) B2 rfl (by omega) (λQ q=>?_) λA4 B3 n3=>?_
 ·simp only[WX,d8,gZ,gS,oI,eL]
  exact ust B2.old q
 refine E1 N.yd (v:=.ref K.a) (by simp[z3]) B3 rfl (by omega) (λQ q=>?_) λx9 B4 n4=>?_
 ·simp only[WX,d8,gZ,gS,oI,eL]
  exact ust B3.old (skt B3.old q)
 refine E1 N.yd (by simp[z3]) B4 rfl (by omega) (λQ q=>H9 rfl q) λC7 B5 n5=>?_
 refine E1 N.yd (by simp[z3]) B5 rfl (by omega) (λQ q=>H9 rfl q) λY5 B6 n6=>?_
 refine z7 N.yd (by simp[z3]) B6 rfl (by omega) (λQ q=>H7 q) λr7 Dt pZ vY e7 sV B7 n7=>?_
 refine z7 N.yd (by simp[z3]) B7 rfl (by omega) (λQ q=>H7 q) λr8 mV mS sW e8 mW B8 n8=>?_
 refine z7 N.yd (by simp[z3]) B8 rfl (by omega) (λQ q=>B1 q) λr9 eG hr9 vZ e9 wA B9 n9=>?_
 refine z7 N.yd (by simp[z3]) B9 rfl (by omega) (λQ q=>H7 q) λr10 qB fX lA e10 qC B10 n10=>?_
 refine E1 N.yd (by simp[z3]) B10 rfl (by omega) (λQ q=>Bi q) λlB B11 n11=>?_
 refine E1 N.yd (by simp[z3]) B11 rfl (by omega) (λQ q=>Bi q) λqD B12 n12=>?_
 refine E1 N.yd (by simp[z3]) B12 rfl (by omega) (λQ q=>Bi q) λqE B13 n13=>?_
 refine E1 N.yd (by simp[z3]) B13 rfl (by omega) (λQ q=>Bi q) λqF B14 n14=>?_
 exact o7 ⟨rfl,q x qF B14.old ⟨dx,_,B14.inst,B14.ns,(by repeat (first | rw[o8 _ _ _ _ (by decide +kernel)] | exact look_same _ _ _)),(by repeat (first | rw[o8 _ _ _ _ (by decide +kernel)] | exact look_same _ _ _))⟩⟩
end
section
variable {c:Cx}{n:Nat}{O:a7}{K:I8}{T:List Tm}{Q:V→a7→Prop}{E:a7→Prop}{H:Hg}{Ts:List G2}{Fs:List P4}
theorem lG(N:j7 c) (k:j5 K T O) (h:G8 H K T Ts Fs O){sort:Nat}(hs:sort=1∨sort=2∨sort=5) (hz:T.length < 100000){n:Nat}(hn:9≤n) (q:∀v T' b7,Gr T T' 1→j5 K T' b7→G8 H K T' Ts Fs b7→b8 K.F O b7→Q v b7) :
  l8 c n (.fix (.ref 335)) [.ref H.st,vi sort] O Q E:=by
 obtain⟨n,rfl⟩:∃m,n=m+1:=⟨n - 1,by omega⟩
 refine N.fn N.C.usual_base rfl rfl ?_
 have mk:∀i:Nat,(Tm.leaf (.cls i)).ok=true→l8 c n (.fix (.ref 146)) [.ref K.a,vi i,.tup []] O (λv O=>i4 Q (.ret v) (d8 [.ref H.st,vi sort]) O) E:=λi hi =>
  Ur N k (t:=.leaf (.cls i)) rfl hi (by simp[Tm.kids]) hz (by omega) ⟨λ_ T' b7 g k' s _=>q _ T' b7 g k' (h.grow g s k.plain) s,λx=>by simp[Tm.depth,Tm.weight] at x⟩
 refine Z7 (v:=(sort:Int)) rfl (λ_=>?_) (λ_=>?_)
 ·refine i5 ?_
  simp only[WX,j0,d8,gZ,gS,oI,eL]
  exact h.Fu N (mk 2 (by decide))
 refine Z7 (v:=(sort:Int)) rfl (λ_=>?_) (λ_=>?_)
 ·refine i5 ?_
  simp only[WX,j0,d8,gZ,gS,oI,eL]
  exact h.Fu N (mk 3 (by decide))
 refine Z7 (v:=(sort:Int)) rfl (λe=>?_) (λ_=>?_)
 ·omega
 refine i5 (cA ?_)
 simp only[i4]
 exact q _ T O (.refl _ _) k h (.refl _ _)
theorem gB(N:j7 c){sort:Nat}{n:Nat}(hn:1≤n) (q:∀v,Q v O):l8 c n (.fix (.ref 342)) [vi sort,.int 0] O Q E:=by
 obtain⟨n,rfl⟩:∃m,n=m+1:=⟨n - 1,by omega⟩
 refine N.fn N.C.sort_flags rfl rfl ?_
 refine Z7 (v:=(sort:Int)) rfl (λ_=>?_) (λ_=>?_)
 ·refine i5 ?_
  simp only[WX,d8,gZ,gS,oI,eL,Hf,i4]
  exact q _
 refine Z7 (v:=(sort:Int)) rfl (λ_=>?_) (λ_=>?_)
 ·refine i5 ?_
  simp only[WX,d8,gZ,gS,oI,eL,i4]
  exact q _
 refine i5 ?_
 simp only[WX,d8,gZ,gS,oI,eL,Hf,i4]
 exact q _
theorem G8.iZ(h:G8 H K T Ts Fs O){r:Addr}(hr:O r=none):r∉([H.ty,H.fl]++Ts.flatMap λt=>[t.fa,t.pa]):=by
 intro hm
 rcases List.mem_append.mp hm with hm | hm
 ·simp only[List.mem_cons,List.not_mem_nil,or_false] at hm
  rcases hm with rfl | rfl
  ·rw[h.types] at hr; cases hr
  ·rw[h.fields] at hr; cases hr
 ·obtain⟨t,ht,hm⟩:=List.mem_flatMap.mp hm
  obtain⟨i,hi⟩:=List.mem_iff_getElem?.mp ht
  obtain⟨_,_,⟨pl,e,_⟩,e2⟩:=h.tys i t hi
  simp only[List.mem_cons,List.not_mem_nil,or_false] at hm
  rcases hm with rfl | rfl
  ·rw[e2] at hr; cases hr
  ·rw[e] at hr; cases hr
theorem G8.sep(h:G8 H K T Ts Fs O){t:G2}(ht:t∈Ts):t.fa≠H.ty∧t.fa≠H.fl∧t.pa≠H.ty∧t.pa≠H.fl:=by
 have:=h.lists
 rw[List.nodup_append] at this
 have h1:t.fa∈Ts.flatMap λt=>[t.fa,t.pa]:=List.mem_flatMap.mpr ⟨t,ht,by simp⟩
 have h2:t.pa∈Ts.flatMap λt=>[t.fa,t.pa]:=List.mem_flatMap.mpr ⟨t,ht,by simp⟩
 exact⟨(this.2.2 H.ty (by simp) _ h1).symm,(this.2.2 H.fl (by simp) _ h1).symm,(this.2.2 H.ty (by simp) _ h2).symm,(this.2.2 H.fl (by simp) _ h2).symm⟩
theorem G8.lH(h:G8 H K T Ts Fs O):H.nm≠H.ty∧H.nm≠H.fl∧∀t∈Ts,H.nm≠t.fa∧H.nm≠t.pa:=by
 obtain⟨l,e,_⟩:=h.Xd
 refine⟨λq=>?_,λq=>?_,λt ht=>?_⟩
 ·rw[q,h.types] at e; cases e
 ·rw[q,h.fields] at e; cases e
 ·obtain⟨i,hi⟩:=List.mem_iff_getElem?.mp ht
  obtain⟨_,_,⟨pl,e1,_⟩,e2⟩:=h.tys i t hi
  exact⟨λq=>(by rw[q,e2] at e; cases e),λq=>(by rw[q,e1] at e; cases e)⟩
theorem Xm(N:j7 c) (k:j5 K T O) (h:G8 H K T Ts Fs O){name:Str}{sort:Nat}(hs:sort=1∨sort=2∨sort=5){pl:List V}(hpl:pl.length≤100) (hname:PyData.strOk name=true) (hT:Ts.length < 1000) (hnz:∀l,O H.nm=some (.dict l)→l.length < 1000) (hz:T.length < 100000){n:Nat}(hn:12≤n)
  (q:∀v T' ti b7,Gr T T' 1→j5 K T' b7→G8 H K T' (Ts++[ti]) Fs b7→ti.sort=sort→ti.np=pl.length→ti.v8=[]→(∀b o,O b=some o→b≠ti.fa∧b≠ti.pa)→b8 (λb=>K.F b∨b=H.ty∨b=H.nm) O b7→(∀l l',O H.nm=some (.dict l)→b7 H.nm=some (.dict l')→l'.length≤l.length+1)→Q v b7) :
  l8 c n (.fix (.ref 349)) [.ref H.st,.int 0,.str name,vi sort,.int 0,.int (-1),.tup pl] O Q E:=by
 obtain⟨n,rfl⟩:∃m,n=m+1:=⟨n - 1,by omega⟩
 refine N.fn N.C.add_type rfl rfl ?_
 refine l0 true (λR E q=>?_) (λ_=>?_) (λe=>by cases e)
 ·simp only[WC,WX,d8,gZ,gS,oI,eL,O1]
  exact q
 refine i6 ?_
 simp only[WX,j0,d8,gZ,gS,oI,eL]
 refine lG N k h hs hz (by omega) λbase T1 t9 g1 k1 h1 s1=>?_
 refine i6 ?_
 simp only[WX,j0,b6,d8,gZ,gS,oI,eL,show((0:Nat)=5)=False by simp,if_false]
 refine h1.N3 N (A3 h1.types (by simp; omega) ?_)
 simp only[List.length_append,List.length_replicate,List.length_map]
 refine z6 ?_
 simp only[WX,j0,b6,d8,gZ,gS,oI,eL,if_true,show((0:Nat)=7)=False by simp,show((0:Nat)=5)=False by simp,show((1:Nat)=7)=False by simp,show((1:Nat)=5)=False by simp,show((2:Nat)=7)=False by simp,show((2:Nat)=5)=False by simp,show((3:Nat)=7)=False by simp,show((3:Nat)=5)=False by simp,show((4:Nat)=7)=False by simp,show((4:Nat)=5)=False by simp,show((5:Nat)=7)=False by simp,show((6:Nat)=7)=False by simp,show((6:Nat)=5)=False by simp,if_false]
 refine h1.N3 N ⟨_,.inl ⟨_,_,rfl,h1.types,.inl ⟨rfl,rfl⟩⟩,?_⟩
 refine gB N (by omega) λfl=>?_
 rw[show V.int ((64+Ts.length:Nat):Int)=vi (64+Ts.length) from rfl]
 refine Xl N hpl (by omega) λx dx pa fa t8 hx hdx hpa hfa hpf s2 hty=>?_
 have k2:=k1.same s2
 have h2:G8 H K T1 Ts Fs t8:=h1.grow (.refl _ 0) (s2.mono λ_ h=>h.elim) k1.plain
 refine v3 h2.types (by simp; omega) ?_
 have m3:∀b,b≠H.ty→i8 t8 H.ty (.list (List.replicate 64 .none++(Ts.map λt=>.ref t.o)++[.ref x])) b=t8 b:=λb hb=>i9 hb
 have e3:i8 t8 H.ty (.list (List.replicate 64 .none++(Ts.map λt=>.ref t.o)++[.ref x])) H.ty=some (.list (List.replicate 64 .none++(Ts++[(⟨x,dx,pa,fa,sort,pl.length,[]⟩:G2)]).map λt=>.ref t.o)):=by rw[b9]; simp
 generalize i8 t8 H.ty (.list (List.replicate 64 .none++(Ts.map λt=>.ref t.o)++[.ref x]))=A4 at m3 e3
 have sp:=h2.iZ (r:=pa)
 have qH:=h2.lH
 have wQ:¬K.F H.ty:=h.apart _ (.inl rfl)
 have qI:¬K.F H.nm:=h.apart _ (.inr (.inr (.inl rfl)))
 have hold:∀b,b≠x→b≠dx→b≠pa→b≠fa→True:=λ_ _ _ _ _=>trivial
 have fr:∀{r:Addr},t9 r=none→r∉([H.ty,H.fl]++Ts.flatMap λt=>[t.fa,t.pa]):=fun {r} hr=>h1.iZ hr
 have qJ:¬K.F pa:=λhF=>by rcases k1.plain pa hF with⟨l,e⟩ | ⟨l,e⟩<;>rw[hpa] at e<;>cases e
 have qK:¬K.F fa:=λhF=>by rcases k1.plain fa hF with⟨l,e⟩ | ⟨l,e⟩<;>rw[hfa] at e<;>cases e
 have k3:j5 K T1 A4:=k2.keep (F:=(·=H.ty)) (b8.of m3 rfl) (λb hb=>by subst hb; exact wQ) (λb hb=>by subst hb; exact .inl ⟨_,h2.types⟩)
 have hp3:Plain (·=H.ty) t8:=λb hb=>by subst hb; exact .inl ⟨_,h2.types⟩
 have Vf:b8 (·=H.ty) t8 A4:=b8.of m3 rfl
 have hne:∀r,r∉([H.ty,H.fl]++Ts.flatMap λt=>[t.fa,t.pa])→r≠H.ty∧r≠H.fl:=λr hr=>⟨by rintro rfl; exact hr (by simp),by rintro rfl; exact hr (by simp)⟩
 have qL:T8 A4 (64+Ts.length) ⟨x,dx,pa,fa,sort,pl.length,[]⟩:=hty.same Vf hp3 (hne _ (fr hfa)).1 (hne _ (fr hpa)).1
 have h3:G8 H K T1 (Ts++[⟨x,dx,pa,fa,sort,pl.length,[]⟩]) Fs A4:=by
  refine⟨?_,?_,e3,?_,?_,?_,?_,?_,h2.flags,h2.light,?_,?_,?_⟩
  ·exact Vf _ _ (λq=>by have e:=h2.inst; rw[q,h2.types] at e; cases e) h2.inst
  ·obtain⟨l,b,b'⟩:=h2.ns
   exact⟨l,Vf _ _ (λq=>by rw[q,h2.types] at b; cases b) b,b'⟩
  ·refine Vf _ _ (λq=>?_) h2.fields
   have:=h2.lists
   simp[q] at this
  ·intro i t ht
   rcases Nat.lt_or_ge i Ts.length with hi | hi
   ·rw[List.getElem?_append_left hi] at ht
    have hm:=List.mem_of_getElem? ht
    exact(h2.tys i t ht).same Vf hp3 (h2.sep hm).1 (h2.sep hm).2.2.1
   ·rw[List.getElem?_append_right hi] at ht
    have:i=Ts.length:=by
     have:=(List.getElem?_eq_some_iff.mp ht).1
     simp at this; omega
    subst this
    simp at ht
    subst ht
    exact qL
  ·exact λf hf=>(h2.fds f hf).same (.refl _ 0) Vf hp3
  ·rintro b (hb | hb | hb | ⟨t,ht,hb⟩)
   ·exact h2.apart b (.inl hb)
   ·exact h2.apart b (.inr (.inl hb))
   ·exact h2.apart b (.inr (.inr (.inl hb)))
   ·rcases List.mem_append.mp ht with ht | ht
    ·exact h2.apart b (.inr (.inr (.inr ⟨t,ht,hb⟩)))
    ·simp at ht; subst ht
     rcases hb with rfl | rfl
     ·exact qK
     ·exact qJ
  ·intro t ht
   rcases List.mem_append.mp ht with ht | ht
   ·exact h2.W4 t ht
   ·simp at ht; subst ht; simp
  ·refine⟨by simp; omega,h2.few.2.1,λt ht=>?_⟩
   rcases List.mem_append.mp ht with ht | ht
   ·exact h2.few.2.2 t ht
   ·simp at ht; subst ht; exact⟨by simp,hpl⟩
  ·obtain⟨l,e,r⟩:=h2.Xd
   exact⟨l,Vf _ _ qH.1 e,r⟩
  ·rw[List.flatMap_append,←List.append_assoc,List.nodup_append]
   refine⟨h2.lists,by simp[hpf.symm],λa ha b hb=>?_⟩
   simp only[List.flatMap_cons,List.flatMap_nil,List.append_nil,List.mem_cons,List.not_mem_nil,or_false] at hb
   rcases hb with rfl | rfl
   ·rintro rfl; exact fr hfa ha
   ·rintro rfl; exact fr hpa ha
 have hfr:∀b o,O b=some o→b≠fa∧b≠pa:=λb o e=>⟨(by rintro rfl; have:=s1 _ _ qK e; rw[hfa] at this; cases this),(by rintro rfl; have:=s1 _ _ qJ e; rw[hpa] at this; cases this)⟩
 have mX:b8 (λb=>K.F b∨b=H.ty∨b=H.nm) O A4:=((s1.mono λ_ h=>.inl h).trans (s2.mono λ_ h=>h.elim)).trans (Vf.mono λ_ h=>.inr (.inl h))
 obtain⟨nl,hnl,a4y,qM⟩:=h3.Xd
 have lI:O H.nm=some (.dict nl):=by
  obtain⟨l,e,_⟩:=h.Xd
  have:=s2 _ _ id (s1 _ _ qI e)
  rw[←m3 _ qH.1,hnl] at this
  rw[e]; exact this.symm
 refine i6 ?_
 simp only[WX,j0,b6,d8,gZ,gS,oI,eL,if_true,show((1:Nat)=7)=False by simp,show((1:Nat)=5)=False by simp,show((2:Nat)=7)=False by simp,show((2:Nat)=5)=False by simp,show((6:Nat)=7)=False by simp,show((6:Nat)=5)=False by simp,if_false]
 refine C3 (by omega) ?_
 have hkey:S5 (.tup [.int 0,.str name,.int (pl.length:Int)]) nl:=.inr (.inr ⟨by simp[V.hk,V.hks,hname],_,rfl,qM⟩)
 refine l0 (!(x6 nl (.tup [.int 0,.str name,.int (pl.length:Int)])).isSome) (λR E q=>?_) (λe=>?_) (λe=>?_)
 ·simp only[WC,WX,b6,d8,gZ,oI,eL,if_true,show((0:Nat)=8)=False by simp,show((0:Nat)=7)=False by simp,show((0:Nat)=5)=False by simp,if_false]
  refine h3.Uz N ?_
  simp only[G6,IN,hnl]
  exact⟨hkey,q⟩
 ·refine H4 ?_
  simp only[WX,b6,d8,gZ,oI,eL,if_true,show((0:Nat)=8)=False by simp,show((7:Nat)=8)=False by simp,show((0:Nat)=7)=False by simp,show((0:Nat)=5)=False by simp,if_false]
  refine h3.Uz N ?_
  simp only[Di,hnl]
  refine⟨hkey,by omega,?_⟩
  have m4:∀b,b≠H.nm→i8 A4 H.nm (.dict (dput nl (.tup [.int 0,.str name,.int (pl.length:Int)]) (vi (64+Ts.length)))) b=A4 b:=λb hb=>i9 hb
  have e4:i8 A4 H.nm (.dict (dput nl (.tup [.int 0,.str name,.int (pl.length:Int)]) (vi (64+Ts.length)))) H.nm=some (.dict (dput nl (.tup [.int 0,.str name,.int (pl.length:Int)]) (vi (64+Ts.length)))):=b9 _ _ _
  have hdn:x6 nl (.tup [.int 0,.str name,.int (pl.length:Int)])=none:=by
   cases q:x6 nl (.tup [.int 0,.str name,.int (pl.length:Int)]) with
   | none=>rfl
   | some v=>rw[q] at e; cases e
  rw[K4 hdn] at m4 e4 ⊢
  generalize i8 A4 H.nm (.dict (nl++[(.tup [.int 0,.str name,.int (pl.length:Int)],vi (64+Ts.length))]))=x9 at m4 e4
  have s4:b8 (·=H.nm) A4 x9:=b8.of m4 rfl
  have wR:Plain (·=H.nm) A4:=λb hb=>by subst hb; exact .inr ⟨_,hnl⟩
  have k4:j5 K T1 x9:=k3.keep s4 (λb hb=>by subst hb; exact qI) wR
  have Xn:=h3.lH
  have h4:G8 H K T1 (Ts++[⟨x,dx,pa,fa,sort,pl.length,[]⟩]) Fs x9:=by
   refine⟨?_,?_,s4 _ _ Xn.1.symm h3.types,s4 _ _ Xn.2.1.symm h3.fields,?_,λf hf=>(h3.fds f hf).same (.refl _ 0) s4 wR,h3.apart,h3.W4,h3.flags,h3.light,h3.few,?_,h3.lists⟩
   ·exact s4 _ _ (λq=>by have e:=h3.inst; rw[q,hnl] at e; cases e) h3.inst
   ·obtain⟨l,b,b'⟩:=h3.ns
    exact⟨l,s4 _ _ (λq=>by rw[q,hnl] at b; cases b) b,b'⟩
   ·intro i t ht
    have hm:=List.mem_of_getElem? ht
    exact(h3.tys i t ht).same s4 wR (Xn.2.2 t hm).1.symm (Xn.2.2 t hm).2.symm
   ·have:=hnz nl lI
    refine⟨_,e4,by simp; omega,λp hp=>?_⟩
    rcases List.mem_append.mp hp with hp | hp
    ·exact qM p hp
    ·simp at hp; subst hp; exact⟨_,rfl⟩
  refine i5 ?_
  simp only[WX,b6,if_true,oI,eL,show((7:Nat)=8)=False by simp,if_false,i4]
  refine q _ T1 _ x9 g1 k4 h4 rfl rfl rfl hfr (mX.trans (s4.mono λ_ h=>.inr (.inr h))) λl l' i1 i2=>?_
  rw[lI] at i1; rw[e4] at i2
  cases i1; cases i2; simp
 ·refine i5 ?_
  simp only[WX,b6,if_true,oI,eL,show((7:Nat)=8)=False by simp,if_false,i4]
  refine q _ T1 _ A4 g1 k3 h3 rfl rfl rfl hfr mX λl l' i1 i2=>?_
  rw[lI] at i1; rw[hnl] at i2
  cases i1; cases i2; omega
end
section
variable {c:Cx}{n:Nat}{O:a7}{K:I8}{T:List Tm}{Q:V→a7→Prop}{E:a7→Prop}{H:Hg}{Ts:List G2}{Fs:List P4}
theorem cF{Ts:List G2}:∀{i j:Nat}{t u:G2},(Ts.flatMap λt=>[t.fa,t.pa]).Nodup→Ts[i]?=some t→Ts[j]?=some u→i≠j→u.fa≠t.fa∧u.pa≠t.fa:=by
 induction Ts with
 | nil=>intro i j t u _ h; simp at h
 | cons a Ts ih =>
  intro i j t u hn hi hj hij
  simp only[List.flatMap_cons] at hn
  rw[List.nodup_append] at hn
  cases i with
  | zero =>
   cases j with
   | zero=>exact absurd rfl hij
   | succ j =>
    simp at hi hj
    subst hi
    have hm:=List.mem_of_getElem? hj
    have h1:u.fa∈Ts.flatMap λt=>[t.fa,t.pa]:=List.mem_flatMap.mpr ⟨u,hm,by simp⟩
    have h2:u.pa∈Ts.flatMap λt=>[t.fa,t.pa]:=List.mem_flatMap.mpr ⟨u,hm,by simp⟩
    exact⟨(hn.2.2 a.fa (by simp) _ h1).symm,(hn.2.2 a.fa (by simp) _ h2).symm⟩
  | succ i =>
   cases j with
   | zero =>
    simp at hi hj
    subst hj
    have hm:=List.mem_of_getElem? hi
    have h1:t.fa∈Ts.flatMap λt=>[t.fa,t.pa]:=List.mem_flatMap.mpr ⟨t,hm,by simp⟩
    exact⟨hn.2.2 a.fa (by simp) _ h1,hn.2.2 a.pa (by simp) _ h1⟩
   | succ j =>
    simp at hi hj
    exact ih hn.2.1 hi hj (by omega)
theorem cG{Ts:List G2}{t:G2}(h:(Ts.flatMap λt=>[t.fa,t.pa]).Nodup) (ht:t∈Ts):t.pa≠t.fa:=by
 induction Ts with
 | nil=>cases ht
 | cons a Ts ih =>
  simp only[List.flatMap_cons] at h
  rw[List.nodup_append] at h
  rcases List.mem_cons.mp ht with rfl | ht
  ·have:=h.1
   simp at this
   exact λe=>this e.symm
  ·exact ih h.2.1 ht
theorem cH{Ts:List G2}{i:Nat}{t t':G2}(h:Ts[i]?=some t) (h1:t'.fa=t.fa) (h2:t'.pa=t.pa):(Ts.set i t').flatMap (λt=>[t.fa,t.pa])=Ts.flatMap λt=>[t.fa,t.pa]:=by
 induction Ts generalizing i with
 | nil=>rfl
 | cons a Ts ih =>
  cases i with
  | zero=>simp at h; subst h; simp[h1,h2]
  | succ i=>simp at h; simp[ih h]
theorem map_set{α:Type}{g:G2→α}{Ts:List G2}{i:Nat}{t t':G2}(h:Ts[i]?=some t) (h1:g t'=g t):(Ts.set i t').map g=Ts.map g:=by
 induction Ts generalizing i with
 | nil=>rfl
 | cons a Ts ih =>
  cases i with
  | zero=>simp at h; subst h; simp[h1]
  | succ i=>simp at h; simp[ih h]
theorem Tb(N:j7 c) (k:j5 K T O) (h:G8 H K T Ts Fs O){i:Nat}{t:G2}(ht:Ts[i]?=some t){name access:V}{f:Tm}(hf:f∈T) (hw:f.weight≤20){flags:Nat}(hfl:flags∈[0,1,2,5]) (hfz:t.v8.length < 1000) (lJ:Fs.length < 1000){n:Nat}(hn:4≤n)
  (q:∀v x dx b7,j5 K T b7→G8 H K T (Ts.set i {t with v8:=t.v8++[Fs.length+1]}) (Fs++[⟨x,dx,flags,f⟩]) b7→b8 (λb=>b=H.fl∨b=t.fa) O b7→Q v b7) :
  l8 c n (.fix (.ref 356)) [.ref H.st,vi (64+i),name,vi (T.idxOf f),access,vi flags] O Q E:=by
 obtain⟨n,rfl⟩:∃m,n=m+1:=⟨n - 1,by omega⟩
 have hi:i < Ts.length:=(List.getElem?_eq_some_iff.mp ht).1
 have Qg:t∈Ts:=List.mem_of_getElem? ht
 have hty:=h.tys i t ht
 have hto:D9 Ts (64+i)=some t:=by unfold D9; rw[if_neg (by omega)]; simpa using ht
 refine N.fn N.C.add_field rfl rfl ?_
 refine i6 ?_
 simp only[WX,d8,gZ,gS,oI,eL]
 refine h.N3 N ?_
 rw[h.Fv (by omega),hto]
 refine i6 ?_
 simp only[WX,j0,b6,d8,gZ,gS,oI,eL,show((0:Nat)=6)=False by simp,if_false]
 refine h.P5 N (A3 h.fields (by simp; omega) ?_)
 simp only[List.length_cons,List.length_map]
 refine z6 ?_
 simp only[WX,j0,b6,d8,gZ,gS,oI,eL,if_true,show((0:Nat)=7)=False by simp,show((0:Nat)=6)=False by simp,show((1:Nat)=7)=False by simp,show((1:Nat)=6)=False by simp,show((2:Nat)=7)=False by simp,show((2:Nat)=6)=False by simp,show((3:Nat)=7)=False by simp,show((3:Nat)=6)=False by simp,show((4:Nat)=7)=False by simp,show((4:Nat)=6)=False by simp,show((5:Nat)=7)=False by simp,show((5:Nat)=6)=False by simp,if_false]
 refine h.P5 N ⟨_,.inl ⟨_,_,rfl,h.fields,.inl ⟨rfl,rfl⟩⟩,?_⟩
 refine Ta N (by omega) λx dx t9 hx hdx s1 hi1 ⟨l1,hl1,wU,hk1⟩=>?_
 have k1:=k.same s1
 have h1:G8 H K T Ts Fs t9:=h.grow (.refl _ 0) (s1.mono λ_ h=>h.elim) k.plain
 refine v3 h1.fields (by simp; omega) ?_
 have m2:∀b,b≠H.fl→i8 t9 H.fl (.list ((.none::Fs.map λf=>.ref f.o)++[.ref x])) b=t9 b:=λb hb=>i9 hb
 have e2:i8 t9 H.fl (.list ((.none::Fs.map λf=>.ref f.o)++[.ref x])) H.fl=some (.list (.none::(Fs++[(⟨x,dx,flags,f⟩:P4)]).map λf=>.ref f.o)):=by rw[b9]; simp
 generalize i8 t9 H.fl (.list ((.none::Fs.map λf=>.ref f.o)++[.ref x]))=t8 at m2 e2
 have p2:Plain (·=H.fl) t9:=λb hb=>by subst hb; exact .inl ⟨_,h1.fields⟩
 have s2:b8 (·=H.fl) t9 t8:=b8.of m2 rfl
 have k2:j5 K T t8:=k1.keep s2 (λb hb=>by subst hb; exact h.apart _ (.inr (.inl rfl))) p2
 have hsep:=h1.sep Qg
 have Ql:T8 t8 (64+i) t:=(h1.tys i t ht).same s2 p2 hsep.2.1 hsep.2.2.2
 refine z6 ?_
 simp only[WX,j0,b6,oI,eL,if_true,show((6:Nat)=7)=False by simp,if_false,Yi]
 have lK:=Ql.2.2.2
 refine Ql.P5 N ⟨_,.inl ⟨_,_,rfl,lK,.inl ⟨rfl,rfl⟩⟩,?_⟩
 refine v3 lK (by simp; omega) ?_
 have m3:∀b,b≠t.fa→i8 t8 t.fa (.list (t.v8.map vi++[.int ((Fs.length+1:Nat):Int)])) b=t8 b:=λb hb=>i9 hb
 have e3:i8 t8 t.fa (.list (t.v8.map vi++[.int ((Fs.length+1:Nat):Int)])) t.fa=some (.list ((t.v8++[Fs.length+1]).map vi)):=by rw[b9]; simp[vi]
 generalize i8 t8 t.fa (.list (t.v8.map vi++[.int ((Fs.length+1:Nat):Int)]))=A4 at m3 e3
 have p3:Plain (·=t.fa) t8:=λb hb=>by subst hb; exact .inl ⟨_,lK⟩
 have s3:b8 (·=t.fa) t8 A4:=b8.of m3 rfl
 have k3:j5 K T A4:=k2.keep s3 (λb hb=>by subst hb; exact h.apart _ (.inr (.inr (.inr ⟨t,Qg,.inl rfl⟩)))) p3
 have Mm:=h.lists
 rw[List.nodup_append] at Mm
 have hnm:=h1.lH
 refine i5 ?_
 simp only[WX,b6,if_true,oI,eL,i4]
 refine q _ x dx A4 k3 ?_ (((s1.mono λ_ h=>h.elim).trans (s2.mono λ_ h=>.inl h)).trans (s3.mono λ_ h=>.inr h))
 have qN:∀b o,b≠H.fl→b≠t.fa→t9 b=some o→A4 b=some o:=λb o h1 h2 e=>by rw[m3 _ h2,m2 _ h1]; exact e
 have nF:∀b o,(∀l,o≠.list l)→t9 b=some o→b≠H.fl∧b≠t.fa:=λb o ho e=>⟨λq=>by rw[q,h1.fields] at e; exact ho _ (Option.some.inj e).symm,λq=>by rw[q,(h1.tys i t ht).2.2.2] at e; exact ho _ (Option.some.inj e).symm⟩
 have keepI:∀b o,(∀l,o≠.list l)→t9 b=some o→A4 b=some o:=λb o ho e=>qN b o (nF b o ho e).1 (nF b o ho e).2 e
 refine⟨keepI _ _ (by intro l e; cases e) h1.inst,?_,?_,?_,?_,?_,?_,?_,?_,?_,?_,?_,?_⟩
 ·obtain⟨l,b,b'⟩:=h1.ns
  exact⟨l,keepI _ _ (by intro l e; cases e) b,b'⟩
 ·have hm:(Ts.set i {t with v8:=t.v8++[Fs.length+1]}).map (λt=>V.ref t.o)=Ts.map λt=>V.ref t.o:=map_set ht rfl
  rw[hm]
  exact qN _ _ (by have:=Mm.1; simp at this; exact this) hsep.1.symm h1.types
 ·rw[m3 _ hsep.2.1.symm]; exact e2
 ·intro j u hj
  by_cases hij:i=j
  ·subst hij
   rw[List.getElem?_set_self hi] at hj
   cases hj
   obtain⟨a1,⟨l,a2,a3⟩,⟨pl,a4,a5⟩,a6⟩:=h1.tys i t ht
   exact⟨keepI _ _ (by intro l e; cases e) a1,⟨l,keepI _ _ (by intro l e; cases e) a2,a3⟩,⟨pl,qN _ _ hsep.2.2.2 (cG (t:=t) Mm.2.1 Qg) a4,a5⟩,e3⟩
  ·rw[List.getElem?_set_ne hij] at hj
   have hum:=List.mem_of_getElem? hj
   have hus:=h1.sep hum
   obtain⟨f1,f2⟩:=cF Mm.2.1 ht hj hij
   obtain⟨a1,⟨l,a2,a3⟩,⟨pl,a4,a5⟩,a6⟩:=h1.tys j u hj
   exact⟨keepI _ _ (by intro l e; cases e) a1,⟨l,keepI _ _ (by intro l e; cases e) a2,a3⟩,⟨pl,qN _ _ hus.2.2.2 f2 a4,a5⟩,qN _ _ hus.2.1 f1 a6⟩
 ·intro g hg
  rcases List.mem_append.mp hg with hg | hg
  ·obtain⟨a1,⟨l,a2,a3⟩,a4⟩:=h1.fds g hg
   exact⟨keepI _ _ (by intro l e; cases e) a1,⟨l,keepI _ _ (by intro l e; cases e) a2,a3⟩,a4⟩
  ·simp at hg; subst hg
   exact⟨keepI _ _ (by intro l e; cases e) hi1,⟨l1,keepI _ _ (by intro l e; cases e) hl1,wU,hk1⟩,hf⟩
 ·rintro b (hb | hb | hb | ⟨u,hu,hb⟩)
  ·exact h.apart b (.inl hb)
  ·exact h.apart b (.inr (.inl hb))
  ·exact h.apart b (.inr (.inr (.inl hb)))
  ·rcases List.mem_or_eq_of_mem_set hu with hu | rfl
   ·exact h.apart b (.inr (.inr (.inr ⟨u,hu,hb⟩)))
   ·exact h.apart b (.inr (.inr (.inr ⟨t,Qg,hb⟩)))
 ·intro u hu j hj
  rcases List.mem_or_eq_of_mem_set hu with hu | rfl
  ·obtain⟨m,e1,e2⟩:=h.W4 u hu j hj
   exact⟨m,e1,by simp; omega⟩
  ·rcases List.mem_append.mp hj with hj | hj
   ·obtain⟨m,e1,e2⟩:=h.W4 t Qg j hj
    exact⟨m,e1,by simp; omega⟩
   ·simp at hj; subst hj
    exact⟨_,rfl,by simp⟩
 ·intro g hg
  rcases List.mem_append.mp hg with hg | hg
  ·exact h.flags g hg
  ·simp at hg; subst hg; exact hfl
 ·intro g hg
  rcases List.mem_append.mp hg with hg | hg
  ·exact h.light g hg
  ·simp at hg; subst hg; exact hw
 ·refine⟨by simpa using h.few.1,by simp; omega,λu hu=>?_⟩
  rcases List.mem_or_eq_of_mem_set hu with hu | rfl
  ·exact h.few.2.2 u hu
  ·have:=h.few.2.2 t Qg
   exact⟨by simp; omega,this.2⟩
 ·obtain⟨l,e,r⟩:=h1.Xd
  exact⟨l,keepI _ _ (by intro l e; cases e) e,r⟩
 ·rw[cH (t':={t with v8:=t.v8++[Fs.length+1]}) ht rfl rfl]; exact h.lists
end
def x7:List Hd:=[.var 0,.prim 7,.val 69,.val 75,.prim 12]
def fld(hs:List Hd):Nat→Tm→Bool
 | _,.leaf h=>x7.contains h
 | k+1,.un h a=>hs.contains h && fld hs k a
 | _,_=>false
def Nh:List Hd:=[.val 64,.val 65,.val 66,.val 67,.val 68,.cls 70,.arr]
def lL:List Hd:=[.val 64,.val 65,.val 66,.val 67,.cls 70,.arr]
theorem qO:Str.ofString "SRQNGCa"=⟨(Nh.map Hd.cd).toArray⟩:=by decide +kernel
theorem qP:Str.ofString "SRQNCa"=⟨(lL.map Hd.cd).toArray⟩:=by decide +kernel
theorem gC:Str.ofString "xieuo"=⟨(x7.map Hd.cd).toArray⟩:=by decide +kernel
section
variable {c:Cx}{n:Nat}{O:a7}{Q:V→a7→Prop}{E:a7→Prop}{nu at_:Addr}{B:Nat}
theorem Vg(N:j7 c){hs:List Hd}(hz:hs.length≤100):∀(deep:Nat){O:a7}{B n:Nat}{Q:V→a7→Prop}{E:a7→Prop},K2 nu at_ B O→B+deep+1≤1000000→deep+3≤n →
  (∀t,fld hs deep t=true→∀b7,K2 nu at_ (B+deep+1) b7→b8 (·=at_) O b7→Q t.v b7)→l8 c n (.fix (.ref 605)) [.ref nu,.ref at_,vi deep,.str ⟨(hs.map Hd.cd).toArray⟩] O Q E:=by
 intro deep
 have fin:∀(deep r:Nat) (b7:a7) (n:Nat) (Z:Loc) (Q:V→a7→Prop) (E:a7→Prop),r < 5→Z 4=some (vi r)→(∀t,fld hs deep t=true→Q t.v b7)→∀xs,o9 c n ([(.ret (.tup [(.sub (.con (.str (Str.ofString "xieuo"))) (.loc 4))]))]++xs) Z b7 (i4 Q) E:=by
  intro deep r b7 n Z Q E hr h4 q xs
  refine i5 ?_
  simp only[WX,j0,h4,oI,eL,gC,i4]
  have hl:r < x7.length:=hr
  rw[show vi r=V.int (r:Int) from rfl,A7 (u:=x7[r].cd) (by simp[hl]) (by omega)]
  have dl:fld hs deep (.leaf x7[r])=true:=by
   have:x7.contains x7[r]=true:=by rw[List.contains_iff_mem]; exact List.getElem_mem hl
   cases deep<;>exact this
  exact q (.leaf x7[r]) dl
 induction deep with
 | zero =>
  intro O B n Q E h hB hn q
  obtain⟨n,rfl⟩:∃m,n=m+1:=⟨n - 1,by omega⟩
  refine N.fn N.C.Jn rfl rfl ?_
  refine i6 ?_
  simp only[WX,j0,WC,d8,gZ,gS,oI,eL,vi,z2]
  refine⟨λe=>by simp at e,λ_=>?_⟩
  refine O2 N h (by omega) (k:=5) (by omega) (by omega) λr hr b7 d s=>?_
  refine l0 true (λR E q=>?_) (λ_=>?_) (λe=>by cases e)
  ·simp only[WC,WX,b6,if_true,oI,eL,vi,O1]
   rw[show decide ((r:Int) < 5)=true by simp; omega]; exact q
  exact fin 0 r b7 _ _ Q E hr (by simp[b6]) (λt ht=>q t ht b7 (d.mono (by omega)) s) _
 | succ k ih =>
  intro O B n Q E h hB hn q
  obtain⟨n,rfl⟩:∃m,n=m+1:=⟨n - 1,by omega⟩
  refine N.fn N.C.Jn rfl rfl ?_
  refine i6 ?_
  simp only[WX,j0,WC,d8,gZ,gS,oI,eL,vi,z2]
  refine⟨λ_=>?_,λe=>by simp at e; omega⟩
  refine Wf (by show(hs.map Hd.cd).toArray.size≤_; simp; omega) ?_
  rw[show(⟨(hs.map Hd.cd).toArray⟩:Str).length=hs.length by show(hs.map Hd.cd).toArray.size=_; simp]
  rw[Y0,show V.int (5+(hs.length:Int))=vi (5+hs.length) by simp[vi]]
  refine O2 N h (by omega) (k:=5+hs.length) (by omega) (by omega) λr hr t9 d1 s1=>?_
  refine l0 (decide (r < 5)) (λR E q=>?_) (λe=>?_) (λe=>?_)
  ·simp only[WC,WX,b6,if_true,oI,eL,vi,O1]
   rw[show decide ((r:Int) < 5)=decide (r < 5) by rw[decide_eq_decide]; omega]; exact q
  ·exact fin (k+1) r t9 _ _ Q E (by simpa using e) (by simp[b6]) (λt ht=>q t ht t9 (d1.mono (by omega)) s1) _
  have iV:5≤r:=by simpa using e
  obtain⟨j,rfl⟩:∃j,r=5+j:=⟨r - 5,by omega⟩
  have hj:j < hs.length:=by omega
  refine i5 ?_
  simp only[WX,j0,b6,d8,gZ,gS,oI,eL,if_true,show((0:Nat)=4)=False by simp,show((1:Nat)=4)=False by simp,show((2:Nat)=4)=False by simp,show((3:Nat)=4)=False by simp,if_false,vi]
  rw[Ba,show V.int (((5+j:Nat):Int) - 5)=V.int (j:Int) by congr 1; omega,A7 (u:=hs[j].cd) (by simp[hj]) (by omega)]
  rw[Ba,show V.int (((k+1:Nat):Int) - 1)=vi k by simp[vi]]
  refine ih d1 (by omega) (by omega) λa ha t8 d2 s2=>?_
  simp only[i4]
  have hc:hs.contains hs[j]=true:=by rw[List.contains_iff_mem]; exact List.getElem_mem hj
  exact q (.un hs[j] a) (by simp only[fld,hc,ha,Bool.and_self]) t8 (d2.mono (by omega)) (s1.trans s2)
def deepOf:Tm→Nat
 | .leaf _=>0
 | .un _ a=>deepOf a+1
 | .bin _ a _=>deepOf a+1
theorem lM(N:j7 c){t:Tm}{n:Nat}(hn:1≤n) (q:Q (vi (deepOf t)) O):l8 c n (.fix (.ref 626)) [t.v] O Q E:=by
 obtain⟨n,rfl⟩:∃m,n=m+1:=⟨n - 1,by omega⟩
 refine N.fn N.C.aL rfl rfl ?_
 refine Jq ?_
 refine Pv (λk Z b7=>b7=O∧∃u:Tm,∃i:Nat,k=deepOf u∧Z 0=some u.v∧Z 1=some (vi i)∧i+deepOf u=deepOf t) (k:=deepOf t) ⟨rfl,t,0,rfl,rfl,rfl,by omega⟩ ?_
 rintro k Z b7 ⟨rfl,u,i,rfl,h0,h1,hi⟩
 have hkl:=v9 u
 simp only[WC,WX,j0,h0,oI,eL]
 rw[C6 u]
 refine C3 (by simp; omega) ?_
 simp only[cmp_gt]
 cases hk:u.kids with
 | nil =>
  have:deepOf u=0:=by cases u<;>simp[Tm.kids] at hk; rfl
  refine⟨λe=>by simp at e,λ_=>?_⟩
  refine i5 ?_
  simp only[WX,h1,oI,eL,i4]
  rw[show i=deepOf t by omega]; exact q
 | cons a l =>
  have hd:deepOf u=deepOf a+1:=by
   cases u<;>simp[Tm.kids] at hk
   ·obtain⟨rfl,_⟩:=hk; rfl
   ·obtain⟨rfl,_⟩:=hk; rfl
  refine⟨λ_=>?_,λe=>by simp at e; omega⟩
  refine i6 ?_
  simp only[WX,h0,oI,eL]
  rw[C6 u,show(1:Int)=((1:Nat):Int) from rfl,v7 (v:=a.v) (by omega) (by simp[hk])]
  refine aP (old:=vi i) (by simp[b6,h1]) ?_
  simp only[WX,vi,jH]
  exact o7 ⟨deepOf a,by omega,rfl,a,i+1,rfl,by simp[b6],by simp[b6,vi],by omega⟩
end
def Ni:List Hd:=[.val 64,.val 65,.val 66,.val 67,.val 68,.val 75]
theorem qQ:Str.ofString "SRQNGu"=⟨(Ni.map Hd.cd).toArray⟩:=by decide +kernel
def Gb:Hd→Option Nat
 | .val 64=>some 0
 | .val 65=>some 1
 | .val 66=>some 2
 | .val 67=>some 3
 | .val 68=>some 4
 | _=>none
def t0(D:Nat→List Tm) (t:Tm):List Tm:=match Gb t.hd,t.kids with
 | some j,a::_=>((D j).map (t4 [(tX,a)])).filter λu=>Ni.contains u.hd
 | _,_=>[]
def Ip(fa:Addr) (la:Nat→Addr) (D:Nat→List Tm) (O:a7):Prop :=
 O fa=some (.dict [(one 83,.ref (la 0)),(one 82,.ref (la 1)),(one 81,.ref (la 2)),(one 78,.ref (la 3)),(one 71,.ref (la 4))])∧∀j,j < 5→O (la j)=some (.list ((D j).map Tm.v))
theorem Ip.same{fa:Addr}{la:Nat→Addr}{D:Nat→List Tm}{O b7:a7}{F:Addr→Prop}(h:Ip fa la D O) (s:b8 F O b7) (h1:¬F fa) (h2:∀j,j < 5→¬F (la j)):Ip fa la D b7 :=
 ⟨s _ _ h1 h.1,λj hj=>s _ _ (h2 j hj) (h.2 j hj)⟩
theorem Xo{k k' v:V}{l:List (V×V)}:x6 ((k',v)::l) k=if k'=k then some v else x6 l k:=by
 unfold x6
 by_cases h:k'=k
 ·simp[h]
 ·rw[List.find?_cons_of_neg (by simpa using h),if_neg h]
theorem cI{la:Nat→Addr}:∀h∈M0,x6 [(one 83,.ref (la 0)),(one 82,.ref (la 1)),(one 81,.ref (la 2)),(one 78,.ref (la 3)),(one 71,.ref (la 4))] (one h.cd)=(Gb h).map λj=>V.ref (la j):=by
 intro h hh
 have key:∀h∈M0,Gb h=if h.cd=83 then some 0 else if h.cd=82 then some 1 else if h.cd=81 then some 2 else if h.cd=78 then some 3 else if h.cd=71 then some 4 else none:=by decide
 rw[key h hh]
 simp only[Xo,one_inj,eq_comm (b:=h.cd)]
 repeat' split
 all_goals rfl
theorem lN:∀h∈M0,decide (h.cd∈(Ni.map Hd.cd))=Ni.contains h:=by decide
section
variable {c:Cx}{n:Nat}{O:a7}{Q:V→a7→Prop}{E:a7→Prop}
theorem P8{f:Bd}(hv:∀p∈f,p.2.o5=true):∀{t:Tm},t.o5=true→(∀p∈f,∃h,p.1=.leaf h)→(t4 f t).o5=true
 | .leaf h,hl,hk=>by
  simp only[t4]
  cases e:f6 f (.leaf h) with
  | none=>exact hl
  | some u=>exact hv _ (j8 e)
 | .un h a,hl,hk=>by
  have e:f6 f (.un h a)=none:=by
   cases e:f6 f (.un h a) with
   | none=>rfl
   | some u=>obtain⟨g,hg⟩:=hk _ (j8 e); cases hg
  simp only[Tm.o5,Bool.and_eq_true] at hl
  simp only[t4,e,Option.getD_none,Tm.o5,hl.1,P8 hv hl.2 hk,Bool.and_self]
 | .bin h a b,hl,hk=>by
  have e:f6 f (.bin h a b)=none:=by
   cases e:f6 f (.bin h a b) with
   | none=>rfl
   | some u=>obtain⟨g,hg⟩:=hk _ (j8 e); cases hg
  simp only[Tm.o5,Bool.and_eq_true] at hl
  simp only[t4,e,Option.getD_none,Tm.o5,hl.1.1,P8 hv hl.1.2 hk,P8 hv hl.2 hk,Bool.and_self]
theorem Mn(N:j7 c){fa:Addr}{la:Nat→Addr}{D:Nat→List Tm}(hF:Ip fa la D O) (hD:∀j,j < 5→∀t∈D j,LT t) (hz:∀j,j < 5→(D j).length≤100){t:Tm}(ht:t.o5=true){n:Nat}(hn:12≤n)
  (q:∀r b7,O r=none→b8 (λ_=>False) O b7→b7 r=some (.list ((t0 D t).map Tm.v))→Q (.ref r) b7):l8 c n (.fix (.ref 619)) [.ref fa,t.v] O Q E:=by
 obtain⟨n,rfl⟩:∃m,n=m+1:=⟨n - 1,by omega⟩
 refine N.fn N.C.aK rfl rfl ?_
 refine i6 (B1 λout hout=>?_)
 have s0:b8 (λ_=>False) O (i8 O out (.list [])):=b8.new hout
 have eo:i8 O out (.list []) out=some (.list []):=b9 _ _ _
 generalize i8 O out (.list [])=H0 at s0 eo
 have tA:=hF.same s0 id λ_ _=>id
 refine D0 ?_
 simp only[WX,j0,b6,d8,gZ,gS,oI,eL,show((0:Nat)=2)=False by simp,show((1:Nat)=2)=False by simp,if_false]
 refine⟨_,.inr (.inl ⟨_,_,rfl,tA.1,rfl,rfl⟩),?_⟩
 rw[Mj]
 intro r1 hr1
 have s1:b8 (λ_=>False) H0 (i8 H0 r1 (.list [])):=b8.new hr1
 have mY:i8 H0 r1 (.list []) r1=some (.list []):=b9 _ _ _
 have wV:=s1 _ _ id eo
 have mZ:=tA.same s1 id λ_ _=>id
 have Vd:=s0.trans s1
 generalize i8 H0 r1 (.list [])=t9 at s1 mY wV mZ Vd
 have hkey:S5 (one t.hd.cd) [(one 83,V.ref (la 0)),(one 82,.ref (la 1)),(one 81,.ref (la 2)),(one 78,.ref (la 3)),(one 71,.ref (la 4))]:=by
  refine .inr (.inl ⟨_,rfl,λp hp=>?_⟩)
  simp only[List.mem_cons,List.not_mem_nil,or_false] at hp
  rcases hp with rfl | rfl | rfl | rfl | rfl<;>exact⟨_,rfl⟩
 refine iO mZ.1 hkey ?_
 rw[cI t.hd (F4 ht)]
 cases hs:Gb t.hd with
 | none =>
  have el:t0 D t=[]:=by unfold t0; rw[hs]
  simp only[Option.map_none,Option.getD_none]
  refine⟨[],by simp[u6,mY],by simp,?_⟩
  simp only[Kk,u6,mY]
  refine⟨trivial,i5 ?_⟩
  simp only[WX,b6,if_true,oI,eL,i4]
  exact q out t9 hout Vd (by rw[wV,el]; rfl)
 | some j =>
  have hj:j < 5:=by
   have key:∀h∈M0,∀j,Gb h=some j→j < 5:=by
    intro h hh j e
    unfold Gb at e
    split at e<;>simp at e<;>omega
   exact key _ (F4 ht) j hs
  obtain⟨a,ha⟩:∃a,t.kids=[a]:=by
   rcases t with h | ⟨h,a⟩ | ⟨h,a,b⟩
   ·exfalso
    simp only[Tm.o5,List.contains_iff_mem] at ht
    have key:∀h∈Bk,Gb h=none:=by decide
    rw[show(Tm.leaf h).hd=h from rfl,key h ht] at hs; cases hs
   ·exact⟨a,rfl⟩
   ·exfalso
    simp only[Tm.o5,Bool.and_eq_true,beq_iff_eq] at ht
    rw[show(Tm.bin h a b).hd=h from rfl,ht.1.1] at hs; cases hs
  have hla:a.o5=true:=Ga ht (by rw[ha]; simp)
  have el:t0 D t=((D j).map (t4 [(tX,a)])).filter λu=>Ni.contains u.hd:=by unfold t0; rw[hs,ha]
  simp only[Option.map_some,Option.getD_some]
  have hit:∀b7:a7,b8 (λ_=>False) t9 b7∨b7 (la j)=some (.list ((D j).map Tm.v))→u6 (.ref (la j)) b7 ((D j).map Tm.v):=λb7 h=>by
   rcases h with s | e
   ·simp[u6,s _ _ id (mZ.2 j hj)]
   ·simp[u6,e]
  have hne:out≠la j:=by rintro rfl; rw[hF.2 j hj] at hout; cases hout
  have hkey:∀p∈[(tX,a)],LT p.1:=by
   intro p hp
   simp only[List.mem_cons,List.not_mem_nil,or_false] at hp
   subst hp; exact⟨rfl,by simp[tX,Tm.nest]⟩
  refine⟨_,hit t9 (.inl (.refl _ _)),by simpa using Nat.le_trans (hz j hj) (by omega),?_⟩
  refine s9 (λdone left Z b7=>Z 1=some t.v∧Z 2=some (.ref out)∧b8 (λ_=>False) O b7∧∃dk lk:List Tm,D j=dk++lk∧left=lk.map Tm.v∧b7 out=some (.list (((dk.map (t4 [(tX,a)])).filter λu=>Ni.contains u.hd).map Tm.v)))
   (λ_ _ _=>False) (λ_ _ _ b7 hI=>hit b7 (.inr (hI.2.2.1 _ _ id (hF.2 j hj)))) ?_ _ [] _ _ _ ⟨rfl,rfl,Vd,[],D j,rfl,rfl,wV⟩ ?_ (λ_ _ _ h=>h.elim)
  ·rintro done x left Z b7 R ⟨h1,h2,s,dk,lk,ek,qR,ho⟩ hnext _ _
   cases lk with
   | nil=>simp at qR
   | cons u lk =>
    simp only[List.map_cons,List.cons.injEq] at qR
    obtain⟨rfl,rfl⟩:=qR
    have huD:u∈D j:=by rw[ek]; simp
    have hu:=hD j hj u huD
    simp only[J7]
    refine i6 ?_
    have Cy:∀{Z:Loc}{f:X}{l:List X}{O:a7}{Q:V→a7→Prop},WX c n (.call f l) Z O Q E=WX c n f Z O (λfv O=>j0 c n l Z O (λvs O=>l8 c n fv vs O Q E) E) E:=by intros; simp only[WX]
    have G4:∀{Z:Loc}{x:X}{l:List X}{O:a7}{Q:List V→a7→Prop},j0 c n (x::l) Z O Q E=WX c n x Z O (λv O=>j0 c n l Z O (λvs O=>Q (v::vs) O) E) E:=by intros; simp only[j0]
    have Ml:∀{Z:Loc}{O:a7}{Q:List V→a7→Prop},j0 c n [] Z O Q E=Q [] O:=by intros; simp only[j0]
    have Io:∀{Z:Loc}{v:V}{O:a7}{Q:V→a7→Prop},WX c n (.con v) Z O Q E=Q v O:=by intros; simp only[WX]
    rw[Cy,Io,G4]
    refine H9 (v:=u.v) (by simp[b6]) ?_
    rw[G4]
    refine Ve (bd:=[(tX,a)]) (vs:=[tX.v,a.v]) (λO Q q=>?_) rfl hkey (by simp) ?_
    ·simp only[j0,WX,b6,h1,oI,eL,kW,show((1:Nat)=3)=False by simp,if_false]
     rw[C6 t,show(1:Int)=((1:Nat):Int) from rfl,v7 (v:=a.v) (by omega) (by simp[ha])]
     exact q
    intro r5 C7 iV pY s5
    rw[Ml]
    refine Fz N hkey u.nest (Nat.le_refl _) pY hu (by have:=hu.2; omega) λY5 s6=>?_
    have mT:=s5.trans s6
    have ho6:=mT _ _ id ho
    have vP:(t4 [(tX,a)] u).o5=true:=P8 (by intro p hp; simp at hp; subst hp; exact hla) hu.1 (by intro p hp; simp at hp; subst hp; exact⟨_,rfl⟩)
    refine l0 (Ni.contains (t4 [(tX,a)] u).hd) (λR E q=>?_) (λe=>?_) (λe=>?_)
    ·simp only[WC,WX,b6,if_true,oI,eL]
     rw[Mj,qQ]
     have:=λR=>in_str (c:=c) (O:=Y5) (k:=(t4 [(tX,a)] u).hd.cd) (l:=(Ni.map Hd.cd).toArray) (R:=R)
     rw[this,lN _ (F4 vP)]; exact q
    ·refine z6 ?_
     simp only[WX,j0,b6,h2,if_true,oI,eL,show((2:Nat)=4)=False by simp,show((2:Nat)=3)=False by simp,if_false]
     refine⟨_,.inl ⟨_,_,rfl,ho6,.inl ⟨rfl,rfl⟩⟩,?_⟩
     have hdz:dk.length≤100:=by have:=hz j hj; rw[ek] at this; simp at this; omega
     have hfz:=List.length_filter_le (λu:Tm=>Ni.contains u.hd) (dk.map (t4 [(tX,a)]))
     rw[List.length_map] at hfz
     refine v3 ho6 (by rw[List.length_map]; omega) ?_
     refine o7 (hnext _ _ ⟨by simp[b6,h1],by simp[b6,h2],λb o f eb=>?_,dk++[u],lk,by simp[ek],rfl,?_⟩)
     ·rw[i9 (fresh_ne hout eb)]; exact(s.trans mT) b o f eb
     ·rw[b9,List.map_append (l₁:=dk),List.filter_append]; simp only[List.map_cons,List.map_nil,List.filter_cons,List.filter_nil,e,if_true,List.map_append]
    ·refine o7 (hnext _ _ ⟨by simp[b6,h1],by simp[b6,h2],s.trans mT,dk++[u],lk,by simp[ek],rfl,?_⟩)
     rw[ho6,List.map_append (l₁:=dk),List.filter_append]; simp only[List.map_cons,List.map_nil,List.filter_cons,List.filter_nil,e,if_false,Bool.false_eq_true,List.append_nil]
  ·rintro Z b7 ⟨h1,h2,s,dk,lk,ek,qR,ho⟩
   have:lk=[]:=by cases lk<;>simp at qR ⊢
   subst this
   rw[List.append_nil] at ek
   refine i5 ?_
   simp only[WX,h2,oI,eL,i4]
   exact q out b7 hout s (by rw[ho,el,ek])
end
def SF(H:Hg) (Ts:List G2) (b:Addr):Prop:=b=H.ty∨b=H.fl∨b=H.nm∨∃t∈Ts,b=t.fa∨b=t.pa
structure J5(H:Hg) (K:I8) (T:List Tm) (Ts:List G2) (Fs:List P4) (d nu at_:Addr) (B:Nat) (O:a7):Prop where
 k:j5 K T O
 s:G8 H K T Ts Fs O
 y:Ng d H.st K O
 dr:K2 nu at_ B O
 sa:¬K.F at_∧¬SF H Ts at_
 su:¬K.F nu∧¬SF H Ts nu
section
variable {c:Cx}{n:Nat}{O b7:a7}{K:I8}{T:List Tm}{Q:V→a7→Prop}{E:a7→Prop}{H:Hg}{Ts:List G2}{Fs:List P4}{d nu at_ na:Addr}{B:Nat}{f:Bd}
theorem G8.move(h:G8 H K T Ts Fs O){T':List Tm}{m:Nat}{F:Addr→Prop}(g:Gr T T' m) (s:b8 F O b7) (hp:Plain F O) (hF:∀b,F b→¬SF H Ts b):G8 H K T' Ts Fs b7 where
 inst:=s _ _ (λf=>by rcases hp _ f with⟨l,x⟩ | ⟨l,x⟩<;>rw[h.inst] at x<;>cases x) h.inst
 ns:=by
  obtain⟨l,b,b'⟩:=h.ns
  exact⟨l,s _ _ (λf=>by rcases hp _ f with⟨l,x⟩ | ⟨l,x⟩<;>rw[b] at x<;>cases x) b,b'⟩
 types:=s _ _ (λf=>hF _ f (.inl rfl)) h.types
 fields:=s _ _ (λf=>hF _ f (.inr (.inl rfl))) h.fields
 tys:=λi t e=>(h.tys i t e).same s hp (λf=>hF _ f (.inr (.inr (.inr ⟨t,List.mem_of_getElem? e,.inl rfl⟩)))) (λf=>hF _ f (.inr (.inr (.inr ⟨t,List.mem_of_getElem? e,.inr rfl⟩))))
 fds:=λf hf=>(h.fds f hf).same g s hp
 apart:=h.apart
 W4:=h.W4
 flags:=h.flags
 light:=h.light
 few:=h.few
 Xd:=by
  obtain⟨l,b,b'⟩:=h.Xd
  exact⟨l,s _ _ (λf=>hF _ f (.inr (.inr (.inl rfl)))) b,b'⟩
 lists:=h.lists
theorem J5.move(h:J5 H K T Ts Fs d nu at_ B O){T':List Tm}{m:Nat}{F:Addr→Prop}(g:Gr T T' m) (k:j5 K T' b7) (s:b8 F O b7) (hp:Plain F O) (hF:∀b,F b→¬SF H Ts b) (h1:¬F at_) (h2:¬F nu):J5 H K T' Ts Fs d nu at_ B b7 :=
 ⟨k,h.s.move g s hp hF,h.y.same s hp,h.dr.same s h2 h1,h.sa,h.su⟩
theorem J5.new(h:J5 H K T Ts Fs d nu at_ B O) (s:b8 (λ_=>False) O b7):J5 H K T Ts Fs d nu at_ B b7 :=
 h.move (.refl _ 0) (h.k.same s) s .none (λ_ h=>h.elim) id id
theorem J5.draw(h:J5 H K T Ts Fs d nu at_ B O){B':Nat}(dr:K2 nu at_ B' b7) (s:b8 (·=at_) O b7):J5 H K T Ts Fs d nu at_ B' b7:=by
 have hp:Plain (·=at_) O:=λb hb=>by subst hb; obtain⟨i,_,e⟩:=h.dr.pos; exact .inl ⟨_,e⟩
 refine⟨h.k.keep s (λb hb=>by subst hb; exact h.sa.1) hp,h.s.move (.refl _ 0) s hp (λb hb=>by subst hb; exact h.sa.2),h.y.same s hp,dr,h.sa,h.su⟩
theorem J4.keep(u:J4 K T f na O){F:Addr→Prop}(s:b8 F O b7) (hp:Plain F O) (hF:∀b,F b→¬K.F b) (hn:¬F na):J4 K T f na b7 :=
 ⟨u.kt.keep s hF hp,s _ _ hn u.nd,u.ne,u.all,u.keys,u.clo⟩
theorem J5.Qm(h:J5 H K T Ts Fs d nu at_ B O){a:Addr}{l:List (V×V)}(e:O a=some (.dict l)):a≠at_∧a≠nu:=by
 obtain⟨i,_,e1⟩:=h.dr.pos
 obtain⟨ns,_,_,_,e2⟩:=h.dr.nums
 exact⟨(by rintro rfl; rw[e] at e1; cases e1),(by rintro rfl; rw[e] at e2; cases e2)⟩
theorem J5.kind(h:J5 H K T Ts Fs d nu at_ B O) (u:J4 K T f na O) (hn:¬SF H Ts na){T':List Tm}{f':Bd}{m:Nat}(g:Gr T T' m) (u':J4 K T' f' na b7) (s:b8 (CF K na) O b7):J5 H K T' Ts Fs d nu at_ B b7:=by
 have hna:=h.Qm u.nd
 refine h.move g u'.kt s ?_ ?_ ?_ ?_
 ·rintro b (hb | rfl)
  ·exact h.k.plain b hb
  ·exact .inr ⟨_,u.nd⟩
 ·rintro b (hb | rfl)
  ·exact λhs=>h.s.apart b hs hb
  ·exact hn
 ·rintro(hb | e)
  ·exact h.sa.1 hb
  ·exact hna.1 e.symm
 ·rintro(hb | e)
  ·exact h.su.1 hb
  ·exact hna.2 e.symm
def Xp(Fs:List P4) (v8:List Nat):List (Option (Tm×Nat)):=v8.map λi=>(Fs[i - 1]?).map λf=>(f.kind,f.flags)
def Tc(Ts:List G2) (Fs:List P4) (j:Nat) (l:List (Tm×Nat)):Prop:=∃t,Ts[j]?=some t∧Xp Fs t.v8=l.map some
def TL(l:List (Tm×Nat)):List Tm:=(l.filter λp=>p.2 == 0 || p.2 == 2).map (·.1)
theorem Vh{Fs:List P4}{g:P4}{v8:List Nat}(h:∀i∈v8,∃j,i=j+1∧j < Fs.length):Xp (Fs++[g]) v8=Xp Fs v8:=by
 unfold Xp
 refine List.map_congr_left λi hi=>?_
 obtain⟨j,rfl,hj⟩:=h i hi
 rw[show j+1 - 1=j by omega,List.getElem?_append_left hj]
theorem cJ(N:j7 c) (h:J5 H K T Ts Fs d nu at_ B O) (u:J4 K T f na O) (hn:¬SF H Ts na){j:Nat}{l:List (Tm×Nat)}(hj:Tc Ts Fs j l){name access:V}{t:Tm}(ht:t∈T) (hw:t.weight≤20){flags:Nat}(hfl:flags∈[0,1,2,5]) (hlz:l.length < 1000) (lJ:Fs.length < 1000){n:Nat}(hn4:4≤n)
  (q:∀v Mo Fs' b7,J5 H K T Mo Fs' d nu at_ B b7→J4 K T f na b7→¬SF H Mo na→Fs'.length=Fs.length+1→Tc Mo Fs' j (l++[(t,flags)])→(∀i l,i≠j→Tc Ts Fs i l→Tc Mo Fs' i l)→(Mo.map λt=>(t.sort,t.np))=(Ts.map λt=>(t.sort,t.np)) →
   (∀b o,¬SF H Ts b→O b=some o→b7 b=some o)→(∀b,SF H Mo b↔SF H Ts b)→Q v b7) :
  l8 c n (.fix (.ref 356)) [.ref H.st,vi (64+j),name,vi (T.idxOf t),access,vi flags] O Q E:=by
 obtain⟨ti,hti,hfo⟩:=hj
 have a0z:ti.v8.length=l.length:=by have:=congrArg List.length hfo; simpa[Xp] using this
 have Qg:=List.mem_of_getElem? hti
 have hjlt:j < Ts.length:=(List.getElem?_eq_some_iff.mp hti).1
 refine Tb N h.k h.s hti ht hw hfl (by omega) lJ hn4 λv x dx b7 k' s' same=>?_
 have Yj:∀b,SF H (Ts.set j {ti with v8:=ti.v8++[Fs.length+1]}) b↔SF H Ts b:=by
  intro b
  unfold SF
  refine or_congr_right (or_congr_right (or_congr_right ?_))
  constructor
  ·rintro⟨t,ht,hb⟩
   rcases List.mem_or_eq_of_mem_set ht with ht | rfl
   ·exact⟨t,ht,hb⟩
   ·exact⟨ti,Qg,hb⟩
  ·rintro⟨t,ht,hb⟩
   obtain⟨i,hi⟩:=List.mem_iff_getElem?.mp ht
   by_cases e:j=i
   ·subst e
    rw[hti] at hi; cases hi
    exact⟨{ti with v8:=ti.v8++[Fs.length+1]},List.mem_iff_getElem?.mpr ⟨j,List.getElem?_set_self hjlt⟩,hb⟩
   ·exact⟨t,List.mem_iff_getElem?.mpr ⟨i,by rw[List.getElem?_set_ne e]; exact hi⟩,hb⟩
 have qS:∀b,(b=H.fl∨b=ti.fa)→SF H Ts b:=by
  rintro b (rfl | rfl)
  ·exact .inr (.inl rfl)
  ·exact .inr (.inr (.inr ⟨ti,Qg,.inl rfl⟩))
 have hp:Plain (λb=>b=H.fl∨b=ti.fa) O:=by
  rintro b (rfl | rfl)
  ·exact .inl ⟨_,h.s.fields⟩
  ·exact .inl ⟨_,(h.s.tys j ti hti).2.2.2⟩
 refine q v _ _ b7 ⟨k',s',h.y.same same hp,h.dr.same same (λe=>h.su.2 (qS _ e)) (λe=>h.sa.2 (qS _ e)),⟨h.sa.1,by rw[Yj]; exact h.sa.2⟩,⟨h.su.1,by rw[Yj]; exact h.su.2⟩⟩ (u.keep same hp (λb hb=>h.s.apart b (qS b hb)) (λe=>hn (qS _ e))) (by rw[Yj]; exact hn) (by simp) ⟨_,List.getElem?_set_self hjlt,?_⟩ ?_ (map_set hti rfl) (λb o hb e=>same b o (λhF=>hb (qS b hF)) e) Yj
 ·show Xp _ (ti.v8++[Fs.length+1])=_
  unfold Xp at hfo ⊢
  rw[List.map_append,List.map_append]
  have:=Vh (g:=⟨x,dx,flags,t⟩) (h.s.W4 ti Qg)
  unfold Xp at this
  rw[this,hfo]
  simp
 ·rintro i l' hij ⟨u,hu,hf⟩
  refine⟨u,by rw[List.getElem?_set_ne (λe=>hij e.symm)]; exact hu,?_⟩
  rw[Vh (h.s.W4 u (List.mem_of_getElem? hu))]; exact hf
end
def Ac:List Nat:=[83,82,81,78,71]
theorem gD:Str.ofString "SRQNG"=⟨Ac.toArray⟩:=by decide +kernel
def Du(j:Nat):List Hd:=if j=0 then Nh else lL
def Iq(j:Nat):Nat:=if j=0 then 2 else 1
def lO(j:Nat) (l:List (Tm×Nat)):Prop:=∀p∈l,fld (Du j) (Iq j) p.1=true∧p.2∈[0,1,2,5]
def W6(la:Nat→Addr):List (V×V):=[(one 83,.ref (la 0)),(one 82,.ref (la 1)),(one 81,.ref (la 2)),(one 78,.ref (la 3)),(one 71,.ref (la 4))]
theorem Mp{hs:List Hd}(hh:hs=Nh∨hs=lL):∀{k:Nat}{t:Tm},fld hs k t=true→t.o5=true∧t.ok=true∧t.stands=true∧t.nest≤k+1∧t.weight=t.nest
 | k,.leaf h,e=>by
  have he:x7.contains h=true:=by cases k<;>exact e
  rw[List.contains_iff_mem] at he
  have key:∀h∈x7,(Tm.leaf h).o5=true∧(Tm.leaf h).ok=true∧(Tm.leaf h).stands=true:=by decide
  obtain⟨a,b,c⟩:=key h he
  exact⟨a,b,c,by simp[Tm.nest],rfl⟩
 | 0,.un h a,e=>by simp[fld] at e
 | 0,.bin h a b,e=>by simp[fld] at e
 | k+1,.un h a,e=>by
  simp only[fld,Bool.and_eq_true] at e
  obtain⟨a1,a2,a3,a4,a5⟩:=Mp hh e.2
  have he:=e.1
  rw[List.contains_iff_mem] at he
  have key:∀h∈Nh,eF.contains h=true∧h.fit 1=true∧h≠.byref∧h≠.P2∧(∀n,h≠.prim n):=by
   intro h hh
   simp only[Nh,List.mem_cons,List.not_mem_nil,or_false] at hh
   rcases hh with rfl | rfl | rfl | rfl | rfl | rfl | rfl<;>exact⟨by decide,by decide,by decide,by decide,by intro n; simp⟩
  have hS:h∈Nh:=by
   rcases hh with rfl | rfl
   ·exact he
   ·have:∀h∈lL,h∈Nh:=by decide
    exact this h he
  obtain⟨b1,b2,b3,b4,b5⟩:=key h hS
  refine⟨by simp only[Tm.o5,b1,a1,Bool.and_self],by simp only[Tm.ok,b2,a2,a3,Bool.and_self],?_,by simp only[Tm.nest]; omega,by simp only[Tm.weight,Tm.nest,a5]⟩
  cases h with
  | prim n=>exact absurd rfl (b5 n)
  | byref=>exact absurd rfl b3
  | P2=>exact absurd rfl b4
  | _=>rfl
 | k+1,.bin h a b,e=>by simp[fld] at e
section
variable {c:Cx}{n:Nat}{O:a7}{K:I8}{T:List Tm}{Q:V→a7→Prop}{E:a7→Prop}{H:Hg}{Ts:List G2}{Fs:List P4}{d nu at_ na:Addr}{B:Nat}{f:Bd}
def Out(K:I8) (H:Hg) (Ts:List G2) (na at_ b:Addr):Prop:=¬K.F b∧b≠na∧b≠at_∧¬SF H Ts b
theorem J5.out(h:J5 H K T Ts Fs d nu at_ B O) (u:J4 K T f na O){b:Addr}(hb:O b=none):Out K H Ts na at_ b:=by
 refine⟨λhF=>?_,?_,?_,?_⟩
 ·rcases h.k.plain b hF with⟨l,e⟩ | ⟨l,e⟩<;>rw[hb] at e<;>cases e
 ·rintro rfl; have e:=u.nd; unfold D7 at e; rw[hb] at e; cases e
 ·rintro rfl; obtain⟨i,_,e⟩:=h.dr.pos; rw[hb] at e; cases e
 ·rintro(rfl | rfl | rfl | ⟨t,ht,rfl | rfl⟩)
  ·rw[h.s.types] at hb; cases hb
  ·rw[h.s.fields] at hb; cases hb
  ·obtain⟨l,e,_⟩:=h.s.Xd; rw[hb] at e; cases e
  ·obtain⟨i,hi⟩:=List.mem_iff_getElem?.mp ht
   rw[(h.s.tys i t hi).2.2.2] at hb; cases hb
  ·obtain⟨i,hi⟩:=List.mem_iff_getElem?.mp ht
   obtain⟨_,_,⟨pl,e,_⟩,_⟩:=h.s.tys i t hi
   rw[hb] at e; cases e
structure Vi(H:Hg) (K:I8) (d nu at_ na:Addr) (T0:List Tm) (sn:List (Nat×Nat)) (fa:Addr) (j:Nat) (D:Nat→List (Tm×Nat)) (la:Nat→Addr) (B g fz:Nat) (O:a7):Prop where
 ex:∃T f Ts Fs,J5 H K T Ts Fs d nu at_ B O∧J4 K T f na O∧¬SF H Ts na∧Gr T0 T g∧Fs.length≤fz∧(∀i l,i < j→l=D i→Tc Ts Fs i l)∧(∀i,j≤i→i < 7→Tc Ts Fs i [])∧(Ts.map λt=>(t.sort,t.np))=sn∧Out K H Ts na at_ fa∧(∀i,i < j→Out K H Ts na at_ (la i))
 fd:O fa=some (.dict ((W6 la).take j))
 ls:∀i,i < j→O (la i)=some (.list ((TL (D i)).map Tm.v))
 ok:∀i,i < j→lO i (D i)∧(D i).length≤2
 ne:∀i i',i < j→i' < j→i≠i'→la i≠la i'
end
section
variable {c:Cx}{n:Nat}{O:a7}{K:I8}{Q:V→a7→Prop}{E:a7→Prop}{H:Hg}{d nu at_ na:Addr}{B:Nat}
theorem Xq{la:Nat→Addr}{j:Nat}(hj:j < 5):(W6 la)[j]?=some (one Ac[j],.ref (la j)):=by
 rcases j with _|_|_|_|_|j<;>first | rfl | omega
theorem Xr{la:Nat→Addr}{j i:Nat}(hj:j < 5) (hi:i≤j):x6 ((W6 la).take i) (one Ac[j])=none:=by
 rcases j with _|_|_|_|_|j<;>rcases i with _|_|_|_|_|i<;>first | omega | (simp[W6,x6,one_inj,Ac])
theorem Qn{la:Nat→Addr}{j:Nat}(hj:j < 5):x6 ((W6 la).take (j+1)) (one Ac[j])=some (.ref (la j)):=by
 rcases j with _|_|_|_|_|j<;>first | omega | (simp[W6,x6,one_inj,Ac])
theorem Gc{la:Nat→Addr}{k i:Nat}:S5 (one k) ((W6 la).take i):=by
 refine .inr (.inl ⟨_,rfl,λp hp=>?_⟩)
 have:=List.mem_of_mem_take hp
 simp only[W6,List.mem_cons,List.not_mem_nil,or_false] at this
 rcases this with rfl | rfl | rfl | rfl | rfl<;>exact⟨_,rfl⟩
theorem Mq{l:List (Tm×Nat)}{t:Tm}{fl:Nat}:TL (l++[(t,fl)])=TL l++(if fl=0∨fl=2 then [t] else []):=by
 unfold TL
 rw[List.filter_append,List.map_append]
 congr 1
 by_cases h:fl=0∨fl=2
 ·rcases h with rfl | rfl<;>simp
 ·rw[if_neg h]
  simp[h]
def cK:List Nat:=[0,0,2,0,1,5]
theorem qT{j:Nat}(hj:j < 5):decide (Ac[j]=71)=decide (j=4):=by
 rcases j with _|_|_|_|_|j<;>first | rfl | omega
theorem Vj{j:Nat}(hj:j < 5):decide (Ac[j]=83)=decide (j=0):=by
 rcases j with _|_|_|_|_|j<;>first | rfl | omega
theorem cL{j:Nat}(hj:j < 5):Ac[j] < 128:=by
 have key:∀x∈Ac,x < 128:=by decide
 exact key _ (List.getElem_mem hj)
theorem cM(N:j7 c){sn:List (Nat×Nat)}{T0:List Tm}{fa:Addr}{j:Nat}(hj:j < 5){D:Nat→List (Tm×Nat)}{la:Nat→Addr}{g fz:Nat}(h:Vi H K d nu at_ na T0 sn fa (j+1) D la B g fz O) (hB:B+10≤1000000) (hg:T0.length+g+10 < 100000) (hfz:fz < 900) (hl1:(D j).length≤1)
  {n:Nat}(hn:30≤n){Z:Loc}(r0:Z 0=some (.ref H.st)) (r1:Z 1=some (.ref na)) (r2:Z 2=some (.ref nu)) (r3:Z 3=some (.ref at_)) (r4:Z 4=some (.ref fa)) (r5:Z 5=some (vi j)) (r6:Z 6=some (one Ac[j])){Q:Fl→Loc→a7→Prop}
  (q:∀i7 b7 t fl,(∀i,i≠9→i≠10→i7 i=Z i)→Vi H K d nu at_ na T0 sn fa (j+1) (λi=>if i=j then D j++[(t,fl)] else D i) la (B+5) (g+5) (fz+1) b7→Q .next i7 b7) :
  o9 c n [(.set 9 (.call (.con (.fix (.ref 605))) [(.loc 2),(.loc 3),(.ite (.cmp .Eq (.loc 6) (.con (.str (Str.ofString "S")))) (.con (.int 2)) (.con (.int 1))),(.ite (.cmp .Eq (.loc 6) (.con (.str (Str.ofString "S")))) (.con (.str (Str.ofString "SRQNGCa"))) (.con (.str (Str.ofString "SRQNCa"))))])),(.set 10 (.sub (.tup [(.con (.int 0)),(.con (.int 0)),(.con (.int 2)),(.con (.int 0)),(.con (.int 1)),(.con (.int 5))]) (.call (.con (.fix (.ref 543))) [(.loc 2),(.loc 3),(.con (.int 6))]))),(.exp (.call (.con (.fix (.ref 356))) [(.loc 0),(.bin .Add (.con (.int 64)) (.loc 5)),(.con (.str (Str.ofString "f"))),(.call (.con (.fix (.ref 548))) [(.attr (.loc 0) (Str.ofString "kt")),(.loc 1),(.loc 9)]),(.con (.int 6)),(.loc 10)])),(.ite (.cmp .In (.loc 10) (.tup [(.con (.int 0)),(.con (.int 2))])) [(.exp (.meth (.sub (.loc 4) (.loc 6)) (Str.ofString "append") [(.loc 9)]))] [])] Z O Q E:=by
 obtain⟨T,f,Ts,Fs,L,u,hsn,g0,lJ,hty,Xs,cN,Td,cO⟩:=h.ex
 have hcd:=cL hj
 refine i6 ?_
 have term:∀(R:V→a7→Prop),(∀t,fld (Du j) (Iq j) t=true→∀b7,K2 nu at_ (B+3) b7→b8 (·=at_) O b7→R t.v b7)→WX c n (.call (.con (.fix (.ref 605))) [(.loc 2),(.loc 3),(.ite (.cmp .Eq (.loc 6) (.con (.str (Str.ofString "S")))) (.con (.int 2)) (.con (.int 1))),(.ite (.cmp .Eq (.loc 6) (.con (.str (Str.ofString "S")))) (.con (.str (Str.ofString "SRQNGCa"))) (.con (.str (Str.ofString "SRQNCa"))))]) Z O R E:=by
  intro R q
  simp only[WX,j0,r2,r3,oI,eL]
  refine U0 fU hcd (by omega) r6 ?_
  rw[Vj hj]
  refine⟨λe=>?_,λe=>?_⟩
  ·have hj0:j=0:=by simpa using e
   refine U0 fU hcd (by omega) r6 ?_
   rw[Vj hj]
   refine⟨λ_=>?_,λe2=>(by rw[e] at e2; cases e2)⟩
   rw[qO]
   refine Vg N (by decide) 2 L.dr (by omega) (by omega) λt ht b7 d' s'=>q t ?_ b7 (d'.mono (by omega)) s'
   rw[hj0]; exact ht
  ·have hj0:j≠0:=by simpa using e
   refine U0 fU hcd (by omega) r6 ?_
   rw[Vj hj]
   refine⟨λe2=>(by rw[e] at e2; cases e2),λ_=>?_⟩
   rw[qP]
   refine Vg N (by decide) 1 L.dr (by omega) (by omega) λt ht b7 d' s'=>q t ?_ b7 (d'.mono (by omega)) s'
   unfold Du Iq; rw[if_neg hj0,if_neg hj0]; exact ht
 refine term _ λt ht t9 d1 s1=>?_
 have L1:=L.draw d1 s1
 have wW:Plain (·=at_) O:=λb hb=>by subst hb; obtain⟨i,_,e⟩:=L.dr.pos; exact .inl ⟨_,e⟩
 have u1:J4 K T f na t9:=u.keep s1 wW (λb hb=>by subst hb; exact L.sa.1) (L.Qm u.nd).1
 have tok:=Mp (by unfold Du; split; exact .inl rfl; exact .inr rfl) ht
 have hdp:Iq j≤2:=by unfold Iq; split<;>omega
 refine i6 ?_
 simp only[WX,j0,b6,r2,r3,oI,eL,show((2:Nat)=9)=False by simp,show((3:Nat)=9)=False by simp,if_false]
 refine O2 N d1 (by omega) (k:=6) (by omega) (by omega) λrr hrr t8 d2 s2=>?_
 have L2:=L1.draw d2 s2
 have wX:Plain (·=at_) t9:=λb hb=>by subst hb; obtain⟨i,_,e⟩:=L1.dr.pos; exact .inl ⟨_,e⟩
 have u2:J4 K T f na t8:=u1.keep s2 wX (λb hb=>by subst hb; exact L.sa.1) (L.Qm u.nd).1
 have hfl:∀i (hi:i < 6),cK[i]∈([0,1,2,5]:List Nat):=by
  intro i hi
  have key:∀x∈cK,x∈([0,1,2,5]:List Nat):=by decide
  exact key _ (List.getElem_mem hi)
 obtain⟨fl,hfe⟩:∃fl,fl=cK[rr]:=⟨_,rfl⟩
 have qU:fl∈([0,1,2,5]:List Nat):=by rw[hfe]; exact hfl rr hrr
 rw[show vi rr=V.int (rr:Int) from rfl,v7 (v:=vi fl) (by omega) (by rw[hfe]; rcases rr with _|_|_|_|_|_|i<;>first | rfl | omega)]
 refine z6 ?_
 have ew:t.weight≤3:=by have:=tok.2.2.2.1; have:=tok.2.2.2.2; omega
 simp only[WX,j0,b6,r0,r1,r5,oI,eL,if_true,show((0:Nat)=10)=False by simp,show((0:Nat)=9)=False by simp,show((1:Nat)=10)=False by simp,show((1:Nat)=9)=False by simp,show((5:Nat)=10)=False by simp,show((5:Nat)=9)=False by simp,show((9:Nat)=10)=False by simp,if_false,vi]
 rw[Y0,show V.int (64+(j:Int))=vi (64+j) by simp[vi]]
 refine L2.s.Fu N ?_
 have hg2:=g0.2
 refine R4 N 3 (by omega) tok.1 tok.2.1 ⟨by have:=Bg t; omega,by omega⟩ u2 (by omega) (by omega) λT3 f3 A4 g3 u3 s3 iU _ _=>?_
 have L3:=L2.kind u2 hsn g3 u3 s3
 refine cJ N L3 u3 hsn (hty j _ (by omega) rfl) iU (by omega) qU (by omega) (by omega) (by omega) λv jA jB x9 L4 u4 lP wY bK cP lQ cQ Yj=>?_
 have tr:∀b o,Out K H Ts na at_ b→O b=some o→x9 b=some o:=by
  intro b o ⟨o1,o2,o3,o4⟩ e
  have e2:=s2 b o o3 (s1 b o o3 e)
  have e3:=s3 b o (by rintro(h | h); exact o1 h; exact o2 h) e2
  exact cQ b o o4 e3
 have gr:Gr T0 T3 (g+5):=(g0.trans g3).mono (by omega)
 have dOk:lO j (D j++[(t,fl)]):=by
  intro p hp
  rcases List.mem_append.mp hp with hp | hp
  ·exact(h.ok j (by omega)).1 p hp
  ·simp at hp; subst hp; exact⟨ht,qU⟩
 have mkF:∀C7:a7,J5 H K T3 jA jB d nu at_ (B+5) C7→J4 K T3 f3 na C7→C7 fa=some (.dict ((W6 la).take (j+1)))→(∀i,i < j+1→i≠j→C7 (la i)=some (.list ((TL (D i)).map Tm.v)))→C7 (la j)=some (.list ((TL (D j++[(t,fl)])).map Tm.v))→Vi H K d nu at_ na T0 sn fa (j+1) (λi=>if i=j then D j++[(t,fl)] else D i) la (B+5) (g+5) (fz+1) C7:=by
  intro C7 L5 u5 ef el ej
  refine⟨⟨T3,f3,jA,jB,L5,u5,lP,gr,by omega,?_,?_,by rw[lQ]; exact cN,?_,?_⟩,ef,?_,?_,h.ne⟩
  ·intro i l hi cR
   by_cases e:i=j
   ·subst e; rw[cR]; simpa using bK
   ·rw[if_neg e] at cR
    rw[cR]; exact cP i _ e (hty i _ hi rfl)
  ·intro i hi1 hi2
   exact cP i _ (by omega) (Xs i hi1 hi2)
  ·exact⟨Td.1,Td.2.1,Td.2.2.1,by rw[Yj]; exact Td.2.2.2⟩
  ·intro i hi
   have:=cO i hi
   exact⟨this.1,this.2.1,this.2.2.1,by rw[Yj]; exact this.2.2.2⟩
  ·intro i hi
   by_cases e:i=j
   ·subst e; simpa using ej
   ·simp only[if_neg e]; exact el i hi e
  ·intro i hi
   by_cases e:i=j
   ·subst e; simp only[if_true]; exact⟨dOk,by simp; omega⟩
   ·simp only[if_neg e]; exact h.ok i hi
 have LB:J5 H K T3 jA jB d nu at_ (B+5) x9:=⟨L4.k,L4.s,L4.y,L4.dr.mono (by omega),L4.sa,L4.su⟩
 have Te:=tr fa _ Td h.fd
 have els:∀i,i < j+1→x9 (la i)=some (.list ((TL (D i)).map Tm.v)):=λi hi=>tr _ _ (cO i hi) (h.ls i hi)
 have F8:∀i,i≠9→i≠10→b6 (b6 Z 9 t.v) 10 (vi fl) i=Z i:=λi h1 h2=>by simp[b6,h1,h2]
 have p4:b6 (b6 Z 9 t.v) 10 (vi fl) 4=some (.ref fa):=by rw[F8 4 (by omega) (by omega)]; exact r4
 have p6:b6 (b6 Z 9 t.v) 10 (vi fl) 6=some (one Ac[j]):=by rw[F8 6 (by omega) (by omega)]; exact r6
 have p9:b6 (b6 Z 9 t.v) 10 (vi fl) 9=some t.v:=by simp[b6]
 have mQ:b6 (b6 Z 9 t.v) 10 (vi fl) 10=some (vi fl):=by simp[b6]
 change o9 c n _ (b6 (b6 Z 9 t.v) 10 (vi fl)) x9 Q E
 generalize b6 (b6 Z 9 t.v) 10 (vi fl)=Qj at F8 p4 p6 p9 mQ
 refine l0 (decide (fl=0∨fl=2)) (λR E q=>?_) (λe=>?_) (λe=>?_)
 ·simp only[WC,WX,j0,mQ,oI,eL,vi,G6,IN]
  refine⟨by simp[V.hk],by simp[V.hk],?_⟩
  have:∀inst:Decidable (V.int (fl:Int)∈[V.int 0,V.int 2]),@decide _ inst=decide (fl=0∨fl=2):=by
   intro inst
   rw[decide_eq_decide]
   simp only[List.mem_cons,V.int.injEq,List.not_mem_nil,or_false]
   omega
  exact(congrArg (λb=>R b x9) (this _)).mpr q
 ·have cT:fl=0∨fl=2:=by simpa using e
  refine z6 ?_
  simp only[WX,j0,p4,p6,p9,oI,eL]
  have hsub:S4 (.ref fa) (one Ac[j]) x9=λR=>R (.ref (la j)) x9:=by
   funext R
   simp only[S4,Te,Qn hj,oI,eL,eq_iff_iff,and_iff_right_iff_imp]
   exact λ_=>Gc
  rw[hsub]
  have gE:=els j (by omega)
  refine⟨_,.inl ⟨_,_,rfl,gE,.inl ⟨rfl,rfl⟩⟩,?_⟩
  have hlz:(TL (D j)).length≤1:=by
   unfold TL
   rw[List.length_map]
   exact Nat.le_trans (List.length_filter_le ..) hl1
  refine v3 gE (by rw[List.length_map]; omega) ?_
  have m5:∀b,b≠la j→i8 x9 (la j) (.list ((TL (D j)).map Tm.v++[t.v])) b=x9 b:=λb hb=>i9 hb
  have e5:i8 x9 (la j) (.list ((TL (D j)).map Tm.v++[t.v])) (la j)=some (.list ((TL (D j)).map Tm.v++[t.v])):=b9 _ _ _
  generalize i8 x9 (la j) (.list ((TL (D j)).map Tm.v++[t.v]))=C7 at m5 e5
  have s5:b8 (·=la j) x9 C7:=b8.of m5 rfl
  have lR:Plain (·=la j) x9:=λb hb=>by subst hb; exact .inl ⟨_,gE⟩
  obtain⟨o1,o2,o3,o4⟩:=cO j (by omega)
  have nnu:la j≠nu∨la j=nu:=by
   by_cases e:la j=nu
   ·exact .inr e
   ·exact .inl e
  have L5:J5 H K T3 jA jB d nu at_ (B+5) C7:=by
   rcases nnu with e | e
   ·exact LB.move (.refl _ 0) (LB.k.keep s5 (λb hb=>by subst hb; exact o1) lR) s5 lR (λb hb=>by subst hb; rw[Yj]; exact o4) (λh=>o3 h.symm) (λh=>e h.symm)
   ·exfalso
    have e1:=h.ls j (by omega)
    obtain⟨ns,b1,b2,b3,b4⟩:=L.dr.nums
    rw[e,b4] at e1
    cases hns:ns with
    | nil=>exact b1 hns
    | cons x xs =>
     rw[hns] at e1
     simp only[oI,z5.list.injEq,List.map_cons] at e1
     cases bR:TL (D j) with
     | nil=>rw[bR] at e1; cases e1
     | cons y ys =>
      rw[bR] at e1
      simp only[List.map_cons,List.cons.injEq] at e1
      have:=e1.1
      rw[C6 y] at this
      cases this
  refine o7 (q Qj C7 t fl F8 (mkF C7 L5 (u4.keep s5 lR (λb hb=>by subst hb; exact o1) (λe=>o2 e.symm)) ?_ ?_ ?_))
  ·rw[m5 _ (λe=>by rw[e,gE] at Te; cases Te)]; exact Te
  ·intro i hi hij
   rw[m5 _ (h.ne i j hi (by omega) hij)]; exact els i hi
  ·rw[e5,Mq,if_pos cT]; simp
 ·have cT:¬(fl=0∨fl=2):=by simpa using e
  refine o7 (q Qj x9 t fl F8 (mkF x9 LB u4 Te (λi hi _=>els i hi) ?_))
  rw[els j (by omega),Mq,if_neg cT]; simp
end
section
variable {c:Cx}{n:Nat}{O:a7}{K:I8}{Q:V→a7→Prop}{E:a7→Prop}{H:Hg}{d nu at_ na:Addr}{B:Nat}
theorem Vi.mono{T0:List Tm}{sn:List (Nat×Nat)}{fa:Addr}{j:Nat}{D:Nat→List (Tm×Nat)}{la:Nat→Addr}{g fz:Nat}(h:Vi H K d nu at_ na T0 sn fa j D la B g fz O){B' g' fz':Nat}(h1:B≤B') (h2:g≤g') (h3:fz≤fz'):Vi H K d nu at_ na T0 sn fa j D la B' g' fz' O:=by
 obtain⟨T,f,Ts,Fs,L,u,a,b,c,r⟩:=h.ex
 exact⟨⟨T,f,Ts,Fs,⟨L.k,L.s,L.y,L.dr.mono h1,L.sa,L.su⟩,u,a,b.mono h2,by omega,r⟩,h.fd,h.ls,h.ok,h.ne⟩
theorem gF(N:j7 c){sn:List (Nat×Nat)}{T0:List Tm}{fa:Addr}{j:Nat}(hj:j < 5){D:Nat→List (Tm×Nat)}{la:Nat→Addr}{g fz:Nat}(h:Vi H K d nu at_ na T0 sn fa j D la B g fz O){n:Nat}{Z:Loc}(r4:Z 4=some (.ref fa)) (r6:Z 6=some (one Ac[j])){xs:List S}{Q:Fl→Loc→a7→Prop}
  (q:∀D' la' b7,(∀i,i < j→D' i=D i)→D' j=[]→Vi H K d nu at_ na T0 sn fa (j+1) D' la' B g fz b7→o9 c n xs Z b7 Q E):o9 c n (.I0 (.loc 4) (.loc 6) (.lst [])::xs) Z O Q E:=by
 obtain⟨T,f,Ts,Fs,L,u,hsn,g0,lJ,hty,Xs,cN,Td,cO⟩:=h.ex
 refine H4 (B1 λr hr=>?_)
 simp only[WX,r4,r6,oI,eL]
 have s1:b8 (λ_=>False) O (i8 O r (.list [])):=b8.new hr
 have er:i8 O r (.list []) r=some (.list []):=b9 _ _ _
 have or:Out K H Ts na at_ r:=L.out u hr
 have rn:∀{b:Addr}{o:z5},O b=some o→b≠r:=fun {b o} e=>fresh_ne hr e
 generalize i8 O r (.list [])=t9 at s1 er
 have Te:=s1 _ _ id h.fd
 simp only[Di,Te]
 refine⟨Gc,by simp; omega,?_⟩
 rw[K4 (Xr hj (Nat.le_refl _))]
 have m2:∀b,b≠fa→i8 t9 fa (.dict ((W6 la).take j++[(one Ac[j],.ref r)])) b=t9 b:=λb hb=>i9 hb
 have e2:i8 t9 fa (.dict ((W6 la).take j++[(one Ac[j],.ref r)])) fa=some (.dict ((W6 la).take j++[(one Ac[j],.ref r)])):=b9 _ _ _
 generalize i8 t9 fa (.dict ((W6 la).take j++[(one Ac[j],.ref r)]))=t8 at m2 e2
 have s2:b8 (·=fa) t9 t8:=b8.of m2 rfl
 have p2:Plain (·=fa) t9:=λb hb=>by subst hb; exact .inr ⟨_,Te⟩
 have L1:=L.new s1
 have u1:=u.same s1
 have hnu:=L1.Qm Te
 obtain⟨o1,o2,o3,o4⟩:=Td
 have L2:J5 H K T Ts Fs d nu at_ B t8:=L1.move (.refl _ 0) (L1.k.keep s2 (λb hb=>by subst hb; exact o1) p2) s2 p2 (λb hb=>by subst hb; exact o4) (λe=>o3 e.symm) (λe=>hnu.2 e.symm)
 have u2:=u1.keep s2 p2 (λb hb=>by subst hb; exact o1) (λe=>o2 e.symm)
 refine q (λi=>if i=j then [] else D i) (λi=>if i=j then r else la i) t8 (λi hi=>by simp[show i≠j by omega]) (by simp) ⟨⟨T,f,Ts,Fs,L2,u2,hsn,g0,lJ,?_,?_,cN,⟨o1,o2,o3,o4⟩,?_⟩,?_,?_,?_,?_⟩
 ·intro i l hi el
  by_cases e:i=j
  ·subst e; simp at el; rw[el]; exact Xs i (Nat.le_refl _) (by omega)
  ·rw[if_neg e] at el; exact hty i l (by omega) el
 ·intro i h1 h2; exact Xs i (by omega) h2
 ·intro i hi
  by_cases e:i=j
  ·simp only[e,if_true]; exact or
  ·simp only[if_neg e]; exact cO i (by omega)
 ·rw[e2]
  congr 2
  have e3:(W6 λi=>if i=j then r else la i)[j]?=some (one Ac[j],.ref r):=by rw[Xq hj]; simp
  have hl:j < (W6 λi=>if i=j then r else la i).length:=hj
  have e4:(W6 λi=>if i=j then r else la i)[j]=(one Ac[j],.ref r):=by
   rw[List.getElem?_eq_getElem hl] at e3; exact Option.some.inj e3
  rw[List.take_succ_eq_append_getElem hl,e4]
  congr 1
  rcases j with _|_|_|_|_|j<;>first | omega | rfl
 ·intro i hi
  by_cases e:i=j
  ·subst e
   simp only[if_true]
   rw[m2 _ (λq=>by rw[q,Te] at er; cases er),er]; rfl
  ·simp only[if_neg e]
   have el:=h.ls i (by omega)
   rw[m2 _ (λq=>by rw[q,h.fd] at el; cases el)]
   exact s1 _ _ id el
 ·intro i hi
  by_cases e:i=j
  ·simp only[e,if_true]; exact⟨by intro p hp; simp at hp,by simp⟩
  ·simp only[if_neg e]; exact h.ok i (by omega)
 ·intro i i' hi hi' hii
  by_cases e:i=j
  ·by_cases e':i'=j
   ·omega
   ·simp only[e,if_true,if_neg e']
    exact(rn (h.ls i' (by omega))).symm
  ·by_cases e':i'=j
   ·simp only[e',if_true,if_neg e]
    exact rn (h.ls i (by omega))
   ·simp only[if_neg e,if_neg e']
    exact h.ne i i' (by omega) (by omega) hii
theorem cU(N:j7 c){j:Nat}(hj:j < 5){n:Nat}(hn:3≤n){Z:Loc}(r2:Z 2=some (.ref nu)) (r3:Z 3=some (.ref at_)) (r6:Z 6=some (one Ac[j])) (dr:K2 nu at_ B O) (hB:B≤1000000)
  (q:∀k b7,k≤2→(j=4→k=1)→K2 nu at_ (B+1) b7→b8 (·=at_) O b7→Q (vi k) b7) :
  WX c n (.ite (.cmp .Eq (.loc 6) (.con (.str (Str.ofString "G")))) (.con (.int 1)) (.ite (.cmp .Eq (.loc 6) (.con (.str (Str.ofString "S")))) (.bin .Add (.con (.int 1)) (.call (.con (.fix (.ref 543))) [(.loc 2),(.loc 3),(.con (.int 2))])) (.call (.con (.fix (.ref 543))) [(.loc 2),(.loc 3),(.con (.int 3))]))) Z O Q E:=by
 have hcd:=cL hj
 simp only[WX]
 refine U0 sS hcd (by omega) r6 ?_
 rw[qT hj]
 refine⟨λe=>?_,λe=>?_⟩
 ·exact q 1 O (by omega) (λ_=>rfl) (dr.mono (by omega)) (.refl _ _)
 have e4:j≠4:=by simpa using e
 refine U0 fU hcd (by omega) r6 ?_
 rw[Vj hj]
 refine⟨λ_=>?_,λ_=>?_⟩
 ·simp only[j0,WX,r2,r3,oI,eL]
  refine O2 N dr hB (k:=2) (by omega) (by omega) λr hr b7 d' s'=>?_
  rw[show vi r=V.int (r:Int) from rfl,Y0,show V.int (1+(r:Int))=vi (1+r) by simp[vi]]
  exact q (1+r) b7 (by omega) (λe=>absurd e e4) d' s'
 ·simp only[j0,WX,r2,r3,oI,eL]
  refine O2 N dr hB (k:=3) (by omega) (by omega) λr hr b7 d' s'=>?_
  exact q r b7 (by omega) (λe=>absurd e e4) d' s'
theorem Vi.draw{T0:List Tm}{sn:List (Nat×Nat)}{fa:Addr}{j:Nat}{D:Nat→List (Tm×Nat)}{la:Nat→Addr}{g fz:Nat}(h:Vi H K d nu at_ na T0 sn fa j D la B g fz O){B':Nat}{b7:a7}(dr:K2 nu at_ B' b7) (s:b8 (·=at_) O b7):Vi H K d nu at_ na T0 sn fa j D la B' g fz b7:=by
 obtain⟨T,f,Ts,Fs,L,u,hsn,g0,lJ,hty,Xs,cN,Td,cO⟩:=h.ex
 have wW:Plain (·=at_) O:=λb hb=>by subst hb; obtain⟨i,_,e⟩:=L.dr.pos; exact .inl ⟨_,e⟩
 refine⟨⟨T,f,Ts,Fs,L.draw dr s,u.keep s wW (λb hb=>by subst hb; exact L.sa.1) (L.Qm u.nd).1,hsn,g0,lJ,hty,Xs,cN,Td,cO⟩,s _ _ Td.2.2.1 h.fd,λi hi=>s _ _ (cO i hi).2.2.1 (h.ls i hi),h.ok,h.ne⟩
def Mr:Tm:=.un .arr (.un .arr (.un .arr (.un .arr (.un .arr (.un .arr tX)))))
def tG:Tm:=.un (.val 68) Mr
def grow:Nat→Tm
 | 0=>tX
 | i+1=>.un .arr (grow i)
def v5(D:Nat→List (Tm×Nat)) (i:Nat):List (Tm×Nat):=if i=4 then D 4++[(tG,0)] else D i
theorem Xt(N:j7 c){T:List Tm}{Ts:List G2}{Fs:List P4}{f:Bd}(L:J5 H K T Ts Fs d nu at_ B O) (u:J4 K T f na O) (hsn:¬SF H Ts na) (hty:∀j,j < 7→Tc Ts Fs j []) (hB:B+200≤1000000) (hT:T.length+200 < 100000) (hF:Fs.length≤100){n:Nat}(hn:40≤n)
  (q:∀(D:Nat→List (Tm×Nat)) (la:Nat→Addr) (fa:Addr) (b7:a7) (T':List Tm) (f':Bd) (Mo:List G2) (Fs':List P4),J5 H K T' Mo Fs' d nu at_ (B+200) b7→J4 K T' f' na b7→¬SF H Mo na→Gr T T' 200→(∀i,i < 5→Tc Mo Fs' i (v5 D i))→(∀i,5≤i→i < 7→Tc Mo Fs' i [])→(Mo.map λt=>(t.sort,t.np))=(Ts.map λt=>(t.sort,t.np)) →
   Ip fa la (λi=>TL (v5 D i)) b7→(∀i,i < 5→lO i (D i)∧(D i).length≤2)→(D 4).length≤1→Out K H Mo na at_ fa→(∀i,i < 5→Out K H Mo na at_ (la i))→Q (.ref fa) b7) :
  l8 c n (.fix (.ref 612)) [.ref H.st,.ref na,.ref nu,.ref at_] O Q E:=by
 obtain⟨n,rfl⟩:∃m,n=m+1:=⟨n - 1,by omega⟩
 refine N.fn N.C.Sg rfl rfl ?_
 refine i6 (H7 λfa hfa=>?_)
 have s0:b8 (λ_=>False) O (i8 O fa (.dict [])):=b8.new hfa
 have e0:i8 O fa (.dict []) fa=some (.dict []):=b9 _ _ _
 have Td:=L.out u hfa
 generalize i8 O fa (.dict [])=H0 at s0 e0
 have F0:Vi H K d nu at_ na T (Ts.map λt=>(t.sort,t.np)) fa 0 (λ_=>[]) (λ_=>0) B 0 Fs.length H0 :=
  ⟨⟨T,f,Ts,Fs,L.new s0,u.same s0,hsn,.refl _ _,Nat.le_refl _,λi l h=>by omega,λi _ h=>hty i h,rfl,Td,λi h=>by omega⟩,e0,λi h=>by omega,λi h=>by omega,λi i' h=>by omega⟩
 refine D0 ?_
 simp only[WX,j0]
 refine K8 ⟨_,w7 5 (by omega),by simp,?_⟩
 refine s9 (λdone left Z b7=>Z 0=some (.ref H.st)∧Z 1=some (.ref na)∧Z 2=some (.ref nu)∧Z 3=some (.ref at_)∧Z 4=some (.ref fa)∧∃j,j≤5∧left=((List.range 5).map vi).drop j∧∃D la,Vi H K d nu at_ na T (Ts.map λt=>(t.sort,t.np)) fa j D la (B+20 * j) (20 * j) (Fs.length+3 * j) b7∧(4 < j→(D 4).length≤1))
  (λ_ _ _=>False) (λ_ _ _ _ _=>w7 5 (by omega)) ?_ _ [] _ _ _ ⟨rfl,rfl,rfl,rfl,rfl,0,by omega,rfl,_,_,F0.mono (by omega) (by omega) (by omega),λh=>by omega⟩ ?_ (λ_ _ _ h=>h.elim)
 ·rintro done x left Z t9 R ⟨r0,r1,r2,r3,r4,j,gG,el,D,la,F1,h4⟩ hnext _ _
  obtain⟨hj,rfl,rfl⟩:=range_drop el
  simp only[J7]
  refine i6 ?_
  simp only[WX,b6,if_true,oI,eL,gD]
  rw[show vi j=V.int (j:Int) from rfl,A7 (u:=Ac[j]) (by rw[List.getElem?_toArray,List.getElem?_eq_getElem (show j < Ac.length from hj)]; rfl) (by omega)]
  have E0:∀i,i < 5→b6 (b6 Z 5 (V.int (j:Int))) 6 (one Ac[j]) i=Z i:=λi hi=>by simp[b6,show i≠6 by omega,show i≠5 by omega]
  have p5:b6 (b6 Z 5 (V.int (j:Int))) 6 (one Ac[j]) 5=some (vi j):=by simp[b6,vi]
  have p6:b6 (b6 Z 5 (V.int (j:Int))) 6 (one Ac[j]) 6=some (one Ac[j]):=by simp[b6]
  change o9 c n _ (b6 (b6 Z 5 (V.int (j:Int))) 6 (one Ac[j])) t9 R E
  generalize b6 (b6 Z 5 (V.int (j:Int))) 6 (one Ac[j])=Qj at E0 p5 p6
  refine gF N hj F1 (by rw[E0 4 (by omega)]; exact r4) p6 λD2 la2 t8 hD2 wZ F2=>?_
  obtain⟨T2,f2,Ts2,Fs2,L2,u2,_⟩:=F2.ex
  refine i6 ?_
  refine cU N hj (by omega) (by rw[E0 2 (by omega)]; exact r2) (by rw[E0 3 (by omega)]; exact r3) p6 L2.dr (by omega) λk A4 hk hk4 d3 s3=>?_
  have F3:=F2.draw d3 s3
  have gH:∀i,i≠7→b6 Qj 7 (vi k) i=Qj i:=λi hi=>by simp[b6,hi]
  have p7:b6 Qj 7 (vi k) 7=some (vi k):=by simp[b6]
  generalize b6 Qj 7 (vi k)=lS at gH p7
  have g5:lS 5=some (vi j):=by rw[gH 5 (by omega)]; exact p5
  have g6:lS 6=some (one Ac[j]):=by rw[gH 6 (by omega)]; exact p6
  have gi:∀i,i < 5→lS i=Z i:=λi hi=>by rw[gH i (by omega),E0 i hi]
  refine D0 ?_
  simp only[WX,j0,p7,oI,eL]
  refine K8 ⟨_,w7 k (by omega),by simp; omega,?_⟩
  refine s9 (λdone left i7 b7=>(∀i,i≠8→i≠9→i≠10→i7 i=lS i)∧∃i,i≤k∧left=((List.range k).map vi).drop i∧∃D',(∀x,x < j→D' x=D2 x)∧(D' j).length=i∧Vi H K d nu at_ na T (Ts.map λt=>(t.sort,t.np)) fa (j+1) D' la2 (B+20 * j+1+5 * i) (20 * j+5 * i) (Fs.length+3 * j+i) b7)
   (λ_ _ _=>False) (λ_ _ _ _ _=>w7 k (by omega)) ?_ _ [] _ _ _ ⟨λ_ _ _ _=>rfl,0,by omega,rfl,D2,λ_ _=>rfl,by rw[wZ]; rfl,F3⟩ ?_ (λ_ _ _ h=>h.elim)
  ·rintro qV x' left' i7 b7 R' ⟨F8,i,hi,cR,D',hD',hDj,F'⟩ Tf _ _
   obtain⟨hik,rfl,rfl⟩:=range_drop cR
   simp only[J7]
   have hs:∀x,x≠8→x≠9→x≠10→b6 i7 8 (vi i) x=lS x:=λx h8 h9 h10=>by simp[b6,h8,F8 x h8 h9 h10]
   refine cM N hj F' (by omega) (by omega) (by omega) (by omega) (by omega) (by rw[hs 0 (by omega) (by omega) (by omega),gi 0 (by omega)]; exact r0) (by rw[hs 1 (by omega) (by omega) (by omega),gi 1 (by omega)]; exact r1) (by rw[hs 2 (by omega) (by omega) (by omega),gi 2 (by omega)]; exact r2) (by rw[hs 3 (by omega) (by omega) (by omega),gi 3 (by omega)]; exact r3) (by rw[hs 4 (by omega) (by omega) (by omega),gi 4 (by omega)]; exact r4) (by rw[hs 5 (by omega) (by omega) (by omega)]; exact g5) (by rw[hs 6 (by omega) (by omega) (by omega)]; exact g6) λa5h T9 t fl qW F''=>?_
   refine Tf _ _ ⟨λx h8 h9 h10=>by rw[qW x h9 h10,hs x h8 h9 h10],i+1,by omega,rfl,_,λx hx=>?_,?_,F''.mono (by omega) (by omega) (by omega)⟩
   ·simp[show x≠j by omega]; exact hD' x hx
   ·simp; omega
  ·rintro i7 b7 ⟨F8,i,hi,cR,D',hD',hDj,F'⟩
   have:i=k:=by
    have:=congrArg List.length cR
    simp at this; omega
   subst this
   refine o7 (hnext _ _ ⟨?_,?_,?_,?_,?_,j+1,by omega,rfl,D',la2,F'.mono (by omega) (by omega) (by omega),λh=>?_⟩)
   ·rw[F8 0 (by omega) (by omega) (by omega),gi 0 (by omega)]; exact r0
   ·rw[F8 1 (by omega) (by omega) (by omega),gi 1 (by omega)]; exact r1
   ·rw[F8 2 (by omega) (by omega) (by omega),gi 2 (by omega)]; exact r2
   ·rw[F8 3 (by omega) (by omega) (by omega),gi 3 (by omega)]; exact r3
   ·rw[F8 4 (by omega) (by omega) (by omega),gi 4 (by omega)]; exact r4
   ·have xA:j=4:=by omega
    subst xA
    rw[hDj,hk4 rfl]; omega
 ·rintro Z t9 ⟨r0,r1,r2,r3,r4,j,gG,el,D,la,F1,h4⟩
  have:j=5:=by
   have:=congrArg List.length el
   simp at this; omega
  subst this
  obtain⟨T1,f1,Rf,Fs1,L1,u1,Th,g1,a5i,qX,qY,qZ,cV,lT⟩:=F1.ex
  refine i6 ?_
  simp only[WX,j0,kW]
  refine D0 ?_
  simp only[WX,j0]
  refine K8 ⟨_,w7 6 (by omega),by simp,?_⟩
  refine s9 (λdone left i7 b7=>b7=t9∧(∀i,i < 5→i7 i=Z i)∧∃i,i≤6∧left=((List.range 6).map vi).drop i∧i7 11=some (grow i).v) (λ_ _ _=>False) (λ_ _ _ _ _=>w7 6 (by omega)) ?_ _ [] _ _ _ ⟨rfl,λi hi=>by simp[b6,show i≠11 by omega],0,by omega,rfl,rfl⟩ ?_ (λ_ _ _ h=>h.elim)
  ·rintro qV x' left' i7 b7 R' ⟨rfl,F8,i,hi,cR,h11⟩ Tf _ _
   obtain⟨hik,rfl,rfl⟩:=range_drop cR
   simp only[J7]
   refine i6 ?_
   simp only[WX,j0,b6,h11,oI,eL,w_a,show((11:Nat)=8)=False by simp,if_false]
   refine o7 (Tf _ _ ⟨rfl,λx hx=>by simp[b6,show x≠11 by omega,show x≠8 by omega,F8 x hx],i+1,by omega,rfl,by simp[b6]; rfl⟩)
  ·rintro i7 b7 ⟨rfl,F8,i,hi,cR,h11⟩
   have:i=6:=by
    have:=congrArg List.length cR
    simp at this; omega
   subst this
   have hv:(grow 6).v=Mr.v:=rfl
   rw[hv] at h11
   have p0:i7 0=some (.ref H.st):=by rw[F8 0 (by omega)]; exact r0
   have p1:i7 1=some (.ref na):=by rw[F8 1 (by omega)]; exact r1
   have p4:i7 4=some (.ref fa):=by rw[F8 4 (by omega)]; exact r4
   refine z6 ?_
   simp only[WX,j0,p0,p1,h11,oI,eL,sS]
   refine L1.s.Fu N ?_
   have rA:V.tup [V.str ⟨#[71]⟩,Mr.v]=tG.v:=rfl
   rw[rA]
   have hg1:=g1.2
   refine R4 N 8 (by decide) (by decide) (by decide) ⟨by decide,by decide⟩ u1 (by have:tG.weight=8:=rfl; omega) (by omega) λT2 f2 t8 g2 u2 s2 hm2 _ _=>?_
   have L2:=L1.kind u1 Th g2 u2 s2
   have tr2:∀b o,Out K H Rf na at_ b→b7 b=some o→t8 b=some o:=λb o ⟨o1,o2,o3,o4⟩ e=>s2 b o (by rintro(h | h); exact o1 h; exact o2 h) e
   have w8:tG.weight=8:=rfl
   have hd4:=h4 (by omega)
   refine cJ N L2 u2 Th (j:=4) (qX 4 _ (by omega) rfl) hm2 (by omega) (flags:=0) (by decide) (by omega) (by omega) (by omega) λv jA jB x9 L4 u4 lP wY bK cP lQ cQ Yj=>?_
   have tr:∀b o,Out K H Rf na at_ b→b7 b=some o→x9 b=some o:=λb o ho e=>cQ b o ho.2.2.2 (tr2 b o ho e)
   have Te:=tr fa _ cV F1.fd
   have els:∀i,i < 5→x9 (la i)=some (.list ((TL (D i)).map Tm.v)):=λi hi=>tr _ _ (lT i hi) (F1.ls i hi)
   refine z6 ?_
   simp only[WX,j0,p4,h11,oI,eL,sS]
   have hsub:S4 (.ref fa) (.str ⟨#[71]⟩) x9=λR=>R (.ref (la 4)) x9:=by
    funext R
    have hg:x6 ((W6 la).take 5) (.str ⟨#[71]⟩)=some (.ref (la 4)):=Qn (j:=4) (by omega)
    simp only[S4,Te,hg,oI,eL,eq_iff_iff,and_iff_right_iff_imp]
    exact λ_=>Gc (k:=71)
   rw[hsub]
   have gE:=els 4 (by omega)
   refine⟨_,.inl ⟨_,_,rfl,gE,.inl ⟨rfl,rfl⟩⟩,?_⟩
   have hlz:(TL (D 4)).length≤1:=by
    unfold TL
    rw[List.length_map]
    exact Nat.le_trans (List.length_filter_le ..) hd4
   rw[rA]
   refine v3 gE (by rw[List.length_map]; omega) ?_
   have m5:∀b,b≠la 4→i8 x9 (la 4) (.list ((TL (D 4)).map Tm.v++[tG.v])) b=x9 b:=λb hb=>i9 hb
   have e5:i8 x9 (la 4) (.list ((TL (D 4)).map Tm.v++[tG.v])) (la 4)=some (.list ((TL (D 4)).map Tm.v++[tG.v])):=b9 _ _ _
   generalize i8 x9 (la 4) (.list ((TL (D 4)).map Tm.v++[tG.v]))=C7 at m5 e5
   have s5:b8 (·=la 4) x9 C7:=b8.of m5 rfl
   have lR:Plain (·=la 4) x9:=λb hb=>by subst hb; exact .inl ⟨_,gE⟩
   obtain⟨o1,o2,o3,o4⟩:=lT 4 (by omega)
   have xB:la 4≠nu:=by
    intro e
    have e1:=F1.ls 4 (by omega)
    obtain⟨ns,b1,b2,b3,b4⟩:=L1.dr.nums
    rw[e,b4] at e1
    cases hns:ns with
    | nil=>exact b1 hns
    | cons x xs =>
     rw[hns] at e1
     simp only[oI,z5.list.injEq,List.map_cons] at e1
     cases bR:TL (D 4) with
     | nil=>rw[bR] at e1; cases e1
     | cons y ys =>
      rw[bR] at e1
      simp only[List.map_cons,List.cons.injEq] at e1
      have:=e1.1
      rw[C6 y] at this
      cases this
   have L5:J5 H K T2 jA jB d nu at_ (B+20 * 5) C7:=L4.move (.refl _ 0) (L4.k.keep s5 (λb hb=>by subst hb; exact o1) lR) s5 lR (λb hb=>by subst hb; rw[Yj]; exact o4) (λh=>o3 h.symm) (λh=>xB h.symm)
   have L5':J5 H K T2 jA jB d nu at_ (B+200) C7:=⟨L5.k,L5.s,L5.y,L5.dr.mono (by omega),L5.sa,L5.su⟩
   refine i5 ?_
   simp only[WX,p4,oI,eL,i4]
   refine q D la fa C7 T2 f2 jA jB L5' (u4.keep s5 lR (λb hb=>by subst hb; exact o1) (λe=>o2 e.symm)) lP ((g1.trans g2).mono (by omega)) ?_ (λi h5 h7=>cP i _ (by omega) (qY i h5 h7)) (by rw[lQ]; exact qZ) ⟨?_,?_⟩ F1.ok hd4 ?_ ?_
   ·intro i hi
    unfold v5
    by_cases e:i=4
    ·subst e; simp only[if_true]; exact bK
    ·rw[if_neg e]; exact cP i _ e (qX i _ hi rfl)
   ·rw[m5 _ (λe=>by rw[e,gE] at Te; cases Te)]; exact Te
   ·intro i hi
    unfold v5
    by_cases e:i=4
    ·subst e; simp only[if_true]
     rw[e5,Mq]; simp
    ·show C7 (la i)=some (.list ((TL (if i=4 then D 4++[(tG,0)] else D i)).map Tm.v))
     rw[if_neg e,m5 _ (F1.ne i 4 hi (by omega) e)]; exact els i hi
   ·exact⟨cV.1,cV.2.1,cV.2.2.1,by rw[Yj]; exact cV.2.2.2⟩
   ·intro i hi
    have:=lT i hi
    exact⟨this.1,this.2.1,this.2.2.1,by rw[Yj]; exact this.2.2.2⟩
end
def chain:Tm→Bool
 | .leaf _=>true
 | .un _ a=>chain a
 | .bin _ _ _=>false
theorem R7:∀{t:Tm},chain t=true→t.nest=deepOf t+1
 | .leaf _,_=>rfl
 | .un _ a,h=>by simp only[Tm.nest,deepOf,R7 (t:=a) h]; omega
 | .bin _ _ _,h=>by simp[chain] at h
theorem Z9{f:Bd}(hv:∀p∈f,chain p.2=true) (hk:∀p∈f,∃h,p.1=.leaf h){k:Nat}(hn:∀p∈f,p.2.nest≤k):∀{t:Tm},chain t=true→chain (t4 f t)=true∧(t4 f t).nest≤t.nest+k
 | .leaf h,_=>by
  simp only[t4]
  cases e:f6 f (.leaf h) with
  | none=>exact⟨rfl,by simp[Tm.nest]⟩
  | some u=>exact⟨hv _ (j8 e),by have:=hn _ (j8 e); simp only[Option.getD_some]; simp at this; omega⟩
 | .un h a,hc=>by
  have e:f6 f (.un h a)=none:=by
   cases e:f6 f (.un h a) with
   | none=>rfl
   | some u=>obtain⟨g,hg⟩:=hk _ (j8 e); cases hg
  have ih:=Z9 hv hk hn (t:=a) hc
  simp only[t4,e,Option.getD_none]
  exact⟨ih.1,by simp only[Tm.nest]; omega⟩
def ST(k:Nat) (t:Tm):Prop:=t.o5=true∧chain t=true∧t.nest≤k
theorem ST.mono{k j:Nat}{t:Tm}(h:ST k t) (hj:k≤j):ST j t:=⟨h.1,h.2.1,by have:=h.2.2; omega⟩
theorem Gd{D:Nat→List Tm}(hD:∀j,j < 5→∀u∈D j,ST 8 u){t:Tm}{k:Nat}(ht:ST k t):∀u∈t0 D t,ST (8+k) u:=by
 intro u hu
 unfold t0 at hu
 split at hu
 ·rename_i j a l hj hk
  have gG:j < 5:=by
   unfold Gb at hj
   split at hj<;>simp at hj<;>omega
  obtain⟨hm,_⟩:=List.mem_filter.mp hu
  obtain⟨w,hw,rfl⟩:=List.mem_map.mp hm
  have ha:a∈t.kids:=by rw[hk]; simp
  have hac:chain a=true∧a.nest≤k:=by
   rcases t with h | ⟨h,x⟩ | ⟨h,x,y⟩
   ·simp[Tm.kids] at ha
   ·simp[Tm.kids] at ha; subst ha
    have:=ht.2.2
    simp only[Tm.nest] at this
    exact⟨ht.2.1,by omega⟩
   ·have:=ht.2.1; simp[chain] at this
  have hkey:∀p∈[(tX,a)],∃h,p.1=.leaf h:=by intro p hp; simp at hp; subst hp; exact⟨_,rfl⟩
  have xC:=hD j gG w hw
  have h1:=P8 (f:=[(tX,a)]) (by intro p hp; simp at hp; subst hp; exact Ga ht.1 ha) xC.1 hkey
  have h2:=Z9 (f:=[(tX,a)]) (k:=k) (by intro p hp; simp at hp; subst hp; exact hac.1) hkey (by intro p hp; simp at hp; subst hp; exact hac.2) xC.2.1
  exact⟨h1,h2.1,by have:=xC.2.2; omega⟩
 ·cases hu
theorem Y1{D:Nat→List Tm}(hD:∀j,j < 5→(D j).length≤3) (t:Tm):(t0 D t).length≤3:=by
 unfold t0
 split
 ·rename_i j a l hj hk
  have gG:j < 5:=by
   unfold Gb at hj
   split at hj<;>simp at hj<;>omega
  refine Nat.le_trans (List.length_filter_le ..) ?_
  rw[List.length_map]; exact hD j gG
 ·simp
def D8(D:Nat→List Tm):Nat→List Tm→List Tm→Option (List Tm)
 | 0,_,_=>none
 | n+1,todo,met=>match todo.getLast? with
  | none=>some met
  | some t=>if t∉met∧deepOf t < 12 then (if t.hd≠.val 64 then D8 D n (todo.dropLast++t0 D t) (met++[t]) else D8 D n todo.dropLast (met++[t])) else D8 D n todo.dropLast met
section
variable {c:Cx}{n:Nat}{O:a7}{Q:V→a7→Prop}{E:a7→Prop}
theorem cW{a:Addr}{l:List Tm}{t:Tm}(h:O a=some (.list (l.map Tm.v))) (ht:ST 60 t) (hl:∀x∈l,ST 60 x){R:Bool→Prop}:G6 c .NotIn t.v (.ref a) O R=R (decide (t∉l)):=by
 simp only[G6,IN,h]
 have hk:∀x,ST 60 x→x.v.hk 60=true:=λx hx=>Mh hx.2.2
 have e:(t.v∈l.map Tm.v)=(t∈l):=by
  rw[eq_iff_iff,List.mem_map]
  exact⟨fun⟨x,hx,e⟩=>Cu (hl x hx).1 ht.1 e ▸ hx,λh=>⟨t,h,rfl⟩⟩
 have e2:∀i1:Decidable (t.v∈l.map Tm.v),∀i2:Decidable (t∉l),(!@decide _ i1)=@decide _ i2:=λi1 i2=>by
  rw[←decide_not,decide_eq_decide,e]
 rw[e2 _ _]
 rw[eq_iff_iff]
 exact⟨λh=>h.2.2,λh=>⟨hk t ht,λv hv=>by obtain⟨x,hx,rfl⟩:=List.mem_map.mp hv; exact hk x (hl x hx),h⟩⟩
theorem Xu(N:j7 c){fa:Addr}{la:Nat→Addr}{D:Nat→List Tm}(hF:Ip fa la D O) (hD:∀j,j < 5→∀u∈D j,ST 8 u) (tB:∀j,j < 5→(D j).length≤3){m:Nat}(hm:m≤10000){met:List Tm}(h:D8 D m (t0 D (m0 64)) []=some met){n:Nat}(hn:14≤n){Z:Loc}(r6:Z 6=some (.ref fa)){Q:Fl→Loc→a7→Prop}
  (q:∀i7 b7 mt,(∀i,i < 7→i7 i=Z i)→i7 7=some (.ref mt)→b7 mt=some (.list (met.map Tm.v))→(∀t∈met,ST 12 t)→met.length≤10000→b8 (λ_=>False) O b7→O mt=none→o9 c n (A5.drop 7) i7 b7 Q E):o9 c n (A5.drop 4) Z O Q E:=by
 refine i6 (B1 λmt hmt=>?_)
 have s0:b8 (λ_=>False) O (i8 O mt (.list [])):=b8.new hmt
 have em:i8 O mt (.list []) mt=some (.list []):=b9 _ _ _
 generalize i8 O mt (.list [])=H0 at s0 em
 have tA:=hF.same s0 id λ_ _=>id
 have tC:∀j,j < 5→∀u∈D j,LT u:=λj hj u hu=>⟨(hD j hj u hu).1,(hD j hj u hu).2.2⟩
 refine i6 ?_
 simp only[WX,j0,b6,r6,oI,eL,show((6:Nat)=7)=False by simp,if_false,fU,kW]
 rw[show V.tup [V.str ⟨#[83]⟩,V.tup [V.str ⟨#[120]⟩]]=(m0 64).v from rfl]
 refine Mn N tA tC (λj hj=>by have:=tB j hj; omega) (t:=m0 64) (by decide) (by omega) λtd t9 htd s1 etd=>?_
 have em1:=s1 _ _ id em
 have Vd:=s0.trans s1
 have hne:mt≠td:=fresh_ne htd em
 have Mf:=y9 s0 htd
 have st0:ST 2 (m0 64):=⟨by decide,by decide,by decide⟩
 refine Pv (λk i7 b7=>(∀i,i < 7→i7 i=Z i)∧i7 7=some (.ref mt)∧i7 8=some (.ref td)∧b8 (λ_=>False) O b7∧∃todo Hh:List Tm,D8 D k todo Hh=some met∧todo.length+3 * k≤40000∧Hh.length+k≤10000∧b7 td=some (.list (todo.map Tm.v))∧b7 mt=some (.list (Hh.map Tm.v))∧(∀t∈todo,ST 20 t)∧(∀t∈Hh,ST 12 t)) (k:=m)
  ⟨λi hi=>by simp[b6,show i≠7 by omega,show i≠8 by omega],by simp[b6],by simp[b6],Vd,t0 D (m0 64),[],h,by have:=Y1 tB (m0 64); omega,by simpa using hm,etd,em1,λt ht=>(Gd hD st0 t ht).mono (by omega),by simp⟩ ?_
 rintro k i7 b7 ⟨E0,r7,r8,s,todo,Hh,hl,htz,mR,et,em',hT,hM⟩
 cases k with
 | zero=>cases hl
 | succ k =>
  unfold D8 at hl
  simp only[WC,WX,r8,oI,eL,z2,et]
  refine⟨by simp only[List.length_map]; omega,?_⟩
  cases hla:todo.getLast? with
  | none =>
   rw[hla] at hl
   cases hl
   have:todo=[]:=List.getLast?_eq_none_iff.mp hla
   subst this
   refine⟨λe=>by simp at e,λ_=>?_⟩
   exact q i7 b7 mt E0 r7 em' hM (by omega) s hmt
  | some t =>
   rw[hla] at hl
   dsimp only at hl
   have hsp:todo=todo.dropLast++[t]:=by
    have hne:todo≠[]:=by rintro rfl; cases hla
    rw[List.getLast?_eq_some_getLast hne] at hla
    cases hla
    exact(List.dropLast_concat_getLast hne).symm
   have hdl:todo.dropLast.length+1=todo.length:=by
    have:=congrArg List.length hsp; simp only[List.length_append,List.length_cons,List.length_nil] at this; omega
   have ht:ST 20 t:=hT t (by rw[hsp]; simp)
   have hT':∀x∈todo.dropLast,ST 20 x:=λx hx=>hT x (List.dropLast_subset _ hx)
   have hne0:todo.map Tm.v≠[]:=by rw[hsp]; simp
   refine⟨λ_=>?_,λe=>absurd hne0 (by simpa using e)⟩
   refine i6 ?_
   simp only[WX,j0,r8,oI,eL]
   refine⟨_,.inl ⟨_,_,rfl,et,.inr (.inr ⟨rfl,rfl⟩)⟩,?_⟩
   have et2:b7 td=some (.list (todo.dropLast.map Tm.v++[t.v])):=by
    rw[et]; congr 2; conv=>lhs; rw[hsp]
    simp
   refine Zk et2 (by simp only[List.length_map]; omega) ?_
   have n4:∀b,b≠td→i8 b7 td (.list (todo.dropLast.map Tm.v)) b=b7 b:=λb hb=>i9 hb
   have e4:i8 b7 td (.list (todo.dropLast.map Tm.v)) td=some (.list (todo.dropLast.map Tm.v)):=b9 _ _ _
   generalize i8 b7 td (.list (todo.dropLast.map Tm.v))=x9 at n4 e4
   have s4:b8 (λ_=>False) O x9:=λb o f e=>by rw[n4 b (fresh_ne Mf e)]; exact s b o f e
   have tD:x9 mt=some (.list (Hh.map Tm.v)):=by rw[n4 _ hne]; exact em'
   have g7:b6 i7 9 t.v 7=some (.ref mt):=by simp[b6,r7]
   have g8:b6 i7 9 t.v 8=some (.ref td):=by simp[b6,r8]
   have g9:b6 i7 9 t.v 9=some t.v:=by simp[b6]
   have g6:b6 i7 9 t.v 6=some (.ref fa):=by simp[b6,E0 6 (by omega),r6]
   have gi:∀i,i < 7→b6 i7 9 t.v i=Z i:=λi hi=>by simp[b6,show i≠9 by omega,E0 i hi]
   change o9 c n _ (b6 i7 9 t.v) x9 _ E
   generalize b6 i7 9 t.v=Qj at g6 g7 g8 g9 gi
   have kR:G6 c .NotIn t.v (.ref mt) x9=λR=>R (decide (t∉Hh)):=by
    funext R; exact cW tD (ht.mono (by omega)) (λx hx=>(hM x hx).mono (by omega))
   have a1f:∀{x y:B}{R:Bool→a7→Prop},WC c n (.and [x,y]) Qj x9 R E=WC c n x Qj x9 (λb O=>if b=true then WC c n y Qj O (λb O=>if b=true then R true O else R false O) E else R false O) E:=by intros; simp only[WC,M5]
   refine l0 (decide (t∉Hh∧deepOf t < 12)) (λR E' q=>?_) (λe=>?_) (λe=>?_)
   ·simp only[WC,M5,WX,j0,g7,g9,oI,eL,kR]
    by_cases e1:t∈Hh
    ·rw[if_neg (by simpa using e1)]
     rw[show decide (t∉Hh∧deepOf t < 12)=false by simp[e1]] at q
     exact q
    ·rw[if_pos (by simpa using e1)]
     refine lM N (by omega) ?_
     simp only[vi,O1]
     have:decide ((deepOf t:Int) < 12)=decide (t∉Hh∧deepOf t < 12):=by rw[decide_eq_decide]; simp[e1]; omega
     rw[this]
     revert q
     cases decide (t∉Hh∧deepOf t < 12)<;>exact λq=>q
   ·have hc:t∉Hh∧deepOf t < 12:=by simpa using e
    rw[if_pos hc] at hl
    have rB:ST 12 t:=⟨ht.1,ht.2.1,by rw[R7 ht.2.1]; omega⟩
    refine z6 ?_
    simp only[WX,j0,g7,g9,oI,eL]
    refine⟨_,.inl ⟨_,_,rfl,tD,.inl ⟨rfl,rfl⟩⟩,?_⟩
    refine v3 tD (by simp only[List.length_map]; omega) ?_
    have n5:∀b,b≠mt→i8 x9 mt (.list (Hh.map Tm.v++[t.v])) b=x9 b:=λb hb=>i9 hb
    have e5:i8 x9 mt (.list (Hh.map Tm.v++[t.v])) mt=some (.list ((Hh++[t]).map Tm.v)):=by rw[b9]; simp
    generalize i8 x9 mt (.list (Hh.map Tm.v++[t.v]))=C7 at n5 e5
    have s5:b8 (λ_=>False) O C7:=λb o f e=>by rw[n5 b (fresh_ne hmt e)]; exact s4 b o f e
    have xD:C7 td=some (.list (todo.dropLast.map Tm.v)):=by rw[n5 _ hne.symm]; exact e4
    have hM5:∀x∈Hh++[t],ST 12 x:=λx hx=>by
     rcases List.mem_append.mp hx with hx | hx
     ·exact hM x hx
     ·simp at hx; subst hx; exact rB
    refine l0 (!decide (t.hd=.val 64)) (λR E' q=>?_) (λe2=>?_) (λe2=>?_)
    ·simp only[WC,WX,g9,oI,eL,fU]
     rw[Mj]
     have:=λR=>bN (c:=c) (O:=C7) (Cv t.hd) (show 83 < 128 by omega) (R:=R)
     rw[show V.str ⟨#[83]⟩=one 83 from rfl,this]
     have key:∀h∈M0,decide (h.cd=83)=decide (h=.val 64):=by decide
     rw[key _ (F4 ht.1)]; exact q
    ·have h64:t.hd≠.val 64:=by simpa using e2
     rw[if_pos h64] at hl
     refine aP g8 ?_
     simp only[WX,j0,g6,g9,oI,eL]
     refine Mn N (hF.same s5 id λ_ _=>id) tC (λj hj=>by have:=tB j hj; omega) ht.1 (by omega) λr Y5 hr s6 er=>?_
     have et6:=s6 _ _ id xD
     have hll:=Y1 tB t
     simp only[jH]
     refine⟨_,_,et6,er,by simp only[List.length_map]; omega,fresh_ne hr xD,?_⟩
     refine o7 ⟨k,by omega,λi hi=>by simp[b6,show i≠8 by omega,gi i hi],by simp[b6,g7],by simp[b6],λb o f e=>?_,todo.dropLast++t0 D t,Hh++[t],hl,by simp only[List.length_append]; omega,by simp; omega,?_,?_,?_,hM5⟩
     ·rw[i9 (fresh_ne Mf e)]; exact(s5.trans s6) b o f e
     ·rw[b9]; simp
     ·rw[i9 hne]; exact s6 _ _ id e5
     ·intro x hx
      rcases List.mem_append.mp hx with hx | hx
      ·exact hT' x hx
      ·exact(Gd hD rB x hx).mono (by omega)
    ·have h64:¬(t.hd≠.val 64):=by simpa using e2
     rw[if_neg h64] at hl
     refine o7 ⟨k,by omega,gi,g7,g8,s5,todo.dropLast,Hh++[t],hl,by omega,by simp; omega,xD,e5,hT',hM5⟩
   ·have hc:¬(t∉Hh∧deepOf t < 12):=by simpa using e
    rw[if_neg hc] at hl
    exact o7 ⟨k,by omega,gi,g7,g8,s4,todo.dropLast,Hh,hl,by omega,by omega,e4,tD,hT',hM⟩
end
section
variable {c:Cx}{n:Nat}{O:a7}{K:I8}{T:List Tm}{Q:V→a7→Prop}{E:a7→Prop}{H:Hg}{Ts:List G2}{Fs:List P4}{d nu at_ na:Addr}{B:Nat}{f:Bd}
structure cX(Ts:List G2) (Fs:List P4) (D:Nat→List Tm) (met:List Tm):Prop where
 st:∀j,j < 5→∀u∈D j,ST 8 u
 few:∀j,j < 5→(D j).length≤3
 v8:∀t∈Ts,t.v8.length≤3
 good:∀t,t=m0 64∨t∈met→t.ok=true∧Fits t∧z1 Ts Fs t=t0 D t∧∀u∈t0 D t,u.ok=true∧Fits u
 holds:∃m r,G3 Ts Fs 64 m (z1 Ts Fs (m0 64)) []=some r∧r=met.any λt=>decide (t.hd=.val 64)
theorem J5.Cd(h:J5 H K T Ts Fs d nu at_ B O) (u:J4 K T f na O){b:Addr}(hb:O b=none):¬CF K na b:=by
 have:=h.out u hb
 rintro(x | x)
 ·exact this.1 x
 ·exact this.2.1 x
theorem gJ(N:j7 c){fa:Addr}{la:Nat→Addr}{D:Nat→List Tm}{met:List Tm}(M:cX Ts Fs D met){t:Tm}(ht:t=m0 64∨t∈met) (hst:ST 12 t) (L:J5 H K T Ts Fs d nu at_ B O) (u:J4 K T f na O) (hsn:¬SF H Ts na) (hF:Ip fa la D O) (oF:¬CF K na fa∧∀j,j < 5→¬CF K na (la j)) (hz:T.length+200 < 100000){n:Nat}(hn:45≤n){Z:Loc}
  (r0:Z 0=some (.ref d)) (r4:Z 4=some (.ref na)) (r6:Z 6=some (.ref fa)) (r9:Z 9=some t.v){Q:Fl→Loc→a7→Prop}
  (q:∀i7 b7 T' f',(∀i,i < 9→i7 i=Z i)→Gr T T' 200→J5 H K T' Ts Fs d nu at_ B b7→J4 K T' f' na b7→Ip fa la D b7→(∀b o,¬CF K na b→O b=some o→b7 b=some o)→Q .next i7 b7) :
  o9 c n [(.set 11 (.comp (.call (.con (.fix (.ref 548))) [(.attr (.loc 0) (Str.ofString "kt")),(.loc 4),(.loc 10)]) (.one 10) (.call (.con (.fix (.ref 619))) [(.loc 6),(.loc 9)]) [])),(.ite (.cmp .NotEq (.call (.con (.fix (.ref 405))) [(.loc 0),(.call (.con (.fix (.ref 548))) [(.attr (.loc 0) (Str.ofString "kt")),(.loc 4),(.loc 9)])]) (.loc 11)) [(.ret (.con (.bool false)))] [])] Z O Q E:=by
 obtain⟨hok,hfit,hheld,hgood⟩:=M.good t ht
 have tC:∀j,j < 5→∀u∈D j,LT u:=λj hj u hu=>⟨(M.st j hj u hu).1,(M.st j hj u hu).2.2⟩
 have hll:=Y1 M.few t
 refine i6 ?_
 have comp:∀(R:V→a7→Prop),(∀r b7 T' f',O r=none→b7 r=some (.list ((t0 D t).map λx=>vi (T'.idxOf x)))→Gr T T' 75→J5 H K T' Ts Fs d nu at_ B b7→J4 K T' f' na b7→(∀x∈t0 D t,x∈T')→(∀b o,¬CF K na b→O b=some o→b7 b=some o)→R (.ref r) b7)→WX c n (.comp (.call (.con (.fix (.ref 548))) [(.attr (.loc 0) (Str.ofString "kt")),(.loc 4),(.loc 10)]) (.one 10) (.call (.con (.fix (.ref 619))) [(.loc 6),(.loc 9)]) []) Z O R E:=by
  intro R q
  simp only[WX,j0,r6,r9,oI,eL]
  refine Mn N hF tC (λj hj=>by have:=M.few j hj; omega) hst.1 (by omega) λr1 t9 hr1 s1 mY=>?_
  have L1:=L.new s1
  have u1:=u.same s1
  have fr1:=L.Cd u hr1
  have hit:∀b7:a7,b7 r1=some (.list ((t0 D t).map Tm.v))→u6 (.ref r1) b7 ((t0 D t).map Tm.v):=λb7 e=>by simp[u6,e]
  refine⟨_,hit _ mY,by simp only[List.length_map]; omega,?_⟩
  refine C4 (λdone left acc b7=>b7 r1=some (.list ((t0 D t).map Tm.v))∧∃(dk lk:List Tm) (T1:List Tm) (f1:Bd),t0 D t=dk++lk∧left=lk.map Tm.v∧Gr T T1 (25 * dk.length)∧J5 H K T1 Ts Fs d nu at_ B b7∧J4 K T1 f1 na b7∧(∀b o,¬CF K na b→O b=some o→b7 b=some o)∧(∀x∈dk,x∈T1)∧acc=dk.map λx=>vi (T1.idxOf x))
   (λ_ _ _ b7 hI=>hit b7 hI.1) ?_ _ [] [] _ _ ⟨mY,[],t0 D t,T,f,rfl,rfl,.refl _ _,L1,u1,λb o _ e=>s1 b o id e,by simp,rfl⟩ ?_
  ·rintro done x left acc b7 R' ⟨e1,dk,lk,T1,f1,ek,el,g1,L1,u1,k1,hd,ea⟩ hsome _
   cases lk with
   | nil=>simp at el
   | cons y lk =>
    simp only[List.map_cons,List.cons.injEq] at el
    obtain⟨rfl,rfl⟩:=el
    have hy:y∈t0 D t:=by rw[ek]; simp
    have hdl:dk.length+(lk.length+1)≤3:=by rw[ek] at hll; simpa using hll
    have gK:=Gd M.st hst y hy
    have sN:y.weight≤20:=by
     have:∀z:Tm,chain z=true→z.weight=z.nest:=by
      intro z
      induction z with
      | leaf h=>intro _; rfl
      | un h a ih=>intro hc; simp only[Tm.weight,Tm.nest,ih hc]
      | bin h a b _ _=>intro hc; simp[chain] at hc
     rw[this y gK.2.1]; exact gK.2.2
    have hg:=g1.2
    simp only[J7,M5,if_true,WX,j0,b6,r0,r4,oI,eL,show((0:Nat)=10)=False by simp,show((4:Nat)=10)=False by simp,if_false]
    refine L1.y.kt N ?_
    refine R4 N 20 gK.2.2 gK.1 (hgood y hy).1 (hgood y hy).2 u1 (by omega) (by omega) λT2 f2 t8 g2 u2 s2 hm2 _ _=>?_
    refine hsome _ _ ⟨s2 _ _ fr1 e1,dk++[y],lk,T2,f2,by simp[ek],rfl,(g1.trans g2).mono (by simp; omega),L1.kind u1 hsn g2 u2 s2,u2,λb o hb e=>s2 b o hb (k1 b o hb e),?_,?_⟩
    ·intro z hz
     rcases List.mem_append.mp hz with hz | hz
     ·exact g2.mem (hd z hz)
     ·simp at hz; subst hz; exact hm2
    ·rw[ea,List.map_append]
     congr 1
     exact List.map_congr_left λz hz=>by rw[g2.idx (hd z hz)]
  ·rintro acc b7 ⟨e1,dk,lk,T1,f1,ek,el,g1,L1,u1,k1,hd,ea⟩ r hr
   have:lk=[]:=by cases lk<;>simp at el ⊢
   subst this
   rw[List.append_nil] at ek
   have hr0:O r=none:=by
    cases e:O r with
    | none=>rfl
    | some o =>
     have:=k1 r o (L1.Cd u1 hr) e
     rw[hr] at this; cases this
   have s2:b8 (λ_=>False) b7 (i8 b7 r (.list acc)):=b8.new hr
   refine q r _ T1 f1 hr0 (by rw[b9,ea,ek]) (g1.mono (by rw[←ek]; omega)) (L1.new s2) (u1.same s2) (by rw[ek]; exact hd) λb o hb e=>s2 b o id (k1 b o hb e)
 refine comp _ λw t9 T1 f1 hw ew g1 L1 u1 hm1 k1=>?_
 have frw:=L.Cd u hw
 have hg1:=g1.2
 have a1i:=hst.mono (show 12≤20 by omega)
 have hwt:t.weight≤12:=by
  have:∀z:Tm,chain z=true→z.weight=z.nest:=by
   intro z
   induction z with
   | leaf h=>intro _; rfl
   | un h a ih=>intro hc; simp only[Tm.weight,Tm.nest,ih hc]
   | bin h a b _ _=>intro hc; simp[chain] at hc
  rw[this t hst.2.1]; exact hst.2.2
 have hN1:=Fw M.v8 t
 refine I3 ?_
 simp only[WC,WX,j0,b6,r0,r4,r9,oI,eL,if_true,show((0:Nat)=11)=False by simp,show((4:Nat)=11)=False by simp,show((9:Nat)=11)=False by simp,if_false]
 refine L1.y.kt N ?_
 refine R4 N 12 hst.2.2 hst.1 hok hfit u1 (by omega) (by omega) λT2 f2 t8 g2 u2 s2 hm2 _ _=>?_
 have L2:=L1.kind u1 hsn g2 u2 s2
 have hg2:=g2.2
 refine Ss N L2.k L2.y L2.s hm2 (by omega) (by omega) λT3 A4 r3 g3 k3 y3 h3 s3 hr3 tE iU=>?_
 have Vf:b8 (CF K na) t8 A4:=s3.mono λ_ h=>.inl h
 have u3:J4 K T3 f2 na A4:=u2.grow g3 k3 s3
 have L3:=L2.kind u2 hsn g3 u3 Vf
 have ew3:A4 w=some (.list ((t0 D t).map λx=>vi (T1.idxOf x))):=Vf _ _ frw (s2 _ _ frw ew)
 have xE:A4 r3=some (.list ((t0 D t).map λx=>vi (T1.idxOf x))):=by
  rw[tE,hheld]
  congr 2
  exact List.map_congr_left λx hx=>by rw[g3.idx (g2.mem (hm1 x hx)),g2.idx (hm1 x hx)]
 simp only[G6,EQ]
 have hints:Iv ((t0 D t).map λx=>vi (T1.idxOf x)):=λv hv=>by obtain⟨x,_,rfl⟩:=List.mem_map.mp hv; exact⟨_,rfl⟩
 refine⟨_,_,xE,ew3,hints,hints,?_⟩
 simp only[decide_true,Bool.not_true,Bool.false_eq_true,false_implies,true_and,forall_const]
 refine o7 (q _ A4 T3 f2 (λi hi=>by simp[b6,show i≠11 by omega]) (((g1.trans g2).trans g3).mono (by omega)) L3 u3 ?_ λb o hb e=>Vf b o hb (s2 b o hb (k1 b o hb e)))
 exact⟨Vf _ _ oF.1 (s2 _ _ oF.1 (k1 _ _ oF.1 hF.1)),λj hj=>Vf _ _ (oF.2 j hj) (s2 _ _ (oF.2 j hj) (k1 _ _ (oF.2 j hj) (hF.2 j hj)))⟩
end
def Vk:List (Nat×Nat):=[(2,1),(2,1),(2,1),(2,1),(2,1),(5,0),(1,1)]
def Jy:List Nat:=[83,82,81,78,71,69,67]
theorem rC:Str.ofString "SRQNGEC"=⟨Jy.toArray⟩:=by decide +kernel
theorem tF:Str.ofString "E"=⟨#[69]⟩:=by decide +kernel
def R8:Prop:=∀(Ts:List G2) (Fs:List P4) (D:Nat→List (Tm×Nat)),(Ts.map λt=>(t.sort,t.np))=Vk→(∀i,i < 5→Tc Ts Fs i (v5 D i))→(∀i,5≤i→i < 7→Tc Ts Fs i [])→(∀i,i < 5→lO i (D i)∧(D i).length≤2)→(D 4).length≤1 →
 ∃m met,m≤10000∧D8 (λi=>TL (v5 D i)) m (t0 (λi=>TL (v5 D i)) (m0 64)) []=some met∧cX Ts Fs (λi=>TL (v5 D i)) met
section
variable {c:Cx}{n:Nat}{O:a7}{K:I8}{T:List Tm}{Q:V→a7→Prop}{E:a7→Prop}{H:Hg}{Ts:List G2}{Fs:List P4}{d nu at_ na:Addr}{B:Nat}{f:Bd}
theorem Xv{l:List Tm}{p:Tm→Bool}:decide (0 < (l.filter p).length)=l.any p:=by
 rw[Bool.eq_iff_iff,decide_eq_true_eq,List.any_eq_true]
 constructor
 ·intro h
  obtain⟨x,hx⟩:=List.exists_mem_of_length_pos h
  exact⟨x,(List.mem_filter.mp hx).1,(List.mem_filter.mp hx).2⟩
 ·rintro⟨x,h1,h2⟩
  exact List.length_pos_of_mem (List.mem_filter.mpr ⟨h1,h2⟩)
theorem cY(N:j7 c){fa mt:Addr}{la:Nat→Addr}{D:Nat→List Tm}{met:List Tm}(M:cX Ts Fs D met) (hmet:∀t∈met,ST 12 t) (mR:met.length≤10000) (L:J5 H K T Ts Fs d nu at_ B O) (u:J4 K T f na O) (hsn:¬SF H Ts na) (hF:Ip fa la D O) (oF:¬CF K na fa∧∀j,j < 5→¬CF K na (la j)) (hmt:O mt=some (.list (met.map Tm.v))) (omt:¬CF K na mt) (hz:T.length < 30000){ti:G2}(hti:D9 Ts 64=some ti) (hs:ti.sort=2) (hnp:ti.np=1) (hlen:1≤Ts.length){n:Nat}(hn:60≤n){Z:Loc}
  (r0:Z 0=some (.ref d)) (r3:Z 3=some (.ref H.st)) (r4:Z 4=some (.ref na)) (r6:Z 6=some (.ref fa)) (r7:Z 7=some (.ref mt))
  (q:∀b7,Q (.bool true) b7):o9 c n (A5.drop 7) Z O (i4 Q) E:=by
 refine D0 ?_
 simp only[WX,j0,r7,oI,eL,fU,kW]
 rw[show V.tup [V.str ⟨#[83]⟩,V.tup [V.str ⟨#[120]⟩]]=(m0 64).v from rfl]
 intro r1 hr1
 have s1:b8 (λ_=>False) O (i8 O r1 (.list [(m0 64).v])):=b8.new hr1
 have e1:i8 O r1 (.list [(m0 64).v]) r1=some (.list [(m0 64).v]):=b9 _ _ _
 have rD:=s1 _ _ id hmt
 generalize i8 O r1 (.list [(m0 64).v])=t9 at s1 e1 rD
 simp only[eK]
 refine⟨_,rD,by simp only[List.length_map]; omega,.inl trivial,?_⟩
 intro r2 hr2
 have Sy:cut (met.map Tm.v) none (some 3)=(met.take 3).map Tm.v:=by simp[cut,List.map_take]
 rw[Sy]
 have s2:b8 (λ_=>False) t9 (i8 t9 r2 (.list ((met.take 3).map Tm.v))):=b8.new hr2
 have e2:i8 t9 r2 (.list ((met.take 3).map Tm.v)) r2=some (.list ((met.take 3).map Tm.v)):=b9 _ _ _
 have sX:=s2 _ _ id e1
 generalize i8 t9 r2 (.list ((met.take 3).map Tm.v))=t8 at s2 e2 sX
 simp only[Hf]
 refine⟨_,_,sX,e2,by simp; omega,?_⟩
 intro cl hcl
 have hl:[(m0 64).v]++(met.take 3).map Tm.v=(m0 64::met.take 3).map Tm.v:=rfl
 rw[hl]
 have s3:b8 (λ_=>False) t8 (i8 t8 cl (.list ((m0 64::met.take 3).map Tm.v))):=b8.new hcl
 have e3:i8 t8 cl (.list ((m0 64::met.take 3).map Tm.v)) cl=some (.list ((m0 64::met.take 3).map Tm.v)):=b9 _ _ _
 have st:=(s1.trans s2).trans s3
 have xF:O cl=none:=y9 (s1.trans s2) hcl
 have ocl:=L.Cd u xF
 generalize i8 t8 cl (.list ((m0 64::met.take 3).map Tm.v))=A4 at s3 e3 st
 have L3:=L.new st
 have u3:=u.same st
 have tH:=hF.same st id λ_ _=>id
 have xG:=st _ _ id hmt
 have hmem:∀t∈m0 64::met.take 3,(t=m0 64∨t∈met)∧ST 12 t:=by
  intro t ht
  rcases List.mem_cons.mp ht with rfl | ht
  ·exact⟨.inl rfl,by decide,by decide,by decide⟩
  ·have:=List.mem_of_mem_take ht
   exact⟨.inr this,hmet t this⟩
 have hit:∀b7:a7,b7 cl=some (.list ((m0 64::met.take 3).map Tm.v))→u6 (.ref cl) b7 ((m0 64::met.take 3).map Tm.v):=λb7 e=>by simp[u6,e]
 refine⟨_,hit _ e3,by simp; omega,?_⟩
 refine s9 (λdone left i7 b7=>(∀i,i < 8→i7 i=Z i)∧b7 cl=some (.list ((m0 64::met.take 3).map Tm.v))∧b7 mt=some (.list (met.map Tm.v))∧∃(dk lk:List Tm) (T1:List Tm) (f1:Bd),m0 64::met.take 3=dk++lk∧left=lk.map Tm.v∧Gr T T1 (200 * dk.length)∧J5 H K T1 Ts Fs d nu at_ B b7∧J4 K T1 f1 na b7∧Ip fa la D b7)
  (λ_ _ _=>False) (λ_ _ _ b7 hI=>hit b7 hI.2.1) ?_ _ [] _ _ _ ⟨λ_ _=>rfl,e3,xG,[],_,T,f,rfl,rfl,.refl _ _,L3,u3,tH⟩ ?_ (λ_ _ _ h=>h.elim)
 ·rintro done x left i7 b7 R ⟨E0,ec,em,dk,lk,T1,f1,ek,el,g1,L1,u1,mZ⟩ hnext _ _
  cases lk with
  | nil=>simp at el
  | cons t lk =>
   simp only[List.map_cons,List.cons.injEq] at el
   obtain⟨rfl,rfl⟩:=el
   have Qg:=hmem t (by rw[ek]; simp)
   have hdl:dk.length+(lk.length+1)≤4:=by
    have:=congrArg List.length ek
    simp at this; omega
   have hg:=g1.2
   simp only[J7]
   refine gJ N M Qg.1 Qg.2 L1 u1 hsn mZ oF (by omega) (by omega) (by simp[b6,E0 0 (by omega),r0]) (by simp[b6,E0 4 (by omega),r4]) (by simp[b6,E0 6 (by omega),r6]) (by simp[b6]) λlS x9 T4 f4 Qo g4 L4 u4 xH k4=>?_
   exact hnext _ _ ⟨λi hi=>by rw[Qo i (by omega)]; simp[b6,show i≠9 by omega,E0 i hi],k4 _ _ ocl ec,k4 _ _ omt em,dk++[t],lk,T4,f4,by simp[ek],rfl,(g1.trans g4).mono (by simp; omega),L4,u4,xH⟩
 ·rintro i7 b7 ⟨E0,ec,em,dk,lk,T1,f1,ek,el,g1,L1,u1,mZ⟩
  have:lk=[]:=by cases lk<;>simp at el ⊢
  subst this
  have hdl:dk.length≤4:=by
   have:=congrArg List.length ek
   simp at this; omega
  have hg:=g1.2
  obtain⟨m,r,hh,hr⟩:=M.holds
  refine i5 ?_
  simp only[WX,j0,E0 0 (by omega),E0 3 (by omega),E0 7 (by omega),r0,r3,r7,oI,eL]
  refine L1.s.N3 N ?_
  rw[show V.int 64=vi 64 from rfl,L1.s.Fv (tid:=64) (by omega),hti]
  simp only[Yi]
  refine fQ N M.v8 L1.k L1.y L1.s hti hs hnp (by omega) (by omega) (by omega) (by omega) hh λT5 C7 g5 k5 s5=>?_
  have em5:=s5 _ _ (λh=>omt (.inl h)) em
  refine⟨met.map Tm.v,by simp[u6,em5],by simp only[List.length_map]; omega,?_⟩
  refine C4 (λdone left acc T9=>T9=C7∧∃dk lk:List Tm,met=dk++lk∧left=lk.map Tm.v∧acc.length=(dk.filter λt=>decide (t.hd=.val 64)).length)
   (λ_ _ _ T9 hI=>by rw[hI.1]; simp[u6,em5]) ?_ _ [] [] _ _ ⟨rfl,[],met,rfl,rfl,rfl⟩ ?_
  ·rintro done x left acc T9 R' ⟨rfl,dk,lk,ek,el,ea⟩ hsome hnone
   cases lk with
   | nil=>simp at el
   | cons t lk =>
    simp only[List.map_cons,List.cons.injEq] at el
    obtain⟨rfl,rfl⟩:=el
    have ht:=hmet t (by rw[ek]; simp)
    simp only[J7,M5,WC,WX,b6,if_true,oI,eL,fU]
    rw[Mj]
    have:=λR=>bV (c:=c) (O:=T9) (Cv t.hd) (show 83 < 128 by omega) (R:=R)
    rw[show V.str ⟨#[83]⟩=one 83 from rfl,this]
    have key:∀h∈M0,decide (h.cd=83)=decide (h=.val 64):=by decide
    rw[key _ (F4 ht.1)]
    cases hd:decide (t.hd=.val 64) with
    | true =>
     simp only[if_true]
     exact hsome _ _ ⟨rfl,dk++[t],lk,by simp[ek],rfl,by rw[List.filter_append]; simp[ea,hd]⟩
    | false =>
     simp only[Bool.false_eq_true,if_false]
     exact hnone _ ⟨rfl,dk++[t],lk,by simp[ek],rfl,by rw[List.filter_append]; simp[ea,hd]⟩
  ·rintro acc T9 ⟨rfl,dk,lk,ek,el,ea⟩ rr hrr
   have:lk=[]:=by cases lk<;>simp at el ⊢
   subst this
   rw[List.append_nil] at ek
   have hfl:=List.length_filter_le (λt:Tm=>decide (t.hd=.val 64)) dk
   refine A3 (b9 _ _ _) (by rw[ea]; rw[ek] at mR; omega) ?_
   simp only[cmp_gt]
   have hc:decide ((0:Int) < (acc.length:Int))=r:=by
    rw[hr,ek,←Xv,decide_eq_decide,ea]; omega
   rw[hc]
   simp only[G6,EQ,Kj,i4]
   refine⟨.inr ⟨_,_,rfl,rfl⟩,?_⟩
   rw[decide_true]
   exact q _
end
section
variable {c:Cx}{n:Nat}{O:a7}{K:I8}{T:List Tm}{Q:V→a7→Prop}{E:a7→Prop}{H:Hg}{d nu at_ na:Addr}{B:Nat}
theorem gL{j:Nat}(hj:j < 7):decide (Jy[j]=69)=decide (j=5):=by
 rcases j with _|_|_|_|_|_|_|j<;>first | rfl | omega
theorem xI{j:Nat}(hj:j < 7):decide (Jy[j]=67)=decide (j=6):=by
 rcases j with _|_|_|_|_|_|_|j<;>first | rfl | omega
theorem lU{j:Nat}(hj:j < 7):Jy[j] < 128:=by
 have key:∀x∈Jy,x < 128:=by decide
 exact key _ (List.getElem_mem hj)
theorem lV{j:Nat}(hj:j < 7):Vk[j]?=some (if j=5 then (5,0) else if j=6 then (1,1) else (2,1)):=by
 rcases j with _|_|_|_|_|_|_|j<;>first | rfl | omega
theorem cZ(N:j7 c){Fs:List P4}{f:Bd}(L:J5 H K T [] Fs d nu at_ B O) (u:J4 K T f na O) (hsn:¬SF H [] na) (gM:O H.nm=some (.dict [])) (hna:na≠H.nm) (hz:T.length < 20000){n:Nat}(hn:20≤n){Z:Loc}(r3:Z 3=some (.ref H.st)){xs:List S}{Q:Fl→Loc→a7→Prop}
  (q:∀i7 b7 T' Mo,(∀i,i < 5→i7 i=Z i)→J5 H K T' Mo Fs d nu at_ B b7→J4 K T' f na b7→¬SF H Mo na→Gr T T' 7→(Mo.map λt=>(t.sort,t.np))=Vk→(∀t∈Mo,t.v8=[])→o9 c n xs i7 b7 Q E) :
  o9 c n (.for (.one 5) (.con (.str (Str.ofString "SRQNGEC"))) [(.exp (.call (.con (.fix (.ref 349))) [(.loc 3),(.con (.int 0)),(.loc 5),(.ite (.cmp .Eq (.loc 5) (.con (.str (Str.ofString "E")))) (.con (.int 5)) (.ite (.cmp .Eq (.loc 5) (.con (.str (Str.ofString "C")))) (.con (.int 1)) (.con (.int 2)))),(.con (.int 0)),(.neg (.con (.int 1))),(.ite (.cmp .Eq (.loc 5) (.con (.str (Str.ofString "E")))) (.tup []) (.tup [(.con (.str (Str.ofString "T")))]))]))]::xs) Z O Q E:=by
 refine D0 ?_
 simp only[WX,rC]
 have dA:∀O:a7,u6 (.str ⟨Jy.toArray⟩) O (Jy.map one):=by
  intro O
  refine⟨by decide +kernel,?_⟩
  simp[one]
 refine⟨_,dA O,by simp[Jy],?_⟩
 refine s9 (λdone left i7 b7=>(∀i,i < 5→i7 i=Z i)∧∃j,j≤7∧left=(Jy.map one).drop j∧∃T1 Rf,J5 H K T1 Rf Fs d nu at_ B b7∧J4 K T1 f na b7∧¬SF H Rf na∧Gr T T1 j∧Rf.length=j∧(Rf.map λt=>(t.sort,t.np))=Vk.take j∧(∀t∈Rf,t.v8=[])∧(∀l,b7 H.nm=some (.dict l)→l.length≤j))
  (λ_ _ _=>False) (λ_ _ _ _ _=>dA _) ?_ _ [] _ _ _ ⟨λ_ _=>rfl,0,by omega,rfl,T,[],L,u,hsn,.refl _ _,rfl,rfl,by simp,λl e=>by rw[gM] at e; cases e; simp⟩ ?_ (λ_ _ _ h=>h.elim)
 ·rintro done x left i7 t9 R ⟨E0,j,hj7,el,T1,Rf,L1,u1,Th,g1,hlen,lW,hfi,hnz⟩ hnext _ _
  have hj:j < 7:=by
   have:=congrArg List.length el
   simp[Jy] at this; omega
  have hjW:j < Jy.length:=hj
  rw[List.drop_eq_getElem_cons (by simpa using hjW)] at el
  simp only[List.cons.injEq,List.getElem_map] at el
  obtain⟨rfl,rfl⟩:=el
  have hg1:=g1.2
  simp only[J7]
  have p3:b6 i7 5 (one Jy[j]) 3=some (.ref H.st):=by simp[b6,E0 3 (by omega),r3]
  have p5:b6 i7 5 (one Jy[j]) 5=some (one Jy[j]):=by simp[b6]
  have hi:∀i,i < 5→b6 i7 5 (one Jy[j]) i=Z i:=λi hi=>by simp[b6,show i≠5 by omega,E0 i hi]
  generalize b6 i7 5 (one Jy[j])=Qj at p3 p5 hi
  have lt:=lU hj
  have call:∀(sort np:Nat) (pl:List V),Vk[j]?=some (sort,np)→pl.length=np→(sort=1∨sort=2∨sort=5)→l8 c n (.fix (.ref 349)) [.ref H.st,.int 0,one Jy[j],vi sort,.int 0,.int (-1),.tup pl] t9 (λv O=>o9 c n [] Qj O R E) E:=by
   intro sort np pl hs hpl rE
   have a5t:np≤1:=by
    have key:∀p∈Vk,p.2≤1:=by decide
    exact key _ (List.mem_of_getElem? hs)
   refine Xm N L1.k L1.s rE (by omega) (by have:one Jy[j]=V.str ⟨#[Jy[j]]⟩:=rfl; simp[PyData.strOk]; omega) (by omega) (λl e=>by have:=hnz l e; omega) (by omega) (by omega) λv T2 ti t8 g2 k2 s2 hso hnp lX hfr hsame xJ=>?_
   obtain⟨nl,hnl,_⟩:=L1.s.Xd
   have pl2:Plain (λb=>K.F b∨b=H.ty∨b=H.nm) t9:=by
    rintro b (hb | rfl | rfl)
    ·exact L1.k.plain b hb
    ·exact .inl ⟨_,L1.s.types⟩
    ·exact .inr ⟨_,hnl⟩
   have hout:∀b o,t9 b=some o→¬SF H Rf b→¬SF H (Rf++[ti]) b:=by
    rintro b o e hb (h | h | h | ⟨t,ht,h⟩)
    ·exact hb (.inl h)
    ·exact hb (.inr (.inl h))
    ·exact hb (.inr (.inr (.inl h)))
    ·rcases List.mem_append.mp ht with ht | ht
     ·exact hb (.inr (.inr (.inr ⟨t,ht,h⟩)))
     ·simp at ht; subst ht
      rcases h with h | h
      ·exact(hfr b o e).1 h
      ·exact(hfr b o e).2 h
   have hnot:∀b,¬K.F b→¬SF H Rf b→¬(K.F b∨b=H.ty∨b=H.nm):=by
    rintro b h1 h2 (h | h | h)
    ·exact h1 h
    ·exact h2 (.inl h)
    ·exact h2 (.inr (.inr (.inl h)))
   obtain⟨ip,_,eat⟩:=L1.dr.pos
   obtain⟨ns,_,_,_,nA⟩:=L1.dr.nums
   have L2:J5 H K T2 (Rf++[ti]) Fs d nu at_ B t8:=⟨k2,s2,L1.y.same hsame pl2,L1.dr.same hsame (hnot _ L1.su.1 L1.su.2) (hnot _ L1.sa.1 L1.sa.2),⟨L1.sa.1,hout _ _ eat L1.sa.2⟩,⟨L1.su.1,hout _ _ nA L1.su.2⟩⟩
   have xK:¬(K.F na∨na=H.ty∨na=H.nm):=hnot na u1.Im Th
   have u2:J4 K T2 f na t8:=by
    refine⟨k2,?_,u1.ne,λp hp=>⟨g2.mem (u1.all p hp).1,(u1.all p hp).2⟩,u1.keys,u1.clo⟩
    have:=hsame _ _ xK u1.nd
    unfold D7
    rw[this]
    congr 2
    exact List.map_congr_left λp hp=>by simp only[g2.idx (u1.all p hp).1]
   refine o7 (hnext _ _ ⟨hi,j+1,by omega,rfl,T2,Rf++[ti],L2,u2,hout _ _ u1.nd Th,(g1.trans g2),by simp[hlen],?_,?_,λl e=>?_⟩)
   ·have hjl:j < Vk.length:=hj
    rw[List.map_append,lW,List.take_succ_eq_append_getElem hjl]
    congr 1
    rw[List.getElem?_eq_getElem hjl] at hs
    rw[Option.some.inj hs]
    simp[hso,hnp,hpl]
   ·intro t ht
    rcases List.mem_append.mp ht with ht | ht
    ·exact hfi t ht
    ·simp at ht; subst ht; exact lX
   ·have:=xJ nl l hnl e
    have:=hnz nl hnl
    omega
  refine z6 ?_
  simp only[WX,j0,p3,p5,oI,eL]
  have hsa:=lV hj
  refine U0 tF lt (by omega) p5 ?_
  rw[gL hj]
  refine⟨λe=>?_,λe=>?_⟩
  ·have gG:j=5:=by simpa using e
   rw[if_pos gG] at hsa
   refine⟨1,rfl,U0 tF lt (by omega) p5 ?_⟩
   rw[gL hj]
   refine⟨λ_=>?_,λe2=>(by rw[e] at e2; cases e2)⟩
   exact call 5 0 [] hsa rfl (by omega)
  ·have gG:j≠5:=by simpa using e
   rw[if_neg gG] at hsa
   refine U0 w_C lt (by omega) p5 ?_
   rw[xI hj]
   refine⟨λe6=>?_,λe6=>?_⟩
   ·have xL:j=6:=by simpa using e6
    rw[if_pos xL] at hsa
    refine⟨1,rfl,U0 tF lt (by omega) p5 ?_⟩
    rw[gL hj]
    refine⟨λe2=>(by rw[e] at e2; cases e2),λ_=>?_⟩
    exact call 1 1 [_] hsa rfl (by omega)
   ·have xL:j≠6:=by simpa using e6
    rw[if_neg xL] at hsa
    refine⟨1,rfl,U0 tF lt (by omega) p5 ?_⟩
    rw[gL hj]
    refine⟨λe2=>(by rw[e] at e2; cases e2),λ_=>?_⟩
    exact call 2 1 [_] hsa rfl (by omega)
 ·rintro i7 t9 ⟨E0,j,hj7,el,T1,Rf,L1,u1,Th,g1,hlen,lW,hfi,hnz⟩
  have:j=7:=by
   have:=congrArg List.length el
   simp[Jy] at this; omega
  subst this
  exact q i7 t9 T1 Rf E0 L1 u1 Th g1 lW hfi
theorem Xw(N:j7 c) (SM:R8) (L:J5 H K T [] [] d nu at_ B O) (gM:O H.nm=some (.dict [])) (hB:B+400≤1000000) (hz:T.length < 20000){n:Nat}(hn:70≤n) (q:∀b7,Q (.bool true) b7):l8 c n (.fix (.ref 631)) [.ref d,.ref nu,.ref at_] O Q E:=by
 obtain⟨n,rfl⟩:∃m,n=m+1:=⟨n - 1,by omega⟩
 refine N.fn N.C.Bv rfl rfl ?_
 refine i6 ?_
 simp only[WX,d8,gZ,oI,eL]
 refine L.y.store N ?_
 refine i6 (H7 λna hna=>?_)
 have s1:b8 (λ_=>False) O (i8 O na (.dict [])):=b8.new hna
 have e1:i8 O na (.dict []) na=some (.dict []):=b9 _ _ _
 have rF:=s1 _ _ id gM
 have hne:na≠H.nm:=by rintro rfl; rw[gM] at hna; cases hna
 have lY:¬K.F na:=λhF=>by rcases L.k.plain na hF with⟨l,e⟩ | ⟨l,e⟩<;>rw[hna] at e<;>cases e
 have hsn:¬SF H [] na:=by
  rintro(rfl | rfl | rfl | ⟨t,ht,_⟩)
  ·rw[L.s.types] at hna; cases hna
  ·rw[L.s.fields] at hna; cases hna
  ·exact hne rfl
  ·cases ht
 generalize i8 O na (.dict [])=t9 at s1 e1 rF
 have L1:=L.new s1
 have u1:J4 K T [] na t9:=⟨L1.k,by unfold D7; simpa using e1,λh=>lY (.inr (.inl h)),by simp,by simp,by simp⟩
 refine cZ N L1 u1 hsn rF hne hz (by omega) (by simp[b6]) λZ t8 T2 Ts E0 L2 u2 xM g2 lW lX=>?_
 have r0:Z 0=some (.ref d):=by rw[E0 0 (by omega)]; simp[b6,d8]
 have r1:Z 1=some (.ref nu):=by rw[E0 1 (by omega)]; simp[b6,d8]
 have r2:Z 2=some (.ref at_):=by rw[E0 2 (by omega)]; simp[b6,d8]
 have r3:Z 3=some (.ref H.st):=by rw[E0 3 (by omega)]; simp[b6,d8]
 have r4:Z 4=some (.ref na):=by rw[E0 4 (by omega)]; simp[b6]
 have hTl:Ts.length=7:=by have:=congrArg List.length lW; simpa[Vk] using this
 have ty0:∀j,j < 7→Tc Ts [] j []:=by
  intro j hj
  have hjl:j < Ts.length:=by omega
  exact⟨Ts[j],List.getElem?_eq_getElem hjl,by rw[lX _ (List.getElem_mem hjl)]; rfl⟩
 have hg2:=g2.2
 refine i6 ?_
 simp only[WX,j0,r1,r2,r3,r4,oI,eL]
 refine Xt N L2 u2 xM ty0 (by omega) (by omega) (by simp) (by omega) λD la fa A4 T3 f3 nB Fs3 L3 u3 xN g3 xO rG dB tH hok hD4 Td cO=>?_
 obtain⟨m,met,hm,hls,M⟩:=SM nB Fs3 D (by rw[dB,lW]) xO rG hok hD4
 have hg3:=g3.2
 have oF:¬CF K na fa∧∀j,j < 5→¬CF K na (la j):=⟨λh=>h.elim Td.1 Td.2.1,λj hj h=>h.elim (cO j hj).1 (cO j hj).2.1⟩
 refine Xu N tH M.st M.few hm hls (by omega) (Z:=b6 Z 6 (.ref fa)) (by simp[b6]) λi7 x9 mt F8 r7 emt hST mR s4 kP=>?_
 have L4:=L3.new s4
 have u4:=u3.same s4
 have xH:=tH.same s4 id λ_ _=>id
 have h0:0 < nB.length:=by have:=congrArg List.length dB; simp at this; omega
 have hTs:nB[0]?=some nB[0]:=List.getElem?_eq_getElem h0
 have gN:(nB.map λt=>(t.sort,t.np))[0]?=some (2,1):=by rw[dB,lW]; rfl
 rw[List.getElem?_map,hTs] at gN
 simp only[Option.map_some,oI,Prod.mk.injEq] at gN
 refine cY N M hST mR L4 u4 xN xH oF emt (L3.Cd u3 kP) (by omega) (ti:=nB[0]) (by unfold D9; rw[if_neg (by omega)]; exact hTs) gN.1 gN.2 (by omega) (by omega) ?_ ?_ ?_ ?_ r7 q
 ·rw[F8 0 (by omega)]; simp[b6,r0]
 ·rw[F8 3 (by omega)]; simp[b6,r3]
 ·rw[F8 4 (by omega)]; simp[b6,r4]
 ·rw[F8 6 (by omega)]; simp[b6]
end
section
variable {prog:Program}{w:World}{A:Around}{E:Value→Shared→Prop}{s:Shared}{d it:Addr}{es:Array DictEntry}{ep i:Nat}
theorem Xx(hh:A.handled=none) (I:Addr) (hne:d≠I):Walks prog w A I [I,d] [I] es.size (λi v=>∃e,es[i]?=some e∧v=e.key) (λi h=>h.IsKeyIter I d i es.size ep∧RD h d es ep) where
 sub:=λb hb=>by simp at hb; simp[hb]
 frame:=λ_ _ _ st hk=>⟨st.1.at λo e=>hk I (by simp) o e,st.2.keep λo e=>hk d (by simp) o e⟩
 item:=λi s Q E hi st hQ=>Oj st.1 st.2 (Array.getElem?_eq_getElem hi) λh' hit' hs'=>hQ _ h' s.toks ⟨_,Array.getElem?_eq_getElem hi,rfl⟩ ⟨hit',st.2.keep λo e=>hs'.extBut d o hne e⟩ λb o hb e=>hs'.extBut b o (λh=>hb (by simp[h])) e
 done:=λs Q E st hQ=>Ud hh st.1 st.2 (by simp) λh' he'=>hQ h' s.toks λb o hb e=>he' b o (λh=>hb (by simp[h])) e
 self:=λ_ _ _ _ st hQ=>wpAny_pyIter_keyiter st.1 hQ
theorem gO(lo:(d == sysModules)=false):KdlSrc prog w "dict" d d es.size (λi v=>∃e,es[i]?=some e∧v=e.key) (λh=>RD h d es ep) where
 type:=λ_ hm=>hm.typeIs
 there:=λ_ hm=>let ⟨_,ho,_⟩:=hm; ⟨Heap.lt_size ho,Heap.lt_size ho⟩
 keep:=λ_ _ hm hk=>hm.keep λo e=>hk d (.inl rfl) o e
 notList:=by decide
 notTuple:=by decide
 hint:=λ_ _ _ _ hm hq=>kdl_hint_dict hm.typeIs hq
 iter:=λ_ s hh hm=>⟨_,_,(λ_ _ hq=>Oi lo hm hq),Xx hh _ (Nat.ne_of_lt (let ⟨_,ho,_⟩:=hm; Heap.lt_size ho)),⟨⟨_,Heap.get?_push_size _ rfl,rfl,rfl⟩,hm.keep λo e=>Heap.get?_push_of_some _ e⟩⟩
end
section
variable {prog:Program}{w:World}{A:Around}{E:Value→Shared→Prop}{s:Shared}
theorem Ge{d:Addr}{es:Array DictEntry}{ep:Nat}{Q:Value→Shared→Prop}(lo:(d == sysModules)=false) (hR:RD s.heap d es ep) (hh:A.handled=none) (hz:es.size < 64)
  (h:∀(D:Addr) (h':Heap) (tk:Nat) (vs:List Value),(∀b o,s.heap.get? b=some o→h'.get? b=some o)→(∀b o,s.heap.get? b=some o→b < D)→h'.get? D=some (seqObj "list" vs.toArray 0)→vs=es.toList.map (·.key) →
   wpAny (model prog w) A.in1.in1 (Builtin.«list.sort» ⟨[.ref D],[]⟩) (λfin s'=>fin=.done (.ret .none)∧Q (.ref D) s') E {s with heap:=h',toks:=tk}) :
  wpAny (model prog w) A (call (.builtin "sorted") [.ref d]) Q E s:=by
 refine Calls.call_function_entry kind_sorted plain_sorted entry_sorted (args_sorted1 _) ?_
 unfold Builtin.«sorted»
 refine wpAny_bind (m:=checkCount "sorted" 1 1 _) (wpAny_pure ?_)
 refine wpAny_bind (kdu_collect (A:=A.in1) (gO lo) hh hR (by rw[sizeLine_eq]; omega) λh' tk acc hk hacc=>?_)
 refine wpAny_bind (wpAny_newList ?_ (by rw[sizeLine_eq,Array.length_toList,hacc.1]; omega))
 have hoL:(h'.push (seqObj "list" acc.toList.toArray 0)).get? h'.objs.size=some (seqObj "list" acc.toList.toArray 0):=Heap.get?_push_size _ rfl
 have hab:Above s.heap h'.objs.size:=by
  unfold Above
  cases e:s.heap.get? h'.objs.size with
  | none=>rfl
  | some o=>exact absurd (Heap.lt_size (hk _ _ e)) (Nat.lt_irrefl _)
 have hv:acc.toList=es.toList.map (·.key):=by
  apply List.ext_getElem?
  intro j
  rw[Array.getElem?_toList,List.getElem?_map,Array.getElem?_toList]
  cases e:acc[j]? with
  | none =>
   have h1:=Array.getElem?_eq_none_iff.mp e
   rw[Array.getElem?_eq_none (by have:=hacc.1; omega)]; rfl
  | some v =>
   obtain⟨en,h1,h2⟩:=hacc.2 j v e
   rw[h1,h2]; rfl
 refine wpAny_bind (wpAny_holding (wpAny_call_entry slot_list_sort ⟨_,hoL,rfl⟩ entry_list_sort ?_ (args_list_sort _)))
 refine wpAny_mono (h h'.objs.size (h'.push (seqObj "list" acc.toList.toArray 0)) tk acc.toList (λb o e=>Heap.get?_push_of_some _ (hk b o e)) (λb o e=>Heap.lt_size (hk b o e)) hoL hv) (λfin s' ⟨e,q⟩=>?_) λ_ _ e=>e
 subst e
 exact⟨_,rfl,wpAny_pure ⟨_,rfl,q⟩⟩
def rH(out vs:List Value):Prop:=out.length=vs.length∧∀v∈out,v∈vs
def Ce(n:Nat) (P:Array Nat→Bool):KasT (Array Nat)→Bool
 | .ret a=>P a
 | .ask i j k=>decide (i < n) && decide (j < n) && Ce n P (k true) && Ce n P (k false)
theorem Cf{n:Nat}{P:Array Nat→Bool}{cmp:Nat→Nat→(Bool→Shared→Prop)→Shared→Prop}{s:Shared}(hc:∀i j C,i < n→j < n→(∀b,C b s)→cmp i j C s):∀(T:KasT (Array Nat)),Ce n P T=true→T.kasWp cmp (λa s'=>P a=true∧s'=s) s
 | .ret a,h=>⟨h,rfl⟩
 | .ask i j k,h=>by
  simp only[Ce,Bool.and_eq_true,decide_eq_true_eq] at h
  refine hc i j _ h.1.1.1 h.1.1.2 λb=>?_
  cases b
  ·exact Cf hc (k false) h.2
  ·exact Cf hc (k true) h.1.2
def Jz(n:Nat) (p:Array Nat):Bool:=decide (p.size=n) && p.toList.all λi=>decide (i < n)
theorem xP:Ce 2 (Jz 2) (kas_sort 2)=true:=by decide +kernel
theorem xQ:Ce 3 (Jz 3) (kas_sort 3)=true:=by decide +kernel
def R9(h:Heap) (v:Value):Prop:=∃a o k t n,v=.ref a∧h.get? a=some o∧o.cls=.type "tuple"∧o.data=.seq #[.str ⟨#[k]⟩ t] n
theorem gP{x y:Value}(hx:R9 s.heap x) (hy:R9 s.heap y){Q:Bool→Shared→Prop}(h:∀b,Q b s):wpAny (model prog w) A (keyLt' (tuples' true) x y) Q E s:=by
 obtain⟨a,o,k,t,n,rfl,ho,hc,hd⟩:=hx
 obtain⟨b,o',k',t',n',rfl,ho',hc',hd'⟩:=hy
 refine kat_lt ho hd ho' hd' (kat_cons ?_)
 refine(PySem.strKind prog w).eqBool (a:=⟨#[k]⟩) (b:=⟨#[k']⟩) (by simp[PySem.strKind,Value.isStrOf]) (by simp[PySem.strKind,Value.isStrOf]) ?_
 refine kat_go (λ_=>kat_yes (kat_nil (h _))) (λ_=>kat_no ?_)
 exact oneLt_str (h _)
end
section
variable {prog:Program}{w:World}{A:Around}{E:Value→Shared→Prop}{s:Shared}
theorem Vl{h:Heap}:∀(vs:List Value),(∀v∈vs,R9 h v)→∃fs,KatTups h vs fs∧fs.length=vs.length∧∀f∈fs,∃x t,f=.str x t
 | [],_=>⟨[],.nil,rfl,by simp⟩
 | v::vs,hv=>by
  obtain⟨a,o,k,t,n,rfl,ho,hc,hd⟩:=hv v (.head _)
  obtain⟨fs,h1,h2,h3⟩:=Vl vs λx hx=>hv x (.tail _ hx)
  refine⟨.str ⟨#[k]⟩ t::fs,.cons ho hc hd rfl h1,by simp[h2],λf hf=>?_⟩
  rcases List.mem_cons.mp hf with rfl | hf
  ·exact⟨_,_,rfl⟩
  ·exact h3 f hf
theorem R9.keep{h h':Heap}{v:Value}(x:R9 h v) (k:∀b o,v=.ref b→h.get? b=some o→h'.get? b=some o):R9 h' v:=by
 obtain⟨a,o,l,t,n,rfl,ho,r⟩:=x
 exact⟨a,o,l,t,n,rfl,k a o rfl ho,r⟩
theorem Xy{a:Addr}{vs:List Value}{n:Nat}{P:PySem.Fin→Shared→Prop}(ho:s.heap.get? a=some (seqObj "list" vs.toArray n)) (hv:∀v∈vs,R9 s.heap v) (h3:vs.length≤3)
  (h:∀out:Array Value,rH out.toList vs→P (.done (.ret .none)) {s with heap:=sortedHeap s.heap a vs out}) :
  wpAny (model prog w) A (Builtin.«list.sort» ⟨[.ref a],[]⟩) P E s:=by
 have ha:a < s.heap.objs.size:=Heap.lt_size ho
 rw[list_sort_plain]
 refine wpAny_bind (listItems_at ho rfl ?_)
 refine wpAny_bind (listUpdate_at ho rfl ?_ (by rw[List.size_toArray,sizeLine_eq]; omega) (Nat.zero_le _))
 obtain⟨e1,ho1⟩:∃e1,(s.heap.update a (Obj.mapSeq λ_=>#[])).get? a=some (seqObj "list" #[] e1):=⟨_,get?_update_seq ho (λ_=>#[])⟩
 refine wpAny_bind (seqEpoch_at ho1 rfl ?_)
 refine wpAny_bind (wpAny_newTuple ?_ (by show vs.length≤_; rw[sizeLine_eq]; omega))
 refine wpAny_bind (wpAny_newList ?_ (Nat.zero_le _))
 refine wpAny_holding ?_
 have rI:∀b,b≠a→b < s.heap.objs.size→(((s.heap.update a (Obj.mapSeq λ_=>#[])).push (seqObj "tuple" vs.toArray 0)).push (seqObj "list" #[] 0)).get? b=s.heap.get? b:=λb hb hlt=>by
  rw[Heap.get?_push_ne _ _ _ (by rw[size_push',Heap.size_update]; exact Nat.ne_of_lt (Nat.lt_succ_of_lt hlt)),Heap.get?_push_ne _ _ _ (by rw[Heap.size_update]; exact Nat.ne_of_lt hlt),Heap.get?_update_ne _ _ _ _ hb]
 have ho6:(((s.heap.update a (Obj.mapSeq λ_=>#[])).push (seqObj "tuple" vs.toArray 0)).push (seqObj "list" #[] 0)).get? a=some (seqObj "list" #[] e1):=by
  rw[Heap.get?_push_ne _ _ _ (by rw[size_push',Heap.size_update]; exact Nat.ne_of_lt (Nat.lt_succ_of_lt ha)),Heap.get?_push_ne _ _ _ (by rw[Heap.size_update]; exact Nat.ne_of_lt ha)]
  exact ho1
 have xR:∀v∈vs,R9 (((s.heap.update a (Obj.mapSeq λ_=>#[])).push (seqObj "tuple" vs.toArray 0)).push (seqObj "list" #[] 0)) v:=λv hm=>by
  have x:=hv v hm
  refine x.keep λb o e hb=>?_
  rw[rI b (λq=>?_) (Heap.lt_size hb)]; exact hb
  obtain⟨a',o',k,t,n',e',ho',hc',hd'⟩:=x
  rw[e] at e'; cases e'
  rw[q,ho] at ho'; cases ho'
  exact absurd hc' (by simp)
 show wpAny (model prog w) A _ P E {s with heap:=((s.heap.update a (Obj.mapSeq λ_=>#[])).push (seqObj "tuple" vs.toArray 0)).push (seqObj "list" #[] 0)}
 dsimp only
 have hsz:vs.toArray.size=vs.length:=by simp
 by_cases h2:vs.toArray.size < 2
 ·rw[if_pos h2,if_pos h2]
  refine wpAny_bind (wpAny_pure ?_)
  rw[StateT.run_pure]
  refine wpAny_bind (wpAny_pure ?_)
  dsimp only
  have hout:(arrOf (SortSt.mk' general' (vs.toArray.zip vs.toArray) #[] 7 none)).map (·.2)=vs.toArray:=by
   show(vs.toArray.zip vs.toArray).map (·.2)=vs.toArray
   apply Array.toList_inj.mp
   simp[List.map_snd_zip]
  rw[hout]
  refine wpAny_bind (seqEpoch_at ho6 rfl ?_)
  refine wpAny_bind (listUpdate_at ho6 rfl ?_ (Nat.zero_le _) (by show vs.toArray.size≤_; rw[hsz,sizeLine_eq]; omega))
  simp only[bne_self_eq_false,Bool.false_eq_true,if_false]
  exact wpAny_pure (h vs.toArray ⟨by simp,by simp⟩)
 ·rw[if_neg h2,if_neg h2]
  have hl2:2≤vs.length:=by omega
  obtain⟨fs,hk,hfl,hfs⟩:=Vl vs xR
  refine wpAny_bind (kat_kind (T:=.type "str") hk (by omega) (λv hm=>by obtain⟨x,t,rfl⟩:=hfs v hm; exact .now) rfl ?_)
  have hb:(Value.type "str" != Value.type "tuple")=true:=by rfl
  rw[hb]
  have hrun:(kas_sort vs.length).kasWp (kas_ask prog w A (tuples' true) vs) (λp s''=>Jz vs.length p=true∧s''={s with heap:=((s.heap.update a (Obj.mapSeq λ_=>#[])).push (seqObj "tuple" vs.toArray 0)).push (seqObj "list" #[] 0)}) {s with heap:=((s.heap.update a (Obj.mapSeq λ_=>#[])).push (seqObj "tuple" vs.toArray 0)).push (seqObj "list" #[] 0)}:=by
   refine Cf (n:=vs.length) (P:=Jz vs.length) (λi j C hi hj hC=>?_) _ ?_
   ·unfold kas_ask
    refine gP (xR _ ?_) (xR _ ?_) hC
    ·rw[List.getD_eq_getElem?_getD,List.getElem?_eq_getElem hi]; exact List.getElem_mem hi
    ·rw[List.getD_eq_getElem?_getD,List.getElem?_eq_getElem hj]; exact List.getElem_mem hj
   ·have:vs.length=2∨vs.length=3:=by omega
    rcases this with e | e<;>rw[e]
    ·exact xP
    ·exact xQ
  refine wpAny_bind (wpAny_mono (kat_run (Q:=λst' s'=>∃p:Array Nat,arrOf st'=p.map (kas_item (vs.toArray.zip vs.toArray))∧failedOf st'=none∧Jz vs.length p=true∧s'={s with heap:=((s.heap.update a (Obj.mapSeq λ_=>#[])).push (seqObj "tuple" vs.toArray 0)).push (seqObj "list" #[] 0)})
   rfl hl2 (by omega) (λp' st' s' a1 a2 a3 a4=>⟨p',a2,a3,a4.1,a4.2⟩) hrun) ?_ λ_ _ e=>e)
  rintro⟨⟨⟩,st'⟩ s' ⟨p,har,hf,hp,rfl⟩
  dsimp only
  have hout:=kat_snds rfl har
  rw[hout]
  simp only[Jz,Bool.and_eq_true,decide_eq_true_eq,List.all_eq_true] at hp
  have hsz2:(List.toArray (p.toList.map λi=>vs.getD i Value.none)).size=vs.length:=by rw[List.size_toArray,List.length_map,Array.length_toList,hp.1]
  refine wpAny_bind (seqEpoch_at ho6 rfl ?_)
  refine wpAny_bind (listUpdate_at ho6 rfl ?_ (Nat.zero_le _) (by rw[hsz2,sizeLine_eq]; omega))
  rw[hf]
  simp only[bne_self_eq_false,Bool.false_eq_true,if_false]
  refine wpAny_pure (h _ ⟨by simp[hp.1],λv hm=>?_⟩)
  simp only[List.mem_map] at hm
  obtain⟨i,hi,rfl⟩:=hm
  have:=hp.2 i hi
  rw[List.getD_eq_getElem?_getD,List.getElem?_eq_getElem this]; exact List.getElem_mem this
end
section
variable {c:Cx}{n:Nat}{O:a7}{Q:V→a7→Prop}{E:a7→Prop}
theorem dC:∀{vs:List Value}{ns:List Int},vs.length=ns.length→(∀(j:Nat) (v:Value) (i:Int),vs[j]?=some v→ns[j]?=some i→∃t,v=.int i t)→IntsAre vs ns
 | [],[],_,_=>.nil
 | [],_::_,h,_=>by simp at h
 | _::_,[],h,_=>by simp at h
 | v::vs,i::ns,h,hj=>by
  obtain⟨t,rfl⟩:=hj 0 v i rfl rfl
  exact .cons i t (dC (by simpa using h) λj v' i' e1 e2=>hj (j+1) v' i' (by simpa using e1) (by simpa using e2))
theorem Gf{h:Heap}:∀{vs:List Value}{ns:List Int},IntsAre vs ns→j9 h (ns.map V.int) vs
 | _,_,.nil=>.nil
 | _,_,.cons n t r=>.cons (.int n t) (Gf r)
theorem Rel.dead{s:Shared}(r:Rel c O s.heap){D:Addr}(h:∀b o,s.heap.get? b=some o→b < D):Above s.heap D∧O D=none∧2 < D:=by
 have hab:Above s.heap D:=by
  unfold Above
  cases e:s.heap.get? D with
  | none=>rfl
  | some o=>exact absurd (h _ _ e) (Nat.lt_irrefl _)
 refine⟨hab,?_,?_⟩
 ·cases e:O D with
  | none=>rfl
  | some o' =>
   obtain⟨ob,ho,_⟩:=(r.3 D o' e).2.shape
   exact hab.not ho
 ·obtain⟨b,h1,o,h2⟩:=r.2
  exact Nat.lt_trans h1 (h _ _ (r.1 b o h2))
theorem Da{s:Shared}(r:Rel c O s.heap){D:Addr}{h':Heap}{tk:Nat}{vs:List Value}{out:Array Value}{ks:List V}(hk:∀b o,s.heap.get? b=some o→h'.get? b=some o) (hlt:∀b o,s.heap.get? b=some o→b < D) (hD:h'.get? D=some (seqObj "list" vs.toArray 0))
  (hr:∀h2:Heap,(∀b o,s.heap.get? b=some o→h2.get? b=some o)→j9 h2 ks out.toList) (q:Q (.ref D) (i8 O D (.list ks))):QE c O s Q (.ref D) {s with heap:=sortedHeap h' D vs out,toks:=tk}:=by
 obtain⟨hab,hn,h2⟩:=r.dead hlt
 have key:∀b o,s.heap.get? b=some o→(sortedHeap h' D vs out).get? b=some o:=λb o e=>by
  rw[sortedHeap_old (Nat.ne_of_lt (hlt b o e)) (Heap.lt_size (hk b o e))]; exact hk b o e
 obtain⟨e,he⟩:=sortedHeap_at (out:=out) hD
 have p:=(j6.grow (F:=λ_=>False) (tk:=tk) r key).adopt (o:=.list ks) h2 hab (x5 r hab) hn ⟨out,⟨e,he⟩,hr _ key⟩
 exact⟨.ref D,_,p,.ref D,q⟩
theorem Ms{a:Addr}{l:List (V×V)}(hl:O a=some (.dict l)) (hk:∀p∈l,∃i,p.1=.int i) (h64:l.length < 64) (q:∀r ks,O r=none→ks.Perm (l.map (·.1))→Q (.ref r) (i8 O r (.list ks))):l8 c n (.fix (.builtin "sorted")) [.ref a] O Q E:=by
 intro A s cf X5 o r hf hvs
 cases hf
 obtain⟨a',rfl,ra⟩:=O9 hvs
 cases ra
 have lo:=not_modules r hl
 have rd:Z0 c.prog c.w s.heap a l:=(r.3 _ _ hl).2
 obtain⟨kvs,hd,e1,e2⟩:=U3 rd hk
 obtain⟨ob,es,ep,ho,hx,hdat,hko,dD,hnd⟩:=hd
 have hlen:kvs.length=l.length:=by have:=congrArg List.length e1; simpa using this.symm
 have hes:es.size=kvs.length:=by rw[←dD.length]; simp
 refine Ge lo ⟨ob,ho,hx,hdat⟩ o.2.2.1 (by omega) λD h' tk vs hkk hlt hD hvs=>?_
 have hI:IntsAre vs (kvs.map (·.1)):=by
  refine dC (by rw[hvs]; simp[hes]) λj v i g1 g2=>?_
  rw[hvs,List.getElem?_map,Array.getElem?_toList] at g1
  rw[List.getElem?_map] at g2
  simp only[Option.map_eq_some_iff] at g1 g2
  obtain⟨en,h1,rfl⟩:=g1
  obtain⟨kv,h2,rfl⟩:=g2
  have:=(dD.get? (e:=en) (by rw[Array.getElem?_toList]; exact h1) h2).1
  exact Value.isInt_shape this
 refine list_sort_tree hD hI (by rw[hvs]; simp; omega) λout ns' a1 a2 a3=>⟨rfl,?_⟩
 refine Da r hkk hlt hD (λh2 _=>Gf a1) (q D _ (r.dead hlt).2.1 ?_)
 rw[e1]
 have:=a2.map V.int
 rwa [List.map_map] at this
theorem Ka{h:Heap}{K:List V}:∀(out:List Value),(∀v∈out,∃k∈K,Rep h k v)→∃ks,j9 h ks out∧(∀k∈ks,k∈K)∧ks.length=out.length
 | [],_=>⟨[],.nil,by simp,rfl⟩
 | v::out,hv=>by
  obtain⟨k,hk,rk⟩:=hv v (.head _)
  obtain⟨ks,h1,h2,h3⟩:=Ka out λx hx=>hv x (.tail _ hx)
  exact⟨k::ks,.cons rk h1,λx hx=>by rcases List.mem_cons.mp hx with rfl | hx; exact hk; exact h2 x hx,by simp[h3]⟩
theorem Mt{a:Addr}{l:List (V×V)}(hl:O a=some (.dict l)) (hk:∀p∈l,∃k,p.1=.tup [one k]) (h3:l.length≤3) (q:∀r ks,O r=none→(∀k∈ks,k∈l.map (·.1))→ks.length=l.length→Q (.ref r) (i8 O r (.list ks))):l8 c n (.fix (.builtin "sorted")) [.ref a] O Q E:=by
 intro A s cf X5 o r hf hvs
 cases hf
 obtain⟨a',rfl,ra⟩:=O9 hvs
 cases ra
 have lo:=not_modules r hl
 have rd:Z0 c.prog c.w s.heap a l:=(r.3 _ _ hl).2
 obtain⟨es,ep,hR,hes,hat⟩:=Ol rd λp hp=>by obtain⟨k,e⟩:=hk p hp; exact⟨_,e⟩
 refine Ge lo hR o.2.2.1 (by omega) λD h' tk vs hkk hlt hD hvs=>?_
 have hrep:∀v∈vs,∃k∈l.map (·.1),Rep s.heap k v:=λv hv=>by
  rw[hvs] at hv
  obtain⟨en,hen,rfl⟩:=List.mem_map.mp hv
  obtain⟨j,hj⟩:=List.mem_iff_getElem?.mp hen
  rw[Array.getElem?_toList] at hj
  obtain⟨p,hp,rp⟩:=hat j en hj
  exact⟨p.1,List.mem_map_of_mem (List.mem_of_getElem? hp),rp⟩
 have hlen:vs.length=l.length:=by rw[hvs]; simp[hes]
 have hone:∀v∈vs,R9 h' v:=λv hv=>by
  obtain⟨k,hk1,rk⟩:=hrep v hv
  obtain⟨p,hp,rfl⟩:=List.mem_map.mp hk1
  obtain⟨x,hx⟩:=hk p hp
  rw[hx] at rk
  cases rk with
  | @tup b _ items ht hrs =>
   obtain⟨i0,hi0,r0⟩:=O9 hrs
   cases r0 with
   | str _ t =>
    obtain⟨o',ho',hc',n',hd'⟩:=ht.isTuple
    refine⟨b,o',x,t,n',rfl,hkk _ _ ho',hc',?_⟩
    rw[hd']
    congr 1
    exact Array.toList_inj.mp (by rw[hi0])
 refine Xy hD hone (by omega) λout hout=>⟨rfl,?_⟩
 have rJ:∀v∈out.toList,∃k∈l.map (·.1),Rep s.heap k v:=λv hv=>hrep v (hout.2 v hv)
 obtain⟨ks,g1,g2,g3⟩:=Ka out.toList rJ
 refine Da r hkk hlt hD (λh2 hk2=>g1.mono λb o e _=>hk2 b o e) (q D ks (r.dead hlt).2.1 g2 ?_)
 rw[g3,hout.1,hlen]
end
def Tm.has:Tm→Tm→Bool
 | .leaf h,v=>decide (v=.leaf h)
 | .un h a,v=>decide (v=.un h a) || a.has v
 | .bin h a b,v=>decide (v=.bin h a b) || a.has v || b.has v
def W7:Prop:=∀a b,Y9 6 a→Y9 6 b→∀rest:Bd,(rest=[]∨∃z,Y9 2 z∧z.has tY=false∧rest=[(tY,z)])→∃M m res,M≤10000∧m≤150∧join M m ((a,b)::rest)=some res∧(∀boss,res=some boss→boss.length≤1000) ∧
 ∀x y,(x=a∧y=b∨x=b∧y=a)→∃r f',N5 110 rest x y=some (r,f')∧r=res.isSome∧∀boss,res=some boss→(∀p∈f',p.1.hd.isVar=true)∧f'.length=(boss.filter λp=>p.1.hd.isVar).length∧∀p∈(a,b)::rest,∃t,I9 170 f' p.1=some t∧I9 170 f' p.2=some t∧t.nest≤60
theorem Qp{α β:Type}{f:α→β}:∀{ks l':List β},ks.Perm l'→∀l:List α,l'=l.map f→∃m:List α,m.Perm l∧ks=m.map f:=by
 intro ks l' h
 induction h with
 | nil=>intro l e; exact⟨[],by cases l<;>simp at e ⊢,rfl⟩
 | cons x h ih =>
  intro l e
  cases l with
  | nil=>simp at e
  | cons y l =>
   simp only[List.map_cons,List.cons.injEq] at e
   obtain⟨m,h1,h2⟩:=ih l e.2
   exact⟨y::m,h1.cons y,by simp[h2,e.1]⟩
 | swap x y t =>
  intro l e
  match l,e with
  | a::b::l,e =>
   simp only[List.map_cons,List.cons.injEq] at e
   exact⟨b::a::l,.swap _ _ _,by simp[e.1,e.2.1,e.2.2]⟩
  | [a],e=>simp at e
  | [],e=>simp at e
 | trans h1 h2 ih1 ih2 =>
  intro l e
  obtain⟨m,g1,g2⟩:=ih2 l e
  obtain⟨m',k1,k2⟩:=ih1 m g2
  exact⟨m',k1.trans g1,k2⟩
theorem Gg{f f':Bd}{a b:Tm}{r:Bool}(h:W3 f a b=some (r,f')) (hn:f6 f a=none) (hk:(f.map (·.1)).Nodup):(f'.map (·.1)).Nodup:=by
 unfold W3 at h
 split at h
 ·split at h
  ·cases h
   have:=Bz (v:=b) (k:=a) hk
   rwa [Be hn] at this
  ·cases h
 ·cases h
theorem Dc{g:Bd→Tm→Tm→Option (Bool×Bd)}(hg:∀{f f':Bd}{a b:Tm}{r:Bool},g f a b=some (r,f')→(f.map (·.1)).Nodup→(f'.map (·.1)).Nodup) :
  ∀{as bs:List Tm}{f f':Bd}{r:Bool},E2 g f as bs=some (r,f')→(f.map (·.1)).Nodup→(f'.map (·.1)).Nodup
 | [],bs,f,f',r,h,hf=>by cases bs<;>simp only[E2,oI,Prod.mk.injEq] at h<;>obtain⟨_,rfl⟩:=h<;>exact hf
 | a::as,[],f,f',r,h,hf=>by simp only[E2,oI,Prod.mk.injEq] at h; obtain⟨_,rfl⟩:=h; exact hf
 | a::as,b::bs,f,f',r,h,hf=>by
  simp only[E2] at h
  split at h
  ·rename_i f1 h1
   exact Dc hg h (hg h1 hf)
  ·rename_i f1 h1
   cases h
   exact hg h1 hf
  ·cases h
theorem Gh:∀{n:Nat}{f f':Bd}{a b:Tm}{r:Bool},N5 n f a b=some (r,f')→(f.map (·.1)).Nodup→(f'.map (·.1)).Nodup
 | 0,f,f',a,b,r,h,_=>by cases h
 | n+1,f,f',a,b,r,h,hf=>by
  unfold N5 at h
  split at h
  ·rename_i a' b' kL kM
   split at h
   ·cases h; exact hf
   ·split at h
    ·exact Gg h (w6 kM) hf
    ·split at h
     ·exact Gg h (w6 kL) hf
     ·unfold By at h
      split at h
      ·cases h; exact hf
      ·split at h
       ·cases h; exact hf
       ·exact Dc (λh=>Gh h) h hf
  ·cases h
theorem S0{f:Bd}(hk:(f.map (·.1)).Nodup){p:Tm×Tm}(hp:p∈f):f6 f p.1=some p.2:=by
 induction f with
 | nil=>cases hp
 | cons q f ih =>
  simp only[List.map_cons,List.nodup_cons] at hk
  unfold f6
  rcases List.mem_cons.mp hp with rfl | hp
  ·simp
  ·rw[if_neg (λe=>hk.1 (by rw[e]; exact List.mem_map_of_mem hp))]
   exact ih hk.2 hp
theorem Ti{f g:Bd}(h:f.Perm g) (hk:(g.map (·.1)).Nodup) (x:Tm):f6 f x=f6 g x:=by
 have hkf:(f.map (·.1)).Nodup:=(h.map (·.1)).nodup_iff.mpr hk
 cases e:f6 f x with
 | some v=>exact(S0 hk (h.mem_iff.mp (j8 e))).symm
 | none =>
  cases e2:f6 g x with
  | none=>rfl
  | some v =>
   have:=S0 hkf (h.mem_iff.mpr (j8 e2))
   simp only at this
   rw[e] at this; cases this
theorem Ir{g g':Tm→Option Tm}{t:Tm}(h:∀a∈t.kids,g a=g' a):m6 g t=m6 g' t:=by
 cases t<;>simp[Tm.kids] at h<;>simp[m6,h]
theorem W8{f g:Bd}(h:∀x,f6 f x=f6 g x):∀(n:Nat) (t:Tm),I9 n f t=I9 n g t
 | 0,_=>rfl
 | n+1,t=>by
  unfold I9
  rw[h t]
  cases f6 g t with
  | some u=>exact W8 h n u
  | none=>exact Ir λa _=>W8 h n a
section
variable {c:Cx}{n:Nat}{O:a7}{K:I8}{T:List Tm}{Q:V→a7→Prop}{E:a7→Prop}{H:Hg}{Ts:List G2}{Fs:List P4}{d nu at_ na:Addr}{B:Nat}{f:Bd}
def C1(T:List Tm) (p:Tm×Tm):V:=.tup [vi (T.idxOf p.1),vi (T.idxOf p.2)]
def Named(f:Bd) (l:Bd):Prop:=∀p∈l,(f6 f p.1).isSome=true∧(f6 f p.2).isSome=true
theorem gQ(N:j7 c) (L:J5 H K T Ts Fs d nu at_ B O) (u:J4 K T f na O) (hsn:¬SF H Ts na){equal:Bd}{ea:Addr}(Rg:O ea=some (.list (equal.map pv))) (tJ:¬CF K na ea) (hE:∀p∈equal,Y9 6 p.1∧Y9 6 p.2) (hz2:equal.length≤2) (hz:T.length+500 < 100000){n:Nat}(hn:25≤n){Z:Loc}
  (r0:Z 0=some (.ref d)) (r5:Z 5=some (.ref ea)) (r7:Z 7=some (.ref na))
  (q:∀r T' f' b7,O r=none→b7 r=some (.list (equal.map (C1 T')))→Gr T T' 300→J5 H K T' Ts Fs d nu at_ B b7→J4 K T' f' na b7→Named f' equal→(∀b o,¬CF K na b→O b=some o→b7 b=some o)→Q (.ref r) b7) :
  WX c n (.comp (.tup [(.call (.con (.fix (.ref 548))) [(.attr (.loc 0) (Str.ofString "kt")),(.loc 7),(.loc 8)]),(.call (.con (.fix (.ref 548))) [(.attr (.loc 0) (Str.ofString "kt")),(.loc 7),(.loc 9)])]) (.two 8 9) (.loc 5) []) Z O Q E:=by
 simp only[WX,r5,oI,eL]
 have hit:∀b7:a7,b7 ea=some (.list (equal.map pv))→u6 (.ref ea) b7 (equal.map pv):=λb7 e=>by simp[u6,e]
 refine⟨_,hit _ Rg,by simp only[List.length_map]; omega,?_⟩
 refine C4 (λdone left acc b7=>b7 ea=some (.list (equal.map pv))∧∃(dk lk:Bd) (T1:List Tm) (f1:Bd),equal=dk++lk∧left=lk.map pv∧Gr T T1 (130 * dk.length)∧J5 H K T1 Ts Fs d nu at_ B b7∧J4 K T1 f1 na b7∧Named f1 dk∧(∀p∈dk,p.1∈T1∧p.2∈T1)∧(∀b o,¬CF K na b→O b=some o→b7 b=some o)∧acc=dk.map (C1 T1))
  (λ_ _ _ b7 hI=>hit b7 hI.1) ?_ _ [] [] _ _ ⟨Rg,[],equal,T,f,rfl,rfl,.refl _ _,L,u,(by intro p hp; cases hp),(by simp),λ_ _ _ e=>e,rfl⟩ ?_
 ·rintro done x left acc b7 R ⟨e1,dk,lk,T1,f1,ek,el,g1,L1,u1,hnm,hd,k1,xS⟩ hsome _
  cases lk with
  | nil=>simp at el
  | cons y lk =>
   simp only[List.map_cons,List.cons.injEq] at el
   obtain⟨rfl,rfl⟩:=el
   have hy:=hE y (by rw[ek]; simp)
   have hdl:dk.length+(lk.length+1)≤2:=by rw[ek] at hz2; simpa using hz2
   have w1:=hy.1.light (by omega)
   have w2:=hy.2.light (by omega)
   have hg:=g1.2
   simp only[pv,J7,M5,if_true,WX,j0,b6,r0,r7,oI,eL,show((0:Nat)=9)=False by simp,show((0:Nat)=8)=False by simp,show((7:Nat)=9)=False by simp,show((7:Nat)=8)=False by simp,show((8:Nat)=9)=False by simp,if_false]
   refine L1.y.kt N ?_
   refine R4 N 6 hy.1.2.2 hy.1.1 hy.1.2.1 (hy.1.fits (by omega)) u1 (by omega) (by omega) λT2 f2 t8 g2 u2 s2 hm2 x2 hs2=>?_
   have L2:=L1.kind u1 hsn g2 u2 s2
   have hg2:=g2.2
   refine L2.y.kt N ?_
   refine R4 N 6 hy.2.2.2 hy.2.1 hy.2.2.1 (hy.2.fits (by omega)) u2 (by omega) (by omega) λT3 f3 A4 g3 u3 s3 iU x3 hs3=>?_
   have L3:=L2.kind u2 hsn g3 u3 s3
   refine hsome _ _ ⟨s3 _ _ tJ (s2 _ _ tJ e1),dk++[y],lk,T3,f3,by simp[ek],rfl,((g1.trans g2).trans g3).mono (by simp; omega),L3,u3,?_,?_,λb o hb e=>s3 b o hb (s2 b o hb (k1 b o hb e)),?_⟩
   ·intro p hp
    rcases List.mem_append.mp hp with hp | hp
    ·exact⟨x3 _ (x2 _ (hnm p hp).1),x3 _ (x2 _ (hnm p hp).2)⟩
    ·simp at hp; subst hp; exact⟨x3 _ hs2,hs3⟩
   ·intro p hp
    rcases List.mem_append.mp hp with hp | hp
    ·exact⟨g3.mem (g2.mem (hd p hp).1),g3.mem (g2.mem (hd p hp).2)⟩
    ·simp at hp; subst hp; exact⟨g3.mem hm2,iU⟩
   ·rw[xS,List.map_append]
    congr 1
    ·exact List.map_congr_left λp hp=>by unfold C1; rw[g3.idx (g2.mem (hd p hp).1),g3.idx (g2.mem (hd p hp).2),g2.idx (hd p hp).1,g2.idx (hd p hp).2]
    ·simp only[List.map_cons,List.map_nil,C1]
     rw[g3.idx hm2]
 ·rintro acc b7 ⟨e1,dk,lk,T1,f1,ek,el,g1,L1,u1,hnm,hd,k1,xS⟩ r hr
  have:lk=[]:=by cases lk<;>simp at el ⊢
  subst this
  rw[List.append_nil] at ek
  have hdl:dk.length≤2:=by rw[←ek]; exact hz2
  have hr0:O r=none:=by
   cases e:O r with
   | none=>rfl
   | some o =>
    have:=k1 r o (L1.Cd u1 hr) e
    rw[hr] at this; cases this
  have s2:b8 (λ_=>False) b7 (i8 b7 r (.list acc)):=b8.new hr
  exact q r T1 f1 _ hr0 (by rw[b9,xS,ek]) (g1.mono (by omega)) (L1.new s2) (u1.same s2) (by rw[ek]; exact hnm) λb o hb e=>s2 b o id (k1 b o hb e)
theorem dE(N:j7 c) (u:J4 K T f na O){fa:Addr}{f':Bd}(hfa:D7 (λt=>vi (T.idxOf t)) (λt=>vi (T.idxOf t)) f' fa O) (hnm:Named f f') (hk:(f'.map (·.1)).Nodup) (hlt:∀p∈f',LT p.1) (hz:f'.length≤3){n:Nat}{Z:Loc}(r7:Z 7=some (.ref na)) (r13:Z 13=some (.ref fa)){xs:List S}{Q:Fl→Loc→a7→Prop}
  (q:∀i7 b7 sa g,(∀i,i < 14→i7 i=Z i)→i7 16=some (.ref sa)→D7 Tm.v Tm.v g sa b7→g.Perm f'→b8 (λ_=>False) O b7→o9 c n xs i7 b7 Q E) :
  o9 c n (.set 16 (.dct [])::.for (.one 14) (.call (.con (.fix (.builtin "sorted"))) [(.loc 13)]) [(.I0 (.loc 16) (.sub (.loc 7) (.loc 14)) (.sub (.loc 7) (.sub (.loc 13) (.loc 14))))]::xs) Z O Q E:=by
 have dF:∀{x:Tm},(f6 f x).isSome=true→x∈T∧f6 f x=some x:=fun {x} h=>by
  obtain⟨v,hv⟩:=Option.isSome_iff_exists.mp h
  have:=u.all _ (j8 hv)
  exact⟨this.1,by rw[hv,show v=x from this.2]⟩
 refine i6 (H7 λsa hsa=>?_)
 have s0:b8 (λ_=>False) O (i8 O sa (.dict [])):=b8.new hsa
 have e0:i8 O sa (.dict []) sa=some (.dict []):=b9 _ _ _
 generalize i8 O sa (.dict [])=H0 at s0 e0
 have xT:=s0 _ _ id hfa
 refine D0 ?_
 simp only[WX,j0,b6,r13,oI,eL,show((13:Nat)=16)=False by simp,if_false]
 refine Ms xT (λp hp=>?_) (by simp; omega) λr ks hr hperm=>?_
 ·obtain⟨x,hx,rfl⟩:=List.mem_map.mp hp
  exact⟨_,rfl⟩
 rw[List.map_map] at hperm
 obtain⟨g,hg,rfl⟩:=Qp hperm f' rfl
 have s1:b8 (λ_=>False) H0 (i8 H0 r (.list (g.map ((·.1) ∘ λp=>(vi (T.idxOf p.1),vi (T.idxOf p.2)))))):=b8.new hr
 have er:i8 H0 r (.list (g.map ((·.1) ∘ λp=>(vi (T.idxOf p.1),vi (T.idxOf p.2))))) r=some (.list (g.map λp=>vi (T.idxOf p.1))):=by rw[b9]; rfl
 have e1:=s1 _ _ id e0
 have Vd:=s0.trans s1
 have hrs:r≠sa:=(fresh_ne hr e0).symm
 generalize i8 H0 r (.list (g.map ((·.1) ∘ λp=>(vi (T.idxOf p.1),vi (T.idxOf p.2)))))=t9 at s1 er e1 Vd
 have rK:∀p∈g,p∈f':=λp hp=>hg.mem_iff.mp hp
 have hgk:(g.map (·.1)).Nodup:=(hg.map (·.1)).nodup_iff.mpr hk
 have lZ:g.length≤3:=by rw[hg.length_eq]; exact hz
 have hit:∀b7:a7,b7 r=some (.list (g.map λp=>vi (T.idxOf p.1)))→u6 (.ref r) b7 (g.map λp=>vi (T.idxOf p.1)):=λb7 e=>by simp[u6,e]
 have xU:∀p∈f',p.1∈T:=λp hp=>(dF (hnm p hp).1).1
 refine⟨_,hit _ er,by simp; omega,?_⟩
 refine s9 (λdone left i7 b7=>(∀i,i < 14→i7 i=Z i)∧i7 16=some (.ref sa)∧b7 r=some (.list (g.map λp=>vi (T.idxOf p.1)))∧b8 (λ_=>False) O b7∧∃dk lk:Bd,g=dk++lk∧left=lk.map (λp=>vi (T.idxOf p.1))∧D7 Tm.v Tm.v dk sa b7)
  (λ_ _ _=>False) (λ_ _ _ b7 hI=>hit b7 hI.2.2.1) ?_ _ [] _ _ _ ⟨λi hi=>by simp[b6,show i≠16 by omega],by simp[b6],er,Vd,[],g,rfl,rfl,by unfold D7; simpa using e1⟩ ?_ (λ_ _ _ h=>h.elim)
 ·rintro done x left i7 b7 R ⟨E0,r16,er',s,dk,lk,ek,el,hdk⟩ hnext _ _
  cases lk with
  | nil=>simp at el
  | cons p lk =>
   simp only[List.map_cons,List.cons.injEq] at el
   obtain⟨rfl,rfl⟩:=el
   have hp:p∈f':=rK p (by rw[ek]; simp)
   obtain⟨n1,n2⟩:=hnm p hp
   obtain⟨t1,l1⟩:=dF n1
   obtain⟨t2,l2⟩:=dF n2
   have hfa':D7 (λt=>vi (T.idxOf t)) (λt=>vi (T.idxOf t)) f' fa b7:=s _ _ id hfa
   have hnd':D7 (λt=>vi (T.idxOf t)) Tm.v f na b7:=s _ _ id u.nd
   simp only[J7]
   refine H4 ?_
   simp only[WX,b6,E0 7 (by omega),E0 13 (by omega),r7,r13,r16,if_true,oI,eL,show((7:Nat)=14)=False by simp,show((13:Nat)=14)=False by simp,show((16:Nat)=14)=False by simp,if_false]
   have b1:S4 (.ref fa) (vi (T.idxOf p.1)) b7=λR=>R (vi (T.idxOf p.2)) b7:=by
    funext R; exact D7.sub hfa' A9 xU t1 (S0 hk hp)
   have b2:S4 (.ref na) (vi (T.idxOf p.2)) b7=λR=>R p.2.v b7:=by
    funext R; exact D7.sub hnd' A9 (λq hq=>(u.all q hq).1) t2 l2
   have b3:S4 (.ref na) (vi (T.idxOf p.1)) b7=λR=>R p.1.v b7:=by
    funext R; exact D7.sub hnd' A9 (λq hq=>(u.all q hq).1) t1 l1
   rw[b1]
   simp only[]
   rw[b2]
   simp only[]
   rw[b3]
   have xV:∀q∈dk,LT q.1:=λq hq=>hlt q (rK q (by rw[ek]; simp[hq]))
   have hdn:f6 dk p.1=none:=by
    cases e:f6 dk p.1 with
    | none=>rfl
    | some v =>
     exfalso
     have hm:=j8 e
     rw[ek,List.map_append,List.nodup_append] at hgk
     exact hgk.2.2 p.1 (List.mem_map_of_mem (f:=(·.1)) hm) p.1 (by simp) rfl
   have hdl:dk.length≤3:=by rw[ek] at lZ; simp at lZ; omega
   refine hdk.W2 (v:=p.2) Cw xV (by omega) (hlt p hp) λt8 e2 n2=>?_
   rw[Be hdn] at e2
   refine o7 (hnext _ _ ⟨λi hi=>by simp[b6,show i≠14 by omega,E0 i hi],by simp[b6,r16],by rw[n2 _ hrs]; exact er',λb o _ e=>by rw[n2 b (fresh_ne hsa e)]; exact s b o id e,dk++[p],lk,by simp[ek],rfl,e2⟩)
 ·rintro i7 b7 ⟨E0,r16,er',s,dk,lk,ek,el,hdk⟩
  have:lk=[]:=by cases lk<;>simp at el ⊢
  subst this
  rw[List.append_nil] at ek
  subst ek
  exact q i7 b7 sa g E0 r16 hdk hg s
end
def tM:Tm:=.leaf (.mvar 0)
theorem A8{t:Tm}(h:t.o5=true) (hv:t.hd.isVar=true):t∈[tX,tY,tM]∧∃g,t=.leaf g:=by
 rcases t with g | ⟨g,a⟩ | ⟨g,a,b⟩
 ·simp only[Tm.o5,List.contains_iff_mem] at h
  have key:∀g∈Bk,g.isVar=true→Tm.leaf g∈[tX,tY,tM]:=by decide
  exact⟨key g h hv,g,rfl⟩
 ·simp only[Tm.o5,Bool.and_eq_true,List.contains_iff_mem] at h
  have key:∀g∈eF,g.isVar=false:=by decide
  rw[show(Tm.un g a).hd=g from rfl,key g h.1] at hv; cases hv
 ·simp only[Tm.o5,Bool.and_eq_true,beq_iff_eq] at h
  rw[show(Tm.bin g a b).hd=g from rfl,h.1.1] at hv; cases hv
section
variable {c:Cx}{n:Nat}{O:a7}{K:I8}{T:List Tm}{Q:V→a7→Prop}{E:a7→Prop}{H:Hg}{Ts:List G2}{Fs:List P4}{d nu at_ na:Addr}{B:Nat}{f:Bd}
theorem dG(N:j7 c){rl:Addr}{p0:Tm×Tm}{rest:Bd}(hr:O rl=some (.list ((p0::rest).map (C1 T)))) (hT:∀p∈rest,p.1∈T∧p.2∈T) (hk:(rest.map (·.1)).Nodup) (hz:rest.length≤2){n:Nat}{Z:Loc}(r10:Z 10=some (.ref rl)){xs:List S}{Q:Fl→Loc→a7→Prop}
  (q:∀i7 b7 fd,(∀i,i < 13→i7 i=Z i)→i7 13=some (.ref fd)→O fd=none→b8 (λ_=>False) O b7→D7 (λt=>vi (T.idxOf t)) (λt=>vi (T.idxOf t)) rest fd b7→o9 c n xs i7 b7 Q E) :
  o9 c n (.set 13 (.dct [])::.for (.two 14 15) (.slc (.loc 10) (some 1) none) [(.I0 (.loc 13) (.loc 14) (.loc 15))]::xs) Z O Q E:=by
 refine i6 (H7 λfd hfd=>?_)
 have s0:b8 (λ_=>False) O (i8 O fd (.dict [])):=b8.new hfd
 have e0:i8 O fd (.dict []) fd=some (.dict []):=b9 _ _ _
 generalize i8 O fd (.dict [])=H0 at s0 e0
 refine D0 ?_
 simp only[WX,b6,r10,oI,eL,show((10:Nat)=13)=False by simp,if_false,eK]
 refine⟨_,s0 _ _ id hr,by simp; omega,.inr trivial,?_⟩
 intro r hr1
 have Sy:cut ((p0::rest).map (C1 T)) (some 1) none=rest.map (C1 T):=rfl
 rw[Sy]
 have s1:b8 (λ_=>False) H0 (i8 H0 r (.list (rest.map (C1 T)))):=b8.new hr1
 have e1:i8 H0 r (.list (rest.map (C1 T))) r=some (.list (rest.map (C1 T))):=b9 _ _ _
 have e01:=s1 _ _ id e0
 have Vd:=s0.trans s1
 have hne:r≠fd:=(fresh_ne hr1 e0).symm
 generalize i8 H0 r (.list (rest.map (C1 T)))=t9 at s1 e1 e01 Vd
 have hit:∀b7:a7,b7 r=some (.list (rest.map (C1 T)))→u6 (.ref r) b7 (rest.map (C1 T)):=λb7 e=>by simp[u6,e]
 refine⟨_,hit _ e1,by simp; omega,?_⟩
 refine s9 (λdone left i7 b7=>(∀i,i < 13→i7 i=Z i)∧i7 13=some (.ref fd)∧b7 r=some (.list (rest.map (C1 T)))∧b8 (λ_=>False) O b7∧∃dk lk:Bd,rest=dk++lk∧left=lk.map (C1 T)∧D7 (λt=>vi (T.idxOf t)) (λt=>vi (T.idxOf t)) dk fd b7)
  (λ_ _ _=>False) (λ_ _ _ b7 hI=>hit b7 hI.2.2.1) ?_ _ [] _ _ _ ⟨λi hi=>by simp[b6,show i≠13 by omega],by simp[b6],e1,Vd,[],rest,rfl,rfl,by unfold D7; simpa using e01⟩ ?_ (λ_ _ _ h=>h.elim)
 ·rintro done x left i7 b7 R ⟨E0,r13,er,s,dk,lk,ek,el,hdk⟩ hnext _ _
  cases lk with
  | nil=>simp at el
  | cons p lk =>
   simp only[List.map_cons,List.cons.injEq] at el
   obtain⟨rfl,rfl⟩:=el
   have hp:=hT p (by rw[ek]; simp)
   simp only[C1,J7]
   refine H4 ?_
   simp only[WX,b6,r13,if_true,oI,eL,show((13:Nat)=15)=False by simp,show((13:Nat)=14)=False by simp,show((14:Nat)=15)=False by simp,if_false]
   have hdT:∀q∈dk,q.1∈T:=λq hq=>(hT q (by rw[ek]; simp[hq])).1
   have hdn:f6 dk p.1=none:=by
    cases e:f6 dk p.1 with
    | none=>rfl
    | some v =>
     exfalso
     have hm:=j8 e
     rw[ek,List.map_append,List.nodup_append] at hk
     exact hk.2.2 p.1 (List.mem_map_of_mem (f:=(·.1)) hm) p.1 (by simp) rfl
   have hdl:dk.length≤2:=by rw[ek] at hz; simp at hz; omega
   have W2:=fun(R:a7→Prop) q=>hdk.W2 (k:=p.1) (v:=p.2) A9 hdT (by omega) hp.1 (R:=R) q
   refine W2 _ λt8 e2 n2=>?_
   rw[Be hdn] at e2
   refine o7 (hnext _ _ ⟨λi hi=>by simp[b6,show i≠14 by omega,show i≠15 by omega,E0 i hi],by simp[b6,r13],by rw[n2 _ hne]; exact er,λb o _ e=>by rw[n2 b (fresh_ne hfd e)]; exact s b o id e,dk++[p],lk,by simp[ek],rfl,e2⟩)
 ·rintro i7 b7 ⟨E0,r13,er,s,dk,lk,ek,el,hdk⟩
  have:lk=[]:=by cases lk<;>simp at el ⊢
  subst this
  rw[List.append_nil] at ek
  subst ek
  exact q i7 b7 fd E0 r13 hfd s hdk
theorem Tj{boss:Bd}(h:∀p∈boss,LT p.1):((boss.map λp=>(p.1.v,p.2.v)).map (·.1)).filter (N7 (Str.ofString "xym"))=(boss.filter λp=>p.1.hd.isVar).map λp=>p.1.v:=by
 induction boss with
 | nil=>rfl
 | cons p boss ih =>
  have hp:=h p (.head _)
  have ih:=ih λq hq=>h q (.tail _ hq)
  have e:N7 (Str.ofString "xym") p.1.v=p.1.hd.isVar:=by
   rw[iW,C6 p.1]
   have:=bL p.1.hd (F4 hp.1)
   rw[←this]
   rw[Bool.eq_iff_iff]
   simp[N7,one]
  simp only[List.map_cons,List.filter_cons,e]
  cases p.1.hd.isVar with
  | true=>simp only[if_true,List.map_cons,ih]
  | false=>simp only[Bool.false_eq_true,if_false,ih]
theorem dH(N:j7 c){boss equal g f':Bd}{ea ba sa:Addr}(Rg:O ea=some (.list (equal.map pv))) (rL:D7 Tm.v Tm.v boss ba O) (nC:∀p∈boss,LT p.1) (hbz:boss.length≤1000) (hsa:D7 Tm.v Tm.v g sa O) (lZ:∀p∈g,LT p.1∧LT p.2) (rA:∀p∈g,p.1.hd.isVar=true) (hgz:g.length≤3) (hlen:g.length=(boss.filter λp=>p.1.hd.isVar).length) (hE:∀p∈equal,LT p.1∧LT p.2) (hez:equal.length≤10)
  (Fx:∀p∈equal,∃t,I9 170 g p.1=some t∧I9 170 g p.2=some t∧t.nest≤60){n:Nat}(hn:180≤n){Z:Loc}(r5:Z 5=some (.ref ea)) (r6:Z 6=some (.ref ba)) (r16:Z 16=some (.ref sa)){Q:Fl→Loc→a7→Prop}
  (q:∀i7 b7,(∀i,i < 8→i7 i=Z i)→(∀i,10≤i→i < 17→i7 i=Z i)→b8 (λ_=>False) O b7→Q .next i7 b7) :
  o9 c n [(.ite (.val (.comp (.loc 17) (.one 17) (.call (.con (.fix (.builtin "sorted"))) [(.loc 16)]) [(.cmp .NotIn (.sub (.loc 17) (.con (.int 0))) (.con (.str (Str.ofString "xym"))))])) [(.ret (.con (.bool false)))] []),(.ite (.cmp .NotEq (.call (.con (.fix (.builtin "len"))) [(.loc 16)]) (.call (.con (.fix (.builtin "len"))) [(.Z1 (.loc 6) (Str.ofString "xym"))])) [(.ret (.con (.bool false)))] []),(.for (.two 8 9) (.loc 5) [(.ite (.cmp .NotEq (.call (.con (.fix (.ref 558))) [(.loc 8),(.loc 16)]) (.call (.con (.fix (.ref 558))) [(.loc 9),(.loc 16)])) [(.ret (.con (.bool false)))] [])])] Z O Q E:=by
 have hone:∀p∈g,∃k,p.1.v=.tup [one k]:=λp hp=>by
  obtain⟨_,h,e⟩:=A8 (lZ p hp).1.1 (rA p hp)
  rw[e]; exact⟨_,rfl⟩
 refine I3 ?_
 simp only[WC,WX,j0,r16,oI,eL]
 refine Mt hsa (λp hp=>?_) (by simpa using hgz) λr ks hr hks hkl=>?_
 ·obtain⟨x,hx,rfl⟩:=List.mem_map.mp hp
  exact hone x hx
 have s1:b8 (λ_=>False) O (i8 O r (.list ks)):=b8.new hr
 have er:i8 O r (.list ks) r=some (.list ks):=b9 _ _ _
 generalize i8 O r (.list ks)=t9 at s1 er
 have hit:u6 (.ref r) t9 ks:=by simp[u6,er]
 refine⟨ks,hit,by rw[hkl]; simp; omega,?_⟩
 refine C4 (λdone left acc b7=>b7=t9∧acc=[]∧∀v∈left,v∈ks) (λ_ _ _ b7 hI=>by rw[hI.1]; exact hit) ?_ _ [] [] _ _ ⟨rfl,rfl,λ_ h=>h⟩ ?_
 ·rintro done x left acc b7 R ⟨rfl,rfl,hmem⟩ _ hnone
  have hx:=hks x (hmem x (.head _))
  rw[List.map_map] at hx
  obtain⟨p,hp,rfl⟩:=List.mem_map.mp hx
  simp only[J7,M5,WC,WX,b6,if_true,oI,eL,Function.comp]
  rw[Mj]
  have:=λR=>bO (c:=c) (O:=b7) (lZ p hp).1 (R:=R)
  have e:∀R:Bool→Prop,G6 c .NotIn (one p.1.hd.cd) (.str (Str.ofString "xym")) b7 R=G6 c .In (one p.1.hd.cd) (.str (Str.ofString "xym")) b7 λb=>R (!b):=λR=>rfl
  rw[e,this,rA p hp]
  simp only[Bool.not_true,Bool.false_eq_true,if_false]
  exact hnone _ ⟨rfl,rfl,λv hv=>hmem v (.tail _ hv)⟩
 rintro acc b7 ⟨rfl,rfl,_⟩ r2 hr2
 have s2:b8 (λ_=>False) b7 (i8 b7 r2 (.list [])):=b8.new hr2
 have er2:i8 b7 r2 (.list []) r2=some (.list []):=b9 _ _ _
 simp only[z2,er2]
 refine⟨by simp,?_⟩
 have s12:=s1.trans s2
 generalize i8 b7 r2 (.list [])=t8 at s2 er2 s12
 refine⟨λe=>by simp at e,λ_=>?_⟩
 have xW:D7 Tm.v Tm.v g sa t8:=s12 _ _ id hsa
 have hb2:D7 Tm.v Tm.v boss ba t8:=s12 _ _ id rL
 refine I3 ?_
 simp only[WC,WX,j0,r16,r6,oI,eL]
 refine V0 xW (by simp; omega) ?_
 refine⟨_,_,rfl,hb2,by simpa using hbz,?_,?_⟩
 ·intro p hp
  obtain⟨x,hx,rfl⟩:=List.mem_map.mp hp
  exact⟨Mh (nC x hx).2,_,_,C6 x.1⟩
 intro r3 hr3
 rw[Tj nC]
 have s3:b8 (λ_=>False) t8 (i8 t8 r3 (.list ((boss.filter λp=>p.1.hd.isVar).map λp=>p.1.v))):=b8.new hr3
 have tE:i8 t8 r3 (.list ((boss.filter λp=>p.1.hd.isVar).map λp=>p.1.v)) r3=some (.list ((boss.filter λp=>p.1.hd.isVar).map λp=>p.1.v)):=b9 _ _ _
 have Xz:=s12.trans s3
 generalize i8 t8 r3 (.list ((boss.filter λp=>p.1.hd.isVar).map λp=>p.1.v))=A4 at s3 tE Xz
 refine A3 tE (by simp; rw[←hlen]; omega) ?_
 simp only[List.length_map,←hlen,Bx]
 simp only[decide_true,Bool.not_true,Bool.false_eq_true,false_implies,true_and,forall_const]
 have rM:∀b7:a7,b7 ea=some (.list (equal.map pv))→u6 (.ref ea) b7 (equal.map pv):=λb7 e=>by simp[u6,e]
 have mA:=Xz _ _ id Rg
 refine D0 ?_
 simp only[WX,r5,oI,eL]
 refine⟨_,rM _ mA,by simp; omega,?_⟩
 refine s9 (λdone left i7 b7=>(∀i,i < 8→i7 i=Z i)∧(∀i,10≤i→i < 17→i7 i=Z i)∧b8 (λ_=>False) O b7∧∃dk lk:Bd,equal=dk++lk∧left=lk.map pv)
  (λ_ _ _=>False) (λ_ _ _ b7 hI=>rM b7 (hI.2.2.1 _ _ id Rg)) ?_ _ [] _ _ _ ⟨λ_ _=>rfl,λ_ _ _=>rfl,Xz,[],equal,rfl,rfl⟩ ?_ (λ_ _ _ h=>h.elim)
 ·rintro done x left i7 b7 R ⟨E0,Qo,s,dk,lk,ek,el⟩ hnext _ _
  cases lk with
  | nil=>simp at el
  | cons p lk =>
   simp only[List.map_cons,List.cons.injEq] at el
   obtain⟨rfl,rfl⟩:=el
   have hpm:p∈equal:=by rw[ek]; simp
   obtain⟨t,ht1,bR,htn⟩:=Fx p hpm
   have hp:=hE p hpm
   simp only[pv,J7]
   refine I3 ?_
   simp only[WC,WX,j0,b6,Qo 16 (by omega) (by omega),r16,if_true,oI,eL,show((8:Nat)=9)=False by simp,show((16:Nat)=9)=False by simp,show((16:Nat)=8)=False by simp,if_false]
   refine Ed N lZ 170 ht1 (s _ _ id hsa) hp.1 (by omega) λx9 s4=>?_
   refine Ed N lZ 170 bR ((s.trans s4) _ _ id hsa) hp.2 (by omega) λC7 s5=>?_
   have hk:t.v.hk 60=true:=Mh htn
   obtain⟨l,hl⟩:=Qh t
   rw[hl] at hk ⊢
   simp only[G6,EQ]
   refine⟨.inl ⟨V.H1 _ hk,V.H1 _ hk,hk,hk⟩,?_⟩
   simp only[decide_true,Bool.not_true,Bool.false_eq_true,false_implies,true_and,forall_const]
   exact o7 (hnext _ _ ⟨λi hi=>by simp[b6,show i≠8 by omega,show i≠9 by omega,E0 i hi],λi h1 h2=>by simp[b6,show i≠8 by omega,show i≠9 by omega,Qo i h1 h2],(s.trans s4).trans s5,dk++[p],lk,by simp[ek],rfl⟩)
 ·rintro i7 b7 ⟨E0,Qo,s,dk,lk,ek,el⟩
  exact o7 (q i7 b7 E0 Qo s)
end
theorem Ee:∀{z:Tm},(t4 [(tY,tI)] z).has tY=false
 | .leaf h=>by
  by_cases e:tY=.leaf h
  ·have:t4 [(tY,tI)] (.leaf h)=tI:=by rw[←e]; rfl
   rw[this]; decide
  ·have:t4 [(tY,tI)] (.leaf h)=.leaf h:=by simp[t4,f6,e]
   rw[this]; simp[Tm.has,e]
 | .un h a=>by
  have e:t4 [(tY,tI)] (.un h a)=.un h (t4 [(tY,tI)] a):=by simp[t4,f6,tY]
  rw[e]; simp only[Tm.has,Ee (z:=a),Bool.or_false]; simp[tY]
 | .bin h a b=>by
  have e:t4 [(tY,tI)] (.bin h a b)=.bin h (t4 [(tY,tI)] a) (t4 [(tY,tI)] b):=by simp[t4,f6,tY]
  rw[e]; simp only[Tm.has,Ee (z:=a),Ee (z:=b),Bool.or_false]; simp[tY]
section
variable {c:Cx}{n:Nat}{O:a7}{K:I8}{T:List Tm}{Q:V→a7→Prop}{E:a7→Prop}{H:Hg}{Ts:List G2}{Fs:List P4}{d nu at_ na:Addr}{B:Nat}{f:Bd}
def Gi(res:Option Bd) (bv:V) (O:a7):Prop:=match res with
 | none=>bv=.none
 | some boss=>∃ba,bv=.ref ba∧D7 Tm.v Tm.v boss ba O∧(∀p∈boss,LT p.1)∧boss.length≤1000
def dI:List S:=[(.set 13 (.dct [])),(.for (.two 14 15) (.slc (.loc 10) (some 1) none) [(.I0 (.loc 13) (.loc 14) (.loc 15))]),(.ite (.cmp .NotEq (.call (.con (.fix (.ref 412))) [(.loc 0),(.loc 11),(.loc 12),(.loc 13)]) (.cmp .IsNot (.loc 6) (.con .none))) [(.ret (.con (.bool false)))] []),(.ite (.cmp .IsNot (.loc 6) (.con .none)) [(.set 16 (.dct [])),(.for (.one 14) (.call (.con (.fix (.builtin "sorted"))) [(.loc 13)]) [(.I0 (.loc 16) (.sub (.loc 7) (.loc 14)) (.sub (.loc 7) (.sub (.loc 13) (.loc 14))))]),(.ite (.val (.comp (.loc 17) (.one 17) (.call (.con (.fix (.builtin "sorted"))) [(.loc 16)]) [(.cmp .NotIn (.sub (.loc 17) (.con (.int 0))) (.con (.str (Str.ofString "xym"))))])) [(.ret (.con (.bool false)))] []),(.ite (.cmp .NotEq (.call (.con (.fix (.builtin "len"))) [(.loc 16)]) (.call (.con (.fix (.builtin "len"))) [(.Z1 (.loc 6) (Str.ofString "xym"))])) [(.ret (.con (.bool false)))] []),(.for (.two 8 9) (.loc 5) [(.ite (.cmp .NotEq (.call (.con (.fix (.ref 558))) [(.loc 8),(.loc 16)]) (.call (.con (.fix (.ref 558))) [(.loc 9),(.loc 16)])) [(.ret (.con (.bool false)))] [])])] [])]
theorem gR(N:j7 c) (L:J5 H K T Ts Fs d nu at_ B O) (u:J4 K T f na O){p0:Tm×Tm}{rest:Bd}{ea rl:Addr}{bv:V}{res:Option Bd}(Rg:O ea=some (.list ((p0::rest).map pv))) (hrl:O rl=some (.list ((p0::rest).map (C1 T)))) (hbv:Gi res bv O) (hE:∀p∈p0::rest,Y9 6 p.1∧Y9 6 p.2) (hnm:Named f (p0::rest)) (hrk:(rest.map (·.1)).Nodup) (hrz:rest.length≤1)
  {x y:Tm}(hxy:x=p0.1∧y=p0.2∨x=p0.2∧y=p0.1){r:Bool}{f':Bd}(hu:N5 110 rest x y=some (r,f')) (hr:r=res.isSome) (hok:∀boss,res=some boss→(∀p∈f',p.1.hd.isVar=true)∧f'.length=(boss.filter λp=>p.1.hd.isVar).length∧∀p∈p0::rest,∃t,I9 170 f' p.1=some t∧I9 170 f' p.2=some t∧t.nest≤60)
  {n:Nat}(hn:221≤n){Z:Loc}(r0:Z 0=some (.ref d)) (r5:Z 5=some (.ref ea)) (r6:Z 6=some bv) (r7:Z 7=some (.ref na)) (r10:Z 10=some (.ref rl)) (r11:Z 11=some (vi (T.idxOf x))) (r12:Z 12=some (vi (T.idxOf y))){Q:Fl→Loc→a7→Prop}
  (q:∀i7 b7,(∀i,i < 8→i7 i=Z i)→i7 10=Z 10→b8 (λ_=>False) O b7→Q .next i7 b7):o9 c n dI Z O Q E:=by
 have dF:∀{x:Tm},(f6 f x).isSome=true→x∈T:=fun {x} h=>by
  obtain⟨v,hv⟩:=Option.isSome_iff_exists.mp h
  exact(u.all _ (j8 hv)).1
 have Gj:∀p∈rest,(f6 f p.1).isSome=true∧(f6 f p.2).isSome=true:=λp hp=>hnm p (.tail _ hp)
 have tK:(f6 f x).isSome=true∧(f6 f y).isSome=true:=by
  have:=hnm p0 (.head _)
  rcases hxy with⟨rfl,rfl⟩ | ⟨rfl,rfl⟩
  ·exact this
  ·exact⟨this.2,this.1⟩
 have hxL:LT x∧LT y:=by
  have:=hE p0 (.head _)
  rcases hxy with⟨rfl,rfl⟩ | ⟨rfl,rfl⟩
  ·exact⟨this.1.lt (by omega),this.2.lt (by omega)⟩
  ·exact⟨this.2.lt (by omega),this.1.lt (by omega)⟩
 have hcl:∀t,(f6 f t).isSome=true→∀a∈t.kids,(f6 f a).isSome=true:=λt ht a ha=>by
  obtain⟨v,hv⟩:=Option.isSome_iff_exists.mp ht
  exact u.clo _ (j8 hv) a ha
 have xX:Named f f':=Fp (D:=λt=>(f6 f t).isSome=true) hcl hu Gj tK.1 tK.2
 have mB:∀p∈f',LT p.1∧LT p.2:=Fp (D:=LT) (λt ht a ha=>ht.kid ha) hu (λp hp=>⟨(hE p (.tail _ hp)).1.lt (by omega),(hE p (.tail _ hp)).2.lt (by omega)⟩) hxL.1 hxL.2
 have mC:=Gh hu hrk
 refine dG N hrl (λp hp=>⟨dF (Gj p hp).1,dF (Gj p hp).2⟩) hrk (by omega) r10 λQj t9 fd Bf r13 hfd s1 xY=>?_
 have L1:=L.new s1
 have xZ:fd≠K.i:=by rintro rfl; rw[L.k.index] at hfd; cases hfd
 have U:Re K T d H.st rest fd t9:=⟨L1.k,L1.y,xY,xZ,λp hp=>⟨dF (Gj p hp).1,dF (Gj p hp).2⟩⟩
 have fO:∀O:a7,G6 c .IsNot bv .none O=λR=>R res.isSome:=by
  intro O
  funext R
  unfold Gi at hbv
  cases res with
  | none=>simp only at hbv; subst hbv; simp[G6,IS]
  | some b=>obtain⟨ba,rfl,_⟩:=hbv; simp[G6,IS]
 refine I3 ?_
 simp only[WC,WX,j0,Bf 0 (by omega),Bf 6 (by omega),Bf 11 (by omega),Bf 12 (by omega),r0,r6,r11,r12,r13,oI,eL]
 refine Uy N 110 U hu (dF tK.1) (dF tK.2) (by omega) λt8 U2 s2=>?_
 rw[fO,hr]
 simp only[G6,EQ,Kj]
 refine⟨.inr ⟨_,_,rfl,rfl⟩,?_⟩
 simp only[decide_true,Bool.not_true,Bool.false_eq_true,false_implies,true_and,forall_const]
 have s12:b8 (λ_=>False) O t8:=λb o _ e=>s2 b o (fresh_ne hfd e) (s1 b o id e)
 refine l0 res.isSome (λR E q=>?_) (λe=>?_) (λe=>?_)
 ·simp only[WC,WX,Bf 6 (by omega),r6,oI,eL,fO]
  exact q
 ·obtain⟨boss,hres⟩:=Option.isSome_iff_exists.mp e
  obtain⟨hv,hlen,Fx⟩:=hok boss hres
  rw[hres] at hbv
  obtain⟨ba,rfl,hba,nC,hbz⟩:=hbv
  have hz3:f'.length≤3:=by
   have:=w9 (T:=[tX,tY,tM]) mC λx hx=>by
    obtain⟨p,hp,rfl⟩:=List.mem_map.mp hx
    exact(A8 (mB p hp).1.1 (hv p hp)).1
   simpa using this
  refine dE N (u.same s12) U2.fd xX mC (λp hp=>(mB p hp).1) hz3 (by rw[Bf 7 (by omega)]; exact r7) r13 λρ3 A4 sa g gT r16 hsa hg s3=>?_
  have mX:=s12.trans s3
  have rK:∀p∈g,p∈f':=λp hp=>hg.mem_iff.mp hp
  refine dH N (equal:=p0::rest) (f':=f') (mX _ _ id Rg) (mX _ _ id hba) nC hbz hsa (λp hp=>mB p (rK p hp)) (λp hp=>hv p (rK p hp)) (by rw[hg.length_eq]; exact hz3) (by rw[hg.length_eq]; exact hlen) (λp hp=>⟨(hE p hp).1.lt (by omega),(hE p hp).2.lt (by omega)⟩) (by simp; omega) (λp hp=>?_) (by omega) (by rw[gT 5 (by omega),Bf 5 (by omega)]; exact r5) (by rw[gT 6 (by omega),Bf 6 (by omega)]; exact r6) r16 λρ4 x9 yA rN s4=>?_
  ·obtain⟨t,h1,h2,h3⟩:=Fx p hp
   have hc:=λt=>W8 (Ti hg mC) 170 t
   exact⟨t,by rw[hc]; exact h1,by rw[hc]; exact h2,h3⟩
  ·refine q ρ4 x9 (λi hi=>by rw[yA i hi,gT i (by omega),Bf i (by omega)]) (by rw[rN 10 (by omega) (by omega),gT 10 (by omega),Bf 10 (by omega)]) (mX.trans s4)
 ·exact o7 (q Qj t8 (λi hi=>Bf i (by omega)) (Bf 10 (by omega)) s12)
end
section
variable {c:Cx}{n:Nat}{O:a7}{K:I8}{T:List Tm}{Q:V→a7→Prop}{E:a7→Prop}{H:Hg}{Ts:List G2}{Fs:List P4}{d nu at_ na:Addr}{B:Nat}{f:Bd}
theorem Vm(N:j7 c) (PM:W7) (L:J5 H K T Ts Fs d nu at_ B O){a b:Tm}{rest:Bd}{ea:Addr}(ha:Y9 6 a) (hb:Y9 6 b) (hrest:rest=[]∨∃z,Y9 2 z∧z.has tY=false∧rest=[(tY,z)]) (Rg:O ea=some (.list (((a,b)::rest).map pv))) (tJ:¬K.F ea) (hz:T.length+500 < 100000){n:Nat}(hn:222≤n){Z:Loc}(r0:Z 0=some (.ref d)) (r5:Z 5=some (.ref ea))
  (q:∀T' b7,Gr T T' 300→J5 H K T' Ts Fs d nu at_ B b7→b8 K.F O b7→Q (.bool true) b7):o9 c n (H2.drop 3) Z O (i4 Q) E:=by
 obtain⟨M,m,res,hM,hm,rO,nC,hboth⟩:=PM a b ha hb rest hrest
 have hE:∀p∈(a,b)::rest,Y9 6 p.1∧Y9 6 p.2:=by
  intro p hp
  rcases List.mem_cons.mp hp with rfl | hp
  ·exact⟨ha,hb⟩
  ·rcases hrest with rfl | ⟨z,hz,_,rfl⟩
   ·cases hp
   ·simp at hp; subst hp; exact⟨(⟨rfl,rfl,by simp[tY,Tm.nest]⟩:Y9 6 tY),hz.mono (by omega)⟩
 have hrz:rest.length≤1:=by
  rcases hrest with rfl | ⟨z,_,_,rfl⟩<;>simp
 have hrk:(rest.map (·.1)).Nodup:=by
  rcases hrest with rfl | ⟨z,_,_,rfl⟩<;>simp
 have hEL:∀p∈(a,b)::rest,LT p.1∧LT p.2:=λp hp=>⟨(hE p hp).1.lt (by omega),(hE p hp).2.lt (by omega)⟩
 refine i6 ?_
 simp only[WX,j0,r5,oI,eL]
 have main:∀(bv:V) (t9:a7),b8 (λ_=>False) O t9→Gi res bv t9→(∀boss ba,res=some boss→bv=.ref ba→O ba=none)→o9 c n (H2.drop 4) (b6 Z 6 bv) t9 (i4 Q) E:=by
  intro bv t9 s1 hbv hbn
  have L1:=L.new s1
  refine i6 (H7 λna hna=>?_)
  have s2:b8 (λ_=>False) t9 (i8 t9 na (.dict [])):=b8.new hna
  have e2:i8 t9 na (.dict []) na=some (.dict []):=b9 _ _ _
  have lY:¬K.F na:=λhF=>by rcases L1.k.plain na hF with⟨l,e⟩ | ⟨l,e⟩<;>rw[hna] at e<;>cases e
  have hsn:¬SF H Ts na:=by
   rintro(rfl | rfl | rfl | ⟨t,ht,rfl | rfl⟩)
   ·rw[L1.s.types] at hna; cases hna
   ·rw[L1.s.fields] at hna; cases hna
   ·obtain⟨l,e,_⟩:=L1.s.Xd; rw[hna] at e; cases e
   ·obtain⟨i,hi⟩:=List.mem_iff_getElem?.mp ht
    rw[(L1.s.tys i t hi).2.2.2] at hna; cases hna
   ·obtain⟨i,hi⟩:=List.mem_iff_getElem?.mp ht
    obtain⟨_,_,⟨pl,e,_⟩,_⟩:=L1.s.tys i t hi
    rw[hna] at e; cases e
  generalize i8 t9 na (.dict [])=t8 at s2 e2
  have L2:=L1.new s2
  have u2:J4 K T [] na t8:=⟨L2.k,by unfold D7; simpa using e2,λh=>lY (.inr (.inl h)),by simp,by simp,by simp⟩
  have s12:=s1.trans s2
  have rP:=s12 _ _ id Rg
  have mD:O na=none:=y9 s1 hna
  have rQ:¬CF K na ea:=by
   rintro(h | h)
   ·exact tJ h
   ·subst h; rw[Rg] at mD; cases mD
  refine i6 ?_
  refine gQ N L2 u2 hsn rP rQ hE (by simp; omega) hz (by omega) (by simp[b6,r0]) (by simp[b6,r5]) (by simp[b6]) λrl T3 f3 A4 hrl erl g3 L3 u3 Xn k3=>?_
  have dF:∀{x:Tm},(f6 f3 x).isSome=true→x∈T3:=fun {x} h=>by
   obtain⟨v,hv⟩:=Option.isSome_iff_exists.mp h
   exact(u3.all _ (j8 hv)).1
  have mE:Gi res bv A4:=by
   unfold Gi at hbv ⊢
   cases res with
   | none=>exact hbv
   | some boss =>
    obtain⟨ba,e,h1,h2,h3⟩:=hbv
    have hb0:=hbn boss ba rfl e
    have hbF:¬CF K na ba:=by
     rintro(h | h)
     ·rcases L.k.plain ba h with⟨l,e⟩ | ⟨l,e⟩<;>rw[hb0] at e<;>cases e
     ·subst h; unfold D7 at h1; rw[hna] at h1; cases h1
    exact⟨ba,e,k3 _ _ hbF (s2 _ _ id h1),h2,h3⟩
  have mA:=k3 _ _ rQ rP
  have ssF:b8 K.F O A4:=λb o hb e=>k3 b o (by
   rintro(h | h)
   ·exact hb h
   ·subst h; rw[mD] at e; cases e) (s12 b o id e)
  refine D0 ?_
  have Y4:S4 (.ref rl) (.int 0) A4=λR=>R (C1 T3 (a,b)) A4:=by
   funext R
   rw[show V.int 0=vi 0 from rfl,C9 (v:=C1 T3 (a,b)) erl (by omega) rfl]
  have p0:∀R:V→a7→Prop,S4 (C1 T3 (a,b)) (.int 0) A4 R=R (vi (T3.idxOf a)) A4:=λR=>by
   unfold C1; rw[show V.int 0=V.int ((0:Nat):Int) from rfl,v7 (v:=vi (T3.idxOf a)) (by omega) rfl]
  have p1:∀R:V→a7→Prop,S4 (C1 T3 (a,b)) (.int 1) A4 R=R (vi (T3.idxOf b)) A4:=λR=>by
   unfold C1; rw[show V.int 1=V.int ((1:Nat):Int) from rfl,v7 (v:=vi (T3.idxOf b)) (by omega) rfl]
  simp only[WX,j0,b6,if_true,oI,eL,Y4,p0,p1]
  refine⟨_,rfl,by simp,?_⟩
  have E0:∀(v:V) (i:Nat),i≠10→b6 (b6 (b6 Z 6 bv) 7 (.ref na)) 10 v i=b6 (b6 Z 6 bv) 7 (.ref na) i:=λv i hi=>by simp[b6,hi]
  refine s9 (λdone left i7 b7=>(∀i,i < 8→i7 i=b6 (b6 Z 6 bv) 7 (.ref na) i)∧i7 10=some (.ref rl)∧b8 (λ_=>False) A4 b7∧∀v∈left,v=C1 T3 (a,b)∨v=.tup [vi (T3.idxOf b),vi (T3.idxOf a)])
   (λ_ _ _=>False) (λ_ _ _ _ _=>rfl) ?_ _ [] _ _ _ ⟨λi hi=>by simp[b6,show i≠10 by omega],by simp[b6],.refl _ _,?_⟩ ?_ (λ_ _ _ h=>h.elim)
  ·rintro done v left i7 b7 R ⟨F8,r10,s,hleft⟩ hnext _ _
   have L':=L3.new s
   have u':=u3.same s
   have yB:Gi res bv b7:=by
    unfold Gi at mE ⊢
    cases res with
    | none=>exact mE
    | some boss =>
     obtain⟨ba,e,h1,h2⟩:=mE
     exact⟨ba,e,s _ _ id h1,h2⟩
   have step:∀x y:Tm,(x=a∧y=b∨x=b∧y=a)→o9 c n dI (b6 (b6 i7 11 (vi (T3.idxOf x))) 12 (vi (T3.idxOf y))) b7 R E:=by
    intro x y hxy
    obtain⟨r,f',hu,hr,hok⟩:=hboth x y hxy
    have g:∀i,i < 8→b6 (b6 i7 11 (vi (T3.idxOf x))) 12 (vi (T3.idxOf y)) i=i7 i:=λi hi=>by simp[b6,show i≠11 by omega,show i≠12 by omega]
    refine gR N L' u' (p0:=(a,b)) (s _ _ id mA) (s _ _ id erl) yB hE Xn hrk hrz hxy hu hr hok (by omega) (by rw[g 0 (by omega),F8 0 (by omega)]; simp[b6,r0]) (by rw[g 5 (by omega),F8 5 (by omega)]; simp[b6,r5]) (by rw[g 6 (by omega),F8 6 (by omega)]; simp[b6]) (by rw[g 7 (by omega),F8 7 (by omega)]; simp[b6]) (by simp[b6,r10]) (by simp[b6]) (by simp[b6]) λlS x9 Qo h10 s4=>?_
    exact hnext _ _ ⟨λi hi=>by rw[Qo i hi,g i hi,F8 i hi],by rw[h10]; simp[b6,r10],s.trans s4,λv hv=>hleft v (.tail _ hv)⟩
   rcases hleft v (.head _) with rfl | rfl
   ·simp only[C1,J7]
    exact step a b (.inl ⟨rfl,rfl⟩)
   ·simp only[J7]
    exact step b a (.inr ⟨rfl,rfl⟩)
  ·intro v hv
   simp only[List.mem_cons,List.not_mem_nil,or_false] at hv
   exact hv
  ·rintro i7 b7 ⟨F8,r10,s,_⟩
   refine i5 ?_
   simp only[WX,i4]
   exact q T3 b7 g3 (L3.new s) (ssF.trans (s.mono λ_ h=>h.elim))
 refine kU N Rg hEL hM (by omega) (by simp; omega) (by omega) rO (λhres t9 s1=>?_) λboss hres t9 ba s1 hba hd hl=>?_
 ·refine main .none t9 s1 ?_ ?_
  ·subst hres; rfl
  ·intro boss ba e; rw[hres] at e; cases e
 ·refine main (.ref ba) t9 s1 ?_ ?_
  ·subst hres
   exact⟨ba,rfl,hd,λp hp=>(hl p hp).1,nC boss rfl⟩
  ·intro dJ ba' _ e; cases e; exact hba
theorem Qq(N:j7 c) (PM:W7) (L:J5 H K T Ts Fs d nu at_ B O) (hB:B+200≤1000000) (hz:T.length+500 < 100000){n:Nat}(hn:223≤n)
  (q:∀T' b7,Gr T T' 300→J5 H K T' Ts Fs d nu at_ (B+200) b7→b8 (λb=>K.F b∨b=at_) O b7→Q (.bool true) b7):l8 c n (.fix (.ref 598)) [.ref d,.ref nu,.ref at_] O Q E:=by
 obtain⟨n,rfl⟩:∃m,n=m+1:=⟨n - 1,by omega⟩
 refine N.fn N.C.Fg rfl rfl ?_
 refine aO ?_
 simp only[WX,j0,d8,gZ,gS,oI,eL]
 refine kZ N L.dr (by omega) (by omega) λa b ha hb t9 d1 s1=>?_
 have L1:=L.draw d1 s1
 simp only[J7]
 refine i6 ?_
 simp only[WX,j0,b6,if_true,oI,eL,show((3:Nat)=4)=False by simp,if_false]
 intro ea Rg
 rw[show V.tup [a.v,b.v]=pv (a,b) from rfl]
 have s2:b8 (λ_=>False) t9 (i8 t9 ea (.list [pv (a,b)])):=b8.new Rg
 have e2:i8 t9 ea (.list [pv (a,b)]) ea=some (.list [pv (a,b)]):=b9 _ _ _
 have mF:¬K.F ea:=λhF=>by rcases L1.k.plain ea hF with⟨l,e⟩ | ⟨l,e⟩<;>rw[Rg] at e<;>cases e
 have gU:ea≠at_:=by rintro rfl; obtain⟨i,_,e⟩:=L1.dr.pos; rw[Rg] at e; cases e
 have It:O ea=none:=by
  cases e:O ea with
  | none=>rfl
  | some o=>have:=s1 ea o gU e; rw[Rg] at this; cases this
 generalize i8 t9 ea (.list [pv (a,b)])=t8 at s2 e2
 have L2:=L1.new s2
 have s12:b8 (·=at_) O t8:=s1.trans (s2.mono λ_ h=>h.elim)
 have r0:∀v:V,b6 (b6 (b6 (d8 [.ref d,.ref nu,.ref at_]) 3 a.v) 4 b.v) 5 v 0=some (.ref d):=λv=>by simp[b6,d8]
 have r1:∀v:V,b6 (b6 (b6 (d8 [.ref d,.ref nu,.ref at_]) 3 a.v) 4 b.v) 5 v 1=some (.ref nu):=λv=>by simp[b6,d8]
 have r2:∀v:V,b6 (b6 (b6 (d8 [.ref d,.ref nu,.ref at_]) 3 a.v) 4 b.v) 5 v 2=some (.ref at_):=λv=>by simp[b6,d8]
 have r5:∀v:V,b6 (b6 (b6 (d8 [.ref d,.ref nu,.ref at_]) 3 a.v) 4 b.v) 5 v 5=some v:=λv=>by simp[b6]
 change o9 c n _ (b6 (b6 (b6 (d8 [.ref d,.ref nu,.ref at_]) 3 a.v) 4 b.v) 5 (.ref ea)) t8 _ E
 specialize r0 (.ref ea)
 specialize r1 (.ref ea)
 specialize r2 (.ref ea)
 specialize r5 (.ref ea)
 generalize b6 (b6 (b6 (d8 [.ref d,.ref nu,.ref at_]) 3 a.v) 4 b.v) 5 (.ref ea)=Z at r0 r1 r2 r5
 refine I3 ?_
 simp only[WC,WX,j0,r1,r2,oI,eL]
 refine O2 N L2.dr (by omega) (k:=3) (by omega) (by omega) λr hr A4 d3 s3=>?_
 have L3:=L2.draw d3 s3
 have e3:A4 ea=some (.list [pv (a,b)]):=s3 _ _ gU e2
 have Xz:=s12.trans s3
 simp only[vi,F7]
 refine⟨λ_=>?_,λ_=>?_⟩
 ·refine z6 ?_
  simp only[WX,r5,oI,eL]
  refine⟨_,.inl ⟨_,_,rfl,e3,.inl ⟨rfl,rfl⟩⟩,?_⟩
  have G4:∀{x:X}{l:List X}{O:a7}{Q:List V→a7→Prop},j0 c n (x::l) Z O Q E=WX c n x Z O (λv O=>j0 c n l Z O (λvs O=>Q (v::vs) O) E) E:=by intros; simp only[j0]
  have Ml:∀{O:a7}{Q:List V→a7→Prop},j0 c n [] Z O Q E=Q [] O:=by intros; simp only[j0]
  have fW:∀{l:List X}{O:a7}{Q:V→a7→Prop},WX c n (.tup l) Z O Q E=j0 c n l Z O (λvs O=>Q (.tup vs) O) E:=by intros; simp only[WX]
  have Io:∀{v:V}{O:a7}{Q:V→a7→Prop},WX c n (.con v) Z O Q E=Q v O:=by intros; simp only[WX]
  have Cy:∀{f:X}{l:List X}{O:a7}{Q:V→a7→Prop},WX c n (.call f l) Z O Q E=WX c n f Z O (λfv O=>j0 c n l Z O (λvs O=>l8 c n fv vs O Q E) E) E:=by intros; simp only[WX]
  have bZ:∀{i:Nat}{v:V}{O:a7}{Q:V→a7→Prop},Z i=some v→WX c n (.loc i) Z O Q E=Q v O:=by intro i v O Q h; simp only[WX,h,oI,eL]
  rw[G4,fW,G4,fW,G4,Io,Ml,G4,Cy,Io,G4,Cy,Io,G4,bZ r1,G4,bZ r2,G4,Io,Ml]
  refine Fy N 1 L3.dr (by omega) (by omega) λz hzd x9 d4 s4=>?_
  have L4:=L3.draw d4 s4
  have tz:=P7 hzd
  rw[G4]
  have hkY:∀p∈[(tY,tI)],LT p.1:=by
   intro p hp
   simp only[List.mem_cons,List.not_mem_nil,or_false] at hp
   subst hp; exact⟨rfl,by simp[tY,Tm.nest]⟩
  refine Ve (bd:=[(tY,tI)]) (vs:=[tY.v,tI.v]) (λO Q q=>?_) rfl hkY (by simp) ?_
  ·simp only[j0,WX,sR,vR]
   exact q
  intro rr C7 hrr pY s5
  rw[Ml]
  refine Fz N hkY 2 tz.1.2.2 pY (tz.1.lt (by omega)) (by omega) λY5 s6=>?_
  have L6:=L4.new (s5.trans s6)
  have e6:Y5 ea=some (.list [pv (a,b)]):=(s5.trans s6) _ _ id (s4 _ _ gU e3)
  have s06:b8 (·=at_) O Y5:=(Xz.trans s4).trans ((s5.trans s6).mono λ_ h=>h.elim)
  have t1:=R5 (f:=[(tY,tI)]) (k:=1) (by omega) (by
   intro p hp
   simp only[List.mem_cons,List.not_mem_nil,or_false] at hp
   subst hp; exact⟨⟨rfl,rfl,by simp[tI,Tm.nest]⟩,rfl⟩) (by
   intro p hp
   simp only[List.mem_cons,List.not_mem_nil,or_false] at hp
   subst hp; exact⟨_,rfl⟩) tz.1.1 tz.1.2.1
  have hny:=Ee (z:=z)
  have tz2:Y9 2 (t4 [(tY,tI)] z):=⟨t1.1,t1.2.1,by have:=tz.1.2.2; have:=t1.2.2.1; omega⟩
  generalize t4 [(tY,tI)] z=z' at tz2 hny
  rw[Ml,Ml,sR,show V.tup [V.tup [V.str ⟨#[121]⟩],z'.v]=pv (tY,z') from rfl]
  refine v3 e6 (by simp) ?_
  have m7:∀b',b'≠ea→i8 Y5 ea (.list ([pv (a,b)]++[pv (tY,z')])) b'=Y5 b':=λb' hb'=>i9 hb'
  have e7:i8 Y5 ea (.list ([pv (a,b)]++[pv (tY,z')])) ea=some (.list (((a,b)::[(tY,z')]).map pv)):=by rw[b9]; rfl
  generalize i8 Y5 ea (.list ([pv (a,b)]++[pv (tY,z')]))=Dt at m7 e7
  have s7:b8 (·=ea) Y5 Dt:=b8.of m7 rfl
  have p7:Plain (·=ea) Y5:=λb' hb'=>by subst hb'; exact .inl ⟨_,e6⟩
  have rR:¬SF H Ts ea:=by
   rintro(rfl | rfl | rfl | ⟨t,ht,rfl | rfl⟩)
   ·rw[L.s.types] at It; cases It
   ·rw[L.s.fields] at It; cases It
   ·obtain⟨l,e,_⟩:=L.s.Xd; rw[It] at e; cases e
   ·obtain⟨i,hi⟩:=List.mem_iff_getElem?.mp ht
    rw[(L.s.tys i t hi).2.2.2] at It; cases It
   ·obtain⟨i,hi⟩:=List.mem_iff_getElem?.mp ht
    obtain⟨_,_,⟨pl,e,_⟩,_⟩:=L.s.tys i t hi
    rw[It] at e; cases e
  have rS:nu≠ea:=by rintro rfl; obtain⟨ns,_,_,_,e⟩:=L.dr.nums; rw[It] at e; cases e
  have L7:J5 H K T Ts Fs d nu at_ _ Dt:=L6.move (.refl _ 0) (L6.k.keep s7 (λb' hb'=>by subst hb'; exact mF) p7) s7 p7 (λb' hb'=>by subst hb'; exact rR) (λh=>gU h.symm) rS
  refine Vm N PM ⟨L7.k,L7.s,L7.y,L7.dr.mono (show _≤B+200 by omega),L7.sa,L7.su⟩ ha hb (.inr ⟨z',tz2,hny,rfl⟩) e7 mF hz (by omega) r0 r5 λT' b7 g' L' s'=>?_
  refine q T' b7 g' L' λb' o hb' e=>s' b' o (λh=>hb' (.inl h)) ?_
  rw[m7 b' (fresh_ne It e)]
  exact s06 b' o (λh=>hb' (.inr h)) e
 ·refine Vm N PM ⟨L3.k,L3.s,L3.y,L3.dr.mono (show _≤B+200 by omega),L3.sa,L3.su⟩ ha hb (.inl rfl) e3 mF hz (by omega) r0 r5 λT' b7 g' L' s'=>?_
  exact q T' b7 g' L' λb' o hb' e=>s' b' o (λh=>hb' (.inl h)) (Xz b' o (λh=>hb' (.inr h)) e)
end
section
variable {c:Cx}{n:Nat}{O:a7}{Q:V→a7→Prop}{E:a7→Prop}
def dflt:List Nat:=[3,8,0,6,1,7,1,5,3,0,2,1,9,0,0,6,5,0,0,1,0,2,0,1,3,4,8,0,0]
theorem Qr(N:j7 c) (PM:W7) (SM:R8){ns:List Nat}{nu:Addr}(h1:ns≠[]) (h2:ns.length≤1000) (h3:∀x∈ns,x < 1048576) (hnu:O nu=some (.list (ns.map vi))){k:Nat}(hk:k≤10){n:Nat}(hn:224≤n){Z:Loc}(r2:Z 2=some (.ref nu)) (r3:Z 3=some (vi k)) (q:∀b7,Q (.bool true) b7):o9 c n (Ff.drop 3) Z O (i4 Q) E:=by
 refine i6 ?_
 simp only[WX,j0]
 intro at_ hat
 have s1:b8 (λ_=>False) O (i8 O at_ (.list [.int 0])):=b8.new hat
 have e1:i8 O at_ (.list [.int 0]) at_=some (.list [vi 0]):=b9 _ _ _
 have hne:nu≠at_:=fresh_ne hat hnu
 generalize i8 O at_ (.list [.int 0])=t9 at s1 e1
 have mG:=s1 _ _ id hnu
 refine i6 ?_
 simp only[WX,j0]
 refine fZ N (by omega) λK st dx fl nm l t8 s2 knew kt hst hdx hfl hnm yC ins hlz lkt lfl lnm yD enm oFl oNm kn=>?_
 have e2:=s2 _ _ id e1
 have rT:=s2 _ _ id mG
 refine Lz ?_
 simp only[WX,j0,b6,if_true,oI,eL]
 intro r0 hr0
 have s3:b8 (λ_=>False) t8 (i8 t8 r0 (.list [.none])):=b8.new hr0
 have er0:i8 t8 r0 (.list [.none]) r0=some (.list [.none]):=b9 _ _ _
 generalize i8 t8 r0 (.list [.none])=A4 at s3 er0
 simp only[Hf]
 refine⟨.none,er0,by omega,by omega,?_⟩
 intro ty hty
 have yE:List.replicate (64:Int).toNat V.none=List.replicate 64 V.none:=rfl
 rw[yE]
 have s4:b8 (λ_=>False) A4 (i8 A4 ty (.list (List.replicate 64 .none))):=b8.new hty
 have ety:i8 A4 ty (.list (List.replicate 64 .none)) ty=some (.list (List.replicate 64 .none)):=b9 _ _ _
 have rU:=s3.trans s4
 have Ql:t8 ty=none:=y9 s3 hty
 generalize i8 A4 ty (.list (List.replicate 64 .none))=x9 at s4 ety rU
 have yF:=rU _ _ id yC
 have rV:=rU _ _ id ins
 refine⟨_,_,_,_,rfl,yF,rV,by omega,(N.st.attr (Str.ofString "types") (by simp[A0])).2,?_⟩
 have n5:∀b,b≠dx→i8 x9 dx (.ns (J3 l (Str.ofString "types") (.ref ty))) b=x9 b:=λb hb=>i9 hb
 have e5:i8 x9 dx (.ns (J3 l (Str.ofString "types") (.ref ty))) dx=some (.ns (J3 l (Str.ofString "types") (.ref ty))):=b9 _ _ _
 generalize i8 x9 dx (.ns (J3 l (Str.ofString "types") (.ref ty)))=C7 at n5 e5
 have rW:∀b o,b≠dx→t8 b=some o→C7 b=some o:=λb o hb e=>by rw[n5 b hb]; exact rU _ _ id e
 have kt4:=kt.same rU
 have kt5:j5 K T0 C7:=kt4.off (b8.of n5 rfl) kn
 have nd:∀{b:Addr}{o:z5},t8 b=some o→(∀l,o≠.ns l)→b≠dx:=fun {b o} e ho q=>by rw[q,ins] at e; exact ho _ (Option.some.inj e).symm
 have rX:C7 st=some (.inst 324 dx):=rW _ _ (nd yC (by intro l e; cases e)) yC
 have yG:C7 fl=some (.list [.none]):=rW _ _ (nd yD (by intro l e; cases e)) yD
 have gV:C7 nm=some (.dict []):=rW _ _ (nd enm (by intro l e; cases e)) enm
 have yH:C7 ty=some (.list (List.replicate 64 .none)):=by
  rw[n5 _ (λq=>by rw[q,rV] at ety; cases ety)]; exact ety
 have rY:C7 at_=some (.list [vi 0]):=rW _ _ (nd e2 (by intro l e; cases e)) e2
 have yI:C7 nu=some (.list (ns.map vi)):=rW _ _ (nd rT (by intro l e; cases e)) rT
 have oTy:¬K.F ty:=λh=>by
  rcases kt.plain ty h with⟨l,e⟩ | ⟨l,e⟩<;>rw[Ql] at e<;>cases e
 have yJ:ty≠fl:=(fresh_ne Ql yD).symm
 have SA:G8 ⟨st,dx,ty,fl,nm⟩ K T0 [] [] C7:=by
  refine⟨rX,⟨_,e5,?_,look_same _ _ _,?_,?_⟩,by simpa using yH,by simpa using yG,by simp,by simp,?_,by simp,by simp,by simp,by simp,⟨[],gV,by simp,by simp⟩,by simp[yJ]⟩
  ·rw[o8 _ _ _ _ (by decide +kernel)]; exact lkt
  ·rw[o8 _ _ _ _ (by decide +kernel)]; exact lfl
  ·rw[o8 _ _ _ _ (by decide +kernel)]; exact lnm
  ·rintro b (rfl | rfl | rfl | ⟨t,ht,_⟩)
   ·exact oTy
   ·exact oFl
   ·exact oNm
   ·cases ht
 refine i6 ?_
 simp only[WX,j0,b6,if_true,oI,eL]
 refine lE N (by omega) λua ux lu Y5 s6 iu6 nu6 hlu=>?_
 refine lF N (K:=K) (by omega) iu6 nu6 hlu (s6 _ _ id rX) (s6 _ _ id e5) (by rw[o8 _ _ _ _ (by decide +kernel)]; exact lkt) λd Dt s7 hy=>?_
 have rZ:=s6.trans s7
 have atF:∀{a:Addr}{o:z5},t9 a=some o→¬K.F a:=by
  intro a o e h
  obtain⟨k1,k2,k3,k4,k5,k6,k7⟩:=knew.kn e
  rcases h with h | h | h | h | h
  ·exact k3 h
  ·exact k4 h
  ·exact k5 h
  ·exact k6 h
  ·exact k7 h
 have atS:∀{a:Addr}{o:z5},t9 a=some o→¬SF ⟨st,dx,ty,fl,nm⟩ [] a:=by
  rintro a o e (rfl | rfl | rfl | ⟨t,ht,_⟩)
  ·have:=s2 _ _ id e; rw[Ql] at this; cases this
  ·rw[hfl] at e; cases e
  ·rw[hnm] at e; cases e
  ·cases ht
 have L:J5 ⟨st,dx,ty,fl,nm⟩ K T0 [] [] d nu at_ 0 Dt :=
  ⟨kt5.same rZ,SA.move (.refl _ 0) rZ .none (λ_ h=>h.elim),hy,⟨⟨ns,h1,h2,h3,rZ _ _ id yI⟩,⟨0,by omega,rZ _ _ id rY⟩,hne⟩,⟨atF e1,atS e1⟩,⟨atF mG,atS mG⟩⟩
 have yK:Dt nm=some (.dict []):=rZ _ _ id gV
 have yL:nm≠at_:=by rintro rfl; rw[rY] at gV; cases gV
 have hT0:T0.length=16:=rfl
 have g2:∀v:V,b6 (b6 (b6 Z 4 (.ref at_)) 5 (.ref st)) 6 v 2=some (.ref nu):=λv=>by simp[b6,r2]
 have g3:∀v:V,b6 (b6 (b6 Z 4 (.ref at_)) 5 (.ref st)) 6 v 3=some (vi k):=λv=>by simp[b6,r3]
 have g4:∀v:V,b6 (b6 (b6 Z 4 (.ref at_)) 5 (.ref st)) 6 v 4=some (.ref at_):=λv=>by simp[b6]
 have g6:∀v:V,b6 (b6 (b6 Z 4 (.ref at_)) 5 (.ref st)) 6 v 6=some v:=λv=>by simp[b6]
 change o9 c n _ (b6 (b6 (b6 Z 4 (.ref at_)) 5 (.ref st)) 6 (.ref d)) Dt _ E
 specialize g2 (.ref d)
 specialize g3 (.ref d)
 specialize g4 (.ref d)
 specialize g6 (.ref d)
 generalize b6 (b6 (b6 Z 4 (.ref at_)) 5 (.ref st)) 6 (.ref d)=Qj at g2 g3 g4 g6
 refine D0 ?_
 simp only[WX,j0,g3,oI,eL]
 refine K8 ⟨_,w7 k (by omega),by simp; omega,?_⟩
 refine s9 (λdone left i7 b7=>i7 2=some (.ref nu)∧i7 4=some (.ref at_)∧i7 6=some (.ref d)∧b7 nm=some (.dict [])∧∃i,i≤k∧left=((List.range k).map vi).drop i∧∃T',Gr T0 T' (300 * i)∧J5 ⟨st,dx,ty,fl,nm⟩ K T' [] [] d nu at_ (200 * i) b7)
  (λ_ _ _=>False) (λ_ _ _ _ _=>w7 k (by omega)) ?_ _ [] _ _ _ ⟨g2,g4,g6,yK,0,by omega,rfl,T0,.refl _ _,L⟩ ?_ (λ_ _ _ h=>h.elim)
 ·rintro done x left i7 b7 R ⟨p2,p4,p6,hnm',i,hi,el,T',g,L'⟩ hnext _ _
  obtain⟨hik,rfl,rfl⟩:=range_drop el
  have hg:=g.2
  simp only[J7]
  refine I3 ?_
  simp only[WC,WX,j0,b6,p2,p4,p6,oI,eL,show((2:Nat)=7)=False by simp,show((4:Nat)=7)=False by simp,show((6:Nat)=7)=False by simp,if_false]
  refine Qq N PM L' (by omega) (by omega) (by omega) λT2 mV g8 L8 s8=>?_
  simp only[z2,Bool.not_true,Bool.false_eq_true,false_implies,true_and,forall_const]
  refine o7 (hnext _ _ ⟨by simp[b6,p2],by simp[b6,p4],by simp[b6,p6],s8 _ _ (λh=>h.elim oNm yL) hnm',i+1,by omega,rfl,T2,(g.trans g8).mono (by omega),⟨L8.k,L8.s,L8.y,L8.dr.mono (by omega),L8.sa,L8.su⟩⟩)
 ·rintro i7 b7 ⟨p2,p4,p6,hnm',i,hi,el,T',g,L'⟩
  have hg:=g.2
  refine i5 ?_
  simp only[WX,j0,p2,p4,p6,oI,eL]
  refine Xw N SM L' hnm' (by omega) (by omega) (by omega) λT9=>?_
  simp only[i4]
  exact q T9
theorem sA(N:j7 c) (PM:W7) (SM:R8){a:Addr}{l:List V}(hl:iA c a l) (hz:l.length≤1000000) (hint:∀v∈l,∃i,v=.int i){n:Nat}(hn:224≤n) (q:∀b7,Q (.bool true) b7):o9 c n Ff (d8 [.fix (.ref a)]) O (i4 Q) E:=by
 refine i6 ?_
 simp only[WX,d8,gZ,oI,eL,eK]
 refine⟨l,hl,hz,.inl trivial,?_⟩
 intro r hr
 have Sy:cut l none (some 24)=l.take 24:=rfl
 rw[Sy]
 have er:i8 O r (.list (l.take 24)) r=some (.list (l.take 24)):=b9 _ _ _
 generalize i8 O r (.list (l.take 24))=t9 at er
 have hit:u6 (.ref r) t9 (l.take 24):=by simp[u6,er]
 have yM:(l.take 24).length≤24:=by simp; omega
 refine⟨_,hit,by omega,?_⟩
 refine C4 (λdone left acc b7=>b7=t9∧(∀v∈left,∃i,v=.int i)∧∃ks:List Nat,acc=ks.map vi∧(∀x∈ks,x < 1048576)∧ks.length+left.length≤24)
  (λ_ _ _ b7 hI=>by rw[hI.1]; exact hit) ?_ _ [] [] _ _ ⟨rfl,λv hv=>hint v (List.mem_of_mem_take hv),[],rfl,by simp,by simpa using yM⟩ ?_
 ·rintro done x left acc b7 R ⟨rfl,hleft,ks,rfl,hks,hlen⟩ hsome _
  obtain⟨i,rfl⟩:=hleft x (.head _)
  simp only[J7,M5,if_true,WX,b6,oI,eL]
  rw[Ec (by omega)]
  have hm:0≤i % 999983∧i % 999983 < 999983:=by omega
  refine hsome _ _ ⟨rfl,λv hv=>hleft v (.tail _ hv),ks++[(i % 999983).toNat],?_,?_,by simp at hlen ⊢; omega⟩
  ·rw[List.map_append]; simp[vi]; omega
  ·intro x hx
   rcases List.mem_append.mp hx with hx | hx
   ·exact hks x hx
   ·simp at hx; omega
 rintro acc b7 ⟨rfl,_,ks,rfl,hks,hlen⟩ nu hnu
 have hkl:ks.length≤24:=by simp at hlen; omega
 have nA:i8 b7 nu (.list (ks.map vi)) nu=some (.list (ks.map vi)):=b9 _ _ _
 generalize i8 b7 nu (.list (ks.map vi))=t8 at nA
 refine i6 ?_
 simp only[WX,j0,b6,if_true,oI,eL]
 refine A3 nA (by simp; omega) ?_
 simp only[List.length_map]
 rw[Va (by omega),Y0]
 have hk3:V.int (1+(ks.length:Int) / 16)=vi (1+ks.length / 16):=by simp[vi]
 rw[hk3]
 refine l0 (decide (ks=[])) (λR E q=>?_) (λe=>?_) (λe=>?_)
 ·simp only[WC,WX,b6,if_true,oI,eL,show((2:Nat)=3)=False by simp,if_false,z2,nA]
  refine⟨by simp; omega,?_⟩
  have:∀inst:Decidable (ks.map vi≠[]),(!@decide _ inst)=decide (ks=[]):=by
   intro inst
   rw[←decide_not,decide_eq_decide]
   simp
  exact(congrArg (λb=>R b t8) (this _)).mpr q
 ·refine i6 ?_
  simp only[WX,j0]
  intro r2 hr2
  have e2:i8 t8 r2 (.list (dflt.map vi)) r2=some (.list (dflt.map vi)):=b9 _ _ _
  refine Qr N PM SM (ns:=dflt) (by decide) (by decide) (by decide) e2 (k:=1+ks.length / 16) (by omega) (by omega) (by simp[b6]) (by simp[b6]) q
 ·have hne:ks≠[]:=by simpa using e
  exact Qr N PM SM hne (by omega) hks nA (k:=1+ks.length / 16) (by omega) (by omega) (by simp[b6]) (by simp[b6]) q
end
end Mine
end
section
open PySem PySem.W PyProof.Rows PySem.Calls
set_option Elab.async false
namespace Mine
abbrev Su:=Hd→Tm
def app(s:Su):Tm→Tm
 | .leaf h=>if h.isVar=true then s h else .leaf h
 | .un h a=>.un h (app s a)
 | .bin h a b=>.bin h (app s a) (app s b)
def U1(s:Su) (f:Bd):Prop:=∀p∈f,app s p.1=app s p.2
def Tm.ht:Tm→Nat
 | .leaf _=>1
 | .un _ a=>1+a.ht
 | .bin _ a b=>1+max a.ht b.ht
def Ef(g:Hd):Tm→Bool
 | .leaf h=>decide (h=g)
 | .un _ a=>Ef g a
 | .bin _ a b=>Ef g a || Ef g b
theorem W9(s q:Su):∀t,app q (app s t)=app (λh=>app q (s h)) t
 | .leaf h=>by cases e:h.isVar<;>simp[app,e]
 | .un h a=>by simp only[app,W9 s q a]
 | .bin h a b=>by simp only[app,W9 s q a,W9 s q b]
theorem app_congr{s q:Su}(h:∀g,g.isVar=true→s g=q g):∀t,app s t=app q t
 | .leaf g=>by
  unfold app
  by_cases e:g.isVar=true
  ·rw[if_pos e,if_pos e,h g e]
  ·rw[if_neg e,if_neg e]
 | .un g a=>by simp only[app,app_congr h a]
 | .bin g a b=>by simp only[app,app_congr h a,app_congr h b]
theorem Mu:∀t,app (λh=>.leaf h) t=t
 | .leaf g=>by unfold app; split<;>rfl
 | .un g a=>by simp only[app,Mu a]
 | .bin g a b=>by simp only[app,Mu a,Mu b]
theorem Bj{s q:Su}(h:∀g,g.isVar=true→app q (s g)=q g) (t:Tm):app q (app s t)=app q t:=by
 rw[W9]; exact app_congr h t
theorem y8{s:Su}{g:Hd}(h:g.isVar=true):app s (.leaf g)=s g:=by unfold app; rw[if_pos h]
theorem Aa{s:Su}{t:Tm}(h:t.hd.isVar=false):(app s t).hd=t.hd∧(app s t).kids=t.kids.map (app s):=by
 rcases t with g | ⟨g,a⟩ | ⟨g,a,b⟩
 ·simp only[Tm.hd] at h; simp[app,h,Tm.hd,Tm.kids]
 ·simp[app,Tm.hd,Tm.kids]
 ·simp[app,Tm.hd,Tm.kids]
theorem dK{a b:Tm}(h:a.hd=b.hd) (k:a.kids=b.kids):a=b:=by
 rcases a with g | ⟨g,x⟩ | ⟨g,x,y⟩<;>rcases b with g' | ⟨g',x'⟩ | ⟨g',x',y'⟩<;>simp[Tm.hd,Tm.kids] at h k<;>simp[h,k]
theorem Gk(t:Tm):1≤t.ht:=by cases t<;>simp only[Tm.ht]<;>omega
theorem mH{t a:Tm}(h:a∈t.kids):a.ht < t.ht:=by
 rcases t with g | ⟨g,x⟩ | ⟨g,x,y⟩<;>simp[Tm.kids] at h
 ·subst h; simp only[Tm.ht]; omega
 ·rcases h with rfl | rfl<;>simp only[Tm.ht]<;>omega
theorem S1{s:Su}{t a:Tm}(h:a∈t.kids):(app s a).ht < (app s t).ht:=by
 rcases t with g | ⟨g,x⟩ | ⟨g,x,y⟩<;>simp[Tm.kids] at h
 ·subst h; simp only[app,Tm.ht]; omega
 ·rcases h with rfl | rfl<;>simp only[app,Tm.ht]<;>omega
theorem Dd{q:Su}{a b:Tm}(ha:a.hd.isVar=false) (hb:b.hd.isVar=false) (h:a.hd=b.hd):app q a=app q b↔a.kids.map (app q)=b.kids.map (app q):=by
 obtain⟨h1,h2⟩:=Aa (s:=q) ha
 obtain⟨h3,h4⟩:=Aa (s:=q) hb
 constructor
 ·intro e; rw[←h2,←h4,e]
 ·intro e; exact dK (by rw[h1,h3,h]) (by rw[h2,h4,e])
theorem Kb{q:Su}{a b:Tm}(ha:a.hd.isVar=false) (hb:b.hd.isVar=false) (h:a.hd≠b.hd):app q a≠app q b:=by
 intro e
 apply h
 rw[←(Aa (s:=q) ha).1,←(Aa (s:=q) hb).1,e]
theorem Mv{q:Su}{g:Hd}(hg:g.isVar=true):∀{t:Tm},Ef g t=true→(q g).ht≤(app q t).ht∧(t≠.leaf g→(q g).ht < (app q t).ht)
 | .leaf h,e=>by
  simp only[Ef,decide_eq_true_eq] at e
  subst e
  exact⟨by rw[y8 hg]; exact Nat.le_refl _,λh=>absurd rfl h⟩
 | .un h a,e=>by
  have:=(Mv (q:=q) hg (t:=a) e).1
  simp only[app,Tm.ht]
  exact⟨by omega,λ_=>by omega⟩
 | .bin h a b,e=>by
  simp only[Ef,Bool.or_eq_true] at e
  simp only[app,Tm.ht]
  rcases e with e | e
  ·have:=(Mv (q:=q) hg (t:=a) e).1
   exact⟨by omega,λ_=>by omega⟩
  ·have:=(Mv (q:=q) hg (t:=b) e).1
   exact⟨by omega,λ_=>by omega⟩
def Ab(g:Hd) (t:Tm):Su:=λh=>if h=g then t else .leaf h
theorem X0{g:Hd}{t:Tm}:∀{u:Tm},Ef g u=false→app (Ab g t) u=u
 | .leaf h,e=>by
  simp only[Ef,decide_eq_false_iff_not] at e
  unfold app
  split
  ·simp[Ab,e]
  ·rfl
 | .un h a,e=>by simp only[app,X0 (u:=a) e]
 | .bin h a b,e=>by
  simp only[Ef,Bool.or_eq_false_iff] at e
  simp only[app,X0 e.1,X0 e.2]
theorem Mw{g:Hd}{t:Tm}:∀u:Tm,(app (Ab g t) u).ht+1≤u.ht+t.ht
 | .leaf h=>by
  have:=Gk t
  unfold app
  split
  ·unfold Ab
   split
   ·simp only[Tm.ht]; omega
   ·simp only[Tm.ht]; omega
  ·simp only[Tm.ht]; omega
 | .un h a=>by have:=Mw (g:=g) (t:=t) a; simp only[app,Tm.ht]; omega
 | .bin h a b=>by
  have:=Mw (g:=g) (t:=t) a
  have:=Mw (g:=g) (t:=t) b
  simp only[app,Tm.ht]; omega
theorem M1{f:Bd}{a b k:Tm}:f6 (f++[(a,b)]) k=match f6 f k with | some v=>some v | none=>if a=k then some b else none:=by
 induction f with
 | nil=>simp[f6]
 | cons p f ih =>
  rw[List.cons_append]
  unfold f6
  split
  ·rfl
  ·exact ih
theorem D3{q:Su}:∀{n:Nat}{f:Bd}{t r:Tm},U1 q f→walk n f t=some r→app q t=app q r
 | 0,f,t,r,_,h=>by cases h
 | n+1,f,t,r,hs,h=>by
  unfold walk at h
  split at h
  ·cases h; rfl
  ·rename_i v hv
   rw[hs _ (j8 hv),D3 hs h]
theorem G5{a b:Tm}{f:Bd}(ha:f6 f a=none) (hb:f6 f b=none) (hne:a≠b):∀{n:Nat}{t r:Tm},walk n f t=some r→walk (n+1) (f++[(a,b)]) t=some (if r=a then b else r)
 | 0,t,r,h=>by cases h
 | n+1,t,r,h=>by
  unfold walk at h
  split at h
  ·rename_i e
   cases h
   unfold walk
   rw[M1,e]
   simp only
   by_cases ht:a=t
   ·subst ht
    simp only[if_true]
    unfold walk
    rw[M1,hb]
    simp only[if_neg hne]
   ·rw[if_neg ht,if_neg (Ne.symm ht)]
  ·rename_i v e
   unfold walk
   rw[M1,e]
   exact G5 ha hb hne h
theorem Ya{n:Nat}{f:Bd}{t:Tm}(h:f6 f t=none):walk (n+1) f t=some t:=by unfold walk; rw[h]
def Wk(f:Bd):Prop:=∀t,∃r,walk (f.length+1) f t=some r
theorem Wk.snoc{f:Bd}(h:Wk f){a b:Tm}(ha:f6 f a=none) (hb:f6 f b=none) (hne:a≠b):Wk (f++[(a,b)]):=λt=>by
 obtain⟨r,hr⟩:=h t
 have:=G5 ha hb hne hr
 simp only[List.length_append,List.length_cons,List.length_nil]
 exact⟨_,this⟩
theorem U1.snoc{q:Su}{f:Bd}{a b:Tm}:U1 q (f++[(a,b)])↔U1 q f∧app q a=app q b:=by
 unfold U1
 constructor
 ·intro h
  exact⟨λp hp=>h p (List.mem_append.mpr (.inl hp)),h (a,b) (List.mem_append.mpr (.inr (.head _)))⟩
 ·rintro⟨h,e⟩ p hp
  rcases List.mem_append.mp hp with hp | hp
  ·exact h p hp
  ·simp at hp; subst hp; exact e
theorem N4:∀t:Tm,t.ht=t.nest
 | .leaf _=>rfl
 | .un _ a=>by simp only[Tm.ht,Tm.nest,N4 a]
 | .bin _ a b=>by simp only[Tm.ht,Tm.nest,N4 a,N4 b]
def NN:Nat→Nat
 | 0=>6
 | 1=>11
 | 2=>21
 | _=>41
def SQ:Nat→Nat
 | 0=>73
 | 1=>62
 | 2=>41
 | _=>0
theorem gW{k:Nat}(h:k < 3):NN k+NN k=NN (k+1)+1:=by
 rcases k with _ | _ | _ | k<;>simp[NN]<;>omega
theorem NS{k j:Nat}(h:k < j) (hj:j≤3):NN j+SQ j≤SQ k:=by
 rcases k with _ | _ | _ | k<;>rcases j with _ | _ | _ | _ | j<;>simp[NN,SQ]<;>omega
def U6(t:Tm):Prop:=t.o5=true∧t.ht≤6
theorem U6.kid{t a:Tm}(h:U6 t) (ha:a∈t.kids):U6 a:=by
 refine⟨?_,by have:=mH ha; have:=h.2; omega⟩
 have:=h.1
 rcases t with g | ⟨g,x⟩ | ⟨g,x,y⟩<;>simp[Tm.kids] at ha<;>simp only[Tm.o5,Bool.and_eq_true] at this
 ·subst ha; exact this.2
 ·rcases ha with rfl | rfl
  ·exact this.1.2
  ·exact this.2
theorem U6.var{t:Tm}(h:U6 t) (hv:t.hd.isVar=true):∃g,t=.leaf g∧g.isVar=true:=by
 obtain⟨_,g,e⟩:=A8 h.1 hv
 subst e; exact⟨g,rfl,hv⟩
structure UI(f:Bd) (s:Su):Prop where
 keys:∀p∈f,p.1.hd.isVar=true
 nd:(f.map (·.1)).Nodup
 eH:∀p∈f,U6 p.1∧U6 p.2
 wk:Wk f
 sol:U1 s f
 gen:∀q,U1 q f→∀g,g.isVar=true→app q (s g)=q g
 free:∀g,g.isVar=true→f6 f (.leaf g)=none→s g=.leaf g
 size:∀t:Tm,t.ht≤6→(app s t).ht≤NN f.length
theorem UI.len{f:Bd}{s:Su}(u:UI f s):f.length≤3:=by
 have:=w9 (T:=[tX,tY,tM]) u.nd λx hx=>by
  obtain⟨p,hp,rfl⟩:=List.mem_map.mp hx
  exact(A8 (u.eH p hp).1.1 (u.keys p hp)).1
 simpa using this
theorem Qs{f:Bd}{k:Tm}(h:k∈f.map (·.1)):∃v,f6 f k=some v:=by
 induction f with
 | nil=>simp at h
 | cons p f ih =>
  unfold f6
  by_cases e:p.1=k
  ·exact⟨_,if_pos e⟩
  ·rw[if_neg e]
   rcases List.mem_cons.mp h with h | h
   ·exact absurd h.symm e
   ·exact ih h
theorem P9{f:Bd}{k:Tm}(h:f6 f k=none):k∉f.map (·.1):=λhk=>by
 obtain⟨v,hv⟩:=Qs hk
 rw[hv] at h; cases h
theorem UI.len2{f:Bd}{s:Su}(u:UI f s){a:Tm}(ha:U6 a) (hv:a.hd.isVar=true) (hl:f6 f a=none):f.length < 3:=by
 have hn:(a::f.map (·.1)).Nodup:=List.nodup_cons.mpr ⟨P9 hl,u.nd⟩
 have:=w9 (T:=[tX,tY,tM]) hn λx hx=>by
  rcases List.mem_cons.mp hx with rfl | hx
  ·exact(A8 ha.1 hv).1
  ·obtain⟨p,hp,rfl⟩:=List.mem_map.mp hx
   exact(A8 (u.eH p hp).1.1 (u.keys p hp)).1
 simp at this; omega
theorem UI.dL{f:Bd}{s:Su}(u:UI f s){n:Nat}{t r:Tm}(ht:U6 t) (h:walk n f t=some r):U6 r:=E9 (λp hp=>(u.eH p hp).2) ht h
theorem Qt{g:Tm→Option Bool}{h:Tm→Bool}:∀{l:List Tm},(∀a∈l,g a=some (h a))→anyM g l=some (l.any h)
 | [],_=>rfl
 | a::l,e=>by
  unfold anyM
  rw[e a (.head _),Qt λx hx=>e x (.tail _ hx)]
  rfl
theorem dM{g:Hd}{t:Tm}(h:t≠.leaf g):Ef g t=t.kids.any (Ef g):=by
 rcases t with g' | ⟨g',x⟩ | ⟨g',x,y⟩
 ·have:g'≠g:=λe=>h (by rw[e])
  simp[Ef,Tm.kids,this]
 ·simp[Ef,Tm.kids]
 ·simp[Ef,Tm.kids]
theorem Cg{f:Bd}{s:Su}(u:UI f s){g:Hd}(hg:g.isVar=true) (hl:f6 f (.leaf g)=none) (b:Tm):∀(m:Nat){k:Tm}{w:Nat},U6 k→(∃r,walk w f k=some r)→w≤3→3 * (app s k).ht+w≤m+3→f.length≤2→occurs m (f++[(.leaf g,b)]) (.leaf g) k=some (Ef g (app s k))
 | 0,k,w,hk,⟨r,hr⟩,hw,hm,hf=>by
  have:=Gk (app s k)
  have:w≠0:=λe=>by subst e; cases hr
  omega
 | m+1,k,w,hk,⟨r,hr⟩,hw,hm,hf=>by
  unfold occurs
  by_cases e:k=.leaf g
  ·subst e
   rw[if_pos rfl,y8 hg,u.free g hg hl]
   simp[Ef]
  ·rw[if_neg e,M1]
   obtain⟨w,rfl⟩:∃j,w=j+1:=⟨w - 1,by have:w≠0:=λe=>by {subst e; cases hr}; omega⟩
   unfold walk at hr
   cases hl2:f6 f k with
   | some v =>
    rw[hl2] at hr
    have hp:=j8 hl2
    have hkv:k.hd.isVar=true:=u.keys _ hp
    simp only[if_pos hkv]
    have hs:=u.sol _ hp
    simp only at hs
    rw[hs]
    exact Cg u hg hl b m (u.eH _ hp).2 ⟨r,hr⟩ (by omega) (by rw[←hs]; omega) hf
   | none =>
    rw[if_neg (Ne.symm e)]
    simp only
    by_cases hv:k.hd.isVar=true
    ·obtain⟨g',rfl,hg'⟩:=hk.var hv
     have hne:g'≠g:=λh=>e (by rw[h])
     rw[y8 hg',u.free g' hg' hl2]
     simp[Tm.kids,anyM,Ef,hne]
    ·have hv':k.hd.isVar=false:=by simpa using hv
     have hk2:=Aa (s:=s) hv'
     have hne:app s k≠.leaf g:=λh=>by
      have h1:k.hd=g:=by rw[←hk2.1,h]; rfl
      rw[h1,hg] at hv'; cases hv'
     rw[dM hne,hk2.2,List.any_map]
     refine Qt λa ha=>?_
     obtain⟨r',hr'⟩:=u.wk a
     have:=S1 (s:=s) ha
     exact Cg u hg hl b m (w:=f.length+1) (hk.kid ha) ⟨r',hr'⟩ (by omega) (by omega) hf
theorem Qu{f:Bd}{s:Su}(u:UI f s){a b:Tm}(ha:U6 a) (hb:U6 b) (hav:a.hd.isVar=true) (hla:f6 f a=none) (hlb:f6 f b=none) (hne:a≠b) :
  ∃r,W3 f a b=some (r,f++[(a,b)])∧(r=true→∃s',UI (f++[(a,b)]) s')∧(r=false→∀q,U1 q f→app q a≠app q b):=by
 have hlen:=u.len2 ha hav hla
 obtain⟨g,rfl,hg⟩:=ha.var hav
 have hN:(app s b).ht≤21:=by
  have h1:=u.size b hb.2
  have:∀k,k < 3→NN k≤21:=by intro k hk; rcases k with _ | _ | _ | k<;>simp[NN]<;>omega
  have:=this _ hlen
  omega
 have yN:=Cg u hg hla b 70 hb (u.wk b) (by omega) (by omega) (by omega)
 have hbv:app s b≠.leaf g:=by
  by_cases hv:b.hd.isVar=true
  ·obtain⟨g',rfl,hg'⟩:=hb.var hv
   rw[y8 hg',u.free g' hg' hlb]
   exact λh=>hne h.symm
  ·intro h
   have h1:b.hd=g:=by rw[←(Aa (s:=s) (t:=b) (by simpa using hv)).1,h]; rfl
   rw[h1] at hv
   exact hv hg
 have hsg:=u.free g hg hla
 refine⟨!Ef g (app s b),?_,?_,?_⟩
 ·unfold W3
  rw[if_pos (by omega),yN]
 ·intro hr
  have hvf:Ef g (app s b)=false:=by simpa using hr
  have hτ:app (Ab g (app s b)) (app s b)=app s b:=X0 hvf
  have hs':∀t,app (λh=>app (Ab g (app s b)) (s h)) t=app (Ab g (app s b)) (app s t):=λt=>(W9 s _ t).symm
  refine⟨λh=>app (Ab g (app s b)) (s h),?_,?_,?_,?_,?_,?_,?_,?_⟩
  ·intro p hp
   rcases List.mem_append.mp hp with hp | hp
   ·exact u.keys p hp
   ·simp at hp; subst hp; exact hav
  ·rw[List.map_append,List.nodup_append]
   refine⟨u.nd,by simp,?_⟩
   intro x hx y hy
   simp at hy; subst hy
   intro e; subst e; exact P9 hla hx
  ·intro p hp
   rcases List.mem_append.mp hp with hp | hp
   ·exact u.eH p hp
   ·simp at hp; subst hp; exact⟨ha,hb⟩
  ·exact u.wk.snoc hla hlb hne
  ·rw[U1.snoc]
   refine⟨λp hp=>by rw[hs',hs',u.sol p hp],?_⟩
   rw[hs',hs',hτ,y8 hg,hsg,y8 hg]
   simp[Ab]
  ·intro q hq h hh
   rw[U1.snoc] at hq
   have hqs:=u.gen q hq.1
   have hqb:app q (app s b)=q g:=by rw[Bj hqs,←hq.2,y8 hg]
   have h1:∀h',h'.isVar=true→app q (Ab g (app s b) h')=q h':=by
    intro h' hv
    unfold Ab
    split
    ·rename_i e; rw[hqb,e]
    ·exact y8 hv
   show app q (app (Ab g (app s b)) (s h))=q h
   rw[Bj h1,hqs h hh]
  ·intro h hh hl
   rw[M1] at hl
   cases e:f6 f (.leaf h) with
   | some v=>rw[e] at hl; cases hl
   | none =>
    rw[e] at hl
    simp only at hl
    have hhg:h≠g:=λe=>by subst e; simp at hl
    show app (Ab g (app s b)) (s h)=.leaf h
    rw[u.free h hh e,y8 hh]
    simp[Ab,hhg]
  ·intro t ht
   rw[hs']
   have h1:=Mw (g:=g) (t:=app s b) (app s t)
   have h2:=u.size t ht
   have h3:=u.size b hb.2
   have:=gW hlen
   simp only[List.length_append,List.length_cons,List.length_nil]
   rw[Nat.zero_add]
   omega
 ·intro hr q hq e
  have vC:Ef g (app s b)=true:=by simpa using hr
  have:=(Mv (q:=q) hg vC).2 hbv
  rw[Bj (u.gen q hq),←e,y8 hg] at this
  omega
theorem UI.nil:UI [] (λh=>.leaf h) where
 keys:=by simp
 nd:=by simp
 eH:=by simp
 wk:=λt=>⟨t,rfl⟩
 sol:=by intro p hp; cases hp
 gen:=λq _ g hg=>y8 hg
 free:=λ_ _ _=>rfl
 size:=λt ht=>by rw[Mu]; exact ht
end Mine
end
section
open PySem PySem.W PyProof.Rows PySem.Calls
set_option Elab.async false
set_option maxRecDepth 20000
namespace Mine
theorem gX:∀h∈M0,∀g∈M0,h.isVar=false→g.isVar=false→h.sort=g.sort→h.l9=g.l9→h=g:=by decide +kernel
def UR(f:Bd) (s:Su) (r:Bool) (f':Bd) (E:Su→Prop):Prop :=
 (r=true→∃s',UI f' s'∧(∀q,U1 q f'↔U1 q f∧E q)∧((f'=f∧s'=s)∨f.length < f'.length))∧(r=false→∀q,U1 q f→¬E q)
theorem Kc{n:Nat}(ih:∀(f:Bd) (s:Su) (a b:Tm),UI f s→U6 a→U6 b→(app s a).ht+SQ f.length≤n→∃r f',N5 n f a b=some (r,f')∧UR f s r f' λq=>app q a=app q b) :
  ∀(as bs:List Tm) (f:Bd) (s:Su),UI f s→(∀a∈as,U6 a)→(∀b∈bs,U6 b)→as.length=bs.length→(∀a∈as,(app s a).ht+SQ f.length≤n) →
   ∃r f',E2 (N5 n) f as bs=some (r,f')∧UR f s r f' λq=>as.map (app q)=bs.map (app q)
 | [],[],f,s,u,_,_,_,_=>⟨true,f,rfl,λ_=>⟨s,u,λq=>by simp,.inl ⟨rfl,rfl⟩⟩,by simp⟩
 | [],b::bs,f,s,u,_,_,hl,_=>by simp at hl
 | a::as,[],f,s,u,_,_,hl,_=>by simp at hl
 | a::as,b::bs,f,s,u,ha,hb,hl,hm=>by
  obtain⟨r1,f1,h1,hT,hF⟩:=ih f s a b u (ha _ (.head _)) (hb _ (.head _)) (hm _ (.head _))
  unfold E2
  rw[h1]
  cases r1 with
  | false =>
   refine⟨false,f1,rfl,by simp,λ_ q hq e=>?_⟩
   simp only[List.map_cons,List.cons.injEq] at e
   exact hF rfl q hq e.1
  | true =>
   obtain⟨s1,u1,hS1,hg1⟩:=hT rfl
   obtain⟨r2,f2,h2,hT2,hF2⟩:=Kc ih as bs f1 s1 u1 (λx hx=>ha x (.tail _ hx)) (λx hx=>hb x (.tail _ hx)) (by simpa using hl) (λx hx=>by
    rcases hg1 with⟨rfl,rfl⟩ | hg
    ·exact hm x (.tail _ hx)
    ·have h3:=NS hg u1.len
     have h4:=u1.size x (ha x (.tail _ hx)).2
     have h5:=hm x (.tail _ hx)
     omega)
   refine⟨r2,f2,h2,λe=>?_,λe q hq e'=>?_⟩
   ·obtain⟨s2,u2,hS2,hg2⟩:=hT2 e
    refine⟨s2,u2,λq=>?_,?_⟩
    ·rw[hS2,hS1,and_assoc]
     simp only[List.map_cons,List.cons.injEq]
    ·rcases hg1 with⟨rfl,rfl⟩ | hg1
     ·exact hg2
     ·rcases hg2 with⟨rfl,rfl⟩ | hg2
      ·exact .inr hg1
      ·exact .inr (by omega)
   ·simp only[List.map_cons,List.cons.injEq] at e'
    exact hF2 e q ((hS1 q).mpr ⟨hq,e'.1⟩) e'.2
theorem UR.swap{f f':Bd}{s:Su}{r:Bool}{E E':Su→Prop}(h:UR f s r f' E) (he:∀q,U1 q f→(E q↔E' q)):UR f s r f' E':=by
 refine⟨λe=>?_,λe q hq e'=>h.2 e q hq ((he q hq).mpr e')⟩
 obtain⟨s',u',hS,hg⟩:=h.1 e
 exact⟨s',u',λq=>by rw[hS]; exact⟨fun⟨a,b⟩=>⟨a,(he q a).mp b⟩,fun⟨a,b⟩=>⟨a,(he q a).mpr b⟩⟩,hg⟩
theorem Vn{f:Bd}{s:Su}(u:UI f s){a b:Tm}(ha:U6 a) (hb:U6 b) (hav:a.hd.isVar=true) (hla:f6 f a=none) (hlb:f6 f b=none) (hne:a≠b) :
  ∃r f',W3 f a b=some (r,f')∧UR f s r f' λq=>app q a=app q b:=by
 obtain⟨r,h,hT,hF⟩:=Qu u ha hb hav hla hlb hne
 refine⟨r,_,h,λe=>?_,hF⟩
 obtain⟨s',u'⟩:=hT e
 exact⟨s',u',λq=>U1.snoc,.inr (by simp)⟩
theorem Qv:∀(n:Nat) (f:Bd) (s:Su) (a b:Tm),UI f s→U6 a→U6 b→(app s a).ht+SQ f.length≤n→∃r f',N5 n f a b=some (r,f')∧UR f s r f' λq=>app q a=app q b
 | 0,f,s,a,b,u,ha,hb,hm=>by have:=Gk (app s a); omega
 | n+1,f,s,a,b,u,ha,hb,hm=>by
  obtain⟨x,hx⟩:=u.wk a
  obtain⟨y,hy⟩:=u.wk b
  have gY:=u.dL ha hx
  have sB:=u.dL hb hy
  have hxn:=w6 hx
  have hyn:=w6 hy
  have hE:∀q,U1 q f→(app q x=app q y↔app q a=app q b):=λq hq=>by rw[D3 hq hx,D3 hq hy]
  have hax:app s a=app s x:=D3 u.sol hx
  unfold N5
  rw[hx,hy]
  simp only
  by_cases e:x=y
  ·rw[if_pos e]
   refine⟨true,f,rfl,λ_=>⟨s,u,λq=>⟨λh=>⟨h,(hE q h).mp (by rw[e])⟩,λh=>h.1⟩,.inl ⟨rfl,rfl⟩⟩,by simp⟩
  rw[if_neg e]
  by_cases hv:y.hd.isVar=true
  ·rw[if_pos hv]
   obtain⟨r,f',h,hU⟩:=Vn u sB gY hv hyn hxn (Ne.symm e)
   exact⟨r,f',h,hU.swap λq hq=>⟨λh=>(hE q hq).mp h.symm,λh=>((hE q hq).mpr h).symm⟩⟩
  rw[if_neg hv]
  by_cases hv2:x.hd.isVar=true
  ·rw[if_pos hv2]
   obtain⟨r,f',h,hU⟩:=Vn u gY sB hv2 hxn hyn e
   exact⟨r,f',h,hU.swap hE⟩
  rw[if_neg hv2]
  have hxv:x.hd.isVar=false:=by simpa using hv2
  have yO:y.hd.isVar=false:=by simpa using hv
  unfold By
  by_cases hc:x.hd.sort≠y.hd.sort∨x.hd.l9≠y.hd.l9
  ·rw[if_pos hc]
   refine⟨false,f,rfl,by simp,λ_ q hq h=>?_⟩
   refine Kb hxv yO (λh=>?_) ((hE q hq).mpr h)
   rw[h] at hc; simp at hc
  rw[if_neg hc]
  have hhd:x.hd=y.hd:=gX _ (F4 gY.1) _ (F4 sB.1) hxv yO (by simp only[not_or,Decidable.not_not] at hc; exact hc.1) (by simp only[not_or,Decidable.not_not] at hc; exact hc.2)
  have hkl:=Bc gY.1 sB.1 hhd
  have hk0:x.kids≠[]:=by
   intro h0
   refine e (dK hhd ?_)
   rw[h0] at hkl ⊢
   exact(List.eq_nil_of_length_eq_zero hkl.symm).symm
  rw[if_neg (by simp[hk0,hkl])]
  obtain⟨r,f',h,hU⟩:=Kc (n:=n) (Qv n) x.kids y.kids f s u (λa h=>gY.kid h) (λa h=>sB.kid h) hkl (λc hc=>by
   have:=S1 (s:=s) hc
   rw[←hax] at this
   omega)
  exact⟨r,f',h,hU.swap λq hq=>(Dd hxv yO hhd).symm.trans (hE q hq)⟩
theorem Gl{f:Bd}{s:Su}(u:UI f s):∀(m:Nat){t:Tm}{w:Nat},U6 t→(∃r,walk w f t=some r)→w≤4→4 * (app s t).ht+w≤m+4→I9 m f t=some (app s t)
 | 0,t,w,ht,⟨r,hr⟩,hw,hm=>by
  have:=Gk (app s t)
  have:w≠0:=λe=>by subst e; cases hr
  omega
 | m+1,t,w,ht,⟨r,hr⟩,hw,hm=>by
  have hlen:=u.len
  unfold I9
  obtain⟨w,rfl⟩:∃j,w=j+1:=⟨w - 1,by have:w≠0:=λe=>by {subst e; cases hr}; omega⟩
  unfold walk at hr
  cases hl:f6 f t with
  | some v =>
   rw[hl] at hr
   have hp:=j8 hl
   have hs:=u.sol _ hp
   simp only at hs
   simp only
   rw[hs]
   exact Gl u m (u.eH _ hp).2 ⟨r,hr⟩ (by omega) (by rw[←hs]; omega)
  | none =>
   simp only
   have kid:∀a∈t.kids,I9 m f a=some (app s a):=λa ha=>by
    obtain⟨r',hr'⟩:=u.wk a
    have:=S1 (s:=s) ha
    exact Gl u m (w:=f.length+1) (ht.kid ha) ⟨r',hr'⟩ (by omega) (by omega)
   rcases t with g | ⟨g,x⟩ | ⟨g,x,y⟩
   ·unfold m6 app
    by_cases hg:g.isVar=true
    ·rw[if_pos hg,u.free g hg hl]
    ·rw[if_neg hg]
   ·simp[m6,app,kid x (by simp[Tm.kids])]
   ·simp[m6,app,kid x (by simp[Tm.kids]),kid y (by simp[Tm.kids])]
def Eqv(f:Bd) (p:Tm×Tm):Prop:=∃r,walk (f.length+1) f p.1=some r∧walk (f.length+1) f p.2=some r
theorem Eqv.snoc{f:Bd}{p:Tm×Tm}(h:Eqv f p){a b:Tm}(ha:f6 f a=none) (hb:f6 f b=none) (hne:a≠b):Eqv (f++[(a,b)]) p:=by
 obtain⟨r,h1,h2⟩:=h
 have g1:=G5 ha hb hne h1
 have g2:=G5 ha hb hne h2
 refine⟨_,by simpa using g1,by simpa using g2⟩
theorem Eqv.new{f:Bd}{p:Tm×Tm}{a b:Tm}(h1:walk (f.length+1) f p.1=some a) (h2:walk (f.length+1) f p.2=some b) (hne:a≠b):Eqv (f++[(a,b)]) p∧Eqv (f++[(b,a)]) p:=by
 have ha:=w6 h1
 have hb:=w6 h2
 constructor
 ·have g1:=G5 ha hb hne h1
  have g2:=G5 ha hb hne h2
  rw[if_pos rfl] at g1
  rw[if_neg (Ne.symm hne)] at g2
  exact⟨_,by simpa using g1,by simpa using g2⟩
 ·have g1:=G5 hb ha (Ne.symm hne) h1
  have g2:=G5 hb ha (Ne.symm hne) h2
  rw[if_neg hne] at g1
  rw[if_pos rfl] at g2
  exact⟨_,by simpa using g1,by simpa using g2⟩
theorem Eqv.sol{f:Bd}{p:Tm×Tm}(h:Eqv f p){q:Su}(hq:U1 q f):app q p.1=app q p.2:=by
 obtain⟨r,h1,h2⟩:=h
 rw[D3 hq h1,D3 hq h2]
structure JI(W:List Tm) (equal boss todo:Bd):Prop where
 nd:(boss.map (·.1)).Nodup
 Yk:∀p∈boss,p.1∈W∧p.2∈W
 Qw:∀p∈todo,p.1∈W∧p.2∈W
 wk:Wk boss
 shape:∀p∈boss,p.1.hd.isVar=false→p.2.hd.isVar=false∧p.1.hd=p.2.hd∧∀k∈p.1.kids.zip p.2.kids,k∈todo∨Eqv boss k
 eq:∀p∈equal,p∈todo∨Eqv boss p
 fwd:∀q,U1 q equal→U1 q boss∧U1 q todo
theorem JI.len{W:List Tm}{equal boss todo:Bd}(h:JI W equal boss todo):boss.length≤W.length:=by
 have:=w9 h.nd λx hx=>by
  obtain⟨p,hp,rfl⟩:=List.mem_map.mp hx
  exact(h.Yk p hp).1
 simpa using this
theorem Tl{W:List Tm}(hW:∀t∈W,∀a∈t.kids,a∈W){a b:Tm}(ha:a∈W) (hb:b∈W):∀p∈a.kids.zip b.kids,p.1∈W∧p.2∈W:=bP (hW a ha) (hW b hb)
theorem M3{α:Type}{l:List α}{x:α}(h:l.getLast?=some x):l=l.dropLast++[x]:=by
 cases l with
 | nil=>simp at h
 | cons y l =>
  have hne:y::l≠[]:=by simp
  rw[List.getLast?_eq_getLast hne] at h
  cases h
  exact(List.dropLast_concat_getLast hne).symm
theorem zip_map{q:Su}:∀{l m:List Tm},l.length=m.length→(l.map (app q)=m.map (app q)↔∀k∈l.zip m,app q k.1=app q k.2)
 | [],[],_=>by simp
 | [],y::m,h=>by simp at h
 | x::l,[],h=>by simp at h
 | x::l,y::m,h=>by
  simp only[List.map_cons,List.cons.injEq,List.zip_cons_cons,List.forall_mem_cons]
  rw[zip_map (l:=l) (m:=m) (by simpa using h)]
theorem JI.bind{W:List Tm}{equal boss todo:Bd}{p:Tm×Tm}(h:JI W equal boss (todo++[p])){a b:Tm}(ha:a∈W) (hb:b∈W) (hla:f6 boss a=none) (hlb:f6 boss b=none) (hne:a≠b) (hp:Eqv (boss++[(a,b)]) p) (hs:∀q,U1 q boss→app q p.1=app q p.2→app q a=app q b){new:Bd}(hnW:∀k∈new,k.1∈W∧k.2∈W) (hsh:a.hd.isVar=false→b.hd.isVar=false∧a.hd=b.hd∧∀k∈a.kids.zip b.kids,k∈new) (hns:∀q,app q a=app q b→U1 q new):JI W equal (boss++[(a,b)]) (todo++new) where
 nd:=by
  rw[List.map_append,List.nodup_append]
  refine⟨h.nd,by simp,?_⟩
  intro x hx y hy
  simp at hy; subst hy
  intro e; subst e; exact P9 hla hx
 Yk:=λp hp=>by
  rcases List.mem_append.mp hp with hp | hp
  ·exact h.Yk p hp
  ·simp at hp; subst hp; exact⟨ha,hb⟩
 Qw:=λk hk=>by
  rcases List.mem_append.mp hk with hk | hk
  ·exact h.Qw k (List.mem_append.mpr (.inl hk))
  ·exact hnW k hk
 wk:=h.wk.snoc hla hlb hne
 shape:=λk hk hv=>by
  rcases List.mem_append.mp hk with hk | hk
  ·obtain⟨h1,h2,h3⟩:=h.shape k hk hv
   refine⟨h1,h2,λj hj=>?_⟩
   rcases h3 j hj with h3 | h3
   ·rcases List.mem_append.mp h3 with h3 | h3
    ·exact .inl (List.mem_append.mpr (.inl h3))
    ·simp at h3; subst h3; exact .inr hp
   ·exact .inr (h3.snoc hla hlb hne)
  ·simp at hk; subst hk
   obtain⟨h1,h2,h3⟩:=hsh hv
   exact⟨h1,h2,λj hj=>.inl (List.mem_append.mpr (.inr (h3 j hj)))⟩
 eq:=λk hk=>by
  rcases h.eq k hk with h3 | h3
  ·rcases List.mem_append.mp h3 with h3 | h3
   ·exact .inl (List.mem_append.mpr (.inl h3))
   ·simp at h3; subst h3; exact .inr hp
  ·exact .inr (h3.snoc hla hlb hne)
 fwd:=λq hq=>by
  obtain⟨h1,h2⟩:=h.fwd q hq
  have hpq:=h2 p (List.mem_append.mpr (.inr (.head _)))
  have e:=hs q h1 hpq
  refine⟨U1.snoc.mpr ⟨h1,e⟩,λk hk=>?_⟩
  rcases List.mem_append.mp hk with hk | hk
  ·exact h2 k (List.mem_append.mpr (.inl hk))
  ·exact hns q e k hk
theorem JI.drop{W:List Tm}{equal boss todo:Bd}{p:Tm×Tm}(h:JI W equal boss (todo++[p])) (hp:Eqv boss p):JI W equal boss todo where
 nd:=h.nd
 Yk:=h.Yk
 Qw:=λk hk=>h.Qw k (List.mem_append.mpr (.inl hk))
 wk:=h.wk
 shape:=λk hk hv=>by
  obtain⟨h1,h2,h3⟩:=h.shape k hk hv
  refine⟨h1,h2,λj hj=>?_⟩
  rcases h3 j hj with h3 | h3
  ·rcases List.mem_append.mp h3 with h3 | h3
   ·exact .inl h3
   ·simp at h3; subst h3; exact .inr hp
  ·exact .inr h3
 eq:=λk hk=>by
  rcases h.eq k hk with h3 | h3
  ·rcases List.mem_append.mp h3 with h3 | h3
   ·exact .inl h3
   ·simp at h3; subst h3; exact .inr hp
  ·exact .inr h3
 fwd:=λq hq=>⟨(h.fwd q hq).1,λk hk=>(h.fwd q hq).2 k (List.mem_append.mpr (.inl hk))⟩
theorem J1{W:List Tm}(hW:∀t∈W,∀a∈t.kids,a∈W) (hL:∀t∈W,t.o5=true){equal:Bd}:∀(n:Nat) (boss todo:Bd),JI W equal boss todo→3 * (W.length - boss.length)+todo.length < n →
  ∃res,D1 n boss todo=some res∧(res=none→∀q,¬U1 q equal)∧∀dJ,res=some dJ→JI W equal dJ []
 | 0,_,_,_,hn=>by omega
 | n+1,boss,todo,h,hn=>by
  unfold D1
  cases hg:todo.getLast? with
  | none =>
   have:todo=[]:=by simpa using hg
   subst this
   exact⟨some boss,rfl,by simp,λb e=>by cases e; exact h⟩
  | some p =>
   have hsp:=M3 hg
   have htl:todo.length=todo.dropLast.length+1:=by
    have:=congrArg List.length hsp
    simpa using this
   generalize todo.dropLast=td at hsp htl
   subst hsp
   have hpW:=h.Qw p (List.mem_append.mpr (.inr (.head _)))
   obtain⟨a,ha⟩:=h.wk p.1
   obtain⟨b,hb⟩:=h.wk p.2
   have mI:a∈W:=E9 (D:=(·∈W)) (λp hp=>(h.Yk p hp).2) hpW.1 ha
   have nD:b∈W:=E9 (D:=(·∈W)) (λp hp=>(h.Yk p hp).2) hpW.2 hb
   have hla:=w6 ha
   have hlb:=w6 hb
   have hs:∀q,U1 q boss→app q p.1=app q p.2→app q a=app q b:=λq hq e=>by rw[←D3 hq ha,←D3 hq hb,e]
   have grow:∀{x:Tm},x∈W→f6 boss x=none→boss.length+1≤W.length:=fun {x} hx hl=>by
    have hn:(x::boss.map (·.1)).Nodup:=List.nodup_cons.mpr ⟨P9 hl,h.nd⟩
    have:=w9 hn λy hy=>by
     rcases List.mem_cons.mp hy with rfl | hy
     ·exact hx
     ·obtain⟨k,hk,rfl⟩:=List.mem_map.mp hy
      exact(h.Yk k hk).1
    simpa using this
   simp only[ha,hb]
   by_cases e:a=b
   ·rw[if_pos e]
    exact J1 hW hL n boss td (h.drop ⟨a,ha,by rw[e]; exact hb⟩) (by omega)
   rw[if_neg e]
   have hE:=Eqv.new ha hb e
   by_cases hv:a.hd.isVar=true
   ·rw[if_pos hv]
    have:=h.bind mI nD hla hlb e hE.1 hs (new:=[]) (by simp) (λh=>by rw[hv] at h; cases h) (λq _ k hk=>by cases hk)
    rw[List.append_nil] at this
    have:=grow mI hla
    exact J1 hW hL n _ td (by assumption) (by simp only[List.length_append,List.length_cons,List.length_nil]; omega)
   rw[if_neg hv]
   by_cases hv2:b.hd.isVar=true
   ·rw[if_pos hv2]
    have:=h.bind nD mI hlb hla (Ne.symm e) hE.2 (λq hq h=>(hs q hq h).symm) (new:=[]) (by simp) (λh=>by rw[hv2] at h; cases h) (λq _ k hk=>by cases hk)
    rw[List.append_nil] at this
    have:=grow nD hlb
    exact J1 hW hL n _ td (by assumption) (by simp only[List.length_append,List.length_cons,List.length_nil]; omega)
   rw[if_neg hv2]
   have hav:a.hd.isVar=false:=by simpa using hv
   have hbv:b.hd.isVar=false:=by simpa using hv2
   by_cases hh:a.hd≠b.hd
   ·rw[if_pos hh]
    refine⟨none,rfl,λ_ q hq=>?_,by simp⟩
    obtain⟨h1,h2⟩:=h.fwd q hq
    exact Kb hav hbv hh (hs q h1 (h2 p (List.mem_append.mpr (.inr (.head _)))))
   rw[if_neg hh]
   have hh:a.hd=b.hd:=Decidable.not_not.mp hh
   have hkl:=Bc (hL a mI) (hL b nD) hh
   have:=h.bind mI nD hla hlb e hE.1 hs (new:=a.kids.zip b.kids) (Tl hW mI nD) (λ_=>⟨hbv,hh,λk hk=>hk⟩) (λq h=>(zip_map hkl).mp ((Dd hav hbv hh).mp h))
   have:=grow mI hla
   have:=v9 a
   exact J1 hW hL n _ _ (by assumption) (by simp only[List.length_append,List.length_cons,List.length_nil,List.length_zip] at *; omega)
end Mine
end
section
open PySem PySem.W PyProof.Rows PySem.Calls
set_option Elab.async false
set_option maxRecDepth 20000
namespace Mine
open Classical
theorem Gm{g:Tm→Option Bool}:∀{l:List Tm},allM g l=some false→∃a∈l,g a=some false
 | [],h=>by cases h
 | a::l,h=>by
  unfold allM at h
  split at h
  ·obtain⟨x,hx,e⟩:=Gm h
   exact⟨x,.tail _ hx,e⟩
  ·rename_i e; exact⟨a,.head _,e⟩
  ·cases h
theorem Kd{g:Tm→Option Bool}:∀{l:List Tm},allM g l=some true→∀a∈l,g a=some true
 | [],h,a,ha=>by cases ha
 | b::l,h,a,ha=>by
  unfold allM at h
  split at h
  ·rename_i e
   rcases List.mem_cons.mp ha with rfl | ha
   ·exact e
   ·exact Kd h a ha
  ·cases h
  ·cases h
theorem Ke{g:Tm→Option Bool}:∀{l:List Tm},(∀a∈l,∃b,g a=some b)→∃b,allM g l=some b
 | [],h=>⟨true,rfl⟩
 | a::l,h=>by
  obtain⟨b,hb⟩:=h a (.head _)
  obtain⟨b2,hb2⟩:=Ke (g:=g) (l:=l) λx hx=>h x (.tail _ hx)
  unfold allM
  rw[hb]
  cases b
  ·exact⟨_,rfl⟩
  ·exact⟨b2,hb2⟩
theorem Gn{W:List Tm}(hW:∀t∈W,∀a∈t.kids,a∈W){f:Bd}(hf:∀p∈f,p.2∈W) (hw:Wk f):∀(n:Nat) (t:Tm) (path:List Tm),t∈W→path.Nodup→(∀x∈path,x∈W)→W.length < n+path.length→∃b,E6 n f t path=some b
 | 0,t,path,ht,hn,hp,hl=>by have:=w9 hn hp; omega
 | n+1,t,path,ht,hn,hp,hl=>by
  obtain⟨r,hr⟩:=hw t
  have hrW:r∈W:=E9 (D:=(·∈W)) hf ht hr
  unfold E6
  rw[hr]
  simp only
  by_cases e:r∈path
  ·rw[if_pos e]; exact⟨_,rfl⟩
  ·rw[if_neg e]
   refine Ke λa ha=>?_
   refine Gn hW hf hw n a _ (hW r hrW a ha) ?_ ?_ (by simp only[List.length_append,List.length_cons,List.length_nil]; omega)
   ·rw[List.nodup_append]
    refine⟨hn,by simp,?_⟩
    intro x hx y hy
    simp at hy; subst hy
    intro h; subst h; exact e hx
   ·intro x hx
    rcases List.mem_append.mp hx with hx | hx
    ·exact hp x hx
    ·simp at hx; subst hx; exact hrW
theorem De{q:Su}{f:Bd}(hq:U1 q f):∀{n:Nat}{t:Tm}{path:List Tm},E6 n f t path=some false→∃x∈path,(app q x).ht≤(app q t).ht
 | 0,t,path,h=>by cases h
 | n+1,t,path,h=>by
  unfold E6 at h
  split at h
  ·cases h
  ·rename_i r hr
   have e:=D3 hq hr
   split at h
   ·rename_i hin
    exact⟨r,hin,by rw[e]; exact Nat.le_refl _⟩
   ·obtain⟨a,ha,h⟩:=Gm h
    obtain⟨x,hx,hle⟩:=De hq h
    have:=S1 (s:=q) ha
    rcases List.mem_append.mp hx with hx | hx
    ·exact⟨x,hx,by rw[e]; omega⟩
    ·simp at hx; subst hx; omega
def rs:Nat→Bd→Tm→Option Tm
 | 0,_,_=>none
 | n+1,f,t=>match walk (f.length+1) f t with
  | some r=>m6 (rs n f) r
  | none=>none
theorem Mx{g:Tm→Option Tm}{t:Tm}(h:∀a∈t.kids,∃u,g a=some u):∃u,m6 g t=some u:=by
 rcases t with h' | ⟨h',a⟩ | ⟨h',a,b⟩
 ·exact⟨_,rfl⟩
 ·obtain⟨u,hu⟩:=h a (by simp[Tm.kids])
  exact⟨_,by rw[m6,hu]; rfl⟩
 ·obtain⟨u,hu⟩:=h a (by simp[Tm.kids])
  obtain⟨v,hv⟩:=h b (by simp[Tm.kids])
  exact⟨_,by rw[m6,hu,hv]⟩
theorem My{g g':Tm→Option Tm}{t u:Tm}(h:∀a∈t.kids,∀u,g a=some u→g' a=some u) (e:m6 g t=some u):m6 g' t=some u:=by
 rcases t with h' | ⟨h',a⟩ | ⟨h',a,b⟩
 ·exact e
 ·simp only[m6,Option.map_eq_some_iff] at e ⊢
  obtain⟨x,hx,rfl⟩:=e
  exact⟨x,h a (by simp[Tm.kids]) x hx,rfl⟩
 ·simp only[m6] at e ⊢
  split at e
  ·rename_i x y hx hy
   rw[h a (by simp[Tm.kids]) x hx,h b (by simp[Tm.kids]) y hy]
   exact e
  ·cases e
theorem Vo:∀{n:Nat}{f:Bd}{t u:Tm},rs n f t=some u→rs (n+1) f t=some u
 | 0,f,t,u,h=>by cases h
 | n+1,f,t,u,h=>by
  unfold rs at h ⊢
  split at h
  ·exact My (λa _ u hu=>Vo hu) h
  ·cases h
theorem Vp{n m:Nat}{f:Bd}{t u:Tm}(h:rs n f t=some u) (hm:n≤m):rs m f t=some u:=by
 induction hm with
 | refl=>exact h
 | step _ ih=>exact Vo ih
theorem mJ{n m:Nat}{f:Bd}{t u v:Tm}(h:rs n f t=some u) (h':rs m f t=some v):u=v:=by
 have a:=Vp h (Nat.le_max_left n m)
 have b:=Vp h' (Nat.le_max_right n m)
 rw[a] at b; cases b; rfl
theorem Gp:∀{n:Nat}{f:Bd}{t:Tm}{path:List Tm},E6 n f t path=some true→∃u,rs n f t=some u
 | 0,f,t,path,h=>by cases h
 | n+1,f,t,path,h=>by
  unfold E6 at h
  split at h
  ·cases h
  ·rename_i r hr
   split at h
   ·cases h
   ·unfold rs
    rw[hr]
    exact Mx λa ha=>Gp (Kd h a ha)
theorem dN{n:Nat}{f:Bd}{p:Tm×Tm}(h:Eqv f p):rs n f p.1=rs n f p.2:=by
 obtain⟨r,h1,h2⟩:=h
 cases n with
 | zero=>rfl
 | succ n=>unfold rs; rw[h1,h2]
theorem Mz{q:Su}{f:Bd}(hq:U1 q f):∀{n:Nat}{t u:Tm},rs n f t=some u→app q u=app q t
 | 0,t,u,h=>by cases h
 | n+1,t,u,h=>by
  unfold rs at h
  split at h
  ·rename_i r hr
   rw[D3 hq hr]
   rcases r with h' | ⟨h',a⟩ | ⟨h',a,b⟩
   ·simp only[m6,oI] at h; subst h; rfl
   ·simp only[m6,Option.map_eq_some_iff] at h
    obtain⟨x,hx,rfl⟩:=h
    simp only[app,Mz hq hx]
   ·simp only[m6] at h
    split at h
    ·rename_i x y hx hy
     cases h
     simp only[app,Mz hq hx,Mz hq hy]
    ·cases h
  ·cases h
noncomputable def su(f:Bd):Su:=λh=>if e:∃n u,rs n f (.leaf h)=some u then Classical.choose (Classical.choose_spec e) else .leaf h
theorem Vq{f:Bd}{h:Hd}{n:Nat}{u:Tm}(e:rs n f (.leaf h)=some u):su f h=u:=by
 have hx:∃n u,rs n f (.leaf h)=some u:=⟨n,u,e⟩
 unfold su
 rw[dif_pos hx]
 exact mJ (Classical.choose_spec (Classical.choose_spec hx)) e
theorem hH{f:Bd}{h:Hd}(e:¬∃n u,rs n f (.leaf h)=some u):su f h=.leaf h:=by unfold su; rw[dif_neg e]
theorem JI.root{W:List Tm}{equal boss:Bd}(h:JI W equal boss []):∀{n:Nat}{t r:Tm},t.hd.isVar=false→t.o5=true→(∀x∈W,x.o5=true)→walk n boss t=some r→r.hd=t.hd∧r.kids.length=t.kids.length∧∀k∈t.kids.zip r.kids,Eqv boss k
 | 0,t,r,hv,hl,hL,e=>by cases e
 | n+1,t,r,hv,hl,hL,e=>by
  unfold walk at e
  split at e
  ·cases e
   refine⟨rfl,rfl,λk hk=>?_⟩
   have:k.1=k.2:=by
    obtain⟨i,hi,e⟩:=List.getElem_of_mem hk
    subst e; simp
   obtain⟨x,hx⟩:=h.wk k.1
   exact⟨x,hx,by rw[←this]; exact hx⟩
  ·rename_i v hv2
   have hp:=j8 hv2
   obtain⟨h1,h2,h3⟩:=h.shape _ hp hv
   simp only at h1 h2 h3
   have hvl:=hL v (h.Yk _ hp).2
   obtain⟨g1,g2,g3⟩:=h.root h1 hvl hL e
   have hkl:=Bc hl hvl h2
   refine⟨by rw[g1,h2],by rw[g2,hkl],λk hk=>?_⟩
   obtain⟨i,hi,e⟩:=List.getElem_of_mem hk
   subst e
   simp only[List.length_zip] at hi
   have a:=h3 (t.kids[i]'(by omega),v.kids[i]'(by omega)) (by
    rw[←List.getElem_zip (h:=by simp only[List.length_zip]; omega)]
    exact List.getElem_mem _)
   have b:=g3 (v.kids[i]'(by omega),r.kids[i]'(by omega)) (by
    rw[←List.getElem_zip (h:=by simp only[List.length_zip]; omega)]
    exact List.getElem_mem _)
   rcases a with a | ⟨x,a1,a2⟩
   ·cases a
   obtain⟨y,b1,b2⟩:=b
   simp only at a2 b1
   rw[a2] at b1; cases b1
   exact⟨x,by simpa using a1,by simpa using b2⟩
theorem hJ{g:Tm→Option Tm}{t r u:Tm}(hh:r.hd=t.hd) (hk:r.kids.length=t.kids.length) (he:∀k∈t.kids.zip r.kids,g k.1=g k.2) (h:m6 g r=some u):m6 g t=some u:=by
 obtain⟨h1,h2⟩:=R3 h
 have hg:t.kids.map g=r.kids.map g:=by
  refine List.ext_getElem (by simp[hk]) λi h1 h2=>?_
  simp only[List.getElem_map]
  simp only[List.length_map] at h1 h2
  have:=he (t.kids[i],r.kids[i]) (by
   rw[←List.getElem_zip (h:=by simp only[List.length_zip]; omega)]
   exact List.getElem_mem _)
  exact this
 rw[←hg] at h1
 have hut:u.hd=t.hd:=by rw[h2,hh]
 rcases t with x | ⟨x,a⟩ | ⟨x,a,b⟩
 ·rcases u with y | ⟨y,c⟩ | ⟨y,c,d⟩<;>simp[Tm.kids] at h1
  simp only[Tm.hd] at hut
  rw[hut]; rfl
 ·rcases u with y | ⟨y,c⟩ | ⟨y,c,d⟩<;>simp[Tm.kids] at h1
  simp only[Tm.hd] at hut
  rw[hut]; simp[m6,h1]
 ·rcases u with y | ⟨y,c⟩ | ⟨y,c,d⟩<;>simp[Tm.kids] at h1
  simp only[Tm.hd] at hut
  rw[hut]; simp[m6,h1]
theorem JI.Tn{W:List Tm}{equal boss:Bd}(h:JI W equal boss []) (hL:∀x∈W,x.o5=true){n:Nat}{t u:Tm}(ht:t∈W) (hv:t.hd.isVar=false) (e:rs (n+1) boss t=some u):m6 (rs n boss) t=some u:=by
 unfold rs at e
 split at e
 ·rename_i r hr
  obtain⟨h1,h2,h3⟩:=h.root hv (hL t ht) hL hr
  exact hJ h1 h2 (λk hk=>dN (h3 k hk)) e
 ·cases e
theorem JI.ap{W:List Tm}(hW:∀t∈W,∀a∈t.kids,a∈W){equal boss:Bd}(h:JI W equal boss []) (hL:∀x∈W,x.o5=true):∀{n:Nat}{t u:Tm},t∈W→rs n boss t=some u→app (su boss) t=u
 | 0,t,u,ht,e=>by cases e
 | n+1,t,u,ht,e=>by
  by_cases hv:t.hd.isVar=true
  ·obtain⟨_,g,rfl⟩:=A8 (hL t ht) hv
   rw[y8 (g:=g) hv]
   exact Vq e
  ·have hv:t.hd.isVar=false:=by simpa using hv
   have:=h.Tn hL ht hv e
   have hk:=hW t ht
   rcases t with x | ⟨x,a⟩ | ⟨x,a,b⟩
   ·simp only[Tm.hd] at hv
    simp only[m6,oI] at this
    rw[←this]; simp[app,hv]
   ·simp only[m6,Option.map_eq_some_iff] at this
    obtain⟨y,hy,rfl⟩:=this
    simp only[app,h.ap hW hL (hk a (by simp[Tm.kids])) hy]
   ·simp only[m6] at this
    split at this
    ·rename_i y z hy hz
     cases this
     simp only[app,h.ap hW hL (hk a (by simp[Tm.kids])) hy,h.ap hW hL (hk b (by simp[Tm.kids])) hz]
    ·cases this
structure dO(equal bd:Bd) (s:Su):Prop where
 sol:U1 s equal
 gen:∀q,U1 q equal→∀g,g.isVar=true→app q (s g)=q g
 free:∀g,g.isVar=true→f6 bd (.leaf g)=none→s g=.leaf g
 bound:∀g,g.isVar=true→∀v,f6 bd (.leaf g)=some v→s g≠.leaf g
 nd:(bd.map (·.1)).Nodup
 keys:∀p∈bd,p.1.hd.isVar=true→p.1∈[tX,tY,tM]
def V3:List Tm:=[tX,tY,tM]
theorem To{t:Tm}(h:t∈V3):∃g,t=.leaf g∧g.isVar=true:=by
 simp only[V3,List.mem_cons,List.not_mem_nil,or_false] at h
 rcases h with rfl | rfl | rfl<;>exact⟨_,rfl,rfl⟩
theorem Yb{f:Tm→Tm}{l:List Tm}(h:l.Nodup) (hi:∀a∈l,∀b∈l,f a=f b→a=b):(l.map f).Nodup:=by
 unfold List.Nodup at h ⊢
 rw[List.pairwise_map]
 exact h.imp_of_mem fun {a b} ha hb hne e=>hne (hi a ha b hb e)
theorem jC:V3.Nodup:=by decide
theorem dO.Vr{equal b1 b2:Bd}{s1 s2:Su}(m1:dO equal b1 s1) (m2:dO equal b2 s2):(V3.filter λt=>decide (app s1 t=t)).length≤(V3.filter λt=>decide (app s2 t=t)).length:=by
 have key:∀t,app s1 (app s2 t)=app s1 t:=Bj (m2.gen s1 m1.sol)
 have key2:∀t,app s2 (app s2 t)=app s2 t:=Bj (m2.gen s2 m2.sol)
 have hmem:∀t∈V3.filter (λt=>decide (app s1 t=t)),t∈V3∧app s1 t=t:=λt ht=>by
  simpa using List.mem_filter.mp ht
 have:=w9 (l:=(V3.filter λt=>decide (app s1 t=t)).map (app s2)) (T:=V3.filter λt=>decide (app s2 t=t))
  (Yb (jC.filter _) λa ha b hb e=>by
   have h1:=hmem a ha
   have h2:=hmem b hb
   rw[←h1.2,←h2.2,←key a,←key b,e]) (λx hx=>by
   obtain⟨t,ht,rfl⟩:=List.mem_map.mp hx
   obtain⟨hv,he⟩:=hmem t ht
   obtain⟨g,rfl,hg⟩:=To hv
   have h1:app s1 (app s2 (.leaf g))=.leaf g:=by rw[key,he]
   have hw:∃g',app s2 (.leaf g)=.leaf g'∧g'.isVar=true:=by
    generalize app s2 (.leaf g)=u at h1
    rcases u with g' | ⟨g',x⟩ | ⟨g',x,y⟩
    ·refine⟨g',rfl,?_⟩
     cases e:g'.isVar with
     | true=>rfl
     | false=>simp[app,e] at h1; rw[h1,hg] at e; cases e
    ·simp[app] at h1
    ·simp[app] at h1
   obtain⟨g',e,hg'⟩:=hw
   rw[List.mem_filter]
   refine⟨?_,by rw[decide_eq_true_eq]; exact key2 _⟩
   rw[e] at h1 ⊢
   rw[y8 hg'] at h1
   cases hl:f6 b1 (.leaf g') with
   | some v=>exact m1.keys _ (j8 hl) hg'
   | none =>
    rw[m1.free g' hg' hl] at h1
    rw[h1]; exact hv)
 simpa using this
theorem Iu{f:Bd}{p:Tm×Tm}(hp:p∈f):∃v,f6 f p.1=some v:=Qs (List.mem_map_of_mem hp)
theorem dO.count{equal bd:Bd}{s:Su}(m:dO equal bd s):(bd.filter λp=>p.1.hd.isVar).length=(V3.filter λt=>!decide (app s t=t)).length:=by
 have hk:∀x,x∈(bd.filter λp=>p.1.hd.isVar).map (·.1)↔x∈V3.filter λt=>!decide (app s t=t):=λx=>by
  rw[List.mem_filter]
  constructor
  ·intro hx
   obtain⟨p,hp,rfl⟩:=List.mem_map.mp hx
   obtain⟨hp,hv⟩:=List.mem_filter.mp hp
   have h3:=m.keys p hp hv
   obtain⟨g,e,hg⟩:=To h3
   refine⟨h3,?_⟩
   obtain⟨v,hl⟩:=Iu hp
   rw[e] at hl
   have:=m.bound g hg v hl
   rw[e,y8 hg]
   simpa using this
  ·rintro⟨hx,hn⟩
   obtain⟨g,rfl,hg⟩:=To hx
   rw[y8 hg] at hn
   cases hl:f6 bd (.leaf g) with
   | none=>rw[m.free g hg hl] at hn; simp at hn
   | some v =>
    exact List.mem_map.mpr ⟨_,List.mem_filter.mpr ⟨j8 hl,hg⟩,rfl⟩
 have n1:((bd.filter λp=>p.1.hd.isVar).map (·.1)).Nodup:=m.nd.sublist (List.filter_sublist.map _)
 have n2:(V3.filter λt=>!decide (app s t=t)).Nodup:=jC.filter _
 have a:=w9 n1 λx hx=>(hk x).mp hx
 have b:=w9 n2 λx hx=>(hk x).mpr hx
 simp only[List.length_map] at a b
 omega
theorem S2{α:Type}(p:α→Bool):∀l:List α,(l.filter p).length+(l.filter λx=>!p x).length=l.length
 | []=>rfl
 | a::l=>by
  have:=S2 p l
  cases h:p a<;>simp[List.filter_cons,h]<;>omega
theorem dO.same{equal b1 b2:Bd}{s1 s2:Su}(m1:dO equal b1 s1) (m2:dO equal b2 s2):(b1.filter λp=>p.1.hd.isVar).length=(b2.filter λp=>p.1.hd.isVar).length:=by
 have h1:=m1.Vr m2
 have h2:=m2.Vr m1
 have h3:=S2 (λt=>decide (app s1 t=t)) V3
 have h4:=S2 (λt=>decide (app s2 t=t)) V3
 rw[m1.count,m2.count]
 omega
theorem UI.bound{f:Bd}{s:Su}(u:UI f s){g:Hd}(hg:g.isVar=true){v:Tm}(hl:f6 f (.leaf g)=some v):s g≠.leaf g:=by
 obtain⟨r,hr⟩:=u.wk (.leaf g)
 have hrn:=w6 hr
 have e:s g=app s r:=by rw[←D3 u.sol hr,y8 hg]
 have hrU:U6 r:=u.dL (u.eH _ (j8 hl)).1 hr
 rw[e]
 by_cases hv:r.hd.isVar=true
 ·obtain⟨g',rfl,hg'⟩:=hrU.var hv
  rw[y8 hg',u.free g' hg' hrn]
  intro h
  rw[h,hl] at hrn; cases hrn
 ·intro h
  have h1:r.hd=g:=by rw[←(Aa (s:=s) (t:=r) (by simpa using hv)).1,h]; rfl
  rw[h1] at hv; exact hv hg
theorem UI.yP{f equal:Bd}{s:Su}(u:UI f s) (h:∀q,U1 q f↔U1 q equal):dO equal f s where
 sol:=(h s).mp u.sol
 gen:=λq hq=>u.gen q ((h q).mpr hq)
 free:=u.free
 bound:=λg hg v hl=>u.bound hg hl
 nd:=u.nd
 keys:=λp hp hv=>(A8 (u.eH p hp).1.1 hv).1
theorem JI.yP{W:List Tm}(hW:∀t∈W,∀a∈t.kids,a∈W){equal boss:Bd}(h:JI W equal boss []) (hL:∀x∈W,x.o5=true) (hall:∀t∈W,∃n u,rs n boss t=some u) (hE:∀p∈equal,p.1∈W∧p.2∈W):dO equal boss (su boss) where
 sol:=λp hp=>by
  obtain⟨n,u,e⟩:=hall _ (hE p hp).1
  rcases h.eq p hp with h1 | h1
  ·cases h1
  rw[h.ap hW hL (hE p hp).1 e,h.ap hW hL (hE p hp).2 (by rw[←dN h1]; exact e)]
 gen:=λq hq g hg=>by
  by_cases e:∃n u,rs n boss (.leaf g)=some u
  ·obtain⟨n,u,e⟩:=e
   rw[Vq e,Mz (h.fwd q hq).1 e,y8 hg]
  ·rw[hH e,y8 hg]
 free:=λg hg hl=>Vq (n:=1) (by
  unfold rs
  rw[Ya hl]; rfl)
 bound:=λg hg v hl e=>by
  have hp:=j8 hl
  obtain⟨n,u,e2⟩:=hall _ (h.Yk _ hp).1
  have:=Vq e2
  rw[e] at this
  subst this
  obtain⟨n,rfl⟩:∃m,n=m+1:=⟨n - 1,by have:n≠0:=λe=>by {subst e; cases e2}; omega⟩
  unfold rs at e2
  split at e2
  ·rename_i r hr
   obtain⟨h1,h2⟩:=R3 e2
   have:r=.leaf g:=by
    rcases r with x | ⟨x,a⟩ | ⟨x,a,b⟩<;>simp[Tm.kids,Tm.hd] at h1 h2
    rw[h2]
   rw[this] at hr
   rw[w6 hr] at hl; cases hl
  ·cases e2
 nd:=h.nd
 keys:=λp hp hv=>(A8 (hL _ (h.Yk p hp).1) hv).1
def subs:Tm→List Tm
 | .leaf h=>[.leaf h]
 | .un h a=>.un h a::subs a
 | .bin h a b=>.bin h a b::(subs a++subs b)
theorem Q0(t:Tm):t∈subs t:=by cases t<;>simp[subs]
theorem X1:∀{t x:Tm},x∈subs t→∀a∈x.kids,a∈subs t
 | .leaf h,x,hx,a,ha=>by simp[subs] at hx; subst hx; cases ha
 | .un h b,x,hx,a,ha=>by
  simp only[subs,List.mem_cons] at hx ⊢
  rcases hx with rfl | hx
  ·simp[Tm.kids] at ha; subst ha; exact .inr (Q0 _)
  ·exact .inr (X1 hx a ha)
 | .bin h b c,x,hx,a,ha=>by
  simp only[subs,List.mem_cons,List.mem_append] at hx ⊢
  rcases hx with rfl | hx | hx
  ·simp[Tm.kids] at ha
   rcases ha with rfl | rfl
   ·exact .inr (.inl (Q0 _))
   ·exact .inr (.inr (Q0 _))
  ·exact .inr (.inl (X1 hx a ha))
  ·exact .inr (.inr (X1 hx a ha))
theorem X2:∀{t x:Tm},t.o5=true→x∈subs t→x.o5=true
 | .leaf h,x,ht,hx=>by simp[subs] at hx; subst hx; exact ht
 | .un h b,x,ht,hx=>by
  simp only[subs,List.mem_cons] at hx
  rcases hx with rfl | hx
  ·exact ht
  ·simp only[Tm.o5,Bool.and_eq_true] at ht
   exact X2 ht.2 hx
 | .bin h b c,x,ht,hx=>by
  simp only[subs,List.mem_cons,List.mem_append] at hx
  rcases hx with rfl | hx
  ·exact ht
  ·simp only[Tm.o5,Bool.and_eq_true] at ht
   rcases hx with hx | hx
   ·exact X2 ht.1.2 hx
   ·exact X2 ht.2 hx
theorem Q2:∀{k:Nat}{t:Tm},t.nest≤k→(subs t).length+1≤2 ^ k
 | 0,t,h=>by have:=Gk t; rw[N4] at this; omega
 | k+1,.leaf g,h=>by
  have:1≤2 ^ k:=Nat.one_le_two_pow
  simp only[subs,List.length_cons,List.length_nil]; omega
 | k+1,.un g a,h=>by
  simp only[Tm.nest] at h
  have:=Q2 (k:=k) (t:=a) (by omega)
  have:1≤2 ^ k:=Nat.one_le_two_pow
  simp only[subs,List.length_cons]; omega
 | k+1,.bin g a b,h=>by
  simp only[Tm.nest] at h
  have:=Q2 (k:=k) (t:=a) (by omega)
  have:=Q2 (k:=k) (t:=b) (by omega)
  simp only[subs,List.length_cons,List.length_append]; omega
def Ci(equal:Bd):List Tm:=equal.flatMap λp=>subs p.1++subs p.2
theorem X3{equal:Bd}{x:Tm}:x∈Ci equal↔∃p∈equal,x∈subs p.1∨x∈subs p.2:=by
 simp[Ci,List.mem_flatMap]
theorem X4{equal:Bd}:∀t∈Ci equal,∀a∈t.kids,a∈Ci equal:=λt ht a ha=>by
 rw[X3] at ht ⊢
 obtain⟨p,hp,h⟩:=ht
 exact⟨p,hp,h.imp (λh=>X1 h a ha) λh=>X1 h a ha⟩
theorem Gq{m:Nat}{boss:Bd}:∀{l:Bd},(∀p∈l,(∃b,E6 m boss p.1 []=some b)∧∃b,E6 m boss p.2 []=some b) →
  ∃b,K3 m boss l=some b∧(b=true→∀p∈l,E6 m boss p.1 []=some true∧E6 m boss p.2 []=some true)∧(b=false→∃t,E6 m boss t []=some false)
 | [],_=>⟨true,rfl,by simp,by simp⟩
 | p::l,h=>by
  obtain⟨⟨b1,h1⟩,b2,h2⟩:=h p (.head _)
  obtain⟨b3,h3,hT,hF⟩:=Gq (m:=m) (boss:=boss) (l:=l) λx hx=>h x (.tail _ hx)
  unfold K3
  rw[h1]
  cases b1 with
  | false=>exact⟨false,rfl,by simp,λ_=>⟨_,h1⟩⟩
  | true =>
   simp only
   rw[h2]
   cases b2 with
   | false=>exact⟨false,rfl,by simp,λ_=>⟨_,h2⟩⟩
   | true =>
    refine⟨b3,h3,λe x hx=>?_,hF⟩
    rcases List.mem_cons.mp hx with rfl | hx
    ·exact⟨h1,h2⟩
    ·exact hT e x hx
theorem JI.subs{W:List Tm}(hW:∀t∈W,∀a∈t.kids,a∈W){equal boss:Bd}(h:JI W equal boss []) (hL:∀x∈W,x.o5=true):∀{t:Tm},t∈W→(∃n u,rs n boss t=some u)→∀x∈Mine.subs t,∃n u,rs n boss x=some u
 | .leaf g,ht,e,x,hx=>by simp[Mine.subs] at hx; subst hx; exact e
 | .un g a,ht,e,x,hx=>by
  simp only[Mine.subs,List.mem_cons] at hx
  rcases hx with rfl | hx
  ·exact e
  obtain⟨n,u,e⟩:=e
  obtain⟨n,rfl⟩:∃m,n=m+1:=⟨n - 1,by have:n≠0:=λh=>by {subst h; cases e}; omega⟩
  have hv:(Tm.un g a).hd.isVar=false:=by
   cases hv:(Tm.un g a).hd.isVar with
   | false=>rfl
   | true=>obtain⟨_,g',e⟩:=A8 (hL _ ht) hv; cases e
  have:=h.Tn hL ht hv e
  simp only[m6,Option.map_eq_some_iff] at this
  obtain⟨y,hy,_⟩:=this
  exact h.subs hW hL (hW _ ht a (by simp[Tm.kids])) ⟨n,y,hy⟩ x hx
 | .bin g a b,ht,e,x,hx=>by
  simp only[Mine.subs,List.mem_cons,List.mem_append] at hx
  rcases hx with rfl | hx
  ·exact e
  obtain⟨n,u,e⟩:=e
  obtain⟨n,rfl⟩:∃m,n=m+1:=⟨n - 1,by have:n≠0:=λh=>by {subst h; cases e}; omega⟩
  have hv:(Tm.bin g a b).hd.isVar=false:=by
   cases hv:(Tm.bin g a b).hd.isVar with
   | false=>rfl
   | true=>obtain⟨_,g',e⟩:=A8 (hL _ ht) hv; cases e
  have:=h.Tn hL ht hv e
  simp only[m6] at this
  split at this
  ·rename_i y z hy hz
   rcases hx with hx | hx
   ·exact h.subs hW hL (hW _ ht a (by simp[Tm.kids])) ⟨n,y,hy⟩ x hx
   ·exact h.subs hW hL (hW _ ht b (by simp[Tm.kids])) ⟨n,z,hz⟩ x hx
  ·cases this
theorem hO{equal:Bd}(sC:∀p∈equal,p.1.o5=true∧p.2.o5=true) (hlen:equal.length≤2) (hz:(Ci equal).length≤140) :
  ∃res,join 10000 150 equal=some res∧(res=none→∀q,¬U1 q equal)∧∀boss,res=some boss→boss.length≤1000∧∃s,dO equal boss s:=by
 have hL:∀t∈Ci equal,t.o5=true:=λt ht=>by
  obtain⟨p,hp,h⟩:=X3.mp ht
  rcases h with h | h
  ·exact X2 (sC p hp).1 h
  ·exact X2 (sC p hp).2 h
 have hE:∀p∈equal,p.1∈Ci equal∧p.2∈Ci equal:=λp hp=>⟨X3.mpr ⟨p,hp,.inl (Q0 _)⟩,X3.mpr ⟨p,hp,.inr (Q0 _)⟩⟩
 have J0:JI (Ci equal) equal [] equal:=⟨by simp,by simp,hE,λt=>⟨t,rfl⟩,by simp,λp hp=>.inl hp,λq hq=>⟨λp hp=>(by cases hp),hq⟩⟩
 obtain⟨res,h1,h2,h3⟩:=J1 X4 hL 10000 [] equal J0 (by simp only[List.length_nil]; omega)
 unfold join
 rw[h1]
 cases res with
 | none=>exact⟨none,rfl,h2,by simp⟩
 | some boss =>
  have J:=h3 boss rfl
  have ts:∀t∈Ci equal,∃b,E6 150 boss t []=some b:=λt ht=>Gn X4 (λp hp=>(J.Yk p hp).2) J.wk 150 t [] ht (by simp) (by simp) (by simp only[List.length_nil]; omega)
  obtain⟨b,hb,hT,hF⟩:=Gq (m:=150) (boss:=boss) (l:=equal) λp hp=>⟨ts _ (hE p hp).1,ts _ (hE p hp).2⟩
  simp only[hb]
  cases b with
  | false =>
   refine⟨none,rfl,λ_ q hq=>?_,by simp⟩
   obtain⟨t,ht⟩:=hF rfl
   obtain⟨x,hx,_⟩:=De (J.fwd q hq).1 ht
   cases hx
  | true =>
   refine⟨some boss,rfl,by simp,λb' e=>?_⟩
   cases e
   have:=J.len
   refine⟨by omega,_,J.yP X4 hL (λt ht=>?_) hE⟩
   obtain⟨p,hp,h⟩:=X3.mp ht
   obtain⟨t1,t2⟩:=hT rfl p hp
   rcases h with h | h
   ·obtain⟨u,hu⟩:=Gp t1
    exact J.subs X4 hL (hE p hp).1 ⟨_,u,hu⟩ t h
   ·obtain⟨u,hu⟩:=Gp t2
    exact J.subs X4 hL (hE p hp).2 ⟨_,u,hu⟩ t h
theorem Eg:∀{z:Tm},z.o5=true→z.has tY=false→Ef (.var 1) z=false
 | .leaf h,hl,e=>by
  simp only[Tm.has,tY,decide_eq_false_iff_not,Tm.leaf.injEq] at e
  simp only[Ef,decide_eq_false_iff_not]
  exact λh=>e h.symm
 | .un h a,hl,e=>by
  simp only[Tm.has,Bool.or_eq_false_iff] at e
  simp only[Tm.o5,Bool.and_eq_true] at hl
  show Ef (.var 1) a=false
  exact Eg hl.2 e.2
 | .bin h a b,hl,e=>by
  simp only[Tm.has,Bool.or_eq_false_iff] at e
  simp only[Tm.o5,Bool.and_eq_true] at hl
  simp only[Ef,Eg hl.1.2 e.1.2,Eg hl.2 e.2,Bool.or_self]
theorem hP{rest:Bd}(h:rest=[]∨∃z,Y9 2 z∧z.has tY=false∧rest=[(tY,z)]):∃s,UI rest s:=by
 rcases h with rfl | ⟨z,hz,hy,rfl⟩
 ·exact⟨_,UI.nil⟩
 ·have hzU:U6 z:=⟨hz.1,by rw[N4]; have:=hz.2.2; omega⟩
  have hv:=Eg hz.1 hy
  have hne:tY≠z:=by
   intro e
   subst e
   simp[Tm.has,tY] at hy
  obtain⟨r,h1,h2,h3⟩:=Qu UI.nil (a:=tY) (b:=z) ⟨by decide,by decide⟩ hzU rfl rfl rfl hne
  cases r with
  | true=>exact h2 rfl
  | false =>
   refine absurd ?_ (h3 rfl (Ab (.var 1) z) (λp hp=>by cases hp))
   rw[X0 hv]
   rfl
theorem Yc:W7:=by
 intro a b ha hb rest hrest
 obtain⟨s,u⟩:=hP hrest
 have haU:U6 a:=⟨ha.1,by rw[N4]; exact ha.2.2⟩
 have hbU:U6 b:=⟨hb.1,by rw[N4]; exact hb.2.2⟩
 have hlen:((a,b)::rest).length≤2:=by rcases hrest with rfl | ⟨z,_,_,rfl⟩<;>simp
 have tL:∀p∈(a,b)::rest,U6 p.1∧U6 p.2:=λp hp=>by
  rcases List.mem_cons.mp hp with rfl | hp
  ·exact⟨haU,hbU⟩
  ·exact u.eH p hp
 have hz:(Ci ((a,b)::rest)).length≤140:=by
  have h1:=Q2 ha.2.2
  have h2:=Q2 hb.2.2
  rcases hrest with rfl | ⟨z,hz,_,rfl⟩
  ·simp only[Ci,List.flatMap_cons,List.flatMap_nil,List.length_append,List.length_nil]; omega
  ·have h3:=Q2 hz.2.2
   simp only[Ci,List.flatMap_cons,List.flatMap_nil,List.length_append,List.length_nil,show(subs tY).length=1 from rfl]; omega
 obtain⟨res,hj,hN,hS⟩:=hO (λp hp=>⟨(tL p hp).1.1,(tL p hp).2.1⟩) hlen hz
 refine⟨10000,150,res,by omega,by omega,hj,λboss e=>(hS boss e).1,λx y hxy=>?_⟩
 have gY:U6 x∧U6 y:=by rcases hxy with⟨rfl,rfl⟩ | ⟨rfl,rfl⟩<;>exact⟨by assumption,by assumption⟩
 obtain⟨r,f',hu,hT,hF⟩:=Qv 110 rest s x y u gY.1 gY.2 (by
  have h1:=u.size x gY.1.2
  have h2:NN rest.length+SQ rest.length≤79:=by rcases hrest with rfl | ⟨z,_,_,rfl⟩<;>simp[NN,SQ]
  omega)
 have hV:∀q,(U1 q rest∧app q x=app q y)↔U1 q ((a,b)::rest):=λq=>by
  unfold U1
  rw[List.forall_mem_cons]
  rcases hxy with⟨rfl,rfl⟩ | ⟨rfl,rfl⟩
  ·exact and_comm
  ·exact⟨λh=>⟨h.2.symm,h.1⟩,λh=>⟨h.2,h.1.symm⟩⟩
 refine⟨r,f',hu,?_,λboss e=>?_⟩
 ·cases res with
  | none =>
   cases r with
   | false=>rfl
   | true =>
    obtain⟨s',u',h1,_⟩:=hT rfl
    exact absurd ((hV s').mp ((h1 s').mp u'.sol)) (hN rfl s')
  | some boss =>
   cases r with
   | true=>rfl
   | false =>
    obtain⟨_,s2,m⟩:=hS boss rfl
    obtain⟨h1,h2⟩:=(hV s2).mpr m.sol
    exact absurd h2 (hF rfl s2 h1)
 ·obtain⟨_,s2,m⟩:=hS boss e
  have hr:r=true:=by
   cases r with
   | true=>rfl
   | false =>
    obtain⟨h1,h2⟩:=(hV s2).mpr m.sol
    exact absurd h2 (hF rfl s2 h1)
  obtain⟨s',u',h1,_⟩:=hT hr
  have h1':∀q,U1 q f'↔U1 q ((a,b)::rest):=λq=>(h1 q).trans (hV q)
  have m':=u'.yP h1'
  have hN3:∀k,NN k≤41:=by intro k; rcases k with _ | _ | _ | k<;>simp[NN]
  refine⟨u'.keys,?_,λp hp=>?_⟩
  ·have:=m'.same m
   rw[List.filter_eq_self.mpr λp hp=>u'.keys p hp] at this
   exact this
  ·have full:∀t,U6 t→I9 170 f' t=some (app s' t)∧(app s' t).nest≤41:=λt ht=>by
    have h2:=u'.size t ht.2
    have h3:=hN3 f'.length
    have h4:=u'.len
    have h5:=u'.wk t
    exact⟨Gl u' 170 (w:=f'.length+1) ht h5 (by omega) (by omega),by rw[←N4]; omega⟩
   obtain⟨f1,f2⟩:=full p.1 (tL p hp).1
   obtain⟨f3,_⟩:=full p.2 (tL p hp).2
   exact⟨_,f1,by rw[f3,m'.sol p hp],by omega⟩
def Yd:List Hd:=[.val 64,.val 65,.val 66,.val 67,.val 68]
def Nf:List Tm:=x7.map Tm.leaf++Nh.flatMap λh=>x7.map λl=>.un h (.leaf l)
def gr:Nat→Tm→Tm
 | 0,b=>b
 | i+1,b=>.un .arr (.un .arr (.un .arr (.un .arr (.un .arr (.un .arr (gr i b))))))
def tU:Tm:=.leaf (.val 75)
def Un(t:Tm):Prop:=t=tU∨∃h∈Yd,∃i,i < 4∧∃b∈Nf,t=.un h (gr i b)
def UL:List Tm:=tU::Yd.flatMap λh=>(List.range 4).flatMap λi=>Nf.map λb=>.un h (gr i b)
theorem Qx{t:Tm}(h:Un t):t∈UL:=by
 rcases h with rfl | ⟨h,hh,i,hi,b,hb,rfl⟩
 ·exact .head _
 ·exact List.mem_cons.mpr (.inr (List.mem_flatMap.mpr ⟨h,hh,List.mem_flatMap.mpr ⟨i,List.mem_range.mpr hi,List.mem_map_of_mem hb⟩⟩))
theorem Tp:UL.length=801:=by decide +kernel
theorem jD:∀t∈UL,t.ok=true∧t.o5=true∧t.nest≤21∧chain t=true∧t.depth≤24∧t.weight≤21:=by decide +kernel
theorem jE:∀{i:Nat}{b:Tm},i≠0→(gr i b).hd=.arr
 | 0,b,h=>absurd rfl h
 | i+1,b,_=>rfl
theorem Vs:∀(i:Nat) (b:Tm),deepOf (gr i b)=6 * i+deepOf b
 | 0,b=>by simp[gr]
 | i+1,b=>by simp only[gr,deepOf,Vs i b]; omega
theorem Qy:∀(i:Nat) (b:Tm),6 * i+1≤(gr i b).depth
 | 0,b=>by
  have:1≤b.depth:=by cases b<;>simp only[Tm.depth]<;>omega
  simpa[gr] using this
 | i+1,b=>by have:=Qy i b; simp only[gr,Tm.depth,Hd.Aw]; omega
theorem I5{a:Tm}{l:Hd}:t4 [(tX,a)] (.leaf l)=if l=.var 0 then a else .leaf l:=by
 simp only[t4,f6,tX,Tm.leaf.injEq]
 by_cases e:l=.var 0
 ·subst e; simp
 ·rw[if_neg (Ne.symm e),if_neg e]; rfl
theorem Y2{a b:Tm}{h:Hd}:t4 [(tX,a)] (.un h b)=.un h (t4 [(tX,a)] b):=by
 simp[t4,f6,tX]
theorem Kf{f:Tm}(h:f∈Nf):(∃l∈x7,f=.leaf l)∨∃h∈Nh,∃l∈x7,f=.un h (.leaf l):=by
 simp only[Nf,List.mem_append,List.mem_map,List.mem_flatMap] at h
 rcases h with⟨l,hl,rfl⟩ | ⟨h,hh,l,hl,rfl⟩
 ·exact .inl ⟨l,hl,rfl⟩
 ·exact .inr ⟨h,hh,l,hl,rfl⟩
theorem Gs{l:Hd}(h:l∈x7):Tm.leaf l∈Nf:=by
 simp only[Nf,List.mem_append,List.mem_map]
 exact .inl ⟨l,h,rfl⟩
theorem mK:∀h∈Nh,Ni.contains h=true→h∈Yd:=by decide
theorem Na:∀h∈x7,Ni.contains h=true→h=.val 75:=by decide
theorem sD:∀h∈Yd,Ni.contains h=true:=by decide
theorem Gu{f b:Tm}{i:Nat}(hf:f∈Nf) (hb:b∈Nf) (hs:Ni.contains (t4 [(tX,gr i b)] f).hd=true) :
  t4 [(tX,gr i b)] f=tU∨∃h∈Yd,∃j,j≤i∧∃b'∈Nf,t4 [(tX,gr i b)] f=.un h (gr j b')∧t4 [(tX,b)] f=.un h b':=by
 rcases Kf hf with⟨l,hl,rfl⟩ | ⟨h,hh,l,hl,rfl⟩
 ·rw[I5] at hs ⊢
  rw[I5]
  by_cases e:l=.var 0
  ·rw[if_pos e] at hs ⊢
   rw[if_pos e]
   by_cases hi:i=0
   ·subst hi
    simp only[gr] at hs ⊢
    rcases Kf hb with⟨l',hl',rfl⟩ | ⟨h',hh',l',hl',rfl⟩
    ·exact .inl (by rw[Na _ hl' hs]; rfl)
    ·exact .inr ⟨h',mK _ hh' hs,0,Nat.le_refl _,.leaf l',Gs hl',rfl,rfl⟩
   ·rw[jE hi] at hs
    exact absurd hs (by decide)
  ·rw[if_neg e] at hs ⊢
   exact .inl (by rw[Na _ hl hs]; rfl)
 ·rw[Y2] at hs ⊢
  rw[Y2]
  refine .inr ⟨h,mK _ hh hs,?_⟩
  rw[I5,I5]
  by_cases e:l=.var 0
  ·rw[if_pos e,if_pos e]
   exact⟨i,Nat.le_refl _,b,hb,rfl,rfl⟩
  ·rw[if_neg e,if_neg e]
   exact⟨0,Nat.zero_le _,.leaf l,Gs hl,rfl,rfl⟩
theorem Nb{a:Tm}:t4 [(tX,a)] tG=.un (.val 68) (.un .arr (.un .arr (.un .arr (.un .arr (.un .arr (.un .arr a)))))):=by
 simp only[tG,Mr,Y2]
 rw[show tX=.leaf (.var 0) from rfl,t4,f6]
 simp
theorem sE{hs:List Hd}(hh:∀h∈hs,h∈Nh):∀{k:Nat}{t:Tm},k≤1→fld hs k t=true→t∈Nf
 | k,.leaf h,_,e=>by
  have he:x7.contains h=true:=by cases k<;>exact e
  rw[List.contains_iff_mem] at he
  exact Gs he
 | 0,.un h a,_,e=>by simp[fld] at e
 | k,.bin h a b,_,e=>by cases k<;>simp[fld] at e
 | 1,.un h a,_,e=>by
  simp only[fld,Bool.and_eq_true] at e
  have h1:=e.1
  rw[List.contains_iff_mem] at h1
  rcases a with l | ⟨g,x⟩ | ⟨g,x,y⟩
  ·have h2:x7.contains l=true:=e.2
   rw[List.contains_iff_mem] at h2
   simp only[Nf,List.mem_append,List.mem_map,List.mem_flatMap]
   exact .inr ⟨h,hh h h1,l,h2,rfl⟩
  ·have:=e.2; simp[fld] at this
  ·have:=e.2; simp[fld] at this
 | k+2,.un h a,hk,e=>by omega
theorem yQ{t:Tm}(e:fld Nh 2 t=true):(∃l∈x7,t=.leaf l)∨∃h∈Nh,∃b∈Nf,t=.un h b:=by
 rcases t with l | ⟨h,a⟩ | ⟨h,a,b⟩
 ·have he:x7.contains l=true:=e
  rw[List.contains_iff_mem] at he
  exact .inl ⟨l,he,rfl⟩
 ·simp only[fld,Bool.and_eq_true] at e
  have h1:=e.1
  rw[List.contains_iff_mem] at h1
  exact .inr ⟨h,h1,a,sE (λ_ h=>h) (Nat.le_refl 1) e.2,rfl⟩
 ·simp[fld] at e
theorem dP:∀b∈Nf,t4 [(tX,tX)] b=b:=by decide +kernel
section
variable {D:Nat→List (Tm×Nat)}(hD:∀i,i < 5→lO i (D i)∧(D i).length≤2)
include hD
theorem Qz{j:Nat}(hj:j < 5){p:Tm×Nat}(hp:p∈v5 D j):(fld (Du j) (Iq j) p.1=true∧p.2∈[0,1,2,5])∨(j=4∧p=(tG,0)):=by
 unfold v5 at hp
 split at hp
 ·rename_i e; subst e
  rcases List.mem_append.mp hp with hp | hp
  ·exact .inl ((hD 4 (by omega)).1 p hp)
  ·simp at hp; exact .inr ⟨rfl,hp⟩
 ·exact .inl ((hD j hj).1 p hp)
theorem Vt{j:Nat}(h1:1≤j) (hj:j < 5){p:Tm×Nat}(hp:p∈v5 D j):p.1∈Nf∨(j=4∧p.1=tG):=by
 rcases Qz hD hj hp with⟨h,_⟩ | ⟨h,rfl⟩
 ·rw[show Du j=lL by unfold Du; rw[if_neg (by omega)],show Iq j=1 by unfold Iq; rw[if_neg (by omega)]] at h
  exact .inl (sE (by decide) (Nat.le_refl 1) h)
 ·exact .inr ⟨h,rfl⟩
theorem dQ{p:Tm×Nat}(hp:p∈v5 D 0):(∃l∈x7,p.1=.leaf l)∨∃h∈Nh,∃b∈Nf,p.1=.un h b:=by
 rcases Qz hD (by omega) hp with⟨h,_⟩ | ⟨h,rfl⟩
 ·exact yQ h
 ·cases h
theorem dR(hG:(D 4).length≤1){j:Nat}(hj:j < 5):(v5 D j).length≤2:=by
 unfold v5
 split
 ·rename_i e; subst e
  simp only[List.length_append,List.length_cons,List.length_nil]; omega
 ·exact(hD j hj).2
theorem Vu{j:Nat}(hj:j < 5){p:Tm×Nat}(hp:p∈v5 D j):ST 8 p.1∧p.1.depth≤8:=by
 rcases Qz hD hj hp with⟨h,_⟩ | ⟨h,rfl⟩
 ·have hh:Du j=Nh∨Du j=lL:=by unfold Du; split<;>simp
  obtain⟨a,b,c,e,w⟩:=Mp hh h
  have hdp:Iq j≤2:=by unfold Iq; split<;>omega
  have hc:∀{hs:List Hd}{k:Nat}{t:Tm},fld hs k t=true→chain t=true:=by
   intro hs k t
   induction t generalizing k with
   | leaf h=>intro _; rfl
   | un h a ih =>
    intro e
    cases k with
    | zero=>simp[fld] at e
    | succ k=>simp only[fld,Bool.and_eq_true] at e; exact ih e.2
   | bin h a b _ _=>intro e; cases k<;>simp[fld] at e
  exact⟨⟨a,hc h,by omega⟩,by have:=Bg p.1; omega⟩
 ·exact⟨⟨by decide,by decide,by decide⟩,by decide⟩
end
theorem Vv{D:Nat→List Tm}{W:List Tm}{P:Tm→Prop}(hW:∀t,P t→t∈W) (hl:∀t,(t0 D t).length≤3) (step:∀t,P t→deepOf t < 12→t.hd≠.val 64→∀u∈t0 D t,P u) :
  ∀(n:Nat) (todo met:List Tm),(∀t∈todo,P t)→(∀t∈met,P t)→met.Nodup→4 * (W.length - met.length)+todo.length < n→∃r,D8 D n todo met=some r
 | 0,_,_,_,_,_,h=>by omega
 | n+1,todo,met,ht,hm,hn,h=>by
  unfold D8
  cases hg:todo.getLast? with
  | none=>exact⟨_,rfl⟩
  | some t =>
   have hsp:=M3 hg
   have htl:todo.length=todo.dropLast.length+1:=by
    have:=congrArg List.length hsp
    simpa using this
   generalize todo.dropLast=td at hsp htl
   subst hsp
   have hPt:=ht t (by simp)
   have htd:∀x∈td,P x:=λx hx=>ht x (by simp[hx])
   simp only
   split
   ·rename_i hc
    have hn':(met++[t]).Nodup:=by
     rw[List.nodup_append]
     refine⟨hn,by simp,?_⟩
     intro x hx y hy
     simp at hy; subst hy
     intro e; subst e; exact hc.1 hx
    have hm':∀x∈met++[t],P x:=by
     intro x hx
     rcases List.mem_append.mp hx with hx | hx
     ·exact hm x hx
     ·simp at hx; subst hx; exact hPt
    have hlen:=w9 hn' λx hx=>hW x (hm' x hx)
    simp only[List.length_append,List.length_cons,List.length_nil] at hlen
    split
    ·rename_i hS
     refine Vv hW hl step n _ _ (λx hx=>?_) hm' hn' ?_
     ·rcases List.mem_append.mp hx with hx | hx
      ·exact htd x hx
      ·exact step t hPt hc.2 hS x hx
     ·have:=hl t
      simp only[List.length_append,List.length_cons,List.length_nil]; omega
    ·exact Vv hW hl step n _ _ htd hm' hn' (by simp only[List.length_append,List.length_cons,List.length_nil]; omega)
   ·exact Vv hW hl step n _ _ htd hm hn (by omega)
theorem Nc{D:Nat→List Tm}:∀{n:Nat}{todo met r:List Tm},D8 D n todo met=some r→(∀t∈met,t.hd≠.val 64→∀u∈t0 D t,deepOf u < 12→u∈met∨u∈todo) →
  (∀t∈met,t∈r)∧(∀t∈todo,deepOf t < 12→t∈r)∧∀t∈r,t.hd≠.val 64→∀u∈t0 D t,deepOf u < 12→u∈r
 | 0,todo,met,r,h,_=>by cases h
 | n+1,todo,met,r,h,hc=>by
  unfold D8 at h
  cases hg:todo.getLast? with
  | none =>
   rw[hg] at h
   have:todo=[]:=by simpa using hg
   subst this
   cases h
   exact⟨λ_ h=>h,by simp,λt ht hS u hu hd=>(hc t ht hS u hu hd).resolve_right (by simp)⟩
  | some t =>
   rw[hg] at h
   have hsp:=M3 hg
   generalize todo.dropLast=td at hsp h
   subst hsp
   simp only at h
   split at h
   ·split at h
    ·rename_i hS
     obtain⟨h1,h2,h3⟩:=Nc h (by
      intro x hx nE u hu hd
      rcases List.mem_append.mp hx with hx | hx
      ·rcases hc x hx nE u hu hd with h | h
       ·exact .inl (by simp[h])
       ·rcases List.mem_append.mp h with h | h
        ·exact .inr (by simp[h])
        ·exact .inl (by simp at h; simp[h])
      ·simp at hx; subst hx
       exact .inr (by simp[hu]))
     refine⟨λx hx=>h1 x (by simp[hx]),λx hx hd=>?_,h3⟩
     rcases List.mem_append.mp hx with hx | hx
     ·exact h2 x (by simp[hx]) hd
     ·simp at hx; subst hx; exact h1 _ (by simp)
    ·rename_i hS
     obtain⟨h1,h2,h3⟩:=Nc h (by
      intro x hx nE u hu hd
      rcases List.mem_append.mp hx with hx | hx
      ·rcases hc x hx nE u hu hd with h | h
       ·exact .inl (by simp[h])
       ·rcases List.mem_append.mp h with h | h
        ·exact .inr h
        ·exact .inl (by simp at h; simp[h])
      ·simp at hx; subst hx
       exact absurd nE hS)
     refine⟨λx hx=>h1 x (by simp[hx]),λx hx hd=>?_,h3⟩
     rcases List.mem_append.mp hx with hx | hx
     ·exact h2 x hx hd
     ·simp at hx; subst hx; exact h1 _ (by simp)
   ·rename_i hn
    have hin:deepOf t < 12→t∈met:=λhd=>by
     refine Classical.byContradiction λh=>hn ⟨h,hd⟩
    obtain⟨h1,h2,h3⟩:=Nc h (by
     intro x hx nE u hu hd
     rcases hc x hx nE u hu hd with h | h
     ·exact .inl h
     ·rcases List.mem_append.mp h with h | h
      ·exact .inr h
      ·simp at h; subst h; exact .inl (hin hd))
    refine⟨h1,λx hx hd=>?_,h3⟩
    rcases List.mem_append.mp hx with hx | hx
    ·exact h2 x hx hd
    ·simp at hx; subst hx; exact h1 _ (hin hd)
theorem dS{D:Nat→List Tm}{P:Tm→Prop}(step:∀t,P t→deepOf t < 12→t.hd≠.val 64→∀u∈t0 D t,P u):∀{n:Nat}{todo met r:List Tm},D8 D n todo met=some r→(∀t∈todo,P t)→(∀t∈met,P t∧deepOf t < 12)→∀t∈r,P t∧deepOf t < 12
 | 0,todo,met,r,h,_,_=>by cases h
 | n+1,todo,met,r,h,ht,hm=>by
  unfold D8 at h
  cases hg:todo.getLast? with
  | none=>rw[hg] at h; cases h; exact hm
  | some t =>
   rw[hg] at h
   have hsp:=M3 hg
   generalize todo.dropLast=td at hsp h
   subst hsp
   have hPt:=ht t (by simp)
   have htd:∀x∈td,P x:=λx hx=>ht x (by simp[hx])
   simp only at h
   split at h
   ·rename_i hc
    have hm':∀x∈met++[t],P x∧deepOf x < 12:=by
     intro x hx
     rcases List.mem_append.mp hx with hx | hx
     ·exact hm x hx
     ·simp at hx; subst hx; exact⟨hPt,hc.2⟩
    split at h
    ·rename_i hS
     refine dS step h (λx hx=>?_) hm'
     rcases List.mem_append.mp hx with hx | hx
     ·exact htd x hx
     ·exact step t hPt hc.2 hS x hx
    ·exact dS step h htd hm'
   ·exact dS step h htd hm
theorem dT{Ts:List G2}{Fs:List P4}{W:List Tm}(hz:W.length < 1000){P:Tm→Prop}(hW:∀t,P t→t∈W) (hl:∀t,(z1 Ts Fs t).length≤3) (step:∀t,P t→t.hd.l9≠64→∀u∈z1 Ts Fs t,P u) :
  ∀(n:Nat) (todo:List Tm) (met:Bd),(∀t∈todo,P t)→(∀p∈met,P p.1)→(met.map (·.1)).Nodup→4 * (W.length - met.length)+todo.length < n →
   ∃r,G3 Ts Fs 64 n todo met=some r∧(r=true→∃k,P k∧k.hd.l9=64) ∧
    (r=false→(∀k∈met.map (·.1),k.hd.l9≠64∧∀u∈z1 Ts Fs k,u∈met.map (·.1)∨u∈todo)→∃M:List Tm,(∀k∈met.map (·.1),k∈M)∧(∀t∈todo,t∈M)∧∀k∈M,k.hd.l9≠64∧∀u∈z1 Ts Fs k,u∈M)
 | 0,_,_,_,_,_,h=>by omega
 | n+1,todo,met,ht,hm,hn,h=>by
  unfold G3
  cases hg:todo.getLast? with
  | none =>
   have:todo=[]:=by simpa using hg
   subst this
   exact⟨false,rfl,by simp,λ_ hc=>⟨_,λ_ h=>h,by simp,λk hk=>⟨(hc k hk).1,λu hu=>((hc k hk).2 u hu).resolve_right (by simp)⟩⟩⟩
  | some k =>
   have hsp:=M3 hg
   have htl:todo.length=todo.dropLast.length+1:=by
    have:=congrArg List.length hsp
    simpa using this
   generalize todo.dropLast=td at hsp htl
   subst hsp
   have yR:=ht k (by simp)
   have htd:∀x∈td,P x:=λx hx=>ht x (by simp[hx])
   have hml:met.length≤W.length:=by
    have:=w9 hn λx hx=>by
     obtain⟨p,hp,rfl⟩:=List.mem_map.mp hx
     exact hW _ (hm p hp)
    simpa using this
   simp only
   rw[if_neg (by omega)]
   by_cases hk:k.hd.l9=64
   ·rw[if_pos hk]
    exact⟨true,rfl,λ_=>⟨k,yR,hk⟩,by simp⟩
   rw[if_neg hk]
   cases hf:f6 met k with
   | some v =>
    rw[if_pos (show(some v).isSome=true from rfl)]
    have hin:k∈met.map (·.1):=List.mem_map_of_mem (j8 hf)
    obtain⟨r,h1,h2,h3⟩:=dT hz hW hl step n td met htd hm hn (by omega)
    refine⟨r,h1,h2,λe hc=>?_⟩
    obtain⟨M,m1,m2,m3⟩:=h3 e (λx hx=>⟨(hc x hx).1,λu hu=>by
     rcases(hc x hx).2 u hu with h | h
     ·exact .inl h
     ·rcases List.mem_append.mp h with h | h
      ·exact .inr h
      ·simp at h; subst h; exact .inl hin⟩)
    refine⟨M,m1,λx hx=>?_,m3⟩
    rcases List.mem_append.mp hx with hx | hx
    ·exact m2 x hx
    ·simp at hx; subst hx; exact m1 _ hin
   | none =>
    rw[if_neg (by simp)]
    have hn':((met++[(k,k)]).map (·.1)).Nodup:=by
     rw[List.map_append,List.nodup_append]
     refine⟨hn,by simp,?_⟩
     intro x hx y hy
     simp at hy; subst hy
     intro e; subst e; exact P9 hf hx
    have hm':∀p∈met++[(k,k)],P p.1:=by
     intro p hp
     rcases List.mem_append.mp hp with hp | hp
     ·exact hm p hp
     ·simp at hp; subst hp; exact yR
    have hlen:=w9 hn' λx hx=>by
     obtain⟨p,hp,rfl⟩:=List.mem_map.mp hx
     exact hW _ (hm' p hp)
    simp only[List.map_append,List.length_append,List.length_map,List.map_cons,List.map_nil,List.length_cons,List.length_nil] at hlen
    have hlk:=hl k
    obtain⟨r,h1,h2,h3⟩:=dT hz hW hl step n (td++z1 Ts Fs k) (met++[(k,k)]) (λx hx=>by
     rcases List.mem_append.mp hx with hx | hx
     ·exact htd x hx
     ·exact step k yR hk x hx) hm' hn' (by simp only[List.length_append,List.length_cons,List.length_nil]; omega)
    refine⟨r,h1,h2,λe hc=>?_⟩
    obtain⟨M,m1,m2,m3⟩:=h3 e (λx hx=>by
     rw[List.map_append] at hx ⊢
     rcases List.mem_append.mp hx with hx | hx
     ·refine⟨(hc x hx).1,λu hu=>?_⟩
      rcases(hc x hx).2 u hu with h | h
      ·exact .inl (by simp only[List.mem_append]; exact .inl h)
      ·rcases List.mem_append.mp h with h | h
       ·exact .inr (List.mem_append.mpr (.inl h))
       ·simp at h; subst h; exact .inl (by simp)
     ·simp at hx; subst hx
      exact⟨hk,λu hu=>.inr (List.mem_append.mpr (.inr hu))⟩)
    refine⟨M,λx hx=>m1 x (by rw[List.map_append]; exact List.mem_append.mpr (.inl hx)),λx hx=>?_,m3⟩
    rcases List.mem_append.mp hx with hx | hx
    ·exact m2 x (List.mem_append.mpr (.inl hx))
    ·simp at hx; subst hx; exact m1 _ (by simp)
def FH:List Hd:=Nh++x7
def kp(p:Tm×Nat):Bool:=(p.2 == 0 || p.2 == 2) && (p.1.hd.sort == 3 || p.1.hd.sort == 6)
theorem Kg{Fs:List P4}:∀{v8:List Nat}{l:List (Tm×Nat)},Xp Fs v8=l.map some→v8.flatMap (E5 Fs)=(l.filter kp).map (·.1)
 | [],l,h=>by
  have:l=[]:=by cases l<;>simp[Xp] at h ⊢
  subst this; rfl
 | i::v8,[],h=>by simp[Xp] at h
 | i::v8,p::l,h=>by
  simp only[Xp,List.map_cons,List.cons.injEq,Option.map_eq_some_iff] at h
  obtain⟨⟨f,hf,e⟩,h2⟩:=h
  rw[List.flatMap_cons,Kg (l:=l) h2]
  have hk:keeps f=kp p:=by rw[←e]; rfl
  unfold E5
  rw[hf]
  simp only[hk,List.filter_cons]
  cases hkp:kp p with
  | true=>simp[←e]
  | false=>simp
theorem dU:∀h∈FH,(h.sort == 3 && ((if h.l9 < 64 then none else (Vk[h.l9 - 64]?).map (·.1)) != some 5))=Ni.contains h:=by decide +kernel
theorem mL:∀h∈FH,(h.sort == 3 || h.sort == 6)=false→Ni.contains h=false∧h.isVar=false:=by decide +kernel
theorem Gv:∀b∈Nf,b.hd∈FH∧b.o5=true∧chain b=true∧deepOf b≤1:=by decide +kernel
theorem jF{i:Nat}{b:Tm}(hb:b∈Nf):(gr i b).hd∈FH:=by
 by_cases h:i=0
 ·subst h; exact(Gv b hb).1
 ·rw[jE h]; decide
theorem Gw:∀(i:Nat){b:Tm},chain b=true→chain (gr i b)=true
 | 0,b,h=>h
 | i+1,b,h=>by simp only[gr,chain]; exact Gw i h
theorem M4{h:Hd}(hh:h∈Yd):∃j,j < 5∧h=.val (64+j)∧Gb h=some j:=by
 simp only[Yd,List.mem_cons,List.not_mem_nil,or_false] at hh
 rcases hh with rfl | rfl | rfl | rfl | rfl
 ·exact⟨0,by omega,rfl,rfl⟩
 ·exact⟨1,by omega,rfl,rfl⟩
 ·exact⟨2,by omega,rfl,rfl⟩
 ·exact⟨3,by omega,rfl,rfl⟩
 ·exact⟨4,by omega,rfl,rfl⟩
theorem Vw:∀{z:Tm},chain z=true→z.weight=z.nest
 | .leaf _,_=>rfl
 | .un _ a,h=>by simp only[Tm.weight,Tm.nest,Vw (z:=a) h]
 | .bin _ _ _,h=>by simp[chain] at h
theorem Vx{a:Tm}{hs:List Hd}:∀{k:Nat}{t:Tm},fld hs k t=true→t.sub [a]=t4 [(tX,a)] t
 | k,.leaf h,e=>by
  have he:x7.contains h=true:=by cases k<;>exact e
  rw[List.contains_iff_mem] at he
  rw[I5]
  simp only[x7,List.mem_cons,List.not_mem_nil,or_false] at he
  rcases he with rfl | rfl | rfl | rfl | rfl<;>simp[Tm.sub]
 | 0,.un h b,e=>by simp[fld] at e
 | k+1,.un h b,e=>by
  simp only[fld,Bool.and_eq_true] at e
  rw[Y2,Tm.sub,Vx e.2]
 | 0,.bin h b c,e=>by simp[fld] at e
 | k+1,.bin h b c,e=>by simp[fld] at e
theorem mM{hs:List Hd}(hh:∀h∈hs,h∈Nh){k:Nat}{t:Tm}(e:fld hs k t=true):t.hd∈FH:=by
 rcases t with l | ⟨h,b⟩ | ⟨h,b,c⟩
 ·have he:x7.contains l=true:=by cases k<;>exact e
  rw[List.contains_iff_mem] at he
  exact List.mem_append.mpr (.inr he)
 ·cases k with
  | zero=>simp[fld] at e
  | succ k =>
   simp only[fld,Bool.and_eq_true] at e
   have:=e.1
   rw[List.contains_iff_mem] at this
   exact List.mem_append.mpr (.inl (hh _ this))
 ·cases k<;>simp[fld] at e
theorem hX{a t:Tm}(ha:a.hd∈FH) (ht:t.hd∈FH) (hc:chain t=true):(t4 [(tX,a)] t).hd∈FH∧(t.hd.isVar=false→(t4 [(tX,a)] t).hd=t.hd):=by
 rcases t with l | ⟨h,b⟩ | ⟨h,b,c⟩
 ·rw[I5]
  by_cases e:l=.var 0
  ·rw[if_pos e]
   refine⟨ha,λh=>?_⟩
   subst e; cases h
  ·rw[if_neg e]; exact⟨ht,λ_=>rfl⟩
 ·rw[Y2]; exact⟨ht,λ_=>rfl⟩
 ·simp[chain] at hc
section
variable {D:Nat→List (Tm×Nat)}(hD:∀i,i < 5→lO i (D i)∧(D i).length≤2){Ts:List G2}{Fs:List P4}(hsn:(Ts.map λt=>(t.sort,t.np))=Vk) (hty:∀i,i < 5→Tc Ts Fs i (v5 D i))
include hsn in
theorem dV{t:Tm}(h:t.hd∈FH):plain Ts t=Ni.contains t.hd:=by
 rw[←dU _ h]
 have hs:∀j:Nat,(Ts[j]?).map (·.sort)=(Vk[j]?).map (·.1):=λj=>by
  rw[←hsn,List.getElem?_map,Option.map_map]; rfl
 unfold plain D9
 by_cases e:t.hd.l9 < 64
 ·rw[if_pos e,if_pos e]; rfl
 ·rw[if_neg e,if_neg e,←hs]
  cases Ts[t.hd.l9 - 64]? with
  | none=>simp
  | some v =>
   have:(some v.sort != some 5)=(v.sort != 5):=by rw[Bool.eq_iff_iff]; simp
   simp[this]
include hD in
theorem Tq{j:Nat}(hj:j < 5){p:Tm×Nat}(hp:p∈v5 D j) (a:Tm):p.1.sub [a]=t4 [(tX,a)] p.1∧p.1.hd∈FH:=by
 rcases Qz hD hj hp with⟨h,_⟩ | ⟨_,rfl⟩
 ·exact⟨Vx h,mM (by unfold Du; split; exact λ_ h=>h; exact(by decide:∀h∈lL,h∈Nh)) h⟩
 ·refine⟨?_,by decide⟩
  rw[Nb]; rfl
include hty in
theorem Gx{j:Nat}(hj:j < 5){t:Tm}(h:t.hd=.val (64+j)):L0 Ts Fs t=((v5 D j).filter kp).map (·.1):=by
 obtain⟨ti,h1,h2⟩:=hty j hj
 have e1:D9 Ts t.hd.l9=some ti:=by
  rw[h]
  show D9 Ts (64+j)=some ti
  unfold D9
  rw[if_neg (by omega),show 64+j - 64=j by omega,h1]
 unfold L0
 rw[e1]
 exact Kg h2
include hsn in
theorem Df{a:Tm}(ha:a.hd∈FH):∀{l:List (Tm×Nat)},(∀p∈l,p.1.sub [a]=t4 [(tX,a)] p.1∧p.1.hd∈FH∧chain p.1=true) →
  ((((l.filter kp).map (·.1)).map (Tm.sub [a])).filter (plain Ts))=((TL l).map (t4 [(tX,a)])).filter λu=>Ni.contains u.hd
 | [],_=>rfl
 | p::l,h=>by
  have ih:=Df ha (l:=l) λx hx=>h x (.tail _ hx)
  obtain⟨h1,h2,h3⟩:=h p (.head _)
  obtain⟨h4,h5⟩:=hX ha h2 h3
  unfold TL at ih ⊢
  cases hfl:(p.2 == 0 || p.2 == 2) with
  | false =>
   have:kp p=false:=by simp only[kp,hfl,Bool.false_and]
   rw[List.filter_cons_of_neg (by rw[this]; simp),List.filter_cons_of_neg (by rw[hfl]; simp)]
   exact ih
  | true =>
   rw[List.filter_cons_of_pos (p:=λp:Tm×Nat=>p.2 == 0 || p.2 == 2) hfl]
   cases hs:(p.1.hd.sort == 3 || p.1.hd.sort == 6) with
   | true =>
    have:kp p=true:=by simp only[kp,hfl,hs,Bool.true_and]
    rw[List.filter_cons_of_pos this]
    simp only[List.map_cons,List.filter_cons,h1,dV hsn h4]
    rw[ih]
   | false =>
    have:kp p=false:=by simp only[kp,hfl,hs,Bool.true_and]
    rw[List.filter_cons_of_neg (by rw[this]; simp)]
    obtain⟨g1,g2⟩:=mL _ h2 hs
    simp only[List.map_cons]
    rw[List.filter_cons_of_neg (by rw[h5 g2,g1]; simp)]
    exact ih
include hD hsn hty in
theorem held_eq{h:Hd}(hh:h∈Yd){a:Tm}(ha:a.hd∈FH):held Ts Fs (.un h a)=t0 (λi=>TL (v5 D i)) (.un h a):=by
 obtain⟨j,hj,rfl,hi⟩:=M4 hh
 unfold held t0
 rw[Gx hty hj rfl]
 simp only[Tm.hd,Tm.kids,hi]
 exact Df hsn ha λp hp=>⟨(Tq hD hj hp a).1,(Tq hD hj hp a).2,(Vu hD hj hp).1.2.1⟩
theorem Gy{a t:Tm}(ha:chain a=true) (ht:chain t=true):chain (t4 [(tX,a)] t)=true∧(t4 [(tX,a)] t).nest≤t.nest+a.nest :=
 Z9 (f:=[(tX,a)]) (k:=a.nest) (by intro p hp; simp at hp; subst hp; exact ha) (by intro p hp; simp at hp; subst hp; exact⟨_,rfl⟩) (by intro p hp; simp at hp; subst hp; exact Nat.le_refl _) ht
theorem Gz{t:Tm}(hc:chain t=true) (hn:t.nest≤24):Fits t:=⟨by have:=Bg t; omega,by rw[Vw hc]; omega⟩
include hD hsn hty in
theorem Ra{h:Hd}(hh:h∈Yd){a:Tm}(ha:a.hd∈FH) (hc:chain a=true) (hd:deepOf a < 12):z1 Ts Fs (.un h a)=t0 (λi=>TL (v5 D i)) (.un h a):=by
 rw[←held_eq hD hsn hty hh ha]
 unfold z1
 rw[if_pos]
 obtain⟨j,hj,rfl,hi⟩:=M4 hh
 intro f hf
 rw[Gx hty hj rfl] at hf
 obtain⟨p,hp,rfl⟩:=List.mem_map.mp hf
 have hp:=(List.mem_filter.mp hp).1
 rw[show u9 (.un (.val (64+j)) a)=[a] from rfl,(Tq hD hj hp a).1]
 obtain⟨h1,h2,h3⟩:=(Vu hD hj hp).1
 obtain⟨g1,g2⟩:=Gy hc h2
 have:=R7 hc
 exact Gz g1 (by omega)
include hD hsn hty in
theorem dW{h:Hd}(hh:h∈Yd){a u:Tm}(ha:a.hd∈FH) (hu:u∈z1 Ts Fs (.un h a)):u∈t0 (λi=>TL (v5 D i)) (.un h a)∧∀f∈L0 Ts Fs (.un h a),Fits (f.sub [a]):=by
 rw[←held_eq hD hsn hty hh ha]
 obtain⟨j,hj,rfl,hi⟩:=M4 hh
 unfold z1 at hu
 split at hu
 ·rename_i hF; exact⟨hu,hF⟩
 ·cases hu
end
theorem Ha{l:List (Tm×Nat)}{f:Tm}(h:f∈TL l):∃p∈l,p.1=f∧(p.2 == 0 || p.2 == 2)=true:=by
 unfold TL at h
 obtain⟨p,hp,rfl⟩:=List.mem_map.mp h
 obtain⟨h1,h2⟩:=List.mem_filter.mp hp
 exact⟨p,h1,rfl,h2⟩
theorem Q3{D:Nat→List Tm}{h:Hd}{j:Nat}(hi:Gb h=some j){a u:Tm}:u∈t0 D (.un h a)↔∃f∈D j,u=t4 [(tX,a)] f∧Ni.contains u.hd=true:=by
 unfold t0
 simp only[Tm.hd,Tm.kids,hi,List.mem_filter,List.mem_map]
 constructor
 ·rintro⟨⟨f,hf,rfl⟩,h⟩; exact⟨f,hf,rfl,h⟩
 ·rintro⟨f,hf,rfl,h⟩; exact⟨⟨f,hf,rfl⟩,h⟩
theorem Hb{D:Nat→List Tm}:t0 D tU=[]:=rfl
theorem dX:Un tU:=.inl rfl
theorem mN{h:Hd}(hh:h∈Yd) (e:h.l9=64):h=.val 64:=by
 obtain⟨j,hj,rfl,hi⟩:=M4 hh
 have:64+j=64:=e
 rw[this]
section
variable {D:Nat→List (Tm×Nat)}(hD:∀i,i < 5→lO i (D i)∧(D i).length≤2)
include hD
theorem Rb{u:Tm}(hu:u∈t0 (λi=>TL (v5 D i)) (m0 64)):u=tU∨∃h∈Yd,∃b∈Nf,u=.un h b:=by
 obtain⟨f,hf,rfl,hs⟩:=(Q3 (j:=0) rfl).mp hu
 obtain⟨p,hp,rfl,_⟩:=Ha hf
 rcases dQ hD hp with⟨l,hl,e⟩ | ⟨h,hh,b,hb,e⟩
 ·rw[e,show(Tm.leaf (.var 0))=tX from rfl,I5] at hs ⊢
  by_cases hx:l=.var 0
  ·rw[if_pos hx] at hs; exact absurd hs (by decide)
  ·rw[if_neg hx] at hs ⊢
   exact .inl (by rw[Na _ hl hs]; rfl)
 ·rw[e,show(Tm.leaf (.var 0))=tX from rfl,Y2,dP b hb] at hs ⊢
  exact .inr ⟨h,mK _ hh hs,b,hb,rfl⟩
theorem Nd{t:Tm}(ht:Un t) (hd:deepOf t < 12) (hS:t.hd≠.val 64){u:Tm}(hu:u∈t0 (λi=>TL (v5 D i)) t):Un u:=by
 rcases ht with rfl | ⟨h,hh,i,hi,b,hb,rfl⟩
 ·rw[Hb] at hu; cases hu
 ·obtain⟨j,hj,rfl,hx⟩:=M4 hh
  have hj1:1≤j:=by
   have:j≠0:=λe=>hS (by rw[e]; rfl)
   omega
  obtain⟨f,hf,rfl,hs⟩:=(Q3 hx).mp hu
  obtain⟨p,hp,rfl,_⟩:=Ha hf
  rcases Vt hD hj1 hj hp with yS | ⟨_,e⟩
  ·rcases Gu yS hb hs with e | ⟨h',hh',i',hi',b',hb',e,_⟩
   ·rw[e]; exact dX
   ·exact .inr ⟨h',hh',i',by omega,b',hb',e⟩
  ·rw[e,Nb]
   simp only[deepOf,Vs] at hd
   exact .inr ⟨.val 68,by decide,i+1,by omega,b,hb,rfl⟩
variable {Ts:List G2}{Fs:List P4}(hsn:(Ts.map λt=>(t.sort,t.np))=Vk) (hty:∀i,i < 5→Tc Ts Fs i (v5 D i))
include hsn in
omit hD in
theorem Rc:z1 Ts Fs tU=[]:=by
 have hl:Ts.length=7:=by
  have:=congrArg List.length hsn
  simpa[Vk] using this
 have:L0 Ts Fs tU=[]:=by
  unfold L0
  have:D9 Ts tU.hd.l9=none:=by
   show D9 Ts 75=none
   unfold D9
   rw[if_neg (by omega)]
   exact List.getElem?_eq_none (by omega)
  rw[this]
 unfold z1 held
 rw[this]
 split<;>rfl
theorem Ye{t:Tm}(ht:Un t) (hd:deepOf t < 12){u:Tm}(hu:u∈t0 (λi=>TL (v5 D i)) t):u.ok=true∧Fits u:=by
 rcases ht with rfl | ⟨h,hh,i,hi,b,hb,rfl⟩
 ·rw[Hb] at hu; cases hu
 ·obtain⟨h1,h2,h3,h4,h5,h6⟩:=jD _ (Qx (.inr ⟨h,hh,i,hi,b,hb,rfl⟩))
  obtain⟨j,hj,rfl,hx⟩:=M4 hh
  obtain⟨f,hf,rfl,hs⟩:=(Q3 hx).mp hu
  obtain⟨p,hp,rfl,_⟩:=Ha hf
  have hfo:p.1.ok=true:=by
   rcases Qz hD hj hp with⟨e,_⟩ | ⟨_,rfl⟩
   ·exact(Mp (by unfold Du; split<;>simp) e).2.1
   ·decide
  obtain⟨g1,g2,g3⟩:=(Vu hD hj hp).1
  have ka:=X9 h1 (gr i b) (by simp[Tm.kids])
  have hal:(gr i b).o5=true:=by simp only[Tm.o5,Bool.and_eq_true] at h2; exact h2.2
  have hn:(gr i b).nest≤21:=by simp only[Tm.nest] at h3; omega
  have hc:=Gw i (Gv b hb).2.2.1
  have r:=R5 (f:=[(tX,gr i b)]) (k:=21) (by omega) (by intro q hq; simp at hq; subst hq; exact⟨⟨hal,ka.1,hn⟩,ka.2⟩) (by intro q hq; simp at hq; subst hq; exact⟨_,rfl⟩) g1 hfo
  obtain⟨e1,e2⟩:=Gy hc g2
  have:=R7 hc
  simp only[deepOf] at hd
  exact⟨r.2.1,Gz e1 (by omega)⟩
def Qd(met:List Tm) (k:Tm):Prop:=k=tU∨∃h∈Yd,∃i,i < 4∧∃b∈Nf,k=.un h (gr i b)∧.un h b∈met
include hsn hty in
theorem mO{met:List Tm}(hcl:∀t∈met,t.hd≠.val 64→∀u∈t0 (λi=>TL (v5 D i)) t,deepOf u < 12→u∈met){k:Tm}(hk:Qd met k) (hS:k.hd.l9≠64){u:Tm}(hu:u∈z1 Ts Fs k):Qd met u:=by
 rcases hk with rfl | ⟨h,hh,i,hi,b,hb,rfl,hm⟩
 ·rw[Rc hsn] at hu; cases hu
 ·obtain⟨hu,hfit⟩:=dW hD hsn hty hh (jF hb) hu
  obtain⟨j,hj,rfl,hx⟩:=M4 hh
  have hj1:1≤j:=by
   have:j≠0:=λe=>hS (by rw[e]; rfl)
   omega
  obtain⟨f,hf,rfl,hs⟩:=(Q3 hx).mp hu
  obtain⟨p,hp,rfl,_⟩:=Ha hf
  rcases Vt hD hj1 hj hp with yS | ⟨xA,e⟩
  ·rcases Gu yS hb hs with e | ⟨h',hh',i',hi',b',hb',e,e2⟩
   ·exact .inl e
   ·refine .inr ⟨h',hh',i',by omega,b',hb',e,?_⟩
    refine hcl _ hm (λe=>?_) _ ((Q3 hx).mpr ⟨p.1,hf,e2.symm,sD h' hh'⟩) ?_
    ·simp only[Tm.hd,Hd.val.injEq] at e; omega
    ·have:=(Gv b' hb').2.2.2
     simp only[deepOf]; omega
  ·subst xA
   have hin:tG∈L0 Ts Fs (.un (.val (64+4)) (gr i b)):=by
    rw[Gx hty (by omega:4 < 5) rfl]
    refine List.mem_map.mpr ⟨(tG,0),List.mem_filter.mpr ⟨?_,by decide⟩,rfl⟩
    unfold v5
    rw[if_pos rfl]
    simp
   have hF:=(hfit _ hin).1
   have h5:tG.sub [gr i b]=.un (.val 68) (gr (i+1) b):=rfl
   rw[h5] at hF
   have:=Qy (i+1) b
   simp only[Tm.depth,Hd.Aw] at hF
   rw[e,Nb]
   exact .inr ⟨.val 68,by decide,i+1,by omega,b,hb,rfl,hm⟩
end
theorem Rd:R8:=by
 intro Ts Fs D hsn hty Ql hD hG
 have hl7:Ts.length=7:=by
  have:=congrArg List.length hsn
  simpa[Vk] using this
 have few:∀j,j < 5→(TL (v5 D j)).length≤3:=λj hj=>by
  have:=dR hD hG hj
  unfold TL
  rw[List.length_map]
  exact Nat.le_trans (List.length_filter_le ..) (by omega)
 have v8:∀t∈Ts,t.v8.length≤3:=λt ht=>by
  obtain⟨i,hi,e⟩:=List.getElem_of_mem ht
  have hfl:∀l:List (Tm×Nat),l.length≤2→Tc Ts Fs i l→t.v8.length≤3:=λl hl ⟨t',h1,h2⟩=>by
   rw[List.getElem?_eq_getElem hi,e] at h1
   cases h1
   have:=congrArg List.length h2
   simp only[Xp,List.length_map] at this
   omega
  by_cases h5:i < 5
  ·exact hfl _ (dR hD hG h5) (hty i h5)
  ·exact hfl [] (by simp) (Ql i (by omega) (by omega))
 have hlen:=Y1 few
 have hdl:=Ca v8 (Fs:=Fs)
 have hself:z1 Ts Fs (m0 64)=t0 (λi=>TL (v5 D i)) (m0 64):=Ra hD hsn hty (h:=.val 64) (by decide) (a:=.leaf (.var 0)) (by decide) rfl (by decide)
 have hst:∀t∈t0 (λi=>TL (v5 D i)) (m0 64),Un t∧deepOf t < 12:=λt ht=>by
  rcases Rb hD ht with rfl | ⟨h,hh,b,hb,rfl⟩
  ·exact⟨dX,by decide⟩
  ·have:=(Gv b hb).2.2.2
   exact⟨.inr ⟨h,hh,0,by omega,b,hb,rfl⟩,by simp only[deepOf]; omega⟩
 obtain⟨met,hmet⟩:=Vv (D:=λi=>TL (v5 D i)) (W:=UL) (P:=Un) (λt ht=>Qx ht) hlen (λt ht hd hS u hu=>Nd hD ht hd hS hu) 10000 _ [] (λt ht=>(hst t ht).1) (by simp) (by simp) (by
  rw[Tp]
  have:=hlen (m0 64)
  simp only[List.length_nil]; omega)
 obtain⟨_,hin,hcl⟩:=Nc hmet (by simp)
 have hmU:=dS (P:=Un) (λt ht hd hS u hu=>Nd hD ht hd hS hu) hmet (λt ht=>(hst t ht).1) (by simp)
 have sF:∀t,Un t→deepOf t < 12→z1 Ts Fs t=t0 (λi=>TL (v5 D i)) t:=λt ht hd=>by
  rcases ht with rfl | ⟨h,hh,i,hi,b,hb,rfl⟩
  ·rw[Rc hsn,Hb]
  ·exact Ra hD hsn hty hh (jF hb) (Gw i (Gv b hb).2.2.1) (by simp only[deepOf] at hd; omega)
 have hfits:∀t,Un t→t.ok=true∧Fits t:=λt ht=>by
  obtain⟨h1,_,_,_,h5,h6⟩:=jD t (Qx ht)
  exact⟨h1,h5,by omega⟩
 refine⟨10000,met,Nat.le_refl _,hmet,?_,few,v8,?_,?_⟩
 ·intro j hj u hu
  obtain⟨p,hp,rfl,_⟩:=Ha hu
  exact(Vu hD hj hp).1
 ·rintro t (rfl | ht)
  ·exact⟨by decide,⟨by decide,by decide⟩,hself,λu hu=>hfits u (hst u hu).1⟩
  ·obtain⟨h1,h2⟩:=hmU t ht
   exact⟨(hfits t h1).1,(hfits t h1).2,sF t h1 h2,λu hu=>Ye hD h1 h2 hu⟩
 ·have hQ0:∀t∈z1 Ts Fs (m0 64),Qd met t:=λt ht=>by
   rw[hself] at ht
   rcases Rb hD ht with rfl | ⟨h,hh,b,hb,rfl⟩
   ·exact .inl rfl
   ·exact .inr ⟨h,hh,0,by omega,b,hb,rfl,hin _ ht (hst _ ht).2⟩
  have hQU:∀t,Qd met t→t∈UL:=λt ht=>by
   rcases ht with rfl | ⟨h,hh,i,hi,b,hb,rfl,_⟩
   ·exact Qx dX
   ·exact Qx (.inr ⟨h,hh,i,hi,b,hb,rfl⟩)
  obtain⟨r,h1,h2,h3⟩:=dT (Ts:=Ts) (Fs:=Fs) (W:=UL) (by rw[Tp]; omega) hQU hdl (λk hk hS u hu=>mO hD hsn hty hcl hk hS hu) 10000 (z1 Ts Fs (m0 64)) [] hQ0 (by simp) (by simp) (by
   rw[Tp]
   have:=hdl (m0 64)
   simp only[List.length_nil]; omega)
  refine⟨10000,r,h1,?_⟩
  cases r with
  | true =>
   obtain⟨k,hk,hS⟩:=h2 rfl
   rcases hk with rfl | ⟨h,hh,i,hi,b,hb,rfl,hm⟩
   ·exact absurd hS (by decide)
   ·have:=mN hh hS
    subst this
    exact(List.any_eq_true.mpr ⟨_,hm,by simp[Tm.hd]⟩).symm
  | false =>
   obtain⟨M,_,m2,m3⟩:=h3 rfl (by simp)
   have hall:=dS (P:=λt=>Un t∧t∈M) (λt ht hd hS u hu=>⟨Nd hD ht.1 hd hS hu,(m3 t ht.2).2 u (by rw[sF t ht.1 hd]; exact hu)⟩) hmet (λt ht=>⟨(hst t ht).1,m2 t (by rw[hself]; exact ht)⟩) (by simp)
   symm
   rw[List.any_eq_false]
   intro t ht e
   have hS:=(m3 t (hall t ht).1.2).1
   rw[decide_eq_true_eq] at e
   rw[e] at hS
   exact hS rfl
end Mine
end
section
open PySem PySem.W PyProof.Rows PySem.Calls
set_option Elab.async false
set_option maxRecDepth 100000
namespace Mine
set_option maxHeartbeats 8000000 in
theorem mP{c:Cx}{P:Params}(h:c.K=hd.heap_39 P) (b:c.k8=51):Code c:=by
 constructor<;>(unfold FI; rw[h,b]; kernel_rfl)
def O3(K:Frag) (C:Addr) (x:Str):Bool:=plainGet K C x && hasDictIn K C && (findIn K (.ref C) x == some none) && (findIn K (.ref C) "__setattr__" == some (some (.builtin "object.__setattr__"))) && plainOver K C && (takerIn K C x == some none)
theorem Yf{c:Cx}{C:Addr}{l:List Str}(h:l.all (O3 c.K C)=true):∀x∈l,Bm c C x∧setName c C x:=by
 intro x hx
 have:=List.all_eq_true.mp h x hx
 simp only[O3,Bool.and_eq_true,beq_iff_eq] at this
 obtain⟨⟨⟨⟨⟨h1,h2⟩,h3⟩,h4⟩,h5⟩,h6⟩:=this
 exact⟨⟨h1,h2,h3⟩,h4,h5,h6,h2⟩
theorem yT(P:Params):v6.all (O3 (hd.heap_39 P) 86)=true:=by kernel_rfl
theorem yU(P:Params):n0.all (O3 (hd.heap_39 P) 282)=true:=by kernel_rfl
theorem yV(P:Params):E8.all (O3 (hd.heap_39 P) 303)=true:=by kernel_rfl
theorem yW(P:Params):A0.all (O3 (hd.heap_39 P) 324)=true:=by kernel_rfl
theorem yX(P:Params):Dz.all (O3 (hd.heap_39 P) 462)=true:=by kernel_rfl
theorem yY(P:Params):D6.all (O3 (hd.heap_39 P) 483)=true:=by kernel_rfl
theorem yZ(P:Params):z3.all (O3 (hd.heap_39 P) 532)=true:=by kernel_rfl
theorem S3{c:Cx}{P:Params}(h:c.K=hd.heap_39 P){C f:Addr}{l:List Str}(h1:l.all (O3 (hd.heap_39 P) C)=true) (h2:makesIn (hd.heap_39 P) C=true) (h3:findIn (hd.heap_39 P) (.ref C) "__init__"=some (some (.ref f))) (h4:typeIn (hd.heap_39 P) (.ref f)=some (.type "function")):v4 c C f l :=
 ⟨Yf (by rw[h]; exact h1),by rw[h]; exact h2,by rw[h]; exact h3,by rw[h]; exact h4⟩
theorem zA{c:Cx}{P:Params}(h:c.K=hd.heap_39 P):v4 c 86 69 v6:=S3 h (yT P) (by kernel_rfl) (by kernel_rfl) (by kernel_rfl)
theorem zB{c:Cx}{P:Params}(h:c.K=hd.heap_39 P):v4 c 282 279 n0:=S3 h (yU P) (by kernel_rfl) (by kernel_rfl) (by kernel_rfl)
theorem zC{c:Cx}{P:Params}(h:c.K=hd.heap_39 P):v4 c 303 300 E8:=S3 h (yV P) (by kernel_rfl) (by kernel_rfl) (by kernel_rfl)
theorem zD{c:Cx}{P:Params}(h:c.K=hd.heap_39 P):v4 c 324 321 A0:=S3 h (yW P) (by kernel_rfl) (by kernel_rfl) (by kernel_rfl)
theorem zE{c:Cx}{P:Params}(h:c.K=hd.heap_39 P):v4 c 462 438 Dz:=S3 h (yX P) (by kernel_rfl) (by kernel_rfl) (by kernel_rfl)
theorem zF{c:Cx}{P:Params}(h:c.K=hd.heap_39 P):v4 c 483 480 D6:=S3 h (yY P) (by kernel_rfl) (by kernel_rfl) (by kernel_rfl)
theorem zG{c:Cx}{P:Params}(h:c.K=hd.heap_39 P):v4 c 532 501 z3:=S3 h (yZ P) (by kernel_rfl) (by kernel_rfl) (by kernel_rfl)
theorem Jo{c:Cx}{P:Params}(h:c.K=hd.heap_39 P):Bw c 86 "row" 76:=by
 unfold Bw; rw[h]; exact⟨by kernel_rfl,by kernel_rfl,by kernel_rfl,by kernel_rfl⟩
theorem Jp{c:Cx}{P:Params}(h:c.K=hd.heap_39 P):Bw c 86 "put" 83:=by
 unfold Bw; rw[h]; exact⟨by kernel_rfl,by kernel_rfl,by kernel_rfl,by kernel_rfl⟩
def Q4:List DictEntry→List (Int×V)→Bool
 | [],[]=>true
 | ⟨h,.int k _,.int v _⟩::es,(k',.int v')::l=>h == hashInt k && k == k' && v == v' && Q4 es l
 | _,_=>false
theorem Dg{prog:Program}{w:World}{h:Heap}:∀{es:List DictEntry}{kvs:List (Int×V)},Q4 es kvs=true→∃l:List (Int×Value),(∀e∈es,∃k,(intKind prog w).is k e.key=true∧e.hash=(intKind prog w).hash k)∧Pairs (intKind prog w) es l∧kvs.map (·.1)=l.map (·.1)∧j9 h (kvs.map (·.2)) (l.map (·.2))
 | [],[],_=>⟨[],by simp,.nil,rfl,.nil⟩
 | ⟨hs,.int k t,.int v u⟩::es,(k',.int v')::kvs,e=>by
  simp only[Q4,Bool.and_eq_true,beq_iff_eq] at e
  obtain⟨⟨⟨rfl,rfl⟩,rfl⟩,e⟩:=e
  obtain⟨l,h1,h2,h3,h4⟩:=Dg (prog:=prog) (w:=w) (h:=h) e
  refine⟨(k,.int v u)::l,λx hx=>?_,.cons (by simp[intKind,Value.isInt]) rfl h2,by simp[h3],.cons (.int ..) h4⟩
  rcases List.mem_cons.mp hx with rfl | hx
  ·exact⟨k,by simp[intKind,Value.isInt],rfl⟩
  ·exact h1 x hx
theorem tab_of{c:Cx}{K:Frag}(hK:c.K=K) (X:c.K.In c.base){a:Addr}(h2:2 < a){kvs:List (Int×V)}(hn:(kvs.map (·.1)).Nodup) (h:∃es ep,K.lookup a=some ⟨.type "dict",none,.dict es ep,#[]⟩∧Q4 es.toList kvs=true):Rj c a kvs:=by
 obtain⟨es,ep,h1,h3⟩:=h
 obtain⟨l,g1,g2,g3,g4⟩:=Dg (prog:=c.prog) (w:=c.w) (h:=c.base) h3
 refine⟨h2,l,⟨_,es,ep,X _ _ (by rw[hK]; exact h1),⟨rfl,rfl,rfl⟩,rfl,λe he=>g1 e (by simpa using he),g2,by rw[←g3]; exact hn⟩,g3,g4⟩
theorem sG(P:Params):∃es ep,(hd.heap_39 P).lookup 54=some ⟨.type "dict",none,.dict es ep,#[]⟩∧Q4 es.toList R2=true:=⟨_,_,rfl,by decide +kernel⟩
theorem zH(P:Params):∃es ep,(hd.heap_39 P).lookup 55=some ⟨.type "dict",none,.dict es ep,#[]⟩∧Q4 es.toList A6=true:=⟨_,_,rfl,by decide +kernel⟩
theorem hY{c:Cx}{P:Params}(h:c.K=hd.heap_39 P) (b:c.k8=51):∃P fI cd fd,V2 c P fI cd fd:=by
 obtain⟨prog,w,base,K,k8⟩:=c
 simp only at h b
 subst h b
 refine⟨38,35,_,_,⟨⟨_,_,_,rfl⟩,rfl,rfl,by kernel_rfl⟩,⟨_,_,_,_,_,_,_,_,_,_,_,_,_,_,_,rfl⟩,by kernel_rfl,by kernel_rfl,⟨_,_,_,_,_,_,_,_,⟨_,_,_,rfl⟩,rfl,by kernel_rfl,rfl,rfl,rfl,rfl,rfl,rfl,λvals hl=>?_⟩,⟨by kernel_rfl,by kernel_rfl,by kernel_rfl⟩,by kernel_rfl,by kernel_rfl⟩
 exact V4 rfl rfl rfl rfl rfl (by decide) hl
theorem sH{h:Heap}:∀{vs:List Value}{ns:List Int},IntsAre vs ns→j9 h (ns.map V.int) vs:=Gf
theorem fin_law{prog:Program}{w:World}{f7:Shared}{J8:Heap}{tk:Tok}{fa a:Addr}{ca:Value}{p:Program}{loose:List Str}{mean:ExcName→Option Value}{mg mb:Str→Option Value}{items:List Value}{ns:List Int}
  (KX:(hd.heap_39 w.params).In f7.heap) (T:Top p loose mean mg mb f7.heap) (hL:f7.heap.IsList a items.toArray) (hI:IntsAre items ns) (hlen:ns.length≤63)
  {name:Str}{sc:Scope}{body:List Stmt}{m:Str→Option Value}(F:Fr f7.heap f7.heap.objs.size J8 m) (hm:m (Str.ofString "script")=some (.ref a))
  (hbody:C5 (cS (hd.heap_39 w.params) 51 40 I2) body=some Ff) (hsc:sc.names=I2.sc) (hkind:sc.kind=.function)
  {QQ:Flow→Shared→Prop}{EE:Value→Shared→Prop}(hQ:∀h tk,(∀b o,f7.heap.get? b=some o→h.get? b=some o)→QQ (.ret (.bool true)) {f7 with heap:=h,toks:=tk}) :
  wpAny (model prog w) (callerA.deeper (envOf name sc f7.heap.objs.size fa ca)) (execs body (envOf name sc f7.heap.objs.size fa ca)) QQ EE {f7 with heap:=J8,toks:=tk}:=by
 let c:Cx:=⟨prog,w,f7.heap,hd.heap_39 w.params,51⟩
 have G:Good c:=⟨KX,T.nolimit,⟨mg,T.g⟩,mb,T.b,T.builtins⟩
 obtain⟨P,fI,cd,fd,Y⟩:=hY (c:=c) (P:=w.params) rfl rfl
 have N:j7 c:=⟨G,⟨P,fI,cd,fd,Y⟩,mP rfl rfl,zA rfl,zB rfl,zC rfl,zD rfl,zE rfl,zF rfl,zG rfl,Jo rfl,Jp rfl,tab_of rfl KX (by decide) (by decide) (sG _),tab_of rfl KX (by decide) (by decide) (zH _)⟩
 have hi:Inj I2:=by
  have e:I2=⟨I2.sc,number (I2.res.map (·.1)) 0⟩:=by kernel_rfl
  rw[e]; exact Ex _ _
 have stay:f7.heap.StaysIn f7.heap:=λ_ _ e=>e
 have hz:(ns.map V.int).length≤1000000:=by rw[List.length_map]; omega
 have W:=sA (c:=c) N Yc Rd (a:=a) (l:=ns.map V.int) (O:=λ_=>none) (Q:=λv _=>v=.bool true) (E:=λ_=>False) ⟨_,hL,by simpa using sH hI⟩ hz (λv hv=>by obtain⟨i,_,rfl⟩:=List.mem_map.mp hv; exact⟨i,rfl⟩) (n:=224) (Nat.le_refl _) λ_=>rfl
 have hb:eD c 224 I2 body Ff:=K9 (λe x=>Zy G Y 40 _ e x hi) hbody
 have hrel:Rel c (λ_=>none) f7.heap:=⟨stay,⟨54,by decide,by obtain⟨es,ep,e,_⟩:=sG w.params; exact⟨_,KX _ _ e⟩⟩,λa o e=>by cases e⟩
 have hbase:f7.heap.get? f7.heap.objs.size=none:=Heap.StaysIn.fresh stay
 let env:=envOf name sc f7.heap.objs.size fa ca
 have hko:∀y,env.kindOf y=I2.sc.lookup y:=λy=>by show sc.names.lookup y=_; rw[hsc]
 have hnc:∀p∈I2.sc,p.2≠.cell∧p.2≠.free:=by decide
 have p1:j6 c (λ_=>none) (λ_=>none) (Own I2 env) f7 {f7 with heap:=J8,toks:=tk}:=j6.grow hrel F.keep
 have G1:Y6 c env I2 (d8 [.fix (.ref a)]) (λ_=>none) J8:=by
  refine⟨hkind,hsc,rfl,rfl,rfl,hbase,⟨m,F.ns,λy i v h1 h2 h3=>?_⟩,λy i h1 h2=>?_,λy z a h1 h2=>by cases h1⟩
  ·have:i=0∧v=.fix (.ref a):=by
    cases i with
    | zero=>simp[d8] at h2; exact⟨rfl,h2.symm⟩
    | succ i=>simp[d8] at h2
   obtain⟨rfl,rfl⟩:=this
   have:y=Str.ofString "script":=hi _ _ 0 h1 (by kernel_rfl)
   subst this
   exact⟨_,hm,.fix ..⟩
  ·rw[hko] at h2
   rcases h2 with h2 | h2
   ·exact absurd rfl (hnc _ (mem_of_lookup h2)).1
   ·exact absurd rfl (hnc _ (mem_of_lookup h2)).2
 obtain⟨o',es,ep,q1,q2,_⟩:=id F.ns
 have ff:FF c (λ_=>none) J8 [env]:=λe he=>by
  simp at he; subst he
  exact⟨by show sc.kind≠_; rw[hkind]; decide,_,o',rfl,hbase,rfl,q1,es,ep,q2⟩
 have ok1:Ok c 224 (callerA.deeper env) (λ_=>none) J8:=by
  refine⟨?_,?_,rfl,[env],rfl,ff⟩
  ·show 1+claimMargin+1+3 * 224+3 < recursionLimit
   decide +kernel
  ·show 4+3+20 * 224+200 < cLine
   decide +kernel
 have a1:Jh c 224 env I2 (callerA.deeper env) (λ_=>none) f7 (d8 [.fix (.ref a)]) (λ_=>none) {f7 with heap:=J8,toks:=tk}:=⟨ok1,G1,p1.rel,p1⟩
 refine wpAny_mono (hb env _ _ _ _ _ W _ _ f7 _ a1 stay ⟨rfl,[],rfl⟩) (λfl s' ⟨uW,i7,b7,hfl,a',hq⟩=>?_) λev s' ⟨k,i7,b7,hk,a',hx,he⟩=>he.elim
 cases fl<;>cases uW<;>simp only[Y8] at hfl<;>simp only[i4] at hq
 ·cases hq
 ·subst hq
  cases hfl
  obtain⟨h',tk',rfl⟩:=a'.post.same
  exact hQ h' tk' a'.rel.1
end Mine
end
open PySem PySem.W PyProof.Rows PySem.Calls
set_option Elab.async false
set_option maxRecDepth 100000 in
set_option maxHeartbeats 8000000 in
theorem PySem.Challenge.cw_sy0003_01_holds : PySem.Challenge.rw_sy0003_01.Holds := by
  refine Mine.hd ?_
  k_go0
  refine Mine.fin_law ‹(Mine.hd.heap_39 _).In _› ‹Top _ _ _ _ _ _› ‹Heap.IsList _ _ _› ‹IntsAre _ _› (by have h := ‹¬ (63:Int) < _›; omega) ‹Fr _ _ _ _› (by kernel_rfl) (by kernel_rfl) (by kernel_rfl) rfl fun h tk keep => ?_
  refine ⟨.inl ⟨.bool true, .bool true, [], rfl, fun _ => ?_, .bool true, ?_, fun _ => ⟨.nil, fun _ h => by cases h⟩⟩, keep, rfl, by assumption⟩
  · rfl
  · first | kernel_rfl | with_unfolding_all rfl
