import PyProof.Rows.All
import Wide.All
import OpenK.AllK
import Wide.FinOn
import HandS.Words
import HandS.Exc
import HandS.Lambda
import KE.KDictKeyed
import HandS.Iter
import HandS.Zip
import HandS.TupAny
import HandS.TupMul
import HandS.Deep
import HandS.IsInst
import HandS.Conv
import PyProof.ReprRoads
import HandS.RaiseMore
import HandS.EndTab
import HandS.Dict
import HandS.Style
import PyProof.StrOps2
import PyProof.Rows.RegFStrParts
import PyProof.FitsInt
import PyProof.StrLaws
import KE.KNest
import KE.KDictPairs
import KE.GoesEnum
import KE.GoesMore
import KE.GoesZip
import KE.KExcSuper
import HandS.ExcInit
import HandS.ExcSuper
import HandS.ExcIs
import HandS.ExcField
import HandS.TryMany
import HandS.ExcValue
import HandS.TryOnly
import HandS.Rev
import KE.KRevSl
import KE.KSuper
import KE.KStateDown
import HandS.Head0
import HandS.Head1
import HandS.Head2
import HandS.HeadHook1
import KE.KIsAll
import HandS.Strs
import PyProof.EqKinds
import HandS.GenList
import HandS.NoneIn
import HandS.Star
import HandS.MakeKwOnly
import HandS.ClsMeth
import HandS.Property
import PyProof.GenRules
import HandS.DictComp
import HandS.SortInts
import OpenK.KMeth
import PyProof.ListStr
import KE.KEqDict
import PyProof.MinMaxWalk
import PyProof.WalkInts
import HandS.SortKw
import HandS.Codes
import KE.KIntText
import PyProof.ReprText
import PyProof.StrLawsRepr
import KE.SortData
import KE.DataMinMax
import HandS.ListItems
import HandS.Text
import HandS.FStr
import PyProof.CollectIter
import KE.KUnpack
import KE.DataCmp
import PySem.Challenge.RW_bothkept_k34_whole_formula_texts
set_option Elab.async false
set_option linter.all false
set_option maxRecDepth 100000
set_option maxHeartbeats 0
namespace Bk
open PySem PySem.Spec PyProof.Rows L2
inductive D where
 |non|bl (b:Bool)|int (i:Int)|str (x:Str)|lst (xs:List D)|tup (xs:List D)|U0 (kvs:List (Key×D))|rf (v:V)|U7 (ns:List Int)
 |exc (n:Str) (fs:List (Str×D))|obj (n:Str) (fs:List (Str×D))|ju (xs:List D)|clo (f:Addr) (xs:List D) (vs:List V)|cls (n:Str)|j5 (kvs:List (D×D))
inductive MO where
 |ml (xs:List D)|mk (kvs:List (Key×D))|mo (n:Str) (fs:List (Str×D))|md (kvs:List (D×D))
structure Tb where
 tabs:List (Addr×Str)
 cls:Str→Addr
 hs:NestedKey→Int
def pY(C dx a:Addr):HO:= .ext fun h=> ∃(oe:Obj) (vs:Array Value),h.get? a=some oe∧oe.cls= .ref C∧oe.dict=some dx∧oe.data= .fields vs
def ZwT(hs:NestedKey→Int)(x:NestedKey×Addr×V)(e:DictEntry):Prop:=e.hash=hs x.1∧e.key= .ref x.2.1∧RelV x.2.2 e.val
def KdO(hs:NestedKey→Int)(a:Addr)(ep:Nat)(xs:List (NestedKey×Addr×V)):HO:= .ext fun h=> ∃o es,h.get? a=some o∧o.ExactDict∧o.data= .dict es ep∧Paired (ZwT hs) xs es.toList∧(xs.map (·.1)).Nodup∧(a==sysModules)=false∧xs.length≤sizeLine
theorem Zil{hs:NestedKey→Int}{a c:Addr}{ep:Nat}{xs:List (NestedKey×Addr×V)}{q:Str}:KdO hs a ep xs≠LamX.CodeO c q:=fun z=>by
 unfold KdO LamX.CodeO at z
 injection z with z
 have e:=congrFun z ({objs:=Array.replicate (c+1) {cls:= .none,data:= .fields #[.none, .str q 0]}}:Heap)
 have g: ∀b o,({objs:=Array.replicate (c+1) {cls:= .none,data:= .fields #[.none, .str q 0]}}:Heap).get? b=some o→o.data= .fields #[.none, .str q 0]:=fun b o h=>by
  unfold Heap.get? at h
  dsimp only at h
  rw[Array.getElem?_replicate]at h
  by_cases hb:b<c+1
  ·rw[if_pos hb]at h
   cases h;rfl
  ·rw[if_neg hb]at h
   cases h
 have gc: ∃o,({objs:=Array.replicate (c+1) {cls:= .none,data:= .fields #[.none, .str q 0]}}:Heap).get? c=some o:=by
  unfold Heap.get?
  dsimp only
  rw[Array.getElem?_replicate,if_pos (Nat.lt_succ_self c)]
  exact⟨_,rfl⟩
 obtain⟨o,ho⟩:=gc
 have r:=(iff_of_eq e).mpr ⟨o,_,0,ho,g c o ho,rfl⟩
 obtain⟨o',es,h1,_,h3,_⟩:=r
 rw[g _ _ h1]at h3
 cases h3
mutual
def Zta:D→Option NestedKey
 | .non=>some .none
 | .bl b=>some (.num (if b=true then 1 else 0))
 | .int i=>some (.num i)
 | .str x=>some (.text x)
 | .tup xs=>(ZlG xs).map .tup
 | .ju xs=>(ZlG xs).map .tup
 | .lst _| .U0 _| .rf _| .U7 _| .exc _ _| .obj _ _| .clo _ _ _| .cls _| .j5 _=>none
def ZlG:List D→Option (List NestedKey)
 |[]=>some []
 |x::xs=>match Zta x,ZlG xs with
  |some k,some ks=>some (k::ks)
  |_,_=>none
end
def ZwU(d:D):Option NestedKey:=match d with
 | .tup _| .ju _=>match Zta d with
   |some k=>if k.depth≤8 then some k else none
   |none=>none
 |_=>none
mutual
inductive Rep(K:PySem.W.Frag)(T:Tb)(F:Hp):D→V→Prop
 |non:Rep K T F .non .non
 |bl (b:Bool):Rep K T F (.bl b) (.bl b)
 |int (i:Int):Rep K T F (.int i) (.int i)
 |str (x:Str):Rep K T F (.str x) (.str x)
 |lst {a:Addr} {xs:List V} {ds:List D}:F a=some (.lst xs)→Qw K T F ds xs→Rep K T F (.lst ds) (.ref a)
 |tup {a:Addr} {xs:List V} {ds:List D}:SqT K F a xs→Qw K T F ds xs→Rep K T F (.tup ds) (.ref a)
 |U0 {a:Addr} {ws:List (Key×V)} {kvs:List (Key×D)}:F a=some (.dK ws)→VG K T F kvs ws→Rep K T F (.U0 kvs) (.ref a)
 |rf (v:V):Rep K T F (.rf v) v
 |U7 {a:Addr} {ns:List Int}:SqL K F a (ns.map V.int)→Rep K T F (.U7 ns) (.ref a)
 |exc {a dx:Addr} {n:Str} {vs:List (Str×V)} {fs:List (Str×D)}:F a=some (pY (T.cls n) dx a)→F dx=some (.xd vs)→Wi K T F fs vs→Rep K T F (.exc n fs) (.ref a)
 |obj {a dx:Addr} {n:Str} {vs:List (Str×V)} {fs:List (Str×D)}:F a=some (.ins (T.cls n) dx vs)→Wi K T F fs vs→Rep K T F (.obj n fs) (.ref a)
 |clo (f:Addr) {xs:List D} {vs:List V}:Qw K T F xs vs→Rep K T F (.clo f xs vs) (.ref f)
 |cls (n:Str):Rep K T F (.cls n) (.ref (T.cls n))
 |ju {a:Addr} {o:Obj} {xs:List V} {ds:List D}:F a=some (.frz o (.tup xs))→o.dict=none→Qw K T F ds xs→Rep K T F (.ju ds) (.ref a)
 |j5 {a:Addr} {ep:Nat} {xs:List (NestedKey×Addr×V)} {kvs:List (D×D)}:F a=some (KdO T.hs a ep xs)→wM K T F kvs xs→Rep K T F (.j5 kvs) (.ref a)
inductive wM(K:PySem.W.Frag)(T:Tb)(F:Hp):List (D×D)→List (NestedKey×Addr×V)→Prop
 |nil:wM K T F [] []
 |cons {kd d:D} {k:NestedKey} {b:Addr} {v:V} {j6:List (D×D)} {xs:List (NestedKey×Addr×V)}:ZwU kd=some k→Rep K T F kd (.ref b)→Rep K T F d v→wM K T F j6 xs→wM K T F ((kd,d)::j6) ((k,b,v)::xs)
inductive Qw(K:PySem.W.Frag)(T:Tb)(F:Hp):List D→List V→Prop
 |nil:Qw K T F [] []
 |cons {d:D} {v:V} {ds:List D} {vs:List V}:Rep K T F d v→Qw K T F ds vs→Qw K T F (d::ds) (v::vs)
inductive VG(K:PySem.W.Frag)(T:Tb)(F:Hp):List (Key×D)→List (Key×V)→Prop
 |nil:VG K T F [] []
 |cons {k:Key} {d:D} {v:V} {j6:List (Key×D)} {kvs:List (Key×V)}:Rep K T F d v→VG K T F j6 kvs→VG K T F ((k,d)::j6) ((k,v)::kvs)
inductive Wi(K:PySem.W.Frag)(T:Tb)(F:Hp):List (Str×D)→List (Str×V)→Prop
 |nil:Wi K T F [] []
 |cons {k:Str} {d:D} {v:V} {j6:List (Str×D)} {kvs:List (Str×V)}:Rep K T F d v→Wi K T F j6 kvs→Wi K T F ((k,d)::j6) ((k,v)::kvs)
end
section
variable{K:PySem.W.Frag}{T:Tb}{F F' H:Hp}
theorem Yu{a:Addr}{xs:List V}(e:Same F F')(h:SqT K F a xs):SqT K F' a xs:=by
 rcases h with(h|⟨o,h⟩)|h
 ·exact .inl (.inl (e _ _ h))
 ·exact .inl (.inr ⟨o,e _ _ h⟩)
 ·exact .inr h
mutual
theorem Rep.mono(e:Same F F'): ∀{d:D} {v:V},Rep K T F d v→Rep K T F' d v
 |_,_, .non=> .non
 |_,_, .bl b=> .bl b
 |_,_, .int i=> .int i
 |_,_, .str x=> .str x
 |_,_, .lst h r=> .lst (e _ _ h) (Qw.mono e r)
 |_,_, .tup h r=> .tup (Yu e h) (Qw.mono e r)
 |_,_, .U0 h r=> .U0 (e _ _ h) (VG.mono e r)
 |_,_, .rf v=> .rf v
 |_,_, .U7 h=> .U7 (e.seq h)
 |_,_, .exc h h2 r=> .exc (e _ _ h) (e _ _ h2) (Wi.mono e r)
 |_,_, .obj h r=> .obj (e _ _ h) (Wi.mono e r)
 |_,_, .ju h hd r=> .ju (e _ _ h) hd (Qw.mono e r)
 |_,_, .clo f r=> .clo f (Qw.mono e r)
 |_,_, .cls n=> .cls n
 |_,_, .j5 h r=> .j5 (e _ _ h) (wM.mono e r)
theorem wM.mono(e:Same F F'): ∀{ds:List (D×D)} {vs:List (NestedKey×Addr×V)},wM K T F ds vs→wM K T F' ds vs
 |_,_, .nil=> .nil
 |_,_, .cons hk hb h r=> .cons hk (Rep.mono e hb) (Rep.mono e h) (wM.mono e r)
theorem Qw.mono(e:Same F F'): ∀{ds:List D} {vs:List V},Qw K T F ds vs→Qw K T F' ds vs
 |_,_, .nil=> .nil
 |_,_, .cons h r=> .cons (Rep.mono e h) (Qw.mono e r)
theorem VG.mono(e:Same F F'): ∀{ds:List (Key×D)} {vs:List (Key×V)},VG K T F ds vs→VG K T F' ds vs
 |_,_, .nil=> .nil
 |_,_, .cons h r=> .cons (Rep.mono e h) (VG.mono e r)
theorem Wi.mono(e:Same F F'): ∀{ds:List (Str×D)} {vs:List (Str×V)},Wi K T F ds vs→Wi K T F' ds vs
 |_,_, .nil=> .nil
 |_,_, .cons h r=> .cons (Rep.mono e h) (Wi.mono e r)
end
theorem Wi.length: ∀{ds:List (Str×D)} {vs:List (Str×V)},Wi K T F ds vs→ds.length=vs.length
 |_,_, .nil=>rfl
 |_,_, .cons _ r=>congrArg (· +1) (Wi.length r)
theorem Wi.look{f:Str}: ∀{ds:List (Str×D)} {vs:List (Str×V)} {d:D},Wi K T F ds vs→ds.lookup f=some d→ ∃v,vs.lookup f=some v∧Rep K T F d v
 |_,_,_, .nil,h=>by cases h
 |_,_,d, .cons (k:=k) h r,e=>by
  rw[List.lookup_cons]at e⊢
  cases hk:f==k with
  |true=>rw[hk]at e;cases e;exact⟨_,rfl,h⟩
  |false=>rw[hk]at e;exact Wi.look r e
theorem Qw.length: ∀{ds:List D} {vs:List V},Qw K T F ds vs→ds.length=vs.length
 |_,_, .nil=>rfl
 |_,_, .cons _ r=>congrArg (· +1) (Qw.length r)
theorem VG.length: ∀{ds:List (Key×D)} {vs:List (Key×V)},VG K T F ds vs→ds.length=vs.length
 |_,_, .nil=>rfl
 |_,_, .cons _ r=>congrArg (· +1) (VG.length r)
theorem Qw.get: ∀{ds:List D} {vs:List V} {i:Nat} {v:V},Qw K T F ds vs→vs[i]? =some v→ ∃d,ds[i]? =some d∧Rep K T F d v
 |_,_,_,_, .nil,e=>by simp at e
 |_,_,0,_, .cons h _,e=>by simp at e;subst e;exact⟨_,rfl,h⟩
 |_,_,i+1,v, .cons _ r,e=>by
  obtain⟨d,h1,h2⟩:=Qw.get (i:=i) (v:=v) r (by simpa using e)
  exact⟨d,by simpa using h1,h2⟩
theorem Qw.getD: ∀{ds:List D} {vs:List V} {i:Nat} {d:D},Qw K T F ds vs→ds[i]? =some d→ ∃v,vs[i]? =some v∧Rep K T F d v
 |_,_,_,_, .nil,e=>by simp at e
 |_,_,0,_, .cons h _,e=>by simp at e;subst e;exact⟨_,rfl,h⟩
 |_,_,i+1,v, .cons _ r,e=>by
  obtain⟨d,h1,h2⟩:=Qw.getD (i:=i) (d:=v) r (by simpa using e)
  exact⟨d,by simpa using h1,h2⟩
theorem Qw.append: ∀{ds es:List D} {vs ws:List V},Qw K T F ds vs→Qw K T F es ws→Qw K T F (ds++es) (vs++ws)
 |_,_,_,_, .nil,s=>s
 |_,_,_,_, .cons h r,s=> .cons h (Qw.append r s)
theorem Qw.take: ∀{ds:List D} {vs:List V} (n:Nat),Qw K T F ds vs→Qw K T F (ds.take n) (vs.take n)
 |_,_,0,_=> .nil
 |_,_,_+1, .nil=> .nil
 |_,_,n+1, .cons h r=> .cons h (Qw.take n r)
theorem Qw.drop: ∀{ds:List D} {vs:List V} (n:Nat),Qw K T F ds vs→Qw K T F (ds.drop n) (vs.drop n)
 |_,_,0,r=>r
 |_,_,_+1, .nil=> .nil
 |_,_,n+1, .cons _ r=>Qw.drop n r
theorem Qw.set{d:D}{v:V}(h:Rep K T F d v): ∀{ds:List D} {vs:List V} (i:Nat),Qw K T F ds vs→Qw K T F (ds.set i d) (vs.set i v)
 |_,_,_, .nil=> .nil
 |_,_,0, .cons _ r=> .cons h r
 |_,_,i+1, .cons q r=> .cons q (Qw.set h i r)
theorem Qw.reverse: ∀{ds:List D} {vs:List V},Qw K T F ds vs→Qw K T F ds.reverse vs.reverse
 |_,_, .nil=> .nil
 |_,_, .cons h r=>by
  rw[List.reverse_cons,List.reverse_cons]
  exact(Qw.reverse r).append (.cons h .nil)
theorem Qw.one{d:D}{vs:List V}(h:Qw K T F [d] vs): ∃v,vs=[v]∧Rep K T F d v:=by
 cases h with|cons a r=>cases r;exact⟨_,rfl,a⟩
theorem sG: ∀{ns:List Int} {vs:List V},Qw K T F (ns.map D.int) vs→vs=ns.map V.int
 |[],_, .nil=>rfl
 |n::ns,_, .cons h r=>by cases h;rw[List.map_cons,sG r]
theorem DP: ∀{ns:List Int},Qw K T F (ns.map D.int) (ns.map V.int)
 |[]=> .nil
 |n::ns=> .cons (.int n) DP
theorem ZcB: ∀{ns:List Str} {vs:List V},Qw K T F (ns.map D.str) vs→vs=ns.map V.str
 |[],_, .nil=>rfl
 |n::ns,_, .cons h r=>by cases h;rw[List.map_cons,ZcB r]
end
structure S where
 mu:Addr→Option MO
 g:Option (Addr×Nat)
def S.put(s:S)(p:Addr)(o:MO):S:={s with mu:=fun b=>if b=p then some o else s.mu b}
def S.del(s:S)(p:Addr):S:={s with mu:=fun b=>if b=p then none else s.mu b}
structure Sub(s t:S):Prop where
 mu: ∀p o,s.mu p=some o→t.mu p=some o
 g: ∀p n,s.g=some (p,n)→ ∃m,n≤m∧t.g=some (p,m)
theorem Sub.refl(s:S):Sub s s:=⟨fun _ _ h=>h,fun p n h=>⟨n,Nat.le_refl _,h⟩⟩
theorem Sub.trans{s t u:S}(a:Sub s t)(b:Sub t u):Sub s u:=⟨fun p o h=>b.mu p o (a.mu p o h),fun p n h=>by
 obtain⟨m,hm,e⟩:=a.g p n h
 obtain⟨k,hk,e'⟩:=b.g p m e
 exact⟨k,Nat.le_trans hm hk,e'⟩⟩
theorem Sub.put{s t:S}{p:Addr}{o:MO}(h:s.mu p=none)(a:Sub s t):Sub s (t.put p o):=⟨fun q u e=>by
 show(if q=p then some o else t.mu q)=some u
 rw[if_neg (fun z=>by rw[z,h]at e;cases e)]
 exact a.mu q u e,a.g⟩
def ZeX(K:PySem.W.Frag)(T:Tb)(F:Hp)(p:Addr):MO→Option HO→Prop
 | .ml ds,o=> ∃vs,o=some (.lst vs)∧Qw K T F ds vs
 | .mk kvs,o=> ∃ws,o=some (.dK ws)∧VG K T F kvs ws
 | .mo n fs,o=> ∃dx vs,o=some (.ins (T.cls n) dx vs)∧Wi K T F fs vs
 | .md kvs,o=> ∃ep xs,o=some (KdO T.hs p ep xs)∧wM K T F kvs xs
theorem ZeX.mono{K:PySem.W.Frag}{T:Tb}{F F':Hp}{p:Addr}(e:Same F F'): ∀{o:MO} {h:Option HO},ZeX K T F p o h→ZeX K T F' p o h
 | .ml _,_,⟨vs,h,r⟩=>⟨vs,h,r.mono e⟩
 | .mk _,_,⟨vs,h,r⟩=>⟨vs,h,r.mono e⟩
 | .mo _ _,_,⟨dx,vs,h,r⟩=>⟨dx,vs,h,r.mono e⟩
 | .md _,_,⟨ep,xs,h,r⟩=>⟨ep,xs,h,r.mono e⟩
def Zot(K:PySem.W.Frag)(F:Hp)(mu:Addr→Option MO)(H:Hp)(p:Addr)(n:Nat):Prop:=
 ∃(l c:Addr) (t:Int) (cs ls:List Int),F p=none∧F l=none∧mu p=none∧mu l=none∧H p=some (.dK [(Sum.inr "cells", .ref c),(Sum.inr "left", .ref l),(Sum.inr "at", .int t)])∧
  F c=some (.lst (cs.map V.int))∧H l=some (.lst (ls.map V.int))∧0≤t∧t+n≤2^60
structure Hold(K:PySem.W.Frag)(T:Tb)(F:Hp)(s:S)(H:Hp):Prop where
 sub:Same F H
 mu: ∀p o,s.mu p=some o→F p=none∧ZeX K T F p o (H p)
 gen: ∀p n,s.g=some (p,n)→Zot K F s.mu H p n
 tab:LamX.Tabs T.tabs H
 XS: ∀b ps,F b≠some (.tbl ps)
section
variable{K:PySem.W.Frag}{T:Tb}{F F' H H':Hp}{s t:S}
theorem JM{H:Hp}{p:Addr}{o:HO}(h:H p=none):Same H (upd H p o):=fun b x e=>by
 rw[upd_ne (ne_of_none e h)]
 exact e
theorem Hold.fresh(h:Hold K T F s H){p:Addr}(n:H p=none):F p=none:=h.sub.free n
theorem Hold.jw(h:Hold K T F s H){p:Addr}(n:H p=none):s.mu p=none:=by
 cases e:s.mu p with
 |none=>rfl
 |some o=>
  obtain⟨_,r⟩:=h.mu p o e
  cases o with
  |ml ds=>obtain⟨vs,q,_⟩:=r;rw[n]at q;cases q
  |mk ds=>obtain⟨vs,q,_⟩:=r;rw[n]at q;cases q
  |mo c fs=>obtain⟨dx,vs,q,_⟩:=r;rw[n]at q;cases q
  |md ds=>obtain⟨_,vs,q,_⟩:=r;rw[n]at q;cases q
theorem Zot.mono{mu mu':Addr→Option MO}{p:Addr}{n m:Nat}(g:Zot K F mu H p n)(hm:m≤n)(hF: ∀q,F q=none→mu q=none→H q≠none→F' q=none)(eF:Same F F')(hmu: ∀q,mu q=none→H q≠none→mu' q=none)(eH: ∀q o,H q=some o→F q=none→mu q=none→H' q=some o):Zot K F' mu' H' p m:=by
 obtain⟨l,c,t,cs,ls,h1,h2,h3,h4,h5,h6,h7,h8,h9⟩:=g
 have n1:H p≠none:=by rw[h5];exact fun z=>by cases z
 have n2:H l≠none:=by rw[h7];exact fun z=>by cases z
 exact⟨l,c,t,cs,ls,hF p h1 h3 n1,hF l h2 h4 n2,hmu p h3 n1,hmu l h4 n2,eH p _ h5 h1 h3,eF _ _ h6,eH l _ h7 h2 h4,h8,by omega⟩
theorem Hold.weak(h:Hold K T F t H)(e:Sub s t):Hold K T F s H where
 sub:=h.sub
 mu:=fun p o q=>h.mu p o (e.mu p o q)
 gen:=fun p n q=>by
  obtain⟨m,hm,q'⟩:=e.g p n q
  refine(h.gen p m q').mono hm (fun _ z _ _=>z) (Same.refl _) (fun q' z _=> ?_) fun q o z _ _=>z
  cases w:s.mu q' with
  |none=>rfl
  |some o=>rw[e.mu _ _ w]at z;cases z
 tab:=h.tab
 XS:=h.XS
theorem zE{T:List (Addr×Str)}{p:Addr}{o:HO}(h:LamX.Tabs T H)(hp: ∀ps,H p≠some (.tbl ps))(hc: ∀c q,H p≠some (LamX.CodeO c q)):LamX.Tabs T (upd H p o):=fun x hx=>by
 obtain⟨ps,h1,h2,h3⟩:=h x hx
 have ne:x.1≠p:=fun z=>hp ps (by rw[←z];exact h1)
 refine⟨ps,by rw[upd_ne ne];exact h1,h2,fun pos cv q=> ?_⟩
 obtain⟨c,e1,e2⟩:=h3 pos cv q
 refine⟨c,e1, ?_⟩
 have ne2:c≠p:=fun z=>hc c x.2 (by rw[←z];exact e2)
 rw[upd_ne ne2];exact e2
theorem Hold.frz(h:Hold K T F s H){p:Addr}{o:HO}(n:H p=none)(nt: ∀ps,o≠ .tbl ps:=by intro _ z;cases z):Hold K T (upd F p o) s (upd H p o) where
 sub:=fun b x e=>by
  by_cases z:b=p
  ·subst z;rw[upd_same]at e⊢;exact e
  ·rw[upd_ne z]at e⊢;exact h.sub b x e
 mu:=fun q u e=>by
  have ne:q≠p:=fun z=>by rw[z,h.jw n]at e;cases e
  obtain⟨a,b⟩:=h.mu q u e
  rw[upd_ne ne,upd_ne ne]
  exact⟨a,b.mono (JM (h.fresh n))⟩
 gen:=fun q m e=>(h.gen q m e).mono (Nat.le_refl _) (fun b z _ w=>by rw[upd_ne (fun y=>w (by rw[y];exact n))];exact z) (JM (h.fresh n)) (fun _ z _=>z) fun b x z _ _=>JM n b x z
 tab:=h.tab.ext (JM n)
 XS:=fun q ps e=>by
  by_cases z:q=p
  ·subst z;rw[upd_same]at e;exact nt ps (Option.some.inj e)
  ·rw[upd_ne z]at e;exact h.XS q ps e
theorem Hold.new(h:Hold K T F s H){p:Addr}{o:HO}{m:MO}(n:H p=none)(r:ZeX K T F p m (some o)):Hold K T F (s.put p m) (upd H p o) where
 sub:=h.sub.trans (JM n)
 mu:=fun q u e=>by
  by_cases z:q=p
  ·subst z
   have e':some m=some u:=by
    have e2:(if q=q then some m else s.mu q)=some u:=e
    rwa[if_pos rfl]at e2
   cases e'
   rw[upd_same]
   exact⟨h.fresh n,r⟩
  ·have e2:(if q=p then some m else s.mu q)=some u:=e
   rw[if_neg z]at e2
   rw[upd_ne z]
   exact h.mu q u e2
 gen:=fun q k e=>(h.gen q k e).mono (Nat.le_refl _) (fun _ z _ _=>z) (Same.refl _) (fun b z w=>by
  show(if b=p then some m else s.mu b)=none
  rw[if_neg (fun y=>w (by rw[y];exact n))];exact z) fun b x z _ _=>JM n b x z
 tab:=h.tab.ext (JM n)
 XS:=h.XS
theorem Hold.wr(h:Hold K T F s H){p:Addr}{o:HO}{m m0:MO}(n:s.mu p=some m0)(r:ZeX K T F p m (some o)):Hold K T F (s.put p m) (upd H p o):=by
 obtain⟨np,rp⟩:=h.mu p m0 n
 have hk:(∃xs,H p=some (.lst xs))∨(∃kvs,H p=some (.dK kvs))∨(∃C dx fs,H p=some (.ins C dx fs))∨ ∃ep xs,H p=some (KdO T.hs p ep xs):=by
  cases m0 with
  |ml ds=>obtain⟨vs,q,_⟩:=rp;exact .inl ⟨_,q⟩
  |mk ds=>obtain⟨vs,q,_⟩:=rp;exact .inr (.inl ⟨_,q⟩)
  |mo c fs=>obtain⟨dx,vs,q,_⟩:=rp;exact .inr (.inr (.inl ⟨_,_,_,q⟩))
  |md ds=>obtain⟨_,vs,q,_⟩:=rp;exact .inr (.inr (.inr ⟨_,_,q⟩))
 refine⟨fun b x e=> ?_,fun q u e=> ?_,fun q k e=>(h.gen q k e).mono (Nat.le_refl _) (fun _ z _ _=>z) (Same.refl _) (fun b z w=> ?_) fun b x z z1 z2=> ?_,zE h.tab (fun ps z=> ?_) (fun c q z=> ?_),h.XS⟩
 ·rw[upd_ne (fun z=>by rw[z,np]at e;cases e)]
  exact h.sub b x e
 ·by_cases z:q=p
  ·subst z
   have e':some m=some u:=by
    have e2:(if q=q then some m else s.mu q)=some u:=e
    rwa[if_pos rfl]at e2
   cases e'
   rw[upd_same]
   exact⟨np,r⟩
  ·have e2:(if q=p then some m else s.mu q)=some u:=e
   rw[if_neg z]at e2
   rw[upd_ne z]
   exact h.mu q u e2
 ·show(if b=p then some m else s.mu b)=none
  rw[if_neg (fun y=>by rw[y,n]at z;cases z)];exact z
 ·rw[upd_ne (fun y=>by rw[y,n]at z2;cases z2)];exact z
 ·rcases hk with⟨_,q⟩|⟨_,q⟩|⟨_,_,_,q⟩|⟨_,_,q⟩<;>rw[q]at z<;>cases z
 ·rcases hk with⟨_,q'⟩|⟨_,q'⟩|⟨_,_,_,q'⟩|⟨_,_,q'⟩
  ·rw[q']at z;cases z
  ·rw[q']at z;cases z
  ·rw[q']at z;cases z
  ·rw[q']at z;exact Zil (Option.some.inj z)
theorem Hold.freeze(h:Hold K T F s H){p:Addr}{ds:List D}(n:s.mu p=some (.ml ds)): ∃vs,Hold K T (upd F p (.lst vs)) (s.del p) H∧Rep K T (upd F p (.lst vs)) (.lst ds) (.ref p):=by
 obtain⟨np,vs,hp,r⟩:=h.mu p _ n
 have sm:Same F (upd F p (.lst vs)):=JM np
 refine⟨vs,⟨fun b x e=> ?_,fun q u e=> ?_,fun q k e=>(h.gen q k e).mono (Nat.le_refl _) (fun b z y w=> ?_) sm (fun b z w=> ?_) fun b x z _ _=>z,h.tab,fun q ps e=> ?_⟩, .lst upd_same (r.mono sm)⟩
 ·by_cases z:b=p
  ·subst z;rw[upd_same]at e;rw[hp];exact e
  ·rw[upd_ne z]at e;exact h.sub b x e
 ·have e2:(if q=p then none else s.mu q)=some u:=e
  by_cases z:q=p
  ·rw[if_pos z]at e2;cases e2
  ·rw[if_neg z]at e2
   rw[upd_ne z]
   obtain⟨a,b⟩:=h.mu q u e2
   exact⟨a,b.mono sm⟩
 ·rw[upd_ne (fun x=>by rw[x,n]at y;cases y)];exact z
 ·show(if b=p then none else s.mu b)=none
  split
  ·rfl
  ·exact z
 ·by_cases z:q=p
  ·subst z;rw[upd_same]at e;cases e
  ·rw[upd_ne z]at e;exact h.XS q ps e
end
def own(F:Hp)(s:S)(H:Hp)(p:Addr):Prop:=F p≠none∨s.mu p≠none∨ ∃q n,s.g=some (q,n)∧(p=q∨ ∃(kvs:List (Key×V)) (l:Addr),H q=some (.dK kvs)∧kvs.lookup (Sum.inr ("left" :Str))=some (V.ref l)∧p=l)
def Kp:HO→Prop
 | .tbl _=>False
 | .xd _=>False
 |_=>True
structure Ext(F:Hp)(s:S)(H:Hp)(F':Hp)(s':S)(H':Hp):Prop where
 same:Same F F'
 rest: ∀p o,H p=some o→ ¬own F s H p→Kp o→H' p=some o∧ ¬own F' s' H' p
section
variable{K:PySem.W.Frag}{T:Tb}{F F' F1 H H' H1:Hp}{s t s1 s':S}
theorem Ext.refl:Ext F s H F s H:=⟨Same.refl F,fun _ _ h n _=>⟨h,n⟩⟩
theorem Ext.trans(a:Ext F s H F1 s1 H1)(b:Ext F1 s1 H1 F' s' H'):Ext F s H F' s' H':=⟨a.same.trans b.same,fun p o h n z=>by
 obtain⟨h1,n1⟩:=a.rest p o h n z
 exact b.rest p o h1 n1 z⟩
theorem Zpd(e:Sub s t){p:Addr}(h:own F s H p):own F t H p:=by
 rcases h with h|h|⟨q,n,h1,h2⟩
 ·exact .inl h
 ·refine .inr (.inl fun z=> ?_)
  cases w:s.mu p with
  |none=>exact h w
  |some o=>rw[e.mu _ _ w]at z;cases z
 ·obtain⟨m,_,h3⟩:=e.g q n h1
  exact .inr (.inr ⟨q,m,h3,h2⟩)
theorem Ext.weak(a:Ext F s H F1 t H1)(e:Sub s1 t):Ext F s H F1 s1 H1:=⟨a.same,fun p o h n z=>by
 obtain⟨h1,n1⟩:=a.rest p o h n z
 exact⟨h1,fun w=>n1 (Zpd e w)⟩⟩
theorem Ext.frz(h:Hold K T F s H){p:Addr}{o:HO}(n:H p=none):Ext F s H (upd F p o) s (upd H p o):=⟨JM (h.fresh n),fun q u e w z=>by
 have ne:q≠p:=fun y=>by rw[y,n]at e;cases e
 refine⟨by rw[upd_ne ne];exact e,fun y=>w ?_⟩
 rcases y with y|y|⟨a,m,h1,h2⟩
 ·rw[upd_ne ne]at y;exact .inl y
 ·exact .inr (.inl y)
 ·refine .inr (.inr ⟨a,m,h1, ?_⟩)
  rcases h2 with h2|⟨kvs,l,h3,h4,h5⟩
  ·exact .inl h2
  ·by_cases na:a=p
   ·obtain⟨_,_,_,_,_,_,_,_,_,g5,_⟩:=h.gen a m h1
    rw[na,n]at g5;cases g5
   ·rw[upd_ne na]at h3
    exact .inr ⟨kvs,l,h3,h4,h5⟩⟩
theorem Ext.new(h:Hold K T F s H){p:Addr}{o:HO}{m:MO}(n:H p=none):Ext F s H F (s.put p m) (upd H p o):=⟨Same.refl F,fun q u e w z=>by
 have ne:q≠p:=fun y=>by rw[y,n]at e;cases e
 refine⟨by rw[upd_ne ne];exact e,fun y=>w ?_⟩
 rcases y with y|y|⟨a,k,h1,h2⟩
 ·exact .inl y
 ·have y':(if q=p then some m else s.mu q)≠none:=y
  rw[if_neg ne]at y'
  exact .inr (.inl y')
 ·refine .inr (.inr ⟨a,k,h1, ?_⟩)
  rcases h2 with h2|⟨kvs,l,h3,h4,h5⟩
  ·exact .inl h2
  ·by_cases na:a=p
   ·obtain⟨_,_,_,_,_,_,_,_,_,g5,_⟩:=h.gen a k h1
    rw[na,n]at g5;cases g5
   ·rw[upd_ne na]at h3
    exact .inr ⟨kvs,l,h3,h4,h5⟩⟩
theorem Ext.wr(h:Hold K T F s H){p:Addr}{o:HO}{m m0:MO}(n:s.mu p=some m0):Ext F s H F (s.put p m) (upd H p o):=⟨Same.refl F,fun q u e w z=>by
 have ne:q≠p:=fun y=>w (.inr (.inl (by rw[y,n];exact fun x=>by cases x)))
 refine⟨by rw[upd_ne ne];exact e,fun y=>w ?_⟩
 rcases y with y|y|⟨a,k,h1,h2⟩
 ·exact .inl y
 ·have y':(if q=p then some m else s.mu q)≠none:=y
  rw[if_neg ne]at y'
  exact .inr (.inl y')
 ·refine .inr (.inr ⟨a,k,h1, ?_⟩)
  rcases h2 with h2|⟨kvs,l,h3,h4,h5⟩
  ·exact .inl h2
  ·by_cases na:a=p
   ·obtain⟨_,_,_,_,_,_,_,g3,_,_,_⟩:=h.gen a k h1
    rw[na,n]at g3;cases g3
   ·rw[upd_ne na]at h3
    exact .inr ⟨kvs,l,h3,h4,h5⟩⟩
theorem Ext.freeze{p:Addr}{m0:MO}{o:HO}(np:F p=none)(n:s.mu p=some m0):Ext F s H (upd F p o) (s.del p) H:=⟨JM np,fun q u e w z=>by
 have ne:q≠p:=fun y=>w (.inr (.inl (by rw[y,n];exact fun x=>by cases x)))
 refine⟨e,fun y=>w ?_⟩
 rcases y with y|y|y
 ·rw[upd_ne ne]at y;exact .inl y
 ·have y':(if q=p then none else s.mu q)≠none:=y
  rw[if_neg ne]at y'
  exact .inr (.inl y')
 ·exact .inr (.inr y)⟩
end
end Bk
namespace Bk
open PySem PySem.Spec PyProof.Rows L2
structure Ex where
 c:Str
 fs:List (Str×D)
def ZlH(K:PySem.W.Frag)(T:Tb)(F:Hp)(x:Ex)(cls:Value)(d:Option Addr)(H:Hp):Prop:=cls= .ref (T.cls x.c)∧ ∃dx vs,d=some dx∧H dx=some (.xd vs)∧Wi K T F x.fs vs
abbrev Zq:=List (Option D)
def nth:Zq→Nat→Option D
 |[],_=>none
 |x::_,0=>x
 |_::r,n+1=>nth r n
def Jh:Zq→Nat→Option D→Zq
 |[],_,_=>[]
 |_::r,0,d=>d::r
 |x::r,n+1,d=>x::Jh r n d
abbrev Q1:=D→S→Prop
abbrev XQ:=Ex→S→Prop
abbrev Exp:=Zq→S→Q1→XQ→Prop
abbrev Xp:=Zq→S→(Bool→S→Prop)→XQ→Prop
abbrev Arg:=Zq→S→(List D→S→Prop)→XQ→Prop
inductive Jz(K:PySem.W.Frag)(T:Tb)(F:Hp):Zq→L2.St→Prop
 |nil:Jz K T F [] []
 |none {x:Option V} {e:Zq} {σ:L2.St}:Jz K T F e σ→Jz K T F (.none::e) (x::σ)
 |some {d:D} {v:V} {e:Zq} {σ:L2.St}:Rep K T F d v→Jz K T F e σ→Jz K T F (.some d::e) (.some v::σ)
section
variable{K:PySem.W.Frag}{T:Tb}{F F':Hp}{e:Zq}{σ:L2.St}
theorem Jz.mono(h:Same F F'): ∀{e:Zq} {σ:L2.St},Jz K T F e σ→Jz K T F' e σ
 |_,_, .nil=> .nil
 |_,_, .none r=> .none (Jz.mono h r)
 |_,_, .some d r=> .some (d.mono h) (Jz.mono h r)
theorem Jz.at: ∀{e:Zq} {σ:L2.St} {i:Nat} {d:D},Jz K T F e σ→nth e i= .some d→ ∃v,σ[i]? = .some (.some v)∧Rep K T F d v
 |_,_,_,_, .nil,h=>by cases h
 |_,_,0,_, .none _,h=>by cases h
 |_,_,0,_, .some r _,h=>by cases h;exact⟨_,rfl,r⟩
 |_,_,i+1,d, .none r,h=>by
  obtain⟨v,e1,e2⟩:=Jz.at (i:=i) (d:=d) r h
  exact⟨v,by simpa using e1,e2⟩
 |_,_,i+1,d, .some _ r,h=>by
  obtain⟨v,e1,e2⟩:=Jz.at (i:=i) (d:=d) r h
  exact⟨v,by simpa using e1,e2⟩
theorem Jz.set{d:D}{v:V}(rd:Rep K T F d v): ∀{e:Zq} {σ:L2.St} (i:Nat),Jz K T F e σ→Jz K T F (Jh e i (.some d)) (σ.set i (.some v))
 |_,_,_, .nil=> .nil
 |_,_,0, .none r=> .some rd r
 |_,_,0, .some _ r=> .some rd r
 |_,_,i+1, .none r=> .none (Jz.set rd i r)
 |_,_,i+1, .some q r=> .some q (Jz.set rd i r)
theorem Jz.del{x:Option V}: ∀{e:Zq} {σ:L2.St} (i:Nat),Jz K T F e σ→Jz K T F (Jh e i .none) (σ.set i x)
 |_,_,_, .nil=> .nil
 |_,_,0, .none r=> .none r
 |_,_,0, .some _ r=> .none r
 |_,_,i+1, .none r=> .none (Jz.del i r)
 |_,_,i+1, .some q r=> .some q (Jz.del i r)
def Jk(e:Zq):List Nat→Zq
 |[]=>e
 |v::vs=>Jh (Jk e vs) v none
theorem Jz.wipe(h:Jz K T F e σ): ∀vs:List Nat,Jz K T F (Jk e vs) (L2.wipe σ vs)
 |[]=>h
 |v::vs=>(Jz.wipe h vs).del v
def XOk(K:PySem.W.Frag)(T:Tb)(W:WX)(F:Hp)(s:S)(H:Hp)(E:XQ)(σ:L2.St):Prop:=
 ∀x s' cls dx H' F',E x s'→Ext F s H F' s' H'→Hold K T F' s' H'→ZlH K T F' x cls dx H'→W cls dx σ H'
theorem XOk.mono{W:WX}{E:XQ}{s s1:S}{H H1:Hp}(h:Ext F s H F' s1 H1)(x:XOk K T W F s H E σ):XOk K T W F' s1 H1 E σ:=fun a s' cls dx H' F2 q e=>x a s' cls dx H' F2 q (h.trans e)
theorem pZ{W:WX}{s:S}{H:Hp}:XOk K T W F s H (fun _ _=>False) σ:=fun _ _ _ _ _ _ q=>q.elim
def Post(K:PySem.W.Frag)(T:Tb)(F:Hp)(s:S)(H:Hp)(R:Q1)(Q:VK):Prop:= ∀d s' v H' F',R d s'→Ext F s H F' s' H'→Hold K T F' s' H'→Rep K T F' d v→Q v H'
theorem Post.mono{R:Q1}{Q:VK}{s s1:S}{H H1:Hp}(h:Ext F s H F' s1 H1)(x:Post K T F s H R Q):Post K T F' s1 H1 R Q:=fun d s' v H' F2 q e=>x d s' v H' F2 q (h.trans e)
def Lp(K:PySem.W.Frag)(T:Tb)(W:WX)(f:Exp):TE:=fun σ H Q=> ∃(F:Hp) (e:Zq) (s:S) (R:Q1) (E:XQ),Jz K T F e σ∧Hold K T F s H∧XOk K T W F s H E σ∧f e s R E∧Post K T F s H R Q
def liftT(K:PySem.W.Frag)(T:Tb)(W:WX)(f:Xp):TT:=fun σ H Q=> ∃(F:Hp) (e:Zq) (s:S) (R:Bool→S→Prop) (E:XQ),Jz K T F e σ∧Hold K T F s H∧XOk K T W F s H E σ∧f e s R E∧
 ∀b s' H' F',R b s'→Ext F s H F' s' H'→Hold K T F' s' H'→Q b H'
def Zuf(K:PySem.W.Frag)(T:Tb)(W:WX)(f:Arg):TA:=fun σ H Q=> ∃(F:Hp) (e:Zq) (s:S) (R:List D→S→Prop) (E:XQ),Jz K T F e σ∧Hold K T F s H∧XOk K T W F s H E σ∧f e s R E∧
 ∀ds s' vs H' F',R ds s'→Ext F s H F' s' H'→Hold K T F' s' H'→Qw K T F' ds vs→Q vs H'
end
section
variable{X:Cx}{T:Tb}{W:WX}
structure DX(X:Cx)(T:Tb)(W:WX)(e:Expr)(f:Exp):Prop where
 pe:PE X e (Lp X.K T W f)
structure DT(X:Cx)(T:Tb)(W:WX)(e:Expr)(f:Xp):Prop where
 pt:PT X e (liftT X.K T W f)
structure DA(X:Cx)(T:Tb)(W:WX)(es:List Expr)(f:Arg):Prop where
 pa:PA X es (Zuf X.K T W f)
theorem Yj{e:Expr}{t t':TE}(h:PE X e t)(k: ∀σ H Q,t' σ H Q→t σ H Q):PE X e t':=⟨fun pins s σ H Q I q=>h.run pins s σ H Q I (k σ H Q q)⟩
theorem ZcC{e:Expr}{t t':TT}(h:PT X e t)(k: ∀σ H Q,t' σ H Q→t σ H Q):PT X e t':=⟨fun pins s σ H Q I q=>h.run pins s σ H Q I (k σ H Q q)⟩
theorem pw_imp{e:Expr}{t t':TT}(h:PW X e t)(k: ∀σ H Q,t' σ H Q→t σ H Q):PW X e t':=⟨fun wh pins s σ H Q I q=>h.run wh pins s σ H Q I (k σ H Q q)⟩
theorem ZgT{es:List Expr}{t t':TA}(h:PA X es t)(k: ∀σ H Q,t' σ H Q→t σ H Q):PA X es t':=⟨fun pos pins s σ H Q I q=>h.run pos pins s σ H Q I (k σ H Q q)⟩
theorem Ld{st:Stmt}{t t':TS}(h:PS X st t)(k: ∀D σ H,t' D σ H→t D σ H):PS X st t':=⟨fun pins s σ H D I q=>h.run pins s σ H D I (k D σ H q)⟩
theorem wN{st:List Stmt}{t t':TS}(h:PSs X st t)(k: ∀D σ H,t' D σ H→t D σ H):PSs X st t':=⟨fun pins s σ H D I q=>h.run pins s σ H D I (k D σ H q)⟩
variable{e a b c:Expr}{f fa fb fc:Exp}{t ta tb:Xp}{pos:Pos}
def Zf(i:Nat):Exp:=fun e s R _=>match nth e i with
 |some d=>R d s
 |none=>False
def dC(d:D):Exp:=fun _ s R _=>R d s
theorem Zkp{i:Nat}(h:PE X e (tVar i)):DX X T W e (Zf i):=⟨Yj h fun σ H Q ⟨F,e,s,R,E,he,hh,hx,hf,post⟩=>by
 unfold Zf at hf
 split at hf
 ·rename_i d hd
  obtain⟨v,h1,h2⟩:=he.at hd
  exact⟨v,h1,post d s v H F hf Ext.refl hh h2⟩
 ·exact hf.elim⟩
theorem dv(i:Nat){x:Str}(hN:X.N[i]? =some x:=by rfl)(hv:Vis X.env.scope x:=by first|exact Or.inl rfl|exact Or.inr (Or.inl rfl)|exact Or.inr (Or.inr rfl))(hd:(x==("__debug__" :Str))=false:=by decide)
 (hcd:(x==("__classdict__" :Str))=false:=by decide):DX X T W (.Name x pos) (Zf i):=Zkp (pe_var hN hv hd hcd)
theorem SJ{v:V}{d:D}(h:PE X e (tC v))(r: ∀F,Rep X.K T F d v):DX X T W e (dC d):=⟨Yj h fun σ H Q ⟨F,e,s,R,E,he,hh,hx,hf,post⟩=>
 show Q v H from post d s v H F hf Ext.refl hh (r F)⟩
theorem Zi{i j}:DX X T W (.Constant (.int i) j pos) (dC (.int i)):=SJ pe_int fun _=> .int i
theorem Ov{b j}:DX X T W (.Constant (.bool b) j pos) (dC (.bl b)):=SJ pe_bl fun _=> .bl b
theorem J5{j}:DX X T W (.Constant .none j pos) (dC .non):=SJ pe_non fun _=> .non
theorem Zt{x j}:DX X T W (.Constant (.str x) j pos) (dC (.str x)):=SJ pe_str fun _=> .str x
theorem ZdY{x:Str}{d:D}{v:V}{u:Value}(hg:Gl X x)(hm:X.mg x=some u)(r:RelV v u)(q: ∀F,Rep X.K T F d v)(hd:(x==("__debug__" :Str))=false:=by decide):DX X T W (.Name x pos) (dC d):=SJ (pe_glob hg hm r hd) q
abbrev G1:=D→S→Q1→Prop
abbrev G2:=D→D→S→Q1→Prop
def IV(X:Cx)(T:Tb)(f:Value→Value→Sem Value)(g:G2):Prop:=
 ∃r:R2,OpR X f r∧ ∀F s H x y vx vy R Q,Hold X.K T F s H→Rep X.K T F x vx→Rep X.K T F y vy→g x y s R→Post X.K T F s H R Q→r vx vy H Q
def UnD(X:Cx)(T:Tb)(f:Value→Sem Value)(g:G1):Prop:=
 ∃r:V→Hp→VK→Prop,UnR X f r∧ ∀F s H x vx R Q,Hold X.K T F s H→Rep X.K T F x vx→g x s R→Post X.K T F s H R Q→r vx H Q
def ZG(g:G2)(a b:Exp):Exp:=fun e s R E=>a e s (fun x s1=>b e s1 (fun y s2=>g x y s2 R) E) E
def sH(g:G1)(a:Exp):Exp:=fun e s R E=>a e s (fun x s1=>g x s1 R) E
theorem ZhN{g:G2}{r:R2}(hr: ∀F s H x y vx vy R Q,Hold X.K T F s H→Rep X.K T F x vx→Rep X.K T F y vy→g x y s R→Post X.K T F s H R Q→r vx vy H Q){σ:L2.St}{H:Hp}{Q:VK}(h:Lp X.K T W (ZG g fa fb) σ H Q):
  tOp r (Lp X.K T W fa) (Lp X.K T W fb) σ H Q:=by
 obtain⟨F,e,s,R,E,he,hh,hx,hf,post⟩:=h
 exact⟨F,e,s,_,E,he,hh,hx,hf,fun x s1 vx H1 F1 q1 e1 hh1 rx=>⟨F1,e,s1,_,E,he.mono e1.same,hh1,hx.mono e1,q1,fun y s2 vy H2 F2 q2 e2 hh2 ry=>
  hr F2 s2 H2 x y vx vy R Q hh2 (rx.mono e2.same) ry q2 (post.mono (e1.trans e2))⟩⟩
theorem Z0{op:Operator}{g:G2}(ho:IV X T (binaryOp op) g)(ha:DX X T W a fa)(hb:DX X T W b fb):DX X T W (.BinOp a op b pos) (ZG g fa fb):=by
 obtain⟨r,h1,h2⟩:=ho
 exact⟨Yj (pe_op h1 ha.pe hb.pe) fun σ H Q h=>ZhN h2 h⟩
theorem IW{op:CmpOp}{g:G2}(ho:IV X T (compareOp op) g)(ha:DX X T W a fa)(hb:DX X T W b fb)(hm:behindInMarks op b=false:=by first|exact nomark _|rfl):DX X T W (.Compare a [op] [b] pos) (ZG g fa fb):=by
 obtain⟨r,h1,h2⟩:=ho
 exact⟨Yj (pe_cmpR h1 ha.pe hb.pe hm) fun σ H Q h=>ZhN h2 h⟩
theorem DQ{op:UnaryOp}{g:G1}(ho:UnD X T (unaryOp op) g)(ha:DX X T W a fa):DX X T W (.UnaryOp op a pos) (sH g fa):=by
 obtain⟨r,h1,h2⟩:=ho
 refine⟨Yj (pe_un h1 ha.pe) fun σ H Q h=> ?_⟩
 obtain⟨F,e,s,R,E,he,hh,hx,hf,post⟩:=h
 exact⟨F,e,s,_,E,he,hh,hx,hf,fun x s1 vx H1 F1 q1 e1 hh1 rx=>h2 F1 s1 H1 x vx R Q hh1 rx q1 (post.mono e1)⟩
def ZX(f:Exp):Xp:=fun e s R E=>f e s (fun d s'=>match d with
 | .bl b=>R b s'
 |_=>False) E
theorem Jf(h:DX X T W e f)(he: ∀whole,isTrue e X.env whole=(do let v←whole;standAt e.pos;holding [v] (truthy v)):=by intro _;rfl):DT X T W e (ZX f):=⟨ZcC (pt_val h.pe he) fun σ H Q h=>by
 obtain⟨F,e,s,R,E,he,hh,hx,hf,post⟩:=h
 refine⟨F,e,s,_,E,he,hh,hx,hf,fun x s1 vx H1 F1 q1 e1 hh1 rx=> ?_⟩
 cases rx with
 |bl b=>exact⟨b,rfl,post b s1 H1 F1 q1 e1 hh1⟩
 |_=>exact q1.elim⟩
theorem ZM{op:CmpOp}{g:G2}(ho:IV X T (compareOp op) g)(ha:DX X T W a fa)(hb:DX X T W b fb)(hm:behindInMarks op b=false:=by first|exact nomark _|rfl):DT X T W (.Compare a [op] [b] pos) (ZX (ZG g fa fb)):=by
 obtain⟨r,h1,h2⟩:=ho
 refine⟨ZcC (pt_cmpR h1 ha.pe hb.pe hm) fun σ H Q h=> ?_⟩
 obtain⟨F,e,s,R,E,he,hh,hx,hf,post⟩:=h
 refine ZhN (W:=W) (fa:=fa) (fb:=fb) h2 ⟨F,e,s,_,E,he,hh,hx,hf,fun x s1 vx H1 F1 q1 e1 hh1 rx=> ?_⟩
 cases rx with
 |bl b=>exact⟨b,rfl,post b s1 H1 F1 q1 e1 hh1⟩
 |_=>exact q1.elim
def ZhO(t u:Xp):Xp:=fun e s R E=>t e s (fun b s1=>if b=true then u e s1 R E else R false s1) E
def Ew(t u:Xp):Xp:=fun e s R E=>t e s (fun b s1=>if b=true then R true s1 else u e s1 R E) E
def Bq(t:Xp):Xp:=fun e s R E=>t e s (fun b s1=>R (!b) s1) E
structure DW(X:Cx)(T:Tb)(W:WX)(e:Expr)(f:Xp):Prop where
 pw:PW X e (liftT X.K T W f)
theorem DW.dt(h:DW X T W e t):DT X T W e t:=⟨h.pw.pt⟩
theorem wO(h:DT X T W a t):DW X T W (.BoolOp .And [a] pos) t:=⟨pw_and1 h.pt⟩
theorem VR(h:DT X T W a t):DW X T W (.BoolOp .Or [a] pos) t:=⟨pw_or1 h.pt⟩
variable{rest:List Expr}
theorem ZcD(ha:DT X T W a ta)(hb:DW X T W (.BoolOp .And (b::rest) pos) tb):DW X T W (.BoolOp .And (a::b::rest) pos) (ZhO ta tb):=⟨pw_imp (pw_and ha.pt hb.pw) fun σ H Q h=>by
 obtain⟨F,e,s,R,E,he,hh,hx,hf,post⟩:=h
 refine⟨F,e,s,_,E,he,hh,hx,hf,fun x s1 H1 F1 q1 e1 hh1=> ?_⟩
 cases x with
 |true=>exact⟨F1,e,s1,R,E,he.mono e1.same,hh1,hx.mono e1,q1,fun b s' H' F' q e2=>post b s' H' F' q (e1.trans e2)⟩
 |false=>exact post false s1 H1 F1 q1 e1 hh1⟩
theorem V4(ha:DT X T W a ta)(hb:DW X T W (.BoolOp .Or (b::rest) pos) tb):DW X T W (.BoolOp .Or (a::b::rest) pos) (Ew ta tb):=⟨pw_imp (pw_or ha.pt hb.pw) fun σ H Q h=>by
 obtain⟨F,e,s,R,E,he,hh,hx,hf,post⟩:=h
 refine⟨F,e,s,_,E,he,hh,hx,hf,fun x s1 H1 F1 q1 e1 hh1=> ?_⟩
 cases x with
 |false=>exact⟨F1,e,s1,R,E,he.mono e1.same,hh1,hx.mono e1,q1,fun b s' H' F' q e2=>post b s' H' F' q (e1.trans e2)⟩
 |true=>exact post true s1 H1 F1 q1 e1 hh1⟩
theorem Yz(ha:DT X T W a ta):DT X T W (.UnaryOp .Not a pos) (Bq ta):=⟨ZcC (pt_not ha.pt) fun σ H Q h=>by
 obtain⟨F,e,s,R,E,he,hh,hx,hf,post⟩:=h
 exact⟨F,e,s,_,E,he,hh,hx,hf,fun x s1 H1 F1 q1 e1 hh1=>post (!x) s1 H1 F1 q1 e1 hh1⟩⟩
def Rr(a b:Exp):Exp:=fun e s R E=>a e s (fun d s1=>match d with
 | .bl true=>b e s1 R E
 | .bl false=>R (.bl false) s1
 |_=>False) E
def ZhP(a:Exp):Exp:=fun e s R E=>a e s (fun d s1=>match d with
 | .bl k=>R (.bl (!k)) s1
 |_=>False) E
theorem qL{op}(h:DX X T W a fa):DX X T W (.BoolOp op [a] pos) fa:=⟨pe_one h.pe⟩
theorem Ka(ha:DX X T W a fa)(hb:DX X T W (.BoolOp .And (b::rest) pos) fb):DX X T W (.BoolOp .And (a::b::rest) pos) (Rr fa fb):=⟨Yj (pe_and ha.pe hb.pe) fun σ H Q h=>by
 obtain⟨F,e,s,R,E,he,hh,hx,hf,post⟩:=h
 refine⟨F,e,s,_,E,he,hh,hx,hf,fun x s1 vx H1 F1 q1 e1 hh1 rx=> ?_⟩
 cases rx with
 |bl k=>cases k with
  |true=>exact⟨true,rfl,F1,e,s1,R,E,he.mono e1.same,hh1,hx.mono e1,q1,post.mono e1⟩
  |false=>exact⟨false,rfl,post (.bl false) s1 (.bl false) H1 F1 q1 e1 hh1 (.bl false)⟩
 |_=>exact q1.elim⟩
theorem Zl3(ha:DX X T W a fa):DX X T W (.UnaryOp .Not a pos) (ZhP fa):=⟨Yj (pe_not ha.pe) fun σ H Q h=>by
 obtain⟨F,e,s,R,E,he,hh,hx,hf,post⟩:=h
 refine⟨F,e,s,_,E,he,hh,hx,hf,fun x s1 vx H1 F1 q1 e1 hh1 rx=> ?_⟩
 cases rx with
 |bl k=>exact⟨k,rfl,post (.bl (!k)) s1 (.bl (!k)) H1 F1 q1 e1 hh1 (.bl (!k))⟩
 |_=>exact q1.elim⟩
def Kc(t:Xp)(a b:Exp):Exp:=fun e s R E=>t e s (fun k s1=>if k=true then a e s1 R E else b e s1 R E) E
theorem V5(hc:DT X T W c t)(ha:DX X T W a fa)(hb:DX X T W b fb):DX X T W (.IfExp c a b pos) (Kc t fa fb):=⟨Yj (pe_ifExp hc.pt ha.pe hb.pe) fun σ H Q h=>by
 obtain⟨F,e,s,R,E,he,hh,hx,hf,post⟩:=h
 refine⟨F,e,s,_,E,he,hh,hx,hf,fun x s1 H1 F1 q1 e1 hh1=> ?_⟩
 cases x with
 |true=>exact⟨F1,e,s1,R,E,he.mono e1.same,hh1,hx.mono e1,q1,post.mono e1⟩
 |false=>exact⟨F1,e,s1,R,E,he.mono e1.same,hh1,hx.mono e1,q1,post.mono e1⟩⟩
def Zo:Arg:=fun _ s R _=>R [] s
def Zd(f:Exp)(r:Arg):Arg:=fun e s R E=>f e s (fun d s1=>r e s1 (fun ds s2=>R (d::ds) s2) E) E
theorem Zg:DA X T W [] Zo:=⟨ZgT pa_nil fun σ H Q ⟨F,e,s,R,E,he,hh,hx,hf,post⟩=>post [] s [] H F hf Ext.refl hh .nil⟩
theorem Za{es:List Expr}{r:Arg}(ha:DX X T W a fa)(hr:DA X T W es r)(hs:starEach (a::es) X.env=(false,eval a X.env)::starEach es X.env:=by rfl):DA X T W (a::es) (Zd fa r):=⟨ZgT (pa_cons ha.pe hr.pa hs) fun σ H Q h=>by
 obtain⟨F,e,s,R,E,he,hh,hx,hf,post⟩:=h
 exact⟨F,e,s,_,E,he,hh,hx,hf,fun x s1 vx H1 F1 q1 e1 hh1 rx=>⟨F1,e,s1,_,E,he.mono e1.same,hh1,hx.mono e1,q1,fun ds s2 vs H2 F2 q2 e2 hh2 rs=>
  post (x::ds) s2 (vx::vs) H2 F2 q2 (e1.trans e2) hh2 (.cons (rx.mono e2.same) rs)⟩⟩⟩
def dTup(r:Arg):Exp:=fun e s R E=>r e s (fun ds s1=>ds.length≤sizeLine∧R (.tup ds) s1) E
def VH(r:Arg):Exp:=fun e s R E=>r e s (fun ds s1=>ds.length≤sizeLine∧R (.lst ds) s1) E
def cD(r:Arg):Exp:=fun e s R E=>r e s (fun ds s1=>ds.length≤sizeLine∧ ∀p,s1.mu p=none→R (.rf (.ref p)) (s1.put p (.ml ds))) E
theorem Hold.frzT{K:PySem.W.Frag}{T:Tb}{F H:Hp}{s:S}(h:Hold K T F s H){p:Addr}{ds:List D}{vs:List V}(n:H p=none)(r:Qw K T F ds vs):Hold K T (upd F p (.tup vs)) s (upd H p (.tup vs))∧Ext F s H (upd F p (.tup vs)) s (upd H p (.tup vs))∧Rep K T (upd F p (.tup vs)) (.tup ds) (.ref p):=by
 have sm:Same F (upd F p (.tup vs)):=JM (h.fresh n)
 exact⟨h.frz n,Ext.frz h n, .tup (.inl (.inl upd_same)) (r.mono sm)⟩
theorem Hold.ZeY{K:PySem.W.Frag}{T:Tb}{F H:Hp}{s:S}(h:Hold K T F s H){p:Addr}{ds:List D}{vs:List V}(n:H p=none)(r:Qw K T F ds vs):Hold K T (upd F p (.lst vs)) s (upd H p (.lst vs))∧Ext F s H (upd F p (.lst vs)) s (upd H p (.lst vs))∧Rep K T (upd F p (.lst vs)) (.lst ds) (.ref p):=by
 have sm:Same F (upd F p (.lst vs)):=JM (h.fresh n)
 exact⟨h.frz n,Ext.frz h n, .lst upd_same (r.mono sm)⟩
theorem Qo{es:List Expr}{r:Arg}{k}(h:DA X T W es r):DX X T W (.Tuple es k pos) (dTup r):=⟨Yj (pe_tup h.pa) fun σ H Q h=>by
 obtain⟨F,e,s,R,E,he,hh,hx,hf,post⟩:=h
 refine⟨F,e,s,_,E,he,hh,hx,hf,fun ds s1 vs H1 F1 q1 e1 hh1 rs=>⟨by rw[←rs.length];exact q1.1,fun p np=> ?_⟩⟩
 obtain⟨h1,h2,h3⟩:=hh1.frzT np rs
 exact post _ s1 _ _ _ q1.2 (e1.trans h2) h1 h3⟩
theorem JV{es:List Expr}{r:Arg}(h:DA X T W es r):DX X T W (.List es pos) (VH r):=⟨Yj (pe_lst h.pa) fun σ H Q h=>by
 obtain⟨F,e,s,R,E,he,hh,hx,hf,post⟩:=h
 refine⟨F,e,s,_,E,he,hh,hx,hf,fun ds s1 vs H1 F1 q1 e1 hh1 rs=>⟨by rw[←rs.length];exact q1.1,fun p np=> ?_⟩⟩
 obtain⟨h1,h2,h3⟩:=hh1.ZeY np rs
 exact post _ s1 _ _ _ q1.2 (e1.trans h2) h1 h3⟩
theorem Kd{es:List Expr}{r:Arg}(h:DA X T W es r):DX X T W (.List es pos) (cD r):=⟨Yj (pe_lst h.pa) fun σ H Q h=>by
 obtain⟨F,e,s,R,E,he,hh,hx,hf,post⟩:=h
 refine⟨F,e,s,_,E,he,hh,hx,hf,fun ds s1 vs H1 F1 q1 e1 hh1 rs=>⟨by rw[←rs.length];exact q1.1,fun p np=> ?_⟩⟩
 exact post _ _ _ _ F1 (q1.2 p (hh1.jw np)) (e1.trans (Ext.new hh1 np)) (hh1.new np ⟨vs,rfl,rs⟩) (.rf _)⟩
abbrev GA:=List D→S→Q1→Prop
def CallD(X:Cx)(T:Tb)(f:Value)(g:GA):Prop:=
 ∃r:List V→Hp→VK→Prop,CallR X f r∧ ∀F s H ds vs R Q,Hold X.K T F s H→Qw X.K T F ds vs→g ds s R→Post X.K T F s H R Q→r vs H Q
def Qp(g:GA)(r:Arg):Exp:=fun e s R E=>r e s (fun ds s1=>g ds s1 R) E
theorem ZQ{x:Str}{id:String}{g:GA}{es:List Expr}{r:Arg}{p:Pos}(hr:CallD X T (.builtin id) g)(hg:Gl X x)(hm:X.mg x=none)(hv:bootBuiltins x=some (.builtin id))(ha:DA X T W (a::es) r)
  (hn:x≠ "__name__" :=by decide) (hd:(x==("__debug__" :Str))=false:=by decide) (hs:starEach (a::es) X.env=(false,eval a X.env)::starEach es X.env:=by rfl) (hpl:(backTo pos (starEach es X.env)).any (·.1)=false:=by rfl):
  DX X T W (.Call (.Name x p) (a::es) [] pos) (Qp g r):=by
 obtain⟨r',h1,h2⟩:=hr
 refine⟨Yj (pe_callB h1 hg hm hv ha.pa hn hd hs hpl) fun σ H Q h=> ?_⟩
 obtain⟨F,e,s,R,E,he,hh,hx,hf,post⟩:=h
 exact⟨F,e,s,_,E,he,hh,hx,hf,fun ds s1 vs H1 F1 q1 e1 hh1 rs=>h2 F1 s1 H1 ds vs R Q hh1 rs q1 (post.mono e1)⟩
theorem QV{x:Str}{id:String}{g:GA}{es:List Expr}{r:Arg}{p:Pos}(hr:CallD X T (.type id) g)(hg:Gl X x)(hm:X.mg x=none)(hv:bootBuiltins x=some (.type id))(ha:DA X T W (a::es) r)
  (hn:x≠ "__name__" :=by decide) (hd:(x==("__debug__" :Str))=false:=by decide) (hs:starEach (a::es) X.env=(false,eval a X.env)::starEach es X.env:=by rfl) (hpl:(backTo pos (starEach es X.env)).any (·.1)=false:=by rfl):
  DX X T W (.Call (.Name x p) (a::es) [] pos) (Qp g r):=by
 obtain⟨r',h1,h2⟩:=hr
 refine⟨Yj (pe_callTy h1 hg hm hv ha.pa hn hd hs hpl) fun σ H Q h=> ?_⟩
 obtain⟨F,e,s,R,E,he,hh,hx,hf,post⟩:=h
 exact⟨F,e,s,_,E,he,hh,hx,hf,fun ds s1 vs H1 F1 q1 e1 hh1 rs=>h2 F1 s1 H1 ds vs R Q hh1 rs q1 (post.mono e1)⟩
end
end Bk
namespace Bk
open PySem PySem.Spec PyProof.Rows L2
structure Ru where
 nx:Zq→S→Prop
 rt:D→S→Prop
 bk:Zq→S→Prop:=fun _ _=>False
 ct:Zq→S→Prop:=fun _ _=>False
 ex:Ex→Zq→S→Prop:=fun _ _ _=>False
abbrev Yh:=Ru→Zq→S→Prop
structure Zb1(K:PySem.W.Frag)(T:Tb)(W:WX)(F:Hp)(s:S)(H:Hp)(DD:Ru)(Q:Ends):Prop where
 nx: ∀e' s' σ' H' F',DD.nx e' s'→Ext F s H F' s' H'→Hold K T F' s' H'→Jz K T F' e' σ'→Q.nx σ' H'
 rt: ∀d s' v H' F',DD.rt d s'→Ext F s H F' s' H'→Hold K T F' s' H'→Rep K T F' d v→Q.rt v H'
 bk: ∀e' s' σ' H' F',DD.bk e' s'→Ext F s H F' s' H'→Hold K T F' s' H'→Jz K T F' e' σ'→Q.bk σ' H'
 ct: ∀e' s' σ' H' F',DD.ct e' s'→Ext F s H F' s' H'→Hold K T F' s' H'→Jz K T F' e' σ'→Q.ct σ' H'
 ex: ∀x e' s' cls dx σ' H' F',DD.ex x e' s'→Ext F s H F' s' H'→Hold K T F' s' H'→Jz K T F' e' σ'→ZlH K T F' x cls dx H'→W cls dx σ' H'
def Zb2(K:PySem.W.Frag)(T:Tb)(W:WX)(t:Yh):TS:=fun Q σ H=> ∃(F:Hp) (e:Zq) (s:S) (DD:Ru),Jz K T F e σ∧Hold K T F s H∧t DD e s∧Zb1 K T W F s H DD Q
section
variable{K:PySem.W.Frag}{T:Tb}{W:WX}{F F1 H H1:Hp}{s s1:S}{DD:Ru}{Q:Ends}{e:Zq}{σ:L2.St}
theorem Zb1.mono(h:Ext F s H F1 s1 H1)(p:Zb1 K T W F s H DD Q):Zb1 K T W F1 s1 H1 DD Q:=
 ⟨fun e' s' σ' H' F' q a=>p.nx e' s' σ' H' F' q (h.trans a),fun d s' v H' F' q a=>p.rt d s' v H' F' q (h.trans a),fun e' s' σ' H' F' q a=>p.bk e' s' σ' H' F' q (h.trans a),fun e' s' σ' H' F' q a=>p.ct e' s' σ' H' F' q (h.trans a),
   fun x e' s' cls dx σ' H' F' q a=>p.ex x e' s' cls dx σ' H' F' q (h.trans a)⟩
theorem Zb1.uV(p:Zb1 K T W F s H DD Q)(he:Jz K T F e σ):XOk K T W F s H (fun x s'=>DD.ex x e s') σ:=fun x s' cls dx H' F' q a hh r=>p.ex x e s' cls dx σ H' F' q a hh (he.mono a.same) r
end
structure DS(X:Cx)(T:Tb)(W:WX)(st:Stmt)(t:Yh):Prop where
 ps:PS X st (Zb2 X.K T W t)
structure qM(X:Cx)(T:Tb)(W:WX)(st:List Stmt)(t:Yh):Prop where
 pss:PSs X st (Zb2 X.K T W t)
abbrev DG:=D→Zq→S→(Zq→S→Prop)→Prop
abbrev o7:=List D→Zq→S→(Zq→S→Prop)→Prop
def Zqp(K:PySem.W.Frag)(T:Tb)(g:DG):TG:=fun v σ H Q=> ∃(F:Hp) (d:D) (e:Zq) (s:S) (R:Zq→S→Prop),Rep K T F d v∧Jz K T F e σ∧Hold K T F s H∧g d e s R∧
 ∀e' s' σ' H' F',R e' s'→Ext F s H F' s' H'→Hold K T F' s' H'→Jz K T F' e' σ'→Q σ' H'
def Zry(K:PySem.W.Frag)(T:Tb)(g:o7):TGs:=fun vs σ H Q=> ∃(F:Hp) (ds:List D) (e:Zq) (s:S) (R:Zq→S→Prop),Qw K T F ds vs∧Jz K T F e σ∧Hold K T F s H∧g ds e s R∧
 ∀e' s' σ' H' F',R e' s'→Ext F s H F' s' H'→Hold K T F' s' H'→Jz K T F' e' σ'→Q σ' H'
structure DPG(X:Cx)(T:Tb)(tg:Expr)(g:DG):Prop where
 pg:PG X tg (Zqp X.K T g)
structure ZeZ(X:Cx)(T:Tb)(tg:List Expr)(g:o7):Prop where
 pgs:PGs X tg (Zry X.K T g)
theorem xZ{X:Cx}{e:Expr}{t t':TG}(h:PG X e t)(k: ∀v σ H Q,t' v σ H Q→t v σ H Q):PG X e t':=⟨fun pins s σ H v u Q I r q=>h.run pins s σ H v u Q I r (k v σ H Q q)⟩
theorem wQ{X:Cx}{e:List Expr}{t t':TGs}(h:PGs X e t)(k: ∀v σ H Q,t' v σ H Q→t v σ H Q):PGs X e t':=⟨fun pins s σ H v u Q I r q=>h.run pins s σ H v u Q I r (k v σ H Q q)⟩
section
variable{X:Cx}{T:Tb}{W:WX}{a b c e0:Expr}{fa fb:Exp}{tt:Xp}{pos:Pos}{st:Stmt}{sts:List Stmt}{t u:Yh}{g:DG}
def Z6(i:Nat):DG:=fun d e s R=>R (Jh e i (some d)) s
theorem QZ{i:Nat}{x:Str}(hN:X.N.Nodup)(hi:X.N[i]? =some x)(hx:Loc X.env.scope x)(hf:X.fn x=true∨X.env.scope.names.lookup x=some .local:=by first|exact .inl rfl|exact .inr rfl|assumption):DPG X T (.Name x pos) (Z6 i):=
 ⟨xZ (pg_name hN hi hx hf) fun v σ H Q ⟨F,d,e,s,R,rd,he,hh,hg,k⟩=>k _ s _ H F hg Ext.refl hh (he.set rd i)⟩
def Ny:o7:=fun ds e s R=>ds=[]∧R e s
def Jm(g:DG)(r:o7):o7:=fun ds e s R=>match ds with
 |d::ds=>g d e s (fun e1 s1=>r ds e1 s1 R)
 |[]=>False
theorem Bv:ZeZ X T [] Ny:=⟨wQ pgs_nil fun vs σ H Q ⟨F,ds,e,s,R,rd,he,hh,hg,k⟩=>by
 obtain⟨rfl,q⟩:=hg
 cases rd
 exact⟨rfl,k e s σ H F q Ext.refl hh he⟩⟩
theorem Jl{es:List Expr}{r:o7}(h1:DPG X T a g)(h2:ZeZ X T es r)(hs:(assignEach (a::es) X.env).map (·.2)=assign a X.env::(assignEach es X.env).map (·.2):=by rfl):ZeZ X T (a::es) (Jm g r):=
 ⟨wQ (pgs_cons h1.pg h2.pgs hs) fun vs σ H Q ⟨F,ds,e,s,R,rd,he,hh,hg,k⟩=>by
   cases rd with
   |nil=>exact hg.elim
   |cons rd rs=>
    refine⟨_,_,rfl,F,_,e,s,_,rd,he,hh,hg,fun e1 s1 σ1 H1 F1 q1 x1 hh1 he1=>⟨F1,_,e1,s1,R,rs.mono x1.same,he1,hh1,q1,fun e2 s2 σ2 H2 F2 q2 x2=>k e2 s2 σ2 H2 F2 q2 (x1.trans x2)⟩⟩⟩
def Nz(n:Nat)(r:o7):DG:=fun d e s R=>match d with
 | .tup ds=>ds.length=n∧r ds e s R
 |_=>False
theorem Wy{es:List Expr}{k n:Nat}{r:o7}(hc:X.calm=true)(h:ZeZ X T es r)(hn:(assignEach es X.env).length=n:=by rfl)(hst:(assignEach es X.env).findIdx? (·.1)=none:=by rfl):DPG X T (.Tuple es k pos) (Nz n r):=
 ⟨xZ (pg_tup hc h.pgs hn hst) fun v σ H Q ⟨F,d,e,s,R,rd,he,hh,hg,k⟩=>by
   cases rd with
   |tup hs rs=>exact⟨_,_,rfl,Yu hh.sub hs,by rw[←rs.length];exact hg.1,F,_,e,s,R,rs,he,hh,hg.2,k⟩
   |_=>exact hg.elim⟩
def QD:Yh:=fun D e s=>D.nx e s
def ZV(t u:Yh):Yh:=fun D e s=>t {D with nx:=u D} e s
theorem Z4:qM X T W [] QD:=⟨wN pss_nil fun Q σ H ⟨F,e,s,D,he,hh,ht,p⟩=>p.nx e s σ H F ht Ext.refl hh he⟩
theorem Zj(h1:DS X T W st t)(h2:qM X T W sts u):qM X T W (st::sts) (ZV t u):=⟨wN (pss_cons h1.ps h2.pss) fun Q σ H ⟨F,e,s,D,he,hh,ht,p⟩=>
 ⟨F,e,s,_,he,hh,ht,⟨fun e' s' σ' H' F' q x hh' he'=>⟨F',e',s',D,he',hh',q,p.mono x⟩,p.rt,p.bk,p.ct,p.ex⟩⟩⟩
theorem Zr(h1:DS X T W st t):qM X T W [st] t:=⟨pss_one h1.ps⟩
def QJ(f:Exp):Yh:=fun D e s=>f e s D.rt (fun x s'=>D.ex x e s')
theorem ZW(h:DX X T W a fa):DS X T W (.Return (some a) pos) (QJ fa):=⟨Ld (ps_ret h.pe) fun Q σ H ⟨F,e,s,D,he,hh,ht,p⟩=>⟨F,e,s,_,_,he,hh,p.uV he,ht,fun d s' v H' F' q x hh' r=>p.rt d s' v H' F' q x hh' r⟩⟩
def Jv(c:Xp)(t u:Yh):Yh:=fun D e s=>c e s (fun b s1=>if b=true then t D e s1 else u D e s1) (fun x s'=>D.ex x e s')
theorem QK{st1 st2:List Stmt}(hc:DT X T W c tt)(h1:qM X T W st1 t)(h2:qM X T W st2 u):DS X T W (.If c st1 st2 pos) (Jv tt t u):=⟨Ld (ps_if hc.pt h1.pss h2.pss) fun Q σ H ⟨F,e,s,D,he,hh,ht,p⟩=>by
 refine⟨F,e,s,_,_,he,hh,p.uV he,ht,fun b s' H' F' q x hh'=> ?_⟩
 cases b with
 |true=>exact⟨F',e,s',D,he.mono x.same,hh',q,p.mono x⟩
 |false=>exact⟨F',e,s',D,he.mono x.same,hh',q,p.mono x⟩⟩
def wR(f:Exp)(g:DG):Yh:=fun D e s=>f e s (fun d s1=>g d e s1 D.nx) (fun x s'=>D.ex x e s')
theorem Zna{Q:Ends}{σ:L2.St}{H:Hp}(h:Zb2 X.K T W (wR fa g) Q σ H):tAsg (Lp X.K T W fa) (Zqp X.K T g) Q σ H:=by
 obtain⟨F,e,s,D,he,hh,ht,p⟩:=h
 exact⟨F,e,s,_,_,he,hh,p.uV he,ht,fun d s1 v H1 F1 q x1 hh1 r=>⟨F1,d,e,s1,_,r,he.mono x1.same,hh1,q,fun e2 s2 σ2 H2 F2 q2 x2 hh2 he2=>p.nx e2 s2 σ2 H2 F2 q2 (x1.trans x2) hh2 he2⟩⟩
theorem yc{tg:Expr}(h:DX X T W a fa)(hg:DPG X T tg g)(hs:swapsWithSole [tg] a pos.line X.env=pure false:=by rfl)(hw:swappedStores [tg] a X.env=pure none:=by rfl)(h1:(assignEach [tg] X.env).map (·.2)=[assign tg X.env]:=by rfl):
 DS X T W (.Assign [tg] a pos) (wR fa g):=⟨Ld (ps_asg h.pe hg.pg hs hw h1) fun Q σ H h=>Zna h⟩
def Jo(i:Nat)(f:Exp):Yh:=fun D e s=>f e s (fun d s1=>D.nx (Jh e i (some d)) s1) (fun x s'=>D.ex x e s')
theorem Qt{i:Nat}{x:Str}{pos':Pos}(hN:X.N.Nodup)(hi:X.N[i]? =some x)(hx:Loc X.env.scope x)(h:DX X T W a fa)(hs:swapsWith a (some (.Name x pos')) pos.line X.env=pure false:=by rfl)(hf:X.fn x=true∨X.env.scope.names.lookup x=some .local:=by first|exact .inl rfl|exact .inr rfl|assumption):
  DS X T W (.Assign [.Name x pos'] a pos) (Jo i fa):=⟨Ld (ps_set hN hi hx h.pe hs hf) fun Q σ H ⟨F,e,s,D,he,hh,ht,p⟩=>
 ⟨F,e,s,_,_,he,hh,p.uV he,ht,fun d s1 v H1 F1 q x1 hh1 r=>p.nx _ s1 _ H1 F1 q x1 hh1 ((he.mono x1.same).set r i)⟩⟩
def dPar(i j:Nat)(r:Arg):Yh:=fun D e s=>r e s (fun ds s1=>match ds with
 |[x,y]=>D.nx (Jh (Jh e i (some x)) j (some y)) s1
 |_=>False) (fun x s'=>D.ex x e s')
theorem qN{i j:Nat}{x y:Str}{r:Arg}{px py pt:Pos}{kt k2 pt2}(hc:X.calm=true)(hN:X.N.Nodup)(hi:X.N[i]? =some x)(hj:X.N[j]? =some y)(hij:i≠j)
  (hx:X.env.scope.names.lookup x=some .local) (hy:X.env.scope.names.lookup y=some .local) (ha:DA X T W [a,b] r)
  (hw:swappedStores [.Tuple [.Name x px, .Name y py] kt pt] (.Tuple [a,b] k2 pt2) X.env=pure (some [x,y]))
  (hs:swapsWithSole [.Tuple [.Name x px, .Name y py] kt pt] (.Tuple [a,b] k2 pt2) pos.line X.env=pure false:=by rfl):
  DS X T W (.Assign [.Tuple [.Name x px, .Name y py] kt pt] (.Tuple [a,b] k2 pt2) pos) (dPar i j r):=⟨Ld (ps_par hc hN hi hj hij hx hy ha.pa hw hs) fun Q σ H ⟨F,e,s,D,he,hh,ht,p⟩=>by
 refine⟨F,e,s,_,_,he,hh,p.uV he,ht,fun ds s1 vs H1 F1 q x1 hh1 rs=> ?_⟩
 split at q
 ·cases rs with|cons r1 rs=>cases rs with|cons r2 rs=>
   cases rs
   exact⟨_,_,rfl,p.nx _ s1 _ H1 F1 q x1 hh1 (((he.mono x1.same).set r1 i).set r2 j)⟩
 ·exact q.elim⟩
def ItD(K:PySem.W.Frag)(T:Tb)(F:Hp)(J:It)(ds:List D):Prop:= ∀F' s' H',Same F F'→Hold K T F' s' H'→
 (∀i,ds.length≤i→J.stop i H')∧ ∀i d,ds[i]? =some d→J.go i H'∧ ∀v H2,J.yld i H' v H2→ ∃F2,Ext F' s' H' F2 s' H2∧Hold K T F2 s' H2∧Rep K T F2 d v
theorem ItD.mono{K:PySem.W.Frag}{T:Tb}{F F1:Hp}{J:It}{ds:List D}(h:ItD K T F J ds)(a:Same F F1):ItD K T F1 J ds:=fun F' s' H' b=>h F' s' H' (a.trans b)
def ZlI(K:PySem.W.Frag)(T:Tb)(W:WX)(f:Arg):TI:=fun σ H Q=> ∃(F:Hp) (e:Zq) (s:S) (R:List D→S→Prop) (E:XQ),Jz K T F e σ∧Hold K T F s H∧XOk K T W F s H E σ∧f e s R E∧
 ∀ds s' J H' F',R ds s'→Ext F s H F' s' H'→Hold K T F' s' H'→ItD K T F' J ds→Q J H'
structure DI(X:Cx)(T:Tb)(W:WX)(tg iter:Expr)(f:Arg):Prop where
 pi:PI X tg iter (ZlI X.K T W f)
def cG(g:DG)(tb:Yh)(DD:Ru):List D→Zq→S→Prop
 |[],e,s=>DD.nx e s
 |d::ds,e,s=>g d e s (fun e1 s1=>tb {DD with nx:=cG g tb DD ds,ct:=cG g tb DD ds,bk:=DD.nx} e1 s1)
def Xj(f:Arg)(g:DG)(tb:Yh):Yh:=fun DD e s=>f e s (fun ds s1=>cG g tb DD ds e s1) (fun x s'=>DD.ex x e s')
theorem U3{tg iter:Expr}{body:List Stmt}{f:Arg}(hp:PassesOwn (model X.prog X.w) X.A X.env X.xe)(hc:X.calm=true)(hi:DI X T W tg iter f)(hg:DPG X T tg g)(hb:qM X T W body t)
  (hs: ∀x,foldedSetIterable iter X.env x=pure x:=by intro _;rfl):DS X T W (.For tg iter body [] pos) (Xj f g t):=⟨Ld (ps_for hp hc hi.pi hg.pg hb.pss hs) fun Q σ H ⟨F,e,s,D,he,hh,ht,p⟩=>by
 refine⟨F,e,s,_,_,he,hh,p.uV he,ht,fun ds s1 J H1 F1 q1 x1 hh1 it=> ?_⟩
 refine⟨fun i m σ' H'=> ∃F' e' s',i≤ds.length∧m=ds.length-i∧Jz X.K T F' e' σ'∧Hold X.K T F' s' H'∧Ext F1 s1 H1 F' s' H'∧cG g t D (ds.drop i) e' s',⟨_,F1,e,s1,Nat.zero_le _,rfl,he.mono x1.same,hh1,Ext.refl,q1⟩, ?_⟩
 rintro i m σ2 H2 ⟨F2,e2,s2,hle,rfl,he2,hh2,x2,q2⟩
 obtain⟨hstop,hgo⟩:=it F2 s2 H2 x2.same hh2
 by_cases hi:i<ds.length
 ·obtain⟨go,hy⟩:=hgo i ds[i] (List.getElem?_eq_getElem hi)
  rw[List.drop_eq_getElem_cons hi]at q2
  refine .inr ⟨go,fun σ' H'=> ∃F' e' s',Jz X.K T F' e' σ'∧Hold X.K T F' s' H'∧Ext F1 s1 H1 F' s' H'∧cG g t D (ds.drop (i+1)) e' s',fun σ' H' ⟨F',e',s',a1,a2,a3,a4⟩=>⟨_,by omega,F',e',s',by omega,rfl,a1,a2,a3,a4⟩,fun v H3 y=> ?_⟩
  obtain⟨F3,x3,hh3,r3⟩:=hy v H3 y
  refine⟨F3,_,e2,s2,_,r3,he2.mono x3.same,hh3,q2,fun e4 s4 σ4 H4 F4 q4 x4 hh4 he4=> ?_⟩
  have xx:=(x2.trans x3).trans x4
  refine⟨F4,e4,s4,_,he4,hh4,q4,⟨fun e' s' σ' H' F' q x hh' he'=>⟨F',e',s',he',hh',xx.trans x,q⟩,fun d s' v H' F' q x=>p.rt d s' v H' F' q (x1.trans (xx.trans x)),fun e' s' σ' H' F' q x=>p.nx e' s' σ' H' F' q (x1.trans (xx.trans x)),fun e' s' σ' H' F' q x hh' he'=>⟨F',e',s',he',hh',xx.trans x,q⟩,
   fun x e' s' cls dx σ' H' F' q y=>p.ex x e' s' cls dx σ' H' F' q (x1.trans (xx.trans y))⟩⟩
 ·have hn:ds.length≤i:=by omega
  rw[List.drop_eq_nil_of_le hn]at q2
  exact .inl ⟨hstop i hn,p.nx e2 s2 σ2 H2 F2 q2 (x1.trans x2) hh2 he2⟩⟩
def yd(c:Xp)(tb:Yh):Yh:=fun DD e s=> ∃I:Nat→Zq→S→Prop,(∃m,I m e s)∧ ∀m e s,I m e s→c e s (fun b s1=>if b=true then tb {DD with nx:=fun e' s'=> ∃m',m'<m∧I m' e' s',ct:=fun e' s'=> ∃m',m'<m∧I m' e' s',bk:=DD.nx} e s1 else DD.nx e s1) (fun x s'=>DD.ex x e s')
theorem zF{body:List Stmt}(hp:PassesOwn (model X.prog X.w) X.A X.env X.xe)(hc:DT X T W c tt)(hb:qM X T W body t):DS X T W (.While c body [] pos) (yd tt t):=⟨Ld (ps_while hp hc.pt hb.pss) fun Q σ H ⟨F,e,s,D,he,hh,⟨I,⟨m0,w0⟩,turn⟩,p⟩=>by
 refine⟨fun m σ' H'=> ∃F' e' s',Jz X.K T F' e' σ'∧Hold X.K T F' s' H'∧Ext F s H F' s' H'∧I m e' s',⟨m0,F,e,s,he,hh,Ext.refl,w0⟩, ?_⟩
 rintro m σ1 H1 ⟨F1,e1,s1,he1,hh1,x1,w1⟩
 refine⟨F1,e1,s1,_,_,he1,hh1,(p.mono x1).uV he1,turn m e1 s1 w1,fun b s2 H2 F2 q2 x2 hh2=> ?_⟩
 have xx:=x1.trans x2
 cases b with
 |true=>
  refine⟨fun σ' H'=> ∃F' e' s',Jz X.K T F' e' σ'∧Hold X.K T F' s' H'∧Ext F s H F' s' H'∧ ∃m',m'<m∧I m' e' s',fun σ' H' ⟨F',e',s',a1,a2,a3,m',hm,a4⟩=>⟨m',hm,F',e',s',a1,a2,a3,a4⟩, ?_⟩
  exact⟨F2,e1,s2,_,he1.mono x2.same,hh2,q2,⟨fun e' s' σ' H' F' q x hh' he'=>⟨F',e',s',he',hh',xx.trans x,q⟩,fun d s' v H' F' q x=>p.rt d s' v H' F' q (xx.trans x),fun e' s' σ' H' F' q x=>p.nx e' s' σ' H' F' q (xx.trans x),fun e' s' σ' H' F' q x hh' he'=>⟨F',e',s',he',hh',xx.trans x,q⟩,
   fun x e' s' cls dx σ' H' F' q y=>p.ex x e' s' cls dx σ' H' F' q (xx.trans y)⟩⟩
 |false=>exact p.nx e1 s2 σ1 H2 F2 q2 xx hh2 (he1.mono x2.same)⟩
end
def DR(g:DG)(t:Xp)(f:Exp)(e0:Zq)(R:List D→S→Prop):List D→List D→S→Prop
 |[],acc,s=>R acc s
 |d::ds,acc,s=>g d e0 s (fun e1 s1=>t e1 s1 (fun b s2=>if b=true then f e1 s2 (fun y s3=>DR g t f e0 R ds (acc++[y]) s3) (fun _ _=>False)else DR g t f e0 R ds acc s2) (fun _ _=>False))
def wF:WX:=fun _ _ _ _=>False
end Bk
namespace Bk
open PySem PySem.Spec PyProof.Rows L2
section
variable{K:PySem.W.Frag}{T:Tb}{F:Hp}
theorem cH{H:Hp}{a:Addr}{xs:List V}(h:F a=some (.lst xs))(e:Same F H):SqL K H a xs:= .inl (.inl (e _ _ h))
theorem Znb{a:Addr}{xs:List V}{ds:List D}(h:F a=some (.lst xs))(r:Qw K T F ds xs):ItD K T F (Itl K a) ds:=fun F' s' H' e hh=>by
 have hq:SqL K H' a xs:=cH (e _ _ h) hh.sub
 refine⟨fun i hi=>⟨xs,hq,by rw[←r.length];exact hi⟩,fun i d hd=> ?_⟩
 obtain⟨v,hv,rv⟩:=r.getD hd
 refine⟨⟨xs,v,hq,hv⟩,fun v' H2 y=> ?_⟩
 obtain⟨rfl,y⟩:=y
 have e2:=y xs hq
 rw[hv]at e2;cases e2
 exact⟨F',Ext.refl,hh,rv.mono e⟩
theorem Zpe{a:Addr}{ns:List Int}(h:SqL K F a (ns.map V.int)):ItD K T F (Itl K a) (ns.map D.int):=fun F' s' H' e hh=>by
 have hq:SqL K H' a (ns.map V.int):=(e.trans hh.sub).seq h
 refine⟨fun i hi=>⟨_,hq,by rw[List.length_map]at hi⊢;exact hi⟩,fun i d hd=> ?_⟩
 obtain⟨v,hv,rv⟩:=(DP (K:=K) (F:=F) (ns:=ns)).getD hd
 refine⟨⟨_,v,hq,hv⟩,fun v' H2 y=> ?_⟩
 obtain⟨rfl,y⟩:=y
 have e2:=y _ hq
 rw[hv]at e2;cases e2
 exact⟨F',Ext.refl,hh,rv.mono e⟩
theorem Zpf{a:Addr}{xs:List V}{ds:List D}(h:SqT K F a xs)(r:Qw K T F ds xs):ItD K T F (Itt K a) ds:=fun F' s' H' e hh=>by
 have hq:SqT K H' a xs:=Yu hh.sub (Yu e h)
 refine⟨fun i hi=>⟨xs,hq,by rw[←r.length];exact hi⟩,fun i d hd=> ?_⟩
 obtain⟨v,hv,rv⟩:=r.getD hd
 refine⟨⟨xs,v,hq,hv⟩,fun v' H2 y=> ?_⟩
 obtain⟨rfl,y⟩:=y
 have e2:=y xs hq
 rw[hv]at e2;cases e2
 exact⟨F',Ext.refl,hh,rv.mono e⟩
def signs(x:Str):List D:=x.cps.toList.map fun c=> .str ⟨#[c]⟩
theorem sJ(x:Str):(signs x).length=x.cps.size:=by unfold signs;simp
theorem Zjt{x:Str}:ItD K T F (Its x) (signs x):=fun F' s' H' e hh=>by
 refine⟨fun i hi=>by rw[sJ]at hi;exact hi,fun i d hd=> ?_⟩
 have hi:i<x.cps.size:=by
  have:=(List.getElem?_eq_some_iff.mp hd).1
  rwa[sJ]at this
 refine⟨hi,fun v' H2 y=> ?_⟩
 obtain⟨rfl,c,hc,rfl⟩:=y
 refine⟨F',Ext.refl,hh, ?_⟩
 have e1:d= .str ⟨#[c]⟩:=by
  unfold signs at hd
  rw[List.getElem?_map]at hd
  have:x.cps.toList[i]? =some c:=by simpa using hc
  rw[this]at hd
  exact(Option.some.inj hd).symm
 rw[e1]
 exact .str _
def DY(lo:Int)(n:Nat):List D:=(List.range n).map fun(i:Nat)=>D.int (lo+(i:Int))
theorem V3(lo:Int)(n:Nat):(DY lo n).length=n:=by unfold DY;simp
theorem Zkq{lo:Int}{n:Nat}:ItD K T F (Itr lo n) (DY lo n):=fun F' s' H' e hh=>by
 refine⟨fun i hi=>by rw[V3]at hi;exact hi,fun i d hd=> ?_⟩
 have hi:i<n:=by
  have:=(List.getElem?_eq_some_iff.mp hd).1
  rwa[V3]at this
 refine⟨hi,fun v' H2 y=> ?_⟩
 obtain⟨rfl,rfl⟩:=y
 refine⟨F',Ext.refl,hh, ?_⟩
 have e1:d= .int (lo+i):=by
  unfold DY at hd
  rw[List.getElem?_map,List.getElem?_range hi]at hd
  exact(Option.some.inj hd).symm
 rw[e1]
 exact .int _
def Zkr(xs ys:List D):List D:=(xs.zip ys).map fun p=> .tup [p.1,p.2]
theorem Znc{F' H':Hp}{s':S}{t:Addr}{x y:D}{vx vy:V}(hh:Hold K T F' s' H')(nt:H' t=none)(rx:Rep K T F' x vx)(ry:Rep K T F' y vy):
  ∃F2,Ext F' s' H' F2 s' (upd H' t (.tup [vx,vy]))∧Hold K T F2 s' (upd H' t (.tup [vx,vy]))∧Rep K T F2 (.tup [x,y]) (.ref t):=by
 obtain⟨a,b,c⟩:=hh.frzT nt (.cons rx (.cons ry .nil))
 exact⟨_,b,a,c⟩
end
section
variable{X:Cx}{T:Tb}{W:WX}{a b tg:Expr}{fa fb:Exp}{pos:Pos}
def Vy(f:Exp):Arg:=fun e s R E=>f e s (fun d s1=>match d with
 | .lst ds=>ds.length≤sizeLine→R ds s1
 | .tup ds=>ds.length≤sizeLine→R ds s1
 | .str x=>R (signs x) s1
 | .U7 ns=>ns.length≤sizeLine→R (ns.map D.int) s1
 |_=>False) E
theorem YK(h:DX X T W a fa):DI X T W tg a (Vy fa):=by
 refine⟨⟨fun pins s σ H R I hR=> ?_⟩⟩
 obtain⟨F,e,s0,RR,E,he,hh,hx,hf,k⟩:=hR
 refine thn (h.pe.run pins s σ H (fun v H1=> ∃d s1 F1,Rep X.K T F1 d v∧Ext F s0 H F1 s1 H1∧Hold X.K T F1 s1 H1∧(match d with
  | .lst ds=>ds.length≤sizeLine→RR ds s1
  | .tup ds=>ds.length≤sizeLine→RR ds s1
  | .str x=>RR (signs x) s1
  | .U7 ns=>ns.length≤sizeLine→RR (ns.map D.int) s1
  |_=>False)) I ⟨F,e,s0,_,E,he,hh,hx,hf,fun d s1 v H1 F1 q x hh1 r=>⟨d,s1,F1,r,x,hh1,q⟩⟩) fun u st1 ⟨v,H1,I1,r1,d,s1,F1,rd,x1,hh1,q⟩=> ?_
 cases rd with
 |lst hl rs=>
  rename_i ad xs ds
  cases r1
  obtain⟨its,rv,p,hz⟩:=I1.list (cH hl hh1.sub)
  refine wpAny_pyIter_list p.isList ?_
  refine⟨st1.heap.objs.size,[st1.heap.objs.size],_,_,H1,rfl,I1.kept (t':=st1.toks) fun b o e=>Heap.get?_push_of_some _ e,turn_list ad _,⟨_,Heap.get?_push_size _ rfl,rfl,rfl⟩,fun b hb=> ?_,k ds s1 _ H1 F1 (q (by rw[rs.length];exact hz)) x1 hh1 (Znb hl rs)⟩
  have e:b=st1.heap.objs.size:=by simpa using hb
  subst e
  exact I1.fpOk (Nat.le_refl _) (I1.hok.fresh (Nat.le_refl _))
 |tup hl rs=>
  rename_i ad xs ds
  cases r1
  obtain⟨its,rv,p,hz⟩:=I1.tuple (Yu hh1.sub hl)
  refine wpAny_pyIter_tuple (show st1.heap.IsTuple ad its.toArray from p) ?_
  refine⟨st1.heap.objs.size,[st1.heap.objs.size],_,_,H1,rfl,I1.kept (t':=st1.toks) fun b o e=>Heap.get?_push_of_some _ e,turn_tuple ad _,⟨_,Heap.get?_push_size _ rfl,rfl,rfl⟩,fun b hb=> ?_,k ds s1 _ H1 F1 (q (by rw[rs.length];exact hz)) x1 hh1 (Zpf hl rs)⟩
  have e:b=st1.heap.objs.size:=by simpa using hb
  subst e
  exact I1.fpOk (Nat.le_refl _) (I1.hok.fresh (Nat.le_refl _))
 |str x=>
  obtain⟨t,rfl⟩:=r1
  cases hall:x.cps.all (· <128)
  ·exact wpAny_pyIter_wide hall (pi_one (tk:=st1.toks) I1 _ (turn_str _ x t "str_iterator" (.inr rfl)) ⟨_,Heap.get?_push_size _ rfl,rfl,rfl⟩ (k _ s1 _ H1 F1 q x1 hh1 Zjt))
  ·exact wpAny_pyIter_ascii hall (pi_one (tk:=st1.toks) I1 _ (turn_str _ x t "str_ascii_iterator" (.inl rfl)) ⟨_,Heap.get?_push_size _ rfl,rfl,rfl⟩ (k _ s1 _ H1 F1 q x1 hh1 Zjt))
 |U7 hl=>
  rename_i ad ns
  cases r1
  have hq:=hh1.sub.seq hl
  obtain⟨its,rv,p,hz⟩:=I1.list hq
  refine wpAny_pyIter_list p.isList ?_
  refine⟨st1.heap.objs.size,[st1.heap.objs.size],_,_,H1,rfl,I1.kept (t':=st1.toks) fun b o e=>Heap.get?_push_of_some _ e,turn_list ad _,⟨_,Heap.get?_push_size _ rfl,rfl,rfl⟩,fun b hb=> ?_,k _ s1 _ H1 F1 (q (by rwa[List.length_map]at hz)) x1 hh1 (Zpe hl)⟩
  have e:b=st1.heap.objs.size:=by simpa using hb
  subst e
  exact I1.fpOk (Nat.le_refl _) (I1.hok.fresh (Nat.le_refl _))
 |_=>exact q.elim
def jH(r:Arg):Arg:=fun e s R E=>r e s (fun ds s1=>match ds with
 |[.int j]=>(-(2^62)≤j∧j<2^62)∧R (DY 0 j.toNat) s1
 |_=>False) E
theorem Wj{r:Arg}{p:Pos}(hg:Gl X "range")(hm:X.mg "range" =none)(ha:DA X T W [a] r)(hs:starEach [a] X.env=[(false,eval a X.env)]:=by rfl):DI X T W tg (.Call (.Name "range" p) [a] [] pos) (jH r):=by
 refine⟨⟨fun pins s σ H R I hR=>(pi_range1 hg hm ha.pa hs).run pins s σ H R I ?_⟩⟩
 obtain⟨F,e,s0,RR,E,he,hh,hx,hf,k⟩:=hR
 refine⟨F,e,s0,_,E,he,hh,hx,hf,fun ds s1 vs H1 F1 q x hh1 rs=> ?_⟩
 split at q
 ·cases rs with|cons r1 rs=>
   cases rs;cases r1
   exact⟨_,rfl,q.1.1,q.1.2,k _ s1 _ H1 F1 q.2 x hh1 Zkq⟩
 ·exact q.elim
end
end Bk
namespace Bk
open PySem PySem.Spec PyProof.Rows L2
theorem o8(σ:L2.St)(j:Nat): ∀vs:List Nat,(wipe σ vs)[j]? =if j∈vs then σ[j]?.map (fun _=>none)else σ[j]?
 |[]=>by simp [wipe]
 |v::vs=>by
  unfold wipe
  by_cases h:v=j
  ·subst h
   rw[if_pos List.mem_cons_self]
   by_cases hv:v<(wipe σ vs).length
   ·rw[List.getElem?_set_self hv]
    have:v<σ.length:=by rwa[wipe_length]at hv
    rw[List.getElem?_eq_getElem this];rfl
   ·have hv': ¬v<σ.length:=by rwa[wipe_length]at hv
    rw[List.getElem?_eq_none (by simpa using hv),List.getElem?_eq_none (by omega)];rfl
  ·rw[List.getElem?_set_ne h,o8 σ j vs]
   have:j∈v::vs↔j∈vs:=by
    simp only[List.mem_cons]
    exact⟨fun q=>q.elim (fun z=>absurd z.symm h) id, .inr⟩
   by_cases q:j∈vs
   ·rw[if_pos q,if_pos (this.mpr q)]
   ·rw[if_neg q,if_neg (fun z=>q (this.mp z))]
theorem Znd{σ:L2.St}{vs:List Nat}{i:Nat}{x:Option V}(h:i∈vs):wipe (σ.set i x) vs=wipe σ vs:=by
 apply List.ext_getElem?
 intro j
 rw[o8,o8]
 by_cases hj:j=i
 ·subst hj
  rw[if_pos h,if_pos h]
  by_cases hl:j<σ.length
  ·rw[List.getElem?_set_self hl,List.getElem?_eq_getElem hl];rfl
  ·rw[List.getElem?_eq_none (by simpa using hl),List.getElem?_eq_none (by omega)]
 ·rw[List.getElem?_set_ne (Ne.symm hj)]
theorem ZcE(σ:L2.St)(vs:List Nat):wipe (wipe σ vs) vs=wipe σ vs:=by
 apply List.ext_getElem?
 intro j
 rw[o8,o8]
 by_cases h:j∈vs
 ·rw[if_pos h,if_pos h]
  cases σ[j]? <;>rfl
 ·rw[if_neg h,if_neg h]
def ZgU(K:PySem.W.Frag)(T:Tb)(vs:List Nat)(g:DG):TG:=fun v σ H Q=> ∃(F:Hp) (d:D) (e:Zq) (s:S) (R:Zq→S→Prop),Rep K T F d v∧Jz K T F e σ∧Hold K T F s H∧g d e s R∧
 ∀e' s' σ' H' F',R e' s'→Ext F s H F' s' H'→Hold K T F' s' H'→Jz K T F' e' σ'→wipe σ' vs=wipe σ vs→Q σ' H'
def Zpg(K:PySem.W.Frag)(T:Tb)(vs:List Nat)(g:o7):TGs:=fun xs σ H Q=> ∃(F:Hp) (ds:List D) (e:Zq) (s:S) (R:Zq→S→Prop),Qw K T F ds xs∧Jz K T F e σ∧Hold K T F s H∧g ds e s R∧
 ∀e' s' σ' H' F',R e' s'→Ext F s H F' s' H'→Hold K T F' s' H'→Jz K T F' e' σ'→wipe σ' vs=wipe σ vs→Q σ' H'
structure Zbc(X:Cx)(T:Tb)(vs:List Nat)(tg:Expr)(g:DG):Prop where
 pg:PG X tg (ZgU X.K T vs g)
structure ZhQ(X:Cx)(T:Tb)(vs:List Nat)(tg:List Expr)(g:o7):Prop where
 pgs:PGs X tg (Zpg X.K T vs g)
section
variable{X:Cx}{T:Tb}{W:WX}{a b c:Expr}{fa fb:Exp}{pos:Pos}{g:DG}{vs:List Nat}
theorem Jq{i:Nat}{x:Str}(hv:i∈vs)(hN:X.N.Nodup)(hi:X.N[i]? =some x)(hx:Loc X.env.scope x)(hf:X.fn x=true∨X.env.scope.names.lookup x=some .local:=by first|exact .inl rfl|exact .inr rfl|assumption):Zbc X T vs (.Name x pos) (Z6 i):=
 ⟨xZ (pg_name hN hi hx hf) fun v σ H Q ⟨F,d,e,s,R,rd,he,hh,hg,k⟩=>k _ s _ H F hg Ext.refl hh (he.set rd i) (Znd hv)⟩
theorem Zfc:ZhQ X T vs [] Ny:=⟨wQ pgs_nil fun vs σ H Q ⟨F,ds,e,s,R,rd,he,hh,hg,k⟩=>by
 obtain⟨rfl,q⟩:=hg
 cases rd
 exact⟨rfl,k e s σ H F q Ext.refl hh he rfl⟩⟩
theorem Mi{es:List Expr}{r:o7}(h1:Zbc X T vs a g)(h2:ZhQ X T vs es r)(hs:(assignEach (a::es) X.env).map (·.2)=assign a X.env::(assignEach es X.env).map (·.2):=by rfl):ZhQ X T vs (a::es) (Jm g r):=
 ⟨wQ (pgs_cons h1.pg h2.pgs hs) fun vs σ H Q ⟨F,ds,e,s,R,rd,he,hh,hg,k⟩=>by
   cases rd with
   |nil=>exact hg.elim
   |cons rd rs=>
    refine⟨_,_,rfl,F,_,e,s,_,rd,he,hh,hg,fun e1 s1 σ1 H1 F1 q1 x1 hh1 he1 w1=>⟨F1,_,e1,s1,R,rs.mono x1.same,he1,hh1,q1,fun e2 s2 σ2 H2 F2 q2 x2 hh2 he2 w2=>k e2 s2 σ2 H2 F2 q2 (x1.trans x2) hh2 he2 (w2.trans w1)⟩⟩⟩
theorem Zju{es:List Expr}{k n:Nat}{r:o7}(hc:X.calm=true)(h:ZhQ X T vs es r)(hn:(assignEach es X.env).length=n:=by rfl)(hst:(assignEach es X.env).findIdx? (·.1)=none:=by rfl):Zbc X T vs (.Tuple es k pos) (Nz n r):=
 ⟨xZ (pg_tup hc h.pgs hn hst) fun v σ H Q ⟨F,d,e,s,R,rd,he,hh,hg,k⟩=>by
   cases rd with
   |tup hs rs=>exact⟨_,_,rfl,Yu hh.sub hs,by rw[←rs.length];exact hg.1,F,_,e,s,R,rs,he,hh,hg.2,k⟩
   |_=>exact hg.elim⟩
structure DTs(X:Cx)(T:Tb)(W:WX)(ifs:List Expr)(f:Xp):Prop where
 pts:PTs X ifs (liftT X.K T W f)
def Mj:Xp:=fun _ s R _=>R true s
theorem Us:DTs X T W [] Mj:=⟨⟨fun pins s σ H Q I ⟨F,e,s0,R,E,he,hh,hx,hf,k⟩=>pts_nil.run pins s σ H Q I (k true s0 H F hf Ext.refl hh)⟩⟩
theorem cI{t:Xp}(h:DT X T W a t):DTs X T W [a] t:=⟨pts_one h.pt⟩
def Ad(f0:Arg)(g:DG)(t:Xp)(f:Exp)(vs:List Nat):Exp:=fun e s R E=>f0 e s (fun ds s1=>ds.length≤sizeLine∧DR g t f (Jk e vs) (fun ys s2=>R (.lst ys) s2) ds [] s1) E
theorem Ext.keep{F s H F' s' H'}(x:Ext F s H F' s' H'){p:Addr}{xs:List V}(h:H p=some (.lst xs))(n: ¬own F s H p):H' p=some (.lst xs)∧ ¬own F' s' H' p:=x.rest p _ h n trivial
section
variable{K:PySem.W.Frag}{T:Tb}{F H F0 H0:Hp}{s s0:S}{p:Addr}{xs ys:List V}
theorem wU{o:HO}(n: ¬own F s H p){q:Addr}(w:own F s (upd H p o) q):own F s H q:=by
 rcases w with w|w|⟨a,m,h1,h2⟩
 ·exact .inl w
 ·exact .inr (.inl w)
 ·refine .inr (.inr ⟨a,m,h1,h2.imp id ?_⟩)
  rintro ⟨kvs,l,h3,h4,h5⟩
  have na:a≠p:=fun z=>by
   apply n
   rw[←z]
   exact .inr (.inr ⟨a,m,h1, .inl rfl⟩)
  rw[upd_ne na]at h3
  exact⟨kvs,l,h3,h4,h5⟩
theorem Ze0(n: ¬own F s H p):F p=none:=by
 cases e:F p with
 |none=>rfl
 |some o=>exact absurd (.inl (by rw[e];exact fun z=>by cases z)) n
theorem notM(n: ¬own F s H p):s.mu p=none:=by
 cases e:s.mu p with
 |none=>rfl
 |some o=>exact absurd (.inr (.inl (by rw[e];exact fun z=>by cases z))) n
theorem Hold.grow(hh:Hold K T F s H)(h:H p=some (.lst xs))(n: ¬own F s H p):Hold K T F s (upd H p (.lst ys))∧ ¬own F s (upd H p (.lst ys)) p:=by
 refine⟨⟨fun b x e=> ?_,fun q u e=> ?_,fun q k e=> ?_,zE hh.tab (fun ps z=>by rw[h]at z;cases z) (fun c q z=>by rw[h]at z;cases z),hh.XS⟩,fun w=>n (wU n w)⟩
 ·rw[upd_ne (fun z=>by rw[z,Ze0 n]at e;cases e)];exact hh.sub b x e
 ·rw[upd_ne (fun z=>by rw[z,notM n]at e;cases e)];exact hh.mu q u e
 ·obtain⟨l,c,t,cs,ls,g1,g2,g3,g4,g5,g6,g7,g8,g9⟩:=hh.gen q k e
  have nq:q≠p:=fun z=>n (by rw[←z];exact .inr (.inr ⟨q,k,e, .inl rfl⟩))
  have nl:l≠p:=fun z=>n (by rw[←z];exact .inr (.inr ⟨q,k,e, .inr ⟨_,l,g5,rfl,rfl⟩⟩))
  exact⟨l,c,t,cs,ls,g1,g2,g3,g4,by rw[upd_ne nq];exact g5,g6,by rw[upd_ne nl];exact g7,g8,g9⟩
theorem Ext.grow(x:Ext F0 s0 H0 F s H)(n0:H0 p=none)(n: ¬own F s H p){o:HO}:Ext F0 s0 H0 F s (upd H p o):=⟨x.same,fun q u e w z=>by
 obtain⟨h1,n1⟩:=x.rest q u e w z
 have ne:q≠p:=fun y=>by rw[y,n0]at e;cases e
 exact⟨by rw[upd_ne ne];exact h1,fun y=>n1 (wU n y)⟩⟩
theorem Hold.adopt(hh:Hold K T F s H)(h:H p=some (.lst xs))(n: ¬own F s H p):Hold K T (upd F p (.lst xs)) s H:=by
 have sm:Same F (upd F p (.lst xs)):=JM (Ze0 n)
 refine⟨fun b x e=> ?_,fun q u e=> ?_,fun q k e=> ?_,hh.tab,fun q ps e=> ?_⟩
 ·by_cases z:b=p
  ·subst z;rw[upd_same]at e;rw[h];exact e
  ·rw[upd_ne z]at e;exact hh.sub b x e
 ·obtain⟨h1,h2⟩:=hh.mu q u e
  rw[upd_ne (fun z=>by rw[z,notM n]at e;cases e)]
  exact⟨h1,h2.mono sm⟩
 ·obtain⟨l,c,t,cs,ls,g1,g2,g3,g4,g5,g6,g7,g8,g9⟩:=hh.gen q k e
  have nq:q≠p:=fun z=>n (by rw[←z];exact .inr (.inr ⟨q,k,e, .inl rfl⟩))
  have nl:l≠p:=fun z=>n (by rw[←z];exact .inr (.inr ⟨q,k,e, .inr ⟨_,l,g5,rfl,rfl⟩⟩))
  exact⟨l,c,t,cs,ls,by rw[upd_ne nq];exact g1,by rw[upd_ne nl];exact g2,g3,g4,g5,sm _ _ g6,g7,g8,g9⟩
 ·by_cases z:q=p
  ·subst z;rw[upd_same]at e;cases e
  ·rw[upd_ne z]at e;exact hh.XS q ps e
theorem Ext.adopt(x:Ext F0 s0 H0 F s H)(f0:F0 p=none)(n0:H0 p=none)(n: ¬own F s H p){o:HO}:Ext F0 s0 H0 (upd F p o) s H:=⟨x.same.trans (JM (Ze0 n)),fun q u e w z=>by
 obtain⟨h1,n1⟩:=x.rest q u e w z
 have ne:q≠p:=fun y=>by rw[y,n0]at e;cases e
 refine⟨h1,fun y=>n1 ?_⟩
 rcases y with y|y
 ·rw[upd_ne ne]at y;exact .inl y
 ·exact .inr y⟩
theorem Hold.begin(hh:Hold K T F s H)(n:H p=none):Hold K T F s (upd H p (.lst []))∧Ext F s H F s (upd H p (.lst []))∧ ¬own F s (upd H p (.lst [])) p:=by
 have no: ¬own F s H p:=fun w=>by
  rcases w with w|w|⟨a,m,h1,h2⟩
  ·exact w (hh.fresh n)
  ·exact w (hh.jw n)
  ·obtain⟨l,c,t,cs,ls,g1,g2,g3,g4,g5,g6,g7,g8,g9⟩:=hh.gen a m h1
   rcases h2 with h2|⟨kvs,l',h3,h4,h5⟩
   ·rw[←h2,n]at g5;cases g5
   ·rw[g5]at h3;cases h3
    have e:some (V.ref l)=some (V.ref l'):=h4
    cases e
    rw[←h5,n]at g7;cases g7
 refine⟨⟨hh.sub.trans (JM n),fun q u e=> ?_,fun q k e=> ?_,hh.tab.ext (JM n),hh.XS⟩,(Ext.refl).grow n no,fun w=>no (wU no w)⟩
 ·obtain⟨h1,h2⟩:=hh.mu q u e
  rw[upd_ne (fun z=>by rw[z,hh.jw n]at e;cases e)]
  exact⟨h1,h2⟩
 ·obtain⟨l,c,t,cs,ls,g1,g2,g3,g4,g5,g6,g7,g8,g9⟩:=hh.gen q k e
  exact⟨l,c,t,cs,ls,g1,g2,g3,g4,JM n _ _ g5,g6,JM n _ _ g7,g8,g9⟩
end
abbrev Gj(X:Cx)(scope:Scope)(P:Cx→Prop):Prop:= ∀(s:Shared) (H:Hp) (C:Addr) (cl:List (Str×Addr)) (fp:List Addr),P (X.blk s H scope (compEnvC scope cl C X.env) fp)
theorem Zjv{f0:Arg}{t:Xp}{f:Exp}{σ:L2.St}{H:Hp}{Q:VK}(h:Lp X.K T W (Ad f0 g t f vs) σ H Q):tLc (ZlI X.K T W f0) (ZgU X.K T vs g) (liftT X.K T wF t) (Lp X.K T wF f) vs σ H Q:=by
 obtain⟨F,e,s,R,E,he,hh,hx,hf,post⟩:=h
 refine⟨F,e,s,_,E,he,hh,hx,hf,fun ds s1 J H1 F1 q1 x1 hh1 it Dl nD=> ?_⟩
 obtain⟨hz,q1⟩:=q1
 obtain⟨hb,xb,ob⟩:=hh1.begin nD
 refine⟨fun i m H'=> ∃F' s' acc aD,i≤ds.length∧m=ds.length-i∧acc.length≤i∧Hold X.K T F' s' H'∧Ext F1 s1 H1 F' s' H'∧H' Dl=some (.lst aD)∧ ¬own F' s' H' Dl∧Qw X.K T F' acc aD∧DR g t f (Jk e vs) (fun ys s2=>R (.lst ys) s2) (ds.drop i) acc s',
  ⟨_,F1,s1,[],[],Nat.zero_le _,rfl,Nat.le_refl _,hb,xb,upd_same,ob, .nil,q1⟩, ?_⟩
 rintro i m H2 ⟨F2,s2,acc,aD,hle,rfl,hacc,hh2,x2,h2,o2,ra,q2⟩
 obtain⟨hstop,hgo⟩:=it F2 s2 H2 x2.same hh2
 by_cases hi:i<ds.length
 ·obtain⟨go,hy⟩:=hgo i ds[i] (List.getElem?_eq_getElem hi)
  rw[List.drop_eq_getElem_cons hi]at q2
  refine .inr ⟨go,fun H'=> ∃F' s' acc aD,acc.length≤i+1∧Hold X.K T F' s' H'∧Ext F1 s1 H1 F' s' H'∧H' Dl=some (.lst aD)∧ ¬own F' s' H' Dl∧Qw X.K T F' acc aD∧DR g t f (Jk e vs) (fun ys s2=>R (.lst ys) s2) (ds.drop (i+1)) acc s',
   fun H' ⟨F',s',acc,aD,a1,a2,a3,a4,a5,a6,a7⟩=>⟨_,by omega,F',s',acc,aD,by omega,rfl,a1,a2,a3,a4,a5,a6,a7⟩,fun v H3 y=> ?_⟩
  obtain⟨F3,x3,hh3,r3⟩:=hy v H3 y
  refine⟨F3,_,Jk e vs,s2,_,r3,((he.mono x1.same).mono (x2.same.trans x3.same)).wipe vs,hh3,q2,fun e4 s4 σ4 H4 F4 q4 x4 hh4 he4 w4=>⟨by rw[w4,ZcE], ?_⟩⟩
  refine⟨F4,e4,s4,_,_,he4,hh4,pZ,q4,fun b s5 H5 F5 q5 x5 hh5=> ?_⟩
  have xx:=((x2.trans x3).trans x4).trans x5
  obtain⟨h5,o5⟩:=((x3.trans x4).trans x5).keep h2 o2
  have ra5:=ra.mono ((x3.trans x4).trans x5).same
  cases b with
  |false=>exact⟨F5,s5,acc,aD,by omega,hh5,xx,h5,o5,ra5,q5⟩
  |true=>
   refine⟨F5,e4,s5,_,_,he4.mono x5.same,hh5,pZ,q5,fun d s6 w H6 F6 q6 x6 hh6 r6=> ?_⟩
   obtain⟨h6,o6⟩:=x6.keep h5 o5
   have ra6:=ra5.mono x6.same
   refine⟨aD,h6,by rw[←ra6.length];omega, ?_⟩
   obtain⟨g1,g2⟩:=hh6.grow (ys:=aD++[w]) h6 o6
   exact⟨F6,s6,acc++[d],aD++[w],by rw[List.length_append];show acc.length+1≤i+1;omega,g1,(xx.trans x6).grow nD o6,upd_same,g2,ra6.append (.cons r6 .nil),q6⟩
 ·have hn:ds.length≤i:=by omega
  rw[List.drop_eq_nil_of_le hn]at q2
  refine .inl ⟨hstop i hn, ?_⟩
  have a1:=hh2.adopt h2 o2
  have a2:=x2.adopt (hh1.fresh nD) nD o2 (o:= .lst aD)
  exact post _ s2 _ H2 _ q2 (x1.trans a2) a1 (.lst upd_same (ra.mono (JM (Ze0 o2))))
theorem Zug{elt tg iter:Expr}{ifs:List Expr}{scope:Scope}{own:List (Str×Nat)}{f0:Arg}{t:Xp}{f:Exp}(hc:X.calm=true)(hN:X.N.Nodup)(hi:DI X T W tg iter f0)(ok:BlkOk X.N X.env.scope scope own)
  (hg:Gj X scope fun Y=>Zbc Y T (own.map (·.2)) tg g) (ht:Gj X scope fun Y=>DTs Y T wF ifs t) (he:Gj X scope fun Y=>DX Y T wF elt f) (hs: ∀x,foldedSetIterable iter X.env x=pure x:=by intro _;rfl):
  DX X T W (.ListComp elt [⟨tg,iter,ifs,0⟩] scope pos) (Ad f0 g t f (own.map (·.2))):=
 ⟨Yj (pe_lc hc hN hi.pi ok (fun s H C cl fp=>(hg s H C cl fp).pg) (fun s H C cl fp=>(ht s H C cl fp).pts) (fun s H C cl fp=>(he s H C cl fp).pe) hs) fun σ H Q h=>Zjv h⟩
theorem Zne{i:Nat}{y:Str}{py spos:Pos}{elt tg iter:Expr}{ifs:List Expr}{scope:Scope}{own:List (Str×Nat)}{f0:Arg}{t:Xp}{f:Exp}(hc:X.calm=true)(hN:X.N.Nodup)(hy:X.N[i]? =some y)(hyl:X.env.scope.names.lookup y=some .local)
  (hsw:swapsWith (.ListComp elt [⟨tg,iter,ifs,0⟩] scope pos) (some (.Name y py)) spos.line X.env=pure true) (hi:DI X T W tg iter f0) (ok:BlkOk X.N X.env.scope scope own)
  (hg:Gj X scope fun Y=>Zbc Y T (own.map (·.2)) tg g) (ht:Gj X scope fun Y=>DTs Y T wF ifs t) (he:Gj X scope fun Y=>DX Y T wF elt f) (hs: ∀x,foldedSetIterable iter X.env x=pure x:=by intro _;rfl):
  DS X T W (.Assign [.Name y py] (.ListComp elt [⟨tg,iter,ifs,0⟩] scope pos) spos) (Jo i (Ad f0 g t f (own.map (·.2)))):=
 ⟨Ld (ps_setLc hc hN hy hyl hsw hi.pi ok (fun s H C cl fp=>(hg s H C cl fp).pg) (fun s H C cl fp=>(ht s H C cl fp).pts) (fun s H C cl fp=>(he s H C cl fp).pe) hs) fun Q σ H h=>by
   obtain⟨F,e,s,D,he,hh,ht,p⟩:=h
   exact Zjv (W:=W) ⟨F,e,s,_,_,he,hh,p.uV he,ht,fun d s1 v H1 F1 q x1 hh1 r=>p.nx _ s1 _ H1 F1 q x1 hh1 ((he.mono x1.same).set r i)⟩⟩
end
end Bk
namespace Bk
open PySem PySem.Spec PyProof.Rows L2
abbrev Fn:=List D→S→Q1→XQ→Prop
def Bs(K:PySem.W.Frag)(T:Tb)(n:Nat)(phi:Fn):Sp:=fun vs H Q E=> ∃(F:Hp) (s:S) (ds:List D) (R:Q1) (EE:XQ),ds.length=n∧Qw K T F ds vs∧Hold K T F s H∧
 (∀x s' cls dx H' F',EE x s'→Ext F s H F' s' H'→Hold K T F' s' H'→ZlH K T F' x cls dx H'→E cls dx H')∧phi ds s R EE∧Post K T F s H R Q
structure GFn(P:Program)(w:World)(K:PySem.W.Frag)(mg:Str→Option Value)(base:Heap)(k:Nat)(f:Addr)(fd:FuncData)(ps:List Str)(sp:Sp):Prop where
 len: ∀vs H Q E,sp vs H Q E→vs.length=ps.length
 run: ∀(A:Around) (outer:List Env) (s:Shared) (H:Hp) (args:Args) (us:List Value) (vs:List V) (Q:VK) (E:XK),Room k A→A.guards=some []→Env0 P w K mg base A outer s H→BindsTo s fd args (ps.zip us)→Vals vs us→sp vs H Q E→
  codeAny (model P w) A (.call (.ref f) args) (CR (L2.CX P w) outer P w H s Q E) s
theorem GFn.mono{P:Program}{w:World}{K:PySem.W.Frag}{mg:Str→Option Value}{base:Heap}{j k:Nat}{f:Addr}{fd:FuncData}{ps:List Str}{sp:Sp}(F:GFn P w K mg base j f fd ps sp)(h:j≤k):GFn P w K mg base k f fd ps sp:=
 ⟨F.len,fun A outer s H args us vs Q E hr=>F.run A outer s H args us vs Q E (hr.mono h)⟩
theorem GFn.imp{P:Program}{w:World}{K:PySem.W.Frag}{mg:Str→Option Value}{base:Heap}{k:Nat}{f:Addr}{fd:FuncData}{ps:List Str}{sp sp':Sp}(F:GFn P w K mg base k f fd ps sp)(h: ∀vs H Q E,sp' vs H Q E→sp vs H Q E):GFn P w K mg base k f fd ps sp':=
 ⟨fun vs H Q E q=>F.len vs H Q E (h _ _ _ _ q),fun A outer s H args us vs Q E hr hg he hb hv hs=>F.run A outer s H args us vs Q E hr hg he hb hv (h _ _ _ _ hs)⟩
section
variable{P:Program}{w:World}{K:PySem.W.Frag}{mg:Str→Option Value}{base:Heap}
structure fK(X:Cx)(W:WX)(k:Nat):Prop where
 room:Room k X.A
 grd:X.A.guards=some []
 tk:Takes X W
 own:PassesOwn (model X.prog X.w) X.A X.env X.xe
def XF(E:XK):WX:=fun cls d _ H=>E cls d H
def ZC(N:List Str)(ds:List D):Zq:=ds.map some++List.replicate (N.length-ds.length) none
theorem ZcF{K:PySem.W.Frag}{T:Tb}{F:Hp}: ∀n:Nat,Jz K T F (List.replicate n none) (List.replicate n none)
 |0=> .nil
 |n+1=> .none (ZcF n)
theorem ZcG{K:PySem.W.Frag}{T:Tb}{F:Hp}{e:Zq}{σ:L2.St}(h:Jz K T F e σ): ∀{ds:List D} {vs:List V},Qw K T F ds vs→Jz K T F (ds.map some++e) (vs.map some++σ)
 |_,_, .nil=>h
 |_,_, .cons r rs=> .some r (ZcG h rs)
theorem sO{K:PySem.W.Frag}{T:Tb}{F:Hp}{N:List Str}{ds:List D}{vs:List V}(h:Qw K T F ds vs):Jz K T F (ZC N ds) (L2.start N vs):=by
 unfold ZC L2.start
 rw[←h.length]
 exact ZcG (ZcF _) h
def Qx(R:Q1)(E:XQ):Ru where
 nx:=fun _ s'=> ∃s2,Sub s2 s'∧R .non s2
 rt:=fun d s'=> ∃s2,Sub s2 s'∧R d s2
 ex:=fun x _ s'=> ∃s2,Sub s2 s'∧E x s2
variable{T:Tb}
theorem gfn_of{x qual:Str}{st:Stmt}{f:Addr}{fd:FuncData}{N ps:List Str}{k:Nat}{phi:Fn}{t:Yh}(F:Fun K x qual st f fd)(S:FnScope N ps (defScope st))
  (hb: ∀(cdv:Value) (A:Around) (outer:List Env) (s:Shared) (H:Hp) (E:XK),fK (cxOf (L2.CX P w) P w K mg base N qual (defScope st) f cdv A outer s H E) (XF E) k→
    qM (cxOf (L2.CX P w) P w K mg base N qual (defScope st) f cdv A outer s H E) T (XF E) (defBody st) t)
  (Zks: ∀ds s R E,ds.length=ps.length→phi ds s R E→t (Qx R E) (ZC N ds) s):GFn P w K mg base (k+1) f fd ps (Bs K T ps.length phi):=by
 obtain⟨oc,od,kV,doc,pm,an,cdv,ct,osl,rfl,lk,hcd⟩:=F.ex
 refine⟨fun vs H Q E ⟨_,_,ds,_,_,hl,rs,_⟩=>by rw[←rs.length];exact hl,fun A outer s H args us vs Q E hr hg e0 hbd hv hs=> ?_⟩
 obtain⟨FF,s0,ds,R,EE,hl,rs,hh,hx,hp,post⟩:=hs
 have hlv:vs.length=ps.length:=by rw[←rs.length];exact hl
 refine LamX.run_ofS lk hcd S hr e0 hbd hv hlv fun hr'=> ?_
 have B:fK (cxOf (L2.CX P w) P w K mg base N qual (defScope st) f cdv A outer s H E) (XF E) k:=⟨hr',hg,takes_of rfl rfl rfl rfl,passes_of rfl⟩
 refine⟨_,(hb cdv A outer s H E B).pss,FF,ZC N ds,s0,Qx R EE,sO rs,hh,Zks ds s0 R EE hl hp,⟨?_, ?_, ?_, ?_, ?_⟩⟩
 ·rintro e' s' σ' H' F' ⟨s2,hs2,q⟩ x1 hh1 _
  exact post .non s2 .non H' F' q (x1.weak hs2) (hh1.weak hs2) .non
 ·rintro d s' v H' F' ⟨s2,hs2,q⟩ x1 hh1 r
  exact post d s2 v H' F' q (x1.weak hs2) (hh1.weak hs2) r
 ·intro _ _ _ _ _ q;exact q.elim
 ·intro _ _ _ _ _ q;exact q.elim
 ·rintro x e' s' cls dx σ' H' F' ⟨s2,hs2,q⟩ x1 hh1 _ r
  exact hx x s2 cls dx H' F' q (x1.weak hs2) (hh1.weak hs2) r
end
section
variable{X:Cx}{T:Tb}{W:WX}{k:Nat}{f:Addr}{fd:FuncData}{ps:List Str}{x:Str}{a:Expr}{es:List Expr}{r:Arg}{n:Nat}{phi:Fn}{p pos:Pos}
theorem Zuh{sp:Sp}{dvs:List V}{dfs:List Value}{pins:List (Addr×Obj)}{σ:L2.St}{H:Hp}{s:Shared}{Q:VK}{us:List Value}{vs:List V}(G:GFn X.prog X.w X.K X.mg X.base k f fd ps sp)(hr:Room k X.A)(hg:X.A.guards=some [])(tk:Takes X W)
  (hb:Binds X.K fd ps dfs) (hd:Vals dvs dfs) (I:Inv X pins σ H s) (rv:Vals vs us) (h:sp (vs++dvs) H Q (fun c d H'=>W c d σ H')):wpAny (model X.prog X.w) X.A (call (.ref f) us) (EP X pins σ Q) X.xe s:=by
 have r2:Vals (vs++dvs) (us++dfs):=rv.append hd
 have hl:(us++dfs).length=ps.length:=by rw[←r2.length];exact G.len _ _ _ _ h
 refine wpAny_call (codeAny_mono (G.run X.A X.stack s H ⟨us,[]⟩ (us++dfs) (vs++dvs) Q _ hr hg I.env0 (hb s us I.kIn hl) r2 h) fun res s' hq=> ?_)
 cases res with
 |error e=>exact tk e s' (XE.of_call I (fun _ _ _ q=>q) hq)
 |ok fl=>
  cases fl with
  |ret u=>exact I.after hq
  |next=>exact False.elim hq
  |brk=>exact False.elim hq
  |cont=>exact False.elim hq
def dCall(n:Nat)(phi:Fn)(r:Arg):Exp:=fun e s R E=>r e s (fun ds s1=>ds.length=n∧phi ds s1 R E) E
theorem wV(G:GFn X.prog X.w X.K X.mg X.base k f fd ps (Bs X.K T n phi))(hr:Room k X.A)(hgd:X.A.guards=some [])(tk:Takes X W)(hg:Gl X x)(hm:X.mg x=some (.ref f))(hk:PySem.W.keepIn X.K (.ref f)=true)(hb:Binds X.K fd ps [])(ha:DA X T W (a::es) r)
  (hdb:(x==("__debug__" :Str))=false:=by decide) (he:starEach (a::es) X.env=(false,eval a X.env)::starEach es X.env:=by rfl) (hpl:(backTo pos (starEach es X.env)).any (·.1)=false:=by rfl):
  DX X T W (.Call (.Name x p) (a::es) [] pos) (dCall n phi r):=⟨⟨fun pins s σ H Q I hq=>by
 obtain⟨F,e,s0,R,E,he',hh,hx,hf,post⟩:=hq
 refine wpAny_Call_Name_kw (ld_glob I hg hm ?_ hdb)
 refine PySem.W.callWith_K (h₀:=X.base) I.ok.mod.kin hk (thn (ha.pa.run pos pins s σ H (fun vs H1=>Bs X.K T n phi vs H1 Q (fun c d H'=>W c d σ H')) I ⟨F,e,s0,_,E,he',hh,hx,hf,fun ds s1 vs H1 F1 q x1 hh1 rs=>
  ⟨F1,s1,ds,R,E,q.1,rs,hh1,hx.mono x1,q.2,post.mono x1⟩⟩) fun us s1 ⟨vs,H1,I1,rv,q⟩=>⟨I1.kIn, ?_⟩) he hpl
 exact Zuh (dvs:=[]) (dfs:=[]) G hr hgd tk hb .nil I1 rv (by rw[List.append_nil];exact q)⟩⟩
theorem aF{s:Shared}{H:Hp}{scope:Scope}{cenv:Env}{fp:List Addr}:Takes (X.blk s H scope cenv fp) wF:=LamX.takes0
end
end Bk
namespace Bk
open PySem PySem.Spec PyProof.Rows L2
mutual
def D.py:D→PyData
 | .non=> .none
 | .bl b=> .bool b
 | .int i=> .int i
 | .str x=> .str x
 | .lst xs=> .list (D.Gi xs)
 | .tup xs=> .tuple (D.Gi xs)
 | .ju xs=> .tuple (D.Gi xs)
 | .U0 []=> .dict []
 | .U0 (_::_)=> .none
 | .rf _=> .none
 | .U7 _=> .none
 | .exc _ _=> .none
 | .obj _ _=> .none
 | .clo _ _ _=> .none
 | .cls _=> .none
 | .j5 _=> .none
def D.Gi:List D→List PyData
 |[]=>[]
 |x::xs=>x.py::D.Gi xs
end
mutual
def D.pl:D→Bool
 | .non| .bl _| .int _| .str _=>true
 | .lst xs| .tup xs| .ju xs=>D.pls xs
 | .U0 _| .rf _| .U7 _| .exc _ _| .obj _ _| .clo _ _ _| .cls _| .j5 _=>false
def D.pls:List D→Bool
 |[]=>true
 |x::xs=>x.pl&&D.pls xs
end
theorem D.Zjx: ∀xs:List D,D.Gi xs=xs.map D.py
 |[]=>by rw[D.Gi];rfl
 |x::xs=>by rw[D.Gi,D.Zjx xs];rfl
section
variable{K:PySem.W.Frag}{T:Tb}{F H:Hp}
mutual
theorem Oa(e:Same F H): ∀{d:D} {v:V},Rep K T F d v→d.pl=true→Dp K H v d.py
 |_,_, .non,_=>by rw[D.py];exact .non
 |_,_, .bl b,_=>by rw[D.py];exact .bl b
 |_,_, .int i,_=>by rw[D.py];exact .int i
 |_,_, .str x,_=>by rw[D.py];exact .str x
 |_,_, .lst h r,p=>by rw[D.py];exact .lst (cH h e) (o9 e r (by rwa[D.pl]at p))
 |_,_, .tup h r,p=>by rw[D.py];exact .tup (Yu e h) (o9 e r (by rwa[D.pl]at p))
 |_,_, .ju h hd r,p=>by rw[D.py];exact .tup (.inl (.inr ⟨_,e _ _ h⟩)) (o9 e r (by rwa[D.pl]at p))
 |_,_, .U0 h r,p=>by rw[D.pl]at p;cases p
 |_,_, .rf v,p=>by rw[D.pl]at p;cases p
 |_,_, .U7 h,p=>by rw[D.pl]at p;cases p
 |_,_, .exc h h2 r,p=>by rw[D.pl]at p;cases p
 |_,_, .obj h r,p=>by rw[D.pl]at p;cases p
 |_,_, .clo f r,p=>by rw[D.pl]at p;cases p
 |_,_, .cls _,p=>by rw[D.pl]at p;cases p
 |_,_, .j5 h r,p=>by rw[D.pl]at p;cases p
theorem o9(e:Same F H): ∀{ds:List D} {vs:List V},Qw K T F ds vs→D.pls ds=true→DpAll K H vs (D.Gi ds)
 |_,_, .nil,_=>by rw[D.Gi];exact .nil
 |_,_, .cons h r,p=>by
  rw[D.pls,Bool.and_eq_true]at p
  rw[D.Gi]
  exact .cons (Oa e h p.1) (o9 e r p.2)
end
end
def D.YF(d:D):Bool:=d.pl&&SeqAt.shaped d.py
def D.eqb(x y:D):Bool:=PyData.eqv x.py y.py
section
variable{X:Cx}{T:Tb}
theorem IV.of{f:Value→Value→Sem Value}{g:G2}{r:R2}(h:OpR X f r)(k: ∀F s H x y vx vy R Q,Hold X.K T F s H→Rep X.K T F x vx→Rep X.K T F y vy→g x y s R→Post X.K T F s H R Q→r vx vy H Q):IV X T f g:=⟨r,h,k⟩
def ZcH(g:Int→Int→D):G2:=fun x y s R=>match x,y with
 | .int i, .int j=>R (g i j) s
 |_,_=>False
def Zem(c:Int→Int→Prop)(g:Int→Int→D):G2:=fun x y s R=>match x,y with
 | .int i, .int j=>c i j∧R (g i j) s
 |_,_=>False
theorem yg{f:Value→Value→Sem Value}{g:Int→Int→V}{gd:Int→Int→D}(h:OpR X f (rI0 g))(r: ∀K F i j,Rep K T F (gd i j) (g i j)):IV X T f (ZcH gd):= .of h fun F s H x y vx vy R Q hh rx ry hg post=>by
 unfold ZcH at hg
 split at hg
 ·cases rx;cases ry
  exact⟨_,_,rfl,rfl,post _ s _ H F hg Ext.refl hh (r _ _ _ _)⟩
 ·exact hg.elim
theorem ZgV{f:Value→Value→Sem Value}{c:Int→Int→Prop}{g:Int→Int→V}{gd:Int→Int→D}(h:OpR X f (rI c g))(r: ∀K F i j,Rep K T F (gd i j) (g i j)):IV X T f (Zem c gd):= .of h fun F s H x y vx vy R Q hh rx ry hg post=>by
 unfold Zem at hg
 split at hg
 ·cases rx;cases ry
  exact⟨_,_,rfl,rfl,hg.1,post _ s _ H F hg.2 Ext.refl hh (r _ _ _ _)⟩
 ·exact hg.elim
abbrev ZhR:G2:=ZcH fun i j=> .int (i-j)
abbrev oDiv:G2:=Zem CDiv fun i j=> .int (i/j)
abbrev oMod:G2:=Zem (fun _ j=>0<j) fun i j=> .int (i % j)
abbrev Ztb:G2:=Zem CPow fun i j=> .int (i^j.toNat)
abbrev oLt:G2:=ZcH fun i j=> .bl (decide (i<j))
abbrev oLe:G2:=ZcH fun i j=> .bl (decide (i≤j))
abbrev oGt:G2:=ZcH fun i j=> .bl (decide (j<i))
abbrev oGe:G2:=ZcH fun i j=> .bl (decide (j≤i))
theorem yh:IV X T (binaryOp .Sub) ZhR:=yg op_sub fun _ _ _ _=> .int _
theorem ZgW:IV X T (binaryOp .FloorDiv) oDiv:=ZgV op_fdiv fun _ _ _ _=> .int _
theorem qO:IV X T (binaryOp .Mod) oMod:=ZgV op_mod fun _ _ _ _=> .int _
theorem ZrC:IV X T (binaryOp .Pow) Ztb:=ZgV op_pow fun _ _ _ _=> .int _
theorem K9:IV X T (compareOp .Lt) oLt:=yg op_lt fun _ _ _ _=> .bl _
theorem Ae:IV X T (compareOp .LtE) oLe:=yg op_le fun _ _ _ _=> .bl _
theorem wj:IV X T (compareOp .Gt) oGt:=yg op_gt fun _ _ _ _=> .bl _
theorem Zui:IV X T (compareOp .GtE) oGe:=yg op_ge fun _ _ _ _=> .bl _
def Ml:G1:=fun x s R=>match x with
 | .int i=>R (.int (-i)) s
 |_=>False
theorem G5:UnD X T (unaryOp .USub) Ml:=⟨_,un_neg,fun F s H x vx R Q hh rx hg post=>by
 unfold Ml at hg
 split at hg
 ·cases rx
  exact⟨_,rfl,post _ s _ H F hg Ext.refl hh (.int _)⟩
 ·exact hg.elim⟩
def JN:G2:=fun x y s R=>match x,y with
 | .int i, .int j=>R (.int (i+j)) s
 | .str a, .str b=>a.length+b.length≤sizeLine∧R (.str (a++b)) s
 | .lst xs, .lst ys=>xs.length+ys.length≤sizeLine∧R (.lst (xs++ys)) s
 | .tup xs, .tup ys=>xs.length+ys.length≤sizeLine∧R (.tup (xs++ys)) s
 |_,_=>False
theorem Qy:IV X T (binaryOp .Add) JN:= .of (op_add.or (op_add_str.or (op_cat.or op_catA))) fun F s H x y vx vy R Q hh rx ry hg post=>by
 unfold JN at hg
 split at hg
 ·cases rx;cases ry
  exact .inl ⟨_,_,rfl,rfl,post _ s _ H F hg Ext.refl hh (.int _)⟩
 ·cases rx;cases ry
  exact .inr (.inl ⟨_,_,rfl,rfl,hg.1,post _ s _ H F hg.2 Ext.refl hh (.str _)⟩)
 ·cases rx with|lst l1 r1=>cases ry with|lst l2 r2=>
   refine .inr (.inr (.inl ⟨_,_,_,_,rfl,rfl,hh.sub _ _ l1,hh.sub _ _ l2,by rw[←r1.length,←r2.length];exact hg.1,fun p np=> ?_⟩))
   obtain⟨h1,h2,h3⟩:=hh.ZeY np (r1.append r2)
   exact post _ s _ _ _ hg.2 h2 h1 h3
 ·cases rx with|tup l1 r1=>cases ry with|tup l2 r2=>
   refine .inr (.inr (.inr ⟨_,_,_,_,rfl,rfl,Yu hh.sub l1,Yu hh.sub l2,by rw[←r1.length,←r2.length];exact hg.1,fun e=> ?_,fun _ e=> ?_,fun _ _ p np=> ?_⟩))
   ·subst e
    cases r1
    exact post _ s _ H F hg.2 Ext.refl hh (.tup l2 r2)
   ·subst e
    cases r2
    rw[List.append_nil]at hg
    exact post _ s _ H F hg.2 Ext.refl hh (.tup l1 r1)
   ·obtain⟨h1,h2,h3⟩:=hh.frzT np (r1.append r2)
    exact post _ s _ _ _ hg.2 h2 h1 h3
 ·exact hg.elim
def oEq:G2:=fun x y s R=>(x.YF=true∧y.YF=true)∧R (.bl (x.eqb y)) s
def uW:G2:=fun x y s R=>(x.YF=true∧y.YF=true)∧R (.bl (!x.eqb y)) s
theorem Yk{d:D}(h:d.YF=true):d.pl=true∧SeqAt.shaped d.py=true:=Bool.and_eq_true_iff.mp h
theorem Vz(hu:X.A.units+64<cLine):IV X T (compareOp .Eq) oEq:= .of (op_eqD hu) fun F s H x y vx vy R Q hh rx ry hg post=>by
 obtain⟨⟨h1,h2⟩,q⟩:=hg
 exact⟨_,_,Oa hh.sub rx (Yk h1).1,Oa hh.sub ry (Yk h2).1,(Yk h1).2,(Yk h2).2,post _ s _ H F q Ext.refl hh (.bl _)⟩
theorem XH(hu:X.A.units+64<cLine):IV X T (compareOp .NotEq) uW:= .of (op_neD hu) fun F s H x y vx vy R Q hh rx ry hg post=>by
 obtain⟨⟨h1,h2⟩,q⟩:=hg
 exact⟨_,_,Oa hh.sub rx (Yk h1).1,Oa hh.sub ry (Yk h2).1,(Yk h1).2,(Yk h2).2,post _ s _ H F q Ext.refl hh (.bl _)⟩
def Ztc(K:PySem.W.Frag)(neg:Bool):R2:=fun x y H Q=> ∃d ds,Dp K H x d∧Dp K H y (.tuple ds)∧SeqAt.shaped d=true∧SeqAt.shaped (.tuple ds)=true∧Q (.bl (if neg then !(ds.any fun z=>PyData.eqv z d)else ds.any fun z=>PyData.eqv z d)) H
theorem ZrD(hu:X.A.units+65<cLine):OpR X (compareOp .In) (Ztc X.K false):=by
 intro pins s σ H x y v u Q I rx ry h
 obtain⟨d,ds,hd,he,sd,se,q⟩:=h
 obtain⟨as,r1⟩:=Dp.reads I d x v hd rx
 obtain⟨bs,r2⟩:=Dp.reads I (.tuple ds) y u he ry
 exact SeqAt.in_tuple_reads r2 r1 (SeqAt.canLay_of_shaped se) (SeqAt.canLay_of_shaped sd) (room_in_shaped sd hu) ⟨.bl _,H,I,rfl,q⟩
theorem Zkt(hu:X.A.units+65<cLine):OpR X (compareOp .NotIn) (Ztc X.K true):=by
 intro pins s σ H x y v u Q I rx ry h
 obtain⟨d,ds,hd,he,sd,se,q⟩:=h
 obtain⟨as,r1⟩:=Dp.reads I d x v hd rx
 obtain⟨bs,r2⟩:=Dp.reads I (.tuple ds) y u he ry
 exact SeqAt.notIn_tuple_reads r2 r1 (SeqAt.canLay_of_shaped se) (SeqAt.canLay_of_shaped sd) (room_in_shaped sd hu) ⟨.bl _,H,I,rfl,q⟩
def isIn(x:D)(ds:List D):Bool:=ds.any fun z=>z.eqb x
theorem wW(x:D)(ds:List D):(D.Gi ds).any (fun z=>PyData.eqv z x.py)=isIn x ds:=by
 rw[D.Zjx,List.any_map];rfl
def sS(neg:Bool):G2:=fun x y s R=>match y with
 | .lst ds=>(x.YF=true∧(D.lst ds).YF=true)∧R (.bl (if neg then !isIn x ds else isIn x ds)) s
 | .tup ds=>(x.YF=true∧(D.tup ds).YF=true)∧R (.bl (if neg then !isIn x ds else isIn x ds)) s
 | .str t=>match x with
   | .str a=>R (.bl (if neg then !(!(Builtin.Str.occurrences t a 0 t.length 1).isEmpty)else !(Builtin.Str.occurrences t a 0 t.length 1).isEmpty)) s
   |_=>False
 |_=>False
theorem wz(hu:X.A.units+65<cLine):IV X T (compareOp .In) (sS false):= .of ((op_inD hu).or ((ZrD hu).or op_in_str)) fun F s H x y vx vy R Q hh rx ry hg post=>by
 unfold sS at hg
 split at hg
 ·obtain⟨⟨h1,h2⟩,q⟩:=hg
  have e:=Yk h2
  have dp:=Oa hh.sub ry e.1
  rw[D.py]at dp e
  refine .inl ⟨_,_,Oa hh.sub rx (Yk h1).1,dp,(Yk h1).2,e.2, ?_⟩
  rw[wW]
  exact post _ s _ H F q Ext.refl hh (.bl _)
 ·obtain⟨⟨h1,h2⟩,q⟩:=hg
  have e:=Yk h2
  have dp:=Oa hh.sub ry e.1
  rw[D.py]at dp e
  refine .inr (.inl ⟨_,_,Oa hh.sub rx (Yk h1).1,dp,(Yk h1).2,e.2, ?_⟩)
  rw[wW]
  exact post _ s _ H F q Ext.refl hh (.bl _)
 ·split at hg
  ·cases rx;cases ry
   exact .inr (.inr ⟨_,_,rfl,rfl,post _ s _ H F hg Ext.refl hh (.bl _)⟩)
  ·exact hg.elim
 ·exact hg.elim
theorem Rv(hu:X.A.units+65<cLine):IV X T (compareOp .NotIn) (sS true):= .of ((op_notInD hu).or ((Zkt hu).or op_notIn_str)) fun F s H x y vx vy R Q hh rx ry hg post=>by
 unfold sS at hg
 split at hg
 ·obtain⟨⟨h1,h2⟩,q⟩:=hg
  have e:=Yk h2
  have dp:=Oa hh.sub ry e.1
  rw[D.py]at dp e
  refine .inl ⟨_,_,Oa hh.sub rx (Yk h1).1,dp,(Yk h1).2,e.2, ?_⟩
  rw[wW]
  exact post _ s _ H F q Ext.refl hh (.bl _)
 ·obtain⟨⟨h1,h2⟩,q⟩:=hg
  have e:=Yk h2
  have dp:=Oa hh.sub ry e.1
  rw[D.py]at dp e
  refine .inr (.inl ⟨_,_,Oa hh.sub rx (Yk h1).1,dp,(Yk h1).2,e.2, ?_⟩)
  rw[if_pos rfl,wW]
  exact post _ s _ H F q Ext.refl hh (.bl _)
 ·split at hg
  ·cases rx;cases ry
   exact .inr (.inr ⟨_,_,rfl,rfl,post _ s _ H F hg Ext.refl hh (.bl _)⟩)
  ·exact hg.elim
 ·exact hg.elim
def RM(neg:Bool):G2:=fun x y s R=>match x,y with
 | .non, .non=>R (.bl (!neg)) s
 | .bl _, .non| .int _, .non| .str _, .non| .lst _, .non| .tup _, .non| .U0 _, .non| .exc _ _, .non| .j5 _, .non=>R (.bl neg) s
 | .rf v, .non=>R (.bl (if neg then !decide (v= .non)else decide (v= .non))) s
 |_,_=>False
theorem RN:IV X T (compareOp .Is) (RM false):= .of op_isN fun F s H x y vx vy R Q hh rx ry hg post=>by
 unfold RM at hg
 split at hg<;>first
  |exact hg.elim
  |(cases rx;cases ry;exact⟨rfl,post _ s _ H F hg Ext.refl hh (.bl _)⟩)
theorem Zph:IV X T (compareOp .IsNot) (RM true):= .of op_notN fun F s H x y vx vy R Q hh rx ry hg post=>by
 unfold RM at hg
 split at hg<;>first
  |exact hg.elim
  |(cases rx;cases ry;exact⟨rfl,post _ s _ H F hg Ext.refl hh (.bl _)⟩)
end
end Bk
namespace Bk
open PySem PySem.Spec PyProof.Rows L2
def cJ:D→S→Option (List D)
 | .lst ds,_=>some ds
 | .U7 ns,_=>some (ns.map .int)
 | .rf (.ref p),s=>match s.mu p with
   |some (.ml ds)=>some ds
   |_=>none
 |_,_=>none
def jJ(d:D)(s:S):Option (List D):=match d with
 | .tup ds=>some ds
 |d=>cJ d s
section
variable{X:Cx}{T:Tb}{W:WX}{K:PySem.W.Frag}{F H:Hp}{s:S}
theorem Rep.Zku(hh:Hold K T F s H){d:D}{v:V}{ds:List D}(r:Rep K T F d v)(h:cJ d s=some ds): ∃p xs,v= .ref p∧SqL K H p xs∧Qw K T F ds xs:=by
 cases r with
 |lst l rr=>
  have e:some _=some ds:=h
  cases e
  exact⟨_,_,rfl,cH l hh.sub,rr⟩
 |U7 l=>
  have e:some _=some ds:=h
  cases e
  exact⟨_,_,rfl,hh.sub.seq l,DP⟩
 |rf v=>
  cases v with
  |ref p=>
   have h':(match s.mu p with|some (MO.ml ds)=>some ds|_=>none)=some ds:=h
   cases e:s.mu p with
   |none=>rw[e]at h';cases h'
   |some m=>
    rw[e]at h'
    cases m with
    |ml xs=>
     have e2:some xs=some ds:=h'
     cases e2
     obtain⟨_,vs,hp,rr⟩:=hh.mu _ _ e
     exact⟨_,_,rfl,SqL.of hp,rr⟩
    |mk _=>cases h'
    |mo _ _=>cases h'
    |md _=>cases h'
  |_=>exact(nomatch (show(none:Option (List D))=some ds from h))
 |_=>exact(nomatch (show(none:Option (List D))=some ds from h))
theorem Rep.seq(hh:Hold K T F s H){d:D}{v:V}{ds:List D}(r:Rep K T F d v)(h:jJ d s=some ds): ∃p xs,v= .ref p∧(SqL K H p xs∨SqT K H p xs)∧Qw K T F ds xs:=by
 have go:cJ d s=some ds→ ∃p xs,v= .ref p∧(SqL K H p xs∨SqT K H p xs)∧Qw K T F ds xs:=fun q=>by
  obtain⟨p,xs,e,hq,rr⟩:=r.Zku hh q
  exact⟨p,xs,e, .inl hq,rr⟩
 cases r with
 |tup l rr=>
  have e:some _=some ds:=h
  cases e
  exact⟨_,_,rfl, .inr (Yu hh.sub l),rr⟩
 |_=>exact go h
def IxD(X:Cx)(T:Tb)(g:G2):Prop:= ∃r:R2,IxR X r∧ ∀F s H x y vx vy R Q,Hold X.K T F s H→Rep X.K T F x vx→Rep X.K T F y vy→g x y s R→Post X.K T F s H R Q→r vx vy H Q
theorem Q5{a b:Expr}{fa fb:Exp}{g:G2}{pos:Pos}(hr:IxD X T g)(ha:DX X T W a fa)(hb:DX X T W b fb)(hs:PlainIx b):DX X T W (.Subscript a b pos) (ZG g fa fb):=by
 obtain⟨r,h1,h2⟩:=hr
 exact⟨Yj (pe_ix h1 ha.pe hb.pe hs) fun σ H Q h=>ZhN h2 h⟩
def Ua:G2:=fun x y s R=>match y with
 | .int i=>match x with
   | .str z=>z.length≤sizeLine∧ ∃c,atI z.cps.toList i=some c∧R (.str ⟨#[c]⟩) s
   |x=> ∃ds d,jJ x s=some ds∧atI ds i=some d∧R d s
 |_=>False
theorem Qw.atI: ∀{ds:List D} {vs:List V} {i:Int} {d:D},Qw K T F ds vs→L2.atI ds i=some d→ ∃v,L2.atI vs i=some v∧Rep K T F d v:=fun{ds vs i d} r h=>by
 unfold L2.atI at h⊢
 rw[←r.length]
 cases e:ixN ds.length i with
 |none=>rw[e]at h;cases h
 |some j=>
  rw[e]at h
  exact r.getD h
theorem Z7:IxD X T Ua:=⟨_,ix_seq,fun F s H x y vx vy R Q hh rx ry hg post=>by
 unfold Ua at hg
 split at hg
 ·rename_i i
  cases ry
  split at hg
  ·cases rx
   obtain⟨h1,c,h2,q⟩:=hg
   exact .inr (.inr ⟨_,_,c,rfl,rfl,h1,h2,post _ s _ H F q Ext.refl hh (.str _)⟩)
  ·obtain⟨ds,d,h1,h2,q⟩:=hg
   obtain⟨p,xs,rfl,hq,rr⟩:=rx.seq hh h1
   obtain⟨v,h3,rv⟩:=rr.atI h2
   have e:=post d s v H F q Ext.refl hh rv
   rcases hq with hq|hq
   ·exact .inl ⟨_,_,_,_,rfl,rfl,hq,h3,e⟩
   ·exact .inr (.inl ⟨_,_,_,_,rfl,rfl,hq,h3,e⟩)
 ·exact hg.elim⟩
abbrev Prt:=Zq→S→(Option Int→S→Prop)→XQ→Prop
structure DPO(X:Cx)(T:Tb)(W:WX)(e:Option Expr)(f:Prt):Prop where
 po:PO X e (fun σ H Q=> ∃(F:Hp) (e:Zq) (s:S) (R:Option Int→S→Prop) (E:XQ),Jz X.K T F e σ∧Hold X.K T F s H∧XOk X.K T W F s H E σ∧f e s R E∧ ∀o s' H' F',R o s'→Ext F s H F' s' H'→Hold X.K T F' s' H'→Q o H')
def Jj:Prt:=fun _ s R _=>R none s
def Vg(f:Exp):Prt:=fun e s R E=>f e s (fun d s1=>match d with
 | .int i=>R (some i) s1
 |_=>False) E
theorem Q7:DPO X T W none Jj:=⟨⟨fun pins s σ H Q I ⟨F,e,s0,R,E,he,hh,hx,hf,k⟩=>po_none.run pins s σ H Q I (k none s0 H F hf Ext.refl hh)⟩⟩
theorem Q8{a:Expr}{fa:Exp}(h:DX X T W a fa):DPO X T W (some a) (Vg fa):=⟨⟨fun pins s σ H Q I ⟨F,e,s0,R,E,he,hh,hx,hf,k⟩=>(po_some h.pe).run pins s σ H Q I ⟨F,e,s0,_,E,he,hh,hx,hf,fun d s1 v H1 F1 q x hh1 r=>by
 split at q
 ·cases r;exact⟨_,rfl,k _ s1 H1 F1 q x hh1⟩
 ·exact q.elim⟩⟩⟩
def cutD(xs:List D)(lo hi:Option Int):List D:=(xs.drop (HT.sIx xs.length 0 lo)).take (HT.sIx xs.length xs.length hi-HT.sIx xs.length 0 lo)
theorem Qw.cut{ds:List D}{vs:List V}(r:Qw K T F ds vs)(lo hi:Option Int):Qw K T F (cutD ds lo hi) (cutV vs lo hi):=by
 unfold cutD cutV
 rw[r.length]
 exact(r.drop _).take _
def oSl(x:D)(lo hi:Option Int)(s:S)(R:Q1):Prop:=match x with
 | .str z=>z.length≤sizeLine∧R (.str (cutS z lo hi)) s
 | .tup ds=>R (.tup (cutD ds lo hi)) s
 |x=> ∃ds,cJ x s=some ds∧R (.lst (cutD ds lo hi)) s
def Ke(f:Exp)(l h:Prt):Exp:=fun e s R E=>f e s (fun d s1=>l e s1 (fun lo s2=>h e s2 (fun hi s3=>oSl d lo hi s3 R) E) E) E
theorem Zim{xs:List D}{lo hi:Option Int}(h:HT.sIx xs.length 0 lo=0∧HT.sIx xs.length xs.length hi=xs.length):cutD xs lo hi=xs:=by
 unfold cutD
 rw[h.1,h.2]
 simp
theorem Jb{a:Expr}{fa:Exp}{lo hi:Option Expr}{l h:Prt}{p2 pos:Pos}(ha:DX X T W a fa)(hl:DPO X T W lo l)(hh:DPO X T W hi h):DX X T W (.Subscript a (.Slice lo hi none p2) pos) (Ke fa l h):=⟨Yj (pe_slice (sl_str.or (sl_list.or sl_tupA)) ha.pe hl.po hh.po) fun σ H Q hq=>by
 obtain⟨F,e,s,R,E,he,hd,hx,hf,post⟩:=hq
 refine⟨F,e,s,_,E,he,hd,hx,hf,fun d s1 v H1 F1 q1 x1 hd1 r1=>⟨F1,e,s1,_,E,he.mono x1.same,hd1,hx.mono x1,q1,fun o1 s2 H2 F2 q2 x2 hd2=>⟨F2,e,s2,_,E,(he.mono x1.same).mono x2.same,hd2,(hx.mono x1).mono x2,q2,fun o2 s3 H3 F3 q3 x3 hd3=> ?_⟩⟩⟩
 have r3:=(r1.mono x2.same).mono x3.same
 have px:=((post.mono x1).mono x2).mono x3
 unfold oSl at q3
 split at q3
 ·cases r3
  exact .inl ⟨_,rfl,q3.1,px _ s3 _ H3 F3 q3.2 Ext.refl hd3 (.str _)⟩
 ·cases r3 with|tup l1 rr=>
   refine .inr (.inr ⟨_,_,rfl,Yu hd3.sub l1,fun w=> ?_,fun _ p np=> ?_⟩)
   ·rw[←rr.length]at w
    rw[Zim w]at q3
    exact px _ s3 _ H3 F3 q3 Ext.refl hd3 (.tup l1 rr)
   ·obtain⟨h1,h2,h3⟩:=hd3.frzT np (rr.cut o1 o2)
    exact px _ s3 _ _ _ q3 h2 h1 h3
 ·rename_i Zz6 ntup
  obtain⟨ds,h1,q⟩:=q3
  obtain⟨p,xs,rfl,hL,rr⟩:=r3.Zku hd3 h1
  refine .inr (.inl ⟨p,xs,rfl,hL,fun t nt=> ?_⟩)
  obtain⟨a1,a2,a3⟩:=hd3.ZeY nt (rr.cut o1 o2)
  exact px _ s3 _ _ _ q a2 a1 a3⟩
theorem CallD.of{f:Value}{g:GA}{r:List V→Hp→VK→Prop}(h:CallR X f r)(k: ∀F s H ds vs R Q,Hold X.K T F s H→Qw X.K T F ds vs→g ds s R→Post X.K T F s H R Q→r vs H Q):CallD X T f g:=⟨r,h,k⟩
def BZ:GA:=fun ds s R=>match ds with
 |[.str z]=>z.length≤sizeLine∧R (.int z.length) s
 |[x]=> ∃xs,jJ x s=some xs∧R (.int xs.length) s
 |_=>False
theorem Vk:CallD X T (.builtin "len") BZ:= .of call_len fun F s H ds vs R Q hh rs hg post=>by
 unfold BZ at hg
 split at hg
 ·obtain⟨v,rfl,r⟩:=rs.one
  cases r
  exact⟨_,_,rfl,⟨hg.1,rfl⟩,post _ s _ H F hg.2 Ext.refl hh (.int _)⟩
 ·obtain⟨v,rfl,r⟩:=rs.one
  obtain⟨xs,h1,q⟩:=hg
  obtain⟨p,ys,rfl,hq,rr⟩:=r.seq hh h1
  have e:=post _ s _ H F q Ext.refl hh (.int _)
  refine⟨_,xs.length,rfl, ?_,e⟩
  rcases hq with hq|hq
  ·exact .inl ⟨ys,hq,rr.length⟩
  ·exact .inr ⟨ys,hq,rr.length⟩
 ·exact hg.elim
def Zb3:GA:=fun ds s R=>match ds with
 |[x]=> ∃xs,jJ x s=some xs∧R (.lst xs) s
 |_=>False
theorem ZdZ:CallD X T (.type "list") Zb3:= .of call_list_of fun F s H ds vs R Q hh rs hg post=>by
 unfold Zb3 at hg
 split at hg
 ·obtain⟨v,rfl,r⟩:=rs.one
  obtain⟨xs,h1,q⟩:=hg
  obtain⟨p,ys,rfl,hq,rr⟩:=r.seq hh h1
  refine⟨p,ys,rfl,hq,fun l nl=> ?_⟩
  obtain⟨a1,a2,a3⟩:=hh.ZeY nl rr
  exact post _ s _ _ _ q a2 a1 a3
 ·exact hg.elim
def BK:GA:=fun ds s R=>match ds with
 |[x]=> ∃xs,jJ x s=some xs∧R (.tup xs) s
 |_=>False
theorem UG:CallD X T (.type "tuple") BK:= .of call_tuple_of fun F s H ds vs R Q hh rs hg post=>by
 unfold BK at hg
 split at hg
 ·rename_i x
  obtain⟨v,rfl,r⟩:=rs.one
  obtain⟨xs,h1,q⟩:=hg
  have go: ∀{p ys},v= .ref p→SqL X.K H p ys→Qw X.K T F xs ys→ ∃p ys,[v]=[V.ref p]∧((SqL X.K H p ys∧ ∀l,H l=none→Q (.ref l) (upd H l (.tup ys)))∨(SqT X.K H p ys∧Q (.ref p) H)):=fun{p ys} e hL rr=>by
   refine⟨p,ys,by rw[e], .inl ⟨hL,fun l nl=> ?_⟩⟩
   obtain⟨a1,a2,a3⟩:=hh.frzT nl rr
   exact post _ s _ _ _ q a2 a1 a3
  have go2:cJ x s=some xs→ ∃p ys,[v]=[V.ref p]∧((SqL X.K H p ys∧ ∀l,H l=none→Q (.ref l) (upd H l (.tup ys)))∨(SqT X.K H p ys∧Q (.ref p) H)):=fun h2=>by
   obtain⟨p,ys,e,hL,rr⟩:=r.Zku hh h2
   exact go e hL rr
  cases r with
  |tup l rr=>
   have e:some _=some xs:=h1
   cases e
   exact⟨_,_,rfl, .inr ⟨Yu hh.sub l,post _ s _ H F q Ext.refl hh (.tup l rr)⟩⟩
  |_=>exact go2 h1
 ·exact hg.elim
def cInt:GA:=fun ds s R=>match ds with
 |[.int i]=>R (.int i) s
 |[.bl k]=>R (.int (if k then 1 else 0)) s
 |_=>False
theorem aG:CallD X T (.type "int") cInt:= .of call_int1 fun F s H ds vs R Q hh rs hg post=>by
 unfold cInt at hg
 split at hg
 ·obtain⟨v,rfl,r⟩:=rs.one
  cases r
  exact .inl ⟨_,rfl,post _ s _ H F hg Ext.refl hh (.int _)⟩
 ·obtain⟨v,rfl,r⟩:=rs.one
  cases r
  exact .inr ⟨_,rfl,post _ s _ H F hg Ext.refl hh (.int _)⟩
 ·exact hg.elim
theorem Qw.two{d e:D}{vs:List V}(h:Qw K T F [d,e] vs): ∃v w,vs=[v,w]∧Rep K T F d v∧Rep K T F e w:=by
 cases h with|cons a r=>obtain⟨w,rfl,q⟩:=r.one;exact⟨_,_,rfl,a,q⟩
def c2I(g:Int→Int→Int):GA:=fun ds s R=>match ds with
 |[.int i, .int j]=>R (.int (g i j)) s
 |_=>False
theorem Zpi(hc:X.calm=true):CallD X T (.builtin "min") (c2I fun i j=>if j<i then j else i):= .of (call_min2 hc) fun F s H ds vs R Q hh rs hg post=>by
 unfold c2I at hg
 split at hg
 ·obtain⟨v,w,rfl,r1,r2⟩:=rs.two
  cases r1;cases r2
  exact⟨_,_,rfl,post _ s _ H F hg Ext.refl hh (.int _)⟩
 ·exact hg.elim
def bls:List D→Option (List Bool)
 |[]=>some []
 | .bl b::r=>(bls r).map (b:: ·)
 |_=>none
theorem Zfd: ∀{ds:List D} {vs:List V} {bs:List Bool},Qw K T F ds vs→bls ds=some bs→vs=bs.map V.bl
 |[],_,_, .nil,h=>by cases h;rfl
 |d::ds,_,bs, .cons r rr,h=>by
  cases r with
  |bl b=>
   rw[bls]at h
   cases e:bls ds with
   |none=>rw[e]at h;cases h
   |some cs=>
    rw[e]at h
    cases h
    rw[Zfd rr e];rfl
  |_=>simp [bls]at h
def ZhS(any:Bool):GA:=fun ds s R=>match ds with
 |[.lst xs]=> ∃bs,bls xs=some bs∧R (.bl (if any then bs.any id else bs.all id)) s
 |_=>False
theorem ZgX(hc:X.calm=true):CallD X T (.builtin "all") (ZhS false):= .of (cr_all hc) fun F s H ds vs R Q hh rs hg post=>by
 unfold ZhS at hg
 split at hg
 ·obtain⟨v,rfl,r⟩:=rs.one
  obtain⟨bs,h1,q⟩:=hg
  cases r with|lst l rr=>
   have e:=Zfd rr h1
   subst e
   exact⟨_,bs,rfl,cH l hh.sub,post _ s _ H F q Ext.refl hh (.bl _)⟩
 ·exact hg.elim
def Zkw:List D→Option (List Int)
 |[]=>some []
 | .int b::r=>(Zkw r).map (b:: ·)
 |_=>none
def Xk(a f:Exp):Yh:=fun D e s=>a e s (fun d s1=>match d with
 | .rf (.ref p)=>(∃ds,s1.mu p=some (.ml ds))∧f e s1 (fun y s2=> ∃ds,s2.mu p=some (.ml ds)∧ds.length<sizeLine∧D.nx e (s2.put p (.ml (ds++[y])))) (fun x s'=>D.ex x e s')
 |_=>False) (fun x s'=>D.ex x e s')
theorem U4{a b:Expr}{fa fb:Exp}{p1 p2 pos:Pos}(ha:DX X T W a fa)(hb:DX X T W b fb)
  (h: ∀{to:TE} {t:TA},PE X a to→PA X [b] t→PE X (.Call (.Attribute a "append" p1) [b] [] p2) (tBM X.K "list" rAppend to t))
  (hs:starEach [b] X.env=(false,eval b X.env)::starEach [] X.env:=by rfl) (hsw:swapsWith (.Call (.Attribute a "append" p1) [b] [] p2) none pos.line X.env=pure false:=by rfl):
  DS X T W (.Expr (.Call (.Attribute a "append" p1) [b] [] p2) pos) (Xk fa fb):=⟨Ld (ps_expr (h ha.pe (pa_cons hb.pe pa_nil hs)) hsw) fun Q σ H ⟨F,e,s,D,he,hh,ht,p⟩=>by
 refine⟨F,e,s,_,_,he,hh,p.uV he,ht,fun d s1 v H1 F1 q1 x1 hh1 r1=> ?_⟩
 split at q1
 ·rename_i pp
  obtain⟨⟨ds0,h0⟩,q1⟩:=q1
  cases r1
  obtain⟨_,vs0,hp0,_⟩:=hh1.mu _ _ h0
  refine⟨.inl ⟨rfl,_,SqL.of hp0⟩,F1,e,s1,_,_,he.mono x1.same,hh1,(p.mono x1).uV (he.mono x1.same),q1,fun y s2 w H2 F2 q2 x2 hh2 r2=> ?_⟩
  obtain⟨ds,h1,h2,q3⟩:=q2
  obtain⟨_,vs,hp,rr⟩:=hh2.mu _ _ h1
  refine⟨pp,vs,w,rfl,rfl,hp,by rw[←rr.length];exact h2, ?_⟩
  exact p.nx e _ σ _ F2 q3 ((x1.trans x2).trans (Ext.wr hh2 h1)) (hh2.wr h1 ⟨_,rfl,rr.append (.cons r2 .nil)⟩) ((he.mono x1.same).mono x2.same)
 ·exact q1.elim⟩
end
end Bk
namespace Bk
open PySem PySem.Spec PyProof.Rows L2
def shown(d:D):Str:=d.py.shown
end Bk
namespace Bk
open PySem PySem.Spec PyProof.Rows L2 LamX
section
variable{P:Program}{w:World}{K:PySem.W.Frag}{mg mb:Str→Option Value}{k:Nat}{fa a:Addr}{tabs:List (Addr×Addr)}{fd:FuncData}{x:Str}{sp:Sp}{st:Shared}{its:List Value}{ns:List Int}
def H0(tabs:List (Addr×Addr))(sc:Option (Addr×HO)):Hp:=fun b=>if b∈tabs.map (·.2)then some (.tbl #[])else match sc with
 |some (a,o)=>if b=a then some o else none
 |none=>none
structure Start(K:PySem.W.Frag)(mg mb:Str→Option Value)(tabs:List (Addr×Addr))(st:Shared):Prop where
 kin:K.In st.heap
 ns:st.heap.Ns mainGlobals mg
 nb:st.heap.Ns builtinsNs mb
 boot: ∀y:Str,y≠ "__name__" →mb y=bootBuiltins y
 lim:st.heap.NoLimit
 sm: ∃mm,st.heap.Ns sysModules mm
 gens:st.gens= #[]
 tab: ∀p∈tabs,st.heap.get? p.2=some {cls:= .none,data:= .fields #[]}
 ZwV: ∀p∈tabs,K.lookup p.2=none
 code: ∀p∈tabs,PySem.W.CodeHd st.heap p.1 p.2
 bm:tabs≠[]→ ∃(bm:Addr) (ob:Obj),mg "__builtins__" =some (.ref bm)∧bm≠builtinsNs∧st.heap.get? bm=some ob∧ob.cls= .type "module" ∧ob.dict=some builtinsNs∧ob.data= .plain
theorem ZcI{H:Hp}(S:Start K mg mb tabs st)(sc:st.heap.get? a=some {cls:= .type "list",data:= .seq its.toArray})
  (trk: ∀b,H b≠none→b=a∨b∈tabs.map (·.2)) (tbl: ∀p∈tabs,H p.2=some (.tbl #[])) (lock: ∀b,b∉tabs.map (·.2)→H b≠none→ ∃o ys,H b=some (.frz o (.lst ys))) (free:H a≠none→K.lookup a=none)
  (seq:SqL K H a (ns.map V.int)) (ok:HOk P w H st.heap) (hr:Room k callerA)
  (G: ∀base:Heap,K.In base→base.Ns mainGlobals mg→(∀p∈tabs,TabB base mg p.1 p.2)→(∃mm,base.Ns sysModules mm)→GFn P w K mg base k fa fd [x] sp) (hbind: ∀(s:Shared) (u:Value),BindsTo s fd ⟨[u],[]⟩ [(x,u)])
  (hsp:sp [.ref a] H (fun v _=>v= .bl true) fun _ _ _=>False):
  codeAny (model P w) callerA (.call (.ref fa) ⟨[.ref a],[]⟩) (fun r s'=>r= .ok (.ret (.bool true))∧OldK st.heap s'.heap∧s'.os=st.os∧AllBare s'.gens) st:=by
 have tabAt: ∀b,b∈tabs.map (·.2)→st.heap.get? b=some {cls:= .none,data:= .fields #[]}:=by
  intro b hb
  obtain⟨p,hp,rfl⟩:=List.mem_map.mp hb
  exact S.tab p hp
 --what is neither a list nor an empty record is not tracked
 have hidden: ∀{b:Addr} {o:Obj},st.heap.get? b=some o→(∀ys n,o.data≠ .seq ys n)→o.data≠ .fields #[]→H b=none:=by
  intro b o e h1 h2
  cases q:H b with
  |none=>rfl
  |some u=>
   rcases trk b (by rw[q];simp)with z|z
   ·rw[z,sc]at e;cases e;exact absurd rfl (h1 _ _)
   ·rw[tabAt b z]at e;cases e;exact absurd rfl h2
 have spaces: ∀{b:Addr} {m:Str→Option Value},st.heap.Ns b m→(hidT st.heap H).Ns b m:=by
  rintro b m ⟨o,es,ep,e,hd,more⟩
  exact⟨o,es,ep,hidT_get e (hidden e (fun _ _ z=>by rw[hd]at z;cases z) fun z=>by rw[hd]at z;cases z),hd,more⟩
 have kin:K.In (hidT st.heap H):=by
  intro b o e
  refine hidT_get (S.kin b o e) ?_
  cases q:H b with
  |none=>rfl
  |some u=>
   rcases trk b (by rw[q];simp)with z|z
   ·rw[z]at e q;rw[free (by rw[q];simp)]at e;cases e
   ·obtain⟨p,hp,ep⟩:=List.mem_map.mp z
    rw[←ep,S.ZwV p hp]at e;cases e
 obtain⟨mc,lim1,lim2⟩:=S.lim
 have mod:L2.Mod K mg (hidT st.heap H):=⟨kin,spaces S.ns,⟨mb,spaces S.nb,S.boot⟩,⟨mc,spaces lim1,lim2⟩⟩
 have tb: ∀p∈tabs,TabB (hidT st.heap H) mg p.1 p.2:=by
  intro p hp
  have here:=S.tab p hp
  have noD: ∀{b:Addr} {o:Obj},st.heap.get? b=some o→o.data= .plain→(hidT st.heap H).get? b=some o:=fun e hd=>hidT_get e (hidden e (fun _ _ z=>by rw[hd]at z;cases z) fun z=>by rw[hd]at z;cases z)
  obtain⟨bm,ob,b1,b2,b3,b4,b5,b6⟩:=S.bm (fun z=>by rw[z]at hp;cases hp)
  obtain⟨go,ges,gep,g1,g2,_⟩:=id S.ns
  refine⟨?_,⟨bm,ob,b1,b2, ?_, ?_,noD b3 b6,b4,b5,b6⟩, ?_⟩
  ·obtain⟨o,us,file,tf,flags,tg,inF,text,tt,e1,r1,r2,r3,r4,r5,r6,r7,r8,hne⟩:=S.code p hp
   refine⟨o,us,file,tf,flags,tg,inF,text,tt,hidT_get e1 (hidden e1 ?_ ?_),r1,r2,r3,r4,r5,r6,r7,r8,hne⟩
   ·intro _ _ z;rw[r2]at z;cases z
   ·intro z;rw[r2]at z;cases z;simp at r3
  ·intro q;rw[q,g1]at b3;cases b3;rw[g2]at b6;cases b6
  ·intro q;rw[q,here]at b3;cases b3;cases b6
  ·intro z;rw[z,here]at g1;cases g1;cases g2
 have env:Env0 P w K mg (hidT st.heap H) callerA [] st H:=⟨rfl,mod,fun b o e=>of_hidT e,Nat.le_of_eq (hidT_size _ _),trivial,fun b hb=>(nomatch (show b∈([]:List Addr)from hb)),ok, .of_eq S.gens⟩
 have run:=(G _ kin (spaces S.ns) tb (let ⟨mm,z⟩:=S.sm;⟨mm,spaces z⟩)).run callerA [] st H ⟨[.ref a],[]⟩ [.ref a] [.ref a] _ _ hr rfl env (hbind st (.ref a)) (.cons rfl .nil) hsp
 refine codeAny_mono run ?_
 intro res s' h
 match res,h with
 | .error e,h=>obtain⟨_,_,_,_,_,_,_,_,_,_,_,_,z⟩:=h;exact z.elim
 | .ok .next,h=>exact h.elim
 | .ok .brk,h=>exact h.elim
 | .ok .cont,h=>exact h.elim
 | .ok (.ret u),h=>
   obtain⟨v,H',os,bare,un,ok',rv,(q:v= .bl true)⟩:=h
   subst q
   have eu:u=Value.bool true:=rv
   subst eu
   have stay: ∀b o,b∉tabs.map (·.2)→st.heap.get? b=some o→s'.heap.get? b=some o:=by
    intro b o nb e
    cases q:H b with
    |none=>exact un.keep b o e q (fun z=>(nomatch (show b∈([]:List Addr)from z))) (fun z=>(nomatch z))
    |some u=>
     obtain⟨ob,ys,z⟩:=lock b nb (by rw[q];simp)
     have e1:=(ok b _ z).1
     have e2:=(ok' b _ (un.frzs b ob _ z)).1
     rw[e]at e1;cases e1;exact e2
   have grew: ∀b,b∈tabs.map (·.2)→ ∃more:Array Value,s'.heap.get? b=some {cls:= .none,data:= .fields more}:=by
    intro b hb
    obtain⟨p,hp,rfl⟩:=List.mem_map.mp hb
    obtain⟨more,z⟩:=un.tbls p.2 #[] (tbl p hp)
    exact⟨_,ok' p.2 _ z⟩
   refine⟨rfl,⟨?_, ?_⟩,os,bare⟩
   ·intro b o e
    by_cases hb:b∈tabs.map (·.2)
    ·obtain⟨more,hm⟩:=grew b hb
     have e0:=tabAt b hb
     rw[e]at e0;cases e0
     obtain⟨p,hp,ep⟩:=List.mem_map.mp hb
     have isT:=((S.code p hp).tab (S.tab p hp)).isCodeTable
     rw[ep]at isT
     exact .inr (.inl ⟨isT,rfl, #[],more,rfl,by rw[Array.empty_append];exact hm⟩)
    ·exact .inl (stay b o hb e)
   ·intro b o e
    by_cases hb:b∈tabs.map (·.2)
    ·obtain⟨more,hm⟩:=grew b hb
     exact⟨_,hm⟩
    ·exact⟨o,stay b o hb e⟩
end
end Bk
namespace Bk
open PySem PySem.Spec PyProof.Rows L2
def dval(kvs:List (Key×D))(k:Key):Option D:=(kvs.find? fun kv=>decide (kv.1=k)).map (·.2)
def dput(kvs:List (Key×D))(k:Key)(v:D):List (Key×D):=
 if(kvs.any fun kv=>decide (kv.1=k))=true then kvs.map (fun kv=>if kv.1=k then(kv.1,v)else kv)else kvs++[(k,v)]
def keyD:D→Option Key
 | .int i=>some (.inl i)
 | .str x=>some (.inr x)
 |_=>none
def ZlJ:D→S→Option (List (Key×D))
 | .U0 kvs,_=>some kvs
 | .rf (.ref p),s=>match s.mu p with
   |some (.mk kvs)=>some kvs
   |_=>none
 |_,_=>none
section
variable{K:PySem.W.Frag}{T:Tb}{F H:Hp}{s:S}
theorem VG.val: ∀{kvs:List (Key×D)} {ws:List (Key×V)} {k:Key},VG K T F kvs ws→(∀d,dval kvs k=some d→ ∃v,valV ws k=some v∧Rep K T F d v)∧(dval kvs k=none→valV ws k=none)
 |_,_,_, .nil=>⟨fun d h=>(nomatch (show(none:Option D)=some d from h)),fun _=>rfl⟩
 |_,_,k, .cons (k:=k0) (d:=d0) (v:=v0) r rr=>by
  have ih:=VG.val (k:=k) rr
  by_cases e:k0=k
  ·have e1: ∀j6,dval ((k0,d0)::j6) k=some d0:=fun j6=>by unfold dval;rw[List.find?_cons_of_pos (by simp [e])];rfl
   have e2: ∀j6,valV ((k0,v0)::j6) k=some v0:=fun j6=>valV_pos e
   rw[e1,e2]
   exact⟨fun d h=>⟨v0,rfl,by cases h;exact r⟩,fun h=>by cases h⟩
  ·have e1: ∀j6,dval ((k0,d0)::j6) k=dval j6 k:=fun j6=>by unfold dval;rw[List.find?_cons_of_neg (by simp [e])]
   have e2: ∀j6,valV ((k0,v0)::j6) k=valV j6 k:=fun j6=>valV_neg e
   rw[e1,e2]
   exact ih
theorem VG.any: ∀{kvs:List (Key×D)} {ws:List (Key×V)} {k:Key},VG K T F kvs ws→(kvs.any fun kv=>decide (kv.1=k))=(ws.any fun kv=>decide (kv.1=k))
 |_,_,_, .nil=>rfl
 |_,_,k, .cons r rr=>by rw[List.any_cons,List.any_cons,VG.any rr]
theorem VG.app: ∀{kvs ks:List (Key×D)} {ws vs:List (Key×V)},VG K T F kvs ws→VG K T F ks vs→VG K T F (kvs++ks) (ws++vs)
 |_,_,_,_, .nil,q=>q
 |_,_,_,_, .cons r rr,q=> .cons r (VG.app rr q)
theorem VG.map{k:Key}{d:D}{v:V}(h:Rep K T F d v): ∀{kvs:List (Key×D)} {ws:List (Key×V)},VG K T F kvs ws→VG K T F (kvs.map fun kv=>if kv.1=k then(kv.1,d)else kv) (ws.map fun kv=>if kv.1=k then(kv.1,v)else kv)
 |_,_, .nil=> .nil
 |_,_, .cons (k:=k0) r rr=>by
  rw[List.map_cons,List.map_cons]
  by_cases e:k0=k
  ·rw[if_pos e,if_pos e];exact .cons h (VG.map h rr)
  ·rw[if_neg e,if_neg e];exact .cons r (VG.map h rr)
theorem VG.put{k:Key}{d:D}{v:V}{kvs:List (Key×D)}{ws:List (Key×V)}(h:Rep K T F d v)(rr:VG K T F kvs ws):VG K T F (dput kvs k d) (putK ws k v):=by
 unfold dput putK
 rw[rr.any]
 split
 ·exact rr.map h
 ·exact rr.app (.cons h .nil)
theorem Rep.key{d:D}{v:V}{k:Key}(r:Rep K T F d v)(h:keyD d=some k):v=kV k:=by
 cases r<;>first|(cases h;rfl)|(exact(nomatch (show none=some k from h)))
theorem Rep.dict(hh:Hold K T F s H){d:D}{v:V}{kvs:List (Key×D)}(r:Rep K T F d v)(h:ZlJ d s=some kvs): ∃p ws,v= .ref p∧H p=some (.dK ws)∧VG K T F kvs ws:=by
 cases r with
 |U0 l rr=>
  have e:some _=some kvs:=h
  cases e
  exact⟨_,_,rfl,hh.sub _ _ l,rr⟩
 |rf v=>
  cases v with
  |ref p=>
   have h':(match s.mu p with|some (MO.mk ds)=>some ds|_=>none)=some kvs:=h
   cases e:s.mu p with
   |none=>rw[e]at h';cases h'
   |some m=>
    rw[e]at h'
    cases m with
    |ml xs=>cases h'
    |mo _ _=>cases h'
    |md _=>cases h'
    |mk xs=>
     have e2:some xs=some kvs:=h'
     cases e2
     obtain⟨_,vs,hp,rr⟩:=hh.mu _ _ e
     exact⟨_,_,rfl,hp,rr⟩
  |_=>exact(nomatch (show(none:Option (List (Key×D)))=some kvs from h))
 |_=>exact(nomatch (show(none:Option (List (Key×D)))=some kvs from h))
theorem Hold.Zl6(hh:Hold K T F s H){p:Addr}{o:HO}(n:H p=none):Hold K T F s (upd H p o)∧Ext F s H F s (upd H p o)∧ ¬own F s (upd H p o) p:=by
 have no: ¬own F s H p:=fun w=>by
  rcases w with w|w|⟨a,m,h1,h2⟩
  ·exact w (hh.fresh n)
  ·exact w (hh.jw n)
  ·obtain⟨l,c,t,cs,ls,g1,g2,g3,g4,g5,g6,g7,g8,g9⟩:=hh.gen a m h1
   rcases h2 with h2|⟨kvs,l',h3,h4,h5⟩
   ·rw[←h2,n]at g5;cases g5
   ·rw[g5]at h3;cases h3
    have e:some (V.ref l)=some (V.ref l'):=h4
    cases e
    rw[←h5,n]at g7;cases g7
 refine⟨⟨hh.sub.trans (JM n),fun q u e=> ?_,fun q k e=> ?_,hh.tab.ext (JM n),hh.XS⟩,(Ext.refl).grow n no,fun w=>no (wU no w)⟩
 ·obtain⟨h1,h2⟩:=hh.mu q u e
  rw[upd_ne (fun z=>by rw[z,hh.jw n]at e;cases e)]
  exact⟨h1,h2⟩
 ·obtain⟨l,c,t,cs,ls,g1,g2,g3,g4,g5,g6,g7,g8,g9⟩:=hh.gen q k e
  exact⟨l,c,t,cs,ls,g1,g2,g3,g4,JM n _ _ g5,g6,JM n _ _ g7,g8,g9⟩
theorem Hold.ZlK(hh:Hold K T F s H){p:Addr}{ws0 ws:List (Key×V)}{kvs:List (Key×D)}(h:H p=some (.dK ws0))(n: ¬own F s H p)(r:VG K T F kvs ws):Hold K T F (s.put p (.mk kvs)) (upd H p (.dK ws)):=by
 refine⟨fun b x e=> ?_,fun q u e=> ?_,fun q k e=> ?_,zE hh.tab (fun ps z=>by rw[h]at z;cases z) (fun c q z=>by rw[h]at z;cases z),hh.XS⟩
 ·rw[upd_ne (fun z=>by rw[z,Ze0 n]at e;cases e)];exact hh.sub b x e
 ·have e2:(if q=p then some (MO.mk kvs)else s.mu q)=some u:=e
  by_cases z:q=p
  ·rw[if_pos z]at e2;cases e2
   rw[z,upd_same]
   exact⟨Ze0 n,ws,rfl,r⟩
  ·rw[if_neg z]at e2
   rw[upd_ne z];exact hh.mu q u e2
 ·obtain⟨l,c,t,cs,ls,g1,g2,g3,g4,g5,g6,g7,g8,g9⟩:=hh.gen q k e
  have nq:q≠p:=fun z=>n (by rw[←z];exact .inr (.inr ⟨q,k,e, .inl rfl⟩))
  have nl:l≠p:=fun z=>n (by rw[←z];exact .inr (.inr ⟨q,k,e, .inr ⟨_,l,g5,rfl,rfl⟩⟩))
  refine⟨l,c,t,cs,ls,g1,g2, ?_, ?_,by rw[upd_ne nq];exact g5,g6,by rw[upd_ne nl];exact g7,g8,g9⟩
  ·show(if q=p then some (MO.mk kvs)else s.mu q)=none
   rw[if_neg nq];exact g3
  ·show(if l=p then some (MO.mk kvs)else s.mu l)=none
   rw[if_neg nl];exact g4
theorem Ext.ZlK{F0 H0:Hp}{s0:S}(x:Ext F0 s0 H0 F s H){p:Addr}{m:MO}{o:HO}(n0:H0 p=none)(n: ¬own F s H p):Ext F0 s0 H0 F (s.put p m) (upd H p o):=⟨x.same,fun q u e w z=>by
 obtain⟨h1,n1⟩:=x.rest q u e w z
 have ne:q≠p:=fun y=>by rw[y,n0]at e;cases e
 refine⟨by rw[upd_ne ne];exact h1,fun y=>n1 ?_⟩
 rcases y with y|y|⟨a,k,h3,h4⟩
 ·exact .inl y
 ·have y':(if q=p then some m else s.mu q)≠none:=y
  rw[if_neg ne]at y'
  exact .inr (.inl y')
 ·refine .inr (.inr ⟨a,k,h3,h4.imp id ?_⟩)
  rintro ⟨kvs,l,g3,g4,g5⟩
  have na:a≠p:=fun z=>n (by rw[←z];exact .inr (.inr ⟨a,k,h3, .inl rfl⟩))
  rw[upd_ne na]at g3
  exact⟨kvs,l,g3,g4,g5⟩⟩
end
section
variable{X:Cx}{T:Tb}{W:WX}{a b c:Expr}{fa fb fc:Exp}{pos:Pos}
def bL(fo fi:Exp):Exp:=fun e s R E=>fo e s (fun d s1=>fi e s1 (fun k s2=> ∃key kvs x,keyD k=some key∧ZlJ d s2=some kvs∧dval kvs key=some x∧R x s2) E) E
theorem aH(hu:X.A.units+1<cLine)(ho:DX X T W a fa)(hi:DX X T W b fb)(hs:NoSl b):DX X T W (.Subscript a b pos) (bL fa fb):=⟨Yj (pe_dget hu ho.pe hi.pe hs) fun σ H Q h=>by
 obtain⟨F,e,s,R,E,he,hh,hx,hf,post⟩:=h
 refine⟨F,e,s,_,E,he,hh,hx,hf,fun d s1 vd H1 F1 q1 x1 hh1 r1=>⟨F1,e,s1,_,E,he.mono x1.same,hh1,hx.mono x1,q1,fun k s2 vk H2 F2 q2 x2 hh2 r2=> ?_⟩⟩
 obtain⟨key,kvs,x,h1,h2,h3,q3⟩:=q2
 obtain⟨p,ws,rfl,hp,rr⟩:=(r1.mono x2.same).dict hh2 h2
 obtain⟨v,hv,rv⟩:=(rr.val (k:=key)).1 x h3
 have ek:=r2.key h1
 subst ek
 exact⟨p,v,rfl,by rw[←hv];exact DGet.k hp,post _ s2 v H2 F2 q3 (x1.trans x2) hh2 rv⟩⟩
def ZhT(fo fi fv:Exp):Yh:=fun D e s=>fv e s (fun y s1=>fo e s1 (fun d s2=>fi e s2 (fun k s3=>match d with
 | .rf (.ref p)=> ∃key kvs,keyD k=some key∧s3.mu p=some (.mk kvs)∧kvs.length<sizeLine∧D.nx e (s3.put p (.mk (dput kvs key y)))
 |_=>False) (fun x s'=>D.ex x e s')) (fun x s'=>D.ex x e s')) (fun x s'=>D.ex x e s')
theorem Zl7{pos':Pos}(hu:X.A.units+1<cLine)(ho:DX X T W a fa)(hi:DX X T W b fb)(hv:DX X T W c fc)(hs:swapsWith c (some (.Subscript a b pos')) pos.line X.env=pure false:=by rfl):DS X T W (.Assign [.Subscript a b pos'] c pos) (ZhT fa fb fc):=
 ⟨Ld (ps_dput hu ho.pe hi.pe hv.pe hs) fun Q σ H ⟨F,e,s,D,he,hh,ht,p⟩=>by
   refine⟨F,e,s,_,_,he,hh,p.uV he,ht,fun y s1 vy H1 F1 q1 x1 hh1 r1=>⟨F1,e,s1,_,_,he.mono x1.same,hh1,(p.mono x1).uV (he.mono x1.same),q1,fun d s2 vd H2 F2 q2 x2 hh2 r2=> ?_⟩⟩
   refine⟨F2,e,s2,_,_,(he.mono x1.same).mono x2.same,hh2,(p.mono (x1.trans x2)).uV ((he.mono x1.same).mono x2.same),q2,fun k s3 vk H3 F3 q3 x3 hh3 r3=> ?_⟩
   split at q3
   ·rename_i pp
    obtain⟨key,kvs,h1,h2,h3,q4⟩:=q3
    cases r2
    obtain⟨_,ws,hp,rr⟩:=hh3.mu _ _ h2
    have ek:=r3.key h1
    subst ek
    refine⟨pp,_,rfl,DPut.k hp (by rw[←rr.length];exact h3), ?_⟩
    exact p.nx e _ σ _ F3 q4 (((x1.trans x2).trans x3).trans (Ext.wr hh3 h2)) (hh3.wr h2 ⟨_,rfl,rr.put ((r1.mono x2.same).mono x3.same)⟩) (((he.mono x1.same).mono x2.same).mono x3.same)
   ·exact q3.elim⟩
def ZgY(fo fi fv:Exp):Yh:=fun D e s=>fv e s (fun y s1=>fo e s1 (fun d s2=>fi e s2 (fun k s3=>match d,k with
 | .rf (.ref p), .int i=> ∃ds j,s3.mu p=some (.ml ds)∧ixN ds.length i=some j∧D.nx e (s3.put p (.ml (ds.set j y)))
 |_,_=>False) (fun x s'=>D.ex x e s')) (fun x s'=>D.ex x e s')) (fun x s'=>D.ex x e s')
theorem Znf{pos':Pos}(ho:DX X T W a fa)(hi:DX X T W b fb)(hv:DX X T W c fc)
  (ha: ∀v,assign (.Subscript a b pos') X.env v=(do
    let ov←holding [v] (eval a X.env)
    let iv←holding [v,ov] (eval b X.env)
    standAt pos'
    holding [v,ov,iv] (setItem ov iv v)
    release [v,ov,iv] []):=by intro _;rfl)
  (hs:swapsWithSole [.Subscript a b pos'] c pos.line X.env=pure false:=by rfl) (hw:swappedStores [.Subscript a b pos'] c X.env=pure none:=by rfl) (h1:(assignEach [.Subscript a b pos'] X.env).map (·.2)=[assign (.Subscript a b pos') X.env]:=by rfl):
  DS X T W (.Assign [.Subscript a b pos'] c pos) (ZgY fa fb fc):=
 ⟨Ld (ps_asg hv.pe (pg_sub ho.pe hi.pe set_list ha) hs hw h1) fun Q σ H ⟨F,e,s,D,he,hh,ht,p⟩=>by
   refine⟨F,e,s,_,_,he,hh,p.uV he,ht,fun y s1 vy H1 F1 q1 x1 hh1 r1=>⟨F1,e,s1,_,_,he.mono x1.same,hh1,(p.mono x1).uV (he.mono x1.same),q1,fun d s2 vd H2 F2 q2 x2 hh2 r2=> ?_⟩⟩
   refine⟨F2,e,s2,_,_,(he.mono x1.same).mono x2.same,hh2,(p.mono (x1.trans x2)).uV ((he.mono x1.same).mono x2.same),q2,fun k s3 vk H3 F3 q3 x3 hh3 r3=> ?_⟩
   split at q3
   ·obtain⟨ds,j,h2,h3,q4⟩:=q3
    cases r2;cases r3
    obtain⟨_,ws,hp,rr⟩:=hh3.mu _ _ h2
    refine⟨_,ws,_,j,rfl,rfl,hp,by rw[←rr.length];exact h3, ?_⟩
    exact p.nx e _ σ _ F3 q4 (((x1.trans x2).trans x3).trans (Ext.wr hh3 h2)) (hh3.wr h2 ⟨_,rfl,rr.set ((r1.mono x2.same).mono x3.same) j⟩) (((he.mono x1.same).mono x2.same).mono x3.same)
   ·exact q3.elim⟩
def ZgZ:List (Exp×Exp)→Zq→S→(List (D×D)→S→Prop)→XQ→Prop
 |[],_,s,R,_=>R [] s
 |(fk,fv)::r,e,s,R,E=>fk e s (fun k s1=>fv e s1 (fun v s2=>ZgZ r e s2 (fun ps s3=>R ((k,v)::ps) s3) E) E) E
inductive DPP(X:Cx)(T:Tb)(W:WX):List (Option Expr)→List Expr→List (Exp×Exp)→Prop
 |nil:DPP X T W [] [] []
 |cons {k v:Expr} {ks:List (Option Expr)} {vs:List Expr} {fk fv:Exp} {fs:List (Exp×Exp)}:DX X T W k fk→DX X T W v fv→DPP X T W ks vs fs→DPP X T W (some k::ks) (v::vs) ((fk,fv)::fs)
theorem DPP.pps{pos:Pos}: ∀{ks:List (Option Expr)} {vs:List Expr} {fs:List (Exp×Exp)},DPP X T W ks vs fs→PPs X pos ks vs (fs.map fun p=>(Lp X.K T W p.1,Lp X.K T W p.2))
 |_,_,_, .nil=>pps_nil
 |_,_,_, .cons h1 h2 r=>pps_cons h1.pe h2.pe (DPP.pps r)
theorem Zam{K:PySem.W.Frag}{σ:L2.St}{e:Zq}{E:XQ}: ∀{fs:List (Exp×Exp)} {F H:Hp} {s:S} {R:List (D×D)→S→Prop} {Q:List (V×V)→Hp→Prop},Jz K T F e σ→Hold K T F s H→XOk K T W F s H E σ→ZgZ fs e s R E→
  (∀ps s' qs H' F',R ps s'→Ext F s H F' s' H'→Hold K T F' s' H'→Paired (fun p q=>Rep K T F' p.1 q.1∧Rep K T F' p.2 q.2) ps qs→Q qs H')→tPairs (fs.map fun p=>(Lp K T W p.1,Lp K T W p.2)) σ H Q
 |[],F,H,s,R,Q,he,hh,hx,hf,k=>k [] s [] H F hf Ext.refl hh .nil
 |(fk,fv)::r,F,H,s,R,Q,he,hh,hx,hf,k=>⟨F,e,s,_,E,he,hh,hx,hf,fun dk s1 vk H1 F1 q1 x1 hh1 r1=>⟨F1,e,s1,_,E,he.mono x1.same,hh1,hx.mono x1,q1,fun dv s2 vv H2 F2 q2 x2 hh2 r2=>
    Zam ((he.mono x1.same).mono x2.same) hh2 ((hx.mono x1).mono x2) q2 fun ps s3 qs H3 F3 q3 x3 hh3 rs=>
     k _ s3 _ H3 F3 q3 ((x1.trans x2).trans x3) hh3 (.cons ⟨(r1.mono x2.same).mono x3.same,r2.mono x3.same⟩ rs)⟩⟩
def qP(kvs more:List (Key×D)):List (Key×D):=more.foldl (fun acc kv=>dput acc kv.1 kv.2) kvs
theorem VG.merge{K:PySem.W.Frag}{T:Tb}{F:Hp}: ∀{more:List (Key×D)} {ms:List (Key×V)} (kvs:List (Key×D)) (ws:List (Key×V)),VG K T F more ms→VG K T F kvs ws→VG K T F (qP kvs more) (mergeK ws ms)
 |_,_,_,_, .nil,r=>r
 |_,_,kvs,ws, .cons (k:=k) (d:=d) (v:=v) h t,r=>VG.merge (dput kvs k d) (putK ws k v) t (VG.put h r)
theorem Zjy{K:PySem.W.Frag}{T:Tb}{F:Hp}: ∀{ps:List (D×D)} {qs:List (V×V)} {kvs:List (Key×D)},Paired (fun p q=>Rep K T F p.1 q.1∧Rep K T F p.2 q.2) ps qs→ps.mapM (fun p=>(keyD p.1).map fun k=>(k,p.2))=some kvs→ ∃ws,VG K T F kvs ws∧qs=ws.map (fun kv=>(kV kv.1,kv.2))
 |[],_,_, .nil,h=>by
  have e:some []=some _:=h
  cases e
  exact⟨[], .nil,rfl⟩
 |p::ps,_,kvs, .cons (b:=q) r t,h=>by
  rw[List.mapM_cons]at h
  cases e:keyD p.1 with
  |none=>rw[e]at h;cases h
  |some k=>
   rw[e]at h
   cases e2:ps.mapM (fun p=>(keyD p.1).map fun k=>(k,p.2))with
   |none=>rw[e2]at h;cases h
   |some more=>
    rw[e2]at h
    have e3:some ((k,p.2)::more)=some kvs:=h
    cases e3
    obtain⟨ws,rr,rfl⟩:=Zjy t e2
    refine⟨(k,q.2)::ws, .cons r.2 rr, ?_⟩
    rw[List.map_cons]
    have:=r.1.key e
    obtain⟨q1,q2⟩:=q
    simp only at this⊢
    rw[this]
def Zl8(fs:List (Exp×Exp)):Exp:=fun e s R E=>ZgZ fs e s (fun ps s1=> ∃kvs,ps.mapM (fun p=>(keyD p.1).map fun k=>(k,p.2))=some kvs∧kvs.length≤15∧ ∀p,s1.mu p=none→R (.rf (.ref p)) (s1.put p (.mk (qP [] kvs)))) E
theorem Zng{ks:List (Option Expr)}{vs:List Expr}{fs:List (Exp×Exp)}(h:DPP X T W ks vs fs)(hall:ks.all (·.isSome)=true:=by rfl)(hl:ks.length=vs.length:=by rfl)(h0:ks≠[]:=by intro z;cases z)(h15:ks.length≤15:=by decide):DX X T W (.Dict ks vs pos) (Zl8 fs):=
 ⟨Yj (pe_disp h.pps hall hl h0 h15) fun σ H Q hq p np=>by
   obtain⟨F,e,s,R,E,he,hh,hx,hf,post⟩:=hq
   obtain⟨a1,a2,a3⟩:=hh.Zl6 (o:= .dK []) np
   refine Zam he a1 (hx.mono a2) hf fun ps s1 qs H1 F1 q1 x1 hh1 rs=> ?_
   obtain⟨kvs,h1,h2,q2⟩:=q1
   obtain⟨ws,rr,rfl⟩:=Zjy rs h1
   obtain⟨b1,b2⟩:=x1.rest p _ upd_same a3 trivial
   have xx:=a2.trans x1
   refine⟨b1,ws,rfl,by rw[←rr.length];exact h2, ?_⟩
   exact post _ _ _ _ F1 (q2 p (notM b2)) (xx.ZlK np b2) (hh1.ZlK b1 b2 (VG.merge [] [] rr .nil)) (.rf _)⟩
end
end Bk
namespace Bk
open PySem PySem.Spec PyProof.Rows L2
section
variable{X:Cx}{T:Tb}{W:WX}{a b c:Expr}{fa fb fc:Exp}{pos:Pos}{g g1:DG}{vs vs1:List Nat}
def Kf(r r':G2)(fa fb fc:Exp):Exp:=fun e s R E=>fa e s (fun x s1=>fb e s1 (fun y s2=>r x y s2 (fun z s3=>match z with
 | .bl true=>fc e s3 (fun w s4=>r' y w s4 R) E
 | .bl false=>R (.bl false) s3
 |_=>False)) E) E
theorem Zan{g g':G2}{r r':R2}(hr: ∀F s H x y vx vy R Q,Hold X.K T F s H→Rep X.K T F x vx→Rep X.K T F y vy→g x y s R→Post X.K T F s H R Q→r vx vy H Q)(hr': ∀F s H x y vx vy R Q,Hold X.K T F s H→Rep X.K T F x vx→Rep X.K T F y vy→g' x y s R→Post X.K T F s H R Q→r' vx vy H Q)
  {σ:L2.St} {H:Hp} {Q:VK} (h:Lp X.K T W (Kf g g' fa fb fc) σ H Q):tChain r r' (Lp X.K T W fa) (Lp X.K T W fb) (Lp X.K T W fc) σ H Q:=by
 obtain⟨F,e,s,R,E,he,hh,hx,hf,post⟩:=h
 refine⟨F,e,s,_,E,he,hh,hx,hf,fun x s1 vx H1 F1 q1 x1 hh1 rx=>⟨F1,e,s1,_,E,he.mono x1.same,hh1,hx.mono x1,q1,fun y s2 vy H2 F2 q2 x2 hh2 ry=> ?_⟩⟩
 refine hr F2 s2 H2 x y vx vy _ _ hh2 (rx.mono x2.same) ry q2 fun z s3 vz H3 F3 q3 x3 hh3 rz=> ?_
 split at q3
 ·cases rz
  exact⟨true,rfl,F3,e,s3,_,E,((he.mono x1.same).mono x2.same).mono x3.same,hh3,((hx.mono x1).mono x2).mono x3,q3,fun w s4 vw H4 F4 q4 x4 hh4 rw'=>hr' F4 s4 H4 y w vy vw R Q hh4 ((ry.mono x3.same).mono x4.same) rw' q4 ((((post.mono x1).mono x2).mono x3).mono x4)⟩
 ·cases rz
  exact⟨false,rfl,post _ s3 _ H3 F3 q3 ((x1.trans x2).trans x3) hh3 (.bl false)⟩
 ·exact q3.elim
theorem zG{op op':CmpOp}{g g':G2}(ho:IV X T (compareOp op) g)(ho':IV X T (compareOp op') g')(ha:DX X T W a fa)(hb:DX X T W b fb)(hc:DX X T W c fc)(hm:lastMarks [op,op'] [b,c]=false:=by with_unfolding_all rfl):DX X T W (.Compare a [op,op'] [b,c] pos) (Kf g g' fa fb fc):=by
 obtain⟨r,h1,h2⟩:=ho
 obtain⟨r',h1',h2'⟩:=ho'
 exact⟨Yj (pe_chain h1 h1' ha.pe hb.pe hc.pe hm) fun σ H Q h=>Zan h2 h2' h⟩
theorem zH{op op':CmpOp}{g g':G2}(ho:IV X T (compareOp op) g)(ho':IV X T (compareOp op') g')(ha:DX X T W a fa)(hb:DX X T W b fb)(hc:DX X T W c fc)(hm:lastMarks [op,op'] [b,c]=false:=by with_unfolding_all rfl):DT X T W (.Compare a [op,op'] [b,c] pos) (ZX (Kf g g' fa fb fc)):=by
 obtain⟨r,h1,h2⟩:=ho
 obtain⟨r',h1',h2'⟩:=ho'
 refine⟨ZcC (pt_chain h1 h1' ha.pe hb.pe hc.pe hm) fun σ H Q h=> ?_⟩
 obtain⟨F,e,s,R,E,he,hh,hx,hf,post⟩:=h
 refine Zan (W:=W) (fa:=fa) (fb:=fb) (fc:=fc) h2 h2' ⟨F,e,s,_,E,he,hh,hx,hf,fun x s1 vx H1 F1 q1 e1 hh1 rx=> ?_⟩
 cases rx with
 |bl b=>exact⟨b,rfl,post b s1 H1 F1 q1 e1 hh1⟩
 |_=>exact q1.elim
def ZlL(i j l:Nat)(r:Arg):Yh:=fun D e s=>r e s (fun ds s1=>match ds with
 |[x,y,z]=>D.nx (Jh (Jh (Jh e i (some x)) j (some y)) l (some z)) s1
 |_=>False) (fun x s'=>D.ex x e s')
theorem Zpj{i j l:Nat}{x y z:Str}{r:Arg}{px py pz pt:Pos}{kt k2 pt2}(hc:X.calm=true)(hN:X.N.Nodup)(hi:X.N[i]? =some x)(hj:X.N[j]? =some y)(hl:X.N[l]? =some z)(hij:i≠j)(hil:i≠l)(hjl:j≠l)
  (hx:X.env.scope.names.lookup x=some .local) (hy:X.env.scope.names.lookup y=some .local) (hz:X.env.scope.names.lookup z=some .local) (ha:DA X T W [a,b,c] r)
  (hw:swappedStores [.Tuple [.Name x px, .Name y py, .Name z pz] kt pt] (.Tuple [a,b,c] k2 pt2) X.env=pure (some [x,y,z]))
  (hs:swapsWithSole [.Tuple [.Name x px, .Name y py, .Name z pz] kt pt] (.Tuple [a,b,c] k2 pt2) pos.line X.env=pure false:=by rfl):
  DS X T W (.Assign [.Tuple [.Name x px, .Name y py, .Name z pz] kt pt] (.Tuple [a,b,c] k2 pt2) pos) (ZlL i j l r):=⟨Ld (ps_par3 hc hN hi hj hl hij hil hjl hx hy hz ha.pa hw hs) fun Q σ H ⟨F,e,s,D,he,hh,ht,p⟩=>by
 refine⟨F,e,s,_,_,he,hh,p.uV he,ht,fun ds s1 vs H1 F1 q x1 hh1 rs=> ?_⟩
 split at q
 ·cases rs with|cons r1 rs=>cases rs with|cons r2 rs=>cases rs with|cons r3 rs=>
   cases rs
   exact⟨_,_,_,rfl,p.nx _ s1 _ H1 F1 q x1 hh1 ((((he.mono x1.same).set r1 i).set r2 j).set r3 l)⟩
 ·exact q.elim⟩
def ZlM(i:Nat)(t:Yh):Yh:=fun D e s=> ∃p ds,nth e i=some (.rf (.ref p))∧s.mu p=some (.ml ds)∧t D (Jh e i (some (.lst ds))) (s.del p)
theorem Jz.reset{K:PySem.W.Frag}{T:Tb}{F:Hp}{d:D}{v:V}(rd:Rep K T F d v): ∀{e:Zq} {σ:L2.St} (i:Nat),Jz K T F e σ→σ[i]? =Option.some (Option.some v)→Jz K T F (Jh e i (Option.some d)) σ
 |_,_,_, .nil,_=> .nil
 |_,_,0, .none r,h=>by cases h;exact .some rd r
 |_,_,0, .some _ r,h=>by cases h;exact .some rd r
 |_,_,i+1, .none r,h=> .none (Jz.reset rd i r (by simpa using h))
 |_,_,i+1, .some q r,h=> .some q (Jz.reset rd i r (by simpa using h))
theorem Zpk{i:Nat}{sts:List Stmt}{t:Yh}(h:qM X T W sts t):qM X T W sts (ZlM i t):=⟨wN h.pss fun Q σ H ⟨F,e,s,D,he,hh,ht,p⟩=>by
 obtain⟨q,ds,h1,h2,h3⟩:=ht
 obtain⟨vs,a1,a2⟩:=hh.freeze h2
 obtain⟨v,hv,rv⟩:=he.at h1
 have x:=Ext.freeze (F:=F) (H:=H) (o:= .lst vs) (hh.mu _ _ h2).1 h2
 cases rv
 exact⟨_,_,_,D,(he.mono x.same).reset a2 i hv,a1,h3,p.mono x⟩⟩
def Ze1(xs:List D):Nat→List D
 |0=>[]
 |n+1=>xs++Ze1 xs n
theorem Qw.rep{K:PySem.W.Frag}{T:Tb}{F:Hp}{xs:List D}{vs:List V}(h:Qw K T F xs vs): ∀n,Qw K T F (Ze1 xs n) (List.replicate n vs).flatten
 |0=> .nil
 |n+1=>by rw[Ze1,List.replicate_succ,List.flatten_cons];exact h.append (Qw.rep h n)
def Vl(x:Str)(n:Nat):Str:=⟨(List.replicate n x.cps).foldl (· ++ ·) #[]⟩
theorem Zjz(a:Array Nat): ∀(n:Nat) (b:Array Nat),((List.replicate n a).foldl (· ++ ·) b).size=b.size+n*a.size
 |0,b=>by simp
 |n+1,b=>by rw[List.replicate_succ,List.foldl_cons,Zjz a n,Array.size_append,Nat.succ_mul];omega
theorem Tp(x:Str)(n:Nat):(Vl x n).length=n*x.length:=by
 show((List.replicate n x.cps).foldl (· ++ ·) #[]).size=_
 rw[Zjz]
 show 0+n*x.cps.size=n*x.cps.size
 omega
theorem Zkx:OpR X (binaryOp .Mult) (fun x y H Q=> ∃z k,x= .str z∧y= .int k∧1<k∧k≤100∧0<z.length∧z.length≤100000∧Q (.str (Vl z k.toNat)) H):=by
 intro pins s σ H x y v u Q I rx ry h
 obtain⟨z,k,rfl,rfl,h1,h2,h3,h4,q⟩:=h
 obtain⟨t,rfl⟩:=rx
 obtain⟨t',rfl⟩:=ry
 have n1: ¬k<1:=by omega
 have n2:(k==1||z.length==0)=false:=by simp;omega
 refine PySem.P.mul_str (by simp;omega) (fun _ _ w=> ?_) (fun _ _=> ?_) ?_
 ·have:(2^63-1:Int)/k≥100000:=by
   have hk:(0:Int)<k:=by omega
   rw[ge_iff_le,Int.le_ediv_iff_mul_le hk]
   omega
  omega
 ·have:z.length*k.toNat≤100000*100:=Nat.mul_le_mul h4 (by omega)
  unfold PySem.Builtin.Str.tooLong
  rw[sizeLine_eq]
  simp
  omega
 ·rw[if_neg n1,if_neg (by rw[n2];decide)]
  refine⟨?_,⟨.str (Vl z k.toNat),H,I.tok _,⟨_,rfl⟩,q⟩⟩
  have e:(Vl z k.toNat).length=k.toNat*z.length:=Tp z k.toNat
  have:k.toNat*z.length≤100*100000:=Nat.mul_le_mul (by omega) h4
  show(Vl z k.toNat).length≤sizeLine
  rw[sizeLine_eq]
  omega
end
end Bk
namespace Bk
open PySem PySem.Spec PyProof.Rows L2
section
variable{X:Cx}{T:Tb}{W:WX}{a b c:Expr}{fa fb fc:Exp}{pos:Pos}
def Cr:G2:=fun x y s R=>match x,y with
 | .int i, .int j=>CMul i j∧R (.int (i*j)) s
 | .str z, .int k=>(1<k∧k≤100∧0<z.length∧z.length≤100000)∧R (.str (Vl z k.toNat)) s
 | .tup xs, .int k=>(xs≠[]∧2≤k∧k≤1000∧xs.length≤1000)∧R (.tup (Ze1 xs k.toNat)) s
 | .lst xs, .int k=>(-(2^63)≤k∧k<2^63∧xs.length*k.toNat≤sizeLine)∧R (.lst (Ze1 xs k.toNat)) s
 |_,_=>False
theorem RP:IV X T (binaryOp .Mult) Cr:= .of (op_mul.or (Zkx.or (op_repT.or op_rep))) fun F s H x y vx vy R Q hh rx ry hg post=>by
 unfold Cr at hg
 split at hg
 ·cases rx;cases ry
  exact .inl ⟨_,_,rfl,rfl,hg.1,post _ s _ H F hg.2 Ext.refl hh (.int _)⟩
 ·cases rx;cases ry
  exact .inr (.inl ⟨_,_,rfl,rfl,hg.1.1,hg.1.2.1,hg.1.2.2.1,hg.1.2.2.2,post _ s _ H F hg.2 Ext.refl hh (.str _)⟩)
 ·cases ry
  cases rx with|tup l1 r1=>
   refine .inr (.inr (.inl ⟨_,_,_,rfl,rfl,Yu hh.sub l1,fun e=>hg.1.1 ?_,hg.1.2.1,hg.1.2.2.1,by rw[←r1.length];exact hg.1.2.2.2,fun p np=> ?_⟩))
   ·subst e;cases r1;rfl
   ·obtain⟨h1,h2,h3⟩:=hh.frzT np (r1.rep _)
    exact post _ s _ _ _ hg.2 h2 h1 h3
 ·cases ry
  cases rx with|lst l1 r1=>
   refine .inr (.inr (.inr ⟨_,_,_,rfl,rfl,hh.sub _ _ l1,hg.1.1,hg.1.2.1,by rw[←r1.length];exact hg.1.2.2,fun p np=> ?_⟩))
   obtain⟨h1,h2,h3⟩:=hh.ZeY np (r1.rep _)
   exact post _ s _ _ _ hg.2 h2 h1 h3
 ·exact hg.elim
def sU(d:D)(s:S):D:=match cJ d s with
 |some ds=> .lst ds
 |none=>d
theorem ZjA{K:PySem.W.Frag}{T:Tb}{F H:Hp}{s:S}(hh:Hold K T F s H){d:D}{v:V}(r:Rep K T F d v)(p:(sU d s).pl=true):Dp K H v (sU d s).py:=by
 unfold sU at p⊢
 cases e:cJ d s with
 |none=>rw[e]at p;exact Oa hh.sub r p
 |some ds=>
  rw[e]at p
  obtain⟨q,xs,rfl,hq,rr⟩:=r.Zku hh e
  have p':(D.lst ds).pl=true:=p
  rw[D.pl]at p'
  show Dp K H (.ref q) (D.lst ds).py
  rw[D.py]
  exact .lst hq (o9 hh.sub rr p')
def Zou:G2:=fun x y s R=>((sU x s).YF=true∧(sU y s).YF=true)∧R (.bl (!(sU x s).eqb (sU y s))) s
theorem Zl9(hu:X.A.units+64<cLine):IV X T (compareOp .NotEq) Zou:= .of (op_neD hu) fun F s H x y vx vy R Q hh rx ry hg post=>by
 obtain⟨⟨h1,h2⟩,q⟩:=hg
 exact⟨_,_,ZjA hh rx (Yk h1).1,ZjA hh ry (Yk h2).1,(Yk h1).2,(Yk h2).2,post _ s _ H F q Ext.refl hh (.bl _)⟩
theorem Hold.ZlN{K:PySem.W.Frag}{T:Tb}{F H:Hp}{s:S}{p:Addr}{xs:List V}{ds:List D}(hh:Hold K T F s H)(h:H p=some (.lst xs))(n: ¬own F s H p)(r:Qw K T F ds xs):Hold K T F (s.put p (.ml ds)) H:=by
 refine⟨hh.sub,fun q u e=> ?_,fun q k e=> ?_,hh.tab,hh.XS⟩
 ·have e2:(if q=p then some (MO.ml ds)else s.mu q)=some u:=e
  by_cases z:q=p
  ·rw[if_pos z]at e2;cases e2
   rw[z]
   exact⟨Ze0 n,xs,h,r⟩
  ·rw[if_neg z]at e2
   exact hh.mu q u e2
 ·obtain⟨l,c,t,cs,ls,g1,g2,g3,g4,g5,g6,g7,g8,g9⟩:=hh.gen q k e
  have nq:q≠p:=fun z=>n (by rw[←z];exact .inr (.inr ⟨q,k,e, .inl rfl⟩))
  have nl:l≠p:=fun z=>n (by rw[←z];exact .inr (.inr ⟨q,k,e, .inr ⟨_,l,g5,rfl,rfl⟩⟩))
  refine⟨l,c,t,cs,ls,g1,g2, ?_, ?_,g5,g6,g7,g8,g9⟩
  ·show(if q=p then some (MO.ml ds)else s.mu q)=none
   rw[if_neg nq];exact g3
  ·show(if l=p then some (MO.ml ds)else s.mu l)=none
   rw[if_neg nl];exact g4
theorem Ext.ZlN{F0 H0 F H:Hp}{s0 s:S}(x:Ext F0 s0 H0 F s H){p:Addr}{m:MO}(n0:H0 p=none)(n: ¬own F s H p):Ext F0 s0 H0 F (s.put p m) H:=⟨x.same,fun q u e w z=>by
 have ne:q≠p:=fun y=>by rw[y,n0]at e;cases e
 obtain⟨h1,n1⟩:=x.rest q u e w z
 refine⟨h1,fun y=>n1 ?_⟩
 rcases y with y|y|y
 ·exact .inl y
 ·have y':(if q=p then some m else s.mu q)≠none:=y
  rw[if_neg ne]at y'
  exact .inr (.inl y')
 ·exact .inr (.inr y)⟩
def Zov(f0:Arg)(g:DG)(t:Xp)(f:Exp)(vs:List Nat):Exp:=fun e s R E=>f0 e s (fun ds s1=>ds.length≤sizeLine∧DR g t f (Jk e vs) (fun ys s2=> ∀p,s2.mu p=none→R (.rf (.ref p)) (s2.put p (.ml ys))) ds [] s1) E
theorem Znh{g:DG}{vs:List Nat}{f0:Arg}{t:Xp}{f:Exp}{σ:L2.St}{H:Hp}{Q:VK}(h:Lp X.K T W (Zov f0 g t f vs) σ H Q):tLc (ZlI X.K T W f0) (ZgU X.K T vs g) (liftT X.K T wF t) (Lp X.K T wF f) vs σ H Q:=by
 obtain⟨F,e,s,R,E,he,hh,hx,hf,post⟩:=h
 refine⟨F,e,s,_,E,he,hh,hx,hf,fun ds s1 J H1 F1 q1 x1 hh1 it Dl nD=> ?_⟩
 obtain⟨hz,q1⟩:=q1
 obtain⟨hb,xb,ob⟩:=hh1.begin nD
 refine⟨fun i m H'=> ∃F' s' acc aD,i≤ds.length∧m=ds.length-i∧acc.length≤i∧Hold X.K T F' s' H'∧Ext F1 s1 H1 F' s' H'∧H' Dl=some (.lst aD)∧ ¬own F' s' H' Dl∧Qw X.K T F' acc aD∧DR g t f (Jk e vs) (fun ys s2=> ∀p,s2.mu p=none→R (.rf (.ref p)) (s2.put p (.ml ys))) (ds.drop i) acc s',
  ⟨_,F1,s1,[],[],Nat.zero_le _,rfl,Nat.le_refl _,hb,xb,upd_same,ob, .nil,q1⟩, ?_⟩
 rintro i m H2 ⟨F2,s2,acc,aD,hle,rfl,hacc,hh2,x2,h2,o2,ra,q2⟩
 obtain⟨hstop,hgo⟩:=it F2 s2 H2 x2.same hh2
 by_cases hi:i<ds.length
 ·obtain⟨go,hy⟩:=hgo i ds[i] (List.getElem?_eq_getElem hi)
  rw[List.drop_eq_getElem_cons hi]at q2
  refine .inr ⟨go,fun H'=> ∃F' s' acc aD,acc.length≤i+1∧Hold X.K T F' s' H'∧Ext F1 s1 H1 F' s' H'∧H' Dl=some (.lst aD)∧ ¬own F' s' H' Dl∧Qw X.K T F' acc aD∧DR g t f (Jk e vs) (fun ys s2=> ∀p,s2.mu p=none→R (.rf (.ref p)) (s2.put p (.ml ys))) (ds.drop (i+1)) acc s',
   fun H' ⟨F',s',acc,aD,a1,a2,a3,a4,a5,a6,a7⟩=>⟨_,by omega,F',s',acc,aD,by omega,rfl,a1,a2,a3,a4,a5,a6,a7⟩,fun v H3 y=> ?_⟩
  obtain⟨F3,x3,hh3,r3⟩:=hy v H3 y
  refine⟨F3,_,Jk e vs,s2,_,r3,((he.mono x1.same).mono (x2.same.trans x3.same)).wipe vs,hh3,q2,fun e4 s4 σ4 H4 F4 q4 x4 hh4 he4 w4=>⟨by rw[w4,ZcE], ?_⟩⟩
  refine⟨F4,e4,s4,_,_,he4,hh4,pZ,q4,fun b s5 H5 F5 q5 x5 hh5=> ?_⟩
  have xx:=((x2.trans x3).trans x4).trans x5
  obtain⟨h5,o5⟩:=((x3.trans x4).trans x5).keep h2 o2
  have ra5:=ra.mono ((x3.trans x4).trans x5).same
  cases b with
  |false=>exact⟨F5,s5,acc,aD,by omega,hh5,xx,h5,o5,ra5,q5⟩
  |true=>
   refine⟨F5,e4,s5,_,_,he4.mono x5.same,hh5,pZ,q5,fun d s6 w H6 F6 q6 x6 hh6 r6=> ?_⟩
   obtain⟨h6,o6⟩:=x6.keep h5 o5
   have ra6:=ra5.mono x6.same
   refine⟨aD,h6,by rw[←ra6.length];omega, ?_⟩
   obtain⟨g1,g2⟩:=hh6.grow (ys:=aD++[w]) h6 o6
   exact⟨F6,s6,acc++[d],aD++[w],by rw[List.length_append];show acc.length+1≤i+1;omega,g1,(xx.trans x6).grow nD o6,upd_same,g2,ra6.append (.cons r6 .nil),q6⟩
 ·have hn:ds.length≤i:=by omega
  rw[List.drop_eq_nil_of_le hn]at q2
  refine .inl ⟨hstop i hn, ?_⟩
  exact post _ _ _ H2 F2 (q2 Dl (notM o2)) (x1.trans (x2.ZlN nD o2)) (hh2.ZlN h2 o2 ra) (.rf _)
theorem ZrE{g:DG}{elt tg iter:Expr}{ifs:List Expr}{scope:Scope}{own:List (Str×Nat)}{f0:Arg}{t:Xp}{f:Exp}(hc:X.calm=true)(hN:X.N.Nodup)(hi:DI X T W tg iter f0)(ok:BlkOk X.N X.env.scope scope own)
  (hg:Gj X scope fun Y=>Zbc Y T (own.map (·.2)) tg g) (ht:Gj X scope fun Y=>DTs Y T wF ifs t) (he:Gj X scope fun Y=>DX Y T wF elt f) (hs: ∀x,foldedSetIterable iter X.env x=pure x:=by intro _;rfl):
  DX X T W (.ListComp elt [⟨tg,iter,ifs,0⟩] scope pos) (Zov f0 g t f (own.map (·.2))):=
 ⟨Yj (pe_lc hc hN hi.pi ok (fun s H C cl fp=>(hg s H C cl fp).pg) (fun s H C cl fp=>(ht s H C cl fp).pts) (fun s H C cl fp=>(he s H C cl fp).pe) hs) fun σ H Q h=>Znh h⟩
def ZwW(x:D)(lo hi:Option Int)(s:S)(R:Q1):Prop:= ∃ds,cJ x s=some ds∧ ∀p,s.mu p=none→R (.rf (.ref p)) (s.put p (.ml (cutD ds lo hi)))
def Zte(f:Exp)(l h:Prt):Exp:=fun e s R E=>f e s (fun d s1=>l e s1 (fun lo s2=>h e s2 (fun hi s3=>ZwW d lo hi s3 R) E) E) E
theorem Zky{lo hi:Option Expr}{l h:Prt}{p2:Pos}(ha:DX X T W a fa)(hl:DPO X T W lo l)(hh:DPO X T W hi h):DX X T W (.Subscript a (.Slice lo hi none p2) pos) (Zte fa l h):=⟨Yj (pe_slice sl_list ha.pe hl.po hh.po) fun σ H Q hq=>by
 obtain⟨F,e,s,R,E,he,hd,hx,hf,post⟩:=hq
 refine⟨F,e,s,_,E,he,hd,hx,hf,fun d s1 v H1 F1 q1 x1 hd1 r1=>⟨F1,e,s1,_,E,he.mono x1.same,hd1,hx.mono x1,q1,fun o1 s2 H2 F2 q2 x2 hd2=>⟨F2,e,s2,_,E,(he.mono x1.same).mono x2.same,hd2,(hx.mono x1).mono x2,q2,fun o2 s3 H3 F3 q3 x3 hd3=> ?_⟩⟩⟩
 have r3:=(r1.mono x2.same).mono x3.same
 have px:=((post.mono x1).mono x2).mono x3
 obtain⟨ds,h1,q⟩:=q3
 obtain⟨p,xs,rfl,hL,rr⟩:=r3.Zku hd3 h1
 refine⟨p,xs,rfl,hL,fun t nt=> ?_⟩
 exact px _ _ _ _ F3 (q t (hd3.jw nt)) (Ext.new hd3 nt) (hd3.new nt ⟨_,rfl,rr.cut o1 o2⟩) (.rf _)⟩
def Ze2(cs:List Int)(l:Addr)(t:Int):MO:= .mk [(Sum.inr "cells", .lst (cs.map .int)),(Sum.inr "left", .rf (.ref l)),(Sum.inr "at", .int t)]
def S.open(s:S)(p l:Addr)(cs ls:List Int)(t:Int):S:=(S.mk s.mu none|>.put l (.ml (ls.map .int))).put p (Ze2 cs l t)
def S.shut(s:S)(p l:Addr)(n:Nat):S:=⟨((s.del p).del l).mu,some (p,n)⟩
section
variable{K:PySem.W.Frag}{T:Tb}{F H:Hp}{s:S}{p l:Addr}{n:Nat}{cs ls:List Int}{t:Int}
theorem Hold.Zuj(hh:Hold K T F s H)(e:s.g=some (p,n)): ∃(l:Addr) (t:Int) (cs ls:List Int),0≤t∧t+n≤2^60∧s.mu p=none∧s.mu l=none∧l≠p∧Hold K T F (s.open p l cs ls t) H∧Ext F s H F (s.open p l cs ls t) H:=by
 obtain⟨l,c,t,cs,ls,g1,g2,g3,g4,g5,g6,g7,g8,g9⟩:=hh.gen p n e
 have np:l≠p:=fun z=>by rw[z,g5]at g7;cases g7
 refine⟨l,t,cs,ls,g8,g9,g3,g4,np,⟨hh.sub,fun q u w=> ?_,fun q k w=>(by cases w),hh.tab,hh.XS⟩,Same.refl F,fun q u w z zz=>⟨w,fun y=>z ?_⟩⟩
 ·have w':(if q=p then some (Ze2 cs l t)else if q=l then some (MO.ml (ls.map .int))else s.mu q)=some u:=w
  by_cases z:q=p
  ·rw[if_pos z]at w'
   cases w'
   subst z
   exact⟨g1,_,g5, .cons (.lst g6 DP) (.cons (.rf _) (.cons (.int t) .nil))⟩
  ·rw[if_neg z]at w'
   by_cases zl:q=l
   ·rw[if_pos zl]at w'
    cases w'
    subst zl
    exact⟨g2,_,g7,DP⟩
   ·rw[if_neg zl]at w'
    exact hh.mu q u w'
 ·rcases y with y|y|⟨a,m,h1,_⟩
  ·exact .inl y
  ·have y':(if q=p then some (Ze2 cs l t)else if q=l then some (MO.ml (ls.map .int))else s.mu q)≠none:=y
   by_cases z:q=p
   ·exact .inr (.inr ⟨p,n,e, .inl z⟩)
   ·rw[if_neg z]at y'
    by_cases zl:q=l
    ·exact .inr (.inr ⟨p,n,e, .inr ⟨_,l,g5,rfl,zl⟩⟩)
    ·rw[if_neg zl]at y'
     exact .inr (.inl y')
  ·cases h1
theorem Hold.Zqt(hh:Hold K T F s H)(g0:s.g=none)(hp:s.mu p=some (Ze2 cs l t))(hl:s.mu l=some (.ml (ls.map .int)))(h0:0≤t)(h1:t+n≤2^60):Hold K T F (s.shut p l n) H∧Ext F s H F (s.shut p l n) H:=by
 obtain⟨fp,ws,ep,rp⟩:=hh.mu p _ hp
 obtain⟨fl,vs,el,rl⟩:=hh.mu l _ hl
 have e1:=sG rl
 subst e1
 cases rp with|cons r1 rp=>cases rp with|cons r2 rp=>cases rp with|cons r3 rp=>
 cases rp
 cases r2;cases r3
 cases r1 with|lst lc rc=>
 have e2:=sG rc
 subst e2
 have dl: ∀q,(s.shut p l n).mu q=if q=l then none else if q=p then none else s.mu q:=fun q=>rfl
 refine⟨⟨hh.sub,fun q u w=> ?_,fun q k w=> ?_,hh.tab,hh.XS⟩,Same.refl F,fun q u w z zz=>⟨w,fun y=>z ?_⟩⟩
 ·rw[dl]at w
  split at w
  ·cases w
  ·split at w
   ·cases w
   ·exact hh.mu q u w
 ·cases w
  refine⟨l,_,t,cs,ls,fp,fl, ?_, ?_,ep,lc,el,h0,h1⟩
  ·rw[dl];split<;>simp
  ·rw[dl,if_pos rfl]
 ·rcases y with y|y|⟨a,m,h1,h2⟩
  ·exact .inl y
  ·rw[dl]at y
   split at y
   ·exact absurd rfl y
   ·split at y
    ·exact absurd rfl y
    ·exact .inr (.inl y)
  ·cases h1
   refine .inr (.inl ?_)
   rcases h2 with h2|⟨kvs,l',h3,h4,h5⟩
   ·rw[h2,hp];exact fun z=>by cases z
   ·rw[ep]at h3;cases h3
    have e:some (V.ref l)=some (V.ref l'):=h4
    cases e
    rw[h5,hl];exact fun z=>by cases z
end
def Zqu(i:Nat)(t:Yh):Yh:=fun D e s=> ∃p n,nth e i=some (.rf (.ref p))∧s.g=some (p,n)∧ ∀(l:Addr) (t0:Int) (cs ls:List Int),0≤t0→t0+n≤2^60→s.mu p=none→s.mu l=none→l≠p→t D e (s.open p l cs ls t0)
theorem Zni{i:Nat}{sts:List Stmt}{t:Yh}(h:qM X T W sts t):qM X T W sts (Zqu i t):=⟨wN h.pss fun Q σ H ⟨F,e,s,D,he,hh,ht,p⟩=>by
 obtain⟨q,n,h1,h2,h3⟩:=ht
 obtain⟨l,t0,cs,ls,a1,a2,a3,a4,a5,a6,a7⟩:=hh.Zuj h2
 exact⟨F,e,_,D,he,a6,h3 l t0 cs ls a1 a2 a3 a4 a5,p.mono a7⟩⟩
def Zb4(i:Nat)(f:Exp):Exp:=fun e s R E=>f e s (fun d s1=> ∃(p l:Addr) (cs ls:List Int) (t:Int) (n:Nat),nth e i=some (.rf (.ref p))∧s1.g=none∧s1.mu p=some (Ze2 cs l t)∧s1.mu l=some (.ml (ls.map .int))∧0≤t∧t+n≤2^60∧R d (s1.shut p l n)) E
theorem ZjB{i:Nat}(h:DX X T W a fa):DX X T W a (Zb4 i fa):=⟨Yj h.pe fun σ H Q hq=>by
 obtain⟨F,e,s,R,E,he,hh,hx,hf,post⟩:=hq
 refine⟨F,e,s,_,E,he,hh,hx,hf,fun x s1 vx H1 F1 q1 e1 hh1 rx=> ?_⟩
 obtain⟨p,l,cs,ls,t,n,h0,h1,h2,h3,h4,h5,q⟩:=q1
 obtain⟨a1,a2⟩:=hh1.Zqt h1 h2 h3 h4 h5
 exact post _ _ _ H1 F1 q (e1.trans a2) a1 rx⟩
def Zma(n:Nat)(f:Exp):Exp:=fun e s R E=>f e s (fun d s1=> ∃(p l:Addr) (cs ls:List Int) (t:Int),d= .rf (.ref p)∧s1.g=none∧s1.mu p=some (Ze2 cs l t)∧s1.mu l=some (.ml (ls.map .int))∧0≤t∧t+n≤2^60∧R d (s1.shut p l n)) E
theorem Znj{n:Nat}(h:DX X T W a fa):DX X T W a (Zma n fa):=⟨Yj h.pe fun σ H Q hq=>by
 obtain⟨F,e,s,R,E,he,hh,hx,hf,post⟩:=hq
 refine⟨F,e,s,_,E,he,hh,hx,hf,fun x s1 vx H1 F1 q1 e1 hh1 rx=> ?_⟩
 obtain⟨p,l,cs,ls,t,h0,h1,h2,h3,h4,h5,q⟩:=q1
 obtain⟨a1,a2⟩:=hh1.Zqt h1 h2 h3 h4 h5
 exact post _ _ _ H1 F1 q (e1.trans a2) a1 rx⟩
end
end Bk
namespace Bk
open PySem PySem.Spec PyProof.Rows L2
structure Af(k w:Nat)(d:D):Prop where
 pl:d.pl=true
 lay:d.py.canLay0=true
 dep:d.py.depth≤k
 wt:d.py.weight≤w
 short:d.py.intsShort 13=true
 sh:d.py.showable=true
def Cu(x:Str):Prop:=PyData.strOk x=true∧x.length≤64
theorem Af.mono{k w k' w':Nat}{d:D}(h:Af k w d)(hk:k≤k')(hw:w≤w'):Af k' w' d:=⟨h.pl,h.lay,Nat.le_trans h.dep hk,Nat.le_trans h.wt hw,h.short,h.sh⟩
theorem Kg{x:Str}{k w:Nat}(h:PyData.strOk x=true)(hw:x.length≤w):Af k w (.str x) where
 pl:=rfl
 lay:=by rw[D.py,PyData.canLay0];exact h
 dep:=by rw[D.py,PyData.depth];exact Nat.zero_le _
 wt:=by rw[D.py,PyData.weight];exact hw
 short:=by rw[D.py,PyData.intsShort]
 sh:=by rw[D.py,PyData.showable]
theorem Zmb{x:Str}{k:Nat}(h:Cu x):Af k 64 (.str x):=Kg h.1 h.2
theorem Zpl{k w:Nat}:Af k w .non where
 pl:=rfl
 lay:=by rw[D.py,PyData.canLay0]
 dep:=by rw[D.py,PyData.depth];exact Nat.zero_le _
 wt:=by rw[D.py,PyData.weight];exact Nat.zero_le _
 short:=by rw[D.py,PyData.intsShort]
 sh:=by rw[D.py,PyData.showable]
theorem log2_lt{n k:Nat}(h:n<2^k)(hk:0<k):n.log2<k:=by
 by_cases e:n=0
 ·subst e;rw[Nat.log2_zero];exact hk
 ·exact(Nat.log2_lt e).mpr h
theorem ZjC{i:Int}{k w:Nat}(h1: -(10^12)<i)(h2:i<10^12)(hw:64≤w):Af k w (.int i):=by
 have hb:i.natAbs<10^12:=by omega
 have hl:i.natAbs.log2<40:=log2_lt (Nat.lt_trans hb (by decide)) (by decide)
 refine⟨rfl,by rw[D.py,PyData.canLay0],by rw[D.py,PyData.depth];exact Nat.zero_le _, ?_, ?_, ?_⟩
 ·rw[D.py,PyData.weight]
  split<;>omega
 ·rw[D.py,PyData.intsShort]
  refine decide_eq_true ?_
  rw[PyData.shown]
  have:=int_text_length_le10 (a:=i) (k:=12) (by decide) hb
  have e:(Str.ofString (toString i)).length≤(toString i).length:=by
   rw[Str.ofString_eq_toList]
   show((toString i).toList.map Char.toNat).toArray.size≤_
   rw[List.size_toArray,List.length_map]
   exact Nat.le_of_eq String.length_toList
  exact Nat.le_trans e this
 ·rw[D.py,PyData.showable]
  exact decide_eq_true (by omega)
theorem Zq9{k w n:Nat}: ∀{xs:List D},(∀x∈xs,Af k w x)→xs.length≤n→D.pls xs=true∧PyData.canLayAll0 (D.Gi xs)=true∧PyData.depthAll (D.Gi xs)≤k∧PyData.weightAll (D.Gi xs)≤n*(w+1)∧PyData.intsShortAll 13 (D.Gi xs)=true∧PyData.showableAll (D.Gi xs)=true
 |[],_,_=>by simp [D.pls,D.Gi,PyData.canLayAll0,PyData.depthAll,PyData.weightAll,PyData.intsShortAll,PyData.showableAll]
 |x::xs,h,hn=>by
  cases n with
  |zero=>exact absurd hn (Nat.not_succ_le_zero _)
  |succ n=>
   have h1:=h x List.mem_cons_self
   obtain⟨a1,a2,a3,a4,a5,a6⟩:=Zq9 (n:=n) (fun y hy=>h y (List.mem_cons_of_mem _ hy)) (Nat.le_of_succ_le_succ hn)
   simp only[D.pls,D.Gi,PyData.canLayAll0,PyData.depthAll,PyData.weightAll,PyData.intsShortAll,PyData.showableAll,Bool.and_eq_true]
   have:=h1.wt
   have e:(n+1)*(w+1)=n*(w+1)+(w+1):=Nat.succ_mul ..
   exact⟨⟨h1.pl,a1⟩,⟨h1.lay,a2⟩,Nat.max_le.mpr ⟨h1.dep,a3⟩,by omega,⟨h1.short,a5⟩,⟨h1.sh,a6⟩⟩
theorem cM{k w n:Nat}{xs:List D}(h: ∀x∈xs,Af k w x)(hn:xs.length≤n):Af (k+1) (n*(w+1)) (.tup xs):=by
 obtain⟨a1,a2,a3,a4,a5,a6⟩:=Zq9 h hn
 refine⟨by rw[D.pl];exact a1,by rw[D.py,PyData.canLay0];exact a2,by rw[D.py,PyData.depth];omega,by rw[D.py,PyData.weight];exact a4,by rw[D.py,PyData.intsShort];exact a5,by rw[D.py,PyData.showable];exact a6⟩
theorem Zd0{k w n:Nat}{xs:List D}(h: ∀x∈xs,Af k w x)(hn:xs.length≤n):Af (k+1) (n*(w+1)) (.lst xs):=by
 obtain⟨a1,a2,a3,a4,a5,a6⟩:=Zq9 h hn
 refine⟨by rw[D.pl];exact a1,by rw[D.py,PyData.canLay0];exact a2,by rw[D.py,PyData.depth];omega,by rw[D.py,PyData.weight];exact a4,by rw[D.py,PyData.intsShort];exact a5,by rw[D.py,PyData.showable];exact a6⟩
theorem Af.YF{k w:Nat}{d:D}(h:Af k w d)(hk:k≤64):d.YF=true:=by
 unfold D.YF SeqAt.shaped
 rw[h.pl,h.lay,decide_eq_true (Nat.le_trans h.dep hk)];rfl
def texts(ns:List Str):List D:=ns.map .str
theorem QL(ns:List Str):(texts ns).length=ns.length:=by unfold texts;simp
theorem Zkz{ns:List Str}{k:Nat}(h: ∀x∈ns,Cu x): ∀x∈texts ns,Af k 64 x:=fun d hd=>by
 obtain⟨x,hx,rfl⟩:=List.mem_map.mp hd
 exact Zmb (h x hx)
theorem pA(x y:Str):(D.str x).eqb (.str y)=decide (x=y):=by
 unfold D.eqb
 rw[D.py,D.py,PyData.eqv]
 by_cases h:x=y
 ·subst h;simp
 ·simp [h]
theorem wX(x y:Int):(D.int x).eqb (.int y)=decide (x=y):=by
 unfold D.eqb
 rw[D.py,D.py,PyData.eqv]
 by_cases h:x=y
 ·subst h;simp
 ·simp [h]
theorem Tq(x:Str)(ns:List Str):isIn (.str x) (texts ns)=decide (x∈ns):=by
 unfold isIn texts
 rw[List.any_map]
 by_cases h:x∈ns
 ·rw[decide_eq_true h]
  exact List.any_eq_true.mpr ⟨x,h,by show(D.str x).eqb (.str x)=true;rw[pA];exact decide_eq_true rfl⟩
 ·rw[decide_eq_false h,List.any_eq_false]
  intro y hy z
  have z':(D.str y).eqb (.str x)=true:=z
  rw[pA,decide_eq_true_eq]at z'
  exact h (z'▸hy)
theorem qb{g:DG}{tb:Yh}{DD:Ru}(I:List D→Zq→S→Prop)(hend: ∀e s,I [] e s→DD.nx e s)
  (hstep: ∀d ds e s (K:Zq→S→Prop),I (d::ds) e s→(∀e' s',I ds e' s'→K e' s')→g d e s (fun e1 s1=>tb {DD with nx:=K,ct:=K,bk:=DD.nx} e1 s1)): ∀ds e s,I ds e s→cG g tb DD ds e s
 |[],e,s,h=>hend e s h
 |d::ds,e,s,h=>hstep d ds e s _ h fun e' s' q=>qb I hend hstep ds e' s' q
theorem zJ{g:DG}{t:Xp}{f:Exp}{e0:Zq}{R:List D→S→Prop}(I:List D→List D→S→Prop)(hend: ∀acc s,I [] acc s→R acc s)
  (hstep: ∀d ds acc s (K:List D→S→Prop),I (d::ds) acc s→(∀acc' s',I ds acc' s'→K acc' s')→g d e0 s (fun e1 s1=>t e1 s1 (fun b s2=>if b=true then f e1 s2 (fun y s3=>K (acc++[y]) s3) (fun _ _=>False)else K acc s2) (fun _ _=>False))):
  ∀ds acc s,I ds acc s→DR g t f e0 R ds acc s
 |[],acc,s,h=>hend acc s h
 |d::ds,acc,s,h=>hstep d ds acc s (fun acc' s'=>DR g t f e0 R ds acc' s') h fun acc' s' q=>zJ I hend hstep ds acc' s' q
def pDr(c:Nat)(pre:List D→Prop)(Pd:List D→D→Prop):Fn:=fun ds s R _=> ∃mu p m as,ds=D.rf (.ref p)::as∧s=⟨mu,some (p,m)⟩∧c≤m∧pre as∧ ∀d,Pd as d→R d ⟨mu,some (p,m-c)⟩
theorem Zg0{c:Nat}{pre:List D→Prop}{Pd:List D→D→Prop}{mu:Addr→Option MO}{p:Addr}{m:Nat}{as:List D}{R:Q1}{E:XQ}(hc:c≤m)(hp:pre as)(h: ∀d,Pd as d→R d ⟨mu,some (p,m-c)⟩):pDr c pre Pd (.rf (.ref p)::as) ⟨mu,some (p,m)⟩ R E:=
 ⟨mu,p,m,as,rfl,rfl,hc,hp,h⟩
theorem Sub.of{mu mu':Addr→Option MO}{p:Addr}{n m:Nat}(h: ∀q o,mu q=some o→mu' q=some o)(hn:n≤m):Sub ⟨mu,some (p,n)⟩ ⟨mu',some (p,m)⟩:=⟨h,fun q k e=>by cases e;exact⟨m,hn,rfl⟩⟩
theorem Sub.less{mu:Addr→Option MO}{p:Addr}{n m:Nat}(hn:n≤m):Sub ⟨mu,some (p,n)⟩ ⟨mu,some (p,m)⟩:= .of (fun _ _ h=>h) hn
end Bk
namespace Bk
open PySem PySem.Spec PyProof.Rows L2
theorem Ow(ns:List Int):(D.lst (ns.map .int)).YF=true:=by
 have h: ∀ns:List Int,D.pls (ns.map .int)=true∧PyData.canLayAll0 (D.Gi (ns.map .int))=true∧PyData.depthAll (D.Gi (ns.map .int))=0:=by
  intro ns
  induction ns with
  |nil=>simp [D.pls,D.Gi,PyData.canLayAll0,PyData.depthAll]
  |cons n ns ih=>simp [D.pls,D.Gi,PyData.canLayAll0,PyData.depthAll,D.pl,D.py,PyData.canLay0,PyData.depth,ih.1,ih.2.1,ih.2.2]
 obtain⟨h1,h2,h3⟩:=h ns
 unfold D.YF SeqAt.shaped
 rw[D.pl,D.py,PyData.canLay0,PyData.depth,h1,h2,h3];rfl
theorem Wz(i:Int):(D.int i).YF=true:=by
 unfold D.YF SeqAt.shaped
 rw[D.pl,D.py,PyData.canLay0,PyData.depth];rfl
theorem dD(xs:List D):(D.lst xs).eqb (.lst [])=xs.isEmpty:=by
 unfold D.eqb
 rw[D.py,D.py,PyData.eqv]
 cases xs with
 |nil=>rw[D.Gi,PyData.eqvAll];rfl
 |cons x xs=>rw[D.Gi,D.Gi,PyData.eqvAll];rfl
def Wm(cs:List Int)(l:Addr)(t:Int):List (Key×D):=[(Sum.inr "cells", .lst (cs.map .int)),(Sum.inr "left", .rf (.ref l)),(Sum.inr "at", .int t)]
theorem Zra:(("cells" :Str)="left")=False:=by decide
theorem Zrb:(("cells" :Str)="at")=False:=by decide
theorem Zrc:(("left" :Str)="at")=False:=by decide
theorem ZwX:(("at" :Str)="left")=False:=by decide
theorem Rw(cs:List Int)(l:Addr)(t:Int):dval (Wm cs l t) (Sum.inr "left")=some (.rf (.ref l)):=by
 unfold dval Wm
 simp [Zra]
theorem ZkA(cs:List Int)(l:Addr)(t:Int):dval (Wm cs l t) (Sum.inr "cells")=some (.lst (cs.map .int)):=by
 unfold dval Wm
 simp
theorem ZrF(cs:List Int)(l:Addr)(t:Int):dval (Wm cs l t) (Sum.inr "at")=some (.int t):=by
 unfold dval Wm
 simp [Zrb,Zrc]
theorem Zen(cs:List Int)(l l':Addr)(t:Int):dput (Wm cs l t) (Sum.inr "left") (.rf (.ref l'))=Wm cs l' t:=by
 unfold dput Wm
 rw[if_pos (by simp)]
 simp [Zra,ZwX]
theorem Zin(cs:List Int)(l:Addr)(t t':Int):dput (Wm cs l t) (Sum.inr "at") (.int t')=Wm cs l t':=by
 unfold dput Wm
 rw[if_pos (by simp)]
 simp [Zrb,Zrc]
structure GO(mu0:Addr→Option MO)(p:Addr)(cs:List Int)(t:Int)(s:S)(l:Addr)(ls:List Int):Prop where
 g0:s.g=none
 hp:s.mu p=some (.mk (Wm cs l t))
 hl:s.mu l=some (.ml (ls.map .int))
 np:l≠p
 sub: ∀q o,mu0 q=some o→s.mu q=some o
 m0p:mu0 p=none
 m0l:mu0 l=none
section
variable{mu0:Addr→Option MO}{p l:Addr}{cs ls:List Int}{t:Int}{s:S}
theorem GO.start{n:Nat}(hp:mu0 p=none)(hl:mu0 l=none)(np:l≠p):GO mu0 p cs t (S.open ⟨mu0,some (p,n)⟩ p l cs ls t) l ls:=by
 have e: ∀q,(S.open ⟨mu0,some (p,n)⟩ p l cs ls t).mu q=if q=p then some (Ze2 cs l t)else if q=l then some (MO.ml (ls.map .int))else mu0 q:=fun q=>rfl
 refine⟨rfl,by rw[e,if_pos rfl];rfl,by rw[e,if_neg np,if_pos rfl],np,fun q o h=> ?_,hp,hl⟩
 rw[e,if_neg (fun z=>by rw[z,hp]at h;cases h),if_neg (fun z=>by rw[z,hl]at h;cases h)]
 exact h
theorem GO.ZwY(G:GO mu0 p cs t s l ls)(t':Int):GO mu0 p cs t' (s.put p (.mk (Wm cs l t'))) l ls:=by
 have e: ∀q,(s.put p (.mk (Wm cs l t'))).mu q=if q=p then some (MO.mk (Wm cs l t'))else s.mu q:=fun q=>rfl
 refine⟨G.g0,by rw[e,if_pos rfl],by rw[e,if_neg G.np];exact G.hl,G.np,fun q o h=> ?_,G.m0p,G.m0l⟩
 rw[e,if_neg (fun z=>by rw[z,G.m0p]at h;cases h)]
 exact G.sub q o h
theorem GO.ZwZ(G:GO mu0 p cs t s l ls)(ls':List Int):GO mu0 p cs t (s.put l (.ml (ls'.map .int))) l ls':=by
 have e: ∀q,(s.put l (.ml (ls'.map .int))).mu q=if q=l then some (MO.ml (ls'.map .int))else s.mu q:=fun q=>rfl
 refine⟨G.g0,by rw[e,if_neg G.np.symm];exact G.hp,by rw[e,if_pos rfl],G.np,fun q o h=> ?_,G.m0p,G.m0l⟩
 rw[e,if_neg (fun z=>by rw[z,G.m0l]at h;cases h)]
 exact G.sub q o h
theorem GO.toL(G:GO mu0 p cs t s l ls){l':Addr}(n:s.mu l'=none)(ls':List Int):GO mu0 p cs t ((s.put l' (.ml (ls'.map .int))).put p (.mk (Wm cs l' t))) l' ls':=by
 have e: ∀q,((s.put l' (.ml (ls'.map .int))).put p (.mk (Wm cs l' t))).mu q=if q=p then some (MO.mk (Wm cs l' t))else if q=l' then some (MO.ml (ls'.map .int))else s.mu q:=fun q=>rfl
 have np:l'≠p:=fun z=>by rw[z,G.hp]at n;cases n
 have nl:mu0 l'=none:=by
  cases h:mu0 l' with
  |none=>rfl
  |some o=>rw[G.sub _ _ h]at n;cases n
 refine⟨G.g0,by rw[e,if_pos rfl],by rw[e,if_neg np,if_pos rfl],np,fun q o h=> ?_,G.m0p,nl⟩
 rw[e,if_neg (fun z=>by rw[z,G.m0p]at h;cases h),if_neg (fun z=>by rw[z,nl]at h;cases h)]
 exact G.sub q o h
theorem GO.shut(G:GO mu0 p cs t s l ls)(n:Nat):Sub ⟨mu0,some (p,n)⟩ (s.shut p l n):=by
 have e: ∀q,(s.shut p l n).mu q=if q=l then none else if q=p then none else s.mu q:=fun q=>rfl
 refine Sub.of (mu':=(s.shut p l n).mu) (fun q o h=> ?_) (Nat.le_refl n)
 rw[e,if_neg (fun z=>by rw[z,G.m0l]at h;cases h),if_neg (fun z=>by rw[z,G.m0p]at h;cases h)]
 exact G.sub q o h
end
theorem Gy(x:D)(xs:List D):cutD (x::xs) (some 1) none=xs:=by
 unfold cutD
 rw[show HT.sIx (x::xs).length 0 (some 1)=min 1 (x::xs).length from HT.sIx_nat (x::xs).length 0 1,HT.sIx_none]
 rw[show min 1 (x::xs).length=1 by rw[List.length_cons];omega]
 show List.take ((x::xs).length-1) xs=xs
 rw[List.length_cons,Nat.add_sub_cancel]
 exact List.take_length
theorem ZlO{α:Type}(x:α)(xs:List α):atI (x::xs) 0=some x:=by
 unfold atI ixN
 rw[if_pos (by omega),if_pos (by rw[List.length_cons];omega)];rfl
theorem Zuk{α:Type}(x:α)(xs:List α):ixN (x::xs).length 0=some 0:=by
 unfold ixN
 rw[if_pos (by omega),if_pos (by rw[List.length_cons];omega)];rfl
theorem yj{α:Type}{xs:List α}{i:Int}(h0:0≤i)(h1:i<xs.length): ∃x,atI xs i=some x∧x∈xs:=by
 unfold atI ixN
 rw[if_pos h0,if_pos h1]
 have:i.toNat<xs.length:=by omega
 exact⟨xs[i.toNat],by show xs[i.toNat]? =_;exact List.getElem?_eq_getElem this,List.getElem_mem this⟩
abbrev dF:List Str:=["_law_script","_law_cell"]
def uX:Yh:=(QJ (Zma 1125899906842624 (Zl8 [((dC (.str "cells")),(Qp Zb3 (Zd (Zf 0) Zo))),((dC (.str "left")),(Zov (Vy (Zf 0)) (Z6 1) (ZX (ZG oGe (Zf 1) (ZG Ztb (dC (.int 10)) (dC (.int 18))))) (Zf 1) [1])),((dC (.str "at")),(dC (.int 0)))])))
def Ef:Fn:=fun ds s R _=> ∃ns,ds=[.U7 ns]∧s=⟨fun _=>none,none⟩∧ ∀p,R (.rf (.ref p)) ⟨fun _=>none,some (p,1125899906842624)⟩
theorem ZfR{c:Int→Bool}{f:Exp}{e0:Zq}{t:Xp}{R:List D→S→Prop}{s:S}(ns:List Int)(acc:List D)(h:R (acc++(ns.filter c).map .int) s)
  (ht: ∀n (Rt:Bool→S→Prop) E,t (Jh e0 1 (some (.int n))) s Rt E=Rt (c n) s) (hf: ∀n (Rf:Q1) E,f (Jh e0 1 (some (.int n))) s Rf E=Rf (.int n) s):DR (Z6 1) t f e0 R (ns.map .int) acc s:=by
 induction ns generalizing acc with
 |nil=>simpa [DR]using h
 |cons n ns ih=>
  rw[List.map_cons,DR]
  show t (Jh e0 1 (some (.int n))) s _ _
  rw[ht]
  cases e:c n with
  |true=>
   rw[if_pos rfl,hf]
   exact ih _ (by rw[List.filter_cons_of_pos e,List.map_cons]at h;simpa [List.append_assoc]using h)
  |false=>
   rw[if_neg (by decide)]
   exact ih _ (by rw[List.filter_cons_of_neg (by rw[e];decide)]at h;exact h)
theorem ZfS: ∀ds s R E,ds.length=1→Ef ds s R E→uX (Qx R E) (ZC dF ds) s:=by
 rintro _ _ R E _ ⟨ns,rfl,rfl,h⟩
 refine⟨ns.map .int,rfl,fun hz=>⟨by rw[List.length_map];exact hz, ?_⟩⟩
 refine ZfR (c:=fun n=>decide (10^18≤n)) ns [] ?_ (fun n Rt E=> ?_) (fun n Rf E=>rfl)
 ·intro l _
  refine⟨[(Sum.inr "cells", .lst (ns.map .int)),(Sum.inr "left", .rf (.ref l)),(Sum.inr "at", .int 0)],rfl,Nat.le_of_ble_eq_true rfl,fun p hp=> ?_⟩
  have np:l≠p:=fun z=>by
   subst z
   have hp':(if l=l then some _ else none:Option MO)=none:=hp
   rw[if_pos rfl]at hp';cases hp'
  have em:qP [] [(Sum.inr "cells", .lst (ns.map .int)),(Sum.inr "left", .rf (.ref l)),(Sum.inr "at", .int 0)]=Wm ns l 0:=by
   unfold qP Wm dput
   simp [Zra,Zrb,Zrc]
  refine⟨p,l,ns,ns.filter (fun n=>decide (10^18≤n)),0,rfl,rfl, ?_, ?_,by decide,by decide,⟨_, ?_,h p⟩⟩
  ·show(if p=p then some (MO.mk (qP [] _))else _)=_
   rw[if_pos rfl,em];rfl
  ·show(if l=p then _ else if l=l then some (MO.ml _)else _)=_
   rw[if_neg np,if_pos rfl];rfl
  ·exact .of (fun q o z=>by cases z) (Nat.le_refl _)
 ·show(CPow 10 18∧_)=_
  rw[eq_iff_iff]
  exact⟨fun z=>z.2,fun z=>⟨⟨by decide,by decide,by decide⟩,z⟩⟩
abbrev Zao:List Str:=["_law_m","_law_many","_law_rest","_law_at","_law_lot","_law_cell","_law_blend"]
def Zap:Yh:=(Zqu 0 (ZV (yd (ZhO (ZX (ZG Zou (bL (Zf 0) (dC (.str "left"))) (VH Zo))) (ZX (ZG oEq (ZG Ua (bL (Zf 0) (dC (.str "left"))) (dC (.int 0))) (dC (.int 0))))) (ZhT (Zf 0) (dC (.str "left")) (Zte (bL (Zf 0) (dC (.str "left"))) (Vg (dC (.int 1))) Jj)))
 (ZV (Jv (ZX (ZG Zou (bL (Zf 0) (dC (.str "left"))) (VH Zo))) (ZV (Jo 2 (ZG Ua (bL (Zf 0) (dC (.str "left"))) (dC (.int 0))))
 (ZV (ZgY (bL (Zf 0) (dC (.str "left"))) (dC (.int 0)) (ZG oDiv (Zf 2) (Zf 1)))
 (QJ (Zb4 0 (ZG oMod (Qp cInt (Zd (Zf 2) Zo)) (Zf 1)))))) QD)
 (ZV (dPar 3 4 (Zd (ZG JN (bL (Zf 0) (dC (.str "at"))) (dC (.int 1))) (Zd (bL (Zf 0) (dC (.str "cells"))) Zo)))
 (ZV (ZhT (Zf 0) (dC (.str "at")) (Zf 3))
 (ZV (Jo 5 (Kc (ZX (ZG uW (Zf 4) (VH Zo))) (Qp cInt (Zd (ZG Ua (Zf 4) (ZG oMod (Qp cInt (Zd (ZG JN (ZG Cr (Zf 3) (Zf 3)) (ZG oDiv (Zf 3) (dC (.int 2)))) Zo)) (Qp BZ (Zd (Zf 4) Zo)))) Zo)) (dC (.int 5))))
 (ZV (Jo 6 (ZG oMod (Qp cInt (Zd (ZG JN (ZG JN (ZG Cr (Zf 5) (dC (.int 40692))) (ZG Cr (Zf 3) (dC (.int 65539)))) (ZG Cr (ZG Cr (dC (.int 7001)) (Zf 3)) (Zf 3))) Zo)) (dC (.int 2147483399))))
 (QJ (Zb4 0 (ZG oMod (Qp cInt (Zd (ZG oDiv (ZG oMod (Qp cInt (Zd (ZG JN (ZG Cr (Zf 6) (dC (.int 48271))) (ZG Cr (dC (.int 1013)) (Zf 3))) Zo)) (dC (.int 2147483647))) (dC (.int 13))) Zo)) (Zf 1)))))))))))
def Qz:Fn:=fun ds s R _=> ∃mu p m k,ds=[.rf (.ref p), .int k]∧s=⟨mu,some (p,m)⟩∧1≤m∧0<k∧k<1073741824∧ ∀r,0≤r→r<k→R (.int r) ⟨mu,some (p,m-1)⟩
theorem Uj{mu:Addr→Option MO}{p:Addr}{m:Nat}{k:Int}{R:Q1}{E:XQ}(hm:1≤m)(h0:0<k)(h1:k<1073741824)(h: ∀r,0≤r→r<k→R (.int r) ⟨mu,some (p,m-1)⟩):Qz [.rf (.ref p), .int k] ⟨mu,some (p,m)⟩ R E:=
 ⟨mu,p,m,k,rfl,rfl,hm,h0,h1,h⟩
theorem bR{s:S}{l:Addr}{ds:List D}(h:s.mu l=some (.ml ds)):cJ (.rf (.ref l)) s=some ds:=by
 show(match s.mu l with|some (MO.ml ds)=>some ds|_=>none)=_
 rw[h]
theorem WD{s:S}{l:Addr}{ds:List (Key×D)}(h:s.mu l=some (.mk ds)):ZlJ (.rf (.ref l)) s=some ds:=by
 show(match s.mu l with|some (MO.mk ds)=>some ds|_=>none)=_
 rw[h]
theorem wY{s:S}{l:Addr}{ds:List D}(h:s.mu l=some (.ml ds)):sU (.rf (.ref l)) s= .lst ds:=by
 unfold sU
 rw[bR h]
theorem Zio: ∀ds s R E,ds.length=2→Qz ds s R E→Zap (Qx R E) (ZC Zao ds) s:=by
 rintro _ _ R E _ ⟨mu,p,m,k,rfl,rfl,hm,hk0,hk1,h⟩
 refine⟨p,m,rfl,rfl,fun l t cs ls h0 h1 hp hl hn=> ?_⟩
 refine⟨fun j e s=>e=[some (.rf (.ref p)),some (.int k),none,none,none,none,none]∧ ∃l ls,GO mu p cs t s l ls∧ls.length=j,⟨_,rfl,l,ls,GO.start hp hl hn,rfl⟩, ?_⟩
 rintro j e s ⟨rfl,l,ls,G,rfl⟩
 --left !=[]
 refine⟨_,_,_,rfl,WD G.hp,Rw cs l t,Nat.zero_le _, ?_⟩
 refine⟨⟨by rw[wY G.hl];exact Ow ls,Ow []⟩, ?_⟩
 rw[wY G.hl]
 rw[show sU (D.lst []) s= .lst []from rfl,dD]
 have hw: ∀{q:Prop},q→q:=fun h=>h
 --behind the loop
 have back: ∀(s:S) (l:Addr) (ls:List Int),GO mu p cs t s l ls→(ls=[]∨ ∃x r,ls=x::r∧x≠0)→
  (ZV (Jv (ZX (ZG Zou (bL (Zf 0) (dC (.str "left"))) (VH Zo))) (ZV (Jo 2 (ZG Ua (bL (Zf 0) (dC (.str "left"))) (dC (.int 0))))
 (ZV (ZgY (bL (Zf 0) (dC (.str "left"))) (dC (.int 0)) (ZG oDiv (Zf 2) (Zf 1)))
 (QJ (Zb4 0 (ZG oMod (Qp cInt (Zd (Zf 2) Zo)) (Zf 1)))))) QD)
 (ZV (dPar 3 4 (Zd (ZG JN (bL (Zf 0) (dC (.str "at"))) (dC (.int 1))) (Zd (bL (Zf 0) (dC (.str "cells"))) Zo)))
 (ZV (ZhT (Zf 0) (dC (.str "at")) (Zf 3))
 (ZV (Jo 5 (Kc (ZX (ZG uW (Zf 4) (VH Zo))) (Qp cInt (Zd (ZG Ua (Zf 4) (ZG oMod (Qp cInt (Zd (ZG JN (ZG Cr (Zf 3) (Zf 3)) (ZG oDiv (Zf 3) (dC (.int 2)))) Zo)) (Qp BZ (Zd (Zf 4) Zo)))) Zo)) (dC (.int 5))))
 (ZV (Jo 6 (ZG oMod (Qp cInt (Zd (ZG JN (ZG JN (ZG Cr (Zf 5) (dC (.int 40692))) (ZG Cr (Zf 3) (dC (.int 65539)))) (ZG Cr (ZG Cr (dC (.int 7001)) (Zf 3)) (Zf 3))) Zo)) (dC (.int 2147483399))))
 (QJ (Zb4 0 (ZG oMod (Qp cInt (Zd (ZG oDiv (ZG oMod (Qp cInt (Zd (ZG JN (ZG Cr (Zf 6) (dC (.int 48271))) (ZG Cr (dC (.int 1013)) (Zf 3))) Zo)) (dC (.int 2147483647))) (dC (.int 13))) Zo)) (Zf 1)))))))))
    (Qx R E) [some (.rf (.ref p)),some (.int k),none,none,none,none,none] s:=by
  intro s l ls G hls
  refine⟨_,_,_,rfl,WD G.hp,Rw cs l t,Nat.zero_le _,⟨by rw[wY G.hl];exact Ow ls,Ow []⟩, ?_⟩
  rw[wY G.hl]
  rw[show sU (D.lst []) s= .lst []from rfl,dD]
  cases ls with
  |cons x r=>
   have hx:x≠0:=by rcases hls with z|⟨x',r',z,h'⟩
                   ·cases z
                   ·cases z;exact h'
   --a number of the script
   refine⟨_,_,_,rfl,WD G.hp,Rw cs l t,_,_,bR G.hl,ZlO _ _, ?_⟩
   refine⟨⟨hk0,hk1⟩,_,_,_,rfl,WD G.hp,Rw cs l t,_,0,G.hl,Zuk (D.int x) (r.map D.int), ?_⟩
   have e1:((x::r).map D.int).set 0 (.int (x/k))=((x/k)::r).map D.int:=rfl
   rw[e1]
   have G2:=G.ZwZ ((x/k)::r)
   refine⟨hk0,p,l,cs,(x/k)::r,t,m-1,rfl,G2.g0,G2.hp,G2.hl,h0,by omega,⟨_,G2.shut (m-1),h _ (Int.emod_nonneg _ (by omega)) (Int.emod_lt_of_pos _ hk0)⟩⟩
  |nil=>
   refine⟨_,_,_,rfl,WD G.hp,ZrF cs l t,_,_,_,rfl,WD G.hp,ZkA cs l t, ?_⟩
   refine⟨_,_,rfl,G.hp,by rw[sizeLine_eq];show 3<16777216;decide, ?_⟩
   rw[Zin]
   have G2:=G.ZwY (t+1)
   have c1:CMul (t+1) (t+1):= .inl ⟨by omega,by omega⟩
   have fin: ∀c:Int,ZV (Jo 6 (ZG oMod (Qp cInt (Zd (ZG JN (ZG JN (ZG Cr (Zf 5) (dC (.int 40692))) (ZG Cr (Zf 3) (dC (.int 65539)))) (ZG Cr (ZG Cr (dC (.int 7001)) (Zf 3)) (Zf 3))) Zo)) (dC (.int 2147483399))))
     (QJ (Zb4 0 (ZG oMod (Qp cInt (Zd (ZG oDiv (ZG oMod (Qp cInt (Zd (ZG JN (ZG Cr (Zf 6) (dC (.int 48271))) (ZG Cr (dC (.int 1013)) (Zf 3))) Zo)) (dC (.int 2147483647))) (dC (.int 13))) Zo)) (Zf 1))))
     (Qx R E) [some (.rf (.ref p)),some (.int k),none,some (.int (t+1)),some (.lst (cs.map .int)),some (.int c),none] (s.put p (.mk (Wm cs l (t+1)))):=by
    intro c
    refine⟨.inr ⟨by decide,by decide⟩, .inr ⟨by decide,by decide⟩, .inl ⟨by decide,by decide⟩, .inr ⟨by omega,by omega⟩,(show(0:Int)<2147483399 by decide), ?_⟩
    refine⟨.inr ⟨by decide,by decide⟩, .inl ⟨by decide,by decide⟩,(show(0:Int)<2147483647 by decide),⟨by decide,by decide⟩,hk0, ?_⟩
    exact⟨p,l,cs,[],t+1,m-1,rfl,G2.g0,G2.hp,G2.hl,by omega,by omega,⟨_,G2.shut (m-1),h _ (Int.emod_nonneg _ (by omega)) (Int.emod_lt_of_pos _ hk0)⟩⟩
   refine⟨Nat.zero_le _,⟨Ow cs,Ow []⟩, ?_⟩
   rw[dD]
   cases cs with
   |nil=>exact fin 5
   |cons c0 cs=>
    refine⟨c1,⟨by decide,by decide⟩,_,rfl,by show(0:Int)<(((c0::cs).map D.int).length:Nat);rw[List.length_map,List.length_cons];omega, ?_⟩
    obtain⟨d,hd,hm'⟩:=yj (xs:=(c0::cs).map D.int) (i:=((t+1)*(t+1)+(t+1)/2) % (((c0::cs).map D.int).length:Nat)) (Int.emod_nonneg _ (by rw[List.length_map,List.length_cons];omega)) (Int.emod_lt_of_pos _ (by rw[List.length_map,List.length_cons];omega))
    obtain⟨c,_,rfl⟩:=List.mem_map.mp hm'
    exact⟨_,_,rfl,hd,fin c⟩
 cases ls with
 |nil=>exact back s l [] G (.inl rfl)
 |cons x ls=>
  show(ZX (ZG oEq (ZG Ua (bL (Zf 0) (dC (.str "left"))) (dC (.int 0))) (dC (.int 0)))) _ _ _ _
  refine⟨_,_,_,rfl,WD G.hp,Rw cs l t,_,_,bR G.hl,ZlO _ _,⟨Wz _,Wz _⟩, ?_⟩
  rw[wX]
  by_cases hx:x=0
  ·rw[decide_eq_true hx]
   refine⟨_,_,_,rfl,WD G.hp,Rw cs l t,_,bR G.hl,fun l' hl'=> ?_⟩
   refine⟨_,Wm cs l t,rfl, ?_,by rw[sizeLine_eq];show 3<16777216;decide, ?_⟩
   ·show(if p=l' then _ else s.mu p)=_
    rw[if_neg (fun z=>by rw[←z,G.hp]at hl';cases hl')]
    exact G.hp
   ·rw[Zen,List.map_cons,Gy]
    exact⟨_,Nat.lt_succ_self _,rfl,l',ls,G.toL hl' ls,rfl⟩
  ·rw[decide_eq_false hx]
   exact back s l (x::ls) G (.inr ⟨x,ls,rfl,hx⟩)
end Bk
namespace Bk
open PySem PySem.Spec PyProof.Rows L2
abbrev Term:=Int×Str
abbrev Test:=List Term×Str×Int
abbrev SetR:=Str×List Term×Int
structure Prog where
 name:Str
 level:Str
 looks:List (List Str)
 when:List (List Test)
 sets:List SetR
 marks:List Str
def letters:Str:="abcdefghijklmnopqrstuvwxyz"
def Low(x:Str):Prop:= ∀c∈x.cps.toList,c∈letters.cps.toList
def Wn(x:Str):Prop:=1≤x.length∧x.length≤8∧Low x
def qQ(c:Str×Int):D:= .tup [.str c.1, .int c.2]
def cellsD(cs:List (Str×Int)):D:= .tup (cs.map qQ)
def J9(t:Term):D:= .tup [.int t.1, .str t.2]
def JC(ts:List Term):D:= .tup (ts.map J9)
def Yb(t:Test):D:= .tup [JC t.1, .str t.2.1, .int t.2.2]
def Jp(c:List Test):D:= .tup (c.map Yb)
def QF(f:List (List Test)):D:= .tup (f.map Jp)
def cO(p:List Str):D:= .tup (texts p)
def ZrG(l:List (List Str)):D:= .tup (l.map cO)
def Zw0(x:SetR):D:= .tup [.str x.1,JC x.2.1, .int x.2.2]
def Zul(xs:List SetR):D:= .tup (xs.map Zw0)
def Zqw(p:Prog):D:= .tup [.str p.name, .str p.level,ZrG p.looks,QF p.when,Zul p.sets,cO p.marks]
def namesOk(ns:List Str):Prop:=(∀x∈ns,Cu x)∧ns.length≤4
structure CellsOk(cs:List (Str×Int)):Prop where
 nm: ∀c∈cs,Cu c.1
 pos:1≤cs.length
 len:cs.length≤4
 most: ∀c∈cs,1≤c.2∧c.2≤3
 nd:(cs.map (·.1)).Nodup
 low: ∀c∈cs,Wn c.1
structure cP(ns:List Str)(ts:List Term):Prop where
 len:ts.length≤ns.length
 all: ∀t∈ts,(-9≤t.1∧t.1≤9)∧t.2∈ns
 sub:(ts.map (·.2)).Sublist ns
 nz: ∀t∈ts,t.1≠0
def Ze3:List Str:=["=","!=","<","<=",">",">="]
structure RQ(ns:List Str)(t:Test):Prop where
 terms:cP ns t.1
 op:t.2.1∈Ze3
 num: -99≤t.2.2∧t.2.2≤99
structure Kh(ns:List Str)(f:List (List Test)):Prop where
 len:f.length≤4
 cases: ∀c∈f,c.length≤4∧ ∀t∈c,RQ ns t
def dG:Fn:=pDr 11 (fun as=> ∃n:Nat,as=[.int n]∧n≤4) fun as d=> ∃ns,as=[.int (ns.length:Nat)]∧d= .lst (texts ns)∧namesOk ns∧ns.Nodup∧ ∀x∈ns,Wn x
def Eh:Fn:=pDr 16 (fun as=>as=[]) fun _ d=> ∃cs,d=cellsD cs∧CellsOk cs
def dH:Fn:=pDr 8 (fun as=> ∃ns,as=[.lst (texts ns)]∧namesOk ns) fun as d=> ∃ns ts,as=[.lst (texts ns)]∧d=JC ts∧cP ns ts
def lW:Fn:=pDr 10 (fun as=> ∃ns,as=[.lst (texts ns)]∧namesOk ns) fun as d=> ∃ns t,as=[.lst (texts ns)]∧d=Yb t∧RQ ns t
def Xl:Fn:=pDr 165 (fun as=> ∃ns,as=[.lst (texts ns)]∧namesOk ns) fun as d=> ∃ns f,as=[.lst (texts ns)]∧d=QF f∧Kh ns f
abbrev Ei:List Str:=["_law_m","_law_many","_law_letters","_law_stem","_law_k","_law_at","_law_first","_law_by","_law_word"]
def uY:Yh:=(ZV (wR (dTup (Zd (dC (.str "abcdefghijklmnopqrstuvwxyz")) (Zd (dC (.str "")) Zo))) (Nz 2 (Jm (Z6 2) (Jm (Z6 3) Ny))))
 (ZV (Xj (jH (Zd (dCall 2 Qz (Zd (Zf 0) (Zd (dC (.int 8)) Zo))) Zo)) (Z6 4) (Jo 3 (ZG JN (Zf 3) (ZG Ua (Zf 2) (dCall 2 Qz (Zd (Zf 0) (Zd (dC (.int 26)) Zo)))))))
 (ZV (wR (dTup (Zd (dCall 2 Qz (Zd (Zf 0) (Zd (ZG JN (Qp BZ (Zd (Zf 3) Zo)) (dC (.int 1))) Zo))) (Zd (dCall 2 Qz (Zd (Zf 0) (Zd (dC (.int 26)) Zo))) (Zd (ZG Ua (VH (Zd (dC (.int 1)) (Zd (dC (.int 3)) (Zd (dC (.int 5)) (Zd (dC (.int 7)) (Zd (dC (.int 9)) (Zd (dC (.int 11)) Zo))))))) (dCall 2 Qz (Zd (Zf 0) (Zd (dC (.int 6)) Zo)))) Zo)))) (Nz 3 (Jm (Z6 5) (Jm (Z6 6) (Jm (Z6 7) Ny)))))
 (ZV (Jo 8 (Ke (ZG JN (Zf 3) (ZG Cr (ZG Ua (Zf 2) (Zf 6)) (dC (.int 8)))) Jj (Vg (dC (.int 8)))))
 (ZV (Jv (ZX (ZG oGt (Zf 7) (dC (.int 5)))) (QJ (Ad (jH (Zd (Zf 1) Zo)) (Z6 4) Mj (Kc (ZX (ZG oGt (Zf 7) (dC (.int 7)))) (Ke (Zf 8) (Vg (Zf 4)) Jj) (Ke (Zf 8) Jj (Vg (ZG ZhR (ZG JN (Zf 4) (dC (.int 9))) (Zf 1))))) [4])) QD)
 (QJ (Ad (jH (Zd (Zf 1) Zo)) (Z6 4) Mj (ZG JN (ZG JN (Ke (Zf 3) Jj (Vg (Zf 5))) (ZG Ua (Zf 2) (ZG oMod (Qp cInt (Zd (ZG JN (Zf 6) (ZG Cr (Zf 7) (Zf 4))) Zo)) (dC (.int 26))))) (Ke (Zf 3) (Vg (Zf 5)) Jj)) [4])))))))
abbrev dI:List Str:=["_law_m","_law_names_here","_law_name"]
def uZ:Yh:=(ZV (Jo 1 (dCall 2 dG (Zd (Zf 0) (Zd (ZG JN (dC (.int 1)) (dCall 2 Qz (Zd (Zf 0) (Zd (dC (.int 4)) Zo)))) Zo))))
 (QJ (Qp BK (Zd (Ad (Vy (Zf 1)) (Z6 2) Mj (dTup (Zd (Zf 2) (Zd (ZG JN (dC (.int 1)) (dCall 2 Qz (Zd (Zf 0) (Zd (dC (.int 3)) Zo)))) Zo))) [2]) Zo))))
abbrev u5:List Str:=["_law_m","_law_names_here","_law_found","_law_name"]
def u6:Yh:=(ZV (Jo 2 (cD Zo))
 (ZV (Xj (Vy (Zf 1)) (Z6 3) (Jv (ZX (ZG oEq (dCall 2 Qz (Zd (Zf 0) (Zd (dC (.int 2)) Zo))) (dC (.int 0)))) (Xk (Zf 2) (dTup (Zd (ZG Ua (VH (Zd (dC (.int 1)) (Zd (dC (.int 1)) (Zd (dC (.int 1)) (Zd (sH Ml (dC (.int 1))) (Zd (sH Ml (dC (.int 1))) (Zd (dC (.int 2)) (Zd (sH Ml (dC (.int 2))) (Zd (dC (.int 9)) (Zd (sH Ml (dC (.int 9))) Zo)))))))))) (dCall 2 Qz (Zd (Zf 0) (Zd (dC (.int 9)) Zo)))) (Zd (Zf 3) Zo)))) QD))
 (QJ (Qp BK (Zd (Zf 2) Zo)))))
abbrev Zaq:List Str:=["_law_m","_law_names_here","_law_op"]
def Zar:Yh:=(ZV (Jo 2 (ZG Ua (VH (Zd (dC (.str "=")) (Zd (dC (.str "!=")) (Zd (dC (.str "<")) (Zd (dC (.str "<=")) (Zd (dC (.str ">")) (Zd (dC (.str ">=")) Zo))))))) (dCall 2 Qz (Zd (Zf 0) (Zd (dC (.int 6)) Zo)))))
 (QJ (dTup (Zd (dCall 2 dH (Zd (Zf 0) (Zd (Zf 1) Zo))) (Zd (Zf 2) (Zd (ZG Ua (VH (Zd (dC (.int 0)) (Zd (dC (.int 1)) (Zd (dC (.int 1)) (Zd (dC (.int 2)) (Zd (dC (.int 3)) (Zd (sH Ml (dC (.int 1))) (Zd (sH Ml (dC (.int 2))) (Zd (dC (.int 99)) (Zd (sH Ml (dC (.int 99))) Zo)))))))))) (dCall 2 Qz (Zd (Zf 0) (Zd (dC (.int 9)) Zo)))) Zo))))))
abbrev EY:List Str:=["_law_m","_law_names_here","_law_found","_law_k","_law_j"]
def j7:Yh:=(ZV (Jo 2 (cD Zo))
 (ZV (Xj (jH (Zd (ZG Ua (VH (Zd (dC (.int 1)) (Zd (dC (.int 1)) (Zd (dC (.int 1)) (Zd (dC (.int 2)) (Zd (dC (.int 2)) (Zd (dC (.int 0)) (Zd (dC (.int 3)) (Zd (dC (.int 4)) Zo))))))))) (dCall 2 Qz (Zd (Zf 0) (Zd (dC (.int 8)) Zo)))) Zo)) (Z6 3) (Xk (Zf 2) (Qp BK (Zd (Ad (jH (Zd (ZG Ua (VH (Zd (dC (.int 1)) (Zd (dC (.int 1)) (Zd (dC (.int 1)) (Zd (dC (.int 2)) (Zd (dC (.int 2)) (Zd (dC (.int 0)) (Zd (dC (.int 3)) (Zd (dC (.int 4)) Zo))))))))) (dCall 2 Qz (Zd (Zf 0) (Zd (dC (.int 8)) Zo)))) Zo)) (Z6 4) Mj (dCall 2 lW (Zd (Zf 0) (Zd (Zf 1) Zo))) [4]) Zo))))
 (QJ (Qp BK (Zd (Zf 2) Zo)))))
end Bk
namespace Bk
open PySem PySem.Spec PyProof.Rows L2
theorem Mp{x:Str}:PyData.strOk x=true↔ ∀c∈x.cps.toList,c<0x110000:=by
 unfold PyData.strOk
 rw[Array.all_eq_true_iff_forall_mem]
 constructor
 ·intro h c hc
  have:=h c (Array.mem_toList_iff.mp hc)
  simpa using this
 ·intro h c hc
  have:=h c (Array.mem_toList_iff.mpr hc)
  simpa using this
theorem dJ{a:Array Nat}{c:Nat}: ∀(n:Nat) (b:Array Nat),c∈((List.replicate n a).foldl (· ++ ·) b)→c∈b∨c∈a
 |0,b,h=> .inl h
 |n+1,b,h=>by
  rw[List.replicate_succ,List.foldl_cons]at h
  rcases dJ n _ h with h|h
  ·rcases Array.mem_append.mp h with h|h
   ·exact .inl h
   ·exact .inr h
  ·exact .inr h
theorem len_app(a b:Str):(a++b).length=a.length+b.length:=PySem.Str.length_append a b
theorem sz(n:Nat)(h:n≤16777216):n≤sizeLine:=by rw[sizeLine_eq];exact h
theorem at_ints(ns:List Int)(lo hi:Int){i:Int}(h0:0≤i)(h1:i<ns.length)(hall:(ns.all fun n=>decide (lo≤n∧n≤hi))=true:=by decide): ∃r,atI (ns.map D.int) i=some (.int r)∧lo≤r∧r≤hi:=by
 obtain⟨d,hd,hm⟩:=yj (xs:=ns.map D.int) h0 (by rw[List.length_map];exact h1)
 obtain⟨n,hn,rfl⟩:=List.mem_map.mp hm
 have:=of_decide_eq_true (List.all_eq_true.mp hall n hn)
 exact⟨_,hd,this.1,this.2⟩
theorem Znk(ns:List Int){i:Int}(h0:0≤i)(h1:i<ns.length): ∃r,atI (ns.map D.int) i=some (.int r)∧r∈ns:=by
 obtain⟨d,hd,hm⟩:=yj (xs:=ns.map D.int) h0 (by rw[List.length_map];exact h1)
 obtain⟨n,hn,rfl⟩:=List.mem_map.mp hm
 exact⟨_,hd,hn⟩
theorem Znl(ns:List Str){i:Int}(h0:0≤i)(h1:i<ns.length): ∃r,atI (texts ns) i=some (.str r)∧r∈ns:=by
 obtain⟨d,hd,hm⟩:=yj (xs:=texts ns) h0 (by rw[QL];exact h1)
 obtain⟨n,hn,rfl⟩:=List.mem_map.mp hm
 exact⟨_,hd,hn⟩
theorem Zg1(z:Str){i:Int}(h0:0≤i)(h1:i<z.length): ∃c,atI z.cps.toList i=some c∧c∈z.cps.toList:=
 yj (xs:=z.cps.toList) h0 (by rw[Array.length_toList];exact h1)
theorem sV(n:Nat):DY 0 n=(List.range n).map fun k:Nat=>D.int k:=by
 unfold DY
 refine List.map_congr_left fun k _=> ?_
 rw[Int.zero_add]
theorem Zas{f:Exp}{e0:Zq}{R:List D→S→Prop}{s:S}{i:Nat}(F:Nat→D)(n:Nat)(hs: ∀k:Nat,k<n→ ∀K:Q1,K (F k) s→f (Jh e0 i (some (.int k))) s K (fun _ _=>False))(h:R ((List.range n).map F) s):DR (Z6 i) Mj f e0 R (DY 0 n) [] s:=by
 rw[sV]
 have go: ∀(xs:List Nat) (acc:List D) (_: ∀k∈xs,k<n) (_:R (acc++xs.map F) s),DR (Z6 i) Mj f e0 R (xs.map fun k:Nat=>D.int k) acc s:=by
  intro xs
  induction xs with
  |nil=>intro acc _ h;rw[List.map_nil,List.append_nil]at h;exact h
  |cons x xs ih=>
   intro acc hx h
   exact hs x (hx x List.mem_cons_self) _ (ih (acc++[F x]) (fun k hk=>hx k (List.mem_cons_of_mem _ hk)) (by rw[List.map_cons]at h;rw[List.append_assoc];exact h))
 exact go _ [] (fun k hk=>List.mem_range.mp hk) (by rw[List.nil_append];exact h)
theorem Xq:letters.length=26:=by decide+kernel
theorem Ziq:PyData.strOk letters=true:=by decide+kernel
theorem Zat{c:Nat}(h:c∈letters.cps.toList):c<0x110000:=Mp.mp Ziq c h
theorem Ztg(fi b:Int)(k:Nat): ∃c,atI letters.cps.toList ((fi+b*(k:Int)) % 26)=some c∧c∈letters.cps.toList:=Zg1 letters (Int.emod_nonneg _ (by decide)) (by rw[Xq];exact Int.emod_lt_of_pos _ (by decide))
theorem Low.ok{x:Str}(h:Low x):PyData.strOk x=true:=Mp.mpr fun c hc=>Zat (h c hc)
theorem wZ{a b:Str}(ha:Low a)(hb:Low b):Low (a++b):=fun c hc=>by
 have e:(a++b).cps=a.cps++b.cps:=rfl
 rw[e,Array.toList_append,List.mem_append]at hc
 exact hc.elim (ha c) (hb c)
theorem pB{a:Str}{lo hi:Option Int}(ha:Low a):Low (cutS a lo hi):=fun c hc=>by
 have e:(cutS a lo hi).cps.toList=(a.cps.toList.drop (HT.sIx a.length 0 lo)).take (HT.sIx a.length a.length hi-HT.sIx a.length 0 lo):=by unfold cutS;simp
 rw[e]at hc
 exact ha c (List.mem_of_mem_drop (List.mem_of_mem_take hc))
theorem Zd1{c:Nat}(h:c∈letters.cps.toList):Low ⟨#[c]⟩:=fun d hd=>by
 have e:d=c:=by simpa using hd
 rw[e];exact h
theorem Zpm{a:Str}{n:Nat}(ha:Low a):Low (Vl a n):=fun c hc=>by
 rcases dJ n #[] (Array.mem_toList_iff.mp hc)with h|h
 ·simp at h
 ·exact ha c (Array.mem_toList_iff.mpr h)
theorem Zir:letters.cps.toList.Nodup:=by decide+kernel
theorem Rx{z:Str}{k:Nat}(h:k≤z.length):(cutS z none (some (k:Int))).length=k:=by
 unfold cutS
 show(List.take _ (List.drop _ z.cps.toList)).toArray.size=k
 rw[List.size_toArray,List.length_take,List.length_drop,HT.sIx_nat,HT.sIx_none,Array.length_toList]
 have e:z.cps.size=z.length:=rfl
 rw[e];omega
theorem bT{z:Str}{k:Nat}(h:k≤z.length):(cutS z (some (k:Int)) none).length=z.length-k:=by
 unfold cutS
 show(List.take _ (List.drop _ z.cps.toList)).toArray.size=_
 rw[List.size_toArray,List.length_take,List.length_drop,HT.sIx_nat,HT.sIx_none,Array.length_toList]
 have e:z.cps.size=z.length:=rfl
 rw[e];omega
theorem Zpn{a b:Str}{c d:Nat}(h:a++⟨#[c]⟩++b=a++⟨#[d]⟩++b):c=d:=by
 have h1:(a++⟨#[c]⟩++b).cps.toList=(a++⟨#[d]⟩++b).cps.toList:=by rw[h]
 have e: ∀c:Nat,(a++⟨#[c]⟩++b:Str).cps.toList=a.cps.toList++[c]++b.cps.toList:=fun c=>by
  show(a.cps++ #[c]++b.cps).toList=_
  simp
 rw[e,e,List.append_assoc,List.append_assoc]at h1
 have h2:=List.append_cancel_left h1
 exact(List.cons.inj h2).1
theorem ZrH{xs:List Nat}(h:xs.Nodup){i j:Int}{c:Nat}(hi0:0≤i)(hi:i<xs.length)(hj0:0≤j)(hj:j<xs.length)(e1:atI xs i=some c)(e2:atI xs j=some c):i=j:=by
 unfold atI ixN at e1 e2
 rw[if_pos hi0,if_pos hi]at e1
 rw[if_pos hj0,if_pos hj]at e2
 have g1:xs[i.toNat]? =some c:=e1
 have g2:xs[j.toNat]? =some c:=e2
 have:i.toNat=j.toNat:=(List.getElem?_inj (show i.toNat<xs.length by omega) h).mp (g1.trans g2.symm)
 omega
theorem ZfT: ∀ds s R E,ds.length=2→dG ds s R E→uY (Qx R E) (ZC Ei ds) s:=by
 rintro _ _ R E _ ⟨mu,p,m,_,rfl,rfl,hm,⟨n,rfl,hn⟩,h⟩
 have hz:letters.length≤sizeLine:=by rw[Xq];exact sz _ (by omega)
 have out: ∀(F:Nat→Str) (m':Nat),m-11≤m'→(∀k,k<n→Wn (F k))→(∀i j,i<n→j<n→F i=F j→i=j)→(Qx R E).rt (.lst ((List.range n).map fun k=>D.str (F k))) ⟨mu,some (p,m')⟩:=by
  intro F m' hm' hF hnd
  refine⟨_,Sub.less hm',h _ ⟨(List.range n).map F, ?_, ?_,⟨?_, ?_⟩, ?_, ?_⟩⟩
  ·rw[List.length_map,List.length_range]
  ·unfold texts;rw[List.map_map];rfl
  ·intro x hx
   obtain⟨k,hk,rfl⟩:=List.mem_map.mp hx
   obtain⟨h1,h2,h3⟩:=hF k (List.mem_range.mp hk)
   exact⟨h3.ok,by omega⟩
  ·rw[List.length_map,List.length_range];exact hn
  ·rw[List.Nodup,List.pairwise_map]
   exact List.Pairwise.imp_of_mem (fun{a b} ha hb hab e=>hab (hnd a b (List.mem_range.mp ha) (List.mem_range.mp hb) e)) List.nodup_range
  ·intro x hx
   obtain⟨k,hk,rfl⟩:=List.mem_map.mp hx
   exact hF k (List.mem_range.mp hk)
 refine⟨sz _ (show 2≤_ by omega),rfl,rfl, ?_⟩
 refine⟨rfl,Uj (by omega) (by decide) (by decide) fun r h0 h1=>⟨⟨by omega,by omega⟩, ?_⟩⟩
 refine qb (fun rest e s=> ∃(x:Option D) (stem:Str) (m':Nat),e=[some (.rf (.ref p)),some (.int n),some (.str letters),some (.str stem),x,none,none,none,none]∧s=⟨mu,some (p,m')⟩∧Low stem∧stem.length+rest.length≤7∧m-11+rest.length+3≤m') ?_ ?_ _ _ _
  ⟨none,"",m-1,rfl,rfl,fun c hc=>(nomatch hc), ?_, ?_⟩
 ·rintro _ _ ⟨x,stem,m',rfl,rfl,hst,hl,hm'⟩
  have hl7:stem.length≤7:=by simpa using hl
  have hm3:m-11+3≤m':=by simpa using hm'
  have hsl:stem.length≤sizeLine:=sz _ (by omega)
  refine⟨hsl,rfl,Uj (by omega) (by omega) (by omega) fun a a0 a1=>⟨rfl,Uj (by omega) (by decide) (by decide) fun fi f0 f1=>⟨sz _ (show 6≤_ by omega),rfl,Uj (by omega) (by decide) (by decide) fun j j0 j1=> ?_⟩⟩⟩
  obtain⟨b,hb,b0,b1⟩:=at_ints [1,3,5,7,9,11] 1 11 j0 j1
  refine⟨_,_,rfl,hb, ?_⟩
  refine⟨sz _ (show 3≤_ by omega),rfl,rfl, ?_⟩
  obtain⟨c,hca,hc⟩:=Zg1 letters f0 (by rw[Xq];exact f1)
  refine⟨hz,c,hca, ?_⟩
  have hc':=Zat hc
  have l8:(Vl ⟨#[c]⟩ 8).length=8:=Tp ⟨#[c]⟩ 8
  refine⟨⟨by decide,by decide,Nat.one_pos,(show 1≤100000 by decide)⟩,sz _ ?_,sz _ ?_, ?_⟩
  ·show stem.length+(Vl ⟨#[c]⟩ 8).length≤_;omega
  ·show(stem++Vl ⟨#[c]⟩ 8).length≤_;rw[len_app];omega
  have okw:Low (cutS (stem++Vl ⟨#[c]⟩ 8) none (some 8)):=pB (wZ hst (Zpm (Zd1 hc)))
  have w8:(cutS (stem++Vl ⟨#[c]⟩ 8) none (some 8)).length=8:=Rx (k:=8) (by rw[len_app];omega)
  have lw:(cutS (stem++Vl ⟨#[c]⟩ 8) none (some 8)).length≤15:=by
   have:=cutS_length (stem++Vl ⟨#[c]⟩ 8) none (some 8)
   rw[len_app]at this;omega
  by_cases hb:5<b
  ·show(if decide (5<b)=true then _ else _)
   rw[decide_eq_true hb,if_pos rfl]
   refine⟨⟨by omega,by omega⟩,sz _ (by rw[V3];omega), ?_⟩
   have e1:((n:Int)).toNat=n:=Int.toNat_natCast n
   rw[e1]
   refine Zas (fun k=>D.str (if 7<b then cutS (cutS (stem++Vl ⟨#[c]⟩ 8) none (some 8)) (some k) none else cutS (cutS (stem++Vl ⟨#[c]⟩ 8) none (some 8)) none (some ((k:Int)+9-n)))) n (fun k hk K q=> ?_) (out _ _ (by omega) (fun k hk=> ?_) fun i j hi hj e=> ?_)
   ·show(if decide (7<b)=true then _ else _)
    by_cases hb7:7<b
    ·rw[decide_eq_true hb7,if_pos rfl]
     rw[if_pos hb7]at q
     exact⟨Nat.le_trans lw (sz 15 (by decide)),q⟩
    ·rw[decide_eq_false hb7,if_neg (by decide)]
     rw[if_neg hb7]at q
     exact⟨Nat.le_trans lw (sz 15 (by decide)),q⟩
   ·show Wn (if 7<b then _ else _)
    split
    ·exact⟨by rw[bT (by omega)];omega,by rw[bT (by omega)];omega,pB okw⟩
    ·rw[show((k:Int)+9-n)=((k+9-n:Nat):Int)by omega]
     exact⟨by rw[Rx (by omega)];omega,by rw[Rx (by omega)];omega,pB okw⟩
   ·have e':=congrArg Str.length e
    revert e'
    show(if 7<b then _ else _:Str).length=(if 7<b then _ else _:Str).length→_
    split
    ·rw[bT (by omega),bT (by omega)];omega
    ·rw[show((i:Int)+9-n)=((i+9-n:Nat):Int)by omega,show((j:Int)+9-n)=((j+9-n:Nat):Int)by omega,Rx (by omega),Rx (by omega)];omega
  ·show(if decide (5<b)=true then _ else _)
   rw[decide_eq_false hb,if_neg (by decide)]
   refine⟨⟨by omega,by omega⟩,sz _ (by rw[V3];omega), ?_⟩
   have e1:((n:Int)).toNat=n:=Int.toNat_natCast n
   rw[e1]
   obtain⟨cf,hcf⟩: ∃cf:Nat→Nat,∀k:Nat,atI letters.cps.toList ((fi+b*(k:Int)) % 26)=some (cf k)∧cf k∈letters.cps.toList:=
    ⟨fun k=>Classical.choose (Ztg fi b k),fun k=>Classical.choose_spec (Ztg fi b k)⟩
   have lc1:=cutS_length stem none (some a)
   have lc2:=cutS_length stem (some a) none
   refine Zas (fun k=>D.str (cutS stem none (some a)++⟨#[cf k]⟩++cutS stem (some a) none)) n (fun k hk K q=> ?_) (out _ _ (by omega) (fun k hk=> ?_) fun i j hi hj e=> ?_)
   ·obtain⟨h2,h2m⟩:=hcf k
    refine⟨hsl, .inr ⟨by omega,by omega⟩,(show(0:Int)<26 by decide),hz,cf k,h2, ?_,hsl, ?_,q⟩
    ·exact Nat.le_trans (show _≤7+1 from Nat.add_le_add (by omega) (Nat.le_refl 1)) (sz _ (by decide))
    ·refine Nat.le_trans ?_ (sz 16 (by decide))
     rw[len_app]
     show(cutS stem none (some a)).length+1+(cutS stem (some a) none).length≤16
     omega
   ·obtain⟨h2,h2m⟩:=hcf k
    obtain⟨a',rfl⟩:=Int.eq_ofNat_of_zero_le a0
    have q1:(cutS stem none (some (a':Int))).length=a':=Rx (by omega)
    have q2:(cutS stem (some (a':Int)) none).length=stem.length-a':=bT (by omega)
    have q3:(cutS stem none (some (a':Int))++⟨#[cf k]⟩++cutS stem (some (a':Int)) none).length=stem.length+1:=by
     rw[len_app,len_app,q1,q2]
     show a'+1+(stem.length-a')=_
     omega
    exact⟨by omega,by omega,wZ (wZ (pB hst) (Zd1 h2m)) (pB hst)⟩
   ·have ec:=Zpn e
    have l26:letters.cps.toList.length=26:=Xq
    have lt: ∀z:Int,z % 26<letters.cps.toList.length:=fun z=>by rw[l26];exact Int.emod_lt_of_pos z (by decide)
    have ge: ∀z:Int,0≤z % 26:=fun z=>Int.emod_nonneg z (by decide)
    have g:=ZrH Zir (ge _) (lt _) (ge _) (lt _) (hcf i).1 (by rw[ec];exact(hcf j).1)
    have hb5:b=1∨b=2∨b=3∨b=4∨b=5:=by omega
    rcases hb5 with rfl|rfl|rfl|rfl|rfl<;>omega
 ·rintro d ds e s K ⟨x,stem,m',rfl,rfl,hst,hl,hm'⟩ hK
  rw[List.length_cons]at hl hm'
  refine⟨rfl,Uj (by omega) (by decide) (by decide) fun r h0 h1=> ?_⟩
  obtain⟨c,hca,hc⟩:=Zg1 letters h0 (by rw[Xq];exact h1)
  refine⟨hz,c,hca,sz _ (show stem.length+1≤_ by omega),hK _ _ ⟨some d,stem++⟨#[c]⟩,m'-1,rfl,rfl,wZ hst (Zd1 hc), ?_,by omega⟩⟩
  rw[len_app]
  show stem.length+1+_≤_
  omega
 ·rw[V3]
  show 0+r.toNat≤7
  omega
 ·rw[V3];omega
structure Zbd(mu mu':Addr→Option MO)(q:Addr)(ds:List D):Prop where
 here:mu' q=some (.ml ds)
 sub: ∀b o,mu b=some o→mu' b=some o
 fresh:mu q=none
theorem Zbd.start{mu:Addr→Option MO}{q:Addr}(h:mu q=none)(ds:List D):Zbd mu (fun b=>if b=q then some (.ml ds)else mu b) q ds:=
 ⟨if_pos rfl,fun b o e=>by rw[if_neg (fun z=>by rw[z,h]at e;cases e)];exact e,h⟩
theorem Zbd.put{mu mu':Addr→Option MO}{q:Addr}{ds:List D}(M:Zbd mu mu' q ds)(ds':List D):Zbd mu (fun b=>if b=q then some (.ml ds')else mu' b) q ds':=
 ⟨if_pos rfl,fun b o e=>by rw[if_neg (fun z=>by rw[z,M.fresh]at e;cases e)];exact M.sub b o e,M.fresh⟩
theorem Zfe{s:S}{l:Addr}{ds:List D}(h:s.mu l=some (.ml ds)):jJ (.rf (.ref l)) s=some ds:=bR h
theorem Zau{d:D}{ds:List D}{ns:List Str}(h:d::ds=texts ns): ∃x r,ns=x::r∧d= .str x∧ds=texts r:=by
 cases ns with
 |nil=>cases h
 |cons x r=>exact⟨x,r,rfl,(List.cons.inj h).1,(List.cons.inj h).2⟩
theorem ZfU: ∀ds s R E,ds.length=1→Eh ds s R E→uZ (Qx R E) (ZC dI ds) s:=by
 rintro _ _ R E _ ⟨mu,p,m,_,rfl,rfl,hm,rfl,h⟩
 refine⟨rfl,Uj (by omega) (by decide) (by decide) fun r h0 h1=>⟨rfl,Zg0 (by omega) ⟨(1+r).toNat,by rw[Int.toNat_of_nonneg (by omega)],by omega⟩ fun d hd=> ?_⟩⟩
 obtain⟨ns,hl,rfl,hns,hnd,hlow⟩:=hd
 have hl':(1+r)=(ns.length:Nat):=by
  have e:=List.cons.inj hl
  exact D.int.inj e.1
 intro hz
 refine⟨hz, ?_⟩
 refine zJ (fun rest acc s=> ∃cs ns' m',acc=cs.map qQ∧rest=texts ns'∧s=⟨mu,some (p,m')⟩∧cs.map (·.1)++ns'=ns∧(∀c∈cs,1≤c.2∧c.2≤3)∧m-16+ns'.length≤m') ?_ ?_ _ _ _ ⟨[],ns,m-1-11,rfl,rfl,rfl,rfl,fun c hc=>(nomatch hc),by have:=hns.2;omega⟩
 ·rintro _ _ ⟨cs,ns',m',rfl,hr,rfl,hcs,hmo,hm'⟩
  have hr':ns'=[]:=by cases ns' with
   |nil=>rfl
   |cons x r=>cases hr
  subst hr'
  rw[List.append_nil]at hcs
  have hlen:cs.length=ns.length:=by rw[←hcs,List.length_map]
  refine⟨_,rfl,⟨_,Sub.less (n:=m-16) (by simpa using hm'),h _ ⟨cs,rfl,⟨fun c hc=>hns.1 _ ?_,by omega,by rw[hlen];exact hns.2,hmo,by rw[hcs];exact hnd,fun c hc=>hlow _ ?_⟩⟩⟩⟩<;>
  (rw[←hcs];exact List.mem_map.mpr ⟨c,hc,rfl⟩)
 ·rintro d ds acc s K ⟨cs,ns',m',rfl,hr,rfl,hcs,hmo,hm'⟩ hK
  obtain⟨x,r',rfl,rfl,rfl⟩:=Zau hr
  rw[List.length_cons]at hm'
  refine⟨rfl,Uj (by omega) (by decide) (by decide) fun k k0 k1=>⟨sz _ (show 2≤_ by omega),hK _ _ ⟨cs++[(x,1+k)],r',m'-1, ?_,rfl,rfl, ?_, ?_,by omega⟩⟩⟩
  ·rw[List.map_append];rfl
  ·rw[List.map_append,List.append_assoc];exact hcs
  ·intro c hc
   rcases List.mem_append.mp hc with hc|hc
   ·exact hmo c hc
   ·have e:c=(x,1+k):=by simpa using hc
    subst e
    exact⟨by show 1≤1+k;omega,by show 1+k≤3;omega⟩
theorem fL: ∀{a b:List Str},texts a=texts b→a=b
 |[],[],_=>rfl
 |[],_::_,h=>by cases h
 |_::_,[],h=>by cases h
 |x::a,y::b,h=>by
  have e:=List.cons.inj h
  rw[D.str.inj e.1,fL e.2]
theorem ZfV: ∀ds s R E,ds.length=2→dH ds s R E→u6 (Qx R E) (ZC u5 ds) s:=by
 rintro _ _ R E _ ⟨mu,p,m,_,rfl,rfl,hm,⟨ns,rfl,hns⟩,h⟩
 refine⟨Nat.zero_le _,fun q hq=> ?_⟩
 intro hz
 refine qb (fun rest e s=> ∃(x:Option D) (ts:List Term) (ns':List Str) (mu':Addr→Option MO) (m':Nat),e=[some (.rf (.ref p)),some (.lst (texts ns)),some (.rf (.ref q)),x]∧s=⟨mu',some (p,m')⟩∧Zbd mu mu' q (ts.map J9)∧rest=texts ns'∧(∀x∈ns',x∈ns)∧
  ts.length+ns'.length≤ns.length∧(∀t∈ts,(-9≤t.1∧t.1≤9)∧t.2∈ns)∧m-8+2*ns'.length≤m'∧(∃gone,gone++ns'=ns∧(ts.map (·.2)).Sublist gone)∧ ∀t∈ts,t.1≠0) ?_ ?_ _ _ _ ⟨none,[],ns,_,m,rfl,rfl,Zbd.start hq _,rfl,fun x h=>h,by simp,fun c hc=>(nomatch hc),by have:=hns.2;omega,⟨[],rfl, .slnil⟩,fun t ht=>(nomatch ht)⟩
 ·rintro _ _ ⟨x,ts,ns',mu',m',rfl,rfl,M,hr,hin,hl,hts,hm',⟨gone,hgo,hsub⟩,hnz⟩
  refine⟨_,Zfe M.here,⟨_,Sub.of M.sub (n:=m-8) (by omega),h _ ⟨ns,ts,rfl,rfl,⟨by omega,hts,by rw[←hgo];exact hsub.trans (List.sublist_append_left _ _),hnz⟩⟩⟩⟩
 ·rintro d ds e s K ⟨x,ts,ns',mu',m',rfl,rfl,M,hr,hin,hl,hts,hm',⟨gone,hgo,hsub⟩,hnz⟩ hK
  obtain⟨y,r',rfl,rfl,rfl⟩:=Zau hr
  rw[List.length_cons]at hm' hl
  refine⟨rfl,Uj (by omega) (by decide) (by decide) fun r h0 h1=>⟨⟨Wz _,Wz _⟩, ?_⟩⟩
  rw[wX]
  by_cases hr0:r=0
  ·rw[decide_eq_true hr0]
   refine⟨⟨_,M.here⟩,sz _ (show 9≤_ by omega),rfl,Uj (by omega) (by decide) (by decide) fun j j0 j1=> ?_⟩
   obtain⟨b,hb,hbm⟩:=Znk [1,1,1,-1,-1,2,-2,9,-9] j0 j1
   have hb3: ∀b∈([1,1,1,-1,-1,2,-2,9,-9]:List Int),-9≤b∧b≤9∧b≠0:=by decide
   obtain⟨b0,b1,b2⟩:=hb3 b hbm
   refine⟨_,_,rfl,hb,sz _ (show 2≤_ by omega),_,M.here, ?_,hK _ _ ⟨some (.str y),ts++[(b,y)],r',_,m'-1-1,rfl,rfl, ?_,rfl,fun x hx=>hin x (List.mem_cons_of_mem _ hx), ?_, ?_,by omega,⟨gone++[y],by rw[List.append_assoc];exact hgo,by rw[List.map_append];exact hsub.append (List.Sublist.refl _)⟩,fun t ht=> ?_⟩⟩
   ·rw[List.length_map,sizeLine_eq];have:=hns.2;omega
   ·have:=M.put ((ts++[(b,y)]).map J9)
    rw[List.map_append]at this⊢
    exact this
   ·rw[List.length_append]
    show ts.length+1+r'.length≤ns.length
    omega
   ·intro t ht
    rcases List.mem_append.mp ht with ht|ht
    ·exact hts t ht
    ·have e:t=(b,y):=by simpa using ht
     subst e
     exact⟨⟨b0,b1⟩,hin y List.mem_cons_self⟩
   ·rcases List.mem_append.mp ht with ht|ht
    ·exact hnz t ht
    ·have e:t=(b,y):=by simpa using ht
     subst e
     exact b2
  ·rw[decide_eq_false hr0]
   exact hK _ _ ⟨some (.str y),ts,r',mu',m'-1,rfl,rfl,M,rfl,fun x hx=>hin x (List.mem_cons_of_mem _ hx),by omega,hts,by omega,⟨gone++[y],by rw[List.append_assoc];exact hgo,hsub.trans (List.sublist_append_left _ _)⟩,hnz⟩
theorem Zis: ∀ds s R E,ds.length=2→lW ds s R E→Zar (Qx R E) (ZC Zaq ds) s:=by
 rintro _ _ R E _ ⟨mu,p,m,_,rfl,rfl,hm,⟨ns,rfl,hns⟩,h⟩
 refine⟨sz _ (show 6≤_ by omega),rfl,Uj (by omega) (by decide) (by decide) fun r h0 h1=> ?_⟩
 obtain⟨o,ho,hom⟩:=Znl Ze3 h0 (show r<(Ze3.length:Nat)from h1)
 refine⟨_,_,rfl,ho,rfl,Zg0 (by omega) ⟨ns,rfl,hns⟩ fun d hd=> ?_⟩
 obtain⟨ns',ts,e,rfl,hts⟩:=hd
 have en:=fL (D.lst.inj (List.cons.inj e).1)
 subst en
 refine⟨sz _ (show 9≤_ by omega),rfl,Uj (by omega) (by decide) (by decide) fun j j0 j1=> ?_⟩
 obtain⟨b,hb,b0,b1⟩:=at_ints [0,1,1,2,3,-1,-2,99,-99] (-99) 99 j0 j1
 exact⟨_,_,rfl,hb,sz _ (show 3≤_ by omega),⟨_,Sub.less (n:=m-10) (by omega),h _ ⟨_,(ts,o,b),rfl,rfl,⟨hts,hom,b0,b1⟩⟩⟩⟩
theorem ZkB{a b:List Str}(h:[D.lst (texts a)]=[D.lst (texts b)]):a=b:=fL (D.lst.inj (List.cons.inj h).1)
theorem Zcd: ∀ds s R E,ds.length=2→Xl ds s R E→j7 (Qx R E) (ZC EY ds) s:=by
 rintro _ _ R E _ ⟨mu,p,m,_,rfl,rfl,hm,⟨ns,rfl,hns⟩,h⟩
 refine⟨Nat.zero_le _,fun q hq=> ?_⟩
 refine⟨sz _ (show 8≤_ by omega),rfl,Uj (by omega) (by decide) (by decide) fun r h0 h1=> ?_⟩
 obtain⟨b,hb,b0,b1⟩:=at_ints [1,1,1,2,2,0,3,4] 0 4 h0 h1
 refine⟨_,_,rfl,hb,⟨by omega,by omega⟩, ?_⟩
 refine qb (fun rest e s=> ∃(x:Option D) (f:List (List Test)) (mu':Addr→Option MO) (m':Nat),e=[some (.rf (.ref p)),some (.lst (texts ns)),some (.rf (.ref q)),x,none]∧s=⟨mu',some (p,m')⟩∧Zbd mu mu' q (f.map Jp)∧
  f.length+rest.length≤4∧(∀c∈f,c.length≤4∧ ∀t∈c,RQ ns t)∧m-165+41*rest.length≤m') ?_ ?_ _ _ _ ⟨none,[],_,m-1,rfl,rfl,Zbd.start hq _, ?_,fun c hc=>(nomatch hc), ?_⟩
 ·rintro _ _ ⟨x,f,mu',m',rfl,rfl,M,hl,hf,hm'⟩
  exact⟨_,Zfe M.here,⟨_,Sub.of M.sub (n:=m-165) (by omega),h _ ⟨ns,f,rfl,rfl,⟨by omega,hf⟩⟩⟩⟩
 ·rintro d ds e s K ⟨x,f,mu',m',rfl,rfl,M,hl,hf,hm'⟩ hK
  rw[List.length_cons]at hm' hl
  refine⟨⟨_,M.here⟩,sz _ (show 8≤_ by omega),rfl,Uj (by omega) (by decide) (by decide) fun r2 r20 r21=> ?_⟩
  obtain⟨b2,hb2,b20,b21⟩:=at_ints [1,1,1,2,2,0,3,4] 0 4 r20 r21
  refine⟨_,_,rfl,hb2,⟨by omega,by omega⟩,sz _ (by rw[V3];omega), ?_⟩
  refine zJ (fun rest acc s=> ∃(c:List Test) (m2:Nat),acc=c.map Yb∧s=⟨mu',some (p,m2)⟩∧c.length+rest.length≤4∧(∀t∈c,RQ ns t)∧m'-41+10*rest.length≤m2) ?_ ?_ _ _ _ ⟨[],m'-1,rfl,rfl, ?_,fun t ht=>(nomatch ht), ?_⟩
  ·rintro _ _ ⟨c,m2,rfl,rfl,hc,hct,hm2⟩
   refine⟨_,rfl,_,M.here, ?_,hK _ _ ⟨some d,f++[c],_,m2,rfl,rfl, ?_, ?_, ?_, ?_⟩⟩
   ·rw[List.length_map,sizeLine_eq];omega
   ·have:=M.put ((f++[c]).map Jp)
    rw[List.map_append]at this⊢
    exact this
   ·rw[List.length_append];show f.length+1+ds.length≤4;omega
   ·intro c' hc'
    rcases List.mem_append.mp hc' with hc'|hc'
    ·exact hf c' hc'
    ·have e:c'=c:=by simpa using hc'
     subst e
     exact⟨by omega,hct⟩
   ·omega
  ·rintro d2 ds2 _ _ K2 ⟨c,m2,rfl,rfl,hc,hct,hm2⟩ hK2
   rw[List.length_cons]at hm2 hc
   refine⟨rfl,Zg0 (by omega) ⟨ns,rfl,hns⟩ fun d3 hd3=> ?_⟩
   obtain⟨ns',t,e,rfl,ht⟩:=hd3
   have en:=ZkB e
   subst en
   refine hK2 _ _ ⟨c++[t],m2-10,by rw[List.map_append];rfl,rfl,by rw[List.length_append];show c.length+1+ds2.length≤4;omega,fun t' ht'=> ?_,by omega⟩
   rcases List.mem_append.mp ht' with ht'|ht'
   ·exact hct t' ht'
   ·have e:t'=t:=by simpa using ht'
    subst e
    exact ht
  ·rw[V3];show 0+b2.toNat≤4;omega
  ·rw[V3];omega
 ·rw[V3];show 0+b.toNat≤4;omega
 ·rw[V3];omega
theorem fM(a b:List Str):texts a++texts b=texts (a++b):=by unfold texts;rw[List.map_append]
theorem Zit{ns:List Str}(h: ∀x∈ns,Cu x):(D.lst (texts ns)).YF=true:=(Zd0 (n:=ns.length) (k:=0) (Zkz h) (by rw[QL];exact Nat.le_refl _)).YF (by decide)
theorem Zpo{x:Str}(h:Cu x):(D.str x).YF=true:=(Zmb (k:=0) h).YF (by decide)
end Bk
namespace Bk
open PySem PySem.Spec PyProof.Rows L2
section
variable{X:Cx}{T:Tb}
def Ze4:G2:=fun x y s R=>match x,y with
 | .str a, .str b=>R (.bl (!decide (a=b))) s
 |_,_=>False
theorem Zg2:IV X T (compareOp .NotEq) Ze4:= .of op_ne fun F s H x y vx vy R Q hh rx ry hg post=>by
 unfold Ze4 at hg
 split at hg
 ·rename_i a b
  cases rx;cases ry
  refine⟨rfl, ?_⟩
  have e:decide (V.str a=V.str b)=decide (a=b):=by simp
  rw[e]
  exact post _ s _ H F hg Ext.refl hh (.bl _)
 ·exact hg.elim
end
theorem Zpp: ∀x∈Ze3,Cu x:=by
 intro x hx
 unfold Ze3 at hx
 simp only[List.mem_cons,List.not_mem_nil,or_false]at hx
 rcases hx with rfl|rfl|rfl|rfl|rfl|rfl<;>exact⟨by decide+kernel,by decide+kernel⟩
end Bk
namespace Bk
open PySem PySem.Spec PyProof.Rows L2
section
variable{X:Cx}{W:WX}{k:Nat}
theorem fK.u1(B:fK X W k):X.A.units+1<cLine:=by have:=B.room.un;omega
theorem fK.u64(B:fK X W k):X.A.units+64<cLine:=by have:=B.room.un;omega
theorem fK.u65(B:fK X W k):X.A.units+65<cLine:=by have:=B.room.un;omega
theorem fK.u66(B:fK X W k):X.A.units+66<cLine:=by have:=B.room.un;omega
theorem YW{scope sc:Scope}{N:List Str}{own:List (Str×Nat)}(h:blkC N sc scope own=true)(hN:X.N=N:=by rfl)(hs:X.env.scope=sc:=by rfl):BlkOk X.N X.env.scope scope own:=by
 rw[hN,hs];exact blkOk_by h
section
variable{T:Tb}{pos:Pos}{g g1:DG}{vs vs1:List Nat}
theorem G6{elt tg iter:Expr}{ifs:List Expr}{scope:Scope}{own:List (Str×Nat)}{f0:Arg}{t:Xp}{f:Exp}(hc:X.calm=true)(hN:X.N.Nodup)(hi:DI X T W tg iter f0)(ok:BlkOk X.N X.env.scope scope own)(hv:own.map (·.2)=vs)
 (hg:Gj X scope fun Y=>Zbc Y T vs tg g) (ht:Gj X scope fun Y=>DTs Y T wF ifs t) (he:Gj X scope fun Y=>DX Y T wF elt f) (hs: ∀x,foldedSetIterable iter X.env x=pure x:=by intro _;rfl):
 DX X T W (.ListComp elt [⟨tg,iter,ifs,0⟩] scope pos) (Ad f0 g t f vs):=by subst hv;exact Zug hc hN hi ok hg ht he hs
theorem Zpq{elt tg iter:Expr}{ifs:List Expr}{scope:Scope}{own:List (Str×Nat)}{f0:Arg}{t:Xp}{f:Exp}(hc:X.calm=true)(hN:X.N.Nodup)(hi:DI X T W tg iter f0)(ok:BlkOk X.N X.env.scope scope own)(hv:own.map (·.2)=vs)
 (hg:Gj X scope fun Y=>Zbc Y T vs tg g) (ht:Gj X scope fun Y=>DTs Y T wF ifs t) (he:Gj X scope fun Y=>DX Y T wF elt f) (hs: ∀x,foldedSetIterable iter X.env x=pure x:=by intro _;rfl):
 DX X T W (.ListComp elt [⟨tg,iter,ifs,0⟩] scope pos) (Zov f0 g t f vs):=by subst hv;exact ZrE hc hN hi ok hg ht he hs
theorem fO{i:Nat}{y:Str}{py spos:Pos}{elt tg iter:Expr}{ifs:List Expr}{scope:Scope}{own:List (Str×Nat)}{f0:Arg}{t:Xp}{f:Exp}(hc:X.calm=true)(hN:X.N.Nodup)(hi:DI X T W tg iter f0)(ok:BlkOk X.N X.env.scope scope own)(hv:own.map (·.2)=vs)
 (hg:Gj X scope fun Y=>Zbc Y T vs tg g) (ht:Gj X scope fun Y=>DTs Y T wF ifs t) (he:Gj X scope fun Y=>DX Y T wF elt f) (hy:X.N[i]? =some y) (hyl:X.env.scope.names.lookup y=some .local)
 (hsw:swapsWith (.ListComp elt [⟨tg,iter,ifs,0⟩] scope pos) (some (.Name y py)) spos.line X.env=pure true) (hs: ∀x,foldedSetIterable iter X.env x=pure x:=by intro _;rfl):
 DS X T W (.Assign [.Name y py] (.ListComp elt [⟨tg,iter,ifs,0⟩] scope pos) spos) (Jo i (Ad f0 g t f vs)):=by subst hv;exact Zne hc hN hy hyl hsw hi ok hg ht he hs
end
end
theorem Vm:bootBuiltins "len" =some (.builtin "len"):=by decide+kernel
theorem X3:bootBuiltins "repr" =some (.builtin "repr"):=by decide+kernel
theorem ZrI:bootBuiltins "min" =some (.builtin "min"):=by decide+kernel
theorem Zg3:bootBuiltins "all" =some (.builtin "all"):=by decide+kernel
theorem Yv:bootBuiltins "tuple" =some (.type "tuple"):=by decide+kernel
theorem Zd2:bootBuiltins "list" =some (.type "list"):=by decide+kernel
theorem WK:bootBuiltins "int" =some (.type "int"):=by decide+kernel
theorem aJ:bootBuiltins "str" =some (.type "str"):=by decide+kernel
theorem ZjE:bootBuiltins "bool" =some (.type "bool"):=by decide+kernel
theorem Z5:bootBuiltins "isinstance" =some (.builtin "isinstance"):=by decide+kernel
theorem ZcK:bootBuiltins "abs" =some (.builtin "abs"):=by decide+kernel
end Bk
namespace Bk
open PySem PySem.Spec PyProof.Rows L2
theorem ZkC{cl:Str→Addr}{hs:NestedKey→Int}{K:PySem.W.Frag}{phi:Fn}{H:Hp}{a:Addr}{ns:List Int}{cs:List (Addr×Addr)}{TT:List (Addr×Str)}(hH: ∀p∈cs,H p.2=some (.tbl #[]))(hT: ∀b ps,H b=some (.tbl ps)→b∈cs.map (·.2))(hTT: ∀p∈TT,p.1∈cs.map (·.2))(ha:a∉cs.map (·.2))
  (hS:SqL K H a (ns.map V.int)) (h:phi [.U7 ns] ⟨fun _=>none,none⟩ (fun d _=>d= .bl true) fun _ _=>False):
  Bs K ⟨TT,cl,hs⟩ 1 phi [.ref a] H (fun v _=>v= .bl true) fun _ _ _=>False:=by
 let F:Hp:=fun b=>if b∈cs.map (·.2)then none else H b
 have fa:F a=H a:=if_neg ha
 have sm:Same F H:=fun b x e=>by
  by_cases hb:b∈cs.map (·.2)
  ·have e':(if b∈cs.map (·.2)then none else H b)=some x:=e
   rw[if_pos hb]at e';cases e'
  ·have e':(if b∈cs.map (·.2)then none else H b)=some x:=e
   rwa[if_neg hb]at e'
 have hF:SqL K F a (ns.map V.int):=by
  rcases hS with(z|⟨o,z⟩)|z
  ·exact .inl (.inl (fa.trans z))
  ·exact .inl (.inr ⟨o,fa.trans z⟩)
  ·exact .inr z
 refine⟨F,⟨fun _=>none,none⟩,[.U7 ns],fun d _=>d= .bl true,fun _ _=>False,rfl, .cons (.U7 hF) .nil,⟨sm,fun p o e=>(nomatch e),fun p n e=>(nomatch e),fun x hx=> ?_,fun b ps z=> ?_⟩,fun _ _ _ _ _ _ q=>q.elim,h, ?_⟩
 ·obtain⟨p,hp,e⟩:=List.mem_map.mp (hTT x hx)
  exact LamX.TabS.nil (by rw[←e];exact hH p hp)
 ·have z':=sm _ _ z
  have hb:=hT b ps z'
  have z2:(if b∈cs.map (·.2)then none else H b)=some (.tbl ps):=z
  rw[if_pos hb]at z2;cases z2
 ·rintro d s' v H' F' rfl _ _ r
  cases r
  rfl
def Zow(q:Program)(K:PySem.W.Frag)(h:Heap):Prop:= ∀(x:Str) (c P:Addr),((recsOf q).find? fun e=>e.name==x).isSome=true→PySem.W.tabIn K x=some (c,P)→PySem.W.CodeHd h c P∧h.get? P=some {cls:= .none,data:= .fields #[]}
end Bk
namespace Bk
open PySem PySem.Spec PyProof.Rows L2
open AutoSeq1 (wpAny_loadPart')
section
variable{X:Cx}{T:Tb}{W:WX}{a b c:Expr}{fa fb fc:Exp}{pos:Pos}{K:PySem.W.Frag}{F H:Hp}{s:S}
def D.unp:D→D
 | .ju xs=> .tup xs
 |d=>d
theorem Rep.unp{d:D}{v:V}(r:Rep K T F d v):Rep K T F d.unp v:=by
 cases r with
 |ju h hd r=>exact .tup (.inl (.inr ⟨_,h⟩)) r
 |non=>exact .non
 |bl b=>exact .bl b
 |int i=>exact .int i
 |str x=>exact .str x
 |lst h r=>exact .lst h r
 |tup h r=>exact .tup h r
 |U0 h r=>exact .U0 h r
 |rf v=>exact .rf v
 |U7 h=>exact .U7 h
 |exc h h2 r=>exact .exc h h2 r
 |obj h r=>exact .obj h r
 |clo f r=>exact .clo f r
 |cls n=>exact .cls n
 |j5 h r=>exact .j5 h r
end
end Bk
namespace Bk
open PySem PySem.Spec PyProof.Rows L2
def ZrJ(cs:List (Str×Int)):D:= .ju (cs.map qQ)
end Bk
namespace Bk
open PySem PySem.Spec PyProof.Rows L2
def ItB(h:Heap)(b:Bool)(it a:Addr)(i:Nat):Prop:=match b with
 |true=>h.IsTupleIter it a i
 |false=>h.IsListIter it a i
def ZkD(h:Heap)(b:Bool)(a:Addr)(items:Array Value):Prop:=match b with
 |true=>h.IsTuple a items
 |false=>h.IsList a items
theorem ItB.obj{h:Heap}{b:Bool}{it a:Addr}{i:Nat}(x:ItB h b it a i): ∃o fs,h.get? it=some o∧o.data= .fields fs∧(o.cls= .type "tuple_iterator" ∨o.cls= .type "list_iterator"):=by
 cases b with
 |true=>obtain⟨o,ho,hc,hd⟩:h.IsTupleIter it a i:=x;exact⟨o,_,ho,hd, .inl hc⟩
 |false=>obtain⟨o,ho,hc,hd⟩:h.IsListIter it a i:=x;exact⟨o,_,ho,hd, .inr hc⟩
theorem ItB.at{h h':Heap}{b:Bool}{it a:Addr}{i:Nat}(x:ItB h b it a i)(k: ∀o,h.get? it=some o→h'.get? it=some o):ItB h' b it a i:=by
 cases b with
 |true=>exact Heap.IsTupleIter.at (show h.IsTupleIter it a i from x) k
 |false=>exact Heap.IsListIter.at (show h.IsListIter it a i from x) k
theorem ZkD.at{h h':Heap}{b:Bool}{a:Addr}{items:Array Value}(x:ZkD h b a items)(k: ∀o,h.get? a=some o→h'.get? a=some o):ZkD h' b a items:=by
 cases b with
 |true=>exact Heap.IsTuple.at (show h.IsTuple a items from x) k
 |false=>exact Heap.IsList.at (show h.IsList a items from x) k
theorem ZkD.obj{h:Heap}{b:Bool}{a:Addr}{items:Array Value}(x:ZkD h b a items): ∃o n,h.get? a=some o∧o.data= .seq items n∧(o.cls= .type "tuple" ∨o.cls= .type "list"):=by
 cases b with
 |true=>obtain⟨o,ho,hc,n,hd⟩:h.IsTuple a items:=x;exact⟨o,n,ho,hd, .inl hc⟩
 |false=>obtain⟨o,ho,hc,n,hd⟩:h.IsList a items:=x;exact⟨o,n,ho,hd, .inr hc⟩
section
variable{K:PySem.W.Frag}{T:Tb}{F:Hp}
def ZhU:D→Option (List D)
 | .lst xs=>some xs
 | .tup xs=>some xs
 | .ju xs=>some xs
 |_=>none
end
end Bk
namespace Bk
open PySem PySem.Spec PyProof.Rows L2
end Bk
namespace Bk
open PySem PySem.Spec PyProof.Rows L2
structure ZlP(B newId initId:String)(bmB:List Value):Prop where
 fb:ExcBaseFacts B newId initId bmB
 kf:PySem.W.KxsFacts B initId
 sf:StoreFacts B bmB "object.__setattr__" "object"
theorem Zav:ZlP "ValueError" "ValueError.__new__" "ValueError.__init__" [.type "ValueError", .type "Exception", .type "BaseException", .type "object"]:=⟨PySem.F.excBase_ValueError,PySem.W.kxs_ValueError,PySem.F.store_ValueError⟩
structure ZhV(params:Arguments)(bd:List Stmt)(scope:Scope)(f y:Str):Prop where
 body: ∃(p0 p1 p2 p3 p4 p5 p6 p7 p8 p9:Pos) (txt:Str) (j:Nat),bd=[.Expr (.Call (.Attribute (.Call (.Name "super" p0) [] [] p1) "__init__" p2) [.Constant (.str txt) j p3] [] p4) p5, .Assign [.Attribute (.Name "self" p6) f p7] (.Name y p8) p9]∧
  ∀(q:Str) (L a cc:Addr) (cd:Value),∃pl:Sem Bool,eval (.Call (.Attribute (.Call (.Name "super" p0) [] [] p1) "__init__" p2) [.Constant (.str txt) j p3] [] p4) (PySem.W.ksEnv q scope L a cd cc)=(do
   let ov←attributeBase (.Call (.Name "super" p0) [] [] p1) "__init__" (PySem.W.ksEnv q scope L a cd cc) (eval (.Call (.Name "super" p0) [] [] p1) (PySem.W.ksEnv q scope L a cd cc))
   standAt p2.atName
   let (f,first)←holding [ov] (getMethod ov "__init__" pl)
   callWith p4 f first (backTo p4 (starEach [.Constant (.str txt) j p3] (PySem.W.ksEnv q scope L a cd cc))) [])∧
   interactive (PySem.W.ksEnv q scope L a cd cc)=false∧swapsWith (.Call (.Attribute (.Call (.Name "super" p0) [] [] p1) "__init__" p2) [.Constant (.str txt) j p3] [] p4) none p5.line (PySem.W.ksEnv q scope L a cd cc)=pure false∧
   swapsWith (.Name y p8) (some (.Attribute (.Name "self" p6) f p7)) p9.line (PySem.W.ksEnv q scope L a cd cc)=pure false
 first: ∃ar,(params.posonlyargs++params.args).head? =some ar∧ar.arg="self"
 bind: ∀(q:Str) (kV doc pm cdv ct:Value) (an:Option Addr) (cc:Addr) (a b:Value),bindArgs (PySem.W.ksFn "__init__" q params bd scope .none kV doc pm an cdv ct cc) ⟨[a,b],[]⟩=pure [(("self" :Str),a),(y,b)]
 hks:scope.names.lookup ("super" :Str)=some .globalImplicit
 hkc:scope.names.lookup ("__class__" :Str)=some .free
 hka:scope.names.lookup ("self" :Str)=some .local
 hky:scope.names.lookup y=some .local
 hkd:(y==("__debug__" :Str))=false
 hne:(y==("self" :Str))=false
 cell: ∀x∈scope.names,x.2≠ .cell
 co:scope.isCoroutine=false
 gen:scope.isGenerator=false
 kind:scope.kind= .function
structure ZkE(P:Program)(K:PySem.W.Frag)(C:Addr)(f:Str):Prop where
 base: ∃B newId initId bmB,ZlP B newId initId bmB∧PySem.W.excInitIn K C bmB newId=true∧PySem.W.excOver K C bmB=true∧PySem.W.subIn K (.ref C) (.type B)=some true∧PySem.W.ks_superIn K C C "__init__" =some (some (.builtin initId))
 sa:PySem.W.findIn K (.ref C) "__setattr__" =some (some (.builtin "object.__setattr__"))
 tk:PySem.W.takerIn K C f=some none
 hd:PySem.W.hasDictIn K C=true
 mro:PySem.W.mroIn K C (.ref C)=some true
 sup:PySem.W.nsIn K mainGlobals "super" =some none
 tp:PySem.W.nsIn K cStatics "thirdparty.any" =some none
 top:(P.main.scope.names.lookup ("super" :Str)).isSome=false
 fn: ∃(fI cda cc:Addr) (qual y:Str) (params:Arguments) (body:List Stmt) (scope:Scope) (kV doc pm ct oc:Value) (an od:Option Addr) (osl:Array (Option Value)) (ccl cl:Value) (cdd cld:Option Addr) (ccs csl:Array (Option Value)) (vs:Array Value) (file:Str) (tf:Tok),
  PySem.W.findIn K (.ref C) "__init__" =some (some (.ref fI))∧PySem.W.isFn K (.ref fI)=true∧K.lookup fI=some ⟨oc,od, .func (PySem.W.ksFn "__init__" qual params body scope .none kV doc pm an (.ref cda) ct cc),osl⟩∧
  PySem.W.codeIn K (.ref cda) qual=true∧K.lookup cda=some ⟨ccl,cdd, .fields vs,ccs⟩∧vs[2]? =some (.str file tf)∧((P.main.file:Str)==file)=true∧K.lookup cc=some ⟨cl,cld, .cell (some (.ref C)),csl⟩∧ZhV params body scope f y
section
open PySem.W PySem.Calls
variable{P:Program}{w:World}{A:Around}{E:Value→Shared→Prop}{s:Shared}{K:Frag}{mg mb:Str→Option Value}{C:Addr}{f:Str}{v:Value}{Q:Value→Shared→Prop}
theorem Znm(T:ZkE P K C f)(X:K.In s.heap)(G:s.heap.Ns mainGlobals mg)(Bn:s.heap.Ns builtinsNs mb)(boot: ∀y:Str,y≠ "__name__" →mb y=bootBuiltins y)(lim:s.heap.NoLimit)(room:(A.under (.builtin "type.__call__" ⟨[.ref C,v],[]⟩)).depth<recursionLimit)
  (h: ∀h' e dx t tk,(∀b o,s.heap.get? b=some o→h'.get? b=some o)→s.heap.objs.size≤e→s.heap.objs.size≤dx→dx≠e→h'.get? e=some (excObj C t (some dx) .none)→h'.Ns1 dx (fun y=>if y=f then some v else none)→Q (.ref e) {s with heap:=h',toks:=tk}):
  wpAny (model P w) A (call (.ref C) [v]) Q E s:=by
 obtain⟨B,newId,initId,bmB,BX,hI,hO,hB,hS⟩:=T.base
 obtain⟨fI,cda,cc,qual,y,params,body,scope,kV,doc,pm,ct,oc,an,od,osl,ccl,cl,cdd,cld,ccs,csl,vs,file,tf,hfi,hfn,hlk,hcd,Zw1,hvs,hfile,hcell,IS⟩:=T.fn
 obtain⟨nm,N',qn,bs,bm,hdct,sn,sub,ab,col,dd,k0,k1,k2,k3,k5,hC,hT⟩:=excInit_of X hI
 obtain⟨hh,g,d,tk,os⟩:=s
 have hoI:=X _ _ hlk
 have hi':Looks (model P w) hh (typeLookup (.ref C) "__init__") (some (.ref fI)):=looks_findIn X hfi
 have hcI:oc= .type "function" :=by
  have e:(K.lookup fI).map (·.cls)=some (.type "function"):=beq_iff_eq.mp hfn
  rw[hlk]at e
  exact Option.some.inj e
 subst hcI
 refine wpAny_call (PX.call_own BX.fb hT hC hi' (fun self=>exc_bind hoI rfl self) (by rw[sizeLine_eq];exact(by decide:1≤16777216)) ?_)
 --the object and its args are laid
 have lt: ∀{b o},hh.get? b=some o→b<hh.objs.size:=fun e=>Heap.lt_size e
 generalize hG2:(hh.push (kdv_tup [v])).push (PX.excO C hh.objs.size)=h2
 have k2': ∀b o,hh.get? b=some o→h2.get? b=some o:=fun b o e=>by rw[←hG2];exact Heap.get?_push_of_some _ (Heap.get?_push_of_some _ e)
 have sz2:h2.objs.size=hh.objs.size+2:=by rw[←hG2,Heap.size_push,Heap.size_push]
 have e2:h2.get? (hh.objs.size+1)=some (excObj C hh.objs.size none .none):=by
  rw[←hG2]
  have z:((hh.push (kdv_tup [v])).push (PX.excO C hh.objs.size)).get? (hh.push (kdv_tup [v])).objs.size=some (PX.excO C hh.objs.size):=Heap.get?_push_size _ rfl
  rw[Heap.size_push]at z
  exact z
 have t2:h2.get? hh.objs.size=some (excTup [v]):=by
  rw[←hG2]
  exact Heap.get?_push_of_some _ (Heap.get?_push_size _ rfl)
 have Zw2:hh.objs.size+1≠hh.objs.size:=Nat.succ_ne_self _
 refine ks_codeAny_call_defAt (s:=⟨h2,g,d,tk,os⟩) (fd:=ksFn "__init__" qual params body scope .none kV doc pm an (.ref cda) ct cc) (body:=body) (binds:=[(("self" :Str), .ref (hh.objs.size+1)),(y,v)]) room (k2' _ _ hoI) rfl (lim.keeps k2') (codeRec_of (X.keeps k2') hcd) rfl
  (BindsTo.of_eq (IS.bind _ _ _ _ _ _ _ _ _ _)) IS.cell (fun z hz=> ?_) (fun h₁ hns k₁=> ?_) IS.co IS.gen IS.kind
 ·simp only[List.mem_cons,List.not_mem_nil,or_false]at hz
  rcases hz with rfl|rfl
  ·exact IS.hka
  ·exact IS.hky
 obtain⟨p0,p1,p2,p3,p4,p5,p6,p7,p8,p9,txt,j,rfl,hev⟩:=IS.body
 obtain⟨ar,har,hself⟩:=IS.first
 let l2:List Addr:=[hh.objs.size+1,hh.objs.size]
 have F:Fr (hideAll h2 l2) h2.objs.size h₁ (fun z=>[(("self" :Str), .ref (hh.objs.size+1)),(y,v)].reverse.lookup z):=⟨hns,fun b o e=>k₁ b o (of_hideAll _ e),Nat.le_of_eq (hideAll_size _ _)⟩
 have N:News (hideAll h2 l2) h2.objs.size h₁ [(hh.objs.size+1,excObj C hh.objs.size none .none),(hh.objs.size,excTup [v])]:=by
  intro p hp
  simp only[List.mem_cons,List.not_mem_nil,or_false]at hp
  rcases hp with rfl|rfl
  ·exact⟨k₁ _ _ e2,by rw[sz2];show hh.objs.size+1≠hh.objs.size+2;omega,hideAll_none _ (by simp [l2])⟩
  ·exact⟨k₁ _ _ t2,by rw[sz2];show hh.objs.size≠hh.objs.size+2;omega,hideAll_none _ (by simp [l2])⟩
 have old: ∀b o,hh.get? b=some o→(hideAll h2 l2).get? b=some o:=fun b o e=>hideAll_get _ (k2' _ _ e) (fun z=>by
  have q:b<hh.objs.size:=lt e
  rcases List.mem_cons.mp z with z|z
  ·rw[z]at q;exact absurd q (Nat.not_lt.mpr (Nat.le_succ _))
  ·rw[List.mem_singleton.mp z]at q;exact absurd q (Nat.lt_irrefl _))
 have X₀:K.In (hideAll h2 l2):=X.keeps old
 have G₀:(hideAll h2 l2).Ns mainGlobals mg:=G.keeps old
 have B₀:(hideAll h2 l2).Ns builtinsNs mb:=Bn.keeps old
 have hsuper:mg "super" =none:=mg_none_of X G T.sup
 have Zqx:[(("self" :Str),Value.ref (hh.objs.size+1)),(y,v)].reverse.lookup ("self" :Str)=some (Value.ref (hh.objs.size+1)):=by
  show(List.lookup ("self" :Str) [(y,v),(("self" :Str),Value.ref (hh.objs.size+1))])=_
  have e:(("self" :Str)==y)=false:=by
   have:=IS.hne
   simp only[beq_eq_false_iff_ne,ne_eq]at this⊢
   exact fun z=>this z.symm
  simp [List.lookup,e]
 have ly:[(("self" :Str),Value.ref (hh.objs.size+1)),(y,v)].reverse.lookup y=some v:=by
  show(List.lookup y [(y,v),(("self" :Str),Value.ref (hh.objs.size+1))])=_
  simp [List.lookup]
 obtain⟨cdD,hcls,_⟩:=any_some T.hd
 have Xh:K.In h₁:=X₀.keeps F.keep
 have hhC:h₁.get? C=some (excClassObj nm qn C N' bs bm hdct sn sub ab col dd k0 k1 k2 k3 k5 newId):=F.keep _ _ (old _ _ hC)
 have nC: ∀{cd:ClassData},excObj C hh.objs.size none .none≠({cls:= .type "type",dict:=none,data:= .cls cd}:Obj):=fun z=>by cases z
 obtain⟨pl,he,hint,hs1,hs2⟩:=hev qual h2.objs.size fI cc (.ref cda)
 refine ks_wpAt_execs_cons (ks_wpAt_Expr_any (ks_wpAt_MethodCall (pl:=pl) ?_ he) hint hs1)
 refine ks_wpAt_super_base (env:=ksEnv qual scope h2.objs.size fI (.ref cda) cc) IS.hks IS.hkc (by decide) rfl (Xh _ _ hlk) rfl har rfl (Xh _ _ Zw1) rfl hvs hfile T.top ?_
 refine ks_loadName_global IS.kind IS.hks (loadGlobal_builtin (env:=ksEnv qual scope h2.objs.size fI (.ref cda) cc) (G₀.keeps F.keep) hsuper (B₀.keeps F.keep) ((boot _ (by decide+kernel)).trans (show bootBuiltins "super" =some (.type "super")by decide+kernel)) ⟨rfl, ?_⟩)
 refine wpAny_loadName_free IS.kind IS.hkc rfl ⟨_,Xh _ _ hcell,rfl⟩ ?_
 rw[hself]
 refine wpAny_loadName_local IS.kind IS.hka F.ns Zqx ?_
 refine ks_wpAny_isType_cls hhC rfl ⟨rfl, ?_⟩
 refine ks_wpAny_call_super hhC rfl (k₁ _ _ e2) rfl (fun c e=>by cases e) (looks_mroIn Xh T.mro) (fun h3 e3 k3'=> ?_)
 obtain⟨F3,N3,l3⟩:=ks_newsPush (s:=⟨h₁,g,d,tk+2,os⟩) F N rfl e3 k3'
 refine kxs_method BX.kf F3 X₀ N3 List.mem_cons_self (InstAt.of_exc0 N3 (List.mem_cons_of_mem _ List.mem_cons_self)) T.tp hS hB (by decide) (fun qa h4 F4 N4 l4=> ?_)
 refine kxs_callWith1 (i:=initId) (x:=hh.objs.size+1) N4 List.mem_cons_self ?_
 refine Calls.spliced_cons (wpAny_Constant_str (pos:=p3) (k:=j) (Calls.spliced_nil ⟨kxs_at N4 List.mem_cons_self, ?_⟩))
 have me:((hh.objs.size+1,excObj C hh.objs.size none .none):Addr×Obj)∈[(hh.objs.size+1,excObj C hh.objs.size none .none),(hh.objs.size,excTup [v])]:=List.mem_cons_self
 have n1:qa≠hh.objs.size+1:=fun z=>by
  have q:=l4 _ (List.mem_cons_of_mem _ me)
  rw[z]at q;exact absurd q (Nat.lt_irrefl _)
 have n2:h₁.objs.size≠hh.objs.size+1:=fun z=>by
  have q:=l3 _ me
  rw[z]at q;exact absurd q (Nat.lt_irrefl _)
 have n3:hh.objs.size≠hh.objs.size+1:=fun z=>Zw2 z.symm
 refine kxs_call (s:=⟨h4,g,d,_,os⟩) F4 X₀ N4 BX.fb hI List.mem_cons_self (.tail n1 (.tail n2 (.head fun p hp=>by rw[List.mem_singleton.mp hp];exact n3))) (by rw[sizeLine_eq];exact(by decide:1≤16777216)) (fun t5 h5 F5 N5 l5=> ?_)
 have hrest: ∀p∈[(hh.objs.size,excTup [v])],p.1≠hh.objs.size+1:=fun p hp=>by rw[List.mem_singleton.mp hp];exact n3
 have n4:t5≠hh.objs.size+1:=fun z=>by
  have q:=l5 _ (List.mem_cons_of_mem _ (List.mem_cons_of_mem _ me))
  rw[z]at q;exact absurd q (Nat.lt_irrefl _)
 refine ks_wpAt_execs_cons (wpAt_of_wpAny (plainObj_wpAny_Assign_Attribute ?_ hs2))
 refine ESX.ldL (m:=fun z=>[(("self" :Str),Value.ref (hh.objs.size+1)),(y,v)].reverse.lookup z) (v:=v) F5.ns ly ?_ IS.kind IS.hky IS.hkd
 refine ESX.ldL (m:=fun z=>[(("self" :Str),Value.ref (hh.objs.size+1)),(y,v)].reverse.lookup z) (v:= .ref (hh.objs.size+1)) F5.ns Zqx ?_ IS.kind IS.hka
 refine set_exc0 (s:=⟨h5,g,d,_,os⟩) BX.sf F5 X₀ N5 (by simp) T.sa hO T.tk T.hd rfl (.tail n4 (.tail n1 (.tail n2 (.head hrest)))) (show 1≤1000 by decide) (fun dx h6 F6 N6 l6=> ?_)
 refine wpAt_of_wpAny (wpAny_execs_nil ?_)
 refine⟨rfl,h h6 (hh.objs.size+1) dx t5 _ (fun b o e=>F6.keep _ _ (old _ _ e)) (Nat.le_succ _) ?_ ?_ (N6 _ (.tail _ (.tail _ (.tail _ (.tail _ (.head _)))))).1 ?_⟩
 ·have q:=l6 (t5,_) List.mem_cons_self
  have q2:=l5 _ (List.mem_cons_of_mem _ (List.mem_cons_of_mem _ me))
  exact Nat.le_trans (Nat.le_succ _) (Nat.le_of_lt (Nat.lt_trans q2 q))
 ·intro z
  have q:=l6 (t5,_) List.mem_cons_self
  have q2:=l5 _ (List.mem_cons_of_mem _ (List.mem_cons_of_mem _ me))
  rw[z]at q
  exact absurd (Nat.lt_trans q2 q) (Nat.lt_irrefl _)
 ·refine⟨_,_,_,(N6 _ List.mem_cons_self).1,rfl, ?_, ?_, ?_⟩
  ·intro e he
   obtain⟨tt,he'⟩: ∃tt:Tok,e∈[(⟨PyData.keyHash w.params f, .str f tt,v⟩:DictEntry)]:=⟨_,by simpa only[putL]using(Array.mem_toList_iff.mpr he)⟩
   rw[List.mem_singleton.mp he']
   exact⟨_,_,rfl⟩
  ·exact List.pairwise_singleton _ _
  ·intro z
   simp only[nsFind,findBy,putL]
   by_cases hz:z=f
   ·subst hz
    simp [Value.isStr]
   ·have hz': ¬f=z:=fun q=>hz q.symm
    simp [Value.isStr,hz,hz']
end
end Bk
namespace Bk
open PySem PySem.Spec PyProof.Rows L2
def ZrL(n:Str):List Str:=
 if n="Missing" then["Missing","LookupError"]else if n="TooMany" then["TooMany","OverflowError"]else[n,"KeptError","ValueError"]
def HF(n m:Str):Bool:=decide (m∈ZrL n)
structure Zox(P:Program)(K:PySem.W.Frag)(mg:Str→Option Value)(T:Tb)(n f:Str):Prop where
 et:ZkE P K (T.cls n) f
 mg:mg n=some (.ref (T.cls n))
 keep:PySem.W.keepIn K (.ref (T.cls n))=true
 sb:PySem.W.subIn K (.ref (T.cls n)) (.type "BaseException")=some true
 ty:PySem.W.typeIn K (.ref (T.cls n))=some (.type "type")
structure Zum(K:PySem.W.Frag)(T:Tb)(n:Str):Prop where
 ec:ExcC K (T.cls n)
 xf:XfC K (T.cls n)
section
variable{X:Cx}{T:Tb}{W:WX}{k:Nat}{a:Expr}{fa:Exp}{p pos pos':Pos}{x n f:Str}
def tMk(C:Addr)(f:Str)(ta:TA):L2.St→Hp→XK→Prop:=fun σ H Q=>ta σ H fun vs H1=> ∃x,vs=[x]∧ ∀dx,H1 dx=none→Q (.ref C) (some dx) (upd H1 dx (.xd [(f,x)]))
theorem Zpr{C:Addr}{ta:TA}(T:ZkE X.prog X.K C f)(gC:X.mg x=some (.ref C))(kC:PySem.W.keepIn X.K (.ref C)=true)(r:Raises X (.ref C))(hg:Gl X x)(hr:Room k X.A)(ha:PA X [a] ta)
  (hdb:(x==("__debug__" :Str))=false:=by decide) (he:starEach [a] X.env=(false,eval a X.env)::starEach [] X.env:=by rfl) (hpl:(backTo pos (starEach [] X.env)).any (·.1)=false:=by rfl):PMk X (.Call (.Name x p) [a] [] pos) (tMk C f ta):=by
 intro pins s σ H Q I h
 refine wpAny_Call_Name_kw (ld_glob I hg gC ?_ hdb)
 refine PySem.W.callWith_K (h₀:=X.base) I.ok.mod.kin kC (thn (ha.run pos pins s σ H _ I h) fun us s1 ⟨vs,H1,I1,r1,q⟩=>⟨I1.kIn, ?_⟩) he hpl
 obtain⟨y,rfl,q⟩:=q
 obtain⟨u,rfl,ru⟩:=vals1 r1
 obtain⟨mb,nb,boot⟩:=I1.mod.blt
 refine Znm T I1.kIn (I1.mod.glob.keeps I1.bk) (nb.keeps I1.bk) boot I1.nolimit (by rw[make_depth];have:=hr.dp;omega) fun h' e dx t tk kp he hdx ne ho hn=> ?_
 obtain⟨G,g1,g2⟩:=restrict h' fun b=>decide (b≠e)
 have gk: ∀b,b≠e→G.get? b=h'.get? b:=fun b hb=>g1 b (decide_eq_true hb)
 have ge:G.get? e=none:=g2 e (by simp)
 have nlt: ∀{b o},s1.heap.get? b=some o→b≠e:=fun{b o} z y=>absurd (Heap.lt_size z) (by rw[y];exact Nat.not_lt.mpr he)
 have k2: ∀b o,s1.heap.get? b=some o→G.get? b=some o:=fun b o z=>by rw[gk b (nlt z)];exact kp b o z
 have n0:s1.heap.get? dx=none:=by
  cases z:s1.heap.get? dx with
  |none=>rfl
  |some o=>exact absurd (Heap.lt_size z) (Nat.not_lt.mpr hdx)
 have hd0:H1 dx=none:=I1.hok.fresh hdx
 have hnG:G.Ns1 dx (fun y=>if y=f then some u else none):=hn.at fun o z=>by rw[gk dx ne];exact z
 have J:=I1.laidN (h':=G) (t':=tk) (o:= .xd [(f,y)]) k2 n0 hd0 ⟨_,hnG,fun g=>by
  by_cases hgf:g=f
  ·subst hgf
   simp only[List.lookup,beq_self_eq_true,if_true]
   exact ru
  ·have e2:(g==f)=false:=by simpa using hgf
   simp only[List.lookup,e2,if_neg hgf]
   exact trivial⟩
 refine⟨e,_,_,_,_, .ref (C),some dx,rfl,J,fun b o z=> ?_,ge,ho,⟨rfl,rfl⟩,rfl,rfl, ?_,rfl,I1.bare,r,q dx hd0⟩
 ·by_cases hb:b=e
  ·rw[hb]at z;rw[show({s1 with heap:=G,toks:=tk}:Shared).heap.get? e=G.get? e from rfl,ge]at z;cases z
  ·rw[←gk b hb];exact z
 ·rw[upd_ne (fun z=>ne z.symm)];exact I1.hok.fresh he
def qR(n f:Str)(g:Exp):Yh:=fun D e s=>g e s (fun d s1=>D.ex ⟨n,[(f,d)]⟩ e s1) (fun x s'=>D.ex x e s')
theorem qd(C:Zox X.prog X.K X.mg T n f)(hr:Room k X.A)(hc:X.calm=true)(tk:Takes X W)(hg:Gl X n)(ha:DX X T W a fa)
  (hdb:(n==("__debug__" :Str))=false:=by decide) (he:starEach [a] X.env=(false,eval a X.env)::starEach [] X.env:=by rfl) (hpl:(backTo pos (starEach [] X.env)).any (·.1)=false:=by rfl):
  DS X T W (.Raise (some (.Call (.Name n p) [a] [] pos)) none pos') (qR n f fa):=
 ⟨Ld (ps_raise hc tk (Zpr (pos:=pos) C.et C.mg C.keep (raises_own C.sb C.ty) hg hr (pa_cons ha.pe pa_nil he) hdb he hpl)) fun Q σ H ⟨F,e,s,D,he',hh,ht,pp⟩=>by
   refine⟨F,e,s,_,_,he',hh,pp.uV he',ht,fun d s1 v H1 F1 q x1 hh1 rv=>⟨v,rfl,fun dx ndx=> ?_⟩⟩
   obtain⟨b1,b2,_⟩:=hh1.Zl6 (o:= .xd [(f,v)]) ndx
   exact pp.ex _ e s1 _ _ σ _ F1 q (x1.trans b2) b1 (he'.mono x1.same) ⟨rfl,dx,_,rfl,upd_same, .cons rv .nil⟩⟩
end
end Bk
namespace Bk
open PySem PySem.Spec PyProof.Rows L2
section
variable{X:Cx}{pins:List (Addr×Obj)}{σ:L2.St}{H:Hp}{s:Shared}
theorem flying_keeps{B h h':Heap}{l:List Env}{a:Addr}{Z:Obj→Prop}(f:HandSPX.FlyingZ B l a Z h)(k: ∀b o,h.get? b=some o→h'.get? b=some o):HandSPX.FlyingZ B l a Z h':=by
 obtain⟨f1,f2,f3,oe,vs,tb,ot,ts,g1,g2,g3,g4,g5,g6,g7,g8,g9⟩:=f
 exact⟨fun b o e=>k b o (f1 b o e),f2,f3.of_keeps (fun b o e _=>⟨o,k b o e,rfl⟩),oe,vs,tb,ot,ts,k _ _ g1,g2,g3,g4,g5,g6,k _ _ g7,g8,g9⟩
theorem Inv.track{a:Addr}{o:HO}{oe:Obj}{vs:Array Value}(I:L2.Inv X pins σ H s)(hx:X.ex=[])(n0:X.s_0.heap.get? a=none)(na:H a=none)(nL:a≠X.env.locals)(np: ∀p∈X.pn++pins,p.1≠a)(ha:s.heap.get? a=some oe)(hd:oe.data= .fields vs)
  (new:ObjOk X.prog X.w (upd H a o) s.heap a o):L2.Inv X pins σ (upd H a o) s:=by
 have ne0: ∀{b:Addr} {u:Obj},X.s_0.heap.get? b=some u→b≠a:=fun{b u} e z=>by rw[z,n0]at e;cases e
 refine⟨I.ok,I.os,I.bare,⟨I.base.keep,I.base.slot,fun b u e n q=> ?_,I.base.there,fun b xs e=> ?_,fun b u w e=> ?_,fun b ps e=> ?_⟩,I.loc,I.cell, ?_,fun x c e=> ?_,fun p hp=> ?_, ?_,I.len⟩
 ·rw[upd_ne (ne0 e)];exact I.base.free b u e n q
 ·have q:=I.base.tups b xs e
  rw[upd_ne (ne_of_none q na)];exact q
 ·have q:=I.base.frzs b u w e
  rw[upd_ne (ne_of_none q na)];exact q
 ·obtain⟨more,q⟩:=I.base.tbls b ps e
  exact⟨more,by rw[upd_ne (ne_of_none q na)];exact q⟩
 ·rw[upd_ne (fun z=>nL z.symm)];exact I.free
 ·have ne:c≠a:=fun z=>by
   obtain⟨w,oc,h1,h2⟩:=I.cell x c e
   rw[z,ha]at h1;cases h1
   rw[hd]at h2;cases h2
  rw[upd_ne ne];exact I.freeC x c e
 ·obtain⟨h1,h2,h3,h4,h5⟩:=I.pin p hp
  exact⟨h1,by rw[upd_ne (np p hp)];exact h2,h3,h4,h5⟩
 ·exact HOk.laidN I.hok (fun _ _ z=>z) na new
theorem Zps{P:Program}{w:World}{h:Heap}{a C dx:Addr}{oe:Obj}{vs:Array Value}(e:h.get? a=some oe)(z:Zc (.ref C) (some dx) oe)(d:oe.data= .fields vs):ObjOk P w H h a (pY C dx a):=
 ⟨⟨oe,vs,e,z.1,z.2,d⟩,⟨oe,e⟩,fun _ _ ⟨o,v,q,r⟩ k=>⟨o,v,k o q,r⟩⟩
def Zqy(X:Cx)(test:Expr)(cs:List Value):Prop:= ∀(a:Addr) (pn pins:List (Addr×Obj)) (σ:L2.St) (H:Hp) (s:Shared) (cls:Value) (b:Bool),L2.Inv (X.suite a pn) pins σ H s→PySem.W.Looks (model X.prog X.w) s.heap (typeOf (.ref a)) cls→PySem.W.exmAny X.K cls cs=some b→
 ∀(Q:Bool→Shared→Prop) (E1 E2:Value→Shared→Prop),(∀h',(∀q o,s.heap.get? q=some o→h'.get? q=some o)→Q b {s with heap:=h'})→
  wpAny (model X.prog X.w) (X.A.mark (some (.ref a))) (eval test X.env) (fun c s₁=>wpAny (model X.prog X.w) (X.A.mark (some (.ref a))) (excMatches (.ref a) c) Q E2 s₁) E1 s
theorem zK{x:Str}{c:Value}{np:Pos}{a:Addr}{pn:List (Addr×Obj)}(hc:Names X x c)(I:L2.Inv (X.suite a pn) pins σ H s){Q:Value→Shared→Prop}{E:Value→Shared→Prop}(q:Q c s):wpAny (model X.prog X.w) (X.A.mark (some (.ref a))) (eval (.Name x np) X.env) Q E s:=by
 obtain⟨hg,hd,hm|⟨hm,hv,hn⟩⟩:=hc
 ·exact ld_glob (X:=X.suite a pn) I hg hm q hd
 ·exact ld_blt (X:=X.suite a pn) I hg hm hv q hn hd
theorem Ziu{x1 x2 x3:Str}{c1 c2 c3:Value}{p1 p2 p3 tp:Pos}{kk:Nat}(n1:Names X x1 c1)(n2:Names X x2 c2)(n3:Names X x3 c3):Zqy X (.Tuple [.Name x1 p1, .Name x2 p2, .Name x3 p3] kk tp) [c1,c2,c3]:=fun a pn pins σ H s cls b I LT he Q E1 E2 q=>by
 refine wpAny_Tuple (wpAny_items_cons (zK n1 I (wpAny_items_cons (zK n2 I (wpAny_items_cons (zK n3 I (wpAny_items_nil ⟨by size_fits, ?_⟩)))))))
 have kp: ∀z o,s.heap.get? z=some o→(s.heap.push {cls:= .type "tuple",data:= .seq [c1,c2,c3].toArray}).get? z=some o:=fun _ _ e=>Heap.get?_push_of_some _ e
 have KI:X.K.In s.heap:=I.kIn
 exact(PySem.W.exm_tup3 (KI.keeps kp) (LT.keeps kp) (Heap.get?_push_size s.heap rfl) he).here (q _ kp)
end
def Zqz(K:PySem.W.Frag)(cs:List Value)(i ln:Nat)(ts:Addr→Value→Option Addr→TS)(Wout:WX)(D:Ends):WX:=fun cls d σ H=>
 ∃b,PySem.W.exmAny K cls cs=some b∧(b=true→ ∃C dx,cls= .ref C∧d=some dx∧ ∀a,H a=none→σ.length=ln→
  ts a cls d {nx:=fun σ' H'=>H' a=none→D.nx (σ'.set i none) (upd H' a (pY C dx a)),rt:=fun _ _=>False,bk:=fun _ _=>False,ct:=fun _ _=>False} (σ.set i (some (.ref a))) H)∧(b=false→Wout cls d σ H)
section
variable{X:Cx}{n:Str}{cs:List Value}{i:Nat}{body suite:List Stmt}{b₀:Stmt}{test:Expr}{pos pos':Pos}{tb:WX→TS}{ts:Addr→Value→Option Addr→TS}{Wout:WX}
theorem ZfW(hs:X.stack=X.env::X.outer)(hf:X.env.frame=some X.env.locals)(hex:X.ex=[])(hN:X.N.Nodup)(hi:X.N[i]? =some n)(hln:X.env.kindOf n=some .local)(hT:Zqy X test cs)(tk:Takes X Wout)
  (hb: ∀(W:WX) (pn:List (Addr×Obj)) (xe:Value→Shared→Prop),Takes (X.tr pn xe) W→PassesOwn (model X.prog X.w) X.A X.env xe→PSs (X.tr pn xe) body (tb W))
  (hsu: ∀(a:Addr) (oe:Obj) (cls:Value) (d:Option Addr) (pn:List (Addr×Obj)),Zc cls d oe→(∃vs,oe.data= .fields vs)→PSs (X.suite a ((a,oe)::pn)) (b₀::suite) (ts a cls d)):
  PS X (.Try body [.ExceptHandler (some test) (some n) (b₀::suite) pos'] [] [] pos) (fun D σ H=>tb (Zqz X.K cs i X.N.length ts Wout D) D σ H):=by
 refine⟨fun pins s σ H D I0 hgoal=> ?_⟩
 have okX:=I0.ok
 have frX:X.A.frames=some (X.env::X.outer):=by rw[okX.frames,hs]
 refine wpAny_Try_except ?_
 refine wpAny_mono ((hb (Zqz X.K cs i X.N.length ts Wout D) (X.pn++pins) (fun e s₁=>wpAny (model X.prog X.w) X.A (noteFrame e X.env) (fun _ s₂=>wpAny (model X.prog X.w) X.A (setFlight e none) (fun _ s₃=>
  wpAny (model X.prog X.w) X.A (handleBy e X.env [.ExceptHandler (some test) (some n) (b₀::suite) pos']) (SP X pins D) X.xe s₃) X.xe s₂) X.xe s₁) (fun u s' xx=> ?_) PassesOwn.looking).run [] s σ H D (I0.toTry _) hgoal) (fun fl s1 hsp=> ?_) (fun _ _ he=>he)
 ·obtain⟨a,B,sI,pins',σ',H',cls,d,rfl,Ji,nb,up,sky,na,os,ag,b,hb1,hyes,hno⟩:=xx
  have Ja:L2.Inv X pins σ' H' sI:=Ji.ofTry okX
  have Zw3:Sky B (X.env::X.outer) a (Zc cls d) X.env.locals s'.heap:=by rw[←hs];exact sky
  show wpAny (model X.prog X.w) X.A (noteFrame (.ref a) X.env) _ _ _
  refine Sky.land Zc.steady frX hf Zw3 fun ha flA upA=> ?_
  have JA:L2.Inv X pins σ' H' {s' with heap:=ha}:=Ja.landed nb flA.1 (up.trans upA) os ag
  obtain⟨oA,vA,gA,zA,dA⟩:=flA.there
  have nFr:a∉frs (X.env::X.outer):=fun hm=>by
   obtain⟨_,o',e',hnf⟩:=flA.2.2.1.mem hm
   rw[gA]at e';cases e'
   exact hnf _ dA
  have nLo:a≠X.env.locals:=fun z=>nFr (List.mem_filterMap.mpr ⟨X.env,List.mem_cons_self,by rw[hf,z]⟩)
  have nFs:a∉X.fs:=fun hm=>by
   obtain⟨e,he,q⟩:=List.mem_filterMap.mp hm
   exact nFr (List.mem_filterMap.mpr ⟨e,List.mem_cons_of_mem _ he,q⟩)
  have nBa:B.get? a=none:=flA.2.1
  have nSi:sI.heap.get? a=none:=by
   cases z:sI.heap.get? a with
   |none=>rfl
   |some o=>
    have y:=nb a o z (by rw[hs];exact nFr)
    rw[nBa]at y;cases y
  have nS0:X.s_0.heap.get? a=none:=by
   cases z:X.s_0.heap.get? a with
   |none=>rfl
   |some o=>
    obtain⟨o',y⟩:=Ja.base.there a o z (by rw[hex];exact fun w=>nomatch w)
    rw[nSi]at y;cases y
  have Zw4: ∀p∈X.pn++pins,p.1≠a:=fun p hp z=>by
   have y:=(Ja.pin p hp).1
   rw[z,nSi]at y;cases y
  have SA:=JA.suite gA dA na nLo nFs
  refine wpAny_handleBy_cons (codeAny_handlers_test ?_) (by intro q;cases q)
  have LT:PySem.W.Looks (model X.prog X.w) ha (typeOf (.ref a)) cls:=fun A Q E s k q=>wpAny_typeOf_ref (k _ _ gA) (by rw[zA.1];exact q)
  refine hT a _ _ _ _ _ cls b SA LT hb1 _ _ _ fun hT' kT=> ?_
  have flT:=flying_keeps flA kT
  have JT:L2.Inv X pins σ' H' {s' with heap:=hT'}:=JA.kept kT
  cases b with
  |true=>
   obtain⟨C,dx,rfl,rfl,hyes⟩:=hyes rfl
   refine codeAny_handlers_suite_as ?_
   refine HandSPX.lands_againZ flT fun hB flB upB=> ?_
   have JB:L2.Inv X pins σ' H' {s' with heap:=hB}:=by
    have up2:sI.heap.UpToSlots hT':=(up.trans upA).trans (fun b o e _=>⟨o.slots,kT b o e⟩)
    exact Ja.landed nb flB.1 (up2.trans upB) os ag
   obtain⟨oB,vB,gB,zB,dB⟩:=flB.there
   have SB:=JB.suite gB dB na nLo nFs
   refine store_ok (X:=X.suite a ((a,oB)::(X.pn++pins))) (v:= .ref a) SB hN hi (.inl hln) rfl (fun sC SC=> ?_) (.inr hln)
   refine wpAny_mono ((hsu a oB _ _ (X.pn++pins) zB ⟨_,dB⟩).run [] sC _ H' _ SC (hyes a na Ja.len)) (fun fl sD hsp=> ?_) (fun _ _ z=>False.elim z)
   cases fl with
   |next=>
    obtain⟨σD,HD,SD,qD⟩:=hsp
    obtain⟨pg,pn0,_,_,_⟩:=SD.pin (a,oB) (List.mem_append_left _ List.mem_cons_self)
    have JD:L2.Inv X pins σD HD sD:=SD.unsuite okX
    have JE:=Inv.track (o:=pY C dx a) JD hex nS0 pn0 nLo Zw4 pg dB (Zps pg zB dB)
    exact gone_ok JE hN hi hln fun sF JF=>⟨_,_,JF,qD pn0⟩
   |brk=>
    obtain⟨_,_,_,q⟩:=hsp
    exact q.elim
   |cont=>
    obtain⟨_,_,_,q⟩:=hsp
    exact q.elim
   |ret u=>
    obtain⟨_,_,_,_,_,q⟩:=hsp
    exact q.elim
  |false=>
   show wpAny _ X.A (handleBy (.ref a) X.env []) _ _ _
   refine wpAny_handleBy_nil ?_
   obtain⟨k1,k2,k3,oe,vs,tb',oT,ts',he,hz,hd,h1,hr⟩:=id flT
   unfold PySem.passOn
   refine wpAny_bind (wpAny_field he hd h1 ?_)
   rw[if_neg (show¬((Value.ref tb'==Value.none)=true)from by simp)]
   have fin:wpAny (model X.prog X.w) X.A (setFlight (.ref a) X.env.frame) (fun _ s4=>wpAny (model X.prog X.w) X.A (throw (.ref a):Sem Flow) (SP X pins D) X.xe s4) X.xe {s' with heap:=hT'}:=by
    rw[hf]
    refine HandSPX.setFlight_upZ flT fun hB hhB upB=>wpAny_throw (tk _ _ ?_)
    have up2:sI.heap.UpToSlots hT':=(up.trans upA).trans (fun b o e _=>⟨o.slots,kT b o e⟩)
    exact⟨a,B,sI,pins,σ',H',cls,d,rfl,Ja,nb,up2.trans upB, .inr (.inr (by rw[hs];exact hhB)),na,os,ag,hno rfl⟩
   first
    |exact wpAny_bind (wpAny_pure (wpAny_bind fin))
    |exact wpAny_bind fin
 ·cases fl with
  |next=>
   obtain⟨σ1,H1,J1,q⟩:=hsp
   exact wpAny_execs_nil ⟨σ1,H1,J1.ofTry okX,q⟩
  |brk=>
   obtain⟨σ1,H1,J1,q⟩:=hsp
   exact⟨σ1,H1,J1.ofTry okX,q⟩
  |cont=>
   obtain⟨σ1,H1,J1,q⟩:=hsp
   exact⟨σ1,H1,J1.ofTry okX,q⟩
  |ret u=>
   obtain⟨v,σ1,H1,J1,r,q⟩:=hsp
   exact⟨v,σ1,H1,J1.ofTry okX,r,q⟩
end
end Bk
namespace Bk
open PySem PySem.Spec PyProof.Rows L2
theorem ZfX{v:Value}{o:Obj}{Hh:Heap→Prop}(B:Begins v o Hh):
  Meets (Builtin.«enumerate.__new__» ⟨[.type "enumerate",v],[]⟩) (fun _ R s=>Hh s.heap∧
   R (.ok (.ret (.ref (s.heap.push o).objs.size))) {s with heap:=(s.heap.push o).push {cls:= .type "enumerate",data:= .fields #[.none, .bool false, .ref s.heap.objs.size,rawInt 0, .none, .none]}}):=
 .of_wp fun P w A R s h=>by
   obtain⟨hp,g,d,tk,os⟩:=s
   obtain⟨hb,h⟩:=h
   have Zz7:=sub_enumerate
   have it1: ∀{A':Around} {E:Value→Shared→Prop} {Q:Value→Shared→Prop},Q (.ref hp.objs.size) ⟨hp.push o,g,d,tk,os⟩→wpAny (model P w) A' (pyIter v) Q E ⟨hp,g,d,tk,os⟩:=
    fun q=>B.iter P w _ _ ⟨hp,g,d,tk,os⟩ _ hb q
   wp_walk using it1
   refine wpAny_stack_any fun st=>wpAny_pure ?_
   split
   ·rename_i c _ _ _ _ _
    cases (c==Value.type "enumerate")<;>(wp_walk using it1;exact⟨_,rfl,h⟩)
   ·wp_walk using it1
    exact⟨_,rfl,h⟩
section
variable{prog:Program}{w:World}{A:Around}{E:Value→Shared→Prop}{s:Shared}
theorem Zeo{v:Value}{o:Obj}{Hh:Heap→Prop}{Q:Value→Shared→Prop}(B:Begins v o Hh)(h1:Hh s.heap)
  (h: ∀h',IsEnum h' (s.heap.objs.size+1) s.heap.objs.size 0 .none→h'.get? s.heap.objs.size=some o→(∀b u,s.heap.get? b=some u→h'.get? b=some u)→Q (.ref (s.heap.objs.size+1)) {s with heap:=h'}):
  wpAny (model prog w) A (call (.type "enumerate") [v]) Q E s:=by
 refine callType_new F.called_enumerate (by decide) (F.typeCall_enumerate_1 _) (F.newCall_enumerate_1 _) (fun obj=>F.args_object_init_2 obj _) F.entry_enumerate_new (ZfX B) ⟨h1, ?_⟩
 have hz:(s.heap.push o).objs.size=s.heap.objs.size+1:=Heap.size_push ..
 show _∧_
 rw[hz]
 have z:=Heap.get?_push_size (s.heap.push o) (o:={cls:= .type "enumerate",data:= .fields #[.none, .bool false, .ref s.heap.objs.size,rawInt 0, .none, .none]}) rfl
 rw[hz]at z
 exact⟨⟨_,z,rfl⟩,h _ z (Heap.get?_push_of_some _ (Heap.get?_push_size _ B.free)) fun b u x=>Heap.get?_push_of_some _ (Heap.get?_push_of_some _ x)⟩
end
def Zrd(K:PySem.W.Frag)(a:Addr):It:=
 ⟨fun i H=> ∃(xs:List V) (x:V),SqT K H a xs∧xs[i]? =some x,fun i H v H'=> ∃t x,v= .ref t∧H t=none∧H'=upd H t (.tup [.int (i:Nat),x])∧ ∀xs,SqT K H a xs→xs[i]? =some x,fun i H=> ∃xs:List V,SqT K H a xs∧xs.length≤i⟩
theorem Ziv{P:Program}{w:World}{K:PySem.W.Frag}{elts:List Expr}{kk:Nat}{tpos:Pos}(a e it:Addr):
  Turn P w K (.Tuple elts kk tpos) (Zrd K a) [e,it] e (fun i h=>(∃old,IsEnum h e it ((i:Nat):Int) old)∧h.IsTupleIter it a i∧e≠it) where
 mem:=by simp
 obj:=fun i h st b hb=>by
  obtain⟨⟨old,he⟩,⟨o,ho,hc,hd⟩,_⟩:=st
  rcases List.mem_cons.mp hb with z|z
  ·rw[z];exact⟨_,he,fun v q=>nomatch q⟩
  ·rw[List.mem_singleton.mp z];exact⟨o,ho,fun v q=>by rw[hd]at q;cases q⟩
 keep:=fun i h h' st k=>⟨st.1.imp fun old he=>k e List.mem_cons_self _ he,st.2.1.at fun o q=>k it (.tail _ (.head _)) o q,st.2.2⟩
 item:=by
  intro X hP hw hK hc i pins s σ H E I hf st hg
  subst hP hw hK
  obtain⟨⟨old,he⟩,hit,hne⟩:=st
  obtain⟨xs,x,hq,hx⟩:=hg
  obtain⟨its,rv,p,hz⟩:=I.tuple hq
  obtain⟨u,hu,ru⟩:=rv.get hx
  have pT:s.heap.IsTuple a its.toArray:=p
  have lE:e<s.heap.objs.size:=Heap.lt_size he
  have lI:it<s.heap.objs.size:=by obtain⟨_,q,_⟩:=hit;exact Heap.lt_size q
  have naI:a≠it:=fun z=>by
   obtain⟨o1,q1,c1,_⟩:=pT
   obtain⟨o2,q2,c2,_⟩:=hit
   rw[z,q2]at q1;cases q1
   rw[c2]at c1;simp at c1
  have naE:a≠e:=fun z=>by
   obtain⟨o1,q1,c1,_⟩:=pT
   rw[z,he]at q1;cases q1
   simp at c1
  have nEf:e∉[it,a]:=fun z=>by
   rcases List.mem_cons.mp z with z|z
   ·exact hne z
   ·exact naE (List.mem_singleton.mp z).symm
  have lt:i<its.toArray.size:=by
   have q:=(List.getElem?_eq_some_iff.mp hu).1
   simpa using q
  refine wpAny_pyNext_enum_itemD (Draws.tuple (show X.A.in1.handled=none from I.ok.hd hc) it a naI its.toArray) he ⟨hit,pT⟩ lt hne nEf fun x' h' tk hP' ho hs' hT hsz hk=> ?_
  have ex:x'=u:=by
   have hP2:its.toArray[i]? =some x':=hP'
   rw[List.getElem?_toArray,hu]at hP2
   exact(Option.some.inj hP2).symm
  subst ex
  refine⟨_,rfl,wpAny_letOwnedTupleGo_enum (s:={s with heap:=h',toks:=tk+1}) ho fun h2 he2 sb=> ?_⟩
  have hT2:h2.get? s.heap.objs.size=some {cls:= .type "tuple",data:= .seq #[.int i tk,x']}:=(sb.2 _ (Nat.ne_of_gt lE)).trans hT
  have new:ObjOk X.prog X.w (upd H s.heap.objs.size (.tup [.int (i:Nat),x])) h2 s.heap.objs.size (.tup [.int (i:Nat),x]):=
   ⟨by show 2≤sizeLine;decide,[.int i tk,x'], .cons ⟨_,rfl⟩ (.cons ru .nil),⟨_,hT2,rfl,_,rfl⟩⟩
  have J:L2.Inv X pins σ (upd H s.heap.objs.size (.tup [.int (i:Nat),x])) {s with heap:=h2,toks:=tk+1}:=
   I.turnedNew (ch:=[e,it]) (fun b ob hb q=>(sb.2 b (fun z=>hb (by simp [z]))).trans (hk b ob (fun z=>hb (by simp [z])) (fun z=>hb (by simp [z])) q)) hf (Nat.le_refl _) new
  refine⟨.ref s.heap.objs.size,_,J,rfl,⟨_,x,rfl,I.hok.fresh (Nat.le_refl _),rfl,fun ys hy=>by rw[I.tuple_inj hy hq];exact hx⟩,⟨⟨x', ?_⟩,hs'.1.at fun o q=>(sb.2 it (Ne.symm hne)).trans q,hne⟩,fun b hb=> ?_⟩
  ·have e1:((i+1:Nat):Int)=(i:Int)+1:=by omega
   rw[e1];exact he2
  ·have hb':b<s.heap.objs.size:=by
    rcases List.mem_cons.mp hb with z|z
    ·rw[z];exact lE
    ·rw[List.mem_singleton.mp z];exact lI
   rw[upd_ne (Nat.ne_of_lt hb')]
   exact(hf b hb).1
 done:=by
  intro X hP hw hK hc i pins s σ H E I hf st hg
  subst hP hw hK
  obtain⟨⟨old,he⟩,hit,hne⟩:=st
  obtain⟨xs,hq,hx⟩:=hg
  obtain⟨its,rv,p,hz⟩:=I.tuple hq
  obtain⟨f0,f1,f2,f3,f4,f5⟩:=hf it (by simp)
  have hl:=rv.length
  have pT:s.heap.IsTuple a its.toArray:=p
  have naI:a≠it:=fun z=>by
   obtain⟨o1,q1,c1,_⟩:=pT
   obtain⟨o2,q2,c2,_⟩:=hit
   rw[z,q2]at q1;cases q1
   rw[c2]at c1;simp at c1
  have D:Draws X.prog X.w X.A.in1 it [it,a] i (fun _ _=>False) (fun j h=>j=i∧h.IsTupleIter it a i∧h.IsTuple a its.toArray):={
   live:=fun _ _ st=>let ⟨o,ho,_⟩:=st.2.1;⟨o,ho⟩
   frame:=fun _ _ _ st hk=>⟨st.1,st.2.1.at fun o e=>hk it (by simp) o e,st.2.2.at fun o e=>hk a (by simp) o e⟩
   item:=fun j s Q E hj st _=>absurd st.1 (Nat.ne_of_lt hj)
   done:=fun s Q E st hE=>wpAny_nextOf_tuple_end (show X.A.in1.handled=none from I.ok.hd hc) st.2.1 st.2.2 (by simp;omega) hE}
  exact wpAny_pyNext_enum_endD D he ⟨rfl,hit,pT⟩ fun h' eb=>⟨rfl,I.turned (t':=s.toks) (fun b o hb q=>eb b o hb q) f0 f1 f3 f4 f5⟩
 self:=fun A i s Q E st h=>let ⟨⟨_,he⟩,_⟩:=st;wpAny_pyIter_enum he h
def ZrN(K:PySem.W.Frag)(ta:TA):TI:=fun σ H R=>ta σ H fun vs H1=> ∃a xs,vs=[.ref a]∧SqT K H1 a xs∧R (Zrd K a) H1
theorem Znn{X:Cx}{e:Expr}{ta:TA}{p pos tpos:Pos}{elts:List Expr}{kk:Nat}(hg:Gl X "enumerate")(hm:X.mg "enumerate" =none)(ha:PA X [e] ta)(hs:starEach [e] X.env=[(false,eval e X.env)]:=by rfl):
  PI X (.Tuple elts kk tpos) (.Call (.Name "enumerate" p) [e] [] pos) (ZrN X.K ta):=by
 refine⟨fun pins s σ H R I h=>Call_ (ld_blt I hg hm boot_enumerate (PyProof.Rows.callWith_type1 (thn (ha.run pos pins s σ H _ I h) fun us s1 ⟨vs,H1,I1,r1,q1⟩=> ?_) hs rfl))⟩
 obtain⟨a,xs,rfl,hq,q⟩:=q1
 obtain⟨u,rfl,ru⟩:=vals1 r1
 obtain rfl:u=Value.ref a:=ru
 obtain⟨its,rv,p',hz⟩:=I1.tuple hq
 refine Zeo (begins_tuple a its.toArray) p' fun h' he hit hk=>wpAny_pyIter_enum he ?_
 have J:L2.Inv X pins σ H1 {s1 with heap:=h'}:=I1.kept (t':=s1.toks) hk
 refine⟨s1.heap.objs.size+1,[s1.heap.objs.size+1,s1.heap.objs.size],_,_,H1,rfl,J,Ziv a (s1.heap.objs.size+1) s1.heap.objs.size,⟨⟨.none,he⟩,⟨_,hit,rfl,rfl⟩,Nat.succ_ne_self _⟩,fun b hb=> ?_,q⟩
 have hle:s1.heap.objs.size≤b:=by
  rcases List.mem_cons.mp hb with z|z
  ·rw[z];exact Nat.le_add_right _ _
  ·rw[List.mem_singleton.mp z];exact Nat.le_refl _
 exact I1.fpOk hle (I1.hok.fresh hle)
def Wt(ds:List D):List D:=ds.mapIdx fun i d=> .tup [.int (i:Nat),d]
theorem ZkF(ds:List D):(Wt ds).length=ds.length:=by unfold Wt;simp
theorem ZkG{ds:List D}{i:Nat}{d:D}(h:(Wt ds)[i]? =some d): ∃x,ds[i]? =some x∧d= .tup [.int (i:Nat),x]:=by
 unfold Wt at h
 rw[List.getElem?_mapIdx]at h
 cases e:ds[i]? with
 |none=>rw[e]at h;cases h
 |some x=>rw[e]at h;exact⟨x,rfl,(Option.some.inj h).symm⟩
section
variable{K:PySem.W.Frag}{T:Tb}{F:Hp}
theorem ZkH{a:Addr}{xs:List V}{ds:List D}(h:SqT K F a xs)(r:Qw K T F ds xs):ItD K T F (Zrd K a) (Wt ds):=fun F' s' H' e hh=>by
 have hq:SqT K H' a xs:=Yu hh.sub (Yu e h)
 refine⟨fun i hi=>⟨xs,hq,by rw[ZkF]at hi;rw[←r.length];exact hi⟩,fun i d hd=> ?_⟩
 obtain⟨x,hx,rfl⟩:=ZkG hd
 obtain⟨v,hv,rv⟩:=r.getD hx
 refine⟨⟨xs,v,hq,hv⟩,fun v' H2 y=> ?_⟩
 obtain⟨t,x',rfl,nt,rfl,y⟩:=y
 have e2:=y xs hq
 rw[hv]at e2;cases e2
 exact Znc hh nt (.int _) (rv.mono e)
end
def aK(r:Arg):Arg:=fun e s R E=>r e s (fun ds s1=>match ds with
 |[.tup xs]=>R (Wt xs) s1
 |_=>False) E
section
variable{X:Cx}{T:Tb}{W:WX}{a:Expr}{p pos tpos:Pos}{elts:List Expr}{kk:Nat}{r:Arg}
theorem Ry(hg:Gl X "enumerate")(hm:X.mg "enumerate" =none)(ha:DA X T W [a] r)(hs:starEach [a] X.env=[(false,eval a X.env)]:=by rfl):DI X T W (.Tuple elts kk tpos) (.Call (.Name "enumerate" p) [a] [] pos) (aK r):=by
 refine⟨⟨fun pins s σ H R I hR=>(Znn hg hm ha.pa hs).run pins s σ H R I ?_⟩⟩
 obtain⟨F,e,s0,RR,E,he,hh,hx,hf,k⟩:=hR
 refine⟨F,e,s0,_,E,he,hh,hx,hf,fun ds s1 vs H1 F1 q x hh1 rs=> ?_⟩
 split at q
 ·obtain⟨v,rfl,r1⟩:=rs.one
  cases r1 with|tup l rr=>exact⟨_,_,rfl,Yu hh1.sub l,k _ s1 _ H1 F1 q x hh1 (ZkH l rr)⟩
 ·exact q.elim
end
end Bk
namespace PySem.W
open PySem PySem.Spec PySem.Calls PyProof.Rows
section
variable{prog:Program}{w:World}{A:Around}{E:Value→Shared→Prop}{s:Shared}{K:Frag}{x D:Addr}{ox:Obj}{dd:Obj}
theorem ZkI(C:L2.ExcC K D)(X:K.In s.heap)(I:InstAt s.heap x ox D (some dd)){Q:Option Value→Shared→Prop}(hq:Q (some (.ref D)) {s with toks:=s.toks+1}):wpAny (model prog w) A (getAttr? (.ref x) "__class__") Q E s:=by
 have ff:findObj K D (some dd) "__class__" =some (.bind (.builtin "getset_descriptor.__get__") (.builtin "object.__class__")):=findObj_data (by obtain⟨cd,e,_⟩:=any_some C.hd;rw[e];rfl) C.ha C.hn C.ht
 obtain⟨hp,g,d,t,os⟩:=s
 have lT:=I.type (M:=model prog w)
 have lA:=looks_findIn (M:=model prog w) X C.hg
 have lG:=looks_findIn (M:=model prog w) X C.hk
 have lF:=looks_find (M:=model prog w) X I ff
 have lS:Looks (model prog w) hp (isInstance (.ref x) (.type "BaseException")) true:=lT.andThen (looks_subIn X C.hs)
 have z2:(Value.builtin "BaseException.__getattribute__" ==Value.builtin "object.__getattribute__")=false:=by decide+kernel
 have z1:(onTheHeap (Value.ref D)&&Value.builtin "BaseException.__getattribute__" ==Value.builtin "object.__getattribute__")=false:=by rw[z2];rfl
 unfold getAttr? getAttrBy? getAttrBy
 refine wpAny_bind (wpAny_mkText (wpAny_bind (wpAny_attempt (wpAny_holding (wpAny_bind (lT.at (wpAny_bind (lA.at ?_))))))))
 change wpAny _ _ (if(onTheHeap (Value.ref D)&&Value.builtin "BaseException.__getattribute__" ==Value.builtin "object.__getattribute__")=true then _ else _) _ _ _
 rw[z1]
 rw[if_neg Bool.false_ne_true]
 unfold getAttrByItsOwn hookBefore
 refine wpAny_bind ?_
 rw[if_pos (show onTheHeap (Value.ref D)=true by rfl)]
 refine lG.at (wpAny_bind (wpAny_attempt (wpAny_holding ?_)))
 unfold callGetattribute
 rw[show(false&&onTheHeap (Value.builtin "BaseException.__getattribute__"))=false by rfl]
 rw[if_neg Bool.false_ne_true]
 unfold boundAndCalled
 rw[PySem.F.excAttr_ValueError.ga.bind (.ref x)]
 refine wpAny_bind (wpAny_pure ?_)
 change wpAny _ _ (call (.builtin "BaseException.__getattribute__") [.ref x, .str "__class__" t]) _ _ _
 refine wpAny_call (codeAny_call_builtin PySem.F.excAttr_ValueError.ga.plain PySem.F.entry_bexc_ga (@check_slot (model prog w) _ _ ⟨hp,g,d,t+1,os⟩ "BaseException.__getattribute__" "BaseException" "__getattribute__" (.ref x) [.str "__class__" t] [] _ (by decide+kernel) (by decide+kernel) lS (PySem.F.args_bexc_ga (.ref x) (.str "__class__" t)) ?_))
 unfold Builtin.«object.__getattribute__»
 refine wpAny_bind (wpAny_of_eq (a:=((Value.ref x:Value),[Value.str "__class__" t])) (by first|rfl|(simp only[slotArgs];rfl)) (wpAny_bind (wpAny_pure (wpAny_bind (lT.at (wpAny_bind (lF.at ?_)))))))
 change wpAny _ _ (holding [Value.builtin "object.__class__"] (call (.builtin "getset_descriptor.__get__") [.builtin "object.__class__", .ref x, .ref D])>>=ret) _ _ _
 refine wpAny_bind (wpAny_holding (wpAny_call (class_get (s:=⟨hp,g,d,t+1,os⟩) (ox:=ox) (od:=some dd) X I C.hm (wpAny_pure ?_))))
 change wpAny _ _ (handedOut (.ref D)) _ _ _
 rw[handedOut_of (v:= .ref D) rfl]
 first
  |exact wpAny_pure (wpAny_pure hq)
  |exact wpAny_pure hq
  |exact wpAny_pure (wpAny_bind (wpAny_pure (wpAny_pure hq)))
theorem Zpt(C:L2.ExcC K D):KitX K (.ref x) (.ref D) (fun h=>InstAt h x ox D (some dd)) where
 ty:=fun _ _ _ I=>I.type
 it:=fun _ _ X _=>by
  obtain⟨cd,e,_⟩:=any_some C.hd
  unfold clsIn at e
  split at e
  ·rename_i c2 d2 cd2 sl2 ho
   exact fun A2 Q2 E2 s2 k q=>by
    unfold isType loadHead
    exact wpAny_bind (wpAny_loadPart (k _ _ (X _ _ ho)) (wpAny_pure q))
  ·cases e
 ne:=fun h tp dv its n sl X htp=>by
  obtain⟨cd,e,_⟩:=any_some C.hd
  cases hz:(Value.ref D== .ref tp)with
  |false=>rfl
  |true=>
   have e2:D=tp:=Value.ref.inj (beq_iff_eq.mp hz)
   rw[←e2]at htp
   unfold clsIn at e
   split at e
   ·rename_i c2 d2 cd2 sl2 ho
    have z:=(X _ _ ho).symm.trans htp
    cases z
   ·cases e
 ca:=fun X I k=>ZkI C X I k
end
end PySem.W
namespace Bk
open PySem PySem.Spec PyProof.Rows L2
section
variable{X:Cx}{pins:List (Addr×Obj)}{σ:L2.St}{H:Hp}{s:Shared}
theorem inst_of{a C dx:Addr}{vs:List (Str×V)}(I:L2.Inv X pins σ H s)(ha:H a=some (pY C dx a))(hd:H dx=some (.xd vs)): ∃(oe od:Obj) (mA:Str→Option Value),PySem.W.InstAt s.heap a oe C (some od)∧(∀name,PySem.W.lookIn name od=some (mA name))∧ ∀f,RelO (vs.lookup f) (mA f):=by
 obtain⟨⟨oe,xs,e1,e2,e3,e4⟩,_,_⟩:=(show ObjOk X.prog X.w H s.heap a (.ext fun h=> ∃(oe:Obj) (vs:Array Value),h.get? a=some oe∧oe.cls= .ref C∧oe.dict=some dx∧oe.data= .fields vs)from I.hok a _ ha)
 obtain⟨mA,hns,hr⟩:=(show ObjOk X.prog X.w H s.heap dx (.xd vs)from I.hok dx _ hd)
 obtain⟨od,ho,hl⟩:=lookIn_ns hns
 exact⟨oe,od,mA,⟨e1,e2,by unfold PySem.W.notCls;rw[e4]<;>rfl,by rw[e3];exact ho⟩,hl,hr⟩
def Zw5(K:PySem.W.Frag):List V→Hp→VK→Prop:=fun xs H Q=> ∃(a C dx:Addr) (vs:List (Str×V)) (c:V) (cv:Value) (b:Bool),xs=[.ref a,c]∧H a=some (pY C dx a)∧H dx=some (.xd vs)∧(∀u,RelV c u→u=cv)∧ExcC K C∧PySem.W.kitOne K (.ref C) cv=some b∧Q (.bl b) H
theorem Zno:CallR X (.builtin "isinstance") (Zw5 X.K):=by
 intro pins s σ H xs us Q I r h
 obtain⟨a,C,dx,vs,c,cv,b,rfl,ha,hd,hcv,hC,e,q⟩:=h
 obtain⟨u1,u2,rfl,r1,r2⟩:=vals2 r
 obtain rfl:u1=Value.ref a:=r1
 have ec:=hcv _ r2
 subst ec
 obtain⟨oe,od,mA,J,_⟩:=inst_of I ha hd
 exact PySem.W.kia_one (PySem.W.Zpt hC) I.kIn J e (fun z=>nomatch z) fun tk=>⟨.bl b,H,I.kept (t':=tk) fun _ _ z=>z,rfl,q⟩
def tXh(K:PySem.W.Frag)(f:Str)(te:TE):TE:=fun σ H Q=>te σ H fun x H1=> ∃(a C dx:Addr) (vs:List (Str×V)) (v:V),x= .ref a∧H1 a=some (pY C dx a)∧H1 dx=some (.xd vs)∧XfC K C∧PySem.W.findIn K (.ref C) f=some none∧vs.lookup f=some v∧Q v H1
theorem Zun{e:Expr}{te:TE}{pos:Pos}{n:Str}(he:PE X e te)(hb:attributeBase e n X.env (eval e X.env)=eval e X.env:=by rfl):PE X (.Attribute e n pos) (tXh X.K n te):=by
 refine⟨fun pins s σ H Q I h=>attr_of hb (thn (he.run pins s σ H _ I h) fun u s1 hh=> ?_)⟩
 obtain⟨x,H1,I1,rx,a,C,dx,vs,v,rfl,ha,hd,hX,hno,l,q⟩:=hh
 obtain rfl:u=Value.ref a:=rx
 obtain⟨oe,od,mA,J,hl,hr⟩:=inst_of I1 ha hd
 obtain⟨w,hw,rw'⟩:=RelO.some_of (v:=v) (o:=mA n) (by rw[←l];exact hr n)
 exact HandSPX.exc_get I1.kIn J hX.ga hX.gg hX.exC (PySem.W.findObj_own hX.hdC hno rfl (by rw[hl,hw])) (handed_of rw') ⟨v,H1,I1.tok _,rw',q⟩
end
end Bk
namespace Bk
open PySem PySem.Spec PyProof.Rows L2
def tyName(d:D)(s:S):Option String:=match d with
 | .non=>some "NoneType"
 | .bl _=>some "bool"
 | .int _=>some "int"
 | .str _=>some "str"
 | .lst _=>some "list"
 | .U7 _=>some "list"
 | .tup _=>some "tuple"
 | .U0 _=>some "dict"
 | .rf (.ref p)=>match s.mu p with
   |some (.ml _)=>some "list"
   |some (.mk _)=>some "dict"
   |_=>none
 |_=>none
theorem Rep.ty{K:PySem.W.Frag}{T:Tb}{F H:Hp}{s:S}(hh:Hold K T F s H){d:D}{v:V}{t:String}(r:Rep K T F d v)(h:tyName d s=some t):TyX K H v (.type t):=by
 cases r with
 |non=>cases h;exact .base .non
 |bl b=>cases h;exact .base (.bl b)
 |int i=>cases h;exact .base (.int i)
 |str x=>cases h;exact .base (.str x)
 |lst l rr=>cases h;exact .base (.lst (hh.sub _ _ l))
 |U7 l=>
  cases h
  rcases hh.sub.seq l with(e|⟨o,e⟩)|⟨o,its,n,e,c,_⟩
  ·exact .base (.lst e)
  ·exact .base (.frz e)
  ·exact .kList e c
 |tup l rr=>
  cases h
  rcases Yu hh.sub l with(e|⟨o,e⟩)|⟨o,its,n,e,c,_⟩
  ·exact .base (.tup e)
  ·exact .fTuple e
  ·exact .kTuple e c
 |U0 l rr=>cases h;exact .base (.dK (hh.sub _ _ l))
 |rf v=>
  cases v with
  |ref p=>
   have h':(match s.mu p with|some (MO.ml _)=>some "list" |some (MO.mk _)=>some "dict" |_=>none)=some t:=h
   cases e:s.mu p with
   |none=>rw[e]at h';cases h'
   |some m=>
    rw[e]at h'
    obtain⟨_,q⟩:=hh.mu p m e
    cases m with
    |ml xs=>cases h';obtain⟨vs,e1,_⟩:=q;exact .base (.lst e1)
    |mk xs=>cases h';obtain⟨vs,e1,_⟩:=q;exact .base (.dK e1)
    |mo _ _=>cases h'
    |md _=>cases h'
  |_=>cases h
 |exc _ _ _=>cases h
 |obj _ _=>cases h
 |ju _ _ _=>cases h
 |clo _ _=>cases h
 |cls _=>cases h
 |j5 _ _=>cases h
def YX:List String:=["NoneType","bool","int","str","list","tuple","dict"]
def YB(t n:String):Bool:=t==n||(t=="bool" &&n=="int")
theorem Znp:(YX.all fun t=>YX.all fun n=>kitB t n==some (YB t n))=true:=by decide+kernel
theorem Zpu{t n:String}(ht:t∈YX)(hn:n∈YX):kitB t n=some (YB t n):=by
 have h:=List.all_eq_true.mp (List.all_eq_true.mp Znp t ht) n hn
 exact beq_iff_eq.mp h
theorem Ziw{d:D}{s:S}{t:String}(h:tyName d s=some t):t∈YX:=by
 cases d<;>first
  |(cases h;simp [YX];done)
  |(rename_i v;cases v<;>first
     |(cases h;done)
     |(rename_i p
       have h':(match s.mu p with|some (MO.ml _)=>some "list" |some (MO.mk _)=>some "dict" |_=>none)=some t:=h
       split at h'<;>cases h'<;>simp [YX]))
  |cases h
def X4:GA:=fun ds s R=>match ds with
 |[x, .rf (.ty n)]=>n∈YX∧ ∃t,tyName x s=some t∧R (.bl (YB t n)) s
 |_=>False
section
variable{X:Cx}{T:Tb}{W:WX}{a b:Expr}{fa fb:Exp}{pos p p2:Pos}
theorem G7:CallD X T (.builtin "isinstance") X4:= .of call_isi fun F s H ds vs R Q hh rs hg post=>by
 unfold X4 at hg
 split at hg
 ·obtain⟨v,w,rfl,r1,r2⟩:=rs.two
  cases r2
  obtain⟨hn,t,ht,q⟩:=hg
  exact⟨v,_,_,_,_,rfl, .ty _,r1.ty hh ht,kit_ty (Zpu (Ziw ht) hn),post _ s _ H F q Ext.refl hh (.bl _)⟩
 ·exact hg.elim
theorem G8{x:Str}{id:String}(hg:Gl X x)(hm:X.mg x=none)(hv:bootBuiltins x=some (.type id))(hn:x≠ "__name__" :=by decide)(hd:(x==("__debug__" :Str))=false:=by decide):DX X T W (.Name x p) (dC (.rf (.ty id))):=SJ (v:= .ty id) (pe_bltn hg hm hv (show L2.RelV (.ty id) (.type id)from rfl) hn hd) fun _=> .rf _
structure Zbe(K:PySem.W.Frag)(T:Tb)(kn ms fs:List Str):Prop where
 hold: ∀c∈kn,Zum K T c
 kit: ∀c∈kn,∀m∈ms,PySem.W.kitOne K (.ref (T.cls c)) (.ref (T.cls m))=some (HF c m)
 exm: ∀c∈kn,∀m∈ms,PySem.W.exmOne K (.ref (T.cls c)) (.ref (T.cls m))=some (HF c m)
 nof: ∀c∈kn,∀f∈fs,PySem.W.findIn K (.ref (T.cls c)) f=some none
def fP(kn:List Str)(m:Str)(f:Exp):Exp:=fun e s R E=>f e s (fun d s1=>match d with
 | .exc c _=>c∈kn∧R (.bl (HF c m)) s1
 |_=>False) E
theorem WM{kn ms fs:List Str}{m:Str}(A:Zbe X.K T kn ms fs)(hmem:m∈ms)(hi:Gl X "isinstance")(hmi:X.mg "isinstance" =none)(hbi:bootBuiltins "isinstance" =some (.builtin "isinstance"))(hg:Gl X m)(hm:X.mg m=some (.ref (T.cls m)))(ha:DX X T W a fa)
  (hd:(m==("__debug__" :Str))=false:=by decide) (hs1:starEach [.Name m p2] X.env=(false,eval (.Name m p2) X.env)::starEach [] X.env:=by rfl) (hs:starEach (a::[.Name m p2]) X.env=(false,eval a X.env)::starEach [.Name m p2] X.env:=by rfl) (hpl:(backTo pos (starEach [.Name m p2] X.env)).any (·.1)=false:=by rfl):
  DX X T W (.Call (.Name "isinstance" p) [a, .Name m p2] [] pos) (fP kn m fa):=by
 have hn:DX X T W (.Name m p2) (dC (.rf (.ref (T.cls m)))):=SJ (v:= .ref (T.cls m)) (pe_glob hg hm (show L2.RelV (.ref (T.cls m)) (.ref (T.cls m))from rfl) hd) fun _=> .rf _
 refine⟨Yj (pe_callB Zno hi hmi hbi (Za ha (Za hn Zg hs1) hs).pa (by decide) (by decide) hs hpl) fun σ H Q h=> ?_⟩
 obtain⟨F,e,s,R,E,he,hh,hx,hf,post⟩:=h
 refine⟨F,e,s,(fun ds s1=>match ds with
  |[.exc c fs, .rf v]=>v= .ref (T.cls m)∧c∈kn∧R (.bl (HF c m)) s1
  |_=>False),E,he,hh,hx, ?_,fun ds s1 vs H1 F1 q1 x1 hh1 rs=> ?_⟩
 ·refine cast (congrArg (fun g=>fa e s g E) ?_) hf
  funext d s1
  cases d<;>first|rfl|(exact propext ⟨fun z=>z.elim,fun z=>z.elim⟩)|(exact propext ⟨fun z=>⟨rfl,z⟩,fun z=>z.2⟩)
 ·dsimp only at q1⊢
  split at q1
  ·obtain⟨rfl,hc,q⟩:=q1
   obtain⟨v,w,rfl,r1,r2⟩:=rs.two
   cases r2
   cases r1 with|exc l1 l2 rr=>
    exact⟨_,_,_,_,_,_,_,rfl,hh1.sub _ _ l1,hh1.sub _ _ l2,fun u z=>z,(A.hold _ hc).ec,A.kit _ hc m hmem,post _ s1 _ H1 F1 q x1 hh1 (.bl _)⟩
  ·exact q1.elim
def Mq(kn:List Str)(f:Str)(g:Exp):Exp:=fun e s R E=>g e s (fun d s1=>match d with
 | .exc c fs=>c∈kn∧ ∃x,fs.lookup f=some x∧R x s1
 |_=>False) E
theorem Lg{kn ms fs:List Str}{f:Str}(A:Zbe X.K T kn ms fs)(hf:f∈fs)(ha:DX X T W a fa)(hb:attributeBase a f X.env (eval a X.env)=eval a X.env:=by rfl):DX X T W (.Attribute a f pos) (Mq kn f fa):=
 ⟨Yj (Zun ha.pe hb) fun σ H Q h=>by
   obtain⟨F,e,s,R,E,he,hh,hx,hg,post⟩:=h
   refine⟨F,e,s,_,E,he,hh,hx,hg,fun d s1 v H1 F1 q x1 hh1 r=> ?_⟩
   split at q
   ·obtain⟨hc,x,hl,q⟩:=q
    cases r with|exc l1 l2 rr=>
     obtain⟨w,hw,rw'⟩:=rr.look hl
     exact⟨_,_,_,_,w,rfl,hh1.sub _ _ l1,hh1.sub _ _ l2,(A.hold _ hc).xf,A.nof _ hc f hf,hw,post _ s1 _ H1 F1 q x1 hh1 rw'⟩
   ·exact q.elim⟩
end
end Bk
namespace Bk
open PySem PySem.Spec PyProof.Rows L2
section
variable{K:PySem.W.Frag}{T:Tb}{F H:Hp}{s:S}{p:Addr}{vs:List (Str×V)}
theorem Hold.Zg4(hh:Hold K T F s H)(h:H p=some (.xd vs)): ∃F',Same F F'∧F' p=some (.xd vs)∧(∀q,q≠p→F' q=F q)∧Hold K T F' s H:=by
 have nM: ∀{q:Addr} {u:MO},s.mu q=some u→q≠p:=fun{q u} e z=>by
  obtain⟨_,r⟩:=hh.mu q u e
  rw[z,h]at r
  cases u with
  |ml ds=>obtain⟨_,y,_⟩:=r;cases y
  |mk ds=>obtain⟨_,y,_⟩:=r;cases y
  |mo c fs=>obtain⟨_,_,y,_⟩:=r;cases y
  |md _=>obtain⟨_,_,y,_⟩:=r;cases y
 have sm:Same F (upd F p (.xd vs)):=fun b x e=>by
  by_cases z:b=p
  ·rw[z,upd_same]
   have y:=hh.sub b x e
   rw[z,h]at y;exact y
  ·rw[upd_ne z];exact e
 refine⟨upd F p (.xd vs),sm,upd_same,fun q hq=>upd_ne hq,⟨fun b x e=> ?_,fun q u e=> ?_,fun q k e=> ?_,hh.tab,fun q ps e=> ?_⟩⟩
 ·by_cases z:b=p
  ·subst z;rw[upd_same]at e;rw[h];exact e
  ·rw[upd_ne z]at e;exact hh.sub b x e
 ·obtain⟨a,b⟩:=hh.mu q u e
  rw[upd_ne (nM e)]
  exact⟨a,b.mono sm⟩
 ·obtain⟨l,c,t,cs,ls,g1,g2,g3,g4,g5,g6,g7,g8,g9⟩:=hh.gen q k e
  have nq:q≠p:=fun z=>by rw[z,h]at g5;cases g5
  have nl:l≠p:=fun z=>by rw[z,h]at g7;cases g7
  exact⟨l,c,t,cs,ls,by rw[upd_ne nq];exact g1,by rw[upd_ne nl];exact g2,g3,g4,g5,sm _ _ g6,g7,g8,g9⟩
 ·by_cases z:q=p
  ·subst z;rw[upd_same]at e;cases e
  ·rw[upd_ne z]at e;exact hh.XS q ps e
theorem Ext.Zg4{F0 H0 F':Hp}{s0:S}(x:Ext F0 s0 H0 F s H)(h:H p=some (.xd vs))(sm:Same F F')(ot: ∀q,q≠p→F' q=F q):Ext F0 s0 H0 F' s H:=⟨x.same.trans sm,fun q u e w z=>by
 obtain⟨h1,n1⟩:=x.rest q u e w z
 refine⟨h1,fun y=>n1 ?_⟩
 rcases y with y|y
 ·have nq:q≠p:=fun q2=>by
   rw[q2,h]at h1
   cases h1
   exact z
  rw[ot q nq]at y
  exact .inl y
 ·exact .inr y⟩
end
section
variable{X:Cx}{T:Tb}{W:WX}{k:Nat}{body suite:List Stmt}{b₀:Stmt}{t u:Yh}{cn n yn:Str}{kn ms fs:List Str}{np pos pos' p1 p2 p3 p4 p5 tp:Pos}
def Zre(kn:List Str)(c:Str)(t u:Yh):Yh:=fun D e s=>t {D with ex:=fun x e' s'=>x.c∈kn∧if HF x.c c=true then u D e' s' else D.ex x e' s'} e s
theorem ZrO(A:Zbe X.K T kn ms fs)(hmem:cn∈ms)(B:fK X W k)(hs:X.stack=X.env::X.outer)(hf:X.env.frame=some X.env.locals)(hg:Gl X cn)(hm:X.mg cn=some (.ref (T.cls cn)))
  (hb: ∀(W':WX) (pn:List (Addr×Obj)) (xe:Value→Shared→Prop),fK (X.tr pn xe) W' k→qM (X.tr pn xe) T W' body t)
  (hsu: ∀(a:Addr) (pn:List (Addr×Obj)),qM (X.suite a pn) T W (b₀::suite) u) (hd:(cn==("__debug__" :Str))=false:=by decide):
  DS X T W (.Try body [.ExceptHandler (some (.Name cn np)) none (b₀::suite) pos'] [] [] pos) (Zre kn cn t u):=
 ⟨Ld (ps_try_only (tb:=fun W'=>Zb2 X.K T W' t) (ts:=fun _ _ _=>Zb2 X.K T W u) hs hf ⟨hg,hd, .inl hm⟩ B.tk (fun W' pn xe tk own=>(hb W' pn xe ⟨B.room,B.grd,tk,own⟩).pss) (fun a oe cls d pn _ _=>(hsu a _).pss)) fun Q σ H ⟨F,e,s,D,he,hh,ht,p⟩=>by
   refine⟨F,e,s,_,he,hh,ht,⟨p.nx,p.rt,p.bk,p.ct, ?_⟩⟩
   rintro x e' s' cls dx σ' H' F' ⟨hk,q⟩ a hh' he' r
   obtain⟨rfl,r⟩:=r
   refine⟨_,A.exm _ hk _ hmem,fun hy ad _=> ?_,fun hn=> ?_⟩
   ·rw[if_pos hy]at q
    exact⟨F',e',s',D,he',hh',q,p.mono a⟩
   ·rw[if_neg (by rw[hn];decide)]at q
    exact p.ex x e' s' _ dx σ' H' F' q a hh' he' ⟨rfl,r⟩⟩
def zL(kn cs:List Str)(i y:Nat)(t:Yh):Yh:=fun D e s=>t {D with ex:=fun x e' s'=>x.c∈kn∧if cs.any (HF x.c)=true then D.nx (Jh (Jh (Jh e' i (some (.exc x.c x.fs))) y (some (.exc x.c x.fs))) i none) s' else D.ex x e' s'} e s
theorem Zix{i y:Nat}{c1 c2 c3:Str}{kk:Nat}(A:Zbe X.K T kn ms fs)(m1:c1∈ms)(m2:c2∈ms)(m3:c3∈ms)(B:fK X W k)(hs:X.stack=X.env::X.outer)(hf:X.env.frame=some X.env.locals)(hex:X.ex=[])(hN:X.N.Nodup)(hi:X.N[i]? =some n)(hln:X.env.kindOf n=some .local)
  (hy:X.N[y]? =some yn) (hyl:Loc X.env.scope yn) (hyf:X.fn yn=true∨X.env.scope.names.lookup yn=some .local) (hnd:(n==("__debug__" :Str))=false) (hnc:(n==("__classdict__" :Str))=false)
  (n1:Names X c1 (.ref (T.cls c1))) (n2:Names X c2 (.ref (T.cls c2))) (n3:Names X c3 (.ref (T.cls c3)))
  (hb: ∀(W':WX) (pn:List (Addr×Obj)) (xe:Value→Shared→Prop),fK (X.tr pn xe) W' k→qM (X.tr pn xe) T W' body t) (hsw: ∀a pn,swapsWith (.Name n p5) (some (.Name yn p4)) pos'.line (X.suite a pn).env=pure false):
  DS X T W (.Try body [.ExceptHandler (some (.Tuple [.Name c1 p1, .Name c2 p2, .Name c3 p3] kk tp)) (some n) [.Assign [.Name yn p4] (.Name n p5) pos'] np] [] [] pos) (zL kn [c1,c2,c3] i y t):=
 ⟨Ld (ZfW (i:=i) (tb:=fun W'=>Zb2 X.K T W' t) (ts:=fun _ _ _=>tAsg (tVar i) (gName y)) hs hf hex hN hi hln (Ziu n1 n2 n3) B.tk (fun W' pn xe tk own=>(hb W' pn xe ⟨B.room,B.grd,tk,own⟩).pss)
   (fun a oe cls d pn _ _=>pss_one (ps_set (X:=X.suite a ((a,oe)::pn)) hN hy hyl (pe_var hi (.inl hln) hnd hnc) (hsw _ _) hyf))) fun Q σ H ⟨F,e,s,D,he,hh,ht,p⟩=>by
   refine⟨F,e,s,_,he,hh,ht,⟨p.nx,p.rt,p.bk,p.ct, ?_⟩⟩
   rintro x e' s' cls dx σ' H' F' ⟨hk,q⟩ a hh' he' ⟨rfl,ddx,vs,rfl,hxd,rf⟩
   have ea:PySem.W.exmAny X.K (.ref (T.cls x.c)) [.ref (T.cls c1), .ref (T.cls c2), .ref (T.cls c3)]=some ([c1,c2,c3].any (HF x.c)):=by
    unfold PySem.W.exmAny PySem.W.exmAny PySem.W.exmAny PySem.W.exmAny
    rw[A.exm _ hk _ m1,A.exm _ hk _ m2,A.exm _ hk _ m3]
    rfl
   refine⟨_,ea,fun hy'=>⟨_,ddx,rfl,rfl,fun ad nad hlen=> ?_⟩,fun hn=> ?_⟩
   ·rw[if_pos hy']at q
    have il:i<σ'.length:=by rw[hlen];exact(List.getElem?_eq_some_iff.mp hi).1
    refine⟨.ref ad,by rw[List.getElem?_set_self il],fun hn0=> ?_⟩
    obtain⟨F2,sm,hF2,ot,h2⟩:=hh'.Zg4 hxd
    have a2:=a.Zg4 hxd sm ot
    have nF:F2 ad=none:=h2.fresh nad
    have h3:=h2.frz (o:=pY (T.cls x.c) ddx ad) nad (fun ps z=>by unfold pY at z;cases z)
    have a3:=a2.trans (Ext.frz (o:=pY (T.cls x.c) ddx ad) h2 nad)
    have sm3:Same F2 (upd F2 ad (pY (T.cls x.c) ddx ad)):=JM nF
    have rx:Rep X.K T (upd F2 ad (pY (T.cls x.c) ddx ad)) (.exc x.c x.fs) (.ref ad):= .exc upd_same (sm3 _ _ hF2) (rf.mono (sm.trans sm3))
    exact p.nx _ s' _ _ _ q a3 h3 ((((he'.mono (sm.trans sm3)).set rx i).set rx y).del i)
   ·rw[if_neg (by rw[hn];decide)]at q
    exact p.ex x e' s' _ _ σ' H' F' q a hh' he' ⟨rfl,ddx,vs,rfl,hxd,rf⟩⟩
end
end Bk
namespace Bk
open PySem PySem.Spec PyProof.Rows L2 LamX
section
variable{K:PySem.W.Frag}{T:Tb}{F H H1:Hp}{s:S}
theorem Hold.Zw6(hh:Hold K T F s H)(e:ExtN H H1)(t:LamX.Tabs T.tabs H1):Hold K T F s H1∧Ext F s H F s H1:=by
 have km: ∀{p:Addr} {o:MO} {h:Option HO},ZeX K T F p o h→ ∃u,h=some u∧ ∀ps,u≠ .tbl ps:=fun{p o h} r=>by
  cases o with
  |ml ds=>obtain⟨vs,y,_⟩:=r;exact⟨_,y,fun _ z=>by cases z⟩
  |mk ds=>obtain⟨vs,y,_⟩:=r;exact⟨_,y,fun _ z=>by cases z⟩
  |mo c fs=>obtain⟨dx,vs,y,_⟩:=r;exact⟨_,y,fun _ z=>by cases z⟩
  |md ds=>obtain⟨_,vs,y,_⟩:=r;exact⟨_,y,fun _ z=>by cases z⟩
 refine⟨⟨fun b o x=>e b o (hh.sub b o x) (fun ps z=>hh.XS b ps (by rw[x,z])),fun q u x=> ?_,fun q k x=> ?_,t,hh.XS⟩,Same.refl F,fun q u w z kp=>⟨e q u w (fun ps y=>by rw[y]at kp;exact kp),fun y=>z ?_⟩⟩
 ·obtain⟨a,r⟩:=hh.mu q u x
  obtain⟨o,ho,nt⟩:=km r
  refine⟨a, ?_⟩
  rw[e q o ho nt,←ho];exact r
 ·obtain⟨l,c,t,cs,ls,g1,g2,g3,g4,g5,g6,g7,g8,g9⟩:=hh.gen q k x
  exact⟨l,c,t,cs,ls,g1,g2,g3,g4,e _ _ g5 (fun _ z=>by cases z),g6,e _ _ g7 (fun _ z=>by cases z),g8,g9⟩
 ·rcases y with y|y|⟨a,m,h1,h2⟩
  ·exact .inl y
  ·exact .inr (.inl y)
  ·refine .inr (.inr ⟨a,m,h1,h2.imp id ?_⟩)
   rintro ⟨kvs,l,h3,h4,h5⟩
   obtain⟨l',c,t,cs,ls,g1,g2,g3,g4,g5,g6,g7,g8,g9⟩:=hh.gen a m h1
   have z:=e _ _ g5 (fun _ z=>by cases z)
   rw[h3]at z;cases z
   exact⟨_,l,g5,h4,h5⟩
end
theorem Ziy{pos:Pos}{c:Value}{l m:List Value}(h:codeAmong pos l=some c):codeAmong pos (l++m)=some c:=by
 fun_induction codeAmong pos l with
 |case1 line t col u c' rest hc=>
  rw[List.cons_append,List.cons_append,List.cons_append,codeAmong,if_pos hc];exact h
 |case2 line t col u c' rest hc ih=>
  rw[List.cons_append,List.cons_append,List.cons_append,codeAmong,if_neg hc];exact ih h
 |case3=>cases h
section
variable{X:Cx}{pins:List (Addr×Obj)}{σ:L2.St}{H:Hp}{s:Shared}
theorem ZkJ{TT:List (Addr×Str)}{c P:Addr}{params:Arguments}{body:Expr}{scope:Scope}{pos:Pos}{E:Value→Shared→Prop}{Q:Value→Shared→Prop}(I:L2.Inv X pins σ H s)(TB:TabB X.base X.mg c P)(hcode:X.env.code= .ref c)
  (hm:(P,X.env.qual++ "<lambda>")∈TT) (hu: ∀p∈TT,p.1=P→p.2=X.env.qual++ "<lambda>") (hT:LamX.Tabs TT H) (hdef:defaultsOf params X.env=([],[])) (hfree: ∀y∈scope.names,y.2= .free→ ∃c,X.env.cells.lookup y.1=some c)
  (h: ∀(f c':Addr) (pm ctv:Value) (H1:Hp) (s':Shared),L2.Inv X pins σ H1 s'→ExtN H H1→LamX.Tabs TT H1→s'.heap.get? f=some (PySem.W.kla_obj "<lambda>" (X.env.qual++ "<lambda>") params body scope (cloFrom X.env.cells scope.names []) pm c' ctv)→
    H1 f=none→f∉frs X.stack→(∃ps1,H1 P=some (.tbl ps1)∧codeAmong pos ps1.toList=some (.ref c'))→Q (.ref f) s'):
  wpAny (model X.prog X.w) X.A (eval (.Lambda params body scope pos) X.env) Q E s:=by
 obtain⟨ps,tP,tOk,Ztk⟩:=hT _ hm
 refine PySem.W.kla_eval hdef ?_
 have bmP:s.heap.BuiltinsAt X.mg P:=TB.bm.keeps I.bk
 have atP:s.heap.get? P=some {cls:= .none,data:= .fields ps}:=I.hok P _ tP
 have Zff: ∀f,s.heap.objs.size≤f→f∉frs X.stack:=fun f hf z=>by
  rcases List.mem_cons.mp (I.stkSub _ z)with e|e
  ·exact absurd I.lt (by rw[←e];exact Nat.not_lt.mpr hf)
  ·exact I.nofs hf e
 have cdP:PySem.W.CodeHd s.heap c P:=TB.code.keeps I.bk
 have nsG:s.heap.Ns mainGlobals X.mg:=I.mod.glob.keeps I.bk
 cases hc:codeAmong pos ps.toList with
 |some cv=>
  obtain⟨c',rfl,hco⟩:=Ztk pos cv hc
  refine PySem.W.kla_makeFunctionHit (mg:=X.mg) (c:=c) (P:=P) (ps:=ps) (closure_ok hfree) I.ok.glob nsG hcode cdP atP tOk hc bmP fun ctv h' tk hx hsz=> ?_
  have J:L2.Inv X pins σ H {s with heap:=h'.push (PySem.W.kla_obj "<lambda>" (X.env.qual++ "<lambda>") params body scope (cloFrom X.env.cells scope.names []) ((X.mg "__name__").getD .none) c' ctv),toks:=tk}:=I.kept fun b o e=>Heap.get?_push_of_some _ (hx b o e)
  exact h h'.objs.size c' _ ctv H _ J (ExtN.refl H) hT (Heap.get?_push_size _ rfl) (I.hok.fresh hsz) (Zff _ hsz) ⟨ps,tP,hc⟩
 |none=>
  refine PySem.W.kla_makeFunction (mg:=X.mg) (c:=c) (P:=P) (ps:=ps) (closure_ok hfree) I.ok.glob nsG hcode cdP atP tOk hc TB.gP bmP fun c' ctv h' tk hx hge hlt hrec htb=> ?_
  obtain⟨c2,oc,vs,t,e2,hoc,hd,hv⟩:=hrec
  cases e2
  have szL:s.heap.objs.size≤h'.objs.size:=Nat.le_trans hge (Nat.le_of_lt hlt)
  have noC:H c'=none:=I.hok.fresh hge
  have J:=inv_table (t':=tk) (more:= #[rawInt pos.line,rawInt pos.col, .ref c']) (h':=h'.push (PySem.W.kla_obj "<lambda>" (X.env.qual++ "<lambda>") params body scope (cloFrom X.env.cells scope.names []) ((X.mg "__name__").getD .none) c' ctv)) I tP
   (fun b o hb e=>Heap.get?_push_of_some _ (hx b o hb e)) (Heap.get?_push_of_some _ htb) hge ⟨oc,vs,t,Heap.get?_push_of_some _ hoc,hd,hv⟩
  have nPc:P≠c':=ne_of_none tP noC
  have Ztl:upd (upd H P (.tbl (ps++ #[rawInt pos.line,rawInt pos.col, .ref c']))) c' (CodeO c' (X.env.qual++ "<lambda>")) P=some (.tbl (ps++ #[rawInt pos.line,rawInt pos.col, .ref c'])):=by rw[upd_ne nPc,upd_same]
  have eX:ExtN H (upd (upd H P (.tbl (ps++ #[rawInt pos.line,rawInt pos.col, .ref c']))) c' (CodeO c' (X.env.qual++ "<lambda>"))):=fun b o e n=>by
   rw[upd_ne (ne_of_none e noC),upd_ne (fun z=>n ps (Option.some.inj (e.symm.trans (by rw[z];exact tP))))]
   exact e
  have eL:(ps++ #[rawInt pos.line,rawInt pos.col, .ref c']).toList=ps.toList++[rawInt pos.line,rawInt pos.col, .ref c']:=by simp
  refine h h'.objs.size c' _ ctv _ _ J eX (fun p hp=> ?_) (Heap.get?_push_size _ rfl) ?_ (Zff _ szL) ⟨_,Ztl,by rw[eL];exact codeAmong_snoc _ tOk hc⟩
  ·by_cases hb:p.1=P
   ·rw[hu p hp hb,hb]
    refine⟨_,Ztl,by rw[eL];exact PySem.TriplesOk_snoc _ _ _ _ tOk,fun p' cv hcv=> ?_⟩
    rw[eL]at hcv
    rcases among_app _ tOk hcv with z|z
    ·obtain⟨c0,e1,e2⟩:=Ztk p' cv z
     exact⟨c0,e1,eX _ _ e2 codeO_ne⟩
    ·exact⟨c',z,upd_same⟩
   ·obtain⟨ps',a1,a2,a3⟩:=hT p hp
    refine⟨ps',by rw[upd_ne (ne_of_none a1 noC),upd_ne hb];exact a1,a2,fun p' cv hcv=> ?_⟩
    obtain⟨c0,e1,e2⟩:=a3 p' cv hcv
    exact⟨c0,e1,eX _ _ e2 codeO_ne⟩
  ·rw[upd_ne (Nat.ne_of_gt hlt),upd_ne (Nat.ne_of_gt (Nat.lt_of_lt_of_le (Heap.lt_size atP) szL))]
   exact I.hok.fresh szL
end
abbrev Act:=S→Q1→XQ→Prop
def ZkK(f:Addr)(xs:List D)(vs:List V)(c:Act):Exp:=fun e s R E=>nth e 0=some (.clo f xs vs)∧c s R E
theorem Zg5{K:PySem.W.Frag}{T:Tb}{F:Hp}: ∀{e:Zq} {σ:L2.St},Jz K T F e σ→ ∃(xs:List D) (vs:List V),Qw K T F xs vs∧ ∀F',Qw K T F' xs vs→Jz K T F' e σ
 |_,_, .nil=>⟨[],[], .nil,fun _ _=> .nil⟩
 |_,_, .none r=>by
  obtain⟨xs,vs,h1,h2⟩:=Zg5 r
  exact⟨xs,vs,h1,fun F' h=> .none (h2 F' h)⟩
 |_,_, .some (d:=d) (v:=v) q r=>by
  obtain⟨xs,vs,h1,h2⟩:=Zg5 r
  exact⟨d::xs,v::vs, .cons q h1,fun F' h=>by cases h with|cons a b=>exact .some a (h2 F' b)⟩
section
variable{X:Cx}{pins:List (Addr×Obj)}{σ:L2.St}{H:Hp}{s:Shared}{T:Tb}
theorem ZrQ{Eg:XK}{Ng:List Str}{qg:Str}{sg:Scope}{g f c':Addr}{cdg pm ctv:Value}{params:Arguments}{body:Expr}{scope:Scope}{k:Nat}{a:Str}{pn:List (Addr×Obj)}{xe:Value→Shared→Prop}{W:WX}{p1 p2:Pos}{xs:List D}{vs:List V}{e0:Zq}{fb:Exp}
  (I:L2.Inv X pins σ H s) (L:LamS X.env.scope scope) (hf:s.heap.get? f=some (PySem.W.kla_obj "<lambda>" (X.env.qual++ "<lambda>") params body scope (cloFrom X.env.cells scope.names []) pm c' ctv)) (hfn:H f=none) (hfr:f∉frs X.stack)
  (hbind:bindArgs (PySem.W.kla_fn "<lambda>" (X.env.qual++ "<lambda>") params body scope (cloFrom X.env.cells scope.names []) pm (.ref c') ctv) ⟨[],[]⟩=pure [])
  (tk:Takes ((cxOf (L2.CX X.prog X.w) X.prog X.w X.K X.mg X.base Ng qg sg g cdg X.A X.stack s H Eg).tr pn xe) W) (hr:Room (k+1) (X.A.deeper (envOfC qg sg s.heap.objs.size g cdg))) (hgd:X.A.guards=some [])
  (hbody: ∀(A:Around) (outer:List Env) (s:Shared) (H:Hp) (E:XK),fK (lamCx X A outer s H E scope f c') (XF E) k→DX (lamCx X A outer s H E scope f c') T (XF E) body fb)
  (hclo: ∀F',Qw X.K T F' xs vs→Jz X.K T F' e0 σ) (hN:Ng[0]? =some a) (hv:Vis sg a) {P:Addr} {lpos:Pos} {ps1:Array Value} (hmT:(P,X.env.qual++ "<lambda>")∈T.tabs) (hP:H P=some (.tbl ps1)) (hca:codeAmong lpos ps1.toList=some (.ref c'))
  (hd:(a==("__debug__" :Str))=false) (hcd:(a==("__classdict__" :Str))=false):
  DX ((cxOf (L2.CX X.prog X.w) X.prog X.w X.K X.mg X.base Ng qg sg g cdg X.A X.stack s H Eg).tr pn xe) T W (.Call (.Name a p1) [] [] p2) (ZkK f xs vs (fun s R E=>fb e0 s R E)):=by
 refine⟨⟨fun pinsZ sZ σZ HZ Q IZ hq=> ?_⟩⟩
 obtain⟨F1,eZ,s1,R,E,heZ,hhZ,hxZ,⟨hs0,hact⟩,post⟩:=hq
 obtain⟨vf,hs,rvf⟩:=heZ.at hs0
 have he0:Jz X.K T F1 e0 σ∧vf= .ref f:=by
  cases rvf with|clo _ r=>exact⟨hclo F1 r,rfl⟩
 obtain⟨he0,rfl⟩:=he0
 have hc:HZ c'=some (CodeO c' (X.env.qual++ "<lambda>")):=by
  obtain⟨ps,h1,h2,h3⟩:=hhZ.tab _ hmT
  obtain⟨more,h4⟩:=IZ.base.tbls P ps1 hP
  rw[h1]at h4
  cases h4
  obtain⟨c2,e1,e2⟩:=h3 lpos (.ref c') (by rw[Array.toList_append];exact Ziy hca)
  cases e1
  exact e2
 refine wpAny_Call_Name_kw (thn ((pe_var (X:=(cxOf (L2.CX X.prog X.w) X.prog X.w X.K X.mg X.base Ng qg sg g cdg X.A X.stack s H Eg).tr pn xe) (pos:=p1) (i:=0) hN hv hd hcd).run pinsZ sZ σZ HZ (fun v H2=>v= .ref f∧H2=HZ) IZ ⟨.ref f,hs,rfl,rfl⟩) fun u s2 ⟨v,H2,I2,r2,q2⟩=> ?_)
 obtain⟨rfl,rfl⟩:=q2
 obtain rfl:u=Value.ref f:=r2
 have fAt:s2.heap.get? f=some (PySem.W.kla_obj "<lambda>" (X.env.qual++ "<lambda>") params body scope (cloFrom X.env.cells scope.names []) pm c' ctv):=I2.base.keep f _ hf hfn hfr (fun z=>nomatch (show f∈([]:List Addr)from z))
 refine PySem.W.callWith_F0 ⟨_,_,_,_,fAt⟩ ?_
 have unZ:Un (frs X.stack) [] H H2 s.heap s2.heap:=I2.base
 obtain⟨⟨oc,vs',t,hoc,hdc,hvc⟩,_,_⟩:=I2.hok c' _ hc
 have ran:codeAny (model X.prog X.w) (X.A.deeper (envOfC qg sg s.heap.objs.size g cdg)) (.call (.ref f) ⟨[],[]⟩) (CR (L2.CX X.prog X.w) (envOfC qg sg s.heap.objs.size g cdg::X.stack) X.prog X.w H2 s2 Q (fun cls d H'=>W cls d σZ H')) s2:=by
  refine PySem.W.kla_callFunE hr.depth fAt rfl L.co L.gen rfl ⟨c',oc,vs',t,rfl,hoc,hdc,hvc⟩ ?_
  rw[hbind]
  refine wpAny_pure (wpAny_newFunctionEnv (fun y hy=>(L.own y hy).2) (fun y hy=>absurd hy (by simp)) (fun h₁ hns hsb=>⟨I2.nolimit.fresh _ hsb, ?_⟩) L.kind)
  show codeAny _ _ (.expr body (lamEnv X scope s2.heap.objs.size f c')) _ _
  have kp: ∀b o,s2.heap.get? b=some o→h₁.get? b=some o:=fun b o e=>hsb.extBut b o (Nat.ne_of_lt (Heap.lt_size e)) (Heap.get?_push_of_some _ e)
  have JL:L2.Inv (lamCx X (X.A.deeper (envOfC qg sg s.heap.objs.size g cdg)) (envOfC qg sg s.heap.objs.size g cdg::X.stack) s2 H2 (fun cls d H'=>W cls d σZ H') scope f c') [] σ H2 {s2 with heap:=h₁,toks:=s2.toks+([]:List (Str×Value)).length}:=
   lam_start2 I L I2.env0 hr.hd unZ hns kp
  refine PySem.W.kla_codeExpr (wpAny_mono ((hbody _ _ s2 H2 (fun cls d H'=>W cls d σZ H') ⟨hr.deeper _,hgd,takes_of rfl rfl rfl rfl,passes_of rfl⟩).pe.run [] _ _ H2 Q JL ⟨F1,e0,s1,R,E,he0,hhZ,fun x s' cls dx H' F' q x1 hh1 r=>hxZ x s' cls dx H' F' q x1 hh1 r,hact,post⟩) (fun v s' hq=> ?_) fun e s' hq=>hq)
  obtain⟨w',H',J',rv,q⟩:=hq
  exact⟨w',H',J'.os,J'.bare,J'.base,J'.hok,rv,q⟩
 refine wpAny_call (codeAny_mono ran fun r s' hq=> ?_)
 cases r with
 |error e=>exact tk e s' (XE.of_call I2 (fun _ _ _ q=>q) hq)
 |ok fl=>
  cases fl with
  |ret u=>exact I2.after hq
  |next=>exact False.elim hq
  |brk=>exact False.elim hq
  |cont=>exact False.elim hq
end
def ZkL(N:List Str)(tB:Act→Addr→List D→List V→Yh)(fb:Exp):Exp:=fun e s R E=> ∀(f:Addr) (xs:List D) (vs:List V),tB (fun s R E=>fb e s R E) f xs vs (Qx R E) (ZC N [.clo f xs vs]) s
section
variable{X:Cx}{T:Tb}{W:WX}
theorem Zg6{x a:Str}{g c P:Addr}{fd:FuncData}{st:Stmt}{k:Nat}{Ng:List Str}{params:Arguments}{body:Expr}{scope:Scope}{p lpos pos:Pos}{fb:Exp}{tB:Act→Addr→List D→List V→Yh}
  (Fg:Fun X.K x x st g fd) (Sg:FnScope Ng [a] (defScope st)) (hg:Gl X x) (hm:X.mg x=some (.ref g)) (hb:L2.Binds X.K fd [a] []) (hNg:Ng[0]? =some a) (hva:Vis (defScope st) a) (tk:Takes X W)
  (hB: ∀(cdv:Value) (A:Around) (outer:List Env) (s:Shared) (H:Hp) (E:XK) (f:Addr) (xs:List D) (vs:List V) (act:Act),fK (cxOf (L2.CX X.prog X.w) X.prog X.w X.K X.mg X.base Ng x (defScope st) g cdv A outer s H E) (XF E) (k+1)→
    (∀(W':WX) (pn:List (Addr×Obj)) (xe:Value→Shared→Prop) (p1 p2:Pos),Takes ((cxOf (L2.CX X.prog X.w) X.prog X.w X.K X.mg X.base Ng x (defScope st) g cdv A outer s H E).tr pn xe) W'→
      DX ((cxOf (L2.CX X.prog X.w) X.prog X.w X.K X.mg X.base Ng x (defScope st) g cdv A outer s H E).tr pn xe) T W' (.Call (.Name a p1) [] [] p2) (ZkK f xs vs act))→
    qM (cxOf (L2.CX X.prog X.w) X.prog X.w X.K X.mg X.base Ng x (defScope st) g cdv A outer s H E) T (XF E) (defBody st) (tB act f xs vs))
  (TB:TabB X.base X.mg c P) (hcode:X.env.code= .ref c) (hmT:(P,X.env.qual++ "<lambda>")∈T.tabs) (hu: ∀p∈T.tabs,p.1=P→p.2=X.env.qual++ "<lambda>") (hr:Room (k+2) X.A) (hgd:X.A.guards=some []) (L:LamS X.env.scope scope) (hdef:defaultsOf params X.env=([],[]))
  (hbind: ∀(q:Str) (cl:List (Str×Addr)) (pm cv ctv:Value),bindArgs (PySem.W.kla_fn "<lambda>" q params body scope cl pm cv ctv) ⟨[],[]⟩=pure [])
  (hbody: ∀(A:Around) (outer:List Env) (s:Shared) (H:Hp) (E:XK) (f c':Addr),fK (lamCx X A outer s H E scope f c') (XF E) k→DX (lamCx X A outer s H E scope f c') T (XF E) body fb)
  (hdb:(x==("__debug__" :Str))=false:=by decide) (hd:(a==("__debug__" :Str))=false:=by decide) (hcd:(a==("__classdict__" :Str))=false:=by decide):
  DX X T W (.Call (.Name x p) [.Lambda params body scope lpos] [] pos) (ZkL Ng tB fb):=by
 obtain⟨oc,od,kV,doc,pm,an,cdv,ct,osl,rfl,lk,hcg⟩:=Fg.ex
 refine⟨⟨fun pins s σ H Q I hq=> ?_⟩⟩
 obtain⟨F,e,s0,R,E,he',hh,hx,hf,post⟩:=hq
 refine wpAny_Call_Name_kw (ld_glob I hg hm ?_ hdb)
 refine PySem.W.callWith_K (h₀:=X.base) I.ok.mod.kin Fg.kp ?_ (by rfl) (by rfl)
 show wpAny _ _ (spliced ((false,eval (.Lambda params body scope lpos) X.env)::backTo pos (starEach [] X.env))) _ _ s
 refine Calls.spliced_cons (ZkJ I TB hcode hmT hu hh.tab hdef (L.has I.ok) fun f c' pm' ctv H1 s' I1 eN T1 hfo hfn hfr hco=> ?_)
 refine Calls.spliced_nil ⟨I1.kIn, ?_⟩
 obtain⟨ps1,hP,hca⟩:=hco
 obtain⟨hh1,x1⟩:=hh.Zw6 eN T1
 obtain⟨xs,vs,rxs,hclo⟩:=Zg5 he'
 have rc:codeAny (model X.prog X.w) X.A (.call (.ref g) ⟨[.ref f],[]⟩) (CR (L2.CX X.prog X.w) X.stack X.prog X.w H1 s' Q (fun c d H'=>W c d σ H')) s':=by
  refine run_ofS (N:=Ng) (ps:=[a]) (us:=[.ref f]) (vs:=[.ref f]) lk hcg Sg hr I1.env0 (hb s' [.ref f] I1.kIn rfl) (.cons rfl .nil) rfl fun hr'=> ?_
  have B:fK (cxOf (L2.CX X.prog X.w) X.prog X.w X.K X.mg X.base Ng x (defScope st) g cdv X.A X.stack s' H1 (fun c d H'=>W c d σ H')) (XF (fun c d H'=>W c d σ H')) (k+1):=⟨hr',hgd,takes_of rfl rfl rfl rfl,passes_of rfl⟩
  refine⟨_,(hB cdv X.A X.stack s' H1 (fun c d H'=>W c d σ H') f xs vs (fun s R E=>fb e s R E) B fun W' pn xe p1 p2 tk'=>ZrQ I1 L hfo hfn hfr (hbind _ _ _ _ _) tk' hr' hgd (fun A outer s H E hr2=>hbody A outer s H E f c' hr2) hclo hNg hva hmT hP hca hd hcd).pss,
   F,ZC Ng [.clo f xs vs],s0,Qx R E,sO (.cons (.clo f rxs) .nil),hh1,hf f xs vs,⟨?_, ?_, ?_, ?_, ?_⟩⟩
  ·rintro e' s' σ' H' F' ⟨s2,hs2,q⟩ x2 hh2 _
   exact post .non s2 .non H' F' q ((x1.trans x2).weak hs2) (hh2.weak hs2) .non
  ·rintro d s' v H' F' ⟨s2,hs2,q⟩ x2 hh2 r
   exact post d s2 v H' F' q ((x1.trans x2).weak hs2) (hh2.weak hs2) r
  ·intro _ _ _ _ _ q;exact q.elim
  ·intro _ _ _ _ _ q;exact q.elim
  ·rintro x e' s' cls dx σ' H' F' ⟨s2,hs2,q⟩ x2 hh2 _ r
   exact hx x s2 cls dx H' F' q ((x1.trans x2).weak hs2) (hh2.weak hs2) r
 refine wpAny_call (codeAny_mono rc fun r s2 hq=> ?_)
 cases r with
 |error e=>exact tk e s2 (XE.of_call I1 (fun _ _ _ q=>q) hq)
 |ok fl=>
  cases fl with
  |ret u=>exact I1.after hq
  |next=>exact False.elim hq
  |brk=>exact False.elim hq
  |cont=>exact False.elim hq
end
end Bk
namespace Bk
open PySem PySem.Spec PyProof.Rows L2
def Zg7:Exp:=fun _ s R _=>R (.U0 []) s
theorem Znq{X:Cx}{T:Tb}{W:WX}{pos:Pos}:DX X T W (.Dict [] [] pos) Zg7:=⟨Yj pe_dnewK fun σ H Q hq p np=>by
 obtain⟨F,e,s,R,E,he,hh,hx,hf,post⟩:=hq
 exact post _ s _ _ _ hf (Ext.frz hh np) (hh.frz (o:= .dK []) np (fun ps z=>by cases z)) (.U0 upd_same .nil)⟩
mutual
def D.bU:D→Bool
 | .non| .bl _| .int _| .str _=>true
 | .lst xs| .tup xs| .ju xs=>D.Ze5 xs
 | .U0 []=>true
 | .U0 (_::_)| .rf _| .U7 _| .exc _ _| .obj _ _| .clo _ _ _| .cls _| .j5 _=>false
def D.Ze5:List D→Bool
 |[]=>true
 |x::xs=>x.bU&&D.Ze5 xs
end
section
variable{X:Cx}{pins:List (Addr×Obj)}{σ:L2.St}{H F:Hp}{s:Shared}{T:Tb}
theorem Zpv(I:L2.Inv X pins σ H s)(hs: ∃mm,X.base.Ns sysModules mm){a:Addr}{o:Obj}{vs:Array Value}{n:Nat}(e:s.heap.get? a=some o)(d:o.data= .seq vs n):sysModules≠a:=fun z=>by
 obtain⟨mm,ob,es,ep,hb,hd,_⟩:=hs
 have:=I.bk _ _ hb
 rw[z,e]at this
 cases this
 rw[d]at hd
 cases hd
mutual
theorem Zaw(I:L2.Inv X pins σ H s)(hs: ∃mm,X.base.Ns sysModules mm)(e:Same F H): ∀{d:D} {v:V} {u:Value},Rep X.K T F d v→d.bU=true→RelV v u→ ∃as,Reads s.heap u d.py as∧sysModules∉as
 |_,_,_, .non,_,r=>by cases r;rw[D.py];exact⟨_,Reads.none,fun h=>nomatch h⟩
 |_,_,_, .bl b,_,r=>by cases r;rw[D.py];exact⟨_,Reads.bool b,fun h=>nomatch h⟩
 |_,_,_, .int i,_,r=>by obtain⟨t,rfl⟩:=r;rw[D.py];exact⟨_,Reads.int i t,fun h=>nomatch h⟩
 |_,_,_, .str x,_,r=>by obtain⟨t,rfl⟩:=r;rw[D.py];exact⟨_,Reads.str x t,fun h=>nomatch h⟩
 |_,_,_, .lst h rr,p,r=>by
  cases r
  obtain⟨its,rv,⟨o,n,ho,hc,_,hd⟩,_⟩:=I.list (cH h e)
  obtain⟨as,q,hn⟩:=Ek I hs e rr (by rwa[D.bU]at p) rv
  rw[D.py]
  exact⟨_,Reads.list ho hc hd q,fun z=>by
   rcases List.mem_cons.mp z with z|z
   ·exact Zpv I hs ho hd z
   ·exact hn z⟩
 |_,_,_, .tup h rr,p,r=>by
  cases r
  obtain⟨its,rv,⟨o,ho,hc,n,hd⟩,_⟩:=I.tuple (Yu e h)
  obtain⟨as,q,hn⟩:=Ek I hs e rr (by rwa[D.bU]at p) rv
  rw[D.py]
  exact⟨_,Reads.tuple ho hc hd q,hn⟩
 |_,_,_, .ju h hdn rr,p,r=>by
  cases r
  obtain⟨its,rv,⟨o,ho,hc,n,hd⟩,_⟩:=I.tuple (X:=X) (H:=H) (s:=s) (.inl (.inr ⟨_,e _ _ h⟩))
  obtain⟨as,q,hn⟩:=Ek I hs e rr (by rwa[D.bU]at p) rv
  rw[D.py]
  exact⟨_,Reads.tuple ho hc hd q,hn⟩
 |_,_,_, .U0 (kvs:=kvs) h rr,p,r=>by
  cases kvs with
  |cons a b=>rw[D.bU]at p;cases p
  |nil=>
   cases rr
   cases r
   obtain⟨_,hns,vs,kv,⟨o,es,ep,ho,hex,hdat,_,hes,_⟩⟩:=I.hok _ _ (e _ _ h)
   cases kv
   rw[D.py]
   have e0:es.toList=[]:=by
    generalize es.toList=l at hes
    cases hes;rfl
   refine⟨_,Reads.dict ho hex.1 hdat (by rw[e0];exact .nil) (by rw[e0];exact .nil),fun z=> ?_⟩
   simp only[List.append_nil,List.mem_cons,List.not_mem_nil,or_false]at z
   rw[←z]at hns
   simp at hns
 |_,_,_, .rf v,p,_=>by rw[D.bU]at p;cases p
 |_,_,_, .U7 h,p,_=>by rw[D.bU]at p;cases p
 |_,_,_, .exc h h2 r,p,_=>by rw[D.bU]at p;cases p
 |_,_,_, .obj h r,p,_=>by rw[D.bU]at p;cases p
 |_,_,_, .clo f r,p,_=>by rw[D.bU]at p;cases p
 |_,_,_, .cls _,p,_=>by rw[D.bU]at p;cases p
 |_,_,_, .j5 _ _,p,_=>by rw[D.bU]at p;cases p
theorem Ek(I:L2.Inv X pins σ H s)(hs: ∃mm,X.base.Ns sysModules mm)(e:Same F H): ∀{ds:List D} {vs:List V} {us:List Value},Qw X.K T F ds vs→D.Ze5 ds=true→Vals vs us→ ∃as,ReadsAll s.heap us (D.Gi ds) as∧sysModules∉as
 |_,_,_, .nil,_,r=>by cases r;rw[D.Gi];exact⟨_, .nil,fun h=>nomatch h⟩
 |_,_,_, .cons h rr,p,r=>by
  rw[D.Ze5,Bool.and_eq_true]at p
  cases r with
  |cons r1 r2=>
   obtain⟨as,q1,n1⟩:=Zaw I hs e h p.1 r1
   obtain⟨bs,q2,n2⟩:=Ek I hs e rr p.2 r2
   rw[D.Gi]
   exact⟨_, .cons q1 q2,fun z=>(List.mem_append.mp z).elim n1 n2⟩
end
end
def D.XJ(d:D):Prop:=d.bU=true∧d.py.showable=true∧d.py.depth≤64∧d.py.shown.length≤sizeLine
def WQ:GA:=fun ds s R=>match ds with
 |[x]=>x.XJ∧ ∀a,shown x=a→R (.str a) s
 |_=>False
section
variable{X:Cx}{T:Tb}
theorem Dz(hs: ∃mm,X.base.Ns sysModules mm)(hg:X.A.guards=some [])(hu:X.A.units+66<cLine):CallD X T (.builtin "repr") WQ:=by
 refine⟨fun vs H Q=> ∃(F:Hp) (d:D) (v:V),vs=[v]∧Same F H∧Rep X.K T F d v∧d.XJ∧Q (.str (shown d)) H,fun pins s σ H vs us Q I r h=> ?_,fun F s H ds vs R Q hh rs hg' post=> ?_⟩
 ·obtain⟨F,d,v,rfl,e,rp,⟨h0,h1,h2,h3⟩,q⟩:=h
  obtain⟨u,rfl,ru⟩:=vals1 r
  obtain⟨as,rd,hn⟩:=Zaw I hs e rp h0 ru
  have ZcM: ∀a,u= .ref a→wpAny (model X.prog X.w) X.A (call (.builtin "repr") [u]) (EP X pins σ Q) X.xe s:=fun a ea=>by
   subst ea
   exact repr_of_reads' rd h1 (fun _=>hn) hg (by omega) (fun _ _ e=>e) (fun h' u tk hk=>⟨.str _,H,I.kept hk,⟨_,rfl⟩,q⟩) h3
  cases rp with
  |non=>
   cases ru
   exact PySem.P.repr_of_none ⟨.str _,H,I.tok _,⟨_,rfl⟩,q⟩
  |bl b=>
   cases ru
   exact PySem.P.repr_of_bool ⟨.str _,H,I.tok _,⟨_,rfl⟩,q⟩
  |int i=>
   obtain⟨t,rfl⟩:=ru
   exact PySem.P.repr_of_int (by rw[D.py]at h1;simpa [PyData.showable]using h1) ⟨.str _,H,I.tok _,⟨_,rfl⟩,q⟩
  |str x=>
   obtain⟨t,rfl⟩:=ru
   refine PySem.P.repr_of_str ⟨.str _,H,I.tok _,⟨_,rfl⟩,q⟩ ?_
   rw[D.py]at h3
   exact h3
  |lst _ _=>exact ZcM _ ru
  |tup _ _=>exact ZcM _ ru
  |ju _ _ _=>exact ZcM _ ru
  |U0 _ _=>exact ZcM _ ru
  |rf v=>rw[D.bU]at h0;cases h0
  |U7 _=>rw[D.bU]at h0;cases h0
  |exc _ _ _=>rw[D.bU]at h0;cases h0
  |obj _ _=>rw[D.bU]at h0;cases h0
  |clo _ _=>rw[D.bU]at h0;cases h0
  |cls _=>rw[D.bU]at h0;cases h0
  |j5 _ _=>rw[D.bU]at h0;cases h0
 ·unfold WQ at hg'
  split at hg'
  ·obtain⟨v,rfl,r⟩:=rs.one
   exact⟨F,_,v,rfl,hh.sub,r,hg'.1,post _ s _ H F (hg'.2 _ rfl) Ext.refl hh (.str _)⟩
  ·exact hg'.elim
end
end Bk
namespace Bk
open PySem PySem.Spec PyProof.Rows L2
end Bk
namespace Bk
open PySem PySem.Spec PyProof.Rows L2
abbrev qj(x:Str):Str:=(x++ ".<locals>.")++ "<lambda>"
structure ZhW(K:PySem.W.Frag)(x qual:Str)(st:Stmt)(f:Addr)(fd:FuncData)(c:Addr):Prop where
 ex: ∃(oc:Value) (od:Option Addr) (kV doc pm:Value) (an:Option Addr) (ct:Value) (osl:Array (Option Value)),
  fd=PySem.W.fnOf x qual (defArgs st) (defBody st) (defScope st) .none kV doc pm an (.ref c) ct∧K.lookup f=some ⟨oc,od, .func fd,osl⟩∧PySem.W.codeIn K (.ref c) qual=true
 kp:PySem.W.keepIn K (.ref f)=true
section
variable{P:Program}{w:World}{K:PySem.W.Frag}{mg:Str→Option Value}{base:Heap}{T:Tb}
theorem ZhW.fn{x qual:Str}{st:Stmt}{f c:Addr}{fd:FuncData}(F:ZhW K x qual st f fd c):Fun K x qual st f fd:=by
 obtain⟨oc,od,kV,doc,pm,an,ct,osl,h1,h2,h3⟩:=F.ex
 exact⟨⟨oc,od,kV,doc,pm,an,_,ct,osl,h1,h2,h3⟩,F.kp⟩
theorem ZjF{x qual:Str}{st:Stmt}{f c:Addr}{fd:FuncData}{N ps:List Str}{k:Nat}{phi:Fn}{t:Yh}(F:ZhW K x qual st f fd c)(S:FnScope N ps (defScope st))
  (hb: ∀(A:Around) (outer:List Env) (s:Shared) (H:Hp) (E:XK),fK (cxOf (L2.CX P w) P w K mg base N qual (defScope st) f (.ref c) A outer s H E) (XF E) k→
    qM (cxOf (L2.CX P w) P w K mg base N qual (defScope st) f (.ref c) A outer s H E) T (XF E) (defBody st) t)
  (Zks: ∀ds s R E,ds.length=ps.length→phi ds s R E→t (Qx R E) (ZC N ds) s):GFn P w K mg base (k+1) f fd ps (Bs K T ps.length phi):=by
 obtain⟨oc,od,kV,doc,pm,an,ct,osl,rfl,lk,hcd⟩:=F.ex
 refine⟨fun vs H Q E ⟨_,_,ds,_,_,hl,rs,_⟩=>by rw[←rs.length];exact hl,fun A outer s H args us vs Q E hr hg e0 hbd hv hs=> ?_⟩
 obtain⟨FF,s0,ds,R,EE,hl,rs,hh,hx,hp,post⟩:=hs
 have hlv:vs.length=ps.length:=by rw[←rs.length];exact hl
 refine LamX.run_ofS lk hcd S hr e0 hbd hv hlv fun hr'=> ?_
 have B:fK (cxOf (L2.CX P w) P w K mg base N qual (defScope st) f (.ref c) A outer s H E) (XF E) k:=⟨hr',hg,takes_of rfl rfl rfl rfl,passes_of rfl⟩
 refine⟨_,(hb A outer s H E B).pss,FF,ZC N ds,s0,Qx R EE,sO rs,hh,Zks ds s0 R EE hl hp,⟨?_, ?_, ?_, ?_, ?_⟩⟩
 ·rintro e' s' σ' H' F' ⟨s2,hs2,q⟩ x1 hh1 _
  exact post .non s2 .non H' F' q (x1.weak hs2) (hh1.weak hs2) .non
 ·rintro d s' v H' F' ⟨s2,hs2,q⟩ x1 hh1 r
  exact post d s2 v H' F' q (x1.weak hs2) (hh1.weak hs2) r
 ·intro _ _ _ _ _ q;exact q.elim
 ·intro _ _ _ _ _ q;exact q.elim
 ·rintro x e' s' cls dx σ' H' F' ⟨s2,hs2,q⟩ x1 hh1 _ r
  exact hx x s2 cls dx H' F' q (x1.weak hs2) (hh1.weak hs2) r
end
section
variable{X:Cx}{T:Tb}{W:WX}{pos:Pos}{x:Str}
theorem ZjG{z:Str}(hg:Gl X x)(hm: ∃t,X.mg x=some (.str z t))(hd:(x==("__debug__" :Str))=false:=by decide):DX X T W (.Name x pos) (dC (.str z)):=by
 obtain⟨t,e⟩:=hm
 exact ZdY (v:= .str z) hg e ⟨t,rfl⟩ (fun _=> .str z) hd
theorem X5{i:Int}(hg:Gl X x)(hm: ∃t,X.mg x=some (.int i t))(hd:(x==("__debug__" :Str))=false:=by decide):DX X T W (.Name x pos) (dC (.int i)):=by
 obtain⟨t,e⟩:=hm
 exact ZdY (v:= .int i) hg e ⟨t,rfl⟩ (fun _=> .int i) hd
theorem Zd3{sc scope:Scope}(h:LamX.lamSB sc scope=true)(e:X.env.scope=sc:=by rfl):LamX.LamS X.env.scope scope:=by
 rw[e];exact LamX.lamS_by h
theorem sW{c:Str}{C:Addr}(hg:Gl X c)(hm:X.mg c=some (.ref C))(hd:(c==("__debug__" :Str))=false:=by decide):Names X c (.ref C):=⟨hg,hd, .inl hm⟩
end
end Bk
namespace Bk
open PySem PySem.Spec PyProof.Rows L2
def Oc(K:PySem.W.Frag)(n:Str):Addr:=match PySem.W.nsIn K mainGlobals n with
 |some (some (.ref a))=>a
 |_=>0
def Ca(K:PySem.W.Frag)(n:Str):Bool:=match PySem.W.nsIn K mainGlobals n with
 |some (some (.ref _))=>true
 |_=>false
theorem ZjH{K:PySem.W.Frag}{n:Str}{C:Addr}(h:PySem.W.nsIn K mainGlobals n=some (some (.ref C))):Oc K n=C:=by unfold Oc;rw[h]
theorem Cd{K:PySem.W.Frag}{h:Heap}{mg:Str→Option Value}{n:Str}(X:K.In h)(G:h.Ns mainGlobals mg)(b:Ca K n=true):mg n=some (.ref (Oc K n)):=by
 unfold Ca at b
 split at b
 ·rename_i a e
  rw[ZjH e]
  exact PySem.W.mg_of X G e
 ·cases b
def Zoy(K:PySem.W.Frag)(C:Addr):Bool:=decide (PySem.W.findIn K (.ref C) "__getattribute__" =some (some (.builtin "BaseException.__getattribute__")))&&decide (PySem.W.findIn K (.ref C) "__getattr__" =some none)&&decide (PySem.W.subIn K (.ref C) (.type "BaseException")=some true)&&PySem.W.hasDictIn K C&&
 decide (PySem.W.findIn K (.ref C) "__class__" =some (some (.builtin "object.__class__")))&&decide (PySem.W.specialIn K (.builtin "object.__class__") "__get__" =some (some (.builtin "getset_descriptor.__get__")))&&decide (PySem.W.takesIn K (.builtin "object.__class__")=some true)&&decide (PySem.W.mroIn K C (.type "object")=some true)
theorem Zpw{K:PySem.W.Frag}{C:Addr}(h:Zoy K C=true):ExcC K C:=by
 simp only[Zoy,Bool.and_eq_true,decide_eq_true_eq]at h
 obtain⟨⟨⟨⟨⟨⟨⟨h1,h2⟩,h3⟩,h4⟩,h5⟩,h6⟩,h7⟩,h8⟩:=h
 exact⟨h1,h2,h3,h4,h5,h6,h7,h8⟩
def eaB(K:PySem.W.Frag)(kn ms fs:List Str):Bool:=kn.all fun c=>Zoy K (Oc K c)&&xfB K (Oc K c)&&(ms.all fun m=>decide (PySem.W.kitOne K (.ref (Oc K c)) (.ref (Oc K m))=some (HF c m))&&decide (PySem.W.exmOne K (.ref (Oc K c)) (.ref (Oc K m))=some (HF c m)))&&
 fs.all fun f=>decide (PySem.W.findIn K (.ref (Oc K c)) f=some none)
theorem Zpx{hs:NestedKey→Int}{K:PySem.W.Frag}{TT:List (Addr×Str)}{kn ms fs:List Str}(h:eaB K kn ms fs=true):Zbe K ⟨TT,Oc K,hs⟩ kn ms fs:=by
 have go: ∀c∈kn,Zoy K (Oc K c)=true∧xfB K (Oc K c)=true∧(∀m∈ms,PySem.W.kitOne K (.ref (Oc K c)) (.ref (Oc K m))=some (HF c m)∧PySem.W.exmOne K (.ref (Oc K c)) (.ref (Oc K m))=some (HF c m))∧ ∀f∈fs,PySem.W.findIn K (.ref (Oc K c)) f=some none:=fun c hc=>by
  have q:=List.all_eq_true.mp h c hc
  simp only[Bool.and_eq_true,List.all_eq_true,decide_eq_true_eq]at q
  exact⟨q.1.1.1,q.1.1.2,fun m hm=>q.1.2 m hm,fun f hf=>q.2 f hf⟩
 exact⟨fun c hc=>⟨Zpw (go c hc).1,xfB_ok (go c hc).2.1⟩,fun c hc m hm=>((go c hc).2.2.1 m hm).1,fun c hc m hm=>((go c hc).2.2.1 m hm).2,fun c hc f hf=>(go c hc).2.2.2 f hf⟩
def exB(K:PySem.W.Frag)(C:Addr)(f:Str)(B newId initId:String)(bmB:List Value):Bool:=PySem.W.excInitIn K C bmB newId&&PySem.W.excOver K C bmB&&decide (PySem.W.subIn K (.ref C) (.type B)=some true)&&decide (PySem.W.ks_superIn K C C "__init__" =some (some (.builtin initId)))&&
 decide (PySem.W.findIn K (.ref C) "__setattr__" =some (some (.builtin "object.__setattr__")))&&decide (PySem.W.takerIn K C f=some none)&&PySem.W.hasDictIn K C&&decide (PySem.W.mroIn K C (.ref C)=some true)&&decide (PySem.W.nsIn K mainGlobals "super" =some none)&&decide (PySem.W.nsIn K cStatics "thirdparty.any" =some none)&&
 PySem.W.keepIn K (.ref C)&&decide (PySem.W.subIn K (.ref C) (.type "BaseException")=some true)&&decide (PySem.W.typeIn K (.ref C)=some (.type "type"))
def ZqB:Stmt→Stmt
 | .ClassDef _ _ _ (st::_) .. =>st
 |st=>st
theorem ZjI{hs:NestedKey→Int}{P:Program}{K:PySem.W.Frag}{mg:Str→Option Value}{h:Heap}{TT:List (Addr×Str)}{n f y:Str}{B newId initId:String}{bmB:List Value}{st:Stmt}{C fI cda cc:Addr}{qual:Str}{kV doc pm ct oc:Value}{an od:Option Addr}{osl:Array (Option Value)}{ccl cl:Value}{cdd cld:Option Addr}{ccs csl:Array (Option Value)}{vs:Array Value}{file:Str}{tf:Tok}
  (X:K.In h) (G:h.Ns mainGlobals mg) (BX:ZlP B newId initId bmB) (IS:ZhV (defArgs st) (defBody st) (defScope st) f y) (top:(P.main.scope.names.lookup ("super" :Str)).isSome=false)
  (hC:PySem.W.nsIn K mainGlobals n=some (some (.ref C))) (hB:exB K C f B newId initId bmB=true) (hfi:PySem.W.findIn K (.ref C) "__init__" =some (some (.ref fI))) (hfn:PySem.W.isFn K (.ref fI)=true)
  (hl:K.lookup fI=some ⟨oc,od, .func (PySem.W.ksFn "__init__" qual (defArgs st) (defBody st) (defScope st) .none kV doc pm an (.ref cda) ct cc),osl⟩) (hcd:PySem.W.codeIn K (.ref cda) qual=true) (hcl:K.lookup cda=some ⟨ccl,cdd, .fields vs,ccs⟩)
  (hv:vs[2]? =some (.str file tf)) (hf:((P.main.file:Str)==file)=true) (hcc:K.lookup cc=some ⟨cl,cld, .cell (some (.ref C)),csl⟩):Zox P K mg ⟨TT,Oc K,hs⟩ n f:=by
 simp only[exB,Bool.and_eq_true,decide_eq_true_eq]at hB
 obtain⟨⟨⟨⟨⟨⟨⟨⟨⟨⟨⟨⟨a1,a2⟩,a3⟩,a4⟩,a5⟩,a6⟩,a7⟩,a8⟩,a9⟩,a10⟩,a11⟩,a12⟩,a13⟩:=hB
 have e:=ZjH hC
 have ex:ZkE P K C f:=⟨⟨B,newId,initId,bmB,BX,a1,a2,a3,a4⟩,a5,a6,a7,a8,a9,a10,top,⟨fI,cda,cc,qual,y,_,_,_,kV,doc,pm,ct,oc,an,od,osl,ccl,cl,cdd,cld,ccs,csl,vs,file,tf,hfi,hfn,hl,hcd,hcl,hv,hf,hcc,IS⟩⟩
 refine⟨?_, ?_, ?_, ?_, ?_⟩
 ·show ZkE P K (Oc K n) f
  rw[e];exact ex
 ·show mg n=some (.ref (Oc K n))
  rw[e];exact PySem.W.mg_of X G hC
 ·show PySem.W.keepIn K (.ref (Oc K n))=true
  rw[e];exact a11
 ·show PySem.W.subIn K (.ref (Oc K n)) _=_
  rw[e];exact a12
 ·show PySem.W.typeIn K (.ref (Oc K n))=_
  rw[e];exact a13
theorem ZjJ{K:PySem.W.Frag}{h:Heap}{mg:Str→Option Value}{st:Stmt}{x qual:Str}{f c P:Addr}{oc:Value}{od:Option Addr}{kV doc pm:Value}{an:Option Addr}{cdv ct:Value}{osl:Array (Option Value)}(X:K.In h)(G:h.Ns mainGlobals mg)(hm:mg x=some (.ref f))(ht:PySem.W.tabIn K x=some (c,P))
  (hl:K.lookup f=some ⟨oc,od, .func (PySem.W.fnOf x qual (defArgs st) (defBody st) (defScope st) .none kV doc pm an cdv ct),osl⟩) (hcd:PySem.W.codeIn K cdv qual=true) (hk:PySem.W.keepIn K (.ref f)=true):ZhW K x qual st f (PySem.W.fnOf x qual (defArgs st) (defBody st) (defScope st) .none kV doc pm an cdv ct) c:=by
 have e:cdv= .ref c:=PySem.W.law_code X G ht hm (X _ _ hl) rfl
 subst e
 exact⟨⟨oc,od,kV,doc,pm,an,ct,osl,rfl,hl,hcd⟩,hk⟩
theorem Zme{K:PySem.W.Frag}{st:Stmt}{x qual:Str}{f c P:Addr}{oc oc2:Value}{od od2:Option Addr}{kV doc pm:Value}{an:Option Addr}{cdv ct:Value}{osl osl2:Array (Option Value)}{vs:Array Value}(ha:PySem.W.nsIn K mainGlobals x=some (some (.ref f)))
  (hl:K.lookup f=some ⟨oc,od, .func (PySem.W.fnOf x qual (defArgs st) (defBody st) (defScope st) .none kV doc pm an cdv ct),osl⟩) (h0:cdv= .ref c) (h1:K.lookup c=some ⟨oc2,od2, .fields vs,osl2⟩) (h2:vs[11]? =some (.ref P)):PySem.W.tabIn K x=some (c,P):=by
 subst h0
 have e:(PySem.W.fnOf x qual (defArgs st) (defBody st) (defScope st) .none kV doc pm an (.ref c) ct).code= .ref c:=rfl
 unfold PySem.W.tabIn
 simp only[ha,hl,e,h1,h2]
end Bk
namespace Bk
open PySem PySem.Spec PyProof.Rows L2
mutual
def D.good(b:Int):D→Bool
 | .non| .bl _=>true
 | .int i=>decide (-b≤i)&&decide (i≤b)
 | .str x=>PyData.strOk x
 | .lst xs| .tup xs=>D.Mr b xs
 | .U0 []=>true
 | .U0 (_::_)| .rf _| .U7 _| .exc _ _| .obj _ _| .clo _ _ _| .ju _| .cls _| .j5 _=>false
def D.Mr(b:Int):List D→Bool
 |[]=>true
 |x::xs=>x.good b&&D.Mr b xs
end
mutual
theorem good_mono{b c:Int}(h:b≤c): ∀d:D,d.good b=true→d.good c=true
 | .non,_| .bl _,_=>by rw[D.good]
 | .int i,z=>by
   rw[D.good,Bool.and_eq_true,decide_eq_true_eq,decide_eq_true_eq]at z⊢
   omega
 | .str x,z=>by rw[D.good]at z⊢;exact z
 | .lst xs,z| .tup xs,z=>by rw[D.good]at z⊢;exact lX h xs z
 | .U0 [],_=>by rw[D.good]
 | .U0 (_::_),z| .rf _,z| .U7 _,z| .exc _ _,z| .obj _ _,z| .clo _ _ _,z| .ju _,z| .cls _,z| .j5 _,z=>by rw[D.good]at z;cases z
theorem lX{b c:Int}(h:b≤c): ∀xs:List D,D.Mr b xs=true→D.Mr c xs=true
 |[],_=>by rw[D.Mr]
 |x::xs,z=>by
  rw[D.Mr,Bool.and_eq_true]at z⊢
  exact⟨good_mono h x z.1,lX h xs z.2⟩
end
mutual
theorem Zfg{b:Int}: ∀d:D,d.good b=true→d.bU=true
 | .non,_| .bl _,_| .int _,_| .str _,_=>by rw[D.bU]
 | .lst xs,z| .tup xs,z=>by rw[D.good]at z;rw[D.bU];exact ZcN xs z
 | .U0 [],_=>by rw[D.bU]
 | .U0 (_::_),z| .rf _,z| .U7 _,z| .exc _ _,z| .obj _ _,z| .clo _ _ _,z| .ju _,z| .cls _,z| .j5 _,z=>by rw[D.good]at z;cases z
theorem ZcN{b:Int}: ∀xs:List D,D.Mr b xs=true→D.Ze5 xs=true
 |[],_=>by rw[D.Ze5]
 |x::xs,z=>by
  rw[D.Mr,Bool.and_eq_true]at z
  rw[D.Ze5,Bool.and_eq_true]
  exact⟨Zfg x z.1,ZcN xs z.2⟩
end
theorem ZkM{i:Int}(h: -(10^38)<i∧i<10^38):(PyData.shown (.int i)).length≤40:=by
 rw[PyData.shown]
 have hb:i.natAbs<10^38:=by omega
 have:=int_text_length_le10 (a:=i) (k:=38) (by decide) hb
 have e:(Str.ofString (toString i)).length≤(toString i).length:=by
  rw[Str.ofString_eq_toList]
  show((toString i).toList.map Char.toNat).toArray.size≤_
  rw[List.size_toArray,List.length_map]
  exact Nat.le_of_eq String.length_toList
 exact Nat.le_trans e (by omega)
mutual
theorem ZcO{b:Int}(hb:b<10^38): ∀d:D,d.good b=true→d.py.showable=true∧d.py.leavesShort 40=true
 | .non,_=>by rw[D.py];simp [PyData.showable,PyData.leavesShort]
 | .bl _,_=>by rw[D.py];simp [PyData.showable,PyData.leavesShort]
 | .int i,z=>by
   rw[D.good,Bool.and_eq_true,decide_eq_true_eq,decide_eq_true_eq]at z
   have hl:i.natAbs.log2<127:=log2_lt (Nat.lt_trans (show i.natAbs<10^38 by omega) (by decide)) (by decide)
   rw[D.py,PyData.showable,PyData.leavesShort]
   exact⟨decide_eq_true (by omega),decide_eq_true (ZkM (by omega))⟩
 | .str x,z=>by
   rw[D.good]at z
   rw[D.py,PyData.showable,PyData.leavesShort]
   refine⟨rfl,List.all_eq_true.mpr fun c hc=>decide_eq_true ?_⟩
   have:=Mp.mp z c hc
   exact Nat.lt_trans this (by decide)
 | .lst xs,z| .tup xs,z=>by
   rw[D.good]at z
   rw[D.py,PyData.showable,PyData.leavesShort]
   exact Zax hb xs z
 | .U0 [],_=>by rw[D.py];simp [PyData.showable,PyData.showableKv,PyData.leavesShort,PyData.leavesShortKv]
 | .U0 (_::_),z| .rf _,z| .U7 _,z| .exc _ _,z| .obj _ _,z| .clo _ _ _,z| .ju _,z| .cls _,z| .j5 _,z=>by rw[D.good]at z;cases z
theorem Zax{b:Int}(hb:b<10^38): ∀xs:List D,D.Mr b xs=true→PyData.showableAll (D.Gi xs)=true∧PyData.leavesShortAll 40 (D.Gi xs)=true
 |[],_=>by rw[D.Gi,PyData.showableAll,PyData.leavesShortAll];exact⟨rfl,rfl⟩
 |x::xs,z=>by
  rw[D.Mr,Bool.and_eq_true]at z
  obtain⟨h1,h2⟩:=ZcO hb x z.1
  obtain⟨h3,h4⟩:=Zax hb xs z.2
  rw[D.Gi,PyData.showableAll,PyData.leavesShortAll,h1,h2,h3,h4]
  exact⟨rfl,rfl⟩
end
structure Th(b:Int)(n w:Nat)(d:D):Prop where
 g:d.good b=true
 dep:d.py.depth≤n
 wt:d.py.weight≤w
structure yq(b:Int)(n w:Nat)(xs:List D):Prop where
 g:D.Mr b xs=true
 dep:PyData.depthAll (D.Gi xs)≤n
 wt:PyData.weightAll (D.Gi xs)≤w
section
variable{b c:Int}{n m w u:Nat}{d:D}{xs ys:List D}
theorem Th.mono(h:Th b n w d)(h1:b≤c)(h2:n≤m)(h3:w≤u):Th c m u d:=⟨good_mono h1 d h.g,Nat.le_trans h.dep h2,Nat.le_trans h.wt h3⟩
theorem yq.mono(h:yq b n w xs)(h1:b≤c)(h2:n≤m)(h3:w≤u):yq c m u xs:=⟨lX h1 xs h.g,Nat.le_trans h.dep h2,Nat.le_trans h.wt h3⟩
theorem Th.XJ(h:Th b n w d)(hb:b<10^38)(hn:n≤64)(hw:w≤300000):d.XJ:=by
 obtain⟨h1,h2⟩:=ZcO hb d h.g
 refine⟨Zfg d h.g,h1,Nat.le_trans h.dep hn, ?_⟩
 have:=PyData.shown_le 40 (by decide) _ h2
 have hw':=h.wt
 have:(40+2)*d.py.weight≤42*300000:=Nat.mul_le_mul (by decide) (Nat.le_trans hw' hw)
 rw[sizeLine_eq]
 omega
theorem G9:Th b (n+1) w (.tup xs)↔yq b n w xs:=by
 constructor
 ·rintro ⟨h1,h2,h3⟩
  rw[D.good]at h1
  rw[D.py,PyData.depth]at h2
  rw[D.py,PyData.weight]at h3
  exact⟨h1,by omega,h3⟩
 ·rintro ⟨h1,h2,h3⟩
  refine⟨by rw[D.good];exact h1, ?_, ?_⟩
  ·rw[D.py,PyData.depth];omega
  ·rw[D.py,PyData.weight];exact h3
theorem Zmf:Th b (n+1) w (.lst xs)↔yq b n w xs:=by
 constructor
 ·rintro ⟨h1,h2,h3⟩
  rw[D.good]at h1
  rw[D.py,PyData.depth]at h2
  rw[D.py,PyData.weight]at h3
  exact⟨h1,by omega,h3⟩
 ·rintro ⟨h1,h2,h3⟩
  refine⟨by rw[D.good];exact h1, ?_, ?_⟩
  ·rw[D.py,PyData.depth];omega
  ·rw[D.py,PyData.weight];exact h3
theorem Lh:yq b n 0 []:=⟨by rw[D.Mr],by rw[D.Gi,PyData.depthAll];exact Nat.zero_le _,by rw[D.Gi,PyData.weightAll];exact Nat.le_refl _⟩
theorem YQ(h1:Th b n w d)(h2:yq b n u xs):yq b n (w+1+u) (d::xs):=by
 refine⟨by rw[D.Mr,h1.g,h2.g];rfl, ?_, ?_⟩
 ·rw[D.Gi,PyData.depthAll];exact Nat.max_le.mpr ⟨h1.dep,h2.dep⟩
 ·rw[D.Gi,PyData.weightAll];have:=h1.wt;have:=h2.wt;omega
theorem GD:yq b n w (d::xs)↔ ∃w1 w2,w1+1+w2≤w∧Th b n w1 d∧yq b n w2 xs:=by
 constructor
 ·rintro ⟨h1,h2,h3⟩
  rw[D.Mr,Bool.and_eq_true]at h1
  rw[D.Gi,PyData.depthAll]at h2
  rw[D.Gi,PyData.weightAll]at h3
  exact⟨_,_,h3,⟨h1.1,(Nat.max_le.mp h2).1,Nat.le_refl _⟩,⟨h1.2,(Nat.max_le.mp h2).2,Nat.le_refl _⟩⟩
 ·rintro ⟨w1,w2,h,h1,h2⟩
  exact(YQ h1 h2).mono (Int.le_refl _) (Nat.le_refl _) h
theorem Zg8: ∀{xs:List D} {w:Nat},yq b n w xs→d∈xs→Th b n w d
 |[],w,h,hd=>by cases hd
 |x::xs,w,h,hd=>by
  obtain⟨w1,w2,e,g1,g2⟩:=GD.mp h
  rcases List.mem_cons.mp hd with rfl|hd
  ·exact g1.mono (Int.le_refl _) (Nat.le_refl _) (by omega)
  ·exact(Zg8 g2 hd).mono (Int.le_refl _) (Nat.le_refl _) (by omega)
theorem Zd4: ∀{xs:List D} {w:Nat},yq b n w xs→xs.length≤w
 |[],w,h=>Nat.zero_le _
 |x::xs,w,h=>by
  obtain⟨w1,w2,e,g1,g2⟩:=GD.mp h
  have:=Zd4 g2
  rw[List.length_cons];omega
theorem ZrR{i:Int}(h1: -b≤i)(h2:i≤b)(hb:b≤10^32):Th b n 120 (.int i):=by
 refine⟨?_, ?_, ?_⟩
 ·rw[D.good,decide_eq_true h1,decide_eq_true h2];rfl
 ·rw[D.py,PyData.depth];exact Nat.zero_le _
 ·rw[D.py,PyData.weight]
  split
  ·omega
  ·have:i.natAbs.log2<107:=log2_lt (Nat.lt_of_le_of_lt (show i.natAbs≤10^32 by omega) (by decide)) (by decide)
   omega
theorem yr{x:Str}(h:PyData.strOk x=true):Th b n x.length (.str x):=⟨by rw[D.good];exact h,by rw[D.py,PyData.depth];exact Nat.zero_le _,by rw[D.py,PyData.weight];exact Nat.le_refl _⟩
theorem Tr{x:Str}:Th b n w (.str x)→PyData.strOk x=true∧x.length≤w:=fun⟨h1,_,h3⟩=>⟨by rw[D.good]at h1;exact h1,by rw[D.py,PyData.weight]at h3;exact h3⟩
end
end Bk
namespace Bk
open PySem PySem.Spec PyProof.Rows L2
section
variable{e:Zq}{s:S}{R:Q1}{E:XQ}{i j:Nat}{d:D}{a b:Exp}{c t u:Xp}{D':Ru}{v w:Yh}
def kind:D→String
 | .non=> "NoneType"
 | .bl _=> "bool"
 | .int _=> "int"
 | .str _=> "str"
 | .lst _=> "list"
 | .tup _=> "tuple"
 | .U0 _=> "dict"
 |_=> ""
end
theorem WR{s:S}{q:Addr}{o:MO}:(s.put q o).mu q=some o:=if_pos rfl
theorem jx{s:S}{p q:Addr}{o:MO}(h:q≠p):(s.put p o).mu q=s.mu q:=if_neg h
theorem ql{s t:S}(h:Sub s t){q:Addr}(n:t.mu q=none):s.mu q=none:=by
 cases e:s.mu q with
 |none=>rfl
 |some o=>rw[h.mu q o e]at n;cases n
theorem atI_nat{α:Type}{xs:List α}{j:Nat}(h:j<xs.length):atI xs (j:Int)=xs[j]? :=by
 unfold atI ixN
 rw[if_pos (by omega),if_pos (by omega)];rfl
theorem ZrS(xs:List D)(k:Nat)(h:k≤xs.length):cutD xs none (some (k:Int))=xs.take k:=by
 unfold cutD
 rw[HT.sIx_none,HT.sIx_nat,List.drop_zero,Nat.sub_zero,Nat.min_eq_left h]
theorem zM(xs:List D)(k:Nat)(h:k≤xs.length):cutD xs (some (k:Int)) none=xs.drop k:=by
 unfold cutD
 rw[HT.sIx_none,HT.sIx_nat,Nat.min_eq_left h]
 exact List.take_of_length_le (by rw[List.length_drop];exact Nat.le_refl _)
end Bk
namespace Bk
open PySem PySem.Spec PyProof.Rows L2
mutual
def gB(K:PySem.W.Frag):D→Value→Bool
 | .non, .none=>true
 | .bl b, .bool c=>b==c
 | .int i, .int j _=>i==j
 | .str x, .str y _=>x==y
 | .tup ds, .ref a=>match K.lookup a with
   |some o=>(match o.cls,o.data with
    | .type n, .seq its _=>(n=="tuple")&&(decide (its.size≤10000)&&gsB K ds its.toList)
    |_,_=>false)
   |none=>false
 |_,_=>false
def gsB(K:PySem.W.Frag):List D→List Value→Bool
 |[],[]=>true
 |d::ds,v::vs=>gB K d v&&gsB K ds vs
 |_,_=>false
end
mutual
theorem Zmg{K:PySem.W.Frag}{T:Tb}: ∀{d:D} {u:Value},gB K d u=true→ ∃v,RelV v u∧ ∀F,Rep K T F d v
 | .non,u,h=>by
   unfold gB at h
   split at h<;>first|cases h|skip
   all_goals first|exact⟨.non,rfl,fun _=> .non⟩|(rename_i e;cases e)
 | .bl b,u,h=>by
   cases u<;>unfold gB at h<;>first|(cases h;done)|skip
   rename_i c
   have e:=eq_of_beq h
   subst e
   exact⟨.bl b,rfl,fun _=> .bl b⟩
 | .int i,u,h=>by
   cases u<;>unfold gB at h<;>first|(cases h;done)|skip
   rename_i j t
   have e:=eq_of_beq h
   subst e
   exact⟨.int i,⟨t,rfl⟩,fun _=> .int i⟩
 | .str x,u,h=>by
   cases u<;>unfold gB at h<;>first|(cases h;done)|skip
   rename_i j t
   have e:=eq_of_beq h
   subst e
   exact⟨.str x,⟨t,rfl⟩,fun _=> .str x⟩
 | .tup ds,u,h=>by
   cases u<;>unfold gB at h<;>first|(cases h;done)|skip
   rename_i a
   split at h
   ·rename_i o ho
    split at h
    ·rename_i n its m hc hd
     rw[Bool.and_eq_true,Bool.and_eq_true,decide_eq_true_eq]at h
     obtain⟨h1,h2,h3⟩:=h
     have e:=eq_of_beq h1
     subst e
     obtain⟨vs,hv,hr⟩:=ZjK h3
     exact⟨.ref a,rfl,fun F=> .tup (.inr ⟨o,its,m,ho,hc,hd,sz _ (by omega),hv⟩) (hr F)⟩
    ·cases h
   ·cases h
 | .lst _,u,h=>by unfold gB at h;cases h
 | .U0 _,u,h=>by unfold gB at h;cases h
 | .rf _,u,h=>by unfold gB at h;cases h
 | .U7 _,u,h=>by unfold gB at h;cases h
 | .exc _ _,u,h=>by unfold gB at h;cases h
 | .obj _ _,u,h=>by unfold gB at h;cases h
 | .clo _ _ _,u,h=>by unfold gB at h;cases h
 | .cls _,u,h=>by unfold gB at h;cases h
 | .j5 _,u,h=>by unfold gB at h;cases h
 | .ju _,u,h=>by unfold gB at h;cases h
theorem ZjK{K:PySem.W.Frag}{T:Tb}: ∀{ds:List D} {us:List Value},gsB K ds us=true→ ∃vs,Vals vs us∧ ∀F,Qw K T F ds vs
 |[],[],_=>⟨[], .nil,fun _=> .nil⟩
 |[],_::_,h=>by unfold gsB at h;cases h
 |_::_,[],h=>by unfold gsB at h;cases h
 |d::ds,u::us,h=>by
  unfold gsB at h
  rw[Bool.and_eq_true]at h
  obtain⟨v,h1,h2⟩:=Zmg h.1
  obtain⟨vs,h3,h4⟩:=ZjK h.2
  exact⟨v::vs, .cons h1 h3,fun F=> .cons (h2 F) (h4 F)⟩
end
section
variable{X:Cx}{T:Tb}{W:WX}{pos:Pos}{x:Str}
theorem ZjL{d:D}(hg:Gl X x)(hm: ∃u,X.mg x=some u∧gB X.K d u=true)(hd:(x==("__debug__" :Str))=false:=by decide):DX X T W (.Name x pos) (dC d):=by
 obtain⟨u,e,h⟩:=hm
 obtain⟨v,r,q⟩:=Zmg h
 exact ZdY hg e r q hd
end
end Bk
namespace Hk
open PySem PySem.Spec PyProof.Rows L2
def vA:Value→Addr
 | .ref a=>a
 |_=>0
def ZcP(K:PySem.W.Frag)(x:Str)(i:Int):Bool:=match PySem.W.nsIn K mainGlobals x with
 |some (some (.int j _))=>decide (j=i)
 |_=>false
theorem int_ok{K:PySem.W.Frag}{x:Str}{i:Int}(h:ZcP K x i=true): ∃t,PySem.W.nsIn K mainGlobals x=some (some (.int i t)):=by
 unfold ZcP at h
 split at h
 ·rename_i j t e
  rw[e,of_decide_eq_true h]
  exact⟨t,rfl⟩
 ·cases h
def Tt(K:PySem.W.Frag)(x z:Str):Bool:=match PySem.W.nsIn K mainGlobals x with
 |some (some (.str y _))=>decide (y=z)
 |_=>false
theorem str_ok{K:PySem.W.Frag}{x z:Str}(h:Tt K x z=true): ∃t,PySem.W.nsIn K mainGlobals x=some (some (.str z t)):=by
 unfold Tt at h
 split at h
 ·rename_i j t e
  rw[e,of_decide_eq_true h]
  exact⟨t,rfl⟩
 ·cases h
def tbB(K:PySem.W.Frag)(x:Str):Bool:=match PySem.W.tabIn K x with
 |some (_,P)=>(K.lookup P).isNone
 |none=>false
def tC(K:PySem.W.Frag)(x:Str):Addr:=match PySem.W.tabIn K x with
 |some (c,_)=>c
 |none=>0
def tP(K:PySem.W.Frag)(x:Str):Addr:=match PySem.W.tabIn K x with
 |some (_,P)=>P
 |none=>0
theorem ZqD{K:PySem.W.Frag}{x:Str}{a:Addr}{c:Value}{d:Option Addr}{fd:FuncData}{l:Array (Option Value)}(ha:PySem.W.nsIn K mainGlobals x=some (some (.ref a)))(e:K.lookup a=some ⟨c,d, .func fd,l⟩)(h:tbB K x=true):
  ∃(o:Value) (dd:Option Addr) (v:Array Value) (ll:Array (Option Value)),fd.code= .ref (tC K x)∧K.lookup (tC K x)=some ⟨o,dd, .fields v,ll⟩∧v[11]? =some (.ref (tP K x))∧K.lookup (tP K x)=none:=by
 unfold tbB at h
 cases et:PySem.W.tabIn K x with
 |none=>rw[et]at h;cases h
 |some q=>
  obtain⟨c2,P2⟩:=q
  have h1:tC K x=c2:=by unfold tC;rw[et]
  have h2:tP K x=P2:=by unfold tP;rw[et]
  rw[et]at h
  rw[h1,h2]
  unfold PySem.W.tabIn at et
  rw[ha]at et
  dsimp only at et
  rw[e]at et
  dsimp only at et
  split at et
  ·rename_i c3 e3
   split at et
   ·rename_i o dd v ll e4
    split at et
    ·rename_i P4 e5
     cases et
     exact⟨o,dd,v,ll,e3,e4,e5,Option.isNone_iff_eq_none.mp h⟩
    ·cases et
   ·cases et
  ·cases et
abbrev FV:Type:=Option (Str×Arguments×FuncBody×Scope×Addr×List Str×Value×Addr)
def dfN:Value→Value
 | .ref _=> .ellipsis
 |v=>v
theorem Zfh{v:Value}(h:dfN v= .none):v= .none:=by
 cases v with
 |ref a=>cases h
 |_=>exact h
def fV(K:PySem.W.Frag)(a:Addr):FV:=match K.lookup a with
 |some ⟨_,_, .func fd,_⟩=>some (fd.name,fd.params,fd.body,fd.scope,fd.globals,fd.closure.map (fun p=>p.1),dfN fd.defaults,fd.builtins)
 |_=>none
def Od(n:Str)(st:Stmt):FV:=some (n,defArgs st, .stmts (defBody st),defScope st,mainGlobals,[], .none,builtinsNs)
def inV(st:Stmt):FV:=some ("__init__",defArgs st, .stmts (defBody st),defScope st,mainGlobals,["__class__"], .none,builtinsNs)
def cdB(K:PySem.W.Frag)(a:Addr)(q:Str):Bool:=match K.lookup a with
 |some ⟨_,_, .func fd,_⟩=>decide (fd.qualname=q)&&PySem.W.codeIn K fd.code q
 |_=>false
theorem fn_ok{K:PySem.W.Frag}{a:Addr}{n q:Str}{st:Stmt}(e:fV K a=Od n st)(c:cdB K a q=true):
  ∃oc od osl kV doc pm an cdv ct,K.lookup a=some ⟨oc,od, .func (PySem.W.fnOf n q (defArgs st) (defBody st) (defScope st) .none kV doc pm an cdv ct),osl⟩∧PySem.W.codeIn K cdv q=true:=by
 unfold cdB at c
 unfold fV at e
 cases z:K.lookup a with
 |none=>
  rw[z]at c
  cases c
 |some o=>
  obtain⟨oc,od,dt,osl⟩:=o
  rw[z]at c e
  cases dt with
  |func fd=>
   obtain⟨n1,n2,n3,n4,n5,n6,n7,n8,n9,n10,n11,n12,n13,n14,n15⟩:=fd
   have e2:(some (n1,n3,n4,n5,n6,n7.map (fun p=>p.1),dfN n8,n15):FV)=Od n st:=e
   unfold Od at e2
   simp only[Option.some.injEq,Prod.mk.injEq,List.map_eq_nil_iff]at e2
   obtain⟨h1,h3,h4,h5,h6,h7,h8,h15⟩:=e2
   replace h8:=Zfh h8
   have c2:(decide (n2=q)&&PySem.W.codeIn K n13 q)=true:=c
   obtain⟨c3,c4⟩:=He.ba c2
   have h2:=of_decide_eq_true c3
   subst h1 h2 h3 h4 h5 h6 h7 h8 h15
   exact⟨oc,od,osl,n9,n10,n11,n12,n13,n14,rfl,c4⟩
  |_=>cases c
def xiB(K:PySem.W.Frag)(file:Str)(C a:Addr):Bool:=match K.lookup a with
 |some ⟨_,_, .func fd,_⟩=>PySem.W.codeIn K fd.code fd.qualname&&(match K.lookup (vA fd.code)with
   |some ⟨_,_, .fields vs,_⟩=>(match vs.toList with
    |_::_:: .str f _::_=>file==f
    |_=>false)
   |_=>false)&&(match fd.closure with
 |[(_,cc)]=>(match K.lookup cc with
    |some ⟨_,_, .cell (some v),_⟩=>decide (v= .ref C)
    |_=>false)
 |_=>false)
 |_=>false
theorem ZqE{K:PySem.W.Frag}{file:Str}{C a:Addr}{st:Stmt}(e:fV K a=inV st)(c:xiB K file C a=true):
  ∃(oc:Value) (od:Option Addr) (osl:Array (Option Value)) (q:Str) (kV doc pm:Value) (an:Option Addr) (cda:Addr) (ct:Value) (cc:Addr) (ccl:Value) (cdd:Option Addr) (vs:Array Value) (ccs:Array (Option Value)) (f:Str) (tf:Tok) (cl:Value) (cld:Option Addr) (csl:Array (Option Value)),
   K.lookup a=some ⟨oc,od, .func (PySem.W.ksFn "__init__" q (defArgs st) (defBody st) (defScope st) .none kV doc pm an (.ref cda) ct cc),osl⟩∧PySem.W.codeIn K (.ref cda) q=true∧K.lookup cda=some ⟨ccl,cdd, .fields vs,ccs⟩∧vs[2]? =some (.str f tf)∧(file==f)=true∧K.lookup cc=some ⟨cl,cld, .cell (some (.ref C)),csl⟩:=by
 unfold xiB at c
 unfold fV at e
 cases z:K.lookup a with
 |none=>
  rw[z]at c
  cases c
 |some o=>
  obtain⟨oc,od,dt,osl⟩:=o
  rw[z]at c e
  cases dt with
  |func fd=>
   obtain⟨n1,n2,n3,n4,n5,n6,n7,n8,n9,n10,n11,n12,n13,n14,n15⟩:=fd
   have e2:(some (n1,n3,n4,n5,n6,n7.map (fun p=>p.1),dfN n8,n15):FV)=inV st:=e
   unfold inV at e2
   simp only[Option.some.injEq,Prod.mk.injEq]at e2
   obtain⟨h1,h3,h4,h5,h6,h7,h8,h15⟩:=e2
   replace h8:=Zfh h8
   obtain⟨c0,c3⟩:=He.ba c
   obtain⟨c1,c2⟩:=He.ba c0
   dsimp only at c1 c2 c3
   have h13:n13= .ref (vA n13):=by
    cases n13 with
    |ref c=>rfl
    |_=>cases c1
   match n7,h7,c3 with
   |[(nm,cc)],h7,c3=>
    have hn:nm="__class__" :=(List.cons.inj h7).1
    subst h1 h3 h4 h5 h6 h8 h15 hn
    dsimp only at c3
    split at c3
    ·rename_i cl cld v csl ecc
     have hv:=of_decide_eq_true c3
     subst hv
     split at c2
     ·rename_i ccl cdd vs ccs ecd
      split at c2
      ·rename_i v0 v1 f tf r ev
       refine⟨oc,od,osl,n2,n9,n10,n11,n12,vA n13,n14,cc,ccl,cdd,vs,ccs,f,tf,cl,cld,csl, ?_, ?_,ecd, ?_,c2,ecc⟩
       ·rw[←h13]<;>rfl
       ·rw[←h13];exact c1
       ·rw[←Array.getElem?_toList,ev]<;>rfl
      ·cases c2
     ·cases c2
    ·cases c3
  |_=>cases c
def Zuo(o:Obj):List Addr:=match o.data with
 | .seq its _=>its.toList.flatMap He.refV
 | .dict es _=>es.toList.flatMap fun e=>He.refV e.val
 | .func fd=>He.refV fd.code++(He.refV fd.kwdefaults++(He.refV fd.defaults++fd.closure.map fun p=>p.2))
 | .cls cd=>cd.ns::cd.mro.flatMap He.refV
 | .fields vs=>(match o.cls with
   | .type t=>(match t=="classmethod" ||t=="property" with
     |true=>vs.toList.flatMap He.refV
     |false=>[])
   |_=>[])
 |_=>[]
def Zup(g:Addr→Option Obj)(a:Addr):List Addr:=match g a with
 |some o=>Zuo o
 |none=>[]
def frL{α:Type}(l:List Nat)(k:List Nat→α):α:=match l with
 |[]=>k []
 |a::r=>HandSHeadRun.frNat a fun a=>frL r fun r=>k (a::r)
theorem Zg9{α:Type}: ∀(l:List Nat) (k:List Nat→α),frL l k=k l
 |[],k=>rfl
 |a::r,k=>by
  show HandSHeadRun.frNat a (fun a=>frL r fun r=>k (a::r))=_
  rw[HandSHeadRun.frNat_eq,Zg9 r]
def Zoz(acc:List Nat):List Nat→List Nat→List Nat
 |[],out=>out
 |a::r,out=>match acc.contains a||out.contains a with
  |true=>Zoz acc r out
  |false=>Zoz acc r (a::out)
def grow(g:Addr→Option Obj):Nat→List Nat→List Nat→List Nat
 |0,acc,_=>acc
 |n+1,acc,fr=>frL (Zoz acc (fr.flatMap (Zup g)) []) fun nw=>frL (acc++nw) fun acc=>grow g n acc nw
def roots(K:PySem.W.Frag)(xs:List Str):List Nat:=xs.map fun x=>He.ga K x
def adr(xs:List Str)(n:Nat)(g:Addr→Option Obj):List Nat:=frL (Zoz [mainGlobals,cStatics] (roots (He.frG g [mainGlobals]) xs) []) fun rs=>grow g n (mainGlobals::cStatics::rs) rs
def frF{α:Type}(g:Addr→Option Obj)(l:List Nat)(k:PySem.W.Frag→α):α:=match l with
 |[]=>k []
 |a::r=>match g a with
  |some ⟨c,d,dt,sl⟩=>frF g r fun K=>k ((a,⟨c,d,dt,sl⟩)::K)
  |none=>frF g r k
theorem ZcQ{α:Type}(g:Addr→Option Obj): ∀(l:List Nat) (k:PySem.W.Frag→α),frF g l k=k (He.frG g l)
 |[],k=>rfl
 |a::r,k=>by
  have e:He.frG g (a::r)=(match g a with|some o=>(a,o)::He.frG g r|none=>He.frG g r):=by
   unfold He.frG
   rw[List.filterMap_cons]
   cases g a<;>rfl
  rw[e]
  unfold frF
  cases g a with
  |none=>exact ZcQ g r k
  |some o=>exact ZcQ g r _
structure Ck where
 ok:PySem.W.Frag→Bool
 ad:PySem.W.Frag→List Addr
 vs:List FV
def lV(K:PySem.W.Frag):List Addr→List FV
 |[]=>[]
 |a::r=>fV K a::lV K r
abbrev Al:Type:=Bool×List FV
def ZoA(c:Ck)(K:PySem.W.Frag):Al:=(c.ok K,lV K (c.ad K))
def ZkN(c:Ck)(K:PySem.W.Frag):Prop:=ZoA c K=(true,c.vs)
def obsG(c:Ck)(xs:List Str)(n:Nat)(g:Addr→Option Obj):Al:=frL (adr xs n g) fun l=>frF g l fun K=>ZoA c K
theorem obsG_eq(c:Ck)(xs:List Str)(n:Nat)(g:Addr→Option Obj):obsG c xs n g=ZoA c (He.frG g (adr xs n g)):=by
 unfold obsG
 rw[Zg9,ZcQ]
def hook(c:Ck)(xs:List Str)(n:Nat):PySem.W.Hook where
 α:=Al
 obs:=fun s=>obsG c xs n s.heap.get?
 val:=fun _=>(true,c.vs)
 says:=fun _ h=> ∃K:PySem.W.Frag,K.In h∧ZkN c K
 of:=fun _ s e=>⟨_,He.frG_in,(obsG_eq c xs n s.heap.get?).symm.trans e⟩
 keeps:=fun _ _ _ ⟨K,hK,c⟩ k=>⟨K,PySem.W.Frag.In.keeps hK k,c⟩
def ob(c:Ck)(xs:List Str)(n:Nat)(s:PySem.W.SharedT):Al:=obsG c xs n (HandSHeadRun.getT s)
theorem Zuq(c:Ck)(xs:List Str)(n:Nat)(s:PySem.W.SharedT):ob c xs n s=(hook c xs n).obs s.abs:=by
 have e:HandSHeadRun.getT s=s.abs.heap.get? :=funext (HandSHeadRun.getT_eq s)
 show obsG c xs n (HandSHeadRun.getT s)=obsG c xs n s.abs.heap.get?
 rw[e]
def obP{α:Type}(F:PySem.W.Frag→α)(xs:List Str)(n:Nat)(s:PySem.W.SharedT):α:=frL (adr xs n (HandSHeadRun.getT s)) fun l=>frF (HandSHeadRun.getT s) l F
theorem Zmj{α:Type}(F:PySem.W.Frag→α)(xs:List Str)(n:Nat)(s:PySem.W.SharedT):obP F xs n s=F (He.frG (HandSHeadRun.getT s) (adr xs n (HandSHeadRun.getT s))):=by
 unfold obP
 rw[Zg9,ZcQ]
noncomputable abbrev ZcR (r:PySem.W.OpenRow) (M:Nat) (w:World) (os:OsState):Option PySem.W.SharedT:=HandSHeadRun.endF (HandSHeadRun.stepQ (HandSHeadRun.denQ HandSHeadRun.tabQ) r.prog w) M r.prog w os
open PySem.W PySem.Calls in
theorem ZrU{r:PySem.W.OpenRow}{q:Program}{c:Ck}{xs:List Str}{n M:Nat}{loose:List PySem.Str}{w:World}{Fs:List (PySem.W.Frag→Bool)}(hk: ∀K,c.ok K=Fs.all fun F=>F K)
  (h1: ∀os,(ZcR r M w os).map (fun s=>(HandSHeadRun.looksF r.prog (boot_heap w.params) s.abs,HandSHeadRun.seenQ q loose (importedModules r.prog.main.body) (fun s=>PySem.W.xlAt q [] s&&PySem.W.recOk r.toRowW.records s) s.abs))=some (true,PySem.W.openGood q loose))
  (h2: ∀F∈Fs,∀os,(ZcR r M w os).map (fun s=>obP F xs n s)=some true) (h3: ∀os,(ZcR r M w os).map (fun s=>obP (fun K=>lV K (c.ad K)) xs n s)=some c.vs):HandSHeadRun.RunEq r q (hook c xs n) (ob c xs n) M loose w:=by
 intro os
 have e1:=h1 os
 have e3:=h3 os
 have e2:=fun F hF=>h2 F hF os
 show(ZcR r M w os).map _=_
 cases hE:ZcR r M w os with
 |none=>rw[hE]at e1;cases e1
 |some s=>
  rw[hE]at e1 e3
  obtain⟨a1,a2⟩:=Prod.mk.inj (Option.some.inj e1)
  have a3:obP (fun K=>lV K (c.ad K)) xs n s=c.vs:=Option.some.inj e3
  have a4:c.ok (He.frG (HandSHeadRun.getT s) (adr xs n (HandSHeadRun.getT s)))=true:=by
   rw[hk,List.all_eq_true]
   intro F hF
   have e:=e2 F hF
   rw[hE]at e
   have e':obP F xs n s=true:=Option.some.inj e
   rw[Zmj]at e'
   exact e'
  rw[Zmj]at a3
  have a5:ob c xs n s=(true,c.vs):=by
   unfold ob
   rw[obsG_eq]
   unfold ZoA
   rw[a4,a3]
  refine congrArg some (Prod.ext a1 (Prod.ext a2 ?_))
  exact a5
theorem pick{l:List Bool}(h:l.all id=true)(i:Nat){b:Bool}(e:l[i]? =some b):b=true:=List.all_eq_true.mp h b (List.mem_of_getElem? e)
theorem Yc{c:Ck}{K:PySem.W.Frag}(h:ZkN c K)(i:Nat){a:Addr}{v:FV}(e:(c.ad K)[i]? =some a)(ev:c.vs[i]? =some v):fV K a=v:=by
 have h2:lV K (c.ad K)=c.vs:=congrArg (fun z:Al=>z.2) h
 have h3: ∀l:List Addr,lV K l=l.map (fV K):=fun l=>by
  induction l with
  |nil=>rfl
  |cons b r ih=>show fV K b::lV K r=_;rw[ih];rfl
 rw[h3]at h2
 have h4:((c.ad K).map (fV K))[i]? =c.vs[i]? :=by rw[h2]
 rw[List.getElem?_map,e,ev]at h4
 exact Option.some.inj h4
theorem okS{c:Ck}{K:PySem.W.Frag}(h:ZkN c K):c.ok K=true:=congrArg (fun z:Al=>z.1) h
end Hk
namespace Hk
open PySem PySem.Spec PyProof.Rows L2
def dB(K:PySem.W.Frag)(n:Str):Bool:=He.eqO (PySem.W.nsIn K mainGlobals n) (some (some (.ref (He.ga K n))))&&(cdB K (He.ga K n) n&&PySem.W.keepIn K (.ref (He.ga K n)))
end Hk
namespace Bk
open PySem PySem.Spec PyProof.Rows L2
end Bk
namespace Bk.Gk
open PySem PySem.Spec PyProof.Rows L2
abbrev kn:List Str:=["BadFormula","BadText"]
abbrev ms:List Str:=["BadCells","BadFormula","BadProgram","Twice","BadStanding","BadWeaving","BadNode","BadPaper","BadText","BadNumber","Missing","TooMany","KeptError"]
abbrev fs:List Str:=["place","name","value","line","most"]
def VJ(i:Nat):Stmt:=PySem.Challenge.pw_bothkept_k34_whole_formula_texts.main.body.getD i (.Pass ⟨0,0,0,0⟩)
abbrev Tv:Stmt:=VJ 22
abbrev RW:Stmt:=VJ 23
abbrev qm:Stmt:=VJ 24
abbrev Ht:Stmt:=VJ 25
abbrev U9:Stmt:=VJ 26
abbrev Xr:Stmt:=VJ 27
abbrev fQ:Stmt:=VJ 28
abbrev Cv:Stmt:=VJ 29
abbrev Ms:Stmt:=VJ 33
abbrev Xu:Stmt:=VJ 34
abbrev Nb:Stmt:=VJ 35
abbrev Xv:Stmt:=VJ 36
abbrev Tw:Stmt:=VJ 37
abbrev fU:Stmt:=VJ 38
abbrev RX:Stmt:=VJ 39
abbrev Ce:Stmt:=VJ 40
abbrev Cy:Stmt:=VJ 41
abbrev Xw:Stmt:=VJ 43
abbrev Tz:Stmt:=VJ 44
abbrev Ox:Stmt:=VJ 45
abbrev Xx:Stmt:=VJ 46
abbrev El:Stmt:=VJ 47
abbrev TJ:Stmt:=VJ 48
abbrev LC:Stmt:=VJ 49
abbrev Cz:Stmt:=VJ 52
abbrev LK:Stmt:=VJ 53
abbrev Ge:Stmt:=VJ 54
abbrev Ba:Stmt:=VJ 55
abbrev Xm:Stmt:=VJ 56
abbrev Gf:Stmt:=VJ 57
abbrev NQ:Stmt:=VJ 58
abbrev Ub:Stmt:=VJ 59
abbrev Bb:Stmt:=VJ 61
abbrev CG:Stmt:=VJ 62
abbrev NT:Stmt:=VJ 63
abbrev Em:Stmt:=VJ 64
abbrev Gu:Stmt:=VJ 65
abbrev Oe:Stmt:=VJ 66
abbrev Jw:Stmt:=VJ 67
abbrev Rz:Stmt:=VJ 68
abbrev Uo:Stmt:=ZqB (VJ 3)
abbrev Og:Stmt:=ZqB (VJ 10)
abbrev RR:PySem.W.OpenRow:=PySem.W.OpenLaw.row PySem.Challenge.rw_bothkept_k34_whole_formula_texts
abbrev qv:Program:=PySem.W.view RR.prog [67,68]
abbrev fl:Str:=(PySem.Challenge.rw_bothkept_k34_whole_formula_texts).prog.main.file
def g0(K:PySem.W.Frag):List Bool:=[Hk.dB K "is_among",
 Hk.dB K "is_name",
 Hk.dB K "is_row",
 Hk.dB K "names_of",
 Hk.dB K "are_in_order",
 Hk.dB K "are_terms",
 Hk.dB K "is_test",
 Hk.dB K "need_formula",
 Hk.dB K "terms_text",
 Hk.dB K "case_text",
 Hk.dB K "formula_text",
 Hk.dB K "number_in",
 Hk.dB K "terms_in",
 Hk.dB K "test_in",
 Hk.dB K "case_in",
 Hk.dB K "formula_in",
 Hk.dB K "read_formula",
 Hk.dB K "_law_begun",
 Hk.dB K "_law_next",
 Hk.dB K "_law_names",
 Hk.dB K "_law_cells",
 Hk.dB K "_law_terms",
 Hk.dB K "_law_test",
 Hk.dB K "_law_formula",
 Hk.dB K "_law_is_whole",
 Hk.dB K "_law_is_name",
 Hk.dB K "_law_in_order",
 Hk.dB K "_law_are_terms",
 Hk.dB K "_law_is_test",
 Hk.dB K "_law_formula_fault",
 Hk.dB K "_law_terms_text",
 Hk.dB K "_law_formula_text",
 Hk.dB K "_law_number_in",
 Hk.dB K "_law_terms_in",
 Hk.dB K "_law_formula_in",
 Hk.dB K "_law_kinds",
 Hk.dB K "_law_told",
 Hk.dB K "_law_bent_text",
 He.eqO (PySem.W.nsIn K mainGlobals "_law_known_right") (some (some (.ref (He.ga K "_law_known_right")))),
 Hk.cdB K (He.ga K "_law_known_right") "_law_known_right"]
def g1(K:PySem.W.Frag):List Bool:=[PySem.W.keepIn K (.ref (He.ga K "_law_known_right")),
 Hk.tbB K "_law_known_right",
 He.eqO (PySem.W.nsIn K mainGlobals "law") (some (some (.ref (He.ga K "law")))),
 Hk.cdB K (He.ga K "law") "law",
 PySem.W.keepIn K (.ref (He.ga K "law")),
 Hk.tbB K "law",
 decide ((Hk.tP K "_law_known_right")≠(Hk.tP K "law")),
 He.eqO (PySem.W.nsIn K mainGlobals "abs") (some none),
 He.eqO (PySem.W.nsIn K mainGlobals "all") (some none),
 He.eqO (PySem.W.nsIn K mainGlobals "bool") (some none),
 He.eqO (PySem.W.nsIn K mainGlobals "enumerate") (some none),
 He.eqO (PySem.W.nsIn K mainGlobals "int") (some none),
 He.eqO (PySem.W.nsIn K mainGlobals "isinstance") (some none),
 He.eqO (PySem.W.nsIn K mainGlobals "len") (some none),
 He.eqO (PySem.W.nsIn K mainGlobals "list") (some none),
 He.eqO (PySem.W.nsIn K mainGlobals "min") (some none),
 He.eqO (PySem.W.nsIn K mainGlobals "range") (some none),
 He.eqO (PySem.W.nsIn K mainGlobals "repr") (some none),
 He.eqO (PySem.W.nsIn K mainGlobals "str") (some none),
 He.eqO (PySem.W.nsIn K mainGlobals "tuple") (some none),
 eaB K kn ms fs,
 Ca K "BadCells",
 Ca K "BadFormula",
 Ca K "BadNode",
 Ca K "BadNumber",
 Ca K "BadPaper",
 Ca K "BadProgram",
 Ca K "BadStanding",
 Ca K "BadText",
 Ca K "BadWeaving",
 Ca K "KeptError",
 Ca K "Missing",
 Ca K "TooMany",
 Ca K "Twice",
 He.eqO (PySem.W.nsIn K mainGlobals "BadFormula") (some (some (.ref (He.ga K "BadFormula")))),
 exB K (He.ga K "BadFormula") "place" "ValueError" "ValueError.__new__" "ValueError.__init__" [.type "ValueError", .type "Exception", .type "BaseException", .type "object"],
 He.eqO (PySem.W.findIn K (.ref (He.ga K "BadFormula")) "__init__") (some (some (.ref (He.ma K (He.ga K "BadFormula") "__init__")))),
 PySem.W.isFn K (.ref (He.ma K (He.ga K "BadFormula") "__init__")),
 Hk.xiB K fl (He.ga K "BadFormula") (He.ma K (He.ga K "BadFormula") "__init__"),
 He.eqO (PySem.W.nsIn K mainGlobals "BadText") (some (some (.ref (He.ga K "BadText"))))]
def g2(K:PySem.W.Frag):List Bool:=[exB K (He.ga K "BadText") "line" "ValueError" "ValueError.__new__" "ValueError.__init__" [.type "ValueError", .type "Exception", .type "BaseException", .type "object"],
 He.eqO (PySem.W.findIn K (.ref (He.ga K "BadText")) "__init__") (some (some (.ref (He.ma K (He.ga K "BadText") "__init__")))),
 PySem.W.isFn K (.ref (He.ma K (He.ga K "BadText") "__init__")),
 Hk.xiB K fl (He.ga K "BadText") (He.ma K (He.ga K "BadText") "__init__"),
 Hk.Tt K "FIGURES" "0123456789",
 Hk.Tt K "LETTERS" "abcdefghijklmnopqrstuvwxyz",
 Hk.ZcP K "MOST_CASES" 4,
 Hk.ZcP K "MOST_CELLS" 4,
 Hk.ZcP K "MOST_FACTOR" 9,
 Hk.ZcP K "MOST_FIGURES" 2,
 Hk.ZcP K "MOST_NUMBER" 99,
 Hk.ZcP K "MOST_TESTS" 4,
 He.eqO (PySem.W.nsIn K mainGlobals "OPS") (some (some (.ref (He.ga K "OPS")))),
 gB K (.tup [(.str "="),(.str "!="),(.str "<"),(.str "<="),(.str ">"),(.str ">=")]) (.ref (He.ga K "OPS"))]
def q0(K:PySem.W.Frag):Bool:=(g0 K).all id&&((g1 K).all id&&((g2 K).all id&&(true)))
def gA(K:PySem.W.Frag):Bool:=q0 K&&(true)
def gd0(K:PySem.W.Frag):List Addr:=[(He.ga K "is_among"),(He.ga K "is_name"),(He.ga K "is_row"),(He.ga K "names_of"),(He.ga K "are_in_order"),(He.ga K "are_terms"),(He.ga K "is_test"),(He.ga K "need_formula"),(He.ga K "terms_text"),(He.ga K "case_text"),(He.ga K "formula_text"),(He.ga K "number_in"),(He.ga K "terms_in"),(He.ga K "test_in"),(He.ga K "case_in"),(He.ga K "formula_in"),(He.ga K "read_formula"),(He.ga K "_law_begun"),(He.ga K "_law_next"),(He.ga K "_law_names"),(He.ga K "_law_cells"),(He.ga K "_law_terms"),(He.ga K "_law_test"),(He.ga K "_law_formula"),(He.ga K "_law_is_whole"),(He.ga K "_law_is_name"),(He.ga K "_law_in_order"),(He.ga K "_law_are_terms"),(He.ga K "_law_is_test"),(He.ga K "_law_formula_fault"),(He.ga K "_law_terms_text"),(He.ga K "_law_formula_text"),(He.ga K "_law_number_in"),(He.ga K "_law_terms_in"),(He.ga K "_law_formula_in")]
def gd1(K:PySem.W.Frag):List Addr:=[(He.ga K "_law_kinds"),(He.ga K "_law_told"),(He.ga K "_law_bent_text"),(He.ga K "_law_known_right"),(He.ga K "law"),(He.ma K (He.ga K "BadFormula") "__init__"),(He.ma K (He.ga K "BadText") "__init__")]
def gd(K:PySem.W.Frag):List Addr:=gd0 K++(gd1 K)
def gv0:List Hk.FV:=[Hk.Od "is_among" Tv,Hk.Od "is_name" RW,Hk.Od "is_row" qm,Hk.Od "names_of" Ht,Hk.Od "are_in_order" U9,Hk.Od "are_terms" Xr,Hk.Od "is_test" fQ,Hk.Od "need_formula" Cv,Hk.Od "terms_text" Ms,Hk.Od "case_text" Xu,Hk.Od "formula_text" Nb,Hk.Od "number_in" Xv,Hk.Od "terms_in" Tw,Hk.Od "test_in" fU,Hk.Od "case_in" RX,Hk.Od "formula_in" Ce,Hk.Od "read_formula" Cy,Hk.Od "_law_begun" Xw,Hk.Od "_law_next" Tz,Hk.Od "_law_names" Ox,Hk.Od "_law_cells" Xx,Hk.Od "_law_terms" El,Hk.Od "_law_test" TJ,Hk.Od "_law_formula" LC,Hk.Od "_law_is_whole" Cz,Hk.Od "_law_is_name" LK,Hk.Od "_law_in_order" Ge,Hk.Od "_law_are_terms" Ba,Hk.Od "_law_is_test" Xm,Hk.Od "_law_formula_fault" Gf,Hk.Od "_law_terms_text" NQ,Hk.Od "_law_formula_text" Ub,Hk.Od "_law_number_in" Bb,Hk.Od "_law_terms_in" CG,Hk.Od "_law_formula_in" NT]
def gv1:List Hk.FV:=[Hk.Od "_law_kinds" Em,Hk.Od "_law_told" Gu,Hk.Od "_law_bent_text" Oe,Hk.Od "_law_known_right" Jw,Hk.Od "law" Rz,Hk.inV Uo,Hk.inV Og]
def gv:List Hk.FV:=gv0++gv1
def ck:Hk.Ck:=⟨gA,gd,gv⟩
def nm0:List Str:=[Str.ofString "__name__",Str.ofString "KeptError",Str.ofString "BadCells",Str.ofString "BadFormula",Str.ofString "BadProgram",Str.ofString "Twice",Str.ofString "BadStanding",Str.ofString "BadWeaving",Str.ofString "BadNode",Str.ofString "BadPaper",Str.ofString "BadText",Str.ofString "BadNumber",Str.ofString "Missing",Str.ofString "TooMany",Str.ofString "MOST_CELLS",Str.ofString "MOST_FACTOR",Str.ofString "MOST_NUMBER",Str.ofString "MOST_CASES",Str.ofString "MOST_TESTS",Str.ofString "LETTERS",Str.ofString "OPS",Str.ofString "is_among",Str.ofString "is_name",Str.ofString "is_row",Str.ofString "names_of",Str.ofString "are_in_order",Str.ofString "are_terms",Str.ofString "is_test",Str.ofString "need_formula",Str.ofString "FIGURES",Str.ofString "MOST_FIGURES",Str.ofString "terms_text",Str.ofString "case_text",Str.ofString "formula_text",Str.ofString "number_in"]
def nm1:List Str:=[Str.ofString "terms_in",Str.ofString "test_in",Str.ofString "case_in",Str.ofString "formula_in",Str.ofString "read_formula",Str.ofString "_law_begun",Str.ofString "_law_next",Str.ofString "_law_names",Str.ofString "_law_cells",Str.ofString "_law_terms",Str.ofString "_law_test",Str.ofString "_law_formula",Str.ofString "_law_odd",Str.ofString "_law_bent",Str.ofString "_law_is_whole",Str.ofString "_law_is_name",Str.ofString "_law_in_order",Str.ofString "_law_are_terms",Str.ofString "_law_is_test",Str.ofString "_law_formula_fault",Str.ofString "_law_terms_text",Str.ofString "_law_formula_text",Str.ofString "_law_lines",Str.ofString "_law_number_in",Str.ofString "_law_terms_in",Str.ofString "_law_formula_in",Str.ofString "_law_kinds",Str.ofString "_law_told",Str.ofString "_law_bent_text"]
def nm:List Str:=nm0++nm1
def xs0:List Str:=[Str.ofString "is_among",Str.ofString "is_name",Str.ofString "is_row",Str.ofString "names_of",Str.ofString "are_in_order",Str.ofString "are_terms",Str.ofString "is_test",Str.ofString "need_formula",Str.ofString "terms_text",Str.ofString "case_text",Str.ofString "formula_text",Str.ofString "number_in",Str.ofString "terms_in",Str.ofString "test_in",Str.ofString "case_in",Str.ofString "formula_in",Str.ofString "read_formula",Str.ofString "_law_begun",Str.ofString "_law_next",Str.ofString "_law_names",Str.ofString "_law_cells",Str.ofString "_law_terms",Str.ofString "_law_test",Str.ofString "_law_formula",Str.ofString "_law_is_whole",Str.ofString "_law_is_name",Str.ofString "_law_in_order",Str.ofString "_law_are_terms",Str.ofString "_law_is_test",Str.ofString "_law_formula_fault",Str.ofString "_law_terms_text",Str.ofString "_law_formula_text",Str.ofString "_law_number_in",Str.ofString "_law_terms_in",Str.ofString "_law_formula_in"]
def xs1:List Str:=[Str.ofString "_law_kinds",Str.ofString "_law_told",Str.ofString "_law_bent_text",Str.ofString "_law_known_right",Str.ofString "law",Str.ofString "BadCells",Str.ofString "BadFormula",Str.ofString "BadNode",Str.ofString "BadNumber",Str.ofString "BadPaper",Str.ofString "BadProgram",Str.ofString "BadStanding",Str.ofString "BadText",Str.ofString "BadWeaving",Str.ofString "KeptError",Str.ofString "Missing",Str.ofString "TooMany",Str.ofString "Twice",Str.ofString "OPS"]
def xs:List Str:=xs0++xs1
open PySem.W PySem.Calls in
theorem Zur(w:World): ∀os,(Hk.ZcR RR 12000 w os).map (fun s=>(HandSHeadRun.looksF RR.prog (boot_heap w.params) s.abs,HandSHeadRun.seenQ qv nm (importedModules RR.prog.main.body) (fun s=>PySem.W.xlAt qv [] s&&PySem.W.recOk RR.toRowW.records s) s.abs))=some (true,PySem.W.openGood qv nm):=by
 intro os
 kernel_rfl
theorem ZrV(w:World): ∀os,(Hk.ZcR RR 12000 w os).map (fun s=>Hk.obP q0 xs 7 s)=some true:=by
 intro os
 kernel_rfl
theorem Zus(w:World): ∀os,(Hk.ZcR RR 12000 w os).map (fun s=>Hk.obP (fun K=>Hk.lV K (ck.ad K)) xs 7 s)=some ck.vs:=by
 intro os
 kernel_rfl
theorem run(w:World):HandSHeadRun.RunEq RR qv (Hk.hook ck xs 7) (Hk.ob ck xs 7) 12000 nm w:=Hk.ZrU (Fs:=[q0]) (fun _=>rfl) (Zur w) (fun F hF=>by
 simp only[List.mem_cons,List.not_mem_nil,or_false]at hF
 rcases hF with rfl
 ·exact ZrV w) (Zus w)
open PySem.W PySem.Calls in
theorem p_e:opening RR.prog=plainProg RR.prog.main.scope.names:=by kernel_rfl
open PySem.W PySem.Calls in
theorem p_f: ∀s,fenceModules? RR.prog s=some s:=fun _=>by kernel_rfl
theorem p_d:PySem.W.defOf qv RR.name=some (HandSHeadRun.topDef RR.prog 68,[]):=by kernel_rfl
theorem p_p:RR.prog.theDef RR.name=some ((HandSHeadRun.topDef RR.prog 68).params,(HandSHeadRun.topDef RR.prog 68).body,(HandSHeadRun.topDef RR.prog 68).scope):=by kernel_rfl
theorem p_k:(!RR.writes||RR.records.isEmpty)=true:=by kernel_rfl
theorem p_b:RR.prog.bare:=by refine⟨?_, ?_, ?_, ?_, ?_, ?_⟩<;>kernel_rfl
end Bk.Gk
namespace Bk
open PySem PySem.Spec PyProof.Rows L2
section
variable{X:Cx}{T:Tb}
theorem ZrW(hu:X.A.units+64<cLine):OpR X (compareOp .NotEq) (fun x y H Q=> ∃a b xs,x= .ref a∧y= .ref b∧SqL X.K H a xs∧SqL X.K H b []∧Q (.bl (!xs.isEmpty)) H):=by
 intro pins s σ H x y v u Q I rx ry h
 obtain⟨a,b,xs,rfl,rfl,h1,h2,q⟩:=h
 cases rx;cases ry
 obtain⟨its,rv,p1,_⟩:=I.list h1
 obtain⟨jts,rw',p2,_⟩:=I.list h2
 cases rw'
 cases xs with
 |nil=>
  cases rv
  have key:=SeqAt.RcNeAt.lists (A:=X.A) (s:=s) (l:=a) (b:=b) (e:=fun _=>true) p1.isList p2.isList rfl (by omega) (fun j h=>by simp at h)
  exact key X.prog X.w _ _ ⟨.bl _,H,I,rfl,q⟩
 |cons z zs=>
  have key:=SeqAt.RcNeAt.lists_lengths (A:=X.A) (s:=s) (l:=a) (b:=b) p1.isList p2.isList (by cases rv with|cons _ _=>simp) (by omega)
  exact key X.prog X.w _ _ ⟨.bl _,H,I,rfl,q⟩
def Zbf:G2:=fun x y s R=>match x,y with
 | .lst xs, .lst []=>R (.bl (!xs.isEmpty)) s
 |_,_=>False
theorem yt(hu:X.A.units+64<cLine):IV X T (compareOp .NotEq) Zbf:= .of (ZrW hu) fun F s H x y vx vy R Q hh rx ry hg post=>by
 unfold Zbf at hg
 split at hg
 ·cases rx with|lst l1 r1=>cases ry with|lst l2 r2=>
   cases r2
   rename_i xs _ vs _
   refine⟨_,_,vs,rfl,rfl,SqL.of (hh.sub _ _ l1),SqL.of (hh.sub _ _ l2), ?_⟩
   have e:vs.isEmpty=xs.isEmpty:=by cases r1<;>rfl
   rw[e]
   exact post _ s _ H F hg Ext.refl hh (.bl _)
 ·exact hg.elim
end
end Bk
namespace Bk
open PySem PySem.Spec PyProof.Rows L2
inductive Rs(α:Type) where
 |ok (a:α)
 |ex (x:Ex)
 |no
section
variable{α β:Type}
def Rs.bind:Rs α→(α→Rs β)→Rs β
 | .ok a,f=>f a
 | .ex x,_=> .ex x
 | .no,_=> .no
def Rs.run:Rs α→(α→Prop)→(Ex→Prop)→Prop
 | .ok a,R,_=>R a
 | .ex x,_,E=>E x
 | .no,_,_=>False
def Rs.calm:Rs α→Rs α
 | .ok a=> .ok a
 | .ex _=> .no
 | .no=> .no
def Rs.opt:Option α→Rs α
 |some a=> .ok a
 |none=> .no
def asB:D→Rs Bool
 | .bl b=> .ok b
 |_=> .no
section
variable{a:α}{x:Ex}{f:α→Rs β}{R:α→Prop}{E:Ex→Prop}{b:Bool}
@[simp] theorem Bw:(Rs.ok a).bind f=f a:=rfl
@[simp] theorem Zwb:(Rs.ex x:Rs α).bind f= .ex x:=rfl
@[simp] theorem Zwc:(Rs.no:Rs α).bind f= .no:=rfl
@[simp] theorem Zmk:(Rs.ok a).run R E=R a:=rfl
@[simp] theorem ZxR:(Rs.ex x:Rs α).run R E=E x:=rfl
@[simp] theorem ZxS:(Rs.no:Rs α).run R E=False:=rfl
@[simp] theorem Zpy:(Rs.ok a).calm= .ok a:=rfl
@[simp] theorem Zwd:(Rs.ex x:Rs α).calm= .no:=rfl
@[simp] theorem Zwe:(Rs.no:Rs α).calm= .no:=rfl
@[simp] theorem Hq:Rs.opt (some a)= .ok a:=rfl
@[simp] theorem ZuW:Rs.opt (none:Option α)= .no:=rfl
@[simp] theorem ZcS:asB (.bl b)= .ok b:=rfl
end
section
variable{p:Prop}[Decidable p]
@[simp] theorem ZuX {a b:Rs α} {f:α→Rs β}:(if p then a else b).bind f=if p then a.bind f else b.bind f:=by split<;>rfl
@[simp] theorem ZuY {a b:Rs α}:(if p then a else b).calm=if p then a.calm else b.calm:=by split<;>rfl
@[simp] theorem Zwf {a b:D}:asB (if p then a else b)=if p then asB a else asB b:=by split<;>rfl
@[simp] theorem Zwg {a b:Option α}:Rs.opt (if p then a else b)=if p then Rs.opt a else Rs.opt b:=by split<;>rfl
end
theorem run_bind{r:Rs α}{f:α→Rs β}{R:β→Prop}{E:Ex→Prop}:(r.bind f).run R E↔r.run (fun a=>(f a).run R E) E:=by
 cases r<;>exact Iff.rfl
theorem ZF{r:Rs α}{R R':α→Prop}{E E':Ex→Prop}(h:r.run R E)(k: ∀a,R a→R' a)(k2: ∀x,E x→E' x):r.run R' E':=by
 cases r with
 |ok a=>exact k a h
 |ex x=>exact k2 x h
 |no=>exact h
theorem Ut{o:Option α}{R:α→Prop}{E:Ex→Prop}(h:(Rs.opt o).run R E): ∃a,o=some a∧R a:=by
 cases o with
 |none=>exact h.elim
 |some a=>exact⟨a,rfl,h⟩
end
abbrev FX:=Zq→Rs D
abbrev FT:=Zq→Rs Bool
abbrev FA:=Zq→Rs (List D)
abbrev FG:=D→Zq→Option Zq
inductive Out where
 |nx (e:Zq)|rt (d:D)|bk (e:Zq)|ct (e:Zq)|ex (x:Ex) (e:Zq)|no
abbrev FS:=Zq→Out
def Zbg:D→Option MO
 | .lst xs=>some (.ml xs)
 | .U0 kvs=>some (.mk kvs)
 | .obj n fs=>some (.mo n fs)
 | .j5 kvs=>some (.md kvs)
 |_=>none
def bM(ws:S)(d' d:D):Prop:=d'=d∨ ∃p o,d'= .rf (.ref p)∧Zbg d=some o∧ws.mu p=some o
structure Rl(M:List Nat)(s0:S)(fe we:Zq)(ws:S):Prop where
 len:fe.length=we.length
 sub:Sub s0 ws
 im: ∀i d,i∉M→i+1000∉M→nth fe i=some d→nth we i=some d
 vr: ∀i d,i∉M→i+1000∈M→nth fe i=some d→ ∃d',nth we i=some d'∧bM s0 d' d
 mu: ∀i d,i∈M→nth fe i=some d→ ∃p o,nth we i=some (.rf (.ref p))∧s0.mu p=none∧Zbg d=some o∧ws.mu p=some o
 inj: ∀i j p,i∈M→j∈M→i≠j→nth fe i≠none→nth fe j≠none→nth we i=some (.rf (.ref p))→nth we j≠some (.rf (.ref p))
def Out.run(M:List Nat)(s0:S)(DD:Ru):Out→Prop
 | .nx fe=> ∀we ws,Rl M s0 fe we ws→DD.nx we ws
 | .rt d=> ∀ws,Sub s0 ws→DD.rt d ws
 | .bk fe=> ∀we ws,Rl M s0 fe we ws→DD.bk we ws
 | .ct fe=> ∀we ws,Rl M s0 fe we ws→DD.ct we ws
 | .ex x fe=> ∀we ws,Rl M s0 fe we ws→DD.ex x we ws
 | .no=>False
def AX(M:List Nat)(f:FX)(w:Exp):Prop:= ∀s0 fe we ws,Rl M s0 fe we ws→ ∀R E,(f fe).run (fun d=>R d ws) (fun x=>E x ws)→w we ws R E
def AT(M:List Nat)(f:FT)(w:Xp):Prop:= ∀s0 fe we ws,Rl M s0 fe we ws→ ∀R E,(f fe).run (fun b=>R b ws) (fun x=>E x ws)→w we ws R E
def AA(M:List Nat)(n:Nat)(f:FA)(w:Arg):Prop:= ∀s0 fe we ws,Rl M s0 fe we ws→ ∀R E,(f fe).run (fun ds=>ds.length=n→R ds ws) (fun x=>E x ws)→w we ws R E
def AI(M:List Nat)(f:FA)(w:Arg):Prop:= ∀s0 fe we ws,Rl M s0 fe we ws→ ∀R E,(f fe).run (fun ds=>R ds ws) (fun x=>E x ws)→w we ws R E
def AG(M:List Nat)(g:FG)(w:DG):Prop:= ∀s0 fe we ws,Rl M s0 fe we ws→ ∀d fe1,g d fe=some fe1→ ∀K:Zq→S→Prop,(∀yu,Rl M s0 fe1 yu ws→K yu ws)→w d we ws K
def AS(M:List Nat)(f:FS)(w:Yh):Prop:= ∀s0 fe we ws,Rl M s0 fe we ws→ ∀DD,(f fe).run M s0 DD→w DD we ws
def AV(M:List Nat)(f:FX)(w:Exp):Prop:= ∀s0 fe we ws,Rl M s0 fe we ws→ ∀R E,(f fe).run (fun d=> ∀d',bM ws d' d→R d' ws) (fun x=>E x ws)→w we ws R E
def AM(M:List Nat)(f:FX)(w:Exp):Prop:= ∀s0 fe we ws,Rl M s0 fe we ws→ ∀R E,(f fe).run (fun d=> ∀p o,Zbg d=some o→ws.mu p=none→R (.rf (.ref p)) (ws.put p o)) (fun x=>E x ws)→w we ws R E
section
variable{M:List Nat}{s0 ws:S}{fe we:Zq}
theorem Qs: ∀(e:Zq) (i j:Nat) (x:Option D),nth (Jh e i x) j=if i=j∧i<e.length then x else nth e j
 |[],i,j,x=>by simp [Jh,nth]
 |y::r,0,0,x=>by simp [Jh,nth]
 |y::r,0,j+1,x=>by simp [Jh,nth]
 |y::r,i+1,0,x=>by simp [Jh,nth]
 |y::r,i+1,j+1,x=>by
  rw[Jh,nth,nth,Qs r i j x]
  simp
theorem Uk: ∀(e:Zq) (i:Nat) (x:Option D),(Jh e i x).length=e.length
 |[],_,_=>rfl
 |_::_,0,_=>rfl
 |_::r,i+1,x=>congrArg (· +1) (Uk r i x)
theorem ZcT: ∀{e:Zq} {i:Nat} {d:D},nth e i=some d→i<e.length
 |[],_,_,h=>by cases h
 |_::_,0,_,_=>Nat.zero_lt_succ _
 |_::r,i+1,_,h=>Nat.succ_lt_succ (ZcT (e:=r) h)
theorem fW(e:Zq): ∀vs:List Nat,(Jk e vs).length=e.length
 |[]=>rfl
 |v::vs=>by rw[Jk,Uk,fW e vs]
theorem Rl.ZoB{i:Nat}{d:D}(h:Rl M s0 fe we ws)(hi:i∉M):Rl M s0 (Jh fe i (some d)) (Jh we i (some d)) ws:=by
 have hne: ∀j,j∈M→i≠j:=fun j hj e=>hi (e▸hj)
 refine⟨by rw[Uk,Uk,h.len],h.sub,fun j x hj hv e=> ?_,fun j x hj hv e=> ?_,fun j x hj e=> ?_,fun j k p hj hk hjk e1 e2 e3=> ?_⟩
 ·rw[Qs]at e⊢
  rw[←h.len]
  split at e
  ·rename_i z;rw[if_pos z];exact e
  ·rename_i z;rw[if_neg z];exact h.im j x hj hv e
 ·rw[Qs]at e⊢
  rw[←h.len]
  split at e
  ·rename_i z;rw[if_pos z];exact⟨_,e, .inl rfl⟩
  ·rename_i z;rw[if_neg z];exact h.vr j x hj hv e
 ·rw[Qs,if_neg (fun z=>hne j hj z.1)]at e⊢
  exact h.mu j x hj e
 ·rw[Qs,if_neg (fun z=>hne j hj z.1)]at e1 e3
  rw[Qs,if_neg (fun z=>hne k hk z.1)]at e2⊢
  exact h.inj j k p hj hk hjk e1 e2 e3
theorem Rl.forget(h:Rl M s0 fe we ws)(i:Nat):Rl M s0 (Jh fe i none) we ws:=by
 have g: ∀{j:Nat} {x:D},nth (Jh fe i none) j=some x→nth fe j=some x:=fun{j x} e=>by
  rw[Qs]at e
  split at e
  ·cases e
  ·exact e
 have g2: ∀{j:Nat},nth (Jh fe i none) j≠none→nth fe j≠none:=fun{j} e z=>by
  cases q:nth (Jh fe i none) j with
  |none=>exact e q
  |some x=>rw[g q]at z;cases z
 exact⟨by rw[Uk,h.len],h.sub,fun j x hj hv e=>h.im j x hj hv (g e),fun j x hj hv e=>h.vr j x hj hv (g e),fun j x hj e=>h.mu j x hj (g e),fun j k p hj hk hjk e1 e2 e3=>h.inj j k p hj hk hjk (g2 e1) (g2 e2) e3⟩
theorem Rl.forgets(h:Rl M s0 fe we ws): ∀vs:List Nat,Rl M s0 (Jk fe vs) we ws
 |[]=>h
 |v::vs=>(Rl.forgets h vs).forget v
theorem Rl.both(h:Rl M s0 fe we ws)(i:Nat):Rl M s0 (Jh fe i none) (Jh we i none) ws:=by
 have g: ∀{j:Nat} {x:D},nth (Jh fe i none) j=some x→nth fe j=some x∧ ¬(i=j∧i<we.length):=fun{j x} e=>by
  rw[Qs]at e
  split at e
  ·cases e
  ·rename_i z;rw[h.len]at z;exact⟨e,z⟩
 have g2: ∀{j:Nat},nth (Jh fe i none) j≠none→nth fe j≠none∧ ¬(i=j∧i<we.length):=fun{j} e=>by
  cases q:nth (Jh fe i none) j with
  |none=>exact(e q).elim
  |some x=>exact⟨by rw[(g q).1];exact(fun z=>by cases z),(g q).2⟩
 refine⟨by rw[Uk,Uk,h.len],h.sub,fun j x hj hv e=> ?_,fun j x hj hv e=> ?_,fun j x hj e=> ?_,fun j k p hj hk hjk e1 e2 e3=> ?_⟩
 ·rw[Qs,if_neg (g e).2];exact h.im j x hj hv (g e).1
 ·rw[Qs,if_neg (g e).2];exact h.vr j x hj hv (g e).1
 ·rw[Qs,if_neg (g e).2];exact h.mu j x hj (g e).1
 ·rw[Qs,if_neg (g2 e1).2]at e3
  rw[Qs,if_neg (g2 e2).2]
  exact h.inj j k p hj hk hjk (g2 e1).1 (g2 e2).1 e3
theorem Rl.ZqG(h:Rl M s0 fe we ws): ∀vs:List Nat,Rl M s0 (Jk fe vs) (Jk we vs) ws
 |[]=>h
 |v::vs=>(Rl.ZqG h vs).both v
theorem Rl.fresh(h:Rl M s0 fe we ws){p:Addr}{o:MO}(hp:ws.mu p=none):Rl M s0 fe we (ws.put p o):=
 ⟨h.len,Sub.put (ql h.sub hp) h.sub,h.im,h.vr,fun i d hi e=>by
   obtain⟨q,u,h1,h2,h3,h4⟩:=h.mu i d hi e
   exact⟨q,u,h1,h2,h3,by rw[jx (fun z=>by rw[z,hp]at h4;cases h4)];exact h4⟩,h.inj⟩
theorem Rl.setM(h:Rl M s0 fe we ws){i:Nat}{d:D}{p:Addr}{o:MO}(hi:i∈M)(hp:ws.mu p=none)(ho:Zbg d=some o):Rl M s0 (Jh fe i (some d)) (Jh we i (some (.rf (.ref p)))) (ws.put p o):=by
 have h':=h.fresh (o:=o) hp
 refine⟨by rw[Uk,Uk,h.len],h'.sub,fun j x hj hv e=> ?_,fun j x hj hv e=> ?_,fun j x hj e=> ?_,fun j k q hj hk hjk e1 e2 e3=> ?_⟩
 ·have ne:i≠j:=fun z=>hj (z▸hi)
  rw[Qs,if_neg (fun z=>ne z.1)]at e⊢
  exact h.im j x hj hv e
 ·have ne:i≠j:=fun z=>hj (z▸hi)
  rw[Qs,if_neg (fun z=>ne z.1)]at e⊢
  exact h.vr j x hj hv e
 ·rw[Qs]at e⊢
  rw[←h.len]
  split at e
  ·rename_i z
   rw[if_pos z]
   cases e
   exact⟨p,o,rfl,ql h.sub hp,ho,WR⟩
  ·rename_i z
   rw[if_neg z]
   exact h'.mu j x hj e
 ·rw[Qs,←h.len]at e3
  rw[Qs]at e1 e2
  rw[Qs,←h.len]
  have old: ∀{a:Nat},a∈M→nth fe a≠none→nth we a≠some (.rf (.ref p)):=fun{a} ha hn z=>by
   cases q:nth fe a with
   |none=>exact hn q
   |some x=>
    obtain⟨p',o',g1,_,_,g4⟩:=h.mu a x ha q
    rw[g1]at z
    cases z
    rw[hp]at g4;cases g4
  by_cases z1:i=j∧i<fe.length
  ·rw[if_pos z1]at e3
   cases e3
   have z2: ¬(i=k∧i<fe.length):=fun z=>hjk (z1.1.symm.trans z.1)
   rw[if_neg z2]at e2⊢
   exact old hk e2
  ·rw[if_neg z1]at e1 e3
   by_cases z2:i=k∧i<fe.length
   ·rw[if_pos z2]
    intro z
    cases z
    exact old hj e1 e3
   ·rw[if_neg z2]at e2⊢
    exact h.inj j k q hj hk hjk e1 e2 e3
theorem Rl.chg(h:Rl M s0 fe we ws){i:Nat}{d d0:D}{p:Addr}{o:MO}(hi:i∈M)(h0:nth fe i=some d0)(hw:nth we i=some (.rf (.ref p)))(ho:Zbg d=some o):Rl M s0 (Jh fe i (some d)) we (ws.put p o):=by
 have il:=ZcT h0
 obtain⟨p',o',g1,g2,g3,g4⟩:=h.mu i d0 hi h0
 rw[hw]at g1
 cases g1
 refine⟨by rw[Uk,h.len],Sub.put g2 h.sub,fun j x hj hv e=> ?_,fun j x hj hv e=> ?_,fun j x hj e=> ?_,fun j k q hj hk hjk e1 e2 e3=> ?_⟩
 ·have ne:i≠j:=fun z=>hj (z▸hi)
  rw[Qs,if_neg (fun z=>ne z.1)]at e
  exact h.im j x hj hv e
 ·have ne:i≠j:=fun z=>hj (z▸hi)
  rw[Qs,if_neg (fun z=>ne z.1)]at e
  exact h.vr j x hj hv e
 ·rw[Qs]at e
  by_cases z:i=j
  ·rw[if_pos ⟨z,il⟩]at e
   cases e
   exact⟨p,o,z▸hw,g2,ho,WR⟩
  ·rw[if_neg (fun y=>z y.1)]at e
   obtain⟨q,u,f1,f2,f3,f4⟩:=h.mu j x hj e
   refine⟨q,u,f1,f2,f3, ?_⟩
   rw[jx (fun y=> ?_)]
   ·exact f4
   ·rw[y]at f1
    exact h.inj i j p hi hj z (by rw[h0];exact fun y=>by cases y) (by rw[e];exact fun y=>by cases y) hw f1
 ·have g: ∀{a:Nat},nth (Jh fe i (some d)) a≠none→nth fe a≠none:=fun{a} e z=>by
   rw[Qs]at e
   split at e
   ·rename_i y;rw[←y.1,h0]at z;cases z
   ·exact e z
  exact h.inj j k q hj hk hjk (g e1) (g e2) e3
theorem Rl.frz(h:Rl M s0 fe we ws){i:Nat}{xs:List D}(hi:i∈M)(h0:nth fe i=some (.lst xs))(h9:i<1000:=by decide): ∃p,nth we i=some (.rf (.ref p))∧ws.mu p=some (.ml xs)∧Sub s0 (ws.del p)∧Rl (M.filter (· !=i)) s0 fe (Jh we i (some (.lst xs))) (ws.del p):=by
 obtain⟨p,o,g1,g2,g3,g4⟩:=h.mu i _ hi h0
 cases g3
 have dn: ∀q,q≠p→(ws.del p).mu q=ws.mu q:=fun q hq=>if_neg hq
 have sb:Sub s0 (ws.del p):=⟨fun q u e=>by rw[dn q (fun z=>by rw[z,g2]at e;cases e)];exact h.sub.mu q u e,h.sub.g⟩
 have mem: ∀{j:Nat},j∈M.filter (· !=i)↔j∈M∧i≠j:=fun{j}=>by
  rw[List.mem_filter]
  simp only[bne_iff_ne,ne_eq]
  exact⟨fun⟨a,b⟩=>⟨a,fun z=>b z.symm⟩,fun⟨a,b⟩=>⟨a,fun z=>b z.symm⟩⟩
 have il:=ZcT h0
 refine⟨p,g1,g4,sb,⟨by rw[Uk,h.len],sb,fun j x hj hv e=> ?_,fun j x hj hv e=> ?_,fun j x hj e=> ?_,fun j k q hj hk hjk e1 e2 e3=> ?_⟩⟩
 ·rw[Qs,←h.len]
  by_cases z:i=j
  ·rw[if_pos ⟨z,il⟩,←e,←z,h0]
  ·rw[if_neg (fun y=>z y.1)]
   exact h.im j x (fun y=>hj (mem.mpr ⟨y,z⟩)) (fun y=>hv (mem.mpr ⟨y,by omega⟩)) e
 ·rw[Qs,←h.len]
  by_cases z:i=j
  ·rw[if_pos ⟨z,il⟩];rw[←z,h0]at e;exact⟨_,rfl, .inl (Option.some.inj e)⟩
  ·rw[if_neg (fun y=>z y.1)]
   exact h.vr j x (fun y=>hj (mem.mpr ⟨y,z⟩)) (mem.mp hv).1 e
 ·obtain⟨jm,ne⟩:=mem.mp hj
  obtain⟨q,u,f1,f2,f3,f4⟩:=h.mu j x jm e
  refine⟨q,u,by rw[Qs,if_neg (fun y=>ne y.1)];exact f1,f2,f3, ?_⟩
  rw[dn q (fun y=> ?_)]
  ·exact f4
  ·rw[y]at f1
   exact h.inj i j p hi jm ne (by rw[h0];exact fun y=>by cases y) (by rw[e];exact fun y=>by cases y) g1 f1
 ·obtain⟨jm,nj⟩:=mem.mp hj
  obtain⟨km,nk⟩:=mem.mp hk
  rw[Qs,if_neg (fun y=>nj y.1)]at e3
  rw[Qs,if_neg (fun y=>nk y.1)]
  exact h.inj j k q jm km hjk e1 e2 e3
theorem Rl.back{i:Nat}(h:Rl (M.filter (· !=i)) s0 fe we ws)(h9:i<1000:=by decide):Rl M s0 (Jh fe i none) we ws:=by
 have h':=h.forget i
 have mem: ∀{j:Nat},j∈M→i≠j→j∈M.filter (· !=i):=fun{j} a b=>by
  rw[List.mem_filter]
  simp only[bne_iff_ne,ne_eq]
  exact⟨a,fun z=>b z.symm⟩
 have ni: ∀{x:D},nth (Jh fe i none) i=some x→False:=fun{x} e=>by
  have il:i<fe.length:=by
   have:=ZcT e
   rwa[Uk]at this
  rw[Qs,if_pos ⟨rfl,il⟩]at e;cases e
 have ne: ∀{j:Nat} {x:D},nth (Jh fe i none) j=some x→i≠j:=fun{j x} e z=>by subst z;exact ni e
 have ne2: ∀{j:Nat},nth (Jh fe i none) j≠none→i≠j:=fun{j} e=>by
  cases q:nth (Jh fe i none) j with
  |none=>exact(e q).elim
  |some x=>exact ne q
 exact⟨h'.len,h'.sub,fun j x hj hv e=>h'.im j x (fun z=>hj (List.mem_filter.mp z).1) (fun z=>hv (List.mem_filter.mp z).1) e,fun j x hj hv e=>h'.vr j x (fun z=>hj (List.mem_filter.mp z).1) (mem hv (by omega)) e,fun j x hj e=>h'.mu j x (mem hj (ne e)) e,fun j k p hj hk hjk e1 e2 e3=>h'.inj j k p (mem hj (ne2 e1)) (mem hk (ne2 e2)) hjk e1 e2 e3⟩
end
theorem Znr{s0 ws:S}{d' d:D}(h:Sub s0 ws)(r:bM s0 d' d):bM ws d' d:=by
 rcases r with r|⟨p,o,h1,h2,h3⟩
 ·exact .inl r
 ·exact .inr ⟨p,o,h1,h2,h.mu _ _ h3⟩
def TQ:D→Option (List D)
 | .tup xs=>some xs
 | .lst xs=>some xs
 | .U7 ns=>some (ns.map .int)
 |_=>none
def Zrf:D→Option (List D)
 | .lst xs=>some xs
 | .U7 ns=>some (ns.map .int)
 |_=>none
theorem zN{ws:S}{d' d:D}{xs:List D}(h:bM ws d' d)(hs:Zrf d=some xs):cJ d' ws=some xs:=by
 rcases h with rfl|⟨p,o,rfl,ho,hp⟩
 ·cases d'<;>first|exact hs|cases hs
 ·cases d<;>first|cases ho|skip
  ·cases hs
   show(match ws.mu p with|some (.ml ds)=>some ds|_=>none)=_
   rw[hp]
  ·cases hs
  ·cases hs
  ·cases hs
theorem Hr{ws:S}{d' d:D}{xs:List D}(h:bM ws d' d)(hs:TQ d=some xs):jJ d' ws=some xs:=by
 cases d with
 |tup ys=>
  rcases h with rfl|⟨p,o,rfl,ho,hp⟩
  ·exact hs
  ·cases ho
 |lst ys=>
  have q:=zN (xs:=xs) h (by exact hs)
  rcases h with rfl|⟨p,o,rfl,ho,hp⟩<;>exact q
 |U7 ys=>
  have q:=zN (xs:=xs) h (by exact hs)
  rcases h with rfl|⟨p,o,rfl,ho,hp⟩<;>exact q
 |_=>cases hs
end Bk
namespace Bk
open PySem PySem.Spec PyProof.Rows L2
abbrev F1:=D→Option D
abbrev F2:=D→D→Option D
def O2(g:F2)(w:G2):Prop:= ∀x y d s R,g x y=some d→R d s→w x y s R
def OV(g:F2)(w:G2):Prop:= ∀x' y' x y d s R,bM s x' x→bM s y' y→g x y=some d→R d s→w x' y' s R
def O1(g:F1)(w:G1):Prop:= ∀x d s R,g x=some d→R d s→w x s R
def B1(g:F1)(w:GA):Prop:= ∀x' x d s R,bM s x' x→g x=some d→R d s→w [x'] s R
def B2(g:F2)(w:GA):Prop:= ∀x y d s R,g x y=some d→R d s→w [x,y] s R
section
variable{M:List Nat}{a b c:FX}{wa wb wc:Exp}{t u:FT}{wt wu:Xp}{r:FA}{wr:Arg}{n:Nat}
theorem cQ{s:S}{d' d:D}(h:bM s d' d)(ho:Zbg d=none):d'=d:=by
 rcases h with h|⟨p,o,_,h,_⟩
 ·exact h
 ·rw[ho]at h;cases h
@[simp] def fVar (i:Nat) (e:Zq):Rs D:=Rs.opt (nth e i)
@[simp] def fC (d:D) (_:Zq):Rs D:= .ok d
theorem Ze(i:Nat)(hi:i∉M:=by decide)(hv:i+1000∉M:=by decide):AX M (fVar i) (Zf i):=fun s0 fe we ws h R E q=>by
 obtain⟨d,hd,q⟩:=Ut q
 unfold Zf
 rw[h.im i d hi hv hd];exact q
theorem aM(i:Nat):AV M (fVar i) (Zf i):=fun s0 fe we ws h R E q=>by
 obtain⟨d,hd,q⟩:=Ut q
 unfold Zf
 by_cases hi:i∈M
 ·obtain⟨p,o,h1,h2,h3,h4⟩:=h.mu i d hi hd
  rw[h1]
  exact q _ (.inr ⟨p,o,rfl,h3,h4⟩)
 ·by_cases hv:i+1000∈M
  ·obtain⟨d',h1,h2⟩:=h.vr i d hi hv hd
   rw[h1]
   exact q _ (Znr h.sub h2)
  ·rw[h.im i d hi hv hd]
   exact q _ (.inl rfl)
theorem Zk(d:D):AX M (fC d) (dC d):=fun s0 fe we ws h R E q=>q
theorem Zy(h:AX M a wa):AV M a wa:=fun s0 fe we ws hr R E q=>h s0 fe we ws hr R E (ZF q (fun d k=>k d (.inl rfl)) fun _ k=>k)
@[simp] def Zz (g:F2) (a b:FX) (e:Zq):Rs D:=(a e).bind fun x=>(b e).bind fun y=>Rs.opt (g x y)
@[simp] def fUn (g:F1) (a:FX) (e:Zq):Rs D:=(a e).bind fun x=>Rs.opt (g x)
theorem ZD{g:F2}{w:G2}(ho:O2 g w)(ha:AX M a wa)(hb:AX M b wb):AX M (Zz g a b) (ZG w wa wb):=fun s0 fe we ws h R E q=>by
 refine ha s0 fe we ws h _ E (ZF (run_bind.mp q) (fun x q=> ?_) fun _ k=>k)
 refine hb s0 fe we ws h _ E (ZF (run_bind.mp q) (fun y q=> ?_) fun _ k=>k)
 obtain⟨d,e,q⟩:=Ut q
 exact ho x y d ws R e q
theorem Jd{g:F2}{w:G2}(ho:OV g w)(ha:AV M a wa)(hb:AV M b wb):AX M (Zz g a b) (ZG w wa wb):=fun s0 fe we ws h R E q=>by
 refine ha s0 fe we ws h _ E (ZF (run_bind.mp q) (fun x q x' hx=> ?_) fun _ k=>k)
 refine hb s0 fe we ws h _ E (ZF (run_bind.mp q) (fun y q y' hy=> ?_) fun _ k=>k)
 obtain⟨d,e,q⟩:=Ut q
 exact ho x' y' x y d ws R hx hy e q
theorem cR{g:F1}{w:G1}(ho:O1 g w)(ha:AX M a wa):AX M (fUn g a) (sH w wa):=fun s0 fe we ws h R E q=>by
 refine ha s0 fe we ws h _ E (ZF (run_bind.mp q) (fun x q=> ?_) fun _ k=>k)
 obtain⟨d,e,q⟩:=Ut q
 exact ho x d ws R e q
def ZhX(f:Int→Int→D):F2
 | .int i, .int j=>some (f i j)
 |_,_=>none
theorem Vh(f:Int→Int→D):O2 (ZhX f) (ZcH f):=fun x y d s R e q=>by
 cases x<;>cases y<;>first|(cases e;exact q)|cases e
instance(i j:Int):Decidable (CMul i j):=by unfold CMul;infer_instance
instance(i j:Int):Decidable (CDiv i j):=by unfold CDiv;infer_instance
instance(i j:Int):Decidable (CPow i j):=by unfold CPow;infer_instance
def Zut(c:Int→Int→Prop)[∀i j,Decidable (c i j)](f:Int→Int→D):F2
 | .int i, .int j=>if c i j then some (f i j)else none
 |_,_=>none
abbrev gSub:F2:=ZhX fun i j=> .int (i-j)
abbrev jy:F2:=ZhX fun i j=> .bl (decide (i<j))
abbrev gLe:F2:=ZhX fun i j=> .bl (decide (i≤j))
abbrev gGt:F2:=ZhX fun i j=> .bl (decide (j<i))
def TV:F1
 | .int i=>some (.int (-i))
 |_=>none
theorem cU:O1 TV Ml:=fun x d s R e q=>by cases x<;>first|(cases e;exact q)|cases e
def Z9:F2
 | .int i, .int j=>some (.int (i+j))
 | .str a, .str b=>if a.length+b.length≤sizeLine then some (.str (a++b))else none
 | .lst xs, .lst ys=>if xs.length+ys.length≤sizeLine then some (.lst (xs++ys))else none
 | .tup xs, .tup ys=>if xs.length+ys.length≤sizeLine then some (.tup (xs++ys))else none
 |_,_=>none
theorem Yw:O2 Z9 JN:=fun x y d s R e q=>by
 unfold Z9 at e
 unfold JN
 split at e
 ·cases e;exact q
 ·split at e
  ·rename_i h;cases e;exact⟨h,q⟩
  ·cases e
 ·split at e
  ·rename_i h;cases e;exact⟨h,q⟩
  ·cases e
 ·split at e
  ·rename_i h;cases e;exact⟨h,q⟩
  ·cases e
 ·cases e
def Zuu:F2
 | .tup xs, .int k=>if xs.length≠0∧1≤k∧k≤1000∧xs.length≤1000 then some (.tup (Ze1 xs k.toNat))else none
 |_,_=>none
def Uc:F2:=fun x y=>if x.YF=true∧y.YF=true then some (.bl (x.eqb y))else none
theorem NZ:O2 Uc oEq:=fun x y d s R e q=>by
 unfold Uc at e
 split at e
 ·rename_i h;cases e;exact⟨h,q⟩
 ·cases e
def Wo:F2:=fun x y=>if x.YF=true∧y.YF=true then some (.bl (!x.eqb y))else none
theorem fX:O2 Wo uW:=fun x y d s R e q=>by
 unfold Wo at e
 split at e
 ·rename_i h;cases e;exact⟨h,q⟩
 ·cases e
def jK:F2
 | .lst xs, .lst []=>some (.bl (!xs.isEmpty))
 |_,_=>none
theorem Zeq:O2 jK Zbf:=fun x y d s R e q=>by
 unfold jK at e
 unfold Zbf
 split at e
 ·cases e;exact q
 ·cases e
def R3:F2
 | .str a, .str b=>some (.bl (!decide (a=b)))
 |_,_=>none
theorem ZlQ:O2 R3 Ze4:=fun x y d s R e q=>by
 unfold R3 at e
 unfold Ze4
 split at e
 ·cases e;exact q
 ·cases e
def Zuv:F2
 | .str z, .int k=>if 1<k∧k≤100∧z.length≤100000 then some (.str (Vl z k.toNat))else none
 |_,_=>none
def gIn(neg:Bool):F2:=fun x y=>match y with
 | .lst ds=>if x.YF=true∧(D.lst ds).YF=true then some (.bl (if neg then !isIn x ds else isIn x ds))else none
 | .tup ds=>if x.YF=true∧(D.tup ds).YF=true then some (.bl (if neg then !isIn x ds else isIn x ds))else none
 | .str t=>match x with
   | .str a=>some (.bl (if neg then !(!(Builtin.Str.occurrences t a 0 t.length 1).isEmpty)else !(Builtin.Str.occurrences t a 0 t.length 1).isEmpty))
   |_=>none
 |_=>none
theorem jL(neg:Bool):O2 (gIn neg) (sS neg):=fun x y d s R e q=>by
 unfold gIn at e
 unfold sS
 split at e
 ·split at e
  ·rename_i h;cases e;exact⟨h,q⟩
  ·cases e
 ·split at e
  ·rename_i h;cases e;exact⟨h,q⟩
  ·cases e
 ·split at e
  ·cases e;exact q
  ·cases e
 ·cases e
def Uw(neg:Bool):F2
 | .non, .non=>some (.bl (!neg))
 | .bl _, .non| .int _, .non| .str _, .non| .lst _, .non| .tup _, .non| .U0 _, .non| .exc _ _, .non| .j5 _, .non=>some (.bl neg)
 |_,_=>none
theorem jM(neg:Bool):O2 (Uw neg) (RM neg):=fun x y d s R e q=>by
 unfold Uw at e
 unfold RM
 split at e<;>first|(cases e;exact q)|cases e
def Jt:F2:=fun x y=>match y with
 | .int i=>match x with
   | .str z=>if z.length≤sizeLine then(atI z.cps.toList i).map fun c=> .str ⟨#[c]⟩else none
   |x=>(TQ x).bind fun ds=>atI ds i
 |_=>none
theorem Vf:OV Jt Ua:=fun x' y' x y d s R hx hy e q=>by
 unfold Jt at e
 cases y with
 |int i=>
  have hy':=cQ hy rfl
  subst hy'
  cases x with
  |str z=>
   have hx':=cQ hx rfl
   subst hx'
   dsimp only at e
   split at e
   ·rename_i h
    obtain⟨c,hc,rfl⟩:=Option.map_eq_some_iff.mp e
    exact⟨h,c,hc,q⟩
   ·cases e
  |_=>
   obtain⟨ds,h1,h2⟩:=Option.bind_eq_some_iff.mp e
   have h3:=Hr hx h1
   cases x'<;>first|exact⟨ds,d,h3,h2,q⟩|cases h3
 |_=>cases e
abbrev FP:=Zq→Rs (Option Int)
@[simp] def Qq (_:Zq):Rs (Option Int):= .ok none
def asI:D→Rs (Option Int)
 | .int i=> .ok (some i)
 |_=> .no
@[simp] def JH (f:FX) (e:Zq):Rs (Option Int):=(f e).bind asI
def AP(M:List Nat)(f:FP)(w:Prt):Prop:= ∀s0 fe we ws,Rl M s0 fe we ws→ ∀R E,(f fe).run (fun b=>R b ws) (fun x=>E x ws)→w we ws R E
theorem Yl:AP M Qq Jj:=fun s0 fe we ws h R E q=>q
theorem Ym(ha:AX M a wa):AP M (JH a) (Vg wa):=fun s0 fe we ws h R E q=>by
 refine ha s0 fe we ws h _ E (ZF (run_bind.mp q) (fun x q=> ?_) fun _ k=>k)
 cases x<;>first|exact q|exact q.elim
def gSl(x:D)(lo hi:Option Int):Option D:=match x with
 | .str z=>if z.length≤sizeLine then some (.str (cutS z lo hi))else none
 | .tup ds=>some (.tup (cutD ds lo hi))
 |x=>(Zrf x).map fun ds=> .lst (cutD ds lo hi)
@[simp] def Lk (a:FX) (l h:FP) (e:Zq):Rs D:=(a e).bind fun d=>(l e).bind fun lo=>(h e).bind fun hi=>Rs.opt (gSl d lo hi)
theorem UJ{l h:FP}{wl wh:Prt}(ha:AV M a wa)(hl:AP M l wl)(hh:AP M h wh):AX M (Lk a l h) (Ke wa wl wh):=fun s0 fe we ws hr R E q=>by
 refine ha s0 fe we ws hr _ E (ZF (run_bind.mp q) (fun x q x' hx=> ?_) fun _ k=>k)
 refine hl s0 fe we ws hr _ E (ZF (run_bind.mp q) (fun lo q=> ?_) fun _ k=>k)
 refine hh s0 fe we ws hr _ E (ZF (run_bind.mp q) (fun hi q=> ?_) fun _ k=>k)
 obtain⟨d,e,q⟩:=Ut q
 cases x with
 |str z=>
  have hx':=cQ hx rfl
  subst hx'
  rw[gSl]at e
  split at e
  ·rename_i h;cases e;exact⟨h,q⟩
  ·cases e
 |tup z=>
  have hx':=cQ hx rfl
  subst hx'
  cases e;exact q
 |_=>
  unfold gSl at e
  dsimp only at e
  obtain⟨ds,h1,h2⟩:=Option.map_eq_some_iff.mp e
  subst h2
  have h3:=zN hx h1
  cases x'<;>first|exact⟨ds,h3,q⟩|cases h3
def Ztq:D→Rs D
 | .tup xs=> .ok (.tup xs.reverse)
 |_=> .no
@[simp] def ZyX (a:FX) (e:Zq):Rs D:=(a e).bind Ztq
@[simp] def XM (a b:FX) (e:Zq):Rs D:=((a e).bind asB).bind fun k=>if k=true then b e else .ok (.bl false)
@[simp] def Zz8 (a b:FX) (e:Zq):Rs D:=((a e).bind asB).bind fun k=>if k=true then .ok (.bl true)else b e
@[simp] def ZlR (a:FX) (e:Zq):Rs D:=((a e).bind asB).bind fun k=> .ok (.bl (!k))
theorem ZjM{d:D}{R:Bool→Prop}{E:Ex→Prop}(h:(asB d).run R E): ∃k,d= .bl k∧R k:=by
 cases d<;>first|exact⟨_,rfl,h⟩|exact h.elim
theorem zP{r:Rs D}{f:Bool→Rs D}{R:D→Prop}{E:Ex→Prop}(h:((r.bind asB).bind f).run R E):r.run (fun d=> ∃k,d= .bl k∧(f k).run R E) E:=by
 cases r with
 |ok d=>exact ZjM (run_bind.mp h)
 |ex x=>exact h
 |no=>exact h
theorem Kl(ha:AX M a wa)(hb:AX M b wb):AX M (XM a b) (Rr wa wb):=fun s0 fe we ws h R E q=>by
 refine ha s0 fe we ws h _ E (ZF (zP q) (fun x q=> ?_) fun _ k=>k)
 obtain⟨k,rfl,q⟩:=q
 cases k
 ·exact q
 ·exact hb s0 fe we ws h R E q
theorem Zml(ha:AX M a wa):AX M (ZlR a) (ZhP wa):=fun s0 fe we ws h R E q=>by
 refine ha s0 fe we ws h _ E (ZF (zP q) (fun x q=> ?_) fun _ k=>k)
 obtain⟨k,rfl,q⟩:=q
 exact q
@[simp] def Zw (a:FX) (e:Zq):Rs Bool:=(a e).bind asB
@[simp] def Ze6 (t u:FT) (e:Zq):Rs Bool:=(t e).bind fun b=>if b=true then u e else .ok false
@[simp] def Br (t u:FT) (e:Zq):Rs Bool:=(t e).bind fun b=>if b=true then .ok true else u e
@[simp] def Yt (t:FT) (e:Zq):Rs Bool:=(t e).bind fun b=> .ok (!b)
@[simp] def Ux (_:Zq):Rs Bool:= .ok true
theorem Zx(ha:AX M a wa):AT M (Zw a) (ZX wa):=fun s0 fe we ws h R E q=>by
 refine ha s0 fe we ws h _ E (ZF (run_bind.mp q) (fun x q=> ?_) fun _ k=>k)
 obtain⟨k,rfl,q⟩:=ZjM q
 exact q
theorem Zhc(ht:AT M t wt)(hu:AT M u wu):AT M (Ze6 t u) (ZhO wt wu):=fun s0 fe we ws h R E q=>by
 refine ht s0 fe we ws h _ E (ZF (run_bind.mp q) (fun x q=> ?_) fun _ k=>k)
 cases x
 ·exact q
 ·exact hu s0 fe we ws h R E q
theorem V6(ht:AT M t wt)(hu:AT M u wu):AT M (Br t u) (Ew wt wu):=fun s0 fe we ws h R E q=>by
 refine ht s0 fe we ws h _ E (ZF (run_bind.mp q) (fun x q=> ?_) fun _ k=>k)
 cases x
 ·exact hu s0 fe we ws h R E q
 ·exact q
theorem YC(ht:AT M t wt):AT M (Yt t) (Bq wt):=fun s0 fe we ws h R E q=>by
 exact ht s0 fe we ws h _ E (ZF (run_bind.mp q) (fun x q=>q) fun _ k=>k)
theorem WT:AT M Ux Mj:=fun s0 fe we ws h R E q=>q
@[simp] def Ln (t:FT) (a b:FX) (e:Zq):Rs D:=(t e).bind fun k=>if k=true then a e else b e
theorem UL(ht:AT M t wt)(ha:AX M a wa)(hb:AX M b wb):AX M (Ln t a b) (Kc wt wa wb):=fun s0 fe we ws h R E q=>by
 refine ht s0 fe we ws h _ E (ZF (run_bind.mp q) (fun x q=> ?_) fun _ k=>k)
 cases x
 ·exact hb s0 fe we ws h R E q
 ·exact ha s0 fe we ws h R E q
@[simp] def jA (g g':F2) (a b c:FX) (e:Zq):Rs D:=(a e).bind fun x=>(b e).bind fun y=>((Rs.opt (g x y)).bind asB).bind fun k=>if k=true then(c e).bind fun w=>Rs.opt (g' y w)else .ok (.bl false)
theorem RB{g g':F2}{w w':G2}(ho:O2 g w)(ho':O2 g' w')(ha:AX M a wa)(hb:AX M b wb)(hc:AX M c wc):AX M (jA g g' a b c) (Kf w w' wa wb wc):=fun s0 fe we ws h R E q=>by
 refine ha s0 fe we ws h _ E (ZF (run_bind.mp q) (fun x q=> ?_) fun _ k=>k)
 refine hb s0 fe we ws h _ E (ZF (run_bind.mp q) (fun y q=> ?_) fun _ k=>k)
 obtain⟨d,e,k,hk,q⟩:=Ut (zP q)
 refine ho x y d ws _ e ?_
 subst hk
 cases k
 ·exact q
 ·refine hc s0 fe we ws h _ E (ZF (run_bind.mp q) (fun z q=> ?_) fun _ k=>k)
  obtain⟨d2,e2,q⟩:=Ut q
  exact ho' y z d2 ws R e2 q
@[simp] def Zm (_:Zq):Rs (List D):= .ok []
@[simp] def Zb (a:FX) (r:FA) (e:Zq):Rs (List D):=(a e).bind fun d=>(r e).bind fun ds=> .ok (d::ds)
theorem Zu:AA M 0 Zm Zo:=fun s0 fe we ws h R E q=>q rfl
theorem Zh(ha:AX M a wa)(hr:AA M n r wr):AA M (n+1) (Zb a r) (Zd wa wr):=fun s0 fe we ws h R E q=>by
 refine ha s0 fe we ws h _ E (ZF (run_bind.mp q) (fun x q=> ?_) fun _ k=>k)
 exact hr s0 fe we ws h _ E (ZF (run_bind.mp q) (fun ds q hl=>q (by rw[List.length_cons,hl])) fun _ k=>k)
@[simp] def QM (r:FA) (e:Zq):Rs D:=(r e).bind fun ds=> .ok (.tup ds)
@[simp] def JX (r:FA) (e:Zq):Rs D:=(r e).bind fun ds=> .ok (.lst ds)
theorem QG(hr:AA M n r wr)(hn:n≤10000:=by decide):AX M (QM r) (dTup wr):=fun s0 fe we ws h R E q=>
 hr s0 fe we ws h _ E (ZF (run_bind.mp q) (fun ds q hl=>⟨sz _ (by omega),q⟩) fun _ k=>k)
theorem Ud(hr:AA M n r wr)(hn:n≤10000:=by decide):AX M (JX r) (VH wr):=fun s0 fe we ws h R E q=>
 hr s0 fe we ws h _ E (ZF (run_bind.mp q) (fun ds q hl=>⟨sz _ (by omega),q⟩) fun _ k=>k)
abbrev FF:=List D→Rs D
def pF(f:FF):Fn:=fun ds s R E=>(f ds).run (fun d=>R d s) (fun x=>E x s)
@[simp] def ZL (f:FF) (r:FA) (e:Zq):Rs D:=(r e).bind f
theorem Qv{f:FF}(hr:AA M n r wr):AX M (ZL f r) (dCall n (pF f) wr):=fun s0 fe we ws h R E q=>
 hr s0 fe we ws h _ E (ZF (run_bind.mp q) (fun ds q hl=>⟨hl,q⟩) fun _ k=>k)
@[simp] def Qm (g:F1) (a:FX) (e:Zq):Rs D:=(a e).bind fun d=>Rs.opt (g d)
theorem JZ{g:F1}{w:GA}(hg:B1 g w)(ha:AV M a wa):AX M (Qm g a) (Qp w (Zd wa Zo)):=fun s0 fe we ws h R E q=>by
 refine ha s0 fe we ws h _ E (ZF (run_bind.mp q) (fun x q x' hx=> ?_) fun _ k=>k)
 obtain⟨d,e,q⟩:=Ut q
 exact hg x' x d ws R hx e q
@[simp] def fB2 (g:F2) (a b:FX) (e:Zq):Rs D:=(a e).bind fun x=>(b e).bind fun y=>Rs.opt (g x y)
theorem Zuw{g:F2}{w:GA}(hg:B2 g w)(ha:AX M a wa)(hb:AX M b wb):AX M (fB2 g a b) (Qp w (Zd wa (Zd wb Zo))):=fun s0 fe we ws h R E q=>by
 refine ha s0 fe we ws h _ E (ZF (run_bind.mp q) (fun x q=> ?_) fun _ k=>k)
 refine hb s0 fe we ws h _ E (ZF (run_bind.mp q) (fun y q=> ?_) fun _ k=>k)
 obtain⟨d,e,q⟩:=Ut q
 exact hg x y d ws R e q
def YS:F1
 | .str z=>if z.length≤sizeLine then some (.int z.length)else none
 |d=>(TQ d).map fun xs=> .int xs.length
theorem GF:B1 YS BZ:=fun x' x d s R hx e q=>by
 cases x with
 |str z=>
  have hx':=cQ hx rfl
  subst hx'
  rw[YS]at e
  split at e
  ·rename_i h;cases e;exact⟨h,q⟩
  ·cases e
 |_=>
  unfold YS at e
  dsimp only at e
  obtain⟨ds,h1,h2⟩:=Option.map_eq_some_iff.mp e
  subst h2
  have h3:=Hr hx h1
  cases x'<;>first|exact⟨ds,h3,q⟩|cases h3
def wA:F1:=fun d=>(TQ d).map .lst
theorem Zmm:B1 wA Zb3:=fun x' x d s R hx e q=>by
 obtain⟨ds,h1,h2⟩:=Option.map_eq_some_iff.mp e
 subst h2
 exact⟨ds,Hr hx h1,q⟩
def BL:F1:=fun d=>(TQ d).map .tup
theorem X6:B1 BL BK:=fun x' x d s R hx e q=>by
 obtain⟨ds,h1,h2⟩:=Option.map_eq_some_iff.mp e
 subst h2
 exact⟨ds,Hr hx h1,q⟩
def Zer:F1
 | .int i=>some (.int i)
 | .bl k=>some (.int (if k then 1 else 0))
 |_=>none
theorem Zux:B1 Zer cInt:=fun x' x d s R hx e q=>by
 cases x<;>first|cases e|skip
 all_goals
  have hx':=cQ hx rfl
  subst hx'
  exact q
def w6(any:Bool):F1
 | .lst xs=>(bls xs).map fun bs=> .bl (if any then bs.any id else bs.all id)
 |_=>none
theorem WW{g:F1}{w:GA}(hg: ∀x d s R,g x=some d→R d s→w [x] s R)(ha:AX M a wa):AX M (Qm g a) (Qp w (Zd wa Zo)):=fun s0 fe we ws h R E q=>by
 refine ha s0 fe we ws h _ E (ZF (run_bind.mp q) (fun x q=> ?_) fun _ k=>k)
 obtain⟨d,e,q⟩:=Ut q
 exact hg x d ws R e q
theorem ZlS(any:Bool): ∀x d s R,w6 any x=some d→R d s→ZhS any [x] s R:=fun x d s R e q=>by
 cases x<;>first|cases e|skip
 rename_i xs
 obtain⟨bs,h1,h2⟩:=Option.map_eq_some_iff.mp e
 subst h2
 exact⟨bs,h1,q⟩
def Zw7:F1
 | .lst xs=>(Zkw xs).map fun bs=> .int bs.sum
 |_=>none
def g2I(f:Int→Int→Int):F2
 | .int i, .int j=>some (.int (f i j))
 |_,_=>none
theorem Zw8(f:Int→Int→Int):B2 (g2I f) (c2I f):=fun x y d s R e q=>by
 cases x<;>cases y<;>first|(cases e;exact q)|cases e
instance(d:D):Decidable d.XJ:=by unfold D.XJ;infer_instance
def Va:F1:=fun d=>if d.XJ then some (.str (shown d))else none
theorem R4: ∀x d s R,Va x=some d→R d s→WQ [x] s R:=fun x d s R e q=>by
 unfold Va at e
 split at e
 ·rename_i h
  cases e
  exact⟨h,fun a ha=>by subst ha;exact q⟩
 ·cases e
theorem zQ{d:D}(h:d.XJ):Va d=some (.str (shown d)):=if_pos h
def tyF:D→Option String
 | .non=>some "NoneType"
 | .bl _=>some "bool"
 | .int _=>some "int"
 | .str _=>some "str"
 | .lst _=>some "list"
 | .U7 _=>some "list"
 | .tup _=>some "tuple"
 | .U0 _=>some "dict"
 |_=>none
def VP(n:String):F1:=fun d=>if n∈YX then(tyF d).map fun t=> .bl (YB t n)else none
theorem Zuy(n:String): ∀x d s R,VP n x=some d→R d s→X4 [x, .rf (.ty n)] s R:=fun x d s R e q=>by
 unfold VP at e
 split at e
 ·rename_i h
  obtain⟨t,h1,h2⟩:=Option.map_eq_some_iff.mp e
  subst h2
  refine⟨h,t, ?_,q⟩
  cases x<;>first|exact h1|cases h1
 ·cases e
theorem Bc(n:String)(ha:AX M a wa):AX M (Qm (VP n) a) (Qp X4 (Zd wa (Zd (dC (.rf (.ty n))) Zo))):=fun s0 fe we ws h R E q=>by
 refine ha s0 fe we ws h _ E (ZF (run_bind.mp q) (fun x q=> ?_) fun _ k=>k)
 obtain⟨d,e,q⟩:=Ut q
 exact Zuy n x d ws R e q
def itF:D→Rs (List D)
 | .lst ds=> .ok ds
 | .tup ds=> .ok ds
 | .str x=>if(signs x).length≤sizeLine then .ok (signs x)else .no
 | .U7 ns=> .ok (ns.map .int)
 |_=> .no
@[simp] def Jg (a:FX) (e:Zq):Rs (List D):=(a e).bind itF
def AW(M:List Nat)(f:FA)(w:Arg):Prop:= ∀s0 fe we ws,Rl M s0 fe we ws→ ∀R E,(f fe).run (fun ds=>ds.length≤sizeLine→R ds ws) (fun x=>E x ws)→w we ws R E
theorem Yn(ha:AX M a wa):AW M (Jg a) (Vy wa):=fun s0 fe we ws h R E q=>by
 refine ha s0 fe we ws h _ E (ZF (run_bind.mp q) (fun x q=> ?_) fun _ k=>k)
 cases x<;>first|exact q.elim|exact q|skip
 ·simp only[itF]at q
  split at q
  ·rename_i hz;exact q hz
  ·exact q.elim
 ·rename_i ns
  exact fun hz=>q (by rw[List.length_map];exact hz)
def ZhY:List D→Rs (List D)
 |[.int j]=>if-(2^62)≤j∧j<2^62∧j.toNat≤sizeLine then .ok (DY 0 j.toNat)else .no
 |_=> .no
@[simp] def Ag (r:FA) (e:Zq):Rs (List D):=(r e).bind ZhY
theorem ZjN(hr:AA M n r wr):AW M (Ag r) (jH wr):=fun s0 fe we ws h R E q=>by
 refine hr s0 fe we ws h _ E (ZF (run_bind.mp q) (fun ds q hl=> ?_) fun _ k=>k)
 unfold ZhY at q
 split at q
 ·split at q
  ·rename_i hz
   exact⟨⟨hz.1,hz.2.1⟩,q (by unfold DY;rw[List.length_map,List.length_range];exact hz.2.2)⟩
  ·exact q.elim
 ·exact q.elim
def Zrg:Option (List D)→Option (List D)→Rs (List D)
 |some xs,some ys=>if xs.length≤sizeLine then .ok (Zkr xs ys)else .no
 |_,_=> .no
@[simp] def Zz9 (a b:FX) (e:Zq):Rs (List D):=(a e).bind fun x=>(b e).bind fun y=>Zrg (ZhU x) (ZhU y)
def ZlT:D→Rs (List D)
 | .tup xs=>if xs.length≤sizeLine then .ok (Wt xs)else .no
 |_=> .no
@[simp] def aN (a:FX) (e:Zq):Rs (List D):=(a e).bind ZlT
theorem Ziz(xs:List D):(Wt xs).length=xs.length:=by unfold Wt;rw[List.length_mapIdx]
theorem RD(ha:AX M a wa):AW M (aN a) (aK (Zd wa Zo)):=fun s0 fe we ws h R E q=>by
 refine ha s0 fe we ws h _ E (ZF (run_bind.mp q) (fun x q=> ?_) fun _ k=>k)
 cases x<;>first|exact q.elim|skip
 simp only[ZlT]at q
 split at q
 ·rename_i hz;exact q (by rw[Ziz];exact hz)
 ·exact q.elim
def ZqI:D→Rs (List D)
 | .lst xs=>if xs.length≤sizeLine then .ok (Wt xs)else .no
 |_=> .no
@[simp] def ZxU (a:FX) (e:Zq):Rs (List D):=(a e).bind ZqI
@[simp] def Zv (i:Nat) (d:D) (e:Zq):Option Zq:=some (Jh e i (some d))
def Bx(ds:List D)(e:Zq):Option Zq:=match ds with
 |[]=>some e
 |_=>none
def QX(g:FG)(r:List D→Zq→Option Zq)(ds:List D)(e:Zq):Option Zq:=match ds with
 |d::ds=>(g d e).bind fun e1=>r ds e1
 |[]=>none
def NK(n:Nat)(r:List D→Zq→Option Zq)(d:D)(e:Zq):Option Zq:=match d with
 | .tup ds=>if ds.length=n then r ds e else none
 |_=>none
def AGs(M:List Nat)(g:List D→Zq→Option Zq)(w:o7):Prop:= ∀s0 fe we ws,Rl M s0 fe we ws→ ∀ds fe1,g ds fe=some fe1→ ∀K:Zq→S→Prop,(∀yu,Rl M s0 fe1 yu ws→K yu ws)→w ds we ws K
theorem Qn(i:Nat)(hi:i∉M:=by decide):AG M (Zv i) (Z6 i):=fun s0 fe we ws h d fe1 e K k=>by
 cases e
 exact k _ (h.ZoB hi)
theorem O9:AGs M Bx Ny:=fun s0 fe we ws h ds fe1 e K k=>by
 cases ds with
 |nil=>cases e;exact⟨rfl,k _ h⟩
 |cons _ _=>cases e
theorem JQ{g:FG}{w:DG}{r:List D→Zq→Option Zq}{wr:o7}(hg:AG M g w)(hr:AGs M r wr):AGs M (QX g r) (Jm w wr):=fun s0 fe we ws h ds fe1 e K k=>by
 cases ds with
 |nil=>cases e
 |cons d ds=>
  obtain⟨e1,h1,h2⟩:=Option.bind_eq_some_iff.mp e
  exact hg s0 fe we ws h d e1 h1 _ fun yu r1=>hr s0 e1 yu ws r1 ds fe1 h2 K k
theorem Km{n:Nat}{r:List D→Zq→Option Zq}{wr:o7}(hr:AGs M r wr):AG M (NK n r) (Nz n wr):=fun s0 fe we ws h d fe1 e K k=>by
 unfold NK at e
 unfold Nz
 split at e
 ·split at e
  ·rename_i hl;exact⟨hl,hr s0 fe we ws h _ fe1 e K k⟩
  ·cases e
 ·cases e
def Yx(g:FG)(t:FT)(a:FX)(e0:Zq)(d:D):Rs (Option D):=match g d e0 with
 |none=> .no
 |some e1=>match t e1 with
  | .ok true=>match a e1 with
    | .ok y=> .ok (some y)
    |_=> .no
  | .ok false=> .ok none
  |_=> .no
def qT(el:D→Rs (Option D)):List D→Rs (List D)
 |[]=> .ok []
 |d::ds=>(el d).bind fun o=>(qT el ds).bind fun ys=> .ok (o.toList++ys)
@[simp] def R5 (i:FA) (g:FG) (t:FT) (a:FX) (vs:List Nat) (e:Zq):Rs D:=(i e).bind fun ds=>(qT (Yx g t a (Jk e vs)) ds).bind fun ys=> .ok (.lst ys)
theorem Zd5{g:FG}{wg:DG}{s0:S}{fe we:Zq}{ws:S}(h:Rl M s0 fe we ws)(hg:AG M g wg)(ht:AT M t wt)(ha:AX M a wa): ∀(ds acc ys:List D) (R:List D→S→Prop),qT (Yx g t a fe) ds= .ok ys→R (acc++ys) ws→DR wg wt wa we R ds acc ws
 |[],acc,ys,R,e,q=>by
  cases e
  rw[List.append_nil]at q;exact q
 |d::ds,acc,ys,R,e,q=>by
  rw[qT]at e
  cases h1:Yx g t a fe d with
  |no=>rw[h1]at e;cases e
  |ex x=>rw[h1]at e;cases e
  |ok o=>
   rw[h1]at e
   replace e:(qT (Yx g t a fe) ds).bind (fun ys=> .ok (o.toList++ys))= .ok ys:=e
   cases h2:qT (Yx g t a fe) ds with
   |no=>rw[h2]at e;cases e
   |ex x=>rw[h2]at e;cases e
   |ok zs=>
    rw[h2]at e
    cases e
    unfold Yx at h1
    unfold DR
    split at h1
    ·cases h1
    ·rename_i e1 hg1
     refine hg s0 fe we ws h d e1 hg1 _ fun yu r1=> ?_
     split at h1
     ·rename_i ht1
      refine ht s0 e1 yu ws r1 _ _ ?_
      rw[ht1]
      simp only[Zmk,if_true]
      split at h1
      ·rename_i y hy
       cases h1
       refine ha s0 e1 yu ws r1 _ _ ?_
       rw[hy]
       exact Zd5 h hg ht ha ds (acc++[y]) zs R h2 (by rw[List.append_assoc];exact q)
      ·cases h1
     ·rename_i ht1
      cases h1
      refine ht s0 e1 yu ws r1 _ _ ?_
      rw[ht1]
      simp only[Zmk]
      rw[if_neg (by decide)]
      exact Zd5 h hg ht ha ds acc zs R h2 q
     ·cases h1
theorem Cg{i:FA}{wi:Arg}{g:FG}{wg:DG}{vs:List Nat}(hi:AW M i wi)(hg:AG M g wg)(ht:AT M t wt)(ha:AX M a wa):AX M (R5 i g t a vs) (Ad wi wg wt wa vs):=fun s0 fe we ws h R E q=>by
 refine hi s0 fe we ws h _ E (ZF (run_bind.mp q) (fun ds q hz=> ?_) fun _ k=>k)
 refine⟨hz, ?_⟩
 cases e:qT (Yx g t a (Jk fe vs)) ds with
 |no=>rw[e]at q;exact q.elim
 |ex x=>
  exfalso
  clear q
  induction ds with
  |nil=>cases e
  |cons d ds ih=>
   rw[qT]at e
   cases h1:Yx g t a (Jk fe vs) d with
   |no=>rw[h1]at e;cases e
   |ex x=>
    unfold Yx at h1
    split at h1
    ·cases h1
    ·split at h1
     ·split at h1<;>cases h1
     ·cases h1
     ·cases h1
   |ok o=>
    rw[h1]at e
    replace e:(qT (Yx g t a (Jk fe vs)) ds).bind (fun ys=> .ok (o.toList++ys))= .ex x:=e
    cases h2:qT (Yx g t a (Jk fe vs)) ds with
    |no=>rw[h2]at e;cases e
    |ok zs=>rw[h2]at e;cases e
    |ex x2=>
     rw[h2]at e
     cases e
     exact ih (by rw[List.length_cons]at hz;omega) h2
 |ok ys=>
  rw[e]at q
  exact Zd5 (h.ZqG vs) hg ht ha ds [] ys _ e q
end
section
variable{x y:D}{i j k:Int}{a b z:Str}{xs ys ds:List D}{ns:List Int}{u v neg any:Bool}{e:Zq}{lo hi:Option Int}
@[simp] theorem Zwh (f:Int→Int→D):ZhX f (.int i) (.int j)=some (f i j):=rfl
@[simp] theorem ZuZ (c:Int→Int→Prop) [∀i j,Decidable (c i j)] (f:Int→Int→D):Zut c f (.int i) (.int j)=if c i j then some (f i j)else none:=rfl
@[simp] theorem Zwi:TV (.int i)=some (.int (-i)):=rfl
@[simp] theorem Zu0:Z9 (.int i) (.int j)=some (.int (i+j)):=rfl
@[simp] theorem Zns:Z9 (.str a) (.str b)=if a.length+b.length≤sizeLine then some (.str (a++b))else none:=rfl
@[simp] theorem Zu1:Z9 (.lst xs) (.lst ys)=if xs.length+ys.length≤sizeLine then some (.lst (xs++ys))else none:=rfl
@[simp] theorem Zu2:Z9 (.tup xs) (.tup ys)=if xs.length+ys.length≤sizeLine then some (.tup (xs++ys))else none:=rfl
@[simp] theorem Zu3:Zuu (.tup xs) (.int k)=if xs.length≠0∧1≤k∧k≤1000∧xs.length≤1000 then some (.tup (Ze1 xs k.toNat))else none:=rfl
@[simp] theorem Zpz:jK (.lst xs) (.lst [])=some (.bl (!xs.isEmpty)):=rfl
@[simp] theorem Zwj:R3 (.str a) (.str b)=some (.bl (!decide (a=b))):=rfl
@[simp] theorem Zu4:Zuv (.str z) (.int k)=if 1<k∧k≤100∧z.length≤100000 then some (.str (Vl z k.toNat))else none:=rfl
@[simp] theorem Zu5:Uw neg .non .non=some (.bl (!neg)):=rfl
@[simp] theorem Zwk:Uw neg (.bl u) .non=some (.bl neg):=rfl
@[simp] theorem Zu6:Uw neg (.int i) .non=some (.bl neg):=rfl
@[simp] theorem Zu7:Uw neg (.str a) .non=some (.bl neg):=rfl
@[simp] theorem Zu8:Uw neg (.lst xs) .non=some (.bl neg):=rfl
@[simp] theorem Zu9:Uw neg (.tup xs) .non=some (.bl neg):=rfl
@[simp] theorem Zva (kvs:List (Key×D)):Uw neg (.U0 kvs) .non=some (.bl neg):=rfl
@[simp] theorem Zvb (n:Str) (fs:List (Str×D)):Uw neg (.exc n fs) .non=some (.bl neg):=rfl
@[simp] theorem Zwl:Jt (.str z) (.int i)=if z.length≤sizeLine then(atI z.cps.toList i).map fun c=> .str ⟨#[c]⟩else none:=rfl
@[simp] theorem ZpA:Jt (.lst xs) (.int i)=atI xs i:=rfl
@[simp] theorem ZpB:Jt (.tup xs) (.int i)=atI xs i:=rfl
@[simp] theorem Zwm:Jt (.U7 ns) (.int i)=atI (ns.map .int) i:=rfl
@[simp] theorem Zwn:gSl (.str z) lo hi=if z.length≤sizeLine then some (.str (cutS z lo hi))else none:=rfl
@[simp] theorem ZpC:gSl (.tup ds) lo hi=some (.tup (cutD ds lo hi)):=rfl
@[simp] theorem ZpD:gSl (.lst ds) lo hi=some (.lst (cutD ds lo hi)):=rfl
@[simp] theorem Zwo:asI (.int i)= .ok (some i):=rfl
@[simp] theorem Zvc:Ztq (.tup xs)= .ok (.tup xs.reverse):=rfl
@[simp] theorem Zvd:YS (.str z)=if z.length≤sizeLine then some (.int z.length)else none:=rfl
@[simp] theorem Zfi:YS (.lst xs)=some (.int xs.length):=rfl
@[simp] theorem Znt:YS (.tup xs)=some (.int xs.length):=rfl
@[simp] theorem Zve:YS (.U7 ns)=some (.int (ns.map D.int).length):=rfl
@[simp] theorem Zts:wA (.lst xs)=some (.lst xs):=rfl
@[simp] theorem Ztt:wA (.tup xs)=some (.lst xs):=rfl
@[simp] theorem ZsV:BL (.lst xs)=some (.tup xs):=rfl
@[simp] theorem ZsW:BL (.tup xs)=some (.tup xs):=rfl
@[simp] theorem Ztu:Zer (.int i)=some (.int i):=rfl
@[simp] theorem Zvf:Zer (.bl u)=some (.int (if u then 1 else 0)):=rfl
@[simp] theorem Znu:w6 any (.lst xs)=(bls xs).map fun bs=> .bl (if any then bs.any id else bs.all id):=rfl
@[simp] theorem Zvg:Zw7 (.lst xs)=(Zkw xs).map fun bs=> .int bs.sum:=rfl
@[simp] theorem ZxV (f:Int→Int→Int):g2I f (.int i) (.int j)=some (.int (f i j)):=rfl
@[simp] theorem Zwp:itF (.lst xs)= .ok xs:=rfl
@[simp] theorem Zwq:itF (.tup xs)= .ok xs:=rfl
@[simp] theorem Zwr:itF (.U7 ns)= .ok (ns.map .int):=rfl
@[simp] theorem Zws:itF (.str z)=if(signs z).length≤sizeLine then .ok (signs z)else .no:=rfl
@[simp] theorem ZjO:ZhY [.int j]=if-(2^62)≤j∧j<2^62∧j.toNat≤sizeLine then .ok (DY 0 j.toNat)else .no:=rfl
@[simp] theorem Zwt:Zrg (some xs) (some ys)=if xs.length≤sizeLine then .ok (Zkr xs ys)else .no:=rfl
@[simp] theorem Znv:ZhU (.lst xs)=some xs:=rfl
@[simp] theorem Znw:ZhU (.tup xs)=some xs:=rfl
@[simp] theorem Zvh:ZlT (.tup xs)=if xs.length≤sizeLine then .ok (Wt xs)else .no:=rfl
@[simp] theorem Zvi:ZqI (.lst xs)=if xs.length≤sizeLine then .ok (Wt xs)else .no:=rfl
@[simp] theorem Znx:Bx [] e=some e:=rfl
@[simp] theorem ZkP (g:FG) (r:List D→Zq→Option Zq):QX g r (x::ds) e=(g x e).bind fun e1=>r ds e1:=rfl
@[simp] theorem Zny (n:Nat) (r:List D→Zq→Option Zq):NK n r (.tup ds) e=if ds.length=n then r ds e else none:=rfl
@[simp] theorem Zvj (n:String) (h:n∈YX):VP n .non=some (.bl (YB "NoneType" n)):=by unfold VP;rw[if_pos h];rfl
@[simp] theorem Zwu (n:String) (h:n∈YX):VP n (.bl u)=some (.bl (YB "bool" n)):=by unfold VP;rw[if_pos h];rfl
@[simp] theorem Zvk (n:String) (h:n∈YX):VP n (.int i)=some (.bl (YB "int" n)):=by unfold VP;rw[if_pos h];rfl
@[simp] theorem Zvl (n:String) (h:n∈YX):VP n (.str z)=some (.bl (YB "str" n)):=by unfold VP;rw[if_pos h];rfl
@[simp] theorem Zvm (n:String) (h:n∈YX):VP n (.lst xs)=some (.bl (YB "list" n)):=by unfold VP;rw[if_pos h];rfl
@[simp] theorem Zvn (n:String) (h:n∈YX):VP n (.tup xs)=some (.bl (YB "tuple" n)):=by unfold VP;rw[if_pos h];rfl
@[simp] theorem Zvo (n:String) (kvs:List (Key×D)) (h:n∈YX):VP n (.U0 kvs)=some (.bl (YB "dict" n)):=by unfold VP;rw[if_pos h];rfl
end
theorem X7{α:Type}{el:D→Rs (Option D)}(enc F:α→D){xs:List α}(h: ∀a∈xs,el (enc a)= .ok (some (F a))):qT el (xs.map enc)= .ok (xs.map F):=by
 induction xs with
 |nil=>rfl
 |cons x xs ih=>rw[List.map_cons,qT,h x List.mem_cons_self,Bw,ih fun a ha=>h a (List.mem_cons_of_mem _ ha)];rfl
theorem TX{α:Type}{el:D→Rs (Option D)}(enc F:α→D)(c:α→Bool){xs:List α}(h: ∀a∈xs,el (enc a)= .ok (if c a=true then some (F a)else none)):qT el (xs.map enc)= .ok ((xs.filter c).map F):=by
 induction xs with
 |nil=>rfl
 |cons x xs ih=>
  rw[List.map_cons,qT,h x List.mem_cons_self,Bw,ih fun a ha=>h a (List.mem_cons_of_mem _ ha)]
  cases e:c x with
  |true=>rw[List.filter_cons_of_pos e];rfl
  |false=>rw[List.filter_cons_of_neg (by rw[e];decide)];rfl
theorem Ko{el:D→Rs (Option D)}(F:D→D){xs:List D}(h: ∀a∈xs,el a= .ok (some (F a))):qT el xs= .ok (xs.map F):=by
 have:=X7 (el:=el) (fun d:D=>d) F (xs:=xs) h
 rwa[List.map_id']at this
theorem Znz{el:D→Rs (Option D)}(F:D→D)(c:D→Bool){xs:List D}(h: ∀a∈xs,el a= .ok (if c a=true then some (F a)else none)):qT el xs= .ok ((xs.filter c).map F):=by
 have:=TX (el:=el) (fun d:D=>d) F c (xs:=xs) h
 rwa[List.map_id']at this
end Bk
namespace Bk
open PySem PySem.Spec PyProof.Rows L2
def Rs.out{α:Type}:Rs α→Zq→(α→Out)→Out
 | .ok a,_,f=>f a
 | .ex x,e,_=> .ex x e
 | .no,_,_=> .no
def Out.andThen:Out→FS→Out
 | .nx e,g=>g e
 | .rt d,_=> .rt d
 | .bk e,_=> .bk e
 | .ct e,_=> .ct e
 | .ex x e,_=> .ex x e
 | .no,_=> .no
def Out.turn(W:List Nat):Out→FS→Out
 | .nx e,k=>k (Jk e W)
 | .ct e,k=>k (Jk e W)
 | .bk e,_=> .nx (Jk e W)
 | .rt d,_=> .rt d
 | .ex x e,_=> .ex x e
 | .no,_=> .no
def TY:Option Zq→FS→Out
 |some e,k=>k e
 |none,_=> .no
def Out.fn:Out→Rs D
 | .nx _=> .ok .non
 | .rt d=> .ok d
 | .ex x _=> .ex x
 | .bk _=> .no
 | .ct _=> .no
 | .no=> .no
section
variable{α:Type}{a:α}{x:Ex}{e:Zq}{f:α→Out}{g:FS}{W:List Nat}{d:D}{xs:List D}{kvs:List (Key×D)}{key:Key}{h:Zq→Zq}{kn:List Str}{m:Str}
@[simp] theorem ZcV:(Rs.ok a).out e f=f a:=rfl
@[simp] theorem ZxW:(Rs.ex x:Rs α).out e f= .ex x e:=rfl
@[simp] theorem ZxX:(Rs.no:Rs α).out e f= .no:=rfl
@[simp] theorem ZjP:(Out.nx e).andThen g=g e:=rfl
@[simp] theorem ZpE:(Out.rt d).andThen g= .rt d:=rfl
@[simp] theorem Zwv:(Out.bk e).andThen g= .bk e:=rfl
@[simp] theorem Zww:(Out.ct e).andThen g= .ct e:=rfl
@[simp] theorem Zwx:(Out.ex x e).andThen g= .ex x e:=rfl
@[simp] theorem Zwy:Out.no.andThen g= .no:=rfl
@[simp] theorem Zwz:(Out.nx e).turn W g=g (Jk e W):=rfl
@[simp] theorem ZwA:(Out.ct e).turn W g=g (Jk e W):=rfl
@[simp] theorem ZwB:(Out.bk e).turn W g= .nx (Jk e W):=rfl
@[simp] theorem turn_rt:(Out.rt d).turn W g= .rt d:=rfl
@[simp] theorem ZwC:(Out.ex x e).turn W g= .ex x e:=rfl
@[simp] theorem ZwD:Out.no.turn W g= .no:=rfl
@[simp] theorem ZkQ:TY (some e) g=g e:=rfl
@[simp] theorem Ztv:TY none g= .no:=rfl
@[simp] theorem ZyY:(Out.nx e).fn= .ok .non:=rfl
@[simp] theorem ZqJ:(Out.rt d).fn= .ok d:=rfl
@[simp] theorem ZyZ:(Out.ex x e).fn= .ex x:=rfl
@[simp] theorem Zy0:Out.no.fn= .no:=rfl
end
section
variable{p:Prop}[Decidable p]
@[simp] theorem ZwE {α:Type} {a b:Rs α} {e:Zq} {f:α→Out}:(if p then a else b).out e f=if p then a.out e f else b.out e f:=by split<;>rfl
@[simp] theorem Zvp {a b:Out} {f:FS}:(if p then a else b).andThen f=if p then a.andThen f else b.andThen f:=by split<;>rfl
@[simp] theorem Zvq {W:List Nat} {a b:Out} {f:FS}:(if p then a else b).turn W f=if p then a.turn W f else b.turn W f:=by split<;>rfl
@[simp] theorem ZxY {a b:Out}:(if p then a else b).fn=if p then a.fn else b.fn:=by split<;>rfl
end
def Out.ZcW(f:Zq→Zq):Out→Out
 | .nx e=> .nx (f e)
 | .rt d=> .rt d
 | .bk e=> .bk (f e)
 | .ct e=> .ct (f e)
 | .ex x e=> .ex x (f e)
 | .no=> .no
section
variable{M:List Nat}{a b c:FX}{wa wb wc:Exp}{t u:FT}{wt wu:Xp}{r:FA}{wr:Arg}{n:Nat}{f g:FS}{w v:Yh}{s0 ws:S}{fe we:Zq}
theorem Rl.refl(h:Rl M s0 fe we ws):Rl M s0 fe we ws:=h
theorem run_out{α:Type}{r:Rs α}{e:Zq}{k:α→Out}{DD:Ru}(h:(r.out e k).run M s0 DD)(hr:Rl M s0 e we ws):r.run (fun a=>(k a).run M s0 DD) (fun x=>DD.ex x we ws):=by
 cases r with
 |ok a=>exact h
 |ex x=>exact h we ws hr
 |no=>exact h
@[simp] def ZS (e:Zq):Out:= .nx e
@[simp] def ZxZ (e:Zq):Out:= .bk e
@[simp] def Zy1 (e:Zq):Out:= .ct e
@[simp] def ZP (f g:FS) (e:Zq):Out:=(f e).andThen g
@[simp] def ZhZ (a:FX) (e:Zq):Out:=(a e).out e fun _=> .nx e
@[simp] def Qg (a:FX) (e:Zq):Out:=(a e).out e .rt
@[simp] def Zy2 (_:Zq):Out:= .rt .non
@[simp] def Ql (t:FT) (f g:FS) (e:Zq):Out:=(t e).out e fun b=>if b=true then f e else g e
@[simp] def Qu (i:Nat) (a:FX) (e:Zq):Out:=(a e).out e fun d=> .nx (Jh e i (some d))
@[simp] def ZoC (a:FX) (g:FG) (e:Zq):Out:=(a e).out e fun d=>TY (g d e) .nx
@[simp] def X8 (n x:Str) (a:FX) (e:Zq):Out:=(a e).out e fun d=> .ex ⟨n,[(x,d)]⟩ e
theorem Z8:AS M ZS QD:=fun s0 fe we ws h DD q=>q we ws h
theorem ZK(hf:AS M f w)(hg:AS M g v):AS M (ZP f g) (ZV w v):=fun s0 fe we ws h DD q=>by
 refine hf s0 fe we ws h _ ?_
 unfold ZP at q
 cases e:f fe with
 |nx e'=>rw[e]at q;exact fun jB ws' h'=>hg s0 e' jB ws' h' DD q
 |rt d=>rw[e]at q;exact q
 |bk e'=>rw[e]at q;exact q
 |ct e'=>rw[e]at q;exact q
 |ex x e'=>rw[e]at q;exact q
 |no=>rw[e]at q;exact q
theorem Qc(ha:AX M a wa):AS M (Qg a) (QJ wa):=fun s0 fe we ws h DD q=>ha s0 fe we ws h _ _ (ZF (run_out q h) (fun d q=>q ws h.sub) fun _ k=>k)
theorem Q6(ht:AT M t wt)(hf:AS M f w)(hg:AS M g v):AS M (Ql t f g) (Jv wt w v):=fun s0 fe we ws h DD q=>by
 refine ht s0 fe we ws h _ _ (ZF (run_out q h) (fun b q=> ?_) fun _ k=>k)
 cases b
 ·exact hg s0 fe we ws h DD q
 ·exact hf s0 fe we ws h DD q
theorem Jr(i:Nat)(ha:AX M a wa)(hi:i∉M:=by decide):AS M (Qu i a) (Jo i wa):=fun s0 fe we ws h DD q=>
 ha s0 fe we ws h _ _ (ZF (run_out q h) (fun d q=>q _ ws (h.ZoB hi)) fun _ k=>k)
theorem pC(i:Nat)(ha:AM M a wa)(hi:i∈M:=by decide):AS M (Qu i a) (Jo i wa):=fun s0 fe we ws h DD q=>
 ha s0 fe we ws h _ _ (ZF (run_out q h) (fun d q p o ho hp=>q _ _ (h.setM hi hp ho)) fun _ k=>k)
theorem ZrY{g:FG}{wg:DG}(ha:AX M a wa)(hg:AG M g wg):AS M (ZoC a g) (wR wa wg):=fun s0 fe we ws h DD q=>by
 refine ha s0 fe we ws h _ _ (ZF (run_out q h) (fun d q=> ?_) fun _ k=>k)
 cases he:g d fe with
 |none=>rw[he]at q;exact q.elim
 |some e1=>
  rw[he]at q
  exact hg s0 fe we ws h d e1 he _ fun yu r1=>q yu ws r1
theorem qp{m x:Str}(ha:AX M a wa):AS M (X8 m x a) (qR m x wa):=fun s0 fe we ws h DD q=>
 ha s0 fe we ws h _ _ (ZF (run_out q h) (fun d q=>q we ws h) fun _ k=>k)
theorem qU(hr:AA M n r wr)(hn:n≤10000:=by decide):AM M (JX r) (cD wr):=fun s0 fe we ws h R E q=>
 hr s0 fe we ws h _ E (ZF (run_bind.mp q) (fun ds q hl=>⟨sz _ (by omega),fun p hp=>q p _ rfl hp⟩) fun _ k=>k)
@[simp] def yw (_:Zq):Rs D:= .ok (.U0 [])
theorem ZnA:AX M yw Zg7:=fun s0 fe we ws h R E q=>q
def yx:List (FX×FX)→Zq→Rs (List (D×D))
 |[],_=> .ok []
 |(k,v)::r,e=>(k e).bind fun x=>(v e).bind fun y=>(yx r e).bind fun ps=> .ok ((x,y)::ps)
@[simp] def Zy3 (fs:List (FX×FX)) (e:Zq):Rs D:=(yx fs e).bind fun ps=>match ps.mapM (fun p=>(keyD p.1).map fun k=>(k,p.2))with
  |some kvs=>if kvs.length≤15 then .ok (.U0 (qP [] kvs))else .no
  |none=> .no
def atL:Option D→(List D→Out)→Out
 |some (.lst xs),k=>k xs
 |_,_=> .no
def atK:Option D→(List (Key×D)→Out)→Out
 |some (.U0 kvs),k=>k kvs
 |_,_=> .no
def Ztw:Option Key→(Key→Out)→Out
 |some k,f=>f k
 |none,_=> .no
@[simp] def Nf (i:Nat) (a:FX) (e:Zq):Out:=atL (nth e i) fun xs=>(a e).out e fun y=>if xs.length<sizeLine then .nx (Jh e i (some (.lst (xs++[y]))))else .no
theorem Bf(i:Nat)(ha:AX M a wa)(hi:i∈M:=by decide):AS M (Nf i a) (Xk (Zf i) wa):=fun s0 fe we ws h DD q=>by
 unfold Nf atL at q
 split at q
 ·rename_i k xs hx
  obtain⟨p,o,h1,h2,h3,h4⟩:=h.mu i _ hi hx
  cases h3
  unfold Xk Zf
  rw[h1]
  refine⟨⟨xs,h4⟩,ha s0 fe we ws h _ _ (ZF (run_out q h) (fun y q=> ?_) fun _ k=>k)⟩
  split at q
  ·rename_i hl
   exact⟨xs,h4,hl,q _ _ (h.chg hi hx h1 rfl)⟩
  ·exact q.elim
 ·exact q.elim
@[simp] def ZAa (i:Nat) (k v:FX) (e:Zq):Out:=(v e).out e fun y=>atK (nth e i) fun kvs=>(k e).out e fun x=>Ztw (keyD x) fun key=>if kvs.length<sizeLine then .nx (Jh e i (some (.U0 (dput kvs key y))))else .no
def Ztx:D→Option Key→Rs D
 | .U0 kvs,some key=>Rs.opt (dval kvs key)
 |_,_=> .no
@[simp] def ZAb (a k:FX) (e:Zq):Rs D:=(a e).bind fun d=>(k e).bind fun x=>Ztx d (keyD x)
def Zty(neg:Bool):D→Option Key→Rs D
 | .U0 kvs,some key=> .ok (.bl (if neg then !(dval kvs key).isSome else(dval kvs key).isSome))
 |_,_=> .no
@[simp] def ZAc (neg:Bool) (k a:FX) (e:Zq):Rs D:=(k e).bind fun x=>(a e).bind fun d=>Zty neg d (keyD x)
def asK:D→(List (Key×D)→Rs D)→Rs D
 | .U0 kvs,k=>k kvs
 |_,_=> .no
@[simp] def Zx0 (a k c:FX) (e:Zq):Rs D:=(a e).bind fun d=>asK d fun kvs=>(k e).bind fun x=>(c e).bind fun y=>(Rs.opt (keyD x)).bind fun key=> .ok ((dval kvs key).getD y)
def Zw9(xs:List D)(x:D):Option Nat:=xs.findIdx? fun z=>z.eqb x
def ZrZ:D→D→Rs D
 | .lst xs,x=>if x.YF=true∧(D.lst xs).YF=true then(Rs.opt (Zw9 xs x)).bind fun j=> .ok (.int (j:Nat))else .no
 |_,_=> .no
def asL:D→Rs D
 | .lst xs=> .ok (.lst xs)
 |_=> .no
@[simp] def Zx2 (a b:FX) (e:Zq):Rs D:=((a e).bind asL).bind fun d=>(b e).bind fun x=>ZrZ d x
@[simp] def Zh0 (i:Nat) (f:FS) (e:Zq):Out:=atL (nth e i) fun _=>(f e).ZcW fun e=>Jh e i none
theorem Zr0(i:Nat)(hf:AS (M.filter (· !=i)) f w)(hi:i∈M:=by decide)(h9:i<1000:=by decide):AS M (Zh0 i f) (ZlM i w):=fun s0 fe we ws h DD q=>by
 unfold Zh0 atL at q
 split at q
 ·rename_i k xs hx
  obtain⟨p,h1,h2,h3,h4⟩:=h.frz hi hx h9
  refine⟨p,xs,h1,h2,hf s0 fe _ _ h4 DD ?_⟩
  cases e:f fe with
  |nx e'=>rw[e]at q;exact fun jB ws' r=>q jB ws' (r.back h9)
  |rt d=>rw[e]at q;exact q
  |bk e'=>rw[e]at q;exact fun jB ws' r=>q jB ws' (r.back h9)
  |ct e'=>rw[e]at q;exact fun jB ws' r=>q jB ws' (r.back h9)
  |ex x e'=>rw[e]at q;exact fun jB ws' r=>q jB ws' (r.back h9)
  |no=>rw[e]at q;exact q
 ·exact q.elim
def Jy(g:FG)(f:FS)(W:List Nat):List D→Zq→Out
 |[],e=> .nx e
 |d::ds,e=>TY (g d e) fun e1=>(f e1).turn W (Jy g f W ds)
theorem zR{g:FG}{wg:DG}{W:List Nat}(hg:AG M g wg)(hf:AS M f w): ∀(ds:List D) (s0:S) (fe we:Zq) (ws:S),Rl M s0 fe we ws→ ∀DD:Ru,(Jy g f W ds fe).run M s0 DD→cG wg w DD ds we ws
 |[],s0,fe,we,ws,h,DD,q=>q we ws h
 |d::ds,s0,fe,we,ws,h,DD,q=>by
  unfold Jy at q
  unfold cG
  cases he:g d fe with
  |none=>rw[he]at q;exact q.elim
  |some e1=>
   rw[he]at q
   refine hg s0 fe we ws h d e1 he _ fun yu r1=> ?_
   refine hf s0 e1 yu ws r1 _ ?_
   simp only[TY]at q
   cases h2:f e1 with
   |nx e2=>
    rw[h2]at q
    exact fun we2 aO r2=>zR hg hf ds s0 _ we2 aO (r2.forgets W) DD q
   |ct e2=>
    rw[h2]at q
    exact fun we2 aO r2=>zR hg hf ds s0 _ we2 aO (r2.forgets W) DD q
   |bk e2=>
    rw[h2]at q
    exact fun we2 aO r2=>q we2 aO (r2.forgets W)
   |rt d2=>rw[h2]at q;exact q
   |ex x e2=>rw[h2]at q;exact q
   |no=>rw[h2]at q;exact q
@[simp] def Oh (i:FA) (g:FG) (f:FS) (W:List Nat) (e:Zq):Out:=(i e).out e fun ds=>Jy g f W ds e
theorem Oi{i:FA}{wi:Arg}{g:FG}{wg:DG}{W:List Nat}(hi:AW M i wi)(hg:AG M g wg)(hf:AS M f w):AS M (Oh i g f W) (Xj wi wg w):=fun s0 fe we ws h DD q=>
 hi s0 fe we ws h _ _ (ZF (run_out q h) (fun ds q _=>zR hg hf ds s0 fe we ws h DD q) fun _ k=>k)
def Kr(t:FT)(f:FS)(W:List Nat):Nat→Zq→Out
 |0,_=> .no
 |m+1,e=>(t e).out e fun b=>if b=true then(f e).turn W (Kr t f W m)else .nx e
theorem Zfj{W:List Nat}(m:Nat)(ht:AT M t wt)(hf:AS M f w):AS M (Kr t f W m) (yd wt w):=fun s0 fe we ws h DD q=>by
 refine⟨fun k e s=> ∃fe',Rl M s0 fe' e s∧(Kr t f W k fe').run M s0 DD,⟨m,fe,h,q⟩, ?_⟩
 rintro k e s ⟨fe',r,q⟩
 cases k with
 |zero=>exact q.elim
 |succ k=>
  unfold Kr at q
  refine ht s0 fe' e s r _ _ (ZF (run_out q r) (fun b q=> ?_) fun _ k=>k)
  cases b
  ·exact q e s r
  ·simp only[if_true]at q⊢
   refine hf s0 fe' e s r _ ?_
   cases h2:f fe' with
   |nx e2=>
    rw[h2]at q
    exact fun we2 aO r2=>⟨k,Nat.lt_succ_self k,_,r2.forgets W,q⟩
   |ct e2=>
    rw[h2]at q
    exact fun we2 aO r2=>⟨k,Nat.lt_succ_self k,_,r2.forgets W,q⟩
   |bk e2=>
    rw[h2]at q
    exact fun we2 aO r2=>q we2 aO (r2.forgets W)
   |rt d2=>rw[h2]at q;exact q
   |ex x e2=>rw[h2]at q;exact q
   |no=>rw[h2]at q;exact q
def Out.xg(kn:List Str)(m:Str):Out→FS→Out
 | .ex x e',g=>if x.c∈kn then(if HF x.c m=true then g e' else .ex x e')else .no
 | .nx e,_=> .nx e
 | .rt d,_=> .rt d
 | .bk e,_=> .bk e
 | .ct e,_=> .ct e
 | .no,_=> .no
@[simp] theorem Zx3 {kn:List Str} {m:Str} {e:Zq} {g:FS}:(Out.nx e).xg kn m g= .nx e:=rfl
@[simp] theorem Zx4 {kn:List Str} {m:Str} {d:D} {g:FS}:(Out.rt d).xg kn m g= .rt d:=rfl
@[simp] theorem Zx5 {kn:List Str} {m:Str} {e:Zq} {g:FS}:(Out.bk e).xg kn m g= .bk e:=rfl
@[simp] theorem Zx6 {kn:List Str} {m:Str} {e:Zq} {g:FS}:(Out.ct e).xg kn m g= .ct e:=rfl
@[simp] theorem Zx7 {kn:List Str} {m:Str} {x:Ex} {e:Zq} {g:FS}:(Out.ex x e).xg kn m g=if x.c∈kn then(if HF x.c m=true then g e else .ex x e)else .no:=rfl
@[simp] theorem ZwF {p:Prop} [Decidable p] {kn:List Str} {m:Str} {a b:Out} {g:FS}:(if p then a else b).xg kn m g=if p then a.xg kn m g else b.xg kn m g:=by split<;>rfl
@[simp] def ZoD (kn:List Str) (m:Str) (f g:FS) (e:Zq):Out:=(f e).xg kn m g
theorem Zr1{kn:List Str}{m:Str}(hf:AS M f w)(hg:AS M g v):AS M (ZoD kn m f g) (Zre kn m w v):=fun s0 fe we ws h DD q=>by
 refine hf s0 fe we ws h _ ?_
 unfold ZoD at q
 cases e:f fe with
 |ex x e'=>
  rw[e]at q
  simp only[Out.xg]at q
  intro jB ws' r
  split at q
  ·rename_i hk
   refine⟨hk, ?_⟩
   split at q
   ·rename_i hs
    rw[if_pos hs]
    exact hg s0 e' jB ws' r DD q
   ·rename_i hs
    rw[if_neg hs]
    exact q jB ws' r
  ·exact q.elim
 |rt d=>rw[e]at q;exact q
 |bk e'=>rw[e]at q;exact q
 |ct e'=>rw[e]at q;exact q
 |nx e'=>rw[e]at q;exact q
 |no=>rw[e]at q;exact q
end
def RG(e:Zq):List Nat→List D→Zq
 |i::is,d::ds=>RG (Jh e i (some d)) is ds
 |_,_=>e
def qu:List FX→Zq→Rs (List D)
 |[],_=> .ok []
 |a::r,e=>(a e).bind fun d=>(qu r e).bind fun ds=> .ok (d::ds)
@[simp] def Mu (is:List Nat) (fs:List FX) (e:Zq):Out:=(qu fs e).out e fun ds=> .nx (RG e is ds)
section
variable{M:List Nat}{s0 ws:S}{fe we:Zq}
inductive Pd(M:List Nat)(s0:S)(fe we:Zq)(ws:S):List Nat→List D→List D→Prop
 |nil:Pd M s0 fe we ws [] [] []
 |val {i:Nat} {is:List Nat} {d:D} {ds ds':List D}:i∉M→Pd M s0 fe we ws is ds ds'→Pd M s0 fe we ws (i::is) (d::ds) (d::ds')
 |chg {i:Nat} {is:List Nat} {d:D} {ds ds':List D} {p:Addr} {o:MO}:i∈M→s0.mu p=none→Zbg d=some o→ws.mu p=some o→(∀j,j∈M→nth fe j≠none→nth we j≠some (.rf (.ref p)))→
   (∀j d',(j,d')∈is.zip ds'→j∈M→d'≠ .rf (.ref p))→Pd M s0 fe we ws is ds ds'→Pd M s0 fe we ws (i::is) (d::ds) (.rf (.ref p)::ds')
theorem Rl.jN(h:Rl M s0 fe we ws){i:Nat}{d:D}{p:Addr}{o:MO}(hi:i∈M)(h0:s0.mu p=none)(ho:Zbg d=some o)(hp:ws.mu p=some o)(hn: ∀j,j∈M→nth fe j≠none→nth we j≠some (.rf (.ref p))):Rl M s0 (Jh fe i (some d)) (Jh we i (some (.rf (.ref p)))) ws:=by
 refine⟨by rw[Uk,Uk,h.len],h.sub,fun j x hj hv e=> ?_,fun j x hj hv e=> ?_,fun j x hj e=> ?_,fun j k q hj hk hjk e1 e2 e3=> ?_⟩
 ·have ne:i≠j:=fun z=>hj (z▸hi)
  rw[Qs,if_neg (fun z=>ne z.1)]at e⊢
  exact h.im j x hj hv e
 ·have ne:i≠j:=fun z=>hj (z▸hi)
  rw[Qs,if_neg (fun z=>ne z.1)]at e⊢
  exact h.vr j x hj hv e
 ·rw[Qs]at e⊢
  rw[←h.len]
  split at e
  ·rename_i z
   rw[if_pos z]
   cases e
   exact⟨p,o,rfl,h0,ho,hp⟩
  ·rename_i z
   rw[if_neg z]
   exact h.mu j x hj e
 ·rw[Qs,←h.len]at e3
  rw[Qs]at e1 e2
  rw[Qs,←h.len]
  by_cases z1:i=j∧i<fe.length
  ·rw[if_pos z1]at e3
   cases e3
   have z2: ¬(i=k∧i<fe.length):=fun z=>hjk (z1.1.symm.trans z.1)
   rw[if_neg z2]at e2⊢
   exact hn k hk e2
  ·rw[if_neg z1]at e1 e3
   by_cases z2:i=k∧i<fe.length
   ·rw[if_pos z2]
    intro z
    cases z
    exact hn j hj e1 e3
   ·rw[if_neg z2]at e2⊢
    exact h.inj j k q hj hk hjk e1 e2 e3
theorem qW: ∀{is:List Nat} {ds ds':List D} {fe we:Zq},Pd M s0 fe we ws is ds ds'→Rl M s0 fe we ws→Rl M s0 (RG fe is ds) (RG we is ds') ws
 |_,_,_,fe,we, .nil,h=>h
 |_,_,_,fe,we, .val (i:=i) (d:=d) hi r,h=>by
  have tr: ∀{is:List Nat} {ds ds':List D},Pd M s0 fe we ws is ds ds'→Pd M s0 (Jh fe i (some d)) (Jh we i (some d)) ws is ds ds':=by
   intro is ds ds' r
   induction r with
   |nil=>exact .nil
   |val a _ ih=>exact .val a ih
   |chg a b c e f g _ ih=>
    refine .chg a b c e (fun j hj e1=> ?_) g ih
    have ne:i≠j:=fun z=>hi (z▸hj)
    rw[Qs,if_neg (fun z=>ne z.1)]at e1⊢
    exact f j hj e1
  have z:=qW (tr r) (h.ZoB hi)
  exact z
 |_,_,_,fe,we, .chg (i:=i) (d:=d) (p:=p) hi h0 ho hp hn hd r,h=>by
  have tr: ∀{is:List Nat} {ds ds':List D},(∀j d',(j,d')∈is.zip ds'→j∈M→d'≠ .rf (.ref p))→Pd M s0 fe we ws is ds ds'→Pd M s0 (Jh fe i (some d)) (Jh we i (some (.rf (.ref p)))) ws is ds ds':=by
   intro is ds ds' hz r
   induction r with
   |nil=>exact .nil
   |val a _ ih=>exact .val a (ih fun j d' hm=>hz j d' (List.mem_cons_of_mem _ hm))
   |chg a b c e f g _ ih=>
    refine .chg a b c e (fun j hj e1=> ?_) g (ih fun j d' hm=>hz j d' (List.mem_cons_of_mem _ hm))
    have hne:=hz _ _ List.mem_cons_self a
    rw[Qs]at e1⊢
    rw[←h.len]
    split
    ·intro z;cases z;exact hne rfl
    ·rename_i z
     rw[if_neg z]at e1
     exact f j hj e1
  have z:=qW (tr hd r) (h.jN hi h0 ho hp hn)
  exact z
theorem Pd.fresh{p:Addr}{o:MO}(hp:ws.mu p=none): ∀{is:List Nat} {ds ds':List D},Pd M s0 fe we ws is ds ds'→Pd M s0 fe we (ws.put p o) is ds ds'∧ ∀j d',(j,d')∈is.zip ds'→j∈M→d'≠ .rf (.ref p):=by
 intro is ds ds' r
 induction r with
 |nil=>exact⟨.nil,fun j d' hm=>(nomatch hm)⟩
 |val a _ ih=>
  refine⟨.val a ih.1,fun j d' hm hj=> ?_⟩
  rcases List.mem_cons.mp hm with e|hm
  ·cases e;exact(a hj).elim
  ·exact ih.2 j d' hm hj
 |chg a b c e f g _ ih=>
  refine⟨.chg a b c (by rw[jx (fun z=>by rw[z,hp]at e;cases e)];exact e) f g ih.1,fun j d' hm hj=> ?_⟩
  rcases List.mem_cons.mp hm with e2|hm
  ·cases e2
   intro z;cases z
   rw[hp]at e;cases e
  ·exact ih.2 j d' hm hj
inductive ACs(M:List Nat):List Nat→List FX→Arg→Prop
 |nil:ACs M [] [] Zo
 |val {i:Nat} {is:List Nat} {a:FX} {wa:Exp} {fs:List FX} {r:Arg}:i∉M→AX M a wa→ACs M is fs r→ACs M (i::is) (a::fs) (Zd wa r)
 |chg {i:Nat} {is:List Nat} {a:FX} {wa:Exp} {fs:List FX} {r:Arg}:i∈M→AM M a wa→ACs M is fs r→ACs M (i::is) (a::fs) (Zd wa r)
theorem pD: ∀{is:List Nat} {fs:List FX} {r:Arg},ACs M is fs r→ ∀(ws:S),Rl M s0 fe we ws→ ∀(R:List D→S→Prop) (E:XQ),
  (qu fs fe).run (fun ds=> ∀ds' ws',Rl M s0 fe we ws'→Pd M s0 fe we ws' is ds ds'→ds'.length=is.length→(∀p o,ws.mu p=some o→ws'.mu p=some o)→(∀p,ws.mu p≠none→ ∀j d',(j,d')∈is.zip ds'→j∈M→d'≠ .rf (.ref p))→R ds' ws') (fun x=> ∀ws',Rl M s0 fe we ws'→E x ws')→r we ws R E
 |_,_,_, .nil,ws,h,R,E,q=>q [] ws h .nil rfl (fun _ _ z=>z) fun _ _ _ _ hm=>(nomatch hm)
 |_,_,_, .val hi ha hr,ws,h,R,E,q=>by
  refine ha s0 fe we ws h _ E (ZF (run_bind.mp q) (fun x q=> ?_) fun _ k=>k ws h)
  refine pD hr ws h _ E (ZF (run_bind.mp q) (fun ds q ds' ws' h' pd hl mm nn=> ?_) fun _ k=>k)
  refine q _ ws' h' (.val hi pd) (by rw[List.length_cons,List.length_cons,hl]) mm fun p hp j d' hm hj=> ?_
  rcases List.mem_cons.mp hm with e|hm
  ·cases e;exact(hi hj).elim
  ·exact nn p hp j d' hm hj
 |_,_,_, .chg (a:=a) hi ha hr,ws,h,R,E,q=>by
  refine ha s0 fe we ws h _ E (ZF (run_bind.mp q) (fun x q p o ho hp=> ?_) fun _ k=>k ws h)
  have h1:=h.fresh (o:=o) hp
  refine pD hr _ h1 _ E (ZF (run_bind.mp q) (fun ds q ds' ws' h' pd hl mm nn=> ?_) fun _ k=>k)
  have hpp:=mm p o WR
  refine q _ ws' h' (.chg hi (ql h.sub hp) ho hpp (fun j hj hn z=> ?_) (nn p (by rw[WR];exact fun z=>by cases z)) pd) (by rw[List.length_cons,List.length_cons,hl]) (fun p2 o2 z=>mm p2 o2 (by rw[jx (fun y=>by rw[y,hp]at z;cases z)];exact z)) fun p2 hp2 j d' hm hj=> ?_
  ·cases e:nth fe j with
   |none=>exact hn e
   |some y=>
    obtain⟨p',o',g1,_,_,g4⟩:=h.mu j y hj e
    rw[g1]at z
    cases z
    rw[hp]at g4;cases g4
  ·rcases List.mem_cons.mp hm with e|hm
   ·cases e
    intro z
    cases z
    exact hp2 hp
   ·refine nn p2 ?_ j d' hm hj
    by_cases z:p2=p
    ·rw[z,WR];exact fun y=>by cases y
    ·rw[jx z];exact hp2
theorem Zhd{i j:Nat}{fs:List FX}{r:Arg}(h:ACs M [i,j] fs r):AS M (Mu [i,j] fs) (dPar i j r):=fun s0 fe we ws hr DD q=>by
 refine pD h ws hr _ _ (ZF (r:=qu fs fe) (R:=fun ds=>(Out.nx (RG fe [i,j] ds)).run M s0 DD) (E:=fun x=> ∀jB ws',Rl M s0 fe jB ws'→DD.ex x jB ws') ?_ (fun ds q ds' ws' h' pd hl _ _=> ?_) fun x k ws' h'=>k we ws' h')
 ·unfold Mu at q
  cases e:qu fs fe with
  |ok ds=>rw[e]at q;exact q
  |ex x=>rw[e]at q;exact q
  |no=>rw[e]at q;exact q
 ·match ds',hl with
  |[x,y],_=>exact q _ ws' (qW pd h')
theorem ZpF{i j l:Nat}{fs:List FX}{r:Arg}(h:ACs M [i,j,l] fs r):AS M (Mu [i,j,l] fs) (ZlL i j l r):=fun s0 fe we ws hr DD q=>by
 refine pD h ws hr _ _ (ZF (r:=qu fs fe) (R:=fun ds=>(Out.nx (RG fe [i,j,l] ds)).run M s0 DD) (E:=fun x=> ∀jB ws',Rl M s0 fe jB ws'→DD.ex x jB ws') ?_ (fun ds q ds' ws' h' pd hl _ _=> ?_) fun x k ws' h'=>k we ws' h')
 ·unfold Mu at q
  cases e:qu fs fe with
  |ok ds=>rw[e]at q;exact q
  |ex x=>rw[e]at q;exact q
  |no=>rw[e]at q;exact q
 ·match ds',hl with
  |[x,y,z],_=>exact q _ ws' (qW pd h')
def Zhe:List Nat→o7
 |[]=>Ny
 |i::is=>Jm (Z6 i) (Zhe is)
theorem Zay: ∀(is:List Nat) (ds:List D) (e:Zq) (s:S) (R:Zq→S→Prop),ds.length=is.length→R (RG e is ds) s→Zhe is ds e s R
 |[],[],_,_,_,_,q=>⟨rfl,q⟩
 |[],_::_,_,_,_,h,_=>by cases h
 |_::_,[],_,_,_,h,_=>by cases h
 |i::is,d::ds,e,s,R,h,q=>Zay is ds (Jh e i (some d)) s R (Nat.succ.inj h) q
theorem ZpG{is:List Nat}{fs:List FX}{r:Arg}(h:ACs M is fs r){n:Nat}{wg:o7}(hn:n=is.length:=by rfl)(hg:wg=Zhe is:=by rfl)(hs:is.length≤100:=by decide):AS M (Mu is fs) (wR (dTup r) (Nz n wg)):=fun s0 fe we ws hr DD q=>by
 subst hn hg
 refine pD h ws hr _ _ (ZF (r:=qu fs fe) (R:=fun ds=>(Out.nx (RG fe is ds)).run M s0 DD) (E:=fun x=> ∀jB ws',Rl M s0 fe jB ws'→DD.ex x jB ws') ?_ (fun ds q ds' ws' h' pd hl _ _=> ?_) fun x k ws' h'=>k we ws' h')
 ·unfold Mu at q
  cases e:qu fs fe with
  |ok ds=>rw[e]at q;exact q
  |ex x=>rw[e]at q;exact q
  |no=>rw[e]at q;exact q
 ·exact⟨sz _ (by omega),hl,Zay is ds' we ws' _ hl (q _ ws' (qW pd h'))⟩
end
theorem Mv{N:List Str}: ∀{ds:List D} {i:Nat},ds.length≤i→nth (ZC N ds) i=none:=by
 have rp: ∀k i:Nat,nth (List.replicate k (none:Option D)) i=none:=by
  intro k
  induction k with
  |zero=>intro i;rfl
  |succ k ih=>
   intro i
   cases i with
   |zero=>rfl
   |succ i=>exact ih i
 have go: ∀(ds:List D) (k i:Nat),ds.length≤i→nth (ds.map some++List.replicate k (none:Option D)) i=none:=by
  intro ds
  induction ds with
  |nil=>intro k i _;exact rp k i
  |cons d ds ih=>
   intro k i h
   cases i with
   |zero=>cases h
   |succ i=>exact ih k i (Nat.le_of_succ_le_succ h)
 exact fun{ds i} h=>go ds _ i h
theorem Bu{M:List Nat}{f:FS}{w:Yh}{N:List Str}{n:Nat}(h:AS M f w)(hM: ∀i∈M,n≤i:=by decide): ∀ds s R E,ds.length=n→pF (fun ds=>(f (ZC N ds)).fn) ds s R E→w (Qx R E) (ZC N ds) s:=fun ds s R E hl q=>by
 refine h s (ZC N ds) (ZC N ds) s ⟨rfl,Sub.refl s,fun _ _ _ _ z=>z,fun _ _ _ _ z=>⟨_,z, .inl rfl⟩,fun i d hi e=> ?_,fun i j p hi _ _ e=> ?_⟩ _ ?_
 ·rw[Mv (by rw[hl];exact hM i hi)]at e;cases e
 ·exact(e (Mv (by rw[hl];exact hM i hi))).elim
 ·replace q:((f (ZC N ds)).fn).run (fun d=>R d s) (fun x=>E x s):=q
  cases e:f (ZC N ds)with
  |nx e'=>rw[e]at q;exact fun we ws r=>⟨s,r.sub,q⟩
  |rt d=>rw[e]at q;exact fun ws r=>⟨s,r,q⟩
  |bk e'=>rw[e]at q;exact q.elim
  |ct e'=>rw[e]at q;exact q.elim
  |ex x e'=>rw[e]at q;exact fun we ws r=>⟨s,r.sub,q⟩
  |no=>rw[e]at q;exact q
inductive VRs(s:S):List Bool→List D→List D→Prop
 |nil:VRs s [] [] []
 |val {d:D} {V:List Bool} {ds es:List D}:VRs s V ds es→VRs s (false::V) (d::ds) (d::es)
 |ref {d' d:D} {V:List Bool} {ds es:List D}:bM s d' d→VRs s V ds es→VRs s (true::V) (d'::ds) (d::es)
theorem VRs.len{s:S}{V:List Bool}{ds es:List D}(h:VRs s V ds es):ds.length=es.length∧V.length=ds.length:=by
 induction h with
 |nil=>exact⟨rfl,rfl⟩
 |val _ ih=>exact⟨congrArg (· +1) ih.1,congrArg (· +1) ih.2⟩
 |ref _ _ ih=>exact⟨congrArg (· +1) ih.1,congrArg (· +1) ih.2⟩
section
variable{e:Zq}{d:D}{xs ds:List D}{kvs:List (Key×D)}{key:Key}{k:List D→Out}{kk:List (Key×D)→Out}{f:Key→Out}{i:Nat}{is:List Nat}{a b:FX}{r:List FX}{rr:List (FX×FX)}{neg:Bool}{h:Zq→Zq}{x:Ex}
@[simp] theorem Zvr:atL (some (.lst xs)) k=k xs:=rfl
@[simp] theorem Zvs:atK (some (.U0 kvs)) kk=kk kvs:=rfl
@[simp] theorem Ztz:Ztw (some key) f=f key:=rfl
@[simp] theorem ZtA:Ztx (.U0 kvs) (some key)=Rs.opt (dval kvs key):=rfl
@[simp] theorem ZtB:Zty neg (.U0 kvs) (some key)= .ok (.bl (if neg then !(dval kvs key).isSome else(dval kvs key).isSome)):=rfl
@[simp] theorem ZwG {k:List (Key×D)→Rs D}:asK (.U0 kvs) k=k kvs:=rfl
@[simp] theorem ZwH:asL (.lst xs)= .ok (.lst xs):=rfl
@[simp] theorem Zvt (i:Int):keyD (.int i)=some (.inl i):=rfl
@[simp] theorem Zvu (x:Str):keyD (.str x)=some (.inr x):=rfl
@[simp] theorem ZtC:RG e [] ds=e:=by cases ds<;>rfl
@[simp] theorem ZsX:RG e (i::is) (d::ds)=RG (Jh e i (some d)) is ds:=rfl
@[simp] theorem Zvv:qu [] e= .ok []:=rfl
@[simp] theorem ZtD:qu (a::r) e=(a e).bind fun d=>(qu r e).bind fun ds=> .ok (d::ds):=rfl
@[simp] theorem ZsY:yx [] e= .ok []:=rfl
@[simp] theorem Zrq:yx ((a,b)::rr) e=(a e).bind fun x=>(b e).bind fun y=>(yx rr e).bind fun ps=> .ok ((x,y)::ps):=rfl
@[simp] theorem ZwI:(Out.nx e).ZcW h= .nx (h e):=rfl
@[simp] theorem ZwJ:(Out.rt d).ZcW h= .rt d:=rfl
@[simp] theorem ZwK:(Out.ex x e).ZcW h= .ex x (h e):=rfl
@[simp] theorem ZwL:Out.no.ZcW h= .no:=rfl
@[simp] theorem Zvw {p:Prop} [Decidable p] {a b:Out}:(if p then a else b).ZcW h=if p then a.ZcW h else b.ZcW h:=by split<;>rfl
@[simp] theorem zU {x:Option D}:nth (x::e) 0=x:=rfl
@[simp] theorem nth_succ {x:Option D} {n:Nat}:nth (x::e) (n+1)=nth e n:=rfl
@[simp] theorem fY {x y:Option D}:Jh (x::e) 0 y=y::e:=rfl
@[simp] theorem fZ {x y:Option D} {n:Nat}:Jh (x::e) (n+1) y=x::Jh e n y:=rfl
@[simp] theorem ZtE:Jk e []=e:=rfl
@[simp] theorem ZsZ {vs:List Nat}:Jk e (i::vs)=Jh (Jk e vs) i none:=rfl
end
@[simp] theorem gj (N:List Str) (ds:List D):ZC N ds=ds.map some++List.replicate (N.length-ds.length) none:=rfl
end Bk
namespace Bk
open PySem PySem.Spec PyProof.Rows L2
def Zbh(g:FG)(t:FT)(i:FA)(inner:Zq→D→Rs (List D))(vs1:List Nat)(cat:(D→Rs (List D))→List D→Rs (List D))(e0:Zq)(d:D):Rs (List D):=match g d e0 with
 |none=> .no
 |some e1=>match t e1 with
  | .ok true=>match i e1 with
    | .ok its=>(cat (inner (Jk e1 vs1)) its).calm
    |_=> .no
  | .ok false=> .ok []
  |_=> .no
def qw(row:D→Rs (List D)):List D→Rs (List D)
 |[]=> .ok []
 |d::ds=>(row d).bind fun o=>(qw row ds).bind fun ys=> .ok (o++ys)
def Ze7(g:FG)(t:FT)(a:FX)(e0:Zq)(d:D):Rs (List D):=(Yx g t a e0 d).bind fun o=> .ok o.toList
@[simp] def ZtF (i:FA) (g:FG) (t:FT) (i1:FA) (g1:FG) (t1:FT) (a:FX) (vs vs1:List Nat) (e:Zq):Rs D:=(i e).bind fun ds=>(qw (Zbh g t i1 (Ze7 g1 t1 a) vs1 qw (Jk e vs)) ds).calm.bind fun ys=>if ys.length≤sizeLine then .ok (.lst ys)else .no
@[simp] def Zxa (i:FA) (g:FG) (t:FT) (i1:FA) (g1:FG) (t1:FT) (i2:FA) (g2:FG) (t2:FT) (a:FX) (vs vs1 vs2:List Nat) (e:Zq):Rs D:=(i e).bind fun ds=>(qw (Zbh g t i1 (Zbh g1 t1 i2 (Ze7 g2 t2 a) vs2 qw) vs1 qw (Jk e vs)) ds).calm.bind fun ys=>if ys.length≤sizeLine then .ok (.lst ys)else .no
theorem bV{α:Type}{row:D→Rs (List D)}(enc:α→D)(F:α→List D){xs:List α}(h: ∀x∈xs,row (enc x)= .ok (F x)):qw row (xs.map enc)= .ok (xs.flatMap F):=by
 induction xs with
 |nil=>rfl
 |cons x xs ih=>rw[List.map_cons,qw,h x List.mem_cons_self,Bw,ih fun a ha=>h a (List.mem_cons_of_mem _ ha)];rfl
def qX:List D→Option (List Str)
 |[]=>some []
 | .str x::xs=>(qX xs).map (x:: ·)
 |_::_=>none
theorem Xy: ∀ns:List Str,qX (texts ns)=some ns
 |[]=>rfl
 |n::ns=>by
  show(qX (texts ns)).map (n:: ·)=_
  rw[Xy ns];rfl
theorem Zaz: ∀{xs:List D} {ns:List Str},qX xs=some ns→xs=texts ns
 |[],ns,h=>by cases h;rfl
 |x::xs,ns,h=>by
  cases x with
  |str z=>
   obtain⟨ms,h1,h2⟩:=Option.map_eq_some_iff.mp (show(qX xs).map (z:: ·)=some ns from h)
   subst h2
   rw[Zaz h1];rfl
  |_=>cases h
def ddS(ns:List Str):List Str:=ns.foldl (fun acc x=>if x∈acc then acc else acc++[x]) []
def ZjQ:F1
 | .lst xs=>(qX xs).bind fun ns=>if ns.length≤1000 then some (.int (ddS ns).length)else none
 |_=>none
theorem Zce(ns:List Str)(h:ns.length≤1000):ZjQ (.lst (texts ns))=some (.int (ddS ns).length):=by
 show(qX (texts ns)).bind _=_
 rw[Xy]
 show(if ns.length≤1000 then _ else _)=_
 rw[if_pos h]
theorem Zbe.sub{K:PySem.W.Frag}{T:Tb}{kn kn' ms fs:List Str}(A:Zbe K T kn ms fs)(h: ∀x∈kn',x∈kn):Zbe K T kn' ms fs:=
 ⟨fun c hc=>A.hold c (h c hc),fun c hc=>A.kit c (h c hc),fun c hc=>A.exm c (h c hc),fun c hc=>A.nof c (h c hc)⟩
end Bk
namespace Bk
open PySem PySem.Spec PyProof.Rows L2
section
variable{g:FG}{f:FS}{W:List Nat}{e:Zq}
@[simp] theorem Zvx:Jy g f W [] e= .nx e:=rfl
theorem Wq{d:D}{ds:List D}:Jy g f W (d::ds) e=TY (g d e) fun e1=>(f e1).turn W (Jy g f W ds):=rfl
theorem ZcY{α:Type}(enc:α→D)(p:α→Bool)(o:α→Out){xs:List α}(h: ∀a∈xs,∀k:FS,(TY (g (enc a) e) fun e1=>(f e1).turn W k)=if p a=true then k e else o a):Jy g f W (xs.map enc) e=match xs.find? (fun a=> !p a)with
 |none=> .nx e
 |some a=>o a:=by
 induction xs with
 |nil=>rfl
 |cons x xs ih=>
  rw[List.map_cons,Wq,h x List.mem_cons_self,ih fun a ha=>h a (List.mem_cons_of_mem _ ha)]
  cases hp:p x with
  |true=>rw[if_pos rfl,List.find?_cons_of_neg (by rw[hp];decide)]
  |false=>rw[if_neg (by decide),List.find?_cons_of_pos (by rw[hp];rfl)]
theorem ZnB{α:Type}(enc:α→D)(p:α→Bool)(o:Out){xs:List α}(h: ∀a∈xs,∀k:FS,(TY (g (enc a) e) fun e1=>(f e1).turn W k)=if p a=true then k e else o):Jy g f W (xs.map enc) e=if xs.all p=true then .nx e else o:=by
 rw[ZcY enc p (fun _=>o) h]
 cases hf:xs.find? (fun a=> !p a)with
 |none=>
  have:=List.find?_eq_none.mp hf
  rw[if_pos (List.all_eq_true.mpr fun a ha=>by simpa using this a ha)]
 |some a=>
  have h1:=List.find?_some hf
  have h2:=List.mem_of_find?_eq_some hf
  rw[if_neg]
  intro z
  rw[List.all_eq_true.mp z a h2]at h1
  cases h1
theorem gq(p:D→Bool)(o:Out){xs:List D}(h: ∀a∈xs,∀k:FS,(TY (g a e) fun e1=>(f e1).turn W k)=if p a=true then k e else o):Jy g f W xs e=if xs.all p=true then .nx e else o:=by
 have:=ZnB (g:=g) (f:=f) (W:=W) (e:=e) (fun d:D=>d) p o (xs:=xs) h
 rwa[List.map_id']at this
theorem Mw(p:D→Bool)(o:Nat→D→Out){xs:List D}(h: ∀i a,xs[i]? =some a→ ∀k:FS,(TY (g (.tup [.int (i:Nat),a]) e) fun e1=>(f e1).turn W k)=if p a=true then k e else o i a):Jy g f W (Wt xs) e=match xs.findIdx? (fun a=> !p a)with
 |none=> .nx e
 |some i=>o i (xs[i]?.getD .non):=by
 have go: ∀(n:Nat) (ys:List D),(∀i a,ys[i]? =some a→ ∀k:FS,(TY (g (.tup [.int ((i+n:Nat):Int),a]) e) fun e1=>(f e1).turn W k)=if p a=true then k e else o (i+n) a)→Jy g f W (ys.mapIdx fun i d=> .tup [.int ((i+n:Nat):Int),d]) e=match ys.findIdx? (fun a=> !p a)with
   |none=> .nx e
   |some i=>o (i+n) (ys[i]?.getD .non):=by
  intro n ys
  induction ys generalizing n with
  |nil=>intro _;rfl
  |cons y ys ih=>
   intro h
   have h0:=h 0 y rfl
   rw[Nat.zero_add]at h0
   rw[List.mapIdx_cons,Wq,Nat.zero_add,h0]
   have ih':=ih (n+1) fun i a hi k=>by
    have:=h (i+1) a (by simpa using hi) k
    rwa[show i+1+n=i+(n+1)by omega]at this
   have e1:(fun(i:Nat) (d:D)=>D.tup [.int ((i+1+n:Nat):Int),d])=fun(i:Nat) (d:D)=>D.tup [.int ((i+(n+1):Nat):Int),d]:=by
    funext i d
    rw[show i+1+n=i+(n+1)by omega]
   rw[e1,ih']
   rw[List.findIdx?_cons]
   cases hp:p y with
   |true=>
    simp only[if_true,Bool.not_true,Bool.false_eq_true,if_false]
    cases ys.findIdx? (fun a=> !p a)with
    |none=>rfl
    |some i=>simp only[Option.map_some];rw[show i+(n+1)=i+1+n by omega];simp
   |false=>simp
 have:=go 0 xs (fun i a hi k=>by simpa using h i a hi k)
 simpa [Wt]using this
end
end Bk
namespace Bk
open PySem PySem.Spec PyProof.Rows L2
theorem Zcf(d b:Addr)(od:Obj)(es:Array DictEntry)(ep:Nat)(its2:Array Value)(n2:Nat)(dd2:Option Addr)(sl2:Array (Option Value)):
  Meets (Builtin.«dict.__eq__» ⟨[.ref d, .ref b],[]⟩) (fun _ R s=>s.heap.get? d=some od∧od.ExactDict∧od.data= .dict es ep∧s.heap.get? b=some {cls:= .type "tuple",dict:=dd2,data:= .seq its2 n2,slots:=sl2}∧R (.ok (.ret .notImplemented)) s):=
 .of_wp fun prog w A R s hs=>by
   obtain⟨h1,h2,h3,h4,hR⟩:=hs
   have nd:=PySem.F.sub_tuple_dict
   have td:s.TypeIs (.ref d) "dict" :=⟨od,h1,h2.1⟩
   have tb:s.TypeIs (.ref b) "tuple" :=⟨_,h4,rfl⟩
   show wpAny _ _ (Builtin.Dict.dictSlotArgs "__eq__" ⟨[.ref d, .ref b],[]⟩>>=_) _ _ s
   refine wpAny_bind ?_
   unfold Builtin.Dict.dictSlotArgs
   refine wpAny_bind (wpAny_notOrdered_dict td ?_)
   obtain⟨hp,g,dr,tk,os⟩:=s
   wp_walk
   exact⟨_,rfl,hR⟩
theorem Zes(b d:Addr)(od:Obj)(its2:Array Value)(n2:Nat)(dd2:Option Addr)(sl2:Array (Option Value)):
  Meets (Builtin.«tuple.__eq__» ⟨[.ref b, .ref d],[]⟩) (fun _ R s=>s.heap.get? b=some {cls:= .type "tuple",dict:=dd2,data:= .seq its2 n2,slots:=sl2}∧s.heap.get? d=some od∧od.ExactDict∧R (.ok (.ret .notImplemented)) s):=
 .of_wp fun prog w A R s hs=>by
   obtain⟨h1,h2,h3,hR⟩:=hs
   have nd:=PySem.F.sub_dict_tuple
   have td:s.TypeIs (.ref d) "dict" :=⟨od,h2,h3.1⟩
   have tb:s.TypeIs (.ref b) "tuple" :=⟨_,h1,rfl⟩
   obtain⟨hp,g,dr,tk,os⟩:=s
   obtain⟨c,q1,q2,q3⟩:=od
   have hc:c= .type "dict" :=h3.1
   subst hc
   wp_walk using wpAny_loadPart' h1,wpAny_loadPart' h2
   exact⟨_,rfl,hR⟩
theorem ZfY{A:Around}{s:Shared}{d b:Addr}{od:Obj}{es:Array DictEntry}{ep:Nat}{its:Array Value}(h1:s.heap.get? d=some od)(h2:od.ExactDict)(h3:od.data= .dict es ep)(hb:s.heap.IsTuple b its)(hu:A.units<cLine):SeqAt.RcAt A s (.ref d) (.ref b) false:=fun prog w E Q h=>by
 obtain⟨⟨c2,dd2,data2,sl2⟩,ho2,hc2,n2,hd2⟩:=id hb
 simp only at hc2 hd2
 subst hc2 hd2
 have ne:d≠b:=fun e=>by
  subst e
  rw[h1]at ho2
  cases ho2
  exact absurd h2.1 (by simp)
 exact SeqAt.rc_eq_decline_or (k:=false) ⟨od,h1,h2.1⟩ ⟨_,ho2,rfl⟩ (by decide) PySem.F.sub_tuple_dict PySem.F.slot_dict_eq PySem.F.slot_tuple_eq_refl
  (fun _ hq=>call_meets PySem.F.slot_dict_eq ⟨od,h1,h2.1⟩ PySem.F.entry_dict_eq (PySem.F.args_dict_eq_2 _ _) (Zcf d b od es ep its n2 dd2 sl2) ⟨h1,h2,h3,ho2,hq⟩)
  (fun _ hq=>call_meets PySem.F.slot_tuple_eq_refl ⟨_,ho2,rfl⟩ PySem.F.entry_tuple_eq (PySem.F.args_tuple_eq_2 _ _) (Zes b d od its n2 dd2 sl2) ⟨ho2,h1,h2,hq⟩)
  (fun _ hq=>wpAny_isSame_ref_other ne h1 ho2 (by rw[h2.1];simp) hq) (.inr hu) h
section
variable{X:Cx}{T:Tb}
def ZkS:G2:=fun x y s R=>match y with
 | .tup []=>(match x with
   | .non| .bl _| .int _| .str _| .lst _| .U0 _=>R (.bl false) s
   | .tup xs=>R (.bl xs.isEmpty) s
   |_=>False)
 |_=>False
def yC:D→Bool
 | .tup xs=>xs.isEmpty
 |_=>false
def Zbi:F2:=fun x y=>match y with
 | .tup []=>(match x with
   | .non| .bl _| .int _| .str _| .lst _| .U0 _=>some (.bl false)
   | .tup xs=>some (.bl xs.isEmpty)
   |_=>none)
 |_=>none
theorem Zuz:O2 Zbi ZkS:=fun x y d s R e q=>by
 unfold Zbi at e
 unfold ZkS
 split at e
 ·cases x<;>first|(cases e;exact q)|cases e
 ·cases e
def Zr2(X:Cx)(H:Hp)(x:V)(k:Bool):Prop:=(k=false∧(x= .non∨(∃b,x= .bl b)∨(∃i,x= .int i)∨(∃z,x= .str z)∨(∃a xs,x= .ref a∧SqL X.K H a xs)∨ ∃a ws,x= .ref a∧H a=some (.dK ws)))∨ ∃a xs,x= .ref a∧SqT X.K H a xs∧k=xs.isEmpty
theorem Zr3(hu:X.A.units+64<cLine):OpR X (compareOp .Eq) (fun x y H Q=> ∃b k,y= .ref b∧SqT X.K H b []∧Zr2 X H x k∧Q (.bl k) H):=by
 intro pins s σ H x y v u Q I rx ry h
 obtain⟨b,k,rfl,h2,side,q⟩:=h
 cases ry
 obtain⟨jts,rw',p2,_⟩:=I.tuple h2
 cases rw'
 have p2':s.heap.IsTuple b ([]:List Value).toArray:=p2
 have hl:X.A.units<cLine:=by omega
 rcases side with⟨rfl,side⟩|⟨a,xs,rfl,h1,rfl⟩
 ·have key:SeqAt.RcAt X.A s v (.ref b) false:=by
   rcases side with rfl|⟨c,rfl⟩|⟨i,rfl⟩|⟨z,rfl⟩|⟨a,xs,rfl,ha⟩|⟨a,ws,rfl,ha⟩
   ·cases rx;exact SeqAt.RcAt.none_tuple p2' hl
   ·cases rx;exact SeqAt.RcAt.bool_tuple c p2' hl
   ·obtain⟨t,rfl⟩:=rx;exact SeqAt.RcAt.int_tuple i t p2' hl
   ·obtain⟨t,rfl⟩:=rx;exact SeqAt.RcAt.str_tuple z t p2' hl
   ·cases rx
    obtain⟨its,rv,p1,_⟩:=I.list ha
    exact SeqAt.RcAt.list_tuple p1.isList p2' hl
   ·cases rx
    obtain⟨_,_,vs,_,o,es,ep,ho,hex,hd,_⟩:=I.hok a _ ha
    exact ZfY ho hex hd p2' hl
  exact key X.prog X.w _ _ ⟨.bl _,H,I,rfl,q⟩
 ·cases rx
  obtain⟨its,rv,p1,_⟩:=I.tuple h1
  have key:=SeqAt.RcAt.tuples (A:=X.A) (s:=s) (l:=a) (b:=b) (e:=fun _=>true) (show s.heap.IsTuple a its.toArray from p1) p2' hl (fun j _ h=>by simp at h)
  have e:((List.range (min its.toArray.size ([]:List Value).toArray.size)).all (fun _=>true)&&its.toArray.size==([]:List Value).toArray.size)=xs.isEmpty:=by
   cases xs with
   |nil=>cases rv;rfl
   |cons z zs=>cases rv with|cons _ _=>simp
  rw[e]at key
  exact key X.prog X.w _ _ ⟨.bl _,H,I,rfl,q⟩
theorem Zr4(hu:X.A.units+64<cLine):IV X T (compareOp .Eq) ZkS:= .of (Zr3 hu) fun F s H x y vx vy R Q hh rx ry hg post=>by
 unfold ZkS at hg
 split at hg
 ·cases ry with|tup l2 r2=>
   cases r2
   have b2:=Yu hh.sub l2
   cases rx with
   |non=>exact⟨_,false,rfl,b2, .inl ⟨rfl, .inl rfl⟩,post _ s _ H F hg Ext.refl hh (.bl _)⟩
   |bl c=>exact⟨_,false,rfl,b2, .inl ⟨rfl, .inr (.inl ⟨c,rfl⟩)⟩,post _ s _ H F hg Ext.refl hh (.bl _)⟩
   |int i=>exact⟨_,false,rfl,b2, .inl ⟨rfl, .inr (.inr (.inl ⟨i,rfl⟩))⟩,post _ s _ H F hg Ext.refl hh (.bl _)⟩
   |str z=>exact⟨_,false,rfl,b2, .inl ⟨rfl, .inr (.inr (.inr (.inl ⟨z,rfl⟩)))⟩,post _ s _ H F hg Ext.refl hh (.bl _)⟩
   |lst l r=>exact⟨_,false,rfl,b2, .inl ⟨rfl, .inr (.inr (.inr (.inr (.inl ⟨_,_,rfl,SqL.of (hh.sub _ _ l)⟩))))⟩,post _ s _ H F hg Ext.refl hh (.bl _)⟩
   |U0 l r=>exact⟨_,false,rfl,b2, .inl ⟨rfl, .inr (.inr (.inr (.inr (.inr ⟨_,_,rfl,hh.sub _ _ l⟩))))⟩,post _ s _ H F hg Ext.refl hh (.bl _)⟩
   |tup l r=>
    rename_i vs xs
    have e:vs.isEmpty=xs.isEmpty:=by cases r<;>rfl
    exact⟨_,xs.isEmpty,rfl,b2, .inr ⟨_,vs,rfl,Yu hh.sub l,e.symm⟩,post _ s _ H F hg Ext.refl hh (.bl _)⟩
   |_=>exact hg.elim
 ·exact hg.elim
end
end Bk
namespace Bk.Pa
open PySem PySem.Spec PyProof.Rows L2
abbrev lY:List Str:=["thing","least","most"]
def ZaA:Yh:=(QJ (Rr (Qp X4 (Zd (Zf 0) (Zd (dC (.rf (.ty "int"))) Zo))) (Rr (ZhP (Qp X4 (Zd (Zf 0) (Zd (dC (.rf (.ty "bool"))) Zo)))) (Kf oLe oLe (Zf 1) (Zf 0) (Zf 2)))))
def dM:FS:=(Qg (XM (Qm (VP "int") (fVar 0)) (XM (ZlR (Qm (VP "bool") (fVar 0))) (jA gLe gLe (fVar 1) (fVar 0) (fVar 2)))))
def Gv:FF:=fun ds=>(dM (ZC lY ds)).fn
abbrev T5:Fn:=pF Gv
theorem ZiA: ∀ds s R E,ds.length=3→T5 ds s R E→ZaA (Qx R E) (ZC lY ds) s:=Bu (f:=dM) (M:=[]) (Qc (Kl (Bc "int" (Ze 0)) (Kl (Zml (Bc "bool" (Ze 0))) (RB (Vh _) (Vh _) (Ze 1) (Ze 0) (Ze 2)))))
abbrev gG:List Str:=["thing","letter"]
def ZcZ:Yh:=(QJ (Rr (Qp X4 (Zd (Zf 0) (Zd (dC (.rf (.ty "str"))) Zo))) (Rr (Kf oLe oLe (dC (.int 1)) (Qp BZ (Zd (Zf 0) Zo)) (dC (.int 8))) (Qp (ZhS false) (Zd (Ad (Vy (Zf 0)) (Z6 1) Mj (ZG (sS false) (Zf 1) (dC (.str "abcdefghijklmnopqrstuvwxyz"))) [1]) Zo)))))
def lZ:FS:=(Qg (XM (Qm (VP "str") (fVar 0)) (XM (jA gLe gLe (fC (.int 1)) (Qm YS (fVar 0)) (fC (.int 8))) (Qm (w6 false) (R5 (Jg (fVar 0)) (Zv 1) Ux (Zz (gIn false) (fVar 1) (fC (.str "abcdefghijklmnopqrstuvwxyz"))) [1])))))
def U5:FF:=fun ds=>(lZ (ZC gG ds)).fn
abbrev gH:Fn:=pF U5
theorem ZkT: ∀ds s R E,ds.length=1→gH ds s R E→ZcZ (Qx R E) (ZC gG ds) s:=Bu (f:=lZ) (M:=[]) (Qc (Kl (Bc "str" (Ze 0)) (Kl (RB (Vh _) (Vh _) (Zk _) (JZ GF (Zy (Ze 0))) (Zk _)) (WW (ZlS _) (Cg (Yn (Ze 0)) (Qn 1) WT (ZD (jL _) (Ze 1) (Zk _)))))))
abbrev zV:List Str:=["thing","most"]
def Zfk:Yh:=(QJ (Rr (Qp X4 (Zd (Zf 0) (Zd (dC (.rf (.ty "tuple"))) Zo))) (ZG oLe (Qp BZ (Zd (Zf 0) Zo)) (Zf 1))))
def sX:FS:=(Qg (XM (Qm (VP "tuple") (fVar 0)) (Zz gLe (Qm YS (fVar 0)) (fVar 1))))
def Vn:FF:=fun ds=>(sX (ZC zV ds)).fn
abbrev WY:Fn:=pF Vn
theorem ZnC: ∀ds s R E,ds.length=2→WY ds s R E→Zfk (Qx R E) (ZC zV ds) s:=Bu (f:=sX) (M:=[]) (Qc (Kl (Bc "tuple" (Ze 0)) (ZD (Vh _) (JZ GF (Zy (Ze 0))) (Ze 1))))
abbrev T6:List Str:=["cells","cell"]
def ZaB:Yh:=(QJ (Ad (Vy (Zf 0)) (Z6 1) Mj (ZG Ua (Zf 1) (dC (.int 0))) [1]))
def dN:FS:=(Qg (R5 (Jg (fVar 0)) (Zv 1) Ux (Zz Jt (fVar 1) (fC (.int 0))) [1]))
def LQ:FF:=fun ds=>(dN (ZC T6 ds)).fn
abbrev mj:Fn:=pF LQ
theorem ZiB: ∀ds s R E,ds.length=1→mj ds s R E→ZaB (Qx R E) (ZC T6 ds) s:=Bu (f:=dN) (M:=[]) (Qc (Cg (Yn (Ze 0)) (Qn 1) WT (Jd Vf (Zy (Ze 1)) (Zy (Zk _)))))
abbrev Nh:List Str:=["cells","thing","name"]
def gJ:Yh:=(ZV (Jv (Ew (Bq (ZX (dCall 2 WY (Zd (Zf 1) (Zd (dC (.int 4)) Zo))))) (Bq (ZX (Qp (ZhS false) (Zd (Ad (Vy (Zf 1)) (Z6 2) Mj (dCall 1 gH (Zd (Zf 2) Zo)) [2]) Zo))))) (QJ (dC (.bl false))) QD)
 (QJ (ZG oEq (Ad (Vy (dCall 1 mj (Zd (Zf 0) Zo))) (Z6 2) (ZX (ZG (sS false) (Zf 2) (Zf 1))) (Zf 2) [2]) (Qp Zb3 (Zd (Zf 1) Zo)))))
def Pb:FS:=(ZP (Ql (Br (Yt (Zw (ZL Vn (Zb (fVar 1) (Zb (fC (.int 4)) Zm))))) (Yt (Zw (Qm (w6 false) (R5 (Jg (fVar 1)) (Zv 2) Ux (ZL U5 (Zb (fVar 2) Zm)) [2]))))) (Qg (fC (.bl false))) ZS)
 (Qg (Zz Uc (R5 (Jg (ZL LQ (Zb (fVar 0) Zm))) (Zv 2) (Zw (Zz (gIn false) (fVar 2) (fVar 1))) (fVar 2) [2]) (Qm wA (fVar 1)))))
def Y5:FF:=fun ds=>(Pb (ZC Nh ds)).fn
abbrev HJ:Fn:=pF Y5
theorem Zbj: ∀ds s R E,ds.length=2→HJ ds s R E→gJ (Qx R E) (ZC Nh ds) s:=Bu (f:=Pb) (M:=[]) (ZK (Q6 (V6 (YC (Zx (Qv (Zh (Ze 1) (Zh (Zk _) Zu))))) (YC (Zx (WW (ZlS _) (Cg (Yn (Ze 1)) (Qn 2) WT (Qv (Zh (Ze 2) Zu))))))) (Qc (Zk _)) Z8)
 (Qc (ZD NZ (Cg (Yn (Qv (Zh (Ze 0) Zu))) (Qn 2) (Zx (ZD (jL _) (Ze 2) (Ze 1))) (Ze 2)) (JZ Zmm (Zy (Ze 1))))))
abbrev En:List Str:=["cells","thing","term"]
def u9:Yh:=(ZV (Jv (Bq (ZX (dCall 2 WY (Zd (Zf 1) (Zd (dC (.int 4)) Zo))))) (QJ (dC (.bl false))) QD)
 (ZV (Xj (Vy (Zf 1)) (Z6 2) (ZV (Jv (Ew (Bq (ZX (dCall 2 WY (Zd (Zf 2) (Zd (dC (.int 2)) Zo))))) (ZX (ZG uW (Qp BZ (Zd (Zf 2) Zo)) (dC (.int 2))))) (QJ (dC (.bl false))) QD)
 (Jv (Ew (Bq (ZX (dCall 3 T5 (Zd (ZG Ua (Zf 2) (dC (.int 0))) (Zd (ZG ZhR (dC (.int 0)) (dC (.int 9))) (Zd (dC (.int 9)) Zo)))))) (ZX (ZG oEq (ZG Ua (Zf 2) (dC (.int 0))) (dC (.int 0))))) (QJ (dC (.bl false))) QD)))
 (QJ (dCall 2 HJ (Zd (Zf 0) (Zd (Qp BK (Zd (Ad (Vy (Zf 1)) (Z6 2) Mj (ZG Ua (Zf 2) (dC (.int 1))) [2]) Zo)) Zo))))))
def Ah:FS:=(ZP (Ql (Yt (Zw (ZL Vn (Zb (fVar 1) (Zb (fC (.int 4)) Zm))))) (Qg (fC (.bl false))) ZS)
 (ZP (Oh (Jg (fVar 1)) (Zv 2) (ZP (Ql (Br (Yt (Zw (ZL Vn (Zb (fVar 2) (Zb (fC (.int 2)) Zm))))) (Zw (Zz Wo (Qm YS (fVar 2)) (fC (.int 2))))) (Qg (fC (.bl false))) ZS)
 (Ql (Br (Yt (Zw (ZL Gv (Zb (Zz Jt (fVar 2) (fC (.int 0))) (Zb (Zz gSub (fC (.int 0)) (fC (.int 9))) (Zb (fC (.int 9)) Zm)))))) (Zw (Zz Uc (Zz Jt (fVar 2) (fC (.int 0))) (fC (.int 0))))) (Qg (fC (.bl false))) ZS)) [2])
 (Qg (ZL Y5 (Zb (fVar 0) (Zb (Qm BL (R5 (Jg (fVar 1)) (Zv 2) Ux (Zz Jt (fVar 2) (fC (.int 1))) [2])) Zm))))))
def BP:FF:=fun ds=>(Ah (ZC En ds)).fn
abbrev dO:Fn:=pF BP
theorem ZfZ: ∀ds s R E,ds.length=2→dO ds s R E→u9 (Qx R E) (ZC En ds) s:=Bu (f:=Ah) (M:=[]) (ZK (Q6 (YC (Zx (Qv (Zh (Ze 1) (Zh (Zk _) Zu))))) (Qc (Zk _)) Z8)
 (ZK (Oi (W:=[2]) (Yn (Ze 1)) (Qn 2) (ZK (Q6 (V6 (YC (Zx (Qv (Zh (Ze 2) (Zh (Zk _) Zu))))) (Zx (ZD fX (JZ GF (Zy (Ze 2))) (Zk _)))) (Qc (Zk _)) Z8)
 (Q6 (V6 (YC (Zx (Qv (Zh (Jd Vf (Zy (Ze 2)) (Zy (Zk _))) (Zh (ZD (Vh _) (Zk _) (Zk _)) (Zh (Zk _) Zu)))))) (Zx (ZD NZ (Jd Vf (Zy (Ze 2)) (Zy (Zk _))) (Zk _)))) (Qc (Zk _)) Z8)))
 (Qc (Qv (Zh (Ze 0) (Zh (JZ X6 (Zy (Cg (Yn (Ze 1)) (Qn 2) WT (Jd Vf (Zy (Ze 2)) (Zy (Zk _)))))) Zu))))))
abbrev sY:List Str:=["cells","thing"]
def Zc0:Yh:=(ZV (Jv (Ew (Bq (ZX (dCall 2 WY (Zd (Zf 1) (Zd (dC (.int 3)) Zo))))) (Ew (ZX (ZG uW (Qp BZ (Zd (Zf 1) Zo)) (dC (.int 3)))) (Bq (ZX (dCall 2 dO (Zd (Zf 0) (Zd (ZG Ua (Zf 1) (dC (.int 0))) Zo))))))) (QJ (dC (.bl false))) QD)
 (QJ (Rr (Qp X4 (Zd (ZG Ua (Zf 1) (dC (.int 1))) (Zd (dC (.rf (.ty "str"))) Zo))) (Rr (ZG (sS false) (ZG Ua (Zf 1) (dC (.int 1))) (dC (.tup [(.str "="),(.str "!="),(.str "<"),(.str "<="),(.str ">"),(.str ">=")]))) (dCall 3 T5 (Zd (ZG Ua (Zf 1) (dC (.int 2))) (Zd (ZG ZhR (dC (.int 0)) (dC (.int 99))) (Zd (dC (.int 99)) Zo))))))))
def mD:FS:=(ZP (Ql (Br (Yt (Zw (ZL Vn (Zb (fVar 1) (Zb (fC (.int 3)) Zm))))) (Br (Zw (Zz Wo (Qm YS (fVar 1)) (fC (.int 3)))) (Yt (Zw (ZL BP (Zb (fVar 0) (Zb (Zz Jt (fVar 1) (fC (.int 0))) Zm))))))) (Qg (fC (.bl false))) ZS)
 (Qg (XM (Qm (VP "str") (Zz Jt (fVar 1) (fC (.int 1)))) (XM (Zz (gIn false) (Zz Jt (fVar 1) (fC (.int 1))) (fC (.tup [(.str "="),(.str "!="),(.str "<"),(.str "<="),(.str ">"),(.str ">=")]))) (ZL Gv (Zb (Zz Jt (fVar 1) (fC (.int 2))) (Zb (Zz gSub (fC (.int 0)) (fC (.int 99))) (Zb (fC (.int 99)) Zm))))))))
def Mx:FF:=fun ds=>(mD (ZC sY ds)).fn
abbrev tD:Fn:=pF Mx
theorem ZkU: ∀ds s R E,ds.length=2→tD ds s R E→Zc0 (Qx R E) (ZC sY ds) s:=Bu (f:=mD) (M:=[]) (ZK (Q6 (V6 (YC (Zx (Qv (Zh (Ze 1) (Zh (Zk _) Zu))))) (V6 (Zx (ZD fX (JZ GF (Zy (Ze 1))) (Zk _))) (YC (Zx (Qv (Zh (Ze 0) (Zh (Jd Vf (Zy (Ze 1)) (Zy (Zk _))) Zu))))))) (Qc (Zk _)) Z8)
 (Qc (Kl (Bc "str" (Jd Vf (Zy (Ze 1)) (Zy (Zk _)))) (Kl (ZD (jL _) (Jd Vf (Zy (Ze 1)) (Zy (Zk _))) (Zk _)) (Qv (Zh (Jd Vf (Zy (Ze 1)) (Zy (Zk _))) (Zh (ZD (Vh _) (Zk _) (Zk _)) (Zh (Zk _) Zu))))))))
abbrev HS:List Str:=["cells","thing","i","case","j","test"]
def gK:Yh:=(ZV (Jv (Bq (ZX (dCall 2 WY (Zd (Zf 1) (Zd (dC (.int 4)) Zo))))) (qR "BadFormula" "place" (dTup Zo)) QD)
 (ZV (Xj (aK (Zd (Zf 1) Zo)) (Nz 2 (Jm (Z6 2) (Jm (Z6 3) Ny))) (Jv (Bq (ZX (dCall 2 WY (Zd (Zf 3) (Zd (dC (.int 4)) Zo))))) (qR "BadFormula" "place" (dTup (Zd (Zf 2) Zo))) QD))
 (ZV (Xj (aK (Zd (Zf 1) Zo)) (Nz 2 (Jm (Z6 2) (Jm (Z6 3) Ny))) (Xj (aK (Zd (Zf 3) Zo)) (Nz 2 (Jm (Z6 4) (Jm (Z6 5) Ny))) (Jv (Bq (ZX (dCall 2 tD (Zd (Zf 0) (Zd (Zf 5) Zo))))) (qR "BadFormula" "place" (dTup (Zd (Zf 2) (Zd (Zf 4) Zo)))) QD)))
 (QJ (Zf 1)))))
def Pg:FS:=(ZP (Ql (Yt (Zw (ZL Vn (Zb (fVar 1) (Zb (fC (.int 4)) Zm))))) (X8 "BadFormula" "place" (QM Zm)) ZS)
 (ZP (Oh (aN (fVar 1)) (NK 2 (QX (Zv 2) (QX (Zv 3) Bx))) (Ql (Yt (Zw (ZL Vn (Zb (fVar 3) (Zb (fC (.int 4)) Zm))))) (X8 "BadFormula" "place" (QM (Zb (fVar 2) Zm))) ZS) [3,2])
 (ZP (Oh (aN (fVar 1)) (NK 2 (QX (Zv 2) (QX (Zv 3) Bx))) (Oh (aN (fVar 3)) (NK 2 (QX (Zv 4) (QX (Zv 5) Bx))) (Ql (Yt (Zw (ZL Mx (Zb (fVar 0) (Zb (fVar 5) Zm))))) (X8 "BadFormula" "place" (QM (Zb (fVar 2) (Zb (fVar 4) Zm)))) ZS) [4,5]) [3,2,4,5])
 (Qg (fVar 1)))))
def Y6:FF:=fun ds=>(Pg (ZC HS ds)).fn
abbrev HW:Fn:=pF Y6
theorem Zbk: ∀ds s R E,ds.length=2→HW ds s R E→gK (Qx R E) (ZC HS ds) s:=Bu (f:=Pg) (M:=[]) (ZK (Q6 (YC (Zx (Qv (Zh (Ze 1) (Zh (Zk _) Zu))))) (qp (QG Zu)) Z8)
 (ZK (Oi (W:=[3,2]) (RD (Ze 1)) (Km (JQ (Qn 2) (JQ (Qn 3) O9))) (Q6 (YC (Zx (Qv (Zh (Ze 3) (Zh (Zk _) Zu))))) (qp (QG (Zh (Ze 2) Zu))) Z8))
 (ZK (Oi (W:=[3,2,4,5]) (RD (Ze 1)) (Km (JQ (Qn 2) (JQ (Qn 3) O9))) (Oi (W:=[4,5]) (RD (Ze 3)) (Km (JQ (Qn 4) (JQ (Qn 5) O9))) (Q6 (YC (Zx (Qv (Zh (Ze 0) (Zh (Ze 5) Zu))))) (qp (QG (Zh (Ze 2) (Zh (Ze 4) Zu)))) Z8)))
 (Qc (Ze 1)))))
abbrev Zf0:List Str:=["cells","thing","most","part","found","name"]
def qY:FS:=(ZP (Ql (Yt (Zw (ZL Vn (Zb (fVar 1) (Zb (fVar 2) Zm))))) (Qg (fC (.bl false))) ZS)
 (ZP (Oh (Jg (fVar 1)) (Zv 3) (Ql (Br (Zw (Zz Zbi (fVar 3) (QM Zm))) (Yt (Zw (ZL Y5 (Zb (fVar 0) (Zb (fVar 3) Zm)))))) (Qg (fC (.bl false))) ZS) [3])
 (ZP (Qu 4 (ZtF (Jg (fVar 1)) (Zv 3) Ux (Jg (fVar 3)) (Zv 5) Ux (fVar 5) [3,5] [5]))
 (Qg (Zz Uc (Qm ZjQ (fVar 4)) (Qm YS (fVar 4)))))))
def dR:FF:=fun ds=>(qY (ZC Zf0 ds)).fn
abbrev ZiC:List Str:=["formula","case","test","term"]
def vg:FS:=(Qg (Zxa (Jg (fVar 0)) (Zv 1) Ux (Jg (fVar 1)) (Zv 2) Ux (Jg (Zz Jt (fVar 2) (fC (.int 0)))) (Zv 3) Ux (Zz Jt (fVar 3) (fC (.int 1))) [1,2,3] [2,3] [3]))
def mF:FF:=fun ds=>(vg (ZC ZiC ds)).fn
abbrev yD:List Str:=["cells","thing","known","name"]
def SQ:FS:=(ZP (ZoD ["BadFormula"] "BadFormula" (ZhZ (ZL Y6 (Zb (fVar 0) (Zb (fVar 1) Zm)))) (Qg (fC (.bl false))))
 (Qg (Qm (w6 false) (R5 (Jg (ZL mF (Zb (fVar 1) Zm))) (Zv 3) Ux (Zz (gIn false) (fVar 3) (fVar 2)) [3]))))
def Ph:FF:=fun ds=>(SQ (ZC yD ds)).fn
abbrev ZnD:List Str:=["cells","thing","known","term"]
def Zc1:FS:=(ZP (Ql (Br (Yt (Zw (ZL Vn (Zb (fVar 1) (Zb (fC (.int 3)) Zm))))) (Br (Zw (Zz Wo (Qm YS (fVar 1)) (fC (.int 3)))) (Br (Yt (Zw (ZL U5 (Zb (Zz Jt (fVar 1) (fC (.int 0))) Zm)))) (Zw (Zz (gIn true) (Zz Jt (fVar 1) (fC (.int 0))) (ZL LQ (Zb (fVar 0) Zm))))))) (Qg (fC (.bl false))) ZS)
 (ZP (Ql (Br (Yt (Zw (ZL BP (Zb (fVar 0) (Zb (Zz Jt (fVar 1) (fC (.int 1))) Zm))))) (Yt (Zw (ZL Gv (Zb (Zz Jt (fVar 1) (fC (.int 2))) (Zb (Zz gSub (fC (.int 0)) (fC (.int 99))) (Zb (fC (.int 99)) Zm))))))) (Qg (fC (.bl false))) ZS)
 (Qg (Qm (w6 false) (R5 (Jg (Zz Jt (fVar 1) (fC (.int 1)))) (Zv 3) Ux (Zz (gIn false) (Zz Jt (fVar 3) (fC (.int 1))) (fVar 2)) [3])))))
def zW:FF:=fun ds=>(Zc1 (ZC ZnD ds)).fn
abbrev ZiD:List Str:=["cells","thing","known","one"]
def vh:FS:=(ZP (Ql (Br (Yt (Zw (ZL Vn (Zb (fVar 1) (Zb (fC (.int 4)) Zm))))) (Yt (Zw (Qm (w6 false) (R5 (Jg (fVar 1)) (Zv 3) Ux (ZL zW (Zb (fVar 0) (Zb (fVar 3) (Zb (fVar 2) Zm)))) [3]))))) (Qg (fC (.bl false))) ZS)
 (Qg (ZL Y5 (Zb (fVar 0) (Zb (Qm BL (R5 (Jg (fVar 1)) (Zv 3) Ux (Zz Jt (fVar 3) (fC (.int 0))) [3])) Zm)))))
def mG:FF:=fun ds=>(vh (ZC ZiD ds)).fn
abbrev ZiE:List Str:=["cells","thing","name","level","looks","when","sets","marks","known","part","one"]
def vm:FS:=(ZP (Ql (Br (Yt (Zw (ZL Vn (Zb (fVar 1) (Zb (fC (.int 6)) Zm))))) (Zw (Zz Wo (Qm YS (fVar 1)) (fC (.int 6))))) (Qg (fC (.str "form"))) ZS)
 (ZP (ZoC (fVar 1) (NK 6 (QX (Zv 2) (QX (Zv 3) (QX (Zv 4) (QX (Zv 5) (QX (Zv 6) (QX (Zv 7) Bx))))))))
 (ZP (Ql (Yt (Zw (ZL U5 (Zb (fVar 2) Zm)))) (Qg (fC (.str "name"))) ZS)
 (ZP (Ql (Br (Yt (Zw (Qm (VP "str") (fVar 3)))) (Zw (Zz (gIn true) (fVar 3) (fC (.tup [(.str "each"),(.str "one"),(.str "last")]))))) (Qg (fC (.str "level"))) ZS)
 (ZP (Ql (Yt (Zw (ZL dR (Zb (fVar 0) (Zb (fVar 4) (Zb (fC (.int 3)) Zm)))))) (Qg (fC (.str "looks"))) ZS)
 (ZP (Qu 8 (ZtF (Jg (fVar 4)) (Zv 9) Ux (Jg (fVar 9)) (Zv 2) Ux (fVar 2) [9,2] [2]))
 (ZP (Ql (Yt (Zw (ZL Ph (Zb (fVar 0) (Zb (fVar 5) (Zb (fVar 8) Zm)))))) (Qg (fC (.str "when"))) ZS)
 (ZP (Ql (Yt (Zw (ZL mG (Zb (fVar 0) (Zb (fVar 6) (Zb (fVar 8) Zm)))))) (Qg (fC (.str "sets"))) ZS)
 (ZP (Ql (Br (Yt (Zw (ZL Y5 (Zb (fVar 0) (Zb (fVar 7) Zm))))) (Zw (Qm (w6 true) (R5 (Jg (fVar 6)) (Zv 10) Ux (Zz (gIn false) (Zz Jt (fVar 10) (fC (.int 0))) (fVar 7)) [10])))) (Qg (fC (.str "marks"))) ZS)
 (Qg (fC .non)))))))))))
def mH:FF:=fun ds=>(vm (ZC ZiE ds)).fn
abbrev Zbl:List Str:=["cells","thing","fault"]
def aP:FS:=(ZP (Qu 2 (ZL mH (Zb (fVar 0) (Zb (fVar 1) Zm))))
 (ZP (Ql (Zw (Zz (Uw true) (fVar 2) (fC .non))) (X8 "BadProgram" "place" (fVar 2)) ZS)
 (Qg (fVar 1))))
def Nk:FF:=fun ds=>(aP (ZC Zbl ds)).fn
abbrev HX:List Str:=["_law_thing","_law_least","_law_most"]
def gM:Yh:=(QJ (Rr (Qp X4 (Zd (Zf 0) (Zd (dC (.rf (.ty "int"))) Zo))) (Rr (ZhP (Qp X4 (Zd (Zf 0) (Zd (dC (.rf (.ty "bool"))) Zo)))) (Kf oLe oLe (Zf 1) (Zf 0) (Zf 2)))))
def aQ:FS:=(Qg (XM (Qm (VP "int") (fVar 0)) (XM (ZlR (Qm (VP "bool") (fVar 0))) (jA gLe gLe (fVar 1) (fVar 0) (fVar 2)))))
def Gg:FF:=fun ds=>(aQ (ZC HX ds)).fn
abbrev CJ:Fn:=pF Gg
theorem Zbm: ∀ds s R E,ds.length=3→CJ ds s R E→gM (Qx R E) (ZC HX ds) s:=Bu (f:=aQ) (M:=[]) (Qc (Kl (Bc "int" (Ze 0)) (Kl (Zml (Bc "bool" (Ze 0))) (RB (Vh _) (Vh _) (Ze 1) (Ze 0) (Ze 2)))))
abbrev Xn:List Str:=["_law_thing","_law_sign"]
def j8:Yh:=(ZV (Jv (Ew (Bq (ZX (Qp X4 (Zd (Zf 0) (Zd (dC (.rf (.ty "str"))) Zo))))) (Bq (ZX (Kf oLe oLe (dC (.int 1)) (Qp BZ (Zd (Zf 0) Zo)) (dC (.int 8)))))) (QJ (dC (.bl false))) QD)
 (QJ (ZG oEq (Ad (Vy (Zf 0)) (Z6 1) (ZX (ZG (sS true) (Zf 1) (dC (.str "abcdefghijklmnopqrstuvwxyz")))) (Zf 1) [1]) (VH Zo))))
def HY:FS:=(ZP (Ql (Br (Yt (Zw (Qm (VP "str") (fVar 0)))) (Yt (Zw (jA gLe gLe (fC (.int 1)) (Qm YS (fVar 0)) (fC (.int 8)))))) (Qg (fC (.bl false))) ZS)
 (Qg (Zz Uc (R5 (Jg (fVar 0)) (Zv 1) (Zw (Zz (gIn true) (fVar 1) (fC (.str "abcdefghijklmnopqrstuvwxyz")))) (fVar 1) [1]) (JX Zm))))
def Uy:FF:=fun ds=>(HY (ZC Xn ds)).fn
abbrev Fb:Fn:=pF Uy
theorem Zcg: ∀ds s R E,ds.length=1→Fb ds s R E→j8 (Qx R E) (ZC Xn ds) s:=Bu (f:=HY) (M:=[]) (ZK (Q6 (V6 (YC (Zx (Bc "str" (Ze 0)))) (YC (Zx (RB (Vh _) (Vh _) (Zk _) (JZ GF (Zy (Ze 0))) (Zk _))))) (Qc (Zk _)) Z8)
 (Qc (ZD NZ (Cg (Yn (Ze 0)) (Qn 1) (Zx (ZD (jL _) (Ze 1) (Zk _))) (Ze 1)) (Ud Zu))))
abbrev Nm:List Str:=["_law_names_here","_law_thing","_law_one","_law_name"]
def gQ:Yh:=(ZV (Jv (Ew (Bq (ZX (Qp X4 (Zd (Zf 1) (Zd (dC (.rf (.ty "tuple"))) Zo))))) (ZX (ZG Zbf (Ad (Vy (Zf 1)) (Z6 2) (Bq (ZX (Qp X4 (Zd (Zf 2) (Zd (dC (.rf (.ty "str"))) Zo))))) (Zf 2) [2]) (VH Zo)))) (QJ (dC (.bl false))) QD)
 (QJ (ZG oEq (Ad (Vy (Zf 0)) (Z6 3) (ZX (ZG (sS false) (Zf 3) (Zf 1))) (Zf 3) [3]) (Qp Zb3 (Zd (Zf 1) Zo)))))
def Pj:FS:=(ZP (Ql (Br (Yt (Zw (Qm (VP "tuple") (fVar 1)))) (Zw (Zz jK (R5 (Jg (fVar 1)) (Zv 2) (Yt (Zw (Qm (VP "str") (fVar 2)))) (fVar 2) [2]) (JX Zm)))) (Qg (fC (.bl false))) ZS)
 (Qg (Zz Uc (R5 (Jg (fVar 0)) (Zv 3) (Zw (Zz (gIn false) (fVar 3) (fVar 1))) (fVar 3) [3]) (Qm wA (fVar 1)))))
def Gh:FF:=fun ds=>(Pj (ZC Nm ds)).fn
abbrev Ib:Fn:=pF Gh
theorem Zbn: ∀ds s R E,ds.length=2→Ib ds s R E→gQ (Qx R E) (ZC Nm ds) s:=Bu (f:=Pj) (M:=[]) (ZK (Q6 (V6 (YC (Zx (Bc "tuple" (Ze 1)))) (Zx (ZD Zeq (Cg (Yn (Ze 1)) (Qn 2) (YC (Zx (Bc "str" (Ze 2)))) (Ze 2)) (Ud Zu)))) (Qc (Zk _)) Z8)
 (Qc (ZD NZ (Cg (Yn (Ze 0)) (Qn 3) (Zx (ZD (jL _) (Ze 3) (Ze 1))) (Ze 3)) (JZ Zmm (Zy (Ze 1))))))
abbrev Oj:List Str:=["_law_names_here","_law_thing","_law_term"]
def aR:Yh:=(ZV (Jv (Ew (Bq (ZX (Qp X4 (Zd (Zf 1) (Zd (dC (.rf (.ty "tuple"))) Zo))))) (ZX (ZG oGt (Qp BZ (Zd (Zf 1) Zo)) (dC (.int 4))))) (QJ (dC (.bl false))) QD)
 (ZV (Xj (Vy (Zf 1)) (Z6 2) (Jv (Ew (Bq (ZX (Qp X4 (Zd (Zf 2) (Zd (dC (.rf (.ty "tuple"))) Zo))))) (Ew (ZX (ZG uW (Qp BZ (Zd (Zf 2) Zo)) (dC (.int 2)))) (Ew (Bq (ZX (dCall 3 CJ (Zd (ZG Ua (Zf 2) (dC (.int 0))) (Zd (sH Ml (dC (.int 9))) (Zd (dC (.int 9)) Zo)))))) (ZX (ZG oEq (ZG Ua (Zf 2) (dC (.int 0))) (dC (.int 0))))))) (QJ (dC (.bl false))) QD))
 (QJ (dCall 2 Ib (Zd (Zf 0) (Zd (Qp BK (Zd (Ad (Vy (Zf 1)) (Z6 2) Mj (ZG Ua (Zf 2) (dC (.int 1))) [2]) Zo)) Zo))))))
def W9:FS:=(ZP (Ql (Br (Yt (Zw (Qm (VP "tuple") (fVar 1)))) (Zw (Zz gGt (Qm YS (fVar 1)) (fC (.int 4))))) (Qg (fC (.bl false))) ZS)
 (ZP (Oh (Jg (fVar 1)) (Zv 2) (Ql (Br (Yt (Zw (Qm (VP "tuple") (fVar 2)))) (Br (Zw (Zz Wo (Qm YS (fVar 2)) (fC (.int 2)))) (Br (Yt (Zw (ZL Gg (Zb (Zz Jt (fVar 2) (fC (.int 0))) (Zb (fUn TV (fC (.int 9))) (Zb (fC (.int 9)) Zm)))))) (Zw (Zz Uc (Zz Jt (fVar 2) (fC (.int 0))) (fC (.int 0))))))) (Qg (fC (.bl false))) ZS) [2])
 (Qg (ZL Gh (Zb (fVar 0) (Zb (Qm BL (R5 (Jg (fVar 1)) (Zv 2) Ux (Zz Jt (fVar 2) (fC (.int 1))) [2])) Zm))))))
def Uq:FF:=fun ds=>(W9 (ZC Oj ds)).fn
abbrev Pk:Fn:=pF Uq
theorem yE: ∀ds s R E,ds.length=2→Pk ds s R E→aR (Qx R E) (ZC Oj ds) s:=Bu (f:=W9) (M:=[]) (ZK (Q6 (V6 (YC (Zx (Bc "tuple" (Ze 1)))) (Zx (ZD (Vh _) (JZ GF (Zy (Ze 1))) (Zk _)))) (Qc (Zk _)) Z8)
 (ZK (Oi (W:=[2]) (Yn (Ze 1)) (Qn 2) (Q6 (V6 (YC (Zx (Bc "tuple" (Ze 2)))) (V6 (Zx (ZD fX (JZ GF (Zy (Ze 2))) (Zk _))) (V6 (YC (Zx (Qv (Zh (Jd Vf (Zy (Ze 2)) (Zy (Zk _))) (Zh (cR cU (Zk _)) (Zh (Zk _) Zu)))))) (Zx (ZD NZ (Jd Vf (Zy (Ze 2)) (Zy (Zk _))) (Zk _)))))) (Qc (Zk _)) Z8))
 (Qc (Qv (Zh (Ze 0) (Zh (JZ X6 (Zy (Cg (Yn (Ze 1)) (Qn 2) WT (Jd Vf (Zy (Ze 2)) (Zy (Zk _)))))) Zu))))))
abbrev Fd:List Str:=["_law_names_here","_law_thing"]
def j9:Yh:=(ZV (Jv (Ew (Bq (ZX (Qp X4 (Zd (Zf 1) (Zd (dC (.rf (.ty "tuple"))) Zo))))) (Ew (ZX (ZG uW (Qp BZ (Zd (Zf 1) Zo)) (dC (.int 3)))) (Bq (ZX (dCall 2 Pk (Zd (Zf 0) (Zd (ZG Ua (Zf 1) (dC (.int 0))) Zo))))))) (QJ (dC (.bl false))) QD)
 (ZV (Jv (Ew (Bq (ZX (Qp X4 (Zd (ZG Ua (Zf 1) (dC (.int 1))) (Zd (dC (.rf (.ty "str"))) Zo))))) (ZX (ZG (sS true) (ZG Ua (Zf 1) (dC (.int 1))) (VH (Zd (dC (.str "=")) (Zd (dC (.str "!=")) (Zd (dC (.str "<")) (Zd (dC (.str "<=")) (Zd (dC (.str ">")) (Zd (dC (.str ">=")) Zo)))))))))) (QJ (dC (.bl false))) QD)
 (QJ (dCall 3 CJ (Zd (ZG Ua (Zf 1) (dC (.int 2))) (Zd (sH Ml (dC (.int 99))) (Zd (dC (.int 99)) Zo)))))))
def Ie:FS:=(ZP (Ql (Br (Yt (Zw (Qm (VP "tuple") (fVar 1)))) (Br (Zw (Zz Wo (Qm YS (fVar 1)) (fC (.int 3)))) (Yt (Zw (ZL Uq (Zb (fVar 0) (Zb (Zz Jt (fVar 1) (fC (.int 0))) Zm))))))) (Qg (fC (.bl false))) ZS)
 (ZP (Ql (Br (Yt (Zw (Qm (VP "str") (Zz Jt (fVar 1) (fC (.int 1)))))) (Zw (Zz (gIn true) (Zz Jt (fVar 1) (fC (.int 1))) (JX (Zb (fC (.str "=")) (Zb (fC (.str "!=")) (Zb (fC (.str "<")) (Zb (fC (.str "<=")) (Zb (fC (.str ">")) (Zb (fC (.str ">=")) Zm)))))))))) (Qg (fC (.bl false))) ZS)
 (Qg (ZL Gg (Zb (Zz Jt (fVar 1) (fC (.int 2))) (Zb (fUn TV (fC (.int 99))) (Zb (fC (.int 99)) Zm)))))))
def Bm:FF:=fun ds=>(Ie (ZC Fd ds)).fn
abbrev Fe:Fn:=pF Bm
theorem Zch: ∀ds s R E,ds.length=2→Fe ds s R E→j9 (Qx R E) (ZC Fd ds) s:=Bu (f:=Ie) (M:=[]) (ZK (Q6 (V6 (YC (Zx (Bc "tuple" (Ze 1)))) (V6 (Zx (ZD fX (JZ GF (Zy (Ze 1))) (Zk _))) (YC (Zx (Qv (Zh (Ze 0) (Zh (Jd Vf (Zy (Ze 1)) (Zy (Zk _))) Zu))))))) (Qc (Zk _)) Z8)
 (ZK (Q6 (V6 (YC (Zx (Bc "str" (Jd Vf (Zy (Ze 1)) (Zy (Zk _)))))) (Zx (ZD (jL _) (Jd Vf (Zy (Ze 1)) (Zy (Zk _))) (Ud (Zh (Zk _) (Zh (Zk _) (Zh (Zk _) (Zh (Zk _) (Zh (Zk _) (Zh (Zk _) Zu)))))))))) (Qc (Zk _)) Z8)
 (Qc (Qv (Zh (Jd Vf (Zy (Ze 1)) (Zy (Zk _))) (Zh (cR cU (Zk _)) (Zh (Zk _) Zu)))))))
abbrev Lq:List Str:=["_law_names_here","_law_thing","_law_at","_law_case","_law_place","_law_test_here"]
def Mz:Yh:=(ZV (Jv (Ew (Bq (ZX (Qp X4 (Zd (Zf 1) (Zd (dC (.rf (.ty "tuple"))) Zo))))) (ZX (ZG oGt (Qp BZ (Zd (Zf 1) Zo)) (dC (.int 4))))) (QJ (dTup Zo)) QD)
 (ZV (Xj (aK (Zd (Zf 1) Zo)) (Nz 2 (Jm (Z6 2) (Jm (Z6 3) Ny))) (Jv (Ew (Bq (ZX (Qp X4 (Zd (Zf 3) (Zd (dC (.rf (.ty "tuple"))) Zo))))) (ZX (ZG oGt (Qp BZ (Zd (Zf 3) Zo)) (dC (.int 4))))) (QJ (dTup (Zd (Zf 2) Zo))) QD))
 (ZV (Xj (aK (Zd (Zf 1) Zo)) (Nz 2 (Jm (Z6 2) (Jm (Z6 3) Ny))) (Xj (aK (Zd (Zf 3) Zo)) (Nz 2 (Jm (Z6 4) (Jm (Z6 5) Ny))) (Jv (Bq (ZX (dCall 2 Fe (Zd (Zf 0) (Zd (Zf 5) Zo))))) (QJ (dTup (Zd (Zf 2) (Zd (Zf 4) Zo)))) QD)))
 (QJ (dC .non)))))
def Nv:FS:=(ZP (Ql (Br (Yt (Zw (Qm (VP "tuple") (fVar 1)))) (Zw (Zz gGt (Qm YS (fVar 1)) (fC (.int 4))))) (Qg (QM Zm)) ZS)
 (ZP (Oh (aN (fVar 1)) (NK 2 (QX (Zv 2) (QX (Zv 3) Bx))) (Ql (Br (Yt (Zw (Qm (VP "tuple") (fVar 3)))) (Zw (Zz gGt (Qm YS (fVar 3)) (fC (.int 4))))) (Qg (QM (Zb (fVar 2) Zm))) ZS) [2,3])
 (ZP (Oh (aN (fVar 1)) (NK 2 (QX (Zv 2) (QX (Zv 3) Bx))) (Oh (aN (fVar 3)) (NK 2 (QX (Zv 4) (QX (Zv 5) Bx))) (Ql (Yt (Zw (ZL Bm (Zb (fVar 0) (Zb (fVar 5) Zm))))) (Qg (QM (Zb (fVar 2) (Zb (fVar 4) Zm)))) ZS) [4,5]) [2,3,4,5])
 (Qg (fC .non)))))
def Vb:FF:=fun ds=>(Nv (ZC Lq ds)).fn
abbrev Lr:Fn:=pF Vb
theorem jO: ∀ds s R E,ds.length=2→Lr ds s R E→Mz (Qx R E) (ZC Lq ds) s:=Bu (f:=Nv) (M:=[]) (ZK (Q6 (V6 (YC (Zx (Bc "tuple" (Ze 1)))) (Zx (ZD (Vh _) (JZ GF (Zy (Ze 1))) (Zk _)))) (Qc (QG Zu)) Z8)
 (ZK (Oi (W:=[2,3]) (RD (Ze 1)) (Km (JQ (Qn 2) (JQ (Qn 3) O9))) (Q6 (V6 (YC (Zx (Bc "tuple" (Ze 3)))) (Zx (ZD (Vh _) (JZ GF (Zy (Ze 3))) (Zk _)))) (Qc (QG (Zh (Ze 2) Zu))) Z8))
 (ZK (Oi (W:=[2,3,4,5]) (RD (Ze 1)) (Km (JQ (Qn 2) (JQ (Qn 3) O9))) (Oi (W:=[4,5]) (RD (Ze 3)) (Km (JQ (Qn 4) (JQ (Qn 5) O9))) (Q6 (YC (Zx (Qv (Zh (Ze 0) (Zh (Ze 5) Zu))))) (Qc (QG (Zh (Ze 2) (Zh (Ze 4) Zu)))) Z8)))
 (Qc (Zk _)))))
end Bk.Pa
namespace Bk
open PySem PySem.Spec PyProof.Rows L2
def inL(c:Nat):Bool:= !(Builtin.Str.occurrences letters ⟨#[c]⟩ 0 letters.length 1).isEmpty
def nameB:D→Bool
 | .str x=>decide (1≤x.length)&&decide (x.length≤8)&&x.cps.toList.all inL
 |_=>false
def Ue(d:D)(lo hi:Int):Bool:=match d with
 | .int i=>decide (lo≤i)&&decide (i≤hi)
 |_=>false
def V2(d:D)(k:Int):Bool:=match d with
 | .tup xs=>decide ((xs.length:Int)≤k)
 |_=>false
def cellOf:D→Option Str
 | .tup [.str x,v]=>if(nameB (.str x)&&Ue v 1 3)=true then some x else none
 |_=>none
def Vv(d:D):Prop:= ∃b n w,Th b n w d∧b≤10^32∧n≤40∧w≤100000
def Lf(ns:List Str)(xs:List D):Bool:=match qX xs with
 |some zs=>decide (ns.filter (fun n=>decide (n∈zs))=zs)
 |none=>false
def Gm(ns:List Str):D→Bool
 | .tup xs=>Lf ns xs
 |_=>false
def BJ:D→Bool
 | .tup [.int i,_]=>(decide (-9≤i)&&decide (i≤9))&& !decide (i=0)
 |_=>false
def T7:D→D
 | .tup [_,b]=>b
 |_=> .non
def Ug(ns:List Str):D→Bool
 | .tup xs=>decide (xs.length≤4)&&(xs.all BJ&&Lf ns (xs.map T7))
 |_=>false
def opB:D→Bool
 | .str o=>decide (o∈(["=","!=","<","<=",">",">="]:List Str))
 |_=>false
def Vc(ns:List Str):D→Bool
 | .tup [t,o,n]=>Ug ns t&&(opB o&&Ue n (-99) 99)
 |_=>false
def YL:D→List D
 | .tup xs=>xs
 |_=>[]
def Uu(ns:List Str)(c:D):Bool:=(YL c).any fun t=> !Vc ns t
def Yd(ns:List Str):D→Option D
 | .tup xs=>if 4<xs.length then some (.tup [])else match xs.findIdx? (fun c=> !V2 c 4)with
   |some i=>some (.tup [.int (i:Nat)])
   |none=>match xs.findIdx? (Uu ns)with
    |some i=>some (.tup [.int (i:Nat), .int (((YL (xs[i]?.getD .non)).findIdx fun t=> !Vc ns t:Nat))])
    |none=>none
 |_=>some (.tup [])
theorem Zc3: ∀is:List Bool,bls (is.map D.bl)=some is
 |[]=>rfl
 |i::is=>by rw[List.map_cons,bls,Zc3 is];rfl
theorem MJ{b:Int}{n w:Nat}{xs:List D}(h:Th b n w (.tup xs)): ∃m,n=m+1∧yq b m w xs:=by
 cases n with
 |zero=>
  have:=h.dep
  rw[D.py,PyData.depth]at this
  omega
 |succ m=>exact⟨m,rfl,G9.mp h⟩
theorem QC{d x:D}{xs:List D}(h:Vv d)(e:d= .tup xs)(hx:x∈xs):Vv x:=by
 obtain⟨b,n,w,hd,h1,h2,h3⟩:=h
 subst e
 obtain⟨m,rfl,hs⟩:=MJ hd
 exact⟨b,m,w,Zg8 hs hx,h1,by omega,h3⟩
theorem ZnE{xs:List D}(h:Vv (.tup xs)):xs.length≤100000:=by
 obtain⟨b,n,w,hd,h1,h2,h3⟩:=h
 obtain⟨m,rfl,hs⟩:=MJ hd
 exact Nat.le_trans (Zd4 hs) h3
theorem U8{d:D}{k:Int}(h:V2 d k=true): ∃xs,d= .tup xs∧(xs.length:Int)≤k:=by
 cases d with
 |tup xs=>exact⟨xs,rfl,of_decide_eq_true h⟩
 |_=>cases h
def tupB:D→Bool
 | .tup _=>true
 |_=>false
theorem pG{d:D}(h:tupB d=true): ∃xs,d= .tup xs:=by
 cases d with
 |tup xs=>exact⟨xs,rfl⟩
 |_=>cases h
theorem Zxb{b:Int}{n:Nat}{x:Str}(h:PyData.strOk x=true)(hl:x.length≤16):Th b n 16 (.str x):=(yr h).mono (Int.le_refl _) (Nat.zero_le _) hl
theorem xq{b:Int}{n w:Nat}: ∀{xs:List D},(∀x∈xs,Th b n w x)→yq b n ((w+1)*xs.length) xs
 |[],_=>Lh
 |x::xs,h=>by
  have:=YQ (h x List.mem_cons_self) (xq fun y hy=>h y (List.mem_cons_of_mem _ hy))
  refine this.mono (Int.le_refl _) (Nat.le_refl _) ?_
  rw[List.length_cons,Nat.mul_succ];omega
theorem Zmn{b:Int}{n:Nat}:Th b n 0 .non:=⟨by rw[D.good],by rw[D.py,PyData.depth];exact Nat.zero_le _,by rw[D.py,PyData.weight];exact Nat.zero_le _⟩
theorem Zmo{d:D}(h:Vv d):d.XJ:=by
 obtain⟨b,n,w,ht,h1,h2,h3⟩:=h
 exact ht.XJ (by omega) (by omega) (by omega)
theorem ZpH{d:D}(h:Vv d):(D.lst [d]).XJ:=by
 obtain⟨b,n,w,ht,h1,h2,h3⟩:=h
 exact(Zmf.mpr (YQ ht Lh)).XJ (by omega) (by omega) (by omega)
end Bk
namespace Bk
open PySem PySem.Spec PyProof.Rows L2
@[elab_as_elim] theorem Wr {P:D→Prop} {d:D} (h:Vv d) (non:P .non) (bl: ∀b,P (.bl b)) (int: ∀i,P (.int i)) (str: ∀x,PyData.strOk x=true→x.length≤100000→P (.str x)) (lst: ∀xs,xs.length≤100000→(∀x∈xs,Vv x)→P (.lst xs)) (tup: ∀xs,xs.length≤100000→(∀x∈xs,Vv x)→P (.tup xs)) (U0:P (.U0 [])):P d:=by
  cases d with
  |non=>exact non
  |bl b=>exact bl b
  |int i=>exact int i
  |str x=>
   obtain⟨b,n,w,ht,_,_,hw⟩:=h
   exact str x (Tr ht).1 (Nat.le_trans (Tr ht).2 hw)
  |tup xs=>exact tup xs (ZnE h) fun x hx=>QC h rfl hx
  |lst xs=>
   obtain⟨b,n,w,ht,h1,h2,h3⟩:=h
   obtain⟨n,rfl⟩: ∃m,n=m+1:=by
    have:=ht.dep
    rw[D.py,PyData.depth]at this
    exact⟨n-1,by omega⟩
   have hs:=Zmf.mp ht
   exact lst xs (Nat.le_trans (Zd4 hs) h3) fun x hx=>⟨b,n,w,Zg8 hs hx,h1,by omega,h3⟩
  |U0 kvs=>
   cases kvs with
   |nil=>exact U0
   |cons k kvs=>
    obtain⟨b,n,w,ht,_⟩:=h
    have:=ht.g
    rw[D.good]at this
    cases this
  |_=>
   obtain⟨b,n,w,ht,_⟩:=h
   have:=ht.g
   rw[D.good]at this
   cases this
@[simp] theorem ZjS:YB "NoneType" "bool" =false:=by decide
@[simp] theorem Zkn:YB "NoneType" "int" =false:=by decide
@[simp] theorem Zko:YB "NoneType" "str" =false:=by decide
@[simp] theorem ZjT:YB "NoneType" "list" =false:=by decide
@[simp] theorem Zh1:YB "NoneType" "tuple" =false:=by decide
@[simp] theorem ZjU:YB "NoneType" "dict" =false:=by decide
@[simp] theorem ZoE:YB "bool" "bool" =true:=by decide
@[simp] theorem Zo1:YB "bool" "int" =true:=by decide
@[simp] theorem Zo2:YB "bool" "str" =false:=by decide
@[simp] theorem ZoF:YB "bool" "list" =false:=by decide
@[simp] theorem Zmp:YB "bool" "tuple" =false:=by decide
@[simp] theorem ZoG:YB "bool" "dict" =false:=by decide
@[simp] theorem Zo3:YB "int" "bool" =false:=by decide
@[simp] theorem ZqL:YB "int" "int" =true:=by decide
@[simp] theorem ZqM:YB "int" "str" =false:=by decide
@[simp] theorem Zo4:YB "int" "list" =false:=by decide
@[simp] theorem ZoH:YB "int" "tuple" =false:=by decide
@[simp] theorem Zo5:YB "int" "dict" =false:=by decide
@[simp] theorem Zo6:YB "str" "bool" =false:=by decide
@[simp] theorem ZqN:YB "str" "int" =false:=by decide
@[simp] theorem ZqO:YB "str" "str" =true:=by decide
@[simp] theorem Zo7:YB "str" "list" =false:=by decide
@[simp] theorem ZoI:YB "str" "tuple" =false:=by decide
@[simp] theorem Zo8:YB "str" "dict" =false:=by decide
@[simp] theorem ZoJ:YB "list" "bool" =false:=by decide
@[simp] theorem Zo9:YB "list" "int" =false:=by decide
@[simp] theorem Zpa:YB "list" "str" =false:=by decide
@[simp] theorem ZoK:YB "list" "list" =true:=by decide
@[simp] theorem Zmq:YB "list" "tuple" =false:=by decide
@[simp] theorem ZoL:YB "list" "dict" =false:=by decide
@[simp] theorem Zmr:YB "tuple" "bool" =false:=by decide
@[simp] theorem ZoM:YB "tuple" "int" =false:=by decide
@[simp] theorem ZoN:YB "tuple" "str" =false:=by decide
@[simp] theorem Zms:YB "tuple" "list" =false:=by decide
@[simp] theorem ZlF:YB "tuple" "tuple" =true:=by decide
@[simp] theorem Zmt:YB "tuple" "dict" =false:=by decide
@[simp] theorem ZoO:YB "dict" "bool" =false:=by decide
@[simp] theorem Zpb:YB "dict" "int" =false:=by decide
@[simp] theorem Zpc:YB "dict" "str" =false:=by decide
@[simp] theorem ZoP:YB "dict" "list" =false:=by decide
@[simp] theorem Zmu:YB "dict" "tuple" =false:=by decide
@[simp] theorem ZoQ:YB "dict" "dict" =true:=by decide
@[simp] theorem Zrr:("bool" :String)∈YX:=by decide
@[simp] theorem Zs0:("int" :String)∈YX:=by decide
@[simp] theorem Zs1:("str" :String)∈YX:=by decide
@[simp] theorem Zrs:("list" :String)∈YX:=by decide
@[simp] theorem ZqP:("tuple" :String)∈YX:=by decide
@[simp] theorem Zrt:("dict" :String)∈YX:=by decide
@[simp] theorem ZjV {α:Type} (p:α→Bool) (xs:List α):bls (xs.map fun a=>D.bl (p a))=some (xs.map p):=by
  have:=Zc3 (xs.map p)
  rwa[List.map_map]at this
@[simp] theorem Zs2 (x:Str):(signs x).length=x.length:=sJ x
@[simp] theorem Zr5 {α:Type} (a:α) (r:List α):atI (a::r) 0=some a:=by rw[show(0:Int)=((0:Nat):Int)from rfl,atI_nat (by simp)];rfl
@[simp] theorem Zx8 {α:Type} (a b:α) (r:List α):atI (a::b::r) 1=some b:=by rw[show(1:Int)=((1:Nat):Int)from rfl,atI_nat (by simp)];rfl
@[simp] theorem Zx9 {α:Type} (a b c:α) (r:List α):atI (a::b::c::r) 2=some c:=by rw[show(2:Int)=((2:Nat):Int)from rfl,atI_nat (by simp)];rfl
@[simp] theorem Zya {α:Type} (a b c d:α) (r:List α):atI (a::b::c::d::r) 3=some d:=by rw[show(3:Int)=((3:Nat):Int)from rfl,atI_nat (by simp)];rfl
@[simp] theorem Zyb {α:Type} (a b c d e:α) (r:List α):atI (a::b::c::d::e::r) 4=some e:=by rw[show(4:Int)=((4:Nat):Int)from rfl,atI_nat (by simp)];rfl
@[simp] theorem Zyc {α:Type} (a b c d e f:α) (r:List α):atI (a::b::c::d::e::f::r) 5=some f:=by rw[show(5:Int)=((5:Nat):Int)from rfl,atI_nat (by simp)];rfl
@[simp] theorem ZwM (i j:Int):Wo (.int i) (.int j)=some (.bl (!decide (i=j))):=by
  unfold Wo
  rw[if_pos ⟨Wz _,Wz _⟩,wX]
@[simp] theorem xr (i j:Int):Uc (.int i) (.int j)=some (.bl (decide (i=j))):=by
  unfold Uc
  rw[if_pos ⟨Wz _,Wz _⟩,wX]
theorem qC{α:Type}(f:α→Str)(xs:List α):(xs.map fun a=>D.str (f a))=texts (xs.map f):=by
 unfold texts;rw[List.map_map];rfl
theorem tE: ∀a b:List Str,(D.lst (texts a)).eqb (.lst (texts b))=decide (a=b):=by
 have go: ∀a b:List Str,PyData.eqvAll (D.Gi (texts a)) (D.Gi (texts b))=decide (a=b):=by
  intro a
  induction a with
  |nil=>
   intro b
   cases b with
   |nil=>show PyData.eqvAll (D.Gi []) (D.Gi [])=_;rw[D.Gi,PyData.eqvAll];rfl
   |cons y b=>show PyData.eqvAll (D.Gi []) (D.Gi (.str y::texts b))=_;rw[D.Gi,D.Gi,PyData.eqvAll];rfl
  |cons x a ih=>
   intro b
   cases b with
   |nil=>show PyData.eqvAll (D.Gi (.str x::texts a)) (D.Gi [])=_;rw[D.Gi,D.Gi,PyData.eqvAll];rfl
   |cons y b=>
    show PyData.eqvAll (D.Gi (.str x::texts a)) (D.Gi (.str y::texts b))=_
    rw[D.Gi,D.Gi,PyData.eqvAll,ih]
    have e:PyData.eqv (D.str x).py (D.str y).py=decide (x=y):=pA x y
    rw[e]
    by_cases h1:x=y<;>by_cases h2:a=b<;>simp [h1,h2]
 intro a b
 unfold D.eqb
 rw[D.py,D.py,PyData.eqv]
 exact go a b
theorem Zfl{zs:List Str}{w:Nat}(h: ∀x∈zs,PyData.strOk x=true∧x.length≤w): ∀x∈texts zs,Af 0 w x:=fun d hd=>by
 obtain⟨x,hx,rfl⟩:=List.mem_map.mp hd
 exact Kg (h x hx).1 (h x hx).2
theorem gR{zs:List Str}{w:Nat}(h: ∀x∈zs,PyData.strOk x=true∧x.length≤w):(D.lst (texts zs)).YF=true:=(Zd0 (n:=zs.length) (k:=0) (Zfl h) (by rw[QL];exact Nat.le_refl _)).YF (by decide)
theorem ZaC{zs:List Str}{w:Nat}(h: ∀x∈zs,PyData.strOk x=true∧x.length≤w):(D.tup (texts zs)).YF=true:=(cM (n:=zs.length) (k:=0) (Zfl h) (by rw[QL];exact Nat.le_refl _)).YF (by decide)
theorem tG: ∀{xs:List D},(∀x∈xs,∃z,x=D.str z)→ ∃zs,xs=texts zs
 |[],_=>⟨[],rfl⟩
 |x::xs,h=>by
  obtain⟨z,rfl⟩:=h x List.mem_cons_self
  obtain⟨zs,rfl⟩:=tG fun y hy=>h y (List.mem_cons_of_mem _ hy)
  exact⟨z::zs,rfl⟩
theorem MK{ns:List Str}{xs:List D}(h:Lf ns xs=true): ∃zs,xs=texts zs∧ns.filter (fun n=>decide (n∈zs))=zs:=by
 unfold Lf at h
 split at h
 ·rename_i zs hz
  exact⟨zs,Zaz hz,of_decide_eq_true h⟩
 ·cases h
theorem Oz(ns zs:List Str):Lf ns (texts zs)=decide (ns.filter (fun n=>decide (n∈zs))=zs):=by
 unfold Lf
 rw[Xy]
theorem ZpI: ∀c∈letters.cps.toList,inL c=true:=by decide+kernel
theorem gU{x:Str}(h:Wn x):nameB (.str x)=true:=by
 show(decide (1≤x.length)&&decide (x.length≤8)&&x.cps.toList.all inL)=true
 rw[decide_eq_true h.1,decide_eq_true h.2.1,Bool.true_and,Bool.true_and,List.all_eq_true]
 exact fun c hc=>ZpI c (h.2.2 c hc)
theorem Ul{x:Str}(h:Vv (.str x)):PyData.strOk x=true∧x.length≤100000:=by
 obtain⟨b,n,w,ht,_,_,hw⟩:=h
 exact⟨(Tr ht).1,Nat.le_trans (Tr ht).2 hw⟩
theorem bW{x:Str}(h:x.length≤100000):x.length≤sizeLine:=sz _ (by omega)
theorem ZnF(c:Nat):gIn false (.str ⟨#[c]⟩) (.str "abcdefghijklmnopqrstuvwxyz")=some (.bl (inL c)):=rfl
end Bk
namespace Bk.Pa
open PySem PySem.Spec PyProof.Rows L2
theorem OD{d:D}(h:Vv d)(lo hi:Int):Gv [d, .int lo, .int hi]= .ok (.bl (Ue d lo hi)):=by
 refine Wr h ?_ ?_ ?_ ?_ ?_ ?_ ?_<;>intros<;>simp [Gv,dM,Ue]
 split<;>simp_all
 omega
theorem YT{d:D}(h:Vv d)(k:Int):Vn [d, .int k]= .ok (.bl (V2 d k)):=by
 refine Wr h ?_ ?_ ?_ ?_ ?_ ?_ ?_<;>intros<;>simp [Vn,sX,V2]
theorem Hu{d:D}(h:Vv d):U5 [d]= .ok (.bl (nameB d)):=by
 refine Wr h ?_ ?_ ?_ ?_ ?_ ?_ ?_<;>intros<;>simp [U5,lZ,nameB]
 rename_i x _ hx
 rw[if_pos (bW hx),signs,X7 (F:=fun c=> .bl (inL c)) (h:=fun c _=>by simp [Yx,ZnF])]
 simp [bW hx]
 have e1:((1:Int)≤(x.length:Nat))=(1≤x.length):=propext (by omega)
 have e2:(((x.length:Nat):Int)≤8)=(x.length≤8):=propext (by omega)
 simp only[e1,e2]
 by_cases h1:1≤x.length<;>by_cases h2:x.length≤8<;>simp [h1,h2]
theorem dU(cs:List (Str×Int)):LQ [cellsD cs]= .ok (.lst (texts (cs.map (·.1)))):=by
 simp [LQ,dN,cellsD]
 rw[X7 (F:=fun c=> .str c.1) (h:=fun c _=>by simp [Yx,qQ])]
 simp [qC]
theorem Np{d:D}{k:Int}(h:V2 d k=false){xs:List D}(e:d= .tup xs):k<xs.length:=by
 subst e
 have:=of_decide_eq_false (show decide ((xs.length:Int)≤k)=false from h)
 omega
theorem Zr6{ns:List Str}{d:D}(hn:ns.length≤4)(h:V2 d 4=false):Gm ns d=false:=by
 cases d with
 |tup xs=>
  cases hb:Gm ns (.tup xs)with
  |false=>rfl
  |true=>
   obtain⟨zs,rfl,hz⟩:=MK hb
   have h4:=List.length_filter_le (fun n=>decide (n∈zs)) ns
   have:=Np h rfl
   rw[hz]at h4
   rw[QL]at this
   omega
 |_=>rfl
theorem Zc4{x:Str}{zs:List Str}(hx:Cu x)(hz: ∀y∈zs,PyData.strOk y=true∧y.length≤100000):gIn false (.str x) (.tup (texts zs))=some (.bl (decide (x∈zs))):=by
 show(if _ then _ else _)=_
 rw[if_pos ⟨Zpo hx,ZaC hz⟩]
 simp [Tq]
theorem Zc5{el:D→Rs (Option D)}(c:Str→Bool){ns:List Str}(h: ∀x∈ns,el (.str x)= .ok (if c x=true then some (.str x)else none)):qT el (texts ns)= .ok (texts (ns.filter c)):=TX D.str D.str c h
theorem mJ{el:D→Rs (Option D)}(F:Str→D){ns:List Str}(h: ∀x∈ns,el (.str x)= .ok (some (F x))):qT el (texts ns)= .ok (ns.map F):=X7 D.str F h
theorem Zc6{α:Type}(p:α→Bool)(xs:List α):(xs.map p).all id=xs.all p:=by rw[List.all_map];rfl
theorem Zr7{α:Type}(p:α→Bool)(xs:List α):(xs.map p).any id=xs.any p:=by rw[List.any_map];rfl
theorem tH{cs:List (Str×Int)}(hc:CellsOk cs): ∀x∈cs.map (·.1),Wn x:=fun x hx=>by
 obtain⟨c,hc',rfl⟩:=List.mem_map.mp hx
 exact hc.low c hc'
theorem W3{cs:List (Str×Int)}(hc:CellsOk cs): ∀x∈cs.map (·.1),Cu x:=fun x hx=>by
 obtain⟨c,hc',rfl⟩:=List.mem_map.mp hx
 exact hc.nm c hc'
theorem tK{a b:List Str}(ha: ∀x∈a,Cu x)(hb: ∀y∈b,PyData.strOk y=true∧y.length≤100000):Uc (.lst (texts a)) (.lst (texts b))=some (.bl (decide (a=b))):=by
 unfold Uc
 rw[if_pos ⟨Zit ha,gR hb⟩,tE]
theorem Ol{cs:List (Str×Int)}{d:D}(hc:CellsOk cs)(h:Vv d):Y5 [cellsD cs,d]= .ok (.bl (Gm (cs.map (·.1)) d)):=by
 simp [Y5,Pb,YT h,dU]
 cases hr:V2 d 4 with
 |false=>simp [Zr6 (ns:=cs.map (·.1)) (by rw[List.length_map];exact hc.len) hr]
 |true=>
  obtain⟨xs,rfl,hl⟩:=U8 hr
  have hit: ∀x∈xs,Vv x:=fun x hx=>QC h rfl hx
  simp
  rw[Ko (F:=fun x=> .bl (nameB x)) (h:=fun x hx=>by simp [Yx,Hu (hit x hx)])]
  cases ha:xs.all nameB with
  |false=>
   simp [-List.all_eq_true,Zc6,ha]
   cases hb:Gm (cs.map (·.1)) (.tup xs)with
   |false=>rfl
   |true=>
    obtain⟨zs,rfl,hf⟩:=MK hb
    rw[List.all_eq_false]at ha
    obtain⟨y,hy,hn⟩:=ha
    obtain⟨z,hzm,rfl⟩:=List.mem_map.mp hy
    rw[←hf]at hzm
    exact absurd (gU (tH hc z (List.mem_filter.mp hzm).1)) hn
  |true=>
   obtain⟨zs,rfl⟩:=tG (xs:=xs) fun y hy=>by
    have:=List.all_eq_true.mp ha y hy
    cases y with
    |str z=>exact⟨z,rfl⟩
    |_=>cases this
   have hzs: ∀x∈zs,PyData.strOk x=true∧x.length≤100000:=fun x hx=>Ul (hit _ (List.mem_map.mpr ⟨x,hx,rfl⟩))
   simp [-List.all_eq_true,Zc6,ha,dU]
   rw[Zc5 (fun x=>decide (x∈zs)) (fun x hx=>by simp [Yx,Zc4 (W3 hc x hx) hzs];by_cases hz:x∈zs<;>simp [hz])]
   simp [tK (fun x hx=>W3 hc x (List.mem_filter.mp hx).1) hzs,Gm,Oz]
theorem Zhf{xs:List D}(h:xs.length=2): ∃a b,xs=[a,b]:=by
 match xs,h with
 |[a,b],_=>exact⟨a,b,rfl⟩
theorem zX{xs:List D}(h:xs.length=3): ∃a b c,xs=[a,b,c]:=by
 match xs,h with
 |[a,b,c],_=>exact⟨a,b,c,rfl⟩
theorem Zr9{xs:List D}(h:xs.length=6): ∃a b c d e f,xs=[a,b,c,d,e,f]:=by
 match xs,h with
 |[a,b,c,d,e,f],_=>exact⟨a,b,c,d,e,f,rfl⟩
theorem mK{d:D}(h:BJ d=true): ∃i b,d= .tup [.int i,b]:=by
 unfold BJ at h
 split at h
 ·exact⟨_,_,rfl⟩
 ·cases h
theorem tL{xs:List D}(h:xs.length≠2):BJ (.tup xs)=false:=by
 unfold BJ
 split
 ·rename_i e;cases e;exact absurd rfl h
 ·rfl
theorem Zfm{xs:List D}(h:Vv (.tup xs)):Vv (.tup (xs.map T7)):=by
 obtain⟨b,n,w,ht,h1,h2,h3⟩:=h
 obtain⟨m,rfl,hs⟩:=MJ ht
 refine⟨b,m+1,w,G9.mpr ?_,h1,h2,h3⟩
 have one: ∀(x:D) (u:Nat),Th b m u x→Th b m u (T7 x):=fun x u hx=>by
  unfold T7
  split
  ·rename_i a c
   obtain⟨k,rfl,hs2⟩:=MJ hx
   obtain⟨w1,w2,e,g1,g2⟩:=GD.mp hs2
   obtain⟨w3,w4,e2,g3,g4⟩:=GD.mp g2
   exact g3.mono (Int.le_refl _) (by omega) (by omega)
  ·exact Zmn.mono (Int.le_refl _) (Nat.zero_le _) (Nat.zero_le _)
 clear ht h3
 induction xs generalizing w with
 |nil=>exact hs.mono (Int.le_refl _) (Nat.le_refl _) (Nat.le_refl _)
 |cons x xs ih=>
  obtain⟨w1,w2,e,g1,g2⟩:=GD.mp hs
  exact(YQ (one x w1 g1) (ih w2 g2)).mono (Int.le_refl _) (Nat.le_refl _) (by omega)
theorem qZ{cs:List (Str×Int)}{d:D}(hc:CellsOk cs)(h:Vv d):BP [cellsD cs,d]= .ok (.bl (Ug (cs.map (·.1)) d)):=by
 simp [BP,Ah,YT h]
 cases hr:V2 d 4 with
 |false=>
  simp
  cases d with
  |tup xs=>
   have:=Np hr rfl
   simp [Ug]
   omega
  |_=>rfl
 |true=>
  obtain⟨xs,rfl,hl⟩:=U8 hr
  have hit: ∀x∈xs,Vv x:=fun x hx=>QC h rfl hx
  simp
  rw[gq BJ (.rt (.bl false)) (fun a ha k=>by
   have hT:=hit a ha
   simp [YT hT]
   cases h2:V2 a 2 with
   |false=>
    have:BJ a=false:=by
     cases a with
     |tup ys=>exact tL (by have:=Np h2 rfl;omega)
     |_=>rfl
    simp [this]
   |true=>
    obtain⟨ys,rfl,hy⟩:=U8 h2
    by_cases hy2:ys.length=2
    ·obtain⟨u,v,rfl⟩:=Zhf hy2
     have hu:=QC hT rfl (x:=u) (by simp)
     simp [OD hu]
     cases u with
     |int i=>
      simp [Ue,BJ,xr]
      by_cases q1: -9≤i<;>by_cases q2:i≤9<;>by_cases q3:i=0<;>simp [q1,q2,q3]
      intro;omega
     |_=>simp [Ue,BJ]
    ·have:BJ (.tup ys)=false:=tL hy2
     simp [this,show¬((ys.length:Int)=2)by omega,xr])]
  have h4:xs.length≤4:=by omega
  cases ha:xs.all BJ with
  |false=>simp [Ug,ha,-List.all_eq_true]
  |true=>
   simp [Ug,ha,h4,-List.all_eq_true]
   rw[Ko (F:=T7) (h:=fun x hx=>by
    obtain⟨i,b,rfl⟩:=mK (List.all_eq_true.mp ha x hx)
    simp [Yx,T7])]
   simp [Ol hc (Zfm h),Gm]
end Bk.Pa
namespace Bk
open PySem PySem.Spec PyProof.Rows L2
theorem Zsa{z:Str}(h:Vv (.str z)):(D.str z).YF=true:=(Kg (k:=0) (Ul h).1 (Ul h).2).YF (by decide)
theorem Zc7{ns:List Str}{d:D}(h:V2 d 4=false):Yd ns d=some (.tup []):=by
 cases d with
 |tup xs=>
  replace h:decide ((xs.length:Int)≤4)=false:=h
  have:=of_decide_eq_false h
  show(if 4<xs.length then _ else _)=_
  rw[if_pos (by omega)]
 |_=>rfl
theorem Zmv{ns:List Str}{c:D}{j:Nat}(hj:(YL c).findIdx? (fun t=> !Vc ns t)=some j):Uu ns c=true:=by
 obtain⟨h,h1,_⟩:=List.findIdx?_eq_some_iff_getElem.mp hj
 exact List.any_eq_true.mpr ⟨_,List.getElem_mem h,h1⟩
theorem ZjW{ns:List Str}{c:D}(hj:(YL c).findIdx? (fun t=> !Vc ns t)=none):Uu ns c=false:=by
 refine List.any_eq_false.mpr fun x hx=> ?_
 rw[List.findIdx?_eq_none_iff.mp hj x hx];decide
theorem bY{neg:Bool}{x:Str}{zs:List Str}(hx:PyData.strOk x=true∧x.length≤100000)(hz: ∀y∈zs,PyData.strOk y=true∧y.length≤100000):gIn neg (.str x) (.tup (texts zs))=some (.bl (if neg then !decide (x∈zs)else decide (x∈zs))):=by
 show(if _ then _ else _)=_
 rw[if_pos ⟨(Kg (k:=0) hx.1 hx.2).YF (by decide),ZaC hz⟩]
 simp [Tq]
theorem Ws{neg:Bool}{x:Str}{zs:List Str}(hx:PyData.strOk x=true∧x.length≤100000)(hz: ∀y∈zs,PyData.strOk y=true∧y.length≤100000):gIn neg (.str x) (.lst (texts zs))=some (.bl (if neg then !decide (x∈zs)else decide (x∈zs))):=by
 show(if _ then _ else _)=_
 rw[if_pos ⟨(Kg (k:=0) hx.1 hx.2).YF (by decide),gR hz⟩]
 simp [Tq]
def CK:List Str:=["=","!=","<","<=",">",">="]
theorem Zd6: ∀y∈CK,PyData.strOk y=true∧y.length≤100000:=by decide+kernel
theorem Zmw:[D.str "=",D.str "!=",D.str "<",D.str "<=",D.str ">",D.str ">="]=texts CK:=rfl
theorem Zd7(o:Str):opB (.str o)=decide (o∈CK):=rfl
theorem tM{ns:List Str}{xs:List D}(h:xs.length≠3):Vc ns (.tup xs)=false:=by
 unfold Vc
 split
 ·rename_i e;cases e;exact absurd rfl h
 ·rfl
theorem dW{ns:List Str}(t o n:D):Vc ns (.tup [t,o,n])=(Ug ns t&&(opB o&&Ue n (-99) 99)):=rfl
theorem zY{ns:List Str}{xs:List D}(hl:xs.length≤4):Yd ns (.tup xs)=match xs.findIdx? (fun c=> !V2 c 4)with
 |some i=>some (.tup [.int (i:Nat)])
 |none=>match xs.findIdx? (Uu ns)with
  |some i=>some (.tup [.int (i:Nat), .int (((YL (xs[i]?.getD .non)).findIdx fun t=> !Vc ns t:Nat))])
  |none=>none:=by
 simp only[Yd]
 rw[if_neg (by omega)]
 all_goals (cases xs.findIdx? (fun c=> !V2 c 4)with
  |some i=>rfl
  |none=>cases xs.findIdx? (Uu ns)<;>rfl)
theorem ZaD{xs:List D}{p:D→Bool}{j:Nat}(h:xs.findIdx? p=some j):xs.findIdx p=j:=by
 rw[List.findIdx_eq_getD_findIdx?,h];rfl
end Bk
namespace Bk.Pa
open PySem PySem.Spec PyProof.Rows L2
theorem ZiF{cs:List (Str×Int)}{d:D}(hc:CellsOk cs)(h:Vv d):Mx [cellsD cs,d]= .ok (.bl (Vc (cs.map (·.1)) d)):=by
 simp [Mx,mD,YT h]
 cases hr:V2 d 3 with
 |false=>
  have:Vc (cs.map (·.1)) d=false:=by
   cases d with
   |tup ys=>exact tM (by have:=Np hr rfl;omega)
   |_=>rfl
  simp [this]
 |true=>
  obtain⟨xs,rfl,hl⟩:=U8 hr
  by_cases h3:xs.length=3
  ·obtain⟨t,o,n,rfl⟩:=zX h3
   have ht:=QC h rfl (x:=t) (by simp)
   have ho:=QC h rfl (x:=o) (by simp)
   have hn:=QC h rfl (x:=n) (by simp)
   rw[dW]
   simp [qZ hc ht,OD hn]
   cases h1:Ug (cs.map (·.1)) t with
   |false=>simp
   |true=>
    simp
    cases o with
    |str z=>
     simp [Zmw,bY (Ul ho) Zd6,Zd7,OD hn]
     by_cases q:z∈CK<;>simp [q]
    |non=>simp [opB]
    |bl _=>simp [opB]
    |int _=>simp [opB]
    |tup _=>simp [opB]
    |lst _=>simp [opB]
    |U0 _=>simp [opB]
    |_=>
     obtain⟨b,n,w,ht,_⟩:=ho
     have:=ht.g
     rw[D.good]at this
     cases this
  ·have:Vc (cs.map (·.1)) (.tup xs)=false:=tM h3
   simp [this,show¬((xs.length:Int)=3)by omega]
theorem Om{cs:List (Str×Int)}{d:D}(hc:CellsOk cs)(h:Vv d):Y6 [cellsD cs,d]=match Yd (cs.map (·.1)) d with
 |none=> .ok d
 |some e=> .ex ⟨"BadFormula",[("place",e)]⟩:=by
 simp [Y6,Pg,YT h]
 cases hr:V2 d 4 with
 |false=>simp [Zc7 hr]
 |true=>
  obtain⟨xs,rfl,hl⟩:=U8 hr
  have h4:xs.length≤4:=by omega
  have hz:xs.length≤sizeLine:=sz _ (by omega)
  have hit: ∀x∈xs,Vv x:=fun x hx=>QC h rfl hx
  simp [hz]
  rw[Mw (fun c=>V2 c 4) (fun i a=> .ex ⟨"BadFormula",[("place", .tup [.int (i:Nat)])]⟩ [some (cellsD cs),some (.tup xs),some (.int (i:Nat)),some a,none,none]) (fun i a ha k=>by
   simp [YT (hit a (List.mem_of_getElem? ha))]
   cases V2 a 4<;>simp)]
  rw[zY h4]
  cases h1:xs.findIdx? (fun c=> !V2 c 4)with
  |some i=>simp
  |none=>
   have hrow: ∀c∈xs,V2 c 4=true:=fun c hc=>by simpa using List.findIdx?_eq_none_iff.mp h1 c hc
   simp [hz]
   rw[Mw (fun c=> !Uu (cs.map (·.1)) c) (fun i a=> .ex ⟨"BadFormula",[("place", .tup [.int (i:Nat), .int ((YL a).findIdx fun t=> !Vc (cs.map (·.1)) t:Nat)])]⟩ [some (cellsD cs),some (.tup xs),some (.int (i:Nat)),some a,some (.int ((YL a).findIdx fun t=> !Vc (cs.map (·.1)) t:Nat)),some (((YL a)[(YL a).findIdx fun t=> !Vc (cs.map (·.1)) t]?).getD .non)]) (fun i a ha k=>by
    have hax:=List.mem_of_getElem? ha
    obtain⟨ys,rfl,hy⟩:=U8 (hrow a hax)
    have hT:=hit _ hax
    simp [show ys.length≤sizeLine from sz _ (by omega)]
    rw[Mw (fun t=>Vc (cs.map (·.1)) t) (fun j t=> .ex ⟨"BadFormula",[("place", .tup [.int (i:Nat), .int (j:Nat)])]⟩ [some (cellsD cs),some (.tup xs),some (.int (i:Nat)),some (.tup ys),some (.int (j:Nat)),some t]) (fun j t ht k=>by
     simp [ZiF hc (QC hT rfl (List.mem_of_getElem? ht))]
     cases Vc (cs.map (·.1)) t<;>simp)]
    cases h2:ys.findIdx? (fun t=> !Vc (cs.map (·.1)) t)with
    |none=>simp [ZjW (c:= .tup ys) h2]
    |some j=>
     simp [Zmv (c:= .tup ys) h2,YL,ZaD h2])]
   simp
   cases h2:xs.findIdx? (Uu (cs.map (·.1)))with
   |none=>simp
   |some i=>simp
end Bk.Pa
namespace Bk
open PySem PySem.Spec PyProof.Rows L2
def Tt:D→Bool
 | .str _=>true
 |_=>false
end Bk
namespace Bk.Pa
open PySem PySem.Spec PyProof.Rows L2
theorem Pn{d:D}(h:Vv d)(lo hi:Int):Gg [d, .int lo, .int hi]= .ok (.bl (Ue d lo hi)):=OD h lo hi
theorem ZkV(c:Nat):gIn true (.str ⟨#[c]⟩) (.str "abcdefghijklmnopqrstuvwxyz")=some (.bl (!inL c)):=by
 show some (D.bl (!(!(Builtin.Str.occurrences letters ⟨#[c]⟩ 0 letters.length 1).isEmpty)))=_
 rfl
theorem Zbo{d:D}(h:Vv d):Uy [d]= .ok (.bl (nameB d)):=by
 refine Wr h ?_ ?_ ?_ ?_ ?_ ?_ ?_<;>intros<;>simp [Uy,HY,nameB]
 rename_i x hs hx
 have e1:((1:Int)≤(x.length:Nat))=(1≤x.length):=propext (by omega)
 have e2:(((x.length:Nat):Int)≤8)=(x.length≤8):=propext (by omega)
 simp only[e1,e2,bW hx,if_true]
 by_cases h1:1≤x.length
 ·by_cases h2:x.length≤8
  ·have h2':((x.length:Nat):Int)≤8:=by omega
   have Zrh: ¬(8:Int)<((x.length:Nat):Int):=by omega
   simp only[h1,h2,h2',if_true]
   simp
   have hc: ∀c∈x.cps.toList,PyData.strOk (⟨#[c]⟩:Str)=true:=fun c hm=>Mp.mpr fun c' hc'=>by
    have:c'=c:=by simpa using hc'
    subst this
    exact Mp.mp hs c' (by simpa using hm)
   rw[signs,TX (F:=fun c=>D.str ⟨#[c]⟩) (c:=fun c=> !inL c) (h:=fun c _=>by
    simp [Yx,ZkV]
    cases inL c<;>simp)]
   simp [Zrh]
   rw[show((x.cps.toList.filter fun c=> !inL c).map fun c=>D.str ⟨#[c]⟩)=texts ((x.cps.toList.filter fun c=> !inL c).map fun c=>⟨#[c]⟩)from qC _ _]
   rw[show D.lst []=D.lst (texts [])from rfl,tK (fun z hz=>by
    obtain⟨c,hm,rfl⟩:=List.mem_map.mp hz
    exact⟨hc c (List.mem_filter.mp hm).1,by show 1≤64;omega⟩) (fun z hz=>by simp at hz)]
   simp
   rw[Bool.eq_iff_iff]
   simp only[decide_eq_true_eq,Array.all_eq_true_iff_forall_mem]
  ·have h2': ¬((x.length:Nat):Int)≤8:=by omega
   have Zrh:(8:Int)<((x.length:Nat):Int):=by omega
   simp [h1,h2,h2',Zrh]
 ·simp [h1]
theorem mO{x:D}(h:Vv x):VP "str" x=some (.bl (Tt x)):=by
 refine Wr h ?_ ?_ ?_ ?_ ?_ ?_ ?_<;>intros<;>simp [Tt]
theorem Hv{x:D}(h:Vv x):VP "tuple" x=some (.bl (tupB x)):=by
 refine Wr h ?_ ?_ ?_ ?_ ?_ ?_ ?_<;>intros<;>simp [tupB]
theorem yF{ns:List Str}{d:D}(hn: ∀x∈ns,Cu x)(h:Vv d):Gh [.lst (texts ns),d]= .ok (.bl (Gm ns d)):=by
 simp [Gh,Pj,Hv h]
 cases ht:tupB d with
 |false=>
  have:Gm ns d=false:=by cases d<;>first|rfl|cases ht
  simp [this]
 |true=>
  obtain⟨xs,rfl⟩:=pG ht
  have hit: ∀x∈xs,Vv x:=fun x hx=>QC h rfl hx
  simp
  rw[Znz (F:=fun x=>x) (c:=fun x=> !Tt x) (h:=fun x hx=>by simp [Yx,mO (hit x hx)];cases Tt x<;>simp)]
  cases ha:xs.all Tt with
  |false=>
   obtain⟨y,hy,hs⟩:=List.all_eq_false.mp ha
   have e:(xs.filter fun x=> !Tt x).isEmpty=false:=by
    rw[List.isEmpty_eq_false_iff_exists_mem]
    exact⟨y,List.mem_filter.mpr ⟨hy,by simpa using hs⟩⟩
   have:Gm ns (.tup xs)=false:=by
    cases hb:Gm ns (.tup xs)with
    |false=>rfl
    |true=>
     obtain⟨zs,rfl,_⟩:=MK hb
     obtain⟨z,_,rfl⟩:=List.mem_map.mp hy
     exact absurd rfl hs
   simp only[List.map_id',Bw,Zpz,Hq,e,ZcS,Bool.not_false,ZcV,if_true,ZpE,ZqJ,this,Qg,fC]
  |true=>
   have e:(xs.filter fun x=> !Tt x)=[]:=List.filter_eq_nil_iff.mpr fun x hx=>by simpa using List.all_eq_true.mp ha x hx
   obtain⟨zs,rfl⟩:=tG (xs:=xs) fun y hy=>by
    have:=List.all_eq_true.mp ha y hy
    cases y with
    |str z=>exact⟨z,rfl⟩
    |_=>cases this
   have hzs: ∀x∈zs,PyData.strOk x=true∧x.length≤100000:=fun x hx=>Ul (hit _ (List.mem_map.mpr ⟨x,hx,rfl⟩))
   simp [e]
   rw[Zc5 (fun x=>decide (x∈zs)) (fun x hx=>by simp [Yx,Zc4 (hn x hx) hzs];by_cases hz:x∈zs<;>simp [hz])]
   simp [tK (fun x hx=>hn x (List.mem_filter.mp hx).1) hzs,Gm,Oz]
theorem uF{ns:List Str}{d:D}(hn: ∀x∈ns,Cu x)(h:Vv d):Uq [.lst (texts ns),d]= .ok (.bl (Ug ns d)):=by
 simp [Uq,W9,Hv h]
 cases ht:tupB d with
 |false=>
  have:Ug ns d=false:=by cases d<;>first|rfl|cases ht
  simp [this]
 |true=>
  obtain⟨xs,rfl⟩:=pG ht
  have hit: ∀x∈xs,Vv x:=fun x hx=>QC h rfl hx
  simp
  by_cases h4:xs.length≤4
  ·have h4': ¬(4:Int)<xs.length:=by omega
   simp [h4']
   rw[gq BJ (.rt (.bl false)) (fun a ha k=>by
    have hT:=hit a ha
    simp [Hv hT]
    cases h2:tupB a with
    |false=>
     have:BJ a=false:=by cases a<;>first|rfl|cases h2
     simp [this]
    |true=>
     obtain⟨ys,rfl⟩:=pG h2
     by_cases hy2:ys.length=2
     ·obtain⟨u,v,rfl⟩:=Zhf hy2
      have hu:=QC hT rfl (x:=u) (by simp)
      simp [Pn hu]
      cases u with
      |int i=>
       simp [Ue,BJ]
       by_cases q1: -9≤i<;>by_cases q2:i≤9<;>by_cases q3:i=0<;>simp [q1,q2,q3]
       intro;omega
      |_=>simp [Ue,BJ]
     ·have:BJ (.tup ys)=false:=tL hy2
      simp [this,show¬((ys.length:Int)=2)by omega])]
   cases ha:xs.all BJ with
   |false=>simp [Ug,ha,-List.all_eq_true]
   |true=>
    simp [Ug,ha,h4,-List.all_eq_true]
    rw[Ko (F:=T7) (h:=fun x hx=>by
     obtain⟨i,b,rfl⟩:=mK (List.all_eq_true.mp ha x hx)
     simp [Yx,T7])]
    simp [yF hn (Zfm h),Gm]
  ·have h4':(4:Int)<xs.length:=by omega
   simp [h4',Ug,h4]
theorem Zbp{ns:List Str}{d:D}(hn: ∀x∈ns,Cu x)(h:Vv d):Bm [.lst (texts ns),d]= .ok (.bl (Vc ns d)):=by
 simp [Bm,Ie,Hv h]
 cases ht:tupB d with
 |false=>
  have:Vc ns d=false:=by cases d<;>first|rfl|cases ht
  simp [this]
 |true=>
  obtain⟨xs,rfl⟩:=pG ht
  by_cases h3:xs.length=3
  ·obtain⟨t,o,n,rfl⟩:=zX h3
   have ht:=QC h rfl (x:=t) (by simp)
   have ho:=QC h rfl (x:=o) (by simp)
   have hnn:=QC h rfl (x:=n) (by simp)
   rw[dW]
   simp [uF hn ht]
   cases h1:Ug ns t with
   |false=>simp
   |true=>
    simp [mO ho]
    cases o with
    |str z=>
     simp [Tt,Zmw,Ws (Ul ho) Zd6,Zd7,Pn hnn]
     by_cases q:z∈CK<;>simp [q,Pn hnn]
    |_=>simp [opB,Tt]
  ·have:Vc ns (.tup xs)=false:=tM h3
   simp [this,show¬((xs.length:Int)=3)by omega]
theorem ZnG(xs:List D):V2 (.tup xs) 4=decide (xs.length≤4):=by
 show decide ((xs.length:Int)≤4)=_
 exact decide_eq_decide.mpr (by omega)
theorem Zfn{a:D}(h:Vv a){e:Zq}{i:Nat}(hi:nth e i=some a):Br (Yt (Zw (Qm (VP "tuple") (fVar i)))) (Zw (Zz gGt (Qm YS (fVar i)) (fC (.int 4)))) e= .ok (!V2 a 4):=by
 simp [hi,Hv h]
 cases ht:tupB a with
 |false=>
  have:V2 a 4=false:=by cases a<;>first|rfl|cases ht
  simp [this]
 |true=>
  obtain⟨xs,rfl⟩:=pG ht
  rw[ZnG]
  by_cases h4:xs.length≤4
  ·simp [h4,show¬(4:Int)<xs.length by omega]
  ·simp [h4,show(4:Int)<xs.length by omega]
theorem jt{ns:List Str}{d:D}(hn: ∀x∈ns,Cu x)(h:Vv d):Vb [.lst (texts ns),d]= .ok ((Yd ns d).getD .non):=by
 simp only[Vb,Nv,ZP,Ql]
 rw[Zfn h (by simp)]
 cases hr:V2 d 4 with
 |false=>simp [Zc7 hr]
 |true=>
  obtain⟨xs,rfl,hl⟩:=U8 hr
  have h4:xs.length≤4:=by omega
  have hz:xs.length≤sizeLine:=sz _ (by omega)
  have hit: ∀x∈xs,Vv x:=fun x hx=>QC h rfl hx
  simp [hz,-Br,-Yt]
  rw[Mw (fun c=>V2 c 4) (fun i a=> .rt (.tup [.int (i:Nat)])) (fun i a ha k=>by
   have hT:=hit a (List.mem_of_getElem? ha)
   simp only[Zny,ZkP,Zv,Znx,Option.bind,List.length_cons,List.length_nil,if_true,ZkQ,Ql]
   rw[Zfn hT (by simp)]
   cases V2 a 4<;>simp)]
  rw[zY h4]
  cases h1:xs.findIdx? (fun c=> !V2 c 4)with
  |some i=>simp
  |none=>
   have hrow: ∀c∈xs,V2 c 4=true:=fun c hc=>by simpa using List.findIdx?_eq_none_iff.mp h1 c hc
   simp [hz]
   rw[Mw (fun c=> !Uu ns c) (fun i a=> .rt (.tup [.int (i:Nat), .int ((YL a).findIdx fun t=> !Vc ns t:Nat)])) (fun i a ha k=>by
    have hax:=List.mem_of_getElem? ha
    obtain⟨ys,rfl,hy⟩:=U8 (hrow a hax)
    have hT:=hit _ hax
    simp [show ys.length≤sizeLine from sz _ (by omega)]
    rw[Mw (fun t=>Vc ns t) (fun j t=> .rt (.tup [.int (i:Nat), .int (j:Nat)])) (fun j t ht k=>by
     simp [Zbp hn (QC hT rfl (List.mem_of_getElem? ht))]
     cases Vc ns t<;>simp)]
    cases h2:ys.findIdx? (fun t=> !Vc ns t)with
    |none=>simp [ZjW (c:= .tup ys) h2]
    |some j=>simp [Zmv (c:= .tup ys) h2,YL,ZaD h2])]
   simp
   cases h2:xs.findIdx? (Uu ns)with
   |none=>simp
   |some i=>simp
end Bk.Pa
namespace Bk
open PySem PySem.Spec PyProof.Rows L2
section
variable{M:List Nat}{a:FX}{wa:Exp}{s0 ws:S}{fe we:Zq}
def gW(kn:List Str)(m:Str):F1
 | .exc c _=>if c∈kn then some (.bl (HF c m))else none
 |_=>none
def MN(kn:List Str)(x:Str):F1
 | .exc c fs=>if c∈kn then fs.lookup x else none
 |_=>none
theorem W4{kn:List Str}{m:Str}(ha:AX M a wa):AX M (Qm (gW kn m) a) (fP kn m wa):=fun s0 fe we ws h R E q=>by
 refine ha s0 fe we ws h _ E (ZF (run_bind.mp q) (fun x q=> ?_) fun _ k=>k)
 obtain⟨d,e,q⟩:=Ut q
 cases x with
 |exc c fs=>
  rw[gW]at e
  split at e
  ·rename_i hk;cases e;exact⟨hk,q⟩
  ·cases e
 |_=>cases e
theorem Lj{kn:List Str}{m:Str}(ha:AX M a wa):AX M (Qm (MN kn m) a) (Mq kn m wa):=fun s0 fe we ws h R E q=>by
 refine ha s0 fe we ws h _ E (ZF (run_bind.mp q) (fun x q=> ?_) fun _ k=>k)
 obtain⟨d,e,q2⟩:=Ut q
 clear q
 cases x with
 |exc c fs=>
  rw[MN]at e
  split at e
  ·rename_i hk;exact⟨hk,d,e,q2⟩
  ·cases e
 |_=>cases e
def Zh2(kn cs:List Str)(kinds:FF):Rs D→Rs D
 | .ok d=> .ok (.lst [d])
 | .ex x=>if x.c∈kn then(if cs.any (HF x.c)=true then kinds [.exc x.c x.fs]else .ex x)else .no
 | .no=> .no
theorem ZnH{kn cs:List Str}{kinds:FF}{x:Ex}(hk:x.c∈kn)(hc:cs.any (HF x.c)=true):Zh2 kn cs kinds (.ex x)=kinds [.exc x.c x.fs]:=by
 show(if x.c∈kn then(if cs.any (HF x.c)=true then kinds [.exc x.c x.fs]else .ex x)else .no)=_
 rw[if_pos hk,if_pos hc]
def Tells(N:List Str)(t:Act→Addr→List D→List V→Yh)(told:Rs D→Rs D):Prop:= ∀(act:Act) (r:Rs D) (s:S) (f:Addr) (xs:List D) (vs:List V) (R:Q1) (E:XQ),(∀R E,r.run (fun d=>R d s) (fun x=>E x s)→act s R E)→(told r).run (fun d=>R d s) (fun x=>E x s)→t act f xs vs (Qx R E) (ZC N [.clo f xs vs]) s
@[simp] def gY (told:Rs D→Rs D) (a:FX) (e:Zq):Rs D:=told (a e)
theorem Zhg{N:List Str}{t:Act→Addr→List D→List V→Yh}{told:Rs D→Rs D}(h:Tells N t told)(ha:AX M a wa):AX M (gY told a) (ZkL N t wa):=fun s0 fe we ws hr R E q f xs vs=>
 h _ (a fe) ws f xs vs R E (fun R E q=>ha s0 fe we ws hr R E q) q
theorem ZnI{kn cs:List Str}{kinds:FF}{N:List Str}(hN:N.length=4:=by rfl):Tells N (fun act f xs vs=>(ZV (wR (dTup (Zd (dC .non) (Zd (dC .non) Zo))) (Nz 2 (Jm (Z6 1) (Jm (Z6 2) Ny))))
 (ZV (zL kn cs 3 1 (Jo 2 (ZkK f xs vs act)))
 (QJ (Kc (ZX (ZG (RM false) (Zf 1) (dC .non))) (VH (Zd (Zf 2) Zo)) (dCall 1 (pF kinds) (Zd (Zf 1) Zo))))))) (Zh2 kn cs kinds):=by
 intro act r s f xs vs R E ha hq
 have e0:ZC N [.clo f xs vs]=[some (.clo f xs vs),none,none,none]:=by rw[gj,hN];rfl
 rw[e0]
 refine⟨sz _ (show 2≤_ by omega),rfl,rfl,rfl, ?_⟩
 cases r with
 |ok d=>exact ha _ _ ⟨sz _ (show 1≤_ by omega),⟨s,Sub.refl s,hq⟩⟩
 |no=>exact hq.elim
 |ex x=>
  refine ha _ _ ?_
  rw[Zh2]at hq
  split at hq
  ·rename_i hk
   refine⟨hk, ?_⟩
   split at hq
   ·rename_i hc
    rw[if_pos hc]
    refine⟨rfl, ?_⟩
    exact ZF hq (fun d q=>⟨s,Sub.refl s,q⟩) fun x q=>⟨s,Sub.refl s,q⟩
   ·rename_i hc
    rw[if_neg hc]
    exact⟨s,Sub.refl s,hq⟩
  ·exact hq.elim
theorem Rl.self(e:Zq)(s:S):Rl [] s e e s:=⟨rfl,Sub.refl s,fun _ _ _ _ h=>h,fun _ _ _ _ h=>⟨_,h, .inl rfl⟩,fun _ _ h=>(nomatch h),fun _ _ _ h=>(nomatch h)⟩
end
def Left(p:Addr)(m:Nat)(s:S):Prop:= ∃k,m≤k∧s.g=some (p,k)
theorem Left.mono{p:Addr}{m n:Nat}{s:S}(l:Left p m s)(h:n≤m):Left p n s:=by
 obtain⟨k,hk,e⟩:=l
 exact⟨k,Nat.le_trans h hk,e⟩
theorem ZpJ{c m:Nat}{pre:List D→Prop}{Pd:List D→D→Prop}{p:Addr}{as:List D}{s:S}{R:Q1}{E:XQ}(hl:Left p (c+m) s)(hp:pre as)(h: ∀d s',Pd as d→s'.mu=s.mu→Left p m s'→R d s'):pDr c pre Pd (.rf (.ref p)::as) s R E:=by
 obtain⟨k,hk,hg⟩:=hl
 obtain⟨mu,g⟩:=s
 cases hg
 exact⟨mu,p,k,as,rfl,rfl,by omega,hp,fun d hd=>h d _ hd rfl ⟨k-c,by omega,rfl⟩⟩
end Bk
namespace Bk.Qa
open PySem PySem.Spec PyProof.Rows L2
end Bk.Qa
namespace Bk.Qa
open PySem PySem.Spec PyProof.Rows L2
def Zh3:List D:=[.non, .int 0, .int 1, .int 2, .int 4, .int (-1), .int 100, .bl true, .bl false, .str "", .str "a", .str "abcdefghi", .str "A", .str "=", .str "one", .tup [], .tup [.tup []], .tup [.str "a", .int 1]]++
 [.lst [], .U0 [], .int (10^30), .tup [.tup [.str "a"]], .tup [.tup [.int 1, .str "a"]], .str "last", .str "a1", .str "a-b"]
end Bk.Qa
namespace Gn
open PySem
open Sem (wp)
def held:GenState→Bool
 | .suspended .. =>true
 | .running=>true
 |_=>false
def poi:GenState→GenState
 | .suspended _ l c p fs cl=> .suspended (fun _=> .unsupported "held") l c p fs cl
 |g=>g
def HeldAt(G:Array GenState)(i:Nat):Prop:= ∃g,G[i]? =some g∧held g=true
def unG(G a:Array GenState):Array GenState:=a.mapIdx fun i x=>match G[i]? with
 |some g=>if held g then g else x
 |none=>x
def un(G:Array GenState)(s:Shared):Shared:={s with gens:=unG G s.gens}
def NoG(G:Array GenState)(fs:List Frame):Prop:= ∀i k l c p,Frame.gen i k l c p∈fs→ ¬HeldAt G i
structure Kept(G:Array GenState)(s:Shared):Prop where
 size:G.size≤s.gens.size
 at_: ∀(i:Nat) (g:GenState),G[i]? =some g→held g=true→s.gens[i]? =some (poi g)
 tab: ∀(i:Nat) k l c p fs cl,s.gens[i]? =some (.suspended k l c p fs cl)→ ¬HeldAt G i→NoG G fs
section
variable{G:Array GenState}{s:Shared}
theorem Kept.set{i:Nat}{x:GenState}(h:Kept G s)(hi: ¬HeldAt G i)(hx: ∀k l c p fs cl,x= .suspended k l c p fs cl→NoG G fs):Kept G (s.setGen i x):=by
 refine⟨by rw[GenW.setGen_size];exact h.size,fun j g e hg=> ?_,fun j k l c p fs cl e hj=> ?_⟩
 ·have hji:i≠j:=fun z=>hi (by rw[z];exact⟨g,e,hg⟩)
  show(s.gens.setIfInBounds i x)[j]? =_
  rw[Array.getElem?_setIfInBounds_ne hji]
  exact h.at_ j g e hg
 ·have e':(s.gens.setIfInBounds i x)[j]? =some (.suspended k l c p fs cl):=e
  by_cases hji:i=j
  ·subst hji
   rw[Array.getElem?_setIfInBounds_self]at e'
   split at e'
   ·exact hx _ _ _ _ _ _ (Option.some.inj e')
   ·cases e'
  ·rw[Array.getElem?_setIfInBounds_ne hji]at e'
   exact h.tab j _ _ _ _ _ _ e' hj
theorem Kept.push{c:Code}(h:Kept G s):Kept G {s with gens:=s.gens.push (.fresh c)}:=by
 refine⟨by show G.size≤(s.gens.push _).size;rw[Array.size_push];exact Nat.le_succ_of_le h.size,fun j g e hg=> ?_,fun j k l c' p fs cl e hj=> ?_⟩
 ·show(s.gens.push _)[j]? =_
  have hj:j<G.size:=(Array.getElem?_eq_some_iff.mp e).1
  rw[Array.getElem?_push,if_neg (by have:=h.size;omega)]
  exact h.at_ j g e hg
 ·have e':(s.gens.push (.fresh c))[j]? =some (.suspended k l c' p fs cl):=e
  rw[Array.getElem?_push]at e'
  split at e'
  ·cases e'
  ·exact h.tab j _ _ _ _ _ _ e' hj
theorem NoG.tail{f fs}(x:NoG G (f::fs)):NoG G fs:=fun i k l c p hm=>x i k l c p (List.mem_cons_of_mem _ hm)
theorem NoG.app{fs fs'}(x:NoG G fs)(y:NoG G fs'):NoG G (fs++fs'):=fun i k l c p hm=>(List.mem_append.mp hm).elim (x i k l c p) (y i k l c p)
theorem NoG.nil:NoG G []:=fun _ _ _ _ _ h=>nomatch h
end
end Gn
namespace Gn
open PySem PyProof.Rows
open Sem (wp)
variable{G:Array GenState}
def HK(s s':Shared):Prop:= ∀(i:Nat) (g:GenState),s.gens[i]? =some g→held g=true→s'.gens[i]? =some g
def HKx(ex:List Nat)(s s':Shared):Prop:= ∀(i:Nat) (g:GenState),s.gens[i]? =some g→held g=true→i∉ex→s'.gens[i]? =some g
theorem HKx.refl(ex:List Nat)(s:Shared):HKx ex s s:=fun _ _ e _ _=>e
theorem HK.refl(s:Shared):HK s s:=fun _ _ e _=>e
theorem HK.trans{a b c:Shared}(x:HK a b)(y:HK b c):HK a c:=fun i g e h=>y i g (x i g e h) h
end Gn
namespace Bk
open PySem PySem.Spec PyProof.Rows L2
end Bk
namespace Bk
open PySem PySem.Spec PyProof.Rows L2
def ZuA(n:Nat)(r:List D→Zq→Option Zq)(d:D)(e:Zq):Option Zq:=match d with
 | .lst ds=>if ds.length=n then r ds e else none
 |_=>none
@[simp] theorem Zvy (n:Nat) (r:List D→Zq→Option Zq) {ds:List D} {e:Zq}:ZuA n r (.lst ds) e=if ds.length=n then r ds e else none:=rfl
end Bk
namespace Bk
open PySem PySem.Spec PyProof.Rows L2
def ZoR{α:Type}(D:Addr):List (Str×Value)→Sem α→Sem α→Prop
 |[],t,r=>t=r
 |q::l,t,r=> ∃(β γ:Type) (k1:Option Value→Sem β) (k2:β→Sem γ) (k3:γ→Sem α) (a:β),t=((nsGet D q.1>>=k1)>>=k2)>>=k3∧k1 (some q.2)=pure a∧ZoR D l (k2 a>>=k3) r
theorem ZoR.run{α:Type}{K:PySem.W.Frag}{M:Model}{A:Around}{D:Addr}{s:Shared}{Q:α→Shared→Prop}{E:Value→Shared→Prop}(X:K.In s.heap): ∀{l:List (Str×Value)} {t r:Sem α},(∀q∈l,PySem.W.nsIn K D q.1=some (some q.2))→ZoR D l t r→wpAny M A r Q E s→wpAny M A t Q E s
 |[],t,r,_,e,h=>by rw[show t=r from e];exact h
 |q::l,t,r,hl,e,h=>by
  obtain⟨β,γ,k1,k2,k3,a,e1,e2,e3⟩:=e
  have l1:PySem.W.Looks M s.heap (nsGet D q.1>>=k1) a:=(PySem.W.looks_nsIn X (hl q (List.mem_cons_self ..))).andThen (PySem.W.Looks.of_pure e2)
  rw[e1,bind_assoc]
  exact wpAny_bind (l1.at (ZoR.run X (fun p hp=>hl p (List.mem_cons_of_mem _ hp)) e3 h))
section
variable{P:Program}{w:World}{K:PySem.W.Frag}{mg:Str→Option Value}{base:Heap}{T:Tb}
structure GSt(P:Program)(w:World)(K:PySem.W.Frag)(mg:Str→Option Value)(base:Heap)(k:Nat)(f:Addr)(n:Nat)(ks:List Str)(gV:List V→V→List V→List V)(sp:Sp):Prop where
 run: ∀(A:Around) (outer:List Env) (s:Shared) (H:Hp) (us ws:List Value) (vs rest zs:List V) (Q:VK) (E:XK),Room k A→A.guards=some []→Env0 P w K mg base A outer s H→Vals (vs++rest) us→Vals zs ws→vs.length=n→zs.length=ks.length→rest.length≤sizeLine→
  (∀p,H p=none→sp (gV vs (.ref p) zs) (upd H p (.tup rest)) Q E)→codeAny (model P w) A (.call (.ref f) ⟨us,ks.zip ws⟩) (CR (L2.CX P w) outer P w H s Q E) s
end
end Bk
namespace Bk
open PySem PySem.Spec PyProof.Rows L2
section
variable{K:PySem.W.Frag}{T:Tb}{F H:Hp}{s:S}
def jP(f:Str)(y:D):List (Str×D)→List (Str×D)
 |[]=>[(f,y)]
 |(g,x)::r=>if g=f then(g,y)::r else(g,x)::jP f y r
theorem Wi.put{f:Str}{y:D}{v:V}(h:Rep K T F y v): ∀{fs:List (Str×D)} {vs:List (Str×V)},Wi K T F fs vs→Wi K T F (jP f y fs) (putF f v vs)
 |_,_, .nil=> .cons h .nil
 |_,_, .cons (k:=k) q r=>by
  unfold jP putF
  by_cases e:k=f
  ·rw[if_pos e,if_pos e];exact .cons h r
  ·rw[if_neg e,if_neg e];exact .cons q (Wi.put h r)
end
def Zh4(f:Str)(d:D):D:=bif f=="cells" then d.unp else d
end Bk
namespace Bk
open PySem PySem.Spec PyProof.Rows L2
structure Zsb(K:PySem.W.Frag)(T:Tb)(n m:Nat)(gD:List D→D→List D→List D)(gV:List V→V→List V→List V):Prop where
 rel: ∀{F:Hp} {ds ks:List D} {vs zs:List V} {t:D} {u:V},Qw K T F ds vs→Rep K T F t u→Qw K T F ks zs→ds.length=n→ks.length=m→Qw K T F (gD ds t ks) (gV vs u zs)
def ZoS(f:Exp)(r:Arg):Arg:=fun e s R E=>f e s (fun d s1=> ∃ds,jJ d s1=some ds∧r e s1 (fun rest s2=>R (ds++rest) s2) E) E
section
variable{X:Cx}{T:Tb}{W:WX}{a:Expr}{es:List Expr}{kws:List Keyword}{fa:Exp}{r:Arg}{p pos:Pos}
theorem ZjX(ha:DX X T W a fa)(hr:DA X T W es r)(hs:starEach (.Starred a p::es) X.env=(true,eval a X.env)::starEach es X.env:=by rfl):DA X T W (.Starred a p::es) (ZoS fa r):=⟨ZgT (StX.pa_star ha.pe hr.pa hs) fun σ H Q h=>by
 obtain⟨F,e,s,R,E,he,hh,hx,hf,post⟩:=h
 refine⟨F,e,s,_,E,he,hh,hx,hf,fun x s1 vx H1 F1 q1 e1 hh1 rx=> ?_⟩
 obtain⟨ds,hd,q⟩:=q1
 obtain⟨pp,xs,rfl,hq,rr⟩:=rx.seq hh1 hd
 exact⟨pp,xs,rfl,hq.symm,F1,e,s1,_,E,he.mono e1.same,hh1,hx.mono e1,q,fun zs s2 vs H2 F2 q2 e2 hh2 rs=>post (ds++zs) s2 (xs++vs) H2 F2 q2 (e1.trans e2) hh2 ((rr.mono e2.same).append rs)⟩⟩
end
end Bk
namespace Bk
open PySem PySem.Spec PyProof.Rows L2
end Bk
namespace Bk
open PySem PySem.Spec PyProof.Rows L2
def Zet(cn:List Str)(f:Str):F1
 | .obj n fs=>if n∈cn then(fs.lookup f).map (Zh4 f)else none
 |_=>none
@[simp] theorem Zvz (cn:List Str) (f n:Str) (fs:List (Str×D)) (h:n∈cn):Zet cn f (.obj n fs)=(fs.lookup f).map (Zh4 f):=if_pos h
@[simp] theorem ZvA (f:Str) (xs:List D):Zh4 f (.tup xs)= .tup xs:=by unfold Zh4;cases f=="cells" <;>rfl
@[simp] theorem ZvB (f:Str) (xs:List D):Zh4 f (.lst xs)= .lst xs:=by unfold Zh4;cases f=="cells" <;>rfl
section
variable{M:List Nat}{a v:FX}{wa wv:Exp}{cn:List Str}{f nm:Str}
def atO:Option D→(Str→List (Str×D)→Out)→Out
 |some (.obj n fs),k=>k n fs
 |_,_=> .no
@[simp] theorem Zye (n:Str) (fs:List (Str×D)) (k:Str→List (Str×D)→Out):atO (some (.obj n fs)) k=k n fs:=rfl
@[simp] def Zy4 (cn:List Str) (i:Nat) (f:Str) (v:FX) (e:Zq):Out:=(v e).out e fun y=>atO (nth e i) fun n fs=>if n∈cn∧fs.length<1000 then .nx (Jh e i (some (.obj n (jP f y fs))))else .no
end
abbrev FI:=Zq→List (Str×D)→Rs (List (Str×D))
@[simp] def Zc8 (a:FX) (f:FI):FI:=fun e fs=>(a e).bind fun _=>f e fs
@[simp] def Zh5 (cn:List Str) (nm fld:Str) (v:FX) (f:FI):FI:=fun e fs=>(v e).bind fun y=>if nm∈cn∧fs.length<1000 then f e (jP fld y fs)else .no
@[simp] def ZuB:FI:=fun _ fs=> .ok fs
def ZqQ(f:FI)(N:List Str)(as:List D):Rs (List (Str×D)):=f (ZC N (.non::as)) []
def newF(nm:Str)(n m:Nat)(g:List D→D→List D→List D)(F:List D→Rs (List (Str×D)))(ds ks:List D):Rs D:=if n≤ds.length∧ds.length≤sizeLine∧ks.length=m then(F (g (ds.take n) (.tup (ds.drop n)) ks)).bind fun fs=> .ok (.obj nm fs)else .no
@[simp] def fNew (nm:Str) (n m:Nat) (g:List D→D→List D→List D) (F:List D→Rs (List (Str×D))) (r rk:FA) (e:Zq):Rs D:=(r e).bind fun ds=>(rk e).bind fun ks=>newF nm n m g F ds ks
section
variable{M:List Nat}{nm:Str}{n m:Nat}{g:List D→D→List D→List D}{F:List D→Rs (List (Str×D))}{r rk:FA}{wr wk:Arg}
def isC(nm:Str):D→Bool
 | .cls c=>decide (c=nm)
 |_=>false
@[simp] theorem Zyf (nm:Str):isC nm (.cls nm)=true:=decide_eq_true rfl
@[simp] def ZuC (nm:Str) (n m:Nat) (g:List D→D→List D→List D) (F:List D→Rs (List (Str×D))) (a:FX) (r rk:FA) (e:Zq):Rs D:=(a e).bind fun d=>if isC nm d=true then fNew nm n m g F r rk e else .no
theorem Zmx:AI M Zm Zo:=fun s0 fe we ws h R E q=>q
theorem Zd8{a:FX}{wa:Exp}(ha:AX M a wa)(hr:AI M r wr):AI M (Zb a r) (Zd wa wr):=fun s0 fe we ws h R E q=>by
 refine ha s0 fe we ws h _ E (ZF (run_bind.mp q) (fun d q=> ?_) fun _ k=>k)
 exact hr s0 fe we ws h _ E (ZF (run_bind.mp q) (fun rest q=>q) fun _ k=>k)
@[simp] def ZoT (a:FX) (r:FA) (e:Zq):Rs (List D):=(a e).bind fun d=>(Rs.opt (TQ d)).bind fun ds=>(r e).bind fun rest=> .ok (ds++rest)
theorem Zmy{a:FX}{wa:Exp}(ha:AV M a wa)(hr:AI M r wr):AI M (ZoT a r) (ZoS wa wr):=fun s0 fe we ws h R E q=>by
 refine ha s0 fe we ws h _ E (ZF (run_bind.mp q) (fun d q d' hd=> ?_) fun _ k=>k)
 cases hs:TQ d with
 |none=>rw[hs]at q;exact q.elim
 |some ds=>
  rw[hs]at q
  exact⟨ds,Hr hd hs,hr s0 fe we ws h _ E (ZF (run_bind.mp q) (fun rest q=>q) fun _ k=>k)⟩
end
end Bk
namespace Bk
open PySem PySem.Spec PyProof.Rows L2 ClX
end Bk
namespace Bk
open PySem PySem.Spec PyProof.Rows L2 ClX
section
variable{M:List Nat}{n m:Nat}{gD:List D→List D→List D}{F:FF}{r rk:FA}{wr wk:Arg}{a:FX}{wa:Exp}{cn:List Str}{mt:Str}
@[simp] def Zsc (n m:Nat) (gD:List D→List D→List D) (F:FF) (r rk:FA) (e:Zq):Rs D:=(r e).bind fun ds=>(rk e).bind fun ks=>if ds.length=n∧ks.length=m then F (gD ds ks)else .no
def ZtH(cn:List Str)(mt:Str):D→Bool
 | .obj c fs=>decide (c∈cn)&&(fs.lookup mt).isNone
 |_=>false
@[simp] def Zy5 (cn:List Str) (mt:Str) (n m:Nat) (gD:List D→List D→List D) (F:FF) (a:FX) (r rk:FA) (e:Zq):Rs D:=(a e).bind fun d=>if ZtH cn mt d=true then Zsc n m gD F (fun e=>(r e).bind fun ds=> .ok (d::ds)) rk e else .no
def Zri(cn:List Str):D→Bool
 | .obj c _=>decide (c∈cn)
 |_=>false
@[simp] def Zy6 (cn:List Str) (F:FF) (a:FX) (e:Zq):Rs D:=(a e).bind fun d=>if Zri cn d=true then(F [d]).calm else .no
end
end Bk
namespace Bk
open PySem PySem.Spec PyProof.Rows L2 ClX
section
variable{X:Cx}{T:Tb}{W:WX}{k:Nat}{C g:Addr}{fd:FuncData}{ps cn:List Str}{phi:Fn}
theorem inst_ofO{pins:List (Addr×Obj)}{σ:L2.St}{H:Hp}{s:Shared}{a dx:Addr}{fs:List (Str×V)}(I:Inv X pins σ H s)(ea:H a=some (.ins C dx fs)): ∃ox od,PySem.W.InstAt s.heap a ox C od:=by
 obtain⟨mA,O,_,_,_,_⟩:=ins_get I.hok ea
 obtain⟨od,J,_⟩:=O.look
 exact⟨_,_,J⟩
end
end Bk
namespace Bk
open PySem PySem.Spec PyProof.Rows L2
inductive Sel where
 |id|rev
def Sel.of{α:Type}:Sel→List α→List α
 | .id,l=>l
 | .rev,l=>l.reverse
@[simp] theorem Sel.Zy7 {α:Type} (l:List α):Sel.of .id l=l:=rfl
@[simp] theorem Sel.Zyg {α:Type} (l:List α):Sel.of .rev l=l.reverse:=rfl
theorem Sel.len{α:Type}(x:Sel)(l:List α):(x.of l).length=l.length:=by cases x<;>simp
def ZoU(x:Sel)(ds:List D)(t:D)(ks:List D):List D:=ds++x.of ks++[t]
def Zxc(cs:List D)(ds:List D)(t:D)(_:List D):List D:=ds++cs++[t]
@[simp] theorem ZwN (ds:List D) (t:D) (ks:List D):ZoU .id ds t ks=ds++ks++[t]:=rfl
@[simp] theorem ZvC (ds:List D) (t:D) (ks:List D):ZoU .rev ds t ks=ds++ks.reverse++[t]:=rfl
@[simp] theorem ZwO (cs ds:List D) (t:D) (ks:List D):Zxc cs ds t ks=ds++cs++[t]:=rfl
def ZtI(x:Sel)(ds ks:List D):List D:=ds++x.of ks
def Zxd(cs:List D)(ds _ks:List D):List D:=ds++cs
@[simp] theorem ZwP (ds:List D) (ks:List D):ZtI .id ds ks=ds++ks:=rfl
@[simp] theorem ZvD (ds:List D) (ks:List D):ZtI .rev ds ks=ds++ks.reverse:=rfl
@[simp] theorem ZwQ (cs ds:List D) (ks:List D):Zxd cs ds ks=ds++cs:=rfl
end Bk
namespace Bk
open PySem PySem.Spec PyProof.Rows L2 ClX
structure Zrj(P:Program)(w:World)(K:PySem.W.Frag)(mg:Str→Option Value)(base:Heap)(T:Tb)(k:Nat)(nm:Str)(n:Nat)(ks:List Str)(gD:List D→D→List D→List D)(phi:Fn):Prop where
 ex: ∃(fI:Addr) (np:Nat) (gV:List V→V→List V→List V),Mk K (T.cls nm) fI∧GSt P w K mg base k fI (n+1) ks gV (Bs K T np phi)∧Zsb K T (n+1) ks.length gD gV∧ ∀ds t ks',ds.length=n+1→ks'.length=ks.length→(gD ds t ks').length=np
theorem GSt.mono{P:Program}{w:World}{K:PySem.W.Frag}{mg:Str→Option Value}{base:Heap}{j k:Nat}{f:Addr}{n:Nat}{ks:List Str}{gV:List V→V→List V→List V}{sp:Sp}(G:GSt P w K mg base j f n ks gV sp)(h:j≤k):GSt P w K mg base k f n ks gV sp:=
 ⟨fun A outer s H us ws vs rest zs Q E hr=>G.run A outer s H us ws vs rest zs Q E (hr.mono h)⟩
theorem Zrj.mono{P:Program}{w:World}{K:PySem.W.Frag}{mg:Str→Option Value}{base:Heap}{T:Tb}{j k:Nat}{nm:Str}{n:Nat}{ks:List Str}{gD:List D→D→List D→List D}{phi:Fn}(N:Zrj P w K mg base T j nm n ks gD phi)(h:j≤k):Zrj P w K mg base T k nm n ks gD phi:=by
 obtain⟨fI,np,gV,a,b,c,d⟩:=N.ex
 exact⟨fI,np,gV,a,b.mono h,c,d⟩
end Bk
namespace Bk
open PySem PySem.Spec PyProof.Rows L2
def ZoV(neg:Bool):F2:=fun x y=>match Zrf y with
 |some ds=>if x.YF=true∧(D.lst ds).YF=true then some (.bl (if neg then !isIn x ds else isIn x ds))else none
 |none=>none
@[simp] theorem Zd9 (neg:Bool) (x:D) (ds:List D):ZoV neg x (.lst ds)=if x.YF=true∧(D.lst ds).YF=true then some (.bl (if neg then !isIn x ds else isIn x ds))else none:=rfl
end Bk
namespace Bk
open PySem PySem.Spec PyProof.Rows L2
def ZqR:List D→Rs (List D)
 |[.int i, .int j]=>if(-(2^62)≤i∧i<2^62∧ -(2^62)≤j∧j<2^62)∧(j-i).toNat≤sizeLine then .ok (DY i (j-i).toNat)else .no
 |_=> .no
@[simp] theorem ZvE (i j:Int):ZqR [.int i, .int j]=if(-(2^62)≤i∧i<2^62∧ -(2^62)≤j∧j<2^62)∧(j-i).toNat≤sizeLine then .ok (DY i (j-i).toNat)else .no:=rfl
@[simp] def Zy8 (r:FA) (e:Zq):Rs (List D):=(r e).bind ZqR
end Bk
namespace Gn
open PySem PySem.Spec PyProof.Rows L2 Bk GenW
def cut(h:Heap)(L:Addr):Heap:={h with objs:=h.objs.extract 0 L}
structure GP where
 P:Program
 w:World
 K:PySem.W.Frag
 mg:Str→Option Value
 base:Heap
 T:Tb
 k:Nat
 N:List Str
 qual:Str
 sc:Scope
 f:Addr
 cd:Value
 outer:List Env
 L:Addr
abbrev GP.env(g:GP):Env:=envOfC g.qual g.sc g.L g.f g.cd
structure GP.Ok(g:GP):Prop where
 kind:g.sc.kind= .function
 co:g.sc.isCoroutine=false
 nocell: ∀y∈g.sc.names,y.2≠ .cell∧y.2≠ .free
 nd:g.N.Nodup
 fsL: ∀b∈frs g.outer,b<g.L
 bsL:g.base.objs.size≤g.L
theorem Zc9: ∀(l:List (Str×NameKind)) (n:Nat) (acc:List (Str×Addr)),(∀y∈l,y.2≠ .cell)→cellsFrom n l acc=acc
 |[],_,_,_=>rfl
 |(x,k)::r,n,acc,h=>by
  have hk:(k==NameKind.cell)=false:=by
   have:=h (x,k) List.mem_cons_self
   cases k<;>first|rfl|exact absurd rfl this
  show(if(k==NameKind.cell)=true then _ else _)=_
  rw[hk,if_neg Bool.false_ne_true]
  exact Zc9 r n acc fun y hy=>h y (List.mem_cons_of_mem _ hy)
theorem GP.Ok.cells{g:GP}(ok:g.Ok):g.env.cells=[]:=Zc9 _ _ _ fun y hy=>(ok.nocell y hy).1
structure Wk where
 A:Around
 s:Shared
 H:Hp
 F:Hp
 S:S
 ow:List (Addr×Obj)
 gi:List Nat
def yG(o:Obj):Prop:= ∀v,o.data≠ .cell v
open Classical in
noncomputable def Wk.pn (R:Wk) (L:Addr):List (Addr×Obj):=(List.range R.s.heap.objs.size).filterMap fun b=>match R.s.heap.get? b with
 |some o=>if L<b∧R.H b=none∧yG o∧(∀p∈R.ow,p.1≠b)then some (b,o)else none
 |none=>none
theorem Wk.Zsd{R:Wk}{L b:Addr}{o:Obj}:(b,o)∈R.pn L↔R.s.heap.get? b=some o∧L<b∧R.H b=none∧yG o∧ ∀p∈R.ow,p.1≠b:=by
 classical
 unfold Wk.pn
 rw[List.mem_filterMap]
 constructor
 ·rintro ⟨c,hc,e⟩
  cases hg:R.s.heap.get? c with
  |none=>rw[hg]at e;cases e
  |some o'=>
   rw[hg]at e
   dsimp only at e
   split at e
   ·rename_i h
    cases e
    exact⟨hg,h⟩
   ·cases e
 ·rintro ⟨hg,h⟩
  refine⟨b,List.mem_range.mpr (Heap.lt_size hg), ?_⟩
  rw[hg]
  dsimp only
  rw[if_pos h]
open Classical in
noncomputable def Wk.chg (R:Wk) (L:Addr):List Addr:=(List.range R.s.heap.objs.size).filter fun b=>decide (L≤b∧ ∀o,(b,o)∉R.pn L)
theorem Wk.ZpK{R:Wk}{L b:Addr}:b∈R.chg L↔b<R.s.heap.objs.size∧L≤b∧ ∀o,(b,o)∉R.pn L:=by
 classical
 unfold Wk.chg
 rw[List.mem_filter,List.mem_range]
 exact and_congr_right fun _=>decide_eq_true_iff
structure Step(g:GP)(R:Wk)(s':Shared)(H' F':Hp):Prop where
 os:s'.os=R.s.os
 bare:AllBare s'.gens
 un:Un (frs g.outer) (R.chg g.L) R.H H' R.s.heap s'.heap
 hok:HOk g.P g.w H' s'.heap
 hold:Hold g.K g.T F' R.S H'
 ext:Ext R.F R.S R.H F' R.S H'
 hk:HKx R.gi R.s s'
 gsz:R.s.gens.size≤s'.gens.size
structure Ready(g:GP)(R:Wk):Prop where
 room:Room (g.k+1) R.A
 grd:R.A.guards=some []
 e0:Env0 g.P g.w g.K g.mg g.base R.A g.outer R.s R.H
 hold:Hold g.K g.T R.F R.S R.H
 hL:R.H g.L=none
 szL:g.L≤R.s.heap.objs.size
 own: ∀p∈R.ow,R.s.heap.get? p.1=some p.2∧R.H p.1=none
def Zxe(g:GP)(ow:List (Addr×Obj)):Prop:= ∀p∈ow,g.L<p.1∧yG p.2
end Gn
namespace Gn
open PySem PySem.Spec PyProof.Rows L2 Bk GenW
open Sem (wp)
structure Own where
 lo:Obj
 ow:List (Addr×Obj)
 pH:List (Nat×GenState)
 F:Hp
structure rA(g:GP)(o:Own)(s:Shared)(H:Hp):Prop where
 lo:s.heap.get? g.L=some o.lo
 hL:H g.L=none
 own: ∀p∈o.ow,s.heap.get? p.1=some p.2∧H p.1=none
 pH: ∀q∈o.pH,s.gens[q.1]? =some q.2
structure ZlU(g:GP)(o:Own):Prop where
 ow:Zxe g o.ow
 lo:yG o.lo
 pH: ∀q∈o.pH,held q.2=true
structure Zhi(g:GP)(R:Wk)(o:Own):Prop where
 dis: ∀p∈o.ow,∀q∈R.pn g.L,q.1≠p.1
 pH: ∀q∈o.pH,q.1∈R.gi∨R.s.gens.size≤q.1
abbrev GP.M(g:GP):Model:=model g.P g.w
def Go(g:GP)(gs:GenState)(R:Wk)(Φ:End→Shared→Prop):Prop:=match gs with
 | .fresh c=> ∀Γ p,Γ.code=c→Γ.Woken R.A→ ∃e s',Runs g.M Γ p (g.M.den c) [] R.s e s'∧e.quiet=true∧Φ e s'
 | .suspended k _ c _ fs _=> ∀Γ p,Γ.code=c→Γ.Woken R.A→ ∃e s',Runs g.M Γ p (k (.send .none)) fs R.s e s'∧e.quiet=true∧Φ e s'
 |_=>False
def Will(g:GP):List D→Own→GenState→Prop
 |[],o,gs=> ∀R:Wk,Ready g R→R.ow=o.ow→R.gi=o.pH.map (·.1)→rA g o R.s R.H→Same o.F R.F→Go g gs R fun e s'=>(e= .ret (.ok (.ret .none))∨e= .ret (.ok .next))∧ ∃H' F',Step g R s' H' F'
 |d::ds,o,gs=> ∀R:Wk,Ready g R→R.ow=o.ow→R.gi=o.pH.map (·.1)→rA g o R.s R.H→Same o.F R.F→Go g gs R fun e s'=> ∃H' u v o',Step g R s' H' o'.F∧e.result= .yielded u∧RelV v u∧Rep g.K g.T o'.F d v∧ZlU g o'∧rA g o' s' H'∧Zhi g R o'∧Will g ds o' e.genState
def Zxf(g:GP)(R:Wk):List D→End→Shared→Prop
 |[],e,s'=>(e= .ret (.ok (.ret .none))∨e= .ret (.ok .next))∧ ∃H' F',Step g R s' H' F'
 |d::ds,e,s'=> ∃H' u v o',Step g R s' H' o'.F∧e.result= .yielded u∧RelV v u∧Rep g.K g.T o'.F d v∧ZlU g o'∧rA g o' s' H'∧Zhi g R o'∧Will g ds o' e.genState
theorem ZnJ{g:GP}{ds:List D}{o:Own}{gs:GenState}:Will g ds o gs↔ ∀R:Wk,Ready g R→R.ow=o.ow→R.gi=o.pH.map (·.1)→rA g o R.s R.H→Same o.F R.F→Go g gs R (Zxf g R ds):=by
 cases ds<;>exact Iff.rfl
section
variable{g:GP}{R:Wk}{ds:List D}{c:Code}{fs:List Frame}{s:Shared}
theorem Inv.gens{X:Cx}{pins:List (Addr×Obj)}{σ:L2.St}{H:Hp}{s:Shared}{G:Array GenState}(I:Inv X pins σ H s)(h:AllBare G):Inv X pins σ H {s with gens:=G}:=
 ⟨I.ok,I.os,h,I.base,I.loc,I.cell,I.free,I.freeC,I.pin,I.hok,I.len⟩
structure Le(fe we:Zq):Prop where
 len:fe.length=we.length
 im: ∀i d,nth fe i=some d→nth we i=some d
end
end Gn
namespace Gn
open PySem PySem.Spec PyProof.Rows L2 Bk GenW
open Sem (wp)
section
variable{g:GP}{R:Wk}{ds:List D}{c:Code}{fs:List Frame}{s:Shared}
theorem fW: ∀(e:Zq) (W:List Nat),(Jk e W).length=e.length
 |_,[]=>rfl
 |e,v::vs=>by
  show(Jh (Jk e vs) v none).length=_
  rw[show∀(e:Zq) (i:Nat) (x:Option D),(Jh e i x).length=e.length from fun e i x=>by
   induction e generalizing i with
   |nil=>rfl
   |cons y e ih=>cases i<;>simp [Jh,ih]]
  exact fW e vs
theorem Le.wipe{fe we:Zq}(h:Le fe we): ∀W:List Nat,Le (Jk fe W) we
 |[]=>h
 |v::vs=>by
  have ih:=Le.wipe h vs
  refine⟨by rw[fW];exact h.len,fun i d e=>ih.im i d ?_⟩
  have e':nth (Jh (Jk fe vs) v none) i=some d:=e
  rw[Qs]at e'
  split at e'
  ·cases e'
  ·exact e'
end
end Gn
namespace Gn
open PySem PySem.Spec PyProof.Rows L2 Bk GenW
open Sem (wp)
section
variable{g:GP}{A:Around}{E:Value→Shared→Prop}{s:Shared}{a:Addr}{gi:Nat}{gs:GenState}{R:Wk}
theorem ZnK{α:Type}{l:List Value}{k:GenResult→Sem α}{Q:α→Shared→Prop}{Φ:End→Shared→Prop}(hgs:s.gens[gi]? =some gs)(hA:R.A=A)(hs:R.s=s.setGen gi .running)(hgo:Go g gs R Φ)
  (hQ: ∀e s1,e.quiet=true→Φ e s1→wpAny g.M A (k e.result) Q E (s1.setGen gi e.genState)):wpAny g.M A (.resume gi (.send .none) l k) Q E s:=by
 intro Γ p hΓ
 rw[Sem.wp_resume]
 subst hA
 cases gs with
 |fresh c=>
  obtain⟨e1,s1,hr,hq,hΦ⟩:=hgo (Γ.wake c p) p rfl (hΓ.wake c p)
  rw[hs]at hr
  exact⟨_,_,by unfold Wakes;rw[hgs];exact⟨e1,s1,hr,hq,rfl,rfl⟩,hQ e1 s1 hq hΦ Γ p hΓ⟩
 |suspended k₀ l₀ c₀ p₀ fs₀ cl=>
  obtain⟨e1,s1,hr,hq,hΦ⟩:=hgo (Γ.wake c₀ p) p₀ rfl (hΓ.wake c₀ p)
  rw[hs]at hr
  exact⟨_,_,by unfold Wakes;rw[hgs];exact⟨e1,s1,hr,hq,rfl,rfl⟩,hQ e1 s1 hq hΦ Γ p hΓ⟩
 |running=>exact hgo.elim
 |finished=>exact hgo.elim
theorem ZpL{Q:Option Value→Shared→Prop}{Φ:End→Shared→Prop}(hh:A.handled=none)(hl:s.heap.NoLimit)(hroom:A.depth<recursionLimit)(hg:s.heap.IsGen a gi)(hgs:s.gens[gi]? =some gs)(hA:R.A=A.in1)(hs:R.s=s.setGen gi .running)(hgo:Go g gs R Φ)
  (hQ: ∀e s1,e.quiet=true→Φ e s1→(∃u,e.result= .yielded u∧Q (some u) (s1.setGen gi e.genState))∨((e= .ret (.ok (.ret .none))∨e= .ret (.ok .next))∧ ∀h',(∀b o,s1.heap.get? b=some o→h'.get? b=some o)→Q none {s1.setGen gi .finished with heap:=h'})):
  wpAny g.M A (pyNext (.ref a)) Q E s:=by
 unfold pyNext
 refine wpAny_bind (wpAny_attempt (wpAny_callSpecial?_slot (name:=Str.ofString "__next__") hg.typeIs slot_gen_next
  (wpAny_call_entry slot_gen_next hg.typeIs entry_gen_next ?_ (args_gen_next _))))
 show wpAny _ A.in1 (Builtin.Generator.genWake (.ref a) (.send .none)) _ _ s
 unfold Builtin.Generator.genWake
 refine wpAny_bind (wpAny_holding (wpAny_genNumber hg (wpAny_bind (wpAny_genState hgs ?_))))
 cases gs with
 |running=>exact hgo.elim
 |finished=>exact hgo.elim
 |_=>
  refine wpAny_bind (wpAny_roomToWake hl hroom ?_)
  show wpAny _ A.in1 (.resume gi (.send .none) [] _) _ _ s
  refine ZnK hgs hA hs hgo fun e s₁ hq hΦ=> ?_
  rcases hQ e s₁ hq hΦ with⟨u,hu,hq2⟩|⟨hr,hp⟩
  ·rw[hu]
   exact wpAny_pure ⟨u,rfl,wpAny_pure hq2⟩
  ·have hres:e.result= .returned .none:=by rcases hr with hr|hr<;>rw[hr]<;>rfl
   have hst:e.genState= .finished:=by rcases hr with hr|hr<;>rw[hr]<;>rfl
   rw[hres,hst]
   show wpAny _ A.in1 (newExc (.type "StopIteration") []>>=_) _ _ _
   refine wpAny_bind ?_
   simp only[newExc,newTuple]
   refine wpAny_bind (wpAny_newObj_type ?_ (by size_fits))
   refine wpAny_bind (m:=firstArgMember _ _) (wpAny_of_eq (a:=Value.none) (by first|rfl|(simp only[firstArgMember];rfl)) ?_)
   refine wpAny_newObj_type ?_ (by size_fits)
   simp only[raiseNew]
   refine wpAny_bind (wpAny_bind (wpAny_handled ?_))
   first|rw[show A.in1.handled=none from hh]|rw[hh]
   refine wpAny_throw ?_
   refine wpAny_bind (wpAny_isInstance (T:="StopIteration") (b:=true) ⟨_,Heap.get?_push_size _ rfl,rfl⟩ isSubtype_stop ?_)
   exact wpAny_pure (hp _ fun b o hb=>Heap.get?_push_of_some _ (Heap.get?_push_of_some _ hb))
structure yH(g:GP)(a:Addr)(gi:Nat)(go:Obj)(ds:List D)(o:Own)(gs:GenState)(s:Shared)(H F:Hp):Prop where
 will:Will g ds o gs
 gst:s.gens[gi]? =some gs
 bare:GenState.bare gs=true
 obj:s.heap.get? a=some go∧H a=none
 isg: ∀h:Heap,h.get? a=some go→h.IsGen a gi
 goc:yG go
 la:g.L<a
 ao: ∀p∈o.ow,p.1≠a
 at_:rA g o s H
 st:ZlU g o
 sm:Same o.F F
 gig: ∀q∈o.pH,q.1≠gi
theorem Zda{o:Own}{H:Hp}{x:GenState}(h:rA g o s H)(hn: ∀q∈o.pH,q.1≠gi):rA g o (s.setGen gi x) H:=⟨h.lo,h.hL,h.own,fun q hq=>by
 show(s.gens.setIfInBounds gi x)[q.1]? =_
 rw[Array.getElem?_setIfInBounds_ne (Ne.symm (hn q hq))]
 exact h.pH q hq⟩
theorem ZnL{P:Program}{w:World}{K:PySem.W.Frag}{mg:Str→Option Value}{base:Heap}{outer:List Env}{H:Hp}{x:GenState}(h:Env0 P w K mg base A outer s H)(hx:x.bare=true):Env0 P w K mg base A outer (s.setGen gi x) H:=⟨h.frames,h.mod,h.bs,h.bsz,h.funs,h.frf,h.hok,allBare_setGen h.bare hx⟩
theorem Zfo{e:End}(h:e.quiet=true):e.genState.bare=true:=End.bare_of_quiet h
def Ze8(A:Around)(s:Shared)(gi:Nat)(H F:Hp)(S:Bk.S)(o:Own):Wk:=⟨A,s.setGen gi .running,H,F,S,o.ow,o.pH.map (·.1)⟩
theorem yH.ready{go:Obj}{ds:List D}{o:Own}{H F:Hp}{S:Bk.S}(w:yH g a gi go ds o gs s H F)(hr:Room (g.k+2) A)(hgd:A.guards=some [])(e0:Env0 g.P g.w g.K g.mg g.base A g.outer s H)(hh:Hold g.K g.T F S H):Ready g (Ze8 A.in1 s gi H F S o):=
 ⟨hr.in1,hgd,ZnL e0.in1 rfl,hh,w.at_.hL,Nat.le_of_lt (Heap.lt_size w.at_.lo),w.at_.own⟩
theorem yH.Zxg{go:Obj}{ds:List D}{o:Own}{H F:Hp}{S:Bk.S}(w:yH g a gi go ds o gs s H F):(a,go)∈(Ze8 A.in1 s gi H F S o).pn g.L:=Wk.Zsd.mpr ⟨w.obj.1,w.la,w.obj.2,w.goc,w.ao⟩
def wkP(A:Around)(s:Shared)(gi:Nat)(H F:Hp)(S:Bk.S)(o:Own):Wk:=⟨A,s.setGen gi .running,H,F,S,o.ow,gi::o.pH.map (·.1)⟩
theorem Zfp{o:Own}{H F H' F':Hp}{S:Bk.S}{s1:Shared}{x:GenState}(hx:x.bare=true)(st:Step g (Ze8 A s gi H F S o) s1 H' F'):Step g (wkP A s gi H F S o) (s1.setGen gi x) H' F':=
 ⟨st.os,allBare_setGen st.bare hx,st.un,st.hok,st.hold,st.ext,fun i y e1 h1 n=>by
   have n':i≠gi∧i∉o.pH.map (·.1):=⟨fun z=>n (by rw[z];exact List.mem_cons_self),fun z=>n (List.mem_cons_of_mem _ z)⟩
   have e3:=st.hk i y e1 h1 n'.2
   show(s1.gens.setIfInBounds gi x)[i]? =_
   rw[Array.getElem?_setIfInBounds_ne (Ne.symm n'.1)]
   exact e3,by
   show _≤(s1.gens.setIfInBounds gi x).size
   rw[Array.size_setIfInBounds]
   exact st.gsz⟩
theorem ZkW{R:Wk}{H' F':Hp}{s1:Shared}{h':Heap}(st:Step g R s1 H' F')(hk: ∀b o,s1.heap.get? b=some o→h'.get? b=some o):Step g R {s1 with heap:=h'} H' F':=
 ⟨st.os,st.bare,⟨fun b ob e1 n hb hc=>hk _ _ (st.un.keep b ob e1 n hb hc),fun b ob e1 n hb hc=>by
   obtain⟨sl,e2⟩:=st.un.slot b ob e1 n hb hc
   exact⟨sl,hk _ _ e2⟩,st.un.free,fun b ob e1 hc=>by
   obtain⟨ob',e2⟩:=st.un.there b ob e1 hc
   exact⟨ob',hk _ _ e2⟩,st.un.tups,st.un.frzs,st.un.tbls⟩,st.hok.kept hk,st.hold,st.ext,st.hk,st.gsz⟩
theorem yH.next{go:Obj}{ds:List D}{o:Own}{H F:Hp}{S:Bk.S}{Q:Option Value→Shared→Prop}(ok:g.Ok)(w:yH g a gi go ds o gs s H F)(hr:Room (g.k+2) A)(hgd:A.guards=some [])(e0:Env0 g.P g.w g.K g.mg g.base A g.outer s H)(hh:Hold g.K g.T F S H)
  (hY: ∀d r,ds=d::r→ ∀u v s' H' o' gs',Step g (wkP A.in1 s gi H F S o) s' H' o'.F→RelV v u→Rep g.K g.T o'.F d v→held gs'=true→yH g a gi go r o' gs' s' H' o'.F→Zhi g (wkP A.in1 s gi H F S o) o'→Q (some u) s')
  (hN:ds=[]→ ∀s' H' F',Step g (wkP A.in1 s gi H F S o) s' H' F'→Q none s'):wpAny g.M A (pyNext (.ref a)) Q E s:=by
 have rd:=w.ready hr hgd e0 hh
 have lim:s.heap.NoLimit:=e0.mod.nolimit.keeps fun b ob e=>(e0.bs b ob e).1
 have hgo:=ZnJ.mp w.will (Ze8 A.in1 s gi H F S o) rd rfl rfl (Zda w.at_ w.gig) w.sm
 have hgl:gi<s.gens.size:=(Array.getElem?_eq_some_iff.mp w.gst).1
 refine ZpL hr.hd lim hr.depth (w.isg _ w.obj.1) w.gst rfl rfl hgo fun e s1 hq hΦ=> ?_
 cases ds with
 |nil=>
  obtain⟨hr2,H',F',st⟩:=hΦ
  exact .inr ⟨hr2,fun h' hk=>hN rfl _ H' F' (ZkW (Zfp rfl st) hk)⟩
 |cons d r=>
  obtain⟨H',u,v,o',st,hu,rv,rp,hst,hat,hnew,hw⟩:=hΦ
  refine .inl ⟨u,hu, ?_⟩
  have hsz:s.gens.size≤s1.gens.size:=by
   have:=st.gsz
   rwa[show(Ze8 A.in1 s gi H F S o).s.gens.size=s.gens.size from setGen_size _ _ _]at this
  have ZtO: ∀q∈o'.pH,q.1≠gi:=fun q hq=>by
   rcases hnew.pH q hq with z|z
   ·obtain⟨q0,h0,e0⟩:=List.mem_map.mp z
    rw[←e0];exact w.gig q0 h0
   ·rw[show(Ze8 A.in1 s gi H F S o).s.gens.size=s.gens.size from setGen_size _ _ _]at z
    omega
  have hheld:held e.genState=true:=by
   cases e with
   |ret r=>cases r<;>cases hu
   |susp v0 g0 l0 k0 c0 p0 fs0=>rfl
  have hap:=w.Zxg (A:=A.in1) (S:=S)
  have hac:a∉(Ze8 A.in1 s gi H F S o).chg g.L:=fun z=>(Wk.ZpK.mp z).2.2 go hap
  have Zxh:a∉frs g.outer:=fun z=>absurd (Nat.lt_trans w.la (ok.fsL a z)) (Nat.lt_irrefl _)
  refine hY d r rfl u v _ H' o' _ (Zfp (Zfo hq) st) rv rp hheld ⟨hw,setGen_at (Nat.lt_of_lt_of_le hgl hsz),Zfo hq,⟨st.un.keep a go w.obj.1 w.obj.2 Zxh hac,st.un.free a go w.obj.1 w.obj.2 hac⟩,w.isg,w.goc,w.la,fun p hp=>Ne.symm (hnew.dis p hp (a,go) hap),Zda hat ZtO,hst,Same.refl _,ZtO⟩ ⟨hnew.dis,fun q hq=> ?_⟩
  rcases hnew.pH q hq with z|z
  ·exact .inl (List.mem_cons_of_mem _ z)
  ·exact .inr z
end
end Gn
namespace Gn
open PySem PySem.Spec PyProof.Rows L2 Bk GenW
open Sem (wp)
structure Made(P:Program)(w:World)(K:PySem.W.Frag)(mg:Str→Option Value)(base:Heap)(T:Tb)(k:Nat)(outer:List Env)(s:Shared)(H F:Hp)(ys:List D)(u:Value)(s':Shared)(g:GP)(a gi:Nat)(go:Obj)(o:Own)(gs:GenState):Prop where
 ok:g.Ok
 par:g.P=P∧g.w=w∧g.K=K∧g.mg=mg∧g.base=base∧g.T=T∧g.k=k∧g.outer=outer
 L:g.L=s.heap.objs.size
 u:u= .ref a
 ow:o.ow=[]∧o.pH=[]
 wlk:yH g a gi go ys o gs s' H F
 fresh:held gs=false
 gi:gi=s.gens.size
 os:s'.os=s.os
 kp: ∀b ob,s.heap.get? b=some ob→s'.heap.get? b=some ob
 hk: ∀(i:Nat) (x:GenState),s.gens[i]? =some x→s'.gens[i]? =some x
 gsz:s'.gens.size=s.gens.size+1
 bare:AllBare s'.gens
structure GGn(P:Program)(w:World)(K:PySem.W.Frag)(mg:Str→Option Value)(base:Heap)(T:Tb)(k:Nat)(f:Addr)(fd:FuncData)(ps:List Str)(phi:List D→Rs (List D)):Prop where
 len: ∀ds ys,phi ds= .ok ys→ds.length=ps.length
 run: ∀(A:Around) (outer:List Env) (s:Shared) (H:Hp) (args:Args) (us:List Value) (vs:List V) (ds ys:List D) (F:Hp) (S:Bk.S),Room (k+2) A→Env0 P w K mg base A outer s H→BindsTo s fd args (ps.zip us)→Vals vs us→Qw K T F ds vs→Hold K T F S H→phi ds= .ok ys→
  codeAny (model P w) A (.call (.ref f) args) (fun r s'=> ∃u g a gi go o gs,r= .ok (.ret u)∧Made P w K mg base T k outer s H F ys u s' g a gi go o gs) s
end Gn
namespace Gn
open PySem PySem.Spec PyProof.Rows L2 Bk GenW
open Sem (wp)
structure Par(X:Cx)(T:Tb)(g:GP):Prop where
 ok:g.Ok
 par:g.P=X.prog∧g.w=X.w∧g.K=X.K∧g.mg=X.mg∧g.base=X.base∧g.T=T∧g.outer=X.stack
 sz:X.s_0.heap.objs.size≤g.L
 loc:X.env.locals<g.L
 cell: ∀x c,X.env.cells.lookup x=some c→c<g.L
structure Sep(X:Cx)(pins:List (Addr×Obj))(g:GP)(o:Own):Prop where
 L: ∀p∈X.pn++pins,p.1≠g.L
 ow: ∀p∈X.pn++pins,∀q∈o.ow,p.1≠q.1
section
variable{X:Cx}{T:Tb}{g:GP}{pins:List (Addr×Obj)}{σ:L2.St}{A:Around}{s s':Shared}{H F H' F':Hp}{S:Bk.S}{a:Addr}{gi:Nat}{go:Obj}{ds:List D}{o o':Own}{gs:GenState}
def ZqS(g:GP)(a:Addr)(go:Obj)(o:Own):List (Addr×Obj):=(a,go)::(g.L,o.lo)::o.ow
theorem Par.nofs(p:Par X T g)(I:Inv X pins σ H s){b:Addr}(h:g.L≤b):b∉X.fs:=fun hb=>by
 obtain⟨_,_,_,_,_,_,e7⟩:=p.par
 have hm:b∈frs g.outer:=by
  rw[e7]
  rcases I.ok.stk with e|⟨e,hf⟩
  ·rw[e];exact hb
  ·rw[e]
   unfold frs
   rw[List.filterMap_cons,hf]
   exact List.mem_cons_of_mem _ hb
 exact absurd (Nat.lt_of_lt_of_le (p.ok.fsL b hm) h) (Nat.lt_irrefl _)
theorem yH.back(I:Inv X (pins++ZqS g a go o) σ H' s')(w:yH g a gi go ds o gs s H F)(h1:s'.gens[gi]? =some gs)(h2: ∀q∈o.pH,s'.gens[q.1]? =some q.2)(sm:Same F F'):yH g a gi go ds o gs s' H' F':=by
 have pin: ∀q∈ZqS g a go o,s'.heap.get? q.1=some q.2∧H' q.1=none:=fun q hq=>by
  have:=I.pin q (List.mem_append_right _ (List.mem_append_right _ hq))
  exact⟨this.1,this.2.1⟩
 have pa:=pin _ (List.mem_cons_self)
 have pl:=pin _ (List.mem_cons_of_mem _ List.mem_cons_self)
 exact⟨w.will,h1,w.bare,pa,w.isg,w.goc,w.la,w.ao,⟨pl.1,pl.2,fun q hq=>pin q (List.mem_cons_of_mem _ (List.mem_cons_of_mem _ hq)),h2⟩,w.st,w.sm.trans sm,w.gig⟩
theorem yH.un{G:Array GenState}(w:yH g a gi go ds o gs s H F):yH g a gi go ds o gs s H F:=w
theorem Made.at_{P:Program}{w:World}{K:PySem.W.Frag}{mg:Str→Option Value}{base:Heap}{k:Nat}{outer:List Env}{ys:List D}{u:Value}(m:Made P w K mg base T k outer s H F ys u s' g a gi go o gs)(I:Inv X pins σ H s)(hP:X.prog=P)(hw:X.w=w)(hK:X.K=K)(hmg:X.mg=mg)(hb:X.base=base)(ho:X.stack=outer):Par X T g∧Inv X pins σ H s'∧Sep X pins g o∧g.k=k:=by
 obtain⟨e1,e2,e3,e4,e5,e6,e7,e8⟩:=m.par
 have lt:X.env.locals<g.L:=by rw[m.L];exact I.lt
 refine⟨⟨m.ok,⟨by rw[e1,hP],by rw[e2,hw],by rw[e3,hK],by rw[e4,hmg],by rw[e5,hb],e6,by rw[e8,ho]⟩,by rw[m.L];exact I.sz,lt,fun x c e=> ?_⟩, ?_,⟨fun p hp=> ?_,fun p hp q hq=> ?_⟩,e7⟩
 ·obtain⟨v,ob,h1,_⟩:=I.cell x c e
  rw[m.L];exact Heap.lt_size h1
 ·refine I.call' (ch:=[]) m.os (Un.kept m.kp) (I.hok.kept m.kp) m.bare fun b z=>absurd z (by simp)
 ·rw[m.L];exact Nat.ne_of_lt (Heap.lt_size (I.pin p hp).1)
 ·rw[m.ow.1]at hq;cases hq
end
end Gn
namespace Gn
open PySem PySem.Spec PyProof.Rows L2 Bk GenW
open Sem (wp)
section
variable{X:Cx}{T:Tb}{g:GP}{pins:List (Addr×Obj)}{σ:L2.St}{s s':Shared}{H F H' F':Hp}{S:Bk.S}{a:Addr}{gi:Nat}{go:Obj}{ds:List D}{o:Own}{gs:GenState}
theorem yH.laid{x:HO}{p:Addr}(w:yH g a gi go ds o gs s H F)(k: ∀b o,s.heap.get? b=some o→s'.heap.get? b=some o)(hg:s'.gens=s.gens)(hp:s.heap.objs.size≤p):yH g a gi go ds o gs s' (upd H p x) F:=by
 have ne: ∀b ob,s.heap.get? b=some ob→H b=none→s'.heap.get? b=some ob∧upd H p x b=none:=fun b ob e n=>⟨k b ob e,by rw[upd_ne (Nat.ne_of_lt (Nat.lt_of_lt_of_le (Heap.lt_size e) hp))];exact n⟩
 have l:=ne _ _ w.at_.lo w.at_.hL
 exact⟨w.will,by rw[hg];exact w.gst,w.bare,ne _ _ w.obj.1 w.obj.2,w.isg,w.goc,w.la,w.ao,⟨l.1,l.2,fun q hq=>ne _ _ (w.at_.own q hq).1 (w.at_.own q hq).2,fun q hq=>by rw[hg];exact w.at_.pH q hq⟩,w.st,w.sm,w.gig⟩
end
end Gn
namespace Gn
open PySem PySem.Spec PyProof.Rows L2 Bk GenW
@[simp] def ZAd (phi:List D→Rs (List D)) (i:FA):FA:=fun e=>(i e).bind fun ds=>match phi ds with
  | .ok ys=>if ys.length≤sizeLine then .ok ys else .no
  |_=> .no
section
variable{P:Program}{w:World}{K:PySem.W.Frag}{mg:Str→Option Value}{base:Heap}{T:Tb}{k:Nat}{f:Addr}{fd:FuncData}{ps:List Str}
theorem GGn.mono{j:Nat}{phi:List D→Rs (List D)}(G:GGn P w K mg base T k f fd ps phi)(h:j=k):GGn P w K mg base T j f fd ps phi:=h▸G
end
end Gn
namespace Gn
open PySem PySem.Spec PyProof.Rows L2 Bk GenW
open Sem (wp)
@[simp] def Zyi (i:FA):FX:=fun e=>(i e).bind fun ds=> .ok (.lst ds)
end Gn
namespace Bk
open PySem PySem.Spec PyProof.Rows L2
inductive Dt(α:Type) where
 |ret (a:α)
 |no
 |any (p:Addr) (c:Nat) (q:Prop) (P:D→Prop) (f:D→Dt α)
section
variable{α β:Type}
def Dt.bind:Dt α→(α→Dt β)→Dt β
 | .ret a,f=>f a
 | .no,_=> .no
 | .any p c q P g,f=> .any p c q P fun d=>(g d).bind f
def Dt.run(p:Addr):Dt α→Nat→(α→Nat→Prop)→Prop
 | .ret a,n,R=>R a n
 | .no,_,_=>False
 | .any p' c q P g,n,R=>p'=p∧q∧c≤n∧ ∀d,P d→(g d).run p (n-c) R
def Dt.of:Rs α→Dt α
 | .ok a=> .ret a
 |_=> .no
def Dt.opt:Option α→Dt α
 |some a=> .ret a
 |none=> .no
section
variable{a:α}{x:Ex}{f:α→Dt β}{p p':Addr}{n c:Nat}{R:α→Nat→Prop}{q:Prop}{P:D→Prop}{g:D→Dt α}
@[simp] theorem Eo:(Dt.ret a).bind f=f a:=rfl
@[simp] theorem Zs3:(Dt.no:Dt α).bind f= .no:=rfl
@[simp] theorem Zru:(Dt.any p c q P g).bind f= .any p c q P fun d=>(g d).bind f:=rfl
@[simp] theorem Zs4:(Dt.ret a).run p n R=R a n:=rfl
@[simp] theorem ZtP:(Dt.no:Dt α).run p n R=False:=rfl
@[simp] theorem ZvF:Dt.of (.ok a)= .ret a:=rfl
@[simp] theorem ZvG:Dt.of (.ex x:Rs α)= .no:=rfl
@[simp] theorem ZvH:Dt.of (.no:Rs α)= .no:=rfl
@[simp] theorem Ep:Dt.opt (some a)= .ret a:=rfl
@[simp] theorem Zrv:Dt.opt (none:Option α)= .no:=rfl
end
section
variable{p:Prop}[Decidable p]
@[simp] theorem Zrw {a b:Dt α} {f:α→Dt β}:(if p then a else b).bind f=if p then a.bind f else b.bind f:=by split<;>rfl
@[simp] theorem ZtQ {a b:Rs α}:Dt.of (if p then a else b)=if p then Dt.of a else Dt.of b:=by split<;>rfl
@[simp] theorem Zs5 {a b:Option α}:Dt.opt (if p then a else b)=if p then Dt.opt a else Dt.opt b:=by split<;>rfl
end
theorem JW{γ:Type}{t:Dt α}{f:α→Dt β}{g:β→Dt γ}:(t.bind f).bind g=t.bind fun a=>(f a).bind g:=by
 induction t with
 |ret a=>rfl
 |no=>rfl
 |any p c q P h ih=>exact congrArg _ (funext fun d=>ih d)
theorem QH{p:Addr}{t:Dt α}{f:α→Dt β}{n:Nat}{R:β→Nat→Prop}:(t.bind f).run p n R↔t.run p n (fun a m=>(f a).run p m R):=by
 induction t generalizing n with
 |ret a=>exact Iff.rfl
 |no=>exact Iff.rfl
 |any p c q P h ih=>exact and_congr_right fun _=>and_congr_right fun _=>and_congr_right fun _=>forall_congr' fun d=>imp_congr_right fun _=>ih d
theorem Qi{p:Addr}{t:Dt α}{n:Nat}{R R':α→Nat→Prop}(h:t.run p n R)(k: ∀a m,R a m→R' a m):t.run p n R':=by
 induction t generalizing n with
 |ret a=>exact k a n h
 |no=>exact h
 |any p c q P g ih=>exact⟨h.1,h.2.1,h.2.2.1,fun d hd=>ih d (h.2.2.2 d hd)⟩
theorem R6{p:Addr}{r:Rs α}{n:Nat}{R:α→Nat→Prop}(h:(Dt.of r).run p n R): ∃a,r= .ok a∧R a n:=by
 cases r with
 |ok a=>exact⟨a,rfl,h⟩
 |ex x=>exact h.elim
 |no=>exact h.elim
theorem ZaE{p:Addr}{r:Option α}{n:Nat}{R:α→Nat→Prop}(h:(Dt.opt r).run p n R): ∃a,r=some a∧R a n:=by
 cases r with
 |some a=>exact⟨a,rfl,h⟩
 |none=>exact h.elim
end
abbrev MX:=Zq→Dt D
abbrev MT:=Zq→Dt Bool
abbrev MA:=Zq→Dt (List D)
abbrev MS:=Zq→Dt Out
abbrev MF:=List D→Dt D
def mP{α:Type}(f:Zq→Rs α)(e:Zq):Dt α:= .of (f e)
def mS(f:FS)(e:Zq):Dt Out:= .ret (f e)
abbrev sM(mu:Addr→Option MO)(p:Addr)(n:Nat):S:=⟨mu,some (p,n)⟩
def Dw{α:Type}(M:List Nat)(mu:Addr→Option MO)(p:Addr)(fe we:Zq)(ws:S)(t:Dt α)(n:Nat)(R:α→S→Prop):Prop:=
 t.run p n fun a m=> ∀ws':S,ws'.mu=ws.mu→Rl M (sM mu p m) fe we ws'→R a ws'
def BX(M:List Nat)(f:MX)(w:Exp):Prop:= ∀mu p n fe we ws,Rl M (sM mu p n) fe we ws→ ∀R E,Dw M mu p fe we ws (f fe) n R→w we ws R E
def BT(M:List Nat)(f:MT)(w:Xp):Prop:= ∀mu p n fe we ws,Rl M (sM mu p n) fe we ws→ ∀R E,Dw M mu p fe we ws (f fe) n R→w we ws R E
def BA(M:List Nat)(k:Nat)(f:MA)(w:Arg):Prop:= ∀mu p n fe we ws,Rl M (sM mu p n) fe we ws→ ∀R E,Dw M mu p fe we ws (f fe) n (fun ds s=>ds.length=k→R ds s)→w we ws R E
def BW(M:List Nat)(f:MA)(w:Arg):Prop:= ∀mu p n fe we ws,Rl M (sM mu p n) fe we ws→ ∀R E,Dw M mu p fe we ws (f fe) n (fun ds s=>ds.length≤sizeLine→R ds s)→w we ws R E
def BV(M:List Nat)(f:MX)(w:Exp):Prop:= ∀mu p n fe we ws,Rl M (sM mu p n) fe we ws→ ∀R E,Dw M mu p fe we ws (f fe) n (fun d s=> ∀d',bM s d' d→R d' s)→w we ws R E
def BM(M:List Nat)(f:MX)(w:Exp):Prop:= ∀mu p n fe we ws,Rl M (sM mu p n) fe we ws→ ∀R E,Dw M mu p fe we ws (f fe) n (fun d s=> ∀a o,Zbg d=some o→s.mu a=none→R (.rf (.ref a)) (s.put a o))→w we ws R E
def BS(M:List Nat)(f:MS)(w:Yh):Prop:= ∀mu p n fe we ws,Rl M (sM mu p n) fe we ws→ ∀DD,(f fe).run p n (fun o m=>o.run M (sM mu p m) DD)→w DD we ws
theorem ZpM{mu:Addr→Option MO}{p:Addr}{n:Nat}{ws:S}(h:Sub (sM mu p n) ws):Left p n ws:=h.g p n rfl
theorem Rl.draw{M:List Nat}{mu:Addr→Option MO}{p:Addr}{n m:Nat}{fe we:Zq}{ws ws':S}(h:Rl M (sM mu p n) fe we ws)(e:ws'.mu=ws.mu)(hl:Left p m ws'):Rl M (sM mu p m) fe we ws':=by
 refine⟨h.len,⟨fun q o z=>by rw[e];exact h.sub.mu q o z,fun q k z=> ?_⟩,h.im,fun i d hi hv hd=> ?_,fun i d hi hd=> ?_,h.inj⟩
 ·cases z
  exact hl
 ·obtain⟨d',h1,h2⟩:=h.vr i d hi hv hd
  exact⟨d',h1,h2⟩
 ·obtain⟨q,o,h1,h2,h3,h4⟩:=h.mu i d hi hd
  exact⟨q,o,h1,h2,h3,by rw[e];exact h4⟩
theorem ZpN{s s':S}{d' d:D}(e:s'.mu=s.mu)(h:bM s d' d):bM s' d' d:=by
 rcases h with h|⟨p,o,h1,h2,h3⟩
 ·exact .inl h
 ·exact .inr ⟨p,o,h1,h2,by rw[e];exact h3⟩
section
variable{M:List Nat}{a b c:MX}{wa wb wc:Exp}{t u:MT}{wt wu:Xp}{r:MA}{wr:Arg}{k:Nat}{f g:MS}{w v:Yh}
theorem wB{a:FX}(h:AX M a wa):BX M (mP a) wa:=fun mu p n fe we ws hr R E q=>by
 obtain⟨d,e,q⟩:=R6 q
 exact h _ fe we ws hr R E (by rw[e];exact q ws rfl hr)
theorem ZqT{t:FT}(h:AT M t wt):BT M (mP t) wt:=fun mu p n fe we ws hr R E q=>by
 obtain⟨d,e,q⟩:=R6 q
 exact h _ fe we ws hr R E (by rw[e];exact q ws rfl hr)
theorem MP{r:FA}(h:AA M k r wr):BA M k (mP r) wr:=fun mu p n fe we ws hr R E q=>by
 obtain⟨d,e,q⟩:=R6 q
 exact h _ fe we ws hr R E (by rw[e];exact fun hl=>q ws rfl hr hl)
theorem ZqU{r:FA}(h:AW M r wr):BW M (mP r) wr:=fun mu p n fe we ws hr R E q=>by
 obtain⟨d,e,q⟩:=R6 q
 exact h _ fe we ws hr R E (by rw[e];exact fun hl=>q ws rfl hr hl)
theorem Zeu{a:FX}(h:AV M a wa):BV M (mP a) wa:=fun mu p n fe we ws hr R E q=>by
 obtain⟨d,e,q⟩:=R6 q
 exact h _ fe we ws hr R E (by rw[e];exact fun d' hd=>q ws rfl hr d' hd)
theorem Ci{f:FS}(h:AS M f w):BS M (mS f) w:=fun mu p n fe we ws hr DD q=>h _ fe we ws hr DD q
theorem Zev(h:BX M a wa):BV M a wa:=fun mu p n fe we ws hr R E q=>h mu p n fe we ws hr R E (Qi q fun d m q ws' e hr'=>q ws' e hr' d (.inl rfl))
def Ey(g:F2)(a b:MX)(e:Zq):Dt D:=(a e).bind fun x=>(b e).bind fun y=>Dt.opt (g x y)
theorem Zew{g:F2}{w:G2}(ho:O2 g w)(ha:BX M a wa)(hb:BX M b wb):BX M (Ey g a b) (ZG w wa wb):=fun mu p n fe we ws h R E q=>by
 refine ha mu p n fe we ws h _ E (Qi (QH.mp q) fun x m q kh e1 h1=> ?_)
 refine hb mu p m fe we kh h1 _ E (Qi (QH.mp q) fun y m q aO e2 h2=> ?_)
 obtain⟨d,e,q⟩:=ZaE q
 exact ho x y d aO R e (q aO (e2.trans e1) h2)
theorem yI{g:F2}{w:G2}(ho:OV g w)(ha:BV M a wa)(hb:BV M b wb):BX M (Ey g a b) (ZG w wa wb):=fun mu p n fe we ws h R E q=>by
 refine ha mu p n fe we ws h _ E (Qi (QH.mp q) fun x m q kh e1 h1 x' hx=> ?_)
 refine hb mu p m fe we kh h1 _ E (Qi (QH.mp q) fun y m q aO e2 h2 y' hy=> ?_)
 obtain⟨d,e,q⟩:=ZaE q
 exact ho x' y' x y d aO R (ZpN e2 hx) hy e (q aO (e2.trans e1) h2)
def wC(a:MX)(r:MA)(e:Zq):Dt (List D):=(a e).bind fun d=>(r e).bind fun ds=> .ret (d::ds)
theorem ZjY(ha:BX M a wa)(hr:BA M k r wr):BA M (k+1) (wC a r) (Zd wa wr):=fun mu p n fe we ws h R E q=>by
 refine ha mu p n fe we ws h _ E (Qi (QH.mp q) fun x m q kh e1 h1=> ?_)
 exact hr mu p m fe we kh h1 _ E (Qi (QH.mp q) fun ds m q aO e2 h2 hl=>q aO (e2.trans e1) h2 (by rw[List.length_cons,hl]))
def Ze9(r:MA)(e:Zq):Dt D:=(r e).bind fun ds=> .ret (.lst ds)
theorem Zmz(hr:BA M k r wr)(hn:k≤10000:=by decide):BX M (Ze9 r) (VH wr):=fun mu p n fe we ws h R E q=>
 hr mu p n fe we ws h _ E (Qi (QH.mp q) fun ds m q kh e1 h1 hl=>⟨sz _ (by omega),q kh e1 h1⟩)
def pM(mf:MF):Fn:=fun ds s R E=> ∃p n,Left p n s∧(mf ds).run p n fun d m=> ∀s':S,s'.mu=s.mu→Left p m s'→R d s'
def PM(phi:Fn)(mf:MF):Prop:= ∀ds s R E,pM mf ds s R E→phi ds s R E
theorem ZuD{mf:MF}:PM (pM mf) mf:=fun _ _ _ _ h=>h
def QS(mf:MF)(r:MA)(e:Zq):Dt D:=(r e).bind mf
theorem Gz{phi:Fn}{mf:MF}(hp:PM phi mf)(hr:BA M k r wr):BX M (QS mf r) (dCall k phi wr):=fun mu p n fe we ws h R E q=>
 hr mu p n fe we ws h _ E (Qi (QH.mp q) fun ds m q kh e1 h1 hl=>⟨hl,hp _ _ _ _ ⟨p,m,ZpM h1.sub,Qi q fun d m q s' e' hl'=>q s' (e'.trans e1) (h1.draw e' hl')⟩⟩)
def mDr(c:Nat)(pre:List D→Prop)(Pd:List D→D→Prop):MF
 | .rf (.ref q)::as=> .any q c (pre as) (Pd as) .ret
 |_=> .no
theorem ZqV{c:Nat}{pre:List D→Prop}{Pd:List D→D→Prop}:PM (pDr c pre Pd) (mDr c pre Pd):=fun ds s R E ⟨p,n,hl,q⟩=>by
 unfold mDr at q
 split at q
 ·rename_i a as
  obtain⟨rfl,h1,h2,h3⟩:=q
  exact ZpJ (m:=n-c) (by rwa[Nat.add_sub_cancel' h2]) h1 fun d s' hd e hl'=>h3 d hd s' e hl'
 ·exact q.elim
def Zh6:MF
 |[.rf (.ref q), .int k]=> .any q 1 (0<k∧k<1073741824) (fun d=> ∃r:Int,d= .int r∧0≤r∧r<k) .ret
 |_=> .no
theorem ZpO:PM Qz Zh6:=fun ds s R E ⟨p,n,hl,q⟩=>by
 unfold Zh6 at q
 split at q
 ·obtain⟨rfl,h1,h2,h3⟩:=q
  obtain⟨j,hj,hg⟩:=hl
  obtain⟨mu,g⟩:=s
  cases hg
  exact Uj (by omega) h1.1 h1.2 fun r r0 r1=>h3 (.int r) ⟨r,rfl,r0,r1⟩ _ rfl ⟨j-1,by omega,rfl⟩
 ·exact q.elim
def Out.ZlV:Out→MS→Dt Out
 | .nx e,g=>g e
 | .rt d,_=> .ret (.rt d)
 | .bk e,_=> .ret (.bk e)
 | .ct e,_=> .ret (.ct e)
 | .ex x e,_=> .ret (.ex x e)
 | .no,_=> .no
def Out.ZuE(W:List Nat):Out→MS→Dt Out
 | .nx e,k=>k (Jk e W)
 | .ct e,k=>k (Jk e W)
 | .bk e,_=> .ret (.nx (Jk e W))
 | .rt d,_=> .ret (.rt d)
 | .ex x e,_=> .ret (.ex x e)
 | .no,_=> .no
def Je(f g:MS)(e:Zq):Dt Out:=(f e).bind fun o=>o.ZlV g
def xG(a:MX)(e:Zq):Dt Out:=(a e).bind fun d=> .ret (.rt d)
def Zdb(t:MT)(f g:MS)(e:Zq):Dt Out:=(t e).bind fun b=>if b=true then f e else g e
def M4(i:Nat)(a:MX)(e:Zq):Dt Out:=(a e).bind fun d=> .ret (.nx (Jh e i (some d)))
theorem VB(hf:BS M f w)(hg:BS M g v):BS M (Je f g) (ZV w v):=fun mu p n fe we ws h DD q=>by
 refine hf mu p n fe we ws h _ (Qi (QH.mp q) fun o m q=> ?_)
 cases o with
 |nx e'=>exact fun jB ws' h'=>hg mu p m e' jB ws' h' DD q
 |rt d=>exact q
 |bk e'=>exact q
 |ct e'=>exact q
 |ex x e'=>exact q
 |no=>exact q
theorem Zhj(ha:BX M a wa):BS M (xG a) (QJ wa):=fun mu p n fe we ws h DD q=>ha mu p n fe we ws h _ _ (Qi (QH.mp q) fun d m q kh e1 h1=>q kh h1.sub)
theorem ZqW(ht:BT M t wt)(hf:BS M f w)(hg:BS M g v):BS M (Zdb t f g) (Jv wt w v):=fun mu p n fe we ws h DD q=>by
 refine ht mu p n fe we ws h _ _ (Qi (QH.mp q) fun b m q kh e1 h1=> ?_)
 cases b
 ·exact hg mu p m fe we kh h1 DD q
 ·exact hf mu p m fe we kh h1 DD q
theorem yJ(i:Nat)(ha:BX M a wa)(hi:i∉M:=by decide):BS M (M4 i a) (Jo i wa):=fun mu p n fe we ws h DD q=>
 ha mu p n fe we ws h _ _ (Qi (QH.mp q) fun d m q kh e1 h1=>q _ kh (h1.ZoB hi))
def RJ(g:FG)(f:MS)(W:List Nat):List D→Zq→Dt Out
 |[],e=> .ret (.nx e)
 |d::ds,e=>match g d e with
  |none=> .no
  |some e1=>(f e1).bind fun o=>o.ZuE W (RJ g f W ds)
theorem tO{g:FG}{wg:DG}{W:List Nat}(hg:AG M g wg)(hf:BS M f w): ∀(ds:List D) (mu:Addr→Option MO) (p:Addr) (n:Nat) (fe we:Zq) (ws:S),Rl M (sM mu p n) fe we ws→ ∀DD:Ru,(RJ g f W ds fe).run p n (fun o m=>o.run M (sM mu p m) DD)→cG wg w DD ds we ws
 |[],mu,p,n,fe,we,ws,h,DD,q=>q we ws h
 |d::ds,mu,p,n,fe,we,ws,h,DD,q=>by
  unfold RJ at q
  unfold cG
  cases he:g d fe with
  |none=>rw[he]at q;exact q.elim
  |some e1=>
   rw[he]at q
   refine hg _ fe we ws h d e1 he _ fun yu r1=> ?_
   refine hf mu p n e1 yu ws r1 _ (Qi (QH.mp q) fun o m q=> ?_)
   cases o with
   |nx e2=>exact fun we2 aO r2=>tO hg hf ds mu p m _ we2 aO (r2.forgets W) DD q
   |ct e2=>exact fun we2 aO r2=>tO hg hf ds mu p m _ we2 aO (r2.forgets W) DD q
   |bk e2=>exact fun we2 aO r2=>q we2 aO (r2.forgets W)
   |rt d2=>exact q
   |ex x e2=>exact q
   |no=>exact q
def Zbq(i:MA)(g:FG)(f:MS)(W:List Nat)(e:Zq):Dt Out:=(i e).bind fun ds=>RJ g f W ds e
theorem ZmA{i:MA}{wi:Arg}{g:FG}{wg:DG}{W:List Nat}(hi:BW M i wi)(hg:AG M g wg)(hf:BS M f w):BS M (Zbq i g f W) (Xj wi wg w):=fun mu p n fe we ws h DD q=>
 hi mu p n fe we ws h _ _ (Qi (QH.mp q) fun ds m q kh e1 h1 _=>tO hg hf ds mu p m fe we kh h1 DD q)
end
def Zbr:List MX→Zq→Dt (List D)
 |[],_=> .ret []
 |a::r,e=>(a e).bind fun d=>(Zbr r e).bind fun ds=> .ret (d::ds)
def wD(is:List Nat)(fs:List MX)(e:Zq):Dt Out:=(Zbr fs e).bind fun ds=> .ret (.nx (RG e is ds))
inductive BCs(M:List Nat):List Nat→List MX→Arg→Prop
 |nil:BCs M [] [] Zo
 |val {i:Nat} {is:List Nat} {a:MX} {wa:Exp} {fs:List MX} {r:Arg}:i∉M→BX M a wa→BCs M is fs r→BCs M (i::is) (a::fs) (Zd wa r)
 |chg {i:Nat} {is:List Nat} {a:MX} {wa:Exp} {fs:List MX} {r:Arg}:i∈M→BM M a wa→BCs M is fs r→BCs M (i::is) (a::fs) (Zd wa r)
section
variable{M:List Nat}{mu:Addr→Option MO}{p:Addr}{fe we:Zq}
theorem Pd.draw{s0 s1 ws ws':S}(em: ∀q,s0.mu q=none→s1.mu q=none)(e:ws'.mu=ws.mu): ∀{is:List Nat} {ds ds':List D},Pd M s0 fe we ws is ds ds'→Pd M s1 fe we ws' is ds ds':=by
 intro is ds ds' r
 induction r with
 |nil=>exact .nil
 |val a _ ih=>exact .val a ih
 |chg a b c e' f g _ ih=>exact .chg a (em _ b) c (by rw[e];exact e') f g ih
theorem Zea: ∀{is:List Nat} {fs:List MX} {r:Arg},BCs M is fs r→ ∀(n:Nat) (ws:S),Rl M (sM mu p n) fe we ws→ ∀(R:List D→S→Prop) (E:XQ),
  (Zbr fs fe).run p n (fun ds m=> ∀ds' ws',Rl M (sM mu p m) fe we ws'→Pd M (sM mu p m) fe we ws' is ds ds'→ds'.length=is.length→(∀a o,ws.mu a=some o→ws'.mu a=some o)→(∀a,ws.mu a≠none→ ∀j d',(j,d')∈is.zip ds'→j∈M→d'≠ .rf (.ref a))→R ds' ws')→r we ws R E
 |_,_,_, .nil,n,ws,h,R,E,q=>q [] ws h .nil rfl (fun _ _ z=>z) fun _ _ _ _ hm=>(nomatch hm)
 |_,_,_, .val hi ha hr,n,ws,h,R,E,q=>by
  refine ha mu p n fe we ws h _ E (Qi (QH.mp q) fun x m q kh e1 h1=> ?_)
  refine Zea hr m kh h1 _ E (Qi (QH.mp q) fun ds m q ds' ws' h' pd hl mm nn=> ?_)
  refine q _ ws' h' (.val hi pd) (by rw[List.length_cons,List.length_cons,hl]) (fun a o z=>mm a o (by rw[e1];exact z)) fun a hp j d' hm hj=> ?_
  rcases List.mem_cons.mp hm with e|hm
  ·cases e;exact(hi hj).elim
  ·exact nn a (by rw[e1];exact hp) j d' hm hj
 |_,_,_, .chg (a:=a) hi ha hr,n,ws,h,R,E,q=>by
  refine ha mu p n fe we ws h _ E (Qi (QH.mp q) fun x m q kh e1 h1 a o ho hp=> ?_)
  have h2:=h1.fresh (o:=o) hp
  refine Zea hr m _ h2 _ E (Qi (QH.mp q) fun ds m2 q ds' ws' h' pd hl mm nn=> ?_)
  have hpp:=mm a o WR
  refine q _ ws' h' (.chg hi (ql h1.sub hp) ho hpp (fun j hj hn z=> ?_) (nn a (by rw[WR];exact fun z=>by cases z)) pd) (by rw[List.length_cons,List.length_cons,hl]) (fun p2 o2 z=>mm p2 o2 (by rw[jx (fun y=>by rw[y,←e1,hp]at z;cases z),e1];exact z)) fun p2 hp2 j d' hm hj=> ?_
  ·cases e:nth fe j with
   |none=>exact hn e
   |some y=>
    obtain⟨p',o',g1,_,_,g4⟩:=h1.mu j y hj e
    rw[g1]at z
    cases z
    rw[hp]at g4;cases g4
  ·rcases List.mem_cons.mp hm with e|hm
   ·cases e
    intro z
    cases z
    exact hp2 (by rw[←e1];exact hp)
   ·refine nn p2 ?_ j d' hm hj
    by_cases z:p2=a
    ·rw[z,WR];exact fun y=>by cases y
    ·rw[jx z,e1];exact hp2
theorem ZmB{i j:Nat}{fs:List MX}{r:Arg}(h:BCs M [i,j] fs r):BS M (wD [i,j] fs) (dPar i j r):=fun mu p n fe we ws hr DD q=>by
 refine Zea h n ws hr _ _ (Qi (QH.mp q) fun ds m q ds' ws' h' pd hl _ _=> ?_)
 match ds',hl with
 |[x,y],_=>exact q _ ws' (qW pd h')
end
def mfn(t:Dt Out):Dt D:=t.bind fun o=>match o with
 | .nx _=> .ret .non
 | .rt d=> .ret d
 |_=> .no
theorem ZuF{M:List Nat}{f:MS}{w:Yh}{N:List Str}{n:Nat}(h:BS M f w)(hM: ∀i∈M,n≤i:=by decide): ∀ds s R E,ds.length=n→pM (fun ds=>mfn (f (ZC N ds))) ds s R E→w (Qx R E) (ZC N ds) s:=fun ds s R E hl ⟨p,k,hk,q⟩=>by
 refine h s.mu p k (ZC N ds) (ZC N ds) s ⟨rfl,⟨fun _ _ z=>z,fun q j z=> ?_⟩,fun _ _ _ _ z=>z,fun _ _ _ _ z=>⟨_,z, .inl rfl⟩,fun i d hi e=> ?_,fun i j p hi _ _ e=> ?_⟩ _ (Qi (QH.mp q) fun o m q=> ?_)
 ·cases z;exact hk
 ·rw[Mv (by rw[hl];exact hM i hi)]at e;cases e
 ·exact(e (Mv (by rw[hl];exact hM i hi))).elim
 ·cases o with
  |nx e'=>exact fun we ws r=>⟨_,r.sub,q _ rfl ⟨m,Nat.le_refl _,rfl⟩⟩
  |rt d=>exact fun ws r=>⟨_,r,q _ rfl ⟨m,Nat.le_refl _,rfl⟩⟩
  |bk e'=>exact q.elim
  |ct e'=>exact q.elim
  |ex x e'=>exact q.elim
  |no=>exact q
theorem ZpP{M:List Nat}{f:MS}{te:Yh}{N:List Str}{ns:List Int}{R:Q1}{E:XQ}(h:BS M f te)(hM: ∀i∈M,2≤i)(hN:2≤N.length)(hq: ∀p,(f (some (.U7 ns)::some (.rf (.ref p))::List.replicate (N.length-2) none)).run p 1125899906842624 fun o _=>o= .rt (.bl true))(hR: ∀s,R (.bl true) s):
  ZV (Jo 1 (dCall 1 Ef (Zd (Zf 0) Zo))) te (Qx R E) (ZC N [.U7 ns]) ⟨fun _=>none,none⟩:=by
 obtain⟨rest,hrest⟩: ∃k,N.length-1=k+1:=⟨N.length-2,by omega⟩
 have e0:ZC N [.U7 ns]=some (.U7 ns)::none::List.replicate rest none:=by
  rw[gj]
  show[some (D.U7 ns)]++List.replicate (N.length-1) none=_
  rw[hrest];rfl
 rw[e0]
 refine⟨rfl,ns,rfl,rfl,fun p=> ?_⟩
 have e1:N.length-2=rest:=by omega
 have hq:=hq p
 rw[e1]at hq
 refine h (fun _=>none) p _ (some (.U7 ns)::some (.rf (.ref p))::List.replicate rest none) _ _ ⟨rfl,Sub.refl _,fun _ _ _ _ z=>z,fun _ _ _ _ z=>⟨_,z, .inl rfl⟩,fun i d hi e=> ?_,fun i j p0 hi _ _ e=> ?_⟩ _ (Qi hq fun o m q=> ?_)
 ·have:=Mv (N:=N) (ds:=[.U7 ns, .rf (.ref p)]) (hM i hi)
  rw[gj]at this
  have e2:N.length-[D.U7 ns, .rf (.ref p)].length=rest:=e1
  rw[e2]at this
  rw[show nth (some (D.U7 ns)::some (D.rf (.ref p))::List.replicate rest none) i=none from this]at e
  cases e
 ·have:=Mv (N:=N) (ds:=[.U7 ns, .rf (.ref p)]) (hM i hi)
  rw[gj]at this
  have e2:N.length-[D.U7 ns, .rf (.ref p)].length=rest:=e1
  rw[e2]at this
  exact(e this).elim
 ·subst q
  exact fun ws hs=>⟨_,Sub.refl _,hR ws⟩
section
variable{α β:Type}{p:Addr}{n c:Nat}{t:Dt α}
def Sp(p:Addr)(c:Nat)(t:Dt α)(P:α→Prop):Prop:= ∀n,c≤n→t.run p n fun a m=>P a∧n≤m+c
theorem Sp.use{P:α→Prop}{R:α→Nat→Prop}(h:Sp p c t P)(hc:c≤n)(k: ∀a m,P a→n≤m+c→R a m):t.run p n R:=Qi (h n hc) fun a m q=>k a m q.1 q.2
theorem U6{a:α}{P:α→Prop}(h:P a):Sp p c (.ret a) P:=fun n hn=>⟨h,Nat.le_add_right _ _⟩
theorem Ve{f:α→Dt β}{P:α→Prop}{Q:β→Prop}{c1 c2:Nat}(h:Sp p c1 t P)(k: ∀a,P a→Sp p c2 (f a) Q)(hc:c1+c2≤c:=by omega):Sp p c (t.bind f) Q:=fun n hn=>
 QH.mpr (Qi (h n (by omega)) fun a m q=>Qi (k a q.1 m (by omega)) fun b m2 q2=>⟨q2.1,by omega⟩)
theorem xH{P Q:α→Prop}{c1:Nat}(h:Sp p c1 t P)(k: ∀a,P a→Q a)(hc:c1≤c:=by omega):Sp p c t Q:=fun n hn=>Qi (h n (by omega)) fun a m q=>⟨k a q.1,by omega⟩
theorem ZmC{q:Prop}{P:D→Prop}{f:D→Dt α}{Q:α→Prop}{c1 c2:Nat}(hq:q)(k: ∀d,P d→Sp p c2 (f d) Q)(hc:c1+c2≤c:=by omega):Sp p c (.any p c1 q P f) Q:=fun n hn=>
 ⟨rfl,hq,by omega,fun d hd=>Qi (k d hd (n-c1) (by omega)) fun a m q=>⟨q.1,by omega⟩⟩
theorem Zhk{o:Option α}{a:α}{P:α→Prop}(h:o=some a)(q:P a):Sp p c (.opt o) P:=by subst h;exact U6 q
theorem ZpQ{k:Int}(h0:0<k)(h1:k<1073741824):Sp p 1 (Zh6 [.rf (.ref p), .int k]) fun d=> ∃r:Int,d= .int r∧0≤r∧r<k:=ZmC (c2:=0) ⟨h0,h1⟩ fun d hd=>U6 hd
theorem ZqX{c:Nat}{pre:List D→Prop}{Pd:List D→D→Prop}{as:List D}(h:pre as):Sp p c (mDr c pre Pd (.rf (.ref p)::as)) (Pd as):=ZmC (c2:=0) h fun d hd=>U6 hd
theorem Zdc{f g:MS}{e:Zq}{c1 c2:Nat}{P:Out→Prop}{Q:Zq→Prop}(h:Sp p c1 (f e) fun o=> ∃e1,o= .nx e1∧Q e1)(k: ∀e1,Q e1→Sp p c2 (g e1) P)(hc:c1+c2≤c:=by omega):Sp p c (Je f g e) P:=
 Ve h (fun o ho=>by obtain⟨e1,rfl,hq⟩:=ho;exact k e1 hq) hc
end
end Bk
namespace Bk
open PySem PySem.Spec PyProof.Rows L2 ClX
def Zsg(g:FG)(t:FT)(a b:FX)(e0:Zq)(d:D):Rs (Option (Key×D)):=match g d e0 with
 |none=> .no
 |some e1=>match t e1 with
  | .ok true=>match a e1 with
    | .ok k=>match keyD k with
      |some key=>match b e1 with
       | .ok y=> .ok (some (key,y))
       |_=> .no
      |none=> .no
    |_=> .no
  | .ok false=> .ok none
  |_=> .no
def ZtR(el:D→Rs (Option (Key×D))):List D→List (Key×D)→Rs (List (Key×D))
 |[],acc=> .ok acc
 |d::ds,acc=>(el d).bind fun o=>ZtR el ds (match o with
  |some kv=>dput acc kv.1 kv.2
  |none=>acc)
@[simp] def fDc (i:FA) (g:FG) (t:FT) (a b:FX) (vs:List Nat) (e:Zq):Rs D:=(i e).bind fun ds=>(ZtR (Zsg g t a b (Jk e vs)) ds []).calm.bind fun ys=> .ok (.U0 ys)
end Bk
namespace Bk
open PySem PySem.Spec PyProof.Rows L2
def ZtS{α:Type}(fst:Bool)(us ws cs:List α):List α:=if fst then us++ws++cs else us++cs++ws
def ZtT(fst:Bool)(cs:List D)(ds:List D)(t:D)(ks:List D):List D:=ZtS fst ds ks cs++[t]
def ZtU(fst:Bool)(cs:List D)(ds ks:List D):List D:=ZtS fst ds ks cs
@[simp] theorem Zyj (cs ds:List D) (t:D) (ks:List D):ZtT true cs ds t ks=ds++ks++cs++[t]:=rfl
@[simp] theorem Zyk (cs ds:List D) (t:D) (ks:List D):ZtT false cs ds t ks=ds++cs++ks++[t]:=rfl
@[simp] theorem Zyl (cs ds ks:List D):ZtU true cs ds ks=ds++ks++cs:=rfl
@[simp] theorem Zym (cs ds ks:List D):ZtU false cs ds ks=ds++cs++ks:=rfl
abbrev Qh:MF:=Zh6
theorem Um:PM Qz Qh:=ZpO
def OJ:MF:=mDr 16 (fun as=>as=[]) fun _ d=> ∃cs,d=cellsD cs∧CellsOk cs
theorem Zex:PM Eh OJ:=ZqV
def Uz:MF:=mDr 165 (fun as=> ∃ns,as=[.lst (texts ns)]∧namesOk ns) fun as d=> ∃ns f,as=[.lst (texts ns)]∧d=QF f∧Kh ns f
theorem Zbs:PM Xl Uz:=ZqV
@[simp] def ZAe (a:FX) (e:Zq):Rs D:=(a e).bind fun d=> .ok d.unp
end Bk
namespace Bk
open PySem PySem.Spec PyProof.Rows L2
end Bk
namespace Bk
open PySem PySem.Spec PyProof.Rows L2
inductive ZkX(X:Cx)(T:Tb)(ms:List Str):List ExceptHandler→List (Str×Nat×Yh)→Prop
 |nil:ZkX X T ms [] []
 |cons {n x:Str} {c:Str} {i:Nat} {u:Yh} {b₀:Stmt} {suite:List Stmt} {np pos':Pos} {hds:List ExceptHandler} {l:List (Str×Nat×Yh)} (hi:X.N[i]? =some n) (hln:X.env.kindOf n=some .local) (hm:c∈ms) (hc:Names X x (.ref (T.cls c)))
   (hsu: ∀(a:Addr) (pn:List (Addr×Obj)),qM (X.suite a pn) T (fun _ _ _ _=>False) (b₀::suite) u) (r:ZkX X T ms hds l):
   ZkX X T ms (.ExceptHandler (some (.Name x np)) (some n) (b₀::suite) pos'::hds) ((c,i,u)::l)
section
variable{X:Cx}{T:Tb}{W:WX}{k:Nat}{body:List Stmt}{t:Yh}{kn ms fs:List Str}{h₀:ExceptHandler}{hds:List ExceptHandler}{l:List (Str×Nat×Yh)}{pos:Pos}
theorem ZkX.mem{hs:List ExceptHandler}(h:ZkX X T ms hs l): ∀q∈l,q.1∈ms∧q.2.1<X.N.length:=by
 induction h with
 |nil=>exact fun q hq=>(nomatch hq)
 |cons hi hln hm hc hsu r ih=>
  intro q hq
  rcases List.mem_cons.mp hq with e|hq
  ·subst e;exact⟨hm,(List.getElem?_eq_some_iff.mp hi).1⟩
  ·exact ih q hq
end
structure Zfa(X:Cx):Prop where
 grd:X.A.guards=some []
 un:X.A.units+200<cLine
theorem fK.suite{X:Cx}{W:WX}{k:Nat}(B:fK X W k)(a:Addr)(pn:List (Addr×Obj)):Zfa (X.suite a pn):=⟨B.grd,by have:=B.room.un;show X.A.units+200<_;omega⟩
theorem Zfa.u64{X:Cx}(B:Zfa X):X.A.units+64<cLine:=by have:=B.un;omega
theorem Zfa.u65{X:Cx}(B:Zfa X):X.A.units+65<cLine:=by have:=B.un;omega
theorem Zfa.u66{X:Cx}(B:Zfa X):X.A.units+66<cLine:=by have:=B.un;omega
end Bk
namespace Bk
open PySem PySem.Spec PyProof.Rows L2
end Bk
namespace Bk
open PySem PySem.Spec PyProof.Rows L2
section
variable{M:List Nat}{r:FA}{wr:Arg}
@[simp] def Zy9 (r:FA) (e:Zq):Rs D:=(r e).bind fun ds=>if ds.length≤sizeLine then .ok (.tup ds)else .no
@[simp] def ZlW (r:FA) (e:Zq):Rs D:=(r e).bind fun ds=>if ds.length≤sizeLine then .ok (.lst ds)else .no
theorem ZjZ(hr:AI M r wr):AX M (ZlW r) (VH wr):=fun s0 fe we ws h R E q=>
 hr s0 fe we ws h _ E (ZF (run_bind.mp q) (fun ds q=>by
  split at q
  ·rename_i hl;exact⟨hl,q⟩
  ·exact q.elim) fun _ k=>k)
end
end Bk
namespace Bk
open PySem PySem.Spec PyProof.Rows L2 ClX
section
variable{M:List Nat}{cn:List Str}{a b:FX}{wa wb:Exp}{F:FF}
@[simp] def ZAf (cn:List Str) (F:FF) (a b:FX) (e:Zq):Rs D:=(a e).bind fun x=>(b e).bind fun y=>if Zri cn x=true∧Zri cn y=true then F [x,y]else .no
end
end Bk
namespace Bk
open PySem PySem.Spec PyProof.Rows L2
end Bk
namespace Bk
open PySem PySem.Spec PyProof.Rows L2 ClX
end Bk
namespace Bk
open PySem PySem.Spec PyProof.Rows L2
def M5:D→Str
 | .str x=>x
 |_=> ""
def N7:D→D
 | .tup (a::_)=>a
 |_=> .non
def ZlX(d:D):List Str:=(YL d).map M5
def Zb5(xs:List D):List Str:=xs.flatMap ZlX
def Zb6(ns:List Str)(p:D):Bool:=Gm ns p&& !yC p
def aU(ns:List Str):D→Bool
 | .tup xs=>decide (xs.length≤3)&&(xs.all (Zb6 ns)&&decide ((ddS (Zb5 xs)).length=(Zb5 xs).length))
 |_=>false
def R7(f:List (List Test)):List Str:=f.flatMap fun c=>c.flatMap fun t=>t.1.map (·.2)
def Zhl(d:D):List Str:=(YL d).flatMap fun c=>(YL c).flatMap fun t=>(YL (N7 t)).map fun x=>M5 (T7 x)
def Zey(ns kn:List Str)(d:D):Bool:=(Yd ns d).isNone&&(Zhl d).all fun x=>decide (x∈kn)
def setB(ns kn:List Str):D→Bool
 | .tup [_,t,k]=>Ug ns t&&(Ue k (-99) 99&&(YL t).all fun x=>decide (M5 (T7 x)∈kn))
 |_=>false
def jQ(ns kn:List Str):D→Bool
 | .tup xs=>decide (xs.length≤4)&&(xs.all (setB ns kn)&&Lf ns (xs.map N7))
 |_=>false
def Zhm:D→Bool
 | .str x=>decide (x∈(["each","one","last"]:List Str))
 |_=>false
def rB(ns:List Str)(sets marks:D):Bool:=Gm ns marks&&(YL sets).all fun x=> !decide (M5 (N7 x)∈ZlX marks)
def Y0(ns:List Str):D→Option Str
 | .tup [name,level,looks,whn,sets,marks]=>
   if nameB name=false then some "name" else if Zhm level=false then some "level" else if aU ns looks=false then some "looks"
   else if Zey ns (Zb5 (YL looks)) whn=false then some "when" else if jQ ns (Zb5 (YL looks)) sets=false then some "sets"
   else if rB ns sets marks=false then some "marks" else none
 |_=>some "form"
theorem ZaF{ns:List Str}{xs:List D}(h:xs.length≠6):Y0 ns (.tup xs)=some "form" :=by
 unfold Y0
 split
 ·rename_i e;cases e;exact absurd rfl h
 ·rfl
theorem dX(zs:List Str):ZlX (.tup (texts zs))=zs:=by
 show(texts zs).map M5=zs
 unfold texts
 rw[List.map_map]
 exact(List.map_congr_left fun _ _=>rfl).trans (List.map_id _)
theorem Zdd{ns:List Str}{d:D}(h:Gm ns d=true): ∃zs,d= .tup (texts zs)∧ns.filter (fun n=>decide (n∈zs))=zs:=by
 cases d with
 |tup xs=>
  obtain⟨zs,rfl,hz⟩:=MK h
  exact⟨zs,rfl,hz⟩
 |_=>cases h
theorem Zde{ns:List Str}{d:D}(h:Ug ns d=true): ∃ts:List Term,d=JC ts∧ts.length≤4∧(∀t∈ts,t.2∈ns)∧ ∀t∈ts,-9≤t.1∧t.1≤9:=by
 cases d with
 |tup xs=>
  simp only[Ug,Bool.and_eq_true,decide_eq_true_eq]at h
  obtain⟨h4,hall,hord⟩:=h
  obtain⟨zs,hz,hf⟩:=MK hord
  have go: ∀(xs:List D) (zs:List Str),xs.all BJ=true→xs.map T7=texts zs→ ∃ts:List Term,xs=ts.map J9∧ts.map (·.2)=zs∧ ∀t∈ts,-9≤t.1∧t.1≤9:=by
   intro xs
   induction xs with
   |nil=>
    intro zs _ h
    cases zs with
    |nil=>exact⟨[],rfl,rfl,fun t ht=>by simp at ht⟩
    |cons _ _=>cases h
   |cons x xs ih=>
    intro zs ha h
    cases zs with
    |nil=>cases h
    |cons z zs=>
     rw[List.all_cons,Bool.and_eq_true]at ha
     obtain⟨i,b,rfl⟩:=Pa.mK ha.1
     have e1:b= .str z:=(List.cons.inj h).1
     subst e1
     obtain⟨ts,rfl,e2,hb⟩:=ih zs ha.2 (List.cons.inj h).2
     have hi:=ha.1
     simp only[BJ,Bool.and_eq_true,decide_eq_true_eq]at hi
     refine⟨(i,z)::ts,rfl,by rw[List.map_cons,e2],fun t ht=> ?_⟩
     rcases List.mem_cons.mp ht with rfl|ht
     ·exact⟨hi.1.1,hi.1.2⟩
     ·exact hb t ht
  obtain⟨ts,rfl,e,hb⟩:=go xs zs hall hz
  refine⟨ts,rfl,by rwa[List.length_map]at h4,fun t ht=> ?_,hb⟩
  have:t.2∈zs:=by rw[←e];exact List.mem_map.mpr ⟨t,ht,rfl⟩
  rw[←hf]at this
  exact(List.mem_filter.mp this).1
 |_=>cases h
theorem ZnM{ns:List Str}{d:D}(h:Vc ns d=true): ∃t:Test,d=Yb t∧t.1.length≤4∧ ∀x∈t.1,x.2∈ns:=by
 unfold Vc at h
 split at h
 ·rename_i t o n
  simp only[Bool.and_eq_true]at h
  obtain⟨h1,h2,h3⟩:=h
  obtain⟨ts,rfl,h4,hin,_⟩:=Zde h1
  cases o with
  |str z=>
   cases n with
   |int k=>exact⟨(ts,z,k),rfl,h4,hin⟩
   |_=>cases h3
  |_=>cases h2
 ·cases h
theorem Zdf{α:Type}{enc:α→D}{p:D→Bool}{P:α→Prop}(h: ∀d,p d=true→ ∃a,d=enc a∧P a): ∀{xs:List D},xs.all p=true→ ∃as:List α,xs=as.map enc∧ ∀a∈as,P a
 |[],_=>⟨[],rfl,fun a ha=>by simp at ha⟩
 |x::xs,ha=>by
  rw[List.all_cons,Bool.and_eq_true]at ha
  obtain⟨a,rfl,pa⟩:=h x ha.1
  obtain⟨as,rfl,pas⟩:=Zdf h ha.2
  refine⟨a::as,rfl,fun b hb=> ?_⟩
  rcases List.mem_cons.mp hb with rfl|hb
  ·exact pa
  ·exact pas b hb
theorem ZpR{ns:List Str}{d:D}(h:Yd ns d=none): ∃f:List (List Test),d=QF f∧f.length≤4∧ ∀c∈f,c.length≤4∧ ∀t∈c,t.1.length≤4∧ ∀x∈t.1,x.2∈ns:=by
 cases d with
 |tup xs=>
  by_cases h4:4<xs.length
  ·simp only[Yd,if_pos h4]at h;cases h
  ·rw[zY (by omega)]at h
   cases h1:xs.findIdx? (fun c=> !V2 c 4)with
   |some i=>rw[h1]at h;cases h
   |none=>
    rw[h1]at h
    cases h2:xs.findIdx? (Uu ns)with
    |some i=>rw[h2]at h;cases h
    |none=>
     have hrow: ∀c∈xs,V2 c 4=true:=fun c hc=>by simpa using List.findIdx?_eq_none_iff.mp h1 c hc
     have hok: ∀c∈xs,Uu ns c=false:=fun c hc=>by simpa using List.findIdx?_eq_none_iff.mp h2 c hc
     obtain⟨f,rfl,hf⟩:=Zdf (enc:=Jp) (p:=fun c=>V2 c 4&& !Uu ns c) (P:=fun c:List Test=>c.length≤4∧ ∀t∈c,t.1.length≤4∧ ∀x∈t.1,x.2∈ns) (fun c hc=>by
      rw[Bool.and_eq_true]at hc
      obtain⟨ys,rfl,hy⟩:=U8 hc.1
      have hb:ys.all (Vc ns)=true:=by
       have hb:=hc.2
       simp only[Uu,YL,Bool.not_eq_true',List.any_eq_false]at hb
       exact List.all_eq_true.mpr fun t ht=>by simpa using hb t ht
      obtain⟨ts,rfl,hts⟩:=Zdf (enc:=Yb) (fun t ht=>ZnM ht) hb
      exact⟨ts,rfl,by rw[List.length_map]at hy;omega,hts⟩) (xs:=xs) (List.all_eq_true.mpr fun c hc=>by rw[hrow c hc,hok c hc];rfl)
     exact⟨f,rfl,by rw[List.length_map]at h4;omega,hf⟩
 |_=>cases h
theorem Zf1(f:List (List Test)):Zhl (QF f)=R7 f:=by
 unfold Zhl R7
 show(f.map Jp).flatMap _=_
 rw[List.flatMap_map]
 congr 1
 funext c
 show(c.map Yb).flatMap _=_
 rw[List.flatMap_map]
 congr 1
 funext t
 show(t.1.map J9).map _=_
 rw[List.map_map]
 exact List.map_congr_left fun _ _=>rfl
theorem ZkY{ns:List Str}{f:List (List Test)}(h1:f.length≤4)(h2: ∀c∈f,c.length≤4∧ ∀t∈c,t.1.length≤4∧ ∀x∈t.1,x.2∈ns):(R7 f).length≤64∧ ∀x∈R7 f,x∈ns:=by
 have len: ∀{α β:Type} (g:α→List β) (k:Nat) (xs:List α),(∀x∈xs,(g x).length≤k)→(xs.flatMap g).length≤k*xs.length:=by
  intro α β g k xs
  induction xs with
  |nil=>intro _;simp
  |cons x xs ih=>
   intro h
   rw[List.flatMap_cons,List.length_append,List.length_cons,Nat.mul_succ]
   have:=h x List.mem_cons_self
   have:=ih fun y hy=>h y (List.mem_cons_of_mem _ hy)
   omega
 constructor
 ·refine Nat.le_trans (len _ 16 f fun c hc=> ?_) (by omega)
  obtain⟨hc4,ht⟩:=h2 c hc
  refine Nat.le_trans (len _ 4 c fun t htc=> ?_) (by omega)
  rw[List.length_map]
  exact(ht t htc).1
 ·intro x hx
  obtain⟨c,hc,hx⟩:=List.mem_flatMap.mp hx
  obtain⟨t,ht,hx⟩:=List.mem_flatMap.mp hx
  obtain⟨y,hy,rfl⟩:=List.mem_map.mp hx
  exact((h2 c hc).2 t ht).2 y hy
theorem Zdg{ns:List Str}{xs:List D}(h:xs.all (Zb6 ns)=true): ∃ps:List (List Str),xs=ps.map cO∧ ∀p∈ps,ns.filter (fun n=>decide (n∈p))=p:=by
 refine Zdf (enc:=cO) (fun d hd=> ?_) h
 unfold Zb6 at hd
 rw[Bool.and_eq_true]at hd
 obtain⟨zs,rfl,hz⟩:=Zdd hd.1
 exact⟨zs,rfl,hz⟩
theorem O4(ps:List (List Str)):Zb5 (ps.map cO)=ps.flatten:=by
 unfold Zb5
 rw[List.flatMap_map,List.flatten_eq_flatMap]
 congr 1
 funext p
 exact dX p
theorem Zj0{ns:List Str}{ps:List (List Str)}(hn:ns.length≤4)(hp:ps.length≤3)(h: ∀p∈ps,ns.filter (fun n=>decide (n∈p))=p):ps.flatten.length≤12∧(∀p∈ps,p.length≤4)∧ ∀x∈ps.flatten,x∈ns:=by
 have l4: ∀p∈ps,p.length≤4:=fun p hpm=>by
  rw[←h p hpm]
  exact Nat.le_trans (List.length_filter_le _ _) hn
 refine⟨?_,l4,fun x hx=> ?_⟩
 ·have: ∀ps:List (List Str),(∀p∈ps,p.length≤4)→ps.flatten.length≤4*ps.length:=by
   intro ps
   induction ps with
   |nil=>intro _;simp
   |cons p ps ih=>
    intro h
    rw[List.flatten_cons,List.length_append,List.length_cons,Nat.mul_succ]
    have:=h p List.mem_cons_self
    have:=ih fun y hy=>h y (List.mem_cons_of_mem _ hy)
    omega
  have:=this ps l4
  omega
 ·obtain⟨p,hpm,hx⟩:=List.mem_flatten.mp hx
  rw[←h p hpm]at hx
  exact(List.mem_filter.mp hx).1
theorem aV{x:Str}(h:Cu x):PyData.strOk x=true∧x.length≤100000:=⟨h.1,Nat.le_trans h.2 (by decide)⟩
end Bk
namespace Bk.Pa
open PySem PySem.Spec PyProof.Rows L2
theorem vo{α β:Type}(f:α→β)(p:List α):p.flatMap (fun x=>[f x])=p.map f:=by
 induction p with
 |nil=>rfl
 |cons x p ih=>rw[List.flatMap_cons,ih];rfl
theorem ZaG{e0:Zq}{i j:Nat}{ps:List (List Str)}{vs:List Nat}(h: ∀p∈ps,Zbh (Zv i) Ux (Jg (fVar i)) (Ze7 (Zv j) Ux (fVar j)) vs qw e0 (cO p)= .ok (texts p)):qw (Zbh (Zv i) Ux (Jg (fVar i)) (Ze7 (Zv j) Ux (fVar j)) vs qw e0) (ps.map cO)= .ok (texts ps.flatten):=by
 rw[bV (F:=texts) (h:=fun p hp=>h p hp)]
 unfold texts
 rw[List.map_flatten,←List.flatMap_def]
theorem T8{el:D→Rs (List D)}{p:List Str}(h: ∀x∈p,el (.str x)= .ok [.str x]):qw el (texts p)= .ok (texts p):=by
 unfold texts
 rw[bV (F:=fun x=>[D.str x]) (h:=h),vo]
@[simp] theorem ZvI (x:Str):M5 (.str x)=x:=rfl
@[simp] theorem ZtV (a:D) (r:List D):N7 (.tup (a::r))=a:=rfl
@[simp] theorem ZvJ (a b:D):T7 (.tup [a,b])=b:=rfl
@[simp] theorem ZvK (xs:List D):Zbi (.tup xs) (.tup [])=some (.bl xs.isEmpty):=rfl
theorem Zeb{x:D}(h:Vv x):Zbi x (.tup [])=some (.bl (yC x)):=by
 refine Wr h ?_ ?_ ?_ ?_ ?_ ?_ ?_<;>intros<;>rfl
theorem Zez{cs:List (Str×Int)}{d:D}(hc:CellsOk cs)(h:Vv d):dR [cellsD cs,d, .int 3]= .ok (.bl (aU (cs.map (·.1)) d)):=by
 simp [dR,qY,YT h]
 cases hr:V2 d 3 with
 |false=>
  simp
  cases d with
  |tup xs=>
   have:=Np hr rfl
   simp [aU]
   omega
  |_=>rfl
 |true=>
  obtain⟨xs,rfl,hl⟩:=U8 hr
  have h3:xs.length≤3:=by omega
  have hit: ∀x∈xs,Vv x:=fun x hx=>QC h rfl hx
  simp
  rw[gq (Zb6 (cs.map (·.1))) (.rt (.bl false)) (fun a ha k=>by
   have hT:=hit a ha
   simp [Zeb hT]
   unfold Zb6
   cases hn:yC a with
   |true=>simp
   |false=>
    simp [Ol hc hT]
    cases Gm (cs.map (·.1)) a<;>simp)]
  cases ha:xs.all (Zb6 (cs.map (·.1)))with
  |false=>simp [aU,ha,-List.all_eq_true]
  |true=>
   obtain⟨ps,rfl,hp⟩:=Zdg ha
   rw[List.length_map]at h3
   obtain⟨f12,p4,fin⟩:=Zj0 (by rw[List.length_map];exact hc.len) h3 hp
   simp [aU,ha,h3,-List.all_eq_true]
   rw[ZaG (fun p hpm=>by
    simp [Zbh,cO]
    rw[T8 fun x _=>by simp [Ze7,Yx]]
    simp)]
   have hz:ps.flatten.length≤sizeLine:=sz _ (by omega)
   simp only[Bw,Zpy,if_pos hz,ZcV,ZjP,fY,fZ,Qg,Zz,Qm,fVar,zU,nth_succ,Hq,Zce _ (show ps.flatten.length≤1000 by omega),Zfi,QL,xr,ZqJ,O4]
   have e:=QL ps.flatten
   exact congrArg (fun b=>Rs.ok (D.bl b)) (decide_eq_decide.mpr (by omega))
theorem Zf2{f:List (List Test)}(h1:f.length≤4)(hl:(R7 f).length≤64):mF [QF f]= .ok (.lst (texts (R7 f))):=by
 simp [mF,vg,QF]
 rw[bV (F:=fun c:List Test=>texts (c.flatMap fun t=>t.1.map (·.2))) (h:=fun c _=>by
  simp [Zbh,Jp]
  rw[bV (F:=fun t:Test=>texts (t.1.map (·.2))) (h:=fun t _=>by
   simp [Zbh,Yb,JC]
   rw[bV (F:=fun x:Term=>[D.str x.2]) (h:=fun x _=>by simp [Ze7,Yx,J9])]
   simp [vo,qC])]
  simp [texts,List.map_flatMap])]
 have e:(f.flatMap fun c=>texts (c.flatMap fun t=>t.1.map (·.2)))=texts (R7 f):=by
  unfold R7 texts
  rw[List.map_flatMap]
 rw[e]
 have hz:(texts (R7 f)).length≤sizeLine:=sz _ (by rw[QL];omega)
 simp [hz]
theorem ZkZ{kn xs:List Str}(hx: ∀x∈xs,Cu x)(hk: ∀x∈kn,Cu x){el:D→Rs (Option D)}(h: ∀x∈xs,el (.str x)=(Rs.opt (gIn false (.str x) (.lst (texts kn)))).bind fun y=> .ok (some y)):qT el (texts xs)= .ok (xs.map fun x=> .bl (decide (x∈kn))):=by
 rw[mJ (fun x=> .bl (decide (x∈kn))) fun x hxm=>by
  rw[h x hxm,Ws (aV (hx x hxm)) fun y hy=>aV (hk y hy)];rfl]
theorem uG{cs:List (Str×Int)}{d:D}{kn:List Str}(hc:CellsOk cs)(h:Vv d)(hk: ∀x∈kn,Cu x):Ph [cellsD cs,d, .lst (texts kn)]= .ok (.bl (Zey (cs.map (·.1)) kn d)):=by
 simp [Ph,SQ,Om hc h]
 cases hf:Yd (cs.map (·.1)) d with
 |some e=>simp [Zey,hf,show HF "BadFormula" "BadFormula" =true by decide+kernel]
 |none=>
  obtain⟨f,rfl,f4,fok⟩:=ZpR hf
  obtain⟨n64,nin⟩:=ZkY f4 fok
  simp [Zf2 f4 n64]
  rw[ZkZ (fun x hx=>W3 hc x (nin x hx)) hk fun x hx=>by simp [Yx];rw[Ws (aV (W3 hc x (nin x hx))) fun y hy=>aV (hk y hy)];simp]
  simp [Zey,hf,Zf1,-List.all_eq_true]
theorem Zfq{ns kn:List Str}{xs:List D}(h:xs.length≠3):setB ns kn (.tup xs)=false:=by
 unfold setB
 split
 ·rename_i e;cases e;exact absurd rfl h
 ·rfl
def jN(ns kn:List Str)(d:D):Bool:=nameB (N7 d)&&(decide (M5 (N7 d)∈ns)&&setB ns kn d)
theorem Zk0{cs:List (Str×Int)}{d:D}{kn:List Str}(hc:CellsOk cs)(h:Vv d)(hk: ∀x∈kn,Cu x):zW [cellsD cs,d, .lst (texts kn)]= .ok (.bl (jN (cs.map (·.1)) kn d)):=by
 simp [zW,Zc1,YT h]
 cases hr:V2 d 3 with
 |false=>
  have:setB (cs.map (·.1)) kn d=false:=by
   cases d with
   |tup ys=>exact Zfq (by have:=Np hr rfl;omega)
   |_=>rfl
  simp [jN,this]
 |true=>
  obtain⟨xs,rfl,hl⟩:=U8 hr
  by_cases h3:xs.length=3
  ·obtain⟨n,t,k,rfl⟩:=zX h3
   have hn:=QC h rfl (x:=n) (by simp)
   have ht:=QC h rfl (x:=t) (by simp)
   have hkk:=QC h rfl (x:=k) (by simp)
   simp [Hu hn,dU]
   cases h1:nameB n with
   |false=>simp [jN,h1]
   |true=>
    cases n with
    |str z=>
     simp [Ws (Ul hn) (fun y hy=>aV (W3 hc y hy))]
     by_cases hz:z∈cs.map (·.1)
     ·simp [hz,qZ hc ht,OD hkk,jN,h1,setB]
      cases h2:Ug (cs.map (·.1)) t with
      |false=>simp
      |true=>
       cases h3:Ue k (-99) 99 with
       |false=>simp
       |true=>
        obtain⟨ts,rfl,_,tin,_⟩:=Zde h2
        simp [JC,YL]
        rw[X7 (F:=fun t:Term=> .bl (decide (t.2∈kn))) (h:=fun t htm=>by
         simp [Yx,J9]
         rw[Ws (aV (W3 hc _ (tin t htm))) fun y hy=>aV (hk y hy)]
         simp)]
        simp [-List.all_eq_true,List.all_map,Function.comp_def,J9]
        all_goals exact congrArg ts.all (funext fun _=>decide_eq_decide.mpr Iff.rfl)
     ·simp [hz,jN,h1]
    |_=>cases h1
  ·have:setB (cs.map (·.1)) kn (.tup xs)=false:=Zfq h3
   simp [jN,this,show¬((xs.length:Int)=3)by omega]
theorem ZpS{ns kn:List Str}{d:D}(h:jN ns kn d=true):nameB (N7 d)=true∧M5 (N7 d)∈ns∧setB ns kn d=true:=by
 unfold jN at h
 rw[Bool.and_eq_true,Bool.and_eq_true,decide_eq_true_eq]at h
 exact h
theorem Zdh{d:D}(h:nameB d=true): ∃z,d= .str z:=by
 cases d with
 |str z=>exact⟨z,rfl⟩
 |_=>cases h
theorem ZaH{ns kn:List Str}{d:D}(h:setB ns kn d=true): ∃n t k,d= .tup [n,t,k]:=by
 unfold setB at h
 split at h
 ·exact⟨_,_,_,rfl⟩
 ·cases h
theorem ZnN{xs:List D}(h:Vv (.tup xs)):Vv (.tup (xs.map N7)):=by
 obtain⟨b,n,w,ht,h1,h2,h3⟩:=h
 obtain⟨m,rfl,hs⟩:=MJ ht
 refine⟨b,m+1,w,G9.mpr ?_,h1,h2,h3⟩
 have one: ∀(x:D) (u:Nat),Th b m u x→Th b m u (N7 x):=fun x u hx=>by
  unfold N7
  split
  ·rename_i a c
   obtain⟨k,rfl,hs2⟩:=MJ hx
   obtain⟨w1,w2,e,g1,g2⟩:=GD.mp hs2
   exact g1.mono (Int.le_refl _) (by omega) (by omega)
  ·exact Zmn.mono (Int.le_refl _) (Nat.zero_le _) (Nat.zero_le _)
 clear ht h3
 induction xs generalizing w with
 |nil=>exact hs.mono (Int.le_refl _) (Nat.le_refl _) (Nat.le_refl _)
 |cons x xs ih=>
  obtain⟨w1,w2,e,g1,g2⟩:=GD.mp hs
  exact(YQ (one x w1 g1) (ih w2 g2)).mono (Int.le_refl _) (Nat.le_refl _) (by omega)
theorem vp{ns:List Str}(hl: ∀x∈ns,Wn x){xs:List D}(h:Lf ns (xs.map N7)=true): ∀x∈xs,nameB (N7 x)=true∧M5 (N7 x)∈ns:=by
 obtain⟨zs,hz,hf⟩:=MK h
 intro x hx
 have:N7 x∈texts zs:=by rw[←hz];exact List.mem_map.mpr ⟨x,hx,rfl⟩
 obtain⟨z,hzm,e⟩:=List.mem_map.mp this
 rw[←e]
 have hin:z∈ns:=by rw[←hf]at hzm;exact(List.mem_filter.mp hzm).1
 exact⟨gU (hl z hin),hin⟩
theorem Zf3{cs:List (Str×Int)}{d:D}{kn:List Str}(hc:CellsOk cs)(h:Vv d)(hk: ∀x∈kn,Cu x):mG [cellsD cs,d, .lst (texts kn)]= .ok (.bl (jQ (cs.map (·.1)) kn d)):=by
 simp [mG,vh,YT h]
 cases hr:V2 d 4 with
 |false=>
  simp
  cases d with
  |tup xs=>
   have:=Np hr rfl
   simp [jQ]
   omega
  |_=>rfl
 |true=>
  obtain⟨xs,rfl,hl⟩:=U8 hr
  have h4:xs.length≤4:=by omega
  have hit: ∀x∈xs,Vv x:=fun x hx=>QC h rfl hx
  simp
  rw[Ko (F:=fun x=> .bl (jN (cs.map (·.1)) kn x)) (h:=fun x hx=>by simp [Yx,Zk0 hc (hit x hx) hk])]
  cases ha:xs.all (jN (cs.map (·.1)) kn)with
  |false=>
   simp [-List.all_eq_true,Zc6,ha,jQ,h4]
   cases h1:xs.all (setB (cs.map (·.1)) kn)with
   |false=>simp
   |true=>
    cases h2:Lf (cs.map (·.1)) (xs.map N7)with
    |false=>simp
    |true=>
     exfalso
     have no:=vp (tH hc) h2
     obtain⟨y,hy,hn⟩:=List.all_eq_false.mp ha
     apply hn
     unfold jN
     rw[(no y hy).1,decide_eq_true (no y hy).2,List.all_eq_true.mp h1 y hy];rfl
  |true=>
   have h1:xs.all (setB (cs.map (·.1)) kn)=true:=List.all_eq_true.mpr fun x hx=>(ZpS (List.all_eq_true.mp ha x hx)).2.2
   simp [-List.all_eq_true,Zc6,ha,jQ,h4,h1]
   rw[Ko (F:=N7) (h:=fun x hx=>by
    obtain⟨n,t,k,rfl⟩:=ZaH (List.all_eq_true.mp h1 x hx)
    simp [Yx])]
   simp [Ol hc (ZnN h),Gm]
end Bk.Pa
namespace Bk.Pa
open PySem PySem.Spec PyProof.Rows L2
def xJ:List Str:=["each","one","last"]
theorem ZiG: ∀y∈xJ,PyData.strOk y=true∧y.length≤100000:=by decide+kernel
theorem Zk1:[D.str "each",D.str "one",D.str "last"]=texts xJ:=rfl
@[simp] theorem Zs6 (z:Str):Zhm (.str z)=decide (z∈xJ):=rfl
theorem Zk2{ns:List Str}(hn:ns.length≤4){d:D}(h:aU ns d=true): ∃ps:List (List Str),d= .tup (ps.map cO)∧ps.length≤3∧ps.flatten.length≤12∧(∀p∈ps,p.length≤4)∧ ∀x∈ps.flatten,x∈ns:=by
 cases d with
 |tup xs=>
  simp only[aU,Bool.and_eq_true,decide_eq_true_eq]at h
  obtain⟨h3,ha,_⟩:=h
  obtain⟨ps,rfl,hp⟩:=Zdg ha
  rw[List.length_map]at h3
  obtain⟨f12,p4,fin⟩:=Zj0 hn h3 hp
  exact⟨ps,rfl,h3,f12,p4,fin⟩
 |_=>cases h
theorem Zf4{cs:List (Str×Int)}{d:D}(hc:CellsOk cs)(h:Vv d):mH [cellsD cs,d]= .ok (match Y0 (cs.map (·.1)) d with
 |some w=> .str w
 |none=> .non):=by
 simp [mH,vm,YT h]
 have hl4:(cs.map (·.1)).length≤4:=by rw[List.length_map];exact hc.len
 cases hr:V2 d 6 with
 |false=>
  have:Y0 (cs.map (·.1)) d=some "form" :=by
   cases d with
   |tup ys=>exact ZaF (by have:=Np hr rfl;omega)
   |_=>rfl
  simp [this]
 |true=>
  obtain⟨xs,rfl,hl⟩:=U8 hr
  by_cases h6:xs.length=6
  ·obtain⟨n,l,lk,w,st,mk,rfl⟩:=Zr9 h6
   have hn:=QC h rfl (x:=n) (by simp)
   have hlv:=QC h rfl (x:=l) (by simp)
   have hlk:=QC h rfl (x:=lk) (by simp)
   have hw:=QC h rfl (x:=w) (by simp)
   have hst:=QC h rfl (x:=st) (by simp)
   have hmk:=QC h rfl (x:=mk) (by simp)
   simp [Hu hn]
   cases h1:nameB n with
   |false=>simp [Y0,h1]
   |true=>
    simp [mO hlv]
    cases l with
    |str z=>
     simp [Tt,Zk1,bY (Ul hlv) ZiG]
     by_cases hz:z∈xJ
     ·simp [hz,Zez hc hlk]
      cases h2:aU (cs.map (·.1)) lk with
      |false=>simp [Y0,h1,h2,hz]
      |true=>
       obtain⟨ps,rfl,p3,f12,p4,fin⟩:=Zk2 hl4 h2
       have hkn: ∀x∈ps.flatten,Cu x:=fun x hx=>W3 hc x (fin x hx)
       have hz2:(texts ps.flatten).length≤sizeLine:=sz _ (by rw[QL];omega)
       simp
       rw[ZaG (fun p hpm=>by
        simp [Zbh,cO]
        rw[T8 fun x _=>by simp [Ze7,Yx]]
        simp)]
       simp [hz2,uG hc hw hkn]
       cases h3:Zey (cs.map (·.1)) ps.flatten w with
       |false=>simp [Y0,h1,h2,hz,O4,YL,h3]
       |true=>
        simp [Zf3 hc hst hkn]
        cases h4:jQ (cs.map (·.1)) ps.flatten st with
        |false=>simp [Y0,h1,h2,hz,O4,YL,h3,h4]
        |true=>
         simp [Ol hc hmk]
         cases h5:Gm (cs.map (·.1)) mk with
         |false=>simp [Y0,h1,h2,hz,O4,YL,h3,h4,rB,h5]
         |true=>
          obtain⟨zs,rfl,_⟩:=Zdd h5
          cases st with
          |tup ys=>
           simp only[jQ,Bool.and_eq_true,decide_eq_true_eq]at h4
           obtain⟨y4,ya,yo⟩:=h4
           have nmz:=vp (tH hc) yo
           have hzs: ∀x∈zs,PyData.strOk x=true∧x.length≤100000:=fun x hx=>Ul (QC hmk rfl (List.mem_map.mpr ⟨x,hx,rfl⟩))
           have h4':jQ (cs.map (·.1)) ps.flatten (.tup ys)=true:=by simp only[jQ,Bool.and_eq_true,decide_eq_true_eq];exact⟨y4,ya,yo⟩
           simp
           rw[Ko (F:=fun y=> .bl (decide (M5 (N7 y)∈zs))) (h:=fun y hy=>by
            obtain⟨a,t,k,rfl⟩:=ZaH (List.all_eq_true.mp ya y hy)
            obtain⟨b1,b2⟩:=nmz _ hy
            obtain⟨x,hx⟩:=Zdh b1
            simp at hx
            subst hx
            simp [Yx]
            rw[bY (aV (W3 hc x b2)) hzs]
            simp
            exact decide_eq_decide.mpr Iff.rfl)]
           simp only[Bw,Znu,ZjV,Option.map_some,Hq,if_true,Zr7,ZcS]
           cases h6:ys.any (fun y=>decide (M5 (N7 y)∈zs))with
           |true=>
            have:rB (cs.map (·.1)) (.tup ys) (.tup (texts zs))=false:=by
             unfold rB
             rw[h5,dX,Bool.true_and,Bool.eq_false_iff]
             intro z
             obtain⟨y,hy,hy2⟩:=List.any_eq_true.mp h6
             have:=List.all_eq_true.mp z y hy
             rw[hy2]at this
             cases this
            simp [Y0,h1,h2,hz,O4,YL,h3,h4',this]
           |false=>
            have:rB (cs.map (·.1)) (.tup ys) (.tup (texts zs))=true:=by
             unfold rB
             rw[h5,dX,Bool.true_and]
             exact List.all_eq_true.mpr fun y hy=>by rw[List.any_eq_false.mp h6 y hy|>Bool.eq_false_iff.mpr];rfl
            simp [Y0,h1,h2,hz,O4,YL,h3,h4',this]
          |_=>cases h4
     ·simp [hz,Y0,h1]
    |_=>simp [Tt,Y0,h1,Zhm]
  ·have:Y0 (cs.map (·.1)) (.tup xs)=some "form" :=ZaF h6
   simp [this,show¬((xs.length:Int)=6)by omega]
theorem yK{cs:List (Str×Int)}{d:D}(hc:CellsOk cs)(h:Vv d):Nk [cellsD cs,d]=match Y0 (cs.map (·.1)) d with
 |none=> .ok d
 |some w=> .ex ⟨"BadProgram",[("place", .str w)]⟩:=by
 simp [Nk,aP,Zf4 hc h]
 cases Y0 (cs.map (·.1)) d<;>simp
end Bk.Pa
namespace Bk
open PySem PySem.Spec PyProof.Rows L2
end Bk
namespace Bk.Pa
open PySem PySem.Spec PyProof.Rows L2
end Bk.Pa
namespace Bk
open PySem PySem.Spec PyProof.Rows L2
def firstBad(p:Nat→D→Bool):Nat→List D→Option Nat
 |_,[]=>none
 |n,x::xs=>if p n x=true then firstBad p (n+1) xs else some n
section
variable{g:FG}{f:FS}{W:List Nat}{e:Zq}
theorem ZiH(p:Nat→D→Bool)(o:Nat→D→Out){xs:List D}(h: ∀i a,xs[i]? =some a→(∀j b,j<i→xs[j]? =some b→p j b=true)→ ∀k:FS,(TY (g (.tup [.int (i:Nat),a]) e) fun e1=>(f e1).turn W k)=if p i a=true then k e else o i a):
  Jy g f W (Wt xs) e=match firstBad p 0 xs with
   |none=> .nx e
   |some i=>o i (xs[i]?.getD .non):=by
 have go: ∀(ys:List D) (n:Nat) (pre:List D),pre.length=n→pre++ys=xs→(∀j b,j<n→xs[j]? =some b→p j b=true)→Jy g f W (ys.mapIdx fun i d=> .tup [.int ((i+n:Nat):Int),d]) e=match firstBad p n ys with
   |none=> .nx e
   |some i=>o i (xs[i]?.getD .non):=by
  intro ys
  induction ys with
  |nil=>intro n pre _ _ _;rfl
  |cons y ys ih=>
   intro n pre hl hp hg
   have hy:xs[n]? =some y:=by rw[←hp,List.getElem?_append_right (by omega),hl];simp
   have h0:=h n y hy hg
   rw[List.mapIdx_cons,Wq,Nat.zero_add,h0]
   have e1:(fun(i:Nat) (d:D)=>D.tup [.int ((i+1+n:Nat):Int),d])=fun(i:Nat) (d:D)=>D.tup [.int ((i+(n+1):Nat):Int),d]:=by
    funext i d
    rw[show i+1+n=i+(n+1)by omega]
   unfold firstBad
   cases hq:p n y with
   |true=>
    rw[if_pos rfl,if_pos rfl,e1]
    refine ih (n+1) (pre++[y]) (by rw[List.length_append,hl];rfl) (by rw[List.append_assoc];exact hp) fun j b hj hb=> ?_
    by_cases z:j=n
    ·subst z;rw[hy]at hb;cases hb;exact hq
    ·exact hg j b (by omega) hb
   |false=>
    rw[if_neg (by decide),if_neg (by decide)]
    simp [hy]
 have:=go xs 0 [] rfl rfl (fun j b hj _=>absurd hj (Nat.not_lt_zero _))
 simpa [Wt]using this
end
end Bk
namespace Bk.Bo
open PySem PySem.Spec PyProof.Rows L2
abbrev cn:List Str:=["Book"]
abbrev ff:List Str:=["cells","programs","starts","rule"]
end Bk.Bo
namespace Bk.Bo
open PySem PySem.Spec PyProof.Rows L2
open Bk.Pa
abbrev Zk3:List Str:=["thing"]
def T9:FS:=(Qg (XM (ZL Vn (Zb (fVar 0) (Zb (fC (.int 2)) Zm))) (XM (Zz Uc (Qm YS (fVar 0)) (fC (.int 2))) (XM (ZL U5 (Zb (Zz Jt (fVar 0) (fC (.int 0))) Zm)) (ZL Gv (Zb (Zz Jt (fVar 0) (fC (.int 1))) (Zb (fC (.int 1)) (Zb (fC (.int 3)) Zm))))))))
def R8:FF:=fun ds=>(T9 (ZC Zk3 ds)).fn
abbrev ZeA:List Str:=["thing","place","cell","other"]
def Xo:FS:=(ZP (Ql (Br (Yt (Zw (ZL Vn (Zb (fVar 0) (Zb (fC (.int 4)) Zm))))) (Zw (Zz Zbi (fVar 0) (QM Zm)))) (X8 "BadCells" "place" (fC .non)) ZS)
 (ZP (Oh (aN (fVar 0)) (NK 2 (QX (Zv 1) (QX (Zv 2) Bx))) (Ql (Br (Yt (Zw (ZL R8 (Zb (fVar 2) Zm)))) (Zw (Zz (gIn false) (Zz Jt (fVar 2) (fC (.int 0))) (R5 (Jg (Lk (fVar 0) Qq (JH (fVar 1)))) (Zv 3) Ux (Zz Jt (fVar 3) (fC (.int 0))) [3])))) (X8 "BadCells" "place" (fVar 1)) ZS) [2,1])
 (Qg (fVar 0))))
def Cj:FF:=fun ds=>(Xo (ZC ZeA ds)).fn
abbrev yL:List Str:=["cells","programs","program","names"]
def S7:FS:=(ZP (Oh (Jg (fVar 1)) (Zv 2) (ZhZ (ZL Nk (Zb (fVar 0) (Zb (fVar 2) Zm)))) [2])
 (ZP (Qu 3 (JX Zm))
 (ZP (Oh (Jg (fVar 1)) (Zv 2) (ZP (Ql (Zw (Zz (ZoV false) (Zz Jt (fVar 2) (fC (.int 0))) (fVar 3))) (X8 "Twice" "name" (Zz Jt (fVar 2) (fC (.int 0)))) ZS)
 (Nf 3 (Zz Jt (fVar 2) (fC (.int 0))))) [2])
 (Ql (Zw (Zz gGt (Qm YS (fVar 3)) (fC (.int 4)))) (X8 "TooMany" "most" (fC (.int 4))) ZS))))
def Pq:FF:=fun ds=>(S7 (ZC yL ds)).fn
abbrev yM:List Str:=["self","cells","starts","rule","programs"]
def S8:FI:=(Zc8 (ZL Cj (Zb (fVar 1) Zm))
 (Zc8 (ZL Pq (Zb (fVar 1) (Zb (fVar 4) Zm)))
 (Zc8 (ZL Y6 (Zb (fVar 1) (Zb (fVar 2) Zm)))
 (Zc8 (ZL Y6 (Zb (fVar 1) (Zb (fVar 3) Zm)))
 (Zh5 cn "Book" "cells" (fVar 1)
 (Zh5 cn "Book" "programs" (Qm BL (fVar 4))
 (Zh5 cn "Book" "starts" (fVar 2)
 (Zh5 cn "Book" "rule" (fVar 3) ZuB))))))))
def Bg:List D→Rs (List (Str×D)):=ZqQ S8 yM
abbrev Zk4:List Str:=["cls","cells","programs","starts","rule"]
def mQ:FS:=(Qg (ZuC "Book" 1 2 (ZoU .id) Bg (fVar 0) (Zb (fVar 1) (ZoT (fVar 2) Zm)) (Zb (fVar 3) (Zb (fVar 4) Zm))))
def tQ:FF:=fun ds=>(mQ (ZC Zk4 ds)).fn
end Bk.Bo
namespace Bk.Bo
open PySem PySem.Spec PyProof.Rows L2
open Bk.Pa
theorem Zf5{d:D}(h:V2 d 2=false):cellOf d=none:=by
 unfold cellOf
 split
 ·rename_i x v
  have:decide ((([D.str x,v].length:Nat):Int)≤2)=false:=h
  simp at this
 ·rfl
theorem ZnO{a c:D}:(cellOf (.tup [a,c])).isSome=(nameB a&&Ue c 1 3):=by
 cases a with
 |str x=>
  unfold cellOf
  dsimp only
  cases h:nameB (.str x)&&Ue c 1 3<;>simp
 |_=>rfl
theorem ZnP{xs:List D}(h:xs.length≠2):cellOf (.tup xs)=none:=by
 unfold cellOf
 split
 ·rename_i e;cases e;exact absurd rfl h
 ·rfl
theorem ZaI{d:D}(h:Vv d):R8 [d]= .ok (.bl (cellOf d).isSome):=by
 cases hr:V2 d 2 with
 |false=>simp [R8,T9,YT h,hr,Zf5 hr]
 |true=>
  obtain⟨xs,rfl,hl⟩:=U8 hr
  by_cases h2:xs.length=2
  ·obtain⟨a,b,rfl⟩:=Zhf h2
   have ha:Vv a:=QC h rfl (by simp)
   have hb:Vv b:=QC h rfl (by simp)
   rw[ZnO]
   simp [R8,T9,YT h,hr,Hu ha,OD hb]
   cases nameB a<;>simp
  ·rw[ZnP h2]
   simp [R8,T9,YT h,hr,show¬((xs.length:Int)=2)by omega]
def cV(xs:List D)(i:Nat)(a:D):Bool:=(cellOf a).isSome&& !decide (M5 (N7 a)∈(xs.take i).map fun c=>M5 (N7 c))
def Zk5:D→Option D
 | .tup xs=>if xs.length=0∨4<xs.length then some .non else(firstBad (cV xs) 0 xs).map fun i=> .int (i:Nat)
 |_=>some .non
theorem Zdi{d:D}(h:(cellOf d).isSome=true): ∃x v,d= .tup [.str x,v]:=by
 unfold cellOf at h
 split at h
 ·exact⟨_,_,rfl⟩
 ·cases h
theorem Zci{d:D}(h:Vv d):Cj [d]=match Zk5 d with
 |none=> .ok d
 |some e=> .ex ⟨"BadCells",[("place",e)]⟩:=by
 cases hr:V2 d 4 with
 |false=>
  have:Zk5 d=some .non:=by
   cases d with
   |tup xs=>
    have:=Np hr rfl
    show(if _ then _ else _)=_
    rw[if_pos (by omega)]
   |_=>rfl
  rw[this]
  simp [Cj,Xo,YT h,hr]
 |true=>
  obtain⟨xs,rfl,hl⟩:=U8 hr
  cases xs with
  |nil=>simp [Cj,Xo,YT h,hr,Zeb h,Zk5,yC]
  |cons x0 xs0=>
   generalize hx:x0::xs0=xs at h hr hl⊢
   have hn:xs.length≠0:=by rw[←hx];simp
   have hnil:yC (.tup xs)=false:=by rw[←hx];rfl
   have hit: ∀a∈xs,Vv a:=fun a ha=>QC h rfl ha
   have hb:Zk5 (.tup xs)=(firstBad (cV xs) 0 xs).map fun i=>D.int (i:Nat):=by
    show(if _ then _ else _)=_
    rw[if_neg (by omega)]
   rw[hb]
   simp [Cj,Xo,YT h,hr,Zeb h,hnil]
   rw[if_pos (sz _ (by omega)),ZiH (cV xs) (fun i a=> .ex ⟨"BadCells",[("place", .int (i:Nat))]⟩ [some (.tup xs),some (.int (i:Nat)),some a,none]) ?_]
   ·cases firstBad (cV xs) 0 xs<;>simp
   ·intro i a hi hg k
    obtain⟨hlt,hia⟩:=List.getElem?_eq_some_iff.mp hi
    have ha:Vv a:=hit a (by rw[←hia];exact List.getElem_mem hlt)
    cases hc:(cellOf a).isSome with
    |false=>
     have:cV xs i a=false:=by unfold cV;rw[hc];rfl
     rw[this]
     simp [ZaI ha,hc]
    |true=>
     obtain⟨x,v,rfl⟩:=Zdi hc
     have old: ∀b∈xs.take i,∃y w,b= .tup [.str y,w]∧PyData.strOk y=true∧y.length≤100000:=fun b hb=>by
      obtain⟨j,hj,e⟩:=List.getElem_of_mem hb
      have hj':j<i:=by rw[List.length_take]at hj;omega
      have ex:xs[j]? =some b:=by rw[List.getElem_take]at e;rw[←e];exact List.getElem?_eq_getElem _
      have:=hg j b hj' ex
      unfold cV at this
      rw[Bool.and_eq_true]at this
      obtain⟨y,w,rfl⟩:=Zdi this.1
      have hb2:Vv (.tup [.str y,w]):=hit _ (List.mem_of_mem_take hb)
      exact⟨y,w,rfl,Ul (QC hb2 rfl (by simp))⟩
     have hx:=Ul (QC ha rfl (show D.str x∈[.str x,v]by simp))
     have cp:cV xs i (.tup [.str x,v])= !decide (x∈(xs.take i).map fun c=>M5 (N7 c)):=by unfold cV;rw[hc];rfl
     rw[cp]
     simp [ZaI ha,hc,ZrS xs i (by omega)]
     rw[Ko (F:=fun c=> .str (M5 (N7 c))) (h:=fun b hb=>by obtain⟨y,w,rfl,_⟩:=old b hb;simp [Yx,N7,M5])]
     rw[show((xs.take i).map fun c=>D.str (M5 (N7 c)))=texts ((xs.take i).map fun c=>M5 (N7 c))from qC _ _]
     simp only[Bw]
     rw[Ws hx (fun y hy=>by obtain⟨b,hb,rfl⟩:=List.mem_map.mp hy;obtain⟨y,w,rfl,z⟩:=old b hb;exact z)]
     simp
def Gx:List Str→List Str→Option Str
 |_,[]=>none
 |acc,x::xs=>if x∈acc then some x else Gx (acc++[x]) xs
def Named(p:D)(x:Str):Prop:=(∃r,p= .tup (.str x::r))∧PyData.strOk x=true∧x.length≤100000
abbrev Zb7:FS:=(ZP (Ql (Zw (Zz (ZoV false) (Zz Jt (fVar 2) (fC (.int 0))) (fVar 3))) (X8 "Twice" "name" (Zz Jt (fVar 2) (fC (.int 0)))) ZS)
 (Nf 3 (Zz Jt (fVar 2) (fC (.int 0)))))
theorem ZaJ{c P:Option D}: ∀(ps:List D) (xs acc:List Str),List.length ps=xs.length→(∀(i:Nat) p x,ps[i]? =some p→xs[i]? =some x→Named p x)→(∀y∈acc,PyData.strOk y=true∧y.length≤100000)→acc.length+xs.length≤100→
  (Gx acc xs=none→Jy (Zv 2) Zb7 [2] ps [c,P,none,some (.lst (texts acc))]= .nx [c,P,none,some (.lst (texts (acc++xs)))])∧
  (∀z,Gx acc xs=some z→ ∃e',Jy (Zv 2) Zb7 [2] ps [c,P,none,some (.lst (texts acc))]= .ex ⟨"Twice",[("name", .str z)]⟩ e')
 |[],[],acc,_,_,_,_=>⟨fun _=>by rw[List.append_nil];rfl,fun z h=>(nomatch h)⟩
 |p::ps,x::xs,acc,hl,hn,ha,hb=>by
  obtain⟨⟨r,rfl⟩,hx⟩:=hn 0 p x rfl rfl
  have hin:ZoV false (.str x) (.lst (texts acc))=some (.bl (decide (x∈acc))):=by
   rw[Zd9,if_pos ⟨(Kg (k:=0) hx.1 hx.2).YF (by decide),gR ha⟩]
   simp [Tq]
  have hlen:(texts acc).length<sizeLine:=by
   rw[QL]
   have:acc.length≤100:=by omega
   exact Nat.lt_of_le_of_lt this (by decide)
  by_cases hm:x∈acc
  ·refine⟨fun h=> ?_,fun z h=> ?_⟩
   ·unfold Gx at h;rw[if_pos hm]at h;cases h
   ·unfold Gx at h;rw[if_pos hm]at h;cases h
    refine⟨[c,P,some (.tup (.str x::r)),some (.lst (texts acc))], ?_⟩
    rw[Wq]
    simp [-Zd9,hin,hm]
  ·have ih:=ZaJ (c:=c) (P:=P) ps xs (acc++[x]) (by simpa using hl) (fun i p x h1 h2=>hn (i+1) p x (by simpa using h1) (by simpa using h2)) (fun y hy=>by
    rcases List.mem_append.mp hy with hy|hy
    ·exact ha y hy
    ·rw[List.mem_singleton.mp hy];exact hx) (by rw[List.length_append];simp at hb⊢;omega)
   have st:Jy (Zv 2) Zb7 [2] (.tup (.str x::r)::ps) [c,P,none,some (.lst (texts acc))]=Jy (Zv 2) Zb7 [2] ps [c,P,none,some (.lst (texts (acc++[x])))]:=by
    have e:texts (acc++[x])=texts acc++[.str x]:=by simp [texts]
    rw[Wq,e]
    simp [-Zd9,hin,hm,hlen]
   have ft:Gx acc (x::xs)=Gx (acc++[x]) xs:=by
    show(if _ then _ else _)=_
    rw[if_neg hm]
   rw[st,ft]
   refine⟨fun h=> ?_,ih.2⟩
   rw[ih.1 h,List.append_assoc];rfl
def nmD(d:D):Str:=M5 (N7 d)
def cW(ns:List Str)(ps:List D):Option Ex:=match ps.find? (fun d=> !(Y0 ns d).isNone)with
 |some d=>some ⟨"BadProgram",[("place", .str ((Y0 ns d).getD ""))]⟩
 |none=>match Gx [] (ps.map nmD)with
  |some z=>some ⟨"Twice",[("name", .str z)]⟩
  |none=>if 4<ps.length then some ⟨"TooMany",[("most", .int 4)]⟩else none
theorem ZnQ{ns:List Str}{d:D}(h:Y0 ns d=none)(hd:Vv d):Named d (nmD d):=by
 unfold Y0 at h
 split at h
 ·rename_i name level looks whn sets marks
  split at h
  ·cases h
  ·rename_i hn
   obtain⟨z,rfl⟩:=Zdh (show nameB name=true by simpa using hn)
   exact⟨⟨_,rfl⟩,Ul (QC hd rfl (show D.str z∈[D.str z,level,looks,whn,sets,marks]by simp))⟩
 ·cases h
theorem uH{cs:List (Str×Int)}{ps:List D}(hc:CellsOk cs)(h: ∀d∈ps,Vv d)(hl:ps.length≤50):Pq [cellsD cs, .tup ps]=match cW (cs.map (·.1)) ps with
 |none=> .ok .non
 |some x=> .ex x:=by
 have l1:Jy (Zv 2) (ZhZ (ZL Nk (Zb (fVar 0) (Zb (fVar 2) Zm)))) [2] ps [some (cellsD cs),some (.tup ps),none,none]=match ps.find? (fun d=> !(Y0 (cs.map (·.1)) d).isNone)with
   |none=> .nx [some (cellsD cs),some (.tup ps),none,none]
   |some d=> .ex ⟨"BadProgram",[("place", .str ((Y0 (cs.map (·.1)) d).getD ""))]⟩ [some (cellsD cs),some (.tup ps),some d,none]:=by
  have:=ZcY (g:=Zv 2) (f:=ZhZ (ZL Nk (Zb (fVar 0) (Zb (fVar 2) Zm)))) (W:=[2]) (e:=[some (cellsD cs),some (.tup ps),none,none]) (fun d:D=>d) (fun d=>(Y0 (cs.map (·.1)) d).isNone) (fun d=> .ex ⟨"BadProgram",[("place", .str ((Y0 (cs.map (·.1)) d).getD ""))]⟩ [some (cellsD cs),some (.tup ps),some d,none]) (xs:=ps) (fun d hd k=>by
   have e:=yK hc (h d hd)
   cases hf:Y0 (cs.map (·.1)) d with
   |none=>rw[hf]at e;simp [e]
   |some w=>rw[hf]at e;simp [e])
  rw[List.map_id']at this
  refine this.trans ?_
  cases ps.find? (fun d=> !(Y0 (cs.map (·.1)) d).isNone)<;>rfl
 have hz:ps.length≤sizeLine:=sz _ (by omega)
 simp only[Pq,S7]
 unfold cW
 cases hf:ps.find? (fun d=> !(Y0 (cs.map (·.1)) d).isNone)with
 |some d=>
  rw[hf]at l1
  simp [hz,l1]
 |none=>
  rw[hf]at l1
  have nm: ∀d∈ps,Named d (nmD d):=fun d hd=>ZnQ (by
   have:=List.find?_eq_none.mp hf d hd
   simpa using this) (h d hd)
  obtain⟨t1,t2⟩:=ZaJ (c:=some (cellsD cs)) (P:=some (.tup ps)) ps (ps.map nmD) [] (by simp) (fun i p x h1 h2=>by
   rw[List.getElem?_map,h1]at h2
   cases h2
   exact nm p (List.mem_of_getElem? h1)) (fun y hy=>(nomatch hy)) (by simp;omega)
  cases ht:Gx [] (ps.map nmD)with
  |some z=>
   obtain⟨e',q⟩:=t2 z ht
   change Jy (Zv 2) Zb7 [2] ps [some (cellsD cs),some (.tup ps),none,some (.lst [])]=_ at q
   simp [hz,l1]
   rw[q]
   rfl
  |none=>
   have q:=t1 ht
   change Jy (Zv 2) Zb7 [2] ps [some (cellsD cs),some (.tup ps),none,some (.lst [])]=_ at q
   simp [hz,l1]
   rw[q]
   by_cases h4:4<ps.length
   ·simp [h4,QL]
    all_goals omega
   ·simp [h4,QL]
    all_goals omega
theorem Zf6{c:Str×Int}(h:Wn c.1)(h1:1≤c.2∧c.2≤3):cellOf (qQ c)=some c.1:=by
 unfold cellOf qQ
 dsimp only
 rw[gU h]
 simp [Ue,h1.1,h1.2]
theorem kE{p:Nat→D→Bool}: ∀{xs:List D} {n:Nat},(∀i a,xs[i]? =some a→p (i+n) a=true)→firstBad p n xs=none
 |[],_,_=>rfl
 |x::xs,n,h=>by
  unfold firstBad
  have h0:=h 0 x rfl
  rw[Nat.zero_add]at h0
  rw[if_pos h0]
  exact kE fun i a hi=>by
   have:=h (i+1) a (by simpa using hi)
   rwa[show i+1+n=i+(n+1)by omega]at this
theorem ZpT{cs:List (Str×Int)}(hc:CellsOk cs):Zk5 (cellsD cs)=none:=by
 show(if _ then _ else _)=_
 have h1:=hc.pos
 have h2:=hc.len
 rw[if_neg (by rw[List.length_map];omega),kE]
 ·rfl
 ·intro i a hi
  rw[List.getElem?_map]at hi
  cases hx:cs[i]? with
  |none=>rw[hx]at hi;cases hi
  |some c=>
   rw[hx]at hi
   cases hi
   have hm:=List.mem_of_getElem? hx
   unfold cV
   rw[Zf6 (hc.low c hm) (hc.most c hm),Nat.add_zero]
   rw[Bool.and_eq_true]
   refine⟨rfl, ?_⟩
   rw[Bool.not_eq_true',decide_eq_false_iff_not]
   intro z
   rw[←List.map_take,List.map_map]at z
   have e:((fun c=>M5 (N7 c))∘qQ:Str×Int→Str)=(·.1):=rfl
   rw[e]at z
   have nd:=hc.nd
   obtain⟨hlt,hxx⟩:=List.getElem?_eq_some_iff.mp hx
   obtain⟨j,hj,ej⟩:=List.getElem_of_mem z
   rw[List.length_map,List.length_take]at hj
   have hji:j<i:=by omega
   rw[List.getElem_map,List.getElem_take]at ej
   have hne:=List.pairwise_iff_getElem.mp nd j i (by rw[List.length_map];omega) (by rw[List.length_map];exact hlt) hji
   rw[List.getElem_map,List.getElem_map,hxx]at hne
   exact hne ej
theorem ZpU{cs:List (Str×Int)}{ps:List D}{a b:D}(hc:CellsOk cs)(h: ∀d∈ps,Vv d)(hl:ps.length≤50)(ha:Vv a)(hb:Vv b)(hcs:Vv (cellsD cs)):Bg [cellsD cs,a,b, .tup ps]=match cW (cs.map (·.1)) ps with
 |some x=> .ex x
 |none=>match Yd (cs.map (·.1)) a with
  |some e=> .ex ⟨"BadFormula",[("place",e)]⟩
  |none=>match Yd (cs.map (·.1)) b with
   |some e=> .ex ⟨"BadFormula",[("place",e)]⟩
   |none=> .ok [("cells",cellsD cs),("programs", .tup ps),("starts",a),("rule",b)]:=by
 have e1:=Zci hcs
 rw[ZpT hc]at e1
 have e2:=uH hc h hl
 have e3:=Om hc ha
 have e4:=Om hc hb
 have q1:jP ("cells" :Str) (cellsD cs) ([]:List (Str×D))=([(("cells" :Str),cellsD cs)]:List (Str×D)):=rfl
 have q2:jP ("programs" :Str) (.tup ps) [(("cells" :Str),cellsD cs)]=([(("cells" :Str),cellsD cs),(("programs" :Str), .tup ps)]:List (Str×D)):=rfl
 have q3:jP ("starts" :Str) a [(("cells" :Str),cellsD cs),(("programs" :Str), .tup ps)]=([(("cells" :Str),cellsD cs),(("programs" :Str), .tup ps),(("starts" :Str),a)]:List (Str×D)):=rfl
 have q4:jP ("rule" :Str) b [(("cells" :Str),cellsD cs),(("programs" :Str), .tup ps),(("starts" :Str),a)]=([(("cells" :Str),cellsD cs),(("programs" :Str), .tup ps),(("starts" :Str),a),(("rule" :Str),b)]:List (Str×D)):=rfl
 simp [Bg,ZqQ,S8,e1,e2,e3,e4,q1,q2,q3,q4]
 cases cW (cs.map (·.1)) ps with
 |some x=>rfl
 |none=>
  cases Yd (cs.map (·.1)) a with
  |some x=>rfl
  |none=>cases Yd (cs.map (·.1)) b<;>rfl
def ZlY(c:D)(ps:List D)(a b:D):D:= .obj "Book" [("cells",c),("programs", .tup ps),("starts",a),("rule",b)]
def Zb8(ns:List Str)(c:D)(ps:List D)(a b:D):Rs D:=match cW ns ps with
 |some x=> .ex x
 |none=>match Yd ns a with
  |some e=> .ex ⟨"BadFormula",[("place",e)]⟩
  |none=>match Yd ns b with
   |some e=> .ex ⟨"BadFormula",[("place",e)]⟩
   |none=> .ok (ZlY c ps a b)
section
variable{cs:List (Str×Int)}{ps:List D}{a b:D}
theorem Zk6(hc:CellsOk cs)(h: ∀d∈ps,Vv d)(hl:ps.length≤50)(ha:Vv a)(hb:Vv b)(hcs:Vv (cellsD cs)):((Bg [cellsD cs,a,b, .tup ps]).bind fun fs=> .ok (.obj "Book" fs))=Zb8 (cs.map (·.1)) (cellsD cs) ps a b:=by
 rw[ZpU hc h hl ha hb hcs]
 unfold Zb8
 cases cW (cs.map (·.1)) ps with
 |some x=>rfl
 |none=>
  cases Yd (cs.map (·.1)) a with
  |some x=>rfl
  |none=>cases Yd (cs.map (·.1)) b<;>rfl
theorem Zsj(hc:CellsOk cs)(h: ∀d∈ps,Vv d)(hl:ps.length≤50)(ha:Vv a)(hb:Vv b)(hcs:Vv (cellsD cs)):newF "Book" 1 2 (ZoU .id) Bg (cellsD cs::ps) [a,b]=Zb8 (cs.map (·.1)) (cellsD cs) ps a b:=by
 rw[←Zk6 hc h hl ha hb hcs]
 unfold newF
 rw[if_pos ⟨by simp,sz _ (by rw[List.length_cons];omega),rfl⟩]
 rfl
theorem of_eq{q:D}(hq:q= .tup ps∨q= .lst ps)(hc:CellsOk cs)(h: ∀d∈ps,Vv d)(hl:ps.length≤50)(ha:Vv a)(hb:Vv b)(hcs:Vv (cellsD cs)):tQ [.cls "Book",cellsD cs,q,a,b]=Zb8 (cs.map (·.1)) (cellsD cs) ps a b:=by
 have e:=Zsj hc h hl ha hb hcs
 rcases hq with rfl|rfl
 ·simp [tQ,mQ,TQ,e]
  cases Zb8 (cs.map (·.1)) (cellsD cs) ps a b<;>rfl
 ·simp [tQ,mQ,TQ,e]
  cases Zb8 (cs.map (·.1)) (cellsD cs) ps a b<;>rfl
end
end Bk.Bo
namespace Bk
open PySem PySem.Spec PyProof.Rows L2
end Bk
namespace Bk.Wv
open PySem PySem.Spec PyProof.Rows L2
open Bk.Pa
open Bk.Bo
end Bk.Wv
namespace Bk.Wv
open PySem PySem.Spec PyProof.Rows L2
open Bk.Pa Bk.Bo
abbrev Kv:=List (Key×D)
def vf(kvs:Kv)(x:Str):Int:=match dval kvs (.inr x)with
 |some (.int v)=>v
 |_=>0
def KOk(kvs:Kv)(ns:List Str):Prop:= ∀x∈ns,∃v:Int,dval kvs (.inr x)=some (.int v)∧0≤v∧v≤3
theorem KOk.val{kvs:Kv}{ns:List Str}(h:KOk kvs ns){x:Str}(hx:x∈ns):dval kvs (.inr x)=some (.int (vf kvs x))∧0≤vf kvs x∧vf kvs x≤3:=by
 obtain⟨v,h1,h2,h3⟩:=h x hx
 have e:vf kvs x=v:=by unfold vf;rw[h1]
 rw[e];exact⟨h1,h2,h3⟩
theorem KOk.sub{kvs:Kv}{ns ms:List Str}(h:KOk kvs ns)(hs: ∀x∈ms,x∈ns):KOk kvs ms:=fun x hx=>h x (hs x hx)
@[simp] theorem ZvL {α:Type} (f:α→Int) (xs:List α):Zkw (xs.map fun a=>D.int (f a))=some (xs.map f):=by
  induction xs with
  |nil=>rfl
  |cons a r ih=>rw[List.map_cons,Zkw,ih];rfl
@[simp] theorem ZAg:PyData.strOk (Str.ofString "=")=true:=by decide+kernel
@[simp] theorem Zyo:((Str.ofString "=" =Str.ofString "!="):Prop)=False:=eq_false (by decide+kernel)
@[simp] theorem Zyp:((Str.ofString "=" =Str.ofString "<"):Prop)=False:=eq_false (by decide+kernel)
@[simp] theorem Zyq:((Str.ofString "=" =Str.ofString "<="):Prop)=False:=eq_false (by decide+kernel)
@[simp] theorem Zyr:((Str.ofString "=" =Str.ofString ">"):Prop)=False:=eq_false (by decide+kernel)
@[simp] theorem Zys:((Str.ofString "=" =Str.ofString ">="):Prop)=False:=eq_false (by decide+kernel)
@[simp] theorem ZAh:PyData.strOk (Str.ofString "!=")=true:=by decide+kernel
@[simp] theorem Zyt:((Str.ofString "!=" =Str.ofString "="):Prop)=False:=eq_false (by decide+kernel)
@[simp] theorem Zyu:((Str.ofString "!=" =Str.ofString "<"):Prop)=False:=eq_false (by decide+kernel)
@[simp] theorem Zyv:((Str.ofString "!=" =Str.ofString "<="):Prop)=False:=eq_false (by decide+kernel)
@[simp] theorem Zyw:((Str.ofString "!=" =Str.ofString ">"):Prop)=False:=eq_false (by decide+kernel)
@[simp] theorem Zyx:((Str.ofString "!=" =Str.ofString ">="):Prop)=False:=eq_false (by decide+kernel)
@[simp] theorem ZAi:PyData.strOk (Str.ofString "<")=true:=by decide+kernel
@[simp] theorem Zyy:((Str.ofString "<" =Str.ofString "="):Prop)=False:=eq_false (by decide+kernel)
@[simp] theorem Zyz:((Str.ofString "<" =Str.ofString "!="):Prop)=False:=eq_false (by decide+kernel)
@[simp] theorem ZyA:((Str.ofString "<" =Str.ofString "<="):Prop)=False:=eq_false (by decide+kernel)
@[simp] theorem ZyB:((Str.ofString "<" =Str.ofString ">"):Prop)=False:=eq_false (by decide+kernel)
@[simp] theorem ZyC:((Str.ofString "<" =Str.ofString ">="):Prop)=False:=eq_false (by decide+kernel)
@[simp] theorem ZAj:PyData.strOk (Str.ofString "<=")=true:=by decide+kernel
@[simp] theorem ZyD:((Str.ofString "<=" =Str.ofString "="):Prop)=False:=eq_false (by decide+kernel)
@[simp] theorem ZyE:((Str.ofString "<=" =Str.ofString "!="):Prop)=False:=eq_false (by decide+kernel)
@[simp] theorem ZyF:((Str.ofString "<=" =Str.ofString "<"):Prop)=False:=eq_false (by decide+kernel)
@[simp] theorem ZyG:((Str.ofString "<=" =Str.ofString ">"):Prop)=False:=eq_false (by decide+kernel)
@[simp] theorem ZyH:((Str.ofString "<=" =Str.ofString ">="):Prop)=False:=eq_false (by decide+kernel)
@[simp] theorem ZAk:PyData.strOk (Str.ofString ">")=true:=by decide+kernel
@[simp] theorem ZyI:((Str.ofString ">" =Str.ofString "="):Prop)=False:=eq_false (by decide+kernel)
@[simp] theorem ZyJ:((Str.ofString ">" =Str.ofString "!="):Prop)=False:=eq_false (by decide+kernel)
@[simp] theorem ZyK:((Str.ofString ">" =Str.ofString "<"):Prop)=False:=eq_false (by decide+kernel)
@[simp] theorem ZyL:((Str.ofString ">" =Str.ofString "<="):Prop)=False:=eq_false (by decide+kernel)
@[simp] theorem ZyM:((Str.ofString ">" =Str.ofString ">="):Prop)=False:=eq_false (by decide+kernel)
@[simp] theorem ZAl:PyData.strOk (Str.ofString ">=")=true:=by decide+kernel
@[simp] theorem ZyN:((Str.ofString ">=" =Str.ofString "="):Prop)=False:=eq_false (by decide+kernel)
@[simp] theorem ZyO:((Str.ofString ">=" =Str.ofString "!="):Prop)=False:=eq_false (by decide+kernel)
@[simp] theorem ZyP:((Str.ofString ">=" =Str.ofString "<"):Prop)=False:=eq_false (by decide+kernel)
@[simp] theorem ZyQ:((Str.ofString ">=" =Str.ofString "<="):Prop)=False:=eq_false (by decide+kernel)
@[simp] theorem ZyR:((Str.ofString ">=" =Str.ofString ">"):Prop)=False:=eq_false (by decide+kernel)
@[simp] theorem Zza:gIn false (.str (Str.ofString "=")) (.tup [.str (Str.ofString "<"), .str (Str.ofString "<=")])=some (.bl false):=by kernel_rfl
@[simp] theorem Zzb:gIn false (.str (Str.ofString "!=")) (.tup [.str (Str.ofString "<"), .str (Str.ofString "<=")])=some (.bl false):=by kernel_rfl
@[simp] theorem Zzc:gIn false (.str (Str.ofString "<")) (.tup [.str (Str.ofString "<"), .str (Str.ofString "<=")])=some (.bl true):=by kernel_rfl
@[simp] theorem Zzd:gIn false (.str (Str.ofString "<=")) (.tup [.str (Str.ofString "<"), .str (Str.ofString "<=")])=some (.bl true):=by kernel_rfl
@[simp] theorem Zze:gIn false (.str (Str.ofString ">")) (.tup [.str (Str.ofString "<"), .str (Str.ofString "<=")])=some (.bl false):=by kernel_rfl
@[simp] theorem Zzf:gIn false (.str (Str.ofString ">=")) (.tup [.str (Str.ofString "<"), .str (Str.ofString "<=")])=some (.bl false):=by kernel_rfl
def Q9(st:List Int):D:= .tup (st.map .int)
end Bk.Wv
namespace Bk
open PySem PySem.Spec PyProof.Rows L2
end Bk
namespace Bk.Wv
open PySem PySem.Spec PyProof.Rows L2
open Bk.Pa Bk.Bo
@[simp] theorem ZwR {α β:Type} (f:α→D) (g:β→D) (xs:List α) (ys:List β):Zkr (xs.map f) (ys.map g)=(xs.zip ys).map fun p=> .tup [f p.1,g p.2]:=by
  unfold Zkr
  rw[List.zip_map,List.map_map];rfl
@[simp] theorem Znw (xs:List D):ZhU (.tup xs)=some xs:=rfl
@[simp] theorem Znv (xs:List D):ZhU (.lst xs)=some xs:=rfl
@[simp] theorem ZtW (xs ys:List D):Zrg (some xs) (some ys)=if xs.length≤sizeLine then .ok (Zkr xs ys)else .no:=rfl
end Bk.Wv
namespace Bk.Wv
open PySem PySem.Spec PyProof.Rows L2
open Bk.Pa Bk.Bo
end Bk.Wv
namespace Bk.Wv
open PySem PySem.Spec PyProof.Rows L2
open Bk.Pa Bk.Bo
@[simp] theorem ZpB (xs:List D) (i:Int):Jt (.tup xs) (.int i)=atI xs i:=rfl
@[simp] theorem ZpA (xs:List D) (i:Int):Jt (.lst xs) (.int i)=atI xs i:=rfl
theorem ZiI{α:Type}{xs:List α}{n:Nat}{a:α}(h:xs[n]? =some a):atI xs (n:Int)=some a:=by
 obtain⟨h1,h2⟩:=List.getElem?_eq_some_iff.mp h
 rw[atI_nat h1,h]
end Bk.Wv
namespace Bk.Wv
open PySem PySem.Spec PyProof.Rows L2
open Bk.Pa Bk.Bo
def wrL(p:Prog):List Str:=p.sets.map (·.1)++p.marks
def wr(ns:List Str)(p:Prog):List Str:=ns.filter fun x=>decide (x∈wrL p)
def bkD(cs:List (Str×Int))(ps:List Prog)(a b:D):D:=ZlY (ZrJ cs) (ps.map Zqw) a b
@[simp] theorem ZtX (cs:List (Str×Int)) (ps:List Prog) (a b:D):Zet cn "cells" (bkD cs ps a b)=some (cellsD cs):=rfl
@[simp] theorem ZtY (cs:List (Str×Int)) (ps:List Prog) (a b:D):Zet cn "programs" (bkD cs ps a b)=some (.tup (ps.map Zqw)):=rfl
@[simp] theorem Zs7 (cs:List (Str×Int)) (ps:List Prog) (a b:D):Zet cn "starts" (bkD cs ps a b)=some a:=rfl
@[simp] theorem ZvM (cs:List (Str×Int)) (ps:List Prog) (a b:D):Zet cn "rule" (bkD cs ps a b)=some b:=rfl
@[simp] theorem ZyS (m:Str) (cs:List (Str×Int)) (ps:List Prog) (a b:D) (h:(m=="cells" ||(m=="programs" ||(m=="starts" ||m=="rule")))=false):ZtH cn m (bkD cs ps a b)=true:=by
  simp only[Bool.or_eq_false_iff]at h
  obtain⟨h1,h2,h3,h4⟩:=h
  show(decide (Str.ofString "Book" ∈cn)&&(List.lookup m _).isNone)=true
  simp [ZlY,List.lookup,h1,h2,h3,h4,cn]
def intOf:D→Int
 | .int i=>i
 |_=>0
theorem zM(xs:List D)(k:Nat):cutD xs (some (k:Int)) none=xs.drop k:=by
 unfold cutD
 rw[HT.sIx_nat,HT.sIx_none]
 by_cases h:k≤xs.length
 ·rw[Nat.min_eq_left h,List.take_of_length_le (by rw[List.length_drop];omega)]
 ·rw[Nat.min_eq_right (by omega),List.drop_eq_nil_of_le (Nat.le_refl _),List.drop_eq_nil_of_le (by omega)];simp
theorem ZpV(xs:List D)(k:Nat):cutD xs none (some (k:Int))=xs.take k:=by
 unfold cutD
 rw[HT.sIx_nat,HT.sIx_none]
 by_cases h:k≤xs.length
 ·rw[Nat.min_eq_left h];simp
 ·rw[Nat.min_eq_right (by omega)];simp;rw[List.take_of_length_le (by omega)]
@[simp] theorem ZtZ (xs:List D):cutD xs (some 1) none=xs.drop 1:=zM xs 1
@[simp] theorem ZpC (xs:List D) (a b:Option Int):gSl (.tup xs) a b=some (.tup (cutD xs a b)):=rfl
@[simp] theorem ZpD (xs:List D) (a b:Option Int):gSl (.lst xs) a b=some (.lst (cutD xs a b)):=rfl
@[simp] theorem Znt (xs:List D):YS (.tup xs)=some (.int (xs.length:Nat)):=rfl
@[simp] theorem Zfi (xs:List D):YS (.lst xs)=some (.int (xs.length:Nat)):=rfl
@[simp] theorem ZvN (b:Bool) {α:Type} (f:α→Bool) (xs:List α):w6 b (.lst (xs.map fun a=>D.bl (f a)))=some (.bl (if b=true then xs.any f else xs.all f)):=by
  show(bls (xs.map fun a=>D.bl (f a))).map _=_
  rw[ZjV]
  cases b
  ·simp only[Bool.false_eq_true,if_false,Option.map_some,List.all_map];rfl
  ·simp only[if_true,Option.map_some,List.any_map];rfl
end Bk.Wv
namespace Bk.Wv
open PySem PySem.Spec PyProof.Rows L2
open Bk.Pa Bk.Bo
end Bk.Wv
namespace Bk.Wv
open PySem PySem.Spec PyProof.Rows L2
open Bk.Pa Bk.Bo
end Bk.Wv
namespace Bk.Wv
open PySem PySem.Spec PyProof.Rows L2
open Bk.Pa Bk.Bo
theorem Zsm{n:Nat}(h:n≤200000):n<sizeLine:=Nat.lt_of_lt_of_le (Nat.lt_succ_of_le h) (sz _ (by omega))
def stOf:D→List Int
 | .tup xs=>xs.map intOf
 |_=>[]
@[simp] theorem Zs8 (st:List Int):stOf (Q9 st)=st:=by
  show(st.map D.int).map intOf=st
  rw[List.map_map]
  have:(intOf∘D.int)=id:=rfl
  rw[this,List.map_id]
def optN:Option Nat→D
 |some k=> .int k
 |none=> .non
end Bk.Wv
namespace Bk.Wv
open PySem PySem.Spec PyProof.Rows L2
open Bk.Pa Bk.Bo
theorem Zfr{b i:Int}{n:Nat}(h1: -999≤i)(h2:i≤999)(hb:10^30≤b):Th b n 20 (.int i):=by
 refine⟨?_, ?_, ?_⟩
 ·rw[D.good,decide_eq_true (show-b≤i by omega),decide_eq_true (show i≤b by omega)];rfl
 ·rw[D.py,PyData.depth];exact Nat.zero_le _
 ·rw[D.py,PyData.weight]
  split
  ·omega
  ·have:i.natAbs.log2<10:=log2_lt (Nat.lt_of_le_of_lt (show i.natAbs≤999 by omega) (by decide)) (by decide)
   omega
theorem ZqY{x:Str}{n:Nat}(h:Cu x):Th (10^30) n 64 (.str x):=(yr h.1).mono (Int.le_refl _) (Nat.le_refl _) h.2
theorem ZnR{ns:List Str}{ts:List Term}(hns:namesOk ns)(h:cP ns ts):Th (10^30) 2 348 (JC ts):=by
 have a: ∀x∈ts.map J9,Th (10^30) 1 86 x:=fun x hx=>by
  obtain⟨t,htm,rfl⟩:=List.mem_map.mp hx
  obtain⟨h1,h2⟩:=h.all t htm
  exact(G9.mpr (YQ (Zfr (n:=0) (by omega) (by omega) (Int.le_refl _)) (YQ (ZqY (hns.1 _ h2)) Lh))).mono (Int.le_refl _) (Nat.le_refl _) (by omega)
 refine(G9.mpr (xq a)).mono (Int.le_refl _) (Nat.le_refl _) ?_
 have:=h.len
 have:=hns.2
 rw[List.length_map];omega
theorem ZpW{ns:List Str}{t:Test}(hns:namesOk ns)(h:RQ ns t):Th (10^30) 3 440 (Yb t):=
 (G9.mpr (YQ (ZnR hns h.terms) (YQ (ZqY (n:=2) (Zpp _ h.op)) (YQ (Zfr (n:=2) (by have:=h.num;omega) (by have:=h.num;omega) (Int.le_refl _)) Lh)))).mono (Int.le_refl _) (Nat.le_refl _) (by omega)
theorem ZpX{ns:List Str}{f:List (List Test)}(hns:namesOk ns)(h:Kh ns f):Th (10^30) 5 7060 (QF f):=by
 have tc: ∀c∈f.map Jp,Th (10^30) 4 1764 c:=fun c hc=>by
  obtain⟨z,hz,rfl⟩:=List.mem_map.mp hc
  obtain⟨h1,h2⟩:=h.cases z hz
  have a: ∀x∈z.map Yb,Th (10^30) 3 440 x:=fun x hx=>by
   obtain⟨t,htm,rfl⟩:=List.mem_map.mp hx
   exact ZpW hns (h2 t htm)
  refine(G9.mpr (xq a)).mono (Int.le_refl _) (Nat.le_refl _) ?_
  rw[List.length_map];omega
 refine(G9.mpr (xq tc)).mono (Int.le_refl _) (Nat.le_refl _) ?_
 have:=h.len
 rw[List.length_map];omega
theorem LR: ∀{zs ns:List Str},zs.Sublist ns→ns.Nodup→ns.filter (fun n=>decide (n∈zs))=zs
 |_,_, .slnil,_=>rfl
 |zs,_, .cons a (l₂:=l) h,hn=>by
  rw[List.nodup_cons]at hn
  rw[List.filter_cons,if_neg (by rw[decide_eq_true_eq];exact fun z=>hn.1 (h.subset z))]
  exact LR h hn.2
 |_,_, .cons₂ a (l₁:=zs) (l₂:=l) h,hn=>by
  rw[List.nodup_cons]at hn
  rw[List.filter_cons,if_pos (by simp)]
  have e:l.filter (fun n=>decide (n∈a::zs))=l.filter (fun n=>decide (n∈zs)):=by
   refine List.filter_congr fun x hx=> ?_
   have: ¬x=a:=fun z=>hn.1 (z▸hx)
   simp [this]
  rw[e,LR h hn.2]
theorem Oz{ns zs:List Str}(h:zs.Sublist ns)(hn:ns.Nodup):Lf ns (texts zs)=true:=by
 unfold Lf
 rw[Xy]
 exact decide_eq_true (LR h hn)
theorem z7{ns kn:List Str}{ts:List Term}(hk:kn.Sublist ns)(hn:ns.Nodup)(h4:ns.length≤4)(h:cP kn ts):Ug ns (JC ts)=true:=by
 show(decide ((ts.map J9).length≤4)&&((ts.map J9).all BJ&&Lf ns ((ts.map J9).map T7)))=true
 have e:(ts.map J9).map T7=texts (ts.map (·.2)):=by rw[List.map_map,texts,List.map_map];rfl
 rw[e,Oz (h.sub.trans hk) hn,decide_eq_true (by rw[List.length_map];have:=h.len;have:=hk.length_le;omega),Bool.true_and,Bool.and_true,List.all_map,List.all_eq_true]
 intro t ht
 show((decide (-9≤t.1)&&decide (t.1≤9))&& !decide (t.1=0))=true
 rw[decide_eq_true (h.all t ht).1.1,decide_eq_true (h.all t ht).1.2,decide_eq_false (h.nz t ht)];rfl
theorem Zec{ns kn:List Str}{t:Test}(hk:kn.Sublist ns)(hn:ns.Nodup)(h4:ns.length≤4)(h:RQ kn t):Vc ns (Yb t)=true:=by
 show(Ug ns (JC t.1)&&(opB (.str t.2.1)&&Ue (.int t.2.2) (-99) 99))=true
 have ho:opB (.str t.2.1)=true:=decide_eq_true h.op
 have ha:Ue (.int t.2.2) (-99) 99=true:=by rw[Ue,Bool.and_eq_true,decide_eq_true_eq,decide_eq_true_eq];exact h.num
 rw[z7 hk hn h4 h.terms,ho,ha];rfl
theorem Zj1{ns kn:List Str}{f:List (List Test)}(hk:kn.Sublist ns)(hn:ns.Nodup)(h4:ns.length≤4)(h:Kh kn f):Yd ns (QF f)=none:=by
 show(if 4<(f.map Jp).length then _ else _)=none
 have h1:(f.map Jp).findIdx? (fun c=> !V2 c 4)=none:=by
  rw[List.findIdx?_eq_none_iff]
  intro x hx
  obtain⟨c,hc,rfl⟩:=List.mem_map.mp hx
  have:V2 (Jp c) 4=true:=decide_eq_true (by rw[List.length_map];have:=(h.cases c hc).1;omega)
  rw[this];rfl
 have h2:(f.map Jp).findIdx? (Uu ns)=none:=by
  rw[List.findIdx?_eq_none_iff]
  intro x hx
  obtain⟨c,hc,rfl⟩:=List.mem_map.mp hx
  show((c.map Yb).any fun t=> !Vc ns t)=false
  rw[List.any_map,List.any_eq_false]
  intro t ht
  show¬(!Vc ns (Yb t))=true
  rw[Zec hk hn h4 ((h.cases c hc).2 t ht)];decide
 rw[if_neg (by rw[List.length_map];have:=h.len;omega),h1,h2]
theorem Zsn{d:D}{n w:Nat}(h:Th (10^30) n w d)(hn:n≤40)(hw:w≤100000):Vv d:=⟨_,_,_,h,by decide,hn,hw⟩
end Bk.Wv
namespace Bk.Wv
open PySem PySem.Spec PyProof.Rows L2
open Bk.Pa Bk.Bo
def Zhn(acc:List (List Int))(c:Str×Int):List (List Int):=acc.flatMap fun s=>(List.range (c.2.toNat+1)).map fun(v:Nat)=>s++[(v:Int)]
theorem ZnS{v:Nat}(h:v≤1000):ZhY [.int ((v:Int)+1)]= .ok ((List.range (v+1)).map fun k:Nat=>D.int k):=by
 have b3:((v:Int)+1).toNat≤sizeLine:=sz _ (by omega)
 have e:((v:Int)+1).toNat=v+1:=by omega
 rw[ZjO]
 split
 ·rw[e,sV]
 ·rename_i hn
  exact(hn ⟨by omega,by omega,b3⟩).elim
theorem ZiJ{s:List Int}(h:s.length≤4)(v:Int):Z9 (Q9 s) (.tup [.int v])=some (Q9 (s++[v])):=by
 have hl:(s.map D.int).length+[D.int v].length≤sizeLine:=sz _ (by rw[List.length_map];show s.length+1≤_;omega)
 show(if(s.map D.int).length+[D.int v].length≤sizeLine then some (D.tup (s.map D.int++[D.int v]))else none)=_
 rw[if_pos hl]
 unfold Q9
 rw[List.map_append];rfl
abbrev Zh7:FS:=Nf 4 (Zz Z9 (fVar 5) (QM (Zb (fVar 6) Zm)))
theorem Zj2(e0 e1 e2 e3:Option D){s:List Int}(hs:s.length≤4): ∀(vs:List Nat) (l:List (List Int)),l.length+vs.length≤100000→Jy (Zv 6) Zh7 [6] (vs.map fun k:Nat=>D.int k) [e0,e1,e2,e3,some (.lst (l.map Q9)),some (Q9 s),none]= .nx [e0,e1,e2,e3,some (.lst ((l++vs.map fun(v:Nat)=>s++[(v:Int)]).map Q9)),some (Q9 s),none]
 |[],l,_=>by simp
 |v::vs,l,hl=>by
  rw[List.length_cons]at hl
  have hlen:(l.map Q9).length<sizeLine:=by rw[List.length_map];exact Zsm (by omega)
  have ih:=Zj2 e0 e1 e2 e3 hs vs (l++[s++[(v:Int)]]) (by rw[List.length_append,List.length_singleton];omega)
  rw[List.map_cons,Wq]
  have st:(TY (Zv 6 (.int (v:Int)) [e0,e1,e2,e3,some (.lst (l.map Q9)),some (Q9 s),none]) fun e=>(Zh7 e).turn [6] (Jy (Zv 6) Zh7 [6] (vs.map fun k:Nat=>D.int k)))=Jy (Zv 6) Zh7 [6] (vs.map fun k:Nat=>D.int k) [e0,e1,e2,e3,some (.lst (l.map Q9++[Q9 (s++[(v:Int)])])),some (Q9 s),none]:=by
   simp only[Zv,TY,Zh7,Nf,Zz,fVar,QM,Zb,Zm,nth_succ,zU,fZ,fY,Hq,Bw,ZcV,atL,ZiJ hs,if_pos hlen]
   rfl
  rw[st]
  have e:l.map Q9++[Q9 (s++[(v:Int)])]=(l++[s++[(v:Int)]]).map Q9:=by rw[List.map_append];rfl
  rw[e,ih,List.append_assoc];rfl
theorem Zfs{r:FA}{e:Zq}{ds:List D}{x:Rs (List D)}(h1:r e= .ok ds)(h2:ZhY ds=x):Ag r e=x:=by
 unfold Ag
 rw[h1];exact h2
theorem Zj3{i:Zq→Rs (List D)}{g:FG}{f:FS}{W:List Nat}{e:Zq}{ds:List D}(h:i e= .ok ds):Oh i g f W e=Jy g f W ds e:=by
 unfold Oh
 rw[h];rfl
theorem Zft{f:FS}(e0 e1 e2 e3:Option D)(F:List Int→List (List Int))(hf: ∀(s:List Int) (l:List (List Int)),s.length≤4→l.length≤5000→f [e0,e1,e2,e3,some (.lst (l.map Q9)),some (Q9 s),none]= .nx [e0,e1,e2,e3,some (.lst ((l++F s).map Q9)),some (Q9 s),none])(hF: ∀s,(F s).length≤4): ∀(ss l:List (List Int)),(∀s∈ss,s.length≤4)→l.length+4*ss.length≤5000→Jy (Zv 5) f [5,6] (ss.map Q9) [e0,e1,e2,e3,some (.lst (l.map Q9)),none,none]= .nx [e0,e1,e2,e3,some (.lst ((l++ss.flatMap F).map Q9)),none,none]
 |[],l,_,_=>by simp
 |s::ss,l,h4,hl=>by
  rw[List.length_cons]at hl
  have hs:=h4 s List.mem_cons_self
  have hF1:=hF s
  have ih:=Zft e0 e1 e2 e3 F hf hF ss (l++F s) (fun s hs=>h4 s (List.mem_cons_of_mem _ hs)) (by rw[List.length_append];omega)
  have em:=hf s l hs (by omega)
  rw[List.map_cons,Wq]
  simp only[Zv,TY,fZ,fY,em]
  rw[List.flatMap_cons,←List.append_assoc,←ih]
  rfl
abbrev ZlZ:FS:=Oh (Ag (Zb (Zz Z9 (fVar 3) (fC (.int 1))) Zm)) (Zv 6) Zh7 [6]
theorem Zso(e0 e1 e2:Option D){v:Nat}(hv:v≤3)(s:List Int)(l:List (List Int))(hs:s.length≤4)(hl:l.length≤5000):ZlZ [e0,e1,e2,some (.int (v:Int)),some (.lst (l.map Q9)),some (Q9 s),none]= .nx [e0,e1,e2,some (.int (v:Int)),some (.lst ((l++(List.range (v+1)).map fun(v:Nat)=>s++[(v:Int)]).map Q9)),some (Q9 s),none]:=by
 have Zxi:=ZnS (v:=v) (by omega)
 have li:=Zj2 e0 e1 e2 (some (.int (v:Int))) hs (List.range (v+1)) l (by rw[List.length_range];omega)
 have a1:(Zb (Zz Z9 (fVar 3) (fC (.int 1))) Zm) [e0,e1,e2,some (.int (v:Int)),some (.lst (l.map Q9)),some (Q9 s),none]= .ok [.int ((v:Int)+1)]:=rfl
 exact(Zj3 (Zfs a1 Zxi)).trans li
abbrev Zh8(f:FS):FS:=(ZP (Qu 4 (JX Zm))
 (ZP (Oh (Jg (Qm wA (fVar 1))) (Zv 5) f [5,6])
 (Zh0 4 (Qu 1 (fVar 4)))))
theorem ZnT{f:FS}(e0 e2 e3:Option D)(F:List Int→List (List Int)){acc:List (List Int)}(hf: ∀(e1:Option D) (s:List Int) (l:List (List Int)),s.length≤4→l.length≤5000→f [e0,e1,e2,e3,some (.lst (l.map Q9)),some (Q9 s),none]= .nx [e0,e1,e2,e3,some (.lst ((l++F s).map Q9)),some (Q9 s),none])(hF: ∀s,(F s).length≤4)(h4: ∀s∈acc,s.length≤4)(hl:acc.length≤1000):Zh8 f [e0,some (.lst (acc.map Q9)),e2,e3,none,none,none]= .nx [e0,some (.lst ((acc.flatMap F).map Q9)),e2,e3,none,none,none]:=by
 have lm:=Zft e0 (some (.lst (acc.map Q9))) e2 e3 F (hf _) hF acc [] h4 (by rw[List.length_nil];omega)
 rw[List.map_nil,List.nil_append]at lm
 have g1:wA (.lst (acc.map Q9))=some (.lst (acc.map Q9)):=rfl
 have i1:itF (.lst (acc.map Q9))= .ok (acc.map Q9):=rfl
 simp only[Zh8,ZP,Qu,JX,Zm,Bw,ZcV,fZ,fY,ZjP,Oh,Jg,Qm,fVar,nth_succ,zU,Hq,g1,i1,lm]
 rfl
theorem ZpY(e0 e2:Option D){v:Nat}(hv:v≤3){acc:List (List Int)}(h4: ∀s∈acc,s.length≤4)(hl:acc.length≤1000):Zh8 ZlZ [e0,some (.lst (acc.map Q9)),e2,some (.int (v:Int)),none,none,none]= .nx [e0,some (.lst ((acc.flatMap fun s=>(List.range (v+1)).map fun(v:Nat)=>s++[(v:Int)]).map Q9)),e2,some (.int (v:Int)),none,none,none]:=
 ZnT e0 e2 (some (.int (v:Int))) _ (fun e1 s l h1 h2=>Zso e0 e1 e2 hv s l h1 h2) (fun s=>by rw[List.length_map,List.length_range];omega) h4 hl
theorem Zed(e0:Option D)(e2:Option D)(c:Str×Int)(acc:List (List Int))(h1:1≤c.2)(h3:c.2≤3)(h4: ∀s∈acc,s.length≤4)(hl:acc.length≤1000):Zh8 ZlZ [e0,some (.lst (acc.map Q9)),e2,some (.int c.2),none,none,none]= .nx [e0,some (.lst ((Zhn acc c).map Q9)),e2,some (.int c.2),none,none,none]:=by
 obtain⟨v,hv⟩: ∃v:Nat,c.2=(v:Int):=⟨c.2.toNat,by omega⟩
 have e:Zhn acc c=acc.flatMap fun s=>(List.range (v+1)).map fun(v:Nat)=>s++[(v:Int)]:=by unfold Zhn;rw[hv];rfl
 rw[e,hv]
 exact ZpY e0 e2 (by omega) h4 hl
theorem xK{f g:FS}{e e1:Zq}(h:f e= .nx e1):ZP f g e=g e1:=by
 unfold ZP
 rw[h];rfl
end Bk.Wv
namespace Bk
open PySem PySem.Spec PyProof.Rows L2
section
variable{p:Addr}{c c1 c2:Nat}{P:Out→Prop}{e e1:Zq}{f g h:MS}
theorem wG{k:FS}(he:k e= .nx e1)(h:Sp p c (g e1) P):Sp p c (Je (mS k) g e) P:=by
 unfold Je mS
 rw[Eo,he];exact h
theorem Zdj{i:Nat}{a:MX}{Q:D→Prop}(h:Sp p c1 (a e) Q)(k: ∀d,Q d→Sp p c2 (g (Jh e i (some d))) P)(hc:c1+c2≤c:=by omega):Sp p c (Je (M4 i a) g e) P:=by
 unfold Je M4
 rw[JW]
 exact Ve h (fun d hd=>k d hd) hc
theorem Zsp{t:Dt Out}{Q:D→Prop}(h:Sp p c t fun o=> ∃d,o= .rt d∧Q d):Sp p c (mfn t) Q:=by
 unfold mfn
 exact Ve (c2:=0) h (fun o ho=>by obtain⟨d,rfl,q⟩:=ho;exact U6 q) (by omega)
theorem Zsq{t:MT}{a b:MS}{Q:Bool→Prop}(h:Sp p c1 (t e) Q)(k: ∀z,Q z→Sp p c2 ((if z=true then a e else b e).bind fun o=>o.ZlV g) P)(hc:c1+c2≤c:=by omega):Sp p c (Je (Zdb t a b) g e) P:=by
 unfold Je Zdb
 rw[JW]
 exact Ve h k hc
theorem Zj4{t:MT}{a:MS}{Q:Bool→Prop}(h:Sp p c1 (t e) Q)(k1:Q true→Sp p c2 ((a e).bind fun o=>o.ZlV g) P)(k2:Q false→Sp p c2 (g e) P)(hc:c1+c2≤c:=by omega):Sp p c (Je (Zdb t a (mS ZS)) g e) P:=by
 refine Zsq h (fun z hz=> ?_) hc
 cases z with
 |true=>exact k1 hz
 |false=>exact k2 hz
theorem ZpZ{v:Nat}(h:v≤1000):ZhY [.int (v:Int)]= .ok ((List.range v).map fun k:Nat=>D.int k):=by
 have b3:((v:Int)).toNat≤sizeLine:=sz _ (by omega)
 have e:((v:Int)).toNat=v:=by omega
 rw[ZjO]
 split
 ·rw[e,sV]
 ·rename_i hn
  exact(hn ⟨by omega,by omega,b3⟩).elim
end
end Bk
namespace Bk.Wv
open PySem PySem.Spec PyProof.Rows L2
open Bk.Pa Bk.Bo
end Bk.Wv
namespace Bk.Wv
open PySem PySem.Spec PyProof.Rows L2
open Bk.Pa Bk.Bo
theorem Zp0{p:Addr}{ns:List Str}(hns:namesOk ns):Sp p 165 (Uz [.rf (.ref p), .lst (texts ns)]) (fun d=> ∃f,d=QF f∧Kh ns f):=
 xH (ZqX (c:=165) ⟨ns,rfl,hns⟩) (fun d hd=>by
  obtain⟨ns',f,e,rfl,hf⟩:=hd
  have:=fL (D.lst.inj (List.cons.inj e).1)
  subst this
  exact⟨f,rfl,hf⟩) (Nat.le_refl _)
end Bk.Wv
namespace Bk.Wv
open PySem PySem.Spec PyProof.Rows L2
open Bk.Pa Bk.Bo
end Bk.Wv
namespace Bk.Wv
open PySem PySem.Spec PyProof.Rows L2
open Bk.Pa Bk.Bo
end Bk.Wv
namespace Bk.Wv
open PySem PySem.Spec PyProof.Rows L2
open Bk.Pa Bk.Bo
end Bk.Wv
namespace Bk
open PySem PySem.Spec PyProof.Rows L2
theorem Zfu{d:D}(h:d.YF=true):d.eqb d=true:=by
 unfold D.eqb
 exact SeqAt.eqv_refl _ (SeqAt.canLay_of_shaped (Yk h).2)
theorem Zfv{d:D}(h:d.YF=true):Uc d d=some (.bl true):=by
 unfold Uc
 rw[if_pos ⟨h,h⟩,Zfu h]
theorem Zfw{d:D}(h:d.YF=true):Wo d d=some (.bl false):=by
 unfold Wo
 rw[if_pos ⟨h,h⟩,Zfu h];rfl
end Bk
namespace Bk
open PySem PySem.Spec PyProof.Rows L2
end Bk
namespace Bk
open PySem PySem.Spec PyProof.Rows L2 PySem.W
end Bk
namespace Bk
open PySem PySem.Spec PyProof.Rows L2 PySem.W
section
variable{X:Cx}{T:Tb}{W:WX}{a b:Expr}{fa fb:Exp}{pos p apos cpos:Pos}
def keyV:Key→D
 | .inl i=> .int i
 | .inr x=> .str x
def ZuG(kvs:List (Key×D)):List D:=kvs.map fun q=> .tup [keyV q.1,q.2]
end
@[simp] def Zzg (r:FA) (e:Zq):Rs D:=(r e).bind fun ds=> .ok (.ju ds)
@[simp] def ZyT (a:FX) (e:Zq):Rs D:=(a e).bind fun d=>asK d fun kvs=> .ok (.lst (ZuG kvs))
end Bk
namespace Bk
open PySem PySem.Spec PyProof.Rows L2 PySem.W
def strsOf:List D→Option (List Str)
 |[]=>some []
 | .str x::r=>(strsOf r).map (x:: ·)
 |_::_=>none
theorem M6: ∀ns:List Str,strsOf (texts ns)=some ns
 |[]=>rfl
 |x::r=>by
  show(strsOf (texts r)).map (x:: ·)=_
  rw[M6 r];rfl
theorem tR: ∀{ds:List D} {ns:List Str},strsOf ds=some ns→ds=texts ns
 |[],_,h=>by cases h;rfl
 |d::r,ns,h=>by
  cases d with
  |str x=>
   obtain⟨ms,h1,h2⟩:=Option.map_eq_some_iff.mp h
   subst h2
   rw[tR h1];rfl
  |_=>cases h
theorem ZaK{K:PySem.W.Frag}{T:Tb}{F:Hp}: ∀ns:List Str,Qw K T F (texts ns) (ns.map V.str)
 |[]=> .nil
 |x::r=> .cons (.str x) (ZaK r)
section
variable{X:Cx}{T:Tb}{W:WX}{a b:Expr}{fa fb:Exp}{pos apos p:Pos}
def Pr(fa fb:Exp):Exp:=fun e s R E=>fa e s (fun x s1=> ∃u,x= .str u∧fb e s1 (fun y s2=> ∃v,y= .str v∧(v.length==0)=false∧u.length+2≤sizeLine∧R (.lst (texts (Txt.split u v))) s2) E) E
theorem DK(ha:DX X T W a fa)(hb:DX X T W b fb)(hs:starEach [b] X.env=[(false,eval b X.env)]:=by rfl)(hbase:attributeBase a "split" X.env (eval a X.env)=eval a X.env:=by rfl)(hline:(apos.endLine==pos.line)=true:=by rfl):
  DX X T W (.Call (.Attribute a "split" apos) [b] [] pos) (Pr fa fb):=⟨Yj (pe_split ha.pe hb.pe hs hbase hline) fun σ H Q hq=>by
 obtain⟨F,e,s,R,E,he,hh,hx,hf,post⟩:=hq
 refine⟨F,e,s,_,E,he,hh,hx,hf,fun d s1 v H1 F1 q x1 hh1 r1=> ?_⟩
 obtain⟨u,rfl,q⟩:=q
 cases r1
 refine⟨⟨u,rfl⟩,F1,e,s1,_,E,he.mono x1.same,hh1,hx.mono x1,q,fun d2 s2 v2 H2 F2 q2 x2 hh2 r2=> ?_⟩
 obtain⟨w,rfl,h1,h2,q2⟩:=q2
 cases r2
 refine⟨u,w,rfl,rfl,h1,h2,fun p np=> ?_⟩
 obtain⟨k1,k2,k3⟩:=hh2.ZeY np (ZaK (T:=T) (F:=F2) (Txt.split u w))
 exact post _ _ _ _ _ q2 ((x1.trans x2).trans k2) k1 k3⟩
def Ea(fa fb:Exp):Exp:=fun e s R E=>fa e s (fun x s1=> ∃u,x= .str u∧fb e s1 (fun y s2=> ∃ns,jJ y s2=some (texts ns)∧(ns.map (·.length)).sum+ns.length*u.length≤16777216∧R (.str (Txt.join u ns)) s2) E) E
theorem Wg(ha:DX X T W a fa)(hb:DX X T W b fb)(hs:starEach [b] X.env=[(false,eval b X.env)]:=by rfl)(hbase:attributeBase a "join" X.env (eval a X.env)=eval a X.env:=by rfl)(hline:(apos.endLine==pos.line)=true:=by rfl):
  DX X T W (.Call (.Attribute a "join" apos) [b] [] pos) (Ea fa fb):=⟨Yj (pe_join ha.pe hb.pe hs hbase hline) fun σ H Q hq=>by
 obtain⟨F,e,s,R,E,he,hh,hx,hf,post⟩:=hq
 refine⟨F,e,s,_,E,he,hh,hx,hf,fun d s1 v H1 F1 q x1 hh1 r1=> ?_⟩
 obtain⟨u,rfl,q⟩:=q
 cases r1
 refine⟨⟨u,rfl⟩,F1,e,s1,_,E,he.mono x1.same,hh1,hx.mono x1,q,fun d2 s2 v2 H2 F2 q2 x2 hh2 r2=> ?_⟩
 obtain⟨ns,h1,h2,q2⟩:=q2
 obtain⟨p,xs,rfl,hq,rr⟩:=r2.seq hh2 h1
 have ex:=ZcB rr
 subst ex
 exact⟨u,p,ns,rfl,rfl,hq,h2,post _ _ _ _ _ q2 (x1.trans x2) hh2 (.str _)⟩⟩
def xM(fa fb:Exp):Exp:=fun e s R E=>fa e s (fun x s1=> ∃u,x= .str u∧fb e s1 (fun y s2=> ∃v,y= .str v∧R (.bl (Txt.startswith u v)) s2) E) E
theorem Zdk(ha:DX X T W a fa)(hb:DX X T W b fb)(hs:starEach [b] X.env=[(false,eval b X.env)]:=by rfl)(hbase:attributeBase a "startswith" X.env (eval a X.env)=eval a X.env:=by rfl)(hline:(apos.endLine==pos.line)=true:=by rfl):
  DX X T W (.Call (.Attribute a "startswith" apos) [b] [] pos) (xM fa fb):=⟨Yj (pe_m1 F.slot_str_startswith F.type_str_startswith mt_startswith ha.pe hb.pe hs hbase hline) fun σ H Q hq=>by
 obtain⟨F,e,s,R,E,he,hh,hx,hf,post⟩:=hq
 refine⟨F,e,s,_,E,he,hh,hx,hf,fun d s1 v H1 F1 q x1 hh1 r1=> ?_⟩
 obtain⟨u,rfl,q⟩:=q
 cases r1
 refine⟨⟨u,rfl⟩,F1,e,s1,_,E,he.mono x1.same,hh1,hx.mono x1,q,fun d2 s2 v2 H2 F2 q2 x2 hh2 r2=> ?_⟩
 obtain⟨w,rfl,q2⟩:=q2
 cases r2
 exact⟨u,w,rfl,rfl,post _ _ _ _ _ q2 (x1.trans x2) hh2 (.bl _)⟩⟩
def Zh9(f:Exp):Exp:=fun e s R E=>f e s (fun d s1=>(∃y:Str,d= .str y∧y.length≤sizeLine∧R (.str y) s1)∨ ∃i:Int,d= .int i∧i.natAbs.log2<1920∧R (.str (toString i)) s1) E
theorem Zdl(ha:DX X T W a fa):DX X T W (.FormattedValue a (-1) none pos) (Zh9 fa):=⟨Yj (pe_fmt ha.pe) fun σ H Q hq=>by
 obtain⟨F,e,s,R,E,he,hh,hx,hf,post⟩:=hq
 refine⟨F,e,s,_,E,he,hh,hx,hf,fun d s1 v H1 F1 q x1 hh1 r1=> ?_⟩
 rcases q with⟨y,rfl,hz,q⟩|⟨i,rfl,hz,q⟩
 ·cases r1
  exact .inl ⟨y,rfl,hz,post _ _ _ _ _ q x1 hh1 (.str _)⟩
 ·cases r1
  exact .inr ⟨i,rfl,hz,post _ _ _ _ _ q x1 hh1 (.str _)⟩⟩
def dJs:List Exp→Str→Zq→S→(Str→S→Prop)→XQ→Prop
 |[],acc,_,s,R,_=>R acc s
 |f::fs,acc,e,s,R,E=>f e s (fun d s1=> ∃y,d= .str y∧(acc++y).length≤sizeLine∧dJs fs (acc++y) e s1 R E) E
def xO(fs:List Exp):Exp:=fun e s R E=>dJs fs Str.empty e s (fun out s1=>R (.str out) s1) E
inductive DJ(X:Cx)(T:Tb)(W:WX):List Expr→List Exp→Prop
 |nil:DJ X T W [] []
 |cons {a:Expr} {f:Exp} {es:List Expr} {fs:List Exp}:DX X T W a f→DJ X T W es fs→DJ X T W (a::es) (f::fs)
theorem DJ.pj: ∀{es:List Expr} {fs:List Exp},DJ X T W es fs→PJ X es (fs.map (Lp X.K T W))
 |_,_, .nil=> .nil
 |_,_, .cons h r=> .cons h.pe r.pj
theorem Zj5{σ:L2.St}{Q:Str→Hp→Prop}{E:XQ}{R:Str→S→Prop}{e:Zq}: ∀{fs:List Exp} {acc:Str} {F:Hp} {s:S} {H:Hp},Jz X.K T F e σ→Hold X.K T F s H→XOk X.K T W F s H E σ→dJs fs acc e s R E→(∀out s' H' F',R out s'→Ext F s H F' s' H'→Hold X.K T F' s' H'→Q out H')→
  tJs (fs.map (Lp X.K T W)) acc σ H Q
 |[],acc,F,s,H,he,hh,hx,hf,k=>k _ _ _ _ hf Ext.refl hh
 |f::fs,acc,F,s,H,he,hh,hx,hf,k=>⟨F,e,s,_,E,he,hh,hx,hf,fun d s1 v H1 F1 q x1 hh1 r1=>by
  obtain⟨y,rfl,hz,q⟩:=q
  cases r1
  exact⟨y,rfl,hz,Zj5 (he.mono x1.same) hh1 (hx.mono x1) q fun out s' H' F' r x2 h2=>k _ _ _ _ r (x1.trans x2) h2⟩⟩
theorem Zdm{v1 v2:Expr}{rest:List Expr}{fs:List Exp}(h:DJ X T W (v1::v2::rest) fs):DX X T W (.JoinedStr (v1::v2::rest) pos) (xO fs):=⟨Yj (pe_joined h.pj) fun σ H Q hq=>by
 obtain⟨F,e,s,R,E,he,hh,hx,hf,post⟩:=hq
 exact Zj5 he hh hx hf fun out s' H' F' r x1 h1=>post _ _ _ _ _ r x1 h1 (.str _)⟩
def cAbs:GA:=fun ds s R=> ∃i:Int,ds=[.int i]∧R (.int (if i<0 then-i else i)) s
theorem Zdn:CallD X T (.builtin "abs") cAbs:=⟨_,call_abs,fun F s H ds vs R Q hh rs hg post=>by
 obtain⟨i,rfl,q⟩:=hg
 obtain⟨v,rfl,r⟩:=rs.one
 cases r
 exact⟨i,rfl,post _ _ _ _ _ q Ext.refl hh (.int _)⟩⟩
def Zia:GA:=fun ds s R=> ∃(x:Str) (n:Int),ds=[.str x]∧PySem.intText? x=some n∧x.length≤640∧R (.int n) s
theorem Zj6:CallD X T (.type "int") Zia:=⟨_,call_int_str,fun F s H ds vs R Q hh rs hg post=>by
 obtain⟨x,n,rfl,h1,h2,q⟩:=hg
 obtain⟨v,rfl,r⟩:=rs.one
 cases r
 exact⟨x,n,rfl,h1,h2,post _ _ _ _ _ q Ext.refl hh (.int _)⟩⟩
def Zib:GA:=fun ds s R=> ∃i:Int,ds=[.int i]∧i.natAbs.log2<1920∧R (.str (toString i)) s
theorem Zj7:CallD X T (.type "str") Zib:=⟨_,call_str_int,fun F s H ds vs R Q hh rs hg post=>by
 obtain⟨i,rfl,h1,q⟩:=hg
 obtain⟨v,rfl,r⟩:=rs.one
 cases r
 exact⟨i,rfl,h1,post _ _ _ _ _ q Ext.refl hh (.str _)⟩⟩
end
def asS:D→(Str→Rs D)→Rs D
 | .str u,k=>k u
 |_,_=> .no
@[simp] theorem Zp1 (u:Str) (k:Str→Rs D):asS (.str u) k=k u:=rfl
theorem SM{d:D}{k:Str→Rs D}{R:D→Prop}{E:Ex→Prop}(h:(asS d k).run R E): ∃u,d= .str u∧(k u).run R E:=by
 cases d<;>first|exact⟨_,rfl,h⟩|exact h.elim
theorem Zhp{p:Prop}[Decidable p]{r:Rs D}{R:D→Prop}{E:Ex→Prop}(h:(if p then r else .no).run R E):p∧r.run R E:=by
 split at h
 ·exact⟨‹_›,h⟩
 ·exact h.elim
@[simp] def Oo (a b:FX) (e:Zq):Rs D:=(a e).bind fun x=>asS x fun u=>(b e).bind fun y=>asS y fun v=>if(v.length==0)=false∧u.length+2≤sizeLine then .ok (.lst (texts (Txt.split u v)))else .no
@[simp] def xP (a b:FX) (e:Zq):Rs D:=(a e).bind fun x=>asS x fun u=>(b e).bind fun y=>asS y fun v=> .ok (.bl (Txt.startswith u v))
@[simp] def Zs9 (a b:FX) (e:Zq):Rs D:=(a e).bind fun x=>asS x fun u=>(b e).bind fun y=>asS y fun v=>if(v.length==0)=false∧u.length≤sizeLine then .ok (.tup [.str (Txt.partition u v).1, .str (Txt.partition u v).2.1, .str (Txt.partition u v).2.2])else .no
def Eb(u:Str)(y:D):Option D:=(TQ y).bind fun ds=>(strsOf ds).bind fun ns=>if(ns.map (·.length)).sum+ns.length*u.length≤16777216 then some (.str (Txt.join u ns))else none
@[simp] def Ec (a b:FX) (e:Zq):Rs D:=(a e).bind fun x=>asS x fun u=>(b e).bind fun y=>Rs.opt (Eb u y)
def bO:F1
 | .str y=>if y.length≤sizeLine then some (.str y)else none
 | .int i=>if i.natAbs.log2<1920 then some (.str (toString i))else none
 |_=>none
def ig:F1
 | .int i=>some (.int (if i<0 then-i else i))
 |_=>none
def wH:F1
 | .str x=>if x.length≤640 then(PySem.intText? x).map .int else none
 |_=>none
def jR:F1
 | .int i=>if i.natAbs.log2<1920 then some (.str (toString i))else none
 |_=>none
def fJs:List FX→Str→Zq→Rs D
 |[],acc,_=> .ok (.str acc)
 |f::fs,acc,e=>(f e).bind fun d=>asS d fun y=>if(acc++y).length≤sizeLine then fJs fs (acc++y) e else .no
def Ks(fs:List FX)(e:Zq):Rs D:=fJs fs Str.empty e
@[simp] theorem ZwS (acc:Str) (e:Zq):fJs [] acc e= .ok (.str acc):=rfl
@[simp] theorem ZnU (f:FX) (fs:List FX) (acc:Str) (e:Zq):fJs (f::fs) acc e=(f e).bind fun d=>asS d fun y=>if(acc++y).length≤sizeLine then fJs fs (acc++y) e else .no:=rfl
theorem ZnV{ws:S}{d':D}{x:Str}(h:bM ws d' (.str x)):d'= .str x:=by
 rcases h with h|⟨p,o,_,ho,_⟩
 ·exact h
 ·cases ho
section
variable{M:List Nat}{a b:FX}{wa wb:Exp}
theorem DN(ha:AX M a wa)(hb:AX M b wb):AX M (Oo a b) (Pr wa wb):=fun s0 fe we ws h R E q=>by
 refine ha s0 fe we ws h _ E (ZF (run_bind.mp q) (fun x q=> ?_) fun _ k=>k)
 obtain⟨u,rfl,q⟩:=SM q
 refine⟨u,rfl,hb s0 fe we ws h _ E (ZF (run_bind.mp q) (fun y q=> ?_) fun _ k=>k)⟩
 obtain⟨v,rfl,q⟩:=SM q
 obtain⟨hc,q⟩:=Zhp q
 exact⟨v,rfl,hc.1,hc.2,q⟩
theorem Zdo(ha:AX M a wa)(hb:AX M b wb):AX M (xP a b) (xM wa wb):=fun s0 fe we ws h R E q=>by
 refine ha s0 fe we ws h _ E (ZF (run_bind.mp q) (fun x q=> ?_) fun _ k=>k)
 obtain⟨u,rfl,q⟩:=SM q
 refine⟨u,rfl,hb s0 fe we ws h _ E (ZF (run_bind.mp q) (fun y q=> ?_) fun _ k=>k)⟩
 obtain⟨v,rfl,q⟩:=SM q
 exact⟨v,rfl,q⟩
theorem Ku(ha:AX M a wa)(hb:AV M b wb):AX M (Ec a b) (Ea wa wb):=fun s0 fe we ws h R E q=>by
 refine ha s0 fe we ws h _ E (ZF (run_bind.mp q) (fun x q=> ?_) fun _ k=>k)
 obtain⟨u,rfl,q⟩:=SM q
 refine⟨u,rfl,hb s0 fe we ws h _ E (ZF (run_bind.mp q) (fun y q y' hy=> ?_) fun _ k=>k)⟩
 obtain⟨d,e,q⟩:=Ut q
 obtain⟨ds,h1,e⟩:=Option.bind_eq_some_iff.mp e
 obtain⟨ns,h2,e⟩:=Option.bind_eq_some_iff.mp e
 split at e
 ·rename_i hc
  cases e
  exact⟨ns,by rw[Hr hy h1,tR h2],hc,q⟩
 ·cases e
theorem Zdp(ha:AX M a wa):AX M (Qm bO a) (Zh9 wa):=fun s0 fe we ws h R E q=>by
 refine ha s0 fe we ws h _ E (ZF (run_bind.mp q) (fun x q=> ?_) fun _ k=>k)
 obtain⟨d,e,q⟩:=Ut q
 unfold bO at e
 split at e
 ·split at e
  ·rename_i hc
   cases e
   exact .inl ⟨_,rfl,hc,q⟩
  ·cases e
 ·split at e
  ·rename_i hc
   cases e
   exact .inr ⟨_,rfl,hc,q⟩
  ·cases e
 ·cases e
inductive AJ(M:List Nat):List FX→List Exp→Prop
 |nil:AJ M [] []
 |cons {a:FX} {wa:Exp} {fs:List FX} {ws:List Exp}:AX M a wa→AJ M fs ws→AJ M (a::fs) (wa::ws)
theorem ZmE{s0 ws:S}{fe we:Zq}(h:Rl M s0 fe we ws){R:Str→S→Prop}{E:XQ}: ∀{fs:List FX} {wfs:List Exp} {acc:Str},AJ M fs wfs→(fJs fs acc fe).run (fun d=> ∃y,d= .str y∧R y ws) (fun x=>E x ws)→dJs wfs acc we ws R E
 |_,_,acc, .nil,q=>by
  obtain⟨y,e,q⟩:=q
  cases e
  exact q
 |_,_,acc, .cons ha hr,q=>by
  refine ha s0 fe we ws h _ E (ZF (run_bind.mp q) (fun x q=> ?_) fun _ k=>k)
  obtain⟨y,rfl,q⟩:=SM q
  obtain⟨hc,q⟩:=Zhp q
  exact⟨y,rfl,hc,ZmE h hr q⟩
theorem Zp2{fs:List FX}{e:Zq}: ∀{acc:Str} {R:D→Prop} {E:Ex→Prop},(fJs fs acc e).run R E→(fJs fs acc e).run (fun d=> ∃y,d= .str y∧R (.str y)) E:=by
 induction fs with
 |nil=>intro acc R E q;exact⟨acc,rfl,q⟩
 |cons f fs ih=>
  intro acc R E q
  rw[ZnU]at q⊢
  refine run_bind.mpr (ZF (run_bind.mp q) (fun x q=> ?_) fun _ k=>k)
  obtain⟨y,rfl,q⟩:=SM q
  obtain⟨hc,q⟩:=Zhp q
  rw[Zp1,if_pos hc]
  exact ih q
theorem Zdq{fs:List FX}{wfs:List Exp}(h:AJ M fs wfs):AX M (Ks fs) (xO wfs):=fun s0 fe we ws r R E q=>ZmE r h (Zp2 q)
theorem Zic:B1 ig cAbs:=fun x' x d s R hx e q=>by
 cases x<;>first|cases e|skip
 rcases hx with rfl|⟨p,o,rfl,ho,hp⟩
 ·exact⟨_,rfl,q⟩
 ·cases ho
theorem ZmF:B1 wH Zia:=fun x' x d s R hx e q=>by
 cases x with
 |str y=>
  have hy:=ZnV hx
  subst hy
  have e:(if y.length≤640 then(PySem.intText? y).map D.int else none)=some d:=e
  split at e
  ·rename_i hc
   obtain⟨n,h1,h2⟩:=Option.map_eq_some_iff.mp e
   subst h2
   exact⟨y,n,rfl,h1,hc,q⟩
  ·cases e
 |_=>cases e
theorem ZmG:B1 jR Zib:=fun x' x d s R hx e q=>by
 cases x with
 |int i=>
  have e:(if i.natAbs.log2<1920 then some (D.str (toString i))else none)=some d:=e
  split at e
  ·rename_i hc
   cases e
   rcases hx with rfl|⟨p,o,rfl,ho,hp⟩
   ·exact⟨i,rfl,hc,q⟩
   ·cases ho
  ·cases e
 |_=>cases e
end
end Bk
namespace Bk
open PySem PySem.Spec PyProof.Rows L2 PySem.W
section
variable{prog:Program}{w:World}{A:Around}{I:Addr}{fp wr:List Addr}{G:Array GenState→Array GenState→Prop}{n:Nat}{P:Nat→Value→Prop}{St:Nat→Shared→Prop}
theorem Zk7(W:WalksS prog w A I fp wr G n P St)(k:Nat)(hk:k≤n):WalksS prog w A I fp wr G (n-k) (fun i=>P (i+k)) (fun i=>St (i+k)) where
 sub:=W.sub
 grefl:=W.grefl
 gtrans:=W.gtrans
 frame:=fun i=>W.frame (i+k)
 item:=fun i s Q E hi st hQ=>W.item (i+k) s Q E (by omega) st fun v s' hp st' hm=>hQ v s' hp (by rw[show i+1+k=i+k+1 by omega];exact st') hm
 done:=fun s Q E st hQ=>W.done s Q E (by rw[show n-k+k=n by omega]at st;exact st) hQ
 self:=fun i=>W.self (i+k)
variable{s:Shared}{E:Value→Shared→Prop}
theorem ZnW{vs:List Value}{acc:List Value}{k:Nat}(h: ∀i x,acc[i]? =some x→vs[i+k]? =some x)(hl:acc.length=vs.length-k):acc=vs.drop k:=by
 refine List.ext_getElem (by rw[List.length_drop,hl]) fun i h1 h2=> ?_
 have:=h i acc[i] (List.getElem?_eq_getElem h1)
 rw[List.getElem_drop]
 obtain⟨h3,h4⟩:=List.getElem?_eq_some_iff.mp this
 rw[←h4]
 congr 1
 omega
theorem Zf7{l:Addr}{x:Value}{xs:List Value}{Q:List Value→Shared→Prop}(hh:A.handled=none)(hl:s.heap.IsList l (x::xs).toArray)(hz:(x::xs).length≤sizeLine)
  (hQ: ∀(h':Heap) (tk:Nat),(∀b o,s.heap.get? b=some o→h'.get? b=some o)→Q [x, .ref h'.objs.size] {s with heap:=h'.push {cls:= .type "list",data:= .seq xs.toArray},toks:=tk}):
  wpAny (model prog w) A (unpackItems (.ref l) 2 (some 1)) Q E s:=by
 have hlt:l≠s.heap.objs.size:=by obtain⟨o,ho,_⟩:=hl;exact Nat.ne_of_lt (Heap.lt_size ho)
 have hlt2:l<s.heap.objs.size:=by obtain⟨o,ho,_⟩:=hl;exact Heap.lt_size ho
 have W0:WalksS prog w A.in1 s.heap.objs.size [s.heap.objs.size,l] [s.heap.objs.size] (fun a b=>b=a) (x::xs).toArray.size (fun i v=>(x::xs).toArray[i]? =some v) (fun i s'=>s'.heap.IsListIter s.heap.objs.size l i∧s'.heap.IsList l (x::xs).toArray):=
  (Walks.list (A:=A.in1) hh s.heap.objs.size l hlt (x::xs).toArray).toS
 unfold unpackItems
 refine wpAny_bind ?_
 unfold notIterableAtAll
 refine wpAny_bind (wpAny_specialOf hl.typeIs slot_list_iter.lookup ?_)
 refine wpAny_pure ?_
 simp only[Bool.false_eq_true,if_false]
 refine wpAny_bind (wpAny_holding (wpAny_pyIter_list hl ?_))
 refine wpAny_bind (wpAny_holding (kun_draw hlt 1 0 _ _ ⟨_,Heap.get?_push_size _ rfl,rfl,rfl⟩ (hl.push _) (by simp) fun h₁ hit₁ hs₁=> ?_))
 have e1:List.take 1 (List.drop 0 (x::xs).toArray.toList)=[x]:=rfl
 rw[e1]
 rw[if_neg (by simp)]
 have hl₁:h₁.IsList l (x::xs).toArray:=(hl.push _).extBut hs₁.extBut hlt
 have W1:=Zk7 W0 1 (by simp)
 have szn:(x::xs).toArray.size-1=xs.length:=by simp
 rw[szn]at W1
 have ex: ∀b o,s.heap.get? b=some o→h₁.get? b=some o:=fun b o e=>hs₁.extBut b o (Nat.ne_of_lt (Heap.lt_size e)) (Heap.get?_push_of_some _ e)
 have sz1:s.heap.objs.size<h₁.objs.size:=by
  obtain⟨o,ho,_⟩:=hit₁
  exact Heap.lt_size ho
 refine wpAny_bind (wpAny_holding (wpAny_collect_iter (T:="list_iterator") (.inr (.inr (.inl rfl))) W1 (fun i s' st=>st.1.typeIs) ⟨hit₁,hl₁⟩ (fun b hb=> ?_) (by simp) (fun s' acc hm hacc=> ?_) (by simp at hz;omega)))
 ·simp only[List.mem_cons,List.not_mem_nil,or_false]at hb
  rcases hb with rfl|rfl
  ·exact sz1
  ·exact Nat.lt_trans hlt2 sz1
 ·have ha:acc.toList=xs:=by
   have:=ZnW (vs:=x::xs) (acc:=acc.toList) (k:=1) (fun i y hy=>by
    have:=hacc.2 i y (by rw[←Array.getElem?_toList];exact hy)
    have e:(x::xs).toArray[i+1]? =some y:=this
    rw[List.getElem?_toArray]at e
    exact e) (by
    have:=hacc.1
    rw[Array.length_toList,this];simp)
   rw[this];rfl
  have lt0: ¬acc.toList.length<2-1-1:=by simp
  rw[if_neg lt0]
  have tk:List.take (acc.toList.length-(2-1-1)) acc.toList=xs:=by
   rw[ha];simp
  have dr:List.drop (acc.toList.length-(2-1-1)) acc.toList=[]:=by
   rw[ha];simp
  have hg:({s' with heap:=s'.heap.push {cls:= .type "list",data:= .seq xs.toArray}}:Shared)={s with heap:=s'.heap.push {cls:= .type "list",data:= .seq xs.toArray},toks:=s'.toks}:=by
   have g1:s'.gens=s.gens:=hm.gens
   have g2:s'.drawn=s.drawn:=hm.drawn
   have g3:s'.os=s.os:=hm.os
   rw[←g1,←g2,←g3]
  refine wpAny_bind (wpAny_newList (items:=List.take (acc.toList.length-(2-1-1)) acc.toList) ?_ (by rw[tk];simp at hz;omega))
  rw[tk,dr]
  refine wpAny_pure ?_
  have:=hQ s'.heap s'.toks fun b o e=>hm.heap b o (fun z=>by
   have:=List.mem_singleton.mp z
   rw[this]at e
   exact Nat.lt_irrefl _ (Heap.lt_size e)) (ex b o e)
  show Q [x, .ref s'.heap.objs.size] {s' with heap:=s'.heap.push {cls:= .type "list",data:= .seq xs.toArray}}
  rw[hg]
  exact this
end
def ZuH(K:PySem.W.Frag)(t:TGs):TG:=fun v σ H Q=> ∃a x xs,v= .ref a∧SqL K H a (x::xs)∧ ∀p,H p=none→t [x, .ref p] σ (upd H p (.lst xs)) Q
section
variable{X:Cx}{T:Tb}{pos:Pos}
theorem Zp3{es:List Expr}{k:Nat}{t:TGs}(hc:X.calm=true)(h:PGs X es t)
  (hn:(assignEach es X.env).length=2:=by rfl) (hst:(assignEach es X.env).findIdx? (·.1)=some 1:=by rfl):PG X (.Tuple es k pos) (ZuH X.K t):=by
 refine⟨fun pins s σ H v u Q I r hw=> ?_⟩
 obtain⟨a,x,xs,e1,hq,hw⟩:=hw
 subst e1
 cases r
 obtain⟨its,rv,pl,hz⟩:=I.list hq
 have hl':s.heap.IsList a its.toArray:=by
  obtain⟨o,m,e,c,d,q⟩:=pl
  exact⟨o,e,c,m,q⟩
 rw[PyProof.Rows.assign_Tuple]
 refine wpAny_bind (wpAny_standAt ?_)
 unfold unpack
 rw[hn,hst]
 obtain⟨u0,us,e,r0,rs⟩: ∃u0 us,its=u0::us∧RelV x u0∧Vals xs us:=by
  cases rv with
  |cons h1 h2=>exact⟨_,_,rfl,h1,h2⟩
 subst e
 have hlen:xs.length=us.length:=rs.length
 have hz2:(u0::us).length≤sizeLine:=by
  rw[List.length_cons]at hz⊢
  omega
 refine wpAny_bind (wpAny_holding (Zf7 (I.ok.hd hc) hl' hz2 fun h' tk hx=> ?_))
 have I1:Inv X pins σ H {s with heap:=h',toks:=tk}:=I.kept (t':=tk) hx
 have hf:H h'.objs.size=none:=I1.hok.fresh (Nat.le_refl _)
 have I2:Inv X pins σ (upd H h'.objs.size (.lst xs)) {s with heap:=h'.push {cls:= .type "list",data:= .seq us.toArray},toks:=tk}:=
  I1.laid (t':=tk) (fun b u e=>Heap.get?_push_of_some _ e) (Nat.le_refl _) ⟨by rw[List.length_cons]at hz;omega,us,0,rs,Heap.get?_push_size _ rfl⟩
 exact h.run pins _ σ _ [x, .ref h'.objs.size] _ Q I2 (.cons r0 (.cons rfl .nil)) (hw _ hf)
def Zdr(r:o7):DG:=fun d e s R=>match d with
 | .lst (x::xs)=>r [x, .lst xs] e s R
 |_=>False
theorem Zp4{es:List Expr}{k:Nat}{r:o7}(hc:X.calm=true)(h:ZeZ X T es r)(hn:(assignEach es X.env).length=2:=by rfl)(hst:(assignEach es X.env).findIdx? (·.1)=some 1:=by rfl):DPG X T (.Tuple es k pos) (Zdr r):=
 ⟨xZ (Zp3 hc h.pgs hn hst) fun v σ H Q ⟨F,d,e,s,R,rd,he,hh,hg,k⟩=>by
   cases rd with
   |lst l rs=>
    cases rs with
    |nil=>exact hg.elim
    | @cons d0 v0 ds0 vs0 r0 rs=>
      refine⟨_,v0,vs0,rfl,SqL.of (hh.sub _ _ l),fun p np=> ?_⟩
      obtain⟨k1,k2,k3⟩:=hh.ZeY np rs
      exact⟨_,[d0, .lst ds0],e,s,R, .cons (r0.mono k2.same) (.cons k3 .nil),he.mono k2.same,k1,hg,fun e' s' σ' H' F' q x2=>k e' s' σ' H' F' q (k2.trans x2)⟩
   |_=>exact hg.elim⟩
theorem Zf8{a:Expr}{p:Pos}{es:List Expr}{r:o7}(h:ZeZ X T (a::es) r)(hs:(assignEach (.Starred a p::es) X.env).map (·.2)=(assignEach (a::es) X.env).map (·.2):=by rfl):ZeZ X T (.Starred a p::es) r:=
 ⟨⟨fun pins s σ H vs us Q I rv q=>by
   rw[hs]
   exact h.pgs.run pins s σ H vs us Q I rv q⟩⟩
end
def yN(r:List D→Zq→Option Zq)(d:D)(e:Zq):Option Zq:=match d with
 | .lst (x::xs)=>r [x, .lst xs] e
 |_=>none
@[simp] theorem Zt1 (r:List D→Zq→Option Zq) {x:D} {xs:List D} {e:Zq}:yN r (.lst (x::xs)) e=r [x, .lst xs] e:=rfl
theorem Zp5{M:List Nat}{r:List D→Zq→Option Zq}{wr:o7}(hr:AGs M r wr):AG M (yN r) (Zdr wr):=fun s0 fe we ws h d fe1 e K k=>by
 unfold yN at e
 unfold Zdr
 split at e
 ·exact hr s0 fe we ws h _ fe1 e K k
 ·cases e
end Bk
namespace Bk
open PySem PySem.Spec PyProof.Rows L2
def Zrk:D→(Str→Dt D)→Dt D
 | .str u,k=>k u
 |_,_=> .no
@[simp] theorem ZvO (u:Str) (k:Str→Dt D):Zrk (.str u) k=k u:=rfl
def wI(a b:MX)(e:Zq):Dt D:=(a e).bind fun x=>Zrk x fun u=>(b e).bind fun y=> .opt (Eb u y)
theorem ZnX{d:D}{k:Str→Dt D}{p:Addr}{n:Nat}{R:D→Nat→Prop}(h:(Zrk d k).run p n R): ∃u,d= .str u∧(k u).run p n R:=by
 cases d<;>first|exact⟨_,rfl,h⟩|exact h.elim
theorem Zj8{M:List Nat}{a b:MX}{wa wb:Exp}(ha:BX M a wa)(hb:BX M b wb):BX M (wI a b) (Ea wa wb):=fun mu p n fe we ws h R E q=>by
 refine ha mu p n fe we ws h _ E (Qi (QH.mp q) fun x m q kh e1 h1=> ?_)
 obtain⟨u,rfl,q⟩:=ZnX q
 refine⟨u,rfl,hb mu p m fe we kh h1 _ E (Qi (QH.mp q) fun y m2 q aO e2 h2=> ?_)⟩
 cases hj:Eb u y with
 |none=>rw[hj]at q;exact q.elim
 |some d=>
  rw[hj]at q
  obtain⟨ds,k1,e⟩:=Option.bind_eq_some_iff.mp hj
  obtain⟨ns,k2,e⟩:=Option.bind_eq_some_iff.mp e
  split at e
  ·rename_i hc
   cases e
   exact⟨ns,by rw[Hr (ws:=aO) (.inl rfl) k1,tR k2],hc,q aO (e2.trans e1) h2⟩
  ·cases e
end Bk
namespace Bk
open PySem PySem.Spec PyProof.Rows L2 PySem.W
section
variable{X:Cx}{T:Tb}
theorem ZiK:OpR X (binaryOp .Mult) (fun x y H Q=> ∃z k,x= .str z∧y= .int k∧1<k∧k≤10000∧0<z.length∧z.length≤100∧Q (.str (Vl z k.toNat)) H):=by
 intro pins s σ H x y v u Q I rx ry h
 obtain⟨z,k,rfl,rfl,h1,h2,h3,h4,q⟩:=h
 obtain⟨t,rfl⟩:=rx
 obtain⟨t',rfl⟩:=ry
 have n1: ¬k<1:=by omega
 have n2:(k==1||z.length==0)=false:=by simp;omega
 refine PySem.P.mul_str (by simp;omega) (fun _ _ w=> ?_) (fun _ _=> ?_) ?_
 ·have:(2^63-1:Int)/k≥100000:=by
   have hk:(0:Int)<k:=by omega
   rw[ge_iff_le,Int.le_ediv_iff_mul_le hk]
   omega
  omega
 ·have:z.length*k.toNat≤100*10000:=Nat.mul_le_mul h4 (by omega)
  unfold PySem.Builtin.Str.tooLong
  rw[sizeLine_eq]
  simp
  omega
 ·rw[if_neg n1,if_neg (by rw[n2];decide)]
  refine⟨?_,⟨.str (Vl z k.toNat),H,I.tok _,⟨_,rfl⟩,q⟩⟩
  have e:(Vl z k.toNat).length=k.toNat*z.length:=Tp z k.toNat
  have:k.toNat*z.length≤10000*100:=Nat.mul_le_mul (by omega) h4
  show(Vl z k.toNat).length≤sizeLine
  rw[sizeLine_eq]
  omega
def ZeB:G2:=fun x y s R=>match x,y with
 | .str z, .int k=>(1<k∧k≤10000∧0<z.length∧z.length≤100)∧R (.str (Vl z k.toNat)) s
 |_,_=>False
theorem Zp6:IV X T (binaryOp .Mult) ZeB:= .of ZiK fun F s H x y vx vy R Q hh rx ry hg post=>by
 unfold ZeB at hg
 split at hg
 ·rename_i z k
  obtain⟨⟨h1,h2,h3,h4⟩,q⟩:=hg
  cases rx;cases ry
  exact⟨_,_,rfl,rfl,h1,h2,h3,h4,post _ s _ H F q Ext.refl hh (.str _)⟩
 ·exact hg.elim
end
def Zb9:F2
 | .str z, .int k=>if 1<k∧k≤10000∧0<z.length∧z.length≤100 then some (.str (Vl z k.toNat))else none
 |_,_=>none
theorem Zss:O2 Zb9 ZeB:=fun x y d s R e q=>by
 unfold Zb9 at e
 unfold ZeB
 split at e
 ·split at e
  ·rename_i h;cases e;exact⟨h,q⟩
  ·cases e
 ·cases e
end Bk
namespace Bk
open PySem PySem.Spec PyProof.Rows L2
structure PD(K:PySem.W.Frag)(mg:Str→Option Value)(n:Str)(st:Stmt)(ps:List Str) where
 f:Addr
 d:FuncData
 F:Fun K n n st f d
 m:mg n=some (.ref f)
 b:Binds K d ps []
def Yq(K:PySem.W.Frag)(n:Str)(st:Stmt):Prop:= ∃f fd,PySem.W.nsIn K mainGlobals n=some (some (.ref f))∧Fun K n n st f fd
section
variable{X:Cx}{T:Tb}{W:WX}{k n:Nat}{x:Str}{p pos:Pos}{a:Expr}{es:List Expr}{r:Arg}{phi:Fn}{st:Stmt}{ps:List Str}
theorem ZJ{j:Nat}{z:PD X.K X.mg x st ps}(B:fK X W k)(G:GFn X.prog X.w X.K X.mg X.base j z.f z.d ps (Bs X.K T n phi))(ha:DA X T W (a::es) r)
  (hjk:j≤k:=by decide) (hg:Gl X x:=by rfl) (hdb:(x==("__debug__" :Str))=false:=by decide) (he:starEach (a::es) X.env=(false,eval a X.env)::starEach es X.env:=by rfl) (hpl:(backTo pos (starEach es X.env)).any (·.1)=false:=by rfl):
  DX X T W (.Call (.Name x p) (a::es) [] pos) (dCall n phi r):=
 wV (G.mono hjk) B.room B.grd B.tk hg z.m z.F.kp z.b ha hdb he hpl
theorem W6{j:Nat}{z:PD X.K X.mg x st ps}(hr:Room k X.A)(hgd:X.A.guards=some [])(tk:Takes X W)(G:GFn X.prog X.w X.K X.mg X.base j z.f z.d ps (Bs X.K T n phi))(ha:DA X T W (a::es) r)
  (hjk:j≤k:=by decide) (hg:Gl X x:=by rfl) (hdb:(x==("__debug__" :Str))=false:=by decide) (he:starEach (a::es) X.env=(false,eval a X.env)::starEach es X.env:=by rfl) (hpl:(backTo pos (starEach es X.env)).any (·.1)=false:=by rfl):
  DX X T W (.Call (.Name x p) (a::es) [] pos) (dCall n phi r):=
 wV (G.mono hjk) hr hgd tk hg z.m z.F.kp z.b ha hdb he hpl
end
end Bk
namespace Bk.Gk
open PySem PySem.Spec PyProof.Rows L2
def ZeC:Fn:=fun ds s R _=> ∃ns,ds=[.U7 ns]∧ns.length≤63∧s=⟨fun _=>none,none⟩∧ ∀s',R (.bl true) s'
end Bk.Gk
namespace Bk.Gk
open PySem PySem.Spec PyProof.Rows L2
open Bk.Pa
open Bk.Qa
abbrev Ai:List Str:=["terms","found","factor","name","size","sign"]
def rC:Yh:=(ZV (Jo 1 (dC (.str "")))
 (ZV (Xj (Vy (Zf 0)) (Nz 2 (Jm (Z6 2) (Jm (Z6 3) Ny))) (ZV (Jo 4 (Kc (ZX (ZG oEq (Qp cAbs (Zd (Zf 2) Zo)) (dC (.int 1)))) (dC (.str "")) (xO [(Zh9 (Qp cAbs (Zd (Zf 2) Zo))),(dC (.str " "))])))
 (ZV (Jo 5 (Kc (ZX (ZG oLt (Zf 2) (dC (.int 0)))) (dC (.str "-")) (dC (.str ""))))
 (ZV (Jv (ZX (ZG uW (Zf 1) (dC (.str "")))) (Jo 5 (Kc (ZX (ZG oLt (Zf 2) (dC (.int 0)))) (dC (.str " - ")) (dC (.str " + ")))) QD)
 (Jo 1 (ZG JN (ZG JN (ZG JN (Zf 1) (Zf 5)) (Zf 4)) (Zf 3)))))))
 (QJ (Kc (ZX (ZG uW (Zf 1) (dC (.str "")))) (Zf 1) (dC (.str "0"))))))
def Fj:FS:=(ZP (Qu 1 (fC (.str "")))
 (ZP (Oh (Jg (fVar 0)) (NK 2 (QX (Zv 2) (QX (Zv 3) Bx))) (ZP (Qu 4 (Ln (Zw (Zz Uc (Qm ig (fVar 2)) (fC (.int 1)))) (fC (.str "")) (Ks [(Qm bO (Qm ig (fVar 2))),(fC (.str " "))])))
 (ZP (Qu 5 (Ln (Zw (Zz jy (fVar 2) (fC (.int 0)))) (fC (.str "-")) (fC (.str ""))))
 (ZP (Ql (Zw (Zz Wo (fVar 1) (fC (.str "")))) (Qu 5 (Ln (Zw (Zz jy (fVar 2) (fC (.int 0)))) (fC (.str " - ")) (fC (.str " + ")))) ZS)
 (Qu 1 (Zz Z9 (Zz Z9 (Zz Z9 (fVar 1) (fVar 5)) (fVar 4)) (fVar 3)))))) [2,3,5,4])
 (Qg (Ln (Zw (Zz Wo (fVar 1) (fC (.str "")))) (fVar 1) (fC (.str "0"))))))
def GJ:FF:=fun ds=>(Fj (ZC Ai ds)).fn
abbrev Aj:Fn:=pF GJ
theorem ZeD: ∀ds s R E,ds.length=1→Aj ds s R E→rC (Qx R E) (ZC Ai ds) s:=Bu (f:=Fj) (M:=[]) (ZK (Jr 1 (Zk _))
 (ZK (Oi (W:=[2,3,5,4]) (Yn (Ze 0)) (Km (JQ (Qn 2) (JQ (Qn 3) O9))) (ZK (Jr 4 (UL (Zx (ZD NZ (JZ Zic (Zy (Ze 2))) (Zk _))) (Zk _) (Zdq (.cons (Zdp (JZ Zic (Zy (Ze 2)))) (.cons (Zk _) .nil)))))
 (ZK (Jr 5 (UL (Zx (ZD (Vh _) (Ze 2) (Zk _))) (Zk _) (Zk _)))
 (ZK (Q6 (Zx (ZD fX (Ze 1) (Zk _))) (Jr 5 (UL (Zx (ZD (Vh _) (Ze 2) (Zk _))) (Zk _) (Zk _))) Z8)
 (Jr 1 (ZD Yw (ZD Yw (ZD Yw (Ze 1) (Ze 5)) (Ze 4)) (Ze 3)))))))
 (Qc (UL (Zx (ZD fX (Ze 1) (Zk _))) (Ze 1) (Zk _)))))
abbrev Xz:List Str:=["word","body","sign"]
def vq:Yh:=(ZV (Jo 1 (Kc (ZX (xM (Zf 0) (dC (.str "-")))) (Ke (Zf 0) (Vg (dC (.int 1))) Jj) (Zf 0)))
 (ZV (Jv (Ew (Bq (ZX (Kf oLe oLe (dC (.int 1)) (Qp BZ (Zd (Zf 1) Zo)) (dC (.int 2))))) (Bq (ZX (Qp (ZhS false) (Zd (Ad (Vy (Zf 1)) (Z6 2) Mj (ZG (sS false) (Zf 2) (dC (.str "0123456789"))) [2]) Zo))))) (QJ (dC .non)) QD)
 (ZV (Jv (ZhO (ZX (ZG oEq (ZG Ua (Zf 1) (dC (.int 0))) (dC (.str "0")))) (ZX (ZG uW (Zf 0) (dC (.str "0"))))) (QJ (dC .non)) QD)
 (QJ (Qp Zia (Zd (Zf 0) Zo))))))
def Ak:FS:=(ZP (Qu 1 (Ln (Zw (xP (fVar 0) (fC (.str "-")))) (Lk (fVar 0) (JH (fC (.int 1))) Qq) (fVar 0)))
 (ZP (Ql (Br (Yt (Zw (jA gLe gLe (fC (.int 1)) (Qm YS (fVar 1)) (fC (.int 2))))) (Yt (Zw (Qm (w6 false) (R5 (Jg (fVar 1)) (Zv 2) Ux (Zz (gIn false) (fVar 2) (fC (.str "0123456789"))) [2]))))) (Qg (fC .non)) ZS)
 (ZP (Ql (Ze6 (Zw (Zz Uc (Zz Jt (fVar 1) (fC (.int 0))) (fC (.str "0")))) (Zw (Zz Wo (fVar 0) (fC (.str "0"))))) (Qg (fC .non)) ZS)
 (Qg (Qm wH (fVar 0))))))
def Gp:FF:=fun ds=>(Ak (ZC Xz ds)).fn
abbrev Es:Fn:=pF Gp
theorem Zf9: ∀ds s R E,ds.length=1→Es ds s R E→vq (Qx R E) (ZC Xz ds) s:=Bu (f:=Ak) (M:=[]) (ZK (Jr 1 (UL (Zx (Zdo (Ze 0) (Zk _))) (UJ (Zy (Ze 0)) (Ym (Zk _)) Yl) (Ze 0)))
 (ZK (Q6 (V6 (YC (Zx (RB (Vh _) (Vh _) (Zk _) (JZ GF (Zy (Ze 1))) (Zk _)))) (YC (Zx (WW (ZlS _) (Cg (Yn (Ze 1)) (Qn 2) WT (ZD (jL _) (Ze 2) (Zk _))))))) (Qc (Zk _)) Z8)
 (ZK (Q6 (Zhc (Zx (ZD NZ (Jd Vf (Zy (Ze 1)) (Zy (Zk _))) (Zk _))) (Zx (ZD fX (Ze 0) (Zk _)))) (Qc (Zk _)) Z8)
 (Qc (JZ ZmF (Zy (Ze 0)))))))
abbrev Xa:List Str:=["_law_terms_here","_law_found","_law_factor","_law_name","_law_word"]
def S9:Yh:=(ZV (Jo 1 (dC (.str "")))
 (ZV (Xj (Vy (Zf 0)) (Nz 2 (Jm (Z6 2) (Jm (Z6 3) Ny))) (ZV (Jo 4 (Kc (ZX (ZG oEq (Qp cAbs (Zd (Zf 2) Zo)) (dC (.int 1)))) (Zf 3) (ZG JN (ZG JN (Qp Zib (Zd (Qp cAbs (Zd (Zf 2) Zo)) Zo)) (dC (.str " "))) (Zf 3))))
 (Jv (ZX (ZG oEq (Zf 1) (dC (.str "")))) (Jo 1 (Kc (ZX (ZG oLt (Zf 2) (dC (.int 0)))) (ZG JN (dC (.str "-")) (Zf 4)) (Zf 4))) (Jo 1 (ZG JN (ZG JN (Zf 1) (Kc (ZX (ZG oLt (Zf 2) (dC (.int 0)))) (dC (.str " - ")) (dC (.str " + ")))) (Zf 4))))))
 (QJ (Kc (ZX (ZG uW (Zf 1) (dC (.str "")))) (Zf 1) (dC (.str "0"))))))
def CV:FS:=(ZP (Qu 1 (fC (.str "")))
 (ZP (Oh (Jg (fVar 0)) (NK 2 (QX (Zv 2) (QX (Zv 3) Bx))) (ZP (Qu 4 (Ln (Zw (Zz Uc (Qm ig (fVar 2)) (fC (.int 1)))) (fVar 3) (Zz Z9 (Zz Z9 (Qm jR (Qm ig (fVar 2))) (fC (.str " "))) (fVar 3))))
 (Ql (Zw (Zz Uc (fVar 1) (fC (.str "")))) (Qu 1 (Ln (Zw (Zz jy (fVar 2) (fC (.int 0)))) (Zz Z9 (fC (.str "-")) (fVar 4)) (fVar 4))) (Qu 1 (Zz Z9 (Zz Z9 (fVar 1) (Ln (Zw (Zz jy (fVar 2) (fC (.int 0)))) (fC (.str " - ")) (fC (.str " + ")))) (fVar 4))))) [2,3,4])
 (Qg (Ln (Zw (Zz Wo (fVar 1) (fC (.str "")))) (fVar 1) (fC (.str "0"))))))
def YM:FF:=fun ds=>(CV (ZC Xa ds)).fn
abbrev Xb:Fn:=pF YM
theorem uI: ∀ds s R E,ds.length=1→Xb ds s R E→S9 (Qx R E) (ZC Xa ds) s:=Bu (f:=CV) (M:=[]) (ZK (Jr 1 (Zk _))
 (ZK (Oi (W:=[2,3,4]) (Yn (Ze 0)) (Km (JQ (Qn 2) (JQ (Qn 3) O9))) (ZK (Jr 4 (UL (Zx (ZD NZ (JZ Zic (Zy (Ze 2))) (Zk _))) (Ze 3) (ZD Yw (ZD Yw (JZ ZmG (Zy (JZ Zic (Zy (Ze 2))))) (Zk _)) (Ze 3))))
 (Q6 (Zx (ZD NZ (Ze 1) (Zk _))) (Jr 1 (UL (Zx (ZD (Vh _) (Ze 2) (Zk _))) (ZD Yw (Zk _) (Ze 4)) (Ze 4))) (Jr 1 (ZD Yw (ZD Yw (Ze 1) (UL (Zx (ZD (Vh _) (Ze 2) (Zk _))) (Zk _) (Zk _))) (Ze 4))))))
 (Qc (UL (Zx (ZD fX (Ze 1) (Zk _))) (Ze 1) (Zk _)))))
abbrev Bh:List Str:=["_law_word","_law_body","_law_sign"]
def aW:Yh:=(ZV (Jo 1 (Kc (ZX (ZG oEq (Ke (Zf 0) Jj (Vg (dC (.int 1)))) (dC (.str "-")))) (Ke (Zf 0) (Vg (dC (.int 1))) Jj) (Zf 0)))
 (ZV (Jv (Ew (Bq (ZX (Kf oLt oLt (dC (.int 0)) (Qp BZ (Zd (Zf 1) Zo)) (dC (.int 3))))) (ZX (ZG Zbf (Ad (Vy (Zf 1)) (Z6 2) (ZX (ZG (sS true) (Zf 2) (dC (.str "0123456789")))) (Zf 2) [2]) (VH Zo)))) (QJ (dC .non)) QD)
 (QJ (Kc (ZhO (ZX (ZG oEq (ZG Ua (Zf 1) (dC (.int 0))) (dC (.str "0")))) (ZX (ZG uW (Zf 0) (dC (.str "0"))))) (dC .non) (Qp Zia (Zd (Zf 0) Zo))))))
def Xc:FS:=(ZP (Qu 1 (Ln (Zw (Zz Uc (Lk (fVar 0) Qq (JH (fC (.int 1)))) (fC (.str "-")))) (Lk (fVar 0) (JH (fC (.int 1))) Qq) (fVar 0)))
 (ZP (Ql (Br (Yt (Zw (jA jy jy (fC (.int 0)) (Qm YS (fVar 1)) (fC (.int 3))))) (Zw (Zz jK (R5 (Jg (fVar 1)) (Zv 2) (Zw (Zz (gIn true) (fVar 2) (fC (.str "0123456789")))) (fVar 2) [2]) (JX Zm)))) (Qg (fC .non)) ZS)
 (Qg (Ln (Ze6 (Zw (Zz Uc (Zz Jt (fVar 1) (fC (.int 0))) (fC (.str "0")))) (Zw (Zz Wo (fVar 0) (fC (.str "0"))))) (fC .non) (Qm wH (fVar 0))))))
def YD:FF:=fun ds=>(Xc (ZC Bh ds)).fn
abbrev Oq:Fn:=pF YD
theorem yO: ∀ds s R E,ds.length=1→Oq ds s R E→aW (Qx R E) (ZC Bh ds) s:=Bu (f:=Xc) (M:=[]) (ZK (Jr 1 (UL (Zx (ZD NZ (UJ (Zy (Ze 0)) Yl (Ym (Zk _))) (Zk _))) (UJ (Zy (Ze 0)) (Ym (Zk _)) Yl) (Ze 0)))
 (ZK (Q6 (V6 (YC (Zx (RB (Vh _) (Vh _) (Zk _) (JZ GF (Zy (Ze 1))) (Zk _)))) (Zx (ZD Zeq (Cg (Yn (Ze 1)) (Qn 2) (Zx (ZD (jL _) (Ze 2) (Zk _))) (Ze 2)) (Ud Zu)))) (Qc (Zk _)) Z8)
 (Qc (UL (Zhc (Zx (ZD NZ (Jd Vf (Zy (Ze 1)) (Zy (Zk _))) (Zk _))) (Zx (ZD fX (Ze 0) (Zk _)))) (Zk _) (JZ ZmF (Zy (Ze 0)))))))
abbrev dY:List Str:=["_law_e","_law_found"]
def vC:Yh:=(ZV (Jo 1 (cD Zo))
 (ZV (Jv (ZX (fP kn "BadCells" (Zf 0))) (Xk (Zf 1) (dTup (Zd (dC (.str "cells")) (Zd (Mq kn "place" (Zf 0)) Zo)))) QD)
 (ZV (Jv (ZX (fP kn "BadFormula" (Zf 0))) (Xk (Zf 1) (dTup (Zd (dC (.str "formula")) (Zd (Mq kn "place" (Zf 0)) Zo)))) QD)
 (ZV (Jv (ZX (fP kn "BadProgram" (Zf 0))) (Xk (Zf 1) (dTup (Zd (dC (.str "program")) (Zd (Mq kn "place" (Zf 0)) Zo)))) QD)
 (ZV (Jv (ZX (fP kn "Twice" (Zf 0))) (Xk (Zf 1) (dTup (Zd (dC (.str "twice")) (Zd (Mq kn "name" (Zf 0)) Zo)))) QD)
 (ZV (Jv (ZX (fP kn "BadStanding" (Zf 0))) (Xk (Zf 1) (dTup (Zd (dC (.str "standing")) (Zd (Qp WQ (Zd (Mq kn "value" (Zf 0)) Zo)) Zo)))) QD)
 (ZV (Jv (ZX (fP kn "BadWeaving" (Zf 0))) (Xk (Zf 1) (dTup (Zd (dC (.str "weaving")) (Zd (Mq kn "place" (Zf 0)) Zo)))) QD)
 (ZV (Jv (ZX (fP kn "BadNode" (Zf 0))) (Xk (Zf 1) (dTup (Zd (dC (.str "node")) (Zd (Mq kn "place" (Zf 0)) Zo)))) QD)
 (ZV (Jv (ZX (fP kn "BadPaper" (Zf 0))) (Xk (Zf 1) (dTup (Zd (dC (.str "paper")) (Zd (Mq kn "place" (Zf 0)) Zo)))) QD)
 (ZV (Jv (ZX (fP kn "BadText" (Zf 0))) (Xk (Zf 1) (dTup (Zd (dC (.str "text")) (Zd (Mq kn "line" (Zf 0)) Zo)))) QD)
 (ZV (Jv (ZX (fP kn "BadNumber" (Zf 0))) (Xk (Zf 1) (dTup (Zd (dC (.str "number")) (Zd (Qp WQ (Zd (Mq kn "value" (Zf 0)) Zo)) Zo)))) QD)
 (ZV (Jv (ZX (fP kn "Missing" (Zf 0))) (Xk (Zf 1) (dTup (Zd (dC (.str "missing")) (Zd (Qp WQ (Zd (Mq kn "name" (Zf 0)) Zo)) Zo)))) QD)
 (ZV (Jv (ZX (fP kn "TooMany" (Zf 0))) (Xk (Zf 1) (dTup (Zd (dC (.str "many")) (Zd (Mq kn "most" (Zf 0)) Zo)))) QD)
 (QJ (Kc (ZX (ZG oEq (Qp BZ (Zd (Zf 1) Zo)) (dC (.int 1)))) (ZG Ua (Zf 1) (dC (.int 0))) (dTup (Zd (dC (.str "odd")) (Zd (Qp BZ (Zd (Zf 1) Zo)) Zo))))))))))))))))))
def rD:FS:=(ZP (Qu 1 (JX Zm))
 (ZP (Ql (Zw (Qm (gW kn "BadCells") (fVar 0))) (Nf 1 (QM (Zb (fC (.str "cells")) (Zb (Qm (MN kn "place") (fVar 0)) Zm)))) ZS)
 (ZP (Ql (Zw (Qm (gW kn "BadFormula") (fVar 0))) (Nf 1 (QM (Zb (fC (.str "formula")) (Zb (Qm (MN kn "place") (fVar 0)) Zm)))) ZS)
 (ZP (Ql (Zw (Qm (gW kn "BadProgram") (fVar 0))) (Nf 1 (QM (Zb (fC (.str "program")) (Zb (Qm (MN kn "place") (fVar 0)) Zm)))) ZS)
 (ZP (Ql (Zw (Qm (gW kn "Twice") (fVar 0))) (Nf 1 (QM (Zb (fC (.str "twice")) (Zb (Qm (MN kn "name") (fVar 0)) Zm)))) ZS)
 (ZP (Ql (Zw (Qm (gW kn "BadStanding") (fVar 0))) (Nf 1 (QM (Zb (fC (.str "standing")) (Zb (Qm Va (Qm (MN kn "value") (fVar 0))) Zm)))) ZS)
 (ZP (Ql (Zw (Qm (gW kn "BadWeaving") (fVar 0))) (Nf 1 (QM (Zb (fC (.str "weaving")) (Zb (Qm (MN kn "place") (fVar 0)) Zm)))) ZS)
 (ZP (Ql (Zw (Qm (gW kn "BadNode") (fVar 0))) (Nf 1 (QM (Zb (fC (.str "node")) (Zb (Qm (MN kn "place") (fVar 0)) Zm)))) ZS)
 (ZP (Ql (Zw (Qm (gW kn "BadPaper") (fVar 0))) (Nf 1 (QM (Zb (fC (.str "paper")) (Zb (Qm (MN kn "place") (fVar 0)) Zm)))) ZS)
 (ZP (Ql (Zw (Qm (gW kn "BadText") (fVar 0))) (Nf 1 (QM (Zb (fC (.str "text")) (Zb (Qm (MN kn "line") (fVar 0)) Zm)))) ZS)
 (ZP (Ql (Zw (Qm (gW kn "BadNumber") (fVar 0))) (Nf 1 (QM (Zb (fC (.str "number")) (Zb (Qm Va (Qm (MN kn "value") (fVar 0))) Zm)))) ZS)
 (ZP (Ql (Zw (Qm (gW kn "Missing") (fVar 0))) (Nf 1 (QM (Zb (fC (.str "missing")) (Zb (Qm Va (Qm (MN kn "name") (fVar 0))) Zm)))) ZS)
 (ZP (Ql (Zw (Qm (gW kn "TooMany") (fVar 0))) (Nf 1 (QM (Zb (fC (.str "many")) (Zb (Qm (MN kn "most") (fVar 0)) Zm)))) ZS)
 (Qg (Ln (Zw (Zz Uc (Qm YS (fVar 1)) (fC (.int 1)))) (Zz Jt (fVar 1) (fC (.int 0))) (QM (Zb (fC (.str "odd")) (Zb (Qm YS (fVar 1)) Zm))))))))))))))))))
def XC:FF:=fun ds=>(rD (ZC dY ds)).fn
abbrev dZ:Fn:=pF XC
theorem Zga: ∀ds s R E,ds.length=1→dZ ds s R E→vC (Qx R E) (ZC dY ds) s:=Bu (f:=rD) (M:=[1]) (ZK (pC 1 (qU Zu))
 (ZK (Q6 (Zx (W4 (Ze 0))) (Bf 1 (QG (Zh (Zk _) (Zh (Lj (Ze 0)) Zu)))) Z8)
 (ZK (Q6 (Zx (W4 (Ze 0))) (Bf 1 (QG (Zh (Zk _) (Zh (Lj (Ze 0)) Zu)))) Z8)
 (ZK (Q6 (Zx (W4 (Ze 0))) (Bf 1 (QG (Zh (Zk _) (Zh (Lj (Ze 0)) Zu)))) Z8)
 (ZK (Q6 (Zx (W4 (Ze 0))) (Bf 1 (QG (Zh (Zk _) (Zh (Lj (Ze 0)) Zu)))) Z8)
 (ZK (Q6 (Zx (W4 (Ze 0))) (Bf 1 (QG (Zh (Zk _) (Zh (WW R4 (Lj (Ze 0))) Zu)))) Z8)
 (ZK (Q6 (Zx (W4 (Ze 0))) (Bf 1 (QG (Zh (Zk _) (Zh (Lj (Ze 0)) Zu)))) Z8)
 (ZK (Q6 (Zx (W4 (Ze 0))) (Bf 1 (QG (Zh (Zk _) (Zh (Lj (Ze 0)) Zu)))) Z8)
 (ZK (Q6 (Zx (W4 (Ze 0))) (Bf 1 (QG (Zh (Zk _) (Zh (Lj (Ze 0)) Zu)))) Z8)
 (ZK (Q6 (Zx (W4 (Ze 0))) (Bf 1 (QG (Zh (Zk _) (Zh (Lj (Ze 0)) Zu)))) Z8)
 (ZK (Q6 (Zx (W4 (Ze 0))) (Bf 1 (QG (Zh (Zk _) (Zh (WW R4 (Lj (Ze 0))) Zu)))) Z8)
 (ZK (Q6 (Zx (W4 (Ze 0))) (Bf 1 (QG (Zh (Zk _) (Zh (WW R4 (Lj (Ze 0))) Zu)))) Z8)
 (ZK (Q6 (Zx (W4 (Ze 0))) (Bf 1 (QG (Zh (Zk _) (Zh (Lj (Ze 0)) Zu)))) Z8)
 (Qc (UL (Zx (ZD NZ (JZ GF (aM 1)) (Zk _))) (Jd Vf (aM 1) (Zy (Zk _))) (QG (Zh (Zk _) (Zh (JZ GF (aM 1)) Zu))))))))))))))))))
abbrev Et:List Str:=["case","terms","op","number"]
def vD:Yh:=(ZV (Jv (ZX (ZG ZkS (Zf 0) (dTup Zo))) (QJ (dC (.str "always"))) QD)
 (QJ (Ea (dC (.str " & ")) (Ad (Vy (Zf 0)) (Nz 3 (Jm (Z6 1) (Jm (Z6 2) (Jm (Z6 3) Ny)))) Mj (xO [(Zh9 (dCall 1 Aj (Zd (Zf 1) Zo))),(dC (.str " ")),(Zh9 (Zf 2)),(dC (.str " ")),(Zh9 (Zf 3))]) [1,2,3]))))
def Am:FS:=(ZP (Ql (Zw (Zz Zbi (fVar 0) (QM Zm))) (Qg (fC (.str "always"))) ZS)
 (Qg (Ec (fC (.str " & ")) (R5 (Jg (fVar 0)) (NK 3 (QX (Zv 1) (QX (Zv 2) (QX (Zv 3) Bx)))) Ux (Ks [(Qm bO (ZL GJ (Zb (fVar 1) Zm))),(fC (.str " ")),(Qm bO (fVar 2)),(fC (.str " ")),(Qm bO (fVar 3))]) [1,2,3]))))
def O5:FF:=fun ds=>(Am (ZC Et ds)).fn
abbrev d7:Fn:=pF O5
theorem Zgb: ∀ds s R E,ds.length=1→d7 ds s R E→vD (Qx R E) (ZC Et ds) s:=Bu (f:=Am) (M:=[]) (ZK (Q6 (Zx (ZD Zuz (Ze 0) (QG Zu))) (Qc (Zk _)) Z8)
 (Qc (Ku (Zk _) (Zy (Cg (Yn (Ze 0)) (Km (JQ (Qn 1) (JQ (Qn 2) (JQ (Qn 3) O9)))) WT (Zdq (.cons (Zdp (Qv (Zh (Ze 1) Zu))) (.cons (Zk _) (.cons (Zdp (Ze 2)) (.cons (Zk _) (.cons (Zdp (Ze 3)) .nil)))))))))))
abbrev mU:List Str:=["text","words","found","sign","size","word"]
def ZaL:Yh:=(ZV (Jv (ZX (ZG oEq (Zf 0) (dC (.str "0")))) (QJ (dTup Zo)) QD)
 (ZV (Jo 1 (Pr (Zf 0) (dC (.str " "))))
 (ZV (Jv (ZX (xM (ZG Ua (Zf 1) (dC (.int 0))) (dC (.str "-")))) (Jo 1 (VH (Zd (dC (.str "-")) (Zd (Ke (ZG Ua (Zf 1) (dC (.int 0))) (Vg (dC (.int 1))) Jj) (ZoS (Ke (Zf 1) (Vg (dC (.int 1))) Jj) Zo))))) (Jo 1 (VH (Zd (dC (.str "+")) (ZoS (Zf 1) Zo)))))
 (ZV (Jo 2 (cD Zo))
 (ZV (yd (ZX (ZG uW (Zf 1) (VH Zo))) (ZV (wR (Zf 1) (Zdr (Jm (Z6 3) (Jm (Z6 1) Ny))))
 (ZV (Jv (Ew (ZX (ZG (sS true) (Zf 3) (dTup (Zd (dC (.str "+")) (Zd (dC (.str "-")) Zo))))) (ZX (ZG oEq (Zf 1) (VH Zo)))) (QJ (dC .non)) QD)
 (ZV (dPar 4 5 (Zd (dC (.int 1)) (Zd (ZG Ua (Zf 1) (dC (.int 0))) Zo)))
 (ZV (Jv (Bq (ZX (dCall 1 gH (Zd (Zf 5) Zo)))) (ZV (Jo 4 (dCall 1 Es (Zd (Zf 5) Zo)))
 (ZV (Jv (Ew (ZX (ZG (RM false) (Zf 4) (dC .non))) (Ew (ZX (ZG oLt (Zf 4) (dC (.int 2)))) (ZX (ZG oLt (Qp BZ (Zd (Zf 1) Zo)) (dC (.int 2)))))) (QJ (dC .non)) QD)
 (Jo 1 (Ke (Zf 1) (Vg (dC (.int 1))) Jj)))) QD)
 (ZV (Xk (Zf 2) (dTup (Zd (Kc (ZX (ZG oEq (Zf 3) (dC (.str "+")))) (Zf 4) (ZG ZhR (dC (.int 0)) (Zf 4))) (Zd (ZG Ua (Zf 1) (dC (.int 0))) Zo))))
 (Jo 1 (Ke (Zf 1) (Vg (dC (.int 1))) Jj))))))))
 (QJ (Qp BK (Zd (Zf 2) Zo))))))))
def d8:FS:=(ZP (Ql (Zw (Zz Uc (fVar 0) (fC (.str "0")))) (Qg (QM Zm)) ZS)
 (ZP (Qu 1 (Oo (fVar 0) (fC (.str " "))))
 (ZP (Ql (Zw (xP (Zz Jt (fVar 1) (fC (.int 0))) (fC (.str "-")))) (Qu 1 (ZlW (Zb (fC (.str "-")) (Zb (Lk (Zz Jt (fVar 1) (fC (.int 0))) (JH (fC (.int 1))) Qq) (ZoT (Lk (fVar 1) (JH (fC (.int 1))) Qq) Zm))))) (Qu 1 (ZlW (Zb (fC (.str "+")) (ZoT (fVar 1) Zm)))))
 (ZP (Qu 2 (JX Zm))
 (ZP (Kr (Zw (Zz Wo (fVar 1) (JX Zm))) (ZP (ZoC (fVar 1) (yN (QX (Zv 3) (QX (Zv 1) Bx))))
 (ZP (Ql (Br (Zw (Zz (gIn true) (fVar 3) (QM (Zb (fC (.str "+")) (Zb (fC (.str "-")) Zm))))) (Zw (Zz Uc (fVar 1) (JX Zm)))) (Qg (fC .non)) ZS)
 (ZP (Mu [4,5] [(fC (.int 1)),(Zz Jt (fVar 1) (fC (.int 0)))])
 (ZP (Ql (Yt (Zw (ZL U5 (Zb (fVar 5) Zm)))) (ZP (Qu 4 (ZL Gp (Zb (fVar 5) Zm)))
 (ZP (Ql (Br (Zw (Zz (Uw false) (fVar 4) (fC .non))) (Br (Zw (Zz jy (fVar 4) (fC (.int 2)))) (Zw (Zz jy (Qm YS (fVar 1)) (fC (.int 2)))))) (Qg (fC .non)) ZS)
 (Qu 1 (Lk (fVar 1) (JH (fC (.int 1))) Qq)))) ZS)
 (ZP (Nf 2 (QM (Zb (Ln (Zw (Zz Uc (fVar 3) (fC (.str "+")))) (fVar 4) (Zz gSub (fC (.int 0)) (fVar 4))) (Zb (Zz Jt (fVar 1) (fC (.int 0))) Zm))))
 (Qu 1 (Lk (fVar 1) (JH (fC (.int 1))) Qq))))))) [3,4,5] 1000000)
 (Qg (Qm BL (fVar 2))))))))
def Wu:FF:=fun ds=>(d8 (ZC mU ds)).fn
abbrev mV:Fn:=pF Wu
theorem ZiL: ∀ds s R E,ds.length=1→mV ds s R E→ZaL (Qx R E) (ZC mU ds) s:=Bu (f:=d8) (M:=[2]) (ZK (Q6 (Zx (ZD NZ (Ze 0) (Zk _))) (Qc (QG Zu)) Z8)
 (ZK (Jr 1 (DN (Ze 0) (Zk _)))
 (ZK (Q6 (Zx (Zdo (Jd Vf (Zy (Ze 1)) (Zy (Zk _))) (Zk _))) (Jr 1 (ZjZ (Zd8 (Zk _) (Zd8 (UJ (Zy (Jd Vf (Zy (Ze 1)) (Zy (Zk _)))) (Ym (Zk _)) Yl) (Zmy (Zy (UJ (Zy (Ze 1)) (Ym (Zk _)) Yl)) Zmx))))) (Jr 1 (ZjZ (Zd8 (Zk _) (Zmy (Zy (Ze 1)) Zmx)))))
 (ZK (pC 2 (qU Zu))
 (ZK (Zfj (W:=[3,4,5]) 1000000 (Zx (ZD fX (Ze 1) (Ud Zu))) (ZK (ZrY (Ze 1) (Zp5 (JQ (Qn 3) (JQ (Qn 1) O9))))
 (ZK (Q6 (V6 (Zx (ZD (jL _) (Ze 3) (QG (Zh (Zk _) (Zh (Zk _) Zu))))) (Zx (ZD NZ (Ze 1) (Ud Zu)))) (Qc (Zk _)) Z8)
 (ZK (Zhd (.val (by decide) (Zk _) (.val (by decide) (Jd Vf (Zy (Ze 1)) (Zy (Zk _))) .nil)))
 (ZK (Q6 (YC (Zx (Qv (Zh (Ze 5) Zu)))) (ZK (Jr 4 (Qv (Zh (Ze 5) Zu)))
 (ZK (Q6 (V6 (Zx (ZD (jM _) (Ze 4) (Zk _))) (V6 (Zx (ZD (Vh _) (Ze 4) (Zk _))) (Zx (ZD (Vh _) (JZ GF (Zy (Ze 1))) (Zk _))))) (Qc (Zk _)) Z8)
 (Jr 1 (UJ (Zy (Ze 1)) (Ym (Zk _)) Yl)))) Z8)
 (ZK (Bf 2 (QG (Zh (UL (Zx (ZD NZ (Ze 3) (Zk _))) (Ze 4) (ZD (Vh _) (Zk _) (Ze 4))) (Zh (Jd Vf (Zy (Ze 1)) (Zy (Zk _))) Zu))))
 (Jr 1 (UJ (Zy (Ze 1)) (Ym (Zk _)) Yl))))))))
 (Qc (JZ X6 (aM 2))))))))
abbrev GX:List Str:=["_law_formula_here","_law_cases","_law_case","_law_tests","_law_terms_here","_law_op","_law_number"]
def Kw:Yh:=(ZV (Jo 1 (cD Zo))
 (ZV (Xj (Vy (Zf 0)) (Z6 2) (ZV (Jo 3 (Ad (Vy (Zf 2)) (Nz 3 (Jm (Z6 4) (Jm (Z6 5) (Jm (Z6 6) Ny)))) Mj (ZG JN (ZG JN (ZG JN (ZG JN (dCall 1 Xb (Zd (Zf 4) Zo)) (dC (.str " "))) (Zf 5)) (dC (.str " "))) (Qp Zib (Zd (Zf 6) Zo))) [4,5,6]))
 (Xk (Zf 1) (Kc (ZX (ZG Zbf (Zf 3) (VH Zo))) (Ea (dC (.str " & ")) (Zf 3)) (dC (.str "always"))))))
 (ZlM 1 (QJ (Kc (ZX (ZG Zbf (Zf 1) (VH Zo))) (Ea (dC (.str " | ")) (Zf 1)) (dC (.str "never")))))))
def Ls:FS:=(ZP (Qu 1 (JX Zm))
 (ZP (Oh (Jg (fVar 0)) (Zv 2) (ZP (Qu 3 (R5 (Jg (fVar 2)) (NK 3 (QX (Zv 4) (QX (Zv 5) (QX (Zv 6) Bx)))) Ux (Zz Z9 (Zz Z9 (Zz Z9 (Zz Z9 (ZL YM (Zb (fVar 4) Zm)) (fC (.str " "))) (fVar 5)) (fC (.str " "))) (Qm jR (fVar 6))) [4,5,6]))
 (Nf 1 (Ln (Zw (Zz jK (fVar 3) (JX Zm))) (Ec (fC (.str " & ")) (fVar 3)) (fC (.str "always"))))) [2,3])
 (Zh0 1 (Qg (Ln (Zw (Zz jK (fVar 1) (JX Zm))) (Ec (fC (.str " | ")) (fVar 1)) (fC (.str "never")))))))
def JG:FF:=fun ds=>(Ls (ZC GX ds)).fn
abbrev Dc:Fn:=pF JG
theorem pJ: ∀ds s R E,ds.length=1→Dc ds s R E→Kw (Qx R E) (ZC GX ds) s:=Bu (f:=Ls) (M:=[1]) (ZK (pC 1 (qU Zu))
 (ZK (Oi (W:=[2,3]) (Yn (Ze 0)) (Qn 2) (ZK (Jr 3 (Cg (Yn (Ze 2)) (Km (JQ (Qn 4) (JQ (Qn 5) (JQ (Qn 6) O9)))) WT (ZD Yw (ZD Yw (ZD Yw (ZD Yw (Qv (Zh (Ze 4) Zu)) (Zk _)) (Ze 5)) (Zk _)) (JZ ZmG (Zy (Ze 6))))))
 (Bf 1 (UL (Zx (ZD Zeq (Ze 3) (Ud Zu))) (Ku (Zk _) (Zy (Ze 3))) (Zk _)))))
 (Zr0 1 (Qc (UL (Zx (ZD Zeq (Ze 1) (Ud Zu))) (Ku (Zk _) (Zy (Ze 1))) (Zk _))))))
abbrev Ig:List Str:=["_law_text","_law_words","_law_found","_law_sign","_law_size"]
def iw:Yh:=(ZV (Jv (ZX (ZG oEq (Zf 0) (dC (.str "0")))) (QJ (dTup Zo)) QD)
 (ZV (dPar 1 2 (Zd (Pr (Zf 0) (dC (.str " "))) (Zd (cD Zo) Zo)))
 (ZV (Jo 1 (ZG JN (Kc (ZX (ZG oEq (Ke (ZG Ua (Zf 1) (dC (.int 0))) Jj (Vg (dC (.int 1)))) (dC (.str "-")))) (VH (Zd (dC (.str "-")) (Zd (Ke (ZG Ua (Zf 1) (dC (.int 0))) (Vg (dC (.int 1))) Jj) Zo))) (VH (Zd (dC (.str "+")) (Zd (ZG Ua (Zf 1) (dC (.int 0))) Zo)))) (Ke (Zf 1) (Vg (dC (.int 1))) Jj)))
 (ZV (yd (ZX (ZG Zbf (Zf 1) (VH Zo))) (ZV (Jv (Ew (ZX (ZG (sS true) (ZG Ua (Zf 1) (dC (.int 0))) (VH (Zd (dC (.str "+")) (Zd (dC (.str "-")) Zo))))) (ZX (ZG oLt (Qp BZ (Zd (Zf 1) Zo)) (dC (.int 2))))) (QJ (dC .non)) QD)
 (ZV (ZlL 3 4 1 (Zd (ZG Ua (Zf 1) (dC (.int 0))) (Zd (dC (.int 1)) (Zd (Ke (Zf 1) (Vg (dC (.int 1))) Jj) Zo))))
 (ZV (Jv (Bq (ZX (dCall 1 Fb (Zd (ZG Ua (Zf 1) (dC (.int 0))) Zo)))) (ZV (Jo 4 (dCall 1 Oq (Zd (ZG Ua (Zf 1) (dC (.int 0))) Zo)))
 (ZV (Jv (Ew (ZX (ZG (RM false) (Zf 4) (dC .non))) (Ew (ZX (ZG oLt (Zf 4) (dC (.int 2)))) (ZX (ZG oLt (Qp BZ (Zd (Zf 1) Zo)) (dC (.int 2)))))) (QJ (dC .non)) QD)
 (Jo 1 (Ke (Zf 1) (Vg (dC (.int 1))) Jj)))) QD)
 (ZV (Xk (Zf 2) (dTup (Zd (Kc (ZX (ZG oEq (Zf 3) (dC (.str "+")))) (Zf 4) (ZG ZhR (dC (.int 0)) (Zf 4))) (Zd (ZG Ua (Zf 1) (dC (.int 0))) Zo))))
 (Jo 1 (Ke (Zf 1) (Vg (dC (.int 1))) Jj)))))))
 (QJ (Qp BK (Zd (Zf 2) Zo)))))))
def Pu:FS:=(ZP (Ql (Zw (Zz Uc (fVar 0) (fC (.str "0")))) (Qg (QM Zm)) ZS)
 (ZP (Mu [1,2] [(Oo (fVar 0) (fC (.str " "))),(JX Zm)])
 (ZP (Qu 1 (Zz Z9 (Ln (Zw (Zz Uc (Lk (Zz Jt (fVar 1) (fC (.int 0))) Qq (JH (fC (.int 1)))) (fC (.str "-")))) (JX (Zb (fC (.str "-")) (Zb (Lk (Zz Jt (fVar 1) (fC (.int 0))) (JH (fC (.int 1))) Qq) Zm))) (JX (Zb (fC (.str "+")) (Zb (Zz Jt (fVar 1) (fC (.int 0))) Zm)))) (Lk (fVar 1) (JH (fC (.int 1))) Qq)))
 (ZP (Kr (Zw (Zz jK (fVar 1) (JX Zm))) (ZP (Ql (Br (Zw (Zz (gIn true) (Zz Jt (fVar 1) (fC (.int 0))) (JX (Zb (fC (.str "+")) (Zb (fC (.str "-")) Zm))))) (Zw (Zz jy (Qm YS (fVar 1)) (fC (.int 2))))) (Qg (fC .non)) ZS)
 (ZP (Mu [3,4,1] [(Zz Jt (fVar 1) (fC (.int 0))),(fC (.int 1)),(Lk (fVar 1) (JH (fC (.int 1))) Qq)])
 (ZP (Ql (Yt (Zw (ZL Uy (Zb (Zz Jt (fVar 1) (fC (.int 0))) Zm)))) (ZP (Qu 4 (ZL YD (Zb (Zz Jt (fVar 1) (fC (.int 0))) Zm)))
 (ZP (Ql (Br (Zw (Zz (Uw false) (fVar 4) (fC .non))) (Br (Zw (Zz jy (fVar 4) (fC (.int 2)))) (Zw (Zz jy (Qm YS (fVar 1)) (fC (.int 2)))))) (Qg (fC .non)) ZS)
 (Qu 1 (Lk (fVar 1) (JH (fC (.int 1))) Qq)))) ZS)
 (ZP (Nf 2 (QM (Zb (Ln (Zw (Zz Uc (fVar 3) (fC (.str "+")))) (fVar 4) (Zz gSub (fC (.int 0)) (fVar 4))) (Zb (Zz Jt (fVar 1) (fC (.int 0))) Zm))))
 (Qu 1 (Lk (fVar 1) (JH (fC (.int 1))) Qq)))))) [3,4] 1000000)
 (Qg (Qm BL (fVar 2)))))))
def V7:FF:=fun ds=>(Pu (ZC Ig ds)).fn
abbrev Ih:Fn:=pF V7
theorem Zbt: ∀ds s R E,ds.length=1→Ih ds s R E→iw (Qx R E) (ZC Ig ds) s:=Bu (f:=Pu) (M:=[2]) (ZK (Q6 (Zx (ZD NZ (Ze 0) (Zk _))) (Qc (QG Zu)) Z8)
 (ZK (Zhd (.val (by decide) (DN (Ze 0) (Zk _)) (.chg (by decide) (qU Zu) .nil)))
 (ZK (Jr 1 (ZD Yw (UL (Zx (ZD NZ (UJ (Zy (Jd Vf (Zy (Ze 1)) (Zy (Zk _)))) Yl (Ym (Zk _))) (Zk _))) (Ud (Zh (Zk _) (Zh (UJ (Zy (Jd Vf (Zy (Ze 1)) (Zy (Zk _)))) (Ym (Zk _)) Yl) Zu))) (Ud (Zh (Zk _) (Zh (Jd Vf (Zy (Ze 1)) (Zy (Zk _))) Zu)))) (UJ (Zy (Ze 1)) (Ym (Zk _)) Yl)))
 (ZK (Zfj (W:=[3,4]) 1000000 (Zx (ZD Zeq (Ze 1) (Ud Zu))) (ZK (Q6 (V6 (Zx (ZD (jL _) (Jd Vf (Zy (Ze 1)) (Zy (Zk _))) (Ud (Zh (Zk _) (Zh (Zk _) Zu))))) (Zx (ZD (Vh _) (JZ GF (Zy (Ze 1))) (Zk _)))) (Qc (Zk _)) Z8)
 (ZK (ZpF (.val (by decide) (Jd Vf (Zy (Ze 1)) (Zy (Zk _))) (.val (by decide) (Zk _) (.val (by decide) (UJ (Zy (Ze 1)) (Ym (Zk _)) Yl) .nil))))
 (ZK (Q6 (YC (Zx (Qv (Zh (Jd Vf (Zy (Ze 1)) (Zy (Zk _))) Zu)))) (ZK (Jr 4 (Qv (Zh (Jd Vf (Zy (Ze 1)) (Zy (Zk _))) Zu)))
 (ZK (Q6 (V6 (Zx (ZD (jM _) (Ze 4) (Zk _))) (V6 (Zx (ZD (Vh _) (Ze 4) (Zk _))) (Zx (ZD (Vh _) (JZ GF (Zy (Ze 1))) (Zk _))))) (Qc (Zk _)) Z8)
 (Jr 1 (UJ (Zy (Ze 1)) (Ym (Zk _)) Yl)))) Z8)
 (ZK (Bf 2 (QG (Zh (UL (Zx (ZD NZ (Ze 3) (Zk _))) (Ze 4) (ZD (Vh _) (Zk _) (Ze 4))) (Zh (Jd Vf (Zy (Ze 1)) (Zy (Zk _))) Zu))))
 (Jr 1 (UJ (Zy (Ze 1)) (Ym (Zk _)) Yl)))))))
 (Qc (JZ X6 (aM 2)))))))
abbrev Vw:List Str:=["_law_call","_law_caught","_law_found","_law_e"]
def Hw:Act→Addr→List D→List V→Yh:=fun act f xs vs=>(ZV (wR (dTup (Zd (dC .non) (Zd (dC .non) Zo))) (Nz 2 (Jm (Z6 1) (Jm (Z6 2) Ny))))
 (ZV (zL kn ["KeptError","Missing","TooMany"] 3 1 (Jo 2 (ZkK f xs vs act)))
 (QJ (Kc (ZX (ZG (RM false) (Zf 1) (dC .non))) (VH (Zd (Zf 2) Zo)) (dCall 1 dZ (Zd (Zf 1) Zo))))))
def QT:Rs D→Rs D:=Zh2 kn ["KeptError","Missing","TooMany"] XC
theorem mW:Tells Vw Hw QT:=ZnI
abbrev Px:List Str:=["_law_m","_law_names_here","_law_text","_law_at","_law_way","_law_sign","_law_words","_law_spot","_law_there","_law_some"]
def aX:Yh:=(ZV (dPar 3 4 (Zd (dCall 2 Qz (Zd (Zf 0) (Zd (ZG JN (Qp BZ (Zd (Zf 2) Zo)) (dC (.int 1))) Zo))) (Zd (dCall 2 Qz (Zd (Zf 0) (Zd (dC (.int 8)) Zo))) Zo)))
 (ZV (Jo 5 (ZG Ua (dC (.str " 0129-+&|<=>!aA;,")) (dCall 2 Qz (Zd (Zf 0) (Zd (dC (.int 17)) Zo)))))
 (ZV (Jv (ZX (ZG oLt (Zf 4) (dC (.int 3)))) (QJ (ZG JN (ZG JN (Ke (Zf 2) Jj (Vg (Zf 3))) (ZG Ua (VH (Zd (Zf 5) (Zd (Zf 5) (Zd (dC (.str "")) Zo)))) (Zf 4))) (Ke (Zf 2) (Vg (ZG JN (Zf 3) (Qp cInt (Zd (ZG oGt (Zf 4) (dC (.int 0))) Zo)))) Jj))) QD)
 (ZV (Jo 6 (Pr (Zf 2) (dC (.str " "))))
 (ZV (dPar 7 8 (Zd (dCall 2 Qz (Zd (Zf 0) (Zd (Qp BZ (Zd (Zf 6) Zo)) Zo))) (Zd (dCall 2 Qz (Zd (Zf 0) (Zd (Qp BZ (Zd (Zf 6) Zo)) Zo))) Zo)))
 (ZV (Jo 9 (VH (Zd (dC (.str "")) (Zd (dC (.str "0")) (Zd (dC (.str "1")) (Zd (dC (.str "-1")) (Zd (dC (.str "2")) (Zd (dC (.str "10")) (Zd (dC (.str "09")) (Zd (dC (.str "-0")) (Zd (dC (.str "100")) (Zd (dC (.str "+")) (Zd (dC (.str "-")) (Zd (dC (.str "&")) (Zd (dC (.str "|")) (Zd (dC (.str "=")) (Zd (dC (.str "!=")) (Zd (dC (.str "==")) (Zd (dC (.str "always")) (Zd (dC (.str "never")) Zo))))))))))))))))))))
 (ZV (Jo 9 (ZG JN (Zf 9) (VH (Zd (ZG Ua (Zf 1) (dC (.int 0))) (Zd (ZG JN (dC (.str "-")) (ZG Ua (Zf 1) (sH Ml (dC (.int 1))))) (Zd (dC (.str "x")) (Zd (dC (.str "zz")) Zo)))))))
 (ZV (Jv (ZX (ZG oEq (Zf 4) (dC (.int 3)))) (QJ (Ea (dC (.str " ")) (ZG JN (ZG JN (Ke (Zf 6) Jj (Vg (Zf 7))) (VH (Zd (ZG Ua (Zf 9) (dCall 2 Qz (Zd (Zf 0) (Zd (dC (.int 22)) Zo)))) Zo))) (Ke (Zf 6) (Vg (ZG JN (Zf 7) (dC (.int 1)))) Jj)))) QD)
 (ZV (Jv (ZX (ZG oEq (Zf 4) (dC (.int 4)))) (QJ (Ea (dC (.str " ")) (ZG JN (ZG JN (Ke (Zf 6) Jj (Vg (Zf 7))) (VH (Zd (ZG Ua (Zf 9) (dCall 2 Qz (Zd (Zf 0) (Zd (dC (.int 22)) Zo)))) Zo))) (Ke (Zf 6) (Vg (Zf 7)) Jj)))) QD)
 (ZV (Jv (ZX (ZG oEq (Zf 4) (dC (.int 5)))) (QJ (Ea (dC (.str " ")) (ZG JN (Ke (Zf 6) Jj (Vg (Zf 7))) (Ke (Zf 6) (Vg (ZG JN (Zf 7) (dC (.int 1)))) Jj)))) QD)
 (ZV (Jv (ZX (ZG oEq (Zf 4) (dC (.int 6)))) (QJ (Ea (dC (.str " ")) (ZG JN (Ke (Zf 6) Jj (Vg (Zf 7))) (Ke (Zf 6) (Vg (Zf 8)) Jj)))) QD)
 (QJ (ZG JN (Zf 2) (ZG Ua (VH (Zd (dC (.str " | always")) (Zd (dC (.str " & 0 < 1")) (Zd (dC (.str " | never")) (Zd (ZG JN (dC (.str " | ")) (Zf 2)) (Zd (ZG JN (dC (.str " & ")) (Zf 2)) (Zd (dC (.str "
")) Zo))))))) (dCall 2 Qz (Zd (Zf 0) (Zd (dC (.int 6)) Zo)))))))))))))))))
def Tc:MS:=(Je (wD [3,4] [(QS Qh (mP (Zb (fVar 0) (Zb (Zz Z9 (Qm YS (fVar 2)) (fC (.int 1))) Zm)))),(QS Qh (mP (Zb (fVar 0) (Zb (fC (.int 8)) Zm))))])
 (Je (M4 5 (Ey Jt (mP (fC (.str " 0129-+&|<=>!aA;,"))) (QS Qh (mP (Zb (fVar 0) (Zb (fC (.int 17)) Zm))))))
 (Je (mS (Ql (Zw (Zz jy (fVar 4) (fC (.int 3)))) (Qg (Zz Z9 (Zz Z9 (Lk (fVar 2) Qq (JH (fVar 3))) (Zz Jt (JX (Zb (fVar 5) (Zb (fVar 5) (Zb (fC (.str "")) Zm)))) (fVar 4))) (Lk (fVar 2) (JH (Zz Z9 (fVar 3) (Qm Zer (Zz gGt (fVar 4) (fC (.int 0)))))) Qq))) ZS))
 (Je (mS (Qu 6 (Oo (fVar 2) (fC (.str " ")))))
 (Je (wD [7,8] [(QS Qh (mP (Zb (fVar 0) (Zb (Qm YS (fVar 6)) Zm)))),(QS Qh (mP (Zb (fVar 0) (Zb (Qm YS (fVar 6)) Zm))))])
 (Je (mS (Qu 9 (JX (Zb (fC (.str "")) (Zb (fC (.str "0")) (Zb (fC (.str "1")) (Zb (fC (.str "-1")) (Zb (fC (.str "2")) (Zb (fC (.str "10")) (Zb (fC (.str "09")) (Zb (fC (.str "-0")) (Zb (fC (.str "100")) (Zb (fC (.str "+")) (Zb (fC (.str "-")) (Zb (fC (.str "&")) (Zb (fC (.str "|")) (Zb (fC (.str "=")) (Zb (fC (.str "!=")) (Zb (fC (.str "==")) (Zb (fC (.str "always")) (Zb (fC (.str "never")) Zm)))))))))))))))))))))
 (Je (mS (Qu 9 (Zz Z9 (fVar 9) (JX (Zb (Zz Jt (fVar 1) (fC (.int 0))) (Zb (Zz Z9 (fC (.str "-")) (Zz Jt (fVar 1) (fUn TV (fC (.int 1))))) (Zb (fC (.str "x")) (Zb (fC (.str "zz")) Zm))))))))
 (Je (Zdb (mP (Zw (Zz Uc (fVar 4) (fC (.int 3))))) (xG (wI (mP (fC (.str " "))) (Ey Z9 (Ey Z9 (mP (Lk (fVar 6) Qq (JH (fVar 7)))) (Ze9 (wC (Ey Jt (mP (fVar 9)) (QS Qh (mP (Zb (fVar 0) (Zb (fC (.int 22)) Zm))))) (mP Zm)))) (mP (Lk (fVar 6) (JH (Zz Z9 (fVar 7) (fC (.int 1)))) Qq))))) (mS ZS))
 (Je (Zdb (mP (Zw (Zz Uc (fVar 4) (fC (.int 4))))) (xG (wI (mP (fC (.str " "))) (Ey Z9 (Ey Z9 (mP (Lk (fVar 6) Qq (JH (fVar 7)))) (Ze9 (wC (Ey Jt (mP (fVar 9)) (QS Qh (mP (Zb (fVar 0) (Zb (fC (.int 22)) Zm))))) (mP Zm)))) (mP (Lk (fVar 6) (JH (fVar 7)) Qq))))) (mS ZS))
 (Je (mS (Ql (Zw (Zz Uc (fVar 4) (fC (.int 5)))) (Qg (Ec (fC (.str " ")) (Zz Z9 (Lk (fVar 6) Qq (JH (fVar 7))) (Lk (fVar 6) (JH (Zz Z9 (fVar 7) (fC (.int 1)))) Qq)))) ZS))
 (Je (mS (Ql (Zw (Zz Uc (fVar 4) (fC (.int 6)))) (Qg (Ec (fC (.str " ")) (Zz Z9 (Lk (fVar 6) Qq (JH (fVar 7))) (Lk (fVar 6) (JH (fVar 8)) Qq)))) ZS))
 (xG (Ey Z9 (mP (fVar 2)) (Ey Jt (mP (JX (Zb (fC (.str " | always")) (Zb (fC (.str " & 0 < 1")) (Zb (fC (.str " | never")) (Zb (Zz Z9 (fC (.str " | ")) (fVar 2)) (Zb (Zz Z9 (fC (.str " & ")) (fVar 2)) (Zb (fC (.str "
")) Zm)))))))) (QS Qh (mP (Zb (fVar 0) (Zb (fC (.int 6)) Zm))))))))))))))))))
def Ye:MF:=fun ds=>mfn (Tc (ZC Px ds))
abbrev Ot:Fn:=pM Ye
theorem uJ:PM Ot Ye:=ZuD
theorem yP: ∀ds s R E,ds.length=3→Ot ds s R E→aX (Qx R E) (ZC Px ds) s:=ZuF (f:=Tc) (M:=[]) (VB (ZmB (.val (by decide) (Gz Um (MP (Zh (Ze 0) (Zh (ZD Yw (JZ GF (Zy (Ze 2))) (Zk _)) Zu)))) (.val (by decide) (Gz Um (MP (Zh (Ze 0) (Zh (Zk _) Zu)))) .nil)))
 (VB (yJ 5 (yI Vf (Zeu (Zy (Zk _))) (Zev (Gz Um (MP (Zh (Ze 0) (Zh (Zk _) Zu)))))))
 (VB (Ci (Q6 (Zx (ZD (Vh _) (Ze 4) (Zk _))) (Qc (ZD Yw (ZD Yw (UJ (Zy (Ze 2)) Yl (Ym (Ze 3))) (Jd Vf (Zy (Ud (Zh (Ze 5) (Zh (Ze 5) (Zh (Zk _) Zu))))) (Zy (Ze 4)))) (UJ (Zy (Ze 2)) (Ym (ZD Yw (Ze 3) (JZ Zux (Zy (ZD (Vh _) (Ze 4) (Zk _)))))) Yl))) Z8))
 (VB (Ci (Jr 6 (DN (Ze 2) (Zk _))))
 (VB (ZmB (.val (by decide) (Gz Um (MP (Zh (Ze 0) (Zh (JZ GF (Zy (Ze 6))) Zu)))) (.val (by decide) (Gz Um (MP (Zh (Ze 0) (Zh (JZ GF (Zy (Ze 6))) Zu)))) .nil)))
 (VB (Ci (Jr 9 (Ud (Zh (Zk _) (Zh (Zk _) (Zh (Zk _) (Zh (Zk _) (Zh (Zk _) (Zh (Zk _) (Zh (Zk _) (Zh (Zk _) (Zh (Zk _) (Zh (Zk _) (Zh (Zk _) (Zh (Zk _) (Zh (Zk _) (Zh (Zk _) (Zh (Zk _) (Zh (Zk _) (Zh (Zk _) (Zh (Zk _) Zu)))))))))))))))))))))
 (VB (Ci (Jr 9 (ZD Yw (Ze 9) (Ud (Zh (Jd Vf (Zy (Ze 1)) (Zy (Zk _))) (Zh (ZD Yw (Zk _) (Jd Vf (Zy (Ze 1)) (Zy (cR cU (Zk _))))) (Zh (Zk _) (Zh (Zk _) Zu))))))))
 (VB (ZqW (ZqT (Zx (ZD NZ (Ze 4) (Zk _)))) (Zhj (Zj8 (wB (Zk _)) (Zew Yw (Zew Yw (wB (UJ (Zy (Ze 6)) Yl (Ym (Ze 7)))) (Zmz (ZjY (yI Vf (Zeu (Zy (Ze 9))) (Zev (Gz Um (MP (Zh (Ze 0) (Zh (Zk _) Zu)))))) (MP Zu)))) (wB (UJ (Zy (Ze 6)) (Ym (ZD Yw (Ze 7) (Zk _))) Yl))))) (Ci Z8))
 (VB (ZqW (ZqT (Zx (ZD NZ (Ze 4) (Zk _)))) (Zhj (Zj8 (wB (Zk _)) (Zew Yw (Zew Yw (wB (UJ (Zy (Ze 6)) Yl (Ym (Ze 7)))) (Zmz (ZjY (yI Vf (Zeu (Zy (Ze 9))) (Zev (Gz Um (MP (Zh (Ze 0) (Zh (Zk _) Zu)))))) (MP Zu)))) (wB (UJ (Zy (Ze 6)) (Ym (Ze 7)) Yl))))) (Ci Z8))
 (VB (Ci (Q6 (Zx (ZD NZ (Ze 4) (Zk _))) (Qc (Ku (Zk _) (Zy (ZD Yw (UJ (Zy (Ze 6)) Yl (Ym (Ze 7))) (UJ (Zy (Ze 6)) (Ym (ZD Yw (Ze 7) (Zk _))) Yl))))) Z8))
 (VB (Ci (Q6 (Zx (ZD NZ (Ze 4) (Zk _))) (Qc (Ku (Zk _) (Zy (ZD Yw (UJ (Zy (Ze 6)) Yl (Ym (Ze 7))) (UJ (Zy (Ze 6)) (Ym (Ze 8)) Yl))))) Z8))
 (Zhj (Zew Yw (wB (Ze 2)) (yI Vf (Zeu (Zy (Ud (Zh (Zk _) (Zh (Zk _) (Zh (Zk _) (Zh (ZD Yw (Zk _) (Ze 2)) (Zh (ZD Yw (Zk _) (Ze 2)) (Zh (Zk _) Zu))))))))) (Zev (Gz Um (MP (Zh (Ze 0) (Zh (Zk _) Zu)))))))))))))))))))
abbrev CN:List Str:=["formula","case"]
def iy:Yh:=(QJ (Kc (ZX (ZG uW (Zf 0) (dTup Zo))) (Ea (dC (.str " | ")) (Ad (Vy (Zf 0)) (Z6 1) Mj (dCall 1 d7 (Zd (Zf 1) Zo)) [1])) (dC (.str "never"))))
def Py:FS:=(Qg (Ln (Zw (Zz Wo (fVar 0) (QM Zm))) (Ec (fC (.str " | ")) (R5 (Jg (fVar 0)) (Zv 1) Ux (ZL O5 (Zb (fVar 1) Zm)) [1])) (fC (.str "never"))))
def JR:FF:=fun ds=>(Py (ZC CN ds)).fn
abbrev CP:Fn:=pF JR
theorem Zbu: ∀ds s R E,ds.length=1→CP ds s R E→iy (Qx R E) (ZC CN ds) s:=Bu (f:=Py) (M:=[]) (Qc (UL (Zx (ZD fX (Ze 0) (QG Zu))) (Ku (Zk _) (Zy (Cg (Yn (Ze 0)) (Qn 1) WT (Qv (Zh (Ze 1) Zu))))) (Zk _)))
abbrev tU:List Str:=["text","words","terms","number"]
def Zds:Yh:=(ZV (Jo 1 (Pr (Zf 0) (dC (.str " "))))
 (ZV (Jv (Ew (ZX (ZG oLt (Qp BZ (Zd (Zf 1) Zo)) (dC (.int 3)))) (ZX (ZG (sS true) (ZG Ua (Zf 1) (sH Ml (dC (.int 2)))) (dC (.tup [(.str "="),(.str "!="),(.str "<"),(.str "<="),(.str ">"),(.str ">=")]))))) (QJ (dC .non)) QD)
 (ZV (dPar 2 3 (Zd (dCall 1 mV (Zd (Ea (dC (.str " ")) (Ke (Zf 1) Jj (Vg (sH Ml (dC (.int 2)))))) Zo)) (Zd (dCall 1 Es (Zd (ZG Ua (Zf 1) (sH Ml (dC (.int 1)))) Zo)) Zo)))
 (QJ (Kc (Ew (ZX (ZG (RM false) (Zf 2) (dC .non))) (ZX (ZG (RM false) (Zf 3) (dC .non)))) (dC .non) (dTup (Zd (Zf 2) (Zd (ZG Ua (Zf 1) (sH Ml (dC (.int 2)))) (Zd (Zf 3) Zo)))))))))
def mX:FS:=(ZP (Qu 1 (Oo (fVar 0) (fC (.str " "))))
 (ZP (Ql (Br (Zw (Zz jy (Qm YS (fVar 1)) (fC (.int 3)))) (Zw (Zz (gIn true) (Zz Jt (fVar 1) (fUn TV (fC (.int 2)))) (fC (.tup [(.str "="),(.str "!="),(.str "<"),(.str "<="),(.str ">"),(.str ">=")]))))) (Qg (fC .non)) ZS)
 (ZP (Mu [2,3] [(ZL Wu (Zb (Ec (fC (.str " ")) (Lk (fVar 1) Qq (JH (fUn TV (fC (.int 2)))))) Zm)),(ZL Gp (Zb (Zz Jt (fVar 1) (fUn TV (fC (.int 1)))) Zm))])
 (Qg (Ln (Br (Zw (Zz (Uw false) (fVar 2) (fC .non))) (Zw (Zz (Uw false) (fVar 3) (fC .non)))) (fC .non) (QM (Zb (fVar 2) (Zb (Zz Jt (fVar 1) (fUn TV (fC (.int 2)))) (Zb (fVar 3) Zm)))))))))
def M7:FF:=fun ds=>(mX (ZC tU ds)).fn
abbrev tV:Fn:=pF M7
theorem Zk8: ∀ds s R E,ds.length=1→tV ds s R E→Zds (Qx R E) (ZC tU ds) s:=Bu (f:=mX) (M:=[]) (ZK (Jr 1 (DN (Ze 0) (Zk _)))
 (ZK (Q6 (V6 (Zx (ZD (Vh _) (JZ GF (Zy (Ze 1))) (Zk _))) (Zx (ZD (jL _) (Jd Vf (Zy (Ze 1)) (Zy (cR cU (Zk _)))) (Zk _)))) (Qc (Zk _)) Z8)
 (ZK (Zhd (.val (by decide) (Qv (Zh (Ku (Zk _) (Zy (UJ (Zy (Ze 1)) Yl (Ym (cR cU (Zk _)))))) Zu)) (.val (by decide) (Qv (Zh (Jd Vf (Zy (Ze 1)) (Zy (cR cU (Zk _)))) Zu)) .nil)))
 (Qc (UL (V6 (Zx (ZD (jM _) (Ze 2) (Zk _))) (Zx (ZD (jM _) (Ze 3) (Zk _)))) (Zk _) (QG (Zh (Ze 2) (Zh (Jd Vf (Zy (Ze 1)) (Zy (cR cU (Zk _)))) (Zh (Ze 3) Zu)))))))))
abbrev iz:List Str:=["text","found","part"]
def Zdt:Yh:=(ZV (Jv (ZX (ZG oEq (Zf 0) (dC (.str "always")))) (QJ (dTup Zo)) QD)
 (ZV (Jo 1 (Ad (Vy (Pr (Zf 0) (dC (.str " & ")))) (Z6 2) Mj (dCall 1 tV (Zd (Zf 2) Zo)) [2]))
 (QJ (Kc (ZX (ZG (sS false) (dC .non) (Zf 1))) (dC .non) (Qp BK (Zd (Zf 1) Zo))))))
def mY:FS:=(ZP (Ql (Zw (Zz Uc (fVar 0) (fC (.str "always")))) (Qg (QM Zm)) ZS)
 (ZP (Qu 1 (R5 (Jg (Oo (fVar 0) (fC (.str " & ")))) (Zv 2) Ux (ZL M7 (Zb (fVar 2) Zm)) [2]))
 (Qg (Ln (Zw (Zz (gIn false) (fC .non) (fVar 1))) (fC .non) (Qm BL (fVar 1))))))
def M8:FF:=fun ds=>(mY (ZC iz ds)).fn
abbrev tW:Fn:=pF M8
theorem Zk9: ∀ds s R E,ds.length=1→tW ds s R E→Zdt (Qx R E) (ZC iz ds) s:=Bu (f:=mY) (M:=[]) (ZK (Q6 (Zx (ZD NZ (Ze 0) (Zk _))) (Qc (QG Zu)) Z8)
 (ZK (Jr 1 (Cg (Yn (DN (Ze 0) (Zk _))) (Qn 2) WT (Qv (Zh (Ze 2) Zu))))
 (Qc (UL (Zx (ZD (jL _) (Zk _) (Ze 1))) (Zk _) (JZ X6 (Zy (Ze 1)))))))
abbrev Xd:List Str:=["_law_names_here","_law_text","_law_cases","_law_part","_law_case","_law_piece","_law_words","_law_terms_here","_law_number"]
def Td:Yh:=(ZV (Jv (ZX (ZG oEq (Zf 1) (dC (.str "never")))) (QJ (dTup Zo)) QD)
 (ZV (Jo 2 (cD Zo))
 (ZV (Xj (Vy (Pr (Zf 1) (dC (.str " | ")))) (Z6 3) (ZV (Jo 4 (cD Zo))
 (ZV (Xj (Vy (Kc (ZX (ZG uW (Zf 3) (dC (.str "always")))) (Pr (Zf 3) (dC (.str " & "))) (VH Zo))) (Z6 5) (ZV (Jo 6 (Pr (Zf 5) (dC (.str " "))))
 (ZV (Jo 7 (Kc (ZX (ZG oGt (Qp BZ (Zd (Zf 6) Zo)) (dC (.int 2)))) (dCall 1 Ih (Zd (Ea (dC (.str " ")) (Ke (Zf 6) Jj (Vg (sH Ml (dC (.int 2)))))) Zo)) (dC .non)))
 (ZV (Jo 8 (dCall 1 Oq (Zd (ZG Ua (Zf 6) (sH Ml (dC (.int 1)))) Zo)))
 (ZV (Jv (Ew (ZX (ZG (RM false) (Zf 7) (dC .non))) (ZX (ZG (RM false) (Zf 8) (dC .non)))) (QJ (dC .non)) QD)
 (Xk (Zf 4) (dTup (Zd (Zf 7) (Zd (ZG Ua (Zf 6) (sH Ml (dC (.int 2)))) (Zd (Zf 8) Zo))))))))))
 (Xk (Zf 2) (Qp BK (Zd (Zf 4) Zo))))))
 (QJ (Kc (ZX (ZG (RM false) (dCall 2 Lr (Zd (Zf 0) (Zd (Qp BK (Zd (Zf 2) Zo)) Zo))) (dC .non))) (Qp BK (Zd (Zf 2) Zo)) (dC .non))))))
def CW:FS:=(ZP (Ql (Zw (Zz Uc (fVar 1) (fC (.str "never")))) (Qg (QM Zm)) ZS)
 (ZP (Qu 2 (JX Zm))
 (ZP (Oh (Jg (Oo (fVar 1) (fC (.str " | ")))) (Zv 3) (ZP (Qu 4 (JX Zm))
 (ZP (Oh (Jg (Ln (Zw (Zz Wo (fVar 3) (fC (.str "always")))) (Oo (fVar 3) (fC (.str " & "))) (JX Zm))) (Zv 5) (ZP (Qu 6 (Oo (fVar 5) (fC (.str " "))))
 (ZP (Qu 7 (Ln (Zw (Zz gGt (Qm YS (fVar 6)) (fC (.int 2)))) (ZL V7 (Zb (Ec (fC (.str " ")) (Lk (fVar 6) Qq (JH (fUn TV (fC (.int 2)))))) Zm)) (fC .non)))
 (ZP (Qu 8 (ZL YD (Zb (Zz Jt (fVar 6) (fUn TV (fC (.int 1)))) Zm)))
 (ZP (Ql (Br (Zw (Zz (Uw false) (fVar 7) (fC .non))) (Zw (Zz (Uw false) (fVar 8) (fC .non)))) (Qg (fC .non)) ZS)
 (Nf 4 (QM (Zb (fVar 7) (Zb (Zz Jt (fVar 6) (fUn TV (fC (.int 2)))) (Zb (fVar 8) Zm))))))))) [8,5,7,6])
 (Nf 2 (Qm BL (fVar 4))))) [4,8,3,5,7,6])
 (Qg (Ln (Zw (Zz (Uw false) (ZL Vb (Zb (fVar 0) (Zb (Qm BL (fVar 2)) Zm))) (fC .non))) (Qm BL (fVar 2)) (fC .non))))))
def Ju:FF:=fun ds=>(CW (ZC Xd ds)).fn
abbrev Xe:Fn:=pF Ju
theorem uK: ∀ds s R E,ds.length=2→Xe ds s R E→Td (Qx R E) (ZC Xd ds) s:=Bu (f:=CW) (M:=[2,4]) (ZK (Q6 (Zx (ZD NZ (Ze 1) (Zk _))) (Qc (QG Zu)) Z8)
 (ZK (pC 2 (qU Zu))
 (ZK (Oi (W:=[4,8,3,5,7,6]) (Yn (DN (Ze 1) (Zk _))) (Qn 3) (ZK (pC 4 (qU Zu))
 (ZK (Oi (W:=[8,5,7,6]) (Yn (UL (Zx (ZD fX (Ze 3) (Zk _))) (DN (Ze 3) (Zk _)) (Ud Zu))) (Qn 5) (ZK (Jr 6 (DN (Ze 5) (Zk _)))
 (ZK (Jr 7 (UL (Zx (ZD (Vh _) (JZ GF (Zy (Ze 6))) (Zk _))) (Qv (Zh (Ku (Zk _) (Zy (UJ (Zy (Ze 6)) Yl (Ym (cR cU (Zk _)))))) Zu)) (Zk _)))
 (ZK (Jr 8 (Qv (Zh (Jd Vf (Zy (Ze 6)) (Zy (cR cU (Zk _)))) Zu)))
 (ZK (Q6 (V6 (Zx (ZD (jM _) (Ze 7) (Zk _))) (Zx (ZD (jM _) (Ze 8) (Zk _)))) (Qc (Zk _)) Z8)
 (Bf 4 (QG (Zh (Ze 7) (Zh (Jd Vf (Zy (Ze 6)) (Zy (cR cU (Zk _)))) (Zh (Ze 8) Zu))))))))))
 (Bf 2 (JZ X6 (aM 4))))))
 (Qc (UL (Zx (ZD (jM _) (Qv (Zh (Ze 0) (Zh (JZ X6 (aM 2)) Zu))) (Zk _))) (JZ X6 (aM 2)) (Zk _))))))
abbrev M9:List Str:=["cells","text","found","part"]
def rE:Yh:=(ZV (Jv (ZX (ZG oEq (Zf 1) (dC (.str "never")))) (QJ (dTup Zo)) QD)
 (ZV (Jo 2 (Ad (Vy (Pr (Zf 1) (dC (.str " | ")))) (Z6 3) Mj (dCall 1 tW (Zd (Zf 3) Zo)) [3]))
 (ZV (Jv (ZX (ZG (sS false) (dC .non) (Zf 2))) (QJ (dC .non)) QD)
 (Zre ["BadFormula"] "BadFormula" (QJ (dCall 2 HW (Zd (Zf 0) (Zd (Qp BK (Zd (Zf 2) Zo)) Zo)))) (QJ (dC .non))))))
def Fl:FS:=(ZP (Ql (Zw (Zz Uc (fVar 1) (fC (.str "never")))) (Qg (QM Zm)) ZS)
 (ZP (Qu 2 (R5 (Jg (Oo (fVar 1) (fC (.str " | ")))) (Zv 3) Ux (ZL M8 (Zb (fVar 3) Zm)) [3]))
 (ZP (Ql (Zw (Zz (gIn false) (fC .non) (fVar 2))) (Qg (fC .non)) ZS)
 (ZoD ["BadFormula"] "BadFormula" (Qg (ZL Y6 (Zb (fVar 0) (Zb (Qm BL (fVar 2)) Zm)))) (Qg (fC .non))))))
def NP:FF:=fun ds=>(Fl (ZC M9 ds)).fn
abbrev Ao:Fn:=pF NP
theorem ZeE: ∀ds s R E,ds.length=2→Ao ds s R E→rE (Qx R E) (ZC M9 ds) s:=Bu (f:=Fl) (M:=[]) (ZK (Q6 (Zx (ZD NZ (Ze 1) (Zk _))) (Qc (QG Zu)) Z8)
 (ZK (Jr 2 (Cg (Yn (DN (Ze 1) (Zk _))) (Qn 3) WT (Qv (Zh (Ze 3) Zu))))
 (ZK (Q6 (Zx (ZD (jL _) (Zk _) (Ze 2))) (Qc (Zk _)) Z8)
 (Zr1 (Qc (Qv (Zh (Ze 0) (Zh (JZ X6 (Zy (Ze 2))) Zu)))) (Qc (Zk _))))))
abbrev Ii:List Str:=["cells","text","found"]
def iD:Yh:=(ZV (Jo 2 (Kc (ZX (Qp X4 (Zd (Zf 1) (Zd (dC (.rf (.ty "str"))) Zo)))) (dCall 2 Ao (Zd (Zf 0) (Zd (Zf 1) Zo))) (dC .non)))
 (ZV (Jv (ZX (ZG (RM false) (Zf 2) (dC .non))) (qR "BadText" "line" (dC (.int 0))) QD)
 (QJ (Zf 2))))
def Ou:FS:=(ZP (Qu 2 (Ln (Zw (Qm (VP "str") (fVar 1))) (ZL NP (Zb (fVar 0) (Zb (fVar 1) Zm))) (fC .non)))
 (ZP (Ql (Zw (Zz (Uw false) (fVar 2) (fC .non))) (X8 "BadText" "line" (fC (.int 0))) ZS)
 (Qg (fVar 2))))
def ZR:FF:=fun ds=>(Ou (ZC Ii ds)).fn
abbrev V8:Fn:=pF ZR
theorem Zbv: ∀ds s R E,ds.length=2→V8 ds s R E→iD (Qx R E) (ZC Ii ds) s:=Bu (f:=Ou) (M:=[]) (ZK (Jr 2 (UL (Zx (Bc "str" (Ze 1))) (Qv (Zh (Ze 0) (Zh (Ze 1) Zu))) (Zk _)))
 (ZK (Q6 (Zx (ZD (jM _) (Ze 2) (Zk _))) (qp (Zk _)) Z8)
 (Qc (Ze 2))))
abbrev CZ:List Str:=["_law_cells_here","_law_names_here","_law_nines","_law_text","_law_own","_law_due"]
def Ez:Yh:=(ZV (Jo 2 (ZG ZeB (dC (.str "9")) (dC (.int 5000))))
 (ZV (Xj (Vy (dTup (Zd (ZG JN (ZG JN (ZG Ua (Zf 1) (dC (.int 0))) (dC (.str " = "))) (Zf 2)) (Zd (ZG JN (ZG JN (ZG Ua (Zf 1) (dC (.int 0))) (dC (.str " = -"))) (Zf 2)) (Zd (ZG JN (ZG JN (ZG JN (Zf 2) (dC (.str " "))) (ZG Ua (Zf 1) (dC (.int 0)))) (dC (.str " = 0"))) Zo))))) (Z6 3) (Jv (ZX (ZG uW (ZkL Vw Hw (dCall 2 V8 (Zd (Zf 0) (Zd (Zf 3) Zo)))) (dTup (Zd (dC (.str "text")) (Zd (dC (.int 0)) Zo))))) (QJ (dC (.bl false))) QD))
 (ZV (wR (dTup (Zd (dTup (Zd (dTup (Zd (dC (.str "always")) (Zd (dC (.int 1)) Zo))) (Zd (dTup (Zd (dC (.str "never")) (Zd (dC (.int 2)) Zo))) Zo))) (Zd (dC (.str "always = 1 | never < 2 | always")) Zo))) (Nz 2 (Jm (Z6 4) (Jm (Z6 3) Ny))))
 (ZV (Jo 5 (dTup (Zd (dTup (Zd (dTup (Zd (dTup (Zd (dTup (Zd (dC (.int 1)) (Zd (dC (.str "always")) Zo))) Zo)) (Zd (dC (.str "=")) (Zd (dC (.int 1)) Zo)))) Zo)) (Zd (dTup (Zd (dTup (Zd (dTup (Zd (dTup (Zd (dC (.int 1)) (Zd (dC (.str "never")) Zo))) Zo)) (Zd (dC (.str "<")) (Zd (dC (.int 2)) Zo)))) Zo)) (Zd (dTup Zo) Zo)))))
 (QJ (Rr (ZG oEq (dCall 2 V8 (Zd (Zf 4) (Zd (Zf 3) Zo))) (Zf 5)) (ZG oEq (dCall 1 CP (Zd (Zf 5) Zo)) (Zf 3))))))))
def GZ:FS:=(ZP (Qu 2 (Zz Zb9 (fC (.str "9")) (fC (.int 5000))))
 (ZP (Oh (Jg (QM (Zb (Zz Z9 (Zz Z9 (Zz Jt (fVar 1) (fC (.int 0))) (fC (.str " = "))) (fVar 2)) (Zb (Zz Z9 (Zz Z9 (Zz Jt (fVar 1) (fC (.int 0))) (fC (.str " = -"))) (fVar 2)) (Zb (Zz Z9 (Zz Z9 (Zz Z9 (fVar 2) (fC (.str " "))) (Zz Jt (fVar 1) (fC (.int 0)))) (fC (.str " = 0"))) Zm))))) (Zv 3) (Ql (Zw (Zz Wo (gY QT (ZL ZR (Zb (fVar 0) (Zb (fVar 3) Zm)))) (QM (Zb (fC (.str "text")) (Zb (fC (.int 0)) Zm))))) (Qg (fC (.bl false))) ZS) [3])
 (ZP (Mu [4,3] [(QM (Zb (QM (Zb (fC (.str "always")) (Zb (fC (.int 1)) Zm))) (Zb (QM (Zb (fC (.str "never")) (Zb (fC (.int 2)) Zm))) Zm))),(fC (.str "always = 1 | never < 2 | always"))])
 (ZP (Qu 5 (QM (Zb (QM (Zb (QM (Zb (QM (Zb (QM (Zb (fC (.int 1)) (Zb (fC (.str "always")) Zm))) Zm)) (Zb (fC (.str "=")) (Zb (fC (.int 1)) Zm)))) Zm)) (Zb (QM (Zb (QM (Zb (QM (Zb (QM (Zb (fC (.int 1)) (Zb (fC (.str "never")) Zm))) Zm)) (Zb (fC (.str "<")) (Zb (fC (.int 2)) Zm)))) Zm)) (Zb (QM Zm) Zm)))))
 (Qg (XM (Zz Uc (ZL ZR (Zb (fVar 4) (Zb (fVar 3) Zm))) (fVar 5)) (Zz Uc (ZL JR (Zb (fVar 5) Zm)) (fVar 3))))))))
def Jx:FF:=fun ds=>(GZ (ZC CZ ds)).fn
abbrev Wb:Fn:=pF Jx
theorem rW: ∀ds s R E,ds.length=2→Wb ds s R E→Ez (Qx R E) (ZC CZ ds) s:=Bu (f:=GZ) (M:=[]) (ZK (Jr 2 (ZD Zss (Zk _) (Zk _)))
 (ZK (Oi (W:=[3]) (Yn (QG (Zh (ZD Yw (ZD Yw (Jd Vf (Zy (Ze 1)) (Zy (Zk _))) (Zk _)) (Ze 2)) (Zh (ZD Yw (ZD Yw (Jd Vf (Zy (Ze 1)) (Zy (Zk _))) (Zk _)) (Ze 2)) (Zh (ZD Yw (ZD Yw (ZD Yw (Ze 2) (Zk _)) (Jd Vf (Zy (Ze 1)) (Zy (Zk _)))) (Zk _)) Zu))))) (Qn 3) (Q6 (Zx (ZD fX (Zhg mW (Qv (Zh (Ze 0) (Zh (Ze 3) Zu)))) (QG (Zh (Zk _) (Zh (Zk _) Zu))))) (Qc (Zk _)) Z8))
 (ZK (ZpG (.val (by decide) (QG (Zh (QG (Zh (Zk _) (Zh (Zk _) Zu))) (Zh (QG (Zh (Zk _) (Zh (Zk _) Zu))) Zu))) (.val (by decide) (Zk _) .nil)))
 (ZK (Jr 5 (QG (Zh (QG (Zh (QG (Zh (QG (Zh (QG (Zh (Zk _) (Zh (Zk _) Zu))) Zu)) (Zh (Zk _) (Zh (Zk _) Zu)))) Zu)) (Zh (QG (Zh (QG (Zh (QG (Zh (QG (Zh (Zk _) (Zh (Zk _) Zu))) Zu)) (Zh (Zk _) (Zh (Zk _) Zu)))) Zu)) (Zh (QG Zu) Zu)))))
 (Qc (Kl (ZD NZ (Qv (Zh (Ze 4) (Zh (Ze 3) Zu))) (Ze 5)) (ZD NZ (Qv (Zh (Ze 5) Zu)) (Ze 3))))))))
abbrev Zid:List Str:=["_law_script","_law_m","_law_turn","_law_cells_here","_law_names_here","_law_formula_here","_law_text","_law_again","_law_found","_law_due","_law_odd_here","_law_cell"]
def ZnY:Yh:=(ZV (Jo 8 (dCall 2 Xe (Zd (Zf 4) (Zd (Zf 6) Zo))))
 (ZV (Jo 9 (Kc (ZX (ZG (RM true) (Zf 8) (dC .non))) (VH (Zd (Zf 8) Zo)) (dTup (Zd (dC (.str "text")) (Zd (dC (.int 0)) Zo)))))
 (ZV (Jv (ZX (ZG Ze4 (Qp WQ (Zd (ZkL Vw Hw (dCall 2 V8 (Zd (Zf 3) (Zd (Zf 6) Zo)))) Zo)) (Qp WQ (Zd (Zf 9) Zo)))) (QJ (dC (.bl false))) QD)
 (Jo 6 (dCall 3 Ot (Zd (Zf 1) (Zd (Zf 4) (Zd (Zf 6) Zo))))))))
def R9:MS:=(Je (mS (Qu 8 (ZL Ju (Zb (fVar 4) (Zb (fVar 6) Zm)))))
 (Je (mS (Qu 9 (Ln (Zw (Zz (Uw true) (fVar 8) (fC .non))) (JX (Zb (fVar 8) Zm)) (QM (Zb (fC (.str "text")) (Zb (fC (.int 0)) Zm))))))
 (Je (mS (Ql (Zw (Zz R3 (Qm Va (gY QT (ZL ZR (Zb (fVar 3) (Zb (fVar 6) Zm))))) (Qm Va (fVar 9)))) (Qg (fC (.bl false))) ZS))
 (M4 6 (QS Ye (mP (Zb (fVar 1) (Zb (fVar 4) (Zb (fVar 6) Zm)))))))))
def ZnZ:Yh:=(ZV (Jo 3 (dCall 1 Eh (Zd (Zf 1) Zo)))
 (ZV (Jo 4 (Ad (Vy (Zf 3)) (Z6 11) Mj (ZG Ua (Zf 11) (dC (.int 0))) [11]))
 (ZV (Jo 5 (dCall 2 Xl (Zd (Zf 1) (Zd (Zf 4) Zo))))
 (ZV (Jo 6 (dCall 1 Dc (Zd (Zf 5) Zo)))
 (ZV (Jv (ZhO (ZX (ZG oEq (Zf 2) (dC (.int 0)))) (Bq (ZX (dCall 2 Wb (Zd (Zf 3) (Zd (Zf 4) Zo)))))) (QJ (dC (.bl false))) QD)
 (ZV (Jv (Ew (ZX (ZG Ze4 (Qp WQ (Zd (dCall 1 CP (Zd (Zf 5) Zo)) Zo)) (Qp WQ (Zd (Zf 6) Zo)))) (ZX (ZG Ze4 (Qp WQ (Zd (dCall 2 V8 (Zd (Zf 3) (Zd (Zf 6) Zo))) Zo)) (Qp WQ (Zd (Zf 5) Zo))))) (QJ (dC (.bl false))) QD)
 (ZV (Xj (jH (Zd (dC (.int 5)) Zo)) (Z6 7) ZnY)
 (ZV (Jo 10 (ZG Ua (VH (Zd (dC .non) (Zd (dC (.int 5)) (Zd (dC (.bl true)) (Zd (dTup Zo) (Zd (VH Zo) (Zd Zg7 (Zd (dTup (Zd (dC (.str "always")) Zo)) (Zd (VH (Zd (dC (.str "always")) Zo)) Zo))))))))) (dCall 2 Qz (Zd (Zf 1) (Zd (dC (.int 8)) Zo)))))
 (Jv (ZX (ZG uW (ZkL Vw Hw (dCall 2 V8 (Zd (Zf 3) (Zd (Zf 10) Zo)))) (dTup (Zd (dC (.str "text")) (Zd (dC (.int 0)) Zo))))) (QJ (dC (.bl false))) QD)))))))))
def Sd:MS:=(Je (M4 3 (QS OJ (mP (Zb (fVar 1) Zm))))
 (Je (mS (Qu 4 (R5 (Jg (fVar 3)) (Zv 11) Ux (Zz Jt (fVar 11) (fC (.int 0))) [11])))
 (Je (M4 5 (QS Uz (mP (Zb (fVar 1) (Zb (fVar 4) Zm)))))
 (Je (mS (Qu 6 (ZL JG (Zb (fVar 5) Zm))))
 (Je (mS (Ql (Ze6 (Zw (Zz Uc (fVar 2) (fC (.int 0)))) (Yt (Zw (ZL Jx (Zb (fVar 3) (Zb (fVar 4) Zm)))))) (Qg (fC (.bl false))) ZS))
 (Je (mS (Ql (Br (Zw (Zz R3 (Qm Va (ZL JR (Zb (fVar 5) Zm))) (Qm Va (fVar 6)))) (Zw (Zz R3 (Qm Va (ZL ZR (Zb (fVar 3) (Zb (fVar 6) Zm)))) (Qm Va (fVar 5))))) (Qg (fC (.bl false))) ZS))
 (Je (Zbq (mP (Ag (Zb (fC (.int 5)) Zm))) (Zv 7) (Je (mS (Qu 8 (ZL Ju (Zb (fVar 4) (Zb (fVar 6) Zm)))))
 (Je (mS (Qu 9 (Ln (Zw (Zz (Uw true) (fVar 8) (fC .non))) (JX (Zb (fVar 8) Zm)) (QM (Zb (fC (.str "text")) (Zb (fC (.int 0)) Zm))))))
 (Je (mS (Ql (Zw (Zz R3 (Qm Va (gY QT (ZL ZR (Zb (fVar 3) (Zb (fVar 6) Zm))))) (Qm Va (fVar 9)))) (Qg (fC (.bl false))) ZS))
 (M4 6 (QS Ye (mP (Zb (fVar 1) (Zb (fVar 4) (Zb (fVar 6) Zm))))))))) [7,9,8])
 (Je (M4 10 (Ey Jt (mP (JX (Zb (fC .non) (Zb (fC (.int 5)) (Zb (fC (.bl true)) (Zb (QM Zm) (Zb (JX Zm) (Zb yw (Zb (QM (Zb (fC (.str "always")) Zm)) (Zb (JX (Zb (fC (.str "always")) Zm)) Zm)))))))))) (QS Qh (mP (Zb (fVar 1) (Zb (fC (.int 8)) Zm))))))
 (mS (Ql (Zw (Zz Wo (gY QT (ZL ZR (Zb (fVar 3) (Zb (fVar 10) Zm)))) (QM (Zb (fC (.str "text")) (Zb (fC (.int 0)) Zm))))) (Qg (fC (.bl false))) ZS))))))))))
def ZaM:Yh:=(ZV (Xj (jH (Zd (ZG JN (dC (.int 3)) (Qp (c2I fun i j=>if j<i then j else i) (Zd (Qp BZ (Zd (Zf 0) Zo)) (Zd (dC (.int 9)) Zo)))) Zo)) (Z6 2) ZnZ)
 (QJ (dC (.bl true))))
def ZmH:MS:=(Je (Zbq (mP (Ag (Zb (Zz Z9 (fC (.int 3)) (fB2 (g2I (fun i j=>if j<i then j else i)) (Qm YS (fVar 0)) (fC (.int 9)))) Zm))) (Zv 2) (Je (M4 3 (QS OJ (mP (Zb (fVar 1) Zm))))
 (Je (mS (Qu 4 (R5 (Jg (fVar 3)) (Zv 11) Ux (Zz Jt (fVar 11) (fC (.int 0))) [11])))
 (Je (M4 5 (QS Uz (mP (Zb (fVar 1) (Zb (fVar 4) Zm)))))
 (Je (mS (Qu 6 (ZL JG (Zb (fVar 5) Zm))))
 (Je (mS (Ql (Ze6 (Zw (Zz Uc (fVar 2) (fC (.int 0)))) (Yt (Zw (ZL Jx (Zb (fVar 3) (Zb (fVar 4) Zm)))))) (Qg (fC (.bl false))) ZS))
 (Je (mS (Ql (Br (Zw (Zz R3 (Qm Va (ZL JR (Zb (fVar 5) Zm))) (Qm Va (fVar 6)))) (Zw (Zz R3 (Qm Va (ZL ZR (Zb (fVar 3) (Zb (fVar 6) Zm)))) (Qm Va (fVar 5))))) (Qg (fC (.bl false))) ZS))
 (Je (Zbq (mP (Ag (Zb (fC (.int 5)) Zm))) (Zv 7) (Je (mS (Qu 8 (ZL Ju (Zb (fVar 4) (Zb (fVar 6) Zm)))))
 (Je (mS (Qu 9 (Ln (Zw (Zz (Uw true) (fVar 8) (fC .non))) (JX (Zb (fVar 8) Zm)) (QM (Zb (fC (.str "text")) (Zb (fC (.int 0)) Zm))))))
 (Je (mS (Ql (Zw (Zz R3 (Qm Va (gY QT (ZL ZR (Zb (fVar 3) (Zb (fVar 6) Zm))))) (Qm Va (fVar 9)))) (Qg (fC (.bl false))) ZS))
 (M4 6 (QS Ye (mP (Zb (fVar 1) (Zb (fVar 4) (Zb (fVar 6) Zm))))))))) [7,9,8])
 (Je (M4 10 (Ey Jt (mP (JX (Zb (fC .non) (Zb (fC (.int 5)) (Zb (fC (.bl true)) (Zb (QM Zm) (Zb (JX Zm) (Zb yw (Zb (QM (Zb (fC (.str "always")) Zm)) (Zb (JX (Zb (fC (.str "always")) Zm)) Zm)))))))))) (QS Qh (mP (Zb (fVar 1) (Zb (fC (.int 8)) Zm))))))
 (mS (Ql (Zw (Zz Wo (gY QT (ZL ZR (Zb (fVar 3) (Zb (fVar 10) Zm)))) (QM (Zb (fC (.str "text")) (Zb (fC (.int 0)) Zm))))) (Qg (fC (.bl false))) ZS)))))))))) [7,3,9,5,8,4,10,6,2])
 (mS (Qg (fC (.bl true)))))
theorem Zst:BS [] ZmH ZaM:=(VB (ZmA (W:=[7,3,9,5,8,4,10,6,2]) (ZqU (ZjN (Zh (ZD Yw (Zk _) (Zuw (Zw8 _) (JZ GF (Zy (Ze 0))) (Zk _))) Zu))) (Qn 2) (VB (yJ 3 (Gz Zex (MP (Zh (Ze 1) Zu))))
 (VB (Ci (Jr 4 (Cg (Yn (Ze 3)) (Qn 11) WT (Jd Vf (Zy (Ze 11)) (Zy (Zk _))))))
 (VB (yJ 5 (Gz Zbs (MP (Zh (Ze 1) (Zh (Ze 4) Zu)))))
 (VB (Ci (Jr 6 (Qv (Zh (Ze 5) Zu))))
 (VB (Ci (Q6 (Zhc (Zx (ZD NZ (Ze 2) (Zk _))) (YC (Zx (Qv (Zh (Ze 3) (Zh (Ze 4) Zu)))))) (Qc (Zk _)) Z8))
 (VB (Ci (Q6 (V6 (Zx (ZD ZlQ (WW R4 (Qv (Zh (Ze 5) Zu))) (WW R4 (Ze 6)))) (Zx (ZD ZlQ (WW R4 (Qv (Zh (Ze 3) (Zh (Ze 6) Zu)))) (WW R4 (Ze 5))))) (Qc (Zk _)) Z8))
 (VB (ZmA (W:=[7,9,8]) (ZqU (ZjN (Zh (Zk _) Zu))) (Qn 7) (VB (Ci (Jr 8 (Qv (Zh (Ze 4) (Zh (Ze 6) Zu)))))
 (VB (Ci (Jr 9 (UL (Zx (ZD (jM _) (Ze 8) (Zk _))) (Ud (Zh (Ze 8) Zu)) (QG (Zh (Zk _) (Zh (Zk _) Zu))))))
 (VB (Ci (Q6 (Zx (ZD ZlQ (WW R4 (Zhg mW (Qv (Zh (Ze 3) (Zh (Ze 6) Zu))))) (WW R4 (Ze 9)))) (Qc (Zk _)) Z8))
 (yJ 6 (Gz uJ (MP (Zh (Ze 1) (Zh (Ze 4) (Zh (Ze 6) Zu))))))))))
 (VB (yJ 10 (yI Vf (Zeu (Zy (Ud (Zh (Zk _) (Zh (Zk _) (Zh (Zk _) (Zh (QG Zu) (Zh (Ud Zu) (Zh ZnA (Zh (QG (Zh (Zk _) Zu)) (Zh (Ud (Zh (Zk _) Zu)) Zu))))))))))) (Zev (Gz Um (MP (Zh (Ze 1) (Zh (Zk _) Zu)))))))
 (Ci (Q6 (Zx (ZD fX (Zhg mW (Qv (Zh (Ze 3) (Zh (Ze 10) Zu)))) (QG (Zh (Zk _) (Zh (Zk _) Zu))))) (Qc (Zk _)) Z8)))))))))))
 (Ci (Qc (Zk _))))
def ZqZ:Yh:=(ZV (Jo 1 (dCall 1 Ef (Zd (Zf 0) Zo)))
 ZaM)
end Bk.Gk
namespace Bk.Gk
open PySem PySem.Spec PyProof.Rows L2 TL
open Bk.Pa Bk.Qa
def Hz(x:Str):Prop:= ∀c∈tl x,c<0x110000
theorem Wh{x:Str}:PyData.strOk x=true↔Hz x:=Mp
def szL(l:List (List Nat)):Nat:=(l.map fun p=>p.length+1).sum
theorem bZ(p:List Nat)(l:List (List Nat)):szL (p::l)=p.length+1+szL l:=by simp [szL]
theorem Zdu(S:List Nat): ∀(l:List Nat) (k:Nat) (acc:List Nat),szL (spl S k acc l)≤acc.length+l.length+1
 |[],k,acc=>by rw[spl_nil,bZ];simp [szL]
 |c::r,0,acc=>by
  cases h:pre S (c::r)with
  |true=>
   rw[spl_hit h,bZ]
   have:=Zdu S r (S.length-1) []
   simp only[List.length_nil,List.length_cons]at*
   omega
  |false=>
   rw[spl_miss h]
   have:=Zdu S r 0 (acc++[c])
   simp only[List.length_append,List.length_cons,List.length_nil]at*
   omega
 |c::r,k+1,acc=>by
  have:=Zdu S r k acc
  show szL (spl S k acc r)≤_
  simp only[List.length_cons]
  omega
theorem xQ(S:List Nat): ∀(l:List Nat) (k:Nat) (acc:List Nat),∀p∈spl S k acc l,∀c∈p,c∈acc∨c∈l
 |[],k,acc=>by
  rw[spl_nil]
  intro p hp c hc
  rw[List.mem_singleton.mp hp]at hc
  exact .inl hc
 |x::r,0,acc=>by
  cases h:pre S (x::r)with
  |true=>
   rw[spl_hit h]
   intro p hp c hc
   rcases List.mem_cons.mp hp with rfl|hp
   ·exact .inl hc
   ·rcases xQ S r _ [] p hp c hc with h|h
    ·cases h
    ·exact .inr (List.mem_cons_of_mem _ h)
  |false=>
   rw[spl_miss h]
   intro p hp c hc
   rcases xQ S r 0 (acc++[x]) p hp c hc with h|h
   ·rcases List.mem_append.mp h with h|h
    ·exact .inl h
    ·rw[List.mem_singleton.mp h];exact .inr List.mem_cons_self
   ·exact .inr (List.mem_cons_of_mem _ h)
 |x::r,k+1,acc=>by
  intro p hp c hc
  rcases xQ S r k acc p hp c hc with h|h
  ·exact .inl h
  ·exact .inr (List.mem_cons_of_mem _ h)
theorem Zhq(S:List Nat): ∀(l:List Nat) (k:Nat) (acc:List Nat),spl S k acc l≠[]
 |[],k,acc=>by rw[spl_nil];simp
 |x::r,0,acc=>by
  cases h:pre S (x::r)with
  |true=>rw[spl_hit h];simp
  |false=>rw[spl_miss h];exact Zhq S r 0 _
 |x::r,k+1,acc=>Zhq S r k acc
structure Sep(v:Str):Prop where
 ne:tl v≠[]
 k:v.cps.all (· <256)=true
theorem sepS:Sep " " :=⟨by decide+kernel,by decide+kernel⟩
theorem Zdv:Sep " & " :=⟨by decide+kernel,by decide+kernel⟩
theorem Zie:Sep " | " :=⟨by decide+kernel,by decide+kernel⟩
theorem Sep.len{v:Str}(h:Sep v):(v.length==0)=false:=by
 have:0<(tl v).length:=List.length_pos_iff.mpr h.ne
 rw[len_tl]
 exact beq_false_of_ne (by omega)
def W7(l:List Str):Nat:=(l.map fun p=>p.length+1).sum
theorem Zj9:W7 []=0:=rfl
theorem Y9(p:Str)(l:List Str):W7 (p::l)=p.length+1+W7 l:=by simp [W7]
theorem cX(l m:List Str):W7 (l++m)=W7 l+W7 m:=by simp [W7]
theorem Zhr: ∀l:List Str,W7 l=szL (l.map tl)
 |[]=>rfl
 |p::l=>by rw[Y9,List.map_cons,bZ,Zhr l,len_tl p]
theorem Zka{p:Str}: ∀{l:List Str},p∈l→p.length+1≤W7 l
 |q::l,h=>by
  rw[Y9]
  rcases List.mem_cons.mp h with rfl|h
  ·omega
  ·have:=Zka h;omega
theorem Dd: ∀l:List Str,l.length≤W7 l
 |[]=>Nat.le_refl _
 |p::l=>by have:=Dd l;rw[Y9,List.length_cons];omega
section
variable{u v:Str}
theorem z9(h:Sep v):(Txt.split u v).map tl=spl (tl v) 0 [] (tl u):=split_spl u v h.ne (kind_ok h.k)
theorem Bt(h:Sep v):W7 (Txt.split u v)≤u.length+1:=by
 rw[Zhr,z9 h]
 have:=Zdu (tl v) (tl u) 0 []
 rw[len_tl u]
 simpa using this
theorem qF(h:Sep v):Txt.split u v≠[]:=fun e=>by
 have:=z9 (u:=u) h
 rw[e]at this
 exact Zhq _ _ _ _ this.symm
theorem Zfx(h:Sep v)(hu:Hz u): ∀p∈Txt.split u v,Hz p:=fun p hp c hc=>by
 have hm:tl p∈spl (tl v) 0 [] (tl u):=by rw[←z9 h];exact List.mem_map_of_mem hp
 rcases xQ _ _ _ _ _ hm c hc with h|h
 ·cases h
 ·exact hu c h
theorem Ww{ws:List Str}(h:ws≠[])(hf: ∀w∈ws,32∉tl w):Txt.split (Txt.join " " ws) " " =ws:=
 split_join (S:=[]) (by decide+kernel) (by decide+kernel) h hf
theorem Zfy: ∀{l:List (List Nat)},l≠[]→(joinL [32] l).length+1=szL l
 |[],h=>absurd rfl h
 |[p],_=>by rw[bZ];simp [joinL,szL]
 |p::q::r,_=>by
  have:=Zfy (l:=q::r) (by simp)
  rw[bZ]
  show(p++([32]++joinL [32] (q::r))).length+1=_
  simp only[List.length_append,List.length_cons,List.length_nil]
  omega
theorem Zee{ws:List Str}(h:ws≠[]):(Txt.join " " ws).length+1=W7 ws:=by
 rw[Zhr,len_tl,join_eq,tl_join,show tl " " =[32]by decide+kernel]
 exact Zfy fun e=>h (List.map_eq_nil_iff.mp e)
theorem Sh(S:List Nat): ∀{l:List (List Nat)},∀c∈joinL S l,c∈S∨ ∃p∈l,c∈p
 |[],c,h=>by cases h
 |[p],c,h=> .inr ⟨p,List.mem_singleton.mpr rfl,h⟩
 |p::q::r,c,h=>by
  have h:c∈p++(S++joinL S (q::r)):=h
  rcases List.mem_append.mp h with h|h
  ·exact .inr ⟨p,List.mem_cons_self,h⟩
  ·rcases List.mem_append.mp h with h|h
   ·exact .inl h
   ·rcases Sh S c h with h|⟨z,hz,h⟩
    ·exact .inl h
    ·exact .inr ⟨z,List.mem_cons_of_mem _ hz,h⟩
theorem Zkb{ws:List Str}(hv:Hz v)(h: ∀w∈ws,Hz w):Hz (Txt.join v ws):=fun c hc=>by
 rw[join_eq,tl_join]at hc
 rcases Sh _ c hc with h1|⟨p,hp,h1⟩
 ·exact hv c h1
 ·obtain⟨z,hz,rfl⟩:=List.mem_map.mp hp
  exact h z hz c h1
theorem Zrl:Hz " " :=by unfold Hz;decide+kernel
theorem app_ok(h1:Hz u)(h2:Hz v):Hz (u++v):=fun c hc=>by
 rw[tl_append]at hc
 rcases List.mem_append.mp hc with h|h
 ·exact h1 c h
 ·exact h2 c h
theorem len_app:(u++v).length=u.length+v.length:=by rw[len_tl,tl_append,List.length_append,←len_tl,←len_tl]
theorem Zsu(lo hi:Option Int): ∀c∈tl (cutS u lo hi),c∈tl u:=fun c hc=>List.mem_of_mem_drop (List.mem_of_mem_take hc)
theorem ZmI(lo hi:Option Int)(h:Hz u):Hz (cutS u lo hi):=fun c hc=>h c (Zsu lo hi c hc)
theorem Zdw{ws:List Str}(h:W7 ws≤1000000):(ws.map (·.length)).sum+ws.length*(" " :Str).length≤16777216:=by
 have e:(ws.map (·.length)).sum+ws.length=W7 ws:=by
  clear h
  induction ws with
  |nil=>rfl
  |cons p l ih=>rw[Y9,List.map_cons,List.sum_cons,List.length_cons];omega
 have e1:(" " :Str).length=1:=rfl
 rw[e1]
 omega
end
end Bk.Gk
namespace Bk.Gk
open PySem PySem.Spec PyProof.Rows L2 TL
open Bk.Pa Bk.Qa
structure Uh(x:Str):Prop where
 t:Hz x
 l:x.length≤100000
theorem Uh.th{x:Str}(h:Uh x):Vv (.str x):=⟨0,0,x.length,yr (Wh.mpr h.t),by decide,by decide,h.l⟩
theorem Uh.eq{x:Str}(h:Uh x):(D.str x).YF=true:=Zsa h.th
theorem Uh.sz{x:Str}(h:Uh x):x.length≤sizeLine:=bW h.l
theorem Lw{x y:Str}(hx:Uh x)(hy:Uh y):Uc (.str x) (.str y)=some (.bl (decide (x=y))):=by
 unfold Uc
 rw[if_pos ⟨hx.eq,hy.eq⟩,pA]
theorem Zca{x y:Str}(hx:Uh x)(hy:Uh y):Wo (.str x) (.str y)=some (.bl (!decide (x=y))):=by
 unfold Wo
 rw[if_pos ⟨hx.eq,hy.eq⟩,pA]
theorem JK(x:Str)(h:((tl x).all (· <128)&&decide (x.length≤64))=true:=by decide+kernel):Uh x:=by
 rw[Bool.and_eq_true,List.all_eq_true,decide_eq_true_eq]at h
 exact⟨fun c hc=>by have:=h.1 c hc;simp at this;omega,by omega⟩
theorem Zfz{x:Str}(h:Hz x){c:Nat}(hc:c∈tl x):Uh ⟨#[c]⟩:=⟨fun d hd=>by
 have:d=c:=by simpa [tl]using hd
 rw[this];exact h c hc,by show 1≤100000;omega⟩
theorem Uh.cut{x:Str}(h:Uh x)(lo hi:Option Int):Uh (cutS x lo hi):=⟨ZmI lo hi h.t,Nat.le_trans (cutS_length ..) h.l⟩
def isNeg(w:Str):Bool:=decide ((tl w).head? =some 45)
def bodyOf(w:Str):Str:=if isNeg w=true then cutS w (some 1) none else w
def inD(c:Nat):Bool:=decide (c∈tl "0123456789")
theorem Zef{c:Nat}:inD c=true↔48≤c∧c≤57:=by
 have e:tl "0123456789" =[48,49,50,51,52,53,54,55,56,57]:=by decide+kernel
 unfold inD
 rw[e,decide_eq_true_eq]
 simp only[List.mem_cons,List.not_mem_nil,or_false]
 omega
theorem Zp7(c:Nat):gIn false (.str ⟨#[c]⟩) (.str "0123456789")=some (.bl (inD c)):=by
 have:=PySem.StrLaws.found_one "0123456789" c
 show some (D.bl (!(Builtin.Str.occurrences "0123456789" ⟨#[c]⟩ 0 ("0123456789" :Str).length 1).isEmpty))=_
 rw[this];rfl
theorem Zn0(c:Nat):gIn true (.str ⟨#[c]⟩) (.str "0123456789")=some (.bl (!inD c)):=by
 have:=PySem.StrLaws.found_one "0123456789" c
 show some (D.bl (!(!(Builtin.Str.occurrences "0123456789" ⟨#[c]⟩ 0 ("0123456789" :Str).length 1).isEmpty)))=_
 rw[this];rfl
theorem xR(w:Str):tl (cutS w (some 1) none)=(tl w).drop 1:=by
 show(List.take _ (List.drop _ w.cps.toList)).toArray.toList=_
 rw[show(some (1:Int))=some ((1:Nat):Int)from rfl,HT.sIx_nat,HT.sIx_none]
 have e:w.length=(tl w).length:=len_tl w
 rw[e]
 show List.take _ (List.drop _ (tl w))=_
 cases h:tl w with
 |nil=>simp
 |cons a r=>
  have:min 1 (a::r).length=1:=by rw[List.length_cons];omega
  rw[this]
  exact List.take_of_length_le (by simp)
theorem Zp8(w:Str):tl (cutS w none (some 1))=(tl w).take 1:=by
 show(List.take _ (List.drop _ w.cps.toList)).toArray.toList=_
 rw[show(some (1:Int))=some ((1:Nat):Int)from rfl,HT.sIx_nat,HT.sIx_none]
 have e:w.length=(tl w).length:=len_tl w
 rw[e]
 show List.take _ (List.drop 0 (tl w))=_
 rw[List.drop_zero]
 cases h:tl w with
 |nil=>simp
 |cons a r=>
  have:min 1 (a::r).length=1:=by rw[List.length_cons];omega
  rw[this]
theorem mZ(w:Str):Txt.startswith w "-" =isNeg w:=by
 unfold Txt.startswith
 rw[PySem.StrLaws.subAt_eq]
 have e1:(tl "-")=[45]:=by decide+kernel
 have e2:("-" :Str).length=1:=rfl
 rw[e2,len_tl w]
 show(decide (0+1≤(tl w).length)&&(List.take 1 (List.drop 0 (tl w))==tl "-"))=_
 rw[e1,List.drop_zero]
 unfold isNeg
 cases h:tl w with
 |nil=>rfl
 |cons a r=>simp;rw[Bool.eq_iff_iff];simp
theorem Zif{x y:Str}:x=y↔tl x=tl y:=⟨fun h=>by rw[h],ext_tl⟩
theorem Zkc(w:Str):decide (cutS w none (some 1)="-")=isNeg w:=by
 rw[Bool.eq_iff_iff,decide_eq_true_eq,Zif,Zp8,show tl "-" =[45]by decide+kernel]
 unfold isNeg
 rw[decide_eq_true_eq]
 cases tl w with
 |nil=>simp
 |cons a r=>simp
def Aa(w:Str):Bool:=(decide (1≤(bodyOf w).length)&&decide ((bodyOf w).length≤2))&&((tl (bodyOf w)).all inD&& !(decide ((tl (bodyOf w)).head? =some 48)&& !decide (w="0")))
def Vi(w:Str):Option Int:=if Aa w=true then intText? w else none
def Ur(w:Str):D:=match Vi w with
 |some i=> .int i
 |none=> .non
theorem Zp9(l:List Nat)(hd:NumText.AllDigits l)(h1:l≠[])(h2:l.length≤2):NumText.digitsVal l≤99:=by
 have h: ∀a∈[48,49,50,51,52,53,54,55,56,57],∀b∈[48,49,50,51,52,53,54,55,56,57],NumText.digitsVal [a]≤99∧NumText.digitsVal [a,b]≤99:=by decide+kernel
 have mem: ∀c,48≤c→c≤57→c∈[48,49,50,51,52,53,54,55,56,57]:=fun c a b=>by
  simp only[List.mem_cons,List.not_mem_nil,or_false];omega
 match l,h1,h2,hd with
 |[a],_,_,hd=>
  have ha:=hd a (by simp)
  have m:=mem a ha.1 ha.2
  exact(h a m a m).1
 |[a,b],_,_,hd=>
  have ha:=hd a (by simp)
  have hb:=hd b (by simp)
  exact(h a (mem a ha.1 ha.2) b (mem b hb.1 hb.2)).2
 |a::b::c::r,_,h2,_=>simp only[List.length_cons]at h2;omega
theorem Zaa{w:Str}(h:Aa w=true): ∃i,intText? w=some i∧ -99≤i∧i≤99∧w.length≤3:=by
 unfold Aa at h
 simp only[Bool.and_eq_true,decide_eq_true_eq,List.all_eq_true,Zef]at h
 obtain⟨⟨h1,h2⟩,h3,_⟩:=h
 have hd:NumText.AllDigits (tl (bodyOf w)):=fun c hc=>h3 c hc
 have hne:tl (bodyOf w)≠[]:=fun e=>by rw[len_tl,e]at h1;simp at h1
 have hl:(tl (bodyOf w)).length≤2:=by rw[←len_tl];exact h2
 have hv:=Zp9 _ hd hne hl
 unfold bodyOf at*
 by_cases hn:isNeg w=true
 ·rw[if_pos hn]at*
  rw[xR]at*
  have e: ∃r,tl w=45::r:=by
   unfold isNeg at hn
   rw[decide_eq_true_eq]at hn
   cases hw:tl w with
   |nil=>rw[hw]at hn;cases hn
   |cons a r=>rw[hw]at hn;injection hn with hn;exact⟨r,by rw[hn]⟩
  obtain⟨r,hr⟩:=e
  rw[hr]at hd hne hl hv
  have hd:NumText.AllDigits r:=hd
  have hne:r≠[]:=hne
  have hl:r.length≤2:=hl
  have hv:NumText.digitsVal r≤99:=hv
  have hlen:w.length≤3:=by rw[len_tl,hr,List.length_cons];omega
  exact⟨_,PySem.intText_neg hr hd hne (by omega),by omega,by omega,hlen⟩
 ·rw[if_neg hn]at*
  have hlen:w.length≤3:=by rw[len_tl];omega
  have hv:NumText.digitsVal w.cps.toList≤99:=hv
  exact⟨_,PySem.intText_digits hd hne (by omega),by omega,by omega,hlen⟩
theorem Zdx{w:Str}{i:Int}(h:Vi w=some i): -99≤i∧i≤99∧1≤w.length:=by
 unfold Vi at h
 split at h
 ·rename_i hb
  obtain⟨j,e,h1,h2,h3⟩:=Zaa hb
  rw[e]at h
  cases h
  refine⟨h1,h2, ?_⟩
  unfold Aa at hb
  simp only[Bool.and_eq_true,decide_eq_true_eq]at hb
  have h0:=hb.1.1
  unfold bodyOf at h0
  split at h0
  ·exact Nat.le_trans h0 (cutS_length ..)
  ·exact h0
 ·cases h
theorem Zed{w:Str}(h:Uh w):Uh (bodyOf w):=by
 unfold bodyOf
 split
 ·exact h.cut _ _
 ·exact h
theorem Zdy{w:Str}(h:Aa w=true):wH (.str w)=some (Ur w):=by
 obtain⟨i,e,_,_,hl⟩:=Zaa h
 unfold wH
 simp only
 rw[if_pos (by omega),Ur,Vi,if_pos h,e]
 rfl
theorem aY{w:Str}(h:Aa w=false):Ur w= .non:=by
 unfold Ur Vi
 rw[h];rfl
theorem Zt2{w:Str}(h:1≤w.length): ∃c r,tl w=c::r∧atI w.cps.toList 0=some c:=by
 cases hw:tl w with
 |nil=>rw[len_tl,hw]at h;simp at h
 |cons c r=>
  refine⟨c,r,rfl, ?_⟩
  show atI (tl w) 0=_
  rw[hw,Zr5]
theorem rF{w:Str}(h:Uh w):Gp [.str w]= .ok (Ur w):=by
 have hb:=Zed h
 have hb0:(Ln (Zw (xP (fVar 0) (fC (.str "-")))) (Lk (fVar 0) (JH (fC (.int 1))) Qq) (fVar 0)) (ZC Xz [.str w])= .ok (.str (bodyOf w)):=by
  simp [mZ,h.sz]
  unfold bodyOf
  split<;>simp_all
 unfold Gp Ak ZP Qu
 rw[hb0]
 generalize hB:bodyOf w=B at*
 simp [hb.sz]
 rw[signs,X7 (F:=fun c=> .bl (inD c)) (h:=fun c _=>by simp [Yx,Zp7])]
 simp
 have e3:(∃i,∃h:i<B.cps.size,inD B.cps[i]=false)↔(tl B).all inD=false:=by
  rw[List.all_eq_false]
  constructor
  ·rintro ⟨i,hi,z⟩;exact⟨B.cps[i],by simp [tl],by simp [z]⟩
  ·rintro ⟨x,hx,z⟩;obtain⟨i,hi,rfl⟩:=List.getElem_of_mem hx;exact⟨i,by simpa [tl]using hi,by simpa [tl]using z⟩
 simp only[e3,hb.sz,if_true]
 have num:Aa w=((decide (1≤B.length)&&decide (B.length≤2))&&((tl B).all inD&& !(decide ((tl B).head? =some 48)&& !decide (w="0")))):=by unfold Aa;rw[hB]
 by_cases h1:1≤B.length
 ·by_cases h2:B.length≤2
  ·cases h3:(tl B).all inD with
   |false=>rw[aY (by rw[num,h3];simp)];simp only[if_pos (show(1:Int)≤(B.length:Int)by omega),if_neg (show¬(2:Int)<(B.length:Int)by omega),if_true]
   |true=>
    obtain⟨c,r,hc,ha⟩:=Zt2 h1
    have hs:Uh (⟨#[c]⟩:Str):=Zfz hb.t (by rw[hc];exact List.mem_cons_self)
    have e48:decide ((⟨#[c]⟩:Str)="0")=decide ((tl B).head? =some 48):=by
     rw[hc,Bool.eq_iff_iff,decide_eq_true_eq,decide_eq_true_eq,Zif,show tl "0" =[48]by decide+kernel]
     simp [tl]
    have hq:Aa w= !(decide ((tl B).head? =some 48)&& !decide (w="0")):=by rw[num,h3];simp [h1,h2]
    have hg:((decide ((tl B).head? =some 48)&& !decide (w="0")))=false→wH (.str w)=some (Ur w):=fun z=>Zdy (by rw[hq,z];rfl)
    have hn:((decide ((tl B).head? =some 48)&& !decide (w="0")))=true→Ur w= .non:=fun z=>aY (by rw[hq,z];rfl)
    rw[if_pos (show(1:Int)≤(B.length:Int)by omega),if_neg (show¬(2:Int)<(B.length:Int)by omega),if_neg (by simp)]
    rw[ha]
    simp only[Option.map,Hq,Bw,Lw hs (JK "0"),ZcS,e48,Zca h (JK "0")]
    cases hx:decide ((tl B).head? =some 48)<;>cases hy:decide (w="0")<;>rw[hx,hy]at hg hn<;>simp at hg hn<;>simp [hg,hn]
  ·rw[aY (by rw[num];simp [h2])];rw[if_pos (show(1:Int)≤(B.length:Int)by omega),if_pos (show(2:Int)<(B.length:Int)by omega)]
 ·rw[aY (by rw[num];simp [h1])];rw[if_neg (show¬(1:Int)≤(B.length:Int)by omega)]
theorem Xf{w:Str}(h:Uh w):YD [.str w]= .ok (Ur w):=by
 have hb:=Zed h
 have hb0:(Ln (Zw (Zz Uc (Lk (fVar 0) Qq (JH (fC (.int 1)))) (fC (.str "-")))) (Lk (fVar 0) (JH (fC (.int 1))) Qq) (fVar 0)) (ZC Bh [.str w])= .ok (.str (bodyOf w)):=by
  simp [Lw (h.cut _ _) (JK "-"),h.sz,Zkc]
  unfold bodyOf
  split<;>simp_all
 unfold YD Xc ZP Qu
 rw[hb0]
 generalize hB:bodyOf w=B at*
 simp [hb.sz]
 rw[signs,TX (F:=fun c=>D.str ⟨#[c]⟩) (c:=fun c=> !inD c) (h:=fun c _=>by
     simp [Yx,Zn0]
     cases inD c<;>simp)]
 simp
 have e3:(∃x,x∈B.cps∧inD x=false)↔(tl B).all inD=false:=by
  rw[List.all_eq_false]
  constructor
  ·rintro ⟨x,hx,z⟩;exact⟨x,by simpa [tl]using hx,by simp [z]⟩
  ·rintro ⟨x,hx,z⟩;exact⟨x,by simpa [tl]using hx,by simpa using z⟩
 simp only[e3,hb.sz,if_true]
 have num:Aa w=((decide (1≤B.length)&&decide (B.length≤2))&&((tl B).all inD&& !(decide ((tl B).head? =some 48)&& !decide (w="0")))):=by unfold Aa;rw[hB]
 by_cases h1:1≤B.length
 ·by_cases h2:B.length≤2
  ·cases h3:(tl B).all inD with
   |false=>rw[aY (by rw[num,h3];simp)];simp only[if_pos (show 0<B.length by omega),if_neg (show¬(3:Int)≤(B.length:Int)by omega),if_true]
   |true=>
    obtain⟨c,r,hc,ha⟩:=Zt2 h1
    have hs:Uh (⟨#[c]⟩:Str):=Zfz hb.t (by rw[hc];exact List.mem_cons_self)
    have e48:decide ((⟨#[c]⟩:Str)="0")=decide ((tl B).head? =some 48):=by
     rw[hc,Bool.eq_iff_iff,decide_eq_true_eq,decide_eq_true_eq,Zif,show tl "0" =[48]by decide+kernel]
     simp [tl]
    have hq:Aa w= !(decide ((tl B).head? =some 48)&& !decide (w="0")):=by rw[num,h3];simp [h1,h2]
    have hg:((decide ((tl B).head? =some 48)&& !decide (w="0")))=false→wH (.str w)=some (Ur w):=fun z=>Zdy (by rw[hq,z];rfl)
    have hn:((decide ((tl B).head? =some 48)&& !decide (w="0")))=true→Ur w= .non:=fun z=>aY (by rw[hq,z];rfl)
    rw[if_pos (show 0<B.length by omega),if_neg (show¬(3:Int)≤(B.length:Int)by omega),if_neg (by simp)]
    rw[ha]
    simp only[Option.map,Hq,Bw,Lw hs (JK "0"),ZcS,e48,Zca h (JK "0")]
    cases hx:decide ((tl B).head? =some 48)<;>cases hy:decide (w="0")<;>rw[hx,hy]at hg hn<;>simp at hg hn<;>simp [hg,hn]
  ·rw[aY (by rw[num];simp [h2])];rw[if_pos (show 0<B.length by omega),if_pos (show(3:Int)≤(B.length:Int)by omega)]
 ·rw[aY (by rw[num];simp [h1])];rw[if_neg (show¬0<B.length by omega)]
end Bk.Gk
namespace Bk.Gk
open PySem PySem.Spec PyProof.Rows L2 TL
open Bk.Pa Bk.Qa
def sg(s:Str)(k:Int):Int:=if s="+" then k else 0-k
def aZ:List Str→Option (List (Int×Str))
 |[]=>some []
 |[s]=>none
 |s::w::r=>if s="+" ∨s="-" then
   (if nameB (.str w)=true then(aZ r).map ((sg s 1,w):: ·)
 else match Vi w with
     |none=>none
     |some k=>if k<2 then none else match r with
      |[]=>none
      |x::r'=>(aZ r').map ((sg s k,x):: ·))
  else none
def Aq(ws:List Str):Prop:= ∀w∈ws,Uh w
theorem Aq.eq{ws:List Str}(h:Aq ws):(D.lst (texts ws)).YF=true:=gR fun x hx=>⟨Wh.mpr (h x hx).t,(h x hx).l⟩
theorem Zsv{ws:List Str}(h:Aq ws):Wo (.lst (texts ws)) (.lst [])=some (.bl (!ws.isEmpty)):=by
 unfold Wo
 rw[if_pos ⟨h.eq,by decide⟩,show D.lst []=D.lst (texts [])from rfl,tE]
 cases ws<;>simp
theorem Zsw{ws:List Str}(h:Aq ws):Uc (.lst (texts ws)) (.lst [])=some (.bl ws.isEmpty):=by
 unfold Uc
 rw[if_pos ⟨h.eq,by decide⟩,show D.lst []=D.lst (texts [])from rfl,tE]
 cases ws<;>simp
def sgs:List Str:=["+","-"]
theorem ZmJ: ∀y∈sgs,PyData.strOk y=true∧y.length≤100000:=by decide+kernel
theorem Zqa{s:Str}(h:Uh s):gIn true (.str s) (.tup [.str "+", .str "-"])=some (.bl (!decide (s∈sgs))):=bY (zs:=sgs) ⟨Wh.mpr h.t,h.l⟩ ZmJ
theorem Zn1{s:Str}(h:Uh s):gIn true (.str s) (.lst [.str "+", .str "-"])=some (.bl (!decide (s∈sgs))):=Ws (zs:=sgs) ⟨Wh.mpr h.t,h.l⟩ ZmJ
theorem xT{s:Str}:s∈sgs↔(s="+" ∨s="-"):=by simp [sgs]
abbrev ZeF:FS:=(ZP (ZoC (fVar 1) (yN (QX (Zv 3) (QX (Zv 1) Bx))))
 (ZP (Ql (Br (Zw (Zz (gIn true) (fVar 3) (QM (Zb (fC (.str "+")) (Zb (fC (.str "-")) Zm))))) (Zw (Zz Uc (fVar 1) (JX Zm)))) (Qg (fC .non)) ZS)
 (ZP (Mu [4,5] [(fC (.int 1)),(Zz Jt (fVar 1) (fC (.int 0)))])
 (ZP (Ql (Yt (Zw (ZL U5 (Zb (fVar 5) Zm)))) (ZP (Qu 4 (ZL Gp (Zb (fVar 5) Zm)))
 (ZP (Ql (Br (Zw (Zz (Uw false) (fVar 4) (fC .non))) (Br (Zw (Zz jy (fVar 4) (fC (.int 2)))) (Zw (Zz jy (Qm YS (fVar 1)) (fC (.int 2)))))) (Qg (fC .non)) ZS)
 (Qu 1 (Lk (fVar 1) (JH (fC (.int 1))) Qq)))) ZS)
 (ZP (Nf 2 (QM (Zb (Ln (Zw (Zz Uc (fVar 3) (fC (.str "+")))) (fVar 4) (Zz gSub (fC (.int 0)) (fVar 4))) (Zb (Zz Jt (fVar 1) (fC (.int 0))) Zm))))
 (Qu 1 (Lk (fVar 1) (JH (fC (.int 1))) Qq)))))))
abbrev xU(t:D)(ws:List Str)(acc:List D)(x3 x4 x5:Option D):Zq:=[some t,some (.lst (texts ws)),some (.lst acc),x3,x4,x5]
theorem m7(w:Str):Uw false (Ur w) .non=some (.bl (decide (Vi w=none))):=by
 unfold Ur
 cases Vi w<;>rfl
theorem sz1{n:Nat}(h:n≤200000):n<sizeLine:=by rw[sizeLine_eq];omega
def Nq(s:Str):List Str→Option (List Str×(Int×Str))
 |[]=>none
 |w::r1=>if s="+" ∨s="-" then
   (if nameB (.str w)=true then some (r1,(sg s 1,w))
 else match Vi w with
     |none=>none
     |some k=>if k<2 then none else match r1 with
      |[]=>none
      |x::r2=>some (r2,(sg s k,x)))
  else none
def Zig:List Str→D
 |[]=> .non
 |w::r1=>if nameB (.str w)=true then .int 1 else Ur w
theorem pK(s:Str)(r:List Str):aZ (s::r)=match Nq s r with
 |none=>none
 |some (r2,x)=>(aZ r2).map (x:: ·):=by
 cases r with
 |nil=>rfl
 |cons w r1=>
  rw[aZ.eq_def]
  simp only[Nq]
  split
  ·split
   ·rfl
   ·cases Vi w with
    |none=>rfl
    |some k=>
     simp only
     split
     ·rfl
     ·cases r1<;>rfl
  ·rfl
theorem qG{s:Str}{r r2:List Str}{x:Int×Str}(h:Nq s r=some (r2,x)):r2.length<r.length∧ ∀w∈r2,w∈r:=by
 unfold Nq at h
 split at h
 ·cases h
 ·split at h
  ·split at h
   ·cases h;exact⟨by simp,fun w hw=>List.mem_cons_of_mem _ hw⟩
   ·split at h
    ·cases h
    ·split at h
     ·cases h
     ·split at h
      ·cases h
      ·cases h;exact⟨by simp [List.length_cons];omega,fun w hw=>List.mem_cons_of_mem _ (List.mem_cons_of_mem _ hw)⟩
  ·cases h
theorem ZuI{t:D}{s:Str}{r:List Str}{acc:List D}(h:Aq (s::r))(hl:acc.length+(s::r).length≤200000):
  ZeF (xU t (s::r) acc none none none)=match Nq s r with
   |none=> .rt .non
   |some (r2,x)=> .nx (xU t r2 (acc++[J9 x]) (some (.str s)) (some (Zig r)) ((r.map D.str).head?)):=by
 have hs:Uh s:=h s List.mem_cons_self
 have hr:Aq r:=fun w hw=>h w (List.mem_cons_of_mem _ hw)
 have e0:texts (s::r)= .str s::texts r:=rfl
 have hsz:acc.length<sizeLine:=sz1 (by omega)
 have ge:=Zsw hr
 have gi:=Zqa hs
 have gp:=Lw hs (JK "+")
 simp only[xU,e0]
 cases r with
 |nil=>
  simp [gi,ge]
  cases decide (s∈sgs)<;>simp [Nq]
 |cons w r1=>
  have hw:Uh w:=hr w List.mem_cons_self
  have e1:texts (w::r1)= .str w::texts r1:=rfl
  have nm:=Hu hw.th
  have nu:=rF hw
  have gn:=m7 w
  by_cases hsg:s="+" ∨s="-"
  ·have hd:decide (s∈sgs)=true:=by rw[decide_eq_true_eq,xT];exact hsg
   rw[e1]at ge
   cases hnm:nameB (.str w)with
   |true=>
    rw[hnm]at nm
    simp [gi,hd,e1,ge,nm,hnm,hsg,Gy,gp,hsz,sg,J9,Nq,Zig]
    by_cases hp:s="+" <;>simp [hp,J9]
   |false=>
    rw[hnm]at nm
    cases hk:Vi w with
    |none=>
     have e2:Ur w= .non:=by unfold Ur;rw[hk]
     rw[e2]at nu gn
     simp [gi,hd,e1,ge,nm,nu,hsg,hnm,hk,Nq]
    |some k=>
     have e2:Ur w= .int k:=by unfold Ur;rw[hk]
     rw[e2]at nu gn
     by_cases hk2:k<2
     ·simp [gi,hd,e1,ge,nm,nu,hsg,hk2,hnm,hk,Nq]
     ·cases r1 with
      |nil=>
       rw[show texts ([]:List Str)=[]from rfl]at ge
       simp [gi,hd,e1,ge,nm,nu,hsg,hk2,texts,hnm,hk,Nq]
      |cons x r2=>
       have e3:texts (x::r2)= .str x::texts r2:=rfl
       have h2: ¬(((texts r2).length:Int)+1+1<2):=by omega
       rw[e3]at ge
       simp [gi,hd,e1,ge,nm,nu,hsg,hk2,e3,h2,Gy,gp,hsz,sg,J9,hnm,hk,Nq,Zig,e2]
       by_cases hp:s="+" <;>simp [hp,J9]
  ·have hd:decide (s∈sgs)=false:=by rw[decide_eq_false_iff_not,xT];exact hsg
   simp [gi,hd,hsg,Nq]
abbrev whP(m:Nat):FS:=Kr (Zw (Zz Wo (fVar 1) (JX Zm))) ZeF [3,4,5] m
theorem Zq1{t:D}: ∀(m:Nat) (ws:List Str) (acc:List D),Aq ws→acc.length+ws.length≤200000→ws.length<m→
  whP m (xU t ws acc none none none)=match aZ ws with
   |none=> .rt .non
   |some ts=> .nx (xU t [] (acc++ts.map J9) none none none)
 |0,ws,acc,_,_,h=>absurd h (by omega)
 |m+1,ws,acc,hw,hl,hm=>by
  have hg:(Zw (Zz Wo (fVar 1) (JX Zm))) (xU t ws acc none none none)= .ok (!ws.isEmpty):=by
   have:=Zsv hw
   simp [this]
  unfold whP Kr
  rw[hg]
  cases ws with
  |nil=>simp [aZ]
  |cons s r=>
   show(ZeF (xU t (s::r) acc none none none)).turn [3,4,5] (whP m)=_
   rw[ZuI hw hl,pK]
   cases ho:Nq s r with
   |none=>rfl
   |some q=>
    obtain⟨r2,x⟩:=q
    obtain⟨l1,l2⟩:=qG ho
    have h2:Aq r2:=fun w hw2=>hw w (List.mem_cons_of_mem _ (l2 w hw2))
    rw[List.length_cons]at hl hm
    show whP m (xU t r2 (acc++[J9 x]) none none none)=_
    rw[Zq1 m r2 (acc++[J9 x]) h2 (by rw[List.length_append,List.length_singleton];omega) (by omega)]
    cases hh:aZ r2<;>simp [hh,List.append_assoc]
abbrev ZeG:FS:=(ZP (Ql (Br (Zw (Zz (gIn true) (Zz Jt (fVar 1) (fC (.int 0))) (JX (Zb (fC (.str "+")) (Zb (fC (.str "-")) Zm))))) (Zw (Zz jy (Qm YS (fVar 1)) (fC (.int 2))))) (Qg (fC .non)) ZS)
 (ZP (Mu [3,4,1] [(Zz Jt (fVar 1) (fC (.int 0))),(fC (.int 1)),(Lk (fVar 1) (JH (fC (.int 1))) Qq)])
 (ZP (Ql (Yt (Zw (ZL Uy (Zb (Zz Jt (fVar 1) (fC (.int 0))) Zm)))) (ZP (Qu 4 (ZL YD (Zb (Zz Jt (fVar 1) (fC (.int 0))) Zm)))
 (ZP (Ql (Br (Zw (Zz (Uw false) (fVar 4) (fC .non))) (Br (Zw (Zz jy (fVar 4) (fC (.int 2)))) (Zw (Zz jy (Qm YS (fVar 1)) (fC (.int 2)))))) (Qg (fC .non)) ZS)
 (Qu 1 (Lk (fVar 1) (JH (fC (.int 1))) Qq)))) ZS)
 (ZP (Nf 2 (QM (Zb (Ln (Zw (Zz Uc (fVar 3) (fC (.str "+")))) (fVar 4) (Zz gSub (fC (.int 0)) (fVar 4))) (Zb (Zz Jt (fVar 1) (fC (.int 0))) Zm))))
 (Qu 1 (Lk (fVar 1) (JH (fC (.int 1))) Qq))))))
abbrev xV(t:D)(ws:List Str)(acc:List D)(x3 x4:Option D):Zq:=[some t,some (.lst (texts ws)),some (.lst acc),x3,x4]
theorem ZuJ{t:D}{s:Str}{r:List Str}{acc:List D}(h:Aq (s::r))(hl:acc.length+(s::r).length≤200000):
  ZeG (xV t (s::r) acc none none)=match Nq s r with
   |none=> .rt .non
   |some (r2,x)=> .nx (xV t r2 (acc++[J9 x]) (some (.str s)) (some (Zig r))):=by
 have hs:Uh s:=h s List.mem_cons_self
 have hr:Aq r:=fun w hw=>h w (List.mem_cons_of_mem _ hw)
 have e0:texts (s::r)= .str s::texts r:=rfl
 have hsz:acc.length<sizeLine:=sz1 (by omega)
 have gi:=Zn1 hs
 have gp:=Lw hs (JK "+")
 simp only[xV,e0]
 cases r with
 |nil=>
  simp [gi,texts,Nq]
 |cons w r1=>
  have hw:Uh w:=hr w List.mem_cons_self
  have e1:texts (w::r1)= .str w::texts r1:=rfl
  have nm:=Zbo hw.th
  have nu:=Xf hw
  have gn:=m7 w
  have l0: ¬(((texts r1).length:Int)+1+1<2):=by omega
  by_cases hsg:s="+" ∨s="-"
  ·have hd:decide (s∈sgs)=true:=by rw[decide_eq_true_eq,xT];exact hsg
   cases hnm:nameB (.str w)with
   |true=>
    rw[hnm]at nm
    simp [gi,hd,e1,l0,nm,hnm,hsg,Gy,gp,hsz,sg,J9,Nq,Zig]
    by_cases hp:s="+" <;>simp [hp,J9]
   |false=>
    rw[hnm]at nm
    cases hk:Vi w with
    |none=>
     have e2:Ur w= .non:=by unfold Ur;rw[hk]
     rw[e2]at nu gn
     simp [gi,hd,e1,l0,nm,nu,hsg,hnm,hk,Nq,Gy]
    |some k=>
     have e2:Ur w= .int k:=by unfold Ur;rw[hk]
     rw[e2]at nu gn
     by_cases hk2:k<2
     ·simp [gi,hd,e1,l0,nm,nu,hsg,hk2,hnm,hk,Nq,Gy]
     ·cases r1 with
      |nil=>
       simp [gi,hd,e1,nm,nu,hsg,hk2,texts,hnm,hk,Nq,Gy]
      |cons x r2=>
       have e3:texts (x::r2)= .str x::texts r2:=rfl
       have h2: ¬(((texts r2).length:Int)+1+1<2):=by omega
       have h3: ¬(((texts r2).length:Int)+1+1+1<2):=by omega
       simp [gi,hd,e1,nm,nu,hsg,hk2,e3,h2,h3,Gy,gp,hsz,sg,J9,hnm,hk,Nq,Zig,e2]
       by_cases hp:s="+" <;>simp [hp,J9]
  ·have hd:decide (s∈sgs)=false:=by rw[decide_eq_false_iff_not,xT];exact hsg
   simp [gi,hd,hsg,Nq]
abbrev whL(m:Nat):FS:=Kr (Zw (Zz jK (fVar 1) (JX Zm))) ZeG [3,4] m
theorem Zq3{t:D}: ∀(m:Nat) (ws:List Str) (acc:List D),Aq ws→acc.length+ws.length≤200000→ws.length<m→
  whL m (xV t ws acc none none)=match aZ ws with
   |none=> .rt .non
   |some ts=> .nx (xV t [] (acc++ts.map J9) none none)
 |0,ws,acc,_,_,h=>absurd h (by omega)
 |m+1,ws,acc,hw,hl,hm=>by
  have hg:(Zw (Zz jK (fVar 1) (JX Zm))) (xV t ws acc none none)= .ok (!ws.isEmpty):=by
   cases ws<;>simp [texts]
  unfold whL Kr
  rw[hg]
  cases ws with
  |nil=>simp [aZ]
  |cons s r=>
   show(ZeG (xV t (s::r) acc none none)).turn [3,4] (whL m)=_
   rw[ZuJ hw hl,pK]
   cases ho:Nq s r with
   |none=>rfl
   |some q=>
    obtain⟨r2,x⟩:=q
    obtain⟨l1,l2⟩:=qG ho
    have h2:Aq r2:=fun w hw2=>hw w (List.mem_cons_of_mem _ (l2 w hw2))
    rw[List.length_cons]at hl hm
    show whL m (xV t r2 (acc++[J9 x]) none none)=_
    rw[Zq3 m r2 (acc++[J9 x]) h2 (by rw[List.length_append,List.length_singleton];omega) (by omega)]
    cases hh:aZ r2<;>simp [hh,List.append_assoc]
def signed:List Str→List Str
 |[]=>[]
 |w::r=>if isNeg w=true then "-" ::cutS w (some 1) none::r else "+" ::w::r
def YG(u:Str):Option (List (Int×Str)):=if u="0" then some []else aZ (signed (Txt.split u " "))
def Zbw:Option (List (Int×Str))→D
 |none=> .non
 |some ts=>JC ts
theorem Vt{u v:Str}(hv:Sep v)(h:Uh u):Aq (Txt.split u v):=fun w hw=>by
 refine⟨Zfx hv h.t w hw, ?_⟩
 have h1:=Zka hw
 have h2:=Bt (u:=u) hv
 have:=h.l
 omega
theorem iG{ws:List Str}(h:Aq ws):Aq (signed ws):=by
 cases ws with
 |nil=>exact h
 |cons w r=>
  have hw:=h w List.mem_cons_self
  have hr: ∀x∈r,Uh x:=fun x hx=>h x (List.mem_cons_of_mem _ hx)
  simp only[signed]
  split
  ·intro x hx
   rcases List.mem_cons.mp hx with rfl|hx
   ·exact JK "-"
   ·rcases List.mem_cons.mp hx with rfl|hx
    ·exact hw.cut _ _
    ·exact hr x hx
  ·intro x hx
   rcases List.mem_cons.mp hx with rfl|hx
   ·exact JK "+"
   ·rcases List.mem_cons.mp hx with rfl|hx
    ·exact hw
    ·exact hr x hx
theorem ZaN{ws:List Str}:(signed ws).length≤ws.length+1:=by
 cases ws with
 |nil=>exact Nat.zero_le _
 |cons w r=>simp only[signed];split<;>simp
theorem Zgc{u:Str}(h:Uh u):Wu [.str u]= .ok (Zbw (YG u)):=by
 have hz:u.length+2≤sizeLine:=sz _ (by have:=h.l;omega)
 have hw:=Vt sepS h
 have hs:=iG hw
 have hl:(signed (Txt.split u " ")).length≤100002:=by
  have h1:=ZaN (ws:=Txt.split u " ")
  have h2:=Dd (Txt.split u " ")
  have h3:=Bt (u:=u) sepS
  have:=h.l
  omega
 have hL:=Zq1 (t:= .str u) 1000000 (signed (Txt.split u " ")) [] hs (by simp;omega) (by omega)
 unfold Wu d8 YG
 by_cases h0:u="0"
 ·simp [Lw h (JK "0"),h0,Zbw,JC]
  have:=Lw (JK "0") (JK "0")
  simp [this]
 ·have g0:=Lw h (JK "0")
  rw[if_neg h0]
  have hne:=qF (u:=u) sepS
  have e1:(" " :Str).length=1:=rfl
  cases hsp:Txt.split u " " with
  |nil=>exact absurd hsp hne
  |cons w r=>
   rw[hsp]at hL hw hl
   have hww:Uh w:=hw w List.mem_cons_self
   have ex:texts (w::r)= .str w::texts r:=rfl
   have z1:(texts r).length+1+1≤sizeLine:=sz _ (by
    rw[QL]
    have:(signed (w::r)).length=r.length+2:=by simp only[signed];split<;>simp
    omega)
   have sq: ∀ds,TQ (.lst ds)=some ds:=fun _=>rfl
   cases hn:isNeg w with
   |true=>
    have e2:texts (signed (w::r))= .str "-" :: .str (cutS w (some 1) none)::texts r:=by simp only[signed];rw[if_pos hn];rfl
    simp only[xU,whP,ZeF,e2,List.nil_append]at hL
    simp [g0,h0,hz,hsp,ex,mZ,hn,Gy,hww.sz,z1,e1,sepS.len,sq]
    rw[hL]
    cases aZ (signed (w::r))<;>simp [Zbw,JC]
   |false=>
    have e2:texts (signed (w::r))= .str "+" :: .str w::texts r:=by simp only[signed];rw[if_neg (by simp [hn])];rfl
    simp only[xU,whP,ZeF,e2,List.nil_append]at hL
    simp [g0,h0,hz,hsp,ex,mZ,hn,Gy,hww.sz,z1,e1,sepS.len,sq]
    rw[hL]
    cases aZ (signed (w::r))<;>simp [Zbw,JC]
theorem yQ{u:Str}(h:Uh u):V7 [.str u]= .ok (Zbw (YG u)):=by
 have hz:u.length+2≤sizeLine:=sz _ (by have:=h.l;omega)
 have hw:=Vt sepS h
 have hs:=iG hw
 have hl:(signed (Txt.split u " ")).length≤100002:=by
  have h1:=ZaN (ws:=Txt.split u " ")
  have h2:=Dd (Txt.split u " ")
  have h3:=Bt (u:=u) sepS
  have:=h.l
  omega
 have hL:=Zq3 (t:= .str u) 1000000 (signed (Txt.split u " ")) [] hs (by simp;omega) (by omega)
 unfold V7 Pu YG
 by_cases h0:u="0"
 ·simp [Lw h (JK "0"),h0,Zbw,JC]
  have:=Lw (JK "0") (JK "0")
  simp [this]
 ·have g0:=Lw h (JK "0")
  rw[if_neg h0]
  have hne:=qF (u:=u) sepS
  have e1:(" " :Str).length=1:=rfl
  cases hsp:Txt.split u " " with
  |nil=>exact absurd hsp hne
  |cons w r=>
   rw[hsp]at hL hw hl
   have hww:Uh w:=hw w List.mem_cons_self
   have ex:texts (w::r)= .str w::texts r:=rfl
   have gn:Uc (.str (cutS w none (some 1))) (.str "-")=some (.bl (isNeg w)):=by rw[Lw (hww.cut _ _) (JK "-"),Zkc]
   have z1:(texts r).length+1+1≤sizeLine:=sz _ (by
    rw[QL]
    have:(signed (w::r)).length=r.length+2:=by simp only[signed];split<;>simp
    omega)
   have z2:2+(texts r).length≤sizeLine:=by omega
   have sq: ∀ds,TQ (.lst ds)=some ds:=fun _=>rfl
   cases hn:isNeg w with
   |true=>
    have e2:texts (signed (w::r))= .str "-" :: .str (cutS w (some 1) none)::texts r:=by simp only[signed];rw[if_pos hn];rfl
    simp only[xV,whL,ZeG,e2,List.nil_append]at hL
    simp [g0,h0,hz,hsp,ex,gn,hn,Gy,hww.sz,z1,z2,e1,sepS.len,sq]
    rw[hL]
    cases aZ (signed (w::r))<;>simp [Zbw,JC]
   |false=>
    have e2:texts (signed (w::r))= .str "+" :: .str w::texts r:=by simp only[signed];rw[if_neg (by simp [hn])];rfl
    simp only[xV,whL,ZeG,e2,List.nil_append]at hL
    simp [g0,h0,hz,hsp,ex,gn,hn,Gy,hww.sz,z1,z2,e1,sepS.len,sq]
    rw[hL]
    cases aZ (signed (w::r))<;>simp [Zbw,JC]
end Bk.Gk
namespace Bk.Gk
open PySem PySem.Spec PyProof.Rows L2 TL
open Bk.Pa Bk.Qa
def Vx{α:Type}:List (Option α)→Option (List α)
 |[]=>some []
 |none::_=>none
 |some a::r=>(Vx r).map (a:: ·)
def cY(ws:List Str):Option (List Str×Str×Str):=match ws.reverse with
 |n::o::x::r=>some ((x::r).reverse,o,n)
 |_=>none
theorem ZiM{ws fr:List Str}{o n:Str}(h:cY ws=some (fr,o,n)):ws=fr++[o,n]∧fr≠[]:=by
 unfold cY at h
 split at h
 ·rename_i a b x r e
  cases h
  have:=congrArg List.reverse e
  rw[List.reverse_reverse]at this
  rw[this]
  simp
 ·cases h
theorem tX{fr:List Str}(h:fr≠[])(o n:Str):cY (fr++[o,n])=some (fr,o,n):=by
 unfold cY
 cases hr:fr.reverse with
 |nil=>exact absurd (List.reverse_eq_nil_iff.mp hr) h
 |cons x r=>
  have e:(fr++[o,n]).reverse=n::o::x::r:=by simp [hr]
  rw[e]
  simp only
  rw[←hr,List.reverse_reverse]
theorem ZaO{ws:List Str}(h:cY ws=none):ws.length<3:=by
 unfold cY at h
 split at h
 ·cases h
 ·rename_i hn
  rw[←List.length_reverse]
  match hr:ws.reverse with
  |[]=>simp
  |[_]=>simp
  |[_,_]=>simp
  |a::b::c::r=>exact absurd hr (hn a b c r)
def J8(u:Str):Option Test:=(cY (Txt.split u " ")).bind fun q=>(YG (Txt.join " " q.1)).bind fun ts=>(Vi q.2.2).map fun k=>(ts,q.2.1,k)
def Vu(u:Str):Option (List Test):=if u="always" then some []else Vx ((Txt.split u " & ").map J8)
def Gq(u:Str):Option (List (List Test)):=if u="never" then some []else Vx ((Txt.split u " | ").map Vu)
def XR(u:Str):Option Test:=(J8 u).bind fun t=>if t.2.1∈CK then some t else none
def Cm(u:Str):Option (List Test):=if u="always" then some []else Vx ((Txt.split u " & ").map XR)
def rG(u:Str):Option (List (List Test)):=if u="never" then some []else Vx ((Txt.split u " | ").map Cm)
def VL{α:Type}(f:α→D):Option α→D
 |none=> .non
 |some a=>f a
structure Zih(t:Term):Prop where
 i: -99≤t.1∧t.1≤99
 s:Uh t.2
structure Zla(t:Test):Prop where
 ts: ∀x∈t.1,Zih x
 o:Uh t.2.1
 n: -99≤t.2.2∧t.2.2≤99
theorem Zkd{s:Str}{r r2:List Str}{x:Int×Str}(hr:Aq r)(h:Nq s r=some (r2,x)):Zih x:=by
 have sgk: ∀k:Int,-99≤k→k≤99→ -99≤sg s k∧sg s k≤99:=fun k h1 h2=>by unfold sg;split<;>omega
 unfold Nq at h
 split at h
 ·cases h
 ·rename_i w r1
  split at h
  ·split at h
   ·cases h;exact⟨sgk 1 (by decide) (by decide),hr _ (by simp)⟩
   ·split at h
    ·cases h
    ·rename_i k hk
     have:=Zdx hk
     split at h
     ·cases h
     ·split at h
      ·cases h
      ·cases h;exact⟨sgk k this.1 this.2.1,hr _ (by simp)⟩
  ·cases h
theorem ZmK: ∀(n:Nat) {ws:List Str} {ts:List Term},ws.length≤n→Aq ws→aZ ws=some ts→ ∀t∈ts,Zih t
 |_,[],ts,_,_,h,t,ht=>by
  rw[show aZ []=some []from rfl]at h
  cases h;cases ht
 |0,_::_,_,hn,_,_,_,_=>by simp at hn
 |n+1,s::r,ts,hn,hw,h,t,ht=>by
  rw[pK]at h
  cases ho:Nq s r with
  |none=>rw[ho]at h;cases h
  |some q=>
   obtain⟨r2,x⟩:=q
   rw[ho]at h
   obtain⟨ys,h1,rfl⟩:=Option.map_eq_some_iff.mp h
   have hr:Aq r:=fun w hw2=>hw w (List.mem_cons_of_mem _ hw2)
   obtain⟨l1,l2⟩:=qG ho
   rcases List.mem_cons.mp ht with rfl|ht
   ·exact Zkd hr ho
   ·exact ZmK n (by rw[List.length_cons]at hn;omega) (fun w hw2=>hr w (l2 w hw2)) h1 t ht
theorem Zn2{fr:List Str}(hw:Aq fr)(hne:fr≠[])(hl:W7 fr≤100000):Uh (Txt.join " " fr):=⟨Zkb Zrl fun w h=>(hw w h).t,by have:=Zee hne;omega⟩
theorem ZiN{u:Str}(h:Uh u){ts:List Term}(e:YG u=some ts): ∀t∈ts,Zih t:=by
 unfold YG at e
 split at e
 ·cases e;intro t ht;cases ht
 ·exact ZmK _ (Nat.le_refl _) (iG (Vt sepS h)) e
theorem qH{u:Str}(h:Uh u){fr:List Str}{o n:Str}(e:cY (Txt.split u " ")=some (fr,o,n)):Uh (Txt.join " " fr)∧Uh o∧Uh n∧Aq fr∧Txt.split u " " =fr++[o,n]∧fr≠[]∧W7 fr+(o.length+1)+(n.length+1)≤u.length+1:=by
 obtain⟨e1,hne⟩:=ZiM e
 have hw:=Vt sepS h
 have hz:=Bt (u:=u) sepS
 rw[e1]at hw hz
 rw[cX,Y9,Y9,Zj9]at hz
 have hf:Aq fr:=fun w hm=>hw w (List.mem_append_left _ hm)
 have:=h.l
 exact⟨Zn2 hf hne (by omega),hw o (by simp),hw n (by simp),hf,e1,hne,by omega⟩
theorem Zdz{u:Str}(h:Uh u){t:Test}(e:J8 u=some t):Zla t:=by
 unfold J8 at e
 obtain⟨⟨fr,o,n⟩,h1,e⟩:=Option.bind_eq_some_iff.mp e
 obtain⟨ts,h2,e⟩:=Option.bind_eq_some_iff.mp e
 obtain⟨k,h3,rfl⟩:=Option.map_eq_some_iff.mp e
 obtain⟨a,b,c,_⟩:=qH h h1
 have hk:=Zdx h3
 exact⟨ZiN a h2,b,hk.1,hk.2.1⟩
theorem Zsx{x:Term}(h:Zih x):Af 1 200002 (J9 x):=cM (k:=0) (w:=100000) (n:=2) (fun d hd=>by
 rcases List.mem_cons.mp hd with rfl|hd
 ·exact ZjC (by have:=h.i;omega) (by have:=h.i;omega) (by decide)
 ·rw[List.mem_singleton.mp hd];exact Kg (Wh.mpr h.s.t) h.s.l) (by simp)
theorem ZmL{t:Test}(h:Zla t): ∃w,Af 3 w (Yb t):=by
 have a:Af 2 (t.1.length*200003) (JC t.1):=cM (k:=1) (w:=200002) (n:=t.1.length) (fun d hd=>by
  obtain⟨x,hx,rfl⟩:=List.mem_map.mp hd
  exact Zsx (h.ts x hx)) (by rw[List.length_map];exact Nat.le_refl _)
 refine⟨_,cM (k:=2) (w:=t.1.length*200003+100000) (n:=3) (fun d hd=> ?_) (Nat.le_refl _)⟩
 rcases List.mem_cons.mp hd with rfl|hd
 ·exact a.mono (Nat.le_refl _) (by omega)
 ·rcases List.mem_cons.mp hd with rfl|hd
  ·exact Af.mono (Kg (k:=0) (w:=100000) (Wh.mpr h.o.t) h.o.l) (by decide) (by omega)
  ·rw[List.mem_singleton.mp hd]
   exact(ZjC (k:=0) (w:=100000) (by have:=h.n;omega) (by have:=h.n;omega) (by decide)).mono (by decide) (by omega)
theorem Zeg{k:Nat}{xs:List D}(h: ∀x∈xs,∃w,Af k w x): ∃w,∀x∈xs,Af k w x:=by
 induction xs with
 |nil=>exact⟨0,fun x hx=>by cases hx⟩
 |cons a r ih=>
  obtain⟨w1,h1⟩:=h a List.mem_cons_self
  obtain⟨w2,h2⟩:=ih fun x hx=>h x (List.mem_cons_of_mem _ hx)
  refine⟨w1+w2,fun x hx=> ?_⟩
  rcases List.mem_cons.mp hx with rfl|hx
  ·exact h1.mono (Nat.le_refl _) (by omega)
  ·exact(h2 x hx).mono (Nat.le_refl _) (by omega)
theorem Zqb{α:Type}{f:α→D}{k:Nat}{o:Option α}(h: ∀a,o=some a→ ∃w,Af k w (f a)): ∃w,Af k w (VL f o):=by
 cases o with
 |none=>exact⟨0,Zpl⟩
 |some a=>exact h a rfl
theorem Zn3{α:Type}(f:α→D)(hf: ∀a,∃xs,f a= .tup xs)(os:List (Option α)):isIn .non (os.map (VL f))=(Vx os).isNone:=by
 induction os with
 |nil=>rfl
 |cons o r ih=>
  cases o with
  |none=>rfl
  |some a=>
   obtain⟨xs,e⟩:=hf a
   have:isIn .non (((some a)::r).map (VL f))=isIn .non (r.map (VL f)):=by
    show(((f a).eqb .non)||isIn .non (r.map (VL f)))=_
    rw[e]
    rfl
   rw[this,ih,Vx]
   cases Vx r<;>rfl
theorem Zab{α:Type}(f:α→D){os:List (Option α)}{as:List α}(h:Vx os=some as):os.map (VL f)=as.map f:=by
 induction os generalizing as with
 |nil=>cases h;rfl
 |cons o r ih=>
  cases o with
  |none=>cases h
  |some a=>
   obtain⟨bs,h1,rfl⟩:=Option.map_eq_some_iff.mp h
   rw[List.map_cons,List.map_cons,ih h1];rfl
theorem Zn4{α:Type}{os:List (Option α)}{as:List α}(h:Vx os=some as): ∀a∈as,some a∈os:=by
 induction os generalizing as with
 |nil=>cases h;intro a ha;cases ha
 |cons o r ih=>
  cases o with
  |none=>cases h
  |some b=>
   obtain⟨bs,h1,rfl⟩:=Option.map_eq_some_iff.mp h
   intro a ha
   rcases List.mem_cons.mp ha with rfl|ha
   ·exact List.mem_cons_self
   ·exact List.mem_cons_of_mem _ (ih h1 a ha)
theorem ZfB{α:Type}{os:List (Option α)}{as:List α}(h:Vx os=some as):as.length=os.length:=by
 have:=congrArg List.length (Zab (fun _=>D.non) h)
 simpa using this.symm
theorem ZdA(fr:List D)(o n:D):atI (fr++[o,n]) (-1)=some n:=by
 have e:ixN (fr++[o,n]).length (-1)=some (fr.length+1):=by
  unfold ixN
  simp only[List.length_append,List.length_cons,List.length_nil]
  first
   |omega
   |(split<;>omega)
   |(simp;omega)
 unfold atI
 rw[e]
 simp
theorem rH(fr:List D)(o n:D):atI (fr++[o,n]) (-2)=some o:=by
 have e:ixN (fr++[o,n]).length (-2)=some fr.length:=by
  unfold ixN
  simp only[List.length_append,List.length_cons,List.length_nil]
  first
   |omega
   |(split<;>omega)
   |(simp;omega)
 unfold atI
 rw[e]
 simp
theorem ZdB(fr:List D)(o n:D):cutD (fr++[o,n]) none (some (-2))=fr:=by
 unfold cutD
 rw[HT.sIx_none]
 have e:HT.sIx (fr++[o,n]).length (fr++[o,n]).length (some (-2))=fr.length:=by
  unfold HT.sIx
  simp only[List.length_append,List.length_cons,List.length_nil]
  first
   |omega
   |(split<;>omega)
   |(simp;omega)
 rw[e]
 simp
theorem fM(a b:List Str):texts (a++b)=texts a++texts b:=by unfold texts;simp
theorem Zke(o:Option (List Term)):Zbw o=VL JC o:=by cases o<;>rfl
theorem ZfC{ws:List Str}(h:W7 ws≤100001):Eb " " (.lst (texts ws))=some (.str (Txt.join " " ws)):=by
 unfold Eb
 rw[show TQ (.lst (texts ws))=some (texts ws)from rfl]
 simp only[Option.bind]
 rw[M6]
 simp only
 rw[if_pos (Zdw (by omega))]
theorem Zqc{o:Str}(h:Uh o):gIn true (.str o) (.tup [.str "=", .str "!=", .str "<", .str "<=", .str ">", .str ">="])=some (.bl (!decide (o∈CK))):=bY (zs:=CK) ⟨Wh.mpr h.t,h.l⟩ Zd6
theorem Zqd{α:Type}(f:α→D)(hf: ∀a,∃xs,f a= .tup xs)(o:Option α):Uw false (VL f o) .non=some (.bl o.isNone):=by
 cases o with
 |none=>rfl
 |some a=>obtain⟨xs,e⟩:=hf a;show Uw false (f a) .non=_;rw[e];rfl
theorem Zqe(w:Str):Uw false (Ur w) .non=some (.bl (Vi w).isNone):=by
 rw[m7];cases Vi w<;>simp
theorem ZiO{u:Str}(h:Uh u):M7 [.str u]= .ok (VL Yb (XR u)):=by
 have hz:u.length+2≤sizeLine:=sz _ (by have:=h.l;omega)
 have hw:=Vt sepS h
 have hl:=Dd (Txt.split u " ")
 have hs:=Bt (u:=u) sepS
 have hu:=h.l
 have e1:(" " :Str).length=1:=rfl
 unfold M7 mX XR J8
 cases hq:cY (Txt.split u " ")with
 |none=>
  have h3:=ZaO hq
  have h3':(((Txt.split u " ").length:Nat):Int)<3:=by omega
  simp [hz,e1,QL,h3',VL]
 |some q=>
  obtain⟨fr,o,n⟩:=q
  obtain⟨h1,h2,h4,h5,h6,h7,h8⟩:=qH h hq
  have ht:=Zgc h1
  have hn:=rF h4
  have go:=Zqc h2
  have i1:=Zqd JC (fun a=>⟨_,rfl⟩) (YG (Txt.join " " fr))
  have i2:=Zqe n
  have hj:=ZfC (ws:=fr) (by omega)
  have e2:texts (fr++[o,n])=texts fr++[.str o, .str n]:=fM _ _
  have h3: ¬(((fr.length:Nat):Int)+1+1<3):=by
   have:0<fr.length:=List.length_pos_iff.mpr h7
   omega
  rw[Zke]at ht
  simp [hz,e1,h6,QL,h3,e2,ZdA,rH,ZdB,go]
  rw[if_neg (by omega)]
  have e3:Ur n=VL D.int (Vi n):=by unfold Ur;cases Vi n<;>rfl
  by_cases ho:o∈CK
  ·rw[if_pos ho,hj]
   simp [ht,hn]
   rw[e3]at i2⊢
   cases hT:YG (Txt.join " " fr)with
   |none=>
    rw[hT]at i1
    simp [i1,VL]
   |some ts=>
    have i3:Uw false (JC ts) .non=some (.bl false):=rfl
    cases hN:Vi n with
    |none=>
     rw[hN]at i2
     simp [i3,VL,rH]
    |some k=>
     rw[hN]at i2
     simp [i3,VL,rH,ho,Yb]
  ·rw[if_neg ho]
   cases YG (Txt.join " " fr)<;>cases Vi n<;>simp [ho,VL]
theorem Zac{u:Str}{t:Test}(e:XR u=some t):J8 u=some t∧t.2.1∈CK:=by
 unfold XR at e
 obtain⟨x,h1,e⟩:=Option.bind_eq_some_iff.mp e
 split at e
 ·rename_i h;cases e;exact⟨h1,h⟩
 ·cases e
theorem ZdC{α:Type}(f:α→D)(hf: ∀a,∃xs,f a= .tup xs){k:Nat}{os:List (Option α)}(ho: ∀o∈os,∀a,o=some a→ ∃w,Af k w (f a))(hk:k+1≤12:=by omega):gIn false .non (.lst (os.map (VL f)))=some (.bl (Vx os).isNone):=by
 obtain⟨w,hw⟩:=Zeg (k:=k) (xs:=os.map (VL f)) (fun x hx=>by
  obtain⟨o,hm,rfl⟩:=List.mem_map.mp hx
  exact Zqb (ho o hm))
 show(if _ then _ else _)=_
 rw[if_pos ⟨by decide,(Zd0 (n:=os.length) hw (by rw[List.length_map];exact Nat.le_refl _)).YF (by omega)⟩,Zn3 f hf]
 simp
theorem Sq{u v:Str}(hv:Sep v)(h:Uh u):(Txt.split u v).length≤100001:=by
 have h1:=Dd (Txt.split u v)
 have h2:=Bt (u:=u) hv
 have:=h.l
 omega
theorem ZfD{c:List Test}(h: ∀t∈c,Zla t): ∃w,Af 4 w (Jp c):=by
 obtain⟨w,hw⟩:=Zeg (k:=3) (xs:=c.map Yb) (fun x hx=>by
  obtain⟨t,ht,rfl⟩:=List.mem_map.mp hx
  exact ZmL (h t ht))
 exact⟨_,cM (n:=c.length) hw (by rw[List.length_map];exact Nat.le_refl _)⟩
theorem Zn5{u:Str}(h:Uh u){c:List Test}(e:Cm u=some c): ∀t∈c,Zla t:=by
 unfold Cm at e
 split at e
 ·cases e;intro t ht;cases ht
 ·intro t ht
  obtain⟨p,hp,e2⟩:=List.mem_map.mp (Zn4 e t ht)
  exact Zdz (Vt Zdv h p hp) (Zac e2).1
theorem ZiP{u:Str}(h:Uh u):M8 [.str u]= .ok (VL Jp (Cm u)):=by
 have hz:u.length+2≤sizeLine:=sz _ (by have:=h.l;omega)
 have hw:=Vt Zdv h
 have e1:(" & " :Str).length=3:=rfl
 have g0:=Lw h (JK "always")
 have hf:=Sq Zdv h
 unfold M8 mY Cm
 by_cases h0:u="always"
 ·simp [g0,h0,VL,Jp]
  have:=Lw (JK "always") (JK "always")
  simp [this]
 ·rw[if_neg h0]
  have gi:=ZdC Yb (fun a=>⟨_,rfl⟩) (k:=3) (os:=(Txt.split u " & ").map XR) (fun o ho a e=>by
   subst e
   obtain⟨p,hp,e2⟩:=List.mem_map.mp ho
   exact ZmL (Zdz (hw p hp) (Zac e2).1))
  have hz2:(Txt.split u " & ").length≤sizeLine:=sz _ (by omega)
  simp [g0,h0,hz,e1,QL,hz2]
  rw[mJ (F:=fun p=>VL Yb (XR p)) (h:=fun p hp=>by simp [Yx,ZiO (hw p hp)])]
  rw[List.map_map]at gi
  have e5:(VL Yb∘XR)=fun p=>VL Yb (XR p):=rfl
  rw[e5]at gi
  simp [gi,hz2]
  cases ha:Vx ((Txt.split u " & ").map XR)with
  |none=>simp [VL]
  |some ts=>
   have:=Zab Yb ha
   rw[List.map_map,e5]at this
   rw[this]
   simp [VL,Jp]
end Bk.Gk
namespace Bk.Gk
open PySem PySem.Spec PyProof.Rows L2 TL
open Bk.Pa Bk.Qa
theorem Zt3{b i:Int}{n:Nat}(h1: -99≤i)(h2:i≤99)(hb:10^30≤b):Th b n 7 (.int i):=by
 refine⟨?_, ?_, ?_⟩
 ·rw[D.good,decide_eq_true (show-b≤i by omega),decide_eq_true (show i≤b by omega)];rfl
 ·rw[D.py,PyData.depth];exact Nat.zero_le _
 ·rw[D.py,PyData.weight]
  split
  ·omega
  ·have:i.natAbs.log2<7:=log2_lt (Nat.lt_of_le_of_lt (show i.natAbs≤99 by omega) (by decide)) (by decide)
   omega
abbrev bg:Int:=10^30
theorem Zad{α:Type}{g:α→D}{f:Str→Option α}{c n:Nat}: ∀{l:List Str} {as:List α},(∀p∈l,∀a,f p=some a→ ∃w,Th bg n w (g a)∧w+1≤c*(p.length+1))→Vx (l.map f)=some as→ ∃w,yq bg n w (as.map g)∧w≤c*W7 l
 |[],as,_,h=>by cases h;exact⟨0,Lh,Nat.zero_le _⟩
 |p::l,as,hp,h=>by
  rw[List.map_cons]at h
  cases hf:f p with
  |none=>rw[hf]at h;cases h
  |some a=>
   rw[hf]at h
   obtain⟨bs,h1,rfl⟩:=Option.map_eq_some_iff.mp h
   obtain⟨w1,k1,k2⟩:=hp p List.mem_cons_self a hf
   obtain⟨w2,k3,k4⟩:=Zad (fun q hq=>hp q (List.mem_cons_of_mem _ hq)) h1
   refine⟨w1+1+w2,YQ k1 k3, ?_⟩
   rw[Y9,Nat.mul_add]
   omega
theorem Zn6{w:Str}(h:nameB (.str w)=true):1≤w.length:=by
 simp only[nameB,Bool.and_eq_true,decide_eq_true_eq]at h
 exact h.1.1
theorem Zqf{s:Str}{r r2:List Str}{x:Int×Str}(hr:Aq r)(h:Nq s r=some (r2,x)): ∃w,Th bg 1 w (J9 x)∧w+1+3*W7 r2≤3*W7 (s::r):=by
 have hx:=Zkd hr h
 refine⟨7+1+(x.2.length+1+0),G9.mpr (YQ (Zt3 hx.i.1 hx.i.2 (Int.le_refl _)) (YQ (yr (Wh.mpr hx.s.t)) Lh)), ?_⟩
 have one:("+" :Str).length=1∧("-" :Str).length=1:=⟨rfl,rfl⟩
 unfold Nq at h
 split at h
 ·cases h
 ·rename_i w r1
  split at h
  ·rename_i hs
   have hsl:s.length=1:=by rcases hs with rfl|rfl;exact one.1;exact one.2
   split at h
   ·rename_i hn
    cases h
    have:=Zn6 hn
    rw[Y9,Y9]
    simp only
    omega
   ·split at h
    ·cases h
    ·rename_i k hk
     have:=Zdx hk
     split at h
     ·cases h
     ·split at h
      ·cases h
      ·cases h
       rw[Y9,Y9,Y9]
       simp only
       omega
  ·cases h
theorem ZmM: ∀(n:Nat) {ws:List Str} {ts:List Term},ws.length≤n→Aq ws→aZ ws=some ts→ ∃w,yq bg 1 w (ts.map J9)∧w≤3*W7 ws
 |_,[],ts,_,_,h=>by
  rw[show aZ []=some []from rfl]at h
  cases h
  exact⟨0,Lh,Nat.zero_le _⟩
 |0,_::_,_,hn,_,_=>by simp at hn
 |n+1,s::r,ts,hn,hw,h=>by
  rw[pK]at h
  cases ho:Nq s r with
  |none=>rw[ho]at h;cases h
  |some q=>
   obtain⟨r2,x⟩:=q
   rw[ho]at h
   obtain⟨ys,h1,rfl⟩:=Option.map_eq_some_iff.mp h
   have hr:Aq r:=fun w hw2=>hw w (List.mem_cons_of_mem _ hw2)
   obtain⟨l1,l2⟩:=qG ho
   obtain⟨w1,k1,k2⟩:=Zqf hr ho
   obtain⟨w2,k3,k4⟩:=ZmM n (by rw[List.length_cons]at hn;omega) (fun w hw2=>hr w (l2 w hw2)) h1
   exact⟨w1+1+w2,YQ k1 k3,by omega⟩
theorem Zn7{w:Str}(h:isNeg w=true):(cutS w (some 1) none).length+1=w.length:=by
 unfold isNeg at h
 rw[decide_eq_true_eq]at h
 rw[len_tl,xR,len_tl w]
 cases hw:tl w with
 |nil=>rw[hw]at h;cases h
 |cons a r=>simp
theorem Zlb{ws:List Str}:W7 (signed ws)≤W7 ws+2:=by
 cases ws with
 |nil=>exact Nat.zero_le _
 |cons w r=>
  have e1:("+" :Str).length=1∧("-" :Str).length=1:=⟨rfl,rfl⟩
  simp only[signed]
  split
  ·rename_i h
   have:=Zn7 h
   rw[Y9,Y9,Y9]
   omega
  ·rw[Y9,Y9];omega
theorem ZiQ{u:Str}(h:Uh u){ts:List Term}(e:YG u=some ts): ∃w,Th bg 2 w (JC ts)∧w≤3*(u.length+3):=by
 unfold YG at e
 split at e
 ·cases e;exact⟨0,G9.mpr Lh,Nat.zero_le _⟩
 ·obtain⟨w,h1,h2⟩:=ZmM _ (Nat.le_refl _) (iG (Vt sepS h)) e
  have h3:=Zlb (ws:=Txt.split u " ")
  have h4:=Bt (u:=u) sepS
  exact⟨w,G9.mpr h1,by omega⟩
theorem Zlc{u:Str}(h:Uh u){t:Test}(e:J8 u=some t): ∃w,Th bg 3 w (Yb t)∧w+1≤5*(u.length+1):=by
 unfold J8 at e
 obtain⟨⟨fr,o,n⟩,h1,e⟩:=Option.bind_eq_some_iff.mp e
 obtain⟨ts,h2,e⟩:=Option.bind_eq_some_iff.mp e
 obtain⟨k,h3,rfl⟩:=Option.map_eq_some_iff.mp e
 obtain⟨a,b,c,hf,_,hne,hs⟩:=qH h h1
 have hk:=Zdx h3
 obtain⟨w,k1,k2⟩:=ZiQ a h2
 have hkl:1≤n.length:=hk.2.2
 have hj:=Zee hne
 have h1f:=Dd fr
 have h2f:0<fr.length:=List.length_pos_iff.mpr hne
 refine⟨w+1+(o.length+1+(7+1+0)),G9.mpr (YQ k1 (YQ ((yr (Wh.mpr b.t)).mono (Int.le_refl _) (Nat.zero_le _) (Nat.le_refl _)) (YQ (Zt3 hk.1 hk.2.1 (Int.le_refl _)) Lh))), ?_⟩
 omega
theorem Zld{u:Str}(h:Uh u){c:List Test}(e:Vu u=some c): ∃w,Th bg 4 w (Jp c)∧w+1≤6*(u.length+1):=by
 unfold Vu at e
 split at e
 ·cases e;exact⟨0,G9.mpr Lh,by omega⟩
 ·obtain⟨w,h1,h2⟩:=Zad (g:=Yb) (c:=5) (n:=3) (fun p hp a ha=>Zlc (Vt Zdv h p hp) ha) e
  have h4:=Bt (u:=u) Zdv
  exact⟨w,G9.mpr h1,by omega⟩
theorem Zle{u:Str}(h:Uh u){f:List (List Test)}(e:Gq u=some f):Th bg 5 (6*(u.length+1)) (QF f):=by
 unfold Gq at e
 split at e
 ·cases e;exact G9.mpr (Lh.mono (Int.le_refl _) (Nat.le_refl _) (Nat.zero_le _))
 ·obtain⟨w,h1,h2⟩:=Zad (g:=Jp) (c:=6) (n:=4) (fun p hp a ha=>Zld (Vt Zie h p hp) ha) e
  have h4:=Bt (u:=u) Zie
  exact G9.mpr (h1.mono (Int.le_refl _) (Nat.le_refl _) (by omega))
theorem Zae{u:Str}(h:Uh u)(hl:u.length≤16600){f:List (List Test)}(e:Gq u=some f):Vv (QF f):=⟨_,_,_,Zle h e,by decide,by decide,by omega⟩
theorem Zn8{u:Str}{c:List Test}(e:Cm u=some c):Vu u=some c∧ ∀t∈c,t.2.1∈CK:=by
 unfold Cm at e
 unfold Vu
 split at e
 ·rename_i h0
  cases e;exact⟨by rw[if_pos h0],fun t ht=>by cases ht⟩
 ·rename_i h0
  rw[if_neg h0]
  have key: ∀(l:List Str) (c:List Test),Vx (l.map XR)=some c→Vx (l.map J8)=some c∧ ∀t∈c,t.2.1∈CK:=by
   intro l
   induction l with
   |nil=>intro c h;cases h;exact⟨rfl,fun t ht=>by cases ht⟩
   |cons p l ih=>
    intro c h
    rw[List.map_cons]at h⊢
    cases hp:XR p with
    |none=>rw[hp]at h;cases h
    |some t=>
     rw[hp]at h
     obtain⟨bs,h1,rfl⟩:=Option.map_eq_some_iff.mp h
     obtain⟨a,b⟩:=Zac hp
     obtain⟨i1,i2⟩:=ih bs h1
     refine⟨by rw[a];show(Vx _).map _=_;rw[i1];rfl,fun x hx=> ?_⟩
     rcases List.mem_cons.mp hx with rfl|hx
     ·exact b
     ·exact i2 x hx
  exact key _ _ e
theorem Zn9{u:Str}{c:List Test}(e:Vu u=some c)(ho: ∀t∈c,t.2.1∈CK):Cm u=some c:=by
 unfold Vu at e
 unfold Cm
 split at e
 ·rename_i h0;rw[if_pos h0];exact e
 ·rename_i h0
  rw[if_neg h0]
  have key: ∀(l:List Str) (c:List Test),Vx (l.map J8)=some c→(∀t∈c,t.2.1∈CK)→Vx (l.map XR)=some c:=by
   intro l
   induction l with
   |nil=>intro c h _;exact h
   |cons p l ih=>
    intro c h ho
    rw[List.map_cons]at h⊢
    cases hp:J8 p with
    |none=>rw[hp]at h;cases h
    |some t=>
     rw[hp]at h
     obtain⟨bs,h1,rfl⟩:=Option.map_eq_some_iff.mp h
     have e1:XR p=some t:=by unfold XR;rw[hp];show(if _ then _ else _)=_;rw[if_pos (ho t List.mem_cons_self)]
     rw[e1]
     show(Vx _).map _=_
     rw[ih bs h1 fun x hx=>ho x (List.mem_cons_of_mem _ hx)]
     rfl
  exact key _ _ e ho
theorem ZfE{u:Str}{f:List (List Test)}(e:rG u=some f):Gq u=some f:=by
 unfold rG at e
 unfold Gq
 split at e
 ·rename_i h0;rw[if_pos h0];exact e
 ·rename_i h0
  rw[if_neg h0]
  have key: ∀(l:List Str) (f:List (List Test)),Vx (l.map Cm)=some f→Vx (l.map Vu)=some f:=by
   intro l
   induction l with
   |nil=>intro c h;exact h
   |cons p l ih=>
    intro c h
    rw[List.map_cons]at h⊢
    cases hp:Cm p with
    |none=>rw[hp]at h;cases h
    |some t=>
     rw[hp]at h
     obtain⟨bs,h1,rfl⟩:=Option.map_eq_some_iff.mp h
     rw[(Zn8 hp).1]
     show(Vx _).map _=_
     rw[ih bs h1];rfl
  exact key _ _ e
theorem Zoa{u:Str}{f:List (List Test)}(e:Gq u=some f)(ho: ∀c∈f,∀t∈c,t.2.1∈CK):rG u=some f:=by
 unfold Gq at e
 unfold rG
 split at e
 ·rename_i h0;rw[if_pos h0];exact e
 ·rename_i h0
  rw[if_neg h0]
  have key: ∀(l:List Str) (f:List (List Test)),Vx (l.map Vu)=some f→(∀c∈f,∀t∈c,t.2.1∈CK)→Vx (l.map Cm)=some f:=by
   intro l
   induction l with
   |nil=>intro c h _;exact h
   |cons p l ih=>
    intro c h ho
    rw[List.map_cons]at h⊢
    cases hp:Vu p with
    |none=>rw[hp]at h;cases h
    |some t=>
     rw[hp]at h
     obtain⟨bs,h1,rfl⟩:=Option.map_eq_some_iff.mp h
     rw[Zn9 hp (ho t List.mem_cons_self)]
     show(Vx _).map _=_
     rw[ih bs h1 fun x hx=>ho x (List.mem_cons_of_mem _ hx)]
     rfl
  exact key _ _ e ho
theorem Zlf{ns:List Str}{f:List (List Test)}(h:Yd ns (QF f)=none): ∀c∈f,∀t∈c,t.2.1∈CK:=by
 unfold QF at h
 simp only[Yd]at h
 split at h
 ·cases h
 ·split at h
  ·cases h
  ·split at h
   ·cases h
   ·rename_i h2
    intro c hc t ht
    have:=List.findIdx?_eq_none_iff.mp h2 (Jp c) (List.mem_map_of_mem hc)
    unfold Uu Jp YL at this
    rw[List.any_eq_false]at this
    have h3:=this (Yb t) (List.mem_map_of_mem ht)
    have h4:Vc ns (Yb t)=true:=by simpa using h3
    unfold Yb at h4
    rw[dW,Bool.and_eq_true,Bool.and_eq_true,Zd7,decide_eq_true_eq]at h4
    exact h4.2.1
def Vd(ns:List Str)(u:Str):Option (List (List Test)):=(Gq u).bind fun f=>if Yd ns (QF f)=none then some f else none
theorem Zqg{ns:List Str}{u:Str}:Vd ns u=(rG u).bind fun f=>if Yd ns (QF f)=none then some f else none:=by
 unfold Vd
 cases h:rG u with
 |some f=>rw[ZfE h]
 |none=>
  cases h2:Gq u with
  |none=>rfl
  |some f=>
   show(if _ then _ else _)=none
   by_cases hf:Yd ns (QF f)=none
   ·have:=Zoa h2 (Zlf hf)
    rw[h]at this
    cases this
   ·rw[if_neg hf]
end Bk.Gk
namespace Bk.Gk
open PySem PySem.Spec PyProof.Rows L2 TL
open Bk.Pa Bk.Qa
def CQ:Option (List (List Test))→D:=VL QF
theorem Zcj{cs:List (Str×Int)}{u:Str}(hc:CellsOk cs)(h:Uh u)(hl:u.length≤16600):NP [cellsD cs, .str u]= .ok (CQ (Vd (cs.map (·.1)) u)):=by
 have hz:u.length+2≤sizeLine:=sz _ (by omega)
 have hw:=Vt Zie h
 have e1:(" | " :Str).length=3:=rfl
 have g0:=Lw h (JK "never")
 have hf:=Sq Zie h
 unfold NP Fl
 rw[Zqg]
 unfold rG
 by_cases h0:u="never"
 ·have hn:Yd (cs.map (·.1)) (QF [])=none:=by
   unfold QF
   simp [Yd]
  have:=Lw (JK "never") (JK "never")
  rw[if_pos h0]
  simp [h0,CQ,VL,hn,this]
  simp [QF]
 ·rw[if_neg h0]
  have gi:=ZdC Jp (fun a=>⟨_,rfl⟩) (k:=4) (os:=(Txt.split u " | ").map Cm) (fun o ho a e=>by
   subst e
   obtain⟨p,hp,e2⟩:=List.mem_map.mp ho
   exact ZfD (Zn5 (hw p hp) e2))
  have hz2:(Txt.split u " | ").length≤sizeLine:=sz _ (by omega)
  simp [g0,h0,hz,e1,QL,hz2]
  rw[mJ (F:=fun p=>VL Jp (Cm p)) (h:=fun p hp=>by simp [Yx,ZiP (hw p hp)])]
  rw[List.map_map]at gi
  have e5:(VL Jp∘Cm)=fun p=>VL Jp (Cm p):=rfl
  rw[e5]at gi
  simp [gi,hz2]
  cases ha:Vx ((Txt.split u " | ").map Cm)with
  |none=>simp [CQ,VL]
  |some f=>
   have e6:=Zab Jp ha
   rw[List.map_map,e5]at e6
   rw[e6]
   have hi:Gq u=some f:=ZfE (by unfold rG;rw[if_neg h0,ha])
   have hS:=Zae h hl hi
   have nf:=Om hc hS
   have ef:(D.tup (f.map Jp))=QF f:=rfl
   simp [ef,nf]
   cases hq:Yd (cs.map (·.1)) (QF f)with
   |none=>simp [CQ,VL]
   |some e=>
    simp [CQ,VL]
    decide+kernel
theorem PB{cs:List (Str×Int)}{u:Str}(hc:CellsOk cs)(h:Uh u)(hl:u.length≤16600):ZR [cellsD cs, .str u]=match Vd (cs.map (·.1)) u with
  |some f=> .ok (QF f)
  |none=> .ex ⟨"BadText",[("line", .int 0)]⟩:=by
 have hf:=Zcj hc h hl
 unfold ZR Ou
 simp [hf]
 cases Vd (cs.map (·.1)) u with
 |none=>simp [CQ,VL]
 |some f=>simp [CQ,VL,QF]
abbrev lwI:FS:=(ZP (Qu 6 (Oo (fVar 5) (fC (.str " "))))
 (ZP (Qu 7 (Ln (Zw (Zz gGt (Qm YS (fVar 6)) (fC (.int 2)))) (ZL V7 (Zb (Ec (fC (.str " ")) (Lk (fVar 6) Qq (JH (fUn TV (fC (.int 2)))))) Zm)) (fC .non)))
 (ZP (Qu 8 (ZL YD (Zb (Zz Jt (fVar 6) (fUn TV (fC (.int 1)))) Zm)))
 (ZP (Ql (Br (Zw (Zz (Uw false) (fVar 7) (fC .non))) (Zw (Zz (Uw false) (fVar 8) (fC .non)))) (Qg (fC .non)) ZS)
 (Nf 4 (QM (Zb (fVar 7) (Zb (Zz Jt (fVar 6) (fUn TV (fC (.int 2)))) (Zb (fVar 8) Zm)))))))))
abbrev envF(N U:D)(cases:List D)(x3:Option D)(acc:Option D)(x5 x6 x7 x8:Option D):Zq:=[some N,some U,some (.lst cases),x3,acc,x5,x6,x7,x8]
theorem Zkg{ws:List Str}(h:ws≠[]): ∃n,n∈ws∧atI (texts ws) (-1)=some (.str n):=by
 have hne:texts ws≠[]:=fun e=>h (by simpa [texts]using e)
 obtain⟨fr,n,rfl⟩: ∃fr n,ws=fr++[n]:=⟨ws.dropLast,ws.getLast h,(List.dropLast_concat_getLast h).symm⟩
 refine⟨n,by simp, ?_⟩
 have e:ixN (texts (fr++[n])).length (-1)=some fr.length:=by
  rw[QL]
  unfold ixN
  simp only[List.length_append,List.length_cons,List.length_nil]
  first
   |omega
   |(split<;>omega)
   |(simp;omega)
 unfold atI
 rw[e]
 simp [texts]
theorem Zsy{N U:D}{cases acc:List D}{x3:Option D}{u:Str}(h:Uh u)(hacc:acc.length≤200000):
  ∃e2,lwI (envF N U cases x3 (some (.lst acc)) (some (.str u)) none none none)=(match J8 u with
   |none=> .rt .non
   |some t=> .nx e2)∧ ∀t,J8 u=some t→Jk e2 [8,5,7,6]=envF N U cases x3 (some (.lst (acc++[Yb t]))) none none none none:=by
 have hz:u.length+2≤sizeLine:=sz _ (by have:=h.l;omega)
 have hw:=Vt sepS h
 have hne:=qF (u:=u) sepS
 have hs:=Bt (u:=u) sepS
 have hu:=h.l
 have e1:(" " :Str).length=1:=rfl
 have hsz:acc.length<sizeLine:=sz1 (by omega)
 cases hq:cY (Txt.split u " ")with
 |none=>
  have ht:J8 u=none:=by unfold J8;rw[hq];rfl
  rw[ht]
  have h3:=ZaO hq
  obtain⟨n,hn,hx⟩:=Zkg hne
  have h3': ¬(2:Int)<(((Txt.split u " ").length:Nat):Int):=by omega
  have hk:=Xf (hw n hn)
  refine⟨[], ?_,fun t e=>by cases e⟩
  simp [hz,e1,QL,h3',hx,hk]
 |some q=>
  obtain⟨fr,o,n⟩:=q
  obtain⟨h1,h2,h4,h5,h6,h7,h8⟩:=qH h hq
  have ht:=yQ h1
  have hn:=Xf h4
  have hj:=ZfC (ws:=fr) (by omega)
  have e2:texts (fr++[o,n])=texts fr++[.str o, .str n]:=fM _ _
  have h3:(2:Int)<((fr.length:Nat):Int)+1+1:=by
   have:0<fr.length:=List.length_pos_iff.mpr h7
   omega
  have h3b:(2:Int)<((fr.length:Nat):Int)+2:=by omega
  have hfr:0<fr.length:=List.length_pos_iff.mpr h7
  have e3:Ur n=VL D.int (Vi n):=by unfold Ur;cases Vi n<;>rfl
  rw[Zke]at ht
  rw[e3]at hn
  have et:J8 u=(YG (Txt.join " " fr)).bind fun ts=>(Vi n).map fun k=>(ts,o,k):=by unfold J8;rw[hq];rfl
  rw[et]
  cases hT:YG (Txt.join " " fr)with
  |none=>
   rw[hT]at ht
   refine⟨[], ?_,fun t e=>by cases e⟩
   simp [hz,e1,h6,QL,h3,h3b,hfr,e2,ZdA,rH,ZdB,hj,ht,hn,VL]
  |some ts=>
   rw[hT]at ht
   have i3:Uw false (JC ts) .non=some (.bl false):=rfl
   cases hN:Vi n with
   |none=>
    rw[hN]at hn
    refine⟨[], ?_,fun t e=>by cases e⟩
    simp [hz,e1,h6,QL,h3,h3b,hfr,e2,ZdA,rH,ZdB,hj,ht,hn,VL,i3]
   |some k=>
    rw[hN]at hn
    refine⟨envF N U cases x3 (some (.lst (acc++[Yb (ts,o,k)]))) (some (.str u)) (some (.lst (texts (fr++[o,n])))) (some (JC ts)) (some (.int k)), ?_,fun t e=> ?_⟩
    ·simp [hz,e1,h6,QL,h3,h3b,hfr,e2,ZdA,rH,ZdB,hj,ht,hn,VL,i3,hsz,Yb]
    ·cases e;rfl
theorem loopI{N U:D}{cases:List D}{x3:Option D}: ∀(us:List Str) (acc:List D),Aq us→acc.length+us.length≤200000→
  Jy (Zv 5) lwI [8,5,7,6] (texts us) (envF N U cases x3 (some (.lst acc)) none none none none)=match Vx (us.map J8)with
   |none=> .rt .non
   |some ts=> .nx (envF N U cases x3 (some (.lst (acc++ts.map Yb))) none none none none)
 |[],acc,_,_=>by simp [texts,Jy,Vx]
 |u::us,acc,hw,hl=>by
  rw[List.length_cons]at hl
  obtain⟨e2,h1,h2⟩:=Zsy (N:=N) (U:=U) (cases:=cases) (acc:=acc) (x3:=x3) (hw u List.mem_cons_self) (by omega)
  show(lwI (envF N U cases x3 (some (.lst acc)) (some (.str u)) none none none)).turn [8,5,7,6] (Jy (Zv 5) lwI [8,5,7,6] (texts us))=_
  rw[h1,List.map_cons]
  cases ht:J8 u with
  |none=>rfl
  |some t=>
   show Jy (Zv 5) lwI [8,5,7,6] (texts us) (Jk e2 [8,5,7,6])=_
   rw[h2 t ht,loopI us (acc++[Yb t]) (fun w hm=>hw w (List.mem_cons_of_mem _ hm)) (by rw[List.length_append,List.length_singleton];omega)]
   simp only[Vx]
   cases hh:Vx (us.map J8)<;>simp [List.append_assoc]
abbrev lwO:FS:=(ZP (Qu 4 (JX Zm))
 (ZP (Oh (Jg (Ln (Zw (Zz Wo (fVar 3) (fC (.str "always")))) (Oo (fVar 3) (fC (.str " & "))) (JX Zm))) (Zv 5) lwI [8,5,7,6])
 (Nf 2 (Qm BL (fVar 4)))))
theorem Zsz{N U:D}{cases:List D}{u:Str}(h:Uh u)(hl:cases.length≤200000):
  ∃e2,lwO (envF N U cases (some (.str u)) none none none none none)=(match Vu u with
   |none=> .rt .non
   |some t=> .nx e2)∧ ∀c,Vu u=some c→Jk e2 [4,8,3,5,7,6]=envF N U (cases++[Jp c]) none none none none none none:=by
 have hz:u.length+2≤sizeLine:=sz _ (by have:=h.l;omega)
 have e1:(" & " :Str).length=3:=rfl
 have hsz:cases.length<sizeLine:=sz1 (by omega)
 have g0:=Zca h (JK "always")
 have go: ∀us:List Str,Aq us→us.length≤100001→ ∃e2,(ZP (Qu 4 (JX Zm)) (ZP (fun e=>Jy (Zv 5) lwI [8,5,7,6] (texts us) e) (Nf 2 (Qm BL (fVar 4))))) (envF N U cases (some (.str u)) none none none none none)=(match Vx (us.map J8)with
   |none=> .rt .non
   |some t=> .nx e2)∧ ∀c,Vx (us.map J8)=some c→Jk e2 [4,8,3,5,7,6]=envF N U (cases++[Jp c]) none none none none none none:=by
  intro us hw hlu
  have hL:=loopI (N:=N) (U:=U) (cases:=cases) (x3:=some (.str u)) us [] hw (by simp;omega)
  cases ha:Vx (us.map J8)with
  |none=>
   rw[ha]at hL
   refine⟨[], ?_,fun t e=>by cases e⟩
   simp only[ZP,Qu,JX,Zm]
   show(Jy (Zv 5) lwI [8,5,7,6] (texts us) (envF N U cases (some (.str u)) (some (.lst [])) none none none none)).andThen _=_
   rw[hL]
   rfl
  |some c=>
   rw[ha]at hL
   have hcl:(c.map Yb).length≤sizeLine:=sz _ (by
    have:=(ZfB ha)
    rw[List.length_map]at this
    rw[List.length_map]
    omega)
   refine⟨envF N U (cases++[Jp c]) (some (.str u)) (some (.lst (c.map Yb))) none none none none, ?_,fun t e=>by cases e;rfl⟩
   show(Jy (Zv 5) lwI [8,5,7,6] (texts us) (envF N U cases (some (.str u)) (some (.lst [])) none none none none)).andThen _=_
   rw[hL]
   simp at hcl
   simp [hsz,hcl,Jp]
 by_cases h0:u="always"
 ·obtain⟨e2,k1,k2⟩:=go [] (fun w hw=>by cases hw) (by simp)
  have ec:Vu u=Vx (([]:List Str).map J8):=by unfold Vu;rw[if_pos h0];rfl
  rw[ec]
  refine⟨e2, ?_,k2⟩
  rw[←k1]
  have hd:decide (u="always")=true:=by simp [h0]
  rw[hd]at g0
  simp [g0,texts]
 ·obtain⟨e2,k1,k2⟩:=go (Txt.split u " & ") (Vt Zdv h) (Sq Zdv h)
  have ec:Vu u=Vx ((Txt.split u " & ").map J8):=by unfold Vu;rw[if_neg h0]
  rw[ec]
  refine⟨e2, ?_,k2⟩
  rw[←k1]
  have hd:decide (u="always")=false:=by simp [h0]
  have hz2:(Txt.split u " & ").length≤sizeLine:=sz _ (by have:=Sq Zdv h;omega)
  rw[hd]at g0
  simp [g0,hz,e1,QL,hz2]
theorem Zq6{N U:D}: ∀(us:List Str) (cases:List D),Aq us→cases.length+us.length≤200000→
  Jy (Zv 3) lwO [4,8,3,5,7,6] (texts us) (envF N U cases none none none none none none)=match Vx (us.map Vu)with
   |none=> .rt .non
   |some cs=> .nx (envF N U (cases++cs.map Jp) none none none none none none)
 |[],cases,_,_=>by simp [texts,Jy,Vx]
 |u::us,cases,hw,hl=>by
  rw[List.length_cons]at hl
  obtain⟨e2,h1,h2⟩:=Zsz (N:=N) (U:=U) (cases:=cases) (hw u List.mem_cons_self) (by omega)
  show(lwO (envF N U cases (some (.str u)) none none none none none)).turn [4,8,3,5,7,6] (Jy (Zv 3) lwO [4,8,3,5,7,6] (texts us))=_
  rw[h1,List.map_cons]
  cases ht:Vu u with
  |none=>rfl
  |some t=>
   show Jy (Zv 3) lwO [4,8,3,5,7,6] (texts us) (Jk e2 [4,8,3,5,7,6])=_
   rw[h2 t ht,Zq6 us (cases++[Jp t]) (fun w hm=>hw w (List.mem_cons_of_mem _ hm)) (by rw[List.length_append,List.length_singleton];omega)]
   simp only[Vx]
   cases hh:Vx (us.map Vu)<;>simp [List.append_assoc]
theorem Zlg{ns:List Str}{d e:D}(h:Yd ns d=some e): ∃xs,e= .tup xs:=by
 unfold Yd at h
 split at h
 ·split at h
  ·cases h;exact⟨_,rfl⟩
  ·split at h
   ·cases h;exact⟨_,rfl⟩
   ·split at h
    ·cases h;exact⟨_,rfl⟩
    ·cases h
 ·cases h;exact⟨_,rfl⟩
theorem rY{ns:List Str}{u:Str}(hn: ∀x∈ns,Cu x)(h:Uh u)(hl:u.length≤16600):Ju [.lst (texts ns), .str u]= .ok (CQ (Vd ns u)):=by
 have hz:u.length+2≤sizeLine:=sz _ (by omega)
 have e1:(" | " :Str).length=3:=rfl
 have g0:=Lw h (JK "never")
 have hf:=Sq Zie h
 have hz2:(Txt.split u " | ").length≤sizeLine:=sz _ (by omega)
 have hL:=Zq6 (N:= .lst (texts ns)) (U:= .str u) (Txt.split u " | ") [] (Vt Zie h) (by simp;omega)
 unfold Ju CW Vd Gq
 by_cases h0:u="never"
 ·have hn:Yd ns (QF [])=none:=by
   unfold QF
   simp [Yd]
  have:=Lw (JK "never") (JK "never")
  rw[if_pos h0]
  simp [h0,CQ,VL,hn,this]
  simp [QF]
 ·rw[if_neg h0]
  simp [g0,h0,hz,e1,QL,hz2]
  simp only[envF,lwO,lwI,List.nil_append]at hL
  rw[hL]
  cases ha:Vx ((Txt.split u " | ").map Vu)with
  |none=>simp [CQ,VL]
  |some f=>
   have hi:Gq u=some f:=by unfold Gq;rw[if_neg h0,ha]
   have hS:=Zae h hl hi
   have nf:=jt hn hS
   have ef:(D.tup (f.map Jp))=QF f:=rfl
   have hfl:=ZfB ha
   rw[List.length_map]at hfl
   have hfz:f.length≤sizeLine:=sz _ (by omega)
   simp [ef,nf,hfz]
   cases hq:Yd ns (QF f)with
   |none=>simp [CQ,VL]
   |some e=>
    obtain⟨xs,rfl⟩:=Zlg hq
    simp [CQ,VL]
end Bk.Gk
namespace Bk.Gk
open PySem PySem.Spec PyProof.Rows L2 TL
open Bk.Pa Bk.Qa
theorem LR: ∀{zs ns:List Str},zs.Sublist ns→ns.Nodup→ns.filter (fun n=>decide (n∈zs))=zs
 |_,_, .slnil,_=>rfl
 |zs,_, .cons a (l₂:=l) h,hn=>by
  rw[List.nodup_cons]at hn
  rw[List.filter_cons,if_neg (by rw[decide_eq_true_eq];exact fun z=>hn.1 (h.subset z))]
  exact LR h hn.2
 |_,_, .cons₂ a (l₁:=zs) (l₂:=l) h,hn=>by
  rw[List.nodup_cons]at hn
  rw[List.filter_cons,if_pos (by simp)]
  have e:l.filter (fun n=>decide (n∈a::zs))=l.filter (fun n=>decide (n∈zs)):=by
   refine List.filter_congr fun x hx=> ?_
   have: ¬x=a:=fun z=>hn.1 (z▸hx)
   simp [this]
  rw[e,LR h hn.2]
theorem Oz{ns zs:List Str}(h:zs.Sublist ns)(hn:ns.Nodup):Lf ns (texts zs)=true:=by
 unfold Lf
 rw[Xy]
 exact decide_eq_true (LR h hn)
theorem z7{ns kn:List Str}{ts:List Term}(hk:kn.Sublist ns)(hn:ns.Nodup)(h4:ns.length≤4)(h:cP kn ts):Ug ns (JC ts)=true:=by
 show(decide ((ts.map J9).length≤4)&&((ts.map J9).all BJ&&Lf ns ((ts.map J9).map T7)))=true
 have e:(ts.map J9).map T7=texts (ts.map (·.2)):=by rw[List.map_map,texts,List.map_map];rfl
 rw[e,Oz (h.sub.trans hk) hn,decide_eq_true (by rw[List.length_map];have:=h.len;have:=hk.length_le;omega),Bool.true_and,Bool.and_true,List.all_map,List.all_eq_true]
 intro t ht
 show((decide (-9≤t.1)&&decide (t.1≤9))&& !decide (t.1=0))=true
 rw[decide_eq_true (h.all t ht).1.1,decide_eq_true (h.all t ht).1.2,decide_eq_false (h.nz t ht)];rfl
theorem Zec{ns kn:List Str}{t:Test}(hk:kn.Sublist ns)(hn:ns.Nodup)(h4:ns.length≤4)(h:RQ kn t):Vc ns (Yb t)=true:=by
 show(Ug ns (JC t.1)&&(opB (.str t.2.1)&&Ue (.int t.2.2) (-99) 99))=true
 have ho:opB (.str t.2.1)=true:=decide_eq_true h.op
 have ha:Ue (.int t.2.2) (-99) 99=true:=by rw[Ue,Bool.and_eq_true,decide_eq_true_eq,decide_eq_true_eq];exact h.num
 rw[z7 hk hn h4 h.terms,ho,ha];rfl
theorem Zj1{ns kn:List Str}{f:List (List Test)}(hk:kn.Sublist ns)(hn:ns.Nodup)(h4:ns.length≤4)(h:Kh kn f):Yd ns (QF f)=none:=by
 show(if 4<(f.map Jp).length then _ else _)=none
 have h1:(f.map Jp).findIdx? (fun c=> !V2 c 4)=none:=by
  rw[List.findIdx?_eq_none_iff]
  intro x hx
  obtain⟨c,hc,rfl⟩:=List.mem_map.mp hx
  have:V2 (Jp c) 4=true:=decide_eq_true (by rw[List.length_map];have:=(h.cases c hc).1;omega)
  rw[this];rfl
 have h2:(f.map Jp).findIdx? (Uu ns)=none:=by
  rw[List.findIdx?_eq_none_iff]
  intro x hx
  obtain⟨c,hc,rfl⟩:=List.mem_map.mp hx
  show((c.map Yb).any fun t=> !Vc ns t)=false
  rw[List.any_map,List.any_eq_false]
  intro t ht
  show¬(!Vc ns (Yb t))=true
  rw[Zec hk hn h4 ((h.cases c hc).2 t ht)];decide
 rw[if_neg (by rw[List.length_map];have:=h.len;omega),h1,h2]
def V9(i:Int):Str:=Str.ofString (toString i)
theorem O6(n:Nat):tl (V9 (n:Nat))=numL n:=tl_num n
theorem vG(m:Nat):tl (V9 (Int.negSucc m))=45::numL (m+1):=by
 have e:toString (Int.negSucc m)="-" ++Nat.repr (m+1):=rfl
 have e2:=tl_num (m+1)
 rw[tl_ofString]at e2
 unfold V9
 rw[tl_ofString,e,String.toList_append,List.map_append]
 rw[show(toString ((m+1:Nat):Int))=Nat.repr (m+1)from rfl]at e2
 rw[e2]
 rfl
theorem cZ{i:Int}(h1: -99≤i)(h2:i≤99):(∀c∈tl (V9 i),c=45∨(48≤c∧c≤57))∧1≤(V9 i).length∧(V9 i).length≤3:=by
 cases i with
 |ofNat n=>
  have hn:n≤99:=by have:=h2;simp at this;omega
  have e:tl (V9 (Int.ofNat n))=numL n:=O6 n
  have hd:=numL_digits n
  rw[len_tl,e]
  exact⟨fun c hc=> .inr (hd c hc),List.length_pos_iff.mpr (numL_ne n),by have:=numL_len (n:=n) (k:=2) (by decide) (by omega);omega⟩
 |negSucc m=>
  have hn:m+1≤99:=by omega
  have e:=vG m
  have hd:=numL_digits (m+1)
  rw[len_tl,e]
  refine⟨fun c hc=> ?_,by simp,by have:=numL_len (n:=m+1) (k:=2) (by decide) (by omega);simp;omega⟩
  rcases List.mem_cons.mp hc with rfl|hc
  ·exact .inl rfl
  ·exact .inr (hd c hc)
theorem ZdD{n:Nat}(h:(numL n).head? =some 48)(hn:n≤99):n=0:=by
 have: ∀n:Nat,n<100→(numL n).head? =some 48→n=0:=by decide+kernel
 exact this n (by omega) h
theorem Zkh{i:Int}(h1: -99≤i)(h2:i≤99):Vi (V9 i)=some i:=by
 cases i with
 |ofNat n=>
  have hn:n≤99:=by have:=h2;simp at this;omega
  have e:tl (V9 (Int.ofNat n))=numL n:=O6 n
  have hd:=numL_digits n
  have hneg:isNeg (V9 (Int.ofNat n))=false:=by
   unfold isNeg
   rw[decide_eq_false_iff_not,e]
   cases hl:numL n with
   |nil=>simp
   |cons a r=>
    intro z
    injection z with z
    have:=hd a (by rw[hl];simp)
    omega
  have hb:bodyOf (V9 (Int.ofNat n))=V9 (Int.ofNat n):=by unfold bodyOf;rw[hneg];rfl
  have hl:=numL_len (n:=n) (k:=2) (by decide) (by omega)
  have hne:=List.length_pos_iff.mpr (numL_ne n)
  have hB:Aa (V9 (Int.ofNat n))=true:=by
   unfold Aa
   rw[hb,len_tl,e]
   simp only[Bool.and_eq_true,decide_eq_true_eq,List.all_eq_true,Zef,Bool.not_eq_true',Bool.and_eq_false_iff,decide_eq_false_iff_not,Bool.not_eq_false',decide_eq_true_eq]
   refine⟨⟨hne,hl⟩,fun c hc=>hd c hc, ?_⟩
   by_cases hz:(numL n).head? =some 48
   ·have:=ZdD hz hn
    subst this
    right
    decide+kernel
   ·exact .inl hz
  unfold Vi
  rw[if_pos hB]
  exact int_num (n:=n) (by omega)
 |negSucc m=>
  have hn:m+1≤99:=by omega
  have e:=vG m
  have hd:=numL_digits (m+1)
  have hneg:isNeg (V9 (Int.negSucc m))=true:=by
   unfold isNeg
   rw[decide_eq_true_eq,e];rfl
  have hb:tl (bodyOf (V9 (Int.negSucc m)))=numL (m+1):=by unfold bodyOf;rw[if_pos hneg,xR,e];rfl
  have hl:=numL_len (n:=m+1) (k:=2) (by decide) (by omega)
  have hne:=List.length_pos_iff.mpr (numL_ne (m+1))
  have hB:Aa (V9 (Int.negSucc m))=true:=by
   unfold Aa
   rw[len_tl,hb]
   simp only[Bool.and_eq_true,decide_eq_true_eq,List.all_eq_true,Zef,Bool.not_eq_true',Bool.and_eq_false_iff,decide_eq_false_iff_not,Bool.not_eq_false',decide_eq_true_eq]
   refine⟨⟨hne,hl⟩,fun c hc=>hd c hc, .inl fun hz=> ?_⟩
   have:=ZdD hz hn
   omega
  unfold Vi
  rw[if_pos hB]
  have hv:=PySem.intText_neg (x:=V9 (Int.negSucc m)) e hd (numL_ne _) (by rw[len_tl,e];simp;omega)
  rw[hv,numL_val]
  rfl
def Nr(i:Int):Int:=if i<0 then-i else i
def Ss(t:Term):List Str:=if Nr t.1=1 then[t.2]else[V9 (Nr t.1),t.2]
def Hf(t:Term):Str:=if t.1<0 then "-" else "+"
def Bp(t:Term):Str:=if Nr t.1=1 then t.2 else V9 (Nr t.1)++ " " ++t.2
def YZ(ts:List Term):List Str:=ts.flatMap fun t=>Hf t::Ss t
def Ly(found:Str)(t:Term):Str:=if found="" then(if t.1<0 then "-" ++Bp t else Bp t)else found++(if t.1<0 then(" - " :Str)else " + ")++Bp t
def bf(ts:List Term):Str:=ts.foldl Ly ""
def Yo(ts:List Term):Str:=if bf ts="" then "0" else bf ts
structure iH(t:Term):Prop where
 i: -9≤t.1∧t.1≤9∧t.1≠0
 s:Wn t.2
theorem dh{t:Term}(h:iH t):1≤Nr t.1∧Nr t.1≤9:=by
 have:=h.i
 unfold Nr
 split<;>omega
theorem ZmN{x:Str}(h:Wn x): ∀c∈tl x,97≤c∧c≤122:=by
 have: ∀c∈letters.cps.toList,97≤c∧c≤122:=by decide+kernel
 exact fun c hc=>this c (h.2.2 c hc)
theorem Zlh{i:Int}(h1:2≤i)(h2:i≤9):nameB (.str (V9 i))=false:=by
 have: ∀n:Nat,n<10→nameB (.str ⟨(numL n).toArray⟩)=false:=by decide+kernel
 obtain⟨n,rfl⟩: ∃n:Nat,i=n:=⟨i.toNat,by omega⟩
 have e:V9 (n:Nat)=⟨(numL n).toArray⟩:=ext_tl (O6 n)
 rw[e]
 exact this n (by omega)
theorem ZsA{t:Term}(h:iH t):sg (Hf t) (Nr t.1)=t.1:=by
 have:=h.i
 unfold sg Hf Nr
 by_cases hn:t.1<0
 ·rw[if_pos hn,if_pos hn,if_neg (by decide+kernel)];omega
 ·rw[if_neg hn,if_neg hn,if_pos rfl]
theorem ZdE(t:Term):Hf t="+" ∨Hf t="-" :=by unfold Hf;split;exact .inr rfl;exact .inl rfl
theorem ZaP: ∀{ts:List Term},(∀t∈ts,iH t)→aZ (YZ ts)=some ts
 |[],_=>rfl
 |t::ts,h=>by
  have ht:=h t List.mem_cons_self
  have ih:=ZaP fun x hx=>h x (List.mem_cons_of_mem _ hx)
  have e:YZ (t::ts)=Hf t::(Ss t++YZ ts):=by simp [YZ]
  have ha:=dh ht
  have hs:=ZsA ht
  rw[e,pK]
  have eo:Nq (Hf t) (Ss t++YZ ts)=some (YZ ts,t):=by
   unfold Ss
   split
   ·rename_i h1
    show(if _ then _ else _)=_
    rw[if_pos (ZdE t),if_pos (gU ht.s)]
    rw[h1]at hs
    rw[hs]
    rfl
   ·rename_i h1
    show(if _ then _ else _)=_
    rw[if_pos (ZdE t),if_neg (by rw[Zlh (by omega) (by omega)];decide),Zkh (by omega) (by omega)]
    show(if _ then _ else _)=_
    rw[if_neg (by omega)]
    show some (YZ ts,(sg (Hf t) (Nr t.1),t.2))=_
    rw[hs]
  rw[eo]
  show(aZ (YZ ts)).map _=_
  rw[ih];rfl
def bh:List Str→List Str
 |s::w::r=>(if s="-" then "-" ++w else w)::r
 |ws=>ws
theorem iI(s w:Str)(r:List Str):bh (s::w::r)=(if s="-" then "-" ++w else w)::r:=rfl
theorem ZeH{s w:Str}{r:List Str}(hs:s="+" ∨s="-")(hw:isNeg w=false):signed (bh (s::w::r))=s::w::r:=by
 rw[iI]
 rcases hs with rfl|rfl
 ·rw[if_neg (by decide+kernel)]
  simp only[signed]
  rw[hw];rfl
 ·rw[if_pos rfl]
  simp only[signed]
  have hn:isNeg ("-" ++w)=true:=by
   unfold isNeg
   rw[decide_eq_true_eq,tl_append,show tl "-" =[45]by decide+kernel];rfl
  have hc:cutS ("-" ++w) (some 1) none=w:=ext_tl (by rw[xR,tl_append,show tl "-" =[45]by decide+kernel];rfl)
  rw[if_pos hn,hc]
theorem ZaQ(w:List Nat): ∀ws:List (List Nat),joinL [32] (w::ws)=w++ws.flatMap (32:: ·)
 |[]=>by simp [joinL]
 |p::ws=>by
  show w++([32]++joinL [32] (p::ws))=_
  rw[ZaQ p ws];simp
theorem W8(w:Str)(ws:List Str):tl (Txt.join " " (w::ws))=tl w++ws.flatMap fun x=>32::tl x:=by
 rw[join_eq,tl_join,show tl " " =[32]by decide+kernel,List.map_cons,ZaQ,List.flatMap_map]
theorem vH{t:Term}(h:iH t): ∃w r,Ss t=w::r∧isNeg w=false∧tl (Bp t)=tl w++(r.flatMap fun x=>32::tl x)∧tl w≠[]:=by
 have ha:=dh h
 unfold Ss Bp
 split
 ·refine⟨_,_,rfl, ?_,by simp, ?_⟩
  ·unfold isNeg
   rw[decide_eq_false_iff_not]
   cases hl:tl t.2 with
   |nil=>simp
   |cons a r=>
    intro z
    injection z with z
    have:=ZmN h.s a (by rw[hl];simp)
    omega
  ·have:=h.s.1
   rw[len_tl]at this
   exact List.length_pos_iff.mp this
 ·obtain⟨n,hn⟩: ∃n:Nat,Nr t.1=n:=⟨(Nr t.1).toNat,by omega⟩
  rw[hn]
  refine⟨_,_,rfl, ?_,by rw[tl_append,tl_append,show tl " " =[32]by decide+kernel];simp,by rw[O6];exact numL_ne n⟩
  unfold isNeg
  rw[decide_eq_false_iff_not,O6]
  cases hl:numL n with
  |nil=>simp
  |cons a r=>
   intro z
   injection z with z
   have:=numL_digits n a (by rw[hl];simp)
   omega
theorem ZsB(t:Term):(if t.1<0 then tl " - " else tl " + ")=32::(tl (Hf t)++[32]):=by
 unfold Hf
 split<;>decide+kernel
theorem qI{x:Str}:x≠ "" ↔tl x≠[]:=by
 rw[ne_eq,Zif,show tl "" =[]by decide+kernel]
theorem ZmO: ∀{ts:List Term} {f:Str},f≠ "" →tl (ts.foldl Ly f)=tl f++ts.flatMap fun t=>32::(tl (Hf t)++(32::tl (Bp t)))
 |[],f,_=>by simp
 |t::ts,f,hf=>by
  have e:tl (Ly f t)=tl f++(32::(tl (Hf t)++(32::tl (Bp t)))):=by
   unfold Ly
   rw[if_neg hf,tl_append,tl_append]
   have:=ZsB t
   have e2:tl (if t.1<0 then(" - " :Str)else " + ")=if t.1<0 then tl " - " else tl " + " :=by split<;>rfl
   rw[e2,this]
   simp
  have hne:Ly f t≠ "" :=by rw[qI,e];simp
  rw[List.foldl_cons,ZmO hne,e]
  simp
theorem rJ: ∀{ts:List Term},(∀t∈ts,iH t)→(YZ ts).flatMap (fun x=>32::tl x)=ts.flatMap fun t=>32::(tl (Hf t)++(32::tl (Bp t)))
 |[],_=>rfl
 |t::ts,h=>by
  obtain⟨w,r,e1,_,e2,_⟩:=vH (h t List.mem_cons_self)
  have e:YZ (t::ts)=Hf t::(Ss t++YZ ts):=by simp [YZ]
  rw[e,e1,List.flatMap_cons,List.flatMap_append,rJ fun x hx=>h x (List.mem_cons_of_mem _ hx),List.flatMap_cons,List.flatMap_cons,e2]
  simp
theorem vI{t:Term}{ts:List Term}(h: ∀x∈t::ts,iH x):bf (t::ts)=Txt.join " " (bh (YZ (t::ts)))∧bf (t::ts)≠ "" ∧signed (bh (YZ (t::ts)))=YZ (t::ts)∧bh (YZ (t::ts))≠[]:=by
 obtain⟨w,r,e1,hn,e2,hw⟩:=vH (h t List.mem_cons_self)
 have e:YZ (t::ts)=Hf t::w::(r++YZ ts):=by simp [YZ,e1]
 have ef:Ly "" t=(if t.1<0 then "-" ++Bp t else Bp t):=by unfold Ly;rw[if_pos rfl]
 have et:tl (Ly "" t)=(if t.1<0 then[45]else[])++tl (Bp t):=by
  rw[ef]
  split
  ·rw[tl_append,show tl "-" =[45]by decide+kernel]
  ·rfl
 have hne:Ly "" t≠ "" :=by
  rw[qI,et,e2]
  intro z
  exact hw (List.append_eq_nil_iff.mp (List.append_eq_nil_iff.mp z).2).1
 have ea:tl (bf (t::ts))=tl (Ly "" t)++ts.flatMap fun t=>32::(tl (Hf t)++(32::tl (Bp t))):=ZmO hne
 refine⟨ext_tl ?_, ?_, ?_, ?_⟩
 ·rw[ea,e,iI,W8,et,e2,List.flatMap_append,rJ fun x hx=>h x (List.mem_cons_of_mem _ hx)]
  have es:tl (if Hf t="-" then "-" ++w else w)=(if t.1<0 then[45]else[])++tl w:=by
   unfold Hf
   by_cases hq:t.1<0
   ·rw[if_pos hq,if_pos hq,if_pos rfl,tl_append,show tl "-" =[45]by decide+kernel]
   ·rw[if_neg hq,if_neg hq,if_neg (by decide+kernel)];rfl
  rw[es]
  simp
 ·rw[qI,ea]
  intro z
  exact(qI.mp hne) (List.append_eq_nil_iff.mp z).1
 ·rw[e]
  exact ZeH (ZdE t) hn
 ·rw[e,iI];simp
def PL:List Term→List Str
 |[]=>["0"]
 |t::ts=>bh (YZ (t::ts))
theorem Fo{ts:List Term}(h: ∀t∈ts,iH t):Yo ts=Txt.join " " (PL ts)∧PL ts≠[]:=by
 cases ts with
 |nil=>exact⟨by decide+kernel,by simp [PL]⟩
 |cons t ts=>
  obtain⟨a,b,c,d⟩:=vI h
  refine⟨?_,d⟩
  unfold Yo
  rw[if_neg b,a];rfl
def Tf(w:Str):Prop:= ∀c∈tl w,33≤c∧c<124∧c≠38
theorem Ky{x:Str}(h:Wn x):Tf x:=fun c hc=>by have:=ZmN h c hc;omega
theorem pN{i:Int}(h1: -99≤i)(h2:i≤99):Tf (V9 i):=fun c hc=>by have:=(cZ h1 h2).1 c hc;omega
theorem rK(x:Str)(h:(tl x).all (fun c=>decide (33≤c)&&(decide (c<124)&& !decide (c=38)))=true:=by decide+kernel):Tf x:=fun c hc=>by
 have:=List.all_eq_true.mp h c hc
 simp at this
 omega
theorem Zki{x y:Str}(h1:Tf x)(h2:Tf y):Tf (x++y):=fun c hc=>by
 rw[tl_append]at hc
 rcases List.mem_append.mp hc with h|h
 ·exact h1 c h
 ·exact h2 c h
theorem Zli{t:Term}(h:iH t): ∀w∈Hf t::Ss t,Tf w:=fun w hw=>by
 have ha:=dh h
 rcases List.mem_cons.mp hw with rfl|hw
 ·rcases ZdE t with e|e<;>rw[e]<;>exact rK _
 ·unfold Ss at hw
  split at hw
  ·rw[List.mem_singleton.mp hw];exact Ky h.s
  ·rcases List.mem_cons.mp hw with rfl|hw
   ·exact pN (by omega) (by omega)
   ·rw[List.mem_singleton.mp hw];exact Ky h.s
theorem ZiR{ts:List Term}(h: ∀t∈ts,iH t): ∀w∈YZ ts,Tf w:=fun w hw=>by
 obtain⟨t,ht,hw⟩:=List.mem_flatMap.mp hw
 exact Zli (h t ht) w hw
theorem Zlj{ws:List Str}(h: ∀w∈ws,Tf w): ∀w∈bh ws,Tf w:=by
 match ws,h with
 |[],h=>exact h
 |[s],h=>exact h
 |s::w::r,h=>
  rw[iI]
  intro x hx
  rcases List.mem_cons.mp hx with rfl|hx
  ·split
   ·exact Zki (rK "-") (h w (by simp))
   ·exact h w (by simp)
  ·exact h x (by simp [hx])
theorem m9{ts:List Term}(h: ∀t∈ts,iH t): ∀w∈PL ts,Tf w:=by
 cases ts with
 |nil=>
  intro w hw
  rw[List.mem_singleton.mp hw]
  exact rK "0"
 |cons t ts=>exact Zlj (ZiR h)
theorem Tf.free{w:Str}(h:Tf w):32∉tl w:=fun hm=>by have:=h 32 hm;omega
theorem Zgd{ts:List Term}(h: ∀t∈ts,iH t):YG (Yo ts)=some ts:=by
 obtain⟨e,hne⟩:=Fo h
 have hsp:Txt.split (Yo ts) " " =PL ts:=by rw[e];exact Ww hne fun w hw=>(m9 h w hw).free
 unfold YG
 cases ts with
 |nil=>rw[if_pos (by decide+kernel)]
 |cons t ts=>
  obtain⟨_,_,c,_⟩:=vI h
  have hg:aZ (signed (PL (t::ts)))=some (t::ts):=by
   show aZ (signed (bh (YZ (t::ts))))=_
   rw[c,ZaP h]
  rw[if_neg,hsp,hg]
  intro z
  have h0:Txt.split "0" " " =(["0"]:List Str):=Ww (ws:=["0"]) (by simp) fun w hw=>by
   rw[List.mem_singleton.mp hw];exact(rK "0").free
  rw[z,h0]at hsp
  rw[←hsp]at hg
  have:aZ (signed (["0"]:List Str))=none:=by decide+kernel
  rw[this]at hg
  cases hg
def YH(t:Test):Str:=Yo t.1++ " " ++t.2.1++ " " ++V9 t.2.2
structure TsD(t:Test):Prop where
 ts: ∀x∈t.1,iH x
 o:t.2.1∈CK
 n: -99≤t.2.2∧t.2.2≤99
theorem ZdF{o:Str}(h:o∈CK):Tf o:=by
 have: ∀o∈CK,(tl o).all (fun c=>decide (33≤c)&&(decide (c<124)&& !decide (c=38)))=true:=by decide+kernel
 exact rK o (this o h)
theorem rM{t:Test}(h:TsD t):YH t=Txt.join " " (PL t.1++[t.2.1,V9 t.2.2]):=by
 obtain⟨e,hne⟩:=Fo h.ts
 unfold YH
 rw[e]
 cases hw:PL t.1 with
 |nil=>exact absurd hw hne
 |cons w ws=>
  refine ext_tl ?_
  rw[List.cons_append,W8,tl_append,tl_append,tl_append,tl_append,W8,show tl " " =[32]by decide+kernel]
  simp
theorem ZiS{t:Test}(h:TsD t):J8 (YH t)=some t:=by
 obtain⟨e,hne⟩:=Fo h.ts
 have hsp:Txt.split (YH t) " " =PL t.1++[t.2.1,V9 t.2.2]:=by
  rw[rM h]
  refine Ww (by simp) fun w hw=> ?_
  rcases List.mem_append.mp hw with hw|hw
  ·exact(m9 h.ts w hw).free
  ·rcases List.mem_cons.mp hw with rfl|hw
   ·exact(ZdF h.o).free
   ·rw[List.mem_singleton.mp hw];exact(pN h.n.1 h.n.2).free
 unfold J8
 rw[hsp,tX hne]
 show(YG (Txt.join " " (PL t.1))).bind _=_
 rw[←e,Zgd h.ts]
 show(Vi (V9 t.2.2)).map _=_
 rw[Zkh h.n.1 h.n.2]
 rfl
end Bk.Gk
namespace Bk.Gk
open PySem PySem.Spec PyProof.Rows L2 TL
open Bk.Pa Bk.Qa
def cC(x:Str):Prop:= ∀c∈tl x,c<128
theorem cC.t{x:Str}(h:cC x):Hz x:=fun c hc=>by have:=h c hc;omega
theorem Df{x y:Str}(h1:cC x)(h2:cC y):cC (x++y):=fun c hc=>by
 rw[tl_append]at hc
 rcases List.mem_append.mp hc with h|h
 ·exact h1 c h
 ·exact h2 c h
theorem Sv{x:Str}(h:Tf x):cC x:=fun c hc=>by have:=h c hc;omega
theorem Wx(x:Str)(h:(tl x).all (fun c=>decide (c<128))=true:=by decide+kernel):cC x:=fun c hc=>by
 have:=List.all_eq_true.mp h c hc
 simpa using this
theorem Zaf{t:Term}(h:iH t):cC (Bp t)∧(Bp t).length≤10:=by
 have ha:=dh h
 have hl:=h.s.2.1
 unfold Bp
 split
 ·exact⟨Sv (Ky h.s),by omega⟩
 ·refine⟨Df (Df (Sv (pN (by omega) (by omega))) (Wx " ")) (Sv (Ky h.s)), ?_⟩
  obtain⟨n,hn⟩: ∃n:Nat,Nr t.1=n:=⟨(Nr t.1).toNat,by omega⟩
  have e1:(V9 (Nr t.1)).length≤1:=by rw[hn,len_tl,O6];exact numL_len (by decide) (by omega)
  have e2:(" " :Str).length=1:=rfl
  rw[len_app,len_app]
  omega
theorem Zeh{f:Str}{t:Term}(h:iH t)(hf:cC f):cC (Ly f t)∧(Ly f t).length≤f.length+13:=by
 obtain⟨h1,h2⟩:=Zaf h
 have e1:("-" :Str).length=1:=rfl
 have e3:(" - " :Str).length=3:=rfl
 have e4:(" + " :Str).length=3:=rfl
 unfold Ly
 split
 ·split
  ·exact⟨Df (Wx "-") h1,by rw[len_app];omega⟩
  ·exact⟨h1,by omega⟩
 ·split
  ·exact⟨Df (Df hf (Wx " - ")) h1,by rw[len_app,len_app];omega⟩
  ·exact⟨Df (Df hf (Wx " + ")) h1,by rw[len_app,len_app];omega⟩
theorem ZdG: ∀{ts:List Term} {f:Str},(∀t∈ts,iH t)→cC f→cC (ts.foldl Ly f)∧(ts.foldl Ly f).length≤f.length+13*ts.length
 |[],f,_,hf=>⟨hf,by simp⟩
 |t::ts,f,h,hf=>by
  obtain⟨h1,h2⟩:=Zeh (h t List.mem_cons_self) hf
  obtain⟨h3,h4⟩:=ZdG (ts:=ts) (fun x hx=>h x (List.mem_cons_of_mem _ hx)) h1
  refine⟨h3, ?_⟩
  rw[List.foldl_cons,List.length_cons]
  omega
theorem tY{ts:List Term}(h: ∀t∈ts,iH t)(hl:ts.length≤4):cC (Yo ts)∧(Yo ts).length≤52:=by
 obtain⟨h1,h2⟩:=ZdG (f:="") h (Wx "")
 have e0:("" :Str).length=0:=rfl
 have e1:("0" :Str).length=1:=rfl
 unfold Yo bf
 split
 ·exact⟨Wx "0",by omega⟩
 ·exact⟨h1,by omega⟩
structure TsE(t:Test):Prop where
 d:TsD t
 l:t.1.length≤4
theorem qJ{t:Test}(h:TsE t):cC (YH t)∧(YH t).length≤59:=by
 obtain⟨h1,h2⟩:=tY h.d.ts h.l
 have e1:(" " :Str).length=1:=rfl
 have ho: ∀o∈CK,o.length≤2:=by decide+kernel
 have h3:=ho _ h.d.o
 have h4:=cZ h.d.n.1 h.d.n.2
 unfold YH
 refine⟨Df (Df (Df (Df h1 (Wx " ")) (Sv (ZdF h.d.o))) (Wx " ")) (Sv (pN h.d.n.1 h.d.n.2)), ?_⟩
 rw[len_app,len_app,len_app,len_app]
 omega
theorem cC.s{x:Str}(h:cC x){n:Nat}(hl:x.length≤n)(hn:n≤100000:=by omega):Uh x:=⟨h.t,by omega⟩
theorem ZdH(a b c:Str):a++b++c=a++(b++c):=ext_tl (by rw[tl_append,tl_append,tl_append,tl_append,List.append_assoc])
theorem empty_app(a:Str):Str.empty++a=a:=ext_tl (by rw[tl_append];rfl)
theorem Ab(a:Str):("" :Str)++a=a:=ext_tl (by rw[tl_append,show tl "" =[]by decide+kernel];rfl)
abbrev jC:FS:=(ZP (Qu 4 (Ln (Zw (Zz Uc (Qm ig (fVar 2)) (fC (.int 1)))) (fC (.str "")) (Ks [(Qm bO (Qm ig (fVar 2))),(fC (.str " "))])))
 (ZP (Qu 5 (Ln (Zw (Zz jy (fVar 2) (fC (.int 0)))) (fC (.str "-")) (fC (.str ""))))
 (ZP (Ql (Zw (Zz Wo (fVar 1) (fC (.str "")))) (Qu 5 (Ln (Zw (Zz jy (fVar 2) (fC (.int 0)))) (fC (.str " - ")) (fC (.str " + ")))) ZS)
 (Qu 1 (Zz Z9 (Zz Z9 (Zz Z9 (fVar 1) (fVar 5)) (fVar 4)) (fVar 3))))))
theorem ZfF(i:Int):ig (.int i)=some (.int (Nr i)):=rfl
theorem ZfG{i:Int}(h1: -99≤i)(h2:i≤99):bO (.int i)=some (.str (V9 i)):=by
 unfold bO
 have:i.natAbs.log2<1920:=Nat.lt_of_lt_of_le (log2_lt (Nat.lt_of_le_of_lt (show i.natAbs≤99 by omega) (show 99<2^7 by decide)) (by decide)) (by decide)
 simp only
 rw[if_pos this];rfl
theorem ZdI{i:Int}(h1: -99≤i)(h2:i≤99):jR (.int i)=some (.str (V9 i)):=by
 unfold jR
 have:i.natAbs.log2<1920:=Nat.lt_of_lt_of_le (log2_lt (Nat.lt_of_le_of_lt (show i.natAbs≤99 by omega) (show 99<2^7 by decide)) (by decide)) (by decide)
 simp only
 rw[if_pos this];rfl
theorem ZfH{x:Str}(h:x.length≤100000):bO (.str x)=some (.str x):=by
 unfold bO
 simp only
 rw[if_pos (bW h)]
theorem Y4{a b:Str}(h:a.length+b.length≤100000):Z9 (.str a) (.str b)=some (.str (a++b)):=by
 rw[Zns,if_pos (sz _ (by omega))]
theorem ZsD{T:D}{f:Str}{t:Term}(h:iH t)(hf:cC f)(hl:f.length≤90000):
  ∃x y,jC [some T,some (.str f),some (.int t.1),some (.str t.2),none,none]= .nx [some T,some (.str (Ly f t)),some (.int t.1),some (.str t.2),x,y]:=by
 have ha:=dh h
 have hs:=h.s.2.1
 have g0:=Zca (hf.s hl) (JK "")
 have hw:=(Zaf h).2
 have ea:=ZfF t.1
 have ef:=ZfG (i:=Nr t.1) (by omega) (by omega)
 have hn3:=(cZ (i:=Nr t.1) (by omega) (by omega)).2.2
 have l1:("-" :Str).length=1∧("" :Str).length=0∧(" - " :Str).length=3∧(" + " :Str).length=3∧(" " :Str).length=1:=⟨rfl,rfl,rfl,rfl,rfl⟩
 obtain⟨q1,q2,q3,q4,q5⟩:=l1
 --the size
 obtain⟨sz',hsz,ZAm,Zxj⟩: ∃z:Str,(Ln (Zw (Zz Uc (Qm ig (fVar 2)) (fC (.int 1)))) (fC (.str "")) (Ks [(Qm bO (Qm ig (fVar 2))),(fC (.str " "))])) [some T,some (.str f),some (.int t.1),some (.str t.2),none,none]= .ok (.str z)∧z.length≤4∧Bp t=z++t.2:=by
  unfold Bp
  by_cases h1:Nr t.1=1
  ·refine⟨"", ?_,by omega,by rw[if_pos h1,Ab]⟩
   simp [ea,h1]
  ·refine⟨V9 (Nr t.1)++ " ", ?_,by rw[len_app];omega,by rw[if_neg h1]⟩
   have z1:(V9 (Nr t.1)).length≤sizeLine:=sz _ (by omega)
   have z2:(V9 (Nr t.1)++ " ").length≤sizeLine:=sz _ (by rw[len_app];omega)
   simp [ea,h1,ef,Ks,empty_app,z1,z2]
 obtain⟨sg',hsg,ZAn,Zxk⟩: ∃z:Str,z=(if f="" then(if t.1<0 then("-" :Str)else "")else(if t.1<0 then " - " else " + "))∧z.length≤3∧Ly f t=f++z++Bp t:=by
  refine⟨_,rfl,by split<;>split<;>omega, ?_⟩
  unfold Ly
  by_cases h1:f=""
  ·rw[if_pos h1,if_pos h1,h1]
   split
   ·rw[Ab]
   ·rw[ZdH,Ab,Ab]
  ·rw[if_neg h1,if_neg h1]
 unfold jC ZP Qu
 rw[hsz]
 have a1:Z9 (.str f) (.str sg')=some (.str (f++sg')):=Y4 (by omega)
 have a2:Z9 (.str (f++sg')) (.str sz')=some (.str (f++sg'++sz')):=Y4 (by rw[len_app];omega)
 have a3:Z9 (.str (f++sg'++sz')) (.str t.2)=some (.str (f++sg'++sz'++t.2)):=Y4 (by rw[len_app,len_app];omega)
 have ew:Ly f t=f++sg'++sz'++t.2:=by rw[Zxk,Zxj,←ZdH]
 refine⟨some (.str sz'),some (.str sg'), ?_⟩
 have hd: ∀p:Prop,[Decidable p]→p→decide p=true:=fun p _ h=>decide_eq_true h
 by_cases h1:f="" <;>by_cases h2:t.1<0<;>simp only[h1,h2,if_true,if_false]at hsg
 ·rw[decide_eq_true h1]at g0
  subst hsg
  simp [g0,h2,a1,a2,a3,ew]
 ·rw[decide_eq_true h1]at g0
  subst hsg
  simp [g0,h2,a1,a2,a3,ew]
 ·rw[decide_eq_false h1]at g0
  subst hsg
  simp [g0,h2,a1,a2,a3,ew]
 ·rw[decide_eq_false h1]at g0
  subst hsg
  simp [g0,h2,a1,a2,a3,ew]
theorem ZmQ{T:D}: ∀{ts:List Term} {f:Str},(∀t∈ts,iH t)→cC f→f.length+13*ts.length≤90000→
  Jy (NK 2 (QX (Zv 2) (QX (Zv 3) Bx))) jC [2,3,5,4] (ts.map J9) [some T,some (.str f),none,none,none,none]= .nx [some T,some (.str (ts.foldl Ly f)),none,none,none,none]
 |[],f,_,_,_=>rfl
 |t::ts,f,h,hf,hl=>by
  rw[List.length_cons]at hl
  obtain⟨h1,h2⟩:=Zeh (h t List.mem_cons_self) hf
  obtain⟨x,y,e⟩:=ZsD (T:=T) (h t List.mem_cons_self) hf (by omega)
  show(jC [some T,some (.str f),some (.int t.1),some (.str t.2),none,none]).turn [2,3,5,4] (Jy (NK 2 (QX (Zv 2) (QX (Zv 3) Bx))) jC [2,3,5,4] (ts.map J9))=_
  rw[e]
  show Jy _ jC [2,3,5,4] (ts.map J9) [some T,some (.str (Ly f t)),none,none,none,none]=_
  rw[ZmQ (fun z hz=>h z (List.mem_cons_of_mem _ hz)) h1 (by omega)]
  rfl
theorem Zck{ts:List Term}(h: ∀t∈ts,iH t)(hl:ts.length≤4):GJ [JC ts]= .ok (.str (Yo ts)):=by
 have e0:("" :Str).length=0:=rfl
 have hL:=ZmQ (T:=JC ts) (f:="") h (Wx "") (by omega)
 obtain⟨k1,k2⟩:=ZdG (f:="") h (Wx "")
 have g0:=Zca (k1.s (n:=100) (by omega)) (JK "")
 have hz:ts.length≤sizeLine:=sz _ (by omega)
 unfold GJ Fj Yo bf
 simp [JC,hz]
 simp only[jC,JC]at hL
 rw[hL]
 by_cases h1:ts.foldl Ly "" =""
 ·rw[decide_eq_true h1,h1]at g0
  simp [g0,h1]
 ·rw[decide_eq_false h1]at g0
  simp [g0,h1]
abbrev jD:FS:=(ZP (Qu 4 (Ln (Zw (Zz Uc (Qm ig (fVar 2)) (fC (.int 1)))) (fVar 3) (Zz Z9 (Zz Z9 (Qm jR (Qm ig (fVar 2))) (fC (.str " "))) (fVar 3))))
 (Ql (Zw (Zz Uc (fVar 1) (fC (.str "")))) (Qu 1 (Ln (Zw (Zz jy (fVar 2) (fC (.int 0)))) (Zz Z9 (fC (.str "-")) (fVar 4)) (fVar 4))) (Qu 1 (Zz Z9 (Zz Z9 (fVar 1) (Ln (Zw (Zz jy (fVar 2) (fC (.int 0)))) (fC (.str " - ")) (fC (.str " + ")))) (fVar 4)))))
theorem ZsE{T:D}{f:Str}{t:Term}(h:iH t)(hf:cC f)(hl:f.length≤90000):
  jD [some T,some (.str f),some (.int t.1),some (.str t.2),none]= .nx [some T,some (.str (Ly f t)),some (.int t.1),some (.str t.2),some (.str (Bp t))]:=by
 have ha:=dh h
 have hs:=h.s.2.1
 have g0:=Lw (hf.s hl) (JK "")
 have hw:=(Zaf h).2
 have ea:=ZfF t.1
 have ef:=ZdI (i:=Nr t.1) (by omega) (by omega)
 have hn3:=(cZ (i:=Nr t.1) (by omega) (by omega)).2.2
 have l1:("-" :Str).length=1∧("" :Str).length=0∧(" - " :Str).length=3∧(" + " :Str).length=3∧(" " :Str).length=1:=⟨rfl,rfl,rfl,rfl,rfl⟩
 obtain⟨q1,q2,q3,q4,q5⟩:=l1
 have b1:Z9 (.str (V9 (Nr t.1))) (.str " ")=some (.str (V9 (Nr t.1)++ " ")):=Y4 (by omega)
 have b2:Z9 (.str (V9 (Nr t.1)++ " ")) (.str t.2)=some (.str (V9 (Nr t.1)++ " " ++t.2)):=Y4 (by rw[len_app];omega)
 have hsz:(Ln (Zw (Zz Uc (Qm ig (fVar 2)) (fC (.int 1)))) (fVar 3) (Zz Z9 (Zz Z9 (Qm jR (Qm ig (fVar 2))) (fC (.str " "))) (fVar 3))) [some T,some (.str f),some (.int t.1),some (.str t.2),none]= .ok (.str (Bp t)):=by
  unfold Bp
  by_cases h1:Nr t.1=1
  ·simp [ea,h1]
  ·simp [ea,h1,ef,b1,b2]
 unfold jD ZP Qu
 rw[hsz]
 unfold Ly
 generalize Bp t=W at*
 have c1:Z9 (.str "-") (.str W)=some (.str ("-" ++W)):=Y4 (by omega)
 have c2:Z9 (.str f) (.str " - ")=some (.str (f++ " - ")):=Y4 (by omega)
 have c3:Z9 (.str f) (.str " + ")=some (.str (f++ " + ")):=Y4 (by omega)
 have c4:Z9 (.str (f++ " - ")) (.str W)=some (.str (f++ " - " ++W)):=Y4 (by rw[len_app];omega)
 have c5:Z9 (.str (f++ " + ")) (.str W)=some (.str (f++ " + " ++W)):=Y4 (by rw[len_app];omega)
 by_cases h1:f=""
 ·rw[decide_eq_true h1]at g0
  rw[if_pos h1]
  by_cases h2:t.1<0<;>simp [g0,h2,c1]
 ·rw[decide_eq_false h1]at g0
  rw[if_neg h1]
  by_cases h2:t.1<0<;>simp [g0,h2,c2,c3,c4,c5]
theorem ZmR{T:D}: ∀{ts:List Term} {f:Str},(∀t∈ts,iH t)→cC f→f.length+13*ts.length≤90000→
  Jy (NK 2 (QX (Zv 2) (QX (Zv 3) Bx))) jD [2,3,4] (ts.map J9) [some T,some (.str f),none,none,none]= .nx [some T,some (.str (ts.foldl Ly f)),none,none,none]
 |[],f,_,_,_=>rfl
 |t::ts,f,h,hf,hl=>by
  rw[List.length_cons]at hl
  obtain⟨h1,h2⟩:=Zeh (h t List.mem_cons_self) hf
  have e:=ZsE (T:=T) (h t List.mem_cons_self) hf (by omega)
  show(jD [some T,some (.str f),some (.int t.1),some (.str t.2),none]).turn [2,3,4] (Jy (NK 2 (QX (Zv 2) (QX (Zv 3) Bx))) jD [2,3,4] (ts.map J9))=_
  rw[e]
  show Jy _ jD [2,3,4] (ts.map J9) [some T,some (.str (Ly f t)),none,none,none]=_
  rw[ZmR (fun z hz=>h z (List.mem_cons_of_mem _ hz)) h1 (by omega)]
  rfl
theorem rZ{ts:List Term}(h: ∀t∈ts,iH t)(hl:ts.length≤4):YM [JC ts]= .ok (.str (Yo ts)):=by
 have e0:("" :Str).length=0:=rfl
 have hL:=ZmR (T:=JC ts) (f:="") h (Wx "") (by omega)
 obtain⟨k1,k2⟩:=ZdG (f:="") h (Wx "")
 have g0:=Zca (k1.s (n:=100) (by omega)) (JK "")
 have hz:ts.length≤sizeLine:=sz _ (by omega)
 unfold YM CV Yo bf
 simp [JC,hz]
 simp only[jD,JC]at hL
 rw[hL]
 by_cases h1:ts.foldl Ly "" =""
 ·rw[decide_eq_true h1,h1]at g0
  simp [g0,h1]
 ·rw[decide_eq_false h1]at g0
  simp [g0,h1]
def YJ(c:List Test):Str:=if c=[]then "always" else Txt.join " & " (c.map YH)
def Yp(f:List (List Test)):Str:=if f=[]then "never" else Txt.join " | " (f.map YJ)
theorem ZfI(v:Str): ∀(n:Nat) {ws:List Str},(∀w∈ws,w.length≤n)→(Txt.join v ws).length≤(n+v.length)*ws.length:=by
 have key: ∀(S:List Nat) (n:Nat) (l:List (List Nat)),(∀w∈l,w.length≤n)→(joinL S l).length≤(n+S.length)*l.length:=by
  intro S n l
  induction l with
  |nil=>intro _;exact Nat.zero_le _
  |cons p r ih=>
   intro h
   have hp:=h p List.mem_cons_self
   cases r with
   |nil=>show p.length≤_;simp;omega
   |cons q r=>
    have i:=ih fun w hw=>h w (List.mem_cons_of_mem _ hw)
    show(p++(S++joinL S (q::r))).length≤_
    rw[List.length_append,List.length_append,List.length_cons,Nat.mul_add]
    omega
 intro n ws h
 have:=key (tl v) n (ws.map tl) (fun w hw=>by
  obtain⟨x,hx,rfl⟩:=List.mem_map.mp hw
  rw[←len_tl];exact h x hx)
 rw[len_tl,join_eq,tl_join,len_tl v]
 rw[List.length_map]at this
 exact this
theorem ZfJ{v:Str}{ws:List Str}(hv:cC v)(h: ∀w∈ws,cC w):cC (Txt.join v ws):=fun c hc=>by
 rw[join_eq,tl_join]at hc
 rcases Sh _ c hc with h1|⟨p,hp,h1⟩
 ·exact hv c h1
 ·obtain⟨z,hz,rfl⟩:=List.mem_map.mp hp
  exact h z hz c h1
structure CsE(c:List Test):Prop where
 l:c.length≤4
 t: ∀t∈c,TsE t
structure FmE(f:List (List Test)):Prop where
 l:f.length≤4
 c: ∀c∈f,CsE c
theorem Zag{c:List Test}(h:CsE c):cC (YJ c)∧(YJ c).length≤248:=by
 have e1:("always" :Str).length=6:=rfl
 have e2:(" & " :Str).length=3:=rfl
 unfold YJ
 split
 ·exact⟨Wx "always",by omega⟩
 ·refine⟨ZfJ (Wx " & ") fun w hw=> ?_, ?_⟩
  ·obtain⟨t,ht,rfl⟩:=List.mem_map.mp hw
   exact(qJ (h.t t ht)).1
  ·have:=ZfI " & " 59 (ws:=c.map YH) (fun w hw=>by
    obtain⟨t,ht,rfl⟩:=List.mem_map.mp hw
    exact(qJ (h.t t ht)).2)
   rw[e2,List.length_map]at this
   have h4:=h.l
   have:(59+3)*c.length≤62*4:=Nat.mul_le_mul (by omega) h4
   omega
theorem Zob{f:List (List Test)}(h:FmE f):cC (Yp f)∧(Yp f).length≤1004:=by
 have e1:("never" :Str).length=5:=rfl
 have e2:(" | " :Str).length=3:=rfl
 unfold Yp
 split
 ·exact⟨Wx "never",by omega⟩
 ·refine⟨ZfJ (Wx " | ") fun w hw=> ?_, ?_⟩
  ·obtain⟨t,ht,rfl⟩:=List.mem_map.mp hw
   exact(Zag (h.c t ht)).1
  ·have:=ZfI " | " 248 (ws:=f.map YJ) (fun w hw=>by
    obtain⟨t,ht,rfl⟩:=List.mem_map.mp hw
    exact(Zag (h.c t ht)).2)
   rw[e2,List.length_map]at this
   have h4:=h.l
   have:(248+3)*f.length≤251*4:=Nat.mul_le_mul (by omega) h4
   omega
theorem Zlk{a o n:Str}(h:a.length+o.length+n.length≤90000)(e:Zq){fa fo fn:FX}(ha:fa e= .ok (.str a))(ho:fo e= .ok (.str o))(hn:fn e= .ok (.str n)):Ks [fa,(fC (.str " ")),fo,(fC (.str " ")),fn] e= .ok (.str (a++ " " ++o++ " " ++n)):=by
 have e1:(" " :Str).length=1:=rfl
 have z1:a.length≤sizeLine:=sz _ (by omega)
 have z2:(a++ " ").length≤sizeLine:=sz _ (by rw[len_app];omega)
 have z3:(a++ " " ++o).length≤sizeLine:=sz _ (by rw[len_app,len_app];omega)
 have z4:(a++ " " ++o++ " ").length≤sizeLine:=sz _ (by rw[len_app,len_app,len_app];omega)
 have z5:(a++ " " ++o++ " " ++n).length≤sizeLine:=sz _ (by rw[len_app,len_app,len_app,len_app];omega)
 simp [Ks,ha,ho,hn,empty_app,z1,z2,z3,z4,z5]
theorem eE{v:Str}{ws:List Str}{n:Nat}(hv:v.length≤3)(hn:n≤1000)(hw: ∀w∈ws,w.length≤n)(hl:ws.length≤4):Eb v (.lst (texts ws))=some (.str (Txt.join v ws)):=by
 unfold Eb
 rw[show TQ (.lst (texts ws))=some (texts ws)from rfl]
 simp only[Option.bind]
 rw[M6]
 simp only
 have: ∀l:List Str,(∀w∈l,w.length≤n)→(l.map (·.length)).sum≤n*l.length:=by
  intro l
  induction l with
  |nil=>intro _;exact Nat.zero_le _
  |cons p r ih=>
   intro h
   have:=h p List.mem_cons_self
   have:=ih fun w hw=>h w (List.mem_cons_of_mem _ hw)
   rw[List.map_cons,List.sum_cons,List.length_cons,Nat.mul_add]
   omega
 have h1:=this ws hw
 have h2:n*ws.length≤1000*4:=Nat.mul_le_mul hn hl
 have h3:ws.length*v.length≤4*3:=Nat.mul_le_mul hl hv
 rw[if_pos (by omega)]
theorem tZ{α:Type}(f:α→Str)(l:List α):(l.map fun a=>D.str (f a))=texts (l.map f):=by
 unfold texts;rw[List.map_map];rfl
theorem ZeI{c:List Test}(h:CsE c):O5 [Jp c]= .ok (.str (YJ c)):=by
 unfold O5 Am YJ
 have hz:c.length≤sizeLine:=sz _ (by have:=h.l;omega)
 have hg:Zbi (.tup (c.map Yb)) (.tup [])=some (.bl c.isEmpty):=by cases c<;>rfl
 cases hc:c with
 |nil=>simp [Jp,Zbi]
 |cons t r=>
  rw[←hc]
  have hne:c≠[]:=by rw[hc];simp
  have hem:c.isEmpty=false:=by rw[hc];rfl
  rw[if_neg hne]
  rw[hem]at hg
  have hj:=eE (v:=" & ") (n:=59) (ws:=c.map YH) (by decide+kernel) (by decide) (fun w hw=>by
   obtain⟨t,ht,rfl⟩:=List.mem_map.mp hw
   exact(qJ (h.t t ht)).2) (by rw[List.length_map];exact h.l)
  simp [Jp,hg,hz]
  rw[X7 (enc:=Yb) (F:=fun t=>D.str (YH t)) (h:=fun t ht=>by
   have hT:=h.t t ht
   have k1:=Zck hT.d.ts hT.l
   obtain⟨_,k2⟩:=tY hT.d.ts hT.l
   have ho: ∀o∈CK,o.length≤2:=by decide+kernel
   have h3:=ho _ hT.d.o
   have h4:=cZ hT.d.n.1 hT.d.n.2
   have f1:=ZfH (x:=Yo t.1) (by omega)
   have f2:=ZfH (x:=t.2.1) (by omega)
   have f3:=ZfG hT.d.n.1 hT.d.n.2
   have:=Zlk (a:=Yo t.1) (o:=t.2.1) (n:=V9 t.2.2) (by omega) [some (Jp c),some (JC t.1),some (.str t.2.1),some (.int t.2.2)] (fa:=(Qm bO (ZL GJ (Zb (fVar 1) Zm)))) (fo:=(Qm bO (fVar 2))) (fn:=(Qm bO (fVar 3))) (by simp [k1,f1]) (by simp [f2]) (by simp [f3])
   simp only[Jp]at this
   simp [Yx,Yb,this,YH])]
  rw[tZ]
  simp [hj,hz]
theorem ZuK{t:Term}(h:iH t):Zih t:=⟨by have:=h.i;omega,⟨(Sv (Ky h.s)).t,by have:=h.s.2.1;omega⟩⟩
theorem ZuL{t:Test}(h:TsE t):Zla t:=⟨fun x hx=>ZuK (h.d.ts x hx),⟨(Sv (ZdF h.d.o)).t,by
 have ho: ∀o∈CK,o.length≤2:=by decide+kernel
 have:=ho _ h.d.o;omega⟩,h.d.n⟩
theorem Zqh{f:List (List Test)}(h:FmE f): ∃w,Af 5 w (QF f):=by
 obtain⟨w,hw⟩:=Zeg (k:=4) (xs:=f.map Jp) (fun x hx=>by
  obtain⟨c,hc,rfl⟩:=List.mem_map.mp hx
  exact ZfD fun t ht=>ZuL ((h.c c hc).t t ht))
 exact⟨_,cM (n:=f.length) hw (by rw[List.length_map];exact Nat.le_refl _)⟩
theorem Zqi(xs:List D):(D.tup xs).eqb (.tup [])=xs.isEmpty:=by
 cases xs with
 |nil=>rfl
 |cons a r=>rfl
theorem Zqj{f:List (List Test)}(h:FmE f):Wo (QF f) (.tup [])=some (.bl (!f.isEmpty)):=by
 obtain⟨w,hw⟩:=Zqh h
 unfold Wo
 rw[if_pos ⟨hw.YF (by decide),by decide⟩]
 unfold QF
 rw[Zqi]
 cases f<;>rfl
theorem ZaR{f:List (List Test)}(h:FmE f):Eb " | " (.lst (texts (f.map YJ)))=some (.str (Txt.join " | " (f.map YJ))):=
 eE (n:=248) (by decide+kernel) (by decide) (fun w hw=>by
  obtain⟨t,ht,rfl⟩:=List.mem_map.mp hw
  exact(Zag (h.c t ht)).2) (by rw[List.length_map];exact h.l)
theorem ZiT{c:List Test}(h:CsE c):Eb " & " (.lst (texts (c.map YH)))=some (.str (Txt.join " & " (c.map YH))):=
 eE (n:=59) (by decide+kernel) (by decide) (fun w hw=>by
  obtain⟨t,ht,rfl⟩:=List.mem_map.mp hw
  exact(qJ (h.t t ht)).2) (by rw[List.length_map];exact h.l)
theorem bx{f:List (List Test)}(h:FmE f):JR [QF f]= .ok (.str (Yp f)):=by
 unfold JR Py Yp
 have hz:f.length≤sizeLine:=sz _ (by have:=h.l;omega)
 have hg:=Zqj h
 have hj:=ZaR h
 unfold QF at hg⊢
 cases hf:f with
 |nil=>
  rw[hf]at hg
  simp only[List.isEmpty_nil,List.map_nil]at hg
  simp [hg]
 |cons c r=>
  rw[←hf]
  have hne:f≠[]:=by rw[hf];simp
  have hem:f.isEmpty=false:=by rw[hf];rfl
  rw[hem]at hg
  rw[if_neg hne]
  simp [hg,hz]
  rw[X7 (enc:=Jp) (F:=fun c=>D.str (YJ c)) (h:=fun c hc=>by simp [Yx,ZeI (h.c c hc)])]
  rw[tZ]
  simp [hj,hz]
theorem Zge{t:Test}(h:TsE t)(e:Zq)(h4:nth e 4=some (JC t.1))(h5:nth e 5=some (.str t.2.1))(h6:nth e 6=some (.int t.2.2)):(Zz Z9 (Zz Z9 (Zz Z9 (Zz Z9 (ZL YM (Zb (fVar 4) Zm)) (fC (.str " "))) (fVar 5)) (fC (.str " "))) (Qm jR (fVar 6))) e= .ok (.str (YH t)):=by
 have k1:=rZ h.d.ts h.l
 obtain⟨_,k2⟩:=tY h.d.ts h.l
 have ho: ∀o∈CK,o.length≤2:=by decide+kernel
 have h3:=ho _ h.d.o
 have hn:=cZ h.d.n.1 h.d.n.2
 have f3:=ZdI h.d.n.1 h.d.n.2
 have e1:(" " :Str).length=1:=rfl
 have b1:Z9 (.str (Yo t.1)) (.str " ")=some (.str (Yo t.1++ " ")):=Y4 (by omega)
 have b2:Z9 (.str (Yo t.1++ " ")) (.str t.2.1)=some (.str (Yo t.1++ " " ++t.2.1)):=Y4 (by rw[len_app];omega)
 have b3:Z9 (.str (Yo t.1++ " " ++t.2.1)) (.str " ")=some (.str (Yo t.1++ " " ++t.2.1++ " ")):=Y4 (by rw[len_app,len_app];omega)
 have b4:Z9 (.str (Yo t.1++ " " ++t.2.1++ " ")) (.str (V9 t.2.2))=some (.str (YH t)):=Y4 (by rw[len_app,len_app,len_app];omega)
 simp [h4,h5,h6,k1,f3,b1,b2,b3,b4]
abbrev jE:FS:=(ZP (Qu 3 (R5 (Jg (fVar 2)) (NK 3 (QX (Zv 4) (QX (Zv 5) (QX (Zv 6) Bx)))) Ux (Zz Z9 (Zz Z9 (Zz Z9 (Zz Z9 (ZL YM (Zb (fVar 4) Zm)) (fC (.str " "))) (fVar 5)) (fC (.str " "))) (Qm jR (fVar 6))) [4,5,6]))
 (Nf 1 (Ln (Zw (Zz jK (fVar 3) (JX Zm))) (Ec (fC (.str " & ")) (fVar 3)) (fC (.str "always")))))
theorem ZsF{F:D}{acc:List D}{c:List Test}(h:CsE c)(hl:acc.length≤1000):jE [some F,some (.lst acc),some (Jp c),none,none,none,none]= .nx [some F,some (.lst (acc++[.str (YJ c)])),some (Jp c),some (.lst (texts (c.map YH))),none,none,none]:=by
 have hz:c.length≤sizeLine:=sz _ (by have:=h.l;omega)
 have hzz:acc.length<sizeLine:=sz1 (by omega)
 have hj:=ZiT h
 unfold jE
 simp [Jp,hz]
 rw[X7 (enc:=Yb) (F:=fun t=>D.str (YH t)) (h:=fun t ht=>by
  have:=Zge (h.t t ht) [some F,some (.lst acc),some (.tup (c.map Yb)),none,some (JC t.1),some (.str t.2.1),some (.int t.2.2)] rfl rfl rfl
  simp [Yx,Yb,-Zz,-ZL]
  rw[this])]
 rw[tZ]
 unfold YJ
 cases hc:c with
 |nil=>simp [texts,hzz]
 |cons t r=>
  rw[←hc]
  have hne:c≠[]:=by rw[hc];simp
  have hg:jK (.lst (texts (c.map YH))) (.lst [])=some (.bl true):=by rw[hc];rfl
  rw[if_neg hne]
  simp [hg,hj,hzz]
theorem ZmU{F:D}: ∀{f:List (List Test)} {acc:List D},(∀c∈f,CsE c)→acc.length+f.length≤1000→
  Jy (Zv 2) jE [2,3] (f.map Jp) [some F,some (.lst acc),none,none,none,none,none]= .nx [some F,some (.lst (acc++texts (f.map YJ))),none,none,none,none,none]
 |[],acc,_,_=>by simp [Jy,texts]
 |c::f,acc,h,hl=>by
  rw[List.length_cons]at hl
  have e:=ZsF (F:=F) (acc:=acc) (h c List.mem_cons_self) (by omega)
  show(jE [some F,some (.lst acc),some (Jp c),none,none,none,none]).turn [2,3] (Jy (Zv 2) jE [2,3] (f.map Jp))=_
  rw[e]
  show Jy _ jE [2,3] (f.map Jp) [some F,some (.lst (acc++[.str (YJ c)])),none,none,none,none,none]=_
  rw[ZmU (fun z hz=>h z (List.mem_cons_of_mem _ hz)) (by rw[List.length_append,List.length_singleton];omega)]
  simp [texts]
theorem jT{f:List (List Test)}(h:FmE f):JG [QF f]= .ok (.str (Yp f)):=by
 have hz:f.length≤sizeLine:=sz _ (by have:=h.l;omega)
 have hL:=ZmU (F:=QF f) (f:=f) (acc:=[]) h.c (by have:=h.l;simp;omega)
 have hj:=ZaR h
 unfold JG Ls Yp
 simp only[jE,QF]at hL
 simp [QF,hz]
 rw[hL]
 cases hf:f with
 |nil=>simp [texts,Zh0]
 |cons c r=>
  rw[←hf]
  have hne:f≠[]:=by rw[hf];simp
  have hg:jK (.lst (texts (f.map YJ))) (.lst [])=some (.bl true):=by rw[hf];rfl
  rw[if_neg hne]
  simp [hg,hj,Zh0]
end Bk.Gk
namespace Bk.Gk
open PySem PySem.Spec PyProof.Rows L2 TL
open Bk.Pa Bk.Qa
theorem ZfK{a m b:Nat}{p q:List Nat}(hp:m∉p)(hq:q.head? ≠some m): ∀i,i<p.length→pre [a,m,b] ((p++q).drop i)=false:=fun i hi=>by
 cases hpre:pre [a,m,b] ((p++q).drop i)with
 |false=>rfl
 |true=>
  exfalso
  have e:((p++q).drop i).take 3=[a,m,b]:=eq_of_beq hpre
  have e1:(((p++q).drop i).take 3)[1]? =some m:=by rw[e];rfl
  rw[List.getElem?_take_of_lt (by decide),List.getElem?_drop]at e1
  by_cases hl:i+1<p.length
  ·rw[List.getElem?_append_left hl]at e1
   exact hp (List.mem_of_getElem? e1)
  ·rw[List.getElem?_append_right (by omega),show i+1-p.length=0 by omega]at e1
   rw[List.head?_eq_getElem?]at hq
   exact hq e1
theorem ZdJ{a m b:Nat}(ham:a≠m): ∀{parts:List (List Nat)},parts≠[]→(∀p∈parts,m∉p)→spl [a,m,b] 0 [] (joinL [a,m,b] parts)=parts
 |[],h,_=>absurd rfl h
 |[p],_,hp=>by
  show spl [a,m,b] 0 [] p=[p]
  have:=ZfK (a:=a) (b:=b) (q:=[]) (hp p (List.mem_singleton.mpr rfl)) (by simp)
  rw[List.append_nil]at this
  rw[spl_last this,List.nil_append]
 |p::q::r,_,hp=>by
  show spl [a,m,b] 0 [] (p++([a,m,b]++joinL [a,m,b] (q::r)))=p::q::r
  rw[spl_part (by simp) (ZfK (hp p (List.mem_cons_self ..)) (by simpa using ham)),List.nil_append,ZdJ ham (by simp) fun z hz=>hp z (List.mem_cons_of_mem _ hz)]
theorem Sw{y:Str}{a m b:Nat}(ey:tl y=[a,m,b])(ham:a≠m)(hk:y.cps.all (· <256)=true){parts:List Str}(hne:parts≠[])(hp: ∀p∈parts,m∉tl p):
  Txt.split (Txt.join y parts) y=parts:=by
 refine map_tl_inj ?_
 rw[split_spl _ y (by rw[ey];simp) (kind_ok hk),join_eq,tl_join,ey]
 refine ZdJ ham (fun e=>hne (List.map_eq_nil_iff.mp e)) fun p h=> ?_
 obtain⟨z,hz,rfl⟩:=List.mem_map.mp h
 exact hp z hz
theorem uf{α:Type}: ∀l:List α,Vx (l.map some)=some l
 |[]=>rfl
 |a::l=>by show(Vx (l.map some)).map _=_;rw[uf l];rfl
theorem nA{t:Test}(h:TsE t):(∀c∈tl (YH t),c=32∨(33≤c∧c<124∧c≠38))∧32∈tl (YH t):=by
 have hs:tl " " =[32]:=by decide+kernel
 have hw: ∀w∈PL t.1++[t.2.1,V9 t.2.2],Tf w:=fun w hw=>by
  rcases List.mem_append.mp hw with hw|hw
  ·exact m9 h.d.ts w hw
  ·rcases List.mem_cons.mp hw with rfl|hw
   ·exact ZdF h.d.o
   ·rw[List.mem_singleton.mp hw];exact pN h.d.n.1 h.d.n.2
 constructor
 ·intro c hc
  rw[rM h.d,join_eq,tl_join]at hc
  rcases Sh _ c hc with h1|⟨p,hp,h1⟩
  ·rw[hs]at h1
   exact .inl (List.mem_singleton.mp h1)
  ·obtain⟨z,hz,rfl⟩:=List.mem_map.mp hp
   exact .inr (hw z hz c h1)
 ·unfold YH
  rw[tl_append,tl_append,tl_append,tl_append,hs]
  simp
theorem nH{c:List Test}(h:CsE c):124∉tl (YJ c)∧(c≠[]→32∈tl (YJ c)):=by
 unfold YJ
 constructor
 ·split
  ·decide+kernel
  ·intro hm
   rw[join_eq,tl_join]at hm
   rcases Sh _ _ hm with h1|⟨p,hp,h1⟩
   ·revert h1;decide+kernel
   ·obtain⟨z,hz,rfl⟩:=List.mem_map.mp hp
    obtain⟨t,ht,rfl⟩:=List.mem_map.mp hz
    have:=(nA (h.t t ht)).1 124 h1
    omega
 ·intro hne
  rw[if_neg hne]
  cases c with
  |nil=>exact absurd rfl hne
  |cons t r=>
   have ht:=(nA (h.t t List.mem_cons_self)).2
   rw[join_eq,tl_join]
   cases r with
   |nil=>exact ht
   |cons t2 r=>exact List.mem_append_left _ ht
theorem ZiU{c:List Test}(h:CsE c):Vu (YJ c)=some c:=by
 unfold Vu
 cases hc:c with
 |nil=>rw[if_pos (by unfold YJ;rfl)]
 |cons t r=>
  rw[←hc]
  have hne:c≠[]:=by rw[hc];simp
  have h32:=(nH h).2 hne
  rw[if_neg (fun e=>by rw[e]at h32;revert h32;decide+kernel)]
  unfold YJ
  rw[if_neg hne,Sw (a:=32) (m:=38) (b:=32) (by decide+kernel) (by decide) (by decide+kernel) (by simpa using hne) (fun p hp hm=>by
   obtain⟨t,ht,rfl⟩:=List.mem_map.mp hp
   have:=(nA (h.t t ht)).1 38 hm
   omega),List.map_map]
  have e:c.map (J8∘YH)=c.map some:=List.map_congr_left fun t ht=>ZiS (h.t t ht).d
  rw[e,uf]
theorem ZiV{f:List (List Test)}(h:FmE f):Gq (Yp f)=some f:=by
 unfold Gq
 cases hf:f with
 |nil=>rw[if_pos (by unfold Yp;rfl)]
 |cons c r=>
  rw[←hf]
  have hne:f≠[]:=by rw[hf];simp
  have hsp:Txt.split (Yp f) " | " =f.map YJ:=by
   unfold Yp
   rw[if_neg hne,Sw (a:=32) (m:=124) (b:=32) (by decide+kernel) (by decide) (by decide+kernel) (by simpa using hne) (fun p hp hm=>by
    obtain⟨c,hc,rfl⟩:=List.mem_map.mp hp
    exact(nH (h.c c hc)).1 hm)]
  rw[if_neg,hsp,List.map_map]
  ·have e:f.map (Vu∘YJ)=f.map some:=List.map_congr_left fun c hc=>ZiU (h.c c hc)
   rw[e,uf]
  ·intro z
   have hn:Txt.split "never" " | " =(["never"]:List Str):=Sw (y:=" | ") (a:=32) (m:=124) (b:=32) (parts:=["never"]) (by decide+kernel) (by decide) (by decide+kernel) (by simp) (fun p hp=>by rw[List.mem_singleton.mp hp];decide+kernel)
   rw[z,hn,hf]at hsp
   injection hsp with h1 h2
   have hC:=h.c c (by rw[hf];simp)
   by_cases hcn:c=[]
   ·rw[hcn]at h1
    exact absurd h1 (by decide+kernel)
   ·have:=(nH hC).2 hcn
    rw[←h1]at this
    revert this
    decide+kernel
theorem ZsG{ns:List Str}{ts:List Term}(hn: ∀x∈ns,Wn x)(h:cP ns ts): ∀t∈ts,iH t:=fun t ht=>⟨⟨(h.all t ht).1.1,(h.all t ht).1.2,h.nz t ht⟩,hn _ (h.all t ht).2⟩
theorem Zhs{ns:List Str}{f:List (List Test)}(hn: ∀x∈ns,Wn x)(h4:ns.length≤4)(h:Kh ns f):FmE f:=⟨h.len,fun c hc=>⟨(h.cases c hc).1,fun t ht=>by
 have k:=(h.cases c hc).2 t ht
 exact⟨⟨ZsG hn k.terms,k.op,k.num⟩,by have:=k.terms.len;omega⟩⟩⟩
theorem ZdK{ns:List Str}{f:List (List Test)}(hn: ∀x∈ns,Wn x)(hd:ns.Nodup)(h4:ns.length≤4)(h:Kh ns f):Vd ns (Yp f)=some f:=by
 unfold Vd
 rw[ZiV (Zhs hn h4 h)]
 show(if _ then _ else _)=_
 rw[if_pos (Zj1 (List.Sublist.refl _) hd h4 h)]
end Bk.Gk
namespace Bk
open PySem PySem.Spec PyProof.Rows L2 PySem.SeqAt MeetsSeq
open AutoSeq1 (wpAny_loadPart')
section
variable{M:Model}{prog:Program}{w:World}{A:Around}{E:Value→Shared→Prop}{s:Shared}{K:PySem.W.Frag}{x C f dx:Addr}{ox:Obj}{od:Option Obj}
theorem ZsH{t:String}(ht:t∈["NoneType","int","bool","str","list","tuple"]):PySem.W.subIn K (.type t) (.ref C)=some false:=by
 have e: ∀t∈["NoneType","int","bool","str","list","tuple"],(PySem.fastBuiltinMro t).map (·.all fun v=>match v with| .ref _=>false|_=>true)=some true:=by decide+kernel
 have:=e t ht
 show(PySem.fastBuiltinMro t).map (·.contains (.ref C))=some false
 cases h:PySem.fastBuiltinMro t with
 |none=>rw[h]at this;cases this
 |some l=>
  rw[h]at this
  simp only[Option.map_some,Option.some.injEq,List.all_eq_true]at this⊢
  simp only[List.contains_eq_mem,decide_eq_false_iff_not]
  intro hm
  have:=this _ hm
  cases this
end
section
variable{M:Model}{prog:Program}{w:World}{A:Around}{E:Value→Shared→Prop}{s:Shared}{K:PySem.W.Frag}{x C f dx:Addr}{ox:Obj}{od:Option Obj}{b tb:Value}
inductive BtV(K:PySem.W.Frag)(H:Hp):V→String→Prop
 |non:BtV K H .non "NoneType"
 |int (i:Int):BtV K H (.int i) "int"
 |bl (b:Bool):BtV K H (.bl b) "bool"
 |str (x:Str):BtV K H (.str x) "str"
 |lst {a:Addr} {xs:List V} (h:SqL K H a xs):BtV K H (.ref a) "list"
 |tup {a:Addr} {xs:List V} (h:SqT K H a xs):BtV K H (.ref a) "tuple"
end
section
variable{X:Cx}{T:Tb}{pins:List (Addr×Obj)}{σ:L2.St}{H:Hp}{s:Shared}{v:V}{u:Value}{t:String}
theorem BtV.mem(h:BtV X.K H v t):t∈["NoneType","int","bool","str","list","tuple"]:=by cases h<;>decide
theorem BtV.looks{M:Model}(I:L2.Inv X pins σ H s)(h:BtV X.K H v t)(r:RelV v u):PySem.W.Looks M s.heap (typeOf u) (.type t):=by
 cases h with
 |non=>obtain rfl:u=Value.none:=r;exact PySem.W.Looks.of_pure rfl
 |int i=>obtain⟨tk,rfl⟩:=r;exact PySem.W.Looks.of_pure rfl
 |bl b=>obtain rfl:u=Value.bool b:=r;exact PySem.W.Looks.of_pure rfl
 |str x=>obtain⟨tk,rfl⟩:=r;exact PySem.W.Looks.of_pure rfl
 |lst h=>
  obtain⟨its,_,⟨o,n,e,hc,_⟩,_⟩:=I.list h
  obtain rfl:u=Value.ref _:=r
  exact hc▸(PySem.W.Looks.ld e).andThen .now
 |tup h=>
  obtain⟨its,_,⟨o,e,hc,_⟩,_⟩:=I.tuple h
  obtain rfl:u=Value.ref _:=r
  exact hc▸(PySem.W.Looks.ld e).andThen .now
end
section
variable{X:Cx}{T:Tb}{W:WX}{k:Nat}{C g:Addr}{fd:FuncData}{ps cn:List Str}{phi:Fn}
def Zt4(K:PySem.W.Frag)(C:Addr)(H:Hp)(y:V):Prop:=(∃t,BtV K H y t)∨ ∃b dy gs,y= .ref b∧H b=some (.ins C dy gs)
theorem Zt4.looks{M:Model}{pins:List (Addr×Obj)}{σ:L2.St}{H:Hp}{s:Shared}{y:V}{u:Value}(I:L2.Inv X pins σ H s)(h:Zt4 X.K C H y)(r:RelV y u): ∃tb,PySem.W.Looks M s.heap (typeOf u) tb∧PySem.W.notFirst X.K C tb=true:=by
 rcases h with⟨t,h⟩|⟨b,dy,gs,rfl,e⟩
 ·exact⟨.type t,h.looks I r,Bool.or_eq_true_iff.mpr (.inr (beq_iff_eq.mpr (ZsH h.mem)))⟩
 ·obtain⟨ox,od,J⟩:=inst_ofO I e
  obtain rfl:u=Value.ref b:=r
  exact⟨.ref C,J.type,Bool.or_eq_true_iff.mpr (.inl (beq_iff_eq.mpr rfl))⟩
end
end Bk
namespace Bk
open PySem PySem.Spec PyProof.Rows L2 PySem.SeqAt MeetsSeq
open AutoSeq1 (wpAny_loadPart')
end Bk
namespace Bk
open PySem PySem.Spec PyProof.Rows L2
end Bk
namespace Bk
open PySem PySem.Spec PyProof.Rows L2 PySem.W
end Bk
namespace Bk
open PySem PySem.Spec PyProof.Rows L2 LamX
end Bk
namespace Bk
open PySem PySem.Spec PyProof.Rows L2 LamX
end Bk
namespace Bk
open PySem PySem.Spec PyProof.Rows L2
end Bk
namespace Bk
open PySem PySem.Spec PyProof.Rows L2
end Bk
namespace Bk
open PySem PySem.Spec PyProof.Rows L2
section
variable{M:List Nat}{b c:FX}{wb wc:Exp}
def Zxl(xs:List D):D→D→Option (List D)
 | .int j,y=>(ixN xs.length j).map fun k=>xs.set k y
 |_,_=>none
def optN:Option (List D)→(List D→Out)→Out
 |some xs,f=>f xs
 |none,_=> .no
@[simp] theorem Zt5 (xs:List D) (f:List D→Out):optN (some xs) f=f xs:=rfl
@[simp] def ZyV (i:Nat) (b c:FX) (e:Zq):Out:=(c e).out e fun y=>atL (nth e i) fun xs=>(b e).out e fun k=>optN (Zxl xs k y) fun ys=> .nx (Jh e i (some (.lst ys)))
end
theorem VRs.vals{s:S}: ∀ks:List D,VRs s (List.replicate ks.length false) ks ks
 |[]=> .nil
 |_::ks=> .val (VRs.vals ks)
theorem VRs.app{s:S}{V:List Bool}{ds es:List D}(h:VRs s V ds es)(ks:List D):VRs s (V++List.replicate ks.length false) (ds++ks) (es++ks):=by
 induction h with
 |nil=>exact VRs.vals ks
 |val _ ih=>exact .val ih
 |ref r _ ih=>exact .ref r ih
end Bk
namespace Bk.Z
open PySem PySem.Spec PyProof.Rows L2
open Bk.Wv Bk.Pa Bk.Bo
theorem Zxm(xs:List D)(k:Nat):gSl (.lst xs) none (some (k:Int))=some (.lst (xs.take k)):=by
 show some (D.lst (cutD _ _ _))=_
 rw[Bk.Wv.ZpV]
theorem ZsI(xs:List D)(k:Nat):gSl (.lst xs) (some (k:Int)) none=some (.lst (xs.drop k)):=by
 show some (D.lst (cutD _ _ _))=_
 rw[Bk.Wv.zM]
theorem Zrm{xs:List D}{k:Nat}{a:D}(h:xs[k]? =some a):Jt (.lst xs) (.int (k:Nat))=some a:=by
 show atI xs (k:Int)=_
 exact ZiI h
section
variable{p:Addr}{c c1 c2:Nat}
theorem dw{a g:MS}{e e1:Zq}{P:Out→Prop}(h:a e= .ret (.nx e1))(k:Sp p c (g e1) P):Sp p c (Je a g e) P:=by
 unfold Je
 rw[h];exact k
theorem ZeJ{f:FS}{e:Zq}{o:Out}{P:Out→Prop}(h:f e=o)(q:P o):Sp p c (mS f e) P:=by
 unfold mS
 rw[h];exact U6 q
theorem jF{k:Nat}(h0:0<k)(hk:k<1073741824):Sp p 1 (Qh [.rf (.ref p), .int (k:Nat)]) fun d=> ∃r:Nat,d= .int (r:Nat)∧r<k:=
 xH (ZpQ (by omega) (by omega)) fun d ⟨r,e,h1,h2⟩=>⟨r.toNat,by rw[e,Int.toNat_of_nonneg h1],by omega⟩
theorem Zoc{g:FG}{h0:MS}{W:List Nat}{e:Zq}{ds:List D}(h: ∀d∈ds,∃e1,g d e=some e1∧Sp p c (h0 e1) fun o=> ∃e2,(o= .nx e2∨o= .ct e2)∧Jk e2 W=e):Sp p (c*ds.length) (RJ g h0 W ds e) fun o=>o= .nx e:=by
 induction ds with
 |nil=>exact U6 rfl
 |cons d ds ih=>
  obtain⟨e1,h1,h2⟩:=h d List.mem_cons_self
  rw[RJ,h1,List.length_cons,Nat.mul_succ]
  refine Ve h2 (fun o ho=> ?_) (by omega) (c2:=c*ds.length)
  obtain⟨e2,ho,he⟩:=ho
  have hk:Sp p (c*ds.length) (RJ g h0 W ds (Jk e2 W)) fun o=>o= .nx e:=by
   rw[he]
   exact ih fun x hx=>h x (List.mem_cons_of_mem _ hx)
  rcases ho with rfl|rfl
  ·exact hk
  ·exact hk
theorem ZfL{g:FG}{h0:MS}{W:List Nat}(J:List D→Zq→Prop)
  (step: ∀d ds e,J (d::ds) e→ ∃e1,g d e=some e1∧Sp p c (h0 e1) fun o=> ∃e2,(o= .nx e2∨o= .ct e2)∧J ds (Jk e2 W)):
  ∀(ds:List D) (e:Zq),J ds e→Sp p (c*ds.length) (RJ g h0 W ds e) fun o=> ∃e1,o= .nx e1∧J [] e1
 |[],e,hj=>U6 ⟨e,rfl,hj⟩
 |d::ds,e,hj=>by
  obtain⟨e1,h1,h2⟩:=step d ds e hj
  rw[RJ,h1,List.length_cons,Nat.mul_succ]
  refine Ve h2 (fun o ho=> ?_) (by omega) (c2:=c*ds.length)
  obtain⟨e2,ho,he⟩:=ho
  have hk:=ZfL J step ds (Jk e2 W) he
  rcases ho with rfl|rfl
  ·exact hk
  ·exact hk
theorem ZsJ{xs:List D}{j:Nat}(h1:j<xs.length): ∃d,xs[j]? =some d∧d∈xs∧Jt (.lst xs) (.int (j:Nat))=some d:=⟨xs[j],List.getElem?_eq_getElem h1,List.getElem_mem h1,Zrm (List.getElem?_eq_getElem h1)⟩
end
end Bk.Z
namespace Bk.Gk
open PySem PySem.Spec PyProof.Rows L2 TL
open Bk.Wv Bk.Pa Bk.Qa Bk.Z
def qK(u:Str)(d:D):Prop:= ∃v,d= .str v∧Hz v∧v.length≤2*u.length+12
abbrev ug:Str:=" 0129-+&|<=>!aA;,"
def eB(p:Addr)(N:D)(u:Str)(x3 x4 x5 x6 x7 x8 x9:Option D):Zq:=[some (.rf (.ref p)),some N,some (.str u),x3,x4,x5,x6,x7,x8,x9]
section
variable{p:Addr}{N:D}{u:Str}{x3 x4 x5 x6 x7 x8 x9:Option D}
def Wd(S:List Str):Prop:= ∀w∈S,Hz w∧w.length≤9
theorem Zkj{ws:List Str}{k:Nat}(hk:ws.length=k)(h0:0<k)(h1:k<1000):Sp p 1 ((Qh [.rf (.ref p), .int (k:Nat)]).bind fun d=>Dt.opt (Jt (.lst (texts ws)) d)) (fun d=> ∃w∈ws,d= .str w):=by
 refine Ve (c1:=1) (c2:=0) (jF h0 (by omega)) (fun a ha=> ?_) (by omega)
 obtain⟨r,rfl,hr⟩:=ha
 have hl:r<(texts ws).length:=by rw[QL];omega
 have e:(texts ws)[r]? =some (.str (ws[r]'(by omega))):=by
  unfold texts
  rw[List.getElem?_map,List.getElem?_eq_getElem (by omega)];rfl
 exact Zhk (Zrm e) ⟨_,List.getElem_mem _,rfl⟩
theorem ZdL{ws:List Str}(h:W7 ws≤1000000):Eb " " (.lst (texts ws))=some (.str (Txt.join " " ws)):=by
 unfold Eb
 rw[show TQ (.lst (texts ws))=some (texts ws)from rfl]
 simp only[Option.bind]
 rw[M6]
 simp only
 rw[if_pos (Zdw (by omega))]
theorem ZfM(ws:List Str)(k:Nat):W7 (ws.take k)≤W7 ws:=by
 have:W7 (ws.take k++ws.drop k)=W7 ws:=by rw[List.take_append_drop]
 rw[cX]at this;omega
theorem ZfN(ws:List Str)(k:Nat):W7 (ws.drop k)≤W7 ws:=by
 have:W7 (ws.take k++ws.drop k)=W7 ws:=by rw[List.take_append_drop]
 rw[cX]at this;omega
theorem join_le(ws:List Str):(Txt.join " " ws).length≤W7 ws:=by
 cases ws with
 |nil=>exact Nat.zero_le _
 |cons w r=>have:=Zee (ws:=w::r) (by simp);omega
theorem T8(ws:List Str)(k:Nat):(texts ws).take k=texts (ws.take k):=by unfold texts;rw[List.map_take]
theorem ZiW(ws:List Str)(k:Nat):(texts ws).drop k=texts (ws.drop k):=by unfold texts;rw[List.map_drop]
theorem ZoW(ws:List Str)(k:Nat):gSl (.lst (texts ws)) none (some (k:Int))=some (.lst (texts (ws.take k))):=by rw[Zxm,T8]
theorem ZdM(ws:List Str)(k:Nat):gSl (.lst (texts ws)) (some (k:Int)) none=some (.lst (texts (ws.drop k))):=by rw[ZsI,ZiW]
theorem w_add{a b:List Str}(h:a.length+b.length≤10000000):Z9 (.lst (texts a)) (.lst (texts b))=some (.lst (texts (a++b))):=by
 rw[fM]
 show(if _ then _ else _)=_
 rw[if_pos (sz _ (by rw[QL,QL];omega))]
theorem ZdN{ws:List Str}(ho: ∀w∈ws,Hz w)(hz:W7 ws≤2*u.length+12):qK u (.str (Txt.join " " ws)):=⟨_,rfl,Zkb Zrl ho,Nat.le_trans (join_le ws) hz⟩
abbrev b12:MS:=(xG (Ey Z9 (mP (fVar 2)) (Ey Jt (mP (JX (Zb (fC (.str " | always")) (Zb (fC (.str " & 0 < 1")) (Zb (fC (.str " | never")) (Zb (Zz Z9 (fC (.str " | ")) (fVar 2)) (Zb (Zz Z9 (fC (.str " & ")) (fVar 2)) (Zb (fC (.str "\n")) Zm)))))))) (QS Qh (mP (Zb (fVar 0) (Zb (fC (.int 6)) Zm)))))))
theorem ZsK(hu:Hz u)(hl:u.length≤40000):Sp p 1 (b12 (eB p N u x3 x4 x5 x6 x7 x8 x9)) (fun o=> ∃d,o= .rt d∧qK u d):=by
 have q1:(" | " :Str).length=3:=rfl
 have q2:(" & " :Str).length=3:=rfl
 have a1:Z9 (.str " | ") (.str u)=some (.str (" | " ++u)):=Y4 (by omega)
 have a2:Z9 (.str " & ") (.str u)=some (.str (" & " ++u)):=Y4 (by omega)
 let L6:List Str:=[" | always"," & 0 < 1"," | never"," | " ++u," & " ++u,"\n"]
 have hL: ∀w∈L6,Hz w∧w.length≤u.length+9:=by
  intro w hw
  simp only[L6,List.mem_cons,List.not_mem_nil,or_false]at hw
  rcases hw with rfl|rfl|rfl|rfl|rfl|rfl
  ·exact⟨(JK _).t,by have:(" | always" :Str).length=9:=rfl;omega⟩
  ·exact⟨(JK _).t,by have:(" & 0 < 1" :Str).length=8:=rfl;omega⟩
  ·exact⟨(JK _).t,by have:(" | never" :Str).length=8:=rfl;omega⟩
  ·exact⟨app_ok (JK " | ").t hu,by rw[len_app];omega⟩
  ·exact⟨app_ok (JK " & ").t hu,by rw[len_app];omega⟩
  ·exact⟨(JK _).t,by have:("\n" :Str).length=1:=rfl;omega⟩
 have e:b12 (eB p N u x3 x4 x5 x6 x7 x8 x9)=((Qh [.rf (.ref p), .int ((6:Nat):Int)]).bind fun d=>Dt.opt (Jt (.lst (texts L6)) d)).bind fun y=>(Dt.opt (Z9 (.str u) y)).bind fun d=> .ret (.rt d):=by
  simp [b12,xG,Ey,QS,mP,eB,JW,a1,a2,L6,texts]
 rw[e]
 refine Ve (c1:=1) (c2:=0) (Zkj rfl (by decide) (by decide)) (fun d hd=> ?_) (by omega)
 obtain⟨w,hw,rfl⟩:=hd
 obtain⟨h1,h2⟩:=hL w hw
 rw[Y4 (by omega),Ep,Eo]
 exact U6 ⟨_,rfl,_,rfl,app_ok hu h1,by rw[len_app];omega⟩
structure Zii(u:Str)(ws:List Str):Prop where
 t: ∀w∈ws,Hz w
 z:W7 ws≤u.length+1
abbrev b8:MX:=(wI (mP (fC (.str " "))) (Ey Z9 (Ey Z9 (mP (Lk (fVar 6) Qq (JH (fVar 7)))) (Ze9 (wC (Ey Jt (mP (fVar 9)) (QS Qh (mP (Zb (fVar 0) (Zb (fC (.int 22)) Zm))))) (mP Zm)))) (mP (Lk (fVar 6) (JH (Zz Z9 (fVar 7) (fC (.int 1)))) Qq))))
abbrev b9:MX:=(wI (mP (fC (.str " "))) (Ey Z9 (Ey Z9 (mP (Lk (fVar 6) Qq (JH (fVar 7)))) (Ze9 (wC (Ey Jt (mP (fVar 9)) (QS Qh (mP (Zb (fVar 0) (Zb (fC (.int 22)) Zm))))) (mP Zm)))) (mP (Lk (fVar 6) (JH (fVar 7)) Qq))))
theorem ZmV{ws S:List Str}{s:Nat}(hw:Zii u ws)(hl:u.length≤40000)(hS:Wd S)(h22:S.length=22)(j:Nat){t:Dt D}(e:t=((Qh [.rf (.ref p), .int ((22:Nat):Int)]).bind fun d=>Dt.opt (Jt (.lst (texts S)) d)).bind fun y=>(Dt.opt (Z9 (.lst (texts (ws.take s))) (.lst [y]))).bind fun z=>(Dt.opt (Z9 z (.lst (texts (ws.drop j))))).bind fun d=> .opt (Eb " " d)):Sp p 1 t (qK u):=by
 rw[e]
 refine Ve (c1:=1) (c2:=0) (Zkj h22 (by decide) (by decide)) (fun d hd=> ?_) (by omega)
 obtain⟨w,hm,rfl⟩:=hd
 obtain⟨h1,h2⟩:=hS w hm
 have z1:=ZfM ws s
 have z2:=ZfN ws j
 have z:=hw.z
 have l1:=Dd (ws.take s)
 have l2:=Dd (ws.drop j)
 have g1:Z9 (.lst (texts (ws.take s))) (.lst [.str w])=some (.lst (texts (ws.take s++[w]))):=w_add (b:=[w]) (by simp only[List.length_singleton];omega)
 have g2:=w_add (a:=ws.take s++[w]) (b:=ws.drop j) (by rw[List.length_append,List.length_singleton];omega)
 have hz:W7 ((ws.take s++[w])++ws.drop j)≤2*u.length+12:=by
  rw[cX,cX,Y9,Zj9];omega
 rw[g1,Ep,Eo,g2,Ep,Eo,ZdL (by omega),Ep]
 refine U6 (ZdN (fun x hx=> ?_) hz)
 rcases List.mem_append.mp hx with hx|hx
 ·rcases List.mem_append.mp hx with hx|hx
  ·exact hw.t x (List.mem_of_mem_take hx)
  ·rw[List.mem_singleton.mp hx];exact h1
 ·exact hw.t x (List.mem_of_mem_drop hx)
theorem ZuM{ws S:List Str}{s:Nat}(hw:Zii u ws)(hl:u.length≤40000)(hS:Wd S)(h22:S.length=22):Sp p 1 (b8 (eB p N u x3 x4 x5 (some (.lst (texts ws))) (some (.int (s:Nat))) x8 (some (.lst (texts S))))) (qK u):=
 ZmV (s:=s) hw hl hS h22 (s+1) (by
  have e1:=ZoW ws s
  have e2:gSl (.lst (texts ws)) (some ((s:Int)+1)) none=some (.lst (texts (ws.drop (s+1)))):=ZdM ws (s+1)
  simp [b8,wI,Ey,Ze9,wC,QS,mP,eB,JW,e1,e2])
theorem ZuN{ws S:List Str}{s:Nat}(hw:Zii u ws)(hl:u.length≤40000)(hS:Wd S)(h22:S.length=22):Sp p 1 (b9 (eB p N u x3 x4 x5 (some (.lst (texts ws))) (some (.int (s:Nat))) x8 (some (.lst (texts S))))) (qK u):=
 ZmV (s:=s) hw hl hS h22 s (by
  have e1:=ZoW ws s
  have e2:=ZdM ws s
  simp [b9,wI,Ey,Ze9,wC,QS,mP,eB,JW,e1,e2])
abbrev c5':FS:=(Ql (Zw (Zz Uc (fVar 4) (fC (.int 5)))) (Qg (Ec (fC (.str " ")) (Zz Z9 (Lk (fVar 6) Qq (JH (fVar 7))) (Lk (fVar 6) (JH (Zz Z9 (fVar 7) (fC (.int 1)))) Qq)))) ZS)
abbrev c6':FS:=(Ql (Zw (Zz Uc (fVar 4) (fC (.int 6)))) (Qg (Ec (fC (.str " ")) (Zz Z9 (Lk (fVar 6) Qq (JH (fVar 7))) (Lk (fVar 6) (JH (fVar 8)) Qq)))) ZS)
theorem ZfO{ws:List Str}(hw:Zii u ws)(hl:u.length≤40000)(s j:Nat): ∃z,Z9 (.lst (texts (ws.take s))) (.lst (texts (ws.drop j)))=some (.lst (texts z))∧Eb " " (.lst (texts z))=some (.str (Txt.join " " z))∧qK u (.str (Txt.join " " z)):=by
 have z1:=ZfM ws s
 have z2:=ZfN ws j
 have z:=hw.z
 have l1:=Dd (ws.take s)
 have l2:=Dd (ws.drop j)
 have hz:W7 (ws.take s++ws.drop j)≤2*u.length+12:=by rw[cX];omega
 refine⟨ws.take s++ws.drop j,w_add (by omega),ZdL (by omega),ZdN (fun x hx=> ?_) hz⟩
 rcases List.mem_append.mp hx with hx|hx
 ·exact hw.t x (List.mem_of_mem_take hx)
 ·exact hw.t x (List.mem_of_mem_drop hx)
abbrev bA:MS:=(Je (Zdb (mP (Zw (Zz Uc (fVar 4) (fC (.int 3))))) (xG b8) (mS ZS))
 (Je (Zdb (mP (Zw (Zz Uc (fVar 4) (fC (.int 4))))) (xG b9) (mS ZS))
 (Je (mS c5') (Je (mS c6') b12))))
theorem ZuO{ws S:List Str}{s j w:Nat}(hu:Hz u)(hw:Zii u ws)(hl:u.length≤40000)(hS:Wd S)(h22:S.length=22):Sp p 1 (bA (eB p N u x3 (some (.int (w:Nat))) x5 (some (.lst (texts ws))) (some (.int (s:Nat))) (some (.int (j:Nat))) (some (.lst (texts S))))) (fun o=> ∃d,o= .rt d∧qK u d):=by
 have tst: ∀k:Int,(mP (Zw (Zz Uc (fVar 4) (fC (.int k))))) (eB p N u x3 (some (.int (w:Nat))) x5 (some (.lst (texts ws))) (some (.int (s:Nat))) (some (.int (j:Nat))) (some (.lst (texts S))))= .ret (decide ((w:Int)=k)):=fun k=>by
  simp [mP,eB]
 refine Zj4 (c1:=0) (c2:=1) (Q:=fun b=>b=decide ((w:Int)=3)) (by rw[tst];exact U6 rfl) (fun hb=> ?_) (fun hb=> ?_) (by omega)
 ·unfold xG
  rw[JW]
  exact Ve (c1:=1) (c2:=0) (ZuM hw hl hS h22) (fun d hd=>U6 ⟨d,rfl,hd⟩) (by omega)
 refine Zj4 (c1:=0) (c2:=1) (Q:=fun b=>b=decide ((w:Int)=4)) (by rw[tst];exact U6 rfl) (fun hb=> ?_) (fun hb=> ?_) (by omega)
 ·unfold xG
  rw[JW]
  exact Ve (c1:=1) (c2:=0) (ZuN hw hl hS h22) (fun d hd=>U6 ⟨d,rfl,hd⟩) (by omega)
 have q1:(" " :Str).length=1:=rfl
 by_cases h5:(w:Int)=5
 ·obtain⟨z,e1,e2,e3⟩:=ZfO hw hl s (s+1)
  have f1:=ZoW ws s
  have f2:gSl (.lst (texts ws)) (some ((s:Int)+1)) none=some (.lst (texts (ws.drop (s+1)))):=ZdM ws (s+1)
  have e:c5' (eB p N u x3 (some (.int (w:Nat))) x5 (some (.lst (texts ws))) (some (.int (s:Nat))) (some (.int (j:Nat))) (some (.lst (texts S))))= .rt (.str (Txt.join " " z)):=by
   simp [c5',eB,h5,f1,f2,e1,e2]
  refine Ve (c1:=0) (c2:=1) (P:=fun o=>o= .rt (.str (Txt.join " " z))) (ZeJ e rfl) (fun o ho=> ?_) (by omega)
  subst ho
  exact U6 ⟨_,rfl,e3⟩
 have e5:c5' (eB p N u x3 (some (.int (w:Nat))) x5 (some (.lst (texts ws))) (some (.int (s:Nat))) (some (.int (j:Nat))) (some (.lst (texts S))))= .nx (eB p N u x3 (some (.int (w:Nat))) x5 (some (.lst (texts ws))) (some (.int (s:Nat))) (some (.int (j:Nat))) (some (.lst (texts S)))):=by
  simp [c5',eB,h5]
 refine dw (by unfold mS;rw[e5]) ?_
 by_cases h6:(w:Int)=6
 ·obtain⟨z,e1,e2,e3⟩:=ZfO hw hl s j
  have f1:=ZoW ws s
  have f2:=ZdM ws j
  have e:c6' (eB p N u x3 (some (.int (w:Nat))) x5 (some (.lst (texts ws))) (some (.int (s:Nat))) (some (.int (j:Nat))) (some (.lst (texts S))))= .rt (.str (Txt.join " " z)):=by
   simp [c6',eB,h6,f1,f2,e1,e2]
  refine Ve (c1:=0) (c2:=1) (P:=fun o=>o= .rt (.str (Txt.join " " z))) (ZeJ e rfl) (fun o ho=> ?_) (by omega)
  subst ho
  exact U6 ⟨_,rfl,e3⟩
 have e6:c6' (eB p N u x3 (some (.int (w:Nat))) x5 (some (.lst (texts ws))) (some (.int (s:Nat))) (some (.int (j:Nat))) (some (.lst (texts S))))= .nx (eB p N u x3 (some (.int (w:Nat))) x5 (some (.lst (texts ws))) (some (.int (s:Nat))) (some (.int (j:Nat))) (some (.lst (texts S)))):=by
  simp [c6',eB,h6]
 exact dw (by unfold mS;rw[e6]) (ZsK hu hl)
abbrev d3:FS:=(Ql (Zw (Zz jy (fVar 4) (fC (.int 3)))) (Qg (Zz Z9 (Zz Z9 (Lk (fVar 2) Qq (JH (fVar 3))) (Zz Jt (JX (Zb (fVar 5) (Zb (fVar 5) (Zb (fC (.str "")) Zm)))) (fVar 4))) (Lk (fVar 2) (JH (Zz Z9 (fVar 3) (Qm Zer (Zz gGt (fVar 4) (fC (.int 0)))))) Qq))) ZS)
abbrev d9:FS:=(Qu 9 (JX (Zb (fC (.str "")) (Zb (fC (.str "0")) (Zb (fC (.str "1")) (Zb (fC (.str "-1")) (Zb (fC (.str "2")) (Zb (fC (.str "10")) (Zb (fC (.str "09")) (Zb (fC (.str "-0")) (Zb (fC (.str "100")) (Zb (fC (.str "+")) (Zb (fC (.str "-")) (Zb (fC (.str "&")) (Zb (fC (.str "|")) (Zb (fC (.str "=")) (Zb (fC (.str "!=")) (Zb (fC (.str "==")) (Zb (fC (.str "always")) (Zb (fC (.str "never")) Zm))))))))))))))))))))
abbrev d10:FS:=(Qu 9 (Zz Z9 (fVar 9) (JX (Zb (Zz Jt (fVar 1) (fC (.int 0))) (Zb (Zz Z9 (fC (.str "-")) (Zz Jt (fVar 1) (fUn TV (fC (.int 1))))) (Zb (fC (.str "x")) (Zb (fC (.str "zz")) Zm)))))))
abbrev bB:MS:=(Je (mS d3)
 (Je (mS (Qu 6 (Oo (fVar 2) (fC (.str " ")))))
 (Je (wD [7,8] [(QS Qh (mP (Zb (fVar 0) (Zb (Qm YS (fVar 6)) Zm)))),(QS Qh (mP (Zb (fVar 0) (Zb (Qm YS (fVar 6)) Zm))))])
 (Je (mS d9) (Je (mS d10) bA)))))
abbrev bC:MS:=(Je (wD [3,4] [(QS Qh (mP (Zb (fVar 0) (Zb (Zz Z9 (Qm YS (fVar 2)) (fC (.int 1))) Zm)))),(QS Qh (mP (Zb (fVar 0) (Zb (fC (.int 8)) Zm))))])
 (Je (M4 5 (Ey Jt (mP (fC (.str ug))) (QS Qh (mP (Zb (fVar 0) (Zb (fC (.int 17)) Zm)))))) bB))
end
end Bk.Gk
namespace Bk.Gk
open PySem PySem.Spec PyProof.Rows L2 TL
open Bk.Wv Bk.Pa Bk.Qa Bk.Z
section
variable{p:Addr}{u:Str}{x3 x4 x5 x6 x7 x8 x9:Option D}
structure Zrn(ns:List Str):Prop where
 ne:ns≠[]
 low: ∀x∈ns,Wn x
theorem xW{x:Str}(h:Wn x):Hz x∧x.length≤8:=⟨(Sv (Ky h)).t,h.2.1⟩
def Kz:List Str:=["","0","1","-1","2","10","09","-0","100","+","-","&","|","=","!=","==","always","never"]
theorem Zqk: ∀w∈Kz,Hz w∧w.length≤9:=by
 have: ∀w∈Kz,((tl w).all (· <128)&&decide (w.length≤9))=true:=by decide+kernel
 intro w hw
 have h:=this w hw
 rw[Bool.and_eq_true,List.all_eq_true,decide_eq_true_eq]at h
 exact⟨fun c hc=>by have:=h.1 c hc;simp at this;omega,h.2⟩
theorem ZuP{ns:List Str}{c at' w:Nat}(hn:Zrn ns)(hu:Hz u)(hl:u.length≤40000)(hc:c<128):Sp p 3 (bB (eB p (.lst (texts ns)) u (some (.int (at':Nat))) (some (.int (w:Nat))) (some (.str ⟨#[c]⟩)) none none none none)) (fun o=> ∃d,o= .rt d∧qK u d):=by
 have huz:u.length≤sizeLine:=sz _ (by omega)
 have hs:Hz ⟨#[c]⟩∧(⟨#[c]⟩:Str).length=1:=⟨fun x hx=>by
  have:x=c:=by simpa [tl]using hx
  omega,rfl⟩
 have Zt8: ∀lo hi,Hz (cutS u lo hi)∧(cutS u lo hi).length≤u.length:=fun lo hi=>⟨ZmI lo hi hu,cutS_length ..⟩
 have three: ∀(m:Str) (k:Option Int),Hz m→m.length≤1→ ∃v,Z9 (.str (cutS u none (some (at':Int)))) (.str m)=some (.str (cutS u none (some (at':Int))++m))∧Z9 (.str (cutS u none (some (at':Int))++m)) (.str (cutS u k none))=some (.str v)∧qK u (.str v):=fun m k hm hml=>by
  have a:=Zt8 none (some (at':Int))
  have b:=Zt8 k none
  refine⟨_,Y4 (by omega),Y4 (by rw[len_app];omega),_,rfl,app_ok (app_ok a.1 hm) b.1, ?_⟩
  rw[len_app,len_app];omega
 by_cases h3:w<3
 ·have: ∃v,d3 (eB p (.lst (texts ns)) u (some (.int (at':Nat))) (some (.int (w:Nat))) (some (.str ⟨#[c]⟩)) none none none none)= .rt (.str v)∧qK u (.str v):=by
   match w,h3 with
   |0,_=>
    obtain⟨v,e1,e2,e3⟩:=three ⟨#[c]⟩ (some (at':Int)) hs.1 (by rw[hs.2];omega)
    refine⟨v, ?_,e3⟩
    simp [d3,eB,huz,e1,e2]
   |1,_=>
    obtain⟨v,e1,e2,e3⟩:=three ⟨#[c]⟩ (some ((at':Int)+1)) hs.1 (by rw[hs.2];omega)
    refine⟨v, ?_,e3⟩
    simp [d3,eB,huz,e1,e2]
   |2,_=>
    obtain⟨v,e1,e2,e3⟩:=three "" (some ((at':Int)+1)) (JK "").t (by decide+kernel)
    refine⟨v, ?_,e3⟩
    simp [d3,eB,huz,e1,e2]
  obtain⟨v,e,hv⟩:=this
  refine Ve (c1:=0) (c2:=1) (P:=fun o=>o= .rt (.str v)) (ZeJ e rfl) (fun o ho=> ?_) (by omega)
  subst ho
  exact U6 ⟨_,rfl,hv⟩
 have e3:d3 (eB p (.lst (texts ns)) u (some (.int (at':Nat))) (some (.int (w:Nat))) (some (.str ⟨#[c]⟩)) none none none none)= .nx (eB p (.lst (texts ns)) u (some (.int (at':Nat))) (some (.int (w:Nat))) (some (.str ⟨#[c]⟩)) none none none none):=by
  have: ¬(w:Int)<3:=by omega
  simp [d3,eB,this]
 refine dw (by unfold mS;rw[e3]) ?_
 have q1:(" " :Str).length=1:=rfl
 have hz2:u.length+2≤sizeLine:=sz _ (by omega)
 obtain⟨ws,hws⟩: ∃ws,ws=Txt.split u " " :=⟨_,rfl⟩
 have Zt9:Zii u ws:=⟨by rw[hws];exact Zfx sepS hu,by rw[hws];exact Bt sepS⟩
 have Zxn:ws≠[]:=by rw[hws];exact qF sepS
 have hwl:ws.length≤40001:=by have:=Dd ws;have:=Zt9.z;omega
 have hw0:0<ws.length:=List.length_pos_iff.mpr Zxn
 have e6:(Qu 6 (Oo (fVar 2) (fC (.str " ")))) (eB p (.lst (texts ns)) u (some (.int (at':Nat))) (some (.int (w:Nat))) (some (.str ⟨#[c]⟩)) none none none none)= .nx (eB p (.lst (texts ns)) u (some (.int (at':Nat))) (some (.int (w:Nat))) (some (.str ⟨#[c]⟩)) (some (.lst (texts ws))) none none none):=by
  rw[hws]
  simp [eB,q1,hz2]
 refine dw (by unfold mS;rw[e6]) ?_
 have ed:(QS Qh (mP (Zb (fVar 0) (Zb (Qm YS (fVar 6)) Zm)))) (eB p (.lst (texts ns)) u (some (.int (at':Nat))) (some (.int (w:Nat))) (some (.str ⟨#[c]⟩)) (some (.lst (texts ws))) none none none)=Qh [.rf (.ref p), .int (ws.length:Nat)]:=by
  simp [QS,mP,eB,QL]
 refine Zdc (c1:=2) (c2:=1) (Q:=fun e=> ∃s j:Nat,e=eB p (.lst (texts ns)) u (some (.int (at':Nat))) (some (.int (w:Nat))) (some (.str ⟨#[c]⟩)) (some (.lst (texts ws))) (some (.int (s:Nat))) (some (.int (j:Nat))) none) ?_ (fun e he=> ?_) (by omega)
 ·unfold wD Zbr Zbr Zbr
  rw[ed,JW]
  refine Ve (c1:=1) (c2:=1) (jF hw0 (by omega)) (fun a ha=> ?_) (by omega)
  obtain⟨s,rfl,_⟩:=ha
  rw[JW,JW]
  refine Ve (c1:=1) (c2:=0) (jF hw0 (by omega)) (fun b hb=> ?_) (by omega)
  obtain⟨j,rfl,_⟩:=hb
  exact U6 ⟨_,rfl,s,j,rfl⟩
 ·obtain⟨s,j,rfl⟩:=he
  have e9:d9 (eB p (.lst (texts ns)) u (some (.int (at':Nat))) (some (.int (w:Nat))) (some (.str ⟨#[c]⟩)) (some (.lst (texts ws))) (some (.int (s:Nat))) (some (.int (j:Nat))) none)= .nx (eB p (.lst (texts ns)) u (some (.int (at':Nat))) (some (.int (w:Nat))) (some (.str ⟨#[c]⟩)) (some (.lst (texts ws))) (some (.int (s:Nat))) (some (.int (j:Nat))) (some (.lst (texts Kz)))):=by
   simp [d9,eB,Kz,texts]
  refine dw (by unfold mS;rw[e9]) ?_
  obtain⟨b,hb,eb⟩:=Zkg hn.ne
  obtain⟨a,r,ea⟩: ∃a r,ns=a::r:=by
   cases hq:ns with
   |nil=>exact absurd hq hn.ne
   |cons a r=>exact⟨a,r,rfl⟩
  have ha:=xW (hn.low a (by rw[ea];simp))
  have hb':=xW (hn.low b hb)
  have i0:Jt (.lst (texts ns)) (.int 0)=some (.str a):=by rw[ea];exact ZlO _ _
  have i1:Jt (.lst (texts ns)) (.int (-1))=some (.str b):=eb
  have q2:("-" :Str).length=1:=rfl
  have g1:Z9 (.str "-") (.str b)=some (.str ("-" ++b)):=Y4 (by omega)
  have g2:Z9 (.lst (texts Kz)) (.lst [.str a, .str ("-" ++b), .str "x", .str "zz"])=some (.lst (texts (Kz++[a,"-" ++b,"x","zz"]))):=w_add (b:=[a,"-" ++b,"x","zz"]) (by simp [Kz])
  have e10:d10 (eB p (.lst (texts ns)) u (some (.int (at':Nat))) (some (.int (w:Nat))) (some (.str ⟨#[c]⟩)) (some (.lst (texts ws))) (some (.int (s:Nat))) (some (.int (j:Nat))) (some (.lst (texts Kz))))= .nx (eB p (.lst (texts ns)) u (some (.int (at':Nat))) (some (.int (w:Nat))) (some (.str ⟨#[c]⟩)) (some (.lst (texts ws))) (some (.int (s:Nat))) (some (.int (j:Nat))) (some (.lst (texts (Kz++[a,"-" ++b,"x","zz"]))))):=by
   simp [d10,eB,i0,i1,g1,g2]
  refine dw (by unfold mS;rw[e10]) ?_
  refine ZuO hu Zt9 hl (fun x hx=> ?_) (by simp [Kz])
  rcases List.mem_append.mp hx with hx|hx
  ·exact Zqk x hx
  ·simp only[List.mem_cons,List.not_mem_nil,or_false]at hx
   rcases hx with rfl|rfl|rfl|rfl
   ·exact⟨ha.1,by omega⟩
   ·exact⟨app_ok (JK "-").t hb'.1,by rw[len_app];omega⟩
   ·exact⟨(JK "x").t,by decide+kernel⟩
   ·exact⟨(JK "zz").t,by decide+kernel⟩
theorem Zod{c:Nat}(h:c∈tl ug):c<128:=by
 have: ∀c∈tl ug,c<128:=by decide+kernel
 exact this c h
theorem Zql{ns:List Str}(hn:Zrn ns)(hu:Hz u)(hl:u.length≤40000):Sp p 6 (Ye [.rf (.ref p), .lst (texts ns), .str u]) (qK u):=by
 show Sp p 6 (mfn (bC (eB p (.lst (texts ns)) u none none none none none none none))) _
 refine Zsp ?_
 have huz:u.length≤sizeLine:=sz _ (by omega)
 have ed:(QS Qh (mP (Zb (fVar 0) (Zb (Zz Z9 (Qm YS (fVar 2)) (fC (.int 1))) Zm)))) (eB p (.lst (texts ns)) u none none none none none none none)=Qh [.rf (.ref p), .int ((u.length+1:Nat):Int)]:=by
  simp [QS,mP,eB]
  intro h
  omega
 have ed2:(QS Qh (mP (Zb (fVar 0) (Zb (fC (.int 8)) Zm)))) (eB p (.lst (texts ns)) u none none none none none none none)=Qh [.rf (.ref p), .int ((8:Nat):Int)]:=by
  simp [QS,mP,eB]
 refine Zdc (c1:=2) (c2:=4) (Q:=fun e=> ∃s j:Nat,e=eB p (.lst (texts ns)) u (some (.int (s:Nat))) (some (.int (j:Nat))) none none none none none) ?_ (fun e he=> ?_) (by omega)
 ·unfold wD Zbr Zbr Zbr
  rw[ed,ed2,JW]
  refine Ve (c1:=1) (c2:=1) (jF (by omega) (by omega)) (fun a ha=> ?_) (by omega)
  obtain⟨s,rfl,_⟩:=ha
  rw[JW,JW]
  refine Ve (c1:=1) (c2:=0) (jF (by omega) (by omega)) (fun b hb=> ?_) (by omega)
  obtain⟨j,rfl,_⟩:=hb
  exact U6 ⟨_,rfl,s,j,rfl⟩
 ·obtain⟨s,j,rfl⟩:=he
  refine Zdj (c1:=1) (c2:=3) (Q:=fun d=> ∃c,c<128∧d= .str ⟨#[c]⟩) ?_ (fun d hd=> ?_) (by omega)
  ·have e:(Ey Jt (mP (fC (.str ug))) (QS Qh (mP (Zb (fVar 0) (Zb (fC (.int 17)) Zm))))) (eB p (.lst (texts ns)) u (some (.int (s:Nat))) (some (.int (j:Nat))) none none none none none)=(Qh [.rf (.ref p), .int ((17:Nat):Int)]).bind fun d=>Dt.opt (Jt (.str ug) d):=by
    simp [Ey,QS,mP,eB]
   rw[e]
   refine Ve (c1:=1) (c2:=0) (jF (by omega) (by omega)) (fun a ha=> ?_) (by omega)
   obtain⟨r,rfl,hr⟩:=ha
   have hlen:(tl ug).length=17:=by decide+kernel
   have hlen':ug.cps.toList.length=17:=hlen
   have e1:atI ug.cps.toList (r:Int)=some ((tl ug)[r]'(by omega)):=by
    rw[Bk.atI_nat (by rw[hlen'];exact hr)]
    exact List.getElem?_eq_getElem (by omega)
   have e2:Jt (.str ug) (.int (r:Nat))=some (.str ⟨#[(tl ug)[r]'(by omega)]⟩):=by
    unfold Jt
    simp only
    rw[if_pos (sz _ (by decide+kernel)),e1];rfl
   exact Zhk e2 ⟨_,Zod (List.getElem_mem _),rfl⟩
  ·obtain⟨c,hc,rfl⟩:=hd
   exact ZuP hn hu hl hc
end
end Bk.Gk
namespace Bk.Gk
open PySem PySem.Spec PyProof.Rows L2 TL
open Bk.Pa Bk.Qa Bk.Wv Bk.Z
abbrev noT:D:= .tup [.str "text", .int 0]
theorem Zqm(d:D):QT (.ok d)= .ok (.lst [d]):=rfl
theorem Zoe:XC [.exc "BadText" [("line", .int 0)]]= .ok noT:=by kernel_rfl
theorem Zkk:QT (.ex ⟨"BadText",[("line", .int 0)]⟩)= .ok noT:=
 (ZnH (x:=⟨"BadText",[("line", .int 0)]⟩) (by decide+kernel) (show(["KeptError","Missing","TooMany"]:List Str).any (HF "BadText")=true by decide+kernel)).trans Zoe
def iJ(ns:List Str)(u:Str):D:=match Vd ns u with
 |none=>noT
 |some f=> .lst [QF f]
theorem Zkl{cs:List (Str×Int)}{u:Str}(hc:CellsOk cs)(h:Uh u)(hl:u.length≤16600):QT (ZR [cellsD cs, .str u])= .ok (iJ (cs.map (·.1)) u):=by
 rw[PB hc h hl]
 unfold iJ
 cases Vd (cs.map (·.1)) u with
 |none=>exact Zkk
 |some f=>exact Zqm _
theorem ZiX{ns:List Str}{u:Str}{f:List (List Test)}(h:Vd ns u=some f):Gq u=some f:=by
 unfold Vd at h
 cases e:Gq u with
 |none=>rw[e]at h;cases h
 |some g=>
  rw[e]at h
  change (if _ then _ else _)=_ at h
  split at h
  ·exact h
  ·cases h
theorem ZsN:noT.XJ:=by
 have h:Th (10^30) 1 120 (.int 0):=ZrR (by decide) (by decide) (by decide)
 have k:Th (10^30) 1 16 (.str "text"):=Zxb (by decide+kernel) (by decide+kernel)
 have g:yq (10^30) 1 138 [.str "text", .int 0]:=YQ k (YQ h Lh)
 exact(G9.mpr g).XJ (by decide) (by decide) (by decide)
theorem ZsO{ns:List Str}{u:Str}(h:Uh u)(hl:u.length≤16600):(iJ ns u).XJ:=by
 unfold iJ
 split
 ·exact ZsN
 ·rename_i f hf
  exact ZpH (Zae h hl (ZiX hf))
theorem Zof{C d:D}(h:VP "str" d=some (.bl false)):ZR [C,d]= .ex ⟨"BadText",[("line", .int 0)]⟩:=by
 unfold ZR Ou
 simp [h]
theorem Zah{w:Str}(h:3<w.length):Vi w=none:=by
 unfold Vi
 rw[if_neg]
 intro z
 obtain⟨_,_,_,_,h3⟩:=Zaa z
 omega
theorem nJ{ns ws:List Str}(hp: ∀w∈ws,Tf w)(h2:2≤ws.length)(ht:J8 (Txt.join " " ws)=none):Vd ns (Txt.join " " ws)=none:=by
 obtain⟨w,w2,r,rfl⟩: ∃w w2 r,ws=w::w2::r:=by
  match ws,h2 with
  |w::w2::r,_=>exact⟨w,w2,r,rfl⟩
 generalize hu:Txt.join " " (w::w2::r)=u at*
 have et:tl u=tl w++((w2::r).flatMap fun x=>32::tl x):=by rw[←hu,W8]
 have hm: ∀c∈tl u,c=32∨(33≤c∧c<124∧c≠38):=fun c hc=>by
  rw[et]at hc
  rcases List.mem_append.mp hc with hc|hc
  ·exact .inr (hp w (by simp) c hc)
  ·obtain⟨x,hx,hc⟩:=List.mem_flatMap.mp hc
   rcases List.mem_cons.mp hc with hc|hc
   ·exact .inl hc
   ·exact .inr (hp x (List.mem_cons_of_mem _ hx) c hc)
 have h32:32∈tl u:=by rw[et];simp
 have s1:Txt.split u " | " =[u]:=Sw (y:=" | ") (a:=32) (m:=124) (b:=32) (parts:=[u]) (by decide+kernel) (by decide) (by decide+kernel) (by simp) (fun p hp hc=>by
  rw[List.mem_singleton.mp hp]at hc
  have:=hm _ hc;omega)
 have s2:Txt.split u " & " =[u]:=Sw (y:=" & ") (a:=32) (m:=38) (b:=32) (parts:=[u]) (by decide+kernel) (by decide) (by decide+kernel) (by simp) (fun p hp hc=>by
  rw[List.mem_singleton.mp hp]at hc
  have:=hm _ hc;omega)
 have n1:u≠ "never" :=fun z=>by rw[z]at h32;revert h32;decide+kernel
 have n2:u≠ "always" :=fun z=>by rw[z]at h32;revert h32;decide+kernel
 unfold Vd Gq
 rw[if_neg n1,s1,List.map_singleton]
 unfold Vu
 rw[if_neg n2,s2,List.map_singleton,ht]
 rfl
structure Nin(q:Str):Prop where
 len:q.length=5000
 all: ∀c∈tl q,c=57
theorem ZdO{q:Str}(h:Nin q):Tf q:=fun c hc=>by have:=h.all c hc;omega
theorem ZaS{fr:List Str}{o n:Str}(h0:fr≠[])(hp: ∀w∈fr++[o,n],Tf w)(hn:Vi n=none):J8 (Txt.join " " (fr++[o,n]))=none:=by
 unfold J8
 rw[Ww (by simp) fun w hw=>(hp w hw).free,tX h0]
 show((YG (Txt.join " " fr)).bind fun ts=>(Vi n).map fun k=>(ts,o,k))=none
 rw[hn]
 cases YG (Txt.join " " fr)<;>rfl
theorem ZeK{fr:List Str}{o n:Str}(h0:fr≠[])(hp: ∀w∈fr++[o,n],Tf w)(hn:YG (Txt.join " " fr)=none):J8 (Txt.join " " (fr++[o,n]))=none:=by
 unfold J8
 rw[Ww (by simp) fun w hw=>(hp w hw).free,tX h0]
 show((YG (Txt.join " " fr)).bind fun ts=>(Vi n).map fun k=>(ts,o,k))=none
 rw[hn]
 rfl
theorem Zog{q:Str}(h:Nin q):(tl q).head? =some 57:=by
 have hl:=h.len
 have ha:=h.all
 rw[len_tl]at hl
 generalize tl q=l at*
 cases l with
 |nil=>cases hl
 |cons c r=>
  rw[ha c (by simp)];rfl
theorem Zgf{nm q:Str}(hq:Nin q)(hn:Wn nm):YG (Txt.join " " [q,nm])=none:=by
 have hp: ∀w∈[q,nm],Tf w:=fun w hw=>by
  simp only[List.mem_cons,List.not_mem_nil,or_false]at hw
  rcases hw with rfl|rfl
  ·exact ZdO hq
  ·exact Ky hn
 unfold YG
 rw[if_neg,Ww (by simp) fun w hw=>(hp w hw).free]
 ·have hneg:isNeg q=false:=by
   unfold isNeg
   rw[Zog hq]
   decide
  have e1:signed [q,nm]=[("+" :Str),q,nm]:=by
   unfold signed
   simp [hneg]
  have e2:nameB (.str q)=false:=by
   unfold nameB
   dsimp only
   rw[hq.len]
   rfl
  have e3:Vi q=none:=Zah (by rw[hq.len];decide)
  rw[e1]
  unfold aZ
  rw[if_pos (.inl rfl),if_neg (by rw[e2];decide),e3]
 ·intro z
  have h:=congrArg tl z
  rw[W8]at h
  have h32:32∈tl "0" :=by rw[←h];simp
  revert h32
  decide+kernel
def jU(q nm:Str):Str:=nm++ " = " ++q
def text2(q nm:Str):Str:=nm++ " = -" ++q
def jV(q nm:Str):Str:=q++ " " ++nm++ " = 0"
theorem Zoh(q nm:Str):jU q nm=Txt.join " " ([nm]++[("=" :Str),q]):=ext_tl (by
 unfold jU
 show _=tl (Txt.join " " (nm::[("=" :Str),q]))
 rw[W8,tl_append,tl_append,show tl " = " =[32,61,32]by decide+kernel]
 simp [show tl "=" =[61]by decide+kernel])
theorem Zoi(q nm:Str):text2 q nm=Txt.join " " ([nm]++[("=" :Str),("-" :Str)++q]):=ext_tl (by
 unfold text2
 show _=tl (Txt.join " " (nm::[("=" :Str),("-" :Str)++q]))
 rw[W8,tl_append,tl_append,show tl " = -" =[32,61,32,45]by decide+kernel]
 have e:tl ("-" ++q)=45::tl q:=by rw[tl_append,show tl "-" =[45]by decide+kernel];rfl
 simp [show tl "=" =[61]by decide+kernel,e])
theorem Zoj(q nm:Str):jV q nm=Txt.join " " ([q,nm]++[("=" :Str),("0" :Str)]):=ext_tl (by
 unfold jV
 show _=tl (Txt.join " " (q::[nm,"=","0"]))
 rw[W8,tl_append,tl_append,tl_append,show tl " = 0" =[32,61,32,48]by decide+kernel]
 simp [show tl "=" =[61]by decide+kernel,show tl "0" =[48]by decide+kernel,show tl " " =[32]by decide+kernel])
theorem ZiY{ns:List Str}{nm q:Str}(hq:Nin q)(hn:Wn nm): ∀u∈[jU q nm,text2 q nm,jV q nm],Vd ns u=none∧Uh u∧u.length≤16600:=fun u hu=>by
 have hl:=hn.2.1
 have hk:=hq.len
 have pe:Tf "=" :=rK "="
 have pm:Tf ("-" ++q):=Zki (rK "-") (ZdO hq)
 have p0:Tf "0" :=rK "0"
 have pn:=Ky hn
 have ok: ∀x:Str,x=nm∨x=q∨x="=" ∨x="-" ++q∨x="0" →Tf x:=fun x hx=>by
  rcases hx with rfl|rfl|rfl|rfl|rfl
  ·exact pn
  ·exact(ZdO hq)
  ·exact pe
  ·exact pm
  ·exact p0
 have tk:Hz nm:=(xW hn).1
 have tn:Hz q:=(Sv (ZdO hq)).t
 simp only[List.mem_cons,List.not_mem_nil,or_false]at hu
 rcases hu with rfl|rfl|rfl
 ·have hmem: ∀w∈[nm]++[("=" :Str),q],w=nm∨w=q∨w=("=" :Str)∨w="-" ++q∨w="0" :=fun w hw=>by
   simp only[List.cons_append,List.nil_append,List.mem_cons,List.not_mem_nil,or_false]at hw
   rcases hw with h|h|h
   ·exact .inl h
   ·exact .inr (.inr (.inl h))
   ·exact .inr (.inl h)
  have hp: ∀w∈[nm]++[("=" :Str),q],Tf w:=fun w hw=>ok w (hmem w hw)
  refine⟨?_,⟨app_ok (app_ok tk (JK " = ").t) tn, ?_⟩, ?_⟩
  ·rw[Zoh]
   exact nJ hp (by simp) (ZaS (by simp) hp (Zah (by omega)))
  ·unfold jU;rw[len_app,len_app,show(" = " :Str).length=3 by decide+kernel];omega
  ·unfold jU;rw[len_app,len_app,show(" = " :Str).length=3 by decide+kernel];omega
 ·have hmem: ∀w∈[nm]++[("=" :Str),("-" :Str)++q],w=nm∨w=q∨w=("=" :Str)∨w="-" ++q∨w="0" :=fun w hw=>by
   simp only[List.cons_append,List.nil_append,List.mem_cons,List.not_mem_nil,or_false]at hw
   rcases hw with h|h|h
   ·exact .inl h
   ·exact .inr (.inr (.inl h))
   ·exact .inr (.inr (.inr (.inl h)))
  have hp: ∀w∈[nm]++[("=" :Str),("-" :Str)++q],Tf w:=fun w hw=>ok w (hmem w hw)
  refine⟨?_,⟨app_ok (app_ok tk (JK " = -").t) tn, ?_⟩, ?_⟩
  ·rw[Zoi]
   exact nJ hp (by simp) (ZaS (by simp) hp (Zah (by rw[len_app];omega)))
  ·unfold text2;rw[len_app,len_app,show(" = -" :Str).length=4 by decide+kernel];omega
  ·unfold text2;rw[len_app,len_app,show(" = -" :Str).length=4 by decide+kernel];omega
 ·have hmem: ∀w∈[q,nm]++[("=" :Str),("0" :Str)],w=nm∨w=q∨w=("=" :Str)∨w="-" ++q∨w="0" :=fun w hw=>by
   simp only[List.cons_append,List.nil_append,List.mem_cons,List.not_mem_nil,or_false]at hw
   rcases hw with h|h|h|h
   ·exact .inr (.inl h)
   ·exact .inl h
   ·exact .inr (.inr (.inl h))
   ·exact .inr (.inr (.inr (.inr h)))
  have hp: ∀w∈[q,nm]++[("=" :Str),("0" :Str)],Tf w:=fun w hw=>ok w (hmem w hw)
  refine⟨?_,⟨app_ok (app_ok (app_ok tn Zrl) tk) (JK " = 0").t, ?_⟩, ?_⟩
  ·rw[Zoj]
   exact nJ hp (by simp) (ZeK (by simp) hp (Zgf hq hn))
  ·unfold jV;rw[len_app,len_app,len_app,show(" = 0" :Str).length=4 by decide+kernel,show(" " :Str).length=1 by decide+kernel];omega
  ·unfold jV;rw[len_app,len_app,len_app,show(" = 0" :Str).length=4 by decide+kernel,show(" " :Str).length=1 by decide+kernel];omega
end Bk.Gk
namespace Bk.Gk
open PySem PySem.Spec PyProof.Rows L2 TL
open Bk.Pa Bk.Qa Bk.Wv Bk.Z
abbrev Zro:FS:=(Qu 2 (Zz Zb9 (fC (.str "9")) (fC (.int 5000))))
abbrev Zua:FS:=(Oh (Jg (QM (Zb (Zz Z9 (Zz Z9 (Zz Jt (fVar 1) (fC (.int 0))) (fC (.str " = "))) (fVar 2)) (Zb (Zz Z9 (Zz Z9 (Zz Jt (fVar 1) (fC (.int 0))) (fC (.str " = -"))) (fVar 2)) (Zb (Zz Z9 (Zz Z9 (Zz Z9 (fVar 2) (fC (.str " "))) (Zz Jt (fVar 1) (fC (.int 0)))) (fC (.str " = 0"))) Zm))))) (Zv 3) (Ql (Zw (Zz Wo (gY QT (ZL ZR (Zb (fVar 0) (Zb (fVar 3) Zm)))) (QM (Zb (fC (.str "text")) (Zb (fC (.int 0)) Zm))))) (Qg (fC (.bl false))) ZS) [3])
abbrev Zub:FS:=(Mu [4,3] [(QM (Zb (QM (Zb (fC (.str "always")) (Zb (fC (.int 1)) Zm))) (Zb (QM (Zb (fC (.str "never")) (Zb (fC (.int 2)) Zm))) Zm))),(fC (.str "always = 1 | never < 2 | always"))])
abbrev Zuc:FS:=(Qu 5 (QM (Zb (QM (Zb (QM (Zb (QM (Zb (QM (Zb (fC (.int 1)) (Zb (fC (.str "always")) Zm))) Zm)) (Zb (fC (.str "=")) (Zb (fC (.int 1)) Zm)))) Zm)) (Zb (QM (Zb (QM (Zb (QM (Zb (QM (Zb (fC (.int 1)) (Zb (fC (.str "never")) Zm))) Zm)) (Zb (fC (.str "<")) (Zb (fC (.int 2)) Zm)))) Zm)) (Zb (QM Zm) Zm)))))
abbrev Zrp:FS:=(Qg (XM (Zz Uc (ZL ZR (Zb (fVar 4) (Zb (fVar 3) Zm))) (fVar 5)) (Zz Uc (ZL JR (Zb (fVar 5) Zm)) (fVar 3))))
theorem Tn:GZ=(ZP Zro (ZP Zua (ZP Zub (ZP Zuc Zrp)))):=rfl
abbrev Ac(C N:D)(x2 x3 x4 x5:Option D):Zq:=[some C,some N,x2,x3,x4,x5]
theorem Zqn{cs:List (Str×Int)}{u:Str}(hc:CellsOk cs)(h:Vd (cs.map (·.1)) u=none∧Uh u∧u.length≤16600)(N:D)(q:Str)(k:FS):
  (TY (Zv 3 (.str u) (Ac (cellsD cs) N (some (.str q)) none none none)) fun e1=>((Ql (Zw (Zz Wo (gY QT (ZL ZR (Zb (fVar 0) (Zb (fVar 3) Zm)))) (QM (Zb (fC (.str "text")) (Zb (fC (.int 0)) Zm))))) (Qg (fC (.bl false))) ZS) e1).turn [3] k)=if true=true then k (Ac (cellsD cs) N (some (.str q)) none none none)else .no:=by
 have h1:=Zkl hc h.2.1 h.2.2
 have h2:iJ (cs.map (·.1)) u=noT:=by unfold iJ;rw[h.1]
 rw[h2]at h1
 have h3:Wo noT noT=some (.bl false):=Zfw (by kernel_rfl)
 generalize cellsD cs=C at*
 simp [h1,h3,Ac]
abbrev bQ:List (Str×Int):=[("always",1),("never",2)]
abbrev xX:List (List Test):=[[([(1,"always")],"=",1)],[([(1,"never")],"<",2)],[]]
abbrev uh:Str:="always = 1 | never < 2 | always"
theorem xY: ∀x∈bQ.map (·.1),Wn x:=by
 intro x hx
 simp only[bQ,List.map_cons,List.map_nil,List.mem_cons,List.not_mem_nil,or_false]at hx
 have key: ∀y:Str,(decide (1≤y.length)&&decide (y.length≤8)&&y.cps.toList.all (· ∈letters.cps.toList))=true→Wn y:=fun y h=>by
  simp only[Bool.and_eq_true,decide_eq_true_eq,List.all_eq_true]at h
  exact⟨h.1.1,h.1.2,fun c hc=>h.2 c hc⟩
 rcases hx with rfl|rfl
 ·exact key _ (by decide+kernel)
 ·exact key _ (by decide+kernel)
theorem ZsQ{x:Str}(h:Wn x):Cu x:=⟨Wh.mpr (xW h).1,by have:=h.2.1;omega⟩
theorem Zll:CellsOk bQ:=⟨fun c hc=>ZsQ (xY _ (List.mem_map.mpr ⟨c,hc,rfl⟩)),by decide,by decide,fun c hc=>by
 simp only[bQ,List.mem_cons,List.not_mem_nil,or_false]at hc
 rcases hc with rfl|rfl<;>decide,by decide+kernel,fun c hc=>xY _ (List.mem_map.mpr ⟨c,hc,rfl⟩)⟩
theorem ZfP:Kh (bQ.map (·.1)) xX:=by
 have t1:RQ (bQ.map (·.1)) ([(1,"always")],"=",1):=by
  refine⟨⟨by decide,fun t ht=> ?_, ?_,fun t ht=> ?_⟩, ?_,by decide,by decide⟩
  ·rw[List.mem_singleton.mp ht];exact⟨by decide,by simp [bQ]⟩
  ·exact List.Sublist.cons_cons _ (List.nil_sublist _)
  ·rw[List.mem_singleton.mp ht];decide
  ·simp [Ze3]
 have t2:RQ (bQ.map (·.1)) ([(1,"never")],"<",2):=by
  refine⟨⟨by decide,fun t ht=> ?_, ?_,fun t ht=> ?_⟩, ?_,by decide,by decide⟩
  ·rw[List.mem_singleton.mp ht];exact⟨by decide,by simp [bQ]⟩
  ·exact List.Sublist.cons _ (List.Sublist.refl _)
  ·rw[List.mem_singleton.mp ht];decide
  ·simp [Ze3]
 refine⟨by decide,fun c hc=> ?_⟩
 simp only[xX,List.mem_cons,List.not_mem_nil,or_false]at hc
 rcases hc with rfl|rfl|rfl
 ·exact⟨by decide,fun t ht=>by rw[List.mem_singleton.mp ht];exact t1⟩
 ·exact⟨by decide,fun t ht=>by rw[List.mem_singleton.mp ht];exact t2⟩
 ·exact⟨by decide,fun t ht=>nomatch ht⟩
theorem Zkm:Yp xX=uh:=by decide+kernel
theorem Zok:ZR [cellsD bQ, .str uh]= .ok (QF xX):=by
 rw[PB Zll (JK uh) (by decide+kernel),←Zkm,ZdK xY (by decide+kernel) (by decide) ZfP]
theorem Zlm:JR [QF xX]= .ok (.str uh):=by
 rw[bx (Zhs xY (by decide) ZfP),Zkm]
theorem Zgg{cs:List (Str×Int)}(hc:CellsOk cs):Jx [cellsD cs, .lst (texts (cs.map (·.1)))]= .ok (.bl true):=by
 obtain⟨c,r,hr⟩: ∃c r,cs=c::r:=by
  cases cs with
  |nil=>exact absurd hc.pos (by decide)
  |cons c r=>exact⟨c,r,rfl⟩
 have hlow:Wn c.1:=hc.low c (by rw[hr];simp)
 have ZuQ: ∃q,Zb9 (.str "9") (.int 5000)=some (.str q)∧Nin q:=by
  refine⟨Vl "9" 5000, ?_,Tp "9" 5000,fun c hc=> ?_⟩
  ·have:1<(5000:Int)∧(5000:Int)≤10000∧0<("9" :Str).length∧("9" :Str).length≤100:=by decide+kernel
   unfold Zb9
   exact if_pos this
  ·rcases dJ 5000 #[] (Array.mem_toList_iff.mp hc)with h|h
   ·simp at h
   ·have h2:c∈tl "9" :=Array.mem_toList_iff.mpr h
    rw[show tl "9" =[57]by decide+kernel]at h2
    exact List.mem_singleton.mp h2
 obtain⟨q,hmul,hq⟩:=ZuQ
 have hbad:=ZiY (ns:=cs.map (·.1)) hq hlow
 have hix:Jt (.lst (texts (cs.map (·.1)))) (.int 0)=some (.str c.1):=by rw[hr];exact Zrm (k:=0) rfl
 have l1:(" = " :Str).length=3:=by decide+kernel
 have l2:(" = -" :Str).length=4:=by decide+kernel
 have l3:(" = 0" :Str).length=4:=by decide+kernel
 have l4:(" " :Str).length=1:=by decide+kernel
 have hn:=hq.len
 have hl:=hlow.2.1
 have a1:Z9 (.str c.1) (.str " = ")=some (.str (c.1++ " = ")):=Y4 (by omega)
 have a2:Z9 (.str (c.1++ " = ")) (.str q)=some (.str (jU q c.1)):=Y4 (by rw[len_app];omega)
 have a3:Z9 (.str c.1) (.str " = -")=some (.str (c.1++ " = -")):=Y4 (by omega)
 have a4:Z9 (.str (c.1++ " = -")) (.str q)=some (.str (text2 q c.1)):=Y4 (by rw[len_app];omega)
 have a5:Z9 (.str q) (.str " ")=some (.str (q++ " ")):=Y4 (by omega)
 have a6:Z9 (.str (q++ " ")) (.str c.1)=some (.str (q++ " " ++c.1)):=Y4 (by rw[len_app];omega)
 have a7:Z9 (.str (q++ " " ++c.1)) (.str " = 0")=some (.str (jV q c.1)):=Y4 (by rw[len_app,len_app];omega)
 have hbody:=fun u hu N k=>Zqn hc (hbad u hu) N q k
 have own1:=Zok
 have Zxo:=Zlm
 have q1:Uc (QF xX) (QF xX)=some (.bl true):=Zfv (by kernel_rfl)
 have q2:Uc (.str uh) (.str uh)=some (.bl true):=Zfv (by kernel_rfl)
 show(GZ (Ac _ _ none none none none)).fn=_
 rw[Tn]
 generalize hC:cellsD cs=C at*
 generalize hN:D.lst (texts (cs.map (·.1)))=N at*
 have e0:Zro (Ac C N none none none none)= .nx (Ac C N (some (.str q)) none none none):=by
  simp [Zro,hmul,Ac]
 have e1:Zua (Ac C N (some (.str q)) none none none)= .nx (Ac C N (some (.str q)) none none none):=by
  refine(Zj3 (ds:=[.str (jU q c.1), .str (text2 q c.1), .str (jV q c.1)]) ?_).trans ?_
  ·generalize jU q c.1=t1 at*
   generalize text2 q c.1=t2 at*
   generalize jV q c.1=t3 at*
   simp [hix,a1,a2,a3,a4,a5,a6,a7,Ac]
  ·rw[gq (fun _=>true) (.no) (fun d hd k=>by
    obtain⟨u,hu,rfl⟩: ∃u,u∈[jU q c.1,text2 q c.1,jV q c.1]∧d= .str u:=by
     simp only[List.mem_cons,List.not_mem_nil,or_false]at hd
     rcases hd with rfl|rfl|rfl
     ·exact⟨_,by simp,rfl⟩
     ·exact⟨_,by simp,rfl⟩
     ·exact⟨_,by simp,rfl⟩
    exact hbody u hu N k)]
   simp
 have e2:Zub (Ac C N (some (.str q)) none none none)= .nx (Ac C N (some (.str q)) (some (.str uh)) (some (cellsD bQ)) none):=by
  rfl
 have e3:Zuc (Ac C N (some (.str q)) (some (.str uh)) (some (cellsD bQ)) none)= .nx (Ac C N (some (.str q)) (some (.str uh)) (some (cellsD bQ)) (some (QF xX))):=by
  rfl
 have e4:Zrp (Ac C N (some (.str q)) (some (.str uh)) (some (cellsD bQ)) (some (QF xX)))= .rt (.bl true):=by
  generalize cellsD bQ=C2 at*
  generalize QF xX=F2 at*
  generalize uh=T2 at*
  simp [Zrp,Ac,own1,Zxo,q1,q2]
 rw[xK e0,xK e1,xK e2,xK e3,e4]
 rfl
end Bk.Gk
namespace Bk.Gk
open PySem PySem.Spec PyProof.Rows L2 TL
open Bk.Pa Bk.Qa Bk.Wv Bk.Z
abbrev Zxp:MS:=(M4 3 (QS OJ (mP (Zb (fVar 1) Zm))))
abbrev Zxq:MS:=(mS (Qu 4 (R5 (Jg (fVar 3)) (Zv 11) Ux (Zz Jt (fVar 11) (fC (.int 0))) [11])))
abbrev Zxr:MS:=(M4 5 (QS Uz (mP (Zb (fVar 1) (Zb (fVar 4) Zm)))))
abbrev Zxs:MS:=(mS (Qu 6 (ZL JG (Zb (fVar 5) Zm))))
abbrev Zxt:MS:=(mS (Ql (Ze6 (Zw (Zz Uc (fVar 2) (fC (.int 0)))) (Yt (Zw (ZL Jx (Zb (fVar 3) (Zb (fVar 4) Zm)))))) (Qg (fC (.bl false))) ZS))
abbrev Zxu:MS:=(mS (Ql (Br (Zw (Zz R3 (Qm Va (ZL JR (Zb (fVar 5) Zm))) (Qm Va (fVar 6)))) (Zw (Zz R3 (Qm Va (ZL ZR (Zb (fVar 3) (Zb (fVar 6) Zm)))) (Qm Va (fVar 5))))) (Qg (fC (.bl false))) ZS))
abbrev Zud:MS:=(Zbq (mP (Ag (Zb (fC (.int 5)) Zm))) (Zv 7) (Je (mS (Qu 8 (ZL Ju (Zb (fVar 4) (Zb (fVar 6) Zm)))))
 (Je (mS (Qu 9 (Ln (Zw (Zz (Uw true) (fVar 8) (fC .non))) (JX (Zb (fVar 8) Zm)) (QM (Zb (fC (.str "text")) (Zb (fC (.int 0)) Zm))))))
 (Je (mS (Ql (Zw (Zz R3 (Qm Va (gY QT (ZL ZR (Zb (fVar 3) (Zb (fVar 6) Zm))))) (Qm Va (fVar 9)))) (Qg (fC (.bl false))) ZS))
 (M4 6 (QS Ye (mP (Zb (fVar 1) (Zb (fVar 4) (Zb (fVar 6) Zm))))))))) [7,9,8])
abbrev Zxv:MS:=(M4 10 (Ey Jt (mP (JX (Zb (fC .non) (Zb (fC (.int 5)) (Zb (fC (.bl true)) (Zb (QM Zm) (Zb (JX Zm) (Zb yw (Zb (QM (Zb (fC (.str "always")) Zm)) (Zb (JX (Zb (fC (.str "always")) Zm)) Zm)))))))))) (QS Qh (mP (Zb (fVar 1) (Zb (fC (.int 8)) Zm))))))
abbrev Zxw:MS:=(mS (Ql (Zw (Zz Wo (gY QT (ZL ZR (Zb (fVar 3) (Zb (fVar 10) Zm)))) (QM (Zb (fC (.str "text")) (Zb (fC (.int 0)) Zm))))) (Qg (fC (.bl false))) ZS))
theorem Zbx:Sd=(Je Zxp (Je Zxq (Je Zxr (Je Zxs (Je Zxt (Je Zxu (Je Zud (Je Zxv Zxw)))))))):=rfl
abbrev Zxx:MS:=(mS (Qu 8 (ZL Ju (Zb (fVar 4) (Zb (fVar 6) Zm)))))
abbrev Zxy:MS:=(mS (Qu 9 (Ln (Zw (Zz (Uw true) (fVar 8) (fC .non))) (JX (Zb (fVar 8) Zm)) (QM (Zb (fC (.str "text")) (Zb (fC (.int 0)) Zm))))))
abbrev Zxz:MS:=(mS (Ql (Zw (Zz R3 (Qm Va (gY QT (ZL ZR (Zb (fVar 3) (Zb (fVar 6) Zm))))) (Qm Va (fVar 9)))) (Qg (fC (.bl false))) ZS))
abbrev Zue:MS:=(M4 6 (QS Ye (mP (Zb (fVar 1) (Zb (fVar 4) (Zb (fVar 6) Zm))))))
theorem Zby:R9=(Je Zxx (Je Zxy (Je Zxz Zue))):=rfl
theorem ZsR:Zud=Zbq (mP (Ag (Zb (fC (.int 5)) Zm))) (Zv 7) R9 [7,9,8]:=rfl
abbrev WL:List Nat:=[7,3,9,5,8,4,10,6,2]
def eL(s:D)(p:Addr)(x2 x3 x4 x5 x6 x7 x8 x9 x10:Option D):Zq:=[some s,some (.rf (.ref p)),x2,x3,x4,x5,x6,x7,x8,x9,x10,none]
section
variable{cs:List (Str×Int)}{s:D}{p:Addr}{x2 x5 x7 x8 x9 x10:Option D}
theorem ZdP(hc:CellsOk cs):namesOk (cs.map (·.1)):=⟨fun x hx=>by
 obtain⟨c,h,rfl⟩:=List.mem_map.mp hx
 exact hc.nm c h,by rw[List.length_map];exact hc.len⟩
theorem low_of(hc:CellsOk cs): ∀x∈cs.map (·.1),Wn x:=fun x hx=>by
 obtain⟨c,h,rfl⟩:=List.mem_map.mp hx
 exact hc.low c h
theorem ZuR(hc:CellsOk cs):Zrn (cs.map (·.1)):=⟨by
 intro z
 have h1:=congrArg List.length z
 rw[List.length_map]at h1
 have h2:=hc.pos
 rw[h1]at h2
 exact absurd h2 (by decide),low_of hc⟩
theorem Zol(ns:List Str)(u:Str):Uw true (CQ (Vd ns u)) .non=some (.bl (Vd ns u).isSome):=by
 cases Vd ns u<;>rfl
theorem again(hc:CellsOk cs){u:Str}(hu:Uh u)(hl:u.length≤16600):Sp p 6 (R9 (eL s p x2 (some (cellsD cs)) (some (.lst (texts (cs.map (·.1))))) x5 (some (.str u)) x7 x8 x9 none)) (fun o=> ∃v y8 y9,qK u (.str v)∧o= .nx (eL s p x2 (some (cellsD cs)) (some (.lst (texts (cs.map (·.1))))) x5 (some (.str v)) x7 y8 y9 none)):=by
 rw[Zby]
 have h1:=rY (fun x hx=>(ZdP hc).1 x hx) hu hl
 have h2:=Zkl hc hu hl
 have h3:=zQ (ZsO (ns:=cs.map (·.1)) hu hl)
 have h4:=Zol (cs.map (·.1)) u
 have h5:=Zql (p:=p) (ZuR hc) hu.t (show u.length≤40000 by omega)
 have z1:1≤sizeLine:=sz _ (by omega)
 have e0:(Qu 8 (ZL Ju (Zb (fVar 4) (Zb (fVar 6) Zm)))) (eL s p x2 (some (cellsD cs)) (some (.lst (texts (cs.map (·.1))))) x5 (some (.str u)) x7 x8 x9 none)= .nx (eL s p x2 (some (cellsD cs)) (some (.lst (texts (cs.map (·.1))))) x5 (some (.str u)) x7 (some (CQ (Vd (cs.map (·.1)) u))) x9 none):=by
  generalize D.lst (texts (cs.map (·.1)))=N at*
  generalize CQ (Vd (cs.map (·.1)) u)=O at*
  simp [eL,h1]
 have e1:(Qu 9 (Ln (Zw (Zz (Uw true) (fVar 8) (fC .non))) (JX (Zb (fVar 8) Zm)) (QM (Zb (fC (.str "text")) (Zb (fC (.int 0)) Zm))))) (eL s p x2 (some (cellsD cs)) (some (.lst (texts (cs.map (·.1))))) x5 (some (.str u)) x7 (some (CQ (Vd (cs.map (·.1)) u))) x9 none)= .nx (eL s p x2 (some (cellsD cs)) (some (.lst (texts (cs.map (·.1))))) x5 (some (.str u)) x7 (some (CQ (Vd (cs.map (·.1)) u))) (some (iJ (cs.map (·.1)) u)) none):=by
  have hd:iJ (cs.map (·.1)) u=if(Vd (cs.map (·.1)) u).isSome=true then .lst [CQ (Vd (cs.map (·.1)) u)]else noT:=by
   unfold iJ
   cases Vd (cs.map (·.1)) u<;>rfl
  rw[hd]
  generalize D.lst (texts (cs.map (·.1)))=N at*
  generalize CQ (Vd (cs.map (·.1)) u)=O at*
  generalize (Vd (cs.map (·.1)) u).isSome=b at*
  cases b<;>simp [eL,h4,z1]
 have e2:(Ql (Zw (Zz R3 (Qm Va (gY QT (ZL ZR (Zb (fVar 3) (Zb (fVar 6) Zm))))) (Qm Va (fVar 9)))) (Qg (fC (.bl false))) ZS) (eL s p x2 (some (cellsD cs)) (some (.lst (texts (cs.map (·.1))))) x5 (some (.str u)) x7 (some (CQ (Vd (cs.map (·.1)) u))) (some (iJ (cs.map (·.1)) u)) none)= .nx (eL s p x2 (some (cellsD cs)) (some (.lst (texts (cs.map (·.1))))) x5 (some (.str u)) x7 (some (CQ (Vd (cs.map (·.1)) u))) (some (iJ (cs.map (·.1)) u)) none):=by
  generalize D.lst (texts (cs.map (·.1)))=N at*
  generalize CQ (Vd (cs.map (·.1)) u)=O at*
  generalize iJ (cs.map (·.1)) u=Q at*
  generalize cellsD cs=C at*
  simp [eL,h2,h3]
 refine wG e0 (wG e1 (wG e2 ?_))
 have e3:(QS Ye (mP (Zb (fVar 1) (Zb (fVar 4) (Zb (fVar 6) Zm))))) (eL s p x2 (some (cellsD cs)) (some (.lst (texts (cs.map (·.1))))) x5 (some (.str u)) x7 (some (CQ (Vd (cs.map (·.1)) u))) (some (iJ (cs.map (·.1)) u)) none)=Ye [.rf (.ref p), .lst (texts (cs.map (·.1))), .str u]:=by
  generalize D.lst (texts (cs.map (·.1)))=N at*
  generalize CQ (Vd (cs.map (·.1)) u)=O at*
  generalize iJ (cs.map (·.1)) u=Q at*
  generalize cellsD cs=C at*
  simp [QS,mP,eL]
 unfold Zue M4
 rw[e3]
 refine Ve (c1:=6) (c2:=0) h5 (fun d hd=> ?_)
 obtain⟨v,rfl,h⟩:=hd
 exact U6 ⟨v,_,_,⟨v,rfl,h⟩,rfl⟩
def wJ:Nat→Nat
 |0=>1004
 |k+1=>2*wJ k+12
theorem Zom: ∀n,n≤4→wJ (5-(n+1))≤16600∧2*wJ (5-(n+1))+12≤wJ (5-n):=by
 intro n hn
 have:n=0∨n=1∨n=2∨n=3∨n=4:=by omega
 rcases this with rfl|rfl|rfl|rfl|rfl<;>decide
def JL(s:D)(p:Addr)(x2:Option D)(cs:List (Str×Int))(x5:Option D)(ds:List D)(e:Zq):Prop:= ∃u:Str,Hz u∧ds.length≤5∧u.length≤wJ (5-ds.length)∧e=eL s p x2 (some (cellsD cs)) (some (.lst (texts (cs.map (·.1))))) x5 (some (.str u)) none none none none
theorem ZsS(hc:CellsOk cs): ∀(ds:List D) (e:Zq),JL s p x2 cs x5 ds e→Sp p (6*ds.length) (RJ (Zv 7) R9 [7,9,8] ds e) fun o=> ∃e1,o= .nx e1∧JL s p x2 cs x5 [] e1:=
 ZfL (JL s p x2 cs x5) fun d ds e hj=>by
  obtain⟨u,ht,h5,hl,rfl⟩:=hj
  have h5:ds.length+1≤5:=h5
  have hl:u.length≤wJ (5-(ds.length+1)):=hl
  have hk:u.length≤16600∧2*u.length+12≤wJ (5-ds.length):=by
   have:=Zom ds.length (by omega)
   omega
  refine⟨eL s p x2 (some (cellsD cs)) (some (.lst (texts (cs.map (·.1))))) x5 (some (.str u)) (some d) none none none,rfl, ?_⟩
  refine xH (again hc ⟨ht,by omega⟩ hk.1) (fun o ho=> ?_)
  obtain⟨v,y8,y9,hb,rfl⟩:=ho
  obtain⟨v',ev,t1,t2⟩:=hb
  cases ev
  exact⟨_, .inl rfl,v,t1,by omega,by omega,rfl⟩
abbrev Zh3:List D:=[.non, .int 5, .bl true, .tup [], .lst [], .U0 [], .tup [.str "always"], .lst [.str "always"]]
theorem Zqo: ∀d∈Zh3,VP "str" d=some (.bl false):=fun d hd=>by
 simp only[Zh3,List.mem_cons,List.not_mem_nil,or_false]at hd
 rcases hd with rfl|rfl|rfl|rfl|rfl|rfl|rfl|rfl<;>rfl
theorem ZsT{C d:D}(h:VP "str" d=some (.bl false)){x4 x6:Option D}:(Ql (Zw (Zz Wo (gY QT (ZL ZR (Zb (fVar 3) (Zb (fVar 10) Zm)))) (QM (Zb (fC (.str "text")) (Zb (fC (.int 0)) Zm))))) (Qg (fC (.bl false))) ZS) (eL s p x2 (some C) x4 x5 x6 none none none (some d))= .nx (eL s p x2 (some C) x4 x5 x6 none none none (some d)):=by
 have h1:QT (ZR [C,d])= .ok noT:=by rw[Zof h];exact Zkk
 have h3:Wo noT noT=some (.bl false):=Zfw (by kernel_rfl)
 simp [eL,h1,h3]
theorem Zon{k:Int}:Sp p 250 (Sd (eL s p (some (.int k)) none none none none none none none none)) (fun o=> ∃e2,(o= .nx e2∨o= .ct e2)∧Jk e2 WL=eL s p none none none none none none none none none):=by
 rw[Zbx]
 have e0:QS OJ (mP (Zb (fVar 1) Zm)) (eL s p (some (.int k)) none none none none none none none none)=OJ [.rf (.ref p)]:=by simp [QS,mP,eL]
 refine Zdj (c1:=16) (c2:=234) (Q:=fun d=> ∃cs,d=cellsD cs∧CellsOk cs) (by rw[e0];exact ZqX (c:=16) (as:=[]) rfl) (fun d hd=> ?_)
 obtain⟨cs,rfl,hc⟩:=hd
 have hns:=ZdP hc
 have hlow:=low_of hc
 have h4:(cs.map (·.1)).length≤4:=hns.2
 show Sp p 234 (Je _ _ (eL s p (some (.int k)) (some (cellsD cs)) none none none none none none none)) _
 have e1:(Qu 4 (R5 (Jg (fVar 3)) (Zv 11) Ux (Zz Jt (fVar 11) (fC (.int 0))) [11])) (eL s p (some (.int k)) (some (cellsD cs)) none none none none none none none)= .nx (eL s p (some (.int k)) (some (cellsD cs)) (some (.lst (texts (cs.map (·.1))))) none none none none none none):=by
  have h2:(R5 (Jg (fVar 3)) (Zv 11) Ux (Zz Jt (fVar 11) (fC (.int 0))) [11]) (eL s p (some (.int k)) (some (cellsD cs)) none none none none none none none)= .ok (.lst (texts (cs.map (·.1)))):=by
   show(((Rs.ok (cs.map qQ)).bind fun ds=>(qT (Yx (Zv 11) Ux (Zz Jt (fVar 11) (fC (.int 0))) (Jk (eL s p (some (.int k)) (some (cellsD cs)) none none none none none none none) [11])) ds).bind fun ys=>Rs.ok (D.lst ys)))=_
   rw[Bw,Ko (F:=fun x=>match x with| .tup [d,_]=>d|d=>d) fun x hx=>by
    obtain⟨c,_,rfl⟩:=List.mem_map.mp hx
    rfl]
   unfold texts
   rw[Bw,List.map_map,List.map_map]
   rfl
  unfold Qu
  rw[h2]
  rfl
 refine wG e1 ?_
 have e2:QS Uz (mP (Zb (fVar 1) (Zb (fVar 4) Zm))) (eL s p (some (.int k)) (some (cellsD cs)) (some (.lst (texts (cs.map (·.1))))) none none none none none none)=Uz [.rf (.ref p), .lst (texts (cs.map (·.1)))]:=rfl
 refine Zdj (c1:=165) (c2:=69) (Q:=fun d=> ∃f,d=QF f∧Kh (cs.map (·.1)) f) (by rw[e2];exact Zp0 hns) (fun d hd=> ?_)
 obtain⟨f,rfl,hf⟩:=hd
 have hE:=Zhs hlow h4 hf
 have hT:=Zob hE
 have hS:Uh (Yp f):=hT.1.s hT.2
 have hw:=jT hE
 have hw2:=bx hE
 have hr:ZR [cellsD cs, .str (Yp f)]= .ok (QF f):=by
  rw[PB hc hS (by omega),ZdK hlow hc.nd h4 hf]
 have hk:=Zgg hc
 have sh1:=zQ (Zmo hS.th)
 have sh2:=zQ (Zmo (Zsn (ZpX hns hf) (by decide) (by decide)))
 show Sp p 69 (Je _ _ (eL s p (some (.int k)) (some (cellsD cs)) (some (.lst (texts (cs.map (·.1))))) (some (QF f)) none none none none none)) _
 have e3:(Qu 6 (ZL JG (Zb (fVar 5) Zm))) (eL s p (some (.int k)) (some (cellsD cs)) (some (.lst (texts (cs.map (·.1))))) (some (QF f)) none none none none none)= .nx (eL s p (some (.int k)) (some (cellsD cs)) (some (.lst (texts (cs.map (·.1))))) (some (QF f)) (some (.str (Yp f))) none none none none):=by
  generalize D.lst (texts (cs.map (·.1)))=N at*
  generalize cellsD cs=C at*
  generalize QF f=F at*
  simp [eL,hw]
 have e4:(Ql (Ze6 (Zw (Zz Uc (fVar 2) (fC (.int 0)))) (Yt (Zw (ZL Jx (Zb (fVar 3) (Zb (fVar 4) Zm)))))) (Qg (fC (.bl false))) ZS) (eL s p (some (.int k)) (some (cellsD cs)) (some (.lst (texts (cs.map (·.1))))) (some (QF f)) (some (.str (Yp f))) none none none none)= .nx (eL s p (some (.int k)) (some (cellsD cs)) (some (.lst (texts (cs.map (·.1))))) (some (QF f)) (some (.str (Yp f))) none none none none):=by
  have q0:Uc (.int k) (.int 0)=some (.bl (decide (k=0))):=xr k 0
  generalize D.lst (texts (cs.map (·.1)))=N at*
  generalize cellsD cs=C at*
  generalize QF f=F at*
  generalize Yp f=T at*
  by_cases h0:k=0<;>simp [eL,hk,q0,h0]
 have e5:(Ql (Br (Zw (Zz R3 (Qm Va (ZL JR (Zb (fVar 5) Zm))) (Qm Va (fVar 6)))) (Zw (Zz R3 (Qm Va (ZL ZR (Zb (fVar 3) (Zb (fVar 6) Zm)))) (Qm Va (fVar 5))))) (Qg (fC (.bl false))) ZS) (eL s p (some (.int k)) (some (cellsD cs)) (some (.lst (texts (cs.map (·.1))))) (some (QF f)) (some (.str (Yp f))) none none none none)= .nx (eL s p (some (.int k)) (some (cellsD cs)) (some (.lst (texts (cs.map (·.1))))) (some (QF f)) (some (.str (Yp f))) none none none none):=by
  generalize D.lst (texts (cs.map (·.1)))=N at*
  generalize cellsD cs=C at*
  generalize QF f=F at*
  generalize Yp f=T at*
  simp [eL,hw2,hr,sh1,sh2]
 refine wG e3 (wG e4 (wG e5 ?_))
 have er:(Ag (Zb (fC (.int 5)) Zm)) (eL s p (some (.int k)) (some (cellsD cs)) (some (.lst (texts (cs.map (·.1))))) (some (QF f)) (some (.str (Yp f))) none none none none)= .ok [.int 0, .int 1, .int 2, .int 3, .int 4]:=by
  generalize D.lst (texts (cs.map (·.1)))=N at*
  generalize cellsD cs=C at*
  generalize QF f=F at*
  generalize Yp f=T at*
  rfl
 refine Zdc (c1:=30) (c2:=39) (Q:=JL s p (some (.int k)) cs (some (QF f)) []) ?_ (fun e he=> ?_)
 ·rw[ZsR]
  unfold Zbq mP
  rw[er]
  show Sp p 30 (RJ (Zv 7) R9 [7,9,8] [.int 0, .int 1, .int 2, .int 3, .int 4] _) _
  exact ZsS hc [.int 0, .int 1, .int 2, .int 3, .int 4] _ ⟨Yp f,hS.t,by decide,hT.2,rfl⟩
 ·obtain⟨u,hu,_,hlu,rfl⟩:=he
  refine Zdj (c1:=1) (c2:=38) (Q:=fun d=>d∈Zh3) ?_ (fun d hd=> ?_)
  ·have e6:(Ey Jt (mP (JX (Zb (fC .non) (Zb (fC (.int 5)) (Zb (fC (.bl true)) (Zb (QM Zm) (Zb (JX Zm) (Zb yw (Zb (QM (Zb (fC (.str "always")) Zm)) (Zb (JX (Zb (fC (.str "always")) Zm)) Zm)))))))))) (QS Qh (mP (Zb (fVar 1) (Zb (fC (.int 8)) Zm))))) (eL s p (some (.int k)) (some (cellsD cs)) (some (.lst (texts (cs.map (·.1))))) (some (QF f)) (some (.str u)) none none none none)=(Qh [.rf (.ref p), .int ((8:Nat):Int)]).bind fun y=>Dt.opt (Jt (.lst Zh3) y):=by
    generalize D.lst (texts (cs.map (·.1)))=N at*
    generalize cellsD cs=C at*
    generalize QF f=F at*
    have z8:8≤sizeLine:=sz _ (by omega)
    have z1:1≤sizeLine:=sz _ (by omega)
    have z0:0≤sizeLine:=Nat.zero_le _
    simp [Ey,QS,mP,eL,z8,z1]
   rw[e6]
   refine Ve (c1:=1) (c2:=0) (jF (by omega) (by omega)) (fun a ha=> ?_)
   obtain⟨j,rfl,hj⟩:=ha
   obtain⟨d,_,h2,h3⟩:=ZsJ (xs:=Zh3) hj
   exact Zhk h3 h2
  ·exact ZeJ (ZsT (Zqo d hd)) ⟨_, .inl rfl,rfl⟩
theorem ZsU{ns:List Int}(h63:ns.length≤63):Sp p 4000 (ZmH (eL (.U7 ns) p none none none none none none none none none)) (fun o=>o= .rt (.bl true)):=by
 obtain⟨m,hm,ZAo⟩: ∃m:Nat,m=3+(if 9<ns.length then 9 else ns.length)∧m≤12:=⟨_,rfl,by split<;>omega⟩
 have a1:(Zb (Zz Z9 (fC (.int 3)) (fB2 (g2I (fun i j=>if j<i then j else i)) (Qm YS (fVar 0)) (fC (.int 9)))) Zm) (eL (.U7 ns) p none none none none none none none none none)= .ok [.int (m:Nat)]:=by
  have hlen:YS (.U7 ns)=some (.int (ns.length:Nat)):=by simp [YS,TQ]
  have e:(3:Int)+(if(9:Int)<(ns.length:Int)then(9:Int)else(ns.length:Int))=(m:Int):=by
   rw[hm]
   by_cases h:9<ns.length
   ·rw[if_pos h,if_pos (by omega)];omega
   ·rw[if_neg h,if_neg (by omega)];omega
  have ga: ∀a b:Int,Z9 (.int a) (.int b)=some (.int (a+b)):=fun _ _=>rfl
  generalize ns.length=q at*
  simp [eL,hlen,g2I,ga,e]
 have hr:=congrArg Dt.of (Zfs a1 (ZpZ (v:=m) (by omega)))
 have hl:((List.range m).map fun k:Nat=>D.int k).length=m:=by simp
 have hloop:=Zoc (p:=p) (g:=Zv 2) (h0:=Sd) (W:=WL) (e:=eL (.U7 ns) p none none none none none none none none none) (c:=250) (ds:=(List.range m).map fun k:Nat=>D.int k) (fun d hd=>by
  obtain⟨k,_,rfl⟩:=List.mem_map.mp hd
  exact⟨eL (.U7 ns) p (some (.int k)) none none none none none none none none,rfl,Zon⟩)
 rw[hl]at hloop
 show Sp p 4000 (Je (Zbq (mP (Ag (Zb (Zz Z9 (fC (.int 3)) (fB2 (g2I (fun i j=>if j<i then j else i)) (Qm YS (fVar 0)) (fC (.int 9)))) Zm))) (Zv 2) Sd WL) (mS (Qg (fC (.bl true)))) (eL (.U7 ns) p none none none none none none none none none)) _
 refine Zdc (c1:=250*m) (c2:=0) (Q:=fun e1=>e1=eL (.U7 ns) p none none none none none none none none none) ?_ (fun e1 he=> ?_) (by omega)
 ·unfold Zbq
  refine(congrArg (fun t:Dt (List D)=>Sp p (250*m) (t.bind fun ds=>RJ (Zv 2) Sd WL ds (eL (.U7 ns) p none none none none none none none none none)) _) hr).mpr ?_
  refine xH (c1:=250*m) hloop (fun o ho=> ?_) (Nat.le_refl _)
  exact⟨_,ho,rfl⟩
 ·rw[he]
  exact ZeJ (o:= .rt (.bl true)) rfl rfl
end
theorem ZuS: ∀ds s R E,ds.length=1→ZeC ds s R E→ZqZ (Qx R E) (ZC Zid ds) s:=by
 rintro _ _ R E _ ⟨ns,rfl,hl,rfl,h⟩
 exact ZpP (M:=[]) (N:=Zid) Zst (by decide) (by decide) (fun p=>(ZsU (ns:=ns) (p:=p) hl).use (by decide) (fun a m q _=>q)) h
end Bk.Gk
namespace Bk.Gk
open PySem PySem.Spec PyProof.Rows L2
open Bk.Pa
open Bk.Qa
theorem Zgh:FnScope lY ["thing","least","most"] (defScope Tv):=⟨rfl,rfl,rfl,by decide+kernel,rfl,by decide+kernel,by decide+kernel⟩
theorem nO:FnScope gG ["thing"] (defScope RW):=⟨rfl,rfl,rfl,by decide+kernel,rfl,by decide+kernel,by decide+kernel⟩
theorem Zln:FnScope zV ["thing","most"] (defScope qm):=⟨rfl,rfl,rfl,by decide+kernel,rfl,by decide+kernel,by decide+kernel⟩
theorem eG:FnScope T6 ["cells"] (defScope Ht):=⟨rfl,rfl,rfl,by decide+kernel,rfl,by decide+kernel,by decide+kernel⟩
theorem Bj:FnScope Nh ["cells","thing"] (defScope U9):=⟨rfl,rfl,rfl,by decide+kernel,rfl,by decide+kernel,by decide+kernel⟩
theorem Hg:FnScope En ["cells","thing"] (defScope Xr):=⟨rfl,rfl,rfl,by decide+kernel,rfl,by decide+kernel,by decide+kernel⟩
theorem ZiZ:FnScope sY ["cells","thing"] (defScope fQ):=⟨rfl,rfl,rfl,by decide+kernel,rfl,by decide+kernel,by decide+kernel⟩
theorem VD:FnScope HS ["cells","thing"] (defScope Cv):=⟨rfl,rfl,rfl,by decide+kernel,rfl,by decide+kernel,by decide+kernel⟩
theorem V1:FnScope Ai ["terms"] (defScope Ms):=⟨rfl,rfl,rfl,by decide+kernel,rfl,by decide+kernel,by decide+kernel⟩
theorem Cp:FnScope Et ["case"] (defScope Xu):=⟨rfl,rfl,rfl,by decide+kernel,rfl,by decide+kernel,by decide+kernel⟩
theorem PN:FnScope CN ["formula"] (defScope Nb):=⟨rfl,rfl,rfl,by decide+kernel,rfl,by decide+kernel,by decide+kernel⟩
theorem Hi:FnScope Xz ["word"] (defScope Xv):=⟨rfl,rfl,rfl,by decide+kernel,rfl,by decide+kernel,by decide+kernel⟩
theorem Vs:FnScope mU ["text"] (defScope Tw):=⟨rfl,rfl,rfl,by decide+kernel,rfl,by decide+kernel,by decide+kernel⟩
theorem nQ:FnScope tU ["text"] (defScope fU):=⟨rfl,rfl,rfl,by decide+kernel,rfl,by decide+kernel,by decide+kernel⟩
theorem nR:FnScope iz ["text"] (defScope RX):=⟨rfl,rfl,rfl,by decide+kernel,rfl,by decide+kernel,by decide+kernel⟩
theorem Fp:FnScope M9 ["cells","text"] (defScope Ce):=⟨rfl,rfl,rfl,by decide+kernel,rfl,by decide+kernel,by decide+kernel⟩
theorem bD:FnScope Ii ["cells","text"] (defScope Cy):=⟨rfl,rfl,rfl,by decide+kernel,rfl,by decide+kernel,by decide+kernel⟩
theorem Ar:FnScope dF ["_law_script"] (defScope Xw):=⟨rfl,rfl,rfl,by decide+kernel,rfl,by decide+kernel,by decide+kernel⟩
theorem XD:FnScope Zao ["_law_m","_law_many"] (defScope Tz):=⟨rfl,rfl,rfl,by decide+kernel,rfl,by decide+kernel,by decide+kernel⟩
theorem Yi:FnScope Ei ["_law_m","_law_many"] (defScope Ox):=⟨rfl,rfl,rfl,by decide+kernel,rfl,by decide+kernel,by decide+kernel⟩
theorem Hj:FnScope dI ["_law_m"] (defScope Xx):=⟨rfl,rfl,rfl,by decide+kernel,rfl,by decide+kernel,by decide+kernel⟩
theorem Av:FnScope u5 ["_law_m","_law_names_here"] (defScope El):=⟨rfl,rfl,rfl,by decide+kernel,rfl,by decide+kernel,by decide+kernel⟩
theorem vJ:FnScope Zaq ["_law_m","_law_names_here"] (defScope TJ):=⟨rfl,rfl,rfl,by decide+kernel,rfl,by decide+kernel,by decide+kernel⟩
theorem Nt:FnScope EY ["_law_m","_law_names_here"] (defScope LC):=⟨rfl,rfl,rfl,by decide+kernel,rfl,by decide+kernel,by decide+kernel⟩
theorem yR:FnScope HX ["_law_thing","_law_least","_law_most"] (defScope Cz):=⟨rfl,rfl,rfl,by decide+kernel,rfl,by decide+kernel,by decide+kernel⟩
theorem Ij:FnScope Xn ["_law_thing"] (defScope LK):=⟨rfl,rfl,rfl,by decide+kernel,rfl,by decide+kernel,by decide+kernel⟩
theorem Bl:FnScope Nm ["_law_names_here","_law_thing"] (defScope Ge):=⟨rfl,rfl,rfl,by decide+kernel,rfl,by decide+kernel,by decide+kernel⟩
theorem N8:FnScope Oj ["_law_names_here","_law_thing"] (defScope Ba):=⟨rfl,rfl,rfl,by decide+kernel,rfl,by decide+kernel,by decide+kernel⟩
theorem Zbz:FnScope Fd ["_law_names_here","_law_thing"] (defScope Xm):=⟨rfl,rfl,rfl,by decide+kernel,rfl,by decide+kernel,by decide+kernel⟩
theorem Yg:FnScope Lq ["_law_names_here","_law_thing"] (defScope Gf):=⟨rfl,rfl,rfl,by decide+kernel,rfl,by decide+kernel,by decide+kernel⟩
theorem Y7:FnScope Xa ["_law_terms_here"] (defScope NQ):=⟨rfl,rfl,rfl,by decide+kernel,rfl,by decide+kernel,by decide+kernel⟩
theorem Yr:FnScope GX ["_law_formula_here"] (defScope Ub):=⟨rfl,rfl,rfl,by decide+kernel,rfl,by decide+kernel,by decide+kernel⟩
theorem La:FnScope Bh ["_law_word"] (defScope Bb):=⟨rfl,rfl,rfl,by decide+kernel,rfl,by decide+kernel,by decide+kernel⟩
theorem VF:FnScope Ig ["_law_text"] (defScope CG):=⟨rfl,rfl,rfl,by decide+kernel,rfl,by decide+kernel,by decide+kernel⟩
theorem Ys:FnScope Xd ["_law_names_here","_law_text"] (defScope NT):=⟨rfl,rfl,rfl,by decide+kernel,rfl,by decide+kernel,by decide+kernel⟩
theorem rN:FnScope dY ["_law_e"] (defScope Em):=⟨rfl,rfl,rfl,by decide+kernel,rfl,by decide+kernel,by decide+kernel⟩
theorem BR:FnScope Vw ["_law_call"] (defScope Gu):=⟨rfl,rfl,rfl,by decide+kernel,rfl,by decide+kernel,by decide+kernel⟩
theorem Vo:FnScope Px ["_law_m","_law_names_here","_law_text"] (defScope Oe):=⟨rfl,rfl,rfl,by decide+kernel,rfl,by decide+kernel,by decide+kernel⟩
theorem Vp:FnScope CZ ["_law_cells_here","_law_names_here"] (defScope Jw):=⟨rfl,rfl,rfl,by decide+kernel,rfl,by decide+kernel,by decide+kernel⟩
theorem Cq:FnScope Zid ["_law_script"] (defScope Rz):=⟨rfl,rfl,rfl,by decide+kernel,rfl,by decide+kernel,by decide+kernel⟩
theorem Zcl:ZhV (defArgs Uo) (defBody Uo) (defScope Uo) "place" "place" :=⟨⟨_,_,_,_,_,_,_,_,_,_,_,_,rfl,fun _ _ _ _ _=>⟨_,rfl,rfl,rfl,rfl⟩⟩,⟨_,rfl,rfl⟩,fun _ _ _ _ _ _ _ _ _ _=>rfl,rfl,rfl,rfl,rfl,by decide,by decide,by decide+kernel,rfl,rfl,rfl⟩
theorem Zi0:ZhV (defArgs Og) (defBody Og) (defScope Og) "line" "line" :=⟨⟨_,_,_,_,_,_,_,_,_,_,_,_,rfl,fun _ _ _ _ _=>⟨_,rfl,rfl,rfl,rfl⟩⟩,⟨_,rfl,rfl⟩,fun _ _ _ _ _ _ _ _ _ _=>rfl,rfl,rfl,rfl,rfl,by decide,by decide,by decide+kernel,rfl,rfl,rfl⟩
structure Txt(P:Program)(w:World)(K:PySem.W.Frag)(mg:Str→Option Value)(base:Heap)(T:Tb) where
 nU:PD K mg "is_among" Tv ["thing","least","most"]
 uo:PD K mg "is_name" RW ["thing"]
 Zai:PD K mg "is_row" qm ["thing","most"]
 nW:PD K mg "names_of" Ht ["cells"]
 Ik:PD K mg "are_in_order" U9 ["cells","thing"]
 eO:PD K mg "are_terms" Xr ["cells","thing"]
 uw:PD K mg "is_test" fQ ["cells","thing"]
 Il:PD K mg "need_formula" Cv ["cells","thing"]
 Ax:PD K mg "terms_text" Ms ["terms"]
 eU:PD K mg "case_text" Xu ["case"]
 Im:PD K mg "formula_text" Nb ["formula"]
 eV:PD K mg "number_in" Xv ["word"]
 nY:PD K mg "terms_in" Tw ["text"]
 ux:PD K mg "test_in" fU ["text"]
 uz:PD K mg "case_in" RX ["text"]
 Ay:PD K mg "formula_in" Ce ["cells","text"]
 Io:PD K mg "read_formula" Cy ["cells","text"]
 eY:PD K mg "_law_begun" Xw ["_law_script"]
 nZ:PD K mg "_law_next" Tz ["_law_m","_law_many"]
 fj:PD K mg "_law_names" Ox ["_law_m","_law_many"]
 fu:PD K mg "_law_cells" Xx ["_law_m"]
 fB:PD K mg "_law_terms" El ["_law_m","_law_names_here"]
 oh:PD K mg "_law_test" TJ ["_law_m","_law_names_here"]
 Fq:PD K mg "_law_formula" LC ["_law_m","_law_names_here"]
 Ip:PD K mg "_law_is_whole" Cz ["_law_thing","_law_least","_law_most"]
 Ft:PD K mg "_law_is_name" LK ["_law_thing"]
 Ir:PD K mg "_law_in_order" Ge ["_law_names_here","_law_thing"]
 P0:PD K mg "_law_are_terms" Ba ["_law_names_here","_law_thing"]
 Fv:PD K mg "_law_is_test" Xm ["_law_names_here","_law_thing"]
 Lz:PD K mg "_law_formula_fault" Gf ["_law_names_here","_law_thing"]
 Xg:PD K mg "_law_terms_text" NQ ["_law_terms_here"]
 Dg:PD K mg "_law_formula_text" Ub ["_law_formula_here"]
 Ma:PD K mg "_law_number_in" Bb ["_law_word"]
 Iu:PD K mg "_law_terms_in" CG ["_law_text"]
 Xi:PD K mg "_law_formula_in" NT ["_law_names_here","_law_text"]
 O7:PD K mg "_law_kinds" Em ["_law_e"]
 Vj:PD K mg "_law_told" Gu ["_law_call"]
 Mf:PD K mg "_law_bent_text" Oe ["_law_m","_law_names_here","_law_text"]
 Jx:Addr
 Wc:FuncData
 Y8:Addr
 QW:Addr
 Uv:ZhW K "_law_known_right" "_law_known_right" Jw Jx Wc Y8
 su:mg "_law_known_right" =some (.ref Jx)
 Wf:Binds K Wc ["_law_cells_here","_law_names_here"] []
 pO:LamX.TabB base mg Y8 QW
 pP:(QW,qj "_law_known_right")∈T.tabs
 Dh: ∀p∈T.tabs,p.1=QW→p.2=qj "_law_known_right"
 Zl0:Addr
 Zl1:FuncData
 wL:Addr
 Ed:Addr
 Zij:ZhW K "law" "law" Rz Zl0 Zl1 wL
 Zzh:mg "law" =some (.ref Zl0)
 Zq7:Binds K Zl1 ["_law_script"] []
 ZmW:LamX.TabB base mg wL Ed
 tm_law:(Ed,qj "law")∈T.tabs
 ZdQ: ∀p∈T.tabs,p.1=Ed→p.2=qj "law"
 Zik:mg "abs" =none
 Zl2:mg "all" =none
 ZmX:mg "bool" =none
 O8:mg "enumerate" =none
 RK:mg "int" =none
 Qe:mg "isinstance" =none
 UW:mg "len" =none
 Zhv:mg "list" =none
 ZuT:mg "min" =none
 SN:mg "range" =none
 Sy:mg "repr" =none
 rO:mg "str" =none
 Vq:mg "tuple" =none
 sm: ∃mm,base.Ns sysModules mm
 ea:Zbe K T kn ms fs
 Zgi:mg "BadCells" =some (.ref (T.cls "BadCells"))
 kJ:mg "BadFormula" =some (.ref (T.cls "BadFormula"))
 Zi1:mg "BadNode" =some (.ref (T.cls "BadNode"))
 ZeL:mg "BadNumber" =some (.ref (T.cls "BadNumber"))
 Zgj:mg "BadPaper" =some (.ref (T.cls "BadPaper"))
 Zcm:mg "BadProgram" =some (.ref (T.cls "BadProgram"))
 ZbA:mg "BadStanding" =some (.ref (T.cls "BadStanding"))
 Zi2:mg "BadText" =some (.ref (T.cls "BadText"))
 Zcn:mg "BadWeaving" =some (.ref (T.cls "BadWeaving"))
 ZeM:mg "KeptError" =some (.ref (T.cls "KeptError"))
 ZaT:mg "Missing" =some (.ref (T.cls "Missing"))
 ZaU:mg "TooMany" =some (.ref (T.cls "TooMany"))
 Zoo:mg "Twice" =some (.ref (T.cls "Twice"))
 Fw:Zox P K mg T "BadFormula" "place"
 Zi3:Zox P K mg T "BadText" "line"
 Zlo: ∃t,mg "FIGURES" =some (.str "0123456789" t)
 Zlp: ∃t,mg "LETTERS" =some (.str "abcdefghijklmnopqrstuvwxyz" t)
 ZeN: ∃t,mg "MOST_CASES" =some (.int 4 t)
 rP: ∃t,mg "MOST_CELLS" =some (.int 4 t)
 kW: ∃t,mg "MOST_FACTOR" =some (.int 9 t)
 ZbB: ∃t,mg "MOST_FIGURES" =some (.int 2 t)
 kY: ∃t,mg "MOST_NUMBER" =some (.int 99 t)
 ZeO: ∃t,mg "MOST_TESTS" =some (.int 4 t)
 Zq8: ∃u,mg "OPS" =some u∧gB K (.tup [(.str "="),(.str "!="),(.str "<"),(.str "<="),(.str ">"),(.str ">=")]) u=true
section
variable{P:Program}{w:World}{K:PySem.W.Frag}{mg:Str→Option Value}{base:Heap}{T:Tb}
theorem ZaV(t:Txt P w K mg base T):GFn P w K mg base 1 t.nU.f t.nU.d ["thing","least","most"] (Bs K T 3 T5):=gfn_of (t:=ZaA) t.nU.F Zgh (fun cdv A outer s H E B=>
 (Zr (ZW (Ka (ZQ G7 (by rfl) t.Qe Z5 (Za (dv 0) (Za (G8 (by rfl) t.RK WK) Zg))) (Ka (Zl3 (ZQ G7 (by rfl) t.Qe Z5 (Za (dv 0) (Za (G8 (by rfl) t.ZmX ZjE) Zg)))) (qL (zG Ae Ae (dv 1) (dv 0) (dv 2)))))))) ZiA
theorem ZdR(t:Txt P w K mg base T):GFn P w K mg base 1 t.uo.f t.uo.d ["thing"] (Bs K T 1 gH):=gfn_of (t:=ZcZ) t.uo.F nO (fun cdv A outer s H E B=>
 (Zr (ZW (Ka (ZQ G7 (by rfl) t.Qe Z5 (Za (dv 0) (Za (G8 (by rfl) t.rO aJ) Zg))) (Ka (zG Ae Ae Zi (ZQ Vk (by rfl) t.UW Vm (Za (dv 0) Zg)) Zi) (qL (ZQ (ZgX rfl) (by rfl) t.Zl2 Zg3 (Za (G6 rfl nO.nd (YK (dv 0)) (YW (N:=gG) (sc:=defScope RW) (own:=[("letter",1)]) (by decide+kernel)) rfl (fun _ _ _ _ _=>(Jq (i:=1) (by decide) nO.nd rfl (.inl rfl))) (fun _ _ _ _ _=>Us) (fun _ _ _ _ _=>(IW (wz B.u65) (dv 1) (ZjG (by rfl) t.Zlp)))) Zg)))))))) ZkT
theorem RL(t:Txt P w K mg base T):GFn P w K mg base 1 t.Zai.f t.Zai.d ["thing","most"] (Bs K T 2 WY):=gfn_of (t:=Zfk) t.Zai.F Zln (fun cdv A outer s H E B=>
 (Zr (ZW (Ka (ZQ G7 (by rfl) t.Qe Z5 (Za (dv 0) (Za (G8 (by rfl) t.Vq Yv) Zg))) (qL (IW Ae (ZQ Vk (by rfl) t.UW Vm (Za (dv 0) Zg)) (dv 1))))))) ZnC
theorem Zi4(t:Txt P w K mg base T):GFn P w K mg base 1 t.nW.f t.nW.d ["cells"] (Bs K T 1 mj):=gfn_of (t:=ZaB) t.nW.F eG (fun cdv A outer s H E B=>
 (Zr (ZW (G6 rfl eG.nd (YK (dv 0)) (YW (N:=T6) (sc:=defScope Ht) (own:=[("cell",1)]) (by decide+kernel)) rfl (fun _ _ _ _ _=>(Jq (i:=1) (by decide) eG.nd rfl (.inl rfl))) (fun _ _ _ _ _=>Us) (fun _ _ _ _ _=>(Q5 Z7 (dv 1) Zi (fun _ _=>rfl))))))) ZiB
theorem ZeP(t:Txt P w K mg base T):GFn P w K mg base 1 t.Ax.f t.Ax.d ["terms"] (Bs K T 1 Aj):=gfn_of (t:=rC) t.Ax.F V1 (fun cdv A outer s H E B=>
 (Zj (Qt (i:=1) V1.nd rfl (.inl rfl) Zt)
 (Zj (U3 B.own rfl (YK (dv 0)) (Wy rfl (Jl (QZ (i:=2) V1.nd rfl (.inl rfl)) (Jl (QZ (i:=3) V1.nd rfl (.inl rfl)) Bv))) (Zj (Qt (i:=4) V1.nd rfl (.inl rfl) (V5 (ZM (Vz B.u64) (ZQ Zdn (by rfl) t.Zik ZcK (Za (dv 2) Zg)) Zi) Zt (Zdm (.cons (Zdl (ZQ Zdn (by rfl) t.Zik ZcK (Za (dv 2) Zg))) (.cons Zt .nil)))))
 (Zj (Qt (i:=5) V1.nd rfl (.inl rfl) (V5 (ZM K9 (dv 2) Zi) Zt Zt))
 (Zj (QK (ZM (XH B.u64) (dv 1) Zt) (Zr (Qt (i:=5) V1.nd rfl (.inl rfl) (V5 (ZM K9 (dv 2) Zi) Zt Zt))) Z4)
 (Zr (Qt (i:=1) V1.nd rfl (.inl rfl) (Z0 Qy (Z0 Qy (Z0 Qy (dv 1) (dv 5)) (dv 4)) (dv 3))))))))
 (Zr (ZW (V5 (ZM (XH B.u64) (dv 1) Zt) (dv 1) Zt)))))) ZeD
theorem vK(t:Txt P w K mg base T):GFn P w K mg base 1 t.eV.f t.eV.d ["word"] (Bs K T 1 Es):=gfn_of (t:=vq) t.eV.F Hi (fun cdv A outer s H E B=>
 (Zj (Qt (i:=1) Hi.nd rfl (.inl rfl) (V5 (Jf (Zdk (dv 0) Zt)) (Jb (dv 0) (Q8 Zi) Q7) (dv 0)))
 (Zj (QK (DW.dt (V4 (Yz (zH Ae Ae Zi (ZQ Vk (by rfl) t.UW Vm (Za (dv 1) Zg)) (X5 (by rfl) t.ZbB))) (VR (Yz (Jf (ZQ (ZgX rfl) (by rfl) t.Zl2 Zg3 (Za (G6 rfl Hi.nd (YK (dv 1)) (YW (N:=Xz) (sc:=defScope Xv) (own:=[("sign",2)]) (by decide+kernel)) rfl (fun _ _ _ _ _=>(Jq (i:=2) (by decide) Hi.nd rfl (.inl rfl))) (fun _ _ _ _ _=>Us) (fun _ _ _ _ _=>(IW (wz B.u65) (dv 2) (ZjG (by rfl) t.Zlo)))) Zg))))))) (Zr (ZW J5)) Z4)
 (Zj (QK (DW.dt (ZcD (ZM (Vz B.u64) (Q5 Z7 (dv 1) Zi (fun _ _=>rfl)) Zt) (wO (ZM (XH B.u64) (dv 0) Zt)))) (Zr (ZW J5)) Z4)
 (Zr (ZW (QV Zj6 (by rfl) t.RK WK (Za (dv 0) Zg)))))))) Zf9
theorem Zgk(t:Txt P w K mg base T):GFn P w K mg base 1 t.eY.f t.eY.d ["_law_script"] (Bs K T 1 Ef):=gfn_of (t:=uX) t.eY.F Ar (fun cdv A outer s H E B=>
 (Zr (ZW (Znj (n:=1125899906842624) (Zng (.cons Zt (QV ZdZ (by rfl) t.Zhv Zd2 (Za (dv 0) Zg)) (.cons Zt (Zpq rfl Ar.nd (YK (dv 0)) (YW (N:=dF) (sc:=defScope Xw) (own:=[("_law_cell",1)]) (by decide+kernel)) rfl (fun _ _ _ _ _=>(Jq (i:=1) (by decide) Ar.nd rfl (.inl rfl))) (fun _ _ _ _ _=>(cI (ZM Zui (dv 1) (Z0 ZrC Zi Zi)))) (fun _ _ _ _ _=>(dv 1))) (.cons Zt Zi .nil)))))))) ZfS
theorem Jc(t:Txt P w K mg base T):GFn P w K mg base 1 t.nZ.f t.nZ.d ["_law_m","_law_many"] (Bs K T 2 Qz):=gfn_of (t:=Zap) t.nZ.F XD (fun cdv A outer s H E B=>
 (Zni (i:=0) (Zj (zF B.own (DW.dt (ZcD (ZM (Zl9 B.u64) (aH B.u1 (dv 0) Zt (fun _ _=>rfl)) (JV Zg)) (wO (ZM (Vz B.u64) (Q5 Z7 (aH B.u1 (dv 0) Zt (fun _ _=>rfl)) Zi (fun _ _=>rfl)) Zi)))) (Zr (Zl7 B.u1 (dv 0) Zt (Zky (aH B.u1 (dv 0) Zt (fun _ _=>rfl)) (Q8 Zi) Q7))))
 (Zj (QK (ZM (Zl9 B.u64) (aH B.u1 (dv 0) Zt (fun _ _=>rfl)) (JV Zg)) (Zj (Qt (i:=2) XD.nd rfl (.inl rfl) (Q5 Z7 (aH B.u1 (dv 0) Zt (fun _ _=>rfl)) Zi (fun _ _=>rfl)))
 (Zj (Znf (aH B.u1 (dv 0) Zt (fun _ _=>rfl)) Zi (Z0 ZgW (dv 2) (dv 1)))
 (Zr (ZW (ZjB (i:=0) (Z0 qO (QV aG (by rfl) t.RK WK (Za (dv 2) Zg)) (dv 1))))))) Z4)
 (Zj (qN (i:=3) (j:=4) rfl XD.nd rfl rfl (by decide) rfl rfl (Za (Z0 Qy (aH B.u1 (dv 0) Zt (fun _ _=>rfl)) Zi) (Za (aH B.u1 (dv 0) Zt (fun _ _=>rfl)) Zg)) (by rfl))
 (Zj (Zl7 B.u1 (dv 0) Zt (dv 3))
 (Zj (Qt (i:=5) XD.nd rfl (.inl rfl) (V5 (ZM (XH B.u64) (dv 4) (JV Zg)) (QV aG (by rfl) t.RK WK (Za (Q5 Z7 (dv 4) (Z0 qO (QV aG (by rfl) t.RK WK (Za (Z0 Qy (Z0 RP (dv 3) (dv 3)) (Z0 ZgW (dv 3) Zi)) Zg)) (ZQ Vk (by rfl) t.UW Vm (Za (dv 4) Zg))) (fun _ _=>rfl)) Zg)) Zi))
 (Zj (Qt (i:=6) XD.nd rfl (.inl rfl) (Z0 qO (QV aG (by rfl) t.RK WK (Za (Z0 Qy (Z0 Qy (Z0 RP (dv 5) Zi) (Z0 RP (dv 3) Zi)) (Z0 RP (Z0 RP Zi (dv 3)) (dv 3))) Zg)) Zi))
 (Zr (ZW (ZjB (i:=0) (Z0 qO (QV aG (by rfl) t.RK WK (Za (Z0 ZgW (Z0 qO (QV aG (by rfl) t.RK WK (Za (Z0 Qy (Z0 RP (dv 6) Zi) (Z0 RP Zi (dv 3))) Zg)) Zi) Zi) Zg)) (dv 1))))))))))))) Zio
theorem iK(t:Txt P w K mg base T):GFn P w K mg base 1 t.Ip.f t.Ip.d ["_law_thing","_law_least","_law_most"] (Bs K T 3 CJ):=gfn_of (t:=gM) t.Ip.F yR (fun cdv A outer s H E B=>
 (Zr (ZW (Ka (ZQ G7 (by rfl) t.Qe Z5 (Za (dv 0) (Za (G8 (by rfl) t.RK WK) Zg))) (Ka (Zl3 (ZQ G7 (by rfl) t.Qe Z5 (Za (dv 0) (Za (G8 (by rfl) t.ZmX ZjE) Zg)))) (qL (zG Ae Ae (dv 1) (dv 0) (dv 2)))))))) Zbm
theorem Zco(t:Txt P w K mg base T):GFn P w K mg base 1 t.Ft.f t.Ft.d ["_law_thing"] (Bs K T 1 Fb):=gfn_of (t:=j8) t.Ft.F Ij (fun cdv A outer s H E B=>
 (Zj (QK (DW.dt (V4 (Yz (Jf (ZQ G7 (by rfl) t.Qe Z5 (Za (dv 0) (Za (G8 (by rfl) t.rO aJ) Zg))))) (VR (Yz (zH Ae Ae Zi (ZQ Vk (by rfl) t.UW Vm (Za (dv 0) Zg)) Zi))))) (Zr (ZW Ov)) Z4)
 (Zr (ZW (IW (Vz B.u64) (G6 rfl Ij.nd (YK (dv 0)) (YW (N:=Xn) (sc:=defScope LK) (own:=[("_law_sign",1)]) (by decide+kernel)) rfl (fun _ _ _ _ _=>(Jq (i:=1) (by decide) Ij.nd rfl (.inl rfl))) (fun _ _ _ _ _=>(cI (ZM (Rv B.u65) (dv 1) Zt))) (fun _ _ _ _ _=>(dv 1))) (JV Zg)))))) Zcg
theorem ZbC(t:Txt P w K mg base T):GFn P w K mg base 1 t.Ir.f t.Ir.d ["_law_names_here","_law_thing"] (Bs K T 2 Ib):=gfn_of (t:=gQ) t.Ir.F Bl (fun cdv A outer s H E B=>
 (Zj (QK (DW.dt (V4 (Yz (Jf (ZQ G7 (by rfl) t.Qe Z5 (Za (dv 1) (Za (G8 (by rfl) t.Vq Yv) Zg))))) (VR (ZM (yt B.u64) (G6 rfl Bl.nd (YK (dv 1)) (YW (N:=Nm) (sc:=defScope Ge) (own:=[("_law_one",2)]) (by decide+kernel)) rfl (fun _ _ _ _ _=>(Jq (i:=2) (by decide) Bl.nd rfl (.inl rfl))) (fun _ _ _ _ _=>(cI (Yz (Jf (ZQ G7 (by rfl) t.Qe Z5 (Za (dv 2) (Za (G8 (by rfl) t.rO aJ) Zg))))))) (fun _ _ _ _ _=>(dv 2))) (JV Zg))))) (Zr (ZW Ov)) Z4)
 (Zr (ZW (IW (Vz B.u64) (G6 rfl Bl.nd (YK (dv 0)) (YW (N:=Nm) (sc:=defScope Ge) (own:=[("_law_name",3)]) (by decide+kernel)) rfl (fun _ _ _ _ _=>(Jq (i:=3) (by decide) Bl.nd rfl (.inl rfl))) (fun _ _ _ _ _=>(cI (ZM (wz B.u65) (dv 3) (dv 1)))) (fun _ _ _ _ _=>(dv 3))) (QV ZdZ (by rfl) t.Zhv Zd2 (Za (dv 1) Zg))))))) Zbn
theorem uL(t:Txt P w K mg base T):GFn P w K mg base 1 t.Xg.f t.Xg.d ["_law_terms_here"] (Bs K T 1 Xb):=gfn_of (t:=S9) t.Xg.F Y7 (fun cdv A outer s H E B=>
 (Zj (Qt (i:=1) Y7.nd rfl (.inl rfl) Zt)
 (Zj (U3 B.own rfl (YK (dv 0)) (Wy rfl (Jl (QZ (i:=2) Y7.nd rfl (.inl rfl)) (Jl (QZ (i:=3) Y7.nd rfl (.inl rfl)) Bv))) (Zj (Qt (i:=4) Y7.nd rfl (.inl rfl) (V5 (ZM (Vz B.u64) (ZQ Zdn (by rfl) t.Zik ZcK (Za (dv 2) Zg)) Zi) (dv 3) (Z0 Qy (Z0 Qy (QV Zj7 (by rfl) t.rO aJ (Za (ZQ Zdn (by rfl) t.Zik ZcK (Za (dv 2) Zg)) Zg)) Zt) (dv 3))))
 (Zr (QK (ZM (Vz B.u64) (dv 1) Zt) (Zr (Qt (i:=1) Y7.nd rfl (.inl rfl) (V5 (ZM K9 (dv 2) Zi) (Z0 Qy Zt (dv 4)) (dv 4)))) (Zr (Qt (i:=1) Y7.nd rfl (.inl rfl) (Z0 Qy (Z0 Qy (dv 1) (V5 (ZM K9 (dv 2) Zi) Zt Zt)) (dv 4))))))))
 (Zr (ZW (V5 (ZM (XH B.u64) (dv 1) Zt) (dv 1) Zt)))))) uI
theorem bF(t:Txt P w K mg base T):GFn P w K mg base 1 t.Ma.f t.Ma.d ["_law_word"] (Bs K T 1 Oq):=gfn_of (t:=aW) t.Ma.F La (fun cdv A outer s H E B=>
 (Zj (Qt (i:=1) La.nd rfl (.inl rfl) (V5 (ZM (Vz B.u64) (Jb (dv 0) Q7 (Q8 Zi)) Zt) (Jb (dv 0) (Q8 Zi) Q7) (dv 0)))
 (Zj (QK (DW.dt (V4 (Yz (zH K9 K9 Zi (ZQ Vk (by rfl) t.UW Vm (Za (dv 1) Zg)) Zi)) (VR (ZM (yt B.u64) (G6 rfl La.nd (YK (dv 1)) (YW (N:=Bh) (sc:=defScope Bb) (own:=[("_law_sign",2)]) (by decide+kernel)) rfl (fun _ _ _ _ _=>(Jq (i:=2) (by decide) La.nd rfl (.inl rfl))) (fun _ _ _ _ _=>(cI (ZM (Rv B.u65) (dv 2) Zt))) (fun _ _ _ _ _=>(dv 2))) (JV Zg))))) (Zr (ZW J5)) Z4)
 (Zr (ZW (V5 (DW.dt (ZcD (ZM (Vz B.u64) (Q5 Z7 (dv 1) Zi (fun _ _=>rfl)) Zt) (wO (ZM (XH B.u64) (dv 0) Zt)))) J5 (QV Zj6 (by rfl) t.RK WK (Za (dv 0) Zg)))))))) yO
theorem Zgl(t:Txt P w K mg base T):GFn P w K mg base 1 t.O7.f t.O7.d ["_law_e"] (Bs K T 1 dZ):=gfn_of (t:=vC) t.O7.F rN (fun cdv A outer s H E B=>
 (Zj (Qt (i:=1) rN.nd rfl (.inl rfl) (Kd Zg))
 (Zj (QK (Jf (WM t.ea (by decide) (by rfl) t.Qe Z5 (by rfl) t.Zgi (dv 0))) (Zr (U4 (dv 1) (Qo (Za Zt (Za (Lg t.ea (by decide) (dv 0)) Zg))) (fun ho ha=>pe_bm PySem.F.plainAttrs_list PySem.F.slot_list_append PySem.F.type_list_append mt_append ho ha))) Z4)
 (Zj (QK (Jf (WM t.ea (by decide) (by rfl) t.Qe Z5 (by rfl) t.kJ (dv 0))) (Zr (U4 (dv 1) (Qo (Za Zt (Za (Lg t.ea (by decide) (dv 0)) Zg))) (fun ho ha=>pe_bm PySem.F.plainAttrs_list PySem.F.slot_list_append PySem.F.type_list_append mt_append ho ha))) Z4)
 (Zj (QK (Jf (WM t.ea (by decide) (by rfl) t.Qe Z5 (by rfl) t.Zcm (dv 0))) (Zr (U4 (dv 1) (Qo (Za Zt (Za (Lg t.ea (by decide) (dv 0)) Zg))) (fun ho ha=>pe_bm PySem.F.plainAttrs_list PySem.F.slot_list_append PySem.F.type_list_append mt_append ho ha))) Z4)
 (Zj (QK (Jf (WM t.ea (by decide) (by rfl) t.Qe Z5 (by rfl) t.Zoo (dv 0))) (Zr (U4 (dv 1) (Qo (Za Zt (Za (Lg t.ea (by decide) (dv 0)) Zg))) (fun ho ha=>pe_bm PySem.F.plainAttrs_list PySem.F.slot_list_append PySem.F.type_list_append mt_append ho ha))) Z4)
 (Zj (QK (Jf (WM t.ea (by decide) (by rfl) t.Qe Z5 (by rfl) t.ZbA (dv 0))) (Zr (U4 (dv 1) (Qo (Za Zt (Za (ZQ (Dz t.sm B.grd B.u66) (by rfl) t.Sy X3 (Za (Lg t.ea (by decide) (dv 0)) Zg)) Zg))) (fun ho ha=>pe_bm PySem.F.plainAttrs_list PySem.F.slot_list_append PySem.F.type_list_append mt_append ho ha))) Z4)
 (Zj (QK (Jf (WM t.ea (by decide) (by rfl) t.Qe Z5 (by rfl) t.Zcn (dv 0))) (Zr (U4 (dv 1) (Qo (Za Zt (Za (Lg t.ea (by decide) (dv 0)) Zg))) (fun ho ha=>pe_bm PySem.F.plainAttrs_list PySem.F.slot_list_append PySem.F.type_list_append mt_append ho ha))) Z4)
 (Zj (QK (Jf (WM t.ea (by decide) (by rfl) t.Qe Z5 (by rfl) t.Zi1 (dv 0))) (Zr (U4 (dv 1) (Qo (Za Zt (Za (Lg t.ea (by decide) (dv 0)) Zg))) (fun ho ha=>pe_bm PySem.F.plainAttrs_list PySem.F.slot_list_append PySem.F.type_list_append mt_append ho ha))) Z4)
 (Zj (QK (Jf (WM t.ea (by decide) (by rfl) t.Qe Z5 (by rfl) t.Zgj (dv 0))) (Zr (U4 (dv 1) (Qo (Za Zt (Za (Lg t.ea (by decide) (dv 0)) Zg))) (fun ho ha=>pe_bm PySem.F.plainAttrs_list PySem.F.slot_list_append PySem.F.type_list_append mt_append ho ha))) Z4)
 (Zj (QK (Jf (WM t.ea (by decide) (by rfl) t.Qe Z5 (by rfl) t.Zi2 (dv 0))) (Zr (U4 (dv 1) (Qo (Za Zt (Za (Lg t.ea (by decide) (dv 0)) Zg))) (fun ho ha=>pe_bm PySem.F.plainAttrs_list PySem.F.slot_list_append PySem.F.type_list_append mt_append ho ha))) Z4)
 (Zj (QK (Jf (WM t.ea (by decide) (by rfl) t.Qe Z5 (by rfl) t.ZeL (dv 0))) (Zr (U4 (dv 1) (Qo (Za Zt (Za (ZQ (Dz t.sm B.grd B.u66) (by rfl) t.Sy X3 (Za (Lg t.ea (by decide) (dv 0)) Zg)) Zg))) (fun ho ha=>pe_bm PySem.F.plainAttrs_list PySem.F.slot_list_append PySem.F.type_list_append mt_append ho ha))) Z4)
 (Zj (QK (Jf (WM t.ea (by decide) (by rfl) t.Qe Z5 (by rfl) t.ZaT (dv 0))) (Zr (U4 (dv 1) (Qo (Za Zt (Za (ZQ (Dz t.sm B.grd B.u66) (by rfl) t.Sy X3 (Za (Lg t.ea (by decide) (dv 0)) Zg)) Zg))) (fun ho ha=>pe_bm PySem.F.plainAttrs_list PySem.F.slot_list_append PySem.F.type_list_append mt_append ho ha))) Z4)
 (Zj (QK (Jf (WM t.ea (by decide) (by rfl) t.Qe Z5 (by rfl) t.ZaU (dv 0))) (Zr (U4 (dv 1) (Qo (Za Zt (Za (Lg t.ea (by decide) (dv 0)) Zg))) (fun ho ha=>pe_bm PySem.F.plainAttrs_list PySem.F.slot_list_append PySem.F.type_list_append mt_append ho ha))) Z4)
 (Zr (ZW (V5 (ZM (Vz B.u64) (ZQ Vk (by rfl) t.UW Vm (Za (dv 1) Zg)) Zi) (Q5 Z7 (dv 1) Zi (fun _ _=>rfl)) (Qo (Za Zt (Za (ZQ Vk (by rfl) t.UW Vm (Za (dv 1) Zg)) Zg)))))))))))))))))))) Zga
theorem ZbD(t:Txt P w K mg base T):GFn P w K mg base 2 t.Ik.f t.Ik.d ["cells","thing"] (Bs K T 2 HJ):=gfn_of (t:=gJ) t.Ik.F Bj (fun cdv A outer s H E B=>
 (Zj (QK (DW.dt (V4 (Yz (Jf (ZJ B (RL t) (Za (dv 1) (Za (X5 (by rfl) t.rP) Zg))))) (VR (Yz (Jf (ZQ (ZgX rfl) (by rfl) t.Zl2 Zg3 (Za (G6 rfl Bj.nd (YK (dv 1)) (YW (N:=Nh) (sc:=defScope U9) (own:=[("name",2)]) (by decide+kernel)) rfl (fun _ _ _ _ _=>(Jq (i:=2) (by decide) Bj.nd rfl (.inl rfl))) (fun _ _ _ _ _=>Us) (fun _ _ _ _ _=>(W6 B.room B.grd aF (ZdR t) (Za (dv 2) Zg)))) Zg))))))) (Zr (ZW Ov)) Z4)
 (Zr (ZW (IW (Vz B.u64) (G6 rfl Bj.nd (YK (ZJ B (Zi4 t) (Za (dv 0) Zg))) (YW (N:=Nh) (sc:=defScope U9) (own:=[("name",2)]) (by decide+kernel)) rfl (fun _ _ _ _ _=>(Jq (i:=2) (by decide) Bj.nd rfl (.inl rfl))) (fun _ _ _ _ _=>(cI (ZM (wz B.u65) (dv 2) (dv 1)))) (fun _ _ _ _ _=>(dv 2))) (QV ZdZ (by rfl) t.Zhv Zd2 (Za (dv 1) Zg))))))) Zbj
theorem Zgm(t:Txt P w K mg base T):GFn P w K mg base 2 t.eU.f t.eU.d ["case"] (Bs K T 1 d7):=gfn_of (t:=vD) t.eU.F Cp (fun cdv A outer s H E B=>
 (Zj (QK (ZM (Zr4 B.u64) (dv 0) (Qo Zg)) (Zr (ZW Zt)) Z4)
 (Zr (ZW (Wg Zt (G6 rfl Cp.nd (YK (dv 0)) (YW (N:=Et) (sc:=defScope Xu) (own:=[("terms",1),("op",2),("number",3)]) (by decide+kernel)) rfl (fun _ _ _ _ _=>(Zju rfl (Mi (Jq (i:=1) (by decide) Cp.nd rfl (.inl rfl)) (Mi (Jq (i:=2) (by decide) Cp.nd rfl (.inl rfl)) (Mi (Jq (i:=3) (by decide) Cp.nd rfl (.inl rfl)) Zfc))))) (fun _ _ _ _ _=>Us) (fun _ _ _ _ _=>(Zdm (.cons (Zdl (W6 B.room B.grd aF (ZeP t) (Za (dv 1) Zg))) (.cons Zt (.cons (Zdl (dv 2)) (.cons Zt (.cons (Zdl (dv 3)) .nil))))))))))))) Zgb
theorem Zi5(t:Txt P w K mg base T):GFn P w K mg base 2 t.nY.f t.nY.d ["text"] (Bs K T 1 mV):=gfn_of (t:=ZaL) t.nY.F Vs (fun cdv A outer s H E B=>
 (Zj (QK (ZM (Vz B.u64) (dv 0) Zt) (Zr (ZW (Qo Zg))) Z4)
 (Zj (Qt (i:=1) Vs.nd rfl (.inl rfl) (DK (dv 0) Zt))
 (Zj (QK (Jf (Zdk (Q5 Z7 (dv 1) Zi (fun _ _=>rfl)) Zt)) (Zr (Qt (i:=1) Vs.nd rfl (.inl rfl) (JV (Za Zt (Za (Jb (Q5 Z7 (dv 1) Zi (fun _ _=>rfl)) (Q8 Zi) Q7) (ZjX (Jb (dv 1) (Q8 Zi) Q7) Zg)))))) (Zr (Qt (i:=1) Vs.nd rfl (.inl rfl) (JV (Za Zt (ZjX (dv 1) Zg))))))
 (Zj (Qt (i:=2) Vs.nd rfl (.inl rfl) (Kd Zg))
 (Zj (zF B.own (ZM (XH B.u64) (dv 1) (JV Zg)) (Zj (yc (dv 1) (Zp4 rfl (Jl (QZ (i:=3) Vs.nd rfl (.inl rfl)) (Zf8 (Jl (QZ (i:=1) Vs.nd rfl (.inl rfl)) Bv)))))
 (Zj (QK (DW.dt (V4 (ZM (Rv B.u65) (dv 3) (Qo (Za Zt (Za Zt Zg)))) (VR (ZM (Vz B.u64) (dv 1) (JV Zg))))) (Zr (ZW J5)) Z4)
 (Zj (qN (i:=4) (j:=5) rfl Vs.nd rfl rfl (by decide) rfl rfl (Za Zi (Za (Q5 Z7 (dv 1) Zi (fun _ _=>rfl)) Zg)) (by rfl))
 (Zj (QK (Yz (Jf (ZJ B (ZdR t) (Za (dv 5) Zg)))) (Zj (Qt (i:=4) Vs.nd rfl (.inl rfl) (ZJ B (vK t) (Za (dv 5) Zg)))
 (Zj (QK (DW.dt (V4 (ZM RN (dv 4) J5) (V4 (ZM K9 (dv 4) Zi) (VR (ZM K9 (ZQ Vk (by rfl) t.UW Vm (Za (dv 1) Zg)) Zi))))) (Zr (ZW J5)) Z4)
 (Zr (Qt (i:=1) Vs.nd rfl (.inl rfl) (Jb (dv 1) (Q8 Zi) Q7))))) Z4)
 (Zj (U4 (dv 2) (Qo (Za (V5 (ZM (Vz B.u64) (dv 3) Zt) (dv 4) (Z0 yh Zi (dv 4))) (Za (Q5 Z7 (dv 1) Zi (fun _ _=>rfl)) Zg))) (fun ho ha=>pe_bm PySem.F.plainAttrs_list PySem.F.slot_list_append PySem.F.type_list_append mt_append ho ha))
 (Zr (Qt (i:=1) Vs.nd rfl (.inl rfl) (Jb (dv 1) (Q8 Zi) Q7)))))))))
 (Zr (ZW (QV UG (by rfl) t.Vq Yv (Za (dv 2) Zg)))))))))) ZiL
theorem Zgn(t:Txt P w K mg base T):GFn P w K mg base 2 t.fj.f t.fj.d ["_law_m","_law_many"] (Bs K T 2 dG):=gfn_of (t:=uY) t.fj.F Yi (fun cdv A outer s H E B=>
 (Zj (yc (Qo (Za Zt (Za Zt Zg))) (Wy rfl (Jl (QZ (i:=2) Yi.nd rfl (.inr rfl)) (Jl (QZ (i:=3) Yi.nd rfl (.inr rfl)) Bv))))
 (Zj (U3 B.own rfl (Wj (by rfl) t.SN (Za (ZJ B (Jc t) (Za (dv 0) (Za Zi Zg))) Zg)) (QZ (i:=4) Yi.nd rfl (.inl rfl)) (Zr (Qt (i:=3) Yi.nd rfl (.inr rfl) (Z0 Qy (dv 3) (Q5 Z7 (dv 2) (ZJ B (Jc t) (Za (dv 0) (Za Zi Zg))) (fun _ _=>rfl))))))
 (Zj (yc (Qo (Za (ZJ B (Jc t) (Za (dv 0) (Za (Z0 Qy (ZQ Vk (by rfl) t.UW Vm (Za (dv 3) Zg)) Zi) Zg))) (Za (ZJ B (Jc t) (Za (dv 0) (Za Zi Zg))) (Za (Q5 Z7 (JV (Za Zi (Za Zi (Za Zi (Za Zi (Za Zi (Za Zi Zg))))))) (ZJ B (Jc t) (Za (dv 0) (Za Zi Zg))) (fun _ _=>rfl)) Zg)))) (Wy rfl (Jl (QZ (i:=5) Yi.nd rfl (.inr rfl)) (Jl (QZ (i:=6) Yi.nd rfl (.inr rfl)) (Jl (QZ (i:=7) Yi.nd rfl (.inr rfl)) Bv)))))
 (Zj (Qt (i:=8) Yi.nd rfl (.inr rfl) (Jb (Z0 Qy (dv 3) (Z0 RP (Q5 Z7 (dv 2) (dv 6) (fun _ _=>rfl)) Zi)) Q7 (Q8 Zi)))
 (Zj (QK (ZM wj (dv 7) Zi) (Zr (ZW (G6 rfl Yi.nd (Wj (by rfl) t.SN (Za (dv 1) Zg)) (YW (N:=Ei) (sc:=defScope Ox) (own:=[("_law_k",4)]) (by decide+kernel)) rfl (fun _ _ _ _ _=>(Jq (i:=4) (by decide) Yi.nd rfl (.inl rfl))) (fun _ _ _ _ _=>Us) (fun _ _ _ _ _=>(V5 (ZM wj (dv 7) Zi) (Jb (dv 8) (Q8 (dv 4)) Q7) (Jb (dv 8) Q7 (Q8 (Z0 yh (Z0 Qy (dv 4) Zi) (dv 1))))))))) Z4)
 (Zr (ZW (G6 rfl Yi.nd (Wj (by rfl) t.SN (Za (dv 1) Zg)) (YW (N:=Ei) (sc:=defScope Ox) (own:=[("_law_k",4)]) (by decide+kernel)) rfl (fun _ _ _ _ _=>(Jq (i:=4) (by decide) Yi.nd rfl (.inl rfl))) (fun _ _ _ _ _=>Us) (fun _ _ _ _ _=>(Z0 Qy (Z0 Qy (Jb (dv 3) Q7 (Q8 (dv 5))) (Q5 Z7 (dv 2) (Z0 qO (QV aG (by rfl) t.RK WK (Za (Z0 Qy (dv 6) (Z0 RP (dv 7) (dv 4))) Zg)) Zi) (fun _ _=>rfl))) (Jb (dv 3) (Q8 (dv 5)) Q7)))))))))))) ZfT
theorem Zgo(t:Txt P w K mg base T):GFn P w K mg base 2 t.fB.f t.fB.d ["_law_m","_law_names_here"] (Bs K T 2 dH):=gfn_of (t:=u6) t.fB.F Av (fun cdv A outer s H E B=>
 (Zj (Qt (i:=2) Av.nd rfl (.inl rfl) (Kd Zg))
 (Zj (U3 B.own rfl (YK (dv 1)) (QZ (i:=3) Av.nd rfl (.inl rfl)) (Zr (QK (ZM (Vz B.u64) (ZJ B (Jc t) (Za (dv 0) (Za Zi Zg))) Zi) (Zr (U4 (dv 2) (Qo (Za (Q5 Z7 (JV (Za Zi (Za Zi (Za Zi (Za (DQ G5 Zi) (Za (DQ G5 Zi) (Za Zi (Za (DQ G5 Zi) (Za Zi (Za (DQ G5 Zi) Zg)))))))))) (ZJ B (Jc t) (Za (dv 0) (Za Zi Zg))) (fun _ _=>rfl)) (Za (dv 3) Zg))) (fun ho ha=>pe_bm PySem.F.plainAttrs_list PySem.F.slot_list_append PySem.F.type_list_append mt_append ho ha))) Z4)))
 (Zr (ZW (QV UG (by rfl) t.Vq Yv (Za (dv 2) Zg))))))) ZfV
theorem yS(t:Txt P w K mg base T):GFn P w K mg base 2 t.P0.f t.P0.d ["_law_names_here","_law_thing"] (Bs K T 2 Pk):=gfn_of (t:=aR) t.P0.F N8 (fun cdv A outer s H E B=>
 (Zj (QK (DW.dt (V4 (Yz (Jf (ZQ G7 (by rfl) t.Qe Z5 (Za (dv 1) (Za (G8 (by rfl) t.Vq Yv) Zg))))) (VR (ZM wj (ZQ Vk (by rfl) t.UW Vm (Za (dv 1) Zg)) Zi)))) (Zr (ZW Ov)) Z4)
 (Zj (U3 B.own rfl (YK (dv 1)) (QZ (i:=2) N8.nd rfl (.inl rfl)) (Zr (QK (DW.dt (V4 (Yz (Jf (ZQ G7 (by rfl) t.Qe Z5 (Za (dv 2) (Za (G8 (by rfl) t.Vq Yv) Zg))))) (V4 (ZM (XH B.u64) (ZQ Vk (by rfl) t.UW Vm (Za (dv 2) Zg)) Zi) (V4 (Yz (Jf (ZJ B (iK t) (Za (Q5 Z7 (dv 2) Zi (fun _ _=>rfl)) (Za (DQ G5 Zi) (Za Zi Zg)))))) (VR (ZM (Vz B.u64) (Q5 Z7 (dv 2) Zi (fun _ _=>rfl)) Zi)))))) (Zr (ZW Ov)) Z4)))
 (Zr (ZW (ZJ B (ZbC t) (Za (dv 0) (Za (QV UG (by rfl) t.Vq Yv (Za (G6 rfl N8.nd (YK (dv 1)) (YW (N:=Oj) (sc:=defScope Ba) (own:=[("_law_term",2)]) (by decide+kernel)) rfl (fun _ _ _ _ _=>(Jq (i:=2) (by decide) N8.nd rfl (.inl rfl))) (fun _ _ _ _ _=>Us) (fun _ _ _ _ _=>(Q5 Z7 (dv 2) Zi (fun _ _=>rfl)))) Zg)) Zg)))))))) yE
theorem pQ(t:Txt P w K mg base T):GFn P w K mg base 2 t.Dg.f t.Dg.d ["_law_formula_here"] (Bs K T 1 Dc):=gfn_of (t:=Kw) t.Dg.F Yr (fun cdv A outer s H E B=>
 (Zj (Qt (i:=1) Yr.nd rfl (.inl rfl) (Kd Zg))
 (Zj (U3 B.own rfl (YK (dv 0)) (QZ (i:=2) Yr.nd rfl (.inl rfl)) (Zj (fO rfl Yr.nd (YK (dv 2)) (YW (N:=GX) (sc:=defScope Ub) (own:=[("_law_terms_here",4),("_law_op",5),("_law_number",6)]) (by decide+kernel)) rfl (fun _ _ _ _ _=>(Zju rfl (Mi (Jq (i:=4) (by decide) Yr.nd rfl (.inl rfl)) (Mi (Jq (i:=5) (by decide) Yr.nd rfl (.inl rfl)) (Mi (Jq (i:=6) (by decide) Yr.nd rfl (.inl rfl)) Zfc))))) (fun _ _ _ _ _=>Us) (fun _ _ _ _ _=>(Z0 Qy (Z0 Qy (Z0 Qy (Z0 Qy (W6 B.room B.grd aF (uL t) (Za (dv 4) Zg)) Zt) (dv 5)) Zt) (QV Zj7 (by rfl) t.rO aJ (Za (dv 6) Zg)))) (i:=3) rfl rfl (sw_true rfl rfl rfl (by decide+kernel)))
 (Zr (U4 (dv 1) (V5 (ZM (yt B.u64) (dv 3) (JV Zg)) (Wg Zt (dv 3)) Zt) (fun ho ha=>pe_bm PySem.F.plainAttrs_list PySem.F.slot_list_append PySem.F.type_list_append mt_append ho ha)))))
 (Zpk (i:=1) (Zr (ZW (V5 (ZM (yt B.u64) (dv 1) (JV Zg)) (Wg Zt (dv 1)) Zt))))))) pJ
theorem ZbE(t:Txt P w K mg base T):GFn P w K mg base 2 t.Iu.f t.Iu.d ["_law_text"] (Bs K T 1 Ih):=gfn_of (t:=iw) t.Iu.F VF (fun cdv A outer s H E B=>
 (Zj (QK (ZM (Vz B.u64) (dv 0) Zt) (Zr (ZW (Qo Zg))) Z4)
 (Zj (qN (i:=1) (j:=2) rfl VF.nd rfl rfl (by decide) rfl rfl (Za (DK (dv 0) Zt) (Za (Kd Zg) Zg)) (by rfl))
 (Zj (Qt (i:=1) VF.nd rfl (.inl rfl) (Z0 Qy (V5 (ZM (Vz B.u64) (Jb (Q5 Z7 (dv 1) Zi (fun _ _=>rfl)) Q7 (Q8 Zi)) Zt) (JV (Za Zt (Za (Jb (Q5 Z7 (dv 1) Zi (fun _ _=>rfl)) (Q8 Zi) Q7) Zg))) (JV (Za Zt (Za (Q5 Z7 (dv 1) Zi (fun _ _=>rfl)) Zg)))) (Jb (dv 1) (Q8 Zi) Q7)))
 (Zj (zF B.own (ZM (yt B.u64) (dv 1) (JV Zg)) (Zj (QK (DW.dt (V4 (ZM (Rv B.u65) (Q5 Z7 (dv 1) Zi (fun _ _=>rfl)) (JV (Za Zt (Za Zt Zg)))) (VR (ZM K9 (ZQ Vk (by rfl) t.UW Vm (Za (dv 1) Zg)) Zi)))) (Zr (ZW J5)) Z4)
 (Zj (Zpj (i:=3) (j:=4) (l:=1) rfl VF.nd rfl rfl rfl (by decide) (by decide) (by decide) rfl rfl rfl (Za (Q5 Z7 (dv 1) Zi (fun _ _=>rfl)) (Za Zi (Za (Jb (dv 1) (Q8 Zi) Q7) Zg))) (by rfl))
 (Zj (QK (Yz (Jf (ZJ B (Zco t) (Za (Q5 Z7 (dv 1) Zi (fun _ _=>rfl)) Zg)))) (Zj (Qt (i:=4) VF.nd rfl (.inl rfl) (ZJ B (bF t) (Za (Q5 Z7 (dv 1) Zi (fun _ _=>rfl)) Zg)))
 (Zj (QK (DW.dt (V4 (ZM RN (dv 4) J5) (V4 (ZM K9 (dv 4) Zi) (VR (ZM K9 (ZQ Vk (by rfl) t.UW Vm (Za (dv 1) Zg)) Zi))))) (Zr (ZW J5)) Z4)
 (Zr (Qt (i:=1) VF.nd rfl (.inl rfl) (Jb (dv 1) (Q8 Zi) Q7))))) Z4)
 (Zj (U4 (dv 2) (Qo (Za (V5 (ZM (Vz B.u64) (dv 3) Zt) (dv 4) (Z0 yh Zi (dv 4))) (Za (Q5 Z7 (dv 1) Zi (fun _ _=>rfl)) Zg))) (fun ho ha=>pe_bm PySem.F.plainAttrs_list PySem.F.slot_list_append PySem.F.type_list_append mt_append ho ha))
 (Zr (Qt (i:=1) VF.nd rfl (.inl rfl) (Jb (dv 1) (Q8 Zi) Q7))))))))
 (Zr (ZW (QV UG (by rfl) t.Vq Yv (Za (dv 2) Zg))))))))) Zbt
theorem yU(t:Txt P w K mg base T):GFn P w K mg base 2 t.Mf.f t.Mf.d ["_law_m","_law_names_here","_law_text"] (Bs K T 3 Ot):=gfn_of (t:=aX) t.Mf.F Vo (fun cdv A outer s H E B=>
 (Zj (qN (i:=3) (j:=4) rfl Vo.nd rfl rfl (by decide) rfl rfl (Za (ZJ B (Jc t) (Za (dv 0) (Za (Z0 Qy (ZQ Vk (by rfl) t.UW Vm (Za (dv 2) Zg)) Zi) Zg))) (Za (ZJ B (Jc t) (Za (dv 0) (Za Zi Zg))) Zg)) (by rfl))
 (Zj (Qt (i:=5) Vo.nd rfl (.inl rfl) (Q5 Z7 Zt (ZJ B (Jc t) (Za (dv 0) (Za Zi Zg))) (fun _ _=>rfl)))
 (Zj (QK (ZM K9 (dv 4) Zi) (Zr (ZW (Z0 Qy (Z0 Qy (Jb (dv 2) Q7 (Q8 (dv 3))) (Q5 Z7 (JV (Za (dv 5) (Za (dv 5) (Za Zt Zg)))) (dv 4) (fun _ _=>rfl))) (Jb (dv 2) (Q8 (Z0 Qy (dv 3) (QV aG (by rfl) t.RK WK (Za (IW wj (dv 4) Zi) Zg)))) Q7)))) Z4)
 (Zj (Qt (i:=6) Vo.nd rfl (.inl rfl) (DK (dv 2) Zt))
 (Zj (qN (i:=7) (j:=8) rfl Vo.nd rfl rfl (by decide) rfl rfl (Za (ZJ B (Jc t) (Za (dv 0) (Za (ZQ Vk (by rfl) t.UW Vm (Za (dv 6) Zg)) Zg))) (Za (ZJ B (Jc t) (Za (dv 0) (Za (ZQ Vk (by rfl) t.UW Vm (Za (dv 6) Zg)) Zg))) Zg)) (by rfl))
 (Zj (Qt (i:=9) Vo.nd rfl (.inl rfl) (JV (Za Zt (Za Zt (Za Zt (Za Zt (Za Zt (Za Zt (Za Zt (Za Zt (Za Zt (Za Zt (Za Zt (Za Zt (Za Zt (Za Zt (Za Zt (Za Zt (Za Zt (Za Zt Zg))))))))))))))))))))
 (Zj (Qt (i:=9) Vo.nd rfl (.inl rfl) (Z0 Qy (dv 9) (JV (Za (Q5 Z7 (dv 1) Zi (fun _ _=>rfl)) (Za (Z0 Qy Zt (Q5 Z7 (dv 1) (DQ G5 Zi) (fun _ _=>rfl))) (Za Zt (Za Zt Zg)))))))
 (Zj (QK (ZM (Vz B.u64) (dv 4) Zi) (Zr (ZW (Wg Zt (Z0 Qy (Z0 Qy (Jb (dv 6) Q7 (Q8 (dv 7))) (JV (Za (Q5 Z7 (dv 9) (ZJ B (Jc t) (Za (dv 0) (Za Zi Zg))) (fun _ _=>rfl)) Zg))) (Jb (dv 6) (Q8 (Z0 Qy (dv 7) Zi)) Q7))))) Z4)
 (Zj (QK (ZM (Vz B.u64) (dv 4) Zi) (Zr (ZW (Wg Zt (Z0 Qy (Z0 Qy (Jb (dv 6) Q7 (Q8 (dv 7))) (JV (Za (Q5 Z7 (dv 9) (ZJ B (Jc t) (Za (dv 0) (Za Zi Zg))) (fun _ _=>rfl)) Zg))) (Jb (dv 6) (Q8 (dv 7)) Q7))))) Z4)
 (Zj (QK (ZM (Vz B.u64) (dv 4) Zi) (Zr (ZW (Wg Zt (Z0 Qy (Jb (dv 6) Q7 (Q8 (dv 7))) (Jb (dv 6) (Q8 (Z0 Qy (dv 7) Zi)) Q7))))) Z4)
 (Zj (QK (ZM (Vz B.u64) (dv 4) Zi) (Zr (ZW (Wg Zt (Z0 Qy (Jb (dv 6) Q7 (Q8 (dv 7))) (Jb (dv 6) (Q8 (dv 8)) Q7))))) Z4)
 (Zr (ZW (Z0 Qy (dv 2) (Q5 Z7 (JV (Za Zt (Za Zt (Za Zt (Za (Z0 Qy Zt (dv 2)) (Za (Z0 Qy Zt (dv 2)) (Za Zt Zg))))))) (ZJ B (Jc t) (Za (dv 0) (Za Zi Zg))) (fun _ _=>rfl))))))))))))))))) yP
theorem Zgp(t:Txt P w K mg base T):GFn P w K mg base 3 t.eO.f t.eO.d ["cells","thing"] (Bs K T 2 dO):=gfn_of (t:=u9) t.eO.F Hg (fun cdv A outer s H E B=>
 (Zj (QK (Yz (Jf (ZJ B (RL t) (Za (dv 1) (Za (X5 (by rfl) t.rP) Zg))))) (Zr (ZW Ov)) Z4)
 (Zj (U3 B.own rfl (YK (dv 1)) (QZ (i:=2) Hg.nd rfl (.inl rfl)) (Zj (QK (DW.dt (V4 (Yz (Jf (ZJ B (RL t) (Za (dv 2) (Za Zi Zg))))) (VR (ZM (XH B.u64) (ZQ Vk (by rfl) t.UW Vm (Za (dv 2) Zg)) Zi)))) (Zr (ZW Ov)) Z4)
 (Zr (QK (DW.dt (V4 (Yz (Jf (ZJ B (ZaV t) (Za (Q5 Z7 (dv 2) Zi (fun _ _=>rfl)) (Za (Z0 yh Zi (X5 (by rfl) t.kW)) (Za (X5 (by rfl) t.kW) Zg)))))) (VR (ZM (Vz B.u64) (Q5 Z7 (dv 2) Zi (fun _ _=>rfl)) Zi)))) (Zr (ZW Ov)) Z4))))
 (Zr (ZW (ZJ B (ZbD t) (Za (dv 0) (Za (QV UG (by rfl) t.Vq Yv (Za (G6 rfl Hg.nd (YK (dv 1)) (YW (N:=En) (sc:=defScope Xr) (own:=[("term",2)]) (by decide+kernel)) rfl (fun _ _ _ _ _=>(Jq (i:=2) (by decide) Hg.nd rfl (.inl rfl))) (fun _ _ _ _ _=>Us) (fun _ _ _ _ _=>(Q5 Z7 (dv 2) Zi (fun _ _=>rfl)))) Zg)) Zg)))))))) ZfZ
theorem iQ(t:Txt P w K mg base T):GFn P w K mg base 3 t.Im.f t.Im.d ["formula"] (Bs K T 1 CP):=gfn_of (t:=iy) t.Im.F PN (fun cdv A outer s H E B=>
 (Zr (ZW (V5 (ZM (XH B.u64) (dv 0) (Qo Zg)) (Wg Zt (G6 rfl PN.nd (YK (dv 0)) (YW (N:=CN) (sc:=defScope Nb) (own:=[("case",1)]) (by decide+kernel)) rfl (fun _ _ _ _ _=>(Jq (i:=1) (by decide) PN.nd rfl (.inl rfl))) (fun _ _ _ _ _=>Us) (fun _ _ _ _ _=>(W6 B.room B.grd aF (Zgm t) (Za (dv 1) Zg))))) Zt)))) Zbu
theorem Zlq(t:Txt P w K mg base T):GFn P w K mg base 3 t.ux.f t.ux.d ["text"] (Bs K T 1 tV):=gfn_of (t:=Zds) t.ux.F nQ (fun cdv A outer s H E B=>
 (Zj (Qt (i:=1) nQ.nd rfl (.inl rfl) (DK (dv 0) Zt))
 (Zj (QK (DW.dt (V4 (ZM K9 (ZQ Vk (by rfl) t.UW Vm (Za (dv 1) Zg)) Zi) (VR (ZM (Rv B.u65) (Q5 Z7 (dv 1) (DQ G5 Zi) (fun _ _=>rfl)) (ZjL (by rfl) t.Zq8))))) (Zr (ZW J5)) Z4)
 (Zj (qN (i:=2) (j:=3) rfl nQ.nd rfl rfl (by decide) rfl rfl (Za (ZJ B (Zi5 t) (Za (Wg Zt (Jb (dv 1) Q7 (Q8 (DQ G5 Zi)))) Zg)) (Za (ZJ B (vK t) (Za (Q5 Z7 (dv 1) (DQ G5 Zi) (fun _ _=>rfl)) Zg)) Zg)) (by rfl))
 (Zr (ZW (V5 (DW.dt (V4 (ZM RN (dv 2) J5) (VR (ZM RN (dv 3) J5)))) J5 (Qo (Za (dv 2) (Za (Q5 Z7 (dv 1) (DQ G5 Zi) (fun _ _=>rfl)) (Za (dv 3) Zg))))))))))) Zk8
theorem Zgq(t:Txt P w K mg base T):GFn P w K mg base 3 t.fu.f t.fu.d ["_law_m"] (Bs K T 1 Eh):=gfn_of (t:=uZ) t.fu.F Hj (fun cdv A outer s H E B=>
 (Zj (Qt (i:=1) Hj.nd rfl (.inl rfl) (ZJ B (Zgn t) (Za (dv 0) (Za (Z0 Qy Zi (ZJ B (Jc t) (Za (dv 0) (Za Zi Zg)))) Zg))))
 (Zr (ZW (QV UG (by rfl) t.Vq Yv (Za (G6 rfl Hj.nd (YK (dv 1)) (YW (N:=dI) (sc:=defScope Xx) (own:=[("_law_name",2)]) (by decide+kernel)) rfl (fun _ _ _ _ _=>(Jq (i:=2) (by decide) Hj.nd rfl (.inl rfl))) (fun _ _ _ _ _=>Us) (fun _ _ _ _ _=>(Qo (Za (dv 2) (Za (Z0 Qy Zi (W6 B.room B.grd aF (Jc t) (Za (dv 0) (Za Zi Zg)))) Zg))))) Zg)))))) ZfU
theorem Zi6(t:Txt P w K mg base T):GFn P w K mg base 3 t.oh.f t.oh.d ["_law_m","_law_names_here"] (Bs K T 2 lW):=gfn_of (t:=Zar) t.oh.F vJ (fun cdv A outer s H E B=>
 (Zj (Qt (i:=2) vJ.nd rfl (.inl rfl) (Q5 Z7 (JV (Za Zt (Za Zt (Za Zt (Za Zt (Za Zt (Za Zt Zg))))))) (ZJ B (Jc t) (Za (dv 0) (Za Zi Zg))) (fun _ _=>rfl)))
 (Zr (ZW (Qo (Za (ZJ B (Zgo t) (Za (dv 0) (Za (dv 1) Zg))) (Za (dv 2) (Za (Q5 Z7 (JV (Za Zi (Za Zi (Za Zi (Za Zi (Za Zi (Za (DQ G5 Zi) (Za (DQ G5 Zi) (Za Zi (Za (DQ G5 Zi) Zg)))))))))) (ZJ B (Jc t) (Za (dv 0) (Za Zi Zg))) (fun _ _=>rfl)) Zg)))))))) Zis
theorem Zcp(t:Txt P w K mg base T):GFn P w K mg base 3 t.Fv.f t.Fv.d ["_law_names_here","_law_thing"] (Bs K T 2 Fe):=gfn_of (t:=j9) t.Fv.F Zbz (fun cdv A outer s H E B=>
 (Zj (QK (DW.dt (V4 (Yz (Jf (ZQ G7 (by rfl) t.Qe Z5 (Za (dv 1) (Za (G8 (by rfl) t.Vq Yv) Zg))))) (V4 (ZM (XH B.u64) (ZQ Vk (by rfl) t.UW Vm (Za (dv 1) Zg)) Zi) (VR (Yz (Jf (ZJ B (yS t) (Za (dv 0) (Za (Q5 Z7 (dv 1) Zi (fun _ _=>rfl)) Zg))))))))) (Zr (ZW Ov)) Z4)
 (Zj (QK (DW.dt (V4 (Yz (Jf (ZQ G7 (by rfl) t.Qe Z5 (Za (Q5 Z7 (dv 1) Zi (fun _ _=>rfl)) (Za (G8 (by rfl) t.rO aJ) Zg))))) (VR (ZM (Rv B.u65) (Q5 Z7 (dv 1) Zi (fun _ _=>rfl)) (JV (Za Zt (Za Zt (Za Zt (Za Zt (Za Zt (Za Zt Zg))))))))))) (Zr (ZW Ov)) Z4)
 (Zr (ZW (ZJ B (iK t) (Za (Q5 Z7 (dv 1) Zi (fun _ _=>rfl)) (Za (DQ G5 Zi) (Za Zi Zg))))))))) Zch
theorem Zlr(t:Txt P w K mg base T):GFn P w K mg base 4 t.uw.f t.uw.d ["cells","thing"] (Bs K T 2 tD):=gfn_of (t:=Zc0) t.uw.F ZiZ (fun cdv A outer s H E B=>
 (Zj (QK (DW.dt (V4 (Yz (Jf (ZJ B (RL t) (Za (dv 1) (Za Zi Zg))))) (V4 (ZM (XH B.u64) (ZQ Vk (by rfl) t.UW Vm (Za (dv 1) Zg)) Zi) (VR (Yz (Jf (ZJ B (Zgp t) (Za (dv 0) (Za (Q5 Z7 (dv 1) Zi (fun _ _=>rfl)) Zg))))))))) (Zr (ZW Ov)) Z4)
 (Zr (ZW (Ka (ZQ G7 (by rfl) t.Qe Z5 (Za (Q5 Z7 (dv 1) Zi (fun _ _=>rfl)) (Za (G8 (by rfl) t.rO aJ) Zg))) (Ka (IW (wz B.u65) (Q5 Z7 (dv 1) Zi (fun _ _=>rfl)) (ZjL (by rfl) t.Zq8)) (qL (ZJ B (ZaV t) (Za (Q5 Z7 (dv 1) Zi (fun _ _=>rfl)) (Za (Z0 yh Zi (X5 (by rfl) t.kY)) (Za (X5 (by rfl) t.kY) Zg))))))))))) ZkU
theorem Zls(t:Txt P w K mg base T):GFn P w K mg base 4 t.uz.f t.uz.d ["text"] (Bs K T 1 tW):=gfn_of (t:=Zdt) t.uz.F nR (fun cdv A outer s H E B=>
 (Zj (QK (ZM (Vz B.u64) (dv 0) Zt) (Zr (ZW (Qo Zg))) Z4)
 (Zj (fO rfl nR.nd (YK (DK (dv 0) Zt)) (YW (N:=iz) (sc:=defScope RX) (own:=[("part",2)]) (by decide+kernel)) rfl (fun _ _ _ _ _=>(Jq (i:=2) (by decide) nR.nd rfl (.inl rfl))) (fun _ _ _ _ _=>Us) (fun _ _ _ _ _=>(W6 B.room B.grd aF (Zlq t) (Za (dv 2) Zg))) (i:=1) rfl rfl (sw_true rfl rfl rfl (by decide+kernel)))
 (Zr (ZW (V5 (ZM (wz B.u65) J5 (dv 1)) J5 (QV UG (by rfl) t.Vq Yv (Za (dv 1) Zg)))))))) Zk9
theorem Zcq(t:Txt P w K mg base T):GFn P w K mg base 4 t.Fq.f t.Fq.d ["_law_m","_law_names_here"] (Bs K T 2 Xl):=gfn_of (t:=j7) t.Fq.F Nt (fun cdv A outer s H E B=>
 (Zj (Qt (i:=2) Nt.nd rfl (.inl rfl) (Kd Zg))
 (Zj (U3 B.own rfl (Wj (by rfl) t.SN (Za (Q5 Z7 (JV (Za Zi (Za Zi (Za Zi (Za Zi (Za Zi (Za Zi (Za Zi (Za Zi Zg))))))))) (ZJ B (Jc t) (Za (dv 0) (Za Zi Zg))) (fun _ _=>rfl)) Zg)) (QZ (i:=3) Nt.nd rfl (.inl rfl)) (Zr (U4 (dv 2) (QV UG (by rfl) t.Vq Yv (Za (G6 rfl Nt.nd (Wj (by rfl) t.SN (Za (Q5 Z7 (JV (Za Zi (Za Zi (Za Zi (Za Zi (Za Zi (Za Zi (Za Zi (Za Zi Zg))))))))) (ZJ B (Jc t) (Za (dv 0) (Za Zi Zg))) (fun _ _=>rfl)) Zg)) (YW (N:=EY) (sc:=defScope LC) (own:=[("_law_j",4)]) (by decide+kernel)) rfl (fun _ _ _ _ _=>(Jq (i:=4) (by decide) Nt.nd rfl (.inl rfl))) (fun _ _ _ _ _=>Us) (fun _ _ _ _ _=>(W6 B.room B.grd aF (Zi6 t) (Za (dv 0) (Za (dv 1) Zg))))) Zg)) (fun ho ha=>pe_bm PySem.F.plainAttrs_list PySem.F.slot_list_append PySem.F.type_list_append mt_append ho ha))))
 (Zr (ZW (QV UG (by rfl) t.Vq Yv (Za (dv 2) Zg))))))) Zcd
theorem jW(t:Txt P w K mg base T):GFn P w K mg base 4 t.Lz.f t.Lz.d ["_law_names_here","_law_thing"] (Bs K T 2 Lr):=gfn_of (t:=Mz) t.Lz.F Yg (fun cdv A outer s H E B=>
 (Zj (QK (DW.dt (V4 (Yz (Jf (ZQ G7 (by rfl) t.Qe Z5 (Za (dv 1) (Za (G8 (by rfl) t.Vq Yv) Zg))))) (VR (ZM wj (ZQ Vk (by rfl) t.UW Vm (Za (dv 1) Zg)) Zi)))) (Zr (ZW (Qo Zg))) Z4)
 (Zj (U3 B.own rfl (Ry (by rfl) t.O8 (Za (dv 1) Zg)) (Wy rfl (Jl (QZ (i:=2) Yg.nd rfl (.inl rfl)) (Jl (QZ (i:=3) Yg.nd rfl (.inl rfl)) Bv))) (Zr (QK (DW.dt (V4 (Yz (Jf (ZQ G7 (by rfl) t.Qe Z5 (Za (dv 3) (Za (G8 (by rfl) t.Vq Yv) Zg))))) (VR (ZM wj (ZQ Vk (by rfl) t.UW Vm (Za (dv 3) Zg)) Zi)))) (Zr (ZW (Qo (Za (dv 2) Zg)))) Z4)))
 (Zj (U3 B.own rfl (Ry (by rfl) t.O8 (Za (dv 1) Zg)) (Wy rfl (Jl (QZ (i:=2) Yg.nd rfl (.inl rfl)) (Jl (QZ (i:=3) Yg.nd rfl (.inl rfl)) Bv))) (Zr (U3 B.own rfl (Ry (by rfl) t.O8 (Za (dv 3) Zg)) (Wy rfl (Jl (QZ (i:=4) Yg.nd rfl (.inl rfl)) (Jl (QZ (i:=5) Yg.nd rfl (.inl rfl)) Bv))) (Zr (QK (Yz (Jf (ZJ B (Zcp t) (Za (dv 0) (Za (dv 5) Zg))))) (Zr (ZW (Qo (Za (dv 2) (Za (dv 4) Zg))))) Z4)))))
 (Zr (ZW J5)))))) jO
theorem ZbF(t:Txt P w K mg base T):GFn P w K mg base 5 t.Il.f t.Il.d ["cells","thing"] (Bs K T 2 HW):=gfn_of (t:=gK) t.Il.F VD (fun cdv A outer s H E B=>
 (Zj (QK (Yz (Jf (ZJ B (RL t) (Za (dv 1) (Za (X5 (by rfl) t.ZeN) Zg))))) (Zr (qd t.Fw B.room rfl B.tk (by rfl) (Qo Zg))) Z4)
 (Zj (U3 B.own rfl (Ry (by rfl) t.O8 (Za (dv 1) Zg)) (Wy rfl (Jl (QZ (i:=2) VD.nd rfl (.inl rfl)) (Jl (QZ (i:=3) VD.nd rfl (.inl rfl)) Bv))) (Zr (QK (Yz (Jf (ZJ B (RL t) (Za (dv 3) (Za (X5 (by rfl) t.ZeO) Zg))))) (Zr (qd t.Fw B.room rfl B.tk (by rfl) (Qo (Za (dv 2) Zg)))) Z4)))
 (Zj (U3 B.own rfl (Ry (by rfl) t.O8 (Za (dv 1) Zg)) (Wy rfl (Jl (QZ (i:=2) VD.nd rfl (.inl rfl)) (Jl (QZ (i:=3) VD.nd rfl (.inl rfl)) Bv))) (Zr (U3 B.own rfl (Ry (by rfl) t.O8 (Za (dv 3) Zg)) (Wy rfl (Jl (QZ (i:=4) VD.nd rfl (.inl rfl)) (Jl (QZ (i:=5) VD.nd rfl (.inl rfl)) Bv))) (Zr (QK (Yz (Jf (ZJ B (Zlr t) (Za (dv 0) (Za (dv 5) Zg))))) (Zr (qd t.Fw B.room rfl B.tk (by rfl) (Qo (Za (dv 2) (Za (dv 4) Zg))))) Z4)))))
 (Zr (ZW (dv 1))))))) Zbk
theorem uM(t:Txt P w K mg base T):GFn P w K mg base 5 t.Xi.f t.Xi.d ["_law_names_here","_law_text"] (Bs K T 2 Xe):=gfn_of (t:=Td) t.Xi.F Ys (fun cdv A outer s H E B=>
 (Zj (QK (ZM (Vz B.u64) (dv 1) Zt) (Zr (ZW (Qo Zg))) Z4)
 (Zj (Qt (i:=2) Ys.nd rfl (.inl rfl) (Kd Zg))
 (Zj (U3 B.own rfl (YK (DK (dv 1) Zt)) (QZ (i:=3) Ys.nd rfl (.inl rfl)) (Zj (Qt (i:=4) Ys.nd rfl (.inl rfl) (Kd Zg))
 (Zj (U3 B.own rfl (YK (V5 (ZM (XH B.u64) (dv 3) Zt) (DK (dv 3) Zt) (JV Zg))) (QZ (i:=5) Ys.nd rfl (.inl rfl)) (Zj (Qt (i:=6) Ys.nd rfl (.inl rfl) (DK (dv 5) Zt))
 (Zj (Qt (i:=7) Ys.nd rfl (.inl rfl) (V5 (ZM wj (ZQ Vk (by rfl) t.UW Vm (Za (dv 6) Zg)) Zi) (ZJ B (ZbE t) (Za (Wg Zt (Jb (dv 6) Q7 (Q8 (DQ G5 Zi)))) Zg)) J5))
 (Zj (Qt (i:=8) Ys.nd rfl (.inl rfl) (ZJ B (bF t) (Za (Q5 Z7 (dv 6) (DQ G5 Zi) (fun _ _=>rfl)) Zg)))
 (Zj (QK (DW.dt (V4 (ZM RN (dv 7) J5) (VR (ZM RN (dv 8) J5)))) (Zr (ZW J5)) Z4)
 (Zr (U4 (dv 4) (Qo (Za (dv 7) (Za (Q5 Z7 (dv 6) (DQ G5 Zi) (fun _ _=>rfl)) (Za (dv 8) Zg)))) (fun ho ha=>pe_bm PySem.F.plainAttrs_list PySem.F.slot_list_append PySem.F.type_list_append mt_append ho ha))))))))
 (Zr (U4 (dv 2) (QV UG (by rfl) t.Vq Yv (Za (dv 4) Zg)) (fun ho ha=>pe_bm PySem.F.plainAttrs_list PySem.F.slot_list_append PySem.F.type_list_append mt_append ho ha))))))
 (Zr (ZW (V5 (ZM RN (ZJ B (jW t) (Za (dv 0) (Za (QV UG (by rfl) t.Vq Yv (Za (dv 2) Zg)) Zg))) J5) (QV UG (by rfl) t.Vq Yv (Za (dv 2) Zg)) J5))))))) uK
theorem ZeQ(t:Txt P w K mg base T):GFn P w K mg base 6 t.Ay.f t.Ay.d ["cells","text"] (Bs K T 2 Ao):=gfn_of (t:=rE) t.Ay.F Fp (fun cdv A outer s H E B=>
 (Zj (QK (ZM (Vz B.u64) (dv 1) Zt) (Zr (ZW (Qo Zg))) Z4)
 (Zj (fO rfl Fp.nd (YK (DK (dv 1) Zt)) (YW (N:=M9) (sc:=defScope Ce) (own:=[("part",3)]) (by decide+kernel)) rfl (fun _ _ _ _ _=>(Jq (i:=3) (by decide) Fp.nd rfl (.inl rfl))) (fun _ _ _ _ _=>Us) (fun _ _ _ _ _=>(W6 B.room B.grd aF (Zls t) (Za (dv 3) Zg))) (i:=2) rfl rfl (sw_true rfl rfl rfl (by decide+kernel)))
 (Zj (QK (ZM (wz B.u65) J5 (dv 2)) (Zr (ZW J5)) Z4)
 (Zr (ZrO (t.ea.sub (kn':=["BadFormula"]) (by decide)) (by decide) B rfl rfl (by rfl) t.kJ (fun W' pn xe B=>(Zr (ZW (ZJ B (ZbF t) (Za (dv 0) (Za (QV UG (by rfl) t.Vq Yv (Za (dv 2) Zg)) Zg)))))) (fun a pn=>(Zr (ZW J5))))))))) ZeE
theorem Nu(t:Txt P w K mg base T):GFn P w K mg base 7 t.Io.f t.Io.d ["cells","text"] (Bs K T 2 V8):=gfn_of (t:=iD) t.Io.F bD (fun cdv A outer s H E B=>
 (Zj (Qt (i:=2) bD.nd rfl (.inl rfl) (V5 (Jf (ZQ G7 (by rfl) t.Qe Z5 (Za (dv 1) (Za (G8 (by rfl) t.rO aJ) Zg)))) (ZJ B (ZeQ t) (Za (dv 0) (Za (dv 1) Zg))) J5))
 (Zj (QK (ZM RN (dv 2) J5) (Zr (qd t.Zi3 B.room rfl B.tk (by rfl) Zi)) Z4)
 (Zr (ZW (dv 2)))))) Zbv
theorem fD(t:Txt P w K mg base T){k:Nat}(hk:1≤k){cdv:Value}{A:Around}{outer:List Env}{s:Shared}{H:Hp}{E:XK}{f:Addr}{xs:List D}{vs:List V}{act:Act}(B:fK (cxOf (L2.CX P w) P w K mg base Vw "_law_told" (defScope Gu) t.Vj.f cdv A outer s H E) (XF E) k)
  (ac: ∀(W':WX) (pn:List (Addr×Obj)) (xe:Value→Shared→Prop) (p1 p2:Pos),Takes ((cxOf (L2.CX P w) P w K mg base Vw "_law_told" (defScope Gu) t.Vj.f cdv A outer s H E).tr pn xe) W'→DX ((cxOf (L2.CX P w) P w K mg base Vw "_law_told" (defScope Gu) t.Vj.f cdv A outer s H E).tr pn xe) T W' (.Call (.Name "_law_call" p1) [] [] p2) (ZkK f xs vs act)):
  qM (cxOf (L2.CX P w) P w K mg base Vw "_law_told" (defScope Gu) t.Vj.f cdv A outer s H E) T (XF E) (defBody Gu) (Hw act f xs vs):=
 (Zj (yc (Qo (Za J5 (Za J5 Zg))) (Wy rfl (Jl (QZ (i:=1) BR.nd rfl (.inl rfl)) (Jl (QZ (i:=2) BR.nd rfl (.inl rfl)) Bv))))
 (Zj (Zix t.ea (by decide) (by decide) (by decide) B rfl rfl rfl BR.nd (i:=3) rfl rfl (y:=1) rfl (.inl rfl) (.inr rfl) (by decide) (by decide) (sW (by rfl) t.ZeM) (sW (by rfl) t.ZaT) (sW (by rfl) t.ZaU) (fun W' pn xe B=>(Zr (Qt (i:=2) BR.nd rfl (.inl rfl) (ac W' pn xe _ _ B.tk)))) (fun _ _=>rfl))
 (Zr (ZW (V5 (ZM RN (dv 1) J5) (JV (Za (dv 2) Zg)) (wV ((Zgl t).mono (by omega)) B.room B.grd B.tk (by rfl) t.O7.m t.O7.F.kp t.O7.b (Za (dv 1) Zg)))))))
theorem sE(t:Txt P w K mg base T):GFn P w K mg base 10 t.Jx t.Wc ["_law_cells_here","_law_names_here"] (Bs K T 2 Wb):=ZjF (t:=Ez) t.Uv Vp (fun A outer s H E B=>
 (Zj (Qt (i:=2) Vp.nd rfl (.inl rfl) (Z0 Zp6 Zt Zi))
 (Zj (U3 B.own rfl (YK (Qo (Za (Z0 Qy (Z0 Qy (Q5 Z7 (dv 1) Zi (fun _ _=>rfl)) Zt) (dv 2)) (Za (Z0 Qy (Z0 Qy (Q5 Z7 (dv 1) Zi (fun _ _=>rfl)) Zt) (dv 2)) (Za (Z0 Qy (Z0 Qy (Z0 Qy (dv 2) Zt) (Q5 Z7 (dv 1) Zi (fun _ _=>rfl))) Zt) Zg))))) (QZ (i:=3) Vp.nd rfl (.inr rfl)) (Zr (QK (ZM (XH B.u64) (Zg6 (k:=7) (Ng:=Vw) t.Vj.F BR (by rfl) t.Vj.m t.Vj.b rfl (.inl rfl) B.tk (fun cdv A outer s H E f xs vs act B ac=>fD t (by decide) B ac) t.pO rfl t.pP t.Dh B.room B.grd (Zd3 (sc:=defScope Jw) (by decide+kernel)) rfl (fun _ _ _ _ _=>rfl) (fun A outer s H E f c' B=>(ZJ B (Nu t) (Za (dv 0) (Za (dv 3) Zg))))) (Qo (Za Zt (Za Zi Zg)))) (Zr (ZW Ov)) Z4)))
 (Zj (yc (Qo (Za (Qo (Za (Qo (Za Zt (Za Zi Zg))) (Za (Qo (Za Zt (Za Zi Zg))) Zg))) (Za Zt Zg))) (Wy rfl (Jl (QZ (i:=4) Vp.nd rfl (.inl rfl)) (Jl (QZ (i:=3) Vp.nd rfl (.inr rfl)) Bv))))
 (Zj (Qt (i:=5) Vp.nd rfl (.inl rfl) (Qo (Za (Qo (Za (Qo (Za (Qo (Za (Qo (Za Zi (Za Zt Zg))) Zg)) (Za Zt (Za Zi Zg)))) Zg)) (Za (Qo (Za (Qo (Za (Qo (Za (Qo (Za Zi (Za Zt Zg))) Zg)) (Za Zt (Za Zi Zg)))) Zg)) (Za (Qo Zg) Zg)))))
 (Zr (ZW (Ka (IW (Vz B.u64) (ZJ B (Nu t) (Za (dv 4) (Za (dv 3) Zg))) (dv 5)) (qL (IW (Vz B.u64) (ZJ B (iQ t) (Za (dv 5) Zg)) (dv 3))))))))))) rW
theorem ZuU(t:Txt P w K mg base T):GFn P w K mg base 11 t.Zl0 t.Zl1 ["_law_script"] (Bs K T 1 ZeC):=ZjF (t:=ZqZ) t.Zij Cq (fun A outer s H E B=>
 (Zj (Qt (i:=1) Cq.nd rfl (.inl rfl) (ZJ B (Zgk t) (Za (dv 0) Zg)))
 (Zj (U3 B.own rfl (Wj (by rfl) t.SN (Za (Z0 Qy Zi (ZQ (Zpi rfl) (by rfl) t.ZuT ZrI (Za (ZQ Vk (by rfl) t.UW Vm (Za (dv 0) Zg)) (Za Zi Zg)))) Zg)) (QZ (i:=2) Cq.nd rfl (.inl rfl)) (Zj (Qt (i:=3) Cq.nd rfl (.inr rfl) (ZJ B (Zgq t) (Za (dv 1) Zg)))
 (Zj (fO rfl Cq.nd (YK (dv 3)) (YW (N:=Zid) (sc:=defScope Rz) (own:=[("_law_cell",11)]) (by decide+kernel)) rfl (fun _ _ _ _ _=>(Jq (i:=11) (by decide) Cq.nd rfl (.inl rfl))) (fun _ _ _ _ _=>Us) (fun _ _ _ _ _=>(Q5 Z7 (dv 11) Zi (fun _ _=>rfl))) (i:=4) rfl rfl (sw_true rfl rfl rfl (by decide+kernel)))
 (Zj (Qt (i:=5) Cq.nd rfl (.inl rfl) (ZJ B (Zcq t) (Za (dv 1) (Za (dv 4) Zg))))
 (Zj (Qt (i:=6) Cq.nd rfl (.inr rfl) (ZJ B (pQ t) (Za (dv 5) Zg)))
 (Zj (QK (DW.dt (ZcD (ZM (Vz B.u64) (dv 2) Zi) (wO (Yz (Jf (wV ((sE t).mono (by decide)) B.room B.grd B.tk (by rfl) t.su t.Uv.kp t.Wf (Za (dv 3) (Za (dv 4) Zg)))))))) (Zr (ZW Ov)) Z4)
 (Zj (QK (DW.dt (V4 (ZM Zg2 (ZQ (Dz t.sm B.grd B.u66) (by rfl) t.Sy X3 (Za (ZJ B (iQ t) (Za (dv 5) Zg)) Zg)) (ZQ (Dz t.sm B.grd B.u66) (by rfl) t.Sy X3 (Za (dv 6) Zg))) (VR (ZM Zg2 (ZQ (Dz t.sm B.grd B.u66) (by rfl) t.Sy X3 (Za (ZJ B (Nu t) (Za (dv 3) (Za (dv 6) Zg))) Zg)) (ZQ (Dz t.sm B.grd B.u66) (by rfl) t.Sy X3 (Za (dv 5) Zg)))))) (Zr (ZW Ov)) Z4)
 (Zj (U3 B.own rfl (Wj (by rfl) t.SN (Za Zi Zg)) (QZ (i:=7) Cq.nd rfl (.inl rfl)) (Zj (Qt (i:=8) Cq.nd rfl (.inl rfl) (ZJ B (uM t) (Za (dv 4) (Za (dv 6) Zg))))
 (Zj (Qt (i:=9) Cq.nd rfl (.inl rfl) (V5 (ZM Zph (dv 8) J5) (JV (Za (dv 8) Zg)) (Qo (Za Zt (Za Zi Zg)))))
 (Zj (QK (ZM Zg2 (ZQ (Dz t.sm B.grd B.u66) (by rfl) t.Sy X3 (Za (Zg6 (k:=8) (Ng:=Vw) t.Vj.F BR (by rfl) t.Vj.m t.Vj.b rfl (.inl rfl) B.tk (fun cdv A outer s H E f xs vs act B ac=>fD t (by decide) B ac) t.ZmW rfl t.tm_law t.ZdQ B.room B.grd (Zd3 (sc:=defScope Rz) (by decide+kernel)) rfl (fun _ _ _ _ _=>rfl) (fun A outer s H E f c' B=>(ZJ B (Nu t) (Za (dv 3) (Za (dv 6) Zg))))) Zg)) (ZQ (Dz t.sm B.grd B.u66) (by rfl) t.Sy X3 (Za (dv 9) Zg))) (Zr (ZW Ov)) Z4)
 (Zr (Qt (i:=6) Cq.nd rfl (.inr rfl) (ZJ B (yU t) (Za (dv 1) (Za (dv 4) (Za (dv 6) Zg))))))))))
 (Zj (Qt (i:=10) Cq.nd rfl (.inr rfl) (Q5 Z7 (JV (Za J5 (Za Zi (Za Ov (Za (Qo Zg) (Za (JV Zg) (Za Znq (Za (Qo (Za Zt Zg)) (Za (JV (Za Zt Zg)) Zg))))))))) (ZJ B (Jc t) (Za (dv 1) (Za Zi Zg))) (fun _ _=>rfl)))
 (Zr (QK (ZM (XH B.u64) (Zg6 (k:=8) (Ng:=Vw) t.Vj.F BR (by rfl) t.Vj.m t.Vj.b rfl (.inl rfl) B.tk (fun cdv A outer s H E f xs vs act B ac=>fD t (by decide) B ac) t.ZmW rfl t.tm_law t.ZdQ B.room B.grd (Zd3 (sc:=defScope Rz) (by decide+kernel)) rfl (fun _ _ _ _ _=>rfl) (fun A outer s H E f c' B=>(ZJ B (Nu t) (Za (dv 3) (Za (dv 10) Zg))))) (Qo (Za Zt (Za Zi Zg)))) (Zr (ZW Ov)) Z4)))))))))))
 (Zr (ZW Ov))))) ZuS
end
theorem all_mk{l:PySem.W.OpenLaw}{pq:Program}{w:World}{K:PySem.W.Frag}{h:Heap}{mg:Str→Option Value}{fa:Addr}(X:K.In h)(G:h.Ns mainGlobals mg)(hfa:mg "law" =some (.ref fa))(TF:Zow pq K h)
  {Di:Addr} {KC KD:Option Addr} {KH:Array (Option Value)} {KJ KN KQ KR G3 KY:Value}
  {Y8 QW:Addr} {KZ:Value} {K6:Option Addr} {Dj:Array Value} {K7:Array (Option Value)}
  {Zhw:Addr} {ZmY ZmZ:Option Addr} {Zm0:Array (Option Value)} {Zm1 Zm2 Zm3 Zm4 ZdS Zm5:Value}
  {wL Ed:Addr} {Zm6:Value} {Zm7:Option Addr} {Zhx:Array Value} {Zm8:Array (Option Value)}
  {Hl Az CT Fx:Addr} {aj Mg:Str} {kZ iT lg lu lB iU lC:Value} {lD lH iV iW:Option Addr} {iY iZ jc:Array (Option Value)} {Fy:Array Value} {lJ:Tok}
  {jd uD Eu ou:Addr} {uE ak:Str} {ZaW vL ZaX ZaY ZaZ vM Za0:Value} {Za1 Za2 vN vO:Option Addr} {vP vQ vR:Array (Option Value)} {oE:Array Value} {Za3:Tok}
  {Za4:Tok}
  {Za5:Tok}
  {lK:Tok}
  {lM:Tok}
  {je:Tok}
  {bG:Tok}
  {jf:Tok}
  {lN:Tok}
  {Zm9:Addr}
  (Zi7:Yq K "is_among" Tv)
  (Zlt:Yq K "is_name" RW)
  (Zop:Yq K "is_row" qm)
  (Zi8:Yq K "names_of" Ht)
  (ZbG:Yq K "are_in_order" U9)
  (Zgr:Yq K "are_terms" Xr)
  (Zlu:Yq K "is_test" fQ)
  (ZbH:Yq K "need_formula" Cv)
  (ZeR:Yq K "terms_text" Ms)
  (Zgs:Yq K "case_text" Xu)
  (ZbI:Yq K "formula_text" Nb)
  (Zgt:Yq K "number_in" Xv)
  (Zi9:Yq K "terms_in" Tw)
  (Zlv:Yq K "test_in" fU)
  (Zlw:Yq K "case_in" RX)
  (ZeS:Yq K "formula_in" Ce)
  (ZbJ:Yq K "read_formula" Cy)
  (Zgu:Yq K "_law_begun" Xw)
  (Zja:Yq K "_law_next" Tz)
  (Zgv:Yq K "_law_names" Ox)
  (Zgw:Yq K "_law_cells" Xx)
  (Zgx:Yq K "_law_terms" El)
  (Zjb:Yq K "_law_test" TJ)
  (Zcr:Yq K "_law_formula" LC)
  (ZbK:Yq K "_law_is_whole" Cz)
  (Zcs:Yq K "_law_is_name" LK)
  (ZbL:Yq K "_law_in_order" Ge)
  (yV:Yq K "_law_are_terms" Ba)
  (Zct:Yq K "_law_is_test" Xm)
  (jX:Yq K "_law_formula_fault" Gf)
  (uN:Yq K "_law_terms_text" NQ)
  (pU:Yq K "_law_formula_text" Ub)
  (yW:Yq K "_law_number_in" Bb)
  (ZbM:Yq K "_law_terms_in" CG)
  (uO:Yq K "_law_formula_in" NT)
  (Zgy:Yq K "_law_kinds" Em)
  (Zjc:Yq K "_law_told" Gu)
  (yX:Yq K "_law_bent_text" Oe)
  (Vr:PySem.W.nsIn K mainGlobals "_law_known_right" =some (some (.ref Di)))
  (Ui:K.lookup Di=some ⟨KJ,KC, .func (PySem.W.fnOf "_law_known_right" "_law_known_right" (defArgs Jw) (defBody Jw) (defScope Jw) .none KN KQ KR KD G3 KY),KH⟩)
  (Dk:PySem.W.codeIn K G3 "_law_known_right" =true)
  (Dm:PySem.W.keepIn K (.ref Di)=true)
  (Dq:G3= .ref Y8)
  (Dr:K.lookup Y8=some ⟨KZ,K6, .fields Dj,K7⟩)
  (Ds:Dj[11]? =some (.ref QW))
  (Du:K.lookup QW=none)
  (G4:((recsOf pq).find? fun e=>e.name==("_law_known_right" :Str)).isSome=true)
  (jG:PySem.W.nsIn K mainGlobals "law" =some (some (.ref Zhw)))
  (yZ:K.lookup Zhw=some ⟨Zm1,ZmY, .func (PySem.W.fnOf "law" "law" (defArgs Rz) (defBody Rz) (defScope Rz) .none Zm2 Zm3 Zm4 ZmZ ZdS Zm5),Zm0⟩)
  (Zhy:PySem.W.codeIn K ZdS "law" =true)
  (Zhz:PySem.W.keepIn K (.ref Zhw)=true)
  (ZhA:ZdS= .ref wL)
  (ZhB:K.lookup wL=some ⟨Zm6,Zm7, .fields Zhx,Zm8⟩)
  (ZhC:Zhx[11]? =some (.ref Ed))
  (ZhD:K.lookup Ed=none)
  (ZdT:((recsOf pq).find? fun e=>e.name==("law" :Str)).isSome=true)
  (VN:QW≠Ed)
  (ZhE:PySem.W.nsIn K mainGlobals "abs" =some none)
  (ZhF:PySem.W.nsIn K mainGlobals "all" =some none)
  (Zei:PySem.W.nsIn K mainGlobals "bool" =some none)
  (aq:PySem.W.nsIn K mainGlobals "enumerate" =some none)
  (ZhG:PySem.W.nsIn K mainGlobals "int" =some none)
  (FJ:PySem.W.nsIn K mainGlobals "isinstance" =some none)
  (ZhH:PySem.W.nsIn K mainGlobals "len" =some none)
  (Zej:PySem.W.nsIn K mainGlobals "list" =some none)
  (ZhI:PySem.W.nsIn K mainGlobals "min" =some none)
  (Zaj:PySem.W.nsIn K mainGlobals "range" =some none)
  (Zek:PySem.W.nsIn K mainGlobals "repr" =some none)
  (ZhJ:PySem.W.nsIn K mainGlobals "str" =some none)
  (Zak:PySem.W.nsIn K mainGlobals "tuple" =some none)
  (hea:eaB K kn ms fs=true)
  (fG:Ca K "BadCells" =true)
  (FQ:Ca K "BadFormula" =true)
  (oF:Ca K "BadNode" =true)
  (au:Ca K "BadNumber" =true)
  (fH:Ca K "BadPaper" =true)
  (FW:Ca K "BadProgram" =true)
  (Iv:Ca K "BadStanding" =true)
  (oG:Ca K "BadText" =true)
  (FZ:Ca K "BadWeaving" =true)
  (aC:Ca K "KeptError" =true)
  (oH:Ca K "Missing" =true)
  (oJ:Ca K "TooMany" =true)
  (Zal:Ca K "Twice" =true)
  (Ra:PySem.W.nsIn K mainGlobals "BadFormula" =some (some (.ref Hl)))
  (Rb:exB K Hl "place" "ValueError" "ValueError.__new__" "ValueError.__init__" [.type "ValueError", .type "Exception", .type "BaseException", .type "object"]=true)
  (Rc:PySem.W.findIn K (.ref Hl) "__init__" =some (some (.ref Az)))
  (Rg:PySem.W.isFn K (.ref Az)=true)
  (Rh:K.lookup Az=some ⟨lB,lH, .func (PySem.W.ksFn "__init__" aj (defArgs Uo) (defBody Uo) (defScope Uo) .none kZ iT lg lD (.ref CT) lu Fx),iY⟩)
  (Ri:PySem.W.codeIn K (.ref CT) aj=true)
  (Rj:K.lookup CT=some ⟨iU,iV, .fields Fy,iZ⟩)
  (Rk:Fy[2]? =some (.str Mg lJ))
  (Rm:((l.prog.main.file:Str)==Mg)=true)
  (Iw:K.lookup Fx=some ⟨lC,iW, .cell (some (.ref Hl)),jc⟩)
  (oK:PySem.W.nsIn K mainGlobals "BadText" =some (some (.ref jd)))
  (oM:exB K jd "line" "ValueError" "ValueError.__new__" "ValueError.__init__" [.type "ValueError", .type "Exception", .type "BaseException", .type "object"]=true)
  (oN:PySem.W.findIn K (.ref jd) "__init__" =some (some (.ref uD)))
  (oO:PySem.W.isFn K (.ref uD)=true)
  (oR:K.lookup uD=some ⟨ZaZ,Za2, .func (PySem.W.ksFn "__init__" uE (defArgs Og) (defBody Og) (defScope Og) .none ZaW vL ZaX Za1 (.ref Eu) ZaY ou),vP⟩)
  (oU:PySem.W.codeIn K (.ref Eu) uE=true)
  (oV:K.lookup Eu=some ⟨vM,vN, .fields oE,vQ⟩)
  (oW:oE[2]? =some (.str ak Za3))
  (oX:((l.prog.main.file:Str)==ak)=true)
  (fJ:K.lookup ou=some ⟨Za0,vO, .cell (some (.ref jd)),vR⟩)
  (htop:(l.prog.main.scope.names.lookup ("super" :Str)).isSome=false)
  (oY:PySem.W.nsIn K mainGlobals "FIGURES" =some (some (.str "0123456789" Za4)))
  (oZ:PySem.W.nsIn K mainGlobals "LETTERS" =some (some (.str "abcdefghijklmnopqrstuvwxyz" Za5)))
  (Ro:PySem.W.nsIn K mainGlobals "MOST_CASES" =some (some (.int 4 lK)))
  (Rp:PySem.W.nsIn K mainGlobals "MOST_CELLS" =some (some (.int 4 lM)))
  (Iz:PySem.W.nsIn K mainGlobals "MOST_FACTOR" =some (some (.int 9 je)))
  (Mh:PySem.W.nsIn K mainGlobals "MOST_FIGURES" =some (some (.int 2 bG)))
  (IK:PySem.W.nsIn K mainGlobals "MOST_NUMBER" =some (some (.int 99 jf)))
  (Rq:PySem.W.nsIn K mainGlobals "MOST_TESTS" =some (some (.int 4 lN)))
  (ZhK:PySem.W.nsIn K mainGlobals "OPS" =some (some (.ref Zm9)))
  (ZhL:gB K (.tup [(.str "="),(.str "!="),(.str "<"),(.str "<="),(.str ">"),(.str ">=")]) (.ref Zm9)=true):
  ∃(fd:FuncData) (cs:List (Addr×Addr)) (TT:List (Addr×Str)),(∀p∈cs,h.get? p.2=some {cls:= .none,data:= .fields #[]}∧K.lookup p.2=none∧PySem.W.CodeHd h p.1 p.2)∧(∀p∈TT,p.1∈cs.map (·.2))∧(∀(s:Shared) (v:Value),BindsTo s fd ⟨[v],[]⟩ [("_law_script",v)])∧
   ∀base:Heap,K.In base→base.Ns mainGlobals mg→(∀p∈cs,LamX.TabB base mg p.1 p.2)→(∃mm,base.Ns sysModules mm)→GFn l.prog w K mg base 11 fa fd ["_law_script"] (Bs K ⟨TT,Oc K,fun k=>k.hash w⟩ 1 ZeC):=by
 have e:=hfa.symm.trans (PySem.W.mg_of X G jG)
 cases e
 obtain⟨Gv,Zjd,Zje,Za6⟩:=Zi7
 obtain⟨U5,Zlx,Zly,ZdU⟩:=Zlt
 obtain⟨Vn,Zoq,Zor,ZfQ⟩:=Zop
 obtain⟨LQ,Zjf,Zjg,Za7⟩:=Zi8
 obtain⟨Y5,ZbN,ZbO,jg⟩:=ZbG
 obtain⟨BP,Zgz,ZgA,vU⟩:=Zgr
 obtain⟨Mx,Zlz,ZlA,ZdV⟩:=Zlu
 obtain⟨Y6,ZbP,ZbQ,jh⟩:=ZbH
 obtain⟨GJ,ZeT,ZeU,rQ⟩:=ZeR
 obtain⟨O5,ZgB,ZgC,vW⟩:=Zgs
 obtain⟨JR,ZbR,ZbS,ji⟩:=ZbI
 obtain⟨Gp,ZgD,ZgE,vX⟩:=Zgt
 obtain⟨Wu,Zjh,Zji,Za8⟩:=Zi9
 obtain⟨M7,ZlB,ZlC,ZdW⟩:=Zlv
 obtain⟨M8,ZlD,ZlE,ZdX⟩:=Zlw
 obtain⟨NP,ZeV,ZeW,rR⟩:=ZeS
 obtain⟨ZR,ZbT,ZbU,jj⟩:=ZbJ
 obtain⟨ZgF,ZgG,ZgH,vY⟩:=Zgu
 obtain⟨Zjj,Zjk,Zjl,Za9⟩:=Zja
 obtain⟨ZgI,ZgJ,ZgK,vZ⟩:=Zgv
 obtain⟨ZgL,ZgM,ZgN,v7⟩:=Zgw
 obtain⟨ZgO,ZgP,ZgQ,v8⟩:=Zgx
 obtain⟨Zjm,Zjn,Zjo,Zba⟩:=Zjb
 obtain⟨Zcu,Zcv,Zcw,lO⟩:=Zcr
 obtain⟨Gg,ZbV,ZbW,jk⟩:=ZbK
 obtain⟨Uy,Zcx,Zcy,lQ⟩:=Zcs
 obtain⟨Gh,ZbX,ZbY,jo⟩:=ZbL
 obtain⟨Uq,za,zf,bH⟩:=yV
 obtain⟨Bm,Zcz,ZcA,lU⟩:=Zct
 obtain⟨Vb,jY,jZ,Ho⟩:=jX
 obtain⟨YM,uP,uQ,Tg⟩:=uN
 obtain⟨JG,pW,pX,K8⟩:=pU
 obtain⟨YD,zj,zm,bJ⟩:=yW
 obtain⟨V7,ZbZ,Zb0,jr⟩:=ZbM
 obtain⟨Ju,uR,uU,Tj⟩:=uO
 obtain⟨XC,ZgR,ZgS,v9⟩:=Zgy
 obtain⟨Zjp,Zjq,Zjr,Zbb⟩:=Zjc
 obtain⟨zp,zq,zu,bK⟩:=yX
 have Dy:=Zme (st:=Jw) Vr Ui Dq Dr Ds
 have Uv:=ZjJ (st:=Jw) X G (PySem.W.mg_of X G Vr) Dy Ui Dk Dm
 have Wf:=Uv.fn.binds (ps:=["_law_cells_here","_law_names_here"]) fun _ _ _ _ _ _ us hl=>match us,hl with|[_,_],_=>rfl
 have ZhM:=Zme (st:=Rz) jG yZ ZhA ZhB ZhC
 have Zij:=ZjJ (st:=Rz) X G (PySem.W.mg_of X G jG) ZhM yZ Zhy Zhz
 have Zq7:=Zij.fn.binds (ps:=["_law_script"]) fun _ _ _ _ _ _ us hl=>match us,hl with|[_],_=>rfl
 have Dh: ∀p∈[(QW,qj "_law_known_right"),(Ed,qj "law")],p.1=QW→p.2=qj "_law_known_right" :=fun p hp e9=>by
  simp only[List.mem_cons,List.not_mem_nil,or_false]at hp;rcases hp with rfl|rfl
  ·rfl
  ·exact absurd e9.symm VN
 have ZdQ: ∀p∈[(QW,qj "_law_known_right"),(Ed,qj "law")],p.1=Ed→p.2=qj "law" :=fun p hp e9=>by
  simp only[List.mem_cons,List.not_mem_nil,or_false]at hp;rcases hp with rfl|rfl
  ·exact absurd e9 VN
  ·rfl
 exact⟨_,[(Y8,QW),(wL,Ed)],[(QW,qj "_law_known_right"),(Ed,qj "law")],fun p hp=>by simp only[List.mem_cons,List.not_mem_nil,or_false]at hp;rcases hp with rfl|rfl;exact⟨(TF _ _ _ G4 Dy).2,Du,(TF _ _ _ G4 Dy).1⟩;exact⟨(TF _ _ _ ZdT ZhM).2,ZhD,(TF _ _ _ ZdT ZhM).1⟩,fun p hp=>by simp only[List.mem_cons,List.not_mem_nil,or_false]at hp;rcases hp with rfl|rfl<;>simp,fun s v=> .of_eq rfl,fun base _ _ ht hsm=>ZuU ⟨⟨Gv,Zjd,Za6,PySem.W.mg_of X G Zje,Za6.binds fun _ _ _ _ _ _ us hl=>match us,hl with|[_,_,_],_=>rfl⟩,⟨U5,Zlx,ZdU,PySem.W.mg_of X G Zly,ZdU.binds fun _ _ _ _ _ _ us hl=>match us,hl with|[_],_=>rfl⟩,⟨Vn,Zoq,ZfQ,PySem.W.mg_of X G Zor,ZfQ.binds fun _ _ _ _ _ _ us hl=>match us,hl with|[_,_],_=>rfl⟩,⟨LQ,Zjf,Za7,PySem.W.mg_of X G Zjg,Za7.binds fun _ _ _ _ _ _ us hl=>match us,hl with|[_],_=>rfl⟩,⟨Y5,ZbN,jg,PySem.W.mg_of X G ZbO,jg.binds fun _ _ _ _ _ _ us hl=>match us,hl with|[_,_],_=>rfl⟩,⟨BP,Zgz,vU,PySem.W.mg_of X G ZgA,vU.binds fun _ _ _ _ _ _ us hl=>match us,hl with|[_,_],_=>rfl⟩,⟨Mx,Zlz,ZdV,PySem.W.mg_of X G ZlA,ZdV.binds fun _ _ _ _ _ _ us hl=>match us,hl with|[_,_],_=>rfl⟩,⟨Y6,ZbP,jh,PySem.W.mg_of X G ZbQ,jh.binds fun _ _ _ _ _ _ us hl=>match us,hl with|[_,_],_=>rfl⟩,⟨GJ,ZeT,rQ,PySem.W.mg_of X G ZeU,rQ.binds fun _ _ _ _ _ _ us hl=>match us,hl with|[_],_=>rfl⟩,⟨O5,ZgB,vW,PySem.W.mg_of X G ZgC,vW.binds fun _ _ _ _ _ _ us hl=>match us,hl with|[_],_=>rfl⟩,⟨JR,ZbR,ji,PySem.W.mg_of X G ZbS,ji.binds fun _ _ _ _ _ _ us hl=>match us,hl with|[_],_=>rfl⟩,⟨Gp,ZgD,vX,PySem.W.mg_of X G ZgE,vX.binds fun _ _ _ _ _ _ us hl=>match us,hl with|[_],_=>rfl⟩,⟨Wu,Zjh,Za8,PySem.W.mg_of X G Zji,Za8.binds fun _ _ _ _ _ _ us hl=>match us,hl with|[_],_=>rfl⟩,⟨M7,ZlB,ZdW,PySem.W.mg_of X G ZlC,ZdW.binds fun _ _ _ _ _ _ us hl=>match us,hl with|[_],_=>rfl⟩,⟨M8,ZlD,ZdX,PySem.W.mg_of X G ZlE,ZdX.binds fun _ _ _ _ _ _ us hl=>match us,hl with|[_],_=>rfl⟩,⟨NP,ZeV,rR,PySem.W.mg_of X G ZeW,rR.binds fun _ _ _ _ _ _ us hl=>match us,hl with|[_,_],_=>rfl⟩,⟨ZR,ZbT,jj,PySem.W.mg_of X G ZbU,jj.binds fun _ _ _ _ _ _ us hl=>match us,hl with|[_,_],_=>rfl⟩,⟨ZgF,ZgG,vY,PySem.W.mg_of X G ZgH,vY.binds fun _ _ _ _ _ _ us hl=>match us,hl with|[_],_=>rfl⟩,⟨Zjj,Zjk,Za9,PySem.W.mg_of X G Zjl,Za9.binds fun _ _ _ _ _ _ us hl=>match us,hl with|[_,_],_=>rfl⟩,⟨ZgI,ZgJ,vZ,PySem.W.mg_of X G ZgK,vZ.binds fun _ _ _ _ _ _ us hl=>match us,hl with|[_,_],_=>rfl⟩,⟨ZgL,ZgM,v7,PySem.W.mg_of X G ZgN,v7.binds fun _ _ _ _ _ _ us hl=>match us,hl with|[_],_=>rfl⟩,⟨ZgO,ZgP,v8,PySem.W.mg_of X G ZgQ,v8.binds fun _ _ _ _ _ _ us hl=>match us,hl with|[_,_],_=>rfl⟩,⟨Zjm,Zjn,Zba,PySem.W.mg_of X G Zjo,Zba.binds fun _ _ _ _ _ _ us hl=>match us,hl with|[_,_],_=>rfl⟩,⟨Zcu,Zcv,lO,PySem.W.mg_of X G Zcw,lO.binds fun _ _ _ _ _ _ us hl=>match us,hl with|[_,_],_=>rfl⟩,⟨Gg,ZbV,jk,PySem.W.mg_of X G ZbW,jk.binds fun _ _ _ _ _ _ us hl=>match us,hl with|[_,_,_],_=>rfl⟩,⟨Uy,Zcx,lQ,PySem.W.mg_of X G Zcy,lQ.binds fun _ _ _ _ _ _ us hl=>match us,hl with|[_],_=>rfl⟩,⟨Gh,ZbX,jo,PySem.W.mg_of X G ZbY,jo.binds fun _ _ _ _ _ _ us hl=>match us,hl with|[_,_],_=>rfl⟩,⟨Uq,za,bH,PySem.W.mg_of X G zf,bH.binds fun _ _ _ _ _ _ us hl=>match us,hl with|[_,_],_=>rfl⟩,⟨Bm,Zcz,lU,PySem.W.mg_of X G ZcA,lU.binds fun _ _ _ _ _ _ us hl=>match us,hl with|[_,_],_=>rfl⟩,⟨Vb,jY,Ho,PySem.W.mg_of X G jZ,Ho.binds fun _ _ _ _ _ _ us hl=>match us,hl with|[_,_],_=>rfl⟩,⟨YM,uP,Tg,PySem.W.mg_of X G uQ,Tg.binds fun _ _ _ _ _ _ us hl=>match us,hl with|[_],_=>rfl⟩,⟨JG,pW,K8,PySem.W.mg_of X G pX,K8.binds fun _ _ _ _ _ _ us hl=>match us,hl with|[_],_=>rfl⟩,⟨YD,zj,bJ,PySem.W.mg_of X G zm,bJ.binds fun _ _ _ _ _ _ us hl=>match us,hl with|[_],_=>rfl⟩,⟨V7,ZbZ,jr,PySem.W.mg_of X G Zb0,jr.binds fun _ _ _ _ _ _ us hl=>match us,hl with|[_],_=>rfl⟩,⟨Ju,uR,Tj,PySem.W.mg_of X G uU,Tj.binds fun _ _ _ _ _ _ us hl=>match us,hl with|[_,_],_=>rfl⟩,⟨XC,ZgR,v9,PySem.W.mg_of X G ZgS,v9.binds fun _ _ _ _ _ _ us hl=>match us,hl with|[_],_=>rfl⟩,⟨Zjp,Zjq,Zbb,PySem.W.mg_of X G Zjr,Zbb.binds fun _ _ _ _ _ _ us hl=>match us,hl with|[_],_=>rfl⟩,⟨zp,zq,bK,PySem.W.mg_of X G zu,bK.binds fun _ _ _ _ _ _ us hl=>match us,hl with|[_,_,_],_=>rfl⟩,_,_,_,_,Uv,(PySem.W.mg_of X G Vr),Wf,(ht (Y8,QW) (by simp)),(by simp),(Dh),_,_,_,_,Zij,(PySem.W.mg_of X G jG),Zq7,(ht (wL,Ed) (by simp)),(by simp),(ZdQ),(PySem.W.mg_none_of X G ZhE),(PySem.W.mg_none_of X G ZhF),(PySem.W.mg_none_of X G Zei),(PySem.W.mg_none_of X G aq),(PySem.W.mg_none_of X G ZhG),(PySem.W.mg_none_of X G FJ),(PySem.W.mg_none_of X G ZhH),(PySem.W.mg_none_of X G Zej),(PySem.W.mg_none_of X G ZhI),(PySem.W.mg_none_of X G Zaj),(PySem.W.mg_none_of X G Zek),(PySem.W.mg_none_of X G ZhJ),(PySem.W.mg_none_of X G Zak),hsm,(Zpx hea),(Cd X G fG),(Cd X G FQ),(Cd X G oF),(Cd X G au),(Cd X G fH),(Cd X G FW),(Cd X G Iv),(Cd X G oG),(Cd X G FZ),(Cd X G aC),(Cd X G oH),(Cd X G oJ),(Cd X G Zal),(ZjI X G Zav Zcl htop Ra Rb Rc Rg Rh Ri Rj Rk Rm Iw),(ZjI X G Zav Zi0 htop oK oM oN oO oR oU oV oW oX fJ),⟨_,PySem.W.mg_of X G oY⟩,⟨_,PySem.W.mg_of X G oZ⟩,⟨_,PySem.W.mg_of X G Ro⟩,⟨_,PySem.W.mg_of X G Rp⟩,⟨_,PySem.W.mg_of X G Iz⟩,⟨_,PySem.W.mg_of X G Mh⟩,⟨_,PySem.W.mg_of X G IK⟩,⟨_,PySem.W.mg_of X G Rq⟩,⟨_,PySem.W.mg_of X G ZhK,ZhL⟩⟩⟩
end Bk.Gk
namespace Bk
open PySem PySem.Spec PyProof.Rows L2
theorem Zos{l:PySem.W.OpenLaw}{n k:Nat}{q:Program}{loose:List Str}{XP:(Str→Option Value)→Heap→Prop}{YP:World→Heap→Prop}{d:DefRec}{SK:World→PySem.W.Frag→Prop}{phi:Fn}{x:Str}
  (hn:l.most=some n) (hn2:n≤sizeLine) (hdf:d.params.defaults=[]) (hr:Room k callerA) (hY: ∀(w:World) (h:Heap),YP w h→ ∃K:PySem.W.Frag,K.In h∧SK w K) (himp:importsNone q=true)
  (F: ∀(w:World) (K:PySem.W.Frag) (mg:Str→Option Value) (fa:Addr) (h:Heap),SK w K→K.In h→h.Ns mainGlobals mg→mg d.name=some (.ref fa)→Zow q K h→
    ∃(fd:FuncData) (cs:List (Addr×Addr)) (TT:List (Addr×Str)) (cl:Str→Addr),(∀p∈cs,h.get? p.2=some {cls:= .none,data:= .fields #[]}∧K.lookup p.2=none∧PySem.W.CodeHd h p.1 p.2)∧(∀p∈TT,p.1∈cs.map (·.2))∧(∀(s:Shared) (u:Value),BindsTo s fd ⟨[u],[]⟩ [(x,u)])∧
     ∀base:Heap,K.In base→base.Ns mainGlobals mg→(∀p∈cs,LamX.TabB base mg p.1 p.2)→(∃mm,base.Ns sysModules mm)→GFn l.prog w K mg base k fa fd [x] (Bs K ⟨TT,cl,fun k=>k.hash w⟩ 1 phi))
  (Zks: ∀(ns:List Int) (R:Q1) (E:XQ),ns.length≤n→(∀s',R (.bl true) s')→phi [.U7 ns] ⟨fun _=>none,none⟩ R E):
  PySem.W.WalkO q loose XP YP l.row.toRowW d [] (fun f vs=>PySem.call f vs):=by
 refine Att.attach_call hn hdf fun w s₀ s₁ mg mb fa o pm cd doc a vs ns G Y ho hd hcd hmg hobj hints hlen hg=> ?_
 obtain⟨K,KX,hSK⟩:=hY w _ Y
 have XS:Zow q K s₁.heap:=fun x c P hx ht=>by
  cases e:(recsOf q).find? fun e=>e.name==x with
  |none=>rw[e]at hx;cases hx
  |some d'=>exact PySem.W.tab_of G.T KX e ht
 obtain⟨fd,cs,TT,cl,hcs,hTT,hb,hF⟩:=F w K mg fa _ hSK KX G.T.g hmg XS
 have S:Start K mg mb cs s₁:=⟨KX,G.T.g,G.T.b,G.T.builtins,G.T.nolimit,(let ⟨mm,z,_⟩:=(G.T.seer himp).mods;⟨mm,z⟩),hg,fun p hp=>(hcs p hp).1,fun p hp=>(hcs p hp).2.1,fun p hp=>(hcs p hp).2.2,fun _=>G.T.bmain⟩
 have rv:=vals_ints hints
 have lenV:=hints.length
 have hl:ns.length≤sizeLine:=Nat.le_trans hlen hn2
 have aT:a∉cs.map (·.2):=fun z=>by
  obtain⟨p,hp,e⟩:=List.mem_map.mp z
  have q:=(hcs p hp).1
  rw[e,hobj]at q
  cases q
 have memT: ∀p∈cs,p.2∈cs.map (·.2):=fun p hp=>List.mem_map.mpr ⟨p,hp,rfl⟩
 have isT: ∀b∈cs.map (·.2),s₁.heap.get? b=some {cls:= .none,data:= .fields #[]}:=fun b hb=>by
  obtain⟨p,hp,e⟩:=List.mem_map.mp hb
  rw[←e];exact(hcs p hp).1
 have hsp: ∀H:Hp,(∀p∈cs,H p.2=some (.tbl #[]))→(∀b ps,H b=some (.tbl ps)→b∈cs.map (·.2))→SqL K H a (ns.map V.int)→Bs K ⟨TT,cl,fun k=>k.hash w⟩ 1 phi [.ref a] H (fun v _=>v= .bl true) fun _ _ _=>False:=fun H h1 h2 hS=>ZkC h1 h2 hTT aT hS (Zks ns _ _ hlen fun _=>rfl)
 cases hk:K.lookup a with
 |some o=>
  have e:=KX a o hk
  rw[hobj]at e
  cases e
  have e1: ∀b,H0 cs none b=if b∈cs.map (·.2)then some (.tbl #[])else none:=fun _=>rfl
  have hS:SqL K (H0 cs none) a (ns.map V.int):= .inr ⟨_,vs.toArray,_,hk,rfl,rfl,rfl,by rw[List.size_toArray,lenV];exact hl,by simpa using rv⟩
  refine ZcI (its:=vs) (H:=H0 cs none) S hobj (fun b z=> ?_) (fun p hp=>by rw[e1,if_pos (memT p hp)]) (fun b nb z=> ?_) (fun z=> ?_) hS (fun b u z=> ?_) hr (fun base h1 h2 h3 h4=>hF base h1 h2 h3 h4) hb (hsp _ (fun p hp=>by rw[e1,if_pos (memT p hp)]) (fun b ps z=> ?_) hS)
  ·by_cases hb:b∈cs.map (·.2)
   ·exact .inr hb
   ·exact absurd (by rw[e1,if_neg hb]) z
  ·exact absurd (by rw[e1,if_neg nb]) z
  ·exact absurd (by rw[e1,if_neg aT]) z
  ·by_cases hb:b∈cs.map (·.2)
   ·rw[e1,if_pos hb]at z
    cases z
    exact isT b hb
   ·rw[e1,if_neg hb]at z;cases z
  ·by_cases hb:b∈cs.map (·.2)
   ·exact hb
   ·rw[e1,if_neg hb]at z;cases z
 |none=>
  have e1: ∀b,H0 cs (some (a, .frz {cls:= .type "list",data:= .seq vs.toArray} (.lst (ns.map V.int)))) b=if b∈cs.map (·.2)then some (.tbl #[])else if b=a then some (.frz {cls:= .type "list",data:= .seq vs.toArray} (.lst (ns.map V.int)))else none:=fun _=>rfl
  have hS:SqL K (H0 cs (some (a, .frz {cls:= .type "list",data:= .seq vs.toArray} (.lst (ns.map V.int))))) a (ns.map V.int):= .inl (.inr ⟨{cls:= .type "list",data:= .seq vs.toArray},by rw[e1,if_neg aT,if_pos rfl]⟩)
  refine ZcI (its:=vs) (H:=H0 cs (some (a, .frz {cls:= .type "list",data:= .seq vs.toArray} (.lst (ns.map V.int))))) S hobj (fun b z=> ?_) (fun p hp=>by rw[e1,if_pos (memT p hp)]) (fun b nb z=> ?_) (fun _=>hk) hS (fun b u z=> ?_) hr (fun base h1 h2 h3 h4=>hF base h1 h2 h3 h4) hb (hsp _ (fun p hp=>by rw[e1,if_pos (memT p hp)]) (fun b ps z=> ?_) hS)
  ·by_cases hb:b∈cs.map (·.2)
   ·exact .inr hb
   ·by_cases hb2:b=a
    ·exact .inl hb2
    ·exact absurd (by rw[e1,if_neg hb,if_neg hb2]) z
  ·by_cases hb2:b=a
   ·exact⟨_,_,by rw[e1,if_neg nb,if_pos hb2]⟩
   ·exact absurd (by rw[e1,if_neg nb,if_neg hb2]) z
  ·by_cases hb:b∈cs.map (·.2)
   ·rw[e1,if_pos hb]at z
    cases z
    exact isT b hb
   ·rw[e1,if_neg hb]at z
    by_cases hb2:b=a
    ·rw[if_pos hb2]at z
     cases z
     subst hb2
     exact⟨hobj,by rw[List.length_map];exact hl,vs,_,rv,hobj⟩
    ·rw[if_neg hb2]at z;cases z
  ·by_cases hb:b∈cs.map (·.2)
   ·exact hb
   ·rw[e1,if_neg hb]at z
    by_cases hb2:b=a
    ·rw[if_pos hb2]at z;cases z
    ·rw[if_neg hb2]at z;cases z
end Bk
namespace Hk
open PySem PySem.Spec PyProof.Rows L2 Bk
theorem Yy{K:PySem.W.Frag}{n:Str}{st:Stmt}(b:dB K n=true)(e:fV K (He.ga K n)=Od n st):Yq K n st:=by
 unfold dB at b
 rw[Bool.and_eq_true,Bool.and_eq_true]at b
 obtain⟨b1,b2,b3⟩:=b
 obtain⟨oc,od,osl,kV,doc,pm,an,cdv,ct,h1,h2⟩:=fn_ok e b2
 exact⟨_,_,He.eqO_ok b1,fun_mk h1 h2 b3⟩
end Hk
namespace Bk.Gk
open PySem PySem.Spec PyProof.Rows L2
open Bk.Pa
open Bk.Qa
theorem ZuV{w:World}{K:PySem.W.Frag}{h:Heap}{mg:Str→Option Value}{fa:Addr}(c:Hk.ZkN ck K)(X:K.In h)(G:h.Ns mainGlobals mg)(hfa:mg "law" =some (.ref fa))(TF:Zow qv K h):
  ∃(fd:FuncData) (cs:List (Addr×Addr)) (TT:List (Addr×Str)),(∀p∈cs,h.get? p.2=some {cls:= .none,data:= .fields #[]}∧K.lookup p.2=none∧PySem.W.CodeHd h p.1 p.2)∧(∀p∈TT,p.1∈cs.map (·.2))∧(∀(s:Shared) (v:Value),BindsTo s fd ⟨[v],[]⟩ [("_law_script",v)])∧
   ∀base:Heap,K.In base→base.Ns mainGlobals mg→(∀p∈cs,LamX.TabB base mg p.1 p.2)→(∃mm,base.Ns sysModules mm)→GFn (PySem.Challenge.rw_bothkept_k34_whole_formula_texts).prog w K mg base 11 fa fd ["_law_script"] (Bs K ⟨TT,Oc K,fun k=>k.hash w⟩ 1 ZeC):=by
 have cA:gA K=true:=Hk.okS c
 obtain⟨z0,s0⟩:=He.ba cA
 obtain⟨c0,r0⟩:=He.ba z0
 obtain⟨c1,r1⟩:=He.ba r0
 obtain⟨c2,r2⟩:=He.ba r1
 have Vr:PySem.W.nsIn K mainGlobals "_law_known_right" =some (some (.ref (He.ga K "_law_known_right"))):=He.eqO_ok (Hk.pick c0 38 rfl)
 obtain⟨KJ,KC,KH,KN,KQ,KR,KD,G3,KY,Ui,Dk⟩:=Hk.fn_ok (n:="_law_known_right") (q:="_law_known_right") (st:=Jw) (Hk.Yc c 38 rfl rfl) (Hk.pick c0 39 rfl)
 have Dm:PySem.W.keepIn K (.ref (He.ga K "_law_known_right"))=true:=(Hk.pick c1 0 rfl)
 obtain⟨KZ,K6,Dj,K7,Dq,Dr,Ds,Du⟩:=Hk.ZqD Vr Ui (Hk.pick c1 1 rfl)
 have G4:((recsOf qv).find? fun e=>e.name==("_law_known_right" :Str)).isSome=true:=by kernel_rfl
 have jG:PySem.W.nsIn K mainGlobals "law" =some (some (.ref (He.ga K "law"))):=He.eqO_ok (Hk.pick c1 2 rfl)
 obtain⟨Zm1,ZmY,Zm0,Zm2,Zm3,Zm4,ZmZ,ZdS,Zm5,yZ,Zhy⟩:=Hk.fn_ok (n:="law") (q:="law") (st:=Rz) (Hk.Yc c 39 rfl rfl) (Hk.pick c1 3 rfl)
 have Zhz:PySem.W.keepIn K (.ref (He.ga K "law"))=true:=(Hk.pick c1 4 rfl)
 obtain⟨Zm6,Zm7,Zhx,Zm8,ZhA,ZhB,ZhC,ZhD⟩:=Hk.ZqD jG yZ (Hk.pick c1 5 rfl)
 have ZdT:((recsOf qv).find? fun e=>e.name==("law" :Str)).isSome=true:=by kernel_rfl
 have VN:(Hk.tP K "_law_known_right")≠(Hk.tP K "law"):=of_decide_eq_true (Hk.pick c1 6 rfl)
 have ZhE:PySem.W.nsIn K mainGlobals "abs" =some none:=He.eqO_ok (Hk.pick c1 7 rfl)
 have ZhF:PySem.W.nsIn K mainGlobals "all" =some none:=He.eqO_ok (Hk.pick c1 8 rfl)
 have Zei:PySem.W.nsIn K mainGlobals "bool" =some none:=He.eqO_ok (Hk.pick c1 9 rfl)
 have aq:PySem.W.nsIn K mainGlobals "enumerate" =some none:=He.eqO_ok (Hk.pick c1 10 rfl)
 have ZhG:PySem.W.nsIn K mainGlobals "int" =some none:=He.eqO_ok (Hk.pick c1 11 rfl)
 have FJ:PySem.W.nsIn K mainGlobals "isinstance" =some none:=He.eqO_ok (Hk.pick c1 12 rfl)
 have ZhH:PySem.W.nsIn K mainGlobals "len" =some none:=He.eqO_ok (Hk.pick c1 13 rfl)
 have Zej:PySem.W.nsIn K mainGlobals "list" =some none:=He.eqO_ok (Hk.pick c1 14 rfl)
 have ZhI:PySem.W.nsIn K mainGlobals "min" =some none:=He.eqO_ok (Hk.pick c1 15 rfl)
 have Zaj:PySem.W.nsIn K mainGlobals "range" =some none:=He.eqO_ok (Hk.pick c1 16 rfl)
 have Zek:PySem.W.nsIn K mainGlobals "repr" =some none:=He.eqO_ok (Hk.pick c1 17 rfl)
 have ZhJ:PySem.W.nsIn K mainGlobals "str" =some none:=He.eqO_ok (Hk.pick c1 18 rfl)
 have Zak:PySem.W.nsIn K mainGlobals "tuple" =some none:=He.eqO_ok (Hk.pick c1 19 rfl)
 have hea:eaB K kn ms fs=true:=(Hk.pick c1 20 rfl)
 have fG:Ca K "BadCells" =true:=(Hk.pick c1 21 rfl)
 have FQ:Ca K "BadFormula" =true:=(Hk.pick c1 22 rfl)
 have oF:Ca K "BadNode" =true:=(Hk.pick c1 23 rfl)
 have au:Ca K "BadNumber" =true:=(Hk.pick c1 24 rfl)
 have fH:Ca K "BadPaper" =true:=(Hk.pick c1 25 rfl)
 have FW:Ca K "BadProgram" =true:=(Hk.pick c1 26 rfl)
 have Iv:Ca K "BadStanding" =true:=(Hk.pick c1 27 rfl)
 have oG:Ca K "BadText" =true:=(Hk.pick c1 28 rfl)
 have FZ:Ca K "BadWeaving" =true:=(Hk.pick c1 29 rfl)
 have aC:Ca K "KeptError" =true:=(Hk.pick c1 30 rfl)
 have oH:Ca K "Missing" =true:=(Hk.pick c1 31 rfl)
 have oJ:Ca K "TooMany" =true:=(Hk.pick c1 32 rfl)
 have Zal:Ca K "Twice" =true:=(Hk.pick c1 33 rfl)
 have Ra:PySem.W.nsIn K mainGlobals "BadFormula" =some (some (.ref (He.ga K "BadFormula"))):=He.eqO_ok (Hk.pick c1 34 rfl)
 have Rb:exB K (He.ga K "BadFormula") "place" "ValueError" "ValueError.__new__" "ValueError.__init__" [.type "ValueError", .type "Exception", .type "BaseException", .type "object"]=true:=(Hk.pick c1 35 rfl)
 have Rc:PySem.W.findIn K (.ref (He.ga K "BadFormula")) "__init__" =some (some (.ref (He.ma K (He.ga K "BadFormula") "__init__"))):=He.eqO_ok (Hk.pick c1 36 rfl)
 have Rg:PySem.W.isFn K (.ref (He.ma K (He.ga K "BadFormula") "__init__"))=true:=(Hk.pick c1 37 rfl)
 obtain⟨lB,lH,iY,aj,kZ,iT,lg,lD,CT,lu,Fx,iU,iV,Fy,iZ,Mg,lJ,lC,iW,jc,Rh,Ri,Rj,Rk,Rm,Iw⟩:=Hk.ZqE (st:=Uo) (Hk.Yc c 40 rfl rfl) (Hk.pick c1 38 rfl)
 have oK:PySem.W.nsIn K mainGlobals "BadText" =some (some (.ref (He.ga K "BadText"))):=He.eqO_ok (Hk.pick c1 39 rfl)
 have oM:exB K (He.ga K "BadText") "line" "ValueError" "ValueError.__new__" "ValueError.__init__" [.type "ValueError", .type "Exception", .type "BaseException", .type "object"]=true:=(Hk.pick c2 0 rfl)
 have oN:PySem.W.findIn K (.ref (He.ga K "BadText")) "__init__" =some (some (.ref (He.ma K (He.ga K "BadText") "__init__"))):=He.eqO_ok (Hk.pick c2 1 rfl)
 have oO:PySem.W.isFn K (.ref (He.ma K (He.ga K "BadText") "__init__"))=true:=(Hk.pick c2 2 rfl)
 obtain⟨ZaZ,Za2,vP,uE,ZaW,vL,ZaX,Za1,Eu,ZaY,ou,vM,vN,oE,vQ,ak,Za3,Za0,vO,vR,oR,oU,oV,oW,oX,fJ⟩:=Hk.ZqE (st:=Og) (Hk.Yc c 41 rfl rfl) (Hk.pick c2 3 rfl)
 obtain⟨Za4,oY⟩:=Hk.str_ok (K:=K) (Hk.pick c2 4 rfl)
 obtain⟨Za5,oZ⟩:=Hk.str_ok (K:=K) (Hk.pick c2 5 rfl)
 obtain⟨lK,Ro⟩:=Hk.int_ok (K:=K) (Hk.pick c2 6 rfl)
 obtain⟨lM,Rp⟩:=Hk.int_ok (K:=K) (Hk.pick c2 7 rfl)
 obtain⟨je,Iz⟩:=Hk.int_ok (K:=K) (Hk.pick c2 8 rfl)
 obtain⟨bG,Mh⟩:=Hk.int_ok (K:=K) (Hk.pick c2 9 rfl)
 obtain⟨jf,IK⟩:=Hk.int_ok (K:=K) (Hk.pick c2 10 rfl)
 obtain⟨lN,Rq⟩:=Hk.int_ok (K:=K) (Hk.pick c2 11 rfl)
 have ZhK:PySem.W.nsIn K mainGlobals "OPS" =some (some (.ref (He.ga K "OPS"))):=He.eqO_ok (Hk.pick c2 12 rfl)
 have ZhL:gB K (.tup [(.str "="),(.str "!="),(.str "<"),(.str "<="),(.str ">"),(.str ">=")]) (.ref (He.ga K "OPS"))=true:=(Hk.pick c2 13 rfl)
 exact all_mk (l:=PySem.Challenge.rw_bothkept_k34_whole_formula_texts) X G hfa TF (Hk.Yy (Hk.pick c0 0 rfl) (Hk.Yc c 0 rfl rfl)) (Hk.Yy (Hk.pick c0 1 rfl) (Hk.Yc c 1 rfl rfl)) (Hk.Yy (Hk.pick c0 2 rfl) (Hk.Yc c 2 rfl rfl)) (Hk.Yy (Hk.pick c0 3 rfl) (Hk.Yc c 3 rfl rfl)) (Hk.Yy (Hk.pick c0 4 rfl) (Hk.Yc c 4 rfl rfl)) (Hk.Yy (Hk.pick c0 5 rfl) (Hk.Yc c 5 rfl rfl)) (Hk.Yy (Hk.pick c0 6 rfl) (Hk.Yc c 6 rfl rfl)) (Hk.Yy (Hk.pick c0 7 rfl) (Hk.Yc c 7 rfl rfl)) (Hk.Yy (Hk.pick c0 8 rfl) (Hk.Yc c 8 rfl rfl)) (Hk.Yy (Hk.pick c0 9 rfl) (Hk.Yc c 9 rfl rfl)) (Hk.Yy (Hk.pick c0 10 rfl) (Hk.Yc c 10 rfl rfl)) (Hk.Yy (Hk.pick c0 11 rfl) (Hk.Yc c 11 rfl rfl)) (Hk.Yy (Hk.pick c0 12 rfl) (Hk.Yc c 12 rfl rfl)) (Hk.Yy (Hk.pick c0 13 rfl) (Hk.Yc c 13 rfl rfl)) (Hk.Yy (Hk.pick c0 14 rfl) (Hk.Yc c 14 rfl rfl)) (Hk.Yy (Hk.pick c0 15 rfl) (Hk.Yc c 15 rfl rfl)) (Hk.Yy (Hk.pick c0 16 rfl) (Hk.Yc c 16 rfl rfl)) (Hk.Yy (Hk.pick c0 17 rfl) (Hk.Yc c 17 rfl rfl)) (Hk.Yy (Hk.pick c0 18 rfl) (Hk.Yc c 18 rfl rfl)) (Hk.Yy (Hk.pick c0 19 rfl) (Hk.Yc c 19 rfl rfl)) (Hk.Yy (Hk.pick c0 20 rfl) (Hk.Yc c 20 rfl rfl)) (Hk.Yy (Hk.pick c0 21 rfl) (Hk.Yc c 21 rfl rfl)) (Hk.Yy (Hk.pick c0 22 rfl) (Hk.Yc c 22 rfl rfl)) (Hk.Yy (Hk.pick c0 23 rfl) (Hk.Yc c 23 rfl rfl)) (Hk.Yy (Hk.pick c0 24 rfl) (Hk.Yc c 24 rfl rfl)) (Hk.Yy (Hk.pick c0 25 rfl) (Hk.Yc c 25 rfl rfl)) (Hk.Yy (Hk.pick c0 26 rfl) (Hk.Yc c 26 rfl rfl)) (Hk.Yy (Hk.pick c0 27 rfl) (Hk.Yc c 27 rfl rfl)) (Hk.Yy (Hk.pick c0 28 rfl) (Hk.Yc c 28 rfl rfl)) (Hk.Yy (Hk.pick c0 29 rfl) (Hk.Yc c 29 rfl rfl)) (Hk.Yy (Hk.pick c0 30 rfl) (Hk.Yc c 30 rfl rfl)) (Hk.Yy (Hk.pick c0 31 rfl) (Hk.Yc c 31 rfl rfl)) (Hk.Yy (Hk.pick c0 32 rfl) (Hk.Yc c 32 rfl rfl)) (Hk.Yy (Hk.pick c0 33 rfl) (Hk.Yc c 33 rfl rfl)) (Hk.Yy (Hk.pick c0 34 rfl) (Hk.Yc c 34 rfl rfl)) (Hk.Yy (Hk.pick c0 35 rfl) (Hk.Yc c 35 rfl rfl)) (Hk.Yy (Hk.pick c0 36 rfl) (Hk.Yc c 36 rfl rfl)) (Hk.Yy (Hk.pick c0 37 rfl) (Hk.Yc c 37 rfl rfl)) Vr Ui Dk Dm Dq Dr Ds Du G4 jG yZ Zhy Zhz ZhA ZhB ZhC ZhD ZdT VN ZhE ZhF Zei aq ZhG FJ ZhH Zej ZhI Zaj Zek ZhJ Zak hea fG FQ oF au fH FW Iv oG FZ aC oH oJ Zal Ra Rb Rc Rg Rh Ri Rj Rk Rm Iw oK oM oN oO oR oU oV oW oX fJ rfl oY oZ Ro Rp Iz Mh IK Rq ZhK ZhL
end Bk.Gk
open PySem PySem.W PyProof.Rows
theorem PySem.Challenge.cw_bothkept_k34_whole_formula_texts_holds : PySem.Challenge.rw_bothkept_k34_whole_formula_texts.Holds := by
 w_on;o_law
 refine HandSHeadRun.head_any (r:=Bk.Gk.RR) (q:=Bk.Gk.qv) (H:=Hk.hook Bk.Gk.ck Bk.Gk.xs 7) (ob:=Hk.ob Bk.Gk.ck Bk.Gk.xs 7) (M:=12000) (loose:=Bk.Gk.nm) (d:=HandSHeadRun.topDef Bk.Gk.RR.prog 68) (kwd:=[])
  (Hk.Zuq _ _ _) Bk.Gk.p_e Bk.Gk.p_f Bk.Gk.run Bk.Gk.p_d Bk.Gk.p_p (by kernel_rfl) Bk.Gk.p_k
  (by first|assumption|decide+kernel) (by decide+kernel) Bk.Gk.p_b ?hw ?hc
 case hw=>w_witness2
 case hc=>
  refine Bk.Zos (l:=PySem.Challenge.rw_bothkept_k34_whole_formula_texts) (n:=63) (k:=11) (x:="_law_script") (phi:=Bk.Gk.ZeC) (SK:=fun _ K=>Hk.ZkN Bk.Gk.ck K)
   rfl (by decide) (by kernel_rfl) ⟨rfl,by decide,by decide⟩ (fun _ _ Y=>Y) (by kernel_rfl) ?F (fun ns R E hl h=>⟨ns,rfl,hl,rfl,h⟩)
  intro w K mg fa h c KX G hmg TF
  have e:(HandSHeadRun.topDef Bk.Gk.RR.prog 68).name=("law" :PySem.Str):=by kernel_rfl
  obtain⟨fd,cs,TT,r⟩:=Bk.Gk.ZuV c KX G (by rw[←e];exact hmg) TF
  exact⟨fd,cs,TT,_,r⟩
