import PyProof.Rows.All
import PyProof.DictRoadsH
import KE.KeyNested
import HandS.Dict
import Wide.All
import OpenK.AllK
import Wide.FinOn
import HandS.ForMost
import HandS.Exc
import HandS.ExcOwn
import HandS.ExcCtx
import HandS.Hot
import HandS.HotCalls
import HandS.SuiteRaise
import HandS.RaiseFrom
import HandS.WordsExc
import HandS.CallSlots
import HandS.Defaults
import HandS.Star
import HandS.ClsMeth
import HandS.Property
import HandS.IsInst
import HandS.StrMore
import HandS.Flow
import HandS.Style
import HandS.Evl
import HandS.HeadNt
import HandS.Iter
import KE.KDictCopyH
import HandS.Walk
import HandS.TupAny
import KE.KCallOwn
import KE.DatumOrd
import HandS.RaiseMore
import HandS.SortKw
import HandS.Head0
import HandS.Head1
import HandS.Head2
import HandS.HeadEnd
import HandS.Codes
import HandS.FStr
import HandS.ExcInit
import HandS.ExcField
import HandS.ExcIs
import HandS.TryOnly
import PyProof.ReprRoads
import KE.KExcIs
import KE.KOpsOwn
import KE.GoesEnum
import PyProof.EqKinds
import HandS.Zip
import KE.KDictList
import PyProof.StrWalks
import KE.KExcInit
import HandS.TupMul
import KE.GoesRaise
import HandS.DictComp
import HandS.Conv
import KE.KAsSuite
import HandS.ExcInitHot
import KE.KExcRaise
import PyProof.ZipIter
import PyProof.Draws
import KE.GoesZip
import KE.GoesMore
import HandS.Replace
import KE.SortData
import HandS.Deep
import PyProof.AutoSeq1
import PyProof.TupleOps
import KE.KStateDown
import PySem.Challenge.RW_indentholes_k51_no_mends
import Lean
import HandS.FStrTup
set_option Elab.async false
set_option linter.all false
set_option maxRecDepth 100000
set_option maxHeartbeats 4000000
namespace DL
open PySem PySem.Spec
abbrev MKey:=Option (List Int)
def mkV:MKey→Addr→Value
 |none,_=>.none
 |some _,b=>.ref b
def zxjb:MKey→Int
 |none=>reduceHash 0xFCA86420
 |some is=>reduceHash (Builtin.Tuple.tupleHashOf (is.map hashInt))
abbrev MRow:=MKey × Addr × Value
def mEnt (x:MRow):DictEntry:=⟨zxjb x.1,mkV x.1 x.2.1,x.2.2⟩
def TabM (h:Heap) (d:Addr) (xs:List MRow):Prop:=∃o es ep,h.get? d=some o∧o.ExactDict∧o.data = .dict es ep∧es.toList=xs.map mEnt∧(xs.map (·.1)).Nodup
section
open L2
abbrev MVRow:=MKey × Addr × V
abbrev PairM:List MVRow→List MRow→Prop:=Paired fun (p:MVRow) (q:MRow)=>p.1=q.1∧p.2.1=q.2.1∧RelV p.2.2 q.2.2
/-- what is true of such a dict's object -/
def dmP (a:Addr) (xs:List MVRow):Heap→Prop:=fun h=>xs.length≤sizeLine∧(a==sysModules)=false∧∃ys:List MRow,PairM xs ys∧TabM h a ys
/-- the tuples that are keys -/
def MOk (H:Hp) (xs:List MVRow):Prop:=∀x∈xs,∀is,x.1=some is→H x.2.1=some (.tup (is.map V.int))
/-- y is the key k; a tuple stands at b -/
def zpcb (H:Hp) (k:MKey) (b:Addr) (y:V):Prop:=match k with
 |none=>y = .non
 |some is=>y = .ref b∧H b=some (.tup (is.map V.int))
end
end DL
namespace DL
open PySem PySem.Spec L2
open Evl (Ex)
abbrev Fg:=PySem.W.Frag
/-- data that does not change -/
inductive D where
 |non |bl (b:Bool) |int (i:Int) |str (x:Str)
 |lst (ds:List D) |tup (ds:List D) |fz (ds:List D)
 |obj (C:Str) (ns:List Str) (ds:List D)
 |dic (ks:List Key) (ds:List D)
 |cls (C:Str)
 /-- a tuple of keys (numbers, texts), made by the run -/
 |tk (ks:List Key)
 /-- anything: nothing is said of it -/
 |opq
/-- what a name holds: data, or the k-th cell -/
inductive W where
 |d (x:D) |c (k:Nat)
 |ex (a dd:Addr) (C f:Str) (p:D)
 /-- the i-th thing of the heap (things that hold one another and stay) -/
 |h (i:Nat)
/-- what a thing of the heap holds -/
inductive HW where
 |d (x:D) |h (i:Nat)
def HW.toD:HW→D
 |.d x=>x
 |.h _=>.opq
def HW.toW:HW→W
 |.d x=>.d x
 |.h i=>.h i
inductive HC where
 |lst (ws:List HW)
 |obj (C:Str) (ns:List Str) (ws:List HW)
 |dic (ks:List Key) (ws:List HW)
 |tup (ws:List HW)
def HC.toD:HC→D
 |.lst ws=>.lst (ws.map HW.toD)
 |.obj C ns ws=>.obj C ns (ws.map HW.toD)
 |.dic ks ws=>.dic ks (ws.map HW.toD)
 |.tup _=>.opq
inductive Cell where
 |lst (ds:List D)
 |obj (C:Str) (ns:List Str) (ds:List D)
 |zd (x:D)
 |dic (ks:List Key) (ds:List D)
 /-- a dict whose keys are numbers and None; one whose keys are None and tuples of numbers -/
 |dn (ks:List (Option Int)) (ds:List D)
 |dt (ks:List MKey) (ds:List D)
 |hp (hs:List HC)
abbrev Mem:=List Cell
def Cell.toD:Cell→D
 |.lst ds=>.lst ds
 |.obj C ns ds=>.obj C ns ds
 |.zd x=>x
 |.dic ks ds=>.dic ks ds
 |.dn _ _=>.opq
 |.dt _ _=>.opq
 |.hp _=>.opq
/-- what a cell is as data that stays -/
def Cell.fz:Cell→D
 |.dic _ _=>.opq
 |c=>c.toD
/-- may still change -/
def Cell.live:Cell→Bool
 |.zd _=>false
 |.hp _=>false
 |_=>true
/-- the heap stands in the first cell -/
def heapOf:Mem→List HC
 |.hp hs::_=>hs
 |_=>[]
def W.rd:W→Mem→Option D
 |.d x,_=>some x
 |.c k,m=>(m[k]?).map Cell.toD
 |.ex _ _ _ _ _,_=>none
 |.h i,m=>((heapOf m)[i]?).map HC.toD
mutual
inductive Rp (K:Fg) (H:Hp):V→D→Prop
 |non:Rp K H .non .non
 |bl (b:Bool):Rp K H (.bl b) (.bl b)
 |int (i:Int):Rp K H (.int i) (.int i)
 |str (x:Str):Rp K H (.str x) (.str x)
 |lst {a:Addr} {vs:List V} {ds:List D}:H a=some (.lst vs)→RpL K H vs ds→Rp K H (.ref a) (.lst ds)
 |fz {a:Addr} {vs:List V} {ds:List D}:SqL K H a vs→RpL K H vs ds→Rp K H (.ref a) (.fz ds)
 |tup {a:Addr} {vs:List V} {ds:List D}:SqT K H a vs→RpL K H vs ds→Rp K H (.ref a) (.tup ds)
 |obj {a dx:Addr} {fs:List (Str × V)} {C:Str} {ns:List Str} {ds:List D}:H a=some (.ins (He.ga K C) dx fs)→fs.map (·.1)=ns→RpL K H (fs.map (·.2)) ds→Rp K H (.ref a) (.obj C ns ds)
 |dic {a:Addr} {o:Obj} {kvs:List (Key × V)} {ks:List Key} {ds:List D}:H a=some (.frz o (.dK kvs))→kvs.map (·.1)=ks→RpL K H (kvs.map (·.2)) ds→Rp K H (.ref a) (.dic ks ds)
 |cls {C:Str}:Rp K H (.ref (He.ga K C)) (.cls C)
 |tk {a:Addr} {ks:List Key}:H a=some (.tup (ks.map kV))→Rp K H (.ref a) (.tk ks)
 |opq {v:V}:Rp K H v .opq
inductive RpL (K:Fg) (H:Hp):List V→List D→Prop
 |nil:RpL K H [] []
 |cons {v:V} {vs:List V} {d:D} {ds:List D}:Rp K H v d→RpL K H vs ds→RpL K H (v::vs) (d::ds)
end
mutual
theorem Rp.mono {K:Fg} {H H':Hp} (e:Ex H H'):∀{v:V} {d:D},Rp K H v d→Rp K H' v d
 |_,_,.non=>.non
 |_,_,.bl b=>.bl b
 |_,_,.int i=>.int i
 |_,_,.str x=>.str x
 |_,_,.lst h r=>.lst (e _ _ h) (RpL.mono e r)
 |_,_,.fz h r=>.fz (Evl.ex_l e h) (RpL.mono e r)
 |_,_,.tup h r=>.tup (Evl.ex_t e h) (RpL.mono e r)
 |_,_,.obj h n r=>.obj (e _ _ h) n (RpL.mono e r)
 |_,_,.dic h n r=>.dic (e _ _ h) n (RpL.mono e r)
 |_,_,.cls=>.cls
 |_,_,.tk h=>.tk (e _ _ h)
 |_,_,.opq=>.opq
theorem RpL.mono {K:Fg} {H H':Hp} (e:Ex H H'):∀{v:List V} {d:List D},RpL K H v d→RpL K H' v d
 |_,_,.nil=>.nil
 |_,_,.cons h r=>.cons (Rp.mono e h) (RpL.mono e r)
end
section
variable {K:Fg} {H H':Hp}
theorem RpL.length:∀{vs:List V} {ds:List D},RpL K H vs ds→vs.length=ds.length
 |_,_,.nil=>rfl
 |_,_,.cons _ r=>congrArg Nat.succ r.length
theorem RpL.get:∀{vs:List V} {ds:List D} {i:Nat} {d:D},RpL K H vs ds→ds[i]?=some d→∃v,vs[i]?=some v∧Rp K H v d
 |_,_,_,_,.nil,e=>by simp at e
 |_,_,0,_,.cons r _,e=>by simp at e;subst e;exact⟨_,rfl,r⟩
 |_,_,i+1,d,.cons _ t,e=>by
  obtain⟨u,h1,h2⟩:=RpL.get (i:=i) (d:=d) t (by simpa using e)
  exact⟨u,by simpa using h1,h2⟩
theorem RpL.append:∀{xs ys:List V} {us ws:List D},RpL K H xs us→RpL K H ys ws→RpL K H (xs++ys) (us++ws)
 |_,_,_,_,.nil,s=>s
 |_,_,_,_,.cons r t,s=>.cons r (RpL.append t s)
theorem RpL.take:∀{xs:List V} {us:List D} (n:Nat),RpL K H xs us→RpL K H (xs.take n) (us.take n)
 |_,_,0,_=>by simp;exact .nil
 |_,_,_+1,.nil=>by simp;exact .nil
 |_,_,n+1,.cons r t=>by simp;exact .cons r (RpL.take n t)
theorem RpL.drop:∀{xs:List V} {us:List D} (n:Nat),RpL K H xs us→RpL K H (xs.drop n) (us.drop n)
 |_,_,0,r=>by simpa using r
 |_,_,_+1,.nil=>by simp;exact .nil
 |_,_,n+1,.cons _ t=>by simp;exact RpL.drop n t
theorem RpL.set {x:V} {u:D} (r:Rp K H x u):∀{xs:List V} {us:List D} (i:Nat),RpL K H xs us→RpL K H (xs.set i x) (us.set i u)
 |_,_,_,.nil=>.nil
 |_,_,0,.cons _ t=>.cons r t
 |_,_,i+1,.cons q t=>.cons q (RpL.set r i t)
theorem RpL.strs:∀(xs:List Str),RpL K H (xs.map V.str) (xs.map D.str)
 |[]=>.nil
 |x::xs=>.cons (.str x) (RpL.strs xs)
theorem RpL.ints:∀(xs:List Int),RpL K H (xs.map V.int) (xs.map D.int)
 |[]=>.nil
 |x::xs=>.cons (.int x) (RpL.ints xs)
end
def oLeaf:Option Int→PySem.Leaf
 |none=>.none
 |some i=>.num i
theorem zx1:∀{a b:Option Int},oLeaf a=oLeaf b→a=b
 |none,none,_=>rfl
 |some _,some _,e=>by injection e with e;rw[e]
 |none,some _,e=>nomatch e
 |some _,none,e=>nomatch e
def optKind (prog:Program) (w:World):KeyKind prog w (Option Int) where
 is:=fun k v=>PySem.Leaf.isOf (oLeaf k) v
 hash:=fun k=>(match k with
  |none=>reduceHash 0xFCA86420
  |some i=>hashInt i)
 inj:=fun v a b ha hb=>zx1 ((PySem.leafKind prog w).inj v _ _ ha hb)
 byValue:=fun k v h=>(PySem.leafKind prog w).byValue _ v h
 pyHash:=fun {A E s k v Q} hv h=>(PySem.leafKind prog w).pyHash hv (by
  cases k with
  |none=>exact h
  |some i=>exact h)
 eqBool:=fun {A E s a b u v Q} hu hv h=>(PySem.leafKind prog w).eqBool hu hv (by
  have e:decide (oLeaf a=oLeaf b)=decide (a=b):=by
   by_cases z:a=b
   ·rw[decide_eq_true z,decide_eq_true (congrArg oLeaf z)]
   ·rw[decide_eq_false z,decide_eq_false fun q=>z (zx1 q)]
  rw[e]
  exact h)
 «strs» := fun k x t v h=>(PySem.leafKind prog w).strs (oLeaf k) x t v h
/-- what is true of such a dict's object -/
def dnP (a:Addr) (kvs:List (Option Int × V)):Heap→Prop:=fun h=>kvs.length≤sizeLine∧(a==sysModules)=false∧∃vs,KV kvs vs∧∃(P:Program) (w:World),h.DictOf (optKind P w) a vs
def CellAt (K:Fg) (H1 H:Hp) (a:Addr):Cell→Prop
 |.lst ds=>∃vs,H a=some (.lst vs)∧RpL K H1 vs ds
 |.obj C ns ds=>∃dx fs,H a=some (.ins (He.ga K C) dx fs)∧fs.map (·.1)=ns∧RpL K H1 (fs.map (·.2)) ds
 |.zd x=>(∃o,H a=some o)∧Rp K H1 (.ref a) x
 |.dic ks ds=>∃kvs,H a=some (.dK kvs)∧kvs.map (·.1)=ks∧RpL K H1 (kvs.map (·.2)) ds
 |.dn ks ds=>∃kvs:List (Option Int × V),H a=some (.ext (dnP a kvs))∧kvs.map (·.1)=ks∧RpL K H1 (kvs.map (·.2)) ds
 |.dt ks ds=>∃xs:List MVRow,H a=some (.ext (dmP a xs))∧xs.map (·.1)=ks∧MOk H1 xs∧RpL K H1 (xs.map (·.2.2)) ds
 |.hp _=>True
/-- the addresses of the cells; lists under construction that no cell holds -/
structure Gh0 where
 al:List Addr
 pn:List (Addr × HO)
structure Rel0 (K:Fg) (H1 H:Hp) (al:Gh0) (m:Mem):Prop where
 ex:Ex H1 H
 len:al.al.length=m.length
 nd:al.al.tail.Nodup
 fr:∀(k:Nat) (a:Addr) (c:Cell),al.al[k]?=some a→m[k]?=some c→c.live=true→H1 a=none
 cells:∀(k:Nat) (a:Addr) (c:Cell),al.al[k]?=some a→m[k]?=some c→CellAt K H1 H a c
 pin:∀q∈al.pn,H q.1=some q.2∧H1 q.1=none∧q.1 ∉ al.al.tail
 hp0:∃hs rest,m = .hp hs::rest
 only:∀(k:Nat) (hs:List HC),m[k]?=some (.hp hs)→k=0
 pnd:(al.pn.map (·.1)).Nodup
/-- the addresses of the cells, those of the heap's things; lists under construction that no cell holds -/
structure AA where
 fl:List Addr
 ha:List Addr
structure AA.le (g g':AA):Prop where
 pre:g.fl <+: g'.fl
 hpre:g.ha <+: g'.ha
theorem AA.refl (g:AA):AA.le g g:=⟨List.prefix_refl _,List.prefix_refl _⟩
theorem AA.le.trans {a b c:AA} (h:AA.le a b) (k:AA.le b c):AA.le a c:=⟨h.pre.trans k.pre,h.hpre.trans k.hpre⟩
structure Gh where
 al:AA
 pn:List (Addr × HO)
structure Le (g g':Gh):Prop where
 pre:AA.le g.al g'.al
 pn:g'.pn=g.pn
theorem Le.trans {a b c:Gh} (h:Le a b) (k:Le b c):Le a c:=⟨h.pre.trans k.pre,k.pn.trans h.pn⟩
def RpH (K:Fg) (H1:Hp) (ha:List Addr) (v:V):HW→Prop
 |.d x=>Rp K H1 v x
 |.h i=>∃a,ha[i]?=some a∧v = .ref a
inductive RpHs (K:Fg) (H1:Hp) (ha:List Addr):List V→List HW→Prop
 |nil:RpHs K H1 ha [] []
 |cons {v:V} {vs:List V} {w:HW} {ws:List HW}:RpH K H1 ha v w→RpHs K H1 ha vs ws→RpHs K H1 ha (v::vs) (w::ws)
/-- a thing of the heap stands at its address -/
def HAt (K:Fg) (H1:Hp) (ha:List Addr) (H:Hp) (a:Addr):HC→Prop
 |.lst ws=>∃vs,H a=some (.lst vs)∧RpHs K H1 ha vs ws
 |.obj C ns ws=>∃dx fs,H a=some (.ins (He.ga K C) dx fs)∧fs.map (·.1)=ns∧RpHs K H1 ha (fs.map (·.2)) ws
 |.dic ks ws=>∃kvs,H a=some (.dK kvs)∧kvs.map (·.1)=ks∧RpHs K H1 ha (kvs.map (·.2)) ws
 |.tup ws=>∃vs,H a=some (.tup vs)∧RpHs K H1 ha vs ws
def Gh.g0 (g:Gh):Gh0:=⟨g.al.fl,g.pn⟩
structure Rel (K:Fg) (H1 H:Hp) (al:Gh) (m:Mem):Prop where
 b:Rel0 K H1 H al.g0 m
 hpin:∀q∈al.pn,q.1 ∉ al.al.ha
 hlen:al.al.ha.length=(heapOf m).length
 hnd:al.al.ha.Nodup
 hfr:∀a∈al.al.ha,H1 a=none∧a ∉ al.al.fl.tail
 hcells:∀(i:Nat) (a:Addr) (h:HC),al.al.ha[i]?=some a→(heapOf m)[i]?=some h→HAt K H1 al.al.ha H a h
def RpW (K:Fg) (H1:Hp) (al:Gh) (v:V):W→Prop
 |.d x=>Rp K H1 v x
 |.c k=>∃a,al.al.fl[k]?=some a∧v = .ref a
 |.ex a dd C f p=>v = .ref a∧∃u,H1 dd=some (.xd [(f,u)])∧Rp K H1 u p
 |.h i=>∃a,al.al.ha[i]?=some a∧v = .ref a
abbrev Env:=List (Option W)
structure RpE (K:Fg) (H1:Hp) (al:Gh) (σ : St) (dl:Env):Prop where
 len : σ.length=dl.length
 at_:∀(i:Nat) (w:W),dl[i]?=some (some w)→∃v,σ[i]?=some (some v)∧RpW K H1 al v w
inductive RpWs (K:Fg) (H1:Hp) (al:Gh):List V→List W→Prop
 |nil:RpWs K H1 al [] []
 |cons {v:V} {vs:List V} {w:W} {ws:List W}:RpW K H1 al v w→RpWs K H1 al vs ws→RpWs K H1 al (v::vs) (w::ws)
inductive Rh (K:Fg) (H1 H:Hp):V→D→Prop
 |p {v:V} {x:D}:Rp K H1 v x→Rh K H1 H v x
 |c {a:Addr} {c:Cell}:c.live=true→CellAt K H1 H a c→Rh K H1 H (.ref a) c.toD
section
variable {K:Fg} {H1 H1' H H':Hp} {al al':Gh} {m:Mem}
theorem z6z {l l':List Addr} (p:l <+: l') {k:Nat} {a:Addr} (h:l[k]?=some a):l'[k]?=some a:=by
 obtain⟨r,e⟩:=p
 rw[←e,List.getElem?_append_left (List.getElem?_eq_some_iff.mp h).1]
 exact h
theorem RpW.monoP (e:Ex H1 H1') (p:AA.le al.al al'.al) {v:V}:∀{w:W},RpW K H1 al v w→RpW K H1' al' v w
 |.d _,h=>Rp.mono e h
 |.c k,⟨a,h,q⟩=>⟨a,z6z p.pre h,q⟩
 |.ex _ _ _ _ _,⟨q,u,h1,h2⟩=>⟨q,u,e _ _ h1,h2.mono e⟩
 |.h k,⟨a,h,q⟩=>⟨a,z6z p.hpre h,q⟩
theorem RpW.mono (e:Ex H1 H1') (p:Le al al') {v:V}:∀{w:W},RpW K H1 al v w→RpW K H1' al' v w:=RpW.monoP e p.pre
theorem RpWs.mono (e:Ex H1 H1') (p:Le al al'):∀{vs:List V} {ws:List W},RpWs K H1 al vs ws→RpWs K H1' al' vs ws
 |_,_,.nil=>.nil
 |_,_,.cons h r=>.cons (h.mono e p) (r.mono e p)
theorem RpWs.length:∀{vs:List V} {ws:List W},RpWs K H1 al vs ws→vs.length=ws.length
 |_,_,.nil=>rfl
 |_,_,.cons _ r=>congrArg Nat.succ r.length
theorem RpE.mono (e:Ex H1 H1') (p:Le al al') {σ : St} {dl:Env} (h:RpE K H1 al σ dl):RpE K H1' al' σ dl:=
 ⟨h.len,fun i w q=>let ⟨v,a,b⟩:=h.at_ i w q;⟨v,a,b.mono e p⟩⟩
theorem RpE.set {σ : St} {dl:Env} (h:RpE K H1 al σ dl) (i:Nat) {v:V} {w:W} (r:RpW K H1 al v w):RpE K H1 al (σ.set i (some v)) (dl.set i (some w)):=by
 refine⟨by rw[List.length_set,List.length_set,h.len],fun j x q=>?_⟩
 by_cases hj:i=j
 ·subst hj
  have hl:i<dl.length:=by
   have:=(List.getElem?_eq_some_iff.mp q).1
   rwa [List.length_set] at this
  rw[List.getElem?_set_self hl] at q
  cases q
  exact⟨v,List.getElem?_set_self (by rw[h.len];exact hl),r⟩
 ·rw[List.getElem?_set_ne hj] at q
  obtain⟨u,a,b⟩:=h.at_ j x q
  exact⟨u,by rw[List.getElem?_set_ne hj];exact a,b⟩
theorem CellAt.mono (e:Ex H1 H1') {a:Addr} (k:∀o,H a=some o→H' a=some o):∀{c:Cell},CellAt K H1 H a c→CellAt K H1' H' a c
 |.lst _,⟨vs,h,r⟩=>⟨vs,k _ h,r.mono e⟩
 |.obj _ _ _,⟨dx,fs,h,n,r⟩=>⟨dx,fs,k _ h,n,r.mono e⟩
 |.zd _,⟨⟨o,h⟩,r⟩=>⟨⟨o,k _ h⟩,r.mono e⟩
 |.dic _ _,⟨kvs,h,n,r⟩=>⟨kvs,k _ h,n,r.mono e⟩
 |.dn _ _,⟨kvs,h,n,r⟩=>⟨kvs,k _ h,n,r.mono e⟩
 |.dt _ _,⟨xs,h,n,q,r⟩=>⟨xs,k _ h,n,fun x hx is ei=>e _ _ (q x hx is ei),r.mono e⟩
 |.hp _,h=>h
theorem zsz {l:List Addr} (nd:l.tail.Nodup) {i j:Nat} {a:Addr} (hi:0<i) (hj:0<j) (h1:l[i]?=some a) (h2:l[j]?=some a):i=j:=by
 cases l with
 |nil=>simp at h1
 |cons x l=>
  cases i with
  |zero=>cases hi
  |succ i=>
   cases j with
   |zero=>cases hj
   |succ j=>
    have h1:l[i]?=some a:=h1
    have h2:l[j]?=some a:=h2
    rw[(List.getElem?_inj (List.getElem?_eq_some_iff.mp h1).1 nd).mp (h1.trans h2.symm)]
theorem zxi {l:List Addr} {i:Nat} {a:Addr} (hi:0<i) (h:l[i]?=some a):a∈l.tail:=by
 cases l with
 |nil=>simp at h
 |cons x l=>
  cases i with
  |zero=>cases hi
  |succ i=>exact List.mem_of_getElem? (show l[i]?=some a from h)
theorem nohp {m:Mem} (h:∃hs rest,m = .hp hs::rest) {k:Nat} {c:Cell} (hc:m[k]?=some c) (hl:c.live=true):0<k:=by
 obtain⟨hs,rest,rfl⟩:=h
 cases k with
 |zero=>cases hc;cases hl
 |succ k=>exact Nat.succ_pos _
section
variable {al al':Gh0}
theorem Rel0.at_ (r:Rel0 K H1 H al m) {k:Nat} {a:Addr} (h:al.al[k]?=some a):∃c,m[k]?=some c∧CellAt K H1 H a c:=by
 have hl:k<m.length:=by
  rw[←r.len]
  exact (List.getElem?_eq_some_iff.mp h).1
 exact⟨m[k],List.getElem?_eq_getElem hl,r.cells k a _ h (List.getElem?_eq_getElem hl)⟩
theorem zlfb {m:Mem} (h:∃hs rest,m = .hp hs::rest) {k:Nat} (hk:0<k) (c:Cell):∃hs rest,m.set k c = .hp hs::rest:=by
 obtain⟨hs,rest,rfl⟩:=h
 cases k with
 |zero=>cases hk
 |succ n=>exact⟨hs,rest.set n c,rfl⟩
theorem z05 {m:Mem} {c:Cell} {j:Nat} (o:∀(k:Nat) (hs:List HC),m[k]?=some (.hp hs)→k=0) (n:∀hs,c ≠ .hp hs) (k:Nat) (hs:List HC) (h:(m.set j c)[k]?=some (.hp hs)):k=0:=by
 by_cases hj:j=k
 ·subst hj
  have hl:j<m.length:=by
   have:=(List.getElem?_eq_some_iff.mp h).1
   rwa [List.length_set] at this
  rw[List.getElem?_set_self hl] at h
  cases h
  exact absurd rfl (n hs)
 ·rw[List.getElem?_set_ne hj] at h
  exact o k hs h
/-- a cell's content changes -/
theorem Rel0.put (r:Rel0 K H1 H al m) {k:Nat} {a:Addr} {o:HO} {c c0:Cell} (hk:al.al[k]?=some a) (h0:m[k]?=some c0) (hl0:c0.live=true) (hc:CellAt K H1 (upd H a o) a c) (nh:∀hs,c ≠ .hp hs):Rel0 K H1 (upd H a o) al (m.set k c):=by
 have kp:=DL.nohp r.hp0 h0 hl0
 refine⟨fun b u h=>?_,by rw[List.length_set];exact r.len,r.nd,fun j b c' h1 h2 hl=>?_,fun j b c' h1 h2=>?_,fun q hq=>?_,zlfb r.hp0 kp c,z05 r.only nh,r.pnd⟩
 ·rw[upd_ne (fun e=>by rw[e,r.fr k a c0 hk h0 hl0] at h;cases h)]
  exact r.ex b u h
 ·by_cases hj:k=j
  ·subst hj
   rw[hk] at h1
   cases h1
   exact r.fr k a c0 hk h0 hl0
  ·rw[List.getElem?_set_ne hj] at h2
   exact r.fr j b c' h1 h2 hl
 ·by_cases hj:k=j
  ·subst hj
   rw[hk] at h1
   cases h1
   have hl:k<m.length:=by
    have:=(List.getElem?_eq_some_iff.mp h2).1
    rwa [List.length_set] at this
   rw[List.getElem?_set_self hl] at h2
   cases h2
   exact hc
  ·rw[List.getElem?_set_ne hj] at h2
   by_cases hz:j=0
   ·subst hz
    obtain⟨hs,rest,e⟩:=r.hp0
    rw[e] at h2
    cases h2
    trivial
   ·refine (r.cells j b c' h1 h2).mono (Ex.refl _) fun u hu=>?_
    rw[upd_ne]
    ·exact hu
    ·intro e
     subst e
     exact hj (zsz r.nd kp (Nat.pos_of_ne_zero hz) hk h1)
 ·obtain⟨q1,q2,q3⟩:=r.pin q hq
  have ne:q.1≠a:=fun e=>q3 (by rw[e];exact zxi kp hk)
  exact⟨by rw[upd_ne ne];exact q1,q2,q3⟩
end
theorem RpHs.mono (e:Ex H1 H1') {ha ha':List Addr} (p:ha <+: ha'):∀{vs:List V} {ws:List HW},RpHs K H1 ha vs ws→RpHs K H1' ha' vs ws
 |_,_,.nil=>.nil
 |_,_,.cons (w:=.d x) h r=>.cons (w:=.d x) (Rp.mono e h) (r.mono e p)
 |_,_,.cons (w:=.h i) ⟨a,h,q⟩ r=>.cons (w:=.h i) ⟨a,z6z p h,q⟩ (r.mono e p)
theorem RpHs.toD {ha:List Addr}:∀{vs:List V} {ws:List HW},RpHs K H1 ha vs ws→RpL K H1 vs (ws.map HW.toD)
 |_,_,.nil=>.nil
 |_,_,.cons (w:=.d x) h r=>.cons h r.toD
 |_,_,.cons (w:=.h i) _ r=>.cons .opq r.toD
theorem RpHs.length {ha:List Addr}:∀{vs:List V} {ws:List HW},RpHs K H1 ha vs ws→vs.length=ws.length
 |_,_,.nil=>rfl
 |_,_,.cons _ r=>congrArg Nat.succ r.length
theorem RpHs.get {ha:List Addr}:∀{vs:List V} {ws:List HW} {i:Nat} {w:HW},RpHs K H1 ha vs ws→ws[i]?=some w→∃v,vs[i]?=some v∧RpH K H1 ha v w
 |_,_,_,_,.nil,e=>by simp at e
 |_,_,0,_,.cons r _,e=>by simp at e;subst e;exact⟨_,rfl,r⟩
 |_,_,i+1,d,.cons _ t,e=>by
  obtain⟨u,h1,h2⟩:=RpHs.get (i:=i) (w:=d) t (by simpa using e)
  exact⟨u,by simpa using h1,h2⟩
theorem RpHs.append {ha:List Addr}:∀{xs ys:List V} {us ws:List HW},RpHs K H1 ha xs us→RpHs K H1 ha ys ws→RpHs K H1 ha (xs++ys) (us++ws)
 |_,_,_,_,.nil,s=>s
 |_,_,_,_,.cons r t,s=>.cons r (RpHs.append t s)
theorem RpHs.set {ha:List Addr} {x:V} {u:HW} (r:RpH K H1 ha x u):∀{xs:List V} {us:List HW} (i:Nat),RpHs K H1 ha xs us→RpHs K H1 ha (xs.set i x) (us.set i u)
 |_,_,_,.nil=>.nil
 |_,_,0,.cons _ t=>.cons r t
 |_,_,i+1,.cons q t=>.cons q (RpHs.set r i t)
theorem RpHs.take {ha:List Addr}:∀{xs:List V} {us:List HW} (n:Nat),RpHs K H1 ha xs us→RpHs K H1 ha (xs.take n) (us.take n)
 |_,_,0,_=>by simp;exact .nil
 |_,_,_+1,.nil=>by simp;exact .nil
 |_,_,n+1,.cons r t=>by simp;exact .cons r (RpHs.take n t)
theorem RpHs.drop {ha:List Addr}:∀{xs:List V} {us:List HW} (n:Nat),RpHs K H1 ha xs us→RpHs K H1 ha (xs.drop n) (us.drop n)
 |_,_,0,r=>by simpa using r
 |_,_,_+1,.nil=>by simp;exact .nil
 |_,_,n+1,.cons _ t=>by simp;exact RpHs.drop n t
theorem RpH.w {v:V}:∀{w:HW},RpH K H1 al.al.ha v w→RpW K H1 al v w.toW
 |.d _,h=>h
 |.h _,h=>h
theorem HAt.mono (e:Ex H1 H1') {ha ha':List Addr} (p:ha <+: ha') {a:Addr} (k:∀o,H a=some o→H' a=some o):∀{c:HC},HAt K H1 ha H a c→HAt K H1' ha' H' a c
 |.lst _,⟨vs,h,r⟩=>⟨vs,k _ h,r.mono e p⟩
 |.obj _ _ _,⟨dx,fs,h,n,r⟩=>⟨dx,fs,k _ h,n,r.mono e p⟩
 |.dic _ _,⟨kvs,h,n,r⟩=>⟨kvs,k _ h,n,r.mono e p⟩
 |.tup _,⟨vs,h,r⟩=>⟨vs,k _ h,r.mono e p⟩
theorem Rel.ex (r:Rel K H1 H al m):Ex H1 H:=r.b.ex
theorem Rel.hp (r:Rel K H1 H al m):∃hs rest,m = .hp hs::rest:=r.b.hp0
theorem Rel.len (r:Rel K H1 H al m):al.al.fl.length=m.length:=r.b.len
theorem Rel.nd (r:Rel K H1 H al m):al.al.fl.tail.Nodup:=r.b.nd
theorem Rel.fr (r:Rel K H1 H al m):∀(k:Nat) (a:Addr) (c:Cell),al.al.fl[k]?=some a→m[k]?=some c→c.live=true→H1 a=none:=r.b.fr
theorem Rel.cells (r:Rel K H1 H al m):∀(k:Nat) (a:Addr) (c:Cell),al.al.fl[k]?=some a→m[k]?=some c→CellAt K H1 H a c:=r.b.cells
theorem Rel.at_ (r:Rel K H1 H al m) {k:Nat} {a:Addr} (h:al.al.fl[k]?=some a):∃c,m[k]?=some c∧CellAt K H1 H a c:=r.b.at_ h
theorem z8y {m:Mem} (h:∃hs rest,m = .hp hs::rest) {k:Nat} {c c0:Cell} (h0:m[k]?=some c0) (hl0:c0.live=true):heapOf (m.set k c)=heapOf m∧∃hs rest,m.set k c = .hp hs::rest:=by
 obtain⟨hs,rest,rfl⟩:=h
 cases k with
 |zero=>
  cases h0
  cases hl0
 |succ n=>exact⟨rfl,hs,rest.set n c,rfl⟩
/-- a cell's content changes -/
theorem Rel.put (r:Rel K H1 H al m) {k:Nat} {a:Addr} {o:HO} {c c0:Cell} (hk:al.al.fl[k]?=some a) (h0:m[k]?=some c0) (hl0:c0.live=true) (hc:CellAt K H1 (upd H a o) a c) (nh:∀hs,c ≠ .hp hs:=by intro _ z;cases z):Rel K H1 (upd H a o) al (m.set k c):=by
 obtain⟨e1,e2⟩:=z8y (c:=c) r.hp h0 hl0
 refine⟨r.b.put hk h0 hl0 hc nh,r.hpin,by rw[e1];exact r.hlen,r.hnd,r.hfr,fun i b h h1 h2=>?_⟩
 rw[e1] at h2
 refine (r.hcells i b h h1 h2).mono (Ex.refl _) (List.prefix_refl _) fun u hu=>?_
 rw[upd_ne]
 ·exact hu
 ·rintro rfl
  exact (r.hfr b (List.mem_of_getElem? h1)).2 (zxi (nohp r.hp h0 hl0) hk)
/-- a new thing of the heap -/
def hset (m:Mem) (hs:List HC):Mem:=match m with
 |.hp _::rest=>.hp hs::rest
 |m=>m
theorem Rh.int {v:V} {i:Int} (h:Rh K H1 H v (.int i)):v = .int i:=by
 generalize e:D.int i=x at h
 cases h with
 |p h=>subst e;cases h;rfl
 | @c a c hl q=>cases c <;> first |(cases hl;done) |cases e
theorem Rh.str {v:V} {i:Str} (h:Rh K H1 H v (.str i)):v = .str i:=by
 generalize e:D.str i=x at h
 cases h with
 |p h=>subst e;cases h;rfl
 | @c a c hl q=>cases c <;> first |(cases hl;done) |cases e
theorem Rh.bl {v:V} {i:Bool} (h:Rh K H1 H v (.bl i)):v = .bl i:=by
 generalize e:D.bl i=x at h
 cases h with
 |p h=>subst e;cases h;rfl
 | @c a c hl q=>cases c <;> first |(cases hl;done) |cases e
theorem Rh.non {v:V} (h:Rh K H1 H v .non):v = .non:=by
 generalize e:D.non=x at h
 cases h with
 |p h=>subst e;cases h;rfl
 | @c a c hl q=>cases c <;> first |(cases hl;done) |cases e
theorem Rh.lst {v:V} {ds:List D} (r:Ex H1 H) (h:Rh K H1 H v (.lst ds)):∃a vs,v = .ref a∧H a=some (.lst vs)∧RpL K H1 vs ds:=by
 generalize e:D.lst ds=x at h
 cases h with
 |p h=>
  subst e
  cases h with
  |lst h1 h2=>exact⟨_,_,rfl,r _ _ h1,h2⟩
 | @c a c hl q=>
   cases c with
   |lst ds'=>
    cases e
    obtain⟨vs,h1,h2⟩:=q
    exact⟨a,vs,rfl,h1,h2⟩
   |obj _ _ _=>cases e
   |zd _=>cases hl
   |hp _=>cases hl
   |dic _ _=>cases e
   |dn _ _=>cases e
   |dt _ _=>cases e
theorem Rh.fz {v:V} {ds:List D} (r:Ex H1 H) (h:Rh K H1 H v (.fz ds)):∃a vs,v = .ref a∧SqL K H a vs∧RpL K H1 vs ds:=by
 generalize e:D.fz ds=x at h
 cases h with
 |p h=>
  subst e
  cases h with
  |fz h1 h2=>exact⟨_,_,rfl,Evl.ex_l r h1,h2⟩
 | @c a c hl q=>cases c <;> first |(cases hl;done) |cases e
theorem Rh.dic {v:V} {ks:List Key} {ds:List D} (r:Ex H1 H) (h:Rh K H1 H v (.dic ks ds)):∃a kvs,v = .ref a∧Rd H a (.dK kvs)∧kvs.map (·.1)=ks∧RpL K H1 (kvs.map (·.2)) ds:=by
 generalize e:D.dic ks ds=x at h
 cases h with
 |p h=>
  subst e
  cases h with
  |dic h1 h2 h3=>exact⟨_,_,rfl,.inr ⟨_,r _ _ h1⟩,h2,h3⟩
 | @c a c hl q=>
   cases c with
   |dic _ _=>
    cases e
    obtain⟨kvs,h1,h2,h3⟩:=q
    exact⟨a,kvs,rfl,.inl h1,h2,h3⟩
   |lst _=>cases e
   |obj _ _ _=>cases e
   |zd _=>cases hl
   |hp _=>cases hl
   |dn _ _=>cases e
   |dt _ _=>cases e
theorem Rh.tk {v:V} {ks:List Key} (r:Ex H1 H) (h:Rh K H1 H v (.tk ks)):∃a,v = .ref a∧H a=some (.tup (ks.map kV)):=by
 generalize e:D.tk ks=x at h
 cases h with
 |p h=>
  subst e
  cases h with
  |tk h1=>exact⟨_,rfl,r _ _ h1⟩
 | @c a c hl q=>cases c <;> first |(cases hl;done) |cases e
theorem Rh.tup {v:V} {ds:List D} (r:Ex H1 H) (h:Rh K H1 H v (.tup ds)):∃a vs,v = .ref a∧SqT K H a vs∧RpL K H1 vs ds:=by
 generalize e:D.tup ds=x at h
 cases h with
 |p h=>
  subst e
  cases h with
  |tup h1 h2=>exact⟨_,_,rfl,Evl.ex_t r h1,h2⟩
 | @c a c hl q=>cases c <;> first |(cases hl;done) |cases e
theorem Rh.obj {v:V} {C:Str} {ns:List Str} {ds:List D} (r:Ex H1 H) (h:Rh K H1 H v (.obj C ns ds)):∃a dx fs,v = .ref a∧H a=some (.ins (He.ga K C) dx fs)∧fs.map (·.1)=ns∧RpL K H1 (fs.map (·.2)) ds:=by
 generalize e:D.obj C ns ds=x at h
 cases h with
 |p h=>
  subst e
  cases h with
  |obj h1 h2 h3=>exact⟨_,_,_,rfl,r _ _ h1,h2,h3⟩
 | @c a c hl q=>
   cases c with
   |lst ds'=>cases e
   |obj _ _ _=>
    cases e
    obtain⟨dx,fs,h1,h2,h3⟩:=q
    exact⟨a,dx,fs,rfl,h1,h2,h3⟩
   |zd _=>cases hl
   |hp _=>cases hl
   |dic _ _=>cases e
   |dn _ _=>cases e
   |dt _ _=>cases e
end
inductive Res (α : Type) where
 |ok (a : α) (m:Mem)
 |exc (C f:Str) (p:D) (m:Mem)
 |no
def Res.bind {α β : Type} (r:Res α) (k : α → Mem→Res β):Res β := match r with
 |.ok a m=>k a m
 |.exc C f p m=>.exc C f p m
 |.no=>.no
abbrev DE:=Env→Mem→Res W
abbrev DT:=Env→Mem→Res Bool
abbrev DA:=Env→Mem→Res (List W)
/-- what is wanted behind a result: G of the value, Wx of an exception -/
def Post {α : Type} (K:Fg) (H1:Hp) (al:Gh) (σ : St) (Wx:WX) (G:Hp→Gh→Hp → α → Prop):Res α → Prop
 |.ok w m=>∀H1' al' H',Ex H1 H1'→Le al al'→Rel K H1' H' al' m→G H1' al' H' w
 |.exc C f p m=>∀H1' al' H' v dx,Ex H1 H1'→Le al al'→Rel K H1' H' al' m→Rp K H1' v p→H1' dx=some (.xd [(f,v)])→Wx (.ref (He.ga K C)) (some dx) σ H'
 |.no=>False
section
variable {K:Fg} {H1 H1' H H':Hp} {al al':Gh} {m:Mem} {σ : St} {Wx:WX} {α β : Type}
theorem Post.mono {G:Hp→Gh→Hp → α → Prop} (e:Ex H1 H1') (p:Le al al'):∀{r:Res α},Post K H1 al σ Wx G r→Post K H1' al' σ Wx G r
 |.ok _ _,h=>fun a b c e1 e2 e3=>h a b c (e.trans e1) (p.trans e2) e3
 |.exc _ _ _ _,h=>fun a b c v dx e1 e2 e3=>h a b c v dx (e.trans e1) (p.trans e2) e3
 |.no,h=>h
theorem Post.bind {G:Hp→Gh→Hp → β → Prop} {G':Hp→Gh→Hp → α → Prop} {r:Res α} {k : α → Mem→Res β} (h:Post K H1 al σ Wx G (r.bind k))
  (f:∀w m1 H1' al' H',Ex H1 H1'→Le al al'→Rel K H1' H' al' m1→Post K H1' al' σ Wx G (k w m1)→G' H1' al' H' w):Post K H1 al σ Wx G' r:=by
 cases r with
 |ok w m1=>exact fun H1' al' H' e p r=>f w m1 H1' al' H' e p r (Post.mono e p h)
 |exc C g p m1=>exact h
 |no=>exact h
end
end DL
namespace DL
open PySem PySem.Spec L2
open Evl (Ex)
def eVar (i:Nat):DE:=fun dl m=>match dl[i]? with
 |some (some w)=>.ok w m
 |_=>.no
def eC (d:D):DE:=fun _ m=>.ok (.d d) m
section
variable {X:Cx} {Wx:WX}
def lift2 (g:D→D→Option D) (x y:W) (m:Mem):Res W:=match x.rd m with
 |some a=>(match y.rd m with
  |some b=>(match g a b with
   |some z=>.ok (.d z) m
   |none=>.no)
  |none=>.no)
 |none=>.no
def lift1 (g:D→Option D) (x:W) (m:Mem):Res W:=match x.rd m with
 |some a=>(match g a with
  |some z=>.ok (.d z) m
  |none=>.no)
 |none=>.no
def eOp (g:D→D→Option D) (a b:DE):DE:=fun dl m=>(a dl m).bind fun x m1=>(b dl m1).bind fun y m2=>lift2 g x y m2
def eUn (g:D→Option D) (a:DE):DE:=fun dl m=>(a dl m).bind fun x m1=>lift1 g x m1
def truD:D→Option Bool
 |.non=>some false
 |.bl b=>some b
 |.int i=>some (i != 0)
 |.str y=>if y.length≤sizeLine then some ((y.length:Int) != 0) else none
 |.lst ds=>some (!ds.isEmpty)
 |.fz ds=>some (!ds.isEmpty)
 |.tup ds=>some (!ds.isEmpty)
 |_=>none
def tru (x:W) (m:Mem):Res Bool:=match x.rd m with
 |some a=>(match truD a with
  |some k=>.ok k m
  |none=>.no)
 |none=>.no
/-- an expression's truth -/
def bT (f:DE):DT:=fun dl m=>(f dl m).bind fun x m1=>tru x m1
def bAnd (a b:DT):DT:=fun dl m=>(a dl m).bind fun c m1=>if c=true then b dl m1 else .ok false m1
def bOr (a b:DT):DT:=fun dl m=>(a dl m).bind fun c m1=>if c=true then .ok true m1 else b dl m1
def bNot (a:DT):DT:=fun dl m=>(a dl m).bind fun c m1=>.ok (!c) m1
variable {a b:Expr} {rest:List Expr} {pos:Pos} {fa fb:DE} {ga gb:DT}
/-- as values -/
def eAnd (a b:DE):DE:=fun dl m=>(a dl m).bind fun x m1=>(tru x m1).bind fun c m2=>if c=true then b dl m2 else .ok x m2
def eOr (a b:DE):DE:=fun dl m=>(a dl m).bind fun x m1=>(tru x m1).bind fun c m2=>if c=true then .ok x m2 else b dl m2
def eNot (a:DE):DE:=fun dl m=>(a dl m).bind fun x m1=>(tru x m1).bind fun c m2=>.ok (.d (.bl (!c))) m2
def eIf (t:DT) (a b:DE):DE:=fun dl m=>(t dl m).bind fun c m1=>if c=true then a dl m1 else b dl m1
/-- a op b op' c -/
def zdo (g g':D→D→Option D) (a b c:DE):DE:=fun dl m=>(a dl m).bind fun x m1=>(b dl m1).bind fun y m2=>(lift2 g x y m2).bind fun z m3=>(tru z m3).bind fun k m4=>if k=true then (c dl m4).bind fun w m5=>lift2 g' y w m5 else .ok (.d (.bl false)) m4
def aNil:DA:=fun _ m=>.ok [] m
def aCons (a:DE) (r:DA):DA:=fun dl m=>(a dl m).bind fun x m1=>(r dl m1).bind fun xs m2=>.ok (x::xs) m2
/-- the data of arguments -/
def rdAll:List W→Mem→Option (List D)
 |[],_=>some []
 |w::ws,m=>match w.rd m with
  |some x=>(match rdAll ws m with
   |some xs=>some (x::xs)
   |none=>none)
  |none=>none
/-- pure data alone -/
def z9f:List W→Option (List D)
 |[]=>some []
 |.d x::ws=>(match z9f ws with
   |some xs=>some (x::xs)
   |none=>none)
 |_::_=>none
def mkTup (ws:List W) (m:Mem):Res W:=match z9f ws with
 |some xs=>if xs.length≤sizeLine then .ok (.d (.tup xs)) m else .no
 |none=>.no
def mkLst (ws:List W) (m:Mem):Res W:=match z9f ws with
 |some xs=>if xs.length≤sizeLine then .ok (.d (.lst xs)) m else .no
 |none=>.no
/-- a list that will change -/
def mkCel (ws:List W) (m:Mem):Res W:=match z9f ws with
 |some xs=>if xs.length≤sizeLine then .ok (.c m.length) (m++[.lst xs]) else .no
 |none=>.no
def eTup (f:DA):DE:=fun dl m=>(f dl m).bind mkTup
def eLst (f:DA):DE:=fun dl m=>(f dl m).bind mkLst
def eCel (f:DA):DE:=fun dl m=>(f dl m).bind mkCel
abbrev DF:=List W→Mem→Res W
def PostF (K:Fg) (H1:Hp) (al:Gh) (Q:VK) (E:XK):Res W→Prop
 |.ok w m=>∀H1' al' H' v,Ex H1 H1'→Le al al'→Rel K H1' H' al' m→RpW K H1' al' v w→Q v H'
 |.exc C f p m=>∀H1' al' H' v dx,Ex H1 H1'→Le al al'→Rel K H1' H' al' m→Rp K H1' v p→H1' dx=some (.xd [(f,v)])→E (.ref (He.ga K C)) (some dx) H'
 |.no=>False
def spD (K:Fg) (n:Nat) (F:DF):Sp:=fun vs H Q E=>vs.length=n∧∃H1 al m ws,Rel K H1 H al m∧RpWs K H1 al vs ws∧PostF K H1 al Q E (F ws m)
end
end DL
namespace DL
open PySem PySem.Spec L2
open Evl (Ex)
inductive SR where
 |nx (dl:Env) (m:Mem)
 |rt (w:W) (m:Mem)
 |bk (dl:Env) (m:Mem)
 |ct (dl:Env) (m:Mem)
 |exc (dl:Env) (C f:Str) (p:D) (m:Mem)
 |no
abbrev DS:=Env→Mem→SR
def PostS (K:Fg) (H1:Hp) (al:Gh) (Wx:WX) (En:Ends):SR→Prop
 |.nx dl m=>∀H1' al' H' σ',Ex H1 H1'→Le al al'→Rel K H1' H' al' m→RpE K H1' al' σ' dl→En.nx σ' H'
 |.rt w m=>∀H1' al' H' v,Ex H1 H1'→Le al al'→Rel K H1' H' al' m→RpW K H1' al' v w→En.rt v H'
 |.bk dl m=>∀H1' al' H' σ',Ex H1 H1'→Le al al'→Rel K H1' H' al' m→RpE K H1' al' σ' dl→En.bk σ' H'
 |.ct dl m=>∀H1' al' H' σ',Ex H1 H1'→Le al al'→Rel K H1' H' al' m→RpE K H1' al' σ' dl→En.ct σ' H'
 |.exc dl C f p m=>∀H1' al' H' σ' v dx,Ex H1 H1'→Le al al'→Rel K H1' H' al' m→RpE K H1' al' σ' dl→Rp K H1' v p→H1' dx=some (.xd [(f,v)])→Wx (.ref (He.ga K C)) (some dx) σ' H'
 |.no=>False
def Res.thenS {α : Type} (r:Res α) (dl:Env) (k : α → Mem→SR):SR:=match r with
 |.ok a m=>k a m
 |.exc C f p m=>.exc dl C f p m
 |.no=>.no
section
variable {K:Fg} {H1 H1' H H':Hp} {al al':Gh} {m:Mem} {σ : L2.St} {Wx:WX} {α : Type} {En En':Ends} {dl:Env}
theorem PostS.mono (e:Ex H1 H1') (p:Le al al'):∀{r:SR},PostS K H1 al Wx En r→PostS K H1' al' Wx En r
 |.nx _ _,h=>fun a b c d e1 e2 e3=>h a b c d (e.trans e1) (p.trans e2) e3
 |.rt _ _,h=>fun a b c d e1 e2 e3=>h a b c d (e.trans e1) (p.trans e2) e3
 |.bk _ _,h=>fun a b c d e1 e2 e3=>h a b c d (e.trans e1) (p.trans e2) e3
 |.ct _ _,h=>fun a b c d e1 e2 e3=>h a b c d (e.trans e1) (p.trans e2) e3
 |.exc _ _ _ _ _,h=>fun a b c d v dx e1 e2 e3=>h a b c d v dx (e.trans e1) (p.trans e2) e3
 |.no,h=>h
theorem PostS.of {G:Hp→Gh→Hp → α → Prop} {r:Res α} {k : α → Mem→SR} (en:RpE K H1 al σ dl) (h:PostS K H1 al Wx En (r.thenS dl k))
  (f:∀w m1 H1' al' H',Ex H1 H1'→Le al al'→Rel K H1' H' al' m1→PostS K H1' al' Wx En (k w m1)→G H1' al' H' w):Post K H1 al σ Wx G r:=by
 cases r with
 |ok w m1=>exact fun H1' al' H' e p r=>f w m1 H1' al' H' e p r (PostS.mono e p h)
 |exc C g p m1=>exact fun H1' al' H' v dx e pr r q q2=>h H1' al' H' σ v dx e pr r (en.mono e pr) q q2
 |no=>exact h
end
def SR.seq (r:SR) (b:DS):SR:=match r with
 |.nx dl m=>b dl m
 |.rt w m=>.rt w m
 |.bk dl m=>.bk dl m
 |.ct dl m=>.ct dl m
 |.exc dl C f p m=>.exc dl C f p m
 |.no=>.no
def sSeq (a b:DS):DS:=fun dl m=>(a dl m).seq b
def sRet (f:DE):DS:=fun dl m=>(f dl m).thenS dl fun w m1=>.rt w m1
def sRetN:DS:=fun dl m=>.rt (.d .non) m
def sDrop (f:DE):DS:=fun dl m=>(f dl m).thenS dl fun w m1=>.nx dl m1
def sIf (t:DT) (a b:DS):DS:=fun dl m=>(t dl m).thenS dl fun c m1=>if c=true then a dl m1 else b dl m1
section
variable {X:Cx} {Wx:WX} {st:Stmt} {rest:List Stmt} {f g:DS} {e:Expr} {fe:DE} {pos:Pos}
abbrev DG:=W→Env→Option Env
abbrev DGs:=List D→Env→Option Env
/-- σ' is σ but for the slots vs -/
structure But (vs:List Nat) (σ σ':L2.St):Prop where
 len : σ'.length = σ.length
 at_:∀i,i ∉ vs → σ'[i]? = σ[i]?
theorem But.refl (vs:List Nat) (σ : L2.St):But vs σ σ := ⟨rfl,fun _ _=>rfl⟩
theorem But.trans {vs vs2:List Nat} {a b c:L2.St} (h:But vs a b) (k:But vs2 b c):But (vs++vs2) a c:=⟨k.len.trans h.len,fun i hi=>(k.at_ i fun z=>hi (List.mem_append_right _ z)).trans (h.at_ i fun z=>hi (List.mem_append_left _ z))⟩
def gNm (i:Nat):DG:=fun w dl=>some (dl.set i (some w))
def gNil_:DGs:=fun ds dl=>match ds with
 |[]=>some dl
 |_=>none
def zfe (g:DG) (gs:DGs):DGs:=fun ds dl=>match ds with
 |d::r=>(match g (.d d) dl with
  |some dl1=>gs r dl1
  |none=>none)
 |[]=>none
def gTp (n:Nat) (gs:DGs):DG:=fun w dl=>match w with
 |.d (.tup ds)=>if ds.length=n then gs ds dl else none
 |_=>none
/-- target = e -/
def sAsg (f:DE) (g:DG):DS:=fun dl m=>(f dl m).thenS dl fun w m1=>match g w dl with
 |some dl'=>.nx dl' m1
 |none=>.no
/-- J walks the items, as long as what H1 has stands -/
def zus (K:Fg) (J:It) (H1:Hp) (items:List D):Prop:=∃(G:Hp→Prop) (Y:Nat→Hp→V→Hp→Prop),Walk J items.length G Y∧(∀H,Ex H1 H→G H) ∧
 ∀i H x H',i<items.length→Y i H x H'→∀Hf al m,Ex H1 Hf→Rel K Hf H al m→∃Hf' d,Ex Hf Hf'∧Rel K Hf' H' al m∧items[i]?=some d∧Rp K Hf' x d
theorem zus.mono {K:Fg} {J:It} {H1 H1':Hp} {items:List D} (e:Ex H1 H1') (y:zus K J H1 items):zus K J H1' items:=by
 obtain⟨G,Y,w,h1,h2⟩:=y
 exact⟨G,Y,w,fun H a=>h1 H (e.trans a),fun i H x H' hi hy Hf al m ex r=>h2 i H x H' hi hy Hf al m (e.trans ex) r⟩
abbrev DI:=Env→Mem→Res (List D)
def loopD (g:DG) (b:DS):List D→Env→Mem→SR
 |[],dl,m=>.nx dl m
 |d::ds,dl,m=>match g (.d d) dl with
  |none=>.no
  |some dl1=>(match b dl1 m with
   |.nx dl2 m2=>loopD g b ds dl2 m2
   |.ct dl2 m2=>loopD g b ds dl2 m2
   |.bk dl2 m2=>.nx dl2 m2
   |.rt w m2=>.rt w m2
   |.exc dl2 C f p m2=>.exc dl2 C f p m2
   |.no=>.no)
def sFor (f:DI) (g:DG) (b:DS):DS:=fun dl m=>(f dl m).thenS dl fun items m1=>loopD g b items dl m1
/-- range(n), range(a, b) -/
def rngD (lo:Int) (n:Nat):List D:=(List.range n).map fun i=>.int (lo+(i:Nat))
def zbt (f:DA):DI:=fun dl m=>(f dl m).bind fun ws m1=>match ws with
 |[.d (.int j)]=>if -(2 ^ 62)≤j∧j<2 ^ 62 then .ok (rngD 0 j.toNat) m1 else .no
 |_=>.no
def wipeD (dl:Env):List Nat→Env
 |[]=>dl
 |v::vs=>(wipeD dl vs).set v none
/-- one walk: the list so far -/
def compD (g:DG) (t:DT) (e:DE) (wd:Env):List D→List D→Mem→Res (List D)
 |[],acc,m=>.ok acc m
 |d::ds,acc,m=>match g (.d d) wd with
  |none=>.no
  |some dl1=>(match t dl1 m with
   |.ok b m1=>(match b with
    |true=>(match e dl1 m1 with
     |.ok (.d y) m2=>if acc.length<sizeLine then compD g t e wd ds (acc++[y]) m2 else .no
     |_=>.no)
    |false=>compD g t e wd ds acc m1)
   |_=>.no)
def bYes:DT:=fun _ m=>.ok true m
def eLc (f:DI) (g:DG) (t:DT) (e:DE) (vs:List Nat):DE:=fun dl m=>(f dl m).bind fun items m1=>(compD g t e (wipeD dl vs) items [] m1).bind fun acc m2=>.ok (.d (.lst acc)) m2
end
end DL
namespace DL
open PySem PySem.Spec L2
open PyProof.Rows hiding St
open Evl (Ex)
def frz (n:Nat) (w:W) (m:Mem):Res W:=match w with
 |.d x=>.ok (.d x) (m.take n)
 |.c k=>if k<n then .ok (.c k) (m.take n) else (match m[k]? with
  |some c=>.ok (.d c.fz) (m.take n)
  |none=>.no)
 |.ex _ _ _ _ _=>.no
 |.h i=>.ok (.h i) (m.take n)
def fin (n:Nat):SR→Res W
 |.nx _ m=>.ok (.d .non) (m.take n)
 |.rt w m=>frz n w m
 |.exc _ C f p m=>.exc C f p (m.take n)
 |_=>.no
def zup (nN:Nat) (ws:List W):Env:=ws.map some++List.replicate (nN-ws.length) none
def runF (nN:Nat) (g:DS):DF:=fun ws m=>fin m.length (g (zup nN ws) m)
theorem RpWs.get {K:Fg} {H1:Hp} {al:Gh}:∀{vs:List V} {ws:List W} {i:Nat} {w:W},RpWs K H1 al vs ws→ws[i]?=some w→∃v,vs[i]?=some v∧RpW K H1 al v w
 |_,_,_,_,.nil,e=>by simp at e
 |_,_,0,_,.cons r _,e=>by simp at e;subst e;exact⟨_,rfl,r⟩
 |_,_,i+1,d,.cons _ t,e=>by
  obtain⟨u,h1,h2⟩:=RpWs.get (i:=i) (w:=d) t (by simpa using e)
  exact⟨u,by simpa using h1,h2⟩
/-- room, and no repr under way -/
structure RoomG (k:Nat) (A:Around):Prop extends Room k A where
 gd:A.guards=some []
theorem RoomG.mono {j k:Nat} {A:Around} (r:RoomG k A) (h:j≤k):RoomG j A:=⟨r.toRoom.mono h,r.gd⟩
/-- the same while an exception is handled -/
structure RoomX (k:Nat) (A:Around):Prop extends L2H.RoomH k A where
 gd:A.guards=some []
theorem RoomX.mono {j k:Nat} {A:Around} (r:RoomX k A) (h:j≤k):RoomX j A:=⟨r.toRoomH.mono h,r.gd⟩
section
variable {P:Program} {w:World} {K:Fg} {mg:Str→Option Value} {base:Heap}
/-- called by position -/
def spR (K:Fg) (F:DF):Sp:=fun vs H Q E=>∃H1 al m ws,Rel K H1 H al m∧RpWs K H1 al vs ws∧PostF K H1 al Q E (F ws m)
def FnD (P:Program) (w:World) (K:Fg) (mg:Str→Option Value) (base:Heap) (k:Nat) (f:Addr) (F:DF):Prop:=
 ∀(A:Around) (outer:List PySem.Env) (s:Shared) (H:Hp) (us:List Value) (vs:List V) (Q:VK) (E:XK),RoomG k A→Env0 P w K mg base A outer s H→Vals vs us→spR K F vs H Q E →
  codeAny (model P w) A (.call (.ref f) ⟨us,[]⟩) (CR (L2N.CX P w) outer P w H s Q E) s
/-- while an exception is handled -/
def FnDX (P:Program) (w:World) (K:Fg) (mg:Str→Option Value) (base:Heap) (k:Nat) (f:Addr) (F:DF):Prop:=
 ∀(A:Around) (outer:List PySem.Env) (s:Shared) (H:Hp) (us:List Value) (vs:List V) (Q:VK) (E:XK) (p:Addr × Obj),RoomX k A→L2H.PinOk outer H s p→Env0 P w K mg base A outer s H→Vals vs us→spR K F vs H Q E →
  codeAny (model P w) A (.call (.ref f) ⟨us,[]⟩) (CR (L2N.CX P w) outer P w H s Q E) s
theorem FnD.mono {j k:Nat} {f:Addr} {F:DF} (h:FnD P w K mg base j f F) (l:j≤k):FnD P w K mg base k f F:=fun A outer s H us vs Q E hr=>h A outer s H us vs Q E (hr.mono l)
theorem FnDX.mono {j k:Nat} {f:Addr} {F:DF} (h:FnDX P w K mg base j f F) (l:j≤k):FnDX P w K mg base k f F:=fun A outer s H us vs Q E p hr=>h A outer s H us vs Q E p (hr.mono l)
def lenF (n:Nat) (F:DF):DF:=fun ws m=>if ws.length=n then F ws m else .no
end
section
variable {X:Cx} {Wx:WX}
def eFn (F:DF) (f:DA):DE:=fun dl m=>(f dl m).bind F
end
end DL
namespace DL
open PySem PySem.Spec L2
open PyProof.Rows hiding St
open Evl (Ex)
/-- conditions as truth values -/
def chk {α : Type} (c:Prop) [Decidable c] (x : α):Option α := if c then some x else none
instance (i j:Int):Decidable (CMul i j):=by unfold CMul;infer_instance
instance (i j:Int):Decidable (CPow i j):=by unfold CPow;infer_instance
instance (x:Str) (n:Int):Decidable (MulOk x n):=by unfold MulOk;infer_instance
def addD:D→D→Option D
 |.int i,.int j=>some (.int (i+j))
 |.str i,.str j=>chk (i.length+j.length≤sizeLine) (.str (i++j))
 |.lst a,.lst b=>chk (a.length+b.length≤sizeLine) (.lst (a++b))
 |.tup a,.tup b=>chk (a≠[]∧b≠[]∧a.length+b.length≤sizeLine) (.tup (a++b))
 |_,_=>none
def subD:D→D→Option D
 |.int i,.int j=>some (.int (i-j))
 |_,_=>none
def ltD:D→D→Option D
 |.int i,.int j=>some (.bl (decide (i<j)))
 |.str x,.str y=>some (.bl (decide (x.cps.toList<y.cps.toList)))
 |_,_=>none
def leD:D→D→Option D
 |.int i,.int j=>some (.bl (decide (i≤j)))
 |.str x,.str y=>some (.bl (!decide (y.cps.toList<x.cps.toList)))
 |_,_=>none
def gtD:D→D→Option D
 |.int i,.int j=>some (.bl (decide (j<i)))
 |_,_=>none
def geD:D→D→Option D
 |.int i,.int j=>some (.bl (decide (j≤i)))
 |_,_=>none
def negD:D→Option D
 |.int i=>some (.int (-i))
 |_=>none
mutual
/-- as the model's own data -/
def toP:D→Option PyData
 |.non=>some .none
 |.bl b=>some (.bool b)
 |.int i=>some (.int i)
 |.str x=>some (.str x)
 |.lst ds=>(match toPs ds with
  |some ps=>some (.list ps)
  |none=>none)
 |.fz ds=>(match toPs ds with
  |some ps=>some (.list ps)
  |none=>none)
 |.tup ds=>(match toPs ds with
  |some ps=>some (.tuple ps)
  |none=>none)
 |_=>none
def toPs:List D→Option (List PyData)
 |[]=>some []
 |d::ds=>(match toP d with
  |some p=>(match toPs ds with
   |some ps=>some (p::ps)
   |none=>none)
  |none=>none)
end
def eqP (x y:D):Option D:=match toP x with
 |some p=>(match toP y with
  |some q=>chk (SeqAt.shaped p=true∧SeqAt.shaped q=true) (.bl (PyData.eqv p q))
  |none=>none)
 |none=>none
def neP (x y:D):Option D:=match toP x with
 |some p=>(match toP y with
  |some q=>chk (SeqAt.shaped p=true∧SeqAt.shaped q=true) (.bl (!PyData.eqv p q))
  |none=>none)
 |none=>none
/-- two texts as such; all else by the model's own data -/
def eqD:D→D→Option D
 |.str a,.str b=>some (.bl (decide (a=b)))
 |x,y=>eqP x y
def neD:D→D→Option D
 |.str a,.str b=>some (.bl (!decide (a=b)))
 |x,y=>neP x y
end DL
namespace DL
open PySem PySem.Spec L2
open PyProof.Rows hiding St
open Evl (Ex)
def liftA (g:List D→Option D) (ws:List W) (m:Mem):Res W:=match rdAll ws m with
 |some xs=>(match g xs with
  |some z=>.ok (.d z) m
  |none=>.no)
 |none=>.no
def eB (g:List D→Option D) (f:DA):DE:=fun dl m=>(f dl m).bind fun ws m1=>liftA g ws m1
/-- a list's data and what stands there -/
def seqD:D→Option (List D)
 |.lst ds=>some ds
 |.fz ds=>some ds
 |.tup ds=>some ds
 |_=>none
def lstD:D→Option (List D)
 |.lst ds=>some ds
 |.fz ds=>some ds
 |_=>none
theorem Rh.seq {K:Fg} {H1 H:Hp} {v:V} {x:D} {ds:List D} (e:Ex H1 H) (h:Rh K H1 H v x) (hs:seqD x=some ds):∃a vs,v = .ref a∧(SqL K H a vs∨SqT K H a vs)∧RpL K H1 vs ds:=by
 cases x <;> first |(cases hs;done) |skip
 ·obtain⟨a,vs,e1,h1,h2⟩:=h.lst e
  cases hs
  exact⟨a,vs,e1,.inl (SqL.of h1),h2⟩
 ·obtain⟨a,vs,e1,h1,h2⟩:=h.tup e
  cases hs
  exact⟨a,vs,e1,.inr h1,h2⟩
 ·obtain⟨a,vs,e1,h1,h2⟩:=h.fz e
  cases hs
  exact⟨a,vs,e1,.inl h1,h2⟩
def lenD:List D→Option D
 |[.str y]=>chk (y.length≤sizeLine) (.int y.length)
 |[x]=>(match seqD x with
  |some ds=>some (.int ds.length)
  |none=>none)
 |_=>none
def absD:List D→Option D
 |[.int i]=>some (.int (if i<0 then -i else i))
 |_=>none
def intD:List D→Option D
 |[.int i]=>some (.int i)
 |[.bl b]=>some (.int (if b then 1 else 0))
 |[.str a]=>(match PySem.intText? a with
  |some n=>chk (a.length≤640) (.int n)
  |none=>none)
 |_=>none
def max2D:List D→Option D
 |[.int i,.int j]=>some (.int (if j > i then j else i))
 |_=>none
def min2D:List D→Option D
 |[.int i,.int j]=>some (.int (if j<i then j else i))
 |_=>none
def zts:List D→Option (List Int)
 |[]=>some []
 |.int i::r=>(zts r).map (i :: ·)
 |_::_=>none
/-- the least, the greatest -/
def minI:List Int→Int
 |[]=>0
 |a::r=>r.foldl (fun x y=>if y<x then y else x) a
def z5m:List D→Option D
 |[.tup ds]=>some (.tup ds)
 |[.lst ds]=>some (.tup ds)
 |[.fz ds]=>some (.tup ds)
 |_=>none
def tyD (T:String):D→Bool
 |.str _=>T == "str"
 |.lst _=>T == "list"
 |.fz _=>T == "list"
 |_=>false
def liftM (g:D→List D→Option D) (x:W) (ws:List W) (m:Mem):Res W:=match x.rd m with
 |some d=>(match rdAll ws m with
  |some xs=>(match g d xs with
   |some z=>.ok (.d z) m
   |none=>.no)
  |none=>.no)
 |none=>.no
def isTy (T:String) (x:W) (m:Mem):Bool:=match x.rd m with
 |some d=>tyD T d
 |none=>false
def eBM (T:String) (g:D→List D→Option D) (a:DE) (f:DA):DE:=fun dl m=>(a dl m).bind fun x m1=>if isTy T x m1=true then (f dl m1).bind fun ws m2=>liftM g x ws m2 else .no
end DL
namespace DL
open PySem PySem.Spec L2
open PyProof.Rows hiding St
open Evl (Ex)
abbrev Tbl:=List (Str × DF)
def look:Tbl→Str→Option DF
 |[],_=>none
 |q::r,C=>if q.1=C then some q.2 else look r C
/-- the class of an object -/
def clsOf (x:W) (m:Mem):Option Str:=match x.rd m with
 |some (.obj C _ _)=>some C
 |_=>none
section
variable {X:Cx} {Wx:WX}
/-- len(x): of a text, a list, a tuple, or by the object's own __len__ -/
def lenW (w:W) (m:Mem):Res W:=match w with
 |.d (.int i)=>if 0≤i∧i<2 ^ 63 then .ok (.d (.int i)) m else .no
 |_=>.no
def lenI (n:Res W):Res W:=n.bind lenW
def eLen (t:Tbl) (f:DA):DE:=fun dl m=>(f dl m).bind fun ws m1=>match ws with
 |[x]=>(match clsOf x m1 with
  |some C=>(match look t C with
   |some F=>lenI (F [x] m1)
   |none=>.no)
  |none=>liftA lenD [x] m1)
 |_=>.no
/-- str(x): of an int, or by the object's own __str__ -/
def strW (w:W) (m:Mem):Res W:=match w with
 |.d (.str i)=>.ok (.d (.str i)) m
 |_=>.no
def strI (n:Res W):Res W:=n.bind strW
def strD:List D→Option D
 |[.int i]=>chk (i.natAbs.log2<1920) (.str (toString i))
 |[.str s]=>some (.str s)
 |_=>none
def eStr (t:Tbl) (f:DA):DE:=fun dl m=>(f dl m).bind fun ws m1=>match ws with
 |[x]=>(match clsOf x m1 with
  |some C=>(match look t C with
   |some F=>strI (F [x] m1)
   |none=>.no)
  |none=>liftA strD [x] m1)
 |_=>.no
def ixD:D→D→Option D
 |.str z,.int i=>(match atI z.cps.toList i with
  |some c=>chk (z.length≤sizeLine) (.str ⟨#[c]⟩)
  |none=>none)
 |x,.int i=>(match seqD x with
  |some ds=>atI ds i
  |none=>none)
 |_,_=>none
def eIx (t:Tbl) (a b:DE):DE:=fun dl m=>(a dl m).bind fun x m1=>(b dl m1).bind fun y m2=>match clsOf x m2 with
 |some C=>(match look t C with
  |some F=>F [x,y] m2
  |none=>.no)
 |none=>lift2 ixD x y m2
end
end DL
namespace DL
open PySem PySem.Spec L2
open PyProof.Rows hiding St
open Evl (Ex)
inductive Tag where
 |bt (n:String) |own (C:Str)
def tagD:D→Option Tag
 |.non=>some (.bt "NoneType")
 |.bl _=>some (.bt "bool")
 |.int _=>some (.bt "int")
 |.str _=>some (.bt "str")
 |.lst _=>some (.bt "list")
 |.fz _=>some (.bt "list")
 |.tup _=>some (.bt "tuple")
 |.dic _ _=>some (.bt "dict")
 |.obj C _ _=>some (.own C)
 |.cls _=>none
 |.tk _=>some (.bt "tuple")
 |.opq=>none
def Tag.v (K:Fg):Tag→Value
 |.bt n=>.type n
 |.own C=>.ref (He.ga K C)
def isiW (isf:Tag→Option Bool) (x:W) (m:Mem):Res W:=match x.rd m with
 |some d=>(match tagD d with
  |some t=>(match isf t with
   |some b=>.ok (.d (.bl b)) m
   |none=>.no)
  |none=>.no)
 |none=>.no
def eIsi (isf:Tag→Option Bool) (a:DE):DE:=fun dl m=>(a dl m).bind fun x m1=>isiW isf x m1
section
variable {X:Cx} {Wx:WX}
def cutD (xs:List D) (lo hi:Option Int):List D:=(xs.drop (HT.sIx xs.length 0 lo)).take (HT.sIx xs.length xs.length hi-HT.sIx xs.length 0 lo)
def slD (x:D) (lo hi:Option Int):Option D:=match x with
 |.str z=>chk (z.length≤sizeLine) (.str (cutS z lo hi))
 |.lst ds=>some (.lst (cutD ds lo hi))
 |.fz ds=>some (.lst (cutD ds lo hi))
 |.tup ds=>chk (¬(HT.sIx ds.length 0 lo=0∧HT.sIx ds.length ds.length hi=ds.length)) (.tup (cutD ds lo hi))
 |_=>none
abbrev DO:=Env→Mem→Res (Option Int)
def oNone:DO:=fun _ m=>.ok none m
def oSome (f:DE):DO:=fun dl m=>(f dl m).bind fun w m1=>match w with
 |.d (.int i)=>.ok (some i) m1
 |_=>.no
def slW (x:W) (lo hi:Option Int) (m:Mem):Res W:=match x.rd m with
 |some d=>(match slD d lo hi with
  |some z=>.ok (.d z) m
  |none=>.no)
 |none=>.no
def eSl (a:DE) (lo hi:DO):DE:=fun dl m=>(a dl m).bind fun x m1=>(lo dl m1).bind fun l m2=>(hi dl m2).bind fun u m3=>slW x l u m3
def fldL:List Str→List D→Str→Option D
 |n::ns,d::ds,f=>if n=f then some d else fldL ns ds f
 |_,_,_=>none
/-- e.f, a field of an object of one of the classes Cs -/
def fldD (Cs:List Str) (f:Str):D→Option D
 |.obj C ns ds=>if C∈Cs then fldL ns ds f else none
 |_=>none
def eFld (Cs:List Str) (f:Str) (a:DE):DE:=eUn (fldD Cs f) a
/-- e.f, a property -/
def noExc:Res W→Res W
 |.ok w m=>.ok w m
 |_=>.no
def propW (C:Str) (F:DF) (x:W) (m:Mem):Res W:=if clsOf x m=some C then noExc (F [x] m) else .no
def eProp (C:Str) (F:DF) (a:DE):DE:=fun dl m=>(a dl m).bind fun x m1=>propW C F x m1
def hasNo (C m:Str) (x:W) (mm:Mem):Bool:=match x.rd mm with
 |some (.obj C' ns _)=>decide (C'=C) && !ns.contains m
 |_=>false
def eMeth (C m:Str) (F:DF) (a:DE) (f:DA):DE:=fun dl mm=>(a dl mm).bind fun x m1=>if hasNo C m x m1=true then (f dl m1).bind fun ws m2=>F (x::ws) m2 else .no
def eCval (C:Str) (d:D) (a:DE):DE:=fun dl m=>(a dl m).bind fun x m1=>match x with
 |.d (.cls C')=>if C'=C then .ok (.d d) m1 else .no
 |_=>.no
/-- C.m(e, ..), m a class method (the class is its first argument) or a static one -/
def eCm (C:Str) (cm:Bool) (F:DF) (a:DE) (f:DA):DE:=fun dl m=>(a dl m).bind fun x m1=>match x with
 |.d (.cls C')=>if C'=C then (f dl m1).bind fun ws m2=>F (if cm=true then .d (.cls C)::ws else ws) m2 else .no
 |_=>.no
end
end DL
namespace DL
open PySem PySem.Spec L2
open PyProof.Rows hiding St
open Evl (Ex)
/-- what __init__ left of the k-th cell -/
def madeW (k:Nat) (w:W) (m:Mem):Res W:=match w with
 |.d .non=>(match m[k]? with
  |some (.obj C ns ds)=>.ok (.d (.obj C ns ds)) (m.take k)
  |_=>.no)
 |_=>.no
def makeW (C:Str) (F:DF) (ws:List W) (m:Mem):Res W:=(F (.c m.length::ws) (m++[.obj C [] []])).bind fun w m1=>madeW m.length w m1
section
variable {X:Cx} {Wx:WX}
/-- C(e, ..), the class by an expression -/
def eMk (C:Str) (F:DF) (a:DE) (f:DA):DE:=fun dl m=>(a dl m).bind fun x m1=>match x with
 |.d (.cls C')=>if C'=C then (f dl m1).bind fun ws m2=>makeW C F ws m2 else .no
 |_=>.no
/-- *e alone: the items of a list or tuple -/
def starW (x:W) (m:Mem):Res (List W):=match x.rd m with
 |some d=>(match seqD d with
  |some ds=>.ok (ds.map W.d) m
  |none=>.no)
 |none=>.no
def z8t (a:DE):DA:=fun dl m=>(a dl m).bind starW
end
section
variable {P:Program} {w:World} {K:Fg} {mg:Str→Option Value} {base:Heap}
theorem RpWs.take {H1:Hp} {al:Gh}:∀{vs:List V} {ws:List W} (n:Nat),RpWs K H1 al vs ws→RpWs K H1 al (vs.take n) (ws.take n)
 |_,_,0,_=>by simp;exact .nil
 |_,_,_+1,.nil=>by simp;exact .nil
 |_,_,n+1,.cons r t=>by simp;exact .cons r (RpWs.take n t)
theorem RpWs.drop {H1:Hp} {al:Gh}:∀{vs:List V} {ws:List W} (n:Nat),RpWs K H1 al vs ws→RpWs K H1 al (vs.drop n) (ws.drop n)
 |_,_,0,r=>by simpa using r
 |_,_,_+1,.nil=>by simp;exact .nil
 |_,_,n+1,.cons _ t=>by simp;exact RpWs.drop n t
theorem RpWs.append {H1:Hp} {al:Gh}:∀{xs ys:List V} {us ws:List W},RpWs K H1 al xs us→RpWs K H1 al ys ws→RpWs K H1 al (xs++ys) (us++ws)
 |_,_,_,_,.nil,s=>s
 |_,_,_,_,.cons r t,s=>.cons r (RpWs.append t s)
theorem PostF.mono {H1 H1':Hp} {al:Gh} {Q:VK} {E:XK} (e:Ex H1 H1'):∀{r:Res W},PostF K H1 al Q E r→PostF K H1' al Q E r
 |.ok _ _,h=>fun a b c d e1=>h a b c d (e.trans e1)
 |.exc _ _ _ _,h=>fun a b c d f e1=>h a b c d f (e.trans e1)
 |.no,h=>h
end
section
variable {X:Cx} {Wx:WX}
/-- xs[i] = e, xs a cell -/
def setW (y:W) (o i:W) (m:Mem):Option Mem:=match y,o,i with
 |.d d,.c k,.d (.int j)=>(match m[k]? with
  |some (.lst ds)=>(match ixN ds.length j with
   |some n=>some (m.set k (.lst (ds.set n d)))
   |none=>none)
  |_=>none)
 |_,_,_=>none
def z0t (e a b:DE):DS:=fun dl m=>(e dl m).thenS dl fun y m1=>(a dl m1).thenS dl fun o m2=>(b dl m2).thenS dl fun i m3=>match setW y o i m3 with
 |some m4=>.nx dl m4
 |none=>.no
/-- xs.append(e), xs a cell -/
def appW (x:W) (ws:List W) (m:Mem):Res W:=match x,ws with
 |.c k,[.d d]=>(match m[k]? with
  |some (.lst ds)=>if ds.length<sizeLine then .ok (.d .non) (m.set k (.lst (ds++[d]))) else .no
  |_=>.no)
 |_,_=>.no
def eApp (a:DE) (f:DA):DE:=fun dl m=>(a dl m).bind fun x m1=>if isTy "list" x m1=true then (f dl m1).bind fun ws m2=>appW x ws m2 else .no
/-- xs.pop(), xs a cell -/
def popW (x:W) (m:Mem):Res W:=match x with
 |.c k=>(match m[k]? with
  |some (.lst ds)=>(match ds[ds.length-1]? with
   |some d=>.ok (.d d) (m.set k (.lst ds.dropLast))
   |none=>.no)
  |_=>.no)
 |_=>.no
def ePop (a:DE):DE:=fun dl m=>(a dl m).bind fun x m1=>if isTy "list" x m1=true then popW x m1 else .no
theorem RpL.dropLast {K:Fg} {H:Hp}:∀{vs:List V} {ds:List D},RpL K H vs ds→RpL K H vs.dropLast ds.dropLast
 |_,_,.nil=>.nil
 |_,_,.cons _ .nil=>.nil
 |_,_,.cons a (.cons b c)=>.cons a (RpL.dropLast (.cons b c))
/-- o.f = e, o an object under construction -/
def putL (f:Str) (d:D):List Str→List D→List Str × List D
 |n::ns,x::xs=>if n=f then (n::ns,d::xs) else (n::(putL f d ns xs).1,x::(putL f d ns xs).2)
 |_,_=>([f],[d])
def sFldW (Cs:List Str) (f:Str) (y o:W) (m:Mem):Option Mem:=match y,o with
 |.d d,.c k=>(match m[k]? with
  |some (.obj C ns ds)=>if C∈Cs∧ns.length<1000 then some (m.set k (.obj C (putL f d ns ds).1 (putL f d ns ds).2)) else none
  |_=>none)
 |_,_=>none
def sFldS (Cs:List Str) (f:Str) (e a:DE):DS:=fun dl m=>(e dl m).thenS dl fun y m1=>(a dl m1).thenS dl fun o m2=>match sFldW Cs f y o m2 with
 |some m3=>.nx dl m3
 |none=>.no
end
end DL
namespace DL
open PySem PySem.Spec L2
open PyProof.Rows hiding St
open Evl (Ex)
section
variable {X:Cx} {Wx:WX}
def z73 (x:W) (d:D) (m:Mem):Res W:=match x.rd m with
 |some y=>(match lstD y with
  |some ds=>(match zts ds with
   |some ns=>.ok (.d (if ns=[] then d else .int (minI ns))) m
   |none=>.no)
  |none=>.no)
 |none=>.no
def z14 (a:DE) (d:D):DE:=fun dl m=>(a dl m).bind fun x m1=>z73 x d m1
/-- a, b = e1, e2: two local names -/
def sPar (i j:Nat) (f:DA):DS:=fun dl m=>(f dl m).thenS dl fun ws m1=>match ws with
 |[v,w]=>.nx ((dl.set i (some v)).set j (some w)) m1
 |_=>.no
end
end DL
namespace DL
open PySem PySem.Spec L2
open PyProof.Rows hiding St
open Evl (Ex)
section
variable {X:Cx} {Wx:WX}
def z5o (w:W) (m:Mem):Res (List D):=match w with
 |.d x=>(match seqD x with
  |some ds=>.ok ds m
  |none=>.no)
 |_=>.no
def iSeq (f:DE):DI:=fun dl m=>(f dl m).bind z5o
def enumD (ds:List D):List D:=ds.mapIdx fun i d=>.tup [.int (i:Int),d]
def enumW (ws:List W) (m:Mem):Res (List D):=match ws with
 |[.d x]=>(match lstD x with
  |some ds=>.ok (enumD ds) m
  |none=>.no)
 |_=>.no
def iEnu (f:DA):DI:=fun dl m=>(f dl m).bind enumW
end
open PySem.W (Frag Hook)
def obsM (fs:List (Frag→Bool)) (fn:List He5.DefA) (K:Frag):He.AlD:=((fs.all fun f=>f K)&&fn.all fun d=>d.ok K,fn.map fun d=>He5.fnA K (d.at_ K))
def SaysM (fs:List (Frag→Bool)) (fn:List He5.DefA) (K:Frag):Prop:=obsM fs fn K=He5.valA fn
def fGlo (x:Str):Frag→Bool:=fun K=>(He.Fa.glo x).ok K
def fFree (x:Str):Frag→Bool:=fun K=>(He.Fa.free x).ok K
def fInt (x:Str) (i:Int):Frag→Bool:=fun K=>(He.Fa.int x i).ok K
def fCls (x:Str):Frag→Bool:=fun K=>(He.Fa.cls x).ok K
def fNoat (x f:Str):Frag→Bool:=fun K=>(He.Fa.noat x f).ok K
def fMkr (x:Str):Frag→Bool:=fun K=>(He.Fa.mkr x).ok K
def fKeep (x:Str):Frag→Bool:=fun K=>PySem.W.keepIn K (.ref (He.ga K x))
/-- C.name is a def, found by the interpreter -/
def fOwn (C m:Str):Frag→Bool:=fun K=>He.eqO (PySem.W.findIn K (.ref (He.ga K C)) m) (some (some (.ref (He.ma K (He.ga K C) m))))&&(PySem.W.isFn K (.ref (He.ma K (He.ga K C) m))&&(PySem.W.fnIn K (He.ma K (He.ga K C) m)&&PySem.W.keepIn K (.ref (He.ma K (He.ga K C) m))))
def fProp (C m:Str):Frag→Bool:=fun K=>He.eqO (PySem.W.findIn K (.ref (He.ga K C)) m) (some (some (.ref (He.ma K (He.ga K C) m))))&&(He.eqO (PySem.W.specialIn K (.ref (He.ma K (He.ga K C) m)) "__get__") (some (some (.builtin "property.__get__"))) &&
 (decide (PySem.W.takesIn K (.ref (He.ma K (He.ga K C) m))=some true)&&(match PySem.W.recIn K (He.ma K (He.ga K C) m) "property" with
   |some (.ref _::_)=>true
   |_=>false)))
def fRead (C:Str):Frag→Bool:=fun K=>PySem.W.readsIn K (He.ga K C) (.type "type")
def fCm (C m:Str):Frag→Bool:=fun K=>He5.wrapB K (He.ga K C) "classmethod" "classmethod.__get__" m&&PySem.W.fnIn K (He5.wf K (He.ga K C) "classmethod" m)
def fIsiC (C:Str):Frag→Bool:=fun K=>(He.Fa.cls C).ok K&&(He.eqO (PySem.W.findIn K (.ref (He.ga K C)) "__class__") (some (some (.builtin "object.__class__")))&&(He.eqO (PySem.W.specialIn K (.builtin "object.__class__") "__get__") (some (some (.builtin "getset_descriptor.__get__"))) &&
 (decide (PySem.W.takesIn K (.builtin "object.__class__")=some true)&&decide (PySem.W.mroIn K (He.ga K C) (.type "object")=some true))))
/-- a class as the text has it -/
inductive CRef where
 |bt (n:String) |own (C:Str)
def CRef.v (K:Frag):CRef→Value
 |.bt n=>.type n
 |.own C=>.ref (He.ga K C)
def fKit (t:CRef) (cs:List CRef) (b:Bool):Frag→Bool:=fun K=>decide (PySem.W.kitAny K (t.v K) (cs.map (CRef.v K))=some b)
/-- the whole table, by one check -/
def tagC:Tag→CRef
 |.bt n=>.bt n
 |.own C=>.own C
def fTab (t:List (Tag × Bool)) (cs:List CRef):Frag→Bool:=fun K=>t.all fun q=>fKit (tagC q.1) cs q.2 K&&(match q.1 with
 |.own C=>fIsiC C K
 |.bt _=>true)
end DL
namespace DL
open PySem PySem.Spec L2
open PyProof.Rows hiding St
open Evl (Ex)
theorem zo9 (K:Fg) (H:Hp):Rel K H H ⟨⟨[0],[]⟩,[]⟩ [.hp []]:=by
 refine⟨⟨fun _ _ z=>z,rfl,List.nodup_nil,fun k a c h1 h2 hl=>?_,fun k a c h1 h2=>?_,(fun q z=>by cases z),⟨_,_,rfl⟩,fun k hs h=>?_,List.nodup_nil⟩,(fun q z=>by cases z),rfl,List.nodup_nil,(fun a z=>by cases z),(fun i a h z=>by simp at z)⟩
 ·cases k with
  |zero=>cases h2;cases hl
  |succ k=>simp at h2
 ·cases k with
  |zero=>cases h2;trivial
  |succ k=>simp at h2
 ·cases k with
  |zero=>rfl
  |succ k=>simp at h
theorem spD_law {K:Fg} {H:Hp} {a:Addr} {ns:List Int} {R:DF} (hS:SqL K H a (ns.map V.int)) (h:∃m',R [.d (.fz (ns.map D.int))] [.hp []] = .ok (.d (.bl true)) m'):spD K 1 R [.ref a] H (fun v _=>v = .bl true) (fun _ _ _=>False):=by
 obtain⟨m',h⟩:=h
 refine⟨rfl,H,⟨⟨[0],[]⟩,[]⟩,[.hp []],[.d (.fz (ns.map D.int))],zo9 K H,.cons (w:=.d (.fz (ns.map D.int))) (Rp.fz hS (RpL.ints ns)) .nil,?_⟩
 rw[h]
 intro H1' al' H' v _ _ _ r
 have r:Rp K H1' v (.bl true):=r
 cases r
 rfl
theorem z7hb {P:Program} {w:World} (H:Hp) (s:Shared) (e:Value) (s':Shared) (c:L2N.CX P w [] H s (fun _ _ _=>False) e s'):False:=by
 obtain⟨_,_,_,_,_,_,_,_,_,_,_,_,z⟩:=c
 exact z
/-- the law's call: what is asked of it, at the heap that the top has left -/
theorem z6jb {P:Program} {w:World} {K:Fg} {mg mb:Str→Option Value} {fa a:Addr} {s₁:Shared} {vs:List Value} {ns:List Int} (inK:K.In s₁.heap) (nsG:s₁.heap.Ns mainGlobals mg) (nsB:s₁.heap.Ns builtinsNs mb) (boot:∀x:Str,x ≠ "__name__" → mb x=bootBuiltins x) (lim:s₁.heap.NoLimit) (gens:s₁.gens=#[])
  (ha:s₁.heap.get? a=some {cls:=.type "list",data:=.seq vs.toArray}) (hi:IntsAre vs ns) (few:ns.length≤sizeLine)
  (go:∀(base:Heap) (H:Hp),Env0 P w K mg base callerA [] s₁ H→SqL K H a (ns.map V.int)→codeAny (model P w) callerA (.call (.ref fa) ⟨[.ref a],[]⟩) (CR (L2N.CX P w) [] P w H s₁ (fun v _=>v = .bl true) (fun _ _ _=>False)) s₁) :
  codeAny (model P w) callerA (.call (.ref fa) ⟨[.ref a],[]⟩) (fun r s'=>r = .ok (.ret (.bool true))∧OldK s₁.heap s'.heap∧s'.os=s₁.os∧AllBare s'.gens) s₁:=by
 obtain⟨u0,hu0⟩:∃u0:HO,u0 = .frz {cls:=.type "list",data:=.seq vs.toArray} (.lst (ns.map V.int)):=⟨_,rfl⟩
 -- H tracks the script or nothing
 have step:∀H:Hp,(∀b u,H b=some u→b=a∧u=u0)→(H a≠none→K.lookup a=none)→SqL K H a (ns.map V.int)→HOk P w H s₁.heap →
   codeAny (model P w) callerA (.call (.ref fa) ⟨[.ref a],[]⟩) (fun r s'=>r = .ok (.ret (.bool true))∧OldK s₁.heap s'.heap∧s'.os=s₁.os∧AllBare s'.gens) s₁:=by
  intro H only off sq ok
  have untr:∀b:Addr,b≠a→H b=none:=fun b hb=>by
   cases e:H b with
   |none=>rfl
   |some u=>exact absurd (only b u e).1 hb
  have nsOf:∀{b:Addr} {f:Str→Option Value},s₁.heap.Ns b f→(hidT s₁.heap H).Ns b f:=by
   rintro b f ⟨o,es,ep,e,d,r⟩
   refine⟨o,es,ep,hidT_get e (untr b ?_),d,r⟩
   rintro rfl
   rw[ha] at e
   cases e
   cases (show Data.seq vs.toArray _=Data.dict es ep from d)
  have kb:K.In (hidT s₁.heap H):=by
   intro b o e
   refine hidT_get (inK b o e) ?_
   cases q:H b with
   |none=>rfl
   |some u=>
    have eb:=(only b u q).1
    subst eb
    rw[off (by rw[q];exact fun z=>nomatch z)] at e
    cases e
  obtain⟨mc,l1,l2⟩:=lim
  have md:Mod K mg (hidT s₁.heap H):=⟨kb,nsOf nsG,⟨mb,nsOf nsB,boot⟩,⟨mc,nsOf l1,l2⟩⟩
  have env:Env0 P w K mg (hidT s₁.heap H) callerA [] s₁ H:=⟨rfl,md,fun b o e=>of_hidT e,Nat.le_of_eq (hidT_size _ _),trivial,(fun b hb=>nomatch hb),ok,.of_eq gens⟩
  refine codeAny_mono (go _ H env sq) fun r s' h=>?_
  match r,h with
  |.error e,h=>exact (z7hb H s₁ e s' h).elim
  |.ok .next,h=>exact False.elim h
  |.ok .brk,h=>exact False.elim h
  |.ok .cont,h=>exact False.elim h
  |.ok (.ret u),h=>
   obtain⟨v,Hz,os,bare,un,okz,rv,rfl⟩:=h
   cases rv
   refine⟨rfl,OldK.of_keep fun b o e=>?_,os,bare⟩
   cases q:H b with
   |none=>exact un.keep b o e q (fun z=>nomatch z) (fun z=>nomatch z)
   |some u=>
    have eu:=(only b u q).2
    rw[eu,hu0] at q
    have e1:=(ok b _ q).1
    rw[e] at e1
    cases e1
    exact (okz b _ (un.frzs b _ _ q)).1
 have lenV:=hi.length
 cases hk:K.lookup a with
 |some o=>
  have e:=inK a o hk
  rw[ha] at e
  cases e
  exact step (fun _=>none) (fun _ _ z=>nomatch z) (fun z=>absurd rfl z) (.inr ⟨_,vs.toArray,_,hk,rfl,rfl,rfl,by rw[List.size_toArray,lenV];exact few,by simpa using vals_ints hi⟩) (fun _ _ z=>nomatch z)
 |none=>
  have here:∀b u,(if b=a then some u0 else none)=some u→b=a∧u=u0:=fun b u z=>by
   by_cases hb:b=a
   ·rw[if_pos hb] at z
    exact⟨hb,(Option.some.inj z).symm⟩
   ·rw[if_neg hb] at z
    cases z
  refine step (fun b=>if b=a then some u0 else none) here (fun _=>hk) (.inl (.inr ⟨{cls:=.type "list",data:=.seq vs.toArray},?_⟩)) fun b u z=>?_
  ·rw[←hu0]
   exact if_pos rfl
  ·obtain⟨eb,eu⟩:=here b u z
   subst eb
   rw[eu,hu0]
   exact⟨ha,by rw[List.length_map];exact few,vs,_,vals_ints hi,ha⟩
theorem ztcb {l:PySem.W.OpenLaw} {n k:Nat} {q:Program} {loose:List Str} {XP:(Str→Option Value)→Heap→Prop} {YP:World→Heap→Prop} {d:DefRec} {R:DF}
  (hn:l.most=some n) (hn2:n≤sizeLine) (hdf:d.params.defaults=[]) (hr:Room k callerA)
  (hR:∀ns:List Int,ns.length≤n→∃m',R [.d (.fz (ns.map D.int))] [.hp []] = .ok (.d (.bl true)) m')
  (F:∀(w:World) (mg:Str→Option Value) (fa:Addr) (h:Heap),YP w h→h.Ns mainGlobals mg→mg d.name=some (.ref fa) →
    ∃K:PySem.W.Frag,K.In h∧∀base:Heap,FnD l.prog w K mg base k fa R) :
  PySem.W.WalkO q loose XP YP l.row.toRowW d [] (fun f vs=>PySem.call f vs):=by
 refine Att.attach_call hn hdf fun w s₀ s₁ mg mb fa o pm cd doc a vs ns G Y ho hd hcd hmg hobj hints hlen hg=>?_
 obtain⟨K,KX,hF⟩:=F w mg fa _ Y G.T.g hmg
 refine z6jb KX G.T.g G.T.b G.T.builtins G.T.nolimit hg hobj hints (Nat.le_trans hlen hn2) fun base H env sq=>?_
 obtain⟨_,b⟩:=spD_law sq (hR ns hlen)
 exact hF base callerA [] s₁ H [.ref a] [.ref a] _ _ ⟨hr,rfl⟩ env (.cons rfl .nil) b
end DL
namespace DL
open PySem PySem.Spec L2
theorem nr {α : Type} {a b : α} (h:a=b):a=b:=h
/-- as Option.bind; its step is no rfl for the simplifier, so that the kernel does not unfold what follows -/
def ob {α β : Type} (o:Option α) (f : α → Option β):Option β := o.bind f
section
variable {α β : Type}
@[simp] theorem zqgb (a : α) (f : α → Option β):ob (some a) f=f a:=nr rfl
@[simp] theorem zmpb (a : α) (m:Mem) (k : α → Mem→Res β):(Res.ok a m).bind k=k a m:=nr rfl
@[simp] theorem z6mb (C f:Str) (p:D) (m:Mem) (k : α → Mem→Res β):(Res.exc C f p m).bind k = .exc C f p m:=rfl
@[simp] theorem z8lb (a : α) (m:Mem) (dl:Env) (k : α → Mem→SR):(Res.ok a m).thenS dl k=k a m:=nr rfl
@[simp] theorem z2ib (C f:Str) (p:D) (m:Mem) (dl:Env) (k : α → Mem→SR):(Res.exc C f p m).thenS dl k = .exc dl C f p m:=rfl
@[simp] theorem zerb (dl:Env) (m:Mem) (b:DS):(SR.nx dl m).seq b=b dl m:=nr rfl
@[simp] theorem zdrb (w:W) (m:Mem) (b:DS):(SR.rt w m).seq b = .rt w m:=rfl
@[simp] theorem ztob (dl:Env) (C f:Str) (p:D) (m:Mem) (b:DS):(SR.exc dl C f p m).seq b = .exc dl C f p m:=rfl
@[simp] theorem zfrb (dl:Env) (m:Mem) (b:DS):(SR.ct dl m).seq b = .ct dl m:=rfl
@[simp] theorem zgrb (dl:Env) (m:Mem) (b:DS):(SR.bk dl m).seq b = .bk dl m:=rfl
@[simp] theorem z1rb (n:Nat) (dl:Env) (m:Mem):fin n (.nx dl m) = .ok (.d .non) (m.take n):=rfl
@[simp] theorem z0rb (n:Nat) (w:W) (m:Mem):fin n (.rt w m)=frz n w m:=rfl
@[simp] theorem zjpb (n:Nat) (dl:Env) (C f:Str) (p:D) (m:Mem):fin n (.exc dl C f p m) = .exc C f p (m.take n):=rfl
@[simp] theorem frz_d (n:Nat) (x:D) (m:Mem):frz n (.d x) m = .ok (.d x) (m.take n):=rfl
end
section
variable (a b c:DE) (s t:DS) (u v:DT) (g:DA) (dl:Env) (m:Mem)
@[simp] theorem z1pb:sSeq s t dl m=(s dl m).seq t:=nr rfl
@[simp] theorem z2pb:sRet a dl m=(a dl m).thenS dl fun w m1=>.rt w m1:=nr rfl
@[simp] theorem zgnb:sRetN dl m = .rt (.d .non) m:=nr rfl
@[simp] theorem zonb:sDrop a dl m=(a dl m).thenS dl fun w m1=>.nx dl m1:=nr rfl
@[simp] theorem x_sIf:sIf u s t dl m=(u dl m).thenS dl fun c m1=>if c=true then s dl m1 else t dl m1:=nr rfl
@[simp] theorem z6pb (i:Nat):sAsg a (gNm i) dl m=(a dl m).thenS dl fun w m1=>.nx (dl.set i (some w)) m1:=nr rfl
@[simp] theorem x_gNm (i:Nat) (w:W):gNm i w dl=some (dl.set i (some w)):=nr rfl
@[simp] theorem z5qb:eAnd a b dl m=(a dl m).bind fun x m1=>(tru x m1).bind fun c m2=>if c=true then b dl m2 else .ok x m2:=nr rfl
@[simp] theorem x_eOr:eOr a b dl m=(a dl m).bind fun x m1=>(tru x m1).bind fun c m2=>if c=true then .ok x m2 else b dl m2:=nr rfl
@[simp] theorem znqb:eNot a dl m=(a dl m).bind fun x m1=>(tru x m1).bind fun c m2=>.ok (.d (.bl (!c))) m2:=nr rfl
@[simp] theorem zyqb (f:Tag→Option Bool):eIsi f a dl m=(a dl m).bind fun x m1=>isiW f x m1:=nr rfl
@[simp] theorem x_eC (d:D):eC d dl m = .ok (.d d) m:=nr rfl
@[simp] theorem x_eOp (f:D→D→Option D):eOp f a b dl m=(a dl m).bind fun x m1=>(b dl m1).bind fun y m2=>lift2 f x y m2:=nr rfl
@[simp] theorem x_eUn (f:D→Option D):eUn f a dl m=(a dl m).bind fun x m1=>lift1 f x m1:=nr rfl
@[simp] theorem x_bT:bT a dl m=(a dl m).bind fun x m1=>tru x m1:=nr rfl
@[simp] theorem z8qb:bNot u dl m=(u dl m).bind fun c m1=>.ok (!c) m1:=nr rfl
@[simp] theorem zarb:bAnd u v dl m=(u dl m).bind fun c m1=>if c=true then v dl m1 else .ok false m1:=nr rfl
@[simp] theorem x_bOr:bOr u v dl m=(u dl m).bind fun c m1=>if c=true then .ok true m1 else v dl m1:=nr rfl
@[simp] theorem zulb (f f':D→D→Option D):zdo f f' a b c dl m=(a dl m).bind fun x m1=>(b dl m1).bind fun y m2=>(lift2 f x y m2).bind fun z m3=>(tru z m3).bind fun k m4=>if k=true then (c dl m4).bind fun w m5=>lift2 f' y w m5 else .ok (.d (.bl false)) m4:=nr rfl
@[simp] theorem zbrb:aNil dl m = .ok [] m:=nr rfl
@[simp] theorem zaob:aCons a g dl m=(a dl m).bind fun x m1=>(g dl m1).bind fun xs m2=>.ok (x::xs) m2:=nr rfl
@[simp] theorem x_eFn (F:DF):eFn F g dl m=(g dl m).bind F:=nr rfl
@[simp] theorem z8pb (n:Nat) (F:DF) (ws:List W):lenF n F ws m=if ws.length=n then F ws m else .no:=nr rfl
@[simp] theorem zgqb:eTup g dl m=(g dl m).bind mkTup:=nr rfl
@[simp] theorem zqqb:eLst g dl m=(g dl m).bind mkLst:=nr rfl
@[simp] theorem z2qb:eCel g dl m=(g dl m).bind mkCel:=nr rfl
@[simp] theorem x_eIf:eIf u a b dl m=(u dl m).bind fun c m1=>if c=true then a dl m1 else b dl m1:=nr rfl
@[simp] theorem z7pb (n:Nat) (ws:List W):runF n s ws m=fin m.length (s (zup n ws) m):=nr rfl
@[simp] theorem zllb (n:Nat) (ws:List W):zup n ws=ws.map some++List.replicate (n-ws.length) none:=nr rfl
@[simp] theorem x_eB (f:List D→Option D):eB f g dl m=(g dl m).bind fun ws m1=>liftA f ws m1:=nr rfl
@[simp] theorem x_eBM (T:String) (f:D→List D→Option D):eBM T f a g dl m=(a dl m).bind fun x m1=>if isTy T x m1=true then (g dl m1).bind fun ws m2=>liftM f x ws m2 else .no:=nr rfl
@[simp] theorem z1qb (Cs:List Str) (f:Str):eFld Cs f a dl m=(a dl m).bind fun x m1=>lift1 (fldD Cs f) x m1:=nr rfl
@[simp] theorem zwnb (C:Str) (F:DF):eProp C F a dl m=(a dl m).bind fun x m1=>propW C F x m1:=nr rfl
@[simp] theorem zbqb:iSeq a dl m=(a dl m).bind z5o:=nr rfl
@[simp] theorem zcqb:iEnu g dl m=(g dl m).bind enumW:=nr rfl
@[simp] theorem z7qb:bYes dl m = .ok true m:=nr rfl
@[simp] theorem z4pb (f:DI) (h:DG):sFor f h s dl m=(f dl m).thenS dl fun items m1=>loopD h s items dl m1:=nr rfl
@[simp] theorem x_eLc (f:DI) (h:DG) (vs:List Nat):eLc f h u a vs dl m=(f dl m).bind fun items m1=>(compD h u a (wipeD dl vs) items [] m1).bind fun acc m2=>.ok (.d (.lst acc)) m2:=nr rfl
@[simp] theorem zcnb:wipeD dl []=dl:=nr rfl
@[simp] theorem zbnb (i:Nat) (vs:List Nat):wipeD dl (i::vs)=(wipeD dl vs).set i none:=nr rfl
@[simp] theorem zrib (d:D):z14 a d dl m=(a dl m).bind fun x m1=>z73 x d m1:=nr rfl
@[simp] theorem zsnb:oNone dl m = .ok none m:=nr rfl
def oW (w:W) (m:Mem):Res (Option Int):=match w with
 |.d (.int i)=>.ok (some i) m
 |_=>.no
@[simp] theorem zrnb:oSome a dl m=(a dl m).bind oW:=nr rfl
@[simp] theorem x_oW (i:Int):oW (.d (.int i)) m = .ok (some i) m:=nr rfl
@[simp] theorem x_eSl (lo hi:DO):eSl a lo hi dl m=(a dl m).bind fun x m1=>(lo dl m1).bind fun l m2=>(hi dl m2).bind fun u m3=>slW x l u m3:=nr rfl
@[simp] theorem znlb:z0t a b c dl m=(a dl m).thenS dl fun y m1=>(b dl m1).thenS dl fun o m2=>(c dl m2).thenS dl fun i m3=>(match setW y o i m3 with
 |some m4=>.nx dl m4
 |none=>.no):=nr rfl
@[simp] theorem zmnb (Cs:List Str) (f:Str):sFldS Cs f a b dl m=(a dl m).thenS dl fun y m1=>(b dl m1).thenS dl fun o m2=>(match sFldW Cs f y o m2 with
 |some m3=>.nx dl m3
 |none=>.no):=nr rfl
@[simp] theorem zwlb:z8t a dl m=(a dl m).bind starW:=nr rfl
def vW (o:Option (Option W)) (m:Mem):Res W:=match o with
 |some (some w)=>.ok w m
 |_=>.no
@[simp] theorem zfqb (i:Nat):eVar i dl m=vW (dl[i]?) m:=nr rfl
@[simp] theorem x_vW (w:W):vW (some (some w)) m = .ok w m:=nr rfl
end
@[simp] theorem zzpb:tagD .non=some (.bt "NoneType"):=nr rfl
@[simp] theorem zypb (b:Bool):tagD (.bl b)=some (.bt "bool"):=nr rfl
@[simp] theorem zxpb (i:Int):tagD (.int i)=some (.bt "int"):=nr rfl
@[simp] theorem zwpb (x:Str):tagD (.str x)=some (.bt "str"):=nr rfl
@[simp] theorem zvpb (xs:List D):tagD (.lst xs)=some (.bt "list"):=nr rfl
@[simp] theorem zupb (xs:List D):tagD (.tup xs)=some (.bt "tuple"):=nr rfl
@[simp] theorem ztpb (C:Str) (ns:List Str) (xs:List D):tagD (.obj C ns xs)=some (.own C):=nr rfl
@[simp] theorem zspb (xs:List D):tagD (.fz xs)=some (.bt "list"):=nr rfl
@[simp] theorem x_cel (xs:List D):Cell.toD (.lst xs) = .lst xs:=nr rfl
@[simp] theorem z6qb (C:Str) (ns:List Str) (xs:List D):Cell.toD (.obj C ns xs) = .obj C ns xs:=nr rfl
/-- what a reckoned value gives -/
def ofO (o:Option D) (m:Mem):Res W:=match o with
 |some z=>.ok (.d z) m
 |none=>.no
def ofB (o:Option Bool) (m:Mem):Res Bool:=match o with
 |some z=>.ok z m
 |none=>.no
def ofL {α : Type} (o:Option α) (m:Mem):Res α := match o with
 |some z=>.ok z m
 |none=>.no
@[simp] theorem zcdb (z:D) (m:Mem):ofO (some z) m = .ok (.d z) m:=rfl
@[simp] theorem zgmb (z:Bool) (m:Mem):ofB (some z) m = .ok z m:=rfl
@[simp] theorem zfmb {α : Type} (z : α) (m:Mem):ofL (some z) m = .ok z m:=rfl
@[simp] theorem rd_d (x:D) (m:Mem):W.rd (.d x) m=some x:=rfl
@[simp] theorem rd_c (k:Nat) (m:Mem):W.rd (.c k) m=(m[k]?).map Cell.toD:=rfl
@[simp] theorem zrmb (g:D→Option D) (x:W) (m:Mem):lift1 g x m=ofO (ob (x.rd m) g) m:=by
 unfold lift1
 cases x.rd m with
 |none=>rfl
 |some a=>show (match g a with |some z=>Res.ok (W.d z) m |none=>.no)=ofO (g a) m;cases g a <;> rfl
@[simp] theorem zqdb (g:D→D→Option D) (x y:W) (m:Mem):lift2 g x y m=ofO (ob (x.rd m) fun a=>ob (y.rd m) (g a)) m:=by
 unfold lift2
 cases x.rd m with
 |none=>rfl
 |some a=>
  cases y.rd m with
  |none=>rfl
  |some b=>show (match g a b with |some z=>Res.ok (W.d z) m |none=>.no)=ofO (g a b) m;cases g a b <;> rfl
@[simp] theorem zj1 (x:W) (m:Mem):tru x m=ofB (ob (x.rd m) truD) m:=by
 unfold tru
 cases x.rd m with
 |none=>rfl
 |some a=>show (match truD a with |some z=>Res.ok z m |none=>.no)=ofB (truD a) m;cases truD a <;> rfl
@[simp] theorem zpob (b:Bool):truD (.bl b)=some b:=rfl
@[simp] theorem z7lb (i:Int):truD (.int i)=some (i != 0):=rfl
@[simp] theorem zapb (isf:Tag→Option Bool) (x:W) (m:Mem):isiW isf x m=ofO (ob (x.rd m) fun d=>ob (tagD d) fun t=>(isf t).map D.bl) m:=by
 unfold isiW
 cases x.rd m with
 |none=>rfl
 |some d=>
  show (match tagD d with |some t=>(match isf t with |some b=>Res.ok (W.d (.bl b)) m |none=>.no) |none=>.no)=ofO (ob (tagD d) fun t=>(isf t).map D.bl) m
  cases tagD d with
  |none=>rfl
  |some t=>show (match isf t with |some b=>Res.ok (W.d (.bl b)) m |none=>.no)=ofO ((isf t).map D.bl) m;cases isf t <;> rfl
@[simp] theorem zejb (m:Mem):rdAll [] m=some []:=rfl
@[simp] theorem ziib (w:W) (ws:List W) (m:Mem):rdAll (w::ws) m=ob (w.rd m) fun x=>(rdAll ws m).map (x :: ·):=by
 rw[rdAll]
 cases w.rd m with
 |none=>rfl
 |some x=>cases rdAll ws m <;> rfl
@[simp] theorem zqmb (g:List D→Option D) (ws:List W) (m:Mem):liftA g ws m=ofO (ob (rdAll ws m) g) m:=by
 unfold liftA
 cases rdAll ws m with
 |none=>rfl
 |some xs=>show (match g xs with |some z=>Res.ok (W.d z) m |none=>.no)=ofO (g xs) m;cases g xs <;> rfl
@[simp] theorem zpmb (g:D→List D→Option D) (x:W) (ws:List W) (m:Mem):liftM g x ws m=ofO (ob (x.rd m) fun d=>ob (rdAll ws m) (g d)) m:=by
 unfold liftM
 cases x.rd m with
 |none=>rfl
 |some d=>
  cases rdAll ws m with
  |none=>rfl
  |some xs=>show (match g d xs with |some z=>Res.ok (W.d z) m |none=>.no)=ofO (g d xs) m;cases g d xs <;> rfl
@[simp] theorem zsrb (T:String) (x:D) (m:Mem):isTy T (.d x) m=tyD T x:=rfl
@[simp] theorem zbob (x:Str):tyD "str" (.str x)=true:=rfl
@[simp] theorem zcob (xs:List D):tyD "list" (.lst xs)=true:=rfl
@[simp] theorem zoib:z9f []=some []:=rfl
@[simp] theorem z84 (x:D) (ws:List W):z9f (.d x::ws)=(z9f ws).map (x :: ·):=by
 rw[z9f]
 cases z9f ws <;> rfl
@[simp] theorem zlmb (ws:List W) (m:Mem):mkTup ws m=ofO (ob (z9f ws) fun xs=>if xs.length≤sizeLine then some (.tup xs) else none) m:=by
 unfold mkTup
 cases z9f ws with
 |none=>rfl
 |some xs=>show (if xs.length≤sizeLine then Res.ok (W.d (.tup xs)) m else .no)=ofO (if xs.length≤sizeLine then some (.tup xs) else none) m;split <;> rfl
@[simp] theorem zmmb (ws:List W) (m:Mem):mkLst ws m=ofO (ob (z9f ws) fun xs=>if xs.length≤sizeLine then some (.lst xs) else none) m:=by
 unfold mkLst
 cases z9f ws with
 |none=>rfl
 |some xs=>show (if xs.length≤sizeLine then Res.ok (W.d (.lst xs)) m else .no)=ofO (if xs.length≤sizeLine then some (.lst xs) else none) m;split <;> rfl
@[simp] theorem sz1:(1:Nat)≤sizeLine:=by decide
@[simp] theorem sz2:(2:Nat)≤sizeLine:=by decide
@[simp] theorem sz3:(3:Nat)≤sizeLine:=by decide
def ixW (t:Tbl) (x y:W) (m:Mem):Res W:=match clsOf x m with
 |some C=>(match look t C with
  |some F=>F [x,y] m
  |none=>.no)
 |none=>lift2 ixD x y m
@[simp] theorem zmfb (t:Tbl) (a b:DE) (dl:Env) (m:Mem):eIx t a b dl m=(a dl m).bind fun x m1=>(b dl m1).bind fun y m2=>ixW t x y m2:=rfl
@[simp] theorem z5ob (t:Tbl) (z:Str) (y:D) (m:Mem):ixW t (.d (.str z)) (.d y) m=ofO (ixD (.str z) y) m:=by unfold ixW clsOf;simp
@[simp] theorem z7ob (t:Tbl) (z:List D) (y:D) (m:Mem):ixW t (.d (.lst z)) (.d y) m=ofO (ixD (.lst z) y) m:=by unfold ixW clsOf;simp
@[simp] theorem zorb (t:Tbl) (z:List D) (y:D) (m:Mem):ixW t (.d (.fz z)) (.d y) m=ofO (ixD (.fz z) y) m:=by unfold ixW clsOf;simp
@[simp] theorem z4ob (t:Tbl) (z:List D) (y:D) (m:Mem):ixW t (.d (.tup z)) (.d y) m=ofO (ixD (.tup z) y) m:=by unfold ixW clsOf;simp
@[simp] theorem z6ob (t:Tbl) (C:Str) (ns:List Str) (ds:List D) (y:W) (m:Mem):ixW t (.d (.obj C ns ds)) y m=(match look t C with
  |some F=>F [.d (.obj C ns ds),y] m
  |none=>.no):=rfl
@[simp] theorem z9ob (z:List D) (i:Int):ixD (.lst z) (.int i)=atI z i:=rfl
@[simp] theorem zrrb (z:List D) (i:Int):ixD (.fz z) (.int i)=atI z i:=rfl
@[simp] theorem z8ob (z:List D) (i:Int):ixD (.tup z) (.int i)=atI z i:=rfl
theorem atI_nat {α : Type} (z:List α) (i:Nat):atI z (i:Int)=z[i]?:=by
 unfold atI ixN
 rw[if_pos (by omega)]
 by_cases h:i<z.length
 ·rw[if_pos (by omega)]
  simp
 ·rw[if_neg (by omega)]
  simp
  omega
@[simp] theorem z9mb {α : Type} (z:List α):atI z 0=z[0]?:=atI_nat z 0
@[simp] theorem zopb {α : Type} (z:List α):atI z 1=z[1]?:=atI_nat z 1
@[simp] theorem znpb {α : Type} (z:List α):atI z 2=z[2]?:=atI_nat z 2
@[simp] theorem zelb {α : Type} (z:List α):atI z 3=z[3]?:=atI_nat z 3
def lnW (t:Tbl) (x:W) (m:Mem):Res W:=match clsOf x m with
 |some C=>(match look t C with
  |some F=>lenI (F [x] m)
  |none=>.no)
 |none=>liftA lenD [x] m
@[simp] theorem zlpb (t:Tbl) (a:DE) (dl:Env) (m:Mem):eLen t (aCons a aNil) dl m=(a dl m).bind fun x m1=>lnW t x m1:=by
 unfold eLen aCons aNil
 cases a dl m <;> rfl
@[simp] theorem z1ob (t:Tbl) (z:Str) (m:Mem):lnW t (.d (.str z)) m=ofO (lenD [.str z]) m:=by unfold lnW clsOf;simp
@[simp] theorem ziq (t:Tbl) (z:List D) (m:Mem):lnW t (.d (.lst z)) m = .ok (.d (.int z.length)) m:=by unfold lnW clsOf;simp;rfl
@[simp] theorem znrb (t:Tbl) (z:List D) (m:Mem):lnW t (.d (.fz z)) m = .ok (.d (.int z.length)) m:=by unfold lnW clsOf;simp;rfl
@[simp] theorem z0ob (t:Tbl) (z:List D) (m:Mem):lnW t (.d (.tup z)) m = .ok (.d (.int z.length)) m:=by unfold lnW clsOf;simp;rfl
@[simp] theorem z2ob (t:Tbl) (C:Str) (ns:List Str) (ds:List D) (m:Mem):lnW t (.d (.obj C ns ds)) m=(match look t C with
  |some F=>lenI (F [.d (.obj C ns ds)] m)
  |none=>.no):=rfl
@[simp] theorem zxhb (t:Tbl) (a:DE) (dl:Env) (m:Mem):eStr t (aCons a aNil) dl m=(a dl m).bind fun x m1=>(match clsOf x m1 with
  |some C=>(match look t C with
   |some F=>strI (F [x] m1)
   |none=>.no)
  |none=>liftA strD [x] m1):=by
 unfold eStr aCons aNil
 cases a dl m <;> rfl
@[simp] theorem zqs (C:Str) (ns:List Str) (ds:List D) (m:Mem):clsOf (.d (.obj C ns ds)) m=some C:=rfl
@[simp] theorem zbmb (x:Str) (m:Mem):strI (.ok (.d (.str x)) m) = .ok (.d (.str x)) m:=rfl
@[simp] theorem z95 (C:Str) (F:DF) (r:Tbl):look ((C,F)::r) C=some F:=by unfold look;rw[if_pos rfl]
@[simp] theorem zw1 (C:Str) (F:DF) (ns:List Str) (ds:List D) (m:Mem):propW C F (.d (.obj C ns ds)) m=noExc (F [.d (.obj C ns ds)] m):=by unfold propW;rw[zqs,if_pos rfl]
@[simp] theorem zhmb (w:W) (m:Mem):noExc (.ok w m) = .ok w m:=rfl
@[simp] theorem z2mb (C:Str) (d:D) (m:Mem) (dl:Env):eCval C d (eC (.cls C)) dl m = .ok (.d d) m:=by show (if C=C then Res.ok (W.d d) m else .no)=_;rw[if_pos rfl]
@[simp] theorem z5rb (C:Str) (b:Bool) (F:DF) (f:DA) (m:Mem) (dl:Env):eCm C b F (eC (.cls C)) f dl m=(f dl m).bind fun ws m2=>F (if b=true then .d (.cls C)::ws else ws) m2:=by
 show (if C=C then (f dl m).bind fun ws m2=>F (if b=true then .d (.cls C)::ws else ws) m2 else .no)=_
 rw[if_pos rfl]
@[simp] theorem z4rb (C:Str) (F:DF) (f:DA) (m:Mem) (dl:Env):eMk C F (eC (.cls C)) f dl m=(f dl m).bind fun ws m2=>makeW C F ws m2:=by
 show (if C=C then (f dl m).bind fun ws m2=>makeW C F ws m2 else .no)=_
 rw[if_pos rfl]
@[simp] theorem z8ib (xs:List D) (m:Mem):starW (.d (.lst xs)) m = .ok (xs.map W.d) m:=rfl
@[simp] theorem z7ib (xs:List D) (m:Mem):starW (.d (.tup xs)) m = .ok (xs.map W.d) m:=rfl
@[simp] theorem z4eb (xs:List D) (m:Mem):z5o (.d (.lst xs)) m = .ok xs m:=rfl
@[simp] theorem z3eb (xs:List D) (m:Mem):z5o (.d (.tup xs)) m = .ok xs m:=rfl
@[simp] theorem z9fb (xs:List D) (m:Mem):z5o (.d (.fz xs)) m = .ok xs m:=rfl
@[simp] theorem zokb (xs:List D) (m:Mem):enumW [.d (.lst xs)] m = .ok (enumD xs) m:=rfl
@[simp] theorem slW_d (x:D) (lo hi:Option Int) (m:Mem):slW (.d x) lo hi m=ofO (slD x lo hi) m:=by
 unfold slW
 simp only[rd_d]
 cases slD x lo hi <;> rfl
def rngW (ws:List W) (m:Mem):Res (List D):=match ws with
 |[.d (.int j)]=>if -(2 ^ 62)≤j∧j<2 ^ 62 then .ok (rngD 0 j.toNat) m else .no
 |_=>.no
def rngB (r:Res (List W)):Res (List D):=r.bind rngW
@[simp] theorem zkib (f:DA) (dl:Env) (m:Mem):zbt f dl m=rngB (f dl m):=nr rfl
@[simp] theorem gt_int (i j:Int):gtD (.int i) (.int j)=some (.bl (decide (j<i))):=rfl
@[simp] theorem ge_int (i j:Int):geD (.int i) (.int j)=some (.bl (decide (j≤i))):=rfl
@[simp] theorem lt_int (i j:Int):ltD (.int i) (.int j)=some (.bl (decide (i<j))):=rfl
@[simp] theorem le_int (i j:Int):leD (.int i) (.int j)=some (.bl (decide (i≤j))):=rfl
@[simp] theorem add_int (i j:Int):addD (.int i) (.int j)=some (.int (i+j)):=rfl
@[simp] theorem sub_int (i j:Int):subD (.int i) (.int j)=some (.int (i-j)):=rfl
@[simp] theorem neg_int (i:Int):negD (.int i)=some (.int (-i)):=rfl
@[simp] theorem int_int (i:Int):intD [.int i]=some (.int i):=rfl
@[simp] theorem zppb (i:Int):absD [.int i]=some (.int (if i<0 then -i else i)):=rfl
@[simp] theorem zomb (i j:Int):max2D [.int i,.int j]=some (.int (if j > i then j else i)):=rfl
@[simp] theorem znmb (i j:Int):min2D [.int i,.int j]=some (.int (if j<i then j else i)):=rfl
@[simp] theorem zwib (xs:List D):z5m [.lst xs]=some (.tup xs):=rfl
@[simp] theorem zvib (xs:List D):z5m [.tup xs]=some (.tup xs):=rfl
def okD (x:D):Bool:=match toP x with
 |some p=>SeqAt.shaped p
 |none=>false
theorem z03 {a:List Nat} (h:∀c∈a,c<1114112):PyData.strOk (SX.S a)=true:=by
 unfold PyData.strOk
 rw[←Array.all_toList,List.all_eq_true]
 exact fun c hc=>decide_eq_true (h c hc)
@[simp] theorem zkh (x y:Str):eqD (.str x) (.str y)=some (.bl (decide (x=y))):=nr rfl
@[simp] theorem zxob (x y:Str):neD (.str x) (.str y)=some (.bl (!decide (x=y))):=nr rfl
end DL
namespace DL
open PySem PySem.Spec L2
open PyProof.Rows hiding St
open Evl (Ex)
def znz (g:DG) (t:DT) (fi:DI) (g1:DG) (t1:DT) (e:DE) (vs1:List Nat) (wd:Env):List D→List D→Mem→Res (List D)
 |[],acc,m=>.ok acc m
 |d::ds,acc,m=>match g (.d d) wd with
  |none=>.no
  |some dl1=>(match t dl1 m with
   |.ok b m1=>(match b with
    |true=>(match fi dl1 m1 with
     |.ok items m2=>(compD g1 t1 e (wipeD dl1 vs1) items acc m2).bind fun acc' m3=>znz g t fi g1 t1 e vs1 wd ds acc' m3
     |_=>.no)
    |false=>znz g t fi g1 t1 e vs1 wd ds acc m1)
   |_=>.no)
def eLc2 (f:DI) (g:DG) (t:DT) (fi:DI) (g1:DG) (t1:DT) (e:DE) (vs vs1:List Nat):DE:=fun dl m=>(f dl m).bind fun items m1=>(znz g t fi g1 t1 e vs1 (wipeD dl vs) items [] m1).bind fun acc m2=>.ok (.d (.lst acc)) m2
end DL
namespace DL
open PySem PySem.Spec L2
open PyProof.Rows hiding St
open Evl (Ex)
/-- data whose text can be told, with n signs beside it -/
def shOk (n:Nat) (p:PyData):Bool:=p.showable&&(!p.hasDict&&(decide (p.depth≤60)&&decide (p.shown.length+n≤sizeLine)))
section
variable {X:Cx} {Wx:WX}
/-- the parts one behind the other -/
def fsD:List DE→Str→DE
 |[],acc=>fun _ m=>.ok (.d (.str acc)) m
 |f::fs,acc=>fun dl m=>(f dl m).bind fun w m1=>match w with
  |.d (.str y)=>if (acc++y).length≤sizeLine then fsD fs (acc++y) dl m1 else .no
  |_=>.no
end
end DL
namespace DL
open PySem PySem.Spec L2
open PyProof.Rows hiding St
open Evl (Ex)
mutual
theorem Dp.ext {K:Fg} {H H':Hp} (e:Ex H H'):∀{v:V} {p:PyData},Dp K H v p→Dp K H' v p
 |_,_,.non=>.non
 |_,_,.bl b=>.bl b
 |_,_,.int i=>.int i
 |_,_,.str x=>.str x
 |_,_,.lst h r=>.lst (Evl.ex_l e h) (DpAll.ext e r)
 |_,_,.tup h r=>.tup (Evl.ex_t e h) (DpAll.ext e r)
theorem DpAll.ext {K:Fg} {H H':Hp} (e:Ex H H'):∀{v:List V} {p:List PyData},DpAll K H v p→DpAll K H' v p
 |_,_,.nil=>.nil
 |_,_,.cons h r=>.cons (Dp.ext e h) (DpAll.ext e r)
end
end DL
namespace DL
open PySem PySem.Spec L2
open PyProof.Rows hiding St
open Evl (Ex)
section
variable {X:Cx} {Wx:WX}
def raW (C f:Str) (n:Nat) (dl:Env) (w:W) (m:Mem):SR:=match w with
 |.d x=>(match toP x with
  |some p=>if shOk n p=true then .exc dl C f x m else .no
  |none=>.no)
 |_=>.no
def ztg (C f:Str) (n:Nat) (fe:DE):DS:=fun dl m=>(fe dl m).thenS dl fun w m1=>raW C f n dl w m1
def wipeS (i:Nat):SR→SR
 |.nx dl m=>.nx (dl.set i none) m
 |.bk dl m=>.bk (dl.set i none) m
 |.ct dl m=>.ct (dl.set i none) m
 |.rt w m=>.rt w m
 |_=>.no
def tryH (i n:Nat) (C:Str) (Es:List Str) (h:DS):SR→SR
 |.exc dl C' f p m=>if C'=C then (if dl.length=n then wipeS i (h (dl.set i (some (.ex 0 0 C f p))) m) else .no) else if C'∈Es then .exc dl C' f p m else .no
 |.nx dl m=>.nx dl m
 |.bk dl m=>.bk dl m
 |.ct dl m=>.ct dl m
 |.rt w m=>.rt w m
 |.no=>.no
def sTry (i n:Nat) (C:Str) (Es:List Str) (b:DS) (h:Addr→Addr→DS):DS:=fun dl m=>tryH i n C Es (h 0 0) (b dl m)
def noX:SR→SR
 |.exc _ _ _ _ _=>.no
 |r=>r
def tryN (C:Str) (Es:List Str) (h:DS):SR→SR
 |.exc dl C' f p m=>if C'=C then noX (h dl m) else if C'∈Es then .exc dl C' f p m else .no
 |.nx dl m=>.nx dl m
 |.bk dl m=>.bk dl m
 |.ct dl m=>.ct dl m
 |.rt w m=>.rt w m
 |.no=>.no
def sTryN (C:Str) (Es:List Str) (b:DS) (h:DS):DS:=fun dl m=>tryN C Es h (b dl m)
/-- n.f, n the error -/
def xfW (a dd:Addr) (C f:Str) (o:Option (Option W)) (m:Mem):Res W:=match o with
 |some (some (.ex a' dd' C' f' p))=>if a'=a∧dd'=dd∧C'=C∧f'=f then .ok (.d p) m else .no
 |_=>.no
def eXf (a dd:Addr) (C:Str) (i:Nat) (f:Str):DE:=fun dl m=>xfW a dd C f (dl[i]?) m
/-- isinstance(n, c) -/
def lookB:List (Str × Bool)→Str→Option Bool
 |[],_=>none
 |q::r,C=>if q.1=C then some q.2 else lookB r C
def xisW (a dd:Addr) (C:Str) (tab:List (Str × Bool)) (o:Option (Option W)) (m:Mem):Res W:=match o with
 |some (some (.ex a' dd' C' f' p))=>if a'=a∧dd'=dd∧C'=C then (match lookB tab C with
  |some b=>.ok (.d (.bl b)) m
  |none=>.no) else .no
 |_=>.no
def eXis (a dd:Addr) (C:Str) (i:Nat) (tab:List (Str × Bool)):DE:=fun dl m=>xisW a dd C tab (dl[i]?) m
end
end DL
namespace DL
open PySem PySem.Spec L2
open PyProof.Rows hiding St
open Evl (Ex)
def tagIn (ts:List String) (C:Str):Option Tag→Bool
 |some (.bt n)=>decide (n∈ts)
 |some (.own C')=>decide (C'=C)
 |none=>false
def tagOf (y:W) (m:Mem):Option Tag:=match y.rd m with
 |some d=>tagD d
 |none=>none
def bopW (ts:List String) (t:Tbl) (g:D→D→Option D) (x y:W) (m:Mem):Res W:=match clsOf x m with
 |some C=>(match look t C with
  |some F=>if tagIn ts C (tagOf y m)=true then F [x,y] m else .no
  |none=>.no)
 |none=>lift2 g x y m
def eBop (ts:List String) (t:Tbl) (g:D→D→Option D) (a b:DE):DE:=fun dl m=>(a dl m).bind fun x m1=>(b dl m1).bind fun y m2=>bopW ts t g x y m2
section
variable {X:Cx} {Wx:WX}
/-- -x -/
def negW (t:Tbl) (x:W) (m:Mem):Res W:=match clsOf x m with
 |some C=>(match look t C with
  |some F=>F [x] m
  |none=>.no)
 |none=>lift1 negD x m
def eNeg (t:Tbl) (a:DE):DE:=fun dl m=>(a dl m).bind fun x m1=>negW t x m1
end
end DL
namespace DL
open PySem PySem.Spec L2
open PyProof.Rows hiding St
open PySem.W (Frag)
def oexB (K:Frag) (C:Addr):Bool:=match K.lookup C with
 |some ⟨.type "type",_,.cls cd,sl⟩=>(match cd.mro,sl.toList with
  |.ref C'::bm,[_,_,_,_,some (.builtin n),_]=>C'==C&&(n == "ValueError.__new__" && (!cd.hasDel&&(cd.hasDict&&PySem.HandSPX.refsVE bm)))
  |_,_=>false)
 |_=>false
def fErr (C f:Str):Frag→Bool:=fun K=>oexB K (He.ga K C)&&(He.eqO (PySem.W.findIn K (.ref (He.ga K C)) "__setattr__") (some (some (.builtin "object.__setattr__")))&&(decide (PySem.W.subIn K (.ref (He.ga K C)) (.type "BaseException")=some true) &&
 (decide (PySem.W.typeIn K (.ref (He.ga K C))=some (.type "type"))&&(PySem.W.keepIn K (.ref (He.ga K C))&&(He.eqO (PySem.W.findIn K (.ref (He.ga K C)) "__init__") (some (some (.ref (He.ma K (He.ga K C) "__init__")))) &&
 (decide (PySem.W.typeIn K (.ref (He.ma K (He.ga K C) "__init__"))=some (.type "function"))&&He.eqO (PySem.W.findIn K (.ref (He.ga K C)) f) (some none)))))))
def fVe:Frag→Bool:=fun K=>match PySem.W.findCls K (.type "ValueError") (.type "type") "__init__" with
 |some (.val (.builtin n))=>n == "ValueError.__init__"
 |_=>false
def fCat (C:Str):Frag→Bool:=fun K=>He.eqO (PySem.W.findIn K (.ref (He.ga K C)) "__getattribute__") (some (some (.builtin "BaseException.__getattribute__")))&&(He.eqO (PySem.W.findIn K (.ref (He.ga K C)) "__getattr__") (some none)&&(decide (PySem.W.subIn K (.ref (He.ga K C)) (.type "BaseException")=some true) &&
 (PySem.W.hasDictIn K (He.ga K C)&&(He.eqO (PySem.W.findIn K (.ref (He.ga K C)) "__class__") (some (some (.builtin "object.__class__")))&&(He.eqO (PySem.W.specialIn K (.builtin "object.__class__") "__get__") (some (some (.builtin "getset_descriptor.__get__"))) &&
 (decide (PySem.W.takesIn K (.builtin "object.__class__")=some true)&&decide (PySem.W.mroIn K (He.ga K C) (.type "object")=some true)))))))
def fNoF (C f:Str):Frag→Bool:=fun K=>He.eqO (PySem.W.findIn K (.ref (He.ga K C)) f) (some none)
def fExm (C:Str) (Es:List Str):Frag→Bool:=fun K=>decide (PySem.W.exmOne K (.ref (He.ga K C)) (.ref (He.ga K C))=some true)&&Es.all fun C'=>decide (PySem.W.exmOne K (.ref (He.ga K C')) (.ref (He.ga K C))=some false)
def fXis (t:List (Str × Bool)) (cs:List CRef):Frag→Bool:=fun K=>t.all fun q=>fKit (.own q.1) cs q.2 K
def isP:Option (Option Value)→Bool
 |some none=>true
 |some (some (.ref _))=>true
 |_=>false
def bopTB (K:Frag) (C:Addr) (nm T:String):Bool:=(PySem.W.findIn K (.type T) (PySem.dunder nm)).isSome&&((PySem.W.findIn K (.type T) (dunderR nm)).isSome&&decide (PySem.W.subIn K (.type T) (.ref C)=some false))
/-- C's own method m for op, the types ts on its right -/
def fBop (C m:Str) (op:Operator) (ts:List String):Frag→Bool:=fun K=>decide (m=PySem.dunder op.info.2)&&(fOwn C m K&&(PySem.W.selfFirst K (He.ga K C)&&(isP (PySem.W.findIn K (.ref (He.ga K C)) (dunderR op.info.2))&&(fIsiC C K&&ts.all fun T=>bopTB K (He.ga K C) op.info.2 T))))
end DL
namespace DL
open PySem PySem.Spec L2
open PyProof.Rows hiding St
open Evl (Ex)
section
variable {X:Cx} {Wx:WX}
def chrD (x:Str):List D:=x.cps.toList.map fun c=>.str ⟨#[c]⟩
def zxu (w:W) (m:Mem):Res (List D):=match w with
 |.d (.str x)=>.ok (chrD x) m
 |_=>.no
def iTxt (f:DE):DI:=fun dl m=>(f dl m).bind zxu
/-- a, b, c = e1, e2, e3 -/
def sPar3 (i j l:Nat) (f:DA):DS:=fun dl m=>(f dl m).thenS dl fun ws m1=>match ws with
 |[u,v,w]=>.nx (((dl.set i (some u)).set j (some v)).set l (some w)) m1
 |_=>.no
end
@[simp] theorem x_eXf (a dd:Addr) (C:Str) (i:Nat) (f:Str) (dl:Env) (m:Mem):eXf a dd C i f dl m=xfW a dd C f (dl[i]?) m:=nr rfl
@[simp] theorem zklb (a dd:Addr) (C f f':Str) (p:D) (m:Mem):xfW a dd C f (some (some (.ex a dd C f' p))) m=if f'=f then .ok (.d p) m else .no:=by
 unfold xfW
 by_cases h:f'=f <;> simp[h]
@[simp] theorem zeqb (a dd:Addr) (C:Str) (i:Nat) (t:List (Str × Bool)) (dl:Env) (m:Mem):eXis a dd C i t dl m=xisW a dd C t (dl[i]?) m:=nr rfl
@[simp] theorem zqib (a dd:Addr) (C f':Str) (t:List (Str × Bool)) (p:D) (m:Mem):xisW a dd C t (some (some (.ex a dd C f' p))) m=ofO ((lookB t C).map D.bl) m:=by
 unfold xisW
 simp only[and_self,if_true]
 cases lookB t C <;> rfl
@[simp] theorem z0pb (i n:Nat) (C:Str) (Es:List Str) (b:DS) (h:Addr→Addr→DS) (dl:Env) (m:Mem):sTry i n C Es b h dl m=tryH i n C Es (h 0 0) (b dl m):=nr rfl
@[simp] theorem zdnb (C:Str) (Es:List Str) (b h:DS) (dl:Env) (m:Mem):sTryN C Es b h dl m=tryN C Es h (b dl m):=nr rfl
section
variable (i n:Nat) (C:Str) (Es:List Str) (h:DS) (dl:Env) (m:Mem) (w:W)
@[simp] theorem zlob:tryH i n C Es h (.nx dl m) = .nx dl m:=nr rfl
@[simp] theorem zkob:tryH i n C Es h (.rt w m) = .rt w m:=nr rfl
@[simp] theorem zoob:tryH i n C Es h (.bk dl m) = .bk dl m:=nr rfl
@[simp] theorem znob:tryH i n C Es h (.ct dl m) = .ct dl m:=nr rfl
@[simp] theorem zmob:tryH i n C Es h .no = .no:=nr rfl
@[simp] theorem z4lb (C' f:Str) (p:D):tryH i n C Es h (.exc dl C' f p m)=if C'=C then (if dl.length=n then wipeS i (h (dl.set i (some (.ex 0 0 C f p))) m) else .no) else if C'∈Es then .exc dl C' f p m else .no:=nr rfl
@[simp] theorem zeob:tryN C Es h (.nx dl m) = .nx dl m:=nr rfl
@[simp] theorem zdob:tryN C Es h (.rt w m) = .rt w m:=nr rfl
@[simp] theorem zhob:tryN C Es h (.bk dl m) = .bk dl m:=nr rfl
@[simp] theorem zgob:tryN C Es h (.ct dl m) = .ct dl m:=nr rfl
@[simp] theorem zfob:tryN C Es h .no = .no:=nr rfl
@[simp] theorem z1lb (C' f:Str) (p:D):tryN C Es h (.exc dl C' f p m)=if C'=C then noX (h dl m) else if C'∈Es then .exc dl C' f p m else .no:=nr rfl
@[simp] theorem zylb:wipeS i (.nx dl m) = .nx (dl.set i none) m:=nr rfl
@[simp] theorem zxlb:wipeS i (.rt w m) = .rt w m:=nr rfl
@[simp] theorem z0lb:wipeS i (.bk dl m) = .bk (dl.set i none) m:=nr rfl
@[simp] theorem zzlb:wipeS i (.ct dl m) = .ct (dl.set i none) m:=nr rfl
@[simp] theorem zirb:noX (.nx dl m) = .nx dl m:=nr rfl
@[simp] theorem zhrb:noX (.rt w m) = .rt w m:=nr rfl
@[simp] theorem zkrb:noX (.bk dl m) = .bk dl m:=nr rfl
@[simp] theorem zjrb:noX (.ct dl m) = .ct dl m:=nr rfl
@[simp] theorem zolb (f:Str) (e:DE):ztg C f n e dl m=(e dl m).thenS dl fun w m1=>raW C f n dl w m1:=nr rfl
/-- what an error may tell -/
def reOk (n:Nat) (x:D):Bool:=match toP x with
 |some p=>shOk n p
 |none=>false
@[simp] theorem raW_d (f:Str) (x:D):raW C f n dl (.d x) m=if reOk n x=true then .exc dl C f x m else .no:=by
 unfold raW reOk
 simp only[]
 cases toP x with
 |none=>rfl
 |some p=>rfl
@[simp] theorem z3pb (i j:Nat) (g:DA):sPar i j g dl m=(g dl m).thenS dl fun ws m1=>(match ws with
 |[v,w]=>.nx ((dl.set i (some v)).set j (some w)) m1
 |_=>.no):=nr rfl
@[simp] theorem zinb (i j l:Nat) (g:DA):sPar3 i j l g dl m=(g dl m).thenS dl fun ws m1=>(match ws with
 |[u,v,w]=>.nx (((dl.set i (some u)).set j (some v)).set l (some w)) m1
 |_=>.no):=nr rfl
@[simp] theorem zaqb (a:DE):iTxt a dl m=(a dl m).bind zxu:=nr rfl
@[simp] theorem z2eb (x:Str):zxu (.d (.str x)) m = .ok (chrD x) m:=nr rfl
@[simp] theorem z3qb (ts:List String) (t:Tbl) (g:D→D→Option D) (a b:DE):eBop ts t g a b dl m=(a dl m).bind fun x m1=>(b dl m1).bind fun y m2=>bopW ts t g x y m2:=nr rfl
@[simp] theorem z4mb (ts:List String) (t:Tbl) (g:D→D→Option D) (ns:List Str) (ds:List D) (y:W):bopW ts t g (.d (.obj C ns ds)) y m=(match look t C with
  |some F=>if tagIn ts C (tagOf y m)=true then F [.d (.obj C ns ds),y] m else .no
  |none=>.no):=nr rfl
@[simp] theorem z5mb (ts:List String) (t:Tbl) (g:D→D→Option D) (j:Int) (y:W):bopW ts t g (.d (.int j)) y m=lift2 g (.d (.int j)) y m:=nr rfl
@[simp] theorem z3mb (ts:List String) (t:Tbl) (g:D→D→Option D) (j:Str) (y:W):bopW ts t g (.d (.str j)) y m=lift2 g (.d (.str j)) y m:=nr rfl
@[simp] theorem zsob (x:D):tagOf (.d x) m=tagD x:=nr rfl
@[simp] theorem z9lb (ts:List String) (s:String):tagIn ts C (some (.bt s))=decide (s∈ts):=nr rfl
@[simp] theorem z18 (ts:List String):tagIn ts C (some (.own C))=true:=by unfold tagIn;simp
@[simp] theorem zoqb (t:Tbl) (a:DE):eNeg t a dl m=(a dl m).bind fun x m1=>negW t x m1:=nr rfl
@[simp] theorem zimb (t:Tbl) (ns:List Str) (ds:List D):negW t (.d (.obj C ns ds)) m=(match look t C with
  |some F=>F [.d (.obj C ns ds)] m
  |none=>.no):=nr rfl
@[simp] theorem zcpb (acc:Str):fsD [] acc dl m = .ok (.d (.str acc)) m:=nr rfl
def fsW (fs:List DE) (acc:Str) (dl:Env) (w:W) (m:Mem):Res W:=match w with
 |.d (.str y)=>if (acc++y).length≤sizeLine then fsD fs (acc++y) dl m else .no
 |_=>.no
@[simp] theorem zwmb (f:DE) (fs:List DE) (acc:Str):fsD (f::fs) acc dl m=(f dl m).bind fun w m1=>fsW fs acc dl w m1:=nr rfl
@[simp] theorem zbpb (fs:List DE) (acc y:Str):fsW fs acc dl (.d (.str y)) m=if (acc++y).length≤sizeLine then fsD fs (acc++y) dl m else .no:=nr rfl
end
end DL
namespace DL
open PySem PySem.Spec L2
open PyProof.Rows hiding St
open Evl (Ex)
def eqoW (ts:List String) (t:Tbl) (neg:Bool) (x y:W) (m:Mem):Res W:=match clsOf x m with
 |some C=>(match look t C with
  |some F=>if tagIn ts C (tagOf y m)=true then (F [x,y] m).bind fun r m1=>(match r with
    |.d (.bl b)=>.ok (.d (.bl (if neg then !b else b))) m1
    |_=>.no) else .no
  |none=>.no)
 |none=>lift2 (if neg then neD else eqD) x y m
def eOpW (h:W→W→Mem→Res W) (a b:DE):DE:=fun dl m=>(a dl m).bind fun x m1=>(b dl m1).bind fun y m2=>h x y m2
section
variable {X:Cx} {Wx:WX}
def inoW (t:Tbl) (g:D→D→Option D) (neg:Bool) (x y:W) (m:Mem):Res W:=match clsOf y m with
 |some C=>(match look t C with
  |some F=>(F [y,x] m).bind fun r m1=>(match r with
    |.d (.bl b)=>.ok (.d (.bl (if neg then !b else b))) m1
    |_=>.no)
  |none=>.no)
 |none=>lift2 g x y m
end
end DL
namespace DL
open PySem PySem.Spec L2
open PyProof.Rows hiding St
open Evl (Ex)
section
variable {X:Cx} {Wx:WX}
/-- o.m(e, .., k = v, ..) -/
def zv6 (C m:Str) (nk:Nat) (F:DF) (a:DE) (f fk:DA):DE:=fun dl mm=>(a dl mm).bind fun x m1=>if hasNo C m x m1=true then (f dl m1).bind fun ws m2=>(fk dl m2).bind fun zs m3=>if zs.length=nk then F (x::(ws++zs)) m3 else .no else .no
/-- f(e, .., k = v, ..) -/
def eFnK (nk:Nat) (F:DF) (f fk:DA):DE:=fun dl m1=>(f dl m1).bind fun ws m2=>(fk dl m2).bind fun zs m3=>if zs.length=nk then F (ws++zs) m3 else .no
end
end DL
namespace DL
open PySem PySem.Spec L2
open PyProof.Rows hiding St
open Evl (Ex)
section
variable (dl:Env) (m:Mem) (C:Str)
@[simp] theorem zmqb (h:W→W→Mem→Res W) (a b:DE):eOpW h a b dl m=(a dl m).bind fun x m1=>(b dl m1).bind fun y m2=>h x y m2:=nr rfl
def blOf (neg:Bool) (r:W) (m:Mem):Res W:=match r with
 |.d (.bl b)=>.ok (.d (.bl (if neg then !b else b))) m
 |_=>.no
@[simp] theorem z6rb (b:Bool):blOf true (.d (.bl b)) m = .ok (.d (.bl (!b))) m:=nr rfl
@[simp] theorem z7rb (b:Bool):blOf false (.d (.bl b)) m = .ok (.d (.bl b)) m:=nr rfl
@[simp] theorem z0mb (ts:List String) (t:Tbl) (neg:Bool) (ns:List Str) (ds:List D) (y:W):eqoW ts t neg (.d (.obj C ns ds)) y m=(match look t C with
  |some F=>if tagIn ts C (tagOf y m)=true then (F [.d (.obj C ns ds),y] m).bind (blOf neg) else .no
  |none=>.no):=nr rfl
@[simp] theorem zumb (t:Tbl) (g:D→D→Option D) (neg:Bool) (x:W) (ns:List Str) (ds:List D):inoW t g neg x (.d (.obj C ns ds)) m=(match look t C with
  |some F=>(F [.d (.obj C ns ds),x] m).bind (blOf neg)
  |none=>.no):=nr rfl
@[simp] theorem zrlb (n:Str) (nk:Nat) (F:DF) (a:DE) (f fk:DA):zv6 C n nk F a f fk dl m=(a dl m).bind fun x m1=>if hasNo C n x m1=true then (f dl m1).bind fun ws m2=>(fk dl m2).bind fun zs m3=>if zs.length=nk then F (x::(ws++zs)) m3 else .no else .no:=nr rfl
@[simp] theorem z0qb (nk:Nat) (F:DF) (f fk:DA):eFnK nk F f fk dl m=(f dl m).bind fun ws m2=>(fk dl m2).bind fun zs m3=>if zs.length=nk then F (ws++zs) m3 else .no:=nr rfl
@[simp] theorem zynb (n:Str) (F:DF) (a:DE) (f:DA):eMeth C n F a f dl m=(a dl m).bind fun x m1=>if hasNo C n x m1=true then (f dl m1).bind fun ws m2=>F (x::ws) m2 else .no:=nr rfl
@[simp] theorem zwab (C' n:Str) (ns:List Str) (ds:List D):hasNo C n (.d (.obj C' ns ds)) m=(decide (C'=C) && !ns.contains n):=nr rfl
@[simp] theorem zjmb (t:Tbl) (i:Int):negW t (.d (.int i)) m = .ok (.d (.int (-i))) m:=nr rfl
end
end DL
namespace DL
open PySem PySem.Spec L2
open PyProof.Rows hiding St
open Evl (Ex)
/-- the items of a list or a tuple -/
def seqLT:D→Option (List D)
 |.lst ds=>some ds
 |.fz ds=>some ds
 |.tup ds=>some ds
 |_=>none
def zt6 (ws:List W) (m:Mem):Res (List D):=match ws with
 |[.d x]=>(match seqLT x with
  |some ds=>.ok (enumD ds) m
  |none=>.no)
 |_=>.no
def iEnuT (f:DA):DI:=fun dl m=>(f dl m).bind zt6
@[simp] theorem ztnb (f:DA) (dl:Env) (m:Mem):iEnuT f dl m=(f dl m).bind zt6:=nr rfl
@[simp] theorem znib (ds:List D) (m:Mem):zt6 [.d (.lst ds)] m = .ok (enumD ds) m:=nr rfl
@[simp] theorem zmib (ds:List D) (m:Mem):zt6 [.d (.tup ds)] m = .ok (enumD ds) m:=nr rfl
end DL
namespace DL
open PySem PySem.Spec L2
open PyProof.Rows hiding St
open Evl (Ex)
section
variable {X:Cx} {Wx:WX}
def eMkK (C:Str) (nk:Nat) (F:DF) (a:DE) (f fk:DA):DE:=fun dl m=>(a dl m).bind fun x m1=>match x with
 |.d (.cls C')=>if C'=C then (f dl m1).bind fun ws m2=>(fk dl m2).bind fun zs m3=>if zs.length=nk then makeW C F (ws++zs) m3 else .no else .no
 |_=>.no
end
@[simp] theorem zpqb (C:Str) (nk:Nat) (F:DF) (C':Str) (f fk:DA) (dl:Env) (m:Mem):eMkK C nk F (eC (.cls C')) f fk dl m=if C'=C then (f dl m).bind fun ws m2=>(fk dl m2).bind fun zs m3=>if zs.length=nk then makeW C F (ws++zs) m3 else .no else .no:=nr rfl
end DL
namespace DL
open PySem PySem.Spec L2
open PyProof.Rows hiding St
open Evl (Ex)
def fzW (w:W) (m:Mem):Res W:=match w with
 |.d x=>.ok (.d x) m
 |.c k=>(match m[k]? with
  |some (.zd x)=>.ok (.d x) m
  |some (.hp _)=>.no
  |some c=>.ok (.d c.fz) (m.set k (.zd c.fz))
  |none=>.no)
 |.ex _ _ _ _ _=>.no
 |.h i=>.ok (.h i) m
def eFz (a:DE):DE:=fun dl m=>(a dl m).bind fzW
@[simp] theorem x_eFz (a:DE) (dl:Env) (m:Mem):eFz a dl m=(a dl m).bind fzW:=nr rfl
@[simp] theorem fzW_d (x:D) (m:Mem):fzW (.d x) m = .ok (.d x) m:=nr rfl
end DL
namespace DL
open PySem PySem.Spec L2
open PyProof.Rows hiding St
open Evl (Ex)
def eLcC (f:DI) (g:DG) (t:DT) (e:DE) (vs:List Nat):DE:=fun dl m=>(f dl m).bind fun items m1=>(compD g t e (wipeD dl vs) items [] m1).bind fun acc m2=>.ok (.c m2.length) (m2++[Cell.lst acc])
@[simp] theorem zvqb (f:DI) (g:DG) (t:DT) (e:DE) (vs:List Nat) (dl:Env) (m:Mem):eLcC f g t e vs dl m=(f dl m).bind fun items m1=>(compD g t e (wipeD dl vs) items [] m1).bind fun acc m2=>.ok (.c m2.length) (m2++[Cell.lst acc]):=nr rfl
end DL
namespace DL
open PySem PySem.Spec L2
open PyProof.Rows hiding St
open Evl (Ex)
def slCW (x:W) (lo hi:Option Int) (m:Mem):Res W:=match x.rd m with
 |some d=>(match lstD d with
  |some ds=>.ok (.c m.length) (m++[Cell.lst (cutD ds lo hi)])
  |none=>.no)
 |none=>.no
def eSlC (a:DE) (lo hi:DO):DE:=fun dl m=>(a dl m).bind fun x m1=>(lo dl m1).bind fun l m2=>(hi dl m2).bind fun u m3=>slCW x l u m3
def ziab (ws:List W) (m:Mem):Res W:=match ws with
 |[x]=>(match x.rd m with
  |some d=>(match seqD d with
   |some ds=>.ok (.c m.length) (m++[Cell.lst ds])
   |none=>.no)
  |none=>.no)
 |_=>.no
def zrkb (f:DA):DE:=fun dl m=>(f dl m).bind ziab
@[simp] theorem zhqb (a:DE) (lo hi:DO) (dl:Env) (m:Mem):eSlC a lo hi dl m=(a dl m).bind fun x m1=>(lo dl m1).bind fun l m2=>(hi dl m2).bind fun u m3=>slCW x l u m3:=nr rfl
@[simp] theorem zcmb (ds:List D) (lo hi:Option Int) (m:Mem):slCW (.d (.lst ds)) lo hi m = .ok (.c m.length) (m++[Cell.lst (cutD ds lo hi)]):=nr rfl
@[simp] theorem ztlb (f:DA) (dl:Env) (m:Mem):zrkb f dl m=(f dl m).bind ziab:=nr rfl
@[simp] theorem zjib (ds:List D) (m:Mem):ziab [.d (.lst ds)] m = .ok (.c m.length) (m++[Cell.lst ds]):=nr rfl
end DL
namespace DL
open PySem PySem.Spec L2
open PyProof.Rows hiding St
open Evl (Ex)
def liveL (k n:Nat) (m:Mem):Option (List D):=match m[k]? with
 |some (.lst ds)=>if ds.length=n then some ds else none
 |_=>none
def liveW (w:W) (m:Mem):Option (Nat × Nat):=match w with
 |.c k=>(match m[k]? with
  |some (.lst ds)=>some (k,ds.length)
  |_=>none)
 |_=>none
def loopL (g:DG) (b:DS) (k n:Nat):Nat→Env→Mem→SR
 | 0,dl,m=>(match liveL k n m with
   |some _=>.nx dl m
   |none=>.no)
 |r+1,dl,m=>(match liveL k n m with
  |none=>.no
  |some ds=>(match ds[n-(r+1)]? with
   |none=>.no
   |some d=>(match g (.d d) dl with
    |none=>.no
    |some dl1=>(match b dl1 m with
     |.nx dl2 m2=>loopL g b k n r dl2 m2
     |.ct dl2 m2=>loopL g b k n r dl2 m2
     |.bk dl2 m2=>.nx dl2 m2
     |.rt w m2=>.rt w m2
     |.exc dl2 C f p m2=>.exc dl2 C f p m2
     |.no=>.no))))
def sForL (f:DE) (g:DG) (b:DS):DS:=fun dl m=>(f dl m).thenS dl fun w m1=>match liveW w m1 with
 |some (k,n)=>loopL g b k n n dl m1
 |none=>.no
def compL (g:DG) (t:DT) (e:DE) (wd:Env) (k n:Nat):Nat→List D→Mem→Res (List D)
 | 0,acc,m=>(match liveL k n m with
   |some _=>.ok acc m
   |none=>.no)
 |r+1,acc,m=>(match liveL k n m with
  |none=>.no
  |some ds=>(match ds[n-(r+1)]? with
   |none=>.no
   |some d=>(match g (.d d) wd with
    |none=>.no
    |some dl1=>(match t dl1 m with
     |.ok b m1=>(match b with
      |true=>(match e dl1 m1 with
       |.ok (.d y) m2=>if acc.length<sizeLine then compL g t e wd k n r (acc++[y]) m2 else .no
       |_=>.no)
      |false=>compL g t e wd k n r acc m1)
     |_=>.no))))
def lcLW (g:DG) (t:DT) (e:DE) (wd:Env) (w:W) (m:Mem):Res W:=match liveW w m with
 |some (k,n)=>(compL g t e wd k n n [] m).bind fun acc m2=>.ok (.d (.lst acc)) m2
 |none=>.no
def eLcL (f:DE) (g:DG) (t:DT) (e:DE) (vs:List Nat):DE:=fun dl m=>(f dl m).bind fun w m1=>lcLW g t e (wipeD dl vs) w m1
end DL
namespace DL
open PySem PySem.Spec L2
open PyProof.Rows hiding St
open Evl (Ex)
def eLc2C (f:DI) (g:DG) (t:DT) (fi:DI) (g1:DG) (t1:DT) (e:DE) (vs vs1:List Nat):DE:=fun dl m=>(f dl m).bind fun items m1=>(znz g t fi g1 t1 e vs1 (wipeD dl vs) items [] m1).bind fun acc m2=>.ok (.c m2.length) (m2++[Cell.lst acc])
section
variable {X:Cx} {Wx:WX}
def addCW (x y:W) (m:Mem):Res W:=match x.rd m,y.rd m with
 |some (.lst a),some (.lst b)=>if a.length+b.length≤sizeLine then .ok (.c m.length) (m++[Cell.lst (a++b)]) else .no
 |_,_=>.no
def eAddC (a b:DE):DE:=fun dl m=>(a dl m).bind fun x m1=>(b dl m1).bind fun y m2=>addCW x y m2
end
@[simp] theorem z8nb (a b:DE) (dl:Env) (m:Mem):eAddC a b dl m=(a dl m).bind fun x m1=>(b dl m1).bind fun y m2=>addCW x y m2:=nr rfl
@[simp] theorem z2nb (f:DI) (g:DG) (t:DT) (fi:DI) (g1:DG) (t1:DT) (e:DE) (vs vs1:List Nat) (dl:Env) (m:Mem):eLc2C f g t fi g1 t1 e vs vs1 dl m=(f dl m).bind fun items m1=>(znz g t fi g1 t1 e vs1 (wipeD dl vs) items [] m1).bind fun acc m2=>.ok (.c m2.length) (m2++[Cell.lst acc]):=nr rfl
@[simp] theorem zknb (f:DE) (g:DG) (b:DS) (dl:Env) (m:Mem):sForL f g b dl m=(f dl m).thenS dl fun w m1=>(match liveW w m1 with
 |some (k,n)=>loopL g b k n n dl m1
 |none=>.no):=nr rfl
@[simp] theorem zsqb (f:DE) (g:DG) (t:DT) (e:DE) (vs:List Nat) (dl:Env) (m:Mem):eLcL f g t e vs dl m=(f dl m).bind fun w m1=>lcLW g t e (wipeD dl vs) w m1:=nr rfl
end DL
namespace DL
open PySem PySem.Spec L2
open PyProof.Rows hiding St
open Evl (Ex)
def ropW (t:Tbl) (g:D→D→Option D) (x y:W) (m:Mem):Res W:=match clsOf y m with
 |some C=>(match look t C with
  |some F=>(match x with
   |.d (.str z)=>F [y,.d (.str z)] m
   |_=>.no)
  |none=>.no)
 |none=>lift2 g x y m
def eRop (t:Tbl) (g:D→D→Option D) (a b:DE):DE:=fun dl m=>(a dl m).bind fun x m1=>(b dl m1).bind fun y m2=>ropW t g x y m2
@[simp] theorem zjqb (t:Tbl) (g:D→D→Option D) (a b:DE) (dl:Env) (m:Mem):eRop t g a b dl m=(a dl m).bind fun x m1=>(b dl m1).bind fun y m2=>ropW t g x y m2:=nr rfl
@[simp] theorem zdmb (t:Tbl) (g:D→D→Option D) (z:Str) (C:Str) (ns:List Str) (ds:List D) (m:Mem):ropW t g (.d (.str z)) (.d (.obj C ns ds)) m=(match look t C with
  |some F=>F [.d (.obj C ns ds),.d (.str z)] m
  |none=>.no):=by
 unfold ropW
 rw[zqs]
end DL
namespace DL
open PySem PySem.Spec L2
open PyProof.Rows hiding St
open Evl (Ex)
def W.hw:W→Option HW
 |.d x=>some (.d x)
 |.h i=>some (.h i)
 |_=>none
def hwAll:List W→Option (List HW)
 |[]=>some []
 |w::ws=>(match w.hw with
  |some h=>(match hwAll ws with
   |some hs=>some (h::hs)
   |none=>none)
  |none=>none)
/-- a new thing of the heap -/
def newH (c:HC) (m:Mem):Res W:=.ok (.h (heapOf m).length) (hset m (heapOf m++[c]))
def zyv (ws:List W) (m:Mem):Res W:=match hwAll ws with
 |some hs=>if hs.length≤sizeLine then newH (.lst hs) m else .no
 |none=>.no
def eLstH (f:DA):DE:=fun dl m=>(f dl m).bind zyv
section
variable {X:Cx} {Wx:WX}
/-- where a list lies that may change -/
inductive Loc where
 |c (k:Nat) |h (i:Nat)
def W.loc:W→Option Loc
 |.c k=>some (.c k)
 |.h i=>some (.h i)
 |_=>none
def datH:List HW→Option (List D)
 |[]=>some []
 |.d x::ws=>(match datH ws with
  |some xs=>some (x::xs)
  |none=>none)
 |.h _::_=>none
def Loc.get:Loc→Mem→Option (List HW)
 |.c k,m=>(match m[k]? with
  |some (.lst ds)=>some (ds.map HW.d)
  |_=>none)
 |.h i,m=>(match (heapOf m)[i]? with
  |some (.lst ws)=>some ws
  |_=>none)
def Loc.put:Loc→List HW→Mem→Option Mem
 |.c k,ws,m=>(match datH ws with
  |some ds=>some (m.set k (.lst ds))
  |none=>none)
 |.h i,ws,m=>some (hset m ((heapOf m).set i (.lst ws)))
/-- xs[i] = e by values -/
def setLW (y o i:W) (m:Mem):Option Mem:=match o.loc,y.hw,i with
 |some l,some h,.d (.int j)=>(match l.get m with
  |some ws=>(match ixN ws.length j with
   |some n=>l.put (ws.set n h) m
   |none=>none)
  |none=>none)
 |_,_,_=>none
def sSetL (e a b:DE):DS:=fun dl m=>(e dl m).thenS dl fun y m1=>(a dl m1).thenS dl fun o m2=>(b dl m2).thenS dl fun i m3=>match setLW y o i m3 with
 |some m4=>.nx dl m4
 |none=>.no
/-- o[i] = e by the own __setitem__ of o's class, or of a list -/
def setOW (t:Tbl) (y o i:W) (m:Mem):Res W:=match clsOf o m with
 |some C=>(match look t C with
  |some F=>F [o,i,y] m
  |none=>.no)
 |none=>(match setLW y o i m with
  |some m'=>.ok (.d .non) m'
  |none=>.no)
def sSetO (t:Tbl) (e a b:DE):DS:=fun dl m=>(e dl m).thenS dl fun y m1=>(a dl m1).thenS dl fun o m2=>(b dl m2).thenS dl fun i m3=>(setOW t y o i m3).thenS dl fun _ m4=>.nx dl m4
/-- the list's methods -/
def appLW (x:W) (ws:List W) (m:Mem):Res W:=match x.loc,hwAll ws with
 |some l,some [h]=>(match l.get m with
  |some us=>if us.length<sizeLine then (match l.put (us++[h]) m with
   |some m'=>.ok (.d .non) m'
   |none=>.no) else .no
  |none=>.no)
 |_,_=>.no
def eAppL (a:DE) (f:DA):DE:=fun dl m=>(a dl m).bind fun x m1=>if isTy "list" x m1=true then (f dl m1).bind fun ws m2=>appLW x ws m2 else .no
def popLW (x:W) (m:Mem):Res W:=match x.loc with
 |some l=>(match l.get m with
  |some us=>(match us[us.length-1]? with
   |some h=>(match l.put us.dropLast m with
    |some m'=>.ok h.toW m'
    |none=>.no)
   |none=>.no)
  |none=>.no)
 |none=>.no
def ePopL (a:DE):DE:=fun dl m=>(a dl m).bind fun x m1=>if isTy "list" x m1=true then popLW x m1 else .no
theorem RpHs.dropLast {K:Fg} {H:Hp} {ha:List Addr}:∀{vs:List V} {ds:List HW},RpHs K H ha vs ds→RpHs K H ha vs.dropLast ds.dropLast
 |_,_,.nil=>.nil
 |_,_,.cons _ .nil=>.nil
 |_,_,.cons a (.cons b c)=>.cons a (RpHs.dropLast (.cons b c))
theorem RpHs.eraseIdx {K:Fg} {H:Hp} {ha:List Addr}:∀{vs:List V} {ds:List HW} (i:Nat),RpHs K H ha vs ds→RpHs K H ha (vs.eraseIdx i) (ds.eraseIdx i)
 |_,_,_,.nil=>.nil
 |_,_,0,.cons _ r=>r
 |_,_,i+1,.cons a r=>.cons a (RpHs.eraseIdx i r)
/-- xs.pop(i) -/
def z45 (x:W) (ws:List W) (m:Mem):Res W:=match x.loc,ws with
 |some l,[.d (.int i)]=>(match l.get m with
  |some us=>if -(2 ^ 63)≤i∧i<2 ^ 63 then (match seqIndex? i us.length with
   |some k=>(match us[k]? with
    |some h=>(match l.put (us.eraseIdx k) m with
     |some m'=>.ok h.toW m'
     |none=>.no)
    |none=>.no)
   |none=>.no) else .no
  |none=>.no)
 |_,_=>.no
def zhbb (a:DE) (f:DA):DE:=fun dl m=>(a dl m).bind fun x m1=>if isTy "list" x m1=true then (f dl m1).bind fun ws m2=>z45 x ws m2 else .no
end
end DL
namespace DL
open PySem PySem.Spec L2
open PyProof.Rows hiding St
open Evl (Ex)
def compH (g:DG) (t:DT) (e:DE) (wd:Env):List D→List HW→Mem→Res (List HW)
 |[],acc,m=>.ok acc m
 |d::ds,acc,m=>match g (.d d) wd with
  |none=>.no
  |some dl1=>(match t dl1 m with
   |.ok b m1=>(match b with
    |true=>(match e dl1 m1 with
     |.ok w m2=>(match w.hw with
      |some y=>if acc.length<sizeLine then compH g t e wd ds (acc++[y]) m2 else .no
      |none=>.no)
     |_=>.no)
    |false=>compH g t e wd ds acc m1)
   |_=>.no)
def eLcH (f:DI) (g:DG) (t:DT) (e:DE) (vs:List Nat):DE:=fun dl m=>(f dl m).bind fun items m1=>(compH g t e (wipeD dl vs) items [] m1).bind fun acc m2=>newH (.lst acc) m2
section
variable {X:Cx} {Wx:WX}
def atHW (ws:List HW) (y:W) (m:Mem):Res W:=match y with
 |.d (.int k)=>(match atI ws k with
  |some w=>.ok w.toW m
  |none=>.no)
 |_=>.no
def ixHW (t:Tbl) (x y:W) (m:Mem):Res W:=match x with
 |.h i=>(match (heapOf m)[i]? with
  |some (.lst ws)=>atHW ws y m
  |some (.tup ws)=>atHW ws y m
  |some (.obj C _ _)=>(match look t C with
   |some F=>F [x,y] m
   |none=>.no)
  |_=>.no)
 |_=>ixW t x y m
def eIxH (t:Tbl) (a b:DE):DE:=fun dl m=>(a dl m).bind fun x m1=>(b dl m1).bind fun y m2=>ixHW t x y m2
def fldLH:List Str→List HW→Str→Option HW
 |n::ns,d::ds,f=>if n=f then some d else fldLH ns ds f
 |_,_,_=>none
def fldHW (Cs:List Str) (f:Str) (x:W) (m:Mem):Res W:=match x with
 |.h i=>(match (heapOf m)[i]? with
  |some (.obj C ns ws)=>if C∈Cs then (match fldLH ns ws f with
   |some w=>.ok w.toW m
   |none=>.no) else .no
  |_=>.no)
 |_=>lift1 (fldD Cs f) x m
def eFldH (Cs:List Str) (f:Str) (a:DE):DE:=fun dl m=>(a dl m).bind fun x m1=>fldHW Cs f x m1
def putLH (f:Str) (d:HW):List Str→List HW→List Str × List HW
 |n::ns,x::xs=>if n=f then (n::ns,d::xs) else (n::(putLH f d ns xs).1,x::(putLH f d ns xs).2)
 |_,_=>([f],[d])
def z6eb (Cs:List Str) (f:Str) (y o:W) (m:Mem):Option Mem:=match y.hw,o with
 |some d,.h i=>(match (heapOf m)[i]? with
  |some (.obj C ns ds)=>if C∈Cs∧ns.length<1000 then some (hset m ((heapOf m).set i (.obj C (putLH f d ns ds).1 (putLH f d ns ds).2))) else none
  |_=>none)
 |_,_=>none
def sFldH (Cs:List Str) (f:Str) (e a:DE):DS:=fun dl m=>(e dl m).thenS dl fun y m1=>(a dl m1).thenS dl fun o m2=>match z6eb Cs f y o m2 with
 |some m3=>.nx dl m3
 |none=>.no
def z3jb (i:Nat) (w:W) (m:Mem):Res W:=match w with
 |.d .non=>.ok (.h i) m
 |_=>.no
def zcab (C:Str) (F:DF) (ws:List W) (m:Mem):Res W:=(F (.h (heapOf m).length::ws) (hset m (heapOf m++[.obj C [] []]))).bind fun w m1=>z3jb (heapOf m).length w m1
def eMkH (C:Str) (F:DF) (a:DE) (f:DA):DE:=fun dl m=>(a dl m).bind fun x m1=>match x with
 |.d (.cls C')=>if C'=C then (f dl m1).bind fun ws m2=>zcab C F ws m2 else .no
 |_=>.no
end
end DL
namespace DL
open PySem PySem.Spec L2
open PyProof.Rows hiding St
open Evl (Ex)
@[simp] theorem zkhb (hs:List HC) (r:Mem):heapOf (.hp hs::r)=hs:=nr rfl
@[simp] theorem zgkb (hs hs':List HC) (r:Mem):hset (.hp hs::r) hs' = .hp hs'::r:=nr rfl
@[simp] theorem zznb (f:DA) (dl:Env) (m:Mem):eLstH f dl m=(f dl m).bind zyv:=nr rfl
@[simp] theorem ztqb (f:DI) (g:DG) (t:DT) (e:DE) (vs:List Nat) (dl:Env) (m:Mem):eLcH f g t e vs dl m=(f dl m).bind fun items m1=>(compH g t e (wipeD dl vs) items [] m1).bind fun acc m2=>newH (.lst acc) m2:=nr rfl
@[simp] theorem zxqb (t:Tbl) (a b:DE) (dl:Env) (m:Mem):eIxH t a b dl m=(a dl m).bind fun x m1=>(b dl m1).bind fun y m2=>ixHW t x y m2:=nr rfl
@[simp] theorem zprb (t:Tbl) (x:D) (y:W) (m:Mem):ixHW t (.d x) y m=ixW t (.d x) y m:=nr rfl
@[simp] theorem zqrb (t:Tbl) (k:Nat) (y:W) (m:Mem):ixHW t (.c k) y m=ixW t (.c k) y m:=nr rfl
@[simp] theorem z3nb (Cs:List Str) (f:Str) (a:DE) (dl:Env) (m:Mem):eFldH Cs f a dl m=(a dl m).bind fun x m1=>fldHW Cs f x m1:=nr rfl
@[simp] theorem zhpb (Cs:List Str) (f:Str) (x:D) (m:Mem):fldHW Cs f (.d x) m=lift1 (fldD Cs f) (.d x) m:=nr rfl
@[simp] theorem zipb (Cs:List Str) (f:Str) (k:Nat) (m:Mem):fldHW Cs f (.c k) m=lift1 (fldD Cs f) (.c k) m:=nr rfl
@[simp] theorem znnb (Cs:List Str) (f:Str) (a b:DE) (dl:Env) (m:Mem):sFldH Cs f a b dl m=(a dl m).thenS dl fun y m1=>(b dl m1).thenS dl fun o m2=>(match z6eb Cs f y o m2 with
 |some m3=>.nx dl m3
 |none=>.no):=nr rfl
@[simp] theorem zfnb (a b c:DE) (dl:Env) (m:Mem):sSetL a b c dl m=(a dl m).thenS dl fun y m1=>(b dl m1).thenS dl fun o m2=>(c dl m2).thenS dl fun i m3=>(match setLW y o i m3 with
 |some m4=>.nx dl m4
 |none=>.no):=nr rfl
@[simp] theorem zenb (t:Tbl) (a b c:DE) (dl:Env) (m:Mem):sSetO t a b c dl m=(a dl m).thenS dl fun y m1=>(b dl m1).thenS dl fun o m2=>(c dl m2).thenS dl fun i m3=>(setOW t y o i m3).thenS dl fun _ m4=>.nx dl m4:=nr rfl
@[simp] theorem z6nb (a:DE) (f:DA) (dl:Env) (m:Mem):eAppL a f dl m=(a dl m).bind fun x m1=>if isTy "list" x m1=true then (f dl m1).bind fun ws m2=>appLW x ws m2 else .no:=nr rfl
@[simp] theorem zxnb (a:DE) (dl:Env) (m:Mem):ePopL a dl m=(a dl m).bind fun x m1=>if isTy "list" x m1=true then popLW x m1 else .no:=nr rfl
@[simp] theorem zqlb (a:DE) (f:DA) (dl:Env) (m:Mem):zhbb a f dl m=(a dl m).bind fun x m1=>if isTy "list" x m1=true then (f dl m1).bind fun ws m2=>z45 x ws m2 else .no:=nr rfl
@[simp] theorem rd_h (i:Nat) (m:Mem):W.rd (.h i) m=((heapOf m)[i]?).map HC.toD:=rfl
@[simp] theorem zurb (ws:List HW):HC.toD (.lst ws) = .lst (ws.map HW.toD):=nr rfl
@[simp] theorem ztrb (C:Str) (ns:List Str) (ws:List HW):HC.toD (.obj C ns ws) = .obj C ns (ws.map HW.toD):=nr rfl
@[simp] theorem hw_d (x:D):HW.toD (.d x)=x:=nr rfl
@[simp] theorem hw_h (i:Nat):HW.toD (.h i) = .opq:=nr rfl
@[simp] theorem hww_d (x:D):HW.toW (.d x) = .d x:=nr rfl
@[simp] theorem hww_h (i:Nat):HW.toW (.h i) = .h i:=nr rfl
@[simp] theorem whw_d (x:D):W.hw (.d x)=some (.d x):=nr rfl
@[simp] theorem whw_h (i:Nat):W.hw (.h i)=some (.h i):=nr rfl
@[simp] theorem zkpb (C:Str) (F:DF) (f:DA) (m:Mem) (dl:Env):eMkH C F (eC (.cls C)) f dl m=(f dl m).bind fun ws m2=>zcab C F ws m2:=by
 show (if C=C then (f dl m).bind fun ws m2=>zcab C F ws m2 else .no)=_
 rw[if_pos rfl]
@[simp] theorem frz_h (n i:Nat) (m:Mem):frz n (.h i) m = .ok (.h i) (m.take n):=nr rfl
end DL
namespace DL
open PySem PySem.Spec L2
open PyProof.Rows hiding St
open Evl (Ex)
section
variable {X:Cx} {Wx:WX}
def zipD (as bs:List D):List D:=(as.zip bs).map fun p=>.tup [p.1,p.2]
def zipW (ws:List W) (m:Mem):Res (List D):=match ws with
 |[.d (.lst as),.d (.lst bs)]=>.ok (zipD as bs) m
 |[.d (.tup as),.d (.tup bs)]=>.ok (zipD as bs) m
 |_=>.no
def iZp (f:DA):DI:=fun dl m=>(f dl m).bind zipW
end
def strV:Value→Option Str
 |.str s _=>some s
 |_=>none
def zs3:List Value→Option (List Str)
 |[]=>some []
 |v::vs=>(match strV v with
  |some s=>(match zs3 vs with
   |some ss=>some (s::ss)
   |none=>none)
  |none=>none)
def fTupG (x:Str) (ss:List Str):Fg→Bool:=fun K=>(match K.lookup (He.ga K x) with
 |some ⟨c,_,.seq its _,_⟩=>decide (c = .type "tuple")&&(decide (its.size≤sizeLine)&&decide (zs3 its.toList=some ss))
 |_=>false)
end DL
namespace DL
open PySem PySem.Spec L2
open PyProof.Rows hiding St
open Evl (Ex)
section
variable {X:Cx} {Wx:WX}
/-- x + y where x is changed in its place if it is a list -/
def augW (x y:W) (m:Mem):Res W:=match x.loc with
 |some l=>(match l.get m with
  |some us=>(match y.rd m with
   |some (.lst zs)=>if us.length+zs.length≤sizeLine then (match l.put (us++zs.map HW.d) m with
    |some m'=>.ok x m'
    |none=>.no) else .no
   |_=>.no)
  |none=>.no)
 |none=>(match x,y with
  |.d (.int i),.d (.int j)=>.ok (.d (.int (i+j))) m
  |.d (.str a),.d (.str b)=>if a.length+b.length≤sizeLine then .ok (.d (.str (a++b))) m else .no
  |_,_=>.no)
def sAug (i:Nat) (e:DE):DS:=fun dl m=>match dl[i]? with
 |some (some x)=>(e dl m).thenS dl fun y m1=>(augW x y m1).thenS dl fun z m2=>.nx (dl.set i (some z)) m2
 |_=>.no
def subW (x y:W) (m:Mem):Res W:=match x,y with
 |.d (.int i),.d (.int j)=>.ok (.d (.int (i-j))) m
 |_,_=>.no
def sAugS (i:Nat) (e:DE):DS:=fun dl m=>match dl[i]? with
 |some (some x)=>(e dl m).thenS dl fun y m1=>(subW x y m1).thenS dl fun z m2=>.nx (dl.set i (some z)) m2
 |_=>.no
end
@[simp] theorem z5pb (i:Nat) (e:DE) (dl:Env) (m:Mem):sAug i e dl m=(match dl[i]? with
 |some (some x)=>(e dl m).thenS dl fun y m1=>(augW x y m1).thenS dl fun z m2=>.nx (dl.set i (some z)) m2
 |_=>.no):=nr rfl
@[simp] theorem zqnb (i:Nat) (e:DE) (dl:Env) (m:Mem):sAugS i e dl m=(match dl[i]? with
 |some (some x)=>(e dl m).thenS dl fun y m1=>(subW x y m1).thenS dl fun z m2=>.nx (dl.set i (some z)) m2
 |_=>.no):=nr rfl
@[simp] theorem z8mb (i j:Int) (m:Mem):augW (.d (.int i)) (.d (.int j)) m = .ok (.d (.int (i+j))) m:=nr rfl
@[simp] theorem zamb (i j:Int) (m:Mem):subW (.d (.int i)) (.d (.int j)) m = .ok (.d (.int (i-j))) m:=nr rfl
@[simp] theorem z7mb (a b:Str) (m:Mem):augW (.d (.str a)) (.d (.str b)) m=if a.length+b.length≤sizeLine then .ok (.d (.str (a++b))) m else .no:=nr rfl
@[simp] theorem x_iZp (f:DA) (dl:Env) (m:Mem):iZp f dl m=(f dl m).bind zipW:=nr rfl
@[simp] theorem zrpb (as bs:List D) (m:Mem):zipW [.d (.lst as),.d (.lst bs)] m = .ok (zipD as bs) m:=nr rfl
@[simp] theorem zqpb (as bs:List D) (m:Mem):zipW [.d (.tup as),.d (.tup bs)] m = .ok (zipD as bs) m:=nr rfl
end DL
namespace DL
open PySem PySem.Spec L2
open PyProof.Rows hiding St
open Evl (Ex)
def revW (x:W) (m:Mem):Res W:=match x.rd m with
 |some d=>(match lstD d with
  |some ds=>.ok (.d (.lst ds.reverse)) m
  |none=>.no)
 |none=>.no
def eRev (a:DE):DE:=fun dl m=>(a dl m).bind revW
theorem RpL.reverse {K:Fg} {H:Hp}:∀{vs:List V} {ds:List D},RpL K H vs ds→RpL K H vs.reverse ds.reverse
 |_,_,.nil=>.nil
 |_,_,.cons h t=>by
  rw[List.reverse_cons,List.reverse_cons]
  exact t.reverse.append (.cons h .nil)
@[simp] theorem zkqb (a:DE) (dl:Env) (m:Mem):eRev a dl m=(a dl m).bind revW:=nr rfl
@[simp] theorem zemb (ds:List D) (m:Mem):revW (.d (.lst ds)) m = .ok (.d (.lst ds.reverse)) m:=nr rfl
end DL
namespace DL
open PySem PySem.Spec L2
open PyProof.Rows hiding St
open Evl (Ex)
def zvy (x:Str):List D:=x.cps.toList.map fun c=>D.str ⟨#[c]⟩
section
variable {X:Cx} {Wx:WX}
/-- list(text), a list that will change -/
def zc6 (ws:List W) (m:Mem):Res W:=match ws with
 |[.d (.str x)]=>if x.cps.size≤sizeLine then .ok (.c m.length) (m++[Cell.lst (zvy x)]) else .no
 |_=>.no
def zibb (f:DA):DE:=fun dl m=>(f dl m).bind zc6
end
@[simp] theorem zslb (f:DA) (dl:Env) (m:Mem):zibb f dl m=(f dl m).bind zc6:=nr rfl
end DL
namespace DL
open PySem PySem.Spec L2
open PyProof.Rows hiding St
open Evl (Ex)
def zdab:List Value:=[.type "LookupError",.type "Exception",.type "BaseException",.type "object"]
def z09:List Value:=[.type "OverflowError",.type "ArithmeticError",.type "Exception",.type "BaseException",.type "object"]
open PySem.W (Frag) in
def fErrB (newId:String) (tl:List Value) (C f:Str):Frag→Bool:=fun K=>PySem.W.excInitIn K (He.ga K C) tl newId&&(PySem.W.excOver K (He.ga K C) tl&&(PySem.W.hasDictIn K (He.ga K C)&&(He.eqO (PySem.W.findIn K (.ref (He.ga K C)) "__setattr__") (some (some (.builtin "object.__setattr__")))&&(decide (PySem.W.subIn K (.ref (He.ga K C)) (.type "BaseException")=some true) &&
 (decide (PySem.W.typeIn K (.ref (He.ga K C))=some (.type "type"))&&(PySem.W.keepIn K (.ref (He.ga K C))&&(He.eqO (PySem.W.findIn K (.ref (He.ga K C)) "__init__") (some (some (.ref (He.ma K (He.ga K C) "__init__")))) &&
 (decide (PySem.W.typeIn K (.ref (He.ma K (He.ga K C) "__init__"))=some (.type "function"))&&He.eqO (PySem.W.findIn K (.ref (He.ga K C)) f) (some none)))))))))
open PySem.W (Frag) in
def fBi (B initId:String):Frag→Bool:=fun K=>match PySem.W.findCls K (.type B) (.type "type") "__init__" with
 |some (.val (.builtin n))=>n==initId
 |_=>false
end DL
namespace DL
open PySem PySem.Spec L2
open PyProof.Rows hiding St
open Evl (Ex)
/-- a clause: its class, the classes that it lets pass, its slot, its suite -/
structure Cl where
 C:Str
 Es:List Str
 o:Option Nat
 h:Addr→Addr→DS
def clW (n:Nat) (q:Cl) (f:Str) (p:D) (dl:Env) (m:Mem):SR:=match q.o with
 |some i=>if dl.length=n then wipeS i (q.h 0 0 (dl.set i (some (.ex 0 0 q.C f p))) m) else .no
 |none=>noX (q.h 0 0 dl m)
def tryM (n:Nat):List Cl→SR→SR
 |[],r=>r
 |q::qs,.exc dl C' f p m=>if C'=q.C then clW n q f p dl m else if C'∈q.Es then tryM n qs (.exc dl C' f p m) else .no
 |_::_,r=>r
/-- the length of the env when an error leaves -/
def lenOk (n:Nat):SR→SR
 |.exc dl C f p m=>if dl.length=n then .exc dl C f p m else .no
 |r=>r
def z9ib (n:Nat) (qs:List Cl) (b:DS):DS:=fun dl m=>tryM n qs (lenOk n (b dl m))
@[simp] theorem zmlb (n:Nat) (qs:List Cl) (b:DS) (dl:Env) (m:Mem):z9ib n qs b dl m=tryM n qs (lenOk n (b dl m)):=nr rfl
@[simp] theorem ztmb (n:Nat) (dl:Env) (m:Mem):lenOk n (.nx dl m) = .nx dl m:=rfl
@[simp] theorem zsmb (n:Nat) (w:W) (m:Mem):lenOk n (.rt w m) = .rt w m:=rfl
@[simp] theorem z5jb (n:Nat) (dl:Env) (C f:Str) (p:D) (m:Mem):lenOk n (.exc dl C f p m)=if dl.length=n then .exc dl C f p m else .no:=rfl
@[simp] theorem z2lb (n:Nat) (r:SR):tryM n [] r=r:=by unfold tryM;rfl
@[simp] theorem zjob (n:Nat) (q:Cl) (qs:List Cl) (dl:Env) (m:Mem):tryM n (q::qs) (.nx dl m) = .nx dl m:=rfl
@[simp] theorem ziob (n:Nat) (q:Cl) (qs:List Cl) (w:W) (m:Mem):tryM n (q::qs) (.rt w m) = .rt w m:=rfl
@[simp] theorem z3lb (n:Nat) (q:Cl) (qs:List Cl) (dl:Env) (C f:Str) (p:D) (m:Mem):tryM n (q::qs) (.exc dl C f p m)=if C=q.C then clW n q f p dl m else if C∈q.Es then tryM n qs (.exc dl C f p m) else .no:=rfl
end DL
namespace DL
open PySem PySem.Spec L2
open PySem.W (Frag Hook)
def obsLG (as:List Addr) (fs:List (Frag→Bool)) (fn:List He5.DefA) (g:Addr→Option Obj):He.AlD:=obsM fs fn (He.frG g as)
end DL
namespace DL
open PySem PySem.Spec L2
open PySem.W (Frag Hook)
abbrev Part:=List (Frag→Bool) × List He5.DefA
/-- the facts in parts, over one list of objects -/
def zb2 (as:List Addr) (ps:List Part):Hook where
 α := List He.AlD
 obs:=fun s=>ps.map fun p=>obsLG as p.1 p.2 s.heap.get?
 val:=fun _=>ps.map fun p=>He5.valA p.2
 says:=fun _ h=>∃K:Frag,K.In h∧∀p∈ps,SaysM p.1 p.2 K
 of:=fun w s e=>⟨_,He.frG_in,fun p hp=>by
  have e2:(ps.map fun p=>obsLG as p.1 p.2 s.heap.get?)=ps.map fun p=>He5.valA p.2:=e
  exact List.map_inj_left.mp e2 p hp⟩
 keeps:=fun _ _ _ ⟨K,kIn,c⟩ stay=>⟨K,PySem.W.Frag.In.keeps kIn stay,c⟩
def obLs (as:List Addr) (ps:List Part) (s:PySem.W.SharedT):List He.AlD:=ps.map fun p=>obsLG as p.1 p.2 (HandSHeadRun.getT s)
theorem zrgb (as:List Addr) (ps:List Part) (s:PySem.W.SharedT):obLs as ps s=(zb2 as ps).obs s.abs:=by
 unfold obLs
 have e:HandSHeadRun.getT s=s.abs.heap.get?:=funext (HandSHeadRun.getT_eq s)
 rw[e]
 rfl
end DL
namespace DL
open PySem PySem.Spec L2
open PySem.W (Frag Hook)
noncomputable abbrev endS (r:PySem.W.OpenRow) (M:Nat) (w:World) (os:OsState):Option PySem.W.SharedT:=HandSHeadRun.endF (HandSHeadRun.stepQ (HandSHeadRun.denQ HandSHeadRun.tabQ) r.prog w) M r.prog w os
def LookE (r:PySem.W.OpenRow) (M:Nat) (w:World):Prop:=∀os,(endS r M w os).map (fun s=>HandSHeadRun.looksF r.prog (PySem.W.boot_heap w.params) s.abs)=some true
def SeenE (r:PySem.W.OpenRow) (q:PySem.Program) (M:Nat) (loose:List PySem.Str) (w:World):Prop:=∀os,(endS r M w os).map (fun s=>HandSHeadRun.seenQ q loose (importedModules r.prog.main.body) (fun s=>PySem.W.xlAt q [] s&&PySem.W.recOk r.toRowW.records s) s.abs)=some (PySem.W.openGood q loose)
def ObsE (r:PySem.W.OpenRow) (M:Nat) (as:List Addr) (p:Part) (w:World):Prop:=∀os,(endS r M w os).map (fun s=>obsLG as p.1 p.2 (HandSHeadRun.getT s))=some (He5.valA p.2)
theorem zbjb {r:PySem.W.OpenRow} {q:PySem.Program} {M:Nat} {loose:List PySem.Str} {w:World} {as:List Addr} {ps:List Part} (h1:LookE r M w) (h2:SeenE r q M loose w) (h3:∀p∈ps,ObsE r M as p w):HandSHeadRun.RunEq r q (zb2 as ps) (obLs as ps) M loose w:=by
 intro os
 have a1:=h1 os
 have a2:=h2 os
 have a3:∀p∈ps,(endS r M w os).map (fun s=>obsLG as p.1 p.2 (HandSHeadRun.getT s))=some (He5.valA p.2):=fun p hp=>h3 p hp os
 show (endS r M w os).map _=_
 cases hs:endS r M w os with
 |none=>rw[hs] at a1;cases a1
 |some s=>
  rw[hs] at a1 a2
  have b1:HandSHeadRun.looksF r.prog (PySem.W.boot_heap w.params) s.abs=true:=Option.some.inj a1
  have b2:=Option.some.inj a2
  have b3:obLs as ps s=(zb2 as ps).val w:=List.map_inj_left.mpr fun p hp=>by
   have e:=a3 p hp
   rw[hs] at e
   exact Option.some.inj e
  rw[Option.map_some,b1,b3]
  dsimp only at b2
  rw[b2]
end DL
namespace DL
open PySem PySem.Spec L2
open PyProof.Rows hiding St
open Evl (Ex)
/-- one walk: the list so far; an error of the element leaves -/
def z36 (g:DG) (t:DT) (e:DE) (wd:Env):List D→List D→Mem→Res (List D)
 |[],acc,m=>.ok acc m
 |d::ds,acc,m=>match g (.d d) wd with
  |none=>.no
  |some dl1=>(match t dl1 m with
   |.ok b m1=>(match b with
    |true=>(match e dl1 m1 with
     |.ok (.d y) m2=>if acc.length<sizeLine then z36 g t e wd ds (acc++[y]) m2 else .no
     |.exc C f p m2=>.exc C f p m2
     |_=>.no)
    |false=>z36 g t e wd ds acc m1)
   |_=>.no)
def eLcE (f:DI) (g:DG) (t:DT) (e:DE) (vs:List Nat):DE:=fun dl m=>(f dl m).bind fun items m1=>(z36 g t e (wipeD dl vs) items [] m1).bind fun acc m2=>.ok (.d (.lst acc)) m2
section
variable {X:Cx} {Wx:WX}
@[simp] theorem zuqb (f:DI) (h:DG) (t:DT) (e:DE) (vs:List Nat) (dl:Env) (m:Mem):eLcE f h t e vs dl m=(f dl m).bind fun items m1=>(z36 h t e (wipeD dl vs) items [] m1).bind fun acc m2=>.ok (.d (.lst acc)) m2:=by
 first |rfl |unfold eLcE
end
end DL
namespace DL
open PySem PySem.Spec L2
open PyProof.Rows hiding St
open Evl (Ex)
def lookD {κ : Type} [DecidableEq κ]:List κ → List D → κ → Option D
 |k::ks,d::ds,j=>if k=j then some d else lookD ks ds j
 |_,_,_=>none
def kyD:D→Option Key
 |.int i=>some (.inl i)
 |.str x=>some (.inr x)
 |_=>none
def dicC (x:W) (m:Mem):Option Cell:=match x with
 |.d (.dic ks ds)=>some (.dic ks ds)
 |.c k=>(match m[k]? with
  |some (.zd (.dic ks ds))=>some (.dic ks ds)
  |some (.dic ks ds)=>some (.dic ks ds)
  |some (.dn ks ds)=>some (.dn ks ds)
  |some (.dt ks ds)=>some (.dt ks ds)
  |_=>none)
 |.h i=>(match (heapOf m)[i]? with
  |some (.dic ks ws)=>some (.dic ks (ws.map HW.toD))
  |_=>none)
 |_=>none
section
variable {K:Fg} {H1 H:Hp} {al:Gh} {m:Mem}
theorem zpcb.mono (x:Ex H1 H) {k:MKey} {b:Addr} {w:V} (h:zpcb H1 k b w):zpcb H k b w:=by
 cases k with
 |none=>exact h
 |some is=>exact⟨h.1,x _ _ h.2⟩
theorem MOk.mono (x:Ex H1 H) {xs:List MVRow} (h:MOk H1 xs):MOk H xs:=fun y hy is e=>x _ _ (h y hy is e)
end
end DL
namespace DL
open PySem PySem.Spec L2
open PyProof.Rows hiding St
open Evl (Ex)
def aStar (a:DE) (r:DA):DA:=fun dl m=>(a dl m).bind fun x m1=>(starW x m1).bind fun us m2=>(r dl m2).bind fun vs m3=>.ok (us++vs) m3
@[simp] theorem z9nb (a:DE) (r:DA) (dl:Env) (m:Mem):aStar a r dl m=(a dl m).bind fun x m1=>(starW x m1).bind fun us m2=>(r dl m2).bind fun vs m3=>.ok (us++vs) m3:=nr rfl
end DL
namespace DL
open PySem PySem.Spec L2
open PyProof.Rows hiding St
open Evl (Ex)
def callO (t:Tbl) (x:W) (ws:List W) (m:Mem):Res W:=match clsOf x m with
 |some C=>(match look t C with
  |some F=>F (x::ws) m
  |none=>.no)
 |none=>.no
def zskb (t:Tbl) (a:DE) (f:DA):DE:=fun dl m=>(a dl m).bind fun x m1=>if (clsOf x m1).isSome=true then (f dl m1).bind fun ws m2=>callO t x ws m2 else .no
@[simp] theorem zvlb (t:Tbl) (a:DE) (f:DA) (dl:Env) (m:Mem):zskb t a f dl m=(a dl m).bind fun x m1=>if (clsOf x m1).isSome=true then (f dl m1).bind fun ws m2=>callO t x ws m2 else .no:=nr rfl
end DL
namespace DL
open PySem PySem.Spec L2
open PyProof.Rows hiding St
open Evl (Ex)
def lrgW (ws:List W) (m:Mem):Res W:=match ws with
 |[.d (.int j)]=>if 0≤j∧j≤16777216 then .ok (.d (.lst (rngD 0 j.toNat))) m else .no
 |_=>.no
def zzhb (f:DA):DE:=fun dl m=>(f dl m).bind lrgW
@[simp] theorem zsib (f:DA) (dl:Env) (m:Mem):zzhb f dl m=(f dl m).bind lrgW:=nr rfl
end DL
namespace DL
open PySem PySem.Spec L2
open PyProof.Rows hiding St
open Evl (Ex)
def bIfe (t a b:DT):DT:=fun dl m=>(t dl m).bind fun c m1=>if c=true then a dl m1 else b dl m1
@[simp] theorem z9qb (t a b:DT) (dl:Env) (m:Mem):bIfe t a b dl m=(t dl m).bind fun c m1=>if c=true then a dl m1 else b dl m1:=nr rfl
end DL
namespace DL
open PySem PySem.Spec L2
open PyProof.Rows hiding St
open Evl (Ex)
variable {P:Program} {w:World} {K:Fg} {mg:Str→Option Value} {base:Heap}
def FnDL (P:Program) (w:World) (K:Fg) (mg:Str→Option Value) (base:Heap) (k:Nat) (f:Addr) (F:DF):Prop:=
 ∀(A:Around) (outer:List PySem.Env) (s:Shared) (H:Hp) (us:List Value) (vs:List V) (Q:VK) (E:XK),RoomG k A→Env0 P w K mg base A outer s H→Vals vs us→spR K F vs H Q E →
  codeAny (model P w) A (.call (.ref f) ⟨us,[]⟩) (CR (L2.CX P w) outer P w H s Q E) s
theorem FnDL.mono {j k:Nat} {f:Addr} {F:DF} (h:FnDL P w K mg base j f F) (l:j≤k):FnDL P w K mg base k f F:=fun A outer s H us vs Q E hr=>h A outer s H us vs Q E (hr.mono l)
end DL
namespace DL
open PySem PySem.Spec L2
open PyProof.Rows hiding St
open Evl (Ex)
def zdkb (d:D):Bool:=match d with
 |.int _=>true
 |.bl _=>true
 |_=>false
def ropOW (ts:List String) (t:Tbl) (g:D→D→Option D) (x y:W) (m:Mem):Res W:=match clsOf y m with
 |some C=>(match look t C with
  |some F=>(match x with
   |.d d=>(if zdkb d=true then F [y,.d d] m else match tagD d with
    |some (.bt T)=>if T∈ts then F [y,.d d] m else .no
    |_=>.no)
   |_=>.no)
  |none=>.no)
 |none=>lift2 g x y m
def eRopO (ts:List String) (t:Tbl) (g:D→D→Option D) (a b:DE):DE:=fun dl m=>(a dl m).bind fun x m1=>(b dl m1).bind fun y m2=>ropOW ts t g x y m2
@[simp] theorem zvnb (ts:List String) (t:Tbl) (g:D→D→Option D) (a b:DE) (dl:Env) (m:Mem):eRopO ts t g a b dl m=(a dl m).bind fun x m1=>(b dl m1).bind fun y m2=>ropOW ts t g x y m2:=nr rfl
end DL
namespace DL
open PySem PySem.Spec L2
open PyProof.Rows hiding St
open Evl (Ex)
def liveH (k n:Nat) (m:Mem):Option (List HW):=match (heapOf m)[k]? with
 |some (.lst ws)=>if ws.length=n then some ws else none
 |_=>none
def z2y (w:W) (m:Mem):Option (Nat × Nat):=match w with
 |.h k=>(match (heapOf m)[k]? with
  |some (.lst ws)=>some (k,ws.length)
  |_=>none)
 |_=>none
def loopH (g:DG) (b:DS) (k n:Nat):Nat→Env→Mem→SR
 | 0,dl,m=>(match liveH k n m with
   |some _=>.nx dl m
   |none=>.no)
 |r+1,dl,m=>(match liveH k n m with
  |none=>.no
  |some ws=>(match ws[n-(r+1)]? with
   |none=>.no
   |some d=>(match g d.toW dl with
    |none=>.no
    |some dl1=>(match b dl1 m with
     |.nx dl2 m2=>loopH g b k n r dl2 m2
     |.ct dl2 m2=>loopH g b k n r dl2 m2
     |.bk dl2 m2=>.nx dl2 m2
     |.rt w m2=>.rt w m2
     |.exc dl2 C f p m2=>.exc dl2 C f p m2
     |.no=>.no))))
def sForH (f:DE) (g:DG) (b:DS):DS:=fun dl m=>(f dl m).thenS dl fun w m1=>match z2y w m1 with
 |some (k,n)=>loopH g b k n n dl m1
 |none=>.no
@[simp] theorem zlnb (f:DE) (g:DG) (b:DS) (dl:Env) (m:Mem):sForH f g b dl m=(f dl m).thenS dl fun w m1=>(match z2y w m1 with
 |some (k,n)=>loopH g b k n n dl m1
 |none=>.no):=nr rfl
end DL
namespace DL
open PySem PySem.Spec L2
open PyProof.Rows hiding St
open Evl (Ex)
section
variable {P:Program} {w:World} {K:Fg} {mg:Str→Option Value} {base:Heap}
def CRN (outer:List PySem.Env) (P:Program) (w:World) (H:Hp) (s:Shared) (Q:VK) (E:XK) (r:Except Value Flow) (s':Shared):Prop:=match r with
 |.ok fl=>fl = .ret .notImplemented∧CE outer P w H s Q .none s'
 |.error e=>L2N.CX P w outer H s E e s'
def FnNo (P:Program) (w:World) (K:Fg) (mg:Str→Option Value) (base:Heap) (k:Nat) (f:Addr) (F:DF):Prop:=
 ∀(A:Around) (outer:List PySem.Env) (s:Shared) (H:Hp) (us:List Value) (vs:List V) (Q:VK) (E:XK),RoomG k A→Env0 P w K mg base A outer s H→Vals vs us→spR K F vs H Q E →
  codeAny (model P w) A (.call (.ref f) ⟨us,[]⟩) (CRN outer P w H s Q E) s
theorem FnNo.mono {j k:Nat} {f:Addr} {F:DF} (h:FnNo P w K mg base j f F) (l:j≤k):FnNo P w K mg base k f F:=fun A outer s H us vs Q E hr=>h A outer s H us vs Q E (hr.mono l)
end
end DL
namespace DL
open PySem PySem.Spec L2
open PyProof.Rows hiding St
open Evl (Ex)
def lk2 {α : Type} (t:List ((Str × Str) × α)) (C C2:Str):Option α := match t with
 |[]=>none
 |p::r=>if p.1=(C,C2) then some p.2 else lk2 r C C2
abbrev Acc:=List ((Str × Str) × DF)
abbrev Dcl:=List ((Str × Str) × (DF × DF))
def binRW (ts:List String) (t:Tbl) (acc:Acc) (dec:Dcl) (rts:List String) (rt:Tbl) (g:D→D→Option D) (x y:W) (m:Mem):Res W:=match clsOf x m with
 |some C=>(match clsOf y m with
  |some C2=>(if C2=C then bopW ts t g x y m else match lk2 acc C C2 with
   |some F=>F [x,y] m
   |none=>(match lk2 dec C C2 with
    |some q=>(q.1 [x,y] m).bind fun _ m1=>if clsOf x m1=some C∧clsOf y m1=some C2 then q.2 [y,x] m1 else .no
    |none=>.no))
  |none=>bopW ts t g x y m)
 |none=>ropOW rts rt g x y m
def eBinR (ts:List String) (t:Tbl) (acc:Acc) (dec:Dcl) (rts:List String) (rt:Tbl) (g:D→D→Option D) (a b:DE):DE:=fun dl m=>(a dl m).bind fun x m1=>(b dl m1).bind fun y m2=>binRW ts t acc dec rts rt g x y m2
@[simp] theorem z5nb (ts:List String) (t:Tbl) (acc:Acc) (dec:Dcl) (rts:List String) (rt:Tbl) (g:D→D→Option D) (a b:DE) (dl:Env) (m:Mem):eBinR ts t acc dec rts rt g a b dl m=(a dl m).bind fun x m1=>(b dl m1).bind fun y m2=>binRW ts t acc dec rts rt g x y m2:=nr rfl
end DL
namespace DL
open PySem PySem.Spec L2
open PyProof.Rows hiding St
open Evl (Ex)
section
variable {X:Cx} {Wx:WX}
def addHW (x y:W) (m:Mem):Res W:=match x.rd m,y.rd m with
 |some (.lst ds),some (.lst es)=>if ds.length+es.length≤sizeLine then newH (.lst ((ds++es).map HW.d)) m else .no
 |_,_=>.no
def eAddH (a b:DE):DE:=fun dl m=>(a dl m).bind fun x m1=>(b dl m1).bind fun y m2=>addHW x y m2
def zffb (ws:List W) (m:Mem):Res W:=match hwAll ws with
 |some hs=>if hs.length≤sizeLine then newH (.tup hs) m else .no
 |none=>.no
def eTupH (f:DA):DE:=fun dl m=>(f dl m).bind zffb
end
@[simp] theorem z7nb (a b:DE) (dl:Env) (m:Mem):eAddH a b dl m=(a dl m).bind fun x m1=>(b dl m1).bind fun y m2=>addHW x y m2:=nr rfl
@[simp] theorem zunb (f:DA) (dl:Env) (m:Mem):eTupH f dl m=(f dl m).bind zffb:=nr rfl
end DL
namespace DL
open PySem PySem.Spec L2
open PyProof.Rows hiding St
open Evl (Ex)
def sPar4 (i j k l:Nat) (f:DA):DS:=fun dl m=>(f dl m).thenS dl fun ws m1=>match ws with
 |[a,b,c,d]=>.nx ((((dl.set i (some a)).set j (some b)).set k (some c)).set l (some d)) m1
 |_=>.no
def z2bb (g:DG) (t:DT) (e:DE) (wd:Env) (k n:Nat):Nat→List HW→Mem→Res (List HW)
 | 0,acc,m=>(match liveH k n m with
   |some _=>.ok acc m
   |none=>.no)
 |r+1,acc,m=>(match liveH k n m with
  |none=>.no
  |some ds=>(match ds[n-(r+1)]? with
   |none=>.no
   |some d=>(match g d.toW wd with
    |none=>.no
    |some dl1=>(match t dl1 m with
     |.ok b m1=>(match b with
      |true=>(match e dl1 m1 with
       |.ok w m2=>(match w.hw with
        |some y=>if acc.length<sizeLine then z2bb g t e wd k n r (acc++[y]) m2 else .no
        |none=>.no)
       |_=>.no)
      |false=>z2bb g t e wd k n r acc m1)
     |_=>.no))))
def lcHW (g:DG) (t:DT) (e:DE) (wd:Env) (w:W) (m:Mem):Res W:=match z2y w m with
 |some (k,n)=>(z2bb g t e wd k n n [] m).bind fun acc m2=>newH (.lst acc) m2
 |none=>.no
def eLcLH (f:DE) (g:DG) (t:DT) (e:DE) (vs:List Nat):DE:=fun dl m=>(f dl m).bind fun w m1=>lcHW g t e (wipeD dl vs) w m1
@[simp] theorem zhnb (i j k l:Nat) (f:DA) (dl:Env) (m:Mem):sPar4 i j k l f dl m=(f dl m).thenS dl fun ws m1=>(match ws with
 |[a,b,c,d]=>.nx ((((dl.set i (some a)).set j (some b)).set k (some c)).set l (some d)) m1
 |_=>.no):=nr rfl
@[simp] theorem z1nb (f:DE) (g:DG) (t:DT) (e:DE) (vs:List Nat) (dl:Env) (m:Mem):eLcLH f g t e vs dl m=(f dl m).bind fun w m1=>lcHW g t e (wipeD dl vs) w m1:=nr rfl
end DL
namespace DL
open PySem PySem.Spec L2
open PyProof.Rows hiding St
open Evl (Ex)
def itD (en:Bool) (i:Nat) (d:D):D:=if en=true then .tup [.int (i:Int),d] else d
def compX (en:Bool) (g:DG) (t:DT) (e:DE) (wd:Env) (k n:Nat):Nat→List D→Mem→Res (List D)
 | 0,acc,m=>(match liveH k n m with
   |some _=>.ok acc m
   |none=>.no)
 |r+1,acc,m=>(match liveH k n m with
  |none=>.no
  |some ds=>(match ds[n-(r+1)]? with
   |some (.d d)=>(match g (.d (itD en (n-(r+1)) d)) wd with
    |none=>.no
    |some dl1=>(match t dl1 m with
     |.ok b m1=>(match b with
      |true=>(match e dl1 m1 with
       |.ok (.d y) m2=>if acc.length<sizeLine then compX en g t e wd k n r (acc++[y]) m2 else .no
       |_=>.no)
      |false=>compX en g t e wd k n r acc m1)
     |_=>.no))
   |_=>.no))
def lcXW (en:Bool) (g:DG) (t:DT) (e:DE) (wd:Env) (w:W) (m:Mem):Res W:=match z2y w m with
 |some (k,n)=>(compX en g t e wd k n n [] m).bind fun acc m2=>.ok (.d (.lst acc)) m2
 |none=>.no
def eLcX (f:DE) (g:DG) (t:DT) (e:DE) (vs:List Nat):DE:=fun dl m=>(f dl m).bind fun w m1=>lcXW false g t e (wipeD dl vs) w m1
def eLcXE (f:DA) (g:DG) (t:DT) (e:DE) (vs:List Nat):DE:=fun dl m=>(f dl m).bind fun ws m1=>match ws with
 |[w]=>lcXW true g t e (wipeD dl vs) w m1
 |_=>.no
def loopX (en:Bool) (g:DG) (b:DS) (k n:Nat):Nat→Env→Mem→SR
 | 0,dl,m=>(match liveH k n m with
   |some _=>.nx dl m
   |none=>.no)
 |r+1,dl,m=>(match liveH k n m with
  |none=>.no
  |some ws=>(match ws[n-(r+1)]? with
   |some (.d d)=>(match g (.d (itD en (n-(r+1)) d)) dl with
    |none=>.no
    |some dl1=>(match b dl1 m with
     |.nx dl2 m2=>loopX en g b k n r dl2 m2
     |.ct dl2 m2=>loopX en g b k n r dl2 m2
     |.bk dl2 m2=>.nx dl2 m2
     |.rt w m2=>.rt w m2
     |.exc dl2 C f p m2=>.exc dl2 C f p m2
     |.no=>.no))
   |_=>.no))
def zajb (f:DA) (g:DG) (b:DS):DS:=fun dl m=>(f dl m).thenS dl fun ws m1=>match ws with
 |[w]=>(match z2y w m1 with
  |some (k,n)=>loopX true g b k n n dl m1
  |none=>.no)
 |_=>.no
end DL
namespace DL
open PySem PySem.Spec L2
open PyProof.Rows hiding St
open Evl (Ex)
@[simp] theorem zplb (f:DA) (g:DG) (b:DS) (dl:Env) (m:Mem):zajb f g b dl m=(f dl m).thenS dl fun ws m1=>(match ws with
 |[w]=>(match z2y w m1 with
  |some (k,n)=>loopX true g b k n n dl m1
  |none=>.no)
 |_=>.no):=nr rfl
@[simp] theorem zrqb (f:DE) (g:DG) (t:DT) (e:DE) (vs:List Nat) (dl:Env) (m:Mem):eLcX f g t e vs dl m=(f dl m).bind fun w m1=>lcXW false g t e (wipeD dl vs) w m1:=nr rfl
@[simp] theorem z0nb (f:DA) (g:DG) (t:DT) (e:DE) (vs:List Nat) (dl:Env) (m:Mem):eLcXE f g t e vs dl m=(f dl m).bind fun ws m1=>(match ws with
 |[w]=>lcXW true g t e (wipeD dl vs) w m1
 |_=>.no):=nr rfl
end DL
namespace DL
open PySem PySem.Spec L2
open PyProof.Rows hiding St
open Evl (Ex)
def slWA (w:W) (lo hi:Option Int) (m:Mem):Res W:=match w with
 |.d (.tup ds)=>.ok (.d (.tup (cutD ds lo hi))) m
 |_=>slW w lo hi m
def eSlA (f:DE) (lo hi:DO):DE:=fun dl m=>(f dl m).bind fun w m1=>(lo dl m1).bind fun l m2=>(hi dl m2).bind fun u m3=>slWA w l u m3
@[simp] theorem ziqb (f:DE) (lo hi:DO) (dl:Env) (m:Mem):eSlA f lo hi dl m=(f dl m).bind fun w m1=>(lo dl m1).bind fun l m2=>(hi dl m2).bind fun u m3=>slWA w l u m3:=nr rfl
end DL
namespace DL
open PySem PySem.Spec L2
open PyProof.Rows hiding St
open Evl (Ex)
def enzW (ws:List W) (m:Mem):Res (List D):=match ws with
 |[.d (.lst as),.d (.lst bs)]=>.ok (enumD (zipD as bs)) m
 |_=>.no
def iEnZ (f:DA):DI:=fun dl m=>(f dl m).bind enzW
@[simp] theorem zdqb (f:DA) (dl:Env) (m:Mem):iEnZ f dl m=(f dl m).bind enzW:=nr rfl
@[simp] theorem z3rb (as bs:List D) (m:Mem):enzW [.d (.lst as),.d (.lst bs)] m = .ok (enumD (zipD as bs)) m:=nr rfl
end DL
namespace DL
open PySem PySem.Spec L2
open PyProof.Rows hiding St
open Evl (Ex)
def zip3D (as bs cs:List D):List D:=(as.zip (bs.zip cs)).map fun p=>.tup [p.1,p.2.1,p.2.2]
def zip3W (ws:List W) (m:Mem):Res (List D):=match ws with
 |[.d (.lst as),.d (.lst bs),.d (.lst cs)]=>.ok (zip3D as bs cs) m
 |_=>.no
def iZp3 (f:DA):DI:=fun dl m=>(f dl m).bind zip3W
@[simp] theorem z9pb (f:DA) (dl:Env) (m:Mem):iZp3 f dl m=(f dl m).bind zip3W:=nr rfl
@[simp] theorem zanb (as bs cs:List D) (m:Mem):zip3W [.d (.lst as),.d (.lst bs),.d (.lst cs)] m = .ok (zip3D as bs cs) m:=nr rfl
end DL
namespace DL
open PySem PySem.Spec L2
open PyProof.Rows hiding St
open Evl (Ex)
def FnKL (P:Program) (w:World) (K:Fg) (mg:Str→Option Value) (base:Heap) (k:Nat) (f:Addr) (ks:List Str) (F:DF):Prop:=
 ∀(A:Around) (outer:List PySem.Env) (s:Shared) (H:Hp) (us ws:List Value) (vs zs:List V) (Q:VK) (E:XK),RoomG k A→Env0 P w K mg base A outer s H→Vals vs us→Vals zs ws→ws.length=ks.length→spR K F (vs++zs) H Q E →
  codeAny (model P w) A (.call (.ref f) ⟨us,ks.zip ws⟩) (CR (L2.CX P w) outer P w H s Q E) s
end DL
namespace DL
open PySem PySem.Spec L2
open PyProof.Rows hiding St
open Evl (Ex)
section
variable {X:Cx} {Wx:WX}
def eFnV (tbl:Tbl) (nk:Nat) (a:DE) (f fk:DA):DE:=fun dl m=>(a dl m).bind fun x m1=>match x with
 |.d (.cls C)=>(match tbl.lookup C with
  |some F=>(f dl m1).bind fun ws m2=>(fk dl m2).bind fun zs m3=>if zs.length=nk then F (ws++zs) m3 else .no
  |none=>.no)
 |_=>.no
theorem FnKL.mono {P:Program} {w:World} {K:Fg} {mg:Str→Option Value} {base:Heap} {j k:Nat} {f:Addr} {ks:List Str} {F:DF} (h:FnKL P w K mg base j f ks F) (l:j≤k):FnKL P w K mg base k f ks F:=fun A outer s H us ws vs zs Q E hr=>h A outer s H us ws vs zs Q E (hr.mono l)
@[simp] theorem zzqb (tbl:Tbl) (nk:Nat) (C:Str) (f fk:DA) (dl:Env) (m:Mem):eFnV tbl nk (eC (.cls C)) f fk dl m=(match tbl.lookup C with
  |some F=>(f dl m).bind fun ws m2=>(fk dl m2).bind fun zs m3=>if zs.length=nk then F (ws++zs) m3 else .no
  |none=>.no):=nr rfl
end
end DL
namespace DL
open PySem PySem.Spec
def GrpE (r:PySem.W.OpenRow) (q:PySem.Program) (M:Nat) (loose:List PySem.Str) (as:List Addr) (ps:List Part) (w:World):Prop:=∀os,(endS r M w os).map (fun s=>(HandSHeadRun.looksF r.prog (PySem.W.boot_heap w.params) s.abs,HandSHeadRun.seenQ q loose (importedModules r.prog.main.body) (fun s=>PySem.W.xlAt q [] s&&PySem.W.recOk r.toRowW.records s) s.abs,ps.map fun p=>obsLG as p.1 p.2 (HandSHeadRun.getT s)))=some (true,PySem.W.openGood q loose,ps.map fun p=>He5.valA p.2)
def ObsPE (r:PySem.W.OpenRow) (M:Nat) (as:List Addr) (ps:List Part) (w:World):Prop:=∀os,(endS r M w os).map (fun s=>ps.map fun p=>obsLG as p.1 p.2 (HandSHeadRun.getT s))=some (ps.map fun p=>He5.valA p.2)
theorem GrpE.look {r:PySem.W.OpenRow} {q:PySem.Program} {M:Nat} {loose:List PySem.Str} {as:List Addr} {ps:List Part} {w:World} (h:GrpE r q M loose as ps w):LookE r M w:=fun os=>by
 have e:=h os
 cases hs:endS r M w os with
 |none=>rw[hs] at e;cases e
 |some s=>
  rw[hs] at e
  have e:=Option.some.inj e
  exact congrArg some (Prod.mk.inj e).1
theorem GrpE.seen {r:PySem.W.OpenRow} {q:PySem.Program} {M:Nat} {loose:List PySem.Str} {as:List Addr} {ps:List Part} {w:World} (h:GrpE r q M loose as ps w):SeenE r q M loose w:=fun os=>by
 have e:=h os
 cases hs:endS r M w os with
 |none=>rw[hs] at e;cases e
 |some s=>
  rw[hs] at e
  have e:=Option.some.inj e
  exact congrArg some (Prod.mk.inj (Prod.mk.inj e).2).1
theorem zaab {α β : Type} {f g : α → β}:∀{xs:List α},xs.map f=xs.map g→∀x∈xs,f x=g x
 |x::xs,h,y,hy=>by
  rw[List.map_cons,List.map_cons] at h
  obtain⟨h1,h2⟩:=List.cons.inj h
  rcases List.mem_cons.mp hy with rfl |hy
  ·exact h1
  ·exact zaab h2 y hy
theorem GrpE.obs {r:PySem.W.OpenRow} {q:PySem.Program} {M:Nat} {loose:List PySem.Str} {as:List Addr} {ps:List Part} {w:World} (h:GrpE r q M loose as ps w):∀p∈ps,ObsE r M as p w:=fun p hp os=>by
 have e:=h os
 cases hs:endS r M w os with
 |none=>rw[hs] at e;cases e
 |some s=>
  rw[hs] at e
  have e:=Option.some.inj e
  exact congrArg some (zaab (Prod.mk.inj (Prod.mk.inj e).2).2 p hp)
theorem ObsPE.obs {r:PySem.W.OpenRow} {M:Nat} {as:List Addr} {ps:List Part} {w:World} (h:ObsPE r M as ps w):∀p∈ps,ObsE r M as p w:=fun p hp os=>by
 have e:=h os
 cases hs:endS r M w os with
 |none=>rw[hs] at e;cases e
 |some s=>
  rw[hs] at e
  have e:=Option.some.inj e
  exact congrArg some (zaab e p hp)
end DL
namespace DL
open PySem PySem.Spec L2
open PyProof.Rows hiding St
open Evl (Ex)
def dropV {κ α : Type} [DecidableEq κ]:List κ → List α → κ → List α
 |k::ks,d::ds,j=>if k=j then dropV ks ds j else d::dropV ks ds j
 |_,_,_=>[]
def zvkb {κ : Type} [DecidableEq κ] (ks:List κ) (j : κ):List κ := ks.filter fun x=>decide (x≠j)
def dpopW (o i:W) (m:Mem):Option (D × Mem):=match i.rd m with
 |some kd=>(match kyD kd with
  |some j=>(match o with
   |.c k=>(match m[k]? with
    |some (.dic ks ds)=>(match lookD ks ds j with
     |some d=>some (d,m.set k (.dic (zvkb ks j) (dropV ks ds j)))
     |none=>none)
    |_=>none)
   |_=>none)
  |none=>none)
 |none=>none
def isDkW (x:W) (m:Mem):Bool:=match dicC x m with
 |some (.dic _ _)=>true
 |_=>false
def eDPop (a b:DE):DE:=fun dl m=>(a dl m).bind fun x m1=>if isDkW x m1=true then (b dl m1).bind fun y m2=>(match dpopW x y m2 with
 |some (d,m3)=>.ok (.d d) m3
 |none=>.no) else .no
@[simp] theorem z4nb (a b:DE) (dl:Env) (m:Mem):eDPop a b dl m=(a dl m).bind fun x m1=>if isDkW x m1=true then (b dl m1).bind fun y m2=>(match dpopW x y m2 with
 |some (d,m3)=>.ok (.d d) m3
 |none=>.no) else .no:=nr rfl
end DL
namespace DL
open PySem PySem.Spec L2
open PyProof.Rows hiding St
open Evl (Ex)
section
variable {X:Cx} {Wx:WX}
/-- x + y in its place, y a tuple too -/
def augTW (x y:W) (m:Mem):Res W:=match x.loc with
 |some l=>(match l.get m with
  |some us=>(match y.rd m with
   |some (.tup zs)=>if us.length+zs.length≤sizeLine then (match l.put (us++zs.map HW.d) m with
    |some m'=>.ok x m'
    |none=>.no) else .no
   |_=>augW x y m)
  |none=>.no)
 |none=>augW x y m
def sAugT (i:Nat) (e:DE):DS:=fun dl m=>match dl[i]? with
 |some (some x)=>(e dl m).thenS dl fun y m1=>(augTW x y m1).thenS dl fun z m2=>.nx (dl.set i (some z)) m2
 |_=>.no
end
@[simp] theorem zpnb (i:Nat) (e:DE) (dl:Env) (m:Mem):sAugT i e dl m=match dl[i]? with
 |some (some x)=>(e dl m).thenS dl fun y m1=>(augTW x y m1).thenS dl fun z m2=>.nx (dl.set i (some z)) m2
 |_=>.no:=nr rfl
end DL
namespace LK
open PySem PySem.Spec L2 DL
open PyProof.Rows hiding St
open Evl (Ex)
def top (i:Nat):Stmt:=PySem.Challenge.pw_indentholes_k51_no_mends.main.body.getD i (.Pass ⟨0,0,0,0⟩)
def bopTs:List String:=["NoneType", "bool", "int", "str", "list", "tuple"]
def zao:List Str:=["BadAmount", "BadEach", "BadLine", "BadName", "BadTag", "NoLine", "Shallow", "TooMany", "Twice"]
def zec:List (Str × Bool):=[("BadMend",true)]
def zbi:List (Tag × Bool):=[(.bt "NoneType",false),(.bt "bool",false),(.bt "int",false),(.bt "str",false),(.bt "list",false),(.bt "tuple",false),(.bt "dict",false),(.own "Block",true),(.own "Program",false)]
def z6g:List (Tag × Bool):=[(.bt "NoneType",false),(.bt "bool",false),(.bt "int",false),(.bt "str",true),(.bt "list",false),(.bt "tuple",false),(.bt "dict",false),(.own "Block",true),(.own "Program",false)]
def zjh:List (Tag × Bool):=[(.bt "NoneType",false),(.bt "bool",false),(.bt "int",false),(.bt "str",false),(.bt "list",false),(.bt "tuple",false),(.bt "dict",false),(.own "Block",false),(.own "Program",true)]
def zge:List (Tag × Bool):=[(.bt "NoneType",false),(.bt "bool",true),(.bt "int",false),(.bt "str",false),(.bt "list",false),(.bt "tuple",false),(.bt "dict",false),(.own "Block",false),(.own "Program",false)]
def zki:List (Tag × Bool):=[(.bt "NoneType",false),(.bt "bool",true),(.bt "int",true),(.bt "str",false),(.bt "list",false),(.bt "tuple",false),(.bt "dict",false),(.own "Block",false),(.own "Program",false)]
def zoe:List (Tag × Bool):=[(.bt "NoneType",false),(.bt "bool",false),(.bt "int",false),(.bt "str",true),(.bt "list",false),(.bt "tuple",false),(.bt "dict",false),(.own "Block",false),(.own "Program",false)]
def z5g:List (Tag × Bool):=[(.bt "NoneType",false),(.bt "bool",false),(.bt "int",false),(.bt "str",false),(.bt "list",false),(.bt "tuple",true),(.bt "dict",false),(.own "Block",false),(.own "Program",false)]
abbrev zfd:Stmt:=top 20
abbrev zvd:Stmt:=top 21
abbrev zy:Stmt:=inClass (top 38) 10
abbrev zxb:Stmt:=inClass (top 38) 8
abbrev zjd:Stmt:=top 95
abbrev z4b:Stmt:=top 99
abbrev z3d:Stmt:=top 100
abbrev znc:Stmt:=top 105
abbrev zvb:Stmt:=inClass (top 38) 7
abbrev zsb:Stmt:=top 96
abbrev z0c:Stmt:=top 101
abbrev zlc:Stmt:=top 103
abbrev zid:Stmt:=top 102
abbrev zhd:Stmt:=top 104
abbrev zkd:Stmt:=top 97
abbrev zle:Stmt:=top 23
abbrev zcb:Stmt:=inClass (top 38) 1
abbrev z2c:Stmt:=inClass (top 38) 2
abbrev zmc:Stmt:=inClass (top 38) 4
abbrev zed:Stmt:=top 25
abbrev z2e:Stmt:=top 24
abbrev zzc:Stmt:=top 41
abbrev zyc:Stmt:=top 47
abbrev zq:Stmt:=inClass (top 70) 0
abbrev zdg:Stmt:=top 75
abbrev zje:Stmt:=top 76
abbrev zdj:Stmt:=top 77
abbrev zse:Stmt:=top 71
abbrev z5c:Stmt:=top 72
abbrev zac:Stmt:=inClass (top 70) 15
abbrev z4c:Stmt:=top 73
abbrev z2d:Stmt:=top 74
abbrev zej:Stmt:=top 78
abbrev zdd:Stmt:=top 39
abbrev zyb:Stmt:=inClass (top 38) 14
abbrev zkc:Stmt:=top 80
abbrev zgf:Stmt:=top 81
abbrev z1b:Stmt:=top 79
abbrev zeb:Stmt:=inClass (top 70) 3
abbrev zgd:Stmt:=top 22
abbrev z2b:Stmt:=top 26
abbrev zx:Stmt:=inClass (top 38) 18
abbrev zie:Stmt:=top 82
abbrev zt:Stmt:=inClass (top 70) 5
abbrev zqb:Stmt:=top 29
abbrev z9b:Stmt:=top 32
abbrev z6:Stmt:=inClass (top 38) 19
abbrev zu:Stmt:=inClass (top 70) 6
abbrev zub:Stmt:=inClass (top 70) 8
abbrev z5b:Stmt:=inClass (top 70) 9
abbrev ztb:Stmt:=inClass (top 70) 10
abbrev zib:Stmt:=inClass (top 70) 11
abbrev zrb:Stmt:=top 30
abbrev z6c:Stmt:=top 31
abbrev zwb:Stmt:=inClass (top 38) 20
abbrev zdb:Stmt:=inClass (top 70) 7
abbrev z4d:Stmt:=top 98
abbrev znd:Stmt:=top 89
abbrev zke:Stmt:=top 90
abbrev zme:Stmt:=top 91
abbrev z0b:Stmt:=top 83
abbrev z9h:Stmt:=top 92
abbrev zhf:Stmt:=top 93
abbrev zwd:Stmt:=top 106
abbrev z3b:Stmt:=top 107
abbrev st_law:Stmt:=top 108
abbrev z6b:Stmt:=inClass (top 3) 0
abbrev ztc:Stmt:=inClass (top 6) 0
abbrev zsc:Stmt:=inClass (top 2) 0
abbrev zrc:Stmt:=inClass (top 11) 0
abbrev zqc:Stmt:=inClass (top 4) 0
abbrev z3c:Stmt:=inClass (top 5) 0
abbrev z1c:Stmt:=inClass (top 12) 0
abbrev zpc:Stmt:=inClass (top 8) 0
abbrev zoc:Stmt:=inClass (top 16) 0
abbrev zad:Stmt:=inClass (top 7) 0
end LK
namespace LK
open PySem PySem.Spec L2 DL
open PyProof.Rows hiding St
def dd0:He5.DefA:=⟨fun K=>He.ga K "is_number", "is_number", "is_number",defArgs zfd,defBody zfd,defScope zfd,[],[]⟩
def dd1:He5.DefA:=⟨fun K=>He.ga K "is_index", "is_index", "is_index",defArgs zvd,defBody zvd,defScope zvd,[],[]⟩
def dd2:He5.DefA:=⟨fun K=>He.ma K (He.ga K "Block") "__getitem__", "__getitem__", "Block.__getitem__",defArgs zy,defBody zy,defScope zy,[],[]⟩
def dd3:He5.DefA:=⟨fun K=>He.ma K (He.ga K "Block") "__len__", "__len__", "Block.__len__",defArgs zxb,defBody zxb,defScope zxb,[],[]⟩
def dd4:He5.DefA:=⟨fun K=>He.ga K "_law_pick", "_law_pick", "_law_pick",defArgs zjd,defBody zjd,defScope zjd,[],[]⟩
def dd5:He5.DefA:=⟨fun K=>He.ga K "_law_members", "_law_members", "_law_members",defArgs z4b,defBody z4b,defScope z4b,[],[]⟩
def dd6:He5.DefA:=⟨fun K=>He.ga K "_law_parts", "_law_parts", "_law_parts",defArgs z3d,defBody z3d,defScope z3d,[],[]⟩
def dd7:He5.DefA:=⟨fun K=>He.ga K "_law_names", "_law_names", "_law_names",defArgs znc,defBody znc,defScope znc,[],[]⟩
def dd8:He5.DefA:=⟨fun K=>He.ma K (He.ga K "Block") "__str__", "__str__", "Block.__str__",defArgs zvb,defBody zvb,defScope zvb,[],[]⟩
def dd9:He5.DefA:=⟨fun K=>He.ga K "_law_letters", "_law_letters", "_law_letters",defArgs zsb,defBody zsb,defScope zsb,[],[]⟩
def dd10:He5.DefA:=⟨fun K=>He.ga K "_law_fixed", "_law_fixed", "_law_fixed",defArgs z0c,defBody z0c,defScope z0c,[],[]⟩
def dd11:He5.DefA:=⟨fun K=>He.ga K "_law_joined", "_law_joined", "_law_joined",defArgs zlc,defBody zlc,defScope zlc,[],[]⟩
def dd12:He5.DefA:=⟨fun K=>He.ga K "_law_step", "_law_step", "_law_step",defArgs zid,defBody zid,defScope zid,[],[]⟩
def dd13:He5.DefA:=⟨fun K=>He.ga K "_law_wild", "_law_wild", "_law_wild",defArgs zhd,defBody zhd,defScope zhd,[],[]⟩
def dd14:He5.DefA:=⟨fun K=>He.ga K "_law_book", "_law_book", "_law_book",defArgs zkd,defBody zkd,defScope zkd,[],[]⟩
def dd15:He5.DefA:=⟨fun K=>He.ga K "is_line", "is_line", "is_line",defArgs zle,defBody zle,defScope zle,[],[]⟩
def dd16:He5.DefA:=⟨fun K=>He.ma K (He.ga K "Block") "__init__", "__init__", "Block.__init__",defArgs zcb,defBody zcb,defScope zcb,[],[]⟩
def dd17:He5.DefA:=⟨fun K=>He5.wf K (He.ga K "Block") "classmethod" "read", "read", "Block.read",defArgs z2c,defBody z2c,defScope z2c,[],[]⟩
def dd18:He5.DefA:=⟨fun K=>He5.wf K (He.ga K "Block") "property" "lines", "lines", "Block.lines",defArgs zmc,defBody zmc,defScope zmc,[],[]⟩
def dd19:He5.DefA:=⟨fun K=>He.ga K "margin_of", "margin_of", "margin_of",defArgs zed,defBody zed,defScope zed,[],[]⟩
def dd20:He5.DefA:=⟨fun K=>He.ga K "is_tag", "is_tag", "is_tag",defArgs z2e,defBody z2e,defScope z2e,[],[]⟩
def dd21:He5.DefA:=⟨fun K=>He.ga K "line_nodes", "line_nodes", "line_nodes",defArgs zzc,defBody zzc,defScope zzc,[],[]⟩
def dd22:He5.DefA:=⟨fun K=>He.ga K "split_text", "split_text", "split_text",defArgs zyc,defBody zyc,defScope zyc,[],[]⟩
def dd23:He5.DefA:=⟨fun K=>He.ma K (He.ga K "Program") "__init__", "__init__", "Program.__init__",defArgs zq,defBody zq,defScope zq,[.non,.non,.non,.non],[]⟩
def dd24:He5.DefA:=⟨fun K=>He.ga K "fixed", "fixed", "fixed",defArgs zdg,defBody zdg,defScope zdg,[],[]⟩
def dd25:He5.DefA:=⟨fun K=>He.ga K "is_name", "is_name", "is_name",defArgs zje,defBody zje,defScope zje,[],[]⟩
def dd26:He5.DefA:=⟨fun K=>He.ga K "hole", "hole", "hole",defArgs zdj,defBody zdj,defScope zdj,[],[]⟩
def dd27:He5.DefA:=⟨fun K=>He.ga K "all_parts", "all_parts", "all_parts",defArgs zse,defBody zse,defScope zse,[],[]⟩
def dd28:He5.DefA:=⟨fun K=>He.ga K "name_list", "name_list", "name_list",defArgs z5c,defBody z5c,defScope z5c,[],[]⟩
def dd29:He5.DefA:=⟨fun K=>He5.wf K (He.ga K "Program") "property" "row", "row", "Program.row",defArgs zac,defBody zac,defScope zac,[],[]⟩
def dd30:He5.DefA:=⟨fun K=>He.ga K "weight_of", "weight_of", "weight_of",defArgs z4c,defBody z4c,defScope z4c,[],[]⟩
def dd31:He5.DefA:=⟨fun K=>He.ga K "checked", "checked", "checked",defArgs z2d,defBody z2d,defScope z2d,[],[]⟩
def dd32:He5.DefA:=⟨fun K=>He.ga K "each", "each", "each",defArgs zej,defBody zej,defScope zej,[],[]⟩
def dd33:He5.DefA:=⟨fun K=>He.ga K "rows_from", "rows_from", "rows_from",defArgs zdd,defBody zdd,defScope zdd,[],[]⟩
def dd34:He5.DefA:=⟨fun K=>He.ma K (He.ga K "Block") "__add__", "__add__", "Block.__add__",defArgs zyb,defBody zyb,defScope zyb,[],[]⟩
def dd35:He5.DefA:=⟨fun K=>He.ga K "sum_members", "sum_members", "sum_members",defArgs zkc,defBody zkc,defScope zkc,[],[]⟩
def dd36:He5.DefA:=⟨fun K=>He.ga K "summed", "summed", "summed",defArgs zgf,defBody zgf,defScope zgf,[],[]⟩
def dd37:He5.DefA:=⟨fun K=>He.ga K "program_from", "program_from", "program_from",defArgs z1b,defBody z1b,defScope z1b,[],[]⟩
def dd38:He5.DefA:=⟨fun K=>He.ma K (He.ga K "Program") "__add__", "__add__", "Program.__add__",defArgs zeb,defBody zeb,defScope zeb,[],[]⟩
def dd39:He5.DefA:=⟨fun K=>He.ga K "is_amount", "is_amount", "is_amount",defArgs zgd,defBody zgd,defScope zgd,[],[]⟩
def dd40:He5.DefA:=⟨fun K=>He.ga K "moved_blocks", "moved", "moved",defArgs z2b,defBody z2b,defScope z2b,[],[]⟩
def dd41:He5.DefA:=⟨fun K=>He.ma K (He.ga K "Block") "__rshift__", "__rshift__", "Block.__rshift__",defArgs zx,defBody zx,defScope zx,[],[]⟩
def dd42:He5.DefA:=⟨fun K=>He.ga K "shifted", "shifted", "shifted",defArgs zie,defBody zie,defScope zie,[],[]⟩
def dd43:He5.DefA:=⟨fun K=>He.ma K (He.ga K "Program") "__rshift__", "__rshift__", "Program.__rshift__",defArgs zt,defBody zt,defScope zt,[],[]⟩
def dd44:He5.DefA:=⟨fun K=>He.ga K "shallow_place", "shallow_place", "shallow_place",defArgs zqb,defBody zqb,defScope zqb,[],[]⟩
def dd45:He5.DefA:=⟨fun K=>He.ga K "raised_rows", "raised_rows", "raised_rows",defArgs z9b,defBody z9b,defScope z9b,[],[]⟩
def dd46:He5.DefA:=⟨fun K=>He.ma K (He.ga K "Block") "__lshift__", "__lshift__", "Block.__lshift__",defArgs z6,defBody z6,defScope z6,[],[]⟩
def dd47:He5.DefA:=⟨fun K=>He.ma K (He.ga K "Program") "__lshift__", "__lshift__", "Program.__lshift__",defArgs zu,defBody zu,defScope zu,[],[]⟩
def dd48:He5.DefA:=⟨fun K=>He.ma K (He.ga K "Program") "first", "first", "Program.first",defArgs zub,defBody zub,defScope zub,[],[]⟩
def dd49:He5.DefA:=⟨fun K=>He.ma K (He.ga K "Program") "rest", "rest", "Program.rest",defArgs z5b,defBody z5b,defScope z5b,[],[]⟩
def dd50:He5.DefA:=⟨fun K=>He.ma K (He.ga K "Program") "flush", "flush", "Program.flush",defArgs ztb,defBody ztb,defScope ztb,[],[]⟩
def dd51:He5.DefA:=⟨fun K=>He.ma K (He.ga K "Program") "tagged", "tagged", "Program.tagged",defArgs zib,defBody zib,defScope zib,[],[("hang",.bl true)]⟩
def dd52:He5.DefA:=⟨fun K=>He.ga K "least_margin", "least_margin", "least_margin",defArgs zrb,defBody zrb,defScope zrb,[],[]⟩
def dd53:He5.DefA:=⟨fun K=>He.ga K "flat_rows", "flat_rows", "flat_rows",defArgs z6c,defBody z6c,defScope z6c,[],[]⟩
def dd54:He5.DefA:=⟨fun K=>He.ma K (He.ga K "Block") "__neg__", "__neg__", "Block.__neg__",defArgs zwb,defBody zwb,defScope zwb,[],[]⟩
def dd55:He5.DefA:=⟨fun K=>He.ma K (He.ga K "Program") "__neg__", "__neg__", "Program.__neg__",defArgs zdb,defBody zdb,defScope zdb,[],[]⟩
def dd56:He5.DefA:=⟨fun K=>He.ga K "_law_build", "_law_build", "_law_build",defArgs z4d,defBody z4d,defScope z4d,[],[]⟩
def dd57:He5.DefA:=⟨fun K=>He.ga K "mends_of", "mends_of", "mends_of",defArgs znd,defBody znd,defScope znd,[],[]⟩
def dd58:He5.DefA:=⟨fun K=>He.ga K "is_mend", "is_mend", "is_mend",defArgs zke,defBody zke,defScope zke,[],[]⟩
def dd59:He5.DefA:=⟨fun K=>He.ga K "changed", "changed", "changed",defArgs zme,defBody zme,defScope zme,[],[]⟩
def dd60:He5.DefA:=⟨fun K=>He.ga K "with_members", "with_members", "with_members",defArgs z0b,defBody z0b,defScope z0b,[],[]⟩
def dd61:He5.DefA:=⟨fun K=>He.ga K "behind", "behind", "behind",defArgs z9h,defBody z9h,defScope z9h,[],[]⟩
def dd62:He5.DefA:=⟨fun K=>He.ga K "mended", "mended", "mended",defArgs zhf,defBody zhf,defScope zhf,[],[]⟩
def dd63:He5.DefA:=⟨fun K=>He.ga K "_law_odd", "_law_odd", "_law_odd",defArgs zwd,defBody zwd,defScope zwd,[],[]⟩
def dd64:He5.DefA:=⟨fun K=>He.ga K "_law_refused", "_law_refused", "_law_refused",defArgs z3b,defBody z3b,defScope z3b,[],[]⟩
def dd65:He5.DefA:=⟨fun K=>He.ga K "law", "law", "law",defArgs st_law,defBody st_law,defScope st_law,[],[]⟩
def dd66:He5.DefA:=⟨fun K=>He.ma K (He.ga K "BadAmount") "__init__", "__init__", "BadAmount.__init__",defArgs z6b,defBody z6b,defScope z6b,[],[]⟩
def dd67:He5.DefA:=⟨fun K=>He.ma K (He.ga K "BadEach") "__init__", "__init__", "BadEach.__init__",defArgs ztc,defBody ztc,defScope ztc,[],[]⟩
def dd68:He5.DefA:=⟨fun K=>He.ma K (He.ga K "BadLine") "__init__", "__init__", "BadLine.__init__",defArgs zsc,defBody zsc,defScope zsc,[],[]⟩
def dd69:He5.DefA:=⟨fun K=>He.ma K (He.ga K "BadMend") "__init__", "__init__", "BadMend.__init__",defArgs zrc,defBody zrc,defScope zrc,[],[]⟩
def dd70:He5.DefA:=⟨fun K=>He.ma K (He.ga K "BadName") "__init__", "__init__", "BadName.__init__",defArgs zqc,defBody zqc,defScope zqc,[],[]⟩
def dd71:He5.DefA:=⟨fun K=>He.ma K (He.ga K "BadTag") "__init__", "__init__", "BadTag.__init__",defArgs z3c,defBody z3c,defScope z3c,[],[]⟩
def dd72:He5.DefA:=⟨fun K=>He.ma K (He.ga K "NoLine") "__init__", "__init__", "NoLine.__init__",defArgs z1c,defBody z1c,defScope z1c,[],[]⟩
def dd73:He5.DefA:=⟨fun K=>He.ma K (He.ga K "Shallow") "__init__", "__init__", "Shallow.__init__",defArgs zpc,defBody zpc,defScope zpc,[],[]⟩
def dd74:He5.DefA:=⟨fun K=>He.ma K (He.ga K "TooMany") "__init__", "__init__", "TooMany.__init__",defArgs zoc,defBody zoc,defScope zoc,[],[]⟩
def dd75:He5.DefA:=⟨fun K=>He.ma K (He.ga K "Twice") "__init__", "__init__", "Twice.__init__",defArgs zad,defBody zad,defScope zad,[],[]⟩
def fns0:List He5.DefA:=[dd0,dd2,dd4,dd6,dd8,dd10,dd12,dd14,dd16,dd18,dd20,dd22,dd24,dd26,dd28,dd30,dd32,dd34,dd36,dd38,dd40,dd42,dd44,dd46,dd48,dd50,dd52,dd54,dd56,dd58,dd60,dd62,dd64,dd66,dd68,dd70,dd72,dd74]
def cks0:List (PySem.W.Frag→Bool):=[fGlo "BadAmount",fGlo "BadLine",fGlo "BadName",fGlo "Block",fGlo "NoLine",fGlo "Shallow",fGlo "TooMany",fGlo "_law_book",fGlo "_law_fixed",fGlo "_law_letters",fGlo "_law_names",fGlo "_law_parts",fGlo "_law_refused",fGlo "_law_wild",fGlo "behind",fGlo "checked",fGlo "fixed",fGlo "hole",fGlo "is_index",fGlo "is_mend",fGlo "is_number",fGlo "law",fGlo "line_nodes",fGlo "mended",fGlo "moved_blocks",fGlo "program_from",fGlo "rows_from",fGlo "shifted",fGlo "sum_members",fGlo "weight_of",fInt "MOST_AMOUNT" 20,fInt "MOST_MEND" 4,fInt "MOST_TAG" 8,fInt "MOST_WIDTH" 60,fTupG "TAGS" ["tag", "raw"],fFree "OverflowError",fFree "all",fFree "enumerate",fFree "isinstance",fFree "list",fFree "min",fFree "sorted",fFree "sum",fKeep "_law_book",fKeep "_law_fixed",fKeep "_law_letters",fKeep "_law_names",fKeep "_law_parts",fKeep "_law_refused",fKeep "_law_wild",fKeep "behind",fKeep "checked",fKeep "fixed",fKeep "hole",fKeep "is_index",fKeep "is_mend",fKeep "is_number",fKeep "least_margin",fKeep "margin_of",fKeep "mends_of",fKeep "name_list",fKeep "raised_rows",fKeep "shallow_place",fKeep "split_text",fKeep "summed",fKeep "with_members",fCls "Program",fMkr "Block",fBi "LookupError" "LookupError.__init__",fBop "Block" "__add__" .Add bopTs,fBop "Block" "__rshift__" .RShift bopTs,fBop "Program" "__lshift__" .LShift bopTs,fCat "BadMend",fErr "BadAmount" "value",fErr "BadLine" "value",fErr "BadName" "value",fErr "Shallow" "line",fErrB "LookupError.__new__" zdab "NoLine" "value",fExm "BadMend" zao,fOwn "Block" "__getitem__",fOwn "Block" "__neg__",fOwn "Program" "__neg__",fOwn "Program" "flush",fOwn "Program" "tagged",fProp "Program" "row",fCls "Program",fCls "Program",fCls "Program",fCls "Program",fCls "Program",fCls "Block",fCls "Program",fCls "Program",fCls "Program",fCls "Program",fXis zec [.bt "ValueError"],fTab z6g [.own "Block",.bt "str"],fTab zge [.bt "bool"],fTab zoe [.bt "str"]]
def fns1:List He5.DefA:=[dd1,dd3,dd5,dd7,dd9,dd11,dd13,dd15,dd17,dd19,dd21,dd23,dd25,dd27,dd29,dd31,dd33,dd35,dd37,dd39,dd41,dd43,dd45,dd47,dd49,dd51,dd53,dd55,dd57,dd59,dd61,dd63,dd65,dd67,dd69,dd71,dd73,dd75]
def cks1:List (PySem.W.Frag→Bool):=[fGlo "BadEach",fGlo "BadMend",fGlo "BadTag",fGlo "DROPPED",fGlo "Program",fGlo "TAGS",fGlo "Twice",fGlo "_law_build",fGlo "_law_joined",fGlo "_law_members",fGlo "_law_odd",fGlo "_law_pick",fGlo "_law_step",fGlo "all_parts",fGlo "changed",fGlo "each",fGlo "flat_rows",fGlo "is_amount",fGlo "is_line",fGlo "is_name",fGlo "is_tag",fGlo "least_margin",fGlo "margin_of",fGlo "mends_of",fGlo "name_list",fGlo "raised_rows",fGlo "shallow_place",fGlo "split_text",fGlo "summed",fGlo "with_members",fInt "MOST_LINES" 6,fInt "MOST_PARTS" 16,fInt "MOST_WEIGHT" 3,fTupG "DROPPED" ["in", "out", "first", "rest", "dedent", "flush"],fFree "LookupError",fFree "ValueError",fFree "bool",fFree "int",fFree "len",fFree "max",fFree "range",fFree "str",fFree "tuple",fKeep "_law_build",fKeep "_law_joined",fKeep "_law_members",fKeep "_law_odd",fKeep "_law_pick",fKeep "_law_step",fKeep "all_parts",fKeep "changed",fKeep "each",fKeep "flat_rows",fKeep "is_amount",fKeep "is_line",fKeep "is_name",fKeep "is_tag",fKeep "line_nodes",fKeep "mended",fKeep "moved_blocks",fKeep "program_from",fKeep "rows_from",fKeep "shifted",fKeep "sum_members",fKeep "weight_of",fCls "Block",fRead "Block",fMkr "Program",fBi "OverflowError" "OverflowError.__init__",fBop "Block" "__lshift__" .LShift bopTs,fBop "Program" "__add__" .Add bopTs,fBop "Program" "__rshift__" .RShift bopTs,fCm "Block" "read",fErr "BadEach" "name",fErr "BadMend" "mend",fErr "BadTag" "value",fErr "Twice" "name",fErrB "OverflowError.__new__" z09 "TooMany" "limit",fNoF "BadMend" "mend",fOwn "Block" "__len__",fOwn "Block" "__str__",fOwn "Program" "first",fOwn "Program" "rest",fProp "Block" "lines",fVe,fNoat "Program" "amount",fNoat "Program" "block",fNoat "Program" "cut",fNoat "Program" "members",fNoat "Program" "name",fNoat "Block" "rows",fNoat "Program" "size",fNoat "Program" "spots",fNoat "Program" "tag",fNoat "Program" "word",fTab zbi [.own "Block"],fTab zjh [.own "Program"],fTab zki [.bt "int"],fTab z5g [.bt "tuple"]]
def pts:List Part:=[(cks0,fns0),(cks1,fns1)]
abbrev RR:PySem.W.OpenRow:=PySem.W.OpenLaw.row PySem.Challenge.rw_indentholes_k51_no_mends
def objs:List Addr:=[3,0,4,6,15,16,17,18,19,20,21,29,30,31,32,33,34,35,36,37,38,39,49,50,51,52,53,54,55,56,57,58,59,69,70,71,72,73,74,75,
 76,77,78,79,89,90,91,92,93,94,95,96,97,98,99,109,110,111,112,113,114,115,116,117,118,119,129,130,131,132,133,134,135,136,137,138,139,149,150,151,
 152,153,154,155,156,157,158,159,169,170,171,172,173,174,175,176,177,178,179,189,190,191,192,193,194,195,196,197,198,199,209,210,211,212,213,214,215,216,217,218,
 219,229,230,231,232,233,234,235,236,237,238,239,249,250,251,252,253,254,255,256,257,258,259,269,270,271,272,273,274,275,276,277,278,279,289,290,291,292,293,294,
 295,296,297,298,299,309,310,311,312,313,314,315,316,317,318,319,322,323,324,325,326,327,328,329,330,331,332,333,334,335,336,337,338,339,340,341,342,343,344,345,
 346,347,348,349,350,351,352,353,354,355,356,357,358,359,360,361,362,363,364,365,366,367,368,369,370,371,372,373,374,375,376,377,378,379,380,381,382,383,384,385,
 386,387,388,389,390,391,392,393,394,395,396,397,398,399,400,401,402,403,404,405,406,407,408,409,410,411,412,413,414,415,416,417,418,419,420,421,422,423,424,432,
 433,434,435,436,442,443,444,445,446,452,453,454,455,456,462,463,464,468,469,470,476,477,478,479,480,481,482,483,484,485,486,487,488,489,490,491,492,493,494,495,
 496,497,498,499,500,501,502,503,504,505,506,507,508,509,510,511,512,513,514,515,516,517,518,519,520,521,522,523,524,525,526,527,528,529,530,531,532,533,534,535,
 536,537,538,539,540,541,542,543,544,545,546,547,548,549,550,551,552,553,554,555,556,557,558,559,560,561,562,563,564,565,566,567,568,569,570,571,572,573,574,575,
 576,577,578,579,580,581,582,583,584,585,586,587,588,589,590,591,592,593,594,595,596,597,598,599,600,601,602,603,604,605,606,607,608,609,610,611,612,613,614,615,
 616,617,618,619,620,621,622,623,624,625,626,627,630,631,632,633,634,635,636,637,638,639,640,641,642,643,644,645,646,647,648,649,650,651,652,653,654,655,656,657,
 658,659,660,661,662,663,664,665,666,667,668,669,670,671,672,673,674,675,676,677,678,679,680,681,682,683,684,685,686,687,688,689,690,691,692,693,694,695,696,697,
 698,699,700,701,702,703,704,705,706,707,708,709,710,711,712,713,714,715,716,717,718,719,720,721,722,723,724,725,726,727,728,729,730,731,732,733,734,735,736,737,
 738,739,740,741,742,743,744,745,746,747,748,749,750,751,752,753,754,755,756,757,758,759,760,761,762,763,771,772,773,774,775,776,777,778,779,780,781,782,783,784,
 785,786,787,788,789,790,791,792,793,794,795,796,797,798,799,800,801,802,803,804,805,806,807,808,809,810,811,812,813,814,815,816,817,818,819,820,821,822,823,824,
 825,826,827,828,829,830,831,832,833,834,835,836,837,838,839,840,841,842,843,844,845,846,847,848,849,850,851,852,853,854,855,856,857,858,859,860,861,862,863,864,
 865,866,872,873,874,878,879,880,886,887,888,894,895,896,902,903,904,905,906,907,908,909,912,913,914,915,916,917,918,919,920,921,922,923,924,925,926,927,928,929,
 930,931,932,933,934,935,936,937,938,939,940,941,942,943,944,945,946,947,948,949,950,951,952,953,954,955,956,957,958,959,960,961,962,963,964,965,966,967,968,969,
 970,971,972,973,974,975,976,977,978,979,980,981,982,983,984,985,986,987,988,989,990,991,992,993,994,995,996,997,998,999,1000,1001,1002,1003,1004,1005,1006,1007,1008,1009,
 1010,1011,1012,1013,1014,1015,1016,1017,1018,1019,1020,1021,1022,1023,1024,1025,1026,1027,1028,1029,1030,1031,1032,1033,1034,1035,1036,1037,1038,1039,1040,1041,1042,1043,1044,1045,1046,1047,1048,1049,
 1050,1051,1052,1053,1054,1055,1056,1057,1058,1059,1060,1061,1062,1063,1064,1065,1066,1067,1068,1069,1070,1071,1072,1073,1074,1075,1076,1077,1078,1079,1080,1081,1082,1083,1084,1085,1086,1087,1088,1089,
 1090,1091,1092,1093,1094,1095,1096,1097,1098,1099,1100,1101,1102,1103,1104,1105,1106,1107,1108,1109,1110,1111,1112,1113,1114,1115,1116,1117,1118,1119,1120,1121,1122,1123,1124,1125,1126,1127,1128,1129,
 1130,1131,1132]
abbrev hk:PySem.W.Hook:=zb2 (cStatics::objs) pts
abbrev ob:PySem.W.SharedT→List He.AlD:=obLs (cStatics::objs) pts
theorem ob_eq (s:PySem.W.SharedT):ob s=hk.obs s.abs:=zrgb _ _ s
def loose:List PySem.Str:=(["_wall", "BadLine", "BadAmount", "BadName", "BadTag", "BadEach", "Twice", "Shallow", "NoResult", "BadFilling", "BadMend", "NoLine", "NoPart", "NoHole", "Unfilled", "TooMany", "MOST_AMOUNT", "MOST_TAG", "is_number", "is_index", "is_amount", "is_line", "is_tag", "margin_of", "moved", "moved_blocks", "first_place", "shallow_place", "least_margin", "flat_rows"]:List PySem.Str)++(["raised_rows", "parted_rows", "flushed_rows", "tagged_rows", "place_within", "lies_within", "Block", "rows_from", "line_nodes", "nodes_of", "levels_of", "first_off_level", "is_level", "split_text", "prepared", "prepared_text", "fixed_lines", "hole_lines", "moved_printing", "first_line", "outdented", "tagged_lines", "step_lines", "member_lines", "lines_of", "text_of", "line_text", "is_filling", "TAGS", "MOST_PARTS"]:List PySem.Str)++(["MOST_WEIGHT", "MOST_LINES", "MOST_WIDTH", "Program", "all_parts", "name_list", "weight_of", "checked", "fixed", "is_name", "hole", "each", "program_from", "sum_members", "summed", "shifted", "with_members", "is_row", "given_texts", "MOST_MEND", "DROPPED", "mends_of", "is_mend", "changed", "behind", "mended", "_law_pick", "_law_letters", "_law_book", "_law_build"]:List PySem.Str)++(["_law_members", "_law_parts", "_law_fixed", "_law_step", "_law_joined", "_law_wild", "_law_names", "_law_odd", "_law_refused"]:List PySem.Str)
set_option maxHeartbeats 0 in
theorem runA (w:World):GrpE RR (PySem.W.view RR.prog [108]) 40000 loose (cStatics::objs) [] w:=by
 intro os
 kernel_rfl
set_option maxHeartbeats 0 in
theorem runP0 (w:World):ObsPE RR 40000 (cStatics::objs) [(cks0,fns0)] w:=by
 intro os
 kernel_rfl
set_option maxHeartbeats 0 in
theorem runP1 (w:World):ObsPE RR 40000 (cStatics::objs) [(cks1,fns1)] w:=by
 intro os
 kernel_rfl
theorem run (w:World):HandSHeadRun.RunEq RR (PySem.W.view RR.prog [108]) (zb2 (cStatics::objs) pts) (obLs (cStatics::objs) pts) 40000 loose w:=by
 refine zbjb (as:=cStatics::objs) (ps:=pts) (runA w).look (runA w).seen ?_
 intro p hp
 have hp:p∈[(cks0,fns0),(cks1,fns1)]:=hp
 simp only[List.mem_cons,List.not_mem_nil,or_false] at hp
 rcases hp with rfl |rfl
 ·exact (runP0 w).obs _ List.mem_cons_self
 ·exact (runP1 w).obs _ List.mem_cons_self
end LK
open PySem PySem.W PySem.Calls PyProof.Rows in
/-- the look at the law and the head, for any reading of the law's own def -/
theorem LK.early {R:DL.DF} (ht:∀ns:List Int,ns.length≤63→∃m',R [.d (.fz (ns.map DL.D.int))] [.hp []] = .ok (.d (.bl true)) m')
  (hf:∀{K:DL.Fg} {h:Heap} {mg:PySem.Str→Option Value},K.In h→h.Ns mainGlobals mg→(∀p∈LK.pts,DL.SaysM p.1 p.2 K)→mg ("law" : PySem.Str)=some (.ref (He.ga K "law"))∧∀(w:World) (base:Heap),DL.FnD (PySem.Challenge.rw_indentholes_k51_no_mends).prog w K mg base 153 (He.ga K "law") R):PySem.Challenge.rw_indentholes_k51_no_mends.Holds:=by
 w_on;o_law
 refine HandSHeadRun.head_any (r:=OpenLaw.row PySem.Challenge.rw_indentholes_k51_no_mends) (q:=view (OpenLaw.row PySem.Challenge.rw_indentholes_k51_no_mends).prog [108]) (H:=LK.hk) (ob:=LK.ob) (M:=40000) (loose:=LK.loose) (d:=HandSHeadRun.topDef (OpenLaw.row PySem.Challenge.rw_indentholes_k51_no_mends).prog 108) (kwd:=[]) LK.ob_eq
  (by kernel_rfl) (fun s=>by kernel_rfl) LK.run (by kernel_rfl) (by kernel_rfl) (by kernel_rfl) (by rfl) (by first |assumption |decide +kernel) (by decide +kernel) ⟨rfl,rfl,rfl,rfl,rfl,by decide +kernel⟩ ?hw ?hc
 case hw=>w_witness2
 case hc=>
  refine DL.ztcb (l:=PySem.Challenge.rw_indentholes_k51_no_mends) (n:=63) (k:=153) (R:=R) rfl (by decide) (by kernel_rfl) ⟨rfl,by decide,by decide⟩ ht ?F
  intro w mg fa h Y G hmg0
  obtain⟨K,KX,c⟩:=Y
  have hmg:mg ("law" : PySem.Str)=some (.ref fa):=by
   have e:(HandSHeadRun.topDef (OpenLaw.row PySem.Challenge.rw_indentholes_k51_no_mends).prog 108).name=("law" : PySem.Str):=by kernel_rfl
   rw[←e]
   exact hmg0
  obtain⟨g,f⟩:=hf KX G c
  have e:=hmg.symm.trans g
  cases e
  exact⟨K,KX,fun base=>f w base⟩
set_option Elab.async false
set_option linter.all false
set_option maxRecDepth 100000
set_option maxHeartbeats 4000000
namespace DL
open PySem PySem.Spec L2
open Evl (Ex)
def HC.cell:HC→Cell
 |.lst ws=>.lst (ws.map HW.toD)
 |.obj C ns ws=>.obj C ns (ws.map HW.toD)
 |.dic ks ws=>.dic ks (ws.map HW.toD)
 |.tup _=>.zd .opq
theorem HC.cell_toD:∀h:HC,h.cell.toD=h.toD
 |.lst _=>rfl
 |.obj _ _ _=>rfl
 |.dic _ _=>rfl
 |.tup _=>rfl
section
variable {K:Fg} {H H':Hp}
theorem RpL.getV:∀{vs:List V} {ds:List D} {i:Nat} {v:V},RpL K H vs ds→vs[i]?=some v→∃d,ds[i]?=some d∧Rp K H v d
 |_,_,_,_,.nil,e=>by simp at e
 |_,_,0,_,.cons r _,e=>by simp at e;subst e;exact⟨_,rfl,r⟩
 |_,_,i+1,d,.cons _ t,e=>by
  obtain⟨u,h1,h2⟩:=RpL.getV (i:=i) (v:=d) t (by simpa using e)
  exact⟨u,by simpa using h1,h2⟩
theorem RpL.of_strs:∀{vs:List V} {xs:List Str},RpL K H vs (xs.map D.str)→vs=xs.map V.str
 |_,[],h=>by cases h;rfl
 |_,x::xs,h=>by
  cases h with
  |cons a b=>
   cases a
   rw[RpL.of_strs b] <;> rfl
theorem RpL.of_ints:∀{vs:List V} {xs:List Int},RpL K H vs (xs.map D.int)→vs=xs.map V.int
 |_,[],h=>by cases h;rfl
 |_,x::xs,h=>by
  cases h with
  |cons a b=>
   cases a
   rw[RpL.of_ints b] <;> rfl
theorem RpL.of_bls:∀{vs:List V} {xs:List Bool},RpL K H vs (xs.map D.bl)→vs=xs.map V.bl
 |_,[],h=>by cases h;rfl
 |_,x::xs,h=>by
  cases h with
  |cons a b=>
   cases a
   rw[RpL.of_bls b] <;> rfl
end
structure Le0 (g g':Gh0):Prop where
 pre:g.al <+: g'.al
 pn:g'.pn=g.pn
def AA.push (g:AA) (q:Addr):AA:=⟨g.fl++[q],g.ha⟩
def AA.hpush (g:AA) (q:Addr):AA:=⟨g.fl,g.ha++[q]⟩
def Gh.push (g:Gh) (q:Addr):Gh:=⟨g.al.push q,g.pn⟩
def Gh.hpush (g:Gh) (q:Addr):Gh:=⟨g.al.hpush q,g.pn⟩
/-- the old cells, the new heap -/
def Gh.up (g g':Gh):Gh:=⟨⟨g.al.fl,g'.al.ha⟩,g.pn⟩
theorem zkb (g:Gh):Le g g:=⟨AA.refl _,rfl⟩
theorem Le.push (g:Gh) (q:Addr):Le g (g.push q):=⟨⟨⟨[q],rfl⟩,List.prefix_refl _⟩,rfl⟩
theorem Le.hpush (g:Gh) (q:Addr):Le g (g.hpush q):=⟨⟨List.prefix_refl _,⟨[q],rfl⟩⟩,rfl⟩
theorem Le.up {g g':Gh} (l:Le g g'):Le g (g.up g'):=⟨⟨List.prefix_refl _,l.pre.hpre⟩,rfl⟩
theorem Le.l0 {g g':Gh} (l:Le g g'):Le0 g.g0 g'.g0:=⟨l.pre.pre,l.pn⟩
section
variable {K:Fg} {H1 H1' H H':Hp} {al al':Gh} {m:Mem}
theorem zw9 {al al':Gh} (p:Le al al') {k:Nat} {a:Addr} (h:al.al.fl[k]?=some a):al'.al.fl[k]?=some a:=by
 obtain⟨r,e⟩:=p.pre.pre
 rw[←e,List.getElem?_append_left (List.getElem?_eq_some_iff.mp h).1]
 exact h
theorem RpE.monoP (e:Ex H1 H1') (p:AA.le al.al al'.al) {σ : St} {dl:Env} (h:RpE K H1 al σ dl):RpE K H1' al' σ dl:=
 ⟨h.len,fun i w q=>let ⟨v,a,b⟩:=h.at_ i w q;⟨v,a,b.monoP e p⟩⟩
theorem CellAt.there {a:Addr}:∀{c:Cell},CellAt K H1 H a c→(∀hs,c ≠ .hp hs)→∃o,H a=some o
 |.lst _,⟨_,h,_⟩,_=>⟨_,h⟩
 |.obj _ _ _,⟨_,_,h,_,_⟩,_=>⟨_,h⟩
 |.zd _,⟨h,_⟩,_=>h
 |.dic _ _,⟨_,h,_,_⟩,_=>⟨_,h⟩
 |.dn _ _,⟨_,h,_,_⟩,_=>⟨_,h⟩
 |.dt _ _,⟨_,h,_⟩,_=>⟨_,h⟩
 |.hp _,_,n=>absurd rfl (n _)
theorem CellAt.thereL {a:Addr} {c:Cell} (h:CellAt K H1 H a c) (l:c.live=true):∃o,H a=some o:=h.there fun hs e=>by subst e;cases l
theorem zucb {l:List Addr} {a:Addr} (h:a∈l.tail):∃i,0<i∧l[i]?=some a:=by
 obtain⟨k,hk⟩:=List.getElem?_of_mem h
 cases l with
 |nil=>simp at hk
 |cons x l=>exact⟨k+1,Nat.succ_pos _,hk⟩
theorem z3o {l r:List Addr} (h:0<l.length):(l++r).tail=l.tail++r:=by
 cases l with
 |nil=>cases h
 |cons x l=>rfl
section
variable {al al':Gh0}
/-- a live cell as data -/
theorem z4bb {a:Addr} {o:HO} {c:Cell} (e1:Ex H1 (upd H1 a o)) (ho:H a=some o) (hlv:c.live=true) (q:CellAt K H1 H a c):Rp K (upd H1 a o) (.ref a) c.fz:=by
 cases c with
 |lst ds=>
  obtain⟨vs,h1,h2⟩:=q
  rw[ho] at h1
  cases h1
  exact .lst upd_same (h2.mono e1)
 |obj C ns ds=>
  obtain⟨dx,fs,h1,h2,h3⟩:=q
  rw[ho] at h1
  cases h1
  exact .obj upd_same h2 (h3.mono e1)
 |dic ks ds=>exact .opq
 |dn ks ds=>exact .opq
 |dt ks ds=>exact .opq
 |zd x=>cases hlv
 |hp x=>cases hlv
theorem Rel0.pos (r:Rel0 K H1 H al m):0<al.al.length:=by
 obtain⟨hs,rest,e⟩:=r.hp0
 rw[r.len,e]
 exact Nat.succ_pos _
theorem Rel0.nohp (r:Rel0 K H1 H al m) {k:Nat} {c:Cell} (h:m[k]?=some c) (hk:0<k):∀hs,c ≠ .hp hs:=fun hs e=>by
 subst e
 have:=r.only k hs h
 omega
theorem Rel0.mem (r:Rel0 K H1 H al m) {a:Addr} (h:a∈al.al.tail):∃o,H a=some o:=by
 obtain⟨k,hp,hk⟩:=zucb h
 obtain⟨c,hc,q⟩:=r.at_ hk
 exact q.there (r.nohp hc hp)
/-- a new object is made -/
theorem Rel0.new (r:Rel0 K H1 H al m) {p:Addr} {o:HO} (hp:H p=none):Rel0 K (upd H1 p o) (upd H p o) al m:=by
 have hp1:H1 p=none:=Evl.fresh_back r.ex hp
 have e1:Ex H1 (upd H1 p o):=Evl.Ex.new hp1
 refine⟨fun a u h=>?_,r.len,r.nd,fun k a c h1 h2 hl=>?_,fun k a c h1 h2=>?_,fun q hq=>?_,r.hp0,r.only,r.pnd⟩
 ·by_cases e:a=p
  ·subst e
   rw[upd_same] at h ⊢
   exact h
  ·rw[upd_ne e] at h ⊢
   exact r.ex a u h
 ·obtain⟨u,hu⟩:=(r.cells k a c h1 h2).thereL hl
  rw[upd_ne (ne_of_none hu hp)]
  exact r.fr k a c h1 h2 hl
 ·exact (r.cells k a c h1 h2).mono e1 fun u hu=>by rw[upd_ne (ne_of_none hu hp)];exact hu
 ·obtain⟨q1,q2,q3⟩:=r.pin q hq
  have ne:=ne_of_none q1 hp
  exact⟨by rw[upd_ne ne];exact q1,by rw[upd_ne ne];exact q2,q3⟩
theorem Rel0.fresh1 (r:Rel0 K H1 H al m) {p:Addr} (hp:H p=none):H1 p=none:=Evl.fresh_back r.ex hp
/-- .. that is untracked by the data -/
theorem Rel0.grow (r:Rel0 K H1 H al m) (e:Ex H H'):Rel0 K H1 H' al m:=
 ⟨r.ex.trans e,r.len,r.nd,r.fr,fun k a c h1 h2=>(r.cells k a c h1 h2).mono (Ex.refl _) fun u hu=>e a u hu,fun q hq=>let ⟨q1,q2,q3⟩:=r.pin q hq;⟨e _ _ q1,q2,q3⟩,r.hp0,r.only,r.pnd⟩
theorem zzy {l:List Addr} {p:Addr} (h:l.Nodup) (hp:p ∉ l):(l++[p]).Nodup:=by
 rw[List.nodup_append]
 refine⟨h,by simp,fun a ha b hb=>?_⟩
 rw[List.mem_singleton] at hb
 subst hb
 intro e
 subst e
 exact hp ha
theorem zd9 {l:List Addr} {m:Mem} (hlen:l.length=m.length) {p a:Addr} {c c':Cell} {k:Nat} (h1:(l++[p])[k]?=some a) (h2:(m++[c])[k]?=some c'):(l[k]?=some a∧m[k]?=some c')∨(k=m.length∧a=p∧c'=c):=by
 by_cases hk:k<l.length
 ·rw[List.getElem?_append_left hk] at h1
  rw[List.getElem?_append_left (by rw[←hlen];exact hk)] at h2
  exact .inl ⟨h1,h2⟩
 ·rw[List.getElem?_append_right (Nat.le_of_not_lt hk)] at h1
  rw[List.getElem?_append_right (by rw[←hlen];exact Nat.le_of_not_lt hk)] at h2
  have e:k-l.length=0:=by
   have q:=(List.getElem?_eq_some_iff.mp h1).1
   simp at q
   omega
  rw[e] at h1
  rw[←hlen,e] at h2
  simp at h1 h2
  exact .inr ⟨by omega,h1.symm,h2.symm⟩
theorem zc9 {m:Mem} {c:Cell} (o:∀(k:Nat) (hs:List HC),m[k]?=some (.hp hs)→k=0) (n:∀hs,c ≠ .hp hs) (k:Nat) (hs:List HC) (h:(m++[c])[k]?=some (.hp hs)):k=0:=by
 by_cases hk:k<m.length
 ·rw[List.getElem?_append_left hk] at h
  exact o k hs h
 ·rw[List.getElem?_append_right (Nat.le_of_not_lt hk)] at h
  have e:k-m.length=0:=by
   have q:=(List.getElem?_eq_some_iff.mp h).1
   simp at q
   omega
  rw[e] at h
  simp at h
  exact absurd h (n hs)
theorem zhkb {m n:Mem} (h:∃hs rest,m = .hp hs::rest):∃hs rest,m++n = .hp hs::rest:=by
 obtain⟨hs,rest,rfl⟩:=h
 exact⟨hs,rest++n,rfl⟩
/-- a new cell -/
theorem Rel0.cell (r:Rel0 K H1 H al m) {p:Addr} {o:HO} {c:Cell} (hp:H p=none) (hc:CellAt K H1 (upd H p o) p c) (nh:∀hs,c ≠ .hp hs):Rel0 K H1 (upd H p o) (⟨al.al++[p],al.pn⟩:Gh0) (m++[c]):=by
 have hn:p ∉ al.al.tail:=fun h=>by
  obtain⟨u,hu⟩:=r.mem h
  rw[hp] at hu
  cases hu
 refine⟨fun a u h=>?_,by rw[List.length_append,List.length_append,r.len] <;> rfl,by show (al.al++[p]).tail.Nodup;rw[z3o r.pos];exact zzy r.nd hn,fun k a c' h1 h2 hl=>?_,fun k a c' h1 h2=>?_,fun q hq=>?_,zhkb r.hp0,zc9 r.only nh,r.pnd⟩
 ·rw[upd_ne (ne_of_none (r.ex a u h) hp)]
  exact r.ex a u h
 ·rcases zd9 r.len h1 h2 with ⟨h1,h2⟩ |⟨_,rfl,rfl⟩
  ·exact r.fr k a c' h1 h2 hl
  ·exact r.fresh1 hp
 ·rcases zd9 r.len h1 h2 with ⟨h1,h2⟩ |⟨_,rfl,rfl⟩
  ·exact (r.cells k a c' h1 h2).mono (Ex.refl _) fun u hu=>by rw[upd_ne (ne_of_none hu hp)];exact hu
  ·exact hc
 ·obtain⟨q1,q2,q3⟩:=r.pin q hq
  have ne:=ne_of_none q1 hp
  refine⟨by rw[upd_ne ne];exact q1,q2,fun z=>?_⟩
  replace z:q.1∈(al.al++[p]).tail:=z
  rw[z3o r.pos] at z
  rcases List.mem_append.mp z with z |z
  ·exact q3 z
  ·exact ne (List.mem_singleton.mp z)
theorem zihb {m:Mem} (h:∃hs rest,m = .hp hs::rest) {n:Nat} (hn:0<n):∃hs rest,m.take n = .hp hs::rest:=by
 obtain⟨hs,rest,rfl⟩:=h
 cases n with
 |zero=>cases hn
 |succ n=>exact⟨hs,rest.take n,rfl⟩
theorem zz8 {m:Mem} {n:Nat} (o:∀(k:Nat) (hs:List HC),m[k]?=some (.hp hs)→k=0) (k:Nat) (hs:List HC) (h:(m.take n)[k]?=some (.hp hs)):k=0:=by
 have hk:=(List.getElem?_eq_some_iff.mp h).1
 rw[List.length_take] at hk
 rw[List.getElem?_take_of_lt (by omega)] at h
 exact o k hs h
/-- cells are forgotten -/
theorem Rel0.cut (r:Rel0 K H1 H al' m) (p:Le0 al al') (hn:0<al.al.length):Rel0 K H1 H al (m.take al.al.length):=by
 obtain⟨⟨rest,e⟩,e2⟩:=p
 have nd:=r.nd
 have ln:=r.len
 rw[←e] at nd ln
 rw[z3o hn] at nd
 have sub:∀a,a∈al.al.tail→a∈al'.al.tail:=fun a ha=>by rw[←e,z3o hn];exact List.mem_append_left _ ha
 refine⟨r.ex,?_,(List.nodup_append.mp nd).1,fun k a c h1 h2 hl=>?_,fun k a c h1 h2=>?_,fun q hq=>?_,zihb r.hp0 hn,zz8 r.only,by rw[←e2];exact r.pnd⟩
 ·rw[List.length_take,←ln,List.length_append]
  omega
 ·have hk:=(List.getElem?_eq_some_iff.mp h1).1
  rw[List.getElem?_take_of_lt hk] at h2
  exact r.fr k a c (by rw[←e,List.getElem?_append_left hk];exact h1) h2 hl
 ·have hk:=(List.getElem?_eq_some_iff.mp h1).1
  rw[List.getElem?_take_of_lt hk] at h2
  exact r.cells k a c (by rw[←e,List.getElem?_append_left hk];exact h1) h2
 ·obtain⟨q1,q2,q3⟩:=r.pin q (by rw[e2];exact hq)
  exact⟨q1,q2,fun z=>q3 (sub _ z)⟩
/-- a cell becomes data -/
theorem Rel0.freeze (r:Rel0 K H1 H al' m) (p:Le0 al al') (hn:0<al.al.length) {k:Nat} {a:Addr} {c:Cell} (hk:al'.al[k]?=some a) (hl:al.al.length≤k) (hc:m[k]?=some c) :
  ∃H1',Ex H1 H1'∧(∀b,H1' b=H1 b∨b=a)∧Rel0 K H1' H al (m.take al.al.length)∧Rp K H1' (.ref a) c.fz:=by
 have q:=r.cells k a c hk hc
 cases hlv:c.live with
 |false=>
  cases c with
  |zd x=>exact⟨H1,Ex.refl _,fun _=>.inl rfl,r.cut p hn,q.2⟩
  |hp x=>exact⟨H1,Ex.refl _,fun _=>.inl rfl,r.cut p hn,.opq⟩
  |lst _=>cases hlv
  |obj _ _ _=>cases hlv
  |dic _ _=>cases hlv
  |dn _ _=>cases hlv
  |dt _ _=>cases hlv
 |true=>
 obtain⟨o,ho⟩:=q.thereL hlv
 have e1:Ex H1 (upd H1 a o):=Evl.Ex.new (r.fr k a c hk hc hlv)
 have r0:=r.cut p hn
 refine⟨upd H1 a o,e1,fun b=>if h:b=a then .inr h else .inl (upd_ne h),⟨fun b u h=>?_,r0.len,r0.nd,fun j b c' hj hc' hl'=>?_,fun j b c' h1 h2=>(r0.cells j b c' h1 h2).mono e1 fun _ z=>z,fun q hq=>?_,r0.hp0,r0.only,r0.pnd⟩,?_⟩
 ·by_cases e:b=a
  ·subst e
   rw[upd_same] at h
   rw[←h]
   exact ho
  ·rw[upd_ne e] at h
   exact r.ex b u h
 ·rw[upd_ne]
  ·exact r0.fr j b c' hj hc' hl'
  ·rintro rfl
   have hj2:=(List.getElem?_eq_some_iff.mp hj).1
   have:=zsz r.nd (by omega) (DL.nohp r0.hp0 hc' hl') hk (z6z p.pre hj)
   omega
 ·obtain⟨q1,q2,q3⟩:=r.pin q (by rw[p.pn];exact hq)
  have ne:q.1≠a:=fun e=>q3 (by rw[e];exact zxi (by omega) hk)
  exact⟨q1,by rw[upd_ne ne];exact q2,(r0.pin q hq).2.2⟩
 ·exact z4bb e1 ho hlv q
/-- a cell becomes data where it stands -/
theorem Rel0.kill (r:Rel0 K H1 H al m) {k:Nat} {a:Addr} {c:Cell} (hk:al.al[k]?=some a) (hc:m[k]?=some c) (hlv:c.live=true) :
  ∃H1',Ex H1 H1'∧(∀b,H1' b=H1 b∨b=a)∧Rel0 K H1' H al (m.set k (.zd c.fz))∧Rp K H1' (.ref a) c.fz:=by
 have q:=r.cells k a c hk hc
 have kp:=DL.nohp r.hp0 hc hlv
 obtain⟨o,ho⟩:=q.thereL hlv
 have e1:Ex H1 (upd H1 a o):=Evl.Ex.new (r.fr k a c hk hc hlv)
 have hrp:Rp K (upd H1 a o) (.ref a) c.fz:=z4bb e1 ho hlv q
 have ne:∀{j:Nat} {b:Addr},k≠j→0<j→al.al[j]?=some b→b≠a:=fun hj jp h1 e=>by
  subst e
  exact hj (zsz r.nd kp jp hk h1)
 refine⟨upd H1 a o,e1,fun b=>if h:b=a then .inr h else .inl (upd_ne h),⟨fun b u h=>?_,by rw[List.length_set];exact r.len,r.nd,fun j b c' h1 h2 hl=>?_,fun j b c' h1 h2=>?_,fun q hq=>?_,zlfb r.hp0 kp _,z05 r.only (fun _ z=>by cases z),r.pnd⟩,hrp⟩
 ·by_cases e:b=a
  ·subst e
   rw[upd_same] at h
   rw[←h]
   exact ho
  ·rw[upd_ne e] at h
   exact r.ex b u h
 ·by_cases hj:k=j
  ·subst hj
   have hl2:k<m.length:=(List.getElem?_eq_some_iff.mp hc).1
   rw[List.getElem?_set_self hl2] at h2
   cases h2
   cases hl
  ·rw[List.getElem?_set_ne hj] at h2
   rw[upd_ne (ne hj (DL.nohp r.hp0 h2 hl) h1)]
   exact r.fr j b c' h1 h2 hl
 ·by_cases hj:k=j
  ·subst hj
   have hl2:k<m.length:=(List.getElem?_eq_some_iff.mp hc).1
   rw[List.getElem?_set_self hl2] at h2
   cases h2
   rw[hk] at h1
   cases h1
   exact⟨⟨o,ho⟩,hrp⟩
  ·rw[List.getElem?_set_ne hj] at h2
   exact (r.cells j b c' h1 h2).mono e1 fun _ z=>z
 ·obtain⟨q1,q2,q3⟩:=r.pin q hq
  have ne:q.1≠a:=fun e=>q3 (by rw[e];exact zxi kp hk)
  exact⟨q1,by rw[upd_ne ne];exact q2,q3⟩
/-- a list under construction -/
theorem Rel0.pinNew (r:Rel0 K H1 H al m) {p:Addr} {o:HO} (hp:H p=none):Rel0 K H1 (upd H p o) ⟨al.al,(p,o)::al.pn⟩ m:=by
 have g:=r.grow (Evl.Ex.new (o:=o) hp)
 refine⟨g.ex,g.len,g.nd,g.fr,g.cells,fun q hq=>?_,g.hp0,g.only,?_⟩
 ·rcases List.mem_cons.mp hq with e |hq
  ·subst e
   refine⟨upd_same,r.fresh1 hp,fun z=>?_⟩
   obtain⟨u,hu⟩:=r.mem z
   rw[hp] at hu
   cases hu
  ·exact g.pin q hq
 ·show (p::al.pn.map (·.1)).Nodup
  refine List.nodup_cons.mpr ⟨fun z=>?_,r.pnd⟩
  obtain⟨q,hq,e⟩:=List.mem_map.mp z
  have q1:=(r.pin q hq).1
  rw[e,hp] at q1
  cases q1
theorem Rel0.zero (r:Rel0 K H1 H al m) {c:Cell} (h:m[0]?=some c):CellAt K H1 H' a c:=by
 obtain⟨hs,rest,e⟩:=r.hp0
 rw[e] at h
 cases h
 trivial
theorem Rel0.pinPut {pn:List (Addr × HO)} {aa:List Addr} {p:Addr} {o o':HO} (r:Rel0 K H1 H ⟨aa,(p,o)::pn⟩ m):Rel0 K H1 (upd H p o') ⟨aa,(p,o')::pn⟩ m:=by
 obtain⟨p1,p2,p3⟩:=r.pin (p,o) List.mem_cons_self
 have nd:(p::pn.map (·.1)).Nodup:=r.pnd
 refine⟨fun a u h=>?_,r.len,r.nd,r.fr,fun k a c h1 h2=>?_,fun q hq=>?_,r.hp0,r.only,nd⟩
 ·rw[upd_ne (fun e=>by rw[e,p2] at h;cases h)]
  exact r.ex a u h
 ·by_cases hz:k=0
  ·subst hz
   exact r.zero h2
  ·refine (r.cells k a c h1 h2).mono (Ex.refl _) fun u hu=>?_
   rw[upd_ne (fun e=>p3 (by rw[←e];exact zxi (Nat.pos_of_ne_zero hz) h1))]
   exact hu
 ·rcases List.mem_cons.mp hq with e |hq
  ·subst e
   exact⟨upd_same,p2,p3⟩
  ·obtain⟨q1,q2,q3⟩:=r.pin q (List.mem_cons_of_mem _ hq)
   refine⟨?_,q2,q3⟩
   rw[upd_ne]
   ·exact q1
   ·intro e
    exact (List.nodup_cons.mp nd).1 (by rw[←e];exact List.mem_map_of_mem hq)
theorem Rel0.pinEnd {pn:List (Addr × HO)} {aa:List Addr} {p:Addr} {o:HO} (r:Rel0 K H1 H ⟨aa,(p,o)::pn⟩ m):Ex H1 (upd H1 p o)∧Rel0 K (upd H1 p o) H ⟨aa,pn⟩ m:=by
 obtain⟨p1,p2,p3⟩:=r.pin (p,o) List.mem_cons_self
 have nd:(p::pn.map (·.1)).Nodup:=r.pnd
 have e1:Ex H1 (upd H1 p o):=Evl.Ex.new p2
 refine⟨e1,⟨fun a u h=>?_,r.len,r.nd,fun k a c h1 h2 hl=>?_,fun k a c h1 h2=>(r.cells k a c h1 h2).mono e1 fun _ z=>z,fun q hq=>?_,r.hp0,r.only,(List.nodup_cons.mp nd).2⟩⟩
 ·by_cases e:a=p
  ·subst e
   rw[upd_same] at h
   rw[←h]
   exact p1
  ·rw[upd_ne e] at h
   exact r.ex a u h
 ·rw[upd_ne (fun e=>p3 (by rw[←e];exact zxi (DL.nohp r.hp0 h2 hl) h1))]
  exact r.fr k a c h1 h2 hl
 ·obtain⟨q1,q2,q3⟩:=r.pin q (List.mem_cons_of_mem _ hq)
  refine⟨q1,?_,q3⟩
  rw[upd_ne]
  ·exact q2
  ·intro e
   exact (List.nodup_cons.mp nd).1 (by rw[←e];exact List.mem_map_of_mem hq)
end
theorem RpHs.ofD {ha:List Addr}:∀{vs:List V} {ds:List D},RpL K H1 vs ds→RpHs K H1 ha vs (ds.map HW.d)
 |_,_,.nil=>.nil
 |_,_,.cons (d:=x) h r=>.cons (w:=.d x) h (RpHs.ofD r)
theorem HAt.there {ha:List Addr} {a:Addr}:∀{c:HC},HAt K H1 ha H a c→∃o,H a=some o
 |.lst _,⟨_,h,_⟩=>⟨_,h⟩
 |.obj _ _ _,⟨_,_,h,_,_⟩=>⟨_,h⟩
 |.dic _ _,⟨_,h,_,_⟩=>⟨_,h⟩
 |.tup _,⟨_,h,_⟩=>⟨_,h⟩
theorem HAt.cell {ha:List Addr} {a:Addr}:∀{c:HC},HAt K H1 ha H a c→CellAt K H1 H a c.cell
 |.lst _,⟨vs,h,r⟩=>⟨vs,h,r.toD⟩
 |.obj _ _ _,⟨dx,fs,h,n,r⟩=>⟨dx,fs,h,n,r.toD⟩
 |.dic _ _,⟨kvs,h,n,r⟩=>⟨kvs,h,n,r.toD⟩
 |.tup _,⟨vs,h,r⟩=>⟨⟨_,h⟩,.opq⟩
theorem Rel.hat (r:Rel K H1 H al m) {i:Nat} {a:Addr} (h:al.al.ha[i]?=some a):∃c,(heapOf m)[i]?=some c∧HAt K H1 al.al.ha H a c:=by
 have hl:i<(heapOf m).length:=by
  rw[←r.hlen]
  exact (List.getElem?_eq_some_iff.mp h).1
 exact⟨(heapOf m)[i],List.getElem?_eq_getElem hl,r.hcells i a _ h (List.getElem?_eq_getElem hl)⟩
theorem Rel.hmem (r:Rel K H1 H al m) {a:Addr} (h:a∈al.al.ha):∃o,H a=some o:=by
 obtain⟨k,hk⟩:=List.getElem?_of_mem h
 obtain⟨c,_,q⟩:=r.hat hk
 exact q.there
theorem Rel.fresh1 (r:Rel K H1 H al m) {p:Addr} (hp:H p=none):H1 p=none:=r.b.fresh1 hp
theorem Rel.mem (r:Rel K H1 H al m) {a:Addr} (h:a∈al.al.fl.tail):∃o,H a=some o:=r.b.mem h
/-- a new object is made -/
theorem Rel.new (r:Rel K H1 H al m) {p:Addr} {o:HO} (hp:H p=none):Rel K (upd H1 p o) (upd H p o) al m:=
 ⟨r.b.new hp,r.hpin,r.hlen,r.hnd,fun a h=>by
  obtain⟨u,hu⟩:=r.hmem h
  rw[upd_ne (ne_of_none hu hp)]
  exact r.hfr a h,fun i a h h1 h2=>by
  obtain⟨u,hu⟩:=(r.hcells i a h h1 h2).there
  exact (r.hcells i a h h1 h2).mono (Evl.Ex.new (r.fresh1 hp)) (List.prefix_refl _) fun u hu=>by rw[upd_ne (ne_of_none hu hp)];exact hu⟩
theorem Rel.grow (r:Rel K H1 H al m) (e:Ex H H'):Rel K H1 H' al m:=
 ⟨r.b.grow e,r.hpin,r.hlen,r.hnd,r.hfr,fun i a h h1 h2=>(r.hcells i a h h1 h2).mono (Ex.refl _) (List.prefix_refl _) fun u hu=>e a u hu⟩
theorem z9y {m n:Mem} (h:∃hs rest,m = .hp hs::rest):heapOf (m++n)=heapOf m:=by
 obtain⟨hs,rest,rfl⟩:=h
 rfl
theorem zk4 {m:Mem} (h:∃hs rest,m = .hp hs::rest) {n:Nat} (hn:0<n):heapOf (m.take n)=heapOf m∧∃hs rest,m.take n = .hp hs::rest:=by
 obtain⟨hs,rest,rfl⟩:=h
 cases n with
 |zero=>cases hn
 |succ n=>exact⟨rfl,hs,rest.take n,rfl⟩
/-- a new cell -/
theorem Rel.cell (r:Rel K H1 H al m) {p:Addr} {o:HO} {c:Cell} (hp:H p=none) (hc:CellAt K H1 (upd H p o) p c) (nh:∀hs,c ≠ .hp hs:=by intro _ z;cases z):Rel K H1 (upd H p o) (al.push p) (m++[c]):=by
 have hh:=r.hp
 refine⟨r.b.cell hp hc nh,r.hpin,by rw[z9y hh];exact r.hlen,r.hnd,fun a h=>⟨(r.hfr a h).1,fun z=>?_⟩,fun i a h h1 h2=>?_⟩
 ·obtain⟨u,hu⟩:=r.hmem h
  replace z:a∈(al.al.fl++[p]).tail:=z
  rw[z3o (show 0<al.al.fl.length from r.b.pos)] at z
  rcases List.mem_append.mp z with z |z
  ·exact (r.hfr a h).2 z
  ·exact ne_of_none hu hp (List.mem_singleton.mp z)
 ·rw[z9y hh] at h2
  exact (r.hcells i a h h1 h2).mono (Ex.refl _) (List.prefix_refl _) fun u hu=>by rw[upd_ne (ne_of_none hu hp)];exact hu
/-- cells are forgotten -/
theorem Rel.cut (r:Rel K H1 H al' m) (p:Le al al') (hn:0<al.al.fl.length):Rel K H1 H (al.up al') (m.take al.al.fl.length):=by
 obtain⟨e1,e2⟩:=zk4 r.hp hn
 have b:=r.b.cut p.l0 hn
 refine⟨b,fun q hq=>r.hpin q (by rw[p.pn];exact hq),by rw[e1];exact r.hlen,r.hnd,fun a h=>⟨(r.hfr a h).1,fun z=>(r.hfr a h).2 ?_⟩,fun i a h h1 h2=>?_⟩
 ·obtain⟨rest,e⟩:=p.pre.pre
  rw[←e,z3o hn]
  exact List.mem_append_left _ z
 ·rw[e1] at h2
  exact r.hcells i a h h1 h2
theorem Rel.pos (r:Rel K H1 H al m):0<al.al.fl.length:=by
 obtain⟨hs,rest,e⟩:=r.hp
 rw[r.len,e]
 exact Nat.succ_pos _
/-- a cell becomes data -/
theorem Rel.freeze (r:Rel K H1 H al' m) (p:Le al al') (hn:0<al.al.fl.length) {k:Nat} {a:Addr} {c:Cell} (hk:al'.al.fl[k]?=some a) (hl:al.al.fl.length≤k) (hc:m[k]?=some c) :
  ∃H1',Ex H1 H1'∧Rel K H1' H (al.up al') (m.take al.al.fl.length)∧Rp K H1' (.ref a) c.fz:=by
 obtain⟨H1',e,ch,b,q⟩:=r.b.freeze p.l0 hn hk hl hc
 have r0:=r.cut p hn
 refine⟨H1',e,⟨b,r0.hpin,r0.hlen,r0.hnd,fun x h=>⟨?_,(r0.hfr x h).2⟩,fun i x h h1 h2=>(r0.hcells i x h h1 h2).mono e (List.prefix_refl _) fun _ z=>z⟩,q⟩
 rcases ch x with z |rfl
 ·rw[z]
  exact (r.hfr x h).1
 ·exact absurd (zxi (by omega) hk) (r.hfr x h).2
/-- a cell becomes data where it stands -/
theorem Rel.kill (r:Rel K H1 H al m) {k:Nat} {a:Addr} {c:Cell} (hk:al.al.fl[k]?=some a) (hc:m[k]?=some c) (hlv:c.live=true) :
  ∃H1',Ex H1 H1'∧Rel K H1' H al (m.set k (.zd c.fz))∧Rp K H1' (.ref a) c.fz:=by
 obtain⟨H1',e,ch,b,q⟩:=r.b.kill hk hc hlv
 obtain⟨e1,e2⟩:=z8y (c:=.zd c.fz) r.hp hc hlv
 refine⟨H1',e,⟨b,r.hpin,by rw[e1];exact r.hlen,r.hnd,fun x h=>⟨?_,(r.hfr x h).2⟩,fun i x h h1 h2=>?_⟩,q⟩
 ·rcases ch x with z |rfl
  ·rw[z]
   exact (r.hfr x h).1
  ·exact absurd (zxi (nohp r.hp hc hlv) hk) (r.hfr x h).2
 ·rw[e1] at h2
  exact (r.hcells i x h h1 h2).mono e (List.prefix_refl _) fun _ z=>z
/-- a list under construction -/
theorem Rel.pinNew (r:Rel K H1 H al m) {p:Addr} {o:HO} (hp:H p=none):Rel K H1 (upd H p o) ⟨al.al,(p,o)::al.pn⟩ m:=by
 have g:=r.grow (Evl.Ex.new (o:=o) hp)
 refine⟨r.b.pinNew hp,fun q hq=>?_,g.hlen,g.hnd,g.hfr,g.hcells⟩
 rcases List.mem_cons.mp hq with e |hq
 ·subst e
  intro z
  obtain⟨u,hu⟩:=r.hmem z
  rw[hp] at hu
  cases hu
 ·exact r.hpin q hq
theorem Rel.pinPut {pn:List (Addr × HO)} {aa:AA} {p:Addr} {o o':HO} (r:Rel K H1 H ⟨aa,(p,o)::pn⟩ m):Rel K H1 (upd H p o') ⟨aa,(p,o')::pn⟩ m:=by
 have np:p ∉ aa.ha:=r.hpin (p,o) List.mem_cons_self
 refine⟨r.b.pinPut,fun q hq=>?_,r.hlen,r.hnd,r.hfr,fun i a h h1 h2=>?_⟩
 ·rcases List.mem_cons.mp hq with e |hq
  ·subst e
   exact np
  ·exact r.hpin q (List.mem_cons_of_mem _ hq)
 ·refine (r.hcells i a h h1 h2).mono (Ex.refl _) (List.prefix_refl _) fun u hu=>?_
  rw[upd_ne (fun e=>np (by rw[←e];exact List.mem_of_getElem? h1))]
  exact hu
theorem Rel.pinEnd {pn:List (Addr × HO)} {aa:AA} {p:Addr} {o:HO} (r:Rel K H1 H ⟨aa,(p,o)::pn⟩ m):Ex H1 (upd H1 p o)∧Rel K (upd H1 p o) H ⟨aa,pn⟩ m:=by
 have np:p ∉ aa.ha:=r.hpin (p,o) List.mem_cons_self
 obtain⟨e,b⟩:=r.b.pinEnd
 refine⟨e,b,fun q hq=>r.hpin q (List.mem_cons_of_mem _ hq),r.hlen,r.hnd,fun a h=>⟨?_,(r.hfr a h).2⟩,fun i a h h1 h2=>(r.hcells i a h h1 h2).mono e (List.prefix_refl _) fun _ z=>z⟩
 rw[upd_ne (fun e=>np (by rw[←e];exact h))]
 exact (r.hfr a h).1
theorem Rel.hsetB (r:Rel K H1 H al m) (hs:List HC):Rel0 K H1 H al.g0 (hset m hs):=by
 obtain⟨h0,rest,rfl⟩:=r.hp
 refine⟨r.ex,r.len,r.nd,fun k a c h1 h2 hl=>?_,fun k a c h1 h2=>?_,r.b.pin,⟨_,_,rfl⟩,fun k hs' h=>?_,r.b.pnd⟩
 ·cases k with
  |zero=>cases h2;cases hl
  |succ k=>exact r.fr (k+1) a c h1 h2 hl
 ·cases k with
  |zero=>
   cases h2
   trivial
  |succ k=>exact r.cells (k+1) a c h1 h2
 ·cases k with
  |zero=>rfl
  |succ k=>exact r.b.only (k+1) hs' h
theorem z8v {m:Mem} (h:∃hs rest,m = .hp hs::rest) (hs:List HC):heapOf (hset m hs)=hs∧∃hs' rest,hset m hs = .hp hs'::rest:=by
 obtain⟨h0,rest,rfl⟩:=h
 exact⟨rfl,_,_,rfl⟩
theorem Rel.hnew (r:Rel K H1 H al m) {p:Addr} {o:HO} {c:HC} (hp:H p=none) (hc:HAt K H1 (al.al.ha++[p]) (upd H p o) p c):Rel K H1 (upd H p o) (al.hpush p) (hset m (heapOf m++[c])):=by
 obtain⟨e1,e2⟩:=z8v r.hp (heapOf m++[c])
 have g:=r.grow (Evl.Ex.new (o:=o) hp)
 have np:p ∉ al.al.ha:=fun z=>by
  obtain⟨u,hu⟩:=r.hmem z
  rw[hp] at hu
  cases hu
 have nf:p ∉ al.al.fl.tail:=fun z=>by
  obtain⟨u,hu⟩:=r.mem z
  rw[hp] at hu
  cases hu
 refine⟨g.hsetB _,fun q hq=>?_,?_,zzy r.hnd np,fun a h=>?_,fun i a h h1 h2=>?_⟩
 ·intro z
  rcases List.mem_append.mp (show q.1∈al.al.ha++[p] from z) with z |z
  ·exact r.hpin q hq z
  ·have q1:=(r.b.pin q hq).1
   rw[List.mem_singleton.mp z,hp] at q1
   cases q1
 ·rw[e1]
  show (al.al.ha++[p]).length=_
  rw[List.length_append,List.length_append,r.hlen] <;> rfl
 ·rcases List.mem_append.mp (show a∈al.al.ha++[p] from h) with z |z
  ·exact r.hfr a z
  ·rw[List.mem_singleton.mp z]
   exact⟨r.fresh1 hp,nf⟩
 ·rw[e1] at h2
  replace h1:(al.al.ha++[p])[i]?=some a:=h1
  show HAt K H1 (al.al.ha++[p]) (upd H p o) a h
  by_cases hk:i<al.al.ha.length
  ·rw[List.getElem?_append_left hk] at h1
   rw[List.getElem?_append_left (by rw[←r.hlen];exact hk)] at h2
   exact (r.hcells i a h h1 h2).mono (Ex.refl _) ⟨[p],rfl⟩ fun u hu=>by rw[upd_ne (ne_of_none hu hp)];exact hu
  ·rw[List.getElem?_append_right (Nat.le_of_not_lt hk)] at h1
   rw[List.getElem?_append_right (by rw[←r.hlen];exact Nat.le_of_not_lt hk)] at h2
   have e:i-al.al.ha.length=0:=by
    have q:=(List.getElem?_eq_some_iff.mp h1).1
    simp at q
    omega
   rw[e] at h1
   rw[←r.hlen,e] at h2
   simp at h1 h2
   subst h1 h2
   exact hc
/-- a thing of the heap changes -/
theorem Rel.hput (r:Rel K H1 H al m) {i:Nat} {a:Addr} {o:HO} {c:HC} (hi:al.al.ha[i]?=some a) (hc:HAt K H1 al.al.ha (upd H a o) a c):Rel K H1 (upd H a o) al (hset m ((heapOf m).set i c)):=by
 obtain⟨e1,e2⟩:=z8v r.hp ((heapOf m).set i c)
 obtain⟨n1,nf⟩:=r.hfr a (List.mem_of_getElem? hi)
 have ne:∀{j:Nat} {b:Addr},i≠j→al.al.ha[j]?=some b→b≠a:=fun hj h1 e=>by
  subst e
  exact hj ((List.getElem?_inj (List.getElem?_eq_some_iff.mp hi).1 r.hnd).mp (hi.trans h1.symm))
 have b:Rel0 K H1 (upd H a o) al.g0 m:=by
  refine⟨fun b u h=>?_,r.len,r.nd,r.fr,fun k b c h1 h2=>?_,fun q hq=>?_,r.hp,r.b.only,r.b.pnd⟩
  ·rw[upd_ne (fun e=>by rw[e,n1] at h;cases h)]
   exact r.ex b u h
  ·by_cases hz:k=0
   ·subst hz
    exact r.b.zero h2
   ·refine (r.cells k b c h1 h2).mono (Ex.refl _) fun u hu=>?_
    rw[upd_ne (fun e=>nf (by rw[←e];exact zxi (Nat.pos_of_ne_zero hz) h1))]
    exact hu
  ·obtain⟨q1,q2,q3⟩:=r.b.pin q hq
   have ne:q.1≠a:=fun e=>r.hpin q hq (by rw[e];exact List.mem_of_getElem? hi)
   exact⟨by rw[upd_ne ne];exact q1,q2,q3⟩
 have b2:Rel0 K H1 (upd H a o) al.g0 (hset m ((heapOf m).set i c)):=by
  obtain⟨h0,rest,rfl⟩:=r.hp
  refine⟨b.ex,b.len,b.nd,fun k a c h1 h2 hl=>?_,fun k a c h1 h2=>?_,b.pin,⟨_,_,rfl⟩,fun k hs' h=>?_,b.pnd⟩
  ·cases k with
   |zero=>cases h2;cases hl
   |succ k=>exact b.fr (k+1) a c h1 h2 hl
  ·cases k with
   |zero=>
    cases h2
    trivial
   |succ k=>exact b.cells (k+1) a c h1 h2
  ·cases k with
   |zero=>rfl
   |succ k=>exact b.only (k+1) hs' h
 refine⟨b2,r.hpin,by rw[e1,List.length_set];exact r.hlen,r.hnd,r.hfr,fun j b h h1 h2=>?_⟩
 rw[e1] at h2
 by_cases hj:i=j
 ·subst hj
  rw[hi] at h1
  cases h1
  have hl:i<(heapOf m).length:=by
   have:=(List.getElem?_eq_some_iff.mp h2).1
   rwa [List.length_set] at this
  rw[List.getElem?_set_self hl] at h2
  cases h2
  exact hc
 ·rw[List.getElem?_set_ne hj] at h2
  refine (r.hcells j b h h1 h2).mono (Ex.refl _) (List.prefix_refl _) fun u hu=>?_
  rw[upd_ne (ne hj h1)]
  exact hu
theorem RpW.rh (r:Rel K H1 H al m) {v:V} {w:W} {x:D} (h:RpW K H1 al v w) (e:w.rd m=some x):Rh K H1 H v x:=by
 cases w with
 |d y=>
  cases e
  exact .p h
 |c k=>
  obtain⟨a,ha,rfl⟩:=h
  obtain⟨c,hc,q⟩:=r.at_ ha
  have e2:(m[k]?).map Cell.toD=some x:=e
  rw[hc] at e2
  cases e2
  cases hlv:c.live with
  |true=>exact .c hlv q
  |false=>
   cases c with
   |zd x=>exact .p q.2
   |hp x=>exact .p .opq
   |lst _=>cases hlv
   |obj _ _ _=>cases hlv
   |dic _ _=>cases hlv
   |dn _ _=>cases hlv
   |dt _ _=>cases hlv
 |ex _ _ _ _ _=>cases e
 |h i=>
  obtain⟨a,ha,rfl⟩:=h
  obtain⟨c,hc,q⟩:=r.hat ha
  have e2:((heapOf m)[i]?).map HC.toD=some x:=e
  rw[hc] at e2
  cases e2
  rw[←HC.cell_toD]
  cases c with
  |tup _=>exact .p .opq
  |lst _=>exact .c rfl q.cell
  |obj _ _ _=>exact .c rfl q.cell
  |dic _ _=>exact .c rfl q.cell
end
def GV (K:Fg) (Q:VK):Hp→Gh→Hp→W→Prop:=fun H1 al H w=>∀v,RpW K H1 al v w→Q v H
def GT (Q:Bool→Hp→Prop):Hp→Gh→Hp→Bool→Prop:=fun _ _ H b=>Q b H
def GA (K:Fg) (Q:List V→Hp→Prop):Hp→Gh→Hp→List W→Prop:=fun H1 al H ws=>∀vs,RpWs K H1 al vs ws→Q vs H
def tD (K:Fg) (Wx:WX) (f:DE):TE:=fun σ H Q=>∃H1 al dl m,Rel K H1 H al m∧RpE K H1 al σ dl∧Post K H1 al σ Wx (GV K Q) (f dl m)
def tT (K:Fg) (Wx:WX) (f:DT):TT:=fun σ H Q=>∃H1 al dl m,Rel K H1 H al m∧RpE K H1 al σ dl∧Post K H1 al σ Wx (GT Q) (f dl m)
def tA (K:Fg) (Wx:WX) (f:DA):TA:=fun σ H Q=>∃H1 al dl m,Rel K H1 H al m∧RpE K H1 al σ dl∧Post K H1 al σ Wx (GA K Q) (f dl m)
section
variable {K:Fg} {H1 H1' H H':Hp} {al al':Gh} {m:Mem} {σ : St} {Wx:WX} {α β : Type}
theorem Post.ok_ {G:Hp→Gh→Hp → α → Prop} {w : α} (r:Rel K H1 H al m) (h:Post K H1 al σ Wx G (.ok w m)):G H1 al H w:=h H1 al H (Ex.refl _) (zkb _) r
end
theorem peImp {X:Cx} {e:Expr} {t t':TE} (h:PE X e t) (k:∀ σ H Q,t' σ H Q→t σ H Q):PE X e t':=⟨fun pins s σ H Q I hw=>h.run pins s σ H Q I (k σ H Q hw)⟩
theorem ptImp {X:Cx} {e:Expr} {t t':TT} (h:PT X e t) (k:∀ σ H Q,t' σ H Q→t σ H Q):PT X e t':=⟨fun pins s σ H Q I hw=>h.run pins s σ H Q I (k σ H Q hw)⟩
theorem paImp {X:Cx} {e:List Expr} {t t':TA} (h:PA X e t) (k:∀ σ H Q,t' σ H Q→t σ H Q):PA X e t':=⟨fun pos pins s σ H Q I hw=>h.run pos pins s σ H Q I (k σ H Q hw)⟩
theorem zkjb {X:Cx}:Passes (L2N.CX X.prog X.w) X E0:=fun _ _ _ _ _ _ _ h=>by
 obtain⟨_,_,_,_,_,_,_,_,_,_,_,_,z⟩:=h
 exact z.elim
theorem cxUpN {P:Program} {w:World}:StX.CXUp (L2N.CX P w):=by
 rintro outer s H s2 H2 E e s' un kp ho ⟨a,B,H',cls,d,ea,fl,hok,ub,na,os,ag,he⟩
 refine⟨a,B,H',cls,d,ea,fl,hok,⟨fun b o q n hb=>ub.keep b o (kp b o q) (un.free b o q n (by simp)) hb,fun b o q hb=>ub.slot b o (kp b o q) hb,fun b o q n=>ub.free b o (kp b o q) (un.free b o q n (by simp)),
  fun b o q hb=>ub.there b o (kp b o q) hb,fun b xs q=>ub.tups b xs (un.tups b xs q),fun b o xs q=>ub.frzs b o xs (un.frzs b o xs q),fun b ps q=>?_⟩,na,os.trans ho,ag,he⟩
 obtain⟨m1,e1⟩:=un.tbls b ps q
 obtain⟨m2,e2⟩:=ub.tbls b _ e1
 exact⟨m1++m2,by rw[e2,Array.append_assoc]⟩
theorem z7fb {B:Heap} {l:List PySem.Env} {a L:Addr} {Z Z':Obj→Prop} {h:Heap} (z:∀o,Z o→Z' o) (x:Sky B l a Z L h):Sky B l a Z' L h:=by
 rcases x with ⟨h1,h2,h3,oe,vs,e,q,d,r⟩ |x |x
 ·exact .inl ⟨h1,h2,h3,oe,vs,e,z _ q,d,r⟩
 ·exact .inr (.inl (L2H.flyingZ_imp z x))
 ·obtain⟨h1,h2,h3,r⟩:=x
  exact .inr (.inr ⟨h1,h2,h3,by first |exact L2H.tracedZ_imp z r |exact r.imp_right (L2H.tracedZ_imp z) |exact r.imp_left (L2H.tracedZ_imp z)⟩)
theorem zzfb {X:Cx} {W:WX} (tk:L2.Takes X W):L2N.Takes X W:=fun u s' x=>by
 obtain⟨a,B,sI,pins,σ,H,cls,d,e,I,nb,up,sky,r⟩:=x
 exact tk u s' ⟨a,B,sI,pins,σ,H,cls,d,e,I,nb,up,z7fb (fun o z=>z.zc) sky,r⟩
theorem zcj {X:Cx}:L2N.Takes X (fun _ _ _ _=>False):=zzfb takes0
end DL
namespace DL
open PySem PySem.Spec L2
open Evl (Ex)
section
variable {X:Cx} {Wx:WX}
theorem zf {i:Nat} {e:Expr} (h:PE X e (tVar i)):PE X e (tD X.K Wx (eVar i)):=peImp h fun σ H Q ⟨H1,al,dl,m,r,en,p⟩=>by
 unfold eVar at p
 split at p
 ·rename_i w hw
  obtain⟨v,hv,q⟩:=en.at_ i w hw
  exact⟨v,hv,p.ok_ r v q⟩
 ·exact p.elim
theorem de_c {e:Expr} {v:V} {d:D} (h:PE X e (tC v)) (hd:∀H1,Rp X.K H1 v d):PE X e (tD X.K Wx (eC d)):=peImp h fun σ H Q ⟨H1,al,dl,m,r,en,p⟩=>p.ok_ r v (hd H1)
theorem zk {i j pos}:PE X (.Constant (.int i) j pos) (tD X.K Wx (eC (.int i))):=de_c pe_int fun _=>.int i
theorem de_bl {i j pos}:PE X (.Constant (.bool i) j pos) (tD X.K Wx (eC (.bl i))):=de_c pe_bl fun _=>.bl i
theorem zen {j pos}:PE X (.Constant .none j pos) (tD X.K Wx (eC .non)):=de_c pe_non fun _=>.non
theorem zn {i j pos}:PE X (.Constant (.str i) j pos) (tD X.K Wx (eC (.str i))):=de_c pe_str fun _=>.str i
/-- a two-place operation by values keeps g -/
def OpOk (X:Cx) (f:Value→Value→Sem Value) (g:D→D→Option D):Prop:=∃r:R2,OpR X f r ∧
 ∀H1 H al m v w x y z Q,Rel X.K H1 H al m→Rh X.K H1 H v x→Rh X.K H1 H w y→g x y=some z→(∀H1' H' u,Ex H1 H1'→Rel X.K H1' H' al m→Rp X.K H1' u z→Q u H')→r v w H Q
def UnOk (X:Cx) (f:Value→Sem Value) (g:D→Option D):Prop:=∃r,UnR X f r ∧
 ∀H1 H al m v x z Q,Rel X.K H1 H al m→Rh X.K H1 H v x→g x=some z→(∀H1' H' u,Ex H1 H1'→Rel X.K H1' H' al m→Rp X.K H1' u z→Q u H')→r v H Q
theorem z5e {K:Fg} {H1 H:Hp} {al:Gh} {m:Mem} {σ : L2.St} {Q:VK} {g:D→D→Option D} {x y:W} {v w:V} {r:R2} (rl:Rel K H1 H al m) (hx:RpW K H1 al v x) (hy:RpW K H1 al w y)
  (hr:∀H1 H al m v w x y z Q,Rel K H1 H al m→Rh K H1 H v x→Rh K H1 H w y→g x y=some z→(∀H1' H' u,Ex H1 H1'→Rel K H1' H' al m→Rp K H1' u z→Q u H')→r v w H Q)
  (p:Post K H1 al σ Wx (GV K Q) (lift2 g x y m)):r v w H Q:=by
 unfold lift2 at p
 split at p
 ·rename_i a ha
  split at p
  ·rename_i b hb
   split at p
   ·rename_i z hz
    exact hr H1 H al m v w a b z Q rl (hx.rh rl ha) (hy.rh rl hb) hz fun H1' H' u e r' q=>p H1' al H' e (zkb _) r' u q
   ·exact p.elim
  ·exact p.elim
 ·exact p.elim
theorem z7s {K:Fg} {H1 H:Hp} {al:Gh} {m:Mem} {σ : L2.St} {Q:VK} {g:D→Option D} {x:W} {v:V} {r:V→Hp→VK→Prop} (rl:Rel K H1 H al m) (hx:RpW K H1 al v x)
  (hr:∀H1 H al m v x z Q,Rel K H1 H al m→Rh K H1 H v x→g x=some z→(∀H1' H' u,Ex H1 H1'→Rel K H1' H' al m→Rp K H1' u z→Q u H')→r v H Q)
  (p:Post K H1 al σ Wx (GV K Q) (lift1 g x m)):r v H Q:=by
 unfold lift1 at p
 split at p
 ·rename_i a ha
  split at p
  ·rename_i z hz
   exact hr H1 H al m v a z Q rl (hx.rh rl ha) hz fun H1' H' u e r' q=>p H1' al H' e (zkb _) r' u q
  ·exact p.elim
 ·exact p.elim
/-- two expressions, then something by their values -/
theorem zm1 {K:Fg} {Wx:WX} {fa fb:DE} {k:W→W→Mem→Res W} {σ : L2.St} {H:Hp} {Q:VK} {R:V→V→Hp→VK→Prop} (h:tD K Wx (fun dl m=>(fa dl m).bind fun x m1=>(fb dl m1).bind fun y m2=>k x y m2) σ H Q)
  (f:∀H1 H al m x y v w,Rel K H1 H al m→RpW K H1 al v x→RpW K H1 al w y→Post K H1 al σ Wx (GV K Q) (k x y m)→R v w H Q) :
  tD K Wx fa σ H fun v H'=>tD K Wx fb σ H' fun w H2=>R v w H2 Q:=by
 obtain⟨H1,al,dl,m,r,en,p⟩:=h
 refine⟨H1,al,dl,m,r,en,p.bind fun x m1 H1' al' H' e pr r' p' v hv=>?_⟩
 refine⟨H1',al',dl,m1,r',en.mono e pr,p'.bind fun y m2 H1'' al'' H'' e2 pr2 r'' p'' w hw=>?_⟩
 exact f H1'' H'' al'' m2 x y v w r'' (hv.mono e2 pr2) hw p''
theorem zbv {K:Fg} {Wx:WX} {fa:DE} {k:W→Mem→Res W} {σ : L2.St} {H:Hp} {Q:VK} {R:V→Hp→VK→Prop} (h:tD K Wx (fun dl m=>(fa dl m).bind fun x m1=>k x m1) σ H Q)
  (f:∀H1 H al m x v,Rel K H1 H al m→RpW K H1 al v x→Post K H1 al σ Wx (GV K Q) (k x m)→R v H Q) :
  tD K Wx fa σ H fun v H'=>R v H' Q:=by
 obtain⟨H1,al,dl,m,r,en,p⟩:=h
 refine⟨H1,al,dl,m,r,en,p.bind fun x m1 H1' al' H' e pr r' p' v hv=>?_⟩
 exact f H1' H' al' m1 x v r' hv p'
theorem de_op {a b:Expr} {op:Operator} {pos:Pos} {g:D→D→Option D} {fa fb:DE} (ho:OpOk X (binaryOp op) g) (ha:PE X a (tD X.K Wx fa)) (hb:PE X b (tD X.K Wx fb)):PE X (.BinOp a op b pos) (tD X.K Wx (eOp g fa fb)):=by
 obtain⟨r,hr,hs⟩:=ho
 exact peImp (pe_op hr ha hb) fun σ H Q h=>zm1 h fun H1 H al m x y v w rl hx hy p=>z5e rl hx hy hs p
theorem de_un {a:Expr} {op:UnaryOp} {pos:Pos} {g:D→Option D} {fa:DE} (ho:UnOk X (unaryOp op) g) (ha:PE X a (tD X.K Wx fa)):PE X (.UnaryOp op a pos) (tD X.K Wx (eUn g fa)):=by
 obtain⟨r,hr,hs⟩:=ho
 exact peImp (pe_un hr ha) fun σ H Q h=>zbv h fun H1 H al m x v rl hx p=>z7s rl hx hs p
theorem zgs {a b:Expr} {op:CmpOp} {pos:Pos} {g:D→D→Option D} {fa fb:DE} (ho:OpOk X (compareOp op) g) (ha:PE X a (tD X.K Wx fa)) (hb:PE X b (tD X.K Wx fb)) (hm:behindInMarks op b=false):PE X (.Compare a [op] [b] pos) (tD X.K Wx (eOp g fa fb)):=by
 obtain⟨r,hr,hs⟩:=ho
 exact peImp (pe_cmpR hr ha hb hm) fun σ H Q h=>zm1 h fun H1 H al m x y v w rl hx hy p=>z5e rl hx hy hs p
theorem z9s {K:Fg} {H:Hp} {vs:List V} {ds:List D} (r:RpL K H vs ds):vs.isEmpty=ds.isEmpty:=by
 cases r <;> rfl
theorem tru_ok {K:Fg} {H1 H:Hp} (e:Ex H1 H) {v:V} {x:D} {k:Bool} (h:Rh K H1 H v x) (hk:truD x=some k):TruV K v H k:=by
 cases x with
 |non=>cases h.non;cases hk;rfl
 |bl b=>cases h.bl;cases hk;rfl
 |int i=>cases h.int;cases hk;rfl
 |str y=>
  cases h.str
  have hk':(if y.length≤sizeLine then some ((y.length:Int) != 0) else none)=some k:=hk
  by_cases hl:y.length≤sizeLine
  ·rw[if_pos hl] at hk'
   cases hk'
   exact⟨hl,rfl⟩
  ·rw[if_neg hl] at hk'
   cases hk'
 |lst ds=>
  obtain⟨a,vs,rfl,h1,h2⟩:=h.lst e
  cases hk
  exact .inl ⟨vs,SqL.of h1,by rw[z9s h2]⟩
 |fz ds=>
  obtain⟨a,vs,rfl,h1,h2⟩:=h.fz e
  cases hk
  exact .inl ⟨vs,h1,by rw[z9s h2]⟩
 |tup ds=>
  obtain⟨a,vs,rfl,h1,h2⟩:=h.tup e
  cases hk
  exact .inr (.inl ⟨vs,h1,by rw[z9s h2]⟩)
 |dic _ _=>cases hk
 |tk _=>cases hk
 |obj _ _ _=>cases hk
 |cls _=>cases hk
 |opq=>cases hk
theorem zqe {e:Expr} {f:DE} (h:PE X e (tD X.K Wx f)) (he:∀whole,isTrue e X.env whole=(do let v ←whole;standAt e.pos;holding [v] (truthy v)):=by intro _;rfl):PT X e (tT X.K Wx (bT f)):=by
 refine ptImp (pt_truth h he) fun σ H Q ⟨H1,al,dl,m,r,en,p⟩=>?_
 refine⟨H1,al,dl,m,r,en,p.bind fun x m1 H1' al' H' e pr r' p' v hv=>?_⟩
 unfold tru at p'
 split at p'
 ·rename_i a ha
  split at p'
  ·rename_i k hk
   exact⟨k,tru_ok r'.ex (hv.rh r' ha) hk,p'.ok_ r'⟩
  ·exact p'.elim
 ·exact p'.elim
/-- a comparison as a test -/
theorem zr {a b:Expr} {op:CmpOp} {pos:Pos} {g:D→D→Option D} {fa fb:DE} (ho:OpOk X (compareOp op) g) (ha:PE X a (tD X.K Wx fa)) (hb:PE X b (tD X.K Wx fb)) (hm:behindInMarks op b=false)
  (hg:∀x y z,g x y=some z→∃k,z = .bl k):PT X (.Compare a [op] [b] pos) (tT X.K Wx (bT (eOp g fa fb))):=by
 obtain⟨r,hr,hs⟩:=ho
 refine ptImp (pt_cmpR hr ha hb hm) fun σ H Q ⟨H1,al,dl,m,rl,en,p⟩=>?_
 unfold bT eOp at p
 have assoc:∀(r1:Res W) (k1:W→Mem→Res W) (k2:W→Mem→Res Bool),(r1.bind k1).bind k2=r1.bind fun x m=>(k1 x m).bind k2:=fun r1 k1 k2=>by cases r1 <;> rfl
 rw[assoc] at p
 simp only[assoc] at p
 refine⟨H1,al,dl,m,rl,en,p.bind fun x m1 H1' al' H' e pr r' p' v hv=>?_⟩
 refine⟨H1',al',dl,m1,r',en.mono e pr,p'.bind fun y m2 H1'' al'' H'' e2 pr2 r'' p'' w hw=>?_⟩
 refine z5e (K:=X.K) (Wx:=Wx) (σ := σ) (r:=r) (g:=g) (x:=x) (y:=y) (m:=m2) r'' (hv.mono e2 pr2) hw hs ?_
 unfold lift2 at p'' ⊢
 split at p''
 ·rename_i a ha
  split at p''
  ·rename_i b hb
   split at p''
   ·rename_i z hz
    obtain⟨k,rfl⟩:=hg a b z hz
    intro H3 al3 H3' e3 pr3 r3 u hu
    cases (show Rp X.K H3 u (.bl k) from hu)
    exact⟨k,rfl,p'' H3 al3 H3' e3 pr3 r3⟩
   ·exact p''.elim
  ·exact p''.elim
 ·exact p''.elim
theorem pwImp {X:Cx} {e:Expr} {t t':TT} (h:PW X e t) (k:∀ σ H Q,t' σ H Q→t σ H Q):PW X e t':=⟨fun wh pins s σ H Q I hw=>h.run wh pins s σ H Q I (k σ H Q hw)⟩
variable {a b:Expr} {rest:List Expr} {pos:Pos} {fa fb:DE} {ga gb:DT}
theorem zsw (ha:PT X a (tT X.K Wx ga)):PW X (.BoolOp .And [a] pos) (tT X.K Wx ga):=pw_and1 ha
theorem zbn (ha:PT X a (tT X.K Wx ga)):PW X (.BoolOp .Or [a] pos) (tT X.K Wx ga):=pw_or1 ha
theorem zjz (ha:PT X a (tT X.K Wx ga)) (hb:PW X (.BoolOp .And (b::rest) pos) (tT X.K Wx gb)):PW X (.BoolOp .And (a::b::rest) pos) (tT X.K Wx (bAnd ga gb)):=
 pwImp (pw_and ha hb) fun σ H Q ⟨H1,al,dl,m,r,en,p⟩=>⟨H1,al,dl,m,r,en,p.bind fun c m1 H1' al' H' e pr r' p'=>by
  cases c with
  |true=>
   show (if true=true then tT X.K Wx gb σ H' Q else Q false H')
   exact iteT ⟨H1',al',dl,m1,r',en.mono e pr,p'⟩
  |false=>
   show (if false=true then tT X.K Wx gb σ H' Q else Q false H')
   exact iteF (p'.ok_ r')⟩
theorem dw_or (ha:PT X a (tT X.K Wx ga)) (hb:PW X (.BoolOp .Or (b::rest) pos) (tT X.K Wx gb)):PW X (.BoolOp .Or (a::b::rest) pos) (tT X.K Wx (bOr ga gb)):=
 pwImp (pw_or ha hb) fun σ H Q ⟨H1,al,dl,m,r,en,p⟩=>⟨H1,al,dl,m,r,en,p.bind fun c m1 H1' al' H' e pr r' p'=>by
  cases c with
  |true=>
   show (if true=true then Q true H' else tT X.K Wx gb σ H' Q)
   exact iteT (p'.ok_ r')
  |false=>
   show (if false=true then Q true H' else tT X.K Wx gb σ H' Q)
   exact iteF ⟨H1',al',dl,m1,r',en.mono e pr,p'⟩⟩
theorem zhh (ha:PT X a (tT X.K Wx ga)):PT X (.UnaryOp .Not a pos) (tT X.K Wx (bNot ga)):=
 ptImp (pt_not ha) fun σ H Q ⟨H1,al,dl,m,r,en,p⟩=>⟨H1,al,dl,m,r,en,p.bind fun c m1 H1' al' H' e pr r' p'=>(show GT Q H1' al' H' (!c) from p'.ok_ r')⟩
theorem zv5 {β : Type} {K:Fg} {H1 H:Hp} {al:Gh} {m:Mem} {σ : L2.St} {x:W} {v:V} {G:Hp→Gh→Hp → β → Prop} {k:Bool→Mem→Res β} (r:Rel K H1 H al m) (hv:RpW K H1 al v x) (p:Post K H1 al σ Wx G ((tru x m).bind k)) :
  ∃c,TruV K v H c∧Post K H1 al σ Wx G (k c m):=by
 unfold tru at p
 split at p
 ·rename_i a ha
  split at p
  ·rename_i c hc
   exact⟨c,tru_ok r.ex (hv.rh r ha) hc,p⟩
  ·exact p.elim
 ·exact p.elim
theorem zkz {op} (h:PE X a (tD X.K Wx fa)):PE X (.BoolOp op [a] pos) (tD X.K Wx fa):=pe_one h
theorem z7t (ha:PE X a (tD X.K Wx fa)) (hb:PE X (.BoolOp .And (b::rest) pos) (tD X.K Wx fb)):PE X (.BoolOp .And (a::b::rest) pos) (tD X.K Wx (eAnd fa fb)):=
 peImp (pe_andT ha hb) fun σ H Q ⟨H1,al,dl,m,r,en,p⟩=>⟨H1,al,dl,m,r,en,p.bind fun x m1 H1' al' H' e pr r' p' v hv=>by
  obtain⟨c,hc,p2⟩:=zv5 r' hv p'
  refine⟨c,hc,?_⟩
  cases c with
  |true=>exact iteT ⟨H1',al',dl,m1,r',en.mono e pr,p2⟩
  |false=>exact iteF (p2.ok_ r' v hv)⟩
theorem zzkb (ha:PE X a (tD X.K Wx fa)):PE X (.UnaryOp .Not a pos) (tD X.K Wx (eNot fa)):=
 peImp (pe_notT ha) fun σ H Q ⟨H1,al,dl,m,r,en,p⟩=>⟨H1,al,dl,m,r,en,p.bind fun x m1 H1' al' H' e pr r' p' v hv=>by
  obtain⟨c,hc,p2⟩:=zv5 r' hv p'
  exact⟨c,hc,p2.ok_ r' _ (.bl (!c))⟩⟩
theorem de_if {c:Expr} (hc:PT X c (tT X.K Wx ga)) (ha:PE X a (tD X.K Wx fa)) (hb:PE X b (tD X.K Wx fb)):PE X (.IfExp c a b pos) (tD X.K Wx (eIf ga fa fb)):=
 peImp (pe_ifExp hc ha hb) fun σ H Q ⟨H1,al,dl,m,r,en,p⟩=>⟨H1,al,dl,m,r,en,p.bind fun c m1 H1' al' H' e pr r' p'=>by
  cases c with
  |true=>
   show (if true=true then tD X.K Wx fa σ H' Q else tD X.K Wx fb σ H' Q)
   exact iteT ⟨H1',al',dl,m1,r',en.mono e pr,p'⟩
  |false=>
   show (if false=true then tD X.K Wx fa σ H' Q else tD X.K Wx fb σ H' Q)
   exact iteF ⟨H1',al',dl,m1,r',en.mono e pr,p'⟩⟩
theorem zg:PA X [] (tA X.K Wx aNil):=paImp pa_nil fun σ H Q ⟨H1,al,dl,m,r,en,p⟩=>p.ok_ r [] .nil
theorem ze {es:List Expr} {fr:DA} (ha:PE X a (tD X.K Wx fa)) (hr:PA X es (tA X.K Wx fr)) (hs:starEach (a::es) X.env=(false,eval a X.env)::starEach es X.env:=by rfl):PA X (a::es) (tA X.K Wx (aCons fa fr)):=
 paImp (pa_cons ha hr hs) fun σ H Q ⟨H1,al,dl,m,r,en,p⟩=>⟨H1,al,dl,m,r,en,p.bind fun x m1 H1' al' H' e pr r' p' v hv=>
  ⟨H1',al',dl,m1,r',en.mono e pr,p'.bind fun xs m2 H2' al2 H2 e2 pr2 r2 p2 vs hvs=>p2.ok_ r2 (v::vs) (.cons (hv.mono e2 pr2) hvs)⟩⟩
/-- arguments, then something by their values -/
theorem zsk {K:Fg} {f:DA} {k:List W→Mem→Res W} {σ : L2.St} {H:Hp} {Q:VK} {R:List V→Hp→VK→Prop} (h:tD K Wx (fun dl m=>(f dl m).bind fun xs m1=>k xs m1) σ H Q)
  (g:∀H1 H al m xs vs,Rel K H1 H al m→RpWs K H1 al vs xs→Post K H1 al σ Wx (GV K Q) (k xs m)→R vs H Q):tA K Wx f σ H fun vs H'=>R vs H' Q:=by
 obtain⟨H1,al,dl,m,r,en,p⟩:=h
 exact⟨H1,al,dl,m,r,en,p.bind fun xs m1 H1' al' H' e pr r' p' vs hvs=>g H1' H' al' m1 xs vs r' hvs p'⟩
inductive RhL (K:Fg) (H1 H:Hp):List V→List D→Prop
 |nil:RhL K H1 H [] []
 |cons {v:V} {vs:List V} {x:D} {xs:List D}:Rh K H1 H v x→RhL K H1 H vs xs→RhL K H1 H (v::vs) (x::xs)
theorem z4z {K:Fg} {H1 H:Hp} {al:Gh} {m:Mem} (r:Rel K H1 H al m):∀{vs:List V} {ws:List W} {xs:List D},RpWs K H1 al vs ws→rdAll ws m=some xs→RhL K H1 H vs xs
 |_,_,_,.nil,e=>by cases e;exact .nil
 |_,_,xs,.cons (w:=w) (ws:=ws) h t,e=>by
  unfold rdAll at e
  cases h1:w.rd m with
  |none=>rw[h1] at e;cases e
  |some x=>
   rw[h1] at e
   cases h2:rdAll ws m with
   |none=>rw[h2] at e;cases e
   |some ys=>
    rw[h2] at e
    cases e
    exact .cons (h.rh r h1) (z4z r t h2)
theorem zho {K:Fg} {H1:Hp} {al:Gh}:∀{vs:List V} {ws:List W} {xs:List D},RpWs K H1 al vs ws→z9f ws=some xs→RpL K H1 vs xs
 |_,_,_,.nil,e=>by cases e;exact .nil
 |_,_,xs,.cons (w:=w) (ws:=ws) h t,e=>by
  cases w with
  |c k=>cases e
  |ex _ _ _ _ _=>cases e
  |h _=>cases e
  |d x=>
   have e':(match z9f ws with
   |some xs=>some (x::xs)
   |none=>none)=some xs:=e
   cases h2:z9f ws with
   |none=>rw[h2] at e';cases e'
   |some ys=>
    rw[h2] at e'
    cases e'
    exact .cons h (zho t h2)
theorem zqn {K:Fg} {H1 H:Hp} {al:Gh} {m:Mem} {vs:List V} {xs:List D} {p:Addr} (r:Rel K H1 H al m) (h:RpL K H1 vs xs) (hp:H p=none) :
  Ex H1 (upd H1 p (.tup vs))∧Rel K (upd H1 p (.tup vs)) (upd H p (.tup vs)) al m∧Rp K (upd H1 p (.tup vs)) (.ref p) (.tup xs):=
 ⟨Evl.Ex.new (r.fresh1 hp),r.new hp,.tup (SqT.of upd_same) (h.mono (Evl.Ex.new (r.fresh1 hp)))⟩
theorem zcm {K:Fg} {H1 H:Hp} {al:Gh} {m:Mem} {vs:List V} {xs:List D} {p:Addr} (r:Rel K H1 H al m) (h:RpL K H1 vs xs) (hp:H p=none) :
  Ex H1 (upd H1 p (.lst vs))∧Rel K (upd H1 p (.lst vs)) (upd H p (.lst vs)) al m∧Rp K (upd H1 p (.lst vs)) (.ref p) (.lst xs):=
 ⟨Evl.Ex.new (r.fresh1 hp),r.new hp,.lst upd_same (h.mono (Evl.Ex.new (r.fresh1 hp)))⟩
theorem zbb {es:List Expr} {x1} {f:DA} (h:PA X es (tA X.K Wx f)):PE X (.Tuple es x1 pos) (tD X.K Wx (eTup f)):=
 peImp (pe_tup h) fun σ H Q hq=>zsk (R:=fun vs H Q=>vs.length≤sizeLine∧∀p,H p=none→Q (.ref p) (upd H p (.tup vs))) hq fun H1 H al m xs vs r hvs p=>by
  unfold mkTup at p
  split at p
  ·rename_i ys hy
   have h2:=zho hvs hy
   split at p
   ·rename_i hl
    refine⟨by rw[h2.length];exact hl,fun q hq=>?_⟩
    obtain⟨a,b,c⟩:=zqn r h2 hq
    exact p _ _ _ a (zkb _) b _ c
   ·exact p.elim
  ·exact p.elim
theorem znf {es:List Expr} {f:DA} (h:PA X es (tA X.K Wx f)):PE X (.List es pos) (tD X.K Wx (eLst f)):=
 peImp (pe_lst h) fun σ H Q hq=>zsk (R:=fun vs H Q=>vs.length≤sizeLine∧∀p,H p=none→Q (.ref p) (upd H p (.lst vs))) hq fun H1 H al m xs vs r hvs p=>by
  unfold mkLst at p
  split at p
  ·rename_i ys hy
   have h2:=zho hvs hy
   split at p
   ·rename_i hl
    refine⟨by rw[h2.length];exact hl,fun q hq=>?_⟩
    obtain⟨a,b,c⟩:=zcm r h2 hq
    exact p _ _ _ a (zkb _) b _ c
   ·exact p.elim
  ·exact p.elim
theorem zzw {es:List Expr} {f:DA} (h:PA X es (tA X.K Wx f)):PE X (.List es pos) (tD X.K Wx (eCel f)):=
 peImp (pe_lst h) fun σ H Q hq=>zsk (R:=fun vs H Q=>vs.length≤sizeLine∧∀p,H p=none→Q (.ref p) (upd H p (.lst vs))) hq fun H1 H al m xs vs r hvs p=>by
  unfold mkCel at p
  split at p
  ·rename_i ys hy
   have h2:=zho hvs hy
   split at p
   ·rename_i hl
    refine⟨by rw[h2.length];exact hl,fun q hq=>?_⟩
    refine p H1 (al.push q) _ (Ex.refl _) (Le.push _ _) (r.cell hq ⟨vs,upd_same,h2⟩) _ ⟨q,?_,rfl⟩
    show (al.al.fl++[q])[m.length]?=some q
    rw[←r.len,List.getElem?_append_right (Nat.le_refl _),Nat.sub_self] <;> rfl
   ·exact p.elim
  ·exact p.elim
theorem z7cb {K:Fg} {H1:Hp} {al:Gh} {σ : L2.St} {Q:VK}:∀{r:Res W},Post K H1 al σ Wx (GV K Q) r→PostF K H1 al Q (fun c d H=>Wx c d σ H) r
 |.ok w m,h=>fun H1' al' H' v e l r q=>h H1' al' H' e l r v q
 |.exc C f p m,h=>fun H1' al' H' v dx e l r q q2=>h H1' al' H' v dx e l r q q2
 |.no,h=>h
end
end DL
namespace DL
open PySem PySem.Spec L2
open Evl (Ex)
def tS (K:Fg) (Wx:WX) (g:DS):TS:=fun En σ H=>∃H1 al dl m,Rel K H1 H al m∧RpE K H1 al σ dl∧PostS K H1 al Wx En (g dl m)
section
variable {K:Fg} {H1 H1' H H':Hp} {al al':Gh} {m:Mem} {σ : L2.St} {Wx:WX} {α : Type} {En En':Ends} {dl:Env}
theorem PostS.nx_ (r:Rel K H1 H al m) (en:RpE K H1 al σ dl) (h:PostS K H1 al Wx En (.nx dl m)):En.nx σ H:=h H1 al H σ (Ex.refl _) (zkb _) r en
end
theorem psImp {X:Cx} {e:Stmt} {t t':TS} (h:PS X e t) (k:∀En σ H,t' En σ H→t En σ H):PS X e t':=⟨fun pins s σ H En I hw=>h.run pins s σ H En I (k En σ H hw)⟩
theorem z7eb {X:Cx} {e:List Stmt} {t t':TS} (h:PSs X e t) (k:∀En σ H,t' En σ H→t En σ H):PSs X e t':=⟨fun pins s σ H En I hw=>h.run pins s σ H En I (k En σ H hw)⟩
def sNext:DS:=fun dl m=>.nx dl m
def z5eb:DS:=fun _ _=>.no
section
variable {X:Cx} {Wx:WX} {st:Stmt} {rest:List Stmt} {f g:DS} {e:Expr} {fe:DE} {pos:Pos}
theorem zjb:PSs X [] (tS X.K Wx sNext):=z7eb pss_nil fun En σ H ⟨H1,al,dl,m,r,en,p⟩=>p.nx_ r en
theorem zj (h1:PS X st (tS X.K Wx f)) (h2:PSs X rest (tS X.K Wx g)):PSs X (st::rest) (tS X.K Wx (sSeq f g)):=z7eb (pss_cons h1 h2) fun En σ H ⟨H1,al,dl,m,r,en,p⟩=>by
 refine⟨H1,al,dl,m,r,en,?_⟩
 unfold sSeq at p
 cases h:f dl m with
 |nx dl' m'=>
  rw[h] at p
  exact fun H1' al' H' σ' e pr r' en'=>⟨H1',al',dl',m',r',en',PostS.mono e pr p⟩
 |rt w m'=>rw[h] at p;exact p
 |bk dl' m'=>rw[h] at p;exact p
 |ct dl' m'=>rw[h] at p;exact p
 |exc dl' C f' p' m'=>rw[h] at p;exact p
 |no=>rw[h] at p;exact p
theorem zl (h1:PS X st (tS X.K Wx f)):PSs X [st] (tS X.K Wx f):=pss_one h1
theorem zfeb:PS X st (tS X.K Wx z5eb):=⟨fun _ _ _ _ _ _ ⟨_,_,_,_,_,_,h⟩=>h.elim⟩
theorem zo (he:PE X e (tD X.K Wx fe)):PS X (.Return (some e) pos) (tS X.K Wx (sRet fe)):=psImp (ps_ret he) fun En σ H ⟨H1,al,dl,m,r,en,p⟩=>
 ⟨H1,al,dl,m,r,en,p.of en fun w m1 H1' al' H' e pr r' p' v hv=>p' H1' al' H' v (Ex.refl _) (zkb _) r' hv⟩
theorem z7g (he:PE X e (tD X.K Wx fe)) (hs:swapsWith e none pos.line X.env=pure false:=by rfl):PS X (.Expr e pos) (tS X.K Wx (sDrop fe)):=psImp (ps_expr he hs) fun En σ H ⟨H1,al,dl,m,r,en,p⟩=>
 ⟨H1,al,dl,m,r,en,p.of en fun w m1 H1' al' H' e pr r' p' v hv=>p'.nx_ r' (en.mono e pr)⟩
theorem ds_if {c:Expr} {a b:List Stmt} {t:DT} (hc:PT X c (tT X.K Wx t)) (ha:PSs X a (tS X.K Wx f)) (hb:PSs X b (tS X.K Wx g)):PS X (.If c a b pos) (tS X.K Wx (sIf t f g)):=psImp (ps_if hc ha hb) fun En σ H ⟨H1,al,dl,m,r,en,p⟩=>
 ⟨H1,al,dl,m,r,en,p.of en fun c m1 H1' al' H' e pr r' p'=>by
  cases c with
  |true=>
   show (if true=true then tS X.K Wx f En σ H' else tS X.K Wx g En σ H')
   exact iteT ⟨H1',al',dl,m1,r',en.mono e pr,p'⟩
  |false=>
   show (if false=true then tS X.K Wx f En σ H' else tS X.K Wx g En σ H')
   exact iteF ⟨H1',al',dl,m1,r',en.mono e pr,p'⟩⟩
def tG (K:Fg) (vs:List Nat) (g:DG):TG:=fun v σ H Q=>∃H1 al dl m w dl',Rel K H1 H al m∧RpE K H1 al σ dl∧RpW K H1 al v w∧g w dl=some dl'∧∀ σ',RpE K H1 al σ' dl'→But vs σ σ'→Q σ' H
def tGs (K:Fg) (is:List Nat) (g:DGs):TGs:=fun vs σ H Q=>∃H1 al dl m ds dl',Rel K H1 H al m∧RpE K H1 al σ dl∧RpL K H1 vs ds∧g ds dl=some dl'∧∀ σ',RpE K H1 al σ' dl'→But is σ σ'→Q σ' H
theorem pgImp {e:Expr} {t t':TG} (h:PG X e t) (k:∀v σ H Q,t' v σ H Q→t v σ H Q):PG X e t':=⟨fun pins s σ H v u Q I r hw=>h.run pins s σ H v u Q I r (k v σ H Q hw)⟩
theorem z9eb {e:List Expr} {t t':TGs} (h:PGs X e t) (k:∀v σ H Q,t' v σ H Q→t v σ H Q):PGs X e t':=⟨fun pins s σ H v u Q I r hw=>h.run pins s σ H v u Q I r (k v σ H Q hw)⟩
theorem zx0 {i:Nat} (h:PG X e (gName i)):PG X e (tG X.K [i] (gNm i)):=pgImp h fun v σ H Q ⟨H1,al,dl,m,w,dl',r,en,hv,e,k⟩=>by
 cases e
 exact k _ (en.set i hv) ⟨by rw[List.length_set],fun j hj=>List.getElem?_set_ne fun z=>hj (by rw[z];exact List.mem_singleton.mpr rfl)⟩
theorem zww:PGs X [] (tGs X.K [] gNil_):=z9eb pgs_nil fun v σ H Q ⟨H1,al,dl,m,ds,dl',r,en,hv,e,k⟩=>by
 cases hv with
 |nil=>
  cases e
  exact⟨rfl,k _ en (But.refl _ _)⟩
 |cons _ _=>cases e
theorem zeg {es:List Expr} {is js:List Nat} {g1:DG} {gs:DGs} (h1:PG X e (tG X.K is g1)) (h2:PGs X es (tGs X.K js gs)) (hs:(assignEach (e::es) X.env).map (·.2)=assign e X.env::(assignEach es X.env).map (·.2):=by rfl):PGs X (e::es) (tGs X.K (is++js) (zfe g1 gs)):=
 z9eb (pgs_cons h1 h2 hs) fun v σ H Q ⟨H1,al,dl,m,ds,dl',r,en,hv,e,k⟩=>by
  cases hv with
  |nil=>cases e
  | @cons v1 vs d ds hv1 hvs=>
    have e':(match g1 (.d d) dl with
     |some dl1=>gs ds dl1
     |none=>none)=some dl':=e
    cases h:g1 (.d d) dl with
    |none=>rw[h] at e';cases e'
    |some dl1=>
     rw[h] at e'
     exact⟨v1,vs,rfl,H1,al,dl,m,.d d,dl1,r,en,hv1,h,fun σ' en' b'=>⟨H1,al,dl1,m,ds,dl',r,en',hvs,e',fun σ2 en2 b2=>k σ2 en2 (b'.trans b2)⟩⟩
theorem zc3 {es:List Expr} {k n:Nat} {is:List Nat} {gs:DGs} (hc:X.calm=true) (h:PGs X es (tGs X.K is gs)) (hn:(assignEach es X.env).length=n:=by rfl) (hst:(assignEach es X.env).findIdx? (·.1)=none:=by rfl):PG X (.Tuple es k pos) (tG X.K is (gTp n gs)):=
 pgImp (pg_tup (k:=k) hc h hn hst) fun v σ H Q ⟨H1,al,dl,m,w,dl',r,en,hv,e,k⟩=>by
  unfold gTp at e
  split at e
  ·rename_i ds
   split at e
   ·rename_i hl
    have hv':Rp X.K H1 v (.tup ds):=hv
    cases hv' with
    |tup h1 h2=>exact⟨_,_,rfl,Evl.ex_t r.ex h1,by rw[h2.length];exact hl,H1,al,dl,m,ds,dl',r,en,h2,e,k⟩
   ·cases e
  ·cases e
theorem zglb {g:DG} {is:List Nat} {t:TE} {En:Ends} {σ : L2.St} {H:Hp} (h:tS X.K Wx (sAsg fe g) En σ H):tAsg (tD X.K Wx fe) (tG X.K is g) En σ H:=by
 obtain⟨H1,al,dl,m,r,en,p⟩:=h
 refine⟨H1,al,dl,m,r,en,p.of en fun w m1 H1' al' H' e pr r' p' v hv=>?_⟩
 cases h:g w dl with
 |none=>rw[h] at p';exact p'.elim
 |some dl'=>
  rw[h] at p'
  exact⟨H1',al',dl,m1,w,dl',r',en.mono e pr,hv,h,fun σ' en' _=>p'.nx_ r' en'⟩
theorem z4 {tg:Expr} {is:List Nat} {g:DG} (he:PE X e (tD X.K Wx fe)) (hg:PG X tg (tG X.K is g)) (hs:swapsWithSole [tg] e pos.line X.env=pure false:=by rfl) (hw:swappedStores [tg] e X.env=pure none:=by rfl)
  (h1:(assignEach [tg] X.env).map (·.2)=[assign tg X.env]:=by rfl):PS X (.Assign [tg] e pos) (tS X.K Wx (sAsg fe g)):=psImp (ps_asg he hg hs hw h1) fun En σ H h=>zglb (t:=tD X.K Wx fe) h
def tI (K:Fg) (Wx:WX) (f:DI):TI:=fun σ H R=>∃H1 al dl m,Rel K H1 H al m∧RpE K H1 al σ dl∧Post K H1 al σ Wx (fun H1' _ H' items=>∀J,zus K J H1' items→R J H') (f dl m)
theorem piImp {tg iter:Expr} {t t':TI} (h:PI X tg iter t) (k:∀ σ H Q,t' σ H Q→t σ H Q):PI X tg iter t':=⟨fun pins s σ H R I hw=>h.run pins s σ H R I (k σ H R hw)⟩
theorem zpj {tg iter:Expr} {body:List Stmt} {fi:DI} {is:List Nat} {g:DG} {fb:DS} (hp:PassesOwn (model X.prog X.w) X.A X.env X.xe) (hc:X.calm=true) (hi:PI X tg iter (tI X.K Wx fi)) (hg:PG X tg (tG X.K is g)) (hb:PSs X body (tS X.K Wx fb))
  (hs:∀x,foldedSetIterable iter X.env x=pure x:=by intro _;rfl):PS X (.For tg iter body [] pos) (tS X.K Wx (sFor fi g fb)):=psImp (ps_for hp hc hi hg hb hs) fun En σ H ⟨H1,al,dl,m,r,en,p⟩=>by
 refine⟨H1,al,dl,m,r,en,p.of en fun items m1 H1' al' H' e pr r' p' J y=>?_⟩
 have y0:=y
 obtain⟨G,Y,wk,hG,hY⟩:=y
 refine for_it wk (fun i σ H=>∃Ha aa dla ma,Ex H1' Ha∧Le al' aa∧Rel X.K Ha H aa ma∧RpE X.K Ha aa σ dla∧PostS X.K Ha aa Wx En (loopD g fb (items.drop i) dla ma)) ⟨H1',al',dl,m1,Ex.refl _,zkb _,r',en.mono e pr,p'⟩
  (fun i σ H _ ⟨Ha,aa,dla,ma,ea,_,ra,_⟩=>hG H (ea.trans ra.ex)) (fun i x σ H Hx hi ⟨Ha,aa,dla,ma,ea,la,ra,ena,pa⟩ hy=>?_) (fun σ H ⟨Ha,aa,dla,ma,ea,la,ra,ena,pa⟩=>?_)
 ·obtain⟨Hb,d,eb,rb,hd,hx⟩:=hY i H x Hx hi hy Ha aa ma ea ra
  have pa:=PostS.mono eb (zkb aa) pa
  have ed:items.drop i=d::items.drop (i+1):=by
   rw[List.drop_eq_getElem_cons hi]
   rw[List.getElem?_eq_getElem hi] at hd
   rw[Option.some.inj hd]
  rw[ed] at pa
  unfold loopD at pa
  cases h1:g (.d d) dla with
  |none=>rw[h1] at pa;exact pa.elim
  |some dl1=>
   rw[h1] at pa
   dsimp only at pa
   refine⟨Hb,aa,dla,ma,.d d,dl1,rb,ena.mono eb (zkb _),hx,h1,fun σ' en' _=>⟨Hb,aa,dl1,ma,rb,en',?_⟩⟩
   cases h2:fb dl1 ma with
   |nx dl2 m2=>rw[h2] at pa;exact fun H2 a2 Hz σ2 e2 l2 r2 en2=>⟨H2,a2,dl2,m2,(ea.trans eb).trans e2,la.trans l2,r2,en2,PostS.mono e2 l2 pa⟩
   |ct dl2 m2=>rw[h2] at pa;exact fun H2 a2 Hz σ2 e2 l2 r2 en2=>⟨H2,a2,dl2,m2,(ea.trans eb).trans e2,la.trans l2,r2,en2,PostS.mono e2 l2 pa⟩
   |bk dl2 m2=>rw[h2] at pa;exact fun H2 a2 Hz σ2 e2 l2 r2 en2=>pa H2 a2 Hz σ2 e2 l2 r2 en2
   |rt w m2=>rw[h2] at pa;exact pa
   |exc _ _ _ _ _=>rw[h2] at pa;exact pa
   |no=>rw[h2] at pa;exact pa.elim
 ·rw[List.drop_length] at pa
  exact pa.nx_ ra ena
theorem z7u {K:Fg} {H1:Hp} {a:Addr} {vs:List V} {ds:List D} (h:SqL K H1 a vs) (r:RpL K H1 vs ds):zus K (Itl K a) H1 ds:=by
 have e:ds.length=vs.length:=r.length.symm
 refine⟨_,_,by rw[e];exact walk_list (K:=K) (a:=a) (xs:=vs),fun H ex=>Evl.ex_l ex h,fun i H x H' hi y Hf al m ex rl=>?_⟩
 obtain⟨rfl,hx⟩:=y
 obtain⟨d,hd,q⟩:=r.getV hx
 exact⟨Hf,d,Ex.refl _,rl,hd,q.mono ex⟩
theorem zc7 {K:Fg} {H1:Hp} {a:Addr} {vs:List V} {ds:List D} (h:SqT K H1 a vs) (r:RpL K H1 vs ds):zus K (Itt K a) H1 ds:=by
 have e:ds.length=vs.length:=r.length.symm
 refine⟨_,_,by rw[e];exact walk_tup (K:=K) (a:=a) (xs:=vs),fun H ex=>Evl.ex_t ex h,fun i H x H' hi y Hf al m ex rl=>?_⟩
 obtain⟨rfl,hx⟩:=y
 obtain⟨d,hd,q⟩:=r.getV hx
 exact⟨Hf,d,Ex.refl _,rl,hd,q.mono ex⟩
theorem z8u {K:Fg} {H1:Hp} {a:Addr} {vs:List V} {ds:List D} (h:SqL K H1 a vs) (r:RpL K H1 vs ds):zus K (Ite K a) H1 (ds.mapIdx fun i d=>.tup [.int (i:Int),d]):=by
 have e:(ds.mapIdx fun i d=>D.tup [.int (i:Int),d]).length=vs.length:=by rw[List.length_mapIdx];exact r.length.symm
 refine⟨_,_,by rw[e];exact walk_enum (K:=K) (a:=a) (xs:=vs),fun H ex=>Evl.ex_l ex h,fun i H x H' hi y Hf al m ex rl=>?_⟩
 obtain⟨T,x1,y1,rfl,hT,rfl,e1,e2⟩:=y
 cases e1
 obtain⟨d,hd,q⟩:=r.getV e2
 obtain⟨z1,z2,z3⟩:=zqn (vs:=[.int (i:Int),y1]) (xs:=[.int (i:Int),d]) rl (.cons (.int _) (.cons (q.mono ex) .nil)) hT
 exact⟨_,_,z1,z2,by rw[List.getElem?_mapIdx,hd] <;> rfl,z3⟩
def zlq (f:DA):DI:=fun dl m=>(f dl m).bind fun ws m1=>match ws with
 |[.d (.int i),.d (.int j)]=>if -(2 ^ 62)≤i∧i<2 ^ 62 ∧ -(2 ^ 62)≤j∧j<2 ^ 62 then .ok (rngD i (j-i).toNat) m1 else .no
 |_=>.no
theorem zst {K:Fg} {H1:Hp} {lo:Int} {n:Nat}:zus K (Itr lo n) H1 (rngD lo n):=by
 have e:(rngD lo n).length=n:=by unfold rngD;rw[List.length_map,List.length_range]
 refine⟨_,_,by rw[e];exact walk_range (lo:=lo) (n:=n),fun H ex=>trivial,fun i H x H' hi y Hf al m ex rl=>?_⟩
 obtain⟨rfl,hx⟩:=y
 subst hx
 rw[e] at hi
 refine⟨Hf,.int (lo+(i:Nat)),Ex.refl _,rl,?_,.int _⟩
 unfold rngD
 rw[List.getElem?_map,List.getElem?_range hi] <;> rfl
theorem zds {tg a:Expr} {p:Pos} {f:DA} (hg:Gl X "range") (hm:X.mg "range" = none) (ha:PA X [a] (tA X.K Wx f)) (hs:starEach [a] X.env=[(false,eval a X.env)]:=by rfl):PI X tg (.Call (.Name "range" p) [a] [] pos) (tI X.K Wx (zbt f)):=
 piImp (pi_range1 hg hm ha hs) fun σ H R ⟨H1,al,dl,m,r,en,p⟩=>by
  refine⟨H1,al,dl,m,r,en,p.bind fun ws m1 H1' al' H' e pr r' p' vs hv=>?_⟩
  split at p'
  ·rename_i j
   split at p'
   ·rename_i hj
    cases hv with
    |cons a b=>
     cases b
     cases (show Rp X.K H1' _ (.int j) from a)
     exact⟨j,rfl,hj.1,hj.2,p'.ok_ r' _ zst⟩
   ·exact p'.elim
  ·exact p'.elim
theorem zkbb {tg a b:Expr} {p:Pos} {f:DA} (hg:Gl X "range") (hm:X.mg "range" = none) (ha:PA X [a,b] (tA X.K Wx f)) (hs:starEach [a,b] X.env=[(false,eval a X.env),(false,eval b X.env)]:=by rfl) (hs2:starEach [b] X.env=[(false,eval b X.env)]:=by rfl):PI X tg (.Call (.Name "range" p) [a,b] [] pos) (tI X.K Wx (zlq f)):=
 piImp (pi_range2 hg hm ha hs hs2) fun σ H R ⟨H1,al,dl,m,r,en,p⟩=>by
  refine⟨H1,al,dl,m,r,en,p.bind fun ws m1 H1' al' H' e pr r' p' vs hv=>?_⟩
  split at p'
  ·rename_i i j
   split at p'
   ·rename_i hj
    cases hv with
    |cons a b=>
     cases b with
     |cons b c=>
      cases c
      cases (show Rp X.K H1' _ (.int i) from a)
      cases (show Rp X.K H1' _ (.int j) from b)
      exact⟨i,j,rfl,hj,p'.ok_ r' _ zst⟩
   ·exact p'.elim
  ·exact p'.elim
theorem ztt (dl:Env):∀vs:List Nat,(wipeD dl vs).length=dl.length
 |[]=>rfl
 |v::vs=>by unfold wipeD;rw[List.length_set,ztt dl vs]
theorem zpy {dl:Env} {i:Nat} {x:W}:∀{vs:List Nat},(wipeD dl vs)[i]?=some (some x)→dl[i]?=some (some x)∧i ∉ vs
 |[],h=>⟨h,by simp⟩
 |v::vs,h=>by
  unfold wipeD at h
  by_cases hi:v=i
  ·subst hi
   by_cases hv:v<(wipeD dl vs).length
   ·rw[List.getElem?_set_self hv] at h;cases h
   ·rw[List.getElem?_eq_none (by simpa using hv)] at h;cases h
  ·rw[List.getElem?_set_ne hi] at h
   obtain⟨h1,h2⟩:=zpy h
   exact⟨h1,by simp only[List.mem_cons,not_or];exact⟨fun e=>hi e.symm,h2⟩⟩
theorem zu3 {σ : L2.St} {i:Nat}:∀{vs:List Nat},i∈vs→i < σ.length→(wipe σ vs)[i]?=some none
 |v::vs,h,hl=>by
  unfold wipe
  by_cases hi:v=i
  ·subst hi
   rw[List.getElem?_set_self (by rw[wipe_length];exact hl)]
  ·rw[List.getElem?_set_ne hi]
   rcases List.mem_cons.mp h with e |h
   ·exact absurd e.symm hi
   ·exact zu3 h hl
theorem zscb {vs is:List Nat} {σ σ':L2.St} (hs:∀i∈is,i∈vs) (b:But is (wipe σ vs) σ'):wipe σ' vs=wipe σ vs:=by
 have hl : σ'.length = σ.length:=by rw[b.len,wipe_length]
 refine List.ext_getElem? fun i=>?_
 by_cases hi:i∈vs
 ·by_cases h2:i < σ.length
  ·rw[zu3 hi h2,zu3 hi (by rw[hl];exact h2)]
  ·rw[List.getElem?_eq_none (by rw[wipe_length,hl];omega),List.getElem?_eq_none (by rw[wipe_length];omega)]
 ·rw[wipe_out hi,b.at_ i fun z=>hi (hs i z)]
theorem RpE.wipe {K:Fg} {H1:Hp} {al:Gh} {σ : L2.St} {dl:Env} (h:RpE K H1 al σ dl) (vs:List Nat):RpE K H1 al (wipe σ vs) (wipeD dl vs):=
 ⟨by rw[wipe_length,ztt,h.len],fun i w q=>by
  obtain⟨q1,q2⟩:=zpy q
  obtain⟨v,a,b⟩:=h.at_ i w q1
  exact⟨v,by rw[wipe_out q2];exact a,b⟩⟩
abbrev W0:WX:=fun _ _ _ _=>False
theorem lc_of {g:DG} {t:DT} {fe:DE} {fi:DI} {is vs:List Nat} (his:∀i∈is,i∈vs) {σ : L2.St} {H:Hp} {Q:VK} (h:tD X.K Wx (eLc fi g t fe vs) σ H Q):tLc (tI X.K Wx fi) (tG X.K is g) (tT X.K W0 t) (tD X.K W0 fe) vs σ H Q:=by
 obtain⟨H1,al,dl,m,r,en,p⟩:=h
 refine⟨H1,al,dl,m,r,en,p.bind fun items m1 H1' al' H' e pr r' p' J y Dd hD=>?_⟩
 obtain⟨G,Y,wk,hG,hY⟩:=y
 have en1:RpE X.K H1' al' σ dl:=en.mono e pr
 refine lc_it wk (fun i Hc=>∃Ha aa ma acc vacc,Ex H1' Ha∧AA.le al'.al aa∧Rel X.K Ha Hc ⟨aa,(Dd,.lst vacc)::al'.pn⟩ ma∧RpL X.K Ha vacc acc∧Post X.K Ha ⟨aa,al'.pn⟩ σ Wx (GV X.K Q) ((compD g t fe (wipeD dl vs) (items.drop i) acc ma).bind fun acc m2=>.ok (.d (.lst acc)) m2))
  ⟨H1',al'.al,m1,[],[],Ex.refl _,AA.refl _,r'.pinNew hD,.nil,p'⟩ (fun i Hc _ ⟨Ha,aa,ma,acc,vacc,ea,_,ra,_⟩=>hG Hc (ea.trans ra.ex)) (fun i x Hc Hx hi ⟨Ha,aa,ma,acc,vacc,ea,la,ra,hva,pa⟩ hy=>?_) (fun Hc ⟨Ha,aa,ma,acc,vacc,ea,la,ra,hva,pa⟩=>?_)
 ·obtain⟨Hb,d,eb,rb,hd,hx⟩:=hY i Hc x Hx hi hy Ha _ ma ea ra
  have pb:=Post.mono eb (zkb _) pa
  have ed:items.drop i=d::items.drop (i+1):=by
   rw[List.drop_eq_getElem_cons hi]
   rw[List.getElem?_eq_getElem hi] at hd
   rw[Option.some.inj hd]
  rw[ed] at pb
  unfold compD at pb
  cases h1:g (.d d) (wipeD dl vs) with
  |none=>rw[h1] at pb;exact pb.elim
  |some dl1=>
   rw[h1] at pb
   dsimp only at pb
   refine⟨Hb,_,wipeD dl vs,ma,.d d,dl1,rb,(en1.wipe vs).monoP (ea.trans eb) la,hx,h1,fun σ' en' b'=>⟨zscb his b',Hb,_,dl1,ma,rb,en',?_⟩⟩
   cases h2:t dl1 ma with
   |exc _ _ _ _=>rw[h2] at pb;exact pb.elim
   |no=>rw[h2] at pb;exact pb.elim
   |ok b m2=>
    rw[h2] at pb
    dsimp only at pb
    intro H2 a2 Hz e2 l2 r2
    have g2:a2=⟨a2.al,(Dd,.lst vacc)::al'.pn⟩:=by
     have:=l2.pn
     cases a2
     simp only at this
     rw[this]
    have lp:Le ⟨aa,al'.pn⟩ ⟨a2.al,al'.pn⟩:=⟨l2.pre,rfl⟩
    have pb2:=Post.mono e2 lp pb
    cases b with
    |false=>
     unfold GT
     dsimp only
     try rw[if_neg Bool.false_ne_true]
     refine⟨H2,a2.al,m2,acc,vacc,(ea.trans eb).trans e2,la.trans l2.pre,by rw[←g2];exact r2,(hva.mono eb).mono e2,pb2⟩
    |true=>
     unfold GT
     dsimp only
     try rw[if_pos rfl]
     refine⟨H2,a2,dl1,m2,r2,en'.mono e2 l2,?_⟩
     dsimp only at pb2
     cases h3:fe dl1 m2 with
     |exc _ _ _ _=>rw[h3] at pb2;exact pb2.elim
     |no=>rw[h3] at pb2;exact pb2.elim
     |ok w m3=>
      rw[h3] at pb2
      cases w with
      |c k=>exact pb2.elim
      |ex _ _ _ _ _=>exact pb2.elim
      |h _=>exact pb2.elim
      |d y=>
       dsimp only at pb2
       intro H3 a3 Hw e3 l3 r3 v hv
       have g3:a3=⟨a3.al,(Dd,.lst vacc)::al'.pn⟩:=by
        have h5:=l3.pn
        rw[g2] at h5
        cases a3
        simp only at h5
        rw[h5]
       rw[g3] at r3
       have pn1:=(r3.b.pin (Dd,.lst vacc) List.mem_cons_self).1
       have hva3:=((hva.mono eb).mono e2).mono e3
       by_cases hz:acc.length<sizeLine
       ·rw[if_pos hz] at pb2
        refine⟨vacc,pn1,by rw[hva.length];exact hz,H3,a3.al,m3,acc++[y],vacc++[v],((ea.trans eb).trans e2).trans e3,(la.trans l2.pre).trans l3.pre,r3.pinPut,hva3.append (.cons hv .nil),Post.mono e3 (show Le ⟨a2.al,al'.pn⟩ ⟨a3.al,al'.pn⟩ from ⟨l3.pre,rfl⟩) pb2⟩
       ·rw[if_neg hz] at pb2
        exact pb2.elim
 ·rw[List.drop_length] at pa
  obtain⟨e1,r1⟩:=ra.pinEnd
  exact pa _ _ _ e1 (zkb _) r1 _ (.lst upd_same (hva.mono e1))
theorem de_lc {tg iter:Expr} {ifs:List Expr} {scope:Scope} {own:List (Str × Nat)} {is:List Nat} {fi:DI} {g:DG} {t:DT} (hc:X.calm=true) (hN:X.N.Nodup) (hi:PI X tg iter (tI X.K Wx fi)) (ok:BlkOk X.N X.env.scope scope own)
  (hg:∀(s:Shared) (H:Hp) (C:Addr) (cl:List (Str × Addr)) (fp:List Addr),PG (X.blk s H scope (compEnvC scope cl C X.env) fp) tg (tG X.K is g)) (ht:∀(s:Shared) (H:Hp) (C:Addr) (cl:List (Str × Addr)) (fp:List Addr),PTs (X.blk s H scope (compEnvC scope cl C X.env) fp) ifs (tT X.K W0 t))
  (he:∀(s:Shared) (H:Hp) (C:Addr) (cl:List (Str × Addr)) (fp:List Addr),PE (X.blk s H scope (compEnvC scope cl C X.env) fp) e (tD X.K W0 fe)) (his:∀i∈is,i∈own.map (·.2)) (hs:∀x,foldedSetIterable iter X.env x=pure x:=by intro _;rfl) :
  PE X (.ListComp e [⟨tg,iter,ifs,0⟩] scope pos) (tD X.K Wx (eLc fi g t fe (own.map (·.2)))):=peImp (pe_lc hc hN hi ok hg ht he hs) fun σ H Q h=>lc_of his h
theorem z2u {i:Nat} {y:Str} {py:Pos} {tg iter:Expr} {ifs:List Expr} {scope:Scope} {own:List (Str × Nat)} {is:List Nat} {pos spos:Pos} {fi:DI} {g:DG} {t:DT} (hc:X.calm=true) (hN:X.N.Nodup) (hy:X.N[i]?=some y) (hyl:X.env.scope.names.lookup y=some .local)
  (hsw:swapsWith (.ListComp e [⟨tg,iter,ifs,0⟩] scope pos) (some (.Name y py)) spos.line X.env=pure true) (hi:PI X tg iter (tI X.K Wx fi)) (ok:BlkOk X.N X.env.scope scope own)
  (hg:∀(s:Shared) (H:Hp) (C:Addr) (cl:List (Str × Addr)) (fp:List Addr),PG (X.blk s H scope (compEnvC scope cl C X.env) fp) tg (tG X.K is g)) (ht:∀(s:Shared) (H:Hp) (C:Addr) (cl:List (Str × Addr)) (fp:List Addr),PTs (X.blk s H scope (compEnvC scope cl C X.env) fp) ifs (tT X.K W0 t))
  (he:∀(s:Shared) (H:Hp) (C:Addr) (cl:List (Str × Addr)) (fp:List Addr),PE (X.blk s H scope (compEnvC scope cl C X.env) fp) e (tD X.K W0 fe)) (his:∀i∈is,i∈own.map (·.2)) (hs:∀x,foldedSetIterable iter X.env x=pure x:=by intro _;rfl) :
  PS X (.Assign [.Name y py] (.ListComp e [⟨tg,iter,ifs,0⟩] scope pos) spos) (tS X.K Wx (sAsg (eLc fi g t fe (own.map (·.2))) (gNm i))):=
 psImp (ps_setLc (i:=i) hc hN hy hyl hsw hi ok hg ht he hs) fun En σ H ⟨H1,al,dl,m,r,en,p⟩=>lc_of his ⟨H1,al,dl,m,r,en,p.of en fun w m1 H1' al' H' e pr r' p' v hv=>p'.nx_ r' ((en.mono e pr).set i hv)⟩
end
end DL
namespace DL
open PySem PySem.Spec L2
open PyProof.Rows hiding St
open Evl (Ex)
theorem RpE.start {K:Fg} {H1:Hp} {al:Gh} {N:List Str} {vs:List V} {ws:List W} (h:RpWs K H1 al vs ws):RpE K H1 al (L2.start N vs) (zup N.length ws):=by
 have hl:=h.length
 refine⟨by unfold L2.start zup;simp[hl],fun i w q=>?_⟩
 unfold zup at q
 have hi:i<ws.length:=by
  by_cases hi:i<ws.length
  ·exact hi
  ·rw[List.getElem?_append_right (by rw[List.length_map];omega)] at q
   obtain⟨q1,q2⟩:=List.getElem?_eq_some_iff.mp q
   rw[List.getElem_replicate] at q2
   cases q2
 rw[List.getElem?_append_left (by rw[List.length_map];exact hi),List.getElem?_map] at q
 obtain⟨w',e1,e2⟩:=Option.map_eq_some_iff.mp q
 cases e2
 obtain⟨v,hv,r⟩:=h.get e1
 refine⟨v,?_,r⟩
 unfold L2.start
 rw[List.getElem?_append_left (by rw[List.length_map,hl];exact hi),List.getElem?_map,hv]
 rfl
theorem z35 {K:Fg} {H1:Hp} {al:Gh} {m:Mem} {Q:VK} {E:XK} {H:Hp} (r:Rel K H1 H al m):∀{s:SR},PostF K H1 al Q E (fin m.length s)→PostS K H1 al (fun c d _ H=>E c d H) {nx:=fun _ H'=>Q .non H',rt:=Q} s
 |.nx dl m',h=>fun H1' al' H' σ' e l r' _=>h H1' (al.up al') H' .non e l.up (by have:=r'.cut l r.pos;rw[r.len] at this;exact this) .non
 |.rt (.d x) m',h=>fun H1' al' H' v e l r' hv=>h H1' (al.up al') H' v e l.up (by have:=r'.cut l r.pos;rw[r.len] at this;exact this) hv
 |.rt (.h i) m',h=>fun H1' al' H' v e l r' hv=>h H1' (al.up al') H' v e l.up (by have:=r'.cut l r.pos;rw[r.len] at this;exact this) hv
 |.rt (.c k) m',h=>fun H1' al' H' v e l r' ⟨a,ha,hv⟩=>by
  subst hv
  have h':PostF K H1 al Q E (if k<m.length then .ok (.c k) (m'.take m.length) else (match m'[k]? with
   |some c=>.ok (.d c.fz) (m'.take m.length)
   |none=>.no)):=h
  by_cases hk:k<m.length
  ·rw[if_pos hk] at h'
   refine h' H1' (al.up al') H' (.ref a) e l.up (by have:=r'.cut l r.pos;rw[r.len] at this;exact this) ⟨a,?_,rfl⟩
   obtain⟨rest,e2⟩:=l.pre.pre
   rw[←e2,List.getElem?_append_left (by rw[r.len];exact hk)] at ha
   exact ha
  ·rw[if_neg hk] at h'
   cases hc:m'[k]? with
   |none=>rw[hc] at h';exact h'.elim
   |some c=>
    rw[hc] at h'
    obtain⟨H2,e2,r2,q2⟩:=r'.freeze l r.pos ha (by rw[r.len];omega) hc
    rw[r.len] at r2
    exact h' H2 (al.up al') H' (.ref a) (e.trans e2) l.up r2 q2
 |.rt (.ex _ _ _ _ _) m',h=>h.elim
 |.exc _ C f p m',h=>fun H1' al' H' σ' v dx e l r' _ q q2=>h H1' (al.up al') H' v dx e l.up (by have:=r'.cut l r.pos;rw[r.len] at this;exact this) q q2
 |.bk _ _,h=>h.elim
 |.ct _ _,h=>h.elim
 |.no,h=>h.elim
theorem RoomG.deeper {k:Nat} {A:Around} (r:RoomG (k+1) A) (env:PySem.Env):RoomG k (A.deeper env):=⟨r.toRoom.deeper env,r.gd⟩
theorem RoomG.in1 {k:Nat} {A:Around} (r:RoomG (k+1) A):RoomG k A.in1:=⟨r.toRoom.in1,r.gd⟩
theorem RoomG.make {k:Nat} {A:Around} (r:RoomG (k+1) A) (C:Addr) (us:List Value) (kw:List (Str × Value)):RoomG k (A.under (.builtin "type.__call__" ⟨.ref C::us,kw⟩)):=⟨r.toRoom.make C us kw,by
 have:=r.gd
 first |exact this |simpa [Around.under,Code.guards,Code.isGuard,guardIds,pushGuards] using this⟩
theorem RoomX.deeper {k:Nat} {A:Around} (r:RoomX (k+1) A) (env:PySem.Env):RoomX k (A.deeper env):=⟨r.toRoomH.deeper env,r.gd⟩
theorem RoomX.units {k:Nat} {A:Around} (r:RoomX k A):A.units+64<cLine:=by have:=r.un;omega
theorem RoomX.in1 {k:Nat} {A:Around} (r:RoomX (k+1) A):RoomX k A.in1:=⟨⟨by have:=r.dp;show A.depth+3*k+5<_;omega,by have:=r.un;show A.units+1+16*k+200<_;omega⟩,r.gd⟩
theorem RoomG.units {k:Nat} {A:Around} (r:RoomG k A):A.units+64<cLine:=r.toRoom.units
section
variable {P:Program} {w:World} {K:Fg} {mg:Str→Option Value} {base:Heap}
/-- how a body's end is the call's end -/
def flv:Flow→Value
 |.ret v=>v
 |_=>.none
theorem z5db {X:Cx} {Q:VK} {fl:Flow} {s':Shared} (h:SP X [] {nx:=fun _ H'=>Q .non H',rt:=Q} fl s') (hex:X.ex=[]):CE X.outer X.prog X.w X.H_0 X.s_0 Q (flv fl) s':=by
 cases fl with
 |brk=>exact (show False from h.elim fun _ q=>q.elim fun _ q=>q.2).elim
 |cont=>exact (show False from h.elim fun _ q=>q.elim fun _ q=>q.2).elim
 |next=>
  obtain⟨_,Hz,J,q⟩:=h
  exact⟨V.non,Hz,J.os,J.bare,by have:=J.base;rw[hex] at this;exact this,J.hok,rfl,q⟩
 |ret u=>
  obtain⟨v,_,Hz,J,rv,q⟩:=h
  exact⟨v,Hz,J.os,J.bare,by have:=J.base;rw[hex] at this;exact this,J.hok,rv,q⟩
theorem zadb {N ps:List Str} {scope:Scope} {us:List Value} {n:Nat} (S:FnScope N ps scope):∀y∈ps.zip us,scope.names.lookup y.1=some .local∨(scope.names.lookup y.1=some .cell∧((cellsFrom n scope.names []).lookup y.1).isSome=true):=by
 intro y hy
 have hm:y.1∈ps:=(List.of_mem_zip (a:=y.1) (b:=y.2) hy).1
 exact (S.par y.1 hm).imp id fun q=>⟨q,PySem.W.cellsFrom_some _ _ _ (.inl q)⟩
/-- a def and its promise, where no repr is under way -/
structure FnG (P:Program) (w:World) (K:Fg) (mg:Str→Option Value) (base:Heap) (k:Nat) (f:Addr) (fd:FuncData) (ps:List Str) (sp:Sp):Prop where
 ln:∀{vs H Q E},sp vs H Q E→vs.length=ps.length
 go:∀{A:Around} {outer:List PySem.Env} {s:Shared} {H:Hp} {args:Args} {us:List Value} {vs:List V} {Q:VK} {E:XK},RoomG k A→Env0 P w K mg base A outer s H→BindsTo s fd args (ps.zip us)→Vals vs us→sp vs H Q E →
  codeAny (model P w) A (.call (.ref f) args) (CR (L2N.CX P w) outer P w H s Q E) s
theorem fn_G {x qual:Str} {params:Arguments} {body:List Stmt} {scope:Scope} {dvs:List V} {kws:List (Str × V)} {f:Addr} {fd:FuncData} {N ps:List Str} {k:Nat} {sp:Sp} (F:FunD K x qual params body scope dvs kws f fd) (S:FnScope N ps scope) (ln:∀{vs H Q E},sp vs H Q E→vs.length=ps.length)
  (hb:∀(cdv:Value) (A:Around) (outer:List PySem.Env) (s:Shared) (H:Hp) (vs:List V) (Q:VK) (E:XK),RoomG k (A.deeper (envOfC qual scope s.heap.objs.size f cdv))→sp vs H Q E →
    ∃t,PSs (cxOf (L2N.CX P w) P w K mg base N qual scope f cdv A outer s H E) body t∧t {nx:=fun _ H'=>Q .non H',rt:=Q} (L2.start N vs) H):FnG P w K mg base (k+1) f fd ps sp:=by
 obtain⟨_,_,_,_,_,_,_,cdv,_,_,rfl,look,code,_,_⟩:=F.ex
 refine⟨ln,?_⟩
 intro A outer s H args us vs Q E room env bound vals want
 have old:∀b o,base.get? b=some o→s.heap.get? b=some o:=fun b o e=>(env.bs b o e).1
 have kin:=env.mod.kin.keeps old
 refine codeAny_call_function room.depth (kin _ _ look) rfl S.co S.gen rfl (PySem.W.codeRec_of kin code) (bound _ _ _ _ (wpAny_newFunctionEnv_cells S.kind (zadb S) ?_))
 rintro _ rfl s1 inside
 obtain⟨t,ht,q⟩:=hb cdv A outer s H vs Q E (room.deeper _) want
 refine⟨(env.mod.nolimit.keeps old).keeps inside.toInCall.keep,codeAny_func (wpAny_mono (ht.run [] s1 _ H _ (inv_start S room.hd env (ln want) vals inside) q) (fun fl s' h=>?_) fun _ _ z=>z)⟩
 have e:=z5db (X:=cxOf (L2N.CX P w) P w K mg base N qual scope f cdv A outer s H E) h rfl
 cases fl <;> exact e
theorem fn_D {x qual:Str} {params:Arguments} {body:List Stmt} {scope:Scope} {dvs:List V} {kws:List (Str × V)} {f:Addr} {fd:FuncData} {N ps:List Str} {k:Nat} {g:DS} (F:FunD K x qual params body scope dvs kws f fd) (S:FnScope N ps scope)
  (hb:∀(cdv:Value) (A:Around) (outer:List PySem.Env) (s:Shared) (H:Hp) (E:XK),RoomG k (A.deeper (envOfC qual scope s.heap.objs.size f cdv)) →
    PSs (cxOf (L2N.CX P w) P w K mg base N qual scope f cdv A outer s H E) body (tS K (fun c d _ H=>E c d H) g)):FnG P w K mg base (k+1) f fd ps (spD K ps.length (runF N.length g)):=
 fn_G F S (fun h=>h.1) fun cdv A outer s H vs Q E hr ⟨_,H1,al,m,ws,r,hws,p⟩=>⟨_,hb cdv A outer s H E hr,H1,al,zup N.length ws,m,r,RpE.start hws,z35 r p⟩
theorem zlab {n:Nat} {F:DF} {vs:List V} {H:Hp} {Q:VK} {E:XK} (h:spR K (lenF n F) vs H Q E):spD K n F vs H Q E:=by
 obtain⟨H1,al,m,ws,rl,hws,p⟩:=h
 unfold lenF at p
 split at p
 ·rename_i hl
  exact⟨by rw[hws.length];exact hl,H1,al,m,ws,rl,hws,p⟩
 ·exact p.elim
theorem z7 {k n:Nat} {f:Addr} {fd:FuncData} {ps:List Str} {F:DF} (Fo:FnG P w K mg base k f fd ps (spD K n F)) (hb:Binds K fd ps []):FnD P w K mg base k f (lenF n F):=by
 intro A outer s H us vs Q E hr e0 r hs
 have q:=zlab hs
 have hl2:(us++[]).length=ps.length:=by rw[List.append_nil,←r.length];exact Fo.ln q
 have b:=hb s us (e0.mod.kin.keeps fun b o e=>(e0.bs b o e).1) hl2
 rw[List.append_nil] at b
 exact Fo.go hr e0 b r q
end
section
variable {X:Cx} {Wx:WX}
/-- what a callee may do, at the caller's slots -/
theorem z0z {k:Nat} {f:Addr} {F:DF} {pins:List (Addr × Obj)} {σ : L2.St} {H:Hp} {s:Shared} {Q:VK} {us:List Value} {vs:List V} (tk:L2N.Takes X Wx) (Fo:FnD X.prog X.w X.K X.mg X.base k f F) (hr:RoomG k X.A) (I:Inv X pins σ H s) (r:Vals vs us)
  (h:spR X.K F vs H Q (fun c d H=>Wx c d σ H)):codeAny (model X.prog X.w) X.A (.call (.ref f) ⟨us,[]⟩) (fun r s'=>match r with |.ok (.ret v)=>EP X pins σ Q v s' |.ok _=>False |.error e=>X.xe e s') s:=by
 refine codeAny_mono (Fo X.A X.stack s H us vs Q _ hr I.env0 r h) fun r s' hq=>?_
 cases r with
 |error e=>exact L2N.passAt tk σ pins H s e s' I hq
 |ok fl=>
  cases fl with
  |ret u=>exact I.after hq
  |next=>exact False.elim hq
  |brk=>exact False.elim hq
  |cont=>exact False.elim hq
theorem zvp {K:Fg} {H1 H:Hp} {al:Gh} {m:Mem} {σ : L2.St} {Q:VK} {F:DF} {ws:List W} {vs:List V} (r:Rel K H1 H al m) (h:RpWs K H1 al vs ws) (p:Post K H1 al σ Wx (GV K Q) (F ws m)):spR K F vs H Q (fun c d H=>Wx c d σ H):=⟨H1,al,m,ws,r,h,z7cb p⟩
theorem de_fn {a:Expr} {es:List Expr} {k:Nat} {f:Addr} {x:Str} {p pos:Pos} {F:DF} {g:DA} (tk:L2N.Takes X Wx) (Fo:FnD X.prog X.w X.K X.mg X.base k f F) (hr:RoomG k X.A) (hg:Gl X x) (hm:X.mg x=some (.ref f))
  (hk:PySem.W.keepIn X.K (.ref f)=true) (ha:PA X (a::es) (tA X.K Wx g)) (hdb:(x==("__debug__" : Str))=false:=by decide) (he:starEach (a::es) X.env=(false,eval a X.env)::starEach es X.env:=by rfl)
  (hpl:(backTo pos (starEach es X.env)).any (·.1)=false:=by rfl):PE X (.Call (.Name x p) (a::es) [] pos) (tD X.K Wx (eFn F g)):=by
 refine⟨fun pins s σ H Q I h=>?_⟩
 have h2:tA X.K Wx g σ H fun vs H'=>spR X.K F vs H' Q (fun c d H=>Wx c d σ H):=zsk (R:=fun vs H Q=>spR X.K F vs H Q (fun c d H=>Wx c d σ H)) h fun H1 H al m ws vs r hvs p=>zvp r hvs p
 refine wpAny_Call_Name_kw (ld_glob I hg hm ?_ hdb)
 refine PySem.W.callWith_K (h₀:=X.base) I.ok.mod.kin hk (thn (ha.run pos pins s σ H _ I h2) fun us s1 ⟨vs,H1,I1,r,q⟩=>⟨I1.kIn,?_⟩) he hpl
 exact wpAny_call (z0z tk Fo hr I1 r q)
end
end DL
namespace DL
open PySem PySem.Spec L2
open PyProof.Rows hiding St
open Evl (Ex)
theorem zgc {α : Type} {c:Prop} [Decidable c] {x y : α} (h:chk c x=some y):c∧x=y:=by
 unfold chk at h
 by_cases hc:c
 ·rw[if_pos hc] at h
  exact⟨hc,Option.some.inj h⟩
 ·rw[if_neg hc] at h
  cases h
theorem z7b {α : Type} {c:Prop} [Decidable c] {x : α} (h:c):chk c x=some x:=if_pos h
def mulD:D→D→Option D
 |.int i,.int j=>chk (CMul i j) (.int (i*j))
 |.str x,.int n=>chk (MulOk x n) (.str (Txt.mul x n))
 |.lst a,.int k=>chk (-(2 ^ 63)≤k∧k<2 ^ 63∧a.length*k.toNat≤sizeLine) (.lst (List.replicate k.toNat a).flatten)
 |_,_=>none
def fdivD:D→D→Option D
 |.int i,.int j=>chk (0<j∧j<1073741824) (.int (i / j))
 |_,_=>none
def modD:D→D→Option D
 |.int i,.int j=>chk (0<j) (.int (i % j))
 |_,_=>none
def powD:D→D→Option D
 |.int i,.int j=>chk (CPow i j) (.int (i ^ j.toNat))
 |_,_=>none
def z4v:D→D→Option D
 |.non,.non=>some (.bl true)
 |.cls _,.non=>none
 |.opq,.non=>none
 |_,.non=>some (.bl false)
 |_,_=>none
def ztn:D→D→Option D
 |.non,.non=>some (.bl false)
 |.cls _,.non=>none
 |.opq,.non=>none
 |_,.non=>some (.bl true)
 |_,_=>none
def ninSD:D→D→Option D
 |.str i,.str j=>some (.bl (!(!(Builtin.Str.occurrences j i 0 j.length 1).isEmpty)))
 |_,_=>none
mutual
theorem zl1 {K:Fg} {H1 H:Hp} (e:Ex H1 H):∀{d:D} {v:V} {p:PyData},Rp K H1 v d→toP d=some p→Dp K H v p
 |.non,_,_,h,q=>by cases h;cases q;exact .non
 |.bl b,_,_,h,q=>by cases h;cases q;exact .bl b
 |.int i,_,_,h,q=>by cases h;cases q;exact .int i
 |.str x,_,_,h,q=>by cases h;cases q;exact .str x
 |.lst ds,_,_,h,q=>by
  cases h with
  |lst h1 h2=>
   unfold toP at q
   cases hp:toPs ds with
   |none=>rw[hp] at q;cases q
   |some ps=>
    rw[hp] at q
    cases q
    exact .lst (SqL.of (e _ _ h1)) (zav e h2 hp)
 |.fz ds,_,_,h,q=>by
  cases h with
  |fz h1 h2=>
   unfold toP at q
   cases hp:toPs ds with
   |none=>rw[hp] at q;cases q
   |some ps=>
    rw[hp] at q
    cases q
    exact .lst (Evl.ex_l e h1) (zav e h2 hp)
 |.tup ds,_,_,h,q=>by
  cases h with
  |tup h1 h2=>
   unfold toP at q
   cases hp:toPs ds with
   |none=>rw[hp] at q;cases q
   |some ps=>
    rw[hp] at q
    cases q
    exact .tup (Evl.ex_t e h1) (zav e h2 hp)
 |.obj _ _ _,_,_,_,q=>by unfold toP at q;cases q
 |.dic _ _,_,_,_,q=>by unfold toP at q;cases q
 |.cls _,_,_,_,q=>by unfold toP at q;cases q
theorem zav {K:Fg} {H1 H:Hp} (e:Ex H1 H):∀{ds:List D} {vs:List V} {ps:List PyData},RpL K H1 vs ds→toPs ds=some ps→DpAll K H vs ps
 |[],_,_,h,q=>by cases h;unfold toPs at q;cases q;exact .nil
 |d::ds,_,_,h,q=>by
  cases h with
  |cons h1 h2=>
   unfold toPs at q
   cases hp:toP d with
   |none=>rw[hp] at q;cases q
   |some p=>
    rw[hp] at q
    cases hq:toPs ds with
    |none=>rw[hq] at q;cases q
    |some ps=>
     rw[hq] at q
     cases q
     exact .cons (zl1 e h1 hp) (zav e h2 hq)
end
theorem rh_dp {K:Fg} {H1 H:Hp} (e:Ex H1 H) {d:D} {v:V} {p:PyData} (h:Rh K H1 H v d) (q:toP d=some p):Dp K H v p:=by
 cases h with
 |p h=>exact zl1 e h q
 | @c a c hlv hc=>
   cases c with
   |zd _=>cases hlv
   |obj _ _ _=>unfold Cell.toD toP at q;cases q
   |dic _ _=>unfold Cell.toD toP at q;cases q
   |dn _ _=>unfold Cell.toD toP at q;cases q
   |dt _ _=>unfold Cell.toD toP at q;cases q
   |hp _=>cases hlv
   |lst ds=>
    obtain⟨vs,h1,h2⟩:=hc
    unfold Cell.toD toP at q
    cases hp:toPs ds with
    |none=>rw[hp] at q;cases q
    |some ps=>
     rw[hp] at q
     cases q
     exact .lst (SqL.of h1) (zav e h2 hp)
section
variable {X:Cx}
theorem zur {f:Value→Value→Sem Value} {r r':R2} (h:OpR X f r) (h':OpR X f r'):OpR X f (fun x y H Q=>r x y H Q∨r' x y H Q):=
 fun pins s σ H x y u v Q I rx ry q=>q.elim (h pins s σ H x y u v Q I rx ry) (h' pins s σ H x y u v Q I rx ry)
theorem zogb:OpR X (binaryOp .Mult) (fun x y H Q=>∃i n,x = .str i∧y = .int n∧MulOk i n∧Q (.str (Txt.mul i n)) H):=by
 intro pins s σ H x y u v Q I rx ry h
 obtain⟨i,n,rfl,rfl,hc,q⟩:=h
 obtain⟨t,rfl⟩:=rx
 obtain⟨t',rfl⟩:=ry
 exact SB.mul hc fun t2 k=>⟨.str _,H,I.tok k,⟨_,rfl⟩,q⟩
theorem z5:OpOk X (binaryOp .Add) addD:=by
 refine⟨_,zur op_add (zur op_add_str (zur op_cat op_catT)),fun H1 H al m v w x y z Q r hx hy hz k=>?_⟩
 cases x <;> cases y <;> first |(cases hz;done) |skip
 ·cases hx.int;cases hy.int;cases hz
  exact .inl ⟨_,_,rfl,rfl,k H1 H _ (Ex.refl _) r (.int _)⟩
 ·cases hx.str;cases hy.str
  obtain⟨hc,rfl⟩:=zgc hz
  exact .inr (.inl ⟨_,_,rfl,rfl,hc,k H1 H _ (Ex.refl _) r (.str _)⟩)
 ·obtain⟨a,vs,rfl,h1,h2⟩:=hx.lst r.ex
  obtain⟨b,us,rfl,h3,h4⟩:=hy.lst r.ex
  obtain⟨hc,rfl⟩:=zgc hz
  refine .inr (.inr (.inl ⟨_,_,_,_,rfl,rfl,h1,h3,by rw[h2.length,h4.length];exact hc,fun p hp=>?_⟩))
  obtain⟨q1,q2,q3⟩:=zcm r (h2.append h4) hp
  exact k _ _ _ q1 q2 q3
 ·obtain⟨a,vs,rfl,h1,h2⟩:=hx.tup r.ex
  obtain⟨b,us,rfl,h3,h4⟩:=hy.tup r.ex
  obtain⟨⟨hc1,hc2,hc⟩,rfl⟩:=zgc hz
  have n1:vs≠[]:=fun e=>hc1 (by subst e;cases h2;rfl)
  have n2:us≠[]:=fun e=>hc2 (by subst e;cases h4;rfl)
  refine .inr (.inr (.inr ⟨_,_,_,_,rfl,rfl,h1,h3,n1,by rw[h2.length,h4.length];exact hc,fun e=>absurd e n2,fun _ p hp=>?_⟩))
  obtain⟨q1,q2,q3⟩:=zqn r (h2.append h4) hp
  exact k _ _ _ q1 q2 q3
theorem ztr:OpOk X (binaryOp .Sub) subD:=by
 refine⟨_,op_sub,fun H1 H al m v w x y z Q r hx hy hz k=>?_⟩
 cases x <;> cases y <;> first |(cases hz;done) |skip
 cases hx.int;cases hy.int;cases hz
 exact⟨_,_,rfl,rfl,k H1 H _ (Ex.refl _) r (.int _)⟩
theorem RpL.rep {K:Fg} {H:Hp} {vs:List V} {ds:List D} (h:RpL K H vs ds):∀n,RpL K H (List.replicate n vs).flatten (List.replicate n ds).flatten
 | 0=>by simp;exact .nil
 |n+1=>by
  rw[List.replicate_succ,List.replicate_succ,List.flatten_cons,List.flatten_cons]
  exact h.append (RpL.rep h n)
theorem zfk:OpOk X (binaryOp .Mult) mulD:=by
 refine⟨_,zur op_mul (zur zogb op_rep),fun H1 H al m v w x y z Q r hx hy hz k=>?_⟩
 cases x <;> cases y <;> first |(cases hz;done) |skip
 ·cases hx.int;cases hy.int
  obtain⟨hc,rfl⟩:=zgc hz
  exact .inl ⟨_,_,rfl,rfl,hc,k H1 H _ (Ex.refl _) r (.int _)⟩
 ·cases hx.str;cases hy.int
  obtain⟨hc,rfl⟩:=zgc hz
  exact .inr (.inl ⟨_,_,rfl,rfl,hc,k H1 H _ (Ex.refl _) r (.str _)⟩)
 ·obtain⟨a,vs,rfl,h1,h2⟩:=hx.lst r.ex
  cases hy.int
  obtain⟨⟨hc1,hc2,hc⟩,rfl⟩:=zgc hz
  refine .inr (.inr ⟨_,_,_,rfl,rfl,h1,hc1,hc2,by rw[h2.length];exact hc,fun p hp=>?_⟩)
  obtain⟨q1,q2,q3⟩:=zcm r (h2.rep _) hp
  exact k _ _ _ q1 q2 q3
theorem ztv:OpOk X (binaryOp .FloorDiv) fdivD:=by
 refine⟨_,op_fdiv,fun H1 H al m v w x y z Q r hx hy hz k=>?_⟩
 cases x <;> cases y <;> first |(cases hz;done) |skip
 cases hx.int;cases hy.int
 obtain⟨hc,rfl⟩:=zgc hz
 exact⟨_,_,rfl,rfl,hc,k H1 H _ (Ex.refl _) r (.int _)⟩
theorem z7o:OpOk X (binaryOp .Mod) modD:=by
 refine⟨_,op_mod,fun H1 H al m v w x y z Q r hx hy hz k=>?_⟩
 cases x <;> cases y <;> first |(cases hz;done) |skip
 cases hx.int;cases hy.int
 obtain⟨hc,rfl⟩:=zgc hz
 exact⟨_,_,rfl,rfl,hc,k H1 H _ (Ex.refl _) r (.int _)⟩
theorem z55:OpOk X (binaryOp .Pow) powD:=by
 refine⟨_,op_pow,fun H1 H al m v w x y z Q r hx hy hz k=>?_⟩
 cases x <;> cases y <;> first |(cases hz;done) |skip
 cases hx.int;cases hy.int
 obtain⟨hc,rfl⟩:=zgc hz
 exact⟨_,_,rfl,rfl,hc,k H1 H _ (Ex.refl _) r (.int _)⟩
theorem z3s:OpOk X (compareOp .Lt) ltD:=by
 refine⟨_,zur op_lt op_lt_str,fun H1 H al m v w x y z Q r hx hy hz k=>?_⟩
 cases x <;> cases y <;> first |(cases hz;done) |skip
 ·cases hx.int;cases hy.int;cases hz
  exact .inl ⟨_,_,rfl,rfl,k H1 H _ (Ex.refl _) r (.bl _)⟩
 ·cases hx.str;cases hy.str;cases hz
  exact .inr ⟨_,_,rfl,rfl,k H1 H _ (Ex.refl _) r (.bl _)⟩
theorem zsn:OpOk X (compareOp .LtE) leD:=by
 refine⟨_,zur op_le op_le_str,fun H1 H al m v w x y z Q r hx hy hz k=>?_⟩
 cases x <;> cases y <;> first |(cases hz;done) |skip
 ·cases hx.int;cases hy.int;cases hz
  exact .inl ⟨_,_,rfl,rfl,k H1 H _ (Ex.refl _) r (.bl _)⟩
 ·cases hx.str;cases hy.str;cases hz
  exact .inr ⟨_,_,rfl,rfl,k H1 H _ (Ex.refl _) r (.bl _)⟩
theorem zgq:OpOk X (compareOp .Gt) gtD:=by
 refine⟨_,op_gt,fun H1 H al m v w x y z Q r hx hy hz k=>?_⟩
 cases x <;> cases y <;> first |(cases hz;done) |skip
 cases hx.int;cases hy.int;cases hz
 exact⟨_,_,rfl,rfl,k H1 H _ (Ex.refl _) r (.bl _)⟩
theorem z39:OpOk X (compareOp .GtE) geD:=by
 refine⟨_,op_ge,fun H1 H al m v w x y z Q r hx hy hz k=>?_⟩
 cases x <;> cases y <;> first |(cases hz;done) |skip
 cases hx.int;cases hy.int;cases hz
 exact⟨_,_,rfl,rfl,k H1 H _ (Ex.refl _) r (.bl _)⟩
theorem Rh.notNon {K:Fg} {H1 H:Hp} {v:V} {x:D} (h:Rh K H1 H v x) (n:x ≠ .non) (n2:x ≠ .opq):v ≠ .non:=by
 rintro rfl
 cases h with
 |p h=>cases h <;> first |exact n rfl |exact n2 rfl
theorem z33:OpOk X (compareOp .Is) z4v:=by
 refine⟨_,op_isN,fun H1 H al m v w x y z Q r hx hy hz k=>?_⟩
 cases y <;> first |(cases x <;> cases hz;done) |skip
 cases hy.non
 refine⟨rfl,?_⟩
 cases x <;> first
  |(cases hz;done)
  |(cases hx.non;cases hz;exact k H1 H _ (Ex.refl _) r (.bl true))
  |(cases hz;rw[decide_eq_false (hx.notNon (by intro h;cases h) (by intro h;cases h))];exact k H1 H _ (Ex.refl _) r (.bl false))
theorem z4s:OpOk X (compareOp .IsNot) ztn:=by
 refine⟨_,op_notN,fun H1 H al m v w x y z Q r hx hy hz k=>?_⟩
 cases y <;> first |(cases x <;> cases hz;done) |skip
 cases hy.non
 refine⟨rfl,?_⟩
 cases x <;> first
  |(cases hz;done)
  |(cases hx.non;cases hz;exact k H1 H _ (Ex.refl _) r (.bl false))
  |(cases hz;rw[decide_eq_false (hx.notNon (by intro h;cases h) (by intro h;cases h))];exact k H1 H _ (Ex.refl _) r (.bl true))
theorem zz (hu:X.A.units+64<cLine):OpOk X (compareOp .Eq) eqD:=by
 refine⟨_,zur (op_eqD hu) op_eq,fun H1 H al m v w x y z Q r hx hy hz k=>?_⟩
 by_cases hs:∃a b,x = .str a∧y = .str b
 ·obtain⟨a,b,rfl,rfl⟩:=hs
  cases hx.str
  cases hy.str
  cases hz
  exact .inr ⟨rfl,by
   have e:decide ((V.str a)=V.str b)=decide (a=b):=by simp
   rw[e]
   exact k H1 H _ (Ex.refl _) r (.bl _)⟩
 refine .inl ?_
 replace hz:eqP x y=some z:=by
  unfold eqD at hz
  split at hz
  ·exact absurd ⟨_,_,rfl,rfl⟩ hs
  ·exact hz
 unfold eqP at hz
 cases hp:toP x with
 |none=>rw[hp] at hz;cases hz
 |some p=>
  rw[hp] at hz
  cases hq:toP y with
  |none=>rw[hq] at hz;cases hz
  |some q=>
   rw[hq] at hz
   obtain⟨⟨h1,h2⟩,rfl⟩:=zgc hz
   exact⟨p,q,rh_dp r.ex hx hp,rh_dp r.ex hy hq,h1,h2,k H1 H _ (Ex.refl _) r (.bl _)⟩
theorem zrn (hu:X.A.units+64<cLine):OpOk X (compareOp .NotEq) neD:=by
 refine⟨_,zur (op_neD hu) op_ne,fun H1 H al m v w x y z Q r hx hy hz k=>?_⟩
 by_cases hs:∃a b,x = .str a∧y = .str b
 ·obtain⟨a,b,rfl,rfl⟩:=hs
  cases hx.str
  cases hy.str
  cases hz
  exact .inr ⟨rfl,by
   have e:decide ((V.str a)=V.str b)=decide (a=b):=by simp
   rw[e]
   exact k H1 H _ (Ex.refl _) r (.bl _)⟩
 refine .inl ?_
 replace hz:neP x y=some z:=by
  unfold neD at hz
  split at hz
  ·exact absurd ⟨_,_,rfl,rfl⟩ hs
  ·exact hz
 unfold neP at hz
 cases hp:toP x with
 |none=>rw[hp] at hz;cases hz
 |some p=>
  rw[hp] at hz
  cases hq:toP y with
  |none=>rw[hq] at hz;cases hz
  |some q=>
   rw[hq] at hz
   obtain⟨⟨h1,h2⟩,rfl⟩:=zgc hz
   exact⟨p,q,rh_dp r.ex hx hp,rh_dp r.ex hy hq,h1,h2,k H1 H _ (Ex.refl _) r (.bl _)⟩
theorem z29:OpOk X (compareOp .NotIn) ninSD:=by
 refine⟨_,op_notin_str,fun H1 H al m v w x y z Q r hx hy hz k=>?_⟩
 cases x <;> cases y <;> first |(cases hz;done) |skip
 cases hx.str;cases hy.str;cases hz
 exact⟨_,_,rfl,rfl,k H1 H _ (Ex.refl _) r (.bl _)⟩
theorem z0d:UnOk X (unaryOp .USub) negD:=by
 refine⟨_,un_neg,fun H1 H al m v x z Q r hx hz k=>?_⟩
 cases x <;> first |(cases hz;done) |skip
 cases hx.int;cases hz
 exact⟨_,rfl,k H1 H _ (Ex.refl _) r (.int _)⟩
theorem bl_lt:∀x y z,ltD x y=some z→∃k,z = .bl k:=by
 intro x y z h
 cases x <;> cases y <;> first |(cases h;done) |(cases h;exact⟨_,rfl⟩)
theorem bl_le:∀x y z,leD x y=some z→∃k,z = .bl k:=by
 intro x y z h
 cases x <;> cases y <;> first |(cases h;done) |(cases h;exact⟨_,rfl⟩)
theorem bl_gt:∀x y z,gtD x y=some z→∃k,z = .bl k:=by
 intro x y z h
 cases x <;> cases y <;> first |(cases h;done) |(cases h;exact⟨_,rfl⟩)
theorem bl_ge:∀x y z,geD x y=some z→∃k,z = .bl k:=by
 intro x y z h
 cases x <;> cases y <;> first |(cases h;done) |(cases h;exact⟨_,rfl⟩)
theorem bl_is:∀x y z,z4v x y=some z→∃k,z = .bl k:=by
 intro x y z h
 cases y <;> cases x <;> first |(cases h;done) |(cases h;exact⟨_,rfl⟩)
theorem z90:∀x y z,ztn x y=some z→∃k,z = .bl k:=by
 intro x y z h
 cases y <;> cases x <;> first |(cases h;done) |(cases h;exact⟨_,rfl⟩)
theorem zalb:∀x y z,eqP x y=some z→∃k,z=D.bl k:=fun x y z h=>by
 unfold eqP at h
 split at h
 ·split at h
  ·exact⟨_,(zgc h).2.symm⟩
  ·cases h
 ·cases h
theorem z9kb:∀x y z,neP x y=some z→∃k,z=D.bl k:=fun x y z h=>by
 unfold neP at h
 split at h
 ·split at h
  ·exact⟨_,(zgc h).2.symm⟩
  ·cases h
 ·cases h
theorem bl_eq:∀x y z,eqD x y=some z→∃k,z=D.bl k:=fun x y z h=>by
 unfold eqD at h
 split at h
 ·cases h
  exact⟨_,rfl⟩
 ·exact zalb _ _ _ h
theorem bl_ne:∀x y z,neD x y=some z→∃k,z=D.bl k:=fun x y z h=>by
 unfold neD at h
 split at h
 ·cases h
  exact⟨_,rfl⟩
 ·exact z9kb _ _ _ h
end
end DL
namespace DL
open PySem PySem.Spec L2
open PyProof.Rows hiding St
open Evl (Ex)
def zgn (X:Cx) (f:Value) (g:List D→Option D):Prop:=∃r,CallR X f r ∧
 ∀H1 H al m vs xs z Q,Rel X.K H1 H al m→RhL X.K H1 H vs xs→g xs=some z→(∀H1' H' u,Ex H1 H1'→Rel X.K H1' H' al m→Rp X.K H1' u z→Q u H')→r vs H Q
section
variable {X:Cx} {Wx:WX} {a:Expr} {es:List Expr} {x:Str} {p pos:Pos} {f:DA} {g:List D→Option D} {id:String}
theorem z46 {f:Value} {r r':List V→Hp→VK→Prop} (h:CallR X f r) (h':CallR X f r'):CallR X f (fun xs H Q=>r xs H Q∨r' xs H Q):=
 fun pins s σ H xs us Q I rx q=>q.elim (h pins s σ H xs us Q I rx) (h' pins s σ H xs us Q I rx)
theorem z8o {K:Fg} {H1 H:Hp} {al:Gh} {m:Mem} {σ : L2.St} {Q:VK} {g:List D→Option D} {ws:List W} {vs:List V} {r:List V→Hp→VK→Prop} (rl:Rel K H1 H al m) (hx:RpWs K H1 al vs ws)
  (hr:∀H1 H al m vs xs z Q,Rel K H1 H al m→RhL K H1 H vs xs→g xs=some z→(∀H1' H' u,Ex H1 H1'→Rel K H1' H' al m→Rp K H1' u z→Q u H')→r vs H Q)
  (p:Post K H1 al σ Wx (GV K Q) (liftA g ws m)):r vs H Q:=by
 unfold liftA at p
 split at p
 ·rename_i xs hxs
  split at p
  ·rename_i z hz
   exact hr H1 H al m vs xs z Q rl (z4z rl hx hxs) hz fun H1' H' u e r' q=>p H1' al H' e (zkb _) r' u q
  ·exact p.elim
 ·exact p.elim
theorem zkk (hc:zgn X (.builtin id) g) (hg:Gl X x) (hm:X.mg x=none) (hv:bootBuiltins x=some (.builtin id)) (ha:PA X (a::es) (tA X.K Wx f)) (hn:x ≠ "__name__" := by decide) (hdb:(x==("__debug__" : Str))=false:=by decide)
  (he:starEach (a::es) X.env=(false,eval a X.env)::starEach es X.env:=by rfl) (hpl:(backTo pos (starEach es X.env)).any (·.1)=false:=by rfl):PE X (.Call (.Name x p) (a::es) [] pos) (tD X.K Wx (eB g f)):=by
 obtain⟨r,hr,hs⟩:=hc
 exact peImp (pe_callB hr hg hm hv ha hn hdb he hpl) fun σ H Q h=>zsk (R:=r) h fun H1 H al m ws vs rl hvs p=>z8o rl hvs hs p
theorem zvc {T:String} (hc:zgn X (.type T) g) (hg:Gl X x) (hm:X.mg x=none) (hv:bootBuiltins x=some (.type T)) (ha:PA X (a::es) (tA X.K Wx f)) (hn:x ≠ "__name__" := by decide) (hdb:(x==("__debug__" : Str))=false:=by decide)
  (he:starEach (a::es) X.env=(false,eval a X.env)::starEach es X.env:=by rfl) (hpl:(backTo pos (starEach es X.env)).any (·.1)=false:=by rfl):PE X (.Call (.Name x p) (a::es) [] pos) (tD X.K Wx (eB g f)):=by
 obtain⟨r,hr,hs⟩:=hc
 exact peImp (pe_callTy hr hg hm hv ha hn hdb he hpl) fun σ H Q h=>zsk (R:=r) h fun H1 H al m ws vs rl hvs p=>z8o rl hvs hs p
end
theorem Rh.sql {K:Fg} {H1 H:Hp} {v:V} {x:D} {ds:List D} (e:Ex H1 H) (h:Rh K H1 H v x) (hs:lstD x=some ds):∃a vs,v = .ref a∧SqL K H a vs∧RpL K H1 vs ds:=by
 cases x <;> first |(cases hs;done) |skip
 ·obtain⟨a,vs,e1,h1,h2⟩:=h.lst e
  cases hs
  exact⟨a,vs,e1,SqL.of h1,h2⟩
 ·obtain⟨a,vs,e1,h1,h2⟩:=h.fz e
  cases hs
  exact⟨a,vs,e1,h1,h2⟩
def z4l:List D→Option (List Str)
 |[]=>some []
 |.str i::r=>(z4l r).map (i :: ·)
 |_::_=>none
def asBls:List D→Option (List Bool)
 |[]=>some []
 |.bl i::r=>(asBls r).map (i :: ·)
 |_::_=>none
theorem zss:∀{ds:List D} {ns:List Int},zts ds=some ns→ds=ns.map D.int
 |[],_,h=>by cases h;rfl
 |.int i::r,_,h=>by
  obtain⟨x,h1,h2⟩:=Option.map_eq_some_iff.mp (show (zts r).map (i :: ·)=some _ from h)
  subst h2
  rw[zss h1] <;> rfl
 |.non::_,_,h |.bl _::_,_,h |.str _::_,_,h |.lst _::_,_,h |.tup _::_,_,h |.fz _::_,_,h |.obj _ _ _::_,_,h |.dic _ _::_,_,h |.cls _::_,_,h=>by cases h
theorem zcx:∀{ds:List D} {ns:List Str},z4l ds=some ns→ds=ns.map D.str
 |[],_,h=>by cases h;rfl
 |.str i::r,_,h=>by
  obtain⟨x,h1,h2⟩:=Option.map_eq_some_iff.mp (show (z4l r).map (i :: ·)=some _ from h)
  subst h2
  rw[zcx h1] <;> rfl
 |.non::_,_,h |.bl _::_,_,h |.int _::_,_,h |.lst _::_,_,h |.tup _::_,_,h |.fz _::_,_,h |.obj _ _ _::_,_,h |.dic _ _::_,_,h |.cls _::_,_,h=>by cases h
theorem z86:∀{ds:List D} {ns:List Bool},asBls ds=some ns→ds=ns.map D.bl
 |[],_,h=>by cases h;rfl
 |.bl i::r,_,h=>by
  obtain⟨x,h1,h2⟩:=Option.map_eq_some_iff.mp (show (asBls r).map (i :: ·)=some _ from h)
  subst h2
  rw[z86 h1] <;> rfl
 |.non::_,_,h |.str _::_,_,h |.int _::_,_,h |.lst _::_,_,h |.tup _::_,_,h |.fz _::_,_,h |.obj _ _ _::_,_,h |.dic _ _::_,_,h |.cls _::_,_,h=>by cases h
theorem zqz (ns:List Int):zts (ns.map D.int)=some ns:=by
 induction ns with
 |nil=>rfl
 |cons a r ih=>show (zts (r.map D.int)).map (a :: ·)=_;rw[ih];rfl
theorem zm8 (ns:List Str):z4l (ns.map D.str)=some ns:=by
 induction ns with
 |nil=>rfl
 |cons a r ih=>show (z4l (r.map D.str)).map (a :: ·)=_;rw[ih];rfl
theorem zicb (ns:List Bool):asBls (ns.map D.bl)=some ns:=by
 induction ns with
 |nil=>rfl
 |cons a r ih=>show (asBls (r.map D.bl)).map (a :: ·)=_;rw[ih];rfl
def maxI:List Int→Int
 |[]=>0
 |a::r=>r.foldl (fun x y=>if x<y then y else x) a
theorem fold_max:∀(r:List Int) (a:Int),(r.foldl (fun x y=>if x<y then y else x) a=a∨r.foldl (fun x y=>if x<y then y else x) a∈r)∧a≤r.foldl (fun x y=>if x<y then y else x) a∧∀y∈r,y≤r.foldl (fun x y=>if x<y then y else x) a
 |[],a=>⟨.inl rfl,Int.le_refl _,fun _ h=>nomatch h⟩
 |b::r,a=>by
  obtain⟨h1,h2,h3⟩:=fold_max r (if a<b then b else a)
  rw[List.foldl_cons]
  by_cases hb:a<b
  ·rw[if_pos hb] at h1 h2 h3 ⊢
   refine⟨.inr ?_,by omega,fun y hy=>?_⟩
   ·rcases h1 with h1 |h1
    ·rw[h1];exact List.mem_cons_self
    ·exact List.mem_cons_of_mem _ h1
   ·rcases List.mem_cons.mp hy with e |hy
    ·subst e;exact h2
    ·exact h3 y hy
  ·rw[if_neg hb] at h1 h2 h3 ⊢
   refine⟨h1.imp id (List.mem_cons_of_mem _),h2,fun y hy=>?_⟩
   rcases List.mem_cons.mp hy with e |hy
   ·subst e;omega
   ·exact h3 y hy
theorem zndb {l:List Int} (h:l≠[]):maxI l∈l:=by
 cases l with
 |nil=>exact absurd rfl h
 |cons a r=>
  rcases (fold_max r a).1 with e |e
  ·show r.foldl _ a∈_
   rw[e];exact List.mem_cons_self
  ·exact List.mem_cons_of_mem _ e
theorem z83 {l:List Int}:∀y∈l,y≤maxI l:=by
 cases l with
 |nil=>exact fun _ h=>nomatch h
 |cons a r=>
  intro y hy
  rcases List.mem_cons.mp hy with e |hy
  ·subst e;exact (fold_max r y).2.1
  ·exact (fold_max r a).2.2 y hy
theorem z1gb {l:List Int} {n:Int} (h:n∈l) (hl:∀y∈l,y≤n):n=maxI l:=Int.le_antisymm (z83 n h) (hl _ (zndb (List.ne_nil_of_mem h)))
def maxLD:List D→Option D
 |[x]=>(match lstD x with
  |some ds=>(match zts ds with
   |some ns=>chk (ns≠[]) (.int (maxI ns))
   |none=>none)
  |none=>none)
 |_=>none
def allD:List D→Option D
 |[x]=>(match lstD x with
  |some ds=>(match asBls ds with
   |some ns=>some (.bl (ns.all id))
   |none=>none)
  |none=>none)
 |_=>none
def listD:List D→Option D
 |[x]=>(match seqD x with
  |some ds=>some (.lst ds)
  |none=>none)
 |_=>none
section
variable {X:Cx}
theorem rh1 {K:Fg} {H1 H:Hp} {vs:List V} {x:D} (h:RhL K H1 H vs [x]):∃v,vs=[v]∧Rh K H1 H v x:=by
 cases h with
 |cons a b=>cases b;exact⟨_,rfl,a⟩
theorem zh8:zgn X (.builtin "len") lenD:=by
 refine⟨_,z46 call_len_str call_len_seq,fun H1 H al m vs xs z Q r hx hz k=>?_⟩
 unfold lenD at hz
 split at hz
 ·obtain⟨v,rfl,h⟩:=rh1 hx
  cases h.str
  obtain⟨hc,rfl⟩:=zgc hz
  exact .inl ⟨_,rfl,hc,k H1 H _ (Ex.refl _) r (.int _)⟩
 ·obtain⟨v,rfl,h⟩:=rh1 hx
  split at hz
  ·rename_i ds hds
   obtain⟨a,us,rfl,h1,h2⟩:=h.seq r.ex hds
   cases hz
   rw[←h2.length] at k
   exact .inr ⟨_,_,rfl,h1,k H1 H _ (Ex.refl _) r (.int _)⟩
  ·cases hz
 ·cases hz
theorem z6e:zgn X (.type "int") intD:=by
 refine⟨_,call_int1.or call_int_str,fun H1 H al m vs xs z Q r hx hz k=>?_⟩
 unfold intD at hz
 split at hz
 ·obtain⟨v,rfl,h⟩:=rh1 hx
  cases h.int
  cases hz
  exact .inl (.inl ⟨_,rfl,k H1 H _ (Ex.refl _) r (.int _)⟩)
 ·obtain⟨v,rfl,h⟩:=rh1 hx
  cases h.bl
  cases hz
  exact .inl (.inr ⟨_,rfl,k H1 H _ (Ex.refl _) r (.int _)⟩)
 ·obtain⟨v,rfl,h⟩:=rh1 hx
  cases h.str
  split at hz
  ·rename_i n hn
   obtain⟨hl,rfl⟩:=zgc hz
   exact .inr ⟨_,n,rfl,hn,hl,k H1 H _ (Ex.refl _) r (.int _)⟩
  ·cases hz
 ·cases hz
theorem zn5 (hc:X.calm=true):zgn X (.builtin "max") maxLD:=by
 refine⟨_,cr_max hc,fun H1 H al m vs xs z Q r hx hz k=>?_⟩
 unfold maxLD at hz
 split at hz
 ·obtain⟨v,rfl,h⟩:=rh1 hx
  split at hz
  ·rename_i ds hds
   obtain⟨a,us,rfl,h1,h2⟩:=h.sql r.ex hds
   split at hz
   ·rename_i ns hns
    obtain⟨hne,rfl⟩:=zgc hz
    rw[zss hns] at h2
    have e:=h2.of_ints
    subst e
    refine⟨a,ns,rfl,h1,List.length_pos_iff.mpr hne,fun n hn hl=>?_⟩
    rw[z1gb hn hl]
    exact k H1 H _ (Ex.refl _) r (.int _)
   ·cases hz
  ·cases hz
 ·cases hz
theorem zi8 (hc:X.calm=true):zgn X (.builtin "all") allD:=by
 refine⟨_,cr_all hc,fun H1 H al m vs xs z Q r hx hz k=>?_⟩
 unfold allD at hz
 split at hz
 ·obtain⟨v,rfl,h⟩:=rh1 hx
  split at hz
  ·rename_i ds hds
   obtain⟨a,us,rfl,h1,h2⟩:=h.sql r.ex hds
   split at hz
   ·rename_i ns hns
    cases hz
    rw[z86 hns] at h2
    have e:=h2.of_bls
    subst e
    exact⟨a,ns,rfl,h1,k H1 H _ (Ex.refl _) r (.bl _)⟩
   ·cases hz
  ·cases hz
 ·cases hz
theorem zei:zgn X (.type "tuple") z5m:=by
 refine⟨_,call_tuple_of,fun H1 H al m vs xs z Q r hx hz k=>?_⟩
 unfold z5m at hz
 split at hz
 ·obtain⟨v,rfl,h⟩:=rh1 hx
  cases hz
  rename_i ds
  generalize e:D.tup ds=x at h
  cases h with
  |p h=>
   subst e
   cases h with
   |tup h1 h2=>exact⟨_,_,rfl,.inr ⟨Evl.ex_t r.ex h1,k H1 H _ (Ex.refl _) r (.tup h1 h2)⟩⟩
  | @c a c hl q=>cases c <;> first |(cases hl;done) |cases e
 ·obtain⟨v,rfl,h⟩:=rh1 hx
  cases hz
  obtain⟨a,us,rfl,h1,h2⟩:=h.lst r.ex
  refine⟨_,_,rfl,.inl ⟨SqL.of h1,fun l hl=>?_⟩⟩
  obtain⟨q1,q2,q3⟩:=zqn r h2 hl
  exact k _ _ _ q1 q2 q3
 ·obtain⟨v,rfl,h⟩:=rh1 hx
  cases hz
  obtain⟨a,us,rfl,h1,h2⟩:=h.fz r.ex
  refine⟨_,_,rfl,.inl ⟨h1,fun l hl=>?_⟩⟩
  obtain⟨q1,q2,q3⟩:=zqn r h2 hl
  exact k _ _ _ q1 q2 q3
 ·cases hz
theorem ztj:zgn X (.type "list") listD:=by
 refine⟨_,call_list_of,fun H1 H al m vs xs z Q r hx hz k=>?_⟩
 unfold listD at hz
 split at hz
 ·obtain⟨v,rfl,h⟩:=rh1 hx
  split at hz
  ·rename_i ds hds
   obtain⟨a,us,rfl,h1,h2⟩:=h.seq r.ex hds
   cases hz
   refine⟨_,_,rfl,h1,fun l hl=>?_⟩
   obtain⟨q1,q2,q3⟩:=zcm r h2 hl
   exact k _ _ _ q1 q2 q3
  ·cases hz
 ·cases hz
end
def MtOk (X:Cx) (id:String) (g:D→List D→Option D):Prop:=∃r,MtR X id r ∧
 ∀H1 H al m v vs x xs z Q,Rel X.K H1 H al m→Rh X.K H1 H v x→RhL X.K H1 H vs xs→g x xs=some z→(∀H1' H' u,Ex H1 H1'→Rel X.K H1' H' al m→Rp X.K H1' u z→Q u H')→r v vs H Q
theorem zry {K:Fg} {H1 H:Hp} {al:Gh} {m:Mem} {x:W} {v:V} {T:String} (r:Rel K H1 H al m) (hv:RpW K H1 al v x) (h:isTy T x m=true):tyV K T v H:=by
 unfold isTy at h
 split at h
 ·rename_i d hd
  have hr:=hv.rh r hd
  cases d <;> first |(cases h;done) |skip
  ·cases hr.str
   exact eq_of_beq h
  ·obtain⟨a,vs,rfl,h1,h2⟩:=hr.lst r.ex
   exact .inl ⟨eq_of_beq h,vs,SqL.of h1⟩
  ·obtain⟨a,vs,rfl,h1,h2⟩:=hr.fz r.ex
   exact .inl ⟨eq_of_beq h,vs,h1⟩
 ·cases h
section
variable {X:Cx} {Wx:WX} {o e:Expr} {es:List Expr} {name:Str} {apos cpos:Pos} {T id:String} {g:D→List D→Option D} {fo:DE} {f:DA}
theorem zt7 {K:Fg} {H1 H:Hp} {al:Gh} {m:Mem} {σ : L2.St} {Q:VK} {g:D→List D→Option D} {x:W} {v:V} {ws:List W} {vs:List V} {r:V→List V→Hp→VK→Prop} (rl:Rel K H1 H al m) (hv:RpW K H1 al v x) (hx:RpWs K H1 al vs ws)
  (hr:∀H1 H al m v vs x xs z Q,Rel K H1 H al m→Rh K H1 H v x→RhL K H1 H vs xs→g x xs=some z→(∀H1' H' u,Ex H1 H1'→Rel K H1' H' al m→Rp K H1' u z→Q u H')→r v vs H Q)
  (p:Post K H1 al σ Wx (GV K Q) (liftM g x ws m)):r v vs H Q:=by
 unfold liftM at p
 split at p
 ·rename_i d hd
  split at p
  ·rename_i xs hxs
   split at p
   ·rename_i z hz
    exact hr H1 H al m v vs d xs z Q rl (hv.rh rl hd) (z4z rl hx hxs) hz fun H1' H' u e r' q=>p H1' al H' e (zkb _) r' u q
   ·exact p.elim
  ·exact p.elim
 ·exact p.elim
theorem de_bm (pa:PlainAttrs T) (slot:Slot T name id) (hty:typeOf (.builtin id)=pure (.type "method_descriptor")) (hm:MtOk X id g) (ho:PE X o (tD X.K Wx fo)) (ha:PA X (e::es) (tA X.K Wx f))
  (hbase:attributeBase o name X.env (eval o X.env)=eval o X.env:=by rfl)
  (hfew:((backTo cpos (starEach (e::es) X.env)).all (fun x => !x.1)&&(backToKw cpos (keywordEach [] X.env)).all (fun x=>x.1.isSome)
    && decide ((e::es).length+([]:List Keyword).length+(if ([]:List Keyword).isEmpty then 0 else 1)<30))=true:=by rfl)
  (hline:(apos.endLine==cpos.line)=true:=by rfl) (hs:starEach (e::es) X.env=(false,eval e X.env)::starEach es X.env:=by rfl) (hplain:(backTo cpos (starEach es X.env)).any (·.1)=false:=by rfl) :
  PE X (.Call (.Attribute o name apos) (e::es) [] cpos) (tD X.K Wx (eBM T g fo f)):=by
 obtain⟨r,hr,hs'⟩:=hm
 refine peImp (pe_bm pa slot hty hr ho ha hbase hfew hline hs hplain) fun σ H Q ⟨H1,al,dl,m,rl,en,p⟩=>?_
 refine⟨H1,al,dl,m,rl,en,p.bind fun x m1 H1' al' H' e pr r' p' v hv=>?_⟩
 split at p'
 ·rename_i ht
  refine⟨zry r' hv ht,H1',al',dl,m1,r',en.mono e pr,p'.bind fun ws m2 H2 al2 H2' e2 pr2 r2 p2 vs hvs=>?_⟩
  exact zt7 r2 (hv.mono e2 pr2) hvs hs' p2
 ·exact p'.elim
end
def zdv:D→List D→Option D
 |.str a,[.str b]=>chk (a.length≤sizeLine) (.str (Txt.stripChars a b))
 |_,_=>none
def z6s:D→List D→Option D
 |.str a,[.str b]=>chk (a.length≤sizeLine) (.str (Txt.lstripChars a b))
 |_,_=>none
def z1z:D→List D→Option D
 |.str a,[.str b]=>chk (a.length≤sizeLine) (.str (Txt.rstripChars a b))
 |_,_=>none
def zo1:D→List D→Option D
 |.str a,[.str b]=>chk ((b.length==0)=false∧a.length+2≤sizeLine) (.lst ((Txt.split a b).map D.str))
 |_,_=>none
def zul:D→List D→Option D
 |.str a,[.str b]=>chk ((b.length==0)=false∧a.length≤sizeLine) (.tup [.str (Txt.partition a b).1,.str (Txt.partition a b).2.1,.str (Txt.partition a b).2.2])
 |_,_=>none
def zuz:D→List D→Option D
 |.str a,[.str b]=>some (.bl (Txt.startswith a b))
 |_,_=>none
section
variable {X:Cx}
theorem z5s:MtOk X "str.strip" zdv:=by
 refine⟨_,mt_stripChars,fun H1 H al m v vs x xs z Q r hx hxs hz k=>?_⟩
 unfold zdv at hz
 split at hz
 ·cases hx.str
  obtain⟨v,rfl,h⟩:=rh1 hxs
  cases h.str
  obtain⟨hc,rfl⟩:=zgc hz
  exact⟨_,_,rfl,rfl,hc,k H1 H _ (Ex.refl _) r (.str _)⟩
 ·cases hz
theorem zhq:MtOk X "str.lstrip" z6s:=by
 refine⟨_,mt_lstripChars,fun H1 H al m v vs x xs z Q r hx hxs hz k=>?_⟩
 unfold z6s at hz
 split at hz
 ·cases hx.str
  obtain⟨v,rfl,h⟩:=rh1 hxs
  cases h.str
  obtain⟨hc,rfl⟩:=zgc hz
  exact⟨_,_,rfl,rfl,hc,k H1 H _ (Ex.refl _) r (.str _)⟩
 ·cases hz
theorem z53:MtOk X "str.rstrip" z1z:=by
 refine⟨_,mt_rstripChars,fun H1 H al m v vs x xs z Q r hx hxs hz k=>?_⟩
 unfold z1z at hz
 split at hz
 ·cases hx.str
  obtain⟨v,rfl,h⟩:=rh1 hxs
  cases h.str
  obtain⟨hc,rfl⟩:=zgc hz
  exact⟨_,_,rfl,rfl,hc,k H1 H _ (Ex.refl _) r (.str _)⟩
 ·cases hz
theorem z0y:MtOk X "str.split" zo1:=by
 refine⟨_,mt_split,fun H1 H al m v vs x xs z Q r hx hxs hz k=>?_⟩
 unfold zo1 at hz
 split at hz
 ·cases hx.str
  obtain⟨v,rfl,h⟩:=rh1 hxs
  cases h.str
  obtain⟨⟨hc,hd⟩,rfl⟩:=zgc hz
  refine⟨_,_,rfl,rfl,hc,hd,fun p hp=>?_⟩
  obtain⟨q1,q2,q3⟩:=zcm r (RpL.strs _) hp
  exact k _ _ _ q1 q2 q3
 ·cases hz
theorem z43:MtOk X "str.startswith" zuz:=by
 refine⟨_,mt_startswith,fun H1 H al m v vs x xs z Q r hx hxs hz k=>?_⟩
 unfold zuz at hz
 split at hz
 ·cases hx.str
  obtain⟨v,rfl,h⟩:=rh1 hxs
  cases h.str
  cases hz
  exact⟨_,_,rfl,rfl,k H1 H _ (Ex.refl _) r (.bl _)⟩
 ·cases hz
end
end DL
namespace DL
open PySem PySem.Spec L2
open PyProof.Rows hiding St
open Evl (Ex)
def joinD:D→List D→Option D
 |.str a,[x]=>(match seqD x with
  |some ds=>(match z4l ds with
   |some ys=>chk ((ys.map (·.length)).sum+ys.length*a.length≤16777216) (.str (Txt.join a ys))
   |none=>none)
  |none=>none)
 |_,_=>none
section
variable {X:Cx}
theorem zxv:MtOk X "str.join" joinD:=by
 refine⟨_,mt_join,fun H1 H al m v vs x xs z Q r hx hxs hz k=>?_⟩
 unfold joinD at hz
 split at hz
 ·cases hx.str
  obtain⟨v,rfl,h⟩:=rh1 hxs
  split at hz
  ·rename_i ds hds
   obtain⟨a,us,rfl,h1,h2⟩:=h.seq r.ex hds
   split at hz
   ·rename_i ys hys
    obtain⟨hc,rfl⟩:=zgc hz
    rw[zcx hys] at h2
    have e:=h2.of_strs
    subst e
    exact⟨_,_,ys,rfl,rfl,h1,hc,k H1 H _ (Ex.refl _) r (.str _)⟩
   ·cases hz
  ·cases hz
 ·cases hz
theorem zvx:MtOk X "str.partition" zul:=by
 refine⟨_,mt_partition,fun H1 H al m v vs x xs z Q r hx hxs hz k=>?_⟩
 unfold zul at hz
 split at hz
 ·cases hx.str
  obtain⟨v,rfl,h⟩:=rh1 hxs
  cases h.str
  obtain⟨⟨hc,hd⟩,rfl⟩:=zgc hz
  refine⟨_,_,rfl,rfl,hc,hd,fun p hp=>?_⟩
  obtain⟨q1,q2,q3⟩:=zqn r (.cons (.str _) (.cons (.str _) (.cons (.str _) .nil))) hp
  exact k _ _ _ q1 q2 q3
 ·cases hz
end
/-- C has the def at f under this name, and it keeps F -/
structure OwnM (P:Program) (w:World) (K:Fg) (mg:Str→Option Value) (base:Heap) (k:Nat) (name C:Str) (F:DF):Prop where
 ex:∃f,PySem.W.findIn K (.ref (He.ga K C)) name=some (some (.ref f))∧PySem.W.isFn K (.ref f)=true∧PySem.W.fnIn K f=true∧PySem.W.keepIn K (.ref f)=true∧FnD P w K mg base k f F
theorem zdm:∀{t:Tbl} {C:Str} {F:DF},look t C=some F→(C,F)∈t
 |q::r,C,F,h=>by
  unfold look at h
  split at h
  ·rename_i e
   cases h
   rw[←e]
   exact List.mem_cons_self
  ·exact List.mem_cons_of_mem _ (zdm h)
theorem zpm {K:Fg} {H1 H:Hp} {al:Gh} {m:Mem} {x:W} {v:V} {C:Str} (r:Rel K H1 H al m) (hv:RpW K H1 al v x) (h:clsOf x m=some C) :
  ∃a dx fs ns ds,v = .ref a∧H a=some (.ins (He.ga K C) dx fs)∧x.rd m=some (.obj C ns ds)∧fs.map (·.1)=ns∧RpL K H1 (fs.map (·.2)) ds:=by
 unfold clsOf at h
 split at h
 ·rename_i C' ns ds hd
  cases h
  obtain⟨a,dx,fs,e1,h1,h2,h3⟩:=(hv.rh r hd).obj r.ex
  exact⟨a,dx,fs,ns,ds,e1,h1,hd,h2,h3⟩
 ·cases h
section
variable {X:Cx} {Wx:WX}
theorem zxy {A':Around} {k:Nat} {f:Addr} {F:DF} {pins:List (Addr × Obj)} {σ : L2.St} {H:Hp} {s:Shared} {Q:VK} {us:List Value} {vs:List V} (tk:L2N.Takes X Wx) (Fo:FnD X.prog X.w X.K X.mg X.base k f F) (hr:RoomG k A') (I:Inv X pins σ H s) (e0:Env0 X.prog X.w X.K X.mg X.base A' X.stack s H) (r:Vals vs us)
  (h:spR X.K F vs H Q (fun c d H=>Wx c d σ H)):wpAny (model X.prog X.w) A' (call (.ref f) us) (EP X pins σ Q) X.xe s:=by
 refine wpAny_call (codeAny_mono (Fo A' X.stack s H us vs Q _ hr e0 r h) fun r s' hq=>?_)
 cases r with
 |error e=>exact L2N.passAt tk σ pins H s e s' I hq
 |ok fl=>
  cases fl with
  |ret u=>exact I.after hq
  |next=>exact False.elim hq
  |brk=>exact False.elim hq
  |cont=>exact False.elim hq
theorem zat {pins:List (Addr × Obj)} {σ : L2.St} {H:Hp} {s:Shared} {a C dx:Addr} {fs:List (Str × V)} (I:Inv X pins σ H s) (e:H a=some (.ins C dx fs)):∃ox od,PySem.W.InstAt s.heap a ox C od:=by
 obtain⟨mA,O,_⟩:=ins_get I.hok e
 obtain⟨od,J,_⟩:=O.look
 exact⟨_,_,J⟩
theorem z6d {a:Expr} {p pos:Pos} {k:Nat} {t:Tbl} {f:DA} (tk:L2N.Takes X Wx) (ht:∀q∈t,OwnM X.prog X.w X.K X.mg X.base k "__len__" q.1 q.2) (hr:RoomG (k+1) X.A) (hg:Gl X "len") (hm:X.mg "len" = none) (ha:PA X [a] (tA X.K Wx f))
  (he:starEach [a] X.env=(false,eval a X.env)::starEach [] X.env:=by rfl) (hpl:(backTo pos (starEach [] X.env)).any (·.1)=false:=by rfl):PE X (.Call (.Name "len" p) [a] [] pos) (tD X.K Wx (eLen t f)):=by
 refine⟨fun pins s σ H Q I h=>?_⟩
 have h2:tA X.K Wx f σ H fun vs H'=>∃H1 al m ws,Rel X.K H1 H' al m∧RpWs X.K H1 al vs ws∧Post X.K H1 al σ Wx (GV X.K Q) (match ws with
  |[x]=>(match clsOf x m with
   |some C=>(match look t C with
    |some F=>lenI (F [x] m)
    |none=>.no)
   |none=>liftA lenD [x] m)
  |_=>.no):=zsk (R:=fun vs H' Q=>∃H1 al m ws,Rel X.K H1 H' al m∧RpWs X.K H1 al vs ws∧Post X.K H1 al σ Wx (GV X.K Q) (match ws with
  |[x]=>(match clsOf x m with
   |some C=>(match look t C with
    |some F=>lenI (F [x] m)
    |none=>.no)
   |none=>liftA lenD [x] m)
  |_=>.no)) h fun H1 H al m ws vs r hvs p=>⟨H1,al,m,ws,r,hvs,p⟩
 refine wpAny_Call_Name_kw (ld_blt I hg hm boot_len ?_)
 refine PyProof.Rows.callWith_builtin1 (thn (ha.run pos pins s σ H _ I h2) fun us s1 ⟨vs,H',I1,rv,H1,al,m,ws,r,hvs,p⟩=>?_) he hpl
 cases hvs with
 |nil=>exact p.elim
 | @cons v vs x ws hv hvs=>
   cases hvs with
   |cons _ _=>exact p.elim
   |nil=>
    dsimp only at p
    cases hc:clsOf x m with
    |none=>
     rw[hc] at p
     obtain⟨rr,hrr,hs⟩:=zh8 (X:=X)
     exact hrr pins s1 σ H' [v] us Q I1 rv (z8o r (.cons hv .nil) hs p)
    |some C=>
     rw[hc] at p
     dsimp only at p
     cases hl:look t C with
     |none=>rw[hl] at p;exact p.elim
     |some F=>
      rw[hl] at p
      dsimp only at p
      obtain⟨a,dx,fs,ns,ds,rfl,h1,h3,h4,h5⟩:=zpm r hv hc
      obtain⟨fa,q1,q2,q3,q4,Fo⟩:=(ht _ (zdm hl)).ex
      obtain⟨ox,od,J⟩:=zat I1 h1
      obtain⟨u1,rfl,ru⟩:∃u1,us=[u1]∧RelV (.ref a) u1:=by
       cases rv with
       |cons r1 r2=>cases r2;exact⟨_,rfl,r1⟩
      obtain rfl:u1=Value.ref a:=ru
      obtain⟨mF,Fr1⟩:=I1.fr
      refine PySem.W.len_K Fr1 I1.ok.mod.kin J q1 q2 ?_
      refine thn (zxy (Q:=fun v H=>∃n:Int,v = .int n∧0≤n∧n<2 ^ 63∧Q (.int n) H) (vs:=[.ref a]) tk Fo hr.in1 I1 I1.env0.in1 rv ?_) fun v s2 ⟨v',H2,I2,rv2,n,e2,hn0,hn1,q⟩=>?_
      ·refine⟨H1,al,m,[x],r,.cons hv .nil,?_⟩
       show PostF X.K H1 al _ _ (F [x] m)
       unfold lenI at p
       cases hF:F [x] m with
       |no=>rw[hF] at p;exact p.elim
       |exc C' f' p' m'=>rw[hF] at p;exact fun Ha aa Hb v dx e1 l1 e2 e3 e4=>p Ha aa Hb v dx e1 l1 e2 e3 e4
       |ok w' m'=>
        rw[hF] at p
        intro Ha aa Hb v e1 l1 e2 e3
        have p2:Post X.K H1 al σ Wx (GV X.K Q) (lenW w' m'):=p
        clear p hF
        unfold lenW at p2
        split at p2
        ·rename_i i
         split at p2
         ·rename_i hi
          cases (show Rp X.K Ha v (.int i) from e3)
          exact⟨i,rfl,hi.1,hi.2,p2 Ha aa Hb e1 l1 e2 _ (.int i)⟩
         ·exact p2.elim
        ·exact p2.elim
      ·subst e2
       obtain⟨tt,rfl⟩:=rv2
       exact⟨⟨hn0,hn1⟩,.int n,H2,I2.tok _,⟨_,rfl⟩,q⟩
theorem zg8:zgn X (.type "str") strD:=by
 refine⟨_,call_str_int.or SkE.call_str_str,fun H1 H al m vs xs z Q r hx hz k=>?_⟩
 unfold strD at hz
 split at hz
 ·obtain⟨v,rfl,h⟩:=rh1 hx
  cases h.int
  obtain⟨hl,rfl⟩:=zgc hz
  exact .inl ⟨_,rfl,hl,k H1 H _ (Ex.refl _) r (.str _)⟩
 ·obtain⟨v,rfl,h⟩:=rh1 hx
  cases h.str
  cases hz
  exact .inr ⟨_,rfl,k H1 H _ (Ex.refl _) r (.str _)⟩
 ·cases hz
theorem zyw {a:Expr} {p pos:Pos} {k:Nat} {t:Tbl} {f:DA} (tk:L2N.Takes X Wx) (ht:∀q∈t,OwnM X.prog X.w X.K X.mg X.base k "__str__" q.1 q.2) (hr:RoomG (k+2) X.A) (hg:Gl X "str") (hm:X.mg "str" = none) (ha:PA X [a] (tA X.K Wx f))
  (he:starEach [a] X.env=(false,eval a X.env)::starEach [] X.env:=by rfl) (hpl:(backTo pos (starEach [] X.env)).any (·.1)=false:=by rfl):PE X (.Call (.Name "str" p) [a] [] pos) (tD X.K Wx (eStr t f)):=by
 refine⟨fun pins s σ H Q I h=>?_⟩
 have h2:tA X.K Wx f σ H fun vs H'=>∃H1 al m ws,Rel X.K H1 H' al m∧RpWs X.K H1 al vs ws∧Post X.K H1 al σ Wx (GV X.K Q) (match ws with
  |[x]=>(match clsOf x m with
   |some C=>(match look t C with
    |some F=>strI (F [x] m)
    |none=>.no)
   |none=>liftA strD [x] m)
  |_=>.no):=zsk (R:=fun vs H' Q=>∃H1 al m ws,Rel X.K H1 H' al m∧RpWs X.K H1 al vs ws∧Post X.K H1 al σ Wx (GV X.K Q) (match ws with
  |[x]=>(match clsOf x m with
   |some C=>(match look t C with
    |some F=>strI (F [x] m)
    |none=>.no)
   |none=>liftA strD [x] m)
  |_=>.no)) h fun H1 H al m ws vs r hvs p=>⟨H1,al,m,ws,r,hvs,p⟩
 refine wpAny_Call_Name_kw (ld_blt I hg hm boot_str ?_)
 refine PyProof.Rows.callWith_type1 (thn (ha.run pos pins s σ H _ I h2) fun us s1 ⟨vs,H',I1,rv,H1,al,m,ws,r,hvs,p⟩=>?_) he hpl
 cases hvs with
 |nil=>exact p.elim
 | @cons v vs x ws hv hvs=>
   cases hvs with
   |cons _ _=>exact p.elim
   |nil=>
    dsimp only at p
    cases hc:clsOf x m with
    |none=>
     rw[hc] at p
     obtain⟨rr,hrr,hs⟩:=zg8 (X:=X)
     exact hrr pins s1 σ H' [v] us Q I1 rv (z8o r (.cons hv .nil) hs p)
    |some C=>
     rw[hc] at p
     dsimp only at p
     cases hl:look t C with
     |none=>rw[hl] at p;exact p.elim
     |some F=>
      rw[hl] at p
      dsimp only at p
      obtain⟨a,dx,fs,ns,ds,rfl,h1,h3,h4,h5⟩:=zpm r hv hc
      obtain⟨fa,q1,q2,q3,q4,Fo⟩:=(ht _ (zdm hl)).ex
      obtain⟨ox,od,J⟩:=zat I1 h1
      obtain⟨u1,rfl,ru⟩:∃u1,us=[u1]∧RelV (.ref a) u1:=by
       cases rv with
       |cons r1 r2=>cases r2;exact⟨_,rfl,r1⟩
      obtain rfl:u1=Value.ref a:=ru
      have hrr:RoomG k X.A.in1.in1:=hr.in1.in1
      refine PySem.W.kso_call (by have:=hrr.units0;exact this) I1.kIn J q1 q2 ?_
      refine thn (zxy (Q:=fun v H=>∃n:Str,v = .str n∧Q (.str n) H) (vs:=[.ref a]) tk Fo hrr I1 I1.env0.in1.in1 rv ?_) fun v s2 ⟨v',H2,I2,rv2,n,e2,q⟩=>?_
      ·refine⟨H1,al,m,[x],r,.cons hv .nil,?_⟩
       show PostF X.K H1 al _ _ (F [x] m)
       unfold strI at p
       cases hF:F [x] m with
       |no=>rw[hF] at p;exact p.elim
       |exc C' f' p' m'=>rw[hF] at p;exact fun Ha aa Hb v dx e1 l1 e2 e3 e4=>p Ha aa Hb v dx e1 l1 e2 e3 e4
       |ok w' m'=>
        rw[hF] at p
        intro Ha aa Hb v e1 l1 e2 e3
        have p2:Post X.K H1 al σ Wx (GV X.K Q) (strW w' m'):=p
        clear p hF
        unfold strW at p2
        split at p2
        ·rename_i i
         cases (show Rp X.K Ha v (.str i) from e3)
         exact⟨i,rfl,p2 Ha aa Hb e1 l1 e2 _ (.str i)⟩
        ·exact p2.elim
      ·subst e2
       obtain⟨tt,rfl⟩:=rv2
       exact⟨.str n,H2,I2,⟨_,rfl⟩,q⟩
theorem zflb {K:Fg} {H:Hp} {vs:List V} {ds:List D} (h:RpL K H vs ds) {i:Int} {d:D} (e:atI ds i=some d):∃v,atI vs i=some v∧Rp K H v d:=by
 unfold atI at e ⊢
 rw[h.length]
 cases hi:ixN ds.length i with
 |none=>rw[hi] at e;cases e
 |some j=>
  rw[hi] at e
  obtain⟨v,h1,h2⟩:=h.get (show ds[j]?=some d from e)
  exact⟨v,h1,h2⟩
theorem zi6 {K:Fg} {H1 H:Hp} {al:Gh} {m:Mem} {v w:V} {x y z:D} {Q:VK} (r:Rel K H1 H al m) (hx:Rh K H1 H v x) (hy:Rh K H1 H w y) (hz:ixD x y=some z) (k:∀H1' H' u,Ex H1 H1'→Rel K H1' H' al m→Rp K H1' u z→Q u H') :
  rIxS v w H Q∨rIxL K v w H Q∨rIxT K v w H Q:=by
 unfold ixD at hz
 split at hz
 ·cases hx.str
  cases hy.int
  split at hz
  ·rename_i c hc
   obtain⟨hl,rfl⟩:=zgc hz
   exact .inl ⟨_,_,c,rfl,rfl,hl,hc,k H1 H _ (Ex.refl _) r (.str _)⟩
  ·cases hz
 ·cases hy.int
  split at hz
  ·rename_i ds hds
   obtain⟨a,us,rfl,h1,h2⟩:=hx.seq r.ex hds
   obtain⟨u,h3,h4⟩:=zflb h2 hz
   rcases h1 with h1 |h1
   ·exact .inr (.inl ⟨_,_,_,u,rfl,rfl,h1,h3,k H1 H _ (Ex.refl _) r h4⟩)
   ·exact .inr (.inr ⟨_,_,_,u,rfl,rfl,h1,h3,k H1 H _ (Ex.refl _) r h4⟩)
  ·cases hz
 ·cases hz
theorem de_ix {a b:Expr} {pos:Pos} {k:Nat} {t:Tbl} {fa fb:DE} (tk:L2N.Takes X Wx) (ht:∀q∈t,OwnM X.prog X.w X.K X.mg X.base k "__getitem__" q.1 q.2) (hr:RoomG (k+1) X.A) (ha:PE X a (tD X.K Wx fa)) (hb:PE X b (tD X.K Wx fb)) (hs:PlainIx b)
  (hsl:∀x i,subscripted b true (.ref x) i=runValue (.builtin "lifetime.subscript" ⟨[.ref x,i],[]⟩)):PE X (.Subscript a b pos) (tD X.K Wx (eIx t fa fb)):=by
 refine⟨fun pins s σ H Q I h=>?_⟩
 have h2:tD X.K Wx fa σ H fun v H'=>tD X.K Wx fb σ H' fun w H2=>∃H1 al m x y,Rel X.K H1 H2 al m∧RpW X.K H1 al v x∧RpW X.K H1 al w y∧Post X.K H1 al σ Wx (GV X.K Q) (match clsOf x m with
  |some C=>(match look t C with
   |some F=>F [x,y] m
   |none=>.no)
  |none=>lift2 ixD x y m):=
  zm1 (R:=fun v w H2 Q=>∃H1 al m x y,Rel X.K H1 H2 al m∧RpW X.K H1 al v x∧RpW X.K H1 al w y∧Post X.K H1 al σ Wx (GV X.K Q) (match clsOf x m with
  |some C=>(match look t C with
   |some F=>F [x,y] m
   |none=>.no)
  |none=>lift2 ixD x y m)) h fun H1 H al m x y v w r hx hy p=>⟨H1,al,m,x,y,r,hx,hy,p⟩
 refine Subscript_ (binT ha hb I h2 fun v u s2 xv yv H2 I2 rx ry q=>?_)
 obtain⟨H1,al,m,x,y,r,hx,hy,p⟩:=q
 cases hc:clsOf x m with
 |none=>
  rw[hc] at p
  dsimp only at p
  have z:=z5e (r:=fun v w H Q=>rIxS v w H Q∨rIxL X.K v w H Q∨rIxT X.K v w H Q) r hx hy (fun H1 H al m v w x y z Q r hx hy hz k=>zi6 r hx hy hz k) p
  exact (ix_str.or (ix_list.or ix_tup)) a b pins s2 σ H2 xv yv v u Q I2 rx ry z (hs _ _)
 |some C=>
  rw[hc] at p
  dsimp only at p
  cases hl:look t C with
  |none=>rw[hl] at p;exact p.elim
  |some F=>
   rw[hl] at p
   dsimp only at p
   obtain⟨aa,dx,fs,ns,ds,rfl,h1,h3,h4,h5⟩:=zpm r hx hc
   obtain⟨fa,q1,q2,q3,q4,Fo⟩:=(ht _ (zdm hl)).ex
   obtain⟨ox,od,J⟩:=zat I2 h1
   obtain rfl:v=Value.ref aa:=rx
   obtain⟨mF,Fr1⟩:=I2.fr
   exact PySem.W.sub_K Fr1 I2.ok.mod.kin J q1 q3 q2 (zxy (vs:=[.ref aa,yv]) tk Fo hr.in1 I2 I2.env0.in1 (.cons rfl (.cons ry .nil)) (zvp r (.cons hx (.cons hy .nil)) p)) (hsl _ _)
end
end DL
namespace DL
open PySem PySem.Spec L2
open PyProof.Rows hiding St
open Evl (Ex)
/-- what isinstance asks of a class of the program's own -/
structure IsiC (K:Fg) (C:Addr):Prop where
 cl:Cls K C
 ha:PySem.W.findIn K (.ref C) "__class__" = some (some (.builtin "object.__class__"))
 hn:PySem.W.specialIn K (.builtin "object.__class__") "__get__" = some (some (.builtin "getset_descriptor.__get__"))
 tk:PySem.W.takesIn K (.builtin "object.__class__")=some true
 hm:PySem.W.mroIn K C (.type "object")=some true
theorem zxfb {K:Fg} {H:Hp} {a:Addr} {vs:List V} (h:SqL K H a vs):TyX K H (.ref a) (.type "list"):=by
 rcases h with (h |⟨o,h⟩) |⟨o,its,n,h,hc,_⟩
 ·exact .base (.lst h)
 ·exact .base (.frz h)
 ·exact .kList h hc
theorem zwfb {K:Fg} {H:Hp} {a:Addr} {vs:List V} (h:SqT K H a vs):TyX K H (.ref a) (.type "tuple"):=by
 rcases h with (h |⟨o,h⟩) |⟨o,its,n,h,hc,_⟩
 ·exact .base (.tup h)
 ·exact .fTuple h
 ·exact .kTuple h hc
theorem zzeb {K:Fg} {H1 H:Hp} {v:V} {x:D} {t:Tag} (e:Ex H1 H) (h:Rh K H1 H v x) (ht:tagD x=some t) (hc:∀C,t = .own C→IsiC K (He.ga K C)):TyX K H v (t.v K):=by
 cases x with
 |non=>cases h.non;cases ht;exact .base .non
 |bl b=>cases h.bl;cases ht;exact .base (.bl b)
 |int b=>cases h.int;cases ht;exact .base (.int b)
 |str b=>cases h.str;cases ht;exact .base (.str b)
 |lst ds=>obtain⟨a,vs,rfl,h1,h2⟩:=h.lst e;cases ht;exact .base (.lst h1)
 |fz ds=>obtain⟨a,vs,rfl,h1,h2⟩:=h.fz e;cases ht;exact zxfb h1
 |tup ds=>obtain⟨a,vs,rfl,h1,h2⟩:=h.tup e;cases ht;exact zwfb h1
 |dic ks ds=>
  obtain⟨a,vs,rfl,h1,h2⟩:=h.dic e
  cases ht
  rcases h1 with h1 |⟨o,h1⟩
  ·exact .base (.dK h1)
  ·exact .fDict h1
 |tk ks=>obtain⟨a,rfl,h1⟩:=h.tk e;cases ht;exact .base (.tup h1)
 |obj C ns ds=>
  obtain⟨a,dx,fs,rfl,h1,h2,h3⟩:=h.obj e
  cases ht
  obtain⟨c1,c2,c3,c4,c5⟩:=hc C rfl
  exact .base (.ins h1 c1 c2 c3 c4 c5)
 |cls C=>cases ht
 |opq=>cases ht
structure IsiT (K:Fg) (isf:Tag→Option Bool) (us:List Value):Prop where
 own:∀C b,isf (.own C)=some b→IsiC K (He.ga K C)
 kit:∀t b,isf t=some b→PySem.W.kitAny K (t.v K) us=some b
section
variable {X:Cx} {Wx:WX}
theorem za2 {K:Fg} {H1 H:Hp} {al:Gh} {m:Mem} {σ : L2.St} {Q:VK} {isf:Tag→Option Bool} {us:List Value} {x:W} {v:V} (r:Rel K H1 H al m) (hv:RpW K H1 al v x) (hk:IsiT K isf us) (p:Post K H1 al σ Wx (GV K Q) (isiW isf x m)) :
  ∃t b,TyX K H v t∧PySem.W.kitAny K t us=some b∧Q (.bl b) H:=by
 unfold isiW at p
 split at p
 ·rename_i d hd
  split at p
  ·rename_i t ht
   split at p
   ·rename_i b hb
    refine⟨t.v K,b,zzeb r.ex (hv.rh r hd) ht (fun C e=>hk.own C b (by rw[←e];exact hb)),hk.kit t b hb,p.ok_ r _ (.bl b)⟩
   ·exact p.elim
  ·exact p.elim
 ·exact p.elim
/-- isinstance(x, c): c a class by its name -/
theorem zsj {a c:Expr} {p pos:Pos} {fa:DE} {cv:V} {u:Value} {isf:Tag→Option Bool} (hg:Gl X "isinstance") (hm:X.mg "isinstance" = none) (ha:PE X a (tD X.K Wx fa)) (hc:PE X c (tC cv)) (cu:ClsV cv u) (hk:IsiT X.K isf [u])
  (hs:starEach (a::[c]) X.env=(false,eval a X.env)::starEach [c] X.env:=by rfl) (hs2:starEach (c::[]) X.env=(false,eval c X.env)::starEach [] X.env:=by rfl) (hpl:(backTo pos (starEach [c] X.env)).any (·.1)=false:=by rfl) :
  PE X (.Call (.Name "isinstance" p) [a,c] [] pos) (tD X.K Wx (eIsi isf fa)):=by
 refine peImp (pe_callB call_isi hg hm (by decide +kernel) (pa_cons ha (pa_cons hc pa_nil hs2) hs) (by decide) (by decide) hs hpl) fun σ H Q h=>?_
 refine zbv (R:=fun v H Q=>∃(x c:V) (t u:Value) (b:Bool),[v,cv]=[x,c]∧ClsV c u∧TyX X.K H x t∧PySem.W.kitOne X.K t u=some b∧Q (.bl b) H) h fun H1 H al m x v r hv p=>?_
 obtain⟨t,b,h1,h2,h3⟩:=za2 r hv hk p
 refine⟨v,cv,t,u,b,rfl,cu,h1,?_,h3⟩
 unfold PySem.W.kitAny at h2
 cases hq:PySem.W.kitOne X.K t u with
 |none=>rw[hq] at h2;cases h2
 |some b'=>
  rw[hq] at h2
  cases b' with
  |true=>cases h2;rfl
  |false=>simpa [PySem.W.kitAny] using h2
/-- isinstance(x, (c, d)) -/
theorem z4hb {a c d:Expr} {k:Nat} {p pos p2:Pos} {fa:DE} {cv dv:V} {u u2:Value} {isf:Tag→Option Bool} (hg:Gl X "isinstance") (hm:X.mg "isinstance" = none) (ha:PE X a (tD X.K Wx fa)) (hc:PE X c (tC cv)) (hd:PE X d (tC dv)) (cu:ClsV cv u) (du:ClsV dv u2) (hk:IsiT X.K isf [u,u2])
  (hs:starEach (a::[.Tuple [c,d] k p2]) X.env=(false,eval a X.env)::starEach [.Tuple [c,d] k p2] X.env:=by rfl) (hs2:starEach [.Tuple [c,d] k p2] X.env=(false,eval (.Tuple [c,d] k p2) X.env)::starEach [] X.env:=by rfl)
  (hs3:starEach (c::[d]) X.env=(false,eval c X.env)::starEach [d] X.env:=by rfl) (hs4:starEach [d] X.env=(false,eval d X.env)::starEach [] X.env:=by rfl) (hpl:(backTo pos (starEach [.Tuple [c,d] k p2] X.env)).any (·.1)=false:=by rfl) :
  PE X (.Call (.Name "isinstance" p) [a,.Tuple [c,d] k p2] [] pos) (tD X.K Wx (eIsi isf fa)):=by
 refine peImp (pe_callB call_isiT hg hm (by decide +kernel) (pa_cons ha (pa_cons (pe_tup (pa_cons hc (pa_cons hd pa_nil hs4) hs3)) pa_nil hs2) hs) (by decide) (by decide) hs hpl) fun σ H Q h=>?_
 refine zbv (R:=fun v H Q=>[cv,dv].length≤sizeLine∧∀q,H q=none→∃(x:V) (tp:Addr) (cs:List V) (t:Value) (us:List Value) (b:Bool),[v,.ref q]=[x,.ref tp]∧upd H q (.tup [cv,dv]) tp=some (.tup cs)∧Paired ClsV cs us∧TyX X.K (upd H q (.tup [cv,dv])) x t∧PySem.W.kitAny X.K t us=some b∧Q (.bl b) (upd H q (.tup [cv,dv]))) h fun H1 H al m x v r hv p=>?_
 refine⟨by show 2≤sizeLine;decide,fun q hq=>?_⟩
 have r2:=r.grow (Evl.Ex.new (o:=.tup [cv,dv]) hq)
 obtain⟨t,b,h1,h2,h3⟩:=za2 (us:=[u,u2]) r2 hv hk p
 exact⟨v,q,[cv,dv],t,[u,u2],b,rfl,upd_same,.cons cu (.cons du .nil),h1,h2,h3⟩
def tO (K:Fg) (Wx:WX) (f:DO):TO:=fun σ H Q=>∃H1 al dl m,Rel K H1 H al m∧RpE K H1 al σ dl∧Post K H1 al σ Wx (fun _ _ H o=>Q o H) (f dl m)
theorem poImp {e:Option Expr} {t t':TO} (h:PO X e t) (k:∀ σ H Q,t' σ H Q→t σ H Q):PO X e t':=⟨fun pins s σ H Q I hw=>h.run pins s σ H Q I (k σ H Q hw)⟩
theorem z44:PO X none (tO X.K Wx oNone):=poImp po_none fun σ H Q ⟨H1,al,dl,m,r,en,p⟩=>p.ok_ r
theorem z34 {e:Expr} {f:DE} (h:PE X e (tD X.K Wx f)):PO X (some e) (tO X.K Wx (oSome f)):=poImp (po_some h) fun σ H Q ⟨H1,al,dl,m,r,en,p⟩=>⟨H1,al,dl,m,r,en,p.bind fun w m1 H1' al' H' e pr r' p' v hv=>by
 split at p'
 ·rename_i i
  cases (show Rp X.K H1' v (.int i) from hv)
  exact⟨i,rfl,p'.ok_ r'⟩
 ·exact p'.elim⟩
theorem zxbb {K:Fg} {H:Hp} {vs:List V} {ds:List D} (h:RpL K H vs ds) (lo hi:Option Int):RpL K H (cutV vs lo hi) (cutD ds lo hi):=by
 unfold cutV cutD
 rw[h.length]
 exact (h.drop _).take _
theorem de_sl {a:Expr} {lo hi:Option Expr} {p2 pos:Pos} {fa:DE} {fl fh:DO} (ha:PE X a (tD X.K Wx fa)) (hl:PO X lo (tO X.K Wx fl)) (hh:PO X hi (tO X.K Wx fh)):PE X (.Subscript a (.Slice lo hi none p2) pos) (tD X.K Wx (eSl fa fl fh)):=by
 refine peImp (pe_slice (sl_str.or (sl_list.or sl_tup)) ha hl hh) fun σ H Q ⟨H1,al,dl,m,r,en,p⟩=>?_
 refine⟨H1,al,dl,m,r,en,p.bind fun x m1 H1' al' H' e pr r' p' v hv=>?_⟩
 refine⟨H1',al',dl,m1,r',en.mono e pr,p'.bind fun l m2 H2 al2 H2' e2 pr2 r2 p2=>?_⟩
 refine⟨H2,al2,dl,m2,r2,(en.mono e pr).mono e2 pr2,p2.bind fun u m3 H3 al3 H3' e3 pr3 r3 p3=>?_⟩
 have hv3:=(hv.mono e2 pr2).mono e3 pr3
 unfold slW at p3
 split at p3
 ·rename_i d hd
  split at p3
  ·rename_i z hz
   have hr:=hv3.rh r3 hd
   unfold slD at hz
   split at hz
   ·cases hr.str
    obtain⟨hc,rfl⟩:=zgc hz
    exact .inl ⟨_,rfl,hc,p3.ok_ r3 _ (.str _)⟩
   ·obtain⟨a,vs,rfl,h1,h2⟩:=hr.lst r3.ex
    cases hz
    refine .inr (.inl ⟨_,_,rfl,SqL.of h1,fun q hq=>?_⟩)
    obtain⟨q1,q2,q3⟩:=zcm r3 (zxbb h2 l u) hq
    exact p3 _ _ _ q1 (zkb _) q2 _ q3
   ·obtain⟨a,vs,rfl,h1,h2⟩:=hr.fz r3.ex
    cases hz
    refine .inr (.inl ⟨_,_,rfl,h1,fun q hq=>?_⟩)
    obtain⟨q1,q2,q3⟩:=zcm r3 (zxbb h2 l u) hq
    exact p3 _ _ _ q1 (zkb _) q2 _ q3
   ·obtain⟨a,vs,rfl,h1,h2⟩:=hr.tup r3.ex
    obtain⟨hc,rfl⟩:=zgc hz
    refine .inr (.inr ⟨_,_,rfl,h1,by rw[h2.length];exact hc,fun q hq=>?_⟩)
    obtain⟨q1,q2,q3⟩:=zqn r3 (zxbb h2 l u) hq
    exact p3 _ _ _ q1 (zkb _) q2 _ q3
   ·cases hz
  ·exact p3.elim
 ·exact p3.elim
theorem z6ab {K:Fg} {H:Hp} {f:Str}:∀{fs:List (Str × V)} {ns:List Str} {ds:List D} {d:D},fs.map (·.1)=ns→RpL K H (fs.map (·.2)) ds→fldL ns ds f=some d→∃v,fs.lookup f=some v∧Rp K H v d
 |[],_,_,_,e,r,h=>by
  subst e
  cases r
  cases h
 |(n,v)::fs,_,ds,d,e,r,h=>by
  subst e
  cases r with
  | @cons _ _ d1 ds1 r1 r2=>
    have h':(if n=f then some d1 else fldL (fs.map (·.1)) ds1 f)=some d:=h
    by_cases hn:n=f
    ·rw[if_pos hn] at h'
     cases h'
     refine⟨v,?_,r1⟩
     rw[List.lookup_cons,hn,beq_self_eq_true]
    ·rw[if_neg hn] at h'
     obtain⟨u,h1,h2⟩:=z6ab rfl r2 h'
     refine⟨u,?_,h2⟩
     rw[List.lookup_cons,show (f==n)=false from beq_eq_false_iff_ne.mpr (Ne.symm hn)]
     exact h1
theorem zrd {e:Expr} {f:Str} {pos:Pos} {Cs:List Str} {fe:DE} (hC:∀C∈Cs,Cls X.K (He.ga X.K C)∧NoAttr X.K (He.ga X.K C) f) (he:PE X e (tD X.K Wx fe)) (hb:attributeBase e f X.env (eval e X.env)=eval e X.env:=by rfl):PE X (.Attribute e f pos) (tD X.K Wx (eFld Cs f fe)):=
 peImp (pe_fld he hb) fun σ H Q h=>zbv (R:=fun x H1 Q=>∃a C dx fs v,x = .ref a∧H1 a=some (.ins C dx fs)∧Cls X.K C∧NoAttr X.K C f∧fs.lookup f=some v∧Q v H1) h fun H1 H al m x v r hv p=>by
  refine z7s (r:=fun x H1 Q=>∃a C dx fs v,x = .ref a∧H1 a=some (.ins C dx fs)∧Cls X.K C∧NoAttr X.K C f∧fs.lookup f=some v∧Q v H1) r hv (fun H1 H al m v x z Q r hx hz k=>?_) p
  cases x <;> first |(cases hz;done) |skip
  rename_i C ns ds
  have hz':(if C∈Cs then fldL ns ds f else none)=some z:=hz
  by_cases hm:C∈Cs
  ·rw[if_pos hm] at hz'
   obtain⟨a,dx,fs,rfl,h1,h2,h3⟩:=hx.obj r.ex
   obtain⟨u,h4,h5⟩:=z6ab h2 h3 hz'
   exact⟨a,_,dx,fs,u,rfl,h1,(hC C hm).1,(hC C hm).2,h4,k H1 H u (Ex.refl _) r h5⟩
  ·rw[if_neg hm] at hz'
   cases hz'
theorem z8cb {K:Fg} {H1:Hp} {al:Gh} {σ : L2.St} {Q:VK} {E:XK}:∀{r:Res W},Post K H1 al σ Wx (GV K Q) (noExc r)→PostF K H1 al Q E r
 |.ok w m,h=>fun H1' al' H' v e l r q=>h H1' al' H' e l r v q
 |.exc C f p m,h=>h.elim
 |.no,h=>h
theorem z5cb {pins:List (Addr × Obj)} {σ : L2.St} {H:Hp} {s:Shared} {Q:VK} {b:Bool} {E':Value→Shared→Prop} {k:Nat} {C p g a dx:Addr} {fs:List (Str × V)} {f:Str} {F:DF} (I:Inv X pins σ H s) (ea:H a=some (.ins C dx fs)) (c:Cls X.K C) (hp:PropOf X.K C f p g)
  (Fo:FnD X.prog X.w X.K X.mg X.base k g F) (hr:RoomG (k+1) X.A) (h:spR X.K F [.ref a] H Q E0):wpAny (model X.prog X.w) X.A (getAttr (.ref a) f b) (EP X pins σ Q) E' s:=by
 obtain⟨rest,hrec⟩:=hp.rec_
 obtain⟨_,O,_,_,_,_⟩:=ins_get I.hok ea
 obtain⟨_,J,_⟩:=O.look
 have I1:=I.tok (s.toks+1)
 have isC:(PySem.W.clsIn X.K C).isSome=true:=by
  obtain⟨cd,e,_⟩:=PySem.W.any_some c.hd
  rw[e] <;> rfl
 have pg:=PySem.W.plainGet_of (c.get f)
 refine PySem.W.get_bind I.kIn J pg.1 (PySem.W.findObj_data isC hp.at_ hp.get hp.tak) pg.2 (wpAny_call (PySem.W.prop_get (s:={s with toks:=s.toks+1}) I.kIn hrec ?_))
 refine codeAny_mono (Fo X.A.in1 X.stack _ H [.ref a] [.ref a] Q E0 hr.in1 I1.env0.in1 (.cons rfl .nil) h) fun r s' hq=>?_
 match r,hq with
 |.error er,hq=>exact (show False from zkjb (X:=X.nox) pins σ H _ er s' (I1.wish _) hq).elim
 |.ok (.ret u),hq=>
  obtain⟨v,Hz,Iz,rv,qz⟩:=I1.after hq
  show wpAny _ _ (handedOut u) _ _ _
  rw[PySem.W.handedOut_of (handed_of rv)]
  exact wpAny_pure ⟨v,Hz,Iz,rv,qz⟩
 |.ok .next,hq=>exact False.elim hq
 |.ok .brk,hq=>exact False.elim hq
 |.ok .cont,hq=>exact False.elim hq
theorem zlbb {e:Expr} {f:Str} {pos:Pos} {k:Nat} {C:Str} {p g:Addr} {F:DF} {fe:DE} (c:Cls X.K (He.ga X.K C)) (hp:PropOf X.K (He.ga X.K C) f p g) (Fo:FnD X.prog X.w X.K X.mg X.base k g F) (hr:RoomG (k+1) X.A)
  (he:PE X e (tD X.K Wx fe)) (hab:attributeBase e f X.env (eval e X.env)=eval e X.env:=by rfl):PE X (.Attribute e f pos) (tD X.K Wx (eProp C F fe)):=by
 refine⟨fun pins s σ H Q I h=>?_⟩
 have h2:=zbv (R:=fun x H1 Q=>∃a dx fs,x = .ref a∧H1 a=some (.ins (He.ga X.K C) dx fs)∧spR X.K F [.ref a] H1 Q E0) h fun H1 H al m x v r hv p=>by
  unfold propW at p
  split at p
  ·rename_i hc
   obtain⟨a,dx,fs,ns,ds,rfl,h1,h3,h4,h5⟩:=zpm r hv hc
   exact⟨a,dx,fs,rfl,h1,H1,al,m,[x],r,.cons hv .nil,z8cb p⟩
  ·exact p.elim
 refine attr_of hab (thn (he.run pins s σ H _ I h2) fun u s1 ⟨x,H1,I1,rx,a,dx,fs,ex,ea,q⟩=>?_)
 subst ex
 cases rx
 exact z5cb I1 ea c hp Fo hr q
theorem zf0 {K:Fg} {H1 H:Hp} {al:Gh} {mm:Mem} {x:W} {v:V} {C m:Str} (r:Rel K H1 H al mm) (hv:RpW K H1 al v x) (h:hasNo C m x mm=true):∃a dx fs,v = .ref a∧H a=some (.ins (He.ga K C) dx fs)∧fs.lookup m=none:=by
 unfold hasNo at h
 split at h
 ·rename_i C' ns ds hd
  obtain⟨h1,h2⟩:=Bool.and_eq_true_iff.mp h
  have e:=of_decide_eq_true h1
  subst e
  obtain⟨a,dx,fs,e1,h3,h4,h5⟩:=(hv.rh r hd).obj r.ex
  refine⟨a,dx,fs,e1,h3,?_⟩
  have hn:m ∉ fs.map (·.1):=fun z=>by
   rw[h4] at z
   have:ns.contains m=true:=List.contains_iff_mem.mpr z
   rw[this] at h2
   cases h2
  cases hl:fs.lookup m with
  |none=>rfl
  |some u=>
   exfalso
   apply hn
   have:∀l:List (Str × V),l.lookup m=some u→m∈l.map (·.1):=by
    intro l
    induction l with
    |nil=>intro h;cases h
    |cons q l ih=>
     intro h
     rw[List.lookup_cons] at h
     cases hb:m==q.1 with
     |true=>rw[eq_of_beq hb];exact List.mem_cons_self
     |false=>rw[hb] at h;exact List.mem_cons_of_mem _ (ih h)
   exact this fs hl
 ·cases h
theorem z64 {o e:Expr} {es:List Expr} {m C:Str} {apos pos:Pos} {pl:Sem Bool} {k:Nat} {f:Addr} {F:DF} {fo:DE} {g:DA} (tk:L2N.Takes X Wx) (c:Cls X.K (He.ga X.K C)) (hm:Meth X.K (He.ga X.K C) m f) (Fo:FnD X.prog X.w X.K X.mg X.base k f F) (hr:RoomG k X.A) (ho:PE X o (tD X.K Wx fo)) (ha:PA X (e::es) (tA X.K Wx g))
  (hst:starEach (e::es) X.env=(false,eval e X.env)::starEach es X.env:=by rfl) (hpl:(backTo pos (starEach es X.env)).any (·.1)=false:=by rfl)
  (ht:eval (.Call (.Attribute o m apos) (e::es) [] pos) X.env=(do
    let ov ←eval o X.env
    standAt apos.atName
    let (f,first) ←holding [ov] (getMethod ov m pl)
    callWith pos f first (backTo pos (starEach (e::es) X.env)) (backToKw pos (keywordEach [] X.env))):=by rfl):PE X (.Call (.Attribute o m apos) (e::es) [] pos) (tD X.K Wx (eMeth C m F fo g)):=by
 refine⟨fun pins s σ H Q I ⟨H1,al,dl,mm,r,en,p⟩=>?_⟩
 have h2:tD X.K Wx fo σ H fun v H'=>∃a dx fs,v = .ref a∧H' a=some (.ins (He.ga X.K C) dx fs)∧fs.lookup m=none∧tA X.K Wx g σ H' fun vs H2=>spR X.K F (.ref a::vs) H2 Q (fun c d H=>Wx c d σ H):=by
  refine⟨H1,al,dl,mm,r,en,p.bind fun x m1 H1' al' H' e pr r' p' v hv=>?_⟩
  split at p'
  ·rename_i hn
   obtain⟨a,dx,fs,rfl,h1,h2⟩:=zf0 r' hv hn
   refine⟨a,dx,fs,rfl,h1,h2,H1',al',dl,m1,r',en.mono e pr,p'.bind fun ws m2 H2 al2 H2' e2 pr2 r2 p2 vs hvs=>?_⟩
   exact zvp r2 (.cons (hv.mono e2 pr2) hvs) p2
  ·exact p'.elim
 refine PySem.W.methodCall_KW (pl:=pl) (thn (ho.run pins s σ H _ I h2) fun u s1 ⟨x,H1,I1,rx,a,dx,fs,ex,ea,l,q⟩=>?_) ht
 subst ex
 obtain rfl:u=Value.ref a:=rx
 refine getmeth_ok I1 ea c hm l ?_
 refine PySem.W.callWith_K (first:=[.ref a]) (h₀:=X.base) I.ok.mod.kin hm.kp (thn (ha.run pos pins s1 σ H1 _ I1 q) fun us s2 ⟨vs,H2,I2,r,q2⟩=>⟨I2.kIn,?_⟩) hst hpl
 exact wpAny_call (z0z (us:=.ref a::us) (vs:=.ref a::vs) tk Fo hr I2 (.cons rfl r) q2)
theorem cm_td {C:Str} {cm:Bool} {F:DF} {fo:DE} {g:DA} {σ : L2.St} {H:Hp} {Q:VK} (h:tD X.K Wx (eCm C cm F fo g) σ H Q) :
  tD X.K Wx fo σ H fun v H'=>v = .ref (He.ga X.K C)∧tA X.K Wx g σ H' fun vs H2=>spR X.K F (if cm=true then .ref (He.ga X.K C)::vs else vs) H2 Q (fun c d H=>Wx c d σ H):=by
 obtain⟨H1,al,dl,mm,r,en,p⟩:=h
 refine⟨H1,al,dl,mm,r,en,p.bind fun x m1 H1' al' H' e pr r' p' v hv=>?_⟩
 split at p'
 ·rename_i C'
  split at p'
  ·rename_i e0
   subst e0
   cases (show Rp X.K H1' v (.cls C') from hv)
   refine⟨rfl,H1',al',dl,m1,r',en.mono e pr,p'.bind fun ws m2 H2 al2 H2' e2 pr2 r2 p2 vs hvs=>?_⟩
   cases cm with
   |true=>exact zvp (ws:=.d (.cls C')::ws) r2 (.cons (show Rp X.K H2 (.ref (He.ga X.K C')) (.cls C') from .cls) hvs) p2
   |false=>exact zvp r2 hvs p2
  ·exact p'.elim
 ·exact p'.elim
theorem z10 {o e:Expr} {es:List Expr} {m C:Str} {apos pos:Pos} {pl:Sem Bool} {mc:Value} {k:Nat} {q g:Addr} {F:DF} {fo:DE} {f:DA} (tk:L2N.Takes X Wx) (rd:ClX.CRead X.K (He.ga X.K C) mc) (c:ClX.CMet X.K (He.ga X.K C) mc m q g) (Fo:FnD X.prog X.w X.K X.mg X.base k g F) (hr:RoomG k X.A) (ho:PE X o (tD X.K Wx fo)) (ha:PA X (e::es) (tA X.K Wx f))
  (hst:starEach (e::es) X.env=(false,eval e X.env)::starEach es X.env:=by rfl) (hpl:(backTo pos (starEach es X.env)).any (·.1)=false:=by rfl)
  (ht:eval (.Call (.Attribute o m apos) (e::es) [] pos) X.env=(do
    let ov ←eval o X.env
    standAt apos.atName
    let (f,first) ←holding [ov] (getMethod ov m pl)
    callWith pos f first (backTo pos (starEach (e::es) X.env)) (backToKw pos (keywordEach [] X.env))):=by rfl):PE X (.Call (.Attribute o m apos) (e::es) [] pos) (tD X.K Wx (eCm C true F fo f)):=by
 refine⟨fun pins s σ H Q I h=>?_⟩
 refine PySem.W.methodCall_KW (pl:=pl) (thn (ho.run pins s σ H _ I (cm_td h)) fun u s1 ⟨x,H1,I1,rx,ex,qq⟩=>?_) ht
 subst ex
 obtain rfl:u=Value.ref (He.ga X.K C):=rx
 refine ClX.getmethcm_ok I1 rd c fun s2 I2=>?_
 refine ClX.callwith_cm I2 (ClX.base_none I1 (Nat.le_refl _)) c.fi (thn (ha.run pos _ s2 σ H1 _ I2 qq) fun us s3 ⟨vs,H2,I3,rv,q2⟩=>⟨⟨ClX.pin_at I3,I3.kIn⟩,?_⟩) hst hpl
 have z:wpAny (model X.prog X.w) X.A (call (.ref s1.heap.objs.size) us) (EP X ((s1.heap.objs.size,PySem.W.methodObj (.ref g) (.ref (He.ga X.K C)))::pins) σ Q) X.xe s3:=
  wpAny_call (PySem.W.method_call (ClX.pin_at I3) (z0z (us:=.ref (He.ga X.K C)::us) (vs:=.ref (He.ga X.K C)::vs) tk Fo hr I3 (.cons rfl rv) q2))
 exact thn z fun _ _ y=>ClX.unpinE y
end
end DL
namespace DL
open PySem PySem.Spec L2
open PyProof.Rows hiding St
open Evl (Ex)
section
variable {X:Cx} {Wx:WX}
theorem zu1 {k:Nat} {f:Addr} {C:Str} {F:DF} {pins:List (Addr × Obj)} {σ : L2.St} {H:Hp} {s:Shared} {Q:VK} {us:List Value} {vs:List V} {ws:List W} {H1:Hp} {al:Gh} {m:Mem} (tk:L2N.Takes X Wx) (M:Mk X.K (He.ga X.K C) f) (Fo:FnD X.prog X.w X.K X.mg X.base k f F) (hr:RoomG (k+1) X.A) (I:Inv X pins σ H s) (r:Vals vs us)
  (rl:Rel X.K H1 H al m) (hws:RpWs X.K H1 al vs ws) (p:Post X.K H1 al σ Wx (GV X.K Q) (makeW C F ws m)):wpAny (model X.prog X.w) X.A (call (.ref (He.ga X.K C)) us) (EP X pins σ Q) X.xe s:=by
 have hx:H (s.heap.objs.size+1)=none:=I.hok.fresh (Nat.le_succ _)
 have hdx:H s.heap.objs.size=none:=I.hok.fresh (Nat.le_refl _)
 have hne:s.heap.objs.size≠s.heap.objs.size+1:=Nat.ne_of_lt (Nat.lt_succ_self _)
 have I2:=Inv.made (C:=He.ga X.K C) I
 have r2:Vals (V.ref (s.heap.objs.size+1)::vs) (Value.ref (s.heap.objs.size+1)::us):=.cons rfl r
 have g1:=rl.grow (Evl.Ex.new (o:=.own (s.heap.objs.size+1)) hdx)
 have hx2:(upd H s.heap.objs.size (.own (s.heap.objs.size+1))) (s.heap.objs.size+1)=none:=by rw[upd_ne (Ne.symm hne)];exact hx
 have g2:Rel X.K H1 (upd (upd H s.heap.objs.size (.own (s.heap.objs.size+1))) (s.heap.objs.size+1) (.ins (He.ga X.K C) s.heap.objs.size [])) (al.push (s.heap.objs.size+1)) (m++[.obj C [] []]):=
  g1.cell hx2 ⟨s.heap.objs.size,[],upd_same,rfl,.nil⟩
 have le:Le al (al.push (s.heap.objs.size+1)):=Le.push _ _
 have hq:spR X.K F (V.ref (s.heap.objs.size+1)::vs) (upd (upd H s.heap.objs.size (.own (s.heap.objs.size+1))) (s.heap.objs.size+1) (.ins (He.ga X.K C) s.heap.objs.size [])) (fun v H2=>v = .non∧Q (.ref (s.heap.objs.size+1)) H2) (fun c d H=>Wx c d σ H):=by
  refine⟨H1,_,_,.c m.length::ws,g2,.cons ⟨_,?_,rfl⟩ (hws.mono (Ex.refl _) le),?_⟩
  ·show (al.al.fl++[s.heap.objs.size+1])[m.length]?=_
   rw[←rl.len,List.getElem?_append_right (Nat.le_refl _),Nat.sub_self] <;> rfl
  ·unfold makeW at p
   cases hF:F (.c m.length::ws) (m++[.obj C [] []]) with
   |no=>rw[hF] at p;exact p.elim
   |exc C' f' p' m'=>
    rw[hF] at p
    intro Ha aa Hb v dx e1 l1 e2 e3 e4
    exact p Ha aa Hb v dx e1 (le.trans l1) e2 e3 e4
   |ok w' m'=>
    rw[hF] at p
    intro Ha aa Hb v e1 l1 e2 e3
    have p2:Post X.K H1 al σ Wx (GV X.K Q) (madeW m.length w' m'):=p
    clear p hF
    unfold madeW at p2
    split at p2
    ·cases (show Rp X.K Ha v .non from e3)
     refine⟨rfl,?_⟩
     split at p2
     ·rename_i C2 ns ds hc
      have hk:(al.push (s.heap.objs.size+1)).al.fl[m.length]?=some (s.heap.objs.size+1):=by
       show (al.al.fl++[s.heap.objs.size+1])[m.length]?=_
       rw[←rl.len,List.getElem?_append_right (Nat.le_refl _),Nat.sub_self] <;> rfl
      obtain⟨H3,e5,r5,q5⟩:=e2.freeze (le.trans l1) rl.pos (zw9 l1 hk) (by rw[rl.len];exact Nat.le_refl _) hc
      rw[rl.len] at r5
      exact p2 H3 (al.up _) Hb (e1.trans e5) (le.trans l1).up r5 _ q5
     ·exact p2.elim
    ·exact p2.elim
 refine wpAny_call (make_map (f:=f) I.kIn M.makes M.init (beq_iff_eq.mp M.fn) (codeAny_mono (Fo _ X.stack _ _ (Value.ref (s.heap.objs.size+1)::us) _ _ _ (hr.make _ us []) (I2.env0.make _ us []) r2 hq) fun r s' hq'=>?_))
 cases r with
 |error e=>exact L2N.passAt tk σ pins _ _ e s' I2 hq'
 |ok fl=>
  cases fl with
  |ret u=>
   obtain⟨v,H',I3,rv,ev,q3⟩:=I2.after hq'
   subst ev
   exact⟨rv,⟨V.ref (s.heap.objs.size+1),H',I3,rfl,q3⟩⟩
  |next=>exact False.elim hq'
  |brk=>exact False.elim hq'
  |cont=>exact False.elim hq'
theorem mk_td {C:Str} {F:DF} {fo:DE} {g:DA} {σ : L2.St} {H:Hp} {Q:VK} (h:tD X.K Wx (eMk C F fo g) σ H Q) :
  tD X.K Wx fo σ H fun v H'=>v = .ref (He.ga X.K C)∧tA X.K Wx g σ H' fun vs H2=>∃H1 al m ws,Rel X.K H1 H2 al m∧RpWs X.K H1 al vs ws∧Post X.K H1 al σ Wx (GV X.K Q) (makeW C F ws m):=by
 obtain⟨H1,al,dl,mm,r,en,p⟩:=h
 refine⟨H1,al,dl,mm,r,en,p.bind fun x m1 H1' al' H' e pr r' p' v hv=>?_⟩
 split at p'
 ·rename_i C'
  split at p'
  ·rename_i e0
   subst e0
   cases (show Rp X.K H1' v (.cls C') from hv)
   exact⟨rfl,H1',al',dl,m1,r',en.mono e pr,p'.bind fun ws m2 H2 al2 H2' e2 pr2 r2 p2 vs hvs=>⟨H2,al2,m2,ws,r2,hvs,p2⟩⟩
  ·exact p'.elim
 ·exact p'.elim
theorem de_mk {fe e:Expr} {es:List Expr} {C:Str} {pos:Pos} {k:Nat} {f:Addr} {F:DF} {ff:DE} {g:DA} (tk:L2N.Takes X Wx) (M:Mk X.K (He.ga X.K C) f) (Fo:FnD X.prog X.w X.K X.mg X.base k f F) (hr:RoomG (k+1) X.A) (hf:PE X fe (tD X.K Wx ff)) (ha:PA X (e::es) (tA X.K Wx g))
  (ht:eval (.Call fe (e::es) [] pos) X.env=(do callWith pos (←eval fe X.env) [] (backTo pos (starEach (e::es) X.env)) (backToKw pos (keywordEach [] X.env))):=by rfl)
  (he:starEach (e::es) X.env=(false,eval e X.env)::starEach es X.env:=by rfl) (hpl:(backTo pos (starEach es X.env)).any (·.1)=false:=by rfl):PE X (.Call fe (e::es) [] pos) (tD X.K Wx (eMk C F ff g)):=by
 refine⟨fun pins s σ H Q I h=>?_⟩
 refine Call_ (thn (hf.run pins s σ H _ I (mk_td h)) fun u s1 ⟨y,H1,I1,ry,ey,q⟩=>?_) ht
 subst ey
 obtain rfl:u=Value.ref (He.ga X.K C):=ry
 refine PySem.W.callWith_K (first:=[]) (h₀:=X.base) I.ok.mod.kin M.kp (thn (ha.run pos pins s1 σ H1 _ I1 q) fun us s2 ⟨vs,H2,I2,rv,Ha,al,m,ws,rl,hws,p⟩=>⟨I2.kIn,?_⟩) he hpl
 exact zu1 tk M Fo hr I2 rv rl hws p
theorem RpWs.of_L {K:Fg} {H1:Hp} {al:Gh}:∀{vs:List V} {ds:List D},RpL K H1 vs ds→RpWs K H1 al vs (ds.map W.d)
 |_,_,.nil=>.nil
 |_,_,.cons h t=>.cons h (RpWs.of_L t)
/-- C(*e) -/
theorem zf3 {fe e:Expr} {C:Str} {sp pos:Pos} {k:Nat} {f:Addr} {F:DF} {ff fa:DE} (tk:L2N.Takes X Wx) (M:Mk X.K (He.ga X.K C) f) (Fo:FnD X.prog X.w X.K X.mg X.base k f F) (hr:RoomG (k+1) X.A) (hf:PE X fe (tD X.K Wx ff)) (ha:PE X e (tD X.K Wx fa))
  (ht:eval (.Call fe [.Starred e sp] [] pos) X.env=(do callWith pos (←eval fe X.env) [] (backTo pos (starEach [.Starred e sp] X.env)) (backToKw pos (keywordEach [] X.env))):=by rfl)
  (hst:starEach [.Starred e sp] X.env=[(true,eval e X.env)]:=by rfl):PE X (.Call fe [.Starred e sp] [] pos) (tD X.K Wx (eMk C F ff (z8t fa))):=by
 refine⟨fun pins s σ H Q I h=>?_⟩
 refine Call_ (thn (hf.run pins s σ H _ I (mk_td h)) fun u s1 ⟨y,H1,I1,ry,ey,H1',al,dl,m,r,en,p⟩=>?_) ht
 subst ey
 obtain rfl:u=Value.ref (He.ga X.K C):=ry
 have h3:tD X.K Wx fa σ H1 fun v H2=>∃a xs,v = .ref a∧(SqT X.K H2 a xs∨SqL X.K H2 a xs)∧∃H1 al m ws,Rel X.K H1 H2 al m∧RpWs X.K H1 al xs ws∧Post X.K H1 al σ Wx (GV X.K Q) (makeW C F ws m):=by
  refine⟨H1',al,dl,m,r,en,?_⟩
  unfold z8t at p
  cases hfa:fa dl m with
  |no=>rw[hfa] at p;exact p.elim
  |exc C' f' p' m'=>rw[hfa] at p;exact p
  |ok x m1=>
   rw[hfa] at p
   intro Ha aa Hb e1 l1 r1 v hv
   have p1:Post X.K H1' al σ Wx (GA X.K fun vs H2=>∃H1 al m ws,Rel X.K H1 H2 al m∧RpWs X.K H1 al vs ws∧Post X.K H1 al σ Wx (GV X.K Q) (makeW C F ws m)) (starW x m1):=p
   have p2:=Post.mono e1 l1 p1
   unfold starW at p2
   split at p2
   ·rename_i d hd
    split at p2
    ·rename_i ds hds
     obtain⟨a,us,rfl,h1,h2⟩:=(hv.rh r1 hd).seq r1.ex hds
     exact⟨a,us,rfl,h1.symm,p2.ok_ r1 us (RpWs.of_L h2)⟩
    ·exact p2.elim
   ·exact p2.elim
 refine PySem.W.callWith_S (h₀:=X.base) I.ok.mod.kin M.kp (thn (ha.run pins s1 σ H1 _ I1 h3) fun v s2 ⟨y,H2,I2,ry,a,xs,ey,hxs,Ha,al,m,ws,rl,hws,p⟩=>?_) hst
 subst ey
 obtain rfl:v=Value.ref a:=ry
 exact StX.star_any I2 hxs fun us s3 I3 rv=>⟨I3.kIn,zu1 tk M Fo hr I3 rv rl hws p⟩
end
def starF (n:Nat) (F:DF):DF:=fun ws m=>match z9f (ws.drop n) with
 |some ds=>if n≤ws.length∧ds.length≤sizeLine then F (ws.take n++[.d (.tup ds)]) m else .no
 |none=>.no
section
variable {P:Program} {w:World} {K:Fg} {mg:Str→Option Value} {base:Heap}
theorem z4db {x qual:Str} {params:Arguments} {body:List Stmt} {scope:Scope} {kws:List (Str × V)} {f:Addr} {fd:FuncData} {N ps:List Str} {pv:Str} {k:Nat} {g:DS} (F:FunD K x qual params body scope [] kws f fd) (S:FnScope N (ps++[pv]) scope)
  (hbd:∀(kV doc pm:Value) (an:Option Addr) (cdv ct:Value) (us rest:List Value),us.length=ps.length→bindArgs (PySem.W.fnOf x qual params body scope .none kV doc pm an cdv ct) ⟨us++rest,[]⟩=(newTuple rest >>= fun t=>pure (ps.zip us++[(pv,t)])))
  (hb:∀(cdv:Value) (A:Around) (outer:List PySem.Env) (s:Shared) (H:Hp) (E:XK),RoomG k (A.deeper (envOfC qual scope s.heap.objs.size f cdv)) →
    PSs (cxOf (L2N.CX P w) P w K mg base N qual scope f cdv A outer s H E) body (tS K (fun c d _ H=>E c d H) g)):FnD P w K mg base (k+1) f (starF ps.length (runF N.length g)):=by
 obtain⟨oc,od,dV,kV,doc,pm,an,cdv,ct,osl,rfl,lk,hcd,hdv,_⟩:=F.ex
 obtain rfl:dV = .none:=by
  rcases hdv with ⟨_,h⟩ |⟨h,_⟩
  ·exact h
  ·exact (h rfl).elim
 intro A outer s H us vs Q E room env vals ⟨H1,al,m,ws,r,hws,p⟩
 unfold starF at p
 split at p
 ·rename_i ds hds
  split at p
  ·rename_i hc
   have hd:=zho (hws.drop ps.length) hds
   have lv:(vs.take ps.length).length=ps.length:=by rw[List.length_take,hws.length];omega
   have lr:(vs.drop ps.length).length≤sizeLine:=by rw[hd.length];exact hc.2
   obtain⟨u1,u2,rfl,r1,r2⟩:=StX.vals_split (show Vals (vs.take ps.length++vs.drop ps.length) us by rw[List.take_append_drop];exact vals)
   have fresh:H s.heap.objs.size=none:=env.hok.fresh (Nat.le_refl _)
   have l1:u1.length=ps.length:=r1.length ▸ lv
   refine StX.run_bnd (k:=k) lk hcd S room.toRoom env (G:=fun xs Hz=>∃q,H q=none∧xs=vs.take ps.length++[V.ref q]∧Hz=upd H q (.tup (vs.drop ps.length))) ?_ ?_
   ·intro A' Ex' Q' h
    rw[hbd kV doc pm an cdv ct u1 u2 l1]
    refine wpAny_bind (wpAny_newTuple (wpAny_pure ?_) (by rw[←r2.length];exact lr))
    have obj:ObjOk P w (upd H s.heap.objs.size (.tup (vs.drop ps.length))) (s.heap.push ({cls:=.type "tuple",data:=.seq u2.toArray}:Obj)) s.heap.objs.size (.tup (vs.drop ps.length)):=⟨lr,u2,r2,_,Heap.get?_push_size _ rfl,rfl,_,rfl⟩
    have un:=StX.un_laid (fs:=frs outer) (s:=s) (o:=({cls:=.type "tuple",data:=.seq u2.toArray}:Obj)) (u:=.tup (vs.drop ps.length)) fresh
    have z:=h _ _ (vs.take ps.length++[V.ref s.heap.objs.size]) (u1++[Value.ref s.heap.objs.size]) (StX.env0_laid env obj) un rfl
     (fun e s'=>cxUpN outer s H _ _ E e s' un (fun b o q=>Heap.get?_push_of_some _ q) rfl) (r1.append (.cons rfl .nil)) (by simp only[List.length_append,lv,List.length_singleton]) ⟨_,fresh,rfl,rfl⟩
    rw[List.zip_append l1.symm] at z
    exact z
   ·rintro s2 H2 xs ⟨q,hq,rfl,rfl⟩ hr'
    obtain⟨q1,q2,q3⟩:=zqn r hd hq
    exact⟨_,hb cdv A outer s2 _ E ⟨hr',room.gd⟩,_,al,zup N.length (ws.take ps.length++[.d (.tup ds)]),m,q2,RpE.start (((hws.take ps.length).mono q1 (zkb _)).append (.cons (w:=.d (.tup ds)) q3 .nil)),z35 q2 (PostF.mono q1 (show PostF K H1 al Q E (fin m.length (g (zup N.length (ws.take ps.length++[.d (.tup ds)])) m)) from p))⟩
  ·exact p.elim
 ·exact p.elim
end
section
variable {X:Cx} {Wx:WX}
theorem zw0 {o i e:Expr} {pos1 pos:Pos} {fo fi fe:DE} (he:PE X e (tD X.K Wx fe)) (ho:PE X o (tD X.K Wx fo)) (hi:PE X i (tD X.K Wx fi))
  (ha:∀v,assign (.Subscript o i pos1) X.env v=(do
    let ov ←holding [v] (eval o X.env)
    let iv ←holding [v,ov] (eval i X.env)
    standAt pos1
    holding [v,ov,iv] (setItem ov iv v)
    release [v,ov,iv] []):=by intro _;rfl)
  (hs:swapsWithSole [.Subscript o i pos1] e pos.line X.env=pure false:=by rfl) (hw:swappedStores [.Subscript o i pos1] e X.env=pure none:=by rfl)
  (h1:(assignEach [.Subscript o i pos1] X.env).map (·.2)=[assign (.Subscript o i pos1) X.env]:=by rfl):PS X (.Assign [.Subscript o i pos1] e pos) (tS X.K Wx (z0t fe fo fi)):=
 psImp (ps_asg he (pg_sub ho hi set_list ha) hs hw h1) fun En σ H ⟨H1,al,dl,m,r,en,p⟩=>by
  refine⟨H1,al,dl,m,r,en,p.of en fun y m1 H1' al' H' e1 l1 r1 p1 v hv=>?_⟩
  have en1:=en.mono e1 l1
  refine⟨H1',al',dl,m1,r1,en1,p1.of en1 fun o m2 H2 al2 H2' e2 l2 r2 p2 ov hov=>?_⟩
  have en2:=en1.mono e2 l2
  refine⟨H2,al2,dl,m2,r2,en2,p2.of en2 fun i m3 H3 al3 H3' e3 l3 r3 p3 iv hiv=>?_⟩
  have en3:=en2.mono e3 l3
  have hv3:=(hv.mono e2 l2).mono e3 l3
  have ho3:=hov.mono e3 l3
  cases hs:setW y o i m3 with
  |none=>rw[hs] at p3;exact p3.elim
  |some m4=>
   rw[hs] at p3
   unfold setW at hs
   split at hs
   ·rename_i d k j
    split at hs
    ·rename_i ds hds
     split at hs
     ·rename_i n hn
      cases hs
      obtain⟨a,ha,rfl⟩:=ho3
      cases (show Rp X.K H3 iv (.int j) from hiv)
      obtain⟨vs,h5,h6⟩:=r3.cells k a _ ha hds
      refine⟨a,vs,j,n,rfl,rfl,h5,by rw[h6.length];exact hn,?_⟩
      exact p3.nx_ (r3.put (c:=.lst (ds.set n d)) ha hds rfl ⟨_,upd_same,h6.set hv3 n⟩) en3
     ·cases hs
    ·cases hs
   ·cases hs
theorem zgo {o e:Expr} {es:List Expr} {apos cpos:Pos} {fo:DE} {f:DA} (ho:PE X o (tD X.K Wx fo)) (ha:PA X (e::es) (tA X.K Wx f))
  (hbase:attributeBase o "append" X.env (eval o X.env)=eval o X.env:=by rfl)
  (hfew:((backTo cpos (starEach (e::es) X.env)).all (fun x => !x.1)&&(backToKw cpos (keywordEach [] X.env)).all (fun x=>x.1.isSome)
    && decide ((e::es).length+([]:List Keyword).length+(if ([]:List Keyword).isEmpty then 0 else 1)<30))=true:=by rfl)
  (hline:(apos.endLine==cpos.line)=true:=by rfl) (hs:starEach (e::es) X.env=(false,eval e X.env)::starEach es X.env:=by rfl) (hplain:(backTo cpos (starEach es X.env)).any (·.1)=false:=by rfl) :
  PE X (.Call (.Attribute o "append" apos) (e::es) [] cpos) (tD X.K Wx (eApp fo f)):=by
 refine peImp (pe_bm PySem.F.plainAttrs_list PySem.F.slot_list_append PySem.F.type_list_append mt_append ho ha hbase hfew hline hs hplain) fun σ H Q ⟨H1,al,dl,m,rl,en,p⟩=>?_
 refine⟨H1,al,dl,m,rl,en,p.bind fun x m1 H1' al' H' e pr r' p' v hv=>?_⟩
 split at p'
 ·rename_i ht
  refine⟨zry r' hv ht,H1',al',dl,m1,r',en.mono e pr,p'.bind fun ws m2 H2 al2 H2' e2 pr2 r2 p2 vs hvs=>?_⟩
  have hv2:=hv.mono e2 pr2
  unfold appW at p2
  split at p2
  ·rename_i k d
   split at p2
   ·rename_i ds hds
    split at p2
    ·rename_i hl
     obtain⟨a,ha,rfl⟩:=hv2
     obtain⟨us,h5,h6⟩:=r2.cells k a _ ha hds
     cases hvs with
     | @cons y ys _ _ hy hys=>
       cases hys
       exact⟨a,us,y,rfl,rfl,h5,by rw[h6.length];exact hl,p2 H2 al2 _ (Ex.refl _) (zkb _) (r2.put (c:=.lst (ds++[d])) ha hds rfl ⟨_,upd_same,h6.append (.cons hy .nil)⟩) _ .non⟩
    ·exact p2.elim
   ·exact p2.elim
  ·exact p2.elim
 ·exact p'.elim
theorem zykb {o:Expr} {apos cpos:Pos} {fo:DE} (ho:PE X o (tD X.K Wx fo)) (hbase:attributeBase o "pop" X.env (eval o X.env)=eval o X.env:=by rfl) (hline:(apos.endLine==cpos.line)=true:=by rfl):PE X (.Call (.Attribute o "pop" apos) [] [] cpos) (tD X.K Wx (ePop fo)):=by
 refine peImp (pe_bm0 PySem.F.plainAttrs_list PySem.F.slot_list_pop PySem.F.type_list_pop mt_pop ho hbase hline) fun σ H Q ⟨H1,al,dl,m,rl,en,p⟩=>?_
 refine⟨H1,al,dl,m,rl,en,p.bind fun x m1 H1' al' H' e pr r' p' v hv=>?_⟩
 split at p'
 ·rename_i ht
  refine⟨zry r' hv ht,?_⟩
  unfold popW at p'
  split at p'
  ·rename_i k
   split at p'
   ·rename_i ds hds
    split at p'
    ·rename_i d hd
     obtain⟨a,ha,rfl⟩:=hv
     obtain⟨us,h5,h6⟩:=r'.cells k a _ ha hds
     obtain⟨u,h7,h8⟩:=h6.get hd
     exact⟨a,us,u,rfl,rfl,h5,by rw[h6.length];exact h7,p' H1' al' _ (Ex.refl _) (zkb _) (r'.put (c:=.lst ds.dropLast) ha hds rfl ⟨_,upd_same,h6.dropLast⟩) _ h8⟩
    ·exact p'.elim
   ·exact p'.elim
  ·exact p'.elim
 ·exact p'.elim
theorem zu9 {K:Fg} {H:Hp} {f:Str} {v:V} {d:D} (h:Rp K H v d):∀{fs:List (Str × V)} {ds:List D},RpL K H (fs.map (·.2)) ds→(putF f v fs).map (·.1)=(putL f d (fs.map (·.1)) ds).1∧RpL K H ((putF f v fs).map (·.2)) (putL f d (fs.map (·.1)) ds).2
 |[],_,r=>by
  cases r
  exact⟨rfl,.cons h .nil⟩
 |(g,x)::fs,_,r=>by
  cases r with
  | @cons _ _ d1 ds1 r1 r2=>
    obtain⟨h1,h2⟩:=zu9 (f:=f) h r2
    by_cases hg:g=f
    ·have e1:putF f v ((g,x)::fs)=(g,v)::fs:=if_pos hg
     have e2:putL f d (g::fs.map (·.1)) (d1::ds1)=(g::fs.map (·.1),d::ds1):=if_pos hg
     rw[e1]
     show _=(putL f d (g::fs.map (·.1)) (d1::ds1)).1∧RpL K H _ (putL f d (g::fs.map (·.1)) (d1::ds1)).2
     rw[e2]
     exact⟨rfl,.cons h r2⟩
    ·have e1:putF f v ((g,x)::fs)=(g,x)::putF f v fs:=if_neg hg
     have e2:putL f d (g::fs.map (·.1)) (d1::ds1)=(g::(putL f d (fs.map (·.1)) ds1).1,d1::(putL f d (fs.map (·.1)) ds1).2):=if_neg hg
     rw[e1]
     show _=(putL f d (g::fs.map (·.1)) (d1::ds1)).1∧RpL K H _ (putL f d (g::fs.map (·.1)) (d1::ds1)).2
     rw[e2]
     exact⟨congrArg (g :: ·) h1,.cons r1 h2⟩
theorem z2p {o e:Expr} {f:Str} {pos1 pos:Pos} {Cs:List Str} {fo fe:DE} (hC:∀C∈Cs,Cls X.K (He.ga X.K C)∧NoAttr X.K (He.ga X.K C) f) (ho:PE X o (tD X.K Wx fo)) (he:PE X e (tD X.K Wx fe)) (hs:swapsWith e (some (.Attribute o f pos1)) pos.line X.env=pure false:=by rfl) :
  PS X (.Assign [.Attribute o f pos1] e pos) (tS X.K Wx (sFldS Cs f fe fo)):=psImp (ps_fld ho he hs) fun En σ H ⟨H1,al,dl,m,r,en,p⟩=>by
 refine⟨H1,al,dl,m,r,en,p.of en fun y m1 H1' al' H' e1 l1 r1 p1 v hv=>?_⟩
 have en1:=en.mono e1 l1
 refine⟨H1',al',dl,m1,r1,en1,p1.of en1 fun o m2 H2 al2 H2' e2 l2 r2 p2 ov hov=>?_⟩
 have en2:=en1.mono e2 l2
 have hv2:=hv.mono e2 l2
 cases hs:sFldW Cs f y o m2 with
 |none=>rw[hs] at p2;exact p2.elim
 |some m4=>
  rw[hs] at p2
  unfold sFldW at hs
  split at hs
  ·rename_i d k
   split at hs
   ·rename_i C ns ds hds
    split at hs
    ·rename_i hc
     cases hs
     obtain⟨a,ha,rfl⟩:=hov
     obtain⟨dx,fs,h5,h6,h7⟩:=r2.cells k a _ ha hds
     obtain⟨c1,c2⟩:=hC C hc.1
     subst h6
     refine⟨a,_,dx,fs,rfl,h5,c1,c2,by have:=hc.2;rwa [List.length_map] at this,?_⟩
     obtain⟨z1,z2⟩:=zu9 (f:=f) hv2 h7
     exact p2.nx_ (r2.put (c:=.obj C _ _) ha hds rfl ⟨dx,_,upd_same,z1,z2⟩) en2
    ·cases hs
   ·cases hs
  ·cases hs
theorem z20 {a b c:Expr} {op op':CmpOp} {pos:Pos} {g g':D→D→Option D} {fa fb fc:DE} (ho:OpOk X (compareOp op) g) (ho':OpOk X (compareOp op') g') (hg:∀x y z,g x y=some z→∃k,z = .bl k) (ha:PE X a (tD X.K Wx fa)) (hb:PE X b (tD X.K Wx fb)) (hc:PE X c (tD X.K Wx fc))
  (hm:lastMarks [op,op'] [b,c]=false:=by with_unfolding_all rfl):PE X (.Compare a [op,op'] [b,c] pos) (tD X.K Wx (zdo g g' fa fb fc)):=by
 obtain⟨r,hr,hs⟩:=ho
 obtain⟨r',hr',hs'⟩:=ho'
 refine peImp (pe_chain hr hr' ha hb hc hm) fun σ H Q ⟨H1,al,dl,m,rl,en,p⟩=>?_
 refine⟨H1,al,dl,m,rl,en,p.bind fun x m1 H1' al' H' e1 l1 r1 p1 v hv=>?_⟩
 have en1:=en.mono e1 l1
 refine⟨H1',al',dl,m1,r1,en1,p1.bind fun y m2 H2 al2 H2' e2 l2 r2 p2 w hw=>?_⟩
 have en2:=en1.mono e2 l2
 have hv2:=hv.mono e2 l2
 refine z5e (K:=X.K) (Wx:=Wx) (σ := σ) (r:=r) (g:=g) (x:=x) (y:=y) (m:=m2) r2 hv2 hw hs ?_
 unfold lift2 at p2 ⊢
 split at p2
 ·rename_i dx hdx
  split at p2
  ·rename_i dy hdy
   split at p2
   ·rename_i z hz
    obtain⟨k,rfl⟩:=hg dx dy z hz
    intro H3 al3 H3' e3 l3 r3 u hu
    cases (show Rp X.K H3 u (.bl k) from hu)
    refine⟨k,rfl,?_⟩
    have p3:Post X.K H2 al2 σ Wx (GV X.K Q) (if k=true then (fc dl m2).bind fun w m5=>lift2 g' y w m5 else .ok (.d (.bl false)) m2):=p2
    have p4:=Post.mono e3 l3 p3
    cases k with
    |false=>
     show (if false=true then _ else Q (.bl false) H3')
     refine iteF ?_
     exact p4 H3 al3 H3' (Ex.refl _) (zkb _) r3 _ (.bl false)
    |true=>
     show (if true=true then tD X.K Wx fc σ H3' (fun w' H4=>r' w w' H4 Q) else Q (.bl false) H3')
     refine iteT ⟨H3,al3,dl,m2,r3,en2.mono e3 l3,?_⟩
     have p5:Post X.K H3 al3 σ Wx (GV X.K Q) ((fc dl m2).bind fun w m5=>lift2 g' y w m5):=p4
     exact p5.bind fun w2 m5 H5 al5 H5' e5 l5 r5 p6 u2 hu2=>z5e r5 ((hw.mono e3 l3).mono e5 l5) hu2 hs' p6
   ·exact p2.elim
  ·exact p2.elim
 ·exact p2.elim
end
end DL
namespace DL
open PySem PySem.Spec L2
open PyProof.Rows hiding St
open Evl (Ex)
theorem zp7 (x:Int) (xs:List Int):PySem.W.minOf x xs=minI (x::xs):=by
 unfold PySem.W.minOf minI
 show xs.foldl (fun a y=>if PySem.W.DatumOrd.lt y a=true then y else a) x=xs.foldl (fun x y=>if y<x then y else x) x
 have e:(fun (a y:Int)=>if PySem.W.DatumOrd.lt y a=true then y else a)=fun x y=>if y<x then y else x:=by
  funext a y
  show (if decide (y<a)=true then y else a)=_
  by_cases h:y<a
  ·rw[if_pos h,if_pos (decide_eq_true h)]
  ·rw[if_neg h,if_neg (by rw[decide_eq_false h];exact Bool.false_ne_true)]
 rw[e]
theorem z7y {h:Heap}:∀{ns:List Int} {us:List Value},Vals (ns.map V.int) us→PySem.W.HoldAll h us ns
 |[],_,r=>by
  cases r
  exact⟨[],.nil⟩
 |n::ns,_,r=>by
  cases r with
  |cons r1 r2=>
   obtain⟨t,rfl⟩:=r1
   obtain⟨as,q⟩:=z7y (h:=h) r2
   exact⟨[]++as,.cons (.int n t) q⟩
section
variable {X:Cx} {Wx:WX}
def zt9 (K:Fg):List V→List V→Hp→VK→Prop:=fun xs zs H Q=>∃(a:Addr) (ns:List Int) (d:V),xs=[.ref a]∧zs=[d]∧SqL K H a (ns.map V.int)∧(ns=[]→Q d H)∧(ns≠[]→Q (.int (minI ns)) H)
theorem zybb (hc:X.calm=true) (hu:X.A.units+64<cLine):CallRK X (.builtin "min") ["default"] (zt9 X.K):=by
 intro pins s σ H xs zs us ws Q I rx rz h
 obtain⟨a,ns,d,rfl,rfl,hS,h0,h1⟩:=h
 obtain⟨u,rfl,ru⟩:∃u,us=[u]∧RelV (.ref a) u:=by
  cases rx with
  |cons r1 r2=>cases r2;exact⟨_,rfl,r1⟩
 obtain rfl:u=Value.ref a:=ru
 obtain⟨z,rfl,rd⟩:∃z,ws=[z]∧RelV d z:=by
  cases rz with
  |cons r1 r2=>cases r2;exact⟨_,rfl,r1⟩
 obtain⟨its,rv,pl,hz⟩:=I.list hS
 refine PySem.W.min_list_datum_default (α := Int) (I.ok.hd hc) pl.isList (by rw[List.toList_toArray];exact z7y rv) (by show X.A.units+1+0<cLine;omega) (fun e h' tk k=>⟨d,H,I.kept (t':=tk) k,rd,h0 e⟩) fun y ys i v h' tk e hi hh k=>?_
 obtain⟨as,hr⟩:=hh
 have hr':Reads h' v (.int (PySem.W.minOf y ys)) as:=hr
 cases hr' with
 |int _ t=>exact⟨.int _,H,I.kept (t':=tk) k,⟨t,rfl⟩,by rw[zp7,←e];exact h1 (by rw[e];exact List.cons_ne_nil _ _)⟩
theorem zmbb {a e:Expr} {p pos kp:Pos} {fa:DE} {v:V} {d:D} (hc:X.calm=true) (hu:X.A.units+64<cLine) (hg:Gl X "min") (hm:X.mg "min" = none) (ha:PE X a (tD X.K Wx fa)) (he:PE X e (tC v)) (hd:∀H1,Rp X.K H1 v d)
  (hs:starEach (a::[]) X.env=(false,eval a X.env)::starEach [] X.env:=by rfl) (hb:backTo pos (starEach (a::[]) X.env)=(false,eval a X.env)::backTo pos (starEach [] X.env):=by rfl) (hpl:(backTo pos (starEach (a::[]) X.env)).any (·.1)=false:=by rfl)
  (hall:(backToKw pos (keywordEach [⟨some "default",e,kp⟩] X.env)).all (·.1.isSome)=true:=by rfl) (hnone:(backToKw pos (keywordEach [⟨some "default",e,kp⟩] X.env)).any (·.1.isNone)=false:=by rfl) (hks:(backToKw pos (keywordEach [⟨some "default",e,kp⟩] X.env)).filterMap (·.1)=(["default"]:List Str):=by rfl) :
  PE X (.Call (.Name "min" p) [a] [⟨some "default",e,kp⟩] pos) (tD X.K Wx (z14 fa d)):=by
 refine peImp (pe_callBK (zybb hc hu) hg hm boot_min (pa_cons ha pa_nil hs) (pk_cons he pk_nil) (by decide) (by decide) hb hpl hall hnone hks) fun σ H Q h=>?_
 refine zbv (R:=fun y H Q=>zt9 X.K [y] [v] H Q) h fun H1 H al m x y r hv p=>?_
 unfold z73 at p
 split at p
 ·rename_i z hz
  split at p
  ·rename_i ds hds
   split at p
   ·rename_i ns hns
    obtain⟨a,us,rfl,h1,h2⟩:=(hv.rh r hz).sql r.ex hds
    rw[zss hns] at h2
    have e:=h2.of_ints
    subst e
    refine⟨a,ns,v,rfl,rfl,h1,fun e=>?_,fun e=>?_⟩
    ·rw[if_pos e] at p
     exact p.ok_ r v (hd H1)
    ·rw[if_neg e] at p
     exact p.ok_ r _ (.int _)
   ·exact p.elim
  ·exact p.elim
 ·exact p.elim
/-- a class of the module by its name -/
theorem zih {x C:Str} {pos:Pos} (hg:Gl X x) (hm:X.mg x=some (.ref (He.ga X.K C))) (hd:(x==("__debug__" : Str))=false:=by decide):PE X (.Name x pos) (tD X.K Wx (eC (.cls C))):=de_c (pe_glob (v:=.ref (He.ga X.K C)) hg hm rfl hd) fun _=>.cls
/-- a module's whole number -/
theorem z9k {x:Str} {i:Int} {pos:Pos} (hg:Gl X x) (hm:∃t,X.mg x=some (.int i t)) (hd:(x==("__debug__" : Str))=false:=by decide):PE X (.Name x pos) (tD X.K Wx (eC (.int i))):=by
 obtain⟨t,hm⟩:=hm
 exact de_c (pe_glob (v:=.int i) hg hm ⟨t,rfl⟩ hd) fun _=>.int i
theorem zukb {i j:Nat} {x y:Str} {a b:Expr} {f:DA} {px py pt:Pos} {kt k2 pt2} {pos:Pos} (hc:X.calm=true) (hN:X.N.Nodup) (hi:X.N[i]?=some x) (hj:X.N[j]?=some y) (hij:i≠j)
  (hx:X.env.scope.names.lookup x=some .local) (hy:X.env.scope.names.lookup y=some .local) (ha:PA X [a,b] (tA X.K Wx f))
  (hw:swappedStores [.Tuple [.Name x px,.Name y py] kt pt] (.Tuple [a,b] k2 pt2) X.env=pure (some [x,y]))
  (hs:swapsWithSole [.Tuple [.Name x px,.Name y py] kt pt] (.Tuple [a,b] k2 pt2) pos.line X.env=pure false:=by rfl) :
  PS X (.Assign [.Tuple [.Name x px,.Name y py] kt pt] (.Tuple [a,b] k2 pt2) pos) (tS X.K Wx (sPar i j f)):=psImp (ps_par (i:=i) (j:=j) hc hN hi hj hij hx hy ha hw hs) fun En σ H ⟨H1,al,dl,m,r,en,p⟩=>by
 refine⟨H1,al,dl,m,r,en,p.of en fun ws m1 H1' al' H' e1 l1 r1 p1 vs hvs=>?_⟩
 split at p1
 ·rename_i v w
  cases hvs with
  |cons h1 h2=>
   cases h2 with
   |cons h2 h3=>
    cases h3
    exact⟨_,_,rfl,p1.nx_ r1 (((en.mono e1 l1).set i h1).set j h2)⟩
 ·exact p1.elim
end
end DL
namespace DL
open PySem PySem.Spec L2
open PyProof.Rows hiding St
open Evl (Ex)
section
variable {X:Cx} {Wx:WX}
def iAny (K:Fg) (tl:TE):TI:=fun σ H R=>tl σ H fun x H1=>∃a,x = .ref a∧(((∃xs,SqL K H1 a xs)∧R (Itl K a) H1)∨((∃xs,SqT K H1 a xs)∧R (Itt K a) H1))
theorem zjjb {tg l:Expr} {tl:TE} (hl:PE X l tl):PI X tg l (iAny X.K tl):=by
 refine⟨fun pins s σ H R I h=>?_⟩
 refine thn (hl.run pins s σ H _ I h) fun v s1 ⟨x,H1,I1,r1,q1⟩=>?_
 obtain⟨a,e,q⟩:=q1
 subst e
 cases r1
 rcases q with ⟨⟨xs,hq⟩,q⟩ |⟨⟨xs,hq⟩,q⟩
 ·obtain⟨its,rv,p,hz⟩:=I1.list hq
  refine wpAny_pyIter_list p.isList ?_
  refine⟨s1.heap.objs.size,[s1.heap.objs.size],_,_,H1,rfl,I1.kept (t':=s1.toks) fun b o e=>Heap.get?_push_of_some _ e,turn_list a _,⟨_,Heap.get?_push_size _ rfl,rfl,rfl⟩,fun b hb=>?_,q⟩
  have e:b=s1.heap.objs.size:=by simpa using hb
  subst e
  exact I1.fpOk (Nat.le_refl _) (I1.hok.fresh (Nat.le_refl _))
 ·obtain⟨its,rv,p,hz⟩:=I1.tuple hq
  refine wpAny_pyIter_tuple (show s1.heap.IsTuple a its.toArray from p) ?_
  refine⟨s1.heap.objs.size,[s1.heap.objs.size],_,_,H1,rfl,I1.kept (t':=s1.toks) fun b o e=>Heap.get?_push_of_some _ e,turn_tuple a _,⟨_,Heap.get?_push_size _ rfl,rfl,rfl⟩,fun b hb=>?_,q⟩
  have e:b=s1.heap.objs.size:=by simpa using hb
  subst e
  exact I1.fpOk (Nat.le_refl _) (I1.hok.fresh (Nat.le_refl _))
theorem z2f {tg l:Expr} {f:DE} (h:PE X l (tD X.K Wx f)):PI X tg l (tI X.K Wx (iSeq f)):=piImp (zjjb h) fun σ H R ⟨H1,al,dl,m,r,en,p⟩=>by
 refine⟨H1,al,dl,m,r,en,p.bind fun w m1 H1' al' H' e pr r' p' v hv=>?_⟩
 unfold z5o at p'
 split at p'
 ·rename_i x
  split at p'
  ·rename_i ds hds
   have hv':Rp X.K H1' v x:=hv
   cases x <;> first |(cases hds;done) |skip
   ·cases hds
    cases hv' with
    |lst h1 h2=>exact⟨_,rfl,.inl ⟨⟨_,SqL.of (r'.ex _ _ h1)⟩,p'.ok_ r' _ (z7u (SqL.of h1) h2)⟩⟩
   ·cases hds
    cases hv' with
    |tup h1 h2=>exact⟨_,rfl,.inr ⟨⟨_,Evl.ex_t r'.ex h1⟩,p'.ok_ r' _ (zc7 h1 h2)⟩⟩
   ·cases hds
    cases hv' with
    |fz h1 h2=>exact⟨_,rfl,.inl ⟨⟨_,Evl.ex_l r'.ex h1⟩,p'.ok_ r' _ (z7u h1 h2)⟩⟩
  ·exact p'.elim
 ·exact p'.elim
theorem z54 {e:Expr} {f:DA} {p pos tpos:Pos} {elts:List Expr} {kk:Nat} (hg:Gl X "enumerate") (hm:X.mg "enumerate" = none) (ha:PA X [e] (tA X.K Wx f)) (hs:starEach [e] X.env=[(false,eval e X.env)]:=by rfl) :
  PI X (.Tuple elts kk tpos) (.Call (.Name "enumerate" p) [e] [] pos) (tI X.K Wx (iEnu f)):=piImp (pi_enum hg hm ha hs) fun σ H R ⟨H1,al,dl,m,r,en,p⟩=>by
 refine⟨H1,al,dl,m,r,en,p.bind fun ws m1 H1' al' H' e pr r' p' vs hv=>?_⟩
 unfold enumW at p'
 split at p'
 ·rename_i x
  split at p'
  ·rename_i ds hds
   cases hv with
   |cons hv hn=>
    cases hn
    have hv':Rp X.K H1' _ x:=hv
    cases x <;> first |(cases hds;done) |skip
    ·cases hds
     cases hv' with
     |lst h1 h2=>exact⟨_,_,rfl,SqL.of (r'.ex _ _ h1),p'.ok_ r' _ (z8u (SqL.of h1) h2)⟩
    ·cases hds
     cases hv' with
     |fz h1 h2=>exact⟨_,_,rfl,Evl.ex_l r'.ex h1,p'.ok_ r' _ (z8u h1 h2)⟩
  ·exact p'.elim
 ·exact p'.elim
theorem zgjb {e:List Expr} {t t':TT} (h:PTs X e t) (k:∀ σ H Q,t' σ H Q→t σ H Q):PTs X e t':=⟨fun pins s σ H Q I hw=>h.run pins s σ H Q I (k σ H Q hw)⟩
theorem z3k:PTs X [] (tT X.K Wx bYes):=zgjb pts_nil fun σ H Q ⟨H1,al,dl,m,r,en,p⟩=>p.ok_ r
theorem zuq {c:Expr} {t:DT} (h:PT X c (tT X.K Wx t)):PTs X [c] (tT X.K Wx t):=pts_one h
end
open PySem.W (Frag Hook)
section
variable {fs:List (Frag→Bool)} {fn:List He5.DefA} {K:Frag}
theorem SaysM.fact (c:SaysM fs fn K) (i:Nat) {f:Frag→Bool} (h:fs[i]?=some f:=by rfl):f K=true:=by
 have c1:=(He.ba (show ((fs.all fun f=>f K)&&fn.all fun d=>d.ok K)=true from congrArg (fun z:He.AlD=>z.1) c)).1
 exact List.all_eq_true.mp c1 f (List.mem_of_getElem? h)
theorem SaysM.def_ (c:SaysM fs fn K) (i:Nat) {d:He5.DefA} (h:fn[i]?=some d:=by rfl):∃fd,L2.FunD K d.name d.qual d.params d.body d.scope (d.dvs K) (d.kws K) (d.at_ K) fd:=by
 have c2:=(He.ba (show ((fs.all fun f=>f K)&&fn.all fun d=>d.ok K)=true from congrArg (fun z:He.AlD=>z.1) c)).2
 have e:fn.map (fun d=>He5.fnA K (d.at_ K))=fn.map He5.DefA.val:=congrArg (fun z:He.AlD=>z.2) c
 have e2:(fn.map fun d=>He5.fnA K (d.at_ K))[i]?=(fn.map He5.DefA.val)[i]?:=by rw[e]
 rw[List.getElem?_map,List.getElem?_map,h] at e2
 exact He5.DefA.funD (Option.some.inj e2) (List.all_eq_true.mp c2 d (List.mem_of_getElem? h))
end
section
variable {K:Frag} {h:Heap} {mg:Str→Option Value}
theorem zab (X:K.In h) (G:h.Ns mainGlobals mg) {x:Str} (c:fGlo x K=true):mg x=some (.ref (He.ga K x)):=He.glo_ok X G c
theorem free_of (X:K.In h) (G:h.Ns mainGlobals mg) {x:Str} (c:fFree x K=true):mg x=none:=He.free_ok X G c
theorem z5v (X:K.In h) (G:h.Ns mainGlobals mg) {x:Str} {i:Int} (c:fInt x i K=true):∃t,mg x=some (.int i t):=He.int_ok X G c
theorem zfn {x:Str} (c:fCls x K=true):Cls K (He.ga K x):=He.cls_ok c
theorem zwk {x f:Str} (c:fNoat x f K=true):NoAttr K (He.ga K x) f:=He.noat_ok c
theorem zdfb {x:Str} (c:fMkr x K=true):Mk K (He.ga K x) (He.ma K (He.ga K x) "__init__"):=He.mkr_ok c
theorem zaf {C m:Str} (c:fOwn C m K=true):PySem.W.findIn K (.ref (He.ga K C)) m=some (some (.ref (He.ma K (He.ga K C) m)))∧PySem.W.isFn K (.ref (He.ma K (He.ga K C) m))=true∧PySem.W.fnIn K (He.ma K (He.ga K C) m)=true∧PySem.W.keepIn K (.ref (He.ma K (He.ga K C) m))=true:=by
 obtain⟨c1,c⟩:=He.ba c
 obtain⟨c2,c⟩:=He.ba c
 obtain⟨c3,c4⟩:=He.ba c
 exact⟨He.eqO_ok c1,c2,c3,c4⟩
theorem zv9 {C m:Str} (c:fProp C m K=true):PropOf K (He.ga K C) m (He.ma K (He.ga K C) m) (He5.wf K (He.ga K C) "property" m):=by
 obtain⟨c1,c⟩:=He.ba c
 obtain⟨c2,c⟩:=He.ba c
 obtain⟨c3,c4⟩:=He.ba c
 refine⟨He.eqO_ok c1,He.eqO_ok c2,of_decide_eq_true c3,?_⟩
 unfold He5.wf
 split at c4
 ·rename_i f r e
  exact⟨r,by rw[e]⟩
 ·cases c4
theorem zfgb {C:Str} (c:fRead C K=true):ClX.CRead K (He.ga K C) (.type "type"):=by
 have c':PySem.W.readsIn K (He.ga K C) (.type "type")=true:=c
 refine⟨c',?_⟩
 unfold PySem.W.readsIn at c'
 obtain⟨h,_⟩:=He.ba c'
 obtain⟨h,_⟩:=He.ba h
 obtain⟨h,h3⟩:=He.ba h
 obtain⟨_,h2⟩:=He.ba h
 unfold PySem.W.specialIn
 rw[beq_iff_eq.mp h2,Option.bind_some]
 exact beq_iff_eq.mp h3
theorem cm_of {C m:Str} (c:fCm C m K=true):ClX.CMet K (He.ga K C) (.type "type") m (He.ma K (He.ga K C) m) (He5.wf K (He.ga K C) "classmethod" m):=by
 obtain⟨c1,c2⟩:=He.ba c
 obtain⟨h1,h2⟩:=He5.wrapB_ok c1
 exact⟨h1,h2,c2⟩
theorem ztab {C:Str} (c:fIsiC C K=true):IsiC K (He.ga K C):=by
 obtain⟨c1,c⟩:=He.ba c
 obtain⟨c2,c⟩:=He.ba c
 obtain⟨c3,c⟩:=He.ba c
 obtain⟨c4,c5⟩:=He.ba c
 exact⟨He.cls_ok c1,He.eqO_ok c2,He.eqO_ok c3,of_decide_eq_true c4,of_decide_eq_true c5⟩
theorem kit_of {t:CRef} {cs:List CRef} {b:Bool} (c:fKit t cs b K=true):PySem.W.kitAny K (t.v K) (cs.map (CRef.v K))=some b:=of_decide_eq_true c
end
/-- isinstance by a table -/
def isfT (t:List (Tag × Bool)) (x:Tag):Option Bool:=match t,x with
 |[],_=>none
 |(.bt n,b)::r,.bt k=>if n=k then some b else isfT r (.bt k)
 |(.own n,b)::r,.own k=>if n=k then some b else isfT r (.own k)
 |_::r,x=>isfT r x
theorem z9o:∀{t:List (Tag × Bool)} {x:Tag} {b:Bool},isfT t x=some b→(x,b)∈t
 |[],_,_,h=>by unfold isfT at h;cases h
 |(.bt n,b)::r,.bt k,b',h=>by
  unfold isfT at h
  by_cases e:n=k
  ·rw[if_pos e] at h
   cases h
   rw[e]
   exact List.mem_cons_self
  ·rw[if_neg e] at h
   exact List.mem_cons_of_mem _ (z9o h)
 |(.own n,b)::r,.own k,b',h=>by
  unfold isfT at h
  by_cases e:n=k
  ·rw[if_pos e] at h
   cases h
   rw[e]
   exact List.mem_cons_self
  ·rw[if_neg e] at h
   exact List.mem_cons_of_mem _ (z9o h)
 |(.own n,b)::r,.bt k,b',h=>by
  unfold isfT at h
  exact List.mem_cons_of_mem _ (z9o h)
 |(.bt n,b)::r,.own k,b',h=>by
  unfold isfT at h
  exact List.mem_cons_of_mem _ (z9o h)
theorem tab_of {K:Frag} {t:List (Tag × Bool)} {cs:List CRef} (c:fTab t cs K=true):IsiT K (isfT t) (cs.map (CRef.v K)):=by
 have all:∀q∈t,fKit (tagC q.1) cs q.2 K=true∧(match q.1 with
  |.own C=>fIsiC C K
  |.bt _=>true)=true:=fun q hq=>He.ba (List.all_eq_true.mp c q hq)
 refine⟨fun C b h=>?_,fun x b h=>?_⟩
 ·exact ztab (all _ (z9o h)).2
 ·have z:=kit_of (all _ (z9o h)).1
  have e:(tagC x).v K=x.v K:=by cases x <;> rfl
  rw[e] at z
  exact z
end DL
namespace DL
open PySem PySem.Spec L2
section
variable (a b c:DE) (s t:DS) (u v:DT) (g:DA) (dl:Env) (m:Mem)
@[simp] theorem zjnb:sNext dl m = .nx dl m:=nr rfl
end
theorem zmz:∀xs:List D,z9f (xs.map W.d)=some xs
 |[]=>rfl
 |x::xs=>by rw[List.map_cons,z84,zmz xs];rfl
theorem zfib {α : Type} (z:List α) {i:Int} (h:0≤i):atI z i=z[i.toNat]?:=by
 have:=atI_nat z i.toNat
 rwa [Int.toNat_of_nonneg h] at this
theorem zyhb {i:Nat} {C:Str} {F:DF} {f:DA} {m:Mem} {dl:Env} (h:dl[i]?=some (some (.d (.cls C)))):eMk C F (eVar i) f dl m=(f dl m).bind fun ws m2=>makeW C F ws m2:=by
 unfold eMk eVar
 rw[h]
 show (if C=C then (f dl m).bind fun ws m2=>makeW C F ws m2 else .no)=_
 rw[if_pos rfl]
theorem z2z {j:Int} {m:Mem} (h0:0≤j) (h1:j<2 ^ 62):rngB (.ok [.d (.int j)] m) = .ok (rngD 0 j.toNat) m:=by
 show (if -(2 ^ 62)≤j∧j<2 ^ 62 then Res.ok (rngD 0 j.toNat) m else .no)=_
 rw[if_pos ⟨by omega,h1⟩]
theorem mod_int {i j:Int} (h:0<j):modD (.int i) (.int j)=some (.int (i % j)):=z7b h
theorem zo0 {i j:Int} (h:0<j) (h2:j<1073741824):fdivD (.int i) (.int j)=some (.int (i / j)):=z7b ⟨h,h2⟩
theorem zkdb {i j:Int} (h0 : -(2 ^ 64)<i) (h1:i<2 ^ 64):mulD (.int i) (.int j)=some (.int (i*j)):=z7b (.inl ⟨h0,h1⟩)
theorem z9z {i j:Int} (h0 : -(2 ^ 64)<j) (h1:j<2 ^ 64):mulD (.int i) (.int j)=some (.int (i*j)):=z7b (.inr ⟨h0,h1⟩)
theorem add_str {a b:List Nat} (h:a.length+b.length≤sizeLine):addD (.str (SX.S a)) (.str (SX.S b))=some (.str (SX.S (a++b))):=by
 show chk _ _=_
 rw[z7b (by rw[SX.S_len,SX.S_len];exact h),SX.S_cat]
theorem len_str {a:List Nat} (h:a.length≤sizeLine):lenD [.str (SX.S a)]=some (.int a.length):=by
 show chk _ _=_
 rw[z7b (by rw[SX.S_len];exact h),SX.S_len]
/-- a loop that walks to its end: I holds of what is left, the env, the memory -/
theorem zyh {g:DG} {b:DS} (I:List D→Env→Mem→Prop) (step:∀d ds dl m,I (d::ds) dl m→∃dl1,g (.d d) dl=some dl1∧∃dl2 m2,b dl1 m = .nx dl2 m2∧I ds dl2 m2) :
  ∀ds dl m,I ds dl m→∃dl2 m2,loopD g b ds dl m = .nx dl2 m2∧I [] dl2 m2
 |[],dl,m,h=>⟨dl,m,rfl,h⟩
 |d::ds,dl,m,h=>by
  obtain⟨dl1,e1,dl2,m2,e2,h2⟩:=step d ds dl m h
  obtain⟨dl3,m3,e3,h3⟩:=zyh I step ds dl2 m2 h2
  refine⟨dl3,m3,?_,h3⟩
  unfold loopD
  rw[e1]
  show (match b dl1 m with
   |.nx dl2 m2=>loopD g b ds dl2 m2
   |.ct dl2 m2=>loopD g b ds dl2 m2
   |.bk dl2 m2=>.nx dl2 m2
   |.rt w m2=>.rt w m2
   |.exc dl2 C f p m2=>.exc dl2 C f p m2
   |.no=>.no)=_
  rw[e2]
  exact e3
theorem zaeb {x:D} (h:okD x=true):eqP x x=some (.bl true):=by
 unfold okD at h
 split at h
 ·rename_i p hp
  unfold eqP
  rw[hp]
  simp only[]
  rw[z7b ⟨h,h⟩,SeqAt.eqv_refl p (SeqAt.canLay_of_shaped h)]
 ·cases h
theorem zhdb {x:D} (h:okD x=true):neP x x=some (.bl false):=by
 unfold okD at h
 split at h
 ·rename_i p hp
  unfold neP
  rw[hp]
  simp only[]
  rw[z7b ⟨h,h⟩,SeqAt.eqv_refl p (SeqAt.canLay_of_shaped h)]
  rfl
 ·cases h
theorem zbeb {x:D} (h:okD x=true):eqD x x=some (.bl true):=by
 unfold eqD
 split
 ·simp_all
 ·exact zaeb h
theorem zidb {x:D} (h:okD x=true):neD x x=some (.bl false):=by
 unfold neD
 split
 ·simp_all
 ·exact zhdb h
theorem zyd (i j:Int):eqD (.int i) (.int j)=some (.bl (decide (i=j))):=by
 show eqP (.int i) (.int j)=_
 show chk (SeqAt.shaped (.int i)=true∧SeqAt.shaped (.int j)=true) (D.bl (PyData.eqv (.int i) (.int j)))=_
 rw[z7b ⟨rfl,rfl⟩]
 rfl
theorem zwv (i j:Int):neD (.int i) (.int j)=some (.bl (!decide (i=j))):=by
 show neP (.int i) (.int j)=_
 show chk (SeqAt.shaped (.int i)=true∧SeqAt.shaped (.int j)=true) (D.bl (!PyData.eqv (.int i) (.int j)))=_
 rw[z7b ⟨rfl,rfl⟩]
 rfl
theorem zk1:∀xs:List Str,toPs (xs.map D.str)=some (xs.map PyData.str)
 |[]=>rfl
 |x::xs=>by simp only[List.map_cons,toPs,toP,zk1 xs]
theorem zd6:∀{xs:List Str},(∀x∈xs,PyData.strOk x=true)→PyData.canLayAll0 (xs.map PyData.str)=true
 |[],_=>rfl
 |x::xs,h=>by
  rw[List.map_cons,PyData.canLayAll0,PyData.canLay0,h x List.mem_cons_self,zd6 fun y hy=>h y (List.mem_cons_of_mem _ hy)]
  rfl
theorem zy6:∀(xs:List Str),PyData.depthAll (xs.map PyData.str)=0
 |[]=>rfl
 |x::xs=>by
  rw[List.map_cons,PyData.depthAll,PyData.depth,zy6 xs]
  rfl
theorem zj7 {ps:List PyData} (h:PyData.canLayAll0 ps=true) (hd:PyData.depthAll ps≤63):SeqAt.shaped (.list ps)=true:=by
 unfold SeqAt.shaped
 rw[Bool.and_eq_true]
 exact⟨h,decide_eq_true (by show PyData.depthAll ps+1≤64;omega)⟩
/-- against the empty list -/
theorem z65 {xs:List Str} (h:∀x∈xs,PyData.strOk x=true):neD (.lst (xs.map D.str)) (.lst [])=some (.bl (!decide (xs=[]))):=by
 have hs:=zj7 (zd6 h) (by rw[zy6];omega)
 show neP (.lst (xs.map D.str)) (.lst [])=_
 unfold neP
 simp only[toP,zk1,toPs]
 rw[z7b ⟨hs,rfl⟩]
 cases xs <;> rfl
end DL
namespace DL
open PySem PySem.Spec L2
open PyProof.Rows hiding St
open Evl (Ex)
def z7f (t:DT) (b:DS):Nat→Env→Mem→SR
 | 0,_,_=>.no
 |n+1,dl,m=>(t dl m).thenS dl fun c m1=>if c=true then (match b dl m1 with
   |.nx dl2 m2=>z7f t b n dl2 m2
   |.ct dl2 m2=>z7f t b n dl2 m2
   |.bk dl2 m2=>.nx dl2 m2
   |.rt w m2=>.rt w m2
   |.exc dl2 C f p m2=>.exc dl2 C f p m2
   |.no=>.no) else .nx dl m1
def zj9 (n:Nat) (t:DT) (b:DS):DS:=z7f t b n
theorem zeeb {X:Cx} {Wx:WX} {pos:Pos} {c:Expr} {body:List Stmt} {t:DT} {b:DS} (n:Nat) (hp:PassesOwn (model X.prog X.w) X.A X.env X.xe) (hc:PT X c (tT X.K Wx t)) (hb:PSs X body (tS X.K Wx b)):PS X (.While c body [] pos) (tS X.K Wx (zj9 n t b)):=
 psImp (ps_while hp hc hb) fun En σ H ⟨H1,al,dl,m,r,en,p⟩=>by
  refine⟨fun n σ H=>∃H1 al dl m,Rel X.K H1 H al m∧RpE X.K H1 al σ dl∧PostS X.K H1 al Wx En (z7f t b n dl m),⟨n,H1,al,dl,m,r,en,p⟩,?_⟩
  rintro n σ H ⟨H1,al,dl,m,r,en,p⟩
  cases n with
  |zero=>exact p.elim
  |succ n=>
   unfold z7f at p
   refine⟨H1,al,dl,m,r,en,p.of en fun c m1 H1' al' H' e pr r' p'=>?_⟩
   show (if c=true then _ else _)
   cases c with
   |false=>
    refine iteF ?_
    exact PostS.nx_ r' (en.mono e pr) p'
   |true=>
    refine iteT ?_
    refine⟨fun σ H=>∃H1 al dl m,Rel X.K H1 H al m∧RpE X.K H1 al σ dl∧PostS X.K H1 al Wx En (z7f t b n dl m),fun σ' H' h=>⟨n,Nat.lt_succ_self n,h⟩,H1',al',dl,m1,r',en.mono e pr,?_⟩
    have pa:PostS X.K H1' al' Wx En (match b dl m1 with
     |.nx dl2 m2=>z7f t b n dl2 m2
     |.ct dl2 m2=>z7f t b n dl2 m2
     |.bk dl2 m2=>.nx dl2 m2
     |.rt w m2=>.rt w m2
     |.exc dl2 C f p m2=>.exc dl2 C f p m2
     |.no=>.no):=p'
    cases h2:b dl m1 with
    |nx dl2 m2=>rw[h2] at pa;exact fun H2 a2 Hz σ2 e2 l2 r2 en2=>⟨H2,a2,dl2,m2,r2,en2,PostS.mono e2 l2 pa⟩
    |ct dl2 m2=>rw[h2] at pa;exact fun H2 a2 Hz σ2 e2 l2 r2 en2=>⟨H2,a2,dl2,m2,r2,en2,PostS.mono e2 l2 pa⟩
    |bk dl2 m2=>rw[h2] at pa;exact fun H2 a2 Hz σ2 e2 l2 r2 en2=>pa H2 a2 Hz σ2 e2 l2 r2 en2
    |rt w m2=>rw[h2] at pa;exact pa
    |exc _ _ _ _ _=>rw[h2] at pa;exact pa
    |no=>rw[h2] at pa;exact pa.elim
end DL
namespace DL
open PySem PySem.Spec L2
open PyProof.Rows hiding St
open Evl (Ex)
section
variable {X:Cx} {Wx:WX}
theorem tT_tD {K:Fg} {f:DE} {σ : L2.St} {H:Hp} {Q:Bool→Hp→Prop} (hf:∀dl m w m',f dl m = .ok w m'→∃k,w = .d (.bl k)) (h:tT K Wx (bT f) σ H Q):tD K Wx f σ H (fun v H'=>∃k,v = .bl k∧Q k H'):=by
 obtain⟨H1,al,dl,m,r,en,p⟩:=h
 refine⟨H1,al,dl,m,r,en,?_⟩
 unfold bT at p
 cases hq:f dl m with
 |no=>rw[hq] at p;exact p
 |exc _ _ _ _=>rw[hq] at p;exact p
 |ok w m'=>
  obtain⟨k,rfl⟩:=hf dl m w m' hq
  rw[hq] at p
  intro H1' al' H' e l r' v hv
  cases (show Rp K H1' v (.bl k) from hv)
  exact⟨k,rfl,p H1' al' H' e l r'⟩
theorem zjbb {g g':D→D→Option D} {fa fb fc:DE} (hg':∀x y z,g' x y=some z→∃k,z = .bl k):∀dl m w m',zdo g g' fa fb fc dl m = .ok w m'→∃k,w = .d (.bl k):=by
 intro dl m w m' h
 unfold zdo at h
 cases h1:fa dl m with
 |no=>rw[h1] at h;cases h
 |exc _ _ _ _=>rw[h1] at h;cases h
 |ok x m1=>
  rw[h1] at h
  replace h:((fb dl m1).bind fun y m2=>(lift2 g x y m2).bind fun z m3=>(tru z m3).bind fun k m4=>if k=true then (fc dl m4).bind fun w m5=>lift2 g' y w m5 else .ok (.d (.bl false)) m4) = .ok w m':=h
  cases h2:fb dl m1 with
  |no=>rw[h2] at h;cases h
  |exc _ _ _ _=>rw[h2] at h;cases h
  |ok y m2=>
   rw[h2] at h
   replace h:((lift2 g x y m2).bind fun z m3=>(tru z m3).bind fun k m4=>if k=true then (fc dl m4).bind fun w m5=>lift2 g' y w m5 else .ok (.d (.bl false)) m4) = .ok w m':=h
   cases h3:lift2 g x y m2 with
   |no=>rw[h3] at h;cases h
   |exc _ _ _ _=>rw[h3] at h;cases h
   |ok z m3=>
    rw[h3] at h
    replace h:((tru z m3).bind fun k m4=>if k=true then (fc dl m4).bind fun w m5=>lift2 g' y w m5 else .ok (.d (.bl false)) m4) = .ok w m':=h
    cases h4:tru z m3 with
    |no=>rw[h4] at h;cases h
    |exc _ _ _ _=>rw[h4] at h;cases h
    |ok k m4=>
     rw[h4] at h
     replace h:(if k=true then (fc dl m4).bind fun w m5=>lift2 g' y w m5 else .ok (.d (.bl false)) m4) = .ok w m':=h
     cases k with
     |false=>cases h;exact⟨_,rfl⟩
     |true=>
      replace h:((fc dl m4).bind fun w m5=>lift2 g' y w m5) = .ok w m':=h
      cases h5:fc dl m4 with
      |no=>rw[h5] at h;cases h
      |exc _ _ _ _=>rw[h5] at h;cases h
      |ok u m5=>
       rw[h5] at h
       replace h:lift2 g' y u m5 = .ok w m':=h
       unfold lift2 at h
       split at h
       ·split at h
        ·split at h
         ·rename_i z' hz
          obtain⟨k,rfl⟩:=hg' _ _ _ hz
          cases h
          exact⟨k,rfl⟩
         ·cases h
        ·cases h
       ·cases h
theorem zqeb {r r':R2} {g g':D→D→Option D} {fa fb fc:DE} (hs:∀H1 H al m v w x y z Q,Rel X.K H1 H al m→Rh X.K H1 H v x→Rh X.K H1 H w y→g x y=some z→(∀H1' H' u,Ex H1 H1'→Rel X.K H1' H' al m→Rp X.K H1' u z→Q u H')→r v w H Q)
  (hs':∀H1 H al m v w x y z Q,Rel X.K H1 H al m→Rh X.K H1 H v x→Rh X.K H1 H w y→g' x y=some z→(∀H1' H' u,Ex H1 H1'→Rel X.K H1' H' al m→Rp X.K H1' u z→Q u H')→r' v w H Q)
  (hg:∀x y z,g x y=some z→∃k,z = .bl k) {σ : L2.St} {H:Hp} {Q:VK} (h:tD X.K Wx (zdo g g' fa fb fc) σ H Q):tChain r r' (tD X.K Wx fa) (tD X.K Wx fb) (tD X.K Wx fc) σ H Q:=by
 obtain⟨H1,al,dl,m,rl,en,p⟩:=h
 refine⟨H1,al,dl,m,rl,en,p.bind fun x m1 H1' al' H' e1 l1 r1 p1 v hv=>?_⟩
 have en1:=en.mono e1 l1
 refine⟨H1',al',dl,m1,r1,en1,p1.bind fun y m2 H2 al2 H2' e2 l2 r2 p2 w hw=>?_⟩
 have en2:=en1.mono e2 l2
 have hv2:=hv.mono e2 l2
 refine z5e (K:=X.K) (Wx:=Wx) (σ := σ) (r:=r) (g:=g) (x:=x) (y:=y) (m:=m2) r2 hv2 hw hs ?_
 unfold lift2 at p2 ⊢
 split at p2
 ·rename_i dx hdx
  split at p2
  ·rename_i dy hdy
   split at p2
   ·rename_i z hz
    obtain⟨k,rfl⟩:=hg dx dy z hz
    intro H3 al3 H3' e3 l3 r3 u hu
    cases (show Rp X.K H3 u (.bl k) from hu)
    refine⟨k,rfl,?_⟩
    have p3:Post X.K H2 al2 σ Wx (GV X.K Q) (if k=true then (fc dl m2).bind fun w m5=>lift2 g' y w m5 else .ok (.d (.bl false)) m2):=p2
    have p4:=Post.mono e3 l3 p3
    cases k with
    |false=>
     show (if false=true then _ else Q (.bl false) H3')
     refine iteF ?_
     exact p4 H3 al3 H3' (Ex.refl _) (zkb _) r3 _ (.bl false)
    |true=>
     show (if true=true then tD X.K Wx fc σ H3' (fun w' H4=>r' w w' H4 Q) else Q (.bl false) H3')
     refine iteT ⟨H3,al3,dl,m2,r3,en2.mono e3 l3,?_⟩
     have p5:Post X.K H3 al3 σ Wx (GV X.K Q) ((fc dl m2).bind fun w m5=>lift2 g' y w m5):=p4
     exact p5.bind fun w2 m5 H5 al5 H5' e5 l5 r5 p6 u2 hu2=>z5e r5 ((hw.mono e3 l3).mono e5 l5) hu2 hs' p6
   ·exact p2.elim
  ·exact p2.elim
 ·exact p2.elim
theorem zw6 {a b c:Expr} {op op':CmpOp} {pos:Pos} {g g':D→D→Option D} {fa fb fc:DE} (ho:OpOk X (compareOp op) g) (ho':OpOk X (compareOp op') g') (hg:∀x y z,g x y=some z→∃k,z = .bl k) (hg':∀x y z,g' x y=some z→∃k,z = .bl k) (ha:PE X a (tD X.K Wx fa)) (hb:PE X b (tD X.K Wx fb)) (hc:PE X c (tD X.K Wx fc))
  (hm:lastMarks [op,op'] [b,c]=false:=by with_unfolding_all rfl):PT X (.Compare a [op,op'] [b,c] pos) (tT X.K Wx (bT (zdo g g' fa fb fc))):=by
 obtain⟨r,hr,hs⟩:=ho
 obtain⟨r',hr',hs'⟩:=ho'
 exact ptImp (pt_chain hr hr' ha hb hc hm) fun σ H Q h=>zqeb hs hs' hg (tT_tD (zjbb hg') h)
end
end DL
namespace DL
open PySem PySem.Spec L2
open PyProof.Rows hiding St
open Evl (Ex)
theorem zyz {n:Nat} {p:PyData} (h:shOk n p=true):p.showable=true∧p.hasDict=false∧p.depth≤60∧p.shown.length+n≤sizeLine:=by
 unfold shOk at h
 rw[Bool.and_eq_true,Bool.and_eq_true,Bool.and_eq_true] at h
 exact⟨h.1,by simpa using h.2.1,of_decide_eq_true h.2.2.1,of_decide_eq_true h.2.2.2⟩
section
variable {X:Cx} {Wx:WX}
theorem Inv.repr {pins:List (Addr × Obj)} {σ : L2.St} {H:Hp} {s:Shared} {v:V} {u:Value} {p:PyData} {Q:Value→Shared→Prop} {E:Value→Shared→Prop} {A:Around} (I:Inv X pins σ H s) (h:Dp X.K H v p) (r:RelV v u) (ok:shOk 0 p=true) (hg:A.guards=some []) (hu:A.units+62<cLine)
  (q:∀s' t,Inv X pins σ H s'→Q (.str p.shown t) s'):wpAny (model X.prog X.w) A (pyReprObj u) Q E s:=by
 obtain⟨o1,o2,o3,o4⟩:=zyz ok
 obtain⟨as,rd⟩:=Dp.reads I p v u h r
 cases rd with
 |none=>exact pyReprObj_none (q _ _ (I.tok _))
 |bool b=>exact pyReprObj_bool (q _ _ (I.tok _))
 |int i t=>exact pyReprObj_int (by simpa [PyData.showable] using o1) (q _ _ (I.tok _))
 |str x t=>exact pyReprObj_str (q _ _ (I.tok _)) (by simpa [PyData.shown] using o4)
 |list a b c d=>
  exact pyReprObj_of_reads (.list a b c d) o1 (fun z=>by rw[o2] at z;cases z) hg (by omega) (fun _ _ e=>e) (fun h' t tk k=>q _ _ (I.kept k)) (by omega)
 |tuple a b c d=>
  exact pyReprObj_of_reads (.tuple a b c d) o1 (fun z=>by rw[o2] at z;cases z) hg (by omega) (fun _ _ e=>e) (fun h' t tk k=>q _ _ (I.kept k)) (by omega)
 |dict a b c d e=>exact absurd o2 (by simp[PyData.hasDict])
/-- {x!r} -/
def tFmtD (K:Fg) (te:TE):TE:=fun σ H Q=>te σ H fun x H1=>∃p,Dp K H1 x p∧shOk 0 p=true∧Q (.str p.shown) H1
theorem zvk {e:Expr} {te:TE} {pos:Pos} (hg:X.A.guards=some []) (hu:X.A.units+64<cLine) (he:PE X e te):PE X (.FormattedValue e 114 none pos) (tFmtD X.K te):=by
 refine⟨fun pins s σ H Q I h=>?_⟩
 refine wpAny_FormattedValue_repr (thn (he.run pins s σ H _ I h) fun v s1 ⟨x,H1,I1,r1,p,hd,ok,q⟩=>?_)
 exact Inv.repr I1 hd r1 ok hg (by omega) fun s' t I'=>wpAny_formatField_str ⟨.str _,H1,I',⟨t,rfl⟩,q⟩ ⟨.str _,H1,I'.tok _,⟨_,rfl⟩,q⟩ (by have:=(zyz ok).2.2.2;omega)
end
end DL
namespace DL
open PySem PySem.Spec L2
open PyProof.Rows hiding St
open Evl (Ex)
structure ErrC (K:Fg) (C f:Str) (fI:Addr):Prop where
 ox:OexC K (He.ga K C)
 ini:PySem.W.findIn K (.ref (He.ga K C)) "__init__" = some (some (.ref fI))
 typ:PySem.W.typeIn K (.ref fI)=some (.type "function")
 noF:PySem.W.findIn K (.ref (He.ga K C)) f=some none
theorem z8f {n:Nat} {p:PyData} (h:shOk n p=true):shOk 0 p=true:=by
 obtain⟨a,b,c,d⟩:=zyz h
 unfold shOk
 rw[a,b,decide_eq_true c,decide_eq_true (show p.shown.length+0≤sizeLine by omega)]
 rfl
theorem zxp {n:Nat} {t:Str} {p:PyData} (h:shOk n p=true) (hn:t.length≤n):(t++p.shown).length≤sizeLine:=by
 have:=(zyz h).2.2.2
 rw[strLen_append]
 omega
/-- what __init__ is asked and does -/
def spErr (K:Fg) (C f:Str) (n:Nat):Sp:=fun vs H Q _=>∃a v p,vs=[.ref a,v]∧H a=some (exo a (He.ga K C) none)∧Dp K H v p∧shOk n p=true ∧
 ∀dx,H dx=none→dx≠a→Q .non (upd (upd H dx (exd dx [(f,v)])) a (exo a (He.ga K C) (some dx)))
theorem zzh {P:Program} {w:World} {K:Fg} {mg:Str→Option Value} {base:Heap} {x qual:Str} {params:Arguments} {body:List Stmt} {scope:Scope} {fI:Addr} {fd:FuncData} {C f s0:Str} {k n:Nat} (F:FunD K x qual params body scope [] [] fI fd) (S:FnScope [s0,f] [s0,f] scope)
  (hb:∀(cdv:Value) (A:Around) (outer:List PySem.Env) (s:Shared) (H:Hp) (E:XK),RoomG k (A.deeper (envOfC qual scope s.heap.objs.size fI cdv)) →
    ∃t,PSs (cxOf (L2N.CX P w) P w K mg base [s0,f] qual scope fI cdv A outer s H E) body t∧∀(a:Addr) (v:V) (p:PyData) (Q:VK),H a=some (exo a (He.ga K C) none)→Dp K H v p→shOk n p=true →
     (∀dx,H dx=none→dx≠a→Q .non (upd (upd H dx (exd dx [(f,v)])) a (exo a (He.ga K C) (some dx))))→t {nx:=fun _ H'=>Q .non H',rt:=Q} [some (.ref a),some v] H) :
  FnG P w K mg base (k+1) fI fd [s0,f] (spErr K C f n):=
 fn_G F S (fun⟨_,_,_,e,_⟩=>by rw[e] <;> rfl) fun cdv A outer s H vs Q E hr ⟨a,v,p,e,ha,hd,ok,q⟩=>by
  obtain⟨t,ht,h⟩:=hb cdv A outer s H E hr
  refine⟨t,ht,?_⟩
  rw[e]
  exact h a v p Q ha hd ok q
theorem z26 {P:Program} {w:World} {outer:List PySem.Env} {H:Hp} {s:Shared} {e:Value} {s':Shared} (c:L2N.CX P w outer H s (fun _ _ _=>False) e s'):False:=by
 obtain⟨_,_,_,_,_,_,_,_,_,_,_,_,z⟩:=c
 exact z
section
variable {X:Cx} {Wx:WX}
/-- C(e): a new error, its field in a dict of its own -/
def tMkE (K:Fg) (C f:Str) (n:Nat) (te:TE):L2.St→Hp→XK→Prop:=fun σ H Q=>te σ H fun v H1=>∃p,Dp K H1 v p∧shOk n p=true∧∀dx,H1 dx=none→Q (.ref (He.ga K C)) (some dx) (upd H1 dx (.xd [(f,v)]))
theorem z89 {pins:List (Addr × Obj)} {σ : L2.St} {H1 H2:Hp} {Q:XK} {hp hp2 h2:Heap} {g1 g2:Array GenState} {d1 d2:Drawn} {t1 t2:Nat} {os1 os2:OsState} {a C d:Addr} {fs:List (Str × V)} (T:Raises X (.ref C)) (I1:Inv X pins σ H1 ⟨hp,g1,d1,t1,os1⟩)
  (ha:hp.objs.size≤a) (k:∀b o,hp.get? b=some o→hp2.get? b=some o) (un:Un (frs X.stack) [] (upd H1 a (exo a C none)) H2 hp2 h2) (hok:HOk X.prog X.w H2 h2) (ho:os2=os1) (hb:AllBare g2)
  (ea:H2 a=some (exo a C (some d))) (ed:H2 d=some (exd d fs)) (hd1:H1 d=none) (q:Q (.ref C) (some d) (upd (del H2 a) d (.xd fs))):L2N.MkP X pins σ Q (.ref a) ⟨h2,g2,d2,t2,os2⟩∧L2H.Six (.ref a) ⟨h2,g2,d2,t2,os2⟩:=by
 obtain⟨t0,G,J,kG,ge,hoe,na⟩:=mk_end0 (d2:=d2) (t2:=t2) I1 ha k un hok ho hb ea ed hd1
 refine⟨⟨a,_,_,⟨G,g2,d2,t2,os2⟩,_,.ref C,some d,rfl,J,kG,ge,hoe,⟨rfl,rfl,fun vs q=>by cases q;rfl⟩,rfl,rfl,na,rfl,hb,T,q⟩,fun a' oe vs e1 e2 e3=>?_⟩
 cases e1
 have e2:h2.get? a=some oe:=e2
 rw[hoe] at e2
 cases e2
 cases e3
 show (4:Nat)<6
 decide
theorem zkgb {k n:Nat} {C f s0:Str} {fI:Addr} {fd:FuncData} {e:Expr} {te:TE} {p pos:Pos} (T:ErrC X.K C f fI) (F1:FnG X.prog X.w X.K X.mg X.base k fI fd [s0,f] (spErr X.K C f n)) (hb:Binds X.K fd [s0,f] []) (room:RoomG (k+1) X.A) (hg:Gl X C) (hm:X.mg C=some (.ref (He.ga X.K C))) (he:PE X e te)
  (hdb:(C==("__debug__" : Str))=false:=by decide) (hst:starEach [e] X.env=[(false,eval e X.env)]:=by rfl):L2N.PMk X (.Call (.Name C p) [e] [] pos) (tMkE X.K C f n te):=by
 intro pins s σ H Q I h
 obtain⟨nm,q,N,bs,bm,sn,sub,ab,col,dd,k0,k1,k2,k3,k5,hC,hbm⟩:=T.ox.cls
 have h2:tCons te tNil σ H fun vs H1=>∃v p,vs=[v]∧Dp X.K H1 v p∧shOk n p=true∧∀dx,H1 dx=none→Q (.ref (He.ga X.K C)) (some dx) (upd H1 dx (.xd [(f,v)])):=by
  refine (show te σ H fun x H1=>_ from ?_)
  have mono:∀{Q1 Q2:VK},te σ H Q1→(∀v H1,Q1 v H1→Q2 v H1)→Q1=Q2→te σ H Q2:=fun a _ b=>b ▸ a
  refine mono h (fun _ _ z=>⟨_,z.choose,rfl,z.choose_spec⟩) ?_
  funext v H1
  refine propext ⟨fun⟨p,z⟩=>⟨v,p,rfl,z⟩,fun⟨v',p,e',z⟩=>?_⟩
  cases e'
  exact⟨p,z⟩
 refine wpAny_Call_Name_kw (ld_glob I hg hm ?_ hdb)
 refine PySem.W.callWith_K (h₀:=X.base) I.ok.mod.kin T.ox.kC (thn ((pa_cons he pa_nil hst).run pos pins s σ H _ I h2) fun us s1 ⟨vs,H1,I1,r1,v,pd,ev,dp,ok,want⟩=>⟨I1.kIn,?_⟩) hst rfl
 subst ev
 obtain⟨hp,g,dr,tk,os⟩:=s1
 obtain⟨a,ea⟩:∃a,a=hp.objs.size+1:=⟨_,rfl⟩
 have big:hp.objs.size≤a:=by rw[ea];exact Nat.le_succ _
 have na:H1 a=none:=I1.hok.fresh big
 obtain⟨h1,eh⟩:∃h1,h1=(hp.push (PySem.W.kdv_tup us)).push (PySem.HandSPX.excO (He.ga X.K C) hp.objs.size):=⟨_,rfl⟩
 have old:∀b o,hp.get? b=some o→h1.get? b=some o:=fun b o z=>by
  rw[eh]
  exact Heap.get?_push_of_some _ (Heap.get?_push_of_some _ z)
 have new:h1.get? a=some (PySem.HandSPX.excO (He.ga X.K C) hp.objs.size):=by
  subst eh ea
  heap_get
 have I2:Inv X pins σ (upd H1 a (exo a (He.ga X.K C) none)) ⟨h1,g,dr,tk,os⟩:=I1.laid (t':=tk) old big (exo_ok new)
 have ex1:Ex H1 (upd H1 a (exo a (He.ga X.K C) none)):=Evl.Ex.new na
 have few:us.length≤sizeLine:=by
  rw[←r1.length]
  exact Nat.le_trans (show (1:Nat)≤2 by decide) (by decide)
 have rv:Vals [.ref a,v] (.ref a::us):=.cons rfl r1
 have bd:=hb ⟨h1,g,dr,tk,os⟩ (.ref a::us) I2.kIn (by rw[List.append_nil,←rv.length] <;> rfl)
 rw[List.append_nil] at bd
 have goal:spErr X.K C f n [.ref a,v] (upd H1 a (exo a (He.ga X.K C) none)) (fun z H2=>z = .non∧∃(d:Addr) (fs:List (Str × V)),H2 a=some (exo a (He.ga X.K C) (some d))∧H2 d=some (exd d fs)∧H1 d=none∧Q (.ref (He.ga X.K C)) (some d) (upd (del H2 a) d (.xd fs))) (fun _ _ _=>False):=by
  refine⟨a,v,pd,rfl,upd_same ..,Dp.ext ex1 dp,ok,fun dx nd ne=>⟨rfl,dx,_,upd_same ..,by rw[upd_ne ne,upd_same],?_,?_⟩⟩
  ·rw[upd_ne ne] at nd
   exact nd
  ·rw[upd_ne ne] at nd
   have same:upd (del (upd (upd (upd H1 a (exo a (He.ga X.K C) none)) dx (exd dx [(f,v)])) a (exo a (He.ga X.K C) (some dx))) a) dx (.xd [(f,v)])=upd H1 dx (.xd [(f,v)]):=by
    funext b
    by_cases h1:b=dx
    ·rw[h1,upd_same,upd_same]
    ·rw[upd_ne h1,upd_ne h1]
     by_cases h2:b=a
     ·rw[h2,del_same,na]
     ·rw[del_ne h2,upd_ne h2,upd_ne h1,upd_ne h2]
   rw[same]
   exact want dx nd
 subst ea
 show wpAny _ _ (call (.ref (He.ga X.K C)) us) _ _ _
 refine wpAny_call (PySem.HandSPX.call_own F.excBase_ValueError (fun Y=>PySem.HandSPX.refsVE_contains Y bm hbm) (I1.kIn _ _ hC) (PySem.W.looks_findIn I1.kIn T.ini) (fun self=>PySem.W.bind_fn I1.kIn self T.typ) few ?_)
 rw[←eh]
 refine codeAny_mono (F1.go (room.make _ us []) (I2.env0.make _ us []) bd rv goal) fun r s' hq=>?_
 match r,hq with
 |.error er,hq=>exact (z26 hq).elim
 |.ok .next,hq=>exact False.elim hq
 |.ok .brk,hq=>exact False.elim hq
 |.ok .cont,hq=>exact False.elim hq
 |.ok (.ret u),hq=>
  obtain⟨z,H2,os2,bare2,un2,ok2,rz,ez,d,fs,e1,e2,e3,e4⟩:=hq
  subst ez
  obtain⟨h2',g2,d2,t2,os'⟩:=s'
  exact⟨rz,(z89 (raises_own T.ox.exC T.ox.tyC) I1 big old un2 ok2 os2 bare2 e1 e2 e3 e4).1⟩
end
end DL
namespace DL
open PySem PySem.Spec L2
open PyProof.Rows hiding St
open Evl (Ex)
section
variable {X:Cx} {Wx:WX}
theorem zbf {k n:Nat} {C f s0:Str} {fI:Addr} {fd:FuncData} {e:Expr} {fe:DE} {p cpos pos:Pos} (hc:X.calm=true) (tk:L2N.Takes X Wx) (T:ErrC X.K C f fI) (F1:FnG X.prog X.w X.K X.mg X.base k fI fd [s0,f] (spErr X.K C f n)) (hb:Binds X.K fd [s0,f] []) (room:RoomG (k+1) X.A) (hg:Gl X C) (hm:X.mg C=some (.ref (He.ga X.K C))) (he:PE X e (tD X.K Wx fe))
  (hdb:(C==("__debug__" : Str))=false:=by decide) (hst:starEach [e] X.env=[(false,eval e X.env)]:=by rfl):PS X (.Raise (some (.Call (.Name C p) [e] [] cpos)) none pos) (tS X.K Wx (ztg C f n fe)):=
 psImp (L2N.ps_raise hc tk (zkgb T F1 hb room hg hm he hdb hst)) fun En σ H ⟨H1,al,dl,m,r,en,q⟩=>by
  refine⟨H1,al,dl,m,r,en,q.of en fun w m1 H1' al' H' e1 l1 r' q' v hv=>?_⟩
  unfold raW at q'
  split at q'
  ·rename_i x
   split at q'
   ·rename_i pd hp
    split at q'
    ·rename_i ok
     refine⟨pd,zl1 r'.ex hv hp,ok,fun dx nd=>?_⟩
     have nd1:=r'.fresh1 nd
     exact q' _ al' _ σ v dx (Evl.Ex.new nd1) (zkb _) (r'.new nd) ((en.mono e1 l1).mono (Evl.Ex.new nd1) (zkb _)) (Rp.mono (Evl.Ex.new nd1) hv) upd_same
    ·exact q'.elim
   ·exact q'.elim
  ·exact q'.elim
theorem RpE.wipe1 {K:Fg} {H1:Hp} {al:Gh} {σ : L2.St} {dl:Env} (h:RpE K H1 al σ dl) (i:Nat):RpE K H1 al (σ.set i none) (dl.set i none):=by
 refine⟨by rw[List.length_set,List.length_set,h.len],fun j w q=>?_⟩
 by_cases hj:i=j
 ·subst hj
  obtain⟨hl,q⟩:=List.getElem?_eq_some_iff.mp q
  rw[List.getElem_set_self] at q
  cases q
 ·rw[List.getElem?_set_ne hj] at q
  rw[List.getElem?_set_ne hj]
  exact h.at_ j w q
theorem zp8 {K:Fg} {H1:Hp} {al:Gh} {En:Ends} {i:Nat}:∀{r:SR},PostS K H1 al Wx En (wipeS i r) →
  PostS K H1 al W0 {nx:=fun σ' H'=>En.nx (σ'.set i none) H',rt:=En.rt,bk:=fun σ' H'=>En.bk (σ'.set i none) H',ct:=fun σ' H'=>En.ct (σ'.set i none) H'} r
 |.nx _ _,h=>fun a b c d e l r en=>h a b c _ e l r (en.wipe1 i)
 |.bk _ _,h=>fun a b c d e l r en=>h a b c _ e l r (en.wipe1 i)
 |.ct _ _,h=>fun a b c d e l r en=>h a b c _ e l r (en.wipe1 i)
 |.rt _ _,h=>h
 |.exc _ _ _ _ _,h=>h.elim
 |.no,h=>h.elim
/-- which errors the clause catches -/
def ExmT (K:Fg) (C:Str) (Es:List Str):Prop:=PySem.W.exmOne K (.ref (He.ga K C)) (.ref (He.ga K C))=some true∧∀C'∈Es,PySem.W.exmOne K (.ref (He.ga K C')) (.ref (He.ga K C))=some false
theorem ztkb {x n C:Str} {Es:List Str} {i nN:Nat} {body suite:List Stmt} {b₀:Stmt} {np pos pos':Pos} {fb:DS} {h:Addr→Addr→DS} (hs:X.stack=X.env::X.outer) (hf:X.env.frame=some X.env.locals) (hN:X.N.Nodup) (hi:X.N[i]?=some n) (hln:X.env.kindOf n=some .local) (hc:Names X x (.ref (He.ga X.K C))) (tk:L2N.Takes X Wx)
  (hx:ExmT X.K C Es)
  (hind:∀(a dd:Addr) (f:Str) (p:D) (dl:Env) (m:Mem),dl.length=nN→wipeS i (h a dd (dl.set i (some (.ex a dd C f p))) m)=wipeS i (h 0 0 (dl.set i (some (.ex 0 0 C f p))) m))
  (hb:∀(W:WX) (pn:List (Addr × Obj)) (xe:Value→Shared→Prop),L2N.Takes (X.tr pn xe) W→PassesOwn (model X.prog X.w) X.A X.env xe→PSs (X.tr pn xe) body (tS X.K W fb))
  (hsu:∀(a dd:Addr) (oe:Obj) (pn:List (Addr × Obj)),Zc (.ref (He.ga X.K C)) (some dd) oe→(∃vs,oe.data = .fields vs)→PSs (X.suite a ((a,oe)::pn)) (b₀::suite) (tS X.K W0 (h a dd))) :
  PS X (.Try body [.ExceptHandler (some (.Name x np)) (some n) (b₀::suite) pos'] [] [] pos) (tS X.K Wx (sTry i nN C Es fb h)):=by
 refine psImp (L2N.ps_try_as (ts:=fun a cls d D σ H=>∃dd,cls = .ref (He.ga X.K C)∧d=some dd∧tS X.K W0 (h a dd) D σ H) (tb:=fun W=>tS X.K W fb) hs hf hN hi hln hc tk hb fun a oe cls d pn hz hf=>⟨fun pins s σ H D I hw=>?_⟩) fun En σ H ⟨H1,al,dl,m,r,en,q⟩=>?_
 ·obtain⟨dd,rfl,rfl,ht⟩:=hw
  exact (hsu a dd oe pn hz.zc hf).run pins s σ H D I ht
 ·refine⟨H1,al,dl,m,r,en,?_⟩
  replace q:PostS X.K H1 al Wx En (tryH i nN C Es (h 0 0) (fb dl m)):=q
  cases hq:fb dl m with
  |nx dl' m'=>rw[hq] at q;exact q
  |bk dl' m'=>rw[hq] at q;exact q
  |ct dl' m'=>rw[hq] at q;exact q
  |rt w m'=>rw[hq] at q;exact q
  |no=>rw[hq] at q;exact q
  |exc dl' C' f p m'=>
   rw[hq] at q
   replace q:PostS X.K H1 al Wx En (if C'=C then (if dl'.length=nN then wipeS i (h 0 0 (dl'.set i (some (.ex 0 0 C f p))) m') else .no) else if C'∈Es then .exc dl' C' f p m' else .no):=q
   intro H1' al' H' σ' v dx e l r' en' hv hd
   by_cases hC:C'=C
   ·rw[if_pos hC] at q
    subst hC
    by_cases hl:dl'.length=nN
    case neg=>rw[if_neg hl] at q;exact q.elim
    rw[if_pos hl] at q
    refine⟨true,hx.1,fun _ a na=>⟨dx,rfl,rfl,H1',al',dl'.set i (some (.ex a dx C' f p)),m',r',en'.set i ⟨rfl,v,hd,hv⟩,?_⟩,fun z=>nomatch z⟩
    have q2:=PostS.mono e l q
    rw[←hind a dx f p dl' m' hl] at q2
    exact zp8 q2
   ·rw[if_neg hC] at q
    by_cases hE:C'∈Es
    ·rw[if_pos hE] at q
     exact⟨false,hx.2 C' hE,(fun z=>Bool.noConfusion z),fun _=>q H1' al' H' σ' v dx e l r' en' hv hd⟩
    ·rw[if_neg hE] at q
     exact q.elim
/-- what the head must say of a class whose errors are caught -/
structure CatC (K:Fg) (C:Str):Prop where
 hg:PySem.W.findIn K (.ref (He.ga K C)) "__getattribute__" = some (some (.builtin "BaseException.__getattribute__"))
 hk:PySem.W.findIn K (.ref (He.ga K C)) "__getattr__" = some none
 hs:PySem.W.subIn K (.ref (He.ga K C)) (.type "BaseException")=some true
 hd:PySem.W.hasDictIn K (He.ga K C)=true
 ha:PySem.W.findIn K (.ref (He.ga K C)) "__class__" = some (some (.builtin "object.__class__"))
 hn:PySem.W.specialIn K (.builtin "object.__class__") "__get__" = some (some (.builtin "getset_descriptor.__get__"))
 ht:PySem.W.takesIn K (.builtin "object.__class__")=some true
 hm:PySem.W.mroIn K (He.ga K C) (.type "object")=some true
theorem de_xf {a dd:Addr} {C:Str} {oe:Obj} {pn:List (Addr × Obj)} {e:Expr} {pos:Pos} {f:Str} {i:Nat} (T:CatC X.K C) (hno:PySem.W.findIn X.K (.ref (He.ga X.K C)) f=some none) (hz:Zc (.ref (He.ga X.K C)) (some dd) oe) (hf:∃vs,oe.data = .fields vs) (he:PE (X.suite a ((a,oe)::pn)) e (tVar i))
  (hb:attributeBase e f X.env (eval e X.env)=eval e X.env:=by rfl):PE (X.suite a ((a,oe)::pn)) (.Attribute e f pos) (tD X.K Wx (eXf a dd C i f)):=
 peImp (pe_xf ⟨T.hg,T.hk,T.hs,T.hd⟩ hno hz hf he hb) fun σ H Q ⟨H1,al,dl,m,r,en,p⟩=>by
  replace p:Post X.K H1 al σ Wx (GV X.K Q) (xfW a dd C f (dl[i]?) m):=p
  unfold xfW at p
  split at p
  ·rename_i a' dd' C' f' pd hd
   split at p
   ·rename_i hc
    obtain⟨rfl,rfl,rfl,rfl⟩:=hc
    obtain⟨v,h1,h2,u,h3,h4⟩:=en.at_ i _ hd
    exact⟨v,h1,h2,rfl,_,_,u,rfl,r.ex _ _ h3,by simp,p.ok_ r u h4⟩
   ·exact p.elim
  ·exact p.elim
theorem zqcb {K:Fg} {H1 H:Hp} {al:Gh} {m:Mem} {σ : L2.St} {dl:Env} {Q:VK} {a dd:Addr} {C:Str} {tab:List (Str × Bool)} {i:Nat} (r:Rel K H1 H al m) (en:RpE K H1 al σ dl) (p:Post K H1 al σ Wx (GV K Q) (eXis a dd C i tab dl m)):∃v b,σ[i]?=some (some v)∧v = .ref a∧(∃fs,H dd=some (.xd fs))∧lookB tab C=some b∧Q (.bl b) H:=by
 replace p:Post K H1 al σ Wx (GV K Q) (xisW a dd C tab (dl[i]?) m):=p
 unfold xisW at p
 split at p
 ·rename_i a' dd' C' f' pd hd
  split at p
  ·rename_i hc
   obtain⟨rfl,rfl,rfl⟩:=hc
   obtain⟨v,h1,h2,u,h3,h4⟩:=en.at_ i _ hd
   cases hb:lookB tab C' with
   |none=>rw[hb] at p;exact p.elim
   |some b=>rw[hb] at p;exact⟨v,b,h1,h2,⟨_,r.ex _ _ h3⟩,rfl,p.ok_ r _ (.bl b)⟩
  ·exact p.elim
 ·exact p.elim
theorem CatC.kit {K:Fg} {C:Str} (T:CatC K C) {x:Addr} {ox:Obj} {od:Option Obj}:PySem.W.KitX K (.ref x) (.ref (He.ga K C)) (fun h=>PySem.W.InstAt h x ox (He.ga K C) od):=
 PySem.W.kitx_exc (by obtain⟨cd,hc,_⟩:=PySem.W.any_some T.hd;rw[hc];rfl) T.hg T.hk T.hs T.ha T.hn T.ht T.hm
theorem z9db {pins:List (Addr × Obj)} {σ : L2.St} {H:Hp} {s:Shared} {a dd C:Addr} {oe:Obj} {pn:List (Addr × Obj)} {fs:List (Str × V)} (I:Inv (X.suite a ((a,oe)::pn)) pins σ H s) (hz:Zc (.ref C) (some dd) oe) (hf:∃vs,oe.data = .fields vs) (hd:H dd=some (.xd fs)):∃od,PySem.W.InstAt s.heap a oe C od:=by
 obtain⟨ha,_⟩:=I.pin (a,oe) (List.mem_append_left _ List.mem_cons_self)
 obtain⟨vs,hv⟩:=hf
 obtain⟨mA,hns,hr⟩:=(I.hok dd _ hd:ObjOk X.prog X.w H s.heap dd (.xd fs))
 obtain⟨od,ho,_⟩:=lookIn_ns hns
 exact⟨some od,ha,hz.1,by unfold PySem.W.notCls;rw[hv] <;> rfl,by rw[hz.2];exact ho⟩
/-- the classes asked for, and the answers -/
def KitT (K:Fg) (tab:List (Str × Bool)) (us:List Value):Prop:=∀C b,lookB tab C=some b→PySem.W.kitAny K (.ref (He.ga K C)) us=some b
theorem zchb {K:Fg} {t u:Value} {b:Bool} (h:PySem.W.kitAny K t [u]=some b):PySem.W.kitOne K t u=some b:=by
 unfold PySem.W.kitAny at h
 cases hq:PySem.W.kitOne K t u with
 |none=>rw[hq] at h;cases h
 |some b'=>
  rw[hq] at h
  cases b' with
  |true=>cases h;rfl
  |false=>simpa [PySem.W.kitAny] using h
theorem zreb {a dd:Addr} {C:Str} {oe:Obj} {pn:List (Addr × Obj)} (T:CatC X.K C) (hz:Zc (.ref (He.ga X.K C)) (some dd) oe) (hf:∃vs,oe.data = .fields vs):CallR (X.suite a ((a,oe)::pn)) (.builtin "isinstance") (fun xs H Q=>∃(c:V) (cv:Value) (b:Bool) (fs:List (Str × V)),xs=[.ref a,c]∧(∀u,RelV c u→u=cv)∧H dd=some (.xd fs)∧PySem.W.kitOne X.K (.ref (He.ga X.K C)) cv=some b∧Q (.bl b) H):=by
 intro pins s σ H xs us Q I r ⟨c,cv,b,fs,e,hcv,hd,hk,q⟩
 subst e
 match us,r with
 |[_,_],.cons rx (.cons rt .nil)=>
  cases rx
  have ec:=hcv _ rt
  subst ec
  obtain⟨od,J⟩:=z9db I hz hf hd
  exact PySem.W.kia_one T.kit I.kIn J hk (fun z=>nomatch z) fun tk=>⟨.bl b,H,I.kept (t':=tk) fun _ _ z=>z,rfl,q⟩
theorem zxkb {a dd:Addr} {C:Str} {oe:Obj} {pn:List (Addr × Obj)} {i:Nat} {e c:Expr} {p pos:Pos} {cv:V} {u:Value} {tab:List (Str × Bool)} (T:CatC X.K C) (hz:Zc (.ref (He.ga X.K C)) (some dd) oe) (hf:∃vs,oe.data = .fields vs) (hg:Gl (X.suite a ((a,oe)::pn)) "isinstance") (hm:X.mg "isinstance" = none) (he:PE (X.suite a ((a,oe)::pn)) e (tVar i)) (hc:PE (X.suite a ((a,oe)::pn)) c (tC cv)) (cu:∀z,RelV cv z→z=u) (hk:KitT X.K tab [u])
  (hs:starEach (e::[c]) X.env=(false,eval e X.env)::starEach [c] X.env:=by rfl) (hs2:starEach (c::[]) X.env=(false,eval c X.env)::starEach [] X.env:=by rfl) (hpl:(backTo pos (starEach [c] X.env)).any (·.1)=false:=by rfl) :
  PE (X.suite a ((a,oe)::pn)) (.Call (.Name "isinstance" p) [e,c] [] pos) (tD X.K Wx (eXis a dd C i tab)):=
 peImp (pe_callB (X:=X.suite a ((a,oe)::pn)) (zreb T hz hf) hg hm (by decide +kernel) (pa_cons (X:=X.suite a ((a,oe)::pn)) he (pa_cons (X:=X.suite a ((a,oe)::pn)) hc pa_nil hs2) hs) (by decide) (by decide) hs hpl) fun σ H Q ⟨H1,al,dl,m,r,en,q⟩=>by
  obtain⟨v,b,h1,rfl,⟨fs,h2⟩,h3,h4⟩:=zqcb r en q
  exact⟨_,h1,cv,u,b,fs,rfl,cu,h2,zchb (hk C b h3),h4⟩
end
end DL
namespace DL
open PySem PySem.Spec L2
open PyProof.Rows hiding St
open Evl (Ex)
/-- what the head must say of x op y, x an object of C -/
structure BopC (K:Fg) (C:Addr) (op:Operator):Prop where
 sf:PySem.W.selfFirst K C=true
 rc:∃rc,PySem.W.findIn K (.ref C) (dunderR op.info.2)=some rc∧(rc=none∨∃g:Addr,rc=some (.ref g))
/-- .. and of the type of y -/
def BopT (K:Fg) (C:Addr) (op:Operator) (t:Value):Prop:=t = .ref C∨∃(T:String) (fo ro:Option Value),t = .type T∧PySem.W.findIn K (.type T) (PySem.dunder op.info.2)=some fo∧PySem.W.findIn K (.type T) (dunderR op.info.2)=some ro∧PySem.W.subIn K (.type T) (.ref C)=some false
section
open PySem.W (Looks)
variable {prog:Program} {w:World} {A:Around} {E:Value→Shared→Prop} {K:Fg}
theorem bin_left {s:Shared} {op:Operator} {a C f:Addr} {b t:Value} {oa:Obj} {od:Option Obj} {Q:Value→Shared→Prop} (kin:K.In s.heap) (J:PySem.W.InstAt s.heap a oa C od) (B:BopC K C op) (ty:Looks (model prog w) s.heap (typeOf b) t) (bt:BopT K C op t)
  (own:PySem.W.findIn K (.ref C) (PySem.dunder op.info.2)=some (some (.ref f))) (fn:PySem.W.isFn K (.ref f)=true) (go:wpAny (model prog w) A (call (.ref f) [.ref a,b]) (PySem.W.CmpBack Q) E s):wpAny (model prog w) A (binaryOp op (.ref a) b) Q E s:=by
 obtain⟨rc,hrc,isP⟩:=B.rc
 obtain⟨cd,rest,isC,first⟩:=PySem.W.ksp_first B.sf
 have got:=PySem.W.ksp_try kin J own fn go
 rcases hop:op.info with ⟨sg,nm⟩
 unfold BopT at bt
 rw[hop] at own hrc bt got
 dsimp only at own hrc bt got
 have fillsL:=PySem.W.fills_K (M:=model prog w) kin isC first own
 have tyL:Looks (model prog w) s.heap (typeOf (.ref a)) (.ref C):=J.type
 have pyL:=PySem.W.ksp_inPy (M:=model prog w) kin own hrc isP
 obtain⟨hp0,gs0,dr0,tk0,os0⟩:=s
 simp only[binaryOp,hop]
 refine wpAny_holding (wpAny_bind ?_)
 unfold binaryOp1
 refine wpAny_bind (tyL.at (wpAny_bind (ty.at (wpAny_bind (fillsL.at ?_)))))
 rcases bt with e |⟨T,fo,ro,e,q1,q2,q3⟩
 ·subst e
  have eqC:(Value.ref C==Value.ref C)=true:=beq_iff_eq.mpr rfl
  simp only[eqC,if_true,Bool.and_false,Bool.false_eq_true,if_false]
  ksp_lk
  refine wpAny_mono got (fun r s' hr=>?_) fun _ _ z=>z
  obtain⟨v,rfl,hq⟩:=hr
  ksp_lk
  exact hq
 ·subst e
  have neC:(Value.ref C==Value.type T)=false:=Bool.eq_false_iff.mpr fun z=>by cases beq_iff_eq.mp z
  have fillsR:=PySem.W.ksp_fillsT (M:=model prog w) kin q1 q2
  have subT:Looks (model prog w) hp0 (isSubtype (.type T) (.ref C)) false:=PySem.W.looks_subIn kin q3
  have pyR:Looks (model prog w) hp0 (numberSlotInPython (.type T) nm) false:=Looks.of_pure rfl
  have lookR:Looks (model prog w) hp0 (typeLookup (.type T) (dunderR nm)) ro:=PySem.W.looks_findIn kin q2
  simp only[neC,Bool.false_eq_true,if_false]
  generalize ((fo.isSome && !isSeqSlot fo) ||(ro.isSome && !isSeqSlot ro))=rt at fillsR
  cases rt <;>
  ·ksp_lk
   refine wpAny_mono got (fun r s' hr=>?_) fun _ _ z=>z
   obtain⟨v,rfl,hq⟩:=hr
   ksp_lk
   exact hq
end
/-- C's own method for op keeps F; ts: the built-in types that may stand on the right -/
structure BopM (P:Program) (w:World) (K:Fg) (mg:Str→Option Value) (base:Heap) (k:Nat) (op:Operator) (ts:List String) (C:Str) (F:DF):Prop where
 ex:∃f,PySem.W.findIn K (.ref (He.ga K C)) (PySem.dunder op.info.2)=some (some (.ref f))∧PySem.W.isFn K (.ref f)=true∧FnD P w K mg base k f F
 bc:BopC K (He.ga K C) op
 ty:∀n∈ts,BopT K (He.ga K C) op (.type n)
 ic:IsiC K (He.ga K C)
section
variable {X:Cx} {Wx:WX}
theorem ze8 {pins:List (Addr × Obj)} {σ : L2.St} {Q:VK} {u:Value} {s':Shared} (h:EP X pins σ Q u s'):PySem.W.CmpBack (EP X pins σ Q) u s':=by
 obtain⟨v,H',I,r,q⟩:=h
 cases u with
 |notImplemented=>cases v <;> simp[L2.RelV] at r
 |_=>exact⟨v,H',I,r,q⟩
theorem zn1 {pins:List (Addr × Obj)} {σ : L2.St} {H H1:Hp} {s:Shared} {al:Gh} {m:Mem} {y:W} {v:V} {u:Value} {t:Tag} (I:Inv X pins σ H s) (r:Rel X.K H1 H al m) (hy:RpW X.K H1 al v y) (rv:RelV v u) (ht:tagOf y m=some t) (hc:∀C,t = .own C→IsiC X.K (He.ga X.K C)):PySem.W.Looks (model X.prog X.w) s.heap (typeOf u) (t.v X.K):=by
 unfold tagOf at ht
 split at ht
 ·rename_i d hd
  obtain⟨P,z1,z2,z3⟩:=L2.kit_of I rv (zzeb r.ex (hy.rh r hd) ht hc)
  exact z1.ty _ _ I.kIn z2
 ·cases ht
theorem zbib {pins:List (Addr × Obj)} {σ : L2.St} {H H1:Hp} {s:Shared} {al:Gh} {m:Mem} {x y:W} {xv yv:V} {v u:Value} {Q:VK} {op:Operator} {k:Nat} {ts:List String} {C:Str} {F:DF} (tk:L2N.Takes X Wx) (M:BopM X.prog X.w X.K X.mg X.base k op ts C F) (hr:RoomG k X.A) (I:Inv X pins σ H s) (r:Rel X.K H1 H al m) (hx:RpW X.K H1 al xv x) (hy:RpW X.K H1 al yv y) (rx:RelV xv v) (ry:RelV yv u)
  (hc:clsOf x m=some C) (ht:tagIn ts C (tagOf y m)=true) (p:Post X.K H1 al σ Wx (GV X.K Q) (F [x,y] m)):wpAny (model X.prog X.w) X.A (binaryOp op v u) (EP X pins σ Q) X.xe s:=by
 obtain⟨aa,dx,fs,ns,ds,rfl,h1,h3,h4,h5⟩:=zpm r hx hc
 obtain⟨f,q1,q2,Fo⟩:=M.ex
 obtain⟨ox,od,J⟩:=zat I h1
 obtain rfl:v=Value.ref aa:=rx
 have call_:=zxy (vs:=[.ref aa,yv]) tk Fo hr I I.env0 (.cons rfl (.cons ry .nil)) (zvp r (.cons hx (.cons hy .nil)) p)
 have done:=wpAny_mono call_ (fun _ _ z=>ze8 z) fun _ _ z=>z
 cases hg:tagOf y m with
 |none=>rw[hg] at ht;cases ht
 |some t=>
  rw[hg] at ht
  cases t with
  |bt n=>
   exact bin_left I.kIn J M.bc (zn1 I r hy ry hg (fun C e=>nomatch e)) (M.ty n (of_decide_eq_true ht)) q1 q2 done
  |own C'=>
   have e:C'=C:=of_decide_eq_true ht
   subst e
   exact bin_left I.kIn J M.bc (zn1 I r hy ry hg (fun C e=>by cases e;exact M.ic)) (.inl rfl) q1 q2 done
theorem zpbb {a b:Expr} {op:Operator} {pos:Pos} {k:Nat} {ts:List String} {t:Tbl} {g:D→D→Option D} {fa fb:DE} (tk:L2N.Takes X Wx) (ht:∀q∈t,BopM X.prog X.w X.K X.mg X.base k op ts q.1 q.2) (hr:RoomG k X.A) (ho:OpOk X (binaryOp op) g) (ha:PE X a (tD X.K Wx fa)) (hb:PE X b (tD X.K Wx fb)):PE X (.BinOp a op b pos) (tD X.K Wx (eBop ts t g fa fb)):=by
 refine⟨fun pins s σ H Q I h=>?_⟩
 have h2:=zm1 (R:=fun v w H2 Q=>∃H1 al m x y,Rel X.K H1 H2 al m∧RpW X.K H1 al v x∧RpW X.K H1 al w y∧Post X.K H1 al σ Wx (GV X.K Q) (bopW ts t g x y m)) h fun H1 H al m x y v w r hx hy p=>⟨H1,al,m,x,y,r,hx,hy,p⟩
 refine wpAny_BinOp (binT ha hb I h2 fun v u s2 xv yv H2 I2 rx ry q=>?_)
 obtain⟨H1,al,m,x,y,r,hx,hy,p⟩:=q
 unfold bopW at p
 cases hc:clsOf x m with
 |none=>
  rw[hc] at p
  obtain⟨r2,hr2,hs2⟩:=ho
  exact hr2 pins s2 σ H2 xv yv v u Q I2 rx ry (z5e r hx hy hs2 p)
 |some C=>
  rw[hc] at p
  dsimp only at p
  cases hl:look t C with
  |none=>rw[hl] at p;exact p.elim
  |some F=>
   rw[hl] at p
   dsimp only at p
   split at p
   ·rename_i hti
    exact zbib tk (ht _ (zdm hl)) hr I2 r hx hy rx ry hc hti p
   ·exact p.elim
theorem z0kb {a:Expr} {pos:Pos} {k:Nat} {t:Tbl} {fa:DE} (tk:L2N.Takes X Wx) (ht:∀q∈t,OwnM X.prog X.w X.K X.mg X.base k "__neg__" q.1 q.2) (hr:RoomG k X.A) (ha:PE X a (tD X.K Wx fa)):PE X (.UnaryOp .USub a pos) (tD X.K Wx (eNeg t fa)):=by
 refine⟨fun pins s σ H Q I h=>?_⟩
 have h2:=zbv (R:=fun v H2 Q=>∃H1 al m x,Rel X.K H1 H2 al m∧RpW X.K H1 al v x∧Post X.K H1 al σ Wx (GV X.K Q) (negW t x m)) h fun H1 H al m x v r hx p=>⟨H1,al,m,x,r,hx,p⟩
 refine UnaryOp_ (thn (ha.run pins s σ H _ I h2) fun v s1 ⟨xv,H2,I2,rx,q⟩=>?_)
 obtain⟨H1,al,m,x,r,hx,p⟩:=q
 unfold negW at p
 cases hc:clsOf x m with
 |none=>
  rw[hc] at p
  obtain⟨r2,hr2,hs2⟩:=z0d (X:=X)
  exact hr2 pins s1 σ H2 xv v Q I2 rx (z7s r hx hs2 p)
 |some C=>
  rw[hc] at p
  dsimp only at p
  cases hl:look t C with
  |none=>rw[hl] at p;exact p.elim
  |some F=>
   rw[hl] at p
   dsimp only at p
   obtain⟨aa,dx,fs,ns,ds,rfl,h1,h3,h4,h5⟩:=zpm r hx hc
   obtain⟨f,q1,q2,q3,q4,Fo⟩:=(ht _ (zdm hl)).ex
   obtain⟨ox,od,J⟩:=zat I2 h1
   obtain rfl:v=Value.ref aa:=rx
   obtain⟨mF,Fr1⟩:=I2.fr
   exact PySem.W.ksp_neg Fr1 I2.ok.mod.kin J q1 q2 (zxy (vs:=[.ref aa]) tk Fo hr I2 I2.env0 (.cons rfl .nil) (zvp r (.cons hx .nil) p))
end
end DL
namespace DL
open PySem PySem.Spec L2
open PyProof.Rows hiding St
open PySem.W (Frag)
theorem zpgb {K:Frag} {C:Addr} (c:oexB K C=true):∃nm q N bs bm sn sub ab col dd k0 k1 k2 k3 k5,K.lookup C=some (excClassObj nm q C N bs bm true sn sub ab col dd k0 k1 k2 k3 k5 "ValueError.__new__")∧PySem.HandSPX.refsVE bm=true:=by
 unfold oexB at c
 split at c
 ·rename_i dd cd sl ho
  split at c
  ·rename_i C' bm k0 k1 k2 k3 n k5 hm hs
   simp only[Bool.and_eq_true,beq_iff_eq,Bool.not_eq_true'] at c
   obtain⟨e1,e2,e3,e4,e5⟩:=c
   obtain⟨nm,bs,mro,ns,qn,hd,sn,sub,ab,col,del⟩:=cd
   dsimp only at hm e3 e4
   subst e1 e2 hm e3 e4
   have es:sl=#[k0,k1,k2,k3,some (.builtin "ValueError.__new__"),k5]:=by
    obtain⟨l⟩:=sl
    simp only at hs
    rw[hs]
   subst es
   exact⟨nm,qn,ns,bs,bm,sn,sub,ab,col,dd,k0,k1,k2,k3,k5,ho,e5⟩
  ·cases c
 ·cases c
section
variable {K:Frag}
theorem z6t {C f:Str} (c:fErr C f K=true):ErrC K C f (He.ma K (He.ga K C) "__init__"):=by
 obtain⟨c1,c⟩:=He.ba c
 obtain⟨c2,c⟩:=He.ba c
 obtain⟨c3,c⟩:=He.ba c
 obtain⟨c4,c⟩:=He.ba c
 obtain⟨c5,c⟩:=He.ba c
 obtain⟨c6,c⟩:=He.ba c
 obtain⟨c7,c8⟩:=He.ba c
 exact⟨⟨zpgb c1,He.eqO_ok c2,of_decide_eq_true c3,of_decide_eq_true c4,c5⟩,He.eqO_ok c6,of_decide_eq_true c7,He.eqO_ok c8⟩
theorem ve_of (c:fVe K=true):PySem.W.findCls K (.type "ValueError") (.type "type") "__init__" = some (.val (.builtin "ValueError.__init__")):=by
 unfold fVe at c
 split at c
 ·rename_i n e
  rw[e,beq_iff_eq.mp c]
 ·cases c
theorem z5kb {C:Str} (c:fCat C K=true):CatC K C:=by
 obtain⟨c1,c⟩:=He.ba c
 obtain⟨c2,c⟩:=He.ba c
 obtain⟨c3,c⟩:=He.ba c
 obtain⟨c4,c⟩:=He.ba c
 obtain⟨c5,c⟩:=He.ba c
 obtain⟨c6,c⟩:=He.ba c
 obtain⟨c7,c8⟩:=He.ba c
 exact⟨He.eqO_ok c1,He.eqO_ok c2,of_decide_eq_true c3,c4,He.eqO_ok c5,He.eqO_ok c6,of_decide_eq_true c7,of_decide_eq_true c8⟩
theorem zpjb {C f:Str} (c:fNoF C f K=true):PySem.W.findIn K (.ref (He.ga K C)) f=some none:=He.eqO_ok c
theorem znkb {C:Str} {Es:List Str} (c:fExm C Es K=true):ExmT K C Es:=by
 obtain⟨c1,c2⟩:=He.ba c
 exact⟨of_decide_eq_true c1,fun C' h=>of_decide_eq_true (List.all_eq_true.mp c2 C' h)⟩
theorem z11:∀{t:List (Str × Bool)} {C:Str} {b:Bool},lookB t C=some b→(C,b)∈t
 |[],_,_,h=>nomatch h
 |q::r,C,b,h=>by
  unfold lookB at h
  split at h
  ·rename_i e
   cases h
   rw[←e]
   exact List.mem_cons_self
  ·exact List.mem_cons_of_mem _ (z11 h)
theorem zpib {t:List (Str × Bool)} {cs:List CRef} (c:fXis t cs K=true):KitT K t (cs.map (CRef.v K)):=fun C b h=>kit_of (List.all_eq_true.mp c _ (z11 h))
theorem zckb {o:Option (Option Value)} (h:isP o=true):∃rc,o=some rc∧(rc=none∨∃g:Addr,rc=some (.ref g)):=by
 match o,h with
 |some none,_=>exact⟨_,rfl,.inl rfl⟩
 |some (some (.ref g)),_=>exact⟨_,rfl,.inr ⟨g,rfl⟩⟩
theorem zoz {P:Program} {w:World} {mg:Str→Option Value} {base:Heap} {k:Nat} {C m:Str} {op:Operator} {ts:List String} {F:DF} (c:fBop C m op ts K=true) (h:FnD P w K mg base k (He.ma K (He.ga K C) m) F):BopM P w K mg base k op ts C F:=by
 obtain⟨c1,c⟩:=He.ba c
 obtain⟨c2,c⟩:=He.ba c
 obtain⟨c3,c⟩:=He.ba c
 obtain⟨c4,c⟩:=He.ba c
 obtain⟨c5,c6⟩:=He.ba c
 obtain⟨o1,o2,o3,o4⟩:=zaf c2
 have em:m=PySem.dunder op.info.2:=of_decide_eq_true c1
 refine⟨⟨_,by rw[←em];exact o1,o2,h⟩,⟨c3,zckb c4⟩,fun T hT=>?_,ztab c5⟩
 have z:=List.all_eq_true.mp c6 T hT
 obtain⟨z1,z⟩:=He.ba z
 obtain⟨z2,z3⟩:=He.ba z
 obtain⟨fo,e1⟩:=Option.isSome_iff_exists.mp z1
 obtain⟨ro,e2⟩:=Option.isSome_iff_exists.mp z2
 exact .inr ⟨T,fo,ro,rfl,e1,e2,of_decide_eq_true z3⟩
end
end DL
namespace DL
open PySem PySem.Spec L2
open PyProof.Rows hiding St
open Evl (Ex)
theorem RoomG.hot {k:Nat} {A:Around} (r:RoomG k A) (v:Option Value):RoomX k (A.mark v):=⟨⟨r.dp,r.un⟩,r.gd⟩
section
variable {X:Cx} {Wx:WX}
def noD:D→D→Option D:=fun _ _=>none
theorem z19 {op:Operator}:OpOk X (binaryOp op) noD:=⟨fun _ _ _ _=>False,fun _ _ _ _ _ _ _ _ _ _ _ _ h=>h.elim,fun _ _ _ _ _ _ _ _ _ _ _ _ _ h _=>nomatch h⟩
theorem zd7 {K:Fg} {H1:Hp} (x:Str):zus K (Its x) H1 (chrD x):=by
 have e:(chrD x).length=x.cps.size:=by unfold chrD;rw[List.length_map,Array.length_toList]
 refine⟨_,_,by rw[e];exact walk_str (z:=x),fun H _=>True.intro,fun i H v H' hi y Hf al m ex rl=>?_⟩
 obtain⟨rfl,c,hc,rfl⟩:=y
 refine⟨Hf,.str ⟨#[c]⟩,Ex.refl _,rl,?_,.str _⟩
 unfold chrD
 rw[List.getElem?_map,Array.getElem?_toList,hc]
 rfl
theorem zofb {tg l:Expr} {f:DE} (h:PE X l (tD X.K Wx f)):PI X tg l (tI X.K Wx (iTxt f)):=piImp (pi_str h) fun σ H R ⟨H1,al,dl,m,r,en,p⟩=>by
 refine⟨H1,al,dl,m,r,en,p.bind fun w m1 H1' al' H' e pr r' p' v hv=>?_⟩
 unfold zxu at p'
 split at p'
 ·rename_i x
  cases (show Rp X.K H1' v (.str x) from hv)
  exact⟨x,rfl,p'.ok_ r' _ (zd7 x)⟩
 ·exact p'.elim
end
/-- for what a suite does whatever the error's place -/
def wOf {α : Type} (r:Res α) (k : α → Mem→SR):SR:=match r with
 |.ok a m=>k a m
 |_=>.no
theorem zv3 {α : Type} (i:Nat) (r:Res α) (dl:Env) (k : α → Mem→SR):wipeS i (r.thenS dl k)=wOf r fun a m=>wipeS i (k a m):=by cases r <;> rfl
theorem zx8 {α : Type} (r:Res α) (dl:Env) (k : α → Mem→SR) (b:DS):(r.thenS dl k).seq b=r.thenS dl fun a m=>(k a m).seq b:=by cases r <;> rfl
theorem zq8 (i:Nat) (c:Prop) [Decidable c] (a b:SR):wipeS i (if c then a else b)=if c then wipeS i a else wipeS i b:=by split <;> rfl
theorem z8fb (c:Prop) [Decidable c] (a b:SR) (t:DS):(if c then a else b).seq t=if c then a.seq t else b.seq t:=by split <;> rfl
end DL
namespace DL
open PySem PySem.Spec L2
open PyProof.Rows hiding St
open Evl (Ex)
section
variable {X:Cx} {Wx:WX}
theorem zjeb {o:Expr} {m C:Str} {apos pos:Pos} {pl:Sem Bool} {k:Nat} {f:Addr} {F:DF} {fo:DE} (tk:L2N.Takes X Wx) (c:Cls X.K (He.ga X.K C)) (hm:Meth X.K (He.ga X.K C) m f) (Fo:FnD X.prog X.w X.K X.mg X.base k f F) (hr:RoomG k X.A) (ho:PE X o (tD X.K Wx fo))
  (ht:eval (.Call (.Attribute o m apos) [] [] pos) X.env=(do
    let ov ←eval o X.env
    standAt apos.atName
    let (f,first) ←holding [ov] (getMethod ov m pl)
    callWith pos f first (backTo pos (starEach [] X.env)) (backToKw pos (keywordEach [] X.env))):=by rfl):PE X (.Call (.Attribute o m apos) [] [] pos) (tD X.K Wx (eMeth C m F fo aNil)):=by
 refine⟨fun pins s σ H Q I ⟨H1,al,dl,mm,r,en,p⟩=>?_⟩
 have h2:tD X.K Wx fo σ H fun v H'=>∃a dx fs,v = .ref a∧H' a=some (.ins (He.ga X.K C) dx fs)∧fs.lookup m=none∧spR X.K F [.ref a] H' Q (fun c d H=>Wx c d σ H):=by
  refine⟨H1,al,dl,mm,r,en,p.bind fun x m1 H1' al' H' e pr r' p' v hv=>?_⟩
  split at p'
  ·rename_i hn
   obtain⟨a,dx,fs,rfl,h1,h2⟩:=zf0 r' hv hn
   exact⟨a,dx,fs,rfl,h1,h2,zvp r' (.cons hv .nil) p'⟩
  ·exact p'.elim
 refine PySem.W.methodCall_KW (pl:=pl) (thn (ho.run pins s σ H _ I h2) fun u s1 ⟨x,H1,I1,rx,a,dx,fs,ex,ea,l,q⟩=>?_) ht
 subst ex
 obtain rfl:u=Value.ref a:=rx
 refine getmeth_ok I1 ea c hm l ?_
 exact PySem.W.callWith_K0 (first:=[.ref a]) I1.kIn hm.kp (wpAny_call (z0z (us:=[.ref a]) (vs:=[.ref a]) tk Fo hr I1 (.cons rfl .nil) q))
end
end DL
namespace DL
open PySem PySem.Spec L2
open PyProof.Rows hiding St
open Evl (Ex)
def sel {α : Type} (ix:List Nat) (l:List α):List α := ix.filterMap fun i=>l[i]?
theorem Vals.getE {vs:List V} {us:List Value} (h:Vals vs us) (i:Nat):(vs[i]?=none∧us[i]?=none)∨∃v u,vs[i]?=some v∧us[i]?=some u∧RelV v u:=by
 induction h generalizing i with
 |nil=>exact .inl ⟨rfl,rfl⟩
 |cons r t ih=>
  cases i with
  |zero=>exact .inr ⟨_,_,rfl,rfl,r⟩
  |succ i=>exact ih i
theorem Vals.sel {vs:List V} {us:List Value} (h:Vals vs us):∀ix:List Nat,Vals (DL.sel ix vs) (DL.sel ix us)
 |[]=>.nil
 |i::ix=>by
  unfold DL.sel
  rcases Vals.getE h i with ⟨e1,e2⟩ |⟨v,u,e1,e2,r⟩
  ·rw[List.filterMap_cons_none e1,List.filterMap_cons_none e2]
   exact Vals.sel h ix
  ·rw[List.filterMap_cons_some e1,List.filterMap_cons_some e2]
   exact .cons r (Vals.sel h ix)
theorem RpWs.getE {K:Fg} {H1:Hp} {al:Gh}:∀{vs:List V} {ws:List W},RpWs K H1 al vs ws→∀i:Nat,(vs[i]?=none∧ws[i]?=none)∨∃v w,vs[i]?=some v∧ws[i]?=some w∧RpW K H1 al v w
 |_,_,.nil,_=>.inl ⟨rfl,rfl⟩
 |_,_,.cons r _,0=>.inr ⟨_,_,rfl,rfl,r⟩
 |_,_,.cons _ t,i+1=>RpWs.getE t i
theorem RpWs.sel {K:Fg} {H1:Hp} {al:Gh} {vs:List V} {ws:List W} (h:RpWs K H1 al vs ws):∀ix:List Nat,RpWs K H1 al (DL.sel ix vs) (DL.sel ix ws)
 |[]=>.nil
 |i::ix=>by
  unfold DL.sel
  rcases RpWs.getE h i with ⟨e1,e2⟩ |⟨v,u,e1,e2,r⟩
  ·rw[List.filterMap_cons_none e1,List.filterMap_cons_none e2]
   exact RpWs.sel h ix
  ·rw[List.filterMap_cons_some e1,List.filterMap_cons_some e2]
   exact .cons r (RpWs.sel h ix)
/-- n values are given (by position, then by the keywords in their order); ds: the defaults that fill up; ix: the parameters' order -/
def kwF (n:Nat) (ds:List D) (ix:List Nat) (F:DF):DF:=fun ws m=>if ws.length=n then F (sel ix (ws++ds.map W.d)) m else .no
/-- called with keywords -/
def FnK (P:Program) (w:World) (K:Fg) (mg:Str→Option Value) (base:Heap) (k:Nat) (f:Addr) (ks:List Str) (F:DF):Prop:=
 ∀(A:Around) (outer:List PySem.Env) (s:Shared) (H:Hp) (us ws:List Value) (vs zs:List V) (Q:VK) (E:XK),RoomG k A→Env0 P w K mg base A outer s H→Vals vs us→Vals zs ws→ws.length=ks.length→spR K F (vs++zs) H Q E →
  codeAny (model P w) A (.call (.ref f) ⟨us,ks.zip ws⟩) (CR (L2N.CX P w) outer P w H s Q E) s
section
variable {P:Program} {w:World} {K:Fg} {mg:Str→Option Value} {base:Heap} {x qual:Str} {params:Arguments} {body:List Stmt} {scope:Scope} {f:Addr} {fd:FuncData} {ps:List Str} {k:Nat} {R:DF}
/-- immediate data -/
inductive Imm:V→D→Prop where
 |non:Imm .non .non
 |bl (b:Bool):Imm (.bl b) (.bl b)
inductive Imms:List V→List D→Prop where
 |nil:Imms [] []
 |cons {v:V} {d:D} {vs:List V} {ds:List D}:Imm v d→Imms vs ds→Imms (v::vs) (d::ds)
theorem Imms.rp {H1:Hp} {al:Gh}:∀{vs:List V} {ds:List D},Imms vs ds→RpWs K H1 al vs (ds.map W.d)
 |_,_,.nil=>.nil
 |_,_,.cons h t=>.cons (by cases h with
  |non=>exact (show Rp K H1 V.non D.non from .non)
  |bl b=>exact (show Rp K H1 (V.bl b) (D.bl b) from .bl b)) t.rp
theorem kw_sp {n:Nat} {mz:List V} {ds:List D} {ix:List Nat} {vs:List V} {H:Hp} {Q:VK} {E:XK} (hd:Imms mz ds) (h:spR K (kwF n ds ix (lenF ps.length R)) vs H Q E):vs.length=n∧spD K ps.length R (sel ix (vs++mz)) H Q E:=by
 obtain⟨H1,al,m,ws,rl,hws,p⟩:=h
 unfold kwF at p
 split at p
 ·rename_i hl
  exact⟨by rw[hws.length];exact hl,zlab ⟨H1,al,m,_,rl,(hws.append hd.rp).sel ix,p⟩⟩
 ·exact p.elim
/-- nothing lacks -/
theorem zphb {kws:List (Str × V)} (F:FunD K x qual params body scope [] kws f fd) (Fo:FnG P w K mg base k f fd ps (spD K ps.length R)) (n:Nat) (ks:List Str) (ix:List Nat)
  (h:∀(kV doc pm:Value) (an:Option Addr) (cdv ct:Value) (us ws:List Value),us.length=n→ws.length=ks.length→bindArgs (PySem.W.fnOf x qual params body scope .none kV doc pm an cdv ct) ⟨us,ks.zip ws⟩=pure (ps.zip (sel ix (us++ws)))) :
  FnK P w K mg base k f ks (kwF (n+ks.length) [] ix (lenF ps.length R)):=by
 intro A outer s H us ws vs zs Q E hr e0 r rz lw hs
 obtain⟨hl,q⟩:=kw_sp .nil hs
 rw[List.append_nil] at q
 obtain⟨oc,od,dV,kV,doc,pm,an,cdv,ct,osl,rfl,lk,hcd,hD,hK⟩:=F.ex
 rcases hD with ⟨_,rfl⟩ |⟨e,_⟩
 ·have lu:us.length=n:=by
   rw[List.length_append,r.length,rz.length,lw] at hl
   omega
  exact Fo.go hr e0 (.of_eq (h kV doc pm an cdv ct us ws lu lw)) (Vals.sel (r.append rz) ix) q
 ·exact absurd rfl e
/-- the keyword-only ones ms lack -/
theorem zohb {kws:List (Str × V)} (F:FunD K x qual params body scope [] kws f fd) (Fo:FnG P w K mg base k f fd ps (spD K ps.length R)) (n:Nat) (ks:List Str) (ms:List (Str × V)) (ds:List D) (ix:List Nat) (hk:kws≠[]) (hms:∀q∈ms,q∈kws) (hds:Imms (ms.map (·.2)) ds)
  (h:∀(D:Addr) (doc pm:Value) (an:Option Addr) (cdv ct:Value) (us ws mv:List Value),us.length=n→ws.length=ks.length→mv.length=ms.length →
    KwChain D ((ms.map (·.1)).zip mv) (bindArgs (PySem.W.fnOf x qual params body scope .none (.ref D) doc pm an cdv ct) ⟨us,ks.zip ws⟩) (ps.zip (sel ix (us++ws++mv)))) :
  FnK P w K mg base k f ks (kwF (n+ks.length) ds ix (lenF ps.length R)):=by
 intro A outer s H us ws vs zs Q E hr e0 r rz lw hs
 obtain⟨hl,q⟩:=kw_sp hds hs
 obtain⟨oc,od,dV,kV,doc,pm,an,cdv,ct,osl,rfl,lk,hcd,hD,hK⟩:=F.ex
 rcases hD with ⟨_,rfl⟩ |⟨e,_⟩
 ·rcases hK with e |⟨D,rfl,hq⟩
  ·exact absurd e hk
  ·obtain⟨mv,hmv,rk,hks⟩:=kwd_vals (ms:=ms) fun q hm=>hq q (hms q hm)
   have lu:us.length=n:=by
    rw[List.length_append,r.length,rz.length,lw] at hl
    omega
   have X:=e0.mod.kin.keeps fun b o e=>(e0.bs b o e).1
   exact Fo.go hr e0 (BindsTo.of_looks fun M=>KwChain.looks X hks (h D doc pm an cdv ct us ws mv lu lw hmv)) (Vals.sel ((r.append rz).append rk) ix) q
 ·exact absurd rfl e
/-- by position, the rest by default -/
theorem FnK.pos {F:DF} (h:FnK P w K mg base k f [] F):FnD P w K mg base k f F:=fun A outer s H us vs Q E hr e0 r hs=>
 h A outer s H us [] vs [] Q E hr e0 r .nil rfl (by rw[List.append_nil];exact hs)
end
theorem pkImp {X:Cx} {e:List Keyword} {t t':TA} (h:PK X e t) (k:∀ σ H Q,t' σ H Q→t σ H Q):PK X e t':=⟨fun pos pins s σ H Q I hw=>h.run pos pins s σ H Q I (k σ H Q hw)⟩
section
variable {X:Cx} {Wx:WX}
theorem zvw:PK X [] (tA X.K Wx aNil):=pkImp pk_nil fun σ H Q ⟨H1,al,dl,m,r,en,p⟩=>p.ok_ r [] .nil
theorem zwq {a:Expr} {nm:Option Str} {kpos:Pos} {kws:List Keyword} {fa:DE} {fr:DA} (ha:PE X a (tD X.K Wx fa)) (hr:PK X kws (tA X.K Wx fr)):PK X (⟨nm,a,kpos⟩::kws) (tA X.K Wx (aCons fa fr)):=
 pkImp (pk_cons ha hr) fun σ H Q ⟨H1,al,dl,m,r,en,p⟩=>⟨H1,al,dl,m,r,en,p.bind fun x m1 H1' al' H' e pr r' p' v hv=>
  ⟨H1',al',dl,m1,r',en.mono e pr,p'.bind fun xs m2 H2' al2 H2 e2 pr2 r2 p2 vs hvs=>p2.ok_ r2 (v::vs) (.cons (hv.mono e2 pr2) hvs)⟩⟩
theorem RpWs.mono' {H1 H2:Hp} {al al2:Gh} (e:Ex H1 H2) (p:Le al al2):∀{vs:List V} {ws:List W},RpWs X.K H1 al vs ws→RpWs X.K H2 al2 vs ws
 |_,_,.nil=>.nil
 |_,_,.cons r t=>.cons (r.mono e p) (RpWs.mono' e p t)
theorem zdgb {k:Nat} {f:Addr} {ks:List Str} {F:DF} {pins:List (Addr × Obj)} {σ : L2.St} {H:Hp} {s:Shared} {Q:VK} {us ws:List Value} {vs zs:List V} (tk:L2N.Takes X Wx) (Fo:FnK X.prog X.w X.K X.mg X.base k f ks F) (hr:RoomG k X.A) (I:Inv X pins σ H s) (r:Vals vs us) (rz:Vals zs ws) (hl:zs.length=ks.length)
  (h:spR X.K F (vs++zs) H Q (fun c d H=>Wx c d σ H)):wpAny (model X.prog X.w) X.A (call (.ref f) us (ks.zip ws)) (EP X pins σ Q) X.xe s:=by
 refine wpAny_call (codeAny_mono (Fo X.A X.stack s H us ws vs zs Q _ hr I.env0 r rz (rz.length.symm.trans hl) h) fun r s' hq=>?_)
 cases r with
 |error e=>exact L2N.passAt tk σ pins H s e s' I hq
 |ok fl=>
  cases fl with
  |ret u=>exact I.after hq
  |next=>exact False.elim hq
  |brk=>exact False.elim hq
  |cont=>exact False.elim hq
theorem zmdb {C m:Str} {nk:Nat} {F:DF} {fo:DE} {g gk:DA} {σ : L2.St} {H:Hp} {Q:VK} (h:tD X.K Wx (zv6 C m nk F fo g gk) σ H Q) :
  tD X.K Wx fo σ H fun v H'=>∃a dx fs,v = .ref a∧H' a=some (.ins (He.ga X.K C) dx fs)∧fs.lookup m=none∧tA X.K Wx g σ H' fun vs H2=>tA X.K Wx gk σ H2 fun zs H3=>zs.length=nk∧spR X.K F ((.ref a::vs)++zs) H3 Q (fun c d H=>Wx c d σ H):=by
 obtain⟨H1,al,dl,mm,r,en,p⟩:=h
 refine⟨H1,al,dl,mm,r,en,p.bind fun x m1 H1' al' H' e pr r' p' v hv=>?_⟩
 split at p'
 ·rename_i hn
  obtain⟨a,dx,fs,rfl,h1,h2⟩:=zf0 r' hv hn
  refine⟨a,dx,fs,rfl,h1,h2,H1',al',dl,m1,r',en.mono e pr,p'.bind fun ws m2 H2 al2 H2' e2 pr2 r2 p2 vs hvs=>?_⟩
  refine⟨H2,al2,dl,m2,r2,(en.mono e pr).mono e2 pr2,p2.bind fun zs m3 H3 al3 H3' e3 pr3 r3 p3 zv hzs=>?_⟩
  split at p3
  ·rename_i hz
   exact⟨by rw[hzs.length];exact hz,zvp r3 (.cons ((hv.mono e2 pr2).mono e3 pr3) ((RpWs.mono' e3 pr3 hvs).append hzs)) p3⟩
  ·exact p3.elim
 ·exact p'.elim
theorem zieb {o e:Expr} {es:List Expr} {kws:List Keyword} {m C:Str} {apos pos:Pos} {pl:Sem Bool} {k:Nat} {f:Addr} {ks:List Str} {F:DF} {fo:DE} {g gk:DA} (tk:L2N.Takes X Wx) (c:Cls X.K (He.ga X.K C)) (hm:Meth X.K (He.ga X.K C) m f) (Fo:FnK X.prog X.w X.K X.mg X.base k f ks F) (hr:RoomG k X.A) (ho:PE X o (tD X.K Wx fo)) (ha:PA X (e::es) (tA X.K Wx g)) (hkw:PK X kws (tA X.K Wx gk))
  (hall:(backToKw pos (keywordEach kws X.env)).all (·.1.isSome)=true:=by rfl) (hks:(backToKw pos (keywordEach kws X.env)).filterMap (·.1)=ks:=by rfl) (he:starEach (e::es) X.env=(false,eval e X.env)::starEach es X.env:=by rfl)
  (hpl:((backTo pos (starEach (e::es) X.env)).any (·.1) ||(backToKw pos (keywordEach kws X.env)).any (·.1.isNone))=false:=by rfl)
  (ht:eval (.Call (.Attribute o m apos) (e::es) kws pos) X.env=(do
    let ov ←eval o X.env
    standAt apos.atName
    let (f,first) ←holding [ov] (getMethod ov m pl)
    callWith pos f first (backTo pos (starEach (e::es) X.env)) (backToKw pos (keywordEach kws X.env))):=by rfl):PE X (.Call (.Attribute o m apos) (e::es) kws pos) (tD X.K Wx (zv6 C m ks.length F fo g gk)):=by
 refine⟨fun pins s σ H Q I h=>?_⟩
 refine PySem.W.methodCall_KW (pl:=pl) (thn (ho.run pins s σ H _ I (zmdb h)) fun u s1 ⟨x,H1,I1,rx,a,dx,fs,ex,ea,l,q⟩=>?_) ht
 subst ex
 obtain rfl:u=Value.ref a:=rx
 refine getmeth_ok I1 ea c hm l ?_
 refine PySem.W.callWith_KW (first:=[.ref a]) (h₀:=X.base) I.ok.mod.kin hm.kp hall (thn (ha.run pos pins s1 σ H1 _ I1 q) fun us s2 ⟨vs,H2,I2,r,q2⟩=>?_) hpl he
 refine thn (hkw.run pos pins s2 σ H2 _ I2 q2) fun ws s3 ⟨zs,H3,I3,rz,l2,q3⟩=>⟨I3.kIn,?_⟩
 rw[hks]
 exact zdgb (us:=.ref a::us) (vs:=.ref a::vs) tk Fo hr I3 (.cons rfl r) rz l2 q3
end
end DL
namespace DL
open PySem PySem.Spec L2
open PyProof.Rows hiding St
open Evl (Ex)
section
variable (dl:Env) (m:Mem) (C:Str)
theorem x_kwF (n:Nat) (ds:List D) (ix:List Nat) (F:DF) (ws:List W):kwF n ds ix F ws m=if ws.length=n then F (sel ix (ws++ds.map W.d)) m else .no:=nr rfl
end
end DL
namespace DL
open PySem PySem.Spec L2
open PyProof.Rows hiding St
open Evl (Ex)
theorem z6p {P:Str × DF→Prop}:∀q∈([]:Tbl),P q:=fun _ z=>nomatch z
theorem zyg {P:Str × DF→Prop} {a:Str × DF} {l:Tbl} (h:P a) (t:∀q∈l,P q):∀q∈a::l,P q:=fun q hq=>by
 rcases List.mem_cons.mp hq with e |e
 ·rw[e];exact h
 ·exact t q e
section
variable {X:Cx} {Wx:WX}
theorem zl9 {k:Nat} {f:Addr} {C:Str} {F:DF} {ks:List Str} {pins:List (Addr × Obj)} {σ : L2.St} {H:Hp} {s:Shared} {Q:VK} {us kus:List Value} {vs kvs:List V} {ws:List W} {H1:Hp} {al:Gh} {m:Mem} (tk:L2N.Takes X Wx) (M:Mk X.K (He.ga X.K C) f) (Fo:FnK X.prog X.w X.K X.mg X.base k f ks F) (hr:RoomG (k+1) X.A) (I:Inv X pins σ H s) (r:Vals vs us) (rk:Vals kvs kus) (hkl:kvs.length=ks.length)
  (rl:Rel X.K H1 H al m) (hws:RpWs X.K H1 al (vs++kvs) ws) (p:Post X.K H1 al σ Wx (GV X.K Q) (makeW C F ws m)):wpAny (model X.prog X.w) X.A (call (.ref (He.ga X.K C)) us (ks.zip kus)) (EP X pins σ Q) X.xe s:=by
 have hx:H (s.heap.objs.size+1)=none:=I.hok.fresh (Nat.le_succ _)
 have hdx:H s.heap.objs.size=none:=I.hok.fresh (Nat.le_refl _)
 have hne:s.heap.objs.size≠s.heap.objs.size+1:=Nat.ne_of_lt (Nat.lt_succ_self _)
 have I2:=Inv.made (C:=He.ga X.K C) I
 have r2:Vals (V.ref (s.heap.objs.size+1)::vs) (Value.ref (s.heap.objs.size+1)::us):=.cons rfl r
 have g1:=rl.grow (Evl.Ex.new (o:=.own (s.heap.objs.size+1)) hdx)
 have hx2:(upd H s.heap.objs.size (.own (s.heap.objs.size+1))) (s.heap.objs.size+1)=none:=by rw[upd_ne (Ne.symm hne)];exact hx
 have g2:Rel X.K H1 (upd (upd H s.heap.objs.size (.own (s.heap.objs.size+1))) (s.heap.objs.size+1) (.ins (He.ga X.K C) s.heap.objs.size [])) (al.push (s.heap.objs.size+1)) (m++[.obj C [] []]):=
  g1.cell hx2 ⟨s.heap.objs.size,[],upd_same,rfl,.nil⟩
 have le:Le al (al.push (s.heap.objs.size+1)):=Le.push _ _
 have hq:spR X.K F (V.ref (s.heap.objs.size+1)::vs++kvs) (upd (upd H s.heap.objs.size (.own (s.heap.objs.size+1))) (s.heap.objs.size+1) (.ins (He.ga X.K C) s.heap.objs.size [])) (fun v H2=>v = .non∧Q (.ref (s.heap.objs.size+1)) H2) (fun c d H=>Wx c d σ H):=by
  refine⟨H1,_,_,.c m.length::ws,g2,.cons ⟨_,?_,rfl⟩ (hws.mono (Ex.refl _) le),?_⟩
  ·show (al.al.fl++[s.heap.objs.size+1])[m.length]?=_
   rw[←rl.len,List.getElem?_append_right (Nat.le_refl _),Nat.sub_self] <;> rfl
  ·unfold makeW at p
   cases hF:F (.c m.length::ws) (m++[.obj C [] []]) with
   |no=>rw[hF] at p;exact p.elim
   |exc C' f' p' m'=>
    rw[hF] at p
    intro Ha aa Hb v dx e1 l1 e2 e3 e4
    exact p Ha aa Hb v dx e1 (le.trans l1) e2 e3 e4
   |ok w' m'=>
    rw[hF] at p
    intro Ha aa Hb v e1 l1 e2 e3
    have p2:Post X.K H1 al σ Wx (GV X.K Q) (madeW m.length w' m'):=p
    clear p hF
    unfold madeW at p2
    split at p2
    ·cases (show Rp X.K Ha v .non from e3)
     refine⟨rfl,?_⟩
     split at p2
     ·rename_i C2 ns ds hc
      have hk:(al.push (s.heap.objs.size+1)).al.fl[m.length]?=some (s.heap.objs.size+1):=by
       show (al.al.fl++[s.heap.objs.size+1])[m.length]?=_
       rw[←rl.len,List.getElem?_append_right (Nat.le_refl _),Nat.sub_self] <;> rfl
      obtain⟨H3,e5,r5,q5⟩:=e2.freeze (le.trans l1) rl.pos (zw9 l1 hk) (by rw[rl.len];exact Nat.le_refl _) hc
      rw[rl.len] at r5
      exact p2 H3 (al.up _) Hb (e1.trans e5) (le.trans l1).up r5 _ q5
     ·exact p2.elim
    ·exact p2.elim
 refine wpAny_call (make_map (f:=f) I.kIn M.makes M.init (beq_iff_eq.mp M.fn) (codeAny_mono (Fo _ X.stack _ _ (Value.ref (s.heap.objs.size+1)::us) kus (V.ref (s.heap.objs.size+1)::vs) kvs _ _ (hr.make _ us (ks.zip kus)) (I2.env0.make _ us (ks.zip kus)) r2 rk (rk.length.symm.trans hkl) hq) fun r s' hq'=>?_))
 cases r with
 |error e=>exact L2N.passAt tk σ pins _ _ e s' I2 hq'
 |ok fl=>
  cases fl with
  |ret u=>
   obtain⟨v,H',I3,rv,ev,q3⟩:=I2.after hq'
   subst ev
   exact⟨rv,⟨V.ref (s.heap.objs.size+1),H',I3,rfl,q3⟩⟩
  |next=>exact False.elim hq'
  |brk=>exact False.elim hq'
  |cont=>exact False.elim hq'
theorem zwjb {C:Str} {nk:Nat} {F:DF} {fo:DE} {g gk:DA} {σ : L2.St} {H:Hp} {Q:VK} (h:tD X.K Wx (eMkK C nk F fo g gk) σ H Q) :
  tD X.K Wx fo σ H fun v H'=>v = .ref (He.ga X.K C)∧tA X.K Wx g σ H' fun vs H2=>tA X.K Wx gk σ H2 fun zs H3=>zs.length=nk∧∃H1 al m ws,Rel X.K H1 H3 al m∧RpWs X.K H1 al (vs++zs) ws∧Post X.K H1 al σ Wx (GV X.K Q) (makeW C F ws m):=by
 obtain⟨H1,al,dl,mm,r,en,p⟩:=h
 refine⟨H1,al,dl,mm,r,en,p.bind fun x m1 H1' al' H' e pr r' p' v hv=>?_⟩
 split at p'
 ·rename_i C'
  split at p'
  ·rename_i e0
   subst e0
   cases (show Rp X.K H1' v (.cls C') from hv)
   refine⟨rfl,H1',al',dl,m1,r',en.mono e pr,p'.bind fun ws m2 H2 al2 H2' e2 pr2 r2 p2 vs hvs=>?_⟩
   refine⟨H2,al2,dl,m2,r2,(en.mono e pr).mono e2 pr2,p2.bind fun zs m3 H3 al3 H3' e3 pr3 r3 p3 zv hzs=>?_⟩
   split at p3
   ·rename_i hz
    exact⟨by rw[hzs.length];exact hz,H3,al3,m3,_,r3,(RpWs.mono' e3 pr3 hvs).append hzs,p3⟩
   ·exact p3.elim
  ·exact p'.elim
 ·exact p'.elim
theorem zlz {fe e:Expr} {es:List Expr} {kws:List Keyword} {C:Str} {pos:Pos} {k:Nat} {f:Addr} {ks:List Str} {F:DF} {ff:DE} {g gk:DA} (tk:L2N.Takes X Wx) (M:Mk X.K (He.ga X.K C) f) (Fo:FnK X.prog X.w X.K X.mg X.base k f ks F) (hr:RoomG (k+1) X.A) (hf:PE X fe (tD X.K Wx ff)) (ha:PA X (e::es) (tA X.K Wx g)) (hkw:PK X kws (tA X.K Wx gk))
  (ht:eval (.Call fe (e::es) kws pos) X.env=(do callWith pos (←eval fe X.env) [] (backTo pos (starEach (e::es) X.env)) (backToKw pos (keywordEach kws X.env))):=by rfl)
  (hall:(backToKw pos (keywordEach kws X.env)).all (·.1.isSome)=true:=by rfl) (hks:(backToKw pos (keywordEach kws X.env)).filterMap (·.1)=ks:=by rfl)
  (he:starEach (e::es) X.env=(false,eval e X.env)::starEach es X.env:=by rfl) (hpl:((backTo pos (starEach (e::es) X.env)).any (·.1) ||(backToKw pos (keywordEach kws X.env)).any (·.1.isNone))=false:=by rfl):PE X (.Call fe (e::es) kws pos) (tD X.K Wx (eMkK C ks.length F ff g gk)):=by
 refine⟨fun pins s σ H Q I h=>?_⟩
 rw[ht]
 refine wpAny_bind (thn (hf.run pins s σ H _ I (zwjb h)) fun u s1 ⟨y,H1,I1,ry,ey,q⟩=>?_)
 subst ey
 obtain rfl:u=Value.ref (He.ga X.K C):=ry
 refine PySem.W.callWith_KW (first:=[]) (h₀:=X.base) I.ok.mod.kin M.kp hall (thn (ha.run pos pins s1 σ H1 _ I1 q) fun us s2 ⟨vs,H2,I2,rv,q2⟩=>?_) hpl he
 refine thn (hkw.run pos pins s2 σ H2 _ I2 q2) fun kus s3 ⟨kvs,H3,I3,rk,hl,Ha,al,m,ws,rl,hws,p⟩=>⟨I3.kIn,?_⟩
 rw[hks]
 exact zl9 tk M Fo hr I3 rv rk hl rl hws p
end
end DL
namespace DL
open PySem PySem.Spec L2
open PyProof.Rows hiding St
open Evl (Ex)
section
variable {X:Cx} {Wx:WX}
theorem de_fz {e:Expr} {fa:DE} (h:PE X e (tD X.K Wx fa)):PE X e (tD X.K Wx (eFz fa)):=peImp h fun σ H Q ⟨H1,al,dl,m,r,en,p⟩=>by
 refine⟨H1,al,dl,m,r,en,p.bind fun w m1 H1' al' H' e1 l1 r' p' v hv=>?_⟩
 cases w with
 |d x=>exact p'.ok_ r' v hv
 |ex _ _ _ _ _=>exact p'.elim
 |h _=>exact p'.ok_ r' v hv
 |c k=>
  obtain⟨a,ha,rfl⟩:=hv
  unfold fzW at p'
  simp only[] at p'
  split at p'
  ·rename_i x hc
   exact p'.ok_ r' _ (r'.cells k a _ ha hc).2
  ·exact p'.elim
  ·rename_i c hne hne2 hc
   have hl:c.live=true:=by
    cases c with
    |zd x=>exact absurd rfl (hne x)
    |lst _=>rfl
    |obj _ _ _=>rfl
    |dic _ _=>rfl
    |dn _ _=>rfl
    |dt _ _=>rfl
    |hp x=>exact absurd rfl (hne2 x)
   obtain⟨H3,e3,r3,q3⟩:=r'.kill ha hc hl
   exact p' H3 al' H' e3 (zkb _) r3 _ q3
  ·exact p'.elim
end
theorem zmhb {k:Nat} {m:Mem} {ds:List D} (h:m[k]?=some (.lst ds)):fzW (.c k) m = .ok (.d (.lst ds)) (m.set k (.zd (.lst ds))):=by
 unfold fzW
 simp only[h]
 rfl
end DL
namespace DL
open PySem PySem.Spec L2
open PyProof.Rows hiding St
open Evl (Ex)
theorem Rel.cellNew {K:Fg} {H1 H:Hp} {al:Gh} {m:Mem} {vs:List V} {ds:List D} {q:Addr} (r:Rel K H1 H al m) (h:RpL K H1 vs ds) (hq:H q=none) :
  Rel K H1 (upd H q (.lst vs)) (al.push q) (m++[Cell.lst ds])∧RpW K H1 (al.push q) (.ref q) (.c m.length):=by
 refine⟨r.cell hq ⟨vs,upd_same,h⟩,q,?_,rfl⟩
 show (al.al.fl++[q])[m.length]?=some q
 rw[←r.len,List.getElem?_append_right (Nat.le_refl _),Nat.sub_self] <;> rfl
end DL
namespace DL
open PySem PySem.Spec L2
open PyProof.Rows hiding St
open Evl (Ex)
section
variable {X:Cx} {Wx:WX}
theorem zet {a b:Expr} {fa fb:DE} {pos:Pos} (ha:PE X a (tD X.K Wx fa)) (hb:PE X b (tD X.K Wx fb)):PE X (.BinOp a .Add b pos) (tD X.K Wx (eAddC fa fb)):=by
 refine peImp (pe_op op_cat ha hb) fun σ H Q ⟨H1,al,dl,m,r,en,p⟩=>?_
 refine⟨H1,al,dl,m,r,en,p.bind fun x m1 H1' al' H' e pr r' p' v hv=>?_⟩
 refine⟨H1',al',dl,m1,r',en.mono e pr,p'.bind fun y m2 H2 al2 H2' e2 pr2 r2 p2 u hu=>?_⟩
 have hv2:=hv.mono e2 pr2
 unfold addCW at p2
 split at p2
 ·rename_i xs ys hx hy
  split at p2
  ·rename_i hz
   obtain⟨a,vs,rfl,h1,h2⟩:=(hv2.rh r2 hx).lst r2.ex
   obtain⟨b,us,rfl,h3,h4⟩:=(hu.rh r2 hy).lst r2.ex
   refine⟨_,_,_,_,rfl,rfl,h1,h3,by rw[h2.length,h4.length];exact hz,fun q hq=>?_⟩
   obtain⟨z1,z2⟩:=r2.cellNew (h2.append h4) hq
   exact p2 _ (al2.push q) _ (Ex.refl _) (Le.push _ _) z1 _ z2
  ·exact p2.elim
 ·exact p2.elim
end
end DL
namespace DL
open PySem PySem.Spec L2
open PyProof.Rows hiding St
open Evl (Ex)
theorem hw_ok {K:Fg} {H1:Hp} {al:Gh} {v:V}:∀{w:W} {h:HW},RpW K H1 al v w→w.hw=some h→RpH K H1 al.al.ha v h
 |.d _,_,r,e=>by cases e;exact r
 |.h _,_,r,e=>by cases e;exact r
 |.c _,_,_,e=>by cases e
 |.ex _ _ _ _ _,_,_,e=>by cases e
theorem ze0 {K:Fg} {H1:Hp} {al:Gh}:∀{vs:List V} {ws:List W} {hs:List HW},RpWs K H1 al vs ws→hwAll ws=some hs→RpHs K H1 al.al.ha vs hs
 |_,_,_,.nil,e=>by cases e;exact .nil
 |_,_,hs,.cons (w:=w) (ws:=ws) h t,e=>by
  unfold hwAll at e
  cases h1:w.hw with
  |none=>rw[h1] at e;cases e
  |some x=>
   rw[h1] at e
   cases h2:hwAll ws with
   |none=>rw[h2] at e;cases e
   |some xs=>
    rw[h2] at e
    cases e
    exact .cons (hw_ok h h1) (ze0 t h2)
section
variable {X:Cx} {Wx:WX}
theorem zvab {al:Gh} {m:Mem} {q:Addr} (h:al.al.ha.length=(heapOf m).length):(al.hpush q).al.ha[(heapOf m).length]?=some q:=by
 show (al.al.ha++[q])[(heapOf m).length]?=some q
 rw[←h,List.getElem?_append_right (Nat.le_refl _),Nat.sub_self] <;> rfl
theorem z74 {es:List Expr} {pos:Pos} {f:DA} (h:PA X es (tA X.K Wx f)):PE X (.List es pos) (tD X.K Wx (eLstH f)):=
 peImp (pe_lst h) fun σ H Q hq=>zsk (R:=fun vs H Q=>vs.length≤sizeLine∧∀p,H p=none→Q (.ref p) (upd H p (.lst vs))) hq fun H1 H al m xs vs r hvs p=>by
  unfold zyv at p
  split at p
  ·rename_i ys hy
   have h2:=ze0 hvs hy
   split at p
   ·rename_i hl
    refine⟨by rw[h2.length];exact hl,fun q hq=>?_⟩
    exact p H1 (al.hpush q) _ (Ex.refl _) (Le.hpush _ _) (r.hnew hq ⟨vs,upd_same,h2.mono (Ex.refl _) ⟨[q],rfl⟩⟩) _ ⟨q,zvab r.hlen,rfl⟩
   ·exact p.elim
  ·exact p.elim
theorem zqbb {K:Fg} {H1:Hp} {ha:List Addr}:∀{vs:List V} {ws:List HW} {ds:List D},RpHs K H1 ha vs ws→datH ws=some ds→RpL K H1 vs ds
 |_,_,_,.nil,e=>by cases e;exact .nil
 |_,_,_,.cons (w:=.h i) _ _,e=>by cases e
 |_,_,ds,.cons (w:=.d x) (ws:=ws) h t,e=>by
  unfold datH at e
  cases h2:datH ws with
  |none=>rw[h2] at e;cases e
  |some xs=>
   rw[h2] at e
   cases e
   exact .cons h (zqbb t h2)
theorem z1y {K:Fg} {H1 H:Hp} {al:Gh} {m:Mem} (r:Rel K H1 H al m) {v:V} {w:W} {l:Loc} {ws:List HW} (hv:RpW K H1 al v w) (hl:w.loc=some l) (hg:l.get m=some ws) :
  ∃a vs,v = .ref a∧H a=some (.lst vs)∧RpHs K H1 al.al.ha vs ws∧∀vs' ws' m',RpHs K H1 al.al.ha vs' ws'→l.put ws' m=some m'→Rel K H1 (upd H a (.lst vs')) al m':=by
 cases w with
 |d _=>cases hl
 |ex _ _ _ _ _=>cases hl
 |c k=>
  cases hl
  obtain⟨a,ha,rfl⟩:=hv
  unfold Loc.get at hg
  dsimp only at hg
  split at hg
  ·rename_i ds hds
   cases hg
   obtain⟨vs,h5,h6⟩:=r.cells k a _ ha hds
   refine⟨a,vs,rfl,h5,RpHs.ofD h6,fun vs' ws' m' h7 h8=>?_⟩
   unfold Loc.put at h8
   dsimp only at h8
   split at h8
   ·rename_i es hes
    cases h8
    exact r.put (c:=.lst es) ha hds rfl ⟨_,upd_same,zqbb h7 hes⟩
   ·cases h8
  ·cases hg
 |h i=>
  cases hl
  obtain⟨a,ha,rfl⟩:=hv
  unfold Loc.get at hg
  dsimp only at hg
  split at hg
  ·rename_i us hus
   cases hg
   obtain⟨vs,h5,h6⟩:=r.hcells i a _ ha hus
   refine⟨a,vs,rfl,h5,h6,fun vs' ws' m' h7 h8=>?_⟩
   cases h8
   exact r.hput ha ⟨_,upd_same,h7⟩
  ·cases hg
theorem zxcb {K:Fg} {H1 H:Hp} {al:Gh} {m m':Mem} (r:Rel K H1 H al m) {y o i:W} {yv ov iv:V} (hy:RpW K H1 al yv y) (ho:RpW K H1 al ov o) (hi:RpW K H1 al iv i) (h:setLW y o i m=some m') :
  ∃a vs j n,ov = .ref a∧iv = .int j∧H a=some (.lst vs)∧ixN vs.length j=some n∧Rel K H1 (upd H a (.lst (vs.set n yv))) al m':=by
 unfold setLW at h
 split at h
 ·rename_i l hw j hl hh
  split at h
  ·rename_i ws hws
   split at h
   ·rename_i n hn
    obtain⟨a,vs,rfl,h1,h2,h3⟩:=z1y r ho hl hws
    cases (show Rp K H1 iv (.int j) from hi)
    exact⟨a,vs,j,n,rfl,rfl,h1,by rw[h2.length];exact hn,h3 _ _ _ (h2.set (hw_ok hy hh) n) h⟩
   ·cases h
  ·cases h
 ·cases h
theorem zvq {o i e:Expr} {pos1 pos:Pos} {fo fi fe:DE} (he:PE X e (tD X.K Wx fe)) (ho:PE X o (tD X.K Wx fo)) (hi:PE X i (tD X.K Wx fi))
  (ha:∀v,assign (.Subscript o i pos1) X.env v=(do
    let ov ←holding [v] (eval o X.env)
    let iv ←holding [v,ov] (eval i X.env)
    standAt pos1
    holding [v,ov,iv] (setItem ov iv v)
    release [v,ov,iv] []):=by intro _;rfl)
  (hs:swapsWithSole [.Subscript o i pos1] e pos.line X.env=pure false:=by rfl) (hw:swappedStores [.Subscript o i pos1] e X.env=pure none:=by rfl)
  (h1:(assignEach [.Subscript o i pos1] X.env).map (·.2)=[assign (.Subscript o i pos1) X.env]:=by rfl):PS X (.Assign [.Subscript o i pos1] e pos) (tS X.K Wx (sSetL fe fo fi)):=
 psImp (ps_asg he (pg_sub ho hi set_list ha) hs hw h1) fun En σ H ⟨H1,al,dl,m,r,en,p⟩=>by
  refine⟨H1,al,dl,m,r,en,p.of en fun y m1 H1' al' H' e1 l1 r1 p1 v hv=>?_⟩
  have en1:=en.mono e1 l1
  refine⟨H1',al',dl,m1,r1,en1,p1.of en1 fun o m2 H2 al2 H2' e2 l2 r2 p2 ov hov=>?_⟩
  have en2:=en1.mono e2 l2
  refine⟨H2,al2,dl,m2,r2,en2,p2.of en2 fun i m3 H3 al3 H3' e3 l3 r3 p3 iv hiv=>?_⟩
  have en3:=en2.mono e3 l3
  have hv3:=(hv.mono e2 l2).mono e3 l3
  have ho3:=hov.mono e3 l3
  cases hs:setLW y o i m3 with
  |none=>rw[hs] at p3;exact p3.elim
  |some m4=>
   rw[hs] at p3
   obtain⟨a,vs,j,n,rfl,rfl,h5,h6,h7⟩:=zxcb r3 hv3 ho3 hiv hs
   exact⟨a,vs,j,n,rfl,rfl,h5,h6,p3.nx_ h7 en3⟩
theorem z5hb {o e:Expr} {es:List Expr} {apos cpos:Pos} {fo:DE} {f:DA} (ho:PE X o (tD X.K Wx fo)) (ha:PA X (e::es) (tA X.K Wx f))
  (hbase:attributeBase o "append" X.env (eval o X.env)=eval o X.env:=by rfl)
  (hfew:((backTo cpos (starEach (e::es) X.env)).all (fun x => !x.1)&&(backToKw cpos (keywordEach [] X.env)).all (fun x=>x.1.isSome)
    && decide ((e::es).length+([]:List Keyword).length+(if ([]:List Keyword).isEmpty then 0 else 1)<30))=true:=by rfl)
  (hline:(apos.endLine==cpos.line)=true:=by rfl) (hs:starEach (e::es) X.env=(false,eval e X.env)::starEach es X.env:=by rfl) (hplain:(backTo cpos (starEach es X.env)).any (·.1)=false:=by rfl) :
  PE X (.Call (.Attribute o "append" apos) (e::es) [] cpos) (tD X.K Wx (eAppL fo f)):=by
 refine peImp (pe_bm PySem.F.plainAttrs_list PySem.F.slot_list_append PySem.F.type_list_append mt_append ho ha hbase hfew hline hs hplain) fun σ H Q ⟨H1,al,dl,m,rl,en,p⟩=>?_
 refine⟨H1,al,dl,m,rl,en,p.bind fun x m1 H1' al' H' e pr r' p' v hv=>?_⟩
 split at p'
 ·rename_i ht
  refine⟨zry r' hv ht,H1',al',dl,m1,r',en.mono e pr,p'.bind fun ws m2 H2 al2 H2' e2 pr2 r2 p2 vs hvs=>?_⟩
  have hv2:=hv.mono e2 pr2
  unfold appLW at p2
  split at p2
  ·rename_i l h hl hh
   split at p2
   ·rename_i us hus
    split at p2
    ·rename_i hz
     split at p2
     ·rename_i m' hm'
      obtain⟨a,zs,rfl,h1,h2,h3⟩:=z1y r2 hv2 hl hus
      have h4:=ze0 hvs hh
      cases h4 with
      | @cons y ys _ _ hy hys=>
        cases hys
        exact⟨a,zs,y,rfl,rfl,h1,by rw[h2.length];exact hz,p2 H2 al2 _ (Ex.refl _) (zkb _) (h3 _ _ _ (h2.append (.cons hy .nil)) hm') _ .non⟩
     ·exact p2.elim
    ·exact p2.elim
   ·exact p2.elim
  ·exact p2.elim
 ·exact p'.elim
theorem z3hb {o:Expr} {apos cpos:Pos} {fo:DE} (ho:PE X o (tD X.K Wx fo)) (hbase:attributeBase o "pop" X.env (eval o X.env)=eval o X.env:=by rfl) (hline:(apos.endLine==cpos.line)=true:=by rfl):PE X (.Call (.Attribute o "pop" apos) [] [] cpos) (tD X.K Wx (ePopL fo)):=by
 refine peImp (pe_bm0 PySem.F.plainAttrs_list PySem.F.slot_list_pop PySem.F.type_list_pop mt_pop ho hbase hline) fun σ H Q ⟨H1,al,dl,m,rl,en,p⟩=>?_
 refine⟨H1,al,dl,m,rl,en,p.bind fun x m1 H1' al' H' e pr r' p' v hv=>?_⟩
 split at p'
 ·rename_i ht
  refine⟨zry r' hv ht,?_⟩
  unfold popLW at p'
  split at p'
  ·rename_i l hl
   split at p'
   ·rename_i us hus
    split at p'
    ·rename_i h hh
     split at p'
     ·rename_i m' hm'
      obtain⟨a,zs,rfl,h1,h2,h3⟩:=z1y r' hv hl hus
      obtain⟨u,h7,h8⟩:=h2.get hh
      exact⟨a,zs,u,rfl,rfl,h1,by rw[h2.length];exact h7,p' H1' al' _ (Ex.refl _) (zkb _) (h3 _ _ _ h2.dropLast hm') _ h8.w⟩
     ·exact p'.elim
    ·exact p'.elim
   ·exact p'.elim
  ·exact p'.elim
 ·exact p'.elim
theorem zheb {o e:Expr} {es:List Expr} {apos cpos:Pos} {fo:DE} {f:DA} (ho:PE X o (tD X.K Wx fo)) (ha:PA X (e::es) (tA X.K Wx f))
  (hbase:attributeBase o "pop" X.env (eval o X.env)=eval o X.env:=by rfl)
  (hfew:((backTo cpos (starEach (e::es) X.env)).all (fun x => !x.1)&&(backToKw cpos (keywordEach [] X.env)).all (fun x=>x.1.isSome)
    && decide ((e::es).length+([]:List Keyword).length+(if ([]:List Keyword).isEmpty then 0 else 1)<30))=true:=by rfl)
  (hline:(apos.endLine==cpos.line)=true:=by rfl) (hs:starEach (e::es) X.env=(false,eval e X.env)::starEach es X.env:=by rfl) (hplain:(backTo cpos (starEach es X.env)).any (·.1)=false:=by rfl) :
  PE X (.Call (.Attribute o "pop" apos) (e::es) [] cpos) (tD X.K Wx (zhbb fo f)):=by
 refine peImp (pe_bm PySem.F.plainAttrs_list PySem.F.slot_list_pop PySem.F.type_list_pop mt_popAt ho ha hbase hfew hline hs hplain) fun σ H Q ⟨H1,al,dl,m,rl,en,p⟩=>?_
 refine⟨H1,al,dl,m,rl,en,p.bind fun x m1 H1' al' H' e pr r' p' v hv=>?_⟩
 split at p'
 ·rename_i ht
  refine⟨zry r' hv ht,H1',al',dl,m1,r',en.mono e pr,p'.bind fun ws m2 H2 al2 H2' e2 pr2 r2 p2 vs hvs=>?_⟩
  have hv2:=hv.mono e2 pr2
  unfold z45 at p2
  split at p2
  ·rename_i l i hl
   split at p2
   ·rename_i us hus
    split at p2
    ·rename_i hi
     split at p2
     ·rename_i k hk
      split at p2
      ·rename_i h hh
       split at p2
       ·rename_i m' hm'
        obtain⟨a,zs,rfl,h1,h2,h3⟩:=z1y r2 hv2 hl hus
        obtain⟨u,h7,h8⟩:=h2.get hh
        cases hvs with
        | @cons y ys _ _ hy hys=>
          cases hys
          cases (show Rp X.K H2 y (.int i) from hy)
          exact⟨a,zs,i,k,u,rfl,rfl,h1,hi.1,hi.2,by rw[h2.length];exact hk,h7,p2 H2 al2 _ (Ex.refl _) (zkb _) (h3 _ _ _ (h2.eraseIdx k) hm') _ h8.w⟩
       ·exact p2.elim
      ·exact p2.elim
     ·exact p2.elim
    ·exact p2.elim
   ·exact p2.elim
  ·exact p2.elim
 ·exact p'.elim
end
end DL
namespace DL
open PySem PySem.Spec L2
open PyProof.Rows hiding St
open Evl (Ex)
section
variable {X:Cx} {Wx:WX}
theorem zeib {K:Fg} {H:Hp} {ha:List Addr} {vs:List V} {ds:List HW} (h:RpHs K H ha vs ds) {i:Int} {d:HW} (e:atI ds i=some d):∃v,atI vs i=some v∧RpH K H ha v d:=by
 unfold atI at e ⊢
 rw[h.length]
 cases hi:ixN ds.length i with
 |none=>rw[hi] at e;cases e
 |some j=>
  rw[hi] at e
  obtain⟨v,h1,h2⟩:=h.get (show ds[j]?=some d from e)
  exact⟨v,h1,h2⟩
theorem zgcb {K:Fg} {H1 H:Hp} {al:Gh} {m:Mem} {σ : L2.St} {Q:VK} {ws:List HW} {vs:List V} {y:W} {yv:V} (r:Rel K H1 H al m) (h:RpHs K H1 al.al.ha vs ws) (hy:RpW K H1 al yv y) (p:Post K H1 al σ Wx (GV K Q) (atHW ws y m)):∃k u,yv = .int k∧atI vs k=some u∧Q u H:=by
 unfold atHW at p
 split at p
 ·rename_i k
  split at p
  ·rename_i w hw
   cases (show Rp K H1 yv (.int k) from hy)
   obtain⟨u,h1,h2⟩:=zeib h hw
   exact⟨k,u,rfl,h1,p.ok_ r u h2.w⟩
  ·exact p.elim
 ·exact p.elim
theorem znbb {a b:Expr} {pos:Pos} {k:Nat} {t:Tbl} {fa fb:DE} (tk:L2N.Takes X Wx) (ht:∀q∈t,OwnM X.prog X.w X.K X.mg X.base k "__getitem__" q.1 q.2) (hr:RoomG (k+1) X.A) (ha:PE X a (tD X.K Wx fa)) (hb:PE X b (tD X.K Wx fb)) (hs:PlainIx b)
  (hsl:∀x i,subscripted b true (.ref x) i=runValue (.builtin "lifetime.subscript" ⟨[.ref x,i],[]⟩)):PE X (.Subscript a b pos) (tD X.K Wx (eIxH t fa fb)):=by
 refine⟨fun pins s σ H Q I h=>?_⟩
 have h2:tD X.K Wx fa σ H fun v H'=>tD X.K Wx fb σ H' fun w H2=>∃H1 al m x y,Rel X.K H1 H2 al m∧RpW X.K H1 al v x∧RpW X.K H1 al w y∧Post X.K H1 al σ Wx (GV X.K Q) (ixHW t x y m):=
  zm1 (R:=fun v w H2 Q=>∃H1 al m x y,Rel X.K H1 H2 al m∧RpW X.K H1 al v x∧RpW X.K H1 al w y∧Post X.K H1 al σ Wx (GV X.K Q) (ixHW t x y m)) h fun H1 H al m x y v w r hx hy p=>⟨H1,al,m,x,y,r,hx,hy,p⟩
 refine Subscript_ (binT ha hb I h2 fun v u s2 xv yv H2 I2 rx ry q=>?_)
 obtain⟨H1,al,m,x,y,r,hx,hy,p⟩:=q
 have own:∀C F,clsOf x m=some C→look t C=some F→Post X.K H1 al σ Wx (GV X.K Q) (F [x,y] m)→wpAny (model X.prog X.w) X.A (subscriptTail a b v u) (EP X pins σ Q) X.xe s2:=by
  intro C F hc hl p
  obtain⟨aa,dx,fs,ns,ds,rfl,h1,h3,h4,h5⟩:=zpm r hx hc
  obtain⟨fa,q1,q2,q3,q4,Fo⟩:=(ht _ (zdm hl)).ex
  obtain⟨ox,od,J⟩:=zat I2 h1
  obtain rfl:v=Value.ref aa:=rx
  obtain⟨mF,Fr1⟩:=I2.fr
  exact PySem.W.sub_K Fr1 I2.ok.mod.kin J q1 q3 q2 (zxy (vs:=[.ref aa,yv]) tk Fo hr.in1 I2 I2.env0.in1 (.cons rfl (.cons ry .nil)) (zvp r (.cons hx (.cons hy .nil)) p)) (hsl _ _)
 have old:∀x,RpW X.K H1 al xv x→Post X.K H1 al σ Wx (GV X.K Q) (ixW t x y m)→clsOf x m=none→wpAny (model X.prog X.w) X.A (subscriptTail a b v u) (EP X pins σ Q) X.xe s2:=by
  intro x hx p hc
  unfold ixW at p
  rw[hc] at p
  dsimp only at p
  have z:=z5e (r:=fun v w H Q=>rIxS v w H Q∨rIxL X.K v w H Q∨rIxT X.K v w H Q) r hx hy (fun H1 H al m v w x y z Q r hx hy hz k=>zi6 r hx hy hz k) p
  exact (ix_str.or (ix_list.or ix_tup)) a b pins s2 σ H2 xv yv v u Q I2 rx ry z (hs _ _)
 have any:∀x',x=x'→Post X.K H1 al σ Wx (GV X.K Q) (ixW t x' y m)→wpAny (model X.prog X.w) X.A (subscriptTail a b v u) (EP X pins σ Q) X.xe s2:=by
  rintro _ rfl p
  cases hc:clsOf x m with
  |none=>exact old x hx p hc
  |some C=>
   unfold ixW at p
   rw[hc] at p
   dsimp only at p
   cases hl:look t C with
   |none=>rw[hl] at p;exact p.elim
   |some F=>
    rw[hl] at p
    exact own C F hc hl p
 cases x with
 |d _=>exact any _ rfl p
 |c _=>exact any _ rfl p
 |ex _ _ _ _ _=>exact any _ rfl p
 |h i=>
  obtain⟨aa,haa,rfl⟩:=hx
  obtain⟨c,hc,hat⟩:=r.hat haa
  have p':Post X.K H1 al σ Wx (GV X.K Q) (match (heapOf m)[i]? with
   |some (.lst ws)=>atHW ws y m
   |some (.tup ws)=>atHW ws y m
   |some (.obj C _ _)=>(match look t C with
    |some F=>F [.h i,y] m
    |none=>.no)
   |_=>.no):=p
  rw[hc] at p'
  cases c with
  |lst ws=>
   obtain⟨vs,g1,g2⟩:=hat
   obtain⟨k,z,rfl,g3,g4⟩:=zgcb r g2 hy p'
   exact ix_list a b pins s2 σ H2 _ _ v u Q I2 rx ry ⟨_,_,_,z,rfl,rfl,SqL.of g1,g3,g4⟩ (hs _ _)
  |tup ws=>
   obtain⟨vs,g1,g2⟩:=hat
   obtain⟨k,z,rfl,g3,g4⟩:=zgcb r g2 hy p'
   exact ix_tup a b pins s2 σ H2 _ _ v u Q I2 rx ry ⟨_,_,_,z,rfl,rfl,SqT.of g1,g3,g4⟩ (hs _ _)
  |dic _ _=>exact p'.elim
  |obj C ns ws=>
   dsimp only at p'
   cases hl:look t C with
   |none=>rw[hl] at p';exact p'.elim
   |some F=>
    rw[hl] at p'
    refine own C F ?_ hl p'
    show (match ((heapOf m)[i]?).map HC.toD with
     |some (D.obj C ns ds)=>some C
     |_=>none)=some C
    rw[hc]
    rfl
end
end DL
namespace DL
open PySem PySem.Spec L2
open PyProof.Rows hiding St
open Evl (Ex)
def flatD:D→Option V
 |.non=>some .non
 |.bl b=>some (.bl b)
 |.int i=>some (.int i)
 |.str s=>some (.str s)
 |_=>none
def z0k:List D→Option (List V)
 |[]=>some []
 |d::ds=>(match flatD d with
  |some v=>(match z0k ds with
   |some vs=>some (v::vs)
   |none=>none)
  |none=>none)
def inTD (x y:D):Option D:=match flatD x with
 |some v=>(match seqD y with
  |some ds=>(match z0k ds with
   |some vs=>some (.bl (inV v vs))
   |none=>none)
  |none=>none)
 |none=>none
def ninTD (x y:D):Option D:=match flatD x with
 |some v=>(match seqD y with
  |some ds=>(match z0k ds with
   |some vs=>some (.bl (!inV v vs))
   |none=>none)
  |none=>none)
 |none=>none
theorem z7ab {K:Fg} {H1 H:Hp} {v u:V} {x:D} (h:Rh K H1 H v x) (e:flatD x=some u):v=u∧flatV u=true:=by
 cases x <;> first |(cases e;done) |skip
 ·cases h.non;cases e;exact⟨rfl,rfl⟩
 ·cases h.bl;cases e;exact⟨rfl,rfl⟩
 ·cases h.int;cases e;exact⟨rfl,rfl⟩
 ·cases h.str;cases e;exact⟨rfl,rfl⟩
theorem zdz {K:Fg} {H1:Hp}:∀{vs us:List V} {ds:List D},RpL K H1 vs ds→z0k ds=some us→vs=us∧us.all flatV=true
 |_,_,_,.nil,e=>by cases e;exact⟨rfl,rfl⟩
 |_,us,_,.cons (d:=d) (ds:=ds) h t,e=>by
  unfold z0k at e
  cases h1:flatD d with
  |none=>rw[h1] at e;cases e
  |some v=>
   rw[h1] at e
   cases h2:z0k ds with
   |none=>rw[h2] at e;cases e
   |some vs=>
    rw[h2] at e
    cases e
    obtain⟨rfl,f1⟩:=z7ab (Rh.p (H:=H1) h) h1
    obtain⟨rfl,f2⟩:=zdz t h2
    exact⟨rfl,by rw[List.all_cons,f1,f2];rfl⟩
section
variable {X:Cx} {Wx:WX}
theorem zuab {K:Fg} {H1 H:Hp} {al:Gh} {m:Mem} {v w:V} {x y z:D} {Q:VK} {neg:Bool} (r:Rel K H1 H al m) (hx:Rh K H1 H v x) (hy:Rh K H1 H w y) (hz:(if neg=true then ninTD x y else inTD x y)=some z) (k:∀H1' H' u,Ex H1 H1'→Rel K H1' H' al m→Rp K H1' u z→Q u H'):rIn K neg v w H Q:=by
 have hz':∃u ds us,flatD x=some u∧seqD y=some ds∧z0k ds=some us∧z = .bl (if neg=true then !inV u us else inV u us):=by
  cases h1:flatD x with
  |none=>cases neg <;> (unfold inTD ninTD at hz;rw[h1] at hz;cases hz)
  |some u=>
   cases h2:seqD y with
   |none=>cases neg <;> (unfold inTD ninTD at hz;rw[h1,h2] at hz;cases hz)
   |some ds=>
    cases h3:z0k ds with
    |none=>cases neg <;> (unfold inTD ninTD at hz;rw[h1,h2] at hz;dsimp only at hz;rw[h3] at hz;cases hz)
    |some us=>
     refine⟨u,ds,us,rfl,rfl,h3,?_⟩
     cases neg <;> (unfold inTD ninTD at hz;rw[h1,h2] at hz;dsimp only at hz;rw[h3] at hz;cases hz;rfl)
 obtain⟨u,ds,us,h1,h2,h3,rfl⟩:=hz'
 obtain⟨rfl,f1⟩:=z7ab hx h1
 obtain⟨a,vs,rfl,h4,h5⟩:=hy.seq r.ex h2
 obtain⟨rfl,f2⟩:=zdz h5 h3
 exact⟨a,vs,rfl,h4,f1,f2,k H1 H _ (Ex.refl _) r (.bl _)⟩
theorem zzu:OpOk X (compareOp .In) inTD:=⟨_,op_in_seq,fun H1 H al m v w x y z Q r hx hy hz k=>zuab (neg:=false) r hx hy hz k⟩
theorem z56 (x y z:D) (h:inTD x y=some z):∃k,z = .bl k:=by
 unfold inTD at h
 split at h
 ·split at h
  ·split at h
   ·cases h;exact⟨_,rfl⟩
   ·cases h
  ·cases h
 ·cases h
def sumD:List D→Option D
 |[x]=>(match lstD x with
  |some ds=>(match zts ds with
   |some ns=>some (.int ns.sum)
   |none=>none)
  |none=>none)
 |_=>none
theorem zjt (hc:X.calm=true):zgn X (.builtin "sum") sumD:=by
 refine⟨_,cr_sum hc,fun H1 H al m vs xs z Q r hx hz k=>?_⟩
 unfold sumD at hz
 split at hz
 ·obtain⟨v,rfl,h⟩:=rh1 hx
  split at hz
  ·rename_i ds hds
   obtain⟨a,us,rfl,h1,h2⟩:=h.sql r.ex hds
   split at hz
   ·rename_i ns hns
    cases hz
    rw[zss hns] at h2
    have e:=h2.of_ints
    subst e
    exact⟨a,ns,rfl,h1,k H1 H _ (Ex.refl _) r (.int _)⟩
   ·cases hz
  ·cases hz
 ·cases hz
theorem zgab:∀a b:List Nat,ltCps a b=false→ltCps b a=false→a=b
 |[],[],_,_=>rfl
 |[],_::_,h,_=>by simp[ltCps] at h
 |_::_,[],_,h=>by simp[ltCps] at h
 |a::r,b::t,h1,h2=>by
  simp[ltCps] at h1 h2
  have e:a=b:=Nat.le_antisymm h2.1 h1.1
  subst e
  rw[zgab r t (h1.2 rfl) (h2.2 rfl)]
theorem lt_tr:∀a b c:List Nat,ltCps b a=false→ltCps c b=false→ltCps c a=false:=by
 intro a
 induction a with
 |nil=>
  intro b c _ _
  cases c <;> rfl
 |cons a r ih=>
  intro b c h1 h2
  cases b with
  |nil=>simp[ltCps] at h1
  |cons b t=>
   cases c with
   |nil=>simp[ltCps] at h2
   |cons c u=>
    simp[ltCps] at h1 h2 ⊢
    refine⟨by omega,fun e=>?_⟩
    subst e
    have e2:c=b:=by omega
    subst e2
    exact ih t u (h1.2 rfl) (h2.2 rfl)
def leS (a b:Str):Bool := !ltCps b.cps.toList a.cps.toList
theorem zmab (a b:Str):leS a b=true∨leS b a=true:=by
 unfold leS
 cases h1:ltCps b.cps.toList a.cps.toList with
 |false=>exact .inl rfl
 |true=>
  cases h2:ltCps a.cps.toList b.cps.toList with
  |false=>exact .inr rfl
  |true=>
   exfalso
   have key:∀x y:List Nat,ltCps x y=true→ltCps y x=true→False:=by
    intro x
    induction x with
    |nil=>intro y h1 h2;cases y <;> simp[ltCps] at h1 h2
    |cons a r ih=>
     intro y h1 h2
     cases y with
     |nil=>simp[ltCps] at h1
     |cons b t=>
      simp[ltCps] at h1 h2
      rcases h1 with h1 |⟨h1,h3⟩
      ·rcases h2 with h2 |⟨h2,_⟩ <;> omega
      ·rcases h2 with h2 |⟨_,h4⟩
       ·omega
       ·exact ih t h3 h4
   exact key _ _ h1 h2
theorem z41 {a b c:Str} (h1:leS a b=true) (h2:leS b c=true):leS a c=true:=by
 unfold leS at *
 simp only[Bool.not_eq_true'] at *
 exact lt_tr _ _ _ h1 h2
theorem zsdb {a b:Str} (h1:leS a b=true) (h2:leS b a=true):a=b:=by
 unfold leS at *
 simp only[Bool.not_eq_true'] at *
 have e:=zgab _ _ h2 h1
 cases a with
 |mk x=>
  cases b with
  |mk y=>
   congr 1
   exact Array.toList_inj.mp e
def insS (x:Str):List Str→List Str
 |[]=>[x]
 |y::r=>if leS x y=true then x::y::r else y::insS x r
def sortS:List Str→List Str
 |[]=>[]
 |x::r=>insS x (sortS r)
theorem z7v (x:Str):∀l:List Str,(insS x l).Perm (x::l)
 |[]=>List.Perm.refl _
 |y::r=>by
  unfold insS
  split
  ·exact List.Perm.refl _
  ·exact ((z7v x r).cons y).trans (List.Perm.swap x y r)
theorem zql:∀l:List Str,(sortS l).Perm l
 |[]=>List.Perm.refl _
 |x::r=>(z7v x (sortS r)).trans ((zql r).cons x)
theorem zqv:∀(l:List Str) (p:Str),risingS p l=true→∀x∈l,leS p x=true
 |[],_,_,x,hx=>by cases hx
 |y::r,p,h,x,hx=>by
  unfold risingS at h
  rw[Bool.and_eq_true] at h
  have h1:leS p y=true:=h.1
  rcases List.mem_cons.mp hx with rfl |hx
  ·exact h1
  ·exact z41 h1 (zqv r y h.2 x hx)
theorem z7p {x:Str} {r:List Str} (h:sortedS (x::r)=true):(∀y∈r,leS x y=true)∧sortedS r=true:=by
 refine⟨zqv r x h,?_⟩
 cases r with
 |nil=>rfl
 |cons y r=>
  have h':risingS x (y::r)=true:=h
  unfold risingS at h'
  rw[Bool.and_eq_true] at h'
  exact h'.2
theorem zfv {x:Str} {r:List Str} (h1:∀y∈r,leS x y=true) (h2:sortedS r=true):sortedS (x::r)=true:=by
 cases r with
 |nil=>rfl
 |cons y r=>
  show risingS x (y::r)=true
  unfold risingS
  rw[Bool.and_eq_true]
  exact⟨h1 y List.mem_cons_self,h2⟩
theorem z6v (x:Str):∀l:List Str,sortedS l=true→sortedS (insS x l)=true
 |[],_=>rfl
 |y::r,h=>by
  obtain⟨h1,h2⟩:=z7p h
  unfold insS
  split
  ·rename_i hxy
   refine zfv (fun z hz=>?_) h
   rcases List.mem_cons.mp hz with rfl |hz
   ·exact hxy
   ·exact z41 hxy (h1 z hz)
  ·rename_i hxy
   have hyx:leS y x=true:=(zmab x y).resolve_left hxy
   refine zfv (fun z hz=>?_) (z6v x r h2)
   rcases List.mem_cons.mp ((z7v x r).mem_iff.mp hz) with rfl |hz
   ·exact hyx
   ·exact h1 z hz
theorem zvt:∀l:List Str,sortedS (sortS l)=true
 |[]=>rfl
 |x::r=>z6v x _ (zvt r)
theorem zev:∀{xs ys:List Str},xs.Perm ys→sortedS xs=true→sortedS ys=true→xs=ys
 |[],ys,p,_,_=>by rw[List.nil_perm.mp p]
 |x::xs,[],p,_,_=>by have:=p.length_eq;simp at this
 |x::xs,y::ys,p,h1,h2=>by
  obtain⟨a1,a2⟩:=z7p h1
  obtain⟨b1,b2⟩:=z7p h2
  have e:x=y:=by
   have hx:=p.mem_iff.mp (List.mem_cons_self (a:=x) (l:=xs))
   have hy:=p.mem_iff.mpr (List.mem_cons_self (a:=y) (l:=ys))
   rcases List.mem_cons.mp hx with rfl |hx
   ·rfl
   ·rcases List.mem_cons.mp hy with rfl |hy
    ·rfl
    ·exact zsdb (a1 y hy) (b1 x hx)
  subst e
  rw[zev (List.Perm.cons_inv p) a2 b2]
def zam:List D→Option D
 |[x]=>(match lstD x with
  |some ds=>(match z4l ds with
   |some ss=>if ss.length<64 then some (.lst ((sortS ss).map D.str)) else none
   |none=>none)
  |none=>none)
 |_=>none
theorem zqm:zgn X (.builtin "sorted") zam:=by
 refine⟨_,cr_sortedS,fun H1 H al m vs xs z Q r hx hz k=>?_⟩
 unfold zam at hz
 split at hz
 ·obtain⟨v,rfl,h⟩:=rh1 hx
  split at hz
  ·rename_i ds hds
   obtain⟨a,us,rfl,h1,h2⟩:=h.sql r.ex hds
   split at hz
   ·rename_i ss hss
    split at hz
    ·rename_i hl
     cases hz
     rw[zcx hss] at h2
     have e:=h2.of_strs
     subst e
     refine⟨a,ss,rfl,h1,hl,fun ys p pe so hp=>?_⟩
     have e:=zev (pe.trans (zql ss).symm) so (zvt ss)
     subst e
     obtain⟨q1,q2,q3⟩:=zcm (vs:=(sortS ss).map V.str) r (RpL.strs (sortS ss)) hp
     exact k _ _ _ q1 q2 q3
    ·cases hz
   ·cases hz
  ·cases hz
 ·cases hz
end
theorem zr3:∀{vs:List Value} {ss:List Str},zs3 vs=some ss→Vals (ss.map V.str) vs
 |[],_,h=>by cases h;exact .nil
 |v::vs,ss,h=>by
  unfold zs3 at h
  cases h1:strV v with
  |none=>rw[h1] at h;cases h
  |some s=>
   rw[h1] at h
   cases h2:zs3 vs with
   |none=>rw[h2] at h;cases h
   |some ss'=>
    rw[h2] at h
    cases h
    cases v <;> first |(cases h1;done) |skip
    cases h1
    exact .cons ⟨_,rfl⟩ (zr3 h2)
section
variable {K:Fg} {h:Heap} {mg:Str→Option Value}
theorem zv8 {x:Str} {ss:List Str} (c:fTupG x ss K=true) (H:Hp):SqT K H (He.ga K x) (ss.map V.str):=by
 unfold fTupG at c
 split at c
 ·rename_i cl dd its n sl hk
  rw[Bool.and_eq_true,Bool.and_eq_true] at c
  obtain⟨c1,c2,c3⟩:=c
  exact .inr ⟨_,its,n,hk,of_decide_eq_true c1,rfl,of_decide_eq_true c2,zr3 (of_decide_eq_true c3)⟩
 ·cases c
end
section
variable {X:Cx} {Wx:WX}
theorem zobb {x:Str} {ss:List Str} {pos:Pos} (hg:Gl X x) (hm:X.mg x=some (.ref (He.ga X.K x))) (ht:∀H,SqT X.K H (He.ga X.K x) (ss.map V.str)) (hd:(x==("__debug__" : Str))=false:=by decide):PE X (.Name x pos) (tD X.K Wx (eC (.tup (ss.map D.str)))):=
 de_c (pe_glob (v:=.ref (He.ga X.K x)) hg hm rfl hd) fun H1=>.tup (ht H1) (RpL.strs ss)
end
end DL
namespace DL
open PySem PySem.Spec L2
open PyProof.Rows hiding St
open Evl (Ex)
section
variable {X:Cx} {Wx:WX}
theorem zfhb:OpR X (inplaceOp .Add) (fun x y H Q=>∃a b,x = .str a∧y = .str b∧a.length+b.length≤sizeLine∧Q (.str (a++b)) H):=by
 intro pins s σ H x y v u Q I rx ry h
 obtain⟨a,b,rfl,rfl,hz,q⟩:=h
 obtain⟨t,rfl⟩:=rx
 obtain⟨t',rfl⟩:=ry
 exact SB.iadd (fun t' k=>⟨.str _,H,I.kept (t':=k) fun _ _ z=>z,⟨_,rfl⟩,q⟩) hz
def rAug:R2:=fun x y H Q=>ipI (fun i j=>i+j) x y H Q∨(∃a b,x = .str a∧y = .str b∧a.length+b.length≤sizeLine∧Q (.str (a++b)) H)∨rExt2 x y H Q
theorem zkfb:PIp X .Add rAug:=fun pins s σ H x y v u Q I rx ry h=>by
 rcases h with h |h |h
 ·exact ip_add pins s σ H x y v u Q I rx ry h
 ·exact zfhb pins s σ H x y v u Q I rx ry h
 ·exact iop_ext pins s σ H x y v u Q I rx ry h
theorem zq5 {K:Fg} {H1 H:Hp} {al:Gh} {m:Mem} {σ : L2.St} {Q:VK} {x y:W} {xv yv:V} (r:Rel K H1 H al m) (hx:RpW K H1 al xv x) (hy:RpW K H1 al yv y) (p:Post K H1 al σ Wx (GV K Q) (augW x y m)):rAug xv yv H Q:=by
 unfold augW at p
 cases hl:x.loc with
 |some l=>
  rw[hl] at p
  dsimp only at p
  split at p
  ·rename_i us hus
   split at p
   ·rename_i zs hzs
    split at p
    ·rename_i hz
     split at p
     ·rename_i m' hm'
      obtain⟨a,vs,rfl,h1,h2,h3⟩:=z1y r hx hl hus
      obtain⟨b,ws,rfl,h4,h5⟩:=(hy.rh r hzs).lst r.ex
      refine .inr (.inr ⟨a,b,vs,ws,rfl,rfl,h1,h4,by rw[h2.length,h5.length];exact hz,?_⟩)
      exact p H1 al _ (Ex.refl _) (zkb _) (h3 _ _ _ (h2.append (RpHs.ofD h5)) hm') _ hx
     ·exact p.elim
    ·exact p.elim
   ·exact p.elim
  ·exact p.elim
 |none=>
  rw[hl] at p
  dsimp only at p
  split at p
  ·rename_i i j
   cases (show Rp K H1 xv (.int i) from hx)
   cases (show Rp K H1 yv (.int j) from hy)
   exact .inl ⟨i,j,rfl,rfl,p.ok_ r _ (show Rp K H1 (V.int _) (D.int _) from .int _)⟩
  ·rename_i a b
   cases (show Rp K H1 xv (.str a) from hx)
   cases (show Rp K H1 yv (.str b) from hy)
   split at p
   ·rename_i hz
    exact .inr (.inl ⟨a,b,rfl,rfl,hz,p.ok_ r _ (show Rp K H1 (V.str _) (D.str _) from .str _)⟩)
   ·exact p.elim
  ·exact p.elim
theorem znfb {i:Nat} {x:Str} {e:Expr} {fe:DE} {pos' pos:Pos} (hN:X.N.Nodup) (hi:X.N[i]?=some x) (hx:L2.Loc X.env.scope x) (he:PE X e (tD X.K Wx fe)) (hf:X.fn x=true∨X.env.scope.names.lookup x=some .local:=by first |exact .inl rfl |exact .inr rfl |assumption) :
  PS X (.AugAssign (.Name x pos') .Add e pos) (tS X.K Wx (sAug i fe)):=psImp (ps_aug hN hi hx he zkfb hf) fun En σ H ⟨H1,al,dl,m,r,en,p⟩=>by
 unfold sAug at p
 split at p
 ·rename_i w hw
  obtain⟨v,hv,q⟩:=en.at_ i w hw
  refine⟨v,hv,H1,al,dl,m,r,en,p.of en fun y m1 H1' al' H' e1 l1 r1 p1 yv hy=>?_⟩
  have en1:=en.mono e1 l1
  exact zq5 (Wx:=Wx) (σ := σ) r1 (q.mono e1 l1) hy (p1.of en1 fun z m2 H2 al2 H2' e2 l2 r2 p2 zv hz=>p2.nx_ r2 ((en1.mono e2 l2).set i hz))
 ·exact p.elim
end
end DL
namespace DL
open PySem PySem.Spec L2
open PyProof.Rows hiding St
open Evl (Ex)
section
variable {P:Program} {w:World} {K:Fg} {mg:Str→Option Value} {base:Heap} {x qual:Str} {params:Arguments} {body:List Stmt} {scope:Scope} {f:Addr} {fd:FuncData} {ps:List Str} {k:Nat} {R:DF}
theorem zcz {dvs:List V} (F:FunD K x qual params body scope dvs [] f fd) (Fo:FnG P w K mg base k f fd ps (spD K ps.length R)) (n:Nat) (ks:List Str) (dd:List D) (ix:List Nat) (hd:dvs≠[]) (hds:Imms dvs dd)
  (h:∀(T:Addr) (kV doc pm:Value) (an:Option Addr) (cdv ct:Value) (us ws its:List Value),us.length=n→ws.length=ks.length→its.length=dvs.length →
    ∃k,bindArgs (PySem.W.fnOf x qual params body scope (.ref T) kV doc pm an cdv ct) ⟨us,ks.zip ws⟩=PySem.seqItems? (.ref T) >>= k∧k (some its.toArray)=pure (ps.zip (sel ix (us++ws++its)))) :
  FnK P w K mg base k f ks (kwF (n+ks.length) dd ix (lenF ps.length R)):=by
 intro A outer s H us ws vs zs Q E hr e0 r rz lw hs
 obtain⟨hl,q⟩:=kw_sp hds hs
 obtain⟨oc,od,dV,kV,doc,pm,an,cdv,ct,osl,rfl,lk,hcd,hD,hK⟩:=F.ex
 rcases hD with ⟨e,_⟩ |⟨_,T,o,its,m,rfl,lT,oT,rT⟩
 ·exact absurd e hd
 ·have lu:us.length=n:=by
   rw[List.length_append,r.length,rz.length,lw] at hl
   omega
  have X:=e0.mod.kin.keeps fun b o e=>(e0.bs b o e).1
  obtain⟨g,e1,e2⟩:=h T kV doc pm an cdv ct us ws its lu lw rT.length.symm
  exact Fo.go hr e0 (BindsTo.of_looks fun M=>by
   rw[e1]
   exact looks_items X lT oT (.of_pure e2)) (Vals.sel ((r.append rz).append rT) ix) q
/-- a def that is never asked -/
theorem zn6:FnD P w K mg base k f (fun _ _=>.no):=fun A outer s H us vs Q E hr e0 r hs=>by
 obtain⟨H1,al,m,ws,rl,hws,p⟩:=hs
 exact p.elim
end
end DL
namespace DL
open PySem PySem.Spec L2
open PyProof.Rows hiding St
open Evl (Ex)
section
variable {prog:PySem.Program} {w:World} {A:Around} {E:Value→Shared→Prop} {s:Shared} {x:Str} {t:Tok}
theorem z4gb {Q:Bool→Shared→Prop} (h:∀b,Q b s):wpAny (model prog w) A (Builtin.List.listLengthHint (.str x t)) Q E s:=by
 have hT:=typeIs_str s x t
 unfold Builtin.List.listLengthHint
 refine wpAny_bind (wpAny_specialOf hT PySem.F.slot_str_len.lookup ?_)
 generalize hid:("str.__len__" : String)=id0
 wp_delta
 rw[show splitId id0=some ("str", "__len__") from by subst hid;decide +kernel]
 subst hid
 refine wpAny_bind (wpAny_isInstance (T:="str") (b:=true) hT (by rw[isSubtype_type];kernel_rfl) ?_)
 refine wpAny_ite_split (fun hab=>absurd hab (by decide)) (fun _=>?_)
 refine wpAny_ite_split (fun _=>?_) (fun hab=>absurd (by decide +kernel) hab)
 refine wpAny_bind (wpAny_typeOf hT ?_)
 exact wpAny_pure (h _)
theorem zfab {R:Result→Shared→Prop} (hh:A.handled=none) (S:Addr) (res:Value) (c₀:Nat) (hS:s.heap.get? S=some {cls:=.type "list",data:=.seq #[] c₀ })
  (hR:∀h' tk acc' c',(∀b o,b≠S→s.heap.get? b=some o→h'.get? b=some o)→h'.get? S=some {cls:=.type "list",dict:=none,data:=.seq acc' c',slots:=#[]}→ItemsOf (SignAt x) acc' x.cps.size→R (.ok (.ret res)) {s with heap:=h',toks:=tk}) (hn:x.cps.size≤sizeLine) :
  wpAny (model prog w) A.in1 (Builtin.List.listExtendWith (.ref S) (.str x t) res)
   (fun fin s'=>match fin with |.done f=>R (.ok f) s' |.again c'=>c'.quiet=true∧codeAny (model prog w) A c' R s') (fun e s'=>R (.error e) s') s:=by
 have hSI:S≠s.heap.objs.size:=Nat.ne_of_lt (Heap.lt_size hS)
 have hSf:S ∉ [s.heap.objs.size]:=by simp only[List.mem_cons,List.not_mem_nil,or_false];exact hSI
 unfold Builtin.List.listExtendWith
 refine wpAny_bind (wpAny_typeOf (T:="str") (typeIs_str s x t) ?_)
 have h1:Builtin.List.listSameRef (.ref S) (.str x t)=false:=by simp[Builtin.List.listSameRef]
 have h2:(Value.type "str" == Value.type "list")=false:=by decide
 have h3:(Value.type "str" == Value.type "tuple")=false:=by decide
 simp only[h1,h2,h3,Bool.or_false,Bool.false_eq_true,if_false]
 refine wpAny_bind (wpAny_pyIter_str fun oI St W st=>?_)
 have key:∀(h:Heap) (c₁ tk:Nat),St 0 h→(∀b o,b≠S→s.heap.get? b=some o→h.get? b=some o) →
   h.get? S=some {cls:=.type "list",data:=.seq #[] c₁ }→codeAny (model prog w) A (.builtin "list.extend.loop" ⟨[.ref S,.ref s.heap.objs.size,res],[]⟩) R {s with heap:=h,toks:=tk}:=by
  intro h c₁ tk hst hk hS₁
  refine codeAny_extend_loopS (W A.in1 hh).toS hn S hSf res x.cps.size 0 _ #[] c₁ rfl (Nat.zero_le _) hst hS₁ (ItemsOf.nil _) fun s' acc' c' hm hS' hacc=>?_
  rw[Moved.eq_with hm]
  refine hR s'.heap s'.toks acc' c' (fun b o hb e=>hm.heap b o (fun hmem=>?_) (hk b o hb e)) hS' hacc
  rcases List.mem_cons.mp hmem with e' |hmem
  ·exact hb e'
  ·exact absurd (Heap.lt_size e) (by rw[List.mem_singleton.mp hmem];exact Nat.lt_irrefl _)
 have hS₁:=Heap.get?_push_of_some oI hS
 refine wpAny_bind (wpAny_holding (z4gb fun b=>?_))
 refine wpAny_ite_split (fun _=>?_) (fun _=>wpAny_pure ⟨plainId_quiet PySem.F.plain_extend_loop _,key _ c₀ _ st (fun b o _ e=>Heap.get?_push_of_some _ e) hS₁⟩)
 refine wpAny_bind (wpAny_rule ?_)
 refine wpAny_bind ?_
 show wpAny _ _ (updateSeq S (·.push .none) >>= fun _=>updateSeq S (·.pop)) _ _ _
 refine wpAny_bind (wpAny_updateSeq hS₁ rfl ?_)
 have hS₂:=Heap.get?_update_self (Obj.mapSeq (·.push Value.none)) hS₁ rfl
 refine wpAny_updateSeq (hz:=by seq_fits) hS₂ rfl ?_
 have hS₃:=Heap.get?_update_self (Obj.mapSeq (·.pop)) hS₂ rfl
 refine wpAny_pure ⟨plainId_quiet PySem.F.plain_extend_loop _,key _ _ _ ?_ (fun b o hb e=>?_) hS₃⟩
 ·refine (W A.in1 hh).frame 0 _ _ st fun b hb o e=>?_
  have hbS:b≠S:=fun h=>hSf (h ▸ hb)
  exact (Heap.get?_update_other _ _ (Ne.symm hbS)).trans ((Heap.get?_update_other _ _ (Ne.symm hbS)).trans e)
 ·exact (Heap.get?_update_other _ _ (Ne.symm hb)).trans ((Heap.get?_update_other _ _ (Ne.symm hb)).trans (Heap.get?_push_of_some _ e))
theorem z3gb {R:Result→Shared→Prop} (hh:A.handled=none) (S:Addr) (hS:s.heap.get? S=some {cls:=.type "list",data:=.seq #[]})
  (hR:∀h' tk acc' c',(∀b o,b≠S→s.heap.get? b=some o→h'.get? b=some o)→h'.get? S=some {cls:=.type "list",dict:=none,data:=.seq acc' c',slots:=#[]}→ItemsOf (SignAt x) acc' x.cps.size→R (.ok (.ret .none)) {s with heap:=h',toks:=tk}) (hn:x.cps.size≤sizeLine) :
  wpAny (model prog w) A.in1 (Builtin.«list.__init__» ⟨[.ref S,.str x t],[]⟩)
   (fun fin s'=>match fin with |.done f=>R (.ok f) s' |.again c'=>c'.quiet=true∧codeAny (model prog w) A c' R s') (fun e s'=>R (.error e) s') s:=by
 show wpAny _ _ (do let old ←Builtin.List.listItems (.ref S);Builtin.List.listUpdate (.ref S) (fun _=>#[]);letGo old.toList.reverse;Builtin.List.listExtendWith (.ref S) (.str x t) .none) _ _ s
 refine wpAny_bind ?_
 unfold Builtin.List.listItems
 refine wpAny_bind (wpAny_seqItems hS rfl (wpAny_pure ?_))
 show wpAny _ _ (updateSeq S (fun _=>#[]) >>= fun _=>letGo (#[]:Array Value).toList.reverse >>= fun _=>Builtin.List.listExtendWith (.ref S) (.str x t) .none) _ _ s
 refine wpAny_bind (wpAny_updateSeq hS rfl ?_)
 have hS₂:=Heap.get?_update_self (Obj.mapSeq (fun _=>(#[]:Array Value))) hS rfl
 have oth:∀b o,b≠S→s.heap.get? b=some o→(s.heap.update S (Obj.mapSeq (fun _=>(#[]:Array Value)))).get? b=some o:=
  fun b o hb e=>(Heap.get?_update_other _ _ (Ne.symm hb)).trans e
 refine wpAny_bind (wpAny_letGo ?_)
 refine zfab hh S .none _ hS₂ (fun h' tk acc' c' hk hS' hacc=>?_) hn
 exact hR h' tk acc' c' (fun b o hb e=>hk b o hb (oth b o hb e)) hS' hacc
theorem z5gb {Q:Value→Shared→Prop} (hh:A.handled=none) (hn:x.cps.size≤sizeLine)
  (hQ:∀h' tk acc' c',(∀b o,s.heap.get? b=some o→h'.get? b=some o)→h'.get? s.heap.objs.size=some {cls:=.type "list",dict:=none,data:=.seq acc' c',slots:=#[]}→ItemsOf (SignAt x) acc' x.cps.size→Q (.ref s.heap.objs.size) {s with heap:=h',toks:=tk}) :
  wpAny (model prog w) A (call (.type "list") [.str x t]) Q E s:=by
 refine callType_codes (Q₁:=fun obj s₁=>obj = .ref s.heap.objs.size∧s₁={s with heap:=s.heap.push {cls:=.type "list",data:=.seq #[]} }) PySem.F.called_list (PySem.F.typeCall_list_1 _) PySem.F.entry_list_init
  (code_list_new _ ⟨rfl,rfl⟩) fun obj s₁ h₁=>?_
 obtain⟨rfl,rfl⟩:=h₁
 have hS:(s.heap.push {cls:=.type "list",data:=.seq #[]}).get? s.heap.objs.size=some {cls:=.type "list",data:=.seq #[]}:=Heap.get?_push_size _ rfl
 refine⟨⟨_,hS,rfl⟩,PySem.F.args_list_init_2 _ _,z3gb (A:=A.in1) hh _ hS (fun h' tk acc' c' hk hS' hacc=>?_) hn⟩
 exact⟨rfl,hQ h' tk acc' c' (fun b o e=>hk b o (Nat.ne_of_lt (Heap.lt_size e)) (Heap.get?_push_of_some _ e)) hS' hacc⟩
end
def zxt (x:Str):List V:=x.cps.toList.map fun c=>V.str ⟨#[c]⟩
theorem zwcb {K:Fg} {H:Hp} (x:Str):RpL K H (zxt x) (zvy x):=by
 unfold zxt zvy
 generalize x.cps.toList=l
 induction l with
 |nil=>exact .nil
 |cons c l ih=>exact .cons (.str _) ih
section
variable {X:Cx} {Wx:WX}
theorem call_list_str (hc:X.calm=true):CallR X (.type "list") (fun xs H Q=>∃x:Str,xs=[V.str x]∧x.cps.size≤sizeLine∧∀l,H l=none→Q (.ref l) (upd H l (.lst (zxt x)))):=by
 intro pins s σ H xs us Q I r h
 obtain⟨x,rfl,hz,q⟩:=h
 obtain⟨u,rfl,rx⟩:=vals1 r
 obtain⟨t,rfl⟩:=rx
 refine z5gb (I.ok.hd hc) hz fun h' tk acc' c' kp e hacc=>?_
 have hv:Vals (zxt x) acc'.toList:=by
  have hl:acc'.toList.length=x.cps.toList.length:=by rw[Array.length_toList,hacc.1,Array.length_toList]
  have hi:∀(i:Nat) (v:Value),acc'.toList[i]?=some v→∃c u,x.cps.toList[i]?=some c∧v=Value.str ⟨#[c]⟩ u:=fun i v hv=>by
   rw[Array.getElem?_toList] at hv
   obtain⟨c,u,h1,h2⟩:=hacc.2 i v hv
   exact⟨c,u,by rw[Array.getElem?_toList];exact h1,h2⟩
  unfold zxt
  revert hl hi
  generalize acc'.toList=l1
  generalize x.cps.toList=l2
  intro hl hi
  induction l1 generalizing l2 with
  |nil=>
   cases l2 with
   |nil=>exact .nil
   |cons _ _=>simp at hl
  |cons v l1 ih=>
   cases l2 with
   |nil=>simp at hl
   |cons c l2=>
    obtain⟨c',u,h1,h2⟩:=hi 0 v rfl
    simp at h1
    subst h1
    exact .cons ⟨u,h2⟩ (ih l2 (by simpa using hl) fun i v hv=>hi (i+1) v hv)
 have hlen:(zxt x).length≤sizeLine:=by unfold zxt;rw[List.length_map,Array.length_toList];exact hz
 exact⟨.ref s.heap.objs.size,_,I.laid (t':=tk) kp (Nat.le_refl _) (show ObjOk X.prog X.w _ h' _ (.lst (zxt x)) from ⟨hlen,acc'.toList,c',hv,by rw[Array.toArray_toList];exact e⟩),rfl,q _ (I.hok.fresh (Nat.le_refl _))⟩
theorem zkeb {a:Expr} {p pos:Pos} {f:DA} (hc:X.calm=true) (hg:Gl X "list") (hm:X.mg "list" = none) (ha:PA X [a] (tA X.K Wx f))
  (he:starEach [a] X.env=(false,eval a X.env)::starEach [] X.env:=by rfl) (hpl:(backTo pos (starEach [] X.env)).any (·.1)=false:=by rfl):PE X (.Call (.Name "list" p) [a] [] pos) (tD X.K Wx (zibb f)):=by
 refine peImp (pe_callTy (call_list_str hc) hg hm (by decide +kernel) ha (by decide) (by decide) he hpl) fun σ H Q h=>zsk (R:=fun vs H Q=>_) h fun H1 H al m ws vs rl hvs p=>?_
 unfold zc6 at p
 split at p
 ·rename_i x
  split at p
  ·rename_i hz
   cases hvs with
   |cons hv hn=>
    cases hn
    cases (show Rp X.K H1 _ (.str x) from hv)
    refine⟨x,rfl,hz,fun l hl=>?_⟩
    obtain⟨z1,z2⟩:=rl.cellNew (zwcb x) hl
    exact p _ (al.push l) _ (Ex.refl _) (Le.push _ _) z1 _ z2
  ·exact p.elim
 ·exact p.elim
end
end DL
namespace DL
open PySem PySem.Spec L2
open PyProof.Rows hiding St
open Evl (Ex)
/-- a built-in class of errors -/
structure EB (B newId initId:String) (tl:List Value):Prop where
 F:ExcBaseFacts B newId initId tl
 S:StoreFacts B tl "object.__setattr__" "object"
 ty:typeOf (.type B)=pure (.type "type")
 bo:bootBuiltins (Str.ofString B)=some (.type B)
 n1:(Str.ofString B)≠Str.ofString "__name__"
 n2:((Str.ofString B)==Str.ofString "__debug__")=false
 st:Manifest.isStub B=false
 hi:PySem.W.handedIn (.builtin initId)=true
theorem zrw:EB "LookupError" "LookupError.__new__" "LookupError.__init__" zdab:=
 ⟨PySem.F.excBase_LookupError,PySem.F.store_LookupError,by kernel_rfl,PyProof.Rows.Boot.LookupError,by decide,by decide,by decide +kernel,by decide +kernel⟩
theorem zu0:EB "OverflowError" "OverflowError.__new__" "OverflowError.__init__" z09:=
 ⟨PySem.F.excBase_OverflowError,PySem.F.store_OverflowError,by kernel_rfl,PyProof.Rows.Boot.OverflowError,by decide,by decide,by decide +kernel,by decide +kernel⟩
/-- what the head must say of such a class -/
structure OxB (K:Fg) (newId:String) (tl:List Value) (C:Addr):Prop where
 i0:PySem.W.excInitIn K C tl newId=true
 ov:PySem.W.excOver K C tl=true
 hdd:PySem.W.hasDictIn K C=true
 sta:PySem.W.findIn K (.ref C) "__setattr__" = some (some (.builtin "object.__setattr__"))
 exb:PySem.W.subIn K (.ref C) (.type "BaseException")=some true
 tyb:PySem.W.typeIn K (.ref C)=some (.type "type")
 kpb:PySem.W.keepIn K (.ref C)=true
structure ErrB (K:Fg) (newId:String) (tl:List Value) (C f:Str) (fI:Addr):Prop where
 ox:OxB K newId tl (He.ga K C)
 ini:PySem.W.findIn K (.ref (He.ga K C)) "__init__" = some (some (.ref fI))
 typ:PySem.W.typeIn K (.ref fI)=some (.type "function")
 noF:PySem.W.findIn K (.ref (He.ga K C)) f=some none
section
variable {X:Cx} {B newId initId:String} {tl:List Value}
theorem zdeb {pins:List (Addr × Obj)} {σ : L2.St} {H:Hp} {s:Shared} {q c:Addr} {f:Str} {y:V} {u:Value} {Q:Unit→Shared→Prop} {E:Value→Shared→Prop} {A:Around} (N:EB B newId initId tl) (T:OxB X.K newId tl c) (I:Inv X pins σ H s) (hq:H q=some (exo q c none)) (hf:PySem.W.findIn X.K (.ref c) f=some none) (r:RelV y u)
  (k:∀b s',H b=none→b≠q→Inv X pins σ (upd (upd H b (exd b [(f,y)])) q (exo q c (some b))) s'→Q () s'):wpAny (model X.prog X.w) A (setAttr (.ref q) f u) Q E s:=by
 obtain⟨t1,hobj⟩:=exo_at I.hok hq
 obtain⟨cd,hcl,hdict⟩:=PySem.W.any_some T.hdd
 obtain⟨g0,gs,dr,tk,os⟩:=s
 have lt:q<g0.objs.size:=Heap.lt_size hobj
 refine PySem.W.set_plain I.kIn (od:=none) ⟨hobj,rfl,rfl,trivial⟩ T.sta (PySem.W.osa_openX (r:=none) (od:=none) N.S I.kIn ⟨hobj,rfl,rfl,trivial⟩ T.ov (by unfold PySem.W.takerIn;rw[hf];rfl) fun bb=>?_)
 refine wpAny_bind (wpAny_pure (wpAny_bind (PySem.W.instanceDict_exc hobj (PySem.W.looks_clsIn I.kIn hcl) hdict ?_)))
 obtain⟨b,eb⟩:∃b,b=g0.objs.size:=⟨_,rfl⟩
 show wpAny _ _ (Builtin.ObjectAttr.storeInDict g0.objs.size (.str f tk) f u) _ _ _
 have ne:b≠q:=by rw[eb];exact Nat.ne_of_gt lt
 obtain⟨g1,e1⟩:∃g1:Heap,g1=(g0.push (PySem.W.dictOf [] 0)).update q fun o=>{o with dict:=some g0.objs.size}:=⟨_,rfl⟩
 have hnew:g1.get? b=some (PySem.W.dictOf [] 0):=by
  subst e1 eb
  exact (Heap.get?_update_ne _ _ _ _ ne).trans (Heap.get?_push_at rfl rfl)
 have hself:g1.get? q=some ({cls:=.ref c,dict:=some b,data:=.fields #[.ref t1,.none,.none,.none,.bool false,.none]}:Obj):=by
  subst e1 eb
  exact Heap.get?_update_self _ (Heap.get?_push_of_some _ hobj) rfl
 have hold:∀a o,a≠q→g0.get? a=some o→g1.get? a=some o:=fun a o ha ho=>by
  subst e1
  exact (Heap.get?_update_ne _ _ _ _ ha).trans (Heap.get?_push_of_some _ ho)
 show wpAny _ _ _ _ _ ({heap:=(g0.push (PySem.W.dictOf [] 0)).update q fun o=>{o with dict:=some g0.objs.size},gens:=gs,drawn:=dr,toks:=tk+1,os:=os}:Shared)
 rw[←e1,←eb]
 refine PySem.HandSPX.store_in_new ⟨_,#[],_,hnew,rfl,(fun e he=>absurd he (by simp)),fun _=>rfl⟩ fun g2 tk2 hn2 hs2=>?_
 have hb:H b=none:=I.hok.fresh (by rw[eb];exact Nat.le_refl _)
 have keep:∀a o,a≠q→g0.get? a=some o→g2.get? a=some o:=fun a o ha ho=>(hs2.2 a (by rw[eb];exact Nat.ne_of_lt (Heap.lt_size ho))).trans (hold a o ha ho)
 have selfE:g2.get? q=some ({cls:=.ref c,dict:=some b,data:=.fields #[.ref t1,.none,.none,.none,.bool false,.none]}:Obj):=(hs2.2 q (Ne.symm ne)).trans hself
 have outQ:∀{a:Addr},H a=none→a≠q:=fun {a} z e=>by
  rw[e,hq] at z
  cases z
 have outB:∀{a:Addr} {o:Obj},g0.get? a=some o→a≠b:=fun {a o} z=>by
  rw[eb]
  exact Nat.ne_of_lt (Heap.lt_size z)
 refine k b _ hb ne (I.un (t':=tk2) ⟨fun a o z n _ _=>keep a o (outQ n) z,fun a o z n _ _=>⟨o.slots,keep a o (outQ n) z⟩,fun a o z n _=>?_,fun a o z _=>?_,fun a xs z=>?_,fun a o v z=>?_,fun a ps z=>⟨#[],?_⟩⟩ fun a o z=>?_)
 ·rw[upd_ne (outQ n),upd_ne (outB z)]
  exact n
 ·by_cases ha:a=q
  ·exact⟨_,ha ▸ selfE⟩
  ·exact⟨o,keep a o ha z⟩
 ·rw[upd_ne (at_ne hq z exo_tup),upd_ne (ne_of_none z hb)]
  exact z
 ·rw[upd_ne (at_ne hq z exo_frz),upd_ne (ne_of_none z hb)]
  exact z
 ·rw[upd_ne (at_ne hq z exo_tbl),upd_ne (ne_of_none z hb),z]
  simp
 ·by_cases ha:a=q
  ·subst ha
   rw[upd_same] at z
   cases z
   exact exo_ok selfE
  ·rw[upd_ne ha] at z
   by_cases ha2:a=b
   ·subst ha2
    rw[upd_same] at z
    cases z
    exact exd_ok hn2 (relO_put (fs:=[]) r fun _=>True.intro)
   ·rw[upd_ne ha2] at z
    have noQ:∀{d:Addr},(d=a∨H d=some (.own a))→d≠q:=fun {d} hd=>hd.elim (fun e=>e ▸ ha) fun e=>at_ne hq e exo_own
    refine (I.hok a o z).stay (fun d v hd=>keep d v (noQ hd)) (fun d hd=>?_) (fun d xs hd=>?_)
    ·rw[upd_ne (at_ne hq hd exo_own),upd_ne (ne_of_none hd hb)]
     exact hd
    ·rw[upd_ne (at_ne hq hd exo_tup),upd_ne (ne_of_none hd hb)]
     exact hd
/-- B.__init__(self, ..): nothing of it is told -/
theorem zvhb {pins:List (Addr × Obj)} {σ : L2.St} {H:Hp} {s:Shared} {q c:Addr} {us:List Value} {Q:Value→Shared→Prop} {E:Value→Shared→Prop} {A:Around} (N:EB B newId initId tl) (T:OxB X.K newId tl c) (I:Inv X pins σ H s) (hq:H q=some (exo q c none)) (hz:us.length≤sizeLine) (k:∀s',Inv X pins σ H s'→Q .none s') :
  wpAny (model X.prog X.w) A (call (.builtin initId) (.ref q::us)) Q E s:=by
 obtain⟨t1,hobj⟩:=exo_at I.hok hq
 obtain⟨g0,gs,dr,tk,os⟩:=s
 obtain⟨nm,N',qn,bs,bm,hdct,sn,sub,ab,col,dd,k0,k1,k2,k3,k5,hC,hT⟩:=PySem.W.excInit_of I.kIn T.i0
 refine wpAny_call (PySem.HandSPX.init_base N.F hT hC hobj hz fun g2 t2 kp hx=>k _ ?_)
 have J:=I.write (t':=tk) (x:=q) (e:=q) (o:=exo q c none) (by rw[hq];exact True.intro) (.inl rfl) kp ⟨_,hx⟩ (exo_ok hx)
 have same:upd H q (exo q c none)=H:=funext fun a=>by
  by_cases ha:a=q
  ·rw[ha,upd_same,hq]
  ·rw[upd_ne ha]
 rwa [same] at J
def tInB (K:Fg) (newId:String) (tl:List Value) (ta:TA):TE:=fun σ H Q=>ta σ H fun vs H1=>∃(q c:Addr) (ws:List V),vs = .ref q::ws∧ws.length≤1000∧OxB K newId tl c∧H1 q=some (exo q c none)∧Q .non H1
def tStB (K:Fg) (newId:String) (tl:List Value) (f:Str) (to te:TE):TS:=fun D σ H=>te σ H fun y H1=>to σ H1 fun x H2=>∃q c:Addr,x = .ref q∧OxB K newId tl c∧PySem.W.findIn K (.ref c) f=some none ∧
 (H2 q=some (exo q c none)∧∀b,H2 b=none→b≠q→D.nx σ (upd (upd H2 b (exd b [(f,y)])) q (exo q c (some b))))
theorem zafb {e:Expr} {es:List Expr} {ta:TA} {p1 p2 pos:Pos} {pl:Sem Bool} (N:EB B newId initId tl) (hg:Gl X (Str.ofString B)) (hm:X.mg (Str.ofString B)=none) (vV:PySem.W.findCls X.K (.type B) (.type "type") "__init__" = some (.val (.builtin initId))) (ha:PA X (e::es) ta)
  (hc:eval (.Call (.Attribute (.Name (Str.ofString B) p1) "__init__" p2) (e::es) [] pos) X.env=(do
    let tv ←eval (.Name (Str.ofString B) p1) X.env
    standAt p2.atName
    let (fv,fst) ←holding [tv] (getMethod tv "__init__" pl)
    callWith pos fv fst (backTo pos (starEach (e::es) X.env)) (backToKw pos (keywordEach [] X.env))):=by rfl)
  (hst:starEach (e::es) X.env=(false,eval e X.env)::starEach es X.env:=by rfl) (hpl:(backTo pos (starEach es X.env)).any (·.1)=false:=by rfl) :
  PE X (.Call (.Attribute (.Name (Str.ofString B) p1) "__init__" p2) (e::es) [] pos) (tInB X.K newId tl ta):=by
 refine⟨fun pins s σ H Q I h=>PySem.W.methodCall_KW (ld_blt I hg hm N.bo ?_ N.n1 N.n2) hc⟩
 obtain⟨m,fr⟩:=I.fr
 refine PySem.W.method_type fr I.ok.mod.kin N.ty N.st vV N.hi ?_
 show wpAny _ _ (callWith pos (Value.builtin initId) [] (backTo pos (starEach (e::es) X.env)) []) _ _ _
 refine PyProof.Rows.callWith_method1 (thn (ha.run pos pins _ σ H _ (I.tok _) h) fun us s1 ⟨vs,H1,I1,r1,q,c,ws,ev,hz,T,hq,k⟩=>?_) hst hpl
 subst ev
 cases r1 with
 | @cons _ u0 _ ur ra rw'=>
   cases (show u0=Value.ref q from ra)
   exact zvhb N T I1 hq (by rw[←Paired.length rw',sizeLine_eq];omega) fun s' J=>⟨.non,H1,J,rfl,k⟩
theorem z8eb {o e:Expr} {to te:TE} {f:Str} {p' pos:Pos} (N:EB B newId initId tl) (ho:PE X o to) (he:PE X e te) (hs:swapsWith e (some (.Attribute o f p')) pos.line X.env=pure false:=by rfl):PS X (.Assign [.Attribute o f p'] e pos) (tStB X.K newId tl f to te):=
 ⟨fun pins s σ H D I h=>plainObj_wpAny_Assign_Attribute (thn (he.run pins s σ H _ I h) fun v s1 ⟨y,H1,I1,r1,q1⟩=>thn (ho.run pins s1 σ H1 _ I1 q1) fun u s2 ⟨x,H2,I2,r2,q,c,ex,T,hno,hq,k⟩=>by
  subst ex
  cases (show u=Value.ref q from r2)
  exact zdeb N T I2 hq hno r1 fun b s' n ne J=>⟨σ,_,J,k b n ne⟩) hs⟩
/-- C(e) over B -/
theorem z9cb {Wx:WX} {k n:Nat} {C f s0:Str} {fI:Addr} {fd:FuncData} {e:Expr} {te:TE} {p pos:Pos} (N:EB B newId initId tl) (T:ErrB X.K newId tl C f fI) (F1:FnG X.prog X.w X.K X.mg X.base k fI fd [s0,f] (spErr X.K C f n)) (hb:Binds X.K fd [s0,f] []) (room:RoomG (k+1) X.A) (hg:Gl X C) (hm:X.mg C=some (.ref (He.ga X.K C))) (he:PE X e te)
  (hdb:(C==("__debug__" : Str))=false:=by decide) (hst:starEach [e] X.env=[(false,eval e X.env)]:=by rfl):L2N.PMk X (.Call (.Name C p) [e] [] pos) (tMkE X.K C f n te):=by
 intro pins s σ H Q I h
 have h2:tCons te tNil σ H fun vs H1=>∃v p,vs=[v]∧Dp X.K H1 v p∧shOk n p=true∧∀dx,H1 dx=none→Q (.ref (He.ga X.K C)) (some dx) (upd H1 dx (.xd [(f,v)])):=by
  refine (show te σ H fun x H1=>_ from ?_)
  have mono:∀{Q1 Q2:VK},te σ H Q1→Q1=Q2→te σ H Q2:=fun a b=>b ▸ a
  refine mono h ?_
  funext v H1
  refine propext ⟨fun⟨p,z⟩=>⟨v,p,rfl,z⟩,fun⟨v',p,e',z⟩=>?_⟩
  cases e'
  exact⟨p,z⟩
 refine wpAny_Call_Name_kw (ld_glob I hg hm ?_ hdb)
 refine PySem.W.callWith_K (h₀:=X.base) I.ok.mod.kin T.ox.kpb (thn ((pa_cons he pa_nil hst).run pos pins s σ H _ I h2) fun us s1 ⟨vs,H1,I1,r1,v,pd,ev,dp,ok,want⟩=>⟨I1.kIn,?_⟩) hst rfl
 subst ev
 obtain⟨nm,N',qn,bs,bm,hdct,sn,sub,ab,col,dd,k0,k1,k2,k3,k5,hC,hT⟩:=PySem.W.excInit_of I1.kIn T.ox.i0
 obtain⟨hp,g,dr,tk,os⟩:=s1
 obtain⟨a,ea⟩:∃a,a=hp.objs.size+1:=⟨_,rfl⟩
 have big:hp.objs.size≤a:=by rw[ea];exact Nat.le_succ _
 have na:H1 a=none:=I1.hok.fresh big
 obtain⟨h1,eh⟩:∃h1,h1=(hp.push (PySem.W.kdv_tup us)).push (PySem.HandSPX.excO (He.ga X.K C) hp.objs.size):=⟨_,rfl⟩
 have old:∀b o,hp.get? b=some o→h1.get? b=some o:=fun b o z=>by
  rw[eh]
  exact Heap.get?_push_of_some _ (Heap.get?_push_of_some _ z)
 have new:h1.get? a=some (PySem.HandSPX.excO (He.ga X.K C) hp.objs.size):=by
  subst eh ea
  heap_get
 have I2:Inv X pins σ (upd H1 a (exo a (He.ga X.K C) none)) ⟨h1,g,dr,tk,os⟩:=I1.laid (t':=tk) old big (exo_ok new)
 have ex1:Ex H1 (upd H1 a (exo a (He.ga X.K C) none)):=Evl.Ex.new na
 have few:us.length≤sizeLine:=by
  rw[←r1.length]
  exact Nat.le_trans (show (1:Nat)≤2 by decide) (by decide)
 have rv:Vals [.ref a,v] (.ref a::us):=.cons rfl r1
 have bd:=hb ⟨h1,g,dr,tk,os⟩ (.ref a::us) I2.kIn (by rw[List.append_nil,←rv.length] <;> rfl)
 rw[List.append_nil] at bd
 have goal:spErr X.K C f n [.ref a,v] (upd H1 a (exo a (He.ga X.K C) none)) (fun z H2=>z = .non∧∃(d:Addr) (fs:List (Str × V)),H2 a=some (exo a (He.ga X.K C) (some d))∧H2 d=some (exd d fs)∧H1 d=none∧Q (.ref (He.ga X.K C)) (some d) (upd (del H2 a) d (.xd fs))) (fun _ _ _=>False):=by
  refine⟨a,v,pd,rfl,upd_same ..,Dp.ext ex1 dp,ok,fun dx nd ne=>⟨rfl,dx,_,upd_same ..,by rw[upd_ne ne,upd_same],?_,?_⟩⟩
  ·rw[upd_ne ne] at nd
   exact nd
  ·rw[upd_ne ne] at nd
   have same:upd (del (upd (upd (upd H1 a (exo a (He.ga X.K C) none)) dx (exd dx [(f,v)])) a (exo a (He.ga X.K C) (some dx))) a) dx (.xd [(f,v)])=upd H1 dx (.xd [(f,v)]):=by
    funext b
    by_cases h1:b=dx
    ·rw[h1,upd_same,upd_same]
    ·rw[upd_ne h1,upd_ne h1]
     by_cases h2:b=a
     ·rw[h2,del_same,na]
     ·rw[del_ne h2,upd_ne h2,upd_ne h1,upd_ne h2]
   rw[same]
   exact want dx nd
 subst ea
 show wpAny _ _ (call (.ref (He.ga X.K C)) us) _ _ _
 refine wpAny_call (PySem.HandSPX.call_own N.F hT hC (PySem.W.looks_findIn I1.kIn T.ini) (fun self=>PySem.W.bind_fn I1.kIn self T.typ) few ?_)
 rw[←eh]
 refine codeAny_mono (F1.go (room.make _ us []) (I2.env0.make _ us []) bd rv goal) fun r s' hq=>?_
 match r,hq with
 |.error er,hq=>exact (z26 hq).elim
 |.ok .next,hq=>exact False.elim hq
 |.ok .brk,hq=>exact False.elim hq
 |.ok .cont,hq=>exact False.elim hq
 |.ok (.ret u),hq=>
  obtain⟨z,H2,os2,bare2,un2,ok2,rz,ez,d,fs,e1,e2,e3,e4⟩:=hq
  subst ez
  obtain⟨h2',g2,d2,t2,os'⟩:=s'
  exact⟨rz,(z89 (raises_own T.ox.exb T.ox.tyb) I1 big old un2 ok2 os2 bare2 e1 e2 e3 e4).1⟩
theorem ztw {Wx:WX} {k n:Nat} {C f s0:Str} {fI:Addr} {fd:FuncData} {e:Expr} {fe:DE} {p cpos pos:Pos} (N:EB B newId initId tl) (hc:X.calm=true) (tk:L2N.Takes X Wx) (T:ErrB X.K newId tl C f fI) (F1:FnG X.prog X.w X.K X.mg X.base k fI fd [s0,f] (spErr X.K C f n)) (hb:Binds X.K fd [s0,f] []) (room:RoomG (k+1) X.A) (hg:Gl X C) (hm:X.mg C=some (.ref (He.ga X.K C))) (he:PE X e (tD X.K Wx fe))
  (hdb:(C==("__debug__" : Str))=false:=by decide) (hst:starEach [e] X.env=[(false,eval e X.env)]:=by rfl):PS X (.Raise (some (.Call (.Name C p) [e] [] cpos)) none pos) (tS X.K Wx (ztg C f n fe)):=
 psImp (L2N.ps_raise hc tk (z9cb (Wx:=Wx) N T F1 hb room hg hm he hdb hst)) fun En σ H ⟨H1,al,dl,m,r,en,q⟩=>by
  refine⟨H1,al,dl,m,r,en,q.of en fun w m1 H1' al' H' e1 l1 r' q' v hv=>?_⟩
  unfold raW at q'
  split at q'
  ·rename_i x
   split at q'
   ·rename_i pd hp
    split at q'
    ·rename_i ok
     refine⟨pd,zl1 r'.ex hv hp,ok,fun dx nd=>?_⟩
     have nd1:=r'.fresh1 nd
     exact q' _ al' _ σ v dx (Evl.Ex.new nd1) (zkb _) (r'.new nd) ((en.mono e1 l1).mono (Evl.Ex.new nd1) (zkb _)) (Rp.mono (Evl.Ex.new nd1) hv) upd_same
    ·exact q'.elim
   ·exact q'.elim
  ·exact q'.elim
end
theorem zgbb {K:Fg} {newId:String} {tl:List Value} {C f:Str} (c:fErrB newId tl C f K=true):ErrB K newId tl C f (He.ma K (He.ga K C) "__init__"):=by
 obtain⟨a1,c⟩:=He.ba c
 obtain⟨a2,c⟩:=He.ba c
 obtain⟨a3,c⟩:=He.ba c
 obtain⟨a4,c⟩:=He.ba c
 obtain⟨a5,c⟩:=He.ba c
 obtain⟨a6,c⟩:=He.ba c
 obtain⟨a7,c⟩:=He.ba c
 obtain⟨a8,c⟩:=He.ba c
 obtain⟨a9,a10⟩:=He.ba c
 exact⟨⟨a1,a2,a3,He.eqO_ok a4,of_decide_eq_true a5,of_decide_eq_true a6,a7⟩,He.eqO_ok a8,of_decide_eq_true a9,He.eqO_ok a10⟩
theorem bi_of {K:Fg} {B initId:String} (c:fBi B initId K=true):PySem.W.findCls K (.type B) (.type "type") "__init__" = some (.val (.builtin initId)):=by
 unfold fBi at c
 split at c
 ·rename_i n e
  rw[e,beq_iff_eq.mp c]
 ·cases c
end DL
namespace DL
open PySem PySem.Spec L2
open PyProof.Rows hiding St
open Evl (Ex)
theorem zrfb (a:DE) (f:DA) (dl:Env) (m:Mem):eApp a f dl m=(a dl m).bind fun x m1=>if isTy "list" x m1=true then (f dl m1).bind fun ws m2=>appW x ws m2 else .no:=nr rfl
end DL
namespace DL
open PySem PySem.Spec L2
open PyProof.Rows hiding St
open Evl (Ex)
def kk (g:D→D→Option D) (x y:W) (m:Mem):Res Bool:=(lift2 g x y m).bind fun z m3=>tru z m3
end DL
namespace DL
open PySem PySem.Spec L2
open PyProof.Rows hiding St
open Evl (Ex)
theorem RpWs.app {K:Fg} {H1:Hp} {al:Gh}:∀{xs ys:List V} {us ws:List W},RpWs K H1 al xs us→RpWs K H1 al ys ws→RpWs K H1 al (xs++ys) (us++ws)
 |_,_,_,_,.nil,s=>s
 |_,_,_,_,.cons r t,s=>.cons r (RpWs.app t s)
end DL
namespace DL
open PySem PySem.Spec L2
open PyProof.Rows hiding St
open Evl (Ex)
theorem u1 {n:Nat} (h:n+64<cLine):n+2<cLine:=by omega
end DL
namespace DL
open PySem PySem.Spec L2
open PyProof.Rows hiding St
open Evl (Ex)
variable {P:Program} {w:World} {K:Fg} {mg:Str→Option Value} {base:Heap}
end DL
namespace DL
open PySem PySem.Spec L2
open PyProof.Rows hiding St
open Evl (Ex)
theorem RoomX.make {k:Nat} {A:Around} (r:RoomX (k+1) A) (C:Addr) (us:List Value) (kw:List (Str × Value)):RoomX k (A.under (.builtin "type.__call__" ⟨.ref C::us,kw⟩)):=⟨r.toRoomH.make C us kw,by
 have:=r.gd
 first |exact this |simpa [Around.under,Code.guards,Code.isGuard,guardIds,pushGuards] using this⟩
end DL
namespace DL
open PySem PySem.Spec L2
open PyProof.Rows hiding St
open Evl (Ex)
section
variable {P:Program} {w:World} {K:Fg} {mg:Str→Option Value} {base:Heap}
/-- .. None where the test holds -/
def noF (n N:Nat) (b:DT):DF:=lenF n fun ws m=>(b (zup N ws) m).bind fun c m1=>if c=true then .ok (.d .non) m1 else .no
end
end DL
namespace DL
open PySem PySem.Spec L2
open PyProof.Rows hiding St
theorem dgn {X:Cx} (i:Nat) {x:Str} {pos:Pos} (hN:X.N.Nodup) (hi:X.N[i]?=some x:=by rfl) (hx:L2.Loc X.env.scope x:=by exact Or.inl rfl) (hf:X.fn x=true∨X.env.scope.names.lookup x=some .local:=by first |exact .inl rfl |exact .inr rfl |assumption):PG X (.Name x pos) (tG X.K [i] (gNm i)):=zx0 (pg_name hN hi hx hf)
theorem rmo {j k:Nat} {A:Around} (h:RoomG k A) (l:j≤k:=by decide):RoomG j A:=h.mono l
end DL
namespace DL
open PySem PySem.Spec L2
open PyProof.Rows hiding St
open Evl (Ex)
abbrev VP:=V × PyData
def zuy (bs:List VP):List VP:=bs.mergeSort (PySem.W.dataLe false (·.2))
def zv1 (K:Fg):List V→Hp→VK→Prop:=fun vs H Q=>∃(a:Addr) (bs:List VP),vs=[V.ref a]∧SqL K H a (bs.map (·.1))∧(∀b∈bs,Dp K H b.1 b.2)∧PySem.W.AllAlike (bs.map (·.2))∧PySem.W.Sortable (bs.map (·.2))∧bs.length≤sizeLine ∧
 (∀b∈bs,b.2.depth≤50)∧∀p,H p=none→Q (.ref p) (upd H p (.lst ((zuy bs).map (·.1))))
theorem zb3:∀{bs:List VP} {us:List Value},Vals (bs.map (·.1)) us→PySem.W.EachIs (fun u (b:VP)=>RelV b.1 u) us bs
 |[],us,h=>by cases h;exact .nil
 |b::bs,us,h=>by cases h with |cons h1 h2=>exact .cons h1 (zb3 h2)
theorem zi1:∀{bs:List VP} {us:List Value},PySem.W.EachIs (fun u (b:VP)=>RelV b.1 u) us bs→Vals (bs.map (·.1)) us
 |_,_,.nil=>Paired.nil
 |_,_,.cons h1 h2=>Paired.cons h1 (zi1 h2)
theorem each_mem {R S:Value→VP→Prop}:∀{us:List Value} {bs:List VP},PySem.W.EachIs R us bs→(∀u,∀b∈bs,R u b→S u b)→PySem.W.EachIs S us bs
 |_,_,.nil,_=>.nil
 |_,_,.cons h1 h2,h=>.cons (h _ _ List.mem_cons_self h1) (each_mem h2 fun u b hb=>h u b (List.mem_cons_of_mem _ hb))
theorem zl5 {X:Cx} (hu:X.A.units+64<cLine):CallR X (.builtin "sorted") (zv1 X.K):=by
 intro pins s σ H vs us Q I r h
 obtain⟨a,bs,rfl,hs,hd,hal,hso,hl,hdp,q⟩:=h
 obtain⟨its,rv,hli,_⟩:=I.list hs
 rw[Vals.ref1 r]
 have e:=zb3 rv
 have er:PySem.W.EachIs (fun (v:Value) (b:VP)=>∃as,Reads s.heap v b.2 as) its bs:=each_mem e fun u b hb hr=>Dp.reads I b.2 b.1 u (hd b hb) hr
 refine PySem.W.sorted_data (enc:=fun b:VP=>b.2) hli.isList e er hal hso hl (fun b hb=>by have:=hdp b hb;omega) fun out hlen eo=>?_
 obtain⟨ep,he'⟩:=PyProof.Rows.sortedAll_at s.heap its (List.toArray out)
 have hp:((zuy bs).map (·.1)).length≤sizeLine:=by rw[List.length_map];unfold zuy;rw[List.length_mergeSort];exact hl
 exact⟨.ref _,upd H (s.heap.objs.size+1) (.lst ((zuy bs).map (·.1))),I.laid (t':=s.toks) (fun _ _=>PyProof.Rows.sortedAll_old) (Nat.le_succ _) ⟨hp,(List.toArray out).toList,ep,zi1 eo,he'⟩,rfl,q _ (I.hok.fresh (Nat.le_succ _))⟩
abbrev DP:=D × PyData
def zy5 (bs:List DP):List DP:=bs.mergeSort (PySem.W.dataLe false (·.2))
def z96 (ps:List PyData):Bool:=ps.all fun p=>ps.all fun q=>PySem.W.alike p q
def zjfb:PyData→Bool
 |.tuple (_::_)=>true
 |_=>false
def isNoT:PyData→Bool
 |.tuple _=>false
 |.none=>false
 |_=>true
def zp1 (ps:List PyData):Bool:=ps.all zjfb ||ps.all isNoT
def zwz:List D→Option D
 |[x]=>(match lstD x with
  |some ds=>(match toPs ds with
   |some ps=>if z96 ps=true∧zp1 ps=true∧ds.length≤sizeLine∧(ps.all fun p=>decide (p.depth≤50))=true then some (.lst ((zy5 (ds.zip ps)).map (·.1))) else none
   |none=>none)
  |none=>none)
 |_=>none
def zgv (xs:List D):Option D:=match zam xs with
 |some z=>some z
 |none=>zwz xs
theorem zkcb {ps:List PyData} (h:z96 ps=true):PySem.W.AllAlike ps:=fun d hd d' hd'=>List.all_eq_true.mp (List.all_eq_true.mp h d hd) d' hd'
theorem zb9 {ps:List PyData} (h:zp1 ps=true):PySem.W.Sortable ps:=by
 unfold zp1 at h
 rcases Bool.or_eq_true _ _ |>.mp h with h |h
 ·refine .inl fun d hd=>?_
  have:=List.all_eq_true.mp h d hd
  unfold zjfb at this
  split at this
  ·exact⟨_,_,rfl⟩
  ·cases this
 ·refine .inr fun d hd=>?_
  have:=List.all_eq_true.mp h d hd
  refine⟨fun z=>?_,fun xs z=>?_⟩ <;> (rw[z] at this;cases this)
/-- three rows side by side -/
inductive Tri (K:Fg) (H1:Hp):List V→List D→List PyData→Prop
 |nil:Tri K H1 [] [] []
 |cons {v:V} {d:D} {p:PyData} {vs:List V} {ds:List D} {ps:List PyData}:Rp K H1 v d→toP d=some p→Tri K H1 vs ds ps→Tri K H1 (v::vs) (d::ds) (p::ps)
theorem z0eb {K:Fg} {H1:Hp}:∀{vs:List V} {ds:List D} {ps:List PyData},RpL K H1 vs ds→toPs ds=some ps→Tri K H1 vs ds ps
 |_,_,_,.nil,h=>by unfold toPs at h;cases h;exact .nil
 |_,d::ds,_,.cons h1 h2,h=>by
  unfold toPs at h
  split at h
  ·rename_i p hp
   split at h
   ·rename_i ps hps
    cases h
    exact .cons h1 hp (z0eb h2 hps)
   ·cases h
  ·cases h
abbrev VDP:=V × D × PyData
theorem zw8 {K:Fg} {H1:Hp}:∀{vs:List V} {ds:List D} {ps:List PyData},Tri K H1 vs ds ps→∃ts:List VDP,ts.map (·.1)=vs∧ts.map (·.2.1)=ds∧ts.map (·.2.2)=ps∧∀t∈ts,Rp K H1 t.1 t.2.1∧toP t.2.1=some t.2.2
 |_,_,_,.nil=>⟨[],rfl,rfl,rfl,fun _ z=>nomatch z⟩
 |_,_,_,.cons (v:=v) (d:=d) (p:=p) h1 h2 h3=>by
  obtain⟨ts,e1,e2,e3,h⟩:=zw8 h3
  refine⟨(v,d,p)::ts,by rw[List.map_cons,e1],by rw[List.map_cons,e2],by rw[List.map_cons,e3],fun t ht=>?_⟩
  rcases List.mem_cons.mp ht with rfl |ht
  ·exact⟨h1,h2⟩
  ·exact h t ht
theorem sort_map {α β : Type} (f : α → β) (k : β → PyData) (ts:List α):(ts.map f).mergeSort (PySem.W.dataLe false k)=(ts.mergeSort (PySem.W.dataLe false fun t=>k (f t))).map f:=by
 rw[List.map_mergeSort (r:=PySem.W.dataLe false fun t=>k (f t)) (s:=PySem.W.dataLe false k)]
 intro a _ b _
 rfl
theorem zn9 {K:Fg} {H1:Hp}:∀{ts:List VDP},(∀t∈ts,Rp K H1 t.1 t.2.1)→RpL K H1 (ts.map (·.1)) (ts.map (·.2.1))
 |[],_=>.nil
 |t::ts,h=>.cons (h t List.mem_cons_self) (zn9 fun x hx=>h x (List.mem_cons_of_mem _ hx))
theorem zyeb {α β γ : Type} (f : α → β) (g : α → γ) (ts:List α):(ts.map f).zip (ts.map g)=ts.map fun t=>(f t,g t):=by
 induction ts with
 |nil=>rfl
 |cons t ts ih=>rw[List.map_cons,List.map_cons,List.zip_cons_cons,ih,List.map_cons]
theorem zmy {X:Cx} (hu:X.A.units+64<cLine):zgn X (.builtin "sorted") zgv:=by
 obtain⟨r0,c0,e0⟩:=zqm (X:=X)
 refine⟨fun xs H Q=>r0 xs H Q∨zv1 X.K xs H Q,z46 c0 (zl5 hu),fun H1 H al m vs xs z Q r hx hz k=>?_⟩
 unfold zgv at hz
 cases hs:zam xs with
 |some y=>
  rw[hs] at hz
  cases hz
  exact .inl (e0 H1 H al m vs xs _ Q r hx hs k)
 |none=>
  have hz:zwz xs=some z:=by rw[hs] at hz;exact hz
  refine .inr ?_
  unfold zwz at hz
  split at hz
  ·obtain⟨v,rfl,h⟩:=rh1 hx
   split at hz
   ·rename_i ds hds
    obtain⟨a,us,rfl,h1,h2⟩:=h.sql r.ex hds
    split at hz
    ·rename_i ps hps
     split at hz
     ·rename_i hc
      obtain⟨c1,c2,c3,c4⟩:=hc
      cases hz
      obtain⟨ts,t1,t2,t3,t4⟩:=zw8 (z0eb h2 hps)
      have ebs:(ts.map fun t=>((t.1,t.2.2):VP)).map (·.1)=us:=by rw[List.map_map,←t1];rfl
      have eps:(ts.map fun t=>((t.1,t.2.2):VP)).map (·.2)=ps:=by rw[List.map_map,←t3];rfl
      refine⟨a,ts.map fun t=>(t.1,t.2.2),rfl,by rw[ebs];exact h1,fun b hb=>?_,by rw[eps];exact zkcb c1,by rw[eps];exact zb9 c2,by rw[List.length_map,←List.length_map (f:=fun t:VDP=>t.2.1),t2];exact c3,fun b hb=>?_,fun p hp=>?_⟩
      ·obtain⟨t,ht,rfl⟩:=List.mem_map.mp hb
       exact zl1 r.ex (t4 t ht).1 (t4 t ht).2
      ·have hm:b.2∈ps:=by rw[←eps];exact List.mem_map.mpr ⟨b,hb,rfl⟩
       exact of_decide_eq_true (List.all_eq_true.mp c4 _ hm)
      ·have s1:(zuy (ts.map fun t=>((t.1,t.2.2):VP))).map (·.1)=(ts.mergeSort (PySem.W.dataLe false fun t:VDP=>t.2.2)).map (·.1):=by
        unfold zuy
        rw[sort_map (fun t:VDP=>((t.1,t.2.2):VP)) (fun b:VP=>b.2),List.map_map]
        rfl
       have s2:(zy5 (ds.zip ps)).map (·.1)=(ts.mergeSort (PySem.W.dataLe false fun t:VDP=>t.2.2)).map (·.2.1):=by
        rw[←t2,←t3,zyeb]
        unfold zy5
        rw[sort_map (fun t:VDP=>((t.2.1,t.2.2):DP)) (fun b:DP=>b.2),List.map_map]
        rfl
       rw[s1]
       obtain⟨q1,q2,q3⟩:=zcm r (zn9 (K:=X.K) (H1:=H1) (ts:=ts.mergeSort (PySem.W.dataLe false fun t:VDP=>t.2.2)) fun t ht=>(t4 t ((List.mergeSort_perm ts _).mem_iff.mp ht)).1) hp
       rw[s2] at k
       exact k _ _ _ q1 q2 q3
     ·cases hz
    ·cases hz
   ·cases hz
  ·cases hz
end DL
namespace DL
open PySem PySem.Spec L2
open PyProof.Rows hiding St
open Evl (Ex)
theorem RoomG.u65 {k:Nat} {A:Around} (r:RoomG k A):A.units+65<cLine:=by have:=r.toRoom.un;omega
def inLD (x y:D):Option D:=match toP x with
 |some d=>(match toP y with
  |some (.list ps)=>chk (SeqAt.shaped d=true∧SeqAt.shaped (.list ps)=true) (.bl (ps.any fun z=>PyData.eqv z d))
  |_=>none)
 |none=>none
section
variable {X:Cx}
theorem zbdb (hu:X.A.units+65<cLine):OpOk X (compareOp .In) inLD:=by
 refine⟨_,op_inD hu,fun H1 H al m v w x y z Q r hx hy hz k=>?_⟩
 unfold inLD at hz
 split at hz
 ·rename_i d hd
  split at hz
  ·rename_i ps hps
   obtain⟨⟨h1,h2⟩,rfl⟩:=zgc hz
   exact⟨d,ps,rh_dp r.ex hx hd,rh_dp r.ex hy hps,h1,h2,k H1 H _ (Ex.refl _) r (.bl _)⟩
  ·cases hz
 ·cases hz
end
end DL
namespace DL
open PySem PySem.Spec L2
open PyProof.Rows hiding St
open Evl (Ex)
theorem zueb {M:Model} {A:Around} {E:Value→Shared→Prop} {s:Shared} {a b:Value} {T U nm:String} {Q:Option Value→Shared→Prop} (ha:s.TypeIs a T) (hb:s.TypeIs b U)
  (hf:fillsNumberSlot (.type T) nm=pure false) (hg:fillsNumberSlot (.type U) nm=pure false) (h:Q none s):wpAny M A (binaryOp1 nm a b) Q E s:=by
 simp only[binaryOp1]
 refine wpAny_bind (wpAny_typeOf ha (wpAny_bind (wpAny_typeOf hb (wpAny_bind (wpAny_of_eq hf ?_)))))
 rw[hg,ite_self]
 simp only[pure_bind,Bool.false_and,Bool.false_eq_true,if_false]
 exact wpAny_pure h
theorem zydb {M:Model} {A:Around} {E:Value→Shared→Prop} {s:Shared} {a b:Value} {Q:Value→Shared→Prop} (ha:s.TypeIs a "list") (hb:s.TypeIs b "tuple") (hc:wpAny M A (call (.builtin "list.__iadd__") [a,b]) Q E s):wpAny M A (inplaceOp .Add a b) Q E s:=by
 have hsl:typeLookup (.type "list") (dunderI "add")=pure (some (.builtin "list.__iadd__")):=PySem.F.slot_list_iadd.lookup
 have hsq:isSeqSlot (some (.builtin "list.__iadd__"))=true:=by decide +kernel
 have hfi:fillsInplaceSlot (.type "list") "add" (Operator.Add == .Add)=pure false:=by
  unfold fillsInplaceSlot
  show (typeLookup (.type "list") (dunderI "add") >>= fun fi=>pure (fi.isSome && !isSeqSlot fi))=pure false
  rw[hsl]
  show (pure (true && !isSeqSlot (some (.builtin "list.__iadd__"))):Sem Bool)=pure false
  rw[hsq] <;> rfl
 have hsi:seqSlot? (.type "list") (dunderI "add")=pure (some (.builtin "list.__iadd__")):=PySem.seqSlot_of hsl hsq
 unfold inplaceOp
 refine wpAny_holding ?_
 refine wpAny_bind (wpAny_typeOf ha (wpAny_bind (wpAny_of_eq hfi ?_)))
 show wpAny M A (if false=true then _ else _) Q E s
 rw[if_neg Bool.false_ne_true]
 refine wpAny_bind (zueb (nm:="add") ha hb noFill_list_add noFill_tuple_add ?_)
 refine wpAny_bind (wpAny_of_eq hsi ?_)
 exact wpAny_bind (wpAny_rule hc)
theorem zhhb (l:Addr) (items:Array Value) (n:Nat) (b:Addr) (items2:Array Value) (n2:Nat) (dd:Option Addr) (ss:Array (Option Value)) (hs0:¬(!items.isEmpty&&Builtin.List.listTooLong (items.size+items2.size))=true) (hs1:items.size≤sizeLine) (hs2:items.size+items2.size≤sizeLine+1) :
  Meets (Builtin.«list.__iadd__» ⟨[.ref l,.ref b],[]⟩) (fun _ R s=>s.heap.get? l=some {cls:=.type "list",dict:=none,data:=.seq items n,slots:=#[]}∧s.heap.get? b=some {cls:=.type "tuple",dict:=dd,data:=.seq items2 n2,slots:=ss}∧R (.ok (.ret (Value.ref l))) {s with heap:=s.heap.update l (Obj.mapSeq fun x=>x++items2),toks:=s.toks}):=
 .of_wp fun prog w A R s h=>by
  obtain⟨hp,g,d,tk,os⟩:=s;obtain⟨hl,hb,h⟩:=h;have f1:=AutoSeq1.idx_int;have f2:=AutoSeq1.sub_tuple_tuple;have f3:=AutoSeq1.sub_list_list;have f4:=AutoSeq1.sub_tuple_list;have f5:=AutoSeq1.sub_list_tuple
  have hz':(items++items2).size≤sizeLine+1:=by rw[Array.size_append];exact hs2
  wp_walk using (wpAny_updateSeq hl rfl (hz:=hs1) (_hz':=hz')),AutoSeq1.wpAny_loadPart' hl,AutoSeq1.wpAny_loadPart' hb;exact⟨_,rfl,h⟩
def rExtT (K:Fg):R2:=fun x y H Q=>∃l b xs zs,x = .ref l∧y = .ref b∧H l=some (.lst xs)∧SqT K H b zs∧xs.length+zs.length≤sizeLine∧Q (.ref l) (upd H l (.lst (xs++zs)))
section
variable {X:Cx} {Wx:WX}
theorem zwdb:OpR X (inplaceOp .Add) (rExtT X.K):=by
 intro pins s σ H x y v u Q I rx ry h
 obtain⟨l,b,xs,zs,rfl,rfl,hH,hB,hz,q⟩:=h
 cases rx
 cases ry
 obtain⟨z,its,n,r,hl,e⟩:=I.lstM hH
 obtain⟨its2,r2,⟨o,e2,hc,n2,hd⟩,hl2⟩:=I.tuple hB
 obtain⟨oc,od,odt,osl⟩:=o
 cases hc
 cases hd
 have hlen2:=r2.length
 have hsz:its.toArray.size+its2.toArray.size≤sizeLine:=by rw[List.size_toArray,List.size_toArray];omega
 have hlong:¬(!its.toArray.isEmpty&&Builtin.List.listTooLong (its.toArray.size+its2.toArray.size))=true:=by
  rw[notLongL hsz,Bool.and_false]
  exact Bool.false_ne_true
 refine zydb ⟨_,e,rfl⟩ ⟨_,e2,rfl⟩ (call_meets PySem.F.slot_list_iadd ⟨_,e,rfl⟩ PySem.F.entry_list_iadd (PySem.F.args_list_iadd_2 _ _)
  (zhhb l its.toArray n b its2.toArray n2 od osl hlong (by rw[List.size_toArray];omega) (by omega)) ⟨e,e2,?_⟩)
 refine⟨.ref l,_,I.lset (its':=its++its2) (t':=s.toks) hH e (by simp) (r.append r2) ?_,rfl,q⟩
 rw[List.length_append]
 omega
def rAugT (K:Fg):R2:=fun x y H Q=>rAug x y H Q∨rExtT K x y H Q
theorem zehb:PIp X .Add (rAugT X.K):=fun pins s σ H x y v u Q I rx ry h=>by
 rcases h with h |h
 ·exact zkfb pins s σ H x y v u Q I rx ry h
 ·exact zwdb pins s σ H x y v u Q I rx ry h
theorem zweb {K:Fg} {H1 H:Hp} {al:Gh} {m:Mem} {σ : L2.St} {Q:VK} {x y:W} {xv yv:V} (r:Rel K H1 H al m) (hx:RpW K H1 al xv x) (hy:RpW K H1 al yv y) (p:Post K H1 al σ Wx (GV K Q) (augTW x y m)):rAugT K xv yv H Q:=by
 unfold augTW at p
 cases hl:x.loc with
 |some l=>
  rw[hl] at p
  dsimp only at p
  split at p
  ·rename_i us hus
   split at p
   ·rename_i zs hzs
    split at p
    ·rename_i hz
     split at p
     ·rename_i m' hm'
      obtain⟨a,vs,rfl,h1,h2,h3⟩:=z1y r hx hl hus
      obtain⟨b,ws,rfl,h4,h5⟩:=(hy.rh r hzs).tup r.ex
      refine .inr ⟨a,b,vs,ws,rfl,rfl,h1,h4,by rw[h2.length,h5.length];exact hz,?_⟩
      exact p H1 al _ (Ex.refl _) (zkb _) (h3 _ _ _ (h2.append (RpHs.ofD h5)) hm') _ hx
     ·exact p.elim
    ·exact p.elim
   ·exact .inl (zq5 r hx hy p)
  ·exact p.elim
 |none=>
  rw[hl] at p
  exact .inl (zq5 r hx hy p)
theorem z0hb {i:Nat} {x:Str} {e:Expr} {fe:DE} {pos' pos:Pos} (hN:X.N.Nodup) (hi:X.N[i]?=some x) (hx:L2.Loc X.env.scope x) (he:PE X e (tD X.K Wx fe)) (hf:X.fn x=true∨X.env.scope.names.lookup x=some .local:=by first |exact .inl rfl |exact .inr rfl |assumption) :
  PS X (.AugAssign (.Name x pos') .Add e pos) (tS X.K Wx (sAugT i fe)):=psImp (ps_aug hN hi hx he zehb hf) fun En σ H ⟨H1,al,dl,m,r,en,p⟩=>by
 unfold sAugT at p
 split at p
 ·rename_i w hw
  obtain⟨v,hv,q⟩:=en.at_ i w hw
  refine⟨v,hv,H1,al,dl,m,r,en,p.of en fun y m1 H1' al' H' e1 l1 r1 p1 yv hy=>?_⟩
  have en1:=en.mono e1 l1
  exact zweb (Wx:=Wx) (σ := σ) r1 (q.mono e1 l1) hy (p1.of en1 fun z m2 H2 al2 H2' e2 l2 r2 p2 zv hz=>p2.nx_ r2 ((en1.mono e2 l2).set i hz))
 ·exact p.elim
end
end DL
namespace TM
open PySem PySem.Spec PySem.Builtin PySem.Builtin.Str SX
theorem mul_S (l:List Nat) (n:Int):Txt.mul (S l) n=S (List.replicate n.toNat l).flatten:=by
 have key:∀(k:Nat) (acc:Array Nat),((List.replicate k (S l).cps).foldl (· ++ ·) acc).toList=acc.toList++(List.replicate k l).flatten:=by
  intro k
  induction k with
  |zero=>intro acc;simp
  |succ k ih=>intro acc;rw[List.replicate_succ,List.foldl_cons,ih,List.replicate_succ,List.flatten_cons];simp
 unfold Txt.mul
 split
 ·rename_i h
  have:n.toNat=0:=by omega
  rw[this]
  rfl
 ·split
  ·rename_i h h2
   simp only[Bool.or_eq_true,beq_iff_eq] at h2
   rcases h2 with h2 |h2
   ·subst h2
    simp
   ·have e:l=[]:=by
     rw[S_len] at h2
     exact List.length_eq_zero_iff.mp h2
    subst e
    simp
  ·refine TL.ext_tl ?_
   exact (key n.toNat #[]).trans (List.nil_append _)
theorem zvgb {l:List Nat} {n:Int} (h0:n<2 ^ 24) (h1 : -(2 ^ 24)<n) (h:l.length*n.toNat≤2 ^ 24):MulOk (S l) n:=by
 have hl:(S l).length=l.length:=S_len l
 refine⟨?_,?_,?_⟩
 ·have e1:decide (n < -(2 ^ 63:Int))=false:=decide_eq_false (by omega)
  have e2:decide (n ≥ 2 ^ 63)=false:=decide_eq_false (by omega)
  rw[e1,e2];rfl
 ·intro hn _
  rw[hl]
  have hm:(l.length:Int)*n≤2 ^ 24:=by
   have:(n.toNat:Int)=n:=Int.toNat_of_nonneg (by omega)
   rw[←this]
   exact_mod_cast h
  have:(l.length:Int)≤(2 ^ 63-1) / n:=by
   refine (Int.le_ediv_iff_mul_le (by omega)).mpr ?_
   omega
  omega
 ·intro _ _
  rw[hl]
  unfold Builtin.Str.tooLong sizeLine
  exact decide_eq_false (by omega)
theorem nl_S (a:List Nat):(!(Builtin.Str.occurrences (S a) (S [10]) 0 (S a).length 1).isEmpty)=decide (10∈a):=StrLaws.found_one (S a) 10
abbrev sp (c:Nat):Bool:=c==32
def ldw (a:List Nat):List Nat:=a.dropWhile sp
def rdw (a:List Nat):List Nat:=(a.reverse.dropWhile sp).reverse
theorem zl4:(fun c=>(S [32]).cps.contains c)=sp:=by
 funext c
 simp[S,sp,eq_comm]
 rw[Bool.eq_iff_iff]
 simp
theorem zuw {p:Nat→Bool}:∀l:List Nat,l.drop (l.takeWhile p).length=l.dropWhile p
 |[]=>rfl
 |c::l=>by
  rw[List.takeWhile_cons,List.dropWhile_cons]
  split
  ·exact zuw l
  ·rfl
theorem zx5 {p:Nat→Bool} (l:List Nat):l.take (l.length-(l.reverse.takeWhile p).length)=(l.reverse.dropWhile p).reverse:=by
 rw[←zuw,List.drop_reverse,List.reverse_reverse]
theorem zodb (a:List Nat):Txt.lstripChars (S a) (S [32])=S (ldw a):=by
 unfold Txt.lstripChars
 have e:(S [32]).cps.contains=sp:=zl4
 rw[e,PyProof.Rows.stripBy_eq]
 refine TL.ext_tl ?_
 rw[TL.tl_strSub]
 unfold stripLo stripHi
 simp only[if_true,Bool.false_eq_true,if_false]
 show ((a.drop (a.takeWhile sp).length).take _)=a.dropWhile sp
 rw[zuw]
 refine List.take_of_length_le ?_
 rw[S_len,←zuw,List.length_drop]
 exact Nat.le_refl _
theorem zzcb (a:List Nat):Txt.rstripChars (S a) (S [32])=S (rdw a):=by
 unfold Txt.rstripChars
 have e:(S [32]).cps.contains=sp:=zl4
 rw[e,PyProof.Rows.stripBy_eq]
 refine TL.ext_tl ?_
 rw[TL.tl_strSub]
 unfold stripLo stripHi
 simp only[if_true,Bool.false_eq_true,if_false]
 rw[S_len]
 show ((a.drop 0).take (a.length-((a.drop 0).reverse.takeWhile sp).length-0))=rdw a
 rw[List.drop_zero,Nat.sub_zero,zx5]
 rfl
theorem z3fb (a:List Nat):Txt.stripChars (S a) (S [32])=S (rdw (ldw a)):=by
 unfold Txt.stripChars
 have e:(S [32]).cps.contains=sp:=zl4
 rw[e,PyProof.Rows.stripBy_eq]
 refine TL.ext_tl ?_
 rw[TL.tl_strSub]
 unfold stripLo stripHi
 simp only[if_true]
 rw[S_len]
 show ((a.drop (a.takeWhile sp).length).take (a.length-((a.drop (a.takeWhile sp).length).reverse.takeWhile sp).length-(a.takeWhile sp).length))=rdw (ldw a)
 have h:=zx5 (p:=sp) (ldw a)
 unfold rdw
 rw[←h]
 unfold ldw
 rw[←zuw]
 congr 1
 rw[List.length_drop]
 omega
end TM
namespace DL
open PySem PySem.Spec L2 SX TM
section
variable {α β : Type}
theorem z1bb {g:DG} {e:DE} {wd:Env} {m:Mem} {enc : α → D} {dec : α → D}:∀(xs:List α) (acc:List D),(∀x∈xs,∃dl1,g (.d (enc x)) wd=some dl1∧e dl1 m = .ok (.d (dec x)) m)→acc.length+xs.length≤sizeLine →
  compD g bYes e wd (xs.map enc) acc m = .ok (acc++xs.map dec) m
 |[],acc,_,_=>by simp[compD]
 |x::xs,acc,h,hz=>by
  obtain⟨dl1,e1,e2⟩:=h x List.mem_cons_self
  have hl:acc.length+(xs.length+1)≤sizeLine:=hz
  rw[List.map_cons]
  unfold compD
  rw[e1]
  simp only[bYes]
  rw[e2]
  show (if acc.length<sizeLine then compD g bYes e wd (xs.map enc) (acc++[dec x]) m else .no)=_
  rw[if_pos (by omega),z1bb xs _ (fun y hy=>h y (List.mem_cons_of_mem _ hy)) (by rw[List.length_append];show acc.length+1+xs.length≤_;omega)]
  simp
theorem zgp {g:DG} {e:DE} {wd:Env} {m:Mem} {enc : α → D} {dec : α → D} (xs:List α) (h:∀x∈xs,∃dl1,g (.d (enc x)) wd=some dl1∧e dl1 m = .ok (.d (dec x)) m) (hz:xs.length≤sizeLine) :
  compD g bYes e wd (xs.map enc) [] m = .ok (xs.map dec) m:=by
 rw[z1bb xs [] h (by simpa using hz),List.nil_append]
theorem zm5 {g:DG} {t:DT} {e:DE} {wd:Env} {m:Mem} {enc : α → D} {dec : α → D} (c : α → Bool):∀(xs:List α) (acc:List D),(∀x∈xs,∃dl1,g (.d (enc x)) wd=some dl1∧t dl1 m = .ok (c x) m∧(c x=true→e dl1 m = .ok (.d (dec x)) m))→acc.length+xs.length≤sizeLine →
  compD g t e wd (xs.map enc) acc m = .ok (acc++(xs.filter c).map dec) m
 |[],acc,_,_=>by simp[compD]
 |x::xs,acc,h,hz=>by
  obtain⟨dl1,e1,e2,e3⟩:=h x List.mem_cons_self
  have hl:acc.length+(xs.length+1)≤sizeLine:=hz
  rw[List.map_cons]
  unfold compD
  rw[e1]
  simp only[]
  rw[e2]
  cases hc:c x with
  |true=>
   simp only[]
   rw[e3 hc]
   show (if acc.length<sizeLine then compD g t e wd (xs.map enc) (acc++[dec x]) m else .no)=_
   rw[if_pos (by omega),zm5 c xs _ (fun y hy=>h y (List.mem_cons_of_mem _ hy)) (by rw[List.length_append];show acc.length+1+xs.length≤_;omega)]
   simp[hc]
  |false=>
   simp only[]
   rw[zm5 c xs _ (fun y hy=>h y (List.mem_cons_of_mem _ hy)) (by omega)]
   simp[hc]
theorem zhp {g:DG} {t:DT} {e:DE} {wd:Env} {m:Mem} {enc : α → D} {dec : α → D} (c : α → Bool) (xs:List α) (h:∀x∈xs,∃dl1,g (.d (enc x)) wd=some dl1∧t dl1 m = .ok (c x) m∧(c x=true→e dl1 m = .ok (.d (dec x)) m)) (hz:xs.length≤sizeLine) :
  compD g t e wd (xs.map enc) [] m = .ok ((xs.filter c).map dec) m:=by
 rw[zm5 c xs [] h (by simpa using hz),List.nil_append]
/-- a loop that keeps the memory and looks for the first x with p x -/
theorem z01 {g:DG} {b:DS} {m:Mem} {enc : α → D} (p : α → Bool) (J:Env→Prop) (R : α → W→Prop):∀(xs:List α) (dl:Env),J dl →
  (∀x∈xs,∀dl,J dl→∃dl1,g (.d (enc x)) dl=some dl1∧(p x=true→∃w,b dl1 m = .rt w m∧R x w)∧(p x=false→∃dl2,b dl1 m = .nx dl2 m∧J dl2)) →
  match xs.find? p with
  |some x=>∃w,loopD g b (xs.map enc) dl m = .rt w m∧R x w
  |none=>∃dl2,loopD g b (xs.map enc) dl m = .nx dl2 m∧J dl2
 |[],dl,h,_=>⟨dl,rfl,h⟩
 |x::xs,dl,h,st=>by
  obtain⟨dl1,e1,y,n⟩:=st x List.mem_cons_self dl h
  rw[List.map_cons]
  unfold loopD
  rw[e1]
  cases hp:p x with
  |true=>
   rw[List.find?_cons_of_pos hp]
   obtain⟨w,e2,hr⟩:=y hp
   exact⟨w,by simp only[];rw[e2],hr⟩
  |false=>
   rw[List.find?_cons_of_neg (by rw[hp];exact Bool.false_ne_true)]
   obtain⟨dl2,e2,j2⟩:=n hp
   have ih:=z01 p J R xs dl2 j2 fun y hy=>st y (List.mem_cons_of_mem _ hy)
   simp only[]
   rw[e2]
   exact ih
end
abbrev Src:=Int × Int × Int
def sc (s:Src):Cell:=.lst [.int s.1,.int s.2.1,.int s.2.2]
structure Good (n:Nat) (s:Src):Prop where
 a:0≤s.1
 b:0≤s.2.1
 c:0≤s.2.2
 d:s.2.2+n≤2 ^ 62
theorem Good.mono {n k:Nat} {s:Src} (h:Good n s) (hk:k≤n):Good k s:=⟨h.a,h.b,h.c,by have:=h.d;omega⟩
/-- m is m0 but for the source at k, which may be asked n times more -/
structure At (k n:Nat) (m0 m:Mem):Prop where
 ln:m.length=m0.length
 ot:∀j,j≠k→m[j]?=m0[j]?
 sr:∃s,m[k]?=some (sc s)∧Good n s
theorem At.mono {k n j:Nat} {m0 m:Mem} (h:At k n m0 m) (hj:j≤n):At k j m0 m:=⟨h.ln,h.ot,let ⟨s,a,b⟩:=h.sr;⟨s,a,b.mono hj⟩⟩
theorem At.tk {k n:Nat} {m0 m:Mem} (h:At k n m0 m):m.take m0.length=m:=List.take_of_length_le (by rw[h.ln];exact Nat.le_refl _)
theorem At.self {k n n':Nat} {m0 m:Mem} (h:At k n m0 m):At k n m m:=⟨rfl,fun _ _=>rfl,h.sr⟩
theorem At.trans {k n n':Nat} {m0 m m':Mem} (h:At k n m0 m) (h':At k n' m m'):At k n' m0 m':=⟨h'.ln.trans h.ln,fun j hj=>(h'.ot j hj).trans (h.ot j hj),h'.sr⟩
theorem At.set {k n n':Nat} {m0 m:Mem} {s:Src} (h:At k n m0 m) (g:Good n' s):At k n' m0 (m.set k (sc s)):=by
 obtain⟨s0,h1,_⟩:=h.sr
 refine⟨by rw[List.length_set];exact h.ln,fun j hj=>by rw[List.getElem?_set_ne (Ne.symm hj)];exact h.ot j hj,s,?_,g⟩
 rw[List.getElem?_set_self (List.getElem?_eq_some_iff.mp h1).1]
@[simp] theorem take_all (m:Mem):m.take m.length=m:=List.take_length
@[simp] theorem take_set (m:Mem) (k:Nat) (x:Cell):(m.set k x).take m.length=m.set k x:=List.take_of_length_le (by rw[List.length_set];exact Nat.le_refl _)
theorem zpv (n:Nat):(rngD 0 n).length=n:=by unfold rngD;simp
theorem e_sp:Str.ofString " " = S [32]:=by decide
theorem e_nl:Str.ofString "\n" = S [10]:=by decide
theorem e_em:Str.ofString "" = S []:=by decide
theorem ix_str {a:List Nat} {i:Int} {c:Nat} (h0:0≤i) (h:a[i.toNat]?=some c) (hz:a.length≤sizeLine):ixD (.str (S a)) (.int i)=some (.str (S [c])):=by
 show (match atI (S a).cps.toList i with |some c=>chk ((S a).length≤sizeLine) (D.str ⟨#[c]⟩) |none=>none)=_
 have e:atI (S a).cps.toList i=some c:=(zfib _ h0).trans h
 rw[e]
 simp only[]
 rw[z7b (by rw[S_len];exact hz)]
theorem mul_str {l:List Nat} {n:Int} (h0:n<2 ^ 24) (h1 : -(2 ^ 24)<n) (h:l.length*n.toNat≤2 ^ 24):mulD (.str (S l)) (.int n)=some (.str (S (List.replicate n.toNat l).flatten)):=by
 show chk _ _=_
 rw[z7b (zvgb h0 h1 h),mul_S]
theorem zsjb {n:Int} (h0:n<2 ^ 24) (h1 : -(2 ^ 24)<n):mulD (.str (S [32])) (.int n)=some (.str (S (List.replicate n.toNat 32))):=by
 rw[mul_str h0 h1 (by simp;omega)]
 simp
def Txt8 (a:List Nat):Prop:=(∀c∈a,c<128)∧a.length≤100000
theorem Txt8.ok {a:List Nat} (h:Txt8 a):PyData.strOk (S a)=true:=z03 fun c hc=>Nat.lt_of_lt_of_le (h.1 c hc) (by decide)
theorem Txt8.sz {a:List Nat} (h:Txt8 a):a.length≤sizeLine:=by have:=h.2;unfold sizeLine;omega
theorem Txt8.nil:Txt8 []:=⟨fun _ h=>(by cases h),by simp⟩
theorem z0gb {a:List Nat} {c:Nat} (h:c∈ldw a):c∈a:=List.dropWhile_sublist _ |>.mem h
theorem zzgb {a:List Nat} {c:Nat} (h:c∈rdw a):c∈a:=by
 unfold rdw at h
 have:=(List.dropWhile_sublist _).mem (List.mem_reverse.mp h)
 exact List.mem_reverse.mp this
theorem zahb (a:List Nat):(ldw a).length≤a.length:=(List.dropWhile_sublist _).length_le
theorem zggb (a:List Nat):(rdw a).length≤a.length:=by
 unfold rdw
 rw[List.length_reverse]
 exact Nat.le_trans (List.dropWhile_sublist _).length_le (by rw[List.length_reverse];exact Nat.le_refl _)
theorem Txt8.ldw {a:List Nat} (h:Txt8 a):Txt8 (ldw a):=⟨fun c hc=>h.1 c (z0gb hc),Nat.le_trans (zahb a) h.2⟩
theorem Txt8.rdw {a:List Nat} (h:Txt8 a):Txt8 (rdw a):=⟨fun c hc=>h.1 c (zzgb hc),Nat.le_trans (zggb a) h.2⟩
theorem ztz {a:List Nat} (h:a.length≤sizeLine):zdv (.str (S a)) [.str (S [32])]=some (.str (S (TM.rdw (TM.ldw a)))):=by
 show chk _ _=_
 rw[z7b (by rw[S_len];exact h),z3fb]
theorem zb0 {a:List Nat} (h:a.length≤sizeLine):z6s (.str (S a)) [.str (S [32])]=some (.str (S (TM.ldw a))):=by
 show chk _ _=_
 rw[z7b (by rw[S_len];exact h),zodb]
theorem zycb {a:List Nat} (h:a.length≤sizeLine):z1z (.str (S a)) [.str (S [32])]=some (.str (S (TM.rdw a))):=by
 show chk _ _=_
 rw[z7b (by rw[S_len];exact h),zzcb]
theorem S_eq (a b:List Nat):(S a=S b)=(a=b):=propext ⟨S_inj,fun h=>by rw[h]⟩
theorem eq_str (a b:List Nat):eqD (.str (S a)) (.str (S b))=some (.bl (decide (a=b))):=by rw[zkh];simp only[S_eq]
/-- the lines of a text, as data -/
def lnD (ls:List (List Nat)):List D:=ls.map fun l=>.str (S l)
theorem zwn (ls:List (List Nat)):lnD ls=(ls.map S).map D.str:=by unfold lnD;rw[List.map_map];rfl
@[simp] theorem z3ob (ls:List (List Nat)):(lnD ls).length=ls.length:=by unfold lnD;rw[List.length_map]
theorem znjb {ls:List (List Nat)} (h:∀l∈ls,Txt8 l):∀x∈ls.map S,PyData.strOk x=true:=fun x hx=>by
 obtain⟨l,hl,rfl⟩:=List.mem_map.mp hx
 exact (h l hl).ok
theorem ne_nil {ls:List (List Nat)} (h:∀l∈ls,Txt8 l):neD (.lst (lnD ls)) (.lst [])=some (.bl (!decide (ls=[]))):=by
 rw[zwn,z65 (znjb h)]
 cases ls <;> rfl
@[simp] theorem take_snoc (m:Mem) (x:Cell):(m++[x]).take (m.length+1)=m++[x]:=List.take_of_length_le (by simp)
theorem zakb {ys:List (List Nat)} {s:Nat} (h:∀y∈ys,y.length≤5000) (hn:ys.length≤3000):joinD (.str (S [s])) [.lst (lnD ys)]=some (.str (S (TL.joinL [s] ys))):=by
 have e1:z4l (lnD ys)=some (ys.map S):=by
  rw[zwn]
  clear h hn
  induction ys with
  |nil=>rfl
  |cons y ys ih=>rw[List.map_cons,List.map_cons,z4l,ih];rfl
 have e2:seqD (.lst (lnD ys))=some (lnD ys):=rfl
 have e3:((ys.map S).map (·.length)).sum≤ys.length*5000:=by
  clear e1 e2 hn
  induction ys with
  |nil=>simp
  |cons y ys ih=>
   have h1:=h y List.mem_cons_self
   have h2:=ih fun z hz=>h z (List.mem_cons_of_mem _ hz)
   simp only[List.map_cons,List.sum_cons,List.length_cons,S_len] at h2 ⊢
   omega
 unfold joinD
 simp only[e2,e1]
 rw[z7b (by rw[S_len,List.length_map];simp only[List.length_singleton];omega),join_S]
theorem zsab {ls:List (List Nat)} {s:Nat} (h:∀y∈ls,y.length≤5000):(TL.joinL [s] ls).length≤ls.length*5001:=by
 induction ls with
 |nil=>exact Nat.zero_le _
 |cons y ys ih=>
  have h1:=h y List.mem_cons_self
  have h2:=ih fun z hz=>h z (List.mem_cons_of_mem _ hz)
  cases ys with
  |nil=>show y.length≤1*5001;omega
  |cons z ys=>
   show (y++([s]++TL.joinL [s] (z::ys))).length≤_
   rw[List.length_append,List.length_append]
   simp only[List.length_cons,List.length_nil] at h2 ⊢
   omega
theorem z98 {ls:List (List Nat)} {s:Nat} (hne:ls≠[]) (h:∀l∈ls,s ∉ l) (h5:∀y∈ls,y.length≤5000) (hn:ls.length≤3000) (hs:s<128):zo1 (.str (S (TL.joinL [s] ls))) [.str (S [s])]=some (.lst (lnD ls)):=by
 show chk _ _=_
 have hl:=zsab (s:=s) h5
 rw[z7b ⟨rfl,by rw[S_len];unfold sizeLine;omega⟩,split_S (by simp) (by simp;omega),SX.spl_join hne h,zwn]
end DL
namespace DL
open PySem PySem.Spec L2 TM
@[simp] theorem z4qb (a:DE) (f:DA) (dl:Env) (m:Mem):eApp a f dl m=(a dl m).bind fun x m1=>if isTy "list" x m1=true then (f dl m1).bind fun ws m2=>appW x ws m2 else .no:=nr rfl
theorem zyr (m:Mem) (c:Cell):(m++[c])[m.length]?=some c:=by simp
theorem zzz (m:Mem) (c c':Cell):(m++[c]).set m.length c'=m++[c']:=by simp
@[simp] theorem zlj (m:Mem) (acc:List D):isTy "list" (.c m.length) (m++[.lst acc])=true:=by
 unfold isTy
 show (match W.rd (.c m.length) (m++[.lst acc]) with |some d=>tyD "list" d |none=>false)=true
 have:W.rd (.c m.length) (m++[.lst acc])=some (.lst acc):=by
  show ((m++[Cell.lst acc])[m.length]?).map Cell.toD=_
  rw[zyr]
  rfl
 rw[this]
 rfl
@[simp] theorem z5l (m:Mem) (acc:List D) (d:D):appW (.c m.length) [.d d] (m++[.lst acc])=if acc.length<sizeLine then .ok (.d .non) (m++[.lst (acc++[d])]) else .no:=by
 show (match (m++[Cell.lst acc])[m.length]? with |some (.lst ds)=>if ds.length<sizeLine then Res.ok (W.d .non) ((m++[Cell.lst acc]).set m.length (.lst (ds++[d]))) else .no |_=>.no)=_
 rw[zyr]
 simp only[]
 rw[zzz]
@[simp] theorem zxmb (m:Mem) (c:Cell):frz m.length (.c m.length) (m++[c]) = .ok (.d c.fz) m:=by
 unfold frz
 simp
@[simp] theorem zqob (ds:List D):Cell.toD (.lst ds) = .lst ds:=nr rfl
@[simp] theorem zwrb (ds:List D):Cell.fz (.lst ds) = .lst ds:=nr rfl
@[simp] theorem zvrb (C:Str) (ns:List Str) (ds:List D):Cell.fz (.obj C ns ds) = .obj C ns ds:=nr rfl
@[simp] theorem zyjb (m:Mem):mkCel [] m = .ok (.c m.length) (m++[.lst []]):=by unfold mkCel;simp[z9f]
end DL
namespace NT
open TM
def z7c (c:Nat):Bool:=decide (97≤c)&&decide (c≤122)
def isTag (w:List Nat):Bool:=decide (1≤w.length)&&decide (w.length≤8)&&w.all z7c
abbrev Segs:=List (List Nat × Nat)
def txt:Segs→List Nat→List Nat
 |[],l=>l
 |(t,j)::ts,l=>t++58::(List.replicate (j+1) 32++txt ts l)
def wrd:Segs→List Nat→List Nat
 |[],l=>l
 |(t,j)::ts,l=>t++58::(if wrd ts l=[] then [] else List.replicate (j+1) 32++wrd ts l)
/-- what stands ahead of the first colon, and behind it -/
def cutC (w:List Nat):Option (List Nat × List Nat):=match w with
 |[]=>none
 |c::w=>if c=58 then some ([],w) else (cutC w).map fun p=>(c::p.1,p.2)
theorem zn3:∀{w:List Nat},cutC w=none↔58 ∉ w
 |[]=>by simp[cutC]
 |c::w=>by
  unfold cutC
  by_cases h:c=58
  ·simp[h]
  ·rw[if_neg h,Option.map_eq_none_iff,zn3]
   simp[Ne.symm h]
theorem z7w:∀{w h t:List Nat},cutC w=some (h,t)↔w=h++58::t∧58 ∉ h
 |[],h,t=>by simp[cutC]
 |c::w,h,t=>by
  unfold cutC
  by_cases e:c=58
  ·rw[if_pos e]
   subst e
   cases h with
   |nil=>simp[eq_comm]
   |cons a h=>simp;intro h1 h2;omega
  ·rw[if_neg e]
   cases h with
   |nil=>simp[e]
   |cons a h=>
    rw[Option.map_eq_some_iff]
    constructor
    ·rintro ⟨p,h1,h2⟩
     obtain⟨h3,h4⟩:=z7w.mp (show cutC w=some (p.1,p.2) from h1)
     simp only[Prod.mk.injEq,List.cons.injEq] at h2
     obtain⟨⟨rfl,rfl⟩,rfl⟩:=h2
     refine⟨by rw[h3];rfl,?_⟩
     simp[h4,Ne.symm e]
    ·rintro ⟨h1,h2⟩
     simp only[List.cons_append,List.cons.injEq] at h1
     obtain⟨rfl,h1⟩:=h1
     refine⟨(h,t),z7w.mpr ⟨h1,fun z=>h2 (List.mem_cons_of_mem _ z)⟩,rfl⟩
theorem zrv (x y:List Nat):rdw (x++y)=if rdw y=[] then rdw x else x++rdw y:=by
 unfold rdw
 rw[List.reverse_append]
 have key:∀a b:List Nat,(a++b).dropWhile sp=if a.dropWhile sp=[] then b.dropWhile sp else a.dropWhile sp++b:=by
  intro a b
  induction a with
  |nil=>rfl
  |cons c a ih=>
   rw[List.cons_append,List.dropWhile_cons,List.dropWhile_cons]
   by_cases h:sp c=true
   ·rw[if_pos h,if_pos h];exact ih
   ·rw[if_neg h,if_neg h,if_neg (by simp)];rfl
 rw[key]
 by_cases h:y.reverse.dropWhile sp=[]
 ·rw[if_pos h,if_pos (by rw[h];rfl)]
 ·rw[if_neg h,if_neg (by simpa using h),List.reverse_append,List.reverse_reverse]
theorem zq9 (n:Nat):rdw (List.replicate n 32)=[]:=by
 unfold rdw
 rw[List.reverse_replicate]
 have:∀n:Nat,(List.replicate n 32).dropWhile sp=[]:=fun n=>by
  induction n with
  |zero=>rfl
  |succ n ih=>rw[List.replicate_succ,List.dropWhile_cons,if_pos (show sp 32=true from rfl),ih]
 rw[this];rfl
theorem z2cb {t:List Nat} {c:Nat} (h:c≠32):rdw (t++[c])=t++[c]:=by
 rw[zrv]
 have:rdw [c]=[c]:=by
  unfold rdw
  simp[sp,h]
 rw[this,if_neg (by simp)]
theorem z4cb {c:Nat} (h:c≠32) (y:List Nat):rdw (c::y)=c::rdw y:=by
 have e:=zrv [c] y
 have e1:rdw [c]=[c]:=by
  unfold rdw
  simp[sp,h]
 rw[List.singleton_append,e1] at e
 rw[e]
 split
 ·rename_i h0;rw[h0]
 ·rfl
/-- no blank at either end -/
structure Trim (l:List Nat):Prop where
 hd:∃c t,l=c::t∧c≠32
 la:∃t c,l=t++[c]∧c≠32
theorem Trim.rdw {l:List Nat} (h:Trim l):TM.rdw l=l:=by obtain⟨t,c,rfl,hc⟩:=h.la;exact z2cb hc
theorem Trim.ldw {l:List Nat} (h:Trim l):TM.ldw l=l:=by
 obtain⟨c,t,rfl,hc⟩:=h.hd
 unfold TM.ldw
 rw[List.dropWhile_cons,if_neg (by simp[sp,hc])]
theorem zs9 {t y:List Nat}:rdw (t++58::y)=t++58::rdw y:=by
 rw[zrv,z4cb (by decide),if_neg (by simp)]
theorem zp9 {l:List Nat} (hl:l=[]∨Trim l):∀{ts:Segs},rdw (txt ts l)=wrd ts l
 |[]=>by
  show rdw l=l
  rcases hl with rfl |hl
  ·rfl
  ·exact hl.rdw
 |(t,j)::ts=>by
  show rdw (t++58::(List.replicate (j+1) 32++txt ts l))=t++58::(if wrd ts l=[] then [] else List.replicate (j+1) 32++wrd ts l)
  rw[zs9,zrv,zp9 hl,zq9]
theorem z25 {m:Nat} {ts:Segs} {l:List Nat} (hl:l=[]∨Trim l):rdw (List.replicate m 32++txt ts l)=if wrd ts l=[] then [] else List.replicate m 32++wrd ts l:=by
 rw[zrv,zp9 hl,zq9]
end NT
namespace LV
/-- the last k below i with p k -/
def lastOf (p:Nat→Bool) (i:Nat):Option Nat:=((List.range i).filter p).getLast?
section
variable (c:Nat→Int)
def par (i:Nat):Option Nat:=lastOf (fun k=>decide (c k<c i)) i
/-- no node behind k, ahead of i, is at most as deep -/
def opn (i k:Nat):Bool:=decide (∀j,j<i→k<j→c k<c j)
def stk (i:Nat):List Nat:=(List.range i).filter (opn c i)
def keeps (i:Nat):List Nat:=(stk c i).filter fun k=>decide (c k<c i)
end
end LV
namespace DL
open PySem PySem.Spec L2 TM SX
theorem zmgb {h t:List Nat} (hh:58 ∉ h) (hz:(h++58::t).length≤sizeLine):zul (.str (S (h++58::t))) [.str (S [58])]=some (.tup [.str (S h),.str (S [58]),.str (S t)]):=by
 show chk _ _=_
 rw[z7b ⟨by rw[S_len];rfl,by rw[S_len];exact hz⟩]
 have e:Txt.partition (S (h++58::t)) (S [58])=(S h,S [58],S t):=partition_some (by simp) (par_head (sep:=[]) t hh)
 rw[e]
theorem zlgb {a:List Nat} (hh:58 ∉ a) (hz:a.length≤sizeLine):zul (.str (S a)) [.str (S [58])]=some (.tup [.str (S a),.str (S []),.str (S [])]):=by
 show chk _ _=_
 rw[z7b ⟨by rw[S_len];rfl,by rw[S_len];exact hz⟩]
 have e:Txt.partition (S a) (S [58])=(S a,S [],S []):=partition_none (by simp) (par_head_none hh)
 rw[e]
theorem zsy (a:List Nat) (c:Nat):zuz (.str (S a)) [.str (S [c])]=some (.bl (decide (a.head?=some c))):=by
 show some (D.bl (Txt.startswith (S a) (S [c])))=_
 congr 2
 rw[Bool.eq_iff_iff,decide_eq_true_eq]
 unfold Txt.startswith
 rw[Bool.and_eq_true,decide_eq_true_eq]
 have h:=StrLaws.subAt_one (S a) c 0
 have e:(S a).cps.toList[0]?=a.head?:=by show a[0]?=_;cases a <;> rfl
 rw[e] at h
 exact h
theorem zhgb {m:Mem} {k:Nat} {ds:List D} {d:D} (h:m[k]?=some (.lst (ds++[d]))):popW (.c k) m = .ok (.d d) (m.set k (.lst ds)):=by
 unfold popW
 simp only[h]
 simp
@[simp] theorem zlqb (a:DE) (dl:Env) (m:Mem):ePop a dl m=(a dl m).bind fun x m1=>if isTy "list" x m1=true then popW x m1 else .no:=nr rfl
@[simp] theorem z6lb (ds:List D):truD (.lst ds)=some (!ds.isEmpty):=rfl
@[simp] theorem z5lb (ds:List D):truD (.tup ds)=some (!ds.isEmpty):=rfl
theorem atI_last {α : Type} (z:List α) (x : α):atI (z++[x]) (-1)=some x:=by
 unfold atI
 have e:ixN (z++[x]).length (-1)=some z.length:=by
  unfold ixN
  rw[if_neg (by decide),List.length_append]
  simp
  omega
 rw[e]
 simp
@[simp] theorem zwqb (f:DI) (g:DG) (t:DT) (fi:DI) (g1:DG) (t1:DT) (e:DE) (vs vs1:List Nat) (dl:Env) (m:Mem):eLc2 f g t fi g1 t1 e vs vs1 dl m=(f dl m).bind fun items m1=>(znz g t fi g1 t1 e vs1 (wipeD dl vs) items [] m1).bind fun acc m2=>.ok (.d (.lst acc)) m2:=nr rfl
@[simp] theorem z1mb (ts:List String) (t:Tbl) (neg:Bool) (xs:List D) (y:W) (m:Mem):eqoW ts t neg (.d (.lst xs)) y m=lift2 (if neg=true then neD else eqD) (.d (.lst xs)) y m:=nr rfl
def oN:Option Nat→D
 |none=>.non
 |some k=>.int (k:Int)
@[simp] theorem zvob:oN none = .non:=rfl
@[simp] theorem zuob (k:Nat):oN (some k) = .int (k:Int):=rfl
theorem At.lt {k n:Nat} {m0 m:Mem} (h:At k n m0 m):k<m.length:=by
 obtain⟨s,h1,_⟩:=h.sr
 exact (List.getElem?_eq_some_iff.mp h1).1
theorem At.ext {k n:Nat} {m0 m:Mem} (h:At k n m0 m) (t:Mem):At k n (m0++t) (m++t):=by
 have hk:=h.lt
 obtain⟨s,h1,g⟩:=h.sr
 refine⟨by simp[h.ln],fun j hj=>?_,s,by rw[List.getElem?_append_left hk];exact h1,g⟩
 by_cases hl:j<m.length
 ·rw[List.getElem?_append_left hl,List.getElem?_append_left (by rw[←h.ln];exact hl)]
  exact h.ot j hj
 ·rw[List.getElem?_append_right (by omega),List.getElem?_append_right (by rw[←h.ln];omega),h.ln]
theorem At.unext {k n:Nat} {m0 t M:Mem} (h:At k n (m0++t) M) (hk:k<m0.length):∃m,M=m++t∧At k n m0 m:=by
 have hl:=h.ln
 rw[List.length_append] at hl
 have e:M.drop m0.length=t:=by
  refine List.ext_getElem? fun i=>?_
  rw[List.getElem?_drop,h.ot _ (by omega),List.getElem?_append_right (by omega)]
  congr 1
  omega
 refine⟨M.take m0.length,?_,?_,fun j hj=>?_,?_⟩
 ·rw[←e,List.take_append_drop]
 ·rw[List.length_take];omega
 ·by_cases hj2:j<m0.length
  ·rw[List.getElem?_take_of_lt hj2,h.ot j hj,List.getElem?_append_left hj2]
  ·rw[List.getElem?_eq_none (by rw[List.length_take];omega),List.getElem?_eq_none (by omega)]
 ·obtain⟨s,h1,g⟩:=h.sr
  exact⟨s,by rw[List.getElem?_take_of_lt hk];exact h1,g⟩
/-- a reading that asks the source, with cells behind it -/
theorem At.tail {k n n':Nat} {m0 m t:Mem} {β : Type} {f:Mem→Res W} {P : β → Prop} {v : β → W} (h:At k n m0 m) (hf:∀m1,At k n m1 m1→∃b m',f m1 = .ok (v b) m'∧P b∧At k n' m1 m'):∃b m',f (m++t) = .ok (v b) (m'++t)∧P b∧At k n' m0 m':=by
 obtain⟨b,M,e,p,a⟩:=hf (m++t) ((h.self (n':=0)).ext t)
 obtain⟨m',rfl,a'⟩:=a.unext h.lt
 exact⟨b,m',e,p,(h.trans (n':=n') a')⟩
/-- one turn of a while -/
theorem ze7 {n:Nat} {t:DT} {b:DS} {dl:Env} {m m1:Mem} (h:t dl m = .ok false m1):z7f t b (n+1) dl m = .nx dl m1:=by
 unfold z7f
 rw[h]
 rfl
theorem zf7 {n:Nat} {t:DT} {b:DS} {dl dl2:Env} {m m1 m2:Mem} (h:t dl m = .ok true m1) (h2:b dl m1 = .nx dl2 m2):z7f t b (n+1) dl m=z7f t b n dl2 m2:=by
 conv=>lhs;unfold z7f
 rw[h]
 show (match b dl m1 with
   |.nx dl2 m2=>z7f t b n dl2 m2
   |.ct dl2 m2=>z7f t b n dl2 m2
   |.bk dl2 m2=>.nx dl2 m2
   |.rt w m2=>.rt w m2
   |.exc dl2 C f p m2=>.exc dl2 C f p m2
   |.no=>.no)=_
 rw[h2]
theorem zh1 {n:Nat} {t:DT} {b:DS} {dl:Env} {m m1 m2:Mem} {w:W} (h:t dl m = .ok true m1) (h2:b dl m1 = .rt w m2):z7f t b (n+1) dl m = .rt w m2:=by
 conv=>lhs;unfold z7f
 rw[h]
 show (match b dl m1 with
   |.nx dl2 m2=>z7f t b n dl2 m2
   |.ct dl2 m2=>z7f t b n dl2 m2
   |.bk dl2 m2=>.nx dl2 m2
   |.rt w m2=>.rt w m2
   |.exc dl2 C f p m2=>.exc dl2 C f p m2
   |.no=>.no)=_
 rw[h2]
theorem zt5 (n:Nat) (t:DT) (b:DS) (dl:Env) (m:Mem):zj9 n t b dl m=z7f t b n dl m:=nr rfl
end DL
namespace DL
open PySem PySem.Spec L2 TM SX
/-- data that may be compared: no deeper than k -/
def Lay (k:Nat) (d:D):Prop:=∃p,toP d=some p∧PyData.canLay0 p=true∧p.depth≤k
theorem Lay.mono {k j:Nat} {d:D} (h:Lay k d) (hk:k≤j):Lay j d:=let ⟨p,a,b,c⟩:=h;⟨p,a,b,by omega⟩
theorem Lay.int (k:Nat) (i:Int):Lay k (.int i):=⟨.int i,rfl,rfl,Nat.zero_le _⟩
theorem Lay.non (k:Nat):Lay k .non:=⟨_,rfl,rfl,Nat.zero_le _⟩
theorem Lay.bl (k:Nat) (b:Bool):Lay k (.bl b):=⟨_,rfl,rfl,Nat.zero_le _⟩
theorem Lay.str (k:Nat) {a:List Nat} (h:∀c∈a,c<128):Lay k (.str (S a)):=⟨.str (S a),rfl,z03 fun c hc=>Nat.lt_of_lt_of_le (h c hc) (by decide),Nat.zero_le _⟩
theorem lays {k:Nat}:∀{ds:List D},(∀d∈ds,Lay k d)→∃ps,toPs ds=some ps∧PyData.canLayAll0 ps=true∧PyData.depthAll ps≤k
 |[],_=>⟨[],rfl,rfl,Nat.zero_le _⟩
 |d::ds,h=>by
  obtain⟨p,h1,h2,h3⟩:=h d List.mem_cons_self
  obtain⟨ps,h4,h5,h6⟩:=lays fun x hx=>h x (List.mem_cons_of_mem _ hx)
  refine⟨p::ps,by simp only[toPs,h1,h4],?_,?_⟩
  ·rw[PyData.canLayAll0,h2,h5];rfl
  ·rw[PyData.depthAll];omega
theorem Lay.tup {k:Nat} {ds:List D} (h:∀d∈ds,Lay k d):Lay (k+1) (.tup ds):=by
 obtain⟨ps,h1,h2,h3⟩:=lays h
 exact⟨.tuple ps,by simp only[toP,h1],h2,by show PyData.depthAll ps+1≤k+1;omega⟩
theorem Lay.lst {k:Nat} {ds:List D} (h:∀d∈ds,Lay k d):Lay (k+1) (.lst ds):=by
 obtain⟨ps,h1,h2,h3⟩:=lays h
 exact⟨.list ps,by simp only[toP,h1],h2,by show PyData.depthAll ps+1≤k+1;omega⟩
theorem Lay.ok {k:Nat} {d:D} (h:Lay k d) (hk:k≤64):okD d=true:=by
 obtain⟨p,h1,h2,h3⟩:=h
 unfold okD
 rw[h1]
 simp only[]
 unfold SeqAt.shaped
 rw[Bool.and_eq_true]
 exact⟨h2,decide_eq_true (by omega)⟩
theorem zugb {k:Nat} {d:D} (h:Lay k d) (hk:k≤64):neD d d=some (.bl false):=zidb (h.ok hk)
@[simp] theorem z2rb (a b:Bool):eqD (.bl a) (.bl b)=some (.bl (a==b)):=by cases a <;> cases b <;> rfl
@[simp] theorem zlrb (a b:Bool):neD (.bl a) (.bl b)=some (.bl (!(a==b))):=by cases a <;> cases b <;> rfl
@[simp] theorem sz4:(4:Nat)≤sizeLine:=by decide
@[simp] theorem sz5:(5:Nat)≤sizeLine:=by decide
@[simp] theorem sz6:(6:Nat)≤sizeLine:=by decide
@[simp] theorem sz7:(7:Nat)≤sizeLine:=by decide
@[simp] theorem sz8:(8:Nat)≤sizeLine:=by decide
@[simp] theorem sz9:(9:Nat)≤sizeLine:=by decide
@[simp] theorem sz10:(10:Nat)≤sizeLine:=by decide
@[simp] theorem sz11:(11:Nat)≤sizeLine:=by decide
@[simp] theorem sz12:(12:Nat)≤sizeLine:=by decide
@[simp] theorem sz13:(13:Nat)≤sizeLine:=by decide
@[simp] theorem sz14:(14:Nat)≤sizeLine:=by decide
@[simp] theorem sz15:(15:Nat)≤sizeLine:=by decide
@[simp] theorem sz16:(16:Nat)≤sizeLine:=by decide
@[simp] theorem sz17:(17:Nat)≤sizeLine:=by decide
@[simp] theorem sz18:(18:Nat)≤sizeLine:=by decide
@[simp] theorem sz19:(19:Nat)≤sizeLine:=by decide
@[simp] theorem sz20:(20:Nat)≤sizeLine:=by decide
@[simp] theorem sz21:(21:Nat)≤sizeLine:=by decide
@[simp] theorem sz22:(22:Nat)≤sizeLine:=by decide
@[simp] theorem sz23:(23:Nat)≤sizeLine:=by decide
@[simp] theorem sz24:(24:Nat)≤sizeLine:=by decide
@[simp] theorem sz25:(25:Nat)≤sizeLine:=by decide
@[simp] theorem sz26:(26:Nat)≤sizeLine:=by decide
@[simp] theorem sz27:(27:Nat)≤sizeLine:=by decide
@[simp] theorem sz28:(28:Nat)≤sizeLine:=by decide
@[simp] theorem sz29:(29:Nat)≤sizeLine:=by decide
@[simp] theorem sz30:(30:Nat)≤sizeLine:=by decide
end DL
namespace DL
open PySem PySem.Spec L2 TM SX
structure Cmp {α : Type} [DecidableEq α] (enc : α → D) (ok : α → Prop) (k:Nat):Prop where
 h:∀a,ok a→Lay k (enc a)
 e:∀a b p q,ok a→ok b→toP (enc a)=some p→toP (enc b)=some q→PyData.eqv p q=decide (a=b)
theorem zex {a b:List Nat} (h:S a=S b):a=b:=by
 have:(S a).cps.toList=(S b).cps.toList:=by rw[h]
 simpa [S] using this
theorem Cmp.str (k:Nat):Cmp (fun w:List Nat=>.str (S w)) (fun w=>∀c∈w,c<128) k:=by
 refine⟨fun a h=>Lay.str k h,fun a b p q _ _ hp hq=>?_⟩
 cases hp
 cases hq
 show decide _=_
 by_cases h:a=b
 ·subst h;simp
 ·rw[decide_eq_false h,decide_eq_false (fun z=>h (zex z))]
theorem Cmp.all {α : Type} [DecidableEq α] {enc : α → D} {ok : α → Prop} {k:Nat} (c:Cmp enc ok k):∀(as bs:List α) (ps qs:List PyData),(∀a∈as,ok a)→(∀b∈bs,ok b)→toPs (as.map enc)=some ps→toPs (bs.map enc)=some qs→PyData.eqvAll ps qs=decide (as=bs)
 |[],[],ps,qs,_,_,hp,hq=>by cases hp;cases hq;rfl
 |[],b::bs,ps,qs,_,hb,hp,hq=>by
  cases hp
  obtain⟨p,h1,_⟩:=c.h b (hb b List.mem_cons_self)
  rw[List.map_cons] at hq
  simp only[toPs,h1] at hq
  split at hq
  ·cases hq;rfl
  ·cases hq
 |a::as,[],ps,qs,ha,_,hp,hq=>by
  cases hq
  obtain⟨p,h1,_⟩:=c.h a (ha a List.mem_cons_self)
  rw[List.map_cons] at hp
  simp only[toPs,h1] at hp
  split at hp
  ·cases hp;rfl
  ·cases hp
 |a::as,b::bs,ps,qs,ha,hb,hp,hq=>by
  obtain⟨p,h1,_⟩:=c.h a (ha a List.mem_cons_self)
  obtain⟨q,h2,_⟩:=c.h b (hb b List.mem_cons_self)
  rw[List.map_cons] at hp hq
  simp only[toPs,h1] at hp
  simp only[toPs,h2] at hq
  split at hp
  ·rename_i ps' hp'
   cases hp
   split at hq
   ·rename_i qs' hq'
    cases hq
    rw[PyData.eqvAll,c.e a b p q (ha a List.mem_cons_self) (hb b List.mem_cons_self) h1 h2,Cmp.all c as bs ps' qs' (fun x hx=>ha x (List.mem_cons_of_mem _ hx)) (fun x hx=>hb x (List.mem_cons_of_mem _ hx)) hp' hq']
    by_cases e1:a=b <;> by_cases e2:as=bs <;> simp[e1,e2]
   ·cases hq
  ·cases hp
end DL
namespace DL
open PySem PySem.Spec L2
theorem putL_new {f:Str} {d:D}:∀{ns:List Str} {ds:List D},f ∉ ns→ns.length=ds.length→putL f d ns ds=(ns++[f],ds++[d])
 |[],[],_,_=>rfl
 |[],_::_,_,h=>by simp at h
 |_::_,[],_,h=>by simp at h
 |n::ns,x::xs,h,hl=>by
  unfold putL
  have h1:¬n=f:=fun e=>h (by rw[e];exact List.mem_cons_self)
  have h2:=putL_new (f:=f) (d:=d) (ns:=ns) (ds:=xs) (fun z=>h (List.mem_cons_of_mem _ z)) (by simpa using hl)
  rw[if_neg h1,h2]
  rfl
/-- a field more of an object under construction -/
theorem z0g {Cs:List Str} {C f:Str} {ns:List Str} {ds:List D} (m:Mem) (d:D) (hC:C∈Cs) (hf:f ∉ ns) (hl:ns.length=ds.length) (hz:ns.length<1000) :
  sFldW Cs f (.d d) (.c m.length) (m++[.obj C ns ds])=some (m++[.obj C (ns++[f]) (ds++[d])]):=by
 have hg:(m++[Cell.obj C ns ds])[m.length]?=some (.obj C ns ds):=by simp
 unfold sFldW
 simp only[hg]
 rw[if_pos ⟨hC,hz⟩,putL_new hf hl]
 simp
theorem zcv (ns:List Int):sumD [.lst (ns.map D.int)]=some (.int ns.sum):=by
 unfold sumD lstD
 simp only[]
 rw[zqz]
theorem zut (ss:List Str) (h:ss.length<64):zam [.lst (ss.map D.str)]=some (.lst ((sortS ss).map D.str)):=by
 unfold zam lstD
 simp only[]
 rw[zm8]
 simp only[]
 rw[if_pos h]
theorem zn2 (ss:List Str):z0k (ss.map D.str)=some (ss.map V.str):=by
 induction ss with
 |nil=>rfl
 |cons s ss ih=>
  show (match flatD (.str s) with
   |some v=>(match z0k (ss.map D.str) with
    |some vs=>some (v::vs)
    |none=>none)
   |none=>none)=_
  rw[ih]
  rfl
theorem zxdb (s:Str) (ss:List Str):inV (.str s) (ss.map V.str)=decide (s∈ss):=by
 unfold inV
 rw[List.any_map]
 induction ss with
 |nil=>simp
 |cons a ss ih=>
  rw[List.any_cons,ih]
  show (a==s ||decide (s∈ss))=_
  by_cases h:a=s
  ·subst h;simp
  ·have:¬s=a:=fun e=>h e.symm
   simp[h,this]
theorem zj4 (s:Str) (ss:List Str):inTD (.str s) (.tup (ss.map D.str))=some (.bl (decide (s∈ss))):=by
 unfold inTD flatD seqD
 simp only[]
 rw[zn2]
 simp only[]
 rw[zxdb]
end DL
namespace PG
open PySem PySem.Spec DL TM SX NT
inductive Sh where
 |in_ |out |first |rest
inductive Lab where
 |fixed (ls:List (List Nat))
 |hole (c:Nat)
 |each (c:Nat)
 |sum
 |sh (w:Sh) (n:Nat)
 |ded
 |flu
 |tg (hang:Bool) (t:List Nat)
inductive Pg where
 |node (l:Lab) (ms:List Pg)
def Sh.w:Sh→Str
 |.in_=>"in"
 |.out=>"out"
 |.first=>"first"
 |.rest=>"rest"
def Lab.w:Lab→Str
 |.fixed _=>"fixed"
 |.hole _=>"hole"
 |.each _=>"each"
 |.sum=>"sum"
 |.sh w _=>w.w
 |.ded=>"dedent"
 |.flu=>"flush"
 |.tg true _=>"tag"
 |.tg false _=>"raw"
/-- the nodes of a word: column and word -/
def lnF:Nat→Nat→List Nat→List (Nat × List Nat)
 | 0,_,_=>[]
 |n+1,c,w=>if w=[] then [] else (match cutC w with
  |none=>[(c,w)]
  |some (h,t)=>if isTag h=true∧(t=[]∨t.head?=some 32) then (c,h++[58])::lnF n (c+h.length+1+(t.length-(ldw t).length)) (ldw t) else [(c,w)])
def z9m (w:List Nat):List (Nat × List Nat):=lnF (w.length+1) 0 w
def word (l:List Nat):List Nat:=rdw (ldw l)
def ndP (p:Nat × List Nat):D:=.tup [.int (p.1:Int),.str (S p.2)]
def cutL (l:List Nat):D:=if word l=[] then .non else .tup [.int (((l.length-(ldw l).length:Nat)):Int),.tup ((z9m (word l)).map ndP)]
def cutLs (ls:List (List Nat)):List D:=ls.map cutL
def spL (l:List Nat):Nat:=if word l=[] then 0 else (z9m (word l)).length
def blkD (ls:List (List Nat)):D:=.obj "Block" ["rows"] [.lst (lnD ls)]
def nmD:Lab→D
 |.hole c=>.str (S [c])
 |.each c=>.str (S [c])
 |_=>.non
def amD:Lab→D
 |.sh _ n=>.int (n:Int)
 |_=>.non
def tgD:Lab→D
 |.tg _ t=>.str (S t)
 |_=>.non
def bkD:Lab→D
 |.fixed ls=>blkD ls
 |_=>.non
def ctD:Lab→D
 |.fixed ls=>.lst (cutLs ls)
 |_=>.non
/-- places of its own -/
def Lab.sp:Lab→Nat
 |.fixed ls=>(ls.map spL).sum
 |.hole _=>1
 |.tg _ _=>1
 |_=>0
mutual
def size:Pg→Nat
 |.node _ ms=>1+sizes ms
def sizes:List Pg→Nat
 |[]=>0
 |p::ps=>size p+sizes ps
end
mutual
def spots:Pg→Nat
 |.node l ms=>l.sp+zjn ms
def zjn:List Pg→Nat
 |[]=>0
 |p::ps=>spots p+zjn ps
end
def fns:List Str:=["word", "members", "name", "amount", "tag", "block", "cut", "size", "spots"]
def obD (l:Lab) (ms:List D) (sz sp:Nat):D:=.obj "Program" fns [.str l.w,.tup ms,nmD l,amD l,tgD l,bkD l,ctD l,.int (sz:Int),.int (sp:Int)]
mutual
def pgD:Pg→D
 |.node l ms=>obD l (pgDs ms) (1+sizes ms) (l.sp+zjn ms)
def pgDs:List Pg→List D
 |[]=>[]
 |p::ps=>pgD p::pgDs ps
end
theorem z5z:∀ps:List Pg,pgDs ps=ps.map pgD
 |[]=>by unfold pgDs;rfl
 |p::ps=>by unfold pgDs;rw[z5z ps];rfl
theorem zq1:∀ps:List Pg,sizes ps=(ps.map size).sum
 |[]=>by unfold sizes;rfl
 |p::ps=>by unfold sizes;rw[zq1 ps];rfl
theorem zty:∀ps:List Pg,zjn ps=(ps.map spots).sum
 |[]=>by unfold zjn;rfl
 |p::ps=>by unfold zjn;rw[zty ps];rfl
def Pg.lab:Pg→Lab
 |.node l _=>l
def Pg.ms:Pg→List Pg
 |.node _ ms=>ms
theorem zek (p:Pg):pgD p=obD p.lab (p.ms.map pgD) (size p) (spots p):=by
 cases p with
 |node l ms=>
  unfold pgD size spots
  rw[z5z]
  rfl
theorem size_pos (p:Pg):1≤size p:=by
 cases p
 unfold size
 omega
theorem zvcb {p:Pg} {ps:List Pg} (h:p∈ps):size p≤sizes ps:=by
 induction ps with
 |nil=>cases h
 |cons q ps ih=>
  unfold sizes
  rcases List.mem_cons.mp h with rfl |h
  ·omega
  ·have:=ih h
   omega
theorem zhv {p q:Pg} (h:q∈p.ms):size q<size p:=by
 cases p with
 |node l ms=>
  have:=zvcb (show q∈ms from h)
  have e:size (.node l ms)=1+sizes ms:=by conv=>lhs;unfold size
  rw[e]
  omega
mutual
def parts:Pg→List Pg
 |.node l ms=>.node l ms::z1t ms
def z1t:List Pg→List Pg
 |[]=>[]
 |p::ps=>parts p++z1t ps
end
theorem zfq:∀ps:List Pg,z1t ps=ps.flatMap parts
 |[]=>by unfold z1t;rfl
 |p::ps=>by unfold z1t;rw[zfq ps,List.flatMap_cons]
theorem zwe (p:Pg):parts p=p::p.ms.flatMap parts:=by
 cases p with
 |node l ms=>
  unfold parts
  rw[zfq]
  rfl
mutual
theorem z9c:∀p:Pg,(parts p).length=size p
 |.node l ms=>by
  unfold parts size
  rw[List.length_cons,z2s ms]
  omega
theorem z2s:∀ps:List Pg,(z1t ps).length=sizes ps
 |[]=>by unfold z1t sizes;rfl
 |p::ps=>by unfold z1t sizes;rw[List.length_append,z9c p,z2s ps]
end
def hol:Lab→Option Nat
 |.hole c=>some c
 |_=>none
/-- the names of the holes -/
def nms (p:Pg):List Nat:=(parts p).filterMap fun q=>hol q.lab
def wei:Lab→Bool
 |.hole _=>true
 |.each _=>true
 |_=>false
def weight (p:Pg):Nat:=((parts p).filter fun q=>wei q.lab).length
end PG
namespace DL
open PySem PySem.Spec L2
section
variable {hs:List HC} {r:Mem} {j:Nat} {ws:List HW}
theorem rdH (h:hs[j]?=some (.lst ws)):W.rd (.h j) (.hp hs::r)=some (.lst (ws.map HW.toD)):=by
 rw[rd_h]
 show (hs[j]?).map HC.toD=_
 rw[h]
 rfl
theorem zhfb {t:Tbl} {k:Nat} {w:HW} (h:hs[j]?=some (.lst ws)) (hk:ws[k]?=some w):ixHW t (.h j) (.d (.int (k:Int))) (.hp hs::r) = .ok w.toW (.hp hs::r):=by
 unfold ixHW
 show (match hs[j]? with
  |some (.lst ws)=>atHW ws (.d (.int (k:Int))) (.hp hs::r)
  |some (.tup ws)=>atHW ws (.d (.int (k:Int))) (.hp hs::r)
  |some (.obj C _ _)=>(match look t C with
   |some F=>F [.h j,.d (.int (k:Int))] (.hp hs::r)
   |none=>.no)
  |_=>.no)=_
 rw[h]
 show (match atI ws (k:Int) with
  |some w=>Res.ok w.toW (.hp hs::r)
  |none=>.no)=_
 rw[DL.atI_nat,hk]
theorem ziv {k:Nat} {w:W} {x:HW} (h:hs[j]?=some (.lst ws)) (hk:k<ws.length) (hw:w.hw=some x):setLW w (.h j) (.d (.int (k:Int))) (.hp hs::r)=some (.hp (hs.set j (.lst (ws.set k x)))::r):=by
 have e1:Loc.get (.h j) (.hp hs::r)=some ws:=by
  unfold Loc.get
  show (match hs[j]? with
   |some (.lst ws)=>some ws
   |_=>none)=_
  rw[h]
 have e2:ixN ws.length (k:Int)=some k:=by
  unfold ixN
  rw[if_pos (by omega),if_pos (by omega),Int.toNat_natCast]
 unfold setLW
 show (match W.loc (.h j),w.hw,W.d (.int (k:Int)) with
  |some l,some h,.d (.int j)=>(match l.get (.hp hs::r) with
   |some ws=>(match ixN ws.length j with
    |some n=>l.put (ws.set n h) (.hp hs::r)
    |none=>none)
   |none=>none)
  |_,_,_=>none)=_
 rw[hw]
 show (match Loc.get (.h j) (.hp hs::r) with
  |some ws=>(match ixN ws.length (k:Int) with
   |some n=>Loc.put (.h j) (ws.set n x) (.hp hs::r)
   |none=>none)
  |none=>none)=_
 rw[e1]
 simp only[]
 rw[e2]
 rfl
theorem zijb {w:HW} {us:List HW} (h:hs[j]?=some (.lst (us++[w]))):popLW (.h j) (.hp hs::r) = .ok w.toW (.hp (hs.set j (.lst us))::r):=by
 have e1:Loc.get (.h j) (.hp hs::r)=some (us++[w]):=by
  unfold Loc.get
  show (match hs[j]? with
   |some (.lst ws)=>some ws
   |_=>none)=_
  rw[h]
 unfold popLW
 show (match W.loc (.h j) with
  |some l=>(match l.get (.hp hs::r) with
   |some us=>(match us[us.length-1]? with
    |some h=>(match l.put us.dropLast (.hp hs::r) with
     |some m'=>Res.ok h.toW m'
     |none=>.no)
    |none=>.no)
   |none=>.no)
  |none=>.no)=_
 show (match Loc.get (.h j) (.hp hs::r) with
  |some us=>(match us[us.length-1]? with
   |some h=>(match Loc.put (.h j) us.dropLast (.hp hs::r) with
    |some m'=>Res.ok h.toW m'
    |none=>.no)
   |none=>.no)
  |none=>.no)=_
 rw[e1]
 simp only[]
 rw[List.length_append,List.length_singleton,Nat.add_sub_cancel,List.getElem?_append_right (Nat.le_refl _),Nat.sub_self]
 simp only[List.getElem?_cons_zero,List.dropLast_concat]
 rfl
theorem z4jb (t:Tbl) (h:hs[j]?=some (.lst ws)):lnW t (.h j) (.hp hs::r) = .ok (.d (.int (ws.length:Int))) (.hp hs::r):=by
 have e:=rdH (r:=r) h
 unfold lnW clsOf
 simp[-rd_h,e,lenD,seqD]
theorem zifb (h:hs[j]?=some (.lst ws)):isTy "list" (.h j) (.hp hs::r)=true:=by
 have e:=rdH (r:=r) h
 unfold isTy
 rw[e]
 rfl
theorem z5y (t:Tbl) {k:Nat} {d:D} (h:hs[j]?=some (.lst ws)) (hk:(ws.map HW.toD)[k]?=some d):ixW t (.h j) (.d (.int (k:Int))) (.hp hs::r) = .ok (.d d) (.hp hs::r):=by
 have e:=rdH (r:=r) h
 have e2:ixD (.lst (ws.map HW.toD)) (.int (k:Int))=some d:=by
  show atI (ws.map HW.toD) (k:Int)=some d
  rw[DL.atI_nat,hk]
 unfold ixW clsOf
 simp only[e,zqdb,zqgb,rd_d,e2,zcdb]
@[simp] theorem zcrb (b:Bool) (m:Mem):tru (.d (.bl b)) m = .ok b m:=by rw[zj1];rfl
@[simp] theorem zrob (hs hs':List HC) (r:Mem):(Cell.hp hs::r).take ((Cell.hp hs'::r).length) = .hp hs::r:=by simp
/-- what stays of the heap -/
structure Kp (X:List Nat) (hs hs':List HC):Prop where
 l:hs.length≤hs'.length
 k:∀i,i<hs.length→i ∉ X→hs'[i]?=hs[i]?
theorem Kp.refl (X:List Nat) (hs:List HC):Kp X hs hs:=⟨Nat.le_refl _,fun _ _ _=>rfl⟩
theorem Kp.trans {X:List Nat} {h1 h2 h3:List HC} (a:Kp X h1 h2) (b:Kp X h2 h3):Kp X h1 h3:=⟨Nat.le_trans a.l b.l,fun i hi hx=>(b.k i (Nat.lt_of_lt_of_le hi a.l) hx).trans (a.k i hi hx)⟩
theorem Kp.mono {X Y:List Nat} {h1 h2:List HC} (a:Kp X h1 h2) (h:∀i∈X,i∈Y):Kp Y h1 h2:=⟨a.l,fun i hi hx=>a.k i hi fun z=>hx (h i z)⟩
theorem Kp.set {X:List Nat} {hs:List HC} {i:Nat} (h:i∈X) (c:HC):Kp X hs (hs.set i c):=⟨by rw[List.length_set];exact Nat.le_refl _,fun k hk hx=>List.getElem?_set_ne (fun e:i=k=>hx (by rw[←e];exact h))⟩
theorem Kp.push (X:List Nat) (hs:List HC) (c:HC):Kp X hs (hs++[c]):=⟨by simp,fun k hk _=>List.getElem?_append_left hk⟩
theorem Kp.at_ {X:List Nat} {h1 h2:List HC} (a:Kp X h1 h2) {i:Nat} {c:HC} (h:h1[i]?=some c) (hx:i ∉ X):h2[i]?=some c:=(a.k i (List.getElem?_eq_some_iff.mp h).1 hx).trans h
end
end DL
namespace DL
open PySem PySem.Spec L2
@[simp] theorem zwob (c:HC) (hs:List HC) (r:Mem):newH c (.hp hs::r) = .ok (.h hs.length) (.hp (hs++[c])::r):=nr rfl
end DL
namespace LK
open PySem PySem.Spec L2 DL
open PyProof.Rows hiding St
open Evl (Ex)
structure Tx (K:Fg) (mg:Str→Option Value):Prop where
 zoq:mg "BadAmount" = some (.ref (He.ga K "BadAmount"))
 z3ab:mg "BadEach" = some (.ref (He.ga K "BadEach"))
 z2r:mg "BadLine" = some (.ref (He.ga K "BadLine"))
 zm2:mg "BadMend" = some (.ref (He.ga K "BadMend"))
 zl2:mg "BadName" = some (.ref (He.ga K "BadName"))
 z1db:mg "BadTag" = some (.ref (He.ga K "BadTag"))
 zzk:mg "Block" = some (.ref (He.ga K "Block"))
 z2ab:mg "DROPPED" = some (.ref (He.ga K "DROPPED"))
 z0db:mg "NoLine" = some (.ref (He.ga K "NoLine"))
 z3e:mg "Program" = some (.ref (He.ga K "Program"))
 z1ab:mg "Shallow" = some (.ref (He.ga K "Shallow"))
 zkkb:mg "TAGS" = some (.ref (He.ga K "TAGS"))
 zi2:mg "TooMany" = some (.ref (He.ga K "TooMany"))
 zlhb:mg "Twice" = some (.ref (He.ga K "Twice"))
 zs4:mg "_law_book" = some (.ref (He.ga K "_law_book"))
 zci:mg "_law_build" = some (.ref (He.ga K "_law_build"))
 zh2:mg "_law_fixed" = some (.ref (He.ga K "_law_fixed"))
 z0r:mg "_law_joined" = some (.ref (He.ga K "_law_joined"))
 zyp:mg "_law_letters" = some (.ref (He.ga K "_law_letters"))
 z5x:mg "_law_members" = some (.ref (He.ga K "_law_members"))
 zg2:mg "_law_names" = some (.ref (He.ga K "_law_names"))
 zy7:mg "_law_odd" = some (.ref (He.ga K "_law_odd"))
 z0n:mg "_law_parts" = some (.ref (He.ga K "_law_parts"))
 zpb:mg "_law_pick" = some (.ref (He.ga K "_law_pick"))
 z4x:mg "_law_refused" = some (.ref (He.ga K "_law_refused"))
 zr4:mg "_law_step" = some (.ref (He.ga K "_law_step"))
 zq4:mg "_law_wild" = some (.ref (He.ga K "_law_wild"))
 zmj:mg "all_parts" = some (.ref (He.ga K "all_parts"))
 zm6:mg "behind" = some (.ref (He.ga K "behind"))
 z0ab:mg "changed" = some (.ref (He.ga K "changed"))
 zwl:mg "checked" = some (.ref (He.ga K "checked"))
 zjkb:mg "each" = some (.ref (He.ga K "each"))
 zzab:mg "fixed" = some (.ref (He.ga K "fixed"))
 zp4:mg "flat_rows" = some (.ref (He.ga K "flat_rows"))
 zikb:mg "hole" = some (.ref (He.ga K "hole"))
 znq:mg "is_amount" = some (.ref (He.ga K "is_amount"))
 zbz:mg "is_index" = some (.ref (He.ga K "is_index"))
 zyab:mg "is_line" = some (.ref (He.ga K "is_line"))
 zxab:mg "is_mend" = some (.ref (He.ga K "is_mend"))
 zf2:mg "is_name" = some (.ref (He.ga K "is_name"))
 zo4:mg "is_number" = some (.ref (He.ga K "is_number"))
 zl6:mg "is_tag" = some (.ref (He.ga K "is_tag"))
 g_law:mg "law" = some (.ref (He.ga K "law"))
 z3x:mg "least_margin" = some (.ref (He.ga K "least_margin"))
 ze2:mg "line_nodes" = some (.ref (He.ga K "line_nodes"))
 zmq:mg "margin_of" = some (.ref (He.ga K "margin_of"))
 zk6:mg "mended" = some (.ref (He.ga K "mended"))
 zaz:mg "mends_of" = some (.ref (He.ga K "mends_of"))
 zyk:mg "moved_blocks" = some (.ref (He.ga K "moved_blocks"))
 zaw:mg "name_list" = some (.ref (He.ga K "name_list"))
 z2x:mg "program_from" = some (.ref (He.ga K "program_from"))
 zg0:mg "raised_rows" = some (.ref (He.ga K "raised_rows"))
 zn4:mg "rows_from" = some (.ref (He.ga K "rows_from"))
 z9v:mg "shallow_place" = some (.ref (He.ga K "shallow_place"))
 zzr:mg "shifted" = some (.ref (He.ga K "shifted"))
 zd2:mg "split_text" = some (.ref (He.ga K "split_text"))
 zfm:mg "sum_members" = some (.ref (He.ga K "sum_members"))
 zzdb:mg "summed" = some (.ref (He.ga K "summed"))
 zm4:mg "weight_of" = some (.ref (He.ga K "weight_of"))
 z1x:mg "with_members" = some (.ref (He.ga K "with_members"))
 zh0:∃t,mg "MOST_AMOUNT" = some (.int 20 t)
 zk2:∃t,mg "MOST_LINES" = some (.int 6 t)
 zt4:∃t,mg "MOST_MEND" = some (.int 4 t)
 z1n:∃t,mg "MOST_PARTS" = some (.int 16 t)
 zz7:∃t,mg "MOST_TAG" = some (.int 8 t)
 z1r:∃t,mg "MOST_WEIGHT" = some (.int 3 t)
 zj2:∃t,mg "MOST_WIDTH" = some (.int 60 t)
 z28:∀H,SqT K H (He.ga K "DROPPED") ((["in", "out", "first", "rest", "dedent", "flush"]:List Str).map V.str)
 z3ib:∀H,SqT K H (He.ga K "TAGS") ((["tag", "raw"]:List Str).map V.str)
 zb1:mg "LookupError" = none
 zbx:mg "OverflowError" = none
 z7d:mg "ValueError" = none
 b_all:mg "all" = none
 z76:mg "bool" = none
 z5q:mg "enumerate" = none
 b_int:mg "int" = none
 zmb:mg "isinstance" = none
 b_len:mg "len" = none
 zpz:mg "list" = none
 b_max:mg "max" = none
 b_min:mg "min" = none
 zax:mg "range" = none
 za1:mg "sorted" = none
 b_str:mg "str" = none
 b_sum:mg "sum" = none
 zkt:mg "tuple" = none
 zf4:PySem.W.keepIn K (.ref (He.ga K "_law_book"))=true
 zai:PySem.W.keepIn K (.ref (He.ga K "_law_build"))=true
 z91:PySem.W.keepIn K (.ref (He.ga K "_law_fixed"))=true
 zwr:PySem.W.keepIn K (.ref (He.ga K "_law_joined"))=true
 zwp:PySem.W.keepIn K (.ref (He.ga K "_law_letters"))=true
 z0x:PySem.W.keepIn K (.ref (He.ga K "_law_members"))=true
 z81:PySem.W.keepIn K (.ref (He.ga K "_law_names"))=true
 zu7:PySem.W.keepIn K (.ref (He.ga K "_law_odd"))=true
 zxn:PySem.W.keepIn K (.ref (He.ga K "_law_parts"))=true
 zob:PySem.W.keepIn K (.ref (He.ga K "_law_pick"))=true
 zzx:PySem.W.keepIn K (.ref (He.ga K "_law_refused"))=true
 ze4:PySem.W.keepIn K (.ref (He.ga K "_law_step"))=true
 zd4:PySem.W.keepIn K (.ref (He.ga K "_law_wild"))=true
 zkj:PySem.W.keepIn K (.ref (He.ga K "all_parts"))=true
 k_behind:PySem.W.keepIn K (.ref (He.ga K "behind"))=true
 zrab:PySem.W.keepIn K (.ref (He.ga K "changed"))=true
 zvl:PySem.W.keepIn K (.ref (He.ga K "checked"))=true
 z8jb:PySem.W.keepIn K (.ref (He.ga K "each"))=true
 zqab:PySem.W.keepIn K (.ref (He.ga K "fixed"))=true
 zc4:PySem.W.keepIn K (.ref (He.ga K "flat_rows"))=true
 z7jb:PySem.W.keepIn K (.ref (He.ga K "hole"))=true
 zkq:PySem.W.keepIn K (.ref (He.ga K "is_amount"))=true
 z4y:PySem.W.keepIn K (.ref (He.ga K "is_index"))=true
 zpab:PySem.W.keepIn K (.ref (He.ga K "is_line"))=true
 zoab:PySem.W.keepIn K (.ref (He.ga K "is_mend"))=true
 z71:PySem.W.keepIn K (.ref (He.ga K "is_name"))=true
 zb4:PySem.W.keepIn K (.ref (He.ga K "is_number"))=true
 zf6:PySem.W.keepIn K (.ref (He.ga K "is_tag"))=true
 zyx:PySem.W.keepIn K (.ref (He.ga K "least_margin"))=true
 z61:PySem.W.keepIn K (.ref (He.ga K "line_nodes"))=true
 zjq:PySem.W.keepIn K (.ref (He.ga K "margin_of"))=true
 ze6:PySem.W.keepIn K (.ref (He.ga K "mended"))=true
 z3y:PySem.W.keepIn K (.ref (He.ga K "mends_of"))=true
 zxk:PySem.W.keepIn K (.ref (He.ga K "moved_blocks"))=true
 z3v:PySem.W.keepIn K (.ref (He.ga K "name_list"))=true
 zxx:PySem.W.keepIn K (.ref (He.ga K "program_from"))=true
 zc0:PySem.W.keepIn K (.ref (He.ga K "raised_rows"))=true
 za4:PySem.W.keepIn K (.ref (He.ga K "rows_from"))=true
 z2v:PySem.W.keepIn K (.ref (He.ga K "shallow_place"))=true
 zvr:PySem.W.keepIn K (.ref (He.ga K "shifted"))=true
 z51:PySem.W.keepIn K (.ref (He.ga K "split_text"))=true
 zem:PySem.W.keepIn K (.ref (He.ga K "sum_members"))=true
 zudb:PySem.W.keepIn K (.ref (He.ga K "summed"))=true
 z93:PySem.W.keepIn K (.ref (He.ga K "weight_of"))=true
 zwx:PySem.W.keepIn K (.ref (He.ga K "with_members"))=true
 z9hb:Cls K (He.ga K "Block")
 z3l:Cls K (He.ga K "Program")
 z3z:ClX.CRead K (He.ga K "Block") (.type "type")
 z0v:Mk K (He.ga K "Block") (He.ma K (He.ga K "Block") "__init__")
 zkf:Mk K (He.ga K "Program") (He.ma K (He.ga K "Program") "__init__")
 zny:PySem.W.findCls K (.type "LookupError") (.type "type") "__init__" = some (.val (.builtin "LookupError.__init__"))
 zvu:PySem.W.findCls K (.type "OverflowError") (.type "type") "__init__" = some (.val (.builtin "OverflowError.__init__"))
 zuu:fBop "Block" "__add__" .Add bopTs K=true
 z4q:fBop "Block" "__lshift__" .LShift bopTs K=true
 z3q:fBop "Block" "__rshift__" .RShift bopTs K=true
 zrs:fBop "Program" "__add__" .Add bopTs K=true
 zjo:fBop "Program" "__lshift__" .LShift bopTs K=true
 zio:fBop "Program" "__rshift__" .RShift bopTs K=true
 z2q:CatC K "BadMend"
 zom:ClX.CMet K (He.ga K "Block") (.type "type") "read" (He.ma K (He.ga K "Block") "read") (He5.wf K (He.ga K "Block") "classmethod" "read")
 zlh:ErrC K "BadAmount" "value" (He.ma K (He.ga K "BadAmount") "__init__")
 zcs:ErrC K "BadEach" "name" (He.ma K (He.ga K "BadEach") "__init__")
 zoj:ErrC K "BadLine" "value" (He.ma K (He.ga K "BadLine") "__init__")
 zbs:ErrC K "BadMend" "mend" (He.ma K (He.ga K "BadMend") "__init__")
 zco:ErrC K "BadName" "value" (He.ma K (He.ga K "BadName") "__init__")
 z1u:ErrC K "BadTag" "value" (He.ma K (He.ga K "BadTag") "__init__")
 zas:ErrC K "Shallow" "line" (He.ma K (He.ga K "Shallow") "__init__")
 zv0:ErrC K "Twice" "name" (He.ma K (He.ga K "Twice") "__init__")
 z0u:ErrB K "LookupError.__new__" zdab "NoLine" "value" (He.ma K (He.ga K "NoLine") "__init__")
 zbo:ErrB K "OverflowError.__new__" z09 "TooMany" "limit" (He.ma K (He.ga K "TooMany") "__init__")
 zn8:ExmT K "BadMend" zao
 zun:PySem.W.findIn K (.ref (He.ga K "BadMend")) "mend" = some none
 zxe:fOwn "Block" "__getitem__" K=true
 z4g:fOwn "Block" "__len__" K=true
 z3g:fOwn "Block" "__neg__" K=true
 z2g:fOwn "Block" "__str__" K=true
 zzf:fOwn "Program" "__neg__" K=true
 zvv:fOwn "Program" "first" K=true
 zuv:fOwn "Program" "flush" K=true
 zux:fOwn "Program" "rest" K=true
 z8m:fOwn "Program" "tagged" K=true
 z8z:PropOf K (He.ga K "Block") "lines" (He.ma K (He.ga K "Block") "lines") (He5.wf K (He.ga K "Block") "property" "lines")
 z7z:PropOf K (He.ga K "Program") "row" (He.ma K (He.ga K "Program") "row") (He5.wf K (He.ga K "Program") "property" "row")
 ve:PySem.W.findCls K (.type "ValueError") (.type "type") "__init__" = some (.val (.builtin "ValueError.__init__"))
 zr6:∀C∈(["Program"]:List Str),Cls K (He.ga K C)∧NoAttr K (He.ga K C) "amount"
 zfbb:∀C∈(["Program"]:List Str),Cls K (He.ga K C)∧NoAttr K (He.ga K C) "block"
 f_cut:∀C∈(["Program"]:List Str),Cls K (He.ga K C)∧NoAttr K (He.ga K C) "cut"
 z9n:∀C∈(["Program"]:List Str),Cls K (He.ga K C)∧NoAttr K (He.ga K C) "members"
 zq6:∀C∈(["Program"]:List Str),Cls K (He.ga K C)∧NoAttr K (He.ga K C) "name"
 zan:∀C∈(["Block"]:List Str),Cls K (He.ga K C)∧NoAttr K (He.ga K C) "rows"
 zp6:∀C∈(["Program"]:List Str),Cls K (He.ga K C)∧NoAttr K (He.ga K C) "size"
 zebb:∀C∈(["Program"]:List Str),Cls K (He.ga K C)∧NoAttr K (He.ga K C) "spots"
 f_tag:∀C∈(["Program"]:List Str),Cls K (He.ga K C)∧NoAttr K (He.ga K C) "tag"
 z5t:∀C∈(["Program"]:List Str),Cls K (He.ga K C)∧NoAttr K (He.ga K C) "word"
 zec:KitT K zec (([CRef.bt "ValueError"]:List CRef).map (CRef.v K))
 zbi:IsiT K (isfT zbi) (([CRef.own "Block"]:List CRef).map (CRef.v K))
 z6g:IsiT K (isfT z6g) (([CRef.own "Block",CRef.bt "str"]:List CRef).map (CRef.v K))
 zjh:IsiT K (isfT zjh) (([CRef.own "Program"]:List CRef).map (CRef.v K))
 zge:IsiT K (isfT zge) (([CRef.bt "bool"]:List CRef).map (CRef.v K))
 zki:IsiT K (isfT zki) (([CRef.bt "int"]:List CRef).map (CRef.v K))
 zoe:IsiT K (isfT zoe) (([CRef.bt "str"]:List CRef).map (CRef.v K))
 z5g:IsiT K (isfT z5g) (([CRef.bt "tuple"]:List CRef).map (CRef.v K))
 zd5:∃fd,FunD K "is_number" "is_number" (defArgs zfd) (defBody zfd) (defScope zfd) [] [] (He.ga K "is_number") fd
 za8:∃fd,FunD K "is_index" "is_index" (defArgs zvd) (defBody zvd) (defScope zvd) [] [] (He.ga K "is_index") fd
 z1q:∃fd,FunD K "__getitem__" "Block.__getitem__" (defArgs zy) (defBody zy) (defScope zy) [] [] (He.ma K (He.ga K "Block") "__getitem__") fd
 z5w:∃fd,FunD K "__len__" "Block.__len__" (defArgs zxb) (defBody zxb) (defScope zxb) [] [] (He.ma K (He.ga K "Block") "__len__") fd
 zj5:∃fd,FunD K "_law_pick" "_law_pick" (defArgs zjd) (defBody zjd) (defScope zjd) [] [] (He.ga K "_law_pick") fd
 zjy:∃fd,FunD K "_law_members" "_law_members" (defArgs z4b) (defBody z4b) (defScope z4b) [] [] (He.ga K "_law_members") fd
 zi3:∃fd,FunD K "_law_parts" "_law_parts" (defArgs z3d) (defBody z3d) (defScope z3d) [] [] (He.ga K "_law_parts") fd
 zj3:∃fd,FunD K "_law_names" "_law_names" (defArgs znc) (defBody znc) (defScope znc) [] [] (He.ga K "_law_names") fd
 z3w:∃fd,FunD K "__str__" "Block.__str__" (defArgs zvb) (defBody zvb) (defScope zvb) [] [] (He.ma K (He.ga K "Block") "__str__") fd
 zky:∃fd,FunD K "_law_letters" "_law_letters" (defArgs zsb) (defBody zsb) (defScope zsb) [] [] (He.ga K "_law_letters") fd
 zk3:∃fd,FunD K "_law_fixed" "_law_fixed" (defArgs z0c) (defBody z0c) (defScope z0c) [] [] (He.ga K "_law_fixed") fd
 z50:∃fd,FunD K "_law_joined" "_law_joined" (defArgs zlc) (defBody zlc) (defScope zlc) [] [] (He.ga K "_law_joined") fd
 zi5:∃fd,FunD K "_law_step" "_law_step" (defArgs zid) (defBody zid) (defScope zid) [] [] (He.ga K "_law_step") fd
 zh5:∃fd,FunD K "_law_wild" "_law_wild" (defArgs zhd) (defBody zhd) (defScope zhd) [] [] (He.ga K "_law_wild") fd
 zk5:∃fd,FunD K "_law_book" "_law_book" (defArgs zkd) (defBody zkd) (defScope zkd) [] [] (He.ga K "_law_book") fd
 zubb:∃fd,FunD K "is_line" "is_line" (defArgs zle) (defBody zle) (defScope zle) [] [] (He.ga K "is_line") fd
 ztu:∃fd,FunD K "__init__" "Block.__init__" (defArgs zcb) (defBody zcb) (defScope zcb) [] [] (He.ma K (He.ga K "Block") "__init__") fd
 zm3:∃fd,FunD K "read" "Block.read" (defArgs z2c) (defBody z2c) (defScope z2c) [] [] (He5.wf K (He.ga K "Block") "classmethod" "read") fd
 z70:∃fd,FunD K "lines" "Block.lines" (defArgs zmc) (defBody zmc) (defScope zmc) [] [] (He5.wf K (He.ga K "Block") "property" "lines") fd
 zc5:∃fd,FunD K "margin_of" "margin_of" (defArgs zed) (defBody zed) (defScope zed) [] [] (He.ga K "margin_of") fd
 zneb:∃fd,FunD K "is_tag" "is_tag" (defArgs z2e) (defBody z2e) (defScope z2e) [] [] (He.ga K "is_tag") fd
 zh3:∃fd,FunD K "line_nodes" "line_nodes" (defArgs zzc) (defBody zzc) (defScope zzc) [] [] (He.ga K "line_nodes") fd
 zg3:∃fd,FunD K "split_text" "split_text" (defArgs zyc) (defBody zyc) (defScope zyc) [] [] (He.ga K "split_text") fd
 zjs:∃fd,FunD K "__init__" "Program.__init__" (defArgs zq) (defBody zq) (defScope zq) [.non,.non,.non,.non] [] (He.ma K (He.ga K "Program") "__init__") fd
 z6hb:∃fd,FunD K "fixed" "fixed" (defArgs zdg) (defBody zdg) (defScope zdg) [] [] (He.ga K "fixed") fd
 zsbb:∃fd,FunD K "is_name" "is_name" (defArgs zje) (defBody zje) (defScope zje) [] [] (He.ga K "is_name") fd
 z1kb:∃fd,FunD K "hole" "hole" (defArgs zdj) (defBody zdj) (defScope zdj) [] [] (He.ga K "hole") fd
 zg5:∃fd,FunD K "all_parts" "all_parts" (defArgs zse) (defBody zse) (defScope zse) [] [] (He.ga K "all_parts") fd
 zb5:∃fd,FunD K "name_list" "name_list" (defArgs z5c) (defBody z5c) (defScope z5c) [] [] (He.ga K "name_list") fd
 z60:∃fd,FunD K "row" "Program.row" (defArgs zac) (defBody zac) (defScope zac) [] [] (He5.wf K (He.ga K "Program") "property" "row") fd
 z94:∃fd,FunD K "weight_of" "weight_of" (defArgs z4c) (defBody z4c) (defScope z4c) [] [] (He.ga K "weight_of") fd
 zvbb:∃fd,FunD K "checked" "checked" (defArgs z2d) (defBody z2d) (defScope z2d) [] [] (He.ga K "checked") fd
 z2kb:∃fd,FunD K "each" "each" (defArgs zej) (defBody zej) (defScope zej) [] [] (He.ga K "each") fd
 za5:∃fd,FunD K "rows_from" "rows_from" (defArgs zdd) (defBody zdd) (defScope zdd) [] [] (He.ga K "rows_from") fd
 z6w:∃fd,FunD K "__add__" "Block.__add__" (defArgs zyb) (defBody zyb) (defScope zyb) [] [] (He.ma K (He.ga K "Block") "__add__") fd
 z30:∃fd,FunD K "sum_members" "sum_members" (defArgs zkc) (defBody zkc) (defScope zkc) [] [] (He.ga K "sum_members") fd
 zleb:∃fd,FunD K "summed" "summed" (defArgs zgf) (defBody zgf) (defScope zgf) [] [] (He.ga K "summed") fd
 zfy:∃fd,FunD K "program_from" "program_from" (defArgs z1b) (defBody z1b) (defScope z1b) [] [] (He.ga K "program_from") fd
 zgt:∃fd,FunD K "__add__" "Program.__add__" (defArgs zeb) (defBody zeb) (defScope zeb) [] [] (He.ma K (He.ga K "Program") "__add__") fd
 ze5:∃fd,FunD K "is_amount" "is_amount" (defArgs zgd) (defBody zgd) (defScope zgd) [] [] (He.ga K "is_amount") fd
 zgy:∃fd,FunD K "moved" "moved" (defArgs z2b) (defBody z2b) (defScope z2b) [] [] (He.ga K "moved_blocks") fd
 zks:∃fd,FunD K "__rshift__" "Block.__rshift__" (defArgs zx) (defBody zx) (defScope zx) [] [] (He.ma K (He.ga K "Block") "__rshift__") fd
 zrbb:∃fd,FunD K "shifted" "shifted" (defArgs zie) (defBody zie) (defScope zie) [] [] (He.ga K "shifted") fd
 zrp:∃fd,FunD K "__rshift__" "Program.__rshift__" (defArgs zt) (defBody zt) (defScope zt) [] [] (He.ma K (He.ga K "Program") "__rshift__") fd
 z0w:∃fd,FunD K "shallow_place" "shallow_place" (defArgs zqb) (defBody zqb) (defScope zqb) [] [] (He.ga K "shallow_place") fd
 z40:∃fd,FunD K "raised_rows" "raised_rows" (defArgs z9b) (defBody z9b) (defScope z9b) [] [] (He.ga K "raised_rows") fd
 zls:∃fd,FunD K "__lshift__" "Block.__lshift__" (defArgs z6) (defBody z6) (defScope z6) [] [] (He.ma K (He.ga K "Block") "__lshift__") fd
 zsp:∃fd,FunD K "__lshift__" "Program.__lshift__" (defArgs zu) (defBody zu) (defScope zu) [] [] (He.ma K (He.ga K "Program") "__lshift__") fd
 z2w:∃fd,FunD K "first" "Program.first" (defArgs zub) (defBody zub) (defScope zub) [] [] (He.ma K (He.ga K "Program") "first") fd
 zly:∃fd,FunD K "rest" "Program.rest" (defArgs z5b) (defBody z5b) (defScope z5b) [] [] (He.ma K (He.ga K "Program") "rest") fd
 z1w:∃fd,FunD K "flush" "Program.flush" (defArgs ztb) (defBody ztb) (defScope ztb) [] [] (He.ma K (He.ga K "Program") "flush") fd
 zsu:∃fd,FunD K "tagged" "Program.tagged" (defArgs zib) (defBody zib) (defScope zib) [] [("hang",.bl true)] (He.ma K (He.ga K "Program") "tagged") fd
 zhy:∃fd,FunD K "least_margin" "least_margin" (defArgs zrb) (defBody zrb) (defScope zrb) [] [] (He.ga K "least_margin") fd
 zf5:∃fd,FunD K "flat_rows" "flat_rows" (defArgs z6c) (defBody z6c) (defScope z6c) [] [] (He.ga K "flat_rows") fd
 z4w:∃fd,FunD K "__neg__" "Block.__neg__" (defArgs zwb) (defBody zwb) (defScope zwb) [] [] (He.ma K (He.ga K "Block") "__neg__") fd
 zft:∃fd,FunD K "__neg__" "Program.__neg__" (defArgs zdb) (defBody zdb) (defScope zdb) [] [] (He.ma K (He.ga K "Program") "__neg__") fd
 zl3:∃fd,FunD K "_law_build" "_law_build" (defArgs z4d) (defBody z4d) (defScope z4d) [] [] (He.ga K "_law_build") fd
 z97:∃fd,FunD K "mends_of" "mends_of" (defArgs znd) (defBody znd) (defScope znd) [] [] (He.ga K "mends_of") fd
 ztbb:∃fd,FunD K "is_mend" "is_mend" (defArgs zke) (defBody zke) (defScope zke) [] [] (He.ga K "is_mend") fd
 zwbb:∃fd,FunD K "changed" "changed" (defArgs zme) (defBody zme) (defScope zme) [] [] (He.ga K "changed") fd
 zey:∃fd,FunD K "with_members" "with_members" (defArgs z0b) (defBody z0b) (defScope z0b) [] [] (He.ga K "with_members") fd
 zoeb:∃fd,FunD K "behind" "behind" (defArgs z9h) (defBody z9h) (defScope z9h) [] [] (He.ga K "behind") fd
 zmeb:∃fd,FunD K "mended" "mended" (defArgs zhf) (defBody zhf) (defScope zhf) [] [] (He.ga K "mended") fd
 zb8:∃fd,FunD K "_law_odd" "_law_odd" (defArgs zwd) (defBody zwd) (defScope zwd) [] [] (He.ga K "_law_odd") fd
 ziy:∃fd,FunD K "_law_refused" "_law_refused" (defArgs z3b) (defBody z3b) (defScope z3b) [] [] (He.ga K "_law_refused") fd
 d_law:∃fd,FunD K "law" "law" (defArgs st_law) (defBody st_law) (defScope st_law) [] [] (He.ga K "law") fd
 ztp:∃fd,FunD K "__init__" "BadAmount.__init__" (defArgs z6b) (defBody z6b) (defScope z6b) [] [] (He.ma K (He.ga K "BadAmount") "__init__") fd
 zps:∃fd,FunD K "__init__" "BadEach.__init__" (defArgs ztc) (defBody ztc) (defScope ztc) [] [] (He.ma K (He.ga K "BadEach") "__init__") fd
 zos:∃fd,FunD K "__init__" "BadLine.__init__" (defArgs zsc) (defBody zsc) (defScope zsc) [] [] (He.ma K (He.ga K "BadLine") "__init__") fd
 zns:∃fd,FunD K "__init__" "BadMend.__init__" (defArgs zrc) (defBody zrc) (defScope zrc) [] [] (He.ma K (He.ga K "BadMend") "__init__") fd
 zms:∃fd,FunD K "__init__" "BadName.__init__" (defArgs zqc) (defBody zqc) (defScope zqc) [] [] (He.ma K (He.ga K "BadName") "__init__") fd
 zit:∃fd,FunD K "__init__" "BadTag.__init__" (defArgs z3c) (defBody z3c) (defScope z3c) [] [] (He.ma K (He.ga K "BadTag") "__init__") fd
 zht:∃fd,FunD K "__init__" "NoLine.__init__" (defArgs z1c) (defBody z1c) (defScope z1c) [] [] (He.ma K (He.ga K "NoLine") "__init__") fd
 zis:∃fd,FunD K "__init__" "Shallow.__init__" (defArgs zpc) (defBody zpc) (defScope zpc) [] [] (He.ma K (He.ga K "Shallow") "__init__") fd
 zhs:∃fd,FunD K "__init__" "TooMany.__init__" (defArgs zoc) (defBody zoc) (defScope zoc) [] [] (He.ma K (He.ga K "TooMany") "__init__") fd
 zru:∃fd,FunD K "__init__" "Twice.__init__" (defArgs zad) (defBody zad) (defScope zad) [] [] (He.ma K (He.ga K "Twice") "__init__") fd
theorem zzv {K:Fg} {C m:Str} (h:fOwn C m K=true):Meth K (He.ga K C) m (He.ma K (He.ga K C) m):=⟨(zaf h).1,(zaf h).2.1,(zaf h).2.2.2⟩
section
variable {P:Program} {w:World} {K:Fg} {mg:Str→Option Value} {base:Heap}
theorem zpn:FnScope ["self", "value"] ["self", "value"] (defScope z6b):=⟨rfl,rfl,rfl,by decide +kernel,rfl,by decide +kernel,by decide +kernel⟩
theorem zvg (T:Tx K mg):∃fd,FnG P w K mg base 1 (He.ma K (He.ga K "BadAmount") "__init__") fd ["self", "value"] (spErr K "BadAmount" "value" 15)∧L2.Binds K fd ["self", "value"] []:=by
 obtain⟨fd,Fn⟩:=T.ztp
 exact⟨fd,zzh (k:=0) Fn zpn (fun cdv A outer s H E hr=>⟨_,pss_cons (ps_expr (pe_veinit (by rfl) T.z7d T.ve (pa_cons (pv 0) (pa_cons (pe_joined (PJ.cons pe_str (PJ.cons (zvk hr.gd hr.units (pv 1)) PJ.nil))) pa_nil)))) (pss_one (ps_ost (pv 0) (pv 1))),
  fun a v p Q ha hd ok want=>⟨.ref a,rfl,_,rfl,by decide +kernel,v,rfl,p,hd,z8f ok,_,rfl,zxp ok (by decide +kernel),a,_,[_],rfl,(by show 1≤1000;decide),T.zlh.ox,ha,v,rfl,.ref a,rfl,a,_,rfl,T.zlh.ox,T.zlh.noF,.inl ⟨ha,want⟩⟩⟩),
  Fn.bindsN fun _ _ _ _ _ _ us hl=>match us,hl with |[_,_],_=>rfl⟩
theorem zeq:FnScope ["self", "name"] ["self", "name"] (defScope ztc):=⟨rfl,rfl,rfl,by decide +kernel,rfl,by decide +kernel,by decide +kernel⟩
theorem ziz (T:Tx K mg):∃fd,FnG P w K mg base 1 (He.ma K (He.ga K "BadEach") "__init__") fd ["self", "name"] (spErr K "BadEach" "name" 31)∧L2.Binds K fd ["self", "name"] []:=by
 obtain⟨fd,Fn⟩:=T.zps
 exact⟨fd,zzh (k:=0) Fn zeq (fun cdv A outer s H E hr=>⟨_,pss_cons (ps_expr (pe_veinit (by rfl) T.z7d T.ve (pa_cons (pv 0) (pa_cons (pe_joined (PJ.cons pe_str (PJ.cons (zvk hr.gd hr.units (pv 1)) PJ.nil))) pa_nil)))) (pss_one (ps_ost (pv 0) (pv 1))),
  fun a v p Q ha hd ok want=>⟨.ref a,rfl,_,rfl,by decide +kernel,v,rfl,p,hd,z8f ok,_,rfl,zxp ok (by decide +kernel),a,_,[_],rfl,(by show 1≤1000;decide),T.zcs.ox,ha,v,rfl,.ref a,rfl,a,_,rfl,T.zcs.ox,T.zcs.noF,.inl ⟨ha,want⟩⟩⟩),
  Fn.bindsN fun _ _ _ _ _ _ us hl=>match us,hl with |[_,_],_=>rfl⟩
theorem zdq:FnScope ["self", "value"] ["self", "value"] (defScope zsc):=⟨rfl,rfl,rfl,by decide +kernel,rfl,by decide +kernel,by decide +kernel⟩
theorem zug (T:Tx K mg):∃fd,FnG P w K mg base 1 (He.ma K (He.ga K "BadLine") "__init__") fd ["self", "value"] (spErr K "BadLine" "value" 41)∧L2.Binds K fd ["self", "value"] []:=by
 obtain⟨fd,Fn⟩:=T.zos
 exact⟨fd,zzh (k:=0) Fn zdq (fun cdv A outer s H E hr=>⟨_,pss_cons (ps_expr (pe_veinit (by rfl) T.z7d T.ve (pa_cons (pv 0) (pa_cons (pe_joined (PJ.cons pe_str (PJ.cons (zvk hr.gd hr.units (pv 1)) PJ.nil))) pa_nil)))) (pss_one (ps_ost (pv 0) (pv 1))),
  fun a v p Q ha hd ok want=>⟨.ref a,rfl,_,rfl,by decide +kernel,v,rfl,p,hd,z8f ok,_,rfl,zxp ok (by decide +kernel),a,_,[_],rfl,(by show 1≤1000;decide),T.zoj.ox,ha,v,rfl,.ref a,rfl,a,_,rfl,T.zoj.ox,T.zoj.noF,.inl ⟨ha,want⟩⟩⟩),
  Fn.bindsN fun _ _ _ _ _ _ us hl=>match us,hl with |[_,_],_=>rfl⟩
theorem zcq:FnScope ["self", "mend"] ["self", "mend"] (defScope zrc):=⟨rfl,rfl,rfl,by decide +kernel,rfl,by decide +kernel,by decide +kernel⟩
theorem zhz (T:Tx K mg):∃fd,FnG P w K mg base 1 (He.ma K (He.ga K "BadMend") "__init__") fd ["self", "mend"] (spErr K "BadMend" "mend" 27)∧L2.Binds K fd ["self", "mend"] []:=by
 obtain⟨fd,Fn⟩:=T.zns
 exact⟨fd,zzh (k:=0) Fn zcq (fun cdv A outer s H E hr=>⟨_,pss_cons (ps_expr (pe_veinit (by rfl) T.z7d T.ve (pa_cons (pv 0) (pa_cons (pe_joined (PJ.cons pe_str (PJ.cons (zvk hr.gd hr.units (pv 1)) PJ.nil))) pa_nil)))) (pss_one (ps_ost (pv 0) (pv 1))),
  fun a v p Q ha hd ok want=>⟨.ref a,rfl,_,rfl,by decide +kernel,v,rfl,p,hd,z8f ok,_,rfl,zxp ok (by decide +kernel),a,_,[_],rfl,(by show 1≤1000;decide),T.zbs.ox,ha,v,rfl,.ref a,rfl,a,_,rfl,T.zbs.ox,T.zbs.noF,.inl ⟨ha,want⟩⟩⟩),
  Fn.bindsN fun _ _ _ _ _ _ us hl=>match us,hl with |[_,_],_=>rfl⟩
theorem zbq:FnScope ["self", "value"] ["self", "value"] (defScope zqc):=⟨rfl,rfl,rfl,by decide +kernel,rfl,by decide +kernel,by decide +kernel⟩
theorem zdp (T:Tx K mg):∃fd,FnG P w K mg base 1 (He.ma K (He.ga K "BadName") "__init__") fd ["self", "value"] (spErr K "BadName" "value" 12)∧L2.Binds K fd ["self", "value"] []:=by
 obtain⟨fd,Fn⟩:=T.zms
 exact⟨fd,zzh (k:=0) Fn zbq (fun cdv A outer s H E hr=>⟨_,pss_cons (ps_expr (pe_veinit (by rfl) T.z7d T.ve (pa_cons (pv 0) (pa_cons (pe_joined (PJ.cons pe_str (PJ.cons (zvk hr.gd hr.units (pv 1)) PJ.nil))) pa_nil)))) (pss_one (ps_ost (pv 0) (pv 1))),
  fun a v p Q ha hd ok want=>⟨.ref a,rfl,_,rfl,by decide +kernel,v,rfl,p,hd,z8f ok,_,rfl,zxp ok (by decide +kernel),a,_,[_],rfl,(by show 1≤1000;decide),T.zco.ox,ha,v,rfl,.ref a,rfl,a,_,rfl,T.zco.ox,T.zco.noF,.inl ⟨ha,want⟩⟩⟩),
  Fn.bindsN fun _ _ _ _ _ _ us hl=>match us,hl with |[_,_],_=>rfl⟩
theorem zrr:FnScope ["self", "value"] ["self", "value"] (defScope z3c):=⟨rfl,rfl,rfl,by decide +kernel,rfl,by decide +kernel,by decide +kernel⟩
theorem za3 (T:Tx K mg):∃fd,FnG P w K mg base 1 (He.ma K (He.ga K "BadTag") "__init__") fd ["self", "value"] (spErr K "BadTag" "value" 11)∧L2.Binds K fd ["self", "value"] []:=by
 obtain⟨fd,Fn⟩:=T.zit
 exact⟨fd,zzh (k:=0) Fn zrr (fun cdv A outer s H E hr=>⟨_,pss_cons (ps_expr (pe_veinit (by rfl) T.z7d T.ve (pa_cons (pv 0) (pa_cons (pe_joined (PJ.cons pe_str (PJ.cons (zvk hr.gd hr.units (pv 1)) PJ.nil))) pa_nil)))) (pss_one (ps_ost (pv 0) (pv 1))),
  fun a v p Q ha hd ok want=>⟨.ref a,rfl,_,rfl,by decide +kernel,v,rfl,p,hd,z8f ok,_,rfl,zxp ok (by decide +kernel),a,_,[_],rfl,(by show 1≤1000;decide),T.z1u.ox,ha,v,rfl,.ref a,rfl,a,_,rfl,T.z1u.ox,T.z1u.noF,.inl ⟨ha,want⟩⟩⟩),
  Fn.bindsN fun _ _ _ _ _ _ us hl=>match us,hl with |[_,_],_=>rfl⟩
theorem zpr:FnScope ["self", "value"] ["self", "value"] (defScope z1c):=⟨rfl,rfl,rfl,by decide +kernel,rfl,by decide +kernel,by decide +kernel⟩
theorem z92 (T:Tx K mg):∃fd,FnG P w K mg base 1 (He.ma K (He.ga K "NoLine") "__init__") fd ["self", "value"] (spErr K "NoLine" "value" 25)∧L2.Binds K fd ["self", "value"] []:=by
 obtain⟨fd,Fn⟩:=T.zht
 exact⟨fd,zzh (k:=0) Fn zpr (fun cdv A outer s H E hr=>⟨_,pss_cons (ps_expr (zafb zrw (by rfl) T.zb1 T.zny (pa_cons (pv 0) (pa_cons (pe_joined (PJ.cons pe_str (PJ.cons (zvk hr.gd hr.units (pv 1)) PJ.nil))) pa_nil)))) (pss_one (z8eb zrw (pv 0) (pv 1))),
  fun a v p Q ha hd ok want=>⟨.ref a,rfl,_,rfl,by decide +kernel,v,rfl,p,hd,z8f ok,_,rfl,zxp ok (by decide +kernel),a,_,[_],rfl,(by show 1≤1000;decide),T.z0u.ox,ha,v,rfl,.ref a,rfl,a,_,rfl,T.z0u.ox,T.z0u.noF,⟨ha,want⟩⟩⟩),
  Fn.bindsN fun _ _ _ _ _ _ us hl=>match us,hl with |[_,_],_=>rfl⟩
theorem zaq:FnScope ["self", "line"] ["self", "line"] (defScope zpc):=⟨rfl,rfl,rfl,by decide +kernel,rfl,by decide +kernel,by decide +kernel⟩
theorem zgz (T:Tx K mg):∃fd,FnG P w K mg base 1 (He.ma K (He.ga K "Shallow") "__init__") fd ["self", "line"] (spErr K "Shallow" "line" 32)∧L2.Binds K fd ["self", "line"] []:=by
 obtain⟨fd,Fn⟩:=T.zis
 exact⟨fd,zzh (k:=0) Fn zaq (fun cdv A outer s H E hr=>⟨_,pss_cons (ps_expr (pe_veinit (by rfl) T.z7d T.ve (pa_cons (pv 0) (pa_cons (pe_joined (PJ.cons pe_str (PJ.cons (zvk hr.gd hr.units (pv 1)) PJ.nil))) pa_nil)))) (pss_one (ps_ost (pv 0) (pv 1))),
  fun a v p Q ha hd ok want=>⟨.ref a,rfl,_,rfl,by decide +kernel,v,rfl,p,hd,z8f ok,_,rfl,zxp ok (by decide +kernel),a,_,[_],rfl,(by show 1≤1000;decide),T.zas.ox,ha,v,rfl,.ref a,rfl,a,_,rfl,T.zas.ox,T.zas.noF,.inl ⟨ha,want⟩⟩⟩),
  Fn.bindsN fun _ _ _ _ _ _ us hl=>match us,hl with |[_,_],_=>rfl⟩
theorem z9p:FnScope ["self", "limit"] ["self", "limit"] (defScope zoc):=⟨rfl,rfl,rfl,by decide +kernel,rfl,by decide +kernel,by decide +kernel⟩
theorem zcp (T:Tx K mg):∃fd,FnG P w K mg base 1 (He.ma K (He.ga K "TooMany") "__init__") fd ["self", "limit"] (spErr K "TooMany" "limit" 19)∧L2.Binds K fd ["self", "limit"] []:=by
 obtain⟨fd,Fn⟩:=T.zhs
 exact⟨fd,zzh (k:=0) Fn z9p (fun cdv A outer s H E hr=>⟨_,pss_cons (ps_expr (zafb zu0 (by rfl) T.zbx T.zvu (pa_cons (pv 0) (pa_cons (pe_joined (PJ.cons pe_str (PJ.cons (zvk hr.gd hr.units (pv 1)) PJ.nil))) pa_nil)))) (pss_one (z8eb zu0 (pv 0) (pv 1))),
  fun a v p Q ha hd ok want=>⟨.ref a,rfl,_,rfl,by decide +kernel,v,rfl,p,hd,z8f ok,_,rfl,zxp ok (by decide +kernel),a,_,[_],rfl,(by show 1≤1000;decide),T.zbo.ox,ha,v,rfl,.ref a,rfl,a,_,rfl,T.zbo.ox,T.zbo.noF,⟨ha,want⟩⟩⟩),
  Fn.bindsN fun _ _ _ _ _ _ us hl=>match us,hl with |[_,_],_=>rfl⟩
theorem z0s:FnScope ["self", "name"] ["self", "name"] (defScope zad):=⟨rfl,rfl,rfl,by decide +kernel,rfl,by decide +kernel,by decide +kernel⟩
theorem zu6 (T:Tx K mg):∃fd,FnG P w K mg base 1 (He.ma K (He.ga K "Twice") "__init__") fd ["self", "name"] (spErr K "Twice" "name" 26)∧L2.Binds K fd ["self", "name"] []:=by
 obtain⟨fd,Fn⟩:=T.zru
 exact⟨fd,zzh (k:=0) Fn z0s (fun cdv A outer s H E hr=>⟨_,pss_cons (ps_expr (pe_veinit (by rfl) T.z7d T.ve (pa_cons (pv 0) (pa_cons (pe_joined (PJ.cons pe_str (PJ.cons (zvk hr.gd hr.units (pv 1)) PJ.nil))) pa_nil)))) (pss_one (ps_ost (pv 0) (pv 1))),
  fun a v p Q ha hd ok want=>⟨.ref a,rfl,_,rfl,by decide +kernel,v,rfl,p,hd,z8f ok,_,rfl,zxp ok (by decide +kernel),a,_,[_],rfl,(by show 1≤1000;decide),T.zv0.ox,ha,v,rfl,.ref a,rfl,a,_,rfl,T.zv0.ox,T.zv0.noF,.inl ⟨ha,want⟩⟩⟩),
  Fn.bindsN fun _ _ _ _ _ _ us hl=>match us,hl with |[_,_],_=>rfl⟩
abbrev zdr:List Str:=["thing"]
theorem zs1:FnScope zdr ["thing"] (defScope zfd):=⟨rfl,rfl,rfl,by decide +kernel,rfl,by decide +kernel,by decide +kernel⟩
def zkm:DS:=
    (sRet ((eAnd (eIsi (isfT zki) (eVar 0)) (eNot (eIsi (isfT zge) (eVar 0))))))
def z8q:DF:=runF 1 zkm
def z1m:DF:=lenF 1 z8q
theorem zs2 (T:Tx K mg):∃fd,FunD K "is_number" "is_number" (defArgs zfd) (defBody zfd) (defScope zfd) [] [] (He.ga K "is_number") fd∧FnG P w K mg base 1 (He.ga K "is_number") fd ["thing"] (spD K 1 z8q):=by
 obtain⟨fd,Fn⟩:=T.zd5
 exact⟨fd,Fn,fn_D (N:=zdr) (ps:=["thing"]) (k:=0) (g:=zkm) Fn zs1 (fun cdv A outer s H E hr=>by
  have tk:L2N.Takes (cxOf (L2N.CX P w) P w K mg base zdr "is_number" (defScope zfd) (He.ga K "is_number") cdv A outer s H E) (fun c d _ H=>E c d H):=L2N.takes_of rfl rfl rfl rfl
  exact (zl (zo ((z7t (zsj (by rfl) T.zmb (zf (pv 0)) (pe_bltn (v:=.ty "int") (by rfl) T.b_int (by decide +kernel) rfl) (.ty "int") T.zki) (zkz (zzkb (zsj (by rfl) T.zmb (zf (pv 0)) (pe_bltn (v:=.ty "bool") (by rfl) T.z76 (by decide +kernel) rfl) (.ty "bool") T.zge))))))))⟩
theorem z32 (T:Tx K mg):FnD P w K mg base 1 (He.ga K "is_number") z1m:=by
 obtain⟨fd,Fn,Fg⟩:=zs2 (P:=P) (w:=w) (base:=base) T
 exact z7 Fg (Fn.bindsN fun _ _ _ _ _ _ us hl=>match us,hl with |[_],_=>rfl)
abbrev zmt:List Str:=["thing", "many"]
theorem z13:FnScope zmt ["thing", "many"] (defScope zvd):=⟨rfl,rfl,rfl,by decide +kernel,rfl,by decide +kernel,by decide +kernel⟩
def zik:DS:=
    (sRet ((eAnd (eFn z1m (aCons (eVar 0) aNil)) (zdo leD ltD (eC (.int 0)) (eVar 0) (eVar 1)))))
def zjp:DF:=runF 2 zik
def zbj:DF:=lenF 2 zjp
theorem zx4 (T:Tx K mg):∃fd,FunD K "is_index" "is_index" (defArgs zvd) (defBody zvd) (defScope zvd) [] [] (He.ga K "is_index") fd∧FnG P w K mg base 2 (He.ga K "is_index") fd ["thing", "many"] (spD K 2 zjp):=by
 obtain⟨fd,Fn⟩:=T.za8
 exact⟨fd,Fn,fn_D (N:=zmt) (ps:=["thing", "many"]) (k:=1) (g:=zik) Fn z13 (fun cdv A outer s H E hr=>by
  have tk:L2N.Takes (cxOf (L2N.CX P w) P w K mg base zmt "is_index" (defScope zvd) (He.ga K "is_index") cdv A outer s H E) (fun c d _ H=>E c d H):=L2N.takes_of rfl rfl rfl rfl
  exact (zl (zo ((z7t (de_fn tk (z32 T) (rmo hr) (by rfl) T.zo4 T.zb4 (ze (zf (pv 0)) zg)) (zkz (z20 zsn z3s bl_le (zk) (zf (pv 0)) (zf (pv 1)))))))))⟩
theorem znw (T:Tx K mg):FnD P w K mg base 2 (He.ga K "is_index") zbj:=by
 obtain⟨fd,Fn,Fg⟩:=zx4 (P:=P) (w:=w) (base:=base) T
 exact z7 Fg (Fn.bindsN fun _ _ _ _ _ _ us hl=>match us,hl with |[_,_],_=>rfl)
abbrev zog:List Str:=["self", "at"]
theorem znp:FnScope zog ["self", "at"] (defScope zy):=⟨rfl,rfl,rfl,by decide +kernel,rfl,by decide +kernel,by decide +kernel⟩
def zdi:DS:=
    (sSeq (sIf (bNot (bT (eFn zbj (aCons (eVar 1) (aCons (eLen [] (aCons (eFld ["Block"] "rows" (eVar 0)) aNil)) aNil))))) (ztg "NoLine" "value" 25 (eVar 1)) sNext)
    (sRet (eIx [] (eFld ["Block"] "rows" (eVar 0)) (eVar 1))))
def zzj:DF:=runF 2 zdi
def zb:DF:=lenF 2 zzj
theorem zpp (T:Tx K mg):∃fd,FunD K "__getitem__" "Block.__getitem__" (defArgs zy) (defBody zy) (defScope zy) [] [] (He.ma K (He.ga K "Block") "__getitem__") fd∧FnG P w K mg base 3 (He.ma K (He.ga K "Block") "__getitem__") fd ["self", "at"] (spD K 2 zzj):=by
 obtain⟨fd,Fn⟩:=T.z1q
 exact⟨fd,Fn,fn_D (N:=zog) (ps:=["self", "at"]) (k:=2) (g:=zdi) Fn znp (fun cdv A outer s H E hr=>by
  have tk:L2N.Takes (cxOf (L2N.CX P w) P w K mg base zog "Block.__getitem__" (defScope zy) (He.ma K (He.ga K "Block") "__getitem__") cdv A outer s H E) (fun c d _ H=>E c d H):=L2N.takes_of rfl rfl rfl rfl
  exact (zj (ds_if (zhh (zqe (de_fn tk (znw T) (rmo hr) (by rfl) T.zbz T.z4y (ze (zf (pv 1)) (ze (z6d (k:=0) (t:=[]) tk (fun _ z=>nomatch z) (rmo hr) (by rfl) T.b_len (ze (zrd (Cs:=["Block"]) T.zan (zf (pv 0))) zg)) zg))))) (zl (ztw zrw rfl tk T.z0u (z92 T).choose_spec.1 (z92 T).choose_spec.2 (rmo hr) (by rfl) T.z0db (zf (pv 1)))) zjb)
  (zl (zo (de_ix (k:=0) (t:=[]) tk (fun _ z=>nomatch z) (rmo hr) (zrd (Cs:=["Block"]) T.zan (zf (pv 0))) (zf (pv 1)) (fun _ _=>rfl) (fun _ _=>by with_unfolding_all rfl))))))⟩
theorem zqp (T:Tx K mg):FnD P w K mg base 3 (He.ma K (He.ga K "Block") "__getitem__") zb:=by
 obtain⟨fd,Fn,Fg⟩:=zpp (P:=P) (w:=w) (base:=base) T
 exact z7 Fg (Fn.bindsN fun _ _ _ _ _ _ us hl=>match us,hl with |[_,_],_=>rfl)
theorem zh (T:Tx K mg) {k:Nat} (hk:3≤k):∀q∈([("Block",zb)]:Tbl),OwnM P w K mg base k "__getitem__" q.1 q.2:=
 (zyg ⟨_,(zaf T.zxe).1,(zaf T.zxe).2.1,(zaf T.zxe).2.2.1,(zaf T.zxe).2.2.2,(zqp T).mono (Nat.le_trans (by decide) hk)⟩ z6p)
abbrev z5j:List Str:=["self"]
theorem zcu:FnScope z5j ["self"] (defScope zxb):=⟨rfl,rfl,rfl,by decide +kernel,rfl,by decide +kernel,by decide +kernel⟩
def z1l:DS:=
    (sRet (eLen [] (aCons (eFld ["Block"] "rows" (eVar 0)) aNil)))
def zro:DF:=runF 1 z1l
def zi:DF:=lenF 1 zro
theorem ziu (T:Tx K mg):∃fd,FunD K "__len__" "Block.__len__" (defArgs zxb) (defBody zxb) (defScope zxb) [] [] (He.ma K (He.ga K "Block") "__len__") fd∧FnG P w K mg base 2 (He.ma K (He.ga K "Block") "__len__") fd ["self"] (spD K 1 zro):=by
 obtain⟨fd,Fn⟩:=T.z5w
 exact⟨fd,Fn,fn_D (N:=z5j) (ps:=["self"]) (k:=1) (g:=z1l) Fn zcu (fun cdv A outer s H E hr=>by
  have tk:L2N.Takes (cxOf (L2N.CX P w) P w K mg base z5j "Block.__len__" (defScope zxb) (He.ma K (He.ga K "Block") "__len__") cdv A outer s H E) (fun c d _ H=>E c d H):=L2N.takes_of rfl rfl rfl rfl
  exact (zl (zo (z6d (k:=0) (t:=[]) tk (fun _ z=>nomatch z) (rmo hr) (by rfl) T.b_len (ze (zrd (Cs:=["Block"]) T.zan (zf (pv 0))) zg)))))⟩
theorem zpu (T:Tx K mg):FnD P w K mg base 2 (He.ma K (He.ga K "Block") "__len__") zi:=by
 obtain⟨fd,Fn,Fg⟩:=ziu (P:=P) (w:=w) (base:=base) T
 exact z7 Fg (Fn.bindsN fun _ _ _ _ _ _ us hl=>match us,hl with |[_],_=>rfl)
theorem zuc (T:Tx K mg) {k:Nat} (hk:2≤k):∀q∈([("Block",zi)]:Tbl),OwnM P w K mg base k "__len__" q.1 q.2:=
 (zyg ⟨_,(zaf T.z4g).1,(zaf T.z4g).2.1,(zaf T.z4g).2.2.1,(zaf T.z4g).2.2.2,(zpu T).mono (Nat.le_trans (by decide) hk)⟩ z6p)
abbrev zir:List Str:=["_law_state", "_law_many", "_law_value", "_law_cells", "_law_cell", "_law_mixed"]
theorem zsg:FnScope zir ["_law_state", "_law_many"] (defScope zjd):=⟨rfl,rfl,rfl,by decide +kernel,rfl,by decide +kernel,by decide +kernel⟩
def z9g:DS:=
    (sSeq (sSetL (eOp addD (eIx [("Block",zb)] (eVar 0) (eC (.int 2))) (eC (.int 1))) (eVar 0) (eC (.int 2)))
    (sSeq (sIf (bT (eOp gtD (eIx [("Block",zb)] (eVar 0) (eC (.int 0))) (eC (.int 0)))) (sSeq (sAsg (eOp modD (eB intD (aCons (eIx [("Block",zb)] (eVar 0) (eC (.int 0))) aNil)) (eVar 1)) (gNm 2))
    (sSeq (sSetL (eOp fdivD (eIx [("Block",zb)] (eVar 0) (eC (.int 0))) (eVar 1)) (eVar 0) (eC (.int 0)))
    (sRet (eVar 2)))) sNext)
    (sSeq (sAsg (eIx [("Block",zb)] (eVar 0) (eC (.int 3))) (gNm 3))
    (sSeq (sAsg (eIf (bT (eVar 3)) (eIx [("Block",zb)] (eVar 3) (eOp modD (eB intD (aCons (eIx [("Block",zb)] (eVar 0) (eC (.int 1))) aNil)) (eLen [("Block",zi)] (aCons (eVar 3) aNil)))) (eC (.int 5))) (gNm 4))
    (sSeq (sSetL (eOp addD (eIx [("Block",zb)] (eVar 0) (eC (.int 1))) (eC (.int 1))) (eVar 0) (eC (.int 1)))
    (sSeq (sIf (bT (eOp geD (eVar 4) (eOp powD (eC (.int 10)) (eC (.int 18))))) (sSeq (sSetL (eOp fdivD (eVar 4) (eVar 1)) (eVar 0) (eC (.int 0)))
    (sRet (eOp modD (eB intD (aCons (eVar 4) aNil)) (eVar 1)))) sNext)
    (sSeq (sAsg (eOp modD (eB intD (aCons (eOp addD (eOp addD (eOp mulD (eVar 4) (eC (.int 48271))) (eOp mulD (eIx [("Block",zb)] (eVar 0) (eC (.int 2))) (eC (.int 69621)))) (eC (.int 11))) aNil)) (eC (.int 2147483647))) (gNm 5))
    (sSeq (sAsg (eOp modD (eB intD (aCons (eOp addD (eOp addD (eOp mulD (eVar 5) (eVar 5)) (eOp mulD (eIx [("Block",zb)] (eVar 0) (eC (.int 2))) (eC (.int 40692)))) (eVar 4)) aNil)) (eC (.int 2147483629))) (gNm 5))
    (sRet (eOp modD (eB intD (aCons (eOp fdivD (eVar 5) (eC (.int 13))) aNil)) (eVar 1)))))))))))
def zuj:DF:=runF 6 z9g
def zp:DF:=lenF 2 zuj
theorem zx2 (T:Tx K mg):∃fd,FunD K "_law_pick" "_law_pick" (defArgs zjd) (defBody zjd) (defScope zjd) [] [] (He.ga K "_law_pick") fd∧FnG P w K mg base 5 (He.ga K "_law_pick") fd ["_law_state", "_law_many"] (spD K 2 zuj):=by
 obtain⟨fd,Fn⟩:=T.zj5
 exact⟨fd,Fn,fn_D (N:=zir) (ps:=["_law_state", "_law_many"]) (k:=4) (g:=z9g) Fn zsg (fun cdv A outer s H E hr=>by
  have tk:L2N.Takes (cxOf (L2N.CX P w) P w K mg base zir "_law_pick" (defScope zjd) (He.ga K "_law_pick") cdv A outer s H E) (fun c d _ H=>E c d H):=L2N.takes_of rfl rfl rfl rfl
  exact (zj (zvq (de_op z5 (de_ix (k:=3) (t:=[("Block",zb)]) tk (zh T (by decide)) (rmo hr) (zf (pv 0)) (zk) (fun _ _=>rfl) (fun _ _=>by with_unfolding_all rfl)) (zk)) (zf (pv 0)) (zk))
  (zj (ds_if (zr zgq (de_ix (k:=3) (t:=[("Block",zb)]) tk (zh T (by decide)) (rmo hr) (zf (pv 0)) (zk) (fun _ _=>rfl) (fun _ _=>by with_unfolding_all rfl)) (zk) (nomark _) bl_gt) (zj (z4 (de_op z7o (zvc z6e (by rfl) T.b_int (by decide +kernel) (ze (de_ix (k:=3) (t:=[("Block",zb)]) tk (zh T (by decide)) (rmo hr) (zf (pv 0)) (zk) (fun _ _=>rfl) (fun _ _=>by with_unfolding_all rfl)) zg)) (zf (pv 1))) (dgn 2 zsg.nd))
  (zj (zvq (de_op ztv (de_ix (k:=3) (t:=[("Block",zb)]) tk (zh T (by decide)) (rmo hr) (zf (pv 0)) (zk) (fun _ _=>rfl) (fun _ _=>by with_unfolding_all rfl)) (zf (pv 1))) (zf (pv 0)) (zk))
  (zl (zo (zf (pv 2)))))) zjb)
  (zj (z4 (de_ix (k:=3) (t:=[("Block",zb)]) tk (zh T (by decide)) (rmo hr) (zf (pv 0)) (zk) (fun _ _=>rfl) (fun _ _=>by with_unfolding_all rfl)) (dgn 3 zsg.nd))
  (zj (z4 (de_if (zqe (zf (pv 3))) (de_ix (k:=3) (t:=[("Block",zb)]) tk (zh T (by decide)) (rmo hr) (zf (pv 3)) (de_op z7o (zvc z6e (by rfl) T.b_int (by decide +kernel) (ze (de_ix (k:=3) (t:=[("Block",zb)]) tk (zh T (by decide)) (rmo hr) (zf (pv 0)) (zk) (fun _ _=>rfl) (fun _ _=>by with_unfolding_all rfl)) zg)) (z6d (k:=2) (t:=[("Block",zi)]) tk (zuc T (by decide)) (rmo hr) (by rfl) T.b_len (ze (zf (pv 3)) zg))) (fun _ _=>rfl) (fun _ _=>by with_unfolding_all rfl)) (zk)) (dgn 4 zsg.nd))
  (zj (zvq (de_op z5 (de_ix (k:=3) (t:=[("Block",zb)]) tk (zh T (by decide)) (rmo hr) (zf (pv 0)) (zk) (fun _ _=>rfl) (fun _ _=>by with_unfolding_all rfl)) (zk)) (zf (pv 0)) (zk))
  (zj (ds_if (zr z39 (zf (pv 4)) (de_op z55 (zk) (zk)) (nomark _) bl_ge) (zj (zvq (de_op ztv (zf (pv 4)) (zf (pv 1))) (zf (pv 0)) (zk))
  (zl (zo (de_op z7o (zvc z6e (by rfl) T.b_int (by decide +kernel) (ze (zf (pv 4)) zg)) (zf (pv 1)))))) zjb)
  (zj (z4 (de_op z7o (zvc z6e (by rfl) T.b_int (by decide +kernel) (ze (de_op z5 (de_op z5 (de_op zfk (zf (pv 4)) (zk)) (de_op zfk (de_ix (k:=3) (t:=[("Block",zb)]) tk (zh T (by decide)) (rmo hr) (zf (pv 0)) (zk) (fun _ _=>rfl) (fun _ _=>by with_unfolding_all rfl)) (zk))) (zk)) zg)) (zk)) (dgn 5 zsg.nd))
  (zj (z4 (de_op z7o (zvc z6e (by rfl) T.b_int (by decide +kernel) (ze (de_op z5 (de_op z5 (de_op zfk (zf (pv 5)) (zf (pv 5))) (de_op zfk (de_ix (k:=3) (t:=[("Block",zb)]) tk (zh T (by decide)) (rmo hr) (zf (pv 0)) (zk) (fun _ _=>rfl) (fun _ _=>by with_unfolding_all rfl)) (zk))) (zf (pv 4))) zg)) (zk)) (dgn 5 zsg.nd))
  (zl (zo (de_op z7o (zvc z6e (by rfl) T.b_int (by decide +kernel) (ze (de_op ztv (zf (pv 5)) (zk)) zg)) (zf (pv 1))))))))))))))⟩
theorem zfb (T:Tx K mg):FnD P w K mg base 5 (He.ga K "_law_pick") zp:=by
 obtain⟨fd,Fn,Fg⟩:=zx2 (P:=P) (w:=w) (base:=base) T
 exact z7 Fg (Fn.bindsN fun _ _ _ _ _ _ us hl=>match us,hl with |[_,_],_=>rfl)
abbrev zjl:List Str:=["_law_spec"]
theorem znv:FnScope zjl ["_law_spec"] (defScope z4b):=⟨rfl,rfl,rfl,by decide +kernel,rfl,by decide +kernel,by decide +kernel⟩
def zbc:DS:=
    (sSeq (sIf (bT (eOp eqD (eIx [("Block",zb)] (eVar 0) (eC (.int 0))) (eC (.str "sum")))) (sRet (eB listD (aCons (eIx [("Block",zb)] (eVar 0) (eC (.int 1))) aNil))) sNext)
    (sSeq (sIf ((bOr (bT (eOp eqD (eIx [("Block",zb)] (eVar 0) (eC (.int 0))) (eC (.str "fixed")))) (bT (eOp eqD (eIx [("Block",zb)] (eVar 0) (eC (.int 0))) (eC (.str "hole")))))) (sRet (eLst (aNil))) sNext)
    (sRet (eLst (aCons (eIx [("Block",zb)] (eVar 0) (eUn negD (eC (.int 1)))) aNil)))))
def zxc:DF:=runF 1 zbc
def zcc:DF:=lenF 1 zxc
theorem zgw (T:Tx K mg):∃fd,FunD K "_law_members" "_law_members" (defArgs z4b) (defBody z4b) (defScope z4b) [] [] (He.ga K "_law_members") fd∧FnG P w K mg base 5 (He.ga K "_law_members") fd ["_law_spec"] (spD K 1 zxc):=by
 obtain⟨fd,Fn⟩:=T.zjy
 exact⟨fd,Fn,fn_D (N:=zjl) (ps:=["_law_spec"]) (k:=4) (g:=zbc) Fn znv (fun cdv A outer s H E hr=>by
  have tk:L2N.Takes (cxOf (L2N.CX P w) P w K mg base zjl "_law_members" (defScope z4b) (He.ga K "_law_members") cdv A outer s H E) (fun c d _ H=>E c d H):=L2N.takes_of rfl rfl rfl rfl
  exact (zj (ds_if (zr (zz hr.units) (de_ix (k:=3) (t:=[("Block",zb)]) tk (zh T (by decide)) (rmo hr) (zf (pv 0)) (zk) (fun _ _=>rfl) (fun _ _=>by with_unfolding_all rfl)) (zn) (nomark _) bl_eq) (zl (zo (zvc ztj (by rfl) T.zpz (by decide +kernel) (ze (de_ix (k:=3) (t:=[("Block",zb)]) tk (zh T (by decide)) (rmo hr) (zf (pv 0)) (zk) (fun _ _=>rfl) (fun _ _=>by with_unfolding_all rfl)) zg)))) zjb)
  (zj (ds_if (PW.pt (dw_or (zr (zz hr.units) (de_ix (k:=3) (t:=[("Block",zb)]) tk (zh T (by decide)) (rmo hr) (zf (pv 0)) (zk) (fun _ _=>rfl) (fun _ _=>by with_unfolding_all rfl)) (zn) (nomark _) bl_eq) (zbn (zr (zz hr.units) (de_ix (k:=3) (t:=[("Block",zb)]) tk (zh T (by decide)) (rmo hr) (zf (pv 0)) (zk) (fun _ _=>rfl) (fun _ _=>by with_unfolding_all rfl)) (zn) (nomark _) bl_eq)))) (zl (zo (znf (zg)))) zjb)
  (zl (zo (znf (ze (de_ix (k:=3) (t:=[("Block",zb)]) tk (zh T (by decide)) (rmo hr) (zf (pv 0)) (de_un z0d (zk)) (fun _ _=>rfl) (fun _ _=>by with_unfolding_all rfl)) zg)))))))⟩
theorem zpw (T:Tx K mg):FnD P w K mg base 5 (He.ga K "_law_members") zcc:=by
 obtain⟨fd,Fn,Fg⟩:=zgw (P:=P) (w:=w) (base:=base) T
 exact z7 Fg (Fn.bindsN fun _ _ _ _ _ _ us hl=>match us,hl with |[_],_=>rfl)
abbrev zvo:List Str:=["_law_spec", "_law_parts_here", "_law_member"]
theorem zwi:FnScope zvo ["_law_spec"] (defScope z3d):=⟨rfl,rfl,rfl,by decide +kernel,rfl,by decide +kernel,by decide +kernel⟩
def zll (zue:DF):DS:=(sAsg (eOp addD (eVar 1) (eFn zue (aCons (eVar 2) aNil))) (gNm 1))
def z5k (zue:DF):DS:=
    (sSeq (sAsg (eLst (aCons (eVar 0) aNil)) (gNm 1))
    (sSeq (sFor (iSeq (eFn zcc (aCons (eVar 0) aNil))) (gNm 2) (zll zue))
    (sRet (eVar 1))))
def z0e:Nat→DF
 | 0=>fun _ _=>.no
 |n+1=>lenF 1 (runF 3 (z5k (z0e n)))
theorem zzp (T:Tx K mg):∀n:Nat,FnD P w K mg base (7+3*n) (He.ga K "_law_parts") (z0e n)
 | 0=>zn6
 |n+1=>by
  have ih:=zzp T n
  obtain⟨fd,Fn⟩:=T.zi3
  exact z7 (fn_D (N:=zvo) (ps:=["_law_spec"]) (k:=7+3*n+2) (g:=z5k (z0e n)) Fn zwi (fun cdv A outer s H E hr=>by
  have tk:L2N.Takes (cxOf (L2N.CX P w) P w K mg base zvo "_law_parts" (defScope z3d) (He.ga K "_law_parts") cdv A outer s H E) (fun c d _ H=>E c d H):=L2N.takes_of rfl rfl rfl rfl
  exact (zj (z4 (znf (ze (zf (pv 0)) zg)) (dgn 1 zwi.nd))
  (zj (zpj (passes_of rfl) rfl (z2f (de_fn tk (zpw T) (hr.mono (by omega)) (by rfl) T.z5x T.z0x (ze (zf (pv 0)) zg))) (dgn 2 zwi.nd) (zl (z4 (de_op z5 (zf (pv 1)) (de_fn tk ih (hr.mono (by omega)) (by rfl) T.z0n T.zxn (ze (zf (pv 2)) zg))) (dgn 1 zwi.nd))))
  (zl (zo (zf (pv 1)))))))) (Fn.bindsN fun _ _ _ _ _ _ us hl=>match us,hl with |[_],_=>rfl)
def zue:DF:=z0e 24
theorem z7r (T:Tx K mg):FnD P w K mg base 79 (He.ga K "_law_parts") zue:=(zzp (P:=P) (w:=w) (base:=base) T 24)
abbrev zqk:List Str:=["_law_spec", "_law_part"]
theorem zbm:FnScope zqk ["_law_spec"] (defScope znc):=⟨rfl,rfl,rfl,by decide +kernel,rfl,by decide +kernel,by decide +kernel⟩
def z8j:DT:=(bT (eOp eqD (eIx [("Block",zb)] (eVar 1) (eC (.int 0))) (eC (.str "hole"))))
def z9j:DE:=(eIx [("Block",zb)] (eVar 1) (eC (.int 1)))
def z6k:DS:=
    (sRet (eB zam (aCons (eLc (iSeq (eFn zue (aCons (eVar 0) aNil))) (gNm 1) z8j z9j [1]) aNil)))
def zno:DF:=runF 2 z6k
def zhi:DF:=lenF 1 zno
theorem zl0 (T:Tx K mg):∃fd,FunD K "_law_names" "_law_names" (defArgs znc) (defBody znc) (defScope znc) [] [] (He.ga K "_law_names") fd∧FnG P w K mg base 80 (He.ga K "_law_names") fd ["_law_spec"] (spD K 1 zno):=by
 obtain⟨fd,Fn⟩:=T.zj3
 exact⟨fd,Fn,fn_D (N:=zqk) (ps:=["_law_spec"]) (k:=79) (g:=z6k) Fn zbm (fun cdv A outer s H E hr=>by
  have tk:L2N.Takes (cxOf (L2N.CX P w) P w K mg base zqk "_law_names" (defScope znc) (He.ga K "_law_names") cdv A outer s H E) (fun c d _ H=>E c d H):=L2N.takes_of rfl rfl rfl rfl
  exact (zl (zo (zkk zqm (by rfl) T.za1 (by decide +kernel) (ze (de_lc (own:=[("_law_part",1)]) rfl zbm.nd (z2f (de_fn tk (z7r T) (rmo hr) (by rfl) T.z0n T.zxn (ze (zf (pv 0)) zg))) (blkOk_by (N:=zqk) (sc:=defScope znc) (own:=[("_law_part",1)]) (by decide +kernel)) (fun _ _ _ _ _=>(dgn 1 zbm.nd)) (fun _ _ _ _ _=>zuq (zr (zz hr.units) (de_ix (k:=3) (t:=[("Block",zb)]) zcj (zh T (by decide)) (rmo hr) (zf (pv 1)) (zk) (fun _ _=>rfl) (fun _ _=>by with_unfolding_all rfl)) (zn) (nomark _) bl_eq)) (fun _ _ _ _ _=>(de_ix (k:=3) (t:=[("Block",zb)]) zcj (zh T (by decide)) (rmo hr) (zf (pv 1)) (zk) (fun _ _=>rfl) (fun _ _=>by with_unfolding_all rfl))) (by decide)) zg)))))⟩
theorem zr0 (T:Tx K mg):FnD P w K mg base 80 (He.ga K "_law_names") zhi:=by
 obtain⟨fd,Fn,Fg⟩:=zl0 (P:=P) (w:=w) (base:=base) T
 exact z7 Fg (Fn.bindsN fun _ _ _ _ _ _ us hl=>match us,hl with |[_],_=>rfl)
abbrev z3j:List Str:=["self"]
theorem zbu:FnScope z3j ["self"] (defScope zvb):=⟨rfl,rfl,rfl,by decide +kernel,rfl,by decide +kernel,by decide +kernel⟩
def zoh:DS:=
    (sRet (eBM "str" joinD (eC (.str "\n")) (aCons (eFld ["Block"] "rows" (eVar 0)) aNil)))
def zyj:DF:=runF 1 zoh
def z8:DF:=lenF 1 zyj
theorem zgu (T:Tx K mg):∃fd,FunD K "__str__" "Block.__str__" (defArgs zvb) (defBody zvb) (defScope zvb) [] [] (He.ma K (He.ga K "Block") "__str__") fd∧FnG P w K mg base 1 (He.ma K (He.ga K "Block") "__str__") fd ["self"] (spD K 1 zyj):=by
 obtain⟨fd,Fn⟩:=T.z3w
 exact⟨fd,Fn,fn_D (N:=z3j) (ps:=["self"]) (k:=0) (g:=zoh) Fn zbu (fun cdv A outer s H E hr=>by
  have tk:L2N.Takes (cxOf (L2N.CX P w) P w K mg base z3j "Block.__str__" (defScope zvb) (He.ma K (He.ga K "Block") "__str__") cdv A outer s H E) (fun c d _ H=>E c d H):=L2N.takes_of rfl rfl rfl rfl
  exact (zl (zo (de_bm PySem.F.plainAttrs_str PySem.F.slot_str_join PySem.F.type_str_join zxv (zn) (ze (zrd (Cs:=["Block"]) T.zan (zf (pv 0))) zg)))))⟩
theorem znu (T:Tx K mg):FnD P w K mg base 1 (He.ma K (He.ga K "Block") "__str__") z8:=by
 obtain⟨fd,Fn,Fg⟩:=zgu (P:=P) (w:=w) (base:=base) T
 exact z7 Fg (Fn.bindsN fun _ _ _ _ _ _ us hl=>match us,hl with |[_],_=>rfl)
theorem zjj (T:Tx K mg) {k:Nat} (hk:1≤k):∀q∈([("Block",z8)]:Tbl),OwnM P w K mg base k "__str__" q.1 q.2:=
 (zyg ⟨_,(zaf T.z2g).1,(zaf T.z2g).2.1,(zaf T.z2g).2.2.1,(zaf T.z2g).2.2.2,(znu T).mono (Nat.le_trans (by decide) hk)⟩ z6p)
abbrev z2h:List Str:=["_law_number", "_law_digit"]
theorem zhj:FnScope z2h ["_law_number"] (defScope zsb):=⟨rfl,rfl,rfl,by decide +kernel,rfl,by decide +kernel,by decide +kernel⟩
def zvh:DE:=(eIx [("Block",zb)] (eC (.str "bcdfghjklm")) (eB intD (aCons (eVar 1) aNil)))
def zoi:DS:=
    (sRet (eBM "str" joinD (eC (.str "")) (aCons (eLc (iTxt (eStr [("Block",z8)] (aCons (eVar 0) aNil))) (gNm 1) bYes zvh [1]) aNil)))
def zdl:DF:=runF 2 zoi
def zee:DF:=lenF 1 zdl
theorem zhw (T:Tx K mg):∃fd,FunD K "_law_letters" "_law_letters" (defArgs zsb) (defBody zsb) (defScope zsb) [] [] (He.ga K "_law_letters") fd∧FnG P w K mg base 5 (He.ga K "_law_letters") fd ["_law_number"] (spD K 1 zdl):=by
 obtain⟨fd,Fn⟩:=T.zky
 exact⟨fd,Fn,fn_D (N:=z2h) (ps:=["_law_number"]) (k:=4) (g:=zoi) Fn zhj (fun cdv A outer s H E hr=>by
  have tk:L2N.Takes (cxOf (L2N.CX P w) P w K mg base z2h "_law_letters" (defScope zsb) (He.ga K "_law_letters") cdv A outer s H E) (fun c d _ H=>E c d H):=L2N.takes_of rfl rfl rfl rfl
  exact (zl (zo (de_bm PySem.F.plainAttrs_str PySem.F.slot_str_join PySem.F.type_str_join zxv (zn) (ze (de_lc (own:=[("_law_digit",1)]) rfl zhj.nd (zofb (zyw (k:=1) (t:=[("Block",z8)]) tk (zjj T (by decide)) (rmo hr) (by rfl) T.b_str (ze (zf (pv 0)) zg))) (blkOk_by (N:=z2h) (sc:=defScope zsb) (own:=[("_law_digit",1)]) (by decide +kernel)) (fun _ _ _ _ _=>(dgn 1 zhj.nd)) (fun _ _ _ _ _=>z3k) (fun _ _ _ _ _=>(de_ix (k:=3) (t:=[("Block",zb)]) zcj (zh T (by decide)) (rmo hr) (zn) (zvc z6e (by rfl) T.b_int (by decide +kernel) (ze (zf (pv 1)) zg)) (fun _ _=>rfl) (fun _ _=>by with_unfolding_all rfl))) (by decide)) zg)))))⟩
theorem z6n (T:Tx K mg):FnD P w K mg base 5 (He.ga K "_law_letters") zee:=by
 obtain⟨fd,Fn,Fg⟩:=zhw (P:=P) (w:=w) (base:=base) T
 exact z7 Fg (Fn.bindsN fun _ _ _ _ _ _ us hl=>match us,hl with |[_],_=>rfl)
abbrev zwo:List Str:=["_law_state", "_law_book_here", "_law_most", "_law_lines", "_law_k", "_law_mark", "_law_margin"]
theorem zzg:FnScope zwo ["_law_state", "_law_book_here", "_law_most"] (defScope z0c):=⟨rfl,rfl,rfl,by decide +kernel,rfl,by decide +kernel,by decide +kernel⟩
def zbg:DS:=(sIf (bT (eOp eqD (eFn zp (aCons (eVar 0) (aCons (eC (.int 7)) aNil))) (eC (.int 6)))) (sDrop (eApp (eVar 3) (aCons (eC (.str "")) aNil))) (sSeq (sSetL (eOp addD (eIx [("Block",zb)] (eVar 1) (eC (.int 0))) (eC (.int 1))) (eVar 1) (eC (.int 0)))
    (sSeq (sAsg (eIf (bT (eOp eqD (eFn zp (aCons (eVar 0) (aCons (eC (.int 6)) aNil))) (eC (.int 5)))) (eOp addD (eOp addD (eC (.str "q")) (eFn zee (aCons (eIx [("Block",zb)] (eVar 1) (eC (.int 0))) aNil))) (eC (.str ": "))) (eC (.str ""))) (gNm 5))
    (sSeq (sAsg (eFn zp (aCons (eVar 0) (aCons (eOp addD (eC (.int 4)) (eOp mulD (eC (.int 37)) (eB intD (aCons (eOp eqD (eFn zp (aCons (eVar 0) (aCons (eC (.int 5)) aNil))) (eC (.int 4))) aNil)))) aNil))) (gNm 6))
    (sDrop (eApp (eVar 3) (aCons (eOp addD (eOp addD (eOp addD (eOp mulD (eC (.str " ")) (eVar 6)) (eVar 5)) (eC (.str "w"))) (eStr [("Block",z8)] (aCons (eIx [("Block",zb)] (eVar 1) (eC (.int 0))) aNil))) aNil)))))))
def z7k:DS:=
    (sSeq (sAsg (eCel (aNil)) (gNm 3))
    (sSeq (sFor (zbt (aCons (eOp addD (eC (.int 1)) (eFn zp (aCons (eVar 0) (aCons (eVar 2) aNil)))) aNil)) (gNm 4) zbg)
    (sRet (eTup (aCons (eC (.str "fixed")) (aCons (eB z5m (aCons (eVar 3) aNil)) aNil))))))
def zoo:DF:=runF 7 z7k
def zve:DF:=lenF 3 zoo
theorem zm0 (T:Tx K mg):∃fd,FunD K "_law_fixed" "_law_fixed" (defArgs z0c) (defBody z0c) (defScope z0c) [] [] (He.ga K "_law_fixed") fd∧FnG P w K mg base 6 (He.ga K "_law_fixed") fd ["_law_state", "_law_book_here", "_law_most"] (spD K 3 zoo):=by
 obtain⟨fd,Fn⟩:=T.zk3
 exact⟨fd,Fn,fn_D (N:=zwo) (ps:=["_law_state", "_law_book_here", "_law_most"]) (k:=5) (g:=z7k) Fn zzg (fun cdv A outer s H E hr=>by
  have tk:L2N.Takes (cxOf (L2N.CX P w) P w K mg base zwo "_law_fixed" (defScope z0c) (He.ga K "_law_fixed") cdv A outer s H E) (fun c d _ H=>E c d H):=L2N.takes_of rfl rfl rfl rfl
  exact (zj (z4 (zzw (zg)) (dgn 3 zzg.nd))
  (zj (zpj (passes_of rfl) rfl (zds (by rfl) T.zax (ze (de_op z5 (zk) (de_fn tk (zfb T) (rmo hr) (by rfl) T.zpb T.zob (ze (zf (pv 0)) (ze (zf (pv 2)) zg)))) zg)) (dgn 4 zzg.nd) (zl (ds_if (zr (zz hr.units) (de_fn tk (zfb T) (rmo hr) (by rfl) T.zpb T.zob (ze (zf (pv 0)) (ze (zk) zg))) (zk) (nomark _) bl_eq) (zl (z7g (zgo (zf (pv 3)) (ze (zn) zg)))) (zj (zvq (de_op z5 (de_ix (k:=3) (t:=[("Block",zb)]) tk (zh T (by decide)) (rmo hr) (zf (pv 1)) (zk) (fun _ _=>rfl) (fun _ _=>by with_unfolding_all rfl)) (zk)) (zf (pv 1)) (zk))
  (zj (z4 (de_if (zr (zz hr.units) (de_fn tk (zfb T) (rmo hr) (by rfl) T.zpb T.zob (ze (zf (pv 0)) (ze (zk) zg))) (zk) (nomark _) bl_eq) (de_op z5 (de_op z5 (zn) (de_fn tk (z6n T) (rmo hr) (by rfl) T.zyp T.zwp (ze (de_ix (k:=3) (t:=[("Block",zb)]) tk (zh T (by decide)) (rmo hr) (zf (pv 1)) (zk) (fun _ _=>rfl) (fun _ _=>by with_unfolding_all rfl)) zg))) (zn)) (zn)) (dgn 5 zzg.nd))
  (zj (z4 (de_fn tk (zfb T) (rmo hr) (by rfl) T.zpb T.zob (ze (zf (pv 0)) (ze (de_op z5 (zk) (de_op zfk (zk) (zvc z6e (by rfl) T.b_int (by decide +kernel) (ze (zgs (zz hr.units) (de_fn tk (zfb T) (rmo hr) (by rfl) T.zpb T.zob (ze (zf (pv 0)) (ze (zk) zg))) (zk) (nomark _)) zg)))) zg))) (dgn 6 zzg.nd))
  (zl (z7g (zgo (zf (pv 3)) (ze (de_op z5 (de_op z5 (de_op z5 (de_op zfk (zn) (zf (pv 6))) (zf (pv 5))) (zn)) (zyw (k:=1) (t:=[("Block",z8)]) tk (zjj T (by decide)) (rmo hr) (by rfl) T.b_str (ze (de_ix (k:=3) (t:=[("Block",zb)]) tk (zh T (by decide)) (rmo hr) (zf (pv 1)) (zk) (fun _ _=>rfl) (fun _ _=>by with_unfolding_all rfl)) zg))) zg))))))))))
  (zl (zo (zbb (ze (zn) (ze (zvc zei (by rfl) T.zkt (by decide +kernel) (ze (zf (pv 3)) zg)) zg))))))))⟩
theorem zs0 (T:Tx K mg):FnD P w K mg base 6 (He.ga K "_law_fixed") zve:=by
 obtain⟨fd,Fn,Fg⟩:=zm0 (P:=P) (w:=w) (base:=base) T
 exact z7 Fg (Fn.bindsN fun _ _ _ _ _ _ us hl=>match us,hl with |[_,_,_],_=>rfl)
abbrev zxm:List Str:=["_law_specs", "_law_members_here", "_law_spec"]
theorem zxh:FnScope zxm ["_law_specs"] (defScope zlc):=⟨rfl,rfl,rfl,by decide +kernel,rfl,by decide +kernel,by decide +kernel⟩
def zof:DS:=(sAsg (eOp addD (eVar 1) (eIf (bT (eOp eqD (eIx [("Block",zb)] (eVar 2) (eC (.int 0))) (eC (.str "sum")))) (eB listD (aCons (eIx [("Block",zb)] (eVar 2) (eC (.int 1))) aNil)) (eLst (aCons (eVar 2) aNil)))) (gNm 1))
def zah:DS:=
    (sSeq (sAsg (eLst (aNil)) (gNm 1))
    (sSeq (sFor (iSeq (eVar 0)) (gNm 2) zof)
    (sRet (eIf (bT (eOp eqD (eLen [("Block",zi)] (aCons (eVar 1) aNil)) (eC (.int 1)))) (eIx [("Block",zb)] (eVar 1) (eC (.int 0))) (eTup (aCons (eC (.str "sum")) (aCons (eB z5m (aCons (eVar 1) aNil)) aNil)))))))
def z1i:DF:=runF 3 zah
def z8d:DF:=lenF 1 z1i
theorem z8x (T:Tx K mg):∃fd,FunD K "_law_joined" "_law_joined" (defArgs zlc) (defBody zlc) (defScope zlc) [] [] (He.ga K "_law_joined") fd∧FnG P w K mg base 5 (He.ga K "_law_joined") fd ["_law_specs"] (spD K 1 z1i):=by
 obtain⟨fd,Fn⟩:=T.z50
 exact⟨fd,Fn,fn_D (N:=zxm) (ps:=["_law_specs"]) (k:=4) (g:=zah) Fn zxh (fun cdv A outer s H E hr=>by
  have tk:L2N.Takes (cxOf (L2N.CX P w) P w K mg base zxm "_law_joined" (defScope zlc) (He.ga K "_law_joined") cdv A outer s H E) (fun c d _ H=>E c d H):=L2N.takes_of rfl rfl rfl rfl
  exact (zj (z4 (znf (zg)) (dgn 1 zxh.nd))
  (zj (zpj (passes_of rfl) rfl (z2f (zf (pv 0))) (dgn 2 zxh.nd) (zl (z4 (de_op z5 (zf (pv 1)) (de_if (zr (zz hr.units) (de_ix (k:=3) (t:=[("Block",zb)]) tk (zh T (by decide)) (rmo hr) (zf (pv 2)) (zk) (fun _ _=>rfl) (fun _ _=>by with_unfolding_all rfl)) (zn) (nomark _) bl_eq) (zvc ztj (by rfl) T.zpz (by decide +kernel) (ze (de_ix (k:=3) (t:=[("Block",zb)]) tk (zh T (by decide)) (rmo hr) (zf (pv 2)) (zk) (fun _ _=>rfl) (fun _ _=>by with_unfolding_all rfl)) zg)) (znf (ze (zf (pv 2)) zg)))) (dgn 1 zxh.nd))))
  (zl (zo (de_if (zr (zz hr.units) (z6d (k:=2) (t:=[("Block",zi)]) tk (zuc T (by decide)) (rmo hr) (by rfl) T.b_len (ze (zf (pv 1)) zg)) (zk) (nomark _) bl_eq) (de_ix (k:=3) (t:=[("Block",zb)]) tk (zh T (by decide)) (rmo hr) (zf (pv 1)) (zk) (fun _ _=>rfl) (fun _ _=>by with_unfolding_all rfl)) (zbb (ze (zn) (ze (zvc zei (by rfl) T.zkt (by decide +kernel) (ze (zf (pv 1)) zg)) zg)))))))))⟩
theorem z1p (T:Tx K mg):FnD P w K mg base 5 (He.ga K "_law_joined") z8d:=by
 obtain⟨fd,Fn,Fg⟩:=z8x (P:=P) (w:=w) (base:=base) T
 exact z7 Fg (Fn.bindsN fun _ _ _ _ _ _ us hl=>match us,hl with |[_],_=>rfl)
abbrev zhr:List Str:=["_law_state", "_law_book_here", "_law_words", "_law_inner", "_law_word"]
theorem zzt:FnScope zhr ["_law_state", "_law_book_here", "_law_words", "_law_inner"] (defScope zid):=⟨rfl,rfl,rfl,by decide +kernel,rfl,by decide +kernel,by decide +kernel⟩
def zye:DS:=
    (sSeq (sAsg (eIx [("Block",zb)] (eVar 2) (eFn zp (aCons (eVar 0) (aCons (eLen [("Block",zi)] (aCons (eVar 2) aNil)) aNil)))) (gNm 4))
    (sSeq (sIf ((bOr (bT (eOp eqD (eVar 4) (eC (.str "tag")))) (bT (eOp eqD (eVar 4) (eC (.str "raw")))))) (sSeq (sSetL (eOp addD (eIx [("Block",zb)] (eVar 1) (eC (.int 0))) (eC (.int 1))) (eVar 1) (eC (.int 0)))
    (sRet (eTup (aCons (eVar 4) (aCons (eOp addD (eC (.str "q")) (eFn zee (aCons (eIx [("Block",zb)] (eVar 1) (eC (.int 0))) aNil))) (aCons (eVar 3) aNil)))))) sNext)
    (sSeq (sIf ((bOr (bT (eOp eqD (eVar 4) (eC (.str "dedent")))) (bT (eOp eqD (eVar 4) (eC (.str "flush")))))) (sRet (eTup (aCons (eVar 4) (aCons (eVar 3) aNil)))) sNext)
    (sRet (eTup (aCons (eVar 4) (aCons (eFn zp (aCons (eVar 0) (aCons (eOp addD (eC (.int 5)) (eOp mulD (eC (.int 16)) (eB intD (aCons (eOp eqD (eFn zp (aCons (eVar 0) (aCons (eC (.int 4)) aNil))) (eC (.int 3))) aNil)))) aNil))) (aCons (eVar 3) aNil))))))))
def zng:DF:=runF 5 zye
def zze:DF:=lenF 4 zng
theorem zw2 (T:Tx K mg):∃fd,FunD K "_law_step" "_law_step" (defArgs zid) (defBody zid) (defScope zid) [] [] (He.ga K "_law_step") fd∧FnG P w K mg base 6 (He.ga K "_law_step") fd ["_law_state", "_law_book_here", "_law_words", "_law_inner"] (spD K 4 zng):=by
 obtain⟨fd,Fn⟩:=T.zi5
 exact⟨fd,Fn,fn_D (N:=zhr) (ps:=["_law_state", "_law_book_here", "_law_words", "_law_inner"]) (k:=5) (g:=zye) Fn zzt (fun cdv A outer s H E hr=>by
  have tk:L2N.Takes (cxOf (L2N.CX P w) P w K mg base zhr "_law_step" (defScope zid) (He.ga K "_law_step") cdv A outer s H E) (fun c d _ H=>E c d H):=L2N.takes_of rfl rfl rfl rfl
  exact (zj (z4 (de_ix (k:=3) (t:=[("Block",zb)]) tk (zh T (by decide)) (rmo hr) (zf (pv 2)) (de_fn tk (zfb T) (rmo hr) (by rfl) T.zpb T.zob (ze (zf (pv 0)) (ze (z6d (k:=2) (t:=[("Block",zi)]) tk (zuc T (by decide)) (rmo hr) (by rfl) T.b_len (ze (zf (pv 2)) zg)) zg))) (fun _ _=>rfl) (fun _ _=>by with_unfolding_all rfl)) (dgn 4 zzt.nd))
  (zj (ds_if (PW.pt (dw_or (zr (zz hr.units) (zf (pv 4)) (zn) (nomark _) bl_eq) (zbn (zr (zz hr.units) (zf (pv 4)) (zn) (nomark _) bl_eq)))) (zj (zvq (de_op z5 (de_ix (k:=3) (t:=[("Block",zb)]) tk (zh T (by decide)) (rmo hr) (zf (pv 1)) (zk) (fun _ _=>rfl) (fun _ _=>by with_unfolding_all rfl)) (zk)) (zf (pv 1)) (zk))
  (zl (zo (zbb (ze (zf (pv 4)) (ze (de_op z5 (zn) (de_fn tk (z6n T) (rmo hr) (by rfl) T.zyp T.zwp (ze (de_ix (k:=3) (t:=[("Block",zb)]) tk (zh T (by decide)) (rmo hr) (zf (pv 1)) (zk) (fun _ _=>rfl) (fun _ _=>by with_unfolding_all rfl)) zg))) (ze (zf (pv 3)) zg))))))) zjb)
  (zj (ds_if (PW.pt (dw_or (zr (zz hr.units) (zf (pv 4)) (zn) (nomark _) bl_eq) (zbn (zr (zz hr.units) (zf (pv 4)) (zn) (nomark _) bl_eq)))) (zl (zo (zbb (ze (zf (pv 4)) (ze (zf (pv 3)) zg))))) zjb)
  (zl (zo (zbb (ze (zf (pv 4)) (ze (de_fn tk (zfb T) (rmo hr) (by rfl) T.zpb T.zob (ze (zf (pv 0)) (ze (de_op z5 (zk) (de_op zfk (zk) (zvc z6e (by rfl) T.b_int (by decide +kernel) (ze (zgs (zz hr.units) (de_fn tk (zfb T) (rmo hr) (by rfl) T.zpb T.zob (ze (zf (pv 0)) (ze (zk) zg))) (zk) (nomark _)) zg)))) zg))) (ze (zf (pv 3)) zg))))))))))⟩
theorem z62 (T:Tx K mg):FnD P w K mg base 6 (He.ga K "_law_step") zze:=by
 obtain⟨fd,Fn,Fg⟩:=zw2 (P:=P) (w:=w) (base:=base) T
 exact z7 Fg (Fn.bindsN fun _ _ _ _ _ _ us hl=>match us,hl with |[_,_,_,_],_=>rfl)
abbrev zgr:List Str:=["_law_state", "_law_book_here", "_law_words", "_law_turns", "_law_most", "_law_stack", "_law_k", "_law_what", "_law_names_here", "_law_last"]
theorem zrg:FnScope zgr ["_law_state", "_law_book_here", "_law_words", "_law_turns", "_law_most"] (defScope zhd):=⟨rfl,rfl,rfl,by decide +kernel,rfl,by decide +kernel,by decide +kernel⟩
def z6i:DS:=(sSeq (sAsg (eFn zp (aCons (eVar 0) (aCons (eC (.int 5)) aNil))) (gNm 7))
    (sSeq (sAsg (eIf (bT (eVar 5)) (eFn zhi (aCons (eIx [("Block",zb)] (eVar 5) (eUn negD (eC (.int 1)))) aNil)) (eLst (aNil))) (gNm 8))
    (sIf ((bOr (bT (eOp eqD (eVar 5) (eLst (aNil)))) (bT (eOp ltD (eVar 7) (eC (.int 2)))))) (sIf ((bAnd (bT (eOp neD (eIxH [("Block",zb)] (eVar 1) (eC (.int 1))) (eLst (aNil)))) (bT (eOp eqD (eFn zp (aCons (eVar 0) (aCons (eC (.int 2)) aNil))) (eC (.int 1)))))) (sDrop (eApp (eVar 5) (aCons (eTup (aCons (eC (.str "hole")) (aCons (ePopL (eIxH [("Block",zb)] (eVar 1) (eC (.int 1)))) aNil))) aNil))) (sDrop (eApp (eVar 5) (aCons (eFn zve (aCons (eVar 0) (aCons (eVar 1) (aCons (eVar 4) aNil)))) aNil)))) (sIf ((bAnd (bT (eOp eqD (eVar 7) (eC (.int 4)))) (bT (eOp gtD (eLen [("Block",zi)] (aCons (eVar 5) aNil)) (eC (.int 1)))))) (sSeq (sAsg (ePop (eVar 5)) (gNm 9))
    (z0t (eFn z8d (aCons (eLst (aCons (eIx [("Block",zb)] (eVar 5) (eUn negD (eC (.int 1)))) (aCons (eVar 9) aNil))) aNil)) (eVar 5) (eUn negD (eC (.int 1))))) (sIf ((bAnd (bT (eOp eqD (eIxH [("Block",zb)] (eVar 1) (eC (.int 2))) (eC (.int 1)))) (bAnd (bT (eOp eqD (eLen [("Block",zi)] (aCons (eVar 8) aNil)) (eC (.int 1)))) (bT (eOp eqD (eFn zp (aCons (eVar 0) (aCons (eC (.int 2)) aNil))) (eC (.int 1))))))) (sSeq (sSetL (eC (.int 0)) (eVar 1) (eC (.int 2)))
    (z0t (eTup (aCons (eC (.str "each")) (aCons (eIx [("Block",zb)] (eVar 8) (eC (.int 0))) (aCons (eIx [("Block",zb)] (eVar 5) (eUn negD (eC (.int 1)))) aNil)))) (eVar 5) (eUn negD (eC (.int 1))))) (z0t (eFn zze (aCons (eVar 0) (aCons (eVar 1) (aCons (eVar 2) (aCons (eIx [("Block",zb)] (eVar 5) (eUn negD (eC (.int 1)))) aNil))))) (eVar 5) (eUn negD (eC (.int 1)))))))))
def znm:DS:=
    (sSeq (sAsg (eCel (aNil)) (gNm 5))
    (sSeq (sFor (zbt (aCons (eVar 3) aNil)) (gNm 6) z6i)
    (sRet (eFn z8d (aCons (eFz (eVar 5)) aNil)))))
def zar:DF:=runF 10 znm
def z3m:DF:=lenF 5 zar
theorem zv2 (T:Tx K mg):∃fd,FunD K "_law_wild" "_law_wild" (defArgs zhd) (defBody zhd) (defScope zhd) [] [] (He.ga K "_law_wild") fd∧FnG P w K mg base 81 (He.ga K "_law_wild") fd ["_law_state", "_law_book_here", "_law_words", "_law_turns", "_law_most"] (spD K 5 zar):=by
 obtain⟨fd,Fn⟩:=T.zh5
 exact⟨fd,Fn,fn_D (N:=zgr) (ps:=["_law_state", "_law_book_here", "_law_words", "_law_turns", "_law_most"]) (k:=80) (g:=znm) Fn zrg (fun cdv A outer s H E hr=>by
  have tk:L2N.Takes (cxOf (L2N.CX P w) P w K mg base zgr "_law_wild" (defScope zhd) (He.ga K "_law_wild") cdv A outer s H E) (fun c d _ H=>E c d H):=L2N.takes_of rfl rfl rfl rfl
  exact (zj (z4 (zzw (zg)) (dgn 5 zrg.nd))
  (zj (zpj (passes_of rfl) rfl (zds (by rfl) T.zax (ze (zf (pv 3)) zg)) (dgn 6 zrg.nd) (zj (z4 (de_fn tk (zfb T) (rmo hr) (by rfl) T.zpb T.zob (ze (zf (pv 0)) (ze (zk) zg))) (dgn 7 zrg.nd))
  (zj (z4 (de_if (zqe (zf (pv 5))) (de_fn tk (zr0 T) (rmo hr) (by rfl) T.zg2 T.z81 (ze (de_ix (k:=3) (t:=[("Block",zb)]) tk (zh T (by decide)) (rmo hr) (zf (pv 5)) (de_un z0d (zk)) (fun _ _=>rfl) (fun _ _=>by with_unfolding_all rfl)) zg)) (znf (zg))) (dgn 8 zrg.nd))
  (zl (ds_if (PW.pt (dw_or (zr (zz hr.units) (zf (pv 5)) (znf (zg)) (nomark _) bl_eq) (zbn (zr z3s (zf (pv 7)) (zk) (nomark _) bl_lt)))) (zl (ds_if (PW.pt (zjz (zr (zrn hr.units) (znbb (k:=3) (t:=[("Block",zb)]) tk (zh T (by decide)) (rmo hr) (zf (pv 1)) (zk) (fun _ _=>rfl) (fun _ _=>by with_unfolding_all rfl)) (znf (zg)) (nomark _) bl_ne) (zsw (zr (zz hr.units) (de_fn tk (zfb T) (rmo hr) (by rfl) T.zpb T.zob (ze (zf (pv 0)) (ze (zk) zg))) (zk) (nomark _) bl_eq)))) (zl (z7g (zgo (zf (pv 5)) (ze (zbb (ze (zn) (ze (z3hb (znbb (k:=3) (t:=[("Block",zb)]) tk (zh T (by decide)) (rmo hr) (zf (pv 1)) (zk) (fun _ _=>rfl) (fun _ _=>by with_unfolding_all rfl))) zg))) zg)))) (zl (z7g (zgo (zf (pv 5)) (ze (de_fn tk (zs0 T) (rmo hr) (by rfl) T.zh2 T.z91 (ze (zf (pv 0)) (ze (zf (pv 1)) (ze (zf (pv 4)) zg)))) zg)))))) (zl (ds_if (PW.pt (zjz (zr (zz hr.units) (zf (pv 7)) (zk) (nomark _) bl_eq) (zsw (zr zgq (z6d (k:=2) (t:=[("Block",zi)]) tk (zuc T (by decide)) (rmo hr) (by rfl) T.b_len (ze (zf (pv 5)) zg)) (zk) (nomark _) bl_gt)))) (zj (z4 (zykb (zf (pv 5))) (dgn 9 zrg.nd))
  (zl (zw0 (de_fn tk (z1p T) (rmo hr) (by rfl) T.z0r T.zwr (ze (znf (ze (de_ix (k:=3) (t:=[("Block",zb)]) tk (zh T (by decide)) (rmo hr) (zf (pv 5)) (de_un z0d (zk)) (fun _ _=>rfl) (fun _ _=>by with_unfolding_all rfl)) (ze (zf (pv 9)) zg))) zg)) (zf (pv 5)) (de_un z0d (zk))))) (zl (ds_if (PW.pt (zjz (zr (zz hr.units) (znbb (k:=3) (t:=[("Block",zb)]) tk (zh T (by decide)) (rmo hr) (zf (pv 1)) (zk) (fun _ _=>rfl) (fun _ _=>by with_unfolding_all rfl)) (zk) (nomark _) bl_eq) (zjz (zr (zz hr.units) (z6d (k:=2) (t:=[("Block",zi)]) tk (zuc T (by decide)) (rmo hr) (by rfl) T.b_len (ze (zf (pv 8)) zg)) (zk) (nomark _) bl_eq) (zsw (zr (zz hr.units) (de_fn tk (zfb T) (rmo hr) (by rfl) T.zpb T.zob (ze (zf (pv 0)) (ze (zk) zg))) (zk) (nomark _) bl_eq))))) (zj (zvq (zk) (zf (pv 1)) (zk))
  (zl (zw0 (zbb (ze (zn) (ze (de_ix (k:=3) (t:=[("Block",zb)]) tk (zh T (by decide)) (rmo hr) (zf (pv 8)) (zk) (fun _ _=>rfl) (fun _ _=>by with_unfolding_all rfl)) (ze (de_ix (k:=3) (t:=[("Block",zb)]) tk (zh T (by decide)) (rmo hr) (zf (pv 5)) (de_un z0d (zk)) (fun _ _=>rfl) (fun _ _=>by with_unfolding_all rfl)) zg)))) (zf (pv 5)) (de_un z0d (zk))))) (zl (zw0 (de_fn tk (z62 T) (rmo hr) (by rfl) T.zr4 T.ze4 (ze (zf (pv 0)) (ze (zf (pv 1)) (ze (zf (pv 2)) (ze (de_ix (k:=3) (t:=[("Block",zb)]) tk (zh T (by decide)) (rmo hr) (zf (pv 5)) (de_un z0d (zk)) (fun _ _=>rfl) (fun _ _=>by with_unfolding_all rfl)) zg))))) (zf (pv 5)) (de_un z0d (zk)))))))))))))
  (zl (zo (de_fn tk (z1p T) (rmo hr) (by rfl) T.z0r T.zwr (ze (de_fz (zf (pv 5))) zg)))))))⟩
theorem z52 (T:Tx K mg):FnD P w K mg base 81 (He.ga K "_law_wild") z3m:=by
 obtain⟨fd,Fn,Fg⟩:=zv2 (P:=P) (w:=w) (base:=base) T
 exact z7 Fg (Fn.bindsN fun _ _ _ _ _ _ us hl=>match us,hl with |[_,_,_,_,_],_=>rfl)
abbrev zjr:List Str:=["_law_state", "_law_most", "_law_letters_here", "_law_names_here", "_law_k"]
theorem zdk:FnScope zjr ["_law_state", "_law_most"] (defScope zkd):=⟨rfl,rfl,rfl,by decide +kernel,rfl,by decide +kernel,by decide +kernel⟩
def z7i:DS:=(sDrop (eAppL (eVar 3) (aCons (zhbb (eVar 2) (aCons (eFn zp (aCons (eVar 0) (aCons (eLen [("Block",zi)] (aCons (eVar 2) aNil)) aNil))) aNil)) aNil)))
def zbh:DS:=
    (sSeq (sAsg (zibb (aCons (eC (.str "abcdefghijklmnopqrstuvwxyz")) aNil)) (gNm 2))
    (sSeq (sAsg (eLstH (aNil)) (gNm 3))
    (sSeq (sFor (zbt (aCons (eFn zp (aCons (eVar 0) (aCons (eOp addD (eVar 1) (eC (.int 1))) aNil))) aNil)) (gNm 4) z7i)
    (sRet (eLstH (aCons (eC (.int 0)) (aCons (eVar 3) (aCons (eB intD (aCons ((eAnd (eOp ltD (eLen [("Block",zi)] (aCons (eVar 3) aNil)) (eVar 1)) (eOp eqD (eFn zp (aCons (eVar 0) (aCons (eC (.int 2)) aNil))) (eC (.int 1))))) aNil)) aNil))))))))
def zvj:DF:=runF 5 zbh
def zuh:DF:=lenF 2 zvj
theorem zy2 (T:Tx K mg):∃fd,FunD K "_law_book" "_law_book" (defArgs zkd) (defBody zkd) (defScope zkd) [] [] (He.ga K "_law_book") fd∧FnG P w K mg base 6 (He.ga K "_law_book") fd ["_law_state", "_law_most"] (spD K 2 zvj):=by
 obtain⟨fd,Fn⟩:=T.zk5
 exact⟨fd,Fn,fn_D (N:=zjr) (ps:=["_law_state", "_law_most"]) (k:=5) (g:=zbh) Fn zdk (fun cdv A outer s H E hr=>by
  have tk:L2N.Takes (cxOf (L2N.CX P w) P w K mg base zjr "_law_book" (defScope zkd) (He.ga K "_law_book") cdv A outer s H E) (fun c d _ H=>E c d H):=L2N.takes_of rfl rfl rfl rfl
  exact (zj (z4 (zkeb rfl (by rfl) T.zpz (ze (zn) zg)) (dgn 2 zdk.nd))
  (zj (z4 (z74 (zg)) (dgn 3 zdk.nd))
  (zj (zpj (passes_of rfl) rfl (zds (by rfl) T.zax (ze (de_fn tk (zfb T) (rmo hr) (by rfl) T.zpb T.zob (ze (zf (pv 0)) (ze (de_op z5 (zf (pv 1)) (zk)) zg))) zg)) (dgn 4 zdk.nd) (zl (z7g (z5hb (zf (pv 3)) (ze (zheb (zf (pv 2)) (ze (de_fn tk (zfb T) (rmo hr) (by rfl) T.zpb T.zob (ze (zf (pv 0)) (ze (z6d (k:=2) (t:=[("Block",zi)]) tk (zuc T (by decide)) (rmo hr) (by rfl) T.b_len (ze (zf (pv 2)) zg)) zg))) zg)) zg)))))
  (zl (zo (z74 (ze (zk) (ze (zf (pv 3)) (ze (zvc z6e (by rfl) T.b_int (by decide +kernel) (ze ((z7t (zgs z3s (z6d (k:=2) (t:=[("Block",zi)]) tk (zuc T (by decide)) (rmo hr) (by rfl) T.b_len (ze (zf (pv 3)) zg)) (zf (pv 1)) (nomark _)) (zkz (zgs (zz hr.units) (de_fn tk (zfb T) (rmo hr) (by rfl) T.zpb T.zob (ze (zf (pv 0)) (ze (zk) zg))) (zk) (nomark _))))) zg)) zg))))))))))⟩
theorem z72 (T:Tx K mg):FnD P w K mg base 6 (He.ga K "_law_book") zuh:=by
 obtain⟨fd,Fn,Fg⟩:=zy2 (P:=P) (w:=w) (base:=base) T
 exact z7 Fg (Fn.bindsN fun _ _ _ _ _ _ us hl=>match us,hl with |[_,_],_=>rfl)
abbrev zox:List Str:=["thing"]
theorem zm7:FnScope zox ["thing"] (defScope zle):=⟨rfl,rfl,rfl,by decide +kernel,rfl,by decide +kernel,by decide +kernel⟩
def zzq:DS:=
    (sRet ((eAnd (eIsi (isfT zoe) (eVar 0)) (eOp ninSD (eC (.str "\n")) (eVar 0)))))
def zix:DF:=runF 1 zzq
def zzs:DF:=lenF 1 zix
theorem z37 (T:Tx K mg):∃fd,FunD K "is_line" "is_line" (defArgs zle) (defBody zle) (defScope zle) [] [] (He.ga K "is_line") fd∧FnG P w K mg base 1 (He.ga K "is_line") fd ["thing"] (spD K 1 zix):=by
 obtain⟨fd,Fn⟩:=T.zubb
 exact⟨fd,Fn,fn_D (N:=zox) (ps:=["thing"]) (k:=0) (g:=zzq) Fn zm7 (fun cdv A outer s H E hr=>by
  have tk:L2N.Takes (cxOf (L2N.CX P w) P w K mg base zox "is_line" (defScope zle) (He.ga K "is_line") cdv A outer s H E) (fun c d _ H=>E c d H):=L2N.takes_of rfl rfl rfl rfl
  exact (zl (zo ((z7t (zsj (by rfl) T.zmb (zf (pv 0)) (pe_bltn (v:=.ty "str") (by rfl) T.b_str (by decide +kernel) rfl) (.ty "str") T.zoe) (zkz (zgs z29 (zn) (zf (pv 0)) (by rfl))))))))⟩
theorem z77 (T:Tx K mg):FnD P w K mg base 1 (He.ga K "is_line") zzs:=by
 obtain⟨fd,Fn,Fg⟩:=z37 (P:=P) (w:=w) (base:=base) T
 exact z7 Fg (Fn.bindsN fun _ _ _ _ _ _ us hl=>match us,hl with |[_],_=>rfl)
abbrev zhg:List Str:=["self", "lines", "line", "rows"]
theorem zyf:FnScope zhg ["self", "lines"] (defScope zcb):=⟨rfl,rfl,rfl,by decide +kernel,rfl,by decide +kernel,by decide +kernel⟩
def zff:DS:=(sIf (bNot (bT (eFn zzs (aCons (eVar 2) aNil)))) (ztg "BadLine" "value" 41 (eVar 2)) sNext)
def z1e:DE:=(eBM "str" z1z (eVar 2) (aCons (eC (.str " ")) aNil))
def zdf:DS:=
    (sSeq (sFor (iSeq (eVar 1)) (gNm 2) zff)
    (sSeq (sAsg (eLc (iSeq (eVar 1)) (gNm 2) bYes z1e [2]) (gNm 3))
    (sFldS ["Block"] "rows" (eIf (bT (eOp neD (eVar 3) (eLst (aNil)))) (eVar 3) (eLst (aCons (eC (.str "")) aNil))) (eVar 0))))
def zgg:DF:=runF 4 zdf
def zdc:DF:=starF 1 zgg
theorem zpe (T:Tx K mg):FnD P w K mg base 3 (He.ma K (He.ga K "Block") "__init__") zdc:=by
 obtain⟨fd,Fn⟩:=T.ztu
 exact z4db (N:=zhg) (ps:=["self"]) (pv:="lines") (k:=2) (g:=zdf) Fn zyf (fun kV doc pm an cdv ct=>StX.bind_star1 (B:=fun z=>bindArgs (PySem.W.fnOf "__init__" "Block.__init__" (defArgs zcb) (defBody zcb) (defScope zcb) .none kV doc pm an cdv ct) ⟨z,[]⟩) (fun _=>rfl) (fun _ _ _=>rfl)) (fun cdv A outer s H E hr=>by
  have tk:L2N.Takes (cxOf (L2N.CX P w) P w K mg base zhg "Block.__init__" (defScope zcb) (He.ma K (He.ga K "Block") "__init__") cdv A outer s H E) (fun c d _ H=>E c d H):=L2N.takes_of rfl rfl rfl rfl
  exact (zj (zpj (passes_of rfl) rfl (z2f (zf (pv 1))) (dgn 2 zyf.nd) (zl (ds_if (zhh (zqe (de_fn tk (z77 T) (rmo hr) (by rfl) T.zyab T.zpab (ze (zf (pv 2)) zg)))) (zl (zbf rfl tk T.zoj (zug T).choose_spec.1 (zug T).choose_spec.2 (rmo hr) (by rfl) T.z2r (zf (pv 2)))) zjb)))
  (zj (z2u (i:=3) (own:=[("line",2)]) rfl zyf.nd rfl rfl (sw_true rfl rfl rfl (by decide +kernel)) (z2f (zf (pv 1))) (blkOk_by (N:=zhg) (sc:=defScope zcb) (own:=[("line",2)]) (by decide +kernel)) (fun _ _ _ _ _=>(dgn 2 zyf.nd)) (fun _ _ _ _ _=>z3k) (fun _ _ _ _ _=>(de_bm PySem.F.plainAttrs_str PySem.F.slot_str_rstrip PySem.F.type_str_rstrip z53 (zf (pv 2)) (ze (zn) zg))) (by decide))
  (zl (z2p (Cs:=["Block"]) T.zan (zf (pv 0)) (de_if (zr (zrn hr.units) (zf (pv 3)) (znf (zg)) (nomark _) bl_ne) (zf (pv 3)) (znf (ze (zn) zg))))))))
abbrev zyo:List Str:=["cls", "text", "rows"]
theorem zqr:FnScope zyo ["cls", "text"] (defScope z2c):=⟨rfl,rfl,rfl,by decide +kernel,rfl,by decide +kernel,by decide +kernel⟩
def z8k:DS:=
    (sSeq (sIf (bNot (bT (eIsi (isfT zoe) (eVar 1)))) (ztg "BadLine" "value" 41 (eVar 1)) sNext)
    (sSeq (sAsg (eBM "str" zo1 (eVar 1) (aCons (eC (.str "\n")) aNil)) (gNm 2))
    (sRet (eMk "Block" zdc (eVar 0) (z8t (eVar 2))))))
def zpo:DF:=runF 3 z8k
def zxg:DF:=lenF 2 zpo
theorem zn0 (T:Tx K mg):∃fd,FunD K "read" "Block.read" (defArgs z2c) (defBody z2c) (defScope z2c) [] [] (He5.wf K (He.ga K "Block") "classmethod" "read") fd∧FnG P w K mg base 5 (He5.wf K (He.ga K "Block") "classmethod" "read") fd ["cls", "text"] (spD K 2 zpo):=by
 obtain⟨fd,Fn⟩:=T.zm3
 exact⟨fd,Fn,fn_D (N:=zyo) (ps:=["cls", "text"]) (k:=4) (g:=z8k) Fn zqr (fun cdv A outer s H E hr=>by
  have tk:L2N.Takes (cxOf (L2N.CX P w) P w K mg base zyo "Block.read" (defScope z2c) (He5.wf K (He.ga K "Block") "classmethod" "read") cdv A outer s H E) (fun c d _ H=>E c d H):=L2N.takes_of rfl rfl rfl rfl
  exact (zj (ds_if (zhh (zqe (zsj (by rfl) T.zmb (zf (pv 1)) (pe_bltn (v:=.ty "str") (by rfl) T.b_str (by decide +kernel) rfl) (.ty "str") T.zoe))) (zl (zbf rfl tk T.zoj (zug T).choose_spec.1 (zug T).choose_spec.2 (rmo hr) (by rfl) T.z2r (zf (pv 1)))) zjb)
  (zj (z4 (de_bm PySem.F.plainAttrs_str PySem.F.slot_str_split PySem.F.type_str_split z0y (zf (pv 1)) (ze (zn) zg)) (dgn 2 zqr.nd))
  (zl (zo (zf3 (C:="Block") tk T.z0v (zpe T) (rmo hr) (zf (pv 0)) (zf (pv 2))))))))⟩
theorem zgm (T:Tx K mg):FnD P w K mg base 5 (He5.wf K (He.ga K "Block") "classmethod" "read") zxg:=by
 obtain⟨fd,Fn,Fg⟩:=zn0 (P:=P) (w:=w) (base:=base) T
 exact z7 Fg (Fn.bindsN fun _ _ _ _ _ _ us hl=>match us,hl with |[_,_],_=>rfl)
abbrev zym:List Str:=["self"]
theorem ztx:FnScope zym ["self"] (defScope zmc):=⟨rfl,rfl,rfl,by decide +kernel,rfl,by decide +kernel,by decide +kernel⟩
def zrj:DS:=
    (sRet (eB z5m (aCons (eFld ["Block"] "rows" (eVar 0)) aNil)))
def zsm:DF:=runF 1 zrj
def z1f:DF:=lenF 1 zsm
theorem zay (T:Tx K mg):∃fd,FunD K "lines" "Block.lines" (defArgs zmc) (defBody zmc) (defScope zmc) [] [] (He5.wf K (He.ga K "Block") "property" "lines") fd∧FnG P w K mg base 1 (He5.wf K (He.ga K "Block") "property" "lines") fd ["self"] (spD K 1 zsm):=by
 obtain⟨fd,Fn⟩:=T.z70
 exact⟨fd,Fn,fn_D (N:=zym) (ps:=["self"]) (k:=0) (g:=zrj) Fn ztx (fun cdv A outer s H E hr=>by
  have tk:L2N.Takes (cxOf (L2N.CX P w) P w K mg base zym "Block.lines" (defScope zmc) (He5.wf K (He.ga K "Block") "property" "lines") cdv A outer s H E) (fun c d _ H=>E c d H):=L2N.takes_of rfl rfl rfl rfl
  exact (zl (zo (zvc zei (by rfl) T.zkt (by decide +kernel) (ze (zrd (Cs:=["Block"]) T.zan (zf (pv 0))) zg)))))⟩
theorem zdy (T:Tx K mg):FnD P w K mg base 1 (He5.wf K (He.ga K "Block") "property" "lines") z1f:=by
 obtain⟨fd,Fn,Fg⟩:=zay (P:=P) (w:=w) (base:=base) T
 exact z7 Fg (Fn.bindsN fun _ _ _ _ _ _ us hl=>match us,hl with |[_],_=>rfl)
abbrev zcr:List Str:=["line", "word"]
theorem zyt:FnScope zcr ["line"] (defScope zed):=⟨rfl,rfl,rfl,by decide +kernel,rfl,by decide +kernel,by decide +kernel⟩
def zzi:DS:=
    (sSeq (sAsg (eBM "str" zdv (eVar 0) (aCons (eC (.str " ")) aNil)) (gNm 1))
    (sSeq (sIf (bT (eOp eqD (eVar 1) (eC (.str "")))) (sRet (eUn negD (eC (.int 1)))) sNext)
    (sRet (eOp subD (eLen [] (aCons (eVar 0) aNil)) (eLen [] (aCons (eBM "str" z6s (eVar 0) (aCons (eC (.str " ")) aNil)) aNil))))))
def zrm:DF:=runF 2 zzi
def zpg:DF:=lenF 1 zrm
theorem zr2 (T:Tx K mg):∃fd,FunD K "margin_of" "margin_of" (defArgs zed) (defBody zed) (defScope zed) [] [] (He.ga K "margin_of") fd∧FnG P w K mg base 2 (He.ga K "margin_of") fd ["line"] (spD K 1 zrm):=by
 obtain⟨fd,Fn⟩:=T.zc5
 exact⟨fd,Fn,fn_D (N:=zcr) (ps:=["line"]) (k:=1) (g:=zzi) Fn zyt (fun cdv A outer s H E hr=>by
  have tk:L2N.Takes (cxOf (L2N.CX P w) P w K mg base zcr "margin_of" (defScope zed) (He.ga K "margin_of") cdv A outer s H E) (fun c d _ H=>E c d H):=L2N.takes_of rfl rfl rfl rfl
  exact (zj (z4 (de_bm PySem.F.plainAttrs_str PySem.F.slot_str_strip PySem.F.type_str_strip z5s (zf (pv 0)) (ze (zn) zg)) (dgn 1 zyt.nd))
  (zj (ds_if (zr (zz hr.units) (zf (pv 1)) (zn) (nomark _) bl_eq) (zl (zo (de_un z0d (zk)))) zjb)
  (zl (zo (de_op ztr (z6d (k:=0) (t:=[]) tk (fun _ z=>nomatch z) (rmo hr) (by rfl) T.b_len (ze (zf (pv 0)) zg)) (z6d (k:=0) (t:=[]) tk (fun _ z=>nomatch z) (rmo hr) (by rfl) T.b_len (ze (de_bm PySem.F.plainAttrs_str PySem.F.slot_str_lstrip PySem.F.type_str_lstrip zhq (zf (pv 0)) (ze (zn) zg)) zg))))))))⟩
theorem z4n (T:Tx K mg):FnD P w K mg base 2 (He.ga K "margin_of") zpg:=by
 obtain⟨fd,Fn,Fg⟩:=zr2 (P:=P) (w:=w) (base:=base) T
 exact z7 Fg (Fn.bindsN fun _ _ _ _ _ _ us hl=>match us,hl with |[_],_=>rfl)
abbrev z5u:List Str:=["thing", "letter"]
theorem zmv:FnScope z5u ["thing"] (defScope z2e):=⟨rfl,rfl,rfl,by decide +kernel,rfl,by decide +kernel,by decide +kernel⟩
def zkr:DE:=(zdo leD leD (eC (.str "a")) (eVar 1) (eC (.str "z")))
def zzl:DS:=
    (sSeq (sIf ((bOr (bNot (bT (eIsi (isfT zoe) (eVar 0)))) (bNot (bT (zdo leD leD (eC (.int 1)) (eLen [] (aCons (eVar 0) aNil)) (eC (.int 8))))))) (sRet (eC (.bl false))) sNext)
    (sRet (eB allD (aCons (eLc (iTxt (eVar 0)) (gNm 1) bYes zkr [1]) aNil))))
def zws:DF:=runF 2 zzl
def z0m:DF:=lenF 1 zws
theorem zbbb (T:Tx K mg):∃fd,FunD K "is_tag" "is_tag" (defArgs z2e) (defBody z2e) (defScope z2e) [] [] (He.ga K "is_tag") fd∧FnG P w K mg base 2 (He.ga K "is_tag") fd ["thing"] (spD K 1 zws):=by
 obtain⟨fd,Fn⟩:=T.zneb
 exact⟨fd,Fn,fn_D (N:=z5u) (ps:=["thing"]) (k:=1) (g:=zzl) Fn zmv (fun cdv A outer s H E hr=>by
  have tk:L2N.Takes (cxOf (L2N.CX P w) P w K mg base z5u "is_tag" (defScope z2e) (He.ga K "is_tag") cdv A outer s H E) (fun c d _ H=>E c d H):=L2N.takes_of rfl rfl rfl rfl
  exact (zj (ds_if (PW.pt (dw_or (zhh (zqe (zsj (by rfl) T.zmb (zf (pv 0)) (pe_bltn (v:=.ty "str") (by rfl) T.b_str (by decide +kernel) rfl) (.ty "str") T.zoe))) (zbn (zhh (zw6 zsn zsn bl_le bl_le (zk) (z6d (k:=0) (t:=[]) tk (fun _ z=>nomatch z) (rmo hr) (by rfl) T.b_len (ze (zf (pv 0)) zg)) (z9k (i:=8) (by rfl) T.zz7)))))) (zl (zo (de_bl))) zjb)
  (zl (zo (zkk (zi8 rfl) (by rfl) T.b_all (by decide +kernel) (ze (de_lc (own:=[("letter",1)]) rfl zmv.nd (zofb (zf (pv 0))) (blkOk_by (N:=z5u) (sc:=defScope z2e) (own:=[("letter",1)]) (by decide +kernel)) (fun _ _ _ _ _=>(dgn 1 zmv.nd)) (fun _ _ _ _ _=>z3k) (fun _ _ _ _ _=>(z20 zsn zsn bl_le (zn) (zf (pv 1)) (zn))) (by decide)) zg))))))⟩
theorem z22 (T:Tx K mg):FnD P w K mg base 2 (He.ga K "is_tag") z0m:=by
 obtain⟨fd,Fn,Fg⟩:=zbbb (P:=P) (w:=w) (base:=base) T
 exact z7 Fg (Fn.bindsN fun _ _ _ _ _ _ us hl=>match us,hl with |[_],_=>rfl)
abbrev zuo:List Str:=["line", "found", "column", "word", "head", "colon", "tail"]
theorem z5d:FnScope zuo ["line"] (defScope zzc):=⟨rfl,rfl,rfl,by decide +kernel,rfl,by decide +kernel,by decide +kernel⟩
def z7e:DT:=(bT (eOp neD (eVar 3) (eC (.str ""))))
def ztd:DS:=(sSeq (sAsg (eBM "str" zul (eVar 3) (aCons (eC (.str ":")) aNil)) (gTp 3 (zfe (gNm 4) (zfe (gNm 5) (zfe (gNm 6) gNil_)))))
    (sSeq (sIf ((bOr (bT (eOp eqD (eVar 5) (eC (.str "")))) (bOr (bNot (bT (eFn z0m (aCons (eVar 4) aNil)))) (bNot ((bOr (bT (eOp eqD (eVar 6) (eC (.str "")))) (bT (eBM "str" zuz (eVar 6) (aCons (eC (.str " ")) aNil))))))))) (sSeq (sDrop (eApp (eVar 1) (aCons (eTup (aCons (eVar 2) (aCons (eVar 3) aNil))) aNil)))
    (sRet (eVar 1))) sNext)
    (sSeq (sDrop (eApp (eVar 1) (aCons (eTup (aCons (eVar 2) (aCons (eOp addD (eVar 4) (eC (.str ":"))) aNil))) aNil)))
    (sSeq (sAsg (eBM "str" z6s (eVar 6) (aCons (eC (.str " ")) aNil)) (gNm 3))
    (sAsg (eOp subD (eOp addD (eOp addD (eOp addD (eVar 2) (eLen [] (aCons (eVar 4) aNil))) (eC (.int 1))) (eLen [] (aCons (eVar 6) aNil))) (eLen [] (aCons (eVar 3) aNil))) (gNm 2))))))
def z0h:DS:=
    (sSeq (sAsg (eCel (aNil)) (gNm 1))
    (sSeq (sPar 2 3 (aCons (eFn zpg (aCons (eVar 0) aNil)) (aCons (eBM "str" zdv (eVar 0) (aCons (eC (.str " ")) aNil)) aNil)))
    (sSeq (zj9 100000 z7e ztd)
    (sRet (eVar 1)))))
def znk:DF:=runF 7 z0h
def zgi:DF:=lenF 1 znk
theorem zk0 (T:Tx K mg):∃fd,FunD K "line_nodes" "line_nodes" (defArgs zzc) (defBody zzc) (defScope zzc) [] [] (He.ga K "line_nodes") fd∧FnG P w K mg base 3 (He.ga K "line_nodes") fd ["line"] (spD K 1 znk):=by
 obtain⟨fd,Fn⟩:=T.zh3
 exact⟨fd,Fn,fn_D (N:=zuo) (ps:=["line"]) (k:=2) (g:=z0h) Fn z5d (fun cdv A outer s H E hr=>by
  have tk:L2N.Takes (cxOf (L2N.CX P w) P w K mg base zuo "line_nodes" (defScope zzc) (He.ga K "line_nodes") cdv A outer s H E) (fun c d _ H=>E c d H):=L2N.takes_of rfl rfl rfl rfl
  exact (zj (z4 (zzw (zg)) (dgn 1 z5d.nd))
  (zj (zukb (i:=2) (j:=3) rfl z5d.nd rfl rfl (by decide) rfl rfl (ze (de_fn tk (z4n T) (rmo hr) (by rfl) T.zmq T.zjq (ze (zf (pv 0)) zg)) (ze (de_bm PySem.F.plainAttrs_str PySem.F.slot_str_strip PySem.F.type_str_strip z5s (zf (pv 0)) (ze (zn) zg)) zg)) (by rfl))
  (zj (zeeb 100000 (passes_of rfl) (zr (zrn hr.units) (zf (pv 3)) (zn) (nomark _) bl_ne) (zj (z4 (de_bm PySem.F.plainAttrs_str PySem.F.slot_str_partition PySem.F.type_str_partition zvx (zf (pv 3)) (ze (zn) zg)) (zc3 rfl (zeg (dgn 4 z5d.nd) (zeg (dgn 5 z5d.nd) (zeg (dgn 6 z5d.nd) zww)))))
  (zj (ds_if (PW.pt (dw_or (zr (zz hr.units) (zf (pv 5)) (zn) (nomark _) bl_eq) (dw_or (zhh (zqe (de_fn tk (z22 T) (rmo hr) (by rfl) T.zl6 T.zf6 (ze (zf (pv 4)) zg)))) (zbn (zhh (PW.pt (dw_or (zr (zz hr.units) (zf (pv 6)) (zn) (nomark _) bl_eq) (zbn (zqe (de_bm PySem.F.plainAttrs_str PySem.F.slot_str_startswith PySem.F.type_str_startswith z43 (zf (pv 6)) (ze (zn) zg))))))))))) (zj (z7g (zgo (zf (pv 1)) (ze (zbb (ze (zf (pv 2)) (ze (zf (pv 3)) zg))) zg)))
  (zl (zo (zf (pv 1))))) zjb)
  (zj (z7g (zgo (zf (pv 1)) (ze (zbb (ze (zf (pv 2)) (ze (de_op z5 (zf (pv 4)) (zn)) zg))) zg)))
  (zj (z4 (de_bm PySem.F.plainAttrs_str PySem.F.slot_str_lstrip PySem.F.type_str_lstrip zhq (zf (pv 6)) (ze (zn) zg)) (dgn 3 z5d.nd))
  (zl (z4 (de_op ztr (de_op z5 (de_op z5 (de_op z5 (zf (pv 2)) (z6d (k:=0) (t:=[]) tk (fun _ z=>nomatch z) (rmo hr) (by rfl) T.b_len (ze (zf (pv 4)) zg))) (zk)) (z6d (k:=0) (t:=[]) tk (fun _ z=>nomatch z) (rmo hr) (by rfl) T.b_len (ze (zf (pv 6)) zg))) (z6d (k:=0) (t:=[]) tk (fun _ z=>nomatch z) (rmo hr) (by rfl) T.b_len (ze (zf (pv 3)) zg))) (dgn 2 z5d.nd))))))))
  (zl (zo (zf (pv 1))))))))⟩
theorem zq0 (T:Tx K mg):FnD P w K mg base 3 (He.ga K "line_nodes") zgi:=by
 obtain⟨fd,Fn,Fg⟩:=zk0 (P:=P) (w:=w) (base:=base) T
 exact z7 Fg (Fn.bindsN fun _ _ _ _ _ _ us hl=>match us,hl with |[_],_=>rfl)
abbrev zto:List Str:=["text", "lines", "line", "word"]
theorem zvi:FnScope zto ["text"] (defScope zyc):=⟨rfl,rfl,rfl,by decide +kernel,rfl,by decide +kernel,by decide +kernel⟩
def zag:DS:=(sSeq (sAsg (eBM "str" zdv (eVar 2) (aCons (eC (.str " ")) aNil)) (gNm 3))
    (sIf (bT (eOp eqD (eVar 3) (eC (.str "")))) (sDrop (eApp (eVar 1) (aCons (eC .non) aNil))) (sDrop (eApp (eVar 1) (aCons (eTup (aCons (eOp subD (eLen [] (aCons (eVar 2) aNil)) (eLen [] (aCons (eBM "str" z6s (eVar 2) (aCons (eC (.str " ")) aNil)) aNil))) (aCons (eB z5m (aCons (eFn zgi (aCons (eVar 3) aNil)) aNil)) aNil))) aNil)))))
def z4k:DS:=
    (sSeq (sAsg (eCel (aNil)) (gNm 1))
    (sSeq (sFor (iSeq (eBM "str" zo1 (eVar 0) (aCons (eC (.str "\n")) aNil))) (gNm 2) zag)
    (sRet (eVar 1))))
def zko:DF:=runF 4 z4k
def zrk:DF:=lenF 1 zko
theorem zj0 (T:Tx K mg):∃fd,FunD K "split_text" "split_text" (defArgs zyc) (defBody zyc) (defScope zyc) [] [] (He.ga K "split_text") fd∧FnG P w K mg base 4 (He.ga K "split_text") fd ["text"] (spD K 1 zko):=by
 obtain⟨fd,Fn⟩:=T.zg3
 exact⟨fd,Fn,fn_D (N:=zto) (ps:=["text"]) (k:=3) (g:=z4k) Fn zvi (fun cdv A outer s H E hr=>by
  have tk:L2N.Takes (cxOf (L2N.CX P w) P w K mg base zto "split_text" (defScope zyc) (He.ga K "split_text") cdv A outer s H E) (fun c d _ H=>E c d H):=L2N.takes_of rfl rfl rfl rfl
  exact (zj (z4 (zzw (zg)) (dgn 1 zvi.nd))
  (zj (zpj (passes_of rfl) rfl (z2f (de_bm PySem.F.plainAttrs_str PySem.F.slot_str_split PySem.F.type_str_split z0y (zf (pv 0)) (ze (zn) zg))) (dgn 2 zvi.nd) (zj (z4 (de_bm PySem.F.plainAttrs_str PySem.F.slot_str_strip PySem.F.type_str_strip z5s (zf (pv 2)) (ze (zn) zg)) (dgn 3 zvi.nd))
  (zl (ds_if (zr (zz hr.units) (zf (pv 3)) (zn) (nomark _) bl_eq) (zl (z7g (zgo (zf (pv 1)) (ze (zen) zg)))) (zl (z7g (zgo (zf (pv 1)) (ze (zbb (ze (de_op ztr (z6d (k:=0) (t:=[]) tk (fun _ z=>nomatch z) (rmo hr) (by rfl) T.b_len (ze (zf (pv 2)) zg)) (z6d (k:=0) (t:=[]) tk (fun _ z=>nomatch z) (rmo hr) (by rfl) T.b_len (ze (de_bm PySem.F.plainAttrs_str PySem.F.slot_str_lstrip PySem.F.type_str_lstrip zhq (zf (pv 2)) (ze (zn) zg)) zg))) (ze (zvc zei (by rfl) T.zkt (by decide +kernel) (ze (de_fn tk (zq0 T) (rmo hr) (by rfl) T.ze2 T.z61 (ze (zf (pv 3)) zg)) zg)) zg))) zg))))))))
  (zl (zo (zf (pv 1)))))))⟩
theorem zp0 (T:Tx K mg):FnD P w K mg base 4 (He.ga K "split_text") zrk:=by
 obtain⟨fd,Fn,Fg⟩:=zj0 (P:=P) (w:=w) (base:=base) T
 exact z7 Fg (Fn.bindsN fun _ _ _ _ _ _ us hl=>match us,hl with |[_],_=>rfl)
abbrev zld:List Str:=["self", "word", "members", "name", "amount", "tag", "block", "own", "nodes", "member", "line"]
theorem znb:FnScope zld ["self", "word", "members", "name", "amount", "tag", "block"] (defScope zq):=⟨rfl,rfl,rfl,by decide +kernel,rfl,by decide +kernel,by decide +kernel⟩
def zwf:DE:=(eFld ["Program"] "size" (eVar 9))
def zce:DT:=(bT (eOp ztn (eVar 10) (eC .non)))
def zvf:DE:=(eLen [("Block",zi)] (aCons (eIx [("Block",zb)] (eVar 10) (eC (.int 1))) aNil))
def zuf:DE:=(eFld ["Program"] "spots" (eVar 9))
def zhe:DS:=
    (sSeq (sFldS ["Program"] "word" (eVar 1) (eVar 0))
    (sSeq (sFldS ["Program"] "members" (eVar 2) (eVar 0))
    (sSeq (sFldS ["Program"] "name" (eVar 3) (eVar 0))
    (sSeq (sFldS ["Program"] "amount" (eVar 4) (eVar 0))
    (sSeq (sFldS ["Program"] "tag" (eVar 5) (eVar 0))
    (sSeq (sFldS ["Program"] "block" (eVar 6) (eVar 0))
    (sSeq (sFldS ["Program"] "cut" (eIf (bT (eOp z4v (eVar 6) (eC .non))) (eC .non) (eFn zrk (aCons (eStr [("Block",z8)] (aCons (eVar 6) aNil)) aNil))) (eVar 0))
    (sSeq (sFldS ["Program"] "size" (eOp addD (eC (.int 1)) (eB sumD (aCons (eLc (iSeq (eVar 2)) (gNm 9) bYes zwf [9]) aNil))) (eVar 0))
    (sSeq (sAsg (eIf ((bOr (bT (eOp eqD (eVar 1) (eC (.str "hole")))) (bT (eOp inTD (eVar 1) (eC (.tup ((["tag", "raw"]:List Str).map D.str))))))) (eC (.int 1)) (eC (.int 0))) (gNm 7))
    (sSeq (sAsg (eIf (bT (eOp z4v (eVar 6) (eC .non))) (eLst (aNil)) (eLc (iSeq (eFld ["Program"] "cut" (eVar 0))) (gNm 10) zce zvf [10])) (gNm 8))
    (sFldS ["Program"] "spots" (eOp addD (eOp addD (eVar 7) (eB sumD (aCons (eVar 8) aNil))) (eB sumD (aCons (eLc (iSeq (eVar 2)) (gNm 9) bYes zuf [9]) aNil))) (eVar 0))))))))))))
def zjc:DF:=runF 11 zhe
def zmd:DF:=lenF 7 zjc
theorem zbd (T:Tx K mg):∃fd,FunD K "__init__" "Program.__init__" (defArgs zq) (defBody zq) (defScope zq) [.non,.non,.non,.non] [] (He.ma K (He.ga K "Program") "__init__") fd∧FnG P w K mg base 5 (He.ma K (He.ga K "Program") "__init__") fd ["self", "word", "members", "name", "amount", "tag", "block"] (spD K 7 zjc):=by
 obtain⟨fd,Fn⟩:=T.zjs
 exact⟨fd,Fn,fn_D (N:=zld) (ps:=["self", "word", "members", "name", "amount", "tag", "block"]) (k:=4) (g:=zhe) Fn znb (fun cdv A outer s H E hr=>by
  have tk:L2N.Takes (cxOf (L2N.CX P w) P w K mg base zld "Program.__init__" (defScope zq) (He.ma K (He.ga K "Program") "__init__") cdv A outer s H E) (fun c d _ H=>E c d H):=L2N.takes_of rfl rfl rfl rfl
  exact (zj (z2p (Cs:=["Program"]) T.z5t (zf (pv 0)) (zf (pv 1)))
  (zj (z2p (Cs:=["Program"]) T.z9n (zf (pv 0)) (zf (pv 2)))
  (zj (z2p (Cs:=["Program"]) T.zq6 (zf (pv 0)) (zf (pv 3)))
  (zj (z2p (Cs:=["Program"]) T.zr6 (zf (pv 0)) (zf (pv 4)))
  (zj (z2p (Cs:=["Program"]) T.f_tag (zf (pv 0)) (zf (pv 5)))
  (zj (z2p (Cs:=["Program"]) T.zfbb (zf (pv 0)) (zf (pv 6)))
  (zj (z2p (Cs:=["Program"]) T.f_cut (zf (pv 0)) (de_if (zr z33 (zf (pv 6)) (zen) (nomark _) bl_is) (zen) (de_fn tk (zp0 T) (rmo hr) (by rfl) T.zd2 T.z51 (ze (zyw (k:=1) (t:=[("Block",z8)]) tk (zjj T (by decide)) (rmo hr) (by rfl) T.b_str (ze (zf (pv 6)) zg)) zg))))
  (zj (z2p (Cs:=["Program"]) T.zp6 (zf (pv 0)) (de_op z5 (zk) (zkk (zjt rfl) (by rfl) T.b_sum (by decide +kernel) (ze (de_lc (own:=[("member",9)]) rfl znb.nd (z2f (zf (pv 2))) (blkOk_by (N:=zld) (sc:=defScope zq) (own:=[("member",9)]) (by decide +kernel)) (fun _ _ _ _ _=>(dgn 9 znb.nd)) (fun _ _ _ _ _=>z3k) (fun _ _ _ _ _=>(zrd (Cs:=["Program"]) T.zp6 (zf (pv 9)))) (by decide)) zg))))
  (zj (z4 (de_if (PW.pt (dw_or (zr (zz hr.units) (zf (pv 1)) (zn) (nomark _) bl_eq) (zbn (zr zzu (zf (pv 1)) (zobb (ss:=["tag", "raw"]) (by rfl) T.zkkb T.z3ib) (by rfl) z56)))) (zk) (zk)) (dgn 7 znb.nd))
  (zj (z4 (de_if (zr z33 (zf (pv 6)) (zen) (nomark _) bl_is) (znf (zg)) (de_lc (own:=[("line",10)]) rfl znb.nd (z2f (zrd (Cs:=["Program"]) T.f_cut (zf (pv 0)))) (blkOk_by (N:=zld) (sc:=defScope zq) (own:=[("line",10)]) (by decide +kernel)) (fun _ _ _ _ _=>(dgn 10 znb.nd)) (fun _ _ _ _ _=>zuq (zr z4s (zf (pv 10)) (zen) (nomark _) z90)) (fun _ _ _ _ _=>(z6d (k:=2) (t:=[("Block",zi)]) zcj (zuc T (by decide)) (rmo hr) (by rfl) T.b_len (ze (de_ix (k:=3) (t:=[("Block",zb)]) zcj (zh T (by decide)) (rmo hr) (zf (pv 10)) (zk) (fun _ _=>rfl) (fun _ _=>by with_unfolding_all rfl)) zg))) (by decide))) (dgn 8 znb.nd))
  (zl (z2p (Cs:=["Program"]) T.zebb (zf (pv 0)) (de_op z5 (de_op z5 (zf (pv 7)) (zkk (zjt rfl) (by rfl) T.b_sum (by decide +kernel) (ze (zf (pv 8)) zg))) (zkk (zjt rfl) (by rfl) T.b_sum (by decide +kernel) (ze (de_lc (own:=[("member",9)]) rfl znb.nd (z2f (zf (pv 2))) (blkOk_by (N:=zld) (sc:=defScope zq) (own:=[("member",9)]) (by decide +kernel)) (fun _ _ _ _ _=>(dgn 9 znb.nd)) (fun _ _ _ _ _=>z3k) (fun _ _ _ _ _=>(zrd (Cs:=["Program"]) T.zebb (zf (pv 9)))) (by decide)) zg))))))))))))))))⟩
def z8b:DF:=kwF 4 [.non,.non,.non,.non] [0,1,2,4,5,6,3] zmd
theorem zyi (T:Tx K mg):FnK P w K mg base 5 (He.ma K (He.ga K "Program") "__init__") ["block"] z8b:=by
 obtain⟨fd,Fn,Fg⟩:=zbd (P:=P) (w:=w) (base:=base) T
 exact zcz Fn Fg 3 ["block"] [.non,.non,.non,.non] [0,1,2,4,5,6,3] (by simp) (.cons .non (.cons .non (.cons .non (.cons .non .nil)))) (fun _ _ _ _ _ _ _ us ws its hu hw hi=>match us,ws,its,hu,hw,hi with |[_,_,_],[_],[_,_,_,_],_,_,_=>⟨_,rfl,rfl⟩)
def z9:DF:=kwF 4 [.non,.non,.non,.non] [0,1,2,3,5,6,7] zmd
theorem zlf (T:Tx K mg):FnK P w K mg base 5 (He.ma K (He.ga K "Program") "__init__") ["name"] z9:=by
 obtain⟨fd,Fn,Fg⟩:=zbd (P:=P) (w:=w) (base:=base) T
 exact zcz Fn Fg 3 ["name"] [.non,.non,.non,.non] [0,1,2,3,5,6,7] (by simp) (.cons .non (.cons .non (.cons .non (.cons .non .nil)))) (fun _ _ _ _ _ _ _ us ws its hu hw hi=>match us,ws,its,hu,hw,hi with |[_,_,_],[_],[_,_,_,_],_,_,_=>⟨_,rfl,rfl⟩)
def zw:DF:=kwF 3 [.non,.non,.non,.non] [0,1,2,3,4,5,6] zmd
theorem z1d (T:Tx K mg):FnK P w K mg base 5 (He.ma K (He.ga K "Program") "__init__") [] zw:=by
 obtain⟨fd,Fn,Fg⟩:=zbd (P:=P) (w:=w) (base:=base) T
 exact zcz Fn Fg 3 [] [.non,.non,.non,.non] [0,1,2,3,4,5,6] (by simp) (.cons .non (.cons .non (.cons .non (.cons .non .nil)))) (fun _ _ _ _ _ _ _ us ws its hu hw hi=>match us,ws,its,hu,hw,hi with |[_,_,_],[],[_,_,_,_],_,_,_=>⟨_,rfl,rfl⟩)
def zgb:DF:=kwF 4 [.non,.non,.non,.non] [0,1,2,4,3,6,7] zmd
theorem z4e (T:Tx K mg):FnK P w K mg base 5 (He.ma K (He.ga K "Program") "__init__") ["amount"] zgb:=by
 obtain⟨fd,Fn,Fg⟩:=zbd (P:=P) (w:=w) (base:=base) T
 exact zcz Fn Fg 3 ["amount"] [.non,.non,.non,.non] [0,1,2,4,3,6,7] (by simp) (.cons .non (.cons .non (.cons .non (.cons .non .nil)))) (fun _ _ _ _ _ _ _ us ws its hu hw hi=>match us,ws,its,hu,hw,hi with |[_,_,_],[_],[_,_,_,_],_,_,_=>⟨_,rfl,rfl⟩)
def zzb:DF:=kwF 4 [.non,.non,.non,.non] [0,1,2,4,5,3,7] zmd
theorem zak (T:Tx K mg):FnK P w K mg base 5 (He.ma K (He.ga K "Program") "__init__") ["tag"] zzb:=by
 obtain⟨fd,Fn,Fg⟩:=zbd (P:=P) (w:=w) (base:=base) T
 exact zcz Fn Fg 3 ["tag"] [.non,.non,.non,.non] [0,1,2,4,5,3,7] (by simp) (.cons .non (.cons .non (.cons .non (.cons .non .nil)))) (fun _ _ _ _ _ _ _ us ws its hu hw hi=>match us,ws,its,hu,hw,hi with |[_,_,_],[_],[_,_,_,_],_,_,_=>⟨_,rfl,rfl⟩)
def z9d:DF:=kwF 7 [.non,.non,.non,.non] [0,1,2,3,4,5,6] zmd
theorem zin (T:Tx K mg):FnK P w K mg base 5 (He.ma K (He.ga K "Program") "__init__") [] z9d:=by
 obtain⟨fd,Fn,Fg⟩:=zbd (P:=P) (w:=w) (base:=base) T
 exact zcz Fn Fg 7 [] [.non,.non,.non,.non] [0,1,2,3,4,5,6] (by simp) (.cons .non (.cons .non (.cons .non (.cons .non .nil)))) (fun _ _ _ _ _ _ _ us ws its hu hw hi=>match us,ws,its,hu,hw,hi with |[_,_,_,_,_,_,_],[],[_,_,_,_],_,_,_=>⟨_,rfl,rfl⟩)
abbrev zf1:List Str:=["text", "block", "lines", "line"]
theorem z6o:FnScope zf1 ["text"] (defScope zdg):=⟨rfl,rfl,rfl,by decide +kernel,rfl,by decide +kernel,by decide +kernel⟩
def zmp:DE:=(eLen [("Block",zi)] (aCons (eVar 3) aNil))
def zxw:DS:=
    (sSeq (sIf (bT (eIsi (isfT zbi) (eVar 0))) (sAsg (eCm "Block" true zxg (eC (.cls "Block")) (aCons (eStr [("Block",z8)] (aCons (eVar 0) aNil)) aNil)) (gNm 1)) (sIf (bT (eIsi (isfT zoe) (eVar 0))) (sAsg (eCm "Block" true zxg (eC (.cls "Block")) (aCons (eVar 0) aNil)) (gNm 1)) (ztg "BadLine" "value" 41 (eVar 0))))
    (sSeq (sAsg (eProp "Block" z1f (eVar 1)) (gNm 2))
    (sSeq (sIf ((bOr (bT (eOp gtD (eLen [("Block",zi)] (aCons (eVar 2) aNil)) (eC (.int 6)))) (bT (eOp gtD (eB maxLD (aCons (eLc (iSeq (eVar 2)) (gNm 3) bYes zmp [3]) aNil)) (eC (.int 60)))))) (ztg "BadLine" "value" 41 (eVar 0)) sNext)
    (sRet (eMkK "Program" 1 z8b (eC (.cls "Program")) (aCons (eC (.str "fixed")) (aCons (eTup (aNil)) aNil)) (aCons (eVar 1) aNil))))))
def zr5:DF:=runF 4 zxw
def zpt:DF:=lenF 1 zr5
theorem z8db (T:Tx K mg):∃fd,FunD K "fixed" "fixed" (defArgs zdg) (defBody zdg) (defScope zdg) [] [] (He.ga K "fixed") fd∧FnG P w K mg base 7 (He.ga K "fixed") fd ["text"] (spD K 1 zr5):=by
 obtain⟨fd,Fn⟩:=T.z6hb
 exact⟨fd,Fn,fn_D (N:=zf1) (ps:=["text"]) (k:=6) (g:=zxw) Fn z6o (fun cdv A outer s H E hr=>by
  have tk:L2N.Takes (cxOf (L2N.CX P w) P w K mg base zf1 "fixed" (defScope zdg) (He.ga K "fixed") cdv A outer s H E) (fun c d _ H=>E c d H):=L2N.takes_of rfl rfl rfl rfl
  exact (zj (ds_if (zqe (zsj (by rfl) T.zmb (zf (pv 0)) (pe_glob (v:=.ref (He.ga K "Block")) (by rfl) T.zzk rfl) (.own (He.ga K "Block")) T.zbi)) (zl (z4 (z10 (C:="Block") tk T.z3z T.zom (zgm T) (rmo hr) (zih (C:="Block") (by rfl) T.zzk) (ze (zyw (k:=1) (t:=[("Block",z8)]) tk (zjj T (by decide)) (rmo hr) (by rfl) T.b_str (ze (zf (pv 0)) zg)) zg)) (dgn 1 z6o.nd))) (zl (ds_if (zqe (zsj (by rfl) T.zmb (zf (pv 0)) (pe_bltn (v:=.ty "str") (by rfl) T.b_str (by decide +kernel) rfl) (.ty "str") T.zoe)) (zl (z4 (z10 (C:="Block") tk T.z3z T.zom (zgm T) (rmo hr) (zih (C:="Block") (by rfl) T.zzk) (ze (zf (pv 0)) zg)) (dgn 1 z6o.nd))) (zl (zbf rfl tk T.zoj (zug T).choose_spec.1 (zug T).choose_spec.2 (rmo hr) (by rfl) T.z2r (zf (pv 0)))))))
  (zj (z4 (zlbb (C:="Block") T.z9hb T.z8z (zdy T) (rmo hr) (zf (pv 1))) (dgn 2 z6o.nd))
  (zj (ds_if (PW.pt (dw_or (zr zgq (z6d (k:=2) (t:=[("Block",zi)]) tk (zuc T (by decide)) (rmo hr) (by rfl) T.b_len (ze (zf (pv 2)) zg)) (z9k (i:=6) (by rfl) T.zk2) (nomark _) bl_gt) (zbn (zr zgq (zkk (zn5 rfl) (by rfl) T.b_max (by decide +kernel) (ze (de_lc (own:=[("line",3)]) rfl z6o.nd (z2f (zf (pv 2))) (blkOk_by (N:=zf1) (sc:=defScope zdg) (own:=[("line",3)]) (by decide +kernel)) (fun _ _ _ _ _=>(dgn 3 z6o.nd)) (fun _ _ _ _ _=>z3k) (fun _ _ _ _ _=>(z6d (k:=2) (t:=[("Block",zi)]) zcj (zuc T (by decide)) (rmo hr) (by rfl) T.b_len (ze (zf (pv 3)) zg))) (by decide)) zg)) (z9k (i:=60) (by rfl) T.zj2) (nomark _) bl_gt)))) (zl (zbf rfl tk T.zoj (zug T).choose_spec.1 (zug T).choose_spec.2 (rmo hr) (by rfl) T.z2r (zf (pv 0)))) zjb)
  (zl (zo (zlz (C:="Program") tk T.zkf (zyi T) (rmo hr) (zih (C:="Program") (by rfl) T.z3e) (ze (zn) (ze (zbb (zg)) zg)) (zwq (zf (pv 1)) zvw))))))))⟩
theorem zo6 (T:Tx K mg):FnD P w K mg base 7 (He.ga K "fixed") zpt:=by
 obtain⟨fd,Fn,Fg⟩:=z8db (P:=P) (w:=w) (base:=base) T
 exact z7 Fg (Fn.bindsN fun _ _ _ _ _ _ us hl=>match us,hl with |[_],_=>rfl)
abbrev zmx:List Str:=["thing"]
theorem zl7:FnScope zmx ["thing"] (defScope zje):=⟨rfl,rfl,rfl,by decide +kernel,rfl,by decide +kernel,by decide +kernel⟩
def zyq:DS:=
    (sRet ((eAnd (eIsi (isfT zoe) (eVar 0)) (eAnd (eOp eqD (eLen [] (aCons (eVar 0) aNil)) (eC (.int 1))) (zdo leD leD (eC (.str "a")) (eVar 0) (eC (.str "z")))))))
def zhx:DF:=runF 1 zyq
def z0o:DF:=lenF 1 zhx
theorem z17 (T:Tx K mg):∃fd,FunD K "is_name" "is_name" (defArgs zje) (defBody zje) (defScope zje) [] [] (He.ga K "is_name") fd∧FnG P w K mg base 2 (He.ga K "is_name") fd ["thing"] (spD K 1 zhx):=by
 obtain⟨fd,Fn⟩:=T.zsbb
 exact⟨fd,Fn,fn_D (N:=zmx) (ps:=["thing"]) (k:=1) (g:=zyq) Fn zl7 (fun cdv A outer s H E hr=>by
  have tk:L2N.Takes (cxOf (L2N.CX P w) P w K mg base zmx "is_name" (defScope zje) (He.ga K "is_name") cdv A outer s H E) (fun c d _ H=>E c d H):=L2N.takes_of rfl rfl rfl rfl
  exact (zl (zo ((z7t (zsj (by rfl) T.zmb (zf (pv 0)) (pe_bltn (v:=.ty "str") (by rfl) T.b_str (by decide +kernel) rfl) (.ty "str") T.zoe) (z7t (zgs (zz hr.units) (z6d (k:=0) (t:=[]) tk (fun _ z=>nomatch z) (rmo hr) (by rfl) T.b_len (ze (zf (pv 0)) zg)) (zk) (nomark _)) (zkz (z20 zsn zsn bl_le (zn) (zf (pv 0)) (zn)))))))))⟩
theorem zfz (T:Tx K mg):FnD P w K mg base 2 (He.ga K "is_name") z0o:=by
 obtain⟨fd,Fn,Fg⟩:=z17 (P:=P) (w:=w) (base:=base) T
 exact z7 Fg (Fn.bindsN fun _ _ _ _ _ _ us hl=>match us,hl with |[_],_=>rfl)
abbrev zncb:List Str:=["name"]
theorem zagb:FnScope zncb ["name"] (defScope zdj):=⟨rfl,rfl,rfl,by decide +kernel,rfl,by decide +kernel,by decide +kernel⟩
def zz0:DS:=
    (sSeq (sIf (bNot (bT (eFn z0o (aCons (eVar 0) aNil)))) (ztg "BadName" "value" 12 (eVar 0)) sNext)
    (sRet (eMkK "Program" 1 z9 (eC (.cls "Program")) (aCons (eC (.str "hole")) (aCons (eTup (aNil)) aNil)) (aCons (eVar 0) aNil))))
def zlcb:DF:=runF 1 zz0
def za7:DF:=lenF 1 zlcb
theorem zrhb (T:Tx K mg):∃fd,FunD K "hole" "hole" (defArgs zdj) (defBody zdj) (defScope zdj) [] [] (He.ga K "hole") fd∧FnG P w K mg base 7 (He.ga K "hole") fd ["name"] (spD K 1 zlcb):=by
 obtain⟨fd,Fn⟩:=T.z1kb
 exact⟨fd,Fn,fn_D (N:=zncb) (ps:=["name"]) (k:=6) (g:=zz0) Fn zagb (fun cdv A outer s H E hr=>by
  have tk:L2N.Takes (cxOf (L2N.CX P w) P w K mg base zncb "hole" (defScope zdj) (He.ga K "hole") cdv A outer s H E) (fun c d _ H=>E c d H):=L2N.takes_of rfl rfl rfl rfl
  exact (zj (ds_if (zhh (zqe (de_fn tk (zfz T) (rmo hr) (by rfl) T.zf2 T.z71 (ze (zf (pv 0)) zg)))) (zl (zbf rfl tk T.zco (zdp T).choose_spec.1 (zdp T).choose_spec.2 (rmo hr) (by rfl) T.zl2 (zf (pv 0)))) zjb)
  (zl (zo (zlz (C:="Program") tk T.zkf (zlf T) (rmo hr) (zih (C:="Program") (by rfl) T.z3e) (ze (zn) (ze (zbb (zg)) zg)) (zwq (zf (pv 0)) zvw))))))⟩
theorem zthb (T:Tx K mg):FnD P w K mg base 7 (He.ga K "hole") za7:=by
 obtain⟨fd,Fn,Fg⟩:=zrhb (P:=P) (w:=w) (base:=base) T
 exact z7 Fg (Fn.bindsN fun _ _ _ _ _ _ us hl=>match us,hl with |[_],_=>rfl)
abbrev zfr:List Str:=["program", "parts", "member"]
theorem zck:FnScope zfr ["program"] (defScope zse):=⟨rfl,rfl,rfl,by decide +kernel,rfl,by decide +kernel,by decide +kernel⟩
def z5i (zzd:DF):DS:=(sAsg (eOp addD (eVar 1) (eFn zzd (aCons (eVar 2) aNil))) (gNm 1))
def zmm (zzd:DF):DS:=
    (sSeq (sAsg (eLst (aCons (eVar 0) aNil)) (gNm 1))
    (sSeq (sFor (iSeq (eFld ["Program"] "members" (eVar 0))) (gNm 2) (z5i zzd))
    (sRet (eVar 1))))
def ztf:Nat→DF
 | 0=>fun _ _=>.no
 |n+1=>lenF 1 (runF 3 (zmm (ztf n)))
theorem z6r (T:Tx K mg):∀n:Nat,FnD P w K mg base (2+3*n) (He.ga K "all_parts") (ztf n)
 | 0=>zn6
 |n+1=>by
  have ih:=z6r T n
  obtain⟨fd,Fn⟩:=T.zg5
  exact z7 (fn_D (N:=zfr) (ps:=["program"]) (k:=2+3*n+2) (g:=zmm (ztf n)) Fn zck (fun cdv A outer s H E hr=>by
  have tk:L2N.Takes (cxOf (L2N.CX P w) P w K mg base zfr "all_parts" (defScope zse) (He.ga K "all_parts") cdv A outer s H E) (fun c d _ H=>E c d H):=L2N.takes_of rfl rfl rfl rfl
  exact (zj (z4 (znf (ze (zf (pv 0)) zg)) (dgn 1 zck.nd))
  (zj (zpj (passes_of rfl) rfl (z2f (zrd (Cs:=["Program"]) T.z9n (zf (pv 0)))) (dgn 2 zck.nd) (zl (z4 (de_op z5 (zf (pv 1)) (de_fn tk ih (hr.mono (by omega)) (by rfl) T.zmj T.zkj (ze (zf (pv 2)) zg))) (dgn 1 zck.nd))))
  (zl (zo (zf (pv 1)))))))) (Fn.bindsN fun _ _ _ _ _ _ us hl=>match us,hl with |[_],_=>rfl)
def zzd:DF:=ztf 24
theorem zhk (T:Tx K mg):FnD P w K mg base 74 (He.ga K "all_parts") zzd:=(z6r (P:=P) (w:=w) (base:=base) T 24)
abbrev zvm:List Str:=["program", "part"]
theorem zln:FnScope zvm ["program"] (defScope z5c):=⟨rfl,rfl,rfl,by decide +kernel,rfl,by decide +kernel,by decide +kernel⟩
def znl:DT:=(bT (eOp eqD (eFld ["Program"] "word" (eVar 1)) (eC (.str "hole"))))
def zpl:DE:=(eFld ["Program"] "name" (eVar 1))
def zjm:DS:=
    (sRet (eLc (iSeq (eFn zzd (aCons (eVar 0) aNil))) (gNm 1) znl zpl [1]))
def z7q:DF:=runF 2 zjm
def z7j:DF:=lenF 1 z7q
theorem zq2 (T:Tx K mg):∃fd,FunD K "name_list" "name_list" (defArgs z5c) (defBody z5c) (defScope z5c) [] [] (He.ga K "name_list") fd∧FnG P w K mg base 75 (He.ga K "name_list") fd ["program"] (spD K 1 z7q):=by
 obtain⟨fd,Fn⟩:=T.zb5
 exact⟨fd,Fn,fn_D (N:=zvm) (ps:=["program"]) (k:=74) (g:=zjm) Fn zln (fun cdv A outer s H E hr=>by
  have tk:L2N.Takes (cxOf (L2N.CX P w) P w K mg base zvm "name_list" (defScope z5c) (He.ga K "name_list") cdv A outer s H E) (fun c d _ H=>E c d H):=L2N.takes_of rfl rfl rfl rfl
  exact (zl (zo (de_lc (own:=[("part",1)]) rfl zln.nd (z2f (de_fn tk (zhk T) (rmo hr) (by rfl) T.zmj T.zkj (ze (zf (pv 0)) zg))) (blkOk_by (N:=zvm) (sc:=defScope z5c) (own:=[("part",1)]) (by decide +kernel)) (fun _ _ _ _ _=>(dgn 1 zln.nd)) (fun _ _ _ _ _=>zuq (zr (zz hr.units) (zrd (Cs:=["Program"]) T.z5t (zf (pv 1))) (zn) (nomark _) bl_eq)) (fun _ _ _ _ _=>(zrd (Cs:=["Program"]) T.zq6 (zf (pv 1)))) (by decide)))))⟩
theorem z4t (T:Tx K mg):FnD P w K mg base 75 (He.ga K "name_list") z7j:=by
 obtain⟨fd,Fn,Fg⟩:=zq2 (P:=P) (w:=w) (base:=base) T
 exact z7 Fg (Fn.bindsN fun _ _ _ _ _ _ us hl=>match us,hl with |[_],_=>rfl)
abbrev z4i:List Str:=["self", "found", "part"]
theorem zuk:FnScope z4i ["self"] (defScope zac):=⟨rfl,rfl,rfl,by decide +kernel,rfl,by decide +kernel,by decide +kernel⟩
def zri:DT:=(bT (eOp eqD (eFld ["Program"] "word" (eVar 2)) (eC (.str "each"))))
def zsi:DE:=(eFld ["Program"] "name" (eVar 2))
def zch:DS:=
    (sSeq (sAsg (eLc (iSeq (eFn zzd (aCons (eVar 0) aNil))) (gNm 2) zri zsi [2]) (gNm 1))
    (sRet (eIf (bT (eVar 1)) (eIx [] (eVar 1) (eC (.int 0))) (eC .non))))
def z2i:DF:=runF 3 zch
def z0f:DF:=lenF 1 z2i
theorem z9x (T:Tx K mg):∃fd,FunD K "row" "Program.row" (defArgs zac) (defBody zac) (defScope zac) [] [] (He5.wf K (He.ga K "Program") "property" "row") fd∧FnG P w K mg base 75 (He5.wf K (He.ga K "Program") "property" "row") fd ["self"] (spD K 1 z2i):=by
 obtain⟨fd,Fn⟩:=T.z60
 exact⟨fd,Fn,fn_D (N:=z4i) (ps:=["self"]) (k:=74) (g:=zch) Fn zuk (fun cdv A outer s H E hr=>by
  have tk:L2N.Takes (cxOf (L2N.CX P w) P w K mg base z4i "Program.row" (defScope zac) (He5.wf K (He.ga K "Program") "property" "row") cdv A outer s H E) (fun c d _ H=>E c d H):=L2N.takes_of rfl rfl rfl rfl
  exact (zj (z2u (i:=1) (own:=[("part",2)]) rfl zuk.nd rfl rfl (sw_true rfl rfl rfl (by decide +kernel)) (z2f (de_fn tk (zhk T) (rmo hr) (by rfl) T.zmj T.zkj (ze (zf (pv 0)) zg))) (blkOk_by (N:=z4i) (sc:=defScope zac) (own:=[("part",2)]) (by decide +kernel)) (fun _ _ _ _ _=>(dgn 2 zuk.nd)) (fun _ _ _ _ _=>zuq (zr (zz hr.units) (zrd (Cs:=["Program"]) T.z5t (zf (pv 2))) (zn) (nomark _) bl_eq)) (fun _ _ _ _ _=>(zrd (Cs:=["Program"]) T.zq6 (zf (pv 2)))) (by decide))
  (zl (zo (de_if (zqe (zf (pv 1))) (de_ix (k:=0) (t:=[]) tk (fun _ z=>nomatch z) (rmo hr) (zf (pv 1)) (zk) (fun _ _=>rfl) (fun _ _=>by with_unfolding_all rfl)) (zen))))))⟩
theorem zcy (T:Tx K mg):FnD P w K mg base 75 (He5.wf K (He.ga K "Program") "property" "row") z0f:=by
 obtain⟨fd,Fn,Fg⟩:=z9x (P:=P) (w:=w) (base:=base) T
 exact z7 Fg (Fn.bindsN fun _ _ _ _ _ _ us hl=>match us,hl with |[_],_=>rfl)
abbrev ztm:List Str:=["program", "part"]
theorem zkn:FnScope ztm ["program"] (defScope z4c):=⟨rfl,rfl,rfl,by decide +kernel,rfl,by decide +kernel,by decide +kernel⟩
def zml:DT:=(bT (eOp inTD (eFld ["Program"] "word" (eVar 1)) (eTup (aCons (eC (.str "hole")) (aCons (eC (.str "each")) aNil)))))
def zol:DE:=(eVar 1)
def zim:DS:=
    (sRet (eLen [] (aCons (eLc (iSeq (eFn zzd (aCons (eVar 0) aNil))) (gNm 1) zml zol [1]) aNil)))
def z6q:DF:=runF 2 zim
def zzm:DF:=lenF 1 z6q
theorem zo2 (T:Tx K mg):∃fd,FunD K "weight_of" "weight_of" (defArgs z4c) (defBody z4c) (defScope z4c) [] [] (He.ga K "weight_of") fd∧FnG P w K mg base 75 (He.ga K "weight_of") fd ["program"] (spD K 1 z6q):=by
 obtain⟨fd,Fn⟩:=T.z94
 exact⟨fd,Fn,fn_D (N:=ztm) (ps:=["program"]) (k:=74) (g:=zim) Fn zkn (fun cdv A outer s H E hr=>by
  have tk:L2N.Takes (cxOf (L2N.CX P w) P w K mg base ztm "weight_of" (defScope z4c) (He.ga K "weight_of") cdv A outer s H E) (fun c d _ H=>E c d H):=L2N.takes_of rfl rfl rfl rfl
  exact (zl (zo (z6d (k:=0) (t:=[]) tk (fun _ z=>nomatch z) (rmo hr) (by rfl) T.b_len (ze (de_lc (own:=[("part",1)]) rfl zkn.nd (z2f (de_fn tk (zhk T) (rmo hr) (by rfl) T.zmj T.zkj (ze (zf (pv 0)) zg))) (blkOk_by (N:=ztm) (sc:=defScope z4c) (own:=[("part",1)]) (by decide +kernel)) (fun _ _ _ _ _=>(dgn 1 zkn.nd)) (fun _ _ _ _ _=>zuq (zr zzu (zrd (Cs:=["Program"]) T.z5t (zf (pv 1))) (zbb (ze (zn) (ze (zn) zg))) (by rfl) z56)) (fun _ _ _ _ _=>(zf (pv 1))) (by decide)) zg)))))⟩
theorem zz2 (T:Tx K mg):FnD P w K mg base 75 (He.ga K "weight_of") zzm:=by
 obtain⟨fd,Fn,Fg⟩:=zo2 (P:=P) (w:=w) (base:=base) T
 exact z7 Fg (Fn.bindsN fun _ _ _ _ _ _ us hl=>match us,hl with |[_],_=>rfl)
abbrev zxs:List Str:=["program", "names", "doubles", "at", "name"]
theorem zrl:FnScope zxs ["program"] (defScope z2d):=⟨rfl,rfl,rfl,by decide +kernel,rfl,by decide +kernel,by decide +kernel⟩
def zii:DT:=((bAnd (bT (eOp gtD (eVar 3) (eC (.int 0)))) (bT (eOp eqD (eIx [] (eVar 1) (eOp subD (eVar 3) (eC (.int 1)))) (eVar 4)))))
def z1o:DE:=(eVar 4)
def z0q:DS:=
    (sSeq (sAsg (eB zam (aCons (eFn z7j (aCons (eVar 0) aNil)) aNil)) (gNm 1))
    (sSeq (sAsg (eLc (iEnu (aCons (eVar 1) aNil)) (gTp 2 (zfe (gNm 3) (zfe (gNm 4) gNil_))) zii z1o [3,4]) (gNm 2))
    (sSeq (sIf (bT (eVar 2)) (ztg "Twice" "name" 26 (eIx [] (eVar 2) (eC (.int 0)))) sNext)
    (sSeq (sIf (bT (eOp gtD (eFn zzm (aCons (eVar 0) aNil)) (eC (.int 3)))) (ztg "TooMany" "limit" 19 (eC (.int 3))) sNext)
    (sSeq (sIf (bT (eOp gtD (eFld ["Program"] "size" (eVar 0)) (eC (.int 16)))) (ztg "TooMany" "limit" 19 (eC (.int 16))) sNext)
    (sRet (eVar 0)))))))
def zkx:DF:=runF 5 z0q
def zeh:DF:=lenF 1 zkx
theorem z47 (T:Tx K mg):∃fd,FunD K "checked" "checked" (defArgs z2d) (defBody z2d) (defScope z2d) [] [] (He.ga K "checked") fd∧FnG P w K mg base 76 (He.ga K "checked") fd ["program"] (spD K 1 zkx):=by
 obtain⟨fd,Fn⟩:=T.zvbb
 exact⟨fd,Fn,fn_D (N:=zxs) (ps:=["program"]) (k:=75) (g:=z0q) Fn zrl (fun cdv A outer s H E hr=>by
  have tk:L2N.Takes (cxOf (L2N.CX P w) P w K mg base zxs "checked" (defScope z2d) (He.ga K "checked") cdv A outer s H E) (fun c d _ H=>E c d H):=L2N.takes_of rfl rfl rfl rfl
  exact (zj (z4 (zkk zqm (by rfl) T.za1 (by decide +kernel) (ze (de_fn tk (z4t T) (rmo hr) (by rfl) T.zaw T.z3v (ze (zf (pv 0)) zg)) zg)) (zx0 (pg_name (i:=1) zrl.nd rfl (Or.inr rfl))))
  (zj (z2u (i:=2) (own:=[("at",3),("name",4)]) rfl zrl.nd rfl rfl (sw_true rfl rfl rfl (by decide +kernel)) (z54 (by rfl) T.z5q (ze (zf (pv 1)) zg)) (blkOk_by (N:=zxs) (sc:=defScope z2d) (own:=[("at",3),("name",4)]) (by decide +kernel)) (fun _ _ _ _ _=>(zc3 rfl (zeg (dgn 3 zrl.nd) (zeg (dgn 4 zrl.nd) zww)))) (fun _ _ _ _ _=>zuq (PW.pt (zjz (zr zgq (zf (pv 3)) (zk) (nomark _) bl_gt) (zsw (zr (zz hr.units) (de_ix (k:=0) (t:=[]) zcj (fun _ z=>nomatch z) (rmo hr) (zf (pv 1)) (de_op ztr (zf (pv 3)) (zk)) (fun _ _=>rfl) (fun _ _=>by with_unfolding_all rfl)) (zf (pv 4)) (nomark _) bl_eq))))) (fun _ _ _ _ _=>(zf (pv 4))) (by decide))
  (zj (ds_if (zqe (zf (pv 2))) (zl (zbf rfl tk T.zv0 (zu6 T).choose_spec.1 (zu6 T).choose_spec.2 (rmo hr) (by rfl) T.zlhb (de_ix (k:=0) (t:=[]) tk (fun _ z=>nomatch z) (rmo hr) (zf (pv 2)) (zk) (fun _ _=>rfl) (fun _ _=>by with_unfolding_all rfl)))) zjb)
  (zj (ds_if (zr zgq (de_fn tk (zz2 T) (rmo hr) (by rfl) T.zm4 T.z93 (ze (zf (pv 0)) zg)) (z9k (i:=3) (by rfl) T.z1r) (nomark _) bl_gt) (zl (ztw zu0 rfl tk T.zbo (zcp T).choose_spec.1 (zcp T).choose_spec.2 (rmo hr) (by rfl) T.zi2 (z9k (i:=3) (by rfl) T.z1r))) zjb)
  (zj (ds_if (zr zgq (zrd (Cs:=["Program"]) T.zp6 (zf (pv 0))) (z9k (i:=16) (by rfl) T.z1n) (nomark _) bl_gt) (zl (ztw zu0 rfl tk T.zbo (zcp T).choose_spec.1 (zcp T).choose_spec.2 (rmo hr) (by rfl) T.zi2 (z9k (i:=16) (by rfl) T.z1n))) zjb)
  (zl (zo (zf (pv 0))))))))))⟩
theorem z9i (T:Tx K mg):FnD P w K mg base 76 (He.ga K "checked") zeh:=by
 obtain⟨fd,Fn,Fg⟩:=z47 (P:=P) (w:=w) (base:=base) T
 exact z7 Fg (Fn.bindsN fun _ _ _ _ _ _ us hl=>match us,hl with |[_],_=>rfl)
abbrev zocb:List Str:=["name", "program"]
theorem zbgb:FnScope zocb ["name", "program"] (defScope zej):=⟨rfl,rfl,rfl,by decide +kernel,rfl,by decide +kernel,by decide +kernel⟩
def z00:DS:=
    (sSeq (sIf (bNot (bT (eFn z0o (aCons (eVar 0) aNil)))) (ztg "BadName" "value" 12 (eVar 0)) sNext)
    (sSeq (sIf ((bOr (bT (eOp neD (eFn z7j (aCons (eVar 1) aNil)) (eLst (aCons (eVar 0) aNil)))) (bT (eOp ztn (eProp "Program" z0f (eVar 1)) (eC .non))))) (ztg "BadEach" "name" 31 (eVar 0)) sNext)
    (sRet (eFn zeh (aCons (eMkK "Program" 1 z9 (eC (.cls "Program")) (aCons (eC (.str "each")) (aCons (eTup (aCons (eVar 1) aNil)) aNil)) (aCons (eVar 0) aNil)) aNil)))))
def zmcb:DF:=runF 2 z00
def zb7:DF:=lenF 2 zmcb
theorem zshb (T:Tx K mg):∃fd,FunD K "each" "each" (defArgs zej) (defBody zej) (defScope zej) [] [] (He.ga K "each") fd∧FnG P w K mg base 77 (He.ga K "each") fd ["name", "program"] (spD K 2 zmcb):=by
 obtain⟨fd,Fn⟩:=T.z2kb
 exact⟨fd,Fn,fn_D (N:=zocb) (ps:=["name", "program"]) (k:=76) (g:=z00) Fn zbgb (fun cdv A outer s H E hr=>by
  have tk:L2N.Takes (cxOf (L2N.CX P w) P w K mg base zocb "each" (defScope zej) (He.ga K "each") cdv A outer s H E) (fun c d _ H=>E c d H):=L2N.takes_of rfl rfl rfl rfl
  exact (zj (ds_if (zhh (zqe (de_fn tk (zfz T) (rmo hr) (by rfl) T.zf2 T.z71 (ze (zf (pv 0)) zg)))) (zl (zbf rfl tk T.zco (zdp T).choose_spec.1 (zdp T).choose_spec.2 (rmo hr) (by rfl) T.zl2 (zf (pv 0)))) zjb)
  (zj (ds_if (PW.pt (dw_or (zr (zrn hr.units) (de_fn tk (z4t T) (rmo hr) (by rfl) T.zaw T.z3v (ze (zf (pv 1)) zg)) (znf (ze (zf (pv 0)) zg)) (nomark _) bl_ne) (zbn (zr z4s (zlbb (C:="Program") T.z3l T.z7z (zcy T) (rmo hr) (zf (pv 1))) (zen) (nomark _) z90)))) (zl (zbf rfl tk T.zcs (ziz T).choose_spec.1 (ziz T).choose_spec.2 (rmo hr) (by rfl) T.z3ab (zf (pv 0)))) zjb)
  (zl (zo (de_fn tk (z9i T) (rmo hr) (by rfl) T.zwl T.zvl (ze (zlz (C:="Program") tk T.zkf (zlf T) (rmo hr) (zih (C:="Program") (by rfl) T.z3e) (ze (zn) (ze (zbb (ze (zf (pv 1)) zg)) zg)) (zwq (zf (pv 0)) zvw)) zg)))))))⟩
theorem zuhb (T:Tx K mg):FnD P w K mg base 77 (He.ga K "each") zb7:=by
 obtain⟨fd,Fn,Fg⟩:=zshb (P:=P) (w:=w) (base:=base) T
 exact z7 Fg (Fn.bindsN fun _ _ _ _ _ _ us hl=>match us,hl with |[_,_],_=>rfl)
abbrev zbr:List Str:=["thing"]
theorem zr1:FnScope zbr ["thing"] (defScope zdd):=⟨rfl,rfl,rfl,by decide +kernel,rfl,by decide +kernel,by decide +kernel⟩
def zes:DS:=
    (sSeq (sIf (bT (eIsi (isfT zbi) (eVar 0))) (sRet (eB listD (aCons (eFld ["Block"] "rows" (eVar 0)) aNil))) sNext)
    (sRet (eB listD (aCons (eFld ["Block"] "rows" (eCm "Block" true zxg (eC (.cls "Block")) (aCons (eVar 0) aNil))) aNil))))
def zgx:DF:=runF 1 zes
def zqx:DF:=lenF 1 zgx
theorem zp2 (T:Tx K mg):∃fd,FunD K "rows_from" "rows_from" (defArgs zdd) (defBody zdd) (defScope zdd) [] [] (He.ga K "rows_from") fd∧FnG P w K mg base 6 (He.ga K "rows_from") fd ["thing"] (spD K 1 zgx):=by
 obtain⟨fd,Fn⟩:=T.za5
 exact⟨fd,Fn,fn_D (N:=zbr) (ps:=["thing"]) (k:=5) (g:=zes) Fn zr1 (fun cdv A outer s H E hr=>by
  have tk:L2N.Takes (cxOf (L2N.CX P w) P w K mg base zbr "rows_from" (defScope zdd) (He.ga K "rows_from") cdv A outer s H E) (fun c d _ H=>E c d H):=L2N.takes_of rfl rfl rfl rfl
  exact (zj (ds_if (zqe (zsj (by rfl) T.zmb (zf (pv 0)) (pe_glob (v:=.ref (He.ga K "Block")) (by rfl) T.zzk rfl) (.own (He.ga K "Block")) T.zbi)) (zl (zo (zvc ztj (by rfl) T.zpz (by decide +kernel) (ze (zrd (Cs:=["Block"]) T.zan (zf (pv 0))) zg)))) zjb)
  (zl (zo (zvc ztj (by rfl) T.zpz (by decide +kernel) (ze (zrd (Cs:=["Block"]) T.zan (z10 (C:="Block") tk T.z3z T.zom (zgm T) (rmo hr) (zih (C:="Block") (by rfl) T.zzk) (ze (zf (pv 0)) zg))) zg))))))⟩
theorem z02 (T:Tx K mg):FnD P w K mg base 6 (He.ga K "rows_from") zqx:=by
 obtain⟨fd,Fn,Fg⟩:=zp2 (P:=P) (w:=w) (base:=base) T
 exact z7 Fg (Fn.bindsN fun _ _ _ _ _ _ us hl=>match us,hl with |[_],_=>rfl)
abbrev z6j:List Str:=["self", "other", "rows"]
theorem z7m:FnScope z6j ["self", "other"] (defScope zyb):=⟨rfl,rfl,rfl,by decide +kernel,rfl,by decide +kernel,by decide +kernel⟩
def z2l:DS:=
    (sSeq (sIf (bNot (bT (eIsi (isfT z6g) (eVar 1)))) (z5eb) sNext)
    (sSeq (sAsg (eOp addD (eFld ["Block"] "rows" (eVar 0)) (eFn zqx (aCons (eVar 1) aNil))) (gNm 2))
    (sRet (eMk "Block" zdc (eC (.cls "Block")) (z8t (eVar 2))))))
def zso:DF:=runF 3 z2l
def zrf:DF:=lenF 2 zso
theorem zju (T:Tx K mg):∃fd,FunD K "__add__" "Block.__add__" (defArgs zyb) (defBody zyb) (defScope zyb) [] [] (He.ma K (He.ga K "Block") "__add__") fd∧FnG P w K mg base 7 (He.ma K (He.ga K "Block") "__add__") fd ["self", "other"] (spD K 2 zso):=by
 obtain⟨fd,Fn⟩:=T.z6w
 exact⟨fd,Fn,fn_D (N:=z6j) (ps:=["self", "other"]) (k:=6) (g:=z2l) Fn z7m (fun cdv A outer s H E hr=>by
  have tk:L2N.Takes (cxOf (L2N.CX P w) P w K mg base z6j "Block.__add__" (defScope zyb) (He.ma K (He.ga K "Block") "__add__") cdv A outer s H E) (fun c d _ H=>E c d H):=L2N.takes_of rfl rfl rfl rfl
  exact (zj (ds_if (zhh (zqe (z4hb (by rfl) T.zmb (zf (pv 1)) (pe_glob (v:=.ref (He.ga K "Block")) (by rfl) T.zzk rfl) (pe_bltn (v:=.ty "str") (by rfl) T.b_str (by decide +kernel) rfl) (.own (He.ga K "Block")) (.ty "str") T.z6g))) (zl (zfeb)) zjb)
  (zj (z4 (de_op z5 (zrd (Cs:=["Block"]) T.zan (zf (pv 0))) (de_fn tk (z02 T) (rmo hr) (by rfl) T.zn4 T.za4 (ze (zf (pv 1)) zg))) (dgn 2 z7m.nd))
  (zl (zo (zf3 (C:="Block") tk T.z0v (zpe T) (rmo hr) (zih (C:="Block") (by rfl) T.zzk) (zf (pv 2))))))))⟩
theorem zqu (T:Tx K mg):FnD P w K mg base 7 (He.ma K (He.ga K "Block") "__add__") zrf:=by
 obtain⟨fd,Fn,Fg⟩:=zju (P:=P) (w:=w) (base:=base) T
 exact z7 Fg (Fn.bindsN fun _ _ _ _ _ _ us hl=>match us,hl with |[_,_],_=>rfl)
abbrev zum:List Str:=["program"]
theorem zsx:FnScope zum ["program"] (defScope zkc):=⟨rfl,rfl,rfl,by decide +kernel,rfl,by decide +kernel,by decide +kernel⟩
def z8g:DS:=
    (sSeq (sIf (bT (eOp eqD (eFld ["Program"] "word" (eVar 0)) (eC (.str "sum")))) (sRet (eFld ["Program"] "members" (eVar 0))) sNext)
    (sRet (eTup (aCons (eVar 0) aNil))))
def z0i:DF:=runF 1 z8g
def zsd:DF:=lenF 1 z0i
theorem z6x (T:Tx K mg):∃fd,FunD K "sum_members" "sum_members" (defArgs zkc) (defBody zkc) (defScope zkc) [] [] (He.ga K "sum_members") fd∧FnG P w K mg base 1 (He.ga K "sum_members") fd ["program"] (spD K 1 z0i):=by
 obtain⟨fd,Fn⟩:=T.z30
 exact⟨fd,Fn,fn_D (N:=zum) (ps:=["program"]) (k:=0) (g:=z8g) Fn zsx (fun cdv A outer s H E hr=>by
  have tk:L2N.Takes (cxOf (L2N.CX P w) P w K mg base zum "sum_members" (defScope zkc) (He.ga K "sum_members") cdv A outer s H E) (fun c d _ H=>E c d H):=L2N.takes_of rfl rfl rfl rfl
  exact (zj (ds_if (zr (zz hr.units) (zrd (Cs:=["Program"]) T.z5t (zf (pv 0))) (zn) (nomark _) bl_eq) (zl (zo (zrd (Cs:=["Program"]) T.z9n (zf (pv 0))))) zjb)
  (zl (zo (zbb (ze (zf (pv 0)) zg))))))⟩
theorem z2k (T:Tx K mg):FnD P w K mg base 1 (He.ga K "sum_members") zsd:=by
 obtain⟨fd,Fn,Fg⟩:=z6x (P:=P) (w:=w) (base:=base) T
 exact z7 Fg (Fn.bindsN fun _ _ _ _ _ _ us hl=>match us,hl with |[_],_=>rfl)
abbrev zd1:List Str:=["one", "other"]
theorem zh9:FnScope zd1 ["one", "other"] (defScope zgf):=⟨rfl,rfl,rfl,by decide +kernel,rfl,by decide +kernel,by decide +kernel⟩
def zdt:DS:=
    (sRet (eFn zeh (aCons (eMk "Program" zw (eC (.cls "Program")) (aCons (eC (.str "sum")) (aCons (eOp addD (eFn zsd (aCons (eVar 0) aNil)) (eFn zsd (aCons (eVar 1) aNil))) aNil))) aNil)))
def zc1:DF:=runF 2 zdt
def z6u:DF:=lenF 2 zc1
theorem z9ab (T:Tx K mg):∃fd,FunD K "summed" "summed" (defArgs zgf) (defBody zgf) (defScope zgf) [] [] (He.ga K "summed") fd∧FnG P w K mg base 77 (He.ga K "summed") fd ["one", "other"] (spD K 2 zc1):=by
 obtain⟨fd,Fn⟩:=T.zleb
 exact⟨fd,Fn,fn_D (N:=zd1) (ps:=["one", "other"]) (k:=76) (g:=zdt) Fn zh9 (fun cdv A outer s H E hr=>by
  have tk:L2N.Takes (cxOf (L2N.CX P w) P w K mg base zd1 "summed" (defScope zgf) (He.ga K "summed") cdv A outer s H E) (fun c d _ H=>E c d H):=L2N.takes_of rfl rfl rfl rfl
  exact (zl (zo (de_fn tk (z9i T) (rmo hr) (by rfl) T.zwl T.zvl (ze (de_mk (C:="Program") tk T.zkf (FnK.pos (z1d T)) (rmo hr) (zih (C:="Program") (by rfl) T.z3e) (ze (zn) (ze (de_op z5 (de_fn tk (z2k T) (rmo hr) (by rfl) T.zfm T.zem (ze (zf (pv 0)) zg)) (de_fn tk (z2k T) (rmo hr) (by rfl) T.zfm T.zem (ze (zf (pv 1)) zg))) zg))) zg)))))⟩
theorem zcbb (T:Tx K mg):FnD P w K mg base 77 (He.ga K "summed") z6u:=by
 obtain⟨fd,Fn,Fg⟩:=z9ab (P:=P) (w:=w) (base:=base) T
 exact z7 Fg (Fn.bindsN fun _ _ _ _ _ _ us hl=>match us,hl with |[_,_],_=>rfl)
abbrev zgl:List Str:=["thing"]
theorem zkv:FnScope zgl ["thing"] (defScope z1b):=⟨rfl,rfl,rfl,by decide +kernel,rfl,by decide +kernel,by decide +kernel⟩
def zmi:DS:=
    (sSeq (sIf (bT (eIsi (isfT zjh) (eVar 0))) (sRet (eVar 0)) sNext)
    (sRet (eFn zpt (aCons (eVar 0) aNil))))
def zbl:DF:=runF 1 zmi
def z5h:DF:=lenF 1 zbl
theorem zcw (T:Tx K mg):∃fd,FunD K "program_from" "program_from" (defArgs z1b) (defBody z1b) (defScope z1b) [] [] (He.ga K "program_from") fd∧FnG P w K mg base 8 (He.ga K "program_from") fd ["thing"] (spD K 1 zbl):=by
 obtain⟨fd,Fn⟩:=T.zfy
 exact⟨fd,Fn,fn_D (N:=zgl) (ps:=["thing"]) (k:=7) (g:=zmi) Fn zkv (fun cdv A outer s H E hr=>by
  have tk:L2N.Takes (cxOf (L2N.CX P w) P w K mg base zgl "program_from" (defScope z1b) (He.ga K "program_from") cdv A outer s H E) (fun c d _ H=>E c d H):=L2N.takes_of rfl rfl rfl rfl
  exact (zj (ds_if (zqe (zsj (by rfl) T.zmb (zf (pv 0)) (pe_glob (v:=.ref (He.ga K "Program")) (by rfl) T.z3e rfl) (.own (He.ga K "Program")) T.zjh)) (zl (zo (zf (pv 0)))) zjb)
  (zl (zo (de_fn tk (zo6 T) (rmo hr) (by rfl) T.zzab T.zqab (ze (zf (pv 0)) zg))))))⟩
theorem zkw (T:Tx K mg):FnD P w K mg base 8 (He.ga K "program_from") z5h:=by
 obtain⟨fd,Fn,Fg⟩:=zcw (P:=P) (w:=w) (base:=base) T
 exact z7 Fg (Fn.bindsN fun _ _ _ _ _ _ us hl=>match us,hl with |[_],_=>rfl)
abbrev zsh:List Str:=["self", "other"]
theorem zor:FnScope zsh ["self", "other"] (defScope zeb):=⟨rfl,rfl,rfl,by decide +kernel,rfl,by decide +kernel,by decide +kernel⟩
def zmg:DS:=
    (sRet (eFn z6u (aCons (eVar 0) (aCons (eFn z5h (aCons (eVar 1) aNil)) aNil))))
def zqh:DF:=runF 2 zmg
def zwc:DF:=lenF 2 zqh
theorem z5r (T:Tx K mg):∃fd,FunD K "__add__" "Program.__add__" (defArgs zeb) (defBody zeb) (defScope zeb) [] [] (He.ma K (He.ga K "Program") "__add__") fd∧FnG P w K mg base 78 (He.ma K (He.ga K "Program") "__add__") fd ["self", "other"] (spD K 2 zqh):=by
 obtain⟨fd,Fn⟩:=T.zgt
 exact⟨fd,Fn,fn_D (N:=zsh) (ps:=["self", "other"]) (k:=77) (g:=zmg) Fn zor (fun cdv A outer s H E hr=>by
  have tk:L2N.Takes (cxOf (L2N.CX P w) P w K mg base zsh "Program.__add__" (defScope zeb) (He.ma K (He.ga K "Program") "__add__") cdv A outer s H E) (fun c d _ H=>E c d H):=L2N.takes_of rfl rfl rfl rfl
  exact (zl (zo (de_fn tk (zcbb T) (rmo hr) (by rfl) T.zzdb T.zudb (ze (zf (pv 0)) (ze (de_fn tk (zkw T) (rmo hr) (by rfl) T.z2x T.zxx (ze (zf (pv 1)) zg)) zg))))))⟩
theorem z9r (T:Tx K mg):FnD P w K mg base 78 (He.ma K (He.ga K "Program") "__add__") zwc:=by
 obtain⟨fd,Fn,Fg⟩:=z5r (P:=P) (w:=w) (base:=base) T
 exact z7 Fg (Fn.bindsN fun _ _ _ _ _ _ us hl=>match us,hl with |[_,_],_=>rfl)
theorem zo3 (T:Tx K mg) {k:Nat} (hk:78≤k):∀q∈([("Block",zrf),("Program",zwc)]:Tbl),BopM P w K mg base k .Add bopTs q.1 q.2:=
 (zyg (zoz T.zuu ((zqu T).mono (Nat.le_trans (by decide) hk))) (zyg (zoz T.zrs ((z9r T).mono (Nat.le_trans (by decide) hk))) z6p))
abbrev zer:List Str:=["thing"]
theorem zt1:FnScope zer ["thing"] (defScope zgd):=⟨rfl,rfl,rfl,by decide +kernel,rfl,by decide +kernel,by decide +kernel⟩
def zlm:DS:=
    (sRet (eFn zbj (aCons (eVar 0) (aCons (eOp addD (eC (.int 20)) (eC (.int 1))) aNil))))
def z9q:DF:=runF 1 zlm
def zth:DF:=lenF 1 z9q
theorem zt2 (T:Tx K mg):∃fd,FunD K "is_amount" "is_amount" (defArgs zgd) (defBody zgd) (defScope zgd) [] [] (He.ga K "is_amount") fd∧FnG P w K mg base 3 (He.ga K "is_amount") fd ["thing"] (spD K 1 z9q):=by
 obtain⟨fd,Fn⟩:=T.ze5
 exact⟨fd,Fn,fn_D (N:=zer) (ps:=["thing"]) (k:=2) (g:=zlm) Fn zt1 (fun cdv A outer s H E hr=>by
  have tk:L2N.Takes (cxOf (L2N.CX P w) P w K mg base zer "is_amount" (defScope zgd) (He.ga K "is_amount") cdv A outer s H E) (fun c d _ H=>E c d H):=L2N.takes_of rfl rfl rfl rfl
  exact (zl (zo (de_fn tk (znw T) (rmo hr) (by rfl) T.zbz T.z4y (ze (zf (pv 0)) (ze (de_op z5 (z9k (i:=20) (by rfl) T.zh0) (zk)) zg))))))⟩
theorem z5n (T:Tx K mg):FnD P w K mg base 3 (He.ga K "is_amount") zth:=by
 obtain⟨fd,Fn,Fg⟩:=zt2 (P:=P) (w:=w) (base:=base) T
 exact z7 Fg (Fn.bindsN fun _ _ _ _ _ _ us hl=>match us,hl with |[_],_=>rfl)
abbrev zhl:List Str:=["line", "n"]
theorem zlv:FnScope zhl ["line", "n"] (defScope z2b):=⟨rfl,rfl,rfl,by decide +kernel,rfl,by decide +kernel,by decide +kernel⟩
def zcn:DS:=
    (sSeq (sIf (bT (eOp eqD (eVar 0) (eC (.str "")))) (sRet (eVar 0)) sNext)
    (sSeq (sIf (bT (eOp geD (eVar 1) (eC (.int 0)))) (sRet (eOp addD (eOp mulD (eC (.str " ")) (eVar 1)) (eVar 0))) sNext)
    (sRet (eSl (eVar 0) (oSome (eUn negD (eVar 1))) (oNone)))))
def z3p:DF:=runF 2 zcn
def z6h:DF:=lenF 2 z3p
theorem zdw (T:Tx K mg):∃fd,FunD K "moved" "moved" (defArgs z2b) (defBody z2b) (defScope z2b) [] [] (He.ga K "moved_blocks") fd∧FnG P w K mg base 1 (He.ga K "moved_blocks") fd ["line", "n"] (spD K 2 z3p):=by
 obtain⟨fd,Fn⟩:=T.zgy
 exact⟨fd,Fn,fn_D (N:=zhl) (ps:=["line", "n"]) (k:=0) (g:=zcn) Fn zlv (fun cdv A outer s H E hr=>by
  have tk:L2N.Takes (cxOf (L2N.CX P w) P w K mg base zhl "moved" (defScope z2b) (He.ga K "moved_blocks") cdv A outer s H E) (fun c d _ H=>E c d H):=L2N.takes_of rfl rfl rfl rfl
  exact (zj (ds_if (zr (zz hr.units) (zf (pv 0)) (zn) (nomark _) bl_eq) (zl (zo (zf (pv 0)))) zjb)
  (zj (ds_if (zr z39 (zf (pv 1)) (zk) (nomark _) bl_ge) (zl (zo (de_op z5 (de_op zfk (zn) (zf (pv 1))) (zf (pv 0))))) zjb)
  (zl (zo (de_sl (zf (pv 0)) (z34 (de_un z0d (zf (pv 1)))) (z44)))))))⟩
theorem znj (T:Tx K mg):FnD P w K mg base 1 (He.ga K "moved_blocks") z6h:=by
 obtain⟨fd,Fn,Fg⟩:=zdw (P:=P) (w:=w) (base:=base) T
 exact z7 Fg (Fn.bindsN fun _ _ _ _ _ _ us hl=>match us,hl with |[_,_],_=>rfl)
abbrev zef:List Str:=["self", "n", "rows", "line"]
theorem zkg:FnScope zef ["self", "n"] (defScope zx):=⟨rfl,rfl,rfl,by decide +kernel,rfl,by decide +kernel,by decide +kernel⟩
def z2o:DE:=(eFn z6h (aCons (eVar 3) (aCons (eVar 1) aNil)))
def zti:DS:=
    (sSeq (sIf (bNot (bT (eFn zth (aCons (eVar 1) aNil)))) (ztg "BadAmount" "value" 15 (eVar 1)) sNext)
    (sSeq (sAsg (eLc (iSeq (eFld ["Block"] "rows" (eVar 0))) (gNm 3) bYes z2o [3]) (gNm 2))
    (sRet (eMk "Block" zdc (eC (.cls "Block")) (z8t (eVar 2))))))
def zok:DF:=runF 4 zti
def zae:DF:=lenF 2 zok
theorem zqq (T:Tx K mg):∃fd,FunD K "__rshift__" "Block.__rshift__" (defArgs zx) (defBody zx) (defScope zx) [] [] (He.ma K (He.ga K "Block") "__rshift__") fd∧FnG P w K mg base 5 (He.ma K (He.ga K "Block") "__rshift__") fd ["self", "n"] (spD K 2 zok):=by
 obtain⟨fd,Fn⟩:=T.zks
 exact⟨fd,Fn,fn_D (N:=zef) (ps:=["self", "n"]) (k:=4) (g:=zti) Fn zkg (fun cdv A outer s H E hr=>by
  have tk:L2N.Takes (cxOf (L2N.CX P w) P w K mg base zef "Block.__rshift__" (defScope zx) (He.ma K (He.ga K "Block") "__rshift__") cdv A outer s H E) (fun c d _ H=>E c d H):=L2N.takes_of rfl rfl rfl rfl
  exact (zj (ds_if (zhh (zqe (de_fn tk (z5n T) (rmo hr) (by rfl) T.znq T.zkq (ze (zf (pv 1)) zg)))) (zl (zbf rfl tk T.zlh (zvg T).choose_spec.1 (zvg T).choose_spec.2 (rmo hr) (by rfl) T.zoq (zf (pv 1)))) zjb)
  (zj (z2u (i:=2) (own:=[("line",3)]) rfl zkg.nd rfl rfl (sw_true rfl rfl rfl (by decide +kernel)) (z2f (zrd (Cs:=["Block"]) T.zan (zf (pv 0)))) (blkOk_by (N:=zef) (sc:=defScope zx) (own:=[("line",3)]) (by decide +kernel)) (fun _ _ _ _ _=>(dgn 3 zkg.nd)) (fun _ _ _ _ _=>z3k) (fun _ _ _ _ _=>(de_fn zcj (znj T) (rmo hr) (by rfl) T.zyk T.zxk (ze (zf (pv 3)) (ze (zf (pv 1)) zg)))) (by decide))
  (zl (zo (zf3 (C:="Block") tk T.z0v (zpe T) (rmo hr) (zih (C:="Block") (by rfl) T.zzk) (zf (pv 2))))))))⟩
theorem zsq (T:Tx K mg):FnD P w K mg base 5 (He.ma K (He.ga K "Block") "__rshift__") zae:=by
 obtain⟨fd,Fn,Fg⟩:=zqq (P:=P) (w:=w) (base:=base) T
 exact z7 Fg (Fn.bindsN fun _ _ _ _ _ _ us hl=>match us,hl with |[_,_],_=>rfl)
abbrev zlx:List Str:=["program", "word", "n"]
theorem zk7:FnScope zlx ["program", "word", "n"] (defScope zie):=⟨rfl,rfl,rfl,by decide +kernel,rfl,by decide +kernel,by decide +kernel⟩
def zxq:DS:=
    (sSeq (sIf (bNot (bT (eFn zth (aCons (eVar 2) aNil)))) (ztg "BadAmount" "value" 15 (eVar 2)) sNext)
    (sRet (eFn zeh (aCons (eMkK "Program" 1 zgb (eC (.cls "Program")) (aCons (eVar 1) (aCons (eTup (aCons (eVar 0) aNil)) aNil)) (aCons (eVar 2) aNil)) aNil))))
def zfx:DF:=runF 3 zxq
def zpf:DF:=lenF 3 zfx
theorem z07 (T:Tx K mg):∃fd,FunD K "shifted" "shifted" (defArgs zie) (defBody zie) (defScope zie) [] [] (He.ga K "shifted") fd∧FnG P w K mg base 77 (He.ga K "shifted") fd ["program", "word", "n"] (spD K 3 zfx):=by
 obtain⟨fd,Fn⟩:=T.zrbb
 exact⟨fd,Fn,fn_D (N:=zlx) (ps:=["program", "word", "n"]) (k:=76) (g:=zxq) Fn zk7 (fun cdv A outer s H E hr=>by
  have tk:L2N.Takes (cxOf (L2N.CX P w) P w K mg base zlx "shifted" (defScope zie) (He.ga K "shifted") cdv A outer s H E) (fun c d _ H=>E c d H):=L2N.takes_of rfl rfl rfl rfl
  exact (zj (ds_if (zhh (zqe (de_fn tk (z5n T) (rmo hr) (by rfl) T.znq T.zkq (ze (zf (pv 2)) zg)))) (zl (zbf rfl tk T.zlh (zvg T).choose_spec.1 (zvg T).choose_spec.2 (rmo hr) (by rfl) T.zoq (zf (pv 2)))) zjb)
  (zl (zo (de_fn tk (z9i T) (rmo hr) (by rfl) T.zwl T.zvl (ze (zlz (C:="Program") tk T.zkf (z4e T) (rmo hr) (zih (C:="Program") (by rfl) T.z3e) (ze (zf (pv 1)) (ze (zbb (ze (zf (pv 0)) zg)) zg)) (zwq (zf (pv 2)) zvw)) zg))))))⟩
theorem zbp (T:Tx K mg):FnD P w K mg base 77 (He.ga K "shifted") zpf:=by
 obtain⟨fd,Fn,Fg⟩:=z07 (P:=P) (w:=w) (base:=base) T
 exact z7 Fg (Fn.bindsN fun _ _ _ _ _ _ us hl=>match us,hl with |[_,_,_],_=>rfl)
abbrev z5f:List Str:=["self", "n"]
theorem znn:FnScope z5f ["self", "n"] (defScope zt):=⟨rfl,rfl,rfl,by decide +kernel,rfl,by decide +kernel,by decide +kernel⟩
def z8e:DS:=
    (sRet (eFn zpf (aCons (eVar 0) (aCons (eC (.str "in")) (aCons (eVar 1) aNil)))))
def z3f:DF:=runF 2 z8e
def zhc:DF:=lenF 2 z3f
theorem z2n (T:Tx K mg):∃fd,FunD K "__rshift__" "Program.__rshift__" (defArgs zt) (defBody zt) (defScope zt) [] [] (He.ma K (He.ga K "Program") "__rshift__") fd∧FnG P w K mg base 78 (He.ma K (He.ga K "Program") "__rshift__") fd ["self", "n"] (spD K 2 z3f):=by
 obtain⟨fd,Fn⟩:=T.zrp
 exact⟨fd,Fn,fn_D (N:=z5f) (ps:=["self", "n"]) (k:=77) (g:=z8e) Fn znn (fun cdv A outer s H E hr=>by
  have tk:L2N.Takes (cxOf (L2N.CX P w) P w K mg base z5f "Program.__rshift__" (defScope zt) (He.ma K (He.ga K "Program") "__rshift__") cdv A outer s H E) (fun c d _ H=>E c d H):=L2N.takes_of rfl rfl rfl rfl
  exact (zl (zo (de_fn tk (zbp T) (rmo hr) (by rfl) T.zzr T.zvr (ze (zf (pv 0)) (ze (zn) (ze (zf (pv 1)) zg)))))))⟩
theorem z7n (T:Tx K mg):FnD P w K mg base 78 (He.ma K (He.ga K "Program") "__rshift__") zhc:=by
 obtain⟨fd,Fn,Fg⟩:=z2n (P:=P) (w:=w) (base:=base) T
 exact z7 Fg (Fn.bindsN fun _ _ _ _ _ _ us hl=>match us,hl with |[_,_],_=>rfl)
theorem z8w (T:Tx K mg) {k:Nat} (hk:78≤k):∀q∈([("Block",zae),("Program",zhc)]:Tbl),BopM P w K mg base k .RShift bopTs q.1 q.2:=
 (zyg (zoz T.z3q ((zsq T).mono (Nat.le_trans (by decide) hk))) (zyg (zoz T.zio ((z7n T).mono (Nat.le_trans (by decide) hk))) z6p))
abbrev z0j:List Str:=["rows", "n", "at", "line"]
theorem zji:FnScope z0j ["rows", "n"] (defScope zqb):=⟨rfl,rfl,rfl,by decide +kernel,rfl,by decide +kernel,by decide +kernel⟩
def zot:DS:=(sIf ((bAnd (bT (eOp neD (eVar 3) (eC (.str "")))) (bT (eOp ltD (eFn zpg (aCons (eVar 3) aNil)) (eVar 1))))) (sRet (eVar 2)) sNext)
def zyl:DS:=
    (sSeq (sFor (iEnu (aCons (eVar 0) aNil)) (gTp 2 (zfe (gNm 2) (zfe (gNm 3) gNil_))) zot)
    (sRet (eC .non)))
def zlo:DF:=runF 4 zyl
def zzo:DF:=lenF 2 zlo
theorem zdu (T:Tx K mg):∃fd,FunD K "shallow_place" "shallow_place" (defArgs zqb) (defBody zqb) (defScope zqb) [] [] (He.ga K "shallow_place") fd∧FnG P w K mg base 3 (He.ga K "shallow_place") fd ["rows", "n"] (spD K 2 zlo):=by
 obtain⟨fd,Fn⟩:=T.z0w
 exact⟨fd,Fn,fn_D (N:=z0j) (ps:=["rows", "n"]) (k:=2) (g:=zyl) Fn zji (fun cdv A outer s H E hr=>by
  have tk:L2N.Takes (cxOf (L2N.CX P w) P w K mg base z0j "shallow_place" (defScope zqb) (He.ga K "shallow_place") cdv A outer s H E) (fun c d _ H=>E c d H):=L2N.takes_of rfl rfl rfl rfl
  exact (zj (zpj (passes_of rfl) rfl (z54 (by rfl) T.z5q (ze (zf (pv 0)) zg)) (zc3 rfl (zeg (dgn 2 zji.nd) (zeg (dgn 3 zji.nd) zww))) (zl (ds_if (PW.pt (zjz (zr (zrn hr.units) (zf (pv 3)) (zn) (nomark _) bl_ne) (zsw (zr z3s (de_fn tk (z4n T) (rmo hr) (by rfl) T.zmq T.zjq (ze (zf (pv 3)) zg)) (zf (pv 1)) (nomark _) bl_lt)))) (zl (zo (zf (pv 2)))) zjb)))
  (zl (zo (zen)))))⟩
theorem zku (T:Tx K mg):FnD P w K mg base 3 (He.ga K "shallow_place") zzo:=by
 obtain⟨fd,Fn,Fg⟩:=zdu (P:=P) (w:=w) (base:=base) T
 exact z7 Fg (Fn.bindsN fun _ _ _ _ _ _ us hl=>match us,hl with |[_,_],_=>rfl)
abbrev z3i:List Str:=["rows", "n", "at", "line"]
theorem zwh:FnScope z3i ["rows", "n"] (defScope z9b):=⟨rfl,rfl,rfl,by decide +kernel,rfl,by decide +kernel,by decide +kernel⟩
def zwu:DE:=(eFn z6h (aCons (eVar 3) (aCons (eUn negD (eVar 1)) aNil)))
def zeo:DS:=
    (sSeq (sAsg (eFn zzo (aCons (eVar 0) (aCons (eVar 1) aNil))) (gNm 2))
    (sSeq (sIf (bT (eOp ztn (eVar 2) (eC .non))) (ztg "Shallow" "line" 32 (eVar 2)) sNext)
    (sRet (eLc (iSeq (eVar 0)) (gNm 3) bYes zwu [3]))))
def zvs:DF:=runF 4 zeo
def zys:DF:=lenF 2 zvs
theorem z7x (T:Tx K mg):∃fd,FunD K "raised_rows" "raised_rows" (defArgs z9b) (defBody z9b) (defScope z9b) [] [] (He.ga K "raised_rows") fd∧FnG P w K mg base 4 (He.ga K "raised_rows") fd ["rows", "n"] (spD K 2 zvs):=by
 obtain⟨fd,Fn⟩:=T.z40
 exact⟨fd,Fn,fn_D (N:=z3i) (ps:=["rows", "n"]) (k:=3) (g:=zeo) Fn zwh (fun cdv A outer s H E hr=>by
  have tk:L2N.Takes (cxOf (L2N.CX P w) P w K mg base z3i "raised_rows" (defScope z9b) (He.ga K "raised_rows") cdv A outer s H E) (fun c d _ H=>E c d H):=L2N.takes_of rfl rfl rfl rfl
  exact (zj (z4 (de_fn tk (zku T) (rmo hr) (by rfl) T.z9v T.z2v (ze (zf (pv 0)) (ze (zf (pv 1)) zg))) (dgn 2 zwh.nd))
  (zj (ds_if (zr z4s (zf (pv 2)) (zen) (nomark _) z90) (zl (zbf rfl tk T.zas (zgz T).choose_spec.1 (zgz T).choose_spec.2 (rmo hr) (by rfl) T.z1ab (zf (pv 2)))) zjb)
  (zl (zo (de_lc (own:=[("line",3)]) rfl zwh.nd (z2f (zf (pv 0))) (blkOk_by (N:=z3i) (sc:=defScope z9b) (own:=[("line",3)]) (by decide +kernel)) (fun _ _ _ _ _=>(dgn 3 zwh.nd)) (fun _ _ _ _ _=>z3k) (fun _ _ _ _ _=>(de_fn zcj (znj T) (rmo hr) (by rfl) T.zyk T.zxk (ze (zf (pv 3)) (ze (de_un z0d (zf (pv 1))) zg)))) (by decide)))))))⟩
theorem zby (T:Tx K mg):FnD P w K mg base 4 (He.ga K "raised_rows") zys:=by
 obtain⟨fd,Fn,Fg⟩:=z7x (P:=P) (w:=w) (base:=base) T
 exact z7 Fg (Fn.bindsN fun _ _ _ _ _ _ us hl=>match us,hl with |[_,_],_=>rfl)
abbrev zdh:List Str:=["self", "n", "rows"]
theorem zij:FnScope zdh ["self", "n"] (defScope z6):=⟨rfl,rfl,rfl,by decide +kernel,rfl,by decide +kernel,by decide +kernel⟩
def zui:DS:=
    (sSeq (sIf (bNot (bT (eFn zth (aCons (eVar 1) aNil)))) (ztg "BadAmount" "value" 15 (eVar 1)) sNext)
    (sSeq (sAsg (eFn zys (aCons (eFld ["Block"] "rows" (eVar 0)) (aCons (eVar 1) aNil))) (gNm 2))
    (sRet (eMk "Block" zdc (eC (.cls "Block")) (z8t (eVar 2))))))
def zpk:DF:=runF 3 zui
def zbe:DF:=lenF 2 zpk
theorem zrq (T:Tx K mg):∃fd,FunD K "__lshift__" "Block.__lshift__" (defArgs z6) (defBody z6) (defScope z6) [] [] (He.ma K (He.ga K "Block") "__lshift__") fd∧FnG P w K mg base 5 (He.ma K (He.ga K "Block") "__lshift__") fd ["self", "n"] (spD K 2 zpk):=by
 obtain⟨fd,Fn⟩:=T.zls
 exact⟨fd,Fn,fn_D (N:=zdh) (ps:=["self", "n"]) (k:=4) (g:=zui) Fn zij (fun cdv A outer s H E hr=>by
  have tk:L2N.Takes (cxOf (L2N.CX P w) P w K mg base zdh "Block.__lshift__" (defScope z6) (He.ma K (He.ga K "Block") "__lshift__") cdv A outer s H E) (fun c d _ H=>E c d H):=L2N.takes_of rfl rfl rfl rfl
  exact (zj (ds_if (zhh (zqe (de_fn tk (z5n T) (rmo hr) (by rfl) T.znq T.zkq (ze (zf (pv 1)) zg)))) (zl (zbf rfl tk T.zlh (zvg T).choose_spec.1 (zvg T).choose_spec.2 (rmo hr) (by rfl) T.zoq (zf (pv 1)))) zjb)
  (zj (z4 (de_fn tk (zby T) (rmo hr) (by rfl) T.zg0 T.zc0 (ze (zrd (Cs:=["Block"]) T.zan (zf (pv 0))) (ze (zf (pv 1)) zg))) (dgn 2 zij.nd))
  (zl (zo (zf3 (C:="Block") tk T.z0v (zpe T) (rmo hr) (zih (C:="Block") (by rfl) T.zzk) (zf (pv 2))))))))⟩
theorem ztq (T:Tx K mg):FnD P w K mg base 5 (He.ma K (He.ga K "Block") "__lshift__") zbe:=by
 obtain⟨fd,Fn,Fg⟩:=zrq (P:=P) (w:=w) (base:=base) T
 exact z7 Fg (Fn.bindsN fun _ _ _ _ _ _ us hl=>match us,hl with |[_,_],_=>rfl)
abbrev z6f:List Str:=["self", "n"]
theorem zon:FnScope z6f ["self", "n"] (defScope zu):=⟨rfl,rfl,rfl,by decide +kernel,rfl,by decide +kernel,by decide +kernel⟩
def z9e:DS:=
    (sRet (eFn zpf (aCons (eVar 0) (aCons (eC (.str "out")) (aCons (eVar 1) aNil)))))
def z4f:DF:=runF 2 z9e
def zic:DF:=lenF 2 z4f
theorem z3n (T:Tx K mg):∃fd,FunD K "__lshift__" "Program.__lshift__" (defArgs zu) (defBody zu) (defScope zu) [] [] (He.ma K (He.ga K "Program") "__lshift__") fd∧FnG P w K mg base 78 (He.ma K (He.ga K "Program") "__lshift__") fd ["self", "n"] (spD K 2 z4f):=by
 obtain⟨fd,Fn⟩:=T.zsp
 exact⟨fd,Fn,fn_D (N:=z6f) (ps:=["self", "n"]) (k:=77) (g:=z9e) Fn zon (fun cdv A outer s H E hr=>by
  have tk:L2N.Takes (cxOf (L2N.CX P w) P w K mg base z6f "Program.__lshift__" (defScope zu) (He.ma K (He.ga K "Program") "__lshift__") cdv A outer s H E) (fun c d _ H=>E c d H):=L2N.takes_of rfl rfl rfl rfl
  exact (zl (zo (de_fn tk (zbp T) (rmo hr) (by rfl) T.zzr T.zvr (ze (zf (pv 0)) (ze (zn) (ze (zf (pv 1)) zg)))))))⟩
theorem z8n (T:Tx K mg):FnD P w K mg base 78 (He.ma K (He.ga K "Program") "__lshift__") zic:=by
 obtain⟨fd,Fn,Fg⟩:=z3n (P:=P) (w:=w) (base:=base) T
 exact z7 Fg (Fn.bindsN fun _ _ _ _ _ _ us hl=>match us,hl with |[_,_],_=>rfl)
theorem z9w (T:Tx K mg) {k:Nat} (hk:78≤k):∀q∈([("Block",zbe),("Program",zic)]:Tbl),BopM P w K mg base k .LShift bopTs q.1 q.2:=
 (zyg (zoz T.z4q ((ztq T).mono (Nat.le_trans (by decide) hk))) (zyg (zoz T.zjo ((z8n T).mono (Nat.le_trans (by decide) hk))) z6p))
abbrev z2j:List Str:=["self", "n"]
theorem zau:FnScope z2j ["self", "n"] (defScope zub):=⟨rfl,rfl,rfl,by decide +kernel,rfl,by decide +kernel,by decide +kernel⟩
def znh:DS:=
    (sRet (eFn zpf (aCons (eVar 0) (aCons (eC (.str "first")) (aCons (eVar 1) aNil)))))
def zxj:DF:=runF 2 znh
def zgh:DF:=lenF 2 zxj
theorem zfu (T:Tx K mg):∃fd,FunD K "first" "Program.first" (defArgs zub) (defBody zub) (defScope zub) [] [] (He.ma K (He.ga K "Program") "first") fd∧FnG P w K mg base 78 (He.ma K (He.ga K "Program") "first") fd ["self", "n"] (spD K 2 zxj):=by
 obtain⟨fd,Fn⟩:=T.z2w
 exact⟨fd,Fn,fn_D (N:=z2j) (ps:=["self", "n"]) (k:=77) (g:=znh) Fn zau (fun cdv A outer s H E hr=>by
  have tk:L2N.Takes (cxOf (L2N.CX P w) P w K mg base z2j "Program.first" (defScope zub) (He.ma K (He.ga K "Program") "first") cdv A outer s H E) (fun c d _ H=>E c d H):=L2N.takes_of rfl rfl rfl rfl
  exact (zl (zo (de_fn tk (zbp T) (rmo hr) (by rfl) T.zzr T.zvr (ze (zf (pv 0)) (ze (zn) (ze (zf (pv 1)) zg)))))))⟩
theorem zmu (T:Tx K mg):FnD P w K mg base 78 (He.ma K (He.ga K "Program") "first") zgh:=by
 obtain⟨fd,Fn,Fg⟩:=zfu (P:=P) (w:=w) (base:=base) T
 exact z7 Fg (Fn.bindsN fun _ _ _ _ _ _ us hl=>match us,hl with |[_,_],_=>rfl)
abbrev zkl:List Str:=["self", "n"]
theorem zov:FnScope zkl ["self", "n"] (defScope z5b):=⟨rfl,rfl,rfl,by decide +kernel,rfl,by decide +kernel,by decide +kernel⟩
def zpi:DS:=
    (sRet (eFn zpf (aCons (eVar 0) (aCons (eC (.str "rest")) (aCons (eVar 1) aNil)))))
def zel:DF:=runF 2 zpi
def z8h:DF:=lenF 2 zel
theorem ziw (T:Tx K mg):∃fd,FunD K "rest" "Program.rest" (defArgs z5b) (defBody z5b) (defScope z5b) [] [] (He.ma K (He.ga K "Program") "rest") fd∧FnG P w K mg base 78 (He.ma K (He.ga K "Program") "rest") fd ["self", "n"] (spD K 2 zel):=by
 obtain⟨fd,Fn⟩:=T.zly
 exact⟨fd,Fn,fn_D (N:=zkl) (ps:=["self", "n"]) (k:=77) (g:=zpi) Fn zov (fun cdv A outer s H E hr=>by
  have tk:L2N.Takes (cxOf (L2N.CX P w) P w K mg base zkl "Program.rest" (defScope z5b) (He.ma K (He.ga K "Program") "rest") cdv A outer s H E) (fun c d _ H=>E c d H):=L2N.takes_of rfl rfl rfl rfl
  exact (zl (zo (de_fn tk (zbp T) (rmo hr) (by rfl) T.zzr T.zvr (ze (zf (pv 0)) (ze (zn) (ze (zf (pv 1)) zg)))))))⟩
theorem zqw (T:Tx K mg):FnD P w K mg base 78 (He.ma K (He.ga K "Program") "rest") z8h:=by
 obtain⟨fd,Fn,Fg⟩:=ziw (P:=P) (w:=w) (base:=base) T
 exact z7 Fg (Fn.bindsN fun _ _ _ _ _ _ us hl=>match us,hl with |[_,_],_=>rfl)
abbrev z1j:List Str:=["self"]
theorem z9t:FnScope z1j ["self"] (defScope ztb):=⟨rfl,rfl,rfl,by decide +kernel,rfl,by decide +kernel,by decide +kernel⟩
def zmh:DS:=
    (sRet (eFn zeh (aCons (eMk "Program" zw (eC (.cls "Program")) (aCons (eC (.str "flush")) (aCons (eTup (aCons (eVar 0) aNil)) aNil))) aNil)))
def zwj:DF:=runF 1 zmh
def zfh:DF:=lenF 1 zwj
theorem zeu (T:Tx K mg):∃fd,FunD K "flush" "Program.flush" (defArgs ztb) (defBody ztb) (defScope ztb) [] [] (He.ma K (He.ga K "Program") "flush") fd∧FnG P w K mg base 77 (He.ma K (He.ga K "Program") "flush") fd ["self"] (spD K 1 zwj):=by
 obtain⟨fd,Fn⟩:=T.z1w
 exact⟨fd,Fn,fn_D (N:=z1j) (ps:=["self"]) (k:=76) (g:=zmh) Fn z9t (fun cdv A outer s H E hr=>by
  have tk:L2N.Takes (cxOf (L2N.CX P w) P w K mg base z1j "Program.flush" (defScope ztb) (He.ma K (He.ga K "Program") "flush") cdv A outer s H E) (fun c d _ H=>E c d H):=L2N.takes_of rfl rfl rfl rfl
  exact (zl (zo (de_fn tk (z9i T) (rmo hr) (by rfl) T.zwl T.zvl (ze (de_mk (C:="Program") tk T.zkf (FnK.pos (z1d T)) (rmo hr) (zih (C:="Program") (by rfl) T.z3e) (ze (zn) (ze (zbb (ze (zf (pv 0)) zg)) zg))) zg)))))⟩
theorem zlu (T:Tx K mg):FnD P w K mg base 77 (He.ma K (He.ga K "Program") "flush") zfh:=by
 obtain⟨fd,Fn,Fg⟩:=zeu (P:=P) (w:=w) (base:=base) T
 exact z7 Fg (Fn.bindsN fun _ _ _ _ _ _ us hl=>match us,hl with |[_],_=>rfl)
abbrev zqi:List Str:=["self", "tag", "hang"]
theorem z1s:FnScope zqi ["self", "tag", "hang"] (defScope zib):=⟨rfl,rfl,rfl,by decide +kernel,rfl,by decide +kernel,by decide +kernel⟩
def zcf:DS:=
    (sSeq (sIf (bNot (bT (eFn z0m (aCons (eVar 1) aNil)))) (ztg "BadTag" "value" 11 (eVar 1)) sNext)
    (sRet (eFn zeh (aCons (eMkK "Program" 1 zzb (eC (.cls "Program")) (aCons (eIf (bT (eVar 2)) (eC (.str "tag")) (eC (.str "raw"))) (aCons (eTup (aCons (eVar 0) aNil)) aNil)) (aCons (eVar 1) aNil)) aNil))))
def zfg:DF:=runF 3 zcf
def zpd:DF:=lenF 3 zfg
theorem zxl (T:Tx K mg):∃fd,FunD K "tagged" "Program.tagged" (defArgs zib) (defBody zib) (defScope zib) [] [("hang",.bl true)] (He.ma K (He.ga K "Program") "tagged") fd∧FnG P w K mg base 77 (He.ma K (He.ga K "Program") "tagged") fd ["self", "tag", "hang"] (spD K 3 zfg):=by
 obtain⟨fd,Fn⟩:=T.zsu
 exact⟨fd,Fn,fn_D (N:=zqi) (ps:=["self", "tag", "hang"]) (k:=76) (g:=zcf) Fn z1s (fun cdv A outer s H E hr=>by
  have tk:L2N.Takes (cxOf (L2N.CX P w) P w K mg base zqi "Program.tagged" (defScope zib) (He.ma K (He.ga K "Program") "tagged") cdv A outer s H E) (fun c d _ H=>E c d H):=L2N.takes_of rfl rfl rfl rfl
  exact (zj (ds_if (zhh (zqe (de_fn tk (z22 T) (rmo hr) (by rfl) T.zl6 T.zf6 (ze (zf (pv 1)) zg)))) (zl (zbf rfl tk T.z1u (za3 T).choose_spec.1 (za3 T).choose_spec.2 (rmo hr) (by rfl) T.z1db (zf (pv 1)))) zjb)
  (zl (zo (de_fn tk (z9i T) (rmo hr) (by rfl) T.zwl T.zvl (ze (zlz (C:="Program") tk T.zkf (zak T) (rmo hr) (zih (C:="Program") (by rfl) T.z3e) (ze (de_if (zqe (zf (pv 2))) (zn) (zn)) (ze (zbb (ze (zf (pv 0)) zg)) zg)) (zwq (zf (pv 1)) zvw)) zg))))))⟩
def zqg:DF:=kwF 2 [.bl true] [0,1,2] zpd
theorem zop (T:Tx K mg):FnK P w K mg base 77 (He.ma K (He.ga K "Program") "tagged") [] zqg:=by
 obtain⟨fd,Fn,Fg⟩:=zxl (P:=P) (w:=w) (base:=base) T
 exact zohb Fn Fg 2 [] [("hang",.bl true)] [.bl true] [0,1,2] (by simp) (by simp) (.cons (.bl _) .nil) (fun _ _ _ _ _ _ us ws mv hu hw hm=>match us,ws,mv,hu,hw,hm with |[_,_],[],[_],_,_,_=>⟨_,_,_,_,_,_,rfl,rfl,rfl⟩)
def zre:DF:=kwF 3 [] [0,1,2] zpd
theorem z1k (T:Tx K mg):FnK P w K mg base 77 (He.ma K (He.ga K "Program") "tagged") ["hang"] zre:=by
 obtain⟨fd,Fn,Fg⟩:=zxl (P:=P) (w:=w) (base:=base) T
 exact zphb Fn Fg 2 ["hang"] [0,1,2] (fun _ _ _ _ _ _ us ws hu hw=>match us,ws,hu,hw with |[_,_],[_],_,_=>rfl)
abbrev z1h:List Str:=["rows", "line"]
theorem zgj:FnScope z1h ["rows"] (defScope zrb):=⟨rfl,rfl,rfl,by decide +kernel,rfl,by decide +kernel,by decide +kernel⟩
def zqt:DT:=(bT (eOp neD (eVar 1) (eC (.str ""))))
def zrt:DE:=(eFn zpg (aCons (eVar 1) aNil))
def zdn:DS:=
    (sRet (z14 (eLc (iSeq (eVar 0)) (gNm 1) zqt zrt [1]) .non))
def z4p:DF:=runF 2 zdn
def z5p:DF:=lenF 1 z4p
theorem zew (T:Tx K mg):∃fd,FunD K "least_margin" "least_margin" (defArgs zrb) (defBody zrb) (defScope zrb) [] [] (He.ga K "least_margin") fd∧FnG P w K mg base 3 (He.ga K "least_margin") fd ["rows"] (spD K 1 z4p):=by
 obtain⟨fd,Fn⟩:=T.zhy
 exact⟨fd,Fn,fn_D (N:=z1h) (ps:=["rows"]) (k:=2) (g:=zdn) Fn zgj (fun cdv A outer s H E hr=>by
  have tk:L2N.Takes (cxOf (L2N.CX P w) P w K mg base z1h "least_margin" (defScope zrb) (He.ga K "least_margin") cdv A outer s H E) (fun c d _ H=>E c d H):=L2N.takes_of rfl rfl rfl rfl
  exact (zl (zo (zmbb (d:=.non) rfl hr.units (by rfl) T.b_min (de_lc (own:=[("line",1)]) rfl zgj.nd (z2f (zf (pv 0))) (blkOk_by (N:=z1h) (sc:=defScope zrb) (own:=[("line",1)]) (by decide +kernel)) (fun _ _ _ _ _=>(dgn 1 zgj.nd)) (fun _ _ _ _ _=>zuq (zr (zrn hr.units) (zf (pv 1)) (zn) (nomark _) bl_ne)) (fun _ _ _ _ _=>(de_fn zcj (z4n T) (rmo hr) (by rfl) T.zmq T.zjq (ze (zf (pv 1)) zg))) (by decide)) pe_non (fun _=>.non)))))⟩
theorem zmw (T:Tx K mg):FnD P w K mg base 3 (He.ga K "least_margin") z5p:=by
 obtain⟨fd,Fn,Fg⟩:=zew (P:=P) (w:=w) (base:=base) T
 exact z7 Fg (Fn.bindsN fun _ _ _ _ _ _ us hl=>match us,hl with |[_],_=>rfl)
abbrev zwm:List Str:=["rows", "least", "line"]
theorem zbk:FnScope zwm ["rows"] (defScope z6c):=⟨rfl,rfl,rfl,by decide +kernel,rfl,by decide +kernel,by decide +kernel⟩
def zoy:DE:=(eFn z6h (aCons (eVar 2) (aCons (eUn negD (eVar 1)) aNil)))
def zfs:DS:=
    (sSeq (sAsg (eFn z5p (aCons (eVar 0) aNil)) (gNm 1))
    (sRet (eIf (bT (eOp z4v (eVar 1) (eC .non))) (eVar 0) (eLc (iSeq (eVar 0)) (gNm 2) bYes zoy [2]))))
def zjx:DF:=runF 3 zfs
def zrx:DF:=lenF 1 zjx
theorem zu2 (T:Tx K mg):∃fd,FunD K "flat_rows" "flat_rows" (defArgs z6c) (defBody z6c) (defScope z6c) [] [] (He.ga K "flat_rows") fd∧FnG P w K mg base 4 (He.ga K "flat_rows") fd ["rows"] (spD K 1 zjx):=by
 obtain⟨fd,Fn⟩:=T.zf5
 exact⟨fd,Fn,fn_D (N:=zwm) (ps:=["rows"]) (k:=3) (g:=zfs) Fn zbk (fun cdv A outer s H E hr=>by
  have tk:L2N.Takes (cxOf (L2N.CX P w) P w K mg base zwm "flat_rows" (defScope z6c) (He.ga K "flat_rows") cdv A outer s H E) (fun c d _ H=>E c d H):=L2N.takes_of rfl rfl rfl rfl
  exact (zj (z4 (de_fn tk (zmw T) (rmo hr) (by rfl) T.z3x T.zyx (ze (zf (pv 0)) zg)) (zx0 (pg_name (i:=1) zbk.nd rfl (Or.inr rfl))))
  (zl (zo (de_if (zr z33 (zf (pv 1)) (zen) (nomark _) bl_is) (zf (pv 0)) (de_lc (own:=[("line",2)]) rfl zbk.nd (z2f (zf (pv 0))) (blkOk_by (N:=zwm) (sc:=defScope z6c) (own:=[("line",2)]) (by decide +kernel)) (fun _ _ _ _ _=>(dgn 2 zbk.nd)) (fun _ _ _ _ _=>z3k) (fun _ _ _ _ _=>(de_fn zcj (znj T) (rmo hr) (by rfl) T.zyk T.zxk (ze (zf (pv 2)) (ze (de_un z0d (zf (pv 1))) zg)))) (by decide)))))))⟩
theorem z42 (T:Tx K mg):FnD P w K mg base 4 (He.ga K "flat_rows") zrx:=by
 obtain⟨fd,Fn,Fg⟩:=zu2 (P:=P) (w:=w) (base:=base) T
 exact z7 Fg (Fn.bindsN fun _ _ _ _ _ _ us hl=>match us,hl with |[_],_=>rfl)
abbrev z4j:List Str:=["self", "rows"]
theorem z6m:FnScope z4j ["self"] (defScope zwb):=⟨rfl,rfl,rfl,by decide +kernel,rfl,by decide +kernel,by decide +kernel⟩
def z0l:DS:=
    (sSeq (sAsg (eFn zrx (aCons (eFld ["Block"] "rows" (eVar 0)) aNil)) (gNm 1))
    (sRet (eMk "Block" zdc (eC (.cls "Block")) (z8t (eVar 1)))))
def zqo:DF:=runF 2 z0l
def zqf:DF:=lenF 1 zqo
theorem zhu (T:Tx K mg):∃fd,FunD K "__neg__" "Block.__neg__" (defArgs zwb) (defBody zwb) (defScope zwb) [] [] (He.ma K (He.ga K "Block") "__neg__") fd∧FnG P w K mg base 5 (He.ma K (He.ga K "Block") "__neg__") fd ["self"] (spD K 1 zqo):=by
 obtain⟨fd,Fn⟩:=T.z4w
 exact⟨fd,Fn,fn_D (N:=z4j) (ps:=["self"]) (k:=4) (g:=z0l) Fn z6m (fun cdv A outer s H E hr=>by
  have tk:L2N.Takes (cxOf (L2N.CX P w) P w K mg base z4j "Block.__neg__" (defScope zwb) (He.ma K (He.ga K "Block") "__neg__") cdv A outer s H E) (fun c d _ H=>E c d H):=L2N.takes_of rfl rfl rfl rfl
  exact (zj (z4 (de_fn tk (z42 T) (rmo hr) (by rfl) T.zp4 T.zc4 (ze (zrd (Cs:=["Block"]) T.zan (zf (pv 0))) zg)) (dgn 1 z6m.nd))
  (zl (zo (zf3 (C:="Block") tk T.z0v (zpe T) (rmo hr) (zih (C:="Block") (by rfl) T.zzk) (zf (pv 1)))))))⟩
theorem zou (T:Tx K mg):FnD P w K mg base 5 (He.ma K (He.ga K "Block") "__neg__") zqf:=by
 obtain⟨fd,Fn,Fg⟩:=zhu (P:=P) (w:=w) (base:=base) T
 exact z7 Fg (Fn.bindsN fun _ _ _ _ _ _ us hl=>match us,hl with |[_],_=>rfl)
abbrev zrh:List Str:=["self"]
theorem znr:FnScope zrh ["self"] (defScope zdb):=⟨rfl,rfl,rfl,by decide +kernel,rfl,by decide +kernel,by decide +kernel⟩
def zlg:DS:=
    (sRet (eFn zeh (aCons (eMk "Program" zw (eC (.cls "Program")) (aCons (eC (.str "dedent")) (aCons (eTup (aCons (eVar 0) aNil)) aNil))) aNil)))
def zph:DF:=runF 1 zlg
def zcd:DF:=lenF 1 zph
theorem z4r (T:Tx K mg):∃fd,FunD K "__neg__" "Program.__neg__" (defArgs zdb) (defBody zdb) (defScope zdb) [] [] (He.ma K (He.ga K "Program") "__neg__") fd∧FnG P w K mg base 77 (He.ma K (He.ga K "Program") "__neg__") fd ["self"] (spD K 1 zph):=by
 obtain⟨fd,Fn⟩:=T.zft
 exact⟨fd,Fn,fn_D (N:=zrh) (ps:=["self"]) (k:=76) (g:=zlg) Fn znr (fun cdv A outer s H E hr=>by
  have tk:L2N.Takes (cxOf (L2N.CX P w) P w K mg base zrh "Program.__neg__" (defScope zdb) (He.ma K (He.ga K "Program") "__neg__") cdv A outer s H E) (fun c d _ H=>E c d H):=L2N.takes_of rfl rfl rfl rfl
  exact (zl (zo (de_fn tk (z9i T) (rmo hr) (by rfl) T.zwl T.zvl (ze (de_mk (C:="Program") tk T.zkf (FnK.pos (z1d T)) (rmo hr) (zih (C:="Program") (by rfl) T.z3e) (ze (zn) (ze (zbb (ze (zf (pv 0)) zg)) zg))) zg)))))⟩
theorem z8r (T:Tx K mg):FnD P w K mg base 77 (He.ma K (He.ga K "Program") "__neg__") zcd:=by
 obtain⟨fd,Fn,Fg⟩:=z4r (P:=P) (w:=w) (base:=base) T
 exact z7 Fg (Fn.bindsN fun _ _ _ _ _ _ us hl=>match us,hl with |[_],_=>rfl)
theorem z23 (T:Tx K mg) {k:Nat} (hk:77≤k):∀q∈([("Block",zqf),("Program",zcd)]:Tbl),OwnM P w K mg base k "__neg__" q.1 q.2:=
 (zyg ⟨_,(zaf T.z3g).1,(zaf T.z3g).2.1,(zaf T.z3g).2.2.1,(zaf T.z3g).2.2.2,(zou T).mono (Nat.le_trans (by decide) hk)⟩ (zyg ⟨_,(zaf T.zzf).1,(zaf T.zzf).2.1,(zaf T.zzf).2.2.1,(zaf T.zzf).2.2.2,(z8r T).mono (Nat.le_trans (by decide) hk)⟩ z6p))
abbrev zxo:List Str:=["_law_spec", "_law_word", "_law_program", "_law_member", "_law_inner"]
theorem zxf:FnScope zxo ["_law_spec"] (defScope z4d):=⟨rfl,rfl,rfl,by decide +kernel,rfl,by decide +kernel,by decide +kernel⟩
def z3h (zud:DF):DS:=(sAsg (eBop bopTs [("Block",zrf),("Program",zwc)] addD (eVar 2) (eFn zud (aCons (eVar 3) aNil))) (gNm 2))
def zlb (zud:DF):DS:=
    (sSeq (sAsg (eIx [("Block",zb)] (eVar 0) (eC (.int 0))) (gNm 1))
    (sSeq (sIf (bT (eOp eqD (eVar 1) (eC (.str "fixed")))) (sRet (eFn zpt (aCons (eBM "str" joinD (eC (.str "\n")) (aCons (eIx [("Block",zb)] (eVar 0) (eC (.int 1))) aNil)) aNil))) sNext)
    (sSeq (sIf (bT (eOp eqD (eVar 1) (eC (.str "hole")))) (sRet (eFn za7 (aCons (eIx [("Block",zb)] (eVar 0) (eC (.int 1))) aNil))) sNext)
    (sSeq (sIf (bT (eOp eqD (eVar 1) (eC (.str "each")))) (sRet (eFn zb7 (aCons (eIx [("Block",zb)] (eVar 0) (eC (.int 1))) (aCons (eFn zud (aCons (eIx [("Block",zb)] (eVar 0) (eC (.int 2))) aNil)) aNil)))) sNext)
    (sSeq (sIf (bT (eOp eqD (eVar 1) (eC (.str "sum")))) (sSeq (sAsg (eFn zud (aCons (eIx [("Block",zb)] (eIx [("Block",zb)] (eVar 0) (eC (.int 1))) (eC (.int 0))) aNil)) (gNm 2))
    (sSeq (sFor (iSeq (eSl (eIx [("Block",zb)] (eVar 0) (eC (.int 1))) (oSome (eC (.int 1))) (oNone))) (gNm 3) (z3h zud))
    (sRet (eVar 2)))) sNext)
    (sSeq (sAsg (eFn zud (aCons (eIx [("Block",zb)] (eVar 0) (eUn negD (eC (.int 1)))) aNil)) (gNm 4))
    (sSeq (sIf (bT (eOp eqD (eVar 1) (eC (.str "in")))) (sRet (eBop bopTs [("Block",zae),("Program",zhc)] noD (eVar 4) (eIx [("Block",zb)] (eVar 0) (eC (.int 1))))) sNext)
    (sSeq (sIf (bT (eOp eqD (eVar 1) (eC (.str "out")))) (sRet (eBop bopTs [("Block",zbe),("Program",zic)] noD (eVar 4) (eIx [("Block",zb)] (eVar 0) (eC (.int 1))))) sNext)
    (sSeq (sIf (bT (eOp eqD (eVar 1) (eC (.str "first")))) (sRet (eMeth "Program" "first" zgh (eVar 4) (aCons (eIx [("Block",zb)] (eVar 0) (eC (.int 1))) aNil))) sNext)
    (sSeq (sIf (bT (eOp eqD (eVar 1) (eC (.str "rest")))) (sRet (eMeth "Program" "rest" z8h (eVar 4) (aCons (eIx [("Block",zb)] (eVar 0) (eC (.int 1))) aNil))) sNext)
    (sSeq (sIf (bT (eOp eqD (eVar 1) (eC (.str "flush")))) (sRet (eMeth "Program" "flush" zfh (eVar 4) aNil)) sNext)
    (sSeq (sIf (bT (eOp eqD (eVar 1) (eC (.str "tag")))) (sRet (eMeth "Program" "tagged" zqg (eVar 4) (aCons (eIx [("Block",zb)] (eVar 0) (eC (.int 1))) aNil))) sNext)
    (sSeq (sIf (bT (eOp eqD (eVar 1) (eC (.str "raw")))) (sRet (zv6 "Program" "tagged" 1 zre (eVar 4) (aCons (eIx [("Block",zb)] (eVar 0) (eC (.int 1))) aNil) (aCons (eC (.bl false)) aNil))) sNext)
    (sRet (eNeg [("Block",zqf),("Program",zcd)] (eVar 4))))))))))))))))
def zm:Nat→DF
 | 0=>fun _ _=>.no
 |n+1=>lenF 1 (runF 5 (zlb (zm n)))
theorem z0p (T:Tx K mg):∀n:Nat,FnD P w K mg base (80+3*n) (He.ga K "_law_build") (zm n)
 | 0=>zn6
 |n+1=>by
  have ih:=z0p T n
  obtain⟨fd,Fn⟩:=T.zl3
  exact z7 (fn_D (N:=zxo) (ps:=["_law_spec"]) (k:=80+3*n+2) (g:=zlb (zm n)) Fn zxf (fun cdv A outer s H E hr=>by
  have tk:L2N.Takes (cxOf (L2N.CX P w) P w K mg base zxo "_law_build" (defScope z4d) (He.ga K "_law_build") cdv A outer s H E) (fun c d _ H=>E c d H):=L2N.takes_of rfl rfl rfl rfl
  exact (zj (z4 (de_ix (k:=3) (t:=[("Block",zb)]) tk (zh T (by omega)) (hr.mono (by omega)) (zf (pv 0)) (zk) (fun _ _=>rfl) (fun _ _=>by with_unfolding_all rfl)) (dgn 1 zxf.nd))
  (zj (ds_if (zr (zz hr.units) (zf (pv 1)) (zn) (nomark _) bl_eq) (zl (zo (de_fn tk (zo6 T) (hr.mono (by omega)) (by rfl) T.zzab T.zqab (ze (de_bm PySem.F.plainAttrs_str PySem.F.slot_str_join PySem.F.type_str_join zxv (zn) (ze (de_ix (k:=3) (t:=[("Block",zb)]) tk (zh T (by omega)) (hr.mono (by omega)) (zf (pv 0)) (zk) (fun _ _=>rfl) (fun _ _=>by with_unfolding_all rfl)) zg)) zg)))) zjb)
  (zj (ds_if (zr (zz hr.units) (zf (pv 1)) (zn) (nomark _) bl_eq) (zl (zo (de_fn tk (zthb T) (hr.mono (by omega)) (by rfl) T.zikb T.z7jb (ze (de_ix (k:=3) (t:=[("Block",zb)]) tk (zh T (by omega)) (hr.mono (by omega)) (zf (pv 0)) (zk) (fun _ _=>rfl) (fun _ _=>by with_unfolding_all rfl)) zg)))) zjb)
  (zj (ds_if (zr (zz hr.units) (zf (pv 1)) (zn) (nomark _) bl_eq) (zl (zo (de_fn tk (zuhb T) (hr.mono (by omega)) (by rfl) T.zjkb T.z8jb (ze (de_ix (k:=3) (t:=[("Block",zb)]) tk (zh T (by omega)) (hr.mono (by omega)) (zf (pv 0)) (zk) (fun _ _=>rfl) (fun _ _=>by with_unfolding_all rfl)) (ze (de_fn tk ih (hr.mono (by omega)) (by rfl) T.zci T.zai (ze (de_ix (k:=3) (t:=[("Block",zb)]) tk (zh T (by omega)) (hr.mono (by omega)) (zf (pv 0)) (zk) (fun _ _=>rfl) (fun _ _=>by with_unfolding_all rfl)) zg)) zg))))) zjb)
  (zj (ds_if (zr (zz hr.units) (zf (pv 1)) (zn) (nomark _) bl_eq) (zj (z4 (de_fn tk ih (hr.mono (by omega)) (by rfl) T.zci T.zai (ze (de_ix (k:=3) (t:=[("Block",zb)]) tk (zh T (by omega)) (hr.mono (by omega)) (de_ix (k:=3) (t:=[("Block",zb)]) tk (zh T (by omega)) (hr.mono (by omega)) (zf (pv 0)) (zk) (fun _ _=>rfl) (fun _ _=>by with_unfolding_all rfl)) (zk) (fun _ _=>rfl) (fun _ _=>by with_unfolding_all rfl)) zg)) (dgn 2 zxf.nd))
  (zj (zpj (passes_of rfl) rfl (z2f (de_sl (de_ix (k:=3) (t:=[("Block",zb)]) tk (zh T (by omega)) (hr.mono (by omega)) (zf (pv 0)) (zk) (fun _ _=>rfl) (fun _ _=>by with_unfolding_all rfl)) (z34 (zk)) (z44))) (dgn 3 zxf.nd) (zl (z4 (zpbb (k:=78) (ts:=bopTs) (t:=[("Block",zrf),("Program",zwc)]) tk (zo3 T (by omega)) (hr.mono (by omega)) z5 (zf (pv 2)) (de_fn tk ih (hr.mono (by omega)) (by rfl) T.zci T.zai (ze (zf (pv 3)) zg))) (dgn 2 zxf.nd))))
  (zl (zo (zf (pv 2)))))) zjb)
  (zj (z4 (de_fn tk ih (hr.mono (by omega)) (by rfl) T.zci T.zai (ze (de_ix (k:=3) (t:=[("Block",zb)]) tk (zh T (by omega)) (hr.mono (by omega)) (zf (pv 0)) (de_un z0d (zk)) (fun _ _=>rfl) (fun _ _=>by with_unfolding_all rfl)) zg)) (dgn 4 zxf.nd))
  (zj (ds_if (zr (zz hr.units) (zf (pv 1)) (zn) (nomark _) bl_eq) (zl (zo (zpbb (k:=78) (ts:=bopTs) (t:=[("Block",zae),("Program",zhc)]) tk (z8w T (by omega)) (hr.mono (by omega)) z19 (zf (pv 4)) (de_ix (k:=3) (t:=[("Block",zb)]) tk (zh T (by omega)) (hr.mono (by omega)) (zf (pv 0)) (zk) (fun _ _=>rfl) (fun _ _=>by with_unfolding_all rfl))))) zjb)
  (zj (ds_if (zr (zz hr.units) (zf (pv 1)) (zn) (nomark _) bl_eq) (zl (zo (zpbb (k:=78) (ts:=bopTs) (t:=[("Block",zbe),("Program",zic)]) tk (z9w T (by omega)) (hr.mono (by omega)) z19 (zf (pv 4)) (de_ix (k:=3) (t:=[("Block",zb)]) tk (zh T (by omega)) (hr.mono (by omega)) (zf (pv 0)) (zk) (fun _ _=>rfl) (fun _ _=>by with_unfolding_all rfl))))) zjb)
  (zj (ds_if (zr (zz hr.units) (zf (pv 1)) (zn) (nomark _) bl_eq) (zl (zo (z64 (C:="Program") tk T.z3l (zzv T.zvv) (zmu T) (hr.mono (by omega)) (zf (pv 4)) (ze (de_ix (k:=3) (t:=[("Block",zb)]) tk (zh T (by omega)) (hr.mono (by omega)) (zf (pv 0)) (zk) (fun _ _=>rfl) (fun _ _=>by with_unfolding_all rfl)) zg)))) zjb)
  (zj (ds_if (zr (zz hr.units) (zf (pv 1)) (zn) (nomark _) bl_eq) (zl (zo (z64 (C:="Program") tk T.z3l (zzv T.zux) (zqw T) (hr.mono (by omega)) (zf (pv 4)) (ze (de_ix (k:=3) (t:=[("Block",zb)]) tk (zh T (by omega)) (hr.mono (by omega)) (zf (pv 0)) (zk) (fun _ _=>rfl) (fun _ _=>by with_unfolding_all rfl)) zg)))) zjb)
  (zj (ds_if (zr (zz hr.units) (zf (pv 1)) (zn) (nomark _) bl_eq) (zl (zo (zjeb (C:="Program") tk T.z3l (zzv T.zuv) (zlu T) (hr.mono (by omega)) (zf (pv 4))))) zjb)
  (zj (ds_if (zr (zz hr.units) (zf (pv 1)) (zn) (nomark _) bl_eq) (zl (zo (z64 (C:="Program") tk T.z3l (zzv T.z8m) (FnK.pos (zop T)) (hr.mono (by omega)) (zf (pv 4)) (ze (de_ix (k:=3) (t:=[("Block",zb)]) tk (zh T (by omega)) (hr.mono (by omega)) (zf (pv 0)) (zk) (fun _ _=>rfl) (fun _ _=>by with_unfolding_all rfl)) zg)))) zjb)
  (zj (ds_if (zr (zz hr.units) (zf (pv 1)) (zn) (nomark _) bl_eq) (zl (zo (zieb (C:="Program") tk T.z3l (zzv T.z8m) (z1k T) (hr.mono (by omega)) (zf (pv 4)) (ze (de_ix (k:=3) (t:=[("Block",zb)]) tk (zh T (by omega)) (hr.mono (by omega)) (zf (pv 0)) (zk) (fun _ _=>rfl) (fun _ _=>by with_unfolding_all rfl)) zg) (zwq (de_bl) zvw)))) zjb)
  (zl (zo (z0kb (k:=77) (t:=[("Block",zqf),("Program",zcd)]) tk (z23 T (by omega)) (hr.mono (by omega)) (zf (pv 4)))))))))))))))))))) (Fn.bindsN fun _ _ _ _ _ _ us hl=>match us,hl with |[_],_=>rfl)
def zud:DF:=zm 24
theorem zt0 (T:Tx K mg):FnD P w K mg base 152 (He.ga K "_law_build") zud:=(z0p (P:=P) (w:=w) (base:=base) T 24)
abbrev zlp:List Str:=["program", "parts", "found", "k", "part", "n"]
theorem zif:FnScope zlp ["program"] (defScope znd):=⟨rfl,rfl,rfl,by decide +kernel,rfl,by decide +kernel,by decide +kernel⟩
def z4m:DE:=(eTup (aCons (eC (.str "in")) (aCons (eVar 3) (aCons (eVar 5) aNil))))
def zte:DS:=(sSeq (sIf (bT (eOp ltD (eLen [] (aCons (eVar 1) aNil)) (eC (.int 16)))) (sSeq (sDrop (eApp (eVar 2) (aCons (eTup (aCons (eC (.str "dedent")) (aCons (eVar 3) (aCons (eC (.int 0)) aNil)))) aNil)))
    (sAug 2 (eLc (zlq (aCons (eC (.int 1)) (aCons (eOp addD (eC (.int 4)) (eC (.int 1))) aNil))) (gNm 5) bYes z4m [5]))) sNext)
    (sIf (bT (eOp inTD (eFld ["Program"] "word" (eVar 4)) (eC (.tup ((["in", "out", "first", "rest", "dedent", "flush"]:List Str).map D.str))))) (sDrop (eApp (eVar 2) (aCons (eTup (aCons (eC (.str "drop")) (aCons (eVar 3) (aCons (eC (.int 0)) aNil)))) aNil))) sNext))
def zfo:DS:=
    (sSeq (sAsg (eFn zzd (aCons (eVar 0) aNil)) (gNm 1))
    (sSeq (sAsg (eCel (aNil)) (gNm 2))
    (sSeq (sFor (iEnu (aCons (eVar 1) aNil)) (gTp 2 (zfe (gNm 3) (zfe (gNm 4) gNil_))) zte)
    (sRet (eB zgv (aCons (eVar 2) aNil))))))
def zlt:DF:=runF 6 zfo
def z7l:DF:=lenF 1 zlt
theorem zw4 (T:Tx K mg):∃fd,FunD K "mends_of" "mends_of" (defArgs znd) (defBody znd) (defScope znd) [] [] (He.ga K "mends_of") fd∧FnG P w K mg base 75 (He.ga K "mends_of") fd ["program"] (spD K 1 zlt):=by
 obtain⟨fd,Fn⟩:=T.z97
 exact⟨fd,Fn,fn_D (N:=zlp) (ps:=["program"]) (k:=74) (g:=zfo) Fn zif (fun cdv A outer s H E hr=>by
  have tk:L2N.Takes (cxOf (L2N.CX P w) P w K mg base zlp "mends_of" (defScope znd) (He.ga K "mends_of") cdv A outer s H E) (fun c d _ H=>E c d H):=L2N.takes_of rfl rfl rfl rfl
  exact (zj (z4 (de_fn tk (zhk T) (rmo hr) (by rfl) T.zmj T.zkj (ze (zf (pv 0)) zg)) (dgn 1 zif.nd))
  (zj (z4 (zzw (zg)) (dgn 2 zif.nd))
  (zj (zpj (passes_of rfl) rfl (z54 (by rfl) T.z5q (ze (zf (pv 1)) zg)) (zc3 rfl (zeg (zx0 (pg_name (i:=3) zif.nd rfl (Or.inr rfl))) (zeg (dgn 4 zif.nd) zww))) (zj (ds_if (zr z3s (z6d (k:=0) (t:=[]) tk (fun _ z=>nomatch z) (rmo hr) (by rfl) T.b_len (ze (zf (pv 1)) zg)) (z9k (i:=16) (by rfl) T.z1n) (nomark _) bl_lt) (zj (z7g (zgo (zf (pv 2)) (ze (zbb (ze (zn) (ze (zf (pv 3)) (ze (zk) zg)))) zg)))
  (zl (znfb (i:=2) zif.nd rfl (Or.inl rfl) (de_lc (own:=[("n",5)]) rfl zif.nd (zkbb (by rfl) T.zax (ze (zk) (ze (de_op z5 (z9k (i:=4) (by rfl) T.zt4) (zk)) zg))) (blkOk_by (N:=zlp) (sc:=defScope znd) (own:=[("n",5)]) (by decide +kernel)) (fun _ _ _ _ _=>(dgn 5 zif.nd)) (fun _ _ _ _ _=>z3k) (fun _ _ _ _ _=>(zbb (ze (zn) (ze (zf (pv 3)) (ze (zf (pv 5)) zg))))) (by decide))))) zjb)
  (zl (ds_if (zr zzu (zrd (Cs:=["Program"]) T.z5t (zf (pv 4))) (zobb (ss:=["in", "out", "first", "rest", "dedent", "flush"]) (by rfl) T.z2ab T.z28) (by rfl) z56) (zl (z7g (zgo (zf (pv 2)) (ze (zbb (ze (zn) (ze (zf (pv 3)) (ze (zk) zg)))) zg)))) zjb))))
  (zl (zo (zkk (zmy hr.units) (by rfl) T.za1 (by decide +kernel) (ze (zf (pv 2)) zg))))))))⟩
theorem zlw (T:Tx K mg):FnD P w K mg base 75 (He.ga K "mends_of") z7l:=by
 obtain⟨fd,Fn,Fg⟩:=zw4 (P:=P) (w:=w) (base:=base) T
 exact z7 Fg (Fn.bindsN fun _ _ _ _ _ _ us hl=>match us,hl with |[_],_=>rfl)
abbrev znx:List Str:=["program", "thing", "number"]
theorem zwy:FnScope znx ["program", "thing"] (defScope zke):=⟨rfl,rfl,rfl,by decide +kernel,rfl,by decide +kernel,by decide +kernel⟩
def zde:DS:=(sIf ((bOr (bNot (bT (eIsi (isfT zki) (eVar 2)))) (bT (eIsi (isfT zge) (eVar 2))))) (sRet (eC (.bl false))) sNext)
def zmf:DS:=
    (sSeq (sIf ((bOr (bNot (bT (eIsi (isfT z5g) (eVar 1)))) (bT (eOp neD (eLen [] (aCons (eVar 1) aNil)) (eC (.int 3)))))) (sRet (eC (.bl false))) sNext)
    (sSeq (sFor (iSeq (eSl (eVar 1) (oSome (eC (.int 1))) (oNone))) (gNm 2) zde)
    (sRet (eOp inLD (eVar 1) (eFn z7l (aCons (eVar 0) aNil))))))
def zfi:DF:=runF 3 zmf
def zcg:DF:=lenF 2 zfi
theorem z27 (T:Tx K mg):∃fd,FunD K "is_mend" "is_mend" (defArgs zke) (defBody zke) (defScope zke) [] [] (He.ga K "is_mend") fd∧FnG P w K mg base 76 (He.ga K "is_mend") fd ["program", "thing"] (spD K 2 zfi):=by
 obtain⟨fd,Fn⟩:=T.ztbb
 exact⟨fd,Fn,fn_D (N:=znx) (ps:=["program", "thing"]) (k:=75) (g:=zmf) Fn zwy (fun cdv A outer s H E hr=>by
  have tk:L2N.Takes (cxOf (L2N.CX P w) P w K mg base znx "is_mend" (defScope zke) (He.ga K "is_mend") cdv A outer s H E) (fun c d _ H=>E c d H):=L2N.takes_of rfl rfl rfl rfl
  exact (zj (ds_if (PW.pt (dw_or (zhh (zqe (zsj (by rfl) T.zmb (zf (pv 1)) (pe_bltn (v:=.ty "tuple") (by rfl) T.zkt (by decide +kernel) rfl) (.ty "tuple") T.z5g))) (zbn (zr (zrn hr.units) (z6d (k:=0) (t:=[]) tk (fun _ z=>nomatch z) (rmo hr) (by rfl) T.b_len (ze (zf (pv 1)) zg)) (zk) (nomark _) bl_ne)))) (zl (zo (de_bl))) zjb)
  (zj (zpj (passes_of rfl) rfl (z2f (de_sl (zf (pv 1)) (z34 (zk)) (z44))) (dgn 2 zwy.nd) (zl (ds_if (PW.pt (dw_or (zhh (zqe (zsj (by rfl) T.zmb (zf (pv 2)) (pe_bltn (v:=.ty "int") (by rfl) T.b_int (by decide +kernel) rfl) (.ty "int") T.zki))) (zbn (zqe (zsj (by rfl) T.zmb (zf (pv 2)) (pe_bltn (v:=.ty "bool") (by rfl) T.z76 (by decide +kernel) rfl) (.ty "bool") T.zge))))) (zl (zo (de_bl))) zjb)))
  (zl (zo (zgs (zbdb (RoomG.u65 hr)) (zf (pv 1)) (de_fn tk (zlw T) (rmo hr) (by rfl) T.zaz T.z3y (ze (zf (pv 0)) zg)) (by rfl)))))))⟩
theorem z67 (T:Tx K mg):FnD P w K mg base 76 (He.ga K "is_mend") zcg:=by
 obtain⟨fd,Fn,Fg⟩:=z27 (P:=P) (w:=w) (base:=base) T
 exact z7 Fg (Fn.bindsN fun _ _ _ _ _ _ us hl=>match us,hl with |[_,_],_=>rfl)
abbrev zpx:List Str:=["program", "word", "n"]
theorem zn7:FnScope zpx ["program", "word", "n"] (defScope zme):=⟨rfl,rfl,rfl,by decide +kernel,rfl,by decide +kernel,by decide +kernel⟩
def zqj:DS:=
    (sSeq (sIf (bT (eOp eqD (eVar 1) (eC (.str "drop")))) (sRet (eIx [] (eFld ["Program"] "members" (eVar 0)) (eC (.int 0)))) sNext)
    (sSeq (sIf (bT (eOp eqD (eVar 1) (eC (.str "in")))) (sRet (eMkK "Program" 1 zgb (eC (.cls "Program")) (aCons (eC (.str "in")) (aCons (eTup (aCons (eVar 0) aNil)) aNil)) (aCons (eVar 2) aNil))) sNext)
    (sRet (eMk "Program" zw (eC (.cls "Program")) (aCons (eC (.str "dedent")) (aCons (eTup (aCons (eVar 0) aNil)) aNil))))))
def zmo:DF:=runF 3 zqj
def z8l:DF:=lenF 3 zmo
theorem z57 (T:Tx K mg):∃fd,FunD K "changed" "changed" (defArgs zme) (defBody zme) (defScope zme) [] [] (He.ga K "changed") fd∧FnG P w K mg base 7 (He.ga K "changed") fd ["program", "word", "n"] (spD K 3 zmo):=by
 obtain⟨fd,Fn⟩:=T.zwbb
 exact⟨fd,Fn,fn_D (N:=zpx) (ps:=["program", "word", "n"]) (k:=6) (g:=zqj) Fn zn7 (fun cdv A outer s H E hr=>by
  have tk:L2N.Takes (cxOf (L2N.CX P w) P w K mg base zpx "changed" (defScope zme) (He.ga K "changed") cdv A outer s H E) (fun c d _ H=>E c d H):=L2N.takes_of rfl rfl rfl rfl
  exact (zj (ds_if (zr (zz hr.units) (zf (pv 1)) (zn) (nomark _) bl_eq) (zl (zo (de_ix (k:=0) (t:=[]) tk (fun _ z=>nomatch z) (rmo hr) (zrd (Cs:=["Program"]) T.z9n (zf (pv 0))) (zk) (fun _ _=>rfl) (fun _ _=>by with_unfolding_all rfl)))) zjb)
  (zj (ds_if (zr (zz hr.units) (zf (pv 1)) (zn) (nomark _) bl_eq) (zl (zo (zlz (C:="Program") tk T.zkf (z4e T) (rmo hr) (zih (C:="Program") (by rfl) T.z3e) (ze (zn) (ze (zbb (ze (zf (pv 0)) zg)) zg)) (zwq (zf (pv 2)) zvw)))) zjb)
  (zl (zo (de_mk (C:="Program") tk T.zkf (FnK.pos (z1d T)) (rmo hr) (zih (C:="Program") (by rfl) T.z3e) (ze (zn) (ze (zbb (ze (zf (pv 0)) zg)) zg))))))))⟩
theorem z87 (T:Tx K mg):FnD P w K mg base 7 (He.ga K "changed") z8l:=by
 obtain⟨fd,Fn,Fg⟩:=z57 (P:=P) (w:=w) (base:=base) T
 exact z7 Fg (Fn.bindsN fun _ _ _ _ _ _ us hl=>match us,hl with |[_,_,_],_=>rfl)
abbrev zfl:List Str:=["program", "members"]
theorem zjv:FnScope zfl ["program", "members"] (defScope z0b):=⟨rfl,rfl,rfl,by decide +kernel,rfl,by decide +kernel,by decide +kernel⟩
def zli:DS:=
    (sRet (eMk "Program" z9d (eC (.cls "Program")) (aCons (eFld ["Program"] "word" (eVar 0)) (aCons (eVar 1) (aCons (eFld ["Program"] "name" (eVar 0)) (aCons (eFld ["Program"] "amount" (eVar 0)) (aCons (eFld ["Program"] "tag" (eVar 0)) (aCons (eFld ["Program"] "block" (eVar 0)) aNil))))))))
def zal:DF:=runF 2 zli
def z4h:DF:=lenF 2 zal
theorem zbw (T:Tx K mg):∃fd,FunD K "with_members" "with_members" (defArgs z0b) (defBody z0b) (defScope z0b) [] [] (He.ga K "with_members") fd∧FnG P w K mg base 7 (He.ga K "with_members") fd ["program", "members"] (spD K 2 zal):=by
 obtain⟨fd,Fn⟩:=T.zey
 exact⟨fd,Fn,fn_D (N:=zfl) (ps:=["program", "members"]) (k:=6) (g:=zli) Fn zjv (fun cdv A outer s H E hr=>by
  have tk:L2N.Takes (cxOf (L2N.CX P w) P w K mg base zfl "with_members" (defScope z0b) (He.ga K "with_members") cdv A outer s H E) (fun c d _ H=>E c d H):=L2N.takes_of rfl rfl rfl rfl
  exact (zl (zo (de_mk (C:="Program") tk T.zkf (FnK.pos (zin T)) (rmo hr) (zih (C:="Program") (by rfl) T.z3e) (ze (zrd (Cs:=["Program"]) T.z5t (zf (pv 0))) (ze (zf (pv 1)) (ze (zrd (Cs:=["Program"]) T.zq6 (zf (pv 0))) (ze (zrd (Cs:=["Program"]) T.zr6 (zf (pv 0))) (ze (zrd (Cs:=["Program"]) T.f_tag (zf (pv 0))) (ze (zrd (Cs:=["Program"]) T.zfbb (zf (pv 0))) zg))))))))))⟩
theorem zjw (T:Tx K mg):FnD P w K mg base 7 (He.ga K "with_members") z4h:=by
 obtain⟨fd,Fn,Fg⟩:=zbw (P:=P) (w:=w) (base:=base) T
 exact z7 Fg (Fn.bindsN fun _ _ _ _ _ _ us hl=>match us,hl with |[_,_],_=>rfl)
abbrev zg1:List Str:=["program", "mend", "word", "k", "n", "members", "at", "member", "many"]
theorem zjf:FnScope zg1 ["program", "mend"] (defScope z9h):=⟨rfl,rfl,rfl,by decide +kernel,rfl,by decide +kernel,by decide +kernel⟩
def z6l (z2m:DF):DS:=(sSeq (sAsg (eFld ["Program"] "size" (eVar 7)) (gNm 8))
    (sSeq (sIf (bT (zdo leD ltD (eVar 6) (eVar 3) (eOp addD (eVar 6) (eVar 8)))) (sAsg (eFn z2m (aCons (eVar 7) (aCons (eTup (aCons (eVar 2) (aCons (eOp subD (eVar 3) (eVar 6)) (aCons (eVar 4) aNil)))) aNil))) (gNm 7)) sNext)
    (sSeq (sAugT 5 (eIf (bT (eOp eqD (eFld ["Program"] "word" (eVar 0)) (eC (.str "sum")))) (eFn zsd (aCons (eVar 7) aNil)) (eLst (aCons (eVar 7) aNil))))
    (sAug 6 (eVar 8)))))
def zfp (z2m:DF):DS:=
    (sSeq (sAsg (eVar 1) (gTp 3 (zfe (gNm 2) (zfe (gNm 3) (zfe (gNm 4) gNil_)))))
    (sSeq (sIf (bT (eOp eqD (eVar 3) (eC (.int 0)))) (sRet (eFn z8l (aCons (eVar 0) (aCons (eVar 2) (aCons (eVar 4) aNil))))) sNext)
    (sSeq (sAsg (eCel (aNil)) (gNm 5))
    (sSeq (sAsg (eC (.int 1)) (gNm 6))
    (sSeq (sFor (iSeq (eFld ["Program"] "members" (eVar 0))) (gNm 7) (z6l z2m))
    (sRet (eFn z4h (aCons (eVar 0) (aCons (eB z5m (aCons (eVar 5) aNil)) aNil)))))))))
def zsf:Nat→DF
 | 0=>fun _ _=>.no
 |n+1=>lenF 2 (runF 9 (zfp (zsf n)))
theorem zez (T:Tx K mg):∀n:Nat,FnD P w K mg base (9+3*n) (He.ga K "behind") (zsf n)
 | 0=>zn6
 |n+1=>by
  have ih:=zez T n
  obtain⟨fd,Fn⟩:=T.zoeb
  exact z7 (fn_D (N:=zg1) (ps:=["program", "mend"]) (k:=9+3*n+2) (g:=zfp (zsf n)) Fn zjf (fun cdv A outer s H E hr=>by
  have tk:L2N.Takes (cxOf (L2N.CX P w) P w K mg base zg1 "behind" (defScope z9h) (He.ga K "behind") cdv A outer s H E) (fun c d _ H=>E c d H):=L2N.takes_of rfl rfl rfl rfl
  exact (zj (z4 (zf (pv 1)) (zc3 rfl (zeg (dgn 2 zjf.nd) (zeg (dgn 3 zjf.nd) (zeg (dgn 4 zjf.nd) zww)))))
  (zj (ds_if (zr (zz hr.units) (zf (pv 3)) (zk) (nomark _) bl_eq) (zl (zo (de_fn tk (z87 T) (hr.mono (by omega)) (by rfl) T.z0ab T.zrab (ze (zf (pv 0)) (ze (zf (pv 2)) (ze (zf (pv 4)) zg)))))) zjb)
  (zj (z4 (zzw (zg)) (dgn 5 zjf.nd))
  (zj (z4 (zk) (dgn 6 zjf.nd))
  (zj (zpj (passes_of rfl) rfl (z2f (zrd (Cs:=["Program"]) T.z9n (zf (pv 0)))) (dgn 7 zjf.nd) (zj (z4 (zrd (Cs:=["Program"]) T.zp6 (zf (pv 7))) (dgn 8 zjf.nd))
  (zj (ds_if (zw6 zsn z3s bl_le bl_lt (zf (pv 6)) (zf (pv 3)) (de_op z5 (zf (pv 6)) (zf (pv 8)))) (zl (z4 (de_fn tk ih (hr.mono (by omega)) (by rfl) T.zm6 T.k_behind (ze (zf (pv 7)) (ze (zbb (ze (zf (pv 2)) (ze (de_op ztr (zf (pv 3)) (zf (pv 6))) (ze (zf (pv 4)) zg)))) zg))) (dgn 7 zjf.nd))) zjb)
  (zj (z0hb (i:=5) zjf.nd rfl (Or.inl rfl) (de_if (zr (zz hr.units) (zrd (Cs:=["Program"]) T.z5t (zf (pv 0))) (zn) (nomark _) bl_eq) (de_fn tk (z2k T) (hr.mono (by omega)) (by rfl) T.zfm T.zem (ze (zf (pv 7)) zg)) (znf (ze (zf (pv 7)) zg))))
  (zl (znfb (i:=6) zjf.nd rfl (Or.inl rfl) (zf (pv 8))))))))
  (zl (zo (de_fn tk (zjw T) (hr.mono (by omega)) (by rfl) T.z1x T.zwx (ze (zf (pv 0)) (ze (zvc zei (by rfl) T.zkt (by decide +kernel) (ze (zf (pv 5)) zg)) zg)))))))))))) (Fn.bindsN fun _ _ _ _ _ _ us hl=>match us,hl with |[_,_],_=>rfl)
def z2m:DF:=zsf 24
theorem zdbb (T:Tx K mg):FnD P w K mg base 81 (He.ga K "behind") z2m:=(zez (P:=P) (w:=w) (base:=base) T 24)
abbrev ze1:List Str:=["program", "mend"]
theorem zi9:FnScope ze1 ["program", "mend"] (defScope zhf):=⟨rfl,rfl,rfl,by decide +kernel,rfl,by decide +kernel,by decide +kernel⟩
def zep:DS:=
    (sSeq (sIf (bNot (bT (eFn zcg (aCons (eVar 0) (aCons (eVar 1) aNil))))) (ztg "BadMend" "mend" 27 (eVar 1)) sNext)
    (sRet (eFn z2m (aCons (eVar 0) (aCons (eVar 1) aNil)))))
def z4u:DF:=runF 2 zep
def z8i:DF:=lenF 2 z4u
theorem zabb (T:Tx K mg):∃fd,FunD K "mended" "mended" (defArgs zhf) (defBody zhf) (defScope zhf) [] [] (He.ga K "mended") fd∧FnG P w K mg base 82 (He.ga K "mended") fd ["program", "mend"] (spD K 2 z4u):=by
 obtain⟨fd,Fn⟩:=T.zmeb
 exact⟨fd,Fn,fn_D (N:=ze1) (ps:=["program", "mend"]) (k:=81) (g:=zep) Fn zi9 (fun cdv A outer s H E hr=>by
  have tk:L2N.Takes (cxOf (L2N.CX P w) P w K mg base ze1 "mended" (defScope zhf) (He.ga K "mended") cdv A outer s H E) (fun c d _ H=>E c d H):=L2N.takes_of rfl rfl rfl rfl
  exact (zj (ds_if (zhh (zqe (de_fn tk (z67 T) (rmo hr) (by rfl) T.zxab T.zoab (ze (zf (pv 0)) (ze (zf (pv 1)) zg))))) (zl (zbf rfl tk T.zbs (zhz T).choose_spec.1 (zhz T).choose_spec.2 (rmo hr) (by rfl) T.zm2 (zf (pv 1)))) zjb)
  (zl (zo (de_fn tk (zdbb T) (rmo hr) (by rfl) T.zm6 T.k_behind (ze (zf (pv 0)) (ze (zf (pv 1)) zg)))))))⟩
theorem z12 (T:Tx K mg):FnD P w K mg base 82 (He.ga K "mended") z8i:=by
 obtain⟨fd,Fn,Fg⟩:=zabb (P:=P) (w:=w) (base:=base) T
 exact z7 Fg (Fn.bindsN fun _ _ _ _ _ _ us hl=>match us,hl with |[_,_],_=>rfl)
abbrev znt:List Str:=["_law_state", "_law_spec", "_law_parts_here", "_law_k", "_law_far", "_law_odd_here", "_law_at"]
theorem zod:FnScope znt ["_law_state", "_law_spec"] (defScope zwd):=⟨rfl,rfl,rfl,by decide +kernel,rfl,by decide +kernel,by decide +kernel⟩
def zwg:DS:=(sIf (bT (eOp inTD (eIx [("Block",zb)] (eIx [("Block",zb)] (eVar 2) (eVar 6)) (eC (.int 0))) (eTup (aCons (eC (.str "fixed")) (aCons (eC (.str "hole")) (aCons (eC (.str "each")) (aCons (eC (.str "sum")) (aCons (eC (.str "tag")) (aCons (eC (.str "raw")) aNil))))))))) (sDrop (eApp (eVar 5) (aCons (eTup (aCons (eC (.str "drop")) (aCons (eVar 6) (aCons (eC (.int 0)) aNil)))) aNil))) sNext)
def zjk:DS:=
    (sSeq (sAsg (eFn zue (aCons (eVar 1) aNil)) (gNm 2))
    (sSeq (sAsg (eFn zp (aCons (eVar 0) (aCons (eLen [("Block",zi)] (aCons (eVar 2) aNil)) aNil))) (gNm 3))
    (sSeq (sAsg (eOp addD (eLen [("Block",zi)] (aCons (eVar 2) aNil)) (eFn zp (aCons (eVar 0) (aCons (eC (.int 3)) aNil)))) (gNm 4))
    (sSeq (sAsg (eCel (aCons (eC .non) (aCons (eC (.bl true)) (aCons (eC (.str "dedent")) (aCons (eLst (aCons (eC (.str "dedent")) (aCons (eVar 3) (aCons (eC (.int 0)) aNil)))) (aCons (eTup (aCons (eC (.str "dedent")) (aCons (eVar 3) aNil))) (aCons (eTup (aCons (eC (.str "dedent")) (aCons (eVar 3) (aCons (eC (.int 0)) (aCons (eC (.int 0)) aNil))))) (aCons (eTup (aNil)) (aCons (eTup (aCons (eC (.str "in")) (aCons (eVar 4) (aCons (eC (.int 1)) aNil)))) aNil))))))))) (gNm 5))
    (sSeq (sAsg (eAddC (eVar 5) (eLst (aCons (eTup (aCons (eC (.str "dedent")) (aCons (eC (.bl false)) (aCons (eC (.int 0)) aNil)))) (aCons (eTup (aCons (eC (.str "dedent")) (aCons (eVar 3) (aCons (eC (.bl false)) aNil)))) (aCons (eTup (aCons (eC (.str "in")) (aCons (eVar 3) (aCons (eC (.bl true)) aNil)))) (aCons (eTup (aCons (eC (.str "in")) (aCons (eC (.bl false)) (aCons (eC (.int 1)) aNil)))) aNil)))))) (gNm 5))
    (sSeq (sAsg (eAddC (eVar 5) (eLst (aCons (eTup (aCons (eC (.str "in")) (aCons (eVar 3) (aCons (eC (.int 0)) aNil)))) (aCons (eTup (aCons (eC (.str "in")) (aCons (eVar 3) (aCons (eC (.int 5)) aNil)))) (aCons (eTup (aCons (eC (.str "dedent")) (aCons (eVar 4) (aCons (eC (.int 0)) aNil)))) (aCons (eTup (aCons (eC (.str "dedent")) (aCons (eUn negD (eC (.int 1))) (aCons (eC (.int 0)) aNil)))) (aCons (eTup (aCons (eC (.str "tag")) (aCons (eVar 3) (aCons (eC (.int 0)) aNil)))) aNil))))))) (gNm 5))
    (sSeq (sAsg (eAddC (eVar 5) (eLst (aCons (eTup (aCons (eC (.str "out")) (aCons (eVar 3) (aCons (eC (.int 1)) aNil)))) (aCons (eTup (aCons (eTup (aCons (eC (.str "dedent")) aNil)) (aCons (eVar 3) (aCons (eC (.int 0)) aNil)))) (aCons (eTup (aCons (eC (.str "dedent")) (aCons (eVar 3) (aCons (eC (.int 1)) aNil)))) (aCons (eTup (aCons (eC (.str "in")) (aCons (eUn negD (eC (.int 1))) (aCons (eC (.int 2)) aNil)))) (aCons (eTup (aCons (eC (.str "in")) (aCons (eVar 3) (aCons (eUn negD (eC (.int 1))) aNil)))) aNil))))))) (gNm 5))
    (sSeq (sAsg (eAddC (eVar 5) (eLst (aCons (eTup (aCons (eC (.str "in")) (aCons (eVar 3) (aCons (eC (.str "1")) aNil)))) (aCons (eTup (aCons (eC (.str "dedent")) (aCons (eStr [("Block",z8)] (aCons (eVar 3) aNil)) (aCons (eC (.int 0)) aNil)))) (aCons (eTup (aCons (eVar 3) (aCons (eC (.str "dedent")) (aCons (eC (.int 0)) aNil)))) (aCons (eTup (aCons (eC (.str "drop")) (aCons (eVar 3) (aCons (eC (.int 1)) aNil)))) (aCons (eTup (aCons (eC (.str "drop")) (aCons (eVar 4) (aCons (eC (.int 0)) aNil)))) aNil))))))) (gNm 5))
    (sSeq (sAsg (eAddC (eVar 5) (eLst (aCons (eTup (aCons (eC (.str "drop")) (aCons (eUn negD (eC (.int 1))) (aCons (eC (.int 0)) aNil)))) (aCons (eTup (aCons (eC (.str "Dedent")) (aCons (eVar 3) (aCons (eC (.int 0)) aNil)))) (aCons (eTup (aCons (eC (.str "in")) (aCons (eVar 3) (aCons (eOp powD (eC (.int 10)) (eC (.int 19))) aNil)))) (aCons (eTup (aCons (eC (.str "in")) (aCons (eVar 3) (aCons (eTup (aCons (eC (.int 1)) aNil)) aNil)))) (aCons (eTup (aCons (eC (.str "drop")) (aCons (eVar 3) (aCons (eC .non) aNil)))) aNil))))))) (gNm 5))
    (sSeq (sFor (zbt (aCons (eLen [("Block",zi)] (aCons (eVar 2) aNil)) aNil)) (gNm 6) zwg)
    (sSeq (sIf (bT (eOp eqD (eLen [("Block",zi)] (aCons (eVar 2) aNil)) (eC (.int 16)))) (sAsg (eAddC (eVar 5) (eLst (aCons (eTup (aCons (eC (.str "dedent")) (aCons (eVar 3) (aCons (eC (.int 0)) aNil)))) (aCons (eTup (aCons (eC (.str "in")) (aCons (eVar 3) (aCons (eOp addD (eC (.int 1)) (eFn zp (aCons (eVar 0) (aCons (eC (.int 4)) aNil)))) aNil)))) aNil)))) (gNm 5)) sNext)
    (sRet (eVar 5)))))))))))))
def zkp:DF:=runF 7 zjk
def z9l:DF:=lenF 2 zkp
theorem zy4 (T:Tx K mg):∃fd,FunD K "_law_odd" "_law_odd" (defArgs zwd) (defBody zwd) (defScope zwd) [] [] (He.ga K "_law_odd") fd∧FnG P w K mg base 80 (He.ga K "_law_odd") fd ["_law_state", "_law_spec"] (spD K 2 zkp):=by
 obtain⟨fd,Fn⟩:=T.zb8
 exact⟨fd,Fn,fn_D (N:=znt) (ps:=["_law_state", "_law_spec"]) (k:=79) (g:=zjk) Fn zod (fun cdv A outer s H E hr=>by
  have tk:L2N.Takes (cxOf (L2N.CX P w) P w K mg base znt "_law_odd" (defScope zwd) (He.ga K "_law_odd") cdv A outer s H E) (fun c d _ H=>E c d H):=L2N.takes_of rfl rfl rfl rfl
  exact (zj (z4 (de_fn tk (z7r T) (rmo hr) (by rfl) T.z0n T.zxn (ze (zf (pv 1)) zg)) (dgn 2 zod.nd))
  (zj (z4 (de_fn tk (zfb T) (rmo hr) (by rfl) T.zpb T.zob (ze (zf (pv 0)) (ze (z6d (k:=2) (t:=[("Block",zi)]) tk (zuc T (by decide)) (rmo hr) (by rfl) T.b_len (ze (zf (pv 2)) zg)) zg))) (dgn 3 zod.nd))
  (zj (z4 (de_op z5 (z6d (k:=2) (t:=[("Block",zi)]) tk (zuc T (by decide)) (rmo hr) (by rfl) T.b_len (ze (zf (pv 2)) zg)) (de_fn tk (zfb T) (rmo hr) (by rfl) T.zpb T.zob (ze (zf (pv 0)) (ze (zk) zg)))) (dgn 4 zod.nd))
  (zj (z4 (zzw (ze (zen) (ze (de_bl) (ze (zn) (ze (znf (ze (zn) (ze (zf (pv 3)) (ze (zk) zg)))) (ze (zbb (ze (zn) (ze (zf (pv 3)) zg))) (ze (zbb (ze (zn) (ze (zf (pv 3)) (ze (zk) (ze (zk) zg))))) (ze (zbb (zg)) (ze (zbb (ze (zn) (ze (zf (pv 4)) (ze (zk) zg)))) zg))))))))) (dgn 5 zod.nd))
  (zj (z4 (zet (zf (pv 5)) (znf (ze (zbb (ze (zn) (ze (de_bl) (ze (zk) zg)))) (ze (zbb (ze (zn) (ze (zf (pv 3)) (ze (de_bl) zg)))) (ze (zbb (ze (zn) (ze (zf (pv 3)) (ze (de_bl) zg)))) (ze (zbb (ze (zn) (ze (de_bl) (ze (zk) zg)))) zg)))))) (dgn 5 zod.nd))
  (zj (z4 (zet (zf (pv 5)) (znf (ze (zbb (ze (zn) (ze (zf (pv 3)) (ze (zk) zg)))) (ze (zbb (ze (zn) (ze (zf (pv 3)) (ze (zk) zg)))) (ze (zbb (ze (zn) (ze (zf (pv 4)) (ze (zk) zg)))) (ze (zbb (ze (zn) (ze (de_un z0d (zk)) (ze (zk) zg)))) (ze (zbb (ze (zn) (ze (zf (pv 3)) (ze (zk) zg)))) zg))))))) (dgn 5 zod.nd))
  (zj (z4 (zet (zf (pv 5)) (znf (ze (zbb (ze (zn) (ze (zf (pv 3)) (ze (zk) zg)))) (ze (zbb (ze (zbb (ze (zn) zg)) (ze (zf (pv 3)) (ze (zk) zg)))) (ze (zbb (ze (zn) (ze (zf (pv 3)) (ze (zk) zg)))) (ze (zbb (ze (zn) (ze (de_un z0d (zk)) (ze (zk) zg)))) (ze (zbb (ze (zn) (ze (zf (pv 3)) (ze (de_un z0d (zk)) zg)))) zg))))))) (dgn 5 zod.nd))
  (zj (z4 (zet (zf (pv 5)) (znf (ze (zbb (ze (zn) (ze (zf (pv 3)) (ze (zn) zg)))) (ze (zbb (ze (zn) (ze (zyw (k:=1) (t:=[("Block",z8)]) tk (zjj T (by decide)) (rmo hr) (by rfl) T.b_str (ze (zf (pv 3)) zg)) (ze (zk) zg)))) (ze (zbb (ze (zf (pv 3)) (ze (zn) (ze (zk) zg)))) (ze (zbb (ze (zn) (ze (zf (pv 3)) (ze (zk) zg)))) (ze (zbb (ze (zn) (ze (zf (pv 4)) (ze (zk) zg)))) zg))))))) (dgn 5 zod.nd))
  (zj (z4 (zet (zf (pv 5)) (znf (ze (zbb (ze (zn) (ze (de_un z0d (zk)) (ze (zk) zg)))) (ze (zbb (ze (zn) (ze (zf (pv 3)) (ze (zk) zg)))) (ze (zbb (ze (zn) (ze (zf (pv 3)) (ze (de_op z55 (zk) (zk)) zg)))) (ze (zbb (ze (zn) (ze (zf (pv 3)) (ze (zbb (ze (zk) zg)) zg)))) (ze (zbb (ze (zn) (ze (zf (pv 3)) (ze (zen) zg)))) zg))))))) (dgn 5 zod.nd))
  (zj (zpj (passes_of rfl) rfl (zds (by rfl) T.zax (ze (z6d (k:=2) (t:=[("Block",zi)]) tk (zuc T (by decide)) (rmo hr) (by rfl) T.b_len (ze (zf (pv 2)) zg)) zg)) (dgn 6 zod.nd) (zl (ds_if (zr zzu (de_ix (k:=3) (t:=[("Block",zb)]) tk (zh T (by decide)) (rmo hr) (de_ix (k:=3) (t:=[("Block",zb)]) tk (zh T (by decide)) (rmo hr) (zf (pv 2)) (zf (pv 6)) (fun _ _=>rfl) (fun _ _=>by with_unfolding_all rfl)) (zk) (fun _ _=>rfl) (fun _ _=>by with_unfolding_all rfl)) (zbb (ze (zn) (ze (zn) (ze (zn) (ze (zn) (ze (zn) (ze (zn) zg))))))) (by rfl) z56) (zl (z7g (zgo (zf (pv 5)) (ze (zbb (ze (zn) (ze (zf (pv 6)) (ze (zk) zg)))) zg)))) zjb)))
  (zj (ds_if (zr (zz hr.units) (z6d (k:=2) (t:=[("Block",zi)]) tk (zuc T (by decide)) (rmo hr) (by rfl) T.b_len (ze (zf (pv 2)) zg)) (zk) (nomark _) bl_eq) (zl (z4 (zet (zf (pv 5)) (znf (ze (zbb (ze (zn) (ze (zf (pv 3)) (ze (zk) zg)))) (ze (zbb (ze (zn) (ze (zf (pv 3)) (ze (de_op z5 (zk) (de_fn tk (zfb T) (rmo hr) (by rfl) T.zpb T.zob (ze (zf (pv 0)) (ze (zk) zg)))) zg)))) zg)))) (dgn 5 zod.nd))) zjb)
  (zl (zo (zf (pv 5))))))))))))))))⟩
theorem zz4 (T:Tx K mg):FnD P w K mg base 80 (He.ga K "_law_odd") z9l:=by
 obtain⟨fd,Fn,Fg⟩:=zy4 (P:=P) (w:=w) (base:=base) T
 exact z7 Fg (Fn.bindsN fun _ _ _ _ _ _ us hl=>match us,hl with |[_,_],_=>rfl)
abbrev zil:List Str:=["_law_program", "_law_thing", "e"]
theorem zmn:FnScope zil ["_law_program", "_law_thing"] (defScope z3b):=⟨rfl,rfl,rfl,by decide +kernel,rfl,by decide +kernel,by decide +kernel⟩
def zhn:DS:=(sDrop (eFn z8i (aCons (eVar 0) (aCons (eVar 1) aNil))))
def zig:Addr→Addr→DS:=fun a_ dd_=>(sRet ((eAnd (eXis a_ dd_ "BadMend" 2 zec) (eAnd (eOp eqD (eIsi (isfT zge) (eXf a_ dd_ "BadMend" 2 "mend")) (eIsi (isfT zge) (eVar 1))) (eOp eqD (eXf a_ dd_ "BadMend" 2 "mend") (eVar 1))))))
def zni:DS:=
    (sSeq (sTry 2 3 "BadMend" zao zhn zig)
    (sRet (eC (.bl false))))
def zcl:DF:=runF 3 zni
def z7h:DF:=lenF 2 zcl
theorem zfw (T:Tx K mg):∃fd,FunD K "_law_refused" "_law_refused" (defArgs z3b) (defBody z3b) (defScope z3b) [] [] (He.ga K "_law_refused") fd∧FnG P w K mg base 83 (He.ga K "_law_refused") fd ["_law_program", "_law_thing"] (spD K 2 zcl):=by
 obtain⟨fd,Fn⟩:=T.ziy
 exact⟨fd,Fn,fn_D (N:=zil) (ps:=["_law_program", "_law_thing"]) (k:=82) (g:=zni) Fn zmn (fun cdv A outer s H E hr=>by
  have tk:L2N.Takes (cxOf (L2N.CX P w) P w K mg base zil "_law_refused" (defScope z3b) (He.ga K "_law_refused") cdv A outer s H E) (fun c d _ H=>E c d H):=L2N.takes_of rfl rfl rfl rfl
  exact (zj (ztkb (i:=2) (C:="BadMend") (nN:=3) (h:=zig) rfl rfl zmn.nd rfl rfl ⟨by rfl,by decide,.inl T.zm2⟩ tk T.zn8 (fun a_ dd_ f_ p_ dl_ m_ hl_=>match dl_,hl_ with |[_,_,_],_=>by simp[zig,zv3,zx8,zq8,z8fb,zrfb])
  (fun W_ pn_ xe_ tk ps_=>(zl (z7g (de_fn tk (z12 T) (rmo hr) (by rfl) T.zk6 T.ze6 (ze (zf (pv 0)) (ze (zf (pv 1)) zg))))))
  (fun a_ dd_ oe_ pn_ hz_ hf_=>(zl (zo ((z7t (zxkb (a:=a_) (dd:=dd_) (C:="BadMend") (i:=2) T.z2q hz_ hf_ (by rfl) T.zmb (pv 2) (pe_bltn (v:=.ty "ValueError") (by rfl) T.z7d (by decide +kernel) rfl) (fun _ z=>z) T.zec) (z7t (zgs (zz (hr.hot _).units) (zsj (by rfl) T.zmb (de_xf (a:=a_) (dd:=dd_) (C:="BadMend") (i:=2) T.z2q T.zun hz_ hf_ (pv 2)) (pe_bltn (v:=.ty "bool") (by rfl) T.z76 (by decide +kernel) rfl) (.ty "bool") T.zge) (zsj (by rfl) T.zmb (zf (pv 1)) (pe_bltn (v:=.ty "bool") (by rfl) T.z76 (by decide +kernel) rfl) (.ty "bool") T.zge) (nomark _)) (zkz (zgs (zz (hr.hot _).units) (de_xf (a:=a_) (dd:=dd_) (C:="BadMend") (i:=2) T.z2q T.zun hz_ hf_ (pv 2)) (zf (pv 1)) (nomark _))))))))))
  (zl (zo (de_bl)))))⟩
theorem zow (T:Tx K mg):FnD P w K mg base 83 (He.ga K "_law_refused") z7h:=by
 obtain⟨fd,Fn,Fg⟩:=zfw (P:=P) (w:=w) (base:=base) T
 exact z7 Fg (Fn.bindsN fun _ _ _ _ _ _ us hl=>match us,hl with |[_,_],_=>rfl)
abbrev N_law:List Str:=["_law_script", "_law_state", "_law_words", "_law_spec", "_law_program", "_law_mends", "_law_thing"]
theorem sc_law:FnScope N_law ["_law_script"] (defScope st_law):=⟨rfl,rfl,rfl,by decide +kernel,rfl,by decide +kernel,by decide +kernel⟩
def zs5:DS:=(sIf (bNot (bT (eFn z7h (aCons (eVar 4) (aCons (eVar 6) aNil))))) (sRet (eC (.bl false))) sNext)
def den_law:DS:=
    (sSeq (sAsg (eLstH (aCons (eC (.int 0)) (aCons (eC (.int 0)) (aCons (eC (.int 0)) (aCons (eB listD (aCons (eVar 0) aNil)) aNil))))) (gNm 1))
    (sSeq (sAsg (eTup (aCons (eC (.str "in")) (aCons (eC (.str "out")) (aCons (eC (.str "first")) (aCons (eC (.str "rest")) (aCons (eC (.str "dedent")) (aCons (eC (.str "flush")) (aCons (eC (.str "tag")) (aCons (eC (.str "raw")) (aCons (eC (.str "in")) (aCons (eC (.str "dedent")) aNil))))))))))) (gNm 2))
    (sSeq (sAsg (eFn z3m (aCons (eVar 1) (aCons (eFn zuh (aCons (eVar 1) (aCons (eC (.int 3)) aNil))) (aCons (eVar 2) (aCons (eOp addD (eC (.int 1)) (eFn zp (aCons (eVar 1) (aCons (eC (.int 15)) aNil)))) (aCons (eC (.int 2)) aNil)))))) (gNm 3))
    (sSeq (sAsg (eFn zud (aCons (eVar 3) aNil)) (gNm 4))
    (sSeq (sAsg (eFn z7l (aCons (eVar 4) aNil)) (gNm 5))
    (sSeq (sIf (bT (eOp neD (eVar 5) (eLst (aNil)))) (sDrop (eFn z8i (aCons (eVar 4) (aCons (eIx [("Block",zb)] (eVar 5) (eFn zp (aCons (eVar 1) (aCons (eLen [("Block",zi)] (aCons (eVar 5) aNil)) aNil)))) aNil)))) sNext)
    (sSeq (sFor (iSeq (eFn z9l (aCons (eVar 1) (aCons (eVar 3) aNil)))) (gNm 6) zs5)
    (sRet (eC (.bl true))))))))))
def R_law:DF:=runF 7 den_law
def F_law:DF:=lenF 1 R_law
theorem fg_law (T:Tx K mg):∃fd,FunD K "law" "law" (defArgs st_law) (defBody st_law) (defScope st_law) [] [] (He.ga K "law") fd∧FnG P w K mg base 153 (He.ga K "law") fd ["_law_script"] (spD K 1 R_law):=by
 obtain⟨fd,Fn⟩:=T.d_law
 exact⟨fd,Fn,fn_D (N:=N_law) (ps:=["_law_script"]) (k:=152) (g:=den_law) Fn sc_law (fun cdv A outer s H E hr=>by
  have tk:L2N.Takes (cxOf (L2N.CX P w) P w K mg base N_law "law" (defScope st_law) (He.ga K "law") cdv A outer s H E) (fun c d _ H=>E c d H):=L2N.takes_of rfl rfl rfl rfl
  exact (zj (z4 (z74 (ze (zk) (ze (zk) (ze (zk) (ze (zvc ztj (by rfl) T.zpz (by decide +kernel) (ze (zf (pv 0)) zg)) zg))))) (dgn 1 sc_law.nd))
  (zj (z4 (zbb (ze (zn) (ze (zn) (ze (zn) (ze (zn) (ze (zn) (ze (zn) (ze (zn) (ze (zn) (ze (zn) (ze (zn) zg))))))))))) (dgn 2 sc_law.nd))
  (zj (z4 (de_fn tk (z52 T) (rmo hr) (by rfl) T.zq4 T.zd4 (ze (zf (pv 1)) (ze (de_fn tk (z72 T) (rmo hr) (by rfl) T.zs4 T.zf4 (ze (zf (pv 1)) (ze (zk) zg))) (ze (zf (pv 2)) (ze (de_op z5 (zk) (de_fn tk (zfb T) (rmo hr) (by rfl) T.zpb T.zob (ze (zf (pv 1)) (ze (zk) zg)))) (ze (zk) zg)))))) (dgn 3 sc_law.nd))
  (zj (z4 (de_fn tk (zt0 T) (rmo hr) (by rfl) T.zci T.zai (ze (zf (pv 3)) zg)) (dgn 4 sc_law.nd))
  (zj (z4 (de_fn tk (zlw T) (rmo hr) (by rfl) T.zaz T.z3y (ze (zf (pv 4)) zg)) (dgn 5 sc_law.nd))
  (zj (ds_if (zr (zrn hr.units) (zf (pv 5)) (znf (zg)) (nomark _) bl_ne) (zl (z7g (de_fn tk (z12 T) (rmo hr) (by rfl) T.zk6 T.ze6 (ze (zf (pv 4)) (ze (de_ix (k:=3) (t:=[("Block",zb)]) tk (zh T (by decide)) (rmo hr) (zf (pv 5)) (de_fn tk (zfb T) (rmo hr) (by rfl) T.zpb T.zob (ze (zf (pv 1)) (ze (z6d (k:=2) (t:=[("Block",zi)]) tk (zuc T (by decide)) (rmo hr) (by rfl) T.b_len (ze (zf (pv 5)) zg)) zg))) (fun _ _=>rfl) (fun _ _=>by with_unfolding_all rfl)) zg))))) zjb)
  (zj (zpj (passes_of rfl) rfl (z2f (de_fn tk (zz4 T) (rmo hr) (by rfl) T.zy7 T.zu7 (ze (zf (pv 1)) (ze (zf (pv 3)) zg)))) (dgn 6 sc_law.nd) (zl (ds_if (zhh (zqe (de_fn tk (zow T) (rmo hr) (by rfl) T.z4x T.zzx (ze (zf (pv 4)) (ze (zf (pv 6)) zg))))) (zl (zo (de_bl))) zjb)))
  (zl (zo (de_bl)))))))))))⟩
theorem fd_law (T:Tx K mg):FnD P w K mg base 153 (He.ga K "law") F_law:=by
 obtain⟨fd,Fn,Fg⟩:=fg_law (P:=P) (w:=w) (base:=base) T
 exact z7 Fg (Fn.bindsN fun _ _ _ _ _ _ us hl=>match us,hl with |[_],_=>rfl)
end
end LK
namespace LK
open PySem PySem.Spec L2 DL TM SX
structure Wd (w:List Nat):Prop where
 hd:∃c t,w=c::t∧c≠32
 la:∃t c,w=t++[c]∧c≠32
 all:∀c∈w,32≤c∧c<127
theorem Wd.one {c:Nat} (h:33≤c∧c<127):Wd [c]:=⟨⟨c,[],rfl,by omega⟩,⟨[],c,rfl,by omega⟩,fun x hx=>by simp at hx;omega⟩
theorem Wd.app {w u:List Nat} (h:Wd w) (hu:Wd u) (j:Nat):Wd (w++List.replicate j 32++u):=by
 obtain⟨c,t,e,hc⟩:=h.hd
 obtain⟨t2,c2,e2,hc2⟩:=hu.la
 refine⟨⟨c,t++List.replicate j 32++u,by rw[e];simp,hc⟩,⟨w++List.replicate j 32++t2,c2,by rw[e2];simp,hc2⟩,fun x hx=>?_⟩
 simp only[List.mem_append,List.mem_replicate] at hx
 rcases hx with (hx |hx) |hx
 ·exact h.all x hx
 ·omega
 ·exact hu.all x hx
theorem Wd.rep {w:List Nat} (h:Wd w):∀j:Nat,Wd (List.replicate (j+1) w).flatten
 | 0=>by simpa using h
 |j+1=>by
  have:=h.app (Wd.rep h j) 0
  rw[List.replicate_succ,List.flatten_cons]
  simpa using this
end LK
namespace LK
open PySem PySem.Spec L2 DL TM SX
abbrev Row:=Int × List Nat
def rowD (r:Row):D:=.tup [.int r.1,.str (S r.2)]
def zxd (r:Row):List Nat:=List.replicate r.1.toNat 32++r.2
/-- a blank line, or a margin up to B and a word of up to L signs -/
def RowIn (B L:Nat) (r:Row):Prop:=(r.1 = -1∧r.2=[])∨(0≤r.1∧r.1≤B∧Wd r.2∧r.2.length≤L)
theorem RowIn.mono {B L B' L':Nat} {r:Row} (h:RowIn B L r) (hb:B≤B') (hl:L≤L'):RowIn B' L' r:=by
 rcases h with h |⟨h1,h2,h3,h4⟩
 ·exact .inl h
 ·exact .inr ⟨h1,by omega,h3,by omega⟩
theorem RowIn.w {B L:Nat} {r:Row} (h:RowIn B L r):r.2.length≤L:=by
 rcases h with ⟨_,h⟩ |⟨_,_,_,h⟩
 ·rw[h];simp
 ·exact h
theorem RowIn.t {B L:Nat} {r:Row} (h:RowIn B L r) : -1≤r.1∧r.1≤B:=by
 rcases h with ⟨h,_⟩ |⟨h,h2,_,_⟩ <;> omega
theorem RowIn.len {B L:Nat} {r:Row} (h:RowIn B L r):(zxd r).length≤B+L:=by
 have:=h.w
 have:=h.t
 unfold zxd
 rw[List.length_append,List.length_replicate]
 omega
theorem RowIn.chr {B L:Nat} {r:Row} (h:RowIn B L r):∀c∈zxd r,32≤c∧c<127:=fun c hc=>by
 unfold zxd at hc
 rcases List.mem_append.mp hc with hc |hc
 ·have:=(List.mem_replicate.mp hc).2
  omega
 ·rcases h with ⟨_,h⟩ |⟨_,_,h,_⟩
  ·rw[h] at hc;cases hc
  ·exact h.all c hc
theorem RowIn.nil {B L:Nat} {r:Row} (h:RowIn B L r):zxd r=[]↔r.1 = -1:=by
 rcases h with ⟨h1,h2⟩ |⟨h1,_,h2,_⟩
 ·constructor
  ·exact fun _=>h1
  ·intro _
   unfold zxd
   rw[h1,h2]
   rfl
 ·constructor
  ·intro e
   obtain⟨c,t,e2,_⟩:=h2.hd
   unfold zxd at e
   rw[e2] at e
   simp at e
  ·omega
theorem zdjb {w:List Nat} (h:Wd w) (p:List Nat):rdw (p++w)=p++w:=by
 obtain⟨t,c,rfl,hc⟩:=h.la
 unfold rdw
 rw[←List.append_assoc,List.reverse_append,List.reverse_singleton,List.singleton_append,List.dropWhile_cons,if_neg (by simp[sp,hc])]
 simp
theorem z25 {B L:Nat} {r:Row} (h:RowIn B L r):rdw (zxd r)=zxd r:=by
 rcases h with ⟨h1,h2⟩ |⟨_,_,h,_⟩
 ·unfold zxd;rw[h1,h2];rfl
 ·exact zdjb h _
@[simp] theorem zvmb (i j:Nat) (r:Row) (dl:DL.Env):gTp 2 (zfe (gNm i) (zfe (gNm j) gNil_)) (.d (rowD r)) dl=some ((dl.set i (some (.d (.int r.1)))).set j (some (.d (.str (S r.2))))):=rfl
end LK
namespace LK
open PySem PySem.Spec L2 DL TM SX
/-- data that isinstance knows: no object of an own class but a block -/
def Plain (x:D):Prop:=match x with
 |.cls _=>False
 |.obj _ _ _=>False
 |.dic _ _=>False
 |.opq=>False
 |.tk _=>False
 |_=>True
def intIn (x:D) (n:Int):Bool:=match x with
 |.int i=>decide (0≤i)&&decide (i<n)
 |_=>false
def zj6:D→Bool
 |.int _=>true
 |_=>false
theorem z3t {x:D} (h:Plain x) (m:Mem):z1m [.d x] m = .ok (.d (.bl (zj6 x))) m:=by
 cases x <;> first |exact h.elim |simp[z1m,z8q,zkm,zki,zge,isfT,zj6]
theorem zh4 {x:D} (h:Plain x) (n:Int) (m:Mem):zbj [.d x,.d (.int n)] m = .ok (.d (.bl (intIn x n))) m:=by
 cases x with
 |int i=>by_cases hi:0≤i <;> simp[zbj,zjp,zik,z3t (x:=.int i) True.intro,zj6,intIn,hi]
 |cls _=>exact h.elim
 |obj _ _ _=>exact h.elim
 |dic _ _=>exact h.elim
 |opq=>exact h.elim
 |tk _=>exact h.elim
 |_=>simp[zbj,zjp,zik,z3t h,zj6,intIn]
end LK
namespace LK
open PySem PySem.Spec L2 DL TM SX NT
theorem e_a:Str.ofString "a" = S [97]:=by decide
theorem e_z:Str.ofString "z" = S [122]:=by decide
theorem e_col:Str.ofString ":" = S [58]:=by decide
theorem le_1 (a b:Nat):leD (.str (S [a])) (.str (S [b]))=some (.bl (decide (a≤b))):=by
 show some (D.bl (!decide (([b]:List Nat) < [a])))=_
 congr 2
 by_cases h:a≤b
 ·rw[decide_eq_true h,decide_eq_false]
  ·rfl
  ·intro z
   cases (show List.Lex (· < ·) [b] [a] from z) with
   |rel h2=>omega
   |cons h2=>cases h2
 ·rw[decide_eq_false h,decide_eq_true]
  ·rfl
  ·exact List.Lex.rel (by omega)
theorem chr_S (w:List Nat):chrD (S w)=w.map fun c=>.str (S [c]):=rfl
theorem zhib (bs:List Bool):allD [.lst (bs.map D.bl)]=some (.bl (bs.all id)):=by
 show (match asBls (bs.map D.bl) with |some ns=>some (D.bl (ns.all id)) |none=>none)=_
 rw[zicb]
theorem z8s {w:List Nat} (hl:w.length≤100000) (m:Mem):z0m [.d (.str (S w))] m = .ok (.d (.bl (isTag w))) m:=by
 have e1:=len_str (a:=w) (by unfold sizeLine;omega)
 have ec:=zgp (g:=gNm 1) (e:=zkr) (wd:=[some (.d (.str (S w))),none]) (m:=m) (enc:=fun c:Nat=>.str (S [c])) (dec:=fun c=>D.bl (z7c c)) w (fun c _=>⟨_,rfl,by
  by_cases h:97≤c <;> simp[zkr,e_a,e_z,le_1,z7c,h]⟩) (by unfold sizeLine;omega)
 have e2:w.map (fun c=>D.bl (z7c c))=(w.map z7c).map D.bl:=by rw[List.map_map];rfl
 rw[e2,←chr_S] at ec
 have e3:=zhib (w.map z7c)
 have e4:(w.map z7c).all id=w.all z7c:=by rw[List.all_map];rfl
 rw[e4] at e3
 generalize (w.map z7c).map D.bl=bs at *
 unfold isTag
 by_cases h1:1≤w.length
 ·by_cases h2:w.length≤8
  ·have h1':(1:Int)≤(w.length:Int):=by omega
   have h2':(w.length:Int)≤8:=by omega
   simp[z0m,zws,zzl,zoe,isfT,e1,h1',h2',h1,h2,ec,e3]
  ·have h1':(1:Int)≤(w.length:Int):=by omega
   have h2':¬(w.length:Int)≤8:=by omega
   simp[z0m,zws,zzl,zoe,isfT,e1,h1',h2',h1,h2]
 ·have h1':¬(1:Int)≤(w.length:Int):=by omega
  simp[z0m,zws,zzl,zoe,isfT,e1,h1',h1]
end LK
namespace LK
open PySem PySem.Spec L2 DL TM SX
def Line (a:List Nat):Prop:=Txt8 a∧10 ∉ a
theorem zw7 {a:List Nat} (h:Line a) (m:Mem):zzs [.d (.str (S a))] m = .ok (.d (.bl true)) m:=by
 have e:ninSD (.str (S [10])) (.str (S a))=some (.bl true):=by
  show some (D.bl (!(!(Builtin.Str.occurrences (S a) (S [10]) 0 (S a).length 1).isEmpty)))=_
  rw[nl_S,decide_eq_false h.2]
  rfl
 simp[zzs,zix,zzq,zoe,isfT,e_nl,e]
theorem RowIn.line {B L:Nat} {r:Row} (h:RowIn B L r) (hz:B+L≤100000):Line (zxd r):=
 ⟨⟨fun c hc=>by have:=h.chr c hc;omega,by have:=h.len;omega⟩,fun hc=>by have:=h.chr 10 hc;omega⟩
def blk (ls:List (List Nat)):D:=.obj "Block" ["rows"] [.lst (lnD ls)]
def rowsOf (ls:List (List Nat)):List (List Nat):=if ls=[] then [[]] else ls.map TM.rdw
@[simp] theorem zgpb (x:D):fldD ["Block"] "rows" (.obj "Block" ["rows"] [x])=some x:=by
 show (if (("Block" : Str))∈([("Block" : Str)]:List Str) then fldL ["rows"] [x] "rows" else none)=_
 rw[if_pos (List.mem_singleton.mpr rfl)]
 show (if (("rows" : Str)) = "rows" then some x else _)=_
 rw[if_pos rfl]
theorem z82 {α : Type} (enc : α → D) (xs:List α):enumD (xs.map enc)=xs.zipIdx.map fun p=>.tup [.int (p.2:Int),enc p.1]:=by
 unfold enumD
 refine List.ext_getElem? fun i=>?_
 simp[List.getElem?_mapIdx,List.getElem?_zipIdx]
 cases xs[i]? <;> rfl
@[simp] theorem gtp2 (i j:Nat) (x y:D) (dl:DL.Env):gTp 2 (zfe (gNm i) (zfe (gNm j) gNil_)) (.d (.tup [x,y])) dl=some ((dl.set i (some (.d x))).set j (some (.d y))):=rfl
@[simp] theorem gtp3 (i j l:Nat) (x y z:D) (dl:DL.Env):gTp 3 (zfe (gNm i) (zfe (gNm j) (zfe (gNm l) gNil_))) (.d (.tup [x,y,z])) dl=some (((dl.set i (some (.d x))).set j (some (.d y))).set l (some (.d z))):=rfl
@[simp] theorem z8rb (e:DE) (n:Nat) (gs:DGs) (dl:DL.Env) (m:Mem):sAsg e (gTp n gs) dl m=(e dl m).thenS dl fun w m1=>(match gTp n gs w dl with
 |some dl1=>.nx dl1 m1
 |none=>.no):=nr rfl
@[simp] theorem zyob:(Str.ofString "flush" = Str.ofString "rows")=False:=eq_false (by decide)
@[simp] theorem zzob:(Str.ofString "first" = Str.ofString "rows")=False:=eq_false (by decide)
@[simp] theorem zmrb:(Str.ofString "rest" = Str.ofString "rows")=False:=eq_false (by decide)
@[simp] theorem zkmb:(Str.ofString "tagged" = Str.ofString "rows")=False:=eq_false (by decide)
end LK
namespace LK
open PySem PySem.Spec L2 DL TM SX
def mar (a:List Nat):Int:=if TM.rdw (TM.ldw a)=[] then -1 else (a.length:Int)-((TM.ldw a).length:Int)
theorem z2jb {a:List Nat} (ha:Txt8 a) (m:Mem):zpg [.d (.str (S a))] m = .ok (.d (.int (mar a))) m:=by
 by_cases h:TM.rdw (TM.ldw a)=[]
 ·simp[-zkh,zpg,zrm,zzi,e_sp,e_em,ztz ha.sz,eq_str,h,mar]
 ·simp[-zkh,zpg,zrm,zzi,e_sp,e_em,ztz ha.sz,zb0 ha.sz,len_str ha.sz,len_str ha.ldw.sz,eq_str,h,mar]
end LK
namespace LK
open PySem PySem.Spec L2 DL TM SX NT PG
theorem za6 (m:Mem) (x0:Option W):∀(k:Nat) (w:List Nat),w.length<k→w.length≤50000→∀(n c:Nat) (acc:List D) (x4 x5 x6:Option W),w.length+1<n→acc.length+w.length+1<sizeLine →
  ∃r,z7f z7e ztd n [x0,some (.c m.length),some (.d (.int (c:Int))),some (.d (.str (S w))),x4,x5,x6] (m++[.lst acc])=r ∧
   (r = .rt (.c m.length) (m++[.lst (acc++(lnF k c w).map PG.ndP)])∨∃dl,r = .nx dl (m++[.lst (acc++(lnF k c w).map PG.ndP)])∧dl[1]?=some (some (.c m.length)))
 | 0,w,h,_,n,c,acc,x4,x5,x6,_,_=>by omega
 |k+1,w,hk,hz,n,c,acc,x4,x5,x6,h,hs=>by
  obtain⟨n,rfl⟩:∃k,n=k+1:=⟨n-1,by omega⟩
  have hcol:¬(S [58]=S []):=fun z=>by cases zex z
  have ha:acc.length<sizeLine:=by omega
  by_cases hw0:w=[]
  ·subst hw0
   refine⟨_,rfl,.inr ⟨[x0,some (.c m.length),some (.d (.int (c:Int))),some (.d (.str (S []))),x4,x5,x6],?_,rfl⟩⟩
   have e:z7e [x0,some (.c m.length),some (.d (.int (c:Int))),some (.d (.str (S []))),x4,x5,x6] (m++[.lst acc]) = .ok false (m++[.lst acc]):=by
    simp[z7e,e_em]
   rw[ze7 e]
   simp[lnF]
  ·have hne:¬(S w=S []):=fun z=>hw0 (zex z)
   have e:z7e [x0,some (.c m.length),some (.d (.int (c:Int))),some (.d (.str (S w))),x4,x5,x6] (m++[.lst acc]) = .ok true (m++[.lst acc]):=by
    simp[z7e,e_em,hne]
   cases hc:cutC w with
   |none=>
    have hen:lnF (k+1) c w=[(c,w)]:=by
     unfold lnF
     rw[if_neg hw0,hc]
    rw[hen]
    refine⟨_,rfl,.inl (zh1 e ?_)⟩
    have ep:=zlgb (zn3.mp hc) (show w.length≤sizeLine by unfold sizeLine;omega)
    simp[ztd,e_em,e_col,ep,ha,PG.ndP]
   |some p=>
    obtain⟨t,y⟩:=p
    obtain⟨e1,e2⟩:=z7w.mp hc
    have hlen:t.length+1+y.length=w.length:=by rw[e1];simp;omega
    have ep:=zmgb (t:=y) e2 (by rw[←e1];unfold sizeLine;omega)
    rw[←e1] at ep
    have et:=z8s (w:=t) (by omega) (m++[.lst acc])
    have et':=fun a=>z8s (w:=t) (by omega) (m++[.lst a])
    by_cases hgo:isTag t=true∧(y=[]∨y.head?=some 32)
    ·obtain⟨htg,hyn⟩:=hgo
     have hen:lnF (k+1) c w=(c,t++[58])::lnF k (c+t.length+1+(y.length-(ldw y).length)) (ldw y):=by
      conv=>lhs;unfold lnF
      rw[if_neg hw0,hc]
      exact if_pos ⟨htg,hyn⟩
     rw[hen]
     rw[htg] at et
     have hly:(ldw y).length≤y.length:=(List.dropWhile_sublist _).length_le
     have ea:addD (.str (S t)) (.str (S [58]))=some (.str (S (t++[58]))):=add_str (by simp;unfold sizeLine;omega)
     have els:=zb0 (a:=y) (show y.length≤sizeLine by unfold sizeLine;omega)
     have l1:=len_str (a:=t) (by unfold sizeLine;omega)
     have l2:=len_str (a:=y) (by unfold sizeLine;omega)
     have l3:=len_str (a:=ldw y) (by unfold sizeLine;omega)
     have e3:ztd [x0,some (.c m.length),some (.d (.int (c:Int))),some (.d (.str (S w))),x4,x5,x6] (m++[.lst acc])
       = .nx [x0,some (.c m.length),some (.d (.int ((c:Int)+(t.length:Int)+1+(y.length:Int)-((ldw y).length:Int)))),some (.d (.str (S (ldw y)))),some (.d (.str (S t))),some (.d (.str (S [58]))),some (.d (.str (S y)))] (m++[.lst (acc++[PG.ndP (c,t++[58])])]):=by
      rcases hyn with hyn |hyn
      ·have hye:S y=S []:=by rw[hyn]
       rw[hye] at els l2
       simp[ztd,e_em,e_col,e_sp,ep,ha,PG.ndP,hcol,et,hye,ea,els,l1,l2,l3]
      ·have hye:¬(S y=S []):=fun z=>by rw[zex z] at hyn;cases hyn
       have es:=zsy y 32
       rw[decide_eq_true hyn] at es
       simp[ztd,e_em,e_col,e_sp,ep,ha,PG.ndP,hcol,et,hye,es,ea,els,l1,l2,l3]
     rw[zf7 e e3]
     have ec:(c:Int)+(t.length:Int)+1+(y.length:Int)-((ldw y).length:Int)=((c+t.length+1+(y.length-(ldw y).length):Nat):Int):=by
      omega
     rw[ec]
     obtain⟨r,er,hr⟩:=za6 m x0 k (ldw y) (by omega) (by omega) n (c+t.length+1+(y.length-(ldw y).length)) (acc++[PG.ndP (c,t++[58])]) (some (.d (.str (S t)))) (some (.d (.str (S [58])))) (some (.d (.str (S y)))) (by omega) (by simp only[List.length_append,List.length_singleton];omega)
     refine⟨r,er,?_⟩
     have en:acc++((c,t++[58])::lnF k (c+t.length+1+(y.length-(ldw y).length)) (ldw y)).map PG.ndP=acc++[PG.ndP (c,t++[58])]++(lnF k (c+t.length+1+(y.length-(ldw y).length)) (ldw y)).map PG.ndP:=by simp
     rw[en]
     exact hr
    ·have hen:lnF (k+1) c w=[(c,w)]:=by
      conv=>lhs;unfold lnF
      rw[if_neg hw0,hc]
      exact if_neg hgo
     rw[hen]
     refine⟨_,rfl,.inl (zh1 e ?_)⟩
     by_cases htg:isTag t=false
     ·rw[htg] at et
      simp[ztd,e_em,e_col,ep,ha,PG.ndP,hcol,et]
     ·have htg':isTag t=true:=by simpa using htg
      have hy1:¬y=[]:=fun z=>hgo ⟨htg',.inl z⟩
      have hy2:¬y.head?=some 32:=fun z=>hgo ⟨htg',.inr z⟩
      rw[htg'] at et
      have hte:¬(S y=S []):=fun z=>hy1 (zex z)
      have es:=zsy y 32
      rw[decide_eq_false hy2] at es
      simp[ztd,e_em,e_col,e_sp,ep,ha,PG.ndP,hcol,et,hte,es]
/-- line_nodes of a word without blanks at its ends -/
theorem z21 {w:List Nat} (hz:w.length≤50000) (h8:Txt8 w) (h0:w≠[]) (h1:word w=w) (h2:ldw w=w) (m:Mem):zgi [.d (.str (S w))] m = .ok (.d (.lst ((z9m w).map PG.ndP))) m:=by
 have em:=z2jb h8 (m++[.lst []])
 have emm:mar w=((0:Nat):Int):=by
  unfold mar
  rw[show TM.rdw (TM.ldw w)=w from h1,if_neg h0,h2]
  omega
 rw[emm] at em
 have es:=ztz (a:=w) h8.sz
 rw[show TM.rdw (TM.ldw w)=w from h1] at es
 obtain⟨r,er,hr⟩:=za6 m (some (.d (.str (S w)))) (w.length+1) w (by omega) hz 100000 0 [] none none none (by omega) (by simp only[List.length_nil];unfold sizeLine;omega)
 rw[List.nil_append] at hr
 have hl:z9m w=lnF (w.length+1) 0 w:=rfl
 rw[←hl] at hr
 rw[show ((0:Nat):Int)=0 from rfl] at em er
 generalize (z9m w).map PG.ndP=rs at *
 rcases hr with rfl |⟨dl,rfl,hd⟩
 ·simp[zgi,znk,z0h,em,e_sp,es,zt5,er]
 ·simp[zgi,znk,z0h,em,e_sp,es,zt5,er,hd]
end LK
namespace LK
open PySem PySem.Spec L2 DL TM SX NT PG
section
variable (l:Lab) (ms:List D) (sz sp:Nat)
theorem z3r (f:Str):fldD ["Program"] f (obD l ms sz sp)=fldL fns [.str l.w,.tup ms,nmD l,amD l,tgD l,bkD l,ctD l,.int (sz:Int),.int (sp:Int)] f:=by
 unfold obD fldD
 simp only[]
 rw[if_pos (List.mem_singleton.mpr rfl)]
@[simp] theorem zdpb:fldD ["Program"] "word" (obD l ms sz sp)=some (.str l.w):=by
 rw[z3r]
 simp only[fldL,fns]
 repeat (first |rw[if_pos True.intro] |rw[if_neg (by decide)])
@[simp] theorem zlib:fldD ["Program"] "members" (obD l ms sz sp)=some (.tup ms):=by
 rw[z3r]
 simp only[fldL,fns]
 repeat (first |rw[if_pos True.intro] |rw[if_neg (by decide)])
@[simp] theorem zfpb:fldD ["Program"] "name" (obD l ms sz sp)=some (nmD l):=by
 rw[z3r]
 simp only[fldL,fns]
 repeat (first |rw[if_pos True.intro] |rw[if_neg (by decide)])
@[simp] theorem zmkb:fldD ["Program"] "amount" (obD l ms sz sp)=some (amD l):=by
 rw[z3r]
 simp only[fldL,fns]
 repeat (first |rw[if_pos True.intro] |rw[if_neg (by decide)])
@[simp] theorem zyrb:fldD ["Program"] "tag" (obD l ms sz sp)=some (tgD l):=by
 rw[z3r]
 simp only[fldL,fns]
 repeat (first |rw[if_pos True.intro] |rw[if_neg (by decide)])
@[simp] theorem zzmb:fldD ["Program"] "block" (obD l ms sz sp)=some (bkD l):=by
 rw[z3r]
 simp only[fldL,fns]
 repeat (first |rw[if_pos True.intro] |rw[if_neg (by decide)])
@[simp] theorem zzrb:fldD ["Program"] "cut" (obD l ms sz sp)=some (ctD l):=by
 rw[z3r]
 simp only[fldL,fns]
 repeat (first |rw[if_pos True.intro] |rw[if_neg (by decide)])
@[simp] theorem zepb:fldD ["Program"] "size" (obD l ms sz sp)=some (.int (sz:Int)):=by
 rw[z3r]
 simp only[fldL,fns]
 repeat (first |rw[if_pos True.intro] |rw[if_neg (by decide)])
@[simp] theorem zymb:fldD ["Program"] "spots" (obD l ms sz sp)=some (.int (sp:Int)):=by
 rw[z3r]
 simp only[fldL,fns]
 repeat (first |rw[if_pos True.intro] |rw[if_neg (by decide)])
end
section
variable (p:Pg)
@[simp] theorem zpq:fldD ["Program"] "word" (pgD p)=some (.str p.lab.w):=by rw[zek];simp
@[simp] theorem zap:fldD ["Program"] "members" (pgD p)=some (.tup (p.ms.map pgD)):=by rw[zek];simp
@[simp] theorem zv4:fldD ["Program"] "name" (pgD p)=some (nmD p.lab):=by rw[zek];simp
@[simp] theorem z4ab:fldD ["Program"] "amount" (pgD p)=some (amD p.lab):=by rw[zek];simp
@[simp] theorem zlkb:fldD ["Program"] "tag" (pgD p)=some (tgD p.lab):=by rw[zek];simp
@[simp] theorem z3db:fldD ["Program"] "block" (pgD p)=some (bkD p.lab):=by rw[zek];simp
@[simp] theorem zxrb:fldD ["Program"] "cut" (pgD p)=some (ctD p.lab):=by rw[zek];simp
@[simp] theorem zu4:fldD ["Program"] "size" (pgD p)=some (.int (size p:Int)):=by rw[zek];simp
@[simp] theorem z2db:fldD ["Program"] "spots" (pgD p)=some (.int (spots p:Int)):=by rw[zek];simp
end
theorem zgk {g:DG} {b:DS} {d:D} {ds:List D} {dl dl1 dl2:DL.Env} {m m2:Mem} (h1:g (.d d) dl=some dl1) (h2:b dl1 m = .nx dl2 m2):loopD g b (d::ds) dl m=loopD g b ds dl2 m2:=by
 conv=>lhs;unfold loopD
 rw[h1]
 simp only[]
 rw[h2]
theorem addL {a b:List D} (h:a.length+b.length≤sizeLine):addD (.lst a) (.lst b)=some (.lst (a++b)):=by
 show chk _ _=_
 rw[z7b h]
theorem zjcb {F:DF} {m:Mem} (x0:Option W):∀(ms:List Pg) (acc:List D) (x:Option W),(∀q∈ms,F [.d (pgD q)] m = .ok (.d (.lst ((parts q).map pgD))) m)→acc.length+sizes ms≤sizeLine →
  ∃x',loopD (gNm 2) (z5i F) (ms.map pgD) [x0,some (.d (.lst acc)),x] m = .nx [x0,some (.d (.lst (acc++(ms.flatMap parts).map pgD))),x'] m
 |[],acc,x,_,_=>⟨x,by simp[loopD]⟩
 |q::ms,acc,x,h,hz=>by
  unfold sizes at hz
  have e:=h q List.mem_cons_self
  have ea:addD (.lst acc) (.lst ((parts q).map pgD))=some (.lst (acc++(parts q).map pgD)):=addL (by rw[List.length_map,z9c];omega)
  obtain⟨x',ih⟩:=zjcb (F:=F) (m:=m) x0 ms (acc++(parts q).map pgD) (some (.d (pgD q))) (fun z hz=>h z (List.mem_cons_of_mem _ hz)) (by rw[List.length_append,List.length_map,z9c];omega)
  refine⟨x',?_⟩
  have e2:acc++((q::ms).flatMap parts).map pgD=acc++(parts q).map pgD++(ms.flatMap parts).map pgD:=by rw[List.flatMap_cons,List.map_append,List.append_assoc]
  have hb:z5i F [x0,some (.d (.lst acc)),some (.d (pgD q))] m = .nx [x0,some (.d (.lst (acc++(parts q).map pgD))),some (.d (pgD q))] m:=by
   generalize (parts q).map pgD=pq at *
   generalize pgD q=Q at *
   simp[z5i,e,ea]
  rw[e2,List.map_cons,zgk (dl1:=[x0,some (.d (.lst acc)),some (.d (pgD q))]) rfl hb]
  exact ih
theorem zdx:∀(n:Nat) (p:Pg),size p<n→size p≤10000→∀m:Mem,ztf n [.d (pgD p)] m = .ok (.d (.lst ((parts p).map pgD))) m
 | 0,p,h,_,m=>by omega
 |n+1,p,h,hz,m=>by
  have ih:∀q∈p.ms,ztf n [.d (pgD q)] m = .ok (.d (.lst ((parts q).map pgD))) m:=fun q hq=>zdx n q (by have:=zhv hq;omega) (by have:=zhv hq;omega) m
  have hsz:size p=1+sizes p.ms:=by
   cases p with
   |node l ms=>unfold size;rfl
  obtain⟨x',el⟩:=zjcb (some (.d (pgD p))) p.ms [pgD p] none ih (by simp;unfold sizeLine;omega)
  have e2:[pgD p]++(p.ms.flatMap parts).map pgD=(parts p).map pgD:=by rw[zwe p];rfl
  rw[e2] at el
  generalize (parts p).map pgD=pp at *
  have em:=zap p
  generalize p.ms.map pgD=msD at *
  generalize pgD p=P at *
  simp[ztf,zmm,em,el]
theorem zmk {p:Pg} (h:size p≤23) (m:Mem):zzd [.d (pgD p)] m = .ok (.d (.lst ((parts p).map pgD))) m:=by
 unfold zzd
 exact zdx _ p (by omega) (by omega) m
end LK
namespace LK
open PySem PySem.Spec L2 DL TM SX NT PG
theorem z24 (p:Nat→Bool):∀l:List Nat,(l.dropWhile p).dropWhile p=l.dropWhile p
 |[]=>rfl
 |a::l=>by
  by_cases h:p a=true
  ·rw[List.dropWhile_cons_of_pos h]
   exact z24 p l
  ·rw[List.dropWhile_cons_of_neg h,List.dropWhile_cons_of_neg h]
theorem ztdb (l:List Nat):ldw (ldw l)=ldw l:=z24 sp l
theorem z3cb (l:List Nat):rdw (rdw l)=rdw l:=by
 unfold rdw
 rw[List.reverse_reverse,z24]
theorem zr9:∀l:List Nat,∃t,l=rdw l++t∧∀c∈t,sp c=true:=fun l=>by
 refine⟨(l.reverse.takeWhile sp).reverse,?_,fun c hc=>?_⟩
 ·unfold rdw
  rw[←List.reverse_append,List.takeWhile_append_dropWhile,List.reverse_reverse]
 ·have key:∀(l:List Nat) (c:Nat),c∈l.takeWhile sp→sp c=true:=by
   intro l
   induction l with
   |nil=>intro c hc;simp at hc
   |cons a l ih=>
    intro c hc
    rw[List.takeWhile_cons] at hc
    split at hc
    ·rename_i ha
     rcases List.mem_cons.mp hc with rfl |hc
     ·exact ha
     ·exact ih c hc
    ·simp at hc
  exact key _ c (List.mem_reverse.mp hc)
/-- no blank at the beginning: so when the end is cut -/
theorem z9gb {l:List Nat} (h:ldw l=l):ldw (rdw l)=rdw l:=by
 obtain⟨t,e,ht⟩:=zr9 l
 cases hr:rdw l with
 |nil=>rfl
 |cons a r=>
  rw[hr] at e
  have ha:¬sp a=true:=fun z=>by
   have h2:ldw l=ldw (r++t):=by
    rw[e]
    exact List.dropWhile_cons_of_pos z
   rw[h] at h2
   have:=congrArg List.length h2
   have h3:(ldw (r++t)).length≤(r++t).length:=(List.dropWhile_sublist _).length_le
   rw[e] at this
   simp at this h3
   omega
  exact List.dropWhile_cons_of_neg ha
theorem zu5 (l:List Nat):ldw (word l)=word l:=z9gb (ztdb l)
theorem zo8 (l:List Nat):word (word l)=word l:=by
 show rdw (ldw (word l))=_
 rw[zu5]
 exact z3cb _
theorem zrcb (l:List Nat):(word l).length≤l.length:=by
 have h1:(ldw l).length≤l.length:=(List.dropWhile_sublist _).length_le
 obtain⟨t,e,_⟩:=zr9 (ldw l)
 have:=congrArg List.length e
 rw[List.length_append] at this
 unfold word
 omega
theorem z4fb {l:List Nat} (h:Line l) (hz:l.length≤5000) (x0 x3:Option W) (m:Mem) (acc:List D) (ha:acc.length<sizeLine) :
  zag [x0,some (.c m.length),some (.d (.str (S l))),x3] (m++[.lst acc]) = .nx [x0,some (.c m.length),some (.d (.str (S l))),some (.d (.str (S (word l))))] (m++[.lst (acc++[cutL l])]):=by
 have es:=ztz (a:=l) h.1.sz
 have es:zdv (.str (S l)) [.str (S [32])]=some (.str (S (word l))):=es
 by_cases hw:word l=[]
 ·have hS:S (word l)=S []:=by rw[hw]
  have hc:cutL l = .non:=if_pos hw
  rw[hc]
  rw[hS] at es ⊢
  simp[zag,e_sp,e_em,es,ha]
 ·have hS:¬S (word l)=S []:=fun z=>hw (zex z)
  have hl:=zrcb l
  have h8:Txt8 (word l):=h.1.ldw.rdw
  have en:=z21 (w:=word l) (by omega) h8 hw (zo8 l) (zu5 l) (m++[.lst acc])
  have hc:cutL l = .tup [.int (((l.length-(ldw l).length:Nat)):Int),.tup ((z9m (word l)).map PG.ndP)]:=if_neg hw
  rw[hc]
  have els:=zb0 (a:=l) h.1.sz
  have l1:=len_str (a:=l) (by unfold sizeLine;omega)
  have h3:(ldw l).length≤l.length:=(List.dropWhile_sublist _).length_le
  have l2:=len_str (a:=ldw l) (by unfold sizeLine;omega)
  have e4:(l.length:Int)-((ldw l).length:Int)=((l.length-(ldw l).length:Nat):Int):=by omega
  rw[←e4]
  generalize (z9m (word l)).map PG.ndP=ns at *
  generalize S (word l)=sw at *
  simp[zag,e_sp,e_em,es,ha,hS,els,l1,l2,en]
theorem z88 (x0:Option W) (m:Mem):∀(ls:List (List Nat)) (acc:List D) (x2 x3:Option W),(∀l∈ls,Line l∧l.length≤5000)→acc.length+ls.length<sizeLine →
  ∃y2 y3,loopD (gNm 2) zag (lnD ls) [x0,some (.c m.length),x2,x3] (m++[.lst acc]) = .nx [x0,some (.c m.length),y2,y3] (m++[.lst (acc++cutLs ls)])
 |[],acc,x2,x3,_,_=>⟨x2,x3,by simp[loopD,lnD,cutLs]⟩
 |l::ls,acc,x2,x3,h,hz=>by
  obtain⟨h1,h2⟩:=h l List.mem_cons_self
  have hb:=z4fb h1 h2 x0 x3 m acc (by simp at hz;omega)
  obtain⟨y2,y3,ih⟩:=z88 x0 m ls (acc++[cutL l]) (some (.d (.str (S l)))) (some (.d (.str (S (word l))))) (fun z hz=>h z (List.mem_cons_of_mem _ hz)) (by simp at hz ⊢;omega)
  refine⟨y2,y3,?_⟩
  have e1:lnD (l::ls) = .str (S l)::lnD ls:=rfl
  have e2:acc++cutLs (l::ls)=acc++[cutL l]++cutLs ls:=by unfold cutLs;simp
  rw[e1,e2,zgk (dl1:=[x0,some (.c m.length),some (.d (.str (S l))),x3]) rfl hb]
  exact ih
theorem zvz {ls:List (List Nat)} (h:∀l∈ls,Line l∧l.length≤5000) (hne:ls≠[]) (hn:ls.length≤3000) (m:Mem):zrk [.d (.str (S (TL.joinL [10] ls)))] m = .ok (.d (.lst (cutLs ls))) m:=by
 have e1:=z98 (s:=10) (ls:=ls) hne (fun l hl=>(h l hl).1.2) (fun l hl=>(h l hl).2) hn (by decide)
 obtain⟨y2,y3,el⟩:=z88 (some (.d (.str (S (TL.joinL [10] ls))))) m ls [] none none h (by simp only[List.length_nil];unfold sizeLine;omega)
 rw[List.nil_append] at el
 generalize S (TL.joinL [10] ls)=tx at *
 generalize cutLs ls=cs at *
 generalize lnD ls=ld at *
 simp[zrk,zko,z4k,e_nl,e1,el]
end LK
namespace LK
open PySem PySem.Spec L2 DL TM SX NT PG
theorem inT_2 (s a b:Str):inTD (.str s) (.tup [.str a,.str b])=some (.bl (decide (s=a∨s=b))):=by
 have:=zj4 s [a,b]
 simpa using this
def zyn:Lab→Bool
 |.hole _=>true
 |_=>false
theorem zt8:∀l:Lab,decide (l.w = "hole")=zyn l
 |.fixed _=>(by decide:decide (Str.ofString "fixed" = Str.ofString "hole")=false)
 |.hole _=>(by decide:decide (Str.ofString "hole" = Str.ofString "hole")=true)
 |.each _=>(by decide:decide (Str.ofString "each" = Str.ofString "hole")=false)
 |.sum=>(by decide:decide (Str.ofString "sum" = Str.ofString "hole")=false)
 |.sh .in_ _=>(by decide:decide (Str.ofString "in" = Str.ofString "hole")=false)
 |.sh .out _=>(by decide:decide (Str.ofString "out" = Str.ofString "hole")=false)
 |.sh .first _=>(by decide:decide (Str.ofString "first" = Str.ofString "hole")=false)
 |.sh .rest _=>(by decide:decide (Str.ofString "rest" = Str.ofString "hole")=false)
 |.ded=>(by decide:decide (Str.ofString "dedent" = Str.ofString "hole")=false)
 |.flu=>(by decide:decide (Str.ofString "flush" = Str.ofString "hole")=false)
 |.tg true _=>(by decide:decide (Str.ofString "tag" = Str.ofString "hole")=false)
 |.tg false _=>(by decide:decide (Str.ofString "raw" = Str.ofString "hole")=false)
theorem w_wei:∀l:Lab,decide (l.w = "hole" ∨ l.w = "each")=wei l
 |.fixed _=>(by decide:decide (Str.ofString "fixed" = Str.ofString "hole" ∨ Str.ofString "fixed" = Str.ofString "each")=false)
 |.hole _=>(by decide:decide (Str.ofString "hole" = Str.ofString "hole" ∨ Str.ofString "hole" = Str.ofString "each")=true)
 |.each _=>(by decide:decide (Str.ofString "each" = Str.ofString "hole" ∨ Str.ofString "each" = Str.ofString "each")=true)
 |.sum=>(by decide:decide (Str.ofString "sum" = Str.ofString "hole" ∨ Str.ofString "sum" = Str.ofString "each")=false)
 |.sh .in_ _=>(by decide:decide (Str.ofString "in" = Str.ofString "hole" ∨ Str.ofString "in" = Str.ofString "each")=false)
 |.sh .out _=>(by decide:decide (Str.ofString "out" = Str.ofString "hole" ∨ Str.ofString "out" = Str.ofString "each")=false)
 |.sh .first _=>(by decide:decide (Str.ofString "first" = Str.ofString "hole" ∨ Str.ofString "first" = Str.ofString "each")=false)
 |.sh .rest _=>(by decide:decide (Str.ofString "rest" = Str.ofString "hole" ∨ Str.ofString "rest" = Str.ofString "each")=false)
 |.ded=>(by decide:decide (Str.ofString "dedent" = Str.ofString "hole" ∨ Str.ofString "dedent" = Str.ofString "each")=false)
 |.flu=>(by decide:decide (Str.ofString "flush" = Str.ofString "hole" ∨ Str.ofString "flush" = Str.ofString "each")=false)
 |.tg true _=>(by decide:decide (Str.ofString "tag" = Str.ofString "hole" ∨ Str.ofString "tag" = Str.ofString "each")=false)
 |.tg false _=>(by decide:decide (Str.ofString "raw" = Str.ofString "hole" ∨ Str.ofString "raw" = Str.ofString "each")=false)
def chS (c:Nat):D:=.str (S [c])
theorem zcfb (p:Pg):((parts p).filter fun q=>zyn q.lab).map (fun q=>nmD q.lab)=(nms p).map chS:=by
 unfold nms
 induction parts p with
 |nil=>rfl
 |cons q qs ih=>
  have key:(zyn q.lab=true∧∃c,hol q.lab=some c∧nmD q.lab=chS c)∨(zyn q.lab=false∧hol q.lab=none):=by
   cases q.lab with
   |hole c=>exact .inl ⟨rfl,c,rfl,rfl⟩
   |_=>exact .inr ⟨rfl,rfl⟩
  rcases key with ⟨h1,c,h2,h3⟩ |⟨h1,h2⟩
  ·rw[List.filter_cons_of_pos (by exact h1),List.filterMap_cons_some (f:=fun q:Pg=>hol q.lab) h2,List.map_cons,List.map_cons,ih,h3]
  ·rw[List.filter_cons_of_neg (by rw[h1];exact Bool.false_ne_true),List.filterMap_cons_none (f:=fun q:Pg=>hol q.lab) h2,ih]
theorem z2t {p:Pg} (h:size p≤23) (m:Mem):z7j [.d (pgD p)] m = .ok (.d (.lst ((nms p).map chS))) m:=by
 have e1:=zmk h m
 have ec:=zhp (m:=m) (g:=gNm 1) (t:=znl) (e:=zpl) (wd:=[some (.d (pgD p)),none]) (enc:=pgD) (dec:=fun q=>nmD q.lab) (fun q=>zyn q.lab) (parts p) (fun q _=>⟨_,rfl,by
  have ew:=zpq q
  have e2:=zkh q.lab.w "hole"
  rw[zt8] at e2
  generalize pgD q=Q at *
  simp[znl,ew,e2],fun _=>by
  have ew:=zv4 q
  generalize pgD q=Q at *
  simp[zpl,ew]⟩) (by rw[z9c];unfold sizeLine;omega)
 rw[zcfb] at ec
 generalize (parts p).map pgD=pp at *
 generalize (nms p).map chS=nn at *
 generalize pgD p=P at *
 simp[z7j,z7q,zjm,e1,ec]
theorem zs8 {p:Pg} (h:size p≤23) (m:Mem):zzm [.d (pgD p)] m = .ok (.d (.int (weight p:Int))) m:=by
 have e1:=zmk h m
 have ec:=zhp (m:=m) (g:=gNm 1) (t:=zml) (e:=zol) (wd:=[some (.d (pgD p)),none]) (enc:=pgD) (dec:=pgD) (fun q=>wei q.lab) (parts p) (fun q _=>⟨_,rfl,by
  have ew:=zpq q
  have e2:=inT_2 q.lab.w "hole" "each"
  rw[w_wei] at e2
  generalize pgD q=Q at *
  simp[zml,ew,e2],fun _=>by
  simp[zol]⟩) (by rw[z9c];unfold sizeLine;omega)
 have hl:(((parts p).filter fun q=>wei q.lab).map pgD).length=weight p:=by rw[List.length_map];rfl
 generalize (parts p).map pgD=pp at *
 generalize ((parts p).filter fun q=>wei q.lab).map pgD=nn at *
 generalize pgD p=P at *
 simp[zzm,z6q,zim,e1,ec,hl]
theorem z69 (p:Pg):(nms p).length≤weight p:=by
 unfold nms weight
 induction parts p with
 |nil=>simp
 |cons q qs ih=>
  have key:(∃c,hol q.lab=some c∧wei q.lab=true)∨hol q.lab=none:=by
   cases q.lab with
   |hole c=>exact .inl ⟨c,rfl,rfl⟩
   |_=>exact .inr rfl
  rcases key with ⟨c,h1,h2⟩ |h1
  ·rw[List.filterMap_cons_some (f:=fun q:Pg=>hol q.lab) h1,List.filter_cons_of_pos (by exact h2),List.length_cons,List.length_cons]
   omega
  ·rw[List.filterMap_cons_none (f:=fun q:Pg=>hol q.lab) h1,List.filter_cons]
   split
   ·rw[List.length_cons];omega
   ·exact ih
theorem z3bb (cs:List Nat):cs.map chS=(cs.map fun c=>S [c]).map D.str:=by rw[List.map_map];rfl
theorem zjlb {a b:Nat} (h:S [a]=S [b]):a=b:=by
 have:=zex h
 simpa using this
theorem names_nodup {cs:List Nat} (h:cs.Nodup):(sortS (cs.map fun c=>S [c])).Nodup:=by
 refine ((zql _).nodup_iff).mpr ?_
 exact List.Pairwise.map _ (fun a b hab e=>hab (zjlb e)) h
theorem zaj {p:Pg} (h:size p≤16) (hn:(nms p).Nodup) (hw:weight p≤3) (m:Mem):zeh [.d (pgD p)] m = .ok (.d (pgD p)) m:=by
 have e1:=z2t (p:=p) (by omega) m
 have e2:=zs8 (p:=p) (by omega) m
 have hnl:=z69 p
 rw[z3bb] at e1
 have e3:=zut ((nms p).map fun c=>S [c]) (by rw[List.length_map];omega)
 have nd:=names_nodup hn
 have hl:(sortS ((nms p).map fun c=>S [c])).length≤3:=by rw[(zql _).length_eq,List.length_map];omega
 generalize sortS ((nms p).map fun c=>S [c])=ss at *
 have ec:compD (gTp 2 (zfe (gNm 3) (zfe (gNm 4) gNil_))) zii z1o [some (.d (pgD p)),some (.d (.lst (ss.map D.str))),none,none,none] (enumD (ss.map D.str)) [] m = .ok [] m:=by
  rw[z82]
  have:=zhp (m:=m) (g:=gTp 2 (zfe (gNm 3) (zfe (gNm 4) gNil_))) (t:=zii) (e:=z1o) (wd:=[some (.d (pgD p)),some (.d (.lst (ss.map D.str))),none,none,none]) (enc:=fun q:Str × Nat=>.tup [.int (q.2:Int),.str q.1]) (dec:=fun _=>D.non) (fun _=>false) ss.zipIdx (fun q hq=>⟨_,gtp2 _ _ _ _ _,by
   obtain⟨s,i⟩:=q
   have hi:=List.mk_mem_zipIdx_iff_getElem?.mp hq
   cases i with
   |zero=>simp[zii]
   |succ i=>
    have hlt:=(List.getElem?_eq_some_iff.mp hi).1
    have h1:ss[i]?=some ss[i]:=List.getElem?_eq_getElem (by omega)
    have hne:¬ss[i]=s:=fun e=>by
     have h2:ss[i]?=ss[i+1]?:=by rw[h1,hi,e]
     have:=(List.getElem?_inj (by omega) nd).mp h2
     omega
    have h3:ixD (.lst (ss.map D.str)) (.int (i:Int))=some (.str ss[i]):=by
     show atI _ _=_
     rw[DL.atI_nat,List.getElem?_map,h1]
     rfl
    have h4:((i+1:Nat):Int)-1=(i:Int):=by omega
    have h5:decide ((0:Int)<((i+1:Nat):Int))=true:=decide_eq_true (by omega)
    generalize ss.map D.str=sd at *
    generalize ss[i]=si at *
    generalize ((i+1:Nat):Int)=I at *
    simp[zii,h5,h4,h3,hne],fun z=>nomatch z⟩) (by rw[List.length_zipIdx];unfold sizeLine;omega)
  rw[this]
  simp
 have h1:¬(3:Int)<(weight p:Int):=by omega
 have h2:¬(16:Int)<(size p:Int):=by omega
 have es:=zu4 p
 generalize ss.map D.str=sd at *
 generalize ((nms p).map fun c=>S [c]).map D.str=nd0 at *
 generalize (weight p:Int)=wp at *
 generalize (size p:Int)=sp at *
 generalize pgD p=P at *
 simp[zeh,zkx,z0q,e1,e2,e3,ec,h1,h2,es]
end LK
namespace LK
open PySem PySem.Spec L2 DL TM SX NT PG
def isTg:Lab→Bool
 |.tg _ _=>true
 |_=>false
theorem w_tg:∀l:Lab,decide (l.w = "tag" ∨ l.w = "raw")=isTg l
 |.fixed _=>(by decide:decide (Str.ofString "fixed" = Str.ofString "tag" ∨ Str.ofString "fixed" = Str.ofString "raw")=false)
 |.hole _=>(by decide:decide (Str.ofString "hole" = Str.ofString "tag" ∨ Str.ofString "hole" = Str.ofString "raw")=false)
 |.each _=>(by decide:decide (Str.ofString "each" = Str.ofString "tag" ∨ Str.ofString "each" = Str.ofString "raw")=false)
 |.sum=>(by decide:decide (Str.ofString "sum" = Str.ofString "tag" ∨ Str.ofString "sum" = Str.ofString "raw")=false)
 |.sh .in_ _=>(by decide:decide (Str.ofString "in" = Str.ofString "tag" ∨ Str.ofString "in" = Str.ofString "raw")=false)
 |.sh .out _=>(by decide:decide (Str.ofString "out" = Str.ofString "tag" ∨ Str.ofString "out" = Str.ofString "raw")=false)
 |.sh .first _=>(by decide:decide (Str.ofString "first" = Str.ofString "tag" ∨ Str.ofString "first" = Str.ofString "raw")=false)
 |.sh .rest _=>(by decide:decide (Str.ofString "rest" = Str.ofString "tag" ∨ Str.ofString "rest" = Str.ofString "raw")=false)
 |.ded=>(by decide:decide (Str.ofString "dedent" = Str.ofString "tag" ∨ Str.ofString "dedent" = Str.ofString "raw")=false)
 |.flu=>(by decide:decide (Str.ofString "flush" = Str.ofString "tag" ∨ Str.ofString "flush" = Str.ofString "raw")=false)
 |.tg true _=>(by decide:decide (Str.ofString "tag" = Str.ofString "tag" ∨ Str.ofString "tag" = Str.ofString "raw")=true)
 |.tg false _=>(by decide:decide (Str.ofString "raw" = Str.ofString "tag" ∨ Str.ofString "raw" = Str.ofString "raw")=true)
section
variable (m:Mem)
theorem sf0 ( d:D):sFldW ["Program"] "word" (.d d) (.c m.length) (m++[.obj "Program" [] []])=some (m++[.obj "Program" ["word"] [d]]):=
 z0g m d (List.mem_singleton.mpr rfl) (by decide) rfl (by decide)
theorem sf1 (d0 d:D):sFldW ["Program"] "members" (.d d) (.c m.length) (m++[.obj "Program" ["word"] [d0]])=some (m++[.obj "Program" ["word", "members"] [d0,d]]):=
 z0g m d (List.mem_singleton.mpr rfl) (by decide) rfl (by decide)
theorem sf2 (d0 d1 d:D):sFldW ["Program"] "name" (.d d) (.c m.length) (m++[.obj "Program" ["word", "members"] [d0,d1]])=some (m++[.obj "Program" ["word", "members", "name"] [d0,d1,d]]):=
 z0g m d (List.mem_singleton.mpr rfl) (by decide) rfl (by decide)
theorem sf3 (d0 d1 d2 d:D):sFldW ["Program"] "amount" (.d d) (.c m.length) (m++[.obj "Program" ["word", "members", "name"] [d0,d1,d2]])=some (m++[.obj "Program" ["word", "members", "name", "amount"] [d0,d1,d2,d]]):=
 z0g m d (List.mem_singleton.mpr rfl) (by decide) rfl (by decide)
theorem sf4 (d0 d1 d2 d3 d:D):sFldW ["Program"] "tag" (.d d) (.c m.length) (m++[.obj "Program" ["word", "members", "name", "amount"] [d0,d1,d2,d3]])=some (m++[.obj "Program" ["word", "members", "name", "amount", "tag"] [d0,d1,d2,d3,d]]):=
 z0g m d (List.mem_singleton.mpr rfl) (by decide) rfl (by decide)
theorem sf5 (d0 d1 d2 d3 d4 d:D):sFldW ["Program"] "block" (.d d) (.c m.length) (m++[.obj "Program" ["word", "members", "name", "amount", "tag"] [d0,d1,d2,d3,d4]])=some (m++[.obj "Program" ["word", "members", "name", "amount", "tag", "block"] [d0,d1,d2,d3,d4,d]]):=
 z0g m d (List.mem_singleton.mpr rfl) (by decide) rfl (by decide)
theorem sf6 (d0 d1 d2 d3 d4 d5 d:D):sFldW ["Program"] "cut" (.d d) (.c m.length) (m++[.obj "Program" ["word", "members", "name", "amount", "tag", "block"] [d0,d1,d2,d3,d4,d5]])=some (m++[.obj "Program" ["word", "members", "name", "amount", "tag", "block", "cut"] [d0,d1,d2,d3,d4,d5,d]]):=
 z0g m d (List.mem_singleton.mpr rfl) (by decide) rfl (by decide)
theorem sf7 (d0 d1 d2 d3 d4 d5 d6 d:D):sFldW ["Program"] "size" (.d d) (.c m.length) (m++[.obj "Program" ["word", "members", "name", "amount", "tag", "block", "cut"] [d0,d1,d2,d3,d4,d5,d6]])=some (m++[.obj "Program" ["word", "members", "name", "amount", "tag", "block", "cut", "size"] [d0,d1,d2,d3,d4,d5,d6,d]]):=
 z0g m d (List.mem_singleton.mpr rfl) (by decide) rfl (by decide)
theorem sf8 (d0 d1 d2 d3 d4 d5 d6 d7 d:D):sFldW ["Program"] "spots" (.d d) (.c m.length) (m++[.obj "Program" ["word", "members", "name", "amount", "tag", "block", "cut", "size"] [d0,d1,d2,d3,d4,d5,d6,d7]])=some (m++[.obj "Program" ["word", "members", "name", "amount", "tag", "block", "cut", "size", "spots"] [d0,d1,d2,d3,d4,d5,d6,d7,d]]):=
 z0g m d (List.mem_singleton.mpr rfl) (by decide) rfl (by decide)
end
theorem z68 (ms:List Pg):(1:Int)+(ms.map fun p=>(size p:Int)).sum=((1+sizes ms:Nat):Int):=by
 rw[zq1]
 induction ms with
 |nil=>rfl
 |cons p ms ih=>simp only[List.map_cons,List.sum_cons] at ih ⊢;omega
theorem z48 (ms:List Pg):(ms.map fun p=>(spots p:Int)).sum=((zjn ms:Nat):Int):=by
 rw[zty]
 induction ms with
 |nil=>rfl
 |cons p ms ih=>simp only[List.map_cons,List.sum_cons] at ih ⊢;omega
def own (l:Lab):Nat:=if zyn l=true then 1 else if isTg l=true then 1 else 0
theorem z0bb (ms:List Pg) (hz:ms.length≤1000) (wd:DL.Env) (hw:wd.length=11) (M:Mem):compD (gNm 9) bYes zwf wd (ms.map pgD) [] M = .ok ((ms.map fun p=>(size p:Int)).map D.int) M:=by
 rw[List.map_map]
 exact zgp (enc:=pgD) (dec:=fun p=>D.int (size p:Int)) ms (fun p _=>⟨_,rfl,by
  have e:=zu4 p
  have hg:(wd.set 9 (some (.d (pgD p))))[9]?=some (some (.d (pgD p))):=List.getElem?_set_self (by omega)
  generalize pgD p=P at *
  simp[zwf,eVar,hg,e]⟩) (by unfold sizeLine;omega)
theorem zc8 (ms:List Pg) (hz:ms.length≤1000) (wd:DL.Env) (hw:wd.length=11) (M:Mem):compD (gNm 9) bYes zuf wd (ms.map pgD) [] M = .ok ((ms.map fun p=>(spots p:Int)).map D.int) M:=by
 rw[List.map_map]
 exact zgp (enc:=pgD) (dec:=fun p=>D.int (spots p:Int)) ms (fun p _=>⟨_,rfl,by
  have e:=z2db p
  have hg:(wd.set 9 (some (.d (pgD p))))[9]?=some (some (.d (pgD p))):=List.getElem?_set_self (by omega)
  generalize pgD p=P at *
  simp[zuf,eVar,hg,e]⟩) (by unfold sizeLine;omega)
/-- without a block -/
theorem init0 (l:Lab) (ms:List Pg) (hz:ms.length≤1000) (nm am tg:D) (m:Mem) :
  zjc [.c m.length,.d (.str l.w),.d (.tup (ms.map pgD)),.d nm,.d am,.d tg,.d .non] (m++[.obj "Program" [] []]) =
   .ok (.d .non) (m++[.obj "Program" fns [.str l.w,.tup (ms.map pgD),nm,am,tg,.non,.non,.int ((1+sizes ms:Nat):Int),.int ((own l+zjn ms:Nat):Int)]]):=by
 have c1:=fun wd hw M=>z0bb ms hz wd hw M
 have c2:=fun wd hw M=>zc8 ms hz wd hw M
 have s1:=zcv (ms.map fun p=>(size p:Int))
 have s2:=zcv (ms.map fun p=>(spots p:Int))
 have t1:=z68 ms
 have t2:=z48 ms
 have e1:=zkh l.w "hole"
 rw[zt8] at e1
 have e2:=inT_2 l.w "tag" "raw"
 rw[w_tg] at e2
 have ho:own l=if zyn l=true then 1 else if isTg l=true then 1 else 0:=rfl
 have s3:sumD [.lst []]=some (.int 0):=rfl
 generalize (ms.map fun p=>(size p:Int)).map D.int=z1 at *
 generalize (ms.map fun p=>(spots p:Int)).map D.int=z2 at *
 generalize (ms.map fun p=>(size p:Int)).sum=n1 at *
 generalize (ms.map fun p=>(spots p:Int)).sum=n2 at *
 generalize ms.map pgD=msD at *
 have hM:(m++[Cell.obj "Program" [] []]).length=m.length+1:=by simp
 have t3:((own l+zjn ms:Nat):Int)=(own l:Int)+n2:=by rw[t2];omega
 rw[t3,←t1]
 unfold fns
 cases h1:zyn l <;> cases h2:isTg l <;> rw[h1] at e1 ho <;> rw[h2] at e2 ho <;> simp at ho <;> rw[ho] <;>
  simp[zjc,zhe,sf0,sf1,sf2,sf3,sf4,sf5,sf6,sf7,sf8,c1,c2,s1,s2,s3,e1,e2,z4v,hM]
end LK
namespace LK
open PySem PySem.Spec L2 DL TM SX NT PG
theorem zaib {ls:List (List Nat)} (h:∀l∈ls,Line l∧l.length≤5000) (hn:ls.length≤3000) (m:Mem):z8 [.d (blkD ls)] m = .ok (.d (.str (S (TL.joinL [10] ls)))) m:=by
 have ej:joinD (.str (S [10])) [.lst (lnD ls)]=some (.str (S (TL.joinL [10] ls))):=zakb (fun y hy=>(h y hy).2) hn
 unfold blkD
 generalize lnD ls=ld at *
 simp[z8,zyj,zoh,e_nl,ej]
theorem fcut (a b c d e f g h:D):fldD ["Program"] "cut" (.obj "Program" ["word", "members", "name", "amount", "tag", "block", "cut", "size"] [a,b,c,d,e,f,g,h])=some g:=by
 unfold fldD
 simp only[]
 rw[if_pos (List.mem_singleton.mpr rfl)]
 simp only[fldL]
 repeat (first |rw[if_pos True.intro] |rw[if_neg (by decide)])
theorem zd8 {ls:List (List Nat)} (hn:ls.length≤3000) (wd:DL.Env) (hw:wd.length=11) (M:Mem):compD (gNm 10) zce zvf wd (cutLs ls) [] M = .ok (((ls.filter fun l=>decide (word l≠[])).map fun l=>(spL l:Int)).map D.int) M:=by
 rw[List.map_map]
 exact zhp (enc:=cutL) (dec:=fun l=>D.int (spL l:Int)) (fun l=>decide (word l≠[])) ls (fun l _=>⟨_,rfl,by
  have hg:(wd.set 10 (some (.d (cutL l))))[10]?=some (some (.d (cutL l))):=List.getElem?_set_self (by omega)
  by_cases hl:word l=[]
  ·have:cutL l = .non:=if_pos hl
   rw[this] at hg ⊢
   simp[zce,eVar,hg,ztn,hl]
  ·have:cutL l = .tup [.int (((l.length-(ldw l).length:Nat)):Int),.tup ((z9m (word l)).map PG.ndP)]:=if_neg hl
   rw[this] at hg ⊢
   simp[zce,eVar,hg,ztn,hl],fun hc=>by
  have hl:¬word l=[]:=by simpa using hc
  have hg:(wd.set 10 (some (.d (cutL l))))[10]?=some (some (.d (cutL l))):=List.getElem?_set_self (by omega)
  have:cutL l = .tup [.int (((l.length-(ldw l).length:Nat)):Int),.tup ((z9m (word l)).map PG.ndP)]:=if_neg hl
  rw[this] at hg ⊢
  have hs:spL l=(z9m (word l)).length:=if_neg hl
  have hi:∀a b:D,ixD (.tup [a,b]) (.int 1)=some b:=fun a b=>rfl
  have hlen:((z9m (word l)).map PG.ndP).length=spL l:=by rw[List.length_map,hs]
  generalize (z9m (word l)).map PG.ndP=ns at *
  simp[zvf,eVar,hg,hi,hlen]⟩) (by unfold sizeLine;omega)
theorem z78 (ls:List (List Nat)):((ls.filter fun l=>decide (word l≠[])).map fun l=>(spL l:Int)).sum=(((ls.map spL).sum:Nat):Int):=by
 induction ls with
 |nil=>rfl
 |cons l ls ih=>
  by_cases hl:word l=[]
  ·have h0:spL l=0:=if_pos hl
   rw[List.filter_cons_of_neg (by simp[hl]),List.map_cons,List.sum_cons,h0,ih]
   omega
  ·rw[List.filter_cons_of_pos (by simp[hl]),List.map_cons,List.map_cons,List.sum_cons,List.sum_cons,ih]
   omega
theorem initF {ls:List (List Nat)} (h:∀l∈ls,Line l∧l.length≤5000) (hne:ls≠[]) (hn:ls.length≤3000) (m:Mem) :
  zjc [.c m.length,.d (.str "fixed"),.d (.tup []),.d .non,.d .non,.d .non,.d (blkD ls)] (m++[.obj "Program" [] []]) =
   .ok (.d .non) (m++[.obj "Program" fns [.str "fixed",.tup [],.non,.non,.non,blkD ls,.lst (cutLs ls),.int 1,.int (((ls.map spL).sum:Nat):Int)]]):=by
 have b1:=fun M=>zaib h hn M
 have b2:=fun M=>zvz h hne hn M
 have c3:=fun wd hw M=>zd8 hn wd hw M
 have s4:=zcv ((ls.filter fun l=>decide (word l≠[])).map fun l=>(spL l:Int))
 have t4:=z78 ls
 rw[t4] at s4
 have s3:sumD [.lst []]=some (.int 0):=rfl
 have e1:eqD (.str "fixed") (.str "hole")=some (.bl false):=by rw[zkh];rfl
 have e2:inTD (.str "fixed") (.tup [.str "tag",.str "raw"])=some (.bl false):=by rw[inT_2];rfl
 have hM:(m++[Cell.obj "Program" [] []]).length=m.length+1:=by simp
 have bk:z4v (blkD ls) .non=some (.bl false):=rfl
 have est:∀M,(eStr [("Block",z8)] (aCons (eVar 6) aNil)) [some (.c m.length),some (.d (.str "fixed")),some (.d (.tup [])),some (.d .non),some (.d .non),some (.d .non),some (.d (blkD ls)),none,none,none,none] M = .ok (.d (.str (S (TL.joinL [10] ls)))) M:=fun M=>by
  have hb:=b1 M
  unfold blkD at hb ⊢
  simp[hb,look]
 generalize ((ls.filter fun l=>decide (word l≠[])).map fun l=>(spL l:Int)).map D.int=z1 at *
 generalize (((ls.map spL).sum:Nat):Int)=n1 at *
 generalize cutLs ls=cs at *
 generalize S (TL.joinL [10] ls)=tx at *
 generalize blkD ls=B at *
 unfold fns
 simp[-zxhb,-zkh,zjc,zhe,sf0,sf1,sf2,sf3,sf4,sf5,sf6,sf7,sf8,s3,s4,e1,e2,bk,hM,est,b2,c3,fcut,compD]
end LK
namespace LK
open PySem PySem.Spec L2 DL TM SX NT PG
/-- not too large -/
structure POk (p:Pg):Prop where
 sz:size p≤16
 nd:(nms p).Nodup
 wt:weight p≤3
def plain:Lab→Bool
 |.fixed _=>false
 |_=>true
theorem zljb {l:Lab} (h:plain l=true):own l=l.sp:=by
 cases l <;> first |(cases h;done) |rfl
theorem zqfb {l:Lab} (h:plain l=true):bkD l = .non∧ctD l = .non:=by
 cases l <;> first |(cases h;done) |exact⟨rfl,rfl⟩
theorem zvn {l:Lab} (hp:plain l=true) (ms:List Pg) (hz:ms.length≤1000) (F:DF) (ws:List W) (m:Mem)
  (hF:∀M,F (.c m.length::ws) M=zjc [.c m.length,.d (.str l.w),.d (.tup (ms.map pgD)),.d (nmD l),.d (amD l),.d (tgD l),.d .non] M) :
  makeW "Program" F ws m = .ok (.d (pgD (.node l ms))) m:=by
 unfold makeW
 rw[hF,init0 l ms hz (nmD l) (amD l) (tgD l) m]
 obtain⟨b1,b2⟩:=zqfb hp
 have e:pgD (.node l ms)=obD l (ms.map pgD) (1+sizes ms) (own l+zjn ms):=by
  rw[zljb hp]
  conv=>lhs;unfold pgD
  rw[z5z]
 rw[e]
 unfold obD
 rw[b1,b2]
 simp[madeW]
theorem zxgb (c:Nat) (m:Mem):makeW "Program" z9 [.d (.str "hole"),.d (.tup []),.d (.str (S [c]))] m = .ok (.d (pgD (.node (.hole c) []))) m:=
 zvn (l:=.hole c) rfl [] (by simp) _ _ m fun M=>by
  unfold z9
  rw[x_kwF]
  rfl
theorem zygb (c:Nat) (p:Pg) (m:Mem):makeW "Program" z9 [.d (.str "each"),.d (.tup [pgD p]),.d (.str (S [c]))] m = .ok (.d (pgD (.node (.each c) [p]))) m:=
 zvn (l:=.each c) rfl [p] (by simp) _ _ m fun M=>by
  unfold z9
  rw[x_kwF]
  rfl
theorem z75 (w:Sh) (n:Nat) (p:Pg) (m:Mem):makeW "Program" zgb [.d (.str w.w),.d (.tup [pgD p]),.d (.int (n:Int))] m = .ok (.d (pgD (.node (.sh w n) [p]))) m:=
 zvn (l:=.sh w n) rfl [p] (by simp) _ _ m fun M=>by
  unfold zgb
  rw[x_kwF]
  rfl
theorem ztjb (h:Bool) (t:List Nat) (p:Pg) (m:Mem):makeW "Program" zzb [.d (.str (Lab.tg h t).w),.d (.tup [pgD p]),.d (.str (S t))] m = .ok (.d (pgD (.node (.tg h t) [p]))) m:=
 zvn (l:=.tg h t) rfl [p] (by simp) _ _ m fun M=>by
  unfold zzb
  rw[x_kwF]
  rfl
theorem zefb (p:Pg) (m:Mem):makeW "Program" zw [.d (.str "dedent"),.d (.tup [pgD p])] m = .ok (.d (pgD (.node .ded [p]))) m:=
 zvn (l:=.ded) rfl [p] (by simp) _ _ m fun M=>by
  unfold zw
  rw[x_kwF]
  rfl
theorem zvjb (p:Pg) (m:Mem):makeW "Program" zw [.d (.str "flush"),.d (.tup [pgD p])] m = .ok (.d (pgD (.node .flu [p]))) m:=
 zvn (l:=.flu) rfl [p] (by simp) _ _ m fun M=>by
  unfold zw
  rw[x_kwF]
  rfl
theorem zujb (ms:List Pg) (hz:ms.length≤1000) (m:Mem):makeW "Program" zw [.d (.str "sum"),.d (.tup (ms.map pgD))] m = .ok (.d (pgD (.node .sum ms))) m:=
 zvn (l:=.sum) rfl ms hz _ _ m fun M=>by
  unfold zw
  rw[x_kwF]
  rfl
theorem zldb {ls:List (List Nat)} (h:∀l∈ls,Line l∧l.length≤5000) (hne:ls≠[]) (hn:ls.length≤3000) (m:Mem):makeW "Program" z8b [.d (.str "fixed"),.d (.tup []),.d (blkD ls)] m = .ok (.d (pgD (.node (.fixed ls) []))) m:=by
 have hF:∀M,z8b [.c m.length,.d (.str "fixed"),.d (.tup []),.d (blkD ls)] M=zjc [.c m.length,.d (.str "fixed"),.d (.tup []),.d .non,.d .non,.d .non,.d (blkD ls)] M:=fun M=>by
  unfold z8b
  rw[x_kwF]
  rfl
 unfold makeW
 rw[hF,initF h hne hn m]
 have e:pgD (.node (.fixed ls) [])=obD (.fixed ls) [] 1 ((ls.map spL).sum):=by
  conv=>lhs;unfold pgD
  unfold pgDs sizes zjn
  rfl
 rw[e]
 unfold obD
 simp[madeW]
 exact⟨rfl,rfl,rfl,rfl,rfl,rfl⟩
theorem z6y {c:Nat} (h:z7c c=true) (m:Mem):z0o [.d (.str (S [c]))] m = .ok (.d (.bl true)) m:=by
 unfold z7c at h
 rw[Bool.and_eq_true,decide_eq_true_eq,decide_eq_true_eq] at h
 have l1:=len_str (a:=[c]) (by unfold sizeLine;simp)
 simp[z0o,zhx,zyq,zoe,isfT,l1,zyd,e_a,e_z,le_1,h.1,h.2]
theorem zjhb {c:Nat} (h:z7c c=true) (m:Mem):za7 [.d (.str (S [c]))] m = .ok (.d (pgD (.node (.hole c) []))) m:=by
 have e1:=z6y h m
 have e2:=zxgb c m
 simp[za7,zlcb,zz0,e1,e2]
theorem zi4 {n:Nat} (h:n≤20) (m:Mem):zth [.d (.int (n:Int))] m = .ok (.d (.bl true)) m:=by
 have e:=zh4 (x:=.int (n:Int)) True.intro 21 m
 have e2:intIn (.int (n:Int)) 21=true:=by unfold intIn;simp;omega
 rw[e2] at e
 simp[zth,z9q,zlm,e]
theorem z4o {w:Sh} {n:Nat} {p:Pg} (hn:n≤20) (h:POk (.node (.sh w n) [p])) (m:Mem):zpf [.d (pgD p),.d (.str w.w),.d (.int (n:Int))] m = .ok (.d (pgD (.node (.sh w n) [p]))) m:=by
 have e1:=zi4 hn m
 have e2:=z75 w n p m
 have e3:=zaj h.sz h.nd h.wt m
 generalize pgD (.node (.sh w n) [p])=Q at *
 generalize pgD p=P at *
 generalize (n:Int)=N at *
 simp[zpf,zfx,zxq,e1,e2,e3]
theorem zm9 {n:Nat} {p:Pg} (hn:n≤20) (h:POk (.node (.sh .in_ n) [p])) (m:Mem):zhc [.d (pgD p),.d (.int (n:Int))] m = .ok (.d (pgD (.node (.sh .in_ n) [p]))) m:=by
 have e:zpf [.d (pgD p),.d (.str "in"),.d (.int (n:Int))] m=_:=z4o (w:=.in_) hn h m
 generalize pgD (.node (.sh .in_ n) [p])=Q at *
 generalize pgD p=P at *
 generalize (n:Int)=N at *
 simp[zhc,z3f,z8e,e]
theorem zhab {n:Nat} {p:Pg} (hn:n≤20) (h:POk (.node (.sh .out n) [p])) (m:Mem):zic [.d (pgD p),.d (.int (n:Int))] m = .ok (.d (pgD (.node (.sh .out n) [p]))) m:=by
 have e:zpf [.d (pgD p),.d (.str "out"),.d (.int (n:Int))] m=_:=z4o (w:=.out) hn h m
 generalize pgD (.node (.sh .out n) [p])=Q at *
 generalize pgD p=P at *
 generalize (n:Int)=N at *
 simp[zic,z4f,z9e,e]
theorem zz9 {n:Nat} {p:Pg} (hn:n≤20) (h:POk (.node (.sh .first n) [p])) (m:Mem):zgh [.d (pgD p),.d (.int (n:Int))] m = .ok (.d (pgD (.node (.sh .first n) [p]))) m:=by
 have e:zpf [.d (pgD p),.d (.str "first"),.d (.int (n:Int))] m=_:=z4o (w:=.first) hn h m
 generalize pgD (.node (.sh .first n) [p])=Q at *
 generalize pgD p=P at *
 generalize (n:Int)=N at *
 simp[zgh,zxj,znh,e]
theorem z6cb {n:Nat} {p:Pg} (hn:n≤20) (h:POk (.node (.sh .rest n) [p])) (m:Mem):z8h [.d (pgD p),.d (.int (n:Int))] m = .ok (.d (pgD (.node (.sh .rest n) [p]))) m:=by
 have e:zpf [.d (pgD p),.d (.str "rest"),.d (.int (n:Int))] m=_:=z4o (w:=.rest) hn h m
 generalize pgD (.node (.sh .rest n) [p])=Q at *
 generalize pgD p=P at *
 generalize (n:Int)=N at *
 simp[z8h,zel,zpi,e]
theorem zjgb {p:Pg} (h:POk (.node .ded [p])) (m:Mem):zcd [.d (pgD p)] m = .ok (.d (pgD (.node .ded [p]))) m:=by
 have e2:=zefb p m
 have e3:=zaj h.sz h.nd h.wt m
 generalize pgD (.node .ded [p])=Q at *
 generalize pgD p=P at *
 simp[zcd,zph,zlg,e2,e3]
theorem zy9 {p:Pg} (h:POk (.node .flu [p])) (m:Mem):zfh [.d (pgD p)] m = .ok (.d (pgD (.node .flu [p]))) m:=by
 have e2:=zvjb p m
 have e3:=zaj h.sz h.nd h.wt m
 generalize pgD (.node .flu [p])=Q at *
 generalize pgD p=P at *
 simp[zfh,zwj,zmh,e2,e3]
theorem zyy {hang:Bool} {t:List Nat} {p:Pg} (ht:isTag t=true) (h:POk (.node (.tg hang t) [p])) (m:Mem):zpd [.d (pgD p),.d (.str (S t)),.d (.bl hang)] m = .ok (.d (pgD (.node (.tg hang t) [p]))) m:=by
 have e1:=z8s (w:=t) (by unfold isTag at ht;simp at ht;omega) m
 rw[ht] at e1
 have e2:=ztjb hang t p m
 have e3:=zaj h.sz h.nd h.wt m
 generalize pgD (.node (.tg hang t) [p])=Q at *
 generalize pgD p=P at *
 cases hang with
 |true=>
  have e2:makeW "Program" zzb [.d (.str "tag"),.d (.tup [P]),.d (.str (S t))] m = .ok (.d Q) m:=e2
  simp[zpd,zfg,zcf,e1,e2,e3]
 |false=>
  have e2:makeW "Program" zzb [.d (.str "raw"),.d (.tup [P]),.d (.str (S t))] m = .ok (.d Q) m:=e2
  simp[zpd,zfg,zcf,e1,e2,e3]
end LK
namespace LK
open PySem PySem.Spec L2 DL TM SX
theorem z2gb {ls:List (List Nat)} (h:∀l∈ls,Line l) (hn:ls.length≤10000) (m:Mem):makeW "Block" zdc ((lnD ls).map W.d) m = .ok (.d (blk (rowsOf ls))) m:=by
 obtain⟨M,hM⟩:∃M,M=m++[Cell.obj "Block" [] []]:=⟨_,rfl⟩
 have el:∃x,loopD (gNm 2) zff (lnD ls) [some (.c m.length),some (.d (.tup (lnD ls))),none,none] M = .nx [some (.c m.length),some (.d (.tup (lnD ls))),x,none] M:=by
  have:=z01 (g:=gNm 2) (b:=zff) (m:=M) (enc:=fun l=>D.str (S l)) (fun _=>false) (fun dl=>∃x,dl=[some (.c m.length),some (.d (.tup (lnD ls))),x,none]) (fun _ _=>True) ls [some (.c m.length),some (.d (.tup (lnD ls))),none,none] ⟨none,rfl⟩ (fun l hl dl hd=>by
   obtain⟨x,rfl⟩:=hd
   exact⟨_,rfl,(fun z=>nomatch z),fun _=>⟨_,by simp[zff,zw7 (h l hl)];rfl,_,rfl⟩⟩)
  rw[List.find?_eq_none.mpr (fun _ _=>Bool.false_ne_true)] at this
  obtain⟨dl2,e,x,rfl⟩:=this
  exact⟨x,e⟩
 obtain⟨x,el⟩:=el
 have ec:=zgp (g:=gNm 2) (e:=z1e) (wd:=[some (.c m.length),some (.d (.tup (lnD ls))),none,none]) (m:=M) (enc:=fun l=>D.str (S l)) (dec:=fun l=>D.str (S (TM.rdw l))) ls (fun l hl=>⟨_,rfl,by simp[z1e,e_sp,zycb (h l hl).1.sz]⟩) (by unfold sizeLine;omega)
 have e5:ls.map (fun l=>D.str (S (TM.rdw l)))=lnD (ls.map TM.rdw):=by
  unfold lnD
  rw[List.map_map]
  rfl
 rw[e5] at ec
 have ec:compD (gNm 2) bYes z1e [some (.c m.length),some (.d (.tup (lnD ls))),none,none] (lnD ls) [] M = .ok (lnD (ls.map TM.rdw)) M:=ec
 have e6:z9f ((lnD ls).map W.d)=some (lnD ls):=zmz _
 have e7:=ne_nil (ls:=ls.map TM.rdw) fun l hl=>by
  obtain⟨a,ha,rfl⟩:=List.mem_map.mp hl
  exact (h a ha).1.rdw
 have hz:ls.length≤sizeLine:=by unfold sizeLine;omega
 have hg:M[m.length]?=some (Cell.obj "Block" [] []):=by rw[hM];simp
 have es:∀d:D,sFldW ["Block"] "rows" (.d d) (.c m.length) M=some (m++[Cell.obj "Block" ["rows"] [d]]):=fun d=>by
  unfold sFldW
  simp only[hg]
  rw[if_pos ⟨List.mem_singleton.mpr rfl,by decide⟩,hM]
  simp[putL]
 have hML:M.length=m.length+1:=by rw[hM];simp
 have er:zgg [.c m.length,.d (.tup (lnD ls))] M = .ok (.d .non) (m++[.obj "Block" ["rows"] [.lst (lnD (rowsOf ls))]]):=by
  by_cases hls:ls=[]
  ·have e8:rowsOf ls=[[]]:=if_pos hls
   have e9:lnD [[]]=[D.str (S [])]:=rfl
   have e7':neD (.lst (lnD (ls.map TM.rdw))) (.lst [])=some (.bl false):=by rw[e7];simp[hls]
   rw[e8,e9]
   simp[zgg,zdf,el,ec,e7',es,e_em,hML]
  ·have e8:rowsOf ls=ls.map TM.rdw:=if_neg hls
   have e7':neD (.lst (lnD (ls.map TM.rdw))) (.lst [])=some (.bl true):=by rw[e7];simp[hls]
   rw[e8]
   simp[zgg,zdf,el,ec,e7',es,hML]
 unfold makeW zdc starF
 rw[←hM]
 simp[e6,hz,er,madeW,blk]
/-- from rows as the law has them -/
theorem zbab {B L:Nat} {rs:List Row} (h:∀r∈rs,RowIn B L r) (hz:B+L≤100000) (hne:rs≠[]) (hn:rs.length≤10000) (m:Mem):makeW "Block" zdc ((lnD (rs.map zxd)).map W.d) m = .ok (.d (blk (rs.map zxd))) m:=by
 rw[z2gb (fun l hl=>by
  obtain⟨r,hr,rfl⟩:=List.mem_map.mp hl
  exact (h r hr).line hz) (by rw[List.length_map];exact hn)]
 have e:rowsOf (rs.map zxd)=rs.map zxd:=by
  unfold rowsOf
  rw[if_neg (by simp[hne]),List.map_map]
  exact List.map_congr_left fun r hr=>z25 (h r hr)
 rw[e]
theorem zegb {B L:Nat} {rs:List Row} (h:∀r∈rs,RowIn B L r) (hz:B+L≤5000) (hne:rs≠[]) (hn:rs.length≤3000) (m:Mem):zxg [.d (.cls "Block"),.d (.str (S (TL.joinL [10] (rs.map zxd))))] m = .ok (.d (blk (rs.map zxd))) m:=by
 have h5:∀y∈rs.map zxd,y.length≤5000:=fun y hy=>by
  obtain⟨r,hr,rfl⟩:=List.mem_map.mp hy
  have:=(h r hr).len
  omega
 have e1:=z98 (s:=10) (ls:=rs.map zxd) (by simp[hne]) (fun l hl=>by
  obtain⟨r,hr,rfl⟩:=List.mem_map.mp hl
  exact ((h r hr).line (by omega)).2) h5 (by rw[List.length_map];exact hn) (by decide)
 have e2:=zbab h (by omega) hne (by omega) m
 obtain⟨ls,hls⟩:∃ls,ls=rs.map zxd:=⟨_,rfl⟩
 rw[←hls] at e1 e2 ⊢
 have e3:∀f:DA,eMk "Block" zdc (eVar 0) f [some (.d (.cls "Block")),some (.d (.str (S (TL.joinL [10] ls)))),some (.d (.lst (lnD ls)))] m=_:=fun f=>zyhb rfl
 simp[zxg,zpo,z8k,zoe,isfT,e_nl,e1,e2,e3]
theorem zx9 (ls:List (List Nat)) (m:Mem):z1f [.d (blk ls)] m = .ok (.d (.tup (lnD ls))) m:=by
 simp[z1f,zsm,zrj,blk]
end LK
namespace LK
open PySem PySem.Spec L2 DL TM SX NT PG
def isSum:Lab→Bool
 |.sum=>true
 |_=>false
theorem w_sum:∀l:Lab,decide (l.w = "sum")=isSum l
 |.fixed _=>(by decide:decide (Str.ofString "fixed" = Str.ofString "sum")=false)
 |.hole _=>(by decide:decide (Str.ofString "hole" = Str.ofString "sum")=false)
 |.each _=>(by decide:decide (Str.ofString "each" = Str.ofString "sum")=false)
 |.sum=>(by decide:decide (Str.ofString "sum" = Str.ofString "sum")=true)
 |.sh .in_ _=>(by decide:decide (Str.ofString "in" = Str.ofString "sum")=false)
 |.sh .out _=>(by decide:decide (Str.ofString "out" = Str.ofString "sum")=false)
 |.sh .first _=>(by decide:decide (Str.ofString "first" = Str.ofString "sum")=false)
 |.sh .rest _=>(by decide:decide (Str.ofString "rest" = Str.ofString "sum")=false)
 |.ded=>(by decide:decide (Str.ofString "dedent" = Str.ofString "sum")=false)
 |.flu=>(by decide:decide (Str.ofString "flush" = Str.ofString "sum")=false)
 |.tg true _=>(by decide:decide (Str.ofString "tag" = Str.ofString "sum")=false)
 |.tg false _=>(by decide:decide (Str.ofString "raw" = Str.ofString "sum")=false)
/-- what a program gives to a sum -/
def sms (p:Pg):List Pg:=if isSum p.lab=true then p.ms else [p]
theorem ztk (p:Pg) (m:Mem):zsd [.d (pgD p)] m = .ok (.d (.tup ((sms p).map pgD))) m:=by
 have e1:=zkh p.lab.w "sum"
 rw[w_sum] at e1
 have e2:=zpq p
 have e3:=zap p
 unfold sms
 cases h:isSum p.lab with
 |true=>
  rw[h] at e1
  rw[if_pos rfl]
  generalize p.ms.map pgD=msD at *
  generalize pgD p=P at *
  simp[-zkh,zsd,z0i,z8g,e1,e2,e3]
 |false=>
  rw[h] at e1
  rw[if_neg Bool.false_ne_true]
  have e4:[p].map pgD=[pgD p]:=rfl
  rw[e4]
  generalize pgD p=P at *
  simp[-zkh,zsd,z0i,z8g,e1,e2]
theorem z38 {p q:Pg} (hp:sms p≠[]) (hq:sms q≠[]) (h:POk (.node .sum (sms p++sms q))) (m:Mem):z6u [.d (pgD p),.d (pgD q)] m = .ok (.d (pgD (.node .sum (sms p++sms q)))) m:=by
 have e1:=ztk p m
 have e2:=ztk q m
 have hl:(sms p++sms q).length≤16:=by
  have h1:=h.sz
  have h2:(sms p++sms q).length≤sizes (sms p++sms q):=by
   generalize sms p++sms q=l
   induction l with
   |nil=>simp
   |cons a l ih=>unfold sizes;have:=size_pos a;simp;omega
  have h3:size (.node .sum (sms p++sms q))=1+sizes (sms p++sms q):=by conv=>lhs;unfold size
  omega
 have e3:=zujb (sms p++sms q) (by omega) m
 have e4:=zaj h.sz h.nd h.wt m
 have ea:addD (.tup ((sms p).map pgD)) (.tup ((sms q).map pgD))=some (.tup ((sms p++sms q).map pgD)):=by
  show chk _ _=_
  rw[z7b ⟨by simpa using hp,by simpa using hq,by rw[List.length_append] at hl;rw[List.length_map,List.length_map];unfold sizeLine;omega⟩,List.map_append]
 generalize pgD (.node .sum (sms p++sms q))=R at *
 generalize (sms p++sms q).map pgD=A at *
 generalize (sms p).map pgD=B at *
 generalize (sms q).map pgD=C at *
 generalize pgD p=P at *
 generalize pgD q=Q at *
 simp[z6u,zc1,zdt,e1,e2,ea,e3,e4]
theorem z1eb (p:Pg):tagD (pgD p)=some (.own "Program"):=by
 rw[zek]
 rfl
theorem znhb (p:Pg) (m:Mem):z5h [.d (pgD p)] m = .ok (.d (pgD p)) m:=by
 have e:=z1eb p
 have n:¬(Str.ofString "Block" = Str.ofString "Program"):=by decide
 generalize pgD p=P at *
 simp[z5h,zbl,zmi,zjh,isfT,e,n]
theorem zngb {p q:Pg} (hp:sms p≠[]) (hq:sms q≠[]) (h:POk (.node .sum (sms p++sms q))) (m:Mem):zwc [.d (pgD p),.d (pgD q)] m = .ok (.d (pgD (.node .sum (sms p++sms q)))) m:=by
 have e1:=znhb q m
 have e2:=z38 hp hq h m
 generalize pgD (.node .sum (sms p++sms q))=R at *
 generalize pgD p=P at *
 generalize pgD q=Q at *
 simp[zwc,zqh,zmg,e1,e2]
end LK
namespace LK
open PySem PySem.Spec L2 DL TM SX NT PG
theorem z83 {ns:List Int} {b:Int} (h0:ns≠[]) (h:∀n∈ns,n≤b):maxI ns≤b:=by
 have key:∀(ns:List Int) (x:Int),x≤b→(∀n∈ns,n≤b)→ns.foldl (fun x y=>if x<y then y else x) x≤b:=by
  intro ns
  induction ns with
  |nil=>intro x hx _;exact hx
  |cons a l ih=>
   intro x hx hl
   rw[List.foldl_cons]
   refine ih _ ?_ fun n hn=>hl n (List.mem_cons_of_mem _ hn)
   split
   ·exact hl a List.mem_cons_self
   ·exact hx
 cases ns with
 |nil=>exact absurd rfl h0
 |cons a l=>exact key l a (h a List.mem_cons_self) fun n hn=>h n (List.mem_cons_of_mem _ hn)
theorem z0jb {ns:List Int} (h:ns≠[]):maxLD [.lst (ns.map D.int)]=some (.int (maxI ns)):=by
 show (match zts (ns.map D.int) with |some ns=>chk (ns≠[]) (D.int (maxI ns)) |none=>none)=_
 rw[zqz]
 exact z7b h
theorem z6db {B L:Nat} {rs:List Row} (h:∀r∈rs,RowIn B L r) (hz:B+L≤60) (hne:rs≠[]) (hn:rs.length≤6) (m:Mem):zpt [.d (.str (S (TL.joinL [10] (rs.map zxd))))] m = .ok (.d (pgD (.node (.fixed (rs.map zxd)) []))) m:=by
 have hl:∀y∈rs.map zxd,Line y∧y.length≤60:=fun y hy=>by
  obtain⟨r,hr,rfl⟩:=List.mem_map.mp hy
  have:=(h r hr).len
  exact⟨(h r hr).line (by omega),by omega⟩
 have e1:=zegb h (by omega) hne (by omega) m
 have hne2:rs.map zxd≠[]:=by simp[hne]
 have hn2:(rs.map zxd).length≤6:=by rw[List.length_map];exact hn
 have e3:=zldb (ls:=rs.map zxd) (fun l hx=>⟨(hl l hx).1,by have:=(hl l hx).2;omega⟩) hne2 (by omega) m
 generalize rs.map zxd=ls at *
 have e2:propW "Block" z1f (.d (blk ls)) m = .ok (.d (.tup (lnD ls))) m:=by
  rw[show blk ls = .obj "Block" ["rows"] [.lst (lnD ls)] from rfl,zw1]
  rw[show z1f [.d (.obj "Block" ["rows"] [.lst (lnD ls)])] m=_ from zx9 ls m]
  rfl
 have hl2:(lnD ls).length=ls.length:=by unfold lnD;rw[List.length_map]
 have ec:=zgp (m:=m) (g:=gNm 3) (e:=zmp) (wd:=[some (.d (.str (S (TL.joinL [10] ls)))),some (.d (blk ls)),some (.d (.tup (lnD ls))),none]) (enc:=fun l=>D.str (S l)) (dec:=fun l=>D.int (l.length:Int)) ls (fun l hx=>⟨_,rfl,by
  have e:=len_str (a:=l) (by have:=(hl l hx).2;unfold sizeLine;omega)
  simp[zmp,e]⟩) (by unfold sizeLine;omega)
 have em:=z0jb (ns:=ls.map fun l=>(l.length:Int)) (by simpa using hne2)
 rw[List.map_map] at em
 have em:maxLD [.lst (ls.map fun l=>D.int (l.length:Int))]=_:=em
 have hM:=z83 (ns:=ls.map fun l=>(l.length:Int)) (b:=60) (by simpa using hne2) (fun n hx=>by
  obtain⟨l,hy,rfl⟩:=List.mem_map.mp hx
  have:=(hl l hy).2
  omega)
 have ec:compD (gNm 3) bYes zmp [some (.d (.str (S (TL.joinL [10] ls)))),some (.d (blk ls)),some (.d (.tup (lnD ls))),none] (lnD ls) [] m=_:=ec
 have eb:blkD ls=blk ls:=rfl
 rw[eb] at e3
 have g1:¬((ls.length:Int) > 6):=by omega
 have g2:¬(maxI (ls.map fun l=>(l.length:Int)) > 60):=by omega
 generalize maxI (ls.map fun l=>(l.length:Int))=M at *
 generalize ls.map (fun l=>D.int (l.length:Int))=A at *
 generalize pgD (.node (.fixed ls) [])=R at *
 generalize S (TL.joinL [10] ls)=t at *
 generalize lnD ls=B at *
 generalize blk ls=C at *
 simp[zpt,zr5,zxw,zbi,zoe,isfT,e1,e2,ec,em,hl2,e3,g1,g2]
def zzn:Lab→Bool
 |.each _=>true
 |_=>false
theorem ztib:∀l:Lab,decide (l.w = "each")=zzn l
 |.fixed _=>(by decide:decide (Str.ofString "fixed" = Str.ofString "each")=false)
 |.hole _=>(by decide:decide (Str.ofString "hole" = Str.ofString "each")=false)
 |.each _=>(by decide:decide (Str.ofString "each" = Str.ofString "each")=true)
 |.sum=>(by decide:decide (Str.ofString "sum" = Str.ofString "each")=false)
 |.sh .in_ _=>(by decide:decide (Str.ofString "in" = Str.ofString "each")=false)
 |.sh .out _=>(by decide:decide (Str.ofString "out" = Str.ofString "each")=false)
 |.sh .first _=>(by decide:decide (Str.ofString "first" = Str.ofString "each")=false)
 |.sh .rest _=>(by decide:decide (Str.ofString "rest" = Str.ofString "each")=false)
 |.ded=>(by decide:decide (Str.ofString "dedent" = Str.ofString "each")=false)
 |.flu=>(by decide:decide (Str.ofString "flush" = Str.ofString "each")=false)
 |.tg true _=>(by decide:decide (Str.ofString "tag" = Str.ofString "each")=false)
 |.tg false _=>(by decide:decide (Str.ofString "raw" = Str.ofString "each")=false)
/-- the names of the eaches -/
def rowN (p:Pg):D:=match ((parts p).filter fun q=>zzn q.lab).map (fun q=>nmD q.lab) with |[]=>.non |d::_=>d
theorem zcjb {p:Pg} (h:size p≤23) (m:Mem):z0f [.d (pgD p)] m = .ok (.d (rowN p)) m:=by
 have e1:=zmk h m
 have ec:=zhp (m:=m) (g:=gNm 2) (t:=zri) (e:=zsi) (wd:=[some (.d (pgD p)),none,none]) (enc:=pgD) (dec:=fun q=>nmD q.lab) (fun q=>zzn q.lab) (parts p) (fun q _=>⟨_,rfl,by
  have ew:=zpq q
  have e2:=zkh q.lab.w "each"
  rw[ztib] at e2
  generalize pgD q=Q at *
  simp[zri,ew,e2],fun _=>by
  have ew:=zv4 q
  generalize pgD q=Q at *
  simp[zsi,ew]⟩) (by rw[z9c];unfold sizeLine;omega)
 unfold rowN
 generalize (parts p).map pgD=pp at *
 generalize ((parts p).filter fun q=>zzn q.lab).map (fun q=>nmD q.lab)=nn at *
 generalize pgD p=P at *
 cases nn with
 |nil=>simp[z0f,z2i,zch,e1,ec]
 |cons d ds=>
  simp[z0f,z2i,zch,e1,ec]
theorem zwhb {c:Nat} {p:Pg} (hc:z7c c=true) (h1:nms p=[c]) (h2:rowN p = .non) (h:POk (.node (.each c) [p])) (m:Mem):zb7 [.d (.str (S [c])),.d (pgD p)] m = .ok (.d (pgD (.node (.each c) [p]))) m:=by
 have hs:size p≤23:=by
  have:=h.sz
  have h3:size (.node (.each c) [p])=1+size p:=by
   conv=>lhs;unfold size sizes sizes
   omega
  omega
 have e1:=z6y hc m
 have e2:=z2t hs m
 rw[h1] at e2
 have e3:propW "Program" z0f (.d (pgD p)) m = .ok (.d .non) m:=by
  have e:=zcjb hs m
  rw[h2] at e
  rw[zek] at e ⊢
  unfold obD at e ⊢
  rw[zw1,e]
  rfl
 have e4:=zygb c p m
 have e5:=zaj h.sz h.nd h.wt m
 have e6:[c].map chS=[.str (S [c])]:=rfl
 rw[e6] at e2
 have e7:neD (.lst [.str (S [c])]) (.lst [.str (S [c])])=some (.bl false):=zugb (k:=1) (.lst fun d hd=>by
  rw[List.mem_singleton.mp hd]
  refine Lay.str 0 fun x hx=>?_
  rw[List.mem_singleton.mp hx]
  unfold z7c at hc
  simp at hc
  omega) (by decide)
 have e8:ztn .non .non=some (.bl false):=rfl
 generalize pgD (.node (.each c) [p])=R at *
 generalize pgD p=P at *
 generalize S [c]=t at *
 simp[zb7,zmcb,z00,e1,e2,e3,e4,e5,e7,e8]
end LK
namespace LK
open PySem PySem.Spec L2 DL TM SX NT PG
theorem zsr (l:Lab) (q:Pg):parts (.node l [q]) = .node l [q]::parts q:=by
 rw[zwe]
 show _::[q].flatMap parts=_
 rw[List.flatMap_cons,List.flatMap_nil,List.append_nil]
theorem zyu (l:Lab) (q:Pg):size (.node l [q])=1+size q:=by
 conv=>lhs;unfold size
 unfold sizes sizes
 rfl
theorem z59 {l:Lab} (h:hol l=none) (q:Pg):nms (.node l [q])=nms q:=by
 unfold nms
 rw[zsr,List.filterMap_cons_none (f:=fun q:Pg=>hol q.lab) (a:=.node l [q]) h]
theorem zg7 {l:Lab} (h:wei l=false) (q:Pg):weight (.node l [q])=weight q:=by
 unfold weight
 rw[zsr,List.filter_cons_of_neg (by show ¬wei l=true;rw[h];exact Bool.false_ne_true)]
theorem ztl (l:Lab):parts (.node l [])=[.node l []]:=by rw[zwe];rfl
theorem size_leaf (l:Lab):size (.node l [])=1:=by
 conv=>lhs;unfold size
 unfold sizes
 rfl
theorem zfdb (c:Nat):nms (.node (.hole c) [])=[c]:=by unfold nms;rw[ztl];rfl
theorem zsgb (ls:List (List Nat)):nms (.node (.fixed ls) [])=[]:=by unfold nms;rw[ztl];rfl
theorem zw3 (c:Nat):weight (.node (.hole c) [])=1:=by unfold weight;rw[ztl];rfl
theorem zh7 (ls:List (List Nat)):weight (.node (.fixed ls) [])=0:=by unfold weight;rw[ztl];rfl
theorem zsl (ms:List Pg):parts (.node .sum ms) = .node .sum ms::ms.flatMap parts:=zwe _
theorem z49 (ms:List Pg):nms (.node .sum ms)=ms.flatMap nms:=by
 unfold nms
 rw[zsl,List.filterMap_cons_none (f:=fun q:Pg=>hol q.lab) (a:=.node .sum ms) rfl,List.filterMap_flatMap]
theorem zqy (ms:List Pg):weight (.node .sum ms)=(ms.map weight).sum:=by
 unfold weight
 rw[zsl,List.filter_cons_of_neg (by show ¬wei .sum=true;decide),List.filter_flatMap,List.length_flatMap]
theorem zz5 (ms:List Pg):size (.node .sum ms)=1+sizes ms:=by conv=>lhs;unfold size
theorem zfc (p:Pg) (ms:List Pg):sizes (p::ms)=size p+sizes ms:=by conv=>lhs;unfold sizes
theorem zqd:sizes []=0:=by unfold sizes;rfl
theorem zne:∀(a b:List Pg),sizes (a++b)=sizes a+sizes b
 |[],b=>by rw[zqd];simp
 |x::a,b=>by
  rw[List.cons_append,zfc,zfc,zne a b]
  omega
theorem zgdb (c:Nat) (q:Pg):nms (.node (.each c) [q])=nms q:=z59 rfl q
theorem zx3 (c:Nat) (q:Pg):weight (.node (.each c) [q])=1+weight q:=by
 unfold weight
 rw[zsr,List.filter_cons_of_pos (by rfl),List.length_cons]
 omega
theorem zwt {p:Pg} (h:isSum p.lab=false):sms p=[p]:=by
 unfold sms
 rw[h,if_neg Bool.false_ne_true]
theorem z8p (ms:List Pg):sms (.node .sum ms)=ms:=if_pos rfl
theorem z6fb (p:Pg):(sms p).flatMap nms=nms p:=by
 cases p with
 |node l ms=>
  cases l with
  |sum=>rw[z8p,z49]
  |_=>rw[zwt rfl];simp
theorem zi7 (p:Pg):((sms p).map weight).sum=weight p:=by
 cases p with
 |node l ms=>
  cases l with
  |sum=>rw[z8p,zqy]
  |_=>rw[zwt rfl];simp
theorem zmr (p:Pg):sizes (sms p)=size p-(if isSum p.lab=true then 1 else 0):=by
 cases p with
 |node l ms=>
  cases l with
  |sum=>rw[z8p,zz5];show sizes ms=1+sizes ms-1;omega
  |_=>rw[zwt rfl,zfc,zqd];rfl
/-- the eaches -/
def rws (p:Pg):List D:=((parts p).filter fun q=>zzn q.lab).map fun q=>nmD q.lab
theorem z1cb (p:Pg):rowN p=(match rws p with |[]=>.non |d::_=>d):=rfl
theorem zcgb {l:Lab} (h:zzn l=false) (q:Pg):rws (.node l [q])=rws q:=by
 unfold rws
 rw[zsr,List.filter_cons_of_neg (by show ¬zzn l=true;rw[h];exact Bool.false_ne_true)]
theorem z15 {l:Lab} (h:zzn l=false):rws (.node l [])=[]:=by
 unfold rws
 rw[ztl,List.filter_cons_of_neg (by show ¬zzn l=true;rw[h];exact Bool.false_ne_true)]
 rfl
theorem zk9 (ms:List Pg):rws (.node .sum ms)=ms.flatMap rws:=by
 unfold rws
 rw[zsl,List.filter_cons_of_neg (by show ¬zzn .sum=true;decide),List.filter_flatMap,List.map_flatMap]
end LK
namespace LK
open PySem PySem.Spec L2 DL TM SX NT PG
theorem zhcb (ys:List (List Nat)):z4l (lnD ys)=some (ys.map S):=by
 rw[zwn]
 induction ys with
 |nil=>rfl
 |cons y ys ih=>rw[List.map_cons,List.map_cons,z4l,ih];rfl
theorem sum_S {ys:List (List Nat)} {K:Nat} (h:∀y∈ys,y.length≤K):((ys.map S).map (·.length)).sum≤ys.length*K:=by
 induction ys with
 |nil=>simp
 |cons y ys ih=>
  have h1:=h y List.mem_cons_self
  have h2:=ih fun z hz=>h z (List.mem_cons_of_mem _ hz)
  simp only[List.map_cons,List.sum_cons,List.length_cons,S_len] at h2 ⊢
  rw[Nat.add_mul]
  omega
theorem zvdb {x:D} {a:List Nat} {ys:List (List Nat)} (hx:seqD x=some (lnD ys)) (h:∀y∈ys,y.length≤20000) (hn:ys.length≤100) (ha:a.length≤10):joinD (.str (S a)) [x]=some (.str (S (TL.joinL a ys))):=by
 have e3:=sum_S h
 have e4:ys.length*a.length≤100*10:=Nat.mul_le_mul hn ha
 unfold joinD
 simp only[hx,zhcb]
 rw[z7b (by rw[S_len,List.length_map];omega),join_S]
/-- right in its place -/
def lok:Lab→List Pg→Prop
 |.fixed ls,ms=>ms=[]∧ls≠[]∧ls.length≤6∧∀x∈ls,(∃r,RowIn 40 20 r∧zxd r=x)∧34 ∉ x∧124 ∉ x
 |.hole c,ms=>ms=[]∧z7c c=true
 |.each c,ms=>z7c c=true∧∃q,ms=[q]∧nms q=[c]∧rowN q = .non
 |.sum,ms=>2≤ms.length∧∀q∈ms,isSum q.lab=false
 |.sh _ n,ms=>n≤20∧∃q,ms=[q]
 |.ded,ms=>∃q,ms=[q]
 |.flu,ms=>∃q,ms=[q]
 |.tg _ t,ms=>isTag t=true∧∃q,ms=[q]
def Good (p:Pg):Prop:=∀q∈parts p,lok q.lab q.ms
theorem Good.here {p:Pg} (h:Good p):lok p.lab p.ms:=h p (by rw[zwe];exact List.mem_cons_self)
theorem zsv {p q:Pg} (h:q∈p.ms):(parts q).Sublist (parts p):=by
 rw[zwe p]
 refine List.Sublist.cons _ ?_
 generalize p.ms=ms at h
 induction ms with
 |nil=>cases h
 |cons a l ih=>
  rw[List.flatMap_cons]
  rcases List.mem_cons.mp h with rfl |h
  ·exact List.sublist_append_left _ _
  ·exact (ih h).trans (List.sublist_append_right _ _)
theorem Good.sub {p q:Pg} (h:Good p) (hq:q∈p.ms):Good q:=fun x hx=>h x ((zsv hq).subset hx)
theorem POk.sub {p q:Pg} (h:POk p) (hq:q∈p.ms):POk q:=by
 have hs:=zsv hq
 refine⟨?_,?_,?_⟩
 ·have:=zhv hq
  have:=h.sz
  omega
 ·exact (hs.filterMap _).nodup h.nd
 ·have h1:=h.wt
  have h2:weight q≤weight p:=(hs.filter _).length_le
  omega
end LK
namespace LK
open PySem PySem.Spec L2 DL TM SX NT PG
theorem zccb {F1 F2:DF} {g:D→D→Option D} (p:Pg) {y:D} (hy:tagIn bopTs "Program" (tagD y)=true) (m:Mem):bopW bopTs [("Block",F1),("Program",F2)] g (.d (pgD p)) (.d y) m=F2 [.d (pgD p),.d y] m:=by
 have hl:look [("Block",F1),("Program",F2)] ("Program" : Str)=some F2:=by
  have h:¬(Str.ofString "Block" = Str.ofString "Program"):=by decide
  unfold look
  rw[if_neg h,z95]
 have ht:tagOf (.d y) m=tagD y:=rfl
 obtain⟨ns,ds,hd⟩:∃ns ds,pgD p = .obj "Program" ns ds:=⟨_,_,zek p⟩
 rw[hd]
 unfold bopW
 rw[zqs]
 dsimp only
 rw[hl]
 dsimp only
 rw[ht,if_pos hy]
theorem zrjb {F1 F2:DF} (p:Pg) (m:Mem):negW [("Block",F1),("Program",F2)] (.d (pgD p)) m=F2 [.d (pgD p)] m:=by
 have hl:look [("Block",F1),("Program",F2)] ("Program" : Str)=some F2:=by
  have h:¬(Str.ofString "Block" = Str.ofString "Program"):=by decide
  unfold look
  rw[if_neg h,z95]
 obtain⟨ns,ds,hd⟩:∃ns ds,pgD p = .obj "Program" ns ds:=⟨_,_,zek p⟩
 rw[hd]
 unfold negW
 rw[zqs]
 dsimp only
 rw[hl]
theorem zxr (p:Pg) {n:Str} (h:fns.contains n=false) (m:Mem):hasNo "Program" n (.d (pgD p)) m=true:=by
 rw[zek]
 unfold obD
 rw[zwab,h]
 simp
theorem z1fb (q:Pg):tagIn bopTs "Program" (tagD (pgD q))=true:=by
 rw[z1eb,z18]
end LK
namespace LK
open PySem PySem.Spec L2 DL TM SX NT PG
mutual
def dep:Pg→Nat
 |.node _ ms=>1+deps ms
def deps:List Pg→Nat
 |[]=>0
 |p::ps=>max (dep p) (deps ps)
end
theorem zy0 (l:Lab) (ms:List Pg):dep (.node l ms)=1+deps ms:=by conv=>lhs;unfold dep
theorem zgeb:deps []=0:=by unfold deps;rfl
theorem ze3 (p:Pg) (ps:List Pg):deps (p::ps)=max (dep p) (deps ps):=by conv=>lhs;unfold deps
theorem zx6 {p:Pg} {ps:List Pg} (h:p∈ps):dep p≤deps ps:=by
 induction ps with
 |nil=>cases h
 |cons q ps ih=>
  rw[ze3]
  rcases List.mem_cons.mp h with rfl |h
  ·exact Nat.le_max_left _ _
  ·exact Nat.le_trans (ih h) (Nat.le_max_right _ _)
theorem zpfb (p:Pg):dep p=1+deps p.ms:=by cases p;exact zy0 _ _
theorem zz6 {p q:Pg} (h:q∈p.ms):dep q<dep p:=by
 have:=zx6 h
 rw[zpfb p]
 omega
theorem zct (p:Pg):1≤dep p:=by rw[zpfb];omega
mutual
theorem zhm:∀p:Pg,dep p≤size p
 |.node l ms=>by
  have:=zd3 ms
  have e:size (.node l ms)=1+sizes ms:=by conv=>lhs;unfold size
  rw[zy0,e]
  omega
theorem zd3:∀ps:List Pg,deps ps≤sizes ps
 |[]=>by rw[zgeb];exact Nat.zero_le _
 |p::ps=>by
  have h1:=zhm p
  have h2:=zd3 ps
  have e:sizes (p::ps)=size p+sizes ps:=by conv=>lhs;unfold sizes
  rw[ze3,e]
  omega
end
/-- the first, or nothing -/
def hdD:List D→D
 |d::_=>d
 |[]=>.non
def tcN:Lab→List D→D
 |.fixed ls,_=>.tup [.str "fixed",.tup (lnD ls)]
 |.hole c,_=>.tup [.str "hole",.str (S [c])]
 |.each c,ds=>.tup [.str "each",.str (S [c]),hdD ds]
 |.sum,ds=>.tup [.str "sum",.tup ds]
 |.sh w n,ds=>.tup [.str w.w,.int (n:Int),hdD ds]
 |.ded,ds=>.tup [.str "dedent",hdD ds]
 |.flu,ds=>.tup [.str "flush",hdD ds]
 |.tg b t,ds=>.tup [.str (Lab.tg b t).w,.str (S t),hdD ds]
mutual
def tcD:Pg→D
 |.node l ms=>tcN l (tcDs ms)
def tcDs:List Pg→List D
 |[]=>[]
 |p::ps=>tcD p::tcDs ps
end
theorem zw5:∀ps:List Pg,tcDs ps=ps.map tcD
 |[]=>by unfold tcDs;rfl
 |p::ps=>by unfold tcDs;rw[zw5 ps];rfl
theorem zhb (l:Lab) (ms:List Pg):tcD (.node l ms)=tcN l (ms.map tcD):=by
 unfold tcD
 rw[zw5]
/-- a line of a fixed block -/
def LineC (x:List Nat):Prop:=∃r,RowIn 40 20 r∧zxd r=x
def lokC:Lab→List Pg→Prop
 |.fixed ls,ms=>ms=[]∧ls≠[]∧ls.length≤6∧∀x∈ls,LineC x
 |.hole c,ms=>ms=[]∧z7c c=true
 |.each c,ms=>z7c c=true∧∃q,ms=[q]∧nms q=[c]∧rowN q = .non
 |.sum,ms=>2≤ms.length∧∀q∈ms,isSum q.lab=false
 |.sh _ n,ms=>n≤20∧∃q,ms=[q]
 |.ded,ms=>∃q,ms=[q]
 |.flu,ms=>∃q,ms=[q]
 |.tg _ t,ms=>isTag t=true∧∃q,ms=[q]
def GoodC (p:Pg):Prop:=∀q∈parts p,lokC q.lab q.ms
theorem GoodC.here {p:Pg} (h:GoodC p):lokC p.lab p.ms:=h p (by rw[zwe];exact List.mem_cons_self)
theorem GoodC.sub {p q:Pg} (h:GoodC p) (hq:q∈p.ms):GoodC q:=fun x hx=>h x ((zsv hq).subset hx)
theorem GoodC.mk {l:Lab} {ms:List Pg} (h:lokC l ms) (hm:∀q∈ms,GoodC q):GoodC (.node l ms):=fun x hx=>by
 rw[zwe] at hx
 rcases List.mem_cons.mp hx with e |hx
 ·rw[e];exact h
 ·obtain⟨q,hq,hx⟩:=List.mem_flatMap.mp hx
  exact hm q hq x hx
abbrev gB:Tbl:=[("Block",zb)]
theorem zb6 (ds:List D) (h:ds.length≤sizeLine):listD [.tup ds]=some (.lst ds):=by
 unfold listD
 simp only[seqD]
theorem zs7 {p:Pg} (g:GoodC p) (hz:p.ms.length≤1000) (m:Mem):zcc [.d (tcD p)] m = .ok (.d (.lst (p.ms.map tcD))) m:=by
 obtain⟨l,ms⟩:=p
 have g0:lokC l ms:=g.here
 have hz:ms.length≤1000:=hz
 show zcc [.d (tcD (.node l ms))] m = .ok (.d (.lst (ms.map tcD))) m
 rw[zhb]
 have s1:1≤sizeLine:=by decide
 cases l with
 |fixed ls=>
  obtain⟨rfl,_⟩:=g0
  have i0:∀m:Mem,ixW gB (.d (tcN (.fixed ls) [])) (.d (.int 0)) m = .ok (.d (.str "fixed")) m:=fun m=>rfl
  have n1:¬(Str.ofString "fixed" = Str.ofString "sum"):=by decide
  have n2:¬(Str.ofString "hole" = Str.ofString "fixed"):=by decide
  rw[List.map_nil]
  generalize tcN (.fixed ls) []=T at *
  simp[zcc,zxc,zbc,i0,n1,n2]
 |hole c=>
  obtain⟨rfl,_⟩:=g0
  have i0:∀m:Mem,ixW gB (.d (tcN (.hole c) [])) (.d (.int 0)) m = .ok (.d (.str "hole")) m:=fun m=>rfl
  have n1:¬(Str.ofString "hole" = Str.ofString "sum"):=by decide
  have n2:¬(Str.ofString "hole" = Str.ofString "fixed"):=by decide
  rw[List.map_nil]
  generalize tcN (.hole c) []=T at *
  simp[zcc,zxc,zbc,i0,n1,n2]
 |sum=>
  have i0:∀m:Mem,ixW gB (.d (tcN .sum (ms.map tcD))) (.d (.int 0)) m = .ok (.d (.str "sum")) m:=fun m=>rfl
  have i1:∀m:Mem,ixW gB (.d (tcN .sum (ms.map tcD))) (.d (.int 1)) m = .ok (.d (.tup (ms.map tcD))) m:=fun m=>rfl
  have el:=zb6 (ms.map tcD) (by rw[List.length_map];unfold sizeLine;omega)
  generalize tcN .sum (ms.map tcD)=T at *
  generalize ms.map tcD=M at *
  simp[zcc,zxc,zbc,i0,i1,el]
 |each c=>
  obtain⟨_,q,rfl,_⟩:=g0
  have i0:∀m:Mem,ixW gB (.d (tcN (.each c) [tcD q])) (.d (.int 0)) m = .ok (.d (.str "each")) m:=fun m=>rfl
  have i1:∀m:Mem,ixW gB (.d (tcN (.each c) [tcD q])) (.d (.int (-1))) m = .ok (.d (tcD q)) m:=fun m=>rfl
  have n1:¬(Str.ofString "each" = Str.ofString "sum"):=by decide
  have n2:¬(Str.ofString "each" = Str.ofString "fixed"):=by decide
  have n3:¬(Str.ofString "each" = Str.ofString "hole"):=by decide
  rw[List.map_cons,List.map_nil]
  generalize tcN (.each c) [tcD q]=T at *
  generalize tcD q=Q at *
  simp[zcc,zxc,zbc,i0,i1,n1,n2,n3,s1]
 |sh w n=>
  obtain⟨_,q,rfl⟩:=g0
  have i0:∀m:Mem,ixW gB (.d (tcN (.sh w n) [tcD q])) (.d (.int 0)) m = .ok (.d (.str w.w)) m:=fun m=>rfl
  have i1:∀m:Mem,ixW gB (.d (tcN (.sh w n) [tcD q])) (.d (.int (-1))) m = .ok (.d (tcD q)) m:=fun m=>rfl
  have n1:¬(w.w=Str.ofString "sum"):=by cases w <;> decide
  have n2:¬(w.w=Str.ofString "fixed"):=by cases w <;> decide
  have n3:¬(w.w=Str.ofString "hole"):=by cases w <;> decide
  rw[List.map_cons,List.map_nil]
  generalize tcN (.sh w n) [tcD q]=T at *
  generalize tcD q=Q at *
  generalize w.w=W0 at *
  simp[zcc,zxc,zbc,i0,i1,n1,n2,n3,s1]
 |ded=>
  obtain⟨q,rfl⟩:=g0
  have i0:∀m:Mem,ixW gB (.d (tcN .ded [tcD q])) (.d (.int 0)) m = .ok (.d (.str "dedent")) m:=fun m=>rfl
  have i1:∀m:Mem,ixW gB (.d (tcN .ded [tcD q])) (.d (.int (-1))) m = .ok (.d (tcD q)) m:=fun m=>rfl
  have n1:¬(Str.ofString "dedent" = Str.ofString "sum"):=by decide
  have n2:¬(Str.ofString "dedent" = Str.ofString "fixed"):=by decide
  have n3:¬(Str.ofString "dedent" = Str.ofString "hole"):=by decide
  rw[List.map_cons,List.map_nil]
  generalize tcN .ded [tcD q]=T at *
  generalize tcD q=Q at *
  simp[zcc,zxc,zbc,i0,i1,n1,n2,n3,s1]
 |flu=>
  obtain⟨q,rfl⟩:=g0
  have i0:∀m:Mem,ixW gB (.d (tcN .flu [tcD q])) (.d (.int 0)) m = .ok (.d (.str "flush")) m:=fun m=>rfl
  have i1:∀m:Mem,ixW gB (.d (tcN .flu [tcD q])) (.d (.int (-1))) m = .ok (.d (tcD q)) m:=fun m=>rfl
  have n1:¬(Str.ofString "flush" = Str.ofString "sum"):=by decide
  have n2:¬(Str.ofString "flush" = Str.ofString "fixed"):=by decide
  have n3:¬(Str.ofString "flush" = Str.ofString "hole"):=by decide
  rw[List.map_cons,List.map_nil]
  generalize tcN .flu [tcD q]=T at *
  generalize tcD q=Q at *
  simp[zcc,zxc,zbc,i0,i1,n1,n2,n3,s1]
 |tg b t=>
  obtain⟨_,q,rfl⟩:=g0
  have i0:∀m:Mem,ixW gB (.d (tcN (.tg b t) [tcD q])) (.d (.int 0)) m = .ok (.d (.str (Lab.tg b t).w)) m:=fun m=>rfl
  have i1:∀m:Mem,ixW gB (.d (tcN (.tg b t) [tcD q])) (.d (.int (-1))) m = .ok (.d (tcD q)) m:=fun m=>rfl
  have n1:¬((Lab.tg b t).w=Str.ofString "sum"):=by cases b <;> (show ¬(Str.ofString _=Str.ofString _);decide)
  have n2:¬((Lab.tg b t).w=Str.ofString "fixed"):=by cases b <;> (show ¬(Str.ofString _=Str.ofString _);decide)
  have n3:¬((Lab.tg b t).w=Str.ofString "hole"):=by cases b <;> (show ¬(Str.ofString _=Str.ofString _);decide)
  rw[List.map_cons,List.map_nil]
  generalize tcN (.tg b t) [tcD q]=T at *
  generalize tcD q=Q at *
  generalize (Lab.tg b t).w=W0 at *
  simp[zcc,zxc,zbc,i0,i1,n1,n2,n3,s1]
theorem zwgb (p:Pg):p.ms.length≤size p:=by
 have h:=z9c p
 rw[zwe,List.length_cons] at h
 have:p.ms.length≤(p.ms.flatMap parts).length:=by
  generalize p.ms=ms
  induction ms with
  |nil=>exact Nat.zero_le _
  |cons q ms ih=>
   rw[List.flatMap_cons,List.length_append,List.length_cons]
   have:1≤(parts q).length:=by rw[zwe];simp
   omega
 omega
theorem z85:∀(n:Nat) (p:Pg),dep p≤n→size p≤900→GoodC p→∀m:Mem,z0e n [.d (tcD p)] m = .ok (.d (.lst ((parts p).map tcD))) m
 | 0,p,h,_,_,m=>by have:=zct p;omega
 |n+1,p,h,hz,g,m=>by
  have hms:=zwgb p
  have pl:=PG.z9c p
  rw[zwe,List.length_cons] at pl
  have em:=zs7 g (by omega) m
  have lp:=zyh (g:=gNm 2) (b:=zll (z0e n)) (fun ds dl m'=>∃(done rest:List Pg) (x:Option W),ds=rest.map tcD∧p.ms=done++rest∧dl=[some (.d (tcD p)),some (.d (.lst (tcD p::(done.flatMap parts).map tcD))),x]∧m'=m) (fun d ds dl m' hI=>by
   obtain⟨done,rest,x,hd,hm,rfl,rfl⟩:=hI
   cases rest with
   |nil=>cases hd
   |cons q rest=>
    rw[List.map_cons] at hd
    injection hd with h1 h2
    subst h1
    have hq:q∈p.ms:=by rw[hm];simp
    have e:=z85 n q (by have:=zz6 hq;omega) (by have:=zhv hq;omega) (g.sub hq) m'
    have hl:(done.flatMap parts).length+(parts q).length≤(p.ms.flatMap parts).length:=by
     rw[hm,List.flatMap_append,List.length_append,List.flatMap_cons,List.length_append]
     omega
    have ea:addD (.lst (tcD p::(done.flatMap parts).map tcD)) (.lst ((parts q).map tcD))=some (.lst (tcD p::(done.flatMap parts).map tcD++(parts q).map tcD)):=z7b (by simp only[List.length_cons,List.length_map];unfold sizeLine;omega)
    refine⟨_,rfl,[some (.d (tcD p)),some (.d (.lst (tcD p::(((done++[q]).flatMap parts).map tcD)))),some (.d (tcD q))],m',?_,done++[q],rest,_,h2,by rw[hm];simp,rfl,rfl⟩
    have e3:tcD p::(((done++[q]).flatMap parts).map tcD)=tcD p::(done.flatMap parts).map tcD++(parts q).map tcD:=by simp
    rw[e3]
    generalize tcD p::(done.flatMap parts).map tcD=A at *
    generalize (parts q).map tcD=B at *
    generalize tcD q=Q at *
    simp[zll,e,ea])
  obtain⟨dl2,m2,el,done,rest,x,hd,hm,rfl,rfl⟩:=lp (p.ms.map tcD) [some (.d (tcD p)),some (.d (.lst [tcD p])),none] m ⟨[],p.ms,none,rfl,rfl,rfl,rfl⟩
  have hr:rest=[]:=by
   cases rest with
   |nil=>rfl
   |cons=>cases hd
  subst hr
  rw[List.append_nil] at hm
  rw[←hm] at el
  have e2:tcD p::(p.ms.flatMap parts).map tcD=(parts p).map tcD:=by rw[zwe p];rfl
  rw[e2] at el
  have s1:1≤sizeLine:=by decide
  generalize (parts p).map tcD=pp at *
  generalize p.ms.map tcD=M at *
  generalize tcD p=P at *
  simp[z0e,z5k,em,el,s1]
theorem zz1 {p:Pg} (h:size p≤24) (g:GoodC p) (m:Mem):zue [.d (tcD p)] m = .ok (.d (.lst ((parts p).map tcD))) m:=z85 24 p (by have:=zhm p;omega) (by omega) g m
/-- the word of a part -/
theorem zjg (p:Pg) (m:Mem):ixW gB (.d (tcD p)) (.d (.int 0)) m = .ok (.d (.str p.lab.w)) m:=by
 obtain⟨l,ms⟩:=p
 rw[zhb]
 cases l with
 |tg b t=>cases b <;> rfl
 |sh w n=>cases w <;> rfl
 |_=>rfl
end LK
namespace LK
open PySem PySem.Spec L2 DL TM SX NT PG
def nmQ (p:Pg):List Str:=sortS ((nms p).map fun c=>S [c])
theorem zyfb {p:Pg} (h:zyn p.lab=true) (m:Mem):ixW gB (.d (tcD p)) (.d (.int 1)) m = .ok (.d (nmD p.lab)) m:=by
 obtain⟨l,ms⟩:=p
 rw[zhb]
 have h:zyn l=true:=h
 cases l <;> first |rfl |cases h
theorem z6gb {p:Pg} (h:size p≤24) (hl:(nms p).length≤60) (g:GoodC p) (m:Mem):zhi [.d (tcD p)] m = .ok (.d (.lst ((nmQ p).map D.str))) m:=by
 have e1:=zz1 h g m
 have ec:=zhp (m:=m) (g:=gNm 1) (t:=z8j) (e:=z9j) (wd:=[some (.d (tcD p)),none]) (enc:=tcD) (dec:=fun q=>nmD q.lab) (fun q=>zyn q.lab) (parts p) (fun q _=>⟨_,rfl,by
  have ew:=zjg q
  have e2:=zkh q.lab.w "hole"
  rw[zt8] at e2
  generalize tcD q=Q at *
  simp[-zkh,z8j,ew,e2],fun hq=>by
  have ew:=zyfb hq
  generalize tcD q=Q at *
  simp[z9j,ew]⟩) (by rw[PG.z9c];unfold sizeLine;omega)
 rw[zcfb,z3bb] at ec
 have e3:=zut ((nms p).map fun c=>S [c]) (by rw[List.length_map];omega)
 unfold nmQ
 generalize (sortS ((nms p).map fun c=>S [c])).map D.str=A at *
 generalize ((nms p).map fun c=>S [c]).map D.str=B at *
 generalize (parts p).map tcD=pp at *
 generalize tcD p=P at *
 simp[zhi,zno,z6k,e1,ec,e3]
theorem z0cb {ls:List (List Nat)} (h:∀x∈ls,LineC x):∃rs:List Row,rs.map zxd=ls∧∀r∈rs,RowIn 40 20 r:=by
 induction ls with
 |nil=>exact⟨[],rfl,fun _ hr=>nomatch hr⟩
 |cons x xs ih=>
  obtain⟨r,h1,h2⟩:=h x List.mem_cons_self
  obtain⟨rs,h3,h4⟩:=ih fun y hy=>h y (List.mem_cons_of_mem _ hy)
  refine⟨r::rs,by rw[List.map_cons,h2,h3],fun y hy=>?_⟩
  rcases List.mem_cons.mp hy with rfl |hy
  ·exact h1
  ·exact h4 y hy
theorem z7db {ls:List (List Nat)} {ms:List Pg} (g:lokC (.fixed ls) ms) (m:Mem):zpt [.d (.str (S (TL.joinL [10] ls)))] m = .ok (.d (pgD (.node (.fixed ls) []))) m:=by
 obtain⟨_,hne,h6,hx⟩:=g
 obtain⟨rs,e,hr⟩:=z0cb hx
 subst e
 rw[List.length_map] at h6
 exact z6db hr (by decide) (by simpa using hne) h6 m
def sumN:List Pg→Pg
 |[]=>.node .sum []
 |[p]=>p
 |ps=>.node .sum ps
theorem POk.pre {ms ks:List Pg} (h:POk (.node .sum (ms++ks))):POk (.node .sum ms):=by
 have hs:(ms.flatMap parts).Sublist ((ms++ks).flatMap parts):=by rw[List.flatMap_append];exact List.sublist_append_left _ _
 refine⟨?_,?_,?_⟩
 ·have h1:=h.sz
  rw[←z9c] at h1 ⊢
  rw[zsl] at h1 ⊢
  have:=hs.length_le
  simp only[List.length_cons] at h1 ⊢
  omega
 ·have h1:=h.nd
  unfold nms at h1 ⊢
  rw[zsl,List.filterMap_cons_none (by rfl)] at h1 ⊢
  exact (hs.filterMap _).nodup h1
 ·have h1:=h.wt
  unfold weight at h1 ⊢
  rw[zsl,List.filter_cons_of_neg (by exact Bool.false_ne_true)] at h1 ⊢
  have:=(hs.filter (fun q=>wei q.lab)).length_le
  omega
theorem zxeb {a:Pg} {as:List Pg} {q:Pg} (ha:∀x∈a::as,isSum x.lab=false) (hq:isSum q.lab=false) (h:POk (.node .sum (a::as++[q]))) (m:Mem):zwc [.d (pgD (sumN (a::as))),.d (pgD q)] m = .ok (.d (pgD (sumN (a::as++[q])))) m:=by
 have e1:sms (sumN (a::as))=a::as:=by
  cases as with
  |nil=>exact zwt (ha a List.mem_cons_self)
  |cons b bs=>exact z8p _
 have e2:=zwt hq
 have e3:sumN (a::as++[q]) = .node .sum (sms (sumN (a::as))++sms q):=by
  rw[e1,e2]
  cases as <;> rfl
 rw[e3]
 exact zngb (by rw[e1];simp) (by rw[e2];simp) (by rw[e1,e2];exact h) m
theorem z3kb (xs:List D):cutD xs (some 1) none=xs.drop 1:=by
 unfold cutD
 rw[HT.sIx_none]
 have e:HT.sIx xs.length 0 (some 1)=min 1 xs.length:=HT.sIx_nat xs.length 0 1
 rw[e]
 cases xs with
 |nil=>rfl
 |cons x xs=>
  have:min 1 (x::xs).length=1:=by rw[List.length_cons];omega
  rw[this]
  exact List.take_of_length_le (by rw[List.length_drop];exact Nat.le_refl _)
theorem sl_2 (d d2:D) (ds:List D):slD (.tup (d::d2::ds)) (some 1) none=some (.tup (d2::ds)):=by
 have e:slD (.tup (d::d2::ds)) (some 1) none=chk _ (.tup (cutD (d::d2::ds) (some 1) none)):=rfl
 rw[e,z7b (fun⟨a,_⟩=>by
  have e:HT.sIx (d::d2::ds).length 0 (some 1)=min 1 (d::d2::ds).length:=HT.sIx_nat _ 0 1
  rw[e] at a
  simp only[List.length_cons] at a
  omega),z3kb]
 rfl
theorem zt3 {F:DF} {m:Mem} (x0 x1 x4:Option W):∀(ks:List Pg) (a:Pg) (as:List Pg) (x3:Option W),(∀q∈ks,F [.d (tcD q)] m = .ok (.d (pgD q)) m)→(∀x∈a::as++ks,isSum x.lab=false)→POk (.node .sum (a::as++ks)) →
  ∃x3',loopD (gNm 3) (z3h F) (ks.map tcD) [x0,x1,some (.d (pgD (sumN (a::as)))),x3,x4] m = .nx [x0,x1,some (.d (pgD (sumN (a::as++ks)))),x3',x4] m
 |[],a,as,x3,_,_,_=>⟨x3,by rw[List.append_nil];rfl⟩
 |k::ks,a,as,x3,hF,hs,hp=>by
  have e0:a::as++k::ks=a::(as++[k])++ks:=by simp
  have h1:=hF k List.mem_cons_self
  have hp2:POk (.node .sum (a::as++[k])):=by
   rw[e0] at hp
   exact hp.pre
  have e:=zxeb (fun x hx=>hs x (List.mem_append_left _ hx)) (hs k (List.mem_append_right _ List.mem_cons_self)) hp2 m
  have eb:=@zccb zrf zwc addD (sumN (a::as)) (pgD k) (z1fb k) m
  have hb:z3h F [x0,x1,some (.d (pgD (sumN (a::as)))),some (.d (tcD k)),x4] m = .nx [x0,x1,some (.d (pgD (sumN (a::as++[k])))),some (.d (tcD k)),x4] m:=by
   generalize pgD (sumN (a::as++[k]))=R at *
   generalize pgD (sumN (a::as))=A at *
   generalize pgD k=Kk at *
   generalize tcD k=T at *
   simp[z3h,h1,eb,e]
  rw[e0] at hs hp ⊢
  obtain⟨x3',hx⟩:=zt3 x0 x1 x4 ks a (as++[k]) (some (.d (tcD k))) (fun q hq=>hF q (List.mem_cons_of_mem _ hq)) hs hp
  refine⟨x3',?_⟩
  rw[List.map_cons,zgk (dl1:=[x0,x1,some (.d (pgD (sumN (a::as)))),some (.d (tcD k)),x4]) rfl hb]
  exact hx
theorem zacb {k:Nat} {ls:List (List Nat)} (g:lokC (.fixed ls) []) (m:Mem):zm (k+1) [.d (tcD (.node (.fixed ls) []))] m = .ok (.d (pgD (.node (.fixed ls) []))) m:=by
 have e:=z7db g m
 have ej:joinD (.str (S [10])) [.tup (lnD ls)]=some (.str (S (TL.joinL [10] ls))):=zvdb rfl (fun y hy=>by
  obtain⟨r,hr,rfl⟩:=g.2.2.2 y hy
  have:=hr.len
  omega) (by have:=g.2.2.1;omega) (by simp)
 have i0:=zjg (.node (.fixed ls) [])
 have i0:∀m:Mem,ixW gB (.d (tcD (.node (.fixed ls) []))) (.d (.int 0)) m = .ok (.d (.str "fixed")) m:=i0
 have i1:∀m:Mem,ixW gB (.d (tcD (.node (.fixed ls) []))) (.d (.int 1)) m = .ok (.d (.tup (lnD ls))) m:=fun m=>by rw[zhb];rfl
 have enl:Str.ofString "\n" = S [10]:=by decide
 generalize tcD (.node (.fixed ls) [])=T at *
 generalize pgD (.node (.fixed ls) [])=R at *
 generalize TL.joinL [10] ls=C at *
 generalize lnD ls=L at *
 simp[zm,zlb,i0,i1,enl,ej,e]
theorem zk8 {k c:Nat} (hc:z7c c=true) (m:Mem):zm (k+1) [.d (tcD (.node (.hole c) []))] m = .ok (.d (pgD (.node (.hole c) []))) m:=by
 have e:=zjhb hc m
 have i0:∀m:Mem,ixW gB (.d (tcD (.node (.hole c) []))) (.d (.int 0)) m = .ok (.d (.str "hole")) m:=zjg (.node (.hole c) [])
 have i1:∀m:Mem,ixW gB (.d (tcD (.node (.hole c) []))) (.d (.int 1)) m = .ok (.d (.str (S [c]))) m:=fun m=>by rw[zhb];rfl
 have n1:¬(Str.ofString "hole" = Str.ofString "fixed"):=by decide
 generalize tcD (.node (.hole c) [])=T at *
 generalize pgD (.node (.hole c) [])=R at *
 generalize S [c]=C at *
 simp[zm,zlb,i0,i1,n1,e]
theorem zl8 {k c:Nat} {q:Pg} (hc:z7c c=true) (h1:nms q=[c]) (h2:rowN q = .non) (m:Mem) (ih:zm k [.d (tcD q)] m = .ok (.d (pgD q)) m) (h:POk (.node (.each c) [q])):zm (k+1) [.d (tcD (.node (.each c) [q]))] m = .ok (.d (pgD (.node (.each c) [q]))) m:=by
 have e:=zwhb hc h1 h2 h m
 have i0:∀m:Mem,ixW gB (.d (tcD (.node (.each c) [q]))) (.d (.int 0)) m = .ok (.d (.str "each")) m:=zjg (.node (.each c) [q])
 have i1:∀m:Mem,ixW gB (.d (tcD (.node (.each c) [q]))) (.d (.int 1)) m = .ok (.d (.str (S [c]))) m:=fun m=>by rw[zhb];rfl
 have i2:∀m:Mem,ixW gB (.d (tcD (.node (.each c) [q]))) (.d (.int 2)) m = .ok (.d (tcD q)) m:=fun m=>by rw[zhb];rfl
 have n1:¬(Str.ofString "each" = Str.ofString "fixed"):=by decide
 have n2:¬(Str.ofString "each" = Str.ofString "hole"):=by decide
 generalize tcD (.node (.each c) [q])=T at *
 generalize pgD (.node (.each c) [q])=R at *
 generalize tcD q=Q at *
 generalize pgD q=P at *
 generalize S [c]=C at *
 simp[zm,zlb,i0,i1,i2,n1,n2,ih,e]
theorem z6bb {k:Nat} {a b:Pg} {l:List Pg} (m:Mem) (ih:∀q∈a::b::l,zm k [.d (tcD q)] m = .ok (.d (pgD q)) m) (hs:∀q∈a::b::l,isSum q.lab=false) (h:POk (.node .sum (a::b::l))):zm (k+1) [.d (tcD (.node .sum (a::b::l)))] m = .ok (.d (pgD (.node .sum (a::b::l)))) m:=by
 have i1:=ih a List.mem_cons_self
 obtain⟨x3,el⟩:=zt3 (F:=zm k) (m:=m) (some (.d (tcD (.node .sum (a::b::l))))) (some (.d (.str "sum"))) none (b::l) a [] none (fun q hq=>ih q (List.mem_cons_of_mem _ hq)) hs h
 have es:sumN ([a]++b::l) = .node .sum (a::b::l):=rfl
 rw[es] at el
 have e0:sumN [a]=a:=rfl
 rw[e0] at el
 have em:(b::l).map tcD=tcD b::l.map tcD:=rfl
 rw[em] at el
 have c1:=sl_2 (tcD a) (tcD b) (l.map tcD)
 have j0:∀m:Mem,ixW gB (.d (tcD (.node .sum (a::b::l)))) (.d (.int 0)) m = .ok (.d (.str "sum")) m:=zjg (.node .sum (a::b::l))
 have j1:∀m:Mem,ixW gB (.d (tcD (.node .sum (a::b::l)))) (.d (.int 1)) m = .ok (.d (.tup (tcD a::tcD b::l.map tcD))) m:=fun m=>by rw[zhb];rfl
 have i0:ixD (.tup (tcD a::tcD b::l.map tcD)) (.int 0)=some (tcD a):=by
  show atI (tcD a::tcD b::l.map tcD) ((0:Nat):Int)=_
  rw[DL.atI_nat]
  rfl
 have n1:¬(Str.ofString "sum" = Str.ofString "fixed"):=by decide
 have n2:¬(Str.ofString "sum" = Str.ofString "hole"):=by decide
 have n3:¬(Str.ofString "sum" = Str.ofString "each"):=by decide
 generalize tcD (.node .sum (a::b::l))=T at *
 generalize pgD (.node .sum (a::b::l))=R at *
 generalize pgD a=PA at *
 generalize tcD a=TA at *
 generalize tcD b=TB at *
 generalize l.map tcD=TL0 at *
 simp[zm,zlb,j0,j1,c1,i0,i1,el,n1,n2,n3]
theorem zteb {k:Nat} {n:Nat} {p:Pg} (hn:n≤20) (m:Mem) (ih:zm k [.d (tcD p)] m = .ok (.d (pgD p)) m) (h:POk (.node (.sh .in_ n) [p])):zm (k+1) [.d (tcD (.node (.sh .in_ n) [p]))] m = .ok (.d (pgD (.node (.sh .in_ n) [p]))) m:=by
 have e:=zm9 hn h m
 have b1:=@zccb zae zhc noD p (.int (n:Int)) rfl m
 have i0:∀m:Mem,ixW gB (.d (tcD (.node (.sh .in_ n) [p]))) (.d (.int 0)) m = .ok (.d (.str "in")) m:=zjg (.node (.sh .in_ n) [p])
 have i1:∀m:Mem,ixW gB (.d (tcD (.node (.sh .in_ n) [p]))) (.d (.int 1)) m = .ok (.d (.int (n:Int))) m:=fun m=>by rw[zhb];rfl
 have im:∀m:Mem,ixW gB (.d (tcD (.node (.sh .in_ n) [p]))) (.d (.int (-1))) m = .ok (.d (tcD p)) m:=fun m=>by rw[zhb];rfl
 have n0:¬(Str.ofString "in" = Str.ofString "fixed"):=by decide
 have n1:¬(Str.ofString "in" = Str.ofString "hole"):=by decide
 have n2:¬(Str.ofString "in" = Str.ofString "each"):=by decide
 have n3:¬(Str.ofString "in" = Str.ofString "sum"):=by decide
 generalize tcD (.node (.sh .in_ n) [p])=T at *
 generalize pgD (.node (.sh .in_ n) [p])=R at *
 generalize pgD p=P at *
 generalize tcD p=Q at *
 generalize (n:Int)=N at *
 simp[zm,zlb,i0,im,ih,e,n0,n1,n2,n3,i1,b1]
theorem z8bb {k:Nat} {n:Nat} {p:Pg} (hn:n≤20) (m:Mem) (ih:zm k [.d (tcD p)] m = .ok (.d (pgD p)) m) (h:POk (.node (.sh .out n) [p])):zm (k+1) [.d (tcD (.node (.sh .out n) [p]))] m = .ok (.d (pgD (.node (.sh .out n) [p]))) m:=by
 have e:=zhab hn h m
 have b1:=@zccb zbe zic noD p (.int (n:Int)) rfl m
 have i0:∀m:Mem,ixW gB (.d (tcD (.node (.sh .out n) [p]))) (.d (.int 0)) m = .ok (.d (.str "out")) m:=zjg (.node (.sh .out n) [p])
 have i1:∀m:Mem,ixW gB (.d (tcD (.node (.sh .out n) [p]))) (.d (.int 1)) m = .ok (.d (.int (n:Int))) m:=fun m=>by rw[zhb];rfl
 have im:∀m:Mem,ixW gB (.d (tcD (.node (.sh .out n) [p]))) (.d (.int (-1))) m = .ok (.d (tcD p)) m:=fun m=>by rw[zhb];rfl
 have n0:¬(Str.ofString "out" = Str.ofString "fixed"):=by decide
 have n1:¬(Str.ofString "out" = Str.ofString "hole"):=by decide
 have n2:¬(Str.ofString "out" = Str.ofString "each"):=by decide
 have n3:¬(Str.ofString "out" = Str.ofString "sum"):=by decide
 have n4:¬(Str.ofString "out" = Str.ofString "in"):=by decide
 generalize tcD (.node (.sh .out n) [p])=T at *
 generalize pgD (.node (.sh .out n) [p])=R at *
 generalize pgD p=P at *
 generalize tcD p=Q at *
 generalize (n:Int)=N at *
 simp[zm,zlb,i0,im,ih,e,n0,n1,n2,n3,n4,i1,b1]
theorem zp5 {k:Nat} {n:Nat} {p:Pg} (hn:n≤20) (m:Mem) (ih:zm k [.d (tcD p)] m = .ok (.d (pgD p)) m) (h:POk (.node (.sh .first n) [p])):zm (k+1) [.d (tcD (.node (.sh .first n) [p]))] m = .ok (.d (pgD (.node (.sh .first n) [p]))) m:=by
 have e:=zz9 hn h m
 have b1:=zxr p (n:="first") (by decide) m
 have i0:∀m:Mem,ixW gB (.d (tcD (.node (.sh .first n) [p]))) (.d (.int 0)) m = .ok (.d (.str "first")) m:=zjg (.node (.sh .first n) [p])
 have i1:∀m:Mem,ixW gB (.d (tcD (.node (.sh .first n) [p]))) (.d (.int 1)) m = .ok (.d (.int (n:Int))) m:=fun m=>by rw[zhb];rfl
 have im:∀m:Mem,ixW gB (.d (tcD (.node (.sh .first n) [p]))) (.d (.int (-1))) m = .ok (.d (tcD p)) m:=fun m=>by rw[zhb];rfl
 have n0:¬(Str.ofString "first" = Str.ofString "fixed"):=by decide
 have n1:¬(Str.ofString "first" = Str.ofString "hole"):=by decide
 have n2:¬(Str.ofString "first" = Str.ofString "each"):=by decide
 have n3:¬(Str.ofString "first" = Str.ofString "sum"):=by decide
 have n4:¬(Str.ofString "first" = Str.ofString "in"):=by decide
 have n5:¬(Str.ofString "first" = Str.ofString "out"):=by decide
 generalize tcD (.node (.sh .first n) [p])=T at *
 generalize pgD (.node (.sh .first n) [p])=R at *
 generalize pgD p=P at *
 generalize tcD p=Q at *
 generalize (n:Int)=N at *
 simp[zm,zlb,i0,im,ih,e,n0,n1,n2,n3,n4,n5,i1,b1]
theorem zj8 {k:Nat} {n:Nat} {p:Pg} (hn:n≤20) (m:Mem) (ih:zm k [.d (tcD p)] m = .ok (.d (pgD p)) m) (h:POk (.node (.sh .rest n) [p])):zm (k+1) [.d (tcD (.node (.sh .rest n) [p]))] m = .ok (.d (pgD (.node (.sh .rest n) [p]))) m:=by
 have e:=z6cb hn h m
 have b1:=zxr p (n:="rest") (by decide) m
 have i0:∀m:Mem,ixW gB (.d (tcD (.node (.sh .rest n) [p]))) (.d (.int 0)) m = .ok (.d (.str "rest")) m:=zjg (.node (.sh .rest n) [p])
 have i1:∀m:Mem,ixW gB (.d (tcD (.node (.sh .rest n) [p]))) (.d (.int 1)) m = .ok (.d (.int (n:Int))) m:=fun m=>by rw[zhb];rfl
 have im:∀m:Mem,ixW gB (.d (tcD (.node (.sh .rest n) [p]))) (.d (.int (-1))) m = .ok (.d (tcD p)) m:=fun m=>by rw[zhb];rfl
 have n0:¬(Str.ofString "rest" = Str.ofString "fixed"):=by decide
 have n1:¬(Str.ofString "rest" = Str.ofString "hole"):=by decide
 have n2:¬(Str.ofString "rest" = Str.ofString "each"):=by decide
 have n3:¬(Str.ofString "rest" = Str.ofString "sum"):=by decide
 have n4:¬(Str.ofString "rest" = Str.ofString "in"):=by decide
 have n5:¬(Str.ofString "rest" = Str.ofString "out"):=by decide
 have n6:¬(Str.ofString "rest" = Str.ofString "first"):=by decide
 generalize tcD (.node (.sh .rest n) [p])=T at *
 generalize pgD (.node (.sh .rest n) [p])=R at *
 generalize pgD p=P at *
 generalize tcD p=Q at *
 generalize (n:Int)=N at *
 simp[zm,zlb,i0,im,ih,e,n0,n1,n2,n3,n4,n5,n6,i1,b1]
theorem zo5 {k:Nat} {p:Pg} (m:Mem) (ih:zm k [.d (tcD p)] m = .ok (.d (pgD p)) m) (h:POk (.node .flu [p])):zm (k+1) [.d (tcD (.node .flu [p]))] m = .ok (.d (pgD (.node .flu [p]))) m:=by
 have e:=zy9 h m
 have b1:=zxr p (n:="flush") (by decide) m
 have i0:∀m:Mem,ixW gB (.d (tcD (.node .flu [p]))) (.d (.int 0)) m = .ok (.d (.str "flush")) m:=zjg (.node .flu [p])
 have im:∀m:Mem,ixW gB (.d (tcD (.node .flu [p]))) (.d (.int (-1))) m = .ok (.d (tcD p)) m:=fun m=>by rw[zhb];rfl
 have n0:¬(Str.ofString "flush" = Str.ofString "fixed"):=by decide
 have n1:¬(Str.ofString "flush" = Str.ofString "hole"):=by decide
 have n2:¬(Str.ofString "flush" = Str.ofString "each"):=by decide
 have n3:¬(Str.ofString "flush" = Str.ofString "sum"):=by decide
 have n4:¬(Str.ofString "flush" = Str.ofString "in"):=by decide
 have n5:¬(Str.ofString "flush" = Str.ofString "out"):=by decide
 have n6:¬(Str.ofString "flush" = Str.ofString "first"):=by decide
 have n7:¬(Str.ofString "flush" = Str.ofString "rest"):=by decide
 generalize tcD (.node .flu [p])=T at *
 generalize pgD (.node .flu [p])=R at *
 generalize pgD p=P at *
 generalize tcD p=Q at *
 simp[zm,zlb,i0,im,ih,e,n0,n1,n2,n3,n4,n5,n6,n7,b1]
theorem z5bb {k:Nat} {t:List Nat} {p:Pg} (ht:isTag t=true) (m:Mem) (ih:zm k [.d (tcD p)] m = .ok (.d (pgD p)) m) (h:POk (.node (.tg true t) [p])):zm (k+1) [.d (tcD (.node (.tg true t) [p]))] m = .ok (.d (pgD (.node (.tg true t) [p]))) m:=by
 have e:=zyy ht h m
 have b1:=zxr p (n:="tagged") (by decide) m
 have ek:zqg [.d (pgD p),.d (.str (S t))] m=zpd [.d (pgD p),.d (.str (S t)),.d (.bl true)] m:=rfl
 have i0:∀m:Mem,ixW gB (.d (tcD (.node (.tg true t) [p]))) (.d (.int 0)) m = .ok (.d (.str "tag")) m:=zjg (.node (.tg true t) [p])
 have i1:∀m:Mem,ixW gB (.d (tcD (.node (.tg true t) [p]))) (.d (.int 1)) m = .ok (.d (.str (S t))) m:=fun m=>by rw[zhb];rfl
 have im:∀m:Mem,ixW gB (.d (tcD (.node (.tg true t) [p]))) (.d (.int (-1))) m = .ok (.d (tcD p)) m:=fun m=>by rw[zhb];rfl
 have n0:¬(Str.ofString "tag" = Str.ofString "fixed"):=by decide
 have n1:¬(Str.ofString "tag" = Str.ofString "hole"):=by decide
 have n2:¬(Str.ofString "tag" = Str.ofString "each"):=by decide
 have n3:¬(Str.ofString "tag" = Str.ofString "sum"):=by decide
 have n4:¬(Str.ofString "tag" = Str.ofString "in"):=by decide
 have n5:¬(Str.ofString "tag" = Str.ofString "out"):=by decide
 have n6:¬(Str.ofString "tag" = Str.ofString "first"):=by decide
 have n7:¬(Str.ofString "tag" = Str.ofString "rest"):=by decide
 have n8:¬(Str.ofString "tag" = Str.ofString "flush"):=by decide
 generalize tcD (.node (.tg true t) [p])=T at *
 generalize pgD (.node (.tg true t) [p])=R at *
 generalize pgD p=P at *
 generalize tcD p=Q at *
 generalize S t=N at *
 simp[zm,zlb,i0,im,ih,e,n0,n1,n2,n3,n4,n5,n6,n7,n8,i1,b1,ek]
theorem z7bb {k:Nat} {t:List Nat} {p:Pg} (ht:isTag t=true) (m:Mem) (ih:zm k [.d (tcD p)] m = .ok (.d (pgD p)) m) (h:POk (.node (.tg false t) [p])):zm (k+1) [.d (tcD (.node (.tg false t) [p]))] m = .ok (.d (pgD (.node (.tg false t) [p]))) m:=by
 have e:=zyy ht h m
 have b1:=zxr p (n:="tagged") (by decide) m
 have ek:zre [.d (pgD p),.d (.str (S t)),.d (.bl false)] m=zpd [.d (pgD p),.d (.str (S t)),.d (.bl false)] m:=rfl
 have i0:∀m:Mem,ixW gB (.d (tcD (.node (.tg false t) [p]))) (.d (.int 0)) m = .ok (.d (.str "raw")) m:=zjg (.node (.tg false t) [p])
 have i1:∀m:Mem,ixW gB (.d (tcD (.node (.tg false t) [p]))) (.d (.int 1)) m = .ok (.d (.str (S t))) m:=fun m=>by rw[zhb];rfl
 have im:∀m:Mem,ixW gB (.d (tcD (.node (.tg false t) [p]))) (.d (.int (-1))) m = .ok (.d (tcD p)) m:=fun m=>by rw[zhb];rfl
 have n0:¬(Str.ofString "raw" = Str.ofString "fixed"):=by decide
 have n1:¬(Str.ofString "raw" = Str.ofString "hole"):=by decide
 have n2:¬(Str.ofString "raw" = Str.ofString "each"):=by decide
 have n3:¬(Str.ofString "raw" = Str.ofString "sum"):=by decide
 have n4:¬(Str.ofString "raw" = Str.ofString "in"):=by decide
 have n5:¬(Str.ofString "raw" = Str.ofString "out"):=by decide
 have n6:¬(Str.ofString "raw" = Str.ofString "first"):=by decide
 have n7:¬(Str.ofString "raw" = Str.ofString "rest"):=by decide
 have n8:¬(Str.ofString "raw" = Str.ofString "flush"):=by decide
 have n9:¬(Str.ofString "raw" = Str.ofString "tag"):=by decide
 generalize tcD (.node (.tg false t) [p])=T at *
 generalize pgD (.node (.tg false t) [p])=R at *
 generalize pgD p=P at *
 generalize tcD p=Q at *
 generalize S t=N at *
 simp[zm,zlb,i0,im,ih,e,n0,n1,n2,n3,n4,n5,n6,n7,n8,n9,i1,b1,ek]
theorem zbcb {k:Nat} {p:Pg} (m:Mem) (ih:zm k [.d (tcD p)] m = .ok (.d (pgD p)) m) (h:POk (.node .ded [p])):zm (k+1) [.d (tcD (.node .ded [p]))] m = .ok (.d (pgD (.node .ded [p]))) m:=by
 have e:=zjgb h m
 have b1:=@zrjb zqf zcd p m
 have i0:∀m:Mem,ixW gB (.d (tcD (.node .ded [p]))) (.d (.int 0)) m = .ok (.d (.str "dedent")) m:=zjg (.node .ded [p])
 have im:∀m:Mem,ixW gB (.d (tcD (.node .ded [p]))) (.d (.int (-1))) m = .ok (.d (tcD p)) m:=fun m=>by rw[zhb];rfl
 have n0:¬(Str.ofString "dedent" = Str.ofString "fixed"):=by decide
 have n1:¬(Str.ofString "dedent" = Str.ofString "hole"):=by decide
 have n2:¬(Str.ofString "dedent" = Str.ofString "each"):=by decide
 have n3:¬(Str.ofString "dedent" = Str.ofString "sum"):=by decide
 have n4:¬(Str.ofString "dedent" = Str.ofString "in"):=by decide
 have n5:¬(Str.ofString "dedent" = Str.ofString "out"):=by decide
 have n6:¬(Str.ofString "dedent" = Str.ofString "first"):=by decide
 have n7:¬(Str.ofString "dedent" = Str.ofString "rest"):=by decide
 have n8:¬(Str.ofString "dedent" = Str.ofString "flush"):=by decide
 have n9:¬(Str.ofString "dedent" = Str.ofString "tag"):=by decide
 have n10:¬(Str.ofString "dedent" = Str.ofString "raw"):=by decide
 generalize tcD (.node .ded [p])=T at *
 generalize pgD (.node .ded [p])=R at *
 generalize pgD p=P at *
 generalize tcD p=Q at *
 simp[zm,zlb,i0,im,ih,e,n0,n1,n2,n3,n4,n5,n6,n7,n8,n9,n10,b1]
theorem z9bb:∀(n:Nat) (p:Pg),dep p≤n→POk p→GoodC p→∀m:Mem,zm n [.d (tcD p)] m = .ok (.d (pgD p)) m
 | 0,p,h,_,_,_=>by have:=zct p;omega
 |n+1,.node l ms,h,o,g,m=>by
  have ih:∀q∈ms,zm n [.d (tcD q)] m = .ok (.d (pgD q)) m:=fun q hq=>z9bb n q (by have:=zz6 (p:=.node l ms) (q:=q) hq;omega) (o.sub (q:=q) hq) (g.sub (q:=q) hq) m
  have g0:lokC l ms:=g.here
  cases l with
  |fixed ls=>
   obtain⟨rfl,g1⟩:=g0
   exact zacb ⟨rfl,g1⟩ m
  |hole c=>
   obtain⟨rfl,g1⟩:=g0
   exact zk8 g1 m
  |each c=>
   obtain⟨hc,q,rfl,h1,h2⟩:=g0
   exact zl8 hc h1 h2 m (ih q (by simp)) o
  |sum=>
   obtain⟨h2,hs⟩:=g0
   match ms,h2 with
   |a::b::l,_=>exact z6bb m ih hs o
  |sh w k=>
   obtain⟨hk,q,rfl⟩:=g0
   cases w with
   |in_=>exact zteb hk m (ih q (by simp)) o
   |out=>exact z8bb hk m (ih q (by simp)) o
   |first=>exact zp5 hk m (ih q (by simp)) o
   |rest=>exact zj8 hk m (ih q (by simp)) o
  |ded=>
   obtain⟨q,rfl⟩:=g0
   exact zbcb m (ih q (by simp)) o
  |flu=>
   obtain⟨q,rfl⟩:=g0
   exact zo5 m (ih q (by simp)) o
  |tg b t=>
   obtain⟨ht,q,rfl⟩:=g0
   cases b with
   |true=>exact z5bb ht m (ih q (by simp)) o
   |false=>exact z7bb ht m (ih q (by simp)) o
theorem zseb {p:Pg} (o:POk p) (g:GoodC p) (m:Mem):zud [.d (tcD p)] m = .ok (.d (pgD p)) m:=z9bb 24 p (by have:=zhm p;have:=o.sz;omega) o g m
end LK
namespace LK
open PySem PySem.Spec L2 DL TM SX NT PG
def iH (x:Int):HW:=.d (.int x)
def stC (cs:List D) (a t c:Int):HC:=.lst [iH a,iH t,iH c,.d (.lst cs)]
structure CSt (i n:Nat) (hs:List HC):Prop where
 st:∃(a t c:Int) (cs:List Int),hs[i]?=some (stC (cs.map D.int) a t c)∧0≤a∧0≤t∧t+n≤2 ^ 62∧0≤c∧c+n≤2 ^ 62∧cs.length≤1000
theorem CSt.mono {i n k:Nat} {hs:List HC} (h:CSt i n hs) (hk:k≤n):CSt i k hs:=by
 obtain⟨a,t,c,cs,h1,h2,h3,h4,h5,h6,h7⟩:=h.st
 exact⟨a,t,c,cs,h1,h2,h3,by omega,h5,by omega,h7⟩
theorem CSt.keep {i n:Nat} {hs hs':List HC} {X:List Nat} (h:CSt i n hs) (k:Kp X hs hs') (hi:i ∉ X):CSt i n hs':=by
 obtain⟨a,t,c,cs,h1,h2⟩:=h.st
 exact⟨a,t,c,cs,k.at_ h1 hi,h2⟩
theorem CSt.lt {i n:Nat} {hs:List HC} (h:CSt i n hs):i<hs.length:=by
 obtain⟨a,t,c,cs,h1,h2⟩:=h.st
 exact (List.getElem?_eq_some_iff.mp h1).1
theorem pow18:powD (.int 10) (.int 18)=some (.int 1000000000000000000):=by
 show chk _ _=_
 rw[z7b ⟨by decide,by decide,by decide⟩]
 rfl
theorem z1g {i n:Nat} {hs:List HC} {q:Int} (r:Mem) (h:CSt i (n+1) hs) (h1:1≤q) (h2:q<1073741824) :
  ∃(v:Int) (hs':List HC),zp [.h i,.d (.int q)] (.hp hs::r) = .ok (.d (.int v)) (.hp hs'::r)∧(0≤v∧v<q)∧CSt i n hs'∧Kp [i] hs hs':=by
 have li:=h.lt
 obtain⟨a,t,c,cs,hi,a0,t0,t1,c0,c1,cl⟩:=h.st
 have hq:0<q:=by omega
 have at_:∀(a t c:Int),(hs.set i (stC (cs.map D.int) a t c))[i]?=some (stC (cs.map D.int) a t c):=fun a t c=>List.getElem?_set_self li
 have kp:∀(a t c:Int),Kp [i] hs (hs.set i (stC (cs.map D.int) a t c)):=fun a t c=>Kp.set (by simp) _
 have x2:ixW gB (.h i) (.d (.int 2)) (.hp hs::r) = .ok (.d (.int c)) (.hp hs::r):=z5y (r:=r) gB (k:=2) (d:=.int c) hi rfl
 have w2:setLW (.d (.int (c+1))) (.h i) (.d (.int 2)) (.hp hs::r)=some (.hp (hs.set i (stC (cs.map D.int) a t (c+1)))::r):=ziv (k:=2) hi (by simp[stC]) rfl
 have y0:∀a t c:Int,ixW gB (.h i) (.d (.int 0)) (.hp (hs.set i (stC (cs.map D.int) a t c))::r) = .ok (.d (.int a)) (.hp (hs.set i (stC (cs.map D.int) a t c))::r):=fun a t c=>z5y (r:=r) gB (k:=0) (d:=.int a) (at_ a t c) rfl
 have y1:∀a t c:Int,ixW gB (.h i) (.d (.int 1)) (.hp (hs.set i (stC (cs.map D.int) a t c))::r) = .ok (.d (.int t)) (.hp (hs.set i (stC (cs.map D.int) a t c))::r):=fun a t c=>z5y (r:=r) gB (k:=1) (d:=.int t) (at_ a t c) rfl
 have y2:∀a t c:Int,ixW gB (.h i) (.d (.int 2)) (.hp (hs.set i (stC (cs.map D.int) a t c))::r) = .ok (.d (.int c)) (.hp (hs.set i (stC (cs.map D.int) a t c))::r):=fun a t c=>z5y (r:=r) gB (k:=2) (d:=.int c) (at_ a t c) rfl
 have y3:∀a t c:Int,ixW gB (.h i) (.d (.int 3)) (.hp (hs.set i (stC (cs.map D.int) a t c))::r) = .ok (.d (.lst (cs.map D.int))) (.hp (hs.set i (stC (cs.map D.int) a t c))::r):=fun a t c=>z5y (r:=r) gB (k:=3) (d:=.lst (cs.map D.int)) (at_ a t c) rfl
 have z0:∀a t c x:Int,setLW (.d (.int x)) (.h i) (.d (.int 0)) (.hp (hs.set i (stC (cs.map D.int) a t c))::r)=some (.hp (hs.set i (stC (cs.map D.int) x t c))::r):=fun a t c x=>by
  have:=ziv (r:=r) (w:=.d (.int x)) (k:=0) (at_ a t c) (by simp) rfl
  rw[List.set_set] at this
  exact this
 have z1:∀a t c x:Int,setLW (.d (.int x)) (.h i) (.d (.int 1)) (.hp (hs.set i (stC (cs.map D.int) a t c))::r)=some (.hp (hs.set i (stC (cs.map D.int) a x c))::r):=fun a t c x=>by
  have:=ziv (r:=r) (w:=.d (.int x)) (k:=1) (at_ a t c) (by simp) rfl
  rw[List.set_set] at this
  exact this
 by_cases ha:0<a
 ·have em:modD (.int a) (.int q)=some (.int (a % q)):=mod_int hq
  have ed:fdivD (.int a) (.int q)=some (.int (a / q)):=zo0 hq h2
  have y0':=y0 a t (c+1)
  have z0':=z0 a t (c+1) (a / q)
  refine⟨a % q,hs.set i (stC (cs.map D.int) (a / q) t (c+1)),?_,⟨Int.emod_nonneg _ (by omega),Int.emod_lt_of_pos _ hq⟩,⟨a / q,t,c+1,cs,at_ _ _ _,Int.ediv_nonneg a0 (by omega),t0,by omega,by omega,by omega,cl⟩,kp _ _ _⟩
  have hgt:gtD (.int a) (.int 0)=some (.bl true):=by simp[ha]
  clear z0 z1 y0 y1 y2 y3 at_ kp
  generalize hs.set i (stC (cs.map D.int) (a / q) t (c+1))=H2 at *
  generalize hs.set i (stC (cs.map D.int) a t (c+1))=H1 at *
  simp[-zmfb,zmfb,zp,zuj,z9g,x2,w2,y0',ha,em,ed,z0']
 ·have ha0:a=0:=by omega
  -- the number that is mixed
  obtain⟨o,eo⟩:∃o:Int,∀dl:DL.Env,dl[0]?=some (some (.h i))→dl[3]?=some (some (.d (.lst (cs.map D.int))))→eIf (bT (eVar 3)) (eIx [("Block",zb)] (eVar 3) (eOp modD (eB intD (aCons (eIx [("Block",zb)] (eVar 0) (eC (.int 1))) aNil)) (eLen [("Block",zi)] (aCons (eVar 3) aNil)))) (eC (.int 5)) dl (.hp (hs.set i (stC (cs.map D.int) a t (c+1)))::r) = .ok (.d (.int o)) (.hp (hs.set i (stC (cs.map D.int) a t (c+1)))::r):=by
   have y1':=y1 a t (c+1)
   cases hcs:cs with
   |nil=>
    refine⟨5,fun dl d0 d3=>?_⟩
    rw[hcs] at y1'
    generalize hs.set i (stC (([]:List Int).map D.int) a t (c+1))=H1 at *
    simp[d0,d3]
   |cons y T2=>
    rw[hcs] at y1'
    obtain⟨L,hL⟩:∃L:Nat,L=(y::T2).length:=⟨_,rfl⟩
    have hl0:0<L:=by rw[hL];simp
    have em:modD (.int t) (.int (L:Int))=some (.int (t % (L:Int))):=mod_int (by omega)
    obtain⟨k,hk⟩:∃k:Nat,(k:Int)=t % (L:Int):=⟨(t % (L:Int)).toNat,by have:=Int.emod_nonneg t (b:=(L:Int)) (by omega);omega⟩
    have hkl:k<(y::T2).length:=by have:=Int.emod_lt_of_pos t (b:=(L:Int)) (by omega);omega
    refine⟨(y::T2)[k],fun dl d0 d3=>?_⟩
    have ei:ixD (.lst ((y::T2).map D.int)) (.int (k:Int))=some (.int (y::T2)[k]):=by
     show atI ((y::T2).map D.int) (k:Int)=_
     rw[DL.atI_nat,List.getElem?_map,List.getElem?_eq_getElem hkl]
     rfl
    have ln:∀M:Mem,lnW [("Block",zi)] (.d (.lst ((y::T2).map D.int))) M = .ok (.d (.int (L:Int))) M:=fun M=>by rw[ziq,List.length_map,hL]
    have tt:∀M:Mem,tru (.d (.lst ((y::T2).map D.int))) M = .ok true M:=fun M=>rfl
    generalize (y::T2)[k]=o at *
    generalize (y::T2).map D.int=ds at *
    generalize hs.set i (stC ds a t (c+1))=H1 at *
    rw[hk] at ei
    simp[-zj1,d0,d3,tt,y1',ln,em,ei]
  have w1:=z1 a t (c+1) (t+1)
  by_cases ho:1000000000000000000≤o
  ·have em:modD (.int o) (.int q)=some (.int (o % q)):=mod_int hq
   have ed:fdivD (.int o) (.int q)=some (.int (o / q)):=zo0 hq h2
   have y0':=y0 a t (c+1)
   have y1':=y1 a t (c+1)
   have y3':=y3 a t (c+1)
   have z0':=z0 a (t+1) (c+1) (o / q)
   refine⟨o % q,hs.set i (stC (cs.map D.int) (o / q) (t+1) (c+1)),?_,⟨Int.emod_nonneg _ (by omega),Int.emod_lt_of_pos _ hq⟩,⟨o / q,t+1,c+1,cs,at_ _ _ _,Int.ediv_nonneg (by omega) (by omega),by omega,by omega,by omega,by omega,cl⟩,kp _ _ _⟩
   clear z0 z1 y0 y1 y2 y3 at_ kp hi
   unfold zp zuj z9g
   generalize (eIf (bT (eVar 3)) (eIx [("Block",zb)] (eVar 3) (eOp modD (eB intD (aCons (eIx [("Block",zb)] (eVar 0) (eC (.int 1))) aNil)) (eLen [("Block",zi)] (aCons (eVar 3) aNil)))) (eC (.int 5)))=EO at *
   generalize hs.set i (stC (cs.map D.int) (o / q) (t+1) (c+1))=H3 at *
   generalize hs.set i (stC (cs.map D.int) a (t+1) (c+1))=H2 at *
   generalize hs.set i (stC (cs.map D.int) a t (c+1))=H1 at *
   generalize cs.map D.int=ds at *
   simp[x2,w2,y0',ha,y3',eo,y1',w1,pow18,ho,em,ed,z0']
  ·obtain⟨d1,e1⟩:∃d1:Int,d1=(o*48271+(c+1)*69621+11) % 2147483647:=⟨_,rfl⟩
   have d10:0≤d1:=by rw[e1];exact Int.emod_nonneg _ (by decide)
   have d11:d1<2147483647:=by rw[e1];exact Int.emod_lt_of_pos _ (by decide)
   have m1:mulD (.int o) (.int 48271)=some (.int (o*48271)):=z9z (by decide) (by decide)
   have m2:mulD (.int (c+1)) (.int 69621)=some (.int ((c+1)*69621)):=z9z (by decide) (by decide)
   have m3:mulD (.int d1) (.int d1)=some (.int (d1*d1)):=zkdb (by omega) (by omega)
   have m4:mulD (.int (c+1)) (.int 40692)=some (.int ((c+1)*40692)):=z9z (by decide) (by decide)
   have o1:modD (.int (o*48271+(c+1)*69621+11)) (.int 2147483647)=some (.int d1):=by rw[e1];exact mod_int (by decide)
   obtain⟨d2,e2⟩:∃d2:Int,d2=(d1*d1+(c+1)*40692+o) % 2147483629:=⟨_,rfl⟩
   have o2:modD (.int (d1*d1+(c+1)*40692+o)) (.int 2147483629)=some (.int d2):=by rw[e2];exact mod_int (by decide)
   have o3:fdivD (.int d2) (.int 13)=some (.int (d2 / 13)):=zo0 (by decide) (by decide)
   have o4:modD (.int (d2 / 13)) (.int q)=some (.int (d2 / 13 % q)):=mod_int hq
   have y0':=y0 a t (c+1)
   have y1':=y1 a t (c+1)
   have y3':=y3 a t (c+1)
   have y2':=y2 a (t+1) (c+1)
   refine⟨d2 / 13 % q,hs.set i (stC (cs.map D.int) a (t+1) (c+1)),?_,⟨Int.emod_nonneg _ (by omega),Int.emod_lt_of_pos _ hq⟩,⟨a,t+1,c+1,cs,at_ _ _ _,a0,by omega,by omega,by omega,by omega,cl⟩,kp _ _ _⟩
   clear z0 z1 y0 y1 y2 y3 at_ kp hi e1 e2
   unfold zp zuj z9g
   generalize (eIf (bT (eVar 3)) (eIx [("Block",zb)] (eVar 3) (eOp modD (eB intD (aCons (eIx [("Block",zb)] (eVar 0) (eC (.int 1))) aNil)) (eLen [("Block",zi)] (aCons (eVar 3) aNil)))) (eC (.int 5)))=EO at *
   generalize hs.set i (stC (cs.map D.int) a (t+1) (c+1))=H2 at *
   generalize hs.set i (stC (cs.map D.int) a t (c+1))=H1 at *
   generalize cs.map D.int=ds at *
   simp[x2,w2,y0',ha,y3',eo,y1',w1,pow18,ho,y2',m1,m2,m3,m4,o1,o2,o3,o4]
end LK
namespace LK
open PySem PySem.Spec L2 DL TM SX NT PG
def dec3 (n:Nat):List Nat:=if n<10 then [48+n] else if n<100 then [48+n / 10,48+n % 10] else [48+n / 100,48+n / 10 % 10,48+n % 10]
theorem zwkb {n:Nat} (h:n≤999):(toString (n:Int):Str)=S (dec3 n):=by
 have key:∀n:Fin 1000,(toString ((n.val:Nat):Int):Str)=S (dec3 n.val):=by decide +kernel
 exact key ⟨n,by omega⟩
theorem z3u (n:Nat):1≤(dec3 n).length∧(dec3 n).length≤3:=by
 unfold dec3
 split
 ·simp
 ·split <;> simp
theorem z06 {n:Nat} (h:n≤999):∀c∈dec3 n,48≤c∧c≤57:=by
 unfold dec3
 split
 ·simp;omega
 ·split <;> simp <;> omega
def consL:List Nat:=[98,99,100,102,103,104,106,107,108,109]
def consO (c:Nat):Nat:=consL.getD (c-48) 98
def ltr (n:Nat):List Nat:=(dec3 n).map consO
theorem zpeb:∀c∈consL,z7c c=true:=by decide
theorem zzbb (c:Nat):z7c (consO c)=true:=by
 unfold consO
 rw[List.getD_eq_getElem?_getD]
 by_cases h:c-48<consL.length
 ·rw[List.getElem?_eq_getElem h]
  exact zpeb _ (List.getElem_mem h)
 ·rw[List.getElem?_eq_none (by omega)]
  rfl
theorem zeab (n:Nat):∀c∈ltr n,z7c c=true:=fun c hc=>by
 obtain⟨x,_,rfl⟩:=List.mem_map.mp hc
 exact zzbb x
theorem z1v (n:Nat):1≤(ltr n).length∧(ltr n).length≤3:=by unfold ltr;rw[List.length_map];exact z3u n
theorem zghb (k:Fin 10):PySem.intText? (S [48+k.val])=some ((k.val:Nat):Int):=by
 have key:∀n:Fin 10,PySem.intText? (S [48+n.val])=some ((n.val:Nat):Int):=by decide +kernel
 exact key k
theorem zdhb (k:Fin 10):ixD (.str "bcdfghjklm") (.int ((k.val:Nat):Int))=some (chS (consL.getD k.val 98)):=by
 match k with
 | 0=>rfl
 | 1=>rfl
 | 2=>rfl
 | 3=>rfl
 | 4=>rfl
 | 5=>rfl
 | 6=>rfl
 | 7=>rfl
 | 8=>rfl
 | 9=>rfl
theorem zf9 {c:Nat} (h:48≤c∧c≤57):intD [chS c]=some (.int ((c-48:Nat):Int))∧ixD (.str "bcdfghjklm") (.int ((c-48:Nat):Int))=some (chS (consO c)):=by
 have e1:=zghb ⟨c-48,by omega⟩
 have e2:=zdhb ⟨c-48,by omega⟩
 refine⟨?_,e2⟩
 have e3:48+(c-48)=c:=by omega
 have e1:PySem.intText? (S [48+(c-48)])=some ((c-48:Nat):Int):=e1
 rw[e3] at e1
 show (match PySem.intText? (S [c]) with |some k=>chk ((S [c]).length≤640) (D.int k) |none=>none)=_
 rw[e1]
 exact z7b (by rw[S_len];simp)
theorem zh6:∀ys:List (List Nat),TL.joinL [] ys=ys.flatten
 |[]=>rfl
 |[y]=>by show y=_;simp
 |y::z::ys=>by
  show y++([]++TL.joinL [] (z::ys))=_
  rw[zh6 (z::ys)]
  simp
theorem z8ab:∀cs:List Nat,(cs.map fun c=>[c]).flatten=cs
 |[]=>rfl
 |c::cs=>by rw[List.map_cons,List.flatten_cons,z8ab cs];rfl
theorem zhlb (cs:List Nat):z4l (cs.map chS)=some ((cs.map fun c=>[c]).map S):=by
 induction cs with
 |nil=>rfl
 |cons y ys ih=>
  show (z4l (ys.map chS)).map (S [y] :: ·)=_
  rw[ih]
  rfl
theorem z4ib (cs:List Nat):(((cs.map fun c=>[c]).map S).map (·.length)).sum=cs.length:=by
 induction cs with
 |nil=>rfl
 |cons c cs ih=>
  simp only[List.map_cons,List.sum_cons,List.length_cons] at ih ⊢
  rw[ih,S_len]
  simp only[List.length_cons,List.length_nil]
  omega
theorem zbkb {cs:List Nat} (hn:cs.length≤1000):joinD (.str (S [])) [.lst (cs.map chS)]=some (.str (S cs)):=by
 have e1:=zhlb cs
 have e2:seqD (.lst (cs.map chS))=some (cs.map chS):=rfl
 have e3:=z4ib cs
 unfold joinD
 simp only[e2,e1]
 rw[z7b (by rw[S_len,List.length_map,List.length_map,e3];simp only[List.length_nil];omega),join_S,zh6,z8ab]
theorem e_em0:Str.ofString "" = S []:=by decide
theorem zz3 {n:Nat} (h:n≤999):strD [.int (n:Int)]=some (.str (S (dec3 n))):=by
 show chk _ _=_
 rw[zwkb h,z7b]
 have key:∀n:Fin 1000,((n.val:Nat):Int).natAbs.log2<1920:=by decide +kernel
 exact key ⟨n,by omega⟩
theorem z31 {n:Nat} (h:n≤999) (m:Mem):zee [.d (.int (n:Int))] m = .ok (.d (.str (S (ltr n)))) m:=by
 have es:=zz3 h
 have ec:=zgp (m:=m) (g:=gNm 1) (e:=zvh) (wd:=[some (.d (.int (n:Int))),none]) (enc:=chS) (dec:=fun c=>chS (consO c)) (dec3 n) (fun c hc=>⟨_,rfl,by
  obtain⟨e1,e2⟩:=zf9 (z06 h c hc)
  generalize chS c=C at *
  generalize chS (consO c)=C2 at *
  simp[zvh,e1,e2]⟩) (by have:=(z3u n).2;unfold sizeLine;omega)
 have ej:=zbkb (cs:=ltr n) (by have:=(z1v n).2;omega)
 have e4:(dec3 n).map (fun c=>chS (consO c))=(ltr n).map chS:=by unfold ltr;rw[List.map_map];rfl
 rw[e4] at ec
 have e5:chrD (S (dec3 n))=(dec3 n).map chS:=chr_S (dec3 n)
 have e6:clsOf (.d (.int (n:Int))) m=none:=rfl
 generalize (ltr n).map chS=CS at *
 generalize (dec3 n).map chS=DS0 at *
 generalize (n:Int)=J at *
 simp[zee,zdl,zoi,es,e5,e6,ec,e_em0,ej]
theorem zrdb {w:List Nat} (h0:w≠[]) (h:∀c∈w,z7c c=true):Wd w:=by
 have hc:∀c∈w,97≤c∧c≤122:=fun c hc=>by
  have:=h c hc
  unfold z7c at this
  simpa using this
 refine⟨?_,?_,fun c h=>by have:=hc c h;omega⟩
 ·cases w with
  |nil=>exact absurd rfl h0
  |cons c t=>exact⟨c,t,rfl,by have:=hc c (by simp);omega⟩
 ·exact⟨w.dropLast,w.getLast h0,(List.dropLast_concat_getLast h0).symm,by have:=hc _ (List.getLast_mem h0);omega⟩
theorem z2hb {n:Nat} (h:n≤999):Wd (dec3 n):=by
 have hc:=z06 h
 have h0:dec3 n≠[]:=fun z=>by have:=(z3u n).1;rw[z] at this;simp at this
 refine⟨?_,?_,fun c h=>by have:=hc c h;omega⟩
 ·cases hd:dec3 n with
  |nil=>exact absurd hd h0
  |cons c t=>exact⟨c,t,rfl,by have:=hc c (by rw[hd];simp);omega⟩
 ·exact⟨(dec3 n).dropLast,(dec3 n).getLast h0,(List.dropLast_concat_getLast h0).symm,by have:=hc _ (List.getLast_mem h0);omega⟩
/-- the tag with a number -/
def tgN (n:Nat):List Nat:=113::ltr n
theorem zy8 (n:Nat):isTag (tgN n)=true:=by
 have:=z1v n
 unfold isTag tgN
 rw[decide_eq_true (show 1≤(113::ltr n).length by simp),decide_eq_true (show (113::ltr n).length≤8 by rw[List.length_cons];omega),List.all_eq_true.mpr fun c hc=>by
  rcases List.mem_cons.mp hc with rfl |hc
  ·rfl
  ·exact zeab n c hc]
 rfl
def cH (c:Nat):HW:=.d (chS c)
structure Bk (B N x:Nat) (ns:List Nat) (fl:Nat) (hs:List HC):Prop where
 b:hs[B]?=some (.lst [iH (x:Int),.h N,iH (fl:Int)])
 n:hs[N]?=some (.lst (ns.map cH))
theorem Bk.keep {B N x fl:Nat} {ns:List Nat} {hs hs':List HC} {X:List Nat} (h:Bk B N x ns fl hs) (k:Kp X hs hs') (hb:B ∉ X) (hn:N ∉ X):Bk B N x ns fl hs':=⟨k.at_ h.b hb,k.at_ h.n hn⟩
/-- the count of the book is set -/
theorem Bk.cnt {B N x fl:Nat} {ns:List Nat} {hs:List HC} (h:Bk B N x ns fl hs) (hBN:B≠N) (y:Nat):Bk B N y ns fl (hs.set B (.lst [iH (y:Int),.h N,iH (fl:Int)])):=
 ⟨List.getElem?_set_self (List.getElem?_eq_some_iff.mp h.b).1,by rw[List.getElem?_set_ne hBN];exact h.n⟩
theorem zp3 {B N x fl:Nat} {ns:List Nat} {hs:List HC} (h:Bk B N x ns fl hs) (r:Mem) (t:Tbl):ixW t (.h B) (.d (.int 0)) (.hp hs::r) = .ok (.d (.int (x:Int))) (.hp hs::r):=z5y (r:=r) t (k:=0) (d:=.int (x:Int)) h.b rfl
theorem zecb {B N x fl:Nat} {ns:List Nat} {hs:List HC} (h:Bk B N x ns fl hs) (r:Mem) (y:Int):setLW (.d (.int y)) (.h B) (.d (.int 0)) (.hp hs::r)=some (.hp (hs.set B (.lst [iH y,.h N,iH (fl:Int)]))::r):=ziv (r:=r) (w:=.d (.int y)) (k:=0) h.b (by simp) rfl
theorem zdib {B N x fl:Nat} {ns:List Nat} {hs:List HC} (h:Bk B N x ns fl hs) (r:Mem) (y:Int):setLW (.d (.int y)) (.h B) (.d (.int 2)) (.hp hs::r)=some (.hp (hs.set B (.lst [iH (x:Int),.h N,iH y]))::r):=ziv (r:=r) (w:=.d (.int y)) (k:=2) h.b (by simp) rfl
theorem zfcb {B N x fl:Nat} {ns:List Nat} {hs:List HC} (h:Bk B N x ns fl hs) (r:Mem) (t:Tbl):ixHW t (.h B) (.d (.int 1)) (.hp hs::r) = .ok (.h N) (.hp hs::r):=zhfb (r:=r) (t:=t) (k:=1) (w:=.h N) h.b rfl
theorem zblb {B N x fl:Nat} {ns:List Nat} {hs:List HC} (h:Bk B N x ns fl hs) (r:Mem) (t:Tbl):ixHW t (.h B) (.d (.int 2)) (.hp hs::r) = .ok (.d (.int (fl:Int))) (.hp hs::r):=zhfb (r:=r) (t:=t) (k:=2) (w:=iH (fl:Int)) h.b rfl
end LK
namespace LK
open PySem PySem.Spec L2 DL TM SX NT PG
def letL:List Nat:=(List.range 26).map (· + 97)
theorem zqkb:Str.ofString "abcdefghijklmnopqrstuvwxyz" = S letL:=by decide +kernel
theorem z7gb:∀c∈letL,z7c c=true:=by decide
theorem z8gb:letL.Nodup:=by decide
theorem sgn_S (a:List Nat):zvy (S a)=a.map chS:=by
 unfold zvy
 simp[S]
 exact fun _ _=>rfl
theorem z04 {α β : Type} (f : α → β):∀(l:List α) (i:Nat),(l.eraseIdx i).map f=(l.map f).eraseIdx i
 |[],_=>rfl
 |_::_,0=>rfl
 |a::l,i+1=>by
  show f a::(l.eraseIdx i).map f=f a::(l.map f).eraseIdx i
  rw[z04 f l i]
theorem zs6 {α : Type}:∀(l:List α) (i:Nat) (h:i<l.length),(l[i]::l.eraseIdx i).Perm l
 |a::l,0,_=>List.Perm.refl _
 |a::l,i+1,h=>by
  have h':i<l.length:=by simpa using h
  show (l[i]::a::l.eraseIdx i).Perm (a::l)
  exact (List.Perm.swap _ _ _).trans ((zs6 l i h').cons a)
theorem z16:∀ds:List D,datH (ds.map HW.d)=some ds
 |[]=>rfl
 |d::ds=>by
  rw[List.map_cons,datH,z16 ds]
theorem zigb {m:Mem} {k:Nat} {ds:List D} {i:Int} (h:m[k]?=some (.lst ds)) (i0:0≤i) (i1:i<ds.length) (hz:ds.length<1000000) {d:D} (hd:ds[i.toNat]?=some d) :
  z45 (.c k) [.d (.int i)] m = .ok (.d d) (m.set k (.lst (ds.eraseIdx i.toNat))):=by
 have e1:Loc.get (.c k) m=some (ds.map HW.d):=by
  unfold Loc.get
  simp only[h]
 have e2:seqIndex? i (ds.map HW.d).length=some i.toNat:=by
  unfold seqIndex?
  rw[List.length_map]
  rw[if_neg (show ¬i<0 by omega)]
  simp only[Bool.and_eq_true,decide_eq_true_eq]
  rw[if_pos ⟨i0,i1⟩]
 have e3:(ds.map HW.d)[i.toNat]?=some (.d d):=by rw[List.getElem?_map,hd];rfl
 have e4:Loc.put (.c k) ((ds.map HW.d).eraseIdx i.toNat) m=some (m.set k (.lst (ds.eraseIdx i.toNat))):=by
  unfold Loc.put
  simp only[]
  rw[←z04,z16]
 show (match Loc.get (.c k) m with
  |some us=>if -(2 ^ 63)≤i∧i<2 ^ 63 then (match seqIndex? i us.length with
   |some k'=>(match us[k']? with
    |some h=>(match Loc.put (.c k) (us.eraseIdx k') m with
     |some m'=>Res.ok h.toW m'
     |none=>.no)
    |none=>.no)
   |none=>.no) else .no
  |none=>.no)=_
 rw[e1]
 simp only[]
 rw[if_pos ⟨by omega,by omega⟩,e2]
 simp only[]
 rw[e3]
 simp only[]
 rw[e4]
 rfl
theorem get_c (hs:List HC) (r:Mem) (c:Cell):(Cell.hp hs::(r++[c]))[r.length+1]?=some c:=by simp
theorem set_c (hs:List HC) (r:Mem) (c c':Cell):(Cell.hp hs::(r++[c])).set (r.length+1) c' = .hp hs::(r++[c']):=by simp
theorem z08 (hs hs':List HC) (r:Mem) (c:Cell):(Cell.hp hs'::(r++[c])).take (Cell.hp hs::r).length = .hp hs'::r:=by simp
/-- a list of the heap takes one more -/
theorem zilb {j:Nat} {hs:List HC} {r:Mem} {ws:List HW} {d:D} (h:hs[j]?=some (.lst ws)) (hz:ws.length<sizeLine):appLW (.h j) [.d d] (.hp hs::r) = .ok (.d .non) (.hp (hs.set j (.lst (ws++[.d d])))::r):=by
 have e1:Loc.get (.h j) (.hp hs::r)=some ws:=by
  unfold Loc.get
  show (match hs[j]? with
   |some (.lst ws)=>some ws
   |_=>none)=_
  rw[h]
 unfold appLW
 show (match Loc.get (.h j) (.hp hs::r) with
  |some us=>if us.length<sizeLine then (match Loc.put (.h j) (us++[HW.d d]) (.hp hs::r) with
   |some m'=>Res.ok (W.d D.non) m'
   |none=>.no) else .no
  |none=>.no)=_
 rw[e1]
 simp only[]
 rw[if_pos hz]
 rfl
theorem zdcb {i N:Nat} (r:Mem) (hN:N≠i) (x4:Option W) (k:Nat) (hs0:List HC) (n:Nat):∀(ds:List D) (dl:DL.Env) (m:Mem),
  (∃(hs:List HC) (ls ns:List Nat) (x:Option W),dl=[some (.h i),some (.d (.int 3)),some (.c (r.length+1)),some (.h N),x]∧m = .hp hs::(r++[.lst (ls.map chS)])∧CSt i (n+ds.length) hs∧hs[N]?=some (.lst (ns.map cH))∧(ns++ls).Perm letL∧ns.length+ds.length=k∧k≤3∧Kp [i,N] hs0 hs) →
  ∃dl2 m2,loopD (gNm 4) z7i ds dl m = .nx dl2 m2∧∃(hs:List HC) (ls ns:List Nat) (x:Option W),dl2=[some (.h i),some (.d (.int 3)),some (.c (r.length+1)),some (.h N),x]∧m2 = .hp hs::(r++[.lst (ls.map chS)])∧CSt i n hs∧hs[N]?=some (.lst (ns.map cH))∧(ns++ls).Perm letL∧ns.length=k∧Kp [i,N] hs0 hs:=by
 intro ds dl m h
 obtain⟨dl2,m2,e,hs,ls,ns,x,h1,h2,h3,h4,h5,h6,h7,h8⟩:=zyh (g:=gNm 4) (b:=z7i) (fun ds dl m=>∃(hs:List HC) (ls ns:List Nat) (x:Option W),dl=[some (.h i),some (.d (.int 3)),some (.c (r.length+1)),some (.h N),x]∧m = .hp hs::(r++[.lst (ls.map chS)])∧CSt i (n+ds.length) hs∧hs[N]?=some (.lst (ns.map cH))∧(ns++ls).Perm letL∧ns.length+ds.length=k∧k≤3∧Kp [i,N] hs0 hs) (fun d ds dl m hI=>by
  obtain⟨hs,ls,ns,x,rfl,rfl,h3,h4,h5,h6,h7,h8⟩:=hI
  rw[List.length_cons] at h6 h3
  have hl:ls.length=26-ns.length:=by have:=h5.length_eq;rw[List.length_append,show letL.length=26 by decide] at this;omega
  obtain⟨v,hs1,e1,⟨v0,v1⟩,h1,k1⟩:=z1g (n:=n+ds.length) (q:=(ls.length:Int)) (r++[.lst (ls.map chS)]) (h3.mono (by omega)) (by omega) (by omega)
  have hv:v.toNat<ls.length:=by omega
  have h4':hs1[N]?=some (.lst (ns.map cH)):=k1.at_ h4 (by simpa using hN)
  have po:=zigb (i:=v) (d:=chS ls[v.toNat]) (get_c hs1 r (.lst (ls.map chS))) v0 (by rw[List.length_map];omega) (by rw[List.length_map];omega) (by rw[List.getElem?_map,List.getElem?_eq_getElem hv];rfl)
  rw[set_c,←z04] at po
  have ap:=zilb (r:=r++[.lst ((ls.eraseIdx v.toNat).map chS)]) (d:=chS ls[v.toNat]) h4' (by rw[List.length_map];unfold sizeLine;omega)
  have ty:=zifb (r:=r++[.lst ((ls.map chS))]) h4
  have lnN:=(List.getElem?_eq_some_iff.mp h4').1
  have kN:Kp [i,N] hs1 (hs1.set N (.lst (ns.map cH++[.d (chS ls[v.toNat])]))):=Kp.set (by simp) _
  refine⟨_,rfl,[some (.h i),some (.d (.int 3)),some (.c (r.length+1)),some (.h N),some (.d d)],.hp (hs1.set N (.lst (ns.map cH++[.d (chS ls[v.toNat])])))::(r++[.lst ((ls.eraseIdx v.toNat).map chS)]),?_,_,ls.eraseIdx v.toNat,ns++[ls[v.toNat]],some (.d d),rfl,rfl,h1.keep (Kp.set (X:=[N]) (by simp) _) (by simpa using hN.symm),?_,?_,by rw[List.length_append,List.length_singleton];omega,h7,(h8.trans (k1.mono (by simp))).trans kN⟩
  ·have tyc:isTy "list" (.c (r.length+1)) (.hp hs::(r++[.lst (ls.map chS)]))=true:=zlj (.hp hs::r) _
   have ln:lnW [("Block",zi)] (.c (r.length+1)) (.hp hs::(r++[.lst (ls.map chS)])) = .ok (.d (.int (ls.length:Int))) (.hp hs::(r++[.lst (ls.map chS)])):=by
    have:=ziq (t:=[("Block",zi)])
    have e:W.rd (.c (r.length+1)) (.hp hs::(r++[.lst (ls.map chS)]))=some (.lst (ls.map chS)):=by
     simp[W.rd,Cell.fz]
    unfold lnW clsOf
    simp[e,lenD,seqD]
   generalize chS ls[v.toNat]=C at *
   generalize (ls.eraseIdx v.toNat).map chS=L2 at *
   generalize ls.map chS=L1 at *
   generalize hs1.set N (.lst (ns.map cH++[.d C]))=hs2 at *
   clear h3 h1 h4 h4' h5 h6 h8 k1 kN lnN hl v1 hv
   generalize (ls.length:Int)=LL at *
   simp[z7i,ty,tyc,ln,e1,po,ap]
  ·rw[List.getElem?_set_self lnN]
   simp[cH]
  ·have p1:=zs6 ls v.toNat hv
   rw[List.append_assoc]
   exact (List.Perm.append_left ns p1).trans h5) ds dl m h
 exact⟨dl2,m2,e,hs,ls,ns,x,h1,h2,h3,h4,h5,by simpa using h6,h8⟩
theorem zcib {i n:Nat} {hs:List HC} (r:Mem) (h:CSt i (n+5) hs):∃(B N fl:Nat) (ns:List Nat) (hs':List HC),zuh [.h i,.d (.int 3)] (.hp hs::r) = .ok (.h B) (.hp hs'::r)∧Bk B N 0 ns fl hs'∧(B≠i∧N≠i∧B≠N)∧ns.Nodup∧(∀c∈ns,z7c c=true)∧(ns.length+fl≤3∧fl≤1)∧CSt i n hs'∧Kp [i] hs hs':=by
 have eL:zc6 [.d (.str (S letL))] (.hp hs::r) = .ok (.c (r.length+1)) (.hp hs::(r++[.lst (letL.map chS)])):=by
  show (if (S letL).cps.size≤sizeLine then Res.ok (W.c (Cell.hp hs::r).length) ((Cell.hp hs::r)++[Cell.lst (zvy (S letL))]) else .no)=_
  rw[if_pos (by decide),sgn_S]
  rfl
 have li:=h.lt
 have hN:hs.length≠i:=by omega
 obtain⟨v,hs1,e1,⟨v0,v1⟩,h1,k1⟩:=z1g (n:=n+4) (q:=4) (r++[.lst (letL.map chS)]) (h.keep (Kp.push [] hs (.lst [])) (by simp)) (by decide) (by decide)
 obtain⟨k,hk⟩:∃k:Nat,v=(k:Int):=⟨v.toNat,by omega⟩
 have g0:hs1[hs.length]?=some (.lst (([]:List Nat).map cH)):=k1.at_ (by simp) (by simpa using hN)
 have hr:(rngD 0 k).length=k:=by rw[zpv]
 obtain⟨dl2,m2,el,hs2,ls,ns,x,rfl,rfl,h2,g2,pm,hl,k2⟩:=zdcb (i:=i) (N:=hs.length) r hN none k hs1 (n+1) (rngD 0 k) [some (.h i),some (.d (.int 3)),some (.c (r.length+1)),some (.h hs.length),none] (.hp hs1::(r++[.lst (letL.map chS)])) ⟨hs1,letL,[],none,rfl,rfl,h1.mono (by rw[hr];omega),g0,by simp,by rw[hr];simp,by omega,Kp.refl _ _⟩
 have nd:ns.Nodup:=(List.nodup_append.mp (pm.nodup_iff.mpr z8gb)).1
 have lt:∀c∈ns,z7c c=true:=fun c hc=>z7gb c (pm.subset (List.mem_append_left _ hc))
 have er:=z2z (j:=(k:Int)) (m:=.hp hs1::(r++[.lst (letL.map chS)])) (by omega) (by omega)
 rw[Int.toNat_natCast] at er
 have ln:=z4jb (r:=r++[.lst (ls.map chS)]) [("Block",zi)] g2
 rw[List.length_map] at ln
 have k01:Kp [i] hs hs2:=⟨by have:=k1.l;have:=k2.l;simp at *;omega,fun j hj hx=>by
  have a1:=k2.k j (by have:=k1.l;simp at this;omega) (by simp at hx ⊢;exact⟨hx,by omega⟩)
  have a2:=k1.k j (by simp;omega) (by simpa using hx)
  rw[a1,a2,List.getElem?_append_left hj]⟩
 have nl2:=(List.getElem?_eq_some_iff.mp g2).1
 have i2:=h2.lt
 have mk:∀(hs3:List HC) (fl:Nat),CSt i n hs3→hs3[hs.length]?=some (.lst (ns.map cH))→Kp [i] hs hs3→(ns.length+fl≤3∧fl≤1)→∃(B N fl':Nat) (ns':List Nat) (hs':List HC),(B=hs3.length∧hs'=hs3++[.lst [iH 0,.h hs.length,iH (fl:Int)]])∧Bk B N 0 ns' fl' hs'∧(B≠i∧N≠i∧B≠N)∧ns'.Nodup∧(∀c∈ns',z7c c=true)∧(ns'.length+fl'≤3∧fl'≤1)∧CSt i n hs'∧Kp [i] hs hs':=fun hs3 fl c3 g3 k3 hf=>by
  have nl:=(List.getElem?_eq_some_iff.mp g3).1
  have i3:=c3.lt
  exact⟨hs3.length,hs.length,fl,ns,_,⟨rfl,rfl⟩,⟨by rw[List.getElem?_append_right (Nat.le_refl _),Nat.sub_self];rfl,by rw[List.getElem?_append_left nl];exact g3⟩,⟨by omega,hN,by omega⟩,nd,lt,hf,c3.keep (Kp.push [] hs3 _) (by simp),k3.trans (Kp.push _ _ _)⟩
 have tk:∀hs':List HC,(Cell.hp hs'::(r++[.lst (ls.map chS)])).take (Cell.hp hs::r).length = .hp hs'::r:=fun hs'=>z08 hs hs' r _
 have e0:=zqkb
 subst hk
 by_cases h3:(ns.length:Int)<3
 ·obtain⟨w,hs3,e3,⟨w0,w1⟩,c3,k3⟩:=z1g (n:=n) (q:=2) (r++[.lst (ls.map chS)]) h2 (by decide) (by decide)
  have g3:hs3[hs.length]?=some (.lst (ns.map cH)):=k3.at_ g2 (by simpa using hN)
  by_cases hw:w=1
  ·obtain⟨B,N,fl,ns',hs',⟨hB,he⟩,q⟩:=mk hs3 1 c3 g3 (k01.trans (k3.mono (by simp))) ⟨by omega,by omega⟩
   refine⟨B,N,fl,ns',hs',?_,q⟩
   rw[hB,he]
   clear q mk hB he c3 g3 k3 nl2 i2 k01 lt nd pm g2 h2 k2 g0 h1 k1 h li
   generalize letL.map chS=L0 at *
   generalize S letL=L00 at *
   generalize ls.map chS=L1 at *
   generalize (ns.length:Int)=NL at *
   subst hw
   simp[zuh,zvj,zbh,e0,eL,e1,er,el,ln,h3,e3,zyv,hwAll,W.hw,intD,iH,zyd]
  ·obtain⟨B,N,fl,ns',hs',⟨hB,he⟩,q⟩:=mk hs3 0 c3 g3 (k01.trans (k3.mono (by simp))) ⟨by omega,by omega⟩
   refine⟨B,N,fl,ns',hs',?_,q⟩
   rw[hB,he]
   clear q mk hB he c3 g3 k3 nl2 i2 k01 lt nd pm g2 h2 k2 g0 h1 k1 h li
   generalize letL.map chS=L0 at *
   generalize S letL=L00 at *
   generalize ls.map chS=L1 at *
   generalize (ns.length:Int)=NL at *
   simp[zuh,zvj,zbh,e0,eL,e1,er,el,ln,h3,e3,zyv,hwAll,W.hw,hw,intD,iH,zyd]
 ·obtain⟨B,N,fl,ns',hs',⟨hB,he⟩,q⟩:=mk hs2 0 (h2.mono (by omega)) g2 k01 ⟨by omega,by omega⟩
  refine⟨B,N,fl,ns',hs',?_,q⟩
  rw[hB,he]
  clear q mk hB he nl2 i2 k01 lt nd pm g2 h2 k2 g0 h1 k1 h li
  generalize letL.map chS=L0 at *
  generalize S letL=L00 at *
  generalize ls.map chS=L1 at *
  generalize (ns.length:Int)=NL at *
  simp[zuh,zvj,zbh,e0,eL,e1,er,el,ln,h3,zyv,hwAll,W.hw,intD,iH,zyd]
end LK
namespace LK
open PySem PySem.Spec L2 DL TM SX NT PG
theorem e_sp0:Str.ofString " " = S [32]:=by decide
theorem e_q0:Str.ofString "q" = S [113]:=by decide
theorem e_cs0:Str.ofString ": " = S [58,32]:=by decide
theorem e_w0:Str.ofString "w" = S [119]:=by decide
theorem zq3 {A:List D} {d:D} (hs:List HC) (r:Mem) (h:A.length<sizeLine):appW (.c (r.length+1)) [.d d] (.hp hs::(r++[.lst A])) = .ok (.d .non) (.hp hs::(r++[.lst (A++[d])])):=by
 have e:=z5l (.hp hs::r) A d
 rw[if_pos h] at e
 exact e
theorem tyc_c {A:List D} (hs:List HC) (r:Mem):isTy "list" (.c (r.length+1)) (.hp hs::(r++[.lst A]))=true:=zlj (.hp hs::r) A
theorem zpdb {w:List Nat} (h:Wd w) (hl:w.length≤20) (u:Nat) (hu:u≤40):LineC (List.replicate u 32++w):=
 ⟨((u:Int),w),.inr ⟨by show (0:Int)≤(u:Int);omega,by show (u:Int)≤40;omega,h,hl⟩,by unfold zxd;rw[Int.toNat_natCast]⟩
theorem zjab:LineC []:=⟨(-1,[]),.inl ⟨rfl,rfl⟩,rfl⟩
def mkC (b:Bool) (n:Nat):List Nat:=if b=true then tgN n++[58,32] else []
theorem zzjb (b:Bool) {n:Nat} (h:n≤999):Wd (mkC b n++(119::dec3 n))∧(mkC b n++(119::dec3 n)).length≤20:=by
 have w1:Wd (119::dec3 n):=by simpa using (Wd.one (c:=119) (by decide)).app (z2hb h) 0
 have l1:=(z3u n).2
 have l2:=(z1v n).2
 unfold mkC
 cases b with
 |false=>exact⟨by simpa using w1,by simp;omega⟩
 |true=>
  have w2:Wd (tgN n):=zrdb (by simp[tgN]) fun c hc=>by
   rcases List.mem_cons.mp hc with rfl |hc
   ·rfl
   ·exact zeab n c hc
  have w3:Wd (tgN n++[58]):=by simpa using w2.app (Wd.one (c:=58) (by decide)) 0
  refine⟨by simpa using w3.app w1 1,?_⟩
  simp[tgN]
  omega
/-- the draw of a mark -/
theorem z1jb {i B N x fl n:Nat} {ns:List Nat} {hs:List HC} (r:Mem) (hb:i≠B∧i≠N) (hx:x≤999) (h:CSt i (n+1) hs) (b:Bk B N x ns fl hs):∃(z:Bool) (hs':List HC),
  (∀dl:DL.Env,dl[0]?=some (some (.h i))→dl[1]?=some (some (.h B))→(eIf (bT (eOp eqD (eFn zp (aCons (eVar 0) (aCons (eC (.int 6)) aNil))) (eC (.int 5)))) (eOp addD (eOp addD (eC (.str "q")) (eFn zee (aCons (eIx [("Block",zb)] (eVar 1) (eC (.int 0))) aNil))) (eC (.str ": "))) (eC (.str ""))) dl (.hp hs::r) = .ok (.d (.str (S (mkC z x)))) (.hp hs'::r)) ∧
  Bk B N x ns fl hs'∧CSt i n hs'∧Kp [i] hs hs':=by
 obtain⟨v,hs1,e1,⟨v0,v1⟩,h1,k1⟩:=z1g (n:=n) (q:=6) r h (by decide) (by decide)
 have b1:=b.keep k1 (by simpa using hb.1.symm) (by simpa using hb.2.symm)
 refine⟨decide (v=5),hs1,fun dl d0 d1=>?_,b1,h1,k1⟩
 have i1:=zp3 b1 r [("Block",zb)]
 have e2:=z31 hx (.hp hs1::r)
 have l2:=(z1v x).2
 have a1:addD (.str (S [113])) (.str (S (ltr x)))=some (.str (S (tgN x))):=add_str (by unfold sizeLine;simp;omega)
 have a2:addD (.str (S (tgN x))) (.str (S [58,32]))=some (.str (S (tgN x++[58,32]))):=add_str (by unfold sizeLine tgN;simp;omega)
 clear b1 b h h1 k1
 by_cases hv:v=5
 ·subst hv
  have em:mkC (decide ((5:Int)=5)) x=tgN x++[58,32]:=rfl
  rw[em]
  generalize S (tgN x++[58,32])=T2 at *
  generalize S (tgN x)=T1 at *
  generalize S (ltr x)=T0 at *
  generalize (x:Int)=X at *
  simp[d0,d1,e1,zyd,i1,e2,a1,a2,e_q0,e_cs0]
 ·have em:mkC (decide (v=5)) x=[]:=by rw[decide_eq_false hv];rfl
  rw[em]
  simp[d0,d1,e1,zyd,hv,e_em0]
theorem zuib {i B N x fl n:Nat} {ns:List Nat} {hs:List HC} (r:Mem) (ls:List (List Nat)) (x4 x5 x6:Option W) (hl:ls.length≤100) (hb:i≠B∧i≠N∧B≠N) (hx:x≤900) (h:CSt i (n+4) hs) (b:Bk B N x ns fl hs) :
  ∃(l:List Nat) (x':Nat) (hs':List HC) (y5 y6:Option W),zbg [some (.h i),some (.h B),some (.d (.int 2)),some (.c (r.length+1)),x4,x5,x6] (.hp hs::(r++[.lst (lnD ls)])) = .nx [some (.h i),some (.h B),some (.d (.int 2)),some (.c (r.length+1)),x4,y5,y6] (.hp hs'::(r++[.lst (lnD (ls++[l]))])) ∧
   LineC l∧x'≤x+1∧Bk B N x' ns fl hs'∧CSt i n hs'∧Kp [i,B] hs hs':=by
 obtain⟨v,hs1,e1,⟨v0,v1⟩,h1,k1⟩:=z1g (n:=n+3) (q:=7) (r++[.lst (lnD ls)]) h (by decide) (by decide)
 have b1:=b.keep k1 (by simpa using hb.1.symm) (by simpa using hb.2.1.symm)
 have ty:=tyc_c (A:=lnD ls) hs1 r
 have lz:(lnD ls).length<sizeLine:=by rw[zwn,List.length_map,List.length_map];unfold sizeLine;omega
 have la:∀l,lnD (ls++[l])=lnD ls++[.str (S l)]:=fun l=>by rw[zwn,zwn,List.map_append,List.map_append];rfl
 by_cases hv:v=6
 ·refine⟨[],x,hs1,x5,x6,?_,zjab,by omega,b1,h1.mono (by omega),k1.mono (by simp)⟩
  have ap:=zq3 (A:=lnD ls) (d:=.str (S [])) hs1 r lz
  rw[la]
  subst hv
  generalize lnD ls=L1 at *
  clear b1 b h h1 k1
  simp[zbg,e1,zyd,ty,ap,e_em0]
 ·have s0:=zecb b1 (r++[.lst (lnD ls)]) ((x+1:Nat):Int)
  have b2:=b1.cnt hb.2.2 (x+1)
  have k2:Kp [B] hs1 (hs1.set B (.lst [iH ((x+1:Nat):Int),.h N,iH (fl:Int)])):=Kp.set (by simp) _
  have h2:=h1.keep k2 (by simpa using hb.1)
  have i1:=zp3 b1 (r++[.lst (lnD ls)]) [("Block",zb)]
  obtain⟨hs2,hhs2⟩:∃y,y=hs1.set B (.lst [iH ((x+1:Nat):Int),.h N,iH (fl:Int)]):=⟨_,rfl⟩
  rw[←hhs2] at s0 b2 k2 h2
  clear hhs2
  obtain⟨z,hs3,e3,b3,h3,k3⟩:=z1jb (n:=n+2) (r++[.lst (lnD ls)]) ⟨hb.1,hb.2.1⟩ (by omega) h2 b2
  obtain⟨w,hs4,e4,⟨w0,w1⟩,h4,k4⟩:=z1g (n:=n+1) (q:=5) (r++[.lst (lnD ls)]) h3 (by decide) (by decide)
  obtain⟨q,hq,q1,q2⟩:∃q:Int,mulD (.int 37) (.int (if w=4 then 1 else 0))=some (.int (q-4))∧1≤q∧q≤41:=by
   by_cases hw:w=4
   ·exact⟨41,by rw[if_pos hw];rfl,by decide,by decide⟩
   ·exact⟨4,by rw[if_neg hw];rfl,by decide,by decide⟩
  obtain⟨u,hs5,e5,⟨u0,u1⟩,h5,k5⟩:=z1g (n:=n) (q:=q) (r++[.lst (lnD ls)]) h4 (by omega) (by omega)
  have b5:=(b3.keep k4 (by simpa using hb.1.symm) (by simpa using hb.2.1.symm)).keep k5 (by simpa using hb.1.symm) (by simpa using hb.2.1.symm)
  have i5:=zp3 b5 (r++[.lst (lnD ls)]) [("Block",zb)]
  have hx1:x+1≤999:=by omega
  obtain⟨wd,wl⟩:=zzjb z hx1
  have em:mulD (.str (S [32])) (.int u)=some (.str (S (List.replicate u.toNat 32))):=zsjb (by omega) (by omega)
  have l0:(mkC z (x+1)).length+(1+(dec3 (x+1)).length)≤20:=by simpa [Nat.add_comm] using wl
  have a1:addD (.str (S (List.replicate u.toNat 32))) (.str (S (mkC z (x+1))))=some (.str (S (List.replicate u.toNat 32++mkC z (x+1)))):=add_str (by unfold sizeLine;simp;omega)
  have a2:addD (.str (S (List.replicate u.toNat 32++mkC z (x+1)))) (.str (S [119]))=some (.str (S (List.replicate u.toNat 32++mkC z (x+1)++[119]))):=add_str (by unfold sizeLine;simp;omega)
  have a3:addD (.str (S (List.replicate u.toNat 32++mkC z (x+1)++[119]))) (.str (S (dec3 (x+1))))=some (.str (S (List.replicate u.toNat 32++mkC z (x+1)++[119]++dec3 (x+1)))):=add_str (by unfold sizeLine;simp;omega)
  have es:=zz3 hx1
  have ap:=zq3 (A:=lnD ls) (d:=.str (S (List.replicate u.toNat 32++mkC z (x+1)++[119]++dec3 (x+1)))) hs5 r lz
  have ty5:=tyc_c (A:=lnD ls) hs5 r
  have ty2:=tyc_c (A:=lnD ls) hs4 r
  refine⟨List.replicate u.toNat 32++mkC z (x+1)++[119]++dec3 (x+1),x+1,hs5,some (.d (.str (S (mkC z (x+1))))),some (.d (.int u)),?_,?_,by omega,b5,h5,((((k1.mono (by simp)).trans (k2.mono (by simp))).trans (k3.mono (by simp))).trans (k4.mono (by simp))).trans (k5.mono (by simp))⟩
  ·rw[la]
   have ea:addD (.int (x:Int)) (.int 1)=some (.int ((x+1:Nat):Int)):=rfl
   have e3':=e3 [some (.h i),some (.h B),some (.d (.int 2)),some (.c (r.length+1)),x4,x5,x6] rfl rfl
   have c6:clsOf (.d (.int ((x+1:Nat):Int))) (.hp hs5::(r++[.lst (lnD ls)]))=none:=rfl
   have eb:addD (.int 4) (.int (q-4))=some (.int q):=by
    show some (D.int (4+(q-4)))=_
    congr 2
    omega
   have ei:intD [.bl (decide (w=4))]=some (.int (if w=4 then 1 else 0)):=by
    by_cases hw:w=4 <;> simp[hw,intD]
   unfold zbg
   clear b1 b h h1 k1 b2 k2 h2 h3 b3 k3 h4 k4 h5 k5 b5 wd wl l0 e3 la lz v0 v1 w0 w1 u0 u1 q1 q2 hx1
   generalize hE:(eIf (bT (eOp eqD (eFn zp (aCons (eVar 0) (aCons (eC (.int 6)) aNil))) (eC (.int 5)))) (eOp addD (eOp addD (eC (.str "q")) (eFn zee (aCons (eIx [("Block",zb)] (eVar 1) (eC (.int 0))) aNil))) (eC (.str ": "))) (eC (.str "")))=EM at *
   generalize S (List.replicate u.toNat 32++mkC z (x+1)++[119]++dec3 (x+1))=T4 at *
   generalize S (List.replicate u.toNat 32++mkC z (x+1)++[119])=T3 at *
   generalize S (List.replicate u.toNat 32++mkC z (x+1))=T2 at *
   generalize S (List.replicate u.toNat 32)=T1 at *
   generalize S (mkC z (x+1))=T0 at *
   generalize S (dec3 (x+1))=T5 at *
   generalize ((x+1:Nat):Int)=X1 at *
   generalize (x:Int)=X at *
   generalize lnD ls=L1 at *
   generalize (if w=4 then (1:Int) else 0)=W4 at *
   simp[-add_int,e1,zyd,hv,i1,ea,s0,e3',e4,ei,hq,eb,e5,ty5,ty2,em,a1,a2,e_sp0,e_w0,i5,c6,es,a3,ap]
  ·have:=zpdb wd wl u.toNat (by omega)
   simpa using this
end LK
namespace LK
open PySem PySem.Spec L2 DL TM SX NT PG
theorem rd_c (hs:List HC) (r:Mem) (A:List D):W.rd (.c (r.length+1)) (.hp hs::(r++[.lst A]))=some (.lst A):=by simp[W.rd,Cell.fz]
theorem zqhb {i B N x fl n:Nat} {ns:List Nat} {hs:List HC} (r:Mem) (hb:i≠B∧i≠N∧B≠N) (hx:x≤800) (h:CSt i (n+9) hs) (b:Bk B N x ns fl hs) :
  ∃(ls:List (List Nat)) (x':Nat) (hs':List HC),zve [.h i,.h B,.d (.int 2)] (.hp hs::r) = .ok (.d (tcD (.node (.fixed ls) []))) (.hp hs'::r)∧lokC (.fixed ls) []∧x'≤x+2∧Bk B N x' ns fl hs'∧CSt i n hs'∧Kp [i,B] hs hs':=by
 obtain⟨v,hs1,e1,⟨v0,v1⟩,h1,k1⟩:=z1g (n:=n+8) (q:=2) (r++[.lst []]) h (by decide) (by decide)
 have b1:=b.keep k1 (by simpa using hb.1.symm) (by simpa using hb.2.1.symm)
 obtain⟨j,hj⟩:∃j:Nat,1+v=(j:Int):=⟨(1+v).toNat,by omega⟩
 have er:=z2z (j:=(j:Int)) (m:=.hp hs1::(r++[.lst []])) (by omega) (by omega)
 rw[Int.toNat_natCast] at er
 have hr:(rngD 0 j).length=j:=zpv j
 obtain⟨dl2,m2,el,hs2,ls,x2,x4,x5,x6,rfl,rfl,hls,hl,b2,hx2,h2,k2⟩:=zyh (g:=gNm 4) (b:=zbg) (fun ds dl m=>∃(hs2:List HC) (ls:List (List Nat)) (x2:Nat) (x4 x5 x6:Option W),dl=[some (.h i),some (.h B),some (.d (.int 2)),some (.c (r.length+1)),x4,x5,x6]∧m = .hp hs2::(r++[.lst (lnD ls)])∧(∀l∈ls,LineC l)∧ls.length+ds.length=j∧Bk B N x2 ns fl hs2∧x2+ds.length≤x+j∧CSt i (n+4*ds.length) hs2∧Kp [i,B] hs1 hs2) (fun d ds dl m hI=>by
  obtain⟨hs2,ls,x2,x4,x5,x6,rfl,rfl,hls,hl,b2,hx2,h2,k2⟩:=hI
  rw[List.length_cons] at hl hx2 h2
  obtain⟨l,x3,hs3,y5,y6,e3,hl3,hx3,b3,h3,k3⟩:=zuib (n:=n+4*ds.length) r ls (some (.d d)) x5 x6 (by omega) hb (by omega) (h2.mono (by omega)) b2
  exact⟨_,rfl,_,_,e3,hs3,ls++[l],x3,_,y5,y6,rfl,rfl,fun z hz=>by
   rcases List.mem_append.mp hz with hz |hz
   ·exact hls z hz
   ·rw[List.mem_singleton.mp hz];exact hl3,by rw[List.length_append,List.length_singleton];omega,b3,by omega,h3,k2.trans k3⟩) (rngD 0 j) [some (.h i),some (.h B),some (.d (.int 2)),some (.c (r.length+1)),none,none,none] (.hp hs1::(r++[.lst []])) ⟨hs1,[],x,none,none,none,rfl,rfl,fun _ z=>(nomatch z),by rw[hr];simp,b1,by rw[hr];omega,h1.mono (by rw[hr];omega),Kp.refl _ _⟩
 have hl:ls.length=j:=by simpa using hl
 refine⟨ls,x2,hs2,?_,⟨rfl,fun z=>by rw[z] at hl;simp at hl;omega,by omega,hls⟩,by simp at hx2;omega,b2,h2,(k1.mono (by simp)).trans k2⟩
 have tk:(Cell.hp hs2::(r++[.lst (lnD ls)])).take (Cell.hp hs::r).length = .hp hs2::r:=z08 hs hs2 r _
 have ef:tcD (.node (.fixed ls) []) = .tup [.str "fixed",.tup (lnD ls)]:=by rw[zhb];rfl
 have ev:addD (.int 1) (.int v)=some (.int (j:Int)):=by rw[←hj];rfl
 rw[ef]
 have rd:=rd_c hs2 r (lnD ls)
 clear b1 b2 h h1 h2 k1 k2 b hls hl hx2
 generalize lnD ls=L at *
 generalize (j:Int)=J at *
 simp[-add_int,zve,zoo,z7k,e1,ev,er,el,z5m]
def z8c:D:=.tup [.str "in",.str "out",.str "first",.str "rest",.str "dedent",.str "flush",.str "tag",.str "raw",.str "in",.str "dedent"]
theorem zsfb {v:Int} (h0:0≤v) (h1:v<10):∃w:Str,ixD z8c (.int v)=some (.str w)∧((∃s:Sh,w=s.w)∨w=Str.ofString "dedent" ∨ w=Str.ofString "flush" ∨ w=Str.ofString "tag" ∨ w=Str.ofString "raw"):=by
 have:v=0∨v=1∨v=2∨v=3∨v=4∨v=5∨v=6∨v=7∨v=8∨v=9:=by omega
 rcases this with rfl |rfl |rfl |rfl |rfl |rfl |rfl |rfl |rfl |rfl
 ·exact⟨_,rfl,.inl ⟨.in_,rfl⟩⟩
 ·exact⟨_,rfl,.inl ⟨.out,rfl⟩⟩
 ·exact⟨_,rfl,.inl ⟨.first,rfl⟩⟩
 ·exact⟨_,rfl,.inl ⟨.rest,rfl⟩⟩
 ·exact⟨_,rfl,.inr (.inl rfl)⟩
 ·exact⟨_,rfl,.inr (.inr (.inl rfl))⟩
 ·exact⟨_,rfl,.inr (.inr (.inr (.inl rfl)))⟩
 ·exact⟨_,rfl,.inr (.inr (.inr (.inr rfl)))⟩
 ·exact⟨_,rfl,.inl ⟨.in_,rfl⟩⟩
 ·exact⟨_,rfl,.inr (.inl rfl)⟩
/-- a label that is laid over a program, other than each -/
structure StepL (l:Lab):Prop where
 ok:∀p:Pg,lokC l [p]
 ho:hol l=none
 we:wei l=false
 ea:zzn l=false
 su:isSum l=false
theorem z6ib {i B N x fl n:Nat} {ns:List Nat} {hs:List HC} (r:Mem) (p:Pg) (hb:i≠B∧i≠N∧B≠N) (hx:x≤900) (h:CSt i (n+3) hs) (b:Bk B N x ns fl hs) :
  ∃(l:Lab) (x':Nat) (hs':List HC),zze [.h i,.h B,.d z8c,.d (tcD p)] (.hp hs::r) = .ok (.d (tcD (.node l [p]))) (.hp hs'::r)∧StepL l∧x'≤x+1∧Bk B N x' ns fl hs'∧CSt i n hs'∧Kp [i,B] hs hs':=by
 obtain⟨v,hs1,e1,⟨v0,v1⟩,h1,k1⟩:=z1g (n:=n+2) (q:=10) r h (by decide) (by decide)
 have b1:=b.keep k1 (by simpa using hb.1.symm) (by simpa using hb.2.1.symm)
 obtain⟨w,ew,hw⟩:=zsfb v0 v1
 have ln:∀m:Mem,lnW [("Block",zi)] (.d z8c) m = .ok (.d (.int 10)) m:=fun m=>rfl
 have iw:∀m:Mem,ixW gB (.d z8c) (.d (.int v)) m = .ok (.d (.str w)) m:=fun m=>by
  have:∀m:Mem,ixW gB (.d z8c) (.d (.int v)) m=ofO (ixD z8c (.int v)) m:=fun m=>rfl
  rw[this,ew]
  rfl
 have h1':=h1.mono (k:=n) (by omega)
 have k1':Kp [i,B] hs hs1:=k1.mono (by simp)
 have s0:=zecb b1 r ((x+1:Nat):Int)
 have b2:=b1.cnt hb.2.2 (x+1)
 have k2:Kp [B] hs1 (hs1.set B (.lst [iH ((x+1:Nat):Int),.h N,iH (fl:Int)])):=Kp.set (by simp) _
 have h2:=h1'.keep k2 (by simpa using hb.1)
 have i1:=zp3 b1 r gB
 have i2:=zp3 b2 r gB
 have e2:=z31 (n:=x+1) (by omega) (.hp (hs1.set B (.lst [iH ((x+1:Nat):Int),.h N,iH (fl:Int)]))::r)
 have l2:=(z1v (x+1)).2
 have a1:addD (.str (S [113])) (.str (S (ltr (x+1))))=some (.str (S (tgN (x+1)))):=add_str (by unfold sizeLine;simp;omega)
 have ea:addD (.int (x:Int)) (.int 1)=some (.int ((x+1:Nat):Int)):=rfl
 have k12:=k1'.trans (k2.mono (Y:=[i,B]) (by simp))
 rcases hw with ⟨s,rfl⟩ |rfl |rfl |rfl |rfl
 ·obtain⟨w,hs4,e4,⟨w0,w1⟩,h4,k4⟩:=z1g (n:=n+1) (q:=4) r h1 (by decide) (by decide)
  obtain⟨q,hq,q1,q2⟩:∃q:Int,mulD (.int 16) (.int (if w=3 then 1 else 0))=some (.int (q-5))∧1≤q∧q≤21:=by
   by_cases hw:w=3
   ·exact⟨21,by rw[if_pos hw];rfl,by decide,by decide⟩
   ·exact⟨5,by rw[if_neg hw];rfl,by decide,by decide⟩
  obtain⟨u,hs5,e5,⟨u0,u1⟩,h5,k5⟩:=z1g (n:=n) (q:=q) r h4 (by omega) (by omega)
  have b5:=(b1.keep k4 (by simpa using hb.1.symm) (by simpa using hb.2.1.symm)).keep k5 (by simpa using hb.1.symm) (by simpa using hb.2.1.symm)
  obtain⟨k,hk⟩:∃k:Nat,u=(k:Int):=⟨u.toNat,by omega⟩
  subst hk
  refine⟨.sh s k,x,hs5,?_,⟨fun p=>⟨by omega,_,rfl⟩,rfl,rfl,rfl,rfl⟩,by omega,b5,h5,(k1'.trans (k4.mono (by simp))).trans (k5.mono (by simp))⟩
  have ef:tcD (.node (.sh s k) [p]) = .tup [.str s.w,.int (k:Int),tcD p]:=by rw[zhb];rfl
  have eb:addD (.int 5) (.int (q-5))=some (.int q):=by
   show some (D.int (5+(q-5)))=_
   congr 2
   omega
  have ei:intD [.bl (decide (w=3))]=some (.int (if w=3 then 1 else 0)):=by
   by_cases hw:w=3 <;> simp[hw,intD]
  have n1:¬(s.w=Str.ofString "tag"):=by cases s <;> decide
  have n2:¬(s.w=Str.ofString "raw"):=by cases s <;> decide
  have n3:¬(s.w=Str.ofString "dedent"):=by cases s <;> decide
  have n4:¬(s.w=Str.ofString "flush"):=by cases s <;> decide
  rw[ef]
  clear ew b1 b2 b5 h h1 h4 h5 k1 k2 k4 k5 b h2 k1' k12 s0 i1 i2 e2 a1 ea h1'
  generalize z8c=WS at *
  generalize tcD p=P at *
  generalize s.w=SW at *
  generalize (k:Int)=K at *
  generalize (if w=3 then (1:Int) else 0)=W4 at *
  simp[-add_int,zze,zng,zye,ln,e1,iw,n1,n2,n3,n4,e4,zyd,ei,hq,eb,e5]
 ·refine⟨.ded,x,hs1,?_,⟨fun p=>⟨_,rfl⟩,rfl,rfl,rfl,rfl⟩,by omega,b1,h1',k1'⟩
  have ef:tcD (.node .ded [p]) = .tup [.str "dedent",tcD p]:=by rw[zhb];rfl
  have n1:¬(Str.ofString "dedent" = Str.ofString "tag"):=by decide
  have n2:¬(Str.ofString "dedent" = Str.ofString "raw"):=by decide
  rw[ef]
  clear ew b1 b2 h h1 k1 k2 b h2 k1' k12 s0 i1 i2 e2 a1 ea h1'
  generalize z8c=WS at *
  generalize tcD p=P at *
  simp[zze,zng,zye,ln,e1,iw,n1,n2]
 ·refine⟨.flu,x,hs1,?_,⟨fun p=>⟨_,rfl⟩,rfl,rfl,rfl,rfl⟩,by omega,b1,h1',k1'⟩
  have ef:tcD (.node .flu [p]) = .tup [.str "flush",tcD p]:=by rw[zhb];rfl
  have n1:¬(Str.ofString "flush" = Str.ofString "tag"):=by decide
  have n2:¬(Str.ofString "flush" = Str.ofString "raw"):=by decide
  have n3:¬(Str.ofString "flush" = Str.ofString "dedent"):=by decide
  rw[ef]
  clear ew b1 b2 h h1 k1 k2 b h2 k1' k12 s0 i1 i2 e2 a1 ea h1'
  generalize z8c=WS at *
  generalize tcD p=P at *
  simp[zze,zng,zye,ln,e1,iw,n1,n2,n3]
 ·refine⟨.tg true (tgN (x+1)),x+1,_,?_,⟨fun p=>⟨zy8 _,_,rfl⟩,rfl,rfl,rfl,rfl⟩,by omega,b2,h2,k12⟩
  have ef:tcD (.node (.tg true (tgN (x+1))) [p]) = .tup [.str "tag",.str (S (tgN (x+1))),tcD p]:=by rw[zhb];rfl
  rw[ef]
  clear ew b1 b2 h h1 k1 k2 b h2 k1' k12 h1'
  generalize z8c=WS at *
  generalize tcD p=P at *
  generalize hs1.set B (.lst [iH ((x+1:Nat):Int),.h N,iH (fl:Int)])=hs2 at *
  generalize S (ltr (x+1))=T0 at *
  generalize S (tgN (x+1))=T1 at *
  generalize ((x+1:Nat):Int)=X1 at *
  generalize (x:Int)=X at *
  simp[-add_int,zze,zng,zye,ln,e1,iw,i1,ea,s0,i2,e2,e_q0,a1]
 ·refine⟨.tg false (tgN (x+1)),x+1,_,?_,⟨fun p=>⟨zy8 _,_,rfl⟩,rfl,rfl,rfl,rfl⟩,by omega,b2,h2,k12⟩
  have ef:tcD (.node (.tg false (tgN (x+1))) [p]) = .tup [.str "raw",.str (S (tgN (x+1))),tcD p]:=by rw[zhb];rfl
  have n1:¬(Str.ofString "raw" = Str.ofString "tag"):=by decide
  rw[ef]
  clear ew b1 b2 h h1 k1 k2 b h2 k1' k12 h1'
  generalize z8c=WS at *
  generalize tcD p=P at *
  generalize hs1.set B (.lst [iH ((x+1:Nat):Int),.h N,iH (fl:Int)])=hs2 at *
  generalize S (ltr (x+1))=T0 at *
  generalize S (tgN (x+1))=T1 at *
  generalize ((x+1:Nat):Int)=X1 at *
  generalize (x:Int)=X at *
  simp[-add_int,zze,zng,zye,ln,e1,iw,n1,i1,ea,s0,i2,e2,e_q0,a1]
def joinP (ps:List Pg):Pg:=match ps.flatMap sms with
 |[q]=>q
 |qs=>.node .sum qs
theorem zg6 {ps:List Pg} (h0:ps.flatMap sms≠[]) (hz:(ps.flatMap sms).length≤1000) (m:Mem):z8d [.d (.lst (ps.map tcD))] m = .ok (.d (tcD (joinP ps))) m:=by
 obtain⟨dl2,m2,el,done,rest,x,hd,hp,rfl,rfl⟩:=zyh (g:=gNm 2) (b:=zof) (fun ds dl m'=>∃(done rest:List Pg) (x:Option W),ds=rest.map tcD∧ps=done++rest∧dl=[some (.d (.lst (ps.map tcD))),some (.d (.lst ((done.flatMap sms).map tcD))),x]∧m'=m) (fun d ds dl m' hI=>by
  obtain⟨done,rest,x,hd,hp,rfl,rfl⟩:=hI
  cases rest with
  |nil=>cases hd
  |cons q rest=>
   rw[List.map_cons] at hd
   injection hd with q1 q2
   subst q1
   have hl:(done.flatMap sms).length+(sms q).length≤1000:=by
    rw[hp] at hz
    simp only[List.flatMap_append,List.flatMap_cons,List.length_append] at hz
    omega
   refine⟨_,rfl,[some (.d (.lst (ps.map tcD))),some (.d (.lst (((done++[q]).flatMap sms).map tcD))),some (.d (tcD q))],m',?_,done++[q],rest,_,q2,by rw[hp];simp,rfl,rfl⟩
   have ea:addD (.lst ((done.flatMap sms).map tcD)) (.lst ((sms q).map tcD))=some (.lst (((done++[q]).flatMap sms).map tcD)):=by
    have:((done++[q]).flatMap sms).map tcD=(done.flatMap sms).map tcD++(sms q).map tcD:=by simp
    rw[this]
    exact z7b (by simp only[List.length_map];unfold sizeLine;omega)
   have ew:=zjg q
   by_cases hq:isSum q.lab=true
   ·have ew':∀m:Mem,ixW gB (.d (tcD q)) (.d (.int 0)) m = .ok (.d (.str "sum")) m:=fun m=>by
     rw[ew]
     have:=w_sum q.lab
     rw[hq] at this
     rw[of_decide_eq_true this]
    have i1:∀m:Mem,ixW gB (.d (tcD q)) (.d (.int 1)) m = .ok (.d (.tup ((sms q).map tcD))) m:=fun m=>by
     obtain⟨l,ms⟩:=q
     cases l <;> first |(cases hq;done) |skip
     rw[zhb,z8p]
     rfl
    have el:=zb6 ((sms q).map tcD) (by rw[List.length_map];unfold sizeLine;omega)
    generalize ps.map tcD=PS at *
    generalize ((done++[q]).flatMap sms).map tcD=D2 at *
    generalize (done.flatMap sms).map tcD=D1 at *
    generalize (sms q).map tcD=D0 at *
    generalize tcD q=Q at *
    simp[zof,ew',i1,el,ea]
   ·have hq:isSum q.lab=false:=by simpa using hq
    have ew2:=w_sum q.lab
    rw[hq] at ew2
    have ew3:¬(q.lab.w=Str.ofString "sum"):=of_decide_eq_false ew2
    have s1:1≤sizeLine:=by decide
    have e1:(sms q).map tcD=[tcD q]:=by rw[zwt hq];rfl
    rw[e1] at ea
    generalize ps.map tcD=PS at *
    generalize ((done++[q]).flatMap sms).map tcD=D2 at *
    generalize (done.flatMap sms).map tcD=D1 at *
    generalize tcD q=Q at *
    generalize q.lab.w=W0 at *
    simp[zof,ew,ew3,ea,s1]) (ps.map tcD) [some (.d (.lst (ps.map tcD))),some (.d (.lst [])),none] m ⟨[],ps,none,rfl,rfl,rfl,rfl⟩
 have hr:rest=[]:=by
  cases rest with
  |nil=>rfl
  |cons=>cases hd
 subst hr
 rw[List.append_nil] at hp
 rw[←hp] at el
 have ln:∀m:Mem,lnW [("Block",zi)] (.d (.lst ((ps.flatMap sms).map tcD))) m = .ok (.d (.int ((ps.flatMap sms).length:Int))) m:=fun m=>by rw[ziq,List.length_map]
 unfold joinP
 have et:tcD (.node .sum (ps.flatMap sms)) = .tup [.str "sum",.tup ((ps.flatMap sms).map tcD)]:=by rw[zhb];rfl
 generalize ps.flatMap sms=qs at *
 match qs,h0 with
 |[q],_=>
  have ln:∀m:Mem,lnW [("Block",zi)] (.d (.lst [tcD q])) m = .ok (.d (.int 1)) m:=fun m=>rfl
  have ix:∀m:Mem,ixW gB (.d (.lst [tcD q])) (.d (.int 0)) m = .ok (.d (tcD q)) m:=fun m=>rfl
  have el:loopD (gNm 2) zof (ps.map tcD) [some (.d (.lst (ps.map tcD))),some (.d (.lst [])),none] m2 = .nx [some (.d (.lst (ps.map tcD))),some (.d (.lst [tcD q])),x] m2:=el
  generalize ps.map tcD=PS at *
  generalize tcD q=Q at *
  simp[z8d,z1i,zah,el,ln,ix,zyd]
 |a::b::l,_=>
  have hne:¬(((a::b::l).length:Int)=1):=by simp only[List.length_cons];omega
  show _=Res.ok (W.d (tcD (.node .sum (a::b::l)))) m2
  rw[et]
  generalize ((a::b::l).length:Int)=L at *
  generalize (a::b::l).map tcD=M at *
  generalize ps.map tcD=PS at *
  simp[z8d,z1i,zah,el,ln,zyd,hne,z5m]
end LK
namespace LK
open PySem PySem.Spec L2 DL TM SX NT PG
theorem lay_w (k:Nat) {w:Str} (h:PyData.strOk w=true):Lay k (.str w):=⟨.str w,rfl,h,Nat.zero_le _⟩
theorem zkab (k c:Nat) (h:z7c c=true):Lay k (.str (S [c])):=Lay.str k fun x hx=>by
 rw[List.mem_singleton.mp hx]
 unfold z7c at h
 simp at h
 omega
theorem zbhb (k:Nat) {ls:List (List Nat)} (h:∀x∈ls,LineC x):∀d∈lnD ls,Lay k d:=fun d hd=>by
 rw[zwn] at hd
 obtain⟨s,hs,rfl⟩:=List.mem_map.mp hd
 obtain⟨x,hx,rfl⟩:=List.mem_map.mp hs
 obtain⟨r,h1,rfl⟩:=h x hx
 exact Lay.str k fun c hc=>by have:=h1.chr c hc;omega
theorem z2fb {t:List Nat} (h:isTag t=true):∀c∈t,c<128:=fun c hc=>by
 unfold isTag at h
 simp only[Bool.and_eq_true] at h
 have:=List.all_eq_true.mp h.2 c hc
 unfold z7c at this
 simp at this
 omega
theorem zgfb:∀(n:Nat) (p:Pg),dep p≤n→GoodC p→Lay (2*dep p) (tcD p)
 | 0,p,h,_=>by have:=zct p;omega
 |n+1,.node l ms,h,g=>by
  have g0:lokC l ms:=g.here
  have ih:∀q∈ms,Lay (2*deps ms) (tcD q):=fun q hq=>by
   have:=zz6 (p:=.node l ms) (q:=q) hq
   exact (zgfb n q (by omega) (g.sub (q:=q) hq)).mono (by have:=zx6 hq;omega)
  rw[zy0,zhb,show 2*(1+deps ms)=(2*deps ms+1)+1 by omega]
  cases l with
  |fixed ls=>
   obtain⟨rfl,_,_,h4⟩:=g0
   refine Lay.tup fun d hd=>?_
   simp only[List.mem_cons,List.not_mem_nil,or_false] at hd
   rcases hd with rfl |rfl
   ·exact lay_w _ (by decide +kernel)
   ·exact Lay.tup (zbhb _ h4)
  |hole c=>
   obtain⟨rfl,h2⟩:=g0
   refine Lay.tup fun d hd=>?_
   simp only[List.mem_cons,List.not_mem_nil,or_false] at hd
   rcases hd with rfl |rfl
   ·exact lay_w _ (by decide +kernel)
   ·exact zkab _ c h2
  |each c=>
   obtain⟨h2,q,rfl,_⟩:=g0
   refine Lay.tup fun d hd=>?_
   have hd:d∈[D.str "each",.str (S [c]),tcD q]:=hd
   simp only[List.mem_cons,List.not_mem_nil,or_false] at hd
   rcases hd with rfl |rfl |rfl
   ·exact lay_w _ (by decide +kernel)
   ·exact zkab _ c h2
   ·exact (ih q (by simp)).mono (by omega)
  |sum=>
   refine Lay.tup fun d hd=>?_
   have hd:d∈[D.str "sum",.tup (ms.map tcD)]:=hd
   simp only[List.mem_cons,List.not_mem_nil,or_false] at hd
   rcases hd with rfl |rfl
   ·exact lay_w _ (by decide +kernel)
   ·refine Lay.tup fun d hd=>?_
    obtain⟨q,hq,rfl⟩:=List.mem_map.mp hd
    exact ih q hq
  |sh w k=>
   obtain⟨_,q,rfl⟩:=g0
   refine Lay.tup fun d hd=>?_
   have hd:d∈[D.str w.w,.int (k:Int),tcD q]:=hd
   simp only[List.mem_cons,List.not_mem_nil,or_false] at hd
   rcases hd with rfl |rfl |rfl
   ·exact lay_w _ (by cases w <;> decide +kernel)
   ·exact Lay.int _ _
   ·exact (ih q (by simp)).mono (by omega)
  |ded=>
   obtain⟨q,rfl⟩:=g0
   refine Lay.tup fun d hd=>?_
   have hd:d∈[D.str "dedent",tcD q]:=hd
   simp only[List.mem_cons,List.not_mem_nil,or_false] at hd
   rcases hd with rfl |rfl
   ·exact lay_w _ (by decide +kernel)
   ·exact (ih q (by simp)).mono (by omega)
  |flu=>
   obtain⟨q,rfl⟩:=g0
   refine Lay.tup fun d hd=>?_
   have hd:d∈[D.str "flush",tcD q]:=hd
   simp only[List.mem_cons,List.not_mem_nil,or_false] at hd
   rcases hd with rfl |rfl
   ·exact lay_w _ (by decide +kernel)
   ·exact (ih q (by simp)).mono (by omega)
  |tg b t=>
   obtain⟨ht,q,rfl⟩:=g0
   refine Lay.tup fun d hd=>?_
   have hd:d∈[D.str (Lab.tg b t).w,.str (S t),tcD q]:=hd
   simp only[List.mem_cons,List.not_mem_nil,or_false] at hd
   rcases hd with rfl |rfl |rfl
   ·cases b
    ·exact lay_w _ (show PyData.strOk (Str.ofString "raw")=true by decide +kernel)
    ·exact lay_w _ (show PyData.strOk (Str.ofString "tag")=true by decide +kernel)
   ·exact Lay.str _ (z2fb ht)
   ·exact (ih q (by simp)).mono (by omega)
/-- against the empty list -/
theorem zceb {k:Nat} {ds:List D} (h:Lay k (.lst ds)) (hk:k≤64):eqD (.lst ds) (.lst [])=some (.bl (decide (ds=[]))):=by
 have ho:=h.ok hk
 obtain⟨p,h1,_⟩:=h
 unfold okD at ho
 rw[h1] at ho
 show eqP (.lst ds) (.lst [])=_
 unfold eqP
 rw[h1]
 show chk (SeqAt.shaped p=true∧SeqAt.shaped (.list [])=true) _=_
 rw[z7b ⟨ho,rfl⟩]
 cases ds with
 |nil=>cases h1;rfl
 |cons d ds=>
  simp only[toP,toPs] at h1
  split at h1
  ·rename_i ps hps
   cases h1
   split at hps
   ·split at hps
    ·cases hps;rfl
    ·cases hps
   ·cases hps
  ·cases h1
structure Stk (ps:List Pg) (ns:List Nat) (fl t:Nat):Prop where
 g:∀p∈ps,GoodC p
 z:sizes ps≤t
 nd:(ns++ps.flatMap nms).Nodup
 lt:∀c∈ns,z7c c=true
 w:(ps.map weight).sum+ns.length+fl≤3
 r:fl=0∨(fl=1∧∀p∈ps,rws p=[])
theorem Stk.fl1 {ps:List Pg} {ns:List Nat} {fl t:Nat} (h:Stk ps ns fl t):fl≤1:=by rcases h.r with h |h <;> omega
theorem zc2 {l:Lab} (h:lokC l []):GoodC (.node l []):=GoodC.mk h fun _ z=>nomatch z
theorem Stk.fix {ps:List Pg} {ns:List Nat} {fl t:Nat} (h:Stk ps ns fl t) {ls:List (List Nat)} (hl:lokC (.fixed ls) []):Stk (ps++[.node (.fixed ls) []]) ns fl (t+1):=by
 refine⟨fun p hp=>?_,?_,?_,h.lt,?_,?_⟩
 ·rcases List.mem_append.mp hp with hp |hp
  ·exact h.g p hp
  ·rw[List.mem_singleton.mp hp];exact zc2 hl
 ·rw[zne,zfc,zqd,size_leaf];have:=h.z;omega
 ·simp[zsgb];exact h.nd
 ·simp[zh7];exact h.w
 ·refine h.r.imp id fun⟨a,b⟩=>⟨a,fun p hp=>?_⟩
  rcases List.mem_append.mp hp with hp |hp
  ·exact b p hp
  ·rw[List.mem_singleton.mp hp];exact z15 rfl
theorem Stk.hole {ps:List Pg} {ns:List Nat} {c fl t:Nat} (h:Stk ps (ns++[c]) fl t):Stk (ps++[.node (.hole c) []]) ns fl (t+1):=by
 refine⟨fun p hp=>?_,?_,?_,fun x hx=>h.lt x (by simp[hx]),?_,?_⟩
 ·rcases List.mem_append.mp hp with hp |hp
  ·exact h.g p hp
  ·rw[List.mem_singleton.mp hp];exact zc2 ⟨rfl,h.lt c (by simp)⟩
 ·rw[zne,zfc,zqd,size_leaf];have:=h.z;omega
 ·have e:(ns++(ps++[Pg.node (.hole c) []]).flatMap nms).Perm (ns++[c]++ps.flatMap nms):=by
   simp only[List.flatMap_append,List.flatMap_cons,List.flatMap_nil,List.append_nil,zfdb,List.append_assoc]
   exact List.Perm.append_left ns List.perm_append_comm
  exact e.nodup_iff.mpr h.nd
 ·have:=h.w
  simp[zw3] at this ⊢
  omega
 ·refine h.r.imp id fun⟨a,b⟩=>⟨a,fun p hp=>?_⟩
  rcases List.mem_append.mp hp with hp |hp
  ·exact b p hp
  ·rw[List.mem_singleton.mp hp];exact z15 rfl
/-- what lies on top is laid into one -/
theorem Stk.one {ps A:List Pg} {q:Pg} {ns:List Nat} {fl t:Nat} (h:Stk (ps++A) ns fl t) (g:GoodC q) (z:size q≤sizes A+1) (n:nms q=A.flatMap nms) (w:weight q=(A.map weight).sum) (r:rws q=A.flatMap rws):Stk (ps++[q]) ns fl (t+1):=by
 refine⟨fun p hp=>?_,?_,?_,h.lt,?_,?_⟩
 ·rcases List.mem_append.mp hp with hp |hp
  ·exact h.g p (by simp[hp])
  ·rw[List.mem_singleton.mp hp];exact g
 ·have:=h.z
  rw[zne] at this ⊢
  rw[zfc,zqd]
  omega
 ·have:=h.nd
  simp only[List.flatMap_append,List.flatMap_cons,List.flatMap_nil,List.append_nil] at this ⊢
  rw[n]
  exact this
 ·have:=h.w
  simp only[List.map_append,List.sum_append,List.map_cons,List.map_nil,List.sum_cons,List.sum_nil] at this ⊢
  omega
 ·refine h.r.imp id fun⟨a,b⟩=>⟨a,fun p hp=>?_⟩
  rcases List.mem_append.mp hp with hp |hp
  ·exact b p (by simp[hp])
  ·rw[List.mem_singleton.mp hp,r]
   exact List.flatMap_eq_nil_iff.mpr fun x hx=>b x (by simp[hx])
theorem zlr {p:Pg} (g:GoodC p):(∀q∈sms p,GoodC q)∧sms p≠[]∧∀q∈sms p,isSum q.lab=false:=by
 by_cases h:isSum p.lab=true
 ·obtain⟨l,ms⟩:=p
  cases l <;> first |(cases h;done) |skip
  rw[z8p]
  have g0:lokC .sum ms:=g.here
  exact⟨fun q hq=>g.sub (q:=q) hq,fun z=>(by have:=g0.1;rw[z] at this;simp at this),g0.2⟩
 ·have h:isSum p.lab=false:=by simpa using h
  rw[zwt h]
  exact⟨fun q hq=>by rw[List.mem_singleton.mp hq];exact g,by simp,fun q hq=>by rw[List.mem_singleton.mp hq];exact h⟩
theorem z5fb (p:Pg):(sms p).flatMap rws=rws p:=by
 cases p with
 |node l ms=>
  cases l with
  |sum=>rw[z8p,zk9]
  |_=>rw[zwt rfl];simp
theorem z5ab {β : Type} (f:Pg→List β) (hf:∀p,(sms p).flatMap f=f p):∀ps:List Pg,(ps.flatMap sms).flatMap f=ps.flatMap f
 |[]=>rfl
 |p::ps=>by rw[List.flatMap_cons,List.flatMap_append,hf p,z5ab f hf ps];rfl
theorem z58:∀ps:List Pg,((ps.flatMap sms).map weight).sum=(ps.map weight).sum
 |[]=>rfl
 |p::ps=>by rw[List.flatMap_cons,List.map_append,List.sum_append,zi7,z58 ps];rfl
theorem zxz:∀ps:List Pg,sizes (ps.flatMap sms)≤sizes ps
 |[]=>Nat.le_refl _
 |p::ps=>by
  have:=zxz ps
  have:=zmr p
  rw[List.flatMap_cons,zne,zfc]
  omega
theorem zfj:∀ps:List Pg,ps.length≤sizes ps
 |[]=>Nat.zero_le _
 |p::ps=>by
  have:=zfj ps
  have:1≤size p:=by have:=zhm p;have:=zct p;omega
  rw[List.length_cons,zfc]
  omega
/-- a join is one part more at most -/
theorem zd0 {A:List Pg} (hA:A≠[]) (g:∀p∈A,GoodC p):GoodC (joinP A)∧size (joinP A)≤sizes A+1∧nms (joinP A)=A.flatMap nms∧weight (joinP A)=(A.map weight).sum∧rws (joinP A)=A.flatMap rws:=by
 have e1:=z5ab nms z6fb A
 have e2:=z58 A
 have e3:=z5ab rws z5fb A
 have e4:=zxz A
 have h1:∀q∈A.flatMap sms,GoodC q:=fun q hq=>by
  obtain⟨p,hp,hq⟩:=List.mem_flatMap.mp hq
  exact (zlr (g p hp)).1 q hq
 have h2:∀q∈A.flatMap sms,isSum q.lab=false:=fun q hq=>by
  obtain⟨p,hp,hq⟩:=List.mem_flatMap.mp hq
  exact (zlr (g p hp)).2.2 q hq
 have h3:A.flatMap sms≠[]:=by
  cases A with
  |nil=>exact absurd rfl hA
  |cons p A=>rw[List.flatMap_cons];exact fun z=>(zlr (g p (by simp))).2.1 (List.append_eq_nil_iff.mp z).1
 unfold joinP
 rw[←e1,←e2,←e3]
 generalize A.flatMap sms=B at *
 match B,h3 with
 |[q],_=>exact⟨h1 q (by simp),by rw[zfc,zqd] at e4;show size q≤_;omega,by simp,by simp,by simp⟩
 |a::b::l,_=>
  refine⟨GoodC.mk ⟨by simp,h2⟩ h1,?_,z49 _,zqy _,zk9 _⟩
  show size (.node .sum (a::b::l))≤_
  rw[zz5]
  omega
theorem Stk.step {ps:List Pg} {p:Pg} {l:Lab} {ns:List Nat} {fl t:Nat} (h:Stk (ps++[p]) ns fl t) (s:StepL l):Stk (ps++[.node l [p]]) ns fl (t+1):=
 h.one (GoodC.mk (s.ok p) fun q hq=>by rw[List.mem_singleton.mp hq];exact h.g p (by simp)) (by rw[zyu,zfc,zqd];omega) (by rw[z59 s.ho];simp) (by rw[zg7 s.we];simp) (by rw[zcgb s.ea];simp)
theorem Stk.join {ps:List Pg} {a b:Pg} {ns:List Nat} {fl t:Nat} (h:Stk (ps++[a,b]) ns fl t):Stk (ps++[joinP [a,b]]) ns fl (t+1):=by
 obtain⟨h1,h2,h3,h4,h5⟩:=zd0 (A:=[a,b]) (by simp) fun p hp=>h.g p (by
  simp only[List.mem_cons,List.not_mem_nil,or_false] at hp
  rcases hp with rfl |rfl <;> simp)
 exact h.one h1 h2 h3 h4 h5
theorem Stk.each {ps:List Pg} {p:Pg} {c:Nat} {ns:List Nat} {t:Nat} (h:Stk (ps++[p]) ns 1 t) (hn:nms p=[c]) (hc:z7c c=true):Stk (ps++[.node (.each c) [p]]) ns 0 (t+1):=by
 have hr:rws p=[]:=by
  rcases h.r with h |⟨_,h⟩
  ·cases h
  ·exact h p (by simp)
 refine⟨fun q hq=>?_,?_,?_,h.lt,?_,.inl rfl⟩
 ·rcases List.mem_append.mp hq with hq |hq
  ·exact h.g q (by simp[hq])
  ·rw[List.mem_singleton.mp hq]
   exact GoodC.mk ⟨hc,p,rfl,hn,by rw[z1cb,hr]⟩ fun q hq=>by rw[List.mem_singleton.mp hq];exact h.g p (by simp)
 ·have:=h.z
  rw[zne,zfc,zqd] at this ⊢
  rw[zyu]
  omega
 ·have:=h.nd
  simp only[List.flatMap_append,List.flatMap_cons,List.flatMap_nil,List.append_nil,zgdb] at this ⊢
  exact this
 ·have:=h.w
  simp only[List.map_append,List.sum_append,List.map_cons,List.map_nil,List.sum_cons,List.sum_nil,zx3] at this ⊢
  omega
/-- the end: one program -/
theorem Stk.end {ps:List Pg} {ns:List Nat} {fl t:Nat} (h:Stk ps ns fl t) (h0:ps≠[]) (ht:t≤15):POk (joinP ps)∧GoodC (joinP ps):=by
 obtain⟨h1,h2,h3,h4,h5⟩:=zd0 h0 h.g
 refine⟨⟨by have:=h.z;omega,?_,by have:=h.w;omega⟩,h1⟩
 rw[h3]
 exact (List.nodup_append.mp h.nd).2.1
/-- letters of the holes -/
theorem zedb {p:Pg} (g:GoodC p):∀c∈nms p,z7c c=true:=fun c hc=>by
 unfold nms at hc
 obtain⟨q,hq,e⟩:=List.mem_filterMap.mp hc
 have:=g q hq
 cases hl:q.lab with
 |hole x=>
  rw[hl] at e this
  cases e
  exact this.2
 |_=>rw[hl] at e;cases e
theorem Stk.lay {ps:List Pg} {ns:List Nat} {fl t:Nat} (h:Stk ps ns fl t) (ht:t≤16):Lay 33 (.lst (ps.map tcD)):=Lay.lst fun d hd=>by
 obtain⟨p,hp,rfl⟩:=List.mem_map.mp hd
 refine (zgfb (dep p) p (Nat.le_refl _) (h.g p hp)).mono ?_
 have h1:=zhm p
 have h2:size p≤sizes ps:=by
  obtain⟨a,b,rfl⟩:=List.append_of_mem hp
  rw[zne,zfc]
  omega
 have:=h.z
 omega
end LK
namespace LK
open PySem PySem.Spec L2 DL TM SX NT PG
def wA:DS:=(sAsg (eFn zp (aCons (eVar 0) (aCons (eC (.int 5)) aNil))) (gNm 7))
def wB:DS:=(sAsg (eIf (bT (eVar 5)) (eFn zhi (aCons (eIx [("Block",zb)] (eVar 5) (eUn negD (eC (.int 1)))) aNil)) (eLst (aNil))) (gNm 8))
def cP:DT:=((bOr (bT (eOp eqD (eVar 5) (eLst (aNil)))) (bT (eOp ltD (eVar 7) (eC (.int 2))))))
def wP:DS:=(sIf ((bAnd (bT (eOp neD (eIxH [("Block",zb)] (eVar 1) (eC (.int 1))) (eLst (aNil)))) (bT (eOp eqD (eFn zp (aCons (eVar 0) (aCons (eC (.int 2)) aNil))) (eC (.int 1)))))) (sDrop (eApp (eVar 5) (aCons (eTup (aCons (eC (.str "hole")) (aCons (ePopL (eIxH [("Block",zb)] (eVar 1) (eC (.int 1)))) aNil))) aNil))) (sDrop (eApp (eVar 5) (aCons (eFn zve (aCons (eVar 0) (aCons (eVar 1) (aCons (eVar 4) aNil)))) aNil))))
def cJ:DT:=((bAnd (bT (eOp eqD (eVar 7) (eC (.int 4)))) (bT (eOp gtD (eLen [("Block",zi)] (aCons (eVar 5) aNil)) (eC (.int 1))))))
def wJ:DS:=(sSeq (sAsg (ePop (eVar 5)) (gNm 9)) (z0t (eFn z8d (aCons (eLst (aCons (eIx [("Block",zb)] (eVar 5) (eUn negD (eC (.int 1)))) (aCons (eVar 9) aNil))) aNil)) (eVar 5) (eUn negD (eC (.int 1)))))
def cE:DT:=((bAnd (bT (eOp eqD (eIxH [("Block",zb)] (eVar 1) (eC (.int 2))) (eC (.int 1)))) (bAnd (bT (eOp eqD (eLen [("Block",zi)] (aCons (eVar 8) aNil)) (eC (.int 1)))) (bT (eOp eqD (eFn zp (aCons (eVar 0) (aCons (eC (.int 2)) aNil))) (eC (.int 1)))))))
def wE:DS:=(sSeq (sSetL (eC (.int 0)) (eVar 1) (eC (.int 2))) (z0t (eTup (aCons (eC (.str "each")) (aCons (eIx [("Block",zb)] (eVar 8) (eC (.int 0))) (aCons (eIx [("Block",zb)] (eVar 5) (eUn negD (eC (.int 1)))) aNil)))) (eVar 5) (eUn negD (eC (.int 1)))))
def wS:DS:=(z0t (eFn zze (aCons (eVar 0) (aCons (eVar 1) (aCons (eVar 2) (aCons (eIx [("Block",zb)] (eVar 5) (eUn negD (eC (.int 1)))) aNil))))) (eVar 5) (eUn negD (eC (.int 1))))
theorem zvfb:z6i=sSeq wA (sSeq wB (sIf cP wP (sIf cJ wJ (sIf cE wE wS)))):=rfl
theorem ixl_c {A:List D} {d:D} (hs:List HC) (r:Mem):ixW gB (.c (r.length+1)) (.d (.int (-1))) (.hp hs::(r++[.lst (A++[d])])) = .ok (.d d) (.hp hs::(r++[.lst (A++[d])])):=by
 have e:=LK.rd_c hs r (A++[d])
 have e2:ixD (.lst (A++[d])) (.int (-1))=some d:=DL.atI_last A d
 unfold ixW clsOf
 simp[e,e2]
theorem zg9 {A:List D} {d y:D} (hs:List HC) (r:Mem):setW (.d y) (.c (r.length+1)) (.d (.int (-1))) (.hp hs::(r++[.lst (A++[d])]))=some (.hp hs::(r++[.lst (A++[y])])):=by
 have e:=get_c hs r (.lst (A++[d]))
 unfold setW
 simp only[e]
 have e2:ixN (A++[d]).length (-1)=some A.length:=by
  unfold ixN
  rw[if_neg (by decide),List.length_append]
  simp
  omega
 rw[e2]
 simp only[]
 rw[set_c]
 simp
theorem zhjb {A:List D} {d:D} (hs:List HC) (r:Mem):popW (.c (r.length+1)) (.hp hs::(r++[.lst (A++[d])])) = .ok (.d d) (.hp hs::(r++[.lst A])):=by
 rw[zhgb (get_c hs r (.lst (A++[d]))),set_c]
theorem z1ib {A:List D} (hs:List HC) (r:Mem):tru (.c (r.length+1)) (.hp hs::(r++[.lst A])) = .ok (!A.isEmpty) (.hp hs::(r++[.lst A])):=by
 rw[zj1,LK.rd_c]
 cases A <;> rfl
theorem lnl_c {A:List D} (t:Tbl) (hs:List HC) (r:Mem):lnW t (.c (r.length+1)) (.hp hs::(r++[.lst A])) = .ok (.d (.int (A.length:Int))) (.hp hs::(r++[.lst A])):=by
 have e:=LK.rd_c hs r A
 unfold lnW clsOf
 simp[e,lenD,seqD]
/-- the locals of the loop -/
def eW (i B:Nat) (T:Int) (k:Nat) (x6 x7 x8 x9:Option W):DL.Env:=[some (.h i),some (.h B),some (.d z8c),some (.d (.int T)),some (.d (.int 2)),some (.c k),x6,x7,x8,x9]
theorem rd_nm {B N x fl:Nat} {ns:List Nat} {hs:List HC} (b:Bk B N x ns fl hs) (r:Mem):W.rd (.h N) (.hp hs::r)=some (.lst (ns.map chS)):=by
 rw[rdH b.n,List.map_map]
 rfl
theorem ne_nm {ns:List Nat} (h:∀c∈ns,z7c c=true):neD (.lst (ns.map chS)) (.lst [])=some (.bl (!decide (ns=[]))):=by
 have e:ns.map chS=(ns.map fun c=>S [c]).map D.str:=by rw[List.map_map];rfl
 rw[e,z65 fun x hx=>?_]
 ·cases ns <;> rfl
 ·obtain⟨c,hc,rfl⟩:=List.mem_map.mp hx
  exact z03 fun y hy=>by
   rw[List.mem_singleton.mp hy]
   have:=h c hc
   unfold z7c at this
   simp at this
   omega
theorem zfjb {i B N x fl n t:Nat} {ns:List Nat} {ps:List Pg} {hs:List HC} (r:Mem) (T:Int) (x6 x7 x8 x9:Option W) (hb:i≠B∧i≠N∧B≠N) (hx:x≤800) (ht:t≤15) (s:Stk ps ns fl t) (h:CSt i (n+10) hs) (b:Bk B N x ns fl hs) :
  ∃(ps':List Pg) (ns':List Nat) (x':Nat) (hs':List HC),wP (eW i B T (r.length+1) x6 x7 x8 x9) (.hp hs::(r++[.lst (ps.map tcD)])) = .nx (eW i B T (r.length+1) x6 x7 x8 x9) (.hp hs'::(r++[.lst (ps'.map tcD)])) ∧
   Stk ps' ns' fl (t+1)∧ps'≠[]∧x'≤x+2∧Bk B N x' ns' fl hs'∧CSt i n hs'∧Kp [i,B,N] hs hs':=by
 have lz:(ps.map tcD).length<sizeLine:=by have:=zfj ps;have:=s.z;rw[List.length_map];unfold sizeLine;omega
 have fixed:∀hs1:List HC,CSt i (n+9) hs1→Bk B N x ns fl hs1→Kp [i,B,N] hs hs1→∃(ps':List Pg) (ns':List Nat) (x':Nat) (hs':List HC),(sDrop (eApp (eVar 5) (aCons (eFn zve (aCons (eVar 0) (aCons (eVar 1) (aCons (eVar 4) aNil)))) aNil))) (eW i B T (r.length+1) x6 x7 x8 x9) (.hp hs1::(r++[.lst (ps.map tcD)])) = .nx (eW i B T (r.length+1) x6 x7 x8 x9) (.hp hs'::(r++[.lst (ps'.map tcD)])) ∧
   Stk ps' ns' fl (t+1)∧ps'≠[]∧x'≤x+2∧Bk B N x' ns' fl hs'∧CSt i n hs'∧Kp [i,B,N] hs hs':=fun hs1 h1 b1 k1=>by
  obtain⟨ls,x',hs2,e2,l2,hx2,b2,h2,k2⟩:=zqhb (n:=n) (r++[.lst (ps.map tcD)]) hb hx h1 b1
  refine⟨ps++[.node (.fixed ls) []],ns,x',hs2,?_,s.fix l2,by simp,hx2,b2,h2,k1.trans (k2.mono (fun z hz=>by simp at hz ⊢;rcases hz with h |h <;> simp[h]))⟩
  have ap:=zq3 (A:=ps.map tcD) (d:=tcD (.node (.fixed ls) [])) hs2 r lz
  have ty:=tyc_c (A:=ps.map tcD) hs1 r
  rw[List.map_append,List.map_singleton]
  unfold eW
  generalize z8c=WS at *
  generalize tcD (.node (.fixed ls) [])=R at *
  generalize ps.map tcD=A at *
  simp[e2,ap,ty]
 by_cases hn:ns=[]
 ·obtain⟨ps',ns',x',hs',e',q⟩:=fixed hs (h.mono (by omega)) b (Kp.refl _ _)
  refine⟨ps',ns',x',hs',?_,q⟩
  rw[←e']
  have rn:=rd_nm b (r++[.lst (ps.map tcD)])
  have ne:=ne_nm s.lt
  have hx1:=zfcb b (r++[.lst (ps.map tcD)]) gB
  rw[decide_eq_true hn] at ne
  clear e' q fixed h b s
  unfold wP eW
  generalize (sDrop (eApp (eVar 5) (aCons (eFn zve (aCons (eVar 0) (aCons (eVar 1) (aCons (eVar 4) aNil)))) aNil)))=FX at *
  generalize z8c=WS at *
  generalize ps.map tcD=A at *
  generalize ns.map chS=NS at *
  simp[-rd_h,hx1,rn,ne]
 ·obtain⟨w,hs1,e1,⟨w0,w1⟩,h1,k1⟩:=z1g (n:=n+9) (q:=2) (r++[.lst (ps.map tcD)]) h (by decide) (by decide)
  have b1:=b.keep k1 (by simpa using hb.1.symm) (by simpa using hb.2.1.symm)
  have rn:=rd_nm b (r++[.lst (ps.map tcD)])
  have ne:=ne_nm s.lt
  have hx1:=zfcb b (r++[.lst (ps.map tcD)]) gB
  rw[decide_eq_false hn] at ne
  by_cases hw:w=1
  ·obtain⟨ns0,c,rfl⟩:∃ns0 c,ns=ns0++[c]:=⟨ns.dropLast,ns.getLast hn,(List.dropLast_concat_getLast hn).symm⟩
   have hb1n:=b1.n
   rw[List.map_append] at hb1n
   have po:=zijb (r:=r++[.lst (ps.map tcD)]) (w:=cH c) hb1n
   have po:popLW (.h N) (.hp hs1::(r++[.lst (ps.map tcD)])) = .ok (.d (.str (S [c]))) (.hp (hs1.set N (.lst (ns0.map cH)))::(r++[.lst (ps.map tcD)])):=po
   have hx2:=zfcb b1 (r++[.lst (ps.map tcD)]) gB
   have tyN:=zifb (r:=r++[.lst (ps.map tcD)]) b1.n
   have kN:Kp [N] hs1 (hs1.set N (.lst (ns0.map cH))):=Kp.set (by simp) _
   have b2:Bk B N x ns0 fl (hs1.set N (.lst (ns0.map cH))):=⟨by rw[List.getElem?_set_ne hb.2.2.symm];exact b1.b,List.getElem?_set_self (List.getElem?_eq_some_iff.mp b1.n).1⟩
   refine⟨ps++[.node (.hole c) []],ns0,x,hs1.set N (.lst (ns0.map cH)),?_,s.hole,by simp,by omega,b2,(h1.mono (by omega)).keep kN (by simpa using hb.2.1),(k1.mono (by simp)).trans (kN.mono (by simp))⟩
   have et:tcD (.node (.hole c) []) = .tup [.str "hole",.str (S [c])]:=by rw[zhb];rfl
   have ap:=zq3 (A:=ps.map tcD) (d:=.tup [.str "hole",.str (S [c])]) (hs1.set N (.lst (ns0.map cH))) r lz
   have ty:=tyc_c (A:=ps.map tcD) hs1 r
   rw[List.map_append,List.map_singleton,et]
   clear fixed h b s b1 h1 b2 hb1n
   unfold wP eW
   generalize hs1.set N (.lst (ns0.map cH))=hs2 at *
   generalize z8c=WS at *
   generalize ps.map tcD=A at *
   generalize (ns0++[c]).map chS=NS at *
   generalize S [c]=C at *
   subst hw
   simp[-rd_h,hx1,rn,ne,e1,zyd,ty,hx2,tyN,po,ap]
  ·obtain⟨ps',ns',x',hs',e',q⟩:=fixed hs1 h1 b1 (k1.mono (by simp))
   refine⟨ps',ns',x',hs',?_,q⟩
   rw[←e']
   clear e' q fixed h b s b1 h1
   unfold wP eW
   generalize (sDrop (eApp (eVar 5) (aCons (eFn zve (aCons (eVar 0) (aCons (eVar 1) (aCons (eVar 4) aNil)))) aNil)))=FX at *
   generalize z8c=WS at *
   generalize ps.map tcD=A at *
   generalize ns.map chS=NS at *
   simp[-rd_h,hx1,rn,ne,e1,zyd,hw]
theorem z9jb {i B:Nat} {ps:List Pg} {a b:Pg} {hs:List HC} (r:Mem) (T:Int) (x6 x7 x8 x9:Option W) (ga:GoodC a) (gb:GoodC b) (hz:((sms a).length+(sms b).length)≤1000) :
  wJ (eW i B T (r.length+1) x6 x7 x8 x9) (.hp hs::(r++[.lst ((ps++[a,b]).map tcD)])) = .nx (eW i B T (r.length+1) x6 x7 x8 (some (.d (tcD b)))) (.hp hs::(r++[.lst ((ps++[joinP [a,b]]).map tcD)])):=by
 have e1:(ps++[a,b]).map tcD=(ps.map tcD++[tcD a])++[tcD b]:=by simp
 have e2:(ps++[joinP [a,b]]).map tcD=ps.map tcD++[tcD (joinP [a,b])]:=by simp
 have ty:=tyc_c (A:=(ps.map tcD++[tcD a])++[tcD b]) hs r
 have po:=zhjb (A:=ps.map tcD++[tcD a]) (d:=tcD b) hs r
 have ix:=ixl_c (A:=ps.map tcD) (d:=tcD a) hs r
 have ej:=zg6 (ps:=[a,b]) (by rw[List.flatMap_cons];exact fun z=>(zlr ga).2.1 (List.append_eq_nil_iff.mp z).1) (by simp;omega) (.hp hs::(r++[.lst (ps.map tcD++[tcD a])]))
 have se:=zg9 (A:=ps.map tcD) (d:=tcD a) (y:=tcD (joinP [a,b])) hs r
 have ej:z8d [.d (.lst [tcD a,tcD b])] (.hp hs::(r++[.lst (ps.map tcD++[tcD a])]))=_:=ej
 have s2:2≤sizeLine:=by decide
 rw[e1,e2]
 unfold wJ eW
 generalize z8c=WS at *
 generalize tcD (joinP [a,b])=J at *
 generalize ps.map tcD=A at *
 generalize tcD a=DA at *
 generalize tcD b=DB at *
 simp[-List.append_assoc,ty,po,ix,ej,se,s2]
theorem zpkb {i B N x n fl c:Nat} {ns:List Nat} {ps:List Pg} {p:Pg} {hs:List HC} (r:Mem) (T:Int) (x6 x7 x9:Option W) (b:Bk B N x ns fl hs) (hn:nms p=[c]) :
  wE (eW i B T (r.length+1) x6 x7 (some (.d (.lst ((nmQ p).map D.str)))) x9) (.hp hs::(r++[.lst ((ps++[p]).map tcD)])) = .nx (eW i B T (r.length+1) x6 x7 (some (.d (.lst ((nmQ p).map D.str)))) x9) (.hp (hs.set B (.lst [iH (x:Int),.h N,iH ((0:Nat):Int)]))::(r++[.lst ((ps++[Pg.node (.each c) [p]]).map tcD)])):=by
 have e1:(ps++[p]).map tcD=ps.map tcD++[tcD p]:=by simp
 have e2:(ps++[Pg.node (.each c) [p]]).map tcD=ps.map tcD++[.tup [.str "each",.str (S [c]),tcD p]]:=by
  rw[List.map_append,List.map_singleton,zhb]
  rfl
 have e3:(nmQ p).map D.str=[.str (S [c])]:=by unfold nmQ;rw[hn];rfl
 have s2:=zdib b (r++[.lst (ps.map tcD++[tcD p])]) 0
 have ix:=ixl_c (A:=ps.map tcD) (d:=tcD p) (hs.set B (.lst [iH (x:Int),.h N,iH ((0:Nat):Int)])) r
 have i0:∀m:Mem,ixW gB (.d (.lst [.str (S [c])])) (.d (.int 0)) m = .ok (.d (.str (S [c]))) m:=fun m=>rfl
 have se:=zg9 (A:=ps.map tcD) (d:=tcD p) (y:=.tup [.str "each",.str (S [c]),tcD p]) (hs.set B (.lst [iH (x:Int),.h N,iH ((0:Nat):Int)])) r
 have s2:setLW (.d (.int 0)) (.h B) (.d (.int 2)) (.hp hs::(r++[.lst (ps.map tcD++[tcD p])]))=some (.hp (hs.set B (.lst [iH (x:Int),.h N,iH ((0:Nat):Int)]))::(r++[.lst (ps.map tcD++[tcD p])])):=s2
 rw[e1,e2,e3]
 clear b e1 e2 e3
 unfold wE eW
 generalize hs.set B (.lst [iH (x:Int),.h N,iH ((0:Nat):Int)])=hs2 at *
 generalize z8c=WS at *
 generalize ps.map tcD=A at *
 generalize tcD p=DA at *
 generalize S [c]=C at *
 simp[s2,ix,i0,se]
theorem z5ib {i B N x fl n t:Nat} {ns:List Nat} {ps:List Pg} {p:Pg} {hs:List HC} (r:Mem) (T:Int) (x6 x7 x8 x9:Option W) (hb:i≠B∧i≠N∧B≠N) (hx:x≤800) (s:Stk (ps++[p]) ns fl t) (h:CSt i (n+3) hs) (b:Bk B N x ns fl hs) :
  ∃(q:Pg) (x':Nat) (hs':List HC),wS (eW i B T (r.length+1) x6 x7 x8 x9) (.hp hs::(r++[.lst ((ps++[p]).map tcD)])) = .nx (eW i B T (r.length+1) x6 x7 x8 x9) (.hp hs'::(r++[.lst ((ps++[q]).map tcD)])) ∧
   Stk (ps++[q]) ns fl (t+1)∧x'≤x+2∧Bk B N x' ns fl hs'∧CSt i n hs'∧Kp [i,B,N] hs hs':=by
 obtain⟨l,x',hs2,e2,l2,hx2,b2,h2,k2⟩:=z6ib (n:=n) (r++[.lst ((ps++[p]).map tcD)]) p hb (by omega) h b
 refine⟨.node l [p],x',hs2,?_,s.step l2,by omega,b2,h2,k2.mono (fun z hz=>by simp at hz ⊢;rcases hz with h |h <;> simp[h])⟩
 have e1:(ps++[p]).map tcD=ps.map tcD++[tcD p]:=by simp
 have e3:(ps++[Pg.node l [p]]).map tcD=ps.map tcD++[tcD (.node l [p])]:=by simp
 rw[e1] at e2
 rw[e1,e3]
 have ix:=ixl_c (A:=ps.map tcD) (d:=tcD p) hs r
 have se:=zg9 (A:=ps.map tcD) (d:=tcD p) (y:=tcD (.node l [p])) hs2 r
 clear b b2 s e1 e3 h h2
 unfold wS eW
 generalize z8c=WS at *
 generalize tcD (.node l [p])=J at *
 generalize ps.map tcD=A at *
 generalize tcD p=DA at *
 simp[ix,e2,se]
end LK
namespace LK
open PySem PySem.Spec L2 DL TM SX NT PG
/-- what a turn leaves -/
structure TurnR (i B N x n t:Nat) (hs:List HC) (ps':List Pg) (ns':List Nat) (fl' x':Nat) (hs':List HC):Prop where
 s:Stk ps' ns' fl' (t+1)
 n0:ps'≠[]
 x:x'≤x+2
 b:Bk B N x' ns' fl' hs'
 c:CSt i n hs'
 k:Kp [i,B,N] hs hs'
theorem ztgb (p:Pg):(nmQ p).length=(nms p).length:=by unfold nmQ;rw[(zql _).length_eq,List.length_map]
theorem ze9 (p:Pg):(sms p).length≤size p:=by
 have h1:=zfj (sms p)
 have h2:=zmr p
 omega
/-- the first two statements of a turn -/
theorem zmjb {i B N n t fl:Nat} {ns:List Nat} {ps:List Pg} {hs:List HC} (r:Mem) (T:Int) (x6 x7 x8 x9:Option W) (ht:t≤15) (s:Stk ps ns fl t) (h:CSt i (n+1) hs) :
  ∃(v:Int) (hs1:List HC) (y8:D),(0≤v∧v<5)∧(∀R:DS,sSeq wA (sSeq wB R) (eW i B T (r.length+1) x6 x7 x8 x9) (.hp hs::(r++[.lst (ps.map tcD)]))=R (eW i B T (r.length+1) x6 (some (.d (.int v))) (some (.d y8)) x9) (.hp hs1::(r++[.lst (ps.map tcD)]))) ∧
   (∀qs p,ps=qs++[p]→y8 = .lst ((nmQ p).map D.str))∧CSt i n hs1∧Kp [i] hs hs1:=by
 obtain⟨v,hs1,e1,⟨v0,v1⟩,h1,k1⟩:=z1g (n:=n) (q:=5) (r++[.lst (ps.map tcD)]) h (by decide) (by decide)
 have tr:=z1ib (A:=ps.map tcD) hs1 r
 by_cases hp:ps=[]
 ·subst hp
  refine⟨v,hs1,.lst [],⟨v0,v1⟩,fun R=>?_,fun qs p e=>(by simp at e),h1,k1⟩
  have tr:tru (.c (r.length+1)) (.hp hs1::(r++[.lst []])) = .ok false (.hp hs1::(r++[.lst []])):=tr
  have e1:zp [.h i,.d (.int 5)] (.hp hs::(r++[.lst []])) = .ok (.d (.int v)) (.hp hs1::(r++[.lst []])):=e1
  show sSeq wA (sSeq wB R) (eW i B T (r.length+1) x6 x7 x8 x9) (.hp hs::(r++[.lst []]))=R _ (.hp hs1::(r++[.lst []]))
  unfold wA wB eW
  generalize z8c=WS at *
  simp[-zj1,e1,tr]
 ·obtain⟨qs,p,rfl⟩:∃qs p,ps=qs++[p]:=⟨ps.dropLast,ps.getLast hp,(List.dropLast_concat_getLast hp).symm⟩
  have gp:=s.g p (by simp)
  have hz:=s.z
  have hw:=s.w
  rw[zne,zfc,zqd] at hz
  have hn:(nms p).length≤60:=by
   have:=z69 p
   simp only[List.map_append,List.map_cons,List.map_nil,List.sum_append,List.sum_cons,List.sum_nil] at hw
   omega
  have e2:=z6gb (by omega) hn gp (.hp hs1::(r++[.lst ((qs++[p]).map tcD)]))
  refine⟨v,hs1,.lst ((nmQ p).map D.str),⟨v0,v1⟩,fun R=>?_,fun qs' p' e=>?_,h1,k1⟩
  ·have em:(qs++[p]).map tcD=qs.map tcD++[tcD p]:=by simp
   have ix:=ixl_c (A:=qs.map tcD) (d:=tcD p) hs1 r
   have tr:tru (.c (r.length+1)) (.hp hs1::(r++[.lst ((qs++[p]).map tcD)])) = .ok true (.hp hs1::(r++[.lst ((qs++[p]).map tcD)])):=by
    rw[tr,em]
    simp
   rw[em] at e1 e2 tr ⊢
   unfold wA wB eW
   generalize z8c=WS at *
   generalize qs.map tcD=A at *
   generalize tcD p=P at *
   generalize (nmQ p).map D.str=NQ at *
   simp[-zj1,e1,tr,ix,e2]
  ·have:=List.append_inj' e rfl
   rw[List.cons.inj this.2 |>.1]
theorem cP_ok {i B N t fl:Nat} {ns:List Nat} {ps:List Pg} (hs:List HC) (r:Mem) (T v:Int) (x6 x8 x9:Option W) (ht:t≤16) (s:Stk ps ns fl t) :
  cP (eW i B T (r.length+1) x6 (some (.d (.int v))) x8 x9) (.hp hs::(r++[.lst (ps.map tcD)])) = .ok (decide (ps=[]) ||decide (v<2)) (.hp hs::(r++[.lst (ps.map tcD)])):=by
 have ee:=zceb (s.lay ht) (by decide)
 have rd:=LK.rd_c hs r (ps.map tcD)
 have e0:decide (ps.map tcD=[])=decide (ps=[]):=by cases ps <;> rfl
 rw[e0] at ee
 unfold cP eW
 generalize z8c=WS at *
 generalize ps.map tcD=A at *
 by_cases hp:ps=[]
 ·simp[rd,ee,hp]
 ·simp[rd,ee,hp]
theorem zr8 {i B N x n t fl:Nat} {ns:List Nat} {ps:List Pg} {hs:List HC} (r:Mem) (T:Int) (x6 x7 x8 x9:Option W) (hb:i≠B∧i≠N∧B≠N) (hx:x≤800) (ht:t≤15) (s:Stk ps ns fl t) (h:CSt i (n+11) hs) (b:Bk B N x ns fl hs) :
  ∃(ps':List Pg) (ns':List Nat) (fl' x':Nat) (hs':List HC) (y7 y8 y9:Option W),z6i (eW i B T (r.length+1) x6 x7 x8 x9) (.hp hs::(r++[.lst (ps.map tcD)])) = .nx (eW i B T (r.length+1) x6 y7 y8 y9) (.hp hs'::(r++[.lst (ps'.map tcD)]))∧TurnR i B N x n t hs ps' ns' fl' x' hs':=by
 obtain⟨v,hs1,y8,⟨v0,v1⟩,e1,hy,h1,k1⟩:=zmjb (B:=B) (N:=N) (n:=n+10) r T x6 x7 x8 x9 ht s h
 have b1:=b.keep k1 (by simpa using hb.1.symm) (by simpa using hb.2.1.symm)
 have k1':Kp [i,B,N] hs hs1:=k1.mono (by simp)
 have c1:=cP_ok (i:=i) (B:=B) (N:=N) hs1 r T v x6 (some (.d y8)) x9 (by omega) s
 rw[zvfb,e1]
 by_cases hp:ps=[]∨v<2
 ·obtain⟨ps',ns',x',hs',e2,s2,n2,hx2,b2,h2,k2⟩:=zfjb (n:=n) r T x6 (some (.d (.int v))) (some (.d y8)) x9 hb hx ht s h1 b1
  refine⟨ps',ns',fl,x',hs',some (.d (.int v)),some (.d y8),x9,?_,⟨s2,n2,hx2,b2,h2,k1'.trans k2⟩⟩
  have c1:cP (eW i B T (r.length+1) x6 (some (.d (.int v))) (some (.d y8)) x9) (.hp hs1::(r++[.lst (ps.map tcD)])) = .ok true (.hp hs1::(r++[.lst (ps.map tcD)])):=by
   rw[c1]
   rcases hp with hp |hp <;> simp[hp]
  rw[←e2]
  simp[c1]
 ·have hp0:ps≠[]:=fun z=>hp (.inl z)
  have hv2:¬v<2:=fun z=>hp (.inr z)
  have c1:cP (eW i B T (r.length+1) x6 (some (.d (.int v))) (some (.d y8)) x9) (.hp hs1::(r++[.lst (ps.map tcD)])) = .ok false (.hp hs1::(r++[.lst (ps.map tcD)])):=by
   rw[c1]
   simp[hp0,hv2]
  have ln:=lnl_c (A:=ps.map tcD) [("Block",zi)] hs1 r
  rw[List.length_map] at ln
  by_cases hj:v=4∧1<ps.length
  ·obtain⟨qs,a,c,rfl⟩:∃qs a c,ps=qs++[a,c]:=by
    obtain⟨qs,c,rfl⟩:∃qs p,ps=qs++[p]:=⟨ps.dropLast,ps.getLast hp0,(List.dropLast_concat_getLast hp0).symm⟩
    have hq:qs≠[]:=fun z=>by rw[z] at hj;simp at hj
    obtain⟨qs2,a,rfl⟩:∃qs2 p,qs=qs2++[p]:=⟨qs.dropLast,qs.getLast hq,(List.dropLast_concat_getLast hq).symm⟩
    exact⟨qs2,a,c,by simp⟩
   have hz:=s.z
   rw[zne,zfc,zfc,zqd] at hz
   have:=ze9 a
   have:=ze9 c
   have e2:=z9jb (i:=i) (B:=B) (ps:=qs) (hs:=hs1) r T x6 (some (.d (.int v))) (some (.d y8)) x9 (s.g a (by simp)) (s.g c (by simp)) (by omega)
   refine⟨qs++[joinP [a,c]],ns,fl,x,hs1,some (.d (.int v)),some (.d y8),some (.d (tcD c)),?_,⟨s.join,by simp,by omega,b1,h1.mono (by omega),k1'⟩⟩
   rw[←e2]
   have c2:cJ (eW i B T (r.length+1) x6 (some (.d (.int v))) (some (.d y8)) x9) (.hp hs1::(r++[.lst ((qs++[a,c]).map tcD)])) = .ok true (.hp hs1::(r++[.lst ((qs++[a,c]).map tcD)])):=by
    have h1l:(1:Int)<((qs++[a,c]).length:Int):=by simp;omega
    obtain⟨rfl,_⟩:=hj
    unfold cJ eW
    generalize z8c=WS at *
    generalize (qs++[a,c]).map tcD=A at *
    generalize ((qs++[a,c]).length:Int)=L at *
    simp[zyd,ln,gtD,h1l]
   simp[-List.map_append,c1,c2]
  ·have c2:cJ (eW i B T (r.length+1) x6 (some (.d (.int v))) (some (.d y8)) x9) (.hp hs1::(r++[.lst (ps.map tcD)])) = .ok false (.hp hs1::(r++[.lst (ps.map tcD)])):=by
    by_cases hv:v=4
    ·have h1l:¬(1:Int)<(ps.length:Int):=fun z=>hj ⟨hv,by omega⟩
     subst hv
     unfold cJ eW
     generalize z8c=WS at *
     generalize ps.map tcD=A at *
     generalize (ps.length:Int)=L at *
     simp[zyd,ln,gtD,h1l]
    ·unfold cJ eW
     generalize z8c=WS at *
     generalize ps.map tcD=A at *
     simp[zyd,hv]
   obtain⟨qs,p,rfl⟩:∃qs p,ps=qs++[p]:=⟨ps.dropLast,ps.getLast hp0,(List.dropLast_concat_getLast hp0).symm⟩
   have ey:=hy qs p rfl
   subst ey
   have hx2:=zblb b1 (r++[.lst ((qs++[p]).map tcD)]) gB
   have lnN:∀m:Mem,lnW [("Block",zi)] (.d (.lst ((nmQ p).map D.str))) m = .ok (.d (.int ((nms p).length:Int))) m:=fun m=>by rw[ziq,List.length_map,ztgb]
   -- the step
   have stp:∀hs2:List HC,CSt i (n+3) hs2→Bk B N x ns fl hs2→Kp [i,B,N] hs hs2→cE (eW i B T (r.length+1) x6 (some (.d (.int v))) (some (.d (.lst ((nmQ p).map D.str)))) x9) (.hp hs1::(r++[.lst ((qs++[p]).map tcD)])) = .ok false (.hp hs2::(r++[.lst ((qs++[p]).map tcD)])) →
     ∃(ps':List Pg) (ns':List Nat) (fl' x':Nat) (hs':List HC) (y7 y8 y9:Option W),sIf cP wP (sIf cJ wJ (sIf cE wE wS)) (eW i B T (r.length+1) x6 (some (.d (.int v))) (some (.d (.lst ((nmQ p).map D.str)))) x9) (.hp hs1::(r++[.lst ((qs++[p]).map tcD)])) = .nx (eW i B T (r.length+1) x6 y7 y8 y9) (.hp hs'::(r++[.lst (ps'.map tcD)]))∧TurnR i B N x n t hs ps' ns' fl' x' hs':=fun hs2 h2 b2 k2 c3=>by
    obtain⟨q,x',hs3,e3,s3,hx3,b3,h3,k3⟩:=z5ib (n:=n) r T x6 (some (.d (.int v))) (some (.d (.lst ((nmQ p).map D.str)))) x9 hb hx s h2 b2
    refine⟨qs++[q],ns,fl,x',hs3,some (.d (.int v)),some (.d (.lst ((nmQ p).map D.str))),x9,?_,⟨s3,by simp,hx3,b3,h3,k2.trans k3⟩⟩
    rw[←e3]
    simp[-List.map_append,c1,c2,c3]
   by_cases hf:fl=1∧(nms p).length=1
   ·obtain⟨hf,hl⟩:=hf
    subst hf
    obtain⟨w,hs2,e2,⟨w0,w1⟩,h2,k2⟩:=z1g (n:=n+9) (q:=2) (r++[.lst ((qs++[p]).map tcD)]) h1 (by decide) (by decide)
    have b2:=b1.keep k2 (by simpa using hb.1.symm) (by simpa using hb.2.1.symm)
    have lnN:∀m:Mem,lnW [("Block",zi)] (.d (.lst ((nmQ p).map D.str))) m = .ok (.d (.int 1)) m:=fun m=>by rw[lnN,hl];rfl
    have hx2:ixHW gB (.h B) (.d (.int 2)) (.hp hs1::(r++[.lst ((qs++[p]).map tcD)])) = .ok (.d (.int 1)) (.hp hs1::(r++[.lst ((qs++[p]).map tcD)])):=hx2
    have c3:cE (eW i B T (r.length+1) x6 (some (.d (.int v))) (some (.d (.lst ((nmQ p).map D.str)))) x9) (.hp hs1::(r++[.lst ((qs++[p]).map tcD)])) = .ok (decide (w=1)) (.hp hs2::(r++[.lst ((qs++[p]).map tcD)])):=by
     clear e1 hy s c1 c2 stp b b1 b2 h h1 h2 k1 k1' k2
     unfold cE eW
     generalize z8c=WS at *
     generalize (qs++[p]).map tcD=A at *
     generalize (nmQ p).map D.str=NQ at *
     simp[zyd,hx2,lnN,e2]
    by_cases hw:w=1
    ·obtain⟨c,hc⟩:∃c,nms p=[c]:=by
      match hq:nms p,hl with
      |[c],_=>exact⟨c,rfl⟩
     have e3:=zpkb (i:=i) (n:=n) (ps:=qs) r T x6 (some (.d (.int v))) x9 b2 hc
     have kB:Kp [B] hs2 (hs2.set B (.lst [iH (x:Int),.h N,iH ((0:Nat):Int)])):=Kp.set (by simp) _
     have b3:Bk B N x ns 0 (hs2.set B (.lst [iH (x:Int),.h N,iH ((0:Nat):Int)])):=⟨List.getElem?_set_self (List.getElem?_eq_some_iff.mp b2.b).1,by rw[List.getElem?_set_ne hb.2.2];exact b2.n⟩
     refine⟨qs++[.node (.each c) [p]],ns,0,x,_,some (.d (.int v)),some (.d (.lst ((nmQ p).map D.str))),x9,?_,⟨s.each hc (zedb (s.g p (by simp)) c (by rw[hc];simp)),by simp,by omega,b3,(h2.mono (by omega)).keep kB (by simpa using hb.1),(k1'.trans (k2.mono (by simp))).trans (kB.mono (by simp))⟩⟩
     rw[←e3]
     rw[hw] at c3
     simp[-List.map_append,c1,c2,c3]
    ·exact stp hs2 (h2.mono (by omega)) b2 (k1'.trans (k2.mono (by simp))) (by rw[c3,decide_eq_false hw])
   ·refine stp hs1 (h1.mono (by omega)) b1 k1' ?_
    clear e1 hy c1 c2 stp b b1 h h1 k1 k1'
    have hf1:=s.fl1
    by_cases hf2:fl=1
    ·have hl:¬(((nms p).length:Int)=1):=fun z=>hf ⟨hf2,by omega⟩
     subst hf2
     have hx2:ixHW gB (.h B) (.d (.int 2)) (.hp hs1::(r++[.lst ((qs++[p]).map tcD)])) = .ok (.d (.int 1)) (.hp hs1::(r++[.lst ((qs++[p]).map tcD)])):=hx2
     clear s
     unfold cE eW
     generalize z8c=WS at *
     generalize (qs++[p]).map tcD=A at *
     generalize (nmQ p).map D.str=NQ at *
     generalize ((nms p).length:Int)=L at *
     simp[zyd,hx2,lnN,hl]
    ·have hf3:fl=0:=by omega
     subst hf3
     have hx2:ixHW gB (.h B) (.d (.int 2)) (.hp hs1::(r++[.lst ((qs++[p]).map tcD)])) = .ok (.d (.int 0)) (.hp hs1::(r++[.lst ((qs++[p]).map tcD)])):=hx2
     clear s
     unfold cE eW
     generalize z8c=WS at *
     generalize (qs++[p]).map tcD=A at *
     generalize (nmQ p).map D.str=NQ at *
     simp[zyd,hx2]
/-- a spec drawn in up to fifteen turns -/
theorem zufb {i B N T n fl:Nat} {ns:List Nat} {hs:List HC} (r:Mem) (hb:i≠B∧i≠N∧B≠N) (hT:1≤T∧T≤15) (nd:ns.Nodup) (lt:∀c∈ns,z7c c=true) (hw:ns.length+fl≤3) (hf:fl≤1) (h:CSt i (n+165) hs) (b:Bk B N 0 ns fl hs) :
  ∃(p:Pg) (hs':List HC),z3m [.h i,.h B,.d z8c,.d (.int (T:Int)),.d (.int 2)] (.hp hs::r) = .ok (.d (tcD p)) (.hp hs'::r)∧POk p∧GoodC p∧CSt i n hs':=by
 have er:=z2z (j:=(T:Int)) (m:=.hp hs::(r++[.lst []])) (by omega) (by omega)
 rw[Int.toNat_natCast] at er
 have hr:(rngD 0 T).length=T:=zpv T
 have s0:Stk [] ns fl 0:=⟨fun _ z=>(nomatch z),by rw[zqd];omega,by simpa using nd,lt,by simpa using hw,by
  by_cases h1:fl=1
  ·exact .inr ⟨h1,fun _ z=>(nomatch z)⟩
  ·exact .inl (by omega)⟩
 obtain⟨dl2,m2,el,hs2,ps,ns2,fl2,x2,t,x6,x7,x8,x9,rfl,rfl,ht,s2,hx2,b2,h2,hn⟩:=zyh (g:=gNm 6) (b:=z6i) (fun ds dl m=>∃(hs2:List HC) (ps:List Pg) (ns2:List Nat) (fl2 x2 t:Nat) (x6 x7 x8 x9:Option W),dl=eW i B (T:Int) (r.length+1) x6 x7 x8 x9∧m = .hp hs2::(r++[.lst (ps.map tcD)])∧t+ds.length=T∧Stk ps ns2 fl2 t∧x2≤2*t∧Bk B N x2 ns2 fl2 hs2∧CSt i (n+11*ds.length) hs2∧(1≤t→ps≠[])) (fun d ds dl m hI=>by
  obtain⟨hs2,ps,ns2,fl2,x2,t,x6,x7,x8,x9,rfl,rfl,ht,s2,hx2,b2,h2,hn⟩:=hI
  rw[List.length_cons] at ht h2
  obtain⟨ps',ns',fl',x',hs',y7,y8,y9,e3,tr⟩:=zr8 (n:=n+11*ds.length) r (T:Int) (some (.d d)) x7 x8 x9 hb (by omega) (by omega) s2 (h2.mono (by omega)) b2
  have hx3:=tr.x
  exact⟨_,rfl,_,_,e3,hs',ps',ns',fl',x',t+1,_,y7,y8,y9,rfl,rfl,by omega,tr.s,by omega,tr.b,tr.c,fun _=>tr.n0⟩) (rngD 0 T) (eW i B (T:Int) (r.length+1) none none none none) (.hp hs::(r++[.lst []])) ⟨hs,[],ns,fl,0,0,none,none,none,none,rfl,rfl,by rw[hr];omega,s0,by omega,b,h.mono (by rw[hr];omega),fun z=>by omega⟩
 have ht:t=T:=by simpa using ht
 have hn:=hn (by omega)
 obtain⟨o,g⟩:=s2.end hn (by omega)
 obtain⟨j1,j2,j3,j4,j5⟩:=zd0 hn s2.g
 refine⟨joinP ps,hs2,?_,o,g,h2⟩
 have hz2:=zxz ps
 have hz3:=zfj (ps.flatMap sms)
 have hz4:=s2.z
 have ej:=zg6 (ps:=ps) (by
  cases ps with
  |nil=>exact absurd rfl hn
  |cons p A=>rw[List.flatMap_cons];exact fun z=>(zlr (s2.g p (by simp))).2.1 (List.append_eq_nil_iff.mp z).1) (by omega) (.hp hs2::(r++[.zd (.lst (ps.map tcD))]))
 have fz:=zmhb (get_c hs2 r (.lst (ps.map tcD)))
 rw[set_c] at fz
 have tk:(Cell.hp hs2::(r++[.zd (.lst (ps.map tcD))])).take (Cell.hp hs::r).length = .hp hs2::r:=z08 hs hs2 r _
 have er:rngB (.ok [.d (.int (T:Int))] (.hp hs::(r++[.lst []]))) = .ok (rngD 0 T) (.hp hs::(r++[.lst []])):=er
 clear s0 b b2 s2 h h2 j1 j2 j3 j4 j5
 unfold eW at el
 generalize z8c=WS at *
 generalize ps.map tcD=A at *
 generalize tcD (joinP ps)=J at *
 generalize (T:Int)=TT at *
 simp[z3m,zar,znm,er,el,fz,ej]
end LK
namespace LK
open PySem PySem.Spec L2 DL TM SX NT PG
abbrev Mn:=Str × Nat × Nat
def mnD (x:Mn):D:=.tup [.str x.1,.int (x.2.1:Int),.int (x.2.2:Int)]
def mnP (x:Mn):PyData:=.tuple [.str x.1,.int (x.2.1:Int),.int (x.2.2:Int)]
def isDrp:Lab→Bool
 |.sh _ _=>true
 |.ded=>true
 |.flu=>true
 |_=>false
def mnsAt (z k:Nat) (q:Pg):List Mn:=(if z<16 then ([("dedent",k,0),("in",k,1),("in",k,2),("in",k,3),("in",k,4)]:List Mn) else [])++(if isDrp q.lab=true then ([("drop",k,0)]:List Mn) else [])
def mns (p:Pg):List Mn:=(parts p).zipIdx.flatMap fun x=>mnsAt (size p) x.2 x.1
theorem augm (m:Mem) (a b:List D) (h:a.length+b.length≤sizeLine):augW (.c m.length) (.d (.lst b)) (m++[.lst a]) = .ok (.c m.length) (m++[.lst (a++b)]):=by
 have e1:(Loc.c m.length).get (m++[.lst a])=some (a.map HW.d):=by
  show (match (m++[Cell.lst a])[m.length]? with |some (.lst ds)=>some (ds.map HW.d) |_=>none)=_
  rw[zyr]
 have e2:(Loc.c m.length).put (a.map HW.d++b.map HW.d) (m++[.lst a])=some (m++[.lst (a++b)]):=by
  show (match datH (a.map HW.d++b.map HW.d) with |some ds=>some ((m++[Cell.lst a]).set m.length (.lst ds)) |none=>none)=_
  rw[←List.map_append,z16]
  simp only[]
  rw[zzz]
 have hy:(W.d (.lst b)).rd (m++[.lst a])=some (.lst b):=rfl
 unfold augW W.loc
 simp only[e1,hy]
 rw[if_pos (by rw[List.length_map];exact h),e2]
def drpL:List Str:=["in", "out", "first", "rest", "dedent", "flush"]
theorem drp_d:∀l:Lab,decide (l.w∈drpL)=isDrp l
 |.fixed _=>(by decide:decide (Str.ofString "fixed" ∈ drpL)=false)
 |.hole _=>(by decide:decide (Str.ofString "hole" ∈ drpL)=false)
 |.each _=>(by decide:decide (Str.ofString "each" ∈ drpL)=false)
 |.sum=>(by decide:decide (Str.ofString "sum" ∈ drpL)=false)
 |.sh .in_ _=>(by decide:decide (Str.ofString "in" ∈ drpL)=true)
 |.sh .out _=>(by decide:decide (Str.ofString "out" ∈ drpL)=true)
 |.sh .first _=>(by decide:decide (Str.ofString "first" ∈ drpL)=true)
 |.sh .rest _=>(by decide:decide (Str.ofString "rest" ∈ drpL)=true)
 |.ded=>(by decide:decide (Str.ofString "dedent" ∈ drpL)=true)
 |.flu=>(by decide:decide (Str.ofString "flush" ∈ drpL)=true)
 |.tg true _=>(by decide:decide (Str.ofString "tag" ∈ drpL)=false)
 |.tg false _=>(by decide:decide (Str.ofString "raw" ∈ drpL)=false)
theorem drp_w (l:Lab):inTD (.str l.w) (.tup [.str "in",.str "out",.str "first",.str "rest",.str "dedent",.str "flush"])=some (.bl (isDrp l)):=by
 have:=zj4 l.w drpL
 rw[drp_d] at this
 exact this
theorem zy1 (z k:Nat) (q:Pg):(mnsAt z k q).length≤6:=by
 unfold mnsAt
 split <;> split <;> simp
theorem zq7 {p:Pg} {x0:Option W} (m:Mem) (acc:List D) (q:Pg) (k:Nat) (x3 x4 x5:Option W) (hz:size p≤16) (ha:acc.length≤200):∃y5,zte [x0,some (.d (.lst ((parts p).map pgD))),some (.c m.length),some (.d (.int (k:Int))),some (.d (pgD q)),x5] (m++[.lst acc]) = .nx [x0,some (.d (.lst ((parts p).map pgD))),some (.c m.length),some (.d (.int (k:Int))),some (.d (pgD q)),y5] (m++[.lst (acc++(mnsAt (size p) k q).map mnD)]):=by
 have ln:∀m:Mem,lnW [] (.d (.lst ((parts p).map pgD))) m = .ok (.d (.int (size p:Int))) m:=fun m=>by rw[ziq,List.length_map,PG.z9c]
 have ew:=zpq q
 have ed:=drp_w q.lab
 have ap:∀a d,a.length≤300→appW (.c m.length) [.d d] (m++[.lst a]) = .ok (.d .non) (m++[.lst (a++[d])]):=fun a d h=>by
  rw[z5l,if_pos (by unfold sizeLine;omega)]
 have s4:(4:Nat)≤sizeLine:=by decide
 have hc:∀(X0 X1 X2 X3 X4 X5:Option W) (K:Int),X3=some (.d (.int K))→compD (gNm 5) bYes z4m [X0,X1,X2,X3,X4,X5] [.int 1,.int 2,.int 3,.int 4] []=fun m=>.ok [.tup [.str "in",.int K,.int 1],.tup [.str "in",.int K,.int 2],.tup [.str "in",.int K,.int 3],.tup [.str "in",.int K,.int 4]] m:=fun X0 X1 X2 X3 X4 X5 K h3=>by
  subst h3
  funext m
  have s0:0<sizeLine:=by decide
  have s1:1<sizeLine:=by decide
  have s2:2<sizeLine:=by decide
  have s3:3<sizeLine:=by decide
  simp[compD,z4m,s0,s1,s2,s3]
 have er:∀(dl:DL.Env) (m:Mem),zlq (aCons (eC (.int 1)) (aCons (eOp addD (eC (.int 4)) (eC (.int 1))) aNil)) dl m = .ok [.int 1,.int 2,.int 3,.int 4] m:=fun dl m=>rfl
 have e1:(acc++[D.tup [.str "dedent",.int (k:Int),.int 0]]).length≤300:=by simp;omega
 have au:=augm m (acc++[D.tup [.str "dedent",.int (k:Int),.int 0]]) [.tup [.str "in",.int (k:Int),.int 1],.tup [.str "in",.int (k:Int),.int 2],.tup [.str "in",.int (k:Int),.int 3],.tup [.str "in",.int (k:Int),.int 4]] (by simp;unfold sizeLine;omega)
 have ty:=fun a=>zlj m a
 have ap0:=ap acc (.tup [.str "dedent",.int (k:Int),.int 0]) (by omega)
 have apA:=ap acc (.tup [.str "drop",.int (k:Int),.int 0]) (by omega)
 have apB:=ap (acc++[D.tup [.str "dedent",.int (k:Int),.int 0],.tup [.str "in",.int (k:Int),.int 1],.tup [.str "in",.int (k:Int),.int 2],.tup [.str "in",.int (k:Int),.int 3],.tup [.str "in",.int (k:Int),.int 4]]) (.tup [.str "drop",.int (k:Int),.int 0]) (by simp;omega)
 have er':=er
 unfold mnsAt
 by_cases h16:size p<16
 ·have h16':(size p:Int)<16:=by omega
  refine⟨x5,?_⟩
  rw[if_pos h16]
  generalize (size p:Int)=Z at *
  generalize (parts p).map pgD=PP at *
  by_cases hd:isDrp q.lab=true
  ·rw[if_pos hd]
   rw[hd] at ed
   generalize q.lab.w=W0 at *
   generalize pgD q=Q at *
   unfold zte
   generalize hE:zlq (aCons (eC (.int 1)) (aCons (eOp addD (eC (.int 4)) (eC (.int 1))) aNil))=ER at *
   simp[-zlj,-z5l,ln,ltD,h16',ty,ap0,er,hc,au,ew,ed,apB,mnD]
  ·have hd:isDrp q.lab=false:=by simpa using hd
   rw[hd,if_neg Bool.false_ne_true]
   rw[hd] at ed
   generalize q.lab.w=W0 at *
   generalize pgD q=Q at *
   unfold zte
   generalize hE:zlq (aCons (eC (.int 1)) (aCons (eOp addD (eC (.int 4)) (eC (.int 1))) aNil))=ER at *
   simp[-zlj,-z5l,ln,ltD,h16',ty,ap0,er,hc,au,ew,ed,mnD]
 ·have h16':¬(size p:Int)<16:=by omega
  refine⟨x5,?_⟩
  rw[if_neg h16]
  generalize (size p:Int)=Z at *
  generalize (parts p).map pgD=PP at *
  by_cases hd:isDrp q.lab=true
  ·rw[if_pos hd]
   rw[hd] at ed
   generalize q.lab.w=W0 at *
   generalize pgD q=Q at *
   unfold zte
   generalize hE:zlq (aCons (eC (.int 1)) (aCons (eOp addD (eC (.int 4)) (eC (.int 1))) aNil))=ER at *
   simp[-zlj,-z5l,ln,ltD,h16',ty,ew,ed,apA,mnD]
  ·have hd:isDrp q.lab=false:=by simpa using hd
   rw[hd,if_neg Bool.false_ne_true]
   rw[hd] at ed
   generalize q.lab.w=W0 at *
   generalize pgD q=Q at *
   unfold zte
   generalize hE:zlq (aCons (eC (.int 1)) (aCons (eOp addD (eC (.int 4)) (eC (.int 1))) aNil))=ER at *
   simp[-zlj,-z5l,ln,ltD,h16',ew,ed]
theorem zy3:∀ms:List Mn,toPs (ms.map mnD)=some (ms.map mnP)
 |[]=>rfl
 |x::ms=>by
  rw[List.map_cons,toPs,zy3 ms]
  rfl
theorem za9 (ms:List Mn) (hz:ms.length≤200):∃ms':List Mn,ms'.Perm ms∧zgv [.lst (ms.map mnD)]=some (.lst (ms'.map mnD)):=by
 cases ms with
 |nil=>exact⟨[],.refl _,rfl⟩
 |cons x xs=>
  generalize he:x::xs=ms at *
  have e1:zam [.lst (ms.map mnD)]=none:=by rw[←he];rfl
  have e2:(ms.map mnD).zip (ms.map mnP)=ms.map fun t=>(mnD t,mnP t):=zyeb mnD mnP ms
  refine⟨ms.mergeSort (PySem.W.dataLe false fun t=>mnP t),List.mergeSort_perm _ _,?_⟩
  unfold zgv
  rw[e1]
  unfold zwz
  have e3:lstD (.lst (ms.map mnD))=some (ms.map mnD):=rfl
  have hal:z96 (ms.map mnP)=true:=by
   unfold z96
   refine List.all_eq_true.mpr fun a ha=>List.all_eq_true.mpr fun b hb=>?_
   obtain⟨u,_,rfl⟩:=List.mem_map.mp ha
   obtain⟨v,_,rfl⟩:=List.mem_map.mp hb
   rfl
  have hso:zp1 (ms.map mnP)=true:=by
   unfold zp1
   rw[Bool.or_eq_true]
   refine .inl (List.all_eq_true.mpr fun a ha=>?_)
   obtain⟨u,_,rfl⟩:=List.mem_map.mp ha
   rfl
  have hdp:((ms.map mnP).all fun p=>decide (p.depth≤50))=true:=by
   refine List.all_eq_true.mpr fun a ha=>?_
   obtain⟨u,_,rfl⟩:=List.mem_map.mp ha
   rfl
  simp only[e3,zy3]
  rw[if_pos ⟨hal,hso,by rw[List.length_map];unfold sizeLine;omega,hdp⟩,e2]
  unfold zy5
  rw[sort_map,List.map_map]
  rfl
theorem za0 {p:Pg} (hz:size p≤16) (m:Mem):∃ms:List Mn,ms.Perm (mns p)∧ms.length≤200∧z7l [.d (pgD p)] m = .ok (.d (.lst (ms.map mnD))) m:=by
 have ea:=zmk (p:=p) (by omega) m
 have lp:(parts p).length≤16:=by rw[PG.z9c];exact hz
 obtain⟨dl2,m2,el,done,rest,x3,x4,x5,hd,hp,rfl,rfl⟩:=zyh (g:=gTp 2 (zfe (gNm 3) (zfe (gNm 4) gNil_))) (b:=zte) (fun ds dl m'=>∃(done rest:List (Pg × Nat)) (x3 x4 x5:Option W),ds=rest.map (fun x=>D.tup [.int (x.2:Int),pgD x.1])∧(parts p).zipIdx=done++rest∧dl=[some (.d (pgD p)),some (.d (.lst ((parts p).map pgD))),some (.c m.length),x3,x4,x5]∧m'=m++[.lst ((done.flatMap fun x=>mnsAt (size p) x.2 x.1).map mnD)]) (fun d ds dl m' hI=>by
  obtain⟨done,rest,x3,x4,x5,hd,hp,rfl,rfl⟩:=hI
  cases rest with
  |nil=>cases hd
  |cons q rest=>
   rw[List.map_cons] at hd
   injection hd with q1 q2
   subst q1
   have hl:done.length≤16:=by
    have:((parts p).zipIdx).length=(parts p).length:=by simp
    rw[hp,List.length_append] at this
    omega
   have hl2:((done.flatMap fun x=>mnsAt (size p) x.2 x.1).map mnD).length≤6*done.length:=by
    rw[List.length_map]
    clear hp hl
    induction done with
    |nil=>simp
    |cons y ys ih=>rw[List.flatMap_cons,List.length_append,List.length_cons];have:=zy1 (size p) y.2 y.1;omega
   obtain⟨y5,e⟩:=zq7 (p:=p) (x0:=some (.d (pgD p))) m ((done.flatMap fun x=>mnsAt (size p) x.2 x.1).map mnD) q.1 q.2 none none x5 hz (by omega)
   refine⟨_,rfl,_,_,e,done++[q],rest,_,_,y5,q2,by rw[hp];simp,rfl,by simp⟩) (enumD ((parts p).map pgD)) [some (.d (pgD p)),some (.d (.lst ((parts p).map pgD))),some (.c m.length),none,none,none] (m++[.lst []]) ⟨[],(parts p).zipIdx,none,none,none,by rw[z82],rfl,rfl,by simp⟩
 have hr:rest=[]:=by
  cases rest with
  |nil=>rfl
  |cons=>cases hd
 subst hr
 rw[List.append_nil] at hp
 rw[←hp] at el
 have hlen:(mns p).length≤200:=by
  have h1:∀xs:List (Pg × Nat),(xs.flatMap fun x=>mnsAt (size p) x.2 x.1).length≤6*xs.length:=fun xs=>by
   induction xs with
   |nil=>simp
   |cons y ys ih=>rw[List.flatMap_cons,List.length_append,List.length_cons];have:=zy1 (size p) y.2 y.1;omega
  have:=h1 (parts p).zipIdx
  rw[List.length_zipIdx] at this
  unfold mns
  omega
 obtain⟨ms',pm,es⟩:=za9 (mns p) hlen
 refine⟨ms',pm,by rw[pm.length_eq];exact hlen,?_⟩
 have rd:W.rd (.c m.length) (m++[.lst ((mns p).map mnD)])=some (.lst ((mns p).map mnD)):=by simp[W.rd,Cell.fz]
 have el:loopD (gTp 2 (zfe (gNm 3) (zfe (gNm 4) gNil_))) zte (enumD ((parts p).map pgD)) [some (.d (pgD p)),some (.d (.lst ((parts p).map pgD))),some (.c m.length),none,none,none] (m++[.lst []]) = .nx [some (.d (pgD p)),some (.d (.lst ((parts p).map pgD))),some (.c m.length),x3,x4,x5] (m++[.lst ((mns p).map mnD)]):=el
 have en:∀m:Mem,enumW [.d (.lst ((parts p).map pgD))] m = .ok (enumD ((parts p).map pgD)) m:=fun m=>rfl
 generalize enumD ((parts p).map pgD)=EN at *
 generalize (parts p).map pgD=PP at *
 generalize (mns p).map mnD=MM at *
 generalize ms'.map mnD=M2 at *
 generalize pgD p=P at *
 simp[z7l,zlt,zfo,ea,en,el,es]
/-- what a mend is -/
theorem z63 {p:Pg} {x:Mn} (h:x∈mns p):x.2.1<size p∧((x.1 = "dedent" ∧ x.2.2=0∧size p<16)∨(x.1 = "in" ∧ 1≤x.2.2∧x.2.2≤4∧size p<16)∨(x.1 = "drop" ∧ x.2.2=0∧∃q,(parts p)[x.2.1]?=some q∧isDrp q.lab=true)):=by
 unfold mns at h
 obtain⟨⟨q,k⟩,hq,hx⟩:=List.mem_flatMap.mp h
 have hk:=List.mem_zipIdx_iff_getElem?.mp hq
 have hl:=(List.getElem?_eq_some_iff.mp hk).1
 rw[PG.z9c] at hl
 unfold mnsAt at hx
 rcases List.mem_append.mp hx with hx |hx
 ·split at hx
  ·rename_i h16
   simp only[List.mem_cons,List.not_mem_nil,or_false] at hx
   rcases hx with rfl |rfl |rfl |rfl |rfl
   ·exact⟨hl,.inl ⟨rfl,rfl,h16⟩⟩
   all_goals exact⟨hl,.inr (.inl ⟨rfl,by simp,by simp,h16⟩)⟩
  ·cases hx
 ·split at hx
  ·rename_i hd
   rw[List.mem_singleton] at hx
   subst hx
   exact⟨hl,.inr (.inr ⟨rfl,rfl,q,hk,hd⟩)⟩
  ·cases hx
end LK
namespace LK
open PySem PySem.Spec L2 DL TM SX NT PG
def isTu (t:D) (b:Bool):Prop:=(DL.ob (tagD t) fun x=>Option.map D.bl (isfT z5g x))=some (.bl b)
def isIn (t:D) (b:Bool):Prop:=(DL.ob (tagD t) fun x=>Option.map D.bl (isfT zki x))=some (.bl b)
def isBo (t:D) (b:Bool):Prop:=(DL.ob (tagD t) fun x=>Option.map D.bl (isfT zge x))=some (.bl b)
theorem zxib (ds:List D):isTu (.tup ds) true:=by with_unfolding_all rfl
theorem zzib:isTu .non false:=by with_unfolding_all rfl
theorem tu_bl (b:Bool):isTu (.bl b) false:=by with_unfolding_all rfl
theorem zyib (s:Str):isTu (.str s) false:=by with_unfolding_all rfl
theorem z0ib (ds:List D):isTu (.lst ds) false:=by with_unfolding_all rfl
theorem in_bl (b:Bool):isIn (.bl b) true:=by with_unfolding_all rfl
theorem in_str (s:Str):isIn (.str s) false:=by with_unfolding_all rfl
theorem zekb (ds:List D):isIn (.tup ds) false:=by with_unfolding_all rfl
theorem zfkb:isIn .non false:=by with_unfolding_all rfl
theorem bo_bl (b:Bool):isBo (.bl b) true:=by with_unfolding_all rfl
theorem zlk (ds:List D):isBo (.tup ds) false:=by with_unfolding_all rfl
theorem z7kb:isBo .non false:=by with_unfolding_all rfl
theorem z6kb (s:Str):isBo (.str s) false:=by with_unfolding_all rfl
theorem z8kb (ds:List D):isBo (.lst ds) false:=by with_unfolding_all rfl
theorem is_tt:isfT z5g (.bt "tuple")=some true:=by with_unfolding_all rfl
theorem is_ii:isfT zki (.bt "int")=some true:=by with_unfolding_all rfl
theorem is_bi:isfT zge (.bt "int")=some false:=by with_unfolding_all rfl
def NotI (d:D):Prop:=isIn d false∨(isIn d true∧isBo d true)
inductive Odd (p:Pg):D→Prop
 |nt {t:D} (h:isTu t false):Odd p t
 |len {ds:List D} (h:ds.length≠3) (hz:ds.length≤100):Odd p (.tup ds)
 |b {a b c:D} (h:NotI b):Odd p (.tup [a,b,c])
 |c {a c:D} {i:Int} (h:NotI c):Odd p (.tup [a,.int i,c])
 |no {a:D} {i j:Int} {pa:PyData} (ha:toP a=some pa) (hs:SeqAt.shaped (.tuple [pa,.int i,.int j])=true) (h:∀x∈mns p,PyData.eqv (mnP x) (.tuple [pa,.int i,.int j])=false):Odd p (.tup [a,.int i,.int j])
theorem zu8 {P T:W} {d:D} (m:Mem) (h:NotI d):zde [some P,some T,some (.d d)] m = .rt (.d (.bl false)) m:=by
 rcases h with h |⟨h1,h2⟩
 ·have h:(DL.ob (tagD d) fun x=>Option.map D.bl (isfT zki x))=_:=h
  simp[zde,h]
 ·have h1:(DL.ob (tagD d) fun x=>Option.map D.bl (isfT zki x))=_:=h1
  have h2:(DL.ob (tagD d) fun x=>Option.map D.bl (isfT zge x))=_:=h2
  simp[zde,h1,h2]
theorem z9u {P T:W} {i:Int} (m:Mem):zde [some P,some T,some (.d (.int i))] m = .nx [some P,some T,some (.d (.int i))] m:=by
 simp[zde,is_ii,is_bi]
theorem slt3 (a b c:D):slD (.tup [a,b,c]) (some 1) none=some (.tup [b,c]):=rfl
theorem znab (x:Mn) (hx:PyData.strOk x.1=true):Lay 1 (mnD x):=Lay.tup fun d hd=>by
 simp only[List.mem_cons,List.not_mem_nil,or_false] at hd
 rcases hd with rfl |rfl |rfl
 ·exact lay_w _ hx
 ·exact Lay.int _ _
 ·exact Lay.int _ _
theorem z79 {p:Pg} {x:Mn} (h:x∈mns p):PyData.strOk x.1=true:=by
 rcases (z63 h).2 with ⟨h,_⟩ |⟨h,_⟩ |⟨h,_⟩ <;> rw[h] <;> decide +kernel
theorem in_mn {p:Pg} {ms:List Mn} (pm:ms.Perm (mns p)) {t:D} {pt:PyData} (ht:toP t=some pt) (hs:SeqAt.shaped pt=true):inLD t (.lst (ms.map mnD))=some (.bl (ms.any fun x=>PyData.eqv (mnP x) pt)):=by
 have hl:Lay 2 (.lst (ms.map mnD)):=Lay.lst fun d hd=>by
  obtain⟨x,hx,rfl⟩:=List.mem_map.mp hd
  exact znab x (z79 (pm.subset hx))
 have ho:=hl.ok (by decide)
 have e1:toP (.lst (ms.map mnD))=some (.list (ms.map mnP)):=by simp only[toP,zy3]
 unfold okD at ho
 rw[e1] at ho
 unfold inLD
 rw[ht]
 simp only[e1]
 rw[z7b ⟨hs,ho⟩,List.any_map]
 rfl
theorem zv7 {p:Pg} (hz:size p≤16) {t:D} (o:Odd p t) (m:Mem):zcg [.d (pgD p),.d t] m = .ok (.d (.bl false)) m:=by
 cases o with
 |nt h=>
  have h:(DL.ob (tagD t) fun x=>Option.map D.bl (isfT z5g x))=_:=h
  generalize pgD p=P at *
  simp[zcg,zfi,zmf,h]
 | @len ds h hz2=>
   have h2:lnW [] (.d (.tup ds)) m = .ok (.d (.int (ds.length:Int))) m:=rfl
   have h3:¬((ds.length:Int)=3):=by omega
   generalize pgD p=P at *
   simp[zcg,zfi,zmf,is_tt,h2,zwv,h3]
 | @b a b c h=>
   have h2:lnW [] (.d (.tup [a,b,c])) m = .ok (.d (.int 3)) m:=rfl
   have tn:=fun P T=>zu8 (P:=P) (T:=T) m h
   have el:∀P T x2,loopD (gNm 2) zde [b,c] [some P,some T,x2] m = .rt (.d (.bl false)) m:=fun P T x2=>by
    unfold loopD
    have e1:gNm 2 (.d b) [some P,some T,x2]=some [some P,some T,some (.d b)]:=rfl
    rw[e1]
    simp only[tn]
   generalize pgD p=P at *
   simp[zcg,zfi,zmf,is_tt,h2,zwv,slt3,el]
 | @c a c i h=>
   have h2:lnW [] (.d (.tup [a,.int i,c])) m = .ok (.d (.int 3)) m:=rfl
   have tn:=fun P T=>zu8 (P:=P) (T:=T) m h
   have el:∀P T x2,loopD (gNm 2) zde [.int i,c] [some P,some T,x2] m = .rt (.d (.bl false)) m:=fun P T x2=>by
    rw[zgk (dl1:=[some P,some T,some (.d (.int i))]) rfl (z9u m)]
    unfold loopD
    have e1:gNm 2 (.d c) [some P,some T,some (.d (.int i))]=some [some P,some T,some (.d c)]:=rfl
    rw[e1]
    simp only[tn]
   generalize pgD p=P at *
   simp[zcg,zfi,zmf,is_tt,h2,zwv,slt3,el]
 | @no a i j pa ha hs h=>
   obtain⟨ms,pm,_,em⟩:=za0 hz m
   have h2:lnW [] (.d (.tup [a,.int i,.int j])) m = .ok (.d (.int 3)) m:=rfl
   have el:∀P T x2,loopD (gNm 2) zde [.int i,.int j] [some P,some T,x2] m = .nx [some P,some T,some (.d (.int j))] m:=fun P T x2=>by
    rw[zgk (dl1:=[some P,some T,some (.d (.int i))]) rfl (z9u m),zgk (dl1:=[some P,some T,some (.d (.int j))]) rfl (z9u m)]
    rfl
   have ei:=in_mn pm (t:=.tup [a,.int i,.int j]) (pt:=.tuple [pa,.int i,.int j]) (by simp only[toP,toPs,ha]) hs
   have en:(ms.any fun x=>PyData.eqv (mnP x) (.tuple [pa,.int i,.int j]))=false:=List.any_eq_false.mpr fun x hx=>by rw[h x (pm.subset hx)];exact Bool.false_ne_true
   rw[en] at ei
   generalize ms.map mnD=MM at *
   generalize pgD p=P at *
   simp[zcg,zfi,zmf,is_tt,h2,zwv,slt3,el,em,ei]
theorem zg4 {p:Pg} (hz:size p≤16) {x:Mn} (hx:x∈mns p) (m:Mem):zcg [.d (pgD p),.d (mnD x)] m = .ok (.d (.bl true)) m:=by
 obtain⟨ms,pm,_,em⟩:=za0 hz m
 have h2:lnW [] (mnD x |> W.d) m = .ok (.d (.int 3)) m:=rfl
 have el:∀P T x2,loopD (gNm 2) zde [.int (x.2.1:Int),.int (x.2.2:Int)] [some P,some T,x2] m = .nx [some P,some T,some (.d (.int (x.2.2:Int)))] m:=fun P T x2=>by
  rw[zgk (dl1:=[some P,some T,some (.d (.int (x.2.1:Int)))]) rfl (z9u m),zgk (dl1:=[some P,some T,some (.d (.int (x.2.2:Int)))]) rfl (z9u m)]
  rfl
 have hs:SeqAt.shaped (mnP x)=true:=by
  have:=(znab x (z79 hx)).ok (by decide)
  exact this
 have ei:=in_mn pm (t:=mnD x) (pt:=mnP x) rfl hs
 have en:(ms.any fun y=>PyData.eqv (mnP y) (mnP x))=true:=List.any_eq_true.mpr ⟨x,pm.symm.subset hx,SeqAt.eqv_refl _ (SeqAt.canLay_of_shaped hs)⟩
 rw[en] at ei
 have sl:slD (mnD x) (some 1) none=some (.tup [.int (x.2.1:Int),.int (x.2.2:Int)]):=rfl
 have h1:(DL.ob (tagD (mnD x)) fun x=>Option.map D.bl (isfT z5g x))=some (.bl true):=zxib _
 generalize ms.map mnD=MM at *
 generalize mnD x=T at *
 generalize pgD p=P at *
 simp[zcg,zfi,zmf,h1,h2,zwv,sl,el,em,ei]
/-- may be compared and told -/
def chkT (t:D):Bool:=okD t&&(match toP t with |some p=>shOk 27 p |none=>false)
theorem z80 {t:D} (h:chkT t=true):okD t=true∧∃p,toP t=some p∧shOk 27 p=true:=by
 unfold chkT at h
 rw[Bool.and_eq_true] at h
 refine⟨h.1,?_⟩
 cases hp:toP t with
 |none=>rw[hp] at h;cases h.2
 |some p=>rw[hp] at h;exact⟨p,rfl,h.2⟩
/-- what the law asks: no mend, may be compared and told -/
structure OddT (p:Pg) (t:D):Prop where
 o:Odd p t
 k:chkT t=true
 b:∃b,isBo t b
theorem z99 {p:Pg} (hz:size p≤16) {t:D} (o:OddT p t) (m:Mem):z8i [.d (pgD p),.d t] m = .exc "BadMend" "mend" t m:=by
 have e:=zv7 hz o.o m
 obtain⟨_,pt,h1,h2⟩:=z80 o.k
 generalize pgD p=P at *
 simp[z8i,z4u,zep,e,raW,h1,h2]
theorem zo7 {p:Pg} (hz:size p≤16) {t:D} (o:OddT p t) (m:Mem):z7h [.d (pgD p),.d t] m = .ok (.d (.bl true)) m:=by
 have e:=z99 hz o m
 obtain⟨b,hb⟩:=o.b
 have hb:(DL.ob (tagD t) fun x=>Option.map D.bl (isfT zge x))=_:=hb
 have er:=zbeb (z80 o.k).1
 have e2:eqD (.bl b) (.bl b)=some (.bl true):=by cases b <;> rfl
 generalize pgD p=P at *
 have lk:lookB zec "BadMend" = some true:=by with_unfolding_all rfl
 simp[z7h,zcl,zni,zhn,zig,e,hb,er,e2,lk]
end LK
namespace LK
open PySem PySem.Spec L2 DL TM SX NT PG
section
variable (K F:Int) (SK:Str)
def oA:List D:=[.non,.bl true,.str "dedent",.lst [.str "dedent",.int K,.int 0],.tup [.str "dedent",.int K],.tup [.str "dedent",.int K,.int 0,.int 0],.tup [],.tup [.str "in",.int F,.int 1]]
def oB:List D:=[.tup [.str "dedent",.bl false,.int 0],.tup [.str "dedent",.int K,.bl false],.tup [.str "in",.int K,.bl true],.tup [.str "in",.bl false,.int 1]]
def oC:List D:=[.tup [.str "in",.int K,.int 0],.tup [.str "in",.int K,.int 5],.tup [.str "dedent",.int F,.int 0],.tup [.str "dedent",.int (-1),.int 0],.tup [.str "tag",.int K,.int 0]]
def oD:List D:=[.tup [.str "out",.int K,.int 1],.tup [.tup [.str "dedent"],.int K,.int 0],.tup [.str "dedent",.int K,.int 1],.tup [.str "in",.int (-1),.int 2],.tup [.str "in",.int K,.int (-1)]]
def oE:List D:=[.tup [.str "in",.int K,.str "1"],.tup [.str "dedent",.str SK,.int 0],.tup [.int K,.str "dedent",.int 0],.tup [.str "drop",.int K,.int 1],.tup [.str "drop",.int F,.int 0]]
def oF:List D:=[.tup [.str "drop",.int (-1),.int 0],.tup [.str "Dedent",.int K,.int 0],.tup [.str "in",.int K,.int 10000000000000000000],.tup [.str "in",.int K,.tup [.int 1]],.tup [.str "drop",.int K,.non]]
def oH (v:Int):List D:=[.tup [.str "dedent",.int K,.int 0],.tup [.str "in",.int K,.int (1+v)]]
end
def oG (j:Nat) (q:Pg):List D:=if isDrp q.lab=true then [] else [.tup [.str "drop",.int (j:Int),.int 0]]
def oGs (p:Pg):List D:=(parts p).zipIdx.flatMap fun x=>oG x.2 x.1
def ndrL:List Str:=["fixed", "hole", "each", "sum", "tag", "raw"]
theorem ndr_d:∀l:Lab,decide (l.w∈ndrL) = !isDrp l
 |.fixed _=>(by decide:decide (Str.ofString "fixed" ∈ ndrL)=true)
 |.hole _=>(by decide:decide (Str.ofString "hole" ∈ ndrL)=true)
 |.each _=>(by decide:decide (Str.ofString "each" ∈ ndrL)=true)
 |.sum=>(by decide:decide (Str.ofString "sum" ∈ ndrL)=true)
 |.sh .in_ _=>(by decide:decide (Str.ofString "in" ∈ ndrL)=false)
 |.sh .out _=>(by decide:decide (Str.ofString "out" ∈ ndrL)=false)
 |.sh .first _=>(by decide:decide (Str.ofString "first" ∈ ndrL)=false)
 |.sh .rest _=>(by decide:decide (Str.ofString "rest" ∈ ndrL)=false)
 |.ded=>(by decide:decide (Str.ofString "dedent" ∈ ndrL)=false)
 |.flu=>(by decide:decide (Str.ofString "flush" ∈ ndrL)=false)
 |.tg true _=>(by decide:decide (Str.ofString "tag" ∈ ndrL)=true)
 |.tg false _=>(by decide:decide (Str.ofString "raw" ∈ ndrL)=true)
theorem ndr_w (l:Lab):inTD (.str l.w) (.tup [.str "fixed",.str "hole",.str "each",.str "sum",.str "tag",.str "raw"])=some (.bl (!isDrp l)):=by
 have:=zj4 l.w ndrL
 rw[ndr_d] at this
 exact this
/-- x + y, y a new list: a new cell at the end -/
theorem zrz (r0:Mem) {r:Mem} (hs:List HC) (A B:List D) (hr:∃X,r=r0++X) (h:A.length+B.length≤sizeLine):∃r':Mem,(∀hs:List HC,addCW (.c (r.length+1)) (.d (.lst B)) (.hp hs::(r++[.lst A])) = .ok (.c (r'.length+1)) (.hp hs::(r'++[.lst (A++B)])))∧∃X,r'=r0++X:=by
 obtain⟨X,rfl⟩:=hr
 refine⟨r0++X++[.lst A],fun hs=>?_,X++[.lst A],by simp⟩
 have rd:=LK.rd_c hs (r0++X) A
 unfold addCW
 rw[rd]
 simp only[DL.rd_d]
 rw[if_pos h]
 simp
theorem pow19:powD (.int 10) (.int 19)=some (.int 10000000000000000000):=by
 show chk _ _=_
 rw[z7b ⟨by decide,by decide,by decide⟩]
 rfl
theorem zbfb (j:Nat) (q:Pg):(oG j q).length≤1:=by
 unfold oG
 split <;> simp
theorem zddb {p:Pg} (hs:List HC) (r:Mem) (A:List D) (X0 X1 X3 X4 X6:Option W) (q:Pg) (j:Nat) (hq:(parts p)[j]?=some q) (hA:A.length≤1000):zwg [X0,X1,some (.d (.lst ((parts p).map tcD))),X3,X4,some (.c (r.length+1)),some (.d (.int (j:Int)))] (.hp hs::(r++[.lst A])) = .nx [X0,X1,some (.d (.lst ((parts p).map tcD))),X3,X4,some (.c (r.length+1)),some (.d (.int (j:Int)))] (.hp hs::(r++[.lst (A++oG j q)])):=by
 have ix:∀m:Mem,ixW gB (.d (.lst ((parts p).map tcD))) (.d (.int (j:Int))) m = .ok (.d (tcD q)) m:=fun m=>by
  have e2:ixD (.lst ((parts p).map tcD)) (.int (j:Int))=some (tcD q):=by
   show atI ((parts p).map tcD) (j:Int)=_
   rw[DL.atI_nat,List.getElem?_map,hq]
   rfl
  have:ixW gB (.d (.lst ((parts p).map tcD))) (.d (.int (j:Int))) m=ofO (ixD (.lst ((parts p).map tcD)) (.int (j:Int))) m:=rfl
  rw[this,e2]
  rfl
 have ew:=zjg q
 have en:=ndr_w q.lab
 have ty:=tyc_c (A:=A) hs r
 have ap:=zq3 (A:=A) (d:=.tup [.str "drop",.int (j:Int),.int 0]) hs r (by unfold sizeLine;omega)
 unfold oG
 by_cases hd:isDrp q.lab=true
 ·rw[if_pos hd]
  rw[hd] at en
  generalize (parts p).map tcD=PP at *
  generalize tcD q=Q at *
  generalize q.lab.w=W0 at *
  simp[zwg,ix,ew,en]
 ·have hd:isDrp q.lab=false:=by simpa using hd
  rw[hd,if_neg Bool.false_ne_true]
  rw[hd] at en
  generalize (parts p).map tcD=PP at *
  generalize tcD q=Q at *
  generalize q.lab.w=W0 at *
  simp[zwg,ix,ew,en,ty,ap]
theorem zojb {i n:Nat} {hs:List HC} {p:Pg} (r:Mem) (hz:size p≤16) (g:GoodC p) (h:CSt i (n+3) hs):∃(k f:Nat) (v:Int) (hs':List HC) (ds:List D),z9l [.h i,.d (tcD p)] (.hp hs::r) = .ok (.d (.lst ds)) (.hp hs'::r) ∧
  (ds=oA k f++oB k++oC k f++oD k++oE k f (S (dec3 k))++oF k++oGs p++(if size p=16 then oH k v else []))∧(k<size p∧size p≤f∧f≤size p+2∧0≤v∧v<4)∧CSt i n hs':=by
 have hp:=zhm p
 have hp1:=zct p
 have ep:=zz1 (by omega) g (.hp hs::r)
 obtain⟨k',hs1,e1,⟨k0,k1⟩,h1,_⟩:=z1g (n:=n+2) (q:=(size p:Int)) r h (by omega) (by omega)
 obtain⟨f',hs2,e2,⟨f0,f1⟩,h2,_⟩:=z1g (n:=n+1) (q:=3) r h1 (by decide) (by decide)
 obtain⟨k,rfl⟩:∃k:Nat,k'=(k:Int):=⟨k'.toNat,by omega⟩
 obtain⟨f,hf⟩:∃f:Nat,(size p:Int)+f'=(f:Int):=⟨((size p:Int)+f').toNat,by omega⟩
 have ln:∀m:Mem,lnW [("Block",zi)] (.d (.lst ((parts p).map tcD))) m = .ok (.d (.int (size p:Int))) m:=fun m=>by rw[ziq,List.length_map,PG.z9c]
 have ef:addD (.int (size p:Int)) (.int f')=some (.int (f:Int)):=by rw[←hf];rfl
 have mk:mkCel ((oA k f).map W.d) (.hp hs2::r) = .ok (.c (r.length+1)) (.hp hs2::(r++[.lst (oA k f)])):=by
  unfold mkCel
  simp[oA,z9f]
 obtain⟨A0,h0⟩:∃A0,A0=oA k f:=⟨_,rfl⟩
 have l0:A0.length≤40:=by rw[h0];simp[oA]
 obtain⟨r1,a1,x1⟩:=zrz r (r:=r) hs2 A0 (oB k) ⟨[],by simp⟩ (by simp[oB];unfold sizeLine;omega)
 obtain⟨A1,g1⟩:∃A1,A1=A0++oB k:=⟨_,rfl⟩
 have l1:A1.length≤50:=by rw[g1];simp[oB];omega
 rw[←g1] at a1
 obtain⟨r2,a2,x2⟩:=zrz r hs2 A1 (oC k f) x1 (by simp[oC];unfold sizeLine;omega)
 obtain⟨A2,g2⟩:∃A2,A2=A1++oC k f:=⟨_,rfl⟩
 have l2:A2.length≤60:=by rw[g2];simp[oC];omega
 rw[←g2] at a2
 obtain⟨r3,a3,x3⟩:=zrz r hs2 A2 (oD k) x2 (by simp[oD];unfold sizeLine;omega)
 obtain⟨A3,g3⟩:∃A3,A3=A2++oD k:=⟨_,rfl⟩
 have l3:A3.length≤70:=by rw[g3];simp[oD];omega
 rw[←g3] at a3
 obtain⟨r4,a4,x4⟩:=zrz r hs2 A3 (oE k f (S (dec3 k))) x3 (by simp[oE];unfold sizeLine;omega)
 obtain⟨A4,g4⟩:∃A4,A4=A3++oE k f (S (dec3 k)):=⟨_,rfl⟩
 have l4:A4.length≤80:=by rw[g4];simp[oE];omega
 rw[←g4] at a4
 obtain⟨r5,a5,x5⟩:=zrz r hs2 A4 (oF k) x4 (by simp[oF];unfold sizeLine;omega)
 obtain⟨A5,hA5⟩:∃A5,A5=A4++oF k:=⟨_,rfl⟩
 have l5:A5.length≤90:=by rw[hA5];simp[oF];omega
 rw[←hA5] at a5
 have eA5:A5=oA k f++oB k++oC k f++oD k++oE k f (S (dec3 k))++oF k:=by rw[hA5,g4,g3,g2,g1,h0]
 have mk:mkCel [.d .non,.d (.bl true),.d (.str "dedent"),.d (.lst [.str "dedent",.int (k:Int),.int 0]),.d (.tup [.str "dedent",.int (k:Int)]),.d (.tup [.str "dedent",.int (k:Int),.int 0,.int 0]),.d (.tup []),.d (.tup [.str "in",.int (f:Int),.int 1])] (.hp hs2::r) = .ok (.c (r.length+1)) (.hp hs2::(r++[.lst A0])):=by
  rw[h0]
  exact mk
 -- the loop over the parts
 have lp:(parts p).length=size p:=PG.z9c p
 have er:rngB (.ok [.d (.int (size p:Int))] (.hp hs2::(r5++[.lst A5]))) = .ok (rngD 0 (size p)) (.hp hs2::(r5++[.lst A5])):=by
  have:=z2z (j:=(size p:Int)) (m:=.hp hs2::(r5++[.lst A5])) (by omega) (by omega)
  rw[Int.toNat_natCast] at this
  exact this
 have erd:rngD 0 (size p)=(parts p).zipIdx.map fun x=>D.int (x.2:Int):=by
  rw[←lp]
  refine List.ext_getElem? fun j=>?_
  unfold rngD
  simp only[List.getElem?_map,List.getElem?_zipIdx]
  by_cases hj:j<(parts p).length
  ·rw[List.getElem?_eq_getElem hj]
   simp[hj]
  ·rw[List.getElem?_eq_none (show (parts p).length≤j by omega)]
   simp
   omega
 obtain⟨dl2,m2,el,done,rest,x6,hd,hpz,rfl,rfl⟩:=zyh (g:=gNm 6) (b:=zwg) (fun ds dl m'=>∃(done rest:List (Pg × Nat)) (x6:Option W),ds=rest.map (fun x=>D.int (x.2:Int))∧(parts p).zipIdx=done++rest∧dl=[some (.h i),some (.d (tcD p)),some (.d (.lst ((parts p).map tcD))),some (.d (.int (k:Int))),some (.d (.int (f:Int))),some (.c (r5.length+1)),x6]∧m' = .hp hs2::(r5++[.lst (A5++done.flatMap fun x=>oG x.2 x.1)])) (fun d ds dl m' hI=>by
  obtain⟨done,rest,x6,hd,hpz,rfl,rfl⟩:=hI
  cases rest with
  |nil=>cases hd
  |cons q rest=>
   rw[List.map_cons] at hd
   injection hd with q1 q2
   subst q1
   have hl:done.length≤16:=by
    have:((parts p).zipIdx).length=(parts p).length:=by simp
    rw[hpz,List.length_append] at this
    omega
   have hl2:(done.flatMap fun x=>oG x.2 x.1).length≤done.length:=by
    clear hpz hl
    induction done with
    |nil=>simp
    |cons y ys ih=>rw[List.flatMap_cons,List.length_append,List.length_cons];have:=zbfb y.2 y.1;omega
   have hq:(parts p)[q.2]?=some q.1:=List.mem_zipIdx_iff_getElem?.mp (by rw[hpz];simp)
   have e:=zddb (p:=p) hs2 r5 (A5++done.flatMap fun x=>oG x.2 x.1) (some (.h i)) (some (.d (tcD p))) (some (.d (.int (k:Int)))) (some (.d (.int (f:Int)))) none q.1 q.2 hq (by rw[List.length_append];omega)
   exact⟨_,rfl,_,_,e,done++[q],rest,_,q2,by rw[hpz];simp,rfl,by simp⟩) (rngD 0 (size p)) [some (.h i),some (.d (tcD p)),some (.d (.lst ((parts p).map tcD))),some (.d (.int (k:Int))),some (.d (.int (f:Int))),some (.c (r5.length+1)),none] (.hp hs2::(r5++[.lst A5])) ⟨[],(parts p).zipIdx,none,erd,rfl,rfl,by simp⟩
 have hr:rest=[]:=by
  cases rest with
  |nil=>rfl
  |cons=>cases hd
 subst hr
 rw[List.append_nil] at hpz
 rw[←hpz] at el
 have el:loopD (gNm 6) zwg (rngD 0 (size p)) [some (.h i),some (.d (tcD p)),some (.d (.lst ((parts p).map tcD))),some (.d (.int (k:Int))),some (.d (.int (f:Int))),some (.c (r5.length+1)),none] (.hp hs2::(r5++[.lst A5])) = .nx [some (.h i),some (.d (tcD p)),some (.d (.lst ((parts p).map tcD))),some (.d (.int (k:Int))),some (.d (.int (f:Int))),some (.c (r5.length+1)),x6] (.hp hs2::(r5++[.lst (A5++oGs p)])):=el
 have l6:(A5++oGs p).length≤200:=by
  have h1:∀xs:List (Pg × Nat),(xs.flatMap fun x=>oG x.2 x.1).length≤xs.length:=fun xs=>by
   induction xs with
   |nil=>simp
   |cons y ys ih=>rw[List.flatMap_cons,List.length_append,List.length_cons];have:=zbfb y.2 y.1;omega
  have:=h1 (parts p).zipIdx
  rw[List.length_zipIdx] at this
  rw[List.length_append]
  unfold oGs
  omega
 have es:=zz3 (n:=k) (by omega)
 have c6:∀m:Mem,clsOf (.d (.int (k:Int))) m=none:=fun m=>rfl
 have ec:=pow19
 have tkk:∀(rr:Mem) (hs3:List HC) (c:Cell),(∃X,rr=r++X)→(Cell.hp hs3::(rr++[c])).take (r.length+1) = .hp hs3::r:=fun rr hs3 c ⟨X,hX⟩=>by rw[hX];simp
 have frzE:∀(rr:Mem) (hs3:List HC) (A:List D),(∃X,rr=r++X)→frz (r.length+1) (.c (rr.length+1)) (.hp hs3::(rr++[.lst A])) = .ok (.d (.lst A)) (.hp hs3::r):=fun rr hs3 A hX=>by
  have t:=tkk rr hs3 (.lst A) hX
  obtain⟨X,rfl⟩:=hX
  have g:=get_c hs3 (r++X) (.lst A)
  unfold frz
  show (if (r++X).length+1<r.length+1 then Res.ok (W.c ((r++X).length+1)) ((Cell.hp hs3::(r++X++[Cell.lst A])).take (r.length+1)) else (match (Cell.hp hs3::(r++X++[Cell.lst A]))[(r++X).length+1]? with
   |some c=>Res.ok (W.d c.fz) ((Cell.hp hs3::(r++X++[Cell.lst A])).take (r.length+1))
   |none=>.no))=_
  rw[if_neg (by simp),g,t]
  rfl
 have a1:=a1 hs2
 have a2:=a2 hs2
 have a3:=a3 hs2
 have a4:=a4 hs2
 have a5:=a5 hs2
 unfold oB at a1
 unfold oC at a2
 unfold oD at a3
 unfold oE at a4
 unfold oF at a5
 have z2:∀n:Nat,n≤30→n≤sizeLine:=fun n h=>by unfold sizeLine;omega
 by_cases h16:size p=16
 ·have h16':(size p:Int)=16:=by omega
  obtain⟨v,hs3,e3,⟨v0,v1⟩,h3,_⟩:=z1g (n:=n) (q:=4) (r5++[.lst (A5++oGs p)]) h2 (by decide) (by decide)
  obtain⟨r6,a6,x6'⟩:=zrz r hs2 (A5++oGs p) (oH k v) x5 (by simp[oH] at *;unfold sizeLine;omega)
  have a6:=a6 hs3
  unfold oH at a6
  refine⟨k,f,v,hs3,A5++oGs p++oH k v,?_,by rw[if_pos h16,eA5],⟨by omega,by omega,by omega,v0,v1⟩,h3⟩
  have fz:=frzE r6 hs3 (A5++oGs p++oH k v) x6'
  unfold oH at fz ⊢
  clear frzE tkk l6 l5 hA5 x1 x2 x3 x4 x5 x6' hd hpz erd h h1 h2 h3 hp hp1 lp hz g k0 k1 f0 f1 v0 v1 hf h16 eA5 g1 g2 g3 g4 h0 l0 l1 l2 l3 l4
  generalize (parts p).map tcD=PP at *
  generalize rngD 0 (size p)=RR at *
  generalize tcD p=P at *
  rw[h16'] at e1 ef er
  have ln:∀m:Mem,lnW [("Block",zi)] (.d (.lst PP)) m = .ok (.d (.int 16)) m:=fun m=>by rw[ln,h16']
  generalize A5++oGs p=A6 at *
  generalize S (dec3 k)=SK at *
  generalize (k:Int)=K at *
  generalize (f:Int)=F at *
  have ev:addD (.int 1) (.int v)=some (.int (1+v)):=rfl
  simp[-add_int,z9l,zkp,zjk,ep,ln,e1,e2,ef,z2,mk,a1,a2,a3,a4,a5,es,c6,ec,er,el,zyd,e3,ev,a6,fz]
 ·have h16':¬(size p:Int)=16:=by omega
  refine⟨k,f,0,hs2,A5++oGs p,?_,by rw[if_neg h16,eA5,List.append_nil],⟨by omega,by omega,by omega,by decide,by decide⟩,h2.mono (by omega)⟩
  have fz:=frzE r5 hs2 (A5++oGs p) x5
  clear frzE tkk l6 l5 hA5 x1 x2 x3 x4 x5 hd hpz erd h h1 h2 hp hp1 lp hz g k0 k1 f0 f1 hf h16 eA5 g1 g2 g3 g4 h0 l0 l1 l2 l3 l4
  generalize (parts p).map tcD=PP at *
  generalize rngD 0 (size p)=RR at *
  generalize tcD p=P at *
  generalize (size p:Int)=Z at *
  generalize A5++oGs p=A6 at *
  generalize S (dec3 k)=SK at *
  generalize (k:Int)=K at *
  generalize (f:Int)=F at *
  simp[-add_int,z9l,zkp,zjk,ep,ln,e1,e2,ef,z2,mk,a1,a2,a3,a4,a5,es,c6,ec,er,el,zyd,h16',fz]
end LK
namespace LK
open PySem PySem.Spec L2 DL TM SX NT PG
def oAll (k f:Nat):List D:=oA k f++oB k++oC k f++oD k++oE k f (S (dec3 k))++oF k
theorem z4kb {k f:Nat} (hk:k<16) (hf:f<19):∀d∈oAll k f,chkT d=true:=by
 have key:∀k:Fin 16,∀f:Fin 19,(oAll k.val f.val).all chkT=true:=by decide +kernel
 exact List.all_eq_true.mp (key ⟨k,hk⟩ ⟨f,hf⟩)
theorem z8hb {j:Nat} (hj:j<16):chkT (.tup [.str "drop",.int (j:Int),.int 0])=true:=by
 have key:∀j:Fin 16,chkT (.tup [.str "drop",.int ((j.val:Nat):Int),.int 0])=true:=by decide +kernel
 exact key ⟨j,hj⟩
theorem ck_oH {k:Nat} {v:Int} (hk:k<16) (v0:0≤v) (v1:v<4):∀d∈oH k v,chkT d=true:=by
 have key:∀k:Fin 16,∀v:Fin 4,(oH k.val ((v.val:Nat):Int)).all chkT=true:=by decide +kernel
 have:=List.all_eq_true.mp (key ⟨k,hk⟩ ⟨v.toNat,by omega⟩)
 rw[show (((⟨v.toNat,by omega⟩:Fin 4).val:Nat):Int)=v by show ((v.toNat:Nat):Int)=v;omega] at this
 exact this
theorem zqjb {x:Mn} {w:Str} {i j:Int} (h:¬(x.1=w∧(x.2.1:Int)=i∧(x.2.2:Int)=j)):PyData.eqv (mnP x) (.tuple [.str w,.int i,.int j])=false:=by
 show (x.1==w&&((x.2.1:Int)==i&&((x.2.2:Int)==j&&true)))=false
 by_cases h1:x.1=w
 ·by_cases h2:(x.2.1:Int)=i
  ·by_cases h3:(x.2.2:Int)=j
   ·exact absurd ⟨h1,h2,h3⟩ h
   ·have:((x.2.2:Int)==j)=false:=beq_eq_false_iff_ne.mpr h3
    rw[this];simp
  ·have:((x.2.1:Int)==i)=false:=beq_eq_false_iff_ne.mpr h2
   rw[this];simp
 ·have:(x.1==w)=false:=beq_eq_false_iff_ne.mpr h1
  rw[this];simp
theorem odd_w {p:Pg} {w:Str} {i j:Int} (hk:chkT (.tup [.str w,.int i,.int j])=true) (h:∀x∈mns p,¬(x.1=w∧(x.2.1:Int)=i∧(x.2.2:Int)=j)):OddT p (.tup [.str w,.int i,.int j]):=
 ⟨.no (pa:=.str w) rfl (z80 hk).1 fun x hx=>zqjb (h x hx),hk,false,zlk _⟩
theorem odd_t {p:Pg} {w:Str} {i j:Int} (hk:chkT (.tup [.tup [.str w],.int i,.int j])=true):OddT p (.tup [.tup [.str w],.int i,.int j]):=
 ⟨.no (pa:=.tuple [.str w]) rfl (z80 hk).1 fun x hx=>rfl,hk,false,zlk _⟩
/-- a told mend is other than this one -/
theorem oth {p:Pg} {w:Str} {i j:Int} (h:¬(0≤i∧i<size p)∨(¬(w = "dedent" ∧ j=0∧size p<16)∧¬(w = "in" ∧ 1≤j∧j≤4∧size p<16)∧¬(w = "drop" ∧ j=0∧∃q,(parts p)[i.toNat]?=some q∧isDrp q.lab=true))):∀x∈mns p,¬(x.1=w∧(x.2.1:Int)=i∧(x.2.2:Int)=j):=fun x hx ⟨h1,h2,h3⟩=>by
 obtain⟨a,b⟩:=z63 hx
 rcases h with h |⟨p1,p2,p3⟩
 ·exact h ⟨by omega,by omega⟩
 ·rcases b with ⟨e,e2,e3⟩ |⟨e,e2,e3,e4⟩ |⟨e,e2,q,e3,e4⟩
  ·exact p1 ⟨h1 ▸ e,by omega,e3⟩
  ·exact p2 ⟨h1 ▸ e,by omega,by omega,e4⟩
  ·exact p3 ⟨h1 ▸ e,by omega,q,by rw[←h2,Int.toNat_natCast];exact e3,e4⟩
theorem zgib {p:Pg} {k f:Nat} {v:Int} (hz:size p≤16) (hk:k<size p) (hf:size p≤f) (hf2:f≤size p+2) (v0:0≤v) (v1:v<4):∀d∈oAll k f++oGs p++(if size p=16 then oH k v else []),OddT p d:=fun d hd=>by
 have far:¬(0≤(f:Int)∧(f:Int)<size p):=by omega
 have neg:¬(0≤(-1:Int)∧(-1:Int)<size p):=by omega
 rcases List.mem_append.mp hd with hd |hd
 ·rcases List.mem_append.mp hd with hd |hd
  ·have ck:=z4kb (k:=k) (f:=f) (by omega) (by omega) d hd
   unfold oAll oA oB oC oD oE oF at hd
   simp only[List.cons_append,List.nil_append,List.mem_cons,List.not_mem_nil,or_false] at hd
   have bi:NotI (.bl false):=.inr ⟨in_bl _,bo_bl _⟩
   have bt:NotI (.bl true):=.inr ⟨in_bl _,bo_bl _⟩
   rcases hd with rfl |rfl |rfl |rfl |rfl |rfl |rfl |rfl |rfl |rfl |rfl |rfl |rfl |rfl |rfl |rfl |rfl |rfl |rfl |rfl |rfl |rfl |rfl |rfl |rfl |rfl |rfl |rfl |rfl |rfl |rfl |rfl
   ·exact⟨.nt zzib,ck,_,z7kb⟩
   ·exact⟨.nt (tu_bl _),ck,_,bo_bl _⟩
   ·exact⟨.nt (zyib _),ck,_,z6kb _⟩
   ·exact⟨.nt (z0ib _),ck,_,z8kb _⟩
   ·exact⟨.len (by simp) (by simp),ck,_,zlk _⟩
   ·exact⟨.len (by simp) (by simp),ck,_,zlk _⟩
   ·exact⟨.len (by simp) (by simp),ck,_,zlk _⟩
   ·exact odd_w ck (oth (.inl far))
   ·exact⟨.b bi,ck,_,zlk _⟩
   ·exact⟨.c bi,ck,_,zlk _⟩
   ·exact⟨.c bt,ck,_,zlk _⟩
   ·exact⟨.b bi,ck,_,zlk _⟩
   ·exact odd_w ck (oth (.inr ⟨fun z=>absurd z.1 (by decide),fun z=>absurd z.2.1 (by decide),fun z=>absurd z.1 (by decide)⟩))
   ·exact odd_w ck (oth (.inr ⟨fun z=>absurd z.1 (by decide),fun z=>absurd z.2.2.1 (by decide),fun z=>absurd z.1 (by decide)⟩))
   ·exact odd_w ck (oth (.inl far))
   ·exact odd_w ck (oth (.inl neg))
   ·exact odd_w ck (oth (.inr ⟨fun z=>absurd z.1 (by decide),fun z=>absurd z.1 (by decide),fun z=>absurd z.1 (by decide)⟩))
   ·exact odd_w ck (oth (.inr ⟨fun z=>absurd z.1 (by decide),fun z=>absurd z.1 (by decide),fun z=>absurd z.1 (by decide)⟩))
   ·exact odd_t ck
   ·exact odd_w ck (oth (.inr ⟨fun z=>absurd z.2.1 (by decide),fun z=>absurd z.1 (by decide),fun z=>absurd z.1 (by decide)⟩))
   ·exact odd_w ck (oth (.inl neg))
   ·exact odd_w ck (oth (.inr ⟨fun z=>absurd z.1 (by decide),fun z=>absurd z.2.1 (by decide),fun z=>absurd z.1 (by decide)⟩))
   ·exact⟨.c (.inl (in_str _)),ck,_,zlk _⟩
   ·exact⟨.b (.inl (in_str _)),ck,_,zlk _⟩
   ·exact⟨.b (.inl (in_str _)),ck,_,zlk _⟩
   ·exact odd_w ck (oth (.inr ⟨fun z=>absurd z.1 (by decide),fun z=>absurd z.1 (by decide),fun z=>absurd z.2.1 (by decide)⟩))
   ·exact odd_w ck (oth (.inl far))
   ·exact odd_w ck (oth (.inl neg))
   ·exact odd_w ck (oth (.inr ⟨fun z=>absurd z.1 (by decide),fun z=>absurd z.1 (by decide),fun z=>absurd z.1 (by decide)⟩))
   ·exact odd_w ck (oth (.inr ⟨fun z=>absurd z.1 (by decide),fun z=>absurd z.2.2.1 (by decide),fun z=>absurd z.1 (by decide)⟩))
   ·exact⟨.c (.inl (zekb _)),ck,_,zlk _⟩
   ·exact⟨.c (.inl zfkb),ck,_,zlk _⟩
  ·unfold oGs at hd
   obtain⟨⟨q,j⟩,hq,hx⟩:=List.mem_flatMap.mp hd
   have hk:=List.mem_zipIdx_iff_getElem?.mp hq
   have hl:=(List.getElem?_eq_some_iff.mp hk).1
   rw[PG.z9c] at hl
   unfold oG at hx
   split at hx
   ·cases hx
   ·rename_i hnd
    rw[List.mem_singleton] at hx
    subst hx
    refine odd_w (z8hb (by omega)) (oth (.inr ⟨fun z=>absurd z.1 (by decide),fun z=>absurd z.1 (by decide),fun⟨_,_,q',h1,h2⟩=>?_⟩))
    rw[Int.toNat_natCast] at h1
    have h3:q'=q:=Option.some.inj (h1.symm.trans hk)
    rw[h3] at h2
    exact hnd h2
 ·split at hd
  ·rename_i h16
   have ck:=ck_oH (by omega) v0 v1 d hd
   unfold oH at hd
   simp only[List.mem_cons,List.not_mem_nil,or_false] at hd
   rcases hd with rfl |rfl
   ·exact odd_w ck (oth (.inr ⟨fun z=>by omega,fun z=>absurd z.1 (by decide),fun z=>absurd z.1 (by decide)⟩))
   ·exact odd_w ck (oth (.inr ⟨fun z=>absurd z.1 (by decide),fun z=>by omega,fun z=>absurd z.1 (by decide)⟩))
  ·cases hd
end LK
namespace LK
open PySem PySem.Spec L2 DL TM SX NT PG
def mdD (w:Str) (k n:Nat):D:=.tup [.str w,.int (k:Int),.int (n:Int)]
def MdOk (p:Pg) (w:Str) (k:Nat):Prop:=k<size p∧(w=Str.ofString "dedent" ∨ w=Str.ofString "in" ∨ (w=Str.ofString "drop" ∧ ∃q,(parts p)[k]?=some q∧isDrp q.lab=true))
theorem z1hb {p:Pg} (g:GoodC p) (h:isDrp p.lab=true):∃q,p.ms=[q]:=by
 have g0:=g.here
 obtain⟨l,ms⟩:=p
 cases l with
 |sh w n=>obtain⟨_,q,e⟩:=g0;exact⟨q,e⟩
 |ded=>obtain⟨q,e⟩:=g0;exact⟨q,e⟩
 |flu=>obtain⟨q,e⟩:=g0;exact⟨q,e⟩
 |_=>cases h
theorem zf8 {p:Pg} {w:Str} (n:Nat) (g:GoodC p) (h:MdOk p w 0) (m:Mem):∃q,z8l [.d (pgD p),.d (.str w),.d (.int (n:Int))] m = .ok (.d (pgD q)) m∧size q≤size p+1:=by
 have e1:=z75 .in_ n p m
 have e2:=zefb p m
 have em:=zap p
 rcases h.2 with rfl |rfl |⟨rfl,q,hq,hd⟩
 ·refine⟨.node .ded [p],?_,by rw[zyu];omega⟩
  have n1:¬(Str.ofString "dedent" = Str.ofString "drop"):=by decide
  have n2:¬(Str.ofString "dedent" = Str.ofString "in"):=by decide
  generalize pgD (.node .ded [p])=Q at *
  generalize pgD p=P at *
  generalize (n:Int)=N at *
  simp[z8l,zmo,zqj,n1,n2,e2]
 ·refine⟨.node (.sh .in_ n) [p],?_,by rw[zyu];omega⟩
  have n1:¬(Str.ofString "in" = Str.ofString "drop"):=by decide
  have e1:makeW "Program" zgb [.d (.str "in"),.d (.tup [pgD p]),.d (.int (n:Int))] m = .ok (.d (pgD (.node (.sh .in_ n) [p]))) m:=e1
  generalize pgD (.node (.sh .in_ n) [p])=Q at *
  generalize pgD p=P at *
  generalize (n:Int)=N at *
  simp[z8l,zmo,zqj,n1,e1]
 ·rw[zwe] at hq
  have hq:q=p:=(Option.some.inj hq).symm
  subst hq
  obtain⟨c,hc⟩:=z1hb g hd
  refine⟨c,?_,by have:=zhv (p:=q) (q:=c) (by rw[hc];simp);omega⟩
  rw[hc,List.map_singleton] at em
  have ix:∀m:Mem,ixW [] (.d (.tup [pgD c])) (.d (.int 0)) m = .ok (.d (pgD c)) m:=fun m=>rfl
  generalize pgD c=C at *
  generalize pgD q=P at *
  generalize (n:Int)=N at *
  simp[z8l,zmo,zqj,em,ix]
theorem ztfb {p:Pg} (hp:plain p.lab=true) (ms:List Pg) (hz:ms.length≤1000) (m:Mem):z4h [.d (pgD p),.d (.tup (ms.map pgD))] m = .ok (.d (pgD (.node p.lab ms))) m:=by
 have e1:=zvn hp ms hz z9d [.d (.str p.lab.w),.d (.tup (ms.map pgD)),.d (nmD p.lab),.d (amD p.lab),.d (tgD p.lab),.d .non] m fun M=>by
  unfold z9d
  rw[x_kwF]
  rfl
 have f1:=zpq p
 have f2:=zv4 p
 have f3:=z4ab p
 have f4:=zlkb p
 have f5:=z3db p
 rw[(zqfb hp).1] at f5
 generalize pgD (.node p.lab ms)=Q at *
 generalize ms.map pgD=MM at *
 generalize pgD p=P at *
 generalize p.lab.w=W0 at *
 generalize nmD p.lab=N0 at *
 generalize amD p.lab=A0 at *
 generalize tgD p.lab=T0 at *
 simp[z4h,zal,zli,f1,f2,f3,f4,f5,e1]
theorem zclb (m:Mem) (a b:List D) (h:a.length+b.length≤sizeLine):augTW (.c m.length) (.d (.tup b)) (m++[.lst a]) = .ok (.c m.length) (m++[.lst (a++b)]):=by
 have e1:(Loc.c m.length).get (m++[.lst a])=some (a.map HW.d):=by
  show (match (m++[Cell.lst a])[m.length]? with |some (.lst ds)=>some (ds.map HW.d) |_=>none)=_
  rw[zyr]
 have e2:(Loc.c m.length).put (a.map HW.d++b.map HW.d) (m++[.lst a])=some (m++[.lst (a++b)]):=by
  show (match datH (a.map HW.d++b.map HW.d) with |some ds=>some ((m++[Cell.lst a]).set m.length (.lst ds)) |none=>none)=_
  rw[←List.map_append,z16]
  simp only[]
  rw[zzz]
 have hy:(W.d (.tup b)).rd (m++[.lst a])=some (.tup b):=rfl
 unfold augTW W.loc
 simp only[e1,hy]
 rw[if_pos (by rw[List.length_map];exact h),e2]
theorem zdlb (m:Mem) (a b:List D) (h:a.length+b.length≤sizeLine):augTW (.c m.length) (.d (.lst b)) (m++[.lst a]) = .ok (.c m.length) (m++[.lst (a++b)]):=by
 have e1:(Loc.c m.length).get (m++[.lst a])=some (a.map HW.d):=by
  show (match (m++[Cell.lst a])[m.length]? with |some (.lst ds)=>some (ds.map HW.d) |_=>none)=_
  rw[zyr]
 have hy:(W.d (.lst b)).rd (m++[.lst a])=some (.lst b):=rfl
 rw[←augm m a b h]
 unfold augTW
 simp only[W.loc,e1,hy]
/-- what is added of a member -/
def takeM (l:Lab) (q:Pg):List Pg:=if isSum l=true then sms q else [q]
theorem z0fb (l:Lab) (q:Pg):sizes (takeM l q)≤size q:=by
 unfold takeM
 split
 ·have:=zmr q;omega
 ·rw[zfc,zqd];omega
theorem zi0 (ms:List Pg):(ms.flatMap parts).length=sizes ms:=by rw[←zfq,z2s]
/-- a turn over the members -/
theorem zveb {Fb:DF} {p:Pg} (w:Str) (k n:Nat) (m:Mem) (acc:List Pg) (q q':Pg) (a:Nat) (M x8:Option W) (hl:acc.length+size q'≤100)
  (hb:if a≤k∧k<a+size q then (Fb [.d (pgD q),.d (mdD w (k-a) n)] (m++[.lst (acc.map pgD)]) = .ok (.d (pgD q')) (m++[.lst (acc.map pgD)])) else q'=q) :
  ∃y7 y8,z6l Fb [some (.d (pgD p)),M,some (.d (.str w)),some (.d (.int (k:Int))),some (.d (.int (n:Int))),some (.c m.length),some (.d (.int (a:Int))),some (.d (pgD q)),x8] (m++[.lst (acc.map pgD)]) = .nx [some (.d (pgD p)),M,some (.d (.str w)),some (.d (.int (k:Int))),some (.d (.int (n:Int))),some (.c m.length),some (.d (.int ((a+size q:Nat):Int))),y7,y8] (m++[.lst ((acc++takeM p.lab q').map pgD)]):=by
 refine⟨some (.d (pgD q')),some (.d (.int (size q:Int))),?_⟩
 have fz:=zu4 q
 have fw:=zpq p
 have em:=ztk q' (m++[.lst (acc.map pgD)])
 have s1:1≤sizeLine:=by decide
 have ec:(acc++takeM p.lab q').map pgD=acc.map pgD++(takeM p.lab q').map pgD:=by simp
 have z1:=zfj (sms q')
 have z2:=zmr q'
 have at_:=zclb m (acc.map pgD) ((sms q').map pgD) (by simp only[List.length_map];unfold sizeLine;omega)
 have al:=zdlb m (acc.map pgD) [pgD q'] (by simp only[List.length_map,List.length_singleton];unfold sizeLine;omega)
 have ea:addD (.int (a:Int)) (.int (size q:Int))=some (.int ((a+size q:Nat):Int)):=rfl
 have au:(a:Int)+(size q:Int)=((a+size q:Nat):Int):=by omega
 -- the sum
 have hs:∀D0:DL.Env,D0[0]?=some (some (.d (pgD p)))→D0[7]?=some (some (.d (pgD q')))→(eIf (bT (eOp eqD (eFld ["Program"] "word" (eVar 0)) (eC (.str "sum")))) (eFn zsd (aCons (eVar 7) aNil)) (eLst (aCons (eVar 7) aNil))) D0 (m++[.lst (acc.map pgD)]) = .ok (.d (if isSum p.lab=true then .tup ((sms q').map pgD) else .lst [pgD q'])) (m++[.lst (acc.map pgD)]):=fun D0 d0 d7=>by
  have ew:=w_sum p.lab
  by_cases h:isSum p.lab=true
  ·rw[h] at ew
   have ew:=of_decide_eq_true ew
   rw[if_pos h]
   rw[ew] at fw
   clear ec at_ al ea au hb
   generalize (sms q').map pgD=SM at *
   generalize pgD q'=Q' at *
   generalize pgD p=P at *
   simp[d0,d7,fw,em]
  ·have h:isSum p.lab=false:=by simpa using h
   rw[h] at ew
   have ew:¬(p.lab.w=Str.ofString "sum"):=of_decide_eq_false ew
   rw[h,if_neg Bool.false_ne_true]
   clear ec at_ al ea au hb
   generalize pgD q'=Q' at *
   generalize pgD p=P at *
   generalize p.lab.w=W0 at *
   simp[d0,d7,fw,ew,s1]
 have hg:augTW (.c m.length) (.d (if isSum p.lab=true then .tup ((sms q').map pgD) else .lst [pgD q'])) (m++[.lst (acc.map pgD)]) = .ok (.c m.length) (m++[.lst ((acc++takeM p.lab q').map pgD)]):=by
  rw[ec]
  unfold takeM
  by_cases h:isSum p.lab=true
  ·rw[if_pos h,if_pos h];exact at_
  ·rw[if_neg h,if_neg h];exact al
 unfold z6l
 generalize hE:(eIf (bT (eOp eqD (eFld ["Program"] "word" (eVar 0)) (eC (.str "sum")))) (eFn zsd (aCons (eVar 7) aNil)) (eLst (aCons (eVar 7) aNil)))=EI at *
 by_cases hk:a≤k∧k<a+size q
 ·rw[if_pos hk] at hb
  have c1:(a:Int)≤(k:Int):=by omega
  have c2:(k:Int)<((a+size q:Nat):Int):=by omega
  have es:subD (.int (k:Int)) (.int (a:Int))=some (.int ((k-a:Nat):Int)):=by
   show some (D.int ((k:Int)-(a:Int)))=_
   congr 2
   omega
  have hs:=hs [some (.d (pgD p)),M,some (.d (.str w)),some (.d (.int (k:Int))),some (.d (.int (n:Int))),some (.c m.length),some (.d (.int (a:Int))),some (.d (pgD q')),some (.d (.int (size q:Int)))] rfl rfl
  have hb:Fb [.d (pgD q),.d (.tup [.str w,.int ((k-a:Nat):Int),.int (n:Int)])] (m++[.lst (acc.map pgD)])=_:=hb
  clear at_ al em ec z1 z2 hE fw
  generalize (if isSum p.lab=true then D.tup ((sms q').map pgD) else .lst [pgD q'])=MM at *
  generalize pgD q'=Q' at *
  generalize pgD q=Q at *
  generalize pgD p=P at *
  generalize (acc++takeM p.lab q').map pgD=A2 at *
  generalize acc.map pgD=A1 at *
  generalize ((k-a:Nat):Int)=KA at *
  generalize ((a+size q:Nat):Int)=AS at *
  generalize (size q:Int)=SQ at *
  generalize (a:Int)=AA at *
  generalize (k:Int)=KK at *
  generalize (n:Int)=NN at *
  simp[-add_int,-x_eIf,fz,leD,ltD,c1,ea,c2,es,hb,hs,hg,au]
 ·rw[if_neg hk] at hb
  subst hb
  have hs:=hs [some (.d (pgD p)),M,some (.d (.str w)),some (.d (.int (k:Int))),some (.d (.int (n:Int))),some (.c m.length),some (.d (.int (a:Int))),some (.d (pgD q')),some (.d (.int (size q':Int)))] rfl rfl
  clear at_ al em ec z1 z2 hE fw
  by_cases c1:a≤k
  ·have c2:¬(k:Int)<((a+size q':Nat):Int):=by omega
   have c1:(a:Int)≤(k:Int):=by omega
   generalize (if isSum p.lab=true then D.tup ((sms q').map pgD) else .lst [pgD q'])=MM at *
   generalize pgD q'=Q' at *
   generalize pgD p=P at *
   generalize (acc++takeM p.lab q').map pgD=A2 at *
   generalize acc.map pgD=A1 at *
   generalize ((a+size q':Nat):Int)=AS at *
   generalize (size q':Int)=SQ at *
   generalize (a:Int)=AA at *
   generalize (k:Int)=KK at *
   generalize (n:Int)=NN at *
   simp[-add_int,-x_eIf,fz,leD,ltD,c1,ea,c2,hs,hg,au]
  ·have c1:¬(a:Int)≤(k:Int):=by omega
   generalize (if isSum p.lab=true then D.tup ((sms q').map pgD) else .lst [pgD q'])=MM at *
   generalize pgD q'=Q' at *
   generalize pgD p=P at *
   generalize (acc++takeM p.lab q').map pgD=A2 at *
   generalize acc.map pgD=A1 at *
   generalize ((a+size q':Nat):Int)=AS at *
   generalize (size q':Int)=SQ at *
   generalize (a:Int)=AA at *
   generalize (k:Int)=KK at *
   generalize (n:Int)=NN at *
   simp[-add_int,-x_eIf,fz,leD,c1,ea,hs,hg,au]
theorem zx7 {p:Pg} (g:GoodC p) (h:p.ms≠[]):plain p.lab=true:=by
 have g0:=g.here
 obtain⟨l,ms⟩:=p
 cases l with
 |fixed ls=>exact absurd g0.1 h
 |_=>rfl
theorem z66:∀(N:Nat) (p:Pg),dep p≤N→size p≤16→GoodC p→∀(w:Str) (k n:Nat),MdOk p w k→∀m:Mem,∃q,zsf N [.d (pgD p),.d (mdD w k n)] m = .ok (.d (pgD q)) m∧size q≤size p+1
 | 0,p,h,_,_,_,_,_,_,_=>by have:=zct p;omega
 |N+1,p,h,hz,g,w,k,n,hm,m=>by
  by_cases hk:k=0
  ·subst hk
   obtain⟨q,e,z⟩:=zf8 n g hm m
   refine⟨q,?_,z⟩
   unfold mdD
   generalize pgD q=Q at *
   generalize pgD p=P at *
   generalize (n:Int)=NN at *
   simp[zsf,zfp,zyd,e]
  ·have pl:=PG.z9c p
   have hsz:size p=1+sizes p.ms:=by rw[←pl,zwe,List.length_cons,zi0];omega
   have hne:p.ms≠[]:=fun z=>by rw[z,zqd] at hsz;have:=hm.1;omega
   have hpl:=zx7 g hne
   obtain⟨dl2,m2,el,done,rest,acc,x7,x8,hd,hp,rfl,rfl,hacc⟩:=zyh (g:=gNm 7) (b:=z6l (zsf N)) (fun ds dl m'=>∃(done rest acc:List Pg) (x7 x8:Option W),ds=rest.map pgD∧p.ms=done++rest∧dl=[some (.d (pgD p)),some (.d (mdD w k n)),some (.d (.str w)),some (.d (.int (k:Int))),some (.d (.int (n:Int))),some (.c m.length),some (.d (.int ((1+sizes done:Nat):Int))),x7,x8]∧m'=m++[.lst (acc.map pgD)]∧sizes acc≤sizes done+(if k<1+sizes done then 1 else 0)) (fun d ds dl m' hI=>by
    obtain⟨done,rest,acc,x7,x8,hd,hp,rfl,rfl,hacc⟩:=hI
    cases rest with
    |nil=>cases hd
    |cons q rest=>
     rw[List.map_cons] at hd
     injection hd with q1 q2
     subst q1
     have hq:q∈p.ms:=by rw[hp];simp
     have hsum:sizes p.ms=sizes done+(size q+sizes rest):=by rw[hp,zne,zfc]
     obtain⟨q',hb,hz'⟩:∃q',(if 1+sizes done≤k∧k<1+sizes done+size q then (zsf N [.d (pgD q),.d (mdD w (k-(1+sizes done)) n)] (m++[.lst (acc.map pgD)]) = .ok (.d (pgD q')) (m++[.lst (acc.map pgD)])) else q'=q)∧size q'≤size q+(if 1+sizes done≤k∧k<1+sizes done+size q then 1 else 0):=by
      by_cases hin:1+sizes done≤k∧k<1+sizes done+size q
      ·obtain⟨q',e,z⟩:=z66 N q (by have:=zz6 hq;omega) (by omega) (g.sub hq) w (k-(1+sizes done)) n ⟨by omega,by
        rcases hm.2 with h |h |⟨h,x,hx,hx2⟩
        ·exact .inl h
        ·exact .inr (.inl h)
        ·refine .inr (.inr ⟨h,x,?_,hx2⟩)
         rw[zwe,hp,List.flatMap_append,List.flatMap_cons] at hx
         have hl:(p::(done.flatMap parts++(parts q++rest.flatMap parts)))[k]?=(parts q)[k-(1+sizes done)]?:=by
          obtain⟨k',rfl⟩:∃k',k=k'+1:=⟨k-1,by omega⟩
          rw[List.getElem?_cons_succ,List.getElem?_append_right (by rw[zi0];omega),zi0,List.getElem?_append_left (by rw[PG.z9c];omega)]
          congr 1
          omega
         rw[←hl]
         exact hx⟩ (m++[.lst (acc.map pgD)])
       exact⟨q',by rw[if_pos hin];exact e,by rw[if_pos hin];exact z⟩
      ·exact⟨q,by rw[if_neg hin],by rw[if_neg hin];omega⟩
     have z0:=zfj acc
     have z1:sizes acc≤sizes done+1:=by split at hacc <;> omega
     have z2:size q'≤size q+1:=by split at hz' <;> omega
     obtain⟨y7,y8,e⟩:=zveb (Fb:=zsf N) (p:=p) w k n m acc q q' (1+sizes done) (some (.d (mdD w k n))) x8 (by omega) hb
     have eN:1+sizes done+size q=1+sizes (done++[q]):=by rw[zne,zfc,zqd];omega
     rw[eN] at e
     refine⟨_,rfl,_,_,e,done++[q],rest,acc++takeM p.lab q',y7,y8,q2,by rw[hp];simp,rfl,rfl,?_⟩
     have z3:=z0fb p.lab q'
     rw[zne,zne,zfc,zqd]
     split at hacc <;> split at hz' <;> split <;> omega) (p.ms.map pgD) [some (.d (pgD p)),some (.d (mdD w k n)),some (.d (.str w)),some (.d (.int (k:Int))),some (.d (.int (n:Int))),some (.c m.length),some (.d (.int ((1:Nat):Int))),none,none] (m++[.lst []]) ⟨[],p.ms,[],none,none,rfl,rfl,rfl,rfl,by rw[zqd];omega⟩
   have hr:rest=[]:=by
    cases rest with
    |nil=>rfl
    |cons=>cases hd
   subst hr
   rw[List.append_nil] at hp
   rw[←hp] at hacc
   have z1:sizes acc≤sizes p.ms+1:=by split at hacc <;> omega
   have z0:=zfj acc
   refine⟨.node p.lab acc,?_,by
    have:size (.node p.lab acc)=1+sizes acc:=by conv=>lhs;unfold size
    omega⟩
   have ew:=ztfb hpl acc (by omega) (m++[.lst (acc.map pgD)])
   have fm:=zap p
   have hk':¬(k:Int)=0:=by omega
   have rd:W.rd (.c m.length) (m++[.lst (acc.map pgD)])=some (.lst (acc.map pgD)):=by simp[W.rd,Cell.fz]
   have el:loopD (gNm 7) (z6l (zsf N)) (p.ms.map pgD) [some (.d (pgD p)),some (.d (mdD w k n)),some (.d (.str w)),some (.d (.int (k:Int))),some (.d (.int (n:Int))),some (.c m.length),some (.d (.int 1)),none,none] (m++[.lst []])=_:=el
   unfold mdD at el ⊢
   generalize (1+sizes done:Nat)=SD at *
   generalize pgD (.node p.lab acc)=Q at *
   generalize acc.map pgD=AC at *
   generalize p.ms.map pgD=MS at *
   generalize pgD p=P at *
   generalize (k:Int)=KK at *
   generalize (n:Int)=NN at *
   simp[zsf,zfp,zyd,hk',fm,el,rd,z5m,ew]
theorem zr7 {p:Pg} (hz:size p≤16) (g:GoodC p) {x:Mn} (hx:x∈mns p) (m:Mem):∃q,z8i [.d (pgD p),.d (mnD x)] m = .ok (.d (pgD q)) m:=by
 have e1:=zg4 hz hx m
 obtain⟨a,b⟩:=z63 hx
 obtain⟨q,e2,_⟩:=z66 24 p (by have:=zhm p;omega) hz g x.1 x.2.1 x.2.2 ⟨a,by
  rcases b with ⟨h,_⟩ |⟨h,_⟩ |⟨h,_,h2⟩
  ·exact .inl h
  ·exact .inr (.inl h)
  ·exact .inr (.inr ⟨h,h2⟩)⟩ m
 refine⟨q,?_⟩
 have e2:z2m [.d (pgD p),.d (mnD x)] m = .ok (.d (pgD q)) m:=e2
 generalize pgD q=Q at *
 generalize pgD p=P at *
 generalize mnD x=X at *
 simp[z8i,z4u,zep,e1,e2]
end LK
namespace LK
open PySem PySem.Spec L2 DL TM SX NT PG
theorem zjdb {k:Nat} {ds:List D} (h:Lay k (.lst ds)) (hk:k≤64):neD (.lst ds) (.lst [])=some (.bl (!decide (ds=[]))):=by
 have ho:=h.ok hk
 obtain⟨p,h1,_⟩:=h
 unfold okD at ho
 rw[h1] at ho
 show neP (.lst ds) (.lst [])=_
 unfold neP
 rw[h1]
 show chk (SeqAt.shaped p=true∧SeqAt.shaped (.list [])=true) _=_
 rw[z7b ⟨ho,rfl⟩]
 cases ds with
 |nil=>cases h1;rfl
 |cons d ds=>
  simp only[toP,toPs] at h1
  split at h1
  ·rename_i ps hps
   cases h1
   split at hps
   ·split at hps
    ·cases hps;rfl
    ·cases hps
   ·cases hps
  ·cases h1
theorem law_true:∀ns:List Int,ns.length≤63→∃m',F_law [.d (.fz (ns.map DL.D.int))] [.hp []] = .ok (.d (.bl true)) m':=fun ns hn=>by
 have c0:CSt 0 200 [stC (ns.map D.int) 0 0 0]:=⟨0,0,0,ns,rfl,by decide,by decide,by decide,by decide,by decide,by omega⟩
 obtain⟨B,N,fl,nm,hs1,e1,b1,⟨hb1,hb2,hb3⟩,nd,lt,⟨hw,hfl⟩,c1,_⟩:=zcib (n:=195) [] c0
 obtain⟨t,hs2,e2,⟨t0,t1⟩,c2,k2⟩:=z1g (n:=194) (q:=15) [] c1 (by decide) (by decide)
 obtain⟨T,hT⟩:∃T:Nat,1+t=(T:Int):=⟨(1+t).toNat,by omega⟩
 have b2:=b1.keep k2 (by simpa using hb1) (by simpa using hb2)
 obtain⟨p,hs3,e3,po,pg,c3⟩:=zufb (n:=29) (T:=T) [] ⟨fun z=>hb1 z.symm,fun z=>hb2 z.symm,hb3⟩ (by omega) nd lt hw hfl (c2.mono (by decide)) b2
 have e4:=zseb po pg (.hp hs3::[])
 obtain⟨ms,pm,ml,e5⟩:=za0 po.sz (.hp hs3::[])
 have hl:Lay 2 (.lst (ms.map mnD)):=Lay.lst fun d hd=>by
  obtain⟨x,hx,rfl⟩:=List.mem_map.mp hd
  exact znab x (z79 (pm.subset hx))
 have ne:=zjdb hl (by decide)
 have ea:addD (.int 1) (.int t)=some (.int (T:Int)):=by rw[←hT];rfl
 have el:listD [.fz (ns.map D.int)]=some (.lst (ns.map D.int)):=by
  unfold listD
  simp only[seqD]
 have mk:zyv [.d (.int 0),.d (.int 0),.d (.int 0),.d (.lst (ns.map D.int))] [.hp []] = .ok (.h 0) [.hp [stC (ns.map D.int) 0 0 0]]:=rfl
 -- the mend that is asked ahead
 obtain⟨hs4,c4,em⟩:∃hs4,CSt 0 28 hs4∧∀D0:DL.Env,D0[1]?=some (some (.h 0))→D0[4]?=some (some (.d (pgD p)))→D0[5]?=some (some (.d (.lst (ms.map mnD))))→(sIf (bT (eOp neD (eVar 5) (eLst (aNil)))) (sDrop (eFn z8i (aCons (eVar 4) (aCons (eIx [("Block",zb)] (eVar 5) (eFn zp (aCons (eVar 1) (aCons (eLen [("Block",zi)] (aCons (eVar 5) aNil)) aNil)))) aNil)))) sNext) D0 (.hp hs3::[]) = .nx D0 (.hp hs4::[]):=by
  by_cases h0:ms=[]
  ·refine⟨hs3,c3.mono (by decide),fun D0 d1 d4 d5=>?_⟩
   subst h0
   have ne:neD (.lst []) (.lst [])=some (.bl false):=ne
   have d5:D0[5]?=some (some (.d (.lst []))):=d5
   simp[d5,ne]
  ·have hml:0<ms.length:=List.length_pos_iff.mpr h0
   obtain⟨v,hs4,e6,⟨v0,v1⟩,c4,_⟩:=z1g (n:=28) (q:=(ms.length:Int)) [] c3 (by omega) (by omega)
   obtain⟨k,rfl⟩:∃k:Nat,v=(k:Int):=⟨v.toNat,by omega⟩
   have hk:k<ms.length:=by omega
   obtain⟨q,e7⟩:=zr7 po.sz pg (pm.subset (List.getElem_mem hk)) (.hp hs4::[])
   refine⟨hs4,c4,fun D0 d1 d4 d5=>?_⟩
   have ln:∀m:Mem,lnW [("Block",zi)] (.d (.lst (ms.map mnD))) m = .ok (.d (.int (ms.length:Int))) m:=fun m=>by rw[ziq,List.length_map]
   have ix:∀m:Mem,ixW gB (.d (.lst (ms.map mnD))) (.d (.int (k:Int))) m = .ok (.d (mnD ms[k])) m:=fun m=>by
    have e2:ixD (.lst (ms.map mnD)) (.int (k:Int))=some (mnD ms[k]):=by
     show atI (ms.map mnD) (k:Int)=_
     rw[DL.atI_nat,List.getElem?_map,List.getElem?_eq_getElem hk]
     rfl
    have:ixW gB (.d (.lst (ms.map mnD))) (.d (.int (k:Int))) m=ofO (ixD (.lst (ms.map mnD)) (.int (k:Int))) m:=rfl
    rw[this,e2]
    rfl
   have hne:¬(ms.map mnD=[]):=fun z=>h0 (List.map_eq_nil_iff.mp z)
   rw[decide_eq_false hne] at ne
   generalize pgD q=Q at *
   generalize pgD p=P at *
   generalize mnD ms[k]=X at *
   generalize ms.map mnD=MS at *
   generalize (ms.length:Int)=L at *
   simp[d1,d4,d5,ne,ln,e6,ix,e7]
 obtain⟨k,f,v,hs5,ds,e8,hds,⟨hk,hf,hf2,hv0,hv1⟩,c5⟩:=zojb (n:=25) [] po.sz pg c4
 have ho:∀d∈ds,OddT p d:=by
  rw[hds]
  exact zgib po.sz hk hf hf2 hv0 hv1
 obtain⟨dl2,m2,eL,x6,rfl,rfl,_⟩:=zyh (g:=gNm 6) (b:=zs5) (fun ds dl m=>∃x6,dl=[some (.d (.fz (ns.map D.int))),some (.h 0),some (.d z8c),some (.d (tcD p)),some (.d (pgD p)),some (.d (.lst (ms.map mnD))),x6]∧m = .hp hs5::[]∧∀d∈ds,OddT p d) (fun d ds dl m hI=>by
  obtain⟨x6,rfl,rfl,h⟩:=hI
  have er:=zo7 po.sz (h d List.mem_cons_self) (.hp hs5::[])
  refine⟨_,rfl,[some (.d (.fz (ns.map D.int))),some (.h 0),some (.d z8c),some (.d (tcD p)),some (.d (pgD p)),some (.d (.lst (ms.map mnD))),some (.d d)],_,?_,_,rfl,rfl,fun y hy=>h y (List.mem_cons_of_mem _ hy)⟩
  generalize z8c=WS at *
  generalize tcD p=SP at *
  generalize pgD p=P at *
  generalize ms.map mnD=MS at *
  generalize ns.map D.int=NS at *
  simp[zs5,er]) ds [some (.d (.fz (ns.map D.int))),some (.h 0),some (.d z8c),some (.d (tcD p)),some (.d (pgD p)),some (.d (.lst (ms.map mnD))),none] (.hp hs5::[]) ⟨none,rfl,rfl,ho⟩
 refine⟨.hp hs5::[],?_⟩
 have em:=em [some (.d (.fz (ns.map D.int))),some (.h 0),some (.d z8c),some (.d (tcD p)),some (.d (pgD p)),some (.d (.lst (ms.map mnD))),none] rfl rfl rfl
 have ew:D.tup [.str "in",.str "out",.str "first",.str "rest",.str "dedent",.str "flush",.str "tag",.str "raw",.str "in",.str "dedent"]=z8c:=rfl
 unfold F_law R_law den_law
 generalize hE:(sIf (bT (eOp neD (eVar 5) (eLst (aNil)))) (sDrop (eFn z8i (aCons (eVar 4) (aCons (eIx [("Block",zb)] (eVar 5) (eFn zp (aCons (eVar 1) (aCons (eLen [("Block",zi)] (aCons (eVar 5) aNil)) aNil)))) aNil)))) sNext)=EM at *
 clear hE c0 b1 b2 c1 c2 c3 c4 c5 k2 hds ho
 generalize stC (ns.map D.int) 0 0 0=ST at *
 generalize z8c=WS at *
 generalize tcD p=SP at *
 generalize pgD p=P at *
 generalize ms.map mnD=MS at *
 generalize ns.map D.int=NS at *
 generalize (T:Int)=TT at *
 simp[-add_int,el,mk,ew,e1,e2,ea,e3,e4,e5,em,e8,eL]
end LK
namespace LK
open PySem PySem.Spec L2 DL
open PyProof.Rows hiding St
theorem tx_of {K:Fg} {h:Heap} {mg:Str→Option Value} (X:K.In h) (G:h.Ns mainGlobals mg) (c:∀p∈pts,SaysM p.1 p.2 K):Tx K mg:=by
 have c0:=c (cks0,fns0) List.mem_cons_self
 have c1:=c (cks1,fns1) (List.mem_cons_of_mem _ List.mem_cons_self)
 exact⟨zab X G (c0.fact 0),
 zab X G (c1.fact 0),
 zab X G (c0.fact 1),
 zab X G (c1.fact 1),
 zab X G (c0.fact 2),
 zab X G (c1.fact 2),
 zab X G (c0.fact 3),
 zab X G (c1.fact 3),
 zab X G (c0.fact 4),
 zab X G (c1.fact 4),
 zab X G (c0.fact 5),
 zab X G (c1.fact 5),
 zab X G (c0.fact 6),
 zab X G (c1.fact 6),
 zab X G (c0.fact 7),
 zab X G (c1.fact 7),
 zab X G (c0.fact 8),
 zab X G (c1.fact 8),
 zab X G (c0.fact 9),
 zab X G (c1.fact 9),
 zab X G (c0.fact 10),
 zab X G (c1.fact 10),
 zab X G (c0.fact 11),
 zab X G (c1.fact 11),
 zab X G (c0.fact 12),
 zab X G (c1.fact 12),
 zab X G (c0.fact 13),
 zab X G (c1.fact 13),
 zab X G (c0.fact 14),
 zab X G (c1.fact 14),
 zab X G (c0.fact 15),
 zab X G (c1.fact 15),
 zab X G (c0.fact 16),
 zab X G (c1.fact 16),
 zab X G (c0.fact 17),
 zab X G (c1.fact 17),
 zab X G (c0.fact 18),
 zab X G (c1.fact 18),
 zab X G (c0.fact 19),
 zab X G (c1.fact 19),
 zab X G (c0.fact 20),
 zab X G (c1.fact 20),
 zab X G (c0.fact 21),
 zab X G (c1.fact 21),
 zab X G (c0.fact 22),
 zab X G (c1.fact 22),
 zab X G (c0.fact 23),
 zab X G (c1.fact 23),
 zab X G (c0.fact 24),
 zab X G (c1.fact 24),
 zab X G (c0.fact 25),
 zab X G (c1.fact 25),
 zab X G (c0.fact 26),
 zab X G (c1.fact 26),
 zab X G (c0.fact 27),
 zab X G (c1.fact 27),
 zab X G (c0.fact 28),
 zab X G (c1.fact 28),
 zab X G (c0.fact 29),
 zab X G (c1.fact 29),
 z5v X G (c0.fact 30),
 z5v X G (c1.fact 30),
 z5v X G (c0.fact 31),
 z5v X G (c1.fact 31),
 z5v X G (c0.fact 32),
 z5v X G (c1.fact 32),
 z5v X G (c0.fact 33),
 zv8 (c1.fact 33),
 zv8 (c0.fact 34),
 free_of X G (c1.fact 34),
 free_of X G (c0.fact 35),
 free_of X G (c1.fact 35),
 free_of X G (c0.fact 36),
 free_of X G (c1.fact 36),
 free_of X G (c0.fact 37),
 free_of X G (c1.fact 37),
 free_of X G (c0.fact 38),
 free_of X G (c1.fact 38),
 free_of X G (c0.fact 39),
 free_of X G (c1.fact 39),
 free_of X G (c0.fact 40),
 free_of X G (c1.fact 40),
 free_of X G (c0.fact 41),
 free_of X G (c1.fact 41),
 free_of X G (c0.fact 42),
 free_of X G (c1.fact 42),
 c0.fact 43,
 c1.fact 43,
 c0.fact 44,
 c1.fact 44,
 c0.fact 45,
 c1.fact 45,
 c0.fact 46,
 c1.fact 46,
 c0.fact 47,
 c1.fact 47,
 c0.fact 48,
 c1.fact 48,
 c0.fact 49,
 c1.fact 49,
 c0.fact 50,
 c1.fact 50,
 c0.fact 51,
 c1.fact 51,
 c0.fact 52,
 c1.fact 52,
 c0.fact 53,
 c1.fact 53,
 c0.fact 54,
 c1.fact 54,
 c0.fact 55,
 c1.fact 55,
 c0.fact 56,
 c1.fact 56,
 c0.fact 57,
 c1.fact 57,
 c0.fact 58,
 c1.fact 58,
 c0.fact 59,
 c1.fact 59,
 c0.fact 60,
 c1.fact 60,
 c0.fact 61,
 c1.fact 61,
 c0.fact 62,
 c1.fact 62,
 c0.fact 63,
 c1.fact 63,
 c0.fact 64,
 c1.fact 64,
 c0.fact 65,
 zfn (c1.fact 65),
 zfn (c0.fact 66),
 zfgb (c1.fact 66),
 zdfb (c0.fact 67),
 zdfb (c1.fact 67),
 bi_of (c0.fact 68),
 bi_of (c1.fact 68),
 c0.fact 69,
 c1.fact 69,
 c0.fact 70,
 c1.fact 70,
 c0.fact 71,
 c1.fact 71,
 z5kb (c0.fact 72),
 cm_of (c1.fact 72),
 z6t (c0.fact 73),
 z6t (c1.fact 73),
 z6t (c0.fact 74),
 z6t (c1.fact 74),
 z6t (c0.fact 75),
 z6t (c1.fact 75),
 z6t (c0.fact 76),
 z6t (c1.fact 76),
 zgbb (c0.fact 77),
 zgbb (c1.fact 77),
 znkb (c0.fact 78),
 zpjb (c1.fact 78),
 c0.fact 79,
 c1.fact 79,
 c0.fact 80,
 c1.fact 80,
 c0.fact 81,
 c1.fact 81,
 c0.fact 82,
 c1.fact 82,
 c0.fact 83,
 zv9 (c1.fact 83),
 zv9 (c0.fact 84),
 ve_of (c1.fact 84),
 (fun C hC=>(List.mem_cons.mp hC).elim (fun e=>e ▸ ⟨zfn (c0.fact 85),zwk (c1.fact 85)⟩) (fun hC=>(fun _ z=>nomatch z) C hC)),
 (fun C hC=>(List.mem_cons.mp hC).elim (fun e=>e ▸ ⟨zfn (c0.fact 86),zwk (c1.fact 86)⟩) (fun hC=>(fun _ z=>nomatch z) C hC)),
 (fun C hC=>(List.mem_cons.mp hC).elim (fun e=>e ▸ ⟨zfn (c0.fact 87),zwk (c1.fact 87)⟩) (fun hC=>(fun _ z=>nomatch z) C hC)),
 (fun C hC=>(List.mem_cons.mp hC).elim (fun e=>e ▸ ⟨zfn (c0.fact 88),zwk (c1.fact 88)⟩) (fun hC=>(fun _ z=>nomatch z) C hC)),
 (fun C hC=>(List.mem_cons.mp hC).elim (fun e=>e ▸ ⟨zfn (c0.fact 89),zwk (c1.fact 89)⟩) (fun hC=>(fun _ z=>nomatch z) C hC)),
 (fun C hC=>(List.mem_cons.mp hC).elim (fun e=>e ▸ ⟨zfn (c0.fact 90),zwk (c1.fact 90)⟩) (fun hC=>(fun _ z=>nomatch z) C hC)),
 (fun C hC=>(List.mem_cons.mp hC).elim (fun e=>e ▸ ⟨zfn (c0.fact 91),zwk (c1.fact 91)⟩) (fun hC=>(fun _ z=>nomatch z) C hC)),
 (fun C hC=>(List.mem_cons.mp hC).elim (fun e=>e ▸ ⟨zfn (c0.fact 92),zwk (c1.fact 92)⟩) (fun hC=>(fun _ z=>nomatch z) C hC)),
 (fun C hC=>(List.mem_cons.mp hC).elim (fun e=>e ▸ ⟨zfn (c0.fact 93),zwk (c1.fact 93)⟩) (fun hC=>(fun _ z=>nomatch z) C hC)),
 (fun C hC=>(List.mem_cons.mp hC).elim (fun e=>e ▸ ⟨zfn (c0.fact 94),zwk (c1.fact 94)⟩) (fun hC=>(fun _ z=>nomatch z) C hC)),
 zpib (c0.fact 95),
 tab_of (c1.fact 95),
 tab_of (c0.fact 96),
 tab_of (c1.fact 96),
 tab_of (c0.fact 97),
 tab_of (c1.fact 97),
 tab_of (c0.fact 98),
 tab_of (c1.fact 98),
 c0.def_ 0,
 c1.def_ 0,
 c0.def_ 1,
 c1.def_ 1,
 c0.def_ 2,
 c1.def_ 2,
 c0.def_ 3,
 c1.def_ 3,
 c0.def_ 4,
 c1.def_ 4,
 c0.def_ 5,
 c1.def_ 5,
 c0.def_ 6,
 c1.def_ 6,
 c0.def_ 7,
 c1.def_ 7,
 c0.def_ 8,
 c1.def_ 8,
 c0.def_ 9,
 c1.def_ 9,
 c0.def_ 10,
 c1.def_ 10,
 c0.def_ 11,
 c1.def_ 11,
 c0.def_ 12,
 c1.def_ 12,
 c0.def_ 13,
 c1.def_ 13,
 c0.def_ 14,
 c1.def_ 14,
 c0.def_ 15,
 c1.def_ 15,
 c0.def_ 16,
 c1.def_ 16,
 c0.def_ 17,
 c1.def_ 17,
 c0.def_ 18,
 c1.def_ 18,
 c0.def_ 19,
 c1.def_ 19,
 c0.def_ 20,
 c1.def_ 20,
 c0.def_ 21,
 c1.def_ 21,
 c0.def_ 22,
 c1.def_ 22,
 c0.def_ 23,
 c1.def_ 23,
 c0.def_ 24,
 c1.def_ 24,
 c0.def_ 25,
 c1.def_ 25,
 c0.def_ 26,
 c1.def_ 26,
 c0.def_ 27,
 c1.def_ 27,
 c0.def_ 28,
 c1.def_ 28,
 c0.def_ 29,
 c1.def_ 29,
 c0.def_ 30,
 c1.def_ 30,
 c0.def_ 31,
 c1.def_ 31,
 c0.def_ 32,
 c1.def_ 32,
 c0.def_ 33,
 c1.def_ 33,
 c0.def_ 34,
 c1.def_ 34,
 c0.def_ 35,
 c1.def_ 35,
 c0.def_ 36,
 c1.def_ 36,
 c0.def_ 37,
 c1.def_ 37⟩
end LK
theorem PySem.Challenge.cw_indentholes_k51_no_mends_holds : PySem.Challenge.rw_indentholes_k51_no_mends.Holds := by
 exact LK.early LK.law_true fun X G c=>⟨(LK.tx_of X G c).g_law,fun w base=>LK.fd_law (P:=(PySem.Challenge.rw_indentholes_k51_no_mends).prog) (w:=w) (LK.tx_of X G c)⟩
